import PyProof.Rows.All
import Wide.All
import OpenK.AllK
import Wide.FinOn
import HandS.ForMost
import HandS.HeadHook1
import HandS.Nested
import HandS.Deep
import HandS.More
import KE.SortData
import KE.DataCmp
import HandS.IsInst
import KE.KStateDown
import HandS.Defaults
import HandS.Head0
import HandS.Head1
import HandS.Head2
import HandS.HeadEnd
import HandS.HeadHook2
import HandS.DictComp
import HandS.Finally
import KE.KDictZip
import KE.KRevIter
import KE.KDictList
import HandS.ExcValue
import HandS.Exc
import KE.DataFind
import KE.DataMinMax
import HandS.Text
import HandS.FStr
import PyProof.StrBlock2
import HandS.DeepEq
import KE.KEqDict
import HandS.SetKeys
import HandS.Set
import HandS.TupSets
import HandS.SetFor
import PyProof.SeqIndex
import PyProof.Rows.SortStr
import PyProof.SetRoads
import HandS.Codes
import HandS.TupLe
import HandS.Iter
import KE.KMinKey
import HandS.SortKw
import KE.KLam
import HandS.HeadHook4
import HandS.HeadWalk
import HandS.Wide
import HandS.ExcInit
import HandS.ClsMeth
import HandS.WordsExc
import HandS.ExcField
import HandS.ListEq
import KE.GoesZip
import KE.GoesMore
import KE.KExcIs
import HandS.ExcOwn
import PyProof.ExcBaseAll.ValueError
import KE.SortKeyHeap
import HandS.DictTup
import KE.SortCalls
import HandS.Conv
import PyProof.NeKinds
import HandS.TryOnly
import HandS.ExcInitHot
import HandS.SuiteRaise
import HandS.RaiseFrom
import KE.IntTextLaws
import PySem.Challenge.RW_swapward_k05_rules_refused
set_option Elab.async false
set_option linter.all false
set_option maxRecDepth 100000
set_option maxHeartbeats 0
namespace Sw
open PySem PySem.Spec PyProof.Rows L2
abbrev Frg:=PySem.W.Frag
def clsAt:Stmt->Nat->Stmt
 | .ClassDef _ _ _ body _ _ _ _ _ _ _,i=>body.getD i (.Pass ⟨0,0,0,0⟩)
 |_,_=>.Pass ⟨0,0,0,0⟩
def DI (K:Frg) (tf:List (He.Defn×Str)):Bool:=decide ((tf.map fun p=>(He.cT K p.1).2).Nodup)
def LA (K:Frg) (C:Addr):Bool:=match K.lookup C with
 |some ⟨.type "type",_,.cls cd,sl⟩=>(match cd.mro,sl.toList with
  | .ref C'::bm,[_,_,_,_,some (.builtin n),_]=>C'==C&&n=="ValueError.__new__" && !cd.hasDel&&cd.hasDict&&PySem.HandSPX.refsVE bm
  |_,_=>false)
 |_=>false
def LB (K:Frg) (C:Addr):Bool:=match PySem.W.findCls K (.ref C) (.type "type") "__init__" with
 |some (.val (.builtin n))=>n=="ValueError.__init__"
 |_=>false
def xcB (K:Frg) (Cn fld S:Str):Bool:=
 LA K (He.ga K Cn)&&(He.eqO (PySem.W.findIn K (.ref (He.ga K Cn)) "__setattr__") (some (some (.builtin "object.__setattr__")))&&(decide (PySem.W.subIn K (.ref (He.ga K Cn)) (.type "BaseException")=some true)&&(decide (PySem.W.typeIn K (.ref (He.ga K Cn))=some (.type "type"))&&(PySem.W.keepIn K (.ref (He.ga K Cn))&&
  (He.eqO (PySem.W.findIn K (.ref (He.ga K Cn)) fld) (some none)&&(xfB K (He.ga K Cn)&&(decide (PySem.W.exmOne K (.ref (He.ga K Cn)) (.ref (He.ga K Cn))=some true)&&
   (He.eqO (PySem.W.findIn K (.ref (He.ga K Cn)) "__init__") (some (some (.ref (He.ma K (He.ga K Cn) "__init__"))))&&(decide (PySem.W.typeIn K (.ref (He.ma K (He.ga K Cn) "__init__"))=some (.type "function"))&&
    (PySem.W.readsIn K (He.ga K S) (.type "type")&&(He.eqO (PySem.W.specialIn K (.ref (He.ga K S)) "__getattribute__") (some (some (.builtin "type.__getattribute__")))&&LB K (He.ga K S))))))))))))
def asS (g:Addr->Option Obj) (n:Nat):List Addr:=He.asD g n++[cStatics]
def F3 (n:Nat) (fa:List He.Fa) (fn:List He.DefD) (tf:List He.Defn) (ex:Frg->Bool) (g:Addr->Option Obj):He.AlX:=(He.obsT fa fn [] (He.frT g (asS g n)),ex (He.frT g (asS g n))&&He.tabsB g tf (He.frT g (asS g n)))
theorem EX {l:List Addr} {fa:List He.Fa} {fn:List He.DefD} {tf:List He.Defn} {ex:Frg->Bool} {w:World} {h:Heap} (e1:He.obsT fa fn [] (He.frT h.get? l)=He.valT fn [] w) (e2:(ex (He.frT h.get? l)&&He.tabsB h.get? tf (He.frT h.get? l))=true):He.SaysX fa fn [] tf ex w h (He.frT h.get? l):=by
 obtain⟨h1,h2⟩:=He.ba e2
 have key: ∀p∈tf,PySem.W.codeHdIn (He.frT h.get? l) (He.cT (He.frT h.get? l) p).1 (He.cT (He.frT h.get? l) p).2=true/\ ∃o,h.get? (He.cT (He.frT h.get? l) p).2=some o/\He.emptyTab o=true:=fun p hp=>by
  obtain⟨h3,h4⟩:=He.ba (List.all_eq_true.mp h2 p hp)
  refine⟨h3,?_⟩
  split at h4
  ·rename_i o q
   exact⟨o,q,h4⟩
  ·cases h4
 refine⟨e1,h1,fun p hp=>(key p hp).1,fun p hp=> ?_,fun p hp=> ?_⟩
 ·obtain⟨_,o,q,z⟩:=key p hp
  exact He.frT_none q z
 ·obtain⟨_,o,q,z⟩:=key p hp
  rw[q,He.emptyTab_eq z]
def F4 (n:Nat) (fa:List He.Fa) (fn:List He.DefD) (tf:List He.Defn) (ex:Frg->Bool):PySem.W.Hook where
 α:=He.AlX
 obs:=fun s=>F3 n fa fn tf ex s.heap.get?
 val:=fun w=>He.valX fn [] w
 says:=fun w h=> ∃K:PySem.W.Frag,K.In h/\He.SaysX fa fn [] tf ex w h K
 of:=fun _ _ e=>⟨_,He.frT_in,EX (congrArg (fun z:He.AlX=>z.1) e) (congrArg (fun z:He.AlX=>z.2) e)⟩
 keeps:=fun _ _ _ ⟨K,hK,c⟩ k=>⟨K,PySem.W.Frag.In.keeps hK k,⟨c.t,c.more,c.hd,c.out,fun p hp=>k _ _ (c.empty p hp)⟩⟩
theorem F5 {n:Nat} {fa:List He.Fa} {fn:List He.DefD} {tf:List He.Defn} {ex:Frg->Bool} {g:Addr->Option Obj} {s:Shared} (h: ∀a,g a=s.heap.get? a):F3 n fa fn tf ex g=(F4 n fa fn tf ex).obs s:=by
 have e:g=s.heap.get? :=funext h
 rw[e];rfl
def N5 (K:Frg) (C:Str) (tc:List (Str×Bool)) (tt:List (String×Bool)) (th:List Str):Bool:=
 (PySem.W.clsIn K (He.ga K C)).isSome&&(He.eqO (PySem.W.findIn K (.ref (He.ga K C)) "__getattribute__") (some (some (.builtin "BaseException.__getattribute__")))&&(He.eqO (PySem.W.findIn K (.ref (He.ga K C)) "__getattr__") (some none)&&(decide (PySem.W.subIn K (.ref (He.ga K C)) (.type "BaseException")=some true)&&
  (He.eqO (PySem.W.findIn K (.ref (He.ga K C)) "__class__") (some (some (.builtin "object.__class__")))&&(He.eqO (PySem.W.specialIn K (.builtin "object.__class__") "__get__") (some (some (.builtin "getset_descriptor.__get__")))&&(decide (PySem.W.takesIn K (.builtin "object.__class__")=some true)&&(decide (PySem.W.mroIn K (He.ga K C) (.type "object")=some true)&&
   ((tc.all fun q=>decide (PySem.W.kitOne K (.ref (He.ga K C)) (.ref (He.ga K q.1))=some q.2))&&((tt.all fun q=>decide (PySem.W.kitOne K (.ref (He.ga K C)) (.type q.1)=some q.2))&&(th.all fun q=>decide (PySem.W.exmOne K (.ref (He.ga K C)) (.ref (He.ga K q))=some true)))))))))))
end Sw
namespace Sw.k05
open PySem PySem.Spec PyProof.Rows L2 Sw
def top (i:Nat):Stmt:=PySem.Challenge.pw_swapward_k05_rules_refused.main.body.getD i (.Pass ⟨0,0,0,0⟩)
abbrev eF:Stmt:=top 6
abbrev de:Stmt:=top 9
abbrev eU:Stmt:=top 10
abbrev ug:Stmt:=top 8
abbrev jo:Stmt:=top 11
abbrev jq:Stmt:=top 12
abbrev lD:Stmt:=top 13
abbrev jr:Stmt:=top 14
abbrev iA:Stmt:=top 15
abbrev df:Stmt:=top 16
abbrev fY:Stmt:=top 17
abbrev eG:Stmt:=top 19
abbrev fO:Stmt:=top 20
abbrev cQ:Stmt:=top 21
abbrev eJ:Stmt:=top 22
abbrev eL:Stmt:=top 23
abbrev a9:Stmt:=top 24
abbrev bF:Stmt:=top 25
abbrev bt:Stmt:=top 26
abbrev cR:Stmt:=top 27
abbrev eM:Stmt:=top 28
abbrev eP:Stmt:=top 29
abbrev bU:Stmt:=top 30
abbrev cX:Stmt:=top 31
abbrev dg:Stmt:=top 32
abbrev bG:Stmt:=top 33
abbrev eQ:Stmt:=top 34
abbrev uh:Stmt:=top 35
abbrev cZ:Stmt:=clsAt (top 2) 0
theorem lV:FnScope ["self","row"] ["self","row"] (defScope cZ):=⟨rfl,rfl,rfl,by decide+kernel,rfl,by decide+kernel,by decide+kernel⟩
def rE:He.DefD:=⟨("number_of",none),"number_of","number_of",defArgs eF,defBody eF,defScope eF,[],[]⟩
def rF:He.DefD:=⟨("by_groups",none),"by_groups","by_groups",defArgs de,defBody de,defScope de,[],[]⟩
def ui:He.DefD:=⟨("by_marks",none),"by_marks","by_marks",defArgs eU,defBody eU,defScope eU,[],[]⟩
def F6:He.DefD:=⟨("gap",none),"gap","gap",defArgs ug,defBody ug,defScope ug,[],[]⟩
def uj:He.DefD:=⟨("by_sizes",none),"by_sizes","by_sizes",defArgs jo,defBody jo,defScope jo,[],[]⟩
def uk:He.DefD:=⟨("opposite",none),"opposite","opposite",defArgs jq,defBody jq,defScope jq,[],[]⟩
def v7:He.DefD:=⟨("all_let",none),"all_let","all_let",defArgs lD,defBody lD,defScope lD,[],[]⟩
def um:He.DefD:=⟨("one_lets",none),"one_lets","one_lets",defArgs jr,defBody jr,defScope jr,[],[]⟩
def v8:He.DefD:=⟨("term_of",none),"term_of","term_of",defArgs iA,defBody iA,defScope iA,[],[]⟩
def qv:He.DefD:=⟨("noted_term",none),"noted_term","noted_term",defArgs df,defBody df,defScope df,[],[]⟩
def v9:He.DefD:=⟨("rule_of",none),"rule_of","rule_of",defArgs fY,defBody fY,defScope fY,[],[]⟩
def rG:He.DefD:=⟨("_law_cell",none),"_law_cell","_law_cell",defArgs eG,defBody eG,defScope eG,[],[]⟩
def uo:He.DefD:=⟨("_law_mix",none),"_law_mix","_law_mix",defArgs fO,defBody fO,defScope fO,[],[]⟩
def qw:He.DefD:=⟨("_law_marks",none),"_law_marks","_law_marks",defArgs cQ,defBody cQ,defScope cQ,[],[]⟩
def rH:He.DefD:=⟨("_law_side",none),"_law_side","_law_side",defArgs eJ,defBody eJ,defScope eJ,[],[]⟩
def rJ:He.DefD:=⟨("_law_term",none),"_law_term","_law_term",defArgs eL,defBody eL,defScope eL,[],[]⟩
def jO:He.DefD:=⟨("_law_alternatives",none),"_law_alternatives","_law_alternatives",defArgs a9,defBody a9,defScope a9,[],[]⟩
def lW:He.DefD:=⟨("_law_term_text",none),"_law_term_text","_law_term_text",defArgs bF,defBody bF,defScope bF,[],[]⟩
def lX:He.DefD:=⟨("_law_rule_text",none),"_law_rule_text","_law_rule_text",defArgs bt,defBody bt,defScope bt,[],[]⟩
def qy:He.DefD:=⟨("_law_plain",none),"_law_plain","_law_plain",defArgs cR,defBody cR,defScope cR,[],[]⟩
def rK:He.DefD:=⟨("_law_lets",none),"_law_lets","_law_lets",defArgs eM,defBody eM,defScope eM,[],[]⟩
def rL:He.DefD:=⟨("_law_sign",none),"_law_sign","_law_sign",defArgs eP,defBody eP,defScope eP,[],[]⟩
def mG:He.DefD:=⟨("_law_odd_word",none),"_law_odd_word","_law_odd_word",defArgs bU,defBody bU,defScope bU,[],[]⟩
def ph:He.DefD:=⟨("_law_spoilt",none),"_law_spoilt","_law_spoilt",defArgs cX,defBody cX,defScope cX,[],[]⟩
def qz:He.DefD:=⟨("_law_bound",none),"_law_bound","_law_bound",defArgs dg,defBody dg,defScope dg,[],[]⟩
def lY:He.DefD:=⟨("_law_read_term",none),"_law_read_term","_law_read_term",defArgs bG,defBody bG,defScope bG,[],[]⟩
def rM:He.DefD:=⟨("_law_read",none),"_law_read","_law_read",defArgs eQ,defBody eQ,defScope eQ,[],[]⟩
def F7:He.DefD:=⟨("law",none),"law","law",defArgs uh,defBody uh,defScope uh,[],[]⟩
def lZ:He.DefD:=⟨("NoRow",some "__init__"),"__init__","NoRow.__init__",defArgs cZ,defBody cZ,defScope cZ,[],[]⟩
def fnL:List He.DefD:=[rE,rF,ui,F6,uj,uk,v7,um,v8,qv,v9,rG,uo,qw,rH,rJ,jO,lW,lX,qy,rK,rL,mG,ph,qz,lY,rM,F7,lZ]
def faL:List He.Fa:=[.glo "number_of",.glo "by_groups",.glo "by_marks",.glo "gap",.glo "by_sizes",.glo "opposite",.glo "all_let",.glo "one_lets",.glo "term_of",.glo "noted_term",.glo "rule_of",.glo "_law_cell",.glo "_law_mix",.glo "_law_marks",.glo "_law_side",.glo "_law_term",.glo "_law_alternatives",.glo "_law_term_text",.glo "_law_rule_text",.glo "_law_plain",.glo "_law_lets",.glo "_law_sign",.glo "_law_odd_word",.glo "_law_spoilt",.glo "_law_bound",.glo "_law_read_term",.glo "_law_read",.glo "law",.free "ValueError",.free "abs"]++[.free "int",.free "isinstance",.free "len",.free "range",.free "str",.str "FIGURES" "0123456789",.glo "NoRow",.glo "SwapError",.glo "NoCouple"]
def exL:List (Frg->Bool):=[fun K=>xcB K "NoRow" "row" "SwapError",fun K=>N5 K "NoRow" [("SwapError",true),("NoCouple",false)] [("ValueError",true)] []]
abbrev RR:PySem.W.OpenRow:=PySem.W.OpenLaw.row PySem.Challenge.rw_swapward_k05_rules_refused
abbrev exB:Frg->Bool:=fun K=>exL.all fun f=>f K
def tfL:List (He.Defn×Str):=[(("by_sizes",none),(("by_sizes" :Str)++".<locals>." ++"lets")),(("opposite",none),(("opposite" :Str)++".<locals>." ++"lets")),(("all_let",none),(("all_let" :Str)++".<locals>." ++"lets")),(("one_lets",none),(("one_lets" :Str)++".<locals>." ++"lets"))]
abbrev hk:PySem.W.Hook:=F4 4 faL fnL (tfL.map (·.1)) (fun K=>DI K tfL&&exB K)
def ob (s:PySem.W.SharedT):He.AlX:=F3 4 faL fnL (tfL.map (·.1)) (fun K=>DI K tfL&&exB K) (HandSHeadRun.getT s)
theorem N6 (s:PySem.W.SharedT):ob s=hk.obs s.abs:=F5 (HandSHeadRun.getT_eq s)
def loose:List PySem.Str:=(["SwapError","NoRow","NoCouple","FIGURES","number_of","gap","by_groups","by_marks","by_sizes","opposite","all_let","one_lets","term_of","noted_term","rule_of","_law_cell","_law_mix","_law_marks","_law_side","_law_term","_law_alternatives","_law_term_text","_law_rule_text","_law_plain","_law_lets","_law_sign","_law_odd_word","_law_spoilt","_law_bound","_law_read_term"]:List PySem.Str)++(["_law_read"]:List PySem.Str)
theorem run (w:World):HandSHeadRun.RunEq RR (PySem.W.view RR.prog [35]) hk ob 6000 loose w:=by
 intro os
 kernel_rfl
end Sw.k05
namespace Sw
open PySem PySem.Spec PyProof.Rows L2
structure FnT where
 name:Str
 qual:Str
 params:Arguments
 body:List Stmt
 scope:Scope
 y:Str
 ex:Option Expr:=none
def FnT.nf (F:FnT) (c c':Addr):NdefX.NF:=⟨F.name,F.qual,F.params,F.body,F.scope,[(F.y,c)],c'⟩
structure LF where
 q:Str
 params:Arguments
 body:Expr
 scope:Scope
 cl:List (Str×Addr)
 c:Addr
def N7 (f:Addr) (F:LF):HO:=.ext fun h=> ∃pm ctv:Value,h.get? f=some (PySem.W.kla_obj "<lambda>" F.q F.params F.body F.scope F.cl pm F.c ctv)
def FnT.lf (F:FnT) (b:Expr) (c c':Addr):LF:=⟨F.qual,F.params,b,F.scope,[(F.y,c)],c'⟩
def FnT.ho (F:FnT) (f c c':Addr):HO:=match F.ex with
 |none=>NdefX.FnO f (F.nf c c')
 |some b=>N7 f (F.lf b c c')
def kU (c:Addr) (v:V) (q:Option HO):Prop:= ∃φ,q=some (.ext φ)/\ ∀h,φ h-> ∃u,L2.RelV v u/\h.IsCell c (some u)
theorem kU.st {c:Addr} {v:V} {q q':Option HO} (h:kU c v q) (k: ∀φ,q=some (.ext φ)->q'=some (.ext φ)):kU c v q':=by
 obtain⟨φ,e,z⟩:=h
 exact⟨φ,k _ e,z⟩
theorem kU.ne {c:Addr} {v:V} {q:Option HO} (h:kU c v q):q≠none:=by
 obtain⟨φ,e,_⟩:=h
 rw[e];simp
inductive D where
 |non|bl (b:Bool)|int (i:Int)|str (x:Str)
 |lst (xs:List D)|tup (xs:List D)|dct (ks:List (Key×D))|dcT (ks:List (List Key×D))
 |ins (C:Str) (fs:List (Str×D))|fn (a:Addr)|sc (ns:List Int)
 |glf (x:Str)|clo (F:FnT) (d:D)
abbrev Sa:=Addr->Prop
def TupAt (K:Frg) (S:Sa) (H:Hp) (a:Addr) (xs:List V):Prop:=S a/\H a=some (.tup xs)
theorem TupAt.sq {K:Frg} {S:Sa} {H:Hp} {a:Addr} {xs:List V} (h:TupAt K S H a xs):SqT K H a xs:=.inl (.inl h.2)
def LD (K:Frg) (S:Sa) (H:Hp) (a:Addr) (xs:List V):Prop:=(S a/\Rd H a (.lst xs))\/SqL K (fun _=>none) a xs
theorem IM {a:Addr} {u:HO} (h:Rd (fun _=>none) a u):False:=by
 rcases h with h|⟨_,h⟩ <;> cases h
theorem LD.sq {K:Frg} {S:Sa} {H:Hp} {a:Addr} {xs:List V} (h:LD K S H a xs):SqL K H a xs:=by
 rcases h with ⟨_,h⟩|h
 ·exact .inl h
 ·rcases h with h|h
  ·exact (IM h).elim
  ·exact .inr h
mutual
def Rep (K:Frg) (S:Sa) (H:Hp):D->V->Prop
 | .non,v=>v= .non
 | .bl b,v=>v= .bl b
 | .int i,v=>v= .int i
 | .str x,v=>v= .str x
 | .fn a,v=>v= .ref a
 | .glf x,v=>v= .ref (He.ga K x)
 | .clo F d,v=> ∃(f c' c:Addr) (T:Sa) (w:V),v= .ref f/\(S f/\H f=some (F.ho f c c'))/\(S c'/\H c'=some (LamX.CodeO c' F.qual))/\(S c/\kU c w (H c))/\ ¬T c/\Rep K (fun p=>S p/\T p) H d w
 | .lst ds,v=> ∃a vs,v= .ref a/\S a/\H a=some (.lst vs)/\aE K S H ds vs
 | .sc ns,v=> ∃a,v= .ref a/\LD K S H a (ns.map V.int)
 | .tup ds,v=> ∃a vs,v= .ref a/\TupAt K S H a vs/\aE K S H ds vs
 | .dct ks,v=> ∃a kvs,v= .ref a/\S a/\Rd H a (.dK kvs)/\(ks.map (·.1)).Nodup/\b7 K S H ks kvs
 | .dcT ks,v=> ∃a kvs,v= .ref a/\S a/\Rd H a (.dT kvs)/\(ks.map (·.1)).Nodup/\gL K S H ks kvs
 | .ins C fds,v=> ∃a dx fs,v= .ref a/\S a/\H a=some (.ins (He.ga K C) dx fs)/\fg K S H fds fs
def aE (K:Frg) (S:Sa) (H:Hp):List D->List V->Prop
 | [],vs=>vs=[]
 |d::ds,vs=> ∃v r,vs=v::r/\Rep K S H d v/\aE K S H ds r
def b7 (K:Frg) (S:Sa) (H:Hp):List (Key×D)->List (Key×V)->Prop
 | [],vs=>vs=[]
 |(k,d)::ds,vs=> ∃v r,vs=(k,v)::r/\Rep K S H d v/\b7 K S H ds r
def gL (K:Frg) (S:Sa) (H:Hp):List (List Key×D)->List (List Key×V)->Prop
 | [],vs=>vs=[]
 |(k,d)::ds,vs=> ∃v r,vs=(k,v)::r/\Rep K S H d v/\gL K S H ds r
def fg (K:Frg) (S:Sa) (H:Hp):List (Str×D)->List (Str×V)->Prop
 | [],vs=>vs=[]
 |(k,d)::ds,vs=> ∃v r,vs=(k,v)::r/\Rep K S H d v/\fg K S H ds r
end
def Pl:HO->Prop
 | .frz _ _=>False
 | .tbl _=>False
 |_=>True
def Sc:HO->Prop
 | .lst _=>True| .tup _=>True| .ins _ _ _=>True| .ext _=>True
 |_=>False
theorem FnT.N8 (F:FnT) {f c c':Addr}:Sc (F.ho f c c'):=by
 unfold FnT.ho
 split
 ·unfold NdefX.FnO;trivial
 ·unfold N7;trivial
structure k7 (H H':Hp) (p:Addr):Prop where
 rd: ∀u,Pl u->Rd H p u->Rd H' p u
 st: ∀u,Sc u->H p=some u->H' p=some u
theorem k7.of_eq {H H':Hp} {p:Addr} (h: ∀u,H p=some u->H' p=some u):k7 H H' p:=
 ⟨fun u _ r=>r.elim (fun r=>.inl (h _ r)) fun⟨o,r⟩=>.inr ⟨o,h _ r⟩,fun _ _ e=>h _ e⟩
theorem k7.trans {H H1 H2:Hp} {p:Addr} (a:k7 H H1 p) (b:k7 H1 H2 p):k7 H H2 p:=
 ⟨fun u hu r=>b.rd u hu (a.rd u hu r),fun u hu e=>b.st u hu (a.st u hu e)⟩
def Agr (S:Sa) (H H':Hp):Prop:= ∀p,S p->k7 H H' p
section
variable {K:Frg} {S S':Sa} {H H':Hp}
theorem TupAt.mono (hS: ∀p,S p->S' p) (ha:Agr S H H') {a:Addr} {xs:List V} (h:TupAt K S H a xs):TupAt K S' H' a xs:=
 ⟨hS _ h.1,(ha a h.1).st _ trivial h.2⟩
mutual
theorem Rep.mono {S S':Sa} (hS: ∀p,S p->S' p) (ha:Agr S H H'): ∀(d:D) (v:V),Rep K S H d v->Rep K S' H' d v
 | .non,_,h=>h
 | .bl _,_,h=>h
 | .int _,_,h=>h
 | .str _,_,h=>h
 | .fn _,_,h=>h
 | .glf _,_,h=>h
 | .clo F d,v,h=>by
  unfold Rep at h⊢
  obtain⟨f,c',c,T,w,e,⟨s1,h1⟩,⟨s2,h2⟩,⟨s3,h3⟩,l,r⟩:=h
  exact⟨f,c',c,T,w,e,⟨hS _ s1,(ha f s1).st _ F.N8 h1⟩,⟨hS _ s2,(ha c' s2).st _ trivial h2⟩,⟨hS _ s3,h3.st fun φ e=>(ha c s3).st _ trivial e⟩,l,Rep.mono (fun p s=>⟨hS p s.1,s.2⟩) (fun p s=>ha p s.1) d w r⟩
 | .lst ds,v,h=>by
  unfold Rep at h⊢
  obtain⟨a,vs,e,s,l,r⟩:=h
  exact⟨a,vs,e,hS _ s,(ha a s).st _ trivial l,aE.mono hS ha ds vs r⟩
 | .sc ns,v,h=>by
  unfold Rep at h⊢
  obtain⟨a,e,l⟩:=h
  exact⟨a,e,l.imp (fun⟨s,r⟩=>⟨hS _ s,(ha a s).rd _ trivial r⟩) id⟩
 | .tup ds,v,h=>by
  unfold Rep at h⊢
  obtain⟨a,vs,e,l,r⟩:=h
  exact⟨a,vs,e,l.mono hS ha,aE.mono hS ha ds vs r⟩
 | .dct ks,v,h=>by
  unfold Rep at h⊢
  obtain⟨a,kvs,e,s,l,n,r⟩:=h
  exact⟨a,kvs,e,hS _ s,(ha a s).rd _ trivial l,n,b7.mono hS ha ks kvs r⟩
 | .dcT ks,v,h=>by
  unfold Rep at h⊢
  obtain⟨a,kvs,e,s,l,n,r⟩:=h
  exact⟨a,kvs,e,hS _ s,(ha a s).rd _ trivial l,n,gL.mono hS ha ks kvs r⟩
 | .ins C fds,v,h=>by
  unfold Rep at h⊢
  obtain⟨a,dx,fs,e,s,l,r⟩:=h
  exact⟨a,dx,fs,e,hS _ s,(ha a s).st _ trivial l,fg.mono hS ha fds fs r⟩
theorem aE.mono {S S':Sa} (hS: ∀p,S p->S' p) (ha:Agr S H H'): ∀(ds:List D) (vs:List V),aE K S H ds vs->aE K S' H' ds vs
 | [],_,h=>by unfold aE at h ⊢; exact h
 |d::ds,vs,h=>by
  unfold aE at h⊢
  obtain⟨v,r,e,h1,h2⟩:=h
  exact⟨v,r,e,Rep.mono hS ha d v h1,aE.mono hS ha ds r h2⟩
theorem b7.mono {S S':Sa} (hS: ∀p,S p->S' p) (ha:Agr S H H'): ∀(ds:List (Key×D)) (vs:List (Key×V)),b7 K S H ds vs->b7 K S' H' ds vs
 | [],_,h=>by unfold b7 at h ⊢; exact h
 |(k,d)::ds,vs,h=>by
  unfold b7 at h⊢
  obtain⟨v,r,e,h1,h2⟩:=h
  exact⟨v,r,e,Rep.mono hS ha d v h1,b7.mono hS ha ds r h2⟩
theorem gL.mono {S S':Sa} (hS: ∀p,S p->S' p) (ha:Agr S H H'): ∀(ds:List (List Key×D)) (vs:List (List Key×V)),gL K S H ds vs->gL K S' H' ds vs
 | [],_,h=>by unfold gL at h ⊢; exact h
 |(k,d)::ds,vs,h=>by
  unfold gL at h⊢
  obtain⟨v,r,e,h1,h2⟩:=h
  exact⟨v,r,e,Rep.mono hS ha d v h1,gL.mono hS ha ds r h2⟩
theorem fg.mono {S S':Sa} (hS: ∀p,S p->S' p) (ha:Agr S H H'): ∀(ds:List (Str×D)) (vs:List (Str×V)),fg K S H ds vs->fg K S' H' ds vs
 | [],_,h=>by unfold fg at h ⊢; exact h
 |(k,d)::ds,vs,h=>by
  unfold fg at h⊢
  obtain⟨v,r,e,h1,h2⟩:=h
  exact⟨v,r,e,Rep.mono hS ha d v h1,fg.mono hS ha ds r h2⟩
end
theorem aE.length: ∀{ds:List D} {vs:List V},aE K S H ds vs->vs.length=ds.length
 | [],_,h=>by unfold aE at h;rw[h];rfl
 |d::ds,vs,h=>by
  unfold aE at h
  obtain⟨v,r,rfl,_,h2⟩:=h
  rw[List.length_cons,List.length_cons,aE.length h2]
theorem aE.get: ∀{ds:List D} {vs:List V} {i:Nat} {d:D},aE K S H ds vs->ds[i]? =some d-> ∃v,vs[i]? =some v/\Rep K S H d v
 | [],_,_,_,_,e=>by simp at e
 |d::ds,vs,0,_,h,e=>by
  unfold aE at h
  obtain⟨v,r,rfl,h1,h2⟩:=h
  simp at e
  exact⟨v,rfl,e▸h1⟩
 |d::ds,vs,i+1,d',h,e=>by
  unfold aE at h
  obtain⟨v,r,rfl,h1,h2⟩:=h
  obtain⟨v',e1,e2⟩:=aE.get (i:=i) (d:=d') h2 (by simpa using e)
  exact⟨v',by simpa using e1,e2⟩
theorem aE.append: ∀{ds es:List D} {vs ws:List V},aE K S H ds vs->aE K S H es ws->aE K S H (ds++es) (vs++ws)
 | [],_,_,_,h,g=>by unfold aE at h;rw[h];exact g
 |d::ds,es,vs,ws,h,g=>by
  unfold aE at h
  obtain⟨v,r,rfl,h1,h2⟩:=h
  show aE K S H (d::(ds++es)) (v::(r++ws))
  unfold aE
  exact⟨v,r++ws,rfl,h1,aE.append h2 g⟩
theorem aE.nil:aE K S H [] []:=by unfold aE;rfl
theorem aE.cons {d:D} {v:V} {ds:List D} {vs:List V} (h:Rep K S H d v) (g:aE K S H ds vs):aE K S H (d::ds) (v::vs):=by
 unfold aE;exact⟨v,vs,rfl,h,g⟩
theorem aE.one {d:D} {v:V} (h:Rep K S H d v):aE K S H [d] [v]:=.cons h .nil
theorem aE.take: ∀{ds:List D} {vs:List V} (n:Nat),aE K S H ds vs->aE K S H (ds.take n) (vs.take n)
 |_,_,0,_=>aE.nil
 | [],_,n+1,h=>by unfold aE at h;rw[h];exact aE.nil
 |d::ds,vs,n+1,h=>by
  unfold aE at h
  obtain⟨v,r,rfl,h1,h2⟩:=h
  exact .cons h1 (aE.take n h2)
theorem aE.drop: ∀{ds:List D} {vs:List V} (n:Nat),aE K S H ds vs->aE K S H (ds.drop n) (vs.drop n)
 |_,_,0,h=>h
 | [],_,n+1,h=>by unfold aE at h;rw[h];exact aE.nil
 |d::ds,vs,n+1,h=>by
  unfold aE at h
  obtain⟨v,r,rfl,h1,h2⟩:=h
  exact aE.drop n h2
theorem b7.keys: ∀{ks:List (Key×D)} {kvs:List (Key×V)},b7 K S H ks kvs->kvs.map (·.1)=ks.map (·.1)
 | [],_,h=>by unfold b7 at h;rw[h];rfl
 |(k,d)::ks,_,h=>by
  unfold b7 at h
  obtain⟨v,r,rfl,_,h2⟩:=h
  rw[List.map_cons,List.map_cons,b7.keys h2]
end
section
variable {κ α:Type} [DecidableEq κ]
def aG (ks:List (κ×α)) (k:κ):Option α:=(ks.find? fun p=>decide (p.1=k)).map (·.2)
def bW:List (κ×α)->κ->α->List (κ×α)
 | [],k,x=>[(k,x)]
 |p::r,k,x=>if p.1=k then (k,x)::r else p::bW r k x
def wb (ks:List (κ×α)) (k:κ):List (κ×α):=ks.filter fun p=>decide (p.1≠k)
theorem bH (p:κ×α) (r:List (κ×α)) (k:κ):aG (p::r) k=if p.1=k then some p.2 else aG r k:=by
 unfold aG
 rw[List.find?_cons]
 by_cases h:p.1=k <;> simp[h]
theorem pW (k:κ) (x:α): ∀ks:List (κ×α),(bW ks k x).map (·.1)=if (aG ks k).isSome=true then ks.map (·.1) else ks.map (·.1)++[k]
 | []=>rfl
 |p::r=>by
  rw[bH]
  unfold bW
  by_cases e:p.1=k
  ·simp[e]
  ·simp only[e,if_false,List.map_cons,pW k x r]
   split <;> simp
theorem mH {k:κ} {x:α}: ∀{ks:List (κ×α)},aG ks k=some x->(k,x)∈ks
 |p::r,h=>by
  rw[bH] at h
  by_cases e:p.1=k
  ·simp only[e,if_true,Option.some.injEq] at h
   subst h;subst e
   exact List.mem_cons_self
  ·simp only[e,if_false] at h
   exact List.mem_cons_of_mem _ (mH h)
theorem s9 {k:κ}: ∀{ks:List (κ×α)},aG ks k=none↔k∉ks.map (·.1)
 | []=>by simp[aG]
 |p::r=>by
  rw[bH,List.map_cons,List.mem_cons]
  by_cases e:p.1=k
  ·simp[e]
  ·simp only[e,if_false,s9 (ks:=r),not_or]
   exact⟨fun h=>⟨fun q=>e q.symm,h⟩,fun h=>h.2⟩
theorem g9 {k:κ} {x:α} {ks:List (κ×α)} (h:(ks.map (·.1)).Nodup):((bW ks k x).map (·.1)).Nodup:=by
 rw[pW]
 split
 ·exact h
 ·rename_i q
  have:aG ks k=none:=by simpa using q
  rw[s9] at this
  rw[List.nodup_append]
  exact⟨h,by simp,fun a ha b hb e=>by simp at hb;subst hb;subst e;exact this ha⟩
theorem pX {k:κ} {x:α}: ∀{ks:List (κ×α)},aG ks k=some x->bW ks k x=ks
 |p::r,h=>by
  rw[bH] at h
  unfold bW
  by_cases e:p.1=k
  ·simp only[e,if_true,Option.some.injEq] at h⊢
   rw[<-h,←e]
  ·simp only[e,if_false] at h⊢
   rw[pX h]
end
section
variable {K:Frg} {S S':Sa} {H H':Hp}
theorem b7.nil:b7 K S H [] []:=by unfold b7;rfl
theorem b7.cons {k:Key} {d:D} {v:V} {ds:List (Key×D)} {vs:List (Key×V)} (h:Rep K S H d v) (g:b7 K S H ds vs):b7 K S H ((k,d)::ds) ((k,v)::vs):=by
 unfold b7;exact⟨v,vs,rfl,h,g⟩
theorem b7.get: ∀{ks:List (Key×D)} {kvs:List (Key×V)} (k:Key),b7 K S H ks kvs->(∀d,aG ks k=some d-> ∃v,valV kvs k=some v/\Rep K S H d v)/\(aG ks k=none->valV kvs k=none)
 | [],_,k,h=>by
  unfold b7 at h
  rw[h]
  exact⟨fun d e=>(nomatch e),fun _=>rfl⟩
 |(j,d)::ks,_,k,h=>by
  unfold b7 at h
  obtain⟨v,r,rfl,h1,h2⟩:=h
  have ih:=b7.get k h2
  rw[bH]
  by_cases e:j=k
  ·subst e
   rw[valV_pos rfl]
   simp only[if_true]
   exact⟨fun d' e'=>⟨v,rfl,(Option.some.inj e')▸h1⟩,fun e'=>(nomatch e')⟩
  ·rw[valV_neg (show ¬(j,v).1=k from e)]
   simp only[e,if_false]
   exact ih
theorem b7.append: ∀{ks js:List (Key×D)} {vs ws:List (Key×V)},b7 K S H ks vs->b7 K S H js ws->b7 K S H (ks++js) (vs++ws)
 | [],_,_,_,h,g=>by unfold b7 at h;rw[h];exact g
 |(k,d)::ks,js,_,ws,h,g=>by
  unfold b7 at h
  obtain⟨v,r,rfl,h1,h2⟩:=h
  exact .cons h1 (b7.append h2 g)
end
end Sw
namespace Sw
open PySem PySem.Spec PyProof.Rows L2
inductive Sh where
 |fz|ls (s:Sh)|dc (s:Sh)|dt (s:Sh)|is (fs:List (Str×Sh))|dk (od:Obj) (kvs:List (Key×V)) (s:Sh)|lz|op (s:Sh)|tp (s:Sh)|hl (ss:List Sh)|tq (ss:List Sh)|ex (v:V)
section
variable {α β:Type}
def fP (R:D->V->List Addr->Prop):List D->List V->List Addr->Prop
 | [],vs,L=>vs=[]/\L=[]
 |d::ds,vs,L=> ∃v r L1 L2,vs=v::r/\R d v L1/\fP R ds r L2/\L=L1++L2
def dG {κ:Type} (R:D->V->List Addr->Prop):List (κ×D)->List (κ×V)->List Addr->Prop
 | [],vs,L=>vs=[]/\L=[]
 |(k,d)::ds,vs,L=> ∃v r L1 L2,vs=(k,v)::r/\R d v L1/\dG R ds r L2/\L=L1++L2
end
mutual
def Own (K:Frg) (G:Sa) (H:Hp):Sh->D->V->List Addr->Prop
 | .fz,d,v,L=>Rep K G H d v/\L=[]
 | .ex v0,d,v,L=>v=v0/\Rep K G H d v/\L=[]
 | .ls s,d,v,L=> ∃a vs ds L',d= .lst ds/\v= .ref a/\H a=some (.lst vs)/\fP (Own K G H s) ds vs L'/\L=a::L'
 | .dc s,d,v,L=> ∃a vs ds L',d= .dct ds/\v= .ref a/\H a=some (.dK vs)/\(ds.map (·.1)).Nodup/\dG (Own K G H s) ds vs L'/\L=a::L'
 | .dt s,d,v,L=> ∃a vs ds L',d= .dcT ds/\v= .ref a/\H a=some (.dT vs)/\(ds.map (·.1)).Nodup/\dG (Own K G H s) ds vs L'/\L=a::L'
 | .dk od kvs s,d,v,L=> ∃a ds L',d= .dct ds/\v= .ref a/\H a=some (.frz od (.dK kvs))/\(ds.map (·.1)).Nodup/\dG (Own K G H s) ds kvs L'/\L=a::L'
 | .lz,d,v,L=> ∃a vs ds L',d= .lst ds/\v= .ref a/\H a=some (.lst vs)/\(∀p∈L',∃us,H p=some (.lst us))/\aE K (fun p=>p∈L'\/(G p/\ ∃xs,H p=some (.tup xs))) H ds vs/\L=a::L'
 | .op s,d,v,L=>(d= .non/\v= .non/\L=[])\/Own K G H s d v L
 | .tp s,d,v,L=> ∃a vs ds,d= .tup ds/\v= .ref a/\G a/\H a=some (.tup vs)/\fP (Own K G H s) ds vs L
 | .hl ss,d,v,L=> ∃a vs ds L',d= .lst ds/\v= .ref a/\H a=some (.lst vs)/\dh K G H ss ds vs L'/\L=a::L'
 | .tq ss,d,v,L=> ∃a vs ds,d= .tup ds/\v= .ref a/\G a/\H a=some (.tup vs)/\dh K G H ss ds vs L
 | .is fs,d,v,L=> ∃a C dx vs ds L',d= .ins C ds/\v= .ref a/\H a=some (.ins (He.ga K C) dx vs)/\dH K G H fs ds vs L'/\L=a::L'
def dH (K:Frg) (G:Sa) (H:Hp):List (Str×Sh)->List (Str×D)->List (Str×V)->List Addr->Prop
 | [],ds,vs,L=>ds=[]/\vs=[]/\L=[]
 |(f,s)::fs,ds,vs,L=> ∃d dr v vr L1 L2,ds=(f,d)::dr/\vs=(f,v)::vr/\Own K G H s d v L1/\dH K G H fs dr vr L2/\L=L1++L2
def dh (K:Frg) (G:Sa) (H:Hp):List Sh->List D->List V->List Addr->Prop
 | [],ds,vs,L=>ds=[]/\vs=[]/\L=[]
 |s::ss,ds,vs,L=> ∃d dr v vr L1 L2,ds=d::dr/\vs=v::vr/\Own K G H s d v L1/\dh K G H ss dr vr L2/\L=L1++L2
end
section
variable {K:Frg} {G G':Sa} {H H':Hp}
theorem fP.mono {R R':D->V->List Addr->Prop} {P:Addr->Prop} (h: ∀d v L,(∀p∈L,P p)->R d v L->R' d v L): ∀(ds:List D) (vs:List V) (L:List Addr),(∀p∈L,P p)->fP R ds vs L->fP R' ds vs L
 | [],_,_,_,o=>o
 |d::ds,_,_,hp,⟨v,r,L1,L2,e1,o1,o2,e2⟩=>by
  subst e2
  exact⟨v,r,L1,L2,e1,h _ _ _ (fun p m=>hp p (List.mem_append_left _ m)) o1,fP.mono h ds r L2 (fun p m=>hp p (List.mem_append_right _ m)) o2,rfl⟩
theorem dG.mono {κ:Type} {R R':D->V->List Addr->Prop} {P:Addr->Prop} (h: ∀d v L,(∀p∈L,P p)->R d v L->R' d v L): ∀(ds:List (κ×D)) (vs:List (κ×V)) (L:List Addr),(∀p∈L,P p)->dG R ds vs L->dG R' ds vs L
 | [],_,_,_,o=>o
 |(k,d)::ds,_,_,hp,⟨v,r,L1,L2,e1,o1,o2,e2⟩=>by
  subst e2
  exact⟨v,r,L1,L2,e1,h _ _ _ (fun p m=>hp p (List.mem_append_left _ m)) o1,dG.mono h ds r L2 (fun p m=>hp p (List.mem_append_right _ m)) o2,rfl⟩
mutual
theorem Own.mono (hG: ∀p,G p->G' p) (ha:Agr G H H'): ∀(s:Sh) (d:D) (v:V) (L:List Addr),(∀p∈L,H' p=H p)->Own K G H s d v L->Own K G' H' s d v L
 | .fz,d,v,L,_,o=>by
  unfold Own at o⊢
  exact⟨Rep.mono hG ha d v o.1,o.2⟩
 | .ex _,d,v,L,_,o=>by
  unfold Own at o⊢
  exact⟨o.1,Rep.mono hG ha d v o.2.1,o.2.2⟩
 | .ls s,d,v,L,hl,o=>by
  unfold Own at o⊢
  obtain⟨a,vs,ds,L',e1,e2,e3,o1,rfl⟩:=o
  exact⟨a,vs,ds,L',e1,e2,(hl a List.mem_cons_self).trans e3,fP.mono (fun d v L hp o=>Own.mono hG ha s d v L hp o) ds vs L' (fun p m=>hl p (List.mem_cons_of_mem _ m)) o1,rfl⟩
 | .dc s,d,v,L,hl,o=>by
  unfold Own at o⊢
  obtain⟨a,vs,ds,L',e1,e2,e3,nd,o1,rfl⟩:=o
  exact⟨a,vs,ds,L',e1,e2,(hl a List.mem_cons_self).trans e3,nd,dG.mono (fun d v L hp o=>Own.mono hG ha s d v L hp o) ds vs L' (fun p m=>hl p (List.mem_cons_of_mem _ m)) o1,rfl⟩
 | .dt s,d,v,L,hl,o=>by
  unfold Own at o⊢
  obtain⟨a,vs,ds,L',e1,e2,e3,nd,o1,rfl⟩:=o
  exact⟨a,vs,ds,L',e1,e2,(hl a List.mem_cons_self).trans e3,nd,dG.mono (fun d v L hp o=>Own.mono hG ha s d v L hp o) ds vs L' (fun p m=>hl p (List.mem_cons_of_mem _ m)) o1,rfl⟩
 | .dk od kvs s,d,v,L,hl,o=>by
  unfold Own at o⊢
  obtain⟨a,ds,L',e1,e2,e3,nd,o1,rfl⟩:=o
  exact⟨a,ds,L',e1,e2,(hl a List.mem_cons_self).trans e3,nd,dG.mono (fun d v L hp o=>Own.mono hG ha s d v L hp o) ds kvs L' (fun p m=>hl p (List.mem_cons_of_mem _ m)) o1,rfl⟩
 | .lz,d,v,L,hl,o=>by
  unfold Own at o⊢
  obtain⟨a,vs,ds,L',e1,e2,e3,nd,o1,rfl⟩:=o
  have hl': ∀p∈L',H' p=H p:=fun p m=>hl p (List.mem_cons_of_mem _ m)
  have tup: ∀p,G p->(∃xs,H p=some (.tup xs))-> ∃xs,H' p=some (.tup xs):=fun p g ⟨xs,e⟩=>⟨xs,(ha p g).st _ (by trivial) e⟩
  refine⟨a,vs,ds,L',e1,e2,(hl a List.mem_cons_self).trans e3,fun p m=>by rw[hl' p m];exact nd p m,aE.mono (fun p s=>s.imp id fun s=>⟨hG p s.1,tup p s.1 s.2⟩) (fun p s=> ?_) ds vs o1,rfl⟩
  rcases s with s|s
  ·exact k7.of_eq fun u e=>by rw[hl' p s];exact e
  ·exact ha p s.1
 | .op s,d,v,L,hl,o=>by
  unfold Own at o⊢
  exact o.imp id fun o=>Own.mono hG ha s d v L hl o
 | .tp s,d,v,L,hl,o=>by
  unfold Own at o⊢
  obtain⟨a,vs,ds,e1,e2,g,e3,o1⟩:=o
  exact⟨a,vs,ds,e1,e2,hG a g,(ha a g).st _ (by trivial) e3,fP.mono (fun d v L hp o=>Own.mono hG ha s d v L hp o) ds vs L hl o1⟩
 | .tq ss,d,v,L,hl,o=>by
  unfold Own at o⊢
  obtain⟨a,vs,ds,e1,e2,g,e3,o1⟩:=o
  exact⟨a,vs,ds,e1,e2,hG a g,(ha a g).st _ (by trivial) e3,dh.mono hG ha ss ds vs L hl o1⟩
 | .hl ss,d,v,L,hl,o=>by
  unfold Own at o⊢
  obtain⟨a,vs,ds,L',e1,e2,e3,o1,rfl⟩:=o
  exact⟨a,vs,ds,L',e1,e2,(hl a List.mem_cons_self).trans e3,dh.mono hG ha ss ds vs L' (fun p m=>hl p (List.mem_cons_of_mem _ m)) o1,rfl⟩
 | .is fs,d,v,L,hl,o=>by
  unfold Own at o⊢
  obtain⟨a,C,dx,vs,ds,L',e1,e2,e3,o1,rfl⟩:=o
  exact⟨a,C,dx,vs,ds,L',e1,e2,(hl a List.mem_cons_self).trans e3,dH.mono hG ha fs ds vs L' (fun p m=>hl p (List.mem_cons_of_mem _ m)) o1,rfl⟩
theorem dH.mono (hG: ∀p,G p->G' p) (ha:Agr G H H'): ∀(fs:List (Str×Sh)) (ds:List (Str×D)) (vs:List (Str×V)) (L:List Addr),(∀p∈L,H' p=H p)->dH K G H fs ds vs L->dH K G' H' fs ds vs L
 | [],_,_,_,_,o=>by unfold dH at o ⊢; exact o
 |(f,s)::fs,_,_,L,hl,o=>by
  unfold dH at o⊢
  obtain⟨d,dr,v,vr,L1,L2,e1,e2,o1,o2,rfl⟩:=o
  exact⟨d,dr,v,vr,L1,L2,e1,e2,Own.mono hG ha s d v L1 (fun p m=>hl p (List.mem_append_left _ m)) o1,dH.mono hG ha fs dr vr L2 (fun p m=>hl p (List.mem_append_right _ m)) o2,rfl⟩
theorem dh.mono (hG: ∀p,G p->G' p) (ha:Agr G H H'): ∀(ss:List Sh) (ds:List D) (vs:List V) (L:List Addr),(∀p∈L,H' p=H p)->dh K G H ss ds vs L->dh K G' H' ss ds vs L
 | [],_,_,_,_,o=>by unfold dh at o ⊢; exact o
 |s::ss,_,_,L,hl,o=>by
  unfold dh at o⊢
  obtain⟨d,dr,v,vr,L1,L2,e1,e2,o1,o2,rfl⟩:=o
  exact⟨d,dr,v,vr,L1,L2,e1,e2,Own.mono hG ha s d v L1 (fun p m=>hl p (List.mem_append_left _ m)) o1,dh.mono hG ha ss dr vr L2 (fun p m=>hl p (List.mem_append_right _ m)) o2,rfl⟩
end
def Nd:HO->Prop
 | .lst _=>True| .dK _=>True| .dT _=>True| .ins _ _ _=>True| .frz _ (.dK _)=>True| .frz _ (.dT _)=>True
 |_=>False
def Ndd (H:Hp) (p:Addr):Prop:= ∃u,H p=some u/\Nd u
theorem fP.kind {R:D->V->List Addr->Prop} (h: ∀d v L,R d v L-> ∀p∈L,Ndd H p): ∀(ds:List D) (vs:List V) (L:List Addr),fP R ds vs L-> ∀p∈L,Ndd H p
 | [],_,_,o,p,m=>by rw[o.2] at m;cases m
 |d::ds,_,_,⟨v,r,L1,L2,e1,o1,o2,e2⟩,p,m=>by
  subst e2
  rcases List.mem_append.mp m with m|m
  ·exact h _ _ _ o1 p m
  ·exact fP.kind h ds r L2 o2 p m
theorem dG.kind {κ:Type} {R:D->V->List Addr->Prop} (h: ∀d v L,R d v L-> ∀p∈L,Ndd H p): ∀(ds:List (κ×D)) (vs:List (κ×V)) (L:List Addr),dG R ds vs L-> ∀p∈L,Ndd H p
 | [],_,_,o,p,m=>by rw[o.2] at m;cases m
 |(k,d)::ds,_,_,⟨v,r,L1,L2,e1,o1,o2,e2⟩,p,m=>by
  subst e2
  rcases List.mem_append.mp m with m|m
  ·exact h _ _ _ o1 p m
  ·exact dG.kind h ds r L2 o2 p m
mutual
theorem Own.kind: ∀(s:Sh) (d:D) (v:V) (L:List Addr),Own K G H s d v L-> ∀p∈L,Ndd H p
 | .fz,d,v,L,o,p,m=>by
  unfold Own at o
  rw[o.2] at m;cases m
 | .ex _,d,v,L,o,p,m=>by
  unfold Own at o
  rw[o.2.2] at m;cases m
 | .ls s,d,v,L,o,p,m=>by
  unfold Own at o
  obtain⟨a,vs,ds,L',e1,e2,e3,o1,rfl⟩:=o
  rcases List.mem_cons.mp m with rfl|m
  ·exact⟨_,e3,trivial⟩
  ·exact fP.kind (fun d v L o=>Own.kind s d v L o) ds vs L' o1 p m
 | .dc s,d,v,L,o,p,m=>by
  unfold Own at o
  obtain⟨a,vs,ds,L',e1,e2,e3,nd,o1,rfl⟩:=o
  rcases List.mem_cons.mp m with rfl|m
  ·exact⟨_,e3,trivial⟩
  ·exact dG.kind (fun d v L o=>Own.kind s d v L o) ds vs L' o1 p m
 | .dt s,d,v,L,o,p,m=>by
  unfold Own at o
  obtain⟨a,vs,ds,L',e1,e2,e3,nd,o1,rfl⟩:=o
  rcases List.mem_cons.mp m with rfl|m
  ·exact⟨_,e3,trivial⟩
  ·exact dG.kind (fun d v L o=>Own.kind s d v L o) ds vs L' o1 p m
 | .dk od kvs s,d,v,L,o,p,m=>by
  unfold Own at o
  obtain⟨a,ds,L',e1,e2,e3,nd,o1,rfl⟩:=o
  rcases List.mem_cons.mp m with rfl|m
  ·exact⟨_,e3,trivial⟩
  ·exact dG.kind (fun d v L o=>Own.kind s d v L o) ds kvs L' o1 p m
 | .lz,d,v,L,o,p,m=>by
  unfold Own at o
  obtain⟨a,vs,ds,L',e1,e2,e3,nd,o1,rfl⟩:=o
  rcases List.mem_cons.mp m with rfl|m
  ·exact⟨_,e3,trivial⟩
  ·obtain⟨us,e⟩:=nd p m
   exact⟨_,e,trivial⟩
 | .op s,d,v,L,o,p,m=>by
  unfold Own at o
  rcases o with ⟨_,_,e⟩|o
  ·rw[e] at m;cases m
  ·exact Own.kind s d v L o p m
 | .tp s,d,v,L,o,p,m=>by
  unfold Own at o
  obtain⟨a,vs,ds,e1,e2,g,e3,o1⟩:=o
  exact fP.kind (fun d v L o=>Own.kind s d v L o) ds vs L o1 p m
 | .tq ss,d,v,L,o,p,m=>by
  unfold Own at o
  obtain⟨a,vs,ds,e1,e2,g,e3,o1⟩:=o
  exact dh.kind ss ds vs L o1 p m
 | .hl ss,d,v,L,o,p,m=>by
  unfold Own at o
  obtain⟨a,vs,ds,L',e1,e2,e3,o1,rfl⟩:=o
  rcases List.mem_cons.mp m with rfl|m
  ·exact⟨_,e3,trivial⟩
  ·exact dh.kind ss ds vs L' o1 p m
 | .is fs,d,v,L,o,p,m=>by
  unfold Own at o
  obtain⟨a,C,dx,vs,ds,L',e1,e2,e3,o1,rfl⟩:=o
  rcases List.mem_cons.mp m with rfl|m
  ·exact⟨_,e3,trivial⟩
  ·exact dH.kind fs ds vs L' o1 p m
theorem dH.kind: ∀(fs:List (Str×Sh)) (ds:List (Str×D)) (vs:List (Str×V)) (L:List Addr),dH K G H fs ds vs L-> ∀p∈L,Ndd H p
 | [],_,_,L,o,p,m=>by
  unfold dH at o
  rw[o.2.2] at m;cases m
 |(f,s)::fs,_,_,L,o,p,m=>by
  unfold dH at o
  obtain⟨d,dr,v,vr,L1,L2,e1,e2,o1,o2,rfl⟩:=o
  rcases List.mem_append.mp m with m|m
  ·exact Own.kind s d v L1 o1 p m
  ·exact dH.kind fs dr vr L2 o2 p m
theorem dh.kind: ∀(ss:List Sh) (ds:List D) (vs:List V) (L:List Addr),dh K G H ss ds vs L-> ∀p∈L,Ndd H p
 | [],_,_,L,o,p,m=>by
  unfold dh at o
  rw[o.2.2] at m;cases m
 |s::ss,_,_,L,o,p,m=>by
  unfold dh at o
  obtain⟨d,dr,v,vr,L1,L2,e1,e2,o1,o2,rfl⟩:=o
  rcases List.mem_append.mp m with m|m
  ·exact Own.kind s d v L1 o1 p m
  ·exact dh.kind ss dr vr L2 o2 p m
end
theorem aC {S:Sa} {H:Hp}:Agr S H H:=fun p _=>k7.of_eq fun _ e=>e
theorem LG {S:Sa} {H H':Hp} (h: ∀p u,H p=some u->(∀ps,u≠ .tbl ps)->H' p=some u):Agr S H H':=fun p _=>
 ⟨fun u hu r=>r.elim (fun r=>.inl (h _ _ r (fun ps z=>by subst z;exact hu))) fun⟨o,r⟩=>.inr ⟨o,h _ _ r fun _ z=>by cases z⟩,fun u hu e=>h _ _ e (fun ps z=>by subst z;exact hu)⟩
theorem we {S:Sa} {H H':Hp} (h: ∀p u,H p=some u->H' p=some u):Agr S H H':=fun p _=>k7.of_eq (h p)
theorem fP.rep {R:D->V->List Addr->Prop} (h: ∀d v L,R d v L->Rep K (fun p=>G p\/p∈L) H d v): ∀(ds:List D) (vs:List V) (L:List Addr),fP R ds vs L->aE K (fun p=>G p\/p∈L) H ds vs
 | [],_,_,o=>by rw[o.1];exact .nil
 |d::ds,_,_,⟨v,r,L1,L2,e1,o1,o2,e2⟩=>by
  subst e2;subst e1
  exact .cons (Rep.mono (fun p x=>x.imp id (List.mem_append_left _)) aC _ _ (h _ _ _ o1)) (aE.mono (fun p x=>x.imp id (List.mem_append_right _)) aC _ _ (fP.rep h ds r L2 o2))
theorem dG.LH {R:D->V->List Addr->Prop} (h: ∀d v L,R d v L->Rep K (fun p=>G p\/p∈L) H d v): ∀(ds:List (Key×D)) (vs:List (Key×V)) (L:List Addr),dG R ds vs L->b7 K (fun p=>G p\/p∈L) H ds vs
 | [],_,_,o=>by rw[o.1];exact .nil
 |(k,d)::ds,_,_,⟨v,r,L1,L2,e1,o1,o2,e2⟩=>by
  subst e2;subst e1
  exact .cons (Rep.mono (fun p x=>x.imp id (List.mem_append_left _)) aC _ _ (h _ _ _ o1)) (b7.mono (fun p x=>x.imp id (List.mem_append_right _)) aC _ _ (dG.LH h ds r L2 o2))
theorem dG.N9 {R:D->V->List Addr->Prop} (h: ∀d v L,R d v L->Rep K (fun p=>G p\/p∈L) H d v): ∀(ds:List (List Key×D)) (vs:List (List Key×V)) (L:List Addr),dG R ds vs L->gL K (fun p=>G p\/p∈L) H ds vs
 | [],_,_,o=>by rw[o.1];unfold gL;rfl
 |(k,d)::ds,_,_,⟨v,r,L1,L2,e1,o1,o2,e2⟩=>by
  subst e2;subst e1
  unfold gL
  exact⟨v,r,rfl,Rep.mono (fun p x=>x.imp id (List.mem_append_left _)) aC _ _ (h _ _ _ o1),gL.mono (fun p x=>x.imp id (List.mem_append_right _)) aC _ _ (dG.N9 h ds r L2 o2)⟩
mutual
theorem Own.rep: ∀(s:Sh) (d:D) (v:V) (L:List Addr),Own K G H s d v L->Rep K (fun p=>G p\/p∈L) H d v
 | .fz,d,v,L,o=>by
  unfold Own at o
  exact Rep.mono (fun p x=>.inl x) aC _ _ o.1
 | .ex _,d,v,L,o=>by
  unfold Own at o
  exact Rep.mono (fun p x=>.inl x) aC _ _ o.2.1
 | .ls s,d,v,L,o=>by
  unfold Own at o
  obtain⟨a,vs,ds,L',rfl,rfl,e3,o1,rfl⟩:=o
  unfold Rep
  exact⟨a,vs,rfl,.inr List.mem_cons_self,e3,aE.mono (fun p x=>x.imp id (List.mem_cons_of_mem _)) aC _ _ (fP.rep (fun d v L o=>Own.rep s d v L o) ds vs L' o1)⟩
 | .dc s,d,v,L,o=>by
  unfold Own at o
  obtain⟨a,vs,ds,L',rfl,rfl,e3,nd,o1,rfl⟩:=o
  unfold Rep
  exact⟨a,vs,rfl,.inr List.mem_cons_self,.inl e3,nd,b7.mono (fun p x=>x.imp id (List.mem_cons_of_mem _)) aC _ _ (dG.LH (fun d v L o=>Own.rep s d v L o) ds vs L' o1)⟩
 | .dt s,d,v,L,o=>by
  unfold Own at o
  obtain⟨a,vs,ds,L',rfl,rfl,e3,nd,o1,rfl⟩:=o
  unfold Rep
  exact⟨a,vs,rfl,.inr List.mem_cons_self,.inl e3,nd,gL.mono (fun p x=>x.imp id (List.mem_cons_of_mem _)) aC _ _ (dG.N9 (fun d v L o=>Own.rep s d v L o) ds vs L' o1)⟩
 | .dk od kvs s,d,v,L,o=>by
  unfold Own at o
  obtain⟨a,ds,L',rfl,rfl,e3,nd,o1,rfl⟩:=o
  unfold Rep
  exact⟨a,kvs,rfl,.inr List.mem_cons_self,.inr ⟨od,e3⟩,nd,b7.mono (fun p x=>x.imp id (List.mem_cons_of_mem _)) aC _ _ (dG.LH (fun d v L o=>Own.rep s d v L o) ds kvs L' o1)⟩
 | .lz,d,v,L,o=>by
  unfold Own at o
  obtain⟨a,vs,ds,L',rfl,rfl,e3,nd,o1,rfl⟩:=o
  unfold Rep
  exact⟨a,vs,rfl,.inr List.mem_cons_self,e3,aE.mono (fun p s=>s.elim (fun s=>.inr (List.mem_cons_of_mem _ s)) (fun s=>.inl s.1)) aC _ _ o1⟩
 | .op s,d,v,L,o=>by
  unfold Own at o
  rcases o with ⟨e1,e2,_⟩|o
  ·subst e1;subst e2
   unfold Rep
   rfl
  ·exact Own.rep s d v L o
 | .tp s,d,v,L,o=>by
  unfold Own at o
  obtain⟨a,vs,ds,rfl,rfl,g,e3,o1⟩:=o
  unfold Rep
  exact⟨a,vs,rfl,⟨.inl g,e3⟩,fP.rep (fun d v L o=>Own.rep s d v L o) ds vs L o1⟩
 | .tq ss,d,v,L,o=>by
  unfold Own at o
  obtain⟨a,vs,ds,rfl,rfl,g,e3,o1⟩:=o
  unfold Rep
  exact⟨a,vs,rfl,⟨.inl g,e3⟩,dh.rep ss ds vs L o1⟩
 | .hl ss,d,v,L,o=>by
  unfold Own at o
  obtain⟨a,vs,ds,L',rfl,rfl,e3,o1,rfl⟩:=o
  unfold Rep
  exact⟨a,vs,rfl,.inr List.mem_cons_self,e3,aE.mono (fun p x=>x.imp id (List.mem_cons_of_mem _)) aC _ _ (dh.rep ss ds vs L' o1)⟩
 | .is fs,d,v,L,o=>by
  unfold Own at o
  obtain⟨a,C,dx,vs,ds,L',rfl,rfl,e3,o1,rfl⟩:=o
  unfold Rep
  exact⟨a,dx,vs,rfl,.inr List.mem_cons_self,e3,fg.mono (fun p x=>x.imp id (List.mem_cons_of_mem _)) aC _ _ (dH.rep fs ds vs L' o1)⟩
theorem dH.rep: ∀(fs:List (Str×Sh)) (ds:List (Str×D)) (vs:List (Str×V)) (L:List Addr),dH K G H fs ds vs L->fg K (fun p=>G p\/p∈L) H ds vs
 | [],_,_,L,o=>by
  unfold dH at o
  rw[o.1,o.2.1];unfold fg;rfl
 |(f,s)::fs,_,_,L,o=>by
  unfold dH at o
  obtain⟨d,dr,v,vr,L1,L2,rfl,rfl,o1,o2,rfl⟩:=o
  unfold fg
  exact⟨v,vr,rfl,Rep.mono (fun p x=>x.imp id (List.mem_append_left _)) aC _ _ (Own.rep s d v L1 o1),fg.mono (fun p x=>x.imp id (List.mem_append_right _)) aC _ _ (dH.rep fs dr vr L2 o2)⟩
theorem dh.rep: ∀(ss:List Sh) (ds:List D) (vs:List V) (L:List Addr),dh K G H ss ds vs L->aE K (fun p=>G p\/p∈L) H ds vs
 | [],_,_,L,o=>by
  unfold dh at o
  rw[o.1,o.2.1];exact .nil
 |s::ss,_,_,L,o=>by
  unfold dh at o
  obtain⟨d,dr,v,vr,L1,L2,rfl,rfl,o1,o2,rfl⟩:=o
  exact .cons (Rep.mono (fun p x=>x.imp id (List.mem_append_left _)) aC _ _ (Own.rep s d v L1 o1)) (aE.mono (fun p x=>x.imp id (List.mem_append_right _)) aC _ _ (dh.rep ss dr vr L2 o2))
end
end
abbrev CS:=L2.St
def Spn (K:Frg) (B G:Sa) (H:Hp) (d:D) (v:V):Prop:= ∃a vs ds,d= .lst ds/\v= .ref a/\B a/\H a=some (.lst vs)/\aE K G H ds vs
theorem Spn.mono {K:Frg} {B B' G G':Sa} {H H':Hp} {d:D} {v:V} (hB: ∀p,B p->B' p) (hG: ∀p,G p->G' p) (ha:Agr G H H') (hb:Agr B H H') (h:Spn K B G H d v):Spn K B' G' H' d v:=by
 obtain⟨a,vs,ds,e1,e2,b,hl,r⟩:=h
 exact⟨a,vs,ds,e1,e2,hB a b,(hb a b).st _ trivial hl,aE.mono hG ha ds vs r⟩
theorem Spn.rep {K:Frg} {B G:Sa} {H:Hp} {d:D} {v:V} (h:Spn K B G H d v):Rep K (fun _=>True) H d v:=by
 obtain⟨a,vs,ds,rfl,rfl,b,hl,r⟩:=h
 unfold Rep
 exact⟨a,vs,rfl,trivial,hl,aE.mono (fun _ _=>trivial) aC ds vs r⟩
inductive Md where
 |bo|fz|ow (s:Sh)|pn (v:V) (s:Sh)|bl
def lG (K:Frg) (B G:Sa) (H:Hp):Md->Option D->Option V->List Addr->Prop
 |_,none,_,L=>L=[]
 | .bo,some d,sv,L=> ∃v,sv=some v/\Rep K B H d v/\L=[]
 | .fz,some d,sv,L=> ∃v,sv=some v/\Rep K G H d v/\L=[]
 | .ow s,some d,sv,L=> ∃v,sv=some v/\Own K G H s d v L
 | .pn v s,some d,sv,L=>sv=some v/\Own K G H s d v L
 | .bl,some d,sv,L=> ∃v,sv=some v/\Spn K B G H d v/\L=[]
abbrev Ds:=List (Option D)
def Slots (K:Frg) (B G:Sa) (H:Hp):List Md->Ds->CS->List Addr->Prop
 | [],[],[],L=>L=[]
 |m::ms,x::xs,y::ys,L=> ∃L1 L2,lG K B G H m x y L1/\Slots K B G H ms xs ys L2/\L=L1++L2
 |_,_,_,_=>False
structure Org where
 G0:Sa
 H0:Hp
 L0:List Addr
 B:Sa
class NmC where
 T:List (Addr×Str)
instance (priority:=low) nm0:NmC:=⟨[]⟩
variable [NmC]
def imm:List V ⊕ (Heap->Prop)->HO
 | .inl xs=>.tup xs
 | .inr φ=>.ext φ
instance:Coe (List V) (List V ⊕ (Heap->Prop)):=⟨.inl⟩
def NT (u:HO):Prop:= ∀ps,u≠ .tbl ps
theorem td (x:List V ⊕ (Heap->Prop)):NT (imm x):=by cases x <;> (intro _ z;cases z)
structure cU (O:Org) (H:Hp) (G:Sa) (L:List Addr):Prop where
 bin: ∀p,O.B p->O.H0 p≠none/\p∉O.L0
 fr0: ∀p u,O.H0 p=some u->p∉O.L0->NT u->H p=some u
 gsub: ∀p,O.G0 p->G p
 gold: ∀p,G p->O.G0 p\/O.H0 p=none\/(∃xs,O.H0 p=some (imm xs))\/p∈O.L0
 gin: ∀p,G p->H p≠none
 dom: ∀p,O.H0 p≠none->H p≠none
 nd:L.Nodup
 lg: ∀p∈L,¬G p/\(p∈O.L0\/O.H0 p=none)
 tl: ∀p ps,O.H0 p=some (.tbl ps)-> ∃ps',H p=some (.tbl ps')
 tb:LamX.Tabs NmC.T H
theorem cU.frame {O:Org} {H:Hp} {G:Sa} {L:List Addr} (r:cU O H G L) (p:Addr) (u:HO) (e:O.H0 p=some u) (n:p∉O.L0) (t:NT u:=by first|assumption|(intro _ z;cases z;done)|exact td _):H p=some u:=r.fr0 p u e n t
def Rel (K:Frg) (O:Org) (Δ:List Md) (st:Ds) (σ:CS) (H:Hp) (G:Sa):Prop:= ∃L,cU O H G L/\Slots K O.B G H Δ st σ L
structure Ext (H:Hp) (G:Sa) (H':Hp) (G':Sa):Prop where
 hx: ∀p u,H p=some u->NT u->H' p=some u
 gg: ∀p,G p->G' p
 gn: ∀p,G' p->G p\/(H p=none/\H' p≠none)\/ ∃xs,H p=some (imm xs)
 tl: ∀p ps,H p=some (.tbl ps)-> ∃ps',H' p=some (.tbl ps')
 tb:LamX.Tabs NmC.T H->LamX.Tabs NmC.T H'
theorem Ext.hh {H:Hp} {G:Sa} {H':Hp} {G':Sa} (x:Ext H G H' G') (p:Addr) (u:HO) (e:H p=some u) (t:NT u:=by first|assumption|(intro _ z;cases z;done)|exact td _):H' p=some u:=x.hx p u e t
theorem yt (u:HO):NT u\/ ∃ps,u= .tbl ps:=by
 cases u with
 |tbl ps=>exact .inr ⟨ps,rfl⟩
 |_=>exact .inl fun _ z=>by cases z
theorem Ext.dm {H:Hp} {G:Sa} {H':Hp} {G':Sa} (x:Ext H G H' G') (p:Addr) (h:H p≠none):H' p≠none:=by
 cases q:H p with
 |none=>exact absurd q h
 |some u=>
  rcases yt u with n|⟨ps,rfl⟩
  ·rw[x.hh p u q];simp
  ·obtain⟨ps',e⟩:=x.tl p ps q
   rw[e];simp
theorem Ext.bk {H:Hp} {G:Sa} {H':Hp} {G':Sa} (x:Ext H G H' G') {p:Addr} (h:H' p=none):H p=none:=by
 cases q:H p with
 |none=>rfl
 |some u=>exact absurd h (x.dm p (by rw[q];simp))
theorem Ext.was {H:Hp} {G:Sa} {H':Hp} {G':Sa} (x:Ext H G H' G') {p:Addr} {u:HO} (h:H' p=some u) (n:NT u):H p=some u\/H p=none:=by
 cases q:H p with
 |none=>exact .inr rfl
 |some v=>
  rcases yt v with m|⟨ps,rfl⟩
  ·have:=x.hh p v q
   rw[h] at this;exact .inl (by rw[this])
  ·obtain⟨ps',e⟩:=x.tl p ps q
   rw[h] at e;cases e
   exact absurd rfl (n ps')
theorem cU.was {O:Org} {H:Hp} {G:Sa} {L:List Addr} (r:cU O H G L) {p:Addr} {u:HO} (h:H p=some u) (n:NT u):O.H0 p=some u\/O.H0 p=none\/p∈O.L0:=by
 cases q:O.H0 p with
 |none=>exact .inr (.inl rfl)
 |some v=>
  by_cases hp:p∈O.L0
  ·exact .inr (.inr hp)
  ·rcases yt v with m|⟨ps,rfl⟩
   ·have:=r.frame p v q hp
    rw[h] at this;exact .inl (by rw[this])
   ·obtain⟨ps',e⟩:=r.tl p ps q
    rw[h] at e;cases e
    exact absurd rfl (n ps')
theorem Ext.of {H:Hp} {G:Sa} {H':Hp} {G':Sa} (hh: ∀p u,H p=some u->H' p=some u) (gg: ∀p,G p->G' p) (gn: ∀p,G' p->G p\/(H p=none/\H' p≠none)\/ ∃xs,H p=some (imm xs)):Ext H G H' G':=
 ⟨fun p u e _=>hh p u e,gg,gn,fun p ps e=>⟨ps,hh p _ e⟩,fun t=>LamX.Tabs.ext t hh⟩
theorem Ext.re {H:Hp} {G:Sa} {H':Hp} {G' G1:Sa} (x:Ext H G H' G') (gg: ∀p,G p->G1 p) (gn: ∀p,G1 p->G p\/(H p=none/\H' p≠none)\/ ∃xs,H p=some (imm xs)):Ext H G H' G1:=⟨x.hx,gg,gn,x.tl,x.tb⟩
theorem Ext.refl {H:Hp} {G:Sa}:Ext H G H G:=.of (fun _ _ e=>e) (fun _ g=>g) (fun _ g=>.inl g)
theorem Ext.trans {H H1 H2:Hp} {G G1 G2:Sa} (a:Ext H G H1 G1) (b:Ext H1 G1 H2 G2):Ext H G H2 G2:=
 ⟨fun p u e t=>b.hh p u (a.hh p u e),fun p g=>b.gg p (a.gg p g),fun p g=>by
  rcases b.gn p g with g|⟨e1,e2⟩|⟨xs,e⟩
  ·rcases a.gn p g with g|⟨e1,e2⟩|⟨xs,e⟩
   ·exact .inl g
   ·exact .inr (.inl ⟨e1,b.dm p e2⟩)
   ·exact .inr (.inr ⟨xs,e⟩)
  ·exact .inr (.inl ⟨a.bk e1,e2⟩)
  ·rcases a.was e (td _) with q|q
   ·exact .inr (.inr ⟨xs,q⟩)
   ·exact .inr (.inl ⟨q,b.dm p (by rw[e];simp)⟩),
  fun p ps e=>by
   obtain⟨ps1,e1⟩:=a.tl p ps e
   exact b.tl p ps1 e1,
  fun t=>b.tb (a.tb t)⟩
section
variable {K:Frg} {O:Org} {B G G':Sa} {H H':Hp} {Δ:List Md} {st:Ds} {σ:CS} {L:List Addr}
theorem lG.mono {m:Md} {x:Option D} {y:Option V} (hG: ∀p,G p->G' p) (ha:Agr G H H') (hb:Agr B H H') (hl: ∀p∈L,H' p=H p) (h:lG K B G H m x y L):lG K B G' H' m x y L:=by
 cases x with
 |none=>cases m <;> exact h
 |some d=>
  cases m with
  |bo=>obtain⟨v,e,r,l⟩:=h;exact⟨v,e,Rep.mono (fun _ g=>g) hb d v r,l⟩
  |fz=>obtain⟨v,e,r,l⟩:=h;exact⟨v,e,Rep.mono hG ha d v r,l⟩
  |ow s=>obtain⟨v,e,r⟩:=h;exact⟨v,e,Own.mono hG ha s d v L hl r⟩
  |pn v s=>obtain⟨e,r⟩:=h;exact⟨e,Own.mono hG ha s d v L hl r⟩
  |bl=>obtain⟨v,e,r,l⟩:=h;exact⟨v,e,r.mono (fun _ g=>g) hG ha hb,l⟩
theorem lG.kind {m:Md} {x:Option D} {y:Option V} (h:lG K B G H m x y L): ∀p∈L,Ndd H p:=by
 cases x with
 |none=>cases m <;> (intro p m;rw[show L=[] from h] at m;cases m)
 |some d=>
  cases m with
  |bo=>obtain⟨v,e,r,l⟩:=h;intro p m;rw[l] at m;cases m
  |fz=>obtain⟨v,e,r,l⟩:=h;intro p m;rw[l] at m;cases m
  |ow s=>obtain⟨v,e,r⟩:=h;exact Own.kind s d v L r
  |pn v s=>obtain⟨e,r⟩:=h;exact Own.kind s d v L r
  |bl=>obtain⟨v,e,r,l⟩:=h;intro p m;rw[l] at m;cases m
theorem Slots.mono (hG: ∀p,G p->G' p) (ha:Agr G H H') (hb:Agr B H H'): ∀{Δ:List Md} {st:Ds} {σ:CS} {L:List Addr},(∀p∈L,H' p=H p)->Slots K B G H Δ st σ L->Slots K B G' H' Δ st σ L
 | [],[],[],_,_,h=>h
 |m::ms,x::xs,y::ys,_,hl,⟨L1,L2,h1,h2,e⟩=>by
  subst e
  exact⟨L1,L2,lG.mono hG ha hb (fun p m=>hl p (List.mem_append_left _ m)) h1,Slots.mono hG ha hb (fun p m=>hl p (List.mem_append_right _ m)) h2,rfl⟩
 | [],[],_::_,_,_,h=>h.elim
 | [],_::_,_,_,_,h=>h.elim
 |_::_,[],_,_,_,h=>h.elim
 |_::_,_::_,[],_,_,h=>h.elim
theorem Slots.kind: ∀{Δ:List Md} {st:Ds} {σ:CS} {L:List Addr},Slots K B G H Δ st σ L-> ∀p∈L,Ndd H p
 | [],[],[],_,h,p,m=>by rw[show _=[] from h] at m;cases m
 |m::ms,x::xs,y::ys,_,⟨L1,L2,h1,h2,e⟩,p,m'=>by
  subst e
  rcases List.mem_append.mp m' with m'|m'
  ·exact h1.kind p m'
  ·exact Slots.kind h2 p m'
 | [],[],_::_,_,h,_,_=>h.elim
 | [],_::_,_,_,h,_,_=>h.elim
 |_::_,[],_,_,h,_,_=>h.elim
 |_::_,_::_,[],_,h,_,_=>h.elim
theorem Ext.agr {S:Sa} (e:Ext H G H' G'):Agr S H H':=LG e.hx
theorem Ndd.ne {p:Addr} (h:Ndd H p):H p≠none:=by
 obtain⟨u,e,_⟩:=h
 rw[e];simp
theorem Ndd.DJ {p:Addr} {xs:List V ⊕ (Heap->Prop)} (h:Ndd H p) (e:H p=some (imm xs)):False:=by
 obtain⟨u,e',n⟩:=h
 rw[e] at e';cases e';cases xs <;> exact n
theorem Nd.nt {u:HO} (n:Nd u):NT u:=fun ps z=>by subst z;exact n
theorem Ndd.nt {p:Addr} {u:HO} (h:Ndd H p) (e:H p=some u):NT u:=by
 obtain⟨v,q,n⟩:=h
 rw[q] at e;cases e;exact n.nt
theorem Ext.uq (e:Ext H G H' G') {p:Addr} (h:Ndd H p):H' p=H p:=by
 obtain⟨u,q,n⟩:=h
 rw[q];exact e.hh p u q n.nt
theorem cU.ext (r:cU O H G L) (e:Ext H G H' G') (hk: ∀p∈L,Ndd H p) (gin: ∀p,G' p->H' p≠none):cU O H' G' L where
 bin:=r.bin
 fr0:=fun p u h n t=>e.hh p u (r.frame p u h n)
 gsub:=fun p g=>e.gg p (r.gsub p g)
 gold:=fun p g=>by
  rcases e.gn p g with g|⟨n,_⟩|⟨xs,t⟩
  ·exact r.gold p g
  ·refine .inr (.inl ?_)
   cases q:O.H0 p with
   |none=>rfl
   |some u=>exact absurd n (r.dom p (by rw[q];simp))
  ·rcases r.was t (td _) with q|q|q
   ·exact .inr (.inr (.inl ⟨xs,q⟩))
   ·exact .inr (.inl q)
   ·exact .inr (.inr (.inr q))
 gin:=gin
 dom:=fun p h=>e.dm p (r.dom p h)
 nd:=r.nd
 lg:=fun p m=>⟨fun g=>by
  rcases e.gn p g with g|⟨n,_⟩|⟨xs,t⟩
  ·exact (r.lg p m).1 g
  ·exact (hk p m).ne n
  ·exact (hk p m).DJ t,(r.lg p m).2⟩
 tl:=fun p ps h=>by
  obtain⟨ps1,e1⟩:=r.tl p ps h
  exact e.tl p ps1 e1
 tb:=e.tb r.tb
theorem Ext.gin (e:Ext H G H' G') (h: ∀p,G p->H p≠none): ∀p,G' p->H' p≠none:=fun p g=>by
 rcases e.gn p g with g|⟨_,n⟩|⟨xs,t⟩
 ·exact e.dm p (h p g)
 ·exact n
 ·exact e.dm p (by rw[t];simp)
theorem Rel.ext (r:Rel K O Δ st σ H G) (e:Ext H G H' G'):Rel K O Δ st σ H' G':=by
 obtain⟨L,g,s⟩:=r
 exact⟨L,g.ext e s.kind (e.gin g.gin),Slots.mono e.gg e.agr e.agr (fun p m=>e.uq (s.kind p m)) s⟩
end
theorem F8 {H H':Hp} (hh: ∀p u,H p=some u-> ¬Nd u->H' p=some u) (t:LamX.Tabs NmC.T H):LamX.Tabs NmC.T H':=fun q hq=>by
 obtain⟨ps,h1,h2,h3⟩:=t q hq
 refine⟨ps,hh _ _ h1 (fun n=>n),h2,fun pos cv hc=> ?_⟩
 obtain⟨c,e1,e2⟩:=h3 pos cv hc
 exact⟨c,e1,hh _ _ e2 (fun n=>n)⟩
theorem AF {H:Hp} {a:Addr} {o:HO} (h:Ndd H a\/H a=none) (t:LamX.Tabs NmC.T H):LamX.Tabs NmC.T (upd H a o):=F8 (fun p u e n=>by
 have hne:p≠a:=fun z=>by
  subst z
  rcases h with ⟨v,q,m⟩|q
  ·rw[q] at e;cases e;exact n m
  ·rw[q] at e;cases e
 rw[upd_ne hne];exact e) t
theorem F9 {H:Hp} {a:Addr} {o:HO} (h:Ndd H a\/H a=none) {p:Addr} (e: ∃ps,H p=some (.tbl ps)): ∃ps,upd H a o p=some (.tbl ps):=by
 obtain⟨ps,e⟩:=e
 have hne:p≠a:=fun z=>by
  subst z
  rcases h with ⟨v,q,m⟩|q
  ·rw[q] at e;cases e;exact m
  ·rw[q] at e;cases e
 exact⟨ps,by rw[upd_ne hne];exact e⟩
theorem k7.Ga {H H':Hp} {p:Addr} (h: ∀u,NT u->H p=some u->H' p=some u):k7 H H' p:=
 ⟨fun u hu r=>r.elim (fun r=>.inl (h _ (fun ps z=>by subst z;exact hu) r)) fun⟨o,r⟩=>.inr ⟨o,h _ (fun _ z=>by cases z) r⟩,fun u hu e=>h _ (fun ps z=>by subst z;exact hu) e⟩
theorem Ext.Oa {H H':Hp} {G G':Sa} {D:Addr} {o:HO} (x:Ext H G H' G') (hD:H D=none) (hd:Ndd H' D):Ext H G (upd H' D o) G':=
 ⟨fun p u e _=>by rw[upd_ne (ne_of_none e hD)];exact x.hh p u e,x.gg,fun p g=>by
  rcases x.gn p g with g|⟨n,n2⟩|t
  ·exact .inl g
  ·refine .inr (.inl ⟨n,?_⟩)
   by_cases hp:p=D
   ·subst hp;rw[upd_same];simp
   ·rw[upd_ne hp];exact n2
  ·exact .inr (.inr t),fun p ps e=>F9 (.inl hd) (x.tl p ps e),fun t=>AF (.inl hd) (x.tb t)⟩
end Sw
namespace Sw
open PySem PySem.Spec PyProof.Rows L2
variable [NmC]
section
variable {K:Frg} {O:Org} {B G:Sa} {H:Hp}
theorem fh {α:Type} (a b c:List α):(a++(b++c)).Perm (b++(a++c)):=by
 rw[<-List.append_assoc,←List.append_assoc]
 exact List.perm_append_comm.append_right c
theorem Slots.split: ∀{Δ:List Md} {st:Ds} {σ:CS} {L:List Addr} {i:Nat} {m:Md},Slots K B G H Δ st σ L->Δ[i]? =some m→
  ∃x y L1 L2,st[i]? =some x/\σ[i]? =some y/\lG K B G H m x y L1/\L.Perm (L1++L2)∧
   ∀(G':Sa) (H':Hp) m' x' y' L1',(∀p,G p->G' p)->Agr G H H'->Agr B H H'->(∀p∈L2,H' p=H p)->lG K B G' H' m' x' y' L1'→
    ∃L',L'.Perm (L1'++L2)/\Slots K B G' H' (Δ.set i m') (st.set i x') (σ.set i y') L'
 |m::ms,x::xs,y::ys,_,0,_,⟨L1,L2,h1,h2,e⟩,e0=>by
  subst e
  cases e0
  exact⟨x,y,L1,L2,rfl,rfl,h1,.refl _,fun G' H' m' x' y' L1' hG ha hb hl s=>⟨L1'++L2,.refl _,L1',L2,s,h2.mono hG ha hb hl,rfl⟩⟩
 |m::ms,x::xs,y::ys,_,i+1,m0,⟨L1,L2,h1,h2,e⟩,e0=>by
  subst e
  obtain⟨x1,y1,M1,M2,ex,ey,s1,pm,f⟩:=Slots.split (i:=i) (m:=m0) h2 (by simpa using e0)
  refine⟨x1,y1,M1,L1++M2,by simpa using ex,by simpa using ey,s1,((List.Perm.append_left L1 pm).trans (fh L1 M1 M2)),fun G' H' m' x' y' L1' hG ha hb hl s=> ?_⟩
  obtain⟨L',pm',s'⟩:=f G' H' m' x' y' L1' hG ha hb (fun p hp=>hl p (List.mem_append_right _ hp)) s
  exact⟨L1++L',(List.Perm.append_left L1 pm').trans (fh L1 L1' M2),L1,L',h1.mono hG ha hb (fun p hp=>hl p (List.mem_append_left _ hp)),s',rfl⟩
 | [],[],[],_,_,_,_,e0=>by cases e0
 | [],[],_::_,_,_,_,h,_=>h.elim
 | [],_::_,_,_,_,_,h,_=>h.elim
 |_::_,[],_,_,_,_,h,_=>h.elim
 |_::_,_::_,[],_,_,_,h,_=>h.elim
theorem Slots.len: ∀{Δ:List Md} {st:Ds} {σ:CS} {L:List Addr},Slots K B G H Δ st σ L->st.length=Δ.length/\σ.length=Δ.length
 | [],[],[],_,_=>⟨rfl,rfl⟩
 |m::ms,x::xs,y::ys,_,⟨L1,L2,h1,h2,e⟩=>by
  have:=Slots.len h2
  simp[this.1,this.2]
 | [],[],_::_,_,h=>h.elim
 | [],_::_,_,_,h=>h.elim
 |_::_,[],_,_,h=>h.elim
 |_::_,_::_,[],_,h=>h.elim
theorem iL {α:Type} {l:List α} {i:Nat} {x:α} (h:l[i]? =some x):l.set i x=l:=by
 apply List.ext_getElem?
 intro j
 by_cases e:i=j
 ·subst e
  rw[List.getElem?_set_self (List.getElem?_eq_some_iff.mp h).1,h]
 ·rw[List.getElem?_set_ne e]
inductive Wk:List Md->Ds->List Md->Ds->Prop where
 |nil:Wk [] [] [] []
 |keep {m:Md} {x:Option D} {ms ns:List Md} {xs zs:Ds}:Wk ms xs ns zs->Wk (m::ms) (x::xs) (m::ns) (x::zs)
 |drop {m n:Md} {x:Option D} {ms ns:List Md} {xs zs:Ds}:Wk ms xs ns zs->Wk (m::ms) (x::xs) (n::ns) (none::zs)
theorem lG.none {m:Md} {y:Option V}:lG K B G H m none y []:=by cases m <;> rfl
theorem Slots.weak: ∀{Δ Δ':List Md} {st st':Ds} {σ:CS} {L:List Addr},Wk Δ st Δ' st'->Slots K B G H Δ st σ L-> ∃L',L'.Sublist L/\Slots K B G H Δ' st' σ L'
 |_,_,_,_,[],_,.nil,h=>⟨_,List.Sublist.refl _,h⟩
 |_,_,_,_,_::_,_,.nil,h=>h.elim
 |_,_,_,_,[],_,.keep _,h=>h.elim
 |_,_,_,_,[],_,.drop _,h=>h.elim
 |_,_,_,_,y::ys,_,.keep w,⟨L1,L2,h1,h2,e⟩=>by
  obtain⟨L',s,q⟩:=Slots.weak w h2
  exact⟨L1++L',e▸List.Sublist.append (List.Sublist.refl _) s,L1,L',h1,q,rfl⟩
 |_,_,_,_,y::ys,_,.drop w,⟨L1,L2,h1,h2,e⟩=>by
  obtain⟨L',s,q⟩:=Slots.weak w h2
  exact⟨L',e▸(s.trans (List.sublist_append_right _ _)),[],L',lG.none,q,rfl⟩
theorem cU.sub {L L':List Addr} (r:cU O H G L) (s:L'.Sublist L):cU O H G L':=
 ⟨r.bin,r.fr0,r.gsub,r.gold,r.gin,r.dom,r.nd.sublist s,fun p m=>r.lg p (s.subset m),r.tl,r.tb⟩
theorem cU.perm {L L':List Addr} (r:cU O H G L) (s:L.Perm L'):cU O H G L':=
 ⟨r.bin,r.fr0,r.gsub,r.gold,r.gin,r.dom,s.nodup_iff.mp r.nd,fun p m=>r.lg p (s.mem_iff.mpr m),r.tl,r.tb⟩
theorem Rel.weak {Δ Δ':List Md} {st st':Ds} {σ:CS} (w:Wk Δ st Δ' st') (r:Rel K O Δ st σ H G):Rel K O Δ' st' σ H G:=by
 obtain⟨L,g,s⟩:=r
 obtain⟨L',sl,q⟩:=s.weak w
 exact⟨L',g.sub sl,q⟩
end
inductive Stp where
 |ix (i:Nat)|ky (k:Key)|kt (k:List Key)|fd (f:Str)
def fj:D->List Stp->Option D
 |d,[]=>some d
 | .lst ds,.ix i::q=>(ds[i]?).bind fun x=>fj x q
 | .dct ks,.ky k::q=>(aG ks k).bind fun x=>fj x q
 | .dcT ks,.kt k::q=>(aG ks k).bind fun x=>fj x q
 | .ins _ fs,.fd f::q=>(fs.lookup f).bind fun x=>fj x q
 |_,_::_=>none
def tj (f:Str) (x:D):List (Str×D)->List (Str×D)
 | []=>[(f,x)]
 |(g,y)::r=>if g=f then (g,x)::r else (g,y)::tj f x r
def cG:D->List Stp->D->D
 |_,[],e=>e
 | .lst ds,.ix i::q,e=>match ds[i]? with
  |some x=>.lst (ds.set i (cG x q e))
  |none=>.lst ds
 | .dct ks,.ky k::q,e=>match aG ks k with
  |some x=>.dct (bW ks k (cG x q e))
  |none=>.dct ks
 | .dcT ks,.kt k::q,e=>match aG ks k with
  |some x=>.dcT (bW ks k (cG x q e))
  |none=>.dcT ks
 | .ins C fs,.fd f::q,e=>match fs.lookup f with
  |some x=>.ins C (tj f (cG x q e) fs)
  |none=>.ins C fs
 |d,_::_,_=>d
def shP:Sh->List Stp->Option Sh
 |s,[]=>some s
 | .ls s,.ix _::q=>shP s q
 | .dc s,.ky _::q=>shP s q
 | .dt s,.kt _::q=>shP s q
 | .dk _ _ s,.ky _::q=>shP s q
 | .is fs,.fd f::q=>(fs.lookup f).bind fun s=>shP s q
 | .hl ss,.ix i::q=>(ss[i]?).bind fun s=>shP s q
 |_,_::_=>none
def AtP (H:Hp):V->List Stp->V->Prop
 |v,[],w=>w=v
 |v,.ix i::q,w=> ∃a vs x,v= .ref a/\H a=some (.lst vs)/\vs[i]? =some x/\AtP H x q w
 |v,.ky k::q,w=> ∃a kvs x,v= .ref a/\Rd H a (.dK kvs)/\valV kvs k=some x/\AtP H x q w
 |v,.kt k::q,w=> ∃a kvs x,v= .ref a/\H a=some (.dT kvs)/\valV kvs k=some x/\AtP H x q w
 |v,.fd f::q,w=> ∃a C dx fs x,v= .ref a/\H a=some (.ins C dx fs)/\fs.lookup f=some x/\AtP H x q w
theorem IP {H:Hp} {a:Addr} {u v:List (Key×V)} (h:Rd H a (.dK u)) (g:Rd H a (.dK v)):u=v:=by
 rcases h with h|⟨o,h⟩ <;> rcases g with g|⟨o',g⟩ <;> rw[h] at g <;> cases g <;> rfl
theorem AtP.inj {H:Hp}: ∀{q:List Stp} {v w w':V},AtP H v q w->AtP H v q w'->w=w'
 | [],v,w,w',h,h'=>by
  have e:w=v:=h
  have e':w'=v:=h'
  rw[e,e']
 | .ix i::q,v,w,w',⟨a,vs,x,e1,e2,e3,h⟩,⟨a',vs',x',e1',e2',e3',h'⟩=>by
  subst e1;cases e1'
  rw[e2] at e2';cases e2'
  rw[e3] at e3';cases e3'
  exact AtP.inj h h'
 | .ky k::q,v,w,w',⟨a,vs,x,e1,e2,e3,h⟩,⟨a',vs',x',e1',e2',e3',h'⟩=>by
  subst e1;cases e1'
  obtain rfl:=IP e2 e2'
  rw[e3] at e3';cases e3'
  exact AtP.inj h h'
 | .kt k::q,v,w,w',⟨a,vs,x,e1,e2,e3,h⟩,⟨a',vs',x',e1',e2',e3',h'⟩=>by
  subst e1;cases e1'
  rw[e2] at e2';cases e2'
  rw[e3] at e3';cases e3'
  exact AtP.inj h h'
 | .fd f::q,v,w,w',⟨a,C,dx,fs,x,e1,e2,e3,h⟩,⟨a',C',dx',fs',x',e1',e2',e3',h'⟩=>by
  subst e1;cases e1'
  rw[e2] at e2';cases e2'
  rw[e3] at e3';cases e3'
  exact AtP.inj h h'
theorem AtP.mono {H H':Hp} (hh: ∀p u,H p=some u->NT u->H' p=some u): ∀{q:List Stp} {v w:V},AtP H v q w->AtP H' v q w
 | [],v,w,h=>h
 | .ix i::q,v,w,⟨a,vs,x,e1,e2,e3,h⟩=>⟨a,vs,x,e1,hh _ _ e2 (fun _ z=>by cases z),e3,AtP.mono hh h⟩
 | .ky k::q,v,w,⟨a,vs,x,e1,e2,e3,h⟩=>⟨a,vs,x,e1,e2.imp (fun e=>hh _ _ e fun _ z=>by cases z) (fun⟨o,e⟩=>⟨o,hh _ _ e fun _ z=>by cases z⟩),e3,AtP.mono hh h⟩
 | .kt k::q,v,w,⟨a,vs,x,e1,e2,e3,h⟩=>⟨a,vs,x,e1,hh _ _ e2 (fun _ z=>by cases z),e3,AtP.mono hh h⟩
 | .fd f::q,v,w,⟨a,C,dx,fs,x,e1,e2,e3,h⟩=>⟨a,C,dx,fs,x,e1,hh _ _ e2 (fun _ z=>by cases z),e3,AtP.mono hh h⟩
section
variable {K:Frg} {G G':Sa} {H H':Hp}
theorem fP.item {R:D->V->List Addr->Prop}: ∀{ds:List D} {vs:List V} {L:List Addr} {i:Nat} {d:D},fP R ds vs L->ds[i]? =some d→
  ∃v L1 L2,vs[i]? =some v/\R d v L1/\L.Perm (L1++L2)/\ ∀(R':D->V->List Addr->Prop) d' v' L1',(∀d v M,(∀p∈M,p∈L2)->R d v M->R' d v M)->R' d' v' L1'-> ∃L',L'.Perm (L1'++L2)/\fP R' (ds.set i d') (vs.set i v') L'
 |d::ds,_,_,0,_,⟨v,r,L1,L2,e1,o1,o2,e2⟩,e=>by
  subst e1;subst e2
  cases e
  exact⟨v,L1,L2,rfl,o1,.refl _,fun R' d' v' L1' hm o=>⟨L1'++L2,.refl _,v',r,L1',L2,rfl,o,fP.mono (P:=fun p=>p∈L2) hm ds r L2 (fun _ h=>h) o2,rfl⟩⟩
 |d::ds,_,_,i+1,d0,⟨v,r,L1,L2,e1,o1,o2,e2⟩,e=>by
  subst e1;subst e2
  obtain⟨v1,M1,M2,g1,g2,pm,f⟩:=fP.item (i:=i) (d:=d0) o2 (by simpa using e)
  refine⟨v1,M1,L1++M2,by simpa using g1,g2,(List.Perm.append_left L1 pm).trans (fh L1 M1 M2),fun R' d' v' L1' hm o=> ?_⟩
  obtain⟨L',pm',o'⟩:=f R' d' v' L1' (fun d v M hM=>hm d v M fun p hp=>List.mem_append_right _ (hM p hp)) o
  exact⟨L1++L',(List.Perm.append_left L1 pm').trans (fh L1 L1' M2),v,r.set i v',L1,L',rfl,hm _ _ _ (fun p hp=>List.mem_append_left _ hp) o1,o',rfl⟩
 | [],_,_,_,_,_,e=>by simp at e
theorem dG.item {κ:Type} [DecidableEq κ] {R:D->V->List Addr->Prop}: ∀{ds:List (κ×D)} {vs:List (κ×V)} {L:List Addr} {k:κ} {d:D},dG R ds vs L->aG ds k=some d→
  ∃v L1 L2,aG vs k=some v/\R d v L1/\L.Perm (L1++L2)∧
   ∀(R':D->V->List Addr->Prop) d' v' L1',(∀d v M,(∀p∈M,p∈L2)->R d v M->R' d v M)->R' d' v' L1'-> ∃L',L'.Perm (L1'++L2)/\dG R' (bW ds k d') (bW vs k v') L'
 |(k0,d)::ds,_,_,k,d0,⟨v,r,L1,L2,e1,o1,o2,e2⟩,e=>by
  subst e1;subst e2
  rw[bH] at e
  by_cases hk:k0=k
  ·subst hk
   simp only[if_true] at e
   cases e
   refine⟨v,L1,L2,(bH _ _ _).trans (if_pos rfl),o1,.refl _,fun R' d' v' L1' hm o=>⟨L1'++L2,.refl _,?_⟩⟩
   unfold bW
   rw[if_pos rfl,if_pos rfl]
   exact⟨v',r,L1',L2,rfl,o,dG.mono (P:=fun p=>p∈L2) hm ds r L2 (fun _ h=>h) o2,rfl⟩
  ·simp only[hk,if_false] at e
   obtain⟨v1,M1,M2,g1,g2,pm,f⟩:=dG.item (k:=k) (d:=d0) o2 e
   refine⟨v1,M1,L1++M2,(bH _ _ _).trans ((if_neg hk).trans g1),g2,(List.Perm.append_left L1 pm).trans (fh L1 M1 M2),fun R' d' v' L1' hm o=> ?_⟩
   obtain⟨L',pm',o'⟩:=f R' d' v' L1' (fun d v M hM=>hm d v M fun p hp=>List.mem_append_right _ (hM p hp)) o
   refine⟨L1++L',(List.Perm.append_left L1 pm').trans (fh L1 L1' M2),?_⟩
   unfold bW
   rw[if_neg hk,if_neg hk]
   exact⟨v,bW r k v',L1,L',rfl,hm _ _ _ (fun p hp=>List.mem_append_left _ hp) o1,o',rfl⟩
 | [],_,_,_,_,_,e=>by cases e
theorem dG.drop {κ:Type} [DecidableEq κ] {R:D->V->List Addr->Prop} (k:κ): ∀{ds:List (κ×D)} {vs:List (κ×V)} {L:List Addr},dG R ds vs L-> ∃L',L'.Sublist L/\dG R (wb ds k) (wb vs k) L'
 | [],_,_,o=>by
  rw[o.1,o.2]
  exact⟨[],List.Sublist.refl _,rfl,rfl⟩
 |(k0,d)::ds,_,_,⟨v,r,L1,L2,e1,o1,o2,e2⟩=>by
  subst e1;subst e2
  obtain⟨L',s,o'⟩:=dG.drop k o2
  by_cases hk:k0=k
  ·refine⟨L',s.trans (List.sublist_append_right _ _),?_⟩
   unfold wb at o'⊢
   rw[List.filter_cons_of_neg (by simp[hk]),List.filter_cons_of_neg (by simp[hk])]
   exact o'
  ·refine⟨L1++L',List.Sublist.append (List.Sublist.refl _) s,?_⟩
   unfold wb at o'⊢
   rw[List.filter_cons_of_pos (by simp[hk]),List.filter_cons_of_pos (by simp[hk])]
   exact⟨v,_,L1,L',rfl,o1,o',rfl⟩
theorem dG.keys {κ:Type} {R:D->V->List Addr->Prop}: ∀{ds:List (κ×D)} {vs:List (κ×V)} {L:List Addr},dG R ds vs L->vs.map (·.1)=ds.map (·.1)
 | [],_,_,o=>by rw[o.1];rfl
 |(k,d)::ds,_,_,⟨v,r,L1,L2,e1,o1,o2,e2⟩=>by
  subst e1
  rw[List.map_cons,List.map_cons,dG.keys o2]
theorem fP.length {R:D->V->List Addr->Prop}: ∀{ds:List D} {vs:List V} {L:List Addr},fP R ds vs L->vs.length=ds.length
 | [],_,_,o=>by rw[o.1];rfl
 |d::ds,_,_,⟨v,r,L1,L2,e1,o1,o2,e2⟩=>by
  subst e1
  rw[List.length_cons,List.length_cons,fP.length o2]
theorem dH.item: ∀{fs:List (Str×Sh)} {ds:List (Str×D)} {vs:List (Str×V)} {L:List Addr} {f:Str} {s:Sh} {d:D},dH K G H fs ds vs L->fs.lookup f=some s->ds.lookup f=some d→
  ∃v L1 L2,vs.lookup f=some v/\Own K G H s d v L1/\L.Perm (L1++L2)∧
   ∀(G':Sa) (H':Hp) d' L1',(∀p,G p->G' p)->Agr G H H'->(∀p∈L2,H' p=H p)->Own K G' H' s d' v L1'-> ∃L',L'.Perm (L1'++L2)/\dH K G' H' fs (tj f d' ds) vs L'
 |(g,s0)::fs,ds,vs,L,f,s,d,o,e,e'=>by
  unfold dH at o
  obtain⟨d1,dr,v,vr,L1,L2,rfl,rfl,o1,o2,rfl⟩:=o
  by_cases hf:f=g
  ·subst hf
   simp[List.lookup_cons] at e e'
   subst e;subst e'
   refine⟨v,L1,L2,by simp[List.lookup_cons],o1,.refl _,fun G' H' d' L1' hG ha hl o=>⟨L1'++L2,.refl _,?_⟩⟩
   unfold dH tj
   simp only[if_true]
   exact⟨d',dr,v,vr,L1',L2,rfl,rfl,o,dH.mono hG ha fs dr vr L2 hl o2,rfl⟩
  ·have hb:(f==g)=false:=by simp[hf]
   simp only[List.lookup_cons,hb] at e e'
   obtain⟨v1,M1,M2,g1,g2,pm,f'⟩:=dH.item o2 e e'
   refine⟨v1,M1,L1++M2,by simp only[List.lookup_cons,hb];exact g1,g2,(List.Perm.append_left L1 pm).trans (fh L1 M1 M2),fun G' H' d' L1' hG ha hl o=> ?_⟩
   obtain⟨L',pm',o'⟩:=f' G' H' d' L1' hG ha (fun p hp=>hl p (List.mem_append_right _ hp)) o
   refine⟨L1++L',(List.Perm.append_left L1 pm').trans (fh L1 L1' M2),?_⟩
   unfold dH tj
   simp only[show ¬g=f from fun q=>hf q.symm,if_false]
   exact⟨d1,tj f d' dr,v,vr,L1,L',rfl,rfl,Own.mono hG ha s0 d1 v L1 (fun p hp=>hl p (List.mem_append_left _ hp)) o1,o',rfl⟩
 | [],_,_,_,_,_,_,_,e,_=>by cases e
theorem dh.item: ∀{ss:List Sh} {ds:List D} {vs:List V} {L:List Addr} {i:Nat} {s:Sh} {d:D},dh K G H ss ds vs L->ss[i]? =some s->ds[i]? =some d→
  ∃v L1 L2,vs[i]? =some v/\Own K G H s d v L1/\L.Perm (L1++L2)∧
   ∀(G':Sa) (H':Hp) d' L1',(∀p,G p->G' p)->Agr G H H'->(∀p∈L2,H' p=H p)->Own K G' H' s d' v L1'-> ∃L',L'.Perm (L1'++L2)/\dh K G' H' ss (ds.set i d') vs L'
 |s0::ss,ds,vs,L,0,s,d,o,e,e'=>by
  unfold dh at o
  obtain⟨d1,dr,v,vr,L1,L2,rfl,rfl,o1,o2,rfl⟩:=o
  simp only[List.getElem?_cons_zero] at e e'
  cases e;cases e'
  refine⟨v,L1,L2,rfl,o1,.refl _,fun G' H' d' L1' hG ha hl o=>⟨L1'++L2,.refl _,?_⟩⟩
  unfold dh
  exact⟨d',dr,v,vr,L1',L2,rfl,rfl,o,dh.mono hG ha ss dr vr L2 hl o2,rfl⟩
 |s0::ss,ds,vs,L,i+1,s,d,o,e,e'=>by
  unfold dh at o
  obtain⟨d1,dr,v,vr,L1,L2,rfl,rfl,o1,o2,rfl⟩:=o
  simp only[List.getElem?_cons_succ] at e e'
  obtain⟨v1,M1,M2,g1,g2,pm,f'⟩:=dh.item o2 e e'
  refine⟨v1,M1,L1++M2,by simpa using g1,g2,(List.Perm.append_left L1 pm).trans (fh L1 M1 M2),fun G' H' d' L1' hG ha hl o=> ?_⟩
  obtain⟨L',pm',o'⟩:=f' G' H' d' L1' hG ha (fun p hp=>hl p (List.mem_append_right _ hp)) o
  refine⟨L1++L',(List.Perm.append_left L1 pm').trans (fh L1 L1' M2),?_⟩
  rw[List.set_cons_succ]
  unfold dh
  exact⟨d1,dr.set i d',v,vr,L1,L',rfl,rfl,Own.mono hG ha s0 d1 v L1 (fun p hp=>hl p (List.mem_append_left _ hp)) o1,o',rfl⟩
 | [],_,_,_,_,_,_,_,e,_=>by simp at e
theorem oK {α:Type} {a:α} {L4 L3 M2 L1 N2:List α} (p4:L4.Perm (L3++M2)) (p3:L3.Perm (L1++N2)):(a::L4).Perm (L1++a::(N2++M2)):=by
 have h:L4.Perm (L1++(N2++M2)):=by
  have:=p4.trans (p3.append_right M2)
  rwa[List.append_assoc] at this
 exact (h.cons a).trans (fh [a] L1 (N2++M2))
theorem Own.place: ∀{s:Sh} {d:D} {v:V} {L:List Addr} (q:List Stp) {s':Sh} {d':D},Own K G H s d v L->shP s q=some s'->fj d q=some d'→
  ∃v' L1 L2,AtP H v q v'/\Own K G H s' d' v' L1/\L.Perm (L1++L2)∧
   ∀(G':Sa) (H':Hp) d'' L1',(∀p,G p->G' p)->Agr G H H'->(∀p∈L2,H' p=H p)->Own K G' H' s' d'' v' L1'-> ∃L',L'.Perm (L1'++L2)/\Own K G' H' s (cG d q d'') v L'
 |s,d,v,L,[],s',d',o,hs,hd=>by
  cases hs;cases hd
  exact⟨v,L,[],rfl,o,by rw[List.append_nil],fun G' H' d'' L1' _ _ _ o'=>⟨L1',by rw[List.append_nil],by unfold cG;exact o'⟩⟩
 | .ls s,d,v,L,.ix i::q,s',d',o,hs,hd=>by
  unfold Own at o
  obtain⟨a,vs,ds,L',rfl,rfl,e3,o1,rfl⟩:=o
  unfold shP at hs
  unfold fj at hd
  cases hi:ds[i]? with
  |none=>rw[hi] at hd;cases hd
  |some x=>
   rw[hi] at hd
   obtain⟨w,M1,M2,g1,g2,pm,f⟩:=fP.item o1 hi
   obtain⟨v',N1,N2,h1,h2,pn,f2⟩:=Own.place q g2 hs hd
   refine⟨v',N1,a::(N2++M2),⟨a,vs,w,rfl,e3,g1,h1⟩,h2,?_,fun G' H' d'' L1' hG ha hl o'=> ?_⟩
   ·exact oK pm pn
   ·obtain⟨L3,p3,o3⟩:=f2 G' H' d'' L1' hG ha (fun p hp=>hl p (List.mem_cons_of_mem _ (List.mem_append_left _ hp))) o'
    obtain⟨L4,p4,o4⟩:=f (Own K G' H' s) (cG x q d'') w L3 (fun d v M hM o=>Own.mono hG ha s d v M (fun p hp=>hl p (List.mem_cons_of_mem _ (List.mem_append_right _ (hM p hp)))) o) o3
    rw[iL g1] at o4
    refine⟨a::L4,oK p4 p3,?_⟩
    unfold cG
    simp only[hi]
    unfold Own
    exact⟨a,vs,_,L4,rfl,rfl,(hl a List.mem_cons_self).trans e3,o4,rfl⟩
 | .dc s,d,v,L,.ky k::q,s',d',o,hs,hd=>by
  unfold Own at o
  obtain⟨a,vs,ds,L',rfl,rfl,e3,nd,o1,rfl⟩:=o
  unfold shP at hs
  unfold fj at hd
  cases hi:aG ds k with
  |none=>rw[hi] at hd;cases hd
  |some x=>
   rw[hi] at hd
   obtain⟨w,M1,M2,g1,g2,pm,f⟩:=dG.item o1 hi
   obtain⟨v',N1,N2,h1,h2,pn,f2⟩:=Own.place q g2 hs hd
   refine⟨v',N1,a::(N2++M2),⟨a,vs,w,rfl,.inl e3,g1,h1⟩,h2,?_,fun G' H' d'' L1' hG ha hl o'=> ?_⟩
   ·exact oK pm pn
   ·obtain⟨L3,p3,o3⟩:=f2 G' H' d'' L1' hG ha (fun p hp=>hl p (List.mem_cons_of_mem _ (List.mem_append_left _ hp))) o'
    obtain⟨L4,p4,o4⟩:=f (Own K G' H' s) (cG x q d'') w L3 (fun d v M hM o=>Own.mono hG ha s d v M (fun p hp=>hl p (List.mem_cons_of_mem _ (List.mem_append_right _ (hM p hp)))) o) o3
    rw[pX g1] at o4
    refine⟨a::L4,oK p4 p3,?_⟩
    unfold cG
    simp only[hi]
    unfold Own
    exact⟨a,vs,_,L4,rfl,rfl,(hl a List.mem_cons_self).trans e3,g9 nd,o4,rfl⟩
 | .dk od vs s,d,v,L,.ky k::q,s',d',o,hs,hd=>by
  unfold Own at o
  obtain⟨a,ds,L',rfl,rfl,e3,nd,o1,rfl⟩:=o
  unfold shP at hs
  unfold fj at hd
  cases hi:aG ds k with
  |none=>rw[hi] at hd;cases hd
  |some x=>
   rw[hi] at hd
   obtain⟨w,M1,M2,g1,g2,pm,f⟩:=dG.item o1 hi
   obtain⟨v',N1,N2,h1,h2,pn,f2⟩:=Own.place q g2 hs hd
   refine⟨v',N1,a::(N2++M2),⟨a,vs,w,rfl,.inr ⟨od,e3⟩,g1,h1⟩,h2,?_,fun G' H' d'' L1' hG ha hl o'=> ?_⟩
   ·exact oK pm pn
   ·obtain⟨L3,p3,o3⟩:=f2 G' H' d'' L1' hG ha (fun p hp=>hl p (List.mem_cons_of_mem _ (List.mem_append_left _ hp))) o'
    obtain⟨L4,p4,o4⟩:=f (Own K G' H' s) (cG x q d'') w L3 (fun d v M hM o=>Own.mono hG ha s d v M (fun p hp=>hl p (List.mem_cons_of_mem _ (List.mem_append_right _ (hM p hp)))) o) o3
    rw[pX g1] at o4
    refine⟨a::L4,oK p4 p3,?_⟩
    unfold cG
    simp only[hi]
    unfold Own
    exact⟨a,_,L4,rfl,rfl,(hl a List.mem_cons_self).trans e3,g9 nd,o4,rfl⟩
 | .dt s,d,v,L,.kt k::q,s',d',o,hs,hd=>by
  unfold Own at o
  obtain⟨a,vs,ds,L',rfl,rfl,e3,nd,o1,rfl⟩:=o
  unfold shP at hs
  unfold fj at hd
  cases hi:aG ds k with
  |none=>rw[hi] at hd;cases hd
  |some x=>
   rw[hi] at hd
   obtain⟨w,M1,M2,g1,g2,pm,f⟩:=dG.item o1 hi
   obtain⟨v',N1,N2,h1,h2,pn,f2⟩:=Own.place q g2 hs hd
   refine⟨v',N1,a::(N2++M2),⟨a,vs,w,rfl,e3,g1,h1⟩,h2,?_,fun G' H' d'' L1' hG ha hl o'=> ?_⟩
   ·exact oK pm pn
   ·obtain⟨L3,p3,o3⟩:=f2 G' H' d'' L1' hG ha (fun p hp=>hl p (List.mem_cons_of_mem _ (List.mem_append_left _ hp))) o'
    obtain⟨L4,p4,o4⟩:=f (Own K G' H' s) (cG x q d'') w L3 (fun d v M hM o=>Own.mono hG ha s d v M (fun p hp=>hl p (List.mem_cons_of_mem _ (List.mem_append_right _ (hM p hp)))) o) o3
    rw[pX g1] at o4
    refine⟨a::L4,oK p4 p3,?_⟩
    unfold cG
    simp only[hi]
    unfold Own
    exact⟨a,vs,_,L4,rfl,rfl,(hl a List.mem_cons_self).trans e3,g9 nd,o4,rfl⟩
 | .is fs,d,v,L,.fd k::q,s',d',o,hs,hd=>by
  unfold Own at o
  obtain⟨a,C,dx,vs,ds,L',rfl,rfl,e3,o1,rfl⟩:=o
  unfold shP at hs
  unfold fj at hd
  cases hi:ds.lookup k with
  |none=>rw[hi] at hd;cases hd
  |some x=>
   cases hj:fs.lookup k with
   |none=>rw[hj] at hs;cases hs
   |some s1=>
    rw[hi] at hd
    rw[hj] at hs
    obtain⟨w,M1,M2,g1,g2,pm,f⟩:=dH.item o1 hj hi
    obtain⟨v',N1,N2,h1,h2,pn,f2⟩:=Own.place q g2 hs hd
    refine⟨v',N1,a::(N2++M2),⟨a,_,dx,vs,w,rfl,e3,g1,h1⟩,h2,?_,fun G' H' d'' L1' hG ha hl o'=> ?_⟩
    ·exact oK pm pn
    ·obtain⟨L3,p3,o3⟩:=f2 G' H' d'' L1' hG ha (fun p hp=>hl p (List.mem_cons_of_mem _ (List.mem_append_left _ hp))) o'
     obtain⟨L4,p4,o4⟩:=f G' H' (cG x q d'') L3 hG ha (fun p hp=>hl p (List.mem_cons_of_mem _ (List.mem_append_right _ hp))) o3
     refine⟨a::L4,oK p4 p3,?_⟩
     unfold cG
     simp only[hi]
     unfold Own
     exact⟨a,C,dx,vs,_,L4,rfl,rfl,(hl a List.mem_cons_self).trans e3,o4,rfl⟩
 | .hl ss,d,v,L,.ix i::q,s',d',o,hs,hd=>by
  unfold Own at o
  obtain⟨a,vs,ds,L',rfl,rfl,e3,o1,rfl⟩:=o
  unfold shP at hs
  unfold fj at hd
  cases hi:ds[i]? with
  |none=>rw[hi] at hd;cases hd
  |some x=>
   cases hj:ss[i]? with
   |none=>rw[hj] at hs;cases hs
   |some s1=>
    rw[hi] at hd
    rw[hj] at hs
    obtain⟨w,M1,M2,g1,g2,pm,f⟩:=dh.item o1 hj hi
    obtain⟨v',N1,N2,h1,h2,pn,f2⟩:=Own.place q g2 hs hd
    refine⟨v',N1,a::(N2++M2),⟨a,vs,w,rfl,e3,g1,h1⟩,h2,?_,fun G' H' d'' L1' hG ha hl o'=> ?_⟩
    ·exact oK pm pn
    ·obtain⟨L3,p3,o3⟩:=f2 G' H' d'' L1' hG ha (fun p hp=>hl p (List.mem_cons_of_mem _ (List.mem_append_left _ hp))) o'
     obtain⟨L4,p4,o4⟩:=f G' H' (cG x q d'') L3 hG ha (fun p hp=>hl p (List.mem_cons_of_mem _ (List.mem_append_right _ hp))) o3
     refine⟨a::L4,oK p4 p3,?_⟩
     unfold cG
     simp only[hi]
     unfold Own
     exact⟨a,vs,_,L4,rfl,rfl,(hl a List.mem_cons_self).trans e3,o4,rfl⟩
 | .hl s,d,v,L,.ky k::q,s',d',o,hs,hd=>by simp[shP] at hs
 | .hl s,d,v,L,.kt k::q,s',d',o,hs,hd=>by simp[shP] at hs
 | .hl s,d,v,L,.fd k::q,s',d',o,hs,hd=>by simp[shP] at hs
 | .fz,d,v,L,x::q,s',d',o,hs,hd=>by cases x <;> simp[shP] at hs
 | .ls s,d,v,L,.ky k::q,s',d',o,hs,hd=>by simp[shP] at hs
 | .ls s,d,v,L,.kt k::q,s',d',o,hs,hd=>by simp[shP] at hs
 | .ls s,d,v,L,.fd k::q,s',d',o,hs,hd=>by simp[shP] at hs
 | .dc s,d,v,L,.ix k::q,s',d',o,hs,hd=>by simp[shP] at hs
 | .dc s,d,v,L,.kt k::q,s',d',o,hs,hd=>by simp[shP] at hs
 | .dc s,d,v,L,.fd k::q,s',d',o,hs,hd=>by simp[shP] at hs
 | .dt s,d,v,L,.ix k::q,s',d',o,hs,hd=>by simp[shP] at hs
 | .dt s,d,v,L,.ky k::q,s',d',o,hs,hd=>by simp[shP] at hs
 | .dt s,d,v,L,.fd k::q,s',d',o,hs,hd=>by simp[shP] at hs
 | .is s,d,v,L,.ix k::q,s',d',o,hs,hd=>by simp[shP] at hs
 | .is s,d,v,L,.ky k::q,s',d',o,hs,hd=>by simp[shP] at hs
 | .is s,d,v,L,.kt k::q,s',d',o,hs,hd=>by simp[shP] at hs
 | .dk _ _ s,d,v,L,.ix k::q,s',d',o,hs,hd=>by simp[shP] at hs
 | .dk _ _ s,d,v,L,.kt k::q,s',d',o,hs,hd=>by simp[shP] at hs
 | .dk _ _ s,d,v,L,.fd k::q,s',d',o,hs,hd=>by simp[shP] at hs
 | .lz,d,v,L,x::q,s',d',o,hs,hd=>by cases x <;> simp[shP] at hs
 | .op _,d,v,L,x::q,s',d',o,hs,hd=>by cases x <;> simp[shP] at hs
 | .tp _,d,v,L,x::q,s',d',o,hs,hd=>by cases x <;> simp[shP] at hs
 | .tq _,d,v,L,x::q,s',d',o,hs,hd=>by cases x <;> simp[shP] at hs
 | .ex _,d,v,L,x::q,s',d',o,hs,hd=>by cases x <;> simp[shP] at hs
termination_by _ _ _ _ q=>q.length
end
end Sw
namespace Sw
open PySem PySem.Spec PyProof.Rows L2
variable [NmC]
inductive Rg where
 |hb|bb|fz
inductive VM where
 |rg (r:Rg)|nw (s:Sh)|sp (r:Rg)
def rgn (O:Org) (G:Sa):Rg->Sa
 | .hb=>fun _=>True
 | .bb=>O.B
 | .fz=>G
def bh (K:Frg) (O:Org) (H H':Hp) (G':Sa):VM->D->V->Prop
 | .rg r,d,v=>Rep K (rgn O G' r) H' d v
 | .nw s,d,v=> ∃L,L.Nodup/\(∀p∈L,H p=none/\ ¬G' p)/\Own K G' H' s d v L
 | .sp r,d,v=>Spn K (rgn O G' r) G' H' d v
def rdE (K:Frg) (Δ:List Md) (st:Ds) (m:VM) (r:Option D):TE:=fun σ H Q=>
 ∃O G d,Rel K O Δ st σ H G/\r=some d/\ ∀v H' G',Ext H G H' G'->bh K O H H' G' m d v->Q v H'
def rdT (K:Frg) (Δ:List Md) (st:Ds) (r:Option Bool):TT:=fun σ H Q=>
 ∃O G b,Rel K O Δ st σ H G/\r=some b/\ ∀H' G',Ext H G H' G'->Q b H'
def kW (K:Frg) (O:Org) (H H':Hp) (G':Sa):List VM->List D->List V->Prop
 | [],[],vs=>vs=[]
 |m::ms,d::ds,vs=> ∃v r,vs=v::r/\bh K O H H' G' m d v/\kW K O H H' G' ms ds r
 |_,_,_=>False
def rdA (K:Frg) (Δ:List Md) (st:Ds) (ms:List VM) (r:Option (List D)):TA:=fun σ H Q=>
 ∃O G ds,Rel K O Δ st σ H G/\r=some ds/\ ∀vs H' G',Ext H G H' G'->kW K O H H' G' ms ds vs->Q vs H'
abbrev PX (X:Cx) (Δ:List Md) (st:Ds) (e:Expr) (m:VM) (r:Option D):Prop:=PE X e (rdE X.K Δ st m r)
abbrev PTx (X:Cx) (Δ:List Md) (st:Ds) (e:Expr) (r:Option Bool):Prop:=PT X e (rdT X.K Δ st r)
abbrev PWx (X:Cx) (Δ:List Md) (st:Ds) (e:Expr) (r:Option Bool):Prop:=PW X e (rdT X.K Δ st r)
abbrev PAx (X:Cx) (Δ:List Md) (st:Ds) (es:List Expr) (ms:List VM) (r:Option (List D)):Prop:=PA X es (rdA X.K Δ st ms r)
section
variable {X:Cx} {e:Expr} {es:List Expr} {t t':TE} {pos:Pos}
theorem bj (h:PE X e t) (i: ∀σ H Q,t' σ H Q->t σ H Q):PE X e t':=⟨fun pins s σ H Q I q=>h.run pins s σ H Q I (i σ H Q q)⟩
theorem yu {t t':TT} (h:PT X e t) (i: ∀σ H Q,t' σ H Q->t σ H Q):PT X e t':=⟨fun pins s σ H Q I q=>h.run pins s σ H Q I (i σ H Q q)⟩
theorem Gb {t t':TT} (h:PW X e t) (i: ∀σ H Q,t' σ H Q->t σ H Q):PW X e t':=⟨fun w pins s σ H Q I q=>h.run w pins s σ H Q I (i σ H Q q)⟩
theorem yw {t t':TA} (h:PA X es t) (i: ∀σ H Q,t' σ H Q->t σ H Q):PA X es t':=⟨fun pos pins s σ H Q I q=>h.run pos pins s σ H Q I (i σ H Q q)⟩
theorem cV {t t':TS} {st:List Stmt} (h:PSs X st t) (i: ∀D σ H,t' D σ H->t D σ H):PSs X st t':=⟨fun pins s σ H D I q=>h.run pins s σ H D I (i D σ H q)⟩
end
section
variable {K:Frg} {O:Org} {H H1 H2:Hp} {G G1 G2:Sa} {Δ:List Md} {st:Ds} {σ:CS}
theorem bh.mono {m:VM} {d:D} {v:V} (h:bh K O H H1 G1 m d v) (e:Ext H1 G1 H2 G2):bh K O H H2 G2 m d v:=by
 cases m with
 |rg r=>
  cases r with
  |hb=>exact Rep.mono (fun _ g=>g) e.agr d v h
  |bb=>exact Rep.mono (fun _ g=>g) e.agr d v h
  |fz=>exact Rep.mono e.gg e.agr d v h
 |nw s=>
  obtain⟨L,nd,f,o⟩:=h
  have hk:=Own.kind s d v L o
  refine⟨L,nd,fun p m=>⟨(f p m).1,fun g=> ?_⟩,Own.mono e.gg e.agr s d v L (fun p m=>e.uq (hk p m)) o⟩
  rcases e.gn p g with g|⟨n,_⟩|⟨xs,t⟩
  ·exact (f p m).2 g
  ·exact (hk p m).ne n
  ·exact (hk p m).DJ t
 |sp r=>
  cases r with
  |hb=>exact Spn.mono (fun _ g=>g) e.gg e.agr e.agr h
  |bb=>exact Spn.mono (fun _ g=>g) e.gg e.agr e.agr h
  |fz=>exact Spn.mono e.gg e.gg e.agr e.agr h
theorem Ext.back (e:Ext H G H1 G1) {p:Addr} (h:H1 p=none):H p=none:=e.bk h
theorem bh.back {m:VM} {d:D} {v:V} (e:Ext H G H1 G1) (h:bh K O H1 H2 G2 m d v):bh K O H H2 G2 m d v:=by
 cases m with
 |rg r=>exact h
 |nw s=>
  obtain⟨L,nd,f,o⟩:=h
  exact⟨L,nd,fun p m=>⟨e.back (f p m).1,(f p m).2⟩,o⟩
 |sp r=>exact h
theorem kW.back: ∀{ms:List VM} {ds:List D} {vs:List V},Ext H G H1 G1->kW K O H1 H2 G2 ms ds vs->kW K O H H2 G2 ms ds vs
 | [],[],_,_,h=>h
 |m::ms,d::ds,_,e,⟨v,r,e1,h1,h2⟩=>⟨v,r,e1,h1.back e,kW.back e h2⟩
 | [],_::_,_,_,h=>h.elim
 |_::_,[],_,_,h=>h.elim
theorem rdE.go {m:VM} {r:Option D} {d:D} {Q:VK} (rel:Rel K O Δ st σ H G) (e:r=some d) (k: ∀v H' G',Rel K O Δ st σ H' G'->Ext H G H' G'->bh K O H H' G' m d v->Q v H'):rdE K Δ st m r σ H Q:=
 ⟨O,G,d,rel,e,fun v H' G' x h=>k v H' G' (rel.ext x) x h⟩
theorem rdT.go {r:Option Bool} {b:Bool} {Q:Bool->Hp->Prop} (rel:Rel K O Δ st σ H G) (e:r=some b) (k: ∀H' G',Rel K O Δ st σ H' G'->Ext H G H' G'->Q b H'):rdT K Δ st r σ H Q:=
 ⟨O,G,b,rel,e,fun H' G' x=>k H' G' (rel.ext x) x⟩
theorem rdA.go {ms:List VM} {r:Option (List D)} {d:List D} {Q:List V->Hp->Prop} (rel:Rel K O Δ st σ H G) (e:r=some d) (k: ∀v H' G',Rel K O Δ st σ H' G'->Ext H G H' G'->kW K O H H' G' ms d v->Q v H'):rdA K Δ st ms r σ H Q:=
 ⟨O,G,d,rel,e,fun v H' G' x h=>k v H' G' (rel.ext x) x h⟩
theorem bh.hb {m:VM} {d:D} {v:V} (h:bh K O H H1 G1 m d v):Rep K (fun _=>True) H1 d v:=by
 cases m with
 |rg r=>exact Rep.mono (fun _ _=>trivial) aC d v h
 |nw s=>
  obtain⟨L,nd,f,o⟩:=h
  exact Rep.mono (fun _ _=>trivial) aC d v (Own.rep s d v L o)
 |sp r=>exact Spn.rep h
theorem bO {α β γ:Type} {a:Option α} {b:Option β} {f:α->β->Option γ} {d:γ} (h:(a.bind fun x=>b.bind fun y=>f x y)=some d): ∃x y,a=some x/\b=some y/\f x y=some d:=by
 cases a with
 |none=>cases h
 |some x=>
  cases b with
  |none=>cases h
  |some y=>exact⟨x,y,rfl,rfl,h⟩
theorem bind1 {α γ:Type} {a:Option α} {f:α->Option γ} {d:γ} (h:a.bind f=some d): ∃x,a=some x/\f x=some d:=by
 cases a with
 |none=>cases h
 |some x=>exact⟨x,rfl,h⟩
end
mutual
def D.ev:D->Bool
 | .non=>true| .bl _=>true| .int _=>true| .str _=>true| .fn _=>true| .glf _=>true
 | .tup ds=>D.evs ds
 |_=>false
def D.evs:List D->Bool
 | []=>true
 |d::ds=>D.ev d&&D.evs ds
end
def D.et (d:D):Option D:=if d.ev=true then some d else none
section
variable {K:Frg} {S G:Sa} {H:Hp}
mutual
theorem Rep.et: ∀(d:D) (v:V),d.ev=true->Rep K S H d v-> ∃N:Sa,(∀p,N p-> ∃xs,H p=some (.tup xs))/\Rep K (fun p=>G p\/N p) H d v
 | .non,v,_,h=>⟨fun _=>False,fun _ f=>f.elim,h⟩
 | .bl _,v,_,h=>⟨fun _=>False,fun _ f=>f.elim,h⟩
 | .int _,v,_,h=>⟨fun _=>False,fun _ f=>f.elim,h⟩
 | .str _,v,_,h=>⟨fun _=>False,fun _ f=>f.elim,h⟩
 | .fn _,v,_,h=>⟨fun _=>False,fun _ f=>f.elim,h⟩
 | .glf _,v,_,h=>⟨fun _=>False,fun _ f=>f.elim,h⟩
 | .tup ds,v,he,h=>by
  unfold Rep at h
  unfold D.ev at he
  obtain⟨a,vs,e,l,r⟩:=h
  obtain⟨N,hN,g⟩:=aE.et ds vs he r
  refine⟨fun p=>N p\/(p=a/\H a=some (.tup vs)),fun p hp=> ?_,?_⟩
  ·rcases hp with hp|⟨rfl,hp⟩
   ·exact hN p hp
   ·exact⟨_,hp⟩
  ·unfold Rep
   exact⟨a,vs,e,⟨.inr (.inr ⟨rfl,l.2⟩),l.2⟩,aE.mono (fun p x=>x.imp id .inl) aC ds vs g⟩
 | .lst _,v,he,h=>by simp[D.ev] at he
 | .dct _,v,he,h=>by simp[D.ev] at he
 | .dcT _,v,he,h=>by simp[D.ev] at he
 | .ins _ _,v,he,h=>by simp[D.ev] at he
 | .sc _,v,he,h=>by simp[D.ev] at he
theorem aE.et: ∀(ds:List D) (vs:List V),D.evs ds=true->aE K S H ds vs-> ∃N:Sa,(∀p,N p-> ∃xs,H p=some (.tup xs))/\aE K (fun p=>G p\/N p) H ds vs
 | [],vs,_,h=>by unfold aE at h;rw[h];exact⟨fun _=>False,fun _ f=>f.elim,.nil⟩
 |d::ds,vs,he,h=>by
  unfold aE at h
  unfold D.evs at he
  rw[Bool.and_eq_true] at he
  obtain⟨v,r,e,h1,h2⟩:=h
  obtain⟨N1,hN1,g1⟩:=Rep.et d v he.1 h1
  obtain⟨N2,hN2,g2⟩:=aE.et ds r he.2 h2
  subst e
  refine⟨fun p=>N1 p\/N2 p,fun p hp=>hp.elim (hN1 p) (hN2 p),.cons (Rep.mono (fun p x=>x.imp id .inl) aC d v g1) (aE.mono (fun p x=>x.imp id .inr) aC ds r g2)⟩
end
end
section
variable {X:Cx} {Δ:List Md} {st:Ds} {e:Expr} {m:VM} {r:Option D}
theorem c8 {s:Sh} (h:PX X Δ st e (.nw s) r):PX X Δ st e (.rg .fz) r:=bj h fun σ H Q ⟨O,G,d,rel,er,k⟩=>⟨O,G,d,rel,er,fun v H' G' x ⟨L,nd,f,o⟩=>by
 refine k v H' (fun p=>G' p\/p∈L) (x.re (fun p g=>.inl (x.gg p g)) fun p g=> ?_) (Own.rep s d v L o)
 rcases g with g|g
 ·exact x.gn p g
 ·exact .inr (.inl ⟨(f p g).1,(Own.kind s d v L o p g).ne⟩)⟩
theorem uu (h:PX X Δ st e m r):PX X Δ st e (.rg .fz) (r.bind D.et):=bj h fun σ H Q ⟨O,G,d,rel,er,k⟩=>by
 obtain⟨d',e1,e2⟩:=bind1 er
 unfold D.et at e2
 split at e2
 ·rename_i hev
  cases e2
  refine⟨O,G,d,rel,e1,fun v H' G' x hv=> ?_⟩
  obtain⟨N,hN,g⟩:=Rep.et (G:=G') d v hev hv.hb
  refine k v H' (fun p=>G' p\/N p) (x.re (fun p g=>.inl (x.gg p g)) fun p g=> ?_) g
  rcases g with g|g
  ·exact x.gn p g
  ·obtain⟨xs,t⟩:=hN p g
   rcases x.was t (fun _ z=>by cases z) with q|q
   ·exact .inr (.inr ⟨xs,q⟩)
   ·exact .inr (.inl ⟨q,by rw[t];simp⟩)
 ·cases e2
theorem aA {i:Int} {j pos} {rg:Rg}:PX X Δ st (.Constant (.int i) j pos) (.rg rg) (some (.int i)):=bj pe_int fun σ H Q ⟨O,G,d,rel,er,k⟩=>by
 cases er;exact k _ H G .refl (by unfold bh Rep;rfl)
theorem aF {i:Str} {j pos} {rg:Rg}:PX X Δ st (.Constant (.str i) j pos) (.rg rg) (some (.str i)):=bj pe_str fun σ H Q ⟨O,G,d,rel,er,k⟩=>by
 cases er;exact k _ H G .refl (by unfold bh Rep;rfl)
theorem kX {i:Bool} {j pos} {rg:Rg}:PX X Δ st (.Constant (.bool i) j pos) (.rg rg) (some (.bl i)):=bj pe_bl fun σ H Q ⟨O,G,d,rel,er,k⟩=>by
 cases er;exact k _ H G .refl (by unfold bh Rep;rfl)
theorem kK {j pos} {rg:Rg}:PX X Δ st (.Constant .none j pos) (.rg rg) (some .non):=bj pe_non fun σ H Q ⟨O,G,d,rel,er,k⟩=>by
 cases er;exact k _ H G .refl (by unfold bh Rep;rfl)
def Qf:Md->Rg
 | .bo=>.bb| .fz=>.fz| .ow _=>.hb| .pn _ _=>.hb| .bl=>.hb
theorem ae (i:Nat) {x:Str} {pos:Pos} {md:Md} {d:D} (hm:Δ[i]? =some md) (hd:st[i]? =some (some d)) (hN:X.N[i]? =some x) (hv:Vis X.env.scope x) (h1:(x==("__debug__" :Str))=false:=by decide) (h2:(x==("__classdict__" :Str))=false:=by decide):
  PX X Δ st (.Name x pos) (.rg (Qf md)) (some d):=bj (pe_var hN hv h1 h2) fun σ H Q ⟨O,G,d',rel,er,k⟩=>by
 cases er
 obtain⟨L,g,s⟩:=rel
 obtain⟨x',y',L1,L2,ex,ey,sr,pm,_⟩:=s.split hm
 rw[hd] at ex;cases ex
 cases md with
 |bo=>obtain⟨v,e1,r1,_⟩:=sr;subst e1;exact⟨v,ey,k v H G .refl r1⟩
 |fz=>obtain⟨v,e1,r1,_⟩:=sr;subst e1;exact⟨v,ey,k v H G .refl r1⟩
 |ow s=>obtain⟨v,e1,r1⟩:=sr;subst e1;exact⟨v,ey,k v H G .refl (Rep.mono (fun _ _=>trivial) aC _ _ (Own.rep _ _ _ _ r1))⟩
 |pn v s=>obtain⟨e1,r1⟩:=sr;subst e1;exact⟨v,ey,k v H G .refl (Rep.mono (fun _ _=>trivial) aC _ _ (Own.rep _ _ _ _ r1))⟩
 |bl=>obtain⟨v,e1,r1,_⟩:=sr;subst e1;exact⟨v,ey,k v H G .refl r1.rep⟩
end
section
variable {X:Cx} {Δ:List Md} {st:Ds} {a b c e o:Expr} {es:List Expr} {m ma mb mc:VM} {ra rb rc:Option D} {pos:Pos}
def Op2 (X:Cx) (r2:R2) (ma mb:VM) (m:VM) (f:D->D->Option D):Prop:=
 ∀O H0 H G x y v w d Q,f x y=some d->bh X.K O H0 H G ma x v->bh X.K O H0 H G mb y w->(∀p,G p->H p≠none)->(∀u H' G',Ext H G H' G'->bh X.K O H H' G' m d u->Q u H')->r2 v w H Q
def Op1 (X:Cx) (r1:V->Hp->VK->Prop) (ma:VM) (m:VM) (f:D->Option D):Prop:=
 ∀O H0 H G x v d Q,f x=some d->bh X.K O H0 H G ma x v->(∀p,G p->H p≠none)->(∀u H' G',Ext H G H' G'->bh X.K O H H' G' m d u->Q u H')->r1 v H Q
def OpN (X:Cx) (rn:List V->Hp->VK->Prop) (ms:List VM) (m:VM) (f:List D->Option D):Prop:=
 ∀O H0 H G xs vs d Q,f xs=some d->kW X.K O H0 H G ms xs vs->(∀p,G p->H p≠none)->(∀u H' G',Ext H G H' G'->bh X.K O H H' G' m d u->Q u H')->rn vs H Q
theorem Rel.tb {K:Frg} {O:Org} {σ:CS} {H:Hp} {G:Sa} (r:Rel K O Δ st σ H G):LamX.Tabs NmC.T H:=by
 obtain⟨L,g,_⟩:=r
 exact g.tb
theorem Rel.gin {K:Frg} {O:Org} {σ:CS} {H:Hp} {G:Sa} (r:Rel K O Δ st σ H G): ∀p,G p->H p≠none:=by
 obtain⟨L,g,_⟩:=r
 exact g.gin
theorem zj {r2:R2} {f:D->D->Option D} (hf:Op2 X r2 ma mb m f) {σ:CS} {H:Hp} {Q:VK} (h:rdE X.K Δ st m (ra.bind fun x=>rb.bind fun y=>f x y) σ H Q):tOp r2 (rdE X.K Δ st ma ra) (rdE X.K Δ st mb rb) σ H Q:=by
 obtain⟨O,G,d,rel,er,k⟩:=h
 obtain⟨x,y,e1,e2,e3⟩:=bO er
 refine rdE.go rel e1 fun v H1 G1 rel1 x1 v1=>rdE.go rel1 e2 fun w H2 G2 rel2 x2 v2=> ?_
 exact hf O H H2 G2 x y v w d Q e3 (v1.mono x2) (v2.back x1) rel2.gin fun u H' G' x3 hu=>k u H' G' (x1.trans (x2.trans x3)) (hu.back (x1.trans x2))
theorem aI {op:Operator} {r2:R2} {f:D->D->Option D} (ho:OpR X (binaryOp op) r2) (hf:Op2 X r2 ma mb m f) (ha:PX X Δ st a ma ra) (hb:PX X Δ st b mb rb):PX X Δ st (.BinOp a op b pos) m (ra.bind fun x=>rb.bind fun y=>f x y):=
 bj (pe_op ho ha hb) fun _ _ _ h=>zj hf h
theorem mn {op:CmpOp} {r2:R2} {f:D->D->Option D} (ho:OpR X (compareOp op) r2) (hf:Op2 X r2 ma mb m f) (ha:PX X Δ st a ma ra) (hb:PX X Δ st b mb rb) (hm:behindInMarks op b=false):PX X Δ st (.Compare a [op] [b] pos) m (ra.bind fun x=>rb.bind fun y=>f x y):=
 bj (pe_cmpR ho ha hb hm) fun _ _ _ h=>zj hf h
def blD (f:D->D->Option Bool) (x y:D):Option D:=(f x y).map D.bl
theorem bh.bl {K:Frg} {O:Org} {H H1:Hp} {G1:Sa} {r:Rg} {b:Bool} {v:V} (h:bh K O H H1 G1 (.rg r) (.bl b) v):v= .bl b:=by
 unfold bh Rep at h;exact h
theorem aO {op:CmpOp} {r2:R2} {f:D->D->Option Bool} (ho:OpR X (compareOp op) r2) (hf:Op2 X r2 ma mb (.rg .fz) (blD f)) (ha:PX X Δ st a ma ra) (hb:PX X Δ st b mb rb) (hm:behindInMarks op b=false):PTx X Δ st (.Compare a [op] [b] pos) (ra.bind fun x=>rb.bind fun y=>f x y):=
 yu (pt_cmpR ho ha hb hm) fun σ H Q ⟨O,G,c,rel,er,k⟩=>by
  obtain⟨x,y,e1,e2,e3⟩:=bO er
  refine zj (m:=.rg .fz) (f:=blD f) hf ⟨O,G,.bl c,rel,by rw[e1,e2];show (f x y).map D.bl=_;rw[e3];rfl,fun v H' G' x hv=>⟨c,hv.bl,k H' G' x⟩⟩
theorem KS {op:UnaryOp} {r1:V->Hp->VK->Prop} {f:D->Option D} (ho:UnR X (unaryOp op) r1) (hf:Op1 X r1 ma m f) (ha:PX X Δ st a ma ra):PX X Δ st (.UnaryOp op a pos) m (ra.bind f):=
 bj (pe_un ho ha) fun σ H Q ⟨O,G,d,rel,er,k⟩=>by
  obtain⟨x,e1,e2⟩:=bind1 er
  exact rdE.go rel e1 fun v H1 G1 rel1 x1 v1=>hf O H H1 G1 x v d Q e2 v1 rel1.gin fun u H' G' x3 hu=>k u H' G' (x1.trans x3) (hu.back x1)
theorem aB:PAx X Δ st [] [] (some []):=yw pa_nil fun σ H Q ⟨O,G,d,rel,er,k⟩=>by
 cases er;exact k _ H G .refl rfl
theorem af {ms:List VM} {rs:Option (List D)} (ha:PX X Δ st e m ra) (hr:PAx X Δ st es ms rs) (hs:starEach (e::es) X.env=(false,eval e X.env)::starEach es X.env:=by rfl):
  PAx X Δ st (e::es) (m::ms) (ra.bind fun x=>rs.bind fun xs=>some (x::xs)):=yw (pa_cons ha hr hs) fun σ H Q ⟨O,G,d,rel,er,k⟩=>by
 obtain⟨x,y,e1,e2,e3⟩:=bO er
 cases e3
 exact rdE.go rel e1 fun v H1 G1 rel1 x1 v1=>rdA.go rel1 e2 fun w H2 G2 rel2 x2 v2=>k _ H2 G2 (x1.trans x2) ⟨v,w,rfl,v1.mono x2,v2.back x1⟩
theorem dI {x:Str} {p:Pos} {id:String} {ms:List VM} {rs:Option (List D)} {rn:List V->Hp->VK->Prop} {f:List D->Option D} (hc:CallR X (.builtin id) rn) (hf:OpN X rn ms m f) (hg:Gl X x) (hm:X.mg x=none) (hv:bootBuiltins x=some (.builtin id)) (ha:PAx X Δ st (e::es) ms rs)
  (hn:x≠"__name__" :=by decide) (hdb:(x==("__debug__" :Str))=false:=by decide) (he:starEach (e::es) X.env=(false,eval e X.env)::starEach es X.env:=by rfl) (hpl:(backTo pos (starEach es X.env)).any (·.1)=false:=by rfl):
  PX X Δ st (.Call (.Name x p) (e::es) [] pos) m (rs.bind f):=bj (pe_callB hc hg hm hv ha hn hdb he hpl) fun σ H Q ⟨O,G,d,rel,er,k⟩=>by
 obtain⟨xs,e1,e2⟩:=bind1 er
 exact rdA.go rel e1 fun v H1 G1 rel1 x1 v1=>hf O H H1 G1 xs v d Q e2 v1 rel1.gin fun u H' G' x3 hu=>k u H' G' (x1.trans x3) (hu.back x1)
theorem pY {x:Str} {p:Pos} {T:String} {ms:List VM} {rs:Option (List D)} {rn:List V->Hp->VK->Prop} {f:List D->Option D} (hc:CallR X (.type T) rn) (hf:OpN X rn ms m f) (hg:Gl X x) (hm:X.mg x=none) (hv:bootBuiltins x=some (.type T)) (ha:PAx X Δ st (e::es) ms rs)
  (hn:x≠"__name__" :=by decide) (hdb:(x==("__debug__" :Str))=false:=by decide) (he:starEach (e::es) X.env=(false,eval e X.env)::starEach es X.env:=by rfl) (hpl:(backTo pos (starEach es X.env)).any (·.1)=false:=by rfl):
  PX X Δ st (.Call (.Name x p) (e::es) [] pos) m (rs.bind f):=bj (pe_callTy hc hg hm hv ha hn hdb he hpl) fun σ H Q ⟨O,G,d,rel,er,k⟩=>by
 obtain⟨xs,e1,e2⟩:=bind1 er
 exact rdA.go rel e1 fun v H1 G1 rel1 x1 v1=>hf O H H1 G1 xs v d Q e2 v1 rel1.gin fun u H' G' x3 hu=>k u H' G' (x1.trans x3) (hu.back x1)
end
end Sw
namespace Sw
open PySem PySem.Spec PyProof.Rows L2
variable [NmC]
structure Xn where
 C:Str
 fs:List (Str×D)
inductive Out (α β:Type) where
 |nx (a:α)|bk (b:β)|ct (b:β)|ret (d:D) (os:List D)|exc (x:Xn)
inductive FR where
 |ok (d:D) (os:List D)|er (x:Xn)
structure Exits (α β:Type) where
 Dn:List Md
 en:α->Ds
 Dl:List Md
 el:β->Ds
 rm:VM
 pins:List (V×Sh)
 xw:XK
 fl:Bool
def x9 (K:Frg) (G:Sa) (H:Hp):List (V×Sh)->List D->List Addr->Prop
 | [],[],L=>L=[]
 |(v,s)::ps,d::ds,L=> ∃L1 L2,Own K G H s d v L1/\x9 K G H ps ds L2/\L=L1++L2
 |_,_,_=>False
def Qg (K:Frg) (G:Sa) (H:Hp):VM->D->V->List Addr->Prop
 | .rg .fz,d,v,L=>Rep K G H d v/\L=[]
 | .rg _,_,_,_=>False
 | .nw s,d,v,L=>Own K G H s d v L
 | .sp _,_,_,_=>False
def Ca (K:Frg) (rm:VM) (ps:List (V×Sh)) (O:Org) (d:D) (os:List D) (v:V) (H:Hp) (G:Sa):Prop:=
 ∃L1 L2,cU O H G (L1++L2)/\Qg K G H rm d v L1/\x9 K G H ps os L2
def XcR (K:Frg) (ps:List (V×Sh)) (O:Org) (x:Xn) (c:Value) (od:Option Addr) (H:Hp) (G:Sa):Prop:=
 c= .ref (He.ga K x.C)/\(∃L,cU O H G L)/\((x.fs=[]/\od=none)\/ ∃a fvs,od=some a/\H a=some (.xd fvs)/\O.H0 a=none/\ ¬G a/\fg K G H x.fs fvs)
def Meets {α β:Type} (K:Frg) (E:Exits α β) (O:Org) (De:Ends):Out α β->Prop
 | .nx a=> ∀σ H G,Rel K O E.Dn (E.en a) σ H G->De.nx σ H
 | .bk b=> ∀σ H G,Rel K O E.Dl (E.el b) σ H G->De.bk σ H
 | .ct b=> ∀σ H G,Rel K O E.Dl (E.el b) σ H G->De.ct σ H
 | .ret d os=> ∀v H G,Ca K E.rm E.pins O d os v H G->De.rt v H/\(E.fl=true->v= .non-> ∀σ,De.nx σ H)
 | .exc x=> ∀c od H G,XcR K E.pins O x c od H G->E.xw c od H
def rdS {α β:Type} (K:Frg) (E:Exits α β) (Δ:List Md) (st:Ds) (m:Option (Out α β)):TS:=fun De σ H=>
 ∃O G r,Rel K O Δ st σ H G/\m=some r/\Meets K E O De r
abbrev Blk {α β:Type} (X:Cx) (E:Exits α β) (Δ:List Md) (st:Ds) (ss:List Stmt) (m:Option (Out α β)):Prop:=PSs X ss (rdS X.K E Δ st m)
theorem fJ {X:Cx} {ss:List Stmt} {α:Type} {t:α->TS} (h: ∀a,PSs X ss (t a)):PSs X ss (fun De σ H=> ∃a,t a De σ H):=⟨fun pins s σ H De I ⟨a,q⟩=>(h a).run pins s σ H De I q⟩
theorem KU {X:Cx} {e:Expr} {α:Type} {t:α->TE} (h: ∀a,PE X e (t a)):PE X e (fun σ H Q=> ∃a,t a σ H Q):=⟨fun pins s σ H De I ⟨a,q⟩=>(h a).run pins s σ H De I q⟩
theorem Oc {X:Cx} {e:Expr} {α:Type} {t:α->TT} (h: ∀a,PT X e (t a)):PT X e (fun σ H Q=> ∃a,t a σ H Q):=⟨fun pins s σ H De I ⟨a,q⟩=>(h a).run pins s σ H De I q⟩
def kL:List Md->Ds->Option (List D)
 | [],[]=>some []
 | .pn _ _::ms,some d::st=>(kL ms st).map fun ds=>d::ds
 | .pn _ _::_,none::_=>none
 |_::ms,_::st=>kL ms st
 |_,_=>none
def EY:List Md->List (V×Sh)
 | []=>[]
 | .pn v s::ms=>(v,s)::EY ms
 |_::ms=>EY ms
section
variable {K:Frg} {O:Org} {B G:Sa} {H:Hp}
theorem Slots.pins: ∀{Δ:List Md} {st:Ds} {σ:CS} {L:List Addr} {os:List D},Slots K B G H Δ st σ L->kL Δ st=some os-> ∃L',L'.Sublist L/\x9 K G H (EY Δ) os L'
 | [],[],[],_,_,h,e=>by cases e;exact⟨[],List.nil_sublist _,rfl⟩
 | .pn v s::ms,some d::xs,y::ys,_,os,⟨L1,L2,h1,h2,e⟩,e'=>by
  unfold kL at e'
  cases q:kL ms xs with
  |none=>rw[q] at e';cases e'
  |some ds=>
   rw[q] at e';cases e'
   obtain⟨L',sl,p⟩:=Slots.pins h2 q
   exact⟨L1++L',e▸List.Sublist.append (List.Sublist.refl _) sl,L1,L',h1.2,p,rfl⟩
 | .pn v s::ms,none::xs,y::ys,_,os,_,e'=>by cases e'
 | .bo::ms,x::xs,y::ys,_,os,⟨L1,L2,h1,h2,e⟩,e'=>by
  obtain⟨L',sl,p⟩:=Slots.pins h2 (by unfold kL at e';exact e')
  exact⟨L',e▸sl.trans (List.sublist_append_right _ _),p⟩
 | .fz::ms,x::xs,y::ys,_,os,⟨L1,L2,h1,h2,e⟩,e'=>by
  obtain⟨L',sl,p⟩:=Slots.pins h2 (by unfold kL at e';exact e')
  exact⟨L',e▸sl.trans (List.sublist_append_right _ _),p⟩
 | .bl::ms,x::xs,y::ys,_,os,⟨L1,L2,h1,h2,e⟩,e'=>by
  obtain⟨L',sl,p⟩:=Slots.pins h2 (by unfold kL at e';exact e')
  exact⟨L',e▸sl.trans (List.sublist_append_right _ _),p⟩
 | .ow _::ms,x::xs,y::ys,_,os,⟨L1,L2,h1,h2,e⟩,e'=>by
  obtain⟨L',sl,p⟩:=Slots.pins h2 (by unfold kL at e';exact e')
  exact⟨L',e▸sl.trans (List.sublist_append_right _ _),p⟩
 | [],[],_::_,_,_,h,_=>h.elim
 | [],_::_,_,_,_,h,_=>h.elim
 |_::_,[],_,_,_,h,_=>h.elim
 |_::_,_::_,[],_,_,h,_=>h.elim
theorem cU.zl {L L1:List Addr} (r:cU O H G L) (hk: ∀p∈L,Ndd H p) {H0:Hp} (hn: ∀p,H0 p=none->O.H0 p=none) (nd:L1.Nodup) (h: ∀p∈L1,H0 p=none/\ ¬G p) (hl: ∀p∈L,H0 p≠none):cU O H G (L1++L):=
 ⟨r.bin,r.fr0,r.gsub,r.gold,r.gin,r.dom,List.nodup_append.mpr ⟨nd,r.nd,fun a ha b hb e=>hl b hb (e▸(h a ha).1)⟩,fun p m=>by
  rcases List.mem_append.mp m with m|m
  ·exact⟨(h p m).2,.inr (hn p (h p m).1)⟩
  ·exact r.lg p m,r.tl,r.tb⟩
theorem cU.back {L:List Addr} (r:cU O H G L) {p:Addr} (h:H p=none):O.H0 p=none:=by
 cases q:O.H0 p with
 |none=>rfl
 |some u=>exact absurd h (r.dom p (by rw[q];simp))
end
section
variable {α β γ:Type} {X:Cx} {E:Exits α β} {Δ:List Md} {st:Ds} {rest:List Stmt} {e:Expr} {m:VM} {r:Option D} {pos:Pos}
theorem aQ {a:α} (w:Wk Δ st E.Dn (E.en a)):Blk X E Δ st [] (some (.nx a)):=cV pss_nil fun De σ H ⟨O,G,r,rel,er,k⟩=>by
 cases er;exact k σ H G (rel.weak w)
def Ge:VM->Bool
 | .rg .fz=>true
 | .nw _=>true
 |_=>false
theorem aT {os:List D} (he:PX X Δ st e m r) (hm:E.rm=m) (hp:kL Δ st=some os) (hq:EY Δ=E.pins) (hi:Ge m=true:=by rfl):Blk X E Δ st (.Return (some e) pos::rest) (r.bind fun d=>some (.ret d os)):=
 cV (pss_cons (ps_ret he) pss_never) fun De σ H ⟨O,G,q,rel,er,k⟩=>by
  obtain⟨d,e1,e2⟩:=bind1 er
  cases e2
  refine rdE.go rel e1 fun v H1 G1 rel1 x1 v1=> ?_
  obtain⟨L,g,s⟩:=rel
  have g1:=g.ext x1 s.kind (x1.gin g.gin)
  have s1:=Slots.mono (G':=G1) (H':=H1) x1.gg x1.agr x1.agr (fun p m=>x1.uq (s.kind p m)) s
  obtain⟨L',sl,p⟩:=s1.pins hp
  refine (k v H1 G1 ?_).1
  rw[hm,←hq]
  cases m with
  |rg r=>
   cases r with
   |fz=>exact⟨[],L',g1.sub sl,⟨v1,rfl⟩,p⟩
   |hb=>cases hi
   |bb=>cases hi
  |nw sh=>
   obtain⟨L1,nd,f,o⟩:=v1
   exact⟨L1,L',(g1.zl s1.kind (H0:=H) (fun p h=>g.back h) nd f fun p m=>(s.kind p m).ne).sub (List.Sublist.append (List.Sublist.refl _) sl),o,p⟩
  |sp r=>cases hi
def Cb:VM->Option Md
 | .rg .bb=>some .bo
 | .rg .fz=>some .fz
 | .rg .hb=>none
 | .nw s=>some (.ow s)
 | .sp .bb=>some .bl
 | .sp _=>none
theorem Rel.qI {O:Org} {K:Frg} {H H1:Hp} {G G1:Sa} {σ:CS} {i:Nat} {d:D} {v:V} {md:Md} (rel:Rel K O Δ st σ H G) (x1:Ext H G H1 G1) (hi:i<Δ.length) (hm:Cb m=some md) (hv:bh K O H H1 G1 m d v):
  Rel K O (Δ.set i md) (st.set i (some d)) (σ.set i (some v)) H1 G1:=by
 obtain⟨L,g0,s0⟩:=rel
 have g:=g0.ext x1 s0.kind (x1.gin g0.gin)
 have s:=Slots.mono (G':=G1) (H':=H1) x1.gg x1.agr x1.agr (fun p m=>x1.uq (s0.kind p m)) s0
 obtain⟨x',y',L1,L2,ex,ey,sr,pm,f⟩:=s.split (List.getElem?_eq_getElem hi)
 have hk: ∀p∈L2,Ndd H1 p:=fun p hp=>s.kind p (pm.mem_iff.mpr (List.mem_append_right _ hp))
 have base:cU O H1 G1 L2:=(g.perm pm).sub (List.sublist_append_right _ _)
 cases m with
 |rg r=>
  cases r with
  |hb=>cases hm
  |bb=>
   cases hm
   obtain⟨L',pm',s'⟩:=f G1 H1 .bo (some d) (some v) [] (fun _ g=>g) aC aC (fun _ _=>rfl) ⟨v,rfl,hv,rfl⟩
   exact⟨L',base.perm pm'.symm,s'⟩
  |fz=>
   cases hm
   obtain⟨L',pm',s'⟩:=f G1 H1 .fz (some d) (some v) [] (fun _ g=>g) aC aC (fun _ _=>rfl) ⟨v,rfl,hv,rfl⟩
   exact⟨L',base.perm pm'.symm,s'⟩
 |nw sh=>
  cases hm
  obtain⟨Ln,nd,fr,o⟩:=hv
  obtain⟨L',pm',s'⟩:=f G1 H1 (.ow sh) (some d) (some v) Ln (fun _ g=>g) aC aC (fun _ _=>rfl) ⟨v,rfl,o⟩
  refine⟨L',cU.perm (base.zl hk (H0:=H) (fun p h=>g0.back h) nd fr fun p m=>(s0.kind p (pm.mem_iff.mpr (List.mem_append_right _ m))).ne) pm'.symm,s'⟩
 |sp r=>
  cases r <;> first|(cases hm;done)|skip
  cases hm
  obtain⟨L',pm',s'⟩:=f G1 H1 .bl (some d) (some v) [] (fun _ g=>g) aC aC (fun _ _=>rfl) ⟨v,rfl,hv,rfl⟩
  exact⟨L',base.perm pm'.symm,s'⟩
theorem LJ (i:Nat) {x:Str} {p':Pos} {md:Md} {k:D->Option (Out α β)} (he:PX X Δ st e m r) (hm:Cb m=some md) (hi:i<Δ.length) (hnd:X.N.Nodup) (hN:X.N[i]? =some x) (hx:Loc X.env.scope x)
  (h: ∀d,Blk X E (Δ.set i md) (st.set i (some d)) rest (k d)) (hs:swapsWith e (some (.Name x p')) pos.line X.env=pure false:=by rfl) (hf:X.fn x=true\/X.env.scope.names.lookup x=some .local:=by first|exact .inl rfl|exact .inr rfl|assumption):
  Blk X E Δ st (.Assign [.Name x p'] e pos::rest) (r.bind k):=
 cV (pss_cons (ps_set hnd hN hx he hs hf) (fJ h)) fun De σ H ⟨O,G,q,rel,er,kk⟩=>by
  obtain⟨d,e1,e2⟩:=bind1 er
  exact rdE.go rel e1 fun v H1 G1 rel1 x1 v1=>⟨d,O,G1,q,rel.qI x1 hi hm v1,e2,kk⟩
def sqO {α β γ:Type} (k:γ->Option (Out α β)):Out γ β->Option (Out α β)
 | .nx a=>k a
 | .bk b=>some (.bk b)
 | .ct b=>some (.ct b)
 | .ret d os=>some (.ret d os)
 | .exc x=>some (.exc x)
def Exits.join {α β γ:Type} (E:Exits α β) (Dj:List Md) (ej:γ->Ds):Exits γ β:={E with Dn:=Dj,en:=ej,fl:=false}
theorem Meets.seq {O:Org} {De:Ends} {K:Frg} {Dj:List Md} {ej:γ->Ds} {k:γ->Option (Out α β)} {r1:Out γ β} {r:Out α β} {U:CS->Hp->Prop} (e:sqO k r1=some r) (h:Meets K E O De r)
  (hU: ∀a,k a=some r-> ∀σ H G,Rel K O Dj (ej a) σ H G->U σ H):Meets K (E.join Dj ej) O {De with nx:=U} r1:=by
 cases r1 with
 |nx a=>exact fun σ H G rel=>hU a e σ H G rel
 |bk b=>cases e;exact h
 |ct b=>cases e;exact h
 |ret d os=>cases e;exact fun v H G q=>⟨(h v H G q).1,fun f=>(nomatch f)⟩
 |exc x=>cases e;exact h
theorem ck {c:Expr} {A Bs:List Stmt} {rc:Option Bool} {mA mB:Option (Out γ β)} (Dj:List Md) (ej:γ->Ds) {k:γ->Option (Out α β)} (hc:PTx X Δ st c rc) (hA:Blk X (E.join Dj ej) Δ st A mA) (hB:Blk X (E.join Dj ej) Δ st Bs mB)
  (h: ∀a,Blk X E Dj (ej a) rest (k a)):Blk X E Δ st (.If c A Bs pos::rest) (rc.bind fun c=>(if c=true then mA else mB).bind (sqO k)):=
 cV (pss_cons (ps_if hc hA hB) (fJ h)) fun De σ H ⟨O,G,q,rel,er,kk⟩=>by
  obtain⟨b,e1,e2⟩:=bind1 er
  obtain⟨r1,e3,e4⟩:=bind1 e2
  refine rdT.go rel e1 fun H1 G1 rel1 x1=> ?_
  have hm:=Meets.seq (Dj:=Dj) (ej:=ej) (U:=fun σ H=> ∃a,rdS X.K E Dj (ej a) (k a) De σ H) e4 kk fun a ea σ' H' G' rel'=>⟨a,O,G',q,rel',ea,kk⟩
  cases b with
  |true=>exact⟨O,G1,r1,rel1,by simpa using e3,hm⟩
  |false=>exact⟨O,G1,r1,rel1,by simpa using e3,hm⟩
end
inductive Res (β:Type) where
 |fin (b:β)|ret (d:D) (os:List D)|exc (x:Xn)
def forL {β δ:Type} (step:β->δ->Option (Out β β)):List δ->β->Option (Res β)
 | [],b=>some (.fin b)
 |x::xs,b=>(step b x).bind fun
  | .nx b'=>forL step xs b'
  | .ct b'=>forL step xs b'
  | .bk b'=>some (.fin b')
  | .ret d os=>some (.ret d os)
  | .exc x=>some (.exc x)
def sqF {α β γ:Type} (k:γ->Option (Out α β)):Res γ->Option (Out α β)
 | .fin b=>k b
 | .ret d os=>some (.ret d os)
 | .exc x=>some (.exc x)
def Exits.loop {α β γ:Type} (E:Exits α β) (Dl:List Md) (el:γ->Ds):Exits γ γ:={E with Dn:=Dl,en:=el,Dl:=Dl,el:=el,fl:=false}
section
variable {K:Frg} {O:Org} {H H2:Hp} {G G2:Sa} {L L2:List Addr}
def Org.at (O:Org) (H:Hp) (G:Sa) (L:List Addr):Org:=⟨G,H,L,O.B⟩
theorem cU.start (r:cU O H G L) (hk: ∀p∈L,Ndd H p):cU (O.at H G L) H G L:=
 ⟨fun p b=>⟨r.dom p (r.bin p b).1,fun m=>(r.lg p m).2.elim (r.bin p b).2 (r.bin p b).1⟩,fun _ _ e _ _=>e,fun _ g=>g,fun _ g=>.inl g,r.gin,fun _ h=>h,r.nd,fun p m=>⟨(r.lg p m).1,.inl m⟩,fun _ ps e=>⟨ps,e⟩,r.tb⟩
theorem cU.comp (r:cU O H G L) (q:cU (O.at H G L) H2 G2 L2):cU O H2 G2 L2 where
 bin:=r.bin
 fr0:=fun p u e n t=>q.frame p u (r.frame p u e n) fun m=>(r.lg p m).2.elim n fun z=>by rw[z] at e;cases e
 gsub:=fun p g=>q.gsub p (r.gsub p g)
 gold:=fun p g=>by
  rcases q.gold p g with g|n|⟨xs,t⟩|m
  ·exact r.gold p g
  ·exact .inr (.inl (r.back n))
  ·rcases r.was (show H p=some (imm xs) from t) (td _) with e|e|e
   ·exact .inr (.inr (.inl ⟨xs,e⟩))
   ·exact .inr (.inl e)
   ·exact .inr (.inr (.inr e))
  ·rcases (r.lg p m).2 with h|h
   ·exact .inr (.inr (.inr h))
   ·exact .inr (.inl h)
 gin:=q.gin
 dom:=fun p h=>q.dom p (r.dom p h)
 nd:=q.nd
 lg:=fun p m=>⟨(q.lg p m).1,by
  rcases (q.lg p m).2 with h|h
  ·exact (r.lg p h).2
  ·exact .inr (r.back h)⟩
 tl:=fun p ps e=>by
  obtain⟨ps1,e1⟩:=r.tl p ps e
  exact q.tl p ps1 e1
 tb:=q.tb
theorem Rel.start {Δ:List Md} {st:Ds} {σ:CS} (r:Rel K O Δ st σ H G): ∃L,cU O H G L/\Rel K (O.at H G L) Δ st σ H G:=by
 obtain⟨L,g,s⟩:=r
 exact⟨L,g,L,g.start s.kind,s⟩
theorem Rel.comp {Δ:List Md} {st:Ds} {σ:CS} (g:cU O H G L) (r:Rel K (O.at H G L) Δ st σ H2 G2):Rel K O Δ st σ H2 G2:=by
 obtain⟨L2,g2,s2⟩:=r
 exact⟨L2,g.comp g2,s2⟩
theorem Ca.comp {rm:VM} {ps:List (V×Sh)} {d:D} {os:List D} {v:V} (g:cU O H G L) (r:Ca K rm ps (O.at H G L) d os v H2 G2):Ca K rm ps O d os v H2 G2:=by
 obtain⟨L1,L2,g2,a,b⟩:=r
 exact⟨L1,L2,g.comp g2,a,b⟩
theorem XcR.comp {ps:List (V×Sh)} {x:Xn} {c:Value} {od:Option Addr} (g:cU O H G L) (r:XcR K ps (O.at H G L) x c od H2 G2):XcR K ps O x c od H2 G2:=by
 obtain⟨e,⟨L1,g2⟩,h⟩:=r
 refine⟨e,⟨L1,g.comp g2⟩,h.imp id ?_⟩
 rintro⟨a,fvs,e1,e2,e3,e4⟩
 exact⟨a,fvs,e1,e2,g.back e3,e4⟩
theorem Meets.comp {α β:Type} {E:Exits α β} {De:Ends} {r:Out α β} (g:cU O H G L) (h:Meets K E O De r):Meets K E (O.at H G L) De r:=by
 cases r with
 |nx a=>exact fun σ H' G' rel=>h σ H' G' (rel.comp g)
 |bk b=>exact fun σ H' G' rel=>h σ H' G' (rel.comp g)
 |ct b=>exact fun σ H' G' rel=>h σ H' G' (rel.comp g)
 |ret d os=>exact fun v H' G' q=>h v H' G' (q.comp g)
 |exc x=>exact fun c od H' G' q=>h c od H' G' (q.comp g)
end
end Sw
namespace Sw
open PySem PySem.Spec PyProof.Rows L2
variable [NmC]
def Wlk {δ:Type} (IR:Hp->δ->V->Prop) (S:Sa) (J:It) (ds:List δ) (H1:Hp):Prop:=
 ∀H2,(∀p u,S p->H1 p=some u->NT u->H2 p=some u)-> ∀i,(∀d,ds[i]? =some d->J.go i H2/\ ∀x H3,J.yld i H2 x H3->(∀p u,H2 p=some u->H3 p=some u)/\IR H3 d x)/\(ds.length<=i->J.stop i H2)
def stR (O:Org) (G:Sa) (rg:Rg):Sa:=fun p=>rgn O G rg p\/O.B p\/G p
theorem wkS {δ:Type} {IR:Hp->δ->V->Prop} {O:Org} {G:Sa} {rg:Rg} {J:It} {ds:List δ} {H:Hp} (h:Wlk IR (rgn O G rg) J ds H):Wlk IR (stR O G rg) J ds H:=fun H2 hst=>h H2 fun p u s=>hst p u (.inl s)
def rdI {δ:Type} (K:Frg) (Δ:List Md) (st:Ds) (rg:Rg) (IR:Sa->Hp->δ->V->Prop) (rI:Option (List δ)):TI:=fun σ H R=>
 ∃O G ds,Rel K O Δ st σ H G/\rI=some ds/\ ∀J H' G',Ext H G H' G'->Wlk (IR (rgn O G' rg)) (stR O G' rg) J ds H'->R J H'
abbrev PIx {δ:Type} (X:Cx) (Δ:List Md) (st:Ds) (tg it:Expr) (rg:Rg) (IR:Sa->Hp->δ->V->Prop) (rI:Option (List δ)):Prop:=PI X tg it (rdI X.K Δ st rg IR rI)
theorem DK {X:Cx} {tg it:Expr} {t t':TI} (h:PI X tg it t) (i: ∀σ H Q,t' σ H Q->t σ H Q):PI X tg it t':=⟨fun pins s σ H Q I q=>h.run pins s σ H Q I (i σ H Q q)⟩
def irV (K:Frg) (S:Sa) (H:Hp) (d:D) (x:V):Prop:=Rep K S H d x
def wg {δ:Type} (K:Frg) (g:TG) (rg:Rg) (IR:Sa->Hp->δ->V->Prop) (uM:List Md->List Md) (uS:δ->Ds->Ds) (n:Nat) (is:List Nat):Prop:=
 ∀O Δ st σ H G d x Q,Δ.length=n->Rel K O Δ st σ H G->IR (rgn O G rg) H d x->(∀σ',Rel K O (uM Δ) (uS d st) σ' H G->(∀vs,(∀i∈is,i∈vs)->wipe σ' vs=wipe σ vs)->Q σ' H)->g x σ H Q
theorem yx (σ:CS) (i:Nat) (y:Option V): ∀vs:List Nat,i∉vs->wipe (σ.set i y) vs=(wipe σ vs).set i y
 | [],_=>rfl
 |v::vs,h=>by
  simp only[List.mem_cons,not_or] at h
  unfold wipe
  rw[yx σ i y vs h.2,List.set_comm _ _ h.1]
theorem mI {i:Nat} {y:Option V}: ∀{σ:CS} {vs:List Nat},i∈vs->wipe (σ.set i y) vs=wipe σ vs
 |σ,[],h=>by cases h
 |σ,v::vs,h=>by
  unfold wipe
  by_cases hi:i∈vs
  ·rw[mI hi]
  ·have e:i=v:=by
    rcases List.mem_cons.mp h with e|e
    ·exact e
    ·exact absurd e hi
   subst e
   rw[yx σ i y vs hi,List.set_set]
def lH {δ:Type} (IR:Sa->Hp->δ->V->Prop):Prop:= ∀S S' H H' d x,(∀p,S p->S' p)->(∀p u,H p=some u->H' p=some u)->IR S H d x->IR S' H' d x
theorem cH {K:Frg}:lH (irV K):=fun S S' H H' d x hS hH h=>Rep.mono hS (we hH) d x h
theorem Gf {K:Frg} {H H':Hp} (hH: ∀p u,H p=some u->H' p=some u) {a:Addr} {xs:List V} (h:SqT K H a xs):SqT K H' a xs:=h.imp (fun r=>r.imp (hH a _) fun⟨o,r⟩=>⟨o,hH a _ r⟩) id
def mdR:Rg->Md
 | .bb=>.bo
 |_=>.fz
theorem dE (K:Frg) (i:Nat) {n:Nat} {rg:Rg} (hr:rg≠ .hb) (hi:i<n):wg K (gName i) rg (irV K) (fun Δ=>Δ.set i (mdR rg)) (fun d st=>st.set i (some d)) n [i]:=fun O Δ st σ H G d x Q hn rel h q=>by
 refine q _ ?_ fun vs hv=>mI (hv i (by simp))
 cases rg with
 |hb=>exact absurd rfl hr
 |bb=>exact rel.qI (m:=.rg .bb) .refl (by omega) rfl h
 |fz=>exact rel.qI (m:=.rg .fz) .refl (by omega) rfl h
section
variable {α β γ δ:Type} {X:Cx} {E:Exits α β} {Δ:List Md} {st:Ds} {rest body:List Stmt} {pos:Pos} {tg it:Expr}
theorem rN {α:Type} {l:List α} {i:Nat} {x:α} (h:l[i]? =some x):l.drop i=x::l.drop (i+1):=by
 obtain⟨hi,e⟩:=List.getElem?_eq_some_iff.mp h
 rw[<-e];exact List.drop_eq_getElem_cons hi
theorem Gg {K:Frg} {O:Org} {H1:Hp} {G1:Sa} {L:List Addr} {J:It} {ds:List δ} {IR:Sa->Hp->δ->V->Prop} {rg:Rg} {uM:List Md->List Md} {uS:δ->Ds->Ds} {g:TG} {Dl:List Md} {el:γ->Ds} {step:γ->δ->Option (Out γ γ)} {k:γ->Option (Out α β)} {r:Out α β}
  {U:CS->Hp->Prop} {De:Ends} {σ:CS} {b0:γ} {tb:TS}
  (g0:cU O H1 G1 L) (rel:Rel K (O.at H1 G1 L) Dl (el b0) σ H1 G1) (hw:Wlk (IR (rgn O G1 rg)) (stR O G1 rg) J ds H1) (him:lH IR) (hr:rg≠ .hb) {is:List Nat} (ht:wg K g rg IR uM uS Dl.length is)
  (htb: ∀b d De σ H,rdS K (E.loop Dl el) (uM Dl) (uS d (el b)) (step b d) De σ H->tb De σ H)
  {rs:Res γ} (ef:forL step ds b0=some rs) (es:sqF k rs=some r) (hm:Meets K E O De r)
  (hU: ∀b,k b=some r-> ∀σ H G,Rel K (O.at H1 G1 L) Dl (el b) σ H G->U σ H):
  ∃W:Nat->Nat->CS->Hp->Prop,(∃m,W 0 m σ H1)/\ ∀i m σ H,W i m σ H→
   (J.stop i H/\U σ H)\/(J.go i H/\ ∃N:CS->Hp->Prop,(∀σ' H',N σ' H'-> ∃m',m'<m/\W (i+1) m' σ' H')/\ ∀x H',J.yld i H x H'->g x σ H' fun σ2 H2=>tb {De with nx:=N,ct:=N,bk:=U} σ2 H2):=by
 have hm':=hm.comp g0
 have hS: ∀p,stR O G1 rg p->p∉L:=fun p s m=>by
  rcases s with s|s|s
  ·cases rg with
   |hb=>exact hr rfl
   |bb=>exact (g0.lg p m).2.elim (g0.bin p s).2 (g0.bin p s).1
   |fz=>exact (g0.lg p m).1 s
  ·exact (g0.lg p m).2.elim (g0.bin p s).2 (g0.bin p s).1
  ·exact (g0.lg p m).1 s
 refine⟨fun i m σ H=> ∃b G,m=ds.length -i/\i<=ds.length/\Rel K (O.at H1 G1 L) Dl (el b) σ H G/\forL step (ds.drop i) b=some rs,⟨ds.length,b0,G1,by omega,by omega,rel,by simpa using ef⟩,fun i m σ H hW=> ?_⟩
 obtain⟨b,G,em,hi,rl,hf⟩:=hW
 have hst: ∀p u,stR O G1 rg p->H1 p=some u->NT u->H p=some u:=fun p u s e nt=>by
  obtain⟨L2,g2,_⟩:=rl
  exact g2.frame p u e (hS p s)
 obtain⟨w1,w2⟩:=hw H hst i
 by_cases hlt:i<ds.length
 ·refine .inr ?_
  have hd:ds[i]? =some ds[i]:=List.getElem?_eq_getElem hlt
  obtain⟨go,yl⟩:=w1 _ hd
  rw[rN hd] at hf
  unfold forL at hf
  obtain⟨o,eo,ho⟩:=bind1 hf
  refine⟨go,fun σ' H'=> ∃b' G',Rel K (O.at H1 G1 L) Dl (el b') σ' H' G'/\forL step (ds.drop (i+1)) b'=some rs,fun σ' H' ⟨b',G',rl',hf'⟩=>⟨m -1,by omega,b',G',by omega,by omega,rl',hf'⟩,fun x H3 hy=> ?_⟩
  obtain⟨hh,ir⟩:=yl x H3 hy
  have x3:Ext H G H3 G:=.of hh (fun _ g=>g) fun _ g=>.inl g
  have rl3:=rl.ext x3
  have hsub: ∀p,rgn O G1 rg p->rgn (O.at H1 G1 L) G rg p:=fun p s=>by
   cases rg with
   |hb=>exact trivial
   |bb=>exact s
   |fz=>
    obtain⟨L2,g2,_⟩:=rl
    exact g2.gsub p s
  refine ht _ _ _ _ _ _ _ x _ rfl rl3 (him _ _ H3 H3 _ x hsub (fun _ _ e=>e) ir) fun σ' rl' _=> ?_
  refine htb b ds[i] _ _ _ ⟨O.at H1 G1 L,G,o,rl',eo,?_⟩
  cases o with
  |nx b'=>exact fun σ2 H2 G2 r2=>⟨b',G2,r2,ho⟩
  |ct b'=>exact fun σ2 H2 G2 r2=>⟨b',G2,r2,ho⟩
  |bk b'=>
   simp only[Option.some.injEq] at ho
   subst ho
   exact fun σ2 H2 G2 r2=>hU b' es σ2 H2 G2 r2
  |ret d os=>
   simp only[Option.some.injEq] at ho
   subst ho
   cases es
   exact fun v H' G' q=>⟨(hm' v H' G' q).1,fun f=>(nomatch f)⟩
  |exc x=>
   simp only[Option.some.injEq] at ho
   subst ho
   cases es
   exact fun c od H' G' q=>hm' c od H' G' q
 ·refine .inl ⟨w2 (by omega),?_⟩
  rw[List.drop_of_length_le (by omega)] at hf
  unfold forL at hf
  simp only[Option.some.injEq] at hf
  subst hf
  exact hU b es σ H G rl
theorem LK {rg:Rg} {IR:Sa->Hp->δ->V->Prop} {rI:Option (List δ)} {g:TG} {uM:List Md->List Md} {uS:δ->Ds->Ds} (Dl:List Md) (el:γ->Ds) {b0:γ} {step:γ->δ->Option (Out γ γ)} {k:γ->Option (Out α β)}
  (hi:PIx X Δ st tg it rg IR rI) (him:lH IR) (hr:rg≠ .hb) (hg:PG X tg g) {is:List Nat} (ht:wg X.K g rg IR uM uS Dl.length is) (w:Wk Δ st Dl (el b0)) (hb: ∀b d,Blk X (E.loop Dl el) (uM Dl) (uS d (el b)) body (step b d)) (h: ∀b,Blk X E Dl (el b) rest (k b))
  (hc:X.calm=true) (hp:PassesOwn (model X.prog X.w) X.A X.env X.xe) (hs: ∀x,foldedSetIterable it X.env x=pure x:=by intro _;rfl):
  Blk X E Δ st (.For tg it body [] pos::rest) (rI.bind fun ds=>(forL step ds b0).bind (sqF k)):=
 cV (pss_cons (ps_for hp hc hi hg (fJ fun b=>fJ fun d=>hb b d) hs) (fJ h)) fun De σ H ⟨O,G,q,rel,er,kk⟩=>by
  obtain⟨ds,e1,e2⟩:=bind1 er
  obtain⟨rs,e3,e4⟩:=bind1 e2
  refine⟨O,G,ds,rel,e1,fun J H1 G1 x1 hw=> ?_⟩
  obtain⟨L,g0,rl⟩:=((rel.ext x1).weak w).start
  exact Gg (De:=De) (U:=fun σ H=> ∃a,rdS X.K E Dl (el a) (k a) De σ H) (tb:=fun De σ H=> ∃b d,rdS X.K (E.loop Dl el) (uM Dl) (uS d (el b)) (step b d) De σ H) g0 rl hw him hr ht (fun b d De σ H q=>⟨b,d,q⟩) e3 e4 kk fun b eb σ' H' G' rl'=>⟨b,O,G',q,rl'.comp g0,eb,kk⟩
def whN {γ:Type} (tst:γ->Option Bool) (step:γ->Option (Out γ γ)):Nat->γ->Option (Res γ)
 |0,_=>none
 |n+1,b=>(tst b).bind fun c=>if c=true then (step b).bind fun
  | .nx b'=>whN tst step n b'
  | .ct b'=>whN tst step n b'
  | .bk b'=>some (.fin b')
  | .ret d os=>some (.ret d os)
  | .exc x=>some (.exc x) else some (.fin b)
theorem wh {γ:Type} {tst:γ->Option Bool} {step:γ->Option (Out γ γ)}: ∀{n:Nat} {b:γ} {r:Res γ},whN tst step n b=some r->whN tst step (n+1) b=some r
 |n+1,b,r,h=>by
  unfold whN at h
  unfold whN
  obtain⟨c,e1,e2⟩:=bind1 h
  rw[e1]
  show (if c=true then _ else _)=_
  cases c with
  |false=>exact e2
  |true=>
   rw[if_pos rfl] at e2⊢
   obtain⟨o,e3,e4⟩:=bind1 e2
   rw[e3]
   cases o with
   |nx b'=>exact wh e4
   |ct b'=>exact wh e4
   |bk b'=>exact e4
   |ret d os=>exact e4
   |exc x=>exact e4
theorem Gh {γ:Type} {tst:γ->Option Bool} {step:γ->Option (Out γ γ)} {n m:Nat} {b:γ} {r:Res γ} (h:whN tst step n b=some r) (hl:n<=m):whN tst step m b=some r:=by
 obtain⟨k,rfl⟩:=Nat.exists_eq_add_of_le hl
 induction k with
 |zero=>exact h
 |succ k ih=>exact wh (ih (by omega))
open Classical in
noncomputable def whL {γ:Type} (tst:γ->Option Bool) (step:γ->Option (Out γ γ)) (b:γ):Option (Res γ):=
 if h: ∃n r,whN tst step n b=some r then some h.choose_spec.choose else none
theorem LL {γ:Type} {tst:γ->Option Bool} {step:γ->Option (Out γ γ)} {n:Nat} {b:γ} {r:Res γ} (h:whN tst step n b=some r):whL tst step b=some r:=by
 unfold whL
 have hx: ∃n r,whN tst step n b=some r:=⟨n,r,h⟩
 rw[dif_pos hx]
 have h2:=hx.choose_spec.choose_spec
 have a:=Gh h (Nat.le_max_left n hx.choose)
 have b':=Gh h2 (Nat.le_max_right n hx.choose)
 rw[a] at b'
 exact b'.symm
theorem LM {γ:Type} {tst:γ->Option Bool} {step:γ->Option (Out γ γ)} {b:γ} {r:Res γ} (h:whL tst step b=some r): ∃n,whN tst step n b=some r:=by
 unfold whL at h
 split at h
 ·rename_i hx
  cases h
  exact⟨hx.choose,hx.choose_spec.choose_spec⟩
 ·cases h
theorem Gj {c:Expr} (Dl:List Md) (el:γ->Ds) {b0:γ} {tst:γ->Option Bool} {step:γ->Option (Out γ γ)} {k:γ->Option (Out α β)} (hc: ∀b,PTx X Dl (el b) c (tst b)) (w:Wk Δ st Dl (el b0)) (hb: ∀b,Blk X (E.loop Dl el) Dl (el b) body (step b))
  (h: ∀b,Blk X E Dl (el b) rest (k b)) (hp:PassesOwn (model X.prog X.w) X.A X.env X.xe):Blk X E Δ st (.While c body [] pos::rest) ((whL tst step b0).bind (sqF k)):=
 cV (pss_cons (ps_while hp (Oc hc) (fJ hb)) (fJ h)) fun De σ H ⟨O,G,q,rel,er,kk⟩=>by
  obtain⟨rs,e3,e4⟩:=bind1 er
  obtain⟨n,e5⟩:=LM e3
  refine⟨fun m σ H=> ∃b G,Rel X.K O Dl (el b) σ H G/\whN tst step m b=some rs,⟨n,b0,G,rel.weak w,e5⟩,fun m σ1 H1 ⟨b,G1,r1,hf⟩=> ?_⟩
  cases m with
  |zero=>cases hf
  |succ m=>
   unfold whN at hf
   obtain⟨cb,ec,hf⟩:=bind1 hf
   refine⟨b,rdT.go r1 ec fun H2 G2 r2 x2=> ?_⟩
   cases cb with
   |false=>
    rw[if_neg Bool.false_ne_true] at hf⊢
    simp only[Option.some.injEq] at hf
    subst hf
    exact⟨b,O,G2,q,r2,e4,kk⟩
   |true=>
    rw[if_pos rfl] at hf⊢
    obtain⟨o,eo,ho⟩:=bind1 hf
    refine⟨fun σ' H'=> ∃b' G',Rel X.K O Dl (el b') σ' H' G'/\whN tst step m b'=some rs,fun σ' H' ⟨b',G',r',h'⟩=>⟨m,Nat.lt_succ_self m,b',G',r',h'⟩,b,O,G2,o,r2,eo,?_⟩
    cases o with
    |nx b'=>exact fun σ2 H2 G2 r2=>⟨b',G2,r2,ho⟩
    |ct b'=>exact fun σ2 H2 G2 r2=>⟨b',G2,r2,ho⟩
    |bk b'=>
     simp only[Option.some.injEq] at ho
     subst ho
     exact fun σ2 H2 G2 r2=>⟨b',O,G2,q,r2,e4,kk⟩
    |ret d os=>
     simp only[Option.some.injEq] at ho
     subst ho
     cases e4
     exact fun v H' G' q=>⟨(kk v H' G' q).1,fun f=>(nomatch f)⟩
    |exc x=>
     simp only[Option.some.injEq] at ho
     subst ho
     cases e4
     exact kk
end
end Sw
namespace Sw
open PySem PySem.Spec PyProof.Rows L2
variable [NmC]
mutual
def D.pd:D->PyData
 | .non=>.none| .bl b=>.bool b| .int i=>.int i| .str x=>.str x
 | .lst ds=>.list (D.pds ds)
 | .tup ds=>.tuple (D.pds ds)
 | .dct _=>.dict []| .dcT _=>.dict []| .ins _ _=>.dict []| .fn _=>.dict []| .sc _=>.dict []
 | .glf _=>.dict []| .clo _ _=>.dict []
def D.pds:List D->List PyData
 | []=>[]
 |d::ds=>D.pd d::D.pds ds
end
mutual
def D.dat:D->Bool
 | .non=>true| .bl _=>true| .int _=>true| .str _=>true
 | .lst ds=>D.AG ds| .tup ds=>D.AG ds
 |_=>false
def D.AG:List D->Bool
 | []=>true
 |d::ds=>D.dat d&&D.AG ds
end
theorem D.IQ (ds:List D):D.pds ds=ds.map D.pd:=by
 induction ds with
 |nil=>rfl
 |cons d ds ih=>rw[List.map_cons,←ih];rfl
theorem D.AH (ds:List D):D.AG ds=ds.all D.dat:=by
 induction ds with
 |nil=>rfl
 |cons d ds ih=>rw[List.all_cons,←ih];rfl
section
variable {K:Frg} {S:Sa} {H:Hp}
mutual
theorem Rep.dp: ∀(d:D) (v:V),d.dat=true->Rep K S H d v->Dp K H v d.pd
 | .non,v,_,h=>by unfold Rep at h;subst h;exact .non
 | .bl b,v,_,h=>by unfold Rep at h;subst h;exact .bl b
 | .int b,v,_,h=>by unfold Rep at h;subst h;exact .int b
 | .str b,v,_,h=>by unfold Rep at h;subst h;exact .str b
 | .lst ds,v,hd,h=>by
  unfold Rep at h
  obtain⟨a,vs,rfl,_,l,r⟩:=h
  exact .lst (SqL.of l) (aE.dp ds vs (by unfold D.dat at hd;exact hd) r)
 | .tup ds,v,hd,h=>by
  unfold Rep at h
  obtain⟨a,vs,rfl,l,r⟩:=h
  exact .tup l.sq (aE.dp ds vs (by unfold D.dat at hd;exact hd) r)
 | .dct _,v,hd,h=>by cases hd
 | .dcT _,v,hd,h=>by cases hd
 | .ins _ _,v,hd,h=>by cases hd
 | .fn _,v,hd,h=>by cases hd
 | .glf _,v,hd,h=>by cases hd
 | .clo _ _,v,hd,h=>by cases hd
 | .sc _,v,hd,h=>by cases hd
theorem aE.dp: ∀(ds:List D) (vs:List V),D.AG ds=true->aE K S H ds vs->DpAll K H vs (D.pds ds)
 | [],vs,_,h=>by unfold aE at h;subst h;exact .nil
 |d::ds,vs,hd,h=>by
  unfold aE at h
  obtain⟨v,r,rfl,h1,h2⟩:=h
  unfold D.AG at hd
  rw[Bool.and_eq_true] at hd
  exact .cons (Rep.dp d v hd.1 h1) (aE.dp ds r hd.2 h2)
end
def D.toV:D->Option V
 | .non=>some .non| .bl b=>some (.bl b)| .int i=>some (.int i)| .str x=>some (.str x)
 |_=>none
theorem Rep.toV {d:D} {v w:V} (e:d.toV=some w) (h:Rep K S H d v):v=w:=by
 cases d with
 |non=>cases e;unfold Rep at h;exact h
 |bl b=>cases e;unfold Rep at h;exact h
 |int b=>cases e;unfold Rep at h;exact h
 |str b=>cases e;unfold Rep at h;exact h
 |_=>cases e
theorem AI {d:D} {w:V} (e:d.toV=some w):flatV w=true:=by
 cases d <;> first|(cases e;rfl)|cases e
def D.tm:List D->Option (List V)
 | []=>some []
 |d::ds=>(d.toV).bind fun v=>(D.tm ds).bind fun vs=>some (v::vs)
theorem aE.tm: ∀{ds:List D} {vs ws:List V},D.tm ds=some ws->aE K S H ds vs->vs=ws
 | [],vs,ws,e,h=>by unfold aE at h;cases e;exact h
 |d::ds,vs,ws,e,h=>by
  unfold aE at h
  obtain⟨v,r,rfl,h1,h2⟩:=h
  unfold D.tm at e
  obtain⟨x,y,e1,e2,e3⟩:=bO e
  cases e3
  rw[Rep.toV e1 h1,aE.tm e2 h2]
theorem yy: ∀{ds:List D} {ws:List V},D.tm ds=some ws->ws.all flatV=true
 | [],ws,e=>by cases e;rfl
 |d::ds,ws,e=>by
  unfold D.tm at e
  obtain⟨x,y,e1,e2,e3⟩:=bO e
  cases e3
  rw[List.all_cons,AI e1,yy e2];rfl
end
section
variable {X:Cx} {ma mb:Rg} {rg:Rg}
theorem bh.int {K:Frg} {O:Org} {H H1:Hp} {G1:Sa} {r:Rg} {b:Int} {v:V} (h:bh K O H H1 G1 (.rg r) (.int b) v):v= .int b:=by unfold bh Rep at h;exact h
theorem bh.str {K:Frg} {O:Org} {H H1:Hp} {G1:Sa} {r:Rg} {b:Str} {v:V} (h:bh K O H H1 G1 (.rg r) (.str b) v):v= .str b:=by unfold bh Rep at h;exact h
theorem jt {K:Frg} {O:Org} {H H1:Hp} {G1:Sa} {r:Rg} {b:Int}:bh K O H H1 G1 (.rg r) (.int b) (.int b):=by unfold bh Rep;rfl
theorem qJ {K:Frg} {O:Org} {H H1:Hp} {G1:Sa} {r:Rg} {b:Str}:bh K O H H1 G1 (.rg r) (.str b) (.str b):=by unfold bh Rep;rfl
theorem kY {K:Frg} {O:Org} {H H1:Hp} {G1:Sa} {r:Rg} {b:Bool}:bh K O H H1 G1 (.rg r) (.bl b) (.bl b):=by unfold bh Rep;rfl
def ii (f:Int->Int->Option Int):D->D->Option D
 | .int a,.int b=>(f a b).map .int
 |_,_=>none
theorem rO {f:Int->Int->Option Int} {x y d:D} (h:ii f x y=some d): ∃a b c,x= .int a/\y= .int b/\f a b=some c/\d= .int c:=by
 cases x <;> cases y <;> first|cases h|skip
 rename_i a b
 have h:(f a b).map D.int=some d:=h
 cases e:f a b with
 |none=>rw[e] at h;cases h
 |some c=>rw[e] at h;cases h;exact⟨a,b,c,rfl,rfl,e,rfl⟩
def D.bP:D->D->Option D:=ii fun a b=>some (a+b)
def D.rP:D->D->Option D:=ii fun a b=>some (a -b)
noncomputable def cif {α:Type} (p:Prop) (a:α):Option α:=@ite _ p (Classical.propDecidable p) (some a) none
theorem rQ {α:Type} {p:Prop} {a c:α} (h:cif p a=some c):p/\a=c:=by
 unfold cif at h
 split at h
 ·rename_i q;cases h;exact⟨q,rfl⟩
 ·cases h
theorem k8 {α:Type} {p:Prop} {a:α} (h:p):cif p a=some a:=by
 unfold cif;exact if_pos h
noncomputable def wj (a b:Int):Bool:=@decide ((-(2^64)<a/\a<2^64)\/(-(2^64)<b/\b<2^64)) (Classical.propDecidable _)
noncomputable def D.ju:D->D->Option D:=ii fun a b=>if wj a b=true then some (a*b) else none
noncomputable def D.hJ:D->D->Option D:=ii fun a b=>cif (0<b/\b<1073741824) (a/b)
noncomputable def D.bT:D->D->Option D:=ii fun a b=>cif (0<b) (a%b)
theorem dy:Op2 X (rI0 fun i j=>.int (i+j)) (.rg ma) (.rg mb) (.rg rg) D.bP:=fun O H0 H G x y v w d Q e hx hy _ k=>by
 obtain⟨a,b,c,rfl,rfl,e2,rfl⟩:=rO e;cases e2
 exact⟨a,b,hx.int,hy.int,k _ H G .refl jt⟩
theorem zo:Op2 X (rI0 fun i j=>.int (i -j)) (.rg ma) (.rg mb) (.rg rg) D.rP:=fun O H0 H G x y v w d Q e hx hy _ k=>by
 obtain⟨a,b,c,rfl,rfl,e2,rfl⟩:=rO e;cases e2
 exact⟨a,b,hx.int,hy.int,k _ H G .refl jt⟩
theorem aM {α:Type} {p:Prop} [Decidable p] {a c:α} (h:(if p then some a else none)=some c):p/\a=c:=by
 split at h
 ·rename_i q;cases h;exact⟨q,rfl⟩
 ·cases h
theorem qK:Op2 X (rI CMul fun i j=>.int (i*j)) (.rg ma) (.rg mb) (.rg rg) D.ju:=fun O H0 H G x y v w d Q e hx hy _ k=>by
 obtain⟨a,b,c,rfl,rfl,e2,rfl⟩:=rO e
 obtain⟨q,rfl⟩:=aM e2
 refine⟨a,b,hx.int,hy.int,?_,k _ H G .refl jt⟩
 unfold wj at q
 exact @of_decide_eq_true _ (Classical.propDecidable _) q
theorem kM:Op2 X (rI CDiv fun i j=>.int (i/j)) (.rg ma) (.rg mb) (.rg rg) D.hJ:=fun O H0 H G x y v w d Q e hx hy _ k=>by
 obtain⟨a,b,c,rfl,rfl,e2,rfl⟩:=rO e
 obtain⟨q,rfl⟩:=rQ e2
 exact⟨a,b,hx.int,hy.int,q,k _ H G .refl jt⟩
theorem cC:Op2 X (rI (fun _ j=>0<j) fun i j=>.int (i%j)) (.rg ma) (.rg mb) (.rg rg) D.bT:=fun O H0 H G x y v w d Q e hx hy _ k=>by
 obtain⟨a,b,c,rfl,rfl,e2,rfl⟩:=rO e
 obtain⟨q,rfl⟩:=rQ e2
 exact⟨a,b,hx.int,hy.int,q,k _ H G .refl jt⟩
def D.rR:D->Option D
 | .int a=>some (.int (-a))
 |_=>none
theorem Gk:Op1 X (rU fun i=>.int (-i)) (.rg ma) (.rg rg) D.rR:=fun O H0 H G x v d Q e hx _ k=>by
 cases x <;> first|cases e|skip
 exact⟨_,hx.int,k _ H G .refl jt⟩
def ss {α:Type} (f:Str->Str->Option α):D->D->Option α
 | .str a,.str b=>f a b
 |_,_=>none
theorem DL {α:Type} {f:Str->Str->Option α} {x y:D} {d:α} (h:ss f x y=some d): ∃a b,x= .str a/\y= .str b/\f a b=some d:=by
 cases x <;> cases y <;> first|cases h|skip
 exact⟨_,_,rfl,rfl,h⟩
def D.iJ:D->D->Option D:=ss fun a b=>if a.length+b.length<=sizeLine then some (.str (a++b)) else none
theorem lI:Op2 X (fun x y H Q=> ∃i j,x= .str i/\y= .str j/\i.length+j.length<=sizeLine/\Q (.str (i++j)) H) (.rg ma) (.rg mb) (.rg rg) D.iJ:=fun O H0 H G x y v w d Q e hx hy _ k=>by
 obtain⟨a,b,rfl,rfl,e2⟩:=DL e
 obtain⟨q,rfl⟩:=aM e2
 exact⟨a,b,hx.str,hy.str,q,k _ H G .refl qJ⟩
def ib (f:Int->Int->Bool):D->D->Option Bool
 | .int a,.int b=>some (f a b)
 |_,_=>none
theorem IS {f:Int->Int->Bool} {x y:D} {d:Bool} (h:ib f x y=some d): ∃a b,x= .int a/\y= .int b/\f a b=d:=by
 cases x <;> cases y <;> first|cases h|skip
 exact⟨_,_,rfl,rfl,rfl⟩
theorem gN {f:D->D->Option Bool} {x y d:D} (h:blD f x y=some d): ∃b,f x y=some b/\d= .bl b:=by
 unfold blD at h
 cases e:f x y with
 |none=>rw[e] at h;cases h
 |some b=>rw[e] at h;cases h;exact⟨b,rfl,rfl⟩
theorem iM {g:Int->Int->Bool}:Op2 X (rI0 fun i j=>.bl (g i j)) (.rg ma) (.rg mb) (.rg rg) (blD (ib g)):=fun O H0 H G x y v w d Q e hx hy _ k=>by
 obtain⟨b,e1,rfl⟩:=gN e
 obtain⟨i,j,rfl,rfl,e2⟩:=IS e1
 subst e2
 exact⟨i,j,hx.int,hy.int,k _ H G .refl kY⟩
abbrev D.ltI:D->D->Option Bool:=ib fun i j=>decide (i<j)
abbrev D.leI:D->D->Option Bool:=ib fun i j=>decide (i<=j)
abbrev D.gtI:D->D->Option Bool:=ib fun i j=>decide (j<i)
abbrev D.geI:D->D->Option Bool:=ib fun i j=>decide (j<=i)
def sLe (a b:Str):Bool:=decide (a.cps.toList<=b.cps.toList)
abbrev D.ltS:D->D->Option Bool:=ss fun a b=>some (decide (a.cps.toList<b.cps.toList))
theorem LN {g:Str->Str->Bool} {r2:R2} (h: ∀x y H Q,(∃i j,x= .str i/\y= .str j/\Q (.bl (g i j)) H)->r2 x y H Q):Op2 X r2 (.rg ma) (.rg mb) (.rg rg) (blD (ss fun a b=>some (g a b))):=fun O H0 H G x y v w d Q e hx hy _ k=>by
 obtain⟨b,e1,rfl⟩:=gN e
 obtain⟨i,j,rfl,rfl,e2⟩:=DL e1
 cases e2
 exact h _ _ _ _ ⟨i,j,hx.str,hy.str,k _ H G .refl kY⟩
def D.eqA (x y:D):Option Bool:=(x.toV).bind fun a=>(y.toV).bind fun b=>if scal a b=true then some (decide (a=b)) else none
def D.neA (x y:D):Option Bool:=(x.toV).bind fun a=>(y.toV).bind fun b=>if scal a b=true then some (!decide (a=b)) else none
theorem di:Op2 X rEq (.rg ma) (.rg mb) (.rg rg) (blD D.eqA):=fun O H0 H G x y v w d Q e hx hy _ k=>by
 obtain⟨b,e1,rfl⟩:=gN e
 obtain⟨a,c,e2,e3,e4⟩:=bO e1
 obtain⟨q,rfl⟩:=aM e4
 rw[Rep.toV e2 hx,Rep.toV e3 hy]
 exact⟨q,k _ H G .refl kY⟩
theorem DM:Op2 X rNe (.rg ma) (.rg mb) (.rg rg) (blD D.neA):=fun O H0 H G x y v w d Q e hx hy _ k=>by
 obtain⟨b,e1,rfl⟩:=gN e
 obtain⟨a,c,e2,e3,e4⟩:=bO e1
 obtain⟨q,rfl⟩:=aM e4
 rw[Rep.toV e2 hx,Rep.toV e3 hy]
 exact⟨q,k _ H G .refl kY⟩
def D.ok2 (x y:D):Bool:=x.dat&&y.dat&&SeqAt.shaped x.pd&&SeqAt.shaped y.pd
def D.eqD (x y:D):Option Bool:=if D.ok2 x y=true then some (PyData.eqv x.pd y.pd) else none
theorem LO {x y:D} (h:D.ok2 x y=true):x.dat=true/\y.dat=true/\SeqAt.shaped x.pd=true/\SeqAt.shaped y.pd=true:=by
 unfold D.ok2 at h
 simp only[Bool.and_eq_true] at h
 exact⟨h.1.1.1,h.1.1.2,h.1.2,h.2⟩
theorem DN {m1 m2:VM}:Op2 X (rEqD X.K) m1 m2 (.rg rg) (blD D.eqD):=fun O H0 H G x y v w d Q e hx hy _ k=>by
 obtain⟨b,e1,rfl⟩:=gN e
 obtain⟨q,rfl⟩:=aM e1
 obtain⟨h1,h2,h3,h4⟩:=LO q
 exact⟨_,_,Rep.dp x v h1 hx.hb,Rep.dp y w h2 hy.hb,h3,h4,k _ H G .refl kY⟩
def D.items:D->Option (List D)
 | .lst ds=>some ds
 | .tup ds=>some ds
 |_=>none
theorem Rep.items {K:Frg} {S:Sa} {H:Hp} {d:D} {ds:List D} {v:V} (e:d.items=some ds) (h:Rep K S H d v): ∃a vs,v= .ref a/\(SqL K H a vs\/SqT K H a vs)/\aE K S H ds vs:=by
 cases d <;> first|cases e|skip
 ·unfold Rep at h
  obtain⟨a,vs,e1,_,l,r⟩:=h
  exact⟨a,vs,e1,.inl (SqL.of l),r⟩
 ·unfold Rep at h
  obtain⟨a,vs,e1,l,r⟩:=h
  exact⟨a,vs,e1,.inr l.sq,r⟩
def D.inA (neg:Bool) (x y:D):Option Bool:=(x.toV).bind fun a=>(y.items).bind fun ds=>(D.tm ds).map fun vs=>if neg=true then !inV a vs else inV a vs
theorem Oe {neg:Bool} {m2:VM}:Op2 X (rIn X.K neg) (.rg ma) m2 (.rg rg) (blD (D.inA neg)):=fun O H0 H G x y v w d Q e hx hy _ k=>by
 obtain⟨b,e1,rfl⟩:=gN e
 obtain⟨a,ds,e2,e3,e4⟩:=bO e1
 cases q:D.tm ds with
 |none=>rw[q] at e4;cases e4
 |some vs=>
  rw[q] at e4;cases e4
  obtain⟨p,ws,rfl,l,r⟩:=Rep.items e3 hy.hb
  have:=aE.tm q r
  subst this
  have hv:=Rep.toV e2 hx
  subst hv
  exact⟨p,ws,rfl,l,AI e2,yy q,k _ H G .refl kY⟩
def D.isN:D->Option Bool
 | .non=>some true
 | .bl _=>some false| .int _=>some false| .str _=>some false
 | .lst _=>some false| .tup _=>some false| .dct _=>some false| .dcT _=>some false| .ins _ _=>some false| .fn _=>some false| .sc _=>some false| .glf _=>some false| .clo _ _=>some false
theorem DO {K:Frg} {S:Sa} {H:Hp} {d:D} {v:V} {b:Bool} (h:Rep K S H d v) (e:d.isN=some b):decide (v= .non)=b:=by
 cases d <;> cases e <;> unfold Rep at h
 ·rw[h];rfl
 ·rw[h];rfl
 ·rw[h];rfl
 ·rw[h];rfl
 ·obtain⟨a,vs,rfl,_⟩:=h;rfl
 ·obtain⟨a,vs,rfl,_⟩:=h;rfl
 ·obtain⟨a,vs,rfl,_⟩:=h;rfl
 ·obtain⟨a,vs,rfl,_⟩:=h;rfl
 ·obtain⟨a,dx,fs,rfl,_⟩:=h;rfl
 ·rw[h];rfl
 ·obtain⟨a,rfl,_⟩:=h;rfl
 ·rw[h];rfl
 ·obtain⟨_,_,_,_,_,rfl,_⟩:=h;rfl
def D.uV (x y:D):Option Bool:=match y with
 | .non=>x.isN
 |_=>none
def D.DP (x y:D):Option Bool:=(D.uV x y).map fun b=> !b
theorem yz {x y:D} {b:Bool} (h:D.uV x y=some b):y= .non/\x.isN=some b:=by
 cases y <;> first|cases h|skip
 exact⟨rfl,h⟩
theorem DQ {m1:VM}:Op2 X (fun x y H Q=>y= .non/\Q (.bl (decide (x= .non))) H) m1 (.rg mb) (.rg rg) (blD D.uV):=fun O H0 H G x y v w d Q e hx hy _ k=>by
 obtain⟨b,e1,rfl⟩:=gN e
 obtain⟨rfl,e2⟩:=yz e1
 refine⟨by unfold bh Rep at hy;exact hy,?_⟩
 rw[DO hx.hb e2]
 exact k _ H G .refl kY
theorem LP {m1:VM}:Op2 X (fun x y H Q=>y= .non/\Q (.bl (!decide (x= .non))) H) m1 (.rg mb) (.rg rg) (blD D.DP):=fun O H0 H G x y v w d Q e hx hy _ k=>by
 obtain⟨b,e1,rfl⟩:=gN e
 unfold D.DP at e1
 cases q':D.uV x y with
 |none=>rw[q'] at e1;cases e1
 |some c=>
  rw[q'] at e1;cases e1
  obtain⟨rfl,e2⟩:=yz q'
  refine⟨by unfold bh Rep at hy;exact hy,?_⟩
  rw[DO hx.hb e2]
  exact k _ H G .refl kY
end
end Sw
namespace Sw
open PySem PySem.Spec PyProof.Rows L2
variable [NmC]
section
variable {K:Frg} {O:Org} {H H1 H2:Hp} {G G1 G2:Sa}
theorem Ext.new {p:Addr} {o:HO} (h:H p=none):Ext H G (upd H p o) G:=
 .of (fun q u e=>by rw[upd_ne (ne_of_none e h)];exact e) (fun _ g=>g) (fun _ g=>.inl g)
theorem Ext.LQ {p:Addr} {o:HO} (h:H p=none):Ext H G (upd H p o) (fun q=>G q\/q=p):=
 .of (fun q u e=>by rw[upd_ne (ne_of_none e h)];exact e) (fun _ g=>.inl g) (fun q g=>g.elim .inl fun e=>by subst e;exact .inr (.inl ⟨h,by rw[upd_same];simp⟩))
theorem vk {S:Sa} {p:Addr} {o:HO} (h:H p=none):Agr S H (upd H p o):=we fun q u e=>by rw[upd_ne (ne_of_none e h)];exact e
theorem rS: ∀{ds:List D} {vs:List V},aE K G H ds vs->fP (Own K G H .fz) ds vs []
 | [],_,h=>by unfold aE at h;exact⟨h,rfl⟩
 |d::ds,_,h=>by
  unfold aE at h
  obtain⟨v,r,e,h1,h2⟩:=h
  exact⟨v,r,[],[],e,by unfold Own;exact⟨h1,rfl⟩,rS h2,rfl⟩
theorem AJ: ∀{ds:List D} {vs:List V} {L:List Addr},fP (Own K G H .fz) ds vs L->aE K G H ds vs/\L=[]
 | [],_,_,h=>by rw[h.1];exact⟨.nil,h.2⟩
 |d::ds,_,_,⟨v,r,L1,L2,e1,o1,o2,e2⟩=>by
  unfold Own at o1
  obtain⟨h1,h2⟩:=AJ o2
  rw[e1,e2,o1.2,h2]
  exact⟨.cons o1.1 h1,rfl⟩
theorem wm {ds:List D} {vs:List V} {p:Addr} (hp:H p=none) (gin: ∀p,G p->H p≠none) (r:aE K G H ds vs):bh K O H (upd H p (.lst vs)) G (.nw (.ls .fz)) (.lst ds) (.ref p):=by
 refine⟨[p],(by simp:[p].Nodup),fun q m=> ?_,?_⟩
 ·rw[List.mem_singleton] at m
  subst m
  exact⟨hp,fun g=>gin _ g hp⟩
 ·unfold Own
  exact⟨p,vs,ds,[],rfl,rfl,upd_same,rS (aE.mono (fun _ g=>g) (vk hp) ds vs r),rfl⟩
def allM (m:VM):List VM->Prop
 | []=>True
 |n::ns=>n=m/\allM m ns
theorem kW.Cc {r:Rg}: ∀{ms:List VM} {ds:List D} {vs:List V},allM (.rg r) ms->kW K O H H1 G1 ms ds vs->aE K (rgn O G1 r) H1 ds vs
 | [],[],_,_,h=>by rw[show _=[] from h];exact .nil
 |m::ms,d::ds,_,⟨e,a⟩,⟨v,r,e1,h1,h2⟩=>by
  subst e;subst e1
  exact .cons h1 (kW.Cc a h2)
 | [],_::_,_,_,h=>h.elim
 |_::_,[],_,_,h=>h.elim
end
section
variable {X:Cx} {Δ:List Md} {st:Ds} {a b e o:Expr} {es:List Expr} {m ma mb:VM} {ra rb:Option D} {pos:Pos} {r rg:Rg}
theorem lJ {ms:List VM} {rs:Option (List D)} (h:PAx X Δ st es ms rs) (hm:allM (.rg .fz) ms):PX X Δ st (.List es pos) (.nw (.ls .fz)) (rs.bind fun ds=>if ds.length<=sizeLine then some (.lst ds) else none):=
 bj (pe_lst h) fun σ H Q ⟨O,G,d,rel,er,k⟩=>by
  obtain⟨ds,e1,e2⟩:=bind1 er
  obtain⟨q,rfl⟩:=aM e2
  refine rdA.go rel e1 fun vs H1 G1 rel1 x1 v1=> ?_
  have hr:=v1.Cc hm
  exact⟨by rw[hr.length];exact q,fun p hp=>k _ _ G1 (x1.trans (.new hp)) (bh.back x1 (wm hp rel1.gin hr))⟩
theorem nk {s:Sh}:PX X Δ st (.List [] pos) (.nw (.ls s)) (some (.lst [])):=
 bj (pe_lst pa_nil) fun σ H Q ⟨O,G,d,rel,er,k⟩=>by
  cases er
  refine⟨Nat.zero_le _,fun p hp=>k _ _ G (.new hp) ⟨[p],(by simp:[p].Nodup),fun q m=> ?_,?_⟩⟩
  ·rw[List.mem_singleton] at m
   subst m
   exact⟨hp,fun g=>rel.gin _ g hp⟩
  ·unfold Own
   exact⟨p,[],[],[],rfl,rfl,upd_same,⟨rfl,rfl⟩,rfl⟩
theorem Gn {ms:List VM} {rs:Option (List D)} (h:PAx X Δ st es ms rs) (hm:allM (.rg .fz) ms) {x1:Nat} (hl:es.length<=1000) (hlen: ∀ds,rs=some ds->ds.length<=1000):PX X Δ st (.Tuple es x1 pos) (.rg .fz) (rs.bind fun ds=>some (.tup ds)):=
 bj (pe_tup h) fun σ H Q ⟨O,G,d,rel,er,k⟩=>by
  obtain⟨ds,e1,e2⟩:=bind1 er
  cases e2
  refine rdA.go rel e1 fun vs H1 G1 rel1 x1 v1=> ?_
  have hr:=v1.Cc hm
  refine⟨by rw[hr.length];exact Nat.le_of_lt (small1000 (hlen ds e1)),fun p hp=>k _ _ _ (x1.trans (.LQ hp)) ?_⟩
  unfold bh Rep
  exact⟨p,vs,rfl,⟨.inr rfl,upd_same⟩,aE.mono (fun _ g=>.inl g) (vk hp) ds vs hr⟩
theorem cm {r2:R2} {f:D->D->Option D} (hr:IxR X r2) (hf:Op2 X r2 ma mb m f) (ha:PX X Δ st a ma ra) (hb:PX X Δ st b mb rb) (hs:PlainIx b):PX X Δ st (.Subscript a b pos) m (ra.bind fun x=>rb.bind fun y=>f x y):=
 bj (pe_ix hr ha hb hs) fun _ _ _ h=>zj hf h
def D.atL (x y:D):Option D:=match x,y with
 | .lst ds,.int i=>atI ds i
 |_,_=>none
def D.atT (x y:D):Option D:=match x,y with
 | .tup ds,.int i=>atI ds i
 |_,_=>none
def D.atS (x y:D):Option D:=match x,y with
 | .str z,.int i=>if z.length<=sizeLine then (atI z.cps.toList i).map fun c=>.str ⟨#[c]⟩ else none
 |_,_=>none
def D.atC (x y:D):Option D:=match x,y with
 | .sc ns,.int i=>(atI ns i).map D.int
 |_,_=>none
theorem aE.atI {K:Frg} {S:Sa} {H:Hp} {ds:List D} {vs:List V} {i:Int} {d:D} (h:aE K S H ds vs) (e:L2.atI ds i=some d): ∃v,L2.atI vs i=some v/\Rep K S H d v:=by
 unfold L2.atI at e⊢
 rw[h.length]
 cases q:ixN ds.length i with
 |none=>rw[q] at e;cases e
 |some j=>
  rw[q] at e
  exact h.get e
theorem mJ:Op2 X (rIxL X.K) (.rg r) (.rg mb') (.rg r) D.atL:=fun O H0 H G x y v w d Q e hx hy _ k=>by
 cases x <;> cases y <;> first|cases e|skip
 rename_i ds i
 unfold bh Rep at hx
 obtain⟨a,vs,rfl,_,l,rr⟩:=hx
 obtain⟨u,e1,e2⟩:=rr.atI e
 exact⟨a,vs,i,u,rfl,hy.int,SqL.of l,e1,k _ H G .refl e2⟩
theorem kZ:Op2 X (rIxT X.K) (.rg r) (.rg mb') (.rg r) D.atT:=fun O H0 H G x y v w d Q e hx hy _ k=>by
 cases x <;> cases y <;> first|cases e|skip
 rename_i ds i
 unfold bh Rep at hx
 obtain⟨a,vs,rfl,l,rr⟩:=hx
 obtain⟨u,e1,e2⟩:=rr.atI e
 exact⟨a,vs,i,u,rfl,hy.int,l.sq,e1,k _ H G .refl e2⟩
theorem AK:Op2 X rIxS (.rg r) (.rg mb') (.rg rg) D.atS:=fun O H0 H G x y v w d Q e hx hy _ k=>by
 cases x <;> cases y <;> first|cases e|skip
 rename_i z i
 have e:(if z.length<=sizeLine then (atI z.cps.toList i).map fun c=>D.str ⟨#[c]⟩ else none)=some d:=e
 split at e
 ·rename_i q
  cases e1:atI z.cps.toList i with
  |none=>rw[e1] at e;cases e
  |some c=>rw[e1] at e;cases e;exact⟨z,i,c,hx.str,hy.int,q,e1,k _ H G .refl qJ⟩
 ·cases e
theorem IT {α β:Type} (f:α->β) (l:List α) (i:Int):atI (l.map f) i=(atI l i).map f:=by
 unfold atI
 rw[List.length_map]
 cases ixN l.length i with
 |none=>rfl
 |some j=>simp
theorem Of:Op2 X (rIxL X.K) (.rg r) (.rg mb') (.rg rg) D.atC:=fun O H0 H G x y v w d Q e hx hy _ k=>by
 cases x <;> cases y <;> first|cases e|skip
 rename_i ns i
 have e:(atI ns i).map D.int=some d:=e
 unfold bh Rep at hx
 obtain⟨a,rfl,l⟩:=hx
 cases e1:atI ns i with
 |none=>rw[e1] at e;cases e
 |some c=>rw[e1] at e;cases e;exact⟨a,_,i,.int c,rfl,hy.int,l.sq,by rw[IT,e1];rfl,k _ H G .refl jt⟩
def D.key:D->Option Key
 | .int i=>some (.inl i)
 | .str x=>some (.inr x)
 |_=>none
def kD:Key->D
 | .inl i=>.int i
 | .inr x=>.str x
theorem Rep.key {K:Frg} {S:Sa} {H:Hp} {d:D} {k:Key} {v:V} (e:d.key=some k) (h:Rep K S H d v):v=kV k:=by
 cases d <;> first|cases e|skip
 ·unfold Rep at h;exact h
 ·unfold Rep at h;exact h
def D.keys:List D->Option (List Key)
 | []=>some []
 |d::ds=>(d.key).bind fun k=>(D.keys ds).bind fun ks=>some (k::ks)
theorem aE.keys {K:Frg} {S:Sa} {H:Hp}: ∀{ds:List D} {ks:List Key} {vs:List V},D.keys ds=some ks->aE K S H ds vs->vs=ks.map kV
 | [],_,_,e,h=>by unfold aE at h;cases e;exact h
 |d::ds,_,_,e,h=>by
  unfold aE at h
  obtain⟨v,r,rfl,h1,h2⟩:=h
  unfold D.keys at e
  obtain⟨x,y,e1,e2,e3⟩:=bO e
  cases e3
  rw[Rep.key e1 h1,aE.keys e2 h2];rfl
def D.LR:D->Option (List Key)
 | .tup ds=>D.keys ds
 |_=>none
def D.look (x y:D):Option (Option D):=match x with
 | .dct ks=>(y.key).map fun k=>aG ks k
 | .dcT ks=>(y.LR).map fun k=>aG ks k
 |_=>none
theorem gL.get {K:Frg} {S:Sa} {H:Hp}: ∀{ks:List (List Key×D)} {kvs:List (List Key×V)} (k:List Key),gL K S H ks kvs->(∀d,aG ks k=some d-> ∃v,valV kvs k=some v/\Rep K S H d v)/\(aG ks k=none->valV kvs k=none)
 | [],_,k,h=>by
  unfold gL at h
  rw[h]
  exact⟨fun d e=>(nomatch e),fun _=>rfl⟩
 |(j,d)::ks,_,k,h=>by
  unfold gL at h
  obtain⟨v,r,rfl,h1,h2⟩:=h
  have ih:=gL.get k h2
  rw[bH]
  by_cases e:j=k
  ·subst e
   rw[valV_pos rfl]
   simp only[if_true]
   exact⟨fun d' e'=>⟨v,rfl,(Option.some.inj e')▸h1⟩,fun e'=>(nomatch e')⟩
  ·rw[valV_neg (show ¬(j,v).1=k from e)]
   simp only[e,if_false]
   exact ih
theorem Rep.look {K:Frg} {S S':Sa} {H:Hp} {x y:D} {o:Option D} {v w:V} (e:D.look x y=some o) (hx:Rep K S H x v) (hy:Rep K S' H y w): ∃a u,v= .ref a/\DGet H a w u/\IsD H a/\(∀d,o=some d-> ∃z,u=some z/\Rep K S H d z)/\(o=none->u=none):=by
 cases x <;> first|cases e|skip
 ·rename_i ks
  have e:(y.key).map (fun k=>aG ks k)=some o:=e
  cases q:y.key with
  |none=>rw[q] at e;cases e
  |some k=>
   rw[q] at e;cases e
   unfold Rep at hx
   obtain⟨a,kvs,rfl,_,l,nd,rr⟩:=hx
   obtain⟨g1,g2⟩:=rr.get k
   exact⟨a,valV kvs k,rfl,.inl ⟨kvs,k,l,Rep.key q hy,rfl⟩,.inl ⟨kvs,l⟩,fun d e=>g1 d e,g2⟩
 ·rename_i ks
  have e:(y.LR).map (fun k=>aG ks k)=some o:=e
  cases q:y.LR with
  |none=>rw[q] at e;cases e
  |some k=>
   rw[q] at e;cases e
   unfold Rep at hx
   obtain⟨a,kvs,rfl,_,l,nd,rr⟩:=hx
   obtain⟨g1,g2⟩:=rr.get k
   cases y <;> first|cases q|skip
   unfold Rep at hy
   obtain⟨b,vs,rfl,lt,rs⟩:=hy
   have:=rs.keys q
   subst this
   exact⟨a,valV kvs k,rfl,.inr ⟨kvs,k,b,l,rfl,lt.2,rfl⟩,.inr ⟨kvs,l⟩,fun d e=>g1 d e,g2⟩
def D.IU (x y:D):Option D:=(D.look x y).bind id
def D.inK (y x:D):Option Bool:=(D.look x y).map fun o=>o.isSome
def D.IV (y x:D):Option Bool:=(D.look x y).map fun o=> !o.isSome
def D.tb:D->Option Bool
 | .bl b=>some b
 |_=>none
theorem vn {d:D} {b:Bool} (h:d.tb=some b):d= .bl b:=by
 cases d <;> first|cases h|skip
 rfl
theorem DR (h:PX X Δ st e (.rg r) ra) (he: ∀whole,isTrue e X.env whole=(do let v<-whole;standAt e.pos;holding [v] (truthy v)):=by intro _;rfl):PTx X Δ st e (ra.bind D.tb):=
 yu (pt_val h he) fun σ H Q ⟨O,G,b,rel,er,k⟩=>by
  obtain⟨d,e1,e2⟩:=bind1 er
  have:=vn e2
  subst this
  exact rdE.go rel e1 fun v H1 G1 rel1 x1 v1=>⟨b,v1.bl,k H1 G1 x1⟩
theorem vo {rt:Option Bool} (h:PTx X Δ st e rt):PTx X Δ st (.UnaryOp .Not e pos) (rt.bind fun b=>some (!b)):=
 yu (pt_not h) fun σ H Q ⟨O,G,b,rel,er,k⟩=>by
  obtain⟨d,e1,e2⟩:=bind1 er
  cases e2
  exact rdT.go rel e1 fun H1 G1 rel1 x1=>k H1 G1 x1
theorem rT {rt:Option Bool} (h:PTx X Δ st e rt):PWx X Δ st (.BoolOp .And [e] pos) rt:=pw_and1 h
theorem pZ {rt:Option Bool} (h:PTx X Δ st e rt):PWx X Δ st (.BoolOp .Or [e] pos) rt:=pw_or1 h
theorem vp {rt rs:Option Bool} {b:Expr} {rest:List Expr} (h:PTx X Δ st e rt) (hb:PWx X Δ st (.BoolOp .And (b::rest) pos) rs):PWx X Δ st (.BoolOp .And (e::b::rest) pos) (rt.bind fun c=>if c=true then rs else some false):=
 Gb (pw_and h hb) fun σ H Q ⟨O,G,b,rel,er,k⟩=>by
  obtain⟨c,e1,e2⟩:=bind1 er
  refine rdT.go rel e1 fun H1 G1 rel1 x1=> ?_
  cases c with
  |true=>exact rdT.go rel1 (by simpa using e2) fun H2 G2 rel2 x2=>k H2 G2 (x1.trans x2)
  |false=>cases e2;exact k H1 G1 x1
theorem pj {rt rs:Option Bool} {b:Expr} {rest:List Expr} (h:PTx X Δ st e rt) (hb:PWx X Δ st (.BoolOp .Or (b::rest) pos) rs):PWx X Δ st (.BoolOp .Or (e::b::rest) pos) (rt.bind fun c=>if c=true then some true else rs):=
 Gb (pw_or h hb) fun σ H Q ⟨O,G,b,rel,er,k⟩=>by
  obtain⟨c,e1,e2⟩:=bind1 er
  refine rdT.go rel e1 fun H1 G1 rel1 x1=> ?_
  cases c with
  |false=>exact rdT.go rel1 (by simpa using e2) fun H2 G2 rel2 x2=>k H2 G2 (x1.trans x2)
  |true=>cases e2;exact k H1 G1 x1
theorem Gp {op:PySem.BoolOp} (h:PX X Δ st e m ra):PX X Δ st (.BoolOp op [e] pos) m ra:=pe_one h
theorem LS {b:Expr} {rest:List Expr} (h:PX X Δ st e (.rg r) ra) (hb:PX X Δ st (.BoolOp .And (b::rest) pos) (.rg rg) rb):PX X Δ st (.BoolOp .And (e::b::rest) pos) (.rg rg) ((ra.bind D.tb).bind fun c=>if c=true then rb else some (.bl false)):=
 bj (pe_and h hb) fun σ H Q ⟨O,G,d,rel,er,k⟩=>by
  obtain⟨c,e1,e2⟩:=bind1 er
  obtain⟨x,e3,e4⟩:=bind1 e1
  have:=vn e4
  subst this
  refine rdE.go rel e3 fun v H1 G1 rel1 x1 v1=>⟨c,v1.bl,?_⟩
  cases c with
  |true=>exact rdE.go rel1 (by simpa using e2) fun w H2 G2 rel2 x2 v2=>k w H2 G2 (x1.trans x2) v2
  |false=>cases e2;exact k _ H1 G1 x1 kY
theorem KW {b:Expr} {rest:List Expr} (h:PX X Δ st e (.rg r) ra) (hb:PX X Δ st (.BoolOp .Or (b::rest) pos) (.rg rg) rb):PX X Δ st (.BoolOp .Or (e::b::rest) pos) (.rg rg) ((ra.bind D.tb).bind fun c=>if c=true then some (.bl true) else rb):=
 bj (pe_or h hb) fun σ H Q ⟨O,G,d,rel,er,k⟩=>by
  obtain⟨c,e1,e2⟩:=bind1 er
  obtain⟨x,e3,e4⟩:=bind1 e1
  have:=vn e4
  subst this
  refine rdE.go rel e3 fun v H1 G1 rel1 x1 v1=>⟨c,v1.bl,?_⟩
  cases c with
  |false=>exact rdE.go rel1 (by simpa using e2) fun w H2 G2 rel2 x2 v2=>k w H2 G2 (x1.trans x2) v2
  |true=>cases e2;exact k _ H1 G1 x1 kY
theorem LU (h:PX X Δ st e (.rg r) ra):PX X Δ st (.UnaryOp .Not e pos) (.rg rg) ((ra.bind D.tb).bind fun c=>some (.bl (!c))):=
 bj (pe_not h) fun σ H Q ⟨O,G,d,rel,er,k⟩=>by
  obtain⟨c,e1,e2⟩:=bind1 er
  obtain⟨x,e3,e4⟩:=bind1 e1
  have:=vn e4
  subst this
  cases e2
  exact rdE.go rel e3 fun v H1 G1 rel1 x1 v1=>⟨c,v1.bl,k _ H1 G1 x1 kY⟩
def un1 {α:Type} (f:D->Option α):List D->Option α
 | [x]=>f x
 |_=>none
def un2 {α:Type} (f:D->D->Option α):List D->Option α
 | [x,y]=>f x y
 |_=>none
theorem mK {α:Type} {f:D->Option α} {xs:List D} {d:α} (h:un1 f xs=some d): ∃x,xs=[x]/\f x=some d:=by
 match xs,h with
 | [x],h=>exact⟨x,rfl,h⟩
theorem Cd {K:Frg} {O:Org} {H H1:Hp} {G1:Sa} {m1:VM} {x:D} {vs:List V} (h:kW K O H H1 G1 [m1] [x] vs): ∃v,vs=[v]/\bh K O H H1 G1 m1 x v:=by
 obtain⟨v,r,e,h1,h2⟩:=h
 rw[show r=[] from h2] at e
 exact⟨v,e,h1⟩
def D.mq (x:D):Option D:=(x.items).map fun ds=>.int ds.length
theorem wq:OpN X (fun xs H Q=> ∃p ys,xs=[.ref p]/\(SqL X.K H p ys\/SqT X.K H p ys)/\Q (.int ys.length) H) [ma] (.rg rg) (un1 D.mq):=fun O H0 H G xs vs d Q e hv _ k=>by
 obtain⟨x,rfl,e1⟩:=mK e
 obtain⟨v,rfl,h1⟩:=Cd hv
 unfold D.mq at e1
 cases q:x.items with
 |none=>rw[q] at e1;cases e1
 |some ds=>
  rw[q] at e1;cases e1
  obtain⟨p,ws,rfl,l,r⟩:=Rep.items q h1.hb
  refine⟨p,ws,rfl,l,?_⟩
  rw[r.length]
  exact k _ H G .refl jt
def D.AL (x:D):Option D:=match x with
 | .sc ns=>some (.int ns.length)
 |_=>none
theorem LV:OpN X (fun xs H Q=> ∃p ys,xs=[.ref p]/\(SqL X.K H p ys\/SqT X.K H p ys)/\Q (.int ys.length) H) [.rg r] (.rg rg) (un1 D.AL):=fun O H0 H G xs vs d Q e hv _ k=>by
 obtain⟨x,rfl,e1⟩:=mK e
 obtain⟨v,rfl,h1⟩:=Cd hv
 cases x <;> first|cases e1|skip
 unfold bh Rep at h1
 obtain⟨a,rfl,l⟩:=h1
 refine⟨a,_,rfl,.inl l.sq,?_⟩
 rw[List.length_map]
 exact k _ H G .refl jt
def D.o7 (x:D):Option D:=match x with
 | .str z=>if z.length<=sizeLine then some (.int z.length) else none
 |_=>none
theorem tu:OpN X (fun xs H Q=> ∃x n,xs=[x]/\LenV X.K x H n/\Q (.int n) H) [.rg r] (.rg rg) (un1 D.o7):=fun O H0 H G xs vs d Q e hv _ k=>by
 obtain⟨x,rfl,e1⟩:=mK e
 obtain⟨v,rfl,h1⟩:=Cd hv
 cases x <;> first|cases e1|skip
 rename_i z
 obtain⟨q,rfl⟩:=aM (show (if z.length<=sizeLine then some (D.int z.length) else none)=some d from e1)
 rw[h1.str]
 exact⟨_,z.length,rfl,⟨q,rfl⟩,k _ H G .refl jt⟩
def D.IW (x:D):Option D:=match x with
 | .dct ks=>some (.int ks.length)
 |_=>none
def D.toL (x:D):Option D:=(x.items).map .lst
end
end Sw
namespace Sw
open PySem PySem.Spec PyProof.Rows L2
variable [NmC]
section
variable {X:Cx} {Δ:List Md} {st:Ds} {a b e o:Expr} {es:List Expr} {m ma mb:VM} {ra rb:Option D} {pos p2:Pos} {r rg:Rg}
def rdO (K:Frg) (Δ:List Md) (st:Ds) (ro:Option (Option Int)):TO:=fun σ H Q=> ∃O G i,Rel K O Δ st σ H G/\ro=some i/\ ∀H' G',Ext H G H' G'->Q i H'
abbrev POx (X:Cx) (Δ:List Md) (st:Ds) (e:Option Expr) (r:Option (Option Int)):Prop:=PO X e (rdO X.K Δ st r)
theorem dj:POx X Δ st none (some none):=⟨fun pins s σ H Q I ⟨O,G,i,rel,er,k⟩=>by
 cases er
 exact po_none.run pins s σ H Q I (k H G .refl)⟩
def D.toI:D->Option (Option Int)
 | .int i=>some (some i)
 |_=>none
theorem dq (h:PX X Δ st e (.rg r) ra):POx X Δ st (some e) (ra.bind D.toI):=⟨fun pins s σ H Q I ⟨O,G,i,rel,er,k⟩=>by
 obtain⟨d,e1,e2⟩:=bind1 er
 cases d <;> first|cases e2|skip
 exact (po_some h).run pins s σ H Q I (rdE.go rel e1 fun v H1 G1 rel1 x1 v1=>⟨_,v1.int,k H1 G1 x1⟩)⟩
def dJ {α:Type} (xs:List α) (lo hi:Option Int):List α:=(xs.drop (HT.sIx xs.length 0 lo)).take (HT.sIx xs.length xs.length hi -HT.sIx xs.length 0 lo)
def D.dJ (x:D) (lo hi:Option Int):Option D:=match x with
 | .lst ds=>some (.lst (Sw.dJ ds lo hi))
 |_=>none
theorem aE.cut {K:Frg} {S:Sa} {H:Hp} {ds:List D} {vs:List V} (h:aE K S H ds vs) (lo hi:Option Int):aE K S H (Sw.dJ ds lo hi) (cutV vs lo hi):=by
 unfold Sw.dJ cutV
 rw[h.length]
 exact (h.drop _).take _
theorem IX {lo hi:Option Expr} {rl rh:Option (Option Int)} (ha:PX X Δ st a (.rg .fz) ra) (hl:POx X Δ st lo rl) (hh:POx X Δ st hi rh):PX X Δ st (.Subscript a (.Slice lo hi none p2) pos) (.nw (.ls .fz)) (ra.bind fun x=>rl.bind fun l=>rh.bind fun u=>D.dJ x l u):=
 bj (L2.pe_slice sl_list ha hl hh) fun σ H Q ⟨O,G,d,rel,er,k⟩=>by
  obtain⟨x,e1,er⟩:=bind1 er
  obtain⟨l,u,e2,e3,e4⟩:=bO er
  cases x <;> first|cases e4|skip
  refine rdE.go rel e1 fun v H1 G1 rel1 x1 v1=>⟨O,G1,l,rel1,e2,fun H2 G2 x2=>⟨O,G2,u,rel1.ext x2,e3,fun H3 G3 x3=> ?_⟩⟩
  have v3:=(v1.mono x2).mono x3
  unfold bh Rep at v3
  obtain⟨p,vs,rfl,_,l',r'⟩:=v3
  exact⟨p,vs,rfl,SqL.of l',fun q hq=>k _ _ G3 ((x1.trans (x2.trans x3)).trans (.new hq)) (bh.back (x1.trans (x2.trans x3)) (wm hq ((rel1.ext x2).ext x3).gin (r'.cut l u)))⟩
def D.LW (x:D) (lo hi:Option Int):Option D:=match x with
 | .sc ns=>some (.lst ((Sw.dJ ns lo hi).map D.int))
 |_=>none
def D.cutS (x:D) (lo hi:Option Int):Option D:=match x with
 | .str z=>if z.length<=sizeLine then some (.str (L2.cutS z lo hi)) else none
 |_=>none
theorem nu {lo hi:Option Expr} {rl rh:Option (Option Int)} (ha:PX X Δ st a (.rg r) ra) (hl:POx X Δ st lo rl) (hh:POx X Δ st hi rh):PX X Δ st (.Subscript a (.Slice lo hi none p2) pos) (.rg rg) (ra.bind fun x=>rl.bind fun l=>rh.bind fun u=>D.cutS x l u):=
 bj (L2.pe_slice sl_str ha hl hh) fun σ H Q ⟨O,G,d,rel,er,k⟩=>by
  obtain⟨x,e1,er⟩:=bind1 er
  obtain⟨l,u,e2,e3,e4⟩:=bO er
  cases x <;> first|cases e4|skip
  rename_i z
  obtain⟨q,rfl⟩:=aM (show (if z.length<=sizeLine then some (D.str (L2.cutS z l u)) else none)=some d from e4)
  refine rdE.go rel e1 fun v H1 G1 rel1 x1 v1=>⟨O,G1,l,rel1,e2,fun H2 G2 x2=>⟨O,G2,u,rel1.ext x2,e3,fun H3 G3 x3=> ?_⟩⟩
  exact⟨z,v1.str,q,k _ H3 G3 (x1.trans (x2.trans x3)) qJ⟩
def D.qj (x y:D):Option D:=match x,y with
 | .lst xs,.lst ys=>if xs.length+ys.length<=sizeLine then some (.lst (xs++ys)) else none
 |_,_=>none
theorem wu:Op2 X rCat (.rg .fz) (.rg .fz) (.nw (.ls .fz)) D.qj:=fun O H0 H G x y v w d Q e hx hy gin k=>by
 cases x <;> cases y <;> first|cases e|skip
 rename_i xs ys
 obtain⟨q,rfl⟩:=aM (show (if xs.length+ys.length<=sizeLine then some (D.lst (xs++ys)) else none)=some d from e)
 unfold bh Rep at hx hy
 obtain⟨a,vs,rfl,_,l,rr⟩:=hx
 obtain⟨b,ws,rfl,_,l',rr'⟩:=hy
 exact⟨a,b,vs,ws,rfl,rfl,l,l',by rw[rr.length,rr'.length];exact q,fun p hp=>k _ _ G (.new hp) (wm hp gin (rr.append rr'))⟩
def dLe (x y:D):Bool:= !PySem.W.dataLt y.pd x.pd
def LX (ds:List D):Bool:=ds.all fun a=>ds.all fun b=>PySem.W.alike a.pd b.pd
def D.Og:D->Bool
 | .tup (_::_)=>true
 |_=>false
def D.noT:D->Bool
 | .int _=>true| .str _=>true| .bl _=>true| .lst _=>true
 |_=>false
def LY (ds:List D):Bool:=ds.all (fun d=>d.dat&&decide (d.pd.depth<=40))&&LX ds&&(ds.all D.Og||ds.all D.noT)&&decide (ds.length<=sizeLine)
def srt (ds:List D):List D:=ds.mergeSort dLe
theorem jP {tg:Expr} (h:PX X Δ st e (.rg rg) ra):PIx (δ:=D) X Δ st tg e rg (irV X.K) (ra.bind fun x=>match x with| .lst ds=>some ds|_=>none):=
 DK (pi_list h) fun σ H R ⟨O,G,ds,rel,er,k⟩=>by
  obtain⟨x,e1,e2⟩:=bind1 er
  cases x <;> first|cases e2|skip
  rename_i ds
  refine rdE.go rel e1 fun v H1 G1 rel1 x1 v1=> ?_
  unfold bh Rep at v1
  obtain⟨a,vs,rfl,s,l,rr⟩:=v1
  refine⟨a,rfl,⟨vs,SqL.of l⟩,k _ H1 G1 x1 (wkS fun H2 hst i=> ?_)⟩
  have l2:SqL X.K H2 a vs:=SqL.of (hst a _ s l (fun _ z=>by cases z))
  refine⟨fun d hd=> ?_,fun hi=>⟨vs,l2,by rw[rr.length];exact hi⟩⟩
  obtain⟨u,e3,e4⟩:=rr.get hd
  refine⟨⟨vs,u,l2,e3⟩,fun x H3 ⟨eH,f⟩=> ?_⟩
  subst eH
  have:=f vs l2
  rw[e3] at this;cases this
  exact⟨fun _ _ e=>e,Rep.mono (fun _ g=>g) (fun p sp=>k7.Ga fun u n e=>hst p u sp e n) _ _ e4⟩
def D.pr:D->Option (D×D)
 | .tup [a,b]=>some (a,b)
 |_=>none
def D.prs:List D->Option (List (D×D))
 | []=>some []
 |d::ds=>(D.pr d).bind fun x=>(D.prs ds).bind fun xs=>some (x::xs)
def ya (lo:Int) (n:Nat):List D:=(List.range n).map fun i:Nat=>D.int (lo+i)
theorem IY {lo:Int} {n i:Nat} {d:D} (h:(ya lo n)[i]? =some d):i<n/\d= .int (lo+i):=by
 unfold ya at h
 rw[List.getElem?_map] at h
 by_cases hi:i<n
 ·rw[List.getElem?_range hi] at h
  exact⟨hi,(Option.some.inj h).symm⟩
 ·rw[List.getElem?_eq_none (by simpa using hi)] at h;cases h
theorem IZ {K:Frg} {S S':Sa} {H:Hp} {lo:Int} {n:Nat}:Wlk (irV K S') S (Itr lo n) (ya lo n) H:=fun H2 _ i=>by
 refine⟨fun d hd=> ?_,fun hi=> ?_⟩
 ·obtain⟨hi,rfl⟩:=IY hd
  refine⟨hi,fun x H3 ⟨eH,ex⟩=> ?_⟩
  subst eH;subst ex
  exact⟨fun _ _ e=>e,by unfold irV Rep;rfl⟩
 ·show n<=i
  unfold ya at hi
  simpa using hi
noncomputable def okR (i:Int):Bool:=@decide (-(2^62)<=i/\i<2^62) (Classical.propDecidable _)
noncomputable def D.qk (xs:List D):Option (List D):=match xs with
 | [.int n]=>if okR n=true then some (ya 0 n.toNat) else none
 |_=>none
theorem DS {i:Int} (h:okR i=true): -(2^62)<=i/\i<2^62:=by
 unfold okR at h
 exact @of_decide_eq_true _ (Classical.propDecidable _) h
theorem rV {tg:Expr} {p:Pos} {rs:Option (List D)} (hg:Gl X "range") (hm:X.mg "range" =none) (ha:PAx X Δ st [a] [.rg r] rs) (hs:starEach [a] X.env=[(false,eval a X.env)]:=by rfl):
  PIx (δ:=D) X Δ st tg (.Call (.Name "range" p) [a] [] pos) .fz (irV X.K) (rs.bind D.qk):=DK (pi_range1 hg hm ha hs) fun σ H R ⟨O,G,ds,rel,er,k⟩=>by
 obtain⟨xs,e1,e2⟩:=bind1 er
 unfold D.qk at e2
 split at e2
 ·rename_i n
  obtain⟨q,rfl⟩:=aM e2
  refine rdA.go rel e1 fun vs H1 G1 rel1 x1 v1=> ?_
  obtain⟨v,rfl,h1⟩:=Cd v1
  rw[h1.int]
  exact⟨n,rfl,(DS q).1,(DS q).2,k _ H1 G1 x1 IZ⟩
 ·cases e2
def sgn (c:Nat):D:=.str ⟨#[c]⟩
def D.tv (x:D):Option (List D):=match x with
 | .str z=>some (z.cps.toList.map sgn)
 |_=>none
theorem vq {tg:Expr} (h:PX X Δ st e (.rg r) ra):PIx (δ:=D) X Δ st tg e .fz (irV X.K) (ra.bind D.tv):=
 DK (pi_str h) fun σ H R ⟨O,G,ds,rel,er,k⟩=>by
  obtain⟨x,e1,e2⟩:=bind1 er
  cases x <;> first|cases e2|skip
  rename_i z
  refine rdE.go rel e1 fun v H1 G1 rel1 x1 v1=>⟨z,v1.str,k _ H1 G1 x1 fun H2 hst i=>⟨fun d hd=> ?_,fun hi=>by
   show z.cps.size<=i
   simpa using hi⟩⟩
  rw[List.getElem?_map] at hd
  cases q:z.cps.toList[i]? with
  |none=>rw[q] at hd;cases hd
  |some c=>
   rw[q] at hd;cases hd
   have hlt:i<z.cps.size:=by
    have:=(List.getElem?_eq_some_iff.mp q).1
    simpa using this
   refine⟨hlt,fun x H3 ⟨eH,c',e3,e4⟩=> ?_⟩
   subst eH
   rw[Array.getElem?_toList] at q
   rw[q] at e3;cases e3
   subst e4
   exact⟨fun _ _ e=>e,by unfold irV sgn Rep;rfl⟩
end
def rW {δ:Type} (rt:δ->Option Bool) (re:δ->Option D):List δ->Option (List D)
 | []=>some []
 |d::ds=>(rt d).bind fun b=>if b=true then (re d).bind fun x=>(rW rt re ds).bind fun xs=>some (x::xs) else rW rt re ds
def yA {δ:Type} (rt:δ->Option Bool) (re:δ->Option D) (ds:List δ):Option D:=if ds.length<=sizeLine then (rW rt re ds).map D.lst else none
abbrev Oh (X:Cx) (Δ:List Md) (st:Ds) (ifs:List Expr) (r:Option Bool):Prop:=PTs X ifs (rdT X.K Δ st r)
section
variable {X:Cx} {Δ:List Md} {st:Ds} {pos:Pos}
theorem wx:Oh X Δ st [] (some true):=⟨fun pins s σ H Q I ⟨O,G,b,rel,er,k⟩=>by
 cases er
 exact pts_nil.run pins s σ H Q I (k H G .refl)⟩
theorem AM {c:Expr} {r:Option Bool} (h:PTx X Δ st c r):Oh X Δ st [c] r:=pts_one h
theorem LZ {ifs:List Expr} {α:Type} {t:α->TT} (h: ∀a,PTs X ifs (t a)):PTs X ifs (fun σ H Q=> ∃a,t a σ H Q):=⟨fun pins s σ H De I ⟨a,q⟩=>(h a).run pins s σ H De I q⟩
theorem Rel.wipe {K:Frg} {O:Org} {σ:CS} {H:Hp} {G:Sa}: ∀{vs:List Nat},(∀v∈vs,st[v]? =some none)->Rel K O Δ st σ H G->Rel K O Δ st (L2.wipe σ vs) H G
 | [],_,r=>r
 |v::vs,h,r=>by
  obtain⟨L,g,s⟩:=Rel.wipe (fun u m=>h u (List.mem_cons_of_mem _ m)) r
  unfold L2.wipe
  have hv:=h v List.mem_cons_self
  have hlt:v<Δ.length:=by rw[<-s.len.1];exact (List.getElem?_eq_some_iff.mp hv).1
  obtain⟨x',y',L1,L2',ex,ey,sr,pm,f⟩:=s.split (List.getElem?_eq_getElem hlt)
  rw[hv] at ex;cases ex
  obtain⟨L',pm',s'⟩:=f G H Δ[v] none none [] (fun _ g=>g) aC aC (fun _ _=>rfl) lG.none
  rw[iL hv,iL (List.getElem?_eq_getElem hlt)] at s'
  exact⟨L',((g.perm pm).sub (List.sublist_append_right _ _)).perm pm'.symm,s'⟩
theorem tw {σ:CS} {vs:List Nat}: ∀{us:List Nat},(∀u∈us,u∈vs)->L2.wipe (L2.wipe σ us) vs=L2.wipe σ vs
 | [],_=>rfl
 |u::us,h=>by
  show L2.wipe ((L2.wipe σ us).set u none) vs=_
  rw[mI (h u List.mem_cons_self)]
  exact tw fun w m=>h w (List.mem_cons_of_mem _ m)
theorem L5 {K:Frg} {δ:Type} {g:TG} {rg:Rg} {IR:Sa->Hp->δ->V->Prop} {rI:Option (List δ)} {uM:List Md->List Md} {uS:δ->Ds->Ds} {is vs0:List Nat} {rt:δ->Option Bool} {re:δ->Option D}
  (him:lH IR) (hw: ∀v∈vs0,st[v]? =some none) (his: ∀i∈is,i∈vs0) (htg:wg K g rg IR uM uS Δ.length is) {σ:CS} {H:Hp} {Q:VK}
  (h:rdE K Δ st (.nw (.ls .fz)) (rI.bind fun ds=>yA rt re ds) σ H Q):
  tLc (rdI K Δ st rg IR rI) g (fun σ H Q=> ∃d,rdT K (uM Δ) (uS d st) (rt d) σ H Q) (fun σ H Q=> ∃d,rdE K (uM Δ) (uS d st) (.rg .fz) (re d) σ H Q) vs0 σ H Q:=by
  obtain⟨O,G,d,rel,er,k⟩:=h
  obtain⟨ds,e1,e2⟩:=bind1 er
  unfold yA at e2
  split at e2
  case isFalse=>cases e2
  rename_i hz
  cases e3:rW rt re ds with
  |none=>rw[e3] at e2;cases e2
  |some all=>
   rw[e3] at e2;cases e2
   refine⟨O,G,ds,rel,e1,fun J H1 G1 x1 hwk D0 hD=> ?_⟩
   have rel1:=(rel.ext x1).wipe hw
   have nG: ¬G1 D0:=fun g=>rel1.gin _ g hD
   refine⟨fun i m H=> ∃G xs vs rest,m=ds.length -i/\i<=ds.length/\Ext H1 G1 H G/\H D0=some (.lst vs)/\ ¬G D0/\aE K G H xs vs/\xs.length<=i/\rW rt re (ds.drop i)=some rest/\all=xs++rest,
    ⟨ds.length,G1,[],[],all,by omega,by omega,.new hD,upd_same,nG,.nil,Nat.le_refl _,by simpa using e3,rfl⟩,fun i m H hW=> ?_⟩
   obtain⟨Gi,xs,vs,rest,em,hil,xi,hDi,nGi,rs,hxs,ec,ea⟩:=hW
   have hst: ∀p u,stR O G1 rg p->H1 p=some u->NT u->H p=some u:=fun p u _ e nt=>xi.hh p u e
   obtain⟨w1,w2⟩:=hwk H hst i
   by_cases hlt:i<ds.length
   ·have hd:ds[i]? =some ds[i]:=List.getElem?_eq_getElem hlt
    obtain⟨go,yl⟩:=w1 _ hd
    refine .inr ⟨go,fun H'=> ∃G xs vs rest,Ext H1 G1 H' G/\H' D0=some (.lst vs)/\ ¬G D0/\aE K G H' xs vs/\xs.length<=i+1/\rW rt re (ds.drop (i+1))=some rest/\all=xs++rest,
     fun H' ⟨G',xs',vs',rest',z1,z2,z3,z4,z5,z6,z7⟩=>⟨m -1,by omega,G',xs',vs',rest',by omega,by omega,z1,z2,z3,z4,z5,z6,z7⟩,fun x H3 hy=> ?_⟩
    obtain⟨hh,ir⟩:=yl x H3 hy
    have x3:Ext H Gi H3 Gi:=.of hh (fun _ g=>g) fun _ g=>.inl g
    have rl3:=rel1.ext (xi.trans x3)
    have hsub: ∀p,rgn O G1 rg p->rgn O Gi rg p:=fun p s=>by
     cases rg with
     |hb=>exact trivial
     |bb=>exact s
     |fz=>exact xi.gg p s
    refine htg _ _ _ _ _ _ _ x _ rfl rl3 (him _ _ H3 H3 _ x hsub (fun _ _ e=>e) ir) fun σ' rl' hwp=>⟨?_,?_⟩
    ·rw[hwp _ his]
     exact tw fun u m=>m
    ·rw[rN hd] at ec
     unfold rW at ec
     obtain⟨b,eb,ec⟩:=bind1 ec
     refine⟨ds[i],rdT.go rl' eb fun H4 G4 rl4 x4=> ?_⟩
     cases b with
     |true=>
      rw[if_pos rfl] at ec⊢
      obtain⟨y,ys,e5,e6,e7⟩:=bO ec
      cases e7
      refine⟨ds[i],rdE.go rl4 e5 fun v H5 G5 rl5 x5 v5=> ?_⟩
      have x35:Ext H Gi H5 G5:=x3.trans (x4.trans x5)
      have hD5:H5 D0=some (.lst vs):=x35.hh _ _ hDi
      have nG5: ¬G5 D0:=fun g=>by
       rcases x35.gn D0 g with g|⟨n,_⟩|⟨xs,t⟩
       ·exact nGi g
       ·rw[hDi] at n;cases n
       ·rw[hDi] at t;cases xs <;> cases t
      have ag:Agr G5 H5 (upd H5 D0 (.lst (vs++[v]))):=fun p g=>k7.of_eq fun u e=>by
       rw[upd_ne (fun z=>by subst z;exact nG5 g)];exact e
      have rs5:aE K G5 H5 xs vs:=aE.mono x35.gg x35.agr xs vs rs
      refine⟨vs,hD5,by rw[rs.length];exact Nat.lt_of_lt_of_le (by omega) hz,G5,xs++[y],vs++[v],ys,?_,upd_same,nG5,aE.mono (fun _ g=>g) ag _ _ (rs5.append (.one v5)),by rw[List.length_append];simp;omega,e6,by rw[List.append_assoc];exact ea⟩
      have xx:=xi.trans x35
      exact xx.Oa hD ⟨_,hD5,trivial⟩
     |false=>
      rw[if_neg Bool.false_ne_true] at ec⊢
      have x34:Ext H Gi H4 G4:=x3.trans x4
      have nG4: ¬G4 D0:=fun g=>by
       rcases x34.gn D0 g with g|⟨n,_⟩|⟨xs,t⟩
       ·exact nGi g
       ·rw[hDi] at n;cases n
       ·rw[hDi] at t;cases xs <;> cases t
      exact⟨G4,xs,vs,rest,xi.trans x34,x34.hh _ _ hDi,nG4,aE.mono x34.gg x34.agr xs vs rs,by omega,ec,ea⟩
   ·refine .inl ⟨w2 (by omega),?_⟩
    rw[List.drop_of_length_le (by omega)] at ec
    cases ec
    rw[List.append_nil] at ea
    subst ea
    refine k _ H Gi (x1.trans xi) ⟨[D0],by simp,fun p m=> ?_,?_⟩
    ·rw[List.mem_singleton] at m
     subst m
     exact⟨x1.back hD,nGi⟩
    ·unfold Own
     exact⟨D0,vs,_,[],rfl,rfl,hDi,rS rs,rfl⟩
theorem AN {δ:Type} {elt tg iter:Expr} {ifs:List Expr} {scope:Scope} {own:List (Str×Nat)} {g:TG} {rg:Rg} {IR:Sa->Hp->δ->V->Prop} {rI:Option (List δ)} {uM:List Md->List Md} {uS:δ->Ds->Ds} {is:List Nat} {rt:δ->Option Bool} {re:δ->Option D}
  (hc:X.calm=true) (hN:X.N.Nodup) (hi:PIx X Δ st tg iter rg IR rI) (him:lH IR) (hr:rg≠ .hb) (ok:BlkOk X.N X.env.scope scope own) (hw: ∀v∈own.map (·.2),st[v]? =some none) (his: ∀i∈is,i∈own.map (·.2))
  (hg: ∀(s:Shared) (H:Hp) (C:Addr) (cl:List (Str×Addr)) (fp:List Addr),PG (X.blk s H scope (compEnvC scope cl C X.env) fp) tg g) (htg:wg X.K g rg IR uM uS Δ.length is)
  (ht: ∀(s:Shared) (H:Hp) (C:Addr) (cl:List (Str×Addr)) (fp:List Addr) (d:δ),PTs (X.blk s H scope (compEnvC scope cl C X.env) fp) ifs (rdT X.K (uM Δ) (uS d st) (rt d)))
  (he: ∀(s:Shared) (H:Hp) (C:Addr) (cl:List (Str×Addr)) (fp:List Addr) (d:δ),PE (X.blk s H scope (compEnvC scope cl C X.env) fp) elt (rdE X.K (uM Δ) (uS d st) (.rg .fz) (re d)))
  (hs: ∀x,foldedSetIterable iter X.env x=pure x:=by intro _;rfl):
  PX X Δ st (.ListComp elt [⟨tg,iter,ifs,0⟩] scope pos) (.nw (.ls .fz)) (rI.bind fun ds=>yA rt re ds):=
 bj (pe_lc hc hN hi ok hg (fun s H C cl fp=>LZ fun d=>ht s H C cl fp d) (fun s H C cl fp=>KU fun d=>he s H C cl fp d) hs) fun σ H Q h=>L5 him hw his htg h
end
end Sw
namespace Sw
open PySem PySem.Spec PyProof.Rows L2
variable [NmC]
inductive PM where
 |bo|fz|ow (s:Sh)|ini (s:Sh)|bl
def Qh (K:Frg) (B G:Sa) (H:Hp):PM->D->V->List Addr->Prop
 | .bo,d,v,L=>Rep K B H d v/\L=[]
 | .fz,d,v,L=>Rep K G H d v/\L=[]
 | .ow s,d,v,L=>Own K G H s d v L
 | .ini _,d,v,L=>Own K G H (.is []) d v L
 | .bl,d,v,L=>Spn K B G H d v/\L=[]
def oL (K:Frg) (B G:Sa) (H:Hp):List PM->List D->List V->List Addr->Prop
 | [],[],[],L=>L=[]
 |m::ms,d::ds,v::vs,L=> ∃L1 L2,Qh K B G H m d v L1/\oL K B G H ms ds vs L2/\L=L1++L2
 |_,_,_,_=>False
def bw:List PM->List V->List (V×Sh)
 | .ow s::ms,v::vs=>(v,s)::bw ms vs
 | .ini s::ms,v::vs=>(v,s)::bw ms vs
 |_::ms,_::vs=>bw ms vs
 |_,_=>[]
def wy:List PM->List V->List Md
 | .bo::ms,_::vs=>.bo::wy ms vs
 | .fz::ms,_::vs=>.fz::wy ms vs
 | .bl::ms,_::vs=>.bl::wy ms vs
 | .ow s::ms,v::vs=>.pn v s::wy ms vs
 | .ini _::ms,v::vs=>.pn v (.is [])::wy ms vs
 |_,_=>[]
def FSp (K:Frg) (ms:List PM) (rm:VM) (Fs:List D->Option FR):Sp:=fun vs H Q E=>
 ∃(O:Org) (ds:List D) (fr:FR),O.H0=H/\cU O H O.G0 O.L0/\oL K O.B O.G0 H ms ds vs O.L0/\Fs ds=some fr/\match fr with
  | .ok d os=> ∀v H' G',Ca K rm (bw ms vs) O d os v H' G'->Q v H'
  | .er x=> ∀c od H' G',XcR K (bw ms vs) O x c od H' G'->E c od H'
theorem oL.len {K:Frg} {B G:Sa} {H:Hp}: ∀{ms:List PM} {ds:List D} {vs:List V} {L:List Addr},oL K B G H ms ds vs L->vs.length=ms.length/\ds.length=ms.length
 | [],[],[],_,_=>⟨rfl,rfl⟩
 |m::ms,d::ds,v::vs,_,⟨L1,L2,h1,h2,e⟩=>by
  have:=oL.len h2
  simp[this.1,this.2]
 | [],[],_::_,_,h=>h.elim
 | [],_::_,_,_,h=>h.elim
 |_::_,[],_,_,h=>h.elim
 |_::_,_::_,[],_,h=>h.elim
def outF:Out PEmpty PEmpty->Option FR
 | .ret d os=>some (.ok d os)
 | .exc x=>some (.er x)
 |_=>none
def fnX (rm:VM) (ps:List (V×Sh)) (E:XK):Exits PEmpty PEmpty:=⟨[],fun _=>[],[],fun _=>[],rm,ps,E,true⟩
theorem yB {K:Frg} {B G:Sa} {H:Hp}: ∀n:Nat,Slots K B G H (List.replicate n .fz) (List.replicate n none) (List.replicate n none) []
 |0=>rfl
 |n+1=>⟨[],[],rfl,yB n,rfl⟩
theorem lK {K:Frg} {B G:Sa} {H:Hp} {n:Nat}: ∀{ms:List PM} {ds:List D} {vs:List V} {L:List Addr},oL K B G H ms ds vs L->Slots K B G H (wy ms vs++List.replicate n .fz) (ds.map some++List.replicate n none) (vs.map some++List.replicate n none) L
 | [],[],[],L,h=>by rw[show L=[] from h];exact yB n
 |m::ms,d::ds,v::vs,_,⟨L1,L2,h1,h2,e⟩=>by
  have ih:=lK (n:=n) h2
  subst e
  cases m with
  |bo=>exact⟨L1,L2,⟨v,rfl,h1.1,h1.2⟩,ih,rfl⟩
  |fz=>exact⟨L1,L2,⟨v,rfl,h1.1,h1.2⟩,ih,rfl⟩
  |ow s=>exact⟨L1,L2,⟨rfl,h1⟩,ih,rfl⟩
  |ini s=>exact⟨L1,L2,⟨rfl,h1⟩,ih,rfl⟩
  |bl=>exact⟨L1,L2,⟨v,rfl,h1.1,h1.2⟩,ih,rfl⟩
 | [],[],_::_,_,h=>h.elim
 | [],_::_,_,_,h=>h.elim
 |_::_,[],_,_,h=>h.elim
 |_::_,_::_,[],_,h=>h.elim
section
variable {P:Program} {w:World} {K:Frg} {mg:Str->Option Value} {base:Heap}
abbrev cxT (P:Program) (w:World) (K:Frg) (mg:Str->Option Value) (base:Heap) (N:List Str) (qual:Str) (sc:Scope) (f:Addr) (cdv:Value) (A:Around) (outer:List Env) (s:Shared) (H:Hp) (E:XK):Cx:=
 (cxOf CX0 P w K mg base N qual sc f cdv A outer s H E).nox
theorem L6 {x qual:Str} {st:Stmt} {f:Addr} {fd:FuncData} {N ps:List Str} {k n:Nat} {ms:List PM} {rm:VM} {Fs:List D->Option FR} (F:Fun K x qual st f fd) (S:FnScope N ps (defScope st)) (hl:ms.length=ps.length) (hn:N.length=ps.length+n)
  (h: ∀(cdv:Value) (A:Around) (outer:List Env) (s:Shared) (H:Hp) (vs:List V) (E:XK),fd.code=cdv->Room k (A.deeper (envOfC qual (defScope st) s.heap.objs.size f cdv))->vs.length=ms.length-> ∀ds fr,ds.length=ms.length->Fs ds=some fr→
   ∃m,Blk (cxT P w K mg base N qual (defScope st) f cdv A outer s H E) (fnX rm (bw ms vs) E) (wy ms vs++List.replicate n .fz) (ds.map some++List.replicate n none) (defBody st) m/\m.bind outF=some fr):
  FnOk P w K mg base CX0 (k+1) f fd ps (FSp K ms rm Fs):=by
 obtain⟨oc,od,kV,doc,pm,an,cdv,ct,osl,rfl,lk,hcd⟩:=F.ex
 refine fn_of lk hcd S (fun vs H Q E ⟨O,ds,fr,e,g,a,_⟩=>a.len.1.trans hl) (fun A outer s H vs Q E hr ⟨O,ds,fr,e,g,a,ef,q⟩=> ?_)
 obtain⟨hv,hd⟩:=a.len
 obtain⟨m,hb,hm⟩:=h cdv A outer s H vs E rfl hr hv ds fr hd ef
 refine⟨_,PSs.nox hb,?_⟩
 obtain⟨o,e1,e2⟩:=bind1 hm
 have hs:L2.start N vs=vs.map some++List.replicate n none:=by
  unfold L2.start
  rw[show N.length -vs.length=n by omega]
 rw[hs]
 refine⟨O,O.G0,o,⟨O.L0,g,lK a⟩,e1,?_⟩
 cases o with
 |nx a=>exact a.elim
 |bk a=>exact a.elim
 |ct a=>exact a.elim
 |ret d os=>
  cases e2
  exact fun v H' G' r=>⟨q v H' G' r,fun _ ev σ=>by subst ev;exact q _ H' G' r⟩
 |exc x=>
  cases e2
  exact fun c od H' G' r=>q c od H' G' r
theorem dM {x qual:Str} {st:Stmt} {f:Addr} {fd:FuncData} {N ps:List Str} {k n:Nat} {ms:List PM} {rm:VM} {Fs:List D->Option FR} (F:Fun K x qual st f fd) (S:FnScope N ps (defScope st)) (hl:ms.length=ps.length) (hn:N.length=ps.length+n)
  (h: ∀(cdv:Value) (A:Around) (outer:List Env) (s:Shared) (H:Hp) (vs:List V) (E:XK),Room k (A.deeper (envOfC qual (defScope st) s.heap.objs.size f cdv))->vs.length=ms.length-> ∀ds fr,ds.length=ms.length->Fs ds=some fr→
   ∃m,Blk (cxT P w K mg base N qual (defScope st) f cdv A outer s H E) (fnX rm (bw ms vs) E) (wy ms vs++List.replicate n .fz) (ds.map some++List.replicate n none) (defBody st) m/\m.bind outF=some fr):
  FnOk P w K mg base CX0 (k+1) f fd ps (FSp K ms rm Fs):=
 L6 F S hl hn fun cdv A outer s H vs E _=>h cdv A outer s H vs E
end
def FR.val:FR->Option D
 | .ok d []=>some d
 |_=>none
def fn0 (f:Option FR):List D->Option FR
 | []=>f
 |_=>none
def fn1 (f:D->Option FR):List D->Option FR
 | [a]=>f a
 |_=>none
def fn2 (f:D->D->Option FR):List D->Option FR
 | [a,b]=>f a b
 |_=>none
def fn3 (f:D->D->D->Option FR):List D->Option FR
 | [a,b,c]=>f a b c
 |_=>none
def fn4 (f:D->D->D->D->Option FR):List D->Option FR
 | [a,b,c,d]=>f a b c d
 |_=>none
def fn5 (f:D->D->D->D->D->Option FR):List D->Option FR
 | [a,b,c,d,e]=>f a b c d e
 |_=>none
def fn6 (f:D->D->D->D->D->D->Option FR):List D->Option FR
 | [a,b,c,d,e,g]=>f a b c d e g
 |_=>none
mutual
theorem Rep.dom {K:Frg} {S:Sa} {H:Hp}: ∀(d:D) (v:V),Rep K S H d v->Rep K (fun p=>S p/\H p≠none) H d v
 | .non,_,h=>h
 | .bl _,_,h=>h
 | .int _,_,h=>h
 | .str _,_,h=>h
 | .fn _,_,h=>h
 | .glf _,_,h=>h
 | .clo F d,v,h=>by
  unfold Rep at h⊢
  obtain⟨f,c',c,T,w,e,⟨s1,h1⟩,⟨s2,h2⟩,⟨s3,h3⟩,l,r⟩:=h
  exact⟨f,c',c,T,w,e,⟨⟨s1,by rw[h1];simp⟩,h1⟩,⟨⟨s2,by rw[h2];simp⟩,h2⟩,⟨⟨s3,h3.ne⟩,h3⟩,l,Rep.mono (fun p s=>⟨⟨s.1.1,s.2⟩,s.1.2⟩) (fun p _=>k7.of_eq fun _ e=>e) d w (Rep.dom d w r)⟩
 | .lst ds,v,h=>by
  unfold Rep at h⊢
  obtain⟨a,vs,e,s,l,r⟩:=h
  exact⟨a,vs,e,⟨s,by rw[l];simp⟩,l,aE.dom ds vs r⟩
 | .sc ns,v,h=>by
  unfold Rep at h⊢
  obtain⟨a,e,l⟩:=h
  exact⟨a,e,l.imp (fun⟨s,r⟩=>⟨⟨s,by rcases r with r|⟨o,r⟩ <;> (rw[r];simp)⟩,r⟩) id⟩
 | .tup ds,v,h=>by
  unfold Rep at h⊢
  obtain⟨a,vs,e,l,r⟩:=h
  exact⟨a,vs,e,⟨⟨l.1,by rw[l.2];simp⟩,l.2⟩,aE.dom ds vs r⟩
 | .dct ks,v,h=>by
  unfold Rep at h⊢
  obtain⟨a,kvs,e,s,l,n,r⟩:=h
  exact⟨a,kvs,e,⟨s,by rcases l with l|⟨o,l⟩ <;> (rw[l];simp)⟩,l,n,b7.dom ks kvs r⟩
 | .dcT ks,v,h=>by
  unfold Rep at h⊢
  obtain⟨a,kvs,e,s,l,n,r⟩:=h
  exact⟨a,kvs,e,⟨s,by rcases l with l|⟨o,l⟩ <;> (rw[l];simp)⟩,l,n,gL.dom ks kvs r⟩
 | .ins C fds,v,h=>by
  unfold Rep at h⊢
  obtain⟨a,dx,fs,e,s,l,r⟩:=h
  exact⟨a,dx,fs,e,⟨s,by rw[l];simp⟩,l,fg.dom fds fs r⟩
theorem aE.dom {K:Frg} {S:Sa} {H:Hp}: ∀(ds:List D) (vs:List V),aE K S H ds vs->aE K (fun p=>S p/\H p≠none) H ds vs
 | [],_,h=>by unfold aE at h ⊢; exact h
 |d::ds,vs,h=>by
  unfold aE at h⊢
  obtain⟨v,r,e,h1,h2⟩:=h
  exact⟨v,r,e,Rep.dom d v h1,aE.dom ds r h2⟩
theorem b7.dom {K:Frg} {S:Sa} {H:Hp}: ∀(ds:List (Key×D)) (vs:List (Key×V)),b7 K S H ds vs->b7 K (fun p=>S p/\H p≠none) H ds vs
 | [],_,h=>by unfold b7 at h ⊢; exact h
 |(k,d)::ds,vs,h=>by
  unfold b7 at h⊢
  obtain⟨v,r,e,h1,h2⟩:=h
  exact⟨v,r,e,Rep.dom d v h1,b7.dom ds r h2⟩
theorem gL.dom {K:Frg} {S:Sa} {H:Hp}: ∀(ds:List (List Key×D)) (vs:List (List Key×V)),gL K S H ds vs->gL K (fun p=>S p/\H p≠none) H ds vs
 | [],_,h=>by unfold gL at h ⊢; exact h
 |(k,d)::ds,vs,h=>by
  unfold gL at h⊢
  obtain⟨v,r,e,h1,h2⟩:=h
  exact⟨v,r,e,Rep.dom d v h1,gL.dom ds r h2⟩
theorem fg.dom {K:Frg} {S:Sa} {H:Hp}: ∀(ds:List (Str×D)) (vs:List (Str×V)),fg K S H ds vs->fg K (fun p=>S p/\H p≠none) H ds vs
 | [],_,h=>by unfold fg at h ⊢; exact h
 |(k,d)::ds,vs,h=>by
  unfold fg at h⊢
  obtain⟨v,r,e,h1,h2⟩:=h
  exact⟨v,r,e,Rep.dom d v h1,fg.dom ds r h2⟩
end
end Sw
namespace Sw
open PySem PySem.Spec PyProof.Rows L2
variable [NmC]
section
variable {K:Frg} {O:Org} {H H1 H2:Hp} {G G1 G2:Sa} {Δ:List Md} {st:Ds} {σ:CS}
def Org.all (H:Hp) (G:Sa):Org:=⟨G,H,[],fun p=>H p≠none⟩
theorem iN (tb:LamX.Tabs NmC.T H) (gin: ∀p,G p->H p≠none):cU (Org.all H G) H G []:=
 ⟨fun p b=>⟨b,by simp[Org.all]⟩,fun _ _ e _ _=>e,fun _ g=>g,fun _ g=>.inl g,gin,fun _ h=>h,List.nodup_nil,fun p m=>(nomatch m),fun _ ps e=>⟨ps,e⟩,tb⟩
theorem vt {L:List Addr} (r:cU (Org.all H G) H1 G1 L):Ext H G H1 G1:=
 ⟨fun p u e t=>r.frame p u e (by simp[Org.all]),r.gsub,fun p g=>by
  rcases r.gold p g with g'|n|t|m
  ·exact .inl g'
  ·exact .inr (.inl ⟨n,r.gin p g⟩)
  ·exact .inr (.inr t)
  ·exact (nomatch m),r.tl,fun _=>r.tb⟩
def Oi:PM->VM->Bool
 | .bo,_=>true
 | .fz,.rg .fz=>true
 | .bl,.sp _=>true
 |_,_=>false
def hO:List PM->List VM->Bool
 | [],[]=>true
 |p::ps,m::ms=>Oi p m&&hO ps ms
 |_,_=>false
theorem mL: ∀{ps:List PM} {ms:List VM} {ds:List D} {vs:List V},hO ps ms=true->kW K O H H1 G1 ms ds vs->oL K (Org.all H1 G1).B (Org.all H1 G1).G0 H1 ps ds vs []/\bw ps vs=[]
 | [],[],[],vs,_,h=>by rw[show vs=[] from h];exact⟨rfl,rfl⟩
 |p::ps,m::ms,d::ds,_,ok,⟨v,r,e,h1,h2⟩=>by
  subst e
  unfold hO at ok
  rw[Bool.and_eq_true] at ok
  obtain⟨a,b⟩:=mL ok.2 h2
  cases p with
  |bo=>exact⟨⟨[],[],⟨Rep.mono (fun p h=>h.2) aC d v (Rep.dom d v h1.hb),rfl⟩,a,rfl⟩,b⟩
  |fz=>
   cases m with
   |rg r=>
    cases r with
    |fz=>exact⟨⟨[],[],⟨h1,rfl⟩,a,rfl⟩,b⟩
    |hb=>cases ok.1
    |bb=>cases ok.1
   |nw s=>cases ok.1
   |sp r=>cases ok.1
  |ow s=>cases ok.1
  |ini s=>cases ok.1
  |bl=>
   cases m with
   |rg r=>cases ok.1
   |nw s=>cases ok.1
   |sp r=>
    obtain⟨a',vs',ds',e1,e2,b',hl,rr⟩:=h1
    exact⟨⟨[],[],⟨⟨a',vs',ds',e1,e2,by rw[show (Org.all H1 G1).B=fun p=>H1 p≠none from rfl];show H1 a'≠none;rw[hl];simp,hl,rr⟩,rfl⟩,a,rfl⟩,b⟩
 | [],_::_,_,_,ok,_=>by cases ok
 |_::_,[],_,_,ok,_=>by cases ok
 | [],[],_::_,_,_,h=>h.elim
 |_::_,_::_,[],_,_,h=>h.elim
theorem p6 {rm:VM} {d:D} {os:List D} {v:V} (r:Ca K rm [] (Org.all H G) d os v H1 G1):os=[]/\Ext H G H1 G1/\ ∀O',bh K O' H H1 G1 rm d v:=by
 obtain⟨L1,L2',g,rv,p⟩:=r
 cases os with
 |cons x xs=>exact p.elim
 |nil=>
  have e2:L2'=[]:=p
  subst e2
  rw[List.append_nil] at g
  refine⟨rfl,vt g,fun O'=> ?_⟩
  cases rm with
  |rg r=>
   cases r with
   |fz=>exact rv.1
   |hb=>exact rv.elim
   |bb=>exact rv.elim
  |nw s=>exact⟨L1,g.nd,fun p m=>⟨(g.lg p m).2.elim (fun h=>nomatch h) id,(g.lg p m).1⟩,rv⟩
  |sp r=>exact rv.elim
end
section
variable {X:Cx} {Δ:List Md} {st:Ds} {a b e o:Expr} {es:List Expr} {m ma mb rm:VM} {ra rb:Option D} {rs:Option (List D)} {pos p apos:Pos} {vms:List VM} {ps:List PM} {Fs:List D->Option FR} {k:Nat} {f:Addr} {fd:FuncData} {pn:List Str} {x:Str}
theorem call_of {H:Hp} {σ:CS} {Q:VK} (ok:hO ps vms=true) (h:rdE X.K Δ st rm (rs.bind fun ds=>(Fs ds).bind FR.val) σ H Q):tCall (FSp X.K ps rm Fs) [] E0 (rdA X.K Δ st vms rs) σ H Q:=by
 obtain⟨O,G,d,rel,er,kk⟩:=h
 obtain⟨ds,e1,e2⟩:=bind1 er
 obtain⟨fr,e3,e4⟩:=bind1 e2
 refine rdA.go rel e1 fun vs H1 G1 rel1 x1 v1=> ?_
 rw[List.append_nil]
 obtain⟨ha,hp⟩:=mL ok v1
 cases fr with
 |er x=>cases e4
 |ok d' os=>
  cases os with
  |cons x xs=>cases e4
  |nil=>
   cases e4
   refine⟨Org.all H1 G1,ds,_,rfl,iN rel1.tb rel1.gin,ha,e3,fun v H' G' r=> ?_⟩
   rw[hp] at r
   obtain⟨_,x2,hv⟩:=p6 r
   exact kk v H' G' (x1.trans x2) ((hv O).back x1)
theorem I0 (F:FnOk X.prog X.w X.K X.mg X.base CX0 k f fd pn (FSp X.K ps rm Fs)) (hr:Room k X.A) (hg:Gl X x) (hm:X.mg x=some (.ref f)) (hk:PySem.W.keepIn X.K (.ref f)=true) (hb:Binds X.K fd pn []) (ha:PAx X Δ st (e::es) vms rs) (ok:hO ps vms=true:=by rfl)
  (hdb:(x==("__debug__" :Str))=false:=by decide) (he:starEach (e::es) X.env=(false,eval e X.env)::starEach es X.env:=by rfl) (hpl:(backTo pos (starEach es X.env)).any (·.1)=false:=by rfl):
  PX X Δ st (.Call (.Name x p) (e::es) [] pos) rm (rs.bind fun ds=>(Fs ds).bind FR.val):=bj (pe_call F hr hg hm hk hb .nil pass0 ha hdb he hpl) fun σ H Q h=>call_of ok h
def VL (K:Frg) (O:Org) (H:Hp) (G:Sa):VM->D->V->List Addr->Prop
 | .rg r,d,v,L=>Rep K (rgn O G r) H d v/\L=[]
 | .nw s,d,v,L=>Own K G H s d v L
 | .sp r,d,v,L=>Spn K (rgn O G r) G H d v/\L=[]
def RelV (K:Frg) (O:Org) (Δ:List Md) (st:Ds) (σ:CS) (H:Hp) (G:Sa) (m:VM) (d:D) (v:V):Prop:= ∃L Lv,cU O H G (Lv++L)/\Slots K O.B G H Δ st σ L/\VL K O H G m d v Lv
def rdY (K:Frg) (Δ:List Md) (st:Ds) (m:VM) (r:Option (D×Ds)):TE:=fun σ H Q=> ∃O G ds,Rel K O Δ st σ H G/\r=some ds/\ ∀v H' G',RelV K O Δ ds.2 σ H' G' m ds.1 v->Q v H'
abbrev PY (X:Cx) (Δ:List Md) (st:Ds) (e:Expr) (m:VM) (r:Option (D×Ds)):Prop:=PE X e (rdY X.K Δ st m r)
theorem I4 {K:Frg} {O:Org} {σ:CS} {H H1:Hp} {G G1:Sa} {d:D} {v:V} (rel:Rel K O Δ st σ H G) (x1:Ext H G H1 G1) (hv:bh K O H H1 G1 m d v):RelV K O Δ st σ H1 G1 m d v:=by
 obtain⟨L,g,s⟩:=rel
 have g1:=g.ext x1 s.kind (x1.gin g.gin)
 have s1:=Slots.mono (G':=G1) (H':=H1) x1.gg x1.agr x1.agr (fun p m=>x1.uq (s.kind p m)) s
 cases m with
 |rg r=>exact⟨L,[],g1,s1,hv,rfl⟩
 |nw sh=>
  obtain⟨L1,nd,f,o⟩:=hv
  exact⟨L,L1,g1.zl s1.kind (H0:=H) (fun p h=>g.back h) nd f fun p m=>(s.kind p m).ne,s1,o⟩
 |sp r=>exact⟨L,[],g1,s1,hv,rfl⟩
def rdP (K:Frg) (Δ:List Md) (st:Ds) (i:Nat) (r:Option (List Stp)):TE:=fun σ H Q=> ∃O G q,Rel K O Δ st σ H G/\r=some q/\ ∀v0 v H' G',σ[i]? =some (some v0)->Ext H G H' G'->AtP H' v0 q v->Q v H'
abbrev PPx (X:Cx) (Δ:List Md) (st:Ds) (e:Expr) (i:Nat) (r:Option (List Stp)):Prop:=PE X e (rdP X.K Δ st i r)
def wA:Md->Option Sh
 | .ow s=>some s
 | .pn _ s=>some s
 |_=>none
def EZ (s:Sh) (d:D) (q:List Stp):Option (List Stp):=if (shP s q).isSome=true/\(fj d q).isSome=true then some q else none
theorem AO {s:Sh} {d:D} {q q':List Stp} (h:EZ s d q=some q'):q'=q/\ ∃s' d',shP s q=some s'/\fj d q=some d':=by
 obtain⟨⟨h1,h2⟩,rfl⟩:=aM h
 exact⟨rfl,(shP s q).get h1,(fj d q).get h2,by simp,by simp⟩
theorem pk {K:Frg} {O:Org} {σ:CS} {H:Hp} {G:Sa} {i:Nat} {md:Md} {s:Sh} {d:D} (rel:Rel K O Δ st σ H G) (hm:Δ[i]? =some md) (hs:wA md=some s) (hd:st[i]? =some (some d)): ∃v L,σ[i]? =some (some v)/\Own K G H s d v L:=by
 obtain⟨L,g,sl⟩:=rel
 obtain⟨x',y',L1,L2,ex,ey,sr,pm,f⟩:=sl.split hm
 rw[hd] at ex;cases ex
 cases md <;> first|cases hs|skip
 ·obtain⟨v,e,o⟩:=sr
  exact⟨v,L1,by rw[ey,e],o⟩
 ·exact⟨_,L1,by rw[ey,sr.1],sr.2⟩
theorem pq (i:Nat) {md:Md} {s:Sh} {d:D} (hm:Δ[i]? =some md) (hs:wA md=some s) (hd:st[i]? =some (some d)) (hN:X.N[i]? =some x) (hv:Vis X.env.scope x) (h1:(x==("__debug__" :Str))=false:=by decide) (h2:(x==("__classdict__" :Str))=false:=by decide):
  PPx X Δ st (.Name x p) i (some []):=bj (pe_var hN hv h1 h2) fun σ H Q ⟨O,G,q,rel,er,k⟩=>by
 cases er
 obtain⟨v,L,e,o⟩:=pk rel hm hs hd
 exact⟨v,e,k v v H G e .refl rfl⟩
theorem AtP.last {H:Hp} {s:Stp} {w:V}: ∀{q:List Stp} {v:V},AtP H v (q++[s]) w-> ∃v1,AtP H v q v1/\AtP H v1 [s] w
 | [],v,h=>⟨v,rfl,h⟩
 | .ix i::q,v,⟨a,vs,y,e1,e2,e3,h⟩=>by
  obtain⟨v1,h1,h2⟩:=AtP.last h
  exact⟨v1,⟨a,vs,y,e1,e2,e3,h1⟩,h2⟩
 | .ky k::q,v,⟨a,vs,y,e1,e2,e3,h⟩=>by
  obtain⟨v1,h1,h2⟩:=AtP.last h
  exact⟨v1,⟨a,vs,y,e1,e2,e3,h1⟩,h2⟩
 | .kt k::q,v,⟨a,vs,y,e1,e2,e3,h⟩=>by
  obtain⟨v1,h1,h2⟩:=AtP.last h
  exact⟨v1,⟨a,vs,y,e1,e2,e3,h1⟩,h2⟩
 | .fd f::q,v,⟨a,C,dx,fs,y,e1,e2,e3,h⟩=>by
  obtain⟨v1,h1,h2⟩:=AtP.last h
  exact⟨v1,⟨a,C,dx,fs,y,e1,e2,e3,h1⟩,h2⟩
end
theorem yC {α:Type} {A B C:List α} (h:(A++(B++C)).Nodup):(B++A).Nodup/\(∀x∈B++A,x∉C)/\C.Nodup:=by
 rw[List.nodup_append] at h
 obtain⟨hA,hBC,hd⟩:=h
 rw[List.nodup_append] at hBC
 obtain⟨hB,hC,hd2⟩:=hBC
 refine⟨List.nodup_append.mpr ⟨hB,hA,fun a ha b hb e=>hd b hb a (List.mem_append_left _ ha) e.symm⟩,fun x hx hc=> ?_,hC⟩
 rcases List.mem_append.mp hx with hx|hx
 ·exact hd2 x hx x hc rfl
 ·exact hd x hx x (List.mem_append_right _ hc) rfl
section
variable {K:Frg} {O:Org} {H:Hp} {G:Sa} {Δ:List Md} {st:Ds} {σ:CS} {i:Nat} {md:Md} {s s':Sh} {d d':D} {q:List Stp} {v0 v:V} {L Lv:List Addr}
theorem Gq (g:cU O H G (Lv++L)) (sl:Slots K O.B G H Δ st σ L) (hm:Δ[i]? =some md) (hs:wA md=some s) (hd:st[i]? =some (some d)) (e0:σ[i]? =some (some v0)) (at1:AtP H v0 q v) (hs':shP s q=some s') (hd':fj d q=some d'):
  ∃L1 Lr,Own K G H s' d' v L1/\(Lv++L).Perm (Lv++(L1++Lr))/\ ∀(a:Addr) (o:HO) (d'':D) (L1' Lv':List Addr),a∈L1->(L1'++Lv').Nodup->(∀p∈L1'++Lv',p∈L1\/p∈Lv)->Own K G (upd H a o) s' d'' v L1'→
   ∃L',cU O (upd H a o) G (Lv'++L')/\Slots K O.B G (upd H a o) Δ (st.set i (some (cG d q d''))) σ L'/\ ∀p∈Lv',p≠a->(upd H a o) p=H p:=by
 obtain⟨x',y',L1,L2',ex,ey,sr,pm,f⟩:=sl.split hm
 rw[hd] at ex;cases ex
 have hv:y'=some v0:=by
  rw[ey] at e0;exact Option.some.inj e0
 subst hv
 have ho:Own K G H s d v0 L1:=by
  cases md <;> first|cases hs|skip
  ·obtain⟨w,e,o⟩:=sr
   cases e;exact o
  ·obtain⟨e,o⟩:=sr
   cases e;exact o
 obtain⟨v',N1,N2,at2,o1,pn,f2⟩:=ho.place q hs' hd'
 have:=at2.inj at1
 subst this
 have pL:L.Perm (N1++(N2++L2')):=by
  have:=pm.trans (pn.append_right L2')
  rwa[List.append_assoc] at this
 have pAll:(Lv++L).Perm (Lv++(N1++(N2++L2'))):=List.Perm.append_left Lv pL
 refine⟨N1,N2++L2',o1,pAll,fun a o d'' L1' Lv' ha nd' sub own'=> ?_⟩
 have gp:=g.perm pAll
 obtain⟨nd1,dis,ndC⟩:=yC gp.nd
 have haL:a∈Lv++L:=pAll.mem_iff.mpr (List.mem_append_right _ (List.mem_append_left _ ha))
 have nGa: ¬G a:=(g.lg a haL).1
 have nBa: ¬O.B a:=fun b=>(g.lg a haL).2.elim (g.bin a b).2 (g.bin a b).1
 have agG:Agr G H (upd H a o):=fun p gp=>k7.of_eq fun u e=>by rw[upd_ne (fun z=>by subst z;exact nGa gp)];exact e
 have agB:Agr O.B H (upd H a o):=fun p gp=>k7.of_eq fun u e=>by rw[upd_ne (fun z=>by subst z;exact nBa gp)];exact e
 have out: ∀p∈N2++L2',(upd H a o) p=H p:=fun p hp=>upd_ne fun z=>by subst z;exact dis p (List.mem_append_left _ ha) hp
 obtain⟨L3,p3,o3⟩:=f2 G (upd H a o) d'' L1' (fun _ g=>g) agG (fun p hp=>out p (List.mem_append_left _ hp)) own'
 have sr':lG K O.B G (upd H a o) md (some (cG d q d'')) (some v0) L3:=by
  cases md <;> first|cases hs|skip
  ·exact⟨v0,rfl,o3⟩
  ·obtain⟨e,_⟩:=sr
   cases e
   exact⟨rfl,o3⟩
 obtain⟨L4,p4,s4⟩:=f G (upd H a o) md (some (cG d q d'')) (some v0) L3 (fun _ g=>g) agG agB (fun p hp=>out p (List.mem_append_right _ hp)) sr'
 rw[iL hm,iL ey] at s4
 have p5:(Lv'++L4).Perm ((L1'++Lv')++(N2++L2')):=by
  have h1:L4.Perm (L1'++(N2++L2')):=by
   have:=p4.trans (p3.append_right L2')
   rwa[List.append_assoc] at this
  refine (List.Perm.append_left Lv' h1).trans ?_
  rw[<-List.append_assoc]
  exact List.Perm.append_right _ List.perm_append_comm
 have hk:Ndd H a:=Own.kind _ _ _ _ o1 a ha
 refine⟨L4,cU.perm ⟨g.bin,fun p u e n t=> ?_,g.gsub,g.gold,fun p gp=> ?_,fun p h=> ?_,?_,fun p m=> ?_,fun p ps e=>F9 (.inl hk) (g.tl p ps e),AF (.inl hk) g.tb⟩ p5.symm,s4,fun p hp hne=>upd_ne hne⟩
 ·have hne:p≠a:=fun z=>by
   subst z
   exact (g.lg p haL).2.elim n fun h=>by rw[h] at e;cases e
  rw[upd_ne hne];exact g.frame p u e n
 ·by_cases hp:p=a
  ·subst hp;exact absurd gp nGa
  ·rw[upd_ne hp];exact g.gin p gp
 ·by_cases hp:p=a
  ·subst hp;rw[upd_same];simp
  ·rw[upd_ne hp];exact g.dom p h
 ·rw[List.nodup_append]
  refine⟨nd',ndC,fun x hx y hy e=> ?_⟩
  subst e
  rcases sub x hx with h|h
  ·exact dis x (List.mem_append_left _ h) hy
  ·exact dis x (List.mem_append_right _ h) hy
 ·have:p∈Lv++L:=by
   rcases List.mem_append.mp m with m|m
   ·rcases sub p m with h|h
    ·exact pAll.mem_iff.mpr (List.mem_append_right _ (List.mem_append_left _ h))
    ·exact List.mem_append_left _ h
   ·exact pAll.mem_iff.mpr (List.mem_append_right _ (List.mem_append_right _ m))
  exact g.lg p this
theorem AQ {R:D->V->List Addr->Prop} {d1:D} {v1:V} {Lv:List Addr} (h1:R d1 v1 Lv): ∀{ds:List D} {vs:List V} {L:List Addr},fP R ds vs L->fP R (ds++[d1]) (vs++[v1]) (L++Lv)
 | [],_,_,o=>by
  rw[o.1,o.2]
  exact⟨v1,[],Lv,[],rfl,h1,⟨rfl,rfl⟩,by simp⟩
 |d::ds,_,_,⟨v,r,L1,L2,e1,o1,o2,e2⟩=>by
  subst e1;subst e2
  exact⟨v,r++[v1],L1,L2++Lv,rfl,o1,AQ h1 o2,by rw[List.append_assoc]⟩
end
def shV:VM->Option Sh
 | .rg .fz=>some .fz
 | .nw s=>some s
 |_=>none
theorem L7 {K:Frg} {O:Org} {H:Hp} {G:Sa} {m:VM} {s:Sh} {d:D} {v:V} {L:List Addr} (h:shV m=some s) (hv:VL K O H G m d v L):Own K G H s d v L:=by
 cases m with
 |rg r=>
  cases r <;> first|cases h|skip
  unfold Own
  exact hv
 |nw s'=>cases h;exact hv
 |sp r=>cases h
section
variable {X:Cx} {Δ:List Md} {st:Ds} {a b e o:Expr} {es:List Expr} {m ma mb:VM} {ra rb:Option D} {pos apos:Pos} {i:Nat} {md:Md} {s s' s'':Sh} {d:D} {rp:Option (List Stp)}
def D.app (x:D) (e:D):Option (D×D):=match x with
 | .lst ds=>if ds.length<sizeLine then some (.non,.lst (ds++[e])) else none
 |_=>none
def wB (st:Ds) (i:Nat) (d:D) (q:List Stp) (f:D->Option (D×D)):Option (D×Ds):=(fj d q).bind fun d'=>(f d').bind fun r=>some (r.1,st.set i (some (cG d q r.2)))
theorem mM (hm:Δ[i]? =some md) (hs:wA md=some s) (hd:st[i]? =some (some d)) (ho:PPx X Δ st o i rp) (hsh: ∀q,rp=some q->shP s q=some (.ls s'')) (he:PX X Δ st e m ra) (hv:shV m=some s'')
  (hbase:attributeBase o "append" X.env (eval o X.env)=eval o X.env:=by rfl)
  (hfew:((backTo pos (starEach [e] X.env)).all (fun x=> !x.1)&&(backToKw pos (keywordEach [] X.env)).all (fun x=>x.1.isSome)&&decide ([e].length+([]:List Keyword).length+(if ([]:List Keyword).isEmpty then 0 else 1)<30))=true:=by rfl)
  (hline:(apos.endLine==pos.line)=true:=by rfl) (hse:starEach [e] X.env=(false,eval e X.env)::starEach [] X.env:=by rfl):
  PY X Δ st (.Call (.Attribute o "append" apos) [e] [] pos) (.rg .fz) (rp.bind fun q=>ra.bind fun x=>wB st i d q fun d'=>D.app d' x):=
 bj (pe_bm PySem.F.plainAttrs_list PySem.F.slot_list_append PySem.F.type_list_append mt_append ho (pa_cons he pa_nil hse) hbase hfew hline hse) fun σ H Q ⟨O,G,ds,rel,er,k⟩=>by
  obtain⟨q,x,e1,e2,e3⟩:=bO er
  obtain⟨d',e4,e5⟩:=bind1 e3
  obtain⟨r,e6,e7⟩:=bind1 e5
  cases e7
  have hsq:=hsh q e1
  refine⟨O,G,q,rel,e1,fun v0 v H1 G1 ev0 x1 at1=> ?_⟩
  have rel1:=rel.ext x1
  have hty: ∃l vs,v= .ref l/\H1 l=some (.lst vs):=by
   obtain⟨v0',L,e8,ow⟩:=pk rel1 hm hs hd
   rw[ev0] at e8;cases e8
   obtain⟨v',L1,L2',at2,o1,_⟩:=ow.place _ hsq e4
   have:=at2.inj at1
   subst this
   unfold Own at o1
   obtain⟨l,vs,ds',L',_,ev,hl,_⟩:=o1
   exact⟨l,vs,ev,hl⟩
  obtain⟨l,vs,rfl,hl⟩:=hty
  refine⟨.inl ⟨rfl,vs,SqL.of hl⟩,rdE.go rel1 e2 fun w H2 G2 rel2 x2 v2=> ?_⟩
  obtain⟨L,Lv,g,sl,vl⟩:=I4 rel1 x2 v2
  obtain⟨L1,Lr,o1,pa,f⟩:=Gq g sl hm hs hd ev0 (at1.mono x2.hx) hsq e4
  unfold Own at o1
  obtain⟨l',vs',ds',L',rfl,ev,hl',ol,rfl⟩:=o1
  cases ev
  obtain⟨hz,rfl⟩:=aM (show (if ds'.length<sizeLine then some (D.non,D.lst (ds'++[x])) else none)=some r from e6)
  have nd:=(yC (g.perm pa).nd).1
  have ow:=L7 hv vl
  obtain⟨L3,g3,s3,_⟩:=f l (.lst (vs'++[w])) (.lst (ds'++[x])) (l::(L'++Lv)) [] List.mem_cons_self (by rw[List.append_nil];exact nd) (fun p hp=>by
    rw[List.append_nil] at hp
    rcases List.mem_cons.mp hp with rfl|hp
    ·exact .inl List.mem_cons_self
    ·rcases List.mem_append.mp hp with hp|hp
     ·exact .inl (List.mem_cons_of_mem _ hp)
     ·exact .inr hp) (by
    have nl: ∀p∈L'++Lv,p≠l:=fun p hp z=>by
     subst z
     rw[List.cons_append,List.nodup_cons] at nd
     exact nd.1 hp
    have nG: ¬G2 l:=(g.lg l (pa.mem_iff.mpr (List.mem_append_right _ (List.mem_append_left _ List.mem_cons_self)))).1
    have ag:Agr G2 H2 (upd H2 l (.lst (vs'++[w]))):=fun p gp=>k7.of_eq fun u e=>by rw[upd_ne (fun z=>by subst z;exact nG gp)];exact e
    unfold Own
    refine⟨l,vs'++[w],ds'++[x],L'++Lv,rfl,rfl,upd_same,AQ ?_ (fP.mono (P:=fun p=>p∈L') (fun d v M hM o=>Own.mono (fun _ g=>g) ag s'' d v M (fun p hp=>upd_ne (nl p (List.mem_append_left _ (hM p hp)))) o) ds' vs' L' (fun _ h=>h) ol),rfl⟩
    exact Own.mono (fun _ g=>g) ag s'' x w Lv (fun p hp=>upd_ne (nl p (List.mem_append_right _ hp))) ow)
  refine⟨l,vs',w,rfl,rfl,hl',by rw[ol.length];exact hz,k .non _ G2 ⟨L3,[],g3,s3,by unfold VL;exact⟨by unfold Rep;rfl,rfl⟩⟩⟩
end
end Sw
namespace Sw
open PySem PySem.Spec PyProof.Rows L2
variable [NmC]
section
variable {K:Frg} {O:Org} {H H1:Hp} {G G1:Sa} {Δ:List Md} {st:Ds} {σ:CS} {i:Nat} {md:Md} {m:VM} {d:D} {v:V}
theorem VL.kind {L:List Addr} (h:VL K O H G m d v L): ∀p∈L,Ndd H p:=by
 cases m with
 |rg r=>intro p m;rw[h.2] at m;cases m
 |nw s=>exact Own.kind s d v L h
 |sp r=>intro p m;rw[h.2] at m;cases m
theorem RelV.rel (r:RelV K O Δ st σ H G m d v):Rel K O Δ st σ H G:=by
 obtain⟨L,Lv,g,s,vl⟩:=r
 exact⟨L,g.sub (List.sublist_append_right _ _),s⟩
theorem RelV.set (r:RelV K O Δ st σ H G m d v) (hi:i<Δ.length) (hm:Cb m=some md):Rel K O (Δ.set i md) (st.set i (some d)) (σ.set i (some v)) H G:=by
 obtain⟨L,Lv,g,s,vl⟩:=r
 obtain⟨x',y',L1,L2,ex,ey,sr,pm,f⟩:=s.split (List.getElem?_eq_getElem hi)
 have base:cU O H G (Lv++L2):=(g.perm (List.Perm.append_left Lv pm)).sub (List.Sublist.append (List.Sublist.refl _) (List.sublist_append_right _ _))
 cases m with
 |rg r=>
  cases r with
  |hb=>cases hm
  |bb=>
   cases hm
   obtain⟨L',pm',s'⟩:=f G H .bo (some d) (some v) [] (fun _ g=>g) aC aC (fun _ _=>rfl) ⟨v,rfl,vl.1,rfl⟩
   exact⟨L',(base.sub (List.sublist_append_right _ _)).perm pm'.symm,s'⟩
  |fz=>
   cases hm
   obtain⟨L',pm',s'⟩:=f G H .fz (some d) (some v) [] (fun _ g=>g) aC aC (fun _ _=>rfl) ⟨v,rfl,vl.1,rfl⟩
   exact⟨L',(base.sub (List.sublist_append_right _ _)).perm pm'.symm,s'⟩
 |nw sh=>
  cases hm
  obtain⟨L',pm',s'⟩:=f G H (.ow sh) (some d) (some v) Lv (fun _ g=>g) aC aC (fun _ _=>rfl) ⟨v,rfl,vl⟩
  exact⟨L',base.perm pm'.symm,s'⟩
 |sp r=>
  cases r <;> first|(cases hm;done)|skip
  cases hm
  obtain⟨L',pm',s'⟩:=f G H .bl (some d) (some v) [] (fun _ g=>g) aC aC (fun _ _=>rfl) ⟨v,rfl,vl.1,rfl⟩
  exact⟨L',(base.sub (List.sublist_append_right _ _)).perm pm'.symm,s'⟩
end
section
variable {K:Frg} {O:Org} {H:Hp} {G:Sa}
theorem I5 {ds:List D} {vs:List V} {l:Addr} {H':Hp} (h:H' l=some (.lst vs)) (r:aE K G H' ds vs):Own K G H' (.ls .fz) (.lst ds) (.ref l) [l]:=by
 unfold Own
 exact⟨l,vs,ds,[],rfl,rfl,h,rS r,rfl⟩
end
def I6 (f:List D->List D->Option (D×List D)) (xs:List D):D->Option (D×D)
 | .lst ds=>(f ds xs).map fun r=>(r.1,.lst r.2)
 |_=>none
section
variable {X:Cx} {Δ:List Md} {st:Ds} {a b e o:Expr} {es:List Expr} {m ma mb:VM} {ra rb:Option D} {pos apos:Pos} {i:Nat} {md:Md} {s s' s'':Sh} {d:D} {rp:Option (List Stp)}
theorem Gu {K:Frg} {O:Org} {H1:Hp} {G1:Sa} {σ:CS} {q:List Stp} {v0 v:V} {d':D} (rel1:Rel K O Δ st σ H1 G1) (hm:Δ[i]? =some md) (hs:wA md=some s) (hd:st[i]? =some (some d)) (ev0:σ[i]? =some (some v0)) (at1:AtP H1 v0 q v) (hsq:shP s q=some (.ls s'')) (hd':fj d q=some d'):
  ∃l vs,v= .ref l/\H1 l=some (.lst vs):=by
 obtain⟨v0',L,e8,ow⟩:=pk rel1 hm hs hd
 rw[ev0] at e8;cases e8
 obtain⟨v',L1,L2',at2,o1,_⟩:=ow.place _ hsq hd'
 have:=at2.inj at1
 subst this
 unfold Own at o1
 obtain⟨l,vs,ds',L',_,ev,hl,_⟩:=o1
 exact⟨l,vs,ev,hl⟩
theorem I7 {K:Frg} {O:Org} {H2:Hp} {G2:Sa} {σ:CS} {q:List Stp} {v0:V} {l:Addr} {ds ds2:List D} {res:D} {Q:VK} (rel2:Rel K O Δ st σ H2 G2) (hm:Δ[i]? =some md) (hs:wA md=some s) (hd:st[i]? =some (some d)) (ev0:σ[i]? =some (some v0)) (at2:AtP H2 v0 q (.ref l)) (hsq:shP s q=some (.ls .fz)) (hd':fj d q=some (.lst ds))
  (k: ∀v H' G',RelV K O Δ (st.set i (some (cG d q (.lst ds2)))) σ H' G' (.rg .fz) res v->Q v H'): ¬G2 l/\(∃vs,H2 l=some (.lst vs)/\aE K G2 H2 ds vs)/\(∀vs2 w,aE K G2 H2 ds2 vs2->Rep K G2 H2 res w->Q w (upd H2 l (.lst vs2))):=by
 obtain⟨L,g,sl⟩:=rel2
 obtain⟨L1,Lr,o1,pa,f⟩:=Gq (Lv:=[]) (by simpa using g) sl hm hs hd ev0 at2 hsq hd'
 unfold Own at o1
 obtain⟨l',vs',ds',L',ed,ev,hl',ol,rfl⟩:=o1
 cases ev;cases ed
 obtain⟨rr,rfl⟩:=AJ ol
 have nG: ¬G2 l:=(g.lg l (by have:=pa.mem_iff (a:=l);simp at this;exact this)).1
 have ag: ∀o,Agr G2 H2 (upd H2 l o):=fun o p gp=>k7.of_eq fun u e=>by rw[upd_ne (fun z=>by subst z;exact nG gp)];exact e
 refine⟨nG,⟨vs',hl',rr⟩,fun vs2 w r2 rw'=> ?_⟩
 obtain⟨L3,g3,s3,_⟩:=f l (.lst vs2) (.lst ds2) [l] [] (by simp) (by simp) (by simp) (I5 upd_same (aE.mono (fun _ g=>g) (ag _) _ _ r2))
 exact k w _ G2 ⟨L3,[],g3,s3,Rep.mono (fun _ g=>g) (ag _) _ _ rw',rfl⟩
end
end Sw
namespace Sw
open PySem PySem.Spec PyProof.Rows L2
variable [NmC]
def Gv:List Nat->List D->Ds->Ds
 |i::is,d::ds,st=>Gv is ds (st.set i (some d))
 |_,_,st=>st
inductive Ce (Δ:List Md) (st:Ds):List Nat->List Sh->List D->Prop where
 |nil:Ce Δ st [] [] []
 |cons {i:Nat} {is:List Nat} {md:Md} {s:Sh} {ss:List Sh} {d:D} {ds:List D}:Δ[i]? =some md->wA md=some s->st[i]? =some (some d)->i∉is->Ce Δ st is ss ds->Ce Δ st (i::is) (s::ss) (d::ds)
theorem E2 {i:Nat} {y:Option D}: ∀{is:List Nat} {ds:List D} {st:Ds},i∉is->Gv is ds (st.set i y)=(Gv is ds st).set i y
 | [],_,_,_=>rfl
 |j::is,[],_,_=>rfl
 |j::is,d::ds,st,h=>by
  simp only[List.mem_cons,not_or] at h
  show Gv is ds ((st.set i y).set j (some d))=_
  rw[List.set_comm _ _ h.1,E2 h.2]
  rfl
theorem Ce.drop {Δ:List Md} {st:Ds} {i:Nat} {y:Option D}: ∀{is:List Nat} {ss:List Sh} {ds:List D},i∉is->Ce Δ st is ss ds->Ce Δ (st.set i y) is ss ds
 |_,_,_,_,.nil=>.nil
 |_,_,_,h,.cons h1 h2 h3 h4 h5=>by
  simp only[List.mem_cons,not_or] at h
  exact .cons h1 h2 (by rw[List.getElem?_set_ne h.1];exact h3) h4 (Ce.drop h.2 h5)
section
variable {K:Frg} {B G:Sa} {H:Hp}
theorem x9.kind: ∀{ps:List (V×Sh)} {ds:List D} {L:List Addr},x9 K G H ps ds L-> ∀p∈L,Ndd H p
 | [],[],_,h,p,m=>by rw[show _=[] from h] at m;cases m
 |(v,s)::ps,d::ds,_,⟨L1,L2,o1,o2,e⟩,p,m=>by
  subst e
  rcases List.mem_append.mp m with m|m
  ·exact Own.kind s d v L1 o1 p m
  ·exact x9.kind o2 p m
 | [],_::_,_,h,_,_=>h.elim
 |_::_,[],_,h,_,_=>h.elim
theorem cU.rW {O:Org} {B':Sa} {H1 H2:Hp} {G1 G2:Sa} {Ll Lr Lx:List Addr} (r:cU O H1 G1 (Ll++Lr)) (hk: ∀p∈Lr,Ndd H1 p) (q:cU ⟨G1,H1,Ll,B'⟩ H2 G2 Lx):cU O H2 G2 (Lx++Lr)/\ ∀p∈Lr,H2 p=H1 p:=by
 have dis:=List.nodup_append.mp r.nd
 have keep: ∀p∈Lr,H2 p=H1 p:=fun p m=>by
  obtain⟨u,e,nn⟩:=hk p m
  rw[e]
  exact q.frame p u e (fun h=>dis.2.2 p h p m rfl) nn.nt
 refine⟨⟨r.bin,fun p u e n t=> ?_,fun p g=>q.gsub p (r.gsub p g),fun p g=> ?_,q.gin,fun p h=>q.dom p (r.dom p h),?_,fun p m=> ?_,fun p ps e=>(by
  obtain⟨ps1,e1⟩:=r.tl p ps e
  exact q.tl p ps1 e1),q.tb⟩,keep⟩
 ·exact q.frame p u (r.frame p u e n) fun m=>(r.lg p (List.mem_append_left _ m)).2.elim n fun z=>by rw[z] at e;cases e
 ·rcases q.gold p g with g|n|⟨xs,t⟩|m
  ·exact r.gold p g
  ·exact .inr (.inl (r.back n))
  ·rcases r.was (show H1 p=some (imm xs) from t) (td _) with e|e|e
   ·exact .inr (.inr (.inl ⟨xs,e⟩))
   ·exact .inr (.inl e)
   ·exact .inr (.inr (.inr e))
  ·rcases (r.lg p (List.mem_append_left _ m)).2 with h|h
   ·exact .inr (.inr (.inr h))
   ·exact .inr (.inl h)
 ·rw[List.nodup_append]
  refine⟨q.nd,dis.2.1,fun x hx y hy e=> ?_⟩
  subst e
  rcases (q.lg x hx).2 with h|h
  ·exact dis.2.2 x h x hy rfl
  ·exact (hk x hy).ne h
 ·rcases List.mem_append.mp m with m|m
  ·refine⟨(q.lg p m).1,?_⟩
   rcases (q.lg p m).2 with h|h
   ·exact (r.lg p (List.mem_append_left _ h)).2
   ·exact .inr (r.back h)
  ·refine⟨fun g=> ?_,(r.lg p (List.mem_append_right _ m)).2⟩
   rcases q.gold p g with g|n|⟨xs,t⟩|h
   ·exact (r.lg p (List.mem_append_right _ m)).1 g
   ·exact (hk p m).ne n
   ·exact (hk p m).DJ t
   ·exact dis.2.2 p h p m rfl
end
inductive AS where
 |pv (m:VM)|ln (i:Nat)
def Qi (K:Frg) (O:Org) (st:Ds) (σ:CS) (H H':Hp) (G':Sa):AS->D->V->Prop
 | .pv m,d,v=>bh K O H H' G' m d v
 | .ln i,d,v=>st[i]? =some (some d)/\σ[i]? =some (some v)
def yD (K:Frg) (O:Org) (st:Ds) (σ:CS) (H H':Hp) (G':Sa):List AS->List D->List V->Prop
 | [],[],vs=>vs=[]
 |m::ms,d::ds,vs=> ∃v r,vs=v::r/\Qi K O st σ H H' G' m d v/\yD K O st σ H H' G' ms ds r
 |_,_,_=>False
section
variable {K:Frg} {O:Org} {H H1 H2:Hp} {G G1 G2:Sa} {st:Ds} {σ:CS}
theorem yD.back: ∀{ms:List AS} {ds:List D} {vs:List V},Ext H G H1 G1->yD K O st σ H1 H2 G2 ms ds vs->yD K O st σ H H2 G2 ms ds vs
 | [],[],_,_,h=>h
 | .pv m::ms,d::ds,_,e,⟨v,r,e1,h1,h2⟩=>⟨v,r,e1,bh.back e h1,yD.back e h2⟩
 | .ln i::ms,d::ds,_,e,⟨v,r,e1,h1,h2⟩=>⟨v,r,e1,h1,yD.back e h2⟩
 | [],_::_,_,_,h=>h.elim
 |_::_,[],_,_,h=>h.elim
end
section
variable {X:Cx} {Δ:List Md} {st:Ds} {a b e o:Expr} {es:List Expr} {m ma mb rm:VM} {ra rb:Option D} {rs:Option (List D)} {pos p apos:Pos} {as:List AS} {ps:List PM} {Fs:List D->Option FR} {k:Nat} {f:Addr} {fd:FuncData} {pn:List Str} {x:Str}
def FR.out (st:Ds) (is:List Nat):FR->Option (D×Ds)
 | .ok d os=>if os.length=is.length then some (d,Gv is os st) else none
 |_=>none
end
def D.put (d:D) (k:Key) (x:D):Option D:=match d with
 | .dct ks=>if ks.length<sizeLine then some (.dct (bW ks k x)) else none
 |_=>none
end Sw
namespace Sw
open PySem PySem.Spec PyProof.Rows L2
variable [NmC]
def b1 {α β:Type} (f:α->Option β) (a:Option α):Option β:=a.bind f
def b2 {α β γ:Type} (f:α->β->Option γ) (a:Option α) (b:Option β):Option γ:=a.bind fun x=>b.bind fun y=>f x y
def aj (a:Option D) (r:Option (List D)):Option (List D):=a.bind fun x=>r.bind fun xs=>some (x::xs)
def aU:Option (List D):=some []
def bp (Fs:List D->Option FR) (rs:Option (List D)):Option D:=rs.bind fun ds=>(Fs ds).bind FR.val
def do1 (d:D) (q:List Stp) (f:D->Option (D×D)):Option (D×D):=(fj d q).bind fun d'=>(f d').bind fun r=>some (r.1,cG d q r.2)
def FR.L8:FR->Option (D×D)
 | .ok d [o]=>some (d,o)
 |_=>none
def FR.L9:FR->Option (D×D×D)
 | .ok d [o,p]=>some (d,o,p)
 |_=>none
def Oj (Fs:List D->Option FR) (rs:Option (List D)):Option (D×D):=rs.bind fun ds=>(Fs ds).bind FR.L8
def call2 (Fs:List D->Option FR) (rs:Option (List D)):Option (D×D×D):=rs.bind fun ds=>(Fs ds).bind FR.L9
abbrev PY1 (X:Cx) (Δ:List Md) (st:Ds) (e:Expr) (m:VM) (i:Nat) (r:Option (D×D)):Prop:=PY X Δ st e m (r.bind fun d=>some (d.1,st.set i (some d.2)))
section
variable {X:Cx} {Δ:List Md} {st:Ds} {e:Expr} {m:VM} {i j:Nat}
theorem I8 (d:D) (q:List Stp) (f:D->Option (D×D)):wB st i d q f=(do1 d q f).bind fun d=>some (d.1,st.set i (some d.2)):=by
 unfold wB do1
 cases fj d q with
 |none=>rfl
 |some d'=>
  show (f d').bind _=((f d').bind _).bind _
  cases f d' <;> rfl
theorem vu {α β:Type} {d:D} {a:Option α} {b:Option β} {q:α->List Stp} {f:α->β->D->Option (D×D)} (h:PY X Δ st e m (a.bind fun x=>b.bind fun y=>wB st i d (q x) (f x y))):PY1 X Δ st e m i (a.bind fun x=>b.bind fun y=>do1 d (q x) (f x y)):=by
 have e1:(a.bind fun x=>b.bind fun y=>wB st i d (q x) (f x y))=((a.bind fun x=>b.bind fun y=>do1 d (q x) (f x y)).bind fun d=>some (d.1,st.set i (some d.2))):=by
  cases a with
  |none=>rfl
  |some x=>cases b with
   |none=>rfl
   |some y=>exact I8 _ _ _
 rw[e1] at h;exact h
end
section
variable {α β:Type} {X:Cx} {E:Exits α β} {Δ:List Md} {st:Ds} {rest:List Stmt} {e:Expr} {m:VM} {pos:Pos} {i j k:Nat}
theorem Pp (i0:Nat) {x:Str} {p':Pos} {md:Md} {r:Option (D×D)} {k:D×D->Option (Out α β)} (he:PY1 X Δ st e m i r) (hm:Cb m=some md) (hi:i0<Δ.length) (hnd:X.N.Nodup) (hN:X.N[i0]? =some x) (hx:Loc X.env.scope x)
  (h: ∀d:D×D,Blk X E (Δ.set i0 md) ((st.set i (some d.2)).set i0 (some d.1)) rest (k d)) (hs:swapsWith e (some (.Name x p')) pos.line X.env=pure false:=by rfl) (hf:X.fn x=true\/X.env.scope.names.lookup x=some .local:=by first|exact .inl rfl|exact .inr rfl|assumption):
  Blk X E Δ st (.Assign [.Name x p'] e pos::rest) (r.bind k):=
 cV (pss_cons (ps_set hnd hN hx he hs hf) (fJ h)) fun De σ H ⟨O,G,q,rel,er,kk⟩=>by
  obtain⟨d,e1,e2⟩:=bind1 er
  exact⟨O,G,_,rel,by rw[e1];rfl,fun v H1 G1 rv=>⟨d,O,G1,q,rv.set hi hm,e2,kk⟩⟩
theorem Gx {r:Option (D×D)} {k:D×D->Option (Out α β)} (he:PY1 X Δ st e m i r) (h: ∀d:D×D,Blk X E Δ (st.set i (some d.2)) rest (k d)) (hs:swapsWith e none pos.line X.env=pure false:=by rfl):Blk X E Δ st (.Expr e pos::rest) (r.bind k):=
 cV (pss_cons (ps_expr he hs) (fJ h)) fun De σ H ⟨O,G,q,rel,er,kk⟩=>by
  obtain⟨d,e1,e2⟩:=bind1 er
  exact⟨O,G,_,rel,by rw[e1];rfl,fun v H1 G1 rv=>⟨d,O,G1,q,rv.rel,e2,kk⟩⟩
theorem E3 (i:Nat) {s:Sh} {ss:List Stmt} {r:Option (Out α β)} (hm:Δ[i]? =some (.ow s)) (h:Blk X E (Δ.set i .fz) st ss r):Blk X E Δ st ss r:=
 cV h fun De σ H ⟨O,G,q,⟨L,g,sl⟩,er,kk⟩=>by
  obtain⟨x',y',L1,L2',ex,ey,sr,pm,f⟩:=sl.split hm
  cases x' with
  |none=>
   obtain⟨L',pm',s'⟩:=f G H .fz none y' [] (fun _ g=>g) aC aC (fun _ _=>rfl) lG.none
   rw[iL ex,iL ey] at s'
   exact⟨O,G,q,⟨L',((g.perm pm).sub (List.sublist_append_right _ _)).perm pm'.symm,s'⟩,er,kk⟩
  |some d=>
   obtain⟨v,rfl,ow⟩:=sr
   have gp:=g.perm pm
   obtain⟨L',pm',s'⟩:=f (fun p=>G p\/p∈L1) H .fz (some d) (some v) [] (fun _ g=>.inl g) aC aC (fun _ _=>rfl) ⟨v,rfl,Own.rep _ _ _ _ ow,rfl⟩
   rw[iL ex,iL ey] at s'
   have pe:L'.Perm L2':=by simpa using pm'
   refine⟨O,_,q,⟨L',cU.perm ⟨g.bin,g.fr0,fun p h=>.inl (g.gsub p h),fun p h=> ?_,fun p h=> ?_,g.dom,(List.nodup_append.mp gp.nd).2.1,fun p m=>⟨fun h=> ?_,(gp.lg p (List.mem_append_right _ m)).2⟩,g.tl,g.tb⟩ pe.symm,s'⟩,er,kk⟩
   ·rcases h with h|h
    ·exact g.gold p h
    ·rcases (gp.lg p (List.mem_append_left _ h)).2 with h|h
     ·exact .inr (.inr (.inr h))
     ·exact .inr (.inl h)
   ·rcases h with h|h
    ·exact g.gin p h
    ·exact (Own.kind _ _ _ _ ow p h).ne
   ·rcases h with h|h
    ·exact (gp.lg p (List.mem_append_right _ m)).1 h
    ·exact (List.nodup_append.mp gp.nd).2.2 p h p m rfl
end
end Sw
namespace Sw
open PySem PySem.Spec PyProof.Rows L2
variable [NmC]
section
variable {α β γ δ:Type}
def ifO (rc:Option Bool) (mA mB:Option (Out γ β)) (k:γ->Option (Out α β)):Option (Out α β):=rc.bind fun c=>(if c=true then mA else mB).bind (sqO k)
def tA (rI:Option (List δ)) (step:γ->δ->Option (Out γ γ)) (b0:γ) (k:γ->Option (Out α β)):Option (Out α β):=rI.bind fun ds=>(forL step ds b0).bind (sqF k)
noncomputable def whO (tst:γ->Option Bool) (step:γ->Option (Out γ γ)) (b0:γ) (k:γ->Option (Out α β)):Option (Out α β):=(whL tst step b0).bind (sqF k)
def cu (r:Option D) (os:List D):Option (Out α β):=r.bind fun d=>some (.ret d os)
def ifE (rc:Option Bool) (a b:Option D):Option D:=rc.bind fun c=>if c=true then a else b
def lL (a b:Option Bool):Option Bool:=a.bind fun c=>if c=true then b else some false
def orB (a b:Option Bool):Option Bool:=a.bind fun c=>if c=true then some true else b
def o8 (a:Option Bool):Option Bool:=a.bind fun b=>some (!b)
def lcO (rI:Option (List δ)) (rt:δ->Option Bool) (re:δ->Option D):Option D:=rI.bind fun ds=>yA rt re ds
def wC (x:Option D):Option (List D):=x.bind fun x=>match x with| .lst ds=>some ds|_=>none
def Qj (x:Option D):Option (List (D×D)):=x.bind fun x=>match x with| .lst ds=>D.prs ds|_=>none
def FO (m:Option (Out PEmpty PEmpty)):Option FR:=m.bind outF
end
structure Cal (P:Program) (w:World) (K:Frg) (mg:Str->Option Value) (base:Heap) (k:Nat) (x:Str) (ps:List Str) (ms:List PM) (rm:VM) (Fs:List D->Option FR):Prop where
 ok: ∃(f:Addr) (fd:FuncData),FnOk P w K mg base CX0 k f fd ps (FSp K ms rm Fs)/\mg x=some (.ref f)/\PySem.W.keepIn K (.ref f)=true/\Binds K fd ps []
section
variable {X:Cx} {Δ:List Md} {st:Ds} {e:Expr} {es:List Expr} {rm:VM} {rs:Option (List D)} {pos p:Pos} {vms:List VM} {ps:List PM} {as:List AS} {Fs:List D->Option FR} {k k':Nat} {pn:List Str} {x:Str} {i j:Nat}
theorem aW (C:Cal X.prog X.w X.K X.mg X.base k x pn ps rm Fs) (hr:Room k' X.A) (ha:PAx X Δ st (e::es) vms rs) (hg:Gl X x:=by rfl) (hk:k<=k':=by decide) (ok:hO ps vms=true:=by rfl)
  (hdb:(x==("__debug__" :Str))=false:=by decide) (he:starEach (e::es) X.env=(false,eval e X.env)::starEach es X.env:=by rfl) (hpl:(backTo pos (starEach es X.env)).any (·.1)=false:=by rfl):
  PX X Δ st (.Call (.Name x p) (e::es) [] pos) rm (bp Fs rs):=by
 obtain⟨f,fd,F,hm,hkp,hb⟩:=C.ok
 exact I0 F (hr.mono hk) hg hm hkp hb ha ok hdb he hpl
end
section
variable {α β γ δ:Type} {X:Cx} {E:Exits α β} {Δ Δ':List Md} {st st':Ds} {rest body:List Stmt} {e:Expr} {m:VM} {r:Option D} {pos:Pos} {i j:Nat}
theorem aY (i:Nat) (Δ':List Md) (st':D->Ds) {x:Str} {p':Pos} {md:Md} {k:D->Option (Out α β)} (he:PX X Δ st e m r) (h: ∀d,Blk X E Δ' (st' d) rest (k d)) (hx:Loc X.env.scope x) (hnd:X.N.Nodup) (hm:Cb m=some md:=by rfl) (e1:Δ.set i md=Δ':=by rfl) (e2: ∀d,st.set i (some d)=st' d:=by intro _;rfl) (hi:i<Δ.length:=by exact Nat.le_of_ble_eq_true rfl) (hN:X.N[i]? =some x:=by rfl)
  (hs:swapsWith e (some (.Name x p')) pos.line X.env=pure false:=by rfl) (hf:X.fn x=true\/X.env.scope.names.lookup x=some .local:=by first|exact .inl rfl|exact .inr rfl|assumption):
  Blk X E Δ st (.Assign [.Name x p'] e pos::rest) (r.bind k):=LJ i he hm hi hnd hN hx (fun d=>by rw[e1,e2];exact h d) hs hf
theorem rX (i:Nat) (st':D×D->Ds) {r:Option (D×D)} {k:D×D->Option (Out α β)} (he:PY1 X Δ st e m i r) (h: ∀d:D×D,Blk X E Δ (st' d) rest (k d)) (e2: ∀d:D×D,st.set i (some d.2)=st' d:=by intro _;rfl) (hs:swapsWith e none pos.line X.env=pure false:=by rfl):Blk X E Δ st (.Expr e pos::rest) (r.bind k):=
 Gx he (fun d=>by rw[e2];exact h d) hs
theorem tD (i:Nat) (Δ':List Md) {s:Sh} {ss:List Stmt} {r:Option (Out α β)} (h:Blk X E Δ' st ss r) (hm:Δ[i]? =some (.ow s):=by rfl) (e1:Δ.set i .fz=Δ':=by rfl):Blk X E Δ st ss r:=E3 i hm (by rw[e1];exact h)
theorem mr {rg:Rg} {IR:Sa->Hp->δ->V->Prop} {rI:Option (List δ)} {g:TG} {uM:List Md->List Md} {uS:δ->Ds->Ds} {tg it:Expr} {is:List Nat} (Dl:List Md) (el:γ->Ds) (Dm:List Md) (em:γ->δ->Ds) {b0:γ} {step:γ->δ->Option (Out γ γ)} {k:γ->Option (Out α β)}
  (hi:PIx X Δ st tg it rg IR rI) (him:lH IR) (hr:rg≠ .hb) (hg:PG X tg g) (ht:wg X.K g rg IR uM uS Dl.length is) (w:Wk Δ st Dl (el b0)) (hb: ∀b d,Blk X (E.loop Dl el) Dm (em b d) body (step b d)) (h: ∀b,Blk X E Dl (el b) rest (k b))
  (e1:uM Dl=Dm:=by rfl) (e2: ∀b d,uS d (el b)=em b d:=by intro _ _;rfl) (hc:X.calm=true:=by rfl) (hs: ∀x,foldedSetIterable it X.env x=pure x:=by intro _;rfl) (hp:PassesOwn (model X.prog X.w) X.A X.env X.xe:=by exact PassesOwn.never):
  Blk X E Δ st (.For tg it body [] pos::rest) (tA rI step b0 k):=LK Dl el hi him hr hg ht w (fun b d=>by rw[e1,e2];exact hb b d) h hc hp hs
end
end Sw
namespace Sw
open PySem PySem.Spec PyProof.Rows L2
variable [NmC]
def blO (a:Option Bool):Option D:=a.bind fun b=>some (.bl b)
def Ma (a:Option D):Option D:=(a.bind D.tb).bind fun c=>some (.bl (!c))
def Mb (a b:Option D):Option D:=(a.bind D.tb).bind fun c=>if c=true then b else some (.bl false)
def orE (a b:Option D):Option D:=(a.bind D.tb).bind fun c=>if c=true then some (.bl true) else b
def tupO (r:Option (List D)):Option D:=r.bind fun ds=>some (.tup ds)
def qL (r:Option (List D)):Option D:=r.bind fun ds=>if ds.length<=sizeLine then some (.lst ds) else none
def px (f:D->Option Int->Option Int->Option D) (a:Option D) (l h:Option (Option Int)):Option D:=a.bind fun x=>l.bind fun l=>h.bind fun u=>f x l u
def Cf (d:D) (rp:Option (List Stp)) (ra:Option D) (f:D->D->Option (D×D)):Option (D×D):=rp.bind fun q=>ra.bind fun x=>do1 d q fun d'=>f d' x
def Qk (d:D) (rp:Option (List Stp)) (rs:Option (List D)) (f:List D->List D->Option (D×List D)):Option (D×D):=rp.bind fun q=>rs.bind fun xs=>do1 d q (I6 f xs)
def Ql (d:D) (rp:Option (List Stp)) (f:List D->List D->Option (D×List D)):Option (D×D):=rp.bind fun q=>do1 d q (I6 f [])
theorem mN:Rg.bb≠Rg.hb:=fun h=>nomatch h
theorem fQ:Rg.fz≠Rg.hb:=fun h=>nomatch h
theorem hu_of {k:Nat} {A:Around} (r:Room k A):A.units+1<cLine:=by have:=r.un;omega
theorem zp:allM (.rg .fz) [.rg .fz]:=⟨rfl,trivial⟩
theorem Mc:allM (.rg .fz) [.rg .fz,.rg .fz]:=⟨rfl,rfl,trivial⟩
theorem Cg:allM (.rg .fz) [.rg .fz,.rg .fz,.rg .fz]:=⟨rfl,rfl,rfl,trivial⟩
theorem Ci:allM (.rg .fz) [.rg .fz,.rg .fz,.rg .fz,.rg .fz]:=⟨rfl,rfl,rfl,rfl,trivial⟩
theorem E4 {st:Ds} {x:Str} {i:Nat} (h:st[i]? =some none): ∀v∈([(x,i)]:List (Str×Nat)).map (·.2),st[v]? =some none:=by simpa using h
theorem yE {x:Str} {i:Nat}: ∀v∈[i],v∈([(x,i)]:List (Str×Nat)).map (·.2):=by simp
theorem nv: ∀(q r:List Stp) (s:Sh),shP s (q++r)=(shP s q).bind fun s'=>shP s' r
 | [],r,s=>by cases s <;> (simp[shP])
 |x::q,r,s=>by
  cases s with
  |fz=>cases x <;> simp[shP]
  |ls s=>cases x <;> simp[shP,nv q r]
  |dc s=>cases x <;> simp[shP,nv q r]
  |dt s=>cases x <;> simp[shP,nv q r]
  |dk od kvs s=>cases x <;> simp[shP,nv q r]
  |lz=>cases x <;> simp[shP]
  |op s=>cases x <;> simp[shP]
  |tp s=>cases x <;> simp[shP]
  |tq s=>cases x <;> simp[shP]
  |ex _=>cases x <;> simp[shP]
  |hl ss=>
   cases x <;> simp[shP]
   rename_i i
   cases ss[i]? <;> simp[nv q r]
  |is fs=>
   cases x <;> simp[shP]
   rename_i f
   cases fs.lookup f <;> simp[nv q r]
theorem uv {s s':Sh} (h:s=s'): ∀q,(some []:Option (List Stp))=some q->shP s q=some s':=by
 intro q e;cases e;rw[h];cases s' <;> rfl
section
variable {X:Cx} {Δ:List Md} {st:Ds} {a b c e o:Expr} {es:List Expr} {m ma mb mc:VM} {ra rb rc:Option D} {pos p pos' apos:Pos} {r rg:Rg}
theorem vw {x1:Nat} {ra rb rc:Option D} (h:PAx X Δ st [a,b,c] [.rg .fz,.rg .fz,.rg .fz] (aj ra (aj rb (aj rc aU)))):PX X Δ st (.Tuple [a,b,c] x1 pos) (.rg .fz) (tupO (aj ra (aj rb (aj rc aU)))):=Gn h Cg (by simp) fun ds e=>by
 obtain⟨x,y,e1,e2,e3⟩:=bO e
 obtain⟨z,w,e4,e5,e6⟩:=bO e2
 obtain⟨u,v,e7,e8,e9⟩:=bO e5
 cases e8;cases e9;cases e6;cases e3;simp
end
abbrev D.leS:D->D->Option Bool:=ss fun a b=>some (!decide (b.cps.toList<a.cps.toList))
abbrev D.gtS:D->D->Option Bool:=ss fun a b=>some (decide (b.cps.toList<a.cps.toList))
abbrev D.geS:D->D->Option Bool:=ss fun a b=>some (!decide (a.cps.toList<b.cps.toList))
section
variable {X:Cx} {ma mb rg:Rg}
theorem KY:Op2 X (fun x y H Q=> ∃i j,x= .str i/\y= .str j/\Q (.bl (!decide (j.cps.toList<i.cps.toList))) H) (.rg ma) (.rg mb) (.rg rg) (blD D.leS):=LN fun _ _ _ _ h=>h
def zq:PyData->Bool
 | .none=>true
 |_=>false
end
end Sw
namespace Sw
open PySem PySem.Spec PyProof.Rows L2
variable [NmC]
theorem kN:bootBuiltins "len" =some (.builtin "len"):=by decide+kernel
theorem qA:bootBuiltins "isinstance" =some (.builtin "isinstance"):=by decide+kernel
theorem Me:bootBuiltins "abs" =some (.builtin "abs"):=by decide+kernel
def D.QX (x:D):Option D:=match x with
 | .lst ds=>if D.evs ds=true/\LY ds=true then some (.lst (srt ds)) else none
 |_=>none
def D.uw (x:D) (lo hi:Option Int):Option D:=match x with
 | .lst ds=>if D.evs ds=true then some (.lst (Sw.dJ ds lo hi)) else none
 |_=>none
theorem Gy {H:Hp} {G N:Sa} (hN: ∀p,N p-> ∃xs,H p=some (.tup xs)):Ext H G H (fun p=>G p\/N p):=.of (fun _ _ e=>e) (fun p g=>.inl g) (fun p g=>by
 rcases g with g|g
 ·exact .inl g
 ·obtain⟨xs,t⟩:=hN p g
  exact .inr (.inr ⟨xs,t⟩))
theorem Gz {H:Hp} {G N:Sa} (gin: ∀p,G p->H p≠none) (hN: ∀p,N p-> ∃xs,H p=some (.tup xs)): ∀p,(G p\/N p)->H p≠none:=fun p g=>by
 rcases g with g|g
 ·exact gin p g
 ·obtain⟨xs,t⟩:=hN p g
  rw[t];simp
section
variable {X:Cx} {Δ:List Md} {st:Ds} {a b c e o:Expr} {es:List Expr} {m ma mb mc:VM} {ra rb rc:Option D} {pos p p2 pos' apos:Pos} {r rg r1 r2':Rg}
theorem mP {lo hi:Option Expr} {rl rh:Option (Option Int)} (ha:PX X Δ st a m ra) (hl:POx X Δ st lo rl) (hh:POx X Δ st hi rh):PX X Δ st (.Subscript a (.Slice lo hi none p2) pos) (.nw (.ls .fz)) (px D.uw ra rl rh):=
 bj (L2.pe_slice sl_list ha hl hh) fun σ H Q ⟨O,G,d,rel,er,k⟩=>by
  obtain⟨x,e1,er⟩:=bind1 er
  obtain⟨l,u,e2,e3,e4⟩:=bO er
  cases x <;> first|cases e4|skip
  rename_i ds
  obtain⟨he,rfl⟩:=aM (show (if D.evs ds=true then some (D.lst (Sw.dJ ds l u)) else none)=some d from e4)
  refine rdE.go rel e1 fun v H1 G1 rel1 x1 v1=>⟨O,G1,l,rel1,e2,fun H2 G2 x2=>⟨O,G2,u,rel1.ext x2,e3,fun H3 G3 x3=> ?_⟩⟩
  have v3:=((v1.mono x2).mono x3).hb
  unfold Rep at v3
  obtain⟨p,vs,rfl,_,l',r'⟩:=v3
  obtain⟨N,hN,g⟩:=aE.et (G:=G3) ds vs he r'
  have x03:=(x1.trans (x2.trans x3)).trans (Gy hN)
  exact⟨p,vs,rfl,SqL.of l',fun q hq=>k _ _ _ (x03.trans (.new hq)) (bh.back x03 (wm hq (Gz ((rel1.ext x2).ext x3).gin hN) (g.cut l u)))⟩
end
def KZ:List Key->Option (List Str)
 | []=>some []
 | .inr x::ks=>(KZ ks).map fun xs=>x::xs
 | .inl _::_=>none
def qM (xs:List Str):List Str:=xs.mergeSort sLe
theorem E5 (a b c:Str) (h:sLe a b=true) (g:sLe b c=true):sLe a c=true:=by
 unfold sLe at*
 simp only[decide_eq_true_eq] at*
 exact List.le_trans h g
theorem E6 (a b:Str):(sLe a b||sLe b a)=true:=by
 unfold sLe
 rw[Bool.or_eq_true]
 simp only[decide_eq_true_eq]
 exact List.le_total _ _
def D.Rj (x:D):Option D:=match x with
 | .dct ks=>(KZ (ks.map (·.1))).bind fun xs=>if xs.length<64 then some (.lst ((qM xs).map D.str)) else none
 |_=>none
def D.K0 (x:D):Option D:=match x with
 | .dct ks=>some (.lst (ks.map fun k=>kD k.1))
 |_=>none
theorem yF {K:Frg} {S:Sa} {H:Hp}: ∀xs:List Str,aE K S H (xs.map D.str) (xs.map V.str)
 | []=>.nil
 |x::xs=>.cons (by unfold Rep;rfl) (yF xs)
section
variable {X:Cx} {Δ:List Md} {st:Ds} {a b c e o:Expr} {es:List Expr} {m ma mb mc:VM} {ra rb rc:Option D} {pos p p2 pos' apos pT:Pos} {r rg r1 r2':Rg}
def D.strs:List D->Option (List Str)
 | []=>some []
 | .str x::ds=>(D.strs ds).map fun xs=>x::xs
 |_::_=>none
theorem DU: ∀{ds:List D} {xs:List Str},D.strs ds=some xs->ds=xs.map D.str
 | [],_,h=>by cases h;rfl
 | .str x::ds,_,h=>by
  unfold D.strs at h
  cases e:D.strs ds with
  |none=>rw[e] at h;cases h
  |some ys=>rw[e] at h;cases h;rw[DU e];rfl
theorem aE.strs {K:Frg} {S:Sa} {H:Hp}: ∀{xs:List Str} {vs:List V},aE K S H (xs.map D.str) vs->vs=xs.map V.str
 | [],_,h=>by unfold aE at h;exact h
 |x::xs,_,h=>by
  unfold aE at h
  obtain⟨v,r,rfl,h1,h2⟩:=h
  unfold Rep at h1
  rw[h1,aE.strs h2];rfl
def D.join (x y:D):Option D:=match x with
 | .str a=>(y.items).bind fun ds=>(D.strs ds).bind fun xs=>if (xs.map (·.length)).sum+xs.length*a.length<=16777216 then some (.str (Txt.join a xs)) else none
 |_=>none
theorem vx (ho:PX X Δ st o (.rg r) ra) (he:PX X Δ st e m rb) (hs:starEach [e] X.env=[(false,eval e X.env)]:=by rfl) (hbase:attributeBase o "join" X.env (eval o X.env)=eval o X.env:=by rfl) (hline:(apos.endLine==pos.line)=true:=by rfl):
  PX X Δ st (.Call (.Attribute o "join" apos) [e] [] pos) (.rg rg) (b2 D.join ra rb):=bj (pe_join ho he hs hbase hline) fun σ H Q ⟨O,G,d,rel,er,k⟩=>by
 obtain⟨x,y,e1,e2,e3⟩:=bO er
 cases x <;> first|cases e3|skip
 rename_i a
 obtain⟨ds,e4,e5⟩:=bind1 (show ((y.items).bind fun ds=>(D.strs ds).bind fun xs=>if (xs.map (·.length)).sum+xs.length*a.length<=16777216 then some (D.str (Txt.join a xs)) else none)=some d from e3)
 obtain⟨xs,e6,e7⟩:=bind1 e5
 obtain⟨hz,rfl⟩:=aM e7
 refine rdE.go rel e1 fun v H1 G1 rel1 x1 v1=>⟨⟨a,v1.str⟩,rdE.go rel1 e2 fun w H2 G2 rel2 x2 v2=> ?_⟩
 obtain⟨p,vs,rfl,l,rr⟩:=Rep.items e4 v2.hb
 have:=DU e6
 subst this
 rw[aE.strs rr] at l
 exact⟨a,p,xs,v1.str,rfl,l,hz,k _ H2 G2 (x1.trans x2) qJ⟩
def tyN:D->Option String
 | .non=>some "NoneType" | .bl _=>some "bool" | .int _=>some "int" | .str _=>some "str"
 | .lst _=>some "list" | .tup _=>some "tuple" | .dct _=>some "dict"
 |_=>none
theorem Rep.ty {K:Frg} {S:Sa} {H:Hp} {d:D} {v:V} {t:String} (e:tyN d=some t) (h:Rep K S H d v):TyX K H v (.type t):=by
 cases d <;> first|cases e|skip
 ·unfold Rep at h;subst h;exact .base .non
 ·unfold Rep at h;subst h;exact .base (.bl _)
 ·unfold Rep at h;subst h;exact .base (.int _)
 ·unfold Rep at h;subst h;exact .base (.str _)
 ·unfold Rep at h
  obtain⟨a,vs,rfl,_,l,_⟩:=h
  exact .base (.lst l)
 ·unfold Rep at h
  obtain⟨a,vs,rfl,l,_⟩:=h
  exact .base (.tup l.2)
 ·unfold Rep at h
  obtain⟨a,vs,rfl,_,l,_⟩:=h
  rcases l with l|⟨o,l⟩
  ·exact .base (.dK l)
  ·exact .fDict l
end
end Sw
namespace Sw
open PySem PySem.Spec PyProof.Rows L2
variable [NmC]
def D.GA (d' y x:D):Option D:=match d',y with
 | .lst ds,.int i=>(ixN ds.length i).map fun j=>.lst (ds.set j x)
 |_,_=>none
def wD (d:D) (ra:Option D) (rp:Option (List Stp)) (rb:Option D):Option D:=ra.bind fun x=>rp.bind fun q=>rb.bind fun y=>(fj d q).bind fun d'=>(D.GA d' y x).bind fun d''=>some (cG d q d'')
theorem aE.set {K:Frg} {S:Sa} {H:Hp} {x:D} {w:V} (hw:Rep K S H x w): ∀{ds:List D} {vs:List V} (j:Nat),aE K S H ds vs->aE K S H (ds.set j x) (vs.set j w)
 | [],_,j,h=>by unfold aE at h;subst h;exact .nil
 |d::ds,_,0,h=>by
  unfold aE at h
  obtain⟨v,r,rfl,h1,h2⟩:=h
  exact .cons hw h2
 |d::ds,_,j+1,h=>by
  unfold aE at h
  obtain⟨v,r,rfl,h1,h2⟩:=h
  exact .cons h1 (aE.set hw j h2)
theorem b7.drop {K:Frg} {S:Sa} {H:Hp} (k:Key): ∀{ds:List (Key×D)} {vs:List (Key×V)},b7 K S H ds vs->b7 K S H (wb ds k) (wb vs k)
 | [],_,h=>by unfold b7 at h;subst h;exact .nil
 |(k0,d)::ds,_,h=>by
  unfold b7 at h
  obtain⟨v,r,rfl,h1,h2⟩:=h
  have ih:=b7.drop k h2
  unfold wb at*
  rw[List.filter_cons,List.filter_cons]
  by_cases e:k0=k
  ·simp only[e,ne_eq,not_true,decide_false,Bool.false_eq_true,if_false];exact ih
  ·simp only[e,ne_eq,not_false_iff,decide_true,if_true];exact .cons h1 ih
section
variable {α β γ δ:Type} {X:Cx} {E:Exits α β} {Δ Δ':List Md} {st:Ds} {rest body:List Stmt} {a b e o tg:Expr} {m mb:VM} {ra rb:Option D} {rp:Option (List Stp)} {pos pos' apos:Pos} {i j:Nat} {md:Md} {s s'':Sh} {d:D} {r:Rg}
theorem zr (i:Nat) (st':D->Ds) {k:D->Option (Out α β)} (hu:X.A.units+1<cLine) (he:PX X Δ st e (.rg .fz) ra) (hv:shV (.rg .fz)=some s'') (ho:PPx X Δ st o i rp) (hsh: ∀q,rp=some q->shP s q=some (.ls s'')) (hk:PX X Δ st b (.rg r) rb) (h: ∀d1,Blk X E Δ (st' d1) rest (k d1))
  (hm:Δ[i]? =some md:=by rfl) (hs:wA md=some s:=by rfl) (hd:st[i]? =some (some d):=by rfl) (e2: ∀d1,st.set i (some d1)=st' d1:=by intro _;rfl)
  (hs1:swapsWithSole [.Subscript o b pos'] e pos.line X.env=pure false:=by rfl) (hw:swappedStores [.Subscript o b pos'] e X.env=pure none:=by rfl) (h1:(assignEach [.Subscript o b pos'] X.env).map (·.2)=[assign (.Subscript o b pos') X.env]:=by rfl)
  (ha: ∀v,assign (.Subscript o b pos') X.env v=(do
   let ov<-holding [v] (eval o X.env)
   let iv<-holding [v,ov] (eval b X.env)
   standAt pos'
   holding [v,ov,iv] (setItem ov iv v)
   release [v,ov,iv] []):=by intro _;rfl):
  Blk X E Δ st (.Assign [.Subscript o b pos'] e pos::rest) ((wD d ra rp rb).bind k):=by
 cases hv
 refine cV (pss_cons (ps_asg he (pg_sub ho hk set_list ha) hs1 hw h1) (fJ h)) fun De σ H ⟨O,G,qq,rel,er,kk⟩=> ?_
 obtain⟨d2,e0,ek⟩:=bind1 er
 unfold wD at e0
 obtain⟨x,e1,e0⟩:=bind1 e0
 obtain⟨q,y,e3,e4,e0⟩:=bO e0
 obtain⟨d',e5,e0⟩:=bind1 e0
 obtain⟨d'',e6,e0⟩:=bind1 e0
 cases e0
 obtain⟨ds,rfl⟩: ∃ds,d'= .lst ds:=by cases d' <;> first|exact⟨_,rfl⟩|cases e6
 obtain⟨iy,rfl⟩: ∃iy,y= .int iy:=by cases y <;> first|exact⟨_,rfl⟩|cases e6
 have e6:(ixN ds.length iy).map (fun j=>D.lst (ds.set j x))=some d'':=e6
 cases ej:ixN ds.length iy with
 |none=>rw[ej] at e6;cases e6
 |some jj=>
  rw[ej] at e6;cases e6
  have hsq:=hsh q e3
  refine rdE.go rel e1 fun w H1 G1 rel1 x1 v1=>⟨O,G1,q,rel1,e3,fun v0 v H2 G2 ev0 x2 at2=>rdE.go (rel1.ext x2) e4 fun u H3 G3 rel3 x3 v3=> ?_⟩
  obtain⟨l,vs0,rfl,hl0⟩:=Gu rel3 hm hs hd ev0 (at2.mono x3.hx) hsq e5
  have v13:Rep X.K G3 H3 x w:=(v1.mono x2).mono x3
  obtain⟨nG,⟨vs,hl,rr⟩,fin⟩:=I7 (ds2:=ds.set jj x) (res:=.non) (Q:=fun _ H'=> ∃a,rdS X.K E Δ (st' a) (k a) De σ H') rel3 hm hs hd ev0 (at2.mono x3.hx) hsq e5 fun v H' G' rv=>⟨_,O,G',qq,by rw[<-e2];exact rv.rel,ek,kk⟩
  exact⟨l,vs,iy,jj,rfl,v3.int,hl,by rw[rr.length];exact ej,fin (vs.set jj w) .non (rr.set v13 jj) (by unfold Rep;rfl)⟩
end
def D.min2:List D->Option D
 | [.int a,.int b]=>some (.int (if b<a then b else a))
 |_=>none
def D.max2:List D->Option D
 | [.int a,.int b]=>some (.int (if b>a then b else a))
 |_=>none
def D.K1:List D->Option D
 | [.str a,.str b]=>some (.str (if b.cps.toList<a.cps.toList then b else a))
 |_=>none
def D.K3:List D->Option D
 | [.str a,.str b]=>some (.str (if a.cps.toList<b.cps.toList then b else a))
 |_=>none
end Sw
namespace Sw
open PySem PySem.Spec PyProof.Rows L2
variable [NmC]
theorem zt:bootBuiltins "int" =some (.type "int"):=by decide+kernel
theorem I9:bootBuiltins "str" =some (.type "str"):=by decide+kernel
end Sw
namespace Sw
open PySem PySem.Spec PyProof.Rows L2
variable [NmC]
theorem Mf {K:Frg} {H:Hp} {a:Addr} {ns:List Int} {Fs:List D->Option FR} (hS:SqL K H a (ns.map V.int)) (h:Fs [.sc ns]=some (.ok (.bl true) [])) (tb:LamX.Tabs NmC.T H:=by exact fun p hp=>nomatch (show p∈([]:List (Addr×Str)) from hp)):FSp K [.bo] (.rg .fz) Fs [.ref a] H (fun v _=>v= .bl true) (fun _ _ _=>False):=by
 refine⟨Org.all H fun _=>False,[.sc ns],_,rfl,iN tb (fun _ f=>f.elim),⟨[],[],⟨?_,rfl⟩,rfl,rfl⟩,h,fun v H' G' r=> ?_⟩
 ·unfold Rep
  refine⟨a,rfl,?_⟩
  rcases hS with r|⟨o,its,n,hk,z⟩
  ·exact .inl ⟨by rcases r with r|⟨o,r⟩ <;> (show H a≠none;rw[r];simp),r⟩
  ·exact .inr (.inr ⟨o,its,n,hk,z⟩)
 ·obtain⟨_,_,hv⟩:=p6 r
  exact (hv (Org.all H fun _=>False)).bl
theorem aX {K:Frg} {x qual:Str} {st:Stmt} {f:Addr} {fd:FuncData} {kws:List (Str×V)} (F:FunD K x qual (defArgs st) (defBody st) (defScope st) [] kws f fd):Fun K x qual st f fd:=by
 obtain⟨oc,od,dV,kV,doc,pm,an,cdv,ct,osl,e,l,c,hd,_⟩:=F.ex
 rcases hd with ⟨_,e2⟩|⟨e2,_⟩
 ·subst e2
  exact⟨⟨oc,od,kV,doc,pm,an,cdv,ct,osl,e,l,c⟩,F.kp⟩
 ·exact absurd rfl e2
end Sw
namespace Sw
open PySem PySem.Spec PyProof.Rows L2
variable [NmC]
section
variable {X:Cx} {e:Expr} {st:Stmt}
def unl {α:Type} (H:Hp) (f:α->Hp->Prop):α->Hp->Prop:=fun a H'=>f a H'\/ ∃d od u,(∀o v,H d≠some (.frz o v))/\H' d=some (.frz od u)/\f a (upd H' d u)
end
section
variable {K:Frg} {O:Org} {Δ Δ2:List Md} {st st2:Ds} {σ σ2:CS} {H H2:Hp} {G G2:Sa} {L L2':List Addr} {d:Addr} {od:Obj} {u:HO}
def DkU (u:HO):Prop:=(∃kvs,u= .dK kvs)\/ ∃kvs,u= .dT kvs
theorem DkU.nd {u:HO} (h:DkU u):Nd u:=by rcases h with ⟨k,rfl⟩|⟨k,rfl⟩ <;> trivial
theorem DkU.fz {u:HO} {od:Obj} (h:DkU u):Nd (.frz od u):=by rcases h with ⟨k,rfl⟩|⟨k,rfl⟩ <;> trivial
theorem DkU.nt {u:HO} (h:DkU u): ∀xs,u≠ .tup xs:=fun xs z=>by rcases h with ⟨k,rfl⟩|⟨k,rfl⟩ <;> cases z
def Out.calm {α β:Type}:Out α β->Bool
 | .exc _=>false
 |_=>true
end
end Sw
namespace Sw
open PySem PySem.Spec PyProof.Rows L2
variable [NmC]
theorem b7.at {K:Frg} {S:Sa} {H:Hp}: ∀{ks:List (Key×D)} {kvs:List (Key×V)} {i:Nat} {k:Key} {v:V},b7 K S H ks kvs->kvs[i]? =some (k,v)-> ∃x,ks[i]? =some (k,x)/\Rep K S H x v
 | [],_,_,_,_,h,e=>by unfold b7 at h;subst h;simp at e
 |(k0,x)::ks,_,0,k,v,h,e=>by
  unfold b7 at h
  obtain⟨w,r,rfl,h1,h2⟩:=h
  simp at e
  obtain⟨rfl,rfl⟩:=e
  exact⟨x,rfl,h1⟩
 |(k0,x)::ks,_,i+1,k,v,h,e=>by
  unfold b7 at h
  obtain⟨w,r,rfl,h1,h2⟩:=h
  obtain⟨y,e1,e2⟩:=b7.at (i:=i) h2 (by simpa using e)
  exact⟨y,by simpa using e1,e2⟩
theorem Meets.inl {α β:Type} {K:Frg} {E:Exits α β} {O:Org} {De:Ends} {o:Out α β} {Hs:Hp} (hc:o.calm=true) (h:Meets K E O De o):Meets K E O ⟨unl Hs De.nx,unl Hs De.rt,unl Hs De.bk,unl Hs De.ct⟩ o:=by
 cases o with
 |nx a=>exact fun σ H' G' rel=>.inl (h _ _ _ rel)
 |bk b=>exact fun σ H' G' rel=>.inl (h _ _ _ rel)
 |ct b=>exact fun σ H' G' rel=>.inl (h _ _ _ rel)
 |ret x os=>exact fun v H' G' q=>⟨.inl (h _ _ _ q).1,fun fl ev σ=>.inl ((h _ _ _ q).2 fl ev σ)⟩
 |exc x=>cases hc
end Sw
namespace Sw
open PySem PySem.Spec PyProof.Rows L2
variable [NmC]
def D.ints:List D->Option (List Int)
 | []=>some []
 | .int x::ds=>(D.ints ds).map fun xs=>x::xs
 |_::_=>none
def D.Ol (x:D):Option D:=match x with
 | .lst ds=>(D.ints ds).map fun ns=>.int ns.sum
 |_=>none
end Sw
namespace Sw
open PySem PySem.Spec PyProof.Rows L2
variable [NmC]
def Om (ks ls:List (Key×D)):Bool:=decide (ks.length=ls.length)&&ks.all fun p=>match (aG ls p.1).bind D.toV,p.2.toV with
 |some a,some b=>decide (a=b)&&flatB a
 |_,_=>false
end Sw
namespace Sw
open PySem PySem.Spec PyProof.Rows L2 PySem.Calls PySem.W
variable [NmC]
section
variable {prog:Program} {w:World} {A:Around} {E:Value->Shared->Prop} {s:Shared}
def GB (z TI TO i1 i2 l1 l2 S:Addr) (xs ys:Array Value) (i:Nat) (h:Heap):Prop:=
 IsPair h TI (.ref i1) (.ref i2)/\h.IsListIter i1 l1 i/\h.IsListIter i2 l2 i/\h.IsList l1 xs/\h.IsList l2 ys∧
  ((IsZip h z TI TO .none/\ ∃a b,IsPair h TO a b)\/ ∃T f oT,IsZipHeld h z TI TO T f/\h.get? T=some oT/\T≠z/\T≠i1/\T≠i2/\T≠S)
theorem GB.at {z TI TO i1 i2 l1 l2 S:Addr} {xs ys:Array Value} {i:Nat} {h h':Heap} (x:GB z TI TO i1 i2 l1 l2 S xs ys i h) (d:z≠S/\TI≠S/\TO≠S/\i1≠S/\i2≠S/\l1≠S/\l2≠S)
  (k: ∀b o,b≠S->h.get? b=some o->h'.get? b=some o):GB z TI TO i1 i2 l1 l2 S xs ys i h':=by
 obtain⟨hTI,h1,h2,hl1,hl2,hz⟩:=x
 obtain⟨dz,dTI,dTO,d1,d2,dl1,dl2⟩:=d
 refine⟨k _ _ dTI hTI,h1.at fun o e=>k _ o d1 e,h2.at fun o e=>k _ o d2 e,hl1.at fun o e=>k _ o dl1 e,hl2.at fun o e=>k _ o dl2 e,?_⟩
 rcases hz with ⟨hz,a,b,hTO⟩|⟨T,f,oT,hz,hT,r1,r2,r3,r4⟩
 ·exact .inl ⟨k _ _ dz hz,a,b,k _ _ dTO hTO⟩
 ·exact .inr ⟨T,f,oT,k _ _ dz hz,k _ _ r4 hT,r1,r2,r3,r4⟩
end
end Sw
namespace Sw
open PySem PySem.Spec PyProof.Rows L2 PySem.Calls
variable [NmC]
section
variable {X:Cx} {Δ:List Md} {st:Ds} {a b c e o:Expr} {es:List Expr} {m ma mb mc:VM} {ra rb rc:Option D} {pos p apos cpos:Pos} {r rg:Rg}
def Qm:PyData->Option D
 | .int i=>some (.int i)
 | .str x=>some (.str x)
 |_=>none
end
end Sw
namespace Sw
open PySem PySem.Spec PyProof.Rows L2
variable [NmC]
section
variable {α β γ:Type} {X:Cx} {E:Exits α β} {Δ:List Md} {st:Ds} {rest body:List Stmt} {a b:Expr} {pos:Pos} {r1 r2:Rg} {ra rb:Option D}
theorem wF {K:Frg} {O:Org} {σ:CS} {H:Hp} {G:Sa} {i:Nat} {d:D} {x:V} {r:Rg} (hr:r≠ .hb) (rel:Rel K O Δ st σ H G) (hi:i<Δ.length) (h:Rep K (rgn O G r) H d x):Rel K O (Δ.set i (mdR r)) (st.set i (some d)) (σ.set i (some x)) H G:=by
 cases r with
 |hb=>exact absurd rfl hr
 |bb=>exact rel.qI (m:=.rg .bb) .refl hi rfl h
 |fz=>exact rel.qI (m:=.rg .fz) .refl hi rfl h
theorem AR {c:Expr} (Dl:List Md) (el:γ->Ds) {b0:γ} {tst:γ->Option Bool} {step:γ->Option (Out γ γ)} {k:γ->Option (Out α β)} (hc: ∀b,PTx X Dl (el b) c (tst b)) (w:Wk Δ st Dl (el b0)) (hb: ∀b,Blk X (E.loop Dl el) Dl (el b) body (step b))
  (h: ∀b,Blk X E Dl (el b) rest (k b)) (hp:PassesOwn (model X.prog X.w) X.A X.env X.xe:=by exact PassesOwn.never):Blk X E Δ st (.While c body [] pos::rest) (whO tst step b0 k):=Gj Dl el hc w hb h hp
end
end Sw
namespace Sw
open PySem PySem.Spec PyProof.Rows L2
variable [NmC]
section
variable {α β γ:Type} {X:Cx} {E:Exits α β} {Δ:List Md} {st:Ds} {rest body:List Stmt} {a b c e o:Expr} {es:List Expr} {pos apos p2:Pos} {r rg:Rg} {m ma mb mc:VM} {ra rb rc:Option D}
def chB (f f':D->D->Option Bool) (ra rb rc:Option D):Option Bool:=ra.bind fun x=>rb.bind fun y=>(f x y).bind fun k=>if k=true then rc.bind fun z=>f' y z else some false
theorem E7 {r2 r2':R2} {f f':D->D->Option Bool} (hf:Op2 X r2 ma mb (.rg .fz) (blD f)) (hf':Op2 X r2' mb mc (.rg .fz) (blD f')) {σ:CS} {H:Hp} {O:Org} {G:Sa} {k:Bool} {Q:VK}
  (rel:Rel X.K O Δ st σ H G) (er:chB f f' ra rb rc=some k) (q: ∀H' G',Ext H G H' G'->Q (.bl k) H'):tChain r2 r2' (rdE X.K Δ st ma ra) (rdE X.K Δ st mb rb) (rdE X.K Δ st mc rc) σ H Q:=by
 obtain⟨x,y,e1,e2,e3⟩:=bO er
 obtain⟨k1,e4,e5⟩:=bind1 e3
 refine rdE.go rel e1 fun v H1 G1 rel1 x1 v1=>rdE.go rel1 e2 fun w H2 G2 rel2 x2 v2=> ?_
 refine hf O H H2 G2 x y v w (.bl k1) _ (by unfold blD;rw[e4];rfl) (v1.mono x2) (v2.back x1) rel2.gin fun u H3 G3 x3 hu=> ?_
 refine⟨k1,hu.bl,?_⟩
 cases k1 with
 |false=>
  rw[if_neg Bool.false_ne_true] at e5⊢
  cases e5
  exact q H3 G3 (x1.trans (x2.trans x3))
 |true=>
  rw[if_pos rfl] at e5⊢
  obtain⟨z,e6,e7⟩:=bind1 e5
  refine rdE.go (rel2.ext x3) e6 fun t H4 G4 rel4 x4 v4=> ?_
  exact hf' O H1 H4 G4 y z w t (.bl k) _ (by unfold blD;rw[e7];rfl) ((v2.mono x3).mono x4) (v4.back (x2.trans x3)) rel4.gin fun u5 H5 G5 x5 hu5=>by
   rw[hu5.bl];exact q H5 G5 (x1.trans (x2.trans (x3.trans (x4.trans x5))))
theorem tE {op op':CmpOp} {r2 r2':R2} {f f':D->D->Option Bool} (ho:OpR X (compareOp op) r2) (hf:Op2 X r2 ma mb (.rg .fz) (blD f)) (ho':OpR X (compareOp op') r2') (hf':Op2 X r2' mb mc (.rg .fz) (blD f')) (ha:PX X Δ st a ma ra) (hb:PX X Δ st b mb rb) (hc:PX X Δ st c mc rc)
  (hm:lastMarks [op,op'] [b,c]=false:=by with_unfolding_all rfl):PTx X Δ st (.Compare a [op,op'] [b,c] pos) (chB f f' ra rb rc):=
 yu (pt_chain ho ho' ha hb hc hm) fun σ H Q ⟨O,G,t,rel,er,k⟩=>E7 hf hf' rel er fun H' G' x=>⟨t,rfl,k H' G' x⟩
theorem GC {x:Str} {z:Str} {pos:Pos} (hm: ∃t,X.mg x=some (.str z t)) (hg:Gl X x:=by rfl) (hd:(x==("__debug__" :Str))=false:=by decide):PX X Δ st (.Name x pos) (.rg rg) (some (.str z)):=by
 obtain⟨t,hm⟩:=hm
 exact bj (pe_glob hg hm (v:=.str z) ⟨t,rfl⟩ hd) fun σ H Q ⟨O,G,d,rel,er,k⟩=>by cases er;exact k _ H G .refl qJ
def K5 (K:Frg) (x:Str) (zs:List Str):Bool:=match PySem.W.nsIn K mainGlobals x with
 |some (some (.ref p))=>match K.lookup p with
  |some o=>decide (o.cls= .type "tuple")&&match o.data with
   | .seq its _=>decide (its.size<=sizeLine)&&decide (its.toList.map (fun v=>match v with| .str y _=>some y|_=>none)=zs.map some)
   |_=>false
  |none=>false
 |_=>false
def D.inG (neg:Bool) (zs:List Str) (x:D):Option Bool:=match x with
 | .str a=>some (if neg=true then !inV (.str a) (zs.map V.str) else inV (.str a) (zs.map V.str))
 |_=>none
def D.ql (neg:Bool) (x y:D):Option Bool:=match x,y with
 | .str a,.str z=>match a.cps.toList with
  | [c]=>some (if neg=true then !decide (c∈z.cps.toList) else decide (c∈z.cps.toList))
  |_=>none
 |_,_=>none
theorem yG {neg:Bool} {x y:D} {k:Bool} (h:D.ql neg x y=some k): ∃(c:Nat) (z:Str),x= .str ⟨#[c]⟩/\y= .str z/\k=(if neg=true then !decide (c∈z.cps.toList) else decide (c∈z.cps.toList)):=by
 unfold D.ql at h
 split at h
 ·rename_i a z
  split at h
  ·rename_i c hc
   cases h
   obtain⟨⟨l⟩⟩:=a
   cases hc
   exact⟨c,z,rfl,rfl,rfl⟩
  ·cases h
 ·cases h
theorem GD:Op2 X (fun x y H Q=> ∃(c:Nat) (z:Str),x= .str ⟨#[c]⟩/\y= .str z/\Q (.bl (decide (c∈z.cps.toList))) H) (.rg r) (.rg rg) (.rg .fz) (blD (D.ql false)):=fun O H0 H G x y v w d Q e hx hy _ k=>by
 obtain⟨t,e1,rfl⟩:=gN e
 obtain⟨c,z,rfl,rfl,rfl⟩:=yG e1
 exact⟨c,z,hx.str,hy.str,k _ H G .refl kY⟩
theorem Ja:Op2 X (fun x y H Q=> ∃(c:Nat) (z:Str),x= .str ⟨#[c]⟩/\y= .str z/\Q (.bl (!decide (c∈z.cps.toList))) H) (.rg r) (.rg rg) (.rg .fz) (blD (D.ql true)):=fun O H0 H G x y v w d Q e hx hy _ k=>by
 obtain⟨t,e1,rfl⟩:=gN e
 obtain⟨c,z,rfl,rfl,rfl⟩:=yG e1
 exact⟨c,z,hx.str,hy.str,k _ H G .refl kY⟩
def D.split (x y:D):Option D:=match x,y with
 | .str a,.str b=>if (b.length==0)=false/\a.length+2<=sizeLine then some (.lst ((Txt.split a b).map D.str)) else none
 |_,_=>none
theorem rY (ho:PX X Δ st o (.rg r) ra) (he:PX X Δ st e (.rg rg) rb) (hs:starEach [e] X.env=[(false,eval e X.env)]:=by rfl) (hbase:attributeBase o "split" X.env (eval o X.env)=eval o X.env:=by rfl) (hline:(apos.endLine==pos.line)=true:=by rfl):
  PX X Δ st (.Call (.Attribute o "split" apos) [e] [] pos) (.nw (.ls .fz)) (b2 D.split ra rb):=bj (pe_split ho he hs hbase hline) fun σ H Q ⟨O,G,d,rel,er,k⟩=>by
 obtain⟨x,y,e1,e2,e3⟩:=bO er
 cases x <;> first|(cases e3;done)|skip
 cases y <;> first|(cases e3;done)|skip
 rename_i u w
 obtain⟨⟨h1,h2⟩,rfl⟩:=aM (show (if (w.length==0)=false/\u.length+2<=sizeLine then some (D.lst ((Txt.split u w).map D.str)) else none)=some d from e3)
 refine rdE.go rel e1 fun v H1 G1 rel1 x1 v1=>⟨⟨u,v1.str⟩,rdE.go rel1 e2 fun v' H2 G2 rel2 x2 v2=> ?_⟩
 exact⟨u,w,v1.str,by rw[v2.str],h1,h2,fun p hp=>k _ _ G2 ((x1.trans x2).trans (.new hp)) (bh.back (x1.trans x2) (wm hp rel2.gin (yF _)))⟩
def D.part (x y:D):Option D:=match x,y with
 | .str a,.str b=>if (b.length==0)=false/\a.length<=sizeLine then some (.tup [.str (Txt.partition a b).1,.str (Txt.partition a b).2.1,.str (Txt.partition a b).2.2]) else none
 |_,_=>none
theorem Jb (ho:PX X Δ st o (.rg r) ra) (he:PX X Δ st e (.rg rg) rb) (hs:starEach [e] X.env=[(false,eval e X.env)]:=by rfl) (hbase:attributeBase o "partition" X.env (eval o X.env)=eval o X.env:=by rfl) (hline:(apos.endLine==pos.line)=true:=by rfl):
  PX X Δ st (.Call (.Attribute o "partition" apos) [e] [] pos) (.rg .fz) (b2 D.part ra rb):=bj (pe_partition ho he hs hbase hline) fun σ H Q ⟨O,G,d,rel,er,k⟩=>by
 obtain⟨x,y,e1,e2,e3⟩:=bO er
 cases x <;> first|(cases e3;done)|skip
 cases y <;> first|(cases e3;done)|skip
 rename_i u w
 obtain⟨⟨h1,h2⟩,rfl⟩:=aM (show (if (w.length==0)=false/\u.length<=sizeLine then some (D.tup [.str (Txt.partition u w).1,.str (Txt.partition u w).2.1,.str (Txt.partition u w).2.2]) else none)=some d from e3)
 refine rdE.go rel e1 fun v H1 G1 rel1 x1 v1=>⟨⟨u,v1.str⟩,rdE.go rel1 e2 fun v' H2 G2 rel2 x2 v2=> ?_⟩
 refine⟨u,w,v1.str,by rw[v2.str],h1,h2,fun p hp=>k _ _ _ ((x1.trans x2).trans (.LQ hp)) ?_⟩
 unfold bh Rep
 exact⟨p,_,rfl,⟨.inr rfl,upd_same⟩,.cons (by unfold Rep;rfl) (.cons (by unfold Rep;rfl) (.cons (by unfold Rep;rfl) .nil))⟩
def D.Cj:D->Option D
 | .int i=>if i.natAbs.log2<1920 then some (.str (toString i)) else none
 |_=>none
theorem Mg:OpN X (fun xs H Q=> ∃i,xs=[.int i]/\i.natAbs.log2<1920/\Q (.str (toString i)) H) [.rg r] (.rg rg) (un1 D.Cj):=fun O H0 H G xs vs d Q e hv gin k=>by
 obtain⟨x,rfl,e1⟩:=mK e
 obtain⟨v,rfl,h1⟩:=Cd hv
 cases x <;> first|(cases e1;done)|skip
 rename_i i
 obtain⟨h2,rfl⟩:=aM (show (if i.natAbs.log2<1920 then some (D.str (toString i)) else none)=some d from e1)
 exact⟨i,by rw[h1.int],h2,k _ H G .refl qJ⟩
def D.qm:D->Option D
 | .str a=>if a.length<=640 then (PySem.intText? a).map D.int else none
 |_=>none
theorem Ck:OpN X (fun xs H Q=> ∃a n,xs=[.str a]/\PySem.intText? a=some n/\a.length<=640/\Q (.int n) H) [.rg r] (.rg rg) (un1 D.qm):=fun O H0 H G xs vs d Q e hv gin k=>by
 obtain⟨x,rfl,e1⟩:=mK e
 obtain⟨v,rfl,h1⟩:=Cd hv
 cases x <;> first|(cases e1;done)|skip
 rename_i a
 have e1:(if a.length<=640 then (PySem.intText? a).map D.int else none)=some d:=e1
 by_cases z:a.length<=640
 ·rw[if_pos z] at e1
  cases q:PySem.intText? a with
  |none=>rw[q] at e1;cases e1
  |some n=>
   rw[q] at e1;cases e1
   exact⟨a,n,by rw[h1.str],q,z,k _ H G .refl jt⟩
 ·rw[if_neg z] at e1;cases e1
end
end Sw
namespace Sw
open PySem PySem.Spec PyProof.Rows L2
variable [NmC]
section
variable {α β γ δ:Type} {X:Cx} {E:Exits α β} {Δ:List Md} {st:Ds} {rest body orelse:List Stmt} {e:Expr} {pos:Pos} {r:Rg} {ra:Option D} {tg:Expr}
def D.pr3:D->Option (D×D×D)
 | .tup [a,b,c]=>some (a,b,c)
 |_=>none
theorem DV (i j l:Nat) (Δ':List Md) (st':D×D×D->Ds) {k:D×D×D->Option (Out α β)} (he:PX X Δ st e (.rg r) ra) (hr:r≠ .hb) (hg:PG X tg (gTup X.K 3 (gCons (gName i) (gCons (gName j) (gCons (gName l) gNil))))) (h: ∀d,Blk X E Δ' (st' d) rest (k d))
  (e1:((Δ.set i (mdR r)).set j (mdR r)).set l (mdR r)=Δ':=by rfl) (e2: ∀d:D×D×D,((st.set i (some d.1)).set j (some d.2.1)).set l (some d.2.2)=st' d:=by intro _;rfl) (hi:i<Δ.length:=by exact Nat.le_of_ble_eq_true rfl) (hj:j<Δ.length:=by exact Nat.le_of_ble_eq_true rfl) (hl:l<Δ.length:=by exact Nat.le_of_ble_eq_true rfl)
  (hs1:swapsWithSole [tg] e pos.line X.env=pure false:=by rfl) (hw:swappedStores [tg] e X.env=pure none:=by rfl) (h1:(assignEach [tg] X.env).map (·.2)=[assign tg X.env]:=by rfl):
  Blk X E Δ st (.Assign [tg] e pos::rest) ((b1 D.pr3 ra).bind k):=by
 refine cV (pss_cons (ps_asg he hg hs1 hw h1) (fJ h)) fun De σ H ⟨O,G,qq,rel,er,kk⟩=> ?_
 obtain⟨p,e3,e4⟩:=bind1 er
 obtain⟨x,e5,e6⟩:=bind1 e3
 refine rdE.go rel e5 fun v H1 G1 rel1 x1 v1=> ?_
 have hp:x= .tup [p.1,p.2.1,p.2.2]:=by
  match x,e6 with
  | .tup [a,b,c],e6=>cases e6;rfl
 subst hp
 have v1:Rep X.K (rgn O G1 r) H1 (.tup [p.1,p.2.1,p.2.2]) v:=v1
 unfold Rep at v1
 obtain⟨a,vs,rfl,t,rr⟩:=v1
 unfold aE at rr
 obtain⟨u,vs0,rfl,r1,rr⟩:=rr
 unfold aE at rr
 obtain⟨w,vs1,rfl,r2,rr⟩:=rr
 unfold aE at rr
 obtain⟨z,vs2,rfl,r3,rr⟩:=rr
 unfold aE at rr
 subst rr
 refine⟨a,[u,w,z],rfl,t.sq,rfl,u,[w,z],rfl,w,[z],rfl,z,[],rfl,rfl,p,O,G1,qq,?_,e4,kk⟩
 rw[<-e1,←e2]
 exact wF hr (wF hr (wF hr rel1 hi r1) (by simpa using hj) r2) (by simpa using hl) r3
end
section
variable {X:Cx} {Δ:List Md} {st:Ds} {a b c d e:Expr} {pos:Pos}
theorem Jc {x1:Nat} {ra rb rc rd:Option D} (h:PAx X Δ st [a,b,c,d] [.rg .fz,.rg .fz,.rg .fz,.rg .fz] (aj ra (aj rb (aj rc (aj rd aU))))):PX X Δ st (.Tuple [a,b,c,d] x1 pos) (.rg .fz) (tupO (aj ra (aj rb (aj rc (aj rd aU))))):=Gn h Ci (by simp) fun ds e=>by
 obtain⟨x,y,e1,e2,e3⟩:=bO e
 obtain⟨z,w,e4,e5,e6⟩:=bO e2
 obtain⟨u,v,e7,e8,e9⟩:=bO e5
 obtain⟨p,q,f1,f2,f3⟩:=bO e8
 cases f2;cases f3;cases e9;cases e6;cases e3;simp
end
def SaysX (fa:List He.Fa) (fn:List He.DefD) (tp:List (Str×List Str)) (K:PySem.W.Frag):Prop:=He.SaysD fa fn K/\(tp.all fun p=>K5 K p.1 p.2)=true
theorem SaysX.tup {fa:List He.Fa} {fn:List He.DefD} {tp:List (Str×List Str)} {K:PySem.W.Frag} (c:SaysX fa fn tp K) (i:Nat) {x:Str} {zs:List Str} (h:tp[i]? =some (x,zs):=by rfl):K5 K x zs=true:=List.all_eq_true.mp c.2 _ (List.mem_of_getElem? h)
end Sw
namespace Sw
open PySem PySem.Spec PyProof.Rows L2
variable [NmC]
section
variable {α β γ:Type} {X:Cx} {E:Exits α β} {Δ:List Md} {st:Ds} {rest body:List Stmt} {a b c e o:Expr} {es:List Expr} {pos apos cpos:Pos} {r rg:Rg} {m ma mb mc:VM} {ra rb rc:Option D}
theorem DW:OpR X (binaryOp .Mult) (fun x y H Q=> ∃(a:Str) (i:Int),x= .str a/\y= .int i/\MulOk a i/\Q (.str (Txt.mul a i)) H):=by
 intro pins s σ H x y v u Q I rx ry h
 obtain⟨a,i,rfl,rfl,ok,q⟩:=h
 obtain⟨t,rfl⟩:=rx
 obtain⟨t',rfl⟩:=ry
 exact SB.mul ok fun t2 k=>⟨.str _,H,I.tok _,⟨_,rfl⟩,q⟩
noncomputable def D.qo (x y:D):Option D:=match x,y with
 | .str a,.int i=>cif (MulOk a i) (.str (Txt.mul a i))
 |_,_=>none
theorem GF:Op2 X (fun x y H Q=> ∃(a:Str) (i:Int),x= .str a/\y= .int i/\MulOk a i/\Q (.str (Txt.mul a i)) H) (.rg r) (.rg r') (.rg rg) D.qo:=fun O H0 H G x y v w d Q e hx hy _ k=>by
 cases x <;> first|(cases e;done)|skip
 cases y <;> first|(cases e;done)|skip
 rename_i a i
 obtain⟨ok,rfl⟩:=rQ (show cif (MulOk a i) (D.str (Txt.mul a i))=some d from e)
 exact⟨a,i,hx.str,hy.int,ok,k _ H G .refl qJ⟩
theorem GG {K:Frg} {O:Org} {σ:CS} {H:Hp} {G:Sa} {i:Nat} {md:Md} {d:D} (rel:Rel K O Δ st σ H G) (hm:Δ[i]? =some md) (hd:st[i]? =some (some d)): ∃v,σ[i]? =some (some v)/\Rep K (fun _=>True) H d v:=by
 obtain⟨L,g,s⟩:=rel
 obtain⟨x',y',L1,L2,ex,ey,sr,pm,_⟩:=s.split hm
 rw[hd] at ex;cases ex
 cases md with
 |bo=>obtain⟨v,e1,r1,_⟩:=sr;subst e1;exact⟨v,ey,Rep.mono (fun _ _=>trivial) aC _ _ r1⟩
 |fz=>obtain⟨v,e1,r1,_⟩:=sr;subst e1;exact⟨v,ey,Rep.mono (fun _ _=>trivial) aC _ _ r1⟩
 |ow s=>obtain⟨v,e1,r1⟩:=sr;subst e1;exact⟨v,ey,Rep.mono (fun _ _=>trivial) aC _ _ (Own.rep _ _ _ _ r1)⟩
 |pn v s=>obtain⟨e1,r1⟩:=sr;subst e1;exact⟨v,ey,Rep.mono (fun _ _=>trivial) aC _ _ (Own.rep _ _ _ _ r1)⟩
 |bl=>obtain⟨v,e1,r1,_⟩:=sr;subst e1;exact⟨v,ey,r1.rep⟩
theorem Jd (i:Nat) (Δ':List Md) (st':D->Ds) {op:Operator} {fI:Int->Int->Int} {fD:D->D->Option D} (hip:PIp X op (ipI fI)) (hfD: ∀x y d,fD x y=some d-> ∃p q,x= .int p/\y= .int q/\d= .int (fI p q)) {x:Str} {p':Pos} {md:Md} {d0:D} {k:D->Option (Out α β)} (he:PX X Δ st e (.rg r) ra) (h: ∀d,Blk X E Δ' (st' d) rest (k d)) (hx:Loc X.env.scope x) (hnd:X.N.Nodup) (hm:Δ[i]? =some md:=by rfl) (hd:st[i]? =some (some d0):=by rfl) (e1:Δ.set i .fz=Δ':=by rfl) (e2: ∀d,st.set i (some d)=st' d:=by intro _;rfl) (hi:i<Δ.length:=by exact Nat.le_of_ble_eq_true rfl) (hN:X.N[i]? =some x:=by rfl)
  (hf:X.fn x=true\/X.env.scope.names.lookup x=some .local:=by first|exact .inl rfl|exact .inr rfl|assumption):
  Blk X E Δ st (.AugAssign (.Name x p') op e pos::rest) ((b2 fD (some d0) ra).bind k):=
 cV (pss_cons (ps_aug hnd hN hx he hip hf) (fJ h)) fun De σ H ⟨O,G,qq,rel,er,kk⟩=>by
  obtain⟨d,e3,e4⟩:=bind1 er
  obtain⟨y,z,e5,e6,e7⟩:=bO e3
  cases e5
  obtain⟨p,q,rfl,rfl,rfl⟩:=hfD _ _ _ e7
  obtain⟨v,ev,rv⟩:=GG rel hm hd
  unfold Rep at rv
  subst rv
  refine⟨_,ev,rdE.go rel e6 fun u H1 G1 rel1 x1 v1=>⟨p,q,rfl,v1.int,.int (fI p q),O,G1,qq,?_,e4,kk⟩⟩
  rw[<-e1,←e2]
  exact rel1.qI (m:=.rg .fz) .refl hi rfl jt
theorem Mh (x y d:D) (h:D.bP x y=some d): ∃p q,x= .int p/\y= .int q/\d= .int (p+q):=by
 cases x <;> cases y <;> first|(cases h;done)|(cases h;exact⟨_,_,rfl,rfl,rfl⟩)
end
end Sw
namespace Sw
open PySem PySem.Spec PyProof.Rows L2
variable [NmC]
def Mi (ks ls:List (Key×D)):Bool:=decide (ks.length=ls.length)&&ks.all fun p=>match aG ls p.1,p.2 with
 |some (.dct b),.dct a=>Om a b
 |_,_=>false
end Sw
namespace Sw
open PySem PySem.Spec PyProof.Rows L2
variable [NmC]
section
variable {α β γ:Type}
theorem cg {A B:Type} {o:Option A} {f:A->B} {b:B} (h:o.map f=some b): ∃a,o=some a/\f a=b:=by
 cases o with
 |none=>cases h
 |some a=>exact⟨a,rfl,Option.some.inj h⟩
variable {X:Cx} {E:Exits α β} {Δ Dl:List Md} {st:Ds} {rest body:List Stmt} {pos p p1:Pos} {x y:Str} {i j:Nat} {md mi:Md} {s:Sh}
end
end Sw
namespace Sw
open PySem PySem.Spec PyProof.Rows L2
variable [NmC]
theorem GH (m:Nat) (owner:Array (Option Nat)): ∀(f n i b:Nat),n<f->oAt owner (itL m i b n).1=none-> ∃j,SetTable.layClean.free m owner f i b=some j/\oAt owner j=none
 |0,n,i,b,hn,_=>by omega
 |f+1,n,i,b,hn,hx=>by
  rw[free_succ]
  cases e:(List.range (SetTable.runEnd m i+1 -i)).find? fun k=>(oAt owner (i+k)).isNone with
  |some k=>
   refine⟨i+k,rfl,?_⟩
   have:=List.find?_some e
   simpa using this
  |none=>
   cases n with
   |zero=>
    exfalso
    have h0:0∈List.range (SetTable.runEnd m i+1 -i):=List.mem_range.mpr (by have:=runEnd_ge m i;omega)
    have:=List.find?_eq_none.mp e 0 h0
    apply this
    show (oAt owner (i+0)).isNone=true
    rw[Nat.add_zero,show oAt owner i=none from hx];rfl
   |succ n=>
    exact GH m owner f n _ _ (by omega) hx
structure Oo (m:Nat) (n:Nat) (owner:Array (Option Nat)) (ps:List Nat):Prop where
 sz:owner.size=m+1
 nd:ps.Nodup
 len:ps.length=n
 tk: ∀j,j∈ps↔j<=m/\oAt owner j≠none
 lt: ∀j k,j<=m->oAt owner j=some k->k<n
 all: ∀k,k<n-> ∃j,j<=m/\oAt owner j=some k
theorem Oo.zero (m:Nat):Oo m 0 (Array.replicate (m+1) none) [] where
 sz:=by simp
 nd:=List.nodup_nil
 len:=rfl
 tk:=fun j=>⟨fun h=>(by cases h),fun⟨h,g⟩=>absurd (oAt_init h) g⟩
 lt:=fun j k h e=>by rw[oAt_init h] at e;cases e
 all:=fun k h=>by omega
end Sw
namespace Sw
open PySem PySem.Spec PyProof.Rows L2
variable [NmC]
def Je (e:Int×Value):Str:=match e.2 with
 | .str x _=>x
 |_=>""
def Mj (w:World) (e:Int×Value):Prop:= ∃x tk,e.2=Value.str x tk/\e.1=keyH w (.inr x)
structure uW (w:World) (h:Heap) (a:Addr) (es:Array (Int×Value)) (ep:Nat) (t:SetTable) (ks:List Str):Prop where
 ob: ∃o,h.get? a=some o/\o.ExactSet/\o.data= .set es ep t
 rows: ∀e∈es.toList,Mj w e
 keys:(es.toList.map Je).Perm ks
 nd:ks.Nodup
 few:ks.length<1000
 fits:t.fits es.size=true
 ris:Ris t.place.toList
 led:w.params.followText "set-order" =true\/t.led=true
section
variable {P:Program} {w:World} {A:Around} {E:Value->Shared->Prop} {s:Shared} {a:Addr} {es:Array (Int×Value)} {ep:Nat} {t:SetTable} {ks:List Str}
theorem uW.size {h:Heap} (R:uW w h a es ep t ks):es.size=ks.length:=by
 rw[<-R.keys.length_eq,List.length_map,Array.length_toList]
theorem uW.lt {h:Heap} (R:uW w h a es ep t ks):es.size<scanBound:=by
 rw[R.size];have:=R.few;unfold scanBound;omega
theorem Mj.is {e:Int×Value} (h:Mj w e) (x:Str):(mixKind P w).is (.inr x) e.2=true↔Je e=x:=by
 obtain⟨y,tk,h1,_⟩:=h
 have hy:(mixKind P w).is (.inr y) e.2=true:=by rw[h1];exact mixKind_str P w y tk
 have er:Je e=y:=by unfold Je;rw[h1]
 rw[er]
 constructor
 ·intro q
  have:=(mixKind P w).inj e.2 _ _ q hy
  exact (Sum.inr.inj this).symm
 ·rintro rfl;exact hy
theorem uW.at {h h':Heap} (R:uW w h a es ep t ks) (k: ∀o,h.get? a=some o->h'.get? a=some o):uW w h' a es ep t ks:=by
 obtain⟨⟨o,ho,r⟩,r2,r3,r4,r5,r6,r7,r8⟩:=R
 exact⟨⟨o,k o ho,r⟩,r2,r3,r4,r5,r6,r7,r8⟩
end
end Sw
namespace Sw
open PySem PySem.Spec PyProof.Rows L2
variable [NmC]
section
variable {P:Program} {w:World} {A:Around} {E:Value->Shared->Prop} {s:Shared} {a b:Addr} {es eo:Array (Int×Value)} {ep epo:Nat} {t to:SetTable} {ks js:List Str}
theorem uW.other {h h':Heap} (R:uW w h b eo epo to js) (hne:b≠a) (sb:Heap.SameBut a h h'):uW w h' b eo epo to js:=R.at fun o e=>(sb.2 b hne).trans e
end
end Sw
namespace Sw
open PySem PySem.Spec PyProof.Rows L2
variable [NmC]
section
variable {P:Program} {w:World} {A:Around} {E:Value->Shared->Prop} {s:Shared} {a b d:Addr} {es eo:Array (Int×Value)} {ep epo:Nat} {t to:SetTable} {ks js:List Str}
theorem uW.ty {h:Heap} (R:uW w h a es ep t ks) {g:Array GenState} {dr:Drawn} {tk:Nat} {os:OsState}:Shared.TypeIs ⟨h,g,dr,tk,os⟩ (.ref a) "set" :=by
 obtain⟨⟨o,ho,hx,_⟩,_⟩:=R
 exact⟨o,ho,hx.1⟩
end
end Sw
namespace Sw
open PySem PySem.Spec PyProof.Rows L2
variable [NmC]
section
variable {K:Frg} {S:Sa} {H:Hp}
def GI (H:Hp) (T:Sa) (L:List Addr):List (Str×List Str)->List V->Prop
 | [],vs=>vs=[]
 |p::ps,vs=> ∃t b r,vs= .ref t::r/\T t/\H t=some (.tup [.str p.1,.ref b])/\b∈L/\H b=some (.lst (p.2.map V.str))/\GI H T L ps r
theorem GI.more {T:Sa} {L L':List Addr} (s: ∀p∈L,p∈L'): ∀{ps:List (Str×List Str)} {vs:List V},GI H T L ps vs->GI H T L' ps vs
 | [],_,h=>h
 |p::ps,_,⟨t,b,r,e,h1,h2,h3,h4,h5⟩=>⟨t,b,r,e,h1,h2,s b h3,h4,GI.more s h5⟩
end
end Sw
namespace Sw
open PySem PySem.Spec PyProof.Rows L2
variable [NmC]
section
variable {P:Program} {w:World} {A:Around} {E:Value->Shared->Prop} {s:Shared} {a:Addr}
structure Same (ls xs:List Str):Prop where
 nd:ls.Nodup
 mem: ∀z,z∈ls↔z∈xs
end
theorem Same.len {ls ms xs:List Str} (h:Same ls xs) (g:Same ms xs):ls.length=ms.length:=
 ((List.perm_ext_iff_of_nodup h.nd g.nd).mpr fun z=>(h.mem z).trans (g.mem z).symm).length_eq
end Sw
namespace Sw
open PySem PySem.Spec PyProof.Rows L2
variable [NmC]
section
variable {K:Frg} {S G G' B B':Sa} {H H':Hp}
theorem fg.get (f:Str): ∀{ds:List (Str×D)} {vs:List (Str×V)},fg K S H ds vs->(∀d,ds.lookup f=some d-> ∃v,vs.lookup f=some v/\Rep K S H d v)/\(ds.lookup f=none->vs.lookup f=none)
 | [],_,h=>by
  unfold fg at h
  rw[h]
  exact⟨fun d e=>(nomatch e),fun _=>rfl⟩
 |(g,d)::ds,_,h=>by
  unfold fg at h
  obtain⟨v,r,rfl,h1,h2⟩:=h
  have ih:=fg.get f h2
  cases hb:(f==g) with
  |true=>
   simp only[List.lookup_cons,hb]
   exact⟨fun d' e=>⟨v,rfl,(Option.some.inj e)▸h1⟩,fun e=>nomatch e⟩
  |false=>
   simp only[List.lookup_cons,hb]
   exact ih
theorem Rep.ins {C:Str} {fs:List (Str×D)} {v:V} (h:Rep K S H (.ins C fs) v): ∃a dx vs,v= .ref a/\H a=some (.ins (He.ga K C) dx vs)/\fg K S H fs vs:=by
 unfold Rep at h
 obtain⟨a,dx,vs,e,_,ha,r⟩:=h
 exact⟨a,dx,vs,e,ha,r⟩
end
def D.fld (C f:Str) (x:D):Option D:=match x with
 | .ins C' fs=>if C'=C then fs.lookup f else none
 |_=>none
def Oq (m:Str) (tbl:List (Str×(List D->Option FR))) (ds:List D):Option FR:=match ds with
 | .ins C fs::r=>if (fs.lookup m).isNone=true then (tbl.lookup C).bind fun F=>F (.ins C fs::r) else none
 |_=>none
structure Mth (P:Program) (w:World) (K:Frg) (mg:Str->Option Value) (base:Heap) (k:Nat) (m:Str) (ps:List Str) (ms:List PM) (rm:VM) (Fs:List D->Option FR):Prop where
 at_: ∀ds fr,Fs ds=some fr-> ∃(C:Str) (fs:List (Str×D)) (r:List D) (f:Addr) (fd:FuncData) (F:List D->Option FR),ds= .ins C fs::r/\fs.lookup m=none/\Cls K (He.ga K C)/\Meth K (He.ga K C) m f∧
  FnOk P w K mg base CX0 k f fd ps (FSp K ms rm F)/\Binds K fd ps []/\F ds=some fr
structure Qn (P:Program) (w:World) (K:Frg) (mg:Str->Option Value) (base:Heap) (k:Nat) (C m:Str) (ps:List Str) (ms:List PM) (rm:VM) (F:List D->Option FR):Prop where
 cl:Cls K (He.ga K C)
 ok: ∃(f:Addr) (fd:FuncData),Meth K (He.ga K C) m f/\FnOk P w K mg base CX0 k f fd ps (FSp K ms rm F)/\Binds K fd ps []
section
variable {P:Program} {w:World} {K:Frg} {mg:Str->Option Value} {base:Heap} {k k':Nat} {m:Str} {ps:List Str} {ms:List PM} {rm:VM} {tbl:List (Str×(List D->Option FR))}
theorem Mth.of (h: ∀q∈tbl,Qn P w K mg base k q.1 m ps ms rm q.2):Mth P w K mg base k m ps ms rm (Oq m tbl) where
 at_:=fun ds fr e=>by
  unfold Oq at e
  split at e
  ·rename_i C fs r
   split at e
   ·rename_i hn
    obtain⟨F,e1,e2⟩:=bind1 e
    have hin:(C,F)∈tbl:=by
     clear e h
     induction tbl with
     |nil=>cases e1
     |cons q t ih=>
      obtain⟨C',F'⟩:=q
      cases hb:(C==C') with
      |true=>
       simp only[List.lookup_cons,hb] at e1
       cases e1
       rw[beq_iff_eq] at hb
       subst hb
       exact List.mem_cons_self
      |false=>
       simp only[List.lookup_cons,hb] at e1
       exact List.mem_cons_of_mem _ (ih e1)
    obtain⟨c,f,fd,h1,h2,h3⟩:=h _ hin
    exact⟨C,fs,r,f,fd,F,rfl,by simpa using hn,c,h1,h2,h3,e2⟩
   ·cases e
  ·cases e
theorem Mth.none:Mth P w K mg base k m ps ms rm (fun _=>none):=⟨fun _ _ e=>nomatch e⟩
end
end Sw
namespace Sw
open PySem PySem.Spec PyProof.Rows L2
variable [NmC]
def Md.re:Md->Sh->Md
 | .ow _,s=>.ow s
 | .pn v _,s=>.pn v s
 |m,_=>m
def GJ (f:Str) (s:Sh):List (Str×Sh)->List (Str×Sh)
 | []=>[(f,s)]
 |(g,y)::r=>if g=f then (g,s)::r else (g,y)::GJ f s r
section
variable {K:Frg} {O:Org} {H H':Hp} {G G':Sa} {Δ:List Md} {st:Ds} {σ:CS} {i:Nat} {md:Md} {s s':Sh} {d d':D} {v0 v:V} {L Lv:List Addr}
theorem dH.put {f:Str} {x:D} {w:V} {Lw:List Addr} (hx:Own K G' H' s' x w Lw) (hG: ∀p,G p->G' p) (ha:Agr G H H'): ∀{fs:List (Str×Sh)} {ds:List (Str×D)} {vs:List (Str×V)} {L:List Addr},(∀p∈L,H' p=H p)->dH K G H fs ds vs L→
  ∃L' M,M.Sublist L/\L'.Perm (Lw++M)/\dH K G' H' (GJ f s' fs) (tj f x ds) (putF f w vs) L'
 | [],ds,vs,L,_,o=>by
  unfold dH at o
  obtain⟨rfl,rfl,rfl⟩:=o
  refine⟨Lw++[],[],List.Sublist.refl _,.refl _,?_⟩
  unfold GJ tj putF dH
  refine⟨x,[],w,[],Lw,[],rfl,rfl,hx,?_,rfl⟩
  unfold dH
  exact⟨rfl,rfl,rfl⟩
 |(g,s0)::fs,ds,vs,L,hl,o=>by
  unfold dH at o
  obtain⟨d1,dr,v1,vr,L1,L2,rfl,rfl,o1,o2,rfl⟩:=o
  by_cases e:g=f
  ·refine⟨Lw++L2,L2,List.sublist_append_right _ _,.refl _,?_⟩
   unfold GJ tj putF
   rw[if_pos e,if_pos e,if_pos e]
   unfold dH
   exact⟨x,dr,w,vr,Lw,L2,rfl,rfl,hx,dH.mono hG ha fs dr vr L2 (fun p m=>hl p (List.mem_append_right _ m)) o2,rfl⟩
  ·obtain⟨L',M,sl,pm,o'⟩:=dH.put (f:=f) hx hG ha (fun p m=>hl p (List.mem_append_right _ m)) o2
   refine⟨L1++L',L1++M,List.Sublist.append (List.Sublist.refl _) sl,(List.Perm.append_left L1 pm).trans (fh L1 Lw M),?_⟩
   unfold GJ tj putF
   rw[if_neg e,if_neg e,if_neg e]
   unfold dH
   exact⟨d1,_,v1,_,L1,L',rfl,rfl,Own.mono hG ha s0 d1 v1 L1 (fun p m=>hl p (List.mem_append_left _ m)) o1,o',rfl⟩
end
end Sw
namespace Sw
open PySem PySem.Spec PyProof.Rows L2
variable [NmC]
def GK (fa:List He.Fa) (fn:List He.DefD) (ex:Frg->Bool) (K:Frg):Prop:=He.SaysD fa fn K/\ex K=true
end Sw
namespace Sw
open PySem PySem.Spec PyProof.Rows L2
variable [NmC]
section
variable {P:Program} {w:World} {K:Frg} {mg:Str->Option Value} {base:Heap} {k k':Nat} {C C1 C2 m:Str} {ps:List Str} {ms:List PM} {rm:VM} {F F1 F2:List D->Option FR} {f:Addr} {fd:FuncData}
theorem GK.ex {fa:List He.Fa} {fn:List He.DefD} {xs:List (Frg->Bool)} (c:GK fa fn (fun K=>xs.all fun f=>f K) K) (i:Nat) {g:Frg->Bool} (h:xs[i]? =some g:=by rfl):g K=true:=List.all_eq_true.mp c.2 _ (List.mem_of_getElem? h)
end
end Sw
namespace Sw
open PySem PySem.Spec PyProof.Rows L2
variable [NmC]
section
variable {α β:Type} {X:Cx} {E:Exits α β} {Δ:List Md} {st:Ds} {rest:List Stmt} {e tg a b c:Expr} {pos p:Pos} {r r2' r3 rg:Rg}
noncomputable def D.Rk (xs:List D):Option (List D):=match xs with
 | [.int i,.int j,.int c]=>if (okR i&&okR j&&decide (c=2))=true then some ((List.range ((j -i+1)/2).toNat).map fun k:Nat=>D.int (i+(k:Nat)*2)) else none
 |_=>none
def D.E8:D->Option D
 | .int i=>some (.int (if i<0 then -i else i))
 |_=>none
theorem Ml:OpN X (fun xs H Q=> ∃i,xs=[.int i]/\Q (.int (if i<0 then -i else i)) H) [.rg r] (.rg rg) (un1 D.E8):=fun O H0 H G xs vs d Q e hv gin k=>by
 obtain⟨x,rfl,e1⟩:=mK e
 obtain⟨v,rfl,h1⟩:=Cd hv
 cases x <;> first|(cases e1;done)|skip
 rename_i t
 cases (show some (D.int (if t<0 then -t else t))=some d from e1)
 exact⟨t,by rw[h1.int],k _ H G .refl jt⟩
end
end Sw
namespace Sw
open PySem PySem.Spec PyProof.Rows L2
section
variable {X:Cx} {pins:List (Addr×Obj)} {σ:L2.St} {JH:Hp->Prop} {a q I S:Addr} {xs:List V} {kf:Nat->Int} {Q:VK}
structure MxI (X:Cx) (pins:List (Addr×Obj)) (σ:L2.St) (JH:Hp->Prop) (I S:Addr) (oI oS:Obj) (H:Hp) (s:Shared):Prop where
 inv:Inv X pins σ H s
 j:JH H
 fI:FpOk X pins H I
 fS:FpOk X pins H S
 gI:s.heap.get? I=some oI
 gS:s.heap.get? S=some oS
theorem MxI.turn {oI oS oI' oS':Obj} {H:Hp} {s:Shared} {h':Heap} {tk:Nat} (m:MxI X pins σ JH I S oI oS H s) (k: ∀b o,b∉[I,S]->s.heap.get? b=some o->h'.get? b=some o) (eI:h'.get? I=some oI') (eS:h'.get? S=some oS'):
  MxI X pins σ JH I S oI' oS' H {s with heap:=h',toks:=tk}:=
 ⟨m.inv.turnedL k (fun b hb=>by
  rcases List.mem_cons.mp hb with rfl|hb
  ·exact m.fI
  ·rw[List.mem_singleton.mp hb];exact m.fS),m.j,m.fI,m.fS,eI,eS⟩
theorem MxI.call {oI oS:Obj} {H:Hp} {s:Shared} {i:Nat} {v:Value} {E:Value->Shared->Prop} {P:Value->Shared->Prop} (m:MxI X pins σ JH I S oI oS H s) (nI: ∀v,oI.data≠ .cell v) (nS: ∀v,oS.data≠ .cell v)
  (turn: ∀(pins1:List (Addr×Obj)) (H1:Hp) (s1:Shared),(∀p∈pins,p∈pins1)->Inv X pins1 σ H1 s1->JH H1->wpAny (model X.prog X.w) X.A.in1 (PySem.call (.ref q) [v]) (EP X pins1 σ fun y H2=>y= .int (kf i)/\JH H2) (fun _ _=>False) s1)
  (h: ∀(t:Tok) (H2:Hp) (s2:Shared),MxI X pins σ JH I S oI oS H2 s2->P (.int (kf i) t) s2):
  wpAny (model X.prog X.w) X.A.in1 (PySem.call (.ref q) [v]) P E s:=by
 have J:=m.inv.pinned (fp:=[I,S]) (fun b hb=>by
  rcases List.mem_cons.mp hb with rfl|hb
  ·exact m.fI
  ·rw[List.mem_singleton.mp hb];exact m.fS) (fun b hb=>by
  rcases List.mem_cons.mp hb with rfl|hb
  ·exact⟨oI,m.gI,nI⟩
  ·rw[List.mem_singleton.mp hb];exact⟨oS,m.gS,nS⟩)
 refine wpAny_mono (turn _ H s (fun p hp=>List.mem_append_left _ hp) J m.j) (fun u s2 hq=> ?_) fun _ _ hF=>hF.elim
 obtain⟨y,H2,J2,r,e,j2⟩:=hq
 subst e
 obtain⟨t,rfl⟩:=r
 have pin: ∀b o,b∈[I,S]->s.heap.get? b=some o->s2.heap.get? b=some o/\H2 b=none:=fun b o hb e=>
  let z:=J2.pin (b,o) (List.mem_append_right _ (List.mem_append_right _ (mem_pinsAt hb e)))
  ⟨z.1,z.2.1⟩
 have pI:=pin I oI (by simp) m.gI
 have pS:=pin S oS (by simp) m.gS
 exact h t H2 s2 ⟨J2.unpinned,j2,⟨pI.2,m.fI.2⟩,⟨pS.2,m.fS.2⟩,pI.1,pS.1⟩
end
end Sw
namespace Sw
open PySem PySem.Spec PyProof.Rows L2
abbrev LF.nf (F:LF):NdefX.NF:=⟨"<lambda>",F.q,F.params,[],F.scope,F.cl,F.c⟩
end Sw
namespace Sw
open PySem PySem.Spec PyProof.Rows L2
section
variable [NmC]
structure TabAt (base:Heap) (mg:Str->Option Value) (cdv:Value) (q:Str) (c P:Addr):Prop where
 code:cdv= .ref c
 tb:LamX.TabB base mg c P
 mem:(P,q)∈NmC.T
 uni: ∀p∈NmC.T,p.1=P->p.2=q
def pz (base:Heap) (mg:Str->Option Value) (cdv:Value) (q:Str):Prop:= ∃c P,TabAt base mg cdv q c P
end
def qB (K:Frg) (tf:List (He.Defn×Str)):List (Addr×Str):=tf.map fun p=>((He.cT K p.1).2,p.2)
theorem GL {K:Frg} {tf:List (He.Defn×Str)} (h:DI K tf=true) {p:He.Defn×Str} (hp:p∈tf): ∀q∈qB K tf,q.1=(He.cT K p.1).2->q.2=p.2:=fun q hq e=>by
 obtain⟨r,hr,rfl⟩:=List.mem_map.mp hq
 have nd:=of_decide_eq_true h
 obtain⟨i,hi,ei⟩:=List.mem_iff_getElem.mp hr
 obtain⟨j,hj,ej⟩:=List.mem_iff_getElem.mp hp
 have pw:=List.pairwise_iff_getElem.mp nd
 have hl:(tf.map fun p=>(He.cT K p.1).2).length=tf.length:=List.length_map ..
 have e:(He.cT K r.1).2=(He.cT K p.1).2:=e
 rcases Nat.lt_trichotomy i j with l|l|l
 ·have z:=pw i j (by omega) (by omega) l
  rw[List.getElem_map,List.getElem_map,ei,ej] at z
  exact absurd e z
 ·subst l
  rw[ei] at ej;rw[ej]
 ·have z:=pw j i (by omega) (by omega) l
  rw[List.getElem_map,List.getElem_map,ei,ej] at z
  exact absurd e.symm z
section
variable {fa:List He.Fa} {fn:List He.DefD} {tf:List (He.Defn×Str)} {ex:Frg->Bool} {w:World} {h:Heap} {K:Frg}
abbrev qD (fa:List He.Fa) (fn:List He.DefD) (tf:List (He.Defn×Str)) (ex:Frg->Bool) (w:World) (h:Heap) (K:Frg):Prop:=He.SaysX fa fn [] (tf.map (·.1)) (fun K=>DI K tf&&ex K) w h K
theorem qD.y (c:qD fa fn tf ex w h K):GK fa fn ex K:=⟨c.t.d,(Bool.and_eq_true_iff.mp c.more).2⟩
theorem qD.at_ (c:qD fa fn tf ex w h K) {base:Heap} {mg:Str->Option Value} (TB: ∀p∈tf.map (fun p=>He.cT K p.1),LamX.TabB base mg p.1 p.2) {p:He.Defn×Str} (hp:p∈tf) {fd:FuncData} {oc:Value} {od:Option Addr} {osl:Array (Option Value)} {q:Str}
  (lk:K.lookup (He.fAd K p.1)=some ⟨oc,od,.func fd,osl⟩) (cd:PySem.W.codeIn K fd.code q=true): @pz ⟨qB K tf⟩ base mg fd.code p.2:=by
 obtain⟨cc,e⟩:=He.codeIn_ref cd
 have e2:=He.codeOf_eq lk e
 letI:NmC:=⟨qB K tf⟩
 refine⟨cc,(He.cT K p.1).2,⟨e,?_,show _∈qB K tf from List.mem_map.mpr ⟨p,hp,rfl⟩,show ∀q∈qB K tf,_ from GL (Bool.and_eq_true_iff.mp c.more).1 hp⟩⟩
 have:=TB (He.cT K p.1) (List.mem_map.mpr ⟨p,hp,rfl⟩)
 rw[show (He.cT K p.1).1=cc from e2] at this
 exact this
theorem qD.law {l:PySem.W.OpenLaw} {k n:Nat} {x:Str} {mg:Str->Option Value} {fa':Addr} {Fs:List D->Option FR} (KX:K.In h) (c:qD fa fn tf ex w h K) {fd:FuncData} (hb: ∀(s:Shared) (v:Value),BindsTo s fd ⟨[v],[]⟩ [(x,v)])
  (hF: ∀base:Heap,K.In base->base.Ns mainGlobals mg->(∀p∈tf.map (fun p=>He.cT K p.1),LamX.TabB base mg p.1 p.2)->FnOk l.prog w K mg base CX0 k fa' fd [x] (@FSp ⟨qB K tf⟩ K [.bo] (.rg .fz) Fs))
  (hlaw: ∀ns:List Int,ns.length<=n->Fs [.sc ns]=some (.ok (.bl true) [])):LamX.LawAtS l w K CX0 k n x mg fa' h:=by
 refine⟨fd,tf.map (fun p=>He.cT K p.1),_,fun p hp=> ?_,fun p hp=> ?_,fun p hp=> ?_,hb,fun H a ns hl _ hT hS=> ?_,hF⟩
 ·obtain⟨q,hq,rfl⟩:=List.mem_map.mp hp
  exact c.empty _ (List.mem_map.mpr ⟨q,hq,rfl⟩)
 ·obtain⟨q,hq,rfl⟩:=List.mem_map.mp hp
  exact c.out _ (List.mem_map.mpr ⟨q,hq,rfl⟩)
 ·obtain⟨q,hq,rfl⟩:=List.mem_map.mp hp
  exact PySem.W.codeHd_of_K KX (c.hd _ (List.mem_map.mpr ⟨q,hq,rfl⟩))
 ·letI:NmC:=⟨qB K tf⟩
  refine Mf hS (hlaw ns hl) (fun p hp=> ?_)
  obtain⟨q,hq,rfl⟩:=List.mem_map.mp hp
  exact LamX.TabS.nil (hT _ (List.mem_map.mpr ⟨q,hq,rfl⟩))
end
end Sw
namespace Sw
open PySem PySem.Spec PyProof.Rows L2
theorem qD.lam {fa:List He.Fa} {fn:List He.DefD} {tf:List (He.Defn×Str)} {ex:Frg->Bool} {w:World} {h:Heap} {K:Frg} (c:qD fa fn tf ex w h K) {base:Heap} {mg:Str->Option Value} (TB: ∀p∈tf.map (fun p=>He.cT K p.1),LamX.TabB base mg p.1 p.2) {p:He.Defn×Str} (hp:p∈tf)
  {fd:FuncData} {x qual:Str} {ps:Arguments} {bd:List Stmt} {sc:Scope} {ds:List V} {kws:List (Str×V)} (F:FunD K x qual ps bd sc ds kws (He.fAd K p.1) fd): @pz ⟨qB K tf⟩ base mg fd.code p.2:=by
 obtain⟨oc,od,dV,kV,doc,pm,an,cdv,ct,osl,rfl,l,cd,_⟩:=F.ex
 exact c.at_ TB hp l cd
end Sw
namespace Sw
open PySem PySem.Spec PyProof.Rows L2
variable [NmC]
section
variable {X:Cx} {e:Expr} {es:List Expr} {ta:TA}
theorem AU {S:Str} {cS:Addr} {mc:Value} {p1 p2 pos:Pos} {pl:Sem Bool} (hg:Gl X S) (hm:X.mg S=some (.ref cS)) (rd:ClX.CRead X.K cS mc) (vV:PySem.W.findCls X.K (.ref cS) mc "__init__" =some (.val (.builtin "ValueError.__init__"))) (ha:PA X (e::es) ta)
  (hc:eval (.Call (.Attribute (.Name S p1) "__init__" p2) (e::es) [] pos) X.env=(do
   let ov<-eval (.Name S p1) X.env
   standAt p2.atName
   let (f,first)<-holding [ov] (getMethod ov "__init__" pl)
   callWith pos f first (backTo pos (starEach (e::es) X.env)) (backToKw pos (keywordEach [] X.env))):=by rfl)
  (hdb:(S==("__debug__" :Str))=false:=by decide) (he:starEach (e::es) X.env=(false,eval e X.env)::starEach es X.env:=by rfl) (hpl:(backTo pos (starEach es X.env)).any (·.1)=false:=by rfl):
  PE X (.Call (.Attribute (.Name S p1) "__init__" p2) (e::es) [] pos) (tVeI X.K ta):=by
 refine⟨fun pins s σ H Q I h=> ?_⟩
 refine PySem.W.methodCall_KW (ld_glob I hg hm ?_ hdb) hc
 refine PySem.W.method_cls I.kIn rd.ga (PySem.W.cls_value I.kIn rd.rd vV (by rfl) ?_)
 show wpAny _ _ (callWith pos (Value.builtin "ValueError.__init__") [] (backTo pos (starEach (e::es) X.env)) []) _ _ _
 refine PyProof.Rows.callWith_method1 (thn (ha.run pos pins _ σ H _ (I.tok _) h) fun us s1 ⟨vs,H1,I1,r1,a,C,ws,ev,hl,T,ea,q⟩=> ?_) he hpl
 subst ev
 cases r1 with
 | @cons _ u0 _ ur ra rw'=>
  obtain rfl:u0=Value.ref a:=ra
  have hlen:ur.length<=sizeLine:=by
   rw[<-Paired.length rw',sizeLine_eq]
   omega
  exact oinit_ok T I1 ea hlen fun s' J=>⟨.non,H1,J,rfl,q⟩
def Mm (K:Frg) (f:Str):TS:=fun D σ H=> ∃(a C:Addr) (v:V),σ[0]? =some (some (.ref a))/\σ[1]? =some (some v)/\OexC K C/\PySem.W.findIn K (.ref C) f=some none/\H a=some (exo a C none)∧
 ∀dx,H dx=none->dx≠a->D.nx σ (upd (upd H dx (exd dx [(f,v)])) a (exo a C (some dx)))
theorem DY {c o v:Expr} {f txt:Str} {p q1 q2:Pos} (h1:PE X c (tVeI X.K (tCons (tVar 0) (tCons (tC (.str txt)) tNil)))) (ho:PE X o (tVar 0)) (hv:PE X v (tVar 1)) (hs1:swapsWith c none p.line X.env=pure false:=by rfl) (hs:swapsWith v (some (.Attribute o f q1)) q2.line X.env=pure false:=by rfl):
  PSs X [.Expr c p,.Assign [.Attribute o f q1] v q2] (Mm X.K f):=
 cV (pss_cons (ps_expr h1 hs1) (pss_cons (ps_ost ho hv hs) pss_nil)) fun D σ H ⟨a,C,v,e0,e1,T,no,ea,k⟩=>
  ⟨.ref a,e0,a,C,[.str txt],rfl,by simp,T,ea,v,e1,.ref a,e0,a,C,rfl,T,no,.inl ⟨ea,fun dx n ne=>k dx n ne⟩⟩
end
def wG (K:Frg) (C:Addr) (f:Str):Sp:=fun vs H Q E=> ∃(a:Addr) (v:V),vs=[.ref a,v]/\H a=some (exo a C none)/\ ∀d,H d=none->d≠a->Q .non (upd (upd H d (exd d [(f,v)])) a (exo a C (some d)))
section
variable {P:Program} {w:World} {K:Frg} {mg:Str->Option Value} {base:Heap}
theorem Mn {qual pn fld:Str} {st:Stmt} {f C:Addr} {fd:FuncData} (F:Fun K "__init__" qual st f fd) (S:FnScope ["self",pn] ["self",pn] (defScope st)) (T:OexC K C) (no:PySem.W.findIn K (.ref C) fld=some none)
  (h: ∀(cdv:Value) (A:Around) (outer:List Env) (s:Shared) (H:Hp) (E:XK),PSs (cxT P w K mg base ["self",pn] qual (defScope st) f cdv A outer s H E) (defBody st) (Mm K fld)):
  FnOk P w K mg base CX0 1 f fd ["self",pn] (wG K C fld):=
 F.ok (k:=0) S (fun vs H Q E ⟨a,v,e,_⟩=>by rw[e];rfl) fun cdv A outer s H vs Q E hr ⟨a,v,ev,ea,q⟩=>⟨_,h cdv A outer s H E,by
  subst ev
  exact⟨a,C,v,rfl,rfl,T,no,ea,fun dx n ne=>q dx n ne⟩⟩
end
structure Xcl (P:Program) (w:World) (K:Frg) (mg:Str->Option Value) (base:Heap) (Cn fld:Str):Prop where
 ox:OexC K (He.ga K Cn)
 no:PySem.W.findIn K (.ref (He.ga K Cn)) fld=some none
 gm:mg Cn=some (.ref (He.ga K Cn))
 ini: ∃(fI:Addr) (fd:FuncData) (ps:List Str),PySem.W.findIn K (.ref (He.ga K Cn)) "__init__" =some (some (.ref fI))/\PySem.W.typeIn K (.ref fI)=some (.type "function")/\FnOk P w K mg base CX0 1 fI fd ps (wG K (He.ga K Cn) fld)/\Binds K fd ps []
section
variable {X:Cx} {α β:Type} {E:Exits α β} {Δ:List Md} {st:Ds} {rest:List Stmt} {e:Expr} {ra:Option D}
theorem fg.one {K:Frg} {S S':Sa} {H H':Hp} {f:Str} {d:D} {v:V} (h:Rep K S' H' d v):fg K S' H' [(f,d)] [(f,v)]:=by
 unfold fg
 exact⟨v,[],rfl,h,by unfold fg;rfl⟩
end
end Sw
namespace Sw
open PySem PySem.Spec PyProof.Rows L2
variable [NmC]
section
variable {P:Program} {w:World} {K:Frg} {mg:Str->Option Value} {base:Heap}
abbrev cxX (P:Program) (w:World) (K:Frg) (mg:Str->Option Value) (base:Heap) (N:List Str) (qual:Str) (sc:Scope) (f:Addr) (cdv:Value) (A:Around) (outer:List Env) (s:Shared) (H:Hp) (E:XK):Cx:=
 cxOf (L2.CX P w) P w K mg base N qual sc f cdv A outer s H E
theorem Mo {N:List Str} {qual:Str} {sc:Scope} {f:Addr} {cdv:Value} {A:Around} {outer:List Env} {s:Shared} {H:Hp} {E:XK}:Takes (cxX P w K mg base N qual sc f cdv A outer s H E) (fun c d _ H=>E c d H):=takes_of rfl rfl rfl rfl
theorem Mp {x qual:Str} {st:Stmt} {f:Addr} {fd:FuncData} {N ps:List Str} {k n:Nat} {ms:List PM} {rm:VM} {Fs:List D->Option FR} (F:Fun K x qual st f fd) (S:FnScope N ps (defScope st)) (hl:ms.length=ps.length) (hn:N.length=ps.length+n)
  (h: ∀(cdv:Value) (A:Around) (outer:List Env) (s:Shared) (H:Hp) (vs:List V) (E:XK),Room k (A.deeper (envOfC qual (defScope st) s.heap.objs.size f cdv))->vs.length=ms.length-> ∀ds fr,ds.length=ms.length->Fs ds=some fr→
   ∃m,Blk (cxX P w K mg base N qual (defScope st) f cdv A outer s H E) (fnX rm (bw ms vs) E) (wy ms vs++List.replicate n .fz) (ds.map some++List.replicate n none) (defBody st) m/\m.bind outF=some fr):
  FnOk P w K mg base (L2.CX P w) (k+1) f fd ps (FSp K ms rm Fs):=by
 obtain⟨oc,od,kV,doc,pm,an,cdv,ct,osl,rfl,lk,hcd⟩:=F.ex
 refine fn_of lk hcd S (fun vs H Q E ⟨O,ds,fr,e,g,a,_⟩=>a.len.1.trans hl) (fun A outer s H vs Q E hr ⟨O,ds,fr,e,g,a,ef,q⟩=> ?_)
 obtain⟨hv,hd⟩:=a.len
 obtain⟨m,hb,hm⟩:=h cdv A outer s H vs E hr hv ds fr hd ef
 refine⟨_,hb,?_⟩
 obtain⟨o,e1,e2⟩:=bind1 hm
 have hs:L2.start N vs=vs.map some++List.replicate n none:=by
  unfold L2.start
  rw[show N.length -vs.length=n by omega]
 rw[hs]
 refine⟨O,O.G0,o,⟨O.L0,g,lK a⟩,e1,?_⟩
 cases o with
 |nx a=>exact a.elim
 |bk a=>exact a.elim
 |ct a=>exact a.elim
 |ret d os=>
  cases e2
  exact fun v H' G' r=>⟨q v H' G' r,fun _ ev σ=>by subst ev;exact q _ H' G' r⟩
 |exc x=>
  cases e2
  exact fun c od H' G' r=>q c od H' G' r
end
structure Jf (P:Program) (w:World) (K:Frg) (mg:Str->Option Value) (base:Heap) (k:Nat) (x:Str) (ps:List Str) (ms:List PM) (rm:VM) (Fs:List D->Option FR):Prop where
 ok: ∃(f:Addr) (fd:FuncData),FnOk P w K mg base (L2.CX P w) k f fd ps (FSp K ms rm Fs)/\mg x=some (.ref f)/\PySem.W.keepIn K (.ref f)=true/\Binds K fd ps []
def XcF (K:Frg) (x:Xn) (c:Value) (od:Option Addr) (H:Hp) (G:Sa):Prop:=
 c= .ref (He.ga K x.C)/\((x.fs=[]/\od=none)\/ ∃a fvs,od=some a/\H a=some (.xd fvs)/\fg K G H x.fs fvs)
def rdB {γ:Type} (K:Frg) (W:WX) (Δ:List Md) (st:Ds) (Δ':List Md) (el:γ->Ds) (mb:Option (Xn ⊕ γ)):TS:=fun De σ H=> ∃O G r,Rel K O Δ st σ H G/\mb=some r/\match r with
 | .inl x=> ∀c od H' G',Rel K O Δ st σ H' G'->XcF K x c od H' G'->W c od σ H'
 | .inr g=> ∀σ' H' G',Rel K O Δ' (el g) σ' H' G'->De.nx σ' H'
def frB {γ:Type} (k:D->γ):FR->Option (Xn ⊕ γ)
 | .ok d []=>some (.inr (k d))
 | .ok _ _=>none
 | .er x=>some (.inl x)
section
variable {X:Cx} {Δ:List Md} {st:Ds} {e:Expr} {es:List Expr} {rm:VM} {rs:Option (List D)} {pos p:Pos} {vms:List VM} {ps:List PM} {Fs:List D->Option FR} {k k':Nat} {pn:List Str} {x:Str}
theorem GN {W:WX} {H:Hp} {σ:CS} {Q:VK} (ok:hO ps vms=true) (h: ∃O G fr,Rel X.K O Δ st σ H G/\(rs.bind Fs)=some fr/\match fr with
   | .ok d []=> ∀v H' G',Ext H G H' G'->bh X.K O H H' G' rm d v->Q v H'
   | .ok _ _=>False
   | .er x=> ∀c od H' G',Rel X.K O Δ st σ H' G'->XcF X.K x c od H' G'->W c od σ H'):tCallS (FSp X.K ps rm Fs) (WE W) (rdA X.K Δ st vms rs) σ H Q:=by
 obtain⟨O,G,fr,rel,er,kk⟩:=h
 obtain⟨ds,e1,e3⟩:=bind1 er
 refine rdA.go rel e1 fun vs H1 G1 rel1 x1 v1=> ?_
 obtain⟨ha,hp⟩:=mL ok v1
 cases fr with
 |er x=>
  refine⟨Org.all H1 G1,ds,_,rfl,iN rel1.tb rel1.gin,ha,e3,fun c od H' G' ⟨ec,⟨L,g⟩,hx⟩=> ?_⟩
  have x2:=vt g
  refine kk c od H' G' (rel1.ext x2) ⟨ec,?_⟩
  rcases hx with h|⟨a,fvs,e1,e2,_,_,r⟩
  ·exact .inl h
  ·exact .inr ⟨a,fvs,e1,e2,r⟩
 |ok d' os=>
  cases os with
  |cons x xs=>exact kk.elim
  |nil=>
   refine⟨Org.all H1 G1,ds,_,rfl,iN rel1.tb rel1.gin,ha,e3,fun v H' G' r=> ?_⟩
   rw[hp] at r
   obtain⟨_,x2,hv⟩:=p6 r
   exact kk v H' G' (x1.trans x2) ((hv O).back x1)
end
end Sw
namespace Sw
open PySem PySem.Spec PyProof.Rows L2
variable [NmC]
theorem fg.look {K:Frg} {S:Sa} {H:Hp} {f:Str} {d:D}: ∀{fs:List (Str×D)} {vs:List (Str×V)},fg K S H fs vs->fs.lookup f=some d-> ∃v,vs.lookup f=some v/\Rep K S H d v
 | [],_,_,e=>by cases e
 |(g,d')::fs,vs,h,e=>by
  unfold fg at h
  obtain⟨v,r,rfl,h1,h2⟩:=h
  rw[List.lookup_cons] at e⊢
  by_cases q:(f==g)=true
  ·rw[q] at e⊢
   cases e
   exact⟨v,rfl,h1⟩
  ·have q:(f==g)=false:=by simpa using q
   rw[q] at e⊢
   exact fg.look h2 e
theorem XcF.ext {K:Frg} {x:Xn} {c:Value} {od:Option Addr} {H H1:Hp} {G G1:Sa} (x1:Ext H G H1 G1) (h:XcF K x c od H G):XcF K x c od H1 G1:=by
 obtain⟨e,h|⟨a,fvs,e1,e2,r⟩⟩:=h
 ·exact⟨e,.inl h⟩
 ·exact⟨e,.inr ⟨a,fvs,e1,x1.hh _ _ e2,r.mono x1.gg x1.agr⟩⟩
def rdZ (K:Frg) (Δ:List Md) (st:Ds) (x:Xn) (c:Value) (od:Option Addr) (m:VM) (r:Option D):TE:=fun σ H Q=>
 ∃O G d,Rel K O Δ st σ H G/\XcF K x c od H G/\r=some d/\ ∀v H' G',Ext H G H' G'->bh K O H H' G' m d v->Q v H'
def GO (K:Frg) (Δ:List Md) (st:Ds) (x:Xn) (c:Value) (od:Option Addr) (ms:List VM) (r:Option (List D)):TA:=fun σ H Q=>
 ∃O G d,Rel K O Δ st σ H G/\XcF K x c od H G/\r=some d/\ ∀v H' G',Ext H G H' G'->kW K O H H' G' ms d v->Q v H'
section
variable {X:Cx} {Δ:List Md} {st:Ds} {e:Expr} {es:List Expr} {m:VM} {ms:List VM} {ra:Option D} {rs:Option (List D)} {pos p:Pos} {x:Xn} {c:Value} {od:Option Addr}
theorem Jg:PA X [] (GO X.K Δ st x c od [] (some [])):=yw pa_nil fun σ H Q ⟨O,G,d,rel,_,er,k⟩=>by
 cases er
 exact k [] H G .refl rfl
theorem rZ (ha:PE X e (rdZ X.K Δ st x c od m ra)) (hr:PA X es (GO X.K Δ st x c od ms rs)) (hs:starEach (e::es) X.env=(false,eval e X.env)::starEach es X.env:=by rfl):
  PA X (e::es) (GO X.K Δ st x c od (m::ms) (ra.bind fun y=>rs.bind fun ys=>some (y::ys))):=yw (pa_cons ha hr hs) fun σ H Q ⟨O,G,d,rel,hx,er,k⟩=>by
 obtain⟨y,ys,e1,e2,e3⟩:=bO er
 cases e3
 refine⟨O,G,y,rel,hx,e1,fun v H1 G1 x1 v1=> ?_⟩
 exact⟨O,G1,ys,rel.ext x1,hx.ext x1,e2,fun w H2 G2 x2 v2=>k _ H2 G2 (x1.trans x2) ⟨v,w,rfl,v1.mono x2,v2.back x1⟩⟩
theorem Mq (h:PA X es (GO X.K Δ st x c od ms rs)) (hm:allM (.rg .fz) ms) {x1:Nat} (hl:es.length<=1000) (hlen: ∀ds,rs=some ds->ds.length<=1000):PE X (.Tuple es x1 pos) (rdZ X.K Δ st x c od (.rg .fz) (rs.bind fun ds=>some (.tup ds))):=
 bj (pe_tup h) fun σ H Q ⟨O,G,d,rel,hx,er,k⟩=>by
  obtain⟨ds,e1,e2⟩:=bind1 er
  cases e2
  refine⟨O,G,ds,rel,hx,e1,fun vs H1 G1 x1 v1=> ?_⟩
  have hr:=v1.Cc hm
  refine⟨by rw[hr.length];exact Nat.le_of_lt (small1000 (hlen ds e1)),fun p hp=>k _ _ _ (x1.trans (.LQ hp)) ?_⟩
  unfold bh Rep
  exact⟨p,vs,rfl,⟨.inr rfl,upd_same⟩,aE.mono (fun _ g=>.inl g) (vk hp) ds vs hr⟩
theorem Mr {i:Nat} {a:Addr} {oe:Obj} {pn:List (Addr×Obj)} {Cn f n:Str} {np:Pos} (T:XfC X.K (He.ga X.K Cn)) (hno:PySem.W.findIn X.K (.ref (He.ga X.K Cn)) f=some none) (hz:Zc c od oe) (hf: ∃vs,oe.data= .fields vs)
  (hm:Δ[i]? =some .fz) (hd:st[i]? =some (some (.fn a))) (hN:X.N[i]? =some n) (hv:Vis X.env.scope n) (h1:(n==("__debug__" :Str))=false:=by decide) (h2:(n==("__classdict__" :Str))=false:=by decide)
  (hb:attributeBase (.Name n np) f X.env (eval (.Name n np) X.env)=eval (.Name n np) X.env:=by rfl):
  PE (X.suite a ((a,oe)::pn)) (.Attribute (.Name n np) f pos) (rdZ X.K Δ st x c od (.rg .fz) (if x.C=Cn then x.fs.lookup f else none)):=
 bj (pe_xf T hno hz hf (pe_var (X:=X.suite a ((a,oe)::pn)) hN hv h1 h2) hb) fun σ H Q ⟨O,G,d,rel,hx,er,k⟩=>by
  by_cases q:x.C=Cn
  ·rw[if_pos q] at er
   obtain⟨L,g,s⟩:=rel
   obtain⟨x',y',L1,L2,ex,ey,sr,_⟩:=s.split hm
   rw[hd] at ex;cases ex
   obtain⟨v,e1,r1,_⟩:=sr
   subst e1
   unfold Rep at r1
   subst r1
   obtain⟨ec,hx|⟨dd,fvs,e3,e4,r⟩⟩:=hx
   ·rw[hx.1] at er;cases er
   ·obtain⟨v',l,rv⟩:=r.look er
    exact⟨_,ey,rfl,by rw[ec,q],dd,fvs,v',e3,e4,l,k v' H G .refl rv⟩
  ·rw[if_neg q] at er;cases er
end
def Ms {α β γ:Type} (mb:Option (Xn ⊕ γ)) (Cn:Str) (zf:Xn->Option D) (gx:D->γ) (k:γ->Option (Out α β)):Option (Out α β):=(mb.bind fun r=>match r with| .inl x=>if x.C=Cn then (zf x).map gx else none| .inr g=>some g).bind k
def Mu (Cn f:Str) (x:Xn):Option D:=if x.C=Cn then x.fs.lookup f else none
section
variable {X:Cx} {α β γ:Type} {E:Exits α β} {Δ Δ':List Md} {st:Ds} {rest body:List Stmt} {e:Expr} {m:VM}
theorem Jh (i j:Nat) {Cn n y:Str} {np py sp pos pos':Pos} {md:Md} {el:γ->Ds} {mb:Option (Xn ⊕ γ)} {zf:Xn->Option D} {gx:D->γ} {k:γ->Option (Out α β)}
  (hs:X.stack=X.env::X.outer) (hf:X.env.frame=some X.env.locals) (hN:X.N.Nodup) (hi:X.N[i]? =some n) (hln:X.env.kindOf n=some .local) (hc:Names X Cn (.ref (He.ga X.K Cn))) (hT:PySem.W.exmOne X.K (.ref (He.ga X.K Cn)) (.ref (He.ga X.K Cn))=some true)
  (hj:X.N[j]? =some y) (hly:Loc X.env.scope y) (hfy:X.fn y=true\/X.env.scope.names.lookup y=some .local)
  (hmi:Δ[i]? =some .fz) (hsi:st[i]? =some none) (hjl:j<Δ.length) (ij:i≠j) (hmd:Cb m=some md)
  (hbody: ∀(W:WX) (pn:List (Addr×Obj)) (xe:Value->Shared->Prop),Takes (X.tr pn xe) W->PassesOwn (model X.prog X.w) X.A X.env xe->PSs (X.tr pn xe) body (rdB X.K W Δ st Δ' el mb))
  (hz: ∀(a:Addr) (oe:Obj) (cls:Value) (d:Option Addr) (pn:List (Addr×Obj)) (x:Xn),Zc cls d oe->(∃vs,oe.data= .fields vs)->PE (X.suite a ((a,oe)::pn)) e (rdZ X.K Δ (st.set i (some (.fn a))) x cls d m (zf x)))
  (hk: ∀g,Blk X E Δ' (el g) rest (k g)) (e1:Δ.set j md=Δ') (e2: ∀d,st.set j (some d)=el (gx d))
  (hsw:swapsWith e (some (.Name y py)) sp.line X.env=pure false:=by rfl):
  Blk X E Δ st (.Try body [.ExceptHandler (some (.Name Cn np)) (some n) [.Assign [.Name y py] e sp] pos'] [] [] pos::rest)
   (Ms mb Cn zf gx k):=by
 refine cV (pss_cons (ps_try_as hs hf hN hi hln hc (takes0 (X:=X)) hbody (ts:=fun a cls d De σ H=> ∃x,rdZ X.K Δ (st.set i (some (.fn a))) x cls d m (zf x) σ H fun v H'=>De.nx (σ.set j (some v)) H') fun a oe cls d pn z fl=> ?_) (fJ hk)) fun De σ H ⟨O,G,q,rel,er,kk⟩=> ?_
 ·exact fJ fun x=>cV (pss_cons (ps_set (X:=X.suite a ((a,oe)::pn)) hN hj hly (hz a oe cls d pn x z fl) hsw hfy) pss_nil) fun De σ H h=>h
 ·obtain⟨g,e3,e4⟩:=bind1 er
  obtain⟨r,e5,e6⟩:=bind1 e3
  refine⟨O,G,r,rel,e5,?_⟩
  cases r with
  |inr g'=>
   cases e6
   exact fun σ' H' G' rel'=>⟨g,O,G',q,rel',e4,kk⟩
  |inl x=>
   intro c od H' G' rel' hx
   by_cases qC:x.C=Cn
   ·have e6:(if x.C=Cn then (zf x).map gx else none)=some g:=e6
    rw[if_pos qC] at e6
    obtain⟨d,e7,rfl⟩:=cg e6
    have ec:c= .ref (He.ga X.K Cn):=by rw[hx.1,qC]
    refine⟨true,by rw[ec];exact hT,fun _ a na=>⟨x,O,G',d,?_,hx,e7,fun v H2 G2 x2 v2=> ?_⟩,fun z=>by cases z⟩
    ·have il:i<Δ.length:=(List.getElem?_eq_some_iff.mp hmi).1
     have:=rel'.qI (m:=.rg .fz) (md:=.fz) (i:=i) (d:=.fn a) (v:=.ref a) .refl il rfl (by unfold bh Rep;rfl)
     have eΔ:Δ.set i .fz=Δ:=by
      obtain⟨h,e⟩:=List.getElem?_eq_some_iff.mp hmi
      rw[<-e];exact List.set_getElem_self h
     rw[eΔ] at this
     exact this
    ·refine⟨gx d,O,G2,q,?_,e4,kk⟩
     have il:i<Δ.length:=(List.getElem?_eq_some_iff.mp hmi).1
     have:=rel'.qI x2 hjl hmd v2
     rw[e1,e2 d] at this
     obtain⟨L,g2,s2⟩:=this
     have hmi':Δ'[i]? =some .fz:=by rw[<-e1,List.getElem?_set_ne (Ne.symm ij)];exact hmi
     obtain⟨x',y',L1,L2,ex,ey,sr,pm,f⟩:=s2.split hmi'
     have ex2:(el (gx d))[i]? =some none:=by rw[<-e2 d,List.getElem?_set_ne (Ne.symm ij)];exact hsi
     rw[ex2] at ex;cases ex
     have l1:L1=[]:=sr
     subst l1
     obtain⟨L',pm',s3⟩:=f G2 H2 .fz none none [] (fun _ h=>h) aC aC (fun _ _=>rfl) rfl
     have h1:Δ'.set i .fz=Δ':=by
      obtain⟨h,e⟩:=List.getElem?_eq_some_iff.mp hmi'
      rw[<-e];exact List.set_getElem_self h
     have h2:(el (gx d)).set i none=el (gx d):=by
      obtain⟨h,e⟩:=List.getElem?_eq_some_iff.mp ex2
      rw[<-e];exact List.set_getElem_self h
     rw[h1,h2] at s3
     have hσ:((σ.set i (some (.ref a))).set j (some v)).set i none=(σ.set j (some v)).set i none:=by
      rw[List.set_comm _ _ ij,List.set_set]
     rw[hσ]
     exact⟨L',g2.perm (pm.trans pm'.symm),s3⟩
   ·have e6:(if x.C=Cn then (zf x).map gx else none)=some g:=e6
    rw[if_neg qC] at e6;cases e6
end
end Sw
namespace Sw
open PySem PySem.Spec PyProof.Rows L2
variable [NmC]
theorem Ji {K:Frg} {C:Addr} (q:LA K C=true): ∃nm q N bs bm sn sub ab col dd k0 k1 k2 k3 k5,K.lookup C=some (excClassObj nm q C N bs bm true sn sub ab col dd k0 k1 k2 k3 k5 "ValueError.__new__")/\PySem.HandSPX.refsVE bm=true:=by
 unfold LA at q
 split at q
 ·rename_i dd cd sl ho
  split at q
  ·rename_i C' bm k0 k1 k2 k3 n k5 hm hs
   simp only[Bool.and_eq_true,beq_iff_eq,Bool.not_eq_true'] at q
   obtain⟨⟨⟨⟨rfl,rfl⟩,hdel⟩,hd⟩,hv⟩:=q
   obtain⟨nm,bs,mro,ns,qn,hd',sn,sub,ab,col,del⟩:=cd
   dsimp only at hm hdel hd
   subst hm hdel hd
   have hsl:sl= #[k0,k1,k2,k3,some (.builtin "ValueError.__new__"),k5]:=by
    obtain⟨l⟩:=sl
    simp only at hs
    rw[hs]
   subst hsl
   exact⟨nm,qn,ns,bs,bm,sn,sub,ab,col,dd,k0,k1,k2,k3,k5,ho,hv⟩
  ·cases q
 ·cases q
theorem Jj {K:Frg} {C:Addr} (h:LB K C=true):PySem.W.findCls K (.ref C) (.type "type") "__init__" =some (.val (.builtin "ValueError.__init__")):=by
 unfold LB at h
 split at h
 ·rename_i n e
  rw[e,eq_of_beq h]
 ·cases h
structure Cm (K:Frg) (Cn fld S:Str):Prop where
 ox:OexC K (He.ga K Cn)
 no:PySem.W.findIn K (.ref (He.ga K Cn)) fld=some none
 xf:XfC K (He.ga K Cn)
 tr:PySem.W.exmOne K (.ref (He.ga K Cn)) (.ref (He.ga K Cn))=some true
 ii:PySem.W.findIn K (.ref (He.ga K Cn)) "__init__" =some (some (.ref (He.ma K (He.ga K Cn) "__init__")))
 it:PySem.W.typeIn K (.ref (He.ma K (He.ga K Cn) "__init__"))=some (.type "function")
 rd:ClX.CRead K (He.ga K S) (.type "type")
 vv:PySem.W.findCls K (.ref (He.ga K S)) (.type "type") "__init__" =some (.val (.builtin "ValueError.__init__"))
theorem Mv {K:Frg} {Cn fld S:Str} (h:xcB K Cn fld S=true):Cm K Cn fld S:=by
 obtain⟨h1,h⟩:=Bool.and_eq_true_iff.mp h
 obtain⟨h2,h⟩:=Bool.and_eq_true_iff.mp h
 obtain⟨h3,h⟩:=Bool.and_eq_true_iff.mp h
 obtain⟨h4,h⟩:=Bool.and_eq_true_iff.mp h
 obtain⟨h5,h⟩:=Bool.and_eq_true_iff.mp h
 obtain⟨h6,h⟩:=Bool.and_eq_true_iff.mp h
 obtain⟨h7,h⟩:=Bool.and_eq_true_iff.mp h
 obtain⟨h8,h⟩:=Bool.and_eq_true_iff.mp h
 obtain⟨h9,h⟩:=Bool.and_eq_true_iff.mp h
 obtain⟨h10,h⟩:=Bool.and_eq_true_iff.mp h
 obtain⟨h11,h⟩:=Bool.and_eq_true_iff.mp h
 obtain⟨h12,h13⟩:=Bool.and_eq_true_iff.mp h
 exact⟨⟨Ji h1,He.eqO_ok h2,of_decide_eq_true h3,of_decide_eq_true h4,h5⟩,He.eqO_ok h6,xfB_ok h7,of_decide_eq_true h8,He.eqO_ok h9,of_decide_eq_true h10,⟨h11,He.eqO_ok h12⟩,Jj h13⟩
theorem Cm.cl {P:Program} {w:World} {K:Frg} {mg:Str->Option Value} {base:Heap} {Cn fld S pn:Str} {fd:FuncData} (T:Cm K Cn fld S) (gm:mg Cn=some (.ref (He.ga K Cn))) (F:FnOk P w K mg base CX0 1 (He.ma K (He.ga K Cn) "__init__") fd ["self",pn] (wG K (He.ga K Cn) fld)) (hb:Binds K fd ["self",pn] []):Xcl P w K mg base Cn fld:=
 ⟨T.ox,T.no,gm,_,fd,_,T.ii,T.it,F,hb⟩
end Sw
namespace Sw
open PySem PySem.Spec PyProof.Rows L2
variable [NmC]
def D.there:D->Option D
 | .non=>none
 |d=>some d
end Sw
namespace Sw
open PySem PySem.Spec PyProof.Rows L2
open PySem.AutoSeq1 (wpAny_loadPart')
open PySem.MeetsSeq PySem.MeetsSeq2 PySem.MeetsSeq3 PySem.SeqAt PySem.SeqRoads2
variable [NmC]
def D.eqH (x y:D):Bool:=match x,y with
 | .lst _,.lst _=>D.ok2 x y&&PyData.eqv x.pd y.pd
 | .dct ks,.dct ls=>Mi ks ls
 |_,_=>false
end Sw
namespace Sw
open PySem PySem.Spec PyProof.Rows L2
variable [NmC]
structure GP (K:Frg) (C:Str) (tc:List (Str×Bool)) (tt:List (String×Bool)) (th:List Str):Prop where
 hc:(PySem.W.clsIn K (He.ga K C)).isSome=true
 hg:PySem.W.findIn K (.ref (He.ga K C)) "__getattribute__" =some (some (.builtin "BaseException.__getattribute__"))
 hk:PySem.W.findIn K (.ref (He.ga K C)) "__getattr__" =some none
 hs:PySem.W.subIn K (.ref (He.ga K C)) (.type "BaseException")=some true
 ha:PySem.W.findIn K (.ref (He.ga K C)) "__class__" =some (some (.builtin "object.__class__"))
 hn:PySem.W.specialIn K (.builtin "object.__class__") "__get__" =some (some (.builtin "getset_descriptor.__get__"))
 ht:PySem.W.takesIn K (.builtin "object.__class__")=some true
 hm:PySem.W.mroIn K (He.ga K C) (.type "object")=some true
 kc: ∀q∈tc,PySem.W.kitOne K (.ref (He.ga K C)) (.ref (He.ga K q.1))=some q.2
 kt: ∀q∈tt,PySem.W.kitOne K (.ref (He.ga K C)) (.type q.1)=some q.2
 ex: ∀q∈th,PySem.W.exmOne K (.ref (He.ga K C)) (.ref (He.ga K q))=some true
theorem Jk {K:Frg} {C:Str} {tc:List (Str×Bool)} {tt:List (String×Bool)} {th:List Str} (h:N5 K C tc tt th=true):GP K C tc tt th:=by
 obtain⟨h1,h⟩:=Bool.and_eq_true_iff.mp h
 obtain⟨h2,h⟩:=Bool.and_eq_true_iff.mp h
 obtain⟨h3,h⟩:=Bool.and_eq_true_iff.mp h
 obtain⟨h4,h⟩:=Bool.and_eq_true_iff.mp h
 obtain⟨h5,h⟩:=Bool.and_eq_true_iff.mp h
 obtain⟨h6,h⟩:=Bool.and_eq_true_iff.mp h
 obtain⟨h7,h⟩:=Bool.and_eq_true_iff.mp h
 obtain⟨h8,h⟩:=Bool.and_eq_true_iff.mp h
 obtain⟨h9,h⟩:=Bool.and_eq_true_iff.mp h
 obtain⟨h10,h11⟩:=Bool.and_eq_true_iff.mp h
 exact⟨h1,He.eqO_ok h2,He.eqO_ok h3,of_decide_eq_true h4,He.eqO_ok h5,He.eqO_ok h6,of_decide_eq_true h7,of_decide_eq_true h8,fun q hq=>of_decide_eq_true (List.all_eq_true.mp h9 q hq),fun q hq=>of_decide_eq_true (List.all_eq_true.mp h10 q hq),fun q hq=>of_decide_eq_true (List.all_eq_true.mp h11 q hq)⟩
def Qo (K:Frg) (D a:Addr) (od:Option Addr):List V->Hp->VK->Prop:=fun xs H Q=> ∃(c:V) (cv:Value) (b:Bool),xs=[.ref a,c]/\(∀u,L2.RelV c u->u=cv)/\PySem.W.kitOne K (.ref D) cv=some b/\(od=none\/ ∃dd fs,od=some dd/\H dd=some (.xd fs))/\Q (.bl b) H
theorem AV {X:Cx} {a:Addr} {od:Option Addr} {oe:Obj} {pn:List (Addr×Obj)} {C:Str} {tc:List (Str×Bool)} {tt:List (String×Bool)} {th:List Str} (F:GP X.K C tc tt th) (hz:Zc (.ref (He.ga X.K C)) od oe) (hf: ∃vs,oe.data= .fields vs):CallR (X.suite a ((a,oe)::pn)) (.builtin "isinstance") (Qo X.K (He.ga X.K C) a od):=by
 intro pins s σ H xs us Q I r h
 obtain⟨c,cv,b,rfl,hcv,e,hd,q⟩:=h
 cases r with
 |cons rx rr=>
  cases rr with
  |cons rt rr=>
   cases rr
   cases rx
   have ec:=hcv _ rt
   subst ec
   obtain⟨hget,_⟩:=I.pin (a,oe) (List.mem_append.mpr (.inl List.mem_cons_self))
   obtain⟨vs,hv⟩:=hf
   have ncl:PySem.W.notCls oe:=by unfold PySem.W.notCls;rw[hv] <;> rfl
   rcases hd with rfl|⟨dd,fs,rfl,hdd⟩
   ·have J:PySem.W.InstAt s.heap a oe (He.ga X.K C) none:=⟨hget,hz.1,ncl,by rw[hz.2];trivial⟩
    exact PySem.W.kia_one (PySem.W.kitx_exc F.hc F.hg F.hk F.hs F.ha F.hn F.ht F.hm) I.kIn J e (fun z=>nomatch z) fun tk=>⟨.bl b,H,I.kept (t':=tk) fun _ _ z=>z,rfl,q⟩
   ·have hx:ObjOk X.prog X.w H s.heap dd (.xd fs):=I.hok dd _ hdd
    obtain⟨mA,hns,_⟩:=hx
    obtain⟨od',ho,_⟩:=lookIn_ns hns
    have J:PySem.W.InstAt s.heap a oe (He.ga X.K C) (some od'):=⟨hget,hz.1,ncl,by rw[hz.2];exact ho⟩
    exact PySem.W.kia_one (PySem.W.kitx_exc F.hc F.hg F.hk F.hs F.ha F.hn F.ht F.hm) I.kIn J e (fun z=>nomatch z) fun tk=>⟨.bl b,H,I.kept (t':=tk) fun _ _ z=>z,rfl,q⟩
def isX (Cn:Str) (b:Bool) (x:Xn):Option D:=if x.C=Cn then some (.bl b) else none
section
variable {X:Cx} {Δ:List Md} {st:Ds} {e b:Expr} {rest:List Expr} {ra rb:Option D} {pos p:Pos} {x:Xn} {c:Value} {od:Option Addr} {r rg:Rg}
theorem AX {i:Nat} {a:Addr} {σ:CS} {H:Hp} {O:Org} {G:Sa} (rel:Rel X.K O Δ st σ H G) (hm:Δ[i]? =some .fz) (hd:st[i]? =some (some (.fn a))):σ[i]? =some (some (.ref a)):=by
 obtain⟨L,g,s⟩:=rel
 obtain⟨x',y',L1,L2,ex,ey,sr,_⟩:=s.split hm
 rw[hd] at ex;cases ex
 obtain⟨v,e1,r1,_⟩:=sr
 subst e1
 unfold Rep at r1
 subst r1
 exact ey
theorem K6 {K:Frg} {H:Hp} {G:Sa} (h:XcF K x c od H G):od=none\/ ∃dd fs,od=some dd/\H dd=some (.xd fs):=by
 obtain⟨_,h|⟨a,fvs,e1,e2,_⟩⟩:=h
 ·exact .inl h.2
 ·exact .inr ⟨a,fvs,e1,e2⟩
theorem GQ {i:Nat} {a:Addr} {oe:Obj} {pn:List (Addr×Obj)} {Cn Dn n:Str} {np pT:Pos} {q:Bool} {tc:List (Str×Bool)} {tt:List (String×Bool)} {th:List Str} (F:GP X.K Cn tc tt th) (hq:(Dn,q)∈tc) (hz:Zc c od oe) (hf: ∃vs,oe.data= .fields vs)
  (hg:Gl X "isinstance") (hi:X.mg "isinstance" =none) (hgT:Gl X Dn) (hmT:X.mg Dn=some (.ref (He.ga X.K Dn)))
  (hm:Δ[i]? =some .fz) (hd:st[i]? =some (some (.fn a))) (hN:X.N[i]? =some n) (hv:Vis X.env.scope n) (h1:(n==("__debug__" :Str))=false:=by decide) (h2:(n==("__classdict__" :Str))=false:=by decide) (h3:(Dn==("__debug__" :Str))=false:=by decide)
  (hst:starEach [.Name n np,.Name Dn pT] X.env=(false,eval (.Name n np) X.env)::starEach [.Name Dn pT] X.env:=by rfl) (hst2:starEach [.Name Dn pT] X.env=(false,eval (.Name Dn pT) X.env)::starEach [] X.env:=by rfl) (hpl:(backTo pos (starEach [.Name Dn pT] X.env)).any (·.1)=false:=by rfl):
  PE (X.suite a ((a,oe)::pn)) (.Call (.Name "isinstance" p) [.Name n np,.Name Dn pT] [] pos) (rdZ X.K Δ st x c od (.rg .fz) (isX Cn q x)):=by
 by_cases qC:c= .ref (He.ga X.K Cn)
 ·subst qC
  refine bj (pe_callB (X:=X.suite a ((a,oe)::pn)) (AV F hz hf) hg hi qA (pa_cons (pe_var (X:=X.suite a ((a,oe)::pn)) hN hv h1 h2) (pa_cons (C8.pe_gc (X:=X.suite a ((a,oe)::pn)) (v:=.ref (He.ga X.K Dn)) hgT ⟨_,hmT,(rfl:L2.RelV (.ref (He.ga X.K Dn)) (.ref (He.ga X.K Dn)))⟩ h3) pa_nil hst2) hst) (by decide) (by decide) hst hpl) fun σ H Q ⟨O,G,d,rel,hx,er,k⟩=> ?_
  obtain⟨_,rfl⟩:=aM er
  exact⟨.ref a,AX rel hm hd,.ref (He.ga X.K Dn),.ref (He.ga X.K Dn),q,rfl,fun u r=>r,F.kc _ hq,K6 hx,k _ H G .refl kY⟩
 ·exact⟨fun pins s σ H Q I ⟨O,G,d,rel,hx,er,k⟩=>by
   obtain⟨e,rfl⟩:=aM er
   exact absurd (by rw[hx.1,e]) qC⟩
theorem Mw {i:Nat} {a:Addr} {oe:Obj} {pn:List (Addr×Obj)} {Cn n Tn:Str} {T:String} {np pT:Pos} {q:Bool} {tc:List (Str×Bool)} {tt:List (String×Bool)} {th:List Str} (F:GP X.K Cn tc tt th) (hq:(T,q)∈tt) (hz:Zc c od oe) (hf: ∃vs,oe.data= .fields vs)
  (hg:Gl X "isinstance") (hi:X.mg "isinstance" =none) (hgT:Gl X Tn) (hmT:X.mg Tn=none) (hb:bootBuiltins Tn=some (.type T))
  (hm:Δ[i]? =some .fz) (hd:st[i]? =some (some (.fn a))) (hN:X.N[i]? =some n) (hv:Vis X.env.scope n) (h1:(n==("__debug__" :Str))=false:=by decide) (h2:(n==("__classdict__" :Str))=false:=by decide) (h3:Tn≠"__name__" :=by decide) (h4:(Tn==("__debug__" :Str))=false:=by decide)
  (hst:starEach [.Name n np,.Name Tn pT] X.env=(false,eval (.Name n np) X.env)::starEach [.Name Tn pT] X.env:=by rfl) (hst2:starEach [.Name Tn pT] X.env=(false,eval (.Name Tn pT) X.env)::starEach [] X.env:=by rfl) (hpl:(backTo pos (starEach [.Name Tn pT] X.env)).any (·.1)=false:=by rfl):
  PE (X.suite a ((a,oe)::pn)) (.Call (.Name "isinstance" p) [.Name n np,.Name Tn pT] [] pos) (rdZ X.K Δ st x c od (.rg .fz) (isX Cn q x)):=by
 by_cases qC:c= .ref (He.ga X.K Cn)
 ·subst qC
  refine bj (pe_callB (X:=X.suite a ((a,oe)::pn)) (AV F hz hf) hg hi qA (pa_cons (pe_var (X:=X.suite a ((a,oe)::pn)) hN hv h1 h2) (pa_cons (pe_bltn (X:=X.suite a ((a,oe)::pn)) (v:=.ty T) hgT hmT hb rfl h3 h4) pa_nil hst2) hst) (by decide) (by decide) hst hpl) fun σ H Q ⟨O,G,d,rel,hx,er,k⟩=> ?_
  obtain⟨_,rfl⟩:=aM er
  exact⟨.ref a,AX rel hm hd,.ty T,.type T,q,rfl,fun u r=>r,F.kt _ hq,K6 hx,k _ H G .refl kY⟩
 ·exact⟨fun pins s σ H Q I ⟨O,G,d,rel,hx,er,k⟩=>by
   obtain⟨e,rfl⟩:=aM er
   exact absurd (by rw[hx.1,e]) qC⟩
theorem Jl {x1:Nat} {e1 e2 e3 e4:Expr} {ra rb rc rd:Option D} (h:PA X [e1,e2,e3,e4] (GO X.K Δ st x c od [.rg .fz,.rg .fz,.rg .fz,.rg .fz] (aj ra (aj rb (aj rc (aj rd aU)))))):PE X (.Tuple [e1,e2,e3,e4] x1 pos) (rdZ X.K Δ st x c od (.rg .fz) (tupO (aj ra (aj rb (aj rc (aj rd aU)))))):=Mq h Ci (by simp) fun ds e=>by
 obtain⟨_,_,_,e2,e3⟩:=bO e
 obtain⟨_,_,_,e5,e6⟩:=bO e2
 obtain⟨_,_,_,e8,e9⟩:=bO e5
 obtain⟨_,_,_,e11,e12⟩:=bO e8
 cases e11;cases e12;cases e9;cases e6;cases e3;simp
end
end Sw
namespace Sw
open PySem PySem.Spec PyProof.Rows L2
variable [NmC]
section
variable {X:Cx} {Δ Δ':List Md} {st:Ds} {e:Expr} {es:List Expr} {rm:VM} {rs:Option (List D)} {pos p:Pos} {vms:List VM} {ps:List PM} {Fs:List D->Option FR} {k k':Nat} {pn:List Str} {x:Str}
theorem Jm {W:WX} {spos py:Pos} {md:Md} {y:Str} {γ:Type} {el:γ->Ds} (fe:D->γ) (i:Nat) (C:Jf X.prog X.w X.K X.mg X.base k x pn ps rm Fs) (hr:Room k' X.A) (tk:Takes X W) (ha:PAx X Δ st (e::es) vms rs) (hmd:Cb rm=some md) (hi:i<Δ.length) (hnd:X.N.Nodup) (hN:X.N[i]? =some y) (hy:Loc X.env.scope y)
  (hΔ:Δ.set i md=Δ') (hel: ∀d,st.set i (some d)=el (fe d)) (hg:Gl X x:=by rfl) (hk:k<=k':=by decide) (ok:hO ps vms=true:=by rfl)
  (hs:swapsWith (.Call (.Name x p) (e::es) [] pos) (some (.Name y py)) spos.line X.env=pure false:=by rfl) (hf:X.fn y=true\/X.env.scope.names.lookup y=some .local:=by first|exact .inl rfl|exact .inr rfl|assumption)
  (hdb:(x==("__debug__" :Str))=false:=by decide) (he:starEach (e::es) X.env=(false,eval e X.env)::starEach es X.env:=by rfl) (hpl:(backTo pos (starEach es X.env)).any (·.1)=false:=by rfl):
  PSs X [.Assign [.Name y py] (.Call (.Name x p) (e::es) [] pos) spos] (rdB X.K W Δ st Δ' el ((rs.bind Fs).bind (frB fe))):=by
 obtain⟨f,fd,F,hm,hkp,hb⟩:=C.ok
 refine cV (pss_cons (ps_set hnd hN hy (pe_callS (E:=WE W) F (hr.mono hk) hg hm hkp hb (fun σ=>passAt tk σ) ha hdb he hpl) hs hf) pss_nil) fun De σ H ⟨O,G,r,rel,er,kk⟩=> ?_
 obtain⟨fr,e1,e2⟩:=bind1 er
 refine GN (rm:=rm) (W:=W) ok ⟨O,G,fr,rel,e1,?_⟩
 cases fr with
 |er x=>
  cases e2
  exact kk
 |ok d os=>
  cases os with
  |cons _ _=>cases e2
  |nil=>
   cases e2
   exact fun v H' G' x1 hv=>kk _ H' G' (by rw[<-hΔ,←hel d];exact rel.qI x1 hi hmd hv)
end
theorem My:allM (.rg .fz) [.rg .fz,.rg .fz,.rg .fz,.rg .fz,.rg .fz,.rg .fz,.rg .fz]:=⟨rfl,rfl,rfl,rfl,rfl,rfl,rfl,trivial⟩
def setB {γ:Type} (Fs:List D->Option FR) (rs:Option (List D)) (fe:D->γ):Option (Xn ⊕ γ):=(rs.bind Fs).bind (frB fe)
end Sw
namespace Sw
open PySem PySem.Spec PyProof.Rows L2
variable [NmC]
def rdH (K:Frg) (Δ:List Md) (st:Ds) (ss:List Sh) (r:Option (List D)):TA:=fun σ H Q=>
 ∃O G ds,Rel K O Δ st σ H G/\r=some ds/\ ∀vs H' G' L,Ext H G H' G'->L.Nodup->(∀p∈L,H p=none/\ ¬G' p)->dh K G' H' ss ds vs L->Q vs H'
section
variable {X:Cx} {Δ:List Md} {st:Ds} {e:Expr} {es:List Expr} {s:Sh} {ss:List Sh} {ra:Option D} {rs:Option (List D)} {pos:Pos}
theorem Jn:PA X [] (rdH X.K Δ st [] (some [])):=yw pa_nil fun σ H Q ⟨O,G,d,rel,er,k⟩=>by
 cases er
 exact k [] H G [] .refl List.nodup_nil (fun _ h=>by cases h) (by unfold dh;exact⟨rfl,rfl,rfl⟩)
theorem GR (ha:PX X Δ st e (.nw s) ra) (hr:PA X es (rdH X.K Δ st ss rs)) (hs:starEach (e::es) X.env=(false,eval e X.env)::starEach es X.env:=by rfl):
  PA X (e::es) (rdH X.K Δ st (s::ss) (aj ra rs)):=yw (pa_cons ha hr hs) fun σ H Q ⟨O,G,d,rel,er,k⟩=>by
 obtain⟨y,ys,e1,e2,e3⟩:=bO er
 cases e3
 refine⟨O,G,y,rel,e1,fun v H1 G1 x1 ⟨L1,n1,f1,o1⟩=> ?_⟩
 refine⟨O,G1,ys,rel.ext x1,e2,fun vs H2 G2 L2 x2 n2 f2 o2=> ?_⟩
 have kd:=Own.kind s y v L1 o1
 have o1':=Own.mono (K:=X.K) x2.gg x2.agr s y v L1 (fun q m=>x2.uq (kd q m)) o1
 refine k (v::vs) H2 G2 (L1++L2) (x1.trans x2) (List.nodup_append.mpr ⟨n1,n2,fun a ha b hb e=> ?_⟩) (fun p m=> ?_) ?_
 ·subst e
  exact (kd a ha).ne (f2 a hb).1
 ·rcases List.mem_append.mp m with m|m
  ·refine⟨(f1 p m).1,fun g=> ?_⟩
   rcases x2.gn p g with g|⟨e,_⟩|⟨xs,e⟩
   ·exact (f1 p m).2 g
   ·exact (kd p m).ne e
   ·exact (kd p m).DJ e
  ·exact⟨x1.bk (f2 p m).1,(f2 p m).2⟩
 ·unfold dh
  exact⟨y,ys,v,vs,L1,L2,rfl,rfl,o1',o2,rfl⟩
theorem Jo (h:PA X (e::es) (rdH X.K Δ st ss rs)):PX X Δ st (.List (e::es) pos) (.nw (.hl ss)) (qL rs):=
 bj (pe_lst h) fun σ H Q ⟨O,G,d,rel,er,k⟩=>by
  obtain⟨ds,e1,e2⟩:=bind1 er
  obtain⟨q,rfl⟩:=aM e2
  refine⟨O,G,ds,rel,e1,fun vs H1 G1 L x1 nd fr ow=>⟨by have:=(dh.rep ss ds vs L ow).length;omega,fun p hp=>k _ _ G1 (x1.trans (.new hp)) ⟨p::L,?_,?_,?_⟩⟩⟩
  ·exact List.nodup_cons.mpr ⟨fun m=>(dh.kind ss ds vs L ow p m).ne hp,nd⟩
  ·intro z m
   rcases List.mem_cons.mp m with rfl|m
   ·refine⟨x1.bk hp,fun g=>Rel.gin (rel.ext x1) _ g hp⟩
   ·exact fr z m
  ·have xn:Ext H1 G1 (upd H1 p (.lst vs)) G1:=.new hp
   unfold Own
   exact⟨p,vs,ds,L,rfl,rfl,upd_same,dh.mono xn.gg xn.agr ss ds vs L (fun q m=>xn.uq (dh.kind ss ds vs L ow q m)) ow,rfl⟩
end
end Sw
namespace Sw
open PySem PySem.Spec PyProof.Rows L2
variable [NmC]
def rdX (K:Frg) (W:WX) (Δ:List Md) (st:Ds) (m:VM) (r:Option (Xn ⊕ D)):TE:=fun σ H Q=>
 ∃O G x,Rel K O Δ st σ H G/\r=some x/\match x with
  | .inr d=> ∀v H' G',Ext H G H' G'->bh K O H H' G' m d v->Q v H'
  | .inl x=> ∀c od H' G',Rel K O Δ st σ H' G'->XcR K [] O x c od H' G'->W c od σ H'
def frX:FR->Option (Xn ⊕ D)
 | .ok d []=>some (.inr d)
 | .ok _ _=>none
 | .er x=>some (.inl x)
def okX (r:Option D):Option (Xn ⊕ D):=r.map Sum.inr
def Qp (a:Option (Xn ⊕ D)) (r:Option (Xn ⊕ List D)):Option (Xn ⊕ List D):=a.bind fun x=>match x with
 | .inl e=>some (.inl e)
 | .inr d=>r.bind fun y=>match y with
  | .inl e=>some (.inl e)
  | .inr ds=>some (.inr (d::ds))
def xbO {α β:Type} (r:Option (Xn ⊕ D)) (k:D->Option (Out α β)):Option (Out α β):=r.bind fun x=>match x with
 | .inl e=>some (.exc e)
 | .inr d=>k d
theorem XcR.f {K:Frg} {ps:List (V×Sh)} {O:Org} {x:Xn} {c:Value} {od:Option Addr} {H:Hp} {G:Sa} (h:XcR K ps O x c od H G):XcF K x c od H G:=by
 obtain⟨e,_,h|⟨a,fvs,e1,e2,_,_,r⟩⟩:=h
 ·exact⟨e,.inl h⟩
 ·exact⟨e,.inr ⟨a,fvs,e1,e2,r⟩⟩
section
variable {X:Cx} {W:WX} {Δ:List Md} {st:Ds} {e:Expr} {es:List Expr} {m rm:VM} {ms vms:List VM} {r:Option D} {rx:Option (Xn ⊕ D)} {rs:Option (Xn ⊕ List D)} {pos p:Pos} {ps:List PM} {Fs:List D->Option FR} {k k':Nat} {pn:List Str} {x:Str}
theorem yH {H:Hp} {σ:CS} {Q:VK} {O:Org} {G:Sa} {ds:List D} {rc:Xn ⊕ D} (ok:hO ps vms=true) (rel:Rel X.K O Δ st σ H G) (e3:(Fs ds).bind frX=some rc) {vs:List V} {H1:Hp} {G1:Sa} (x1:Ext H G H1 G1) (v1:kW X.K O H H1 G1 vms ds vs)
  (kk:match rc with
  | .inr d=> ∀v H' G',Ext H G H' G'->bh X.K O H H' G' rm d v->Q v H'
  | .inl x=> ∀c od H' G',Rel X.K O Δ st σ H' G'->XcR X.K [] O x c od H' G'->W c od σ H'):FSp X.K ps rm Fs vs H1 Q (WE W σ):=by
 have rel1:=rel.ext x1
 obtain⟨ha,hp⟩:=mL ok v1
 obtain⟨fr,e4,e5⟩:=bind1 e3
 cases fr with
 |er x=>
  cases e5
  refine⟨Org.all H1 G1,ds,_,rfl,iN rel1.tb rel1.gin,ha,e4,fun c od H' G' ⟨ec,⟨L,g⟩,hx⟩=> ?_⟩
  have x2:=vt g
  have rel2:=rel1.ext x2
  refine kk c od H' G' rel2 ⟨ec,?_,?_⟩
  ·obtain⟨L2,g2,_⟩:=rel2
   exact⟨L2,g2⟩
  ·rcases hx with h|⟨a,fvs,e1,e2,hn,ng,r⟩
   ·exact .inl h
   ·obtain⟨L1,g1,_⟩:=rel1
    exact .inr ⟨a,fvs,e1,e2,g1.back hn,ng,r⟩
 |ok d' os=>
  cases os with
  |cons x xs=>cases e5
  |nil=>
   cases e5
   refine⟨Org.all H1 G1,ds,_,rfl,iN rel1.tb rel1.gin,ha,e4,fun v H' G' r=> ?_⟩
   rw[hp] at r
   obtain⟨_,x2,hv⟩:=p6 r
   exact kk v H' G' (x1.trans x2) ((hv O).back x1)
end
section
variable {α β γ:Type} {X:Cx} {E:Exits α β} {Δ Δ':List Md} {st:Ds} {rest body:List Stmt} {e:Expr} {m:VM} {rx:Option (Xn ⊕ D)} {pos:Pos}
abbrev exW {α β:Type} (E:Exits α β):WX:=fun c d _ H=>E.xw c d H
theorem Jp {K:Frg} {O:Org} {σ:CS} {H H1:Hp} {G G1:Sa} {d:D} {v:V} {os:List D} (rel:Rel K O Δ st σ H G) (x1:Ext H G H1 G1) (v1:bh K O H H1 G1 m d v) (hp:kL Δ st=some os) (hi:Ge m=true):Ca K m (EY Δ) O d os v H1 G1:=by
 obtain⟨L,g,s⟩:=rel
 have g1:=g.ext x1 s.kind (x1.gin g.gin)
 have s1:=Slots.mono (G':=G1) (H':=H1) x1.gg x1.agr x1.agr (fun p m=>x1.uq (s.kind p m)) s
 obtain⟨L',sl,p⟩:=s1.pins hp
 cases m with
 |rg r=>
  cases r with
  |fz=>exact⟨[],L',g1.sub sl,⟨v1,rfl⟩,p⟩
  |hb=>cases hi
  |bb=>cases hi
 |nw sh=>
  obtain⟨L1,nd,f,o⟩:=v1
  exact⟨L1,L',(g1.zl s1.kind (H0:=H) (fun p h=>g.back h) nd f fun p m=>(s.kind p m).ne).sub (List.Sublist.append (List.Sublist.refl _) sl),o,p⟩
 |sp r=>cases hi
theorem zu {os:List D} (he:PE X e (rdX X.K (exW E) Δ st m rx)) (hm:E.rm=m) (hp:kL Δ st=some os) (hq:EY Δ=E.pins) (hi:Ge m=true:=by rfl):Blk X E Δ st (.Return (some e) pos::rest) (xbO rx fun d=>some (.ret d os)):=
 cV (pss_cons (ps_ret he) pss_never) fun De σ H ⟨O,G,q,rel,er,kk⟩=>by
  obtain⟨a,e3,e4⟩:=bind1 er
  refine⟨O,G,a,rel,e3,?_⟩
  cases a with
  |inl a=>cases e4;exact fun c od H' G' _ hx=>kk c od H' G' hx
  |inr d=>
   cases e4
   refine fun v H1 G1 x1 v1=>(kk v H1 G1 ?_).1
   rw[hm,←hq]
   exact Jp rel x1 v1 hp hi
end
end Sw
namespace Sw
open PySem PySem.Spec PyProof.Rows L2
variable [NmC]
mutual
def D.flt:D->Bool
 | .non=>true| .bl _=>true| .int _=>true| .str _=>true
 | .tup ds=>E9 ds
 |_=>false
def E9:List D->Bool
 | []=>true
 |d::ds=>d.flt&&E9 ds
end
mutual
def fR:Sh->D->Bool
 | .fz,d=>d.flt
 | .ls s,.lst ds=>ds.all fun d=>fR s d
 | .dc s,.dct ks=>ks.all fun k=>fR s k.2
 | .is fs,.ins _ ds=>r9 fs ds
 |_,_=>false
def r9:List (Str×Sh)->List (Str×D)->Bool
 | [],_=>true
 |(_,s)::fs,ds=>match ds with
  | []=>false
  |d::dr=>fR s d.2&&r9 fs dr
end
section
variable {K:Frg} {G:Sa} {H:Hp}
theorem x9.more {G':Sa} (hG: ∀p,G p->G' p): ∀{ps:List (V×Sh)} {ds:List D} {L:List Addr},x9 K G H ps ds L->x9 K G' H ps ds L
 | [],[],_,h=>h
 |(v,s)::ps,d::ds,_,⟨L1,L2,h1,h2,e⟩=>⟨L1,L2,Own.mono hG aC s d v L1 (fun _ _=>rfl) h1,x9.more hG h2,e⟩
 | [],_::_,_,h=>h.elim
 |_::_,[],_,h=>h.elim
end
end Sw
namespace Sw
open PySem PySem.Spec PyProof.Rows L2
variable [NmC]
def lM (K:Frg) (O:Org) (st:Ds) (σ:CS) (H H':Hp) (G':Sa):List AS->List D->List V->List Addr->Prop
 | [],[],vs,L=>vs=[]/\L=[]
 | .pv (.nw s)::ms,d::ds,vs,L=> ∃v r L1 L2,vs=v::r/\Own K G' H' s d v L1/\lM K O st σ H H' G' ms ds r L2/\L=L1++L2
 | .pv (.rg m)::ms,d::ds,vs,L=> ∃v r,vs=v::r/\bh K O H H' G' (.rg m) d v/\lM K O st σ H H' G' ms ds r L
 | .pv (.sp m)::ms,d::ds,vs,L=> ∃v r,vs=v::r/\bh K O H H' G' (.sp m) d v/\lM K O st σ H H' G' ms ds r L
 | .ln i::ms,d::ds,vs,L=> ∃v r,vs=v::r/\(st[i]? =some (some d)/\σ[i]? =some (some v))/\lM K O st σ H H' G' ms ds r L
 |_,_,_,_=>False
section
variable {K:Frg} {O:Org} {H H1 H2:Hp} {G G1 G2:Sa} {st:Ds} {σ:CS}
theorem lM.back: ∀{ms:List AS} {ds:List D} {vs:List V} {L:List Addr},Ext H G H1 G1->lM K O st σ H1 H2 G2 ms ds vs L->lM K O st σ H H2 G2 ms ds vs L
 | [],[],_,_,_,h=>h
 | .pv (.nw s)::ms,d::ds,_,_,e,⟨v,r,L1,L2,e1,h1,h2,e2⟩=>⟨v,r,L1,L2,e1,h1,lM.back e h2,e2⟩
 | .pv (.rg m)::ms,d::ds,_,_,e,⟨v,r,e1,h1,h2⟩=>⟨v,r,e1,bh.back e h1,lM.back e h2⟩
 | .pv (.sp m)::ms,d::ds,_,_,e,⟨v,r,e1,h1,h2⟩=>⟨v,r,e1,bh.back e h1,lM.back e h2⟩
 | .ln i::ms,d::ds,_,_,e,⟨v,r,e1,h1,h2⟩=>⟨v,r,e1,h1,lM.back e h2⟩
 | [],_::_,_,_,_,h=>h.elim
 | .ln _::_,[],_,_,_,h=>h.elim
 | .pv (.nw _)::_,[],_,_,_,h=>h.elim
 | .pv (.rg _)::_,[],_,_,_,h=>h.elim
 | .pv (.sp _)::_,[],_,_,_,h=>h.elim
end
end Sw
namespace Sw
open PySem PySem.Spec PyProof.Rows L2
variable [NmC]
def irQ (K:Frg) (S:Sa) (H:Hp) (p:D×D×D) (x:V):Prop:= ∃a v w u,x= .ref a/\SqT K H a [v,w,u]/\Rep K S H p.1 v/\Rep K S H p.2.1 w/\Rep K S H p.2.2 u
theorem GS {K:Frg}:lH (irQ K):=fun S S' H H' d x hS hH ⟨a,v,w,u,e,t,h1,h2,h3⟩=>⟨a,v,w,u,e,Gf hH t,Rep.mono hS (we hH) _ v h1,Rep.mono hS (we hH) _ w h2,Rep.mono hS (we hH) _ u h3⟩
theorem Mz (K:Frg) (i j l:Nat) {n:Nat} {rg:Rg} (hr:rg≠ .hb) (hi:i<n) (hj:j<n) (hl:l<n):wg K (gTup K 3 (gCons (gName i) (gCons (gName j) (gCons (gName l) gNil)))) rg (irQ K) (fun Δ=>((Δ.set i (mdR rg)).set j (mdR rg)).set l (mdR rg)) (fun d st=>((st.set i (some d.1)).set j (some d.2.1)).set l (some d.2.2)) n [i,j,l]:=
 fun O Δ st σ H G d x Q hn rel ⟨a,v,w,u,e,t,h1,h2,h3⟩ q=>by
  refine⟨a,[v,w,u],e,t,rfl,v,[w,u],rfl,w,[u],rfl,u,[],rfl,rfl,q _ ?_ fun vs hv=>(mI (hv l (by simp))).trans ((mI (hv j (by simp))).trans (mI (hv i (by simp))))⟩
  cases rg with
  |hb=>exact absurd rfl hr
  |bb=>exact ((rel.qI (m:=.rg .bb) .refl (by omega) rfl h1).qI (m:=.rg .bb) .refl (by simp;omega) rfl h2).qI (m:=.rg .bb) .refl (by simp;omega) rfl h3
  |fz=>exact ((rel.qI (m:=.rg .fz) .refl (by omega) rfl h1).qI (m:=.rg .fz) .refl (by simp;omega) rfl h2).qI (m:=.rg .fz) .refl (by simp;omega) rfl h3
theorem GU {K:Frg} {S:Sa} {H:Hp} {a b c:D} {v:V} (h:Rep K S H (.tup [a,b,c]) v):irQ K S H (a,b,c) v:=by
 unfold Rep at h
 obtain⟨p,vs,e,l,r⟩:=h
 unfold aE at r
 obtain⟨x,r1,rfl,h1,h2⟩:=r
 unfold aE at h2
 obtain⟨y,r2,rfl,h3,h4⟩:=h2
 unfold aE at h4
 obtain⟨z,r3,rfl,h5,h6⟩:=h4
 unfold aE at h6
 subst h6
 exact⟨p,x,y,z,e,l.sq,h1,h3,h5⟩
def D.tr:D->Option (D×D×D)
 | .tup [a,b,c]=>some (a,b,c)
 |_=>none
def D.trs:List D->Option (List (D×D×D))
 | []=>some []
 |d::ds=>(D.tr d).bind fun x=>(D.trs ds).bind fun xs=>some (x::xs)
theorem DZ: ∀{ds:List D} {ps:List (D×D×D)} {i:Nat} {p:D×D×D},D.trs ds=some ps->ps[i]? =some p->ds[i]? =some (.tup [p.1,p.2.1,p.2.2])
 | [],_,_,_,e,h=>by cases e;simp at h
 |d::ds,_,i,p,e,h=>by
  unfold D.trs at e
  obtain⟨x,y,e1,e2,e3⟩:=bO e
  cases e3
  cases i with
  |zero=>
   simp at h;subst h
   unfold D.tr at e1
   split at e1
   ·cases e1;rfl
   ·cases e1
  |succ i=>simpa using DZ e2 (by simpa using h)
theorem D1: ∀{ds:List D} {ps:List (D×D×D)},D.trs ds=some ps->ps.length=ds.length
 | [],_,e=>by cases e;rfl
 |d::ds,_,e=>by
  unfold D.trs at e
  obtain⟨x,y,e1,e2,e3⟩:=bO e
  cases e3
  rw[List.length_cons,List.length_cons,D1 e2]
def Jq (x:Option D):Option (List (D×D×D)):=x.bind fun x=>match x with| .lst ds=>D.trs ds|_=>none
section
variable {X:Cx} {Δ:List Md} {st:Ds} {e:Expr} {rg:Rg} {ra:Option D}
theorem Jr {tg:Expr} (h:PX X Δ st e (.rg rg) ra):PIx (δ:=D×D×D) X Δ st tg e rg (irQ X.K) (Jq ra):=
 DK (pi_list h) fun σ H R ⟨O,G,ps,rel,er,k⟩=>by
  obtain⟨x,e1,e2⟩:=bind1 er
  cases x <;> first|cases e2|skip
  rename_i ds
  refine rdE.go rel e1 fun v H1 G1 rel1 x1 v1=> ?_
  unfold bh Rep at v1
  obtain⟨a,vs,rfl,s,l,rr⟩:=v1
  refine⟨a,rfl,⟨vs,SqL.of l⟩,k _ H1 G1 x1 (wkS fun H2 hst i=> ?_)⟩
  have l2:SqL X.K H2 a vs:=SqL.of (hst a _ s l (fun _ z=>by cases z))
  refine⟨fun d hd=> ?_,fun hi=>⟨vs,l2,by rw[rr.length,←D1 e2];exact hi⟩⟩
  obtain⟨u,e3,e4⟩:=rr.get (DZ e2 hd)
  refine⟨⟨vs,u,l2,e3⟩,fun x H3 ⟨eH,f⟩=> ?_⟩
  subst eH
  have:=f vs l2
  rw[e3] at this;cases this
  exact⟨fun _ _ e=>e,GU (Rep.mono (fun _ g=>g) (fun p sp=>k7.Ga fun u n e=>hst p u sp e n) _ _ e4)⟩
end
theorem gL.at {K:Frg} {S:Sa} {H:Hp}: ∀{ks:List (List Key×D)} {kvs:List (List Key×V)} {i:Nat} {k:List Key} {v:V},gL K S H ks kvs->kvs[i]? =some (k,v)-> ∃x,ks[i]? =some (k,x)/\Rep K S H x v
 | [],_,_,_,_,h,e=>by unfold gL at h;subst h;simp at e
 |(k0,x)::ks,_,0,k,v,h,e=>by
  unfold gL at h
  obtain⟨w,r,rfl,h1,h2⟩:=h
  simp at e
  obtain⟨rfl,rfl⟩:=e
  exact⟨x,rfl,h1⟩
 |(k0,x)::ks,_,i+1,k,v,h,e=>by
  unfold gL at h
  obtain⟨w,r,rfl,h1,h2⟩:=h
  obtain⟨y,e1,e2⟩:=gL.at (i:=i) h2 (by simpa using e)
  exact⟨y,by simpa using e1,e2⟩
end Sw
namespace Sw
open PySem PySem.Spec PyProof.Rows L2
variable [NmC]
abbrev Sh.gx (vs:List V):Sh:=.hl (vs.map .ex)
end Sw
namespace Sw
open PySem PySem.Spec PyProof.Rows L2
variable [NmC]
theorem RelV.fz {K:Frg} {O:Org} {Δ:List Md} {st:Ds} {σ:CS} {H:Hp} {G:Sa} {s:Sh} {d:D} {v:V} (h:RelV K O Δ st σ H G (.nw s) d v): ∃G',Rel K O Δ st σ H G'/\Rep K G' H d v:=by
 obtain⟨L,Lv,g,sl,ow⟩:=h
 have ow:Own K G H s d v Lv:=ow
 have nd:=List.nodup_append.mp g.nd
 refine⟨fun p=>G p\/p∈Lv,⟨L,⟨g.bin,g.fr0,fun p q=>.inl (g.gsub p q),fun p q=> ?_,fun p q=> ?_,g.dom,nd.2.1,fun p m=>⟨fun q=> ?_,(g.lg p (List.mem_append_right _ m)).2⟩,g.tl,g.tb⟩,Slots.mono (fun p q=>.inl q) aC aC (fun _ _=>rfl) sl⟩,Own.rep s d v Lv ow⟩
 ·rcases q with q|q
  ·exact g.gold p q
  ·rcases (g.lg p (List.mem_append_left _ q)).2 with h|h
   ·exact .inr (.inr (.inr h))
   ·exact .inr (.inl h)
 ·rcases q with q|q
  ·exact g.gin p q
  ·exact (Own.kind s d v Lv ow p q).ne
 ·rcases q with q|q
  ·exact (g.lg p (List.mem_append_right _ m)).1 q
  ·exact nd.2.2 p q p m rfl
end Sw
namespace Sw
open PySem PySem.Spec PyProof.Rows L2
variable [NmC]
section
variable {K:Frg} {S:Sa} {H:Hp}
def GV (H:Hp) (T:Sa) (L:List Addr):List (List Str×Int)->List V->Prop
 | [],vs=>vs=[]
 |g::gs,vs=> ∃t b r,vs= .ref t::r/\T t/\H t=some (.tup [.ref b,.int g.2])/\b∈L/\H b=some (.lst (g.1.map V.str))/\GV H T L gs r
theorem GV.more {T:Sa} {L L':List Addr} (s: ∀p∈L,p∈L'): ∀{gs:List (List Str×Int)} {vs:List V},GV H T L gs vs->GV H T L' gs vs
 | [],_,h=>h
 |_::_,_,⟨t,b,r,e,h1,h2,h3,h4,h5⟩=>⟨t,b,r,e,h1,h2,s b h3,h4,GV.more s h5⟩
end
end Sw
namespace Sw
open PySem PySem.Spec PyProof.Rows L2
variable [NmC]
def D.sd:D->Option D
 | .bl b=>some (.bl b)
 |_=>none
end Sw
namespace Sw
open PySem PySem.Spec PyProof.Rows L2
variable [NmC]
section
variable {X:Cx} {e:Expr} {es:List Expr} {ta:TA} {p pos:Pos}
theorem GW {cx:CXT} {x:Str} {C g:Addr} {k:Nat} {fd:FuncData} {ps:List Str} {sp:Sp} (T:OexC X.K C) (i1:PySem.W.findIn X.K (.ref C) "__init__" =some (some (.ref g))) (i2:PySem.W.typeIn X.K (.ref g)=some (.type "function"))
  (Fi:FnOk X.prog X.w X.K X.mg X.base cx k g fd ps sp) (hr:Room (k+1) X.A) (hb:Binds X.K fd ps []) (hx:Passes cx X (fun _ _ _=>False)) (hg:Gl X x) (hm:X.mg x=some (.ref C)) (ha:PA X (e::es) ta)
  (hdb:(x==("__debug__" :Str))=false) (he:starEach (e::es) X.env=(false,eval e X.env)::starEach es X.env) (hpl:(backTo pos (starEach es X.env)).any (·.1)=false):
  L2N.PMk X (.Call (.Name x p) (e::es) [] pos) (tMkO C sp [] ta):=by
 intro pins s σ H Q iv hh
 obtain⟨n1,n2,n3,n4,bm,n5,n6,n7,n8,n9,n10,n11,n12,n13,n14,lkC,hbm⟩:=T.cls
 refine wpAny_Call_Name_kw (ld_glob iv hg hm ?_ hdb)
 refine PySem.W.callWith_K (h₀:=X.base) iv.ok.mod.kin T.kC (thn (ha.run pos pins s σ H _ iv hh) fun us s1 ⟨vs,H1,iv1,rv1,_,q1⟩=>⟨iv1.kIn,?_⟩) he hpl
 show wpAny _ _ (call (.ref C) us) _ _ _
 obtain⟨hp,gs,dr,tk,os⟩:=s1
 have le1:hp.objs.size<=hp.objs.size+1:=Nat.le_succ _
 have qq:=q1 (hp.objs.size+1) (iv1.hok.fresh le1)
 rw[List.append_nil] at qq
 have keepB: ∀b o,hp.get? b=some o->((hp.push (PySem.W.kdv_tup us)).push (PySem.HandSPX.excO C hp.objs.size)).get? b=some o:=fun b o z=>Heap.get?_push_of_some _ (Heap.get?_push_of_some _ z)
 have there:((hp.push (PySem.W.kdv_tup us)).push (PySem.HandSPX.excO C hp.objs.size)).get? (hp.objs.size+1)=some (PySem.HandSPX.excO C hp.objs.size):=by heap_get
 have iv2:Inv X pins σ (upd H1 (hp.objs.size+1) (exo (hp.objs.size+1) C none)) ⟨(hp.push (PySem.W.kdv_tup us)).push (PySem.HandSPX.excO C hp.objs.size),gs,dr,tk,os⟩:=iv1.laid (t':=tk) (a:=hp.objs.size+1) (o:=exo (hp.objs.size+1) C none) (h':=(hp.push (PySem.W.kdv_tup us)).push (PySem.HandSPX.excO C hp.objs.size)) keepB le1 (exo_ok there)
 have rv2:Vals (V.ref (hp.objs.size+1)::vs) (Value.ref (hp.objs.size+1)::us):=.cons rfl rv1
 have bO:=hb _ (Value.ref (hp.objs.size+1)::us) iv2.kIn (by rw[List.append_nil];exact rv2.length.symm.trans (Fi.len _ _ _ _ qq))
 rw[List.append_nil] at bO
 have short:us.length<=sizeLine:=by
  have:=Paired.length rv1
  rw[sizeLine_eq]
  omega
 refine wpAny_call (PySem.HandSPX.call_own PySem.F.excBase_ValueError (fun Y=>PySem.HandSPX.refsVE_contains Y bm hbm) (iv1.kIn _ _ lkC) (PySem.W.looks_findIn iv1.kIn i1) (fun self=>PySem.W.bind_fn iv1.kIn self i2) short
  (codeAny_mono (Fi.run _ X.stack _ _ ⟨Value.ref (hp.objs.size+1)::us,[]⟩ (Value.ref (hp.objs.size+1)::us) _ _ (fun _ _ _=>False) (hr.make C us []) (iv2.env0.make C us []) bO rv2 qq) fun r s2 hq=> ?_))
 match r,hq with
 | .error er,hq=>exact hx pins σ _ _ er s2 iv2 hq
 | .ok (.ret u),hq=>
  obtain⟨v,H2,os2,ba2,un2,hok2,rv,ev,d,fs,ea,ed,hd1,q2⟩:=hq
  subst ev
  obtain⟨h2,g2,d2,t2,os'⟩:=s2
  obtain⟨t0,G,J,kG,ge,hoe,na⟩:=mk_end0 (d2:=d2) (t2:=t2) iv1 le1 keepB un2 hok2 os2 ba2 ea ed hd1
  exact⟨rv,hp.objs.size+1,_,_,⟨G,g2,d2,t2,os'⟩,_,.ref C,some d,rfl,J,kG,ge,hoe,⟨rfl,rfl,fun vs hv=>by cases hv;rfl⟩,rfl,rfl,na,rfl,ba2,raises_own T.exC T.tyC,q2⟩
 | .ok .next,hq=>exact hq.elim
 | .ok .brk,hq=>exact hq.elim
 | .ok .cont,hq=>exact hq.elim
end
section
variable {P:Program} {w:World} {K:Frg} {mg:Str->Option Value} {base:Heap}
theorem Js {qual pn fld:Str} {st:Stmt} {f C:Addr} {fd:FuncData} (F:Fun K "__init__" qual st f fd) (S:FnScope ["self",pn] ["self",pn] (defScope st)) (T:OexC K C) (no:PySem.W.findIn K (.ref C) fld=some none)
  (h: ∀(cdv:Value) (A:Around) (outer:List Env) (s:Shared) (H:Hp) (E:XK) (p:Addr×Obj),PSs (L2H.cxH CX0 P w K mg base ["self",pn] qual (defScope st) f cdv A outer s H E p) (defBody st) (Mm K fld)):
  L2H.FnH P w K mg base CX0 1 f fd ["self",pn] (wG K C fld):=by
 obtain⟨oc,od,kV,doc,pm,an,cdv,ct,osl,rfl,lk,hcd⟩:=F.ex
 exact L2H.fn_ofH (k:=0) lk hcd S (fun vs H Q E ⟨a,v,e,_⟩=>by rw[e];rfl) fun A outer s H vs Q E p _ _ ⟨a,v,ev,ea,q⟩=>⟨_,h cdv A outer s H E p,by
  subst ev
  exact⟨a,C,v,rfl,rfl,T,no,ea,fun dx n ne=>q dx n ne⟩⟩
end
structure Jt (P:Program) (w:World) (K:Frg) (mg:Str->Option Value) (base:Heap) (Cn fld:Str):Prop where
 xc:Xcl P w K mg base Cn fld
 inh: ∃(fI:Addr) (fd:FuncData) (ps:List Str),PySem.W.findIn K (.ref (He.ga K Cn)) "__init__" =some (some (.ref fI))/\PySem.W.typeIn K (.ref fI)=some (.type "function")/\L2H.FnH P w K mg base CX0 1 fI fd ps (wG K (He.ga K Cn) fld)/\Binds K fd ps []
section
variable {X:Cx} {α β:Type} {E:Exits α β} {Δ:List Md} {st:Ds} {rest:List Stmt} {e:Expr} {ra:Option D}
theorem GX {Cn fld:Str} {O:Org} {G:Sa} {q:Out α β} {σ:CS} {H:Hp} (rel:Rel X.K O Δ st σ H G) (er:(ra.bind fun d=>some (Out.exc (α:=α) (β:=β) ⟨Cn,[(fld,d)]⟩))=some q) (kk: ∀De,Meets X.K E O De q):
  tMkO (He.ga X.K Cn) (wG X.K (He.ga X.K Cn) fld) [] (tCons (rdE X.K Δ st (.rg .fz) ra) tNil) σ H fun c d H'=>E.xw c d H':=by
 obtain⟨d,e1,e2⟩:=bind1 er
 cases e2
 refine rdE.go rel e1 fun v H1 G1 rel1 x1 v1=>⟨by simp,fun a hn=> ?_⟩
 refine⟨a,v,rfl,upd_same,fun dx hd ne=>⟨rfl,dx,[(fld,v)],upd_same,by rw[upd_ne ne,upd_same],?_,?_⟩⟩
 ·rw[upd_ne ne] at hd;exact hd
 ·have hd1:H1 dx=none:=by rw[upd_ne ne] at hd;exact hd
  have eH:upd (del (upd (upd (upd H1 a (exo a (He.ga X.K Cn) none)) dx (exd dx [(fld,v)])) a (exo a (He.ga X.K Cn) (some dx))) a) dx (.xd [(fld,v)])=upd H1 dx (.xd [(fld,v)]):=by
   funext b
   by_cases hb:b=dx
   ·rw[hb,upd_same,upd_same]
   ·rw[upd_ne hb,upd_ne hb]
    by_cases hba:b=a
    ·rw[hba,del_same,hn]
    ·rw[del_ne hba,upd_ne hba,upd_ne hb,upd_ne hba]
  rw[eH]
  have x2:Ext H1 G1 (upd H1 dx (.xd [(fld,v)])) G1:=.new hd1
  have rel2:=rel1.ext x2
  obtain⟨L,g2,_⟩:=rel2
  obtain⟨L1,g1,_⟩:=rel1
  refine kk {nx:=fun _ _=>True,rt:=fun _ _=>True} _ _ _ G1 ⟨rfl,⟨L,g2⟩,.inr ⟨dx,_,rfl,upd_same,g1.back hd1,fun gd=>g1.gin dx gd hd1,?_⟩⟩
  exact fg.one (S:=G1) (H:=H1) (Rep.mono (fun _ g=>g) (vk hd1) _ _ (show Rep X.K G1 H1 d v from v1))
theorem tF {Cn fld:Str} {p pos rpos:Pos} {k:Nat} (T:Xcl X.prog X.w X.K X.mg X.base Cn fld) (hr:Room (k+2) X.A) (hg:Gl X Cn) (tk:L2N.Takes X fun c d _ H=>E.xw c d H) (ha:PX X Δ st e (.rg .fz) ra)
  (hc:X.calm=true:=by rfl) (hdb:(Cn==("__debug__" :Str))=false:=by decide) (he:starEach [e] X.env=(false,eval e X.env)::starEach [] X.env:=by rfl) (hpl:(backTo pos (starEach [] X.env)).any (·.1)=false:=by rfl):
  Blk X E Δ st (.Raise (some (.Call (.Name Cn p) [e] [] pos)) none rpos::rest) (ra.bind fun d=>some (.exc ⟨Cn,[(fld,d)]⟩)):=by
 obtain⟨fI,fd,ps,i1,i2,F,hb⟩:=T.ini
 refine cV (pss_cons (L2N.ps_raise hc tk (GW T.ox i1 i2 F (hr.mono (by omega)) hb pass0 hg T.gm (pa_cons ha pa_nil he) hdb he hpl)) pss_never) fun De σ H ⟨O,G,q,rel,er,kk⟩=> ?_
 obtain⟨d,e1,e2⟩:=bind1 er
 cases e2
 exact GX (q:=.exc ⟨Cn,[(fld,d)]⟩) rel (by rw[e1];rfl) fun _=>kk
end
section
variable {X:Cx} {x:Str} {c:Value} {body suite orelse:List Stmt} {b₀:Stmt} {np pos pos':Pos} {tb:WX->TS} {ts:Addr->Value->Option Addr->TS} {Wo:WX} {u:TS}
theorem Ju (ho:PSs X orelse u) (hs:X.stack=X.env::X.outer) (hf:X.env.frame=some X.env.locals) (hc:Names X x c) (hpa: ∀hd:Option Value,PassesOwnAt (model X.prog X.w) (X.A.mark hd) X.A X.env X.xe) (tk:L2.Takes X Wo)
  (hb: ∀(W:WX) (pn:List (Addr×Obj)) (xe:Value->Shared->Prop),L2N.Takes (X.tr pn xe) W->PassesOwn (model X.prog X.w) X.A X.env xe->PSs (X.tr pn xe) body (tb W))
  (hsu: ∀(a:Addr) (oe:Obj) (cls:Value) (d:Option Addr) (pn:List (Addr×Obj)),L2.Takes (L2H.suiteX X a ((a,oe)::pn)) Wo->L2H.HotC (L2H.suiteX X a ((a,oe)::pn))->PSs (L2H.suiteX X a ((a,oe)::pn)) (b₀::suite) (ts a cls d)):
  PS X (.Try body [.ExceptHandler (some (.Name x np)) none (b₀::suite) pos'] orelse [] pos) (fun De σ H=>tb (wOnly X.K c ts (fun _ _ _ _=>False) De) {De with nx:=u De} σ H):=by
 refine⟨fun pins s σ H De iv hh=> ?_⟩
 have okX:=iv.ok
 have frX:X.A.frames=some (X.env::X.outer):=okX.frames.trans (congrArg some hs)
 refine wpAny_Try_except (wpAny_mono ((hb _ (X.pn++pins) (fun ev s1=>wpAny (model X.prog X.w) X.A (noteFrame ev X.env) (fun _ s2=>wpAny (model X.prog X.w) X.A (setFlight ev none) (fun _ s3=>
  wpAny (model X.prog X.w) X.A (handleBy ev X.env [.ExceptHandler (some (.Name x np)) none (b₀::suite) pos']) (SP X pins De) X.xe s3) X.xe s2) X.xe s1) (fun ev sN air=> ?_) PassesOwn.looking).run [] s σ H {De with nx:=u De} (iv.toTry _) hh) (fun fl s1 hsp=> ?_) (fun _ _ z=>z))
 ·
  obtain⟨a,B,sI,pins',σ1,H1,cls,d,rfl,jv',nb,up,sky,na,os,ag,b,hb1,yes,no⟩:=air
  have jv:Inv X pins σ1 H1 sI:=jv'.ofTry okX
  have sky1:Sky B (X.env::X.outer) a (L2N.Zn cls d) X.env.locals sN.heap:=by rw[<-hs];exact sky
  show wpAny (model X.prog X.w) X.A (noteFrame (.ref a) X.env) _ _ _
  refine L2N.Sky.land L2N.Zn.steady frX hf sky1 fun h3 fl3 up3=> ?_
  have j3:Inv X pins σ1 H1 {sN with heap:=h3}:=jv.landed nb fl3.1 (up.trans up3) os ag
  obtain⟨oe3,vs3,g3,z3,dd3⟩:=fl3.there
  have outF:a∉frs (X.env::X.outer):=fun hm=>by
   obtain⟨_,oo,ge,nf⟩:=fl3.2.2.1.mem hm
   rw[g3] at ge;cases ge
   exact nf _ dd3
  have outL:a≠X.env.locals:=fun z=>outF (List.mem_filterMap.mpr ⟨X.env,List.mem_cons_self,by rw[hf,z]⟩)
  have outS:a∉X.fs:=fun hm=>by
   obtain⟨en,m1,m2⟩:=List.mem_filterMap.mp hm
   exact outF (List.mem_filterMap.mpr ⟨en,List.mem_cons_of_mem _ m1,m2⟩)
  have s3:=j3.suite g3 dd3 na outL outS
  refine wpAny_handleBy_cons (codeAny_handlers_test ?_) (by intro q;cases q)
  have ty:PySem.W.Looks (model X.prog X.w) h3 (typeOf (.ref a)) cls:=fun A Q E s k q=>wpAny_typeOf_ref (k _ _ g3) (by rw[z3.1];exact q)
  have look:=(PySem.W.exm_one (M:=model X.prog X.w) (j3.kIn) ty hb1)
  have named: ∀{Q:Value->Shared->Prop} {E:Value->Shared->Prop},Q c {sN with heap:=h3}->wpAny (model X.prog X.w) (X.A.mark (some (.ref a))) (eval (.Name x np) X.env) Q E {sN with heap:=h3}:=fun {Q E} q=>by
   obtain⟨h1,h2,h3'|⟨h4,h5,h6⟩⟩:=hc
   ·exact ld_glob (X:=X.suite a ((a,oe3)::(X.pn++pins))) s3 h1 h3' q h2
   ·exact ld_blt (X:=X.suite a ((a,oe3)::(X.pn++pins))) s3 h1 h4 h5 q h6 h2
  refine named (look.here ?_)
  cases b with
  |false=>exact (no rfl).elim
  |true=>
   refine codeAny_handlers_suite (HandSPX.lands_againZ fl3 fun h4 fl4 up4=> ?_)
   have j4:Inv X pins σ1 H1 {sN with heap:=h4}:=jv.landed nb fl4.1 ((up.trans up3).trans up4) os ag
   obtain⟨oe4,vs4,g4,z4,dd4⟩:=fl4.there
   have s4:=j4.suite g4 dd4 na outL outS
   have tkS:L2.Takes (L2H.suiteX X a ((a,oe4)::(X.pn++pins))) Wo:=fun u2 s2 x2=>by
    obtain⟨a2,B2,t2,pn2,σ2,H2,cls2,d2,e2,I2,r2⟩:=x2
    exact tk u2 s2 ⟨a2,B2,t2,pins,σ2,H2,cls2,d2,e2,L2H.unsuiteX I2 okX,r2⟩
   have hot:L2H.HotC (L2H.suiteX X a ((a,oe4)::(X.pn++pins))):=⟨(a,oe4),⟨rfl,vs4,dd4,z4.2.2 vs4 dd4⟩,List.mem_cons_self⟩
   refine wpAny_mono ((hsu a oe4 cls d (X.pn++pins) tkS hot).run [] _ _ H1 _ (L2H.suiteX_of s4) (yes rfl a na)) (fun fl s6 hsp=> ?_) (fun e6 s6 z=>hpa (some (.ref a)) e6 s6 z)
   match fl,hsp with
   | .next,⟨σ6,H6,i6,q6⟩=>exact⟨σ6,H6,L2H.unsuiteX i6 okX,q6⟩
   | .brk,⟨σ6,H6,i6,q6⟩=>exact⟨σ6,H6,L2H.unsuiteX i6 okX,q6⟩
   | .cont,⟨σ6,H6,i6,q6⟩=>exact⟨σ6,H6,L2H.unsuiteX i6 okX,q6⟩
   | .ret v,⟨v6,σ6,H6,i6,r6,q6⟩=>exact⟨v6,σ6,H6,L2H.unsuiteX i6 okX,r6,q6⟩
 ·match fl,hsp with
  | .next,⟨σ1,H1,jv,q⟩=>exact ho.run pins s1 σ1 H1 De (jv.ofTry okX) q
  | .brk,⟨σ1,H1,jv,q⟩=>exact⟨σ1,H1,jv.ofTry okX,q⟩
  | .cont,⟨σ1,H1,jv,q⟩=>exact⟨σ1,H1,jv.ofTry okX,q⟩
  | .ret v,⟨v1,σ1,H1,jv,r,q⟩=>exact⟨v1,σ1,H1,jv.ofTry okX,r,q⟩
end
def MA {α β γ:Type} (mb:Option (Xn ⊕ γ)) (Cn fld:Str) (ra:Option D) (k:γ->Option (Out α β)):Option (Out α β):=mb.bind fun r=>match r with
 | .inl x=>if x.C=Cn then ra.bind fun d=>some (.exc ⟨Cn,[(fld,d)]⟩) else none
 | .inr g=>k g
end Sw
namespace Sw
open PySem PySem.Spec PyProof.Rows L2
variable [NmC]
section
variable {P:Program} {w:World} {K:Frg} {mg:Str->Option Value} {base:Heap}
abbrev cxN (P:Program) (w:World) (K:Frg) (mg:Str->Option Value) (base:Heap) (N:List Str) (qual:Str) (sc:Scope) (f:Addr) (cdv:Value) (A:Around) (outer:List Env) (s:Shared) (H:Hp) (E:XK):Cx:=
 cxOf (L2N.CX P w) P w K mg base N qual sc f cdv A outer s H E
theorem qN {N:List Str} {qual:Str} {sc:Scope} {f:Addr} {cdv:Value} {A:Around} {outer:List Env} {s:Shared} {H:Hp} {E:XK}:L2N.Takes (cxN P w K mg base N qual sc f cdv A outer s H E) (fun c d _ H=>E c d H):=L2N.takes_of rfl rfl rfl rfl
theorem Co {x qual:Str} {st:Stmt} {f:Addr} {fd:FuncData} {N ps:List Str} {k n:Nat} {ms:List PM} {rm:VM} {Fs:List D->Option FR} (F:Fun K x qual st f fd) (S:FnScope N ps (defScope st)) (hl:ms.length=ps.length) (hn:N.length=ps.length+n)
  (h: ∀(cdv:Value) (A:Around) (outer:List Env) (s:Shared) (H:Hp) (vs:List V) (E:XK),Room k (A.deeper (envOfC qual (defScope st) s.heap.objs.size f cdv))->vs.length=ms.length-> ∀ds fr,ds.length=ms.length->Fs ds=some fr→
   ∃m,Blk (cxN P w K mg base N qual (defScope st) f cdv A outer s H E) (fnX rm (bw ms vs) E) (wy ms vs++List.replicate n .fz) (ds.map some++List.replicate n none) (defBody st) m/\m.bind outF=some fr):
  FnOk P w K mg base (L2N.CX P w) (k+1) f fd ps (FSp K ms rm Fs):=by
 obtain⟨oc,od,kV,doc,pm,an,cdv,ct,osl,rfl,lk,hcd⟩:=F.ex
 refine fn_of lk hcd S (fun vs H Q E ⟨O,ds,fr,e,g,a,_⟩=>a.len.1.trans hl) (fun A outer s H vs Q E hr ⟨O,ds,fr,e,g,a,ef,q⟩=> ?_)
 obtain⟨hv,hd⟩:=a.len
 obtain⟨m,hb,hm⟩:=h cdv A outer s H vs E hr hv ds fr hd ef
 refine⟨_,hb,?_⟩
 obtain⟨o,e1,e2⟩:=bind1 hm
 have hs:L2.start N vs=vs.map some++List.replicate n none:=by
  unfold L2.start
  rw[show N.length -vs.length=n by omega]
 rw[hs]
 refine⟨O,O.G0,o,⟨O.L0,g,lK a⟩,e1,?_⟩
 cases o with
 |nx a=>exact a.elim
 |bk a=>exact a.elim
 |ct a=>exact a.elim
 |ret d os=>
  cases e2
  exact fun v H' G' r=>⟨q v H' G' r,fun _ ev σ=>by subst ev;exact q _ H' G' r⟩
 |exc x=>
  cases e2
  exact fun c od H' G' r=>q c od H' G' r
end
structure wH (P:Program) (w:World) (K:Frg) (mg:Str->Option Value) (base:Heap) (k:Nat) (x:Str) (ps:List Str) (ms:List PM) (rm:VM) (Fs:List D->Option FR):Prop where
 ok: ∃(f:Addr) (fd:FuncData),FnOk P w K mg base (L2N.CX P w) k f fd ps (FSp K ms rm Fs)/\mg x=some (.ref f)/\PySem.W.keepIn K (.ref f)=true/\Binds K fd ps []
section
variable {X:Cx} {Δ:List Md} {st:Ds} {e:Expr} {es:List Expr} {rm:VM} {rs:Option (List D)} {pos p:Pos} {vms:List VM} {ps:List PM} {Fs:List D->Option FR} {k k':Nat} {pn:List Str} {x:Str}
theorem nA {W:WX} {ra:Option (List D)} (C:wH X.prog X.w X.K X.mg X.base k x pn ps rm Fs) (hr:Room k' X.A) (tk:L2N.Takes X W) (ha:PAx X Δ st (e::es) vms ra) (hg:Gl X x:=by rfl) (hk:k<=k':=by decide) (ok:hO ps vms=true:=by rfl)
  (hdb:(x==("__debug__" :Str))=false:=by decide) (he:starEach (e::es) X.env=(false,eval e X.env)::starEach es X.env:=by rfl) (hpl:(backTo pos (starEach es X.env)).any (·.1)=false:=by rfl):
  PE X (.Call (.Name x p) (e::es) [] pos) (rdX X.K W Δ st rm ((ra.bind Fs).bind frX)):=by
 obtain⟨f,fd,F,hm,hkp,hb⟩:=C.ok
 refine bj (pe_callS (E:=WE W) F (hr.mono hk) hg hm hkp hb (fun σ=>L2N.passAt tk σ) ha hdb he hpl) fun σ H Q ⟨O,G,y,rel,er,kk⟩=> ?_
 rw[Option.bind_assoc] at er
 obtain⟨ds,e1,e2⟩:=bind1 er
 exact⟨O,G,ds,rel,e1,fun vs H1 G1 x1 v1=>yH ok rel e2 x1 v1 (by cases y <;> exact kk)⟩
end
theorem Jv:allM (.rg .fz) [.rg .fz,.rg .fz,.rg .fz,.rg .fz,.rg .fz,.rg .fz,.rg .fz,.rg .fz,.rg .fz,.rg .fz,.rg .fz,.rg .fz,.rg .fz,.rg .fz,.rg .fz]:=⟨rfl,rfl,rfl,rfl,rfl,rfl,rfl,rfl,rfl,rfl,rfl,rfl,rfl,rfl,rfl,trivial⟩
end Sw
namespace Sw
open PySem PySem.Spec PyProof.Rows L2
variable [NmC]
section
variable {P:Program} {w:World} {K:Frg} {mg:Str->Option Value} {base:Heap} {H:Hp} {h:Heap} {c:Addr} {v:V}
theorem vy (hok:HOk P w H h) (e:kU c v (H c)): ∃u,L2.RelV v u/\h.IsCell c (some u):=by
 obtain⟨φ,e,z⟩:=e
 obtain⟨q,_,_⟩:=hok c _ e
 exact z _ q
theorem pA {b:Addr} (n:H b=none):del H c b=none:=by
 unfold del
 split
 ·rfl
 ·exact n
theorem k9 {u:HO} {a:Addr} (e:kU c v (H c)) (q:H a=some u) (d: ∀φ,u≠ .ext φ):a≠c:=fun z=>by
 obtain⟨φ,e,_⟩:=e
 rw[z,e] at q
 cases q
 exact d _ rfl
theorem D2 {a:Addr} {q:Str} (hok:HOk P w H h) (e:kU c v (H c)) (ea:H a=some (LamX.CodeO a q)):a≠c:=fun z=>by
 subst z
 obtain⟨u,_,o,g,d⟩:=vy hok e
 obtain⟨⟨oc,vs,t,g2,d2,_⟩,_,_⟩:=hok a _ ea
 rw[g] at g2;cases g2
 rw[d] at d2;cases d2
theorem K7 {a f' c0:Addr} {F:FnT} (hok:HOk P w H h) (ea:H a=some (F.ho a c0 f')):PySem.W.FnAt a h:=by
 unfold FnT.ho at ea
 split at ea
 ·obtain⟨od,sl,doc,pm,ctv,g⟩:=NdefX.fnO_at hok ea
  exact⟨_,od,_,sl,g⟩
 ·obtain⟨⟨pm,ctv,g⟩,_,_⟩:=hok a _ ea
  exact⟨_,_,_,_,g⟩
theorem Ot {a f' c0:Addr} {F:FnT} (hok:HOk P w H h) (e:kU c v (H c)) (ea:H a=some (F.ho a c0 f')):a≠c:=fun z=>by
 subst z
 obtain⟨u,_,o,g,d⟩:=vy hok e
 obtain⟨_,_,_,_,g2⟩:=K7 hok ea
 rw[g] at g2;cases g2
 cases d
theorem Jw (hok:HOk P w H h) (e:kU c v (H c)):HOk P w (del H c) h:=fun a o q=>by
 by_cases hb:a=c
 ·rw[hb,del_same] at q;cases q
 ·rw[del_ne hb] at q
  exact (hok a o q).stay (fun b u _ z=>z) (fun b z=>by rw[del_ne (k9 e z fun _ y=>by cases y)];exact z) (fun b xs z=>by rw[del_ne (k9 e z fun _ y=>by cases y)];exact z)
theorem GY {A:Around} {outer:List Env} {s:Shared} (e0:Env0 P w K mg base A outer s H) (e:kU c v (H c)):Env0 P w K mg base A outer s (del H c):=
 ⟨e0.frames,e0.mod,fun b o z=>⟨(e0.bs b o z).1,pA (e0.bs b o z).2⟩,e0.bsz,e0.funs,fun b hb=>pA (e0.frf b hb),Jw e0.hok e,e0.bare⟩
theorem AY {T:List (Addr×Str)} (hok:HOk P w H h) (e:kU c v (H c)) (t:LamX.Tabs T H):LamX.Tabs T (del H c):=fun p hp=>by
 obtain⟨ps,h1,h2,h3⟩:=t p hp
 refine⟨ps,by rw[del_ne (k9 e h1 fun _ y=>by cases y)];exact h1,h2,fun pos cv hc=> ?_⟩
 obtain⟨c',e1,e2⟩:=h3 pos cv hc
 exact⟨c',e1,by rw[del_ne (D2 hok e e2)];exact e2⟩
theorem Jy {φ:Heap->Prop} {outer:List Env} {s s':Shared} {Q Q':VK} {u:Value} (hok:HOk P w H s.heap) (frf: ∀b∈frs outer,H b=none) (e:H c=some (.ext φ)) (hφ: ∀h,φ h-> ∃u,L2.RelV v u/\h.IsCell c (some u)) (x:CE outer P w (del H c) s Q' u s')
  (hq: ∀v' H',H' c=none->Q' v' H'->Q v' (upd H' c (.ext φ))):CE outer P w H s Q u s':=by
 obtain⟨v',H',os,ba,un,hk,rv,q⟩:=x
 have ci:kU c v (H c):=⟨φ,e,hφ⟩
 obtain⟨u0,r0,o0,g0,d0⟩:=vy hok ci
 obtain⟨p0,_,st0⟩:=hok c _ e
 have cn:c∉frs outer:=fun m=>by rw[frf c m] at e;cases e
 have hn:H' c=none:=un.free c o0 g0 del_same (by simp)
 have ne: ∀{b:Addr} {z:HO},H' b=some z->b≠c:=fun q y=>by rw[y,hn] at q;cases q
 refine⟨v',upd H' c (.ext φ),os,ba,⟨fun b o z n=>un.keep b o z (pA n),fun b o z n=>un.slot b o z (pA n),fun b o z n hx=> ?_,un.there,fun b xs z=> ?_,fun b o u z=> ?_,fun b ps z=> ?_⟩,fun a o z=> ?_,rv,hq v' H' hn q⟩
 ·rw[upd_ne (fun y=>by rw[y,e] at n;cases n)]
  exact un.free b o z (pA n) hx
 ·have hb:=k9 ci z fun _ y=>by cases y
  rw[upd_ne hb]
  exact un.tups b xs (by rw[del_ne hb];exact z)
 ·have hb:=k9 ci z fun _ y=>by cases y
  rw[upd_ne hb]
  exact un.frzs b o u (by rw[del_ne hb];exact z)
 ·have hb:=k9 ci z fun _ y=>by cases y
  rw[upd_ne hb]
  exact un.tbls b ps (by rw[del_ne hb];exact z)
 ·by_cases hb:a=c
  ·rw[hb,upd_same] at z
   cases z
   rw[hb]
   exact⟨st0 _ _ p0 fun o z=>un.keep c o z del_same cn (by simp),⟨o0,un.keep c o0 g0 del_same cn (by simp)⟩,st0⟩
  ·rw[upd_ne hb] at z
   exact (hk a o z).stay (fun _ _ _ y=>y) (fun b y=>by rw[upd_ne (ne y)];exact y) (fun b xs y=>by rw[upd_ne (ne y)];exact y)
def cSp (K:Frg) (ms:List PM) (rm:VM) (Fs:List D->Option FR):List (Option V)->Sp:=fun ws vs H Q E=> ∃wv,ws=[some wv]/\FSp K (ms++[.bo]) rm Fs (vs++[wv]) H Q E
theorem vA {F:FnT} {N ps:List Str} {f c c':Addr} {k n:Nat} {ms:List PM} {rm:VM} {Fs:List D->Option FR} (S:NdefX.NScope N ps [F.y] F.scope) (hl:ms.length=ps.length) (hn:N.length=ps.length+1+n)
  (hb: ∀(doc pm ctv:Value) (us:List Value),us.length=ps.length->bindArgs ((F.nf c c').fd doc pm ctv) ⟨us,[]⟩=pure (ps.zip us))
  (h: ∀(A:Around) (outer:List Env) (s:Shared) (H:Hp) (vs:List V) (E:XK),Room k (A.deeper (NdefX.envF (F.nf c c') f s.heap.objs.size))->vs.length=(ms++[PM.bo]).length-> ∀ds fr,ds.length=(ms++[PM.bo]).length->Fs ds=some fr→
   ∃m,Blk (NdefX.ncx CX0 P w K mg base N (F.nf c c') f A outer s H E).nox (fnX rm (bw (ms++[.bo]) vs) E) (wy (ms++[.bo]) vs++List.replicate n .fz) (ds.map some++List.replicate n none) F.body m/\m.bind outF=some fr):
  NdefX.NOk P w K mg base CX0 (k+1) f (F.nf c c') ps [F.y] (cSp K ms rm Fs):=by
 refine NdefX.nok_of S hb (fun ws vs H Q E ⟨wv,_,O,ds,fr,e,g,a,_⟩=> ?_) fun A outer s H vs ws Q E hr _ _ _ ⟨wv,ew,O,ds,fr,e,g,a,ef,q⟩=> ?_
 ·have:=a.len.1
  rw[List.length_append,List.length_append] at this
  simp at this
  omega
 ·subst ew
  obtain⟨hv,hd⟩:=a.len
  obtain⟨m,hb,hm⟩:=h A outer s H (vs++[wv]) E hr hv ds fr hd ef
  refine⟨_,PSs.nox hb,?_⟩
  obtain⟨o,e1,e2⟩:=bind1 hm
  have hvl:vs.length=ps.length:=by
   rw[List.length_append,List.length_append] at hv
   simp at hv
   omega
  have hs:NdefX.startF N vs [some wv]=(vs++[wv]).map some++List.replicate n none:=by
   unfold NdefX.startF
   rw[show N.length -vs.length -([some wv]:List (Option V)).length=n by simp;omega,List.map_append,List.append_assoc]
   rfl
  rw[hs]
  refine⟨O,O.G0,o,⟨O.L0,g,lK a⟩,e1,?_⟩
  cases o with
  |nx a=>exact a.elim
  |bk a=>exact a.elim
  |ct a=>exact a.elim
  |ret d os=>
   cases e2
   exact fun v H' G' r=>⟨q v H' G' r,fun _ ev σ=>by subst ev;exact q _ H' G' r⟩
  |exc x=>
   cases e2
   exact fun c od H' G' r=>q c od H' G' r
def Cp (P:Program) (w:World) (K:Frg) (mg:Str->Option Value) (base:Heap) (k:Nat) (F:FnT) (Fs:List D->Option FR):Prop:=
 ∀(f c c':Addr) (A:Around) (outer:List Env) (s:Shared) (H:Hp) (us:List Value) (vs:List V) (wv:V) (Q:VK) (E:XK),Room k A->Env0 P w K mg base A outer s H->H f=some (F.ho f c c')->H c'=some (LamX.CodeO c' F.qual)→
  NdefX.CellsAt [(F.y,c)] [F.y] [some wv] s.heap H->Vals vs us->FSp K ([.bo,.bo]++[.bo]) (.rg .fz) Fs (vs++[wv]) H Q E->codeAny (model P w) A (.call (.ref f) ⟨us,[]⟩) (CR CX0 outer P w H s Q E) s
theorem se {F:FnT} {k:Nat} {ps:List Str} {Fs:List D->Option FR} (he:F.ex=none) (N: ∀f c c',NdefX.NOk P w K mg base CX0 k f (F.nf c c') ps [F.y] (cSp K [.bo,.bo] (.rg .fz) Fs)):Cp P w K mg base k F Fs:=
 fun f c c' A outer s H us vs wv Q E hr e0 ef ec C r q=>(N f c c').run A outer s H us vs [some wv] Q E hr e0 (by unfold FnT.ho at ef;rw[he] at ef;exact ef) ec C r ⟨wv,rfl,q⟩
theorem Jz {F:FnT} {f c':Addr} {k:Nat} {Fs:List D->Option FR} {wv:V} {A:Around} {outer:List Env} {s:Shared} {us:List Value} {vs:List V} {Q:VK} {E:XK} (N:Cp P w K mg base k F Fs)
  (hr:Room k A) (e0:Env0 P w K mg base A outer s H) (ef:H f=some (F.ho f c c')) (ec:H c'=some (LamX.CodeO c' F.qual)) (e:kU c wv (H c)) (r:Vals vs us)
  (q:FSp K ([.bo,.bo]++[.bo]) (.rg .fz) Fs (vs++[wv]) (del H c) (fun v' H'=>H' c=none-> ∀φ,H c=some (.ext φ)->Q v' (upd H' c (.ext φ))) E):codeAny (model P w) A (.call (.ref f) ⟨us,[]⟩) (CR CX0 outer P w H s Q E) s:=by
 obtain⟨u0,r0,o0,g0,d0⟩:=vy e0.hok e
 have C:NdefX.CellsAt [(F.y,c)] [F.y] [some wv] s.heap (del H c):=by
  have lk: ∀{y:Str} {a:Addr},List.lookup y [(F.y,c)]=some a->y=F.y/\a=c:=fun {y a} z=>by
   unfold List.lookup at z
   split at z
   ·rename_i hb
    cases z
    exact⟨eq_of_beq hb,rfl⟩
   ·cases z
  refine⟨rfl,fun y a z=> ?_,fun x y a z1 z2=>(lk z1).1.trans (lk z2).1.symm,fun i y z=> ?_⟩
  ·obtain⟨_,rfl⟩:=lk z
   exact⟨del_same,_,o0,g0,d0⟩
  ·cases i with
   |succ i=>simp at z
   |zero=>
    cases z
    refine⟨c,by show List.lookup F.y [(F.y,c)]=_;simp[List.lookup],fun v z=> ?_⟩
    cases z
    exact⟨u0,r0,o0,g0,d0⟩
 refine codeAny_mono (N f c c' A outer s (del H c) us vs wv _ E hr (GY e0 e) (by rw[del_ne (Ot e0.hok e ef)];exact ef) (by rw[del_ne (D2 e0.hok e ec)];exact ec) C r q) fun r s' hq=> ?_
 match r,hq with
 | .error _,hq=>exact hq.elim
 | .ok (.ret u),hq=>
  obtain⟨φ,eφ,hφ⟩:=e
  exact Jy e0.hok e0.frf eφ hφ hq fun v' H' n z=>z n φ eφ
 | .ok .next,hq=>exact hq.elim
 | .ok .brk,hq=>exact hq.elim
 | .ok .cont,hq=>exact hq.elim
abbrev mV:List PM:=[.bo,.bo,.bo]
structure sj (P:Program) (w:World) (K:Frg) (mg:Str->Option Value) (base:Heap) (k:Nat) (Fs:List D->Option FR):Prop where
 at_: ∀{h:Heap} {H:Hp} {S:Sa} {u:Value} {v:V} {d:D} {ds:List D} {fr:FR},K.In h->HOk P w H h->L2.RelV v u->Rep K S H d v->Fs (d::ds)=some fr-> ∃q,u= .ref q/\PySem.W.FnAt q h
 run: ∀{A:Around} {outer:List Env} {s:Shared} {H:Hp} {u:Value} {us:List Value} {v:V} {vs:List V} {Q:VK} {E:XK},Room k A->Env0 P w K mg base A outer s H->L2.RelV v u->Vals vs us->FSp K mV (.rg .fz) Fs (v::vs) H Q E→
  codeAny (model P w) A (.call u ⟨us,[]⟩) (CR CX0 outer P w H s Q E) s
theorem Fb {k:Nat}:sj P w K mg base k (fun _=>none):=⟨fun _ _ _ _ e=>(nomatch e),fun _ _ _ _ ⟨_,_,_,_,_,_,e,_⟩=>(nomatch e)⟩
structure JA (P:Program) (w:World) (K:Frg) (mg:Str->Option Value) (base:Heap) (k:Nat) (x:Str) (Fs:List D->Option FR):Prop where
 lk: ∃oc od fd sl,K.lookup (He.ga K x)=some (⟨oc,od,.func fd,sl⟩:Obj)
 ok: ∃(fd:FuncData) (ps:List Str),FnOk P w K mg base CX0 k (He.ga K x) fd ps (FSp K [.bo,.bo] (.rg .fz) Fs)/\Binds K fd ps []
def sd:FR->Option FR
 | .ok (.bl b) []=>some (.ok (.bl b) [])
 |_=>none
open Classical in
noncomputable def oM (F:FnT):List (FnT×(List D->Option FR))->Option (List D->Option FR)
 | []=>none
 |p::r=>if F=p.1 then some p.2 else oM F r
noncomputable def fcD (gl:List (Str×(List D->Option FR))) (cl:List (FnT×(List D->Option FR))):List D->Option FR
 | .glf x::ds=>(gl.lookup x).bind fun f=>(f ds).bind sd
 | .clo F d::ds=>if D.evs ds=true then (oM F cl).bind fun f=>(f (ds++[d])).bind sd else none
 |_=>none
theorem wI {r fr:FR} (h:sd r=some fr): ∃b,r= .ok (.bl b) []/\fr= .ok (.bl b) []:=by
 unfold sd at h
 split at h
 ·cases h;exact⟨_,rfl,rfl⟩
 ·cases h
theorem AZ {F:FnT} {f:List D->Option FR}: ∀{cl:List (FnT×(List D->Option FR))},oM F cl=some f-> ∃p∈cl,F=p.1/\f=p.2
 |p::r,h=>by
  unfold oM at h
  split at h
  ·rename_i e
   cases h
   exact⟨p,List.mem_cons_self,e,rfl⟩
  ·obtain⟨q,hq,e⟩:=AZ h
   exact⟨q,List.mem_cons_of_mem _ hq,e⟩
theorem JB {S:Sa} (e:kU c v (H c)) {ds:List D} {vs:List V} (he:D.evs ds=true) (r:aE K S H ds vs):aE K (fun p=>del H c p≠none) (del H c) ds vs:=by
 obtain⟨N,hN,r2⟩:=aE.et (G:=fun _=>False) ds vs he r
 refine aE.mono (fun p hp=> ?_) (fun p hp=> ?_) ds vs r2
 ·rcases hp with z|z
  ·exact z.elim
  ·obtain⟨xs,q⟩:=hN p z
   show del H c p≠none
   rw[del_ne (k9 e q fun _ y=>by cases y),q]
   simp
 ·rcases hp with z|z
  ·exact z.elim
  ·obtain⟨xs,q⟩:=hN p z
   exact k7.of_eq fun u e2=>by rw[del_ne (k9 e q fun _ y=>by cases y)];exact e2
theorem A0 {B G:Sa}: ∀{ds:List D} {vs:List V},aE K B H ds vs->oL K B G H (List.replicate ds.length .bo) ds vs []
 | [],_,r=>by unfold aE at r;rw[r];rfl
 |d::ds,_,r=>by
  unfold aE at r
  obtain⟨v,r',rfl,h1,h2⟩:=r
  exact⟨[],[],⟨h1,rfl⟩,A0 h2,rfl⟩
theorem D3 {B G:Sa}: ∀{ds:List D} {vs:List V} {L:List Addr},oL K B G H (List.replicate ds.length .bo) ds vs L->aE K B H ds vs
 | [],vs,_,a=>by
  cases vs with
  |nil=>exact .nil
  |cons _ _=>exact a.elim
 |d::ds,vs,_,a=>by
  cases vs with
  |nil=>exact a.elim
  |cons v vs=>
   obtain⟨L1,L2,h1,h2,_⟩:=a
   exact .cons h1.1 (D3 h2)
theorem JC {k:Nat} {gl:List (Str×(List D->Option FR))} {cl:List (FnT×(List D->Option FR))} (hg: ∀p∈gl,JA P w K mg base k p.1 p.2) (hc: ∀p∈cl,Cp P w K mg base k p.1 p.2):sj P w K mg base k (fcD gl cl) where
 at_:=fun {h H S u v d ds fr} KI hok rv rep e=>by
  cases d with
  |glf x=>
   obtain⟨f,e1,_⟩:=bind1 (show (gl.lookup x).bind _=some fr from e)
   obtain⟨oc,od,fd,sl,lk⟩:=(hg (x,f) (PySem.mem_of_lookup e1)).lk
   unfold Rep at rep
   subst rep
   exact⟨_,rv,oc,od,fd,sl,KI _ _ lk⟩
  |clo F d=>
   unfold Rep at rep
   obtain⟨f,c',c,T,wv,rfl,⟨_,ef⟩,_⟩:=rep
   exact⟨_,rv,K7 hok ef⟩
  |_=>cases e
 run:=fun {A outer s H u us v vs Q E} hr e0 rv rvs ⟨O,dds,fr,eO,g,a,ef,q⟩=>by
  subst eO
  match dds,a,ef with
  |d::ds,⟨L1,L2,⟨rep,_⟩,ar,_⟩,ef=>
   cases d with
   |glf x=>
    obtain⟨f,e1,e2⟩:=bind1 (show (gl.lookup x).bind _=some fr from ef)
    obtain⟨r1,e3,e4⟩:=bind1 e2
    obtain⟨b,rfl,rfl⟩:=wI e4
    obtain⟨fd,ps,Fo,hb⟩:=(hg (x,f) (PySem.mem_of_lookup e1)).ok
    unfold Rep at rep
    subst rep
    cases (show u=Value.ref (He.ga K x) from rv)
    have sp:FSp K [.bo,.bo] (.rg .fz) f vs O.H0 Q E:=⟨O,ds,_,rfl,g,by
     obtain⟨hL1,hL2⟩:=(⟨by assumption,by assumption⟩:L1=[]/\O.L0=L1++L2)
     rw[hL2,hL1];exact ar,e3,q⟩
    have KI:K.In s.heap:=e0.mod.kin.keeps fun b o e=>(e0.bs b o e).1
    have hl:us.length=ps.length:=by rw[<-rvs.length];exact Fo.len _ _ _ _ sp
    have bb:=hb s us KI (by rw[List.append_nil];exact hl)
    rw[List.append_nil] at bb
    exact Fo.run A outer s O.H0 ⟨us,[]⟩ us vs Q E hr e0 bb rvs sp
   |clo F d=>
    have ef:(if D.evs ds=true then (oM F cl).bind fun f=>(f (ds++[d])).bind sd else none)=some fr:=ef
    by_cases hev:D.evs ds=true
    case neg=>rw[if_neg hev] at ef;cases ef
    rw[if_pos hev] at ef
    obtain⟨fs,e1,e2⟩:=bind1 ef
    obtain⟨r1,e3,e4⟩:=bind1 e2
    obtain⟨b,rfl,rfl⟩:=wI e4
    obtain⟨p,hp,rfl,rfl⟩:=AZ e1
    have No:=hc p hp
    unfold Rep at rep
    obtain⟨f,c',c,T,wv,rfl,⟨sf,hf⟩,⟨sc',hc'⟩,⟨sc,hcell⟩,nT,rd⟩:=rep
    cases (show u=Value.ref f from rv)
    have hl2:ds.length=2:=(oL.len ar).2
    have ar':oL K O.B O.G0 O.H0 (List.replicate ds.length .bo) ds vs L2:=by rw[hl2];exact ar
    have rds:=JB hcell hev (D3 ar')
    refine Jz No hr e0 hf hc' hcell rvs ⟨Org.all (del O.H0 c) (fun _=>False),ds++[d],.ok (.bl b) [],rfl,iN (AY e0.hok hcell g.tb) (fun p z=>z.elim),?_,e3,fun v' H' G' r n φ eφ=> ?_⟩
    ·have rd2:Rep K (fun p=>del O.H0 c p≠none) (del O.H0 c) d wv:=Rep.mono (fun p z=>by
      show del O.H0 c p≠none
      rw[del_ne (show p≠c from fun y=>nT (y▸z.1.2))];exact z.2) (fun p z=>k7.of_eq fun u e=>by rw[del_ne (show p≠c from fun y=>nT (y▸z.1.2))];exact e) d wv (Rep.dom d wv rd)
     have:=A0 (B:=(Org.all (del O.H0 c) (fun _=>False)).B) (G:=(Org.all (del O.H0 c) (fun _=>False)).G0) (rds.append (.one rd2))
     rw[List.length_append,hl2] at this
     exact this
    ·have hvl:vs.length=2:=(oL.len ar).1
     have hp0:bw ([PM.bo,PM.bo]++[PM.bo]) (vs++[wv])=[]:=by
      match vs,hvl with
      | [_,_],_=>rfl
     have hp1:bw mV (V.ref f::vs)=[]:=by
      match vs,hvl with
      | [_,_],_=>rfl
     rw[hp0] at r
     obtain⟨_,x2,hv⟩:=p6 r
     have hv:Rep K G' H' (.bl b) v':=hv O
     unfold Rep at hv
     refine q v' _ O.G0 ⟨[],[],⟨g.bin,fun p u e _ nt=> ?_,fun _ z=>z,fun _ z=>.inl z,fun p z=> ?_,fun p z=> ?_,List.nodup_nil,fun p m=>(nomatch m),fun p ps' e=> ?_,?_⟩,⟨by unfold Rep;exact hv,rfl⟩,by rw[hp1];rfl⟩
     ·by_cases hb:p=c
      ·rw[hb,upd_same,←eφ,←hb];exact e
      ·rw[upd_ne hb]
       exact x2.hh p u (by rw[del_ne hb];exact e) nt
     ·by_cases hb:p=c
      ·rw[hb,upd_same];simp
      ·rw[upd_ne hb]
       exact x2.dm p (by rw[del_ne hb];exact g.gin p z)
     ·by_cases hb:p=c
      ·rw[hb,upd_same];simp
      ·rw[upd_ne hb]
       exact x2.dm p (by rw[del_ne hb];exact z)
     ·have hb:=k9 hcell e fun _ y=>by cases y
      obtain⟨ps2,e5⟩:=x2.tl p ps' (by rw[del_ne hb];exact e)
      exact⟨ps2,by rw[upd_ne hb];exact e5⟩
     ·exact LamX.Tabs.ext (x2.tb (AY e0.hok hcell g.tb)) fun b o e=>by
       rw[upd_ne (fun y=>by rw[y,n] at e;cases e)];exact e
   |_=>cases ef
  | [],a,ef=>cases ef
end
end Sw
namespace Sw
open PySem PySem.Spec PyProof.Rows L2
variable [NmC]
section
variable {X:Cx} {Δ:List Md} {st:Ds} {e:Expr} {es:List Expr} {rs:Option (List D)} {pos p:Pos} {vms:List VM} {Fs:List D->Option FR} {k k':Nat} {x:Str}
theorem zv (i:Nat) {md:Md} {d:D} (C:sj X.prog X.w X.K X.mg X.base k Fs) (hr:Room k' X.A) (hm:Δ[i]? =some md) (hd:st[i]? =some (some d)) (hN:X.N[i]? =some x) (hv:Vis X.env.scope x) (ha:PAx X Δ st (e::es) vms rs) (hk:k<=k':=by decide) (ok:hO [.bo,.bo] vms=true:=by rfl) (hmd:md= .bo\/md= .fz:=by first|exact .inl rfl|exact .inr rfl)
  (hdb:(x==("__debug__" :Str))=false:=by decide) (hcd:(x==("__classdict__" :Str))=false:=by decide) (he:starEach (e::es) X.env=(false,eval e X.env)::starEach es X.env:=by rfl) (hpl:(backTo pos (starEach es X.env)).any (·.1)=false:=by rfl):
  PX X Δ st (.Call (.Name x p) (e::es) [] pos) (.rg .fz) (bp Fs (aj (some d) rs)):=by
 refine⟨fun pins s σ H Q I ⟨O,G,dr,rel,er,kk⟩=> ?_⟩
 obtain⟨dds,e1,e2⟩:=bind1 er
 obtain⟨d',e3,e4⟩:=bind1 e1
 cases e3
 obtain⟨ds,e5,e6⟩:=bind1 e4
 cases e6
 obtain⟨fr,e7,e8⟩:=bind1 e2
 obtain⟨v,hs,rep⟩: ∃v,σ[i]? =some (some v)/\Rep X.K (fun _=>True) H d v:=by
  obtain⟨L,g,sl⟩:=rel
  obtain⟨x',y',L1,L2,ex,ey,sr,pm,_⟩:=sl.split hm
  rw[hd] at ex;cases ex
  rcases hmd with rfl|rfl
  ·obtain⟨v,e1,r1,_⟩:=sr;subst e1;exact⟨v,ey,Rep.mono (fun _ _=>trivial) aC _ _ r1⟩
  ·obtain⟨v,e1,r1,_⟩:=sr;subst e1;exact⟨v,ey,Rep.mono (fun _ _=>trivial) aC _ _ r1⟩
 refine wpAny_Call_Name_kw (thn ((pe_var (pos:=p) hN hv hdb hcd).run pins s σ H (fun v1 H1=>v1=v/\H1=H) I ⟨v,hs,rfl,rfl⟩) fun u s1 ⟨v1,H1,I1,r1,q1⟩=> ?_)
 obtain⟨rfl,rfl⟩:=q1
 obtain⟨q,rfl,fa⟩:=C.at_ I1.kIn I1.hok r1 rep e7
 refine PySem.W.callWith_F (first:=[]) fa (thn (ha.run pos pins s1 σ H1 (fun vs H2=>Rep X.K (fun _=>True) H2 d v1/\FSp X.K mV (.rg .fz) Fs (v1::vs) H2 Q E0) I1 (rdA.go rel e5 fun vs H2 G2 rel2 x2 v2=> ?_)) fun us s2 ⟨vs,H2,I2,r2,rep2,sp⟩=> ?_) he hpl
 ·have rep2:Rep X.K (fun _=>True) H2 d v1:=Rep.mono (fun _ _=>trivial) x2.agr d v1 rep
  refine⟨rep2,?_⟩
  obtain⟨ha,hp⟩:=mL ok v2
  refine⟨Org.all H2 G2,d::ds,fr,rfl,iN rel2.tb rel2.gin,⟨[],[],⟨Rep.mono (fun p h=>h.2) aC d v1 (Rep.dom d v1 rep2),rfl⟩,ha,rfl⟩,e7,?_⟩
  cases fr with
  |er x=>cases e8
  |ok d'' os=>
   cases os with
   |cons _ _=>cases e8
   |nil=>
    cases e8
    refine fun v H' G' r=> ?_
    rw[show bw mV (v1::vs)=bw [.bo,.bo] vs from rfl,hp] at r
    obtain⟨_,x3,hv⟩:=p6 r
    exact kk v H' G' (x2.trans x3) ((hv O).back x2)
 ·obtain⟨q2,eq2,fa2⟩:=C.at_ I2.kIn I2.hok r1 rep2 e7
  cases eq2
  refine⟨fa2,?_⟩
  show wpAny _ _ (call (.ref q) us) _ _ _
  refine wpAny_call (codeAny_mono (C.run (hr.mono hk) I2.env0 r1 r2 sp) fun r s' hq=> ?_)
  match r,hq with
  | .error _,hq=>exact hq.elim
  | .ok (.ret u),hq=>exact I2.after hq
  | .ok .next,hq=>exact hq.elim
  | .ok .brk,hq=>exact hq.elim
  | .ok .cont,hq=>exact hq.elim
end
def yI (c:Addr) (v:V):Heap->Prop:=fun h=> ∃u,L2.RelV v u/\h.IsCell c (some u)
section
variable {P:Program} {w:World} {K:Frg} {mg:Str->Option Value} {base:Heap}
abbrev fnT (nst:Stmt) (n qual y:Str):FnT:=⟨n,qual++".<locals>." ++n,C8.fnArgs nst,C8.fnBody nst,C8.fnScope nst,y,none⟩
theorem D4 {x qual y n:Str} {st nst:Stmt} {f:Addr} {fd:FuncData} {k:Nat} {p rpos npos:Pos} (F:Fun K x qual st f fd) (S:FnScope [y,n] [y] (defScope st)) (Lm:pz base mg fd.code (qual++".<locals>." ++n)) (hbody:defBody st=[nst,.Return (some (.Name n p)) rpos])
  (hnst:nst= .FunctionDef n (C8.fnArgs nst) (C8.fnBody nst) [] none [] (C8.fnScope nst) none n npos) (hfree:NdefX.ndefB (defScope st) (C8.fnScope nst) [y]=true) (hd0:(C8.fnArgs nst).defaults=[]) (hk0:(C8.fnArgs nst).kw_defaults=[]) (hann: ∀env,annTrees (C8.fnArgs nst) none env=[])
  (hcl: ∀cells,cloFrom cells (C8.fnScope nst).names []=[(y,(cells.lookup y).getD 0)]) (hyc:(defScope st).names.lookup y=some .cell) (hnl:(defScope st).names.lookup n=some .local) (hdb:(n==("__debug__" :Str))=false:=by decide) (hcd:(n==("__classdict__" :Str))=false:=by decide)
  (hsw: ∀env,swapsWith (.Name n p) none rpos.line env=pure false:=by intro _;rfl):
  FnOk P w K mg base CX0 (k+1) f fd [y] (FSp K [.fz] (.rg .fz) (fn1 fun d=>some (.ok (.clo (fnT nst n qual y) d) []))):=by
 obtain⟨oc,od,kV,doc,pm,an,cdv,ct,osl,rfl,lk,hcode⟩:=F.ex
 obtain⟨cc,PP,t⟩:=Lm
 have len: ∀vs H Q E,FSp K [.fz] (.rg .fz) (fn1 fun d=>some (.ok (.clo (fnT nst n qual y) d) [])) vs H Q E->vs.length=[y].length:=fun vs H Q E ⟨O,ds,fr,e,g,a,_⟩=>a.len.1
 refine⟨len,fun A outer s H args us vs Q E hr e0 hb r hsp=> ?_⟩
 have hl:=len _ _ _ _ hsp
 have KX:K.In s.heap:=e0.mod.kin.keeps fun b o e=>(e0.bs b o e).1
 have lim:s.heap.NoLimit:=e0.mod.nolimit.keeps fun b o e=>(e0.bs b o e).1
 have kinds: ∀z∈[y].zip us,(defScope st).names.lookup z.1=some .local\/((defScope st).names.lookup z.1=some .cell/\((cellsFrom (s.heap.objs.size+1) (defScope st).names []).lookup z.1).isSome=true):=fun⟨m,v⟩ hz=>by
  rcases S.par m (List.of_mem_zip hz).1 with q|q
  ·exact .inl q
  ·exact .inr ⟨q,PySem.W.cellsFrom_some _ _ _ (.inl q)⟩
 refine codeAny_call_function hr.depth (KX _ _ lk) rfl S.co S.gen rfl (PySem.W.codeRec_of KX hcode) (hb _ _ _ _ ?_)
 refine wpAny_newFunctionEnv_cells S.kind kinds fun env he s1 xx=> ?_
 subst he
 refine⟨lim.keeps xx.toInCall.keep,codeAny_func ?_⟩
 have I:Inv (cxOf CX0 P w K mg base [y,n] qual (defScope st) f cdv A outer s H E) [] (start [y,n] vs) H s1:=inv_start S hr.hd e0 hl r xx
 obtain⟨O,ds,fr,eO,g,a,ef,q⟩:=hsp
 subst eO
 match ds,vs,a,ef,hl with
 | [d],[v],⟨M1,M2,⟨rep,hL1⟩,hL2,hL0⟩,ef,_=>
 cases ef
 rw[show defBody st=[nst,.Return (some (.Name n p)) rpos] from hbody]
 have tN:NdefX.TabsN (NmC.T.map fun p=>(p.1,fun _ _=>p.2)) O.H0:=fun p hp=>by
  obtain⟨p0,hp0,rfl⟩:=List.mem_map.mp hp
  exact NdefX.TabN.of (g.tb p0 hp0)
 have pn:=NdefX.ps_ndefMS (X:=cxOf CX0 P w K mg base [y,n] qual (defScope st) f cdv A outer s O.H0 E) (st:=nst) (T:=NmC.T.map fun p=>(p.1,fun _ _=>p.2)) (nm:=fun _ _=>qual++".<locals>." ++n) (c:=cc) (P:=PP) (name:=n) (pos:=npos) (i:=1) hnst t.tb (show cdv=_ from t.code)
  (List.mem_map.mpr ⟨_,t.mem,rfl⟩) rfl (fun p hp e=>by
   obtain⟨p0,hp0,rfl⟩:=List.mem_map.mp hp
   have:=t.uni p0 hp0 e
   funext _ _;exact this) (NdefX.ndef_free hfree) hd0 hk0 (hann _) S.nd rfl (.inl hnl) (.inr hnl)
 refine wpAny_execs_cons (thn (pn.run [] s1 _ O.H0 {nx:=fun σ' H1=> ∃f' c',σ'=[some v,some (.ref f')]/\LamX.ExtN O.H0 H1/\(∀b,H1 b=none->O.H0 b=none)/\NdefX.TabsN (NmC.T.map fun p=>(p.1,fun _ _=>p.2)) H1/\O.H0 f'=none/\H1 f'=some (NdefX.FnO f' ((fnT nst n qual y).nf (((cxOf CX0 P w K mg base [y,n] qual (defScope st) f cdv A outer s O.H0 E).env.cells.lookup y).getD 0) c'))/\H1 c'=some (LamX.CodeO c' (qual++".<locals>." ++n)),rt:=fun _ _=>False} I ⟨tN,fun f' c' H1 h1 h2 h3 h4 h5 h6=>⟨f',c',rfl,h1,h2,h3,h4,by
   have z:=h5
   unfold NdefX.NF.of at z
   rw[hcl] at z
   exact z,h6⟩⟩) fun fl s2 hs=> ?_)
 match fl,hs with
 | .brk,⟨_,_,_,z⟩=>exact z.elim
 | .cont,⟨_,_,_,z⟩=>exact z.elim
 | .ret _,⟨_,_,_,_,_,z⟩=>exact z.elim
 | .next,⟨σ',H1,I1,f',c',eσ,eN,bk,t1,nf',hf',hc'⟩=>
 subst eσ
 refine wpAny_execs_cons (wpAny_Return_some (thn ((pe_var (i:=1) (pos:=p) (x:=n) rfl (.inl hnl) hdb hcd).run [] s2 _ H1 (fun v1 H2=>v1= .ref f'/\H2=H1) I1 ⟨.ref f',rfl,rfl,rfl⟩) fun u3 s3 ⟨v3,H3,I3,r3,q3⟩=> ?_))
 obtain⟨rfl,rfl⟩:=q3
 obtain⟨c,hlk⟩:=I1.ok.has y (.inl hyc)
 rw[hlk] at hf'
 have hf':H3 f'=some (NdefX.FnO f' ((fnT nst n qual y).nf c c')):=hf'
 obtain⟨uc,ruc,cellu⟩: ∃u,L2.RelV v u/\s3.heap.IsCell c (some u):=by
  obtain⟨m,hn,hlo⟩:=I3.loc
  obtain⟨u,ru,lo⟩:=hlo 0 y v rfl rfl (.inr (.inl hyc))
  rcases lo with ⟨z,_⟩|⟨_,a',ha',hcell⟩
  ·have z:(defScope st).names.lookup y=some .local:=z
   rw[hyc] at z;cases z
  ·rw[hlk] at ha';cases ha'
   exact⟨u,ru,hcell⟩
 have abv:s.heap.objs.size<c:=xx.above y c (PySem.mem_of_lookup hlk)
 have n1:H3 c=none:=I3.freeC y c hlk
 have ne1: ∀{b:Addr} {z:HO},H3 b=some z->b≠c:=fun q y=>by rw[y,n1] at q;cases q
 have old: ∀{b:Addr} {o:Obj},s.heap.get? b=some o->b≠c:=fun q y=>by
  have:=Heap.lt_size q
  rw[y] at this
  exact Nat.lt_asymm this abv
 have keepN: ∀(b:Addr) (u:HO),O.H0 b=some u->NT u->upd H3 c (.ext (yI c v)) b=some u:=fun b u e nt=>by
  have e1:=eN b u e nt
  rw[upd_ne (ne1 e1)];exact e1
 have below: ∀b,O.H0 b≠none->b<c:=fun b hb=>by
  rcases Nat.lt_or_ge b s.heap.objs.size with z|z
  ·exact Nat.lt_trans z abv
  ·exact absurd (e0.hok.fresh z) hb
 have un0:Un (frs outer) [] O.H0 H3 s.heap s3.heap:=I3.base
 have tblE: ∀(b:Addr) (ps:Array Value),O.H0 b=some (.tbl ps)-> ∃ps',upd H3 c (.ext (yI c v)) b=some (.tbl ps'):=fun b ps e=>by
  obtain⟨more,e1⟩:=un0.tbls b ps e
  exact⟨_,by rw[upd_ne (ne1 e1)];exact e1⟩
 have un1:Un (frs outer) [] O.H0 (upd H3 c (.ext (yI c v))) s.heap s3.heap:=⟨un0.keep,un0.slot,fun b o z m hx=>by rw[upd_ne (old z)];exact un0.free b o z m hx,un0.there,fun b xs z=>by
   have:=un0.tups b xs z
   rw[upd_ne (ne1 this)];exact this,fun b o u z=>by
   have:=un0.frzs b o u z
   rw[upd_ne (ne1 this)];exact this,fun b ps z=>by
   obtain⟨more,e1⟩:=un0.tbls b ps z
   exact⟨more,by rw[upd_ne (ne1 e1)];exact e1⟩⟩
 have hok1:HOk P w (upd H3 c (.ext (yI c v))) s3.heap:=fun a o z=>by
  by_cases hb:a=c
  ·rw[hb,upd_same] at z
   cases z
   rw[hb]
   obtain⟨o0,g1,d0⟩:=cellu
   exact⟨⟨uc,ruc,o0,g1,d0⟩,⟨o0,g1⟩,fun h1 h2 ⟨u,r,o,g,d⟩ st=>⟨u,r,o,st o g,d⟩⟩
  ·rw[upd_ne hb] at z
   exact (I3.hok a o z).stay (fun _ _ _ y=>y) (fun b y=>by rw[upd_ne (ne1 y)];exact y) (fun b xs y=>by rw[upd_ne (ne1 y)];exact y)
 refine⟨.ref f',upd H3 c (.ext (yI c v)),I3.os,I3.bare,un1,hok1,r3,q _ _ (fun p=>O.G0 p\/p=f'\/p=c'\/p=c) ⟨[],[],⟨g.bin,fun p u e _ nt=>keepN p u e nt,fun p z=>.inl z,fun p hp=> ?_,fun p hp=> ?_,fun p hp=> ?_,List.nodup_nil,fun p m=>(nomatch m),fun p ps e=>tblE p ps e,fun p hp=> ?_⟩,⟨?_,rfl⟩,rfl⟩⟩
 ·rcases hp with z|rfl|rfl|rfl
  ·exact .inl z
  ·exact .inr (.inl nf')
  ·cases e:O.H0 p with
   |none=>exact .inr (.inl rfl)
   |some u=>
    rcases yt u with nt|⟨ps,rfl⟩
    ·have e1:=eN p u e nt
     rw[hc'] at e1
     cases e1
     exact .inr (.inr (.inl ⟨.inr _,rfl⟩))
    ·obtain⟨more,e1⟩:=un0.tbls p ps e
     rw[hc'] at e1
     cases e1
  ·exact .inr (.inl (bk p n1))
 ·rcases hp with z|rfl|rfl|rfl
  ·cases e:O.H0 p with
   |none=>exact absurd e (g.gin p z)
   |some u=>
    rcases yt u with nt|⟨ps,rfl⟩
    ·rw[keepN p u e nt];simp
    ·obtain⟨ps',e1⟩:=tblE p ps e
     rw[e1];simp
  ·rw[upd_ne (ne1 hf'),hf'];simp
  ·rw[upd_ne (ne1 hc'),hc'];simp
  ·rw[upd_same];simp
 ·cases e:O.H0 p with
  |none=>exact absurd e hp
  |some u=>
   rcases yt u with nt|⟨ps,rfl⟩
   ·rw[keepN p u e nt];simp
   ·obtain⟨ps',e1⟩:=tblE p ps e
    rw[e1];simp
 ·have z:=NdefX.TabN.to (t1 (p.1,fun _ _=>p.2) (List.mem_map.mpr ⟨p,hp,rfl⟩))
  exact z.ext fun b o e=>by rw[upd_ne (ne1 e)];exact e
 ·unfold Rep
  refine⟨f',c',c,fun p=>p<c,v,rfl,⟨.inr (.inl rfl),by rw[upd_ne (ne1 hf'),hf'];rfl⟩,⟨.inr (.inr (.inl rfl)),by rw[upd_ne (ne1 hc')];exact hc'⟩,⟨.inr (.inr (.inr rfl)),yI c v,upd_same,fun _ z=>z⟩,Nat.lt_irrefl _,?_⟩
  refine Rep.mono (fun p z=>⟨.inl z,below p (g.gin p z)⟩) (fun p z=>k7.Ga fun u nt e=>keepN p u e nt) d v rep
end
end Sw
namespace Sw
open PySem PySem.Spec PyProof.Rows L2
variable [NmC]
section
variable {X:Cx} {Δ:List Md} {st:Ds} {o e ix:Expr} {es:List Expr} {rf ra rb:Option D} {rs:Option (List D)} {pos p apos:Pos} {r r2 rg:Rg} {vms:List VM} {Fs:List D->Option FR} {k k':Nat} {x:Str}
theorem MB:allM (.rg .fz) [.rg .fz,.rg .fz,.rg .fz,.rg .fz,.rg .fz,.rg .fz,.rg .fz,.rg .fz,.rg .fz]:=⟨rfl,rfl,rfl,rfl,rfl,rfl,rfl,rfl,rfl,trivial⟩
theorem GZ {x:Str} {pos:Pos} (hm:X.mg x=some (.ref (He.ga X.K x))) (hg:Gl X x:=by rfl) (hd:(x==("__debug__" :Str))=false:=by decide):PX X Δ st (.Name x pos) (.rg rg) (some (.glf x)):=
 bj (pe_glob hg hm (v:=.ref (He.ga X.K x)) rfl hd) fun σ H Q ⟨O,G,d,rel,er,k⟩=>by
  cases er
  exact k _ H G .refl (by unfold bh Rep;rfl)
def D.starts (x y:D):Option D:=match x,y with
 | .str u,.str w=>some (.bl (Txt.startswith u w))
 |_,_=>none
theorem Fc (ho:PX X Δ st o (.rg r) ra) (he:PX X Δ st e (.rg r2) rb) (hs:starEach [e] X.env=[(false,eval e X.env)]:=by rfl) (hbase:attributeBase o "startswith" X.env (eval o X.env)=eval o X.env:=by rfl) (hline:(apos.endLine==pos.line)=true:=by rfl):
  PX X Δ st (.Call (.Attribute o "startswith" apos) [e] [] pos) (.rg rg) (b2 D.starts ra rb):=bj (pe_m1 PySem.F.slot_str_startswith PySem.F.type_str_startswith mt_startswith ho he hs hbase hline) fun σ H Q ⟨O,G,d,rel,er,k⟩=>by
 obtain⟨x,y,e1,e2,e3⟩:=bO er
 cases x <;> first|(cases e3;done)|skip
 cases y <;> first|(cases e3;done)|skip
 rename_i u w
 cases e3
 refine rdE.go rel e1 fun v H1 G1 rel1 x1 v1=>⟨⟨u,v1.str⟩,rdE.go rel1 e2 fun v' H2 G2 rel2 x2 v2=> ?_⟩
 exact⟨u,w,v1.str,by rw[v2.str],k _ _ _ (x1.trans x2) kY⟩
end
end Sw
namespace Sw
open PySem PySem.Spec PyProof.Rows L2
variable [NmC]
section
variable {K:Frg} {B G G':Sa} {H H':Hp}
def D.isI:D->Bool
 | .int _=>true
 |_=>false
def D.isR:D->Bool
 | .dct r=>r.all fun q=>q.2.isI
 |_=>false
end
end Sw
namespace Sw
open PySem PySem.Spec PyProof.Rows L2
section
variable {M:Model} {A:Around} {E:Value->Shared->Prop} {Q:Value->Shared->Prop} {s:Shared} {env:Env}
def Cq (M:Model) (A:Around) (E:Value->Shared->Prop) (Q:Value->Shared->Prop) (acc:Value) (ce:Env):Result->Shared->Prop
 | .ok _,t=> ∃m,t.heap.Ns ce.locals m/\ ∀g,Heap.SameBut ce.locals t.heap g->Q acc {t with heap:=g}
 | .error x,t=> ∃m,t.heap.Ns ce.locals m/\ ∀g,Heap.SameBut ce.locals t.heap g->wpAny M A (passOn (α:=Value) "comprehension.variables-let-go" x ce) (fun _ _=>False) E {t with heap:=g}
theorem Fd {c:Expr} {sc:Scope} {at_:Pos} {mk fst:Sem Value} {g:Comprehension} {gs:List Comprehension} {cl:List (Str×Addr)} (e1:clausesOf c=g::gs) (e2: ∀v,foldedSetIterable g.iter env v=pure v) (e3:closureFor sc env=pure cl)
  (fk:sc.kind= .function) (un: ∀z∈sc.names,z.2= .local->sc.names.lookup z.1=some .local)
  (run:wpAny M A fst (fun v t1=>wpAny M A (pyIter v) (fun it t2=>wpAny M A mk (fun acc t3=>wpAny M A (newFunctionEnv sc env.globals cl [] env.qual none .none (some env))
   (fun ce t4=>codeAny M A (.compStart c 0 it acc {ce with scope:=relabel sc env}) (Cq M A E Q acc {ce with scope:=relabel sc env}) t4) E t3) E t2) E t1) E s):
  wpAny M A (comprehension c sc env at_ mk false fst none) Q E s:=by
 unfold comprehension
 rw[e3,e1]
 have pass: ∀{B:Type} {P:B->Shared->Prop} {t:Sem B} {u:Shared},wpAny M A t P E u->wpAny M A t P E u:=fun h=>h
 refine wpAny_bind (wpAny_mono run (fun v t1 r1=> ?_) fun _ _ z=>z)
 refine wpAny_bind (wpAny_standAt (wpAny_bind (wpAny_of_eq (e2 v) (wpAny_bind (wpAny_holding (wpAny_mono r1 (fun it t2 r2=> ?_) fun _ _ z=>z))))))
 refine wpAny_standIf (wpAny_bind (wpAny_mono r2 (fun acc t3 r3=> ?_) fun _ _ z=>z))
 refine wpAny_bind (wpAny_pure (wpAny_bind (wpAny_mono r3 (fun ce t4 r4=> ?_) fun _ _ z=>z)))
 dsimp only
 have own: ∀z∈(sc.names.filter fun z=>(z.2== .local||z.2== .cell)&&z.1 != (".0" :Str)).reverse,z.2= .local->Env.kindOf {ce with scope:=relabel sc env} z.1=some .local:=
  fun z hz hl=>lookup_relabel_local (un z (List.mem_filter.mp (List.mem_reverse.mp hz)).1 hl)
 refine wpAny_holding (wpAny_bind (wpAny_attempt (wpAny_holding (wpAny_run (codeAny_mono r4 fun res t5 r5=> ?_)))))
 cases res with
 |ok fl=>
  obtain⟨m,ns,r6⟩:=r5
  exact wpAny_bind (wpAny_holding (wpAny_comp_letGo (cenv:={ce with scope:=relabel sc env}) fk _ t5 m own ns fun g _ _ sb=>wpAny_pure (r6 g sb)))
 |error x=>
  obtain⟨m,ns,r6⟩:=r5
  exact wpAny_bind (wpAny_holding (wpAny_comp_letGo (cenv:={ce with scope:=relabel sc env}) fk _ t5 m own ns fun g _ _ sb=>wpAny_mono (r6 g sb) (fun _ _ f=>f.elim) fun _ _ z=>z))
end
section
variable {X:Cx} {W:WX} {pins:List (Addr×Obj)} {σ:L2.St} {H:Hp} {t t1:Shared} {u acc:Value} {EK:XK} {Q:Value->Shared->Prop} {E1:Value->Shared->Prop} {ce:Env} {m:Str->Option Value}
theorem JD (J:L2.Inv X pins σ H t) (hs:X.stack=X.env::X.outer) (hf:X.env.frame=some X.env.locals) (tk:L2N.Takes X W) (hW: ∀c d K,EK c d K->W c d σ K) (hce:ce.frame=X.env.frame) (fC:FpOk X pins H ce.locals) (nsC:t.heap.Ns ce.locals m)
  (c:L2N.CX X.prog X.w X.stack H t EK u t1):wpAny (model X.prog X.w) X.A (noteFrame u ce) (fun _ t2=>Cq (model X.prog X.w) X.A X.xe Q acc ce (.error u) t2) E1 t1:=by
 obtain⟨a,B,K,cls,d,rfl,fl,hok,ub,na,os,ag,hE⟩:=c
 obtain⟨nC,cl,cf,cx,cc,cp⟩:=fC
 obtain⟨oC,es,ep,gC,rC⟩:=id nsC
 have out:ce.locals∉frs X.stack:=fun z=>(List.mem_cons.mp (J.stkSub _ z)).elim cl cf
 have bC:B.get? ce.locals=some oC:=ub.keep _ _ gC nC out
 have hfr:X.A.frames=some (X.env::X.outer):=by rw[J.ok.frames,hs]
 rw[show noteFrame (.ref a) ce=noteFrame (.ref a) X.env by unfold noteFrame PySem.frameOf;rw[hce]]
 refine PXN.looks_onZ (L:=X.env.locals) L2N.Zn.steady hfr hf (hs▸fl) fun h1 held up1=> ?_
 refine⟨m,⟨oC,es,ep,held.1 _ _ bC,rC⟩,fun g sb=> ?_⟩
 obtain⟨B2,r1,r2⟩:=restrict B fun b=>decide (b≠ce.locals)
 have sub: ∀b o,B2.get? b=some o->B.get? b=some o/\b≠ce.locals:=fun b o e=>by
  by_cases z:b=ce.locals
  ·rw[r2 b (by simp[z])] at e;cases e
  ·rw[r1 b (by simp[z])] at e;exact⟨e,z⟩
 have none_: ∀b,B.get? b=none->B2.get? b=none:=fun b e=>by
  cases q:B2.get? b with
  |none=>rfl
  |some o=>rw[(sub b o q).1] at e;cases e
 have gk: ∀b,b≠ce.locals->g.get? b=h1.get? b:=fun b n=>sb.2 b n
 have held2:HandSPX.HeldZ B2 (X.env::X.outer) a (L2N.Zn cls d) X.env.locals g:=by
  obtain⟨k1,k2,k3,oe,vs,T,oT,ts,f1,f2,f3,f4,f5,f6,f7,f8,f9⟩:=held
  have ne: ∀{b:Addr},B.get? b=none->b≠ce.locals:=fun e z=>by rw[z,bC] at e;cases e
  refine⟨fun b o e=>by rw[gk b (sub b o e).2];exact k1 b o (sub b o e).1,none_ a k2,?_,oe,vs,T,oT,ts,by rw[gk a (ne k2)];exact f1,f2,f3,f4,none_ T f5,f6,by rw[gk T (ne f5)];exact f7,f8,f9⟩
  have fr: ∀{l:List Env},h1.FunFrames B l->g.FunFrames B2 l:=fun {l}=>by
   induction l with
   |nil=>exact fun _=>trivial
   |cons e r ih=>
    rintro⟨x1,⟨L,o,x2,x3,x4,x5⟩,x6⟩
    exact⟨x1,⟨L,o,x2,none_ L x3,by rw[gk L (ne x3)];exact x4,x5⟩,ih x6⟩
  exact fr k3
 unfold PySem.passOn
 obtain⟨_,_,_,oe,vs,T,oT,ts,f1,_,f3,f4,_⟩:=id held2
 refine wpAny_bind (wpAny_field f1 f3 f4 ?_)
 rw[if_neg (by simp)]
 rw[hce,hf]
 refine wpAny_bind (HandSPX.setFlight_onZ held2 fun h2 held3 up3=> ?_)
 refine wpAny_throw (tk _ _ ?_)
 obtain⟨G,g1,g2⟩:=restrict h2 fun b=>(B2.get? b).isSome||decide (b∈frs X.stack)
 have gB: ∀b o,B2.get? b=some o->G.get? b=some o:=fun b o e=>by
  rw[g1 b (by simp[e])]
  exact held3.1 b o e
 have gF: ∀b,b∈frs X.stack->G.get? b=h2.get? b:=fun b hb=>g1 b (by simp[hb])
 have og: ∀b o,G.get? b=some o->h2.get? b=some o/\((B2.get? b).isSome=true\/b∈frs X.stack):=fun b o e=>by
  cases q:((B2.get? b).isSome||decide (b∈frs X.stack)) with
  |false=>exact absurd e (by rw[g2 b q];simp)
  |true=>
   rw[g1 b q] at e
   exact And.intro e (by simpa [Bool.or_eq_true] using q)
 have kC:K ce.locals=none:=ub.free _ _ gC nC
 have hokG:HOk X.prog X.w K G:=fun b o e=>(hok b o e).stay (fun z v hz q=>gB z v (by
  have nz:z≠ce.locals:=by
   rcases hz with rfl|hz
   ·exact fun y=>by rw[y,kC] at e;cases e
   ·exact fun y=>by rw[y,kC] at hz;cases hz
  rw[r1 z (by simp[nz])];exact q)) (fun _ y=>y) (fun _ _ y=>y)
 have sfr: ∀b∈frs X.stack,∀o,t1.heap.get? b=some o->(∀vs,o.data≠ .fields vs)-> ∃sl,h2.get? b=some {o with slots:=sl}:=fun b hb o e n=>by
  obtain⟨sl,e1⟩:=up1 b o e n
  have nb:b≠ce.locals:=fun y=>out (y▸hb)
  obtain⟨sl2,e2⟩:=up3 b {o with slots:=sl} (by show g.get? b=_;rw[gk b nb];exact e1) n
  exact⟨sl2,e2⟩
 refine⟨a,B2,{t with heap:=G,gens:=t1.gens,drawn:=t1.drawn,toks:=t1.toks},pins,σ,K,cls,d,rfl,?_,fun b o e hb=> ?_,Heap.UpToSlots.of_keeps fun b o e=>(og b o e).1,.inr (.inr (hs▸held3)),na,os,ag,hW _ _ _ hE⟩
 ·refine J.call (ch:=[ce.locals]) ⟨fun b o e n hb hc=> ?_,fun b o e n hb _=> ?_,fun b o e n _=>ub.free b o e n,fun b o e hc=> ?_,ub.tups,ub.frzs,ub.tbls⟩ hokG ag fun b hb=> ?_
  ·have nb:b≠ce.locals:=fun y=>hc (by rw[y];simp)
   exact gB b o (by rw[r1 b (by simp[nb])];exact ub.keep b o e n hb)
  ·obtain⟨w0,q⟩:=ub.slot b o e hb
   obtain⟨_,o0,q0,nf⟩:=fl.2.2.1.mem hb
   rw[q] at q0;cases q0
   obtain⟨sl2,q2⟩:=sfr b hb _ q nf
   exact⟨sl2,by rw[gF b hb];exact q2⟩
  ·by_cases hb:(b∈frs X.stack:Prop)
   ·obtain⟨w0,q⟩:=ub.slot b o e hb
    obtain⟨_,o0,q0,nf⟩:=fl.2.2.1.mem hb
    rw[q] at q0;cases q0
    obtain⟨sl2,q2⟩:=sfr b hb _ q nf
    exact⟨_,by rw[gF b hb];exact q2⟩
   ·obtain⟨o1,q⟩:=ub.there b o e hb
    have nb:b≠ce.locals:=fun y=>hc (by rw[y];simp)
    exact⟨o1,gB b o1 (by rw[r1 b (by simp[nb])];exact q)⟩
  ·rw[show b=ce.locals from List.mem_singleton.mp hb]
   exact⟨cx,cl,cc,cp⟩
 ·obtain⟨e',z⟩:=og b o e
  rcases z with z|z
  ·obtain⟨o',q⟩:=Option.isSome_iff_exists.mp z
   have y:=held3.1 b o' q
   rw[e'] at y;cases y
   exact q
  ·exact absurd z hb
end
end Sw
namespace Sw
open PySem PySem.Spec PyProof.Rows L2
section
abbrev Cr (X:Cx) (E:XK) (s:Shared) (H:Hp) (scope:Scope) (ce:Env) (fp:List Addr):Cx:=
 {X.blk s H scope ce fp with xe:=fun u t1=> ∃(pins:List (Addr×Obj)) (σ:L2.St) (K:Hp) (t:Shared),L2.Inv (X.blk s H scope ce fp) pins σ K t/\L2N.CX X.prog X.w X.stack K t E u t1}
theorem MC {X:Cx} {E:XK} {s:Shared} {H:Hp} {scope:Scope} {ce:Env} {fp:List Addr} {pins:List (Addr×Obj)} {σ:L2.St} {K:Hp} {t:Shared} (I:L2.Inv (X.blk s H scope ce fp) pins σ K t):L2.Inv (Cr X E s H scope ce fp) pins σ K t:=
 ⟨⟨I.ok.mod,I.ok.kind,I.ok.glob,I.ok.blt,I.ok.above,I.ok.inj,I.ok.has,I.ok.cab,I.ok.hd,I.ok.frames,I.ok.stk,I.ok.exf,I.ok.bs,I.ok.bsz,I.ok.noex,I.ok.exfs,I.ok.funs,I.ok.frf⟩,I.os,I.bare,I.base,I.loc,I.cell,I.free,I.freeC,I.pin,I.hok,I.len⟩
theorem G6 {X:Cx} {E:XK} {s:Shared} {H:Hp} {scope:Scope} {ce:Env} {fp:List Addr} {pins:List (Addr×Obj)} {σ:L2.St} {K:Hp} {t:Shared} (I:L2.Inv (Cr X E s H scope ce fp) pins σ K t):L2.Inv (X.blk s H scope ce fp) pins σ K t:=
 ⟨⟨I.ok.mod,I.ok.kind,I.ok.glob,I.ok.blt,I.ok.above,I.ok.inj,I.ok.has,I.ok.cab,I.ok.hd,I.ok.frames,I.ok.stk,I.ok.exf,I.ok.bs,I.ok.bsz,I.ok.noex,I.ok.exfs,I.ok.funs,I.ok.frf⟩,I.os,I.bare,I.base,I.loc,I.cell,I.free,I.freeC,I.pin,I.hok,I.len⟩
def Ou (wi:TI) (g:TG) (te:XK->TE) (vs:List Nat) (W:WX):TE:=fun σ H Q=>wi σ H fun J H1=> ∀D,H1 D=none-> ∃V:Nat->Nat->Hp->Prop,(∃m,V 0 m (upd H1 D (.lst [])))/\ ∀i m K,V i m K→
 (J.stop i K/\Q (.ref D) K)\/(J.go i K/\ ∃Nx:Hp->Prop,(∀K',Nx K'-> ∃m',m'<m/\V (i+1) m' K')/\ ∀x K',J.yld i K x K'->g x (wipe σ vs) K' fun σ2 K2=>wipe σ2 vs=wipe σ vs∧
  te (fun c d H'=>W c d σ H') σ2 K2 fun y K4=> ∃acc,K4 D=some (.lst acc)/\acc.length<sizeLine/\Nx (upd K4 D (.lst (acc++[y]))))
theorem MD {X:Cx} {W:WX} {elt tg iter:Expr} {scope:Scope} {own:List (Str×Nat)} {pos:Pos} {wi:TI} {g:TG} {te:XK->TE} (hc:X.calm=true) (hN:X.N.Nodup) (hs:X.stack=X.env::X.outer) (hf:X.env.frame=some X.env.locals) (tk:L2N.Takes X W)
  (hi:PI X tg iter wi) (ok:BlkOk X.N X.env.scope scope own) (hg: ∀(s:Shared) (H:Hp) (C:Addr) (cl:List (Str×Addr)) (fp:List Addr),PG (X.blk s H scope (compEnvC scope cl C X.env) fp) tg g)
  (he: ∀(E:XK) (s:Shared) (H:Hp) (C:Addr) (cl:List (Str×Addr)) (fp:List Addr),PE (Cr X E s H scope (compEnvC scope cl C X.env) fp) elt (te E)) (hq: ∀x,foldedSetIterable iter X.env x=pure x:=by intro _;rfl):
  PE X (.ListComp elt [⟨tg,iter,[],0⟩] scope pos) (Ou wi g te (own.map (·.2)) W):=by
 refine PE.mk fun pins s σ H Q I h=> ?_
 rw[eval_ListComp]
 have has: ∀z∈scope.names,z.2= .free-> ∃c,X.env.cells.lookup z.1=some c:=fun z hz e=>(ok.free z hz e).elim (fun k=>I.ok.has _ (.inl k)) fun k=>I.ok.has _ (.inr k)
 refine Fd rfl hq (closure_ok has) ok.kind (fun z hz e=>by rw[ok.uniq z hz,e]) (thn (hi.run pins s σ H _ I h) fun xv t1_ hx=>thn hx fun itv t2_ q2=> ?_)
 obtain⟨it,fp,tn,J,L2_,rfl,J2_,T,wt2_,fo2_,q⟩:=q2
 refine wpAny_newObj_type (newEnv_comp ?_) (by show (0:Nat)<=sizeLine;decide)
 generalize eqD:t2_.heap.objs.size=D
 have nD:L2_ D=none:=J2_.hok.fresh (Nat.le_of_eq eqD)
 obtain⟨V,⟨m0,v0⟩,turn⟩:=q D nD
 generalize eqt:({t2_ with heap:=t2_.heap.push {cls:=.type "list",data:=.seq ([]:List Value).toArray}}:Shared)=t3_
 have hh3_:t3_.heap=t2_.heap.push {cls:=.type "list",data:=.seq ([]:List Value).toArray}:=by rw[<-eqt]
 have J3_:L2.Inv X pins σ (upd L2_ D (.lst [])) t3_:=by
  rw[<-eqt]
  refine J2_.laid (t':=t2_.toks) (fun b o e=>Heap.get?_push_of_some _ e) (Nat.le_of_eq eqD) ⟨Nat.zero_le _,[],0,.nil,?_⟩
  rw[<-eqD];exact Heap.get?_push_size _ rfl
 have fo3_: ∀b∈fp,FpOk X pins (upd L2_ D (.lst [])) b/\b<t3_.heap.objs.size:=fun b hb=>by
  obtain⟨o,e,_⟩:=T.obj _ _ wt2_ b hb
  have lt:=Heap.lt_size e
  exact⟨⟨by rw[upd_ne (by rw[<-eqD];exact Nat.ne_of_lt lt)];exact (fo2_ b hb).1,(fo2_ b hb).2⟩,by rw[hh3_,Heap.size_push];exact Nat.lt_succ_of_lt lt⟩
 have wt3_:tn 0 t3_.heap:=T.keep _ _ _ wt2_ fun b _ o e=>by rw[hh3_];exact Heap.get?_push_of_some _ e
 have J4_:=block_start J3_ ok hN fo3_
 have pg:=hg t3_ (upd L2_ D (.lst [])) t3_.heap.objs.size (cellsFrom (t3_.heap.objs.size+1) scope.names (cloFrom X.env.cells scope.names [])) fp
 have pe:=he (fun c d H'=>W c d σ H') t3_ (upd L2_ D (.lst [])) t3_.heap.objs.size (cellsFrom (t3_.heap.objs.size+1) scope.names (cloFrom X.env.cells scope.names [])) fp
 show codeAny _ _ (.compStart (.ListComp elt [⟨tg,iter,[],0⟩] scope pos) 0 (.ref it) (.ref D) (compEnvC scope (cellsFrom (t3_.heap.objs.size+1) scope.names (cloFrom X.env.cells scope.names [])) t3_.heap.objs.size X.env))
  (Cq (model X.prog X.w) X.A X.xe (EP X pins σ Q) (.ref D) (compEnvC scope (cellsFrom (t3_.heap.objs.size+1) scope.names (cloFrom X.env.cells scope.names [])) t3_.heap.objs.size X.env)) {t3_ with heap:=pushCells (t3_.heap.push {cls:=.type "dict",data:=.dict #[]}) scope.names}
 have nfp: ∀b∈fp,(upd L2_ D (.lst [])) b=none:=fun b hb=>(fo3_ b hb).1.1
 generalize eqc:compEnvC scope (cellsFrom (t3_.heap.objs.size+1) scope.names (cloFrom X.env.cells scope.names [])) t3_.heap.objs.size X.env=ce at J4_ pg pe⊢
 have cL:ce.locals=t3_.heap.objs.size:=by subst eqc;rfl
 have cF:ce.frame=X.env.frame:=by subst eqc;rfl
 generalize eqH:upd L2_ D (.lst [])=L3_ at J3_ J4_ pg pe v0 nfp fo3_
 generalize eqs:({t3_ with heap:=pushCells (t3_.heap.push {cls:=.type "dict",data:=.dict #[]}) scope.names}:Shared)=t4_ at J4_⊢
 have wt4_:tn 0 t4_.heap:=T.keep _ _ _ wt3_ fun b _ o e=>by rw[<-eqs];exact pushCells_keeps _ _ _ _ (Heap.get?_push_of_some _ e)
 have back: ∀{p':List (Addr×Obj)} {σ':L2.St} {K:Hp} {t:Shared},L2.Inv (X.blk t3_ L3_ scope ce fp) p' σ' K t->L2.Inv X pins σ K t/\FpOk X pins K ce.locals/\ ∃m,t.heap.Ns ce.locals m:=fun {p' σ' K t} Ib=>by
  refine⟨J3_.call' (ch:=fp) Ib.os Ib.base Ib.hok Ib.bare fun b hb=>⟨(fo3_ b hb).1.2.2.2.1,(fo3_ b hb).1.2.1,(fo3_ b hb).1.2.2.2.2.1,(fo3_ b hb).1.2.2.2.2.2⟩,?_,?_⟩
  ·have z:K ce.locals=none:=Ib.free
   rw[cL] at z⊢
   exact J3_.fpOk (Nat.le_refl _) z
  ·obtain⟨m,ns,_⟩:=Ib.loc
   exact⟨m,ns⟩
 have stat: ∀{σ':L2.St} {K:Hp} {t:Shared},L2.Inv (X.blk t3_ L3_ scope ce fp) [] σ' K t->(∀b∈fp,K b=none)-> ∀b∈fp,FpOk (X.blk t3_ L3_ scope ce fp) [] K b:=fun {σ' K t} Ib hn b hb=>
  ⟨hn b hb,(Ib.ok.exf b hb).1,Ib.ok.exfs b hb,.inl hb,fun x c e=>(Ib.ok.exf b hb).2 x c e,fun p hp=>absurd (show p∈([]:List (Addr×Obj))++[] from hp) (by simp)⟩
 refine codeAny_compStart_list ?loop (T.self X.A 0 _ _ _ wt4_ ?loop)
 refine compLoop_any (fun n t=> ∃i K,L2.Inv (X.blk t3_ L3_ scope ce fp) [] (wipe σ (own.map (·.2))) K t/\tn i t.heap/\(∀b∈fp,K b=none)/\V i n K) ?_ m0 ⟨0,L3_,J4_,wt4_,nfp,v0⟩
 rintro n t5_ ⟨i,L5_,J5_,wt5_,nn5_,v5⟩
 rcases turn i n L5_ v5 with ⟨stop,qq⟩|⟨go,Nx,hNx,step⟩
 ·refine thnF (T.done (X.blk t3_ L3_ scope ce fp) rfl rfl rfl hc i [] t5_ _ L5_ (fun _ _=>False) J5_ (stat J5_ nn5_) wt5_ stop) fun r t6_ ⟨hr,J6_⟩=> ?_
  subst hr
  obtain⟨J7_,fC,m,ns⟩:=back J6_
  refine⟨m,ns,fun g sb=> ?_⟩
  obtain⟨fo0_,fo1_,fo2_',fo3_',fo4_,fo5_⟩:=fC
  exact⟨.ref D,L5_,J7_.turned (t':=t6_.toks) (fun b o hb e=>(sb.2 b hb).trans e) fo0_ fo1_ fo3_' fo4_ fo5_,rfl,qq⟩
 ·refine thnF (T.item (X.blk t3_ L3_ scope ce fp) rfl rfl rfl hc i [] t5_ _ L5_ (fun _ _=>False) J5_ (stat J5_ nn5_) wt5_ go) fun r t6_ ⟨u,hr,hh6_⟩=> ?_
  subst hr
  refine thnF hh6_ fun _ t7_ ⟨x,L7_,J7_,r7,yy7_,wt7_,nn7_⟩=> ?_
  have J7_':=J7_.pinned (stat J7_ nn7_) (T.obj _ _ wt7_)
  refine thnF (pg.run _ t7_ _ L7_ x u _ J7_' r7 (step x L7_ yy7_)) fun _ t8_ ⟨τ8_,L8_,J8_,hw8,q8⟩=> ?_
  refine thnF ((pts_nil (X:=X.blk t3_ L3_ scope ce fp)).run _ t8_ τ8_ L8_ (fun b K=>b=true/\K=L8_) J8_ ⟨rfl,rfl⟩) fun b t9_ ⟨L9_,J9_,q9⟩=> ?_
  obtain⟨rfl,rfl⟩:=q9
  have fin: ∀{t:Shared} {K:Hp},L2.Inv (X.blk t3_ L3_ scope ce fp) ([]++pinsAt fp t7_.heap) τ8_ K t->Nx K-> ∃m,m<n/\ ∃i K,L2.Inv (X.blk t3_ L3_ scope ce fp) [] (wipe σ (own.map (·.2))) K t/\tn i t.heap/\(∀b∈fp,K b=none)/\V i m K:=fun {t K} Ib nx=>by
   obtain⟨m',lt,v'⟩:=hNx K nx
   have pin': ∀b∈fp,∀o,t7_.heap.get? b=some o->t.heap.get? b=some o/\K b=none:=fun b hb o e=>⟨(Ib.pin (b,o) (List.mem_append_right _ (List.mem_append_right _ (mem_pinsAt hb e)))).1,(Ib.pin (b,o) (List.mem_append_right _ (List.mem_append_right _ (mem_pinsAt hb e)))).2.1⟩
   refine⟨m',lt,i+1,K,(Ib.unpinned (pins:=[])).weak (by rw[<-hw8,wipe_length]) (fun j v e=>by rw[<-hw8] at e;exact (wipe_some e).1),T.keep _ _ _ wt7_ fun b hb o e=>(pin' b hb o e).1,fun b hb=> ?_,v'⟩
   obtain⟨o,e,_⟩:=T.obj _ _ wt7_ b hb
   exact (pin' b hb o e).2
  rw[if_pos rfl]
  refine wpAny_mono (pe.run _ t9_ τ8_ L9_ _ (MC J9_) q8) (fun z t10_ ⟨yv,L10_,J10_,r10,acc,eqD10,hz10,nx⟩=> ?_) fun u t1 ⟨p',σ',K,t,Ib,c⟩=> ?_
  ·exact app_ok (X:=X.blk t3_ L3_ scope ce fp) (G6 J10_) eqD10 hz10 r10 fun t11_ J11_=>fin J11_ nx
  ·obtain⟨Jx,fC,m,ns⟩:=back Ib
   exact JD (W:=W) Jx hs hf tk (fun _ _ _ z=>z) cF fC ns c
end
end Sw
namespace Sw
open PySem PySem.Spec PyProof.Rows L2
variable [NmC]
def JE (K:Frg) (E:XK) (Δ:List Md) (st:Ds) (m:VM) (r:Option (Xn ⊕ D)):TE:=fun σ H Q=>
 ∃O G x,Rel K O Δ st σ H G/\r=some x/\match x with
  | .inr d=> ∀v H' G',Ext H G H' G'->bh K O H H' G' m d v->Q v H'
  | .inl x=> ∀c od H' G',Ext H G H' G'->XcR K [] O x c od H' G'->E c od H'
section
variable {X:Cx} {Δ:List Md} {st:Ds} {e:Expr} {es:List Expr} {rm:VM} {ra:Option (List D)} {pos p:Pos} {vms:List VM} {ps:List PM} {Fs:List D->Option FR} {k k':Nat} {pn:List Str} {x:Str} {E:XK}
theorem G7 {H:Hp} {σ:CS} {Q:VK} {O:Org} {G:Sa} {ds:List D} {rc:Xn ⊕ D} (ok:hO ps vms=true) (rel:Rel X.K O Δ st σ H G) (er:(Fs ds).bind frX=some rc) {vs:List V} {H1:Hp} {G1:Sa} (x1:Ext H G H1 G1) (v1:kW X.K O H H1 G1 vms ds vs)
  (kk:match rc with
  | .inr d=> ∀v H' G',Ext H G H' G'->bh X.K O H H' G' rm d v->Q v H'
  | .inl x=> ∀c od H' G',Ext H G H' G'->XcR X.K [] O x c od H' G'->E c od H'):FSp X.K ps rm Fs vs H1 Q E:=by
 cases rc with
 |inr d=>
  obtain⟨O1,ds1,fr,a1,a2,a3,a4,a5⟩:=yH (W:=fun _ _ _ _=>False) (Q:=Q) (rm:=rm) ok rel er x1 v1 kk
  refine⟨O1,ds1,fr,a1,a2,a3,a4,?_⟩
  cases fr with
  |ok d os=>exact a5
  |er z=>exact fun c od H' G' r=>(a5 c od H' G' r).elim
 |inl z=>
  have rel1:=rel.ext x1
  obtain⟨har,hp⟩:=mL ok v1
  obtain⟨fr,e4,e5⟩:=bind1 er
  cases fr with
  |ok d' os=>
   cases os with
   |cons _ _=>cases e5
   |nil=>cases e5
  |er z'=>
   cases e5
   refine⟨Org.all H1 G1,ds,_,rfl,iN rel1.tb rel1.gin,har,e4,fun c od H' G' ⟨ec,⟨L,g⟩,hx⟩=> ?_⟩
   have x2:=vt g
   obtain⟨L2,g2,_⟩:=rel1.ext x2
   refine kk c od H' G' (x1.trans x2) ⟨ec,⟨L2,g2⟩,hx.imp id fun⟨a,fvs,b1,b2,b3,b4,b5⟩=> ?_⟩
   obtain⟨L3,g3,_⟩:=rel1
   exact⟨a,fvs,b1,b2,g3.back b3,b4,b5⟩
theorem Fe (hx: ∀σ,PassesAt (L2N.CX X.prog X.w) X σ E) (C:wH X.prog X.w X.K X.mg X.base k x pn ps rm Fs) (hr:Room k' X.A) (ha:PAx X Δ st (e::es) vms ra) (hg:Gl X x:=by rfl) (hk:k<=k':=by decide) (ok:hO ps vms=true:=by rfl)
  (hdb:(x==("__debug__" :Str))=false:=by decide) (he:starEach (e::es) X.env=(false,eval e X.env)::starEach es X.env:=by rfl) (hpl:(backTo pos (starEach es X.env)).any (·.1)=false:=by rfl):
  PE X (.Call (.Name x p) (e::es) [] pos) (JE X.K E Δ st rm ((ra.bind Fs).bind frX)):=by
 obtain⟨f,fd,F,hm,hkp,hb⟩:=C.ok
 refine bj (pe_callS (E:=fun _=>E) F (hr.mono hk) hg hm hkp hb hx ha hdb he hpl) fun σ H Q ⟨O,G,y,rel,er,kk⟩=> ?_
 rw[Option.bind_assoc] at er
 obtain⟨ds,e1,e2⟩:=bind1 er
 exact⟨O,G,ds,rel,e1,fun vs H1 G1 x1 v1=>G7 ok rel e2 x1 v1 (by cases y <;> exact kk)⟩
end
theorem G8 {X:Cx} {E:XK} {s:Shared} {H:Hp} {scope:Scope} {ce:Env} {fp:List Addr}: ∀σ,PassesAt (L2N.CX (Cr X E s H scope ce fp).prog (Cr X E s H scope ce fp).w) (Cr X E s H scope ce fp) σ E:=fun σ pins K t u t1 I c=>⟨pins,σ,K,t,G6 I,c⟩
def pB {δ:Type} (re:δ->Option (Xn ⊕ D)):List δ->Option (Xn ⊕ List D)
 | []=>some (.inr [])
 |d::r=>(re d).bind fun x=>match x with
  | .inl z=>some (.inl z)
  | .inr y=>(pB re r).map (Sum.map id (y:: ·))
def D5 {δ:Type} (re:δ->Option (Xn ⊕ D)) (ds:List δ):Option (Xn ⊕ D):=if ds.length<=sizeLine then (pB re ds).map (Sum.map id D.lst) else none
def lcX {δ:Type} (rI:Option (List δ)) (re:δ->Option (Xn ⊕ D)):Option (Xn ⊕ D):=rI.bind fun ds=>D5 re ds
section
variable {Δ:List Md} {st:Ds}
theorem JF {K:Frg} {δ:Type} {g:TG} {rg:Rg} {IR:Sa->Hp->δ->V->Prop} {rI:Option (List δ)} {uM:List Md->List Md} {uS:δ->Ds->Ds} {is vs0:List Nat} {re:δ->Option (Xn ⊕ D)} {W:WX}
  (him:lH IR) (hw: ∀v∈vs0,st[v]? =some none) (his: ∀i∈is,i∈vs0) (htg:wg K g rg IR uM uS Δ.length is) {σ:CS} {H:Hp} {Q:VK}
  (h:rdX K W Δ st (.nw (.ls .fz)) (lcX rI re) σ H Q):
  Ou (rdI K Δ st rg IR rI) g (fun E σ H Q=> ∃d,JE K E (uM Δ) (uS d st) (.rg .fz) (re d) σ H Q) vs0 W σ H Q:=by
 obtain⟨O,G,x,rel,er,k⟩:=h
 obtain⟨ds,e1,e2⟩:=bind1 er
 unfold D5 at e2
 split at e2
 case isFalse=>cases e2
 rename_i hz
 obtain⟨all,e3,ex⟩:=cg e2
 refine⟨O,G,ds,rel,e1,fun J H1 G1 x1 hwk D0 hD=> ?_⟩
 have rel1:=(rel.ext x1).wipe hw
 have nG: ¬G1 D0:=fun g=>rel1.gin _ g hD
 refine⟨fun i m H=> ∃G xs vs rest,m=ds.length -i/\i<=ds.length/\Ext H1 G1 H G/\H D0=some (.lst vs)/\ ¬G D0/\aE K G H xs vs/\xs.length<=i/\pB re (ds.drop i)=some rest/\all=Sum.map id (xs++ ·) rest,
  ⟨ds.length,G1,[],[],all,by omega,by omega,.new hD,upd_same,nG,.nil,Nat.le_refl _,by simpa using e3,by cases all <;> rfl⟩,fun i m H hW=> ?_⟩
 obtain⟨Gi,xs,vs,rest,em,hil,xi,hDi,nGi,rs,hxs,ec,ea⟩:=hW
 have hst: ∀p u,stR O G1 rg p->H1 p=some u->NT u->H p=some u:=fun p u _ e nt=>xi.hh p u e
 obtain⟨w1,w2⟩:=hwk H hst i
 by_cases hlt:i<ds.length
 ·have hd:ds[i]? =some ds[i]:=List.getElem?_eq_getElem hlt
  obtain⟨go,yl⟩:=w1 _ hd
  refine .inr ⟨go,fun H'=> ∃G xs vs rest,Ext H1 G1 H' G/\H' D0=some (.lst vs)/\ ¬G D0/\aE K G H' xs vs/\xs.length<=i+1/\pB re (ds.drop (i+1))=some rest/\all=Sum.map id (xs++ ·) rest,
   fun H' ⟨G',xs',vs',rest',z1,z2,z3,z4,z5,z6,z7⟩=>⟨m -1,by omega,G',xs',vs',rest',by omega,by omega,z1,z2,z3,z4,z5,z6,z7⟩,fun x H3 hy=> ?_⟩
  obtain⟨hh,ir⟩:=yl x H3 hy
  have x3:Ext H Gi H3 Gi:=.of hh (fun _ g=>g) fun _ g=>.inl g
  have rl3:=rel1.ext (xi.trans x3)
  have hsub: ∀p,rgn O G1 rg p->rgn O Gi rg p:=fun p s=>by
   cases rg with
   |hb=>exact trivial
   |bb=>exact s
   |fz=>exact xi.gg p s
  refine htg _ _ _ _ _ _ _ x _ rfl rl3 (him _ _ H3 H3 _ x hsub (fun _ _ e=>e) ir) fun σ' rl' hwp=>⟨?_,?_⟩
  ·rw[hwp _ his]
   exact tw fun u m=>m
  ·rw[rN hd] at ec
   unfold pB at ec
   obtain⟨b,eb,ec⟩:=bind1 ec
   refine⟨ds[i],O,Gi,b,rl',eb,?_⟩
   cases b with
   |inl z=>
    cases ec
    subst ea
    subst ex
    exact fun c od H' G' xE hx=>k c od H' G' (rel.ext (x1.trans (xi.trans (x3.trans xE)))) hx
   |inr y=>
    obtain⟨ys,e6,e7⟩:=cg ec
    intro v H5 G5 x5 v5
    have x35:Ext H Gi H5 G5:=x3.trans x5
    have hD5:H5 D0=some (.lst vs):=x35.hh _ _ hDi
    have nG5: ¬G5 D0:=fun g=>by
     rcases x35.gn D0 g with g|⟨n,_⟩|⟨xs,t⟩
     ·exact nGi g
     ·rw[hDi] at n;cases n
     ·rw[hDi] at t;cases xs <;> cases t
    have ag:Agr G5 H5 (upd H5 D0 (.lst (vs++[v]))):=fun p g=>k7.of_eq fun u e=>by
     rw[upd_ne (fun z=>by subst z;exact nG5 g)];exact e
    have rs5:aE K G5 H5 xs vs:=aE.mono x35.gg x35.agr xs vs rs
    refine⟨vs,hD5,by rw[rs.length];exact Nat.lt_of_lt_of_le (by omega) hz,G5,xs++[y],vs++[v],ys,?_,upd_same,nG5,aE.mono (fun _ g=>g) ag _ _ (rs5.append (.one v5)),by rw[List.length_append];simp;omega,e6,?_⟩
    ·exact (xi.trans x35).Oa hD ⟨_,hD5,trivial⟩
    ·rw[ea,←e7]
     cases ys with
     |inl z=>rfl
     |inr ys=>show Sum.inr (xs++(y::ys))=Sum.inr ((xs++[y])++ys);rw[List.append_assoc];rfl
 ·refine .inl ⟨w2 (by omega),?_⟩
  rw[List.drop_of_length_le (by omega)] at ec
  cases ec
  subst ea
  subst ex
  refine k _ H Gi (x1.trans xi) ⟨[D0],by simp,fun p m=> ?_,?_⟩
  ·rw[List.mem_singleton] at m
   subst m
   exact⟨x1.back hD,nGi⟩
  ·unfold Own
   refine⟨D0,vs,_,[],rfl,rfl,hDi,?_,rfl⟩
   show fP (Own K Gi H Sh.fz) (xs++[]) vs []
   rw[List.append_nil]
   exact rS rs
theorem ME {X:Cx} {W:WX} {δ:Type} {elt tg iter:Expr} {scope:Scope} {own:List (Str×Nat)} {pos:Pos} {g:TG} {rg:Rg} {IR:Sa->Hp->δ->V->Prop} {rI:Option (List δ)} {uM:List Md->List Md} {uS:δ->Ds->Ds} {is:List Nat} {re:δ->Option (Xn ⊕ D)}
  (hs:X.stack=X.env::X.outer) (hf:X.env.frame=some X.env.locals) (tk:L2N.Takes X W) (hc:X.calm=true) (hN:X.N.Nodup) (hi:PIx X Δ st tg iter rg IR rI) (him:lH IR) (hr:rg≠ .hb) (ok:BlkOk X.N X.env.scope scope own) (hw: ∀v∈own.map (·.2),st[v]? =some none) (his: ∀i∈is,i∈own.map (·.2))
  (hg: ∀(s:Shared) (H:Hp) (C:Addr) (cl:List (Str×Addr)) (fp:List Addr),PG (X.blk s H scope (compEnvC scope cl C X.env) fp) tg g) (htg:wg X.K g rg IR uM uS Δ.length is)
  (he: ∀(E:XK) (s:Shared) (H:Hp) (C:Addr) (cl:List (Str×Addr)) (fp:List Addr) (d:δ),PE (Cr X E s H scope (compEnvC scope cl C X.env) fp) elt (JE X.K E (uM Δ) (uS d st) (.rg .fz) (re d)))
  (hq: ∀x,foldedSetIterable iter X.env x=pure x:=by intro _;rfl):
  PE X (.ListComp elt [⟨tg,iter,[],0⟩] scope pos) (rdX X.K W Δ st (.nw (.ls .fz)) (lcX rI re)):=
 bj (MD (te:=fun E σ H Q=> ∃d,JE X.K E (uM Δ) (uS d st) (.rg .fz) (re d) σ H Q) hc hN hs hf tk hi ok hg (fun E s H C cl fp=>KU fun d=>he E s H C cl fp d) hq) fun σ H Q h=>JF him hw his htg h
end
end Sw
namespace Sw
open PySem PySem.Spec PyProof.Rows L2
variable [NmC]
def Cs {γ:Type} (K:Frg) (W:WX) (Δ:List Md) (st:Ds) (Δx:List Md) (stx:Ds) (Δ':List Md) (el:γ->Ds) (mb:Option (Xn ⊕ γ)):TS:=fun De σ H=> ∃O G r,Rel K O Δ st σ H G/\mb=some r/\match r with
 | .inl x=> ∀c od σ' H' G',Rel K O Δx stx σ' H' G'->XcF K x c od H' G'->W c od σ' H'
 | .inr g=> ∀σ' H' G',Rel K O Δ' (el g) σ' H' G'->De.nx σ' H'
section
variable {X:Cx} {α β γ:Type} {E:Exits α β} {Δ Δ':List Md} {st:Ds} {rest body orelse:List Stmt} {e:Expr} {ra:Option D} {el:γ->Ds} {mb:Option (Xn ⊕ γ)} {k:γ->Option (Out α β)} {Δx:List Md} {stx:Ds}
theorem G9 {Cn fld:Str} {np p cp qp rp pos' pos:Pos} {j n:Nat} (T:Jt X.prog X.w X.K X.mg X.base Cn fld) (hr:Room (n+2) X.A) (hT:PySem.W.exmOne X.K (.ref (He.ga X.K Cn)) (.ref (He.ga X.K Cn))=some true)
  (hs:X.stack=X.env::X.outer) (hf:X.env.frame=some X.env.locals) (hg:Gl X Cn) (hpa: ∀hd:Option Value,PassesOwnAt (model X.prog X.w) (X.A.mark hd) X.A X.env X.xe) (tk:L2.Takes X fun c d _ H=>E.xw c d H)
  (hbody: ∀(W:WX) (pn:List (Addr×Obj)) (xe:Value->Shared->Prop),L2N.Takes (X.tr pn xe) W->PassesOwn (model X.prog X.w) X.A X.env xe->PSs (X.tr pn xe) body (Cs X.K W Δ st Δx stx Δ' el mb))
  (ha: ∀(a:Addr) (oe:Obj) (pn:List (Addr×Obj)),PX (L2H.suiteX X a ((a,oe)::pn)) Δx stx e (.rg .fz) ra)
  (hk: ∀g,Blk X E Δ' (el g) orelse (k g))
  (hdb:(Cn==("__debug__" :Str))=false:=by decide) (he:starEach [e] X.env=(false,eval e X.env)::starEach [] X.env:=by rfl) (hpl:(backTo qp (starEach [] X.env)).any (·.1)=false:=by rfl):
  Blk X E Δ st [.Try body [.ExceptHandler (some (.Name Cn np)) none [.Raise (some (.Call (.Name Cn p) [e] [] qp)) (some (.Constant .none j cp)) rp] pos'] orelse [] pos] (MA mb Cn fld ra k):=by
 obtain⟨fI,fd,ps,i1,i2,F,hb⟩:=T.inh
 refine cV (pss_cons (Ju (fJ hk) hs hf ⟨hg,hdb,.inl T.xc.gm⟩ hpa tk hbody (ts:=fun a cls d De σ H=>tMkO (He.ga X.K Cn) (wG X.K (He.ga X.K Cn) fld) [] (tCons (rdE X.K Δx stx (.rg .fz) ra) tNil) σ H fun c d H'=>E.xw c d H') fun a oe cls d pn tkS hot=>
  cV (pss_cons (L2H.ps_raiseHN hot tkS (L2H.pmk5_oexH T.xc.ox i1 i2 F (L2H.roomH_mark (hr.mono (by omega)) _) hot hb pass0 hg T.xc.gm (pa_cons (ha a oe pn) pa_nil he) hdb he hpl)) pss_never) fun De σ H h=>h) pss_nil) fun De σ H ⟨O,G,q,rel,er,kk⟩=> ?_
 obtain⟨r,e5,e6⟩:=bind1 er
 refine⟨O,G,r,rel,e5,?_⟩
 cases r with
 |inr g=>exact fun σ' H' G' rel'=>⟨g,O,G',q,rel',e6,kk⟩
 |inl x=>
  intro c od σ' H' G' rel' hx
  have e7:(if x.C=Cn then ra.bind fun d=>some (.exc ⟨Cn,[(fld,d)]⟩) else none)=some q:=e6
  by_cases qC:x.C=Cn
  ·rw[if_pos qC] at e7
   have ec:c= .ref (He.ga X.K Cn):=by rw[hx.1,qC]
   have kx: ∀De,Meets X.K E O De q:=fun De'=>by
    obtain⟨d,_,e8⟩:=bind1 e7
    cases e8
    exact kk
   exact⟨true,by rw[ec];exact hT,fun _ a na=>GX rel' e7 kx,fun z=>by cases z⟩
  ·rw[if_neg qC] at e7;cases e7
end
end Sw
namespace Sw
open PySem PySem.Spec PyProof.Rows L2
variable [NmC]
def wJ {γ δ:Type} (step:γ->δ->Option (Xn ⊕ γ)):List δ->γ->Option (Xn ⊕ γ)
 | [],b=>some (.inr b)
 |d::r,b=>(step b d).bind fun x=>match x with
  | .inl z=>some (.inl z)
  | .inr b'=>wJ step r b'
section
variable {γ δ:Type} {X:Cx} {W:WX} {Δ Δx:List Md} {st stx:Ds} {body:List Stmt} {pos:Pos} {tg it:Expr}
theorem JG {rg:Rg} {IR:Sa->Hp->δ->V->Prop} {rI:Option (List δ)} {g:TG} {uM:List Md->List Md} {uS:δ->Ds->Ds} (Dl:List Md) (el:γ->Ds) {b0:γ} {step:γ->δ->Option (Xn ⊕ γ)}
  (hi:PIx X Δ st tg it rg IR rI) (him:lH IR) (hr:rg≠ .hb) (hg:PG X tg g) {is:List Nat} (ht:wg X.K g rg IR uM uS Dl.length is) (w:Wk Δ st Dl (el b0)) (hb: ∀b d,PSs X body (Cs X.K W (uM Dl) (uS d (el b)) Δx stx Dl el (step b d)))
  (hc:X.calm=true) (hp:PassesOwn (model X.prog X.w) X.A X.env X.xe) (hs: ∀x,foldedSetIterable it X.env x=pure x:=by intro _;rfl):
  PSs X [.For tg it body [] pos] (Cs X.K W Δ st Δx stx Dl el (rI.bind fun ds=>wJ step ds b0)):=
 cV (pss_one (ps_for hp hc hi hg (fJ fun b=>fJ fun d=>hb b d) hs)) fun De σ H ⟨O,G,q,rel,er,kk⟩=>by
  obtain⟨ds,e1,ef⟩:=bind1 er
  refine⟨O,G,ds,rel,e1,fun J H1 G1 x1 hw=> ?_⟩
  obtain⟨L,g0,rl0⟩:=((rel.ext x1).weak w).start
  have hS: ∀p,stR O G1 rg p->p∉L:=fun p s m=>by
   rcases s with s|s|s
   ·cases rg with
    |hb=>exact hr rfl
    |bb=>exact (g0.lg p m).2.elim (g0.bin p s).2 (g0.bin p s).1
    |fz=>exact (g0.lg p m).1 s
   ·exact (g0.lg p m).2.elim (g0.bin p s).2 (g0.bin p s).1
   ·exact (g0.lg p m).1 s
  refine⟨fun i m σ H=> ∃b G,m=ds.length -i/\i<=ds.length/\Rel X.K (O.at H1 G1 L) Dl (el b) σ H G/\wJ step (ds.drop i) b=some q,⟨ds.length,b0,G1,by omega,by omega,rl0,by simpa using ef⟩,fun i m σ H hW=> ?_⟩
  obtain⟨b,G,em,hi,rl,hf⟩:=hW
  have hst: ∀p u,stR O G1 rg p->H1 p=some u->NT u->H p=some u:=fun p u s e nt=>by
   obtain⟨L2,g2,_⟩:=rl
   exact g2.frame p u e (hS p s)
  obtain⟨w1,w2⟩:=hw H hst i
  by_cases hlt:i<ds.length
  ·refine .inr ?_
   have hd:ds[i]? =some ds[i]:=List.getElem?_eq_getElem hlt
   obtain⟨go,yl⟩:=w1 _ hd
   rw[rN hd] at hf
   unfold wJ at hf
   obtain⟨o,eo,ho⟩:=bind1 hf
   refine⟨go,fun σ' H'=> ∃b' G',Rel X.K (O.at H1 G1 L) Dl (el b') σ' H' G'/\wJ step (ds.drop (i+1)) b'=some q,fun σ' H' ⟨b',G',rl',hf'⟩=>⟨m -1,by omega,b',G',by omega,by omega,rl',hf'⟩,fun x H3 hy=> ?_⟩
   obtain⟨hh,ir⟩:=yl x H3 hy
   have x3:Ext H G H3 G:=.of hh (fun _ g=>g) fun _ g=>.inl g
   have rl3:=rl.ext x3
   have hsub: ∀p,rgn O G1 rg p->rgn (O.at H1 G1 L) G rg p:=fun p s=>by
    cases rg with
    |hb=>exact trivial
    |bb=>exact s
    |fz=>
     obtain⟨L2,g2,_⟩:=rl
     exact g2.gsub p s
   refine ht _ _ _ _ _ _ _ x _ rfl rl3 (him _ _ H3 H3 _ x hsub (fun _ _ e=>e) ir) fun σ' rl' _=> ?_
   refine⟨b,ds[i],O.at H1 G1 L,G,o,rl',eo,?_⟩
   cases o with
   |inr b'=>exact fun σ2 H2 G2 r2=>⟨b',G2,r2,ho⟩
   |inl z=>
    cases ho
    exact fun c od σ2 H2 G2 r2 hx=>kk c od σ2 H2 G2 (r2.comp g0) hx
  ·refine .inl ⟨w2 (by omega),?_⟩
   rw[List.drop_of_length_le (by omega)] at hf
   cases hf
   exact kk σ H G (rl.comp g0)
end
end Sw
namespace Sw
open PySem PySem.Spec PyProof.Rows L2
variable [NmC]
def Ov (K:Frg) (W:WX) (Δ:List Md) (st:Ds) (m:VM) (r:Option (Xn ⊕ (D×Ds))):TE:=fun σ H Q=> ∃O G x,Rel K O Δ st σ H G/\r=some x/\match x with
 | .inr ds=> ∀v H' G',RelV K O Δ ds.2 σ H' G' m ds.1 v->Q v H'
 | .inl z=> ∀c od H' G',Rel K O Δ st σ H' G'->XcR K [] O z c od H' G'->W c od σ H'
section
variable {X:Cx} {W:WX} {Δ:List Md} {st:Ds} {o e:Expr} {m:VM} {md:Md} {s s'':Sh} {d:D} {i:Nat} {rp:Option (List Stp)} {rx:Option (Xn ⊕ D)} {apos pos:Pos}
theorem zw {x:D} (he:PE X e (rdX X.K W Δ st m (some (.inr x)))):PX X Δ st e m (some x):=bj he fun σ H Q ⟨O,G,y,rel,er,k⟩=>by
 cases er
 exact⟨O,G,.inr x,rel,rfl,k⟩
theorem Ct (hm:Δ[i]? =some md) (hs:wA md=some s) (hd:st[i]? =some (some d)) (ho:PPx X Δ st o i rp) (hsh: ∀q,rp=some q->shP s q=some (.ls s'')) (hgp: ∀q,rp=some q-> ∃d',fj d q=some d') (he:PE X e (rdX X.K W Δ st m rx)) (hv:shV m=some s'')
  (hbase:attributeBase o "append" X.env (eval o X.env)=eval o X.env:=by rfl)
  (hfew:((backTo pos (starEach [e] X.env)).all (fun x=> !x.1)&&(backToKw pos (keywordEach [] X.env)).all (fun x=>x.1.isSome)&&decide ([e].length+([]:List Keyword).length+(if ([]:List Keyword).isEmpty then 0 else 1)<30))=true:=by rfl)
  (hline:(apos.endLine==pos.line)=true:=by rfl) (hse:starEach [e] X.env=(false,eval e X.env)::starEach [] X.env:=by rfl):
  PE X (.Call (.Attribute o "append" apos) [e] [] pos) (Ov X.K W Δ st (.rg .fz) (rp.bind fun q=>rx.bind fun x=>match x with
   | .inl z=>some (.inl z)
   | .inr x=>(wB st i d q fun d'=>D.app d' x).map .inr)):=by
 cases rx with
 |none=>exact⟨fun _ _ _ _ _ _ ⟨O,G,y,rel,er,k⟩=>by cases rp <;> cases er⟩
 |some rx=>
  cases rx with
  |inr x=>
   refine bj (mM hm hs hd ho hsh (zw he) hv hbase hfew hline hse) fun σ H Q ⟨O,G,y,rel,er,k⟩=> ?_
   obtain⟨q,e1,e2⟩:=bind1 er
   obtain⟨ds,e3,e4⟩:=cg e2
   subst e4
   exact⟨O,G,ds,rel,by rw[e1];exact e3,k⟩
  |inl z=>
   refine bj (pe_bm PySem.F.plainAttrs_list PySem.F.slot_list_append PySem.F.type_list_append mt_append ho (pa_cons he pa_nil hse) hbase hfew hline hse) fun σ H Q ⟨O,G,y,rel,er,k⟩=> ?_
   obtain⟨q,e1,e2⟩:=bind1 er
   cases e2
   obtain⟨d',e4⟩:=hgp q e1
   have hsq:=hsh q e1
   refine⟨O,G,q,rel,e1,fun v0 v H1 G1 ev0 x1 at1=> ?_⟩
   have rel1:=rel.ext x1
   have hty: ∃l vs,v= .ref l/\H1 l=some (.lst vs):=by
    obtain⟨v0',L,e8,ow⟩:=pk rel1 hm hs hd
    rw[ev0] at e8;cases e8
    obtain⟨v',L1,L2',at2,o1,_⟩:=ow.place _ hsq e4
    have:=at2.inj at1
    subst this
    unfold Own at o1
    obtain⟨l,vs,ds',L',_,ev,hl,_⟩:=o1
    exact⟨l,vs,ev,hl⟩
   obtain⟨l,vs,rfl,hl⟩:=hty
   exact⟨.inl ⟨rfl,vs,SqL.of hl⟩,O,G1,.inl z,rel1,rfl,k⟩
end
section
variable {X:Cx} {W:WX} {γ:Type} {Δ Δ' Δx:List Md} {st stx:Ds} {e:Expr} {m:VM} {r:Option (Xn ⊕ (D×Ds))} {pos:Pos} {el:γ->Ds}
theorem Ha (fe:D×Ds->γ) (he:PE X e (Ov X.K W Δ st (.rg .fz) r)) (w:Wk Δ st Δx stx) (w2: ∀x,r=some (.inr x)->Wk Δ x.2 Δ' (el (fe x))) (hs:swapsWith e none pos.line X.env=pure false:=by rfl):
  PSs X [.Expr e pos] (Cs X.K W Δ st Δx stx Δ' el (r.map (Sum.map id fe))):=
 cV (pss_cons (ps_expr he hs) pss_nil) fun De σ H ⟨O,G,q,rel,er,kk⟩=>by
  obtain⟨a,e3,e4⟩:=cg er
  subst e4
  refine⟨O,G,a,rel,e3,?_⟩
  cases a with
  |inl a=>exact fun c od H' G' rel' hx=>kk c od σ H' G' (rel'.weak w) hx.f
  |inr x=>
   intro v H1 G1 rv
   refine kk σ H1 G1 (Rel.weak (w2 x e3) ?_)
   obtain⟨L,Lv,g,sl,hv,e5⟩:=rv
   subst e5
   exact⟨L,by simpa using g,sl⟩
end
section
variable {X:Cx} {W:WX} {Δ:List Md} {st:Ds} {e:Expr} {rm vm:VM} {rx:Option (Xn ⊕ D)} {pos p:Pos} {ps:List PM} {Fs:List D->Option FR} {k k':Nat} {pn:List Str} {x:Str}
theorem MF {s:Sh} (h:PE X e (rdX X.K W Δ st (.nw s) rx)):PE X e (rdX X.K W Δ st (.rg .fz) rx):=by
 cases rx with
 |none=>exact⟨fun _ _ _ _ _ _ ⟨O,G,y,rel,er,k⟩=>by cases er⟩
 |some rx=>
  cases rx with
  |inr d=>
   refine bj (c8 (zw h)) fun σ H Q ⟨O,G,y,rel,er,k⟩=> ?_
   cases er
   exact⟨O,G,d,rel,rfl,k⟩
  |inl z=>
   refine bj h fun σ H Q ⟨O,G,y,rel,er,k⟩=> ?_
   cases er
   exact⟨O,G,.inl z,rel,rfl,k⟩
theorem Cu (C:Cal X.prog X.w X.K X.mg X.base k x pn ps rm Fs) (hr:Room k' X.A) (h:PE X e (rdX X.K W Δ st vm rx)) (hg:Gl X x:=by rfl) (hk:k<=k':=by decide) (ok:hO ps [vm]=true:=by rfl)
  (hdb:(x==("__debug__" :Str))=false:=by decide) (he:starEach [e] X.env=(false,eval e X.env)::starEach [] X.env:=by rfl) (hpl:(backTo pos (starEach [] X.env)).any (·.1)=false:=by rfl):
  PE X (.Call (.Name x p) [e] [] pos) (rdX X.K W Δ st rm (rx.bind fun y=>match y with
   | .inl z=>some (.inl z)
   | .inr d=>(bp Fs (aj (some d) aU)).map .inr)):=by
 cases rx with
 |none=>exact⟨fun _ _ _ _ _ _ ⟨O,G,y,rel,er,k⟩=>by cases er⟩
 |some rx=>
  cases rx with
  |inr d=>
   refine bj (aW C hr (af (zw h) aB he) hg hk ok hdb he hpl) fun σ H Q ⟨O,G,y,rel,er,kk⟩=> ?_
   obtain⟨r,e1,e2⟩:=cg er
   subst e2
   exact⟨O,G,r,rel,e1,kk⟩
  |inl z=>
   obtain⟨f,fd,F,hm,hkp,hb⟩:=C.ok
   refine bj (pe_call F (hr.mono hk) hg hm hkp hb .nil pass0 (pa_cons h pa_nil he) hdb he hpl) fun σ H Q ⟨O,G,y,rel,er,kk⟩=> ?_
   cases er
   exact⟨O,G,.inl z,rel,rfl,kk⟩
end
end Sw
namespace Sw
open PySem PySem.Spec PyProof.Rows L2
variable [NmC]
section
variable {X:Cx} {Δ:List Md} {st:Ds} {e:Expr} {s:Sh} {r:Option D}
theorem MG (h:PX X Δ st e (.nw (.hl [s])) r):PX X Δ st e (.nw (.ls s)) r:=bj h fun σ H Q ⟨O,G,d,rel,er,k⟩=>⟨O,G,d,rel,er,fun v H' G' x ⟨L,nd,f,o⟩=>k v H' G' x ⟨L,nd,f,by
 unfold Own at o⊢
 obtain⟨a,vs,ds,L',e1,e2,e3,oh,e4⟩:=o
 unfold dh at oh
 obtain⟨d1,dr,v1,vr,L1,L2,rfl,rfl,o1,o2,rfl⟩:=oh
 unfold dh at o2
 obtain⟨rfl,rfl,rfl⟩:=o2
 exact⟨a,_,_,_,e1,e2,e3,⟨v1,[],L1,[],rfl,o1,⟨rfl,rfl⟩,rfl⟩,e4⟩⟩⟩
end
end Sw
namespace Sw
open PySem PySem.Spec PyProof.Rows L2
variable [NmC]
def yb (K:Frg) (W:WX) (Δ:List Md) (st:Ds) (r:Option (Xn ⊕ Bool)):TT:=fun σ H Q=> ∃O G x,Rel K O Δ st σ H G/\r=some x/\match x with
 | .inr b=> ∀H' G',Ext H G H' G'->Q b H'
 | .inl z=> ∀c od H' G',Rel K O Δ st σ H' G'->XcR K [] O z c od H' G'->W c od σ H'
section
variable {X:Cx} {W:WX} {Δ:List Md} {st:Ds} {a b e:Expr} {m mb:VM} {rx:Option (Xn ⊕ D)} {rb:Option D} {pos:Pos}
theorem JI {op:CmpOp} {r2:R2} {f:D->D->Option Bool} (ho:OpR X (compareOp op) r2) (hf:Op2 X r2 m mb (.rg .fz) (blD f)) (ha:PE X a (rdX X.K W Δ st m rx)) (hb:PX X Δ st b mb rb) (hm:behindInMarks op b=false):
  PT X (.Compare a [op] [b] pos) (yb X.K W Δ st (rx.bind fun x=>match x with
   | .inl z=>some (.inl z)
   | .inr x=>(rb.bind fun y=>f x y).map .inr)):=by
 cases rx with
 |none=>exact⟨fun _ _ _ _ _ _ ⟨O,G,y,rel,er,k⟩=>by cases er⟩
 |some rx=>
  cases rx with
  |inr d=>
   refine yu (aO ho hf (zw ha) hb hm) fun σ H Q ⟨O,G,y,rel,er,k⟩=> ?_
   obtain⟨c,e1,e2⟩:=cg er
   subst e2
   exact⟨O,G,c,rel,e1,k⟩
  |inl z=>
   refine yu (pt_cmpR ho ha hb hm) fun σ H Q ⟨O,G,y,rel,er,k⟩=> ?_
   cases er
   exact⟨O,G,.inl z,rel,rfl,k⟩
theorem JJ {r:Option (Xn ⊕ Bool)} (h:PT X e (yb X.K W Δ st r)):PW X (.BoolOp .Or [e] pos) (yb X.K W Δ st r):=pw_or1 h
theorem MH {rt:Option Bool} {rs:Option (Xn ⊕ Bool)} {b:Expr} {rest:List Expr} (h:PTx X Δ st e rt) (hb:PW X (.BoolOp .Or (b::rest) pos) (yb X.K W Δ st rs)):
  PW X (.BoolOp .Or (e::b::rest) pos) (yb X.K W Δ st (rt.bind fun c=>if c=true then some (.inr true) else rs)):=
 Gb (pw_or h hb) fun σ H Q ⟨O,G,q,rel,er,k⟩=>by
  obtain⟨c,e1,e2⟩:=bind1 er
  refine rdT.go rel e1 fun H1 G1 rel1 x1=> ?_
  cases c with
  |false=>
   refine⟨O,G1,q,rel1,by simpa using e2,?_⟩
   cases q with
   |inr q=>exact fun H2 G2 x2=>k H2 G2 (x1.trans x2)
   |inl z=>exact k
  |true=>cases e2;exact k H1 G1 x1
end
section
variable {X:Cx} {α β γ:Type} {E:Exits α β} {Δ:List Md} {st:Ds} {rest:List Stmt} {pos:Pos}
theorem MI {c:Expr} {A Bs:List Stmt} {rc:Option (Xn ⊕ Bool)} {mA mB:Option (Out γ β)} (Dj:List Md) (ej:γ->Ds) {k:γ->Option (Out α β)} (hc:PT X c (yb X.K (exW E) Δ st rc)) (hA:Blk X (E.join Dj ej) Δ st A mA) (hB:Blk X (E.join Dj ej) Δ st Bs mB)
  (h: ∀a,Blk X E Dj (ej a) rest (k a)):Blk X E Δ st (.If c A Bs pos::rest) (rc.bind fun r=>match r with
   | .inl z=>some (.exc z)
   | .inr c=>(if c=true then mA else mB).bind (sqO k)):=
 cV (pss_cons (ps_if hc hA hB) (fJ h)) fun De σ H ⟨O,G,q,rel,er,kk⟩=>by
  obtain⟨b,e1,e2⟩:=bind1 er
  refine⟨O,G,b,rel,e1,?_⟩
  cases b with
  |inl z=>cases e2;exact fun c od H' G' _ hx=>kk c od H' G' hx
  |inr b=>
   obtain⟨r1,e3,e4⟩:=bind1 e2
   intro H1 G1 x1
   have rel1:=rel.ext x1
   have hm:=Meets.seq (Dj:=Dj) (ej:=ej) (U:=fun σ H=> ∃a,rdS X.K E Dj (ej a) (k a) De σ H) e4 kk fun a ea σ' H' G' rel'=>⟨a,O,G',q,rel',ea,kk⟩
   cases b with
   |true=>exact⟨O,G1,r1,rel1,by simpa using e3,hm⟩
   |false=>exact⟨O,G1,r1,rel1,by simpa using e3,hm⟩
end
end Sw
namespace Sw
open PySem PySem.Spec PyProof.Rows L2
variable [NmC]
def Hb (s:Sh) (d:D) (rp:Option (List Stp)) (rb:Option D):Option (List Stp):=rp.bind fun q=>rb.bind fun y=>match y,fj d q with
 | .int n,some (.lst ds)=>(L2.ixN ds.length n).bind fun j=>EZ s d (q++[.ix j])
 |_,_=>none
section
variable {X:Cx} {Δ:List Md} {st:Ds} {o b:Expr} {pos:Pos} {rg:Rg}
theorem MJ {i:Nat} {md:Md} {s s1:Sh} {d:D} {rp:Option (List Stp)} {rb:Option D} (hm:Δ[i]? =some md) (hs:wA md=some s) (hd:st[i]? =some (some d)) (ho:PPx X Δ st o i rp) (hsh: ∀q,rp=some q->shP s q=some (.ls s1)) (hb:PX X Δ st b (.rg rg) rb) (hns:PlainIx b):
  PPx X Δ st (.Subscript o b pos) i (Hb s d rp rb):=bj (pe_ix ix_list ho hb hns) fun σ H Q ⟨O,G,q',rel,er,kk⟩=>by
 obtain⟨q,e1,e2⟩:=bind1 er
 obtain⟨y,e3,e4⟩:=bind1 e2
 split at e4
 ·rename_i n ds eg
  obtain⟨j,e5,e6⟩:=bind1 e4
  obtain⟨rfl,s',d',hs',hd'⟩:=AO e6
  have hsq:=hsh q e1
  refine⟨O,G,q,rel,e1,fun v0 v1 H1 G1 ev0 x1 at1=>rdE.go (rel.ext x1) e3 fun w H2 G2 rel2 x2 v2=> ?_⟩
  obtain⟨v0',L,e7,ow⟩:=pk rel2 hm hs hd
  rw[ev0] at e7;cases e7
  obtain⟨u,M1,M2,at0,o1,_⟩:=ow.place _ hsq eg
  obtain⟨v',L1,L2',at2,_⟩:=ow.place _ hs' hd'
  obtain⟨v1',at3,at4⟩:=at2.last
  have:=at3.inj (at1.mono x2.hx)
  subst this
  have:=at0.inj at3
  subst this
  unfold Own at o1
  obtain⟨a,vs,ds',L',ed,rfl,hl,ol,_⟩:=o1
  cases ed
  obtain⟨a',vs',z,ea,e8,e9,e10⟩:=id at4
  cases ea
  rw[hl] at e8;cases e8
  have e10:v'=z:=e10
  subst e10
  have hw:w= .int n:=by
   unfold bh Rep at v2;exact v2
  subst hw
  refine⟨a,vs,n,v',rfl,rfl,SqL.of hl,?_,kk v0 v' H2 G2 ev0 (x1.trans x2) at2⟩
  unfold L2.atI
  rw[fP.length ol,e5]
  exact e9
 ·cases e4
end
theorem Ow {s s1:Sh} {d:D} {rp:Option (List Stp)} {rb:Option D} (h: ∀q,rp=some q->shP s q=some (.ls s1)): ∀q,Hb s d rp rb=some q->shP s q=some s1:=by
 intro q e
 obtain⟨q',e1,e⟩:=bind1 e
 obtain⟨y,e2,e⟩:=bind1 e
 split at e
 ·obtain⟨j,_,e5⟩:=bind1 e
  obtain⟨rfl,_⟩:=AO e5
  rw[nv,h _ e1]
  cases s1 <;> rfl
 ·cases e
end Sw
namespace Sw
open PySem PySem.Spec PyProof.Rows L2
def bX {A B:Type} (r:Option (Xn ⊕ A)) (k:A->Option B):Option (Xn ⊕ B):=r.bind fun x=>match x with
 | .inl z=>some (.inl z)
 | .inr x=>(k x).map .inr
variable [NmC]
section
variable {X:Cx} {W:WX} {Δ Δ' Δx:List Md} {st stx:Ds} {o e:Expr} {m:VM} {md:Md} {s'':Sh} {d:D} {rx:Option (Xn ⊕ D)} {apos pos pos2:Pos}
theorem JK (i:Nat) (el:D->Ds) (hm:Δ[i]? =some md) (hs:wA md=some (.ls s'')) (hd:st[i]? =some (some d)) (ho:PPx X Δ st o i (some [])) (he:PE X e (rdX X.K W Δ st m rx)) (hv:shV m=some s'') (w:Wk Δ st Δx stx) (w2: ∀d',Wk Δ (st.set i (some d')) Δ' (el d'))
  (hbase:attributeBase o "append" X.env (eval o X.env)=eval o X.env:=by rfl)
  (hfew:((backTo pos (starEach [e] X.env)).all (fun x=> !x.1)&&(backToKw pos (keywordEach [] X.env)).all (fun x=>x.1.isSome)&&decide ([e].length+([]:List Keyword).length+(if ([]:List Keyword).isEmpty then 0 else 1)<30))=true:=by rfl)
  (hline:(apos.endLine==pos.line)=true:=by rfl) (hse:starEach [e] X.env=(false,eval e X.env)::starEach [] X.env:=by rfl)
  (hsw:swapsWith (.Call (.Attribute o "append" apos) [e] [] pos) none pos2.line X.env=pure false:=by rfl):
  PSs X [.Expr (.Call (.Attribute o "append" apos) [e] [] pos) pos2] (Cs X.K W Δ st Δx stx Δ' el (bX rx fun x=>(D.app d x).map (·.2))):=by
 have g0:fj d []=some d:=by cases d <;> rfl
 have s0: ∀z,cG d [] z=z:=fun z=>by cases d <;> rfl
 have hi:i<st.length:=(List.getElem?_eq_some_iff.mp hd).1
 have hm2: ∀y,(wB st i d [] fun d'=>D.app d' y)=(D.app d y).map fun r=>(r.1,st.set i (some r.2)):=fun y=>by
  unfold wB
  rw[g0]
  show (D.app d y).bind _=_
  cases D.app d y with
  |none=>rfl
  |some r=>
   show some (r.1,st.set i (some (cG d [] r.2)))=_
   rw[s0]
   rfl
 have h:=Ha (Δ':=Δ') (el:=el) (fun x:D×Ds=>((x.2[i]?).bind id).getD .non) (Ct hm hs hd ho (fun q e=>by cases e;rfl) (fun q e=>by cases e;exact⟨d,g0⟩) he hv hbase hfew hline hse) w (fun x ex=>by
  have ex:(rx.bind fun x=>match x with
   | .inl z=>some (.inl z)
   | .inr x=>(wB st i d [] fun d'=>D.app d' x).map Sum.inr)=some (.inr x):=ex
  obtain⟨y,e1,e2⟩:=bind1 ex
  cases y with
  |inl z=>cases e2
  |inr y=>
   obtain⟨a,e3,e4⟩:=cg e2
   cases e4
   rw[hm2] at e3
   obtain⟨r,e5,e6⟩:=cg e3
   subst e6
   have:(((st.set i (some r.2))[i]?).bind id).getD .non=r.2:=by rw[List.getElem?_set_self hi];rfl
   show Wk Δ (st.set i (some r.2)) Δ' (el ((((st.set i (some r.2))[i]?).bind id).getD .non))
   rw[this]
   exact w2 r.2) hsw
 refine cV h fun De σ H q=> ?_
 have e:Option.map (Sum.map id fun x:D×Ds=>((x.2[i]?).bind id).getD .non) (rx.bind fun x=>match x with
   | .inl z=>some (.inl z)
   | .inr x=>(wB st i d [] fun d'=>D.app d' x).map Sum.inr)=bX rx fun x=>(D.app d x).map (·.2):=by
  cases rx with
  |none=>rfl
  |some y=>
   cases y with
   |inl z=>rfl
   |inr y=>
    show Option.map _ ((wB st i d [] fun d'=>D.app d' y).map Sum.inr)=((D.app d y).map (·.2)).map Sum.inr
    rw[hm2]
    cases D.app d y with
    |none=>rfl
    |some r=>
     show some (Sum.inr ((((st.set i (some r.2))[i]?).bind id).getD .non))=some (Sum.inr r.2)
     rw[List.getElem?_set_self hi]
     rfl
 rw[<-e] at q
 exact q
end
end Sw
namespace Sw
open PySem PySem.Spec PyProof.Rows L2
def orX (a:Option Bool) (b:Option (Xn ⊕ Bool)):Option (Xn ⊕ Bool):=a.bind fun c=>if c=true then some (.inr true) else b
def ifX {α β γ:Type} (rc:Option (Xn ⊕ Bool)) (mA mB:Option (Out γ β)) (k:γ->Option (Out α β)):Option (Out α β):=rc.bind fun r=>match r with
 | .inl z=>some (.exc z)
 | .inr c=>(if c=true then mA else mB).bind (sqO k)
def Hc {γ δ:Type} (xs:Option (List δ)) (step:γ->δ->Option (Xn ⊕ γ)) (b:γ):Option (Xn ⊕ γ):=xs.bind fun ds=>wJ step ds b
variable [NmC]
section
variable {X:Cx} {W:WX} {Δ Δx:List Md} {st stx:Ds} {a b e c:Expr} {pos p:Pos} {m mb:VM} {rx:Option (Xn ⊕ D)} {rb:Option D} {rt:Option Bool} {rs:Option (Xn ⊕ Bool)} {rest:List Expr}
theorem JL {op:CmpOp} {r2:R2} {f:D->D->Option Bool} (ho:OpR X (compareOp op) r2) (hf:Op2 X r2 m mb (.rg .fz) (blD f)) (ha:PE X a (rdX X.K W Δ st m rx)) (hb:PX X Δ st b mb rb) (hm:behindInMarks op b=false):
  PT X (.Compare a [op] [b] pos) (yb X.K W Δ st (bX rx fun x=>b2 f (some x) rb)):=by
 have h:=JI (pos:=pos) ho hf ha hb hm
 have e:(bX rx fun x=>b2 f (some x) rb)=(rx.bind fun x=>match x with
   | .inl z=>some (.inl z)
   | .inr x=>(rb.bind fun y=>f x y).map .inr):=by
  cases rx with
  |none=>rfl
  |some r=>cases r <;> rfl
 rw[e];exact h
theorem MK (h:PTx X Δ st e rt) (hb:PW X (.BoolOp .Or (b::rest) pos) (yb X.K W Δ st rs)):PW X (.BoolOp .Or (e::b::rest) pos) (yb X.K W Δ st (orX rt rs)):=MH h hb
theorem qO {k k':Nat} {x:Str} {pn:List Str} {ps:List PM} {rm vm:VM} {Fs:List D->Option FR} (C:Cal X.prog X.w X.K X.mg X.base k x pn ps rm Fs) (hr:Room k' X.A) (h:PE X e (rdX X.K W Δ st vm rx)) (hg:Gl X x:=by rfl) (hk:k<=k':=by decide) (ok:hO ps [vm]=true:=by rfl)
  (hdb:(x==("__debug__" :Str))=false:=by decide) (he:starEach [e] X.env=(false,eval e X.env)::starEach [] X.env:=by rfl) (hpl:(backTo pos (starEach [] X.env)).any (·.1)=false:=by rfl):
  PE X (.Call (.Name x p) [e] [] pos) (rdX X.K W Δ st rm (bX rx fun d=>bp Fs (aj (some d) aU))):=by
 have h:=Cu (p:=p) C hr h hg hk ok hdb he hpl
 have e:(bX rx fun d=>bp Fs (aj (some d) aU))=(rx.bind fun y=>match y with
   | .inl z=>some (.inl z)
   | .inr d=>(bp Fs (aj (some d) aU)).map .inr):=by
  cases rx with
  |none=>rfl
  |some r=>cases r <;> rfl
 rw[e];exact h
variable {α β γ δ:Type} {E:Exits α β} {A Bs:List Stmt} {body rst:List Stmt} {tg it:Expr}
theorem ML {rc:Option (Xn ⊕ Bool)} {mA mB:Option (Out γ β)} (Dj:List Md) (ej:γ->Ds) {k:γ->Option (Out α β)} (hc:PT X c (yb X.K (exW E) Δ st rc)) (hA:Blk X (E.join Dj ej) Δ st A mA) (hB:Blk X (E.join Dj ej) Δ st Bs mB)
  (h: ∀a,Blk X E Dj (ej a) rst (k a)):Blk X E Δ st (.If c A Bs pos::rst) (ifX rc mA mB k):=MI Dj ej hc hA hB h
theorem JM {rg:Rg} {IR:Sa->Hp->δ->V->Prop} {rI:Option (List δ)} {g:TG} {uM:List Md->List Md} {uS:δ->Ds->Ds} (Dl:List Md) (el:γ->Ds) {b0:γ} {step:γ->δ->Option (Xn ⊕ γ)}
  (hi:PIx X Δ st tg it rg IR rI) (him:lH IR) (hr:rg≠ .hb) (hg:PG X tg g) {is:List Nat} (ht:wg X.K g rg IR uM uS Dl.length is) (w:Wk Δ st Dl (el b0)) (hb: ∀b d,PSs X body (Cs X.K W (uM Dl) (uS d (el b)) Δx stx Dl el (step b d)))
  (hc:X.calm=true) (hp:PassesOwn (model X.prog X.w) X.A X.env X.xe) (hs: ∀x,foldedSetIterable it X.env x=pure x:=by intro _;rfl):
  PSs X [.For tg it body [] pos] (Cs X.K W Δ st Δx stx Dl el (Hc rI step b0)):=JG Dl el hi him hr hg ht w hb hc hp hs
end
end Sw
namespace Sw
open PySem PySem.Spec PyProof.Rows L2
section
variable {α β γ δ:Type}
@[simp] theorem aS (f:α->Option β) (a:α):b1 f (some a)=f a:=rfl
@[simp] theorem ak (f:α->β->Option γ) (a:α) (b:β):b2 f (some a) (some b)=f a b:=rfl
@[simp] theorem MM (a:D) (r:List D):aj (some a) (some r)=some (a::r):=rfl
@[simp] theorem Pq:aU=some []:=rfl
@[simp] theorem MO (Fs:List D->Option FR) (ds:List D):bp Fs (some ds)=(Fs ds).bind FR.val:=rfl
@[simp] theorem MP (Fs:List D->Option FR) (ds:List D):Oj Fs (some ds)=(Fs ds).bind FR.L8:=rfl
@[simp] theorem MQ (Fs:List D->Option FR) (ds:List D):call2 Fs (some ds)=(Fs ds).bind FR.L9:=rfl
@[simp] theorem Ox (d:D):FR.val (.ok d [])=some d:=rfl
@[simp] theorem NM (d e:D):FR.L8 (.ok d [e])=some (d,e):=rfl
@[simp] theorem NO (d e f:D):FR.L9 (.ok d [e,f])=some (d,e,f):=rfl
@[simp] theorem NP (d:D) (os:List D):(cu (some d) os:Option (Out α β))=some (.ret d os):=rfl
@[simp] theorem Oy (c:Bool) (A B:Option (Out γ β)) (k:γ->Option (Out α β)):ifO (some c) A B k=(if c=true then A else B).bind (sqO k):=rfl
@[simp] theorem NQ (ds:List δ) (step:γ->δ->Option (Out γ γ)) (b0:γ) (k:γ->Option (Out α β)):tA (some ds) step b0 k=(forL step ds b0).bind (sqF k):=rfl
@[simp] theorem pC (a:Bool) (b:Option Bool):orB (some a) b=if a=true then some true else b:=rfl
@[simp] theorem iB (a:Bool) (b:Option Bool):lL (some a) b=if a=true then b else some false:=rfl
@[simp] theorem tG (a:Bool):o8 (some a)=some (!a):=rfl
@[simp] theorem Oz (a:Bool):blO (some a)=some (.bl a):=rfl
@[simp] theorem NR (a:Bool):Ma (some (.bl a))=some (.bl (!a)):=rfl
@[simp] theorem NS (a:Bool) (b:Option D):Mb (some (.bl a)) b=if a=true then b else some (.bl false):=rfl
@[simp] theorem OA (a:Bool) (b:Option D):orE (some (.bl a)) b=if a=true then some (.bl true) else b:=rfl
@[simp] theorem OB (a:Bool) (x y:Option D):ifE (some a) x y=if a=true then x else y:=rfl
@[simp] theorem NU (ds:List D):tupO (some ds)=some (.tup ds):=rfl
@[simp] theorem NV (ds:List D):qL (some ds)=if ds.length<=sizeLine then some (.lst ds) else none:=rfl
@[simp] theorem OC (ds:List δ) (rt:δ->Option Bool) (re:δ->Option D):lcO (some ds) rt re=yA rt re ds:=rfl
@[simp] theorem NW (f:D->Option Int->Option Int->Option D) (a:D) (l h:Option Int):px f (some a) (some l) (some h)=f a l h:=rfl
@[simp] theorem NX (ds:List D):wC (some (.lst ds))=some ds:=rfl
@[simp] theorem NY (ds:List D):Qj (some (.lst ds))=D.prs ds:=rfl
@[simp] theorem NZ (d:D) (q:List Stp) (x:D) (f:D->D->Option (D×D)):Cf d (some q) (some x) f=do1 d q fun d'=>f d' x:=rfl
@[simp] theorem N0 (d:D) (q:List Stp) (xs:List D) (f:List D->List D->Option (D×List D)):Qk d (some q) (some xs) f=do1 d q (I6 f xs):=rfl
@[simp] theorem N3 (d:D) (q:List Stp) (f:List D->List D->Option (D×List D)):Ql d (some q) f=do1 d q (I6 f []):=rfl
@[simp] theorem Pr (d:D) (f:D->Option (D×D)):do1 d [] f=f d:=by
 unfold do1
 have:fj d []=some d:=by cases d <;> rfl
 rw[this]
 show (f d).bind _=f d
 cases f d with
 |none=>rfl
 |some r=>show some (r.1,cG d [] r.2)=some r;cases d <;> rfl
@[simp] theorem Qq (k:γ->Option (Out α β)) (a:γ):sqO k (.nx a)=k a:=rfl
@[simp] theorem Qr (k:γ->Option (Out α β)) (a:β):sqO k (.bk a)=some (.bk a):=rfl
@[simp] theorem Qs (k:γ->Option (Out α β)) (a:β):sqO k (.ct a)=some (.ct a):=rfl
@[simp] theorem Pu (k:γ->Option (Out α β)) (d:D) (os:List D):sqO k (.ret d os)=some (.ret d os):=rfl
@[simp] theorem Pw (k:γ->Option (Out α β)) (a:γ):sqF k (.fin a)=k a:=rfl
@[simp] theorem Px (k:γ->Option (Out α β)) (d:D) (os:List D):sqF k (.ret d os)=some (.ret d os):=rfl
@[simp] theorem Qt (d:D) (os:List D):FO (some (.ret d os))=some (.ok d os):=rfl
@[simp] theorem OD (d:D) (os:List D):outF (.ret d os)=some (.ok d os):=rfl
@[simp] theorem Py (f:D->Option α) (x:D):un1 f [x]=f x:=rfl
@[simp] theorem Pz (f:D->D->Option α) (x y:D):un2 f [x,y]=f x y:=rfl
@[simp] theorem Rl (f:Option FR):fn0 f []=f:=rfl
@[simp] theorem Rm (f:D->Option FR) (a:D):fn1 f [a]=f a:=rfl
@[simp] theorem Rn (f:D->D->Option FR) (a b:D):fn2 f [a,b]=f a b:=rfl
@[simp] theorem Ro (f:D->D->D->Option FR) (a b c:D):fn3 f [a,b,c]=f a b c:=rfl
@[simp] theorem Rp (f:D->D->D->D->Option FR) (a b c d:D):fn4 f [a,b,c,d]=f a b c d:=rfl
@[simp] theorem Rq (f:D->D->D->D->D->Option FR) (a b c d e:D):fn5 f [a,b,c,d,e]=f a b c d e:=rfl
@[simp] theorem Rr (f:D->D->D->D->D->D->Option FR) (a b c d e g:D):fn6 f [a,b,c,d,e,g]=f a b c d e g:=rfl
@[simp] theorem Qu (a b:Int):D.bP (.int a) (.int b)=some (.int (a+b)):=rfl
@[simp] theorem Qv (a b:Int):D.rP (.int a) (.int b)=some (.int (a -b)):=rfl
theorem MR {a b:Int} (h:wj a b=true):D.ju (.int a) (.int b)=some (.int (a*b)):=by
 show (if wj a b=true then some (a*b) else none).map D.int=_
 rw[if_pos h];rfl
theorem D6 {a b:Int} (h1: -(2^64)<a) (h2:a<2^64):wj a b=true:=by
 unfold wj;exact @decide_eq_true _ (Classical.propDecidable _) (.inl ⟨h1,h2⟩)
theorem qP {a b:Int} (h1: -(2^64)<a) (h2:a<2^64):D.ju (.int a) (.int b)=some (.int (a*b)):=MR (D6 h1 h2)
@[simp] theorem Qw (a:Int):D.rR (.int a)=some (.int (-a)):=rfl
@[simp] theorem QY (a b:Int):D.ltI (.int a) (.int b)=some (decide (a<b)):=rfl
@[simp] theorem QZ (a b:Int):D.leI (.int a) (.int b)=some (decide (a<=b)):=rfl
@[simp] theorem Q0 (a b:Int):D.gtI (.int a) (.int b)=some (decide (b<a)):=rfl
@[simp] theorem Q1 (a b:Int):D.geI (.int a) (.int b)=some (decide (b<=a)):=rfl
@[simp] theorem K8 (a b:Int):D.eqA (.int a) (.int b)=some (decide (a=b)):=by
 unfold D.eqA D.toV;simp[scal]
@[simp] theorem K9 (a b:Int):D.neA (.int a) (.int b)=some (!decide (a=b)):=by
 unfold D.neA D.toV;simp[scal]
@[simp] theorem La (a b:Str):D.eqA (.str a) (.str b)=some (decide (a=b)):=by
 unfold D.eqA D.toV;simp[scal]
@[simp] theorem Lb (a b:Str):D.neA (.str a) (.str b)=some (!decide (a=b)):=by
 unfold D.neA D.toV;simp[scal]
@[simp] theorem OE (a b:Bool):D.eqA (.bl a) (.bl b)=some (decide (a=b)):=by
 unfold D.eqA D.toV;simp[scal]
@[simp] theorem OF (a b:Bool):D.neA (.bl a) (.bl b)=some (!decide (a=b)):=by
 unfold D.neA D.toV;simp[scal]
@[simp] theorem Qx (f:D->D->Option Bool) (x y:D):blD f x y=(f x y).map D.bl:=rfl
@[simp] theorem Ru (a:Bool):D.tb (.bl a)=some a:=rfl
@[simp] theorem Q2 (a:Int):D.toI (.int a)=some (some a):=rfl
@[simp] theorem Rv (x:Str):D.et (.str x)=some (.str x):=rfl
@[simp] theorem Rw (x:Int):D.et (.int x)=some (.int x):=rfl
@[simp] theorem Rx (x:Bool):D.et (.bl x)=some (.bl x):=rfl
theorem OG {d:D} (h:d.ev=true):D.et d=some d:=by unfold D.et;rw[if_pos h]
@[simp] theorem Q3 (a b:Str):D.et (.tup [.str a,.str b])=some (.tup [.str a,.str b]):=rfl
@[simp] theorem OH (x:Str):D.key (.str x)=some (.inr x):=rfl
@[simp] theorem Q4 (x:Int):D.key (.int x)=some (.inl x):=rfl
@[simp] theorem Q5 (x:Str):D.toV (.str x)=some (.str x):=rfl
@[simp] theorem Q6 (x:Int):D.toV (.int x)=some (.int x):=rfl
@[simp] theorem Q7 (a b:Str):D.ltS (.str a) (.str b)=some (decide (a.cps.toList<b.cps.toList)):=rfl
@[simp] theorem Q8 (a b:Str):D.leS (.str a) (.str b)=some (!decide (b.cps.toList<a.cps.toList)):=rfl
@[simp] theorem Q9 (a b:Str):D.gtS (.str a) (.str b)=some (decide (b.cps.toList<a.cps.toList)):=rfl
@[simp] theorem Ra (a b:Str):D.geS (.str a) (.str b)=some (!decide (a.cps.toList<b.cps.toList)):=rfl
theorem atI_nat {α:Type} {xs:List α} {i:Int} (h0:0<=i) (h1:i<xs.length):atI xs i=xs[i.toNat]? :=by
 unfold L2.atI L2.ixN;rw[if_pos h0,if_pos h1];rfl
theorem p7 {ds:List D} {i:Int} (h0:0<=i) (h1:i<ds.length):D.atL (.lst ds) (.int i)=ds[i.toNat]? :=atI_nat h0 h1
@[simp] theorem Qy (ds:List D):D.mq (.lst ds)=some (.int ds.length):=rfl
@[simp] theorem Qz (ks:List (Key×D)):D.IW (.dct ks)=some (.int ks.length):=rfl
@[simp] theorem QA (ns:List Int):D.AL (.sc ns)=some (.int ns.length):=rfl
@[simp] theorem Rb (ds:List D):D.toL (.lst ds)=some (.lst ds):=rfl
@[simp] theorem Rc (ds:List D):D.toL (.tup ds)=some (.lst ds):=rfl
theorem zx:16777000<=sizeLine:=by decide+kernel
@[simp] theorem Lc (lo:Int) (n:Nat):(ya lo n).length=n:=by unfold ya;simp
theorem JN (ds:List D):D.evs ds=ds.all D.ev:=by
 induction ds with
 |nil=>rfl
 |cons d ds ih=>rw[List.all_cons,←ih];rfl
theorem D7 {α:Type} {f:α->D} (h: ∀x,(f x).ev=true) (xs:List α):D.evs (xs.map f)=true:=by
 rw[JN,List.all_eq_true]
 intro d hd
 obtain⟨x,_,rfl⟩:=List.mem_map.mp hd
 exact h x
end
end Sw
namespace Sw
open PySem PySem.Spec PyProof.Rows L2
section
variable {κ α β:Type} [DecidableEq κ]
theorem fE (k j:κ) (x:α): ∀ks:List (κ×α),aG (bW ks k x) j=if j=k then some x else aG ks j
 | []=>by
  unfold bW
  rw[bH]
  by_cases e:k=j
  ·simp[e]
  ·rw[if_neg e,if_neg (fun q=>e q.symm)]
 |p::r=>by
  unfold bW
  by_cases e:p.1=k
  ·rw[if_pos e,bH,bH]
   by_cases h:k=j
   ·subst h;simp[e]
   ·rw[if_neg h,if_neg (fun q=>h q.symm),if_neg (fun q=>h (e.symm.trans q))]
  ·rw[if_neg e,bH,bH,fE k j x r]
   by_cases h:p.1=j
   ·rw[if_pos h,if_neg (fun q=>e (h.trans q)),if_pos h]
   ·rw[if_neg h,if_neg h]
theorem l4 {k:κ} {ks:List (κ×α)}:(aG ks k).isSome=true↔k∈ks.map (·.1):=by
 cases e:aG ks k with
 |none=>simp[s9.mp e]
 |some v=>simp;exact⟨v,mH e⟩
theorem l5 {k:κ} {x:α} {ks:List (κ×α)} (hn:(ks.map (·.1)).Nodup) (h:(k,x)∈ks):aG ks k=some x:=by
 induction ks with
 |nil=>cases h
 |cons p r ih=>
  rw[List.map_cons,List.nodup_cons] at hn
  rw[bH]
  rcases List.mem_cons.mp h with e|h
  ·subst e;simp
  ·have:p.1≠k:=fun e=>hn.1 (e▸List.mem_map.mpr ⟨_,h,rfl⟩)
   rw[if_neg this,ih hn.2 h]
theorem eV {k:κ} {x:α} {ks:List (κ×α)} (h:k∈ks.map (·.1)):(bW ks k x).map (·.1)=ks.map (·.1):=by
 rw[pW,if_pos (l4.mpr h)]
theorem yc {k:κ} {x:α} {ks:List (κ×α)} (h:k∉ks.map (·.1)):(bW ks k x).map (·.1)=ks.map (·.1)++[k]:=by
 rw[pW,if_neg (fun q=>h (l4.mp q))]
end
section
variable {α:Type}
def eD (e:α->D) (r:List (Str×α)):D:=.dct (r.map fun p=>(Sum.inr p.1,e p.2))
theorem D8 (e:α->D) (x:Str): ∀r:List (Str×α),aG (r.map fun p=>((Sum.inr p.1:Key),e p.2)) (Sum.inr x)=(aG r x).map e
 | []=>rfl
 |p::r=>by
  rw[List.map_cons,bH,bH,D8 e x r]
  by_cases h:p.1=x
  ·simp[h]
  ·rw[if_neg h,if_neg (fun q=>h (Sum.inr.inj q))]
@[simp] theorem PB (e:α->D) (r:List (Str×α)) (x:Str):D.look (eD e r) (.str x)=some ((aG r x).map e):=by
 unfold eD D.look
 simp only[OH,Option.map_some,D8]
@[simp] theorem QB (e:α->D) (r:List (Str×α)) (x:Str):D.inK (.str x) (eD e r)=some (aG r x).isSome:=by
 unfold D.inK;simp
@[simp] theorem PD (e:α->D) (r:List (Str×α)) (x:Str):D.IV (.str x) (eD e r)=some (!(aG r x).isSome):=by
 unfold D.IV;simp
@[simp] theorem PF (e:α->D) (r:List (Str×α)) (x:Str):D.IU (eD e r) (.str x)=(aG r x).map e:=by
 unfold D.IU;simp
@[simp] theorem PH (e:α->D) (r:List (Str×α)):D.IW (eD e r)=some (.int r.length):=by
 unfold eD;simp
end
theorem mQ {α:Type} {xs ys:List α} (h:xs.Nodup) (hs: ∀x∈xs,x∈ys):xs.length<=ys.length:=h.length_le_of_subset hs
end Sw
namespace Sw
open PySem PySem.Spec PyProof.Rows L2
@[simp] theorem QC (ns:List Int) (lo hi:Option Int):D.LW (.sc ns) lo hi=some (.lst ((Sw.dJ ns lo hi).map D.int)):=rfl
theorem Hf (n:Nat):ya 0 n=(List.range n).map fun i:Nat=>D.int i:=by
 unfold ya
 exact List.map_congr_left fun i _=>by rw[Int.zero_add]
def sg (n:Nat):Str:=⟨#[n]⟩
theorem JO {a b:Str} (h:a.cps.toList=b.cps.toList):a=b:=PySem.W.str_of_cps h
theorem yJ: ∀ys:List Str,(Str.join "" ys).cps.toList=(ys.map fun y=>y.cps.toList).flatten
 | []=>rfl
 | [x]=>by simp[Str.join]
 |x::y::r=>by
  have ih:=yJ (y::r)
  unfold Str.join
  show ((x.cps++(Str.ofString "").cps)++(Str.join "" (y::r)).cps).toList=_
  rw[Array.toList_append,Array.toList_append,ih]
  show (x.cps.toList++[])++_=_
  rw[List.append_nil];rfl
theorem Hg (cs:List Nat):Txt.join "" (cs.map sg)=⟨cs.toArray⟩:=by
 have h:Txt.join "" (cs.map sg)=Str.join "" (cs.map sg):=PySem.StrLaws.glued_eq_join _ _
 rw[h]
 refine JO ?_
 rw[yJ,List.map_map]
 show ((cs.map fun c=>[c]).flatten)=cs
 clear h
 induction cs with
 |nil=>rfl
 |cons c cs ih=>rw[List.map_cons,List.flatten_cons,ih];rfl
theorem strs_map: ∀xs:List Str,D.strs (xs.map D.str)=some xs
 | []=>rfl
 |x::xs=>by rw[List.map_cons];unfold D.strs;rw[strs_map xs];rfl
def vB:Str:="abcdefghijklmnopqrstuvwxyz"
theorem A7:vB.cps.toList=(List.range 26).map fun i=>97+i:=by decide+kernel
end Sw
namespace Sw
open PySem PySem.Spec PyProof.Rows L2
abbrev Web:=List (Str×List (Str×Int))
def lk (w:Web) (x y:Str):Option Int:=(aG w x).bind fun r=>aG r y
structure oN (ns:List Str) (w:Web):Prop where
 keys:w.map (·.1)=ns
 rows: ∀x r,aG w x=some r->(r.map (·.1)).Nodup
 sym: ∀x y v,lk w x y=some v->lk w y x=some v
 irr: ∀x,lk w x x=none
 rng: ∀x y v,lk w x y=some v->1<=v/\v<=1000000000000
def Hh (w:Web) (x y:Str) (v:Int):Web:=
 let w1:=bW w x (bW ((aG w x).getD []) y v)
 bW w1 y (bW ((aG w1 y).getD []) x v)
section
variable {ns:List Str} {w:Web} {x y:Str} {v:Int}
theorem oN.has (h:oN ns w):(aG w x).isSome=true↔x∈ns:=by rw[l4,h.keys]
theorem oN.get (h:oN ns w) (hx:x∈ns): ∃r,aG w x=some r:=Option.isSome_iff_exists.mp (h.has.mpr hx)
theorem oN.len (h:oN ns w):w.length=ns.length:=by rw[<-h.keys];simp
theorem JP (w:Web) (x:Str) (r:List (Str×Int)) (a b:Str):lk (bW w x r) a b=if a=x then aG r b else lk w a b:=by
 unfold lk
 rw[fE]
 by_cases e:a=x
 ·rw[if_pos e,if_pos e];rfl
 ·rw[if_neg e,if_neg e]
theorem wK (hxy:x≠y) (a b:Str):lk (Hh w x y v) a b=if (a=x/\b=y)\/(a=y/\b=x) then some v else lk w a b:=by
 unfold Hh
 simp only[JP,fE]
 by_cases ha:a=y
 ·subst ha
  rw[if_pos rfl,if_neg (show ¬a=x from fun e=>hxy e.symm)]
  by_cases hb:b=x
  ·rw[if_pos hb,if_pos (.inr ⟨rfl,hb⟩)]
  ·rw[if_neg hb,if_neg (by rintro (⟨e,_⟩|⟨_,e⟩);exact hxy e.symm;exact hb e)]
   unfold lk
   cases aG w a <;> rfl
 ·rw[if_neg ha]
  by_cases hx:a=x
  ·subst hx
   rw[if_pos rfl]
   by_cases hb:b=y
   ·rw[if_pos hb,if_pos (.inl ⟨rfl,hb⟩)]
   ·rw[if_neg hb,if_neg (by rintro (⟨_,e⟩|⟨e,_⟩);exact hb e;exact ha e)]
    unfold lk
    cases aG w a <;> rfl
  ·rw[if_neg hx,if_neg (by rintro (⟨e,_⟩|⟨e,_⟩);exact hx e;exact ha e)]
theorem Hi {r s:List (Str×Int)} (hk:w.map (·.1)=ns) (hx:x∈ns) (hy:y∈ns):(bW (bW w x r) y s).map (·.1)=ns:=by
 rw[eV,eV,hk]
 ·rw[hk];exact hx
 ·rw[eV (by rw[hk];exact hx),hk];exact hy
theorem Hj {r s:List (Str×Int)} (h:oN ns w) (hr:(r.map (·.1)).Nodup) (hs:(s.map (·.1)).Nodup): ∀a t,aG (bW (bW w x r) y s) a=some t->(t.map (·.1)).Nodup:=fun a t e=>by
 rw[fE,fE] at e
 split at e
 ·cases e;exact hs
 ·split at e
  ·cases e;exact hr
  ·exact h.rows a t e
theorem oN.wL (h:oN ns w) (x:Str):(((aG w x).getD []).map (·.1)).Nodup:=by
 cases e:aG w x with
 |none=>exact List.nodup_nil
 |some r=>exact h.rows x r e
theorem oN.join (h:oN ns w) (hx:x∈ns) (hy:y∈ns) (hxy:x≠y) (hv:1<=v/\v<=1000000000000):oN ns (Hh w x y v) where
 keys:=Hi h.keys hx hy
 rows:=by
  refine Hj h (g9 (h.wL x)) (g9 ?_)
  rw[fE,if_neg (fun e=>hxy e.symm)]
  exact h.wL y
 sym:=fun a b u e=>by
  rw[wK hxy] at e⊢
  split at e
  ·rename_i q
   rw[if_pos (q.symm.imp And.symm And.symm)];exact e
  ·rename_i q
   rw[if_neg (fun z=>q (z.symm.imp And.symm And.symm))];exact h.sym _ _ _ e
 irr:=fun a=>by
  rw[wK hxy,if_neg (by rintro (⟨e,f⟩|⟨e,f⟩);exact hxy (e.symm.trans f);exact hxy (f.symm.trans e))]
  exact h.irr a
 rng:=fun a b u e=>by
  rw[wK hxy] at e
  split at e
  ·cases e;exact hv
  ·exact h.rng _ _ _ e
end
end Sw
namespace Sw
open PySem PySem.Spec PyProof.Rows L2
def cD (a b:Str):Prop:=a.cps.toList<b.cps.toList
instance (a b:Str):Decidable (cD a b):=inferInstanceAs (Decidable (a.cps.toList<b.cps.toList))
theorem dA (a:Str): ¬cD a a:=List.lt_irrefl _
theorem mR {a b c:Str} (h:cD a b) (g:cD b c):cD a c:=List.lt_trans h g
theorem tH {a b:Str} (h:cD a b): ¬cD b a:=fun g=>dA a (mR h g)
theorem nB (a b:Str):cD a b\/a=b\/cD b a:=by
 by_cases h:cD a b
 ·exact .inl h
 ·by_cases g:cD b a
  ·exact .inr (.inr g)
  ·exact .inr (.inl (PySem.W.str_of_cps (List.le_antisymm (List.not_lt.mp g) (List.not_lt.mp h))))
theorem JQ {a b:Str}:sLe a b=true↔ ¬cD b a:=by
 unfold sLe cD
 rw[decide_eq_true_eq,List.not_lt]
def pLt (p q:Str×Str):Prop:=cD p.1 q.1\/(p.1=q.1/\cD p.2 q.2)
instance (p q:Str×Str):Decidable (pLt p q):=inferInstanceAs (Decidable (_\/_))
theorem Hk:PyProof.Rows.lexLt PyProof.Rows.itemOrd (PySem.W.keyToksAll []) (PySem.W.keyToksAll [])=false:=by
 unfold PySem.W.keyToksAll;rfl
theorem nF (p:Str×Str): ¬pLt p p:=by
 rintro (h|⟨_,h⟩)
 ·exact dA _ h
 ·exact dA _ h
theorem p8 {p q r:Str×Str} (h:pLt p q) (g:pLt q r):pLt p r:=by
 rcases h with h|⟨e,h⟩
 ·rcases g with g|⟨e,g⟩
  ·exact .inl (mR h g)
  ·exact .inl (e▸h)
 ·rcases g with g|⟨e',g⟩
  ·exact .inl (e▸g)
  ·exact .inr ⟨e.trans e',mR h g⟩
theorem zy (p q:Str×Str):pLt p q\/p=q\/pLt q p:=by
 rcases nB p.1 q.1 with h|h|h
 ·exact .inl (.inl h)
 ·rcases nB p.2 q.2 with g|g|g
  ·exact .inl (.inr ⟨h,g⟩)
  ·exact .inr (.inl (Prod.ext h g))
  ·exact .inr (.inr (.inr ⟨h.symm,g⟩))
 ·exact .inr (.inr (.inl h))
def pLe (p q:Str×Str):Bool:= !decide (pLt q p)
theorem Ff (a b c:Str×Str) (h:pLe a b=true) (g:pLe b c=true):pLe a c=true:=by
 unfold pLe at*
 simp only[Bool.not_eq_true',decide_eq_false_iff_not] at*
 intro k
 rcases zy a b with e|e|e
 ·exact g (p8 k e)
 ·subst e;exact g k
 ·exact h e
theorem Fg (a b:Str×Str):(pLe a b||pLe b a)=true:=by
 unfold pLe
 rcases zy a b with e|e|e
 ·simp[show ¬pLt b a from fun g=>nF _ (p8 e g)]
 ·subst e;simp[nF]
 ·simp[show ¬pLt a b from fun g=>nF _ (p8 e g)]
def Fh (ps:List (Str×Str)):List (Str×Str):=ps.mergeSort pLe
theorem tI (ps:List (Str×Str)):(Fh ps).Perm ps:=List.mergeSort_perm _ _
theorem A8 (ps:List (Str×Str)):(Fh ps).Pairwise (fun a b=>pLe a b=true):=List.pairwise_mergeSort Ff Fg ps
def bA (ps:List (Str×Str)):List Str:=ps.flatMap fun p=>[p.1,p.2]
end Sw
namespace Sw
open PySem PySem.Spec PyProof.Rows L2
theorem Hm {α:Type} (f:α->D) (xs:List α):D.pds (xs.map f)=xs.map fun x=>(f x).pd:=by rw[D.IQ,List.map_map];rfl
theorem qQ {α:Type} {f:α->PyData} (h: ∀x y,PyData.eqv (f x) (f y)=true↔x=y): ∀xs ys:List α,PyData.eqvAll (xs.map f) (ys.map f)=true↔xs=ys
 | [],[]=>by simp[PyData.eqvAll]
 | [],y::ys=>by simp[PyData.eqvAll]
 |x::xs,[]=>by simp[PyData.eqvAll]
 |x::xs,y::ys=>by
  simp only[List.map_cons,PyData.eqvAll,Bool.and_eq_true,h,qQ h xs ys,List.cons.injEq]
theorem ux {ds:List PyData} {n:Nat} (h: ∀d∈ds,d.depth<=n):PyData.depthAll ds<=n:=by
 induction ds with
 |nil=>exact Nat.zero_le _
 |cons d ds ih=>
  show max d.depth (PyData.depthAll ds)<=n
  exact Nat.max_le.mpr ⟨h d List.mem_cons_self,ih fun e he=>h e (List.mem_cons_of_mem _ he)⟩
theorem Hn {ds:List PyData} (h: ∀d∈ds,d.canLay0=true):PyData.canLayAll0 ds=true:=by
 induction ds with
 |nil=>rfl
 |cons d ds ih=>
  show (d.canLay0&&PyData.canLayAll0 ds)=true
  rw[h d List.mem_cons_self,ih fun e he=>h e (List.mem_cons_of_mem _ he)];rfl
def Low (x:Str):Prop:= ∀c∈x.cps.toList,97<=c/\c<123
theorem Low.ok {x:Str} (h:Low x):PySem.PyData.strOk x=true:=by
 unfold PySem.PyData.strOk
 rw[Array.all_eq_true']
 intro c hc
 have:=h c (Array.mem_toList_iff.mpr hc)
 rw[decide_eq_true_eq];omega
end Sw
namespace Sw
open PySem PySem.Spec PyProof.Rows L2
class En (A:Type) where
 en:A->D
abbrev en {A:Type} [En A] (a:A):D:=En.en a
structure Sd (A:Type) where
 l:List (Str×A)
structure Td (K A:Type) where
 l:List (K×A)
structure Scr where
 l:List Int
structure Tl (A:Type) where
 l:List A
deriving DecidableEq
structure T3 (A B C:Type) where
 a:A
 b:B
 c:C
deriving DecidableEq
structure T4 (A B C E:Type) where
 a:A
 b:B
 c:C
 d:E
deriving DecidableEq
structure T5 (A B C E F:Type) where
 a:A
 b:B
 c:C
 d:E
 e:F
deriving DecidableEq
class KT (K:Type) where
 kt:K->List Key
section
variable {A B C E F K:Type}
instance:En Int:=⟨.int⟩
instance:En Str:=⟨.str⟩
instance:En Bool:=⟨.bl⟩
instance:En Unit:=⟨fun _=>.non⟩
instance [En A]:En (List A):=⟨fun xs=>.lst (xs.map en)⟩
instance [En A]:En (Option A):=⟨fun o=>match o with|none=>.non|some a=>en a⟩
instance [En A] [En B]:En (A×B):=⟨fun p=>.tup [en p.1,en p.2]⟩
instance [En A] [En B] [En C]:En (T3 A B C):=⟨fun p=>.tup [en p.a,en p.b,en p.c]⟩
instance [En A] [En B] [En C] [En E]:En (T4 A B C E):=⟨fun p=>.tup [en p.a,en p.b,en p.c,en p.d]⟩
instance [En A] [En B] [En C] [En E] [En F]:En (T5 A B C E F):=⟨fun p=>.tup [en p.a,en p.b,en p.c,en p.d,en p.e]⟩
instance [En A]:En (Tl A):=⟨fun xs=>.tup (xs.l.map en)⟩
def sdK [En A] (d:List (Str×A)):List (Key×D):=d.map fun p=>((Sum.inr p.1:Key),en p.2)
instance [En A]:En (Sd A):=⟨fun d=>.dct (sdK d.l)⟩
def tdK [KT K] [En A] (d:List (K×A)):List (List Key×D):=d.map fun p=>(KT.kt p.1,en p.2)
instance [KT K] [En A]:En (Td K A):=⟨fun d=>.dcT (tdK d.l)⟩
instance:En Scr:=⟨fun s=>.sc s.l⟩
instance:KT (Str×Str):=⟨fun p=>[.inr p.1,.inr p.2]⟩
instance:KT (Tl Str):=⟨fun p=>p.l.map Sum.inr⟩
instance:KT (Int×Int):=⟨fun p=>[.inl p.1,.inl p.2]⟩
class Ev (A:Type) [En A]:Prop where
 ev: ∀a:A,(en a).ev=true
instance:Ev Int:=⟨fun _=>rfl⟩
instance:Ev Str:=⟨fun _=>rfl⟩
instance:Ev Bool:=⟨fun _=>rfl⟩
instance:Ev Unit:=⟨fun _=>rfl⟩
instance [En A] [En B] [Ev A] [Ev B]:Ev (A×B):=⟨fun p=>by
 show (D.ev (en p.1)&&(D.ev (en p.2)&&true))=true
 rw[Ev.ev,Ev.ev];rfl⟩
instance [En A] [En B] [En C] [Ev A] [Ev B] [Ev C]:Ev (T3 A B C):=⟨fun p=>by
 show (D.ev (en p.a)&&(D.ev (en p.b)&&(D.ev (en p.c)&&true)))=true
 rw[Ev.ev,Ev.ev,Ev.ev];rfl⟩
instance [En A] [En B] [En C] [En E] [Ev A] [Ev B] [Ev C] [Ev E]:Ev (T4 A B C E):=⟨fun p=>by
 show (D.ev (en p.a)&&(D.ev (en p.b)&&(D.ev (en p.c)&&(D.ev (en p.d)&&true))))=true
 rw[Ev.ev,Ev.ev,Ev.ev,Ev.ev];rfl⟩
instance [En A] [En B] [En C] [En E] [En F] [Ev A] [Ev B] [Ev C] [Ev E] [Ev F]:Ev (T5 A B C E F):=⟨fun p=>by
 show (D.ev (en p.a)&&(D.ev (en p.b)&&(D.ev (en p.c)&&(D.ev (en p.d)&&(D.ev (en p.e)&&true)))))=true
 rw[Ev.ev,Ev.ev,Ev.ev,Ev.ev,Ev.ev];rfl⟩
instance [En A] [Ev A]:Ev (Tl A):=⟨fun p=>D7 (fun x=>Ev.ev x) p.l⟩
instance [En A] [Ev A]:Ev (Option A):=⟨fun p=>by cases p with
 |none=>rfl
 |some a=>exact Ev.ev a⟩
theorem MS [En A] [Ev A] (xs:List A):D.evs (xs.map en)=true:=D7 (fun x=>Ev.ev x) xs
end
class ES (A S:Type) where
 es:A->S
abbrev es {A S:Type} [ES A S] (a:A):S:=ES.es a
inductive TO (α β ρ:Type) where
 |nx (a:α)|bk (b:β)|ct (b:β)|ret (r:ρ)|exc (x:Xn)
inductive uX (β ρ:Type) where
 |fin (b:β)|ret (r:ρ)|exc (x:Xn)
class ER (ρ:Type) where
 er:ρ->D×List D
structure R0 (A:Type) where
 v:A
structure R1 (A B:Type) where
 v:A
 o:B
structure R2' (A B C:Type) where
 v:A
 o:B
 p:C
structure R3 (A B C E:Type) where
 v:A
 o:B
 p:C
 q:E
section
variable {A B C E S T α β ρ:Type}
instance [En A]:ER (R0 A):=⟨fun r=>(en r.v,[])⟩
instance [En A] [En B]:ER (R1 A B):=⟨fun r=>(en r.v,[en r.o])⟩
instance [En A] [En B] [En C]:ER (R2' A B C):=⟨fun r=>(en r.v,[en r.o,en r.p])⟩
instance [En A] [En B] [En C] [En E]:ER (R3 A B C E):=⟨fun r=>(en r.v,[en r.o,en r.p,en r.q])⟩
instance [En A]:ES A D:=⟨en⟩
instance:ES Bool Bool:=⟨id⟩
instance:ES Int Int:=⟨id⟩
instance:ES Unit Unit:=⟨id⟩
instance:ES PEmpty PEmpty:=⟨id⟩
instance [ES A S] [ES B T]:ES (A×B) (S×T):=⟨fun p=>(es p.1,es p.2)⟩
instance [ES A S]:ES (List A) (List S):=⟨List.map es⟩
instance [ES A S]:ES (Option A) (Option S):=⟨Option.map es⟩
instance [ES α S] [ES β T] [ER ρ]:ES (TO α β ρ) (Out S T):=⟨fun o=>match o with
 | .nx a=>.nx (es a)| .bk b=>.bk (es b)| .ct b=>.ct (es b)| .ret r=>.ret (ER.er r).1 (ER.er r).2| .exc x=>.exc x⟩
instance [ES β T] [ER ρ]:ES (uX β ρ) (Res T):=⟨fun o=>match o with
 | .fin a=>.fin (es a)| .ret r=>.ret (ER.er r).1 (ER.er r).2| .exc x=>.exc x⟩
end
def TyS {A S:Type} [ES A S] (m:Option S) (t:Option A):Prop:= ∀a,t=some a->m=some (es a)
section
variable {A B C E F S T U A' B' α β γ δ ρ α' β' γ' δ':Type}
theorem aa [ES A S] {m:S} {a:A} (h:m=es a):TyS (some m) (some a):=fun b e=>by cases e;rw[h]
theorem au [En A] (a:A):TyS (some (en a)) (some a):=aa rfl
theorem av [ES A S] [ES B T] {m:Option S} {k:S->Option T} {t:Option A} {l:A->Option B} (h:TyS m t) (g: ∀a,TyS (k (es a)) (l a)):TyS (m.bind k) (t.bind l):=fun b e=>by
 obtain⟨a,e1,e2⟩:=bind1 e
 rw[h a e1];exact g a b e2
def wM [ES A S] [ES B T] (f:S->Option T) (g:A->Option B):Prop:= ∀a b,g a=some b->f (es a)=some (es b)
def fK [ES A S] [ES B T] [ES C U] (f:S->T->Option U) (g:A->B->Option C):Prop:= ∀a b c,g a b=some c->f (es a) (es b)=some (es c)
theorem iC [ES A S] [ES B T] {f:S->Option T} {g:A->Option B} (h:wM f g) {m:Option S} {t:Option A} (q:TyS m t):TyS (b1 f m) (b1 g t):=av q fun a b e=>h a b e
theorem aq [ES A S] [ES B T] [ES C U] {f:S->T->Option U} {g:A->B->Option C} (h:fK f g) {m:Option S} {t:Option A} {m':Option T} {t':Option B} (q:TyS m t) (q':TyS m' t'):TyS (b2 f m m') (b2 g t t'):=
 av q fun a=>av q' fun b c e=>h a b c e
theorem uy [En A] [Ev A] {m:Option D} {t:Option A} (q:TyS m t):TyS (b1 D.et m) t:=fun a e=>by
 unfold b1;rw[q a e];exact OG (Ev.ev a)
theorem mv [En A] [En B] {f:D->D->Option Bool} {g:A->B->Option Bool} (h:fK f g):fK (blD f) g:=fun a b c e=>by
 unfold blD;rw[h a b c e];rfl
theorem wN {m:Option D} {t:Option Bool} (q:TyS m t):TyS (b1 D.tb m) t:=fun a e=>by
 unfold b1;rw[q a e];rfl
theorem vC {m:Option Bool} {t:Option Bool} (q:TyS m t):TyS (o8 m) (o8 t):=av q fun a=>aa rfl
theorem vD {m n:Option Bool} {t u:Option Bool} (q:TyS m t) (r:TyS n u):TyS (lL m n) (lL t u):=av q fun a=>by
 cases a
 ·exact aa rfl
 ·exact r
theorem pD {m n:Option Bool} {t u:Option Bool} (q:TyS m t) (r:TyS n u):TyS (orB m n) (orB t u):=av q fun a=>by
 cases a
 ·exact r
 ·exact aa rfl
theorem JR {m:Option D} {t:Option Bool} (q:TyS m t):TyS (Ma m) (o8 t):=av (wN q) fun a=>aa rfl
theorem JS {m n:Option D} {t u:Option Bool} (q:TyS m t) (r:TyS n u):TyS (Mb m n) (lL t u):=av (wN q) fun a=>by
 cases a
 ·exact aa rfl
 ·exact r
theorem Ho {m n:Option D} {t u:Option Bool} (q:TyS m t) (r:TyS n u):TyS (orE m n) (orB t u):=av (wN q) fun a=>by
 cases a
 ·exact r
 ·exact aa rfl
def QD (c:Option Bool) (x y:Option A):Option A:=c.bind fun c=>if c=true then x else y
def A9 (k:γ->Option (TO α β ρ)):TO γ β ρ->Option (TO α β ρ)
 | .nx a=>k a
 | .bk b=>some (.bk b)
 | .ct b=>some (.ct b)
 | .ret r=>some (.ret r)
 | .exc x=>some (.exc x)
def c9 (c:Option Bool) (x y:Option (TO γ β ρ)) (k:γ->Option (TO α β ρ)):Option (TO α β ρ):=c.bind fun c=>(if c=true then x else y).bind (A9 k)
theorem zz [ES α A] [ES β B] [ES γ C] [ER ρ] {k:C->Option (Out A B)} {l:γ->Option (TO α β ρ)} (h: ∀a,TyS (k (es a)) (l a)) (o:TO γ β ρ):TyS (sqO k (es o)) (A9 l o):=by
 cases o with
 |nx a=>exact h a
 |bk a=>exact aa rfl
 |ct a=>exact aa rfl
 |ret a=>exact aa rfl
 |exc a=>exact aa rfl
theorem bq [ES α A] [ES β B] [ES γ C] [ER ρ] {c c':Option Bool} {x y:Option (Out C B)} {x' y':Option (TO γ β ρ)} {k:C->Option (Out A B)} {l:γ->Option (TO α β ρ)}
  (q:TyS c c') (hx:TyS x x') (hy:TyS y y') (h: ∀a,TyS (k (es a)) (l a)):TyS (ifO c x y k) (c9 c' x' y' l):=av q fun a=>by
 cases a
 ·exact av hy fun o=>zz h o
 ·exact av hx fun o=>zz h o
def cY (step:β->δ->Option (TO β β ρ)):List δ->β->Option (uX β ρ)
 | [],b=>some (.fin b)
 |x::xs,b=>(step b x).bind fun
  | .nx b'=>cY step xs b'
  | .ct b'=>cY step xs b'
  | .bk b'=>some (.fin b')
  | .ret r=>some (.ret r)
  | .exc x=>some (.exc x)
def Cv (k:γ->Option (TO α β ρ)):uX γ ρ->Option (TO α β ρ)
 | .fin b=>k b
 | .ret r=>some (.ret r)
 | .exc x=>some (.exc x)
def oO (ds:Option (List δ)) (step:γ->δ->Option (TO γ γ ρ)) (b0:γ) (k:γ->Option (TO α β ρ)):Option (TO α β ρ):=ds.bind fun ds=>(cY step ds b0).bind (Cv k)
theorem zA [ES β B] [ES δ E] [ER ρ] {st:B->E->Option (Out B B)} {st':β->δ->Option (TO β β ρ)} (h: ∀b x,TyS (st (es b) (es x)) (st' b x)): ∀(xs:List δ) (b:β),TyS (forL st (es xs) (es b)) (cY st' xs b)
 | [],b=>aa rfl
 |x::xs,b=>by
  show TyS ((st (es b) (es x)).bind _) ((st' b x).bind _)
  refine av (h b x) fun o=> ?_
  cases o with
  |nx a=>exact zA h xs a
  |ct a=>exact zA h xs a
  |bk a=>exact aa rfl
  |ret a=>exact aa rfl
  |exc a=>exact aa rfl
theorem Hq [ES α A] [ES β B] [ES γ C] [ER ρ] {k:C->Option (Out A B)} {l:γ->Option (TO α β ρ)} (h: ∀a,TyS (k (es a)) (l a)) (o:uX γ ρ):TyS (sqF k (es o)) (Cv l o):=by
 cases o with
 |fin a=>exact h a
 |ret a=>exact aa rfl
 |exc a=>exact aa rfl
theorem jG [ES α A] [ES β B] [ES γ C] [ES δ E] [ER ρ] {m:Option (List E)} {t:Option (List δ)} {st:C->E->Option (Out C C)} {st':γ->δ->Option (TO γ γ ρ)} {b:C} {b':γ} {k:C->Option (Out A B)} {l:γ->Option (TO α β ρ)}
  (q:TyS m t) (hs: ∀b x,TyS (st (es b) (es x)) (st' b x)) (hb:b=es b') (h: ∀a,TyS (k (es a)) (l a)):TyS (tA m st b k) (oO t st' b' l):=av q fun xs=>by
 subst hb
 exact av (zA hs xs b') fun o=>Hq h o
def JT (k:γ->Option (TO α β ρ)):uX γ ρ->Option (TO α β ρ)
 | .fin b=>k b
 | .ret r=>some (.ret r)
 | .exc _=>none
def OI (ds:Option (List δ)) (step:γ->δ->Option (TO γ γ ρ)) (b0:γ) (k:γ->Option (TO α β ρ)):Option (TO α β ρ):=ds.bind fun ds=>(cY step ds b0).bind (JT k)
theorem aZ [ES α A] [ES β B] [ER ρ] {s:A} {a:α} (h:s=es a):TyS (some (Out.nx s:Out A B)) (some (TO.nx a:TO α β ρ)):=aa (by rw[h];rfl)
theorem zB [ES α A] [ES β B] [ER ρ] {d:D} {os:List D} {r:ρ} (h:(d,os)=ER.er r):TyS (some (Out.ret d os:Out A B)) (some (TO.ret r:TO α β ρ)):=aa (by
 show Out.ret d os=Out.ret (ER.er r).1 (ER.er r).2
 rw[<-h])
def b8 (t:Option A) (f:A->ρ):Option (TO α β ρ):=t.bind fun a=>some (.ret (f a))
theorem aJ [En A'] [ES α A] [ES β B] [ER ρ] {m:Option D} {t:Option A'} {os:List D} {f:A'->ρ} (q:TyS m t) (h: ∀a,(en a,os)=ER.er (f a)):TyS (cu m os:Option (Out A B)) (b8 t f:Option (TO α β ρ)):=av q fun a=>zB (h a)
def tF0 (t:Option (TO PEmpty PEmpty (R0 A))):Option A:=t.bind fun o=>match o with| .ret r=>some r.v|_=>none
def tF1 (t:Option (TO PEmpty PEmpty (R1 A B))):Option (A×B):=t.bind fun o=>match o with| .ret r=>some (r.v,r.o)|_=>none
def tF2 (t:Option (TO PEmpty PEmpty (R2' A B C))):Option (A×B×C):=t.bind fun o=>match o with| .ret r=>some (r.v,r.o,r.p)|_=>none
def tF3 (t:Option (TO PEmpty PEmpty (R3 A B C E))):Option (A×B×C×E):=t.bind fun o=>match o with| .ret r=>some (r.v,r.o,r.p,r.q)|_=>none
def Fo0 [En A] (m:Option FR) (t:Option A):Prop:= ∀r,t=some r->m=some (.ok (en r) [])
theorem fo0 [En A] {m:Option (Out PEmpty PEmpty)} {t:Option (TO PEmpty PEmpty (R0 A))} (h:TyS m t):Fo0 (FO m) (tF0 t):=fun r e=>by
 obtain⟨o,e1,e2⟩:=bind1 e
 cases o <;> cases e2
 unfold FO;rw[h _ e1];rfl
def b3 (f:A->B->C->Option E) (a:Option A) (b:Option B) (c:Option C):Option E:=a.bind fun a=>b.bind fun b=>c.bind fun c=>f a b c
def b4 {A B C E F:Type} (f:A->B->C->E->Option F) (a:Option A) (b:Option B) (c:Option C) (d:Option E):Option F:=a.bind fun a=>b.bind fun b=>c.bind fun c=>d.bind fun d=>f a b c d
def b5 {A B C E F G:Type} (f:A->B->C->E->F->Option G) (a:Option A) (b:Option B) (c:Option C) (d:Option E) (e:Option F):Option G:=a.bind fun a=>b.bind fun b=>c.bind fun c=>d.bind fun d=>e.bind fun e=>f a b c d e
def b6 {A B C E F G H:Type} (f:A->B->C->E->F->G->Option H) (a:Option A) (b:Option B) (c:Option C) (d:Option E) (e:Option F) (g:Option G):Option H:=a.bind fun a=>b.bind fun b=>c.bind fun c=>d.bind fun d=>e.bind fun e=>g.bind fun g=>f a b c d e g
@[simp] theorem nH (f:A->B->C->Option E) (a b c):b3 f (some a) (some b) (some c)=f a b c:=rfl
@[simp] theorem JU {A B C E F:Type} (f:A->B->C->E->Option F) (a b c d):b4 f (some a) (some b) (some c) (some d)=f a b c d:=rfl
@[simp] theorem PL {A B C E F G:Type} (f:A->B->C->E->F->Option G) (a b c d e):b5 f (some a) (some b) (some c) (some d) (some e)=f a b c d e:=rfl
@[simp] theorem PN {A B C E F G H:Type} (f:A->B->C->E->F->G->Option H) (a b c d e g):b6 f (some a) (some b) (some c) (some d) (some e) (some g)=f a b c d e g:=rfl
end
section
variable {A B C E S ρ A1 A2 A3 A4 A5 A6:Type} [En A] [En B] [En C] [En E] [En A1] [En A2] [En A3] [En A4] [En A5] [En A6]
theorem zC {Fs:List D->Option FR} {ds:List D} {t:Option A} {r:A} (h:Fo0 (Fs ds) t) (e:t=some r):bp Fs (some ds)=some (es r):=by
 unfold bp;rw[Option.bind_some,h r e];rfl
theorem dF {Fs:List D->Option FR} {g:A1->Option (A)} (h: ∀(x1:A1),Fo0 (Fs [en x1]) (g x1)) {m1:Option D} {t1:Option A1} (q1:TyS m1 t1):TyS (bp Fs (aj m1 aU)) (b1 g t1):=fun r e=>by
 obtain⟨x1,e1,e⟩:=bind1 e
 rw[q1 _ e1]
 exact zC (h x1) e
theorem gX {Fs:List D->Option FR} {g:A1->A2->Option (A)} (h: ∀(x1:A1) (x2:A2),Fo0 (Fs [en x1,en x2]) (g x1 x2)) {m1:Option D} {t1:Option A1} {m2:Option D} {t2:Option A2} (q1:TyS m1 t1) (q2:TyS m2 t2):TyS (bp Fs (aj m1 (aj m2 aU))) (b2 g t1 t2):=fun r e=>by
 obtain⟨x1,e1,e⟩:=bind1 e
 obtain⟨x2,e2,e⟩:=bind1 e
 rw[q1 _ e1,q2 _ e2]
 exact zC (h x1 x2) e
theorem p9 {Fs:List D->Option FR} {g:A1->A2->A3->Option (A)} (h: ∀(x1:A1) (x2:A2) (x3:A3),Fo0 (Fs [en x1,en x2,en x3]) (g x1 x2 x3)) {m1:Option D} {t1:Option A1} {m2:Option D} {t2:Option A2} {m3:Option D} {t3:Option A3} (q1:TyS m1 t1) (q2:TyS m2 t2) (q3:TyS m3 t3):TyS (bp Fs (aj m1 (aj m2 (aj m3 aU)))) (b3 g t1 t2 t3):=fun r e=>by
 obtain⟨x1,e1,e⟩:=bind1 e
 obtain⟨x2,e2,e⟩:=bind1 e
 obtain⟨x3,e3,e⟩:=bind1 e
 rw[q1 _ e1,q2 _ e2,q3 _ e3]
 exact zC (h x1 x2 x3) e
theorem JV {Fs:List D->Option FR} {g:A1->A2->A3->A4->Option (A)} (h: ∀(x1:A1) (x2:A2) (x3:A3) (x4:A4),Fo0 (Fs [en x1,en x2,en x3,en x4]) (g x1 x2 x3 x4)) {m1:Option D} {t1:Option A1} {m2:Option D} {t2:Option A2} {m3:Option D} {t3:Option A3} {m4:Option D} {t4:Option A4} (q1:TyS m1 t1) (q2:TyS m2 t2) (q3:TyS m3 t3) (q4:TyS m4 t4):TyS (bp Fs (aj m1 (aj m2 (aj m3 (aj m4 aU))))) (b4 g t1 t2 t3 t4):=fun r e=>by
 obtain⟨x1,e1,e⟩:=bind1 e
 obtain⟨x2,e2,e⟩:=bind1 e
 obtain⟨x3,e3,e⟩:=bind1 e
 obtain⟨x4,e4,e⟩:=bind1 e
 rw[q1 _ e1,q2 _ e2,q3 _ e3,q4 _ e4]
 exact zC (h x1 x2 x3 x4) e
end
end Sw
namespace Sw
open PySem PySem.Spec PyProof.Rows L2
section
variable {A B C E F K R S:Type}
namespace T
def bP (a b:Int):Option Int:=some (a+b)
def rP (a b:Int):Option Int:=some (a -b)
noncomputable def ju (a b:Int):Option Int:=if wj a b=true then some (a*b) else none
noncomputable def hJ (a b:Int):Option Int:=cif (0<b/\b<1073741824) (a/b)
noncomputable def bT (a b:Int):Option Int:=cif (0<b) (a%b)
def rR (a:Int):Option Int:=some (-a)
def ltI (a b:Int):Option Bool:=some (decide (a<b))
def leI (a b:Int):Option Bool:=some (decide (a<=b))
def gtI (a b:Int):Option Bool:=some (decide (b<a))
def geI (a b:Int):Option Bool:=some (decide (b<=a))
def eqA [DecidableEq A] (a b:A):Option Bool:=some (decide (a=b))
def neA [DecidableEq A] (a b:A):Option Bool:=some (!decide (a=b))
def ltS (a b:Str):Option Bool:=some (decide (cD a b))
def leS (a b:Str):Option Bool:=some (!decide (cD b a))
def gtS (a b:Str):Option Bool:=some (decide (cD b a))
def geS (a b:Str):Option Bool:=some (!decide (cD a b))
def iJ (a b:Str):Option Str:=if a.length+b.length<=sizeLine then some (a++b) else none
def min2 (a b:Int):Option Int:=some (if b<a then b else a)
def max2 (a b:Int):Option Int:=some (if b>a then b else a)
def K1 (a b:Str):Option Str:=some (if cD b a then b else a)
def K3 (a b:Str):Option Str:=some (if cD a b then b else a)
end T
theorem bZ:fK D.bP T.bP:=fun a b c e=>by cases e;rfl
theorem vE:fK D.rP T.rP:=fun a b c e=>by cases e;rfl
theorem Hr {f:Int->Int->Option Int}:fK (ii f) f:=fun a b c e=>by
 show (f a b).map D.int=_
 rw[e];rfl
theorem nJ:fK D.ju T.ju:=Hr
theorem gY:fK D.hJ T.hJ:=Hr
theorem bD:fK D.bT T.bT:=Hr
theorem D9:wM D.rR T.rR:=fun a c e=>by cases e;rfl
theorem Cw:fK D.ltI T.ltI:=fun a b c e=>by cases e;rfl
theorem qR:fK D.leI T.leI:=fun a b c e=>by cases e;rfl
theorem zD:fK D.gtI T.gtI:=fun a b c e=>by cases e;rfl
theorem Ht:fK D.leS T.leS:=fun a b c e=>by cases e;rfl
class At (A:Type) [En A] [DecidableEq A]:Prop where
 eqa: ∀a b:A,D.eqA (en a) (en b)=some (decide (a=b))
 nea: ∀a b:A,D.neA (en a) (en b)=some (!decide (a=b))
 toV: ∀a:A,∃v,D.toV (en a)=some v
 eqv: ∀(a b:A) (v w:V),D.toV (en a)=some v->D.toV (en b)=some w->eqV v w=decide (b=a)\/eqV v w=decide (a=b)
instance:At Int:=⟨K8,K9,fun a=>⟨_,rfl⟩,fun a b v w e f=>by cases e;cases f;right;simp[eqV];rw[Bool.eq_iff_iff];simp⟩
instance:At Str:=⟨La,Lb,fun a=>⟨_,rfl⟩,fun a b v w e f=>by cases e;cases f;right;simp[eqV];rw[Bool.eq_iff_iff];simp⟩
theorem bY [En A] [DecidableEq A] [At A]:fK D.eqA (T.eqA:A->A->Option Bool):=fun a b c e=>by cases e;exact At.eqa a b
theorem Cy [En A] [DecidableEq A] [At A]:fK D.neA (T.neA:A->A->Option Bool):=fun a b c e=>by cases e;exact At.nea a b
theorem MT:fK D.eqA (T.eqA:Bool->Bool->Option Bool):=fun a b c e=>by cases e;exact OE a b
theorem MU:fK D.neA (T.neA:Bool->Bool->Option Bool):=fun a b c e=>by cases e;exact OF a b
theorem iO:fK D.iJ T.iJ:=fun a b c e=>by
 obtain⟨h,rfl⟩:=aM e
 show (if a.length+b.length<=sizeLine then some (D.str (a++b)) else none)=_
 rw[if_pos h];rfl
theorem jQ [ES A D] [ES B S] {f:D->Option S} {g:A->Option B} (h:wM f g) {m:Option D} {t:Option A} (q:TyS m t):TyS (b1 (un1 f) (aj m aU)) (b1 g t):=fun b e=>by
 obtain⟨a,e1,e2⟩:=bind1 e
 unfold b1 aj
 rw[q a e1]
 exact h a b e2
def OJ [En A] [ES B S] (f:List D->Option S) (g:A->Option B):Prop:= ∀a c,g a=some c->f [en a]=some (es c)
theorem Ea [En A] [ES B S] {f:List D->Option S} {g:A->Option B} (h:OJ f g) {m:Option D} {t:Option A} (q:TyS m t):TyS (b1 f (aj m aU)) (b1 g t):=fun b e=>by
 obtain⟨a,e1,e2⟩:=bind1 e
 unfold b1 aj
 rw[q a e1]
 exact h a b e2
namespace T
def pair (a:A) (b:B):Option (A×B):=some (a,b)
def tri (a:A) (b:B) (c:C):Option (T3 A B C):=some ⟨a,b,c⟩
def qua (a:A) (b:B) (c:C) (d:E):Option (T4 A B C E):=some ⟨a,b,c,d⟩
def qui (a:A) (b:B) (c:C) (d:E) (e:F):Option (T5 A B C E F):=some ⟨a,b,c,d,e⟩
def cons (t:Option A) (u:Option (List A)):Option (List A):=t.bind fun a=>u.bind fun r=>some (a::r)
def lst (u:Option (List A)):Option (List A):=u.bind fun r=>if r.length<=sizeLine then some r else none
def atL (xs:List A) (i:Int):Option A:=atI xs i
def atC (xs:Scr) (i:Int):Option Int:=atI xs.l i
def sgs (x:Str):List Str:=x.cps.toList.map fun c=>⟨#[c]⟩
def atS (x:Str) (i:Int):Option Str:=if x.length<=sizeLine then atI (sgs x) i else none
def mq (xs:List A):Option Int:=some xs.length
def AL (xs:Scr):Option Int:=some xs.l.length
def o7 (x:Str):Option Int:=if x.length<=sizeLine then some x.length else none
def IW (d:Sd A):Option Int:=some d.l.length
def qj (xs ys:List A):Option (List A):=if xs.length+ys.length<=sizeLine then some (xs++ys) else none
def dJ (xs:List A) (lo hi:Option Int):Option (List A):=some (Sw.dJ xs lo hi)
def LW (xs:Scr) (lo hi:Option Int):Option (List Int):=some (Sw.dJ xs.l lo hi)
def cutS (x:Str) (lo hi:Option Int):Option Str:=if x.length<=sizeLine then some (L2.cutS x lo hi) else none
def toI (i:Int):Option (Option Int):=some (some i)
def rev (xs:List A):Option (List A):=some xs.reverse
def join (a:Str) (xs:List Str):Option Str:=if (xs.map (·.length)).sum+xs.length*a.length<=16777216 then some (Txt.join a xs) else none
def Ol (xs:List Int):Option Int:=some xs.sum
noncomputable def qk (n:Int):Option (List Int):=if okR n=true then some ((List.range n.toNat).map fun i:Nat=>(i:Int)) else none
def tv (x:Str):Option (List Str):=some (sgs x)
def inA [DecidableEq A] (neg:Bool) (a:A) (xs:List A):Option Bool:=some (if neg=true then !decide (a∈xs) else decide (a∈xs))
end T
theorem vF [En A] [En B] [En C] {m n o:Option D} {t:Option A} {u:Option B} {v:Option C} (q:TyS m t) (r:TyS n u) (s:TyS o v):TyS (tupO (aj m (aj n (aj o aU)))) (b3 T.tri t u v):=fun c e=>by
 obtain⟨a,e1,e⟩:=bind1 e
 obtain⟨b,e2,e⟩:=bind1 e
 obtain⟨d,e3,e⟩:=bind1 e
 unfold tupO aj
 rw[q a e1,r b e2,s d e3];cases e;rfl
theorem Eb [En A] [En B] [En C] [En E] {m n o p:Option D} {t:Option A} {u:Option B} {v:Option C} {w:Option E} (q:TyS m t) (r:TyS n u) (s:TyS o v) (z:TyS p w):TyS (tupO (aj m (aj n (aj o (aj p aU))))) (b4 T.qua t u v w):=fun c e=>by
 obtain⟨a,e1,e⟩:=bind1 e
 obtain⟨b,e2,e⟩:=bind1 e
 obtain⟨d,e3,e⟩:=bind1 e
 obtain⟨f,e4,e⟩:=bind1 e
 unfold tupO aj
 rw[q a e1,r b e2,s d e3,z f e4];cases e;rfl
theorem kO [En A]:TyS (S:=List D) aU (some ([]:List A)):=fun _ e=>by cases e;rfl
theorem aN [En A] {m:Option D} {t:Option A} {ms:Option (List D)} {u:Option (List A)} (q:TyS m t) (r:TyS ms u):TyS (aj m ms) (T.cons t u):=av q fun a=>av r fun b=>aa rfl
theorem kP [En A] {ms:Option (List D)} {u:Option (List A)} (r:TyS ms u):TyS (qL ms) (T.lst u):=av r fun xs b e=>by
 obtain⟨h,rfl⟩:=aM e
 show (if ((xs.map en).length)<=sizeLine then _ else _)=_
 rw[List.length_map,if_pos h];rfl
theorem nK [En A]:TyS (some (D.lst [])) (some ([]:List A)):=aa rfl
theorem Ba {α β:Type} (f:α->β) (xs:List α) (i:Int):atI (xs.map f) i=(atI xs i).map f:=by
 unfold L2.atI
 rw[List.length_map]
 cases ixN xs.length i with
 |none=>rfl
 |some j=>simp
theorem jw [En A]:fK D.atL (T.atL:List A->Int->Option A):=fun xs i a e=>by
 show atI (xs.map en) i=_
 rw[Ba,show atI xs i=some a from e];rfl
theorem MV:fK D.atC T.atC:=fun xs i a e=>by
 show (atI xs.l i).map D.int=_
 rw[show atI xs.l i=some a from e];rfl
theorem wO:fK D.atS T.atS:=fun x i a e=>by
 obtain⟨h,e⟩:=(show x.length<=sizeLine/\atI (T.sgs x) i=some a by
  unfold T.atS at e
  split at e
  ·exact⟨by assumption,e⟩
  ·cases e)
 show (if x.length<=sizeLine then (atI x.cps.toList i).map fun c=>D.str ⟨#[c]⟩ else none)=_
 rw[if_pos h]
 unfold T.sgs at e
 rw[Ba] at e
 cases q:atI x.cps.toList i with
 |none=>rw[q] at e;cases e
 |some c=>rw[q] at e;cases e;rfl
theorem k6 [En A] [En B] {m:Option D} {t:Option A} {i:Int} {f:A->B} (q:TyS m t) (h: ∀a,D.atT (en a) (.int i)=some (en (f a))):TyS (b2 D.atT m (some (.int i))) (t.map f):=fun b e=>by
 cases t with
 |none=>cases e
 |some a=>
  cases e
  unfold b2
  rw[q a rfl];exact h a
theorem sk [En A]:wM D.mq (T.mq:List A->Option Int):=fun xs c e=>by
 cases e
 show some (D.int (xs.map en).length)=_
 rw[List.length_map];rfl
theorem JW:wM D.AL T.AL:=fun xs c e=>by cases e;rfl
theorem qa:wM D.o7 T.o7:=fun x c e=>by
 obtain⟨h,rfl⟩:=aM e
 show (if x.length<=sizeLine then some (D.int x.length) else none)=_
 rw[if_pos h];rfl
theorem sm [En A]:fK D.qj (T.qj:List A->List A->Option (List A)):=fun xs ys c e=>by
 obtain⟨h,rfl⟩:=aM e
 show (if (xs.map en).length+(ys.map en).length<=sizeLine then some (D.lst (xs.map en++ys.map en)) else none)=_
 rw[List.length_map,List.length_map,if_pos h,←List.map_append];rfl
theorem Bb {α β:Type} (f:α->β) (xs:List α) (lo hi:Option Int):Sw.dJ (xs.map f) lo hi=(Sw.dJ xs lo hi).map f:=by
 unfold Sw.dJ
 rw[List.length_map,←List.map_drop,←List.map_take]
def o9 (f:A->Option Int->Option Int->Option B) (a:Option A) (l h:Option (Option Int)):Option B:=a.bind fun x=>l.bind fun l=>h.bind fun u=>f x l u
@[simp] theorem qb (f:A->Option Int->Option Int->Option B) (a:A) (l h:Option Int):o9 f (some a) (some l) (some h)=f a l h:=rfl
def TyC [En A] [En B] (f:D->Option Int->Option Int->Option D) (g:A->Option Int->Option Int->Option B):Prop:= ∀a l h b,g a l h=some b->f (en a) l h=some (en b)
theorem iP [En A] [En B] {f:D->Option Int->Option Int->Option D} {g:A->Option Int->Option Int->Option B} (h:TyC f g) {m:Option D} {t:Option A} {l l' u u':Option (Option Int)} (q:TyS m t) (r:TyS l l') (s:TyS u u'):TyS (px f m l u) (o9 g t l' u'):=
 av q fun a=>av r fun l=>av s fun u b e=>by
  have el:(es l:Option Int)=l:=by cases l <;> rfl
  have eu:(es u:Option Int)=u:=by cases u <;> rfl
  rw[el,eu]
  exact h a l u b e
theorem l6:TyS (some (none:Option Int)) (some (none:Option Int)):=aa rfl
theorem iQ:wM D.toI T.toI:=fun a b e=>by cases e;rfl
theorem QE [En A]:TyC D.dJ (T.dJ:List A->Option Int->Option Int->Option (List A)):=fun xs l h b e=>by
 cases e
 show some (D.lst (Sw.dJ (xs.map en) l h))=_
 rw[Bb];rfl
theorem yL [En A] [Ev A]:TyC D.uw (T.dJ:List A->Option Int->Option Int->Option (List A)):=fun xs l h b e=>by
 cases e
 show (if D.evs (xs.map en)=true then some (D.lst (Sw.dJ (xs.map en) l h)) else none)=_
 rw[if_pos (MS xs),Bb];rfl
theorem Cz:TyC D.cutS T.cutS:=fun x l h b e=>by
 obtain⟨g,rfl⟩:=aM e
 show (if x.length<=sizeLine then some (D.str (L2.cutS x l h)) else none)=_
 rw[if_pos g];rfl
theorem l7 [En A] {m:Option D} {t:Option (List A)} (q:TyS m t):TyS (wC m) t:=fun a e=>by
 unfold wC;rw[q a e];rfl
namespace T
def zip (xs:List A) (ys:List B):Option (List (A×B)):=some (xs.zip ys)
end T
theorem vG:OJ (S:=List D) D.qk T.qk:=fun n c e=>by
 obtain⟨h,rfl⟩:=aM e
 show (if okR n=true then some (ya 0 n.toNat) else none)=_
 rw[if_pos h,Hf]
 show _=some (List.map en _)
 rw[List.map_map];rfl
theorem vH:wM (T:=List D) D.tv T.tv:=fun x c e=>by
 cases e
 show some (x.cps.toList.map sgn)=some (List.map en (T.sgs x))
 unfold T.sgs
 rw[List.map_map];rfl
theorem JX (xs:List Str):D.strs (xs.map en)=some xs:=strs_map xs
theorem vI:fK D.join T.join:=fun a xs c e=>by
 obtain⟨h,rfl⟩:=aM e
 show ((D.strs (xs.map en)).bind _)=_
 rw[JX,Option.bind_some,if_pos h];rfl
theorem Hu [En A] [DecidableEq A] [At A] (a:A) (v:V) (hv:D.toV (en a)=some v): ∀xs:List A,∃vs,D.tm (xs.map en)=some vs/\inV v vs=decide (a∈xs)
 | []=>⟨[],rfl,rfl⟩
 |x::xs=>by
  obtain⟨vs,e1,e2⟩:=Hu a v hv xs
  obtain⟨w,hw⟩:=At.toV x
  refine⟨w::vs,?_,?_⟩
  ·rw[List.map_cons];unfold D.tm;rw[hw,e1];rfl
  ·show (eqV w v||inV v vs)=_
   have h:eqV w v=decide (x=a):=by
    rcases At.eqv x a w v hw hv with h|h
    ·rw[h];rw[Bool.eq_iff_iff];simp only[decide_eq_true_eq];exact eq_comm
    ·exact h
   rw[h,e2,Bool.eq_iff_iff]
   simp only[Bool.or_eq_true,decide_eq_true_eq,List.mem_cons]
   exact or_congr eq_comm Iff.rfl
theorem MW [En A] [DecidableEq A] [At A] (neg:Bool):fK (D.inA neg) (T.inA neg:A->List A->Option Bool):=fun a xs c e=>by
 cases e
 obtain⟨v,hv⟩:=At.toV a
 obtain⟨vs,e1,e2⟩:=Hu a v hv xs
 show (((D.toV (en a)).bind fun a=>(some (xs.map en)).bind fun ds=>(D.tm ds).map fun vs=>if neg=true then !inV a vs else inV a vs))=_
 rw[hv,Option.bind_some,Option.bind_some,e1,Option.map_some,e2];rfl
def wQ (rt:A->Option Bool) (re:A->Option B):List A->Option (List B)
 | []=>some []
 |d::ds=>(rt d).bind fun b=>if b=true then (re d).bind fun x=>(wQ rt re ds).bind fun xs=>some (x::xs) else wQ rt re ds
def tlc (xs:Option (List A)) (rt:A->Option Bool) (re:A->Option B):Option (List B):=xs.bind fun ds=>if ds.length<=sizeLine then wQ rt re ds else none
theorem wR [ES A S] [En B] {rt:S->Option Bool} {re:S->Option D} {rt':A->Option Bool} {re':A->Option B} (h: ∀a,TyS (rt (es a)) (rt' a)) (g: ∀a,TyS (re (es a)) (re' a)): ∀xs:List A,TyS (S:=List D) (rW rt re (xs.map es)) (wQ rt' re' xs)
 | []=>aa rfl
 |x::xs=>by
  show TyS ((rt (es x)).bind _) ((rt' x).bind _)
  refine av (h x) fun b=> ?_
  cases b with
  |false=>exact wR h g xs
  |true=>exact av (g x) fun y=>av (wR h g xs) fun ys=>aa rfl
theorem Bc [ES A S] [En B] {m:Option (List S)} {t:Option (List A)} {rt:S->Option Bool} {re:S->Option D} {rt':A->Option Bool} {re':A->Option B} (q:TyS m t) (h: ∀a,TyS (rt (es a)) (rt' a)) (g: ∀a,TyS (re (es a)) (re' a)):TyS (lcO m rt re) (tlc t rt' re'):=av q fun xs b e=>by
 split at e
 ·rename_i hl
  unfold yA
  rw[show (es xs:List S).length=xs.length from List.length_map ..]
  rw[if_pos hl]
  have:=wR h g xs b e
  rw[show (es xs:List S)=xs.map es from rfl,this];rfl
 ·cases e
namespace T
def IU (d:Sd A) (x:Str):Option A:=aG d.l x
def inK (x:Str) (d:Sd A):Option Bool:=some (aG d.l x).isSome
def IV (x:Str) (d:Sd A):Option Bool:=some (!(aG d.l x).isSome)
def K0 (d:Sd A):Option (List Str):=some (d.l.map (·.1))
def items (d:Sd A):Option (List (Str×A)):=some d.l
def vals (d:Sd A):Option (List A):=some (d.l.map (·.2))
end T
structure Lz (R A:Type) where
 get:R->Option A
 put:R->A->R
def plR:Lz R R:=⟨some,fun _ a=>a⟩
def Fj [En R] [En A] (s:Sh) (r:R) (q:Option (List Stp)) (p:Option (Lz R A)) (s':Sh):Prop:=
 ∀p0,p=some p0-> ∃q0,q=some q0/\shP s q0=some s'/\ ∃a,p0.get r=some a/\fj (en r) q0=some (en a)/\ ∀a',cG (en r) q0 (en a')=en (p0.put r a')
theorem so (d:D):fj d []=some d:=by cases d <;> rfl
theorem wU (d e:D):cG d [] e=e:=by cases d <;> rfl
theorem nL [En R] (s:Sh) (r:R):Fj s r (some []) (some plR) s:=fun p0 e=>by
 cases e
 exact⟨[],rfl,by cases s <;> rfl,r,rfl,so _,fun a'=>wU _ _⟩
theorem pE: ∀(q:List Stp) (d:D) (s:Stp),fj d (q++[s])=(fj d q).bind fun x=>fj x [s]
 | [],d,s=>by rw[so];rfl
 | .ix i::q,.lst ds,s=>by
  show (ds[i]?).bind _=((ds[i]?).bind _).bind _
  rw[Option.bind_assoc];congr 1;funext x;exact pE q x s
 | .ky i::q,.dct ds,s=>by
  show (aG ds i).bind _=((aG ds i).bind _).bind _
  rw[Option.bind_assoc];congr 1;funext x;exact pE q x s
 | .kt i::q,.dcT ds,s=>by
  show (aG ds i).bind _=((aG ds i).bind _).bind _
  rw[Option.bind_assoc];congr 1;funext x;exact pE q x s
 | .fd i::q,.ins C ds,s=>by
  show (ds.lookup i).bind _=((ds.lookup i).bind _).bind _
  rw[Option.bind_assoc];congr 1;funext x;exact pE q x s
 |t::q,.non,s=>by cases t <;> rfl
 |t::q,.bl _,s=>by cases t <;> rfl
 |t::q,.int _,s=>by cases t <;> rfl
 |t::q,.str _,s=>by cases t <;> rfl
 |t::q,.tup _,s=>by cases t <;> rfl
 |t::q,.fn _,s=>by cases t <;> rfl
 |t::q,.glf _,s=>by cases t <;> rfl
 |t::q,.clo _ _,s=>by cases t <;> rfl
 |t::q,.sc _,s=>by cases t <;> rfl
 | .ky _::q,.lst _,s=>rfl
 | .kt _::q,.lst _,s=>rfl
 | .fd _::q,.lst _,s=>rfl
 | .ix _::q,.dct _,s=>rfl
 | .kt _::q,.dct _,s=>rfl
 | .fd _::q,.dct _,s=>rfl
 | .ix _::q,.dcT _,s=>rfl
 | .ky _::q,.dcT _,s=>rfl
 | .fd _::q,.dcT _,s=>rfl
 | .ix _::q,.ins _ _,s=>rfl
 | .ky _::q,.ins _ _,s=>rfl
 | .kt _::q,.ins _ _,s=>rfl
theorem pF: ∀(q:List Stp) (d:D) (s:Stp) (e x:D),fj d q=some x->cG d (q++[s]) e=cG d q (cG x [s] e)
 | [],d,s,e,x,h=>by rw[so] at h;cases h;rw[wU];rfl
 | .ix i::q,.lst ds,s,e,x,h=>by
  obtain⟨y,h1,h2⟩:=bind1 (show (ds[i]?).bind (fun x=>fj x q)=some x from h)
  show (match ds[i]? with|some x=>D.lst (ds.set i (cG x (q++[s]) e))|none=>.lst ds)=(match ds[i]? with|some z=>D.lst (ds.set i (cG z q (cG x [s] e)))|none=>.lst ds)
  rw[h1];show D.lst _=D.lst _;rw[pF q y s e x h2]
 | .ky i::q,.dct ds,s,e,x,h=>by
  obtain⟨y,h1,h2⟩:=bind1 (show (aG ds i).bind (fun x=>fj x q)=some x from h)
  show (match aG ds i with|some x=>D.dct (bW ds i (cG x (q++[s]) e))|none=>.dct ds)=(match aG ds i with|some z=>D.dct (bW ds i (cG z q (cG x [s] e)))|none=>.dct ds)
  rw[h1];show D.dct _=D.dct _;rw[pF q y s e x h2]
 | .kt i::q,.dcT ds,s,e,x,h=>by
  obtain⟨y,h1,h2⟩:=bind1 (show (aG ds i).bind (fun x=>fj x q)=some x from h)
  show (match aG ds i with|some x=>D.dcT (bW ds i (cG x (q++[s]) e))|none=>.dcT ds)=(match aG ds i with|some z=>D.dcT (bW ds i (cG z q (cG x [s] e)))|none=>.dcT ds)
  rw[h1];show D.dcT _=D.dcT _;rw[pF q y s e x h2]
 | .fd i::q,.ins C ds,s,e,x,h=>by
  obtain⟨y,h1,h2⟩:=bind1 (show (ds.lookup i).bind (fun x=>fj x q)=some x from h)
  show (match ds.lookup i with|some x=>D.ins C (tj i (cG x (q++[s]) e) ds)|none=>.ins C ds)=(match ds.lookup i with|some z=>D.ins C (tj i (cG z q (cG x [s] e)) ds)|none=>.ins C ds)
  rw[h1];show D.ins _ _=D.ins _ _;rw[pF q y s e x h2]
 |t::q,.non,s,e,x,h=>by cases t <;> cases h
 |t::q,.bl _,s,e,x,h=>by cases t <;> cases h
 |t::q,.int _,s,e,x,h=>by cases t <;> cases h
 |t::q,.str _,s,e,x,h=>by cases t <;> cases h
 |t::q,.tup _,s,e,x,h=>by cases t <;> cases h
 |t::q,.fn _,s,e,x,h=>by cases t <;> cases h
 |t::q,.sc _,s,e,x,h=>by cases t <;> cases h
 | .ky _::q,.lst _,s,e,x,h=>by cases h
 | .kt _::q,.lst _,s,e,x,h=>by cases h
 | .fd _::q,.lst _,s,e,x,h=>by cases h
 | .ix _::q,.dct _,s,e,x,h=>by cases h
 | .kt _::q,.dct _,s,e,x,h=>by cases h
 | .fd _::q,.dct _,s,e,x,h=>by cases h
 | .ix _::q,.dcT _,s,e,x,h=>by cases h
 | .ky _::q,.dcT _,s,e,x,h=>by cases h
 | .fd _::q,.dcT _,s,e,x,h=>by cases h
 | .ix _::q,.ins _ _,s,e,x,h=>by cases h
 | .ky _::q,.ins _ _,s,e,x,h=>by cases h
 | .kt _::q,.ins _ _,s,e,x,h=>by cases h
theorem lN: ∀(q:List Stp) (s s':Sh) (t:Stp),shP s q=some s'->shP s (q++[t])=shP s' [t]
 | [],s,s',t,h=>by
  have:shP s []=some s:=by cases s <;> rfl
  rw[this] at h;cases h;rfl
 | .ix i::q,.ls s,s',t,h=>lN q s s' t h
 | .ky i::q,.dc s,s',t,h=>lN q s s' t h
 | .kt i::q,.dt s,s',t,h=>lN q s s' t h
 | .ky i::q,.dk _ _ s,s',t,h=>lN q s s' t h
 | .ix _::q,.dk _ _ _,s',t,h=>by cases h
 | .kt _::q,.dk _ _ _,s',t,h=>by cases h
 | .fd _::q,.dk _ _ _,s',t,h=>by cases h
 | .fd f::q,.is fs,s',t,h=>by
  obtain⟨y,h1,h2⟩:=bind1 (show (fs.lookup f).bind (fun s=>shP s q)=some s' from h)
  show (fs.lookup f).bind _=_
  rw[h1];exact lN q y s' t h2
 | .ix i::q,.hl ss,s',t,h=>by
  obtain⟨y,h1,h2⟩:=bind1 (show (ss[i]?).bind (fun s=>shP s q)=some s' from h)
  show (ss[i]?).bind _=_
  rw[h1];exact lN q y s' t h2
 | .ky _::q,.hl _,s',t,h=>by cases h
 | .kt _::q,.hl _,s',t,h=>by cases h
 | .fd _::q,.hl _,s',t,h=>by cases h
 |u::q,.fz,s',t,h=>by cases u <;> cases h
 |u::q,.lz,s',t,h=>by cases u <;> cases h
 | .ky _::q,.ls _,s',t,h=>by cases h
 | .kt _::q,.ls _,s',t,h=>by cases h
 | .fd _::q,.ls _,s',t,h=>by cases h
 | .ix _::q,.dc _,s',t,h=>by cases h
 | .kt _::q,.dc _,s',t,h=>by cases h
 | .fd _::q,.dc _,s',t,h=>by cases h
 | .ix _::q,.dt _,s',t,h=>by cases h
 | .ky _::q,.dt _,s',t,h=>by cases h
 | .fd _::q,.dt _,s',t,h=>by cases h
 | .ix _::q,.is _,s',t,h=>by cases h
 | .ky _::q,.is _,s',t,h=>by cases h
 | .kt _::q,.is _,s',t,h=>by cases h
namespace T
def at0 (r:R) (p:Option (Lz R A)) (f:A->Option (C×A)):Option (C×R):=p.bind fun p=>(p.get r).bind fun a=>(f a).bind fun c=>some (c.1,p.put r c.2)
def at1 (r:R) (p:Option (Lz R A)) (t:Option B) (f:A->B->Option (C×A)):Option (C×R):=p.bind fun p=>t.bind fun x=>(p.get r).bind fun a=>(f a x).bind fun c=>some (c.1,p.put r c.2)
def at2 (r:R) (p:Option (Lz R A)) (t:Option B) (u:Option E) (f:A->B->E->Option (C×A)):Option (C×R):=p.bind fun p=>t.bind fun x=>u.bind fun y=>(p.get r).bind fun a=>(f a x y).bind fun c=>some (c.1,p.put r c.2)
def Fl (r:R) (t:Option A) (p:Option (Lz R (List A))) (u:Option Int):Option R:=t.bind fun x=>p.bind fun p=>u.bind fun i=>(p.get r).bind fun d=>(ixN d.length i).bind fun j=>some (p.put r (d.set j x))
def app (xs:List A) (x:A):Option (Unit×List A):=if xs.length<sizeLine then some ((),xs++[x]) else none
noncomputable def ins (xs:List A) (i:Int) (x:A):Option (Unit×List A):=cif (xs.length<sizeLine/\0<=i/\i<2^63) ((),xs.take i.toNat++[x]++xs.drop i.toNat)
def clr (xs:List A):Option (Unit×List A):=some ((),[])
def rvs (xs:List A):Option (Unit×List A):=some ((),xs.reverse)
def QF (d:Sd A):Option (Unit×Sd A):=some ((),⟨[]⟩)
end T
theorem MX [En R] [En A] [En C] {s s':Sh} {r:R} {q:Option (List Stp)} {p:Option (Lz R A)} (h:Fj s r q p s') {p0:Lz R A} (e:p=some p0) {a:A} (ea:p0.get r=some a) {f:D->Option (D×D)} {c:C×A} (hf:f (en a)=some (en c.1,en c.2)): ∃q0,q=some q0/\do1 (en r) q0 f=some (es (c.1,p0.put r c.2)):=by
 obtain⟨q0,f1,f2,a',f3,f4,f5⟩:=h p0 e
 rw[ea] at f3;cases f3
 refine⟨q0,f1,?_⟩
 unfold do1
 rw[f4,Option.bind_some,hf]
 show some (en c.1,cG (en r) q0 (en c.2))=_
 rw[f5];rfl
theorem zE [En R] [En A] [En B] [En C] {s s':Sh} {r:R} {q:Option (List Stp)} {p:Option (Lz R A)} {m:Option D} {t:Option B} {f:D->D->Option (D×D)} {g:A->B->Option (C×A)} (hf: ∀a b c,g a b=some c->f (en a) (en b)=some (en c.1,en c.2)) (h:Fj s r q p s') (hm:TyS m t):TyS (Cf (en r) q m f) (T.at1 r p t g):=fun c e=>by
 obtain⟨p0,e1,e⟩:=bind1 e
 obtain⟨b,e4,e⟩:=bind1 e
 obtain⟨a,e2,e⟩:=bind1 e
 obtain⟨x,e3,e⟩:=bind1 e
 cases e
 obtain⟨q0,g1,g2⟩:=MX (f:=fun d=>f d (en b)) h e1 e2 (hf a b x e3)
 unfold Cf;rw[g1,hm b e4,Option.bind_some,Option.bind_some];exact g2
theorem wV [En A]: ∀(a:List A) (b:A) c,T.app a b=some c->D.app (en a) (en b)=some (en c.1,en c.2):=fun a b c e=>by
 obtain⟨h,rfl⟩:=aM e
 show (if (a.map en).length<sizeLine then some (D.non,D.lst (a.map en++[en b])) else none)=_
 rw[List.length_map,if_pos h]
 show some (D.non,D.lst _)=some (D.non,D.lst (List.map en (a++[b])))
 rw[List.map_append];rfl
theorem zF [En R] [En A] {s s':Sh} {r:R} {m:Option D} {t:Option A} {q:Option (List Stp)} {p:Option (Lz R (List A))} {n:Option D} {u:Option Int} (h:Fj s r q p s') (hm:TyS m t) (hn:TyS n u):TyS (wD (en r) m q n) (T.Fl r t p u):=fun c e=>by
 obtain⟨x,e1,e⟩:=bind1 e
 obtain⟨p0,e2,e⟩:=bind1 e
 obtain⟨k,e3,e⟩:=bind1 e
 obtain⟨d,e4,e⟩:=bind1 e
 obtain⟨j,e5,e⟩:=bind1 e
 cases e
 obtain⟨q0,f1,f2,a',f3,f4,f5⟩:=h p0 e2
 rw[e4] at f3;cases f3
 unfold wD
 rw[hm x e1,f1,hn k e3]
 show (fj (en r) q0).bind _=_
 rw[f4,Option.bind_some]
 have:D.GA (en d) (en k) (en x)=some (en (d.set j x)):=by
  show ((ixN (d.map en).length k).map fun j=>D.lst ((d.map en).set j (en x)))=_
  rw[List.length_map,e5]
  show some (D.lst ((d.map en).set j (en x)))=_
  rw[<-List.map_set];rfl
 show (D.GA (en d) (en k) (en x)).bind _=_
 rw[this]
 show some (cG (en r) q0 (en _))=_
 rw[f5];rfl
end
end Sw
namespace Sw
open PySem PySem.Spec PyProof.Rows L2
class So (A:Type) [En A] where
 dec:DecidableEq A
 lt:A->A->Bool
 dep:Nat
 ok:A->Bool
 dat: ∀a:A,(en a).dat=true
 depth: ∀a:A,(en a).pd.depth<=dep
 al: ∀a b:A,PySem.W.alike (en a).pd (en b).pd=true
 eqv: ∀a b:A,PyData.eqv (en a).pd (en b).pd=true↔a=b
 lt_ok: ∀a b:A,PySem.W.dataLt (en a).pd (en b).pd=lt a b
 lay: ∀a:A,ok a=true->(en a).pd.canLay0=true
 noN: ∀a:A,zq (en a).pd=false
class St1 (A:Type) [En A]:Prop where
 st:(∀a:A,(en a).Og=true)\/(∀a:A,(en a).noT=true)
section
variable {A B C E F:Type}
instance instSoInt:So Int where
 dec:=inferInstance
 lt a b:=decide (a<b)
 dep:=0
 ok _:=true
 dat _:=rfl
 depth _:=Nat.le_refl _
 al _ _:=rfl
 eqv a b:=by show (a==b)=true↔_;exact beq_iff_eq
 lt_ok a b:=PySem.W.dataLt_int a b
 lay _ _:=rfl
 noN _:=rfl
instance instSoStr:So Str where
 dec:=inferInstance
 lt a b:=decide (cD a b)
 dep:=0
 ok a:=PySem.PyData.strOk a
 dat _:=rfl
 depth _:=Nat.le_refl _
 al _ _:=rfl
 eqv a b:=by show (a==b)=true↔_;exact beq_iff_eq
 lt_ok a b:=PySem.W.dataLt_str a b
 lay a h:=h
 noN _:=rfl
instance instSoBool:So Bool where
 dec:=inferInstance
 lt a b:=PySem.W.dataLt (.bool a) (.bool b)
 dep:=0
 ok _:=true
 dat _:=rfl
 depth _:=Nat.le_refl _
 al _ _:=rfl
 eqv a b:=by show (a==b)=true↔_;exact beq_iff_eq
 lt_ok a b:=rfl
 lay _ _:=rfl
 noN _:=rfl
theorem MY [En A] [So A] {a b:A} (h:a=b):PyData.eqv (en a).pd (en b).pd=true:=(So.eqv a b).mpr h
theorem OK [En A] [So A] {a b:A} (h:a≠b):PyData.eqv (en a).pd (en b).pd=false:=by
 cases e:PyData.eqv (en a).pd (en b).pd with
 |false=>rfl
 |true=>exact absurd ((So.eqv a b).mp e) h
def hV (xs ys:List PyData):Bool:=PyProof.Rows.lexLt PyProof.Rows.itemOrd (PySem.W.keyToksAll xs) (PySem.W.keyToksAll ys)
theorem bI [En A] [So A] (a b:A) (xs ys:List PyData):hV ((en a).pd::xs) ((en b).pd::ys)= @ite _ (a=b) (So.dec a b) (hV xs ys) (So.lt a b):=by
 unfold hV
 by_cases h:a=b
 ·rw[PySem.W.dataLt_all_yes (So.al a b) (MY h),if_pos h]
 ·rw[PySem.W.dataLt_all_no (So.al a b) (OK h),if_neg h,So.lt_ok]
theorem nM:hV [] []=false:=Hk
theorem Fm (x:PyData) (xs:List PyData):hV [] (x::xs)=true:=by
 unfold hV
 show PyProof.Rows.lexLt PyProof.Rows.itemOrd (PySem.W.keyToksAll []) (PySem.W.keyToksAll (x::xs))=true
 rw[show PySem.W.keyToksAll []=[.inl 0] by unfold PySem.W.keyToksAll;rfl,show PySem.W.keyToksAll (x::xs)= .inl 1::(PySem.W.keyToks x++PySem.W.keyToksAll xs) by rw[PySem.W.keyToksAll]]
 exact (PyProof.Rows.lex_diff (O:=PyProof.Rows.itemOrd) (by simp)).trans rfl
theorem Hv (x:PyData) (xs:List PyData):hV (x::xs) []=false:=by
 unfold hV
 rw[show PySem.W.keyToksAll []=[.inl 0] by unfold PySem.W.keyToksAll;rfl,show PySem.W.keyToksAll (x::xs)= .inl 1::(PySem.W.keyToks x++PySem.W.keyToksAll xs) by rw[PySem.W.keyToksAll]]
 exact (PyProof.Rows.lex_diff (O:=PyProof.Rows.itemOrd) (by simp)).trans rfl
instance instSoPair [En A] [En B] [So A] [So B]:So (A×B) where
 dec:=@instDecidableEqProd A B So.dec So.dec
 lt p q:=@ite _ (p.1=q.1) (So.dec p.1 q.1) (@ite _ (p.2=q.2) (So.dec p.2 q.2) false (So.lt p.2 q.2)) (So.lt p.1 q.1)
 dep:=max (So.dep A) (So.dep B)+1
 ok p:=So.ok p.1&&So.ok p.2
 dat p:=by
  show ((en p.1).dat&&((en p.2).dat&&true))=true
  rw[So.dat,So.dat];rfl
 depth p:=by
  show max (en p.1).pd.depth (max (en p.2).pd.depth 0)+1<=_
  have:=So.depth p.1;have:=So.depth p.2;omega
 al p q:=by
  show (PySem.W.alike (en p.1).pd (en q.1).pd&&(PySem.W.alike (en p.2).pd (en q.2).pd&&true))=true
  rw[So.al,So.al];rfl
 eqv p q:=by
  show (PyData.eqv (en p.1).pd (en q.1).pd&&(PyData.eqv (en p.2).pd (en q.2).pd&&true))=true↔_
  rw[Bool.and_true,Bool.and_eq_true,So.eqv,So.eqv]
  exact⟨fun h=>Prod.ext h.1 h.2,fun h=>by rw[h];exact⟨rfl,rfl⟩⟩
 lt_ok p q:=by
  show PySem.W.dataLt (.tuple [(en p.1).pd,(en p.2).pd]) (.tuple [(en q.1).pd,(en q.2).pd])=_
  rw[PySem.W.dataLt_tuple]
  show hV _ _=_
  rw[bI,bI,nM]
 lay p h:=by
  rw[Bool.and_eq_true] at h
  show ((en p.1).pd.canLay0&&((en p.2).pd.canLay0&&true))=true
  rw[So.lay _ h.1,So.lay _ h.2];rfl
 noN _:=rfl
def oP [En A] [So A]:List A->List A->Bool
 | [],[]=>false
 | [],_::_=>true
 |_::_,[]=>false
 |a::xs,b::ys=>@ite _ (a=b) (So.dec a b) (oP xs ys) (So.lt a b)
theorem tJ [En A] [So A]: ∀xs ys:List A,hV (xs.map fun a=>(en a).pd) (ys.map fun a=>(en a).pd)=oP xs ys
 | [],[]=>nM
 | [],y::ys=>Fm _ _
 |x::xs,[]=>Hv _ _
 |x::xs,y::ys=>by
  rw[List.map_cons,List.map_cons,bI,tJ xs ys];rfl
theorem Hw [En A] [So A]: ∀xs ys:List A,PySem.W.alikeAll (xs.map fun a=>(en a).pd) (ys.map fun a=>(en a).pd)=true
 | [],ys=>by rw[List.map_nil];unfold PySem.W.alikeAll;cases ys <;> rfl
 |x::xs,[]=>rfl
 |x::xs,y::ys=>by
  rw[List.map_cons,List.map_cons,PySem.W.alikeAll,So.al,Hw xs ys];rfl
theorem gE [En A] (xs:List A):D.pds (xs.map en)=xs.map fun a=>(en a).pd:=Hm en xs
instance instSoList [En A] [So A]:So (List A) where
 dec:=@instDecidableEqList A So.dec
 lt:=oP
 dep:=So.dep A+1
 ok xs:=xs.all So.ok
 dat xs:=by
  show D.AG (xs.map en)=true
  rw[D.AH,List.all_eq_true]
  intro d hd
  obtain⟨a,_,rfl⟩:=List.mem_map.mp hd
  exact So.dat a
 depth xs:=by
  show PyData.depthAll (D.pds (xs.map en))+1<=_
  rw[gE]
  have:=ux (n:=So.dep A) (ds:=xs.map fun a=>(en a).pd) fun d hd=>by obtain⟨a,_,rfl⟩:=List.mem_map.mp hd;exact So.depth a
  omega
 al xs ys:=by
  show PySem.W.alike (.list (D.pds (xs.map en))) (.list (D.pds (ys.map en)))=true
  rw[gE,gE]
  exact Hw xs ys
 eqv xs ys:=by
  show PyData.eqvAll (D.pds (xs.map en)) (D.pds (ys.map en))=true↔_
  rw[gE,gE]
  exact qQ (fun a b=>So.eqv a b) xs ys
 lt_ok xs ys:=by
  show PySem.W.dataLt (.list (D.pds (xs.map en))) (.list (D.pds (ys.map en)))=_
  rw[PySem.W.dataLt_list,gE,gE]
  exact tJ xs ys
 lay xs h:=by
  show PyData.canLayAll0 (D.pds (xs.map en))=true
  rw[gE]
  rw[List.all_eq_true] at h
  exact Hn fun d hd=>by obtain⟨a,ha,rfl⟩:=List.mem_map.mp hd;exact So.lay a (h a ha)
 noN _:=rfl
instance instSoTl [En A] [So A]:So (Tl A) where
 dec:=fun a b=>@decidable_of_iff _ (a.l=b.l) ⟨fun h=>by cases a;cases b;simpa using h,fun h=>by rw[h]⟩ (@instDecidableEqList A So.dec a.l b.l)
 lt a b:=oP a.l b.l
 dep:=So.dep A+1
 ok xs:=xs.l.all So.ok
 dat xs:=by
  show D.AG (xs.l.map en)=true
  rw[D.AH,List.all_eq_true]
  intro d hd
  obtain⟨a,_,rfl⟩:=List.mem_map.mp hd
  exact So.dat a
 depth xs:=by
  show PyData.depthAll (D.pds (xs.l.map en))+1<=_
  rw[gE]
  have:=ux (n:=So.dep A) (ds:=xs.l.map fun a=>(en a).pd) fun d hd=>by obtain⟨a,_,rfl⟩:=List.mem_map.mp hd;exact So.depth a
  omega
 al xs ys:=by
  show PySem.W.alike (.tuple (D.pds (xs.l.map en))) (.tuple (D.pds (ys.l.map en)))=true
  rw[gE,gE]
  exact Hw xs.l ys.l
 eqv xs ys:=by
  show PyData.eqvAll (D.pds (xs.l.map en)) (D.pds (ys.l.map en))=true↔_
  rw[gE,gE,qQ (fun a b=>So.eqv a b) xs.l ys.l]
  exact⟨fun h=>by cases xs;cases ys;simpa using h,fun h=>by rw[h]⟩
 lt_ok xs ys:=by
  show PySem.W.dataLt (.tuple (D.pds (xs.l.map en))) (.tuple (D.pds (ys.l.map en)))=_
  rw[PySem.W.dataLt_tuple,gE,gE]
  exact tJ xs.l ys.l
 lay xs h:=by
  show PyData.canLayAll0 (D.pds (xs.l.map en))=true
  rw[gE]
  rw[List.all_eq_true] at h
  exact Hn fun d hd=>by obtain⟨a,ha,rfl⟩:=List.mem_map.mp hd;exact So.lay a (h a ha)
 noN _:=rfl
instance instSoT3 [En A] [En B] [En C] [So A] [So B] [So C]:So (T3 A B C) where
 dec:=@instDecidableEqT3 A B C So.dec So.dec So.dec
 lt p q:=@ite _ (p.a=q.a) (So.dec p.a q.a) (@ite _ (p.b=q.b) (So.dec p.b q.b) (@ite _ (p.c=q.c) (So.dec p.c q.c) false (So.lt p.c q.c)) (So.lt p.b q.b)) (So.lt p.a q.a)
 dep:=max (So.dep A) (max (So.dep B) (So.dep C))+1
 ok p:=So.ok p.a&&So.ok p.b&&So.ok p.c
 dat p:=by
  show ((en p.a).dat&&((en p.b).dat&&((en p.c).dat&&true)))=true
  rw[So.dat,So.dat,So.dat];rfl
 depth p:=by
  show max (en p.a).pd.depth (max (en p.b).pd.depth (max (en p.c).pd.depth 0))+1<=_
  have:=So.depth p.a;have:=So.depth p.b;have:=So.depth p.c;omega
 al p q:=by
  show (PySem.W.alike (en p.a).pd (en q.a).pd&&(PySem.W.alike (en p.b).pd (en q.b).pd&&(PySem.W.alike (en p.c).pd (en q.c).pd&&true)))=true
  rw[So.al,So.al,So.al];rfl
 eqv p q:=by
  show (PyData.eqv (en p.a).pd (en q.a).pd&&(PyData.eqv (en p.b).pd (en q.b).pd&&(PyData.eqv (en p.c).pd (en q.c).pd&&true)))=true↔_
  rw[Bool.and_true,Bool.and_eq_true,Bool.and_eq_true,So.eqv,So.eqv,So.eqv]
  exact⟨fun h=>by cases p;cases q;simp at h ⊢; exact h,fun h=>by rw[h];exact⟨rfl,rfl,rfl⟩⟩
 lt_ok p q:=by
  show PySem.W.dataLt (.tuple [(en p.a).pd,(en p.b).pd,(en p.c).pd]) (.tuple [(en q.a).pd,(en q.b).pd,(en q.c).pd])=_
  rw[PySem.W.dataLt_tuple]
  show hV _ _=_
  rw[bI,bI,bI,nM]
 lay p h:=by
  rw[Bool.and_eq_true,Bool.and_eq_true] at h
  show ((en p.a).pd.canLay0&&((en p.b).pd.canLay0&&((en p.c).pd.canLay0&&true)))=true
  rw[So.lay _ h.1.1,So.lay _ h.1.2,So.lay _ h.2];rfl
 noN _:=rfl
instance:St1 Int:=⟨.inr fun _=>rfl⟩
instance:St1 Str:=⟨.inr fun _=>rfl⟩
instance [En A]:St1 (List A):=⟨.inr fun _=>rfl⟩
instance [En A] [En B]:St1 (A×B):=⟨.inl fun _=>rfl⟩
instance [En A] [En B] [En C]:St1 (T3 A B C):=⟨.inl fun _=>rfl⟩
namespace T
def leO [En A] [So A] (a b:A):Bool:= !So.lt b a
def srt [En A] [So A] (xs:List A):List A:=xs.mergeSort leO
def eqD [En A] [So A] (a b:A):Option Bool:=if (So.ok a&&So.ok b)=true then some (@decide (a=b) (So.dec a b)) else none
end T
theorem yM [En A] [So A] (hd:So.dep A<=64) {a:A} (h:So.ok a=true):SeqAt.shaped (en a).pd=true:=by
 unfold SeqAt.shaped
 rw[So.lay a h,Bool.true_and,decide_eq_true_eq]
 exact Nat.le_trans (So.depth a) hd
theorem MZ [En A] [So A] (hd:So.dep A<=64) {a b:A} (h:(So.ok a&&So.ok b)=true):D.ok2 (en a) (en b)=true:=by
 rw[Bool.and_eq_true] at h
 unfold D.ok2
 rw[So.dat,So.dat,yM hd h.1,yM hd h.2];rfl
theorem M0 [En A] [So A] (a b:A):PyData.eqv (en a).pd (en b).pd= @decide (a=b) (So.dec a b):=by
 rw[Bool.eq_iff_iff,So.eqv,@decide_eq_true_eq _ (So.dec a b)]
theorem CA [En A] [So A] (hd:So.dep A<=64):fK D.eqD (T.eqD:A->A->Option Bool):=fun a b c e=>by
 obtain⟨h,rfl⟩:=aM e
 show D.eqD (en a) (en b)=_
 unfold D.eqD
 rw[if_pos (MZ hd h)]
 show some (PyData.eqv (en a).pd (en b).pd)=_
 rw[M0];rfl
end
end Sw
namespace Sw
open PySem PySem.Spec PyProof.Rows L2
section
variable {A B C:Type}
theorem zG [En A] {m:Option D} {t:Option (Option A)} (q:TyS m t):TyS m (t.bind id):=fun a e=>by
 obtain⟨o,e1,e2⟩:=bind1 e
 have e2:o=some a:=e2
 rw[q o e1,e2];rfl
theorem vJ [En A] {m:Option D} {t:Option A} (q:TyS m t):TyS m (t.map some):=fun a e=>by
 cases t with
 |none=>cases e
 |some b=>cases e;rw[q b rfl];rfl
theorem nN [En A]:TyS (some D.non) (some (none:Option A)):=aa rfl
class NN (A:Type) [En A]:Prop where
 nn: ∀a:A,D.isN (en a)=some false
instance:NN Int:=⟨fun _=>rfl⟩
instance:NN Str:=⟨fun _=>rfl⟩
instance:NN Bool:=⟨fun _=>rfl⟩
instance [En A]:NN (List A):=⟨fun _=>rfl⟩
instance [En A] [En B]:NN (A×B):=⟨fun _=>rfl⟩
instance [En A] [En B] [En C]:NN (T3 A B C):=⟨fun _=>rfl⟩
instance [En A]:NN (Sd A):=⟨fun _=>rfl⟩
instance [En A]:NN (Tl A):=⟨fun _=>rfl⟩
namespace T
def isN (o:Option A) (_:Unit):Option Bool:=some o.isNone
def JY (o:Option A) (_:Unit):Option Bool:=some (!o.isNone)
end T
theorem zH (o:Option Str) (a:Str):D.neA (en o) (en a)=some (!decide (o=some a))/\D.eqA (en o) (en a)=some (decide (o=some a)):=by
 cases o with
 |none=>exact⟨rfl,rfl⟩
 |some b=>
  refine⟨(Lb b a).trans ?_,(La b a).trans ?_⟩ <;> simp
theorem zI (o:Option Int) (a:Int):D.neA (en o) (en a)=some (!decide (o=some a))/\D.eqA (en o) (en a)=some (decide (o=some a)):=by
 cases o with
 |none=>exact⟨rfl,rfl⟩
 |some b=>
  refine⟨(K9 b a).trans ?_,(K8 b a).trans ?_⟩ <;> simp
class AtO (A:Type) [En A] [DecidableEq A]:Prop where
 ao: ∀(o:Option A) (a:A),D.neA (en o) (en a)=some (!decide (o=some a))/\D.eqA (en o) (en a)=some (decide (o=some a))
instance:AtO Str:=⟨zH⟩
instance:AtO Int:=⟨zI⟩
theorem zJ [En A] [NN A]:fK D.uV (T.isN:Option A->Unit->Option Bool):=fun o a c e=>by
 cases e
 show D.isN (en o)=_
 cases o with
 |none=>rfl
 |some x=>exact NN.nn x
theorem JZ [En A] [NN A]:fK D.DP (T.JY:Option A->Unit->Option Bool):=fun o a c e=>by
 cases e
 show (D.uV (en o) (.non)).map _=_
 rw[show D.uV (en o) .non=some o.isNone from zJ o () _ rfl];rfl
class Sc1 (A:Type) [En A] [So A]:Prop where
 of: ∀a:A,Qm (en a).pd=some (en a)
 dp:So.dep A<=30
instance:Sc1 Int:=⟨fun _=>rfl,Nat.zero_le _⟩
instance:Sc1 Str:=⟨fun _=>rfl,Nat.zero_le _⟩
end
end Sw
namespace Sw
open PySem PySem.Spec PyProof.Rows L2
section
variable {α β γ ρ A B C:Type}
def qr (tst:β->Option Bool) (step:β->Option (TO β β ρ)):Nat->β->Option (uX β ρ)
 |0,_=>none
 |n+1,b=>(tst b).bind fun c=>if c=true then (step b).bind fun
  | .nx b'=>qr tst step n b'
  | .ct b'=>qr tst step n b'
  | .bk b'=>some (.fin b')
  | .ret r=>some (.ret r)
  | .exc x=>some (.exc x) else some (.fin b)
theorem tK {tst:β->Option Bool} {step:β->Option (TO β β ρ)}: ∀{n:Nat} {b:β} {r:uX β ρ},qr tst step n b=some r->qr tst step (n+1) b=some r
 |n+1,b,r,h=>by
  unfold qr at h
  unfold qr
  obtain⟨c,e1,e2⟩:=bind1 h
  rw[e1]
  show (if c=true then _ else _)=_
  cases c with
  |false=>exact e2
  |true=>
   rw[if_pos rfl] at e2⊢
   obtain⟨o,e3,e4⟩:=bind1 e2
   rw[e3]
   cases o with
   |nx b'=>exact tK e4
   |ct b'=>exact tK e4
   |bk b'=>exact e4
   |ret d=>exact e4
   |exc x=>exact e4
theorem Ec {tst:β->Option Bool} {step:β->Option (TO β β ρ)} {n m:Nat} {b:β} {r:uX β ρ} (h:qr tst step n b=some r) (hl:n<=m):qr tst step m b=some r:=by
 obtain⟨k,rfl⟩:=Nat.exists_eq_add_of_le hl
 induction k with
 |zero=>exact h
 |succ k ih=>exact tK (ih (by omega))
open Classical in
noncomputable def Be (tst:β->Option Bool) (step:β->Option (TO β β ρ)) (b:β):Option (uX β ρ):=
 if h: ∃n r,qr tst step n b=some r then some h.choose_spec.choose else none
theorem J0 {tst:β->Option Bool} {step:β->Option (TO β β ρ)} {n:Nat} {b:β} {r:uX β ρ} (h:qr tst step n b=some r):Be tst step b=some r:=by
 unfold Be
 have hx: ∃n r,qr tst step n b=some r:=⟨n,r,h⟩
 rw[dif_pos hx]
 have h2:=hx.choose_spec.choose_spec
 have a:=Ec h (Nat.le_max_left n hx.choose)
 have b':=Ec h2 (Nat.le_max_right n hx.choose)
 rw[a] at b'
 exact b'.symm
theorem J1 {tst:β->Option Bool} {step:β->Option (TO β β ρ)} {b:β} {r:uX β ρ} (h:Be tst step b=some r): ∃n,qr tst step n b=some r:=by
 unfold Be at h
 split at h
 ·rename_i hx
  cases h
  exact⟨hx.choose,hx.choose_spec.choose_spec⟩
 ·cases h
noncomputable def Hx (tst:γ->Option Bool) (step:γ->Option (TO γ γ ρ)) (b0:γ) (k:γ->Option (TO α β ρ)):Option (TO α β ρ):=(Be tst step b0).bind (Cv k)
theorem CB [ES β B] [ER ρ] {ts:B->Option Bool} {ts':β->Option Bool} {st:B->Option (Out B B)} {st':β->Option (TO β β ρ)} (ht: ∀b,TyS (ts (es b)) (ts' b)) (h: ∀b,TyS (st (es b)) (st' b)): ∀(n:Nat) (b:β),TyS (whN ts st n (es b)) (qr ts' st' n b)
 |0,b=>fun a e=>by cases e
 |n+1,b=>by
  show TyS ((ts (es b)).bind _) ((ts' b).bind _)
  refine av (ht b) fun c=> ?_
  cases c with
  |false=>exact aa rfl
  |true=>
   show TyS ((st (es b)).bind _) ((st' b).bind _)
   refine av (h b) fun o=> ?_
   cases o with
   |nx a=>exact CB ht h n a
   |ct a=>exact CB ht h n a
   |bk a=>exact aa rfl
   |ret a=>exact aa rfl
   |exc a=>exact aa rfl
theorem Hy [ES α A] [ES β B] [ES γ C] [ER ρ] {ts:C->Option Bool} {ts':γ->Option Bool} {st:C->Option (Out C C)} {st':γ->Option (TO γ γ ρ)} {b:C} {b':γ} {k:C->Option (Out A B)} {l:γ->Option (TO α β ρ)}
  (ht: ∀b,TyS (ts (es b)) (ts' b)) (hs: ∀b,TyS (st (es b)) (st' b)) (hb:b=es b') (h: ∀a,TyS (k (es a)) (l a)):TyS (whO ts st b k) (Hx ts' st' b' l):=by
 subst hb
 refine av (m:=whL ts st (es b')) (t:=Be ts' st' b') (fun r e=> ?_) fun o=>Hq h o
 obtain⟨n,e⟩:=J1 e
 exact LL (CB ht hs n b' r e)
theorem Bf {tst:γ->Option Bool} {step:γ->Option (TO γ γ ρ)} {b0 b1:γ} {k:γ->Option (TO α β ρ)} (h:Be tst step b0=some (.fin b1)):Hx tst step b0 k=k b1:=by
 unfold Hx;rw[h];rfl
theorem Ed {tst:β->Option Bool} {step:β->Option (TO β β ρ)} (I:β->Prop) (m:β->Nat) (hs: ∀b,I b->tst b=some false\/(tst b=some true/\ ∃b',(step b=some (.nx b')\/step b=some (.ct b'))/\I b'/\m b'<m b)) {b0:β} (h0:I b0): ∃b',Be tst step b0=some (.fin b')/\I b'/\tst b'=some false:=by
 have key: ∀(n:Nat) (b:β),m b<n->I b-> ∃b',qr tst step n b=some (.fin b')/\I b'/\tst b'=some false:=by
  intro n
  induction n with
  |zero=>intro b h;omega
  |succ n ih=>
   intro b hm hI
   rcases hs b hI with e|⟨e,b',e2,h2,h3⟩
   ·refine⟨b,?_,hI,e⟩
    unfold qr;rw[e];rfl
   ·obtain⟨b2,e4,h4⟩:=ih b' (by omega) h2
    refine⟨b2,?_,h4⟩
    unfold qr
    rw[e,Option.bind_some,if_pos rfl]
    rcases e2 with e2|e2 <;> (rw[e2];exact e4)
 obtain⟨b',e,h⟩:=key (m b0+1) b0 (by omega) h0
 exact⟨b',J0 e,h⟩
end
end Sw
namespace Sw
open PySem PySem.Spec PyProof.Rows L2
section
variable {α β γ δ ρ A B C F G':Type}
def Bg (g:A->B->Option Bool) (g':B->C->Option Bool) (ta:Option A) (tb:Option B) (tc:Option C):Option Bool:=ta.bind fun x=>tb.bind fun y=>(g x y).bind fun k=>if k=true then tc.bind fun z=>g' y z else some false
theorem CC [En A] [En B] [En C] {f f':D->D->Option Bool} {g:A->B->Option Bool} {g':B->C->Option Bool} (h:fK f g) (h':fK f' g') {ma mb mc:Option D} {ta:Option A} {tb:Option B} {tc:Option C} (q1:TyS ma ta) (q2:TyS mb tb) (q3:TyS mc tc):TyS (chB f f' ma mb mc) (Bg g g' ta tb tc):=
 av q1 fun x=>av q2 fun y=>av (m:=f (en x) (en y)) (t:=g x y) (fun b e=>h x y b e) fun k=>by
  cases k with
  |false=>exact aa rfl
  |true=>exact av q3 fun z b e=>h' y z b e
namespace T
def ql (neg:Bool) (a z:Str):Option Bool:=match a.cps.toList with
 | [c]=>some (if neg=true then !decide (c∈z.cps.toList) else decide (c∈z.cps.toList))
 |_=>none
def split (a b:Str):Option (List Str):=if (b.length==0)=false/\a.length+2<=sizeLine then some (Txt.split a b) else none
def part (a b:Str):Option (T3 Str Str Str):=if (b.length==0)=false/\a.length<=sizeLine then some ⟨(Txt.partition a b).1,(Txt.partition a b).2.1,(Txt.partition a b).2.2⟩ else none
def Cj (i:Int):Option Str:=if i.natAbs.log2<1920 then some (toString i) else none
def qm (a:Str):Option Int:=if a.length<=640 then PySem.intText? a else none
end T
theorem zL (neg:Bool):fK (D.ql neg) (T.ql neg):=fun a z b e=>by
 unfold T.ql at e
 show (match a.cps.toList with| [c]=>_|_=>none)=_
 split at e
 ·rename_i c hc;cases e;rfl
 ·cases e
theorem su:fK D.split T.split:=fun a b c e=>by
 obtain⟨h,rfl⟩:=aM e
 show (if (b.length==0)=false/\a.length+2<=sizeLine then some (D.lst ((Txt.split a b).map D.str)) else none)=_
 rw[if_pos h];rfl
theorem J3:fK D.part T.part:=fun a b c e=>by
 obtain⟨h,rfl⟩:=aM e
 show (if (b.length==0)=false/\a.length<=sizeLine then some (D.tup [.str (Txt.partition a b).1,.str (Txt.partition a b).2.1,.str (Txt.partition a b).2.2]) else none)=_
 rw[if_pos h];rfl
theorem J4:wM D.Cj T.Cj:=fun a b e=>by
 obtain⟨h,rfl⟩:=aM e
 show (if a.natAbs.log2<1920 then some (D.str (toString a)) else none)=_
 rw[if_pos h];rfl
theorem zM:wM D.qm T.qm:=fun a b e=>by
 unfold T.qm at e
 show (if a.length<=640 then (PySem.intText? a).map D.int else none)=_
 by_cases h:a.length<=640
 ·rw[if_pos h] at e ⊢; rw[e];rfl
 ·rw[if_neg h] at e;cases e
def T.un3 (t:T3 A B C):Option (A×B×C):=some (t.a,t.b,t.c)
theorem Hz [En A] [En B] [En C] {m:Option D} {t:Option (T3 A B C)} (q:TyS m t):TyS (b1 D.pr3 m) (b1 T.un3 t):=fun a e=>by
 obtain⟨x,e1,e2⟩:=bind1 e
 cases e2
 unfold b1;rw[q x e1];rfl
end
end Sw
namespace Sw
open PySem PySem.Spec PyProof.Rows L2
section
variable {α β γ ρ A B C:Type}
namespace T
noncomputable def qo (a:Str) (i:Int):Option Str:=cif (MulOk a i) (Txt.mul a i)
end T
theorem Ee:fK D.qo T.qo:=fun a i c e=>by
 obtain⟨h,rfl⟩:=rQ e
 show cif (MulOk a i) (D.str (Txt.mul a i))=_
 rw[k8 h];rfl
class Atm (A:Type) [En A]:Prop where
 atm: ∀a:A,((en a).toV).isSome=true
instance:Atm Int:=⟨fun _=>rfl⟩
instance:Atm Str:=⟨fun _=>rfl⟩
instance:Atm Bool:=⟨fun _=>rfl⟩
theorem J5 [En A] {xs:List A} {x:A}:TyS (D.app (en xs) (en x)) (T.app xs x):=fun c e=>wV xs x c e
class Atv (A:Type) [En A]:Prop where
 atv: ∀a:A,∃v,(en a).toV=some v/\flatB v=true
instance:Atv Int:=⟨fun a=>⟨.int a,rfl,rfl⟩⟩
instance:Atv Str:=⟨fun a=>⟨.str a,rfl,rfl⟩⟩
end
end Sw
namespace Sw
open PySem PySem.Spec PyProof.Rows L2
section
variable {A B C E α β γ δ ρ:Type}
def M3 (k:γ->Option (TO α β ρ)):uX γ ρ->Option (TO α β ρ)
 | .fin b=>k b
 |_=>none
def OL (ds:Option (List δ)) (step:γ->δ->Option (TO γ γ ρ)) (b0:γ) (k:γ->Option (TO α β ρ)):Option (TO α β ρ):=ds.bind fun ds=>(cY step ds b0).bind (M3 k)
@[simp] theorem OM (k:γ->Option (TO α β ρ)) (a:γ):M3 k (.fin a)=k a:=rfl
@[simp] theorem M4 (ds:List δ) (step:γ->δ->Option (TO γ γ ρ)) (b0:γ) (k:γ->Option (TO α β ρ)):OL (some ds) step b0 k=(cY step ds b0).bind (M3 k):=rfl
end
end Sw
namespace Sw
open PySem PySem.Spec PyProof.Rows L2
section
variable {A B C' E R S:Type}
namespace T
def tj (g:R->A->S) (r:R) (t:Option A):Option S:=t.map (g r)
end T
end
inductive aH where
 |single (couple:Str)
 |group (ring:List aH) (links:List (Str×Str))
mutual
def aH.d:aH->D
 | .single c=>.ins "Single" [("couple",.str c)]
 | .group r l=>.ins "Group" [("ring",.lst (aH.ds r)),("links",en l)]
def aH.ds:List aH->List D
 | []=>[]
 |k::r=>aH.d k::aH.ds r
end
instance:En aH:=⟨aH.d⟩
structure Fn where
structure HA where
structure HB where
 ring:List aH
instance:En Fn:=⟨fun _=>.ins "Single" []⟩
instance:En HA:=⟨fun _=>.ins "Group" []⟩
instance:En HB:=⟨fun s=>.ins "Group" [("ring",en s.ring)]⟩
inductive RV where
 |k (x:aH)|s (x:Str)|i (x:Int)|ls (x:List Str)|lp (x:List (Str×Str))|ll (x:List (List Str))
instance:En RV:=⟨fun v=>match v with
 | .k x=>en x| .s x=>en x| .i x=>en x| .ls x=>en x| .lp x=>en x| .ll x=>en x⟩
namespace RV
def as:RV->Option Str| .s x=>some x|_=>none
def ai:RV->Option Int| .i x=>some x|_=>none
def all:RV->Option (List (List Str))| .ll x=>some x|_=>none
end RV
namespace T
def dct (u:Option (List (Str×RV))):Option (Sd RV):=u.bind fun l=>if (l.map (·.1)).Nodup/\l.length<=15 then some ⟨l⟩ else none
end T
end Sw
namespace Sw
open PySem PySem.Spec PyProof.Rows L2
section
variable {A B C' E S:Type}
namespace T
def E8 (i:Int):Option Int:=some (if i<0 then -i else i)
end T
theorem J6:wM D.E8 T.E8:=fun i b e=>by cases e;rfl
end
structure bf where
 mates:Sd Str
 top:Sd aH
 roots:Sd Str
 reached:Sd (Str×Str)
 waiting:List Str
 longer:Option (List Str)
structure CD where
structure CF where
 mates:Sd Str
structure CG where
 mates:Sd Str
 top:Sd aH
structure CH where
 mates:Sd Str
 top:Sd aH
 roots:Sd Str
structure CI where
 mates:Sd Str
 top:Sd aH
 roots:Sd Str
 reached:Sd (Str×Str)
structure CJ where
 mates:Sd Str
 top:Sd aH
 roots:Sd Str
 reached:Sd (Str×Str)
 waiting:List Str
instance:En CD:=⟨fun _=>.ins "Outcome" []⟩
instance:En CF:=⟨fun s=>.ins "Outcome" [("mates",en s.mates)]⟩
instance:En CG:=⟨fun s=>.ins "Outcome" [("mates",en s.mates),("top",en s.top)]⟩
instance:En CH:=⟨fun s=>.ins "Outcome" [("mates",en s.mates),("top",en s.top),("roots",en s.roots)]⟩
instance:En CI:=⟨fun s=>.ins "Outcome" [("mates",en s.mates),("top",en s.top),("roots",en s.roots),("reached",en s.reached)]⟩
instance:En CJ:=⟨fun s=>.ins "Outcome" [("mates",en s.mates),("top",en s.top),("roots",en s.roots),("reached",en s.reached),("waiting",en s.waiting)]⟩
instance:En bf:=⟨fun s=>.ins "Outcome" [("mates",en s.mates),("top",en s.top),("roots",en s.roots),("reached",en s.reached),("waiting",en s.waiting),("longer",en s.longer)]⟩
end Sw
namespace Sw
open PySem PySem.Spec PyProof.Rows L2
structure Hl (A B:Type) where
 a:A
 b:B
variable {A B:Type}
instance [En A] [En B]:En (Hl A B):=⟨fun x=>.lst [en x.a,en x.b]⟩
def T.hl (t:Option A) (u:Option B):Option (Hl A B):=t.bind fun a=>u.bind fun b=>some ⟨a,b⟩
end Sw
namespace Sw
open PySem PySem.Spec PyProof.Rows L2
variable {A B C:Type}
structure Hl3 (A B C:Type) where
 a:A
 b:B
 c:C
instance [En A] [En B] [En C]:En (Hl3 A B C):=⟨fun x=>.lst [en x.a,en x.b,en x.c]⟩
instance instSoHl [En A] [En B] [So A] [So B]:So (Hl A B) where
 dec p q:=@decidable_of_iff _ ((p.a,p.b)=(q.a,q.b)) ⟨fun h=>by cases p;cases q;simpa using h,fun h=>by rw[h]⟩ (@instDecidableEqProd A B So.dec So.dec (p.a,p.b) (q.a,q.b))
 lt p q:=@ite _ (p.a=q.a) (So.dec p.a q.a) (@ite _ (p.b=q.b) (So.dec p.b q.b) false (So.lt p.b q.b)) (So.lt p.a q.a)
 dep:=max (So.dep A) (So.dep B)+1
 ok p:=So.ok p.a&&So.ok p.b
 dat p:=by
  show ((en p.a).dat&&((en p.b).dat&&true))=true
  rw[So.dat,So.dat];rfl
 depth p:=by
  show max (en p.a).pd.depth (max (en p.b).pd.depth 0)+1<=_
  have:=So.depth p.a;have:=So.depth p.b;omega
 al p q:=by
  show (PySem.W.alike (en p.a).pd (en q.a).pd&&(PySem.W.alike (en p.b).pd (en q.b).pd&&true))=true
  rw[So.al,So.al];rfl
 eqv p q:=by
  show (PyData.eqv (en p.a).pd (en q.a).pd&&(PyData.eqv (en p.b).pd (en q.b).pd&&true))=true↔_
  rw[Bool.and_true,Bool.and_eq_true,So.eqv,So.eqv]
  exact⟨fun h=>by cases p;cases q;simp at h ⊢; exact h,fun h=>by rw[h];exact⟨rfl,rfl⟩⟩
 lt_ok p q:=by
  show PySem.W.dataLt (.list [(en p.a).pd,(en p.b).pd]) (.list [(en q.a).pd,(en q.b).pd])=_
  rw[PySem.W.dataLt_list]
  show hV _ _=_
  rw[bI,bI,nM]
 lay p h:=by
  rw[Bool.and_eq_true] at h
  show ((en p.a).pd.canLay0&&((en p.b).pd.canLay0&&true))=true
  rw[So.lay _ h.1,So.lay _ h.2];rfl
 noN _:=rfl
instance instSoHl3 [En A] [En B] [En C] [So A] [So B] [So C]:So (Hl3 A B C) where
 dec p q:=@decidable_of_iff _ ((p.a,p.b,p.c)=(q.a,q.b,q.c)) ⟨fun h=>by cases p;cases q;simpa using h,fun h=>by rw[h]⟩ (@instDecidableEqProd A (B×C) So.dec (@instDecidableEqProd B C So.dec So.dec) (p.a,p.b,p.c) (q.a,q.b,q.c))
 lt p q:=@ite _ (p.a=q.a) (So.dec p.a q.a) (@ite _ (p.b=q.b) (So.dec p.b q.b) (@ite _ (p.c=q.c) (So.dec p.c q.c) false (So.lt p.c q.c)) (So.lt p.b q.b)) (So.lt p.a q.a)
 dep:=max (So.dep A) (max (So.dep B) (So.dep C))+1
 ok p:=So.ok p.a&&So.ok p.b&&So.ok p.c
 dat p:=by
  show ((en p.a).dat&&((en p.b).dat&&((en p.c).dat&&true)))=true
  rw[So.dat,So.dat,So.dat];rfl
 depth p:=by
  show max (en p.a).pd.depth (max (en p.b).pd.depth (max (en p.c).pd.depth 0))+1<=_
  have:=So.depth p.a;have:=So.depth p.b;have:=So.depth p.c;omega
 al p q:=by
  show (PySem.W.alike (en p.a).pd (en q.a).pd&&(PySem.W.alike (en p.b).pd (en q.b).pd&&(PySem.W.alike (en p.c).pd (en q.c).pd&&true)))=true
  rw[So.al,So.al,So.al];rfl
 eqv p q:=by
  show (PyData.eqv (en p.a).pd (en q.a).pd&&(PyData.eqv (en p.b).pd (en q.b).pd&&(PyData.eqv (en p.c).pd (en q.c).pd&&true)))=true↔_
  rw[Bool.and_true,Bool.and_eq_true,Bool.and_eq_true,So.eqv,So.eqv,So.eqv]
  exact⟨fun h=>by cases p;cases q;simp at h ⊢; exact h,fun h=>by rw[h];exact⟨rfl,rfl,rfl⟩⟩
 lt_ok p q:=by
  show PySem.W.dataLt (.list [(en p.a).pd,(en p.b).pd,(en p.c).pd]) (.list [(en q.a).pd,(en q.b).pd,(en q.c).pd])=_
  rw[PySem.W.dataLt_list]
  show hV _ _=_
  rw[bI,bI,bI,nM]
 lay p h:=by
  rw[Bool.and_eq_true,Bool.and_eq_true] at h
  show ((en p.a).pd.canLay0&&((en p.b).pd.canLay0&&((en p.c).pd.canLay0&&true)))=true
  rw[So.lay _ h.1.1,So.lay _ h.1.2,So.lay _ h.2];rfl
 noN _:=rfl
end Sw
namespace Sw
open PySem PySem.Spec PyProof.Rows L2
section
variable {A B C S T U α β γ δ ρ:Type}
instance [ES A S]:ES (Xn ⊕ A) (Xn ⊕ S):=⟨fun r=>match r with| .inl x=>.inl x| .inr a=>.inr (es a)⟩
def tX0 (t:Option (TO PEmpty PEmpty (R0 A))):Option (Xn ⊕ A):=t.bind fun o=>match o with| .ret r=>some (.inr r.v)| .exc x=>some (.inl x)|_=>none
def FoX [En A] (m:Option FR) (t:Option (Xn ⊕ A)):Prop:= ∀r,t=some r->m=some (match r with| .inl x=>.er x| .inr v=>.ok (en v) [])
theorem foX [En A] {m:Option (Out PEmpty PEmpty)} {t:Option (TO PEmpty PEmpty (R0 A))} (h:TyS m t):FoX (FO m) (tX0 t):=fun r e=>by
 obtain⟨o,e1,e2⟩:=bind1 e
 cases o <;> cases e2
 ·unfold FO;rw[h _ e1];rfl
 ·unfold FO;rw[h _ e1];rfl
theorem wW [ES α S] [ES β T] [ER ρ] [En A] {Cn f:Str} {m:Option D} {t:Option A} (q:TyS m t):TyS (m.bind fun d=>(some (.exc ⟨Cn,[(f,d)]⟩):Option (Out S T))) (t.bind fun a=>(some (.exc ⟨Cn,[(f,en a)]⟩):Option (TO α β ρ))):=av q fun a=>aa rfl
def Bh (Cn f:Str) (x:Xn):Option Str:=if x.C=Cn then (match x.fs.lookup f with|some (.str s)=>some s|_=>none) else none
theorem J7 {Cn f:Str} {x:Xn}:TyS (Mu Cn f x) (Bh Cn f x):=fun s e=>by
 unfold Bh at e
 unfold Mu
 by_cases q:x.C=Cn
 ·rw[if_pos q] at e⊢
  split at e
  ·rename_i s' e2
   cases e
   exact e2
  ·cases e
 ·rw[if_neg q] at e;cases e
def J8 (mb:Option (Xn ⊕ γ)) (Cn:Str) (zf:Xn->Option B) (gx:B->γ) (k:γ->Option (TO α β ρ)):Option (TO α β ρ):=(mb.bind fun r=>match r with| .inl x=>if x.C=Cn then (zf x).map gx else none| .inr g=>some g).bind k
theorem J9 [ES α S] [ES β T] [ER ρ] [ES γ U] [En B] {mb:Option (Xn ⊕ U)} {mb':Option (Xn ⊕ γ)} {Cn:Str} {zf:Xn->Option D} {zf':Xn->Option B} {gx:D->U} {gx':B->γ} {k:U->Option (Out S T)} {k':γ->Option (TO α β ρ)}
  (h:TyS mb mb') (hz: ∀x,TyS (zf x) (zf' x)) (hg: ∀b,gx (en b)=es (gx' b)) (hk: ∀g,TyS (k (es g)) (k' g)):TyS (Ms mb Cn zf gx k) (J8 mb' Cn zf' gx' k'):=av (av h fun r=>by
   cases r with
   |inr g=>exact fun b e=>by cases e;rfl
   |inl x=>
    intro b e
    have e:(if x.C=Cn then (zf' x).map gx' else none)=some b:=e
    show (if x.C=Cn then (zf x).map gx else none)=_
    by_cases q:x.C=Cn
    ·rw[if_pos q] at e⊢
     obtain⟨c,e1,rfl⟩:=cg e
     rw[hz x c e1,Option.map_some]
     exact congrArg some (hg c)
    ·rw[if_neg q] at e;cases e) hk
theorem Fp {A1:Type} [En A1] [En A] {Fs:List D->Option FR} {g:A1->Option (Xn ⊕ A)} (h: ∀(x1:A1),FoX (Fs [en x1]) (g x1)) {m1:Option D} {t1:Option A1} (q1:TyS m1 t1):FoX ((aj m1 aU).bind Fs) (b1 g t1):=fun r e=>by
 obtain⟨x1,e1,e⟩:=bind1 e
 rw[q1 _ e1]
 exact h x1 r e
end
end Sw
namespace Sw
open PySem PySem.Spec PyProof.Rows L2
instance:NN bf:=⟨fun _=>rfl⟩
end Sw
namespace Sw
open PySem PySem.Spec PyProof.Rows L2
def T.isX (Cn:Str) (b:Bool) (x:Xn):Option Bool:=if x.C=Cn then some b else none
theorem CK {Cn:Str} {b:Bool} {x:Xn}:TyS (isX Cn b x) (T.isX Cn b x):=fun c e=>by
 obtain⟨h,rfl⟩:=aM e
 unfold isX
 rw[if_pos h];rfl
end Sw
namespace Sw
open PySem PySem.Spec PyProof.Rows L2
section
variable {A B C S U α β γ δ ρ:Type}
def tsB (t:Option (Xn ⊕ A)) (fe:A->γ):Option (Xn ⊕ γ):=t.map fun r=>match r with| .inl x=>.inl x| .inr a=>.inr (fe a)
theorem Ka [En A] [ES γ S] {Fs:List D->Option FR} {rs:Option (List D)} {t:Option (Xn ⊕ A)} {fe:A->γ} {fd:D->S} (h:FoX (rs.bind Fs) t) (e0: ∀a,fd (en a)=es (fe a)):TyS (setB Fs rs fd) (tsB t fe):=fun r e=>by
 obtain⟨o,e1,e2⟩:=cg e
 subst e2
 show (rs.bind Fs).bind _=_
 rw[h o e1]
 cases o with
 |inl x=>rfl
 |inr a=>exact congrArg (fun z=>some (Sum.inr z)) (e0 a)
structure Any where
 d:D
instance:En Any:=⟨Any.d⟩
def T.up [En A] (a:A):Any:=⟨en a⟩
def T.asS (x:Any):Option Str:=match x.d with| .str s=>some s|_=>none
instance instSoT4 {E:Type} [En A] [En B] [En C] [En E] [So A] [So B] [So C] [So E]:So (T4 A B C E) where
 dec:=@instDecidableEqT4 A B C E So.dec So.dec So.dec So.dec
 lt p q:=@ite _ (p.a=q.a) (So.dec p.a q.a) (@ite _ (p.b=q.b) (So.dec p.b q.b) (@ite _ (p.c=q.c) (So.dec p.c q.c) (@ite _ (p.d=q.d) (So.dec p.d q.d) false (So.lt p.d q.d)) (So.lt p.c q.c)) (So.lt p.b q.b)) (So.lt p.a q.a)
 dep:=max (So.dep A) (max (So.dep B) (max (So.dep C) (So.dep E)))+1
 ok p:=So.ok p.a&&So.ok p.b&&So.ok p.c&&So.ok p.d
 dat p:=by
  show ((en p.a).dat&&((en p.b).dat&&((en p.c).dat&&((en p.d).dat&&true))))=true
  rw[So.dat,So.dat,So.dat,So.dat];rfl
 depth p:=by
  show max (en p.a).pd.depth (max (en p.b).pd.depth (max (en p.c).pd.depth (max (en p.d).pd.depth 0)))+1<=_
  have:=So.depth p.a;have:=So.depth p.b;have:=So.depth p.c;have:=So.depth p.d;omega
 al p q:=by
  show (PySem.W.alike (en p.a).pd (en q.a).pd&&(PySem.W.alike (en p.b).pd (en q.b).pd&&(PySem.W.alike (en p.c).pd (en q.c).pd&&(PySem.W.alike (en p.d).pd (en q.d).pd&&true))))=true
  rw[So.al,So.al,So.al,So.al];rfl
 eqv p q:=by
  show (PyData.eqv (en p.a).pd (en q.a).pd&&(PyData.eqv (en p.b).pd (en q.b).pd&&(PyData.eqv (en p.c).pd (en q.c).pd&&(PyData.eqv (en p.d).pd (en q.d).pd&&true))))=true↔_
  rw[Bool.and_true,Bool.and_eq_true,Bool.and_eq_true,Bool.and_eq_true,So.eqv,So.eqv,So.eqv,So.eqv]
  exact⟨fun h=>by cases p;cases q;simp at h ⊢; exact h,fun h=>by rw[h];exact⟨rfl,rfl,rfl,rfl⟩⟩
 lt_ok p q:=by
  show PySem.W.dataLt (.tuple [(en p.a).pd,(en p.b).pd,(en p.c).pd,(en p.d).pd]) (.tuple [(en q.a).pd,(en q.b).pd,(en q.c).pd,(en q.d).pd])=_
  rw[PySem.W.dataLt_tuple]
  show hV _ _=_
  rw[bI,bI,bI,bI,nM]
 lay p h:=by
  rw[Bool.and_eq_true,Bool.and_eq_true,Bool.and_eq_true] at h
  show ((en p.a).pd.canLay0&&((en p.b).pd.canLay0&&((en p.c).pd.canLay0&&((en p.d).pd.canLay0&&true))))=true
  rw[So.lay _ h.1.1.1,So.lay _ h.1.1.2,So.lay _ h.1.2,So.lay _ h.2];rfl
 noN _:=rfl
instance {E:Type} [En A] [En B] [En C] [En E]:NN (T4 A B C E):=⟨fun _=>rfl⟩
end
end Sw
namespace Sw
open PySem PySem.Spec PyProof.Rows L2
section
variable {A B C E:Type}
structure Hl4 (A B C E:Type) where
 a:A
 b:B
 c:C
 d:E
instance [En A] [En B] [En C] [En E]:En (Hl4 A B C E):=⟨fun x=>.lst [en x.a,en x.b,en x.c,en x.d]⟩
end
end Sw
namespace Sw
open PySem PySem.Spec PyProof.Rows L2
section
variable {A B C S T U α β γ δ ρ:Type}
def zN (t:Option (Xn ⊕ A)) (k:A->Option (TO α β ρ)):Option (TO α β ρ):=t.bind fun x=>match x with
 | .inl e=>some (.exc e)
 | .inr a=>k a
@[simp] theorem PQ (a:A) (k:A->Option (TO α β ρ)):zN (some (.inr a)) k=k a:=rfl
@[simp] theorem PR (x:Xn) (k:A->Option (TO α β ρ)):zN (some (.inl x)) k=some (.exc x):=rfl
theorem CL [En A] [ES α S] [ES β T] [ER ρ] {r:Option (Xn ⊕ D)} {t:Option (Xn ⊕ A)} {k:D->Option (Out S T)} {k':A->Option (TO α β ρ)} (h:TyS r t) (hk: ∀a,TyS (k (en a)) (k' a)):TyS (xbO r k) (zN t k'):=av h fun x=>by
 cases x with
 |inl e=>exact fun b q=>by cases q;rfl
 |inr a=>exact hk a
theorem pG [En A] {m:Option FR} {t:Option (Xn ⊕ A)} (h:FoX m t):TyS (m.bind frX) t:=fun r e=>by
 rw[h r e]
 cases r <;> rfl
end
end Sw
namespace Sw
open PySem PySem.Spec PyProof.Rows L2
variable {A B C E F S S' U α β γ δ ρ α' β' γ' δ':Type}
class FlS (A:Type) [En A] (s:Sh):Prop where
 fl: ∀a:A,fR s (en a)=true
theorem FlS.flt [En A] [FlS A .fz] (a:A):(en a).flt=true:=by
 have:=FlS.fl (s:=.fz) a
 unfold fR at this
 exact this
instance:FlS Int .fz:=⟨fun a=>by unfold fR;rfl⟩
instance:FlS Str .fz:=⟨fun a=>by unfold fR;rfl⟩
instance:FlS Bool .fz:=⟨fun a=>by unfold fR;rfl⟩
instance [En A] [En B] [FlS A .fz] [FlS B .fz]:FlS (A×B) .fz:=⟨fun a=>by
 unfold fR
 show E9 [en a.1,en a.2]=true
 unfold E9 E9 E9
 rw[FlS.flt,FlS.flt];rfl⟩
instance [En A] {s:Sh} [FlS A s]:FlS (List A) (.ls s):=⟨fun a=>by
 show fR (.ls s) (.lst (a.map en))=true
 unfold fR
 rw[List.all_map,List.all_eq_true]
 intro x _
 exact FlS.fl x⟩
instance [En A] {s:Sh} [FlS A s]:FlS (Sd A) (.dc s):=⟨fun a=>by
 show fR (.dc s) (.dct (sdK a.l))=true
 unfold fR sdK
 rw[List.all_map,List.all_eq_true]
 intro x _
 exact FlS.fl x.2⟩
theorem Fq {ds:List (Str×D)}:r9 [] ds=true:=by unfold r9;rfl
theorem qS {f g:Str} {s:Sh} {fs:List (Str×Sh)} {d:D} {ds:List (Str×D)} (h:fR s d=true) (r:r9 fs ds=true):r9 ((f,s)::fs) ((g,d)::ds)=true:=by
 unfold r9
 show (fR s d&&r9 fs ds)=true
 rw[h,r];rfl
theorem flatIs {fs:List (Str×Sh)} {c:Str} {ds:List (Str×D)} (h:r9 fs ds=true):fR (.is fs) (.ins c ds)=true:=by unfold fR;exact h
end Sw
namespace Sw
open PySem PySem.Spec PyProof.Rows L2
structure HD where
 swaps:Sd (Sd Int)
 ranks:Sd Int
 kept:List (Str×Str)
structure Kb where
structure Kc where
 swaps:Sd (Sd Int)
structure Kd where
 swaps:Sd (Sd Int)
 ranks:Sd Int
instance:En Kb:=⟨fun _=>.ins "Ward" []⟩
instance:En Kc:=⟨fun s=>.ins "Ward" [("swaps",en s.swaps)]⟩
instance:En Kd:=⟨fun s=>.ins "Ward" [("swaps",en s.swaps),("ranks",en s.ranks)]⟩
instance:En HD:=⟨fun s=>.ins "Ward" [("swaps",en s.swaps),("ranks",en s.ranks),("kept",en s.kept)]⟩
instance:FlS HD (.is [("swaps",.dc (.dc .fz)),("ranks",.dc .fz),("kept",.ls .fz)]):=⟨fun s=>flatIs (qS (FlS.fl s.swaps) (qS (FlS.fl s.ranks) (qS (FlS.fl s.kept) Fq)))⟩
end Sw
namespace Sw
open PySem PySem.Spec PyProof.Rows L2
variable [NmC]
section
variable {A B C:Type} [En A] [En B] [En C]
def T.trs (xs:List (T3 A B C)):Option (List (A×B×C)):=some (xs.map fun x=>(x.a,x.b,x.c))
theorem HE: ∀xs:List (T3 A B C),D.trs (xs.map en)=some ((xs.map fun x=>(x.a,x.b,x.c)).map es)
 | []=>rfl
 |x::xs=>by rw[List.map_cons];unfold D.trs;rw[HE xs];rfl
theorem Ke {m:Option D} {t:Option (List (T3 A B C))} (q:TyS m t):TyS (Jq m) (b1 T.trs t):=fun a e=>by
 obtain⟨x,e1,e2⟩:=bind1 e
 cases e2
 unfold Jq;rw[q x e1];exact HE x
end
end Sw
namespace Sw
open PySem PySem.Spec PyProof.Rows L2
variable [NmC]
structure Ft where
 net:Sd (Sd Int)
 prices:Sd Int
 paying:Td (Tl Str) Int
 mates:Sd Str
 HF:List aH
structure CM where
structure CN where
 net:Sd (Sd Int)
structure CO where
 net:Sd (Sd Int)
 prices:Sd Int
structure CP where
 net:Sd (Sd Int)
 prices:Sd Int
 paying:Td (Tl Str) Int
structure CQ where
 net:Sd (Sd Int)
 prices:Sd Int
 paying:Td (Tl Str) Int
 mates:Sd Str
instance:En CM:=⟨fun _=>.ins "Pricing" []⟩
instance:En CN:=⟨fun s=>.ins "Pricing" [("net",en s.net)]⟩
instance:En CO:=⟨fun s=>.ins "Pricing" [("net",en s.net),("prices",en s.prices)]⟩
instance:En CP:=⟨fun s=>.ins "Pricing" [("net",en s.net),("prices",en s.prices),("paying",en s.paying)]⟩
instance:En CQ:=⟨fun s=>.ins "Pricing" [("net",en s.net),("prices",en s.prices),("paying",en s.paying),("mates",en s.mates)]⟩
instance:En Ft:=⟨fun s=>.ins "Pricing" [("net",en s.net),("prices",en s.prices),("paying",en s.paying),("mates",en s.mates),("knots",en s.HF)]⟩
end Sw
namespace Sw
open PySem PySem.Spec PyProof.Rows L2
section
variable {A B C S T U α β γ δ ρ:Type}
def HG [En A] (mb:Option (Xn ⊕ γ)) (Cn fld:Str) (ra:Option A) (k:γ->Option (TO α β ρ)):Option (TO α β ρ):=mb.bind fun r=>match r with
 | .inl x=>if x.C=Cn then ra.bind fun a=>some (.exc ⟨Cn,[(fld,en a)]⟩) else none
 | .inr g=>k g
theorem Kf [ES α S] [ES β T] [ER ρ] [ES γ U] [En A] {mb:Option (Xn ⊕ U)} {mb':Option (Xn ⊕ γ)} {Cn fld:Str} {ra:Option D} {ra':Option A} {k:U->Option (Out S T)} {k':γ->Option (TO α β ρ)}
  (h:TyS mb mb') (hr:TyS ra ra') (hk: ∀g,TyS (k (es g)) (k' g)):TyS (MA mb Cn fld ra k) (HG mb' Cn fld ra' k'):=av h fun r=>by
 cases r with
 |inr g=>exact hk g
 |inl x=>
  show TyS (if x.C=Cn then ra.bind fun d=>(some (Out.exc ⟨Cn,[(fld,d)]⟩):Option (Out S T)) else none) (if x.C=Cn then ra'.bind fun a=>(some (TO.exc ⟨Cn,[(fld,en a)]⟩):Option (TO α β ρ)) else none)
  by_cases q:x.C=Cn
  ·rw[if_pos q,if_pos q];exact av hr fun a=>aa rfl
  ·rw[if_neg q,if_neg q];exact fun b e=>by cases e
end
section
variable {A B C:Type}
class Sq (A:Type) [En A] where
 dec:DecidableEq A
 dep:Nat
 ok:A->Bool
 dat: ∀a:A,(en a).dat=true
 depth: ∀a:A,(en a).pd.depth<=dep
 eqv: ∀a b:A,PyData.eqv (en a).pd (en b).pd=true↔a=b
 lay: ∀a:A,ok a=true->(en a).pd.canLay0=true
theorem Fu {d:PyData} (h:zq d=false):PyData.eqv .none d=false:=by
 cases d <;> first|rfl|exact absurd h (by decide)
theorem Fw {d:PyData} (h:zq d=false):PyData.eqv d .none=false:=by
 cases d <;> first|rfl|exact absurd h (by decide)
instance instSqO [En A] [So A]:Sq (Option A) where
 dec:=letI:DecidableEq A:=So.dec;inferInstance
 dep:=So.dep A
 ok o:=match o with|none=>true|some a=>So.ok a
 dat o:=by
  cases o with
  |none=>rfl
  |some a=>exact So.dat a
 depth o:=by
  cases o with
  |none=>exact Nat.zero_le _
  |some a=>exact So.depth a
 eqv a b:=by
  cases a with
  |none=>
   cases b with
   |none=>exact⟨fun _=>rfl,fun _=>rfl⟩
   |some b=>
    show PyData.eqv .none (en b).pd=true↔_
    rw[Fu (So.noN b)]
    exact⟨(fun z=>by cases z),fun z=>by cases z⟩
  |some a=>
   cases b with
   |none=>
    show PyData.eqv (en a).pd .none=true↔_
    rw[Fw (So.noN a)]
    exact⟨(fun z=>by cases z),fun z=>by cases z⟩
   |some b=>
    show PyData.eqv (en a).pd (en b).pd=true↔_
    rw[So.eqv]
    exact⟨(fun z=>by rw[z]),fun z=>by cases z;rfl⟩
 lay o h:=by
  cases o with
  |none=>rfl
  |some a=>exact So.lay a h
instance instSqP [En A] [En B] [Sq A] [Sq B]:Sq (A×B) where
 dec:=@instDecidableEqProd A B Sq.dec Sq.dec
 dep:=max (Sq.dep A) (Sq.dep B)+1
 ok p:=Sq.ok p.1&&Sq.ok p.2
 dat p:=by
  show (D.dat (en p.1)&&(D.dat (en p.2)&&true))=true
  rw[Sq.dat,Sq.dat];rfl
 depth p:=by
  show max (en p.1).pd.depth (max (en p.2).pd.depth 0)+1<=_
  have:=Sq.depth p.1;have:=Sq.depth p.2;omega
 eqv p q:=by
  show (PyData.eqv (en p.1).pd (en q.1).pd&&(PyData.eqv (en p.2).pd (en q.2).pd&&true))=true↔_
  rw[Bool.and_true,Bool.and_eq_true,Sq.eqv,Sq.eqv]
  exact⟨fun h=>Prod.ext h.1 h.2,fun h=>by rw[h];exact⟨rfl,rfl⟩⟩
 lay p h:=by
  rw[Bool.and_eq_true] at h
  show ((en p.1).pd.canLay0&&((en p.2).pd.canLay0&&true))=true
  rw[Sq.lay _ h.1,Sq.lay _ h.2];rfl
def T.M5 [En A] [Sq A] (a b:A):Option Bool:=if (Sq.ok a&&Sq.ok b)=true then some (@decide (a=b) (Sq.dec a b)) else none
theorem M6 [En A] [Sq A] (hd:Sq.dep A<=64) {a b:A} (h:(Sq.ok a&&Sq.ok b)=true):D.ok2 (en a) (en b)=true:=by
 rw[Bool.and_eq_true] at h
 have sh: ∀{x:A},Sq.ok x=true->SeqAt.shaped (en x).pd=true:=fun {x} hx=>by
  unfold SeqAt.shaped
  rw[Sq.lay x hx,Bool.true_and,decide_eq_true_eq]
  exact Nat.le_trans (Sq.depth x) hd
 unfold D.ok2
 rw[Sq.dat,Sq.dat,sh h.1,sh h.2];rfl
theorem M7 [En A] [Sq A] (a b:A):PyData.eqv (en a).pd (en b).pd= @decide (a=b) (Sq.dec a b):=by
 rw[Bool.eq_iff_iff,Sq.eqv,@decide_eq_true_eq _ (Sq.dec a b)]
theorem Kg [En A] [Sq A] (hd:Sq.dep A<=64):fK D.eqD (T.M5:A->A->Option Bool):=fun a b c e=>by
 obtain⟨h,rfl⟩:=aM e
 show D.eqD (en a) (en b)=_
 unfold D.eqD
 rw[if_pos (M6 hd h)]
 show some (PyData.eqv (en a).pd (en b).pd)=_
 rw[M7];rfl
def T.Kh [En A] [So A] (a:Option A) (b:A):Option Bool:=T.M5 a (some b)
theorem Ki [En A] [So A] (hd:So.dep A<=64):fK D.eqD (T.Kh:Option A->A->Option Bool):=fun a b c e=>Kg (A:=Option A) hd a (some b) c e
instance instSoT5 {E F:Type} [En A] [En B] [En C] [En E] [En F] [So A] [So B] [So C] [So E] [So F]:So (T5 A B C E F) where
 dec:=@instDecidableEqT5 A B C E F So.dec So.dec So.dec So.dec So.dec
 lt p q:=@ite _ (p.a=q.a) (So.dec p.a q.a) (@ite _ (p.b=q.b) (So.dec p.b q.b) (@ite _ (p.c=q.c) (So.dec p.c q.c) (@ite _ (p.d=q.d) (So.dec p.d q.d) (@ite _ (p.e=q.e) (So.dec p.e q.e) false (So.lt p.e q.e)) (So.lt p.d q.d)) (So.lt p.c q.c)) (So.lt p.b q.b)) (So.lt p.a q.a)
 dep:=max (So.dep A) (max (So.dep B) (max (So.dep C) (max (So.dep E) (So.dep F))))+1
 ok p:=So.ok p.a&&So.ok p.b&&So.ok p.c&&So.ok p.d&&So.ok p.e
 dat p:=by
  show ((en p.a).dat&&((en p.b).dat&&((en p.c).dat&&((en p.d).dat&&((en p.e).dat&&true)))))=true
  rw[So.dat,So.dat,So.dat,So.dat,So.dat];rfl
 depth p:=by
  show max (en p.a).pd.depth (max (en p.b).pd.depth (max (en p.c).pd.depth (max (en p.d).pd.depth (max (en p.e).pd.depth 0))))+1<=_
  have:=So.depth p.a;have:=So.depth p.b;have:=So.depth p.c;have:=So.depth p.d;have:=So.depth p.e;omega
 al p q:=by
  show (PySem.W.alike (en p.a).pd (en q.a).pd&&(PySem.W.alike (en p.b).pd (en q.b).pd&&(PySem.W.alike (en p.c).pd (en q.c).pd&&(PySem.W.alike (en p.d).pd (en q.d).pd&&(PySem.W.alike (en p.e).pd (en q.e).pd&&true)))))=true
  rw[So.al,So.al,So.al,So.al,So.al];rfl
 eqv p q:=by
  show (PyData.eqv (en p.a).pd (en q.a).pd&&(PyData.eqv (en p.b).pd (en q.b).pd&&(PyData.eqv (en p.c).pd (en q.c).pd&&(PyData.eqv (en p.d).pd (en q.d).pd&&(PyData.eqv (en p.e).pd (en q.e).pd&&true)))))=true↔_
  rw[Bool.and_true,Bool.and_eq_true,Bool.and_eq_true,Bool.and_eq_true,Bool.and_eq_true,So.eqv,So.eqv,So.eqv,So.eqv,So.eqv]
  exact⟨(fun h=>by cases p;cases q;simp at h ⊢; exact h),fun h=>by rw[h];exact⟨rfl,rfl,rfl,rfl,rfl⟩⟩
 lt_ok p q:=by
  show PySem.W.dataLt (.tuple [(en p.a).pd,(en p.b).pd,(en p.c).pd,(en p.d).pd,(en p.e).pd]) (.tuple [(en q.a).pd,(en q.b).pd,(en q.c).pd,(en q.d).pd,(en q.e).pd])=_
  rw[PySem.W.dataLt_tuple]
  show hV _ _=_
  rw[bI,bI,bI,bI,bI,nM]
 lay p h:=by
  rw[Bool.and_eq_true,Bool.and_eq_true,Bool.and_eq_true,Bool.and_eq_true] at h
  show ((en p.a).pd.canLay0&&((en p.b).pd.canLay0&&((en p.c).pd.canLay0&&((en p.d).pd.canLay0&&((en p.e).pd.canLay0&&true)))))=true
  rw[So.lay _ h.1.1.1.1,So.lay _ h.1.1.1.2,So.lay _ h.1.1.2,So.lay _ h.1.2,So.lay _ h.2];rfl
 noN _:=rfl
instance {E F:Type} [En A] [En B] [En C] [En E] [En F]:NN (T5 A B C E F):=⟨fun _=>rfl⟩
end
end Sw
namespace Sw
open PySem PySem.Spec PyProof.Rows L2
structure Fv where
 d:D
instance:En Fv:=⟨Fv.d⟩
def FR.asB:FR->Option Bool
 | .ok (.bl b) []=>some b
 |_=>none
theorem M8 {m:Option FR}:Fo0 m (m.bind FR.asB):=fun b e=>by
 obtain⟨r,e1,e2⟩:=bind1 e
 subst e1
 unfold FR.asB at e2
 split at e2
 ·cases e2;rfl
 ·cases e2
theorem HH {m:Option FR} {b:Bool} (h:m=some (.ok (.bl b) [])):m.bind FR.asB=some b:=by subst h;rfl
def T.starts (u w:Str):Option Bool:=some (Txt.startswith u w)
theorem Fx:fK D.starts T.starts:=fun a b c e=>by cases e;rfl
section
variable [NmC] {P:Program} {w:World} {K:Frg} {mg:Str->Option Value} {base:Heap}
theorem Ef {x qual:Str} {st:Stmt} {fd:FuncData} {k k':Nat} {ps:List Str} {Fs:List D->Option FR} (F:Fun K x qual st (He.ga K x) fd) (ok:FnOk P w K mg base CX0 k (He.ga K x) fd ps (FSp K [.bo,.bo] (.rg .fz) Fs)) (b:Binds K fd ps []) (h:k<=k'):JA P w K mg base k' x Fs:=by
 refine⟨?_,fd,ps,ok.mono h,b⟩
 obtain⟨oc,od,kV,doc,pm,an,cdv,ct,osl,rfl,lk,hcode⟩:=F.ex
 exact⟨_,_,_,_,lk⟩
end
end Sw
namespace Sw
open PySem PySem.Spec PyProof.Rows L2
section
variable {A B S γ U δ E:Type}
def iR (re:A->Option (Xn ⊕ B)):List A->Option (Xn ⊕ List B)
 | []=>some (.inr [])
 |d::r=>(re d).bind fun x=>match x with
  | .inl z=>some (.inl z)
  | .inr y=>(iR re r).map (Sum.map id (y:: ·))
def HI (xs:Option (List A)) (re:A->Option (Xn ⊕ B)):Option (Xn ⊕ List B):=xs.bind fun ds=>if ds.length<=sizeLine then iR re ds else none
theorem yN [ES A S] [En B] {re:S->Option (Xn ⊕ D)} {re':A->Option (Xn ⊕ B)} (h: ∀a,TyS (re (es a)) (re' a)): ∀(xs:List A) (r:Xn ⊕ List B),iR re' xs=some r->pB re (xs.map es)=some (Sum.map id (List.map en) r)
 | [],r,e=>by cases e;rfl
 |x::xs,r,e=>by
  obtain⟨y,e1,e2⟩:=bind1 e
  have e3:=h x y e1
  rw[List.map_cons]
  unfold pB
  rw[e3]
  cases y with
  |inl z=>cases e2;rfl
  |inr y=>
   obtain⟨ys,e4,e5⟩:=cg e2
   subst e5
   show (pB re (xs.map es)).map (Sum.map id (en y:: ·))=_
   rw[yN h xs ys e4]
   cases ys <;> rfl
theorem M9 [ES A S] [En B] {m:Option (List S)} {t:Option (List A)} {re:S->Option (Xn ⊕ D)} {re':A->Option (Xn ⊕ B)} (q:TyS m t) (h: ∀a,TyS (re (es a)) (re' a)):TyS (lcX m re) (HI t re'):=fun r e=>by
 obtain⟨xs,e1,e2⟩:=bind1 e
 obtain⟨hz,e3⟩:=(show xs.length<=sizeLine/\iR re' xs=some r by
  by_cases z:xs.length<=sizeLine
  ·rw[if_pos z] at e2;exact⟨z,e2⟩
  ·rw[if_neg z] at e2;cases e2)
 have e4:=q xs e1
 unfold lcX
 rw[e4]
 show D5 re (xs.map es)=_
 unfold D5
 rw[List.length_map,if_pos hz,yN h xs r e3]
 cases r <;> rfl
def qT (step:γ->δ->Option (Xn ⊕ γ)):List δ->γ->Option (Xn ⊕ γ)
 | [],b=>some (.inr b)
 |d::r,b=>(step b d).bind fun x=>match x with
  | .inl z=>some (.inl z)
  | .inr b'=>qT step r b'
theorem Bi [ES γ U] [ES δ E] {step:U->E->Option (Xn ⊕ U)} {step':γ->δ->Option (Xn ⊕ γ)} (h: ∀b d,TyS (step (es b) (es d)) (step' b d)): ∀(xs:List δ) (b:γ),TyS (wJ step (xs.map es) (es b)) (qT step' xs b)
 | [],b=>aa rfl
 |x::xs,b=>by
  show TyS ((step (es b) (es x)).bind _) ((step' b x).bind _)
  refine av (h b x) fun r=> ?_
  cases r with
  |inl z=>exact aa rfl
  |inr b'=>exact Bi h xs b'
end
end Sw
namespace Sw
open PySem PySem.Spec PyProof.Rows L2
section
variable {A B S T U α β γ δ ρ C:Type}
def Kj (rc:Option (Xn ⊕ Bool)) (mA mB:Option (TO γ β ρ)) (k:γ->Option (TO α β ρ)):Option (TO α β ρ):=rc.bind fun r=>match r with
 | .inl z=>some (.exc z)
 | .inr c=>(if c=true then mA else mB).bind (A9 k)
theorem Bj [ES A S] [ES B T] {r:Option (Xn ⊕ S)} {r':Option (Xn ⊕ A)} {k:S->Option T} {k':A->Option B} (h:TyS r r') (hk: ∀a,TyS (k (es a)) (k' a)):TyS (bX r k) (bX r' k'):=av h fun x=>by
 cases x with
 |inl z=>exact aa rfl
 |inr a=>
  intro b e
  obtain⟨c,e1,e2⟩:=cg e
  subst e2
  show (k (es a)).map Sum.inr=_
  rw[hk a c e1]
  rfl
theorem Na {a a':Option Bool} {b b':Option (Xn ⊕ Bool)} (h:TyS a a') (hb:TyS b b'):TyS (orX a b) (orX a' b'):=av h fun c=>by
 cases c
 ·exact hb
 ·exact aa rfl
theorem Nb [ES α A] [ES β B] [ES γ C] [ER ρ] {c c':Option (Xn ⊕ Bool)} {x y:Option (Out C B)} {x' y':Option (TO γ β ρ)} {k:C->Option (Out A B)} {l:γ->Option (TO α β ρ)}
  (q:TyS c c') (hx:TyS x x') (hy:TyS y y') (h: ∀a,TyS (k (es a)) (l a)):TyS (ifX c x y k) (Kj c' x' y' l):=av q fun r=>by
 cases r with
 |inl z=>exact aa rfl
 |inr a=>
  cases a
  ·exact av hy fun o=>zz h o
  ·exact av hx fun o=>zz h o
end
end Sw
namespace Sw
open PySem PySem.Spec PyProof.Rows L2
section
variable {R A:Type}
def plX (r:R) (p:Option (Lz R (List A))) (t:Option Int):Option (Lz R A):=p.bind fun p=>t.bind fun i=>(p.get r).bind fun d=>(ixN d.length i).bind fun j=>if (d[j]?).isSome=true then some ⟨fun r=>(p.get r).bind fun d=>d[j]?,fun r a=>match p.get r with|some d=>p.put r (d.set j a)|none=>r⟩ else none
theorem Nc [En R] [En A] {s s':Sh} {r:R} {q:Option (List Stp)} {p:Option (Lz R (List A))} {m:Option D} {t:Option Int} (h:Fj s r q p (.ls s')) (g:TyS m t):Fj s r (Hb s (en r) q m) (plX r p t) s':=fun p0 e=>by
 obtain⟨p1,e1,e⟩:=bind1 e
 obtain⟨k,e2,e⟩:=bind1 e
 obtain⟨d,e3,e⟩:=bind1 e
 obtain⟨j,e4,e⟩:=bind1 e
 obtain⟨h5,rfl⟩:=aM e
 obtain⟨q0,f1,f2,a,f3,f4,f5⟩:=h p1 e1
 rw[e3] at f3;cases f3
 obtain⟨v,hv⟩:=Option.isSome_iff_exists.mp h5
 have hv':(d.map en)[j]? =some (en v):=by rw[List.getElem?_map,hv];rfl
 have g1:fj (en r) (q0++[.ix j])=some (en v):=by
  rw[pE,f4]
  show ((d.map en)[j]?).bind _=_
  rw[hv']
  exact so _
 have s1:shP s (q0++[.ix j])=some s':=by
  rw[lN q0 s _ _ f2]
  show shP s' []=_
  cases s' <;> rfl
 refine⟨q0++[.ix j],?_,s1,v,?_,g1,fun a'=> ?_⟩
 ·unfold Hb
  rw[f1,g k e2]
  show (match (D.int k),fj (en r) q0 with| .int n,some (.lst ds)=>(L2.ixN ds.length n).bind fun j=>EZ s (en r) (q0++[Stp.ix j])|_,_=>none)=_
  rw[f4]
  show (L2.ixN (d.map en).length k).bind (fun j=>EZ s (en r) (q0++[Stp.ix j]))=_
  rw[List.length_map,e4]
  show EZ s (en r) (q0++[Stp.ix j])=_
  unfold EZ
  rw[s1,g1];rfl
 ·show (p1.get r).bind _=_
  rw[e3];exact hv
 ·rw[pF q0 _ _ _ _ f4]
  have:cG (en d) [.ix j] (en a')=en (d.set j a'):=by
   show (match (d.map en)[j]? with|some x=>D.lst ((d.map en).set j (cG x [] (en a')))|none=>.lst (d.map en))=_
   rw[hv']
   show D.lst ((d.map en).set j (cG (en v) [] (en a')))=D.lst ((d.set j a').map en)
   rw[wU,List.map_set]
  rw[this,f5]
  show _=en (match p1.get r with|some d=>p1.put r (d.set j a')|none=>r)
  rw[e3]
end
end Sw
namespace Sw
open PySem PySem.Spec PyProof.Rows L2
section
variable {A U γ δ E:Type}
def HJ {γ δ:Type} (xs:Option (List δ)) (step:γ->δ->Option (Xn ⊕ γ)) (b:γ):Option (Xn ⊕ γ):=xs.bind fun ds=>qT step ds b
theorem HK [ES γ U] [ES δ E] {m:Option (List E)} {t:Option (List δ)} {step:U->E->Option (Xn ⊕ U)} {step':γ->δ->Option (Xn ⊕ γ)} {b:γ} {b0:U} (q:TyS m t) (h: ∀b d,TyS (step (es b) (es d)) (step' b d)) (e:b0=es b):TyS (Hc m step b0) (HJ t step' b):=by
 subst e
 exact av q fun ds=>Bi h ds b
theorem Kk [En A] {xs:List A} {x:A}:TyS ((D.app (en xs) (en x)).map (·.2)) ((T.app xs x).map (·.2)):=fun c e=>by
 obtain⟨r,e1,e2⟩:=cg e
 subst e2
 rw[J5 r e1]
 rfl
end
def T.Kl (o:Option Fv) (_:Unit):Option Bool:=match o with
 |none=>some true
 |some f=>D.isN f.d
theorem Km:fK D.uV T.Kl:=fun o a c e=>by
 show D.isN (en o)=_
 cases o with
 |none=>cases e;rfl
 |some f=>exact e
end Sw
namespace Sw
open PySem PySem.Spec PyProof.Rows L2
section
variable {A B C E F K R S α β γ δ ρ:Type}
theorem big:16777000<=sizeLine:=zx
namespace T
@[simp] theorem eW (a b:Int):bP a b=some (a+b):=rfl
@[simp] theorem zO (a b:Int):rP a b=some (a -b):=rfl
@[simp] theorem Eg (a:Int):rR a=some (-a):=rfl
theorem qP {a b:Int} (h1: -18446744073709551616<a) (h2:a<18446744073709551616):ju a b=some (a*b):=by
 unfold ju;rw[if_pos (D6 (by simpa using h1) (by simpa using h2))]
theorem jH {a b:Int} (h:0<b) (h2:b<1073741824):hJ a b=some (a/b):=k8 ⟨h,h2⟩
theorem bE {a b:Int} (h:0<b):bT a b=some (a%b):=k8 h
@[simp] theorem wX (a b:Int):ltI a b=some (decide (a<b)):=rfl
@[simp] theorem CT (a b:Int):leI a b=some (decide (a<=b)):=rfl
@[simp] theorem wY (a b:Int):gtI a b=some (decide (b<a)):=rfl
@[simp] theorem QG (a b:Int):geI a b=some (decide (b<=a)):=rfl
@[simp] theorem da [DecidableEq A] (a b:A):eqA a b=some (decide (a=b)):=rfl
@[simp] theorem wZ [DecidableEq A] (a b:A):neA a b=some (!decide (a=b)):=rfl
@[simp] theorem QH (a b:Str):ltS a b=some (decide (cD a b)):=rfl
@[simp] theorem Nf (a b:Str):leS a b=some (!decide (cD b a)):=rfl
@[simp] theorem QI (a b:Str):gtS a b=some (decide (cD b a)):=rfl
@[simp] theorem QJ (a b:Str):geS a b=some (!decide (cD a b)):=rfl
theorem zP {a b:Str} (h:a.length+b.length<=sizeLine):iJ a b=some (a++b):=if_pos h
@[simp] theorem PU (a b:Int):min2 a b=some (if b<a then b else a):=rfl
@[simp] theorem PV (a b:Int):max2 a b=some (if b>a then b else a):=rfl
@[simp] theorem ON (a b:Str):K1 a b=some (if cD b a then b else a):=rfl
@[simp] theorem OO (a b:Str):K3 a b=some (if cD a b then b else a):=rfl
@[simp] theorem PZ (a:A) (b:B):pair a b=some (a,b):=rfl
@[simp] theorem QK (a:A) (b:B) (c:C):tri a b c=some ⟨a,b,c⟩:=rfl
@[simp] theorem QL (a:A) (b:B) (c:C) (d:E):qua a b c d=some ⟨a,b,c,d⟩:=rfl
@[simp] theorem QM (a:A) (b:B) (c:C) (d:E) (e:F):qui a b c d e=some ⟨a,b,c,d,e⟩:=rfl
@[simp] theorem l8 (a:A) (r:List A):T.cons (some a) (some r)=some (a::r):=rfl
theorem w7 {r:List A} (h:r.length<=sizeLine):T.lst (some r)=some r:=if_pos h
@[simp] theorem HL (a:A):T.lst (some [a])=some [a]:=w7 (Nat.le_trans (by simp) big)
@[simp] theorem OP (a b:A):T.lst (some [a,b])=some [a,b]:=w7 (Nat.le_trans (by simp) big)
@[simp] theorem Ld (a b c:A):T.lst (some [a,b,c])=some [a,b,c]:=w7 (Nat.le_trans (by simp) big)
@[simp] theorem OQ (a b c d:A):T.lst (some [a,b,c,d])=some [a,b,c,d]:=w7 (Nat.le_trans (by simp) big)
theorem Kn {n:Nat} {i:Int} (h0:0<=i) (h1:i<n):ixN n i=some i.toNat:=by unfold ixN;rw[if_pos h0,if_pos h1]
theorem p7 {xs:List A} {i:Int} (h0:0<=i) (h1:i<xs.length):atL xs i=some (xs[i.toNat]'(by omega)):=by
 unfold atL
 rw[atI_nat h0 h1,List.getElem?_eq_getElem]
theorem Ko {xs:Scr} {i:Int} (h0:0<=i) (h1:i<xs.l.length):atC xs i=some (xs.l[i.toNat]'(by omega)):=by
 unfold atC
 rw[atI_nat h0 h1,List.getElem?_eq_getElem]
@[simp] theorem qc (xs:List A):mq xs=some (xs.length:Int):=rfl
@[simp] theorem P0 (xs:Scr):AL xs=some (xs.l.length:Int):=rfl
@[simp] theorem P1 (d:Sd A):IW d=some (d.l.length:Int):=rfl
theorem Kq {x:Str} (h:x.length<=sizeLine):o7 x=some (x.length:Int):=if_pos h
theorem sx {xs ys:List A} (h:xs.length+ys.length<=sizeLine):qj xs ys=some (xs++ys):=if_pos h
@[simp] theorem qd (xs:List A) (lo hi:Option Int):T.dJ xs lo hi=some (Sw.dJ xs lo hi):=rfl
@[simp] theorem P2 (xs:Scr) (lo hi:Option Int):T.LW xs lo hi=some (Sw.dJ xs.l lo hi):=rfl
@[simp] theorem zQ (i:Int):T.toI i=some (some i):=rfl
@[simp] theorem rev_eq (xs:List A):T.rev xs=some xs.reverse:=rfl
@[simp] theorem QN (xs:List A) (ys:List B):T.zip xs ys=some (xs.zip ys):=rfl
@[simp] theorem P4 (xs:List Int):Ol xs=some xs.sum:=rfl
theorem vL {n:Int} (h0: -4611686018427387904<=n) (h:n<4611686018427387904):qk n=some ((List.range n.toNat).map fun i:Nat=>(i:Int)):=by
 unfold qk
 rw[if_pos]
 unfold okR
 exact @decide_eq_true _ (Classical.propDecidable _) ⟨by omega,by omega⟩
@[simp] theorem vM (x:Str):tv x=some (sgs x):=rfl
@[simp] theorem Rf [DecidableEq A] (a:A) (xs:List A):inA true a xs=some (!decide (a∈xs)):=rfl
@[simp] theorem OR [DecidableEq A] (a:A) (xs:List A):inA false a xs=some (decide (a∈xs)):=rfl
@[simp] theorem P5 (d:Sd A) (x:Str):IU d x=aG d.l x:=rfl
@[simp] theorem QO (d:Sd A) (x:Str):inK x d=some (aG d.l x).isSome:=rfl
@[simp] theorem P6 (d:Sd A) (x:Str):IV x d=some (!(aG d.l x).isSome):=rfl
@[simp] theorem OS (d:Sd A):K0 d=some (d.l.map (·.1)):=rfl
@[simp] theorem OT (d:Sd A):items d=some d.l:=rfl
@[simp] theorem P7 (d:Sd A):vals d=some (d.l.map (·.2)):=rfl
theorem w8 {xs:List A} {x:A} (h:xs.length<sizeLine):app xs x=some ((),xs++[x]):=if_pos h
@[simp] theorem QP (xs:List A):clr xs=some ((),[]):=rfl
@[simp] theorem QQ (xs:List A):rvs xs=some ((),xs.reverse):=rfl
@[simp] theorem P8 (d:Sd A):QF d=some ((),⟨[]⟩):=rfl
@[simp] theorem Rh (r:R) (f:R->Option (C×R)):at0 r (some plR) f=f r:=by
 show (f r).bind _=_
 cases f r <;> rfl
@[simp] theorem HM (r:R) (x:B) (f:R->B->Option (C×R)):at1 r (some plR) (some x) f=f r x:=by
 show (f r x).bind _=_
 cases f r x <;> rfl
@[simp] theorem Ri (r:R) (x:B) (y:E) (f:R->B->E->Option (C×R)):at2 r (some plR) (some x) (some y) f=f r x y:=by
 show (f r x y).bind _=_
 cases f r x y <;> rfl
theorem CU {r:List A} {x:A} {i:Int} (h0:0<=i) (h1:i<r.length):Fl r (some x) (some plR) (some i)=some (r.set i.toNat x):=by
 unfold Fl plR
 simp[Kn h0 h1]
theorem HP [En A] [So A] {a b:A} (h:So.ok a=true) (g:So.ok b=true):eqD a b=some (@decide (a=b) (So.dec a b)):=by unfold eqD;rw[h,g];rfl
end T
@[simp] theorem aP (c:Bool) (x y:Option (TO γ β ρ)) (k:γ->Option (TO α β ρ)):c9 (some c) x y k=(if c=true then x else y).bind (A9 k):=rfl
@[simp] theorem N4 (c:Bool) (x y:Option A):QD (some c) x y=if c=true then x else y:=rfl
@[simp] theorem bc (k:γ->Option (TO α β ρ)) (a:γ):A9 k (.nx a)=k a:=rfl
@[simp] theorem P9 (k:γ->Option (TO α β ρ)) (a:β):A9 k (.bk a)=some (.bk a):=rfl
@[simp] theorem Qa (k:γ->Option (TO α β ρ)) (a:β):A9 k (.ct a)=some (.ct a):=rfl
@[simp] theorem OU (k:γ->Option (TO α β ρ)) (a:ρ):A9 k (.ret a)=some (.ret a):=rfl
@[simp] theorem sy (k:γ->Option (TO α β ρ)) (a:γ):Cv k (.fin a)=k a:=rfl
@[simp] theorem OV (k:γ->Option (TO α β ρ)) (a:ρ):Cv k (.ret a)=some (.ret a):=rfl
@[simp] theorem OW (k:γ->Option (TO α β ρ)) (a:γ):JT k (.fin a)=k a:=rfl
@[simp] theorem OX (k:γ->Option (TO α β ρ)) (a:ρ):JT k (.ret a)=some (.ret a):=rfl
@[simp] theorem dB (ds:List δ) (step:γ->δ->Option (TO γ γ ρ)) (b0:γ) (k:γ->Option (TO α β ρ)):oO (some ds) step b0 k=(cY step ds b0).bind (Cv k):=rfl
@[simp] theorem Ng (ds:List δ) (step:γ->δ->Option (TO γ γ ρ)) (b0:γ) (k:γ->Option (TO α β ρ)):OI (some ds) step b0 k=(cY step ds b0).bind (JT k):=rfl
@[simp] theorem yO (a:A) (f:A->ρ):(b8 (some a) f:Option (TO α β ρ))=some (.ret (f a)):=rfl
@[simp] theorem Kr (r:R0 A):tF0 (some (.ret r))=some r.v:=rfl
@[simp] theorem Qb (r:R1 A B):tF1 (some (.ret r))=some (r.v,r.o):=rfl
@[simp] theorem Qc (r:R2' A B C):tF2 (some (.ret r))=some (r.v,r.o,r.p):=rfl
@[simp] theorem Qd (r:R3 A B C E):tF3 (some (.ret r))=some (r.v,r.o,r.p,r.q):=rfl
theorem CV {xs:List A} {rt:A->Option Bool} {re:A->Option B} (p:A->Bool) (g:A->B) (hl:xs.length<=sizeLine) (h1: ∀x∈xs,rt x=some (p x)) (h2: ∀x∈xs,p x=true->re x=some (g x)):tlc (some xs) rt re=some ((xs.filter p).map g):=by
 unfold tlc
 rw[Option.bind_some,if_pos hl]
 clear hl
 induction xs with
 |nil=>rfl
 |cons x xs ih=>
  have ih:=ih (fun y hy=>h1 y (List.mem_cons_of_mem _ hy)) (fun y hy=>h2 y (List.mem_cons_of_mem _ hy))
  unfold wQ
  rw[h1 x List.mem_cons_self,Option.bind_some]
  cases hp:p x with
  |true=>rw[if_pos rfl,h2 x List.mem_cons_self hp,Option.bind_some,ih,List.filter_cons_of_pos hp];rfl
  |false=>rw[if_neg Bool.false_ne_true,ih,List.filter_cons_of_neg (by simp[hp])]
theorem zR {xs:List A} {re:A->Option B} (g:A->B) (hl:xs.length<=sizeLine) (h2: ∀x∈xs,re x=some (g x)):tlc (some xs) (fun _=>some true) re=some (xs.map g):=by
 rw[CV (fun _=>true) g hl (fun _ _=>rfl) (fun x hx _=>h2 x hx),List.filter_eq_self.mpr (fun _ _=>rfl)]
theorem Bk {step:γ->δ->Option (TO γ γ ρ)} {xs:List δ} (I:List δ->γ->Prop) {b0:γ} (h0:I [] b0) (hs: ∀pre x post b,xs=pre++x::post->I pre b-> ∃b',(step b x=some (.nx b')\/step b x=some (.ct b'))/\I (pre++[x]) b'): ∃b',cY step xs b0=some (.fin b')/\I xs b':=by
 have key: ∀(ys pre:List δ) (b:γ),xs=pre++ys->I pre b-> ∃b',cY step ys b=some (.fin b')/\I xs b':=by
  intro ys
  induction ys with
  |nil=>intro pre b e h;rw[List.append_nil] at e;subst e;exact⟨b,rfl,h⟩
  |cons y ys ih=>
   intro pre b e h
   obtain⟨b1,e1,h1⟩:=hs pre y ys b e h
   obtain⟨b2,e2,h2⟩:=ih (pre++[y]) b1 (by rw[e,List.append_assoc];rfl) h1
   refine⟨b2,?_,h2⟩
   unfold cY
   rcases e1 with e1|e1 <;> (rw[e1];exact e2)
 exact key xs [] b0 rfl h0
theorem HQ {step:γ->Int->Option (TO γ γ ρ)} (I:Nat->γ->Prop) {n:Nat} {b0:γ} (h0:I 0 b0) (hs: ∀i:Nat,i<n-> ∀b,I i b-> ∃b',(step b (i:Int)=some (.nx b')\/step b (i:Int)=some (.ct b'))/\I (i+1) b'): ∃b',cY step ((List.range n).map fun i:Nat=>(i:Int)) b0=some (.fin b')/\I n b':=by
 obtain⟨b',e,h⟩:=Bk (step:=step) (xs:=(List.range n).map fun i:Nat=>(i:Int)) (fun pre b=>I pre.length b) h0 fun pre x post b e h=>by
  have hl:=congrArg List.length e
  simp at hl
  have hx:x=(pre.length:Int):=by
   have:=congrArg (fun l=>l[pre.length]?) e
   simp at this
   obtain⟨m,hm1,hm2⟩:=this
   rw[List.getElem?_range (by omega)] at hm1
   simp at hm1;omega
  subst hx
  obtain⟨b',e1,h1⟩:=hs pre.length (by omega) b h
  exact⟨b',e1,by simpa using h1⟩
 exact⟨b',e,by simpa using h⟩
end
end Sw
namespace Sw
open PySem PySem.Spec PyProof.Rows L2
abbrev Wb:=Sd (Sd Int)
def pb (w:Wb) (x:Str):List (Str×Int):=match aG w.l x with
 |some r=>r.l
 |none=>[]
def wk (w:Wb) (x y:Str):Option Int:=aG (pb w x) y
structure iK (ns:List Str) (w:Wb):Prop where
 keys:w.l.map (·.1)=ns
 rows: ∀x,((pb w x).map (·.1)).Nodup
 sym: ∀x y v,wk w x y=some v->wk w y x=some v
 irr: ∀x,wk w x x=none
 rng: ∀x y v,wk w x y=some v->1<=v/\v<=1000000000000
def Eh (w:Wb) (x y:Str) (v:Int):Wb:=⟨bW (bW w.l x ⟨bW (pb w x) y v⟩) y ⟨bW (pb w y) x v⟩⟩
section
variable {ns:List Str} {w:Wb} {x y:Str} {v:Int}
theorem Ei {r:Sd Int} (h:aG w.l x=some r):pb w x=r.l:=by unfold pb;rw[h]
theorem OY {r:Sd Int} (h:aG w.l x=some r) (y:Str):wk w x y=aG r.l y:=by unfold wk;rw[Ei h]
theorem Le {w:Wb} {x y:Str} {v:Int} (h:wk w x y=some v): ∃r,aG w.l x=some r/\aG r.l y=some v:=by
 unfold wk pb at h
 cases e:aG w.l x with
 |none=>rw[e] at h;cases h
 |some r=>rw[e] at h;exact⟨r,rfl,h⟩
theorem yP (w:Wb) (x:Str) (r:Sd Int) (a:Str):pb ⟨bW w.l x r⟩ a=if a=x then r.l else pb w a:=by
 unfold pb
 rw[fE]
 by_cases e:a=x
 ·rw[if_pos e,if_pos e]
 ·rw[if_neg e,if_neg e]
theorem iK.has (h:iK ns w):(aG w.l x).isSome=true↔x∈ns:=by rw[l4,h.keys]
theorem iK.get (h:iK ns w) (hx:x∈ns): ∃r,aG w.l x=some r:=Option.isSome_iff_exists.mp (h.has.mpr hx)
theorem iK.inl (h:iK ns w) (e:wk w x y=some v):x∈ns:=by
 obtain⟨r,e1,_⟩:=Le e
 exact h.has.mp (by rw[e1];rfl)
theorem iK.inside (h:iK ns w) (e:wk w x y=some v):x∈ns/\y∈ns:=⟨h.inl e,h.inl (h.sym _ _ _ e)⟩
theorem iK.ne (h:iK ns w) (e:wk w x y=some v):x≠y:=fun q=>by subst q;rw[h.irr] at e;cases e
theorem iK.len (h:iK ns w):w.l.length=ns.length:=by rw[<-h.keys];simp
theorem w9 (hxy:x≠y) (a:Str):pb (Eh w x y v) a=if a=y then bW (pb w y) x v else if a=x then bW (pb w x) y v else pb w a:=by
 unfold Eh
 rw[show (⟨bW (bW w.l x ⟨bW (pb w x) y v⟩) y ⟨bW (pb w y) x v⟩⟩:Wb)=⟨bW (⟨bW w.l x ⟨bW (pb w x) y v⟩⟩:Wb).l y ⟨bW (pb w y) x v⟩⟩ from rfl,yP,yP]
theorem xg (hxy:x≠y) (a b:Str):wk (Eh w x y v) a b=if (a=x/\b=y)\/(a=y/\b=x) then some v else wk w a b:=by
 unfold wk
 rw[w9 hxy]
 by_cases ha:a=y
 ·subst ha
  rw[if_pos rfl,fE]
  by_cases hb:b=x
  ·rw[if_pos hb,if_pos (.inr ⟨rfl,hb⟩)]
  ·rw[if_neg hb,if_neg (by rintro (⟨e,_⟩|⟨_,e⟩);exact hxy e.symm;exact hb e)]
 ·rw[if_neg ha]
  by_cases hx:a=x
  ·subst hx
   rw[if_pos rfl,fE]
   by_cases hb:b=y
   ·rw[if_pos hb,if_pos (.inl ⟨rfl,hb⟩)]
   ·rw[if_neg hb,if_neg (by rintro (⟨_,e⟩|⟨e,_⟩);exact hb e;exact ha e)]
  ·rw[if_neg hx,if_neg (by rintro (⟨e,_⟩|⟨e,_⟩);exact hx e;exact ha e)]
theorem Fy {r s:Sd Int} (hk:w.l.map (·.1)=ns) (hx:x∈ns) (hy:y∈ns):(bW (bW w.l x r) y s).map (·.1)=ns:=by
 rw[eV,eV,hk]
 ·rw[hk];exact hx
 ·rw[eV (by rw[hk];exact hx),hk];exact hy
theorem iK.join (h:iK ns w) (hx:x∈ns) (hy:y∈ns) (hxy:x≠y) (hv:1<=v/\v<=1000000000000):iK ns (Eh w x y v) where
 keys:=Fy h.keys hx hy
 rows:=fun a=>by
  rw[w9 hxy]
  split
  ·exact g9 (h.rows y)
  ·split
   ·exact g9 (h.rows x)
   ·exact h.rows a
 sym:=fun a b u e=>by
  rw[xg hxy] at e⊢
  split at e
  ·rename_i q
   rw[if_pos (q.symm.imp And.symm And.symm)];exact e
  ·rename_i q
   rw[if_neg (fun z=>q (z.symm.imp And.symm And.symm))];exact h.sym _ _ _ e
 irr:=fun a=>by
  rw[xg hxy,if_neg (by rintro (⟨e,f⟩|⟨e,f⟩);exact hxy (e.symm.trans f);exact hxy (f.symm.trans e))]
  exact h.irr a
 rng:=fun a b u e=>by
  rw[xg hxy] at e
  split at e
  ·cases e;exact hv
  ·exact h.rng _ _ _ e
end
theorem bg (xs:List Str):(qM xs).Perm xs:=List.mergeSort_perm _ _
theorem zS (xs:List Str):(qM xs).Pairwise (fun a b=>sLe a b=true):=List.pairwise_mergeSort E5 E6 xs
theorem zT {xs:List Str} (h:xs.Nodup):(qM xs).Pairwise cD:=by
 have h1:=zS xs
 have h2:(qM xs).Nodup:=(bg xs).nodup_iff.mpr h
 rw[List.nodup_iff_pairwise_ne] at h2
 refine (h1.and h2).imp fun {a b} ⟨h,g⟩=> ?_
 rw[JQ] at h
 rcases nB a b with e|e|e
 ·exact e
 ·exact absurd e g
 ·exact absurd e h
theorem yQ (xs:List Str):(qM xs).length=xs.length:=(bg xs).length_eq
theorem xh {α:Type} {lt:α->α->Prop} (ir: ∀a,¬lt a a) (tr: ∀a b c,lt a b->lt b c->lt a c): ∀{xs ys:List α},xs.Pairwise lt->ys.Pairwise lt->(∀a,a∈xs↔a∈ys)->xs=ys
 | [],[],_,_,_=>rfl
 | [],y::ys,_,_,h=>absurd ((h y).mpr List.mem_cons_self) (by simp)
 |x::xs,[],_,_,h=>absurd ((h x).mp List.mem_cons_self) (by simp)
 |x::xs,y::ys,hx,hy,h=>by
  rw[List.pairwise_cons] at hx hy
  have e:x=y:=by
   have h1:=(h x).mp List.mem_cons_self
   have h2:=(h y).mpr List.mem_cons_self
   rcases List.mem_cons.mp h1 with e|h1
   ·exact e
   ·rcases List.mem_cons.mp h2 with e|h2
    ·exact e.symm
    ·exact absurd (tr _ _ _ (hx.1 y h2) (hy.1 x h1)) (ir _)
  subst e
  congr 1
  refine xh ir tr hx.2 hy.2 fun a=>⟨fun m=> ?_,fun m=> ?_⟩
  ·rcases List.mem_cons.mp ((h a).mp (List.mem_cons_of_mem _ m)) with e|q
   ·subst e;exact absurd (hx.1 a m) (ir a)
   ·exact q
  ·rcases List.mem_cons.mp ((h a).mpr (List.mem_cons_of_mem _ m)) with e|q
   ·subst e;exact absurd (hy.1 a m) (ir a)
   ·exact q
theorem risingS {xs ys:List Str} (hx:xs.Pairwise cD) (hy:ys.Pairwise cD) (h: ∀a,a∈xs↔a∈ys):xs=ys:=xh dA (fun _ _ _=>mR) hx hy h
theorem Qe {ps:List (Str×Str)} (h:ps.Pairwise pLt):Fh ps=ps:=List.mergeSort_of_pairwise (h.imp fun {a b} h=>by unfold pLe;simp only[Bool.not_eq_true',decide_eq_false_iff_not];exact fun g=>nF _ (p8 h g))
theorem HR {ps:List (Str×Str)} (h:ps.Nodup):(Fh ps).Pairwise pLt:=by
 have h1:=A8 ps
 have h2:(Fh ps).Nodup:=(tI ps).nodup_iff.mpr h
 rw[List.nodup_iff_pairwise_ne] at h2
 refine (h1.and h2).imp fun {a b} ⟨h,g⟩=> ?_
 unfold pLe at h
 simp only[Bool.not_eq_true',decide_eq_false_iff_not] at h
 rcases zy a b with e|e|e
 ·exact e
 ·exact absurd e g
 ·exact absurd e h
def gG (ps:List (Str×Str)):Prop:=(bA ps).Nodup
theorem ends_app (a b:List (Str×Str)):bA (a++b)=bA a++bA b:=List.flatMap_append
theorem xo (a:List (Str×Str)):(bA a).length=2*a.length:=by
 induction a with
 |nil=>rfl
 |cons p a ih=>unfold bA at *; rw[List.flatMap_cons,List.length_append,ih];simp;omega
theorem Ks {pre:List (Str×Str)} {q:Str×Str} (h:q∈pre):q.1∈bA pre/\q.2∈bA pre:=
 ⟨List.mem_flatMap.mpr ⟨q,h,by simp⟩,List.mem_flatMap.mpr ⟨q,h,by simp⟩⟩
theorem fm {pre:List (Str×Str)} {x:Str}:x∈bA pre↔ ∃q∈pre,x=q.1\/x=q.2:=by
 unfold bA
 rw[List.mem_flatMap]
 simp
theorem sA: ∀{ps:List (Str×Str)},gG ps->ps.Nodup
 | [],_=>List.nodup_nil
 |p::ps,h=>by
  unfold gG at h
  rw[show bA (p::ps)=[p.1,p.2]++bA ps from rfl,List.nodup_append] at h
  exact List.nodup_cons.mpr ⟨fun m=>h.2.2 p.1 (by simp) p.1 (Ks m).1 rfl,sA h.2.1⟩
theorem Bl {ps qs:List (Str×Str)} (p:ps.Perm qs) (h:gG ps):gG qs:=(List.Perm.flatMap_right (fun p:Str×Str=>[p.1,p.2]) p).nodup_iff.mp h
theorem lF {ps:List (Str×Str)} (h:gG ps) {p q:Str×Str} (hp:p∈ps) (hq:q∈ps) {x:Str} (h1:x=p.1\/x=p.2) (h2:x=q.1\/x=q.2):p=q:=by
 induction ps with
 |nil=>cases hp
 |cons a ps ih=>
  unfold gG at h
  rw[show bA (a::ps)=[a.1,a.2]++bA ps from rfl,List.nodup_append] at h
  rcases List.mem_cons.mp hp with e1|hp
  ·rcases List.mem_cons.mp hq with e2|hq
   ·rw[e1,e2]
   ·exact absurd rfl (h.2.2 x (by rw[<-e1];simpa using h1) x (fm.mpr ⟨q,hq,h2⟩))
  ·rcases List.mem_cons.mp hq with e2|hq
   ·exact absurd rfl (h.2.2 x (by rw[<-e2];simpa using h2) x (fm.mpr ⟨p,hp,h1⟩))
   ·exact ih h.2.1 hp hq
structure Plan (w:Wb) (ps:List (Str×Str)):Prop where
 rise:ps.Pairwise pLt
 apart:gG ps
 lt: ∀p∈ps,cD p.1 p.2
 swap: ∀p∈ps,∃v,wk w p.1 p.2=some v
end Sw
namespace Sw
open PySem PySem.Spec PyProof.Rows L2
def mix (c k:Int):Int:=
 let n:=(c%2147483629*48271+7919*k+104729)%2147483629
 let m:=n*n%2147483629
 (m+k)*(m+k)%2147483587
def pl (c:Int):List Int:=(List.range 8).map fun j:Nat=>mix c (10+(j:Int))%26
def CW (c:Int):Int:=mix c 7%8
def QR (c:Int) (k:Nat):List Int:=if c%3<2 then (pl c).set (CW c).toNat (((pl c).getD (CW c).toNat 0+k)%26) else (pl c).set 0 (((pl c).getD 0 0+(k:Int)/8)%26)
def QS (c:Int) (k:Nat):Int:=if c%3<2 then (if c%3=1 then CW c+1+mix c (30+(k:Int))%(8 -CW c) else CW c+1+c/3%(8 -CW c)) else 1+(CW c+k)%8
def nm (c:Int) (k:Nat):Str:=⟨(((QR c k).take (QS c k).toNat).map fun p=>97+p.toNat).toArray⟩
end Sw
namespace Sw
open PySem PySem.Spec PyProof.Rows L2
def nP (e:Str×Str):Str×Str:=(if cD e.2 e.1 then e.2 else e.1,if cD e.1 e.2 then e.2 else e.1)
theorem xp {e:Str×Str} (h:cD e.1 e.2):nP e=e:=by
 unfold nP;rw[if_neg (tH h),if_pos h]
theorem Ej {e:Str×Str} (h:cD e.2 e.1):nP e=(e.2,e.1):=by
 unfold nP;rw[if_pos h,if_neg (tH h)]
theorem vN (x y:Str):nP (x,y)=nP (y,x):=by
 rcases nB x y with h|h|h
 ·rw[xp h,Ej (e:=(y,x)) h]
 ·rw[h]
 ·rw[Ej (e:=(x,y)) h,xp (e:=(y,x)) h]
theorem yR {e:Str×Str} (h:e.1≠e.2):(nP e=e/\cD e.1 e.2)\/(nP e=(e.2,e.1)/\cD e.2 e.1):=by
 rcases nB e.1 e.2 with g|g|g
 ·exact .inl ⟨xp g,g⟩
 ·exact absurd g h
 ·exact .inr ⟨Ej g,g⟩
theorem Ku {e:Str×Str} (h:e.1≠e.2):cD (nP e).1 (nP e).2:=by
 rcases yR h with ⟨g,k⟩|⟨g,k⟩ <;> (rw[g];exact k)
theorem kQ {e:Str×Str} (h:e.1≠e.2) {x:Str}:(x=(nP e).1\/x=(nP e).2)↔(x=e.1\/x=e.2):=by
 rcases yR h with ⟨g,k⟩|⟨g,k⟩
 ·rw[g]
 ·rw[g];exact Or.comm
def mt (P:List (Str×Str)) (x y:Str):Prop:=(x,y)∈P\/(y,x)∈P
instance (P:List (Str×Str)) (x y:Str):Decidable (mt P x y):=inferInstanceAs (Decidable (_\/_))
theorem nO {P:List (Str×Str)} {x y:Str} (h:mt P x y):mt P y x:=h.symm
theorem qU {w:Wb} {P:List (Str×Str)} (hP:Plan w P) {x y z:Str} (h:mt P x y) (g:mt P x z):y=z:=by
 have ne: ∀p∈P,p.1≠p.2:=fun p hp e=>dA p.2 (by have:=hP.lt p hp;rwa[e] at this)
 rcases h with h|h <;> rcases g with g|g
 ·have:=lF hP.apart h g (x:=x) (.inl rfl) (.inl rfl);exact congrArg Prod.snd this
 ·have:=lF hP.apart h g (x:=x) (.inl rfl) (.inr rfl)
  have e1:x=z:=congrArg Prod.fst this
  have e2:y=x:=congrArg Prod.snd this
  rw[e2,e1]
 ·have:=lF hP.apart h g (x:=x) (.inr rfl) (.inl rfl)
  have e1:y=x:=congrArg Prod.fst this
  have e2:x=z:=congrArg Prod.snd this
  rw[e1,e2]
 ·have:=lF hP.apart h g (x:=x) (.inr rfl) (.inr rfl);exact congrArg Prod.fst this
theorem xq {w:Wb} {P:List (Str×Str)} (hP:Plan w P) {x y:Str} (h:mt P x y):x≠y:=fun e=>by
 subst e
 rcases h with h|h <;> exact dA x (hP.lt _ h)
theorem uz {w:Wb} {P:List (Str×Str)} (hP:Plan w P) {e:Str×Str} (he:e.1≠e.2):nP e∈P↔mt P e.1 e.2:=by
 constructor
 ·intro h
  rcases yR he with ⟨g,k⟩|⟨g,k⟩
  ·rw[g] at h;exact .inl h
  ·rw[g] at h;exact .inr h
 ·rintro (h|h)
  ·rw[xp (hP.lt _ h)];exact h
  ·rw[Ej (hP.lt _ h)];exact h
theorem xr: ∀{xs:List (Str×Str)},xs.Nodup->(∀p∈xs,p.1≠p.2)->(∀p∈xs,∀q∈xs,∀x,(x=p.1\/x=p.2)->(x=q.1\/x=q.2)->p=q)->gG xs
 | [],_,_,_=>List.nodup_nil
 |p::xs,h1,h2,h3=>by
  rw[List.nodup_cons] at h1
  have ih:=xr h1.2 (fun q hq=>h2 q (List.mem_cons_of_mem _ hq)) (fun q hq r hr=>h3 q (List.mem_cons_of_mem _ hq) r (List.mem_cons_of_mem _ hr))
  unfold gG
  rw[show bA (p::xs)=[p.1,p.2]++bA xs from rfl,List.nodup_append]
  refine⟨by simpa using h2 p List.mem_cons_self,ih,fun a ha b hb e=> ?_⟩
  subst e
  obtain⟨q,hq,e⟩:=fm.mp hb
  have:p=q:=h3 p List.mem_cons_self q (List.mem_cons_of_mem _ hq) a (by simpa using ha) e
  rw[this] at h1
  exact h1.1 hq
def qE (P A:List (Str×Str)):List (Str×Str):=Fh ((P.filter fun p=> !decide (p∈A))++A.filter fun p=> !decide (p∈P))
theorem mS {P A:List (Str×Str)} (q:Str×Str):q∈qE P A↔(q∈P/\q∉A)\/(q∈A/\q∉P):=by
 unfold qE
 rw[(tI _).mem_iff,List.mem_append,List.mem_filter,List.mem_filter]
 simp
theorem Bm {P A:List (Str×Str)} (hP:P.Nodup) (hA:A.Nodup):((P.filter fun p=> !decide (p∈A))++A.filter fun p=> !decide (p∈P)).Nodup:=by
 refine List.nodup_append.mpr ⟨hP.sublist List.filter_sublist,hA.sublist List.filter_sublist,fun a ha b hb e=> ?_⟩
 subst e
 rw[List.mem_filter] at ha hb
 simp at ha hb
 exact hb.2 ha.1
structure TurnOk (w:Wb) (P A:List (Str×Str)):Prop where
 nd:A.Nodup
 lt: ∀p∈A,cD p.1 p.2
 sw: ∀p∈A,∃v,wk w p.1 p.2=some v
 a: ∀p∈A,p∉P-> ∀q∈A,q∉P-> ∀x,(x=p.1\/x=p.2)->(x=q.1\/x=q.2)->p=q
 b: ∀p∈P,∀q∈A,q∉P-> ∀x,(x=p.1\/x=p.2)->(x=q.1\/x=q.2)->p∈A
theorem yS {w:Wb} {P A:List (Str×Str)} (hP:Plan w P) (h:TurnOk w P A):Plan w (qE P A):=by
 have nd:=Bm (sA hP.apart) h.nd
 have lt: ∀p∈qE P A,cD p.1 p.2:=fun p hp=>by
  rcases (mS p).mp hp with ⟨q,_⟩|⟨q,_⟩
  ·exact hP.lt p q
  ·exact h.lt p q
 refine⟨HR nd,xr (by unfold qE;exact (tI _).nodup_iff.mpr nd) (fun p hp e=>dA p.2 (by have:=lt p hp;rwa[e] at this)) (fun p hp q hq x h1 h2=> ?_),lt,fun p hp=> ?_⟩
 ·rcases (mS p).mp hp with ⟨a1,a2⟩|⟨a1,a2⟩ <;> rcases (mS q).mp hq with ⟨b1,b2⟩|⟨b1,b2⟩
  ·exact lF hP.apart a1 b1 h1 h2
  ·exact absurd (h.b p a1 q b1 b2 x h1 h2) a2
  ·exact absurd (h.b q b1 p a1 a2 x h2 h1) b2
  ·exact h.a p a1 a2 q b1 b2 x h1 h2
 ·rcases (mS p).mp hp with ⟨q,_⟩|⟨q,_⟩
  ·exact hP.swap p q
  ·exact h.sw p q
theorem TurnOk.perm {w:Wb} {P A B:List (Str×Str)} (h:TurnOk w P A) (p:A.Perm B):TurnOk w P B where
 nd:=p.nodup_iff.mp h.nd
 lt:=fun q hq=>h.lt q (p.mem_iff.mpr hq)
 sw:=fun q hq=>h.sw q (p.mem_iff.mpr hq)
 a:=fun q hq nq r hr nr=>h.a q (p.mem_iff.mpr hq) nq r (p.mem_iff.mpr hr) nr
 b:=fun q hq r hr nr x h1 h2=>p.mem_iff.mp (h.b q hq r (p.mem_iff.mpr hr) nr x h1 h2)
theorem TurnOk.nil (w:Wb) (P:List (Str×Str)):TurnOk w P []:=⟨List.nodup_nil,by simp,by simp,by simp,by simp⟩
def eds:List Str->List (Str×Str)
 | []=>[]
 | [_]=>[]
 |a::b::l=>(a,b)::eds (b::l)
theorem mw {e:Str×Str}: ∀{l:List Str},e∈eds l->e.1∈l/\e.2∈l
 | [],h=>by cases h
 | [_],h=>by cases h
 |a::b::l,h=>by
  rcases List.mem_cons.mp h with h|h
  ·subst h;simp
  ·have:=mw h
   exact⟨List.mem_cons_of_mem _ this.1,List.mem_cons_of_mem _ this.2⟩
def alo (ring:Bool) (cs:List Str):List (Str×Str):=(eds cs++if ring=true then (match cs.getLast?,cs.head? with|some l,some h=>[(l,h)]|_,_=>[]) else []).map nP
theorem Ek (cs:List Str):alo false cs=(eds cs).map nP:=by
 unfold alo
 rw[if_neg Bool.false_ne_true,List.append_nil]
def sC (P es:List (Str×Str)):List (Str×Str):=es.filter fun e=> !decide (mt P e.1 e.2)
theorem lO {P es:List (Str×Str)} {e:Str×Str}:e∈sC P es↔e∈es/\ ¬mt P e.1 e.2:=by
 unfold sC;rw[List.mem_filter];simp
theorem HS (P a b:List (Str×Str)):sC P (a++b)=sC P a++sC P b:=List.filter_append _ _
structure tM (w:Wb) (P es:List (Str×Str)):Prop where
 nd:(es.map nP).Nodup
 ne: ∀e∈es,e.1≠e.2
 sw: ∀e∈es,∃v,wk w e.1 e.2=some v
 ap:gG (sC P es)
 cl: ∀e∈es,∀x,(x=e.1\/x=e.2)-> ∀y,mt P x y->(x,y)∈es\/(y,x)∈es
theorem tM.turn {ns:List Str} {w:Wb} {P es:List (Str×Str)} (hw:iK ns w) (hP:Plan w P) (h:tM w P es):TurnOk w P (es.map nP) where
 nd:=h.nd
 lt:=fun p hp=>by
  obtain⟨e,he,rfl⟩:=List.mem_map.mp hp
  exact Ku (h.ne e he)
 sw:=fun p hp=>by
  obtain⟨e,he,rfl⟩:=List.mem_map.mp hp
  obtain⟨v,hv⟩:=h.sw e he
  rcases yR (h.ne e he) with ⟨g,k⟩|⟨g,k⟩
  ·rw[g];exact⟨v,hv⟩
  ·rw[g];exact⟨v,hw.sym _ _ _ hv⟩
 a:=fun p hp np q hq nq x h1 h2=>by
  obtain⟨e,he,rfl⟩:=List.mem_map.mp hp
  obtain⟨f,hf,rfl⟩:=List.mem_map.mp hq
  rw[kQ (h.ne e he)] at h1
  rw[kQ (h.ne f hf)] at h2
  rw[uz hP (h.ne e he)] at np
  rw[uz hP (h.ne f hf)] at nq
  rw[lF h.ap (lO.mpr ⟨he,np⟩) (lO.mpr ⟨hf,nq⟩) h1 h2]
 b:=fun p hp q hq nq x h1 h2=>by
  obtain⟨f,hf,rfl⟩:=List.mem_map.mp hq
  rw[kQ (h.ne f hf)] at h2
  have key: ∃y,mt P x y/\(p=(x,y)\/p=(y,x)):=by
   rcases h1 with h1|h1
   ·exact⟨p.2,.inl (by rw[h1];exact hp),.inl (by rw[h1])⟩
   ·exact⟨p.1,.inr (by rw[h1];exact hp),.inr (by rw[h1])⟩
  obtain⟨y,my,hpe⟩:=key
  have hn:nP p=p:=xp (hP.lt p hp)
  rcases h.cl f hf x h2 y my with g|g
  ·refine List.mem_map.mpr ⟨_,g,?_⟩
   rcases hpe with e|e
   ·rw[<-e];exact hn
   ·rw[vN,←e];exact hn
  ·refine List.mem_map.mpr ⟨_,g,?_⟩
   rcases hpe with e|e
   ·rw[vN,←e];exact hn
   ·rw[<-e];exact hn
theorem mC: ∀{cs:List Str},cs.Nodup->((eds cs).map nP).Nodup/\ ∀e∈eds cs,e.1≠e.2
 | [],_=>⟨List.nodup_nil,by simp[eds]⟩
 | [_],_=>⟨List.nodup_nil,by simp[eds]⟩
 |a::b::l,h=>by
  rw[List.nodup_cons] at h
  have ih:=mC h.2
  have ab:a≠b:=fun e=>h.1 (by rw[e];simp)
  have ne: ∀e∈eds (a::b::l),e.1≠e.2:=fun e he=>by
   rcases List.mem_cons.mp he with he|he
   ·subst he;exact ab
   ·exact ih.2 e he
  refine⟨?_,ne⟩
  show (nP (a,b)::(eds (b::l)).map nP).Nodup
  refine List.nodup_cons.mpr ⟨fun m=> ?_,ih.1⟩
  obtain⟨e,he,q⟩:=List.mem_map.mp m
  have t1:=(kQ (e:=(a,b)) ab (x:=a)).mpr (.inl rfl)
  rw[<-q,kQ (ih.2 e he)] at t1
  have:=mw he
  rcases t1 with t|t
  ·exact h.1 (t▸this.1)
  ·exact h.1 (t▸this.2)
structure uA (w:Wb) (P:List (Str×Str)) (cs:List Str) (l:Str):Prop where
 la:cs.getLast? =some l
 nd:cs.Nodup
 cl: ∀x∈cs,∀y,mt P x y->y∈cs/\((x,y)∈eds cs\/(y,x)∈eds cs)
 sw: ∀e∈eds cs,∃v,wk w e.1 e.2=some v
 ap:gG (sC P (eds cs))
 fr:(∃y,mt P l y)->l∉bA (sC P (eds cs))
 ev: ∀h,cs.head? =some h->(∃y,mt P h y)->(cs.length%2=0/\ ∃y,mt P l y)\/(cs.length%2=1/\ ¬ ∃y,mt P l y)
section
variable {w:Wb} {P:List (Str×Str)} {cs:List Str} {l x:Str}
theorem uA.one {c:Str} (h: ¬ ∃y,mt P c y):uA w P [c] c:=
 ⟨rfl,by simp,fun x hx y hy=>absurd ⟨y,(List.mem_singleton.mp hx)▸hy⟩ h,by simp[eds],List.nodup_nil,fun g=>absurd g h,fun z hz g=>by cases hz;exact absurd g h⟩
theorem uA.two (hP:Plan w P) (hs: ∀x y,mt P x y-> ∃v,wk w x y=some v) {c d:Str} (h:mt P c d):uA w P [c,d] d:=by
 have ne:=xq hP h
 have nn:sC P (eds [c,d])=[]:=by
  refine List.filter_eq_nil_iff.mpr fun e he=> ?_
  have:e=(c,d):=by simpa [eds] using he
  subst this;simp[h]
 refine⟨rfl,by simpa using ne,fun x hx y hy=> ?_,fun e he=> ?_,by rw[nn];exact List.nodup_nil,fun _=>by rw[nn];simp[bA],fun z hz _=>.inl ⟨by simp,c,nO h⟩⟩
 ·rcases List.mem_cons.mp hx with rfl|hx
  ·rw[qU hP hy h];exact⟨by simp,.inl (by simp[eds])⟩
  ·rw[List.mem_singleton.mp hx] at hy⊢
   rw[qU hP hy (nO h)]
   exact⟨by simp,.inr (by simp[eds])⟩
 ·have:e=(c,d):=by simpa [eds] using he
  subst this;exact hs _ _ h
theorem uA.HU (h:uA w P cs l):tM w P (eds cs):=
 ⟨(mC h.nd).1,(mC h.nd).2,h.sw,h.ap,fun e he x hx y hy=>by
  have:=mw he
  exact (h.cl x (by rcases hx with e|e <;> (rw[e];first|exact this.1|exact this.2)) y hy).2⟩
theorem uA.ring (hP:Plan w P) (h:uA w P cs l) {a b:Str} {t:List Str} (hc:cs=a::b::t) (h3:3<cs.length) (h2:cs.length%2=0) (hi:mt P a b) (hv: ∃v,wk w l a=some v):tM w P (eds cs++[(l,a)]):=by
 have hl: ∃y,mt P l y:=by
  rcases h.ev a (by rw[hc];rfl) ⟨b,hi⟩ with ⟨_,q⟩|⟨q,_⟩
  ·exact q
  ·omega
 have hlm:=List.mem_of_getLast? h.la
 have nd:=h.nd
 have key:l≠a/\l≠b:=by
  subst hc
  rw[List.nodup_cons,List.nodup_cons] at nd
  have ht:t≠[]:=fun e=>by subst e;simp at h3
  have:l∈t:=by
   have:=h.la
   rw[List.getLast?_cons_cons,List.getLast?_cons_of_ne_nil ht] at this
   exact List.mem_of_getLast? this
  exact⟨fun e=>nd.1 (e▸List.mem_cons_of_mem _ this),fun e=>nd.2.1 (e▸this)⟩
 have hn: ¬mt P l a:=fun m=>key.2 (qU hP (nO m) hi)
 have ha:a∉bA (sC P (eds cs)):=fun m=>by
  obtain⟨e,he,q⟩:=fm.mp m
  obtain⟨he,ne⟩:=lO.mp he
  subst hc
  rcases List.mem_cons.mp (show e∈(a,b)::eds (b::t) from he) with g|g
  ·subst g;exact ne hi
  ·have:=mw g
   rw[List.nodup_cons] at nd
   rcases q with q|q
   ·exact nd.1 (q▸this.1)
   ·exact nd.1 (q▸this.2)
 have hf:=h.fr hl
 have nn:sC P (eds cs++[(l,a)])=sC P (eds cs)++[(l,a)]:=by
  rw[HS];unfold sC;rw[List.filter_cons_of_pos (by simpa using hn)];rfl
 have E:=h.HU
 refine⟨?_,fun e he=> ?_,fun e he=> ?_,?_,fun e he x hx y hy=> ?_⟩
 ·rw[List.map_append]
  refine List.nodup_append.mpr ⟨E.nd,by simp,fun p hp q hq e=> ?_⟩
  subst e
  have hq:p=nP (l,a):=by simpa using hq
  obtain⟨e,he,g⟩:=List.mem_map.mp hp
  rw[hq] at g
  have t1:l=e.1\/l=e.2:=by
   rw[<-kQ (E.ne e he),g,kQ (e:=(l,a)) key.1];exact .inl rfl
  by_cases me:mt P e.1 e.2
  ·rw[<-uz hP (E.ne e he),g,uz hP (e:=(l,a)) key.1] at me
   exact hn me
  ·exact hf (fm.mpr ⟨e,lO.mpr ⟨he,me⟩,t1⟩)
 ·rcases List.mem_append.mp he with he|he
  ·exact E.ne e he
  ·rw[List.mem_singleton.mp he];exact key.1
 ·rcases List.mem_append.mp he with he|he
  ·exact E.sw e he
  ·rw[List.mem_singleton.mp he];exact hv
 ·rw[nn]
  unfold gG
  rw[ends_app,List.nodup_append]
  refine⟨h.ap,?_,fun c hc2 d hd e=> ?_⟩
  ·show ([l,a]:List Str).Nodup
   simpa using key.1
  ·subst e
   rcases List.mem_cons.mp (show c∈[l,a] from hd) with e|hd
   ·exact hf (e▸hc2)
   ·exact ha (List.mem_singleton.mp hd▸hc2)
 ·have hx':x∈cs:=by
   rcases List.mem_append.mp he with he|he
   ·have:=mw he
    rcases hx with e|e <;> (rw[e];first|exact this.1|exact this.2)
   ·rw[List.mem_singleton.mp he] at hx
    rcases hx with e|e
    ·rw[e];exact hlm
    ·rw[e,hc];exact List.mem_cons_self
  exact (h.cl x hx' y hy).2.imp (List.mem_append_left _) (List.mem_append_left _)
end
theorem CY {A:Type} {xs:List A} {rt:A->Option Bool} (p:A->Bool) (hl:xs.length<=sizeLine) (h1: ∀x∈xs,rt x=some (p x)):tlc (some xs) rt (fun x=>some x)=some (xs.filter p):=by
 have:=CV (re:=fun x=>some x) p id hl h1 (fun _ _ _=>rfl)
 rwa[List.map_id] at this
end Sw
namespace Sw
open PySem PySem.Spec PyProof.Rows L2
inductive Rch (w:Wb) (P:Str->Prop) (x:Str):Str->Prop
 |refl:Rch w P x x
 |step {y z:Str} {v:Int}:Rch w P x y->wk w y z=some v-> ¬P z->Rch w P x z
section
variable {w:Wb} {P Q:Str->Prop} {x y z:Str} {v:Int} {ks:List Str}
theorem Rch.trans (h:Rch w P x y) (g:Rch w P y z):Rch w P x z:=by
 induction g with
 |refl=>exact h
 |step _ e n ih=>exact .step ih e n
theorem Rch.out (h:Rch w P x y) (n: ¬P x): ¬P y:=by
 cases h with
 |refl=>exact n
 |step _ _ m=>exact m
theorem Rch.symm (ok:iK ks w) (n: ¬P x) (h:Rch w P x y):Rch w P y x:=by
 induction h with
 |refl=>exact .refl
 |step h e m ih=>exact Rch.trans (.step .refl (ok.sym _ _ _ e) (h.out n)) ih
theorem xt {x:Str}:x∈qM ks↔x∈ks:=(bg ks).mem_iff
end
end Sw
namespace Sw
open PySem PySem.Spec PyProof.Rows L2
abbrev SR:=Str->Str->Prop
theorem jz {cs:List Str} (h:cs.Nodup) {i j:Nat} {hi:i<cs.length} {hj:j<cs.length} (e:cs[i]=cs[j]):i=j:=by
 rcases Nat.lt_trichotomy i j with c|c|c
 ·exact absurd e (List.pairwise_iff_getElem.mp h i j hi hj c)
 ·exact c
 ·exact absurd e.symm (List.pairwise_iff_getElem.mp h j i hj hi c)
structure jR (F:SR):Prop where
 symm: ∀{x y},F x y->F y x
 one: ∀{x y z},F x y->F x z->y=z
 irr: ∀{x},¬F x x
def own (P Q:List (Str×Str)):SR:=fun x y=>mt P x y/\ ¬mt Q x y
def alt (F S:SR) (i:Nat):SR:=if i%2=0 then F else S
section
variable {F S f g:SR} {cs ds:List Str} {a x y z:Str} {i j:Nat} {wd wd':Str}
theorem vO (hF:jR F) (hS:jR S) (i:Nat):jR (alt F S i):=by
 unfold alt;split <;> assumption
theorem CZ (h:i%2=j%2):alt F S i=alt F S j:=by unfold alt;rw[h]
theorem HV (h:alt F S i x y):F x y\/S x y:=by
 unfold alt at h;split at h
 ·exact .inl h
 ·exact .inr h
theorem Nh (i:Nat) (h:F x y\/S x y):alt F S i x y\/alt F S (i+1) x y:=by
 unfold alt
 by_cases c:i%2=0
 ·rw[if_pos c,if_neg (by omega)];exact h
 ·rw[if_neg c,if_pos (by omega)];exact h.symm
theorem jS (h:i%2=0):alt F S i=F:=if_pos h
theorem sD (h:i%2=1):alt F S i=S:=if_neg (by omega)
def Walk (F S:SR) (cs:List Str):Prop:= ∀i (h:i+1<cs.length),alt F S i (cs[i]'(by omega)) cs[i+1]
theorem OZ (hF:jR F) (hS:jR S) (nd:cs.Nodup) (hw:Walk F S cs) (hp:0<cs.length) (hy:alt F S (cs.length -1) (cs[cs.length -1]'(by omega)) y) (ne:y≠cs[0]):y∉cs:=fun m=>by
 obtain⟨j,hj,e⟩:=List.mem_iff_getElem.mp m
 have R:=vO hF hS (cs.length -1)
 have j0:0<j:=by
  rcases Nat.eq_zero_or_pos j with z|z
  ·subst z;exact absurd e.symm ne
  ·exact z
 subst e
 by_cases c:j%2=cs.length%2
 ·have h1:=hw (j -1) (by omega)
  rw[CZ (j:=cs.length -1) (by omega)] at h1
  have h2:cs[j -1+1]'(by omega)=cs[j]:=by congr 1;omega
  rw[h2] at h1
  have:=R.one (R.symm h1) (R.symm hy)
  have:=jz nd this
  omega
 ·by_cases l:j=cs.length -1
  ·subst l;exact R.irr hy
  ·have h1:=hw j (by omega)
   rw[CZ (j:=cs.length -1) (by omega)] at h1
   have:=R.one h1 (R.symm hy)
   have:=jz nd this
   omega
structure jI (F S:SR) (a:Str) (cs:List Str):Prop where
 pos:0<cs.length
 hd:cs[0]=a
 nd:cs.Nodup
 wk:Walk F S cs
 en:(¬ ∃y,alt F S (cs.length -1) (cs[cs.length -1]'(by omega)) y)\/alt F S (cs.length -1) (cs[cs.length -1]'(by omega)) a
theorem l9: ∀(cs:List Str) (i:Nat) (h:i+1<cs.length),(cs[i]'(by omega),cs[i+1])∈eds cs
 | [],_,h=>by simp at h
 | [_],_,h=>by simp at h
 |a::b::l,0,_=>List.mem_cons_self
 |a::b::l,i+1,h=>List.mem_cons_of_mem _ (l9 (b::l) i (by simpa using h))
theorem lh {e:Str×Str}: ∀{cs:List Str},e∈eds cs-> ∃(i:Nat) (h:i+1<cs.length),e=(cs[i]'(by omega),cs[i+1])
 | [],h=>by cases h
 | [_],h=>by cases h
 |a::b::l,h=>by
  rcases List.mem_cons.mp h with h|h
  ·exact⟨0,by simp,h⟩
  ·obtain⟨i,hi,e⟩:=lh h
   exact⟨i+1,by simpa using hi,e⟩
def edg (ring:Bool) (cs:List Str):List (Str×Str):=eds cs++if ring=true then (match cs.getLast?,cs.head? with|some l,some h=>[(l,h)]|_,_=>[]) else []
theorem El (r:Bool) (cs:List Str):alo r cs=(edg r cs).map nP:=rfl
theorem zU (cs:List Str):edg false cs=eds cs:=List.append_nil _
theorem Bn (hp:0<cs.length):edg true cs=eds cs++[(cs[cs.length -1]'(by omega),cs[0])]:=by
 have h:cs≠[]:=List.length_pos_iff.mp hp
 unfold edg
 rw[List.getLast?_eq_some_getLast h,List.head?_eq_some_head h,List.getLast_eq_getElem,List.head_eq_getElem];rfl
theorem C0 {r:Bool} {e:Str×Str} (h:e∈edg r cs):e.1∈cs/\e.2∈cs:=by
 cases r with
 |false=>rw[zU] at h;exact mw h
 |true=>
  have hp:0<cs.length:=by
   cases cs with
   |nil=>cases h
   |cons _ _=>simp
  rw[Bn hp] at h
  rcases List.mem_append.mp h with h|h
  ·exact mw h
  ·rw[List.mem_singleton.mp h];exact⟨List.getElem_mem _,List.getElem_mem _⟩
theorem jI.two (h:jI F S a cs) (hF:jR F) (ha: ∃y,F a y):2<=cs.length:=by
 have:=h.pos
 rcases Nat.lt_or_ge cs.length 2 with c|c
 ·have e:cs.length -1=0:=by omega
  have en:=h.en
  simp only[e,h.hd] at en
  rw[jS rfl] at en
  rcases en with en|en
  ·exact absurd ha en
  ·exact absurd en hF.irr
 ·exact c
theorem Walk.HW (hw:Walk F S cs) (hF:jR F) (hS:jR S) {i:Nat} (h:i<cs.length) (hy:F cs[i] y\/S cs[i] y):((cs[i],y)∈eds cs\/(y,cs[i])∈eds cs)\/(i=0/\S cs[i] y)\/(i=cs.length -1/\alt F S (cs.length -1) cs[i] y):=by
 rcases Nh i hy with q|q
 ·by_cases l:i+1<cs.length
  ·have:=(vO hF hS i).one (hw i l) q
   subst this
   exact .inl (.inl (l9 cs i l))
  ·have e:i=cs.length -1:=by omega
   refine .inr (.inr ⟨e,?_⟩)
   rw[<-e];exact q
 ·rcases Nat.eq_zero_or_pos i with z|z
  ·subst z
   exact .inr (.inl ⟨rfl,q⟩)
  ·have w:=hw (i -1) (by omega)
   have e1:cs[i -1+1]'(by omega)=cs[i]:=by congr 1;omega
   rw[CZ (j:=i+1) (by omega),e1] at w
   have:=(vO hF hS (i+1)).one ((vO hF hS (i+1)).symm w) q
   subst this
   have:=l9 cs (i -1) (by omega)
   rw[e1] at this
   exact .inl (.inr this)
theorem jI.O0 (h:jI F S a cs) (hF:jR F) (hS:jR S) (ha: ∃y,F a y) (hn: ¬ ∃y,S a y): ¬ ∃y,alt F S (cs.length -1) (cs[cs.length -1]'(by have:=h.pos;omega)) y:=by
 have h2:=h.two hF ha
 rcases h.en with q|q
 ·exact q
 ·exfalso
  by_cases c:(cs.length -1)%2=0
  ·rw[jS c] at q
   have w:=h.wk 0 (by omega)
   rw[jS rfl,h.hd] at w
   have:=hF.one w (hF.symm q)
   have:=jz h.nd this
   omega
  ·rw[sD (by omega)] at q
   exact hn ⟨_,hS.symm q⟩
theorem jI.QT (h:jI F S a cs) (hF:jR F) (hS:jR S) (ha: ∃y,F a y) (hb: ∀x∈cs,(∃y,F x y)/\ ∃y,S x y):cs.length%2=0/\S (cs[cs.length -1]'(by have:=h.pos;omega)) a:=by
 have h2:=h.two hF ha
 have hb':=hb _ (List.getElem_mem (l:=cs) (n:=cs.length -1) (by omega))
 have q:alt F S (cs.length -1) (cs[cs.length -1]'(by omega)) a:=h.en.resolve_left fun n=>n (by
  unfold alt;split
  ·exact hb'.1
  ·exact hb'.2)
 by_cases c:(cs.length -1)%2=0
 ·rw[jS c] at q
  have w:=h.wk 0 (by omega)
  rw[jS rfl,h.hd] at w
  have:=hF.one w (hF.symm q)
  have:=jz h.nd this
  omega
 ·rw[sD (by omega)] at q
  exact⟨by omega,q⟩
end
def isR (wd:Str):Bool:=decide (wd=("ring" :Str))
def bo (f g:SR) (x:Str):Prop:=(∃y,f x y)/\ ∃y,g x y
structure lj (f g:SR) (wd:Str) (cs:List Str):Prop where
 nd:cs.Nodup
 two:2<=cs.length
 adj: ∀x∈cs,∀y,(f x y\/g x y)->(x,y)∈edg (isR wd) cs\/(y,x)∈edg (isR wd) cs
 ed: ∀e∈edg (isR wd) cs,f e.1 e.2\/g e.1 e.2
 alo:(alo (isR wd) cs).Nodup
 wo:wd="row" \/wd="ring"
 row:wd="row" ->(¬bo f g (cs[0]'(by omega)))/\ ∀x∈cs,¬bo f g x-> ¬cD x (cs[0]'(by omega))
 ring:wd="ring" -> ∀x∈cs,bo f g x/\ ¬cD x (cs[0]'(by omega))
 lst:wd="row" -> ¬bo f g (cs[cs.length -1]'(by omega))
 ev:wd="ring" ->cs.length%2=0/\4<=cs.length
structure Prt (f g:SR) (wd:Str) (cs:List Str):Prop extends lj f g wd cs where
 w1:(∃y,f (cs[0]'(by omega)) y)->Walk f g cs
 w2:(¬ ∃y,f (cs[0]'(by omega)) y)->Walk g f cs
section
variable {F S f g:SR} {cs ds:List Str} {a x y z:Str} {i j:Nat} {wd wd':Str}
theorem mf:("row" :Str)≠"ring" :=by decide
theorem vP:bo f g x↔bo g f x:=And.comm
theorem lj.swap (h:lj f g wd cs):lj g f wd cs where
 nd:=h.nd
 two:=h.two
 adj:=fun x hx y q=>h.adj x hx y q.symm
 ed:=fun e he=>(h.ed e he).symm
 alo:=h.alo
 wo:=h.wo
 row:=fun e=>⟨fun b=>(h.row e).1 (vP.mp b),fun x hx n=>(h.row e).2 x hx fun b=>n (vP.mp b)⟩
 ring:=fun e x hx=>⟨vP.mp (h.ring e x hx).1,(h.ring e x hx).2⟩
 lst:=fun e b=>h.lst e (vP.mp b)
 ev:=h.ev
theorem lj.closed (h:lj f g wd cs) (hx:x∈cs) (hy:f x y\/g x y):y∈cs:=by
 rcases h.adj x hx y hy with q|q
 ·exact (C0 q).2
 ·exact (C0 q).1
theorem Kv {r:Bool} {e:Str×Str} (h:e∈eds cs):e∈edg r cs:=List.mem_append_left _ h
theorem conn (hs: ∀i (h:i+1<cs.length),f (cs[i]'(by omega)) cs[i+1]\/g (cs[i]'(by omega)) cs[i+1]) (hf:jR f) (hg:jR g) (C:Str->Prop) (hC: ∀x y,C x->(f x y\/g x y)->C y) (hx:x∈cs) (cx:C x): ∀z∈cs,C z:=by
 obtain⟨k,hk,e⟩:=List.mem_iff_getElem.mp hx
 subst e
 have up: ∀m (h:k+m<cs.length),C cs[k+m]:=fun m=>by
  induction m with
  |zero=>intro h;exact cx
  |succ m ih=>intro h;exact hC _ _ (ih (by omega)) (hs (k+m) h)
 have dn: ∀m (h:m<=k),C (cs[k -m]'(by omega)):=fun m=>by
  induction m with
  |zero=>intro h;exact cx
  |succ m ih=>
   intro h
   have q:=hs (k -(m+1)) (by omega)
   have e1:cs[k -(m+1)+1]'(by omega)=cs[k -m]'(by omega):=by congr 1;omega
   rw[e1] at q
   exact hC _ _ (ih (by omega)) (q.imp hf.symm hg.symm)
 intro z hz
 obtain⟨j,hj,e⟩:=List.mem_iff_getElem.mp hz
 subst e
 by_cases c:k<=j
 ·have:=up (j -k) (by omega)
  have e1:cs[k+(j -k)]'(by omega)=cs[j]:=by congr 1;omega
  rwa[e1] at this
 ·have:=dn (k -j) (by omega)
  have e1:cs[k -(k -j)]'(by omega)=cs[j]:=by congr 1;omega
  rwa[e1] at this
theorem lj.steps (h:lj f g wd cs): ∀i (h:i+1<cs.length),f (cs[i]'(by omega)) cs[i+1]\/g (cs[i]'(by omega)) cs[i+1]:=fun i hi=>h.ed _ (Kv (l9 cs i hi))
theorem lj.HX (h:lj f g wd cs) (k:lj f g wd' ds) (hf:jR f) (hg:jR g) (h1:x∈cs) (h2:x∈ds) (z:Str):z∈cs↔z∈ds:=
 ⟨conn h.steps hf hg (fun z=>z∈ds) (fun _ _ c q=>k.closed c q) h1 h2 z,conn k.steps hf hg (fun z=>z∈cs) (fun _ _ c q=>h.closed c q) h2 h1 z⟩
theorem lj.Fz (h:lj f g wd cs) (k:lj f g wd' ds) (e: ∀z,z∈cs↔z∈ds):wd=wd'/\cs[0]'(by have:=h.two;omega)=ds[0]'(by have:=k.two;omega):=by
 have h2:=h.two
 have k2:=k.two
 have m1:cs[0]∈ds:=(e _).mp (List.getElem_mem _)
 have m2:ds[0]∈cs:=(e _).mpr (List.getElem_mem _)
 have tri: ¬cD (cs[0]) (ds[0])-> ¬cD (ds[0]) (cs[0])->cs[0]=ds[0]:=fun a b=>by
  rcases nB (cs[0]) (ds[0]) with q|q|q
  ·exact absurd q a
  ·exact q
  ·exact absurd q b
 rcases h.wo with a|a <;> rcases k.wo with b|b
 ·exact⟨by rw[a,b],tri ((k.row b).2 _ m1 (h.row a).1) ((h.row a).2 _ m2 (k.row b).1)⟩
 ·exact absurd (k.ring b _ m1).1 (h.row a).1
 ·exact absurd (h.ring a _ m2).1 (k.row b).1
 ·exact⟨by rw[a,b],tri (k.ring b _ m1).2 (h.ring a _ m2).2⟩
theorem jI.row (h:jI F S a cs) (hF:jR F) (hS:jR S) (ha: ∃y,F a y) (hn: ¬ ∃y,S a y) (hl: ¬cD (cs[cs.length -1]'(by have:=h.pos;omega)) a):lj F S "row" cs:=by
 have h2:=h.two hF ha
 have op:=h.O0 hF hS ha hn
 have hr:isR "row" =false:=rfl
 exact {
  nd:=h.nd
  two:=h2
  adj:=fun x hx y q=>by
   rw[hr,zU]
   obtain⟨i,hi,e⟩:=List.mem_iff_getElem.mp hx
   subst e
   rcases h.wk.HW hF hS hi q with r|⟨r,t⟩|⟨r,t⟩
   ·exact r
   ·subst r;rw[h.hd] at t;exact absurd ⟨y,t⟩ hn
   ·subst r;exact absurd ⟨y,t⟩ op
  ed:=fun e he=>by
   rw[hr,zU] at he
   obtain⟨i,hi,e1⟩:=lh he
   subst e1
   exact HV (h.wk i hi)
  alo:=by rw[hr,Ek];exact (mC h.nd).1
  wo:=.inl rfl
  row:=fun _=>⟨by rw[h.hd];exact fun b=>hn b.2,fun x hx n=>by
   rw[h.hd]
   obtain⟨i,hi,e⟩:=List.mem_iff_getElem.mp hx
   subst e
   by_cases c0:i=0
   ·subst c0;rw[h.hd];exact dA a
   by_cases c1:i=cs.length -1
   ·subst c1;exact hl
   refine absurd ?_ n
   have q1:=h.wk i (by omega)
   have q2:=h.wk (i -1) (by omega)
   have e1:cs[i -1+1]'(by omega)=cs[i]:=by congr 1;omega
   rw[e1] at q2
   by_cases p:i%2=0
   ·rw[jS p] at q1
    rw[sD (by omega)] at q2
    exact⟨⟨_,q1⟩,⟨_,hS.symm q2⟩⟩
   ·rw[sD (by omega)] at q1
    rw[jS (by omega)] at q2
    exact⟨⟨_,hF.symm q2⟩,⟨_,q1⟩⟩⟩
  ring:=fun e=>absurd e mf
  lst:=fun _ b=>op (by
   unfold alt;split
   ·exact b.1
   ·exact b.2)
  ev:=fun e=>absurd e mf}
theorem jI.ring (h:jI F S a cs) (hF:jR F) (hS:jR S) (hd: ∀x y,F x y-> ¬S x y) (ha: ∃y,F a y) (hb: ∀x∈cs,(∃y,F x y)/\ ∃y,S x y) (hl: ∀x∈cs,¬cD x a):lj F S "ring" cs:=by
 have h2:=h.two hF ha
 obtain⟨ev,cl⟩:=h.QT hF hS ha hb
 have hr:isR "ring" =true:=rfl
 have ee:edg true cs=eds cs++[(cs[cs.length -1]'(by omega),a)]:=by rw[Bn (by omega),h.hd]
 have h4:4<=cs.length:=by
  rcases Nat.lt_or_ge cs.length 4 with c|c
  ·have e:cs.length=2:=by omega
   exfalso
   have w:=h.wk 0 (by omega)
   rw[jS rfl,h.hd] at w
   have:cs[cs.length -1]'(by omega)=cs[0+1]'(by omega):=by congr 1;omega
   rw[this] at cl
   exact hd _ _ w (hS.symm cl)
  ·exact c
 have la:cs[cs.length -1]'(by omega)≠a:=fun e=>by
  rw[<-h.hd] at e
  have:=jz h.nd e
  omega
 exact {
  nd:=h.nd
  two:=h2
  adj:=fun x hx y q=>by
   rw[hr,ee]
   obtain⟨i,hi,e⟩:=List.mem_iff_getElem.mp hx
   subst e
   rcases h.wk.HW hF hS hi q with r|⟨r,t⟩|⟨r,t⟩
   ·exact r.imp (List.mem_append_left _) (List.mem_append_left _)
   ·subst r
    rw[h.hd] at t⊢
    have:=hS.one t (hS.symm cl)
    subst this
    exact .inr (List.mem_append_right _ List.mem_cons_self)
   ·subst r
    rw[sD (by omega)] at t
    have:=hS.one t cl
    subst this
    exact .inl (List.mem_append_right _ List.mem_cons_self)
  ed:=fun e he=>by
   rw[hr,ee] at he
   rcases List.mem_append.mp he with he|he
   ·obtain⟨i,hi,e1⟩:=lh he
    subst e1
    exact HV (h.wk i hi)
   ·rw[List.mem_singleton.mp he];exact .inr cl
  alo:=by
   rw[hr,El,ee,List.map_append]
   obtain⟨n1,n2⟩:=mC h.nd
   refine List.nodup_append.mpr ⟨n1,by simp,fun p hp q hq e=> ?_⟩
   subst e
   have hq:p=nP (cs[cs.length -1]'(by omega),a):=by simpa using hq
   obtain⟨e,he,q⟩:=List.mem_map.mp hp
   rw[hq] at q
   have t1:cs[cs.length -1]'(by omega)=e.1\/cs[cs.length -1]'(by omega)=e.2:=by
    rw[<-kQ (n2 e he),q,kQ (e:=(cs[cs.length -1]'(by omega),a)) la];exact .inl rfl
   have t2:a=e.1\/a=e.2:=by
    rw[<-kQ (n2 e he),q,kQ (e:=(cs[cs.length -1]'(by omega),a)) la];exact .inr rfl
   obtain⟨i,hi,e1⟩:=lh he
   subst e1
   rw[<-h.hd] at t2
   have k1:cs.length -1=i\/cs.length -1=i+1:=t1.imp (fun t=>jz h.nd t) (fun t=>jz h.nd t)
   have k2:0=i\/0=i+1:=t2.imp (fun t=>jz h.nd t) (fun t=>jz h.nd t)
   omega
  wo:=.inr rfl
  row:=fun e=>absurd e.symm mf
  ring:=fun _ x hx=>⟨hb x hx,by rw[h.hd];exact hl x hx⟩
  lst:=fun e=>absurd e.symm mf
  ev:=fun _=>⟨ev,h4⟩}
end
end Sw
namespace Sw
open PySem PySem.Spec PyProof.Rows L2
section
variable {w:Wb} {P Q:List (Str×Str)} {S cs:List Str} {wd x y:Str} {q:Str×Str}
theorem HY (hP:Plan w P) (hQ:Plan w Q) (h:q∈P) (n:q∉Q):own P Q q.1 q.2:=
 ⟨.inl h,fun m=>m.elim n fun m=>tH (hP.lt _ h) (hQ.lt _ m)⟩
theorem HZ (hP:Plan w P) (hQ:Plan w Q) {e:Str×Str} (h:own P Q e.1 e.2):nP e∈P/\nP e∉Q:=by
 have ne:=xq hP h.1
 rw[uz hP ne,uz hQ ne]
 exact h
theorem lj.mem (hP:Plan w P) (hQ:Plan w Q) (h:lj (own P Q) (own Q P) wd cs) (q:Str×Str):q∈Sw.alo (isR wd) cs↔((q∈P/\q∉Q)\/(q∈Q/\q∉P))/\q.1∈cs:=by
 rw[El,List.mem_map]
 constructor
 ·rintro⟨e,he,rfl⟩
  have hi:=C0 he
  have ne:e.1≠e.2:=by
   rcases h.ed e he with o|o
   ·exact xq hP o.1
   ·exact xq hQ o.1
  refine⟨(h.ed e he).imp (HZ hP hQ) (HZ hQ hP),?_⟩
  rcases (kQ (e:=e) ne (x:=(nP e).1)).mp (.inl rfl) with t|t
  ·rw[t];exact hi.1
  ·rw[t];exact hi.2
 ·rintro⟨h1,h2⟩
  have lt:cD q.1 q.2:=h1.elim (fun r=>hP.lt _ r.1) (fun r=>hQ.lt _ r.1)
  have o:own P Q q.1 q.2\/own Q P q.1 q.2:=h1.imp (fun r=>HY hP hQ r.1 r.2) (fun r=>HY hQ hP r.1 r.2)
  rcases h.adj _ h2 _ o with r|r
  ·exact⟨_,r,xp lt⟩
  ·exact⟨_,r,by rw[vN];exact xp lt⟩
def zV (P Q:List (Str×Str)) (S:List Str):Prop:= ∀x∈S,∀y,(own P Q x y\/own Q P x y)->y∈S
theorem zV.swap (h:zV P Q S):zV Q P S:=fun x hx y o=>h x hx y o.symm
theorem zV.nil:zV P Q []:=fun x hx=>by cases hx
theorem zV.app (h:zV P Q S) {T:List Str} (k:zV P Q T):zV P Q (S++T):=fun x hx y o=>by
 rcases List.mem_append.mp hx with hx|hx
 ·exact List.mem_append_left _ (h x hx y o)
 ·exact List.mem_append_right _ (k x hx y o)
end
abbrev Pt:=Str×List Str
structure zW (f g:SR) (L:List Pt):Prop where
 ok: ∀p∈L,Prt f g p.1 p.2
 dis:L.Pairwise fun p q=> ∀x∈p.2,x∉q.2
structure Pts (f g:SR) (L:List Pt):Prop extends zW f g L where
 all: ∀x,((∃y,f x y)\/ ∃y,g x y)-> ∃p∈L,x∈p.2
section
variable {f g:SR} {L M:List Pt} {w:Wb} {P Q:List (Str×Str)}
theorem zW.sub (h:zW f g L) (s:List.Sublist M L):zW f g M:=⟨fun p hp=>h.ok p (s.subset hp),h.dis.sublist s⟩
theorem H7 {p q:Pt} (h: ∀x∈p.2,x∉q.2): ∀x∈q.2,x∉p.2:=fun x a b=>h x b a
theorem zW.perm (h:zW f g L) (s:L.Perm M):zW f g M:=⟨fun p hp=>h.ok p (s.mem_iff.mpr hp),(List.Perm.pairwise_iff (R:=fun(p q:Pt)=> ∀x∈p.2,x∉q.2) (fun h=>H7 h) s).mp h.dis⟩
theorem Pts.perm (h:Pts f g L) (s:L.Perm M):Pts f g M:=⟨h.tozW.perm s,fun x hx=>by
 obtain⟨p,hp,q⟩:=h.all x hx
 exact⟨p,s.mem_iff.mp hp,q⟩⟩
theorem lj.Kw {wd:Str} {cs:List Str} (h:lj f g wd cs):cs[0]'(by have:=h.two;omega)∈cs:=List.getElem_mem _
theorem lj.H8 {wd:Str} {cs:List Str} (h:lj f g wd cs):(∃y,f (cs[0]'(by have:=h.two;omega)) y)\/ ∃y,g (cs[0]'(by have:=h.two;omega)) y:=by
 have:=h.two
 rcases h.steps 0 (by omega) with q|q
 ·exact .inl ⟨_,q⟩
 ·exact .inr ⟨_,q⟩
theorem lj.has (hf:jR f) (hg:jR g) {wd:Str} {cs:List Str} (h:lj f g wd cs) {x:Str} (hx:x∈cs):(∃y,f x y)\/ ∃y,g x y:=by
 have h2:=h.two
 obtain⟨i,hi,e⟩:=List.mem_iff_getElem.mp hx
 subst e
 by_cases c:i+1<cs.length
 ·rcases h.steps i c with q|q
  ·exact .inl ⟨_,q⟩
  ·exact .inr ⟨_,q⟩
 ·have q:=h.steps (i -1) (by omega)
  have e1:cs[i -1+1]'(by omega)=cs[i]:=by congr 1;omega
  rw[e1] at q
  rcases q with q|q
  ·exact .inl ⟨_,hf.symm q⟩
  ·exact .inr ⟨_,hg.symm q⟩
def hdP (p:Pt):Str:=p.2.headD ""
theorem zX {p:Pt} (h:2<=p.2.length):hdP p=p.2[0]'(by omega):=by
 obtain⟨wd,cs⟩:=p
 cases cs with
 |nil=>simp at h
 |cons a l=>rfl
theorem zW.heads (h:zW f g L):(L.map hdP).Nodup:=by
 refine List.pairwise_map.mpr ((h.dis.imp_of_mem fun {p q} hp hq d e=> ?_))
 have h1:=(h.ok p hp).two
 have h2:=(h.ok q hq).two
 rw[zX h1,zX h2] at e
 have m:p.2[0]'(by omega)∈q.2:=by rw[e];exact List.getElem_mem _
 exact d _ (List.getElem_mem _) m
theorem Pts.H9 (hf:jR f) (hg:jR g) (h:Pts f g L) (k:Pts g f M):L.length<=M.length:=by
 have:=List.Nodup.length_le_of_subset h.tozW.heads (l₂:=M.map hdP) fun x hx=>by
  obtain⟨p,hp,e⟩:=List.mem_map.mp hx
  subst e
  have hk:=(h.ok p hp).tolj
  obtain⟨m,hm,mx⟩:=k.all _ hk.H8.symm
  have km:=(k.ok m hm).tolj.swap
  obtain⟨_,e⟩:=hk.Fz km (hk.HX km hf hg hk.Kw mx)
  rw[zX hk.two,e,←zX km.two]
  exact List.mem_map_of_mem hm
 simpa using this
theorem Pts.len (hf:jR f) (hg:jR g) (h:Pts f g L) (k:Pts g f M):L.length=M.length:=
 Nat.le_antisymm (h.H9 hf hg k) (k.H9 hg hf h)
end
end Sw
namespace Sw
open PySem PySem.Spec PyProof.Rows L2
class jn (A:Type) [En A] [So A]:Prop where
 irr: ∀a:A,So.lt a a=false
 tr: ∀a b c:A,So.lt a b=true->So.lt b c=true->So.lt a c=true
 tri: ∀a b:A,So.lt a b=true\/a=b\/So.lt b a=true
instance linStr:jn Str where
 irr a:=decide_eq_false (dA a)
 tr a b c h g:=decide_eq_true (mR (of_decide_eq_true h) (of_decide_eq_true g))
 tri a b:=by
  rcases nB a b with h|h|h
  ·exact .inl (decide_eq_true h)
  ·exact .inr (.inl h)
  ·exact .inr (.inr (decide_eq_true h))
instance linInt:jn Int where
 irr a:=decide_eq_false (by omega)
 tr a b c h g:=decide_eq_true (by have:=of_decide_eq_true h;have:=of_decide_eq_true g;omega)
 tri a b:=by
  rcases Int.lt_trichotomy a b with h|h|h
  ·exact .inl (decide_eq_true h)
  ·exact .inr (.inl h)
  ·exact .inr (.inr (decide_eq_true h))
section
variable {A B:Type} [En A] [So A] [En B] [So B]
theorem zY {p:Prop} {d:Decidable p} {a b:Bool}:(@ite _ p d a b=true)↔(p/\a=true)\/(¬p/\b=true):=by
 cases d with
 |isTrue h=>rw[if_pos h];simp[h]
 |isFalse h=>rw[if_neg h];simp[h]
theorem pair_lt (p q:A×B):So.lt p q=true↔So.lt p.1 q.1=true/\p.1≠q.1\/p.1=q.1/\p.2≠q.2/\So.lt p.2 q.2=true:=by
 show (@ite _ (p.1=q.1) (So.dec p.1 q.1) (@ite _ (p.2=q.2) (So.dec p.2 q.2) false (So.lt p.2 q.2)) (So.lt p.1 q.1))=true↔_
 rw[zY,zY]
 constructor
 ·rintro (⟨h,⟨_,g⟩|⟨g,k⟩⟩|⟨h,g⟩)
  ·cases g
  ·exact .inr ⟨h,g,k⟩
  ·exact .inl ⟨g,h⟩
 ·rintro (⟨h,g⟩|⟨h,g,k⟩)
  ·exact .inr ⟨g,h⟩
  ·exact .inl ⟨h,.inr ⟨g,k⟩⟩
theorem nQ [jn A] {a b:A} (h:So.lt a b=true):a≠b:=fun e=>by
 rw[e,jn.irr] at h;cases h
instance linPair [jn A] [jn B]:jn (A×B) where
 irr p:=Bool.eq_false_iff.mpr fun h=>by
  rcases (pair_lt p p).mp h with ⟨_,g⟩|⟨_,g,_⟩ <;> exact g rfl
 tr p q r h g:=by
  rw[pair_lt] at h g⊢
  rcases h with ⟨h,h'⟩|⟨h,h',h''⟩ <;> rcases g with ⟨g,g'⟩|⟨g,g',g''⟩
  ·have:=jn.tr _ _ _ h g;exact .inl ⟨this,nQ this⟩
  ·rw[<-g];exact .inl ⟨h,h'⟩
  ·rw[h];exact .inl ⟨g,g'⟩
  ·have:=jn.tr _ _ _ h'' g'';exact .inr ⟨h.trans g,nQ this,this⟩
 tri p q:=by
  rw[pair_lt,pair_lt]
  rcases jn.tri p.1 q.1 with h|h|h
  ·exact .inl (.inl ⟨h,nQ h⟩)
  ·rcases jn.tri p.2 q.2 with g|g|g
   ·exact .inl (.inr ⟨h,nQ g,g⟩)
   ·exact .inr (.inl (Prod.ext h g))
   ·exact .inr (.inr (.inr ⟨h.symm,nQ g,g⟩))
  ·exact .inr (.inr (.inl ⟨h,nQ h⟩))
theorem nR (a b:A) (xs ys:List A):oP (a::xs) (b::ys)=true↔(a=b/\oP xs ys=true)\/(a≠b/\So.lt a b=true):=zY
theorem yT [jn A]: ∀xs:List A,oP xs xs=false
 | []=>rfl
 |a::xs=>Bool.eq_false_iff.mpr fun h=>by
  rcases (nR a a xs xs).mp h with ⟨_,g⟩|⟨g,_⟩
  ·rw[yT xs] at g;cases g
  ·exact g rfl
theorem Bo [jn A]: ∀xs ys zs:List A,oP xs ys=true->oP ys zs=true->oP xs zs=true
 | [],[],_,h,_=>by cases h
 | [],_::_,[],_,g=>by cases g
 | [],_::_,_::_,_,_=>rfl
 |_::_,[],_,h,_=>by cases h
 |_::_,_::_,[],_,g=>by cases g
 |a::xs,b::ys,c::zs,h,g=>by
  rw[nR] at h g⊢
  rcases h with ⟨h,h'⟩|⟨h,h'⟩ <;> rcases g with ⟨g,g'⟩|⟨g,g'⟩
  ·exact .inl ⟨h.trans g,Bo xs ys zs h' g'⟩
  ·rw[h];exact .inr ⟨g,g'⟩
  ·rw[<-g];exact .inr ⟨h,h'⟩
  ·have:=jn.tr _ _ _ h' g';exact .inr ⟨nQ this,this⟩
theorem yU [jn A]: ∀xs ys:List A,oP xs ys=true\/xs=ys\/oP ys xs=true
 | [],[]=>.inr (.inl rfl)
 | [],_::_=>.inl rfl
 |_::_,[]=>.inr (.inr rfl)
 |a::xs,b::ys=>by
  rw[nR,nR]
  rcases jn.tri a b with h|h|h
  ·exact .inl (.inr ⟨nQ h,h⟩)
  ·rcases yU xs ys with g|g|g
   ·exact .inl (.inl ⟨h,g⟩)
   ·exact .inr (.inl (by rw[h,g]))
   ·exact .inr (.inr (.inl ⟨h.symm,g⟩))
  ·exact .inr (.inr (.inr ⟨nQ h,h⟩))
instance linList [jn A]:jn (List A):=⟨yT,Bo,yU⟩
end
end Sw
namespace Sw
open PySem PySem.Spec PyProof.Rows L2
def QU (c k:Int):Int:=
 let n:=(c%2147483647+7919*k+1)*48271%2147483647
 let m:=(n*n+k)%2147483629
 m*m%2147483587
def at2 (c:Int):Int:=QU c 9%6
end Sw
namespace Sw
open PySem PySem.Spec PyProof.Rows L2
inductive F2 {α β:Type} (R:α->β->Prop):List α->List β->Prop where
 |nil:F2 R [] []
 |cons {a b xs ys}:R a b->F2 R xs ys->F2 R (a::xs) (b::ys)
def KM:Nat->aH->List Str->Prop
 |0,_,_=>False
 |_+1,.single c,ms=>ms=[c]
 |n+1,.group r _,ms=> ∃rs,F2 (KM n) r rs/\ms=qM rs.flatten
structure Kt where
 k:aH
 b:Str
 ms:List Str
def nx (n j:Nat):Nat:=if j+1=n then 0 else j+1
def off (n p j:Nat):Nat:=if p<=j then j -p else j+n -p
theorem Ia {n j:Nat} (h:j+1=n):nx n j=0:=if_pos h
theorem zZ {n j:Nat} (h:j+1≠n):nx n j=j+1:=if_neg h
theorem iS {n p j:Nat} (h:p<=j):off n p j=j -p:=if_pos h
theorem mD {n p j:Nat} (h:j<p):off n p j=j+n -p:=if_neg (by omega)
theorem O2 {n j:Nat} (h:j<n):nx n j<n:=by unfold nx;split <;> omega
theorem C3 {n p j:Nat} (hp:p<n) (h:j<n):off n p j<n:=by unfold off;split <;> omega
theorem Ic {n p j:Nat} (hp:p<n) (h:j<n) (h1:off n p j+1<n):off n p (nx n j)=off n p j+1:=by
 by_cases e:j+1=n
 ·rw[Ia e]
  by_cases l:p<=j
  ·rw[iS l] at h1⊢
   rw[mD (by omega)];omega
  ·omega
 ·rw[zZ e]
  by_cases l:p<=j
  ·rw[iS l] at h1⊢
   rw[iS (by omega)];omega
  ·rw[mD (by omega)] at h1⊢
   by_cases l2:p<=j+1
   ·omega
   ·rw[mD (by omega)];omega
theorem Ie {n p j:Nat} (hp:p<n) (h:j<n) (h1:0<off n p (nx n j)):off n p j+1=off n p (nx n j):=by
 by_cases e:j+1=n
 ·rw[Ia e] at h1⊢
  by_cases l:p<=j
  ·rw[iS l]
   by_cases l0:p=0
   ·rw[iS (by omega)] at h1;omega
   ·rw[mD (by omega)];omega
  ·omega
 ·rw[zZ e] at h1⊢
  by_cases l:p<=j
  ·rw[iS l,iS (by omega)];omega
  ·by_cases l2:p<=j+1
   ·rw[iS l2] at h1;omega
   ·rw[mD (by omega),mD (by omega)];omega
theorem Em {n p i j:Nat} (hp:p<n) (hi:i<n) (hj:j<n) (h:off n p i=off n p j):i=j:=by
 by_cases a:p<=i <;> by_cases b:p<=j
 ·rw[iS a,iS b] at h;omega
 ·rw[iS a,mD (by omega)] at h;omega
 ·rw[mD (by omega),iS b] at h;omega
 ·rw[mD (by omega),mD (by omega)] at h;omega
theorem yV (n p:Nat):off n p p=0:=by rw[iS (Nat.le_refl _)];omega
structure hZ (m:Str->Option Str) (t:List Kt) (p:Nat) (l:List (Str×Str)):Prop where
 lead:p<t.length
 odd:t.length%2=1
 nd:(t.map (·.ms)).flatten.Nodup
 len:l.length=t.length
 link: ∀j x y a,j<t.length->t[j]? =some x->t[nx t.length j]? =some y->l[j]? =some a->(off t.length p j%2=1->a=(x.b,y.b)/\m x.b=some y.b/\m y.b=some x.b)/\a.1∈x.ms/\a.2∈y.ms
 three:3<=t.length
def KB (m:Str->Option Str):Nat->aH->Str->List Str->Prop
 |0,_,_,_=>False
 |_+1,.single c,b,ms=>b=c/\ms=[c]
 |n+1,.group r l,b,ms=> ∃(t:List Kt) (p:Nat),hZ m t p l/\r=t.map (·.k)/\(∀x∈t,KB m n x.k x.b x.ms)/\ms=qM (t.map (·.ms)).flatten/\t[p]?.map (·.b)=some b
def KL (L:List (Str×Str)):Nat->aH->Prop
 |0,_=>False
 |_+1,.single _=>True
 |n+1,.group r l=>(∀q∈l,q∈L)/\ ∀k∈r,KL L n k
theorem KL.up {L:List (Str×Str)}: ∀{n:Nat} {k:aH},KL L n k->KL L (n+1) k
 |0,_,h=>h.elim
 |n+1,.single c,h=>h
 |n+1,.group r l,h=>⟨h.1,fun k hk=>(h.2 k hk).up⟩
theorem KL.sub {L L':List (Str×Str)} (s: ∀q∈L,q∈L'): ∀{n:Nat} {k:aH},KL L n k->KL L' n k
 |0,_,h=>h.elim
 |n+1,.single c,h=>h
 |n+1,.group r l,h=>⟨fun q hq=>s q (h.1 q hq),fun k hk=>(h.2 k hk).sub s⟩
theorem uB {α β:Type} {R S:α->β->Prop} (h: ∀a b,R a b->S a b): ∀{xs:List α} {ys:List β},F2 R xs ys->F2 S xs ys
 |_,_,.nil=>.nil
 |_,_,.cons a r=>.cons (h _ _ a) (uB h r)
theorem KM.up: ∀{n:Nat} {k:aH} {ms:List Str},KM n k ms->KM (n+1) k ms
 |0,_,_,h=>h.elim
 |n+1,.single c,_,h=>h
 |n+1,.group r l,_,⟨rs,h1,h2⟩=>⟨rs,uB (fun _ _=>KM.up) h1,h2⟩
theorem KB.up {m:Str->Option Str}: ∀{n:Nat} {k:aH} {b:Str} {ms:List Str},KB m n k b ms->KB m (n+1) k b ms
 |0,_,_,_,h=>h.elim
 |n+1,.single c,_,_,h=>h
 |n+1,.group r l,_,_,⟨t,p,h1,h2,h3,h4⟩=>⟨t,p,h1,h2,fun x hx=>(h3 x hx).up,h4⟩
theorem KB.mono {m:Str->Option Str} {n N:Nat} {k:aH} {b:Str} {ms:List Str} (h:KB m n k b ms) (e:n<=N):KB m N k b ms:=by
 induction e with
 |refl=>exact h
 |step _ ih=>exact ih.up
theorem sE {α β γ:Type} {R:β->γ->Prop} {f:α->β} {g:α->γ}: ∀{xs:List α},(∀x∈xs,R (f x) (g x))->F2 R (xs.map f) (xs.map g)
 | [],_=>.nil
 |x::xs,h=>.cons (h x List.mem_cons_self) (sE fun y hy=>h y (List.mem_cons_of_mem _ hy))
theorem KB.km {m:Str->Option Str}: ∀{n:Nat} {k:aH} {b:Str} {ms:List Str},KB m n k b ms->KM n k ms
 |0,_,_,_,h=>h.elim
 |n+1,.single c,_,_,h=>h.2
 |n+1,.group r l,_,_,⟨t,p,h1,h2,h3,h4,_⟩=>⟨t.map (·.ms),h2▸sE fun x hx=>(h3 x hx).km,h4⟩
theorem cI {t:List Kt} {c:Str}:c∈(t.map (·.ms)).flatten↔ ∃x∈t,c∈x.ms:=by
 rw[List.mem_flatten]
 constructor
 ·rintro⟨l,h1,h2⟩
  obtain⟨x,hx,rfl⟩:=List.mem_map.mp h1
  exact⟨x,hx,h2⟩
 ·rintro⟨x,hx,h⟩
  exact⟨x.ms,List.mem_map_of_mem hx,h⟩
theorem fo {t:List Kt} (nd:(t.map (·.ms)).flatten.Nodup) {i j:Nat} {x y:Kt} (hx:t[i]? =some x) (hy:t[j]? =some y) {c:Str} (h1:c∈x.ms) (h2:c∈y.ms):i=j:=by
 induction t generalizing i j with
 |nil=>cases hx
 |cons z t ih=>
  rw[List.map_cons,List.flatten_cons,List.nodup_append] at nd
  obtain⟨n1,n2,n3⟩:=nd
  cases i with
  |zero=>
   cases j with
   |zero=>rfl
   |succ j=>
    cases hx
    exact absurd rfl (n3 c h1 c (cI.mpr ⟨y,List.mem_of_getElem? hy,h2⟩))
  |succ i=>
   cases j with
   |zero=>
    cases hy
    exact absurd rfl (n3 c h2 c (cI.mpr ⟨x,List.mem_of_getElem? hx,h1⟩))
   |succ j=>rw[ih n2 hx hy]
section
variable {m m':Str->Option Str} {n:Nat} {k:aH} {b c:Str} {ms:List Str}
theorem KB.base: ∀{n:Nat} {k:aH} {b:Str} {ms:List Str},KB m n k b ms->b∈ms
 |0,_,_,_,h=>h.elim
 |n+1,.single c,_,_,h=>by rw[h.1,h.2];exact List.mem_singleton_self _
 |n+1,.group r l,b,_,⟨t,p,h1,h2,h3,h4,h5⟩=>by
  subst h4
  obtain⟨x,e1,e2⟩:=Option.map_eq_some_iff.mp h5
  have hx:=List.mem_of_getElem? e1
  rw[(bg _).mem_iff,cI]
  exact⟨x,hx,e2▸(h3 x hx).base⟩
theorem KB.rise: ∀{n:Nat} {k:aH} {b:Str} {ms:List Str},KB m n k b ms->ms.Pairwise cD
 |0,_,_,_,h=>h.elim
 |n+1,.single c,_,_,h=>by rw[h.2];exact List.pairwise_singleton _ _
 |n+1,.group r l,b,_,⟨t,p,h1,h2,h3,h4,h5⟩=>h4▸zT h1.nd
theorem KB.nodup (h:KB m n k b ms):ms.Nodup:=List.nodup_iff_pairwise_ne.mpr (h.rise.imp fun {a b} l (e:a=b)=>dA a (by subst e;exact l))
theorem hZ.at_ {t:List Kt} {p:Nat} {l:List (Str×Str)} (h:hZ m t p l) {j:Nat} (hj:j<t.length): ∃x y a,t[j]? =some x/\t[nx t.length j]? =some y/\l[j]? =some a:=
 ⟨_,_,_,List.getElem?_eq_getElem hj,List.getElem?_eq_getElem (O2 hj),List.getElem?_eq_getElem (by rw[h.len];exact hj)⟩
theorem hZ.FA {t:List Kt} {p:Nat} {l:List (Str×Str)} (h:hZ m t p l) {j:Nat} {x:Kt} (hj:t[j]? =some x) (hp:j≠p): ∃(i:Nat) (y:Kt),t[i]? =some y/\m x.b=some y.b:=by
 have jl:j<t.length:=(List.getElem?_eq_some_iff.mp hj).1
 have pl:=h.lead
 by_cases o:off t.length p j%2=1
 ·obtain⟨x',y,a,e1,e2,e3⟩:=h.at_ jl
  rw[hj] at e1;cases e1
  exact⟨_,y,e2,((h.link j x y a jl hj e2 e3).1 o).2.1⟩
 ·have o0:0<off t.length p j:=by
   rcases Nat.eq_zero_or_pos (off t.length p j) with e|e
   ·exact absurd (Em pl jl pl (e.trans (yV _ _).symm)) hp
   ·exact e
  have ol:=C3 pl jl
  obtain⟨i,hi,e⟩: ∃i,i<t.length/\nx t.length i=j:=by
   by_cases j0:j=0
   ·exact⟨t.length -1,by omega,by unfold nx;rw[if_pos (by omega)];exact j0.symm⟩
   ·exact⟨j -1,by omega,by unfold nx;rw[if_neg (by omega)];omega⟩
  have oi:off t.length p i+1=off t.length p j:=by
   subst e
   exact Ie pl hi o0
  obtain⟨x',y,a,e1,e2,e3⟩:=h.at_ hi
  rw[e,hj] at e2;cases e2
  exact⟨i,x',e1,((h.link i x' x a hi e1 (e▸hj) e3).1 (by omega)).2.2⟩
theorem KB.FA: ∀{n:Nat} {k:aH} {b:Str} {ms:List Str},KB m n k b ms-> ∀c∈ms,c≠b-> ∃d∈ms,m c=some d
 |0,_,_,_,h,_,_,_=>h.elim
 |n+1,.single c,_,_,h,d,hd,ne=>by
  rw[h.2] at hd
  exact absurd ((List.mem_singleton.mp hd).trans h.1.symm) ne
 |n+1,.group r l,b,_,⟨t,p,h1,h2,h3,h4,h5⟩,c,hc,ne=>by
  subst h4
  rw[(bg _).mem_iff,cI] at hc
  obtain⟨x,hx,cx⟩:=hc
  by_cases e:c=x.b
  ·obtain⟨j,hj⟩:=List.getElem?_of_mem hx
   have jp:j≠p:=fun e2=>ne (by
    subst e2
    rw[hj] at h5
    exact e.trans (Option.some.inj h5))
   obtain⟨i,y,hy,my⟩:=h1.FA hj jp
   refine⟨y.b,?_,e▸my⟩
   rw[(bg _).mem_iff,cI]
   exact⟨y,List.mem_of_getElem? hy,(h3 y (List.mem_of_getElem? hy)).base⟩
  ·obtain⟨d,hd,md⟩:=(h3 x hx).FA c cx e
   refine⟨d,?_,md⟩
   rw[(bg _).mem_iff,cI]
   exact⟨x,hx,hd⟩
theorem KB.congr: ∀{n:Nat} {k:aH} {b:Str} {ms:List Str},KB m n k b ms->(∀c∈ms,c≠b->m' c=m c)->KB m' n k b ms
 |0,_,_,_,h,_=>h.elim
 |n+1,.single c,_,_,h,_=>h
 |n+1,.group r l,b,_,⟨t,p,h1,h2,h3,h4,h5⟩,he=>by
  subst h4
  obtain⟨z,z1,z2⟩:=Option.map_eq_some_iff.mp h5
  have hs: ∀x∈t,∀c∈x.ms,c≠b->m' c=m c:=fun x hx c hc ne=>he c (by rw[(bg _).mem_iff,cI];exact⟨x,hx,hc⟩) ne
  have nb: ∀j x,t[j]? =some x->j≠p->b∉x.ms:=fun j x hj jp hb=>jp (fo h1.nd hj z1 hb (z2▸(h3 z (List.mem_of_getElem? z1)).base))
  refine⟨t,p,⟨h1.lead,h1.odd,h1.nd,h1.len,fun j x y a hj hx hy ha=>⟨fun o=> ?_,(h1.link j x y a hj hx hy ha).2⟩,h1.three⟩,h2,fun x hx=>(h3 x hx).congr fun c hc ne=> ?_,rfl,h5⟩
  ·obtain⟨e1,e2,e3⟩:=(h1.link j x y a hj hx hy ha).1 o
   have ol:=C3 h1.lead hj
   have odd:=h1.odd
   have o1:=Ic h1.lead hj (by omega)
   have jx:j≠p:=fun e=>by rw[e,yV] at o;omega
   have jy:nx t.length j≠p:=fun e=>by rw[e,yV] at o1;omega
   have bx:=(h3 x (List.mem_of_getElem? hx)).base
   have by':=(h3 y (List.mem_of_getElem? hy)).base
   refine⟨e1,?_,?_⟩
   ·rw[hs x (List.mem_of_getElem? hx) _ bx fun e=>nb j x hx jx (e▸bx)];exact e2
   ·rw[hs y (List.mem_of_getElem? hy) _ by' fun e=>nb _ y hy jy (e▸by')];exact e3
  ·by_cases e:c=b
   ·obtain⟨j,hj⟩:=List.getElem?_of_mem hx
    by_cases jp:j=p
    ·subst jp
     rw[hj] at z1;cases z1
     exact absurd (e.trans z2.symm) ne
    ·exact absurd (e▸hc) (nb j x hj jp)
   ·exact hs x hx c hc e
end
end Sw
namespace Sw
open PySem PySem.Spec PyProof.Rows L2
def gK (u:Sd RV):aH:=match aG u.l "knot" with
 |some (.k x)=>x
 |_=>.single ""
def gB (u:Sd RV):Str:=match aG u.l "base" with
 |some (.s x)=>x
 |_=>""
def gM (u:Sd RV):List Str:=match aG u.l "all" with
 |some (.ls x)=>x
 |_=>[]
def kt (u:Sd RV):Kt:=⟨gK u,gB u,gM u⟩
def hf (ms:List Str):Nat:=(ms.length+1)/2
theorem xA: ∀{t:List (List Str)},(∀y∈t,1<=y.length)->t.length<=t.flatten.length
 | [],_=>Nat.le_refl _
 |y::t,h=>by
  rw[List.flatten_cons,List.length_append,List.length_cons]
  have:=h y List.mem_cons_self
  have:=xA (t:=t) fun z hz=>h z (List.mem_cons_of_mem _ hz)
  omega
theorem yW {x:List Str}: ∀{t:List (List Str)},(∀y∈t,1<=y.length)->x∈t->x.length+t.length<=t.flatten.length+1
 |y::t,h,hx=>by
  rw[List.flatten_cons,List.length_append,List.length_cons]
  have h1:=h y List.mem_cons_self
  have h2:=xA (t:=t) fun z hz=>h z (List.mem_cons_of_mem _ hz)
  rcases List.mem_cons.mp hx with rfl|hx
  ·omega
  ·have:=yW (t:=t) (fun z hz=>h z (List.mem_cons_of_mem _ hz)) hx
   omega
end Sw
namespace Sw
open PySem PySem.Spec PyProof.Rows L2
def Alt (X Y:SR):List Str->Prop
 | []=>True
 | [_]=>True
 |a::b::r=>X a b/\Alt Y X (b::r)
section
variable {X Y:SR}
theorem Alt.app: ∀(n:Nat) {r s:List Str} {a b:Str},r.length<=n->r.length%2=1->Alt X Y r->r.getLast? =some a->s.head? =some b->X a b->Alt Y X s->Alt X Y (r++s)
 |n,[],_,_,_,_,h,_,_,_,_,_=>by simp at h
 |n,[x],[],_,_,_,_,_,_,h,_,_=>by cases h
 |n,[x],y::s,a,b,_,_,_,h1,h2,h3,h4=>by cases h1;cases h2;exact⟨h3,h4⟩
 |n,[x,y],_,_,_,_,h,_,_,_,_,_=>by simp at h
 |0,x::y::z::r,_,_,_,h,_,_,_,_,_,_=>by simp at h
 |n+1,x::y::z::r,s,a,b,hn,ho,hr,h1,h2,h3,h4=>by
  refine⟨hr.1,hr.2.1,?_⟩
  exact Alt.app n (r:=z::r) (by simp at hn ⊢; omega) (by simp at ho ⊢; omega) hr.2.2 (by rw[<-h1];simp[List.getLast?_cons_cons]) h2 h3 h4
theorem Alt.rev (hX: ∀a b,X a b->X b a) (hY: ∀a b,Y a b->Y b a): ∀(n:Nat) {r:List Str},r.length<=n->r.length%2=1->Alt X Y r->Alt Y X r.reverse
 |n,[],_,h,_=>by simp at h
 |n,[x],_,_,_=>trivial
 |n,[x,y],_,h,_=>by simp at h
 |0,x::y::z::r,h,_,_=>by simp at h
 |n+1,x::y::z::r,hn,ho,hr=>by
  have ih:=Alt.rev hX hY n (r:=z::r) (by simp at hn ⊢; omega) (by simp at ho ⊢; omega) hr.2.2
  rw[show (x::y::z::r).reverse=(z::r).reverse++[y,x] by simp]
  exact Alt.app _ (Nat.le_refl _) (by simp at ho ⊢; omega) ih (a:=z) (by simp) (b:=y) rfl (hY _ _ hr.2.1) ⟨hX _ _ hr.1,trivial⟩
theorem Alt.at_: ∀{r:List Str},Alt X Y r-> ∀i (h:i+1<r.length),if i%2=0 then X (r[i]'(by omega)) r[i+1] else Y (r[i]'(by omega)) r[i+1]:=fun {r}=>by
 have key: ∀(r:List Str) (X Y:SR),Alt X Y r-> ∀i (h:i+1<r.length),(i%2=0->X (r[i]'(by omega)) r[i+1])/\(i%2=1->Y (r[i]'(by omega)) r[i+1]):=by
  intro r
  induction r with
  |nil=>intro X Y _ i h;simp at h
  |cons a r ih=>
   intro X Y hr i h
   cases r with
   |nil=>simp at h
   |cons b r=>
    cases i with
    |zero=>exact⟨fun _=>hr.1,fun e=>by omega⟩
    |succ i=>
     have:=ih Y X hr.2 i (by simpa using h)
     exact⟨fun e=>this.2 (by omega),fun e=>this.1 (by omega)⟩
 intro hr i h
 split
 ·rename_i e;exact (key r X Y hr i h).1 e
 ·exact (key r X Y hr i h).2 (by omega)
end
def E0 (m:Str->Option Str):SR:=fun a b=>m a=some b/\m b=some a
def E1 (m:Str->Option Str) (L:List (Str×Str)):SR:=fun a b=>((a,b)∈L\/(b,a)∈L)/\m a≠some b/\m b≠some a
theorem E0.symm {m:Str->Option Str} (a b:Str) (h:E0 m a b):E0 m b a:=⟨h.2,h.1⟩
theorem E1.symm {m:Str->Option Str} {L:List (Str×Str)} (a b:Str) (h:E1 m L a b):E1 m L b a:=⟨h.1.symm,h.2.2,h.2.1⟩
structure Led (m:Str->Option Str) (L:List (Str×Str)) (ms:List Str) (c b:Str) (row:List Str):Prop where
 odd:row.length%2=1
 head:row.head? =some c
 last:row.getLast? =some b
 nd:row.Nodup
 inn: ∀x∈row,x∈ms
 alt:Alt (E0 m) (E1 m L) row
structure Part (m:Str->Option Str) (L:List (Str×Str)) (t:List Kt) (w:Nat->Nat) (c:Str) (k:Nat) (row:List Str):Prop where
 odd:row.length%2=1
 head:row.head? =some c
 last: ∃x,t[w k]? =some x/\row.getLast? =some x.b
 nd:row.Nodup
 inn: ∀x∈row,∃j y,k<=j/\j<t.length/\t[w j]? =some y/\x∈y.ms
 alt:Alt (E0 m) (E1 m L) row
section
variable {m:Str->Option Str} {L:List (Str×Str)} {t:List Kt} {w:Nat->Nat} {c:Str} {k:Nat} {row r1 r2:List Str}
theorem Led.single (c:Str):Led m L [c] c c [c]:=⟨rfl,rfl,rfl,by simp,fun x h=>h,trivial⟩
theorem Part.step (nd:(t.map (·.ms)).flatten.Nodup) (wi: ∀i j,i<t.length->j<t.length->w i=w j->i=j) (hk:k+2<t.length) (h:Part m L t w c (k+2) row) {x y z:Kt} (hx:t[w (k+2)]? =some x) (hy:t[w (k+1)]? =some y) (hz:t[w k]? =some z) (e0:E0 m x.b y.b) {l e:Str} (e1:E1 m L l e) (h1:Led m L y.ms l y.b r1) (h2:Led m L z.ms e z.b r2):Part m L t w c k (row++r1.reverse++r2):=by
 have dis: ∀{i j:Nat} {u v:Kt},t[w i]? =some u->t[w j]? =some v->i<t.length->j<t.length-> ∀{a:Str},a∈u.ms->a∈v.ms->i=j:=fun {i j u v} hu hv hi hj {a} ha hb=>wi _ _ hi hj (fo nd hu hv ha hb)
 have o1:=h.odd
 have o2:=h1.odd
 have o3:=h2.odd
 have n0:row≠[]:=fun e=>by rw[e] at o1;simp at o1
 have n1:r1≠[]:=fun e=>by rw[e] at o2;simp at o2
 have n2:r2≠[]:=fun e=>by rw[e] at o3;simp at o3
 refine⟨by simp;omega,?_,⟨z,hz,?_⟩,?_,fun a ha=> ?_,?_⟩
 ·rw[List.append_assoc,List.head?_append,h.head];rfl
 ·rw[List.getLast?_append,h2.last];rfl
 ·rw[List.nodup_append,List.nodup_append]
  refine⟨⟨h.nd,(List.reverse_perm r1).nodup_iff.mpr h1.nd,fun a ha b hb e=> ?_⟩,h2.nd,fun a ha b hb e=> ?_⟩
  ·subst e
   obtain⟨j,v,j1,j2,j3,j4⟩:=h.inn a ha
   have:=dis j3 hy j2 (by omega) j4 (h1.inn a (List.mem_reverse.mp hb))
   omega
  ·subst e
   rcases List.mem_append.mp ha with ha|ha
   ·obtain⟨j,v,j1,j2,j3,j4⟩:=h.inn a ha
    have:=dis j3 hz j2 (by omega) j4 (h2.inn a hb)
    omega
   ·have:=dis hy hz (by omega) (by omega) (h1.inn a (List.mem_reverse.mp ha)) (h2.inn a hb)
    omega
 ·rcases List.mem_append.mp ha with ha|ha
  ·rcases List.mem_append.mp ha with ha|ha
   ·obtain⟨j,v,j1,j2,j3,j4⟩:=h.inn a ha
    exact⟨j,v,by omega,j2,j3,j4⟩
   ·exact⟨k+1,y,by omega,by omega,hy,h1.inn a (List.mem_reverse.mp ha)⟩
  ·exact⟨k,z,Nat.le_refl _,by omega,hz,h2.inn a ha⟩
 ·obtain⟨x',hx',lx⟩:=h.last
  rw[hx] at hx';cases hx'
  rw[List.append_assoc]
  refine Alt.app _ (Nat.le_refl _) o1 h.alt lx (b:=y.b) ?_ e0 ?_
  ·rw[List.head?_append,List.head?_reverse,h1.last];rfl
  ·exact Alt.app _ (Nat.le_refl _) (by rw[List.length_reverse];exact o2) (h1.alt.rev E0.symm E1.symm _ (Nat.le_refl _) o2) (a:=l) (by rw[List.getLast?_reverse];exact h1.head) h2.head e1 h2.alt
theorem Led.part (hk:k<t.length) {x:Kt} (hx:t[w k]? =some x) (h:Led m L x.ms c x.b row):Part m L t w c k row:=
 ⟨h.odd,h.head,⟨x,hx,h.last⟩,h.nd,fun a ha=>⟨k,x,Nat.le_refl _,hk,hx,h.inn a ha⟩,h.alt⟩
theorem Part.led {ms:List Str} {b:Str} (hm: ∀a,a∈ms↔ ∃x∈t,a∈x.ms) (hb:t[w 0]?.map (·.b)=some b) (h:Part m L t w c 0 row):Led m L ms c b row:=by
 obtain⟨x,hx,l⟩:=h.last
 rw[hx] at hb
 refine⟨h.odd,h.head,?_,h.nd,fun a ha=> ?_,h.alt⟩
 ·rw[l];exact hb
 ·obtain⟨j,v,_,_,j3,j4⟩:=h.inn a ha
  exact (hm a).mpr ⟨v,List.mem_of_getElem? j3,j4⟩
theorem hZ.sF {p:Nat} {l:List (Str×Str)} (h:hZ m t p l) {j:Nat} {x:Kt} (hj:t[j]? =some x) (hp:j≠p): ∃(i:Nat) (y:Kt),t[i]? =some y/\E0 m x.b y.b/\((off t.length p j%2=1/\i=nx t.length j)\/(off t.length p i%2=1/\j=nx t.length i)):=by
 have jl:j<t.length:=(List.getElem?_eq_some_iff.mp hj).1
 have pl:=h.lead
 by_cases o:off t.length p j%2=1
 ·obtain⟨x',y,a,e1,e2,e3⟩:=h.at_ jl
  rw[hj] at e1;cases e1
  exact⟨_,y,e2,((h.link j x y a jl hj e2 e3).1 o).2,.inl ⟨o,rfl⟩⟩
 ·have o0:0<off t.length p j:=by
   rcases Nat.eq_zero_or_pos (off t.length p j) with e|e
   ·exact absurd (Em pl jl pl (e.trans (yV _ _).symm)) hp
   ·exact e
  obtain⟨i,hi,e⟩: ∃i,i<t.length/\nx t.length i=j:=by
   by_cases j0:j=0
   ·exact⟨t.length -1,by omega,by unfold nx;rw[if_pos (by omega)];exact j0.symm⟩
   ·exact⟨j -1,by omega,by unfold nx;rw[if_neg (by omega)];omega⟩
  have oi:off t.length p i+1=off t.length p j:=by
   subst e
   exact Ie pl hi o0
  obtain⟨x',y,a,e1,e2,e3⟩:=h.at_ hi
  rw[e,hj] at e2;cases e2
  have q:=((h.link i x' x a hi e1 (e▸hj) e3).1 (by omega)).2
  exact⟨i,x',e1,⟨q.2,q.1⟩,.inr ⟨by omega,e.symm⟩⟩
theorem hZ.Bp {p n:Nat} {l:List (Str×Str)} (h:hZ m t p l) (hk: ∀x∈t,KB m n x.k x.b x.ms) (hb: ∀x,t[p]? =some x->m x.b=none\/ ∃d,m x.b=some d/\ ∀y∈t,d∉y.ms) {i j:Nat} {x y:Kt} (hi:t[i]? =some x) (hj:t[j]? =some y) (ij:i≠j) {a c:Str} (ha:a∈x.ms) (hc:c∈y.ms) (e:m a=some c):(off t.length p i%2=1/\j=nx t.length i)\/(off t.length p j%2=1/\i=nx t.length j):=by
 have ab:a=x.b:=by
  refine Classical.byContradiction fun ne=> ?_
  obtain⟨d,hd,e2⟩:=(hk x (List.mem_of_getElem? hi)).FA a ha ne
  rw[e] at e2;cases e2
  exact ij (fo h.nd hi hj hd hc)
 subst ab
 by_cases ip:i=p
 ·subst ip
  rcases hb x hi with q|⟨d,q,hd⟩
  ·rw[e] at q;cases q
  ·rw[e] at q;cases q
   exact absurd hc (hd y (List.mem_of_getElem? hj))
 ·obtain⟨i',y',h1,h2,h3⟩:=h.sF hi ip
  rw[h2.1] at e;cases e
  have:=fo h.nd h1 hj (hk y' (List.mem_of_getElem? h1)).base hc
  subst this
  rcases h3 with ⟨a,b⟩|⟨a,b⟩
  ·exact .inl ⟨a,b⟩
  ·exact .inr ⟨a,b⟩
theorem hZ.apart {p n:Nat} {l:List (Str×Str)} (h:hZ m t p l) (h3:3<=t.length) (hk: ∀x∈t,KB m n x.k x.b x.ms) (hb: ∀x,t[p]? =some x->m x.b=none\/ ∃d,m x.b=some d/\ ∀y∈t,d∉y.ms) {j:Nat} (jl:j<t.length) (o:off t.length p j%2=0) {x y:Kt} (hx:t[j]? =some x) (hy:t[nx t.length j]? =some y) {q:Str×Str} (hq:l[j]? =some q) (hL:q∈L):E1 m L q.1 q.2/\q.1∈x.ms/\q.2∈y.ms:=by
 obtain⟨_,q1,q2⟩:=h.link j x y q jl hx hy hq
 have nn:j≠nx t.length j:=by
  unfold nx;split <;> omega
 have n2:j≠nx t.length (nx t.length j):=by
  by_cases e:j+1=t.length
  ·rw[Ia e,zZ (by omega)];omega
  ·rw[zZ e]
   by_cases e2:j+1+1=t.length
   ·rw[Ia e2];omega
   ·rw[zZ e2];omega
 refine⟨⟨.inl hL,fun e=> ?_,fun e=> ?_⟩,q1,q2⟩
 ·rcases h.Bp hk hb hx hy nn q1 q2 e with ⟨a,_⟩|⟨a,b⟩
  ·omega
  ·exact n2 b
 ·rcases h.Bp hk hb hy hx (Ne.symm nn) q2 q1 e with ⟨a,b⟩|⟨a,_⟩
  ·exact n2 b
  ·omega
end
end Sw
namespace Sw
open PySem PySem.Spec PyProof.Rows L2
section
variable {m m':Str->Option Str} {n:Nat} {k:aH} {b c:Str} {ms:List Str}
theorem KB.sF: ∀{n:Nat} {k:aH} {b:Str} {ms:List Str},KB m n k b ms-> ∀c∈ms,c≠b-> ∃d∈ms,d≠b/\m c=some d
 |0,_,_,_,h,_,_,_=>h.elim
 |n+1,.single c,_,_,h,d,hd,ne=>by
  rw[h.2] at hd
  exact absurd ((List.mem_singleton.mp hd).trans h.1.symm) ne
 |n+1,.group r l,b,_,⟨t,p,h1,h2,h3,h4,h5⟩,c,hc,ne=>by
  subst h4
  rw[(bg _).mem_iff,cI] at hc
  obtain⟨x,hx,cx⟩:=hc
  obtain⟨j,hj⟩:=List.getElem?_of_mem hx
  obtain⟨z,z1,z2⟩:=Option.map_eq_some_iff.mp h5
  have bz:b∈z.ms:=z2▸(h3 z (List.mem_of_getElem? z1)).base
  by_cases e:c=x.b
  ·have jp:j≠p:=fun e2=>ne (by
    subst e2
    rw[hj] at h5
    exact e.trans (Option.some.inj h5))
   obtain⟨i,y,hy,my,hr⟩:=h1.sF hj jp
   have by':=(h3 y (List.mem_of_getElem? hy)).base
   refine⟨y.b,?_,fun e2=> ?_,e▸my.1⟩
   ·rw[(bg _).mem_iff,cI]
    exact⟨y,List.mem_of_getElem? hy,by'⟩
   ·have ip:=fo h1.nd hy z1 by' (e2▸bz)
    subst ip
    have jl:=(List.getElem?_eq_some_iff.mp hj).1
    have pl:=h1.lead
    rcases hr with ⟨o,e3⟩|⟨o,e3⟩
    ·have:=C3 pl jl
     have odd:=h1.odd
     have o2:=Ic pl jl (by omega)
     rw[<-e3,yV] at o2;omega
    ·rw[yV] at o;omega
  ·obtain⟨d,hd,d1,md⟩:=(h3 x hx).sF c cx e
   refine⟨d,?_,fun e2=> ?_,md⟩
   ·rw[(bg _).mem_iff,cI]
    exact⟨x,hx,hd⟩
   ·have jp:=fo h1.nd hj z1 hd (e2▸bz)
    subst jp
    rw[hj] at z1;cases z1
    exact d1 (e2.trans z2.symm)
end
structure ia (ns:List Str) (L:List (Str×Str)) (M:Str->Option Str):Prop where
 sym: ∀a b,M a=some b->M b=some a
 inn: ∀a b,M a=some b->a∈ns
 edge: ∀a b,M a=some b->(a,b)∈L
theorem ia.inj {ns:List Str} {L:List (Str×Str)} {M:Str->Option Str} (h:ia ns L M) {a b c:Str} (h1:M a=some c) (h2:M b=some c):a=b:=by
 have e1:=h.sym _ _ h1
 rw[h.sym _ _ h2] at e1
 exact (Option.some.inj e1).symm
def nmK (x:Kt):Str:=x.ms.headD ""
structure fT (ns:List Str) (L:List (Str×Str)) (M:Str->Option Str) (ks:List Kt):Prop where
 perm:(ks.map (·.ms)).flatten.Perm ns
 kb: ∀x∈ks,KB M (hf x.ms) x.k x.b x.ms
 kl: ∀x∈ks,KL L (hf x.ms) x.k
section
variable {ns:List Str} {L:List (Str×Str)} {M:Str->Option Str} {ks:List Kt} {x y z:Kt} {a c d:Str}
theorem fT.nd (h:fT ns L M ks) (hn:ns.Nodup):(ks.map (·.ms)).flatten.Nodup:=h.perm.nodup_iff.mpr hn
theorem fT.one (h:fT ns L M ks) (hn:ns.Nodup) (hx:x∈ks) (hy:y∈ks) (h1:c∈x.ms) (h2:c∈y.ms):x=y:=by
 obtain⟨i,hi⟩:=List.getElem?_of_mem hx
 obtain⟨j,hj⟩:=List.getElem?_of_mem hy
 have:=fo (h.nd hn) hi hj h1 h2
 subst this
 rw[hi] at hj
 exact Option.some.inj hj
theorem fT.has (h:fT ns L M ks) (hc:c∈ns): ∃x∈ks,c∈x.ms:=cI.mp (h.perm.mem_iff.mpr hc)
theorem fT.inn (h:fT ns L M ks) (hx:x∈ks) (hc:c∈x.ms):c∈ns:=h.perm.mem_iff.mp (cI.mpr ⟨x,hx,hc⟩)
theorem Ni {m:Str->Option Str} {n:Nat} {k:aH} {b:Str} {ms:List Str} (h:KB m n k b ms):ms.headD "" ∈ms:=by
 have:=h.base
 cases ms with
 |nil=>cases this
 |cons a r=>exact List.mem_cons_self
theorem fT.nm (h:fT ns L M ks) (hx:x∈ks):nmK x∈x.ms:=Ni (h.kb x hx)
theorem fT.Nj (h:fT ns L M ks) (hn:ns.Nodup) (hx:x∈ks) (hy:y∈ks) (e:nmK x=nmK y):x=y:=h.one hn hx hy (h.nm hx) (e▸h.nm hy)
theorem fT.Eo (h:fT ns L M ks) (hn:ns.Nodup) (hx:x∈ks) (hy:y∈ks) (e:x.b=y.b):x=y:=h.one hn hx hy (h.kb x hx).base (e▸(h.kb y hy).base)
theorem fT.Bp (h:fT ns L M ks) (hn:ns.Nodup) (hM:ia ns L M) (hx:x∈ks) (hy:y∈ks) (ne:x≠y) (ha:a∈x.ms) (hc:c∈y.ms) (e:M a=some c):a=x.b/\c=y.b:=by
 constructor
 ·refine Classical.byContradiction fun q=> ?_
  obtain⟨d,hd,_,e2⟩:=(h.kb x hx).sF a ha q
  rw[e] at e2;cases e2
  exact ne (h.one hn hx hy hd hc)
 ·refine Classical.byContradiction fun q=> ?_
  obtain⟨d,hd,_,e2⟩:=(h.kb y hy).sF c hc q
  rw[hM.sym _ _ e] at e2;cases e2
  exact ne (h.one hn hx hy ha hd)
theorem fT.out (h:fT ns L M ks) (hn:ns.Nodup) (hM:ia ns L M) (hx:x∈ks) (e:M x.b=some d) (irr: ∀a,M a≠some a): ∃y∈ks,y≠x/\d=y.b:=by
 obtain⟨y,hy,hd⟩:=h.has (hM.inn _ _ (hM.sym _ _ e))
 have ne:y≠x:=fun q=>by
  subst q
  have:d≠y.b:=fun z=>irr _ (z▸e)
  obtain⟨g,hg,g2,e2⟩:=(h.kb y hy).sF d hd this
  rw[hM.sym _ _ e] at e2;cases e2
  exact g2 rfl
 exact⟨y,hy,ne,(h.Bp hn hM hx hy (Ne.symm ne) (h.kb x hx).base hd e).2⟩
theorem fT.len (h:fT ns L M ks) (hx:x∈ks):x.ms.length<=ns.length:=by
 have:=mQ (h.kb x hx).nodup fun a ha=>h.inn hx ha
 exact this
end
structure SI (ns:List Str) (L:List (Str×Str)) (o:bf) (ks:List Kt) (lv:Str->Nat) (rt:Str->Str):Prop where
 tops:fT ns L (aG o.mates.l) ks
 top: ∀x∈ks,∀c∈x.ms,aG o.top.l c=some x.k
 tk:(o.top.l.map (·.1)).Perm ns
 rk: ∀n r,aG o.roots.l n=some r-> ∃z∈ks,nmK z=n/\r=rt n
 ok: ∀n q,aG o.reached.l n=some q-> ∃x∈ks,nmK x=n
 rnd:(o.roots.l.map (·.1)).Nodup
 ond:(o.reached.l.map (·.1)).Nodup
 Ig: ∀z∈ks,(aG o.roots.l (nmK z)).isSome=true->(aG o.mates.l z.b=none/\rt (nmK z)=z.b)\/ ∃x∈ks,aG o.mates.l z.b=some x.b/\(aG o.reached.l (nmK x)).isSome=true
 odd: ∀x∈ks,∀q,aG o.reached.l (nmK x)=some q->aG o.roots.l (nmK x)=none/\q.2∈x.ms/\(q.1,q.2)∈L/\ ∃y∈ks,q.1∈y.ms/\(aG o.roots.l (nmK y)).isSome=true/\lv (nmK y)<lv (nmK x)/\rt (nmK y)=rt (nmK x)/\ ∃z∈ks,aG o.mates.l x.b=some z.b/\(aG o.roots.l (nmK z)).isSome=true/\lv (nmK x)<lv (nmK z)/\rt (nmK x)=rt (nmK z)
 wt: ∀c,c∈o.waiting↔ ∃z∈ks,c∈z.ms/\(aG o.roots.l (nmK z)).isSome=true
 wnd:o.waiting.Nodup
structure Gr (ns:List Str) (L:List (Str×Str)) (M:Str->Option Str):Prop where
 nd:ns.Nodup
 len:ns.length<=20
 sym: ∀a b,(a,b)∈L->(b,a)∈L
 irr: ∀a,(a,a)∉L
 inn: ∀a b,(a,b)∈L->a∈ns
 mates:ia ns L M
end Sw
namespace Sw
open PySem PySem.Spec PyProof.Rows L2
inductive LC (M:Str->Option Str):Bool->Kt->List Kt->List (Str×Str)->Kt->Prop where
 |nil {p a}:LC M p a [] [] a
 |step {p a c e q cs ls}:q.1∈a.ms->q.2∈c.ms->(p=true->q=(a.b,c.b)/\M a.b=some c.b/\M c.b=some a.b)->LC M (!p) c cs ls e->LC M p a (c::cs) (q::ls) e
section
variable {M:Str->Option Str}
theorem LC.app: ∀{p a cs ls e ds ms f},LC M p a cs ls e->ls.length%2=0->LC M p e ds ms f->LC M p a (cs++ds) (ls++ms) f
 |_,_,_,_,_,_,_,_,.nil,_,h=>h
 |_,_,_,_,_,_,_,_,.step _ _ _ .nil,hl,_=>by simp at hl
 |p,_,_,_,_,_,_,_,.step a1 a2 a3 (.step b1 b2 b3 r),hl,h=>.step a1 a2 a3 (.step b1 b2 b3 (by
   have:=LC.app (p:= !!p) r (by simp at hl;omega) (by rw[Bool.not_not];exact h)
   exact this))
theorem LC.at_: ∀{p a cs ls e},LC M p a cs ls e->cs.length=ls.length/\ ∀j q,ls[j]? =some q-> ∃x y,(a::cs)[j]? =some x/\(a::cs)[j+1]? =some y/\q.1∈x.ms/\q.2∈y.ms/\((decide (j%2=1)= !p)->q=(x.b,y.b)/\M x.b=some y.b/\M y.b=some x.b)
 |_,_,_,_,_,.nil=>⟨rfl,fun j q h=>by simp at h⟩
 |p,a,_,_,_,.step (c:=c) (q:=q0) a1 a2 a3 r=>by
  obtain⟨h1,h2⟩:=r.at_
  refine⟨congrArg (· +1) h1,fun j q h=> ?_⟩
  cases j with
  |zero=>
   cases h
   exact⟨a,c,rfl,rfl,a1,a2,fun e=>a3 (by cases p <;> simp at e⊢)⟩
  |succ j=>
   obtain⟨x,y,e1,e2,e3,e4,e5⟩:=h2 j q h
   refine⟨x,y,e1,e2,e3,e4,fun e=>e5 ?_⟩
   cases p <;> simp at e⊢ <;> omega
theorem LC.ring {w:Kt} {ts:List Kt} {ls:List (Str×Str)} (h:LC M false w (ts++[w]) ls w) (ho:ts.length%2=0) (nd:((w::ts).map (·.ms)).flatten.Nodup) (h3:3<=(w::ts).length):hZ M (w::ts) 0 ls:=by
 obtain⟨h1,h2⟩:=h.at_
 rw[List.length_append,List.length_singleton] at h1
 refine⟨by simp,by simp;omega,nd,by simp;omega,fun j x y a hj hx hy ha=> ?_,h3⟩
 obtain⟨x',y',e1,e2,e3,e4,e5⟩:=h2 j a ha
 simp only[List.length_cons] at hj hx hy⊢
 have ex:x'=x:=by
  rw[<-List.cons_append,List.getElem?_append_left (by simpa using hj),hx] at e1
  exact (Option.some.inj e1).symm
 have ey:y'=y:=by
  by_cases q:j+1=ts.length+1
  ·rw[Ia q] at hy
   rw[<-List.cons_append,List.getElem?_append_right (by simp;omega)] at e2
   rw[show j+1 -(w::ts).length=0 by simp;omega] at e2
   cases hy;cases e2;rfl
  ·rw[zZ q] at hy
   rw[<-List.cons_append,List.getElem?_append_left (by simp;omega),hy] at e2
   exact (Option.some.inj e2).symm
 subst ex;subst ey
 refine⟨fun o=>e5 ?_,e3,e4⟩
 rw[iS (Nat.zero_le _),Nat.sub_zero] at o
 simp[o]
end
structure Stq where
 x:Kt
 one:Str
 other:Str
 y:Kt
inductive Pth (M:Str->Option Str) (o:bf) (ks:List Kt):Kt->List Stq->Kt->Prop where
 |nil {z}:z∈ks->Pth M o ks z [] z
 |cons {z s r w}:z∈ks->s.x∈ks->M z.b=some s.x.b->aG o.reached.l (nmK s.x)=some (s.one,s.other)->s.other∈s.x.ms->s.one∈s.y.ms->Pth M o ks s.y r w->Pth M o ks z (s::r) w
def kn (z:Kt):List Stq->List Kt
 | []=>[]
 |s::r=>z::s.x::kn s.y r
def ln (z:Kt):List Stq->List (Str×Str)
 | []=>[]
 |s::r=>(z.b,s.x.b)::(s.other,s.one)::ln s.y r
def fw:List Stq->List Kt
 | []=>[]
 |s::r=>s.x::s.y::fw r
def evs (z:Kt):List Stq->List Kt
 | []=>[z]
 |s::r=>z::evs s.y r
section
variable {M:Str->Option Str} {o:bf} {ks:List Kt} {z w:Kt} {ss:List Stq}
theorem O3: ∀{z ss w},Pth M o ks z ss w->kn z ss++[w]=z::fw ss
 |_,_,_,.nil _=>rfl
 |_,_,_,.cons _ _ _ _ _ _ r=>by
  show _::_::(kn _ _++[_])=_
  rw[O3 r];rfl
theorem C4: ∀(z:Kt) (ss:List Stq),(kn z ss).length=2*ss.length
 |_,[]=>rfl
 |z,s::r=>by
  show (kn s.y r).length+2=_
  rw[C4,List.length_cons];omega
theorem Ih: ∀(z:Kt) (ss:List Stq),(ln z ss).length=2*ss.length
 |_,[]=>rfl
 |z,s::r=>by
  show (ln s.y r).length+2=_
  rw[Ih,List.length_cons];omega
theorem Pth.zk: ∀{z ss w},Pth M o ks z ss w->z∈ks
 |_,_,_,.nil h=>h
 |_,_,_,.cons h _ _ _ _ _ _=>h
theorem Pth.wk: ∀{z ss w},Pth M o ks z ss w->w∈ks
 |_,_,_,.nil h=>h
 |_,_,_,.cons _ _ _ _ _ _ r=>r.wk
theorem Pth.lc {ns:List Str} {L:List (Str×Str)} (hT:fT ns L M ks) (hs: ∀a b,M a=some b->M b=some a): ∀{z ss w},Pth M o ks z ss w->LC M true z (fw ss) (ln z ss) w
 |_,_,_,.nil _=>.nil
 |_,_,_,.cons h1 h2 h3 h4 h5 h6 r=>.step (hT.kb _ h1).base (hT.kb _ h2).base (fun _=>⟨rfl,h3,hs _ _ h3⟩) (.step h5 h6 (fun e=>by cases e) (by
   have:=Pth.lc hT hs r
   exact this))
theorem Pth.cl {ns:List Str} {L:List (Str×Str)} (hT:fT ns L M ks) (hs: ∀a b,M a=some b->M b=some a): ∀{z ss w},Pth M o ks z ss w->LC M false w (kn z ss).reverse ((ln z ss).reverse.map fun q=>(q.2,q.1)) z
 |_,_,_,.nil _=>.nil
 |z,s::r,w,.cons h1 h2 h3 h4 h5 h6 r'=>by
  have ih:=Pth.cl hT hs r'
  have e1:(kn z (s::r)).reverse=(kn s.y r).reverse++[s.x,z]:=by
   show (z::s.x::kn s.y r).reverse=_
   simp
  have e2:((ln z (s::r)).reverse.map fun q=>(q.2,q.1))=((ln s.y r).reverse.map fun q=>(q.2,q.1))++[(s.one,s.other),(s.x.b,z.b)]:=by
   show ((((z.b,s.x.b)::(s.other,s.one)::ln s.y r).reverse).map fun q=>(q.2,q.1))=_
   simp
  rw[e1,e2]
  refine LC.app ih (by rw[List.length_map,List.length_reverse,Ih];omega) ?_
  exact .step h6 h5 (fun e=>by cases e) (.step (hT.kb _ h2).base (hT.kb _ h1).base (fun _=>⟨rfl,hs _ _ h3,h3⟩) .nil)
end
end Sw
namespace Sw
open PySem PySem.Spec PyProof.Rows L2
def EvK (o:bf) (z:Kt):Prop:=(aG o.roots.l (nmK z)).isSome=true
section
variable {ns:List Str} {L:List (Str×Str)} {o:bf} {ks:List Kt} {lv:Str->Nat} {rt:Str->Str} {z w x y:Kt}
structure UpS (L:List (Str×Str)) (o:bf) (ks:List Kt) (lv:Str->Nat) (rt:Str->Str) (z:Kt) (s:Stq):Prop where
 xk:s.x∈ks
 yk:s.y∈ks
 mz:aG o.mates.l z.b=some s.x.b
 rd:aG o.reached.l (nmK s.x)=some (s.one,s.other)
 ot:s.other∈s.x.ms
 on:s.one∈s.y.ms
 ed:(s.one,s.other)∈L
 ny:aG o.roots.l (nmK s.x)=none
 ey:EvK o s.y
 l1:lv (nmK s.y)<lv (nmK s.x)
 l2:lv (nmK s.x)<lv (nmK z)
 r1:rt (nmK s.y)=rt (nmK z)
 r2:rt (nmK s.x)=rt (nmK z)
theorem SI.up (h:SI ns L o ks lv rt) (g:Gr ns L (aG o.mates.l)) (hz:z∈ks) (ez:EvK o z):(aG o.mates.l z.b=none/\rt (nmK z)=z.b)\/ ∃s,UpS L o ks lv rt z s:=by
 rcases h.Ig z hz ez with a|⟨x,hx,mx,ox⟩
 ·exact .inl a
 ·obtain⟨q,hq⟩:=Option.isSome_iff_exists.mp ox
  obtain⟨h1,h2,h3,y,hy,h4,h5,h6,h7,z',hz',h8,h9,h10,h11⟩:=h.odd x hx q hq
  have e:=g.mates.sym _ _ mx
  rw[h8] at e
  have:=h.tops.Eo g.nd hz' hz (Option.some.inj e)
  subst this
  exact .inr ⟨⟨x,q.1,q.2,y⟩,hx,hy,mx,hq,h2,h4,h3,h1,h5,h6,h10,h7.trans h11,h11⟩
end
inductive mT (L:List (Str×Str)) (o:bf) (ks:List Kt) (lv:Str->Nat) (rt:Str->Str):Kt->List Stq->Kt->Prop where
 |nil {z}:z∈ks->EvK o z->mT L o ks lv rt z [] z
 |cons {z s r w}:z∈ks->EvK o z->UpS L o ks lv rt z s->mT L o ks lv rt s.y r w->mT L o ks lv rt z (s::r) w
section
variable {ns:List Str} {L:List (Str×Str)} {o:bf} {ks:List Kt} {lv:Str->Nat} {rt:Str->Str} {z w x y:Kt}
theorem mT.pth: ∀{z ss w},mT L o ks lv rt z ss w->Pth (aG o.mates.l) o ks z ss w
 |_,_,_,.nil h _=>.nil h
 |_,_,_,.cons h _ u r=>.cons h u.xk u.mz u.rd u.ot u.on r.pth
theorem mT.zk: ∀{z ss w},mT L o ks lv rt z ss w->z∈ks/\EvK o z
 |_,_,_,.nil h e=>⟨h,e⟩
 |_,_,_,.cons h e _ _=>⟨h,e⟩
theorem mT.wk: ∀{z ss w},mT L o ks lv rt z ss w->w∈ks/\EvK o w/\rt (nmK w)=rt (nmK z)/\lv (nmK w)<=lv (nmK z)
 |_,_,_,.nil h e=>⟨h,e,rfl,Nat.le_refl _⟩
 |_,_,_,.cons h e u r=>by
  obtain⟨a,b,c,d⟩:=r.wk
  exact⟨a,b,c.trans u.r1,by have:=u.l1;have:=u.l2;omega⟩
def ek (z:Kt):List Stq->List Kt
 | []=>[]
 |s::r=>z::ek s.y r
theorem xB: ∀{z ss w},mT L o ks lv rt z ss w-> ∀v∈ek z ss,v∈ks/\EvK o v/\lv (nmK w)<lv (nmK v)/\ ∃x∈kn z ss,aG o.mates.l v.b=some x.b
 |_,_,_,.nil _ _,v,hv=>by cases hv
 |z,s::r,w,.cons h e u p,v,hv=>by
  rcases List.mem_cons.mp hv with rfl|hv
  ·exact⟨h,e,by have:=p.wk.2.2.2;have:=u.l1;have:=u.l2;omega,s.x,List.mem_cons_of_mem _ List.mem_cons_self,u.mz⟩
  ·obtain⟨a,b,c,x,d,f⟩:=xB p v hv
   exact⟨a,b,c,x,List.mem_cons_of_mem _ (List.mem_cons_of_mem _ d),f⟩
theorem C5: ∀{z ss w},mT L o ks lv rt z ss w-> ∀v∈kn z ss,v∈ks/\rt (nmK v)=rt (nmK z)/\lv (nmK w)<lv (nmK v)/\lv (nmK v)<=lv (nmK z)/\((v∈ek z ss/\EvK o v)\/(aG o.roots.l (nmK v)=none/\(aG o.reached.l (nmK v)).isSome=true/\ ∃u∈ek z ss,aG o.mates.l u.b=some v.b))
 |_,_,_,.nil _ _,v,hv=>by cases hv
 |z,s::r,w,.cons h e u p,v,hv=>by
  have hw:=p.wk.2.2.2
  have a1:=u.l1
  have a2:=u.l2
  rcases List.mem_cons.mp hv with rfl|hv
  ·exact⟨h,rfl,by omega,Nat.le_refl _,.inl ⟨List.mem_cons_self,e⟩⟩
  ·rcases List.mem_cons.mp hv with rfl|hv
   ·exact⟨u.xk,u.r2,by omega,by omega,.inr ⟨u.ny,by rw[u.rd];rfl,z,List.mem_cons_self,u.mz⟩⟩
   ·obtain⟨b1,b2,b3,b4,b5⟩:=C5 p v hv
    refine⟨b1,b2.trans u.r1,b3,by omega,?_⟩
    rcases b5 with ⟨c1,c2⟩|⟨c1,c2,q,c3,c4⟩
    ·exact .inl ⟨List.mem_cons_of_mem _ c1,c2⟩
    ·exact .inr ⟨c1,c2,q,List.mem_cons_of_mem _ c3,c4⟩
theorem mT.links (g:Gr ns L (aG o.mates.l)): ∀{z ss w},mT L o ks lv rt z ss w-> ∀q∈ln z ss,q∈L
 |_,_,_,.nil _ _,q,hq=>by cases hq
 |z,s::r,w,.cons h e u p,q,hq=>by
  rcases List.mem_cons.mp hq with rfl|hq
  ·exact g.mates.edge _ _ u.mz
  ·rcases List.mem_cons.mp hq with rfl|hq
   ·exact g.sym _ _ u.ed
   ·exact p.links g q hq
theorem mT.first (P:Kt->Prop): ∀{z ss w},mT L o ks lv rt z ss w->(∃v∈evs z ss,P v)-> ∃s1 v,mT L o ks lv rt z s1 v/\P v/\(∀u∈ek z s1,¬P u)/\ ∃post,evs z ss=ek z s1++v::post
 |z,_,_,.nil h e,⟨v,hv,pv⟩=>by
  rw[List.mem_singleton.mp hv] at pv
  exact⟨[],z,.nil h e,pv,(fun u hu=>by cases (show u∈([]:List Kt) from hu)),[],rfl⟩
 |z,s::r,w,.cons h e u p,⟨v,hv,pv⟩=>by
  rcases Classical.em (P z) with q|q
  ·exact⟨[],z,.nil h e,q,(fun u hu=>by cases (show u∈([]:List Kt) from hu)),evs s.y r,rfl⟩
  ·rcases List.mem_cons.mp hv with rfl|hv
   ·exact absurd pv q
   ·obtain⟨s1,v1,p1,h1,h2,post,h3⟩:=mT.first P p ⟨v,hv,pv⟩
    refine⟨s::s1,v1,.cons h e u p1,h1,fun u' hu=> ?_,post,?_⟩
    ·rcases List.mem_cons.mp hu with rfl|hu
     ·exact q
     ·exact h2 u' hu
    ·show z::evs s.y r=z::(ek s.y s1++v1::post)
     rw[h3]
end
structure WP (L:List (Str×Str)) (o:bf) (ks:List Kt) (lv:Str->Nat) (rt:Str->Str) (c:Str) (z:Kt) (row:List Str):Prop where
 zk:z∈ks
 ez:EvK o z
 odd:row.length%2=1
 head:row.head? =some c
 last:row.getLast? =some z.b
 nd:row.Nodup
 inn: ∀a∈row,∃v∈ks,a∈v.ms/\lv (nmK z)<=lv (nmK v)/\rt (nmK v)=rt (nmK z)/\(EvK o v\/(aG o.reached.l (nmK v)).isSome=true)
 alt:Alt (E0 (aG o.mates.l)) (E1 (aG o.mates.l) L) row
section
variable {ns:List Str} {L:List (Str×Str)} {o:bf} {ks:List Kt} {lv:Str->Nat} {rt:Str->Str} {z w x y:Kt} {c:Str} {row r1 r2:List Str}
theorem WP.start (hz:z∈ks) (ez:EvK o z) (h:Led (aG o.mates.l) L z.ms c z.b row):WP L o ks lv rt c z row:=
 ⟨hz,ez,h.odd,h.head,h.last,h.nd,fun a ha=>⟨z,hz,h.inn a ha,Nat.le_refl _,rfl,.inl ez⟩,h.alt⟩
theorem UpS.e1 (h:SI ns L o ks lv rt) (g:Gr ns L (aG o.mates.l)) (hz:z∈ks) {s:Stq} (u:UpS L o ks lv rt z s):E1 (aG o.mates.l) L s.other s.one:=by
 have xy:s.x≠s.y:=fun e=>by
  have:=u.l1
  rw[e] at this;omega
 have key:aG o.mates.l s.other≠some s.one:=fun e=>by
  obtain⟨e1,e2⟩:=h.tops.Bp g.nd g.mates u.xk u.yk xy u.ot u.on e
  rw[e1,e2] at e
  have e3:=g.mates.sym _ _ u.mz
  rw[e] at e3
  have:=h.tops.Eo g.nd u.yk hz (Option.some.inj e3)
  have a1:=u.l1
  have a2:=u.l2
  rw[this] at a1;omega
 exact⟨.inr u.ed,key,fun e=>key (g.mates.sym _ _ e)⟩
theorem WP.step (h:SI ns L o ks lv rt) (g:Gr ns L (aG o.mates.l)) (hw:WP L o ks lv rt c z row) {s:Stq} (u:UpS L o ks lv rt z s) (h1:Led (aG o.mates.l) L s.x.ms s.other s.x.b r1) (h2:Led (aG o.mates.l) L s.y.ms s.one s.y.b r2):WP L o ks lv rt c s.y (row++r1.reverse++r2):=by
 have a1:=u.l1
 have a2:=u.l2
 have o1:=hw.odd
 have o2:=h1.odd
 have o3:=h2.odd
 have dis: ∀{u' v:Kt},u'∈ks->v∈ks-> ∀{a:Str},a∈u'.ms->a∈v.ms->u'=v:=fun {u' v} hu hv {a} ha hb=>h.tops.one g.nd hu hv ha hb
 refine⟨u.yk,u.ey,by simp;omega,?_,?_,?_,fun a ha=> ?_,?_⟩
 ·rw[List.append_assoc,List.head?_append,hw.head];rfl
 ·rw[List.getLast?_append,h2.last];rfl
 ·rw[List.nodup_append,List.nodup_append]
  refine⟨⟨hw.nd,(List.reverse_perm r1).nodup_iff.mpr h1.nd,fun a ha b hb e=> ?_⟩,h2.nd,fun a ha b hb e=> ?_⟩
  ·subst e
   obtain⟨v,v1,v2,v3,v4⟩:=hw.inn a ha
   have:=dis v1 u.xk v2 (h1.inn a (List.mem_reverse.mp hb))
   subst this
   omega
  ·subst e
   rcases List.mem_append.mp ha with ha|ha
   ·obtain⟨v,v1,v2,v3,v4⟩:=hw.inn a ha
    have:=dis v1 u.yk v2 (h2.inn a hb)
    subst this
    omega
   ·have:=dis u.xk u.yk (h1.inn a (List.mem_reverse.mp ha)) (h2.inn a hb)
    rw[this] at a1;omega
 ·rcases List.mem_append.mp ha with ha|ha
  ·rcases List.mem_append.mp ha with ha|ha
   ·obtain⟨v,v1,v2,v3,v4⟩:=hw.inn a ha
    exact⟨v,v1,v2,by omega,v4.1.trans u.r1.symm,v4.2⟩
   ·exact⟨s.x,u.xk,h1.inn a (List.mem_reverse.mp ha),by omega,u.r2.trans u.r1.symm,.inr (by rw[u.rd];rfl)⟩
  ·exact⟨s.y,u.yk,h2.inn a ha,Nat.le_refl _,rfl,.inl u.ey⟩
 ·rw[List.append_assoc]
  refine Alt.app _ (Nat.le_refl _) o1 hw.alt hw.last (b:=s.x.b) ?_ ⟨u.mz,g.mates.sym _ _ u.mz⟩ ?_
  ·rw[List.head?_append,List.head?_reverse,h1.last];rfl
  ·exact Alt.app _ (Nat.le_refl _) (by rw[List.length_reverse];exact o2) (h1.alt.rev E0.symm E1.symm _ (Nat.le_refl _) o2) (a:=s.other) (by rw[List.getLast?_reverse];exact h1.head) h2.head (u.e1 h g hw.zk) h2.alt
theorem WP.len (h:SI ns L o ks lv rt) (hw:WP L o ks lv rt c z row):row.length<=ns.length:=mQ hw.nd fun a ha=>by
 obtain⟨v,v1,v2,_⟩:=hw.inn a ha
 exact h.tops.inn v1 v2
end
end Sw
namespace Sw
open PySem PySem.Spec PyProof.Rows L2
theorem Ii {κ α:Type} [DecidableEq κ] {k:κ} {x:α} {l:List (κ×α)} (h:(l.map (·.1)).Nodup):((bW l k x).map (·.1)).Nodup:=by
 by_cases q:k∈l.map (·.1)
 ·rw[eV q];exact h
 ·rw[yc q]
  exact List.nodup_append.mpr ⟨h,by simp,fun a ha b hb e=>q (by rw[List.mem_singleton.mp hb] at e;exact e▸ha)⟩
def Nk (o:bf) (n:Str) (ms:List Str) (r:Str):bf:={o with roots:=⟨bW o.roots.l n r⟩,waiting:=o.waiting++ms.filter fun c=> !decide (c∈o.waiting)}
section
variable {ns:List Str} {L:List (Str×Str)} {o:bf} {ks:List Kt} {lv:Str->Nat} {rt:Str->Str} {z w x y:Kt} {one other:Str}
theorem Ij {ws ms:List Str} {c:Str}:c∈ws++ms.filter (fun c=> !decide (c∈ws))↔c∈ws\/c∈ms:=by
 rw[List.mem_append,List.mem_filter]
 by_cases h:c∈ws <;> simp[h]
theorem Kx {ws ms:List Str} (h1:ws.Nodup) (h2:ms.Nodup):(ws++ms.filter (fun c=> !decide (c∈ws))).Nodup:=List.nodup_append.mpr ⟨h1,h2.filter _,fun a ha b hb e=>by
 have:=(List.mem_filter.mp hb).2
 subst e
 simp[ha] at this⟩
theorem SI.root (h:SI ns L o ks lv rt) (g:Gr ns L (aG o.mates.l)) (hz:z∈ks) (nz:aG o.roots.l (nmK z)=none) (oz:aG o.reached.l (nmK z)=none) (mz:aG o.mates.l z.b=none):
  ∃lv' rt',SI ns L (Nk o (nmK z) z.ms z.b) ks lv' rt':=by
 have inj: ∀{u v:Kt},u∈ks->v∈ks->nmK u=nmK v->u=v:=fun hu hv e=>h.tops.Nj g.nd hu hv e
 have rg: ∀n,aG (bW o.roots.l (nmK z) z.b) n=if n=nmK z then some z.b else aG o.roots.l n:=fun n=>fE _ _ _ _
 refine⟨lv,fun n=>if n=nmK z then z.b else rt n,h.tops,h.top,h.tk,fun n r e=> ?_,h.ok,Ii h.rnd,h.ond,fun v hv ev=> ?_,fun v hv q e=> ?_,fun c=> ?_,Kx h.wnd (h.tops.kb z hz).nodup⟩
 ·have e:=(rg n).symm.trans e
  by_cases q:n=nmK z
  ·rw[if_pos q] at e;cases e
   exact⟨z,hz,q.symm,by rw[if_pos q]⟩
  ·rw[if_neg q] at e
   obtain⟨v,hv,e1,e2⟩:=h.rk n r e
   exact⟨v,hv,e1,by rw[if_neg q];exact e2⟩
 ·have ev:=(congrArg Option.isSome (rg (nmK v))).symm.trans ev
  by_cases q:nmK v=nmK z
  ·have:=inj hv hz q
   subst this
   exact .inl ⟨mz,by rw[if_pos rfl]⟩
  ·rw[if_neg q] at ev
   rcases h.Ig v hv ev with ⟨a,b⟩|a
   ·exact .inl ⟨a,by rw[if_neg q];exact b⟩
   ·exact .inr a
 ·obtain⟨a1,a2,a3,y1,b1,b2,b3,b4,b5,z1,c1,c2,c3,c4,c5⟩:=h.odd v hv q e
  have vz:nmK v≠nmK z:=fun r=>by
   have e':aG o.reached.l (nmK v)=some q:=e
   rw[r,oz] at e';cases e'
  have n1:nmK y1≠nmK z:=fun r=>by rw[r,nz] at b3;cases b3
  have n2:nmK z1≠nmK z:=fun r=>by rw[r,nz] at c3;cases c3
  refine⟨by show aG (bW _ _ _) _=none;rw[rg,if_neg vz];exact a1,a2,a3,y1,b1,b2,?_,b4,?_,z1,c1,c2,?_,c4,?_⟩
  ·show (aG (bW _ _ _) _).isSome=true
   rw[rg,if_neg n1];exact b3
  ·rw[if_neg n1,if_neg vz];exact b5
  ·show (aG (bW _ _ _) _).isSome=true
   rw[rg,if_neg n2];exact c3
  ·rw[if_neg n2,if_neg vz];exact c5
 ·show c∈o.waiting++_↔_
  rw[Ij,h.wt c]
  constructor
  ·rintro (⟨v,hv,a,b⟩|a)
   ·refine⟨v,hv,a,?_⟩
    show (aG (bW _ _ _) _).isSome=true
    rw[rg]
    split
    ·rfl
    ·exact b
   ·refine⟨z,hz,a,?_⟩
    show (aG (bW _ _ _) _).isSome=true
    rw[rg,if_pos rfl];rfl
  ·rintro⟨v,hv,a,b⟩
   have b:=(congrArg Option.isSome (rg (nmK v))).symm.trans b
   by_cases q:nmK v=nmK z
   ·exact .inr (inj hv hz q▸a)
   ·rw[if_neg q] at b
    exact .inl ⟨v,hv,a,b⟩
end
end Sw
namespace Sw
open PySem PySem.Spec PyProof.Rows L2
theorem vQ {xs ys:List Str} (h1:xs.Nodup) (h2:ys.Nodup) (h: ∀a,a∈xs↔a∈ys):xs.Perm ys:=by
 have e:qM xs=qM ys:=risingS (zT h1) (zT h2) fun a=>by rw[(bg xs).mem_iff,(bg ys).mem_iff];exact h a
 exact (bg xs).symm.trans (e▸bg ys)
def rgT (z1 z2 w:Kt) (s1 s2:List Stq):List Kt:=w::((kn z1 s1).reverse++kn z2 s2)
structure yX (L:List (Str×Str)) (o:bf) (ks:List Kt) (lv:Str->Nat) (rt:Str->Str) (z1 z2 w:Kt) (s1 s2:List Stq):Prop where
 p1:mT L o ks lv rt z1 s1 w
 p2:mT L o ks lv rt z2 s2 w
 ap: ∀u∈ek z1 s1,u∉ek z2 s2
 ne:z1≠z2
section
variable {ns:List Str} {L:List (Str×Str)} {o o1:bf} {ks:List Kt} {lv:Str->Nat} {rt:Str->Str} {z1 z2 w:Kt} {s1 s2:List Stq} {a b:Str}
theorem yX.len (m:yX L o ks lv rt z1 z2 w s1 s2):3<=(rgT z1 z2 w s1 s2).length/\(rgT z1 z2 w s1 s2).length=2*s1.length+2*s2.length+1:=by
 have e:(rgT z1 z2 w s1 s2).length=2*s1.length+2*s2.length+1:=by
  unfold rgT
  rw[List.length_cons,List.length_append,List.length_reverse,C4,C4]
 refine⟨?_,e⟩
 rw[e]
 rcases s1 with _|⟨q1,s1⟩
 ·rcases s2 with _|⟨q2,s2⟩
  ·cases m.p1
   cases m.p2
   exact absurd rfl m.ne
  ·simp;omega
 ·simp;omega
theorem yX.mem (m:yX L o ks lv rt z1 z2 w s1 s2) {v:Kt} (hv:v∈rgT z1 z2 w s1 s2):v=w\/v∈kn z1 s1\/v∈kn z2 s2:=by
 rcases List.mem_cons.mp hv with e|hv
 ·exact .inl e
 ·rcases List.mem_append.mp hv with e|e
  ·exact .inr (.inl (List.mem_reverse.mp e))
  ·exact .inr (.inr e)
theorem yX.facts (h:SI ns L o ks lv rt) (m:yX L o ks lv rt z1 z2 w s1 s2) {v:Kt} (hv:v∈rgT z1 z2 w s1 s2):v∈ks/\rt (nmK v)=rt (nmK w)/\lv (nmK w)<=lv (nmK v)/\(v=w\/((v∈ek z1 s1\/v∈ek z2 s2)/\EvK o v)\/(aG o.roots.l (nmK v)=none/\ ∃u∈rgT z1 z2 w s1 s2,u≠w/\EvK o u/\aG o.mates.l u.b=some v.b)):=by
 obtain⟨w1,w2,w3,w4⟩:=m.p1.wk
 obtain⟨_,_,w5,_⟩:=m.p2.wk
 have ekm: ∀{z:Kt} {s:List Stq} {w':Kt},mT L o ks lv rt z s w'-> ∀u∈ek z s,u∈kn z s:=by
  intro z s w' p
  induction p with
  |nil=>intro u hu;cases hu
  |cons h e us p ih=>
   intro u hu
   rcases List.mem_cons.mp hu with rfl|hu
   ·exact List.mem_cons_self
   ·exact List.mem_cons_of_mem _ (List.mem_cons_of_mem _ (ih u hu))
 rcases m.mem hv with rfl|e|e
 ·exact⟨w1,rfl,Nat.le_refl _,.inl rfl⟩
 ·obtain⟨a1,a2,a3,a4,a5⟩:=C5 m.p1 v e
  refine⟨a1,a2.trans w3.symm,Nat.le_of_lt a3,.inr ?_⟩
  rcases a5 with ⟨c1,c2⟩|⟨c1,c2,u,c3,c4⟩
  ·exact .inl ⟨.inl c1,c2⟩
  ·obtain⟨f1,f2,f3,_⟩:=xB m.p1 u c3
   refine .inr ⟨c1,u,List.mem_cons_of_mem _ (List.mem_append_left _ (List.mem_reverse.mpr (ekm m.p1 u c3))),fun e=> ?_,f2,c4⟩
   rw[e] at f3;omega
 ·obtain⟨a1,a2,a3,a4,a5⟩:=C5 m.p2 v e
  refine⟨a1,a2.trans w5.symm,Nat.le_of_lt a3,.inr ?_⟩
  rcases a5 with ⟨c1,c2⟩|⟨c1,c2,u,c3,c4⟩
  ·exact .inl ⟨.inr c1,c2⟩
  ·obtain⟨f1,f2,f3,_⟩:=xB m.p2 u c3
   refine .inr ⟨c1,u,List.mem_cons_of_mem _ (List.mem_append_right _ (ekm m.p2 u c3)),fun e=> ?_,f2,c4⟩
   rw[e] at f3;omega
end
end Sw
namespace Sw
open PySem PySem.Spec PyProof.Rows L2
structure Aug (ns:List Str) (L:List (Str×Str)) (M:Str->Option Str) (R:Str->Prop) (row:List Str):Prop where
 ev:row.length%2=0
 ne:row≠[]
 nd:row.Nodup
 inn: ∀a∈row,a∈ns
 alt:Alt (E1 M L) (E0 M) row
 head: ∃a,row.head? =some a/\M a=none/\R a
 last: ∃b,row.getLast? =some b/\M b=none
section
variable {ns:List Str} {L:List (Str×Str)} {M M':Str->Option Str} {R:Str->Prop} {row:List Str}
theorem Aug.inside (h:Aug ns L M R row) (hs: ∀a b,M a=some b->M b=some a) {c d:Str} (hc:c∈row) (e:M c=some d):d∈row:=by
 obtain⟨i,hi⟩:=List.getElem?_of_mem hc
 obtain⟨il,ei⟩:=List.getElem?_eq_some_iff.mp hi
 have ev:=h.ev
 by_cases p:i%2=1
 ·by_cases q:i+1<row.length
  ·have:=h.alt.at_ i q
   rw[if_neg (by omega)] at this
   have t:=this.1
   rw[ei,e] at t
   cases t
   exact List.getElem_mem _
  ·obtain⟨b,hb,nb⟩:=h.last
   rw[List.getLast?_eq_getElem?,show row.length -1=i by omega,hi] at hb
   cases hb
   rw[e] at nb;cases nb
 ·by_cases q:i=0
  ·obtain⟨a,ha,na,_⟩:=h.head
   rw[List.head?_eq_getElem?,←q,hi] at ha
   cases ha
   rw[e] at na;cases na
  ·have:=h.alt.at_ (i -1) (by omega)
   rw[if_neg (by omega)] at this
   have t:=this.2
   have e2:row[i -1+1]'(by omega)=c:=by
    have:i -1+1=i:=by omega
    simp only[this]
    exact ei
   rw[e2,e] at t
   cases t
   exact List.getElem_mem _
structure Ky (M M':Str->Option Str) (row:List Str):Prop where
 on: ∀i (h:i+1<row.length),i%2=0->M' (row[i]'(by omega))=some row[i+1]/\M' row[i+1]=some (row[i]'(by omega))
 off: ∀c,c∉row->M' c=M c
theorem Ky.FA (f:Ky M M' row) (hl:row.length%2=0) {c:Str} (hc:c∈row): ∃d∈row,M' c=some d/\M' d=some c/\ ∃i,∃(h:i+1<row.length),i%2=0/\((c=row[i]'(by omega)/\d=row[i+1])\/(d=row[i]'(by omega)/\c=row[i+1])):=by
 obtain⟨i,hi⟩:=List.getElem?_of_mem hc
 obtain⟨il,ei⟩:=List.getElem?_eq_some_iff.mp hi
 by_cases p:i%2=0
 ·have h:i+1<row.length:=by omega
  obtain⟨a,b⟩:=f.on i h p
  rw[ei] at a b
  exact⟨_,List.getElem_mem h,a,b,i,h,p,.inl ⟨ei.symm,rfl⟩⟩
 ·have h:i -1+1<row.length:=by omega
  obtain⟨a,b⟩:=f.on (i -1) h (by omega)
  have e2:row[i -1+1]'h=c:=by
   have:i -1+1=i:=by omega
   simp only[this]
   exact ei
  rw[e2] at a b
  exact⟨_,List.getElem_mem (by omega:i -1<row.length),b,a,i -1,h,by omega,.inr ⟨rfl,e2.symm⟩⟩
theorem Ky.ok (f:Ky M M' row) (h:Aug ns L M R row) (hM:ia ns L M) (hL: ∀a b,(a,b)∈L->(b,a)∈L):ia ns L M':=by
 have key: ∀a b,M' a=some b->M' b=some a/\a∈ns/\(a,b)∈L:=by
  intro a b e
  by_cases ha:a∈row
  ·obtain⟨d,hd,e1,e2,i,hi,p,hc⟩:=f.FA h.ev ha
   rw[e] at e1;cases e1
   refine⟨e2,h.inn a ha,?_⟩
   have al:=h.alt.at_ i hi
   rw[if_pos p] at al
   have ed:(row[i]'(by omega),row[i+1])∈L:=al.1.elim id (hL _ _)
   rcases hc with ⟨rfl,rfl⟩|⟨rfl,rfl⟩
   ·exact ed
   ·exact hL _ _ ed
  ·rw[f.off a ha] at e
   have hb:b∉row:=fun hb=>ha (h.inside hM.sym hb (hM.sym _ _ e))
   exact⟨by rw[f.off b hb];exact hM.sym _ _ e,hM.inn _ _ e,hM.edge _ _ e⟩
 exact⟨fun a b e=>(key a b e).1,fun a b e=>(key a b e).2.1,fun a b e=>(key a b e).2.2⟩
end
def qF (w:Wb):List (Str×Str):=w.l.flatMap fun p=>p.2.l.map fun q=>(p.1,q.1)
theorem mU {ns:List Str} {w:Wb} (h:iK ns w) (hn:ns.Nodup) {a b:Str}:(a,b)∈qF w↔ ∃v,wk w a b=some v:=by
 have kn:(w.l.map (·.1)).Nodup:=by rw[h.keys];exact hn
 unfold qF
 rw[List.mem_flatMap]
 constructor
 ·rintro⟨p,hp,hq⟩
  obtain⟨q,hq',e⟩:=List.mem_map.mp hq
  cases e
  have e1:=l5 kn (show (p.1,p.2)∈w.l from hp)
  have rn:=h.rows p.1
  rw[Ei e1] at rn
  exact⟨q.2,by rw[OY e1];exact l5 rn (show (q.1,q.2)∈p.2.l from hq')⟩
 ·rintro⟨v,hv⟩
  obtain⟨r,e1,e2⟩:=Le hv
  refine⟨(a,r),?_,List.mem_map.mpr ⟨(b,v),?_,rfl⟩⟩
  ·exact mH e1
  ·exact mH e2
end Sw
namespace Sw
open PySem PySem.Spec PyProof.Rows L2
theorem Bq: ∀{l:List (List Str)},(∀y∈l,y.length%2=1)->l.flatten.length%2=l.length%2
 | [],_=>rfl
 |y::l,h=>by
  rw[List.flatten_cons,List.length_append,List.length_cons]
  have h1:=h y List.mem_cons_self
  have h2:=Bq (l:=l) fun z hz=>h z (List.mem_cons_of_mem _ hz)
  omega
theorem KB.z0 {m:Str->Option Str}: ∀{n:Nat} {k:aH} {b:Str} {ms:List Str},KB m n k b ms->ms.length%2=1
 |0,_,_,_,h=>h.elim
 |n+1,.single c,_,_,h=>by rw[h.2];rfl
 |n+1,.group r l,b,_,⟨t,p,h1,h2,h3,h4,h5⟩=>by
  have:=Bq (l:=t.map (·.ms)) fun y hy=>by
   obtain⟨x,hx,rfl⟩:=List.mem_map.mp hy
   exact (h3 x hx).z0
  rw[List.length_map] at this
  have:=h1.odd
  rw[h4,yQ]
  omega
theorem tO {N:Str->Option Str} (hs: ∀a b,N a=some b->N b=some a) (hi: ∀a,N a≠some a): ∀(n:Nat) {l:List Str},l.length<=n->l.Nodup->(∀c∈l,∃d∈l,N c=some d)->l.length%2=0
 |_,[],_,_,_=>rfl
 |0,c::l,h,_,_=>by simp at h
 |n+1,c::l,hl,nd,h=>by
  obtain⟨d,hd,e⟩:=h c List.mem_cons_self
  have dc:d≠c:=fun q=>hi c (q▸e)
  have dl:d∈l:=by
   rcases List.mem_cons.mp hd with q|q
   ·exact absurd q dc
   ·exact q
  rw[List.nodup_cons] at nd
  have le:(l.erase d).length+1=l.length:=by
   rw[List.length_erase_of_mem dl]
   have:=List.length_pos_of_mem dl
   omega
  rw[List.length_cons] at hl
  have ih:=tO hs hi n (l:=l.erase d) (by omega) (nd.2.erase d) fun a ha=>by
   have hal:=List.mem_of_mem_erase ha
   obtain⟨f,hf,ef⟩:=h a (List.mem_cons_of_mem _ hal)
   have fd:f≠d:=fun q=>by
    subst q
    have:=hs _ _ ef
    rw[hs _ _ e] at this
    cases this
    exact nd.1 hal
   have fc:f≠c:=fun q=>by
    subst q
    have:=hs _ _ ef
    rw[e] at this
    cases this
    exact (List.Nodup.mem_erase_iff nd.2).mp ha|>.1 rfl
   rcases List.mem_cons.mp hf with q|q
   ·exact absurd q fc
   ·exact⟨f,(List.Nodup.mem_erase_iff nd.2).mpr ⟨fd,q⟩,ef⟩
  rw[List.length_cons]
  omega
structure Cert (ns:List Str) (L:List (Str×Str)) (M:Str->Option Str) (A:List Str) (zs:List Kt):Prop where
 kb: ∀z∈zs,KB M (hf z.ms) z.k z.b z.ms
 kl: ∀z∈zs,KL L (hf z.ms) z.k
 zn:(zs.map (·.ms)).flatten.Nodup
 zi: ∀z∈zs,∀c∈z.ms,c∈ns
 an:A.Nodup
 ai: ∀c∈A,c∈ns
 az: ∀z∈zs,∀c∈z.ms,c∉A
 cl: ∀z∈zs,∀a b,(a,b)∈L->a∈z.ms->b∈z.ms\/b∈A
 cnt:(ns.filter fun c=> !(M c).isSome).length+A.length=zs.length
 rest: ∀c∈ns,c∉A->(∀z∈zs,c∉z.ms)-> ∃d,M c=some d/\d∉A/\ ∀z∈zs,d∉z.ms
section
variable {ns:List Str} {L:List (Str×Str)} {M N:Str->Option Str} {A:List Str} {zs:List Kt}
theorem Br (h:Cert ns L M A zs):zs.Nodup:=by
 rw[List.nodup_iff_pairwise_ne,List.pairwise_iff_getElem]
 intro i j hi hj ij e
 have hm:=(h.kb _ (List.getElem_mem hi)).base
 have:=fo h.zn (List.getElem?_eq_getElem hi) (List.getElem?_eq_getElem hj) hm (e▸hm)
 omega
theorem nodup_map_on {α β:Type} {f:α->β}: ∀{l:List α},l.Nodup->(∀a∈l,∀b∈l,f a=f b->a=b)->(l.map f).Nodup
 | [],_,_=>List.nodup_nil
 |a::l,h,g=>by
  rw[List.nodup_cons] at h
  rw[List.map_cons,List.nodup_cons]
  refine⟨fun m=> ?_,nodup_map_on h.2 fun x hx y hy e=>g x (List.mem_cons_of_mem _ hx) y (List.mem_cons_of_mem _ hy) e⟩
  obtain⟨b,hb,e⟩:=List.mem_map.mp m
  have:=g b (List.mem_cons_of_mem _ hb) a List.mem_cons_self e
  subst this
  exact h.1 hb
theorem Cert.bound (h:Cert ns L M A zs) (hn:ns.Nodup) (hN:ia ns L N) (irr: ∀a,(a,a)∉L):zs.length<=(ns.filter fun c=> !(N c).isSome).length+A.length:=by
 classical
 have hi: ∀a,N a≠some a:=fun a e=>irr a (hN.edge _ _ e)
 have key: ∀z∈zs,∃g,∃c∈z.ms,(N c=none/\g=c)\/(N c=some g/\g∈A):=fun z hz=>by
  refine Classical.byContradiction fun q=> ?_
  have par:=tO hN.sym hi z.ms.length (Nat.le_refl _) (h.kb z hz).nodup fun c hc=>by
   cases e:N c with
   |none=>exact absurd ⟨c,c,hc,.inl ⟨e,rfl⟩⟩ q
   |some d=>
    refine⟨d,?_,rfl⟩
    rcases h.cl z hz c d (hN.edge _ _ e) hc with a|a
    ·exact a
    ·exact absurd ⟨d,c,hc,.inr ⟨e,a⟩⟩ q
  have:=(h.kb z hz).z0
  omega
 let f:Kt->Str:=fun z=>if hz:z∈zs then Classical.choose (key z hz) else ""
 have hf: ∀z∈zs,∃c∈z.ms,(N c=none/\f z=c)\/(N c=some (f z)/\f z∈A):=fun z hz=>by
  have e:f z=Classical.choose (key z hz):=dif_pos hz
  rw[e]
  exact Classical.choose_spec (key z hz)
 have one: ∀x∈zs,∀y∈zs,∀c,c∈x.ms->c∈y.ms->x=y:=fun x hx y hy c h1 h2=>by
  obtain⟨i,hi⟩:=List.getElem?_of_mem hx
  obtain⟨j,hj⟩:=List.getElem?_of_mem hy
  have:=fo h.zn hi hj h1 h2
  subst this
  rw[hi] at hj
  exact Option.some.inj hj
 have nd:(zs.map f).Nodup:=nodup_map_on (Br h) fun x hx y hy e=>by
  obtain⟨c,hc,c1⟩:=hf x hx
  obtain⟨d,hd,d1⟩:=hf y hy
  rcases c1 with ⟨_,c2⟩|⟨c2,c3⟩
  ·rcases d1 with ⟨_,d2⟩|⟨_,d3⟩
   ·have:c=d:=by rw[<-c2,←d2,e]
    subst this
    exact one x hx y hy c hc hd
   ·exact absurd (by rw[<-c2,e];exact d3) (h.az x hx c hc)
  ·rcases d1 with ⟨_,d2⟩|⟨d2,_⟩
   ·exact absurd (by rw[<-d2,←e];exact c3) (h.az y hy d hd)
   ·rw[<-e] at d2
    have:=hN.inj c2 d2
    subst this
    exact one x hx y hy c hc hd
 have:=mQ nd (ys:=(ns.filter fun c=> !(N c).isSome)++A) fun g hg=>by
  obtain⟨z,hz,rfl⟩:=List.mem_map.mp hg
  obtain⟨c,hc,c1⟩:=hf z hz
  rcases c1 with ⟨c1,c2⟩|⟨_,c3⟩
  ·refine List.mem_append_left _ (List.mem_filter.mpr ⟨by rw[c2];exact h.zi z hz c hc,by rw[c2,c1];rfl⟩)
  ·exact List.mem_append_right _ c3
 rw[List.length_map,List.length_append] at this
 exact this
theorem nU {α:Type} (p:α->Bool): ∀l:List α,l.length=(l.filter p).length+(l.filter fun a=> !p a).length
 | []=>rfl
 |a::l=>by
  have:=nU p l
  rw[List.filter_cons,List.filter_cons]
  cases p a <;> simp <;> omega
end
end Sw
namespace Sw
open PySem PySem.Spec PyProof.Rows L2
section
variable {ns:List Str} {w:Wb} {M:Str->Option Str} {P:Str->Prop}
theorem Ik (hw:iK ns w) (hn:ns.Nodup) {a b:Str} (e:(a,b)∈qF w) (nb: ¬P b):Rch w P a b:=by
 obtain⟨v,hv⟩:=(mU hw hn).mp e
 exact .step .refl hv nb
theorem KB.conn (hw:iK ns w) (hn:ns.Nodup): ∀{n:Nat} {k:aH} {b:Str} {ms:List Str},KB M n k b ms->KL (qF w) n k->(∀c∈ms,¬P c)-> ∀a∈ms,∀c∈ms,Rch w P a c
 |0,_,_,_,h,_,_,_,_,_,_=>h.elim
 |n+1,.single s,_,_,h,_,_,a,ha,c,hc=>by
  rw[h.2] at ha hc
  rw[List.mem_singleton.mp ha,List.mem_singleton.mp hc]
  exact .refl
 |n+1,.group r l,b,ms,⟨t,p,h1,h2,h3,h4,h5⟩,⟨k1,k2⟩,hP,a,ha,c,hc=>by
  subst h2
  have mm: ∀a,a∈ms↔ ∃x∈t,a∈x.ms:=fun a=>by rw[h4,(bg _).mem_iff,cI]
  have sub: ∀x∈t,∀a∈x.ms,∀c∈x.ms,Rch w P a c:=fun x hx=>(h3 x hx).conn hw hn (k2 _ (List.mem_map_of_mem hx)) fun c hc=>hP c ((mm c).mpr ⟨x,hx,hc⟩)
  have pos:0<t.length:=by have:=h1.lead;omega
  have from0: ∀(j:Nat) (x0 xj:Kt),t[0]? =some x0->t[j]? =some xj-> ∀a∈x0.ms,∀c∈xj.ms,Rch w P a c:=by
   intro j
   induction j with
   |zero=>
    intro x0 xj e0 ej a ha c hc
    rw[e0] at ej;cases ej
    exact sub x0 (List.mem_of_getElem? e0) a ha c hc
   |succ j ih=>
    intro x0 xj e0 ej a ha c hc
    have jl:=(List.getElem?_eq_some_iff.mp ej).1
    obtain⟨x,y,q,g1,g2,g3⟩:=h1.at_ (show j<t.length by omega)
    rw[zZ (by omega),ej] at g2
    cases g2
    obtain⟨_,q1,q2⟩:=h1.link j x xj q (by omega) g1 (by rw[zZ (by omega)];exact ej) g3
    have xm:=List.mem_of_getElem? ej
    refine (ih x0 x e0 g1 a ha q.1 q1).trans ((Ik hw hn (k1 q (List.mem_of_getElem? g3)) (hP _ ((mm _).mpr ⟨xj,xm,q2⟩))).trans (sub xj xm q.2 q2 c hc))
  obtain⟨x,hx,ax⟩:=(mm a).mp ha
  obtain⟨y,hy,cy⟩:=(mm c).mp hc
  obtain⟨i,hi⟩:=List.getElem?_of_mem hx
  obtain⟨j,hj⟩:=List.getElem?_of_mem hy
  have e0:=List.getElem?_eq_getElem pos
  have b0:=(h3 _ (List.getElem_mem pos)).base
  have m0:=hP _ ((mm _).mpr ⟨_,List.getElem_mem pos,b0⟩)
  exact ((from0 i _ x e0 hi _ b0 a ax).symm hw m0).trans (from0 j _ y e0 hj _ b0 c cy)
end
end Sw
namespace Sw
open PySem PySem.Spec PyProof.Rows L2
def Mt (L:List (Str×Str)) (l:List Str) (k:Nat):Prop:= ∃qs:List (Str×Str),qs.length=k/\gG qs/\(∀q∈qs,q∈L)/\ ∀q∈qs,q.1∈l/\q.2∈l
def Gm (L:List (Str×Str)) (l:List Str) (k:Nat):Prop:=Mt L l k/\ ∀j,Mt L l j->j<=k
section
variable {L:List (Str×Str)} {l:List Str} {a:Str}
theorem Mt.sub {l':List Str} {k:Nat} (h:Mt L l k) (s: ∀c∈l,c∈l'):Mt L l' k:=by
 obtain⟨qs,h1,h2,h3,h4⟩:=h
 exact⟨qs,h1,h2,h3,fun q hq=>⟨s _ (h4 q hq).1,s _ (h4 q hq).2⟩⟩
theorem Gm.nil:Gm L [] 0:=⟨⟨[],rfl,List.nodup_nil,(fun q hq=>by cases hq),(fun q hq=>by cases hq)⟩,fun j ⟨qs,h1,_,_,h4⟩=>by
 cases qs with
 |nil=>simp at h1;omega
 |cons q qs=>cases (h4 q List.mem_cons_self).1⟩
theorem Mt.split {k:Nat} (hs: ∀a b,(a,b)∈L->(b,a)∈L) (h:Mt L (a::l) k):Mt L l k\/ ∃b∈l,(a,b)∈L/\Mt L (l.filter fun c=> !decide (c=b)) (k -1)/\1<=k:=by
 obtain⟨qs,h1,h2,h3,h4⟩:=h
 by_cases ha:a∈bA qs
 ·obtain⟨q,hq,e⟩:=fm.mp ha
  obtain⟨pre,post,eq⟩:=List.append_of_mem hq
  have pm:qs.Perm (q::(pre++post)):=by rw[eq];exact List.perm_middle
  have ap:=Bl pm h2
  have ap2:([q.1,q.2]++bA (pre++post)).Nodup:=ap
  rw[List.nodup_append] at ap2
  obtain⟨n1,n2,n3⟩:=ap2
  have q12:q.1≠q.2:=by simp at n1;exact n1
  obtain⟨b,hab,hne⟩: ∃b,((a=q.1/\b=q.2)\/(a=q.2/\b=q.1))/\b≠a:=by
   rcases e with e|e
   ·exact⟨q.2,.inl ⟨e,rfl⟩,fun x=>q12 (e.symm.trans x.symm)⟩
   ·exact⟨q.1,.inr ⟨e,rfl⟩,fun x=>q12 (x.trans e)⟩
  have bl:b∈l:=by
   have:b∈a::l:=by
    rcases hab with ⟨_,e2⟩|⟨_,e2⟩
    ·rw[e2];exact (h4 q hq).2
    ·rw[e2];exact (h4 q hq).1
   rcases List.mem_cons.mp this with x|x
   ·exact absurd x hne
   ·exact x
  have ed:(a,b)∈L:=by
   rcases hab with ⟨e1,e2⟩|⟨e1,e2⟩
   ·rw[e1,e2];exact h3 q hq
   ·rw[e1,e2];exact hs _ _ (h3 q hq)
  have le:=pm.length_eq
  rw[List.length_cons] at le
  have pin: ∀r∈pre++post,r∈qs:=fun r hr=>pm.mem_iff.mpr (List.mem_cons_of_mem _ hr)
  have inl: ∀r∈pre++post,∀x,(x=r.1\/x=r.2)->x∈l.filter fun c=> !decide (c=b):=fun r hr x hx=>by
   have xe:x∈bA (pre++post):=fm.mpr ⟨r,hr,hx⟩
   have x1:x≠q.1:=fun e=>n3 q.1 (by simp) x xe e.symm
   have x2:x≠q.2:=fun e=>n3 q.2 (by simp) x xe e.symm
   have xa:x≠a/\x≠b:=by
    rcases hab with ⟨e1,e2⟩|⟨e1,e2⟩
    ·rw[e1,e2];exact⟨x1,x2⟩
    ·rw[e1,e2];exact⟨x2,x1⟩
   have:x∈a::l:=by
    rcases hx with e|e
    ·rw[e];exact (h4 r (pin r hr)).1
    ·rw[e];exact (h4 r (pin r hr)).2
   rcases List.mem_cons.mp this with y|y
   ·exact absurd y xa.1
   ·exact List.mem_filter.mpr ⟨y,by simpa using xa.2⟩
  refine .inr ⟨b,bl,ed,⟨pre++post,by omega,n2,fun r hr=>h3 r (pin r hr),fun r hr=>⟨inl r hr _ (.inl rfl),inl r hr _ (.inr rfl)⟩⟩,by omega⟩
 ·refine .inl ⟨qs,h1,h2,h3,fun q hq=> ?_⟩
  obtain⟨a1,a2⟩:=h4 q hq
  constructor
  ·rcases List.mem_cons.mp a1 with x|x
   ·exact absurd (fm.mpr ⟨q,hq,.inl x.symm⟩) ha
   ·exact x
  ·rcases List.mem_cons.mp a2 with x|x
   ·exact absurd (fm.mpr ⟨q,hq,.inr x.symm⟩) ha
   ·exact x
end
theorem Cert.gm {ns:List Str} {L:List (Str×Str)} {M:Str->Option Str} {A:List Str} {zs:List Kt} (c:Cert ns L M A zs) (g:Gr ns L M) {ps:List (Str×Str)} (hp:gG ps) (he: ∀p∈ps,p∈L) (hc:2*ps.length+(ns.filter fun c=> !(M c).isSome).length=ns.length):Gm L ns ps.length:=by
 refine⟨⟨ps,rfl,hp,he,fun q hq=>⟨g.inn _ _ (he q hq),g.inn _ _ (g.sym _ _ (he q hq))⟩⟩,fun j ⟨qs,h1,h2,h3,h4⟩=> ?_⟩
 obtain⟨N,hN⟩: ∃N:Str->Option Str,∀x y,N x=some y↔(x,y)∈qs\/(y,x)∈qs:=by
  refine⟨fun x=>aG (qs.flatMap fun p=>[(p.1,p.2),(p.2,p.1)]) x,fun x y=> ?_⟩
  have kn:((qs.flatMap fun p=>[(p.1,p.2),(p.2,p.1)]).map (·.1)).Nodup:=by
   have:(qs.flatMap fun p=>[(p.1,p.2),(p.2,p.1)]).map (·.1)=bA qs:=by
    unfold bA
    rw[List.map_flatMap]
    rfl
   rw[this];exact h2
  have mem:(x,y)∈(qs.flatMap fun p=>[(p.1,p.2),(p.2,p.1)])↔(x,y)∈qs\/(y,x)∈qs:=by
   rw[List.mem_flatMap]
   constructor
   ·rintro⟨p,hp,h⟩
    rcases List.mem_cons.mp h with e|e
    ·cases e;exact .inl hp
    ·have:=List.mem_singleton.mp e
     cases this;exact .inr hp
   ·rintro (h|h)
    ·exact⟨_,h,List.mem_cons_self⟩
    ·exact⟨_,h,by simp⟩
  rw[<-mem]
  exact⟨fun h=>mH h,fun h=>l5 kn h⟩
 have MN:ia ns L N:=by
  refine⟨fun a b e=>(hN b a).mpr ((hN a b).mp e).symm,fun a b e=> ?_,fun a b e=> ?_⟩
  ·rcases (hN a b).mp e with q|q
   ·exact (h4 _ q).1
   ·exact (h4 _ q).2
  ·rcases (hN a b).mp e with q|q
   ·exact h3 _ q
   ·exact g.sym _ _ (h3 _ q)
 have b:=c.bound g.nd MN g.irr
 have e:(bA qs).length=(ns.filter fun c=>(N c).isSome).length:=by
  refine (vQ h2 (g.nd.filter _) fun x=> ?_).length_eq
  rw[fm,List.mem_filter]
  constructor
  ·rintro⟨q,hq,e⟩
   rcases e with rfl|rfl
   ·exact⟨(h4 q hq).1,by rw[(hN q.1 q.2).mpr (.inl hq)];rfl⟩
   ·exact⟨(h4 q hq).2,by rw[(hN q.2 q.1).mpr (.inr hq)];rfl⟩
  ·rintro⟨_,e⟩
   obtain⟨d,hd⟩:=Option.isSome_iff_exists.mp e
   rcases (hN x d).mp hd with q|q
   ·exact⟨_,q,.inl rfl⟩
   ·exact⟨_,q,.inr rfl⟩
 rw[xo] at e
 have:=nU (fun c=>(N c).isSome) ns
 have:=c.cnt
 omega
end Sw
namespace Sw
open PySem PySem.Spec PyProof.Rows L2
def Sv (P:List (Str×Str)) (x:Str):Prop:= ∃y,mt P x y
noncomputable def mO (P:List (Str×Str)) (x:Str):Option Str:=by
 classical exact if h: ∃y,mt P x y then some (Classical.choose h) else none
section
variable {ns:List Str} {w:Wb} {P Q:List (Str×Str)} {x y c l:Str} {row:List Str}
theorem qV (hP:Plan w P):mO P x=some y↔mt P x y:=by
 unfold mO
 constructor
 ·intro h
  by_cases q: ∃y,mt P x y
  ·rw[dif_pos q] at h
   cases h
   exact Classical.choose_spec q
  ·rw[dif_neg q] at h;cases h
 ·intro h
  have q: ∃y,mt P x y:=⟨y,h⟩
  rw[dif_pos q]
  exact congrArg some (qU hP (Classical.choose_spec q) h)
theorem Ep:mO P x=none↔ ¬Sv P x:=by
 unfold mO Sv
 by_cases q: ∃y,mt P x y
 ·rw[dif_pos q];simp[q]
 ·rw[dif_neg q];simp[q]
theorem Er (hw:iK ns w) (hP:Plan w P) (h:mt P x y): ∃v,wk w x y=some v:=by
 rcases h with h|h
 ·exact hP.swap _ h
 ·obtain⟨v,hv⟩:=hP.swap _ h
  exact⟨v,hw.sym _ _ _ hv⟩
theorem O4 (hw:iK ns w) (hn:ns.Nodup) (hP:Plan w P):ia ns (qF w) (mO P):=
 ⟨fun a b e=>(qV hP).mpr (nO ((qV hP).mp e)),fun a b e=>by
  obtain⟨v,hv⟩:=Er hw hP ((qV hP).mp e)
  exact (hw.inside hv).1,fun a b e=>(mU hw hn).mpr (Er hw hP ((qV hP).mp e))⟩
theorem Sv.inn (hw:iK ns w) (hP:Plan w P) (h:Sv P x):x∈ns:=by
 obtain⟨y,h⟩:=h
 obtain⟨v,hv⟩:=Er hw hP h
 exact (hw.inside hv).1
theorem vR (hw:iK ns w) (hP:Plan w P) {es:List (Str×Str)} (h:tM w P es) (ne:x≠y):mt (qE P (es.map nP)) x y↔(mt P x y/\ ¬((x,y)∈es\/(y,x)∈es))\/(((x,y)∈es\/(y,x)∈es)/\ ¬mt P x y):=by
 have hp:=yS hP (h.turn hw hP)
 have e1:=uz hp (e:=(x,y)) ne
 have e2:=uz hP (e:=(x,y)) ne
 have e3:nP (x,y)∈es.map nP↔((x,y)∈es\/(y,x)∈es):=by
  rw[List.mem_map]
  constructor
  ·rintro⟨e,he,q⟩
   have ee:=h.ne e he
   rcases yR ee with ⟨a,_⟩|⟨a,_⟩ <;> rcases yR (e:=(x,y)) ne with ⟨b,_⟩|⟨b,_⟩
   ·rw[a,b] at q;exact .inl (q▸he)
   ·rw[a,b] at q;exact .inr (q▸he)
   ·rw[a,b] at q
    have:e=(y,x):=Prod.ext (congrArg Prod.snd q) (congrArg Prod.fst q)
    exact .inr (this▸he)
   ·rw[a,b] at q
    have:e=(x,y):=Prod.ext (congrArg Prod.snd q) (congrArg Prod.fst q)
    exact .inl (this▸he)
  ·rintro (he|he)
   ·exact⟨_,he,rfl⟩
   ·exact⟨_,he,vN _ _⟩
 show mt _ (x,y).1 (x,y).2↔_
 rw[<-e1,mS,e3]
 show (nP (x,y)∈P/\_)\/_↔_
 rw[e2]
structure Way (L:List (Str×Str)) (M:Str->Option Str) (l c:Str) (row:List Str):Prop where
 odd:row.length%2=1
 head:row.head? =some l
 last:row.getLast? =some c
 nd:row.Nodup
 alt:Alt (E0 M) (E1 M L) row
 un:M c=none
theorem Way.at0 {L:List (Str×Str)} {M:Str->Option Str} (h:Way L M l c row) (p:0<row.length):row[0]=l:=by
 have:=h.head
 rw[List.head?_eq_getElem?,List.getElem?_eq_getElem p] at this
 exact Option.some.inj this
theorem Way.atE {L:List (Str×Str)} {M:Str->Option Str} (h:Way L M l c row) (p:row.length -1<row.length):row[row.length -1]=c:=by
 have:=h.last
 rw[List.getLast?_eq_getElem?,List.getElem?_eq_getElem p] at this
 exact Option.some.inj this
theorem Way.HU (hw:iK ns w) (hn:ns.Nodup) (hP:Plan w P) (h:Way (qF w) (mO P) l c row):tM w P (eds row):=by
 have odd:=h.odd
 have ev: ∀i (hi:i+1<row.length),i%2=0->mt P (row[i]'(by omega)) row[i+1]:=fun i hi e=>by
  have:=h.alt.at_ i hi
  rw[if_pos e] at this
  exact (qV hP).mp this.1
 have od: ∀i (hi:i+1<row.length),i%2=1->E1 (mO P) (qF w) (row[i]'(by omega)) row[i+1]:=fun i hi e=>by
  have:=h.alt.at_ i hi
  rw[if_neg (by omega)] at this
  exact this
 refine⟨(mC h.nd).1,(mC h.nd).2,fun e he=> ?_,?_,fun e he x hx y hy=> ?_⟩
 ·obtain⟨i,hi,rfl⟩:=lh he
  by_cases q:i%2=0
  ·exact Er hw hP (ev i hi q)
  ·rcases (od i hi (by omega)).1 with g|g
   ·exact (mU hw hn).mp g
   ·obtain⟨v,hv⟩:=(mU hw hn).mp g
    exact⟨v,hw.sym _ _ _ hv⟩
 ·have nn:(sC P (eds row)).Nodup:=by
   have:=(mC h.nd).1
   have h2:(eds row).Nodup:=List.nodup_iff_pairwise_ne.mpr (List.Pairwise.of_map nP (fun a b (h:nP a≠nP b) e=>h (by rw[e])) (List.nodup_iff_pairwise_ne.mp this))
   exact h2.filter _
  refine xr nn (fun p hp=>(mC h.nd).2 p (lO.mp hp).1) fun p hp q hq x hx hy=> ?_
  obtain⟨p1,p2⟩:=lO.mp hp
  obtain⟨q1,q2⟩:=lO.mp hq
  obtain⟨i,hi,rfl⟩:=lh p1
  obtain⟨j,hj,rfl⟩:=lh q1
  have i1:i%2=1:=Classical.byContradiction fun e=>p2 (ev i hi (by omega))
  have j1:j%2=1:=Classical.byContradiction fun e=>q2 (ev j hj (by omega))
  have ij:i=j:=by
   rcases hx with e|e <;> rcases hy with f|f <;> have k:=jz h.nd (e.symm.trans f) <;> omega
  subst ij
  rfl
 ·have hxr:x∈row:=by
   have:=mw he
   rcases hx with e|e <;> (rw[e];first|exact this.1|exact this.2)
  obtain⟨i,hi,rfl⟩:=List.mem_iff_getElem.mp hxr
  by_cases q:i%2=0
  ·by_cases q2:i+1<row.length
   ·left
    rw[qU hP hy (ev i q2 q)]
    exact l9 row i q2
   ·have:i=row.length -1:=by omega
    subst this
    rw[h.atE hi] at hy
    exact absurd ⟨y,hy⟩ (Ep.mp h.un)
  ·right
   have hi':i -1+1<row.length:=by omega
   have ee:i -1+1=i:=by omega
   have:=ev (i -1) hi' (by omega)
   simp only[ee] at this
   rw[qU hP hy (nO this)]
   have:=l9 row (i -1) hi'
   simp only[ee] at this
   exact this
theorem Way.turn (hw:iK ns w) (hn:ns.Nodup) (hP:Plan w P) (h:Way (qF w) (mO P) l c row) (ne:l≠c):Plan w (qE P (alo false row))/\ ∀x,Sv (qE P (alo false row)) x↔(x≠l/\Sv P x)\/x=c:=by
 have ek:=h.HU hw hn hP
 have odd:=h.odd
 have len:3<=row.length:=by
  refine Classical.byContradiction fun q=> ?_
  have e1:row.length=1:=by omega
  have a:=h.at0 (by omega)
  have b:=h.atE (by omega)
  simp only[e1,Nat.sub_self] at b
  exact ne (a.symm.trans b)
 rw[Ek]
 have hp:=yS hP (ek.turn hw hP)
 have ev: ∀i (hi:i+1<row.length),i%2=0->mt P (row[i]'(by omega)) row[i+1]:=fun i hi e=>by
  have:=h.alt.at_ i hi
  rw[if_pos e] at this
  exact (qV hP).mp this.1
 have od: ∀i (hi:i+1<row.length),i%2=1->mt (qE P ((eds row).map nP)) (row[i]'(by omega)) row[i+1]:=fun i hi e=>by
  have:=h.alt.at_ i hi
  rw[if_neg (by omega)] at this
  have ge:=l9 row i hi
  exact (vR hw hP ek ((mC h.nd).2 _ ge)).mpr (.inr ⟨.inl ge,fun m=>this.2.1 ((qV hP).mpr m)⟩)
 have l0:row[0]'(by omega)=l:=h.at0 (by omega)
 have lE:=h.atE (by omega)
 refine⟨hp,fun x=> ?_⟩
 by_cases hx:x∈row
 ·obtain⟨i,hi,rfl⟩:=List.mem_iff_getElem.mp hx
  by_cases i0:i=0
  ·subst i0
   rw[l0]
   constructor
   ·rintro⟨y,hy⟩
    have ly:l≠y:=xq hp hy
    rcases (vR hw hP ek ly).mp hy with ⟨a,b⟩|⟨a,b⟩
    ·have e0:=ev 0 (by omega) rfl
     rw[l0] at e0
     have:=qU hP a e0
     subst this
     have g:=l9 row 0 (by omega)
     rw[l0] at g
     exact absurd (.inl g) b
    ·rcases a with a|a
     ·obtain⟨j,hj,e⟩:=lh a
      have e1:row[0]'(by omega)=row[j]'(by omega):=by rw[l0];exact congrArg Prod.fst e
      have:=jz h.nd e1
      subst this
      refine absurd ?_ b
      have e0:=ev 0 hj rfl
      rw[l0] at e0
      rw[show y=row[0+1] from congrArg Prod.snd e]
      exact e0
     ·obtain⟨j,hj,e⟩:=lh a
      have e1:row[0]'(by omega)=row[j+1]:=by rw[l0];exact congrArg Prod.snd e
      have:=jz h.nd e1
      omega
   ·rintro (⟨a,_⟩|a)
    ·exact absurd rfl a
    ·exact absurd a ne
  ·have s1:Sv (qE P ((eds row).map nP)) row[i]:=by
    by_cases q:i%2=1
    ·exact⟨_,od i (by omega) q⟩
    ·have:=od (i -1) (by omega) (by omega)
     have ee:i -1+1=i:=by omega
     simp only[ee] at this
     exact⟨_,nO this⟩
   refine⟨fun _=> ?_,fun _=>s1⟩
   have xl:row[i]≠l:=fun e=>by
    rw[<-l0] at e
    exact i0 (jz h.nd e)
   by_cases q:i=row.length -1
   ·subst q;exact .inr lE
   ·left
    refine⟨xl,?_⟩
    by_cases q2:i%2=0
    ·exact⟨_,ev i (by omega) q2⟩
    ·have:=ev (i -1) (by omega) (by omega)
     have ee:i -1+1=i:=by omega
     simp only[ee] at this
     exact⟨_,nO this⟩
 ·have nE: ∀y,¬((x,y)∈eds row\/(y,x)∈eds row):=fun y m=>by
   rcases m with m|m
   ·exact hx (mw m).1
   ·exact hx (mw m).2
  have xl:x≠l:=fun e=>hx (by rw[e,←l0];exact List.getElem_mem _)
  have xc:x≠c:=fun e=>hx (by rw[e,←lE];exact List.getElem_mem _)
  constructor
  ·rintro⟨y,hy⟩
   rcases (vR hw hP ek (xq hp hy)).mp hy with ⟨a,_⟩|⟨a,_⟩
   ·exact .inl ⟨xl,y,a⟩
   ·exact absurd a (nE y)
  ·rintro (⟨_,y,hy⟩|e)
   ·exact⟨y,(vR hw hP ek (xq hP hy)).mpr (.inl ⟨hy,nE y⟩)⟩
   ·exact absurd e xc
end
def Nl (w:Wb) (X:Str->Prop) (c:Str):Prop:= ∀N,Plan w N->Sv N c->(∀x,X x->Sv N x)->False
end Sw
namespace Sw
open PySem PySem.Spec PyProof.Rows L2
structure Tree (ns:List Str) (L:List (Str×Str)) (M:Str->Option Str) (A:List Str) (zs:List Kt) (c:Str):Prop where
 kb: ∀z∈zs,KB M (hf z.ms) z.k z.b z.ms
 kl: ∀z∈zs,KL L (hf z.ms) z.k
 zn:(zs.map (·.ms)).flatten.Nodup
 zi: ∀z∈zs,∀x∈z.ms,x∈ns
 an:A.Nodup
 ai: ∀x∈A,x∈ns
 az: ∀z∈zs,∀x∈z.ms,x∉A
 cl: ∀z∈zs,∀a b,(a,b)∈L->a∈z.ms->b∈z.ms\/b∈A
 cnt:A.length+1=zs.length
 sv: ∀z∈zs,∀x∈z.ms,x≠c->(M x).isSome=true
 root: ∃z∈zs,c∈z.ms
section
variable {ns:List Str} {L:List (Str×Str)} {M N:Str->Option Str} {A:List Str} {zs:List Kt} {c:Str}
theorem Tree.one (h:Tree ns L M A zs c) {x y:Kt} (hx:x∈zs) (hy:y∈zs) {d:Str} (h1:d∈x.ms) (h2:d∈y.ms):x=y:=by
 obtain⟨i,hi⟩:=List.getElem?_of_mem hx
 obtain⟨j,hj⟩:=List.getElem?_of_mem hy
 have:=fo h.zn hi hj h1 h2
 subst this
 rw[hi] at hj
 exact Option.some.inj hj
end
def Mx (ns:List Str) (w:Wb) (P:List (Str×Str)):Prop:= ∀N,ia ns (qF w) N->(ns.filter fun c=>(mO P c).isNone).length<=(ns.filter fun c=>(N c).isNone).length
structure Nm (ns:List Str) (w:Wb) (ah:Str->Str->Prop) (P:List (Str×Str)) (pre:List Str):Prop where
 pl:Plan w P
 mx:Mx ns w P
 ba: ∀c∈pre,¬Sv P c->Nl w (fun x=>ah x c/\Sv P x) c
section
variable {ns:List Str} {w:Wb} {P P':List (Str×Str)} {ah:Str->Str->Prop} {pre:List Str} {c l:Str} {A:List Str} {zs:List Kt}
theorem jA {P:List (Str×Str)} {x:Str}:(mO P x).isNone=true↔ ¬Sv P x:=by
 rw[Option.isNone_iff_eq_none,Ep]
theorem Mx.turn (hn:ns.Nodup) (h:Mx ns w P) (e: ∀x,Sv P' x↔(x≠l/\Sv P x)\/x=c) (ne:l≠c) (hl:Sv P l) (hc: ¬Sv P c) (ln:l∈ns) (cn:c∈ns):Mx ns w P':=fun N hN=>by
 have key:(c::ns.filter fun x=>(mO P' x).isNone).Perm (l::ns.filter fun x=>(mO P x).isNone):=by
  refine vQ (List.nodup_cons.mpr ⟨fun m=> ?_,hn.filter _⟩) (List.nodup_cons.mpr ⟨fun m=> ?_,hn.filter _⟩) fun x=> ?_
  ·exact jA.mp (List.mem_filter.mp m).2 ((e c).mpr (.inr rfl))
  ·exact jA.mp (List.mem_filter.mp m).2 hl
  ·rw[List.mem_cons,List.mem_cons,List.mem_filter,List.mem_filter,jA,jA,e]
   constructor
   ·rintro (a|⟨a,b⟩)
    ·subst a;exact .inr ⟨cn,hc⟩
    ·by_cases q:x=l
     ·exact .inl q
     ·exact .inr ⟨a,fun s=>b (.inl ⟨q,s⟩)⟩
   ·rintro (a|⟨a,b⟩)
    ·subst a;exact .inr ⟨ln,fun s=>s.elim (fun s=>s.1 rfl) ne⟩
    ·by_cases q:x=c
     ·exact .inl q
     ·exact .inr ⟨a,fun s=>s.elim (fun s=>b s.2) q⟩
 have k2:=key.length_eq
 rw[List.length_cons,List.length_cons] at k2
 have:=h N hN
 omega
theorem Nm.turn (hw:iK ns w) (hn:ns.Nodup) (h:Nm ns w ah P pre) (hp:Plan w P') (e: ∀x,Sv P' x↔(x≠l/\Sv P x)\/x=c) (ne:l≠c) (hl:Sv P l) (hc: ¬Sv P c) (cn:c∈ns) (hpre: ∀d∈pre,¬ah l d/\ ¬ah c d/\d≠l):Nm ns w ah P' (pre++[c]):=
 ⟨hp,h.mx.turn hn e ne hl hc (hl.inn hw h.pl) cn,fun d hd nd=>by
  rcases List.mem_append.mp hd with hd|hd
  ·obtain⟨p1,p2,p3⟩:=hpre d hd
   have nP: ¬Sv P d:=fun s=>nd ((e d).mpr (.inl ⟨p3,s⟩))
   intro N hN h1 h2
   exact h.ba d hd nP N hN h1 fun x hx=>h2 x ⟨hx.1,(e x).mpr (.inl ⟨fun q=>p1 (q▸hx.1),hx.2⟩)⟩
  ·rw[List.mem_singleton.mp hd] at nd
   exact absurd ((e c).mpr (.inr rfl)) nd⟩
theorem Tree.conn (hw:iK ns w) (hn:ns.Nodup) {M:Str->Option Str} {A:List Str} {zs:List Kt} (h:Tree ns (qF w) M A zs c) {z:Kt} (hz:z∈zs) {a:Str} (ha:a∈z.ms) (d:Str):Rch w (fun a=>a∈A) a d↔d∈z.ms:=by
 constructor
 ·intro r
  induction r with
  |refl=>exact ha
  |step _ e nb ih=>
   rcases h.cl z hz _ _ ((mU hw hn).mpr ⟨_,e⟩) ih with q|q
   ·exact q
   ·exact absurd q nb
 ·intro hc
  exact (h.kb z hz).conn hw hn (h.kl z hz) (fun c hc=>h.az z hz c hc) a ha d hc
end
end Sw
namespace Sw
open PySem PySem.Spec PyProof.Rows L2
section
variable {ns:List Str} {w:Wb} {N:List (Str×Str)} {f o:Str}
theorem Il {P:List (Str×Str)} {x:Str}:x∈bA P↔Sv P x:=by
 rw[fm]
 constructor
 ·rintro⟨q,hq,e|e⟩
  ·exact⟨q.2,.inl (e▸hq)⟩
  ·exact⟨q.1,.inr (e▸hq)⟩
 ·rintro⟨y,h|h⟩
  ·exact⟨_,h,.inl rfl⟩
  ·exact⟨_,h,.inr rfl⟩
structure Nn (L y:List (List Str)) (pre:List Str):Prop where
 ne:y≠[]
 sub: ∀S∈y,S∈L
 cl: ∀S∈y,∀T∈L,(∀x∈pre,x∈S->x∈T)->T∈y
 ba: ∀(p q:List Str) (c:Str),pre=p++c::q-> ∀S∈y,c∉S-> ∀T∈L,(∀x∈p,x∈S->x∈T)->c∉T
theorem Nn.keep {L y:List (List Str)} {pre:List Str} {x:Str} (h:Nn L y pre) (e: ∀S∈y,x∉S):Nn L y (pre++[x]):=by
 refine⟨h.ne,h.sub,fun S hS T hT k=>h.cl S hS T hT fun z hz=>k z (List.mem_append_left _ hz),fun p q c hp S hS nc T hT k=> ?_⟩
 rcases List.eq_nil_or_concat q with r|⟨q',d,r⟩
 ·subst r
  obtain⟨e1,e2⟩:=List.append_inj' hp rfl
  have e2:x=c:=List.head_eq_of_cons_eq e2
  subst e1;subst e2
  exact e T (h.cl S hS T hT k)
 ·rw[List.concat_eq_append] at r
  subst r
  have hp:pre++[x]=(p++c::q')++[d]:=by rw[hp];simp
  obtain⟨e1,_⟩:=List.append_inj' hp rfl
  exact h.ba p q' c e1 S hS nc T hT k
end
end Sw
namespace Sw
open PySem PySem.Spec PyProof.Rows L2
section
variable {ns:List Str} {L:List (Str×Str)} {M N:Str->Option Str} {A:List Str} {zs:List Kt}
theorem Cert.rep (h:Cert ns L M A zs) (hN:ia ns L N) (irr: ∀a,(a,a)∉L): ∃f:Kt->Str,(zs.map f).Nodup/\ ∀z∈zs,∃c∈z.ms,(N c=none/\f z=c)\/(N c=some (f z)/\f z∈A):=by
 classical
 have hi: ∀a,N a≠some a:=fun a e=>irr a (hN.edge _ _ e)
 have key: ∀z∈zs,∃g,∃c∈z.ms,(N c=none/\g=c)\/(N c=some g/\g∈A):=fun z hz=>by
  refine Classical.byContradiction fun q=> ?_
  have par:=tO hN.sym hi z.ms.length (Nat.le_refl _) (h.kb z hz).nodup fun c hc=>by
   cases e:N c with
   |none=>exact absurd ⟨c,c,hc,.inl ⟨e,rfl⟩⟩ q
   |some d=>
    refine⟨d,?_,rfl⟩
    rcases h.cl z hz c d (hN.edge _ _ e) hc with a|a
    ·exact a
    ·exact absurd ⟨d,c,hc,.inr ⟨e,a⟩⟩ q
  have:=(h.kb z hz).z0
  omega
 let f:Kt->Str:=fun z=>if hz:z∈zs then Classical.choose (key z hz) else ""
 have hf: ∀z∈zs,∃c∈z.ms,(N c=none/\f z=c)\/(N c=some (f z)/\f z∈A):=fun z hz=>by
  have e:f z=Classical.choose (key z hz):=dif_pos hz
  rw[e]
  exact Classical.choose_spec (key z hz)
 have one: ∀x∈zs,∀y∈zs,∀c,c∈x.ms->c∈y.ms->x=y:=fun x hx y hy c h1 h2=>by
  obtain⟨i,hi⟩:=List.getElem?_of_mem hx
  obtain⟨j,hj⟩:=List.getElem?_of_mem hy
  have:=fo h.zn hi hj h1 h2
  subst this
  rw[hi] at hj
  exact Option.some.inj hj
 refine⟨f,nodup_map_on (Br h) fun x hx y hy e=> ?_,hf⟩
 obtain⟨c,hc,c1⟩:=hf x hx
 obtain⟨d,hd,d1⟩:=hf y hy
 rcases c1 with ⟨_,c2⟩|⟨c2,c3⟩
 ·rcases d1 with ⟨_,d2⟩|⟨_,d3⟩
  ·have:c=d:=by rw[<-c2,←d2,e]
   subst this
   exact one x hx y hy c hc hd
  ·exact absurd (by rw[<-c2,e];exact d3) (h.az x hx c hc)
 ·rcases d1 with ⟨_,d2⟩|⟨d2,_⟩
  ·exact absurd (by rw[<-d2,←e];exact c3) (h.az y hy d hd)
  ·rw[<-e] at d2
   have:=hN.inj c2 d2
   subst this
   exact one x hx y hy c hc hd
theorem Cert.O5 (h:Cert ns L M A zs) (hn:ns.Nodup) (hN:ia ns L N) (irr: ∀a,(a,a)∉L) (e:(ns.filter fun c=> !(N c).isSome).length+A.length=zs.length) {x:Str} (hx:x∈ns) (nx:N x=none): ∃z∈zs,x∈z.ms:=by
 obtain⟨f,nd,hf⟩:=h.rep hN irr
 have xu:x∈ns.filter fun c=> !(N c).isSome:=List.mem_filter.mpr ⟨hx,by rw[nx];rfl⟩
 by_cases q:x∈zs.map f
 ·obtain⟨z,hz,e2⟩:=List.mem_map.mp q
  obtain⟨c,hc,c1⟩:=hf z hz
  rcases c1 with ⟨_,c2⟩|⟨c2,_⟩
  ·exact⟨z,hz,by rw[<-e2,c2];exact hc⟩
  ·have:=hN.sym _ _ c2
   rw[e2,nx] at this;cases this
 ·exfalso
  have l:=mQ nd (ys:=((ns.filter fun c=> !(N c).isSome).erase x)++A) fun g hg=>by
   have gx:g≠x:=fun e=>q (e▸hg)
   obtain⟨z,hz,rfl⟩:=List.mem_map.mp hg
   obtain⟨c,hc,c1⟩:=hf z hz
   rcases c1 with ⟨c1,c2⟩|⟨_,c3⟩
   ·refine List.mem_append_left _ ((List.mem_erase_of_ne gx).mpr (List.mem_filter.mpr ⟨by rw[c2];exact h.zi z hz c hc,by rw[c2,c1];rfl⟩))
   ·exact List.mem_append_right _ c3
  rw[List.length_map,List.length_append,List.length_erase_of_mem xu] at l
  have:=List.length_pos_of_mem xu
  omega
theorem Im (sym: ∀a b,(a,b)∈L->(b,a)∈L) {qs:List (Str×Str)} (hn:ns.Nodup) (h2:gG qs) (h3: ∀q∈qs,q∈L) (h4: ∀q∈qs,q.1∈ns/\q.2∈ns): ∃N:Str->Option Str,ia ns L N/\(∀x y,N x=some y↔(x,y)∈qs\/(y,x)∈qs)/\2*qs.length+(ns.filter fun c=> !(N c).isSome).length=ns.length:=by
 obtain⟨N,hN⟩: ∃N:Str->Option Str,∀x y,N x=some y↔(x,y)∈qs\/(y,x)∈qs:=by
  refine⟨fun x=>aG (qs.flatMap fun p=>[(p.1,p.2),(p.2,p.1)]) x,fun x y=> ?_⟩
  have kn:((qs.flatMap fun p=>[(p.1,p.2),(p.2,p.1)]).map (·.1)).Nodup:=by
   have:(qs.flatMap fun p=>[(p.1,p.2),(p.2,p.1)]).map (·.1)=bA qs:=by
    unfold bA
    rw[List.map_flatMap]
    rfl
   rw[this];exact h2
  have mem:(x,y)∈(qs.flatMap fun p=>[(p.1,p.2),(p.2,p.1)])↔(x,y)∈qs\/(y,x)∈qs:=by
   rw[List.mem_flatMap]
   constructor
   ·rintro⟨p,hp,h⟩
    rcases List.mem_cons.mp h with e|e
    ·cases e;exact .inl hp
    ·have:=List.mem_singleton.mp e
     cases this;exact .inr hp
   ·rintro (h|h)
    ·exact⟨_,h,List.mem_cons_self⟩
    ·exact⟨_,h,by simp⟩
  rw[<-mem]
  exact⟨fun h=>mH h,fun h=>l5 kn h⟩
 refine⟨N,⟨fun a b e=>(hN b a).mpr ((hN a b).mp e).symm,fun a b e=> ?_,fun a b e=> ?_⟩,hN,?_⟩
 ·rcases (hN a b).mp e with q|q
  ·exact (h4 _ q).1
  ·exact (h4 _ q).2
 ·rcases (hN a b).mp e with q|q
  ·exact h3 _ q
  ·exact sym _ _ (h3 _ q)
 have e:(bA qs).length=(ns.filter fun c=>(N c).isSome).length:=by
  refine (vQ h2 (hn.filter _) fun x=> ?_).length_eq
  rw[fm,List.mem_filter]
  constructor
  ·rintro⟨q,hq,e⟩
   rcases e with rfl|rfl
   ·exact⟨(h4 q hq).1,by rw[(hN q.1 q.2).mpr (.inl hq)];rfl⟩
   ·exact⟨(h4 q hq).2,by rw[(hN q.2 q.1).mpr (.inr hq)];rfl⟩
  ·rintro⟨_,e⟩
   obtain⟨d,hd⟩:=Option.isSome_iff_exists.mp e
   rcases (hN x d).mp hd with q|q
   ·exact⟨_,q,.inl rfl⟩
   ·exact⟨_,q,.inr rfl⟩
 rw[xo] at e
 have:=nU (fun c=>(N c).isSome) ns
 omega
theorem Cert.left (h:Cert ns L M A zs) (g:Gr ns L M) {k:Nat} (hk:2*k+(ns.filter fun c=> !(M c).isSome).length=ns.length) {x:Str} (hx:x∈ns) (mt:Mt L (ns.filter fun c=> !decide (c=x)) k): ∃z∈zs,x∈z.ms:=by
 obtain⟨qs,q1,q2,q3,q4⟩:=mt
 have q5: ∀q∈qs,q.1∈ns/\q.2∈ns:=fun q hq=>⟨(List.mem_filter.mp (q4 q hq).1).1,(List.mem_filter.mp (q4 q hq).2).1⟩
 obtain⟨N,MN,hN,cnt⟩:=Im g.sym g.nd q2 q3 q5
 have nx:N x=none:=by
  cases e:N x with
  |none=>rfl
  |some y=>
   rcases (hN x y).mp e with q|q
   ·have:=(List.mem_filter.mp (q4 _ q).1).2;simp at this
   ·have:=(List.mem_filter.mp (q4 _ q).2).2;simp at this
 have c2:=h.cnt
 exact h.O5 g.nd MN g.irr (by omega) hx nx
end
end Sw
namespace Sw
open PySem PySem.Spec PyProof.Rows L2
structure O6 (w:Wb) (cs:List Str) (p:List (Str×Str)):Prop where
 plan:Plan w p
 inn: ∀q∈p,q.1∈cs/\q.2∈cs
section
variable {w:Wb} {cs:List Str} {c x:Str} {p:List (Str×Str)}
theorem Plan.nil (w:Wb):Plan w []:=⟨List.Pairwise.nil,List.nodup_nil,by simp,by simp⟩
theorem O6.nil (w:Wb) (cs:List Str):O6 w cs []:=⟨Plan.nil w,by simp⟩
end
end Sw
namespace Sw
open PySem PySem.Spec PyProof.Rows L2
structure OkP (ss:List (Str×Str)) (tk:List Str) (p:List (Str×Str)):Prop where
 rise:p.Pairwise pLt
 inn: ∀q∈p,q∈ss
 apart:gG p
 free: ∀z∈bA p,z∉tk
theorem OkP.nil (ss:List (Str×Str)) (tk:List Str):OkP ss tk []:=⟨List.Pairwise.nil,by simp,List.nodup_nil,by simp[bA]⟩
end Sw
namespace Sw
open PySem PySem.Spec PyProof.Rows L2
section
variable {ns:List Str} {w:Wb} {P Q:List (Str×Str)} {ord:List Str}
theorem xC (hw:iK ns w) (hn:ns.Nodup) (hP:Plan w P):(ns.filter fun c=>(mO P c).isNone).length+2*P.length=ns.length:=by
 have h1:(ns.filter fun c=> !(mO P c).isNone).Perm (bA P):=vQ (hn.filter _) hP.apart fun x=>by
  rw[List.mem_filter,Il]
  constructor
  ·rintro⟨_,h⟩
   refine Classical.byContradiction fun g=> ?_
   rw[jA.mpr g] at h
   cases h
  ·intro h
   refine⟨h.inn hw hP,?_⟩
   cases e:(mO P x).isNone with
   |true=>exact absurd h (jA.mp e)
   |false=>rfl
 have h2:=h1.length_eq
 rw[xo] at h2
 have h3: ∀(l:List Str) (f:Str->Bool),(l.filter f).length+(l.filter fun c=> !f c).length=l.length:=by
  intro l f
  induction l with
  |nil=>rfl
  |cons a l ih=>
   cases e:f a with
   |true=>rw[List.filter_cons_of_pos e,List.filter_cons_of_neg (by rw[e];decide)];simp only[List.length_cons];omega
   |false=>rw[List.filter_cons_of_neg (by rw[e];decide),List.filter_cons_of_pos (by rw[e];rfl)];simp only[List.length_cons];omega
 have:=h3 ns fun c=>(mO P c).isNone
 omega
theorem Mx.len (h:Mx ns w P) (hw:iK ns w) (hn:ns.Nodup) (hP:Plan w P) (hQ:Plan w Q):Q.length<=P.length:=by
 have h1:=h _ (O4 hw hn hQ)
 have h2:=xC hw hn hP
 have h3:=xC hw hn hQ
 omega
end
end Sw
namespace Sw
open PySem PySem.Spec PyProof.Rows L2
def Tr:SR:=fun _ _=>True
def FlA (m':Str->Option Str) (row:List Str):Prop:=Alt Tr (E0 m') row
section
variable {X Y:SR}
theorem Alt.split: ∀(n:Nat) {r s:List Str},r.length<=n->r.length%2=1->Alt X Y (r++s)->Alt X Y r/\Alt Y X s/\ ∀a b,r.getLast? =some a->s.head? =some b->X a b
 |n,[],_,_,h,_=>by simp at h
 |n,[x],[],_,_,_=>⟨trivial,trivial,fun a b _ h=>by cases h⟩
 |n,[x],y::s,_,_,h=>⟨trivial,h.2,fun a b h1 h2=>by cases h1;cases h2;exact h.1⟩
 |n,[x,y],_,_,h,_=>by simp at h
 |0,x::y::z::r,_,h,_,_=>by simp at h
 |n+1,x::y::z::r,s,hn,ho,hr=>by
  obtain⟨a,b,c⟩:=Alt.split n (r:=z::r) (s:=s) (by simp at hn ⊢; omega) (by simp at ho ⊢; omega) hr.2.2
  refine⟨⟨hr.1,hr.2.1,a⟩,b,fun u v h1 h2=>c u v ?_ h2⟩
  rw[<-h1];simp[List.getLast?_cons_cons]
end
theorem Tr.symm (a b:Str) (_:Tr a b):Tr b a:=trivial
structure Flp (m m':Str->Option Str) (ms row:List Str):Prop where
 off: ∀d∈ms,d∉row->m' d=m d
 on:FlA m' row
structure z8 (m:Str->Option Str) (L:List (Str×Str)) (n:Nat) (k:aH) (ms:List Str) (c b:Str) (row:List Str):Prop extends Led m L ms c b row where
 reb: ∀m',Flp m m' ms row->KB m' n k c ms
theorem z8.single {m:Str->Option Str} {L:List (Str×Str)} {n:Nat} (c:Str):z8 m L (n+1) (.single c) [c] c c [c]:=⟨Led.single c,fun _ _=>⟨rfl,rfl⟩⟩
structure Es (m:Str->Option Str) (L:List (Str×Str)) (N:Nat) (t:List Kt) (w:Nat->Nat) (Lk:Nat->Str->Str->Prop) (c:Str) (k0 k:Nat) (row:List Str) (nb:Nat->Str):Prop extends Part m L t w c k row where
 le:k<=k0
 lt:k0<t.length
 par:(k0 -k)%2=0
 hd:nb k0=c
 up: ∀x∈row,∃j y,k<=j/\j<=k0/\t[w j]? =some y/\x∈y.ms
 lk: ∀j,k<=j->j<k0->(k0 -j)%2=0->Lk j (nb (j+1)) (nb j)
 reb: ∀m',(∀j y,k<=j->j<=k0->t[w j]? =some y-> ∀d∈y.ms,d∉row->m' d=m d)->FlA m' row->(∀j y,k<=j->j<=k0->t[w j]? =some y->KB m' N y.k (nb j) y.ms)/\ ∀j,k<=j->j<k0->(k0 -j)%2=0->E0 m' (nb (j+1)) (nb j)
section
variable {m:Str->Option Str} {L:List (Str×Str)} {N:Nat} {t:List Kt} {w:Nat->Nat} {Lk:Nat->Str->Str->Prop} {c:Str} {k0 k:Nat} {row r1 r2:List Str} {nb:Nat->Str}
theorem z8.part (hk:k<t.length) {x:Kt} (hx:t[w k]? =some x) (h:z8 m L N x.k x.ms c x.b row):Es m L N t w Lk c k k row (fun _=>c) where
 toPart:=Led.part hk hx h.toLed
 le:=Nat.le_refl _
 lt:=hk
 par:=by omega
 hd:=rfl
 up:=fun a ha=>⟨k,x,Nat.le_refl _,Nat.le_refl _,hx,h.inn a ha⟩
 lk:=fun j h1 h2=>by omega
 reb:=fun m' h1 h2=>⟨fun j y a b hy=>by
  have:j=k:=by omega
  subst this
  rw[hx] at hy;cases hy
  exact h.reb m' ⟨fun d hd hn=>h1 j x a b hx d hd hn,h2⟩,fun j h1 h2=>by omega⟩
theorem Es.step (nd:(t.map (·.ms)).flatten.Nodup) (wi: ∀i j,i<t.length->j<t.length->w i=w j->i=j) (hk:k+2<t.length) (h:Es m L N t w Lk c k0 (k+2) row nb) {x y z:Kt} (hx:t[w (k+2)]? =some x) (hy:t[w (k+1)]? =some y) (hz:t[w k]? =some z) (e0:E0 m x.b y.b) {l e:Str} (e1:E1 m L l e) (hl:Lk k l e) (h1:z8 m L N y.k y.ms l y.b r1) (h2:z8 m L N z.k z.ms e z.b r2):
  Es m L N t w Lk c k0 k (row++r1.reverse++r2) (fun j=>if j=k then e else if j=k+1 then l else nb j):=by
 have dis: ∀{i j:Nat} {u v:Kt},t[w i]? =some u->t[w j]? =some v->i<t.length->j<t.length-> ∀{a:Str},a∈u.ms->a∈v.ms->i=j:=fun {i j u v} hu hv hi hj {a} ha hb=>wi _ _ hi hj (fo nd hu hv ha hb)
 have hle:=h.le
 have hlt:=h.lt
 have hpar:=h.par
 have nbe: ∀j,k+2<=j->(if j=k then e else if j=k+1 then l else nb j)=nb j:=fun j hj=>by rw[if_neg (by omega),if_neg (by omega)]
 refine⟨Part.step nd wi hk h.toPart hx hy hz e0 e1 h1.toLed h2.toLed,by omega,hlt,by omega,by rw[nbe _ hle];exact h.hd,fun a ha=> ?_,fun j j1 j2 j3=> ?_,fun m' f1 f2=> ?_⟩
 ·rcases List.mem_append.mp ha with ha|ha
  ·rcases List.mem_append.mp ha with ha|ha
   ·obtain⟨j,v,j1,j2,j3,j4⟩:=h.up a ha
    exact⟨j,v,by omega,j2,j3,j4⟩
   ·exact⟨k+1,y,by omega,by omega,hy,h1.inn a (List.mem_reverse.mp ha)⟩
  ·exact⟨k,z,Nat.le_refl _,by omega,hz,h2.inn a ha⟩
 ·by_cases jk:j=k
  ·subst jk
   rw[if_pos rfl,if_neg (by omega),if_pos rfl]
   exact hl
  ·by_cases jk1:j=k+1
   ·omega
   ·rw[nbe j (by omega),nbe (j+1) (by omega)]
    exact h.lk j (by omega) j2 j3
 ·have o1:=h.odd
  have o2:=h1.odd
  unfold FlA at f2
  rw[List.append_assoc] at f2
  obtain⟨a1,a2,_⟩:=Alt.split _ (Nat.le_refl _) o1 f2
  obtain⟨a3,a4,a5⟩:=Alt.split _ (Nat.le_refl _) (by rw[List.length_reverse];exact o2) a2
  have a6:=a3.rev E0.symm Tr.symm _ (Nat.le_refl _) (by rw[List.length_reverse];exact o2)
  rw[List.reverse_reverse] at a6
  have nin: ∀{j:Nat} {v:Kt} {d:Str},j<t.length->t[w j]? =some v->d∈v.ms->(j<k+2->d∉row)/\(j≠k+1->d∉r1)/\(j≠k->d∉r2):=fun {j v d} jl hv hd=>by
   refine⟨fun j1 m1=> ?_,fun j1 m1=> ?_,fun j1 m1=> ?_⟩
   ·obtain⟨i,u,i1,i2,i3,i4⟩:=h.up d m1
    have:=dis i3 hv (by omega) jl i4 hd
    omega
   ·exact j1 (dis hv hy jl (by omega) hd (h1.inn d m1))
   ·exact j1 (dis hv hz jl (by omega) hd (h2.inn d m1))
  have out: ∀d,d∉row->d∉r1->d∉r2->d∉row++r1.reverse++r2:=fun d n1 n2 n3 g=>by
   rcases List.mem_append.mp g with g|g
   ·rcases List.mem_append.mp g with g|g
    ·exact n1 g
    ·exact n2 (List.mem_reverse.mp g)
   ·exact n3 g
  obtain⟨b1,b2⟩:=h.reb m' (fun j v j1 j2 hv d hd hn=>by
   obtain⟨_,c2,c3⟩:=nin (by omega) hv hd
   exact f1 j v (by omega) j2 hv d hd (out d hn (c2 (by omega)) (c3 (by omega)))) a1
  have by':=h1.reb m' ⟨fun d hd hn=>by
   obtain⟨c1,_,c3⟩:=nin (by omega) hy hd
   exact f1 (k+1) y (by omega) (by omega) hy d hd (out d (c1 (by omega)) hn (c3 (by omega))),a6⟩
  have bz':=h2.reb m' ⟨fun d hd hn=>by
   obtain⟨c1,c2,_⟩:=nin (by omega) hz hd
   exact f1 k z (by omega) (by omega) hz d hd (out d (c1 (by omega)) (c2 (by omega)) hn),a4⟩
  refine⟨fun j v j1 j2 hv=> ?_,fun j j1 j2 j3=> ?_⟩
  ·by_cases jk:j=k
   ·subst jk
    rw[hz] at hv;cases hv
    rw[if_pos rfl];exact bz'
   ·by_cases jk1:j=k+1
    ·subst jk1
     rw[hy] at hv;cases hv
     rw[if_neg (by omega),if_pos rfl];exact by'
    ·rw[nbe j (by omega)];exact b1 j v (by omega) j2 hv
  ·by_cases jk:j=k
   ·subst jk
    rw[if_pos rfl,if_neg (by omega),if_pos rfl]
    exact a5 l e (by rw[List.getLast?_reverse];exact h1.head) h2.head
   ·by_cases jk1:j=k+1
    ·omega
    ·rw[nbe j (by omega),nbe (j+1) (by omega)]
     exact b2 j (by omega) j2 j3
def reT (t:List Kt) (f:Nat->Str):List Kt:=t.mapIdx fun i x=>⟨x.k,f i,x.ms⟩
theorem sG (f:Nat->Str):(reT t f).length=t.length:=by unfold reT;simp
theorem z9 (f:Nat->Str) (i:Nat):(reT t f)[i]? =t[i]?.map fun x=>⟨x.k,f i,x.ms⟩:=by unfold reT;simp
theorem Np (f:Nat->Str):(reT t f).map (·.ms)=t.map (·.ms):=by
 apply List.ext_getElem?
 intro i
 rw[List.getElem?_map,z9,List.getElem?_map]
 cases t[i]? <;> rfl
theorem hZ.reb {m':Str->Option Str} {p q:Nat} {l:List (Str×Str)} (h:hZ m t p l) (hk: ∀x∈t,KB m N x.k x.b x.ms) (hq:q<t.length) (f:Nat->Str) (on:Nat->Prop) [DecidablePred on]
  (hon: ∀i y,on i->t[i]? =some y->KB m' N y.k (f i) y.ms) (hoff: ∀i y,¬on i->t[i]? =some y->f i=y.b/\ ∀d∈y.ms,m' d=m d)
  (hl: ∀i a,i<t.length->off t.length q i%2=1->l[i]? =some a->(on i/\on (nx t.length i)/\a=(f i,f (nx t.length i))/\E0 m' (f i) (f (nx t.length i)))\/(¬on i/\ ¬on (nx t.length i)/\off t.length p i%2=1)):
  hZ m' (reT t f) q l/\ ∀x∈reT t f,KB m' N x.k x.b x.ms:=by
 constructor
 ·refine⟨by rw[sG];exact hq,by rw[sG];exact h.odd,by rw[Np];exact h.nd,by rw[sG];exact h.len,fun j x y a jl hx hy ha=> ?_,by rw[sG];exact h.three⟩
  rw[sG] at jl hy⊢
  rw[z9] at hx hy
  obtain⟨x0,hx0,rfl⟩:=Option.map_eq_some_iff.mp hx
  obtain⟨y0,hy0,rfl⟩:=Option.map_eq_some_iff.mp hy
  obtain⟨g1,g2,g3⟩:=h.link j x0 y0 a jl hx0 hy0 ha
  refine⟨fun o=> ?_,g2,g3⟩
  rcases hl j a jl o ha with ⟨_,_,e1,e2⟩|⟨n1,n2,o2⟩
  ·exact⟨e1,e2.1,e2.2⟩
  ·obtain⟨e1,m1,m2⟩:=g1 o2
   obtain⟨f1,u1⟩:=hoff j x0 n1 hx0
   obtain⟨f2,u2⟩:=hoff _ y0 n2 hy0
   show a=(f j,f (nx t.length j))/\m' (f j)=some (f (nx t.length j))/\m' (f (nx t.length j))=some (f j)
   rw[f1,f2,u1 _ (hk x0 (List.mem_of_getElem? hx0)).base,u2 _ (hk y0 (List.mem_of_getElem? hy0)).base]
   exact⟨e1,m1,m2⟩
 ·intro x hx
  obtain⟨i,hi⟩:=List.getElem?_of_mem hx
  rw[z9] at hi
  obtain⟨x0,hx0,rfl⟩:=Option.map_eq_some_iff.mp hi
  by_cases o:on i
  ·exact hon i x0 o hx0
  ·obtain⟨e,u⟩:=hoff i x0 o hx0
   show KB m' N x0.k (f i) x0.ms
   rw[e]
   exact (hk x0 (List.mem_of_getElem? hx0)).congr fun d hd _=>u d hd
end
end Sw
namespace Sw
open PySem PySem.Spec PyProof.Rows L2
def Reb (ks:List Kt) (M:Str->Option Str) (row:List Str):Prop:= ∀m',(∀v∈ks,(∃a∈row,a∈v.ms)-> ∀d∈v.ms,d∉row->m' d=M d)->FlA m' row-> ∀v∈ks,(∃a∈row,a∈v.ms)-> ∃c',KB m' (hf v.ms) v.k c' v.ms
section
variable {ns:List Str} {L:List (Str×Str)} {o:bf} {ks:List Kt} {lv:Str->Nat} {rt:Str->Str} {z w x y:Kt} {c:Str} {row r1 r2:List Str} {M M':Str->Option Str} {R:Str->Prop}
theorem Reb.led (hT:fT ns L M ks) (hn:ns.Nodup) (hz:z∈ks) (h:z8 M L (hf z.ms) z.k z.ms c z.b row):Reb ks M row:=fun m' h1 h2 v hv ⟨a,a1,a2⟩=>by
 have:=hT.one hn hz hv (h.inn a a1) a2
 subst this
 exact⟨c,h.reb m' ⟨h1 z hz ⟨a,a1,a2⟩,h2⟩⟩
theorem Reb.step (h:SI ns L o ks lv rt) (g:Gr ns L (aG o.mates.l)) (hw:WP L o ks lv rt c z row) (hr:Reb ks (aG o.mates.l) row) {s:Stq} (u:UpS L o ks lv rt z s) (h1:z8 (aG o.mates.l) L (hf s.x.ms) s.x.k s.x.ms s.other s.x.b r1) (h2:z8 (aG o.mates.l) L (hf s.y.ms) s.y.k s.y.ms s.one s.y.b r2):Reb ks (aG o.mates.l) (row++r1.reverse++r2):=fun m' f1 f2=>by
 have a1:=u.l1
 have a2:=u.l2
 have one: ∀{u' v:Kt},u'∈ks->v∈ks-> ∀{a:Str},a∈u'.ms->a∈v.ms->u'=v:=fun {u' v} hu hv {a} ha hb=>h.tops.one g.nd hu hv ha hb
 have far: ∀{v:Kt},v∈ks->(∃a∈row,a∈v.ms)->v≠s.x/\v≠s.y:=fun {v} hv ⟨a,b1,b2⟩=>by
  obtain⟨u',u1,u2,u3,_⟩:=hw.inn a b1
  have:=one hv u1 b2 u2
  subst this
  exact⟨fun e=>by rw[e] at u3;omega,fun e=>by rw[e] at u3;omega⟩
 have xy:s.x≠s.y:=fun e=>by rw[e] at a1;omega
 unfold FlA at f2
 rw[List.append_assoc] at f2
 obtain⟨b1,b2,_⟩:=Alt.split _ (Nat.le_refl _) hw.odd f2
 obtain⟨b3,b4,_⟩:=Alt.split _ (Nat.le_refl _) (by rw[List.length_reverse];exact h1.odd) b2
 have b5:=b3.rev E0.symm Tr.symm _ (Nat.le_refl _) (by rw[List.length_reverse];exact h1.odd)
 rw[List.reverse_reverse] at b5
 have out: ∀d,d∉row->d∉r1->d∉r2->d∉row++r1.reverse++r2:=fun d n1 n2 n3 q=>by
  rcases List.mem_append.mp q with q|q
  ·rcases List.mem_append.mp q with q|q
   ·exact n1 q
   ·exact n2 (List.mem_reverse.mp q)
  ·exact n3 q
 intro v hv ⟨a,m1,m2⟩
 rcases List.mem_append.mp m1 with m1|m1
 ·rcases List.mem_append.mp m1 with m1|m1
  ·refine hr m' (fun v' hv' t' d hd hn=> ?_) b1 v hv ⟨a,m1,m2⟩
   obtain⟨t1,t2,t3⟩:=t'
   obtain⟨e1,e2⟩:=far hv' ⟨t1,t2,t3⟩
   exact f1 v' hv' ⟨t1,List.mem_append_left _ (List.mem_append_left _ t2),t3⟩ d hd (out d hn (fun q=>e1 (one hv' u.xk hd (h1.inn d q))) fun q=>e2 (one hv' u.yk hd (h2.inn d q)))
  ·have m1':=List.mem_reverse.mp m1
   have e:=one u.xk hv (h1.inn a m1') m2
   subst e
   exact⟨_,h1.reb m' ⟨fun d hd hn=>f1 _ u.xk ⟨a,List.mem_append_left _ (List.mem_append_right _ m1),m2⟩ d hd (out d (fun q=>(far u.xk ⟨d,q,hd⟩).1 rfl) hn fun q=>xy (one u.xk u.yk hd (h2.inn d q))),b5⟩⟩
 ·have e:=one u.yk hv (h2.inn a m1) m2
  subst e
  exact⟨_,h2.reb m' ⟨fun d hd hn=>f1 _ u.yk ⟨a,List.mem_append_right _ m1,m2⟩ d hd (out d (fun q=>(far u.yk ⟨d,q,hd⟩).2 rfl) (fun q=>xy (one u.xk u.yk (h1.inn d q) hd)) hn),b4⟩⟩
end
inductive Sbk (a:aH):aH->Prop where
 |refl:Sbk a a
 |inn {k:aH} {r:List aH} {l:List (Str×Str)}:k∈r->Sbk a k->Sbk a (.group r l)
theorem Sbk.trans {a b c:aH} (h:Sbk a b) (g:Sbk b c):Sbk a c:=by
 induction g with
 |refl=>exact h
 |inn m _ ih=>exact .inn m ih
theorem Sbk.kb {m:Str->Option Str} {a k:aH} (h:Sbk a k): ∀{n:Nat} {b:Str} {ms:List Str},KB m n k b ms-> ∃n' b' ms',KB m n' a b' ms':=by
 induction h with
 |refl=>intro n b ms g;exact⟨n,b,ms,g⟩
 |inn hm _ ih=>
  intro n b ms g
  cases n with
  |zero=>exact g.elim
  |succ n=>
   obtain⟨t,p,h1,h2,h3,h4,h5⟩:=g
   rw[h2] at hm
   obtain⟨x,hx,rfl⟩:=List.mem_map.mp hm
   exact ih (h3 x hx)
theorem Et {R S:aH->List Str->Prop}: ∀{r:List aH} {xs ys:List (List Str)},(∀k∈r,∀a b,R k a->S k b->a=b)->F2 R r xs->F2 S r ys->xs=ys
 |_,_,_,_,.nil,.nil=>rfl
 |k::r,a::xs,b::ys,h,.cons h1 h2,.cons g1 g2=>by
  rw[h k List.mem_cons_self a b h1 g1,Et (fun k hk=>h k (List.mem_cons_of_mem _ hk)) h2 g2]
theorem KM.uniq: ∀{n n':Nat} {k:aH} {ms ms':List Str},KM n k ms->KM n' k ms'->ms=ms'
 |0,_,_,_,_,h,_=>h.elim
 |_+1,0,_,_,_,_,h=>h.elim
 |n+1,n'+1,.single c,_,_,h,g=>h.trans g.symm
 |n+1,n'+1,.group r l,_,_,⟨rs,h1,h2⟩,⟨rs',g1,g2⟩=>by
  have e:=Et (R:=KM n) (S:=KM n') (fun k _ a b ha hb=>KM.uniq ha hb) h1 g1
  rw[h2,g2,e]
theorem Bt {t:List Kt} (hp: ∀x∈t,1<=x.ms.length):t.length<=(t.map (·.ms)).flatten.length:=by
 induction t with
 |nil=>exact Nat.zero_le _
 |cons x t ih=>
  have:=hp x List.mem_cons_self
  have:=ih fun y hy=>hp y (List.mem_cons_of_mem _ hy)
  rw[List.map_cons,List.flatten_cons,List.length_append,List.length_cons]
  omega
theorem FD {t:List Kt} (hp: ∀x∈t,1<=x.ms.length) {x:Kt} (hx:x∈t):x.ms.length+t.length<=(t.map (·.ms)).flatten.length+1:=by
 induction t with
 |nil=>cases hx
 |cons y t ih=>
  rw[List.map_cons,List.flatten_cons,List.length_append,List.length_cons]
  rcases List.mem_cons.mp hx with rfl|hx
  ·have:=Bt fun z hz=>hp z (List.mem_cons_of_mem x hz)
   omega
  ·have:=ih (fun z hz=>hp z (List.mem_cons_of_mem _ hz)) hx
   have:=hp y List.mem_cons_self
   omega
theorem KB.fit {m:Str->Option Str}: ∀{n:Nat} {k:aH} {b:Str} {ms:List Str},KB m n k b ms->KB m (hf ms) k b ms
 |0,_,_,_,h=>h.elim
 |n+1,.single c,b,ms,h=>by
  rw[h.2,show hf [c]=0+1 by simp[hf]]
  exact⟨h.1,rfl⟩
 |n+1,.group r l,b,ms,⟨t,p,h1,h2,h3,h4,h5⟩=>by
  have pos: ∀x∈t,1<=x.ms.length:=fun x hx=>List.length_pos_of_mem (h3 x hx).base
  have ml:ms.length=(t.map (·.ms)).flatten.length:=by rw[h4,(bg _).length_eq]
  have t3:=h1.three
  have big:=Bt pos
  obtain⟨q,hq⟩: ∃q,hf ms=q+1:=⟨hf ms -1,by unfold hf;omega⟩
  rw[hq]
  refine⟨t,p,h1,h2,fun x hx=>(h3 x hx).fit.mono ?_,h4,h5⟩
  have:=FD pos hx
  unfold hf at hq⊢
  omega
theorem KB.part {m:Str->Option Str} {m0:Str->Option Str} {a k:aH} {n n0:Nat} {b b0:Str} {ms ms0:List Str} (h:KB m n k b ms) (s:Sbk a k) (h0:KB m0 n0 a b0 ms0): ∃c,KB m (hf ms0) a c ms0:=by
 obtain⟨n',b',ms',g⟩:=s.kb h
 have:=KM.uniq g.km h0.km
 subst this
 exact⟨b',g.fit⟩
end Sw
namespace Sw
open PySem PySem.Spec PyProof.Rows L2
def C6 (q:Str×Str):Nat->aH->Prop
 |0,_=>False
 |_+1,.single _=>False
 |n+1,.group r l=>(q∈l\/(q.2,q.1)∈l)\/ ∃k∈r,C6 q n k
theorem C6.symm {a b:Str}: ∀{n:Nat} {k:aH},C6 (a,b) n k->C6 (b,a) n k
 |0,_,h=>h.elim
 |_+1,.single _,h=>h.elim
 |n+1,.group r l,h=>h.imp (fun h=>h.symm) fun⟨k,hk,h⟩=>⟨k,hk,h.symm⟩
theorem C6.up {q:Str×Str}: ∀{n:Nat} {k:aH},C6 q n k->C6 q (n+1) k
 |0,_,h=>h.elim
 |_+1,.single _,h=>h.elim
 |n+1,.group r l,h=>h.imp id fun⟨k,hk,h⟩=>⟨k,hk,h.up⟩
theorem FE {ns:List Str} {L:List (Str×Str)} {M:Str->Option Str} {pre post:List Kt} {z:Kt} (h:fT ns L M (pre++z::post)) {r:List aH} {l:List (Str×Str)} (e:z.k= .group r l): ∃t:List Kt,t.map (·.k)=r/\fT ns L M (pre++t++post):=by
 have hz:z∈pre++z::post:=by simp
 have kb:=h.kb z hz
 have kl:=h.kl z hz
 obtain⟨n,hn⟩: ∃n,hf z.ms=n+1:=by
  cases q:hf z.ms with
  |zero=>rw[q] at kb;exact kb.elim
  |succ n=>exact⟨n,rfl⟩
 rw[hn,e] at kb kl
 obtain⟨t,p,h1,h2,h3,h4,h5⟩:=kb
 refine⟨t,h2.symm,?_,fun x hx=> ?_,fun x hx=> ?_⟩
 ·have p0:=h.perm
  rw[List.map_append,List.map_cons,List.flatten_append,List.flatten_cons,h4] at p0
  refine List.Perm.trans ?_ p0
  rw[List.map_append,List.map_append,List.flatten_append,List.flatten_append,List.append_assoc]
  exact List.Perm.append_left _ (List.Perm.append_right _ (bg _).symm)
 ·rcases List.mem_append.mp hx with hx|hx
  ·rcases List.mem_append.mp hx with hx|hx
   ·exact h.kb x (List.mem_append_left _ hx)
   ·exact (h3 x hx).fit
  ·exact h.kb x (List.mem_append_right _ (List.mem_cons_of_mem _ hx))
 ·rcases List.mem_append.mp hx with hx|hx
  ·rcases List.mem_append.mp hx with hx|hx
   ·exact h.kl x (List.mem_append_left _ hx)
   ·have g:=kl.2 x.k (by rw[h2];exact List.mem_map_of_mem hx)
    have key: ∀{n:Nat} {k:aH},KL L n k-> ∀{N:Nat} {b:Str} {ms:List Str},KB M N k b ms->KL L N k:=by
     intro n
     induction n with
     |zero=>intro k h;exact h.elim
     |succ n ih=>
      intro k h N b ms g
      cases k with
      |single c=>
       cases N with
       |zero=>exact g.elim
       |succ N=>exact trivial
      |group r l=>
       cases N with
       |zero=>exact g.elim
       |succ N=>
        obtain⟨t,p,g1,g2,g3,_,_⟩:=g
        refine⟨h.1,fun k hk=> ?_⟩
        rw[g2] at hk
        obtain⟨y,hy,rfl⟩:=List.mem_map.mp hk
        exact ih (h.2 y.k (by rw[g2];exact List.mem_map_of_mem hy)) (g3 y hy)
    exact key g (h3 x hx).fit
  ·exact h.kl x (List.mem_append_right _ (List.mem_cons_of_mem _ hx))
end Sw
namespace Sw
open PySem PySem.Spec PyProof.Rows L2
mutual
def sH:aH->List Str
 | .single c=>[c]
 | .group r _=>qM (uC r)
def uC:List aH->List Str
 | []=>[]
 |k::r=>sH k++uC r
end
mutual
def grK:aH->List (List Str)
 | .single _=>[]
 | .group r _=>qM (uC r)::C7 r
def C7:List aH->List (List Str)
 | []=>[]
 |k::r=>grK k++C7 r
end
theorem mW: ∀r:List aH,C7 r=(r.map grK).flatten
 | []=>rfl
 |k::r=>by unfold C7;rw[mW r];rfl
theorem qW: ∀r:List aH,uC r=(r.map sH).flatten
 | []=>rfl
 |k::r=>by unfold uC;rw[qW r];rfl
section
variable {m:Str->Option Str}
theorem KB.mem: ∀{n:Nat} {k:aH} {b:Str} {ms:List Str},KB m n k b ms->sH k=ms
 |0,_,_,_,h=>h.elim
 |n+1,.single c,_,_,h=>by unfold sH;exact h.2.symm
 |n+1,.group r l,b,_,⟨t,p,h1,h2,h3,h4,h5⟩=>by
  unfold sH
  rw[h4,qW,h2,List.map_map]
  congr 2
  exact List.map_congr_left fun x hx=>(h3 x hx).mem
theorem KB.gr: ∀{n:Nat} {k:aH} {b:Str} {ms:List Str},KB m n k b ms-> ∀g∈grK k,(∀c∈g,c∈ms)/\ ∃r l n' b',KB m n' (.group r l) b' g
 |0,_,_,_,h,_,_=>h.elim
 |n+1,.single c,_,_,h,g,hg=>by unfold grK at hg;cases hg
 |n+1,.group r l,b,_,h,g,hg=>by
  have hm:=h.mem
  obtain⟨t,p,h1,h2,h3,h4,h5⟩:=id h
  unfold grK at hg
  rcases List.mem_cons.mp hg with e|hg
  ·have e2:g=sH (.group r l):=by rw[e];unfold sH;rfl
   rw[e2,hm]
   exact⟨fun c hc=>hc,r,l,n+1,b,h⟩
  ·rw[mW,h2,List.map_map,List.mem_flatten] at hg
   obtain⟨gs,hgs,gm⟩:=hg
   obtain⟨x,hx,rfl⟩:=List.mem_map.mp hgs
   obtain⟨q1,q2⟩:=(h3 x hx).gr g gm
   exact⟨fun c hc=>by rw[h4,xt,cI];exact⟨x,hx,q1 c hc⟩,q2⟩
theorem KB.three {n:Nat} {r:List aH} {l:List (Str×Str)} {b:Str} {ms:List Str} (h:KB m n (.group r l) b ms):3<=ms.length/\ ∀x∈r,(sH x).length+2<=ms.length:=by
 cases n with
 |zero=>exact h.elim
 |succ n=>
  obtain⟨t,p,h1,h2,h3,h4,h5⟩:=h
  have pos: ∀y∈t.map (·.ms),1<=y.length:=fun y hy=>by
   obtain⟨x,hx,rfl⟩:=List.mem_map.mp hy
   exact List.length_pos_of_mem (h3 x hx).base
  have three:=h1.three
  have ml:ms.length=(t.map (·.ms)).flatten.length:=by rw[h4,yQ]
  refine⟨?_,fun x hx=> ?_⟩
  ·have:=xA pos
   rw[List.length_map] at this
   omega
  ·rw[h2] at hx
   obtain⟨y,hy,rfl⟩:=List.mem_map.mp hx
   rw[(h3 y hy).mem]
   have:=yW pos (List.mem_map_of_mem hy)
   rw[List.length_map] at this
   omega
theorem KB.gr3 {n:Nat} {k:aH} {b:Str} {ms:List Str} (h:KB m n k b ms) {g:List Str} (hg:g∈grK k):3<=g.length/\g.length%2=1/\g.Pairwise cD:=by
 obtain⟨_,r,l,n',b',q⟩:=h.gr g hg
 exact⟨q.three.1,q.z0,q.rise⟩
theorem qX: ∀{xs:List Kt},(∀x∈xs,(grK x.k).Nodup/\ ∀g∈grK x.k,g≠[]/\ ∀c∈g,c∈x.ms)->(xs.map (·.ms)).flatten.Nodup->(xs.map fun x=>grK x.k).flatten.Nodup
 | [],_,_=>List.nodup_nil
 |x::xs,h,nd=>by
  rw[List.map_cons,List.flatten_cons,List.nodup_append] at nd⊢
  refine⟨(h x List.mem_cons_self).1,qX (fun y hy=>h y (List.mem_cons_of_mem _ hy)) nd.2.1,fun g hg g2 hg2 e=> ?_⟩
  subst e
  obtain⟨gs,hgs,gm⟩:=List.mem_flatten.mp hg2
  obtain⟨y,hy,rfl⟩:=List.mem_map.mp hgs
  obtain⟨ne,a1⟩:=(h x List.mem_cons_self).2 g hg
  obtain⟨_,a2⟩:=(h y (List.mem_cons_of_mem _ hy)).2 g gm
  cases g with
  |nil=>exact ne rfl
  |cons c g=>exact nd.2.2 c (a1 c List.mem_cons_self) c (cI.mpr ⟨y,hy,a2 c List.mem_cons_self⟩) rfl
theorem KB.C9: ∀{n:Nat} {k:aH} {b:Str} {ms:List Str},KB m n k b ms->(grK k).Nodup
 |0,_,_,_,h=>h.elim
 |n+1,.single c,_,_,h=>by unfold grK;exact List.nodup_nil
 |n+1,.group r l,b,ms,h=>by
  have hm:=h.mem
  have h3':=h.three.2
  obtain⟨t,p,h1,h2,h3,h4,h5⟩:=id h
  unfold grK
  have ge:C7 r=(t.map fun x=>grK x.k).flatten:=by rw[mW,h2,List.map_map];rfl
  rw[List.nodup_cons]
  constructor
  ·intro hg
   have e2:qM (uC r)=ms:=by rw[<-hm];unfold sH;rfl
   rw[e2,ge,List.mem_flatten] at hg
   obtain⟨gs,hgs,gm⟩:=hg
   obtain⟨x,hx,rfl⟩:=List.mem_map.mp hgs
   obtain⟨q1,_⟩:=(h3 x hx).gr ms gm
   have l1:=mQ h.nodup q1
   have l2:=h3' x.k (by rw[h2];exact List.mem_map_of_mem hx)
   rw[(h3 x hx).mem] at l2
   omega
  ·rw[ge]
   exact qX (fun x hx=>⟨(h3 x hx).C9,fun g hg=>⟨fun e=>by have:=((h3 x hx).gr3 hg).1;rw[e] at this;simp at this,((h3 x hx).gr g hg).1⟩⟩) h1.nd
end
def grT (ks:List Kt):List (List Str):=(ks.map fun x=>grK x.k).flatten
section
variable {ns:List Str} {L:List (Str×Str)} {M:Str->Option Str} {ks:List Kt} {x y:Kt} {g:List Str} {a b c:Str}
theorem Eu:g∈grT ks↔ ∃x∈ks,g∈grK x.k:=by
 unfold grT
 rw[List.mem_flatten]
 constructor
 ·rintro⟨gs,hgs,gm⟩
  obtain⟨x,hx,rfl⟩:=List.mem_map.mp hgs
  exact⟨x,hx,gm⟩
 ·rintro⟨x,hx,gm⟩
  exact⟨_,List.mem_map_of_mem hx,gm⟩
theorem fT.C9 (h:fT ns L M ks) (hn:ns.Nodup):(grT ks).Nodup:=
 qX (fun x hx=>⟨(h.kb x hx).C9,fun g hg=>⟨fun e=>by have:=((h.kb x hx).gr3 hg).1;rw[e] at this;simp at this,((h.kb x hx).gr g hg).1⟩⟩) (h.nd hn)
end
def mE (q:List Str->Int) (G:List (List Str)) (a b:Str):Int:=((G.filter fun g=>decide (a∈g)&&decide (b∈g)).map q).sum
def tot (p:Str->Int) (q:List Str->Int) (G:List (List Str)) (a b:Str):Int:=p a+p b+mE q G a b
section
variable {p:Str->Int} {q q':List Str->Int} {G:List (List Str)} {a b:Str}
theorem FF:mE q G a b=mE q G b a:=by
 unfold mE
 congr 2
 exact List.filter_congr fun g _=>Bool.and_comm _ _
theorem Io:tot p q G a b=tot p q G b a:=by
 unfold tot
 rw[FF];omega
theorem iD {g:List Str}:mE q (g::G) a b=(if a∈g/\b∈g then q g else 0)+mE q G a b:=by
 unfold mE
 by_cases h:a∈g/\b∈g
 ·rw[if_pos h,List.filter_cons_of_pos (by simpa using h),List.map_cons,List.sum_cons]
 ·rw[if_neg h,List.filter_cons_of_neg (by simpa using h)];omega
theorem Ip {G':List (List Str)}:mE q (G++G') a b=mE q G a b+mE q G' a b:=by
 unfold mE
 rw[List.filter_append,List.map_append,List.sum_append]
theorem FG {G':List (List Str)} (h:G.Perm G'):mE q G a b=mE q G' a b:=by
 induction h with
 |nil=>rfl
 |cons x _ ih=>rw[iD,iD,ih]
 |swap x y l=>rw[iD,iD,iD,iD];omega
 |trans _ _ i1 i2=>rw[i1,i2]
theorem FH (h: ∀g∈G,q g%2=0):mE q G a b%2=0:=by
 induction G with
 |nil=>rfl
 |cons g G ih=>
  rw[iD]
  have h1:=h g List.mem_cons_self
  have h2:=ih fun g' hg=>h g' (List.mem_cons_of_mem _ hg)
  split <;> omega
end
end Sw
namespace Sw
open PySem PySem.Spec PyProof.Rows L2
theorem FI {q:List Str->Int} {G:List (List Str)} {a b:Str} (h: ∀g∈G,q g=0):mE q G a b=0:=by
 induction G with
 |nil=>rfl
 |cons g G ih=>
  rw[iD,ih fun g' hg=>h g' (List.mem_cons_of_mem _ hg),h g List.mem_cons_self]
  split <;> rfl
theorem xD {q:List Str->Int} {G G':List (List Str)} {a b:Str} (n1:G.Nodup) (n2:G'.Nodup) (sub: ∀g∈G,g∈G') (z: ∀g∈G',g∉G->q g=0):mE q G' a b=mE q G a b:=by
 have pm:(G++G'.filter fun g=>decide (g∉G)).Perm G':=by
  refine (List.perm_ext_iff_of_nodup (List.nodup_append.mpr ⟨n1,n2.filter _,fun x hx y hy e=> ?_⟩) n2).mpr fun g=> ?_
  ·subst e
   have:=(List.mem_filter.mp hy).2
   simp at this
   exact this hx
  ·rw[List.mem_append,List.mem_filter]
   constructor
   ·rintro (h|h)
    ·exact sub g h
    ·exact h.1
   ·intro h
    by_cases q:g∈G
    ·exact .inl q
    ·exact .inr ⟨h,by simpa using q⟩
 rw[<-FG pm,Ip,FI (G:=G'.filter _) fun g hg=>z g (List.mem_filter.mp hg).1 (by simpa using (List.mem_filter.mp hg).2)]
 omega
def tL (ed:List (Str×Str)) (w:Str->Str->Int) (p:Str->Int) (q:List Str->Int) (G:List (List Str)):List (Str×Str):=ed.filter fun e=>decide (tot p q G e.1 e.2=2*w e.1 e.2)
section
variable {ns:List Str} {ed:List (Str×Str)} {w:Str->Str->Int} {p p':Str->Int} {q q':List Str->Int} {G G':List (List Str)} {M M':Str->Option Str} {ks ks':List Kt} {a b c:Str}
theorem Aa:(a,b)∈tL ed w p q G↔(a,b)∈ed/\tot p q G a b=2*w a b:=by
 unfold tL
 rw[List.mem_filter]
 simp
theorem Bu (h: ∀a b,(a,b)∈ed->tot p q G a b=tot p' q' G' a b):tL ed w p q G=tL ed w p' q' G':=by
 unfold tL
 exact List.filter_congr fun e he=>by rw[h e.1 e.2 he]
structure sJ (ns:List Str) (ed:List (Str×Str)) (w:Str->Str->Int) (M:Str->Option Str) (ks:List Kt) (p:Str->Int) (q:List Str->Int):Prop where
 nd:ns.Nodup
 len:ns.length<=20
 sym: ∀a b,(a,b)∈ed->(b,a)∈ed
 irr: ∀a,(a,a)∉ed
 inn: ∀a b,(a,b)∈ed->a∈ns
 ws: ∀a b,w a b=w b a
 tops:fT ns (tL ed w p q (grT ks)) M ks
 mates:ia ns (tL ed w p q (grT ks)) M
 paid: ∀a b,(a,b)∈ed->2*w a b<=tot p q (grT ks) a b
 qn: ∀g,0<=q g/\q g%2=0
 q0: ∀g,g∉grT ks->q g=0
 pn: ∀c∈ns,0<=p c
 least: ∀r∈ns,M r=none-> ∀c∈ns,p r<=p c
theorem sJ.gr (h:sJ ns ed w M ks p q):Gr ns (tL ed w p q (grT ks)) M:=⟨h.nd,h.len,fun a b e=>by
 rw[Aa] at e⊢
 exact⟨h.sym _ _ e.1,by rw[Io,h.ws];exact e.2⟩,fun a e=>h.irr a (Aa.mp e).1,fun a b e=>h.inn a b (Aa.mp e).1,h.mates⟩
theorem sJ.HF (h:sJ ns ed w M ks p q) (hT:fT ns (tL ed w p q (grT ks)) M ks') (z1: ∀g∈grT ks,g∉grT ks'->q g=0):sJ ns ed w M ks' p q:=by
 have n1:=h.tops.C9 h.nd
 have n2:=hT.C9 h.nd
 have tt: ∀a b,tot p q (grT ks') a b=tot p q (grT ks) a b:=fun a b=>by
  unfold tot
  have e1:mE q (grT ks) a b=mE q ((grT ks).filter fun g=>decide (g∈grT ks')) a b:=xD (n1.filter _) n1 (fun g hg=>(List.mem_filter.mp hg).1) fun g hg hn=>z1 g hg fun hg'=>hn (List.mem_filter.mpr ⟨hg,by simpa using hg'⟩)
  have e2:mE q (grT ks') a b=mE q ((grT ks).filter fun g=>decide (g∈grT ks')) a b:=xD (n1.filter _) n2 (fun g hg=>by simpa using (List.mem_filter.mp hg).2) fun g hg hn=>h.q0 g fun hg'=>hn (List.mem_filter.mpr ⟨hg',by simpa using hg⟩)
  rw[e1,e2]
 have tl:tL ed w p q (grT ks')=tL ed w p q (grT ks):=Bu fun a b _=>tt a b
 exact⟨h.nd,h.len,h.sym,h.irr,h.inn,h.ws,by rw[tl];exact hT,by rw[tl];exact h.mates,fun a b e=>by rw[tt];exact h.paid a b e,h.qn,fun g hg=>by
  by_cases q1:g∈grT ks
  ·exact z1 g q1 hg
  ·exact h.q0 g q1,h.pn,h.least⟩
end
end Sw
namespace Sw
open PySem PySem.Spec PyProof.Rows L2
theorem Iq {g:List Str}: ∀{r:List aH},g∈C7 r↔ ∃k∈r,g∈grK k:=fun {r}=>by
 rw[mW,List.mem_flatten]
 constructor
 ·rintro⟨gs,hgs,gm⟩
  obtain⟨x,hx,rfl⟩:=List.mem_map.mp hgs
  exact⟨x,hx,gm⟩
 ·rintro⟨x,hx,gm⟩
  exact⟨_,List.mem_map_of_mem hx,gm⟩
theorem Sbk.gr {a k:aH} (h:Sbk a k) {g:List Str} (hg:g∈grK a):g∈grK k:=by
 induction h with
 |refl=>exact hg
 |inn m _ ih=>unfold grK;exact List.mem_cons_of_mem _ (Iq.mpr ⟨_,m,ih⟩)
section
variable {ns:List Str} {ed:List (Str×Str)} {w:Str->Str->Int} {p p':Str->Int} {q q':List Str->Int} {M:Str->Option Str} {ks ks':List Kt} {a b c:Str} {x y z:Kt}
theorem nV {xs ys:List Kt}:grT (xs++ys)=grT xs++grT ys:=by unfold grT;rw[List.map_append,List.flatten_append]
theorem Ir {xs:List Kt}:grT (x::xs)=grK x.k++grT xs:=rfl
theorem sJ.part {pre post:List Kt} {r:List aH} {l:List (Str×Str)} (h:sJ ns ed w M (pre++z::post) p q) (e:z.k= .group r l) (hq:q z.ms=0): ∃t:List Kt,t.map (·.k)=r/\sJ ns ed w M (pre++t++post) p q:=by
 obtain⟨t,et,hT⟩:=FE h.tops e
 refine⟨t,et,h.HF hT fun g hg hn=> ?_⟩
 rw[nV,Ir,e] at hg
 have tg:grT t=C7 r:=by
  rw[mW,←et,List.map_map];rfl
 have zm:z.ms=qM (uC r):=by
  rw[<-(h.tops.kb z (by simp)).mem,e];unfold sH;rfl
 rcases List.mem_append.mp hg with hg|hg
 ·exact absurd (by rw[nV,nV];simp[hg]) hn
 ·rcases List.mem_append.mp hg with hg|hg
  ·unfold grK at hg
   rcases List.mem_cons.mp hg with hg|hg
   ·rw[hg,←zm];exact hq
   ·exact absurd (by rw[nV,nV,tg];simp[hg]) hn
  ·exact absurd (by rw[nV,nV];simp[hg]) hn
end
end Sw
namespace Sw
open PySem PySem.Spec PyProof.Rows L2
theorem FJ {c:Str} {r:List aH}:c∈uC r↔ ∃k∈r,c∈sH k:=by
 rw[qW,List.mem_flatten]
 constructor
 ·rintro⟨gs,hgs,gm⟩
  obtain⟨x,hx,rfl⟩:=List.mem_map.mp hgs
  exact⟨x,hx,gm⟩
 ·rintro⟨x,hx,gm⟩
  exact⟨_,List.mem_map_of_mem hx,gm⟩
theorem Sbk.mem {a k:aH} (h:Sbk a k) {c:Str} (hc:c∈sH a):c∈sH k:=by
 induction h with
 |refl=>exact hc
 |inn m _ ih=>
  unfold sH
  rw[xt,FJ]
  exact⟨_,m,ih⟩
section
variable {ns:List Str} {L Q:List (Str×Str)} {ks ks':List Kt} {o:bf} {lv:Str->Nat} {rt:Str->Str} {M:Str->Option Str}
structure Iu (ks:List Kt) (M:Str->Option Str) (Q:List (Str×Str)) (R:Str->Prop) (Ev Od:Kt->Prop) (f:Kt->Nat):Prop where
 inn: ∀z,Ev z->z∈ks
 step: ∀z,Ev z->(M z.b=none/\R z.b)\/ ∃x y,x∈ks/\Od x/\Ev y/\f y<f z/\M x.b=some z.b/\ ∃a∈y.ms,∃b∈x.ms,(a,b)∈Q
 dis: ∀z,Ev z-> ¬Od z
theorem Iu.Ig (hT:fT ns L M ks) (si:SI ns L o ks' lv rt) (g:Gr ns L M) (hM:aG o.mates.l=M) (cl: ∀a b,(a,b)∈Q->a∈o.waiting->(∃x∈ks',a∈x.ms/\b∈x.ms)\/ ∃x∈ks',b∈x.ms/\(aG o.reached.l (nmK x)).isSome=true)
  (part: ∀x∈ks,∃x'∈ks',Sbk x.k x'.k) (made: ∀x∈ks',x∈ks\/(aG o.roots.l (nmK x)).isSome=true) {R:Str->Prop} (hR: ∀r,R r->r∈o.waiting) {Ev Od:Kt->Prop} {f:Kt->Nat} (F:Iu ks M Q R Ev Od f):
  ∀z,Ev z-> ∀c∈z.ms,c∈o.waiting:=by
 have hT':=si.tops
 rw[hM] at hT'
 have up: ∀x∈ks,∃x'∈ks',∀c∈x.ms,c∈x'.ms:=fun x hx=>by
  obtain⟨x',hx',s⟩:=part x hx
  refine⟨x',hx',fun c hc=> ?_⟩
  rw[<-(hT.kb x hx).mem] at hc
  rw[<-(hT'.kb x' hx').mem]
  exact s.mem hc
 have upOf: ∀x∈ks,∀K∈ks',∀c∈x.ms,c∈K.ms-> ∀d∈x.ms,d∈K.ms:=fun x hx K hK c c1 c2 d hd=>by
  obtain⟨x',hx',s⟩:=up x hx
  have:=hT'.one g.nd hx' hK (s c c1) c2
  subst this
  exact s d hd
 have all: ∀z∈ks,∀c∈z.ms,c∈o.waiting-> ∀d∈z.ms,d∈o.waiting:=fun z hz c hc wc d hd=>by
  obtain⟨K,hK,cK,eK⟩:=(si.wt c).mp wc
  exact (si.wt d).mpr ⟨K,hK,upOf z hz K hK c hc cK d hd,eK⟩
 have evOd: ∀x∈ks',(aG o.roots.l (nmK x)).isSome=true-> ¬(aG o.reached.l (nmK x)).isSome=true:=fun x hx e d=>by
  obtain⟨q,hq⟩:=Option.isSome_iff_exists.mp d
  rw[(si.odd x hx q hq).1] at e;cases e
 have key: ∀n:Nat,∀z,f z<n->Ev z-> ∀c∈z.ms,c∈o.waiting:=by
  intro n
  induction n with
  |zero=>intro z h;omega
  |succ n ih=>
   intro z hz ez
   have zin:=F.inn z ez
   have zb:=(hT.kb z zin).base
   rcases F.step z ez with ⟨_,r⟩|⟨x,y,hx,ox,ey,lt,mx,a,ha,b,hb,ab⟩
   ·exact all z zin z.b zb (hR _ r)
   ·have yin:=F.inn y ey
    have wa:=ih y (by omega) ey a ha
    rcases cl a b ab wa with ⟨K,hK,aK,bK⟩|⟨X,hX,bX,oX⟩
    ·
     have eK:(aG o.roots.l (nmK K)).isSome=true:=by
      obtain⟨K',hK',aK',eK'⟩:=(si.wt a).mp wa
      have:=hT'.one g.nd hK hK' aK aK'
      subst this
      exact eK'
     have xK:=upOf x hx K hK b hb bK
     have yK:=upOf y yin K hK a ha aK
     have xb:=(hT.kb x hx).base
     by_cases zK:z.b∈K.ms
     ·exact fun c hc=>(si.wt c).mpr ⟨K,hK,upOf z zin K hK z.b zb zK c hc,eK⟩
     ·exfalso
      have kb:x.b=K.b:=Classical.byContradiction fun ne=>by
       obtain⟨d,hd,_,e⟩:=(hT'.kb K hK).sF x.b (xK _ xb) ne
       rw[mx] at e;cases e
       exact zK hd
      have no: ∀k:Nat,∀v,f v<k->f v<f z->Ev v->(∀c∈v.ms,c∈K.ms)->False:=by
       intro k
       induction k with
       |zero=>intro v h;omega
       |succ k ih2=>
        intro v hv hvz ev vK
        have vin:=F.inn v ev
        have vb:=(hT.kb v vin).base
        have nb:v.b≠K.b:=fun e=>by
         have:=hT.Eo g.nd vin hx (e.trans kb.symm)
         subst this
         exact F.dis v ev ox
        obtain⟨d,hd,_,md⟩:=(hT'.kb K hK).sF v.b (vK _ vb) nb
        rcases F.step v ev with ⟨m0,_⟩|⟨x2,y2,hx2,ox2,ey2,lt2,mx2,a2,ha2,b2,hb2,ab2⟩
        ·rw[m0] at md;cases md
        ·rw[g.mates.sym _ _ mx2] at md;cases md
         have x2K:=upOf x2 hx2 K hK x2.b (hT.kb x2 hx2).base hd
         have wa2:=ih y2 (by omega) ey2 a2 ha2
         rcases cl a2 b2 ab2 wa2 with ⟨K2,hK2,c1,c2⟩|⟨K2,hK2,c1,c2⟩
         ·have:=hT'.one g.nd hK hK2 (x2K b2 hb2) c2
          subst this
          exact ih2 y2 (by omega) (by omega) ey2 (upOf y2 (F.inn y2 ey2) K hK a2 ha2 c1)
         ·have:=hT'.one g.nd hK hK2 (x2K b2 hb2) c1
          subst this
          exact evOd K hK eK c2
      exact no (f y+1) y (by omega) lt ey yK
    ·
     have nE:=fun e=>evOd X hX e oX
     have Xk:=(made X hX).resolve_right nE
     have:=hT.one g.nd hx Xk hb bX
     subst this
     obtain⟨q,hq⟩:=Option.isSome_iff_exists.mp oX
     obtain⟨_,_,_,_,_,_,_,_,_,z',hz',m',e',_⟩:=si.odd x hX q hq
     rw[hM,mx] at m'
     have e:=Option.some.inj m'
     have wz:z.b∈o.waiting:=(si.wt _).mpr ⟨z',hz',e▸(hT'.kb z' hz').base,e'⟩
     exact all z zin z.b zb wz
 exact fun z ez=>key (f z+1) z (by omega) ez
end
end Sw
namespace Sw
open PySem PySem.Spec PyProof.Rows L2
theorem KB.par {m:Str->Option Str} {L:List (Str×Str)} {pr:Str->Int} (hL: ∀a c,(a,c)∈L->(pr a+pr c)%2=0): ∀{n:Nat} {k:aH} {b:Str} {ms:List Str},KB m n k b ms->KL L n k-> ∀a∈ms,∀c∈ms,(pr a+pr c)%2=0
 |0,_,_,_,h,_,_,_,_,_=>h.elim
 |n+1,.single x,_,_,h,_,a,ha,c,hc=>by
  rw[h.2] at ha hc
  rw[List.mem_singleton.mp ha,List.mem_singleton.mp hc]
  omega
 |n+1,.group r l,b,ms,⟨t,p,h1,h2,h3,h4,h5⟩,⟨g1,g2⟩,a,ha,c,hc=>by
  have part: ∀{i:Nat} (h:i<t.length),∀a∈t[i].ms,∀c∈t[i].ms,(pr a+pr c)%2=0:=fun {i} h=>KB.par hL (h3 _ (List.getElem_mem h)) (g2 _ (by rw[h2];exact List.mem_map_of_mem (List.getElem_mem h)))
  have base: ∀{i:Nat} (h:i<t.length),t[i].b∈t[i].ms:=fun {i} h=>(h3 _ (List.getElem_mem h)).base
  have tp:0<t.length:=by have:=h1.three;omega
  have all: ∀i (h:i<t.length),(pr (t[0]'tp).b+pr t[i].b)%2=0:=by
   intro i
   induction i with
   |zero=>intro h;have:=part tp _ (base tp) _ (base tp);exact this
   |succ i ih=>
    intro h
    have i0:=ih (by omega)
    have li:i<l.length:=by rw[h1.len];omega
    have ne:nx t.length i=i+1:=zZ (by omega)
    obtain⟨_,a1,a2⟩:=h1.link i (t[i]'(by omega)) (t[i+1]'h) (l[i]'li) (by omega) (List.getElem?_eq_getElem (by omega)) (by rw[ne];exact List.getElem?_eq_getElem h) (List.getElem?_eq_getElem li)
    have il:i<t.length:=by omega
    have e1:(pr l[i].1+pr l[i].2)%2=0:=hL _ _ (g1 _ (List.getElem_mem li))
    have e2:(pr t[i].b+pr l[i].1)%2=0:=part il _ (base il) _ a1
    have e3:(pr t[i+1].b+pr l[i].2)%2=0:=part h _ (base h) _ a2
    have i1:(pr (t[0]'tp).b+pr t[i].b)%2=0:=i0
    omega
  rw[h4,xt,cI] at ha hc
  obtain⟨x,hx,ax⟩:=ha
  obtain⟨y,hy,cy⟩:=hc
  obtain⟨i,hi,rfl⟩:=List.getElem_of_mem hx
  obtain⟨j,hj,rfl⟩:=List.getElem_of_mem hy
  have e1:=part hi _ (base hi) a ax
  have e2:=part hj _ (base hj) c cy
  have e3:=all i hi
  have e4:=all j hj
  omega
section
variable {ns:List Str} {ed:List (Str×Str)} {w:Str->Str->Int} {p p':Str->Int} {q q':List Str->Int} {M:Str->Option Str} {ks:List Kt} {o:bf} {lv:Str->Nat} {rt:Str->Str} {a b c r0:Str}
theorem sJ.Nq (h:sJ ns ed w M ks p q) (e:(a,b)∈tL ed w p q (grT ks)):(p a+p b)%2=0:=by
 have e:=(Aa.mp e).2
 have:=FH (q:=q) (G:=grT ks) (a:=a) (b:=b) fun g _=>(h.qn g).2
 unfold tot at e
 omega
theorem sJ.par (h:sJ ns ed w M ks p q) (si:SI ns (tL ed w p q (grT ks)) o ks lv rt) (hM:aG o.mates.l=M) (hr:r0∈ns) (hr0:M r0=none): ∀c∈o.waiting,(p r0+p c)%2=0:=by
 have g:=h.gr
 have kp: ∀x∈ks,∀a∈x.ms,∀c∈x.ms,(p a+p c)%2=0:=fun x hx=>KB.par (fun a c e=>h.Nq e) (h.tops.kb x hx) (h.tops.kl x hx)
 have key: ∀n:Nat,∀z∈ks,lv (nmK z)<n->(aG o.roots.l (nmK z)).isSome=true-> ∀c∈z.ms,(p r0+p c)%2=0:=by
  intro n
  induction n with
  |zero=>intro z _ h;omega
  |succ n ih=>
   intro z hz lz ez c hc
   have zb:=(h.tops.kb z hz).base
   have k1:=kp z hz z.b zb c hc
   rcases si.Ig z hz ez with ⟨m0,_⟩|⟨x,hx,mx,ox⟩
   ·rw[hM] at m0
    have l1:=h.least z.b (h.tops.inn hz zb) m0 r0 hr
    have l2:=h.least r0 hr hr0 z.b (h.tops.inn hz zb)
    omega
   ·rw[hM] at mx
    obtain⟨qx,hqx⟩:=Option.isSome_iff_exists.mp ox
    obtain⟨_,a2,a12,y,hy,a1,ey,ly,_,z',hz',mz',_,lz',_⟩:=si.odd x hx qx hqx
    rw[hM,h.mates.sym _ _ mx] at mz'
    have:=h.tops.Eo h.nd hz hz' (Option.some.inj mz')
    subst this
    have k2:=ih y hy (by omega) ey qx.1 a1
    have k3:=h.Nq a12
    have k4:=kp x hx qx.2 a2 x.b (h.tops.kb x hx).base
    have k5:=h.Nq (h.mates.edge _ _ mx)
    omega
 intro c hc
 obtain⟨z,hz,cz,ez⟩:=(si.wt c).mp hc
 exact key _ z hz (Nat.lt_succ_self _) ez c cz
end
end Sw
namespace Sw
open PySem PySem.Spec PyProof.Rows L2
section
variable {ns:List Str} {L:List (Str×Str)} {M:Str->Option Str} {ks zs:List Kt} {o:bf} {lv:Str->Nat} {rt:Str->Str}
theorem fT.order (h:fT ns L M ks) (p:ks.Perm zs):fT ns L M zs:=
 ⟨(List.Perm.flatten (p.symm.map _)).trans h.perm,fun x hx=>h.kb x (p.mem_iff.mpr hx),fun x hx=>h.kl x (p.mem_iff.mpr hx)⟩
theorem SI.order (h:SI ns L o ks lv rt) (p:ks.Perm zs):SI ns L o zs lv rt:=by
 have e: ∀z,z∈zs↔z∈ks:=fun z=>p.mem_iff.symm
 exact⟨h.tops.order p,fun x hx=>h.top x ((e x).mp hx),h.tk,fun n r q=>by
  obtain⟨z,hz,a⟩:=h.rk n r q
  exact⟨z,(e z).mpr hz,a⟩,fun n q a=>by
  obtain⟨x,hx,b⟩:=h.ok n q a
  exact⟨x,(e x).mpr hx,b⟩,h.rnd,h.ond,fun z hz ez=>(h.Ig z ((e z).mp hz) ez).imp id fun⟨x,hx,a⟩=>⟨x,(e x).mpr hx,a⟩,fun x hx q hq=>by
  obtain⟨a1,a2,a3,y,hy,a4,a5,a6,a7,z,hz,a8⟩:=h.odd x ((e x).mp hx) q hq
  exact⟨a1,a2,a3,y,(e y).mpr hy,a4,a5,a6,a7,z,(e z).mpr hz,a8⟩,fun c=>(h.wt c).trans ⟨fun⟨z,hz,a⟩=>⟨z,(e z).mpr hz,a⟩,fun⟨z,hz,a⟩=>⟨z,(e z).mp hz,a⟩⟩,h.wnd⟩
end
section
variable {ns:List Str} {ed:List (Str×Str)} {w:Str->Str->Int} {p:Str->Int} {q:List Str->Int} {M:Str->Option Str} {ks ks':List Kt}
theorem sJ.tl (h:sJ ns ed w M ks p q) {L:List (Str×Str)} (hT:fT ns L M ks') (part: ∀x∈ks,∃x'∈ks',Sbk x.k x'.k):tL ed w p q (grT ks')=tL ed w p q (grT ks):=Bu fun a b _=>by
 unfold tot
 rw[xD (h.tops.C9 h.nd) (hT.C9 h.nd) (fun g hg=>by
  obtain⟨x,hx,gm⟩:=Eu.mp hg
  obtain⟨x',hx',s⟩:=part x hx
  exact Eu.mpr ⟨x',hx',s.gr gm⟩) fun g _ hn=>h.q0 g hn]
end
end Sw
namespace Sw.k05
open PySem PySem.Spec PyProof.Rows L2 Sw
structure Zs (K:Frg) (mg:Str->Option Value):Prop where
 ValueError:mg "ValueError" =none
 abs:mg "abs" =none
 int:mg "int" =none
 isinstance:mg "isinstance" =none
 len:mg "len" =none
 range:mg "range" =none
 str:mg "str" =none
 FIGURES: ∃t,mg "FIGURES" =some (.str "0123456789" t)
 g_NoCouple:mg "NoCouple" =some (.ref (He.ga K "NoCouple"))
 g_SwapError:mg "SwapError" =some (.ref (He.ga K "SwapError"))
 g_by_groups:mg "by_groups" =some (.ref (He.ga K "by_groups"))
 g_by_marks:mg "by_marks" =some (.ref (He.ga K "by_marks"))
 x_NoRow:GP K "NoRow" [("SwapError",true),("NoCouple",false)] [("ValueError",true)] []
open T
noncomputable section
variable {P:Program} {w:World} {K:Frg} {mg:Str->Option Value} {base:Heap} [NmC]
def lq (k_text:D) (y3:Unit) (x5:D):Option (Out (Unit) (Unit)):=
 ifO (b2 (D.ql true) (some x5) (some (.str "0123456789"))) ((b1 D.et (some k_text)).bind fun d7=>some (.exc ⟨"NoRow",[("row",d7)]⟩)) (some (.nx ())) fun(y6:Unit)=>some (.nx ())
def jT (a_text:D):Option (Out PEmpty PEmpty):=
 ifO (orB (o8 (chB D.leI D.leI (some (.int 1)) (b1 (un1 D.o7) (aj (some a_text) (aU))) (some (.int 12)))) (lL (b2 D.gtI (b1 (un1 D.o7) (aj (some a_text) (aU))) (some (.int 1))) (b2 D.eqA (b2 D.atS (some a_text) (some (.int 0))) (some (.str "0"))))) ((b1 D.et (some a_text)).bind fun d2=>some (.exc ⟨"NoRow",[("row",d2)]⟩)) (some (.nx ())) fun(y1:Unit)=>tA (b1 D.tv (some a_text)) (lq a_text) () fun(y3:Unit)=>cu (b1 (un1 D.qm) (aj (some a_text) (aU))) []
def eX:List D->Option FR:=fn1 fun a_text=>FO (jT a_text)
abbrev uD:List Str:=["text","sign"]
abbrev jU:List Str:=["text"]
theorem sL:FnScope uD jU (defScope eF):=⟨rfl,rfl,rfl,by decide+kernel,rfl,by decide+kernel,by decide+kernel⟩
abbrev jV:List PM:=[.bo]
abbrev jW:VM:=.rg .fz
theorem Bv (Z:Zs K mg) (X_NoRow:Xcl P w K mg base "NoRow" "row") {f:Addr} {cdv:Value} {A:Around} {outer:List Env} {s:Shared} {H:Hp} {E:XK} (hr:Room 2 (A.deeper (envOfC "number_of" (defScope eF) s.heap.objs.size f cdv))) (v0:V) (a_text:D):
  Blk (cxN P w K mg base uD "number_of" (defScope eF) f cdv A outer s H E) (fnX jW (bw jV [v0]) E) [.bo,.fz] [some a_text,none] (defBody eF) (jT a_text):=by
 unfold jT
 exact (ck [.bo,.fz] (fun(y1:Unit)=>[some a_text,none]) (PW.pt (pj (vo (tE op_le (iM (rg:=.fz)) op_le (iM (rg:=.fz)) (aA (rg:=.fz)) (dI call_len (tu (rg:=.fz)) (by rfl) Z.len kN (af (ae (md:=.bo) 0 rfl rfl rfl (.inl rfl)) aB)) (aA (rg:=.fz)))) (pZ (PW.pt (vp (aO op_gt (iM (rg:=.fz)) (dI call_len (tu (rg:=.fz)) (by rfl) Z.len kN (af (ae (md:=.bo) 0 rfl rfl rfl (.inl rfl)) aB)) (aA (rg:=.fz)) rfl) (rT (aO op_eq (di (rg:=.fz)) (cm ix_str (AK (rg:=.fz)) (ae (md:=.bo) 0 rfl rfl rfl (.inl rfl)) (aA (rg:=.fz)) (fun _ _=>rfl)) (aF (rg:=.fz)) rfl))))))) (tF X_NoRow hr rfl qN (uu (ae (md:=.bo) 0 rfl rfl rfl (.inl rfl)))) (aQ (.keep (.drop (.nil)))) (fun(y1:Unit)=>(mr (hp:=passes_of rfl) [.bo,.fz] (fun(y3:Unit)=>[some a_text,none]) [.bo,.fz] (fun(y3:Unit) (x5:D)=>[some a_text,some x5]) (vq (ae (md:=.bo) 0 rfl rfl rfl (.inl rfl))) cH fQ (pg_name (i:=1) sL.nd rfl (.inl rfl)) (dE _ 1 fQ (Nat.le_of_ble_eq_true rfl)) (.keep (.drop (.nil))) (fun(y3:Unit) (x5:D)=>by unfold lq;exact (ck [.bo,.fz] (fun(y6:Unit)=>[some a_text,some x5]) (aO op_notIn_sign Ja (ae (md:=.fz) 1 rfl rfl rfl (.inl rfl)) (GC (rg:=.fz) Z.FIGURES) rfl) (tF X_NoRow hr rfl qN (uu (ae (md:=.bo) 0 rfl rfl rfl (.inl rfl)))) (aQ (.keep (.keep (.nil)))) (fun(y6:Unit)=>(aQ (.keep (.drop (.nil))))))) (fun(y3:Unit)=>(PSs.nox (aT (pY call_int_str (Ck (rg:=.fz)) (by rfl) Z.int zt (af (ae (md:=.bo) 0 rfl rfl rfl (.inl rfl)) aB)) rfl rfl rfl))))))
theorem Ab (Z:Zs K mg) (X_NoRow:Xcl P w K mg base "NoRow" "row") {f:Addr} {fd:FuncData} (F:Fun K "number_of" "number_of" eF f fd):FnOk P w K mg base (L2N.CX P w) (3) f fd jU (FSp K jV jW eX):=
 Co (n:=1) F sL rfl rfl fun cdv A outer s H vs E hr hv ds fr hd ef=>match vs,hv,ds,hd,ef with| [v0],_,[a_text],_,ef=>⟨_,Bv Z X_NoRow hr v0 a_text,ef⟩
def jX (a_giver:D) (a_taker:D):Option (Out PEmpty PEmpty):=
 cu (orE (b2 (blD D.eqA) (b2 D.atT (some a_giver) (some (.int 0))) (some (.str "O"))) (orE (b2 (blD D.eqA) (b2 D.atT (some a_taker) (some (.int 0))) (some (.str "AB"))) (b2 (blD D.eqA) (b2 D.atT (some a_giver) (some (.int 0))) (b2 D.atT (some a_taker) (some (.int 0)))))) []
def iT:List D->Option FR:=fn2 fun a_giver a_taker=>FO (jX a_giver a_taker)
abbrev uE:List Str:=["giver","taker"]
abbrev pH:List Str:=["giver","taker"]
theorem Ac:FnScope uE pH (defScope de):=⟨rfl,rfl,rfl,by decide+kernel,rfl,by decide+kernel,by decide+kernel⟩
abbrev pJ:List PM:=[.bo,.bo]
abbrev pK:VM:=.rg .fz
theorem Bw (Z:Zs K mg) {f:Addr} {cdv:Value} {A:Around} {outer:List Env} {s:Shared} {H:Hp} {E:XK} (hr:Room 0 (A.deeper (envOfC "by_groups" (defScope de) s.heap.objs.size f cdv))) (v0 v1:V) (a_giver a_taker:D):
  Blk (cxT P w K mg base uE "by_groups" (defScope de) f cdv A outer s H E) (fnX pK (bw pJ [v0,v1]) E) [.bo,.bo] [some a_giver,some a_taker] (defBody de) (jX a_giver a_taker):=by
 unfold jX
 exact (aT (KW (mn op_eq (di (rg:=.fz)) (cm ix_tup kZ (ae (md:=.bo) 0 rfl rfl rfl (.inl rfl)) (aA (rg:=.fz)) (fun _ _=>rfl)) (aF (rg:=.fz)) rfl) (KW (mn op_eq (di (rg:=.fz)) (cm ix_tup kZ (ae (md:=.bo) 1 rfl rfl rfl (.inl rfl)) (aA (rg:=.fz)) (fun _ _=>rfl)) (aF (rg:=.fz)) rfl) (Gp (mn op_eq (di (rg:=.fz)) (cm ix_tup kZ (ae (md:=.bo) 0 rfl rfl rfl (.inl rfl)) (aA (rg:=.fz)) (fun _ _=>rfl)) (cm ix_tup kZ (ae (md:=.bo) 1 rfl rfl rfl (.inl rfl)) (aA (rg:=.fz)) (fun _ _=>rfl)) rfl)))) rfl rfl rfl)
theorem sM (Z:Zs K mg) {f:Addr} {fd:FuncData} (F:Fun K "by_groups" "by_groups" de f fd):FnOk P w K mg base CX0 (1) f fd pH (FSp K pJ pK iT):=
 dM (n:=0) F Ac rfl rfl fun cdv A outer s H vs E hr hv ds fr hd ef=>match vs,hv,ds,hd,ef with| [v0,v1],_,[a_giver,a_taker],_,ef=>⟨_,Bw Z hr v0 v1 a_giver a_taker,ef⟩
def mh (k_taker:D) (y1:Unit) (x3:D):Option (Out (Unit) (Unit)):=
 ifO (b2 (D.ql false) (some x3) (b2 D.atT (some k_taker) (some (.int 2)))) (cu (some (.bl false)) []) (some (.nx ())) fun(y4:Unit)=>some (.nx ())
def lP (a_giver:D) (a_taker:D):Option (Out PEmpty PEmpty):=
 tA (b1 D.tv (b2 D.atT (some a_giver) (some (.int 2)))) (mh a_taker) () fun(y1:Unit)=>cu (some (.bl true)) []
def jY:List D->Option FR:=fn2 fun a_giver a_taker=>FO (lP a_giver a_taker)
abbrev xF:List Str:=["giver","taker","mark"]
abbrev qY:List Str:=["giver","taker"]
theorem uF:FnScope xF qY (defScope eU):=⟨rfl,rfl,rfl,by decide+kernel,rfl,by decide+kernel,by decide+kernel⟩
abbrev qZ:List PM:=[.bo,.bo]
abbrev q7:VM:=.rg .fz
theorem Dc (Z:Zs K mg) {f:Addr} {cdv:Value} {A:Around} {outer:List Env} {s:Shared} {H:Hp} {E:XK} (hr:Room 0 (A.deeper (envOfC "by_marks" (defScope eU) s.heap.objs.size f cdv))) (v0 v1:V) (a_giver a_taker:D):
  Blk (cxT P w K mg base xF "by_marks" (defScope eU) f cdv A outer s H E) (fnX q7 (bw qZ [v0,v1]) E) [.bo,.bo,.fz] [some a_giver,some a_taker,none] (defBody eU) (lP a_giver a_taker):=by
 unfold lP
 exact (mr [.bo,.bo,.fz] (fun(y1:Unit)=>[some a_giver,some a_taker,none]) [.bo,.bo,.fz] (fun(y1:Unit) (x3:D)=>[some a_giver,some a_taker,some x3]) (vq (cm ix_tup kZ (ae (md:=.bo) 0 rfl rfl rfl (.inl rfl)) (aA (rg:=.fz)) (fun _ _=>rfl))) cH fQ (pg_name (i:=2) uF.nd rfl (.inl rfl)) (dE _ 2 fQ (Nat.le_of_ble_eq_true rfl)) (.keep (.keep (.drop (.nil)))) (fun(y1:Unit) (x3:D)=>by unfold mh;exact (ck [.bo,.bo,.fz] (fun(y4:Unit)=>[some a_giver,some a_taker,some x3]) (aO op_in_sign GD (ae (md:=.fz) 2 rfl rfl rfl (.inl rfl)) (cm ix_tup kZ (ae (md:=.bo) 1 rfl rfl rfl (.inl rfl)) (aA (rg:=.fz)) (fun _ _=>rfl)) rfl) (aT (kX (rg:=.fz)) rfl rfl rfl) (aQ (.keep (.keep (.keep (.nil))))) (fun(y4:Unit)=>(aQ (.keep (.keep (.drop (.nil)))))))) (fun(y1:Unit)=>(aT (kX (rg:=.fz)) rfl rfl rfl)))
theorem uG (Z:Zs K mg) {f:Addr} {fd:FuncData} (F:Fun K "by_marks" "by_marks" eU f fd):FnOk P w K mg base CX0 (1) f fd qY (FSp K qZ q7 jY):=
 dM (n:=1) F uF rfl rfl fun cdv A outer s H vs E hr hv ds fr hd ef=>match vs,hv,ds,hd,ef with| [v0,v1],_,[a_giver,a_taker],_,ef=>⟨_,Dc Z hr v0 v1 a_giver a_taker,ef⟩
def Bx (a_giver:D) (a_taker:D):Option (Out PEmpty PEmpty):=
 cu (b1 (un1 D.E8) (aj (b2 D.rP (b2 D.atT (some a_giver) (some (.int 1))) (b2 D.atT (some a_taker) (some (.int 1)))) (aU))) []
def tP:List D->Option FR:=fn2 fun a_giver a_taker=>FO (Bx a_giver a_taker)
abbrev Lf:List Str:=["giver","taker"]
abbrev By:List Str:=["giver","taker"]
theorem Nr:FnScope Lf By (defScope ug):=⟨rfl,rfl,rfl,by decide+kernel,rfl,by decide+kernel,by decide+kernel⟩
abbrev Bz:List PM:=[.bo,.bo]
abbrev BA:VM:=.rg .fz
theorem O7 (Z:Zs K mg) {f:Addr} {cdv:Value} {A:Around} {outer:List Env} {s:Shared} {H:Hp} {E:XK} (hr:Room 0 (A.deeper (envOfC "gap" (defScope ug) s.heap.objs.size f cdv))) (v0 v1:V) (a_giver a_taker:D):
  Blk (cxT P w K mg base Lf "gap" (defScope ug) f cdv A outer s H E) (fnX BA (bw Bz [v0,v1]) E) [.bo,.bo] [some a_giver,some a_taker] (defBody ug) (Bx a_giver a_taker):=by
 unfold Bx
 exact (aT (dI call_abs (Ml (rg:=.fz)) (by rfl) Z.abs Me (af (aI op_sub (zo (rg:=.fz)) (cm ix_tup kZ (ae (md:=.bo) 0 rfl rfl rfl (.inl rfl)) (aA (rg:=.fz)) (fun _ _=>rfl)) (cm ix_tup kZ (ae (md:=.bo) 1 rfl rfl rfl (.inl rfl)) (aA (rg:=.fz)) (fun _ _=>rfl))) aB)) rfl rfl rfl)
theorem Nt (Z:Zs K mg) {f:Addr} {fd:FuncData} (F:Fun K "gap" "gap" ug f fd):FnOk P w K mg base CX0 (1) f fd By (FSp K Bz BA tP):=
 dM (n:=0) F Nr rfl rfl fun cdv A outer s H vs E hr hv ds fr hd ef=>match vs,hv,ds,hd,ef with| [v0,v1],_,[a_giver,a_taker],_,ef=>⟨_,O7 Z hr v0 v1 a_giver a_taker,ef⟩
def fq (R_:List D->Option FR) (a_giver:D) (a_taker:D) (a_bound:D):Option (Out PEmpty PEmpty):=
 cu (b2 (blD D.leI) (bp tP (aj (some a_giver) (aj (some a_taker) (aU)))) (some a_bound)) []
def fZ (R_:List D->Option FR):List D->Option FR:=fn3 fun a_giver a_taker a_bound=>FO (fq R_ a_giver a_taker a_bound)
abbrev gZ:Stmt:=(defBody jo).headD (.Pass ⟨0,0,0,0⟩)
abbrev bJ:FnT:=fnT gZ "lets" "by_sizes" "bound"
abbrev oQ:List Str:=["giver","taker","bound"]
abbrev oU:List Str:=["giver","taker"]
theorem tQ:NdefX.NScope oQ oU ["bound"] (C8.fnScope gZ):=NdefX.nscope_by (by decide+kernel)
abbrev uY:List PM:=[.bo,.bo,.bo]
abbrev uZ:VM:=.rg .fz
theorem u4 {R_:List D->Option FR} {k0_:Nat} (hJ_:1<=k0_) (C_rec:sj P w K mg base k0_ R_) (Z:Zs K mg) (C_gap:Cal P w K mg base 1 "gap" By Bz BA tP) {f c c':Addr} {A:Around} {outer:List Env} {s:Shared} {H:Hp} {E:XK} (hr:Room k0_ (A.deeper (NdefX.envF (bJ.nf c c') f s.heap.objs.size))) (v0 v1 v2:V) (a_giver a_taker a_bound:D):
  Blk (NdefX.ncx CX0 P w K mg base oQ (bJ.nf c c') f A outer s H E).nox (fnX uZ (bw uY [v0,v1,v2]) E) [.bo,.bo,.bo] [some a_giver,some a_taker,some a_bound] (C8.fnBody gZ) (fq R_ a_giver a_taker a_bound):=by
 unfold fq
 exact (aT (mn op_le (iM (rg:=.fz)) (aW (hk:=Nat.le_trans (by decide:1<=1) hJ_) C_gap hr (af (ae (md:=.bo) 0 rfl rfl rfl (.inl rfl)) (af (ae (md:=.bo) 1 rfl rfl rfl (.inl rfl)) aB))) (ae (md:=.bo) 2 rfl rfl rfl (.inr (.inr rfl))) rfl) rfl rfl rfl)
theorem tS {R_:List D->Option FR} {k0_:Nat} (hJ_:1<=k0_) (C_rec:sj P w K mg base k0_ R_) (Z:Zs K mg) (C_gap:Cal P w K mg base 1 "gap" By Bz BA tP):Cp P w K mg base (k0_+1) bJ (fZ R_):=
 se rfl fun f c c'=>vA (ps:=oU) (n:=0) tQ rfl rfl (fun _ _ _ us hl=>match us,hl with| [_,_],_=>rfl) fun A outer s H vs E hr hv ds fr hd ef=>match vs,hv,ds,hd,ef with| [v0,v1,v2],_,[a_giver,a_taker,a_bound],_,ef=>⟨_,u4 hJ_ C_rec Z C_gap hr v0 v1 v2 a_giver a_taker a_bound,ef⟩
def iE:List D->Option FR:=fn1 fun d=>some (.ok (.clo bJ d) [])
abbrev nW:List Str:=["bound"]
abbrev nX:List PM:=[.fz]
abbrev nY:VM:=.rg .fz
theorem BB:FnScope ["bound","lets"] ["bound"] (defScope jo):=⟨rfl,rfl,rfl,by decide+kernel,rfl,by decide+kernel,by decide+kernel⟩
theorem BC (Z:Zs K mg) {f:Addr} {fd:FuncData} (F:Fun K "by_sizes" "by_sizes" jo f fd) (Lm:pz base mg fd.code (("by_sizes" :Str)++".<locals>." ++"lets")):FnOk P w K mg base CX0 1 f fd nW (FSp K nX nY iE):=
 D4 (nst:=gZ) F BB Lm rfl rfl (by decide+kernel) rfl rfl (fun _=>rfl) (fun _=>rfl) rfl rfl
def ft (R_:List D->Option FR) (a_giver:D) (a_taker:D) (a_rule:D):Option (Out PEmpty PEmpty):=
 cu (Ma (bp R_ (aj (some a_rule) (aj (some a_giver) (aj (some a_taker) (aU)))))) []
def gb (R_:List D->Option FR):List D->Option FR:=fn3 fun a_giver a_taker a_rule=>FO (ft R_ a_giver a_taker a_rule)
abbrev g5:Stmt:=(defBody jq).headD (.Pass ⟨0,0,0,0⟩)
abbrev bu:FnT:=fnT g5 "lets" "opposite" "rule"
abbrev oV:List Str:=["giver","taker","rule"]
abbrev oW:List Str:=["giver","taker"]
theorem tT:NdefX.NScope oV oW ["rule"] (C8.fnScope g5):=NdefX.nscope_by (by decide+kernel)
abbrev u6:List PM:=[.bo,.bo,.bo]
abbrev u7:VM:=.rg .fz
theorem u9 {R_:List D->Option FR} {k0_:Nat} (hJ_:1<=k0_) (C_rec:sj P w K mg base k0_ R_) (Z:Zs K mg) {f c c':Addr} {A:Around} {outer:List Env} {s:Shared} {H:Hp} {E:XK} (hr:Room k0_ (A.deeper (NdefX.envF (bu.nf c c') f s.heap.objs.size))) (v0 v1 v2:V) (a_giver a_taker a_rule:D):
  Blk (NdefX.ncx CX0 P w K mg base oV (bu.nf c c') f A outer s H E).nox (fnX u7 (bw u6 [v0,v1,v2]) E) [.bo,.bo,.bo] [some a_giver,some a_taker,some a_rule] (C8.fnBody g5) (ft R_ a_giver a_taker a_rule):=by
 unfold ft
 exact (aT (LU (rg:=.fz) (zv (hk:=Nat.le_refl _) 2 C_rec hr rfl rfl rfl (.inr (.inr rfl)) (af (ae (md:=.bo) 0 rfl rfl rfl (.inl rfl)) (af (ae (md:=.bo) 1 rfl rfl rfl (.inl rfl)) aB)))) rfl rfl rfl)
theorem tU {R_:List D->Option FR} {k0_:Nat} (hJ_:1<=k0_) (C_rec:sj P w K mg base k0_ R_) (Z:Zs K mg):Cp P w K mg base (k0_+1) bu (gb R_):=
 se rfl fun f c c'=>vA (ps:=oW) (n:=0) tT rfl rfl (fun _ _ _ us hl=>match us,hl with| [_,_],_=>rfl) fun A outer s H vs E hr hv ds fr hd ef=>match vs,hv,ds,hd,ef with| [v0,v1,v2],_,[a_giver,a_taker,a_rule],_,ef=>⟨_,u9 hJ_ C_rec Z hr v0 v1 v2 a_giver a_taker a_rule,ef⟩
def iF:List D->Option FR:=fn1 fun d=>some (.ok (.clo bu d) [])
abbrev nZ:List Str:=["rule"]
abbrev oa:List PM:=[.fz]
abbrev oj:VM:=.rg .fz
theorem BD:FnScope ["rule","lets"] ["rule"] (defScope jq):=⟨rfl,rfl,rfl,by decide+kernel,rfl,by decide+kernel,by decide+kernel⟩
theorem BE (Z:Zs K mg) {f:Addr} {fd:FuncData} (F:Fun K "opposite" "opposite" jq f fd) (Lm:pz base mg fd.code (("opposite" :Str)++".<locals>." ++"lets")):FnOk P w K mg base CX0 1 f fd nZ (FSp K oa oj iF):=
 D4 (nst:=g5) F BD Lm rfl rfl (by decide+kernel) rfl rfl (fun _=>rfl) (fun _=>rfl) rfl rfl
def g6 (R_:List D->Option FR) (k_giver:D) (k_taker:D) (y1:Unit) (x3:D):Option (Out (Unit) (Unit)):=
 ifO (o8 (b1 D.tb (bp R_ (aj (some x3) (aj (some k_giver) (aj (some k_taker) (aU))))))) (cu (some (.bl false)) []) (some (.nx ())) fun(y4:Unit)=>some (.nx ())
def fU (R_:List D->Option FR) (a_giver:D) (a_taker:D) (a_rules:D):Option (Out PEmpty PEmpty):=
 tA (wC (some a_rules)) (g6 R_ a_giver a_taker) () fun(y1:Unit)=>cu (some (.bl true)) []
def g7 (R_:List D->Option FR):List D->Option FR:=fn3 fun a_giver a_taker a_rules=>FO (fU R_ a_giver a_taker a_rules)
abbrev iU:Stmt:=(defBody lD).headD (.Pass ⟨0,0,0,0⟩)
abbrev bV:FnT:=fnT iU "lets" "all_let" "rules"
abbrev pM:List Str:=["giver","taker","rules","rule"]
abbrev pN:List Str:=["giver","taker"]
theorem oY:NdefX.NScope pM pN ["rules"] (C8.fnScope iU):=NdefX.nscope_by (by decide+kernel)
abbrev xG:List PM:=[.bo,.bo,.bo]
abbrev xH:VM:=.rg .fz
theorem xI {R_:List D->Option FR} {k0_:Nat} (hJ_:1<=k0_) (C_rec:sj P w K mg base k0_ R_) (Z:Zs K mg) {f c c':Addr} {A:Around} {outer:List Env} {s:Shared} {H:Hp} {E:XK} (hr:Room k0_ (A.deeper (NdefX.envF (bV.nf c c') f s.heap.objs.size))) (v0 v1 v2:V) (a_giver a_taker a_rules:D):
  Blk (NdefX.ncx CX0 P w K mg base pM (bV.nf c c') f A outer s H E).nox (fnX xH (bw xG [v0,v1,v2]) E) [.bo,.bo,.bo,.fz] [some a_giver,some a_taker,some a_rules,none] (C8.fnBody iU) (fU R_ a_giver a_taker a_rules):=by
 unfold fU
 exact (mr [.bo,.bo,.bo,.fz] (fun(y1:Unit)=>[some a_giver,some a_taker,some a_rules,none]) [.bo,.bo,.bo,.bo] (fun(y1:Unit) (x3:D)=>[some a_giver,some a_taker,some a_rules,some x3]) (jP (ae (md:=.bo) 2 rfl rfl rfl (.inr (.inr rfl)))) cH mN (pg_name (i:=3) oY.nd rfl (.inl rfl)) (dE _ 3 mN (Nat.le_of_ble_eq_true rfl)) (.keep (.keep (.keep (.drop (.nil))))) (fun(y1:Unit) (x3:D)=>by unfold g6;exact (ck [.bo,.bo,.bo,.bo] (fun(y4:Unit)=>[some a_giver,some a_taker,some a_rules,some x3]) (vo (DR (zv (hk:=Nat.le_refl _) 3 C_rec hr rfl rfl rfl (.inl rfl) (af (ae (md:=.bo) 0 rfl rfl rfl (.inl rfl)) (af (ae (md:=.bo) 1 rfl rfl rfl (.inl rfl)) aB))))) (aT (kX (rg:=.fz)) rfl rfl rfl) (aQ (.keep (.keep (.keep (.keep (.nil)))))) (fun(y4:Unit)=>(aQ (.keep (.keep (.keep (.drop (.nil))))))))) (fun(y1:Unit)=>(aT (kX (rg:=.fz)) rfl rfl rfl)))
theorem va {R_:List D->Option FR} {k0_:Nat} (hJ_:1<=k0_) (C_rec:sj P w K mg base k0_ R_) (Z:Zs K mg):Cp P w K mg base (k0_+1) bV (g7 R_):=
 se rfl fun f c c'=>vA (ps:=pN) (n:=1) oY rfl rfl (fun _ _ _ us hl=>match us,hl with| [_,_],_=>rfl) fun A outer s H vs E hr hv ds fr hd ef=>match vs,hv,ds,hd,ef with| [v0,v1,v2],_,[a_giver,a_taker,a_rules],_,ef=>⟨_,xI hJ_ C_rec Z hr v0 v1 v2 a_giver a_taker a_rules,ef⟩
def jB:List D->Option FR:=fn1 fun d=>some (.ok (.clo bV d) [])
abbrev qe:List Str:=["rules"]
abbrev qf:List PM:=[.fz]
abbrev qg:VM:=.rg .fz
theorem Dd:FnScope ["rules","lets"] ["rules"] (defScope lD):=⟨rfl,rfl,rfl,by decide+kernel,rfl,by decide+kernel,by decide+kernel⟩
theorem Df (Z:Zs K mg) {f:Addr} {fd:FuncData} (F:Fun K "all_let" "all_let" lD f fd) (Lm:pz base mg fd.code (("all_let" :Str)++".<locals>." ++"lets")):FnOk P w K mg base CX0 1 f fd qe (FSp K qf qg jB):=
 D4 (nst:=iU) F Dd Lm rfl rfl (by decide+kernel) rfl rfl (fun _=>rfl) (fun _=>rfl) rfl rfl
def gc (R_:List D->Option FR) (k_giver:D) (k_taker:D) (y1:Unit) (x3:D):Option (Out (Unit) (Unit)):=
 ifO (b1 D.tb (bp R_ (aj (some x3) (aj (some k_giver) (aj (some k_taker) (aU)))))) (cu (some (.bl true)) []) (some (.nx ())) fun(y4:Unit)=>some (.nx ())
def fu (R_:List D->Option FR) (a_giver:D) (a_taker:D) (a_rules:D):Option (Out PEmpty PEmpty):=
 tA (wC (some a_rules)) (gc R_ a_giver a_taker) () fun(y1:Unit)=>cu (some (.bl false)) []
def gh (R_:List D->Option FR):List D->Option FR:=fn3 fun a_giver a_taker a_rules=>FO (fu R_ a_giver a_taker a_rules)
abbrev g8:Stmt:=(defBody jr).headD (.Pass ⟨0,0,0,0⟩)
abbrev bL:FnT:=fnT g8 "lets" "one_lets" "rules"
abbrev oZ:List Str:=["giver","taker","rules","rule"]
abbrev o5:List Str:=["giver","taker"]
theorem mX:NdefX.NScope oZ o5 ["rules"] (C8.fnScope g8):=NdefX.nscope_by (by decide+kernel)
abbrev vc:List PM:=[.bo,.bo,.bo]
abbrev vd:VM:=.rg .fz
theorem ve {R_:List D->Option FR} {k0_:Nat} (hJ_:1<=k0_) (C_rec:sj P w K mg base k0_ R_) (Z:Zs K mg) {f c c':Addr} {A:Around} {outer:List Env} {s:Shared} {H:Hp} {E:XK} (hr:Room k0_ (A.deeper (NdefX.envF (bL.nf c c') f s.heap.objs.size))) (v0 v1 v2:V) (a_giver a_taker a_rules:D):
  Blk (NdefX.ncx CX0 P w K mg base oZ (bL.nf c c') f A outer s H E).nox (fnX vd (bw vc [v0,v1,v2]) E) [.bo,.bo,.bo,.fz] [some a_giver,some a_taker,some a_rules,none] (C8.fnBody g8) (fu R_ a_giver a_taker a_rules):=by
 unfold fu
 exact (mr [.bo,.bo,.bo,.fz] (fun(y1:Unit)=>[some a_giver,some a_taker,some a_rules,none]) [.bo,.bo,.bo,.bo] (fun(y1:Unit) (x3:D)=>[some a_giver,some a_taker,some a_rules,some x3]) (jP (ae (md:=.bo) 2 rfl rfl rfl (.inr (.inr rfl)))) cH mN (pg_name (i:=3) mX.nd rfl (.inl rfl)) (dE _ 3 mN (Nat.le_of_ble_eq_true rfl)) (.keep (.keep (.keep (.drop (.nil))))) (fun(y1:Unit) (x3:D)=>by unfold gc;exact (ck [.bo,.bo,.bo,.bo] (fun(y4:Unit)=>[some a_giver,some a_taker,some a_rules,some x3]) (DR (zv (hk:=Nat.le_refl _) 3 C_rec hr rfl rfl rfl (.inl rfl) (af (ae (md:=.bo) 0 rfl rfl rfl (.inl rfl)) (af (ae (md:=.bo) 1 rfl rfl rfl (.inl rfl)) aB)))) (aT (kX (rg:=.fz)) rfl rfl rfl) (aQ (.keep (.keep (.keep (.keep (.nil)))))) (fun(y4:Unit)=>(aQ (.keep (.keep (.keep (.drop (.nil))))))))) (fun(y1:Unit)=>(aT (kX (rg:=.fz)) rfl rfl rfl)))
theorem tV {R_:List D->Option FR} {k0_:Nat} (hJ_:1<=k0_) (C_rec:sj P w K mg base k0_ R_) (Z:Zs K mg):Cp P w K mg base (k0_+1) bL (gh R_):=
 se rfl fun f c c'=>vA (ps:=o5) (n:=1) mX rfl rfl (fun _ _ _ us hl=>match us,hl with| [_,_],_=>rfl) fun A outer s H vs E hr hv ds fr hd ef=>match vs,hv,ds,hd,ef with| [v0,v1,v2],_,[a_giver,a_taker,a_rules],_,ef=>⟨_,ve hJ_ C_rec Z hr v0 v1 v2 a_giver a_taker a_rules,ef⟩
def iG:List D->Option FR:=fn1 fun d=>some (.ok (.clo bL d) [])
abbrev om:List Str:=["rules"]
abbrev oq:List PM:=[.fz]
abbrev ou:VM:=.rg .fz
theorem BF:FnScope ["rules","lets"] ["rules"] (defScope jr):=⟨rfl,rfl,rfl,by decide+kernel,rfl,by decide+kernel,by decide+kernel⟩
theorem BG (Z:Zs K mg) {f:Addr} {fd:FuncData} (F:Fun K "one_lets" "one_lets" jr f fd) (Lm:pz base mg fd.code (("one_lets" :Str)++".<locals>." ++"lets")):FnOk P w K mg base CX0 1 f fd om (FSp K oq ou iG):=
 D4 (nst:=g8) F BF Lm rfl rfl (by decide+kernel) rfl rfl (fun _=>rfl) (fun _=>rfl) rfl rfl
def mY (a_text:D):Option (Out PEmpty PEmpty):=
 ifO (b2 D.eqA (some a_text) (some (.str "groups"))) (cu (some (.glf "by_groups")) []) (some (.nx ())) fun(y1:Unit)=>ifO (b2 D.eqA (some a_text) (some (.str "marks"))) (cu (some (.glf "by_marks")) []) (some (.nx ())) fun(y2:Unit)=>(b1 D.pr3 (b2 D.part (some a_text) (some (.str " ")))).bind fun d3=>ifX (orX (b2 D.neA (some d3.1) (some (.str "sizes"))) (bX (((aj (some d3.2.2) (aU)).bind eX).bind frX) fun d4=>b2 D.gtI (some d4) (some (.int 98)))) ((b1 D.et (some a_text)).bind fun d6=>some (.exc ⟨"NoRow",[("row",d6)]⟩)) (some (.nx ())) fun(y5:Unit)=>xbO (bX (((aj (some d3.2.2) (aU)).bind eX).bind frX) fun d8=>bp iE (aj (some d8) (aU))) fun d7=>some (.ret d7 [])
def ie:List D->Option FR:=fn1 fun a_text=>FO (mY a_text)
abbrev yY:List Str:=["text","word","blank","figures"]
abbrev mZ:List Str:=["text"]
theorem oy:FnScope yY mZ (defScope iA):=⟨rfl,rfl,rfl,by decide+kernel,rfl,by decide+kernel,by decide+kernel⟩
abbrev m5:List PM:=[.bo]
abbrev m6:VM:=.rg .fz
theorem FL (Z:Zs K mg) (C_number_of:wH P w K mg base 3 "number_of" jU jV jW eX) (C_by_sizes:Cal P w K mg base 1 "by_sizes" nW nX nY iE) (X_NoRow:Xcl P w K mg base "NoRow" "row") {f:Addr} {cdv:Value} {A:Around} {outer:List Env} {s:Shared} {H:Hp} {E:XK} (hr:Room 3 (A.deeper (envOfC "term_of" (defScope iA) s.heap.objs.size f cdv))) (v0:V) (a_text:D):
  Blk (cxN P w K mg base yY "term_of" (defScope iA) f cdv A outer s H E) (fnX m6 (bw m5 [v0]) E) [.bo,.fz,.fz,.fz] [some a_text,none,none,none] (defBody iA) (mY a_text):=by
 unfold mY
 exact (ck [.bo,.fz,.fz,.fz] (fun(y1:Unit)=>[some a_text,none,none,none]) (aO op_eq (di (rg:=.fz)) (ae (md:=.bo) 0 rfl rfl rfl (.inl rfl)) (aF (rg:=.fz)) rfl) (PSs.nox (aT (GZ (rg:=.fz) Z.g_by_groups) rfl rfl rfl)) (aQ (.keep (.drop (.drop (.drop (.nil)))))) (fun(y1:Unit)=>(ck [.bo,.fz,.fz,.fz] (fun(y2:Unit)=>[some a_text,none,none,none]) (aO op_eq (di (rg:=.fz)) (ae (md:=.bo) 0 rfl rfl rfl (.inl rfl)) (aF (rg:=.fz)) rfl) (PSs.nox (aT (GZ (rg:=.fz) Z.g_by_marks) rfl rfl rfl)) (aQ (.keep (.drop (.drop (.drop (.nil)))))) (fun(y2:Unit)=>(DV 1 2 3 [.bo,.fz,.fz,.fz] (fun(d3:D×D×D)=>[some a_text,some d3.1,some d3.2.1,some d3.2.2]) (Jb (ae (md:=.bo) 0 rfl rfl rfl (.inl rfl)) (aF (rg:=.fz))) fQ (pg_tup rfl (pgs_cons (pg_name (i:=1) oy.nd rfl (.inl rfl)) (pgs_cons (pg_name (i:=2) oy.nd rfl (.inl rfl)) (pgs_cons (pg_name (i:=3) oy.nd rfl (.inl rfl)) pgs_nil)))) (fun(d3:D×D×D)=>(ML [.bo,.fz,.fz,.fz] (fun(y5:Unit)=>[some a_text,some d3.1,some d3.2.1,some d3.2.2]) (PW.pt (MK (aO op_ne (DM (rg:=.fz)) (ae (md:=.fz) 1 rfl rfl rfl (.inl rfl)) (aF (rg:=.fz)) rfl) (JJ (JL op_gt (iM (rg:=.fz)) (nA C_number_of hr qN (af (ae (md:=.fz) 3 rfl rfl rfl (.inl rfl)) aB)) (aA (rg:=.fz)) rfl)))) (tF X_NoRow hr rfl qN (uu (ae (md:=.bo) 0 rfl rfl rfl (.inl rfl)))) (aQ (.keep (.keep (.keep (.keep (.nil)))))) (fun(y5:Unit)=>(zu (qO C_by_sizes hr (nA C_number_of hr qN (af (ae (md:=.fz) 3 rfl rfl rfl (.inl rfl)) aB))) rfl rfl rfl)))))))))
theorem Dg (Z:Zs K mg) (C_number_of:wH P w K mg base 3 "number_of" jU jV jW eX) (C_by_sizes:Cal P w K mg base 1 "by_sizes" nW nX nY iE) (X_NoRow:Xcl P w K mg base "NoRow" "row") {f:Addr} {fd:FuncData} (F:Fun K "term_of" "term_of" iA f fd):FnOk P w K mg base (L2N.CX P w) (4) f fd mZ (FSp K m5 m6 ie):=
 Co (n:=3) F oy rfl rfl fun cdv A outer s H vs E hr hv ds fr hd ef=>match vs,hv,ds,hd,ef with| [v0],_,[a_text],_,ef=>⟨_,FL Z C_number_of C_by_sizes X_NoRow hr v0 a_text,ef⟩
def jJ (y2:D×D):Option (Out (D×D) (D×D)):=
 (px D.cutS (some y2.1) (b1 D.toI (some (.int 3))) (some none)).bind fun d3=>(b2 D.bP (some y2.2) (some (.int 1))).bind fun d4=>some (.nx (d3,d4))
def iV (a_text:D):Option (Out PEmpty PEmpty):=
 (some (.int 0)).bind fun d1=>whO (fun(y2:D×D)=>lL (b2 D.ltI (some y2.2) (some (.int 5))) (b1 D.tb (b2 D.starts (some y2.1) (some (.str "no "))))) (jJ) (a_text,d1) fun(y2:D×D)=>ifO (b2 D.eqA (b2 D.bT (some y2.2) (some (.int 2))) (some (.int 1))) (xbO (bX (((aj (some y2.1) (aU)).bind ie).bind frX) fun d7=>bp iF (aj (some d7) (aU))) fun d6=>some (.ret d6 [])) (some (.nx ())) fun(y5:Unit)=>xbO (((aj (some y2.1) (aU)).bind ie).bind frX) fun d8=>some (.ret d8 [])
def fF:List D->Option FR:=fn1 fun a_text=>FO (iV a_text)
abbrev sO:List Str:=["text","times"]
abbrev iW:List Str:=["text"]
theorem jK:FnScope sO iW (defScope df):=⟨rfl,rfl,rfl,by decide+kernel,rfl,by decide+kernel,by decide+kernel⟩
abbrev iX:List PM:=[.fz]
abbrev iY:VM:=.rg .fz
theorem Ad (Z:Zs K mg) (C_opposite:Cal P w K mg base 1 "opposite" nZ oa oj iF) (C_term_of:wH P w K mg base 4 "term_of" mZ m5 m6 ie) {f:Addr} {cdv:Value} {A:Around} {outer:List Env} {s:Shared} {H:Hp} {E:XK} (hr:Room 4 (A.deeper (envOfC "noted_term" (defScope df) s.heap.objs.size f cdv))) (v0:V) (a_text:D):
  Blk (cxN P w K mg base sO "noted_term" (defScope df) f cdv A outer s H E) (fnX iY (bw iX [v0]) E) [.fz,.fz] [some a_text,none] (defBody df) (iV a_text):=by
 unfold iV
 exact (aY 1 [.fz,.fz] (fun(d1:D)=>[some a_text,some d1]) (aA (rg:=.fz)) (fun(d1:D)=>(AR (hp:=passes_of rfl) [.fz,.fz] (fun(y2:D×D)=>[some y2.1,some y2.2]) (fun(y2:D×D)=>(PW.pt (vp (aO op_lt (iM (rg:=.fz)) (ae (md:=.fz) 1 rfl rfl rfl (.inl rfl)) (aA (rg:=.fz)) rfl) (rT (DR (Fc (rg:=.fz) (ae (md:=.fz) 0 rfl rfl rfl (.inl rfl)) (aF (rg:=.fz)))))))) (.keep (.keep (.nil))) (fun(y2:D×D)=>by unfold jJ;exact (PSs.nox (aY 0 [.fz,.fz] (fun(d3:D)=>[some d3,some y2.2]) (nu (rg:=.fz) (ae (md:=.fz) 0 rfl rfl rfl (.inl rfl)) (dq (aA (rg:=.fz))) dj) (fun(d3:D)=>(Jd (fI:=fun i j=>i+j) 1 [.fz,.fz] (fun(d4:D)=>[some d3,some d4]) ip_add Mh (aA (rg:=.fz)) (fun(d4:D)=>(aQ (.keep (.keep (.nil))))) (.inl rfl) jK.nd)) (.inl rfl) jK.nd))) (fun(y2:D×D)=>(ck [.fz,.fz] (fun(y5:Unit)=>[some y2.1,some y2.2]) (aO op_eq (di (rg:=.fz)) (aI op_mod (cC (rg:=.fz)) (ae (md:=.fz) 1 rfl rfl rfl (.inl rfl)) (aA (rg:=.fz))) (aA (rg:=.fz)) rfl) (zu (qO C_opposite hr (nA C_term_of hr qN (af (ae (md:=.fz) 0 rfl rfl rfl (.inl rfl)) aB))) rfl rfl rfl) (aQ (.keep (.keep (.nil)))) (fun(y5:Unit)=>(zu (nA C_term_of hr qN (af (ae (md:=.fz) 0 rfl rfl rfl (.inl rfl)) aB)) rfl rfl rfl)))))) (.inl rfl) jK.nd)
theorem yd (Z:Zs K mg) (C_opposite:Cal P w K mg base 1 "opposite" nZ oa oj iF) (C_term_of:wH P w K mg base 4 "term_of" mZ m5 m6 ie) {f:Addr} {fd:FuncData} (F:Fun K "noted_term" "noted_term" df f fd):FnOk P w K mg base (L2N.CX P w) (5) f fd iW (FSp K iX iY fF):=
 Co (n:=1) F jK rfl rfl fun cdv A outer s H vs E hr hv ds fr hd ef=>match vs,hv,ds,hd,ef with| [v0],_,[a_text],_,ef=>⟨_,Ad Z C_opposite C_term_of hr v0 a_text,ef⟩
def m7 (a_text:D):Option (Out PEmpty PEmpty):=
 (some (.lst [])).bind fun d1=>MA (Hc (wC (b2 D.split (some a_text) (some (.str " or ")))) (fun(y3 x4:D)=>bX (bX (lcX (wC (b2 D.split (some x4) (some (.str " and ")))) (fun c5:D=>((aj (some c5) (aU)).bind fF).bind frX)) fun d6=>bp jB (aj (some d6) (aU))) fun d7=>(D.app y3 d7).map (·.2)) d1) "NoRow" "row" (b1 D.et (some a_text)) fun(y3:D)=>cu (bp iG (aj (some y3) (aU))) []
def jC:List D->Option FR:=fn1 fun a_text=>FO (m7 a_text)
abbrev tW:List Str:=["text","some","part","term"]
abbrev m8:List Str:=["text"]
theorem lQ:FnScope tW m8 (defScope fY):=⟨rfl,rfl,rfl,by decide+kernel,rfl,by decide+kernel,by decide+kernel⟩
abbrev m9:List PM:=[.bo]
abbrev nh:VM:=.rg .fz
theorem FN (Z:Zs K mg) (C_noted_term:wH P w K mg base 5 "noted_term" iW iX iY fF) (C_all_let:Cal P w K mg base 1 "all_let" qe qf qg jB) (C_one_lets:Cal P w K mg base 1 "one_lets" om oq ou iG) (X_NoRow:Xcl P w K mg base "NoRow" "row") (Xf_NoRow:Cm K "NoRow" "row" "SwapError") (Xg_NoRow:mg "NoRow" =some (.ref (He.ga K "NoRow"))) (Xh_NoRow:Jt P w K mg base "NoRow" "row") {f:Addr} {cdv:Value} {A:Around} {outer:List Env} {s:Shared} {H:Hp} {E:XK} (hr:Room 5 (A.deeper (envOfC "rule_of" (defScope fY) s.heap.objs.size f cdv))) (v0:V) (a_text:D):
  Blk (cxX P w K mg base tW "rule_of" (defScope fY) f cdv A outer s H E) (fnX nh (bw m9 [v0]) E) [.bo,.fz,.fz,.fz] [some a_text,none,none,none] (defBody fY) (m7 a_text):=by
 unfold m7
 exact (aY 1 [.bo,.ow (.ls .fz),.fz,.fz] (fun(d1:D)=>[some a_text,some d1,none,none]) (nk (s:=.fz)) (fun(d1:D)=>(G9 (Δx:=[.bo,.fz,.fz,.fz]) (stx:=[some a_text,none,none,none]) (Δ':=[.bo,.ow (.ls .fz),.fz,.fz]) (el:=fun(y3:D)=>[some a_text,some y3,none,none]) Xh_NoRow hr Xf_NoRow.tr rfl rfl rfl (fun hd_=>L2H.passesAt_of rfl hd_) Mo (fun W_ pn_ xe_ tk_ po_=>(JM [.bo,.ow (.ls .fz),.fz,.fz] (fun(y3:D)=>[some a_text,some y3,none,none]) (jP (c8 (rY (ae (md:=.bo) 0 rfl rfl rfl (.inl rfl)) (aF (rg:=.fz))))) cH fQ (pg_name (i:=2) lQ.nd rfl (.inl rfl)) (dE _ 2 fQ (Nat.le_of_ble_eq_true rfl)) (.keep (.keep (.drop (.drop (.nil))))) (fun(y3:D) (x4:D)=>(JK 1 (fun(d7:D)=>[some a_text,some d7,none,none]) rfl rfl rfl (pq 1 rfl rfl rfl rfl (.inl rfl)) (qO C_all_let hr (MF (ME rfl rfl tk_ rfl lQ.nd (jP (c8 (rY (ae (md:=.fz) 2 rfl rfl rfl (.inl rfl)) (aF (rg:=.fz))))) cH fQ (show BlkOk tW (defScope fY) _ [("term",3)] from ⟨rfl,by decide+kernel,by decide+kernel,by decide+kernel,by decide+kernel⟩) (E4 rfl) yE (fun _ _ _ _ _=>(pg_name (i:=3) lQ.nd rfl (.inl rfl))) (dE _ 3 fQ (Nat.le_of_ble_eq_true rfl)) (fun _ _ _ _ _ _ (c5:D)=>Fe G8 C_noted_term hr (af (ae (md:=.fz) 3 rfl rfl rfl (.inl rfl)) aB))))) rfl (.keep (.drop (.drop (.drop (.nil))))) (fun d7=>(.keep (.keep (.drop (.drop (.nil)))))))) rfl po_)) (fun a_ oe_ pn_=>(uu (ae (md:=.bo) 0 rfl rfl rfl (.inl rfl)))) (fun(y3:D)=>(PSs.nox (tD 1 [.bo,.fz,.fz,.fz] (aT (aW C_one_lets hr (af (ae (md:=.fz) 1 rfl rfl rfl (.inl rfl)) aB)) rfl rfl rfl)))))) (.inl rfl) lQ.nd)
theorem Dh (Z:Zs K mg) (C_noted_term:wH P w K mg base 5 "noted_term" iW iX iY fF) (C_all_let:Cal P w K mg base 1 "all_let" qe qf qg jB) (C_one_lets:Cal P w K mg base 1 "one_lets" om oq ou iG) (X_NoRow:Xcl P w K mg base "NoRow" "row") (Xf_NoRow:Cm K "NoRow" "row" "SwapError") (Xg_NoRow:mg "NoRow" =some (.ref (He.ga K "NoRow"))) (Xh_NoRow:Jt P w K mg base "NoRow" "row") {f:Addr} {fd:FuncData} (F:Fun K "rule_of" "rule_of" fY f fd):FnOk P w K mg base (L2.CX P w) (6) f fd m8 (FSp K m9 nh jC):=
 Mp (n:=3) F lQ rfl rfl fun cdv A outer s H vs E hr hv ds fr hd ef=>match vs,hv,ds,hd,ef with| [v0],_,[a_text],_,ef=>⟨_,FN Z C_noted_term C_all_let C_one_lets X_NoRow Xf_NoRow Xg_NoRow Xh_NoRow hr v0 a_text,ef⟩
def jZ (a__law_script:D) (a__law_k:D):Option (Out PEmpty PEmpty):=
 ifO (b2 D.ltI (some a__law_k) (b1 (un1 D.AL) (aj (some a__law_script) (aU)))) (cu (b2 D.atC (some a__law_script) (some a__law_k)) []) (some (.nx ())) fun(y1:Unit)=>cu (some (.int 0)) []
def cj:List D->Option FR:=fn2 fun a__law_script a__law_k=>FO (jZ a__law_script a__law_k)
abbrev uH:List Str:=["_law_script","_law_k"]
abbrev j5:List Str:=["_law_script","_law_k"]
theorem Ae:FnScope uH j5 (defScope eG):=⟨rfl,rfl,rfl,by decide+kernel,rfl,by decide+kernel,by decide+kernel⟩
abbrev j6:List PM:=[.bo,.bo]
abbrev j7:VM:=.rg .fz
theorem BH (Z:Zs K mg) {f:Addr} {cdv:Value} {A:Around} {outer:List Env} {s:Shared} {H:Hp} {E:XK} (hr:Room 0 (A.deeper (envOfC "_law_cell" (defScope eG) s.heap.objs.size f cdv))) (v0 v1:V) (a__law_script a__law_k:D):
  Blk (cxT P w K mg base uH "_law_cell" (defScope eG) f cdv A outer s H E) (fnX j7 (bw j6 [v0,v1]) E) [.bo,.bo] [some a__law_script,some a__law_k] (defBody eG) (jZ a__law_script a__law_k):=by
 unfold jZ
 exact (ck [.bo,.bo] (fun(y1:Unit)=>[some a__law_script,some a__law_k]) (aO op_lt (iM (rg:=.fz)) (ae (md:=.bo) 1 rfl rfl rfl (.inl rfl)) (dI call_len_seq (LV (rg:=.fz)) (by rfl) Z.len kN (af (ae (md:=.bo) 0 rfl rfl rfl (.inl rfl)) aB)) rfl) (aT (cm ix_list (Of (rg:=.fz)) (ae (md:=.bo) 0 rfl rfl rfl (.inl rfl)) (ae (md:=.bo) 1 rfl rfl rfl (.inl rfl)) (fun _ _=>rfl)) rfl rfl rfl) (aQ (.keep (.keep (.nil)))) (fun(y1:Unit)=>(aT (aA (rg:=.fz)) rfl rfl rfl)))
theorem Af (Z:Zs K mg) {f:Addr} {fd:FuncData} (F:Fun K "_law_cell" "_law_cell" eG f fd):FnOk P w K mg base CX0 (1) f fd j5 (FSp K j6 j7 cj):=
 dM (n:=0) F Ae rfl rfl fun cdv A outer s H vs E hr hv ds fr hd ef=>match vs,hv,ds,hd,ef with| [v0,v1],_,[a__law_script,a__law_k],_,ef=>⟨_,BH Z hr v0 v1 a__law_script a__law_k,ef⟩
def lR (a__law_cell_here:D) (a__law_k:D):Option (Out PEmpty PEmpty):=
 (b2 D.bT (b2 D.bP (b2 D.bP (b2 D.bT (some a__law_cell_here) (some (.int 2147483629))) (b2 D.ju (some (.int 7919)) (some a__law_k))) (some (.int 12345))) (some (.int 2147483629))).bind fun d1=>(b2 D.bT (b2 D.bP (b2 D.ju (some d1) (some d1)) (b2 D.ju (some (.int 104729)) (some a__law_k))) (some (.int 2147483629))).bind fun d2=>cu (b2 D.bT (b2 D.ju (b2 D.bP (some d2) (some a__law_k)) (b2 D.bP (some d2) (some a__law_k))) (some (.int 2147483587))) []
def cq:List D->Option FR:=fn2 fun a__law_cell_here a__law_k=>FO (lR a__law_cell_here a__law_k)
abbrev xJ:List Str:=["_law_cell_here","_law_k","_law_number"]
abbrev ig:List Str:=["_law_cell_here","_law_k"]
theorem pO:FnScope xJ ig (defScope fO):=⟨rfl,rfl,rfl,by decide+kernel,rfl,by decide+kernel,by decide+kernel⟩
abbrev iq:List PM:=[.bo,.bo]
abbrev iu:VM:=.rg .fz
theorem Di (Z:Zs K mg) {f:Addr} {cdv:Value} {A:Around} {outer:List Env} {s:Shared} {H:Hp} {E:XK} (hr:Room 0 (A.deeper (envOfC "_law_mix" (defScope fO) s.heap.objs.size f cdv))) (v0 v1:V) (a__law_cell_here a__law_k:D):
  Blk (cxT P w K mg base xJ "_law_mix" (defScope fO) f cdv A outer s H E) (fnX iu (bw iq [v0,v1]) E) [.bo,.bo,.fz] [some a__law_cell_here,some a__law_k,none] (defBody fO) (lR a__law_cell_here a__law_k):=by
 unfold lR
 exact (aY 2 [.bo,.bo,.fz] (fun(d1:D)=>[some a__law_cell_here,some a__law_k,some d1]) (aI op_mod (cC (rg:=.fz)) (aI op_add (dy (rg:=.fz)) (aI op_add (dy (rg:=.fz)) (aI op_mod (cC (rg:=.fz)) (ae (md:=.bo) 0 rfl rfl rfl (.inl rfl)) (aA (rg:=.fz))) (aI op_mul (qK (rg:=.fz)) (aA (rg:=.fz)) (ae (md:=.bo) 1 rfl rfl rfl (.inl rfl)))) (aA (rg:=.fz))) (aA (rg:=.fz))) (fun(d1:D)=>(aY 2 [.bo,.bo,.fz] (fun(d2:D)=>[some a__law_cell_here,some a__law_k,some d2]) (aI op_mod (cC (rg:=.fz)) (aI op_add (dy (rg:=.fz)) (aI op_mul (qK (rg:=.fz)) (ae (md:=.fz) 2 rfl rfl rfl (.inl rfl)) (ae (md:=.fz) 2 rfl rfl rfl (.inl rfl))) (aI op_mul (qK (rg:=.fz)) (aA (rg:=.fz)) (ae (md:=.bo) 1 rfl rfl rfl (.inl rfl)))) (aA (rg:=.fz))) (fun(d2:D)=>(aT (aI op_mod (cC (rg:=.fz)) (aI op_mul (qK (rg:=.fz)) (aI op_add (dy (rg:=.fz)) (ae (md:=.fz) 2 rfl rfl rfl (.inl rfl)) (ae (md:=.bo) 1 rfl rfl rfl (.inl rfl))) (aI op_add (dy (rg:=.fz)) (ae (md:=.fz) 2 rfl rfl rfl (.inl rfl)) (ae (md:=.bo) 1 rfl rfl rfl (.inl rfl)))) (aA (rg:=.fz))) rfl rfl rfl)) (.inl rfl) pO.nd)) (.inl rfl) pO.nd)
theorem BI (Z:Zs K mg) {f:Addr} {fd:FuncData} (F:Fun K "_law_mix" "_law_mix" fO f fd):FnOk P w K mg base CX0 (1) f fd ig (FSp K iq iu cq):=
 dM (n:=1) F pO rfl rfl fun cdv A outer s H vs E hr hv ds fr hd ef=>match vs,hv,ds,hd,ef with| [v0,v1],_,[a__law_cell_here,a__law_k],_,ef=>⟨_,Di Z hr v0 v1 a__law_cell_here a__law_k,ef⟩
def iZ (a__law_number:D):Option (Out PEmpty PEmpty):=
 (some (.str "abcdefghijklmnopqrstuvwxyz")).bind fun d1=>(b2 D.bT (some a__law_number) (some (.int 3))).bind fun d2=>ifO (b2 D.eqA (some d2) (some (.int 0))) (cu (some (.str "")) []) (some (.nx ())) fun(y3:Unit)=>ifO (b2 D.eqA (some d2) (some (.int 1))) (cu (b2 D.atS (some d1) (b2 D.bT (b2 D.hJ (some a__law_number) (some (.int 3))) (some (.int 26)))) []) (some (.nx ())) fun(y4:Unit)=>cu (b2 D.join (some (.str "")) (lcO (b1 D.qk (aj (some (.int 26)) (aU))) (fun c5:D=>b2 D.eqA (b2 D.bT (b2 D.hJ (b2 D.hJ (some a__law_number) (some (.int 3))) (b2 D.bP (some c5) (some (.int 1)))) (some (.int 3))) (some (.int 0))) (fun c5:D=>b2 D.atS (some d1) (some c5)))) []
def fG:List D->Option FR:=fn1 fun a__law_number=>FO (iZ a__law_number)
abbrev oA:List Str:=["_law_number","_law_letters","_law_way","_law_k"]
abbrev i5:List Str:=["_law_number"]
theorem gO:FnScope oA i5 (defScope cQ):=⟨rfl,rfl,rfl,by decide+kernel,rfl,by decide+kernel,by decide+kernel⟩
abbrev i7:List PM:=[.bo]
abbrev i8:VM:=.rg .fz
theorem Ag (Z:Zs K mg) {f:Addr} {cdv:Value} {A:Around} {outer:List Env} {s:Shared} {H:Hp} {E:XK} (hr:Room 0 (A.deeper (envOfC "_law_marks" (defScope cQ) s.heap.objs.size f cdv))) (v0:V) (a__law_number:D):
  Blk (cxT P w K mg base oA "_law_marks" (defScope cQ) f cdv A outer s H E) (fnX i8 (bw i7 [v0]) E) [.bo,.fz,.fz,.fz] [some a__law_number,none,none,none] (defBody cQ) (iZ a__law_number):=by
 unfold iZ
 exact (aY 1 [.bo,.fz,.fz,.fz] (fun(d1:D)=>[some a__law_number,some d1,none,none]) (aF (rg:=.fz)) (fun(d1:D)=>(aY 2 [.bo,.fz,.fz,.fz] (fun(d2:D)=>[some a__law_number,some d1,some d2,none]) (aI op_mod (cC (rg:=.fz)) (ae (md:=.bo) 0 rfl rfl rfl (.inr (.inl rfl))) (aA (rg:=.fz))) (fun(d2:D)=>(ck [.bo,.fz,.fz,.fz] (fun(y3:Unit)=>[some a__law_number,some d1,some d2,none]) (aO op_eq (di (rg:=.fz)) (ae (md:=.fz) 2 rfl rfl rfl (.inl rfl)) (aA (rg:=.fz)) rfl) (aT (aF (rg:=.fz)) rfl rfl rfl) (aQ (.keep (.keep (.keep (.drop (.nil)))))) (fun(y3:Unit)=>(ck [.bo,.fz,.fz,.fz] (fun(y4:Unit)=>[some a__law_number,some d1,some d2,none]) (aO op_eq (di (rg:=.fz)) (ae (md:=.fz) 2 rfl rfl rfl (.inl rfl)) (aA (rg:=.fz)) rfl) (aT (cm ix_str (AK (rg:=.fz)) (ae (md:=.fz) 1 rfl rfl rfl (.inr (.inl rfl))) (aI op_mod (cC (rg:=.fz)) (aI op_fdiv (kM (rg:=.fz)) (ae (md:=.bo) 0 rfl rfl rfl (.inr (.inl rfl))) (aA (rg:=.fz))) (aA (rg:=.fz))) (fun _ _=>rfl)) rfl rfl rfl) (aQ (.keep (.keep (.keep (.drop (.nil)))))) (fun(y4:Unit)=>(aT (vx (rg:=.fz) (aF (rg:=.fz)) (c8 (AN rfl gO.nd (rV rfl Z.range (af (aA (rg:=.fz)) aB)) cH fQ (show BlkOk oA (defScope cQ) _ [("_law_k",3)] from ⟨rfl,by decide+kernel,by decide+kernel,by decide+kernel,by decide+kernel⟩) (E4 rfl) yE (fun _ _ _ _ _=>(pg_name (i:=3) gO.nd rfl (.inl rfl))) (dE _ 3 fQ (Nat.le_of_ble_eq_true rfl)) (fun _ _ _ _ _ (c5:D)=>(AM (aO op_eq (di (rg:=.fz)) (aI op_mod (cC (rg:=.fz)) (aI op_fdiv (kM (rg:=.fz)) (aI op_fdiv (kM (rg:=.fz)) (ae (md:=.bo) 0 rfl rfl rfl (.inr (.inl rfl))) (aA (rg:=.fz))) (aI op_add (dy (rg:=.fz)) (ae (md:=.fz) 3 rfl rfl rfl (.inl rfl)) (aA (rg:=.fz)))) (aA (rg:=.fz))) (aA (rg:=.fz)) rfl))) (fun _ _ _ _ _ (c5:D)=>(cm ix_str (AK (rg:=.fz)) (ae (md:=.fz) 1 rfl rfl rfl (.inr (.inl rfl))) (ae (md:=.fz) 3 rfl rfl rfl (.inl rfl)) (fun _ _=>rfl)))))) rfl rfl rfl)))))) (.inl rfl) gO.nd)) (.inr rfl) gO.nd)
theorem ye (Z:Zs K mg) {f:Addr} {fd:FuncData} (F:Fun K "_law_marks" "_law_marks" cQ f fd):FnOk P w K mg base CX0 (1) f fd i5 (FSp K i7 i8 fG):=
 dM (n:=3) F gO rfl rfl fun cdv A outer s H vs E hr hv ds fr hd ef=>match vs,hv,ds,hd,ef with| [v0],_,[a__law_number],_,ef=>⟨_,Ag Z hr v0 a__law_number,ef⟩
def j8 (a__law_cell_here:D) (a__law_k:D):Option (Out PEmpty PEmpty):=
 (bp cq (aj (some a__law_cell_here) (aj (some a__law_k) (aU)))).bind fun d1=>cu (tupO (aj (b2 D.atL (qL (aj (some (.str "O")) (aj (some (.str "A")) (aj (some (.str "B")) (aj (some (.str "AB")) (aU)))))) (b2 D.bT (some d1) (some (.int 4)))) (aj (b2 D.bP (some (.int 1)) (b2 D.bT (b2 D.hJ (some d1) (some (.int 4))) (some (.int 99)))) (aj (bp fG (aj (b2 D.hJ (some d1) (some (.int 400))) (aU))) (aU))))) []
def eY:List D->Option FR:=fn2 fun a__law_cell_here a__law_k=>FO (j8 a__law_cell_here a__law_k)
abbrev uI:List Str:=["_law_cell_here","_law_k","_law_number"]
abbrev j9:List Str:=["_law_cell_here","_law_k"]
theorem sP:FnScope uI j9 (defScope eJ):=⟨rfl,rfl,rfl,by decide+kernel,rfl,by decide+kernel,by decide+kernel⟩
abbrev ka:List PM:=[.bo,.bo]
abbrev ke:VM:=.rg .fz
theorem BJ (Z:Zs K mg) (C__law_mix:Cal P w K mg base 1 "_law_mix" ig iq iu cq) (C__law_marks:Cal P w K mg base 1 "_law_marks" i5 i7 i8 fG) {f:Addr} {cdv:Value} {A:Around} {outer:List Env} {s:Shared} {H:Hp} {E:XK} (hr:Room 1 (A.deeper (envOfC "_law_side" (defScope eJ) s.heap.objs.size f cdv))) (v0 v1:V) (a__law_cell_here a__law_k:D):
  Blk (cxT P w K mg base uI "_law_side" (defScope eJ) f cdv A outer s H E) (fnX ke (bw ka [v0,v1]) E) [.bo,.bo,.fz] [some a__law_cell_here,some a__law_k,none] (defBody eJ) (j8 a__law_cell_here a__law_k):=by
 unfold j8
 exact (aY 2 [.bo,.bo,.fz] (fun(d1:D)=>[some a__law_cell_here,some a__law_k,some d1]) (aW C__law_mix hr (af (ae (md:=.bo) 0 rfl rfl rfl (.inl rfl)) (af (ae (md:=.bo) 1 rfl rfl rfl (.inl rfl)) aB))) (fun(d1:D)=>(aT (vw (af (cm ix_list mJ (c8 (lJ (af (aF (rg:=.fz)) (af (aF (rg:=.fz)) (af (aF (rg:=.fz)) (af (aF (rg:=.fz)) aB)))) Ci)) (aI op_mod (cC (rg:=.fz)) (ae (md:=.fz) 2 rfl rfl rfl (.inl rfl)) (aA (rg:=.fz))) (fun _ _=>rfl)) (af (aI op_add (dy (rg:=.fz)) (aA (rg:=.fz)) (aI op_mod (cC (rg:=.fz)) (aI op_fdiv (kM (rg:=.fz)) (ae (md:=.fz) 2 rfl rfl rfl (.inl rfl)) (aA (rg:=.fz))) (aA (rg:=.fz)))) (af (aW C__law_marks hr (af (aI op_fdiv (kM (rg:=.fz)) (ae (md:=.fz) 2 rfl rfl rfl (.inl rfl)) (aA (rg:=.fz))) aB)) aB)))) rfl rfl rfl)) (.inl rfl) sP.nd)
theorem Ah (Z:Zs K mg) (C__law_mix:Cal P w K mg base 1 "_law_mix" ig iq iu cq) (C__law_marks:Cal P w K mg base 1 "_law_marks" i5 i7 i8 fG) {f:Addr} {fd:FuncData} (F:Fun K "_law_side" "_law_side" eJ f fd):FnOk P w K mg base CX0 (2) f fd j9 (FSp K ka ke eY):=
 dM (n:=1) F sP rfl rfl fun cdv A outer s H vs E hr hv ds fr hd ef=>match vs,hv,ds,hd,ef with| [v0,v1],_,[a__law_cell_here,a__law_k],_,ef=>⟨_,BJ Z C__law_mix C__law_marks hr v0 v1 a__law_cell_here a__law_k,ef⟩
def kg (a__law_number:D):Option (Out PEmpty PEmpty):=
 (b2 D.atL (qL (aj (some (.str "groups")) (aj (some (.str "marks")) (aj (some (.str "sizes")) (aU))))) (b2 D.bT (b2 D.hJ (some a__law_number) (some (.int 6))) (some (.int 3)))).bind fun d1=>(b2 D.atL (qL (aj (b2 D.bT (b2 D.hJ (some a__law_number) (some (.int 18))) (some (.int 99))) (aj (b2 D.bT (b2 D.hJ (some a__law_number) (some (.int 18))) (some (.int 30))) (aU)))) (b2 D.bT (b2 D.hJ (some a__law_number) (some (.int 1782))) (some (.int 2)))).bind fun d2=>cu (tupO (aj (b2 D.bT (some a__law_number) (some (.int 6))) (aj (some d1) (aj (some d2) (aU))))) []
def gi:List D->Option FR:=fn1 fun a__law_number=>FO (kg a__law_number)
abbrev uJ:List Str:=["_law_number","_law_kind","_law_bound_here"]
abbrev kh:List Str:=["_law_number"]
theorem oD:FnScope uJ kh (defScope eL):=⟨rfl,rfl,rfl,by decide+kernel,rfl,by decide+kernel,by decide+kernel⟩
abbrev ki:List PM:=[.bo]
abbrev kj:VM:=.rg .fz
theorem BK (Z:Zs K mg) {f:Addr} {cdv:Value} {A:Around} {outer:List Env} {s:Shared} {H:Hp} {E:XK} (hr:Room 0 (A.deeper (envOfC "_law_term" (defScope eL) s.heap.objs.size f cdv))) (v0:V) (a__law_number:D):
  Blk (cxT P w K mg base uJ "_law_term" (defScope eL) f cdv A outer s H E) (fnX kj (bw ki [v0]) E) [.bo,.fz,.fz] [some a__law_number,none,none] (defBody eL) (kg a__law_number):=by
 unfold kg
 exact (aY 1 [.bo,.fz,.fz] (fun(d1:D)=>[some a__law_number,some d1,none]) (cm ix_list mJ (c8 (lJ (af (aF (rg:=.fz)) (af (aF (rg:=.fz)) (af (aF (rg:=.fz)) aB))) Cg)) (aI op_mod (cC (rg:=.fz)) (aI op_fdiv (kM (rg:=.fz)) (ae (md:=.bo) 0 rfl rfl rfl (.inl rfl)) (aA (rg:=.fz))) (aA (rg:=.fz))) (fun _ _=>rfl)) (fun(d1:D)=>(aY 2 [.bo,.fz,.fz] (fun(d2:D)=>[some a__law_number,some d1,some d2]) (cm ix_list mJ (c8 (lJ (af (aI op_mod (cC (rg:=.fz)) (aI op_fdiv (kM (rg:=.fz)) (ae (md:=.bo) 0 rfl rfl rfl (.inl rfl)) (aA (rg:=.fz))) (aA (rg:=.fz))) (af (aI op_mod (cC (rg:=.fz)) (aI op_fdiv (kM (rg:=.fz)) (ae (md:=.bo) 0 rfl rfl rfl (.inl rfl)) (aA (rg:=.fz))) (aA (rg:=.fz))) aB)) Mc)) (aI op_mod (cC (rg:=.fz)) (aI op_fdiv (kM (rg:=.fz)) (ae (md:=.bo) 0 rfl rfl rfl (.inl rfl)) (aA (rg:=.fz))) (aA (rg:=.fz))) (fun _ _=>rfl)) (fun(d2:D)=>(aT (vw (af (aI op_mod (cC (rg:=.fz)) (ae (md:=.bo) 0 rfl rfl rfl (.inl rfl)) (aA (rg:=.fz))) (af (ae (md:=.fz) 1 rfl rfl rfl (.inl rfl)) (af (ae (md:=.fz) 2 rfl rfl rfl (.inl rfl)) aB)))) rfl rfl rfl)) (.inl rfl) oD.nd)) (.inl rfl) oD.nd)
theorem Ai (Z:Zs K mg) {f:Addr} {fd:FuncData} (F:Fun K "_law_term" "_law_term" eL f fd):FnOk P w K mg base CX0 (1) f fd kh (FSp K ki kj gi):=
 dM (n:=2) F oD rfl rfl fun cdv A outer s H vs E hr hv ds fr hd ef=>match vs,hv,ds,hd,ef with| [v0],_,[a__law_number],_,ef=>⟨_,BK Z hr v0 a__law_number,ef⟩
def du (k__law_cell_here:D) (k__law_count:D) (y3:D) (x5:D):Option (Out (D) (D)):=
 (b2 D.bP (some (.int 1)) (b2 D.bT (bp cq (aj (some k__law_cell_here) (aj (b2 D.bP (some (.int 61)) (some x5)) (aU)))) (b2 D.atL (qL (aj (some (.int 3)) (aj (some (.int 3)) (aj (some (.int 2)) (aU))))) (b2 D.rP (some k__law_count) (some (.int 1)))))).bind fun d6=>(Cf y3 (some []) (lcO (b1 D.qk (aj (some d6) (aU))) (fun c7:D=>some true) (fun c7:D=>bp gi (aj (bp cq (aj (some k__law_cell_here) (aj (b2 D.bP (b2 D.bP (some (.int 70)) (b2 D.ju (some (.int 3)) (some x5))) (some c7)) (aU)))) (aU)))) D.app).bind fun d8=>some (.nx d8.2)
def cJ (a__law_cell_here:D):Option (Out PEmpty PEmpty):=
 (some (.lst [])).bind fun d1=>(b2 D.bP (some (.int 1)) (b2 D.bT (bp cq (aj (some a__law_cell_here) (aj (some (.int 60)) (aU)))) (some (.int 3)))).bind fun d2=>tA (b1 D.qk (aj (some d2) (aU))) (du a__law_cell_here d2) d1 fun(y3:D)=>cu (some y3) []
def bM:List D->Option FR:=fn1 fun a__law_cell_here=>FO (cJ a__law_cell_here)
abbrev gH:List Str:=["_law_cell_here","_law_found","_law_count","_law_k","_law_many","_law_j"]
abbrev cM:List Str:=["_law_cell_here"]
theorem br:FnScope gH cM (defScope a9):=⟨rfl,rfl,rfl,by decide+kernel,rfl,by decide+kernel,by decide+kernel⟩
abbrev cN:List PM:=[.bo]
abbrev cO:VM:=.rg .fz
theorem qt (Z:Zs K mg) (C__law_mix:Cal P w K mg base 1 "_law_mix" ig iq iu cq) (C__law_term:Cal P w K mg base 1 "_law_term" kh ki kj gi) {f:Addr} {cdv:Value} {A:Around} {outer:List Env} {s:Shared} {H:Hp} {E:XK} (hr:Room 1 (A.deeper (envOfC "_law_alternatives" (defScope a9) s.heap.objs.size f cdv))) (v0:V) (a__law_cell_here:D):
  Blk (cxT P w K mg base gH "_law_alternatives" (defScope a9) f cdv A outer s H E) (fnX cO (bw cN [v0]) E) [.bo,.fz,.fz,.fz,.fz,.fz] [some a__law_cell_here,none,none,none,none,none] (defBody a9) (cJ a__law_cell_here):=by
 unfold cJ
 exact (aY 1 [.bo,.ow (.ls .fz),.fz,.fz,.fz,.fz] (fun(d1:D)=>[some a__law_cell_here,some d1,none,none,none,none]) (nk (s:=.fz)) (fun(d1:D)=>(aY 2 [.bo,.ow (.ls .fz),.fz,.fz,.fz,.fz] (fun(d2:D)=>[some a__law_cell_here,some d1,some d2,none,none,none]) (aI op_add (dy (rg:=.fz)) (aA (rg:=.fz)) (aI op_mod (cC (rg:=.fz)) (aW C__law_mix hr (af (ae (md:=.bo) 0 rfl rfl rfl (.inr (.inl rfl))) (af (aA (rg:=.fz)) aB))) (aA (rg:=.fz)))) (fun(d2:D)=>(mr [.bo,.ow (.ls .fz),.fz,.fz,.fz,.fz] (fun(y3:D)=>[some a__law_cell_here,some y3,some d2,none,none,none]) [.bo,.ow (.ls .fz),.fz,.fz,.fz,.fz] (fun(y3:D) (x5:D)=>[some a__law_cell_here,some y3,some d2,some x5,none,none]) (rV rfl Z.range (af (ae (md:=.fz) 2 rfl rfl rfl (.inl rfl)) aB)) cH fQ (pg_name (i:=3) br.nd rfl (.inr rfl)) (dE _ 3 fQ (Nat.le_of_ble_eq_true rfl)) (.keep (.keep (.keep (.drop (.drop (.drop (.nil))))))) (fun(y3:D) (x5:D)=>by unfold du;exact (aY 4 [.bo,.ow (.ls .fz),.fz,.fz,.fz,.fz] (fun(d6:D)=>[some a__law_cell_here,some y3,some d2,some x5,some d6,none]) (aI op_add (dy (rg:=.fz)) (aA (rg:=.fz)) (aI op_mod (cC (rg:=.fz)) (aW C__law_mix hr (af (ae (md:=.bo) 0 rfl rfl rfl (.inr (.inl rfl))) (af (aI op_add (dy (rg:=.fz)) (aA (rg:=.fz)) (ae (md:=.fz) 3 rfl rfl rfl (.inr (.inl rfl)))) aB))) (cm ix_list mJ (c8 (lJ (af (aA (rg:=.fz)) (af (aA (rg:=.fz)) (af (aA (rg:=.fz)) aB))) Cg)) (aI op_sub (zo (rg:=.fz)) (ae (md:=.fz) 2 rfl rfl rfl (.inl rfl)) (aA (rg:=.fz))) (fun _ _=>rfl)))) (fun(d6:D)=>(rX 1 (fun(d8:D×D)=>[some a__law_cell_here,some d8.2,some d2,some x5,some d6,none]) (vu (mM rfl rfl rfl (pq 1 rfl rfl rfl rfl (.inl rfl)) (uv rfl) (c8 (AN rfl br.nd (rV rfl Z.range (af (ae (md:=.fz) 4 rfl rfl rfl (.inl rfl)) aB)) cH fQ (show BlkOk gH (defScope a9) _ [("_law_j",5)] from ⟨rfl,by decide+kernel,by decide+kernel,by decide+kernel,by decide+kernel⟩) (E4 rfl) yE (fun _ _ _ _ _=>(pg_name (i:=5) br.nd rfl (.inl rfl))) (dE _ 5 fQ (Nat.le_of_ble_eq_true rfl)) (fun _ _ _ _ _ (c7:D)=>wx) (fun _ _ _ _ _ (c7:D)=>(aW C__law_term hr (af (aW C__law_mix hr (af (ae (md:=.bo) 0 rfl rfl rfl (.inr (.inl rfl))) (af (aI op_add (dy (rg:=.fz)) (aI op_add (dy (rg:=.fz)) (aA (rg:=.fz)) (aI op_mul (qK (rg:=.fz)) (aA (rg:=.fz)) (ae (md:=.fz) 3 rfl rfl rfl (.inr (.inl rfl))))) (ae (md:=.fz) 5 rfl rfl rfl (.inl rfl))) aB))) aB))))) rfl)) (fun(d8:D×D)=>(aQ (.keep (.keep (.keep (.drop (.drop (.drop (.nil))))))))))) (.inl rfl) br.nd)) (fun(y3:D)=>(tD 1 [.bo,.fz,.fz,.fz,.fz,.fz] (aT (ae (md:=.fz) 1 rfl rfl rfl (.inl rfl)) rfl rfl rfl))))) (.inl rfl) br.nd)) (.inl rfl) br.nd)
theorem pP (Z:Zs K mg) (C__law_mix:Cal P w K mg base 1 "_law_mix" ig iq iu cq) (C__law_term:Cal P w K mg base 1 "_law_term" kh ki kj gi) {f:Addr} {fd:FuncData} (F:Fun K "_law_alternatives" "_law_alternatives" a9 f fd):FnOk P w K mg base CX0 (2) f fd cM (FSp K cN cO bM):=
 dM (n:=5) F br rfl rfl fun cdv A outer s H vs E hr hv ds fr hd ef=>match vs,hv,ds,hd,ef with| [v0],_,[a__law_cell_here],_,ef=>⟨_,qt Z C__law_mix C__law_term hr v0 a__law_cell_here,ef⟩
def dN (a__law_term_here:D):Option (Out PEmpty PEmpty):=
 (b1 D.pr3 (some a__law_term_here)).bind fun d1=>ifO (b2 D.eqA (some d1.2.1) (some (.str "sizes"))) (cu (b2 D.iJ (b2 D.iJ (b2 D.qo (some (.str "no ")) (some d1.1)) (some (.str "sizes "))) (b1 (un1 D.Cj) (aj (some d1.2.2) (aU)))) []) (some (.nx ())) fun(y2:Unit)=>cu (b2 D.iJ (b2 D.qo (some (.str "no ")) (some d1.1)) (some d1.2.1)) []
def cw:List D->Option FR:=fn1 fun a__law_term_here=>FO (dN a__law_term_here)
abbrev ni:List Str:=["_law_term_here","_law_times","_law_kind","_law_bound_here"]
abbrev dO:List Str:=["_law_term_here"]
theorem fL:FnScope ni dO (defScope bF):=⟨rfl,rfl,rfl,by decide+kernel,rfl,by decide+kernel,by decide+kernel⟩
abbrev dP:List PM:=[.bo]
abbrev dQ:VM:=.rg .fz
theorem tX (Z:Zs K mg) {f:Addr} {cdv:Value} {A:Around} {outer:List Env} {s:Shared} {H:Hp} {E:XK} (hr:Room 0 (A.deeper (envOfC "_law_term_text" (defScope bF) s.heap.objs.size f cdv))) (v0:V) (a__law_term_here:D):
  Blk (cxT P w K mg base ni "_law_term_text" (defScope bF) f cdv A outer s H E) (fnX dQ (bw dP [v0]) E) [.bo,.fz,.fz,.fz] [some a__law_term_here,none,none,none] (defBody bF) (dN a__law_term_here):=by
 unfold dN
 exact (DV 1 2 3 [.bo,.bo,.bo,.bo] (fun(d1:D×D×D)=>[some a__law_term_here,some d1.1,some d1.2.1,some d1.2.2]) (ae (md:=.bo) 0 rfl rfl rfl (.inl rfl)) mN (pg_tup rfl (pgs_cons (pg_name (i:=1) fL.nd rfl (.inl rfl)) (pgs_cons (pg_name (i:=2) fL.nd rfl (.inl rfl)) (pgs_cons (pg_name (i:=3) fL.nd rfl (.inl rfl)) pgs_nil)))) (fun(d1:D×D×D)=>(ck [.bo,.bo,.bo,.bo] (fun(y2:Unit)=>[some a__law_term_here,some d1.1,some d1.2.1,some d1.2.2]) (aO op_eq (di (rg:=.fz)) (ae (md:=.bo) 2 rfl rfl rfl (.inl rfl)) (aF (rg:=.fz)) rfl) (aT (aI op_add_str (lI (rg:=.fz)) (aI op_add_str (lI (rg:=.fz)) (aI DW (GF (rg:=.fz)) (aF (rg:=.fz)) (ae (md:=.bo) 1 rfl rfl rfl (.inl rfl))) (aF (rg:=.fz))) (pY call_str_int (Mg (rg:=.fz)) (by rfl) Z.str I9 (af (ae (md:=.bo) 3 rfl rfl rfl (.inl rfl)) aB))) rfl rfl rfl) (aQ (.keep (.keep (.keep (.keep (.nil)))))) (fun(y2:Unit)=>(aT (aI op_add_str (lI (rg:=.fz)) (aI DW (GF (rg:=.fz)) (aF (rg:=.fz)) (ae (md:=.bo) 1 rfl rfl rfl (.inl rfl))) (ae (md:=.bo) 2 rfl rfl rfl (.inl rfl))) rfl rfl rfl)))))
theorem sQ (Z:Zs K mg) {f:Addr} {fd:FuncData} (F:Fun K "_law_term_text" "_law_term_text" bF f fd):FnOk P w K mg base CX0 (1) f fd dO (FSp K dP dQ cw):=
 dM (n:=3) F fL rfl rfl fun cdv A outer s H vs E hr hv ds fr hd ef=>match vs,hv,ds,hd,ef with| [v0],_,[a__law_term_here],_,ef=>⟨_,tX Z hr v0 a__law_term_here,ef⟩
def dR (a__law_alternatives_here:D):Option (Out PEmpty PEmpty):=
 cu (b2 D.join (some (.str " or ")) (lcO (wC (some a__law_alternatives_here)) (fun c1:D=>some true) (fun c1:D=>b2 D.join (some (.str " and ")) (lcO (wC (some c1)) (fun c2:D=>some true) (fun c2:D=>bp cw (aj (some c2) (aU))))))) []
def cA:List D->Option FR:=fn1 fun a__law_alternatives_here=>FO (dR a__law_alternatives_here)
abbrev gj:List Str:=["_law_alternatives_here","_law_terms","_law_term_here"]
abbrev dS:List Str:=["_law_alternatives_here"]
theorem dw:FnScope gj dS (defScope bt):=⟨rfl,rfl,rfl,by decide+kernel,rfl,by decide+kernel,by decide+kernel⟩
abbrev dU:List PM:=[.bo]
abbrev dW:VM:=.rg .fz
theorem tY (Z:Zs K mg) (C__law_term_text:Cal P w K mg base 1 "_law_term_text" dO dP dQ cw) {f:Addr} {cdv:Value} {A:Around} {outer:List Env} {s:Shared} {H:Hp} {E:XK} (hr:Room 1 (A.deeper (envOfC "_law_rule_text" (defScope bt) s.heap.objs.size f cdv))) (v0:V) (a__law_alternatives_here:D):
  Blk (cxT P w K mg base gj "_law_rule_text" (defScope bt) f cdv A outer s H E) (fnX dW (bw dU [v0]) E) [.bo,.fz,.fz] [some a__law_alternatives_here,none,none] (defBody bt) (dR a__law_alternatives_here):=by
 unfold dR
 exact (aT (vx (rg:=.fz) (aF (rg:=.fz)) (c8 (AN rfl dw.nd (jP (ae (md:=.bo) 0 rfl rfl rfl (.inl rfl))) cH mN (show BlkOk gj (defScope bt) _ [("_law_terms",1)] from ⟨rfl,by decide+kernel,by decide+kernel,by decide+kernel,by decide+kernel⟩) (E4 rfl) yE (fun _ _ _ _ _=>(pg_name (i:=1) dw.nd rfl (.inl rfl))) (dE _ 1 mN (Nat.le_of_ble_eq_true rfl)) (fun _ _ _ _ _ (c1:D)=>wx) (fun _ _ _ _ _ (c1:D)=>(vx (rg:=.fz) (aF (rg:=.fz)) (c8 (AN rfl dw.nd (jP (ae (md:=.bo) 1 rfl rfl rfl (.inl rfl))) cH mN (by show BlkOk gj _ _ [("_law_term_here",2)];refine⟨rfl,by decide+kernel,by decide+kernel,?_,by decide+kernel⟩;(repeat' (first|exact List.forall_mem_nil _|(refine List.forall_mem_cons.mpr ⟨?_,?_⟩))) <;> (intro hf;first|(cases hf;done)|exact .inl rfl)) (E4 rfl) yE (fun _ _ _ _ _=>(pg_name (i:=2) dw.nd rfl (.inl rfl))) (dE _ 2 mN (Nat.le_of_ble_eq_true rfl)) (fun _ _ _ _ _ (c2:D)=>wx) (fun _ _ _ _ _ (c2:D)=>(aW C__law_term_text hr (af (ae (md:=.bo) 2 rfl rfl rfl (.inl rfl)) aB)))))))))) rfl rfl rfl)
theorem sR (Z:Zs K mg) (C__law_term_text:Cal P w K mg base 1 "_law_term_text" dO dP dQ cw) {f:Addr} {fd:FuncData} (F:Fun K "_law_rule_text" "_law_rule_text" bt f fd):FnOk P w K mg base CX0 (2) f fd dS (FSp K dU dW cA):=
 dM (n:=2) F dw rfl rfl fun cdv A outer s H vs E hr hv ds fr hd ef=>match vs,hv,ds,hd,ef with| [v0],_,[a__law_alternatives_here],_,ef=>⟨_,tY Z C__law_term_text hr v0 a__law_alternatives_here,ef⟩
def i9 (a__law_kind:D) (a__law_bound_here:D) (a__law_giver:D) (a__law_taker:D):Option (Out PEmpty PEmpty):=
 ifO (b2 D.eqA (some a__law_kind) (some (.str "groups"))) ((qL (aj (some (.str "O O")) (aj (some (.str "O A")) (aj (some (.str "O B")) (aj (some (.str "O AB")) (aj (some (.str "A A")) (aj (some (.str "A AB")) (aj (some (.str "B B")) (aj (some (.str "B AB")) (aj (some (.str "AB AB")) (aU))))))))))).bind fun d2=>cu (b2 (blD ((D.inA false))) (b2 D.iJ (b2 D.iJ (b2 D.atT (some a__law_giver) (some (.int 0))) (some (.str " "))) (b2 D.atT (some a__law_taker) (some (.int 0)))) (some d2)) []) (some (.nx ())) fun(y1:Unit)=>ifO (b2 D.eqA (some a__law_kind) (some (.str "marks"))) (cu (b2 (blD D.eqD) (lcO (b1 D.tv (b2 D.atT (some a__law_giver) (some (.int 2)))) (fun c4:D=>b2 (D.ql false) (some c4) (b2 D.atT (some a__law_taker) (some (.int 2)))) (fun c4:D=>some c4)) (some (.lst []))) []) (some (.nx ())) fun(y3:Unit)=>cu (Mb (b2 (blD D.leI) (b2 D.rP (b2 D.atT (some a__law_giver) (some (.int 1))) (b2 D.atT (some a__law_taker) (some (.int 1)))) (some a__law_bound_here)) (b2 (blD D.leI) (b2 D.rP (b2 D.atT (some a__law_taker) (some (.int 1))) (b2 D.atT (some a__law_giver) (some (.int 1)))) (some a__law_bound_here))) []
def fH:List D->Option FR:=fn4 fun a__law_kind a__law_bound_here a__law_giver a__law_taker=>FO (i9 a__law_kind a__law_bound_here a__law_giver a__law_taker)
abbrev oE:List Str:=["_law_kind","_law_bound_here","_law_giver","_law_taker","_law_pairs","_law_mark"]
abbrev ja:List Str:=["_law_kind","_law_bound_here","_law_giver","_law_taker"]
theorem jL:FnScope oE ja (defScope cR):=⟨rfl,rfl,rfl,by decide+kernel,rfl,by decide+kernel,by decide+kernel⟩
abbrev jb:List PM:=[.bo,.bo,.bo,.bo]
abbrev jc:VM:=.rg .fz
theorem Aj (Z:Zs K mg) {f:Addr} {cdv:Value} {A:Around} {outer:List Env} {s:Shared} {H:Hp} {E:XK} (hr:Room 0 (A.deeper (envOfC "_law_plain" (defScope cR) s.heap.objs.size f cdv))) (v0 v1 v2 v3:V) (a__law_kind a__law_bound_here a__law_giver a__law_taker:D):
  Blk (cxT P w K mg base oE "_law_plain" (defScope cR) f cdv A outer s H E) (fnX jc (bw jb [v0,v1,v2,v3]) E) [.bo,.bo,.bo,.bo,.fz,.fz] [some a__law_kind,some a__law_bound_here,some a__law_giver,some a__law_taker,none,none] (defBody cR) (i9 a__law_kind a__law_bound_here a__law_giver a__law_taker):=by
 unfold i9
 exact (ck [.bo,.bo,.bo,.bo,.fz,.fz] (fun(y1:Unit)=>[some a__law_kind,some a__law_bound_here,some a__law_giver,some a__law_taker,none,none]) (aO op_eq (di (rg:=.fz)) (ae (md:=.bo) 0 rfl rfl rfl (.inl rfl)) (aF (rg:=.fz)) rfl) (aY 4 [.bo,.bo,.bo,.bo,.fz,.fz] (fun(d2:D)=>[some a__law_kind,some a__law_bound_here,some a__law_giver,some a__law_taker,some d2,none]) (c8 (lJ (af (aF (rg:=.fz)) (af (aF (rg:=.fz)) (af (aF (rg:=.fz)) (af (aF (rg:=.fz)) (af (aF (rg:=.fz)) (af (aF (rg:=.fz)) (af (aF (rg:=.fz)) (af (aF (rg:=.fz)) (af (aF (rg:=.fz)) aB))))))))) MB)) (fun(d2:D)=>(aT (mn op_in_seq (Oe (rg:=.fz)) (aI op_add_str (lI (rg:=.fz)) (aI op_add_str (lI (rg:=.fz)) (cm ix_tup kZ (ae (md:=.bo) 2 rfl rfl rfl (.inl rfl)) (aA (rg:=.fz)) (fun _ _=>rfl)) (aF (rg:=.fz))) (cm ix_tup kZ (ae (md:=.bo) 3 rfl rfl rfl (.inr (.inl rfl))) (aA (rg:=.fz)) (fun _ _=>rfl))) (ae (md:=.fz) 4 rfl rfl rfl (.inl rfl)) rfl) rfl rfl rfl)) (.inl rfl) jL.nd) (aQ (.keep (.keep (.keep (.keep (.drop (.drop (.nil)))))))) (fun(y1:Unit)=>(ck [.bo,.bo,.bo,.bo,.fz,.fz] (fun(y3:Unit)=>[some a__law_kind,some a__law_bound_here,some a__law_giver,some a__law_taker,none,none]) (aO op_eq (di (rg:=.fz)) (ae (md:=.bo) 0 rfl rfl rfl (.inl rfl)) (aF (rg:=.fz)) rfl) (aT (mn (op_eqD hr.units) (DN (rg:=.fz)) (c8 (AN rfl jL.nd (vq (cm ix_tup kZ (ae (md:=.bo) 2 rfl rfl rfl (.inl rfl)) (aA (rg:=.fz)) (fun _ _=>rfl))) cH fQ (show BlkOk oE (defScope cR) _ [("_law_mark",5)] from ⟨rfl,by decide+kernel,by decide+kernel,by decide+kernel,by decide+kernel⟩) (E4 rfl) yE (fun _ _ _ _ _=>(pg_name (i:=5) jL.nd rfl (.inl rfl))) (dE _ 5 fQ (Nat.le_of_ble_eq_true rfl)) (fun _ _ _ _ _ (c4:D)=>(AM (aO op_in_sign GD (ae (md:=.fz) 5 rfl rfl rfl (.inl rfl)) (cm ix_tup kZ (ae (md:=.bo) 3 rfl rfl rfl (.inr (.inl rfl))) (aA (rg:=.fz)) (fun _ _=>rfl)) rfl))) (fun _ _ _ _ _ (c4:D)=>(ae (md:=.fz) 5 rfl rfl rfl (.inl rfl))))) (c8 (nk (s:=.fz))) rfl) rfl rfl rfl) (aQ (.keep (.keep (.keep (.keep (.drop (.drop (.nil)))))))) (fun(y3:Unit)=>(aT (LS (mn op_le (iM (rg:=.fz)) (aI op_sub (zo (rg:=.fz)) (cm ix_tup kZ (ae (md:=.bo) 2 rfl rfl rfl (.inl rfl)) (aA (rg:=.fz)) (fun _ _=>rfl)) (cm ix_tup kZ (ae (md:=.bo) 3 rfl rfl rfl (.inr (.inl rfl))) (aA (rg:=.fz)) (fun _ _=>rfl))) (ae (md:=.bo) 1 rfl rfl rfl (.inl rfl)) rfl) (Gp (mn op_le (iM (rg:=.fz)) (aI op_sub (zo (rg:=.fz)) (cm ix_tup kZ (ae (md:=.bo) 3 rfl rfl rfl (.inr (.inl rfl))) (aA (rg:=.fz)) (fun _ _=>rfl)) (cm ix_tup kZ (ae (md:=.bo) 2 rfl rfl rfl (.inl rfl)) (aA (rg:=.fz)) (fun _ _=>rfl))) (ae (md:=.bo) 1 rfl rfl rfl (.inl rfl)) rfl))) rfl rfl rfl)))))
theorem yf (Z:Zs K mg) {f:Addr} {fd:FuncData} (F:Fun K "_law_plain" "_law_plain" cR f fd):FnOk P w K mg base CX0 (1) f fd ja (FSp K jb jc fH):=
 dM (n:=2) F jL rfl rfl fun cdv A outer s H vs E hr hv ds fr hd ef=>match vs,hv,ds,hd,ef with| [v0,v1,v2,v3],_,[a__law_kind,a__law_bound_here,a__law_giver,a__law_taker],_,ef=>⟨_,Aj Z hr v0 v1 v2 v3 a__law_kind a__law_bound_here a__law_giver a__law_taker,ef⟩
def lu (k__law_giver:D) (k__law_taker:D) (y5:D) (x7:D×D×D):Option (Out (D) (D)):=
 ifO (b2 D.eqA (bp fH (aj (some x7.2.1) (aj (some x7.2.2) (aj (some k__law_giver) (aj (some k__law_taker) (aU)))))) (b2 (blD D.eqA) (b2 D.bT (some x7.1) (some (.int 2))) (some (.int 1)))) ((some (.bl false)).bind fun d9=>some (.nx d9)) (some (.nx y5)) fun(y8:D)=>some (.nx y8)
def lA (k__law_giver:D) (k__law_taker:D) (y1:Unit) (x3:D):Option (Out (Unit) (Unit)):=
 (some (.bl true)).bind fun d4=>tA (Jq (some x3)) (lu k__law_giver k__law_taker) d4 fun(y5:D)=>ifO (b1 D.tb (some y5)) (cu (some (.bl true)) []) (some (.nx ())) fun(y10:Unit)=>some (.nx ())
def ko (a__law_alternatives_here:D) (a__law_giver:D) (a__law_taker:D):Option (Out PEmpty PEmpty):=
 tA (wC (some a__law_alternatives_here)) (lA a__law_giver a__law_taker) () fun(y1:Unit)=>cu (some (.bl false)) []
def gq:List D->Option FR:=fn3 fun a__law_alternatives_here a__law_giver a__law_taker=>FO (ko a__law_alternatives_here a__law_giver a__law_taker)
abbrev uK:List Str:=["_law_alternatives_here","_law_giver","_law_taker","_law_terms","_law_good","_law_times","_law_kind","_law_bound_here"]
abbrev kq:List Str:=["_law_alternatives_here","_law_giver","_law_taker"]
theorem eZ:FnScope uK kq (defScope eM):=⟨rfl,rfl,rfl,by decide+kernel,rfl,by decide+kernel,by decide+kernel⟩
abbrev kr:List PM:=[.bo,.bo,.bo]
abbrev ku:VM:=.rg .fz
theorem BL (Z:Zs K mg) (C__law_plain:Cal P w K mg base 1 "_law_plain" ja jb jc fH) {f:Addr} {cdv:Value} {A:Around} {outer:List Env} {s:Shared} {H:Hp} {E:XK} (hr:Room 1 (A.deeper (envOfC "_law_lets" (defScope eM) s.heap.objs.size f cdv))) (v0 v1 v2:V) (a__law_alternatives_here a__law_giver a__law_taker:D):
  Blk (cxT P w K mg base uK "_law_lets" (defScope eM) f cdv A outer s H E) (fnX ku (bw kr [v0,v1,v2]) E) [.bo,.bo,.bo,.fz,.fz,.fz,.fz,.fz] [some a__law_alternatives_here,some a__law_giver,some a__law_taker,none,none,none,none,none] (defBody eM) (ko a__law_alternatives_here a__law_giver a__law_taker):=by
 unfold ko
 exact (mr [.bo,.bo,.bo,.fz,.fz,.fz,.fz,.fz] (fun(y1:Unit)=>[some a__law_alternatives_here,some a__law_giver,some a__law_taker,none,none,none,none,none]) [.bo,.bo,.bo,.bo,.fz,.fz,.fz,.fz] (fun(y1:Unit) (x3:D)=>[some a__law_alternatives_here,some a__law_giver,some a__law_taker,some x3,none,none,none,none]) (jP (ae (md:=.bo) 0 rfl rfl rfl (.inl rfl))) cH mN (pg_name (i:=3) eZ.nd rfl (.inl rfl)) (dE _ 3 mN (Nat.le_of_ble_eq_true rfl)) (.keep (.keep (.keep (.drop (.drop (.drop (.drop (.drop (.nil))))))))) (fun(y1:Unit) (x3:D)=>by unfold lA;exact (aY 4 [.bo,.bo,.bo,.bo,.fz,.fz,.fz,.fz] (fun(d4:D)=>[some a__law_alternatives_here,some a__law_giver,some a__law_taker,some x3,some d4,none,none,none]) (kX (rg:=.fz)) (fun(d4:D)=>(mr [.bo,.bo,.bo,.bo,.fz,.fz,.fz,.fz] (fun(y5:D)=>[some a__law_alternatives_here,some a__law_giver,some a__law_taker,some x3,some y5,none,none,none]) [.bo,.bo,.bo,.bo,.fz,.bo,.bo,.bo] (fun(y5:D) (x7:D×D×D)=>[some a__law_alternatives_here,some a__law_giver,some a__law_taker,some x3,some y5,some x7.1,some x7.2.1,some x7.2.2]) (Jr (ae (md:=.bo) 3 rfl rfl rfl (.inl rfl))) GS mN (pg_tup rfl (pgs_cons (pg_name (i:=5) eZ.nd rfl (.inl rfl)) (pgs_cons (pg_name (i:=6) eZ.nd rfl (.inl rfl)) (pgs_cons (pg_name (i:=7) eZ.nd rfl (.inl rfl)) pgs_nil)))) (Mz _ 5 6 7 mN (Nat.le_of_ble_eq_true rfl) (Nat.le_of_ble_eq_true rfl) (Nat.le_of_ble_eq_true rfl)) (.keep (.keep (.keep (.keep (.keep (.drop (.drop (.drop (.nil))))))))) (fun(y5:D) (x7:D×D×D)=>by unfold lu;exact (ck [.bo,.bo,.bo,.bo,.fz,.bo,.bo,.bo] (fun(y8:D)=>[some a__law_alternatives_here,some a__law_giver,some a__law_taker,some x3,some y8,some x7.1,some x7.2.1,some x7.2.2]) (aO op_eq (di (rg:=.fz)) (aW C__law_plain hr (af (ae (md:=.bo) 6 rfl rfl rfl (.inl rfl)) (af (ae (md:=.bo) 7 rfl rfl rfl (.inl rfl)) (af (ae (md:=.bo) 1 rfl rfl rfl (.inl rfl)) (af (ae (md:=.bo) 2 rfl rfl rfl (.inl rfl)) aB))))) (mn op_eq (di (rg:=.fz)) (aI op_mod (cC (rg:=.fz)) (ae (md:=.bo) 5 rfl rfl rfl (.inl rfl)) (aA (rg:=.fz))) (aA (rg:=.fz)) rfl) rfl) (aY 4 [.bo,.bo,.bo,.bo,.fz,.bo,.bo,.bo] (fun(d9:D)=>[some a__law_alternatives_here,some a__law_giver,some a__law_taker,some x3,some d9,some x7.1,some x7.2.1,some x7.2.2]) (kX (rg:=.fz)) (fun(d9:D)=>(aQ (.keep (.keep (.keep (.keep (.keep (.keep (.keep (.keep (.nil))))))))))) (.inl rfl) eZ.nd) (aQ (.keep (.keep (.keep (.keep (.keep (.keep (.keep (.keep (.nil)))))))))) (fun(y8:D)=>(aQ (.keep (.keep (.keep (.keep (.keep (.drop (.drop (.drop (.nil))))))))))))) (fun(y5:D)=>(ck [.bo,.bo,.bo,.bo,.fz,.fz,.fz,.fz] (fun(y10:Unit)=>[some a__law_alternatives_here,some a__law_giver,some a__law_taker,some x3,some y5,none,none,none]) (DR (ae (md:=.fz) 4 rfl rfl rfl (.inl rfl))) (aT (kX (rg:=.fz)) rfl rfl rfl) (aQ (.keep (.keep (.keep (.keep (.keep (.drop (.drop (.drop (.nil)))))))))) (fun(y10:Unit)=>(aQ (.keep (.keep (.keep (.drop (.drop (.drop (.drop (.drop (.nil))))))))))))))) (.inl rfl) eZ.nd)) (fun(y1:Unit)=>(aT (kX (rg:=.fz)) rfl rfl rfl)))
theorem Ak (Z:Zs K mg) (C__law_plain:Cal P w K mg base 1 "_law_plain" ja jb jc fH) {f:Addr} {fd:FuncData} (F:Fun K "_law_lets" "_law_lets" eM f fd):FnOk P w K mg base CX0 (2) f fd kq (FSp K kr ku gq):=
 dM (n:=5) F eZ rfl rfl fun cdv A outer s H vs E hr hv ds fr hd ef=>match vs,hv,ds,hd,ef with| [v0,v1,v2],_,[a__law_alternatives_here,a__law_giver,a__law_taker],_,ef=>⟨_,BL Z C__law_plain hr v0 v1 v2 a__law_alternatives_here a__law_giver a__law_taker,ef⟩
def kv (a__law_cell_here:D):Option (Out PEmpty PEmpty):=
 (some (.str " !\"#$&'()*+,-./0123456789:;<=>?@ABCDEFGHIJKLMNOPQRSTUVWXYZ[\\]^_`")).bind fun d1=>(b2 D.iJ (some d1) (some (.str "abcdefghijklmnopqrstuvwxyz{|}~"))).bind fun d2=>ifO (b2 D.eqA (b2 D.bT (some a__law_cell_here) (some (.int 2))) (some (.int 0))) ((some (.str "0123456789 osnd")).bind fun d4=>some (.nx d4)) (some (.nx d2)) fun(y3:D)=>cu (b2 D.atS (some y3) (b2 D.bT (b2 D.hJ (some a__law_cell_here) (some (.int 2))) (b1 (un1 D.o7) (aj (some y3) (aU))))) []
def fb:List D->Option FR:=fn1 fun a__law_cell_here=>FO (kv a__law_cell_here)
abbrev uL:List Str:=["_law_cell_here","_law_signs"]
abbrev kz:List Str:=["_law_cell_here"]
theorem lB:FnScope uL kz (defScope eP):=⟨rfl,rfl,rfl,by decide+kernel,rfl,by decide+kernel,by decide+kernel⟩
abbrev kA:List PM:=[.bo]
abbrev kB:VM:=.rg .fz
theorem BM (Z:Zs K mg) {f:Addr} {cdv:Value} {A:Around} {outer:List Env} {s:Shared} {H:Hp} {E:XK} (hr:Room 0 (A.deeper (envOfC "_law_sign" (defScope eP) s.heap.objs.size f cdv))) (v0:V) (a__law_cell_here:D):
  Blk (cxT P w K mg base uL "_law_sign" (defScope eP) f cdv A outer s H E) (fnX kB (bw kA [v0]) E) [.bo,.fz] [some a__law_cell_here,none] (defBody eP) (kv a__law_cell_here):=by
 unfold kv
 exact (aY 1 [.bo,.fz] (fun(d1:D)=>[some a__law_cell_here,some d1]) (aF (rg:=.fz)) (fun(d1:D)=>(aY 1 [.bo,.fz] (fun(d2:D)=>[some a__law_cell_here,some d2]) (aI op_add_str (lI (rg:=.fz)) (ae (md:=.fz) 1 rfl rfl rfl (.inl rfl)) (aF (rg:=.fz))) (fun(d2:D)=>(ck [.bo,.fz] (fun(y3:D)=>[some a__law_cell_here,some y3]) (aO op_eq (di (rg:=.fz)) (aI op_mod (cC (rg:=.fz)) (ae (md:=.bo) 0 rfl rfl rfl (.inl rfl)) (aA (rg:=.fz))) (aA (rg:=.fz)) rfl) (aY 1 [.bo,.fz] (fun(d4:D)=>[some a__law_cell_here,some d4]) (aF (rg:=.fz)) (fun(d4:D)=>(aQ (.keep (.keep (.nil))))) (.inl rfl) lB.nd) (aQ (.keep (.keep (.nil)))) (fun(y3:D)=>(aT (cm ix_str (AK (rg:=.fz)) (ae (md:=.fz) 1 rfl rfl rfl (.inl rfl)) (aI op_mod (cC (rg:=.fz)) (aI op_fdiv (kM (rg:=.fz)) (ae (md:=.bo) 0 rfl rfl rfl (.inl rfl)) (aA (rg:=.fz))) (dI call_len (tu (rg:=.fz)) (by rfl) Z.len kN (af (ae (md:=.fz) 1 rfl rfl rfl (.inl rfl)) aB))) (fun _ _=>rfl)) rfl rfl rfl)))) (.inl rfl) lB.nd)) (.inl rfl) lB.nd)
theorem Am (Z:Zs K mg) {f:Addr} {fd:FuncData} (F:Fun K "_law_sign" "_law_sign" eP f fd):FnOk P w K mg base CX0 (1) f fd kz (FSp K kA kB fb):=
 dM (n:=1) F lB rfl rfl fun cdv A outer s H vs E hr hv ds fr hd ef=>match vs,hv,ds,hd,ef with| [v0],_,[a__law_cell_here],_,ef=>⟨_,BM Z hr v0 a__law_cell_here,ef⟩
def fv (a__law_cell_here:D):Option (Out PEmpty PEmpty):=
 (qL (aj (some (.str "98")) (aj (some (.str "99")) (aj (some (.str "100")) (aj (some (.str "0")) (aj (some (.str "00")) (aj (some (.str "098")) (aj (some (.str "-1")) (aj (some (.str "")) (aj (some (.str "no")) (aj (some (.str "or")) (aj (some (.str "and")) (aj (some (.str "groups")) (aj (some (.str "marks")) (aj (some (.str "sizes")) (aj (some (.str "Groups")) (aU))))))))))))))))).bind fun d1=>(b2 D.qj (some d1) (qL (aj (some (.str "size")) (aj (some (.str "no no no no no no")) (aj (some (.str "sizes 3")) (aj (some (.str "not")) (aj (some (.str "999999999999")) (aj (some (.str "1000000000000")) (aj (some (.str "x")) (aU)))))))))).bind fun d2=>cu (b2 D.atL (some d2) (b2 D.bT (some a__law_cell_here) (b1 (un1 D.mq) (aj (some d2) (aU))))) []
def c6:List D->Option FR:=fn1 fun a__law_cell_here=>FO (fv a__law_cell_here)
abbrev o6:List Str:=["_law_cell_here","_law_some"]
abbrev fx:List Str:=["_law_cell_here"]
theorem jD:FnScope o6 fx (defScope bU):=⟨rfl,rfl,rfl,by decide+kernel,rfl,by decide+kernel,by decide+kernel⟩
abbrev fy:List PM:=[.bo]
abbrev fA:VM:=.rg .fz
theorem vf (Z:Zs K mg) {f:Addr} {cdv:Value} {A:Around} {outer:List Env} {s:Shared} {H:Hp} {E:XK} (hr:Room 0 (A.deeper (envOfC "_law_odd_word" (defScope bU) s.heap.objs.size f cdv))) (v0:V) (a__law_cell_here:D):
  Blk (cxT P w K mg base o6 "_law_odd_word" (defScope bU) f cdv A outer s H E) (fnX fA (bw fy [v0]) E) [.bo,.fz] [some a__law_cell_here,none] (defBody bU) (fv a__law_cell_here):=by
 unfold fv
 exact (aY 1 [.bo,.fz] (fun(d1:D)=>[some a__law_cell_here,some d1]) (c8 (lJ (af (aF (rg:=.fz)) (af (aF (rg:=.fz)) (af (aF (rg:=.fz)) (af (aF (rg:=.fz)) (af (aF (rg:=.fz)) (af (aF (rg:=.fz)) (af (aF (rg:=.fz)) (af (aF (rg:=.fz)) (af (aF (rg:=.fz)) (af (aF (rg:=.fz)) (af (aF (rg:=.fz)) (af (aF (rg:=.fz)) (af (aF (rg:=.fz)) (af (aF (rg:=.fz)) (af (aF (rg:=.fz)) aB))))))))))))))) Jv)) (fun(d1:D)=>(aY 1 [.bo,.fz] (fun(d2:D)=>[some a__law_cell_here,some d2]) (c8 (aI op_cat wu (ae (md:=.fz) 1 rfl rfl rfl (.inl rfl)) (c8 (lJ (af (aF (rg:=.fz)) (af (aF (rg:=.fz)) (af (aF (rg:=.fz)) (af (aF (rg:=.fz)) (af (aF (rg:=.fz)) (af (aF (rg:=.fz)) (af (aF (rg:=.fz)) aB))))))) My)))) (fun(d2:D)=>(aT (cm ix_list mJ (ae (md:=.fz) 1 rfl rfl rfl (.inl rfl)) (aI op_mod (cC (rg:=.fz)) (ae (md:=.bo) 0 rfl rfl rfl (.inl rfl)) (dI call_len_seq (wq (rg:=.fz)) (by rfl) Z.len kN (af (ae (md:=.fz) 1 rfl rfl rfl (.inl rfl)) aB))) (fun _ _=>rfl)) rfl rfl rfl)) (.inl rfl) jD.nd)) (.inl rfl) jD.nd)
theorem tZ (Z:Zs K mg) {f:Addr} {fd:FuncData} (F:Fun K "_law_odd_word" "_law_odd_word" bU f fd):FnOk P w K mg base CX0 (1) f fd fx (FSp K fy fA c6):=
 dM (n:=1) F jD rfl rfl fun cdv A outer s H vs E hr hv ds fr hd ef=>match vs,hv,ds,hd,ef with| [v0],_,[a__law_cell_here],_,ef=>⟨_,vf Z hr v0 a__law_cell_here,ef⟩
def gQ (a__law_text:D) (a__law_cell_here:D) (a__law_other:D):Option (Out PEmpty PEmpty):=
 (b2 D.bT (some a__law_cell_here) (some (.int 8))).bind fun d1=>(b2 D.bT (b2 D.hJ (some a__law_cell_here) (some (.int 8))) (b2 D.bP (b1 (un1 D.o7) (aj (some a__law_text) (aU))) (some (.int 1)))).bind fun d2=>(b2 D.split (some a__law_text) (some (.str " "))).bind fun d3=>(b2 D.bT (b2 D.hJ (some a__law_cell_here) (some (.int 8))) (b1 (un1 D.mq) (aj (some d3) (aU)))).bind fun d4=>(b2 D.bT (some a__law_other) (b1 (un1 D.mq) (aj (some d3) (aU)))).bind fun d5=>ifO (b2 D.eqA (some d1) (some (.int 0))) (cu (b2 D.iJ (b2 D.iJ (px D.cutS (some a__law_text) (some none) (b1 D.toI (some d2))) (bp fb (aj (some a__law_other) (aU)))) (px D.cutS (some a__law_text) (b1 D.toI (some d2)) (some none))) []) (some (.nx ())) fun(y6:Unit)=>ifO (b2 D.eqA (some d1) (some (.int 1))) (cu (b2 D.iJ (px D.cutS (some a__law_text) (some none) (b1 D.toI (some d2))) (px D.cutS (some a__law_text) (b1 D.toI (b2 D.bP (some d2) (some (.int 1)))) (some none))) []) (some (.nx ())) fun(y7:Unit)=>ifO (b2 D.eqA (some d1) (some (.int 2))) (cu (b2 D.iJ (b2 D.iJ (px D.cutS (some a__law_text) (some none) (b1 D.toI (some d2))) (bp fb (aj (some a__law_other) (aU)))) (px D.cutS (some a__law_text) (b1 D.toI (b2 D.bP (some d2) (some (.int 1)))) (some none))) []) (some (.nx ())) fun(y8:Unit)=>ifO (b2 D.eqA (some d1) (some (.int 3))) ((b1 D.et (b2 D.atL (some d3) (some d4))).bind fun d10=>(wD d3 (b1 D.et (b2 D.atL (some d3) (some d5))) (some []) (some d4)).bind fun d11=>(wD d11 (some d10) (some []) (some d5)).bind fun d12=>some (.nx d12)) (some (.nx d3)) fun(y9:D)=>ifO (b2 D.eqA (some d1) (some (.int 4))) ((b2 D.qj (px D.uw (some y9) (some none) (b1 D.toI (some d4))) (px D.uw (some y9) (b1 D.toI (b2 D.bP (some d4) (some (.int 1)))) (some none))).bind fun d14=>some (.nx d14)) (some (.nx y9)) fun(y13:D)=>ifO (b2 D.eqA (some d1) (some (.int 5))) ((b2 D.qj (b2 D.qj (px D.uw (some y13) (some none) (b1 D.toI (some d4))) (qL (aj (b1 D.et (b2 D.atL (some y13) (some d5))) (aU)))) (px D.uw (some y13) (b1 D.toI (some d4)) (some none))).bind fun d16=>some (.nx d16)) (some (.nx y13)) fun(y15:D)=>ifO (b2 D.eqA (some d1) (some (.int 6))) ((wD y15 (bp c6 (aj (some a__law_other) (aU))) (some []) (some d4)).bind fun d18=>some (.nx d18)) (some (.nx y15)) fun(y17:D)=>cu (b2 D.join (some (.str " ")) (some y17)) []
def dX:List D->Option FR:=fn3 fun a__law_text a__law_cell_here a__law_other=>FO (gQ a__law_text a__law_cell_here a__law_other)
abbrev qG:List Str:=["_law_text","_law_cell_here","_law_other","_law_way","_law_at","_law_words","_law_place","_law_to","_law_kept"]
abbrev gR:List Str:=["_law_text","_law_cell_here","_law_other"]
theorem bQ:FnScope qG gR (defScope cX):=⟨rfl,rfl,rfl,by decide+kernel,rfl,by decide+kernel,by decide+kernel⟩
abbrev gT:List PM:=[.bo,.bo,.bo]
abbrev gU:VM:=.rg .fz
theorem yg (Z:Zs K mg) (C__law_sign:Cal P w K mg base 1 "_law_sign" kz kA kB fb) (C__law_odd_word:Cal P w K mg base 1 "_law_odd_word" fx fy fA c6) {f:Addr} {cdv:Value} {A:Around} {outer:List Env} {s:Shared} {H:Hp} {E:XK} (hr:Room 1 (A.deeper (envOfC "_law_spoilt" (defScope cX) s.heap.objs.size f cdv))) (v0 v1 v2:V) (a__law_text a__law_cell_here a__law_other:D):
  Blk (cxT P w K mg base qG "_law_spoilt" (defScope cX) f cdv A outer s H E) (fnX gU (bw gT [v0,v1,v2]) E) [.bo,.bo,.bo,.fz,.fz,.fz,.fz,.fz,.fz] [some a__law_text,some a__law_cell_here,some a__law_other,none,none,none,none,none,none] (defBody cX) (gQ a__law_text a__law_cell_here a__law_other):=by
 unfold gQ
 exact (aY 3 [.bo,.bo,.bo,.fz,.fz,.fz,.fz,.fz,.fz] (fun(d1:D)=>[some a__law_text,some a__law_cell_here,some a__law_other,some d1,none,none,none,none,none]) (aI op_mod (cC (rg:=.fz)) (ae (md:=.bo) 1 rfl rfl rfl (.inl rfl)) (aA (rg:=.fz))) (fun(d1:D)=>(aY 4 [.bo,.bo,.bo,.fz,.fz,.fz,.fz,.fz,.fz] (fun(d2:D)=>[some a__law_text,some a__law_cell_here,some a__law_other,some d1,some d2,none,none,none,none]) (aI op_mod (cC (rg:=.fz)) (aI op_fdiv (kM (rg:=.fz)) (ae (md:=.bo) 1 rfl rfl rfl (.inl rfl)) (aA (rg:=.fz))) (aI op_add (dy (rg:=.fz)) (dI call_len (tu (rg:=.fz)) (by rfl) Z.len kN (af (ae (md:=.bo) 0 rfl rfl rfl (.inl rfl)) aB)) (aA (rg:=.fz)))) (fun(d2:D)=>(aY 5 [.bo,.bo,.bo,.fz,.fz,.ow (.ls .fz),.fz,.fz,.fz] (fun(d3:D)=>[some a__law_text,some a__law_cell_here,some a__law_other,some d1,some d2,some d3,none,none,none]) (rY (ae (md:=.bo) 0 rfl rfl rfl (.inl rfl)) (aF (rg:=.fz))) (fun(d3:D)=>(aY 6 [.bo,.bo,.bo,.fz,.fz,.ow (.ls .fz),.fz,.fz,.fz] (fun(d4:D)=>[some a__law_text,some a__law_cell_here,some a__law_other,some d1,some d2,some d3,some d4,none,none]) (aI op_mod (cC (rg:=.fz)) (aI op_fdiv (kM (rg:=.fz)) (ae (md:=.bo) 1 rfl rfl rfl (.inl rfl)) (aA (rg:=.fz))) (dI call_len_seq (wq (rg:=.fz)) (by rfl) Z.len kN (af (ae (md:=.ow (.ls .fz)) 5 rfl rfl rfl (.inl rfl)) aB))) (fun(d4:D)=>(aY 7 [.bo,.bo,.bo,.fz,.fz,.ow (.ls .fz),.fz,.fz,.fz] (fun(d5:D)=>[some a__law_text,some a__law_cell_here,some a__law_other,some d1,some d2,some d3,some d4,some d5,none]) (aI op_mod (cC (rg:=.fz)) (ae (md:=.bo) 2 rfl rfl rfl (.inl rfl)) (dI call_len_seq (wq (rg:=.fz)) (by rfl) Z.len kN (af (ae (md:=.ow (.ls .fz)) 5 rfl rfl rfl (.inl rfl)) aB))) (fun(d5:D)=>(ck [.bo,.bo,.bo,.fz,.fz,.ow (.ls .fz),.fz,.fz,.fz] (fun(y6:Unit)=>[some a__law_text,some a__law_cell_here,some a__law_other,some d1,some d2,some d3,some d4,some d5,none]) (aO op_eq (di (rg:=.fz)) (ae (md:=.fz) 3 rfl rfl rfl (.inl rfl)) (aA (rg:=.fz)) rfl) (aT (aI op_add_str (lI (rg:=.fz)) (aI op_add_str (lI (rg:=.fz)) (nu (rg:=.fz) (ae (md:=.bo) 0 rfl rfl rfl (.inl rfl)) dj (dq (ae (md:=.fz) 4 rfl rfl rfl (.inl rfl)))) (aW C__law_sign hr (af (ae (md:=.bo) 2 rfl rfl rfl (.inl rfl)) aB))) (nu (rg:=.fz) (ae (md:=.bo) 0 rfl rfl rfl (.inl rfl)) (dq (ae (md:=.fz) 4 rfl rfl rfl (.inl rfl))) dj)) rfl rfl rfl) (aQ (.keep (.keep (.keep (.keep (.keep (.keep (.keep (.keep (.drop (.nil))))))))))) (fun(y6:Unit)=>(ck [.bo,.bo,.bo,.fz,.fz,.ow (.ls .fz),.fz,.fz,.fz] (fun(y7:Unit)=>[some a__law_text,some a__law_cell_here,some a__law_other,some d1,some d2,some d3,some d4,some d5,none]) (aO op_eq (di (rg:=.fz)) (ae (md:=.fz) 3 rfl rfl rfl (.inl rfl)) (aA (rg:=.fz)) rfl) (aT (aI op_add_str (lI (rg:=.fz)) (nu (rg:=.fz) (ae (md:=.bo) 0 rfl rfl rfl (.inl rfl)) dj (dq (ae (md:=.fz) 4 rfl rfl rfl (.inl rfl)))) (nu (rg:=.fz) (ae (md:=.bo) 0 rfl rfl rfl (.inl rfl)) (dq (aI op_add (dy (rg:=.fz)) (ae (md:=.fz) 4 rfl rfl rfl (.inl rfl)) (aA (rg:=.fz)))) dj)) rfl rfl rfl) (aQ (.keep (.keep (.keep (.keep (.keep (.keep (.keep (.keep (.drop (.nil))))))))))) (fun(y7:Unit)=>(ck [.bo,.bo,.bo,.fz,.fz,.ow (.ls .fz),.fz,.fz,.fz] (fun(y8:Unit)=>[some a__law_text,some a__law_cell_here,some a__law_other,some d1,some d2,some d3,some d4,some d5,none]) (aO op_eq (di (rg:=.fz)) (ae (md:=.fz) 3 rfl rfl rfl (.inl rfl)) (aA (rg:=.fz)) rfl) (aT (aI op_add_str (lI (rg:=.fz)) (aI op_add_str (lI (rg:=.fz)) (nu (rg:=.fz) (ae (md:=.bo) 0 rfl rfl rfl (.inl rfl)) dj (dq (ae (md:=.fz) 4 rfl rfl rfl (.inl rfl)))) (aW C__law_sign hr (af (ae (md:=.bo) 2 rfl rfl rfl (.inl rfl)) aB))) (nu (rg:=.fz) (ae (md:=.bo) 0 rfl rfl rfl (.inl rfl)) (dq (aI op_add (dy (rg:=.fz)) (ae (md:=.fz) 4 rfl rfl rfl (.inl rfl)) (aA (rg:=.fz)))) dj)) rfl rfl rfl) (aQ (.keep (.keep (.keep (.keep (.keep (.keep (.keep (.keep (.drop (.nil))))))))))) (fun(y8:Unit)=>(ck [.bo,.bo,.bo,.fz,.fz,.ow (.ls .fz),.fz,.fz,.fz] (fun(y9:D)=>[some a__law_text,some a__law_cell_here,some a__law_other,some d1,some d2,some y9,some d4,some d5,none]) (aO op_eq (di (rg:=.fz)) (ae (md:=.fz) 3 rfl rfl rfl (.inl rfl)) (aA (rg:=.fz)) rfl) (aY 8 [.bo,.bo,.bo,.fz,.fz,.ow (.ls .fz),.fz,.fz,.fz] (fun(d10:D)=>[some a__law_text,some a__law_cell_here,some a__law_other,some d1,some d2,some d3,some d4,some d5,some d10]) (uu (cm ix_list mJ (ae (md:=.ow (.ls .fz)) 5 rfl rfl rfl (.inl rfl)) (ae (md:=.fz) 6 rfl rfl rfl (.inl rfl)) (fun _ _=>rfl))) (fun(d10:D)=>(zr 5 (fun(d11:D)=>[some a__law_text,some a__law_cell_here,some a__law_other,some d1,some d2,some d11,some d4,some d5,some d10]) (hu_of hr) (uu (cm ix_list mJ (ae (md:=.ow (.ls .fz)) 5 rfl rfl rfl (.inl rfl)) (ae (md:=.fz) 7 rfl rfl rfl (.inl rfl)) (fun _ _=>rfl))) rfl (pq 5 rfl rfl rfl rfl (.inl rfl)) (uv rfl) (ae (md:=.fz) 6 rfl rfl rfl (.inl rfl)) (fun(d11:D)=>(zr 5 (fun(d12:D)=>[some a__law_text,some a__law_cell_here,some a__law_other,some d1,some d2,some d12,some d4,some d5,some d10]) (hu_of hr) (ae (md:=.fz) 8 rfl rfl rfl (.inl rfl)) rfl (pq 5 rfl rfl rfl rfl (.inl rfl)) (uv rfl) (ae (md:=.fz) 7 rfl rfl rfl (.inl rfl)) (fun(d12:D)=>(aQ (.keep (.keep (.keep (.keep (.keep (.keep (.keep (.keep (.drop (.nil)))))))))))))))) (.inl rfl) bQ.nd) (aQ (.keep (.keep (.keep (.keep (.keep (.keep (.keep (.keep (.drop (.nil))))))))))) (fun(y9:D)=>(ck [.bo,.bo,.bo,.fz,.fz,.ow (.ls .fz),.fz,.fz,.fz] (fun(y13:D)=>[some a__law_text,some a__law_cell_here,some a__law_other,some d1,some d2,some y13,some d4,some d5,none]) (aO op_eq (di (rg:=.fz)) (ae (md:=.fz) 3 rfl rfl rfl (.inl rfl)) (aA (rg:=.fz)) rfl) (aY 5 [.bo,.bo,.bo,.fz,.fz,.ow (.ls .fz),.fz,.fz,.fz] (fun(d14:D)=>[some a__law_text,some a__law_cell_here,some a__law_other,some d1,some d2,some d14,some d4,some d5,none]) (aI op_cat wu (c8 (mP (ae (md:=.ow (.ls .fz)) 5 rfl rfl rfl (.inl rfl)) dj (dq (ae (md:=.fz) 6 rfl rfl rfl (.inl rfl))))) (c8 (mP (ae (md:=.ow (.ls .fz)) 5 rfl rfl rfl (.inl rfl)) (dq (aI op_add (dy (rg:=.fz)) (ae (md:=.fz) 6 rfl rfl rfl (.inl rfl)) (aA (rg:=.fz)))) dj))) (fun(d14:D)=>(aQ (.keep (.keep (.keep (.keep (.keep (.keep (.keep (.keep (.drop (.nil)))))))))))) (.inl rfl) bQ.nd) (aQ (.keep (.keep (.keep (.keep (.keep (.keep (.keep (.keep (.drop (.nil))))))))))) (fun(y13:D)=>(ck [.bo,.bo,.bo,.fz,.fz,.ow (.ls .fz),.fz,.fz,.fz] (fun(y15:D)=>[some a__law_text,some a__law_cell_here,some a__law_other,some d1,some d2,some y15,some d4,some d5,none]) (aO op_eq (di (rg:=.fz)) (ae (md:=.fz) 3 rfl rfl rfl (.inl rfl)) (aA (rg:=.fz)) rfl) (aY 5 [.bo,.bo,.bo,.fz,.fz,.ow (.ls .fz),.fz,.fz,.fz] (fun(d16:D)=>[some a__law_text,some a__law_cell_here,some a__law_other,some d1,some d2,some d16,some d4,some d5,none]) (aI op_cat wu (c8 (aI op_cat wu (c8 (mP (ae (md:=.ow (.ls .fz)) 5 rfl rfl rfl (.inl rfl)) dj (dq (ae (md:=.fz) 6 rfl rfl rfl (.inl rfl))))) (c8 (lJ (af (uu (cm ix_list mJ (ae (md:=.ow (.ls .fz)) 5 rfl rfl rfl (.inl rfl)) (ae (md:=.fz) 7 rfl rfl rfl (.inl rfl)) (fun _ _=>rfl))) aB) zp)))) (c8 (mP (ae (md:=.ow (.ls .fz)) 5 rfl rfl rfl (.inl rfl)) (dq (ae (md:=.fz) 6 rfl rfl rfl (.inl rfl))) dj))) (fun(d16:D)=>(aQ (.keep (.keep (.keep (.keep (.keep (.keep (.keep (.keep (.drop (.nil)))))))))))) (.inl rfl) bQ.nd) (aQ (.keep (.keep (.keep (.keep (.keep (.keep (.keep (.keep (.drop (.nil))))))))))) (fun(y15:D)=>(ck [.bo,.bo,.bo,.fz,.fz,.ow (.ls .fz),.fz,.fz,.fz] (fun(y17:D)=>[some a__law_text,some a__law_cell_here,some a__law_other,some d1,some d2,some y17,some d4,some d5,none]) (aO op_eq (di (rg:=.fz)) (ae (md:=.fz) 3 rfl rfl rfl (.inl rfl)) (aA (rg:=.fz)) rfl) (zr 5 (fun(d18:D)=>[some a__law_text,some a__law_cell_here,some a__law_other,some d1,some d2,some d18,some d4,some d5,none]) (hu_of hr) (aW C__law_odd_word hr (af (ae (md:=.bo) 2 rfl rfl rfl (.inl rfl)) aB)) rfl (pq 5 rfl rfl rfl rfl (.inl rfl)) (uv rfl) (ae (md:=.fz) 6 rfl rfl rfl (.inl rfl)) (fun(d18:D)=>(aQ (.keep (.keep (.keep (.keep (.keep (.keep (.keep (.keep (.drop (.nil))))))))))))) (aQ (.keep (.keep (.keep (.keep (.keep (.keep (.keep (.keep (.drop (.nil))))))))))) (fun(y17:D)=>(aT (vx (rg:=.fz) (aF (rg:=.fz)) (ae (md:=.ow (.ls .fz)) 5 rfl rfl rfl (.inl rfl))) rfl rfl rfl)))))))))))))))) (.inl rfl) bQ.nd)) (.inl rfl) bQ.nd)) (.inl rfl) bQ.nd)) (.inl rfl) bQ.nd)) (.inl rfl) bQ.nd)
theorem xM (Z:Zs K mg) (C__law_sign:Cal P w K mg base 1 "_law_sign" kz kA kB fb) (C__law_odd_word:Cal P w K mg base 1 "_law_odd_word" fx fy fA c6) {f:Addr} {fd:FuncData} (F:Fun K "_law_spoilt" "_law_spoilt" cX f fd):FnOk P w K mg base CX0 (2) f fd gR (FSp K gT gU dX):=
 dM (n:=6) F bQ rfl rfl fun cdv A outer s H vs E hr hv ds fr hd ef=>match vs,hv,ds,hd,ef with| [v0,v1,v2],_,[a__law_text,a__law_cell_here,a__law_other],_,ef=>⟨_,yg Z C__law_sign C__law_odd_word hr v0 v1 v2 a__law_text a__law_cell_here a__law_other,ef⟩
def jM (y1:Unit) (x3:D):Option (Out (Unit) (Unit)):=
 ifO (o8 (chB D.leS D.leS (some (.str "0")) (some x3) (some (.str "9")))) (cu (some .non) []) (some (.nx ())) fun(y4:Unit)=>some (.nx ())
def jd (a__law_word:D):Option (Out PEmpty PEmpty):=
 tA (b1 D.tv (some a__law_word)) (jM) () fun(y1:Unit)=>ifO (orB (o8 (chB D.leI D.leI (some (.int 1)) (b1 (un1 D.o7) (aj (some a__law_word) (aU))) (some (.int 2)))) (orB (lL (b2 D.eqA (b1 (un1 D.o7) (aj (some a__law_word) (aU))) (some (.int 2))) (b2 D.eqA (b2 D.atS (some a__law_word) (some (.int 0))) (some (.str "0")))) (b2 D.gtI (b1 (un1 D.qm) (aj (some a__law_word) (aU))) (some (.int 98))))) (cu (some .non) []) (some (.nx ())) fun(y5:Unit)=>cu (b1 (un1 D.qm) (aj (some a__law_word) (aU))) []
def dC:List D->Option FR:=fn1 fun a__law_word=>FO (jd a__law_word)
abbrev sS:List Str:=["_law_word","_law_sign_here"]
abbrev je:List Str:=["_law_word"]
theorem qH:FnScope sS je (defScope dg):=⟨rfl,rfl,rfl,by decide+kernel,rfl,by decide+kernel,by decide+kernel⟩
abbrev jf:List PM:=[.bo]
abbrev jg:VM:=.rg .fz
theorem An (Z:Zs K mg) {f:Addr} {cdv:Value} {A:Around} {outer:List Env} {s:Shared} {H:Hp} {E:XK} (hr:Room 0 (A.deeper (envOfC "_law_bound" (defScope dg) s.heap.objs.size f cdv))) (v0:V) (a__law_word:D):
  Blk (cxT P w K mg base sS "_law_bound" (defScope dg) f cdv A outer s H E) (fnX jg (bw jf [v0]) E) [.bo,.fz] [some a__law_word,none] (defBody dg) (jd a__law_word):=by
 unfold jd
 exact (mr [.bo,.fz] (fun(y1:Unit)=>[some a__law_word,none]) [.bo,.fz] (fun(y1:Unit) (x3:D)=>[some a__law_word,some x3]) (vq (ae (md:=.bo) 0 rfl rfl rfl (.inl rfl))) cH fQ (pg_name (i:=1) qH.nd rfl (.inl rfl)) (dE _ 1 fQ (Nat.le_of_ble_eq_true rfl)) (.keep (.drop (.nil))) (fun(y1:Unit) (x3:D)=>by unfold jM;exact (ck [.bo,.fz] (fun(y4:Unit)=>[some a__law_word,some x3]) (vo (tE op_le_str (KY (rg:=.fz)) op_le_str (KY (rg:=.fz)) (aF (rg:=.fz)) (ae (md:=.fz) 1 rfl rfl rfl (.inl rfl)) (aF (rg:=.fz)))) (aT (kK (rg:=.fz)) rfl rfl rfl) (aQ (.keep (.keep (.nil)))) (fun(y4:Unit)=>(aQ (.keep (.drop (.nil))))))) (fun(y1:Unit)=>(ck [.bo,.fz] (fun(y5:Unit)=>[some a__law_word,none]) (PW.pt (pj (vo (tE op_le (iM (rg:=.fz)) op_le (iM (rg:=.fz)) (aA (rg:=.fz)) (dI call_len (tu (rg:=.fz)) (by rfl) Z.len kN (af (ae (md:=.bo) 0 rfl rfl rfl (.inl rfl)) aB)) (aA (rg:=.fz)))) (pj (PW.pt (vp (aO op_eq (di (rg:=.fz)) (dI call_len (tu (rg:=.fz)) (by rfl) Z.len kN (af (ae (md:=.bo) 0 rfl rfl rfl (.inl rfl)) aB)) (aA (rg:=.fz)) rfl) (rT (aO op_eq (di (rg:=.fz)) (cm ix_str (AK (rg:=.fz)) (ae (md:=.bo) 0 rfl rfl rfl (.inl rfl)) (aA (rg:=.fz)) (fun _ _=>rfl)) (aF (rg:=.fz)) rfl)))) (pZ (aO op_gt (iM (rg:=.fz)) (pY call_int_str (Ck (rg:=.fz)) (by rfl) Z.int zt (af (ae (md:=.bo) 0 rfl rfl rfl (.inl rfl)) aB)) (aA (rg:=.fz)) rfl))))) (aT (kK (rg:=.fz)) rfl rfl rfl) (aQ (.keep (.drop (.nil)))) (fun(y5:Unit)=>(aT (pY call_int_str (Ck (rg:=.fz)) (by rfl) Z.int zt (af (ae (md:=.bo) 0 rfl rfl rfl (.inl rfl)) aB)) rfl rfl rfl)))))
theorem yh (Z:Zs K mg) {f:Addr} {fd:FuncData} (F:Fun K "_law_bound" "_law_bound" dg f fd):FnOk P w K mg base CX0 (1) f fd je (FSp K jf jg dC):=
 dM (n:=1) F qH rfl rfl fun cdv A outer s H vs E hr hv ds fr hd ef=>match vs,hv,ds,hd,ef with| [v0],_,[a__law_word],_,ef=>⟨_,An Z hr v0 a__law_word,ef⟩
def fM (y2:D):Option (Out (D) (D)):=
 (b2 D.bP (some y2) (some (.int 1))).bind fun d3=>some (.nx d3)
def dY (a__law_words:D):Option (Out PEmpty PEmpty):=
 (some (.int 0)).bind fun d1=>whO (fun(y2:D)=>lL (b2 D.ltI (some y2) (b1 (un1 D.mq) (aj (some a__law_words) (aU)))) (b2 D.eqA (b2 D.atL (some a__law_words) (some y2)) (some (.str "no")))) (fM) d1 fun(y2:D)=>ifO (b2 D.gtI (some y2) (some (.int 5))) (cu (some .non) []) (some (.nx ())) fun(y4:Unit)=>ifO (orB (b2 D.eqD (px D.uw (some a__law_words) (b1 D.toI (some y2)) (some none)) (qL (aj (some (.str "groups")) (aU)))) (b2 D.eqD (px D.uw (some a__law_words) (b1 D.toI (some y2)) (some none)) (qL (aj (some (.str "marks")) (aU))))) (cu (tupO (aj (some y2) (aj (b1 D.et (b2 D.atL (some a__law_words) (some y2))) (aj (some (.int 0)) (aU))))) []) (some (.nx ())) fun(y5:Unit)=>ifO (orB (b2 D.neA (b1 (un1 D.mq) (aj (some a__law_words) (aU))) (b2 D.bP (some y2) (some (.int 2)))) (orB (b2 D.neA (b2 D.atL (some a__law_words) (some y2)) (some (.str "sizes"))) (b2 D.uV (bp dC (aj (b2 D.atL (some a__law_words) (b2 D.bP (some y2) (some (.int 1)))) (aU))) (some .non)))) (cu (some .non) []) (some (.nx ())) fun(y6:Unit)=>cu (tupO (aj (some y2) (aj (some (.str "sizes")) (aj (bp dC (aj (b2 D.atL (some a__law_words) (b2 D.bP (some y2) (some (.int 1)))) (aU))) (aU))))) []
def cB:List D->Option FR:=fn1 fun a__law_words=>FO (dY a__law_words)
abbrev nj:List Str:=["_law_words","_law_times"]
abbrev dZ:List Str:=["_law_words"]
theorem jh:FnScope nj dZ (defScope bG):=⟨rfl,rfl,rfl,by decide+kernel,rfl,by decide+kernel,by decide+kernel⟩
abbrev eh:List PM:=[.bo]
abbrev eA:VM:=.rg .fz
theorem t6 (Z:Zs K mg) (C__law_bound:Cal P w K mg base 1 "_law_bound" je jf jg dC) {f:Addr} {cdv:Value} {A:Around} {outer:List Env} {s:Shared} {H:Hp} {E:XK} (hr:Room 1 (A.deeper (envOfC "_law_read_term" (defScope bG) s.heap.objs.size f cdv))) (v0:V) (a__law_words:D):
  Blk (cxT P w K mg base nj "_law_read_term" (defScope bG) f cdv A outer s H E) (fnX eA (bw eh [v0]) E) [.bo,.fz] [some a__law_words,none] (defBody bG) (dY a__law_words):=by
 unfold dY
 exact (aY 1 [.bo,.fz] (fun(d1:D)=>[some a__law_words,some d1]) (aA (rg:=.fz)) (fun(d1:D)=>(AR [.bo,.fz] (fun(y2:D)=>[some a__law_words,some y2]) (fun(y2:D)=>(PW.pt (vp (aO op_lt (iM (rg:=.fz)) (ae (md:=.fz) 1 rfl rfl rfl (.inl rfl)) (dI call_len_seq (wq (rg:=.fz)) (by rfl) Z.len kN (af (ae (md:=.bo) 0 rfl rfl rfl (.inl rfl)) aB)) rfl) (rT (aO op_eq (di (rg:=.fz)) (cm ix_list mJ (ae (md:=.bo) 0 rfl rfl rfl (.inl rfl)) (ae (md:=.fz) 1 rfl rfl rfl (.inl rfl)) (fun _ _=>rfl)) (aF (rg:=.fz)) rfl))))) (.keep (.keep (.nil))) (fun(y2:D)=>by unfold fM;exact (aY 1 [.bo,.fz] (fun(d3:D)=>[some a__law_words,some d3]) (aI op_add (dy (rg:=.fz)) (ae (md:=.fz) 1 rfl rfl rfl (.inl rfl)) (aA (rg:=.fz))) (fun(d3:D)=>(aQ (.keep (.keep (.nil))))) (.inl rfl) jh.nd)) (fun(y2:D)=>(ck [.bo,.fz] (fun(y4:Unit)=>[some a__law_words,some y2]) (aO op_gt (iM (rg:=.fz)) (ae (md:=.fz) 1 rfl rfl rfl (.inl rfl)) (aA (rg:=.fz)) rfl) (aT (kK (rg:=.fz)) rfl rfl rfl) (aQ (.keep (.keep (.nil)))) (fun(y4:Unit)=>(ck [.bo,.fz] (fun(y5:Unit)=>[some a__law_words,some y2]) (PW.pt (pj (aO (op_eqD hr.units) (DN (rg:=.fz)) (c8 (mP (ae (md:=.bo) 0 rfl rfl rfl (.inl rfl)) (dq (ae (md:=.fz) 1 rfl rfl rfl (.inl rfl))) dj)) (c8 (lJ (af (aF (rg:=.fz)) aB) zp)) rfl) (pZ (aO (op_eqD hr.units) (DN (rg:=.fz)) (c8 (mP (ae (md:=.bo) 0 rfl rfl rfl (.inl rfl)) (dq (ae (md:=.fz) 1 rfl rfl rfl (.inl rfl))) dj)) (c8 (lJ (af (aF (rg:=.fz)) aB) zp)) rfl)))) (aT (vw (af (ae (md:=.fz) 1 rfl rfl rfl (.inl rfl)) (af (uu (cm ix_list mJ (ae (md:=.bo) 0 rfl rfl rfl (.inl rfl)) (ae (md:=.fz) 1 rfl rfl rfl (.inl rfl)) (fun _ _=>rfl))) (af (aA (rg:=.fz)) aB)))) rfl rfl rfl) (aQ (.keep (.keep (.nil)))) (fun(y5:Unit)=>(ck [.bo,.fz] (fun(y6:Unit)=>[some a__law_words,some y2]) (PW.pt (pj (aO op_ne (DM (rg:=.fz)) (dI call_len_seq (wq (rg:=.fz)) (by rfl) Z.len kN (af (ae (md:=.bo) 0 rfl rfl rfl (.inl rfl)) aB)) (aI op_add (dy (rg:=.fz)) (ae (md:=.fz) 1 rfl rfl rfl (.inl rfl)) (aA (rg:=.fz))) rfl) (pj (aO op_ne (DM (rg:=.fz)) (cm ix_list mJ (ae (md:=.bo) 0 rfl rfl rfl (.inl rfl)) (ae (md:=.fz) 1 rfl rfl rfl (.inl rfl)) (fun _ _=>rfl)) (aF (rg:=.fz)) rfl) (pZ (aO op_isN (DQ (rg:=.fz)) (aW C__law_bound hr (af (cm ix_list mJ (ae (md:=.bo) 0 rfl rfl rfl (.inl rfl)) (aI op_add (dy (rg:=.fz)) (ae (md:=.fz) 1 rfl rfl rfl (.inl rfl)) (aA (rg:=.fz))) (fun _ _=>rfl)) aB)) (kK (rg:=.fz)) rfl))))) (aT (kK (rg:=.fz)) rfl rfl rfl) (aQ (.keep (.keep (.nil)))) (fun(y6:Unit)=>(aT (vw (af (ae (md:=.fz) 1 rfl rfl rfl (.inl rfl)) (af (aF (rg:=.fz)) (af (aW C__law_bound hr (af (cm ix_list mJ (ae (md:=.bo) 0 rfl rfl rfl (.inl rfl)) (aI op_add (dy (rg:=.fz)) (ae (md:=.fz) 1 rfl rfl rfl (.inl rfl)) (aA (rg:=.fz))) (fun _ _=>rfl)) aB)) aB)))) rfl rfl rfl)))))))))) (.inl rfl) jh.nd)
theorem sT (Z:Zs K mg) (C__law_bound:Cal P w K mg base 1 "_law_bound" je jf jg dC) {f:Addr} {fd:FuncData} (F:Fun K "_law_read_term" "_law_read_term" bG f fd):FnOk P w K mg base CX0 (2) f fd dZ (FSp K eh eA cB):=
 dM (n:=1) F jh rfl rfl fun cdv A outer s H vs E hr hv ds fr hd ef=>match vs,hv,ds,hd,ef with| [v0],_,[a__law_words],_,ef=>⟨_,t6 Z C__law_bound hr v0 a__law_words,ef⟩
def lC (y3:D×D) (x5:D):Option (Out (D×D) (D×D)):=
 ifO (orB (b2 D.eqA (some x5) (some (.str "or"))) (b2 D.eqA (some x5) (some (.str "and")))) ((bp cB (aj (some y3.2) (aU))).bind fun d7=>ifO (b2 D.uV (some d7) (some .non)) (cu (some .non) []) (some (.nx ())) fun(y8:Unit)=>(Cf y3.1 (Hb (.ls (.ls .fz)) y3.1 (some []) (b1 D.rR (some (.int 1)))) (some d7) D.app).bind fun d9=>(some (.lst [])).bind fun d10=>ifO (b2 D.eqA (some x5) (some (.str "or"))) ((Cf d9.2 (some []) (some (.lst [])) D.app).bind fun d12=>some (.nx d12.2)) (some (.nx d9.2)) fun(y11:D)=>some (.nx (y11,d10))) ((Cf y3.2 (some []) (some x5) D.app).bind fun d13=>some (.nx (y3.1,d13.2))) fun(y6:D×D)=>some (.nx (y6.1,y6.2))
def kE (a__law_text:D):Option (Out PEmpty PEmpty):=
 (qL (aj (some (.lst [])) (aU))).bind fun d1=>(some (.lst [])).bind fun d2=>tA (wC (b2 D.qj (b2 D.split (some a__law_text) (some (.str " "))) (qL (aj (some (.str "or")) (aU))))) (lC) (d1,d2) fun(y3:D×D)=>cu (px D.dJ (some y3.1) (some none) (b1 D.toI (b1 D.rR (some (.int 1))))) []
def gu:List D->Option FR:=fn1 fun a__law_text=>FO (kE a__law_text)
abbrev uN:List Str:=["_law_text","_law_found","_law_words","_law_word","_law_term_here"]
abbrev kF:List Str:=["_law_text"]
theorem gv:FnScope uN kF (defScope eQ):=⟨rfl,rfl,rfl,by decide+kernel,rfl,by decide+kernel,by decide+kernel⟩
abbrev kH:List PM:=[.bo]
abbrev kI:VM:=.rg .fz
theorem BN (Z:Zs K mg) (C__law_read_term:Cal P w K mg base 2 "_law_read_term" dZ eh eA cB) {f:Addr} {cdv:Value} {A:Around} {outer:List Env} {s:Shared} {H:Hp} {E:XK} (hr:Room 2 (A.deeper (envOfC "_law_read" (defScope eQ) s.heap.objs.size f cdv))) (v0:V) (a__law_text:D):
  Blk (cxT P w K mg base uN "_law_read" (defScope eQ) f cdv A outer s H E) (fnX kI (bw kH [v0]) E) [.bo,.fz,.fz,.fz,.fz] [some a__law_text,none,none,none,none] (defBody eQ) (kE a__law_text):=by
 unfold kE
 exact (aY 1 [.bo,.ow (.ls (.ls .fz)),.fz,.fz,.fz] (fun(d1:D)=>[some a__law_text,some d1,none,none,none]) (MG (Jo (GR (nk (s:=.fz)) Jn))) (fun(d1:D)=>(aY 2 [.bo,.ow (.ls (.ls .fz)),.ow (.ls .fz),.fz,.fz] (fun(d2:D)=>[some a__law_text,some d1,some d2,none,none]) (nk (s:=.fz)) (fun(d2:D)=>(mr [.bo,.ow (.ls (.ls .fz)),.ow (.ls .fz),.fz,.fz] (fun(y3:D×D)=>[some a__law_text,some y3.1,some y3.2,none,none]) [.bo,.ow (.ls (.ls .fz)),.ow (.ls .fz),.fz,.fz] (fun(y3:D×D) (x5:D)=>[some a__law_text,some y3.1,some y3.2,some x5,none]) (jP (c8 (aI op_cat wu (c8 (rY (ae (md:=.bo) 0 rfl rfl rfl (.inl rfl)) (aF (rg:=.fz)))) (c8 (lJ (af (aF (rg:=.fz)) aB) zp))))) cH fQ (pg_name (i:=3) gv.nd rfl (.inl rfl)) (dE _ 3 fQ (Nat.le_of_ble_eq_true rfl)) (.keep (.keep (.keep (.drop (.drop (.nil)))))) (fun(y3:D×D) (x5:D)=>by unfold lC;exact (ck [.bo,.ow (.ls (.ls .fz)),.ow (.ls .fz),.fz,.fz] (fun(y6:D×D)=>[some a__law_text,some y6.1,some y6.2,some x5,none]) (PW.pt (pj (aO op_eq (di (rg:=.fz)) (ae (md:=.fz) 3 rfl rfl rfl (.inl rfl)) (aF (rg:=.fz)) rfl) (pZ (aO op_eq (di (rg:=.fz)) (ae (md:=.fz) 3 rfl rfl rfl (.inl rfl)) (aF (rg:=.fz)) rfl)))) (aY 4 [.bo,.ow (.ls (.ls .fz)),.ow (.ls .fz),.fz,.fz] (fun(d7:D)=>[some a__law_text,some y3.1,some y3.2,some x5,some d7]) (aW C__law_read_term hr (af (ae (md:=.ow (.ls .fz)) 2 rfl rfl rfl (.inl rfl)) aB)) (fun(d7:D)=>(ck [.bo,.ow (.ls (.ls .fz)),.ow (.ls .fz),.fz,.fz] (fun(y8:Unit)=>[some a__law_text,some y3.1,some y3.2,some x5,some d7]) (aO op_isN (DQ (rg:=.fz)) (ae (md:=.fz) 4 rfl rfl rfl (.inl rfl)) (kK (rg:=.fz)) rfl) (aT (kK (rg:=.fz)) rfl rfl rfl) (aQ (.keep (.keep (.keep (.keep (.keep (.nil))))))) (fun(y8:Unit)=>(rX 1 (fun(d9:D×D)=>[some a__law_text,some d9.2,some y3.2,some x5,some d7]) (vu (mM rfl rfl rfl (MJ rfl rfl rfl (pq 1 rfl rfl rfl rfl (.inl rfl)) (uv rfl) (KS un_neg (Gk (rg:=.fz)) (aA (rg:=.fz))) (fun _ _=>rfl)) (Ow (uv rfl)) (ae (md:=.fz) 4 rfl rfl rfl (.inl rfl)) rfl)) (fun(d9:D×D)=>(aY 2 [.bo,.ow (.ls (.ls .fz)),.ow (.ls .fz),.fz,.fz] (fun(d10:D)=>[some a__law_text,some d9.2,some d10,some x5,some d7]) (nk (s:=.fz)) (fun(d10:D)=>(ck [.bo,.ow (.ls (.ls .fz)),.ow (.ls .fz),.fz,.fz] (fun(y11:D)=>[some a__law_text,some y11,some d10,some x5,some d7]) (aO op_eq (di (rg:=.fz)) (ae (md:=.fz) 3 rfl rfl rfl (.inl rfl)) (aF (rg:=.fz)) rfl) (rX 1 (fun(d12:D×D)=>[some a__law_text,some d12.2,some d10,some x5,some d7]) (vu (mM rfl rfl rfl (pq 1 rfl rfl rfl rfl (.inl rfl)) (uv rfl) (nk (s:=.fz)) rfl)) (fun(d12:D×D)=>(aQ (.keep (.keep (.keep (.keep (.keep (.nil))))))))) (aQ (.keep (.keep (.keep (.keep (.keep (.nil))))))) (fun(y11:D)=>(aQ (.keep (.keep (.keep (.keep (.drop (.nil)))))))))) (.inl rfl) gv.nd)))))) (.inl rfl) gv.nd) (rX 2 (fun(d13:D×D)=>[some a__law_text,some y3.1,some d13.2,some x5,none]) (vu (mM rfl rfl rfl (pq 2 rfl rfl rfl rfl (.inl rfl)) (uv rfl) (ae (md:=.fz) 3 rfl rfl rfl (.inl rfl)) rfl)) (fun(d13:D×D)=>(aQ (.keep (.keep (.keep (.keep (.drop (.nil))))))))) (fun(y6:D×D)=>(aQ (.keep (.keep (.keep (.drop (.drop (.nil)))))))))) (fun(y3:D×D)=>(tD 1 [.bo,.fz,.ow (.ls .fz),.fz,.fz] (aT (c8 (IX (ae (md:=.fz) 1 rfl rfl rfl (.inl rfl)) dj (dq (KS un_neg (Gk (rg:=.fz)) (aA (rg:=.fz)))))) rfl rfl rfl))))) (.inl rfl) gv.nd)) (.inl rfl) gv.nd)
theorem Ao (Z:Zs K mg) (C__law_read_term:Cal P w K mg base 2 "_law_read_term" dZ eh eA cB) {f:Addr} {fd:FuncData} (F:Fun K "_law_read" "_law_read" eQ f fd):FnOk P w K mg base CX0 (3) f fd kF (FSp K kH kI gu):=
 dM (n:=4) F gv rfl rfl fun cdv A outer s H vs E hr hv ds fr hd ef=>match vs,hv,ds,hd,ef with| [v0],_,[a__law_text],_,ef=>⟨_,BN Z C__law_read_term hr v0 a__law_text,ef⟩
def FC:Nat->List D->Option FR
 |0=>fun _=>none
 |n+1=>fcD [("by_groups",iT),("by_marks",jY)] [(bJ,fZ (FC n)),(bu,gb (FC n)),(bV,g7 (FC n)),(bL,gh (FC n))]
def Ap (k__law_script:D) (k__law_due:D) (k__law_rule:D) (y9:Unit) (x11:D):Option (Out (Unit) (Unit)):=
 (bp eY (aj (bp cj (aj (some k__law_script) (aj (some (.int 3)) (aU)))) (aj (b2 D.ju (some (.int 2)) (some x11)) (aU)))).bind fun d12=>(bp eY (aj (bp cj (aj (some k__law_script) (aj (some (.int 3)) (aU)))) (aj (b2 D.bP (b2 D.ju (some (.int 2)) (some x11)) (some (.int 1))) (aU)))).bind fun d13=>ifO (b2 D.neA (bp (FC 12) (aj (some k__law_rule) (aj (some d12) (aj (some d13) (aU))))) (bp gq (aj (some k__law_due) (aj (some d12) (aj (some d13) (aU)))))) (cu (some (.bl false)) []) (some (.nx ())) fun(y14:Unit)=>some (.nx ())
def BO (a__law_script:D):Option (Out PEmpty PEmpty):=
 (bp cA (aj (bp bM (aj (bp cj (aj (some a__law_script) (aj (some (.int 0)) (aU)))) (aU))) (aU))).bind fun d1=>(bp dX (aj (some d1) (aj (bp cj (aj (some a__law_script) (aj (some (.int 1)) (aU)))) (aj (bp cj (aj (some a__law_script) (aj (some (.int 2)) (aU)))) (aU))))).bind fun d2=>(bp gu (aj (some d2) (aU))).bind fun d3=>(some .non).bind fun d4=>(some .non).bind fun d5=>Ms (setB jC (aj (some d2) (aU)) fun r_=>(r_,d5)) "NoRow" (fun x_=>tupO (aj (Mu "NoRow" "row" x_) (aj (isX "NoRow" true x_) (aj (isX "NoRow" true x_) (aj (isX "NoRow" false x_) (aU)))))) (fun d_=>(d4,d_)) fun(y6:D×D)=>ifO (b2 D.uV (some d3) (some .non)) (cu (b2 (blD D.eqD) (some y6.2) (tupO (aj (some d2) (aj (some (.bl true)) (aj (some (.bl true)) (aj (some (.bl false)) (aU))))))) []) (some (.nx ())) fun(y7:Unit)=>ifO (orB (b2 D.DP (some y6.2) (some .non)) (b2 D.uV (some y6.1) (some .non))) (cu (some (.bl false)) []) (some (.nx ())) fun(y8:Unit)=>tA (b1 D.qk (aj (some (.int 6)) (aU))) (Ap a__law_script d3 y6.1) () fun(y9:Unit)=>cu (some (.bl true)) []
def Dk:List D->Option FR:=fn1 fun a__law_script=>FO (BO a__law_script)
abbrev Lg:List Str:=["_law_script","_law_text","_law_due","_law_rule","_law_told","_law_k","_law_giver","_law_taker","e"]
abbrev Lh:List Str:=["_law_script"]
theorem lS:FnScope Lg Lh (defScope uh):=⟨rfl,rfl,rfl,by decide+kernel,rfl,by decide+kernel,by decide+kernel⟩
abbrev Li:List PM:=[.bo]
abbrev Lj:VM:=.rg .fz
theorem O8 (Z:Zs K mg) (C__law_cell:Cal P w K mg base 1 "_law_cell" j5 j6 j7 cj) (C__law_alternatives:Cal P w K mg base 2 "_law_alternatives" cM cN cO bM) (C__law_rule_text:Cal P w K mg base 2 "_law_rule_text" dS dU dW cA) (C__law_spoilt:Cal P w K mg base 2 "_law_spoilt" gR gT gU dX) (C__law_read:Cal P w K mg base 3 "_law_read" kF kH kI gu) (C_rule_of:Jf P w K mg base 6 "rule_of" m8 m9 nh jC) (C__law_side:Cal P w K mg base 2 "_law_side" j9 ka ke eY) (C_val:sj P w K mg base 13 (FC 12)) (C__law_lets:Cal P w K mg base 2 "_law_lets" kq kr ku gq) (Xf_NoRow:Cm K "NoRow" "row" "SwapError") (Xg_NoRow:mg "NoRow" =some (.ref (He.ga K "NoRow"))) {f:Addr} {cdv:Value} {A:Around} {outer:List Env} {s:Shared} {H:Hp} {E:XK} (hr:Room 13 (A.deeper (envOfC "law" (defScope uh) s.heap.objs.size f cdv))) (v0:V) (a__law_script:D):
  Blk (cxT P w K mg base Lg "law" (defScope uh) f cdv A outer s H E) (fnX Lj (bw Li [v0]) E) [.bo,.fz,.fz,.fz,.fz,.fz,.fz,.fz,.fz] [some a__law_script,none,none,none,none,none,none,none,none] (defBody uh) (BO a__law_script):=by
 unfold BO
 exact (aY 1 [.bo,.fz,.fz,.fz,.fz,.fz,.fz,.fz,.fz] (fun(d1:D)=>[some a__law_script,some d1,none,none,none,none,none,none,none]) (aW C__law_rule_text hr (af (aW C__law_alternatives hr (af (aW C__law_cell hr (af (ae (md:=.bo) 0 rfl rfl rfl (.inl rfl)) (af (aA (rg:=.fz)) aB))) aB)) aB)) (fun(d1:D)=>(aY 1 [.bo,.fz,.fz,.fz,.fz,.fz,.fz,.fz,.fz] (fun(d2:D)=>[some a__law_script,some d2,none,none,none,none,none,none,none]) (aW C__law_spoilt hr (af (ae (md:=.fz) 1 rfl rfl rfl (.inl rfl)) (af (aW C__law_cell hr (af (ae (md:=.bo) 0 rfl rfl rfl (.inl rfl)) (af (aA (rg:=.fz)) aB))) (af (aW C__law_cell hr (af (ae (md:=.bo) 0 rfl rfl rfl (.inl rfl)) (af (aA (rg:=.fz)) aB))) aB)))) (fun(d2:D)=>(aY 2 [.bo,.fz,.fz,.fz,.fz,.fz,.fz,.fz,.fz] (fun(d3:D)=>[some a__law_script,some d2,some d3,none,none,none,none,none,none]) (aW C__law_read hr (af (ae (md:=.fz) 1 rfl rfl rfl (.inl rfl)) aB)) (fun(d3:D)=>(aY 3 [.bo,.fz,.fz,.fz,.fz,.fz,.fz,.fz,.fz] (fun(d4:D)=>[some a__law_script,some d2,some d3,some d4,none,none,none,none,none]) (kK (rg:=.fz)) (fun(d4:D)=>(aY 4 [.bo,.fz,.fz,.fz,.fz,.fz,.fz,.fz,.fz] (fun(d5:D)=>[some a__law_script,some d2,some d3,some d4,some d5,none,none,none,none]) (kK (rg:=.fz)) (fun(d5:D)=>(Jh 8 4 (el:=fun(y6:D×D)=>[some a__law_script,some d2,some d3,some y6.1,some y6.2,none,none,none,none]) (gx:=fun d_=>(d4,d_)) rfl rfl lS.nd rfl rfl ⟨rfl,by decide,.inl Xg_NoRow⟩ Xf_NoRow.tr rfl (.inl rfl) (.inr rfl) rfl rfl (Nat.le_of_ble_eq_true rfl) (by decide) rfl (fun W_ pn_ xe_ tk_ po_=>(Jm (fun r_=>(r_,d5)) 3 C_rule_of hr tk_ (af (ae (md:=.fz) 1 rfl rfl rfl (.inl rfl)) aB) rfl (Nat.le_of_ble_eq_true rfl) lS.nd rfl (.inl rfl) rfl (fun _=>rfl))) (fun a_ oe_ cls_ d_ pn_ x_ z_ fl_=>(Jl (rZ (Mr (i:=8) Xf_NoRow.xf Xf_NoRow.no z_ fl_ rfl rfl rfl (.inl rfl)) (rZ (GQ (i:=8) Z.x_NoRow (List.mem_of_getElem? (i:=0) rfl) z_ fl_ rfl Z.isinstance rfl Z.g_SwapError rfl rfl rfl (.inl rfl)) (rZ (Mw (i:=8) Z.x_NoRow (List.mem_of_getElem? (i:=0) rfl) z_ fl_ rfl Z.isinstance rfl Z.ValueError (by decide+kernel) rfl rfl rfl (.inl rfl)) (rZ (GQ (i:=8) Z.x_NoRow (List.mem_of_getElem? (i:=1) rfl) z_ fl_ rfl Z.isinstance rfl Z.g_NoCouple rfl rfl rfl (.inl rfl)) Jg)))))) (fun(y6:D×D)=>(ck [.bo,.fz,.fz,.fz,.fz,.fz,.fz,.fz,.fz] (fun(y7:Unit)=>[some a__law_script,some d2,some d3,some y6.1,some y6.2,none,none,none,none]) (aO op_isN (DQ (rg:=.fz)) (ae (md:=.fz) 2 rfl rfl rfl (.inl rfl)) (kK (rg:=.fz)) rfl) (aT (mn (op_eqD hr.units) (DN (rg:=.fz)) (ae (md:=.fz) 4 rfl rfl rfl (.inl rfl)) (Jc (af (ae (md:=.fz) 1 rfl rfl rfl (.inl rfl)) (af (kX (rg:=.fz)) (af (kX (rg:=.fz)) (af (kX (rg:=.fz)) aB))))) rfl) rfl rfl rfl) (aQ (.keep (.keep (.keep (.keep (.keep (.drop (.drop (.drop (.drop (.nil))))))))))) (fun(y7:Unit)=>(ck [.bo,.fz,.fz,.fz,.fz,.fz,.fz,.fz,.fz] (fun(y8:Unit)=>[some a__law_script,some d2,some d3,some y6.1,some y6.2,none,none,none,none]) (PW.pt (pj (aO op_notN (LP (rg:=.fz)) (ae (md:=.fz) 4 rfl rfl rfl (.inl rfl)) (kK (rg:=.fz)) rfl) (pZ (aO op_isN (DQ (rg:=.fz)) (ae (md:=.fz) 3 rfl rfl rfl (.inl rfl)) (kK (rg:=.fz)) rfl)))) (aT (kX (rg:=.fz)) rfl rfl rfl) (aQ (.keep (.keep (.keep (.keep (.keep (.drop (.drop (.drop (.drop (.nil))))))))))) (fun(y8:Unit)=>(mr [.bo,.fz,.fz,.fz,.fz,.fz,.fz,.fz,.fz] (fun(y9:Unit)=>[some a__law_script,some d2,some d3,some y6.1,some y6.2,none,none,none,none]) [.bo,.fz,.fz,.fz,.fz,.fz,.fz,.fz,.fz] (fun(y9:Unit) (x11:D)=>[some a__law_script,some d2,some d3,some y6.1,some y6.2,some x11,none,none,none]) (rV rfl Z.range (af (aA (rg:=.fz)) aB)) cH fQ (pg_name (i:=5) lS.nd rfl (.inl rfl)) (dE _ 5 fQ (Nat.le_of_ble_eq_true rfl)) (.keep (.keep (.keep (.keep (.keep (.drop (.drop (.drop (.drop (.nil)))))))))) (fun(y9:Unit) (x11:D)=>by unfold Ap;exact (aY 6 [.bo,.fz,.fz,.fz,.fz,.fz,.fz,.fz,.fz] (fun(d12:D)=>[some a__law_script,some d2,some d3,some y6.1,some y6.2,some x11,some d12,none,none]) (aW C__law_side hr (af (aW C__law_cell hr (af (ae (md:=.bo) 0 rfl rfl rfl (.inl rfl)) (af (aA (rg:=.fz)) aB))) (af (aI op_mul (qK (rg:=.fz)) (aA (rg:=.fz)) (ae (md:=.fz) 5 rfl rfl rfl (.inl rfl))) aB))) (fun(d12:D)=>(aY 7 [.bo,.fz,.fz,.fz,.fz,.fz,.fz,.fz,.fz] (fun(d13:D)=>[some a__law_script,some d2,some d3,some y6.1,some y6.2,some x11,some d12,some d13,none]) (aW C__law_side hr (af (aW C__law_cell hr (af (ae (md:=.bo) 0 rfl rfl rfl (.inl rfl)) (af (aA (rg:=.fz)) aB))) (af (aI op_add (dy (rg:=.fz)) (aI op_mul (qK (rg:=.fz)) (aA (rg:=.fz)) (ae (md:=.fz) 5 rfl rfl rfl (.inl rfl))) (aA (rg:=.fz))) aB))) (fun(d13:D)=>(ck [.bo,.fz,.fz,.fz,.fz,.fz,.fz,.fz,.fz] (fun(y14:Unit)=>[some a__law_script,some d2,some d3,some y6.1,some y6.2,some x11,some d12,some d13,none]) (aO op_ne (DM (rg:=.fz)) (zv 3 C_val hr rfl rfl rfl (.inl rfl) (af (ae (md:=.fz) 6 rfl rfl rfl (.inl rfl)) (af (ae (md:=.fz) 7 rfl rfl rfl (.inl rfl)) aB))) (aW C__law_lets hr (af (ae (md:=.fz) 2 rfl rfl rfl (.inl rfl)) (af (ae (md:=.fz) 6 rfl rfl rfl (.inl rfl)) (af (ae (md:=.fz) 7 rfl rfl rfl (.inl rfl)) aB)))) rfl) (aT (kX (rg:=.fz)) rfl rfl rfl) (aQ (.keep (.keep (.keep (.keep (.keep (.keep (.keep (.keep (.drop (.nil))))))))))) (fun(y14:Unit)=>(aQ (.keep (.keep (.keep (.keep (.keep (.drop (.drop (.drop (.drop (.nil)))))))))))))) (.inl rfl) lS.nd)) (.inl rfl) lS.nd)) (fun(y9:Unit)=>(aT (kX (rg:=.fz)) rfl rfl rfl)))))))) rfl (fun _=>rfl))) (.inl rfl) lS.nd)) (.inl rfl) lS.nd)) (.inl rfl) lS.nd)) (.inl rfl) lS.nd)) (.inl rfl) lS.nd)
theorem Nu (Z:Zs K mg) (C__law_cell:Cal P w K mg base 1 "_law_cell" j5 j6 j7 cj) (C__law_alternatives:Cal P w K mg base 2 "_law_alternatives" cM cN cO bM) (C__law_rule_text:Cal P w K mg base 2 "_law_rule_text" dS dU dW cA) (C__law_spoilt:Cal P w K mg base 2 "_law_spoilt" gR gT gU dX) (C__law_read:Cal P w K mg base 3 "_law_read" kF kH kI gu) (C_rule_of:Jf P w K mg base 6 "rule_of" m8 m9 nh jC) (C__law_side:Cal P w K mg base 2 "_law_side" j9 ka ke eY) (C_val:sj P w K mg base 13 (FC 12)) (C__law_lets:Cal P w K mg base 2 "_law_lets" kq kr ku gq) (Xf_NoRow:Cm K "NoRow" "row" "SwapError") (Xg_NoRow:mg "NoRow" =some (.ref (He.ga K "NoRow"))) {f:Addr} {fd:FuncData} (F:Fun K "law" "law" uh f fd):FnOk P w K mg base CX0 (14) f fd Lh (FSp K Li Lj Dk):=
 dM (n:=8) F lS rfl rfl fun cdv A outer s H vs E hr hv ds fr hd ef=>match vs,hv,ds,hd,ef with| [v0],_,[a__law_script],_,ef=>⟨_,O8 Z C__law_cell C__law_alternatives C__law_rule_text C__law_spoilt C__law_read C_rule_of C__law_side C_val C__law_lets Xf_NoRow Xg_NoRow hr v0 a__law_script,ef⟩
end
noncomputable def gV (k_text:Str) (y3:Unit) (x5:Str):Option (TO (Unit) (Unit) (R0 Int)):=
 c9 (b2 (T.ql true) (some x5) (some ("0123456789" :Str))) ((some k_text).bind fun d7=>some (.exc ⟨"NoRow",[("row",en d7)]⟩)) (some (.nx ())) fun(y6:Unit)=>some (.nx ())
theorem yi (k_text:Str) (y3:Unit) (x5:Str):TyS (lq (en k_text) (es y3) (es x5)) (gV k_text y3 x5):=by
 unfold lq gV
 exact (bq (aq (zL true) (au x5) (aa rfl)) (wW (uy (au k_text))) (aZ rfl) (fun(y6:Unit)=>(aZ rfl)))
noncomputable def cW (a_text:Str):Option (Xn ⊕ Int):=
 tX0 (c9 (orB (o8 (Bg T.leI T.leI (some (1:Int)) (b1 T.o7 (some a_text)) (some (12:Int)))) (lL (b2 T.gtI (b1 T.o7 (some a_text)) (some (1:Int))) (b2 T.eqA (b2 T.atS (some a_text) (some (0:Int))) (some ("0" :Str))))) ((some a_text).bind fun d2=>some (.exc ⟨"NoRow",[("row",en d2)]⟩)) (some (.nx ())) fun(y1:Unit)=>oO (b1 T.tv (some a_text)) (gV a_text) () fun(y3:Unit)=>b8 (b1 T.qm (some a_text)) (fun r=>⟨r⟩))
theorem sU (a_text:Str):FoX (eX [en a_text]) (cW a_text):=by
 unfold cW
 refine foX (m:=jT (en a_text)) ?_
 unfold jT
 exact (bq (pD (vC (CC qR qR (aa rfl) (jQ qa (au a_text)) (aa rfl))) (vD (aq zD (jQ qa (au a_text)) (aa rfl)) (aq bY (aq wO (au a_text) (aa rfl)) (aa rfl)))) (wW (uy (au a_text))) (aZ rfl) (fun(y1:Unit)=>(jG (iC vH (au a_text)) (fun b x=>yi a_text b x) rfl (fun(y3:Unit)=>(aJ (jQ zM (au a_text)) (fun _=>rfl))))))
noncomputable def mj (a_giver:(T3 Str Int Str)) (a_taker:(T3 Str Int Str)):Option (Bool):=
 tF0 (b8 (orB (b2 T.eqA ((some a_giver).map T3.a) (some ("O" :Str))) (orB (b2 T.eqA ((some a_taker).map T3.a) (some ("AB" :Str))) (b2 T.eqA ((some a_giver).map T3.a) ((some a_taker).map T3.a)))) (fun r=>⟨r⟩))
theorem BP (a_giver:(T3 Str Int Str)) (a_taker:(T3 Str Int Str)):Fo0 (iT [en a_giver,en a_taker]) (mj a_giver a_taker):=by
 unfold mj
 refine fo0 (m:=jX (en a_giver) (en a_taker)) ?_
 unfold jX
 exact (aJ (Ho (aq (mv bY) (k6 (au a_giver) (fun _=>rfl)) (aa rfl)) (Ho (aq (mv bY) (k6 (au a_taker) (fun _=>rfl)) (aa rfl)) (aq (mv bY) (k6 (au a_giver) (fun _=>rfl)) (k6 (au a_taker) (fun _=>rfl))))) (fun _=>rfl))
noncomputable def ji (k_taker:(T3 Str Int Str)) (y1:Unit) (x3:Str):Option (TO (Unit) (Unit) (R0 Bool)):=
 c9 (b2 (T.ql false) (some x3) ((some k_taker).map T3.c)) (b8 (some false) (fun r=>⟨r⟩)) (some (.nx ())) fun(y4:Unit)=>some (.nx ())
theorem Aq (k_taker:(T3 Str Int Str)) (y1:Unit) (x3:Str):TyS (mh (en k_taker) (es y1) (es x3)) (ji k_taker y1 x3):=by
 unfold mh ji
 exact (bq (aq (zL false) (au x3) (k6 (au k_taker) (fun _=>rfl))) (aJ (aa rfl) (fun _=>rfl)) (aZ rfl) (fun(y4:Unit)=>(aZ rfl)))
noncomputable def oF (a_giver:(T3 Str Int Str)) (a_taker:(T3 Str Int Str)):Option (Bool):=
 tF0 (oO (b1 T.tv ((some a_giver).map T3.c)) (ji a_taker) () fun(y1:Unit)=>b8 (some true) (fun r=>⟨r⟩))
theorem Dq (a_giver:(T3 Str Int Str)) (a_taker:(T3 Str Int Str)):Fo0 (jY [en a_giver,en a_taker]) (oF a_giver a_taker):=by
 unfold oF
 refine fo0 (m:=lP (en a_giver) (en a_taker)) ?_
 unfold lP
 exact (jG (iC vH (k6 (au a_giver) (fun _=>rfl))) (fun b x=>Aq a_taker b x) rfl (fun(y1:Unit)=>(aJ (aa rfl) (fun _=>rfl))))
noncomputable def BQ (a_giver:(T3 Str Int Str)) (a_taker:(T3 Str Int Str)):Option (Int):=
 tF0 (b8 (b1 T.E8 (b2 T.rP ((some a_giver).map T3.b) ((some a_taker).map T3.b))) (fun r=>⟨r⟩))
theorem O9 (a_giver:(T3 Str Int Str)) (a_taker:(T3 Str Int Str)):Fo0 (tP [en a_giver,en a_taker]) (BQ a_giver a_taker):=by
 unfold BQ
 refine fo0 (m:=Bx (en a_giver) (en a_taker)) ?_
 unfold Bx
 exact (aJ (jQ J6 (aq vE (k6 (au a_giver) (fun _=>rfl)) (k6 (au a_taker) (fun _=>rfl)))) (fun _=>rfl))
noncomputable def kR (R_:Fv->(T3 Str Int Str)->(T3 Str Int Str)->Option Bool) (a_giver:(T3 Str Int Str)) (a_taker:(T3 Str Int Str)) (a_bound:Int):Option (Bool):=
 tF0 (b8 (b2 T.leI (b2 BQ (some a_giver) (some a_taker)) (some a_bound)) (fun r=>⟨r⟩))
theorem vg {RD_:List D->Option FR} {R_:Fv->(T3 Str Int Str)->(T3 Str Int Str)->Option Bool} (HR_: ∀(z0_:Fv) (z1_:(T3 Str Int Str)) (z2_:(T3 Str Int Str)),Fo0 (RD_ [en z0_,en z1_,en z2_]) (R_ z0_ z1_ z2_)) (a_giver:(T3 Str Int Str)) (a_taker:(T3 Str Int Str)) (a_bound:Int):Fo0 (fZ RD_ [en a_giver,en a_taker,en a_bound]) (kR R_ a_giver a_taker a_bound):=by
 unfold kR
 refine fo0 (m:=fq RD_ (en a_giver) (en a_taker) (en a_bound)) ?_
 unfold fq
 exact (aJ (aq (mv qR) (gX O9 (au a_giver) (au a_taker)) (au a_bound)) (fun _=>rfl))
noncomputable def ri (a_bound:Int):Option Fv:=some ⟨.clo bJ (en a_bound)⟩
theorem Dr (a_bound:Int):Fo0 (iE [en a_bound]) (ri a_bound):=fun r e=>by cases e;rfl
noncomputable def kS (R_:Fv->(T3 Str Int Str)->(T3 Str Int Str)->Option Bool) (a_giver:(T3 Str Int Str)) (a_taker:(T3 Str Int Str)) (a_rule:Fv):Option (Bool):=
 tF0 (b8 (o8 (b3 R_ (some a_rule) (some a_giver) (some a_taker))) (fun r=>⟨r⟩))
theorem vh {RD_:List D->Option FR} {R_:Fv->(T3 Str Int Str)->(T3 Str Int Str)->Option Bool} (HR_: ∀(z0_:Fv) (z1_:(T3 Str Int Str)) (z2_:(T3 Str Int Str)),Fo0 (RD_ [en z0_,en z1_,en z2_]) (R_ z0_ z1_ z2_)) (a_giver:(T3 Str Int Str)) (a_taker:(T3 Str Int Str)) (a_rule:Fv):Fo0 (gb RD_ [en a_giver,en a_taker,en a_rule]) (kS R_ a_giver a_taker a_rule):=by
 unfold kS
 refine fo0 (m:=ft RD_ (en a_giver) (en a_taker) (en a_rule)) ?_
 unfold ft
 exact (aJ (JR (p9 HR_ (au a_rule) (au a_giver) (au a_taker))) (fun _=>rfl))
noncomputable def rj (a_rule:Fv):Option Fv:=some ⟨.clo bu (en a_rule)⟩
theorem Dt (a_rule:Fv):Fo0 (iF [en a_rule]) (rj a_rule):=fun r e=>by cases e;rfl
noncomputable def gz (R_:Fv->(T3 Str Int Str)->(T3 Str Int Str)->Option Bool) (k_giver:(T3 Str Int Str)) (k_taker:(T3 Str Int Str)) (y1:Unit) (x3:Fv):Option (TO (Unit) (Unit) (R0 Bool)):=
 c9 (o8 (b3 R_ (some x3) (some k_giver) (some k_taker))) (b8 (some false) (fun r=>⟨r⟩)) (some (.nx ())) fun(y4:Unit)=>some (.nx ())
theorem t7 {RD_:List D->Option FR} {R_:Fv->(T3 Str Int Str)->(T3 Str Int Str)->Option Bool} (HR_: ∀(z0_:Fv) (z1_:(T3 Str Int Str)) (z2_:(T3 Str Int Str)),Fo0 (RD_ [en z0_,en z1_,en z2_]) (R_ z0_ z1_ z2_)) (k_giver:(T3 Str Int Str)) (k_taker:(T3 Str Int Str)) (y1:Unit) (x3:Fv):TyS (g6 RD_ (en k_giver) (en k_taker) (es y1) (es x3)) (gz R_ k_giver k_taker y1 x3):=by
 unfold g6 gz
 exact (bq (vC (wN (p9 HR_ (au x3) (au k_giver) (au k_taker)))) (aJ (aa rfl) (fun _=>rfl)) (aZ rfl) (fun(y4:Unit)=>(aZ rfl)))
noncomputable def lT (R_:Fv->(T3 Str Int Str)->(T3 Str Int Str)->Option Bool) (a_giver:(T3 Str Int Str)) (a_taker:(T3 Str Int Str)) (a_rules:(List Fv)):Option (Bool):=
 tF0 (oO (some a_rules) (gz R_ a_giver a_taker) () fun(y1:Unit)=>b8 (some true) (fun r=>⟨r⟩))
theorem xN {RD_:List D->Option FR} {R_:Fv->(T3 Str Int Str)->(T3 Str Int Str)->Option Bool} (HR_: ∀(z0_:Fv) (z1_:(T3 Str Int Str)) (z2_:(T3 Str Int Str)),Fo0 (RD_ [en z0_,en z1_,en z2_]) (R_ z0_ z1_ z2_)) (a_giver:(T3 Str Int Str)) (a_taker:(T3 Str Int Str)) (a_rules:(List Fv)):Fo0 (g7 RD_ [en a_giver,en a_taker,en a_rules]) (lT R_ a_giver a_taker a_rules):=by
 unfold lT
 refine fo0 (m:=fU RD_ (en a_giver) (en a_taker) (en a_rules)) ?_
 unfold fU
 exact (jG (l7 (au a_rules)) (fun b x=>t7 HR_ a_giver a_taker b x) rfl (fun(y1:Unit)=>(aJ (aa rfl) (fun _=>rfl))))
noncomputable def t8 (a_rules:(List Fv)):Option Fv:=some ⟨.clo bV (en a_rules)⟩
theorem FP (a_rules:(List Fv)):Fo0 (jB [en a_rules]) (t8 a_rules):=fun r e=>by cases e;rfl
noncomputable def fN (R_:Fv->(T3 Str Int Str)->(T3 Str Int Str)->Option Bool) (k_giver:(T3 Str Int Str)) (k_taker:(T3 Str Int Str)) (y1:Unit) (x3:Fv):Option (TO (Unit) (Unit) (R0 Bool)):=
 c9 (b3 R_ (some x3) (some k_giver) (some k_taker)) (b8 (some true) (fun r=>⟨r⟩)) (some (.nx ())) fun(y4:Unit)=>some (.nx ())
theorem sV {RD_:List D->Option FR} {R_:Fv->(T3 Str Int Str)->(T3 Str Int Str)->Option Bool} (HR_: ∀(z0_:Fv) (z1_:(T3 Str Int Str)) (z2_:(T3 Str Int Str)),Fo0 (RD_ [en z0_,en z1_,en z2_]) (R_ z0_ z1_ z2_)) (k_giver:(T3 Str Int Str)) (k_taker:(T3 Str Int Str)) (y1:Unit) (x3:Fv):TyS (gc RD_ (en k_giver) (en k_taker) (es y1) (es x3)) (fN R_ k_giver k_taker y1 x3):=by
 unfold gc fN
 exact (bq (wN (p9 HR_ (au x3) (au k_giver) (au k_taker))) (aJ (aa rfl) (fun _=>rfl)) (aZ rfl) (fun(y4:Unit)=>(aZ rfl)))
noncomputable def kT (R_:Fv->(T3 Str Int Str)->(T3 Str Int Str)->Option Bool) (a_giver:(T3 Str Int Str)) (a_taker:(T3 Str Int Str)) (a_rules:(List Fv)):Option (Bool):=
 tF0 (oO (some a_rules) (fN R_ a_giver a_taker) () fun(y1:Unit)=>b8 (some false) (fun r=>⟨r⟩))
theorem vi {RD_:List D->Option FR} {R_:Fv->(T3 Str Int Str)->(T3 Str Int Str)->Option Bool} (HR_: ∀(z0_:Fv) (z1_:(T3 Str Int Str)) (z2_:(T3 Str Int Str)),Fo0 (RD_ [en z0_,en z1_,en z2_]) (R_ z0_ z1_ z2_)) (a_giver:(T3 Str Int Str)) (a_taker:(T3 Str Int Str)) (a_rules:(List Fv)):Fo0 (gh RD_ [en a_giver,en a_taker,en a_rules]) (kT R_ a_giver a_taker a_rules):=by
 unfold kT
 refine fo0 (m:=fu RD_ (en a_giver) (en a_taker) (en a_rules)) ?_
 unfold fu
 exact (jG (l7 (au a_rules)) (fun b x=>sV HR_ a_giver a_taker b x) rfl (fun(y1:Unit)=>(aJ (aa rfl) (fun _=>rfl))))
noncomputable def rq (a_rules:(List Fv)):Option Fv:=some ⟨.clo bL (en a_rules)⟩
theorem Du (a_rules:(List Fv)):Fo0 (iG [en a_rules]) (rq a_rules):=fun r e=>by cases e;rfl
noncomputable def bS (a_text:Str):Option (Xn ⊕ Fv):=
 tX0 (c9 (b2 T.eqA (some a_text) (some ("groups" :Str))) (b8 (some (⟨.glf "by_groups"⟩:Fv)) (fun r=>⟨r⟩)) (some (.nx ())) fun(y1:Unit)=>c9 (b2 T.eqA (some a_text) (some ("marks" :Str))) (b8 (some (⟨.glf "by_marks"⟩:Fv)) (fun r=>⟨r⟩)) (some (.nx ())) fun(y2:Unit)=>(b1 T.un3 (b2 T.part (some a_text) (some (" " :Str)))).bind fun d3=>Kj (orX (b2 T.neA (some d3.1) (some ("sizes" :Str))) (bX (b1 cW (some d3.2.2)) fun d4=>b2 T.gtI (some d4) (some (98:Int)))) ((some a_text).bind fun d6=>some (.exc ⟨"NoRow",[("row",en d6)]⟩)) (some (.nx ())) fun(y5:Unit)=>zN (bX (b1 cW (some d3.2.2)) fun d8=>b1 ri (some d8)) fun d7=>some (.ret ⟨d7⟩))
theorem xO (a_text:Str):FoX (ie [en a_text]) (bS a_text):=by
 unfold bS
 refine foX (m:=mY (en a_text)) ?_
 unfold mY
 exact (bq (aq bY (au a_text) (aa rfl)) (aJ (aa rfl) (fun _=>rfl)) (aZ rfl) (fun(y1:Unit)=>(bq (aq bY (au a_text) (aa rfl)) (aJ (aa rfl) (fun _=>rfl)) (aZ rfl) (fun(y2:Unit)=>(av (Hz (aq J3 (au a_text) (aa rfl))) (fun d3=>(Nb (Na (aq Cy (au d3.1) (aa rfl)) (Bj (pG (Fp sU (au d3.2.2))) (fun d4=>aq zD (au d4) (aa rfl)))) (wW (uy (au a_text))) (aZ rfl) (fun(y5:Unit)=>(CL (Bj (pG (Fp sU (au d3.2.2))) (fun d8=>dF Dr (au d8))) (fun d7=>(zB rfl)))))))))))
noncomputable def fV (y2:Str×Int):Option (TO (Str×Int) (Str×Int) (R0 Fv)):=
 (o9 T.cutS (some y2.1) (b1 T.toI (some (3:Int))) (some none)).bind fun d3=>(b2 T.bP (some y2.2) (some (1:Int))).bind fun d4=>some (.nx (d3,d4))
theorem xP (y2:Str×Int):TyS (jJ (es y2)) (fV y2):=by
 unfold jJ fV
 exact (av (iP Cz (au y2.1) (iC iQ (aa rfl)) l6) (fun d3=>(av (aq bZ (au y2.2) (aa rfl)) (fun d4=>(aZ rfl)))))
noncomputable def aV (a_text:Str):Option (Xn ⊕ Fv):=
 tX0 ((some (0:Int)).bind fun d1=>Hx (fun(y2:Str×Int)=>lL (b2 T.ltI (some y2.2) (some (5:Int))) (b2 T.starts (some y2.1) (some ("no " :Str)))) (fV) (a_text,d1) fun(y2:Str×Int)=>c9 (b2 T.eqA (b2 T.bT (some y2.2) (some (2:Int))) (some (1:Int))) (zN (bX (b1 bS (some y2.1)) fun d7=>b1 rj (some d7)) fun d6=>some (.ret ⟨d6⟩)) (some (.nx ())) fun(y5:Unit)=>zN (b1 bS (some y2.1)) fun d8=>some (.ret ⟨d8⟩))
theorem yj (a_text:Str):FoX (fF [en a_text]) (aV a_text):=by
 unfold aV
 refine foX (m:=iV (en a_text)) ?_
 unfold iV
 exact (av (aa rfl) (fun d1=>(Hy (fun(y2:Str×Int)=>(vD (aq Cw (au y2.2) (aa rfl)) (wN (aq Fx (au y2.1) (aa rfl))))) (fun b=>xP b) rfl (fun(y2:Str×Int)=>(bq (aq bY (aq bD (au y2.2) (aa rfl)) (aa rfl)) (CL (Bj (pG (Fp xO (au y2.1))) (fun d7=>dF Dt (au d7))) (fun d6=>(zB rfl))) (aZ rfl) (fun(y5:Unit)=>(CL (pG (Fp xO (au y2.1))) (fun d8=>(zB rfl)))))))))
noncomputable def iw (a_text:Str):Option (Xn ⊕ Fv):=
 tX0 ((some ([]:(List Fv))).bind fun d1=>HG (HJ (b2 T.split (some a_text) (some (" or " :Str))) (fun(y3:(List Fv)) (x4:Str)=>bX (bX (HI (b2 T.split (some x4) (some (" and " :Str))) (fun c5:Str=>b1 aV (some c5))) fun d6=>b1 t8 (some d6)) fun d7=>(T.app y3 d7).map (·.2)) d1) "NoRow" "row" (some a_text) fun(y3:(List Fv))=>b8 (b1 rq (some y3)) (fun r=>⟨r⟩))
theorem Dw (a_text:Str):FoX (jC [en a_text]) (iw a_text):=by
 unfold iw
 refine foX (m:=m7 (en a_text)) ?_
 unfold m7
 exact (av nK (fun d1=>(Kf (HK (l7 (aq su (au a_text) (aa rfl))) (fun(y3:(List Fv)) (x4:Str)=>(Bj (Bj (M9 (l7 (aq su (au x4) (aa rfl))) (fun c5=>pG (Fp yj (au c5)))) (fun d6=>dF FP (au d6))) (fun d7=>Kk))) rfl) (uy (au a_text)) (fun(y3:(List Fv))=>(aJ (dF Du (au y3)) (fun _=>rfl))))))
noncomputable def bN (a__law_script:Scr) (a__law_k:Int):Option (Int):=
 tF0 (c9 (b2 T.ltI (some a__law_k) (b1 T.AL (some a__law_script))) (b8 (b2 T.atC (some a__law_script) (some a__law_k)) (fun r=>⟨r⟩)) (some (.nx ())) fun(y1:Unit)=>b8 (some (0:Int)) (fun r=>⟨r⟩))
theorem kJ (a__law_script:Scr) (a__law_k:Int):Fo0 (cj [en a__law_script,en a__law_k]) (bN a__law_script a__law_k):=by
 unfold bN
 refine fo0 (m:=jZ (en a__law_script) (en a__law_k)) ?_
 unfold jZ
 exact (bq (aq Cw (au a__law_k) (jQ JW (au a__law_script))) (aJ (aq MV (au a__law_script) (au a__law_k)) (fun _=>rfl)) (aZ rfl) (fun(y1:Unit)=>(aJ (aa rfl) (fun _=>rfl))))
noncomputable def cE (a__law_cell_here:Int) (a__law_k:Int):Option (Int):=
 tF0 ((b2 T.bT (b2 T.bP (b2 T.bP (b2 T.bT (some a__law_cell_here) (some (2147483629:Int))) (b2 T.ju (some (7919:Int)) (some a__law_k))) (some (12345:Int))) (some (2147483629:Int))).bind fun d1=>(b2 T.bT (b2 T.bP (b2 T.ju (some d1) (some d1)) (b2 T.ju (some (104729:Int)) (some a__law_k))) (some (2147483629:Int))).bind fun d2=>b8 (b2 T.bT (b2 T.ju (b2 T.bP (some d2) (some a__law_k)) (b2 T.bP (some d2) (some a__law_k))) (some (2147483587:Int))) (fun r=>⟨r⟩))
theorem oG (a__law_cell_here:Int) (a__law_k:Int):Fo0 (cq [en a__law_cell_here,en a__law_k]) (cE a__law_cell_here a__law_k):=by
 unfold cE
 refine fo0 (m:=lR (en a__law_cell_here) (en a__law_k)) ?_
 unfold lR
 exact (av (aq bD (aq bZ (aq bZ (aq bD (au a__law_cell_here) (aa rfl)) (aq nJ (aa rfl) (au a__law_k))) (aa rfl)) (aa rfl)) (fun d1=>(av (aq bD (aq bZ (aq nJ (au d1) (au d1)) (aq nJ (aa rfl) (au a__law_k))) (aa rfl)) (fun d2=>(aJ (aq bD (aq nJ (aq bZ (au d2) (au a__law_k)) (aq bZ (au d2) (au a__law_k))) (aa rfl)) (fun _=>rfl))))))
noncomputable def jm (a__law_number:Int):Option (Str):=
 tF0 ((some ("abcdefghijklmnopqrstuvwxyz" :Str)).bind fun d1=>(b2 T.bT (some a__law_number) (some (3:Int))).bind fun d2=>c9 (b2 T.eqA (some d2) (some (0:Int))) (b8 (some ("" :Str)) (fun r=>⟨r⟩)) (some (.nx ())) fun(y3:Unit)=>c9 (b2 T.eqA (some d2) (some (1:Int))) (b8 (b2 T.atS (some d1) (b2 T.bT (b2 T.hJ (some a__law_number) (some (3:Int))) (some (26:Int)))) (fun r=>⟨r⟩)) (some (.nx ())) fun(y4:Unit)=>b8 (b2 T.join (some ("" :Str)) (tlc (b1 T.qk (some (26:Int))) (fun c5:Int=>b2 T.eqA (b2 T.bT (b2 T.hJ (b2 T.hJ (some a__law_number) (some (3:Int))) (b2 T.bP (some c5) (some (1:Int)))) (some (3:Int))) (some (0:Int))) (fun c5:Int=>b2 T.atS (some d1) (some c5)))) (fun r=>⟨r⟩))
theorem Ar (a__law_number:Int):Fo0 (fG [en a__law_number]) (jm a__law_number):=by
 unfold jm
 refine fo0 (m:=iZ (en a__law_number)) ?_
 unfold iZ
 exact (av (aa rfl) (fun d1=>(av (aq bD (au a__law_number) (aa rfl)) (fun d2=>(bq (aq bY (au d2) (aa rfl)) (aJ (aa rfl) (fun _=>rfl)) (aZ rfl) (fun(y3:Unit)=>(bq (aq bY (au d2) (aa rfl)) (aJ (aq wO (au d1) (aq bD (aq gY (au a__law_number) (aa rfl)) (aa rfl))) (fun _=>rfl)) (aZ rfl) (fun(y4:Unit)=>(aJ (aq vI (aa rfl) (Bc (Ea vG (aa rfl)) (fun c5=>(aq bY (aq bD (aq gY (aq gY (au a__law_number) (aa rfl)) (aq bZ (au c5) (aa rfl))) (aa rfl)) (aa rfl))) (fun c5=>(aq wO (au d1) (au c5))))) (fun _=>rfl))))))))))
noncomputable def eR (a__law_cell_here:Int) (a__law_k:Int):Option ((T3 Str Int Str)):=
 tF0 ((b2 cE (some a__law_cell_here) (some a__law_k)).bind fun d1=>b8 (b3 T.tri (b2 T.atL (T.lst (T.cons (some ("O" :Str)) (T.cons (some ("A" :Str)) (T.cons (some ("B" :Str)) (T.cons (some ("AB" :Str)) (some [])))))) (b2 T.bT (some d1) (some (4:Int)))) (b2 T.bP (some (1:Int)) (b2 T.bT (b2 T.hJ (some d1) (some (4:Int))) (some (99:Int)))) (b1 jm (b2 T.hJ (some d1) (some (400:Int))))) (fun r=>⟨r⟩))
theorem uO (a__law_cell_here:Int) (a__law_k:Int):Fo0 (eY [en a__law_cell_here,en a__law_k]) (eR a__law_cell_here a__law_k):=by
 unfold eR
 refine fo0 (m:=j8 (en a__law_cell_here) (en a__law_k)) ?_
 unfold j8
 exact (av (gX oG (au a__law_cell_here) (au a__law_k)) (fun d1=>(aJ (vF (aq jw (kP (aN (aa rfl) (aN (aa rfl) (aN (aa rfl) (aN (aa rfl) kO))))) (aq bD (au d1) (aa rfl))) (aq bZ (aa rfl) (aq bD (aq gY (au d1) (aa rfl)) (aa rfl))) (dF Ar (aq gY (au d1) (aa rfl)))) (fun _=>rfl))))
noncomputable def eT (a__law_number:Int):Option ((T3 Int Str Int)):=
 tF0 ((b2 T.atL (T.lst (T.cons (some ("groups" :Str)) (T.cons (some ("marks" :Str)) (T.cons (some ("sizes" :Str)) (some []))))) (b2 T.bT (b2 T.hJ (some a__law_number) (some (6:Int))) (some (3:Int)))).bind fun d1=>(b2 T.atL (T.lst (T.cons (b2 T.bT (b2 T.hJ (some a__law_number) (some (18:Int))) (some (99:Int))) (T.cons (b2 T.bT (b2 T.hJ (some a__law_number) (some (18:Int))) (some (30:Int))) (some [])))) (b2 T.bT (b2 T.hJ (some a__law_number) (some (1782:Int))) (some (2:Int)))).bind fun d2=>b8 (b3 T.tri (b2 T.bT (some a__law_number) (some (6:Int))) (some d1) (some d2)) (fun r=>⟨r⟩))
theorem BR (a__law_number:Int):Fo0 (gi [en a__law_number]) (eT a__law_number):=by
 unfold eT
 refine fo0 (m:=kg (en a__law_number)) ?_
 unfold kg
 exact (av (aq jw (kP (aN (aa rfl) (aN (aa rfl) (aN (aa rfl) kO)))) (aq bD (aq gY (au a__law_number) (aa rfl)) (aa rfl))) (fun d1=>(av (aq jw (kP (aN (aq bD (aq gY (au a__law_number) (aa rfl)) (aa rfl)) (aN (aq bD (aq gY (au a__law_number) (aa rfl)) (aa rfl)) kO))) (aq bD (aq gY (au a__law_number) (aa rfl)) (aa rfl))) (fun d2=>(aJ (vF (aq bD (au a__law_number) (aa rfl)) (au d1) (au d2)) (fun _=>rfl))))))
noncomputable def b9 (k__law_cell_here:Int) (k__law_count:Int) (y3:(List (List (T3 Int Str Int)))) (x5:Int):Option (TO ((List (List (T3 Int Str Int)))) ((List (List (T3 Int Str Int)))) (R0 (List (List (T3 Int Str Int))))):=
 (b2 T.bP (some (1:Int)) (b2 T.bT (b2 cE (some k__law_cell_here) (b2 T.bP (some (61:Int)) (some x5))) (b2 T.atL (T.lst (T.cons (some (3:Int)) (T.cons (some (3:Int)) (T.cons (some (2:Int)) (some []))))) (b2 T.rP (some k__law_count) (some (1:Int)))))).bind fun d6=>(T.at1 y3 (some plR) (tlc (b1 T.qk (some d6)) (fun c7:Int=>some true) (fun c7:Int=>b1 eT (b2 cE (some k__law_cell_here) (b2 T.bP (b2 T.bP (some (70:Int)) (b2 T.ju (some (3:Int)) (some x5))) (some c7))))) T.app).bind fun d8=>some (.nx d8.2)
theorem pf (k__law_cell_here:Int) (k__law_count:Int) (y3:(List (List (T3 Int Str Int)))) (x5:Int):TyS (du (en k__law_cell_here) (en k__law_count) (es y3) (es x5)) (b9 k__law_cell_here k__law_count y3 x5):=by
 unfold du b9
 exact (av (aq bZ (aa rfl) (aq bD (gX oG (au k__law_cell_here) (aq bZ (aa rfl) (au x5))) (aq jw (kP (aN (aa rfl) (aN (aa rfl) (aN (aa rfl) kO)))) (aq vE (au k__law_count) (aa rfl))))) (fun d6=>(av (zE wV (nL (.ls .fz) _) (Bc (Ea vG (au d6)) (fun c7=>(aa rfl)) (fun c7=>(dF BR (gX oG (au k__law_cell_here) (aq bZ (aq bZ (aa rfl) (aq nJ (aa rfl) (au x5))) (au c7))))))) (fun d8=>(aZ rfl)))))
noncomputable def cP (a__law_cell_here:Int):Option ((List (List (T3 Int Str Int)))):=
 tF0 ((some ([]:(List (List (T3 Int Str Int))))).bind fun d1=>(b2 T.bP (some (1:Int)) (b2 T.bT (b2 cE (some a__law_cell_here) (some (60:Int))) (some (3:Int)))).bind fun d2=>oO (b1 T.qk (some d2)) (b9 a__law_cell_here d2) d1 fun(y3:(List (List (T3 Int Str Int))))=>b8 (some y3) (fun r=>⟨r⟩))
theorem qu (a__law_cell_here:Int):Fo0 (bM [en a__law_cell_here]) (cP a__law_cell_here):=by
 unfold cP
 refine fo0 (m:=cJ (en a__law_cell_here)) ?_
 unfold cJ
 exact (av nK (fun d1=>(av (aq bZ (aa rfl) (aq bD (gX oG (au a__law_cell_here) (aa rfl)) (aa rfl))) (fun d2=>(jG (Ea vG (au d2)) (fun b x=>pf a__law_cell_here d2 b x) rfl (fun(y3:(List (List (T3 Int Str Int))))=>(aJ (au y3) (fun _=>rfl))))))))
noncomputable def eB (a__law_term_here:(T3 Int Str Int)):Option (Str):=
 tF0 ((b1 T.un3 (some a__law_term_here)).bind fun d1=>c9 (b2 T.eqA (some d1.2.1) (some ("sizes" :Str))) (b8 (b2 T.iJ (b2 T.iJ (b2 T.qo (some ("no " :Str)) (some d1.1)) (some ("sizes " :Str))) (b1 T.Cj (some d1.2.2))) (fun r=>⟨r⟩)) (some (.nx ())) fun(y2:Unit)=>b8 (b2 T.iJ (b2 T.qo (some ("no " :Str)) (some d1.1)) (some d1.2.1)) (fun r=>⟨r⟩))
theorem t9 (a__law_term_here:(T3 Int Str Int)):Fo0 (cw [en a__law_term_here]) (eB a__law_term_here):=by
 unfold eB
 refine fo0 (m:=dN (en a__law_term_here)) ?_
 unfold dN
 exact (av (Hz (au a__law_term_here)) (fun d1=>(bq (aq bY (au d1.2.1) (aa rfl)) (aJ (aq iO (aq iO (aq Ee (aa rfl) (au d1.1)) (aa rfl)) (jQ J4 (au d1.2.2))) (fun _=>rfl)) (aZ rfl) (fun(y2:Unit)=>(aJ (aq iO (aq Ee (aa rfl) (au d1.1)) (au d1.2.1)) (fun _=>rfl))))))
noncomputable def eC (a__law_alternatives_here:(List (List (T3 Int Str Int)))):Option (Str):=
 tF0 (b8 (b2 T.join (some (" or " :Str)) (tlc (some a__law_alternatives_here) (fun c1:(List (T3 Int Str Int))=>some true) (fun c1:(List (T3 Int Str Int))=>b2 T.join (some (" and " :Str)) (tlc (some c1) (fun c2:(T3 Int Str Int)=>some true) (fun c2:(T3 Int Str Int)=>b1 eB (some c2)))))) (fun r=>⟨r⟩))
theorem ua (a__law_alternatives_here:(List (List (T3 Int Str Int)))):Fo0 (cA [en a__law_alternatives_here]) (eC a__law_alternatives_here):=by
 unfold eC
 refine fo0 (m:=dR (en a__law_alternatives_here)) ?_
 unfold dR
 exact (aJ (aq vI (aa rfl) (Bc (l7 (au a__law_alternatives_here)) (fun c1=>(aa rfl)) (fun c1=>(aq vI (aa rfl) (Bc (l7 (au c1)) (fun c2=>(aa rfl)) (fun c2=>(dF t9 (au c2)))))))) (fun _=>rfl))
noncomputable def gA (a__law_kind:Str) (a__law_bound_here:Int) (a__law_giver:(T3 Str Int Str)) (a__law_taker:(T3 Str Int Str)):Option (Bool):=
 tF0 (c9 (b2 T.eqA (some a__law_kind) (some ("groups" :Str))) ((T.lst (T.cons (some ("O O" :Str)) (T.cons (some ("O A" :Str)) (T.cons (some ("O B" :Str)) (T.cons (some ("O AB" :Str)) (T.cons (some ("A A" :Str)) (T.cons (some ("A AB" :Str)) (T.cons (some ("B B" :Str)) (T.cons (some ("B AB" :Str)) (T.cons (some ("AB AB" :Str)) (some []))))))))))).bind fun d2=>b8 (b2 (T.inA false) (b2 T.iJ (b2 T.iJ ((some a__law_giver).map T3.a) (some (" " :Str))) ((some a__law_taker).map T3.a)) (some d2)) (fun r=>⟨r⟩)) (some (.nx ())) fun(y1:Unit)=>c9 (b2 T.eqA (some a__law_kind) (some ("marks" :Str))) (b8 (b2 T.eqD (tlc (b1 T.tv ((some a__law_giver).map T3.c)) (fun c4:Str=>b2 (T.ql false) (some c4) ((some a__law_taker).map T3.c)) (fun c4:Str=>some c4)) (some ([]:(List Str)))) (fun r=>⟨r⟩)) (some (.nx ())) fun(y3:Unit)=>b8 (lL (b2 T.leI (b2 T.rP ((some a__law_giver).map T3.b) ((some a__law_taker).map T3.b)) (some a__law_bound_here)) (b2 T.leI (b2 T.rP ((some a__law_taker).map T3.b) ((some a__law_giver).map T3.b)) (some a__law_bound_here))) (fun r=>⟨r⟩))
theorem As (a__law_kind:Str) (a__law_bound_here:Int) (a__law_giver:(T3 Str Int Str)) (a__law_taker:(T3 Str Int Str)):Fo0 (fH [en a__law_kind,en a__law_bound_here,en a__law_giver,en a__law_taker]) (gA a__law_kind a__law_bound_here a__law_giver a__law_taker):=by
 unfold gA
 refine fo0 (m:=i9 (en a__law_kind) (en a__law_bound_here) (en a__law_giver) (en a__law_taker)) ?_
 unfold i9
 exact (bq (aq bY (au a__law_kind) (aa rfl)) (av (kP (aN (aa rfl) (aN (aa rfl) (aN (aa rfl) (aN (aa rfl) (aN (aa rfl) (aN (aa rfl) (aN (aa rfl) (aN (aa rfl) (aN (aa rfl) kO)))))))))) (fun d2=>(aJ (aq (mv (MW false)) (aq iO (aq iO (k6 (au a__law_giver) (fun _=>rfl)) (aa rfl)) (k6 (au a__law_taker) (fun _=>rfl))) (au d2)) (fun _=>rfl)))) (aZ rfl) (fun(y1:Unit)=>(bq (aq bY (au a__law_kind) (aa rfl)) (aJ (aq (mv (CA (Nat.le_of_ble_eq_true rfl))) (Bc (iC vH (k6 (au a__law_giver) (fun _=>rfl))) (fun c4=>(aq (zL false) (au c4) (k6 (au a__law_taker) (fun _=>rfl)))) (fun c4=>(au c4))) nK) (fun _=>rfl)) (aZ rfl) (fun(y3:Unit)=>(aJ (JS (aq (mv qR) (aq vE (k6 (au a__law_giver) (fun _=>rfl)) (k6 (au a__law_taker) (fun _=>rfl))) (au a__law_bound_here)) (aq (mv qR) (aq vE (k6 (au a__law_taker) (fun _=>rfl)) (k6 (au a__law_giver) (fun _=>rfl))) (au a__law_bound_here))) (fun _=>rfl))))))
noncomputable def dD (k__law_giver:(T3 Str Int Str)) (k__law_taker:(T3 Str Int Str)) (y5:Bool) (x7:Int×Str×Int):Option (TO (Bool) (Bool) (R0 Bool)):=
 c9 (b2 T.eqA (b4 gA (some x7.2.1) (some x7.2.2) (some k__law_giver) (some k__law_taker)) (b2 T.eqA (b2 T.bT (some x7.1) (some (2:Int))) (some (1:Int)))) ((some false).bind fun d9=>some (.nx d9)) (some (.nx y5)) fun(y8:Bool)=>some (.nx y8)
theorem ym (k__law_giver:(T3 Str Int Str)) (k__law_taker:(T3 Str Int Str)) (y5:Bool) (x7:Int×Str×Int):TyS (lu (en k__law_giver) (en k__law_taker) (es y5) (es x7)) (dD k__law_giver k__law_taker y5 x7):=by
 unfold lu dD
 exact (bq (aq MT (JV As (au x7.2.1) (au x7.2.2) (au k__law_giver) (au k__law_taker)) (aq (mv bY) (aq bD (au x7.1) (aa rfl)) (aa rfl))) (av (aa rfl) (fun d9=>(aZ rfl))) (aZ rfl) (fun(y8:Bool)=>(aZ rfl)))
noncomputable def jN (k__law_giver:(T3 Str Int Str)) (k__law_taker:(T3 Str Int Str)) (y1:Unit) (x3:(List (T3 Int Str Int))):Option (TO (Unit) (Unit) (R0 Bool)):=
 (some true).bind fun d4=>oO (b1 T.trs (some x3)) (dD k__law_giver k__law_taker) d4 fun(y5:Bool)=>c9 (some y5) (b8 (some true) (fun r=>⟨r⟩)) (some (.nx ())) fun(y10:Unit)=>some (.nx ())
theorem yn (k__law_giver:(T3 Str Int Str)) (k__law_taker:(T3 Str Int Str)) (y1:Unit) (x3:(List (T3 Int Str Int))):TyS (lA (en k__law_giver) (en k__law_taker) (es y1) (es x3)) (jN k__law_giver k__law_taker y1 x3):=by
 unfold lA jN
 exact (av (aa rfl) (fun d4=>(jG (Ke (au x3)) (fun b x=>ym k__law_giver k__law_taker b x) rfl (fun(y5:Bool)=>(bq (wN (au y5)) (aJ (aa rfl) (fun _=>rfl)) (aZ rfl) (fun(y10:Unit)=>(aZ rfl)))))))
noncomputable def iH (a__law_alternatives_here:(List (List (T3 Int Str Int)))) (a__law_giver:(T3 Str Int Str)) (a__law_taker:(T3 Str Int Str)):Option (Bool):=
 tF0 (oO (some a__law_alternatives_here) (jN a__law_giver a__law_taker) () fun(y1:Unit)=>b8 (some false) (fun r=>⟨r⟩))
theorem BS (a__law_alternatives_here:(List (List (T3 Int Str Int)))) (a__law_giver:(T3 Str Int Str)) (a__law_taker:(T3 Str Int Str)):Fo0 (gq [en a__law_alternatives_here,en a__law_giver,en a__law_taker]) (iH a__law_alternatives_here a__law_giver a__law_taker):=by
 unfold iH
 refine fo0 (m:=ko (en a__law_alternatives_here) (en a__law_giver) (en a__law_taker)) ?_
 unfold ko
 exact (jG (l7 (au a__law_alternatives_here)) (fun b x=>yn a__law_giver a__law_taker b x) rfl (fun(y1:Unit)=>(aJ (aa rfl) (fun _=>rfl))))
noncomputable def iI (a__law_cell_here:Int):Option (Str):=
 tF0 ((some (" !\"#$&'()*+,-./0123456789:;<=>?@ABCDEFGHIJKLMNOPQRSTUVWXYZ[\\]^_`" :Str)).bind fun d1=>(b2 T.iJ (some d1) (some ("abcdefghijklmnopqrstuvwxyz{|}~" :Str))).bind fun d2=>c9 (b2 T.eqA (b2 T.bT (some a__law_cell_here) (some (2:Int))) (some (0:Int))) ((some ("0123456789 osnd" :Str)).bind fun d4=>some (.nx d4)) (some (.nx d2)) fun(y3:Str)=>b8 (b2 T.atS (some y3) (b2 T.bT (b2 T.hJ (some a__law_cell_here) (some (2:Int))) (b1 T.o7 (some y3)))) (fun r=>⟨r⟩))
theorem uP (a__law_cell_here:Int):Fo0 (fb [en a__law_cell_here]) (iI a__law_cell_here):=by
 unfold iI
 refine fo0 (m:=kv (en a__law_cell_here)) ?_
 unfold kv
 exact (av (aa rfl) (fun d1=>(av (aq iO (au d1) (aa rfl)) (fun d2=>(bq (aq bY (aq bD (au a__law_cell_here) (aa rfl)) (aa rfl)) (av (aa rfl) (fun d4=>(aZ rfl))) (aZ rfl) (fun(y3:Str)=>(aJ (aq wO (au y3) (aq bD (aq gY (au a__law_cell_here) (aa rfl)) (jQ qa (au y3)))) (fun _=>rfl))))))))
noncomputable def fB (a__law_cell_here:Int):Option (Str):=
 tF0 ((T.lst (T.cons (some ("98" :Str)) (T.cons (some ("99" :Str)) (T.cons (some ("100" :Str)) (T.cons (some ("0" :Str)) (T.cons (some ("00" :Str)) (T.cons (some ("098" :Str)) (T.cons (some ("-1" :Str)) (T.cons (some ("" :Str)) (T.cons (some ("no" :Str)) (T.cons (some ("or" :Str)) (T.cons (some ("and" :Str)) (T.cons (some ("groups" :Str)) (T.cons (some ("marks" :Str)) (T.cons (some ("sizes" :Str)) (T.cons (some ("Groups" :Str)) (some []))))))))))))))))).bind fun d1=>(b2 T.qj (some d1) (T.lst (T.cons (some ("size" :Str)) (T.cons (some ("no no no no no no" :Str)) (T.cons (some ("sizes 3" :Str)) (T.cons (some ("not" :Str)) (T.cons (some ("999999999999" :Str)) (T.cons (some ("1000000000000" :Str)) (T.cons (some ("x" :Str)) (some [])))))))))).bind fun d2=>b8 (b2 T.atL (some d2) (b2 T.bT (some a__law_cell_here) (b1 T.mq (some d2)))) (fun r=>⟨r⟩))
theorem vj (a__law_cell_here:Int):Fo0 (c6 [en a__law_cell_here]) (fB a__law_cell_here):=by
 unfold fB
 refine fo0 (m:=fv (en a__law_cell_here)) ?_
 unfold fv
 exact (av (kP (aN (aa rfl) (aN (aa rfl) (aN (aa rfl) (aN (aa rfl) (aN (aa rfl) (aN (aa rfl) (aN (aa rfl) (aN (aa rfl) (aN (aa rfl) (aN (aa rfl) (aN (aa rfl) (aN (aa rfl) (aN (aa rfl) (aN (aa rfl) (aN (aa rfl) kO)))))))))))))))) (fun d1=>(av (aq sm (au d1) (kP (aN (aa rfl) (aN (aa rfl) (aN (aa rfl) (aN (aa rfl) (aN (aa rfl) (aN (aa rfl) (aN (aa rfl) kO))))))))) (fun d2=>(aJ (aq jw (au d2) (aq bD (au a__law_cell_here) (jQ sk (au d2)))) (fun _=>rfl))))))
noncomputable def gW (a__law_text:Str) (a__law_cell_here:Int) (a__law_other:Int):Option (Str):=
 tF0 ((b2 T.bT (some a__law_cell_here) (some (8:Int))).bind fun d1=>(b2 T.bT (b2 T.hJ (some a__law_cell_here) (some (8:Int))) (b2 T.bP (b1 T.o7 (some a__law_text)) (some (1:Int)))).bind fun d2=>(b2 T.split (some a__law_text) (some (" " :Str))).bind fun d3=>(b2 T.bT (b2 T.hJ (some a__law_cell_here) (some (8:Int))) (b1 T.mq (some d3))).bind fun d4=>(b2 T.bT (some a__law_other) (b1 T.mq (some d3))).bind fun d5=>c9 (b2 T.eqA (some d1) (some (0:Int))) (b8 (b2 T.iJ (b2 T.iJ (o9 T.cutS (some a__law_text) (some none) (b1 T.toI (some d2))) (b1 iI (some a__law_other))) (o9 T.cutS (some a__law_text) (b1 T.toI (some d2)) (some none))) (fun r=>⟨r⟩)) (some (.nx ())) fun(y6:Unit)=>c9 (b2 T.eqA (some d1) (some (1:Int))) (b8 (b2 T.iJ (o9 T.cutS (some a__law_text) (some none) (b1 T.toI (some d2))) (o9 T.cutS (some a__law_text) (b1 T.toI (b2 T.bP (some d2) (some (1:Int)))) (some none))) (fun r=>⟨r⟩)) (some (.nx ())) fun(y7:Unit)=>c9 (b2 T.eqA (some d1) (some (2:Int))) (b8 (b2 T.iJ (b2 T.iJ (o9 T.cutS (some a__law_text) (some none) (b1 T.toI (some d2))) (b1 iI (some a__law_other))) (o9 T.cutS (some a__law_text) (b1 T.toI (b2 T.bP (some d2) (some (1:Int)))) (some none))) (fun r=>⟨r⟩)) (some (.nx ())) fun(y8:Unit)=>c9 (b2 T.eqA (some d1) (some (3:Int))) ((b2 T.atL (some d3) (some d4)).bind fun d10=>(T.Fl d3 (b2 T.atL (some d3) (some d5)) (some plR) (some d4)).bind fun d11=>(T.Fl d11 (some d10) (some plR) (some d5)).bind fun d12=>some (.nx d12)) (some (.nx d3)) fun(y9:(List Str))=>c9 (b2 T.eqA (some d1) (some (4:Int))) ((b2 T.qj (o9 T.dJ (some y9) (some none) (b1 T.toI (some d4))) (o9 T.dJ (some y9) (b1 T.toI (b2 T.bP (some d4) (some (1:Int)))) (some none))).bind fun d14=>some (.nx d14)) (some (.nx y9)) fun(y13:(List Str))=>c9 (b2 T.eqA (some d1) (some (5:Int))) ((b2 T.qj (b2 T.qj (o9 T.dJ (some y13) (some none) (b1 T.toI (some d4))) (T.lst (T.cons (b2 T.atL (some y13) (some d5)) (some [])))) (o9 T.dJ (some y13) (b1 T.toI (some d4)) (some none))).bind fun d16=>some (.nx d16)) (some (.nx y13)) fun(y15:(List Str))=>c9 (b2 T.eqA (some d1) (some (6:Int))) ((T.Fl y15 (b1 fB (some a__law_other)) (some plR) (some d4)).bind fun d18=>some (.nx d18)) (some (.nx y15)) fun(y17:(List Str))=>b8 (b2 T.join (some (" " :Str)) (some y17)) (fun r=>⟨r⟩))
theorem yo (a__law_text:Str) (a__law_cell_here:Int) (a__law_other:Int):Fo0 (dX [en a__law_text,en a__law_cell_here,en a__law_other]) (gW a__law_text a__law_cell_here a__law_other):=by
 unfold gW
 refine fo0 (m:=gQ (en a__law_text) (en a__law_cell_here) (en a__law_other)) ?_
 unfold gQ
 exact (av (aq bD (au a__law_cell_here) (aa rfl)) (fun d1=>(av (aq bD (aq gY (au a__law_cell_here) (aa rfl)) (aq bZ (jQ qa (au a__law_text)) (aa rfl))) (fun d2=>(av (aq su (au a__law_text) (aa rfl)) (fun d3=>(av (aq bD (aq gY (au a__law_cell_here) (aa rfl)) (jQ sk (au d3))) (fun d4=>(av (aq bD (au a__law_other) (jQ sk (au d3))) (fun d5=>(bq (aq bY (au d1) (aa rfl)) (aJ (aq iO (aq iO (iP Cz (au a__law_text) l6 (iC iQ (au d2))) (dF uP (au a__law_other))) (iP Cz (au a__law_text) (iC iQ (au d2)) l6)) (fun _=>rfl)) (aZ rfl) (fun(y6:Unit)=>(bq (aq bY (au d1) (aa rfl)) (aJ (aq iO (iP Cz (au a__law_text) l6 (iC iQ (au d2))) (iP Cz (au a__law_text) (iC iQ (aq bZ (au d2) (aa rfl))) l6)) (fun _=>rfl)) (aZ rfl) (fun(y7:Unit)=>(bq (aq bY (au d1) (aa rfl)) (aJ (aq iO (aq iO (iP Cz (au a__law_text) l6 (iC iQ (au d2))) (dF uP (au a__law_other))) (iP Cz (au a__law_text) (iC iQ (aq bZ (au d2) (aa rfl))) l6)) (fun _=>rfl)) (aZ rfl) (fun(y8:Unit)=>(bq (aq bY (au d1) (aa rfl)) (av (uy (aq jw (au d3) (au d4))) (fun d10=>(av (zF (nL (.ls .fz) _) (uy (aq jw (au d3) (au d5))) (au d4)) (fun d11=>(av (zF (nL (.ls .fz) _) (au d10) (au d5)) (fun d12=>(aZ rfl))))))) (aZ rfl) (fun(y9:(List Str))=>(bq (aq bY (au d1) (aa rfl)) (av (aq sm (iP yL (au y9) l6 (iC iQ (au d4))) (iP yL (au y9) (iC iQ (aq bZ (au d4) (aa rfl))) l6)) (fun d14=>(aZ rfl))) (aZ rfl) (fun(y13:(List Str))=>(bq (aq bY (au d1) (aa rfl)) (av (aq sm (aq sm (iP yL (au y13) l6 (iC iQ (au d4))) (kP (aN (uy (aq jw (au y13) (au d5))) kO))) (iP yL (au y13) (iC iQ (au d4)) l6)) (fun d16=>(aZ rfl))) (aZ rfl) (fun(y15:(List Str))=>(bq (aq bY (au d1) (aa rfl)) (av (zF (nL (.ls .fz) _) (dF vj (au a__law_other)) (au d4)) (fun d18=>(aZ rfl))) (aZ rfl) (fun(y17:(List Str))=>(aJ (aq vI (aa rfl) (au y17)) (fun _=>rfl))))))))))))))))))))))))))
noncomputable def fW (y1:Unit) (x3:Str):Option (TO (Unit) (Unit) (R0 (Option Int))):=
 c9 (o8 (Bg T.leS T.leS (some ("0" :Str)) (some x3) (some ("9" :Str)))) (b8 (some (none:(Option Int))) (fun r=>⟨r⟩)) (some (.nx ())) fun(y4:Unit)=>some (.nx ())
theorem xQ (y1:Unit) (x3:Str):TyS (jM (es y1) (es x3)) (fW y1 x3):=by
 unfold jM fW
 exact (bq (vC (CC Ht Ht (aa rfl) (au x3) (aa rfl))) (aJ nN (fun _=>rfl)) (aZ rfl) (fun(y4:Unit)=>(aZ rfl)))
noncomputable def gD (a__law_word:Str):Option ((Option Int)):=
 tF0 (oO (b1 T.tv (some a__law_word)) (fW) () fun(y1:Unit)=>c9 (orB (o8 (Bg T.leI T.leI (some (1:Int)) (b1 T.o7 (some a__law_word)) (some (2:Int)))) (orB (lL (b2 T.eqA (b1 T.o7 (some a__law_word)) (some (2:Int))) (b2 T.eqA (b2 T.atS (some a__law_word) (some (0:Int))) (some ("0" :Str)))) (b2 T.gtI (b1 T.qm (some a__law_word)) (some (98:Int))))) (b8 (some (none:(Option Int))) (fun r=>⟨r⟩)) (some (.nx ())) fun(y5:Unit)=>b8 ((b1 T.qm (some a__law_word)).map some) (fun r=>⟨r⟩))
theorem sW (a__law_word:Str):Fo0 (dC [en a__law_word]) (gD a__law_word):=by
 unfold gD
 refine fo0 (m:=jd (en a__law_word)) ?_
 unfold jd
 exact (jG (iC vH (au a__law_word)) (fun b x=>xQ b x) rfl (fun(y1:Unit)=>(bq (pD (vC (CC qR qR (aa rfl) (jQ qa (au a__law_word)) (aa rfl))) (pD (vD (aq bY (jQ qa (au a__law_word)) (aa rfl)) (aq bY (aq wO (au a__law_word) (aa rfl)) (aa rfl))) (aq zD (jQ zM (au a__law_word)) (aa rfl)))) (aJ nN (fun _=>rfl)) (aZ rfl) (fun(y5:Unit)=>(aJ (vJ (jQ zM (au a__law_word))) (fun _=>rfl))))))
noncomputable def ff (y2:Int):Option (TO (Int) (Int) (R0 (Option (T3 Int Str Int)))):=
 (b2 T.bP (some y2) (some (1:Int))).bind fun d3=>some (.nx d3)
theorem rz (y2:Int):TyS (fM (es y2)) (ff y2):=by
 unfold fM ff
 exact (av (aq bZ (au y2) (aa rfl)) (fun d3=>(aZ rfl)))
noncomputable def aL (a__law_words:(List Str)):Option ((Option (T3 Int Str Int))):=
 tF0 ((some (0:Int)).bind fun d1=>Hx (fun(y2:Int)=>lL (b2 T.ltI (some y2) (b1 T.mq (some a__law_words))) (b2 T.eqA (b2 T.atL (some a__law_words) (some y2)) (some ("no" :Str)))) (ff) d1 fun(y2:Int)=>c9 (b2 T.gtI (some y2) (some (5:Int))) (b8 (some (none:(Option (T3 Int Str Int)))) (fun r=>⟨r⟩)) (some (.nx ())) fun(y4:Unit)=>c9 (orB (b2 T.eqD (o9 T.dJ (some a__law_words) (b1 T.toI (some y2)) (some none)) (T.lst (T.cons (some ("groups" :Str)) (some [])))) (b2 T.eqD (o9 T.dJ (some a__law_words) (b1 T.toI (some y2)) (some none)) (T.lst (T.cons (some ("marks" :Str)) (some []))))) (b8 ((b3 T.tri (some y2) (b2 T.atL (some a__law_words) (some y2)) (some (0:Int))).map some) (fun r=>⟨r⟩)) (some (.nx ())) fun(y5:Unit)=>c9 (orB (b2 T.neA (b1 T.mq (some a__law_words)) (b2 T.bP (some y2) (some (2:Int)))) (orB (b2 T.neA (b2 T.atL (some a__law_words) (some y2)) (some ("sizes" :Str))) (b2 T.isN (b1 gD (b2 T.atL (some a__law_words) (b2 T.bP (some y2) (some (1:Int))))) (some ())))) (b8 (some (none:(Option (T3 Int Str Int)))) (fun r=>⟨r⟩)) (some (.nx ())) fun(y6:Unit)=>b8 ((b3 T.tri (some y2) (some ("sizes" :Str)) ((b1 gD (b2 T.atL (some a__law_words) (b2 T.bP (some y2) (some (1:Int))))).bind id)).map some) (fun r=>⟨r⟩))
theorem ud (a__law_words:(List Str)):Fo0 (cB [en a__law_words]) (aL a__law_words):=by
 unfold aL
 refine fo0 (m:=dY (en a__law_words)) ?_
 unfold dY
 exact (av (aa rfl) (fun d1=>(Hy (fun(y2:Int)=>(vD (aq Cw (au y2) (jQ sk (au a__law_words))) (aq bY (aq jw (au a__law_words) (au y2)) (aa rfl)))) (fun b=>rz b) rfl (fun(y2:Int)=>(bq (aq zD (au y2) (aa rfl)) (aJ nN (fun _=>rfl)) (aZ rfl) (fun(y4:Unit)=>(bq (pD (aq (CA (Nat.le_of_ble_eq_true rfl)) (iP yL (au a__law_words) (iC iQ (au y2)) l6) (kP (aN (aa rfl) kO))) (aq (CA (Nat.le_of_ble_eq_true rfl)) (iP yL (au a__law_words) (iC iQ (au y2)) l6) (kP (aN (aa rfl) kO)))) (aJ (vJ (vF (au y2) (uy (aq jw (au a__law_words) (au y2))) (aa rfl))) (fun _=>rfl)) (aZ rfl) (fun(y5:Unit)=>(bq (pD (aq Cy (jQ sk (au a__law_words)) (aq bZ (au y2) (aa rfl))) (pD (aq Cy (aq jw (au a__law_words) (au y2)) (aa rfl)) (aq zJ (dF sW (aq jw (au a__law_words) (aq bZ (au y2) (aa rfl)))) (aa rfl)))) (aJ nN (fun _=>rfl)) (aZ rfl) (fun(y6:Unit)=>(aJ (vJ (vF (au y2) (aa rfl) (zG (dF sW (aq jw (au a__law_words) (aq bZ (au y2) (aa rfl))))))) (fun _=>rfl))))))))))))
noncomputable def aD (y3:(List (List (T3 Int Str Int)))×(List Str)) (x5:Str):Option (TO ((List (List (T3 Int Str Int)))×(List Str)) ((List (List (T3 Int Str Int)))×(List Str)) (R0 (Option (List (List (T3 Int Str Int)))))):=
 c9 (orB (b2 T.eqA (some x5) (some ("or" :Str))) (b2 T.eqA (some x5) (some ("and" :Str)))) ((b1 aL (some y3.2)).bind fun d7=>c9 (b2 T.isN (some d7) (some ())) (b8 (some (none:(Option (List (List (T3 Int Str Int)))))) (fun r=>⟨r⟩)) (some (.nx ())) fun(y8:Unit)=>(T.at1 y3.1 (plX y3.1 (some plR) (b1 T.rR (some (1:Int)))) ((some d7).bind id) T.app).bind fun d9=>(some ([]:(List Str))).bind fun d10=>c9 (b2 T.eqA (some x5) (some ("or" :Str))) ((T.at1 d9.2 (some plR) (some ([]:(List (T3 Int Str Int)))) T.app).bind fun d12=>some (.nx d12.2)) (some (.nx d9.2)) fun(y11:(List (List (T3 Int Str Int))))=>some (.nx (y11,d10))) ((T.at1 y3.2 (some plR) (some x5) T.app).bind fun d13=>some (.nx (y3.1,d13.2))) fun(y6:(List (List (T3 Int Str Int)))×(List Str))=>some (.nx (y6.1,y6.2))
theorem yp (y3:(List (List (T3 Int Str Int)))×(List Str)) (x5:Str):TyS (lC (es y3) (es x5)) (aD y3 x5):=by
 unfold lC aD
 exact (bq (pD (aq bY (au x5) (aa rfl)) (aq bY (au x5) (aa rfl))) (av (dF ud (au y3.2)) (fun d7=>(bq (aq zJ (au d7) (aa rfl)) (aJ nN (fun _=>rfl)) (aZ rfl) (fun(y8:Unit)=>(av (zE wV (Nc (nL (.ls (.ls .fz)) _) (iC D9 (aa rfl))) (zG (au d7))) (fun d9=>(av nK (fun d10=>(bq (aq bY (au x5) (aa rfl)) (av (zE wV (nL (.ls (.ls .fz)) _) nK) (fun d12=>(aZ rfl))) (aZ rfl) (fun(y11:(List (List (T3 Int Str Int))))=>(aZ rfl))))))))))) (av (zE wV (nL (.ls .fz) _) (au x5)) (fun d13=>(aZ rfl))) (fun(y6:(List (List (T3 Int Str Int)))×(List Str))=>(aZ rfl)))
noncomputable def fX (a__law_text:Str):Option ((Option (List (List (T3 Int Str Int))))):=
 tF0 ((T.lst (T.cons (some ([]:(List (T3 Int Str Int)))) (some []))).bind fun d1=>(some ([]:(List Str))).bind fun d2=>oO (b2 T.qj (b2 T.split (some a__law_text) (some (" " :Str))) (T.lst (T.cons (some ("or" :Str)) (some [])))) (aD) (d1,d2) fun(y3:(List (List (T3 Int Str Int)))×(List Str))=>b8 ((o9 T.dJ (some y3.1) (some none) (b1 T.toI (b1 T.rR (some (1:Int))))).map some) (fun r=>⟨r⟩))
theorem BU (a__law_text:Str):Fo0 (gu [en a__law_text]) (fX a__law_text):=by
 unfold fX
 refine fo0 (m:=kE (en a__law_text)) ?_
 unfold kE
 exact (av (kP (aN nK kO)) (fun d1=>(av nK (fun d2=>(jG (l7 (aq sm (aq su (au a__law_text) (aa rfl)) (kP (aN (aa rfl) kO)))) (fun b x=>yp b x) rfl (fun(y3:(List (List (T3 Int Str Int)))×(List Str))=>(aJ (vJ (iP QE (au y3.1) l6 (iC iQ (iC D9 (aa rfl))))) (fun _=>rfl))))))))
noncomputable def TC (n:Nat) (r:Fv) (x:(T3 Str Int Str)) (y:(T3 Str Int Str)):Option Bool:=(FC n [r.d,en x,en y]).bind FR.asB
theorem HC (n:Nat) (r:Fv) (x:(T3 Str Int Str)) (y:(T3 Str Int Str)):Fo0 (FC n [en r,en x,en y]) (TC n r x y):=M8
noncomputable def sX (k__law_script:Scr) (k__law_due:(Option (List (List (T3 Int Str Int))))) (k__law_rule:(Option Fv)) (y9:Unit) (x11:Int):Option (TO (Unit) (Unit) (R0 Bool)):=
 (b2 eR (b2 bN (some k__law_script) (some (3:Int))) (b2 T.ju (some (2:Int)) (some x11))).bind fun d12=>(b2 eR (b2 bN (some k__law_script) (some (3:Int))) (b2 T.bP (b2 T.ju (some (2:Int)) (some x11)) (some (1:Int)))).bind fun d13=>c9 (b2 T.neA (b3 (TC 12) ((some k__law_rule).bind id) (some d12) (some d13)) (b3 iH ((some k__law_due).bind id) (some d12) (some d13))) (b8 (some false) (fun r=>⟨r⟩)) (some (.nx ())) fun(y14:Unit)=>some (.nx ())
theorem Kz (k__law_script:Scr) (k__law_due:(Option (List (List (T3 Int Str Int))))) (k__law_rule:(Option Fv)) (y9:Unit) (x11:Int):TyS (Ap (en k__law_script) (en k__law_due) (en k__law_rule) (es y9) (es x11)) (sX k__law_script k__law_due k__law_rule y9 x11):=by
 unfold Ap sX
 exact (av (gX uO (gX kJ (au k__law_script) (aa rfl)) (aq nJ (aa rfl) (au x11))) (fun d12=>(av (gX uO (gX kJ (au k__law_script) (aa rfl)) (aq bZ (aq nJ (aa rfl) (au x11)) (aa rfl))) (fun d13=>(bq (aq MU (p9 (HC 12) (zG (au k__law_rule)) (au d12) (au d13)) (p9 BS (zG (au k__law_due)) (au d12) (au d13))) (aJ (aa rfl) (fun _=>rfl)) (aZ rfl) (fun(y14:Unit)=>(aZ rfl)))))))
noncomputable def Ew (a__law_script:Scr):Option (Bool):=
 tF0 ((b1 eC (b1 cP (b2 bN (some a__law_script) (some (0:Int))))).bind fun d1=>(b3 gW (some d1) (b2 bN (some a__law_script) (some (1:Int))) (b2 bN (some a__law_script) (some (2:Int)))).bind fun d2=>(b1 fX (some d2)).bind fun d3=>(some (none:(Option Fv))).bind fun d4=>(some (none:(Option (T4 Str Bool Bool Bool)))).bind fun d5=>J8 (tsB (b1 iw (some d2)) fun r_=>(some r_,d5)) "NoRow" (fun x_=>b4 T.qua (Bh "NoRow" "row" x_) (T.isX "NoRow" true x_) (T.isX "NoRow" true x_) (T.isX "NoRow" false x_)) (fun d_=>(d4,some d_)) fun(y6:(Option Fv)×(Option (T4 Str Bool Bool Bool)))=>c9 (b2 T.isN (some d3) (some ())) (b8 (b2 T.Kh (some y6.2) (b4 T.qua (some d2) (some true) (some true) (some false))) (fun r=>⟨r⟩)) (some (.nx ())) fun(y7:Unit)=>c9 (orB (b2 T.JY (some y6.2) (some ())) (b2 T.Kl (some y6.1) (some ()))) (b8 (some false) (fun r=>⟨r⟩)) (some (.nx ())) fun(y8:Unit)=>oO (b1 T.qk (some (6:Int))) (sX a__law_script d3 y6.1) () fun(y9:Unit)=>b8 (some true) (fun r=>⟨r⟩))
theorem Pa (a__law_script:Scr):Fo0 (Dk [en a__law_script]) (Ew a__law_script):=by
 unfold Ew
 refine fo0 (m:=BO (en a__law_script)) ?_
 unfold BO
 exact (av (dF ua (dF qu (gX kJ (au a__law_script) (aa rfl)))) (fun d1=>(av (p9 yo (au d1) (gX kJ (au a__law_script) (aa rfl)) (gX kJ (au a__law_script) (aa rfl))) (fun d2=>(av (dF BU (au d2)) (fun d3=>(av nN (fun d4=>(av nN (fun d5=>(J9 (Ka (Fp Dw (au d2)) (fun _=>rfl)) (fun x_=>(Eb J7 CK CK CK)) (fun _=>rfl) (fun(y6:(Option Fv)×(Option (T4 Str Bool Bool Bool)))=>(bq (aq zJ (au d3) (aa rfl)) (aJ (aq (mv (Ki (Nat.le_of_ble_eq_true rfl))) (au y6.2) (Eb (au d2) (aa rfl) (aa rfl) (aa rfl))) (fun _=>rfl)) (aZ rfl) (fun(y7:Unit)=>(bq (pD (aq JZ (au y6.2) (aa rfl)) (aq Km (au y6.1) (aa rfl))) (aJ (aa rfl) (fun _=>rfl)) (aZ rfl) (fun(y8:Unit)=>(jG (Ea vG (aa rfl)) (fun b x=>Kz a__law_script d3 y6.1 b x) rfl (fun(y9:Unit)=>(aJ (aa rfl) (fun _=>rfl))))))))))))))))))))
end Sw.k05
namespace Sw.k05
open PySem PySem.Spec PyProof.Rows L2 Sw
theorem vS (sc:Scr) (k:Int) (h:0<=k):bN sc k=some (sc.l.getD k.toNat 0):=by
 unfold bN
 by_cases hk:k<sc.l.length
 ·have h2:k.toNat<sc.l.length:=by omega
  simp[hk,T.Ko h hk,List.getD_eq_getElem?_getD,List.getElem?_eq_getElem h2]
 ·have:sc.l.getD k.toNat 0=0:=by
   rw[List.getD_eq_getElem?_getD,List.getElem?_eq_none (by omega)];rfl
  rw[this]
  simp[hk]
def BV (c k:Int):Int:=
 let n:=(c%2147483629+7919*k+12345)%2147483629
 let m:=(n*n+104729*k)%2147483629
 (m+k)*(m+k)%2147483587
theorem uQ (c k:Int):0<=BV c k:=Int.emod_nonneg _ (by decide)
theorem vT (c k:Int) (h1: -1000000<=k) (h2:k<=1000000):cE c k=some (BV c k):=by
 unfold cE BV
 simp only[ak,T.eW,Option.bind_some,T.bE (b:=2147483629) (by decide),T.qP (a:=7919) (by decide) (by decide)]
 generalize hn:(c%2147483629+7919*k+12345)%2147483629=n
 have n0:0<=n:=by rw[<-hn];exact Int.emod_nonneg _ (by decide)
 have n1:n<2147483629:=by rw[<-hn];exact Int.emod_lt_of_pos _ (by decide)
 rw[T.qP (a:=n) (by omega) (by omega)]
 simp only[ak,T.eW,Option.bind_some,T.bE (b:=2147483629) (by decide),T.qP (a:=104729) (by decide) (by decide)]
 generalize hm:(n*n+104729*k)%2147483629=m
 have m0:0<=m:=by rw[<-hm];exact Int.emod_nonneg _ (by decide)
 have m1:m<2147483629:=by rw[<-hm];exact Int.emod_lt_of_pos _ (by decide)
 rw[T.qP (a:=m+k) (by omega) (by omega)]
 simp only[ak,T.eW,Option.bind_some,T.bE (b:=2147483587) (by decide),yO,Kr]
def Let (x:Str):Prop:= ∀c∈TL.tl x,97<=c/\c<123
structure pQ (s:T3 Str Int Str):Prop where
 grp:s.a∈[("O" :Str),"A","B","AB"]
 lo:1<=s.b
 hi:s.b<=99
 rise:(TL.tl s.c).Pairwise (· < ·)
 low:Let s.c
 len:(TL.tl s.c).length<=26
structure Lo (s:T3 Str Int Str):Prop where
 grp:s.a∈[("O" :Str),"A","B","AB"]
 lo:0<=s.b
 hi:s.b<=100
 rise:(TL.tl s.c).Pairwise (· < ·)
 low:Let s.c
 len:(TL.tl s.c).length<=26
theorem pQ.w {s:T3 Str Int Str} (h:pQ s):Lo s:=⟨h.grp,by have:=h.lo;omega,by have:=h.hi;omega,h.rise,h.low,h.len⟩
def num (i:Int):Str:=toString i
theorem pR {i:Int} (h:0<=i):TL.tl (num i)=TL.numL i.toNat:=by
 have:=TL.tl_num i.toNat
 rw[Int.toNat_of_nonneg h] at this
 exact this
theorem Ex {i:Int} (h:0<=i) (h2:i<=1000001):(TL.tl (num i)).length<=7:=by
 rw[pR h]
 exact TL.numL_len (by decide) (by omega)
theorem FQ {i:Int} (h:0<=i) (h2:i<=1000001):i.natAbs.log2<1920:=by
 by_cases z:i.natAbs=0
 ·rw[z];decide
 ·rw[Nat.log2_lt z]
  exact Nat.lt_of_lt_of_le (show i.natAbs<2^20 by omega) (Nat.pow_le_pow_right (by decide) (by decide))
def mk (s:T3 Str Int Str):Str:=if s.c=("" :Str) then "-" else s.c
def hd (c:T5 Str Int Int (T3 Str Int Str) (T3 Str Int Str)):Str:=Txt.join " " [c.a,num c.b,num c.c]
theorem uR:TL.tl (" " :Str)=[32]:=rfl
theorem Ey {s:T3 Str Int Str} (h:Lo s):(TL.tl s.a).length<=2/\ ∀c∈TL.tl s.a,65<=c/\c<91:=by
 have:=h.grp
 simp only[List.mem_cons,List.not_mem_nil,or_false] at this
 rcases this with e|e|e|e <;> (rw[e];decide)
theorem vU {i:Int} (h:0<=i): ∀c∈TL.tl (num i),48<=c/\c<58:=fun c hc=>by
 rw[pR h] at hc
 have:=TL.numL_digits _ c hc
 omega
theorem sY {a b:Str} (h:(TL.tl a).length+(TL.tl b).length<=1000):T.iJ a b=some (a++b):=T.zP (by rw[TL.len_tl,TL.len_tl];exact Nat.le_trans h (Nat.le_trans (by decide) big))
theorem Nv {x:Str} (h:Let x):PySem.PyData.strOk x=true:=Low.ok h
theorem Ez {i:Int} (h0:0<=i) (h1:i<26):T.atS vB i=some (sg (97+i.toNat)):=by
 unfold T.atS
 rw[if_pos (by decide+kernel)]
 unfold T.sgs
 rw[A7,atI_nat h0 (by simpa using h1),List.getElem?_map,List.getElem?_map,List.getElem?_range (by omega)]
 rfl
theorem Iv {cs:List Nat} (h:cs.length<=1000):T.join ("" :Str) (cs.map sg)=some ⟨cs.toArray⟩:=by
 unfold T.join
 rw[if_pos,Hg]
 have e1: ∀l:List Nat,(l.map fun _=>1).sum=l.length:=fun l=>by induction l with
  |nil=>rfl
  |cons a l ih=>rw[List.map_cons,List.sum_cons,ih];simp;omega
 have e2:((cs.map sg).map fun x=>x.length)=cs.map fun _=>1:=by rw[List.map_map];rfl
 rw[e2,e1,List.length_map]
 show _+_*0<=_
 omega
theorem Iw {n:Int} (h:0<=n): ∃m,jm n=some m/\(TL.tl m).Pairwise (· < ·)/\Let m/\(TL.tl m).length<=26:=by
 have:=big
 unfold jm
 simp only[Option.bind_some,ak,T.bE (b:=3) (by decide),T.da,aP]
 rw[show ("abcdefghijklmnopqrstuvwxyz" :Str)=vB from rfl]
 by_cases w0:n%3=0
 ·refine⟨"",?_,List.Pairwise.nil,fun c hc=>(by cases hc),by decide⟩
  rw[decide_eq_true w0,if_pos rfl];rfl
 rw[decide_eq_false w0,if_neg Bool.false_ne_true]
 simp only[Option.bind_some,bc]
 by_cases w1:n%3=1
 ·have m0:=Int.emod_nonneg (n/3) (show (26:Int)≠0 by decide)
  have m1:=Int.emod_lt_of_pos (n/3) (show (0:Int)<26 by decide)
  refine⟨sg (97+(n/3%26).toNat),?_,List.pairwise_singleton _ _,fun c hc=> ?_,by show 1<=26;decide⟩
  ·rw[decide_eq_true w1,if_pos rfl,T.jH (by decide) (by decide),ak,T.bE (by decide),ak,Ez m0 m1];rfl
  ·have:c=97+(n/3%26).toNat:=by simpa using (show c∈[97+(n/3%26).toNat] from hc)
   omega
 rw[decide_eq_false w1,if_neg Bool.false_ne_true]
 simp only[Option.bind_some,bc]
 let p:Nat->Bool:=fun i=>decide (n/3/((i:Int)+1)%3=0)
 have lc:tlc (b1 T.qk (some (26:Int))) (fun c5:Int=>b2 T.eqA (b2 T.bT (b2 T.hJ (b2 T.hJ (some n) (some (3:Int))) (b2 T.bP (some c5) (some (1:Int)))) (some (3:Int))) (some (0:Int))) (fun c5:Int=>b2 T.atS (some vB) (some c5))=some ((((List.range 26).filter p).map fun i=>97+i).map sg):=by
  rw[aS,T.vL (by decide) (by decide)]
  rw[CV (fun i:Int=>decide (n/3/(i+1)%3=0)) (fun i=>sg (97+i.toNat)) (by simp;exact Nat.le_trans (by decide) big)]
  ·congr 1
   rw[List.filter_map,List.map_map,List.map_map]
   rfl
  ·intro i hi
   obtain⟨j,hj,rfl⟩:=List.mem_map.mp hi
   have:=List.mem_range.mp hj
   have:(26:Int).toNat=26:=rfl
   rw[ak,T.jH (by decide) (by decide),ak,T.eW,ak,T.jH (by omega) (by omega),ak,T.bE (by decide),ak,T.da]
  ·intro i hi _
   obtain⟨j,hj,rfl⟩:=List.mem_map.mp hi
   have:=List.mem_range.mp hj
   have:(26:Int).toNat=26:=rfl
   rw[ak,Ez (by omega) (by omega)]
 have fl:=List.length_filter_le p (List.range 26)
 rw[List.length_range] at fl
 simp only[ak] at lc
 rw[lc]
 refine⟨⟨(((List.range 26).filter p).map fun i=>97+i).toArray⟩,?_,?_,fun c hc=> ?_,?_⟩
 ·rw[ak,Iv (by rw[List.length_map];omega)];rfl
 ·show (((List.range 26).filter p).map fun i=>97+i).Pairwise (· < ·)
  rw[List.pairwise_map]
  exact (List.pairwise_lt_range.sublist List.filter_sublist).imp fun h=>by omega
 ·obtain⟨i,hi,rfl⟩:=List.mem_map.mp (show c∈((List.range 26).filter p).map fun i=>97+i from hc)
  have:=List.mem_range.mp (List.mem_filter.mp hi).1
  omega
 ·show (((List.range 26).filter p).map fun i=>97+i).length<=26
  rw[List.length_map];omega
theorem EA (c k:Int) (h1: -1000000<=k) (h2:k<=1000000): ∃s,eR c k=some s/\pQ s:=by
 unfold eR
 rw[ak,vT c k h1 h2]
 have n0:=uQ c k
 generalize BV c k=d at n0
 obtain⟨m,em,m1,m2,m3⟩:=Iw (n:=d/400) (by omega)
 have d0:=Int.emod_nonneg d (show (4:Int)≠0 by decide)
 have d1:=Int.emod_lt_of_pos d (show (0:Int)<4 by decide)
 have s0:=Int.emod_nonneg (d/4) (show (99:Int)≠0 by decide)
 have s1:=Int.emod_lt_of_pos (d/4) (show (0:Int)<99 by decide)
 rw[Option.bind_some]
 simp only[T.l8,T.OQ,ak,T.bE (b:=4) (by decide),T.jH (b:=4) (by decide) (by decide),T.jH (b:=400) (by decide) (by decide),T.bE (b:=99) (by decide),T.eW,aS,em]
 rw[T.p7 d0 (by show d%4<4;omega)]
 exact⟨_,rfl,List.getElem_mem _,by show 1<=1+_;omega,by show 1+_<=99;omega,m1,m2,m3⟩
def dig (c:Nat):Bool:=decide (48<=c/\c<=57)
def low (c:Nat):Bool:=decide (97<=c/\c<=122)
def rA (x:Str) (k:Int):Bool:=decide ((1:Int)<=(x.length:Int))&&decide ((x.length:Int)<=k)
def hd0 (l:List Nat):Bool:=match l with
 | []=>false
 |c::r=>decide (c=48)&& !decide (r=[])
def wrB (x:Str):Bool:=(TL.tl x).all dig&&(rA x 12&& !hd0 (TL.tl x))
def lU (x:Str):Xn:=⟨"NoRow",[("row",en x)]⟩
theorem ltl {x:Str}:x.length=(TL.tl x).length:=TL.len_tl x
theorem Iy {x:Str} (h:x.length<=2000):T.o7 x=some (x.length:Int):=T.Kq (by have:=big;omega)
theorem Au {ρ:Type} {step:Unit->Str->Option (TO Unit Unit ρ)} {p:Nat->Bool} {r:ρ}: ∀(l:List Nat),(∀c∈l,step () ⟨#[c]⟩=some (if p c=true then .nx () else .ret r))->cY step (l.map fun c=>(⟨#[c]⟩:Str)) ()=some (if l.all p=true then .fin () else .ret r)
 | [],_=>rfl
 |c::l,h=>by
  show (step () ⟨#[c]⟩).bind _=_
  rw[h c List.mem_cons_self]
  by_cases q:p c=true
  ·rw[if_pos q,List.all_cons,q,Bool.true_and]
   exact Au l fun c hc=>h c (List.mem_cons_of_mem _ hc)
  ·rw[if_neg q,List.all_cons,Bool.eq_false_iff.mpr q];rfl
theorem EB {ρ:Type} {step:Unit->Str->Option (TO Unit Unit ρ)} {p:Nat->Bool} {e:Xn}: ∀(l:List Nat),(∀c∈l,step () ⟨#[c]⟩=some (if p c=true then .nx () else .exc e))->cY step (l.map fun c=>(⟨#[c]⟩:Str)) ()=some (if l.all p=true then .fin () else .exc e)
 | [],_=>rfl
 |c::l,h=>by
  show (step () ⟨#[c]⟩).bind _=_
  rw[h c List.mem_cons_self]
  by_cases q:p c=true
  ·rw[if_pos q,List.all_cons,q,Bool.true_and]
   exact EB l fun c hc=>h c (List.mem_cons_of_mem _ hc)
  ·rw[if_neg q,List.all_cons,Bool.eq_false_iff.mpr q];rfl
theorem KA:("0123456789" :Str).cps.toList=[48,49,50,51,52,53,54,55,56,57]:=by decide+kernel
theorem Pb (c:Nat):T.ql true ⟨#[c]⟩ ("0123456789" :Str)=some (!dig c):=by
 show some (!decide (c∈("0123456789" :Str).cps.toList))=_
 congr 2
 unfold dig
 rw[decide_eq_decide,KA]
 simp only[List.mem_cons,List.not_mem_nil,or_false]
 omega
theorem lt1 (c d:Nat):cD ⟨#[c]⟩ ⟨#[d]⟩↔c<d:=by
 show [c]<[d]↔_
 rw[List.cons_lt_cons_iff]
 simp
theorem chS (a c b:Nat):Bg T.leS T.leS (some (⟨#[a]⟩:Str)) (some ⟨#[c]⟩) (some ⟨#[b]⟩)=some (decide (a<=c/\c<=b)):=by
 unfold Bg
 simp only[Option.bind_some,T.Nf]
 rw[decide_eq_decide.mpr (lt1 c a),decide_eq_decide.mpr (lt1 b c)]
 by_cases h:c<a
 ·rw[decide_eq_true h,decide_eq_false (show ¬(a<=c/\c<=b) by omega)];rfl
 ·rw[decide_eq_false h]
  show some (!decide (b<c))=_
  congr 1
  by_cases g:b<c
  ·rw[decide_eq_true g,decide_eq_false (show ¬(a<=c/\c<=b) by omega)];rfl
  ·rw[decide_eq_false g,decide_eq_true (show a<=c/\c<=b by omega)];rfl
theorem chI (a n b:Int):Bg T.leI T.leI (some a) (some n) (some b)=some (decide (a<=n)&&decide (n<=b)):=by
 unfold Bg
 simp only[Option.bind_some,T.CT]
 cases decide (a<=n) <;> rfl
theorem at0 {x:Str} {c:Nat} {r:List Nat} (h:x.length<=2000) (e:TL.tl x=c::r):T.atS x 0=some ⟨#[c]⟩:=by
 have:=big
 unfold T.atS T.sgs
 rw[if_pos (by omega),show x.cps.toList=c::r from e,atI_nat (by decide) (by simp)];rfl
theorem c0 (c:Nat):decide ((⟨#[c]⟩:Str)=("0" :Str))=decide (c=48):=by
 rw[decide_eq_decide]
 constructor
 ·intro q
  have:[c]=[48]:=congrArg TL.tl q
  simpa using this
 ·rintro rfl;rfl
theorem headOf {x:Str} {k:Int} (h:rA x k=true): ∃c r,TL.tl x=c::r:=by
 cases e:TL.tl x with
 |cons c r=>exact⟨c,r,rfl⟩
 |nil=>
  exfalso
  have:=of_decide_eq_true (Bool.and_eq_true_iff.mp h).1
  rw[ltl,e] at this
  simp at this
def yq (x:Str):Int:=((PySem.NumText.digitsVal (TL.tl x):Nat):Int)
theorem intD {x:Str} (h1:(TL.tl x).all dig=true) (h3:rA x 12=true):T.qm x=some (yq x):=by
 obtain⟨c,r,e⟩:=headOf h3
 have l:=of_decide_eq_true (Bool.and_eq_true_iff.mp h3).2
 unfold T.qm
 rw[if_pos (by omega)]
 exact PySem.intText_digits (fun c hc=>of_decide_eq_true (List.all_eq_true.mp h1 c hc)) (by rw[show x.cps.toList=c::r from e];simp) (by omega)
def KC (x:Str):Option Int:=if wrB x=true then some (yq x) else none
def Pc {A:Type} (x:Str) (o:Option A):Xn ⊕ A:=match o with
 |some a=>.inr a
 |none=>.inl (lU x)
theorem numL_val: ∀(r:List Nat),(∀c∈r,48<=c/\c<=57)->r≠[]->hd0 r.reverse=false->TL.numL (PySem.NumText.digitsVal r.reverse)=r.reverse
 | [],_,n,_=>absurd rfl n
 |d::r,hd,_,h0=>by
  have hd':=hd d List.mem_cons_self
  have e:PySem.NumText.digitsVal (d::r).reverse=PySem.NumText.digitsVal r.reverse*10+(d -48):=by
   unfold PySem.NumText.digitsVal
   rw[List.reverse_cons,List.foldl_append];rfl
  rw[e,List.reverse_cons]
  cases q:r with
  |nil=>
   show TL.numL (0*10+(d -48))=[d]
   rw[TL.numL_lt (by omega)]
   congr 1;omega
  |cons a b=>
   rw[<-q]
   have rn:r≠[]:=by rw[q];simp
   have h1:hd0 r.reverse=false:=by
    cases z:r.reverse with
    |nil=>rfl
    |cons x y=>
     rw[List.reverse_cons,z] at h0
     have h0':(decide (x=48)&& !decide (y++[d]=[]))=false:=h0
     have:decide (x=48)=false:=by
      cases w:decide (x=48) with
      |false=>rfl
      |true=>rw[w] at h0';simp at h0'
     show (decide (x=48)&& !decide (y=[]))=false
     rw[this];rfl
   have ih:=numL_val r (fun c hc=>hd c (List.mem_cons_of_mem _ hc)) rn h1
   have pos:1<=PySem.NumText.digitsVal r.reverse:=by
    cases w:PySem.NumText.digitsVal r.reverse with
    |succ n=>omega
    |zero=>
     exfalso
     rw[w,TL.numL_lt (by omega)] at ih
     rw[<-ih] at h1
     have e48:r.reverse=[48]:=ih.symm
     rw[List.reverse_cons,e48] at h0
     exact absurd h0 (by simp[hd0])
   rw[TL.numL_step (by omega),show (PySem.NumText.digitsVal r.reverse*10+(d -48))/10=PySem.NumText.digitsVal r.reverse by omega,ih,show 48+(PySem.NumText.digitsVal r.reverse*10+(d -48))%10=d by omega]
theorem Av (x:Str):0<=yq x:=Int.natCast_nonneg _
theorem EC {x:Str} (h:wrB x=true):x=num (yq x):=by
 obtain⟨h1,h2⟩:=Bool.and_eq_true_iff.mp h
 obtain⟨h3,h4⟩:=Bool.and_eq_true_iff.mp h2
 obtain⟨c,r,e⟩:=headOf h3
 refine TL.ext_tl ?_
 rw[pR (Av x)]
 have:=numL_val (TL.tl x).reverse (fun c hc=>of_decide_eq_true (List.all_eq_true.mp h1 c (List.mem_reverse.mp hc))) (by rw[e];simp) (by rw[List.reverse_reverse];simpa using h4)
 rw[List.reverse_reverse] at this
 exact this.symm
theorem ED {i:Int} (h:0<=i) (h2:i<=1000001):wrB (num i)=true/\yq (num i)=i:=by
 have l:=Ex h h2
 have n1:1<=(TL.tl (num i)).length:=by
  rw[pR h]
  exact List.length_pos_iff.mpr (TL.numL_ne _)
 have d:(TL.tl (num i)).all dig=true:=List.all_eq_true.mpr fun c hc=>decide_eq_true (by have:=vU h c hc;omega)
 have lb:rA (num i) 12=true:=by
  unfold rA
  rw[ltl,decide_eq_true (by omega),decide_eq_true (by omega)];rfl
 have h0:hd0 (TL.tl (num i))=false:=by
  rw[pR h]
  by_cases z:i.toNat<10
  ·rw[TL.numL_lt z];simp[hd0]
  ·rw[TL.numL_step (by omega)]
   have: ∀(n:Nat),1<=n-> ∃d r,TL.numL n=d::r/\d≠48:=fun n=>by
    induction n using Nat.strongRecOn with
    |_ n ih=>
     intro h
     by_cases z:n<10
     ·exact⟨48+n,[],TL.numL_lt z,by omega⟩
     ·obtain⟨d,r,e,h2⟩:=ih (n/10) (by omega) (by omega)
      exact⟨d,r++[48+n%10],by rw[TL.numL_step (by omega),e];rfl,h2⟩
   obtain⟨d,r,e,hd⟩:=this (i.toNat/10) (by omega)
   rw[e]
   show (decide (d=48)&&_)=false
   rw[decide_eq_false hd];rfl
 refine⟨by unfold wrB;rw[d,lb,h0];rfl,?_⟩
 have e:=TL.int_num (n:=i.toNat) (by rw[<-pR h];omega)
 rw[Int.toNat_of_nonneg h] at e
 have e2:=intD d lb
 unfold T.qm at e2
 rw[if_pos (by rw[ltl];omega)] at e2
 exact Option.some.inj (e2.symm.trans e)
theorem EE {x:Str} (h:x.length<=2000):cW x=some (Pc x (KC x)):=by
 unfold cW
 rw[aS,Iy h,chI,ak]
 change tX0 (c9 (orB (o8 (some (rA x 12))) _) _ _ _)=_
 have cond:orB (o8 (some (rA x 12))) (lL (T.gtI (x.length:Int) 1) (b2 T.eqA (b2 T.atS (some x) (some (0:Int))) (some ("0" :Str))))=some (!rA x 12||hd0 (TL.tl x)):=by
  rw[tG,pC]
  cases q:rA x 12 with
  |false=>rfl
  |true=>
   obtain⟨c,r,e⟩:=headOf q
   rw[Bool.not_true,if_neg Bool.false_ne_true,Bool.false_or,T.wY,iB,ak,at0 h e,ak,T.da,c0,e]
   have:decide ((1:Int)<(x.length:Int))= !decide (r=[]):=by
    rw[ltl,e]
    cases r with
    |nil=>rfl
    |cons a r=>rw[decide_eq_true (by simp only[List.length_cons];omega)];rfl
   rw[this]
   show (if (!decide (r=[]))=true then some (decide (c=48)) else some false)=some (decide (c=48)&& !decide (r=[]))
   cases decide (c=48) <;> cases decide (r=[]) <;> rfl
 rw[cond,aP]
 unfold KC wrB
 cases q1:rA x 12 with
 |false=>rw[Bool.false_and,Bool.and_false,if_neg Bool.false_ne_true];rfl
 |true=>
  cases q2:hd0 (TL.tl x) with
  |true=>rw[Bool.not_true,Bool.and_false,Bool.and_false,if_neg Bool.false_ne_true];rfl
  |false=>
   rw[Bool.not_true,Bool.false_or,if_neg Bool.false_ne_true,Option.bind_some,bc,aS,T.vM,dB,Bool.not_false,Bool.and_true,Bool.and_true]
   change tX0 ((cY (gV x) ((TL.tl x).map fun c=>(⟨#[c]⟩:Str)) ()).bind _)=_
   rw[EB (p:=dig) (e:=lU x) (TL.tl x) fun c hc=>by
    unfold gV
    rw[ak,Pb,aP]
    cases dig c <;> rfl]
   cases q3:(TL.tl x).all dig with
   |false=>rfl
   |true=>rw[if_pos rfl,if_pos rfl,Option.bind_some,sy,aS,intD q3 q1];rfl
theorem Lp (c:Nat) (r:List Nat):TL.pre [32] (c::r)=decide (c=32):=by
 unfold TL.pre
 show ((c::r).take 1==[32])=_
 rw[List.take_succ_cons,List.take_zero,Bool.eq_iff_iff,beq_iff_eq,decide_eq_true_eq]
 simp
theorem EF: ∀(l acc:List Nat),32∉acc->TL.joinL [32] (TL.spl [32] 0 acc l)=acc++l/\(∀p∈TL.spl [32] 0 acc l,32∉p)/\TL.spl [32] 0 acc l≠[]
 | [],acc,h=>by
  rw[TL.spl_nil,List.append_nil]
  exact⟨rfl,fun p hp=>by rw[List.mem_singleton.mp hp];exact h,by simp⟩
 |c::r,acc,h=>by
  by_cases q:c=32
  ·rw[TL.spl_hit (by rw[Lp,decide_eq_true q])]
   obtain⟨h1,h2,h3⟩:=EF r [] (by simp)
   show TL.joinL [32] (acc::TL.spl [32] 0 [] r)=_/\_
   refine⟨?_,fun p hp=> ?_,by simp⟩
   ·cases e:TL.spl [32] 0 [] r with
    |nil=>exact absurd e h3
    |cons a b=>
     rw[e] at h1
     show acc++([32]++TL.joinL [32] (a::b))=_
     rw[h1,q];rfl
   ·rcases List.mem_cons.mp hp with rfl|hp
    ·exact h
    ·exact h2 p hp
  ·rw[TL.spl_miss (by rw[Lp,decide_eq_false q])]
   obtain⟨h1,h2,h3⟩:=EF r (acc++[c]) (fun m=>by
    rcases List.mem_append.mp m with m|m
    ·exact h m
    ·exact q (by simpa using (List.mem_singleton.mp m).symm))
   exact⟨by rw[h1,List.append_assoc];rfl,h2,h3⟩
def words (x:Str):List Str:=Txt.split x " "
theorem words_tl (x:Str):(words x).map TL.tl=TL.spl [32] 0 [] (TL.tl x):=TL.split_spl x " " (by decide+kernel) (TL.kind_ok (by decide+kernel))
theorem Iz (x:Str):words x≠[]:=fun e=>(EF (TL.tl x) [] (by simp)).2.2 (by rw[<-words_tl,e];rfl)
theorem rB (x:Str):Txt.join " " (words x)=x:=by
 refine TL.ext_tl ?_
 rw[TL.join_eq,TL.tl_join,uR,words_tl,(EF (TL.tl x) [] (by simp)).1,List.nil_append]
theorem words_of {ws:List Str} (h:ws≠[]) (hn: ∀w∈ws,32∉TL.tl w):words (Txt.join " " ws)=ws:=TL.split_join (s:=32) (S:=[]) rfl (by decide+kernel) h hn
theorem IA {x:Str} (h:x.length<=2000):T.split x " " =some (words x):=by
 have:=big
 unfold T.split
 rw[if_pos ⟨by decide+kernel,by omega⟩];rfl
theorem BW (w:Str): ∀(ws:List Str),w∈ws->(TL.tl w).length<=(TL.joinL [32] (ws.map TL.tl)).length
 | [a],h=>by rw[List.mem_singleton.mp h];exact Nat.le_refl _
 |a::b::r,h=>by
  show _<=(TL.tl a++([32]++TL.joinL [32] ((b::r).map TL.tl))).length
  rw[List.length_append,List.length_append]
  rcases List.mem_cons.mp h with rfl|h
  ·omega
  ·have:=BW w (b::r) h
   omega
theorem FT {x w:Str} (h:w∈words x):w.length<=x.length:=by
 rw[ltl,ltl]
 have:=BW w (words x) h
 rw[<-uR,←TL.tl_join,←TL.join_eq,rB] at this
 exact this
theorem EG {S:List Nat}: ∀(l acc a b:List Nat),TL.par S acc l=some (a,b)->acc++l=a++(S++b)
 | [],_,_,_,h=>by cases h
 |c::r,acc,a,b,h=>by
  cases q:TL.pre S (c::r) with
  |true=>
   rw[TL.par_hit q] at h
   cases h
   have e:(c::r).take S.length=S:=eq_of_beq q
   rw[<-e,List.length_take,←List.append_assoc,List.append_assoc]
   congr 1
   have:min S.length (c::r).length=S.length:=by
    have:=congrArg List.length e
    rw[List.length_take] at this
    exact this
   rw[this,List.take_append_drop]
  |false=>
   rw[TL.par_miss q] at h
   have:=EG r (acc++[c]) a b h
   rw[<-this,List.append_assoc];rfl
theorem KD (x y:Str) (hy:TL.tl y≠[]):(x=(Txt.partition x y).1++y++(Txt.partition x y).2.2)\/Txt.partition x y=(x,Str.empty,Str.empty):=by
 rw[TL.partition_par x y hy]
 cases q:TL.par (TL.tl y) [] (TL.tl x) with
 |none=>exact .inr rfl
 |some p=>
  obtain⟨a,b⟩:=p
  refine .inl (TL.ext_tl ?_)
  have:=EG _ _ _ _ q
  rw[List.nil_append] at this
  rw[this,TL.tl_append,TL.tl_append,List.append_assoc]
theorem Pd {x y:Str} (hy:(y.length==0)=false) (h:x.length<=2000):T.part x y=some ⟨(Txt.partition x y).1,(Txt.partition x y).2.1,(Txt.partition x y).2.2⟩:=by
 have:=big
 unfold T.part
 rw[if_pos ⟨hy,by omega⟩]
def nbl (d:Nat):List Nat->Prop
 | []=>True
 |c::r=>(c=32-> ∃e s,r=e::s/\e≠d)/\nbl d r
theorem sZ {d:Nat}: ∀{l:List Nat},32∉l->nbl d l
 | [],_=>trivial
 |c::r,h=>⟨fun e=>absurd (by rw[e];exact List.mem_cons_self) h,sZ fun m=>h (List.mem_cons_of_mem _ m)⟩
theorem EH {d:Nat}: ∀{a b:List Nat},nbl d a->nbl d b->nbl d (a++b)
 | [],_,_,h=>h
 |c::r,b,h,g=>⟨fun e=>by
   obtain⟨x,s,e1,e2⟩:=h.1 e
   exact⟨x,s++b,by rw[e1];rfl,e2⟩,EH h.2 g⟩
theorem Aw {d:Nat} {S:List Nat} (q:List Nat): ∀{p:List Nat},nbl d p-> ∀i,i<p.length->TL.pre (32::d::S) ((p++q).drop i)=false
 | [],_,i,h=>absurd h (by simp)
 |c::r,h,0,_=>by
  by_cases e:c=32
  ·obtain⟨x,s,e1,e2⟩:=h.1 e
   rw[e1,e]
   unfold TL.pre
   show ((32::x::(s++q)).take (S.length+1+1)==32::d::S)=false
   rw[List.take_succ_cons,List.take_succ_cons,beq_eq_false_iff_ne]
   intro z
   injection z with _ z
   injection z with z _
   exact e2 z
  ·exact TL.pre_of_head _ _ e
 |c::r,h,i+1,hi=>Aw q h.2 i (by simpa using hi)
theorem EI {d:Nat} {S:List Nat}: ∀{parts:List (List Nat)},parts≠[]->(∀p∈parts,nbl d p)->TL.spl (32::d::S) 0 [] (TL.joinL (32::d::S) parts)=parts
 | [a],_,h=>by
  show TL.spl _ 0 [] a=[a]
  rw[TL.spl_last fun i hi=>by
   have:=Aw (S:=S) [] (h a List.mem_cons_self) i hi
   rwa[List.append_nil] at this]
  rfl
 |a::b::r,_,h=>by
  show TL.spl _ 0 [] (a++((32::d::S)++TL.joinL _ (b::r)))=_
  rw[TL.spl_part (by simp) (Aw _ (h a List.mem_cons_self)),EI (by simp) fun p hp=>h p (List.mem_cons_of_mem _ hp)]
  rfl
theorem qh {y:Str} {d:Nat} {S:List Nat} (ey:TL.tl y=32::d::S) (hk:y.cps.all (· <256)=true) {parts:List Str} (hne:parts≠[]) (h: ∀p∈parts,nbl d (TL.tl p)):Txt.split (Txt.join y parts) y=parts:=by
 refine TL.map_tl_inj ?_
 rw[TL.split_spl _ _ (by rw[ey];simp) (TL.kind_ok hk),TL.join_eq,TL.tl_join,ey,EI (by simpa using hne) fun p hp=>by
  obtain⟨x,hx,rfl⟩:=List.mem_map.mp hp
  exact h x hx]
def Wd (d:Nat) (l:List Nat):Prop:=(∃c r,l=c::r/\c≠d)/\nbl d l
theorem Wd.and {d:Nat} (hd:d≠97): ∀{parts:List (List Nat)},parts≠[]->(∀p∈parts,Wd d p)->Wd d (TL.joinL [32,97,110,100,32] parts)
 | [a],_,h=>h a List.mem_cons_self
 |a::b::r,_,h=>by
  obtain⟨⟨c,s,e,n⟩,z⟩:=h a List.mem_cons_self
  obtain⟨⟨c',s',e',n'⟩,z'⟩:=Wd.and hd (parts:=b::r) (by simp) fun p hp=>h p (List.mem_cons_of_mem _ hp)
  show Wd d (a++([32,97,110,100,32]++TL.joinL [32,97,110,100,32] (b::r)))
  refine⟨⟨c,_,by rw[e];rfl,n⟩,EH z ⟨fun _=>⟨97,_,rfl,fun q=>hd q.symm⟩,fun q=>absurd q (by decide),fun q=>absurd q (by decide),fun q=>absurd q (by decide),fun _=>⟨c',s',e',n'⟩,z'⟩⟩
def noL:Nat->List Nat
 |0=>[]
 |k+1=>110::111::32::noL k
def noS (k:Nat):Str:=⟨(noL k).toArray⟩
theorem vW: ∀k,(noL k).length=3*k
 |0=>rfl
 |k+1=>by show (noL k).length+1+1+1=_;rw[vW k];omega
theorem Wd.no {d:Nat} (hd:d≠110) {l:List Nat} (h:Wd d l): ∀k,Wd d (noL k++l)
 |0=>h
 |k+1=>by
  obtain⟨⟨c,s,e,n⟩,z⟩:=Wd.no hd h k
  exact⟨⟨110,_,rfl,fun q=>hd q.symm⟩,fun q=>absurd q (by decide),fun q=>absurd q (by decide),fun _=>⟨c,s,e,n⟩,z⟩
theorem Nw: ∀{k:Nat},k<=5->T.qo ("no " :Str) (k:Int)=some (noS k)
 |0,_=>by unfold T.qo;rw[k8 (by unfold MulOk;decide+kernel)];rfl
 |1,_=>by unfold T.qo;rw[k8 (by unfold MulOk;decide+kernel)];rfl
 |2,_=>by unfold T.qo;rw[k8 (by unfold MulOk;decide+kernel)];rfl
 |3,_=>by unfold T.qo;rw[k8 (by unfold MulOk;decide+kernel)];rfl
 |4,_=>by unfold T.qo;rw[k8 (by unfold MulOk;decide+kernel)];rfl
 |5,_=>by unfold T.qo;rw[k8 (by unfold MulOk;decide+kernel)];rfl
 |k+6,h=>absurd h (by omega)
abbrev Tm:=T3 Int Str Int
structure gJ (t:Tm):Prop where
 t0:0<=t.a
 t5:t.a<=5
 kind:t.b=("groups" :Str)\/t.b=("marks" :Str)\/t.b=("sizes" :Str)
 b0:0<=t.c
 b98:t.c<=98
def bsS (t:Tm):Str:=if t.b=("sizes" :Str) then ("sizes " :Str)++num t.c else t.b
def tmS (t:Tm):Str:=noS t.a.toNat++bsS t
theorem pU:TL.tl ("sizes " :Str)=[115,105,122,101,115,32]:=rfl
theorem xR {i:Int} (h:0<=i) (h2:i<=98): ∃c r,TL.tl (num i)=c::r/\48<=c/\c<58/\32∉TL.tl (num i)/\(TL.tl (num i)).length<=2:=by
 have l:(TL.tl (num i)).length<=2:=by
  rw[pR h]
  exact TL.numL_len (by decide) (by omega)
 have f:32∉TL.tl (num i):=fun m=>by have:=vU h 32 m;omega
 cases e:TL.tl (num i) with
 |nil=>rw[pR h] at e;exact absurd e (TL.numL_ne _)
 |cons c r=>
  have:=vU h c (by rw[e];exact List.mem_cons_self)
  rw[e] at f l
  exact⟨c,r,rfl,by omega,by omega,f,l⟩
theorem IB {t:Tm} (h:gJ t) {d:Nat} (hd:d=97\/d=111):Wd d (TL.tl (bsS t))/\(TL.tl (bsS t)).length<=8/\ ∃c r,TL.tl (bsS t)=c::r/\c≠110:=by
 unfold bsS
 rcases h.kind with e|e|e
 ·rw[e,if_neg (by decide+kernel)]
  refine⟨⟨⟨103,_,rfl,by omega⟩,sZ (by decide)⟩,by decide,103,_,rfl,by decide⟩
 ·rw[e,if_neg (by decide+kernel)]
  refine⟨⟨⟨109,_,rfl,by omega⟩,sZ (by decide)⟩,by decide,109,_,rfl,by decide⟩
 ·rw[e,if_pos rfl,TL.tl_append,pU]
  obtain⟨c,r,e1,e2,e3,e4,e5⟩:=xR h.b0 h.b98
  refine⟨⟨⟨115,_,rfl,by omega⟩,?_⟩,by rw[List.length_append];show 6+_<=8;omega,115,_,rfl,by decide⟩
  exact⟨fun q=>absurd q (by decide),fun q=>absurd q (by decide),fun q=>absurd q (by decide),fun q=>absurd q (by decide),fun q=>absurd q (by decide),fun _=>⟨c,r,e1,by omega⟩,sZ e4⟩
theorem mF (k:Nat):TL.tl (noS k)=noL k:=rfl
theorem BX {t:Tm} (h:gJ t) {d:Nat} (hd:d=97\/d=111):Wd d (TL.tl (tmS t))/\(TL.tl (tmS t)).length<=23:=by
 obtain⟨h1,h2,_⟩:=IB h hd
 unfold tmS
 rw[TL.tl_append,mF]
 refine⟨Wd.no (by omega) h1 _,?_⟩
 rw[List.length_append,vW]
 have:=h.t5
 omega
theorem Pe {t:Tm} (h:gJ t):eB t=some (tmS t):=by
 have k5:t.a.toNat<=5:=by have:=h.t5;omega
 have mu:T.qo ("no " :Str) t.a=some (noS t.a.toNat):=by
  have:=Nw k5
  rwa[Int.toNat_of_nonneg h.t0] at this
 have l0:(TL.tl (noS t.a.toNat)).length<=15:=by rw[mF,vW];omega
 obtain⟨_,_,_,_,_,_,nl⟩:=xR h.b0 h.b98
 unfold eB tmS bsS
 rw[aS,show T.un3 t=some (t.a,t.b,t.c) from rfl,Option.bind_some]
 simp only[ak,T.da,aP]
 rw[mu]
 by_cases e:t.b=("sizes" :Str)
 ·rw[decide_eq_true e,if_pos rfl,if_pos e,aS,show T.Cj t.c=some (num t.c) from if_pos (FQ h.b0 (by have:=h.b98;omega)),ak,sY (by rw[pU];show _+6<=_;omega),ak,sY (by rw[TL.tl_append,List.length_append,pU];show _+6+_<=_;omega),yO]
  show some _=some _
  congr 1
  refine TL.ext_tl ?_
  simp only[TL.tl_append,List.append_assoc]
 ·have lb:(TL.tl t.b).length<=8:=by
   rcases h.kind with q|q|q
   ·rw[q];decide
   ·rw[q];decide
   ·exact absurd q e
  rw[decide_eq_false e,if_neg Bool.false_ne_true,if_neg e,Option.bind_some,bc,ak,sY (by omega)];rfl
abbrev Alt:=List (List Tm)
def EJ (a:Alt):Prop:=(1<=a.length/\a.length<=3)/\ ∀ts∈a,(1<=ts.length/\ts.length<=3)/\ ∀t∈ts,gJ t
def jE (ts:List Tm):Str:=Txt.join " and " (ts.map tmS)
def jF (a:Alt):Str:=Txt.join " or " (a.map jE)
theorem BY {S:List Nat} (B:Nat): ∀(ls:List (List Nat)),(∀l∈ls,l.length<=B)->(TL.joinL S ls).length<=ls.length*(B+S.length)
 | [],_=>by show 0<=_;omega
 | [a],h=>by
  have:=h a List.mem_cons_self
  show a.length<=1*(B+S.length);omega
 |a::b::r,h=>by
  have h1:=h a List.mem_cons_self
  have h2:=BY (S:=S) B (b::r) fun l hl=>h l (List.mem_cons_of_mem _ hl)
  show (a++(S++TL.joinL S (b::r))).length<=(r.length+1+1)*(B+S.length)
  rw[List.length_append,List.length_append]
  rw[show (b::r).length=r.length+1 from rfl] at h2
  rw[Nat.add_mul (r.length+1) 1]
  omega
theorem IC {B:Nat}: ∀(ws:List Str),(∀w∈ws,w.length<=B)->(ws.map (·.length)).sum<=ws.length*B
 | [],_=>by show 0<=_;omega
 |a::r,h=>by
  have h1:=h a List.mem_cons_self
  have h2:=IC r fun w hw=>h w (List.mem_cons_of_mem _ hw)
  rw[List.map_cons,List.sum_cons,List.length_cons,Nat.add_mul]
  omega
theorem EL {y:Str} {B n:Nat} {ws:List Str} (h: ∀w∈ws,w.length<=B) (hn:ws.length<=n) (hy:n*(B+y.length)<=16000):T.join y ws=some (Txt.join y ws)/\(Txt.join y ws).length<=n*(B+y.length):=by
 have m1:ws.length*(B+y.length)<=n*(B+y.length):=Nat.mul_le_mul_right _ hn
 constructor
 ·unfold T.join
  have:=IC ws h
  rw[if_pos]
  rw[Nat.mul_add] at m1
  omega
 ·rw[ltl,TL.join_eq,TL.tl_join]
  have:=BY (S:=TL.tl y) B (ws.map TL.tl) fun l hl=>by
   obtain⟨w,hw,rfl⟩:=List.mem_map.mp hl
   have:=h w hw
   rwa[ltl] at this
  rw[List.length_map,←ltl] at this
  omega
theorem Dx {ts:List Tm} (h1:1<=ts.length) (h3:ts.length<=3) (h: ∀t∈ts,gJ t):Wd 111 (TL.tl (jE ts))/\(jE ts).length<=84/\T.join (" and " :Str) (ts.map tmS)=some (jE ts)/\Txt.split (jE ts) " and " =ts.map tmS:=by
 have ne:ts≠[]:=fun e=>by rw[e] at h1;exact absurd h1 (by decide)
 have b:=EL (y:=(" and " :Str)) (B:=23) (n:=3) (ws:=ts.map tmS) (fun w hw=>by
  obtain⟨t,ht,rfl⟩:=List.mem_map.mp hw
  rw[ltl];exact (BX (h t ht) (.inl rfl)).2) (by rw[List.length_map];exact h3) (by decide)
 refine⟨?_,b.2,b.1,?_⟩
 ·unfold jE
  rw[TL.join_eq,TL.tl_join]
  refine Wd.and (by decide) (by simpa using ne) fun p hp=> ?_
  obtain⟨w,hw,rfl⟩:=List.mem_map.mp hp
  obtain⟨t,ht,rfl⟩:=List.mem_map.mp hw
  exact (BX (h t ht) (.inr rfl)).1
 ·exact qh (d:=97) (S:=[110,100,32]) rfl (by decide+kernel) (by simpa using ne) fun p hp=>by
   obtain⟨t,ht,rfl⟩:=List.mem_map.mp hp
   exact (BX (h t ht) (.inl rfl)).1.2
theorem Pf {a:Alt} (h:EJ a):eC a=some (jF a)/\(jF a).length<=264/\Txt.split (jF a) " or " =a.map jE:=by
 have:=big
 obtain⟨⟨h1,h3⟩,h⟩:=h
 have ne:a≠[]:=fun e=>by rw[e] at h1;exact absurd h1 (by decide)
 have b:=EL (y:=(" or " :Str)) (B:=84) (n:=3) (ws:=a.map jE) (fun w hw=>by
  obtain⟨t,ht,rfl⟩:=List.mem_map.mp hw
  exact (Dx (h t ht).1.1 (h t ht).1.2 (h t ht).2).2.1) (by rw[List.length_map];exact h3) (by decide)
 refine⟨?_,b.2,?_⟩
 ·unfold eC
  rw[zR jE (by omega) fun ts hts=>by
   rw[zR tmS (by have:=(h ts hts).1.2;omega) fun t ht=>by rw[aS,Pe ((h ts hts).2 t ht)],ak,(Dx (h ts hts).1.1 (h ts hts).1.2 (h ts hts).2).2.2.1],ak,b.1]
  rfl
 ·exact qh (d:=111) (S:=[114,32]) rfl (by decide+kernel) (by simpa using ne) fun p hp=>by
   obtain⟨t,ht,rfl⟩:=List.mem_map.mp hp
   exact (Dx (h t ht).1.1 (h t ht).1.2 (h t ht).2).1.2
abbrev eE:=T3 Str Int Str
def Ans (k:Nat) (r:Fv) (f:eE->eE->Bool):Prop:= ∀n,k<=n-> ∀x y,TC n r x y=some (f x y)
theorem Ans.le {k k':Nat} {r:Fv} {f:eE->eE->Bool} (h:Ans k r f) (l:k<=k'):Ans k' r f:=fun n hn=>h n (Nat.le_trans l hn)
theorem vX {F:FnT} {f:List D->Option FR} {r:List (FnT×(List D->Option FR))}:oM F ((F,f)::r)=some f:=by
 unfold oM;rw[if_pos rfl]
theorem qi {F G:FnT} {f:List D->Option FR} {r:List (FnT×(List D->Option FR))} (h:F.qual≠G.qual):oM F ((G,f)::r)=oM F r:=by
 conv=>lhs;unfold oM
 rw[if_neg fun e=>h (by rw[e])]
theorem Ny (x y:eE):D.evs [en x,en y]=true:=rfl
theorem Ax {n:Nat} {x y:eE} {gl:List (Str×(List D->Option FR))} {cl:List (FnT×(List D->Option FR))} {F:FnT} {d:D} {f:List D->Option FR} {b:Bool} (e:FC (n+1)=fcD gl cl) (hp:oM F cl=some f) (h:f [en x,en y,d]=some (.ok (.bl b) [])):TC (n+1) ⟨.clo F d⟩ x y=some b:=by
 refine HH ?_
 show (FC (n+1)) (.clo F d::[en x,en y])=_
 rw[e]
 show (if D.evs [en x,en y]=true then (oM F cl).bind fun f=>(f ([en x,en y]++[d])).bind sd else none)=_
 rw[if_pos (Ny x y),hp,Option.bind_some]
 show (f [en x,en y,d]).bind sd=_
 rw[h];rfl
theorem EM {n:Nat} {x y:eE} {gl:List (Str×(List D->Option FR))} {cl:List (FnT×(List D->Option FR))} {z:Str} {f:List D->Option FR} {b:Bool} (e:FC (n+1)=fcD gl cl) (hp:gl.lookup z=some f) (h:f [en x,en y]=some (.ok (.bl b) [])):TC (n+1) ⟨.glf z⟩ x y=some b:=by
 refine HH ?_
 show (FC (n+1)) (.glf z::[en x,en y])=_
 rw[e]
 show (gl.lookup z).bind (fun f=>(f [en x,en y]).bind sd)=_
 rw[hp,Option.bind_some,h];rfl
def dst (x y:eE):Int:=if x.b -y.b<0 then -(x.b -y.b) else x.b -y.b
theorem QV (x y:eE):BQ x y=some (dst x y):=by
 unfold BQ
 simp only[Option.map_some,ak,T.zO,aS]
 rfl
def KG (x y:eE):Bool:=decide (x.a=("O" :Str))||(decide (y.a=("AB" :Str))||decide (x.a=y.a))
def FU (x y:eE):Bool:=(TL.tl x.c).all fun c=> !decide (c∈TL.tl y.c)
def szB (k:Int) (x y:eE):Bool:=decide (dst x y<=k)
theorem KH (x y:eE):mj x y=some (KG x y):=by
 unfold mj KG
 simp only[Option.map_some,ak,T.da,pC]
 cases decide (x.a=("O" :Str)) <;> cases decide (y.a=("AB" :Str)) <;> rfl
theorem s7 {A ρ:Type} {step:Unit->A->Option (TO Unit Unit ρ)} {p:A->Bool} {r:ρ}: ∀(l:List A),(∀c∈l,step () c=some (if p c=true then .nx () else .ret r))->cY step l ()=some (if l.all p=true then .fin () else .ret r)
 | [],_=>rfl
 |c::l,h=>by
  show (step () c).bind _=_
  rw[h c List.mem_cons_self]
  by_cases q:p c=true
  ·rw[if_pos q,List.all_cons,q,Bool.true_and]
   exact s7 l fun c hc=>h c (List.mem_cons_of_mem _ hc)
  ·rw[if_neg q,List.all_cons,Bool.eq_false_iff.mpr q];rfl
theorem Nz (x y:eE):oF x y=some (FU x y):=by
 unfold oF FU
 rw[Option.map_some,aS,T.vM,dB]
 show tF0 ((cY (ji y) ((TL.tl x.c).map fun c=>(⟨#[c]⟩:Str)) ()).bind _)=_
 rw[Au (p:=fun c=> !decide (c∈TL.tl y.c)) (r:=⟨false⟩) (TL.tl x.c) fun c hc=>by
  unfold ji
  rw[Option.map_some,ak,show T.ql false ⟨#[c]⟩ y.c=some (decide (c∈TL.tl y.c)) from rfl,aP]
  cases decide (c∈TL.tl y.c) <;> rfl]
 cases (TL.tl x.c).all fun c=> !decide (c∈TL.tl y.c) <;> rfl
theorem Ay {A:Type} {p q:A->Bool}: ∀{l:List A},(∀a∈l,p a=q a)->l.all p=l.all q
 | [],_=>rfl
 |a::l,h=>by
  rw[List.all_cons,List.all_cons,h a List.mem_cons_self,Ay fun b hb=>h b (List.mem_cons_of_mem _ hb)]
theorem Dy:Ans 1 ⟨.glf "by_groups"⟩ KG:=fun n hn x y=>by
 obtain⟨m,rfl⟩:=Nat.exists_eq_add_of_le' hn
 exact EM rfl rfl (BP x y _ (KH x y))
theorem FV:Ans 1 ⟨.glf "by_marks"⟩ FU:=fun n hn x y=>by
 obtain⟨m,rfl⟩:=Nat.exists_eq_add_of_le' hn
 exact EM rfl rfl (Dq x y _ (Nz x y))
theorem FW (k:Int):Ans 1 ⟨.clo bJ (en k)⟩ (szB k):=fun n hn x y=>by
 obtain⟨m,rfl⟩:=Nat.exists_eq_add_of_le' hn
 refine Ax (f:=fZ (FC m)) rfl vX (vg (HC m) x y k _ ?_)
 unfold kR szB
 rw[ak,QV,ak,T.CT];rfl
theorem KJ {k:Nat} {r:Fv} {f:eE->eE->Bool} (h:Ans k r f):Ans (k+1) ⟨.clo bu (en r)⟩ (fun x y=> !f x y):=fun n hn x y=>by
 obtain⟨m,rfl⟩:=Nat.exists_eq_add_of_le' (Nat.le_trans (Nat.le_add_left 1 k) hn)
 refine Ax (f:=gb (FC m)) rfl ((qi (by decide+kernel)).trans vX) (vh (HC m) x y r _ ?_)
 unfold kS
 rw[nH,h m (by omega) x y];rfl
theorem KN {A:Type} {k:Nat} {g:A->Fv} {f:A->eE->eE->Bool} {ts:List A} (h: ∀t∈ts,Ans k (g t) (f t)):Ans (k+1) ⟨.clo bV (en (ts.map g))⟩ (fun x y=>ts.all fun t=>f t x y):=fun n hn x y=>by
 obtain⟨m,rfl⟩:=Nat.exists_eq_add_of_le' (Nat.le_trans (Nat.le_add_left 1 k) hn)
 refine Ax (f:=g7 (FC m)) rfl ((qi (by decide+kernel)).trans ((qi (by decide+kernel)).trans vX)) (xN (HC m) x y (ts.map g) _ ?_)
 unfold lT
 rw[dB,s7 (p:=fun r=>((TC m r x y).getD false)) (r:=⟨false⟩) (ts.map g) fun c hc=>by
  obtain⟨t,ht,rfl⟩:=List.mem_map.mp hc
  unfold gz
  rw[nH,h t ht m (by omega) x y]
  show c9 (some (!f t x y)) _ _ _=_
  rw[aP,Option.getD_some]
  cases f t x y <;> rfl]
 have e:(ts.map g).all (fun r=>(TC m r x y).getD false)=ts.all fun t=>f t x y:=by
  rw[List.all_map]
  refine Ay fun t ht=> ?_
  show (TC m (g t) x y).getD false=_
  rw[h t ht m (by omega) x y];rfl
 rw[e]
 show _=some (ts.all fun t=>f t x y)
 cases ts.all fun t=>f t x y <;> rfl
theorem KO {A:Type} {k:Nat} {g:A->Fv} {f:A->eE->eE->Bool} {ts:List A} (h: ∀t∈ts,Ans k (g t) (f t)):Ans (k+1) ⟨.clo bL (en (ts.map g))⟩ (fun x y=>ts.any fun t=>f t x y):=fun n hn x y=>by
 obtain⟨m,rfl⟩:=Nat.exists_eq_add_of_le' (Nat.le_trans (Nat.le_add_left 1 k) hn)
 refine Ax (f:=gh (FC m)) rfl ((qi (by decide+kernel)).trans ((qi (by decide+kernel)).trans ((qi (by decide+kernel)).trans vX))) (vi (HC m) x y (ts.map g) _ ?_)
 unfold kT
 rw[dB,s7 (p:=fun r=> !((TC m r x y).getD false)) (r:=⟨true⟩) (ts.map g) fun c hc=>by
  obtain⟨t,ht,rfl⟩:=List.mem_map.mp hc
  unfold fN
  rw[nH,h t ht m (by omega) x y]
  rw[aP,Option.getD_some]
  cases f t x y <;> rfl]
 have e:(ts.map g).all (fun r=> !(TC m r x y).getD false)= !ts.any fun t=>f t x y:=by
  rw[List.all_map,List.not_any_eq_all_not]
  refine Ay fun t ht=> ?_
  show (!(TC m (g t) x y).getD false)=_
  rw[h t ht m (by omega) x y];rfl
 rw[e]
 show _=some (ts.any fun t=>f t x y)
 cases ts.any fun t=>f t x y <;> rfl
def bR (t:Tm):Fv:=if t.b=("groups" :Str) then ⟨.glf "by_groups"⟩ else if t.b=("marks" :Str) then ⟨.glf "by_marks"⟩ else ⟨.clo bJ (en t.c)⟩
def bB (t:Tm):eE->eE->Bool:=if t.b=("groups" :Str) then KG else if t.b=("marks" :Str) then FU else szB t.c
def tR (t:Tm):Fv:=if t.a%2=1 then ⟨.clo bu (en (bR t))⟩ else bR t
def tB (t:Tm) (x y:eE):Bool:=if t.a%2=1 then !bB t x y else bB t x y
def aR (ts:List Tm):Fv:=⟨.clo bV (en (ts.map tR))⟩
def oR (a:Alt):Fv:=⟨.clo bL (en (a.map aR))⟩
def oB (a:Alt) (x y:eE):Bool:=a.any fun ts=>ts.all fun t=>tB t x y
theorem Lq (t:Tm):Ans 1 (bR t) (bB t):=by
 unfold bR bB
 by_cases e:t.b=("groups" :Str)
 ·rw[if_pos e,if_pos e];exact Dy
 ·rw[if_neg e,if_neg e]
  by_cases e:t.b=("marks" :Str)
  ·rw[if_pos e,if_pos e];exact FV
  ·rw[if_neg e,if_neg e];exact FW t.c
theorem Pg (t:Tm):Ans 2 (tR t) (tB t):=by
 unfold tR
 rw[show tB t=fun x y=>if t.a%2=1 then !bB t x y else bB t x y from rfl]
 by_cases e:t.a%2=1
 ·simp only[if_pos e];exact KJ (Lq t)
 ·simp only[if_neg e];exact (Lq t).le (by decide)
theorem Ph (a:Alt):Ans 4 (oR a) (oB a):=KO fun ts _=>KN fun t _=>Pg t
theorem Dz {i:Int} (h:0<=i):Txt.partition (("sizes " :Str)++num i) " " =(("sizes" :Str),(" " :Str),num i):=by
 have:=TL.partition_app (y:=(" " :Str)) (s:=32) (S:=[]) rfl (a:=("sizes" :Str)) (b:=num i) (by decide)
 rw[show ("sizes" :Str)++(" " :Str)=("sizes " :Str) from by decide+kernel] at this
 exact this
theorem starts_pre (x y:Str):Txt.startswith x y=TL.pre (TL.tl y) (TL.tl x):=by
 unfold Txt.startswith TL.pre
 rw[PySem.StrLaws.subAt_eq,List.drop_zero,ltl,ltl]
 show (decide (0+(TL.tl y).length<=(TL.tl x).length)&&((TL.tl x).take (TL.tl y).length==TL.tl y))=_
 by_cases h:(TL.tl y).length<=(TL.tl x).length
 ·rw[decide_eq_true (by omega),Bool.true_and]
 ·rw[decide_eq_false (by omega),Bool.false_and]
  symm
  rw[beq_eq_false_iff_ne]
  intro q
  have:=congrArg List.length q
  rw[List.length_take] at this
  omega
theorem NA (b:Str) (k:Nat) (l:(noS (k+1)++b).length<=2000):T.cutS (noS (k+1)++b) (some 3) none=some (noS k++b):=by
 have:=big
 have e:TL.tl (noS (k+1)++b)=110::111::32::(noL k++TL.tl b):=by rw[TL.tl_append,mF];rfl
 have le:(noS (k+1)++b).length=(noL k++TL.tl b).length+3:=by rw[ltl,e];rfl
 have i1:HT.sIx (noS (k+1)++b).length 0 (some ((3:Nat):Int))=min 3 (noS (k+1)++b).length:=HT.sIx_nat _ _ _
 unfold T.cutS
 rw[if_pos (by omega)]
 congr 1
 refine TL.ext_tl ?_
 show (((noS (k+1)++b).cps.toList.drop (HT.sIx (noS (k+1)++b).length 0 (some ((3:Nat):Int)))).take ((noS (k+1)++b).length -HT.sIx (noS (k+1)++b).length 0 (some ((3:Nat):Int))))=_
 rw[i1,show (noS (k+1)++b).cps.toList=110::111::32::(noL k++TL.tl b) from e,le,show min 3 ((noL k++TL.tl b).length+3)=3 by omega]
 show (noL k++TL.tl b).take ((noL k++TL.tl b).length+3 -3)=_
 rw[Nat.add_sub_cancel,List.take_length,TL.tl_append];rfl
theorem xS (a:Int) {b:Int} (h:0<b):0<=a%b/\a%b<b:=⟨Int.emod_nonneg a (by omega),Int.emod_lt_of_pos a h⟩
theorem NB {n:Int} (h:0<=n): ∃t,eT n=some t/\gJ t:=by
 obtain⟨a0,a1⟩:=xS (n/6) (show (0:Int)<3 by decide)
 obtain⟨b0,b1⟩:=xS (n/1782) (show (0:Int)<2 by decide)
 obtain⟨c0,c1⟩:=xS n (show (0:Int)<6 by decide)
 obtain⟨d0,d1⟩:=xS (n/18) (show (0:Int)<99 by decide)
 obtain⟨e0,e1⟩:=xS (n/18) (show (0:Int)<30 by decide)
 unfold eT
 simp only[T.l8,T.Ld,ak,T.jH (b:=6) (by decide) (by decide),T.jH (b:=18) (by decide) (by decide),T.jH (b:=1782) (by decide) (by decide),T.bE (b:=3) (by decide),T.bE (b:=99) (by decide),T.bE (b:=30) (by decide),T.bE (b:=2) (by decide),T.bE (b:=6) (by decide),T.OP]
 rw[T.p7 a0 (by show n/6%3<3;omega),Option.bind_some,T.p7 b0 (by show n/1782%2<2;omega),Option.bind_some,nH]
 have m1:[("groups" :Str),"marks","sizes"][(n/6%3).toNat]'(by simp;omega)∈[("groups" :Str),"marks","sizes"]:=List.getElem_mem _
 have m2:[n/18%99,n/18%30][(n/1782%2).toNat]'(by simp;omega)∈[n/18%99,n/18%30]:=List.getElem_mem _
 simp only[List.mem_cons,List.not_mem_nil,or_false] at m1 m2
 refine⟨_,rfl,c0,by show n%6<=5;omega,m1,?_,?_⟩
 ·show 0<=[n/18%99,n/18%30][(n/1782%2).toNat]'_
  rcases m2 with e|e <;> (rw[e];omega)
 ·show [n/18%99,n/18%30][(n/1782%2).toNat]'_<=98
  rcases m2 with e|e <;> (rw[e];omega)
theorem Pj (c:Int): ∃a,cP c=some a/\EJ a:=by
 have:=big
 obtain⟨a0,a1⟩:=xS (BV c 60) (show (0:Int)<3 by decide)
 unfold cP
 rw[Option.bind_some,ak (f:=cE),vT c 60 (by decide) (by decide),ak,T.bE (by decide),ak,T.eW,Option.bind_some,aS,T.vL (by omega) (by omega),dB]
 generalize BV c 60%3=q at a0 a1
 obtain⟨a,e,h1,h2⟩:=HQ (step:=b9 c (1+q)) (fun i (y:Alt)=>y.length=i/\ ∀ts∈y,(1<=ts.length/\ts.length<=3)/\ ∀t∈ts,gJ t) (n:=(1+q).toNat) (b0:=[]) ⟨rfl,fun _ h=>nomatch h⟩ fun i hi y ⟨y1,y2⟩=>by
  have lk:T.atL [(3:Int),3,2] (1+q -1)=some (if q=2 then 2 else 3):=by
   have:q=0\/q=1\/q=2:=by omega
   rcases this with e|e|e <;> (subst e;rfl)
  have w2:(0:Int)<(if q=2 then 2 else 3):=by split <;> decide
  have w3:(if q=2 then (2:Int) else 3)<=3:=by split <;> decide
  obtain⟨r0,r1⟩:=xS (BV c (61+(i:Int))) w2
  have tt: ∀j:Int,0<=j->j<3-> ∃t,b1 eT (b2 cE (some c) (b2 T.bP (b2 T.bP (some (70:Int)) (b2 T.ju (some (3:Int)) (some (i:Int)))) (some j)))=some t/\gJ t:=fun j j0 j1=>by
   rw[ak (f:=T.ju),T.qP (a:=3) (by decide) (by decide),ak,T.eW,ak,T.eW,ak,vT _ _ (by omega) (by omega),aS]
   exact NB (uQ _ _)
  have tt': ∀j:Int,∃t:Tm,0<=j->j<3->b1 eT (b2 cE (some c) (b2 T.bP (b2 T.bP (some (70:Int)) (b2 T.ju (some (3:Int)) (some (i:Int)))) (some j)))=some t/\gJ t:=fun j=>by
   by_cases z:0<=j/\j<3
   ·obtain⟨t,h⟩:=tt j z.1 z.2;exact⟨t,fun _ _=>h⟩
   ·exact⟨⟨0,"",0⟩,fun a b=>absurd ⟨a,b⟩ z⟩
  obtain⟨g,hg⟩:=Classical.axiomOfChoice tt'
  generalize hm:BV c (61+(i:Int))%(if q=2 then 2 else 3)=m at r0 r1
  refine⟨y++[((List.range (1+m).toNat).map fun j:Nat=>(j:Int)).map g],.inl ?_,by rw[List.length_append,y1];rfl,fun ts hts=> ?_⟩
  ·unfold b9
   simp only[T.l8,T.Ld,ak,T.zO,lk]
   rw[T.eW,ak,vT _ _ (by omega) (by omega),ak,T.bE w2,hm,ak,T.eW,Option.bind_some,aS,T.vL (by omega) (by omega)]
   have lc:=zR (xs:=(List.range (1+m).toNat).map fun j:Nat=>(j:Int)) (re:=fun c7:Int=>b1 eT (b2 cE (some c) (b2 T.bP (b2 T.bP (some (70:Int)) (b2 T.ju (some (3:Int)) (some (i:Int)))) (some c7)))) g (by simp;omega) fun j hj=>by
    obtain⟨k,hk,rfl⟩:=List.mem_map.mp hj
    have:=List.mem_range.mp hk
    exact (hg k (by omega) (by omega)).1
   simp only[ak] at lc
   rw[lc,T.HM,T.w8 (by omega),Option.bind_some]
  ·rcases List.mem_append.mp hts with z|z
   ·exact y2 ts z
   ·rw[List.mem_singleton.mp z]
    refine⟨⟨by simp;omega,by simp;omega⟩,fun t ht=> ?_⟩
    obtain⟨j,hj,rfl⟩:=List.mem_map.mp ht
    obtain⟨k,hk,rfl⟩:=List.mem_map.mp hj
    have:=List.mem_range.mp hk
    exact (hg k (by omega) (by omega)).2
 rw[e]
 exact⟨a,rfl,⟨by omega,by omega⟩,h2⟩
theorem yZ {x:eE} (h:pQ x):x.a=("O" :Str)\/x.a=("A" :Str)\/x.a=("B" :Str)\/x.a=("AB" :Str):=by
 have:=h.grp
 simpa only[List.mem_cons,List.not_mem_nil,or_false] using this
theorem NC {a b:Str} (ha:a=("O" :Str)\/a=("A" :Str)\/a=("B" :Str)\/a=("AB" :Str)) (hb:b=("O" :Str)\/b=("A" :Str)\/b=("B" :Str)\/b=("AB" :Str)):
  decide (a++(" " :Str)++b∈[("O O" :Str),"O A","O B","O AB","A A","A AB","B B","B AB","AB AB"])=(decide (a=("O" :Str))||(decide (b=("AB" :Str))||decide (a=b))):=by
 rcases ha with rfl|rfl|rfl|rfl <;> rcases hb with rfl|rfl|rfl|rfl <;> decide+kernel
theorem ND: ∀(l:List Nat),(∀c∈l,97<=c/\c<123)->So.ok (l.map fun c=>(⟨#[c]⟩:Str))=true:=fun l h=>by
 show (l.map fun c=>(⟨#[c]⟩:Str)).all PySem.PyData.strOk=true
 rw[List.all_map]
 refine List.all_eq_true.mpr fun c hc=> ?_
 exact Nv (x:=⟨#[c]⟩) fun d hd=>by
  have:d=c:=by simpa using (show d∈[c] from hd)
  rw[this];exact h c hc
theorem plainT {t:Tm} (ht:gJ t) {x y:eE} (hx:pQ x) (hy:pQ y):gA t.b t.c x y=some (bB t x y):=by
 have:=big
 unfold gA bB
 simp only[Option.map_some,ak,T.da,aP]
 by_cases e:t.b=("groups" :Str)
 ·rw[decide_eq_true e,if_pos rfl,if_pos e]
  simp only[T.l8]
  rw[T.w7 (by simp;omega),Option.bind_some]
  have gx:=Ey hx.w
  have gy:=Ey hy.w
  rw[sY (by rw[uR];show _+1<=_;omega),ak,sY (by rw[TL.tl_append,List.length_append,uR];show _+1+_<=_;omega),ak,T.OR,NC (yZ hx) (yZ hy)]
  rfl
 ·rw[decide_eq_false e,if_neg Bool.false_ne_true,if_neg e,Option.bind_some,bc]
  by_cases e2:t.b=("marks" :Str)
  ·rw[decide_eq_true e2,if_pos rfl,if_pos e2,aS,T.vM]
   have sg:T.sgs x.c=(TL.tl x.c).map fun c=>(⟨#[c]⟩:Str):=rfl
   have l:=hx.len
   rw[sg,Sw.CY (fun c:Str=>decide (c∈(TL.tl y.c).map fun c=>(⟨#[c]⟩:Str))) (by rw[List.length_map];omega) (fun c hc=>by
    obtain⟨d,hd,rfl⟩:=List.mem_map.mp hc
    show some (decide (d∈TL.tl y.c))=_
    congr 1
    rw[decide_eq_decide,List.mem_map]
    constructor
    ·intro h;exact⟨d,h,rfl⟩
    ·rintro⟨e,he,q⟩
     have:[e]=[d]:=congrArg TL.tl q
     injection this with q _
     rw[<-q];exact he),ak]
   have fl:(((TL.tl x.c).map fun c=>(⟨#[c]⟩:Str)).filter fun c=>decide (c∈(TL.tl y.c).map fun c=>(⟨#[c]⟩:Str)))=((TL.tl x.c).filter fun c=>decide (c∈TL.tl y.c)).map fun c=>(⟨#[c]⟩:Str):=by
    rw[List.filter_map]
    congr 1
    refine List.filter_congr fun d _=> ?_
    show decide _=decide _
    rw[decide_eq_decide,List.mem_map]
    constructor
    ·rintro⟨e,he,q⟩
     have:[e]=[d]:=congrArg TL.tl q
     injection this with q _
     rw[<-q];exact he
    ·intro h;exact⟨d,h,rfl⟩
   rw[fl,T.HP (ND _ fun c hc=>hx.low c (List.mem_filter.mp hc).1) rfl]
   show some (@decide _ (So.dec _ _))=some (FU x y)
   congr 1
   unfold FU
   cases q:(TL.tl x.c).all fun c=> !decide (c∈TL.tl y.c) with
   |true=>
    refine @decide_eq_true _ (So.dec _ _) ?_
    rw[List.map_eq_nil_iff,List.filter_eq_nil_iff]
    intro c hc
    have:=List.all_eq_true.mp q c hc
    simpa using this
   |false=>
    refine @decide_eq_false _ (So.dec _ _) fun z=> ?_
    rw[List.map_eq_nil_iff,List.filter_eq_nil_iff] at z
    rw[List.all_eq_true.mpr fun c hc=>by have:=z c hc;simpa using this] at q
    cases q
  ·rw[decide_eq_false e2,if_neg Bool.false_ne_true,if_neg e2,Option.bind_some,bc]
   simp only[T.zO,ak,T.CT,iB]
   have:(if decide (x.b -y.b<=t.c)=true then some (decide (y.b -x.b<=t.c)) else some false)=some (szB t.c x y):=by
    unfold szB dst
    by_cases a:x.b -y.b<0
    ·rw[if_pos a]
     by_cases b:x.b -y.b<=t.c
     ·rw[decide_eq_true b,if_pos rfl]
      congr 1
      rw[decide_eq_decide];omega
     ·have:=ht.b0
      omega
    ·rw[if_neg a]
     by_cases b:x.b -y.b<=t.c
     ·rw[decide_eq_true b,if_pos rfl,decide_eq_true (by omega)]
     ·rw[decide_eq_false b,if_neg Bool.false_ne_true]
   rw[this];rfl
theorem Pk {a:Alt} (h: ∀ts∈a,∀t∈ts,gJ t) {x y:eE} (hx:pQ x) (hy:pQ y):iH a x y=some (oB a x y):=by
 unfold iH oB
 have inn: ∀(ts:List Tm) (g:Bool),(∀t∈ts,gJ t)->cY (dD x y) (ts.map fun t=>(t.a,t.b,t.c)) g=some (.fin (g&&ts.all fun t=>tB t x y)):=fun ts=>by
  induction ts with
  |nil=>intro g _;rw[List.all_nil,Bool.and_true];rfl
  |cons t ts ih=>
   intro g hm
   have st:dD x y g (t.a,t.b,t.c)=some (.nx (g&&tB t x y)):=by
    unfold dD
    show c9 (b2 T.eqA (b4 gA (some t.b) (some t.c) (some x) (some y)) (b2 T.eqA (b2 T.bT (some t.a) (some (2:Int))) (some (1:Int)))) _ _ _=_
    rw[JU,plainT (hm t List.mem_cons_self) hx hy,ak,T.bE (by decide),ak,T.da,ak,T.da,aP]
    unfold tB
    by_cases q:t.a%2=1
    ·rw[if_pos q,decide_eq_true q]
     cases bB t x y <;> cases g <;> rfl
    ·rw[if_neg q,decide_eq_false q]
     cases bB t x y <;> cases g <;> rfl
   show (dD x y g (t.a,t.b,t.c)).bind _=_
   rw[st]
   show cY _ (ts.map _) (g&&tB t x y)=_
   rw[ih _ fun t ht=>hm t (List.mem_cons_of_mem _ ht),List.all_cons,Bool.and_assoc]
 rw[dB,s7 (p:=fun ts=> !(ts.all fun t=>tB t x y)) (r:=⟨true⟩) a fun ts hts=>by
  unfold jN
  rw[Option.bind_some,aS,show T.trs ts=some (ts.map fun t=>(t.a,t.b,t.c)) from rfl,dB,inn ts true (h ts hts),Option.bind_some,sy,Bool.true_and,aP]
  cases ts.all fun t=>tB t x y <;> rfl]
 rw[<-List.not_any_eq_all_not]
 cases a.any fun ts=>ts.all fun t=>tB t x y <;> rfl
def Asc (x:Str):Prop:= ∀c∈TL.tl x,c<127
theorem Asc.ok {x:Str} (h:Asc x):PySem.PyData.strOk x=true:=by
 unfold PySem.PyData.strOk
 rw[Array.all_eq_true']
 intro c hc
 have:=h c (Array.mem_toList_iff.mpr hc)
 rw[decide_eq_true_eq];omega
theorem Asc.app {x y:Str} (h:Asc x) (g:Asc y):Asc (x++y):=fun c hc=>by
 rw[TL.tl_append] at hc
 rcases List.mem_append.mp hc with m|m
 ·exact h c m
 ·exact g c m
theorem oH (x y:Str):(x++y).length=x.length+y.length:=by rw[TL.len_tl,TL.len_tl,TL.len_tl,TL.tl_append,List.length_append]
theorem Az {z:Str} (h:Asc z) (l:z.length<=2000) (lo hi:Option Int): ∃y,T.cutS z lo hi=some y/\Asc y/\y.length<=z.length:=by
 have:=big
 refine⟨L2.cutS z lo hi,if_pos (by omega),fun c hc=> ?_,?_⟩
 ·have:TL.tl (L2.cutS z lo hi)=(z.cps.toList.drop (HT.sIx z.length 0 lo)).take (HT.sIx z.length z.length hi -HT.sIx z.length 0 lo):=rfl
  rw[this] at hc
  exact h c (List.mem_of_mem_drop (List.mem_of_mem_take hc))
 ·rw[ltl,ltl]
  show ((z.cps.toList.drop (HT.sIx z.length 0 lo)).take (HT.sIx z.length z.length hi -HT.sIx z.length 0 lo)).length<=z.cps.toList.length
  rw[List.length_take,List.length_drop];omega
structure Ws (n B:Nat) (ws:List Str):Prop where
 len:ws.length<=n
 w: ∀w∈ws,Asc w/\w.length<=B
theorem za (B:Nat): ∀(ls:List (List Nat)),(∀l∈ls,l.length<=B)->(TL.joinL [32] ls).length<=ls.length*(B+1)
 | [],_=>Nat.zero_le _
 | [p],h=>by
  show p.length<=1*(B+1)
  have:=h p (by simp)
  omega
 |p::q::r,h=>by
  show (p++([32]++TL.joinL [32] (q::r))).length<=_
  have h1:=h p (by simp)
  have:=za B (q::r) fun l hl=>h l (List.mem_cons_of_mem _ hl)
  rw[List.length_append,List.length_append,List.length_cons (as:=q::r),Nat.succ_mul]
  show p.length+(1+_)<=_
  omega
theorem zd {c:Nat}: ∀(ls:List (List Nat)),c∈TL.joinL [32] ls->c=32\/ ∃l∈ls,c∈l
 | [],h=>by cases h
 | [p],h=>.inr ⟨p,by simp,h⟩
 |p::q::r,h=>by
  rcases List.mem_append.mp (show c∈p++([32]++TL.joinL [32] (q::r)) from h) with m|m
  ·exact .inr ⟨p,by simp,m⟩
  ·rcases List.mem_append.mp m with m|m
   ·exact .inl (by simpa using m)
   ·rcases zd (q::r) m with e|⟨l,hl,m⟩
    ·exact .inl e
    ·exact .inr ⟨l,List.mem_cons_of_mem _ hl,m⟩
theorem ID {B:Nat}: ∀(ws:List Str),(∀w∈ws,w.length<=B)->(ws.map (·.length)).sum<=ws.length*B
 | [],_=>Nat.zero_le _
 |w::ws,h=>by
  rw[List.map_cons,List.sum_cons,List.length_cons,Nat.succ_mul]
  have:=h w (by simp)
  have:=ID ws fun v hv=>h v (List.mem_cons_of_mem _ hv)
  omega
theorem Ws.join {n B:Nat} {ws:List Str} (h:Ws n B ws) (hs:n*(B+1)<=10000): ∃y,T.join " " ws=some y/\Asc y/\y.length<=n*(B+1):=by
 have hl:=h.len
 have s:=ID (B:=B) ws fun w hw=>(h.w w hw).2
 have m1:ws.length*(B+1)<=n*(B+1):=Nat.mul_le_mul_right _ hl
 rw[Nat.mul_succ] at m1
 refine⟨Txt.join " " ws,if_pos ?_,fun c hc=> ?_,?_⟩
 ·show _+ws.length*1<=_
  omega
 ·rw[TL.join_eq,TL.tl_join,uR] at hc
  rcases zd _ hc with e|⟨l,hl,m⟩
  ·omega
  ·obtain⟨w,hw,rfl⟩:=List.mem_map.mp hl
   exact (h.w w hw).1 c m
 ·rw[ltl,TL.join_eq,TL.tl_join,uR]
  have:=za B (ws.map TL.tl) fun l hl=>by
   obtain⟨w,hw,rfl⟩:=List.mem_map.mp hl
   rw[<-ltl];exact (h.w w hw).2
  rw[List.length_map,Nat.mul_succ] at this
  omega
theorem Ws.set {n B:Nat} {ws:List Str} (h:Ws n B ws) {i:Nat} {x:Str} (hx:Asc x/\x.length<=B):Ws n B (ws.set i x):=
 ⟨by rw[List.length_set];exact h.len,fun w hw=>by
  rcases List.mem_or_eq_of_mem_set hw with m|e
  ·exact h.w w m
  ·rw[e];exact hx⟩
theorem Ws.cut {n B:Nat} {ws:List Str} (h:Ws n B ws) (lo hi:Option Int):Ws n B (Sw.dJ ws lo hi):=
 ⟨by
  have:=h.len
  show ((ws.drop _).take _).length<=_
  rw[List.length_take,List.length_drop];omega,fun w hw=>h.w w (List.mem_of_mem_drop (List.mem_of_mem_take hw))⟩
theorem EN {ws:List Str} {p:Int} (h:0<=p):(Sw.dJ ws none (some p)).length+(Sw.dJ ws (some p) none).length=ws.length:=by
 obtain⟨k,rfl⟩:=Int.eq_ofNat_of_zero_le h
 have e:HT.sIx ws.length ws.length (some (k:Int))=min k ws.length:=HT.sIx_nat _ _ _
 have e':HT.sIx ws.length 0 (some (k:Int))=min k ws.length:=HT.sIx_nat _ _ _
 show ((ws.drop 0).take (HT.sIx ws.length ws.length (some (k:Int)) -0)).length+((ws.drop (HT.sIx ws.length 0 (some (k:Int)))).take (ws.length -HT.sIx ws.length 0 (some (k:Int)))).length=_
 rw[e,e',List.length_take,List.length_take,List.length_drop,List.length_drop];omega
theorem DA {ws:List Str} {i:Int} (h0:0<=i) (h1:i<ws.length): ∃x,T.atL ws i=some x/\x∈ws:=by
 rw[T.p7 h0 h1]
 exact⟨_,rfl,List.getElem_mem _⟩
theorem IE {S:List Nat} (hS:S≠[]) (n:Nat): ∀(l acc:List Nat),l.length<=n->TL.joinL S (TL.spl S 0 acc l)=acc++l/\TL.spl S 0 acc l≠[]:=by
 induction n with
 |zero=>
  intro l acc h
  have:l=[]:=List.length_eq_zero_iff.mp (by omega)
  subst this
  rw[TL.spl_nil,List.append_nil]
  exact⟨rfl,by simp⟩
 |succ n ih=>
  intro l acc h
  cases l with
  |nil=>rw[TL.spl_nil,List.append_nil];exact⟨rfl,by simp⟩
  |cons c r=>
   rw[List.length_cons] at h
   cases q:TL.pre S (c::r) with
   |false=>
    rw[TL.spl_miss q]
    obtain⟨h1,h2⟩:=ih r (acc++[c]) (by omega)
    exact⟨by rw[h1,List.append_assoc];rfl,h2⟩
   |true=>
    rw[TL.spl_hit q,TL.spl_pass]
    obtain⟨h1,h2⟩:=ih (r.drop (S.length -1)) [] (by rw[List.length_drop];omega)
    refine⟨?_,by simp⟩
    cases e:TL.spl S 0 [] (r.drop (S.length -1)) with
    |nil=>exact absurd e h2
    |cons a b=>
     rw[e] at h1
     show acc++(S++TL.joinL S (a::b))=_
     rw[h1,List.nil_append]
     congr 1
     have e:(c::r).take S.length=S:=eq_of_beq q
     cases S with
     |nil=>exact absurd rfl hS
     |cons s S'=>
      have:=List.take_append_drop (s::S').length (c::r)
      rw[e] at this
      exact this
theorem rD {x y:Str} (hy:TL.tl y≠[]) (hk:y.cps.all (· <256)=true):Txt.join y (Txt.split x y)=x/\Txt.split x y≠[]:=by
 have e:=TL.split_spl x y hy (TL.kind_ok hk)
 obtain⟨h1,h2⟩:=IE hy _ (TL.tl x) [] (Nat.le_refl _)
 refine⟨TL.ext_tl ?_,fun z=>h2 (by rw[<-e,z];rfl)⟩
 rw[TL.join_eq,TL.tl_join,e,h1,List.nil_append]
theorem BZ {S l:List Nat}: ∀(ls:List (List Nat)),l∈ls->l.length<=(TL.joinL S ls).length
 | [a],h=>by rw[List.mem_singleton.mp h];exact Nat.le_refl _
 |a::b::r,h=>by
  show _<=(a++(S++TL.joinL S (b::r))).length
  rw[List.length_append,List.length_append]
  rcases List.mem_cons.mp h with rfl|h
  ·omega
  ·have:=BZ (S:=S) (b::r) h
   omega
theorem ze {S:List Nat} (hS:S≠[]): ∀(ls:List (List Nat)),ls.length<=(TL.joinL S ls).length+1
 | []=>by simp
 | [a]=>by simp
 |a::b::r=>by
  show _<=(a++(S++TL.joinL S (b::r))).length+1
  have:=ze hS (b::r)
  have:=List.length_pos_iff.mpr hS
  rw[List.length_append,List.length_append,List.length_cons]
  omega
theorem split_len {x y:Str} (hy:TL.tl y≠[]) (hk:y.cps.all (· <256)=true):(Txt.split x y).length<=x.length+1/\ ∀p∈Txt.split x y,p.length<=x.length:=by
 have e:=(rD (x:=x) hy hk).1
 have e2:TL.joinL (TL.tl y) ((Txt.split x y).map TL.tl)=TL.tl x:=by rw[<-TL.tl_join,←TL.join_eq,e]
 constructor
 ·have:=ze hy ((Txt.split x y).map TL.tl)
  rw[List.length_map,e2,←ltl] at this
  exact this
 ·intro p hp
  have:=BZ (S:=TL.tl y) _ (List.mem_map_of_mem (f:=TL.tl) hp)
  rw[e2,←ltl,←ltl] at this
  exact this
theorem DB {x y:Str} (hy:(y.length==0)=false) (h:x.length<=2000):T.split x y=some (Txt.split x y):=by
 have:=big
 unfold T.split
 rw[if_pos ⟨hy,by omega⟩]
def Cn (t:Tm):Prop:=t.b=("sizes" :Str)\/t.c=0
theorem DC {t:Tm} (h:gJ t):bS (bsS t)=some (.inr (bR t)):=by
 have:=big
 obtain⟨_,lb,_⟩:=IB h (.inl rfl)
 unfold bS
 simp only[ak,T.da,aP]
 rcases h.kind with e|e|e
 ·have:bsS t=("groups" :Str):=by unfold bsS;rw[e,if_neg (by decide+kernel)]
  rw[this,decide_eq_true rfl,if_pos rfl]
  unfold bR
  rw[if_pos e];rfl
 ·have:bsS t=("marks" :Str):=by unfold bsS;rw[e,if_neg (by decide+kernel)]
  rw[this,decide_eq_false (by decide+kernel),if_neg Bool.false_ne_true,Option.bind_some,bc,decide_eq_true rfl,if_pos rfl]
  unfold bR
  rw[if_neg (by rw[e];decide+kernel),if_pos e];rfl
 ·have eb:bsS t=("sizes " :Str)++num t.c:=by unfold bsS;rw[if_pos e]
  have n1:bsS t≠("groups" :Str):=fun q=>by
   have:=congrArg TL.tl (eb.symm.trans q)
   rw[TL.tl_append,pU] at this
   have:=congrArg (fun l=>l[0]?) this
   simp at this
   exact absurd this (by decide)
  have n2:bsS t≠("marks" :Str):=fun q=>by
   have:=congrArg TL.tl (eb.symm.trans q)
   rw[TL.tl_append,pU] at this
   have:=congrArg (fun l=>l[0]?) this
   simp at this
   exact absurd this (by decide)
  rw[decide_eq_false n1,if_neg Bool.false_ne_true,Option.bind_some,bc,decide_eq_false n2,if_neg Bool.false_ne_true,Option.bind_some,bc]
  have pt:T.part (bsS t) (" " :Str)=some ⟨("sizes" :Str),(" " :Str),num t.c⟩:=by
   unfold T.part
   rw[if_pos ⟨by decide+kernel,by rw[ltl];omega⟩,eb,Dz h.b0]
  obtain⟨w,dv⟩:=ED (i:=t.c) h.b0 (by have:=h.b98;omega)
  have nm:cW (num t.c)=some (.inr t.c):=by
   have b98:=h.b98
   have b0:=h.b0
   rw[EE (by rw[ltl];have:=Ex b0 (show t.c<=1000001 by omega);omega)]
   unfold KC
   rw[if_pos w,dv];rfl
  rw[pt,aS,show T.un3 (⟨("sizes" :Str),(" " :Str),num t.c⟩:T3 Str Str Str)=some (("sizes" :Str),(" " :Str),num t.c) from rfl,Option.bind_some,aS,nm]
  have tst:orX (T.neA ("sizes" :Str) ("sizes" :Str)) (bX (some (.inr t.c)) fun d4:Int=>T.gtI d4 98)=some (.inr false):=by
   show (T.gtI t.c 98).map Sum.inr=_
   rw[T.wY,decide_eq_false (by have:=h.b98;omega)];rfl
  rw[tst]
  unfold bR
  rw[if_neg (by rw[e];decide+kernel),if_neg (by rw[e];decide+kernel)];rfl
theorem B0 {x:Str} (l:x.length<=2000):(∃t,gJ t/\t.a=0/\Cn t/\x=bsS t)\/ ∃y,bS x=some (.inl (lU y)):=by
 have:=big
 by_cases e1:x=("groups" :Str)
 ·refine .inl ⟨⟨0,"groups",0⟩,⟨by decide,by decide,.inl rfl,by decide,by decide⟩,rfl,.inr rfl,?_⟩
  rw[e1];unfold bsS;rw[if_neg (by decide+kernel)]
 by_cases e2:x=("marks" :Str)
 ·refine .inl ⟨⟨0,"marks",0⟩,⟨by decide,by decide,.inr (.inl rfl),by decide,by decide⟩,rfl,.inr rfl,?_⟩
  rw[e2];unfold bsS;rw[if_neg (by decide+kernel)]
 have pt:=Pd (x:=x) (y:=(" " :Str)) (by decide+kernel) l
 have po:=KD x (" " :Str) (by decide)
 generalize hp:Txt.partition x " " =p at pt po
 obtain⟨p1,p2,p3⟩:=p
 have l3:p3.length<=2000:=by
  rcases po with e|e
  ·have:=congrArg (fun s:Str=>s.length) e
   simp only[ltl,TL.tl_append,List.length_append] at this
   rw[ltl] at l⊢
   omega
  ·cases e
   exact Nat.zero_le _
 have nm:=EE l3
 have base:bS x=tX0 (Kj (orX (T.neA p1 ("sizes" :Str)) (bX (cW p3) fun d4=>T.gtI d4 98)) ((some x).bind fun d6=>some (.exc ⟨"NoRow",[("row",en d6)]⟩)) (some (.nx ())) fun(_:Unit)=>zN (bX (cW p3) fun d8=>ri d8) fun d7=>some (.ret (⟨d7⟩:R0 Fv))):=by
  unfold bS
  simp only[ak,T.da,aP]
  rw[decide_eq_false e1,if_neg Bool.false_ne_true,Option.bind_some,bc,decide_eq_false e2,if_neg Bool.false_ne_true,Option.bind_some,bc,pt,aS,show T.un3 (⟨p1,p2,p3⟩:T3 Str Str Str)=some (p1,p2,p3) from rfl,Option.bind_some]
  rfl
 by_cases e3:p1=("sizes" :Str)
 case neg=>
  refine .inr ⟨x,?_⟩
  rw[base,T.wZ,decide_eq_false e3];rfl
 rw[e3,T.wZ,decide_eq_true rfl] at base
 cases q:KC p3 with
 |none=>
  refine .inr ⟨p3,?_⟩
  rw[base,nm,q];rfl
 |some n=>
  obtain⟨w,dv⟩:=aM q
  have xe:x=("sizes " :Str)++num n:=by
   rcases po with e|e
   ·have e:x=p1++(" " :Str)++p3:=e
    rw[e,e3,EC w,dv]
    congr 1
   ·have:p3=Str.empty:=by injection e with _ e;injection e
    rw[this] at w
    exact absurd w (by decide+kernel)
  by_cases q2:n<=98
  ·refine .inl ⟨⟨0,"sizes",n⟩,⟨Int.le_refl 0,(by show (0:Int)<=5;decide),.inr (.inr rfl),by rw[<-dv];exact Av _,q2⟩,rfl,.inl rfl,?_⟩
   rw[xe];unfold bsS;rw[if_pos rfl]
  ·refine .inr ⟨x,?_⟩
   have tst:orX (some !true) (bX (some (.inr n)) fun d4:Int=>T.gtI d4 98)=some (.inr true):=by
    show (T.gtI n 98).map Sum.inr=_
    rw[T.wY,decide_eq_true (by omega)];rfl
   rw[base,nm,q]
   show tX0 (Kj (orX (some !true) (bX (some (.inr n)) fun d4:Int=>T.gtI d4 98)) _ _ _)=_
   rw[tst];rfl
theorem strip: ∀(n:Nat) (l:List Nat),∃k b,k<=n/\l=noL k++b/\(k=n\/TL.pre [110,111,32] b=false)
 |0,l=>⟨0,l,Nat.le_refl _,rfl,.inl rfl⟩
 |n+1,l=>by
  cases q:TL.pre [110,111,32] l with
  |false=>exact⟨0,l,Nat.zero_le _,rfl,.inr q⟩
  |true=>
   have e:l.take 3=[110,111,32]:=eq_of_beq q
   obtain⟨k,b,h1,h2,h3⟩:=strip n (l.drop 3)
   refine⟨k+1,b,by omega,?_,h3.imp (fun e=>by omega) id⟩
   have:=List.take_append_drop 3 l
   rw[e,h2] at this
   exact this.symm
theorem DD {b:Str} (h:Txt.startswith b "no " =false): ∀k,Txt.startswith (noS k++b) "no " =decide (0<k)
 |0=>by
  rw[starts_pre,TL.tl_append,mF] at*
  exact h
 |k+1=>by
  rw[starts_pre,TL.tl_append,mF]
  rfl
def KP (k:Nat) (r:Fv):Fv:=if k%2=1 then ⟨.clo bu (en r)⟩ else r
theorem IF {k:Nat} {b:Str} (k5:k<=5) (h:k=5\/Txt.startswith b "no " =false) (lb:b.length<=1900):aV (noS k++b)=(bS b).map (Sum.map id (KP k)):=by
 have:=big
 unfold aV
 rw[Option.bind_some]
 have L:=Ed (tst:=fun y2:Str×Int=>lL (b2 T.ltI (some y2.2) (some (5:Int))) (b2 T.starts (some y2.1) (some ("no " :Str)))) (step:=fV) (fun y=> ∃i:Nat,i<=k/\y=(noS (k -i)++b,(i:Int))) (fun y=>k -y.2.toNat) (fun y ⟨i,hi,ey⟩=>by
  subst ey
  have ts:lL (b2 T.ltI (some (i:Int)) (some (5:Int))) (b2 T.starts (some (noS (k -i)++b)) (some ("no " :Str)))=some (decide (i<k)):=by
   rw[ak,T.wX,ak,show T.starts (noS (k -i)++b) "no " =some (Txt.startswith (noS (k -i)++b) "no ") from rfl,iB]
   by_cases z:i<k
   ·obtain⟨j,hj⟩: ∃j,k -i=j+1:=⟨k -i -1,by omega⟩
    rw[decide_eq_true (show ((i:Nat):Int)<5 by omega),if_pos rfl,decide_eq_true z,hj,starts_pre,TL.tl_append,mF];rfl
   ·rw[decide_eq_false z]
    rcases h with h|h
    ·rw[decide_eq_false (show ¬((i:Nat):Int)<5 by omega)];rfl
    ·rw[DD h,decide_eq_false (show ¬0<k -i by omega)]
     cases decide (((i:Nat):Int)<5) <;> rfl
  by_cases z:i<k
  ·refine .inr ⟨by rw[decide_eq_true z] at ts;exact ts,(noS (k -(i+1))++b,((i+1:Nat):Int)),.inl ?_,⟨i+1,z,rfl⟩,?_⟩
   ·unfold fV
    obtain⟨j,hj⟩: ∃j,k -i=j+1:=⟨k -i -1,by omega⟩
    show ((o9 T.cutS (some (noS (k -i)++b)) (b1 T.toI (some (3:Int))) (some none)).bind _)=_
    rw[aS,T.zQ,qb,hj,NA _ _ (by rw[ltl,TL.tl_append,List.length_append,mF,vW,←ltl];omega),Option.bind_some,ak,T.eW,Option.bind_some,show k -(i+1)=j by omega]
    rfl
   ·show k -(((i+1:Nat):Int)).toNat<k -((i:Nat):Int).toNat
    omega
  ·exact .inl (by rw[decide_eq_false z] at ts;exact ts)) (b0:=(noS k++b,(0:Int))) ⟨0,Nat.zero_le _,rfl⟩
 obtain⟨y,e1,⟨i,hi,rfl⟩,e2⟩:=L
 rw[Bf e1]
 have ti:i=k:=by
  by_cases z:i<k
  ·exfalso
   obtain⟨j,hj⟩: ∃j,k -i=j+1:=⟨k -i -1,by omega⟩
   have e2:lL (b2 T.ltI (some (i:Int)) (some (5:Int))) (b2 T.starts (some (noS (k -i)++b)) (some ("no " :Str)))=some false:=e2
   rw[ak,T.wX,ak,show T.starts (noS (k -i)++b) "no " =some (Txt.startswith (noS (k -i)++b) "no ") from rfl,iB,decide_eq_true (show ((i:Nat):Int)<5 by omega),if_pos rfl,hj,starts_pre,TL.tl_append,mF] at e2
   rw[show TL.pre (TL.tl ("no " :Str)) (noL (j+1)++TL.tl b)=true from rfl] at e2
   cases e2
  ·omega
 have e0:noS (k -i)++b=b:=by
  rw[ti,Nat.sub_self]
  refine TL.ext_tl ?_
  rw[TL.tl_append];rfl
 show tX0 (c9 (b2 T.eqA (b2 T.bT (some ((i:Nat):Int)) (some (2:Int))) (some (1:Int))) (zN (bX (b1 bS (some (noS (k -i)++b))) fun d7=>b1 rj (some d7)) fun d6=>some (.ret ⟨d6⟩)) (some (.nx ())) fun _=>zN (b1 bS (some (noS (k -i)++b))) fun d8=>some (.ret (⟨d8⟩:R0 Fv)))=_
 rw[e0,ti,aS,ak,T.bE (by decide),ak,T.da,aP]
 unfold KP
 by_cases q:k%2=1
 ·rw[decide_eq_true (show ((k:Nat):Int)%2=1 by omega),if_pos rfl]
  simp only[if_pos q]
  cases bS b with
  |none=>rfl
  |some r=>cases r <;> rfl
 ·rw[decide_eq_false (show ¬((k:Nat):Int)%2=1 by omega),if_neg Bool.false_ne_true]
  simp only[if_neg q]
  cases bS b with
  |none=>rfl
  |some r=>cases r <;> rfl
theorem uT {t:Tm} (h:gJ t):aV (tmS t)=some (.inr (tR t)):=by
 obtain⟨_,lb,c,r,e,n⟩:=IB h (.inl rfl)
 have k5:t.a.toNat<=5:=by have:=h.t5;omega
 have t0:=h.t0
 unfold tmS
 rw[IF k5 (.inr (by rw[starts_pre,e];exact TL.pre_of_head _ _ n)) (by rw[ltl];omega),DC h]
 show some (Sum.inr (KP t.a.toNat (bR t)))=_
 congr 2
 unfold KP tR
 by_cases q:t.a%2=1
 ·rw[if_pos q,if_pos (by omega)]
 ·rw[if_neg q,if_neg (by omega)]
def IG (x:Str):Prop:= ∃t,gJ t/\Cn t/\x=tmS t
theorem AA {x:Str} (l:x.length<=1900):IG x\/ ∃y,aV x=some (.inl (lU y)):=by
 obtain⟨k,b,k5,e,h⟩:=strip 5 (TL.tl x)
 have ex:x=noS k++⟨b.toArray⟩:=TL.ext_tl (by rw[TL.tl_append,mF,e])
 have hb:k=5\/Txt.startswith (⟨b.toArray⟩:Str) "no " =false:=h.imp id fun h=>by rw[starts_pre];exact h
 have lb:(⟨b.toArray⟩:Str).length<=1900:=by
  rw[ltl] at l⊢
  rw[e,List.length_append] at l
  exact Nat.le_trans (Nat.le_add_left _ _) l
 have N:=IF k5 hb lb
 rw[<-ex] at N
 rcases B0 (x:=⟨b.toArray⟩) (by omega) with ⟨t,h1,h2,h3,h4⟩|⟨y,h1⟩
 ·refine .inl ⟨⟨(k:Int),t.b,t.c⟩,⟨by show (0:Int)<=k;omega,by show (k:Int)<=5;omega,h1.kind,h1.b0,h1.b98⟩,h3,?_⟩
  rw[ex,h4];rfl
 ·exact .inr ⟨y,by rw[N,h1];rfl⟩
theorem EO: ∀(xs:List Str),(∀x∈xs,x.length<=1900)->(∀x∈xs,IG x)\/ ∃y,iR (fun c5:Str=>b1 aV (some c5)) xs=some (.inl (lU y))
 | [],_=>.inl fun _ h=>nomatch h
 |x::xs,h=>by
  rcases AA (h x List.mem_cons_self) with g|⟨y,e⟩
  ·obtain⟨t,t1,t2,t3⟩:=id g
   rcases EO xs fun z hz=>h z (List.mem_cons_of_mem _ hz) with q|⟨y,e⟩
   ·exact .inl fun z hz=>by
     rcases List.mem_cons.mp hz with rfl|hz
     ·exact g
     ·exact q z hz
   ·refine .inr ⟨y,?_⟩
    show (aV x).bind _=_
    rw[t3,uT t1]
    show (iR _ xs).map _=_
    rw[e];rfl
  ·refine .inr ⟨y,?_⟩
   show (aV x).bind _=_
   rw[e];rfl
theorem zg: ∀(xs:List Str),(∀x∈xs,IG x)-> ∃ts:List Tm,(∀t∈ts,gJ t/\Cn t)/\xs=ts.map tmS
 | [],_=>⟨[],(fun _ h=>nomatch h),rfl⟩
 |x::xs,h=>by
  obtain⟨t,t1,t2,t3⟩:=h x List.mem_cons_self
  obtain⟨ts,h1,h2⟩:=zg xs fun z hz=>h z (List.mem_cons_of_mem _ hz)
  exact⟨t::ts,fun z hz=>by
   rcases List.mem_cons.mp hz with rfl|hz
   ·exact⟨t1,t2⟩
   ·exact h1 z hz,by rw[t3,h2];rfl⟩
theorem NG {ts:List Tm} (ne:ts≠[]) (h: ∀t∈ts,gJ t):Wd 111 (TL.tl (jE ts))/\Txt.split (jE ts) " and " =ts.map tmS:=by
 refine⟨?_,?_⟩
 ·unfold jE
  rw[TL.join_eq,TL.tl_join]
  refine Wd.and (by decide) (by simpa using ne) fun p hp=> ?_
  obtain⟨w,hw,rfl⟩:=List.mem_map.mp hp
  obtain⟨t,ht,rfl⟩:=List.mem_map.mp hw
  exact (BX (h t ht) (.inr rfl)).1
 ·exact qh (d:=97) (S:=[110,100,32]) rfl (by decide+kernel) (by simpa using ne) fun p hp=>by
   obtain⟨t,ht,rfl⟩:=List.mem_map.mp hp
   exact (BX (h t ht) (.inl rfl)).1.2
def yr (a:Alt):Prop:=a≠[]/\ ∀ts∈a,ts≠[]/\ ∀t∈ts,gJ t/\Cn t
theorem NH {a:Alt} (h:yr a):Txt.split (jF a) " or " =a.map jE:=
 qh (d:=111) (S:=[114,32]) rfl (by decide+kernel) (by simpa using h.1) fun p hp=>by
  obtain⟨t,ht,rfl⟩:=List.mem_map.mp hp
  exact (NG (h.2 t ht).1 fun z hz=>((h.2 t ht).2 z hz).1).1.2
noncomputable abbrev pV (y3:List Fv) (x4:Str):Option (Xn ⊕ List Fv):=bX (bX (HI (b2 T.split (some x4) (some (" and " :Str))) (fun c5:Str=>b1 aV (some c5))) fun d6=>b1 t8 (some d6)) fun d7=>(T.app y3 d7).map (·.2)
theorem xT {ts:List Tm} (ne:ts≠[]) (h: ∀t∈ts,gJ t) (l:(jE ts).length<=1900) {acc:List Fv} (la:acc.length<=5000):pV acc (jE ts)=some (.inr (acc++[aR ts])):=by
 have:=big
 have sp:=(NG ne h).2
 have ln:(ts.map tmS).length<=1901:=by
  rw[<-sp]
  exact Nat.le_trans (split_len (by decide) (by decide+kernel)).1 (by omega)
 have lc:iR (fun c5:Str=>b1 aV (some c5)) (ts.map tmS)=some (.inr (ts.map tR)):=by
  have: ∀ts:List Tm,(∀t∈ts,gJ t)->iR (fun c5:Str=>b1 aV (some c5)) (ts.map tmS)=some (.inr (ts.map tR)):=fun ts=>by
   induction ts with
   |nil=>intro _;rfl
   |cons t ts ih=>
    intro h
    show (aV (tmS t)).bind _=_
    rw[uT (h t List.mem_cons_self)]
    show (iR _ (ts.map tmS)).map _=_
    rw[ih fun z hz=>h z (List.mem_cons_of_mem _ hz)];rfl
  exact this ts h
 unfold pV
 rw[ak,DB (by decide+kernel) (by omega),sp]
 have e1:HI (some (ts.map tmS)) (fun c5:Str=>b1 aV (some c5))=some (.inr (ts.map tR)):=by
  show (if (ts.map tmS).length<=sizeLine then iR _ (ts.map tmS) else none)=_
  rw[if_pos (by omega),lc]
 rw[e1]
 show ((T.app acc (aR ts)).map (·.2)).map Sum.inr=_
 rw[T.w8 (by omega)];rfl
theorem B1 {p:Str} (l:p.length<=1900) (acc:List Fv):(∃ts:List Tm,ts≠[]/\(∀t∈ts,gJ t/\Cn t)/\p=jE ts)\/ ∃y,pV acc p=some (.inl (lU y)):=by
 have:=big
 obtain⟨b1',b2'⟩:=rD (x:=p) (y:=(" and " :Str)) (by decide) (by decide+kernel)
 obtain⟨l1,l2⟩:=split_len (x:=p) (y:=(" and " :Str)) (by decide) (by decide+kernel)
 rcases EO (Txt.split p " and ") fun x hx=>Nat.le_trans (l2 x hx) l with g|⟨y,e⟩
 ·obtain⟨ts,h1,h2⟩:=zg _ g
  refine .inl ⟨ts,fun z=>b2' (by rw[h2,z];rfl),h1,?_⟩
  rw[<-b1',h2];rfl
 ·refine .inr ⟨y,?_⟩
  unfold pV
  rw[ak,DB (by decide+kernel) (by omega)]
  have e1:HI (some (Txt.split p " and ")) (fun c5:Str=>b1 aV (some c5))=some (.inl (lU y)):=by
   show (if (Txt.split p " and ").length<=sizeLine then iR _ (Txt.split p " and ") else none)=_
   rw[if_pos (by omega),e]
  rw[e1];rfl
theorem zh: ∀(a:Alt) (acc:List Fv),(∀ts∈a,ts≠[]/\(∀t∈ts,gJ t/\Cn t)/\(jE ts).length<=1900)->acc.length+a.length<=4000->qT pV (a.map jE) acc=some (.inr (acc++a.map aR))
 | [],acc,_,_=>by rw[List.map_nil,List.map_nil,List.append_nil];rfl
 |ts::a,acc,h,l=>by
  obtain⟨h1,h2,h3⟩:=h ts List.mem_cons_self
  rw[List.length_cons] at l
  show (pV acc (jE ts)).bind _=_
  rw[xT h1 (fun t ht=>(h2 t ht).1) h3 (by omega)]
  show qT pV (a.map jE) (acc++[aR ts])=_
  rw[zh a _ (fun z hz=>h z (List.mem_cons_of_mem _ hz)) (by rw[List.length_append,List.length_singleton];omega),List.append_assoc];rfl
theorem xU: ∀(ps:List Str) (acc:List Fv),(∀p∈ps,p.length<=1900)->acc.length+ps.length<=4000->(∃a:Alt,(∀ts∈a,ts≠[]/\ ∀t∈ts,gJ t/\Cn t)/\ps=a.map jE)\/ ∃y,qT pV ps acc=some (.inl (lU y))
 | [],_,_,_=>.inl ⟨[],(fun _ h=>nomatch h),rfl⟩
 |p::ps,acc,h,l=>by
  rw[List.length_cons] at l
  rcases B1 (h p List.mem_cons_self) acc with ⟨ts,h1,h2,h3⟩|⟨y,e⟩
  ·rcases xU ps (acc++[aR ts]) (fun z hz=>h z (List.mem_cons_of_mem _ hz)) (by rw[List.length_append,List.length_singleton];omega) with ⟨a,g1,g2⟩|⟨y,e⟩
   ·exact .inl ⟨ts::a,fun z hz=>by
     rcases List.mem_cons.mp hz with rfl|hz
     ·exact⟨h1,h2⟩
     ·exact g1 z hz,by rw[h3,g2];rfl⟩
   ·refine .inr ⟨y,?_⟩
    show (pV acc p).bind _=_
    rw[h3,xT h1 (fun t ht=>(h2 t ht).1) (by rw[<-h3];exact h p List.mem_cons_self) (by omega)]
    exact e
  ·refine .inr ⟨y,?_⟩
   show (pV acc p).bind _=_
   rw[e];rfl
theorem B3 {x:Str} (l:x.length<=1900):iw x=tX0 (HG (qT pV (Txt.split x " or ") []) "NoRow" "row" (some x) fun y3=>b8 (b1 rq (some y3)) (fun r=>(⟨r⟩:R0 Fv))):=by
 unfold iw
 rw[Option.bind_some,ak,DB (by decide+kernel) (by omega)];rfl
theorem DE {a:Alt} (h:yr a) (l:(jF a).length<=1900):iw (jF a)=some (.inr (oR a)):=by
 obtain⟨l1,l2⟩:=split_len (x:=jF a) (y:=(" or " :Str)) (by decide) (by decide+kernel)
 rw[NH h] at l1 l2
 rw[List.length_map] at l1
 rw[B3 l,NH h,zh a [] (fun ts hts=>⟨(h.2 ts hts).1,(h.2 ts hts).2,Nat.le_trans (l2 _ (List.mem_map_of_mem hts)) l⟩) (by simp;omega)]
 rfl
theorem B4 {x:Str} (l:x.length<=1900):(∃a,yr a/\x=jF a)\/iw x=some (.inl (lU x)):=by
 obtain⟨b1',b2'⟩:=rD (x:=x) (y:=(" or " :Str)) (by decide) (by decide+kernel)
 obtain⟨l1,l2⟩:=split_len (x:=x) (y:=(" or " :Str)) (by decide) (by decide+kernel)
 rcases xU (Txt.split x " or ") [] (fun p hp=>Nat.le_trans (l2 p hp) l) (by simp;omega) with ⟨a,h1,h2⟩|⟨y,e⟩
 ·refine .inl ⟨a,⟨fun z=>b2' (by rw[h2,z];rfl),h1⟩,?_⟩
  rw[<-b1',h2];rfl
 ·refine .inr ?_
  rw[B3 l,e]
  show tX0 (if (lU y).C=("NoRow" :Str) then _ else none)=_
  rw[if_pos (show (lU y).C=("NoRow" :Str) from rfl)];rfl
def iz (z:Str):Option Int:=if wrB z=true/\z.length<=2/\yq z<=98 then some (yq z) else none
theorem NI {z:Str} (l:z.length<=2000):gD z=some (iz z):=by
 unfold gD
 rw[aS,T.vM,dB]
 change tF0 ((cY fW ((TL.tl z).map fun c=>(⟨#[c]⟩:Str)) ()).bind _)=_
 rw[Au (p:=dig) (r:=⟨none⟩) (TL.tl z) fun c hc=>by
  unfold fW
  rw[show ("0" :Str)=⟨#[48]⟩ from rfl,show ("9" :Str)=⟨#[57]⟩ from rfl,chS,tG,aP]
  change _=some (if decide (48<=c/\c<=57)=true then _ else _)
  cases decide (48<=c/\c<=57) <;> rfl]
 cases q:(TL.tl z).all dig with
 |false=>
  have:iz z=none:=if_neg fun h=>by
   have:=h.1
   unfold wrB at this
   rw[q] at this
   cases this
  rw[this];rfl
 |true=>
  rw[if_pos rfl,Option.bind_some,sy,aS,Iy l,chI]
  change tF0 (c9 (orB (o8 (some (rA z 2))) _) _ _ _)=_
  cases q2:rA z 2 with
  |false=>
   have:iz z=none:=if_neg fun h=>by
    have h1:=h.1
    unfold wrB at h1
    rw[q,Bool.true_and] at h1
    have h2:=of_decide_eq_true (Bool.and_eq_true_iff.mp (Bool.and_eq_true_iff.mp h1).1).1
    unfold rA at q2
    rw[decide_eq_true h2,decide_eq_true (by have:=h.2.1;omega)] at q2
    cases q2
   rw[this];rfl
  |true=>
   obtain⟨c,r,e⟩:=headOf q2
   have l1:=of_decide_eq_true (Bool.and_eq_true_iff.mp q2).1
   have l2:=of_decide_eq_true (Bool.and_eq_true_iff.mp q2).2
   have l12:rA z 12=true:=by
    unfold rA
    rw[decide_eq_true l1,decide_eq_true (by omega)];rfl
   have hh:hd0 (TL.tl z)=(decide ((z.length:Int)=2)&&decide (c=48)):=by
    have lz:(z.length:Int)=((r.length+1:Nat):Int):=by rw[ltl,e,List.length_cons]
    rw[e]
    show (decide (c=48)&& !decide (r=[]))=_
    rw[Bool.and_comm]
    congr 1
    cases r with
    |nil=>rw[lz];rfl
    |cons a r=>
     rw[List.length_cons] at lz
     rw[decide_eq_true (show (z.length:Int)=2 by omega)];rfl
   have cond:orB (o8 (some true)) (orB (lL (b2 T.eqA (some (z.length:Int)) (some (2:Int))) (b2 T.eqA (b2 T.atS (some z) (some (0:Int))) (some ("0" :Str)))) (b2 T.gtI (b1 T.qm (some z)) (some (98:Int))))=some (hd0 (TL.tl z)||decide (98<yq z)):=by
    rw[tG,pC,Bool.not_true,if_neg Bool.false_ne_true,ak,T.da,iB,ak,at0 l e,ak,T.da,c0,hh,aS,intD q l12,ak,T.wY]
    cases decide ((z.length:Int)=2) <;> cases decide (c=48) <;> rfl
   change tF0 (c9 (orB (o8 (some true)) (orB (lL (b2 T.eqA (some (z.length:Int)) (some (2:Int))) (b2 T.eqA (b2 T.atS (some z) (some (0:Int))) (some ("0" :Str)))) (b2 T.gtI (b1 T.qm (some z)) (some (98:Int))))) _ _ _)=_
   rw[cond,aP]
   by_cases h:hd0 (TL.tl z)=true
   ·have:iz z=none:=if_neg fun g=>by
     have g1:=g.1
     unfold wrB at g1
     rw[h,Bool.not_true,Bool.and_false,Bool.and_false] at g1
     cases g1
    rw[h,this];rfl
   ·rw[Bool.not_eq_true] at h
    have w:wrB z=true:=by unfold wrB;rw[q,l12,h];rfl
    rw[h,Bool.false_or]
    by_cases g:yq z<=98
    ·rw[decide_eq_false (by omega),if_neg Bool.false_ne_true,show iz z=some (yq z) from if_pos ⟨w,by omega,g⟩,Option.bind_some,bc,aS,intD q l12];rfl
    ·rw[decide_eq_true (by omega),show iz z=none from if_neg fun z=>g z.2.2];rfl
theorem DF {z:Str} {n:Int} (h:iz z=some n):0<=n/\n<=98/\z=num n:=by
 obtain⟨q,e⟩:=aM h
 subst e
 exact⟨Av _,q.2.2,EC q.1⟩
theorem FX {n:Int} (h0:0<=n) (h:n<=98):iz (num n)=some n:=by
 obtain⟨w,d⟩:=ED h0 (show n<=1000001 by omega)
 obtain⟨_,_,_,_,_,_,l⟩:=xR h0 h
 unfold iz
 rw[d,if_pos ⟨w,by rw[ltl];exact l,h⟩]
def ltO (k:Nat) (r:List Str):Option Tm:=if 5<k then none else if r=[("groups" :Str)] then some ⟨k,"groups",0⟩ else if r=[("marks" :Str)] then some ⟨k,"marks",0⟩ else match r with
 | [s,z]=>if s=("sizes" :Str) then (iz z).map fun n=>⟨k,"sizes",n⟩ else none
 |_=>none
theorem ET {A:Type} [En A] [So A] {a b:A} {p:Bool} (ha:So.ok a=true) (hb:So.ok b=true) (h:p=true↔a=b):T.eqD a b=some p:=by
 rw[T.HP ha hb]
 exact congrArg some (Bool.eq_iff_iff.mpr ((@decide_eq_true_iff _ (So.dec a b)).trans h.symm))
theorem KQ {r:List Str} (h: ∀w∈r,Asc w):So.ok r=true:=List.all_eq_true.mpr fun w hw=>(h w hw).ok
theorem IH {k:Nat} {r:List Str} (hr: ∀w s,r=w::s->w≠("no" :Str)) (ok: ∀w∈r,Asc w/\w.length<=2000) (l:k+r.length<=3000):aL (List.replicate k ("no" :Str)++r)=some (ltO k r):=by
 have:=big
 have lw:(List.replicate k ("no" :Str)++r).length=k+r.length:=by rw[List.length_append,List.length_replicate]
 generalize ew:List.replicate k ("no" :Str)++r=ws at lw
 have dr:ws.drop k=r:=by rw[<-ew,List.drop_append,List.length_replicate,Nat.sub_self,List.drop_of_length_le (by rw[List.length_replicate];omega)];rfl
 have atk: ∀{i:Nat} {w:Str},ws[i]? =some w->T.atL ws (i:Int)=some w:=fun {i w} h=>by
  obtain⟨h1,h2⟩:=List.getElem?_eq_some_iff.mp h
  rw[T.p7 (by omega) (by omega)]
  exact congrArg some h2
 have atR: ∀{i:Nat} {w:Str},r[i]? =some w->T.atL ws ((k+i:Nat):Int)=some w:=fun {i w} h=>atk (by rw[<-h,←dr,List.getElem?_drop])
 unfold aL
 rw[Option.bind_some]
 have L:=Ed (tst:=fun y2:Int=>lL (b2 T.ltI (some y2) (b1 T.mq (some ws))) (b2 T.eqA (b2 T.atL (some ws) (some y2)) (some ("no" :Str)))) (step:=ff) (fun y=> ∃i:Nat,i<=k/\y=(i:Int)) (fun y=>k -y.toNat) (fun y ⟨i,hi,ey⟩=>by
  subst ey
  by_cases z:i<k
  ·refine .inr ⟨?_,((i+1:Nat):Int),.inl rfl,⟨i+1,z,rfl⟩,?_⟩
   ·show lL (b2 T.ltI (some (i:Int)) (b1 T.mq (some ws))) (b2 T.eqA (b2 T.atL (some ws) (some (i:Int))) (some ("no" :Str)))=some true
    rw[aS,T.qc,ak,T.wX,decide_eq_true (by omega),iB,if_pos rfl,ak,atk (i:=i) (w:="no") (by rw[<-ew,List.getElem?_append_left (by rw[List.length_replicate];exact z),List.getElem?_replicate,if_pos z]),ak,T.da,decide_eq_true rfl]
   ·show k -(((i+1:Nat):Int)).toNat<k -((i:Nat):Int).toNat
    omega
  ·have ik:i=k:=by omega
   refine .inl ?_
   show lL (b2 T.ltI (some (i:Int)) (b1 T.mq (some ws))) (b2 T.eqA (b2 T.atL (some ws) (some (i:Int))) (some ("no" :Str)))=some false
   rw[aS,T.qc,ak,T.wX,ik,lw,iB]
   cases e:r with
   |nil=>rw[decide_eq_false (by simp)];rfl
   |cons w s=>
    have a0:=atR (i:=0) (w:=w) (by rw[e];rfl)
    rw[decide_eq_true (by rw[List.length_cons];omega),if_pos rfl,ak,show ((k:Nat):Int)=((k+0:Nat):Int) from rfl,a0,ak,T.da,decide_eq_false (hr w s e)]) (b0:=(0:Int)) ⟨0,Nat.zero_le _,rfl⟩
 obtain⟨y,e1,⟨i,hi,rfl⟩,e2⟩:=L
 have ik:i=k:=by
  by_cases z:i<k
  ·exfalso
   have e2:lL (b2 T.ltI (some (i:Int)) (b1 T.mq (some ws))) (b2 T.eqA (b2 T.atL (some ws) (some (i:Int))) (some ("no" :Str)))=some false:=e2
   rw[aS,T.qc,ak,T.wX,decide_eq_true (by omega),iB,if_pos rfl,ak,atk (i:=i) (w:="no") (by rw[<-ew,List.getElem?_append_left (by rw[List.length_replicate];exact z),List.getElem?_replicate,if_pos z]),ak,T.da,decide_eq_true rfl] at e2
   cases e2
  ·omega
 subst ik
 rw[Bf e1,ak,T.wY,aP]
 unfold ltO
 by_cases q5:5<i
 ·rw[decide_eq_true (by omega),if_pos rfl,if_pos q5];rfl
 rw[decide_eq_false (by omega),if_neg Bool.false_ne_true,if_neg q5,Option.bind_some,bc]
 have ct:Sw.dJ ws (some ((i:Nat):Int)) none=r:=by
  have e':HT.sIx ws.length 0 (some ((i:Nat):Int))=min i ws.length:=HT.sIx_nat _ _ _
  show (ws.drop (HT.sIx ws.length 0 (some ((i:Nat):Int)))).take (ws.length -HT.sIx ws.length 0 (some ((i:Nat):Int)))=r
  rw[e',show min i ws.length=i by omega,dr,List.take_of_length_le (by omega)]
 have okr:So.ok r=true:=KQ fun w hw=>(ok w hw).1
 have eg:T.eqD r [("groups" :Str)]=some (decide (r=[("groups" :Str)])):=ET okr (by decide+kernel) decide_eq_true_iff
 have em:T.eqD r [("marks" :Str)]=some (decide (r=[("marks" :Str)])):=ET okr (by decide+kernel) decide_eq_true_iff
 simp only[aS,T.zQ,qb,T.qd,ct,T.l8,T.HL,ak,eg,em,pC,T.qc,T.eW,T.wZ]
 by_cases q1:r=[("groups" :Str)]
 ·have a0:=atR (i:=0) (w:="groups") (by rw[q1];rfl)
  rw[decide_eq_true q1,if_pos rfl,aP,if_pos rfl,if_pos q1,show ((i:Nat):Int)=((i+0:Nat):Int) from rfl,a0];rfl
 rw[decide_eq_false q1,if_neg Bool.false_ne_true,if_neg q1]
 by_cases q2:r=[("marks" :Str)]
 ·have a0:=atR (i:=0) (w:="marks") (by rw[q2];rfl)
  rw[decide_eq_true q2,aP,if_pos rfl,if_pos q2,show ((i:Nat):Int)=((i+0:Nat):Int) from rfl,a0];rfl
 rw[decide_eq_false q2,aP,if_neg Bool.false_ne_true,if_neg q2,Option.bind_some,bc]
 by_cases q3:r.length=2
 case neg=>
  rw[decide_eq_false (show ¬((ws.length:Nat):Int)=((i:Nat):Int)+2 by omega),Bool.not_false,if_pos rfl,aP,if_pos rfl]
  match r,q3 with
  | [],_=>rfl
  | [_],_=>rfl
  | [_,_],h=>exact absurd rfl h
  |_::_::_::_,_=>rfl
 match r,q3,@atR,ok with
 | [s,z],_,atR,ok=>
  have a0:=atR (i:=0) (w:=s) rfl
  have a1:=atR (i:=1) (w:=z) rfl
  rw[decide_eq_true (show ((ws.length:Nat):Int)=((i:Nat):Int)+2 by rw[lw];rfl),Bool.not_true,if_neg Bool.false_ne_true,show T.atL ws ((i:Nat):Int)=some s from a0,show T.atL ws (((i:Nat):Int)+1)=some z from a1,ak,T.wZ]
  change _=some (if s=("sizes" :Str) then (iz z).map fun n=>(⟨(i:Nat),"sizes",n⟩:Tm) else none)
  by_cases q4:s=("sizes" :Str)
  ·rw[decide_eq_true q4,Bool.not_true,pC,if_neg Bool.false_ne_true,if_pos q4,aS,NI (ok z (by simp)).2]
   cases iz z <;> rfl
  ·rw[decide_eq_false q4,if_neg q4];rfl
def tmW (t:Tm):List Str:=List.replicate t.a.toNat ("no" :Str)++if t.b=("sizes" :Str) then [("sizes" :Str),num t.c] else [t.b]
theorem Cc: ∀(ws:List Str),∃k r,ws=List.replicate k ("no" :Str)++r/\ ∀w s,r=w::s->w≠("no" :Str)
 | []=>⟨0,[],rfl,fun _ _ h=>nomatch h⟩
 |w::ws=>by
  by_cases q:w=("no" :Str)
  ·obtain⟨k,r,h1,h2⟩:=Cc ws
   exact⟨k+1,r,by rw[q,h1];rfl,h2⟩
  ·exact⟨0,w::ws,rfl,fun a b h=>by cases h;exact q⟩
def GdT (t:Tm):Prop:=gJ t/\Cn t
theorem uU {ws:List Str} (ok: ∀w∈ws,Asc w/\w.length<=2000) (l:ws.length<=3000):aL ws=some none\/ ∃t,GdT t/\aL ws=some (some t)/\ws=tmW t:=by
 obtain⟨k,r,e,h⟩:=Cc ws
 have lw:ws.length=k+r.length:=by rw[e,List.length_append,List.length_replicate]
 have E:=IH (k:=k) h (fun w hw=>ok w (by rw[e];exact List.mem_append_right _ hw)) (by omega)
 rw[<-e] at E
 have put: ∀(t:Tm),ltO k r=some t->t.a.toNat=k->GdT t->r=(if t.b=("sizes" :Str) then [("sizes" :Str),num t.c] else [t.b])->aL ws=some none\/ ∃t,GdT t/\aL ws=some (some t)/\ws=tmW t:=fun t h1 h2 h3 h4=>.inr ⟨t,h3,by rw[E,h1],by rw[e];unfold tmW;rw[h2,<-h4]⟩
 cases q:ltO k r with
 |none=>exact .inl (by rw[E,q])
 |some t=>
  have q':=q
  unfold ltO at q'
  by_cases k5:5<k
  ·rw[if_pos k5] at q';cases q'
  rw[if_neg k5] at q'
  by_cases q1:r=[("groups" :Str)]
  ·rw[if_pos q1] at q';cases q'
   exact put _ q (Int.toNat_natCast k) ⟨⟨by show (0:Int)<=k;omega,by show (k:Int)<=5;omega,.inl rfl,Int.le_refl 0,by show (0:Int)<=98;decide⟩,.inr rfl⟩ (by rw[if_neg (show ("groups" :Str)≠"sizes" by decide+kernel)];exact q1)
  rw[if_neg q1] at q'
  by_cases q2:r=[("marks" :Str)]
  ·rw[if_pos q2] at q';cases q'
   exact put _ q (Int.toNat_natCast k) ⟨⟨by show (0:Int)<=k;omega,by show (k:Int)<=5;omega,.inr (.inl rfl),Int.le_refl 0,by show (0:Int)<=98;decide⟩,.inr rfl⟩ (by rw[if_neg (show ("marks" :Str)≠"sizes" by decide+kernel)];exact q2)
  rw[if_neg q2] at q'
  match r,q',put with
  | [],q',_=>cases q'
  | [_],q',_=>cases q'
  |_::_::_::_,q',_=>cases q'
  | [s,z],q',put=>
   have q':(if s=("sizes" :Str) then (iz z).map fun n=>(⟨(k:Nat),"sizes",n⟩:Tm) else none)=some t:=q'
   obtain⟨q3,q'⟩:=(show s=("sizes" :Str)/\((iz z).map fun n=>(⟨(k:Nat),"sizes",n⟩:Tm))=some t by
    by_cases h:s=("sizes" :Str)
    ·rw[if_pos h] at q';exact⟨h,q'⟩
    ·rw[if_neg h] at q';cases q')
   obtain⟨n,q4,q5⟩:=cg q'
   subst q5
   obtain⟨n0,n1,n2⟩:=DF q4
   exact put _ q (Int.toNat_natCast k) ⟨⟨by show (0:Int)<=k;omega,by show (k:Int)<=5;omega,.inr (.inr rfl),n0,n1⟩,.inl rfl⟩ (by rw[if_pos rfl,q3,n2])
theorem KR {i:Int} (h:0<=i):Asc (num i):=fun c hc=>by have:=vU h c hc;omega
theorem xV {t:Tm} (h:gJ t): ∀w∈tmW t,(Asc w/\w.length<=2000)/\32∉TL.tl w/\w≠("or" :Str)/\w≠("and" :Str):=fun w hw=>by
 have lit: ∀s:Str,s=("no" :Str)\/s=("sizes" :Str)\/s=("groups" :Str)\/s=("marks" :Str)->(Asc s/\s.length<=2000)/\32∉TL.tl s/\s≠("or" :Str)/\s≠("and" :Str):=fun s hs=>by
  unfold Asc
  rcases hs with rfl|rfl|rfl|rfl <;> decide+kernel
 unfold tmW at hw
 rcases List.mem_append.mp hw with m|m
 ·rw[List.eq_of_mem_replicate m];exact lit _ (.inl rfl)
 ·split at m
  ·simp only[List.mem_cons,List.not_mem_nil,or_false] at m
   rcases m with rfl|rfl
   ·exact lit _ (.inr (.inl rfl))
   ·obtain⟨c,r,e1,e2,e3,e4,e5⟩:=xR h.b0 h.b98
    refine⟨⟨KR h.b0,by rw[ltl];omega⟩,e4,fun q=> ?_,fun q=> ?_⟩
    ·rw[q] at e1
     have:=congrArg (fun l=>l[0]?) e1
     have:some 111=some c:=this
     injection this;omega
    ·rw[q] at e1
     have:=congrArg (fun l=>l[0]?) e1
     have:some 97=some c:=this
     injection this;omega
  ·rename_i q
   rw[List.mem_singleton] at m
   subst m
   exact lit _ (h.kind.elim (fun e=>.inr (.inr (.inl e))) fun e=>e.elim (fun e=>.inr (.inr (.inr e))) fun e=>absurd e q)
theorem vY {t:Tm} (h:gJ t):(tmW t).length<=7:=by
 unfold tmW
 have:=h.t5
 rw[List.length_append,List.length_replicate]
 split <;> simp <;> omega
theorem xW {t:Tm} (h:GdT t):aL (tmW t)=some (some t):=by
 obtain⟨ok,cn⟩:=h
 have t0:=ok.t0
 have t5:=ok.t5
 have W:=xV ok
 have L:=vY ok
 have key: ∀r:List Str,r=(if t.b=("sizes" :Str) then [("sizes" :Str),num t.c] else [t.b])->(∀w s,r=w::s->w≠("no" :Str))->ltO t.a.toNat r=some t->aL (tmW t)=some (some t):=fun r e h1 h2=>by
  unfold tmW at W L⊢
  rw[<-e] at W L⊢
  rw[IH h1 (fun w hw=>(W w (List.mem_append_right _ hw)).1) (by rw[List.length_append,List.length_replicate] at L;omega),h2]
 have ea:((t.a.toNat:Nat):Int)=t.a:=Int.toNat_of_nonneg t0
 rcases ok.kind with e|e|e
 ·have c0:t.c=0:=cn.resolve_left (by rw[e];decide+kernel)
  refine key [("groups" :Str)] (by rw[e,if_neg (by decide+kernel)]) (fun w s q=>by cases q;decide+kernel) ?_
  unfold ltO
  rw[if_neg (by omega),if_pos rfl,ea]
  cases t;cases e;cases c0;rfl
 ·have c0:t.c=0:=cn.resolve_left (by rw[e];decide+kernel)
  refine key [("marks" :Str)] (by rw[e,if_neg (by decide+kernel)]) (fun w s q=>by cases q;decide+kernel) ?_
  unfold ltO
  rw[if_neg (by omega),if_neg (by decide+kernel),if_pos rfl,ea]
  cases t;cases e;cases c0;rfl
 ·refine key [("sizes" :Str),num t.c] (by rw[e,if_pos rfl]) (fun w s q=>by cases q;decide+kernel) ?_
  unfold ltO
  rw[if_neg (by omega),if_neg (by simp),if_neg (by simp)]
  show (if ("sizes" :Str)=("sizes" :Str) then (iz (num t.c)).map fun n=>(⟨(t.a.toNat:Nat),"sizes",n⟩:Tm) else none)=some t
  rw[if_pos rfl,FX ok.b0 ok.b98,ea]
  cases t;cases e;rfl
def TW (ts:List Tm):List Str:=ts.flatMap fun t=>tmW t++[("and" :Str)]
def AW (a:Alt):List Str:=a.flatMap fun ts=>(TW ts).dropLast++[("or" :Str)]
theorem AB (ts:List Tm) (t:Tm):TW (ts++[t])=TW ts++tmW t++[("and" :Str)]:=by
 unfold TW;rw[List.flatMap_append,List.append_assoc];simp
theorem vZ (ts:List Tm) (t:Tm):(TW (ts++[t])).dropLast=TW ts++tmW t:=by rw[AB,List.dropLast_concat]
theorem s8 (a:Alt) (ts:List Tm):AW (a++[ts])=AW a++((TW ts).dropLast++[("or" :Str)]):=by
 unfold AW;rw[List.flatMap_append];simp
theorem AD (a:Alt) (ts:List Tm):(AW (a++[ts])).dropLast=AW a++(TW ts).dropLast:=by rw[s8,←List.append_assoc,List.dropLast_concat]
theorem snoc_cases {A:Type} {l:List A} (h:l≠[]): ∃i x,l=i++[x]:=⟨l.dropLast,l.getLast h,(List.dropLast_concat_getLast h).symm⟩
theorem ue {S:List Nat}: ∀{u v:List (List Nat)},u≠[]->v≠[]->TL.joinL S (u++v)=TL.joinL S u++(S++TL.joinL S v)
 | [a],b::r,_,_=>rfl
 |a::b::r,v,_,h=>by
  show a++(S++TL.joinL S ((b::r)++v))=(a++(S++TL.joinL S (b::r)))++_
  rw[ue (by simp) h,List.append_assoc,List.append_assoc]
theorem EU (ws:List Str):TL.tl (Txt.join " " ws)=TL.joinL [32] (ws.map TL.tl):=by rw[TL.join_eq,TL.tl_join,uR]
theorem AE {u v:List Str} (hu:u≠[]) (hv:v≠[]):Txt.join " " (u++v)=Txt.join " " u++((" " :Str)++Txt.join " " v):=TL.ext_tl (by
 rw[EU,List.map_append,ue (by simpa using hu) (by simpa using hv),TL.tl_append,TL.tl_append,EU,EU,uR])
theorem II (t:Tm):tmW t≠[]:=fun e=>by
 unfold tmW at e
 have:=(List.append_eq_nil_iff.mp e).2
 split at this <;> cases this
theorem Ls (t:Tm):Txt.join " " (tmW t)=tmS t:=TL.ext_tl (by
 have key: ∀(k:Nat) (r:List Str) (b:List Nat),r≠[]->TL.joinL [32] (r.map TL.tl)=b->TL.joinL [32] ((List.replicate k ("no" :Str)++r).map TL.tl)=noL k++b:=fun k r b hr e=>by
  induction k with
  |zero=>exact e
  |succ k ih=>
   rw[List.replicate_succ,List.cons_append,List.map_cons]
   have ne:(List.replicate k ("no" :Str)++r).map TL.tl≠[]:=by simp[hr]
   rw[show TL.tl ("no" :Str)::(List.replicate k ("no" :Str)++r).map TL.tl=[TL.tl ("no" :Str)]++(List.replicate k ("no" :Str)++r).map TL.tl from rfl,ue (by simp) ne,ih]
   rfl
 rw[EU]
 unfold tmW tmS
 rw[TL.tl_append,mF]
 refine key _ _ _ (by split <;> simp) ?_
 unfold bsS
 split
 ·rw[TL.tl_append];rfl
 ·rfl)
theorem B5 {ts:List Tm} (h:ts≠[]):(TW ts).dropLast≠[]:=by
 obtain⟨i,x,rfl⟩:=snoc_cases h
 rw[vZ]
 intro e
 exact II x (List.append_eq_nil_iff.mp e).2
theorem xX {y:Str} {a:Str} {r:List Str} (h:r≠[]):Txt.join y (a::r)=a++(y++Txt.join y r):=TL.ext_tl (by
 rw[TL.join_eq,TL.join_eq,TL.tl_append,TL.tl_append,TL.tl_join,TL.tl_join]
 cases r with
 |nil=>exact absurd rfl h
 |cons b r=>rfl)
theorem DG: ∀{ts:List Tm},ts≠[]->Txt.join " " (TW ts).dropLast=jE ts
 | [t],_=>by
  have:TW [t]=[]++tmW t++[("and" :Str)]:=AB [] t
  rw[this,List.dropLast_concat,List.nil_append,Ls]
  refine TL.ext_tl ?_
  unfold jE
  rw[TL.join_eq,TL.tl_join];rfl
 |t::u::r,_=>by
  have e:TW (t::u::r)=tmW t++([("and" :Str)]++TW (u::r)):=by
   show (tmW t++[("and" :Str)])++TW (u::r)=_
   rw[List.append_assoc]
  have ne:TW (u::r)≠[]:=fun z=>B5 (ts:=u::r) (by simp) (by rw[z];rfl)
  have e2:(TW (t::u::r)).dropLast=tmW t++([("and" :Str)]++(TW (u::r)).dropLast):=by
   rw[e,List.dropLast_append_of_ne_nil (by simp),List.dropLast_append_of_ne_nil ne]
  rw[e2,AE (II t) (by simp),AE (by simp) (B5 (by simp)),Ls,DG (by simp)]
  unfold jE
  rw[List.map_cons (a:=t),xX (y:=(" and " :Str)) (r:=(u::r).map tmS) (by simp)]
  refine TL.ext_tl ?_
  simp only[TL.tl_append]
  rfl
theorem IJ: ∀{a:Alt},a≠[]->(∀ts∈a,ts≠[])->Txt.join " " (AW a).dropLast=jF a
 | [ts],_,h=>by
  have:AW [ts]=[]++((TW ts).dropLast++[("or" :Str)]):=s8 [] ts
  rw[this,List.nil_append,List.dropLast_concat,DG (h ts List.mem_cons_self)]
  refine TL.ext_tl ?_
  unfold jF
  rw[TL.join_eq,TL.tl_join];rfl
 |t::u::r,_,h=>by
  have e:AW (t::u::r)=(TW t).dropLast++([("or" :Str)]++AW (u::r)):=by
   show ((TW t).dropLast++[("or" :Str)])++AW (u::r)=_
   rw[List.append_assoc]
  have ne2:(AW (u::r)).dropLast≠[]:=by
   obtain⟨i,x,e⟩:=snoc_cases (show u::r≠[] by simp)
   have hx:x≠[]:=h x (List.mem_cons_of_mem _ (by rw[e];simp))
   rw[e,AD]
   intro z
   exact B5 hx (List.append_eq_nil_iff.mp z).2
  have ne:AW (u::r)≠[]:=fun z=>ne2 (by rw[z];rfl)
  have e2:(AW (t::u::r)).dropLast=(TW t).dropLast++([("or" :Str)]++(AW (u::r)).dropLast):=by
   rw[e,List.dropLast_append_of_ne_nil (by simp),List.dropLast_append_of_ne_nil ne]
  rw[e2,AE (B5 (h t List.mem_cons_self)) (by simp),AE (by simp) ne2,DG (h t List.mem_cons_self),IJ (by simp) fun z hz=>h z (List.mem_cons_of_mem _ hz)]
  unfold jF
  rw[List.map_cons (a:=t),xX (y:=(" or " :Str)) (r:=(u::r).map jE) (by simp)]
  refine TL.ext_tl ?_
  simp only[TL.tl_append]
  rfl
theorem Pm {ts:List Tm} (h: ∀t∈ts,gJ t): ∀w∈TW ts,32∉TL.tl w:=fun w hw=>by
 obtain⟨t,ht,m⟩:=List.mem_flatMap.mp hw
 rcases List.mem_append.mp m with m|m
 ·exact (xV (h t ht) w m).2.1
 ·rw[List.mem_singleton.mp m];decide
theorem Pn {a:Alt} (h: ∀ts∈a,∀t∈ts,gJ t): ∀w∈AW a,32∉TL.tl w:=fun w hw=>by
 obtain⟨t,ht,m⟩:=List.mem_flatMap.mp hw
 rcases List.mem_append.mp m with m|m
 ·exact Pm (h t ht) w ((List.dropLast_sublist _).subset m)
 ·rw[List.mem_singleton.mp m];decide
theorem xY {a:Alt} (h:a≠[]) (n: ∀ts∈a,ts≠[]) (ok: ∀ts∈a,∀t∈ts,gJ t):words (jF a)++[("or" :Str)]=AW a:=by
 obtain⟨i,x,e⟩:=snoc_cases h
 have dn:(AW a).dropLast≠[]:=by
  rw[e,AD]
  intro z
  exact B5 (n x (by rw[e];simp)) (List.append_eq_nil_iff.mp z).2
 rw[<-IJ h n,words_of dn fun w hw=>Pn ok w ((List.dropLast_sublist _).subset hw),e,AD,s8,List.append_assoc]
theorem FY {a:Alt} (h:yr a):words (jF a)++[("or" :Str)]=AW a:=xY h.1 (fun ts hts=>(h.2 ts hts).1) fun ts hts t ht=>((h.2 ts hts).2 t ht).1
theorem stW {f:Alt} {cur:List Str} {w:Str} (h1:w≠("or" :Str)) (h2:w≠("and" :Str)) (l:cur.length<=3000):aD (f,cur) w=some (.nx (f,cur++[w])):=by
 have:=big
 unfold aD
 rw[ak,T.da,ak,T.da,decide_eq_false h1,decide_eq_false h2,show orB (some false) (some false)=some false from rfl,aP,if_neg Bool.false_ne_true]
 show ((T.at1 cur (some plR) (some w) T.app).bind _).bind _=_
 rw[T.HM,T.w8 (by omega)];rfl
theorem xZ {w:Str} (hw:w=("or" :Str)\/w=("and" :Str)):orB (b2 T.eqA (some w) (some ("or" :Str))) (b2 T.eqA (some w) (some ("and" :Str)))=some true:=by
 rw[ak,T.da,ak,T.da]
 rcases hw with rfl|rfl
 ·rfl
 ·rw[decide_eq_false (by decide+kernel),decide_eq_true rfl];rfl
theorem stN {f:Alt} {cur:List Str} {w:Str} (hw:w=("or" :Str)\/w=("and" :Str)) (h:aL cur=some none):aD (f,cur) w=some (.ret ⟨none⟩):=by
 unfold aD
 rw[xZ hw,aP,if_pos rfl]
 show (((aL cur).bind _).bind _)=_
 rw[h];rfl
theorem at_last {a:Alt} {ts:List Tm} {t:Tm} (l:ts.length<=3000):T.at1 (a++[ts]) (plX (a++[ts]) (some plR) (b1 T.rR (some (1:Int)))) (some t) T.app=some ((),a++[ts++[t]]):=by
 have:=big
 have ix:ixN (a++[ts]).length (-1)=some a.length:=by
  unfold ixN
  rw[List.length_append,List.length_singleton,if_neg (by decide),if_pos (by omega)]
  congr 1;omega
 have gt:(a++[ts])[a.length]? =some ts:=by rw[List.getElem?_append_right (Nat.le_refl _),Nat.sub_self];rfl
 have st: ∀z,(a++[ts]).set a.length z=a++[z]:=fun z=>by rw[List.set_append_right _ _ (Nat.le_refl _),Nat.sub_self];rfl
 rw[aS,T.Eg]
 unfold plX
 rw[Option.bind_some,Option.bind_some,show (plR:Lz Alt Alt).get (a++[ts])=some (a++[ts]) from rfl,Option.bind_some,ix,Option.bind_some,gt,if_pos (show (some ts).isSome=true from rfl)]
 unfold T.at1
 rw[Option.bind_some,Option.bind_some]
 show (((a++[ts])[a.length]?).bind fun x=>(T.app x t).bind fun c=>some (c.1,(a++[ts]).set a.length c.2))=_
 rw[gt,Option.bind_some,T.w8 (by omega),Option.bind_some,st]
theorem stA {a:Alt} {ts:List Tm} {cur:List Str} {t:Tm} (h:aL cur=some (some t)) (l:ts.length<=3000):aD (a++[ts],cur) ("and" :Str)=some (.nx (a++[ts++[t]],[])):=by
 unfold aD
 rw[xZ (.inr rfl),aP,if_pos rfl]
 show (((aL cur).bind _).bind _)=_
 rw[h,Option.bind_some,show b2 T.isN (some (some t)) (some ())=some false from rfl,aP,if_neg Bool.false_ne_true,Option.bind_some,bc]
 show (((T.at1 (a++[ts]) (plX (a++[ts]) (some plR) (b1 T.rR (some (1:Int)))) (some t) T.app).bind _).bind _)=_
 rw[at_last l]
 rfl
theorem stO {a:Alt} {ts:List Tm} {cur:List Str} {t:Tm} (h:aL cur=some (some t)) (l:ts.length<=3000) (la:a.length<=3000):aD (a++[ts],cur) ("or" :Str)=some (.nx (a++[ts++[t]]++[[]],[])):=by
 have:=big
 unfold aD
 rw[xZ (.inl rfl),aP,if_pos rfl]
 show (((aL cur).bind _).bind _)=_
 rw[h,Option.bind_some,show b2 T.isN (some (some t)) (some ())=some false from rfl,aP,if_neg Bool.false_ne_true,Option.bind_some,bc]
 show (((T.at1 (a++[ts]) (plX (a++[ts]) (some plR) (b1 T.rR (some (1:Int)))) (some t) T.app).bind _).bind _)=_
 rw[at_last l,Option.bind_some,Option.bind_some,show b2 T.eqA (some ("or" :Str)) (some ("or" :Str))=some true from rfl,aP,if_pos rfl]
 show ((((T.at1 (a++[ts++[t]]) (some plR) (some []) T.app).bind _).bind _).bind _)=_
 rw[T.HM,T.w8 (by rw[List.length_append,List.length_singleton];omega)];rfl
theorem oJ: ∀(ws:List Str) (a:Alt) (ts:List Tm) (cur:List Str),(∀w∈cur++ws,Asc w/\w.length<=2000)->a.length+ts.length+cur.length+ws.length<=2900->(∀ts∈a,ts≠[]/\ ∀t∈ts,GdT t)->(∀t∈ts,GdT t)→
  cY aD (ws++[("or" :Str)]) (a++[ts],cur)=some (.ret ⟨none⟩)\/ ∃a',yr a'/\cY aD (ws++[("or" :Str)]) (a++[ts],cur)=some (.fin (a'++[[]],[]))/\AW a'=AW a++TW ts++cur++ws++[("or" :Str)]
 | [],a,ts,cur,ok,l,ha,hts=>by
  simp only[List.append_nil,List.length_nil,Nat.add_zero] at ok l
  show (aD _ _).bind _=_\/ ∃a',yr a'/\(aD _ _).bind _=_/\_
  rcases uU ok (by omega) with e|⟨t,g,e,ew⟩
  ·exact .inl (by rw[stN (.inl rfl) e];rfl)
  ·refine .inr ⟨a++[ts++[t]],⟨by simp,fun z hz=> ?_⟩,by rw[stO e (by omega) (by omega)];rfl,?_⟩
   ·rcases List.mem_append.mp hz with m|m
    ·exact ha z m
    ·rw[List.mem_singleton.mp m]
     refine⟨by simp,fun u hu=> ?_⟩
     rcases List.mem_append.mp hu with m|m
     ·exact hts u m
     ·rw[List.mem_singleton.mp m];exact g
   ·rw[s8,vZ,ew]
    simp only[List.append_assoc,List.append_nil]
 |w::ws,a,ts,cur,ok,l,ha,hts=>by
  rw[List.length_cons] at l
  have okc: ∀w∈cur,Asc w/\w.length<=2000:=fun z hz=>ok z (List.mem_append_left _ hz)
  have okr: ∀w∈ws,Asc w/\w.length<=2000:=fun z hz=>ok z (List.mem_append_right _ (List.mem_cons_of_mem _ hz))
  show (aD _ _).bind _=_\/ ∃a',yr a'/\(aD _ _).bind _=_/\_
  by_cases m:w=("or" :Str)\/w=("and" :Str)
  case neg=>
   rw[stW (fun e=>m (.inl e)) (fun e=>m (.inr e)) (by omega)]
   have ih:=oJ ws a ts (cur++[w]) (fun z hz=>ok z (by rw[List.append_assoc] at hz;exact hz)) (by rw[List.length_append,List.length_singleton];omega) ha hts
   refine ih.imp id fun⟨a',h1,h2,h3⟩=>⟨a',h1,h2,?_⟩
   rw[h3]
   simp only[List.append_assoc];rfl
  rcases uU okc (by omega) with e|⟨t,g,e,ew⟩
  ·exact .inl (by rw[stN m e];rfl)
  rcases m with rfl|rfl
  ·rw[stO e (by omega) (by omega)]
   have ih:=oJ ws (a++[ts++[t]]) [] [] (fun z hz=>okr z hz) (by rw[List.length_append,List.length_singleton];simp only[List.length_nil];omega) (fun z hz=>by
    rcases List.mem_append.mp hz with m|m
    ·exact ha z m
    ·rw[List.mem_singleton.mp m]
     refine⟨by simp,fun u hu=> ?_⟩
     rcases List.mem_append.mp hu with m|m
     ·exact hts u m
     ·rw[List.mem_singleton.mp m];exact g) (fun _ h=>nomatch h)
   refine ih.imp id fun⟨a',h1,h2,h3⟩=>⟨a',h1,h2,?_⟩
   rw[h3,s8,vZ,ew]
   simp only[List.append_assoc,TW,List.flatMap_nil,List.nil_append];rfl
  ·rw[stA e (by omega)]
   have ih:=oJ ws a (ts++[t]) [] (fun z hz=>okr z hz) (by rw[List.length_append,List.length_singleton];simp only[List.length_nil];omega) ha (fun u hu=>by
     rcases List.mem_append.mp hu with m|m
     ·exact hts u m
     ·rw[List.mem_singleton.mp m];exact g)
   refine ih.imp id fun⟨a',h1,h2,h3⟩=>⟨a',h1,h2,?_⟩
   rw[h3,AB,ew]
   simp only[List.append_assoc,List.nil_append];rfl
theorem x8 {f:Alt} {rest:List Str}: ∀(ws cur:List Str),(∀w∈ws,w≠("or" :Str)/\w≠("and" :Str))->cur.length+ws.length<=2000->cY aD (ws++rest) (f,cur)=cY aD rest (f,cur++ws)
 | [],cur,_,_=>by rw[List.nil_append,List.append_nil]
 |w::ws,cur,h,l=>by
  rw[List.length_cons] at l
  show (aD _ _).bind _=_
  rw[stW (h w List.mem_cons_self).1 (h w List.mem_cons_self).2 (by omega)]
  show cY aD (ws++rest) (f,cur++[w])=_
  rw[x8 ws _ (fun z hz=>h z (List.mem_cons_of_mem _ hz)) (by rw[List.length_append,List.length_singleton];omega),List.append_assoc];rfl
theorem B6 {a:Alt} {rest:List Str}: ∀(us ts:List Tm),(∀t∈us,GdT t)->ts.length+us.length<=2000->cY aD (TW us++rest) (a++[ts],[])=cY aD rest (a++[ts++us],[])
 | [],ts,_,_=>by rw[List.append_nil];rfl
 |u::us,ts,h,l=>by
  rw[List.length_cons] at l
  have g:=h u List.mem_cons_self
  have W:=xV g.1
  have L:=vY g.1
  have e:TW (u::us)++rest=tmW u++(("and" :Str)::(TW us++rest)):=by
   show ((tmW u++[("and" :Str)])++TW us)++rest=_
   simp only[List.append_assoc];rfl
  rw[e,x8 _ [] (fun w hw=>(W w hw).2.2) (by simp;omega),List.nil_append]
  show (aD _ _).bind _=_
  rw[stA (xW g) (by omega)]
  show cY aD (TW us++rest) (a++[ts++[u]],[])=_
  rw[B6 us (ts++[u]) (fun z hz=>h z (List.mem_cons_of_mem _ hz)) (by rw[List.length_append,List.length_singleton];omega),List.append_assoc];rfl
theorem EV: ∀(b a:Alt),(∀ts∈b,(ts≠[]/\ts.length<=1950)/\ ∀t∈ts,GdT t)->a.length+b.length<=2000->cY aD (AW b) (a++[[]],[])=some (.fin (a++b++[[]],[]))
 | [],a,_,_=>by rw[List.append_nil];rfl
 |ts::b,a,h,l=>by
  rw[List.length_cons] at l
  obtain⟨⟨ne,len⟩,g⟩:=h ts List.mem_cons_self
  obtain⟨i,x,e⟩:=snoc_cases ne
  subst e
  rw[List.length_append,List.length_singleton] at len
  have gx:=g x (by simp)
  have W:=xV gx.1
  have L:=vY gx.1
  have e:AW ((i++[x])::b)=TW i++(tmW x++(("or" :Str)::AW b)):=by
   show ((TW (i++[x])).dropLast++[("or" :Str)])++AW b=_
   rw[vZ]
   simp only[List.append_assoc];rfl
  rw[e,B6 i [] (fun t ht=>g t (List.mem_append_left _ ht)) (by simp only[List.length_nil];omega),List.nil_append,x8 _ [] (fun w hw=>(W w hw).2.2) (by simp;omega),List.nil_append]
  show (aD _ _).bind _=_
  rw[stO (xW gx) (by omega) (by omega)]
  show cY aD (AW b) (a++[i++[x]]++[[]],[])=_
  rw[EV b (a++[i++[x]]) (fun z hz=>h z (List.mem_cons_of_mem _ hz)) (by rw[List.length_append,List.length_singleton];omega)]
  simp only[List.append_assoc];rfl
theorem FZ {x:Str} (h:Asc x): ∀w∈words x,Asc w:=fun w hw c hc=>by
 have key: ∀(l acc:List Nat),(∀c∈acc++l,c<127)-> ∀p∈TL.spl [32] 0 acc l,∀c∈p,c<127:=fun l=>by
  induction l with
  |nil=>intro acc h p hp c hc;rw[TL.spl_nil] at hp;rw[List.mem_singleton.mp hp] at hc;exact h c (List.mem_append_left _ hc)
  |cons z r ih=>
   intro acc h p hp c hc
   cases q:TL.pre [32] (z::r) with
   |true=>
    rw[TL.spl_hit q] at hp
    rcases List.mem_cons.mp hp with rfl|hp
    ·exact h c (List.mem_append_left _ hc)
    ·exact ih [] (fun c hc=>h c (List.mem_append_right _ (List.mem_cons_of_mem _ hc))) p hp c hc
   |false=>
    rw[TL.spl_miss q] at hp
    exact ih (acc++[z]) (fun c hc=>h c (by rw[List.append_assoc] at hc;exact hc)) p hp c hc
 exact key (TL.tl x) [] h (TL.tl w) (by rw[<-words_tl];exact List.mem_map_of_mem hw) c hc
theorem uf (x:Str):(words x).length<=x.length+1:=(split_len (x:=x) (y:=(" " :Str)) (by decide) (by decide+kernel)).1
theorem B7 {x:Str} (l:x.length<=1900):fX x=tF0 ((cY aD (words x++[("or" :Str)]) ([[]],[])).bind (Cv fun(y3:Alt×List Str)=>b8 ((o9 T.dJ (some y3.1) (some none) (b1 T.toI (b1 T.rR (some (1:Int))))).map some) (fun r=>(⟨r⟩:R0 (Option Alt))))):=by
 have:=big
 have:=uf x
 unfold fX
 simp only[T.l8,T.HL]
 rw[Option.bind_some,Option.bind_some,ak,IA (by omega),ak,T.sx (by rw[List.length_singleton];omega),dB]
theorem IK {A:Type} (a:List A) (z:A):Sw.dJ (a++[z]) none (some (-1))=a:=by
 have e:HT.sIx (a++[z]).length (a++[z]).length (some (-1))=a.length:=by
  show (if (-1:Int)<0 then ((-1:Int)+((a++[z]).length:Int)).toNat else min (-1:Int).toNat (a++[z]).length)=_
  rw[if_pos (by decide),List.length_append,List.length_singleton];omega
 show (((a++[z]).drop 0).take (HT.sIx (a++[z]).length (a++[z]).length (some (-1)) -0))=a
 rw[e,List.drop_zero,Nat.sub_zero,List.take_left]
theorem B9 {x:Str} (h:Asc x) (l:x.length<=1900):fX x=some none\/ ∃a,yr a/\x=jF a:=by
 have wc:=uf x
 rcases oJ (words x) [] [] [] (fun w hw=>⟨FZ h w hw,by have:=FT hw;omega⟩) (by simp only[List.length_nil];omega) (fun _ h=>nomatch h) (fun _ h=>nomatch h) with e|⟨a,g,e,ew⟩
 ·refine .inl ?_
  rw[B7 l]
  rw[List.nil_append] at e
  rw[e];rfl
 ·refine .inr ⟨a,g,?_⟩
  have e2:AW a=words x++[("or" :Str)]:=by
   rw[ew];rfl
  rw[<-IJ g.1 fun ts hts=>(g.2 ts hts).1,e2,List.dropLast_concat,rB]
theorem DH {a:Alt} (g:yr a) (l:(jF a).length<=1900):fX (jF a)=some (some a):=by
 have wc:=uf (jF a)
 have wa:=FY g
 obtain⟨l1,l2⟩:=split_len (x:=jF a) (y:=(" or " :Str)) (by decide) (by decide+kernel)
 rw[NH g] at l1 l2
 rw[List.length_map] at l1
 have L:=EV a [] (fun ts hts=>by
  refine⟨⟨(g.2 ts hts).1,?_⟩,(g.2 ts hts).2⟩
  have h1:=l2 _ (List.mem_map_of_mem (f:=jE) hts)
  have h2:=(split_len (x:=jE ts) (y:=(" and " :Str)) (by decide) (by decide+kernel)).1
  rw[(NG (g.2 ts hts).1 fun t ht=>((g.2 ts hts).2 t ht).1).2,List.length_map] at h2
  omega) (by simp only[List.length_nil];omega)
 rw[B7 l,wa]
 rw[List.nil_append,List.nil_append] at L
 rw[L,Option.bind_some,sy,aS,T.Eg,aS,T.zQ,qb,T.qd,IK];rfl
theorem NJ (x:Str):T.sgs x=(TL.tl x).map fun c=>(⟨#[c]⟩:Str):=rfl
theorem sign_of {z:Str} (hz:Asc z) (h1:0<z.length) (h2:z.length<=200) (v:Int): ∃y,T.atS z (v%(z.length:Int))=some y/\Asc y/\y.length=1:=by
 have:=big
 obtain⟨m0,m1⟩:=xS v (show (0:Int)<(z.length:Int) by omega)
 have hi:(v%(z.length:Int)).toNat<(TL.tl z).length:=by rw[<-ltl];omega
 refine⟨⟨#[(TL.tl z)[(v%(z.length:Int)).toNat]]⟩,?_,fun c hc=> ?_,rfl⟩
 ·unfold T.atS
  rw[if_pos (by omega),NJ,atI_nat m0 (by rw[List.length_map,←ltl];omega),List.getElem?_map,List.getElem?_eq_getElem hi];rfl
 ·have:c=(TL.tl z)[(v%(z.length:Int)).toNat]:=List.mem_singleton.mp (show c∈[(TL.tl z)[(v%(z.length:Int)).toNat]] from hc)
  rw[this]
  exact hz _ (List.getElem_mem _)
theorem Po (v:Int): ∃y,iI v=some y/\Asc y/\y.length=1:=by
 obtain⟨z,hz⟩: ∃z:Str,z=(" !\"#$&'()*+,-./0123456789:;<=>?@ABCDEFGHIJKLMNOPQRSTUVWXYZ[\\]^_`" :Str)++("abcdefghijklmnopqrstuvwxyz{|}~" :Str):=⟨_,rfl⟩
 have e1:T.iJ (" !\"#$&'()*+,-./0123456789:;<=>?@ABCDEFGHIJKLMNOPQRSTUVWXYZ[\\]^_`" :Str) ("abcdefghijklmnopqrstuvwxyz{|}~" :Str)=some z:=by
  rw[hz];exact T.zP (by decide+kernel)
 have l:z.length=94:=by rw[hz];decide+kernel
 have lo:Asc z:=by rw[hz];show ∀c∈TL.tl _,c<127;decide+kernel
 have lo2:Asc ("0123456789 osnd" :Str):=by show ∀c∈TL.tl _,c<127;decide+kernel
 have l2:("0123456789 osnd" :Str).length=15:=by decide+kernel
 unfold iI
 rw[Option.bind_some,ak,e1,Option.bind_some,ak,T.bE (by decide),ak,T.da,aP,ak,T.jH (by decide) (by decide)]
 by_cases q:v%2=0
 ·obtain⟨y,ey,hy⟩:=sign_of lo2 (by rw[l2];decide) (by rw[l2];decide) (v/2)
  refine⟨y,?_,hy⟩
  rw[decide_eq_true q,if_pos rfl,Option.bind_some,Option.bind_some,bc,aS,Iy (by rw[l2];decide),ak,T.bE (by rw[l2];decide),ak,ey];rfl
 ·obtain⟨y,ey,hy⟩:=sign_of lo (by rw[l];decide) (by rw[l];decide) (v/2)
  refine⟨y,?_,hy⟩
  rw[decide_eq_false q,if_neg Bool.false_ne_true,Option.bind_some,bc,aS,Iy (by rw[l];decide),ak,T.bE (by rw[l];decide),ak,ey];rfl
theorem QW (v:Int): ∃y,fB v=some y/\Asc y/\y.length<=20:=by
 have:=big
 obtain⟨l,hl⟩: ∃l:List Str,l=(["98","99","100","0","00","098","-1","","no","or","and","groups","marks","sizes","Groups"]:List Str)++(["size","no no no no no no","sizes 3","not","999999999999","1000000000000","x"]:List Str):=⟨_,rfl⟩
 have ad:T.qj (["98","99","100","0","00","098","-1","","no","or","and","groups","marks","sizes","Groups"]:List Str) (["size","no no no no no no","sizes 3","not","999999999999","1000000000000","x"]:List Str)=some l:=by
  rw[hl];exact T.sx (by show 15+7<=_;omega)
 have ll:l.length=22:=by rw[hl];rfl
 have la: ∀w∈l,(∀c∈TL.tl w,c<127)/\w.length<=20:=by rw[hl];decide+kernel
 have ls: ∀xs:List Str,xs.length<=100->T.lst (some xs)=some xs:=fun xs h=>if_pos (by omega)
 obtain⟨m0,m1⟩:=xS v (show (0:Int)<22 by decide)
 obtain⟨y,ey,hy⟩:=DA (ws:=l) (i:=v%22) m0 (by rw[ll];exact m1)
 refine⟨y,?_,la y hy⟩
 unfold fB
 simp only[T.l8]
 rw[ls _ (by simp),Option.bind_some,ls _ (by simp),ak,ad,Option.bind_some,aS,T.qc,ll,ak,show ((22:Nat):Int)=22 from rfl,T.bE (by decide),ak,ey];rfl
theorem NK {t:Tm} (h:gJ t): ∀w∈tmW t,w.length<=20:=fun w hw=>by
 have lit: ∀s:Str,s=("no" :Str)\/s=("sizes" :Str)\/s=("groups" :Str)\/s=("marks" :Str)->s.length<=20:=fun s hs=>by
  rcases hs with rfl|rfl|rfl|rfl <;> decide+kernel
 unfold tmW at hw
 rcases List.mem_append.mp hw with m|m
 ·rw[List.eq_of_mem_replicate m];exact lit _ (.inl rfl)
 ·split at m
  ·simp only[List.mem_cons,List.not_mem_nil,or_false] at m
   rcases m with rfl|rfl
   ·exact lit _ (.inr (.inl rfl))
   ·obtain⟨c,r,e1,e2,e3,e4,e5⟩:=xR h.b0 h.b98
    rw[ltl];omega
  ·rename_i q
   rw[List.mem_singleton] at m
   subst m
   exact lit _ (h.kind.elim (fun e=>.inr (.inr (.inl e))) fun e=>e.elim (fun e=>.inr (.inr (.inr e))) fun e=>absurd e q)
theorem EW:Asc ("and" :Str)/\Asc ("or" :Str):=by unfold Asc;decide+kernel
theorem Lu: ∀{ts:List Tm},(∀t∈ts,gJ t)->(TW ts).length<=8*ts.length/\ ∀w∈TW ts,Asc w/\w.length<=20
 | [],_=>⟨Nat.le_refl _,fun _ h=>nomatch h⟩
 |t::ts,h=>by
  obtain⟨h1,h2⟩:=Lu fun z hz=>h z (List.mem_cons_of_mem _ hz)
  have L:=vY (h t List.mem_cons_self)
  have e:TW (t::ts)=(tmW t++[("and" :Str)])++TW ts:=rfl
  rw[e]
  refine⟨by rw[List.length_append,List.length_append,List.length_singleton,List.length_cons];omega,fun w hw=> ?_⟩
  rcases List.mem_append.mp hw with m|m
  ·rcases List.mem_append.mp m with m|m
   ·exact⟨(xV (h t List.mem_cons_self) w m).1.1,NK (h t List.mem_cons_self) w m⟩
   ·rw[List.mem_singleton.mp m];exact⟨EW.1,by decide+kernel⟩
  ·exact h2 w m
theorem Ly: ∀{a:Alt},(∀ts∈a,ts.length<=3/\ ∀t∈ts,gJ t)->(AW a).length<=25*a.length/\ ∀w∈AW a,Asc w/\w.length<=20
 | [],_=>⟨Nat.le_refl _,fun _ h=>nomatch h⟩
 |t::ts,h=>by
  obtain⟨h1,h2⟩:=Ly fun z hz=>h z (List.mem_cons_of_mem _ hz)
  obtain⟨l3,hk⟩:=h t List.mem_cons_self
  obtain⟨L,K⟩:=Lu hk
  have e:AW (t::ts)=((TW t).dropLast++[("or" :Str)])++AW ts:=rfl
  rw[e]
  refine⟨by rw[List.length_append,List.length_append,List.length_singleton,List.length_cons,List.length_dropLast];omega,fun w hw=> ?_⟩
  rcases List.mem_append.mp hw with m|m
  ·rcases List.mem_append.mp m with m|m
   ·exact K w ((List.dropLast_sublist _).subset m)
   ·rw[List.mem_singleton.mp m];exact⟨EW.2,by decide+kernel⟩
  ·exact h2 w m
theorem F0 {a:Alt} (h:EJ a):Ws 75 20 (words (jF a))/\1<=(words (jF a)).length:=by
 have h1:=h.1.1
 have h3:=h.1.2
 have ne:a≠[]:=fun e=>by rw[e] at h1;exact absurd h1 (by decide)
 have n: ∀ts∈a,ts≠[]:=fun ts hts e=>by have:=(h.2 ts hts).1.1;rw[e] at this;exact absurd this (by decide)
 obtain⟨L,K⟩:=Ly (a:=a) fun ts hts=>⟨(h.2 ts hts).1.2,(h.2 ts hts).2⟩
 have wa:=xY ne n fun ts hts=>(h.2 ts hts).2
 have e:words (jF a)=(AW a).dropLast:=by rw[<-wa,List.dropLast_concat]
 refine⟨⟨by rw[e,List.length_dropLast];omega,fun w hw=>K w ((List.dropLast_sublist _).subset (by rw[<-e];exact hw))⟩,List.length_pos_iff.mpr (Iz _)⟩
theorem NL {a:Alt} (h:EJ a) (v o:Int): ∃y,gW (jF a) v o=some y/\Asc y/\y.length<=1900:=by
 have:=big
 obtain⟨W,n1⟩:=F0 h
 have A:Asc (jF a):=by
  have e:=rB (jF a)
  obtain⟨y,ey,ay,_⟩:=W.join (by decide)
  have:Txt.join " " (words (jF a))=y:=by
   obtain⟨_,z⟩:=aM ey
   exact z
  rw[<-this,e] at ay
  exact ay
 have Ll:=(Pf h).2.1
 obtain⟨s,es,as,ls⟩:=Po o
 obtain⟨w,ew,aw,lw⟩:=QW o
 unfold gW
 generalize jF a=x at*
 generalize hws:words x=ws at*
 have wl:=W.len
 rw[ak,T.bE (by decide),Option.bind_some,ak,T.jH (by decide) (by decide),aS,Iy (by omega),ak,T.eW,ak,T.bE (by omega),Option.bind_some,ak,IA (by omega),Option.bind_some,hws,aS,T.qc,ak,T.bE (by omega),Option.bind_some,ak,T.bE (by omega),Option.bind_some]
 generalize hp:v/8%((x.length:Int)+1)=p
 have p0:0<=p:=by rw[<-hp];exact Int.emod_nonneg _ (by omega)
 obtain⟨i0,il⟩:=xS (v/8) (show (0:Int)<(ws.length:Int) by omega)
 obtain⟨j0,jl⟩:=xS o (show (0:Int)<(ws.length:Int) by omega)
 generalize v/8%(ws.length:Int)=i at*
 generalize o%(ws.length:Int)=j at*
 generalize v%8=way
 obtain⟨u1,eu1,au1,lu1⟩:=Az A (by omega) none (some p)
 obtain⟨u2,eu2,au2,lu2⟩:=Az A (by omega) (some p) none
 obtain⟨u3,eu3,au3,lu3⟩:=Az A (by omega) (some (p+1)) none
 simp only[T.zQ,aS,qb,eu1,eu2,eu3,es,ak,T.da,T.eW,aP]
 have ad: ∀{x y:Str},x.length+y.length<=2000->T.iJ x y=some (x++y):=fun h=>T.zP (by omega)
 have fin: ∀{ws:List Str},Ws 76 20 ws-> ∃y,tF0 (b8 (T.join " " ws) fun r=>(⟨r⟩:R0 Str))=some y/\Asc y/\y.length<=1900:=fun {ws} h=>by
  obtain⟨y,ey,a,l⟩:=h.join (by decide)
  exact⟨y,by rw[ey];rfl,a,by omega⟩
 have W11:Ws 76 20 ws:=⟨Nat.le_trans W.len (by decide),W.w⟩
 obtain⟨x1,ex1,hx1⟩:=DA i0 il
 obtain⟨x2,ex2,hx2⟩:=DA j0 jl
 by_cases w0:way=0
 ·subst w0
  rw[decide_eq_true rfl,if_pos rfl,ad (by omega),ak,ad (by rw[oH];omega)]
  exact⟨_,rfl,(au1.app as).app au2,by rw[oH,oH];omega⟩
 rw[decide_eq_false w0,if_neg Bool.false_ne_true,Option.bind_some,bc]
 by_cases w1:way=1
 ·subst w1
  rw[decide_eq_true rfl,if_pos rfl,ad (by omega)]
  exact⟨_,rfl,au1.app au3,by rw[oH];omega⟩
 rw[decide_eq_false w1,if_neg Bool.false_ne_true,Option.bind_some,bc]
 by_cases w2:way=2
 ·subst w2
  rw[decide_eq_true rfl,if_pos rfl,ad (by omega),ak,ad (by rw[oH];omega)]
  exact⟨_,rfl,(au1.app as).app au3,by rw[oH,oH];omega⟩
 rw[decide_eq_false w2,if_neg Bool.false_ne_true,Option.bind_some,bc]
 by_cases w3:way=3
 ·subst w3
  rw[decide_eq_true rfl,if_pos rfl,ex1,Option.bind_some,ex2,T.CU i0 il,Option.bind_some,T.CU j0 (by rw[List.length_set];exact jl),Option.bind_some,Option.bind_some,bc]
  exact fin ((W11.set (W.w _ hx2)).set (W.w _ hx1))
 rw[decide_eq_false w3,if_neg Bool.false_ne_true,Option.bind_some,bc]
 by_cases w4:way=4
 ·subst w4
  have l3:(Sw.dJ ws none (some i)).length+(Sw.dJ ws (some (i+1)) none).length<=75:=by
   have a:=EN (ws:=ws) (p:=i+1) (by omega)
   have b:(Sw.dJ ws none (some i)).length<=(Sw.dJ ws none (some (i+1))).length:=by
    obtain⟨k,rfl⟩:=Int.eq_ofNat_of_zero_le i0
    have e1:HT.sIx ws.length ws.length (some (k:Int))=min k ws.length:=HT.sIx_nat _ _ _
    have e2:HT.sIx ws.length ws.length (some ((k:Int)+1))=min (k+1) ws.length:=HT.sIx_nat _ _ (k+1)
    show ((ws.drop 0).take (HT.sIx ws.length ws.length (some (k:Int)) -0)).length<=((ws.drop 0).take (HT.sIx ws.length ws.length (some ((k:Int)+1)) -0)).length
    rw[e1,e2,List.length_take,List.length_take];omega
   omega
  rw[decide_eq_true rfl,if_pos rfl,T.qd,T.qd,ak,T.sx (by omega),Option.bind_some,Option.bind_some,bc]
  exact fin ⟨by rw[List.length_append];omega,fun w hw=>by
   rcases List.mem_append.mp hw with m|m
   ·exact (W.cut _ _).w w m
   ·exact (W.cut _ _).w w m⟩
 rw[decide_eq_false w4,if_neg Bool.false_ne_true,Option.bind_some,bc]
 by_cases w5:way=5
 ·subst w5
  have l3:=EN (ws:=ws) i0
  rw[decide_eq_true rfl,if_pos rfl,T.qd,T.qd,ex2,T.l8,T.HL,ak,T.sx (by rw[List.length_singleton];omega),ak,T.sx (by rw[List.length_append,List.length_singleton];omega),Option.bind_some,Option.bind_some,bc]
  exact fin ⟨by rw[List.length_append,List.length_append,List.length_singleton];omega,fun w hw=>by
   rcases List.mem_append.mp hw with m|m
   ·rcases List.mem_append.mp m with m|m
    ·exact (W.cut _ _).w w m
    ·rw[List.mem_singleton.mp m];exact W.w _ hx2
   ·exact (W.cut _ _).w w m⟩
 rw[decide_eq_false w5,if_neg Bool.false_ne_true,Option.bind_some,bc]
 by_cases w6:way=6
 ·subst w6
  rw[decide_eq_true rfl,if_pos rfl,ew,T.CU i0 il,Option.bind_some,Option.bind_some,bc]
  exact fin (W11.set ⟨aw,lw⟩)
 rw[decide_eq_false w6,if_neg Bool.false_ne_true,Option.bind_some,bc]
 exact fin W11
theorem ok4 {x:Str} (h:Asc x):So.ok (⟨x,true,true,false⟩:T4 Str Bool Bool Bool)=true:=by
 show (PySem.PyData.strOk x&&true&&true&&true)=true
 rw[h.ok];rfl
theorem IL (ns:List Int) (_:ns.length<=63):Ew ⟨ns⟩=some true:=by
 obtain⟨a,ea,ha⟩:=Pj (ns.getD (0:Int).toNat 0)
 obtain⟨y,ey,ay,ly⟩:=NL ha (ns.getD (1:Int).toNat 0) (ns.getD (2:Int).toNat 0)
 unfold Ew
 rw[ak (f:=bN),vS _ _ (by decide),aS,ea,aS,(Pf ha).1,Option.bind_some,ak (f:=bN),vS _ _ (by decide),ak (f:=bN),vS _ _ (by decide),nH,ey,Option.bind_some,aS]
 by_cases h: ∃g,yr g/\y=jF g
 ·obtain⟨g,hg,rfl⟩:=h
  rw[DH hg ly,Option.bind_some,Option.bind_some,Option.bind_some,aS,DE hg ly]
  simp only[J8,tsB,Option.map_some,Option.bind_some,Sum.map_inr]
  rw[show b2 T.isN (some (some g)) (some ())=some false from rfl,aP,if_neg Bool.false_ne_true,Option.bind_some,bc]
  have t2:orB (b2 T.JY (some (none:Option (T4 Str Bool Bool Bool))) (some ())) (b2 T.Kl (some (some (oR g))) (some ()))=some false:=rfl
  show tF0 (c9 (orB (b2 T.JY (some (none:Option (T4 Str Bool Bool Bool))) (some ())) (b2 T.Kl (some (some (oR g))) (some ()))) _ _ _)=_
  rw[t2,aP,if_neg Bool.false_ne_true,Option.bind_some,bc,aS,T.vL (by decide) (by decide),dB]
  obtain⟨_,e,_⟩:=Bk (step:=sX ⟨ns⟩ (some g) (some (oR g))) (xs:=(List.range (6:Int).toNat).map fun i:Nat=>(i:Int)) (b0:=()) (fun _ _=>True) trivial fun pre x post b hp _=>by
   refine⟨(),.inl ?_,trivial⟩
   have hx:x∈(List.range (6:Int).toNat).map fun i:Nat=>(i:Int):=by rw[hp];simp
   obtain⟨i,hi,rfl⟩:=List.mem_map.mp hx
   have hi:i<6:=List.mem_range.mp hi
   obtain⟨s,es,hs⟩:=EA (ns.getD (3:Int).toNat 0) (2*(i:Int)) (by omega) (by omega)
   obtain⟨t,et,ht⟩:=EA (ns.getD (3:Int).toNat 0) (2*(i:Int)+1) (by omega) (by omega)
   unfold sX
   rw[ak (f:=bN),vS _ _ (by decide),ak (f:=T.ju),T.qP (a:=2) (by decide) (by decide),ak (f:=eR),es,Option.bind_some,ak (f:=T.bP),T.eW,ak (f:=eR),et,Option.bind_some,Option.bind_some,Option.bind_some]
   show c9 (b2 T.neA (b3 (TC 12) (some (oR g)) (some s) (some t)) (b3 iH (some g) (some s) (some t))) _ _ _=_
   rw[nH,Ph g 12 (by decide) s t,nH,Pk (fun ts hts t ht=>((hg.2 ts hts).2 t ht).1) hs ht,ak,T.wZ,decide_eq_true rfl];rfl
  rw[e];rfl
 ·have lr:=(B9 ay ly).resolve_right h
  have rx:=(B4 ly).resolve_left h
  rw[lr,Option.bind_some,Option.bind_some,Option.bind_some,aS,rx]
  have e1:Bh "NoRow" "row" (lU y)=some y:=by
   unfold Bh
   rw[if_pos (show (lU y).C=("NoRow" :Str) from rfl)];rfl
  have e2: ∀b,T.isX "NoRow" b (lU y)=some b:=fun b=>if_pos rfl
  simp only[J8,tsB,Option.map_some,Option.bind_some]
  rw[if_pos (show (lU y).C=("NoRow" :Str) from rfl),e1,e2,e2]
  show tF0 (c9 (b2 T.isN (some (none:Option Alt)) (some ())) (b8 (T.Kh (some (⟨y,true,true,false⟩:T4 Str Bool Bool Bool)) ⟨y,true,true,false⟩) fun r=>(⟨r⟩:R0 Bool)) _ _)=some true
  rw[show b2 T.isN (some (none:Option Alt)) (some ())=some true from rfl,aP,if_pos rfl]
  unfold T.Kh T.M5
  rw[if_pos (by show (So.ok (⟨y,true,true,false⟩:T4 Str Bool Bool Bool)&&So.ok (⟨y,true,true,false⟩:T4 Str Bool Bool Bool))=true;rw[ok4 ay];rfl),decide_eq_true rfl];rfl
end Sw.k05
namespace Sw.k05
open PySem PySem.Spec PyProof.Rows L2 Sw
theorem facts {P:Program} {w:World} {K:PySem.W.Frag} {h:Heap} {mg:Str->Option Value} {f:Addr} (X:K.In h) (G:h.Ns mainGlobals mg) (hfa:mg ("law" :Str)=some (.ref f)) (c0:qD faL fnL tfL exB w h K):
  ∃fd:FuncData,(∀(s:Shared) (v:Value),BindsTo s fd ⟨[v],[]⟩ [("_law_script",v)])/\ ∀base:Heap,K.In base->base.Ns mainGlobals mg->(∀p∈tfL.map (fun p=>He.cT K p.1),LamX.TabB base mg p.1 p.2)->FnOk P w K mg base CX0 14 f fd ["_law_script"] (@FSp ⟨qB K tfL⟩ K [.bo] (.rg .fz) Dk):=by
 letI:NmC:=⟨qB K tfL⟩
 have c:=c0.y.1
 obtain⟨fd_number_of,E_number_of⟩:=c.def_ 0 (d:=rE) rfl
 obtain⟨fd_by_groups,E_by_groups⟩:=c.def_ 1 (d:=rF) rfl
 obtain⟨fd_by_marks,E_by_marks⟩:=c.def_ 2 (d:=ui) rfl
 obtain⟨fd_gap,E_gap⟩:=c.def_ 3 (d:=F6) rfl
 obtain⟨fd_by_sizes,E_by_sizes⟩:=c.def_ 4 (d:=uj) rfl
 obtain⟨fd_opposite,E_opposite⟩:=c.def_ 5 (d:=uk) rfl
 obtain⟨fd_all_let,E_all_let⟩:=c.def_ 6 (d:=v7) rfl
 obtain⟨fd_one_lets,E_one_lets⟩:=c.def_ 7 (d:=um) rfl
 obtain⟨fd_term_of,E_term_of⟩:=c.def_ 8 (d:=v8) rfl
 obtain⟨fd_noted_term,E_noted_term⟩:=c.def_ 9 (d:=qv) rfl
 obtain⟨fd_rule_of,E_rule_of⟩:=c.def_ 10 (d:=v9) rfl
 obtain⟨fd__law_cell,E__law_cell⟩:=c.def_ 11 (d:=rG) rfl
 obtain⟨fd__law_mix,E__law_mix⟩:=c.def_ 12 (d:=uo) rfl
 obtain⟨fd__law_marks,E__law_marks⟩:=c.def_ 13 (d:=qw) rfl
 obtain⟨fd__law_side,E__law_side⟩:=c.def_ 14 (d:=rH) rfl
 obtain⟨fd__law_term,E__law_term⟩:=c.def_ 15 (d:=rJ) rfl
 obtain⟨fd__law_alternatives,E__law_alternatives⟩:=c.def_ 16 (d:=jO) rfl
 obtain⟨fd__law_term_text,E__law_term_text⟩:=c.def_ 17 (d:=lW) rfl
 obtain⟨fd__law_rule_text,E__law_rule_text⟩:=c.def_ 18 (d:=lX) rfl
 obtain⟨fd__law_plain,E__law_plain⟩:=c.def_ 19 (d:=qy) rfl
 obtain⟨fd__law_lets,E__law_lets⟩:=c.def_ 20 (d:=rK) rfl
 obtain⟨fd__law_sign,E__law_sign⟩:=c.def_ 21 (d:=rL) rfl
 obtain⟨fd__law_odd_word,E__law_odd_word⟩:=c.def_ 22 (d:=mG) rfl
 obtain⟨fd__law_spoilt,E__law_spoilt⟩:=c.def_ 23 (d:=ph) rfl
 obtain⟨fd__law_bound,E__law_bound⟩:=c.def_ 24 (d:=qz) rfl
 obtain⟨fd__law_read_term,E__law_read_term⟩:=c.def_ 25 (d:=lY) rfl
 obtain⟨fd__law_read,E__law_read⟩:=c.def_ 26 (d:=rM) rfl
 obtain⟨fd_law,E_law⟩:=c.def_ 27 (d:=F7) rfl
 obtain⟨fd_NoRow___init__,E_NoRow___init__⟩:=c.def_ 28 (d:=lZ) rfl
 have e:=hfa.symm.trans (He.glo_ok X G (c.fact 27 (f:=.glo "law") rfl))
 cases e
 have b:=FunD.bindsA (ps:=["_law_script"]) E_law fun _ _ _ _ _ _ us hl=>match us,hl with| [_],_=>rfl
 have Z:Zs K mg:=⟨He.free_ok X G (c.fact 28 (f:=.free "ValueError") rfl),He.free_ok X G (c.fact 29 (f:=.free "abs") rfl),He.free_ok X G (c.fact 30 (f:=.free "int") rfl),He.free_ok X G (c.fact 31 (f:=.free "isinstance") rfl),He.free_ok X G (c.fact 32 (f:=.free "len") rfl),He.free_ok X G (c.fact 33 (f:=.free "range") rfl),He.free_ok X G (c.fact 34 (f:=.free "str") rfl),He.str_ok X G (c.fact 35 (f:=.str "FIGURES" "0123456789") rfl),He.glo_ok X G (c.fact 38 (f:=.glo "NoCouple") rfl),He.glo_ok X G (c.fact 37 (f:=.glo "SwapError") rfl),He.glo_ok X G (c.fact 1 (f:=.glo "by_groups") rfl),He.glo_ok X G (c.fact 2 (f:=.glo "by_marks") rfl),Jk (c0.y.ex 1)⟩
 refine⟨fd_law,fun s v=>b s [v] rfl,fun base _ _ TB_=> ?_⟩
 have L_by_sizes:pz base mg fd_by_sizes.code (("by_sizes" :Str)++".<locals>." ++"lets"):=c0.lam TB_ (p:=(("by_sizes",none),(("by_sizes" :Str)++".<locals>." ++"lets"))) (List.mem_of_getElem? (i:=0) rfl) E_by_sizes
 have L_opposite:pz base mg fd_opposite.code (("opposite" :Str)++".<locals>." ++"lets"):=c0.lam TB_ (p:=(("opposite",none),(("opposite" :Str)++".<locals>." ++"lets"))) (List.mem_of_getElem? (i:=1) rfl) E_opposite
 have L_all_let:pz base mg fd_all_let.code (("all_let" :Str)++".<locals>." ++"lets"):=c0.lam TB_ (p:=(("all_let",none),(("all_let" :Str)++".<locals>." ++"lets"))) (List.mem_of_getElem? (i:=2) rfl) E_all_let
 have L_one_lets:pz base mg fd_one_lets.code (("one_lets" :Str)++".<locals>." ++"lets"):=c0.lam TB_ (p:=(("one_lets",none),(("one_lets" :Str)++".<locals>." ++"lets"))) (List.mem_of_getElem? (i:=3) rfl) E_one_lets
 have Xf_NoRow:=Mv (c0.y.ex 0)
 have Xg_NoRow:=He.glo_ok X G (c.fact 36 (f:=.glo "NoRow") rfl)
 have X_NoRow:Xcl P w K mg base "NoRow" "row" :=Xf_NoRow.cl (He.glo_ok X G (c.fact 36 (f:=.glo "NoRow") rfl)) (Mn (aX (qual:="NoRow.__init__") (st:=cZ) E_NoRow___init__) lV Xf_NoRow.ox Xf_NoRow.no fun cdv A outer s H E=>DY (AU rfl (He.glo_ok X G (c.fact 37 (f:=.glo "SwapError") rfl)) Xf_NoRow.rd Xf_NoRow.vv (pa_cons (pv 0) (pa_cons pe_str pa_nil))) (pv 0) (pv 1)) (E_NoRow___init__.bindsN fun _ _ _ _ _ _ us hl=>match us,hl with| [_,_],_=>rfl)
 have Xh_NoRow:Jt P w K mg base "NoRow" "row" :=⟨X_NoRow,_,fd_NoRow___init__,_,Xf_NoRow.ii,Xf_NoRow.it,Js (aX (qual:="NoRow.__init__") (st:=cZ) E_NoRow___init__) lV Xf_NoRow.ox Xf_NoRow.no (fun cdv A outer s H E p=>DY (AU rfl (He.glo_ok X G (c.fact 37 (f:=.glo "SwapError") rfl)) Xf_NoRow.rd Xf_NoRow.vv (pa_cons (pv 0) (pa_cons pe_str pa_nil))) (pv 0) (pv 1)),E_NoRow___init__.bindsN fun _ _ _ _ _ _ us hl=>match us,hl with| [_,_],_=>rfl⟩
 have C_number_of:wH P w K mg base 3 "number_of" jU jV jW eX:=⟨_,fd_number_of,Ab Z X_NoRow (aX E_number_of),He.glo_ok X G (c.fact 0 (f:=.glo "number_of") rfl),E_number_of.kp,E_number_of.bindsN fun _ _ _ _ _ _ us hl=>match us,hl with| [_],_=>rfl⟩
 have C_by_groups:Cal P w K mg base 1 "by_groups" pH pJ pK iT:=⟨_,fd_by_groups,sM Z (aX E_by_groups),He.glo_ok X G (c.fact 1 (f:=.glo "by_groups") rfl),E_by_groups.kp,E_by_groups.bindsN fun _ _ _ _ _ _ us hl=>match us,hl with| [_,_],_=>rfl⟩
 have C_by_marks:Cal P w K mg base 1 "by_marks" qY qZ q7 jY:=⟨_,fd_by_marks,uG Z (aX E_by_marks),He.glo_ok X G (c.fact 2 (f:=.glo "by_marks") rfl),E_by_marks.kp,E_by_marks.bindsN fun _ _ _ _ _ _ us hl=>match us,hl with| [_,_],_=>rfl⟩
 have C_gap:Cal P w K mg base 1 "gap" By Bz BA tP:=⟨_,fd_gap,Nt Z (aX E_gap),He.glo_ok X G (c.fact 3 (f:=.glo "gap") rfl),E_gap.kp,E_gap.bindsN fun _ _ _ _ _ _ us hl=>match us,hl with| [_,_],_=>rfl⟩
 have C_by_sizes:Cal P w K mg base 1 "by_sizes" nW nX nY iE:=⟨_,fd_by_sizes,BC Z (aX E_by_sizes) L_by_sizes,He.glo_ok X G (c.fact 4 (f:=.glo "by_sizes") rfl),E_by_sizes.kp,E_by_sizes.bindsN fun _ _ _ _ _ _ us hl=>match us,hl with| [_],_=>rfl⟩
 have C_opposite:Cal P w K mg base 1 "opposite" nZ oa oj iF:=⟨_,fd_opposite,BE Z (aX E_opposite) L_opposite,He.glo_ok X G (c.fact 5 (f:=.glo "opposite") rfl),E_opposite.kp,E_opposite.bindsN fun _ _ _ _ _ _ us hl=>match us,hl with| [_],_=>rfl⟩
 have C_all_let:Cal P w K mg base 1 "all_let" qe qf qg jB:=⟨_,fd_all_let,Df Z (aX E_all_let) L_all_let,He.glo_ok X G (c.fact 6 (f:=.glo "all_let") rfl),E_all_let.kp,E_all_let.bindsN fun _ _ _ _ _ _ us hl=>match us,hl with| [_],_=>rfl⟩
 have C_one_lets:Cal P w K mg base 1 "one_lets" om oq ou iG:=⟨_,fd_one_lets,BG Z (aX E_one_lets) L_one_lets,He.glo_ok X G (c.fact 7 (f:=.glo "one_lets") rfl),E_one_lets.kp,E_one_lets.bindsN fun _ _ _ _ _ _ us hl=>match us,hl with| [_],_=>rfl⟩
 have C_term_of:wH P w K mg base 4 "term_of" mZ m5 m6 ie:=⟨_,fd_term_of,Dg Z C_number_of C_by_sizes X_NoRow (aX E_term_of),He.glo_ok X G (c.fact 8 (f:=.glo "term_of") rfl),E_term_of.kp,E_term_of.bindsN fun _ _ _ _ _ _ us hl=>match us,hl with| [_],_=>rfl⟩
 have C_noted_term:wH P w K mg base 5 "noted_term" iW iX iY fF:=⟨_,fd_noted_term,yd Z C_opposite C_term_of (aX E_noted_term),He.glo_ok X G (c.fact 9 (f:=.glo "noted_term") rfl),E_noted_term.kp,E_noted_term.bindsN fun _ _ _ _ _ _ us hl=>match us,hl with| [_],_=>rfl⟩
 have C_rule_of:Jf P w K mg base 6 "rule_of" m8 m9 nh jC:=⟨_,fd_rule_of,Dh Z C_noted_term C_all_let C_one_lets X_NoRow Xf_NoRow Xg_NoRow Xh_NoRow (aX E_rule_of),He.glo_ok X G (c.fact 10 (f:=.glo "rule_of") rfl),E_rule_of.kp,E_rule_of.bindsN fun _ _ _ _ _ _ us hl=>match us,hl with| [_],_=>rfl⟩
 have C__law_cell:Cal P w K mg base 1 "_law_cell" j5 j6 j7 cj:=⟨_,fd__law_cell,Af Z (aX E__law_cell),He.glo_ok X G (c.fact 11 (f:=.glo "_law_cell") rfl),E__law_cell.kp,E__law_cell.bindsN fun _ _ _ _ _ _ us hl=>match us,hl with| [_,_],_=>rfl⟩
 have C__law_mix:Cal P w K mg base 1 "_law_mix" ig iq iu cq:=⟨_,fd__law_mix,BI Z (aX E__law_mix),He.glo_ok X G (c.fact 12 (f:=.glo "_law_mix") rfl),E__law_mix.kp,E__law_mix.bindsN fun _ _ _ _ _ _ us hl=>match us,hl with| [_,_],_=>rfl⟩
 have C__law_marks:Cal P w K mg base 1 "_law_marks" i5 i7 i8 fG:=⟨_,fd__law_marks,ye Z (aX E__law_marks),He.glo_ok X G (c.fact 13 (f:=.glo "_law_marks") rfl),E__law_marks.kp,E__law_marks.bindsN fun _ _ _ _ _ _ us hl=>match us,hl with| [_],_=>rfl⟩
 have C__law_side:Cal P w K mg base 2 "_law_side" j9 ka ke eY:=⟨_,fd__law_side,Ah Z C__law_mix C__law_marks (aX E__law_side),He.glo_ok X G (c.fact 14 (f:=.glo "_law_side") rfl),E__law_side.kp,E__law_side.bindsN fun _ _ _ _ _ _ us hl=>match us,hl with| [_,_],_=>rfl⟩
 have C__law_term:Cal P w K mg base 1 "_law_term" kh ki kj gi:=⟨_,fd__law_term,Ai Z (aX E__law_term),He.glo_ok X G (c.fact 15 (f:=.glo "_law_term") rfl),E__law_term.kp,E__law_term.bindsN fun _ _ _ _ _ _ us hl=>match us,hl with| [_],_=>rfl⟩
 have C__law_alternatives:Cal P w K mg base 2 "_law_alternatives" cM cN cO bM:=⟨_,fd__law_alternatives,pP Z C__law_mix C__law_term (aX E__law_alternatives),He.glo_ok X G (c.fact 16 (f:=.glo "_law_alternatives") rfl),E__law_alternatives.kp,E__law_alternatives.bindsN fun _ _ _ _ _ _ us hl=>match us,hl with| [_],_=>rfl⟩
 have C__law_term_text:Cal P w K mg base 1 "_law_term_text" dO dP dQ cw:=⟨_,fd__law_term_text,sQ Z (aX E__law_term_text),He.glo_ok X G (c.fact 17 (f:=.glo "_law_term_text") rfl),E__law_term_text.kp,E__law_term_text.bindsN fun _ _ _ _ _ _ us hl=>match us,hl with| [_],_=>rfl⟩
 have C__law_rule_text:Cal P w K mg base 2 "_law_rule_text" dS dU dW cA:=⟨_,fd__law_rule_text,sR Z C__law_term_text (aX E__law_rule_text),He.glo_ok X G (c.fact 18 (f:=.glo "_law_rule_text") rfl),E__law_rule_text.kp,E__law_rule_text.bindsN fun _ _ _ _ _ _ us hl=>match us,hl with| [_],_=>rfl⟩
 have C__law_plain:Cal P w K mg base 1 "_law_plain" ja jb jc fH:=⟨_,fd__law_plain,yf Z (aX E__law_plain),He.glo_ok X G (c.fact 19 (f:=.glo "_law_plain") rfl),E__law_plain.kp,E__law_plain.bindsN fun _ _ _ _ _ _ us hl=>match us,hl with| [_,_,_,_],_=>rfl⟩
 have C__law_lets:Cal P w K mg base 2 "_law_lets" kq kr ku gq:=⟨_,fd__law_lets,Ak Z C__law_plain (aX E__law_lets),He.glo_ok X G (c.fact 20 (f:=.glo "_law_lets") rfl),E__law_lets.kp,E__law_lets.bindsN fun _ _ _ _ _ _ us hl=>match us,hl with| [_,_,_],_=>rfl⟩
 have C__law_sign:Cal P w K mg base 1 "_law_sign" kz kA kB fb:=⟨_,fd__law_sign,Am Z (aX E__law_sign),He.glo_ok X G (c.fact 21 (f:=.glo "_law_sign") rfl),E__law_sign.kp,E__law_sign.bindsN fun _ _ _ _ _ _ us hl=>match us,hl with| [_],_=>rfl⟩
 have C__law_odd_word:Cal P w K mg base 1 "_law_odd_word" fx fy fA c6:=⟨_,fd__law_odd_word,tZ Z (aX E__law_odd_word),He.glo_ok X G (c.fact 22 (f:=.glo "_law_odd_word") rfl),E__law_odd_word.kp,E__law_odd_word.bindsN fun _ _ _ _ _ _ us hl=>match us,hl with| [_],_=>rfl⟩
 have C__law_spoilt:Cal P w K mg base 2 "_law_spoilt" gR gT gU dX:=⟨_,fd__law_spoilt,xM Z C__law_sign C__law_odd_word (aX E__law_spoilt),He.glo_ok X G (c.fact 23 (f:=.glo "_law_spoilt") rfl),E__law_spoilt.kp,E__law_spoilt.bindsN fun _ _ _ _ _ _ us hl=>match us,hl with| [_,_,_],_=>rfl⟩
 have C__law_bound:Cal P w K mg base 1 "_law_bound" je jf jg dC:=⟨_,fd__law_bound,yh Z (aX E__law_bound),He.glo_ok X G (c.fact 24 (f:=.glo "_law_bound") rfl),E__law_bound.kp,E__law_bound.bindsN fun _ _ _ _ _ _ us hl=>match us,hl with| [_],_=>rfl⟩
 have C__law_read_term:Cal P w K mg base 2 "_law_read_term" dZ eh eA cB:=⟨_,fd__law_read_term,sT Z C__law_bound (aX E__law_read_term),He.glo_ok X G (c.fact 25 (f:=.glo "_law_read_term") rfl),E__law_read_term.kp,E__law_read_term.bindsN fun _ _ _ _ _ _ us hl=>match us,hl with| [_],_=>rfl⟩
 have C__law_read:Cal P w K mg base 3 "_law_read" kF kH kI gu:=⟨_,fd__law_read,Ao Z C__law_read_term (aX E__law_read),He.glo_ok X G (c.fact 26 (f:=.glo "_law_read") rfl),E__law_read.kp,E__law_read.bindsN fun _ _ _ _ _ _ us hl=>match us,hl with| [_],_=>rfl⟩
 have W_val: ∀n,sj P w K mg base (1+n) (FC n):=fun n=>by
  induction n with
  |zero=>exact Fb
  |succ n ih=>exact JC (List.forall_mem_cons.mpr ⟨(show JA P w K mg base (1+(n+1)) "by_groups" iT from Ef (aX (qual:="by_groups") (st:=de) E_by_groups) (sM Z (aX E_by_groups)) (E_by_groups.bindsN fun _ _ _ _ _ _ us hl=>match us,hl with| [_,_],_=>rfl) (Nat.le_trans (by decide:1<=1+1) (by omega))),(List.forall_mem_cons.mpr ⟨(show JA P w K mg base (1+(n+1)) "by_marks" jY from Ef (aX (qual:="by_marks") (st:=eU) E_by_marks) (uG Z (aX E_by_marks)) (E_by_marks.bindsN fun _ _ _ _ _ _ us hl=>match us,hl with| [_,_],_=>rfl) (Nat.le_trans (by decide:1<=1+1) (by omega))),(fun _ hp=>nomatch hp)⟩)⟩) (List.forall_mem_cons.mpr ⟨tS (Nat.le_add_right _ _) ih Z C_gap,(List.forall_mem_cons.mpr ⟨tU (Nat.le_add_right _ _) ih Z,(List.forall_mem_cons.mpr ⟨va (Nat.le_add_right _ _) ih Z,(List.forall_mem_cons.mpr ⟨tV (Nat.le_add_right _ _) ih Z,(fun _ hp=>nomatch hp)⟩)⟩)⟩)⟩)
 have C_val:=W_val 12
 exact Nu Z C__law_cell C__law_alternatives C__law_rule_text C__law_spoilt C__law_read C_rule_of C__law_side C_val C__law_lets Xf_NoRow Xg_NoRow (aX E_law)
end Sw.k05
open PySem PySem.W PySem.Calls PyProof.Rows
theorem PySem.Challenge.cw_swapward_k05_rules_refused_holds : PySem.Challenge.rw_swapward_k05_rules_refused.Holds := by
 w_on;o_law
 refine HandSHeadRun.head_any (r:=PySem.W.OpenLaw.row PySem.Challenge.rw_swapward_k05_rules_refused) (q:=PySem.W.view (PySem.W.OpenLaw.row PySem.Challenge.rw_swapward_k05_rules_refused).prog [35]) (H:=Sw.k05.hk) (ob:=Sw.k05.ob) (M:=6000) (loose:=Sw.k05.loose) (d:=HandSHeadRun.topDef (PySem.W.OpenLaw.row PySem.Challenge.rw_swapward_k05_rules_refused).prog 35) (kwd:=[]) Sw.k05.N6
  (by kernel_rfl) (fun s=>by kernel_rfl) Sw.k05.run (by kernel_rfl) (by kernel_rfl) (by kernel_rfl) (by rfl) (by first|assumption|decide+kernel) (by decide+kernel) ⟨rfl,rfl,rfl,rfl,rfl,by decide+kernel⟩ ?hw ?hc
 case hw=>w_witness2
 case hc=>
  refine LamX.walk_ofTsE (l:=PySem.Challenge.rw_swapward_k05_rules_refused) (n:=63) (k:=14) (x:="_law_script") (CX:=fun _=>L2.CX0) rfl (by decide) (by kernel_rfl) ⟨rfl,by decide,by decide⟩ ?F (fun _ _ _ _ _ z=>z)
  intro w mg fa h Y G hmg0
  obtain⟨K,KX,c⟩:=Y
  have hmg:mg ("law" :PySem.Str)=some (.ref fa):=by
   have e:(HandSHeadRun.topDef (PySem.W.OpenLaw.row PySem.Challenge.rw_swapward_k05_rules_refused).prog 35).name=("law" :PySem.Str):=by kernel_rfl
   rw[<-e]
   exact hmg0
  obtain⟨fd,hb,hF⟩:=Sw.k05.facts (P:=(PySem.Challenge.rw_swapward_k05_rules_refused).prog) (w:=w) KX G hmg c
  exact⟨K,KX,Sw.qD.law KX c hb hF (fun ns hl=>Sw.k05.Pa ⟨ns⟩ true (Sw.k05.IL ns hl))⟩
