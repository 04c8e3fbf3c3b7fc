import PyProof.Rows.All
import Wide.All
import OpenK.AllK
import Wide.FinOn
import HandS.ForMost
import HandS.ForExc
import HandS.Defaults
import HandS.HeadHook1
import HandS.HeadHook2
import HandS.Lambda
import HandS.ExcCtx
import HandS.SuiteRaise
import HandS.Wide
import HandS.Style
import HandS.TupMul
import HandS.TupAny
import HandS.Deep
import HandS.IsInst
import HandS.Zip
import HandS.TupLe
import HandS.StrMore
import PyProof.P3In
import HandS.Walk
import HandS.CallSlots
import HandS.Comp
import HandS.Iter
import HandS.Small
import KE.KRevSl
import PyProof.SliceStr2
import HandS.SortInts
import HandS.SortRule
import HandS.Text
import KE.DataMinMax
import KE.DatumOrd
import HandS.FStr
import PyProof.Rows.FStr
import KE.GoesEnum
import KE.GoesZip
import KE.GoesMore
import HandS.RaiseMore
import HandS.Conv
import HandS.MakeKw
import HandS.MakeKwOnly
import HandS.Property
import HandS.WordsExc
import HandS.DictComp
import HandS.SlotsOwn
import HandS.ClsMeth
import HandS.Star
import KE.KStateDown
import HandS.Head0
import HandS.Head1
import HandS.Head2
import HandS.HeadEnd
import HandS.HeadNt
import PyProof.InstNe
import OpenK.KMake
import HandS.SetBool
import HandS.TupSets
import PyProof.Rows.SumAny
import HandS.ExcInit
import HandS.ExcSuper
import HandS.Nested
import HandS.HeadWalk
import KE.KExcSuper
import HandS.ExcValue
import HandS.ExcInitHot
import KE.KExcInit
import KE.KTryMore
import HandS.ExcField
import HandS.HotCalls
import KE.KExcIs
import KE.KIsAll
import KE.KOpsOwn
import KE.KNestM
import KE.KDflt
import HandS.HeadHook3
import PyProof.TupleOfStr
import HandS.SetKeys
import PyProof.Rows.SetFrom
import HandS.Strs
import PyProof.Rows.TupDisplay
import HandS.GenList
import KE.KUnpackStar
import KE.KDictZip
import PyProof.ListNew
import PyProof.ReprRoads
import PySem.Challenge.RW_sameways_k11_nets_and_their_edges
set_option Elab.async false
set_option linter.all false
set_option maxRecDepth 100000
set_option maxHeartbeats 0
local macro_rules | `(tactic| bv_omega) => `(tactic| with_unfolding_all rfl)
local macro_rules | `(s!$x:interpolatedStr) => match x.raw[0].isInterpolatedStrLit? with | some v => (v.toList.toArray.mapM fun (c : Char) => `(Char.ofNat $(Lean.quote c.toNat))) >>= fun cs => `([$cs,*]) | none => Lean.Macro.throwUnsupported
namespace DI
open PySem PySem.Spec PyProof.Rows L2
section
/-- a text by its signs -/
def au(l:List Char):Str:=⟨(l.map Char.toNat).toArray⟩
/-- the table of code objects of the def of the name q -/
def ta(K:PySem.W.Frag)(q:String):Addr:=match K.lookup (He.ga K q) with
 | some ⟨_,_,.func fd,_⟩=>(match fd.code with
  | .ref c=>(match K.lookup c with
   | some ⟨_,_,.fields vs,_⟩=>(match (vs[(11:Nat)]? :Option Value) with
    | some (.ref P)=>P
    | _=>0)
   | _=>0)
  | _=>0)
 | _=>0
end
section
inductive TyN where
 | b (n:String)|o (c:String)
def TyN.v(K:PySem.W.Frag):TyN->Value
 | .b n=>.type n
 | .o c=>.ref (He.ga K c)
def wm(K:PySem.W.Frag)(c:String):Bool:=(He.Fa.cls c).ok K && (He.eqO (PySem.W.findIn K (.ref (He.ga K c)) "__class__") (some (some (.builtin "object.__class__"))) &&
 (He.eqO (PySem.W.specialIn K (.builtin "object.__class__") "__get__") (some (some (.builtin "getset_descriptor.__get__"))) && (decide (PySem.W.takesIn K (.builtin "object.__class__")=some true) && decide (PySem.W.mroIn K (He.ga K c) (.type "object")=some true))))
def bTys:List String:=["NoneType","bool","int","str","tuple","list","dict"]
def cTys:List String:=["bool","int","str","tuple","list","dict"]
/-- the check: cs the own classes (no exceptions) that isinstance sees -/
def mQ(K:PySem.W.Frag)(cs:List String):Bool:=cs.all λc=>wm K c && (bTys.all λt=>decide (PySem.W.kitOne K (.type t) (.ref (He.ga K c))=some false)) && (cTys.all λt=>decide (PySem.W.kitOne K (.ref (He.ga K c)) (.type t)=some false)) && (cs.all λd=>decide (PySem.W.kitOne K (.ref (He.ga K c)) (.ref (He.ga K d))=some (c == d)))
end
section
def nfB(K:PySem.W.Frag)(c:String)(cs:List String):Bool:=(bTys.all λt=>PySem.W.notFirst K (He.ga K c) (.type t)) && (cs.all λd=>PySem.W.notFirst K (He.ga K c) (.ref (He.ga K d)))
end
section
def cnB(K:PySem.W.Frag)(c f:String)(i:Int):Bool:=PySem.W.readsIn K (He.ga K c) (.type "type") && (He.eqO (PySem.W.specialIn K (.ref (He.ga K c)) "__getattribute__") (some (some (.builtin "type.__getattribute__"))) &&
 (match PySem.W.findCls K (.ref (He.ga K c)) (.type "type") f with
  | some (.val (.int j _))=>decide (j=i)
  | _=>false))
end
section
def neB(K:PySem.W.Frag)(c:String):Bool:=He.eqO (PySem.W.findIn K (.ref (He.ga K c)) "__ne__") (some (some (.builtin "object.__ne__"))) && decide (PySem.W.subIn K (.ref (He.ga K c)) (.type "object")=some true)
end
section
inductive SrcX where
 | par (i:Nat)|cst (s:Str)
end
section
inductive SrcY where
 | par (i:Nat)|cst (s:String)
def SrcY.x:SrcY->SrcX
 | .par i=>.par (i+1)
 | .cst s=>.cst (Str.ofString s)
abbrev AsD:=List (String×SrcY)
def asX(a:AsD):List (Str×SrcX):=a.map λp=>(Str.ofString p.1,p.2.x)
end
section
abbrev bO:List Value:=[.type "LookupError",.type "Exception",.type "BaseException",.type "object"]
end
section
abbrev da:List Value:=[.type "IndexError",.type "LookupError",.type "Exception",.type "BaseException",.type "object"]
end
section
open PySem.HandSPX (excO refsVE veTail)
open PySem.W PySem.Calls PyProof.Rows
def v6(ps:List Str)(e:Expr):SrcX->Bool
 | .par i=>match e with
  | .Name x _=>decide (ps[i]? =some x)
  | _=>false
 | .cst s=>match e with
  | .Constant (.str y) _ _=>y == s
  | _=>false
def ti(ps:List Str):List Stmt->List (Str×SrcX)->Bool
 | [],[]=>true
 | .Assign [.Attribute (.Name se _) f _] e _::r,(g,src)::as=>se == ("self":Str) && (f == g && (v6 ps e src && ti ps r as))
 | _,_=>false
/-- the first statement's shape -/
def mT:Stmt->Bool
 | .Expr (.Call (.Attribute (.Call (.Name x _) [] [] _) i p2) [.Constant (.str _) _ _] [] p4) _=>x == ("super":Str) && (i == ("__init__":Str) && (p2.endLine == p4.line))
 | _=>false
/-- the parameters: named ps,nothing else -/
def vP(p:Arguments)(ps:List Str):Bool:=match p with
 | ⟨[],args,none,[],[],none,[]⟩=>args.map (·.arg) == ps
 | _=>false
def vS(s:Scope)(ps:List Str):Bool:=decide (s.kind=.function) && (!s.isCoroutine && (!s.isGenerator && ((s.names.all λy=> !decide (y.2=.cell)) && ((ps.all λx=>decide (s.names.lookup x=some .local) && !(x == ("__debug__":Str))) && (decide ps.Nodup && (decide (ps[(0:Nat)]? =some ("self":Str)) &&
 (decide (s.names.lookup ("super":Str)=some .globalImplicit) && decide (s.names.lookup ("__class__":Str)=some .free))))))))
def fdB (K:Frag)(C:Addr)(fd:FuncData)(ps:List Str)(as:List (Str×SrcX)):Bool :=
 (match fd.defaults with
  | .none=>true
  | _=>false) && (decide (fd.globals=mainGlobals) && (decide (fd.builtins=builtinsNs) && ((match fd.closure with
  | [(n,cc)]=>n == ("__class__":Str) && (match K.lookup cc with
   | some ⟨_,_,.cell (some (.ref D)),_⟩=>decide (D=C)
   | _=>false)
  | _=>false) && ((match fd.code with
  | .ref cda=>codeIn K (.ref cda) fd.qualname && (match K.lookup cda with
   | some ⟨_,_,.fields cv,_⟩=>(match (cv[(2:Nat)]? :Option Value) with
    | some (Value.str f _)=>f == ("/claim/cut.py":Str)
    | _=>false)
   | _=>false)
  | _=>false) && ((match fd.body with
  | .stmts (s::r)=>mT s && ti ps r as
  | _=>false) && (vS fd.scope ps && vP fd.params ps))))))
def vL(K:Frag)(C:Addr):Bool:=(match K.lookup C with
 | some ⟨.type "type",_,.cls cd,sl⟩=>(match cd.mro,sl.toList with
  | .ref C'::bm,[_,_,_,_,some (.builtin n),_]=>decide (C'=C) && (n == "ValueError.__new__" && (cd.hasDict && (!cd.hasDel && refsVE bm)))
  | _,_=>false)
 | _=>false) && (He.eqO (findIn K (.ref C) "__setattr__") (some (some (.builtin "object.__setattr__"))) && (decide (subIn K (.ref C) (.type "BaseException")=some true) && (decide (typeIn K (.ref C)=some (.type "type")) && keepIn K (.ref C))))
def rX(K:Frag)(C fI:Addr)(ps:List Str)(as:List (Str×SrcX)):Bool :=
 vL K C && (He.eqO (findIn K (.ref C) "__init__") (some (some (.ref fI))) && (decide (typeIn K (.ref fI)=some (.type "function")) && (decide (nsIn K cStatics "thirdparty.any"=some none) && (He.eqO (ks_superIn K C C "__init__") (some (some (.builtin "ValueError.__init__"))) &&
 (decide (subIn K (.ref C) (.type "ValueError")=some true) && (decide (mroIn K C (.ref C)=some true) && (excInitIn K C [.type "ValueError",.type "Exception",.type "BaseException",.type "object"] "ValueError.__new__" && ((as.all λp=>He.eqO (findIn K (.ref C) p.1) (some none)) && (decide (as.length<=800) && (!as.isEmpty && (match K.lookup fI with
  | some ⟨_,_,.func fd,_⟩=>fdB K C fd ps as
  | _=>false)))))))))))
def rO(K:Frag)(C:Addr):Bool:=(match K.lookup C with
 | some ⟨.type "type",_,.cls cd,sl⟩=>(match cd.mro,sl.toList with
  | .ref C'::bm,[_,_,_,_,some (.builtin n),_]=>decide (C'=C) && (n == "IndexError.__new__" && (cd.hasDict && (!cd.hasDel && decide (bm=da))))
  | _,_=>false)
 | _=>false) && (He.eqO (findIn K (.ref C) "__setattr__") (some (some (.builtin "object.__setattr__"))) && (decide (subIn K (.ref C) (.type "BaseException")=some true) && (decide (typeIn K (.ref C)=some (.type "type")) && keepIn K (.ref C))))
def qY(K:Frag)(C fI:Addr)(ps:List Str)(as:List (Str×SrcX)):Bool :=
 rO K C && (He.eqO (findIn K (.ref C) "__init__") (some (some (.ref fI))) && (decide (typeIn K (.ref fI)=some (.type "function")) && (decide (nsIn K cStatics "thirdparty.any"=some none) && (He.eqO (ks_superIn K C C "__init__") (some (some (.builtin "IndexError.__init__"))) &&
 (decide (subIn K (.ref C) (.type "IndexError")=some true) && (decide (mroIn K C (.ref C)=some true) && (excInitIn K C da "IndexError.__new__" && ((as.all λp=>He.eqO (findIn K (.ref C) p.1) (some none)) && (decide (as.length=1) && (!as.isEmpty && (match K.lookup fI with
  | some ⟨_,_,.func fd,_⟩=>fdB K C fd ps as
  | _=>false)))))))))))
def sW(K:Frag)(C:Addr):Bool:=(match K.lookup C with
 | some ⟨.type "type",_,.cls cd,sl⟩=>(match cd.mro,sl.toList with
  | .ref C'::bm,[_,_,_,_,some (.builtin n),_]=>decide (C'=C) && (n == "LookupError.__new__" && (cd.hasDict && (!cd.hasDel && decide (bm=bO))))
  | _,_=>false)
 | _=>false) && (He.eqO (findIn K (.ref C) "__setattr__") (some (some (.builtin "object.__setattr__"))) && (decide (subIn K (.ref C) (.type "BaseException")=some true) && (decide (typeIn K (.ref C)=some (.type "type")) && keepIn K (.ref C))))
def sK(K:Frag)(C fI:Addr)(ps:List Str)(as:List (Str×SrcX)):Bool :=
 sW K C && (He.eqO (findIn K (.ref C) "__init__") (some (some (.ref fI))) && (decide (typeIn K (.ref fI)=some (.type "function")) && (decide (nsIn K cStatics "thirdparty.any"=some none) && (He.eqO (ks_superIn K C C "__init__") (some (some (.builtin "LookupError.__init__"))) &&
 (decide (subIn K (.ref C) (.type "LookupError")=some true) && (decide (mroIn K C (.ref C)=some true) && (excInitIn K C bO "LookupError.__new__" && ((as.all λp=>He.eqO (findIn K (.ref C) p.1) (some none)) && (decide (as.length<=800) && (!as.isEmpty && (match K.lookup fI with
  | some ⟨_,_,.func fd,_⟩=>fdB K C fd ps as
  | _=>false)))))))))))
def wn(K:Frag)(C fI:Addr)(ps:List Str)(as:List (Str×SrcX)):Bool:=rX K C fI ps as || (qY K C fI ps as || sK K C fI ps as)
end
section
def xcB(K:PySem.W.Frag)(c1 c2 c3:String)(cs fs:List String):Bool:=cs.all λc=>xfB K (He.ga K c) && ((fs.all λf=>He.eqO (PySem.W.findIn K (.ref (He.ga K c)) (Str.ofString f)) (some none)) && decide (PySem.W.exmAny K (.ref (He.ga K c)) [.ref (He.ga K c1),.ref (He.ga K c2),.ref (He.ga K c3)]=some true))
end
section
def va(K:PySem.W.Frag)(c:String):Bool:=(PySem.W.clsIn K (He.ga K c)).isSome && (He.eqO (PySem.W.findIn K (.ref (He.ga K c)) "__class__") (some (some (.builtin "object.__class__"))) && (He.eqO (PySem.W.specialIn K (.builtin "object.__class__") "__get__") (some (some (.builtin "getset_descriptor.__get__"))) &&
 (decide (PySem.W.takesIn K (.builtin "object.__class__")=some true) && decide (PySem.W.mroIn K (He.ga K c) (.type "object")=some true))))
end
section
def pa(K:PySem.W.Frag)(C:Addr)(f:Str):Addr:=match PySem.W.findIn K (.ref C) f with
 | some (some (.ref a))=>a
 | _=>0
def pg(K:PySem.W.Frag)(C:Addr)(f:Str):Addr:=match PySem.W.recIn K (pa K C f) "property" with
 | some (.ref g::_)=>g
 | _=>0
/-- the code object of the def of the name q -/
def ca(K:PySem.W.Frag)(q:String):Addr:=match K.lookup (He.ga K q) with
 | some ⟨_,_,.func fd,_⟩=>(match fd.code with
  | .ref c=>c
  | _=>0)
 | _=>0
inductive Xf where
 | dun (c:String) (n:Str)|prop (c:String) (f:Str)|cint (c f:String) (i:Int)|nf (c:String) (cs:List String)|isi (cs:List String)|ne (c:String)|cmet (c:String) (m:Str)
 | exc (c:String) (ps:List Str) (a:AsD)|xcl (c1 c2 c3:String) (cs fs:List String)|xth (c d:String) (fs:List String)|isx (c:String) (t:TyN) (b:Bool)|lam (l:String)|sf (c:String)|xany (c:String) (cs:List String)
 | isv (t:TyN) (tab:List (String×Bool))|xvf (f:String) (cs:List String)
def Xf.ok(K:PySem.W.Frag):Xf->Bool
 | .dun c n=>He.eqO (PySem.W.findIn K (.ref (He.ga K c)) n) (some (some (.ref (He.ma K (He.ga K c) n)))) && PySem.W.isFn K (.ref (He.ma K (He.ga K c) n))
 | .prop c f=>He.eqO (PySem.W.findIn K (.ref (He.ga K c)) f) (some (some (.ref (pa K (He.ga K c) f)))) && (He.eqO (PySem.W.specialIn K (.ref (pa K (He.ga K c) f)) "__get__") (some (some (.builtin "property.__get__"))) &&
  (decide (PySem.W.takesIn K (.ref (pa K (He.ga K c) f))=some true) && (match PySem.W.recIn K (pa K (He.ga K c) f) "property" with
   | some (.ref g::_)=>decide (g=pg K (He.ga K c) f)
   | _=>false)))
 | .cint c f i=>cnB K c f i
 | .nf c cs=>nfB K c cs
 | .isi cs=>mQ K cs
 | .ne c=>neB K c
 | .cmet c m=>PySem.W.readsIn K (He.ga K c) (.type "type") && (He.eqO (PySem.W.specialIn K (.ref (He.ga K c)) "__getattribute__") (some (some (.builtin "type.__getattribute__"))) && (He5.wrapB K (He.ga K c) "classmethod" "classmethod.__get__" m && PySem.W.fnIn K (He5.wf K (He.ga K c) "classmethod" m)))
 | .exc c ps a=>wn K (He.ga K c) (He.ma K (He.ga K c) "__init__") ps (asX a) && PySem.W.keepIn K (.ref (He.ga K c))
 | .xcl c1 c2 c3 cs fs=>xcB K c1 c2 c3 cs fs
 | .xth c d fs=>xfB K (He.ga K c) && ((fs.all λf=>He.eqO (PySem.W.findIn K (.ref (He.ga K c)) (Str.ofString f)) (some none)) && decide (PySem.W.exmOne K (.ref (He.ga K c)) (.ref (He.ga K d))=some true))
 | .isx c t b=>va K c && decide (PySem.W.kitOne K (.ref (He.ga K c)) (t.v K)=some b)
 | .lam l=>PySem.W.codeHdIn K (ca K l) (ta K l) && (K.lookup (ta K l)).isNone
 | .sf c=>PySem.W.selfFirst K (He.ga K c)
 | .xany c cs=>decide (PySem.W.exmAny K (.ref (He.ga K c)) (cs.map λd:String=>.ref (He.ga K d))=some true)
 | .isv t tab=>tab.all λq=>xfB K (He.ga K q.1) && (va K q.1 && decide (PySem.W.kitOne K (.ref (He.ga K q.1)) (t.v K)=some q.2))
 | .xvf f cs=>cs.all λc=>xfB K (He.ga K c) && He.eqO (PySem.W.findIn K (.ref (He.ga K c)) (Str.ofString f)) (some none)
end
section
def wv(chk:PySem.W.Frag->Bool)(fn:List He5.DefA)(K:PySem.W.Frag):He.AlD:=(chk K && fn.all λd=>d.ok K,fn.map λd=>He5.fnA K (d.at_ K))
def wh(fn:List He5.DefA):He.AlD:=(true,fn.map He5.DefA.val)
def SaysC(chk:PySem.W.Frag->Bool)(fn:List He5.DefA)(K:PySem.W.Frag):Prop:=wv chk fn K=wh fn
/-- what the names reach,without the tables of code objects (these grow) -/
def asT(g:Addr->Option Obj)(n:Nat):List Addr:=(He5.asA g n).filter λa=>match g a with
 | some o=>(match o.cls with
  | .none=>a == cStatics
  | _=>true)
 | none=>true
def sV(n:Nat)(chk:PySem.W.Frag->Bool)(fn:List He5.DefA)(g:Addr->Option Obj):He.AlD:=wv chk fn (He.frG g (asT g n))
def uF(n:Nat)(chk:PySem.W.Frag->Bool)(fn:List He5.DefA):PySem.W.Hook where
 α:=He.AlD
 obs:=λs=>sV n chk fn s.heap.get?
 val:=λ_=>wh fn
 says:=λ_ h=>∃K:PySem.W.Frag,K.In h/\SaysC chk fn K
 of:=λ_ _ e=>⟨_,He.frG_in,e⟩
 keeps:=λ_ _ _ ⟨K,hK,c⟩ k=>⟨K,PySem.W.Frag.In.keeps hK k,c⟩
theorem o7{n:Nat}{chk:PySem.W.Frag->Bool}{fn:List He5.DefA}{g:Addr->Option Obj}{s:Shared}(h:∀a,g a=s.heap.get? a):sV n chk fn g=(uF n chk fn).obs s:=by
 obtain rfl:g=s.heap.get? :=funext h
 exact rfl
end
section
end
section
end
section
open PySem.W PySem.Calls HandSHeadRun
end
end DI
namespace Lh
open PySem PySem.Spec PyProof.Rows L2 DI
def top(i:Nat):Stmt:=PySem.Challenge.pw_sameways_k11_nets_and_their_edges.main.body.getD i (.Pass ⟨0,0,0,0⟩)
def aA(i j:Nat):Stmt:=match top i with
 | .ClassDef _ _ _ body _ _ _ _ _ _ _=>body.getD j (.Pass ⟨0,0,0,0⟩)
 | s=>s
def fa:List He.Fa:=[.free "int",.free "len",.glo "_law_open",.glo "_law_pull",.free "range",.glo "_law_net",.free "list",.glo "_law_mixed",.glo "_law_pick",.free "repr",.free "isinstance",.free "bool",.glo "Net",.glo "is_number",.free "super",.glo "InvalidCount",.free "enumerate",.free "all",.glo "is_edge",.glo "InvalidEdge",.cls "Net",.noat "Net" "own_nodes",.free "min",.free "max",.free "sorted",.noat "Net" "lines",.free "sum",.noat "Net" "sides",.mkr "Net",.free "str",.free "tuple",.glo "_law_like",.meth "Net" "edges",.glo "InvalidNode",.meth "Net" "check_node",.meth "Net" "near",.glo "_law_near",.glo "law"]
def xf:List Xf:=[.isi [],.cint "Net" "MOST" 10,.exc "InvalidCount" ["self","given"] [("given",.par 0),("code",.cst "InvalidCount")],.exc "InvalidEdge" ["self","at"] [("at",.par 0),("code",.cst "InvalidEdge")],.prop "Net" "nodes",.dun "Net" "__len__",.dun "Net" "__repr__",.exc "InvalidNode" ["self","given"] [("given",.par 0),("code",.cst "InvalidNode")],.isi ["Net"],.dun "Net" "__eq__",.nf "Net" ["Net"]]
def fn:List He5.DefA:=[
 ⟨(λK=>(He.ga K "_law_open")),"_law_open","_law_open",defArgs (top 12),defBody (top 12),defScope (top 12),[],[]⟩,
 ⟨(λK=>(He.ga K "_law_pull")),"_law_pull","_law_pull",defArgs (top 13),defBody (top 13),defScope (top 13),[],[]⟩,
 ⟨(λK=>(He.ga K "_law_net")),"_law_net","_law_net",defArgs (top 17),defBody (top 17),defScope (top 17),[],[]⟩,
 ⟨(λK=>(He.ga K "_law_mixed")),"_law_mixed","_law_mixed",defArgs (top 15),defBody (top 15),defScope (top 15),[],[]⟩,
 ⟨(λK=>(He.ga K "_law_pick")),"_law_pick","_law_pick",defArgs (top 14),defBody (top 14),defScope (top 14),[],[]⟩,
 ⟨(λK=>(He.ga K "is_number")),"is_number","is_number",defArgs (top 7),defBody (top 7),defScope (top 7),[],[]⟩,
 ⟨(λK=>(He.ga K "is_edge")),"is_edge","is_edge",defArgs (top 9),defBody (top 9),defScope (top 9),[],[]⟩,
 ⟨(λK=>(He.ma K (He.ga K "Net") "__init__")),"__init__","Net.__init__",defArgs (aA 10 1),defBody (aA 10 1),defScope (aA 10 1),[],[]⟩,
 ⟨(λK=>(He.ga K "_law_like")),"_law_like","_law_like",defArgs (top 16),defBody (top 16),defScope (top 16),[],[]⟩,
 ⟨(λK=>(pg K (He.ga K "Net") "nodes")),"nodes","Net.nodes",defArgs (aA 10 2),defBody (aA 10 2),defScope (aA 10 2),[],[]⟩,
 ⟨(λK=>(He.ma K (He.ga K "Net") "edges")),"edges","Net.edges",defArgs (aA 10 3),defBody (aA 10 3),defScope (aA 10 3),[],[]⟩,
 ⟨(λK=>(He.ma K (He.ga K "Net") "__len__")),"__len__","Net.__len__",defArgs (aA 10 15),defBody (aA 10 15),defScope (aA 10 15),[],[]⟩,
 ⟨(λK=>(He.ma K (He.ga K "Net") "__repr__")),"__repr__","Net.__repr__",defArgs (aA 10 16),defBody (aA 10 16),defScope (aA 10 16),[],[]⟩,
 ⟨(λK=>(He.ma K (He.ga K "Net") "edges")),"edges","Net.edges",defArgs (aA 10 3),defBody (aA 10 3),defScope (aA 10 3),[],[]⟩,
 ⟨(λK=>(He.ma K (He.ga K "Net") "check_node")),"check_node","Net.check_node",defArgs (aA 10 4),defBody (aA 10 4),defScope (aA 10 4),[],[]⟩,
 ⟨(λK=>(He.ma K (He.ga K "Net") "near")),"near","Net.near",defArgs (aA 10 5),defBody (aA 10 5),defScope (aA 10 5),[],[]⟩,
 ⟨(λK=>(He.ga K "_law_near")),"_law_near","_law_near",defArgs (top 18),defBody (top 18),defScope (top 18),[],[]⟩,
 ⟨(λK=>(He.ma K (He.ga K "Net") "near")),"near","Net.near",defArgs (aA 10 5),defBody (aA 10 5),defScope (aA 10 5),[],[]⟩,
 ⟨(λK=>(He.ma K (He.ga K "Net") "__eq__")),"__eq__","Net.__eq__",defArgs (aA 10 14),defBody (aA 10 14),defScope (aA 10 14),[],[]⟩,
 ⟨(λK=>(He.ga K "law")),"law","law",defArgs (top 19),defBody (top 19),defScope (top 19),[],[]⟩]
def chk(K:PySem.W.Frag):Bool:=(fa.all λx=>x.ok K) && (xf.all λx=>x.ok K)
def names:List PySem.Str:=([PySem.Str.ofString "_wall",PySem.Str.ofString "SamewaysError",PySem.Str.ofString "InvalidCount",PySem.Str.ofString "InvalidEdge",PySem.Str.ofString "InvalidNode",PySem.Str.ofString "is_number",PySem.Str.ofString "is_edge",PySem.Str.ofString "Net",PySem.Str.ofString "_law_open",PySem.Str.ofString "_law_pull",PySem.Str.ofString "_law_pick",PySem.Str.ofString "_law_mixed",PySem.Str.ofString "_law_like",PySem.Str.ofString "_law_net",PySem.Str.ofString "_law_near"]:List PySem.Str)
abbrev R:PySem.W.OpenRow:=PySem.W.OpenLaw.row PySem.Challenge.rw_sameways_k11_nets_and_their_edges
end Lh
namespace Lh
open PySem PySem.Spec PyProof.Rows L2 DI
abbrev hk:PySem.W.Hook:=DI.uF 5 chk fn
def ob(s:PySem.W.SharedT):He.AlD:=DI.sV 5 chk fn (HandSHeadRun.getT s)
theorem vN(s:PySem.W.SharedT):ob s=hk.obs s.abs:=DI.o7 (HandSHeadRun.getT_eq s)
theorem run(w:World):HandSHeadRun.RunEq R (PySem.W.view R.prog [19]) hk ob 9000 names w:=by
 intro os
 kernel_rfl
theorem br:(PySem.W.OpenLaw.row PySem.Challenge.rw_sameways_k11_nets_and_their_edges).prog.bare:=⟨rfl,rfl,rfl,rfl,rfl,by decide +kernel⟩
theorem wl(h:(PySem.W.OpenLaw.row PySem.Challenge.rw_sameways_k11_nets_and_their_edges).wellSaid=true->(PySem.W.OpenLaw.row PySem.Challenge.rw_sameways_k11_nets_and_their_edges).Holds):PySem.Challenge.rw_sameways_k11_nets_and_their_edges.Holds:=by
 w_on; o_law
 exact h (by assumption)
end Lh
namespace DI
open PySem PySem.Spec PyProof.Rows L2
section
abbrev St:=L2.St
/-- deep values; box: a mutable object by its number; loc: the object that the frame's slot owns (never within another value); rf: a static object -/
inductive D where
 | non|bl (b:Bool)|int (i:Int)|str (x:List Char)
 | tup (xs:List D)|lst (xs:List D)|dct (ks vs:List D)|ins (c:String) (fs:List String) (vs:List D)
 | box (n:Nat)|loc (i:Nat)|rf (c:String)|ty (n:String)|fz (xs:List D)
 | xo (a dd:Nat) (c:String) (fs:List String) (vs:List D)|ob
 | xv (c:String) (fs:List String) (vs:List D)
 | lk (ks vs:List D)
 | wd (ks vs:List D)
 deriving Inhabited
/-- what an owned or boxed object holds -/
inductive O where
 | lst (xs:List D)|dct (ks vs:List D)|ins (c:String) (fs:List String) (vs:List D)|tab (q:String)
 deriving Inhabited
/-- a slot -/
inductive SV where
 | un|sh (d:D)|ow (o:O)
 deriving Inhabited
abbrev Fr:=List SV
abbrev HB:=List O
/-- an exception: its class's name,its fields -/
structure Xn where
 c:String
 fs:List String
 vs:List D
inductive R where
 | ok (d:D)|exn (x:Xn)
abbrev Ev:=Fr->HB->Option (R×HB)
inductive SR where
 | nx (fr:Fr)|rt (d:D)|bk (fr:Fr)|ct (fr:Fr)|ex (x:Xn)
abbrev Sv:=Fr->HB->Option (SR×HB)
abbrev a6:=List D->HB->Option (R×HB)
/-- an exception that nobody raised: its object,with what it must hold -/
def wY(cls:Value)(a d:Addr):HO:=.ext λh=>∃oe:Obj,h.get? a=some oe/\L2N.Zn cls (some d) oe/\∃vs,oe.data=.fields vs
def kh:D->Option Key
 | .int i=>some (.inl i)
 | .str x=>some (.inr (au x))
 | _=>none
def oz:List D->Option (List Key)
 | []=>some []
 | d::r=>match kh d,oz r with
  | some k,some ks=>some (k::ks)
  | _,_=>none
/-- a list that nobody changes: tracked and not in B -/
def FzL(B:Addr->Prop)(H:Hp)(a:Addr)(vs:List V):Prop:=H a=some (.lst vs)/\¬B a
/-- a list that is locked,tracked or written -/
def FzS(K:PySem.W.Frag)(B:Addr->Prop)(H:Hp)(a:Addr)(vs:List V):Prop :=
 (Rd H a (.lst vs)/\¬B a)\/∃(o:Obj) (its:Array Value) (n:Nat),K.lookup a=some o/\o.cls=.type "list"/\o.dict=none/\o.data=.seq its n/\its.size<=sizeLine/\Vals vs its.toList
/-- a tuple -/
def FzT(K:PySem.W.Frag)(B:Addr->Prop)(H:Hp)(a:Addr)(vs:List V):Prop :=
 H a=some (.tup vs)/\¬B a
/-- the keys and values of a dict -/
inductive KeysK:List D->List (Key×V)->Prop
 | nil:KeysK [] []
 | cons {d k v ds kvs}:kh d=some k->KeysK ds kvs->KeysK (d::ds) ((k,v)::kvs)
inductive KeysT:List D->List (List Key×V)->Prop
 | one {ds' k v}:oz ds'=some k->KeysT [.tup ds'] [(k,v)]
 | cons {ds' k v ds kvs}:oz ds'=some k->KeysT ds kvs->KeysT (.tup ds'::ds) ((k,v)::kvs)
mutual
def RelD(K:PySem.W.Frag)(B:Addr->Prop)(m:List Addr)(H:Hp):D->V->Prop
 | .non,v=>v=.non
 | .bl b,v=>v=.bl b
 | .int i,v=>v=.int i
 | .str x,v=>v=.str (au x)
 | .tup xs,v=>∃a vs,v=.ref a/\FzT K B H a vs/\RelDs K B m H xs vs
 | .lst xs,v=>∃a vs,v=.ref a/\FzL B H a vs/\RelDs K B m H xs vs
 | .fz xs,v=>∃a vs,v=.ref a/\FzS K B H a vs/\RelDs K B m H xs vs
 | .dct ks ds,v=>∃a vs,v=.ref a/\¬B a/\((∃kvs,H a=some (.dK kvs)/\KeysK ks kvs/\vs=kvs.map (·.2))\/(∃kvs,H a=some (.dT kvs)/\KeysT ks kvs/\vs=kvs.map (·.2)))/\RelDs K B m H ds vs
 | .ins c fs ds,v=>∃a dx vs,v=.ref a/\¬B a/\H a=some (.ins (He.ga K c) dx ((fs.map Str.ofString).zip vs))/\fs.length=vs.length/\RelDs K B m H ds vs
 | .box n,v=>∃a,v=.ref a/\m[n]? =some a
 | .loc _,_=>False
 | .rf c,v=>v=.ref (He.ga K c)
 | .ty n,v=>v=.ty n
 | .xo a dd _ fs ds,v=>v=.ref a/\¬B dd/\∃vs,H dd=some (.xd ((fs.map Str.ofString).zip vs))/\fs.length=vs.length/\RelDs K B m H ds vs
 | .ob,v=>∃a,v=.ref a
 | .xv c fs ds,v=>∃a dd vs,v=.ref a/\¬B a/\¬B dd/\H a=some (wY (.ref (He.ga K c)) a dd)/\H dd=some (.xd ((fs.map Str.ofString).zip vs))/\fs.length=vs.length/\RelDs K B m H ds vs
 | .lk ks ds,v=>∃a od kvs vs,v=.ref a/\¬B a/\H a=some (.frz od (.dK kvs))/\KeysK ks kvs/\vs=kvs.map (·.2)/\RelDs K B m H ds vs
 | .wd ks ds,v=>∃a kvs vs,v=.ref a/\¬B a/\Rd H a (.dK kvs)/\KeysK ks kvs/\vs=kvs.map (·.2)/\RelDs K B m H ds vs
def RelDs(K:PySem.W.Frag)(B:Addr->Prop)(m:List Addr)(H:Hp):List D->List V->Prop
 | [],vs=>vs=[]
 | d::ds,vs=>∃v r,vs=v::r/\RelD K B m H d v/\RelDs K B m H ds r
end
/-- the name of its lambdas' code -/
def xb(q:String):Str:=(Str.ofString q++(".<locals>.":Str))++("<lambda>":Str)
def w4(B:Addr->Prop)(H:Hp)(a:Addr)(q:Str):Prop:=∃ps:Array Value,H a=some (.tbl ps)/\TriplesOk ps.toList/\∀(pos:Pos) (cv:Value),codeAmong pos ps.toList=some cv->∃c,cv=.ref c/\H c=some (LamX.CodeO c q)/\¬B c
/-- an owned or boxed object at a -/
def RelO(K:PySem.W.Frag)(B:Addr->Prop)(m:List Addr)(H:Hp):O->Addr->Prop
 | .lst xs,a=>∃vs,H a=some (.lst vs)/\RelDs K B m H xs vs
 | .dct ks ds,a=>∃vs,((∃kvs,H a=some (.dK kvs)/\KeysK ks kvs/\vs=kvs.map (·.2))\/(∃kvs,H a=some (.dT kvs)/\KeysT ks kvs/\vs=kvs.map (·.2)))/\RelDs K B m H ds vs
 | .ins c fs ds,a=>∃dx vs,H a=some (.ins (He.ga K c) dx ((fs.map Str.ofString).zip vs))/\fs.length=vs.length/\RelDs K B m H ds vs
 | .tab q,a=>a=ta K q/\w4 B H a (xb q)
/-- what is not to be looked at as frozen: others' owned objects,the boxed ones -/
def Bd(M:Addr->Prop)(m:List Addr):Addr->Prop:=λa=>M a\/a∈m
/-- the boxed objects stand -/
structure Wd (K:PySem.W.Frag) (M:Addr->Prop) (m:List Addr) (H:Hp) (hb:HB):Prop where
 nd:m.Nodup
 no:∀a∈m,¬M a
 mt:∀a,M a->∃u,H a=some u
 len:hb.length=m.length
 ob:∀(n:Nat) a o,m[n]? =some a->hb[n]? =some o->RelO K (Bd M m) m H o a
/-- one slot -/
def RelS(K:PySem.W.Frag)(M:Addr->Prop)(m:List Addr)(H:Hp):SV->Option V->Prop
 | .un,_=>True
 | .sh d,x=>∃v,x=some v/\RelD K (Bd M m) m H d v
 | .ow o,x=>∃a,x=some (.ref a)/\M a/\a∉m/\RelO K (Bd M m) m H o a
def FrR(K:PySem.W.Frag)(M:Addr->Prop)(m:List Addr)(H:Hp)(fr:Fr)(σ:St):Prop :=
 fr.length=σ.length/\∀(i:Nat) s,fr[i]? =some s->∃x,σ[i]? =some x/\RelS K M m H s x
/-- a value or the object that a slot owns -/
def RelT(K:PySem.W.Frag)(M:Addr->Prop)(m:List Addr)(H:Hp)(fr:Fr)(σ:St):D->V->Prop
 | .loc i,v=>(∃o,fr[i]? =some (.ow o))/\σ[i]? =some (some v)
 | d,v=>RelD K (Bd M m) m H d v
/-- what an expression may do -/
structure Stp (K:PySem.W.Frag) (M:Addr->Prop) (m:List Addr) (H:Hp) (m':List Addr) (H':Hp) (hb':HB):Prop where
 pre:∃l,m'=m++l
 new:∀a∈m',a∉m->H a=none
 fr:∀a o,H a=some o->a∉m->H' a=some o
 wd:Wd K M m' H' hb'
section
variable {K:PySem.W.Frag} {M:Addr->Prop} {m m':List Addr} {H H':Hp} {hb hb':HB}
theorem Rd.keep{a:Addr}{u:HO}(r:Rd H a u)(h:∀o,H a=some o->H' a=some o):Rd H' a u:=by
 rcases r with r|⟨o,r⟩
 .exact .inl (h _ r)
 .exact .inr ⟨o,h _ r⟩
theorem Rd.some_{a:Addr}{u:HO}(r:Rd H a u):∃o,H a=some o:=by
 rcases r with r|⟨o,r⟩
 .exact⟨_,r⟩
 .exact⟨_,r⟩
/-- from B,m,H to B',m',H': frozen tracked things stay -/
structure Keeps (B B':Addr->Prop) (m m':List Addr) (H H':Hp):Prop where
 pre:∃l,m'=m++l
 fr:∀a o,H a=some o->¬B a->H' a=some o/\¬B' a
theorem Keeps.box{B B':Addr->Prop}(k:Keeps B B' m m' H H'){n:Nat}{a:Addr}(h:m[n]? =some a):m'[n]? =some a:=by
 obtain⟨l,rfl⟩:=k.pre
 rw[List.getElem?_append_left (List.getElem?_eq_some_iff.mp h).1]
 exact h
mutual
theorem RelD.keep{B B':Addr->Prop}(k:Keeps B B' m m' H H'):∀{d:D} {v:V},RelD K B m H d v->RelD K B' m' H' d v
 | .non,v,h=>by unfold RelD at h ⊢; exact h
 | .bl b,v,h=>by unfold RelD at h ⊢; exact h
 | .int i,v,h=>by unfold RelD at h ⊢; exact h
 | .str x,v,h=>by unfold RelD at h ⊢; exact h
 | .tup xs,v,h=>by
  unfold RelD at h ⊢
  obtain⟨a,vs,e,f,r⟩:=h
  exact⟨a,vs,e,k.fr a _ f.1 f.2,RelDs.keep k r⟩
 | .lst xs,v,h=>by
  unfold RelD at h ⊢
  obtain⟨a,vs,e,⟨f,n⟩,r⟩:=h
  exact⟨a,vs,e,k.fr a _ f n,RelDs.keep k r⟩
 | .fz xs,v,h=>by
  unfold RelD at h ⊢
  obtain⟨a,vs,e,f,r⟩:=h
  refine⟨a,vs,e,?_,RelDs.keep k r⟩
  rcases f with ⟨f,n⟩|f
  .obtain⟨o,ho⟩:=Rd.some_ f
   exact .inl ⟨Rd.keep f λo q=>(k.fr a o q n).1,(k.fr a o ho n).2⟩
  .exact .inr f
 | .dct ks ds,v,h=>by
  unfold RelD at h ⊢
  obtain⟨a,vs,e,n,f,r⟩:=h
  rcases f with ⟨kvs,f,h1,h2⟩|⟨kvs,f,h1,h2⟩
  .exact⟨a,vs,e,(k.fr a _ f n).2,.inl ⟨kvs,(k.fr a _ f n).1,h1,h2⟩,RelDs.keep k r⟩
  .exact⟨a,vs,e,(k.fr a _ f n).2,.inr ⟨kvs,(k.fr a _ f n).1,h1,h2⟩,RelDs.keep k r⟩
 | .ins c fs ds,v,h=>by
  unfold RelD at h ⊢
  obtain⟨a,dx,vs,e,n,f,l,r⟩:=h
  exact⟨a,dx,vs,e,(k.fr a _ f n).2,(k.fr a _ f n).1,l,RelDs.keep k r⟩
 | .box n,v,h=>by
  unfold RelD at h ⊢
  obtain⟨a,e,q⟩:=h
  exact⟨a,e,k.box q⟩
 | .loc i,v,h=>by unfold RelD at h; exact h.elim
 | .rf a,v,h=>by unfold RelD at h ⊢; exact h
 | .ty n,v,h=>by unfold RelD at h ⊢; exact h
 | .xo a dd c fs ds,v,h=>by
  unfold RelD at h ⊢
  obtain⟨e,n,vs,f,l,r⟩:=h
  exact⟨e,(k.fr dd _ f n).2,vs,(k.fr dd _ f n).1,l,RelDs.keep k r⟩
 | .ob,v,h=>by unfold RelD at h ⊢; exact h
 | .xv c fs ds,v,h=>by
  unfold RelD at h ⊢
  obtain⟨a,dd,vs,e,n1,n2,f1,f2,l,r⟩:=h
  exact⟨a,dd,vs,e,(k.fr a _ f1 n1).2,(k.fr dd _ f2 n2).2,(k.fr a _ f1 n1).1,(k.fr dd _ f2 n2).1,l,RelDs.keep k r⟩
 | .lk ks ds,v,h=>by
  unfold RelD at h ⊢
  obtain⟨a,od,kvs,vs,e,n,f,h1,h2,r⟩:=h
  exact⟨a,od,kvs,vs,e,(k.fr a _ f n).2,(k.fr a _ f n).1,h1,h2,RelDs.keep k r⟩
 | .wd ks ds,v,h=>by
  unfold RelD at h ⊢
  obtain⟨a,kvs,vs,e,n,f,h1,h2,r⟩:=h
  obtain⟨o,ho⟩:=Rd.some_ f
  exact⟨a,kvs,vs,e,(k.fr a o ho n).2,Rd.keep f λo q=>(k.fr a o q n).1,h1,h2,RelDs.keep k r⟩
theorem RelDs.keep{B B':Addr->Prop}(k:Keeps B B' m m' H H'):∀{ds:List D} {vs:List V},RelDs K B m H ds vs->RelDs K B' m' H' ds vs
 | [],vs,h=>by unfold RelDs at h ⊢; exact h
 | d::ds,vs,h=>by
  unfold RelDs at h ⊢
  obtain⟨v,r,e,h1,h2⟩:=h
  exact⟨v,r,e,RelD.keep k h1,RelDs.keep k h2⟩
end
theorem RelDs.nil_iff{B:Addr->Prop}{vs:List V}:RelDs K B m H [] vs<->vs=[]:=by unfold RelDs; rfl
theorem RelDs.length{B:Addr->Prop}:∀{ds:List D} {vs:List V},RelDs K B m H ds vs->ds.length=vs.length
 | [],vs,h=>by unfold RelDs at h; subst h; rfl
 | d::ds,vs,h=>by
  unfold RelDs at h
  obtain⟨v,r,rfl,_,h2⟩:=h
  simp[RelDs.length h2]
theorem RelDs.nil'{B:Addr->Prop}:RelDs K B m H [] []:=by unfold RelDs; rfl
theorem RelDs.cons{B:Addr->Prop}{d:D}{v:V}{ds:List D}{vs:List V}(h1:RelD K B m H d v)(h2:RelDs K B m H ds vs):RelDs K B m H (d::ds) (v::vs):=by
 unfold RelDs
 exact⟨v,vs,rfl,h1,h2⟩
theorem RelDs.cons_inv{B:Addr->Prop}{d:D}{ds:List D}{vs:List V}(h:RelDs K B m H (d::ds) vs):∃v r,vs=v::r/\RelD K B m H d v/\RelDs K B m H ds r:=by
 unfold RelDs at h
 exact h
theorem RelDs.append{B:Addr->Prop}:∀{ds es:List D} {vs ws:List V},RelDs K B m H ds vs->RelDs K B m H es ws->RelDs K B m H (ds++es) (vs++ws)
 | [],es,vs,ws,h,h'=>by unfold RelDs at h; subst h; exact h'
 | d::ds,es,vs,ws,h,h'=>by
  obtain⟨v,r,rfl,h1,h2⟩:=RelDs.cons_inv h
  exact RelDs.cons h1 (RelDs.append h2 h')
theorem RelDs.get{B:Addr->Prop}:∀{ds:List D} {vs:List V} {i:Nat} {d:D},RelDs K B m H ds vs->ds[i]? =some d->∃v,vs[i]? =some v/\RelD K B m H d v
 | [],_,_,_,_,e=>by simp at e
 | d::ds,vs,0,d',h,e=>by
  obtain⟨v,r,rfl,h1,h2⟩:=RelDs.cons_inv h
  simp at e
  subst e
  exact⟨v,rfl,h1⟩
 | d::ds,vs,i+1,d',h,e=>by
  obtain⟨v,r,rfl,h1,h2⟩:=RelDs.cons_inv h
  obtain⟨w,e1,e2⟩:=RelDs.get (i:=i) h2 (by simpa using e)
  exact⟨w,by simpa using e1,e2⟩
theorem RelDs.take{B:Addr->Prop}:∀{ds:List D} {vs:List V} (n:Nat),RelDs K B m H ds vs->RelDs K B m H (ds.take n) (vs.take n)
 | ds,vs,0,_=>by simp; exact RelDs.nil'
 | [],vs,n+1,h=>by unfold RelDs at h; subst h; simp; exact RelDs.nil'
 | d::ds,vs,n+1,h=>by
  obtain⟨v,r,rfl,h1,h2⟩:=RelDs.cons_inv h
  exact RelDs.cons h1 (RelDs.take n h2)
theorem RelDs.drop{B:Addr->Prop}:∀{ds:List D} {vs:List V} (n:Nat),RelDs K B m H ds vs->RelDs K B m H (ds.drop n) (vs.drop n)
 | ds,vs,0,h=>h
 | [],vs,n+1,h=>by unfold RelDs at h; subst h; simp; exact RelDs.nil'
 | d::ds,vs,n+1,h=>by
  obtain⟨v,r,rfl,h1,h2⟩:=RelDs.cons_inv h
  exact RelDs.drop n h2
theorem RelDs.reverse{B:Addr->Prop}:∀{ds:List D} {vs:List V},RelDs K B m H ds vs->RelDs K B m H ds.reverse vs.reverse
 | [],vs,h=>by unfold RelDs at h; subst h; exact RelDs.nil'
 | d::ds,vs,h=>by
  obtain⟨v,r,rfl,h1,h2⟩:=RelDs.cons_inv h
  rw[List.reverse_cons,List.reverse_cons]
  exact RelDs.append (RelDs.reverse h2) (RelDs.cons h1 RelDs.nil')
theorem RelDs.set{B:Addr->Prop}{d:D}{v:V}(h':RelD K B m H d v):∀{ds:List D} {vs:List V} (i:Nat),RelDs K B m H ds vs->RelDs K B m H (ds.set i d) (vs.set i v)
 | [],vs,_,h=>by unfold RelDs at h; subst h; exact RelDs.nil'
 | e::ds,vs,0,h=>by
  obtain⟨v,r,rfl,h1,h2⟩:=RelDs.cons_inv h
  exact RelDs.cons h' h2
 | e::ds,vs,i+1,h=>by
  obtain⟨v,r,rfl,h1,h2⟩:=RelDs.cons_inv h
  exact RelDs.cons h1 (RelDs.set h' i h2)
theorem RelDs.replicate{B:Addr->Prop}{d:D}{v:V}(h':RelD K B m H d v):∀(n:Nat),RelDs K B m H (List.replicate n d) (List.replicate n v)
 | 0=>RelDs.nil'
 | n+1=>RelDs.cons h' (RelDs.replicate h' n)
theorem Stp.keeps(s:Stp K M m H m' H' hb'):Keeps (Bd M m) (Bd M m') m m' H H':=by
 refine⟨s.pre,λa o h n=> ?_⟩
 have n1:a∉m:=λz=>n (.inr z)
 refine⟨s.fr a o h n1,λz=> ?_⟩
 rcases z with z|z
 .exact n (.inl z)
 .have:=s.new a z n1
  rw[h] at this; cases this
theorem RelO.keep_own{B B':Addr->Prop}(k:Keeps B B' m m' H H'){o:O}{a:Addr}(h:RelO K B m H o a)(he:∀o,H a=some o->H' a=some o):RelO K B' m' H' o a:=by
 cases o with
 | lst xs=>obtain⟨vs,h1,h2⟩:=h; exact⟨vs,he _ h1,h2.keep k⟩
 | dct ks ds =>
  obtain⟨vs,h1,h2⟩:=h
  rcases h1 with ⟨kvs,e1,e2,e3⟩|⟨kvs,e1,e2,e3⟩
  .exact⟨vs,.inl ⟨kvs,he _ e1,e2,e3⟩,h2.keep k⟩
  .exact⟨vs,.inr ⟨kvs,he _ e1,e2,e3⟩,h2.keep k⟩
 | ins c fs ds=>obtain⟨dx,vs,h1,l,h2⟩:=h; exact⟨dx,vs,he _ h1,l,h2.keep k⟩
 | tab q =>
  obtain⟨ea,ps,h1,h2,h3⟩:=h
  exact⟨ea,ps,he _ h1,h2,λpos cv hc=>let ⟨c,e1,e2,e3⟩:=h3 pos cv hc; ⟨c,e1,(k.fr c _ e2 e3).1,(k.fr c _ e2 e3).2⟩⟩
theorem RelO.there{B:Addr->Prop}{o:O}{a:Addr}(h:RelO K B m H o a):∃u,H a=some u:=by
 cases o with
 | lst xs=>obtain⟨vs,h1,h2⟩:=h; exact⟨_,h1⟩
 | dct ks ds =>
  obtain⟨vs,h1,h2⟩:=h
  rcases h1 with ⟨kvs,e1,e2,e3⟩|⟨kvs,e1,e2,e3⟩
  .exact⟨_,e1⟩
  .exact⟨_,e1⟩
 | ins c fs ds=>obtain⟨dx,vs,h1,h2⟩:=h; exact⟨_,h1⟩
 | tab q=>obtain⟨_,ps,h1,_⟩:=h; exact⟨_,h1⟩
theorem Wd.there(w:Wd K M m H hb){a:Addr}(h:a∈m):∃u,H a=some u:=by
 obtain⟨n,hn⟩:=List.getElem?_of_mem h
 have hl:=(List.getElem?_eq_some_iff.mp hn).1
 obtain⟨o,ho⟩:∃o,hb[n]? =some o:=⟨hb[n]'(by rw[w.len]; exact hl),by simp⟩
 exact(w.ob n a o hn ho).there
theorem Stp.refl(w:Wd K M m H hb):Stp K M m H m H hb:=⟨⟨[],by simp⟩,λa h n=>absurd h n,λ_ _ h _=>h,w⟩
theorem Stp.trans{m1:List Addr}{H1:Hp}{hb1:HB}(a:Stp K M m H m1 H1 hb1)(b:Stp K M m1 H1 m' H' hb'):Stp K M m H m' H' hb':=by
 obtain⟨l1,e1⟩:=a.pre
 obtain⟨l2,e2⟩:=b.pre
 refine⟨⟨l1++l2,by rw[e2,e1,List.append_assoc]⟩,λx hx hn=> ?_,λx o h hn=> ?_,b.wd⟩
 .by_cases h1:x∈m1
  .exact a.new x h1 hn
  .have:=b.new x hx h1
   cases q:H x with
   | none=>rfl
   | some o=>have z:=a.fr x o q hn; rw[this] at z; cases z
 .refine b.fr x o (a.fr x o h hn) λz=> ?_
  have:=a.new x z hn
  rw[h] at this; cases this
/-- a new object laid -/
theorem Wd.laid(w:Wd K M m H hb){p:Addr}{o:HO}(hp:H p=none):Stp K M m H m (upd H p o) hb:=by
 have nep:∀a u,H a=some u->a≠p:=λa u h=>ne_of_none h hp
 have fr:∀a u,H a=some u->a∉m->upd H p o a=some u:=λa u h _=>by rw[upd_ne (nep a u h)]; exact h
 have k:Keeps (Bd M m) (Bd M m) m m H (upd H p o):=⟨⟨[],by simp⟩,λa u h n=>⟨by rw[upd_ne (nep a u h)]; exact h,n⟩⟩
 exact⟨⟨[],by simp⟩,λa h n=>absurd h n,fr,⟨w.nd,w.no,λa h=>let ⟨u,hu⟩:=w.mt a h; ⟨u,by rw[upd_ne (nep a u hu)]; exact hu⟩,w.len,λn a ob h1 h2=>(w.ob n a ob h1 h2).keep_own k λu h=>by rw[upd_ne (nep a u h)]; exact h⟩⟩
theorem RelS.keep(s:Stp K M m H m' H' hb')(w:Wd K M m H hb){sv:SV}{x:Option V}(h:RelS K M m H sv x):RelS K M m' H' sv x:=by
 cases sv with
 | un=>trivial
 | sh d =>
  obtain⟨v,e,r⟩:=h
  exact⟨v,e,r.keep s.keeps⟩
 | ow o =>
  obtain⟨a,e,hM,nm,r⟩:=h
  obtain⟨u,hu⟩:=r.there
  refine⟨a,e,hM,λz=> ?_,r.keep_own s.keeps λu h=>s.fr a u h nm⟩
  exact s.wd.no a z hM
theorem FrR.keep(s:Stp K M m H m' H' hb')(w:Wd K M m H hb){fr:Fr}{σ:St}(h:FrR K M m H fr σ):FrR K M m' H' fr σ :=
 ⟨h.1,λi sv e=>let ⟨x,e1,r⟩:=h.2 i sv e; ⟨x,e1,r.keep s w⟩⟩
theorem RelT.keep(s:Stp K M m H m' H' hb'){fr:Fr}{σ:St}{d:D}{v:V}(h:RelT K M m H fr σ d v):RelT K M m' H' fr σ d v:=by
 cases d with
 | loc i=>exact h
 | _=>exact RelD.keep s.keeps h
end
end
section
/-- an exception as it lies: its class,its dict -/
def RelX(K:PySem.W.Frag)(B:Addr->Prop)(m:List Addr)(H:Hp)(x:Xn)(C:Value)(d:Option Addr):Prop :=
 C=.ref (He.ga K x.c)/\∃dd vs,d=some dd/\¬B dd/\H dd=some (.xd ((x.fs.map Str.ofString).zip vs))/\x.fs.length=vs.length/\RelDs K B m H x.vs vs
theorem RelX.keep{K:PySem.W.Frag}{B B':Addr->Prop}{m m':List Addr}{H H':Hp}(k:Keeps B B' m m' H H'){x:Xn}{C:Value}{d:Option Addr}(h:RelX K B m H x C d):RelX K B' m' H' x C d:=by
 obtain⟨h1,d2,vs2,h2,nb,h3,h4,h5⟩:=h
 exact⟨h1,d2,vs2,h2,(k.fr d2 _ h3 nb).2,(k.fr d2 _ h3 nb).1,h4,h5.keep k⟩
abbrev WX:=Value->Option Addr->St->Hp->Prop
/-- an evaluator's reading -/
def tE(K:PySem.W.Frag)(W:WX)(ev:Ev):TE:=λσ H Q=>∃(M:Addr->Prop) (m:List Addr) (hb:HB) (fr:Fr) (r:R) (hb':HB),Wd K M m H hb/\FrR K M m H fr σ/\ev fr hb=some (r,hb') /\
 ∀ m' H',Stp K M m H m' H' hb'->match r with
  | .ok d=>∀v,RelT K M m' H' fr σ d v->Q v H'
  | .exn x=>∀C dd,RelX K (Bd M m') m' H' x C dd->W C dd σ H'
/-- the judgement of an expression -/
abbrev SE(X:Cx)(W:WX)(e:Expr)(ev:Ev):Prop:=PE X e (tE X.K W ev)
theorem PE.mono{X:Cx}{e:Expr}{t t':TE}(h:PE X e t)(i:∀σ H Q,t' σ H Q->t σ H Q):PE X e t':=⟨λpins s σ H Q I hq=>h.run pins s σ H Q I (i σ H Q hq)⟩
theorem PT.mono{X:Cx}{e:Expr}{t t':TT}(h:PT X e t)(i:∀σ H Q,t' σ H Q->t σ H Q):PT X e t':=⟨λpins s σ H Q I hq=>h.run pins s σ H Q I (i σ H Q hq)⟩
theorem PA.mono{X:Cx}{e:List Expr}{t t':TA}(h:PA X e t)(i:∀σ H Q,t' σ H Q->t σ H Q):PA X e t':=⟨λpos pins s σ H Q I hq=>h.run pos pins s σ H Q I (i σ H Q hq)⟩
theorem PS.mono{X:Cx}{e:Stmt}{t t':TS}(h:PS X e t)(i:∀D σ H,t' D σ H->t D σ H):PS X e t':=⟨λpins s σ H D I hq=>h.run pins s σ H D I (i D σ H hq)⟩
theorem PSs.mono{X:Cx}{e:List Stmt}{t t':TS}(h:PSs X e t)(i:∀D σ H,t' D σ H->t D σ H):PSs X e t':=⟨λpins s σ H D I hq=>h.run pins s σ H D I (i D σ H hq)⟩
/-- an evaluator's test: its value must be a bool -/
def tT(K:PySem.W.Frag)(W:WX)(ev:Ev):TT:=λσ H Q=>∃(M:Addr->Prop) (m:List Addr) (hb:HB) (fr:Fr) (r:R) (hb':HB),Wd K M m H hb/\FrR K M m H fr σ/\ev fr hb=some (r,hb') /\
 ∀ m' H',Stp K M m H m' H' hb'->match r with
  | .ok d=>∃b,d=.bl b/\Q b H'
  | .exn x=>∀C dd,RelX K (Bd M m') m' H' x C dd->W C dd σ H'
abbrev ST(X:Cx)(W:WX)(e:Expr)(ev:Ev):Prop:=PT X e (tT X.K W ev)
def ay(ev:Ev)(k:D->Ev):Ev:=λfr hb=>match ev fr hb with
 | some (.ok d,hb1)=>k d fr hb1
 | some (.exn x,hb1)=>some (.exn x,hb1)
 | none=>none
abbrev Evs:=Fr->HB->Option ((List D ⊕ Xn)×HB)
def al:Evs:=λ_ hb=>some (.inl [],hb)
def ae(ev:Ev)(r:Evs):Evs:=λfr hb=>match ev fr hb with
 | some (.ok d,hb1)=>match r fr hb1 with
  | some (.inl ds,hb2)=>some (.inl (d::ds),hb2)
  | some (.inr x,hb2)=>some (.inr x,hb2)
  | none=>none
 | some (.exn x,hb1)=>some (.inr x,hb1)
 | none=>none
/-- several values -/
def RelTs(K:PySem.W.Frag)(M:Addr->Prop)(m:List Addr)(H:Hp)(fr:Fr)(σ:St):List D->List V->Prop
 | [],vs=>vs=[]
 | d::ds,vs=>∃v r,vs=v::r/\RelT K M m H fr σ d v/\RelTs K M m H fr σ ds r
def tEs(K:PySem.W.Frag)(W:WX)(ev:Evs):TA:=λσ H Q=>∃(M:Addr->Prop) (m:List Addr) (hb:HB) (fr:Fr) (r:List D ⊕ Xn) (hb':HB),Wd K M m H hb/\FrR K M m H fr σ/\ev fr hb=some (r,hb') /\
 ∀ m' H',Stp K M m H m' H' hb'->match r with
  | .inl ds=>∀vs,RelTs K M m' H' fr σ ds vs->Q vs H'
  | .inr x=>∀C dd,RelX K (Bd M m') m' H' x C dd->W C dd σ H'
abbrev SEs(X:Cx)(W:WX)(es:List Expr)(ev:Evs):Prop:=PA X es (tEs X.K W ev)
section
variable {K:PySem.W.Frag} {W:WX} {M:Addr->Prop} {m m':List Addr} {H H':Hp} {hb hb':HB} {fr:Fr} {σ:St}
theorem RelTs.keep(s:Stp K M m H m' H' hb'):∀{ds:List D} {vs:List V},RelTs K M m H fr σ ds vs->RelTs K M m' H' fr σ ds vs
 | [],vs,h=>h
 | d::ds,vs,h=>by
  obtain⟨v,r,e,h1,h2⟩:=h
  exact⟨v,r,e,h1.keep s,RelTs.keep s h2⟩
end
section
variable {X:Cx} {W:WX}
/-- the exceptions' wish is the context's -/
theorem ac:SEs X W [] al:=by
 refine PA.mono pa_nil λσ H Q h=> ?_
 obtain⟨M,m,hb,fr,r,hb',w,f,e,c⟩:=h
 cases e
 exact c m H (Stp.refl w) [] rfl
theorem aa{e:Expr}{es:List Expr}{ev:Ev}{evs:Evs}(h:SE X W e ev)(hs:SEs X W es evs)(hst:starEach (e::es) X.env=(false,eval e X.env)::starEach es X.env:=by rfl):SEs X W (e::es) (ae ev evs):=by
 refine PA.mono (pa_cons h hs hst) λσ H Q hq=> ?_
 obtain⟨M,m,hb,fr,r,hb',w,f,e,c⟩:=hq
 unfold ae at e
 show tE X.K W ev σ H λx H1=>tEs X.K W evs σ H1 λxs H2=>Q (x::xs) H2
 split at e
 .rename_i d hb1 e1
  refine⟨M,m,hb,fr,.ok d,hb1,w,f,e1,λm1 H1 s1 v rv=> ?_⟩
  split at e
  .rename_i ds hb2 e2
   cases e
   refine⟨M,m1,hb1,fr,.inl ds,_,s1.wd,f.keep s1 w,e2,λm2 H2 s2 vs rvs=> ?_⟩
   exact c m2 H2 (s1.trans s2) (v::vs) ⟨v,vs,rfl,rv.keep s2,rvs⟩
  .rename_i x hb2 e2
   cases e
   exact⟨M,m1,hb1,fr,.inr _,_,s1.wd,f.keep s1 w,e2,λm2 H2 s2=>c m2 H2 (s1.trans s2)⟩
  .cases e
 .rename_i x hb1 e1
  cases e
  exact⟨M,m,hb,fr,.exn _,_,w,f,e1,λm1 H1 s1=>c m1 H1 s1⟩
 .cases e
def eC(d:D):Ev:=λ_ hb=>some (.ok d,hb)
def eV(i:Nat):Ev:=λfr hb=>match fr[i]? with
 | some (.sh d)=>some (.ok d,hb)
 | some (.ow _)=>some (.ok (.loc i),hb)
 | _=>none
theorem aN{i:Nat}{x:Str}{pos:Pos}(hN:X.N[i]? =some x)(hv:Vis X.env.scope x)(hd:(x == ("__debug__":Str))=false:=by decide)(hcd:(x == ("__classdict__":Str))=false:=by decide):SE X W (.Name x pos) (eV i):=by
 refine PE.mono (pe_var hN hv hd hcd) λσ H Q h=> ?_
 obtain⟨M,m,hb,fr,r,hb',w,f,e,c⟩:=h
 unfold eV at e
 split at e
 .rename_i d e1
  cases e
  obtain⟨y,e2,v,e3,rv⟩:=f.2 i _ e1
  subst e3
  refine⟨v,e2,c m H (Stp.refl w) v ?_⟩
  cases d with
  | loc j=>unfold RelD at rv; exact rv.elim
  | _=>exact rv
 .rename_i o e1
  cases e
  obtain⟨y,e2,a,e3,hM,nm,ro⟩:=f.2 i _ e1
  subst e3
  exact⟨_,e2,c m H (Stp.refl w) _ ⟨⟨o,e1⟩,e2⟩⟩
 .cases e
theorem uD{e:Expr}{v:V}{d:D}(h:PE X e (tC v))(hd:∀B m H,RelD X.K B m H d v)(hl:∀i,d≠.loc i):SE X W e (eC d):=by
 refine PE.mono h λσ H Q h=> ?_
 obtain⟨M,m,hb,fr,r,hb',w,f,e,c⟩:=h
 cases e
 refine c m H (Stp.refl w) v ?_
 have z:=hd (Bd M m) m H
 cases d with
 | loc i=>exact absurd rfl (hl i)
 | _=>exact z
theorem af{i j pos}:SE X W (.Constant (.int i) j pos) (eC (.int i)):=uD pe_int (λ_ _ _=>by unfold RelD; rfl) λ_ q=>by cases q
theorem gf{i j pos}:SE X W (.Constant (.bool i) j pos) (eC (.bl i)):=uD pe_bl (λ_ _ _=>by unfold RelD; rfl) λ_ q=>by cases q
theorem fB{x:Str}{l:List Char}{j pos}(h:x=au l:=by rfl):SE X W (.Constant (.str x) j pos) (eC (.str l)):=uD pe_str (λ_ _ _=>by unfold RelD; rw[h]) λ_ q=>by cases q
end
end
section
/-- what is wanted behind -/
def Pst(K:PySem.W.Frag)(W:WX)(M:Addr->Prop)(m:List Addr)(H:Hp)(fr:Fr)(σ:St)(r:R)(hb':HB)(Q:VK):Prop:=∀m' H',Stp K M m H m' H' hb'->match r with
 | .ok d=>∀v,RelT K M m' H' fr σ d v->Q v H'
 | .exn x=>∀C dd,RelX K (Bd M m') m' H' x C dd->W C dd σ H'
/-- a state -/
structure At (K:PySem.W.Frag) (M:Addr->Prop) (m:List Addr) (H:Hp) (hb:HB) (fr:Fr) (σ:St):Prop where
 wd:Wd K M m H hb
 fr:FrR K M m H fr σ
section
variable {K:PySem.W.Frag} {W:WX} {M:Addr->Prop} {m m':List Addr} {H H':Hp} {hb hb':HB} {fr:Fr} {σ:St} {Q:VK}
theorem Pst.done{d:D}{v:V}(c:Pst K W M m H fr σ (.ok d) hb Q)(a:At K M m H hb fr σ)(r:RelT K M m H fr σ d v):Q v H:=c m H (Stp.refl a.wd) v r
theorem Pst.step{r:R}(c:Pst K W M m H fr σ r hb' Q){m1:List Addr}{H1:Hp}{hb1:HB}(s:Stp K M m H m1 H1 hb1):Pst K W M m1 H1 fr σ r hb' Q:=λm' H' s'=>c m' H' (s.trans s')
theorem At.step(a:At K M m H hb fr σ){m1:List Addr}{H1:Hp}{hb1:HB}(s:Stp K M m H m1 H1 hb1):At K M m1 H1 hb1 fr σ:=⟨s.wd,a.fr.keep s a.wd⟩
theorem b3{ev:Ev}{r:R}(a:At K M m H hb fr σ)(e:ev fr hb=some (r,hb'))(c:Pst K W M m H fr σ r hb' Q):tE K W ev σ H Q:=⟨M,m,hb,fr,r,hb',a.wd,a.fr,e,c⟩
theorem dh{ev:Ev}(h:tE K W ev σ H Q):∃M m hb fr r hb',At K M m H hb fr σ/\ev fr hb=some (r,hb')/\Pst K W M m H fr σ r hb' Q:=by
 obtain⟨M,m,hb,fr,r,hb',w,f,e,c⟩:=h
 exact⟨M,m,hb,fr,r,hb',⟨w,f⟩,e,c⟩
/-- one step,in a known state -/
theorem cp{ev:Ev}{k:D->Ev}{r:R}{R:V->Hp->Prop}(a:At K M m H hb fr σ)(e:ay ev k fr hb=some (r,hb'))(c:Pst K W M m H fr σ r hb' Q)
  (hR:∀m1 H1 hb1 d v,Stp K M m H m1 H1 hb1->At K M m1 H1 hb1 fr σ->RelT K M m1 H1 fr σ d v->k d fr hb1=some (r,hb')->Pst K W M m1 H1 fr σ r hb' Q->R v H1):tE K W ev σ H R:=by
 unfold ay at e
 split at e
 .rename_i d hb1 e1
  exact b3 a e1 λm1 H1 s1 v rv=>hR m1 H1 hb1 d v s1 (a.step s1) rv e (c.step s1)
 .rename_i x hb1 e1
  cases e
  exact b3 a e1 λm1 H1 s1=>c m1 H1 s1
 .cases e
theorem bT{ev1:Ev}{k:D->Ev}(h:tE K W (ay ev1 k) σ H Q){R:V->Hp->Prop}
  (hR:∀{M m hb fr x vx H2 r hb'},At K M m H2 hb fr σ->RelT K M m H2 fr σ x vx->k x fr hb=some (r,hb')->Pst K W M m H2 fr σ r hb' Q->R vx H2):tE K W ev1 σ H R:=by
 obtain⟨M,m,hb,fr,r,hb',a,e,c⟩:=dh h
 exact cp a e c λm1 H1 hb1 d v s1 a1 rv e1 c1=>hR a1 rv e1 c1
theorem c9{ev1 ev2:Ev}{k:D->D->Ev}(h:tE K W (ay ev1 λx=>ay ev2 λy=>k x y) σ H Q){R:V->V->Hp->Prop}
  (hR:∀{M m hb fr x y vx vy H2 r hb'},At K M m H2 hb fr σ->RelT K M m H2 fr σ x vx->RelT K M m H2 fr σ y vy->k x y fr hb=some (r,hb')->Pst K W M m H2 fr σ r hb' Q->R vx vy H2) :
  tE K W ev1 σ H λv H1=>tE K W ev2 σ H1 λw H2=>R v w H2:=by
 obtain⟨M,m,hb,fr,r,hb',a,e,c⟩:=dh h
 exact cp a e c λm1 H1 hb1 d v s1 a1 rv e1 c1=>cp a1 e1 c1 λm2 H2 hb2 d2 v2 s2 a2 rv2 e2 c2=>hR a2 (rv.keep s2) rv2 e2 c2
def d8(fr:Fr)(hb:HB):D->Option (List D)
 | .lst xs=>some xs
 | .loc i=>match fr[i]? with
  | some (.ow (.lst xs))=>some xs
  | _=>none
 | .box n=>match hb[n]? with
  | some (.lst xs)=>some xs
  | _=>none
 | _=>none
theorem bc{d:D}{v:V}{xs:List D}(a:At K M m H hb fr σ)(r:RelT K M m H fr σ d v)(e:d8 fr hb d=some xs):∃p vs,v=.ref p/\H p=some (.lst vs)/\RelDs K (Bd M m) m H xs vs:=by
 unfold d8 at e
 split at e
 .cases e
  have r':RelD K (Bd M m) m H (.lst xs) v:=r
  unfold RelD at r'
  obtain⟨p,vs,e,⟨f,_⟩,r⟩:=r'
  exact⟨p,vs,e,f,r⟩
 .rename_i i
  split at e
  .rename_i ys e1
   cases e
   obtain⟨_,e2⟩:=r
   obtain⟨x,e3,p,e4,_,_,vs,e5,e6⟩:=a.fr.2 i _ e1
   rw[e3] at e2
   cases e2
   cases e4
   exact⟨p,vs,rfl,e5,e6⟩
  .cases e
 .rename_i n
  split at e
  .rename_i ys e1
   cases e
   have r':RelD K (Bd M m) m H (.box n) v:=r
   unfold RelD at r'
   obtain⟨p,e2,e3⟩:=r'
   obtain⟨vs,e5,e6⟩:=a.wd.ob n p _ e3 e1
   exact⟨p,vs,e2,e5,e6⟩
  .cases e
 .cases e
theorem bz{v:V}{xs:List D}(r:RelT K M m H fr σ (.tup xs) v):∃p vs,v=.ref p/\SqT K H p vs/\RelDs K (Bd M m) m H xs vs:=by
 have r':RelD K (Bd M m) m H (.tup xs) v:=r
 unfold RelD at r'
 obtain⟨p,vs,e,f,r⟩:=r'
 exact⟨p,vs,e,.of f.1,r⟩
theorem gi{v:V}{xs:List D}(r:RelT K M m H fr σ (.tup xs) v):∃p vs,v=.ref p/\H p=some (.tup vs)/\¬Bd M m p/\RelDs K (Bd M m) m H xs vs:=by
 have r':RelD K (Bd M m) m H (.tup xs) v:=r
 unfold RelD at r'
 obtain⟨p,vs,e,f,r⟩:=r'
 exact⟨p,vs,e,f.1,f.2,r⟩
theorem c8{v:V}{xs:List D}(r:RelT K M m H fr σ (.fz xs) v):∃p vs,v=.ref p/\SqL K H p vs/\RelDs K (Bd M m) m H xs vs:=by
 have r':RelD K (Bd M m) m H (.fz xs) v:=r
 unfold RelD at r'
 obtain⟨p,vs,e,f,r⟩:=r'
 refine⟨p,vs,e,?_,r⟩
 rcases f with ⟨f,_⟩|f
 .exact .inl f
 .exact .inr f
theorem ao{v:V}{i:Int}(r:RelT K M m H fr σ (.int i) v):v=.int i:=by
 have r':RelD K (Bd M m) m H (.int i) v:=r
 unfold RelD at r'; exact r'
theorem az{v:V}{x:List Char}(r:RelT K M m H fr σ (.str x) v):v=.str (au x):=by
 have r':RelD K (Bd M m) m H (.str x) v:=r
 unfold RelD at r'; exact r'
theorem fR{v:V}{b:Bool}(r:RelT K M m H fr σ (.bl b) v):v=.bl b:=by
 have r':RelD K (Bd M m) m H (.bl b) v:=r
 unfold RelD at r'; exact r'
theorem rj{v:V}(r:RelT K M m H fr σ .non v):v=.non:=by
 have r':RelD K (Bd M m) m H .non v:=r
 unfold RelD at r'; exact r'
theorem fC{i:Int}:RelT K M m H fr σ (.int i) (.int i):=by show RelD _ _ _ _ _ _; unfold RelD; rfl
theorem kW{x:List Char}:RelT K M m H fr σ (.str x) (.str (au x)):=by show RelD _ _ _ _ _ _; unfold RelD; rfl
theorem rBl{b:Bool}:RelT K M m H fr σ (.bl b) (.bl b):=by show RelD _ _ _ _ _ _; unfold RelD; rfl
/-- not a loc -/
def D.isVal:D->Bool
 | .loc _=>false
 | _=>true
theorem RelT.val{d:D}{v:V}(r:RelT K M m H fr σ d v)(h:d.isVal=true):RelD K (Bd M m) m H d v:=by
 cases d with
 | loc i=>cases h
 | _=>exact r
theorem RelD.isVal{B:Addr->Prop}{d:D}{v:V}(r:RelD K B m H d v):d.isVal=true:=by
 cases d with
 | loc i=>unfold RelD at r; exact r.elim
 | _=>rfl
theorem RelD.t{d:D}{v:V}(r:RelD K (Bd M m) m H d v):RelT K M m H fr σ d v:=by
 cases d with
 | loc i=>unfold RelD at r; exact r.elim
 | _=>exact r
def av(ds:List D):Bool:=ds.all D.isVal
theorem RelTs.val:∀{ds:List D} {vs:List V},RelTs K M m H fr σ ds vs->av ds=true->RelDs K (Bd M m) m H ds vs
 | [],vs,r,_=>by
  have r':vs=[]:=r
  subst r'
  exact RelDs.nil'
 | d::ds,vs,r,h=>by
  obtain⟨v,w,e,h1,h2⟩:=r
  have h':=(Bool.and_eq_true_iff.mp (show(d.isVal && av ds)=true from h))
  subst e
  exact RelDs.cons (h1.val h'.1) (RelTs.val h2 h'.2)
theorem b6(a:Wd K M m H hb){p:Addr}(hp:H p=none):¬Bd M m p:=λz=>by
 rcases z with z|z
 .obtain⟨u,hu⟩:=a.mt p z
  rw[hp] at hu; cases hu
 .obtain⟨u,hu⟩:=a.there z
  rw[hp] at hu; cases hu
/-- a new list,a new tuple -/
theorem rm{xs:List D}{vs:List V}{p:Addr}(a:Wd K M m H hb)(hp:H p=none)(r:RelDs K (Bd M m) m H xs vs):RelT K M m (upd H p (.lst vs)) fr σ (.lst xs) (.ref p):=by
 have s:=a.laid (o:=.lst vs) hp
 show RelD _ _ _ _ _ _
 unfold RelD
 exact⟨p,vs,rfl,⟨upd_same,b6 a hp⟩,r.keep s.keeps⟩
theorem jo{xs:List D}{vs:List V}{p:Addr}(a:Wd K M m H hb)(hp:H p=none)(r:RelDs K (Bd M m) m H xs vs):RelT K M m (upd H p (.tup vs)) fr σ (.tup xs) (.ref p):=by
 have s:=a.laid (o:=.tup vs) hp
 show RelD _ _ _ _ _ _
 unfold RelD
 exact⟨p,vs,rfl,⟨upd_same,b6 a hp⟩,r.keep s.keeps⟩
theorem Pst.lst{xs:List D}{vs:List V}{p:Addr}(c:Pst K W M m H fr σ (.ok (.lst xs)) hb Q)(a:At K M m H hb fr σ)(hp:H p=none)(r:RelDs K (Bd M m) m H xs vs):Q (.ref p) (upd H p (.lst vs)) :=
 c m _ (a.wd.laid hp) _ (rm a.wd hp r)
theorem Pst.tup{xs:List D}{vs:List V}{p:Addr}(c:Pst K W M m H fr σ (.ok (.tup xs)) hb Q)(a:At K M m H hb fr σ)(hp:H p=none)(r:RelDs K (Bd M m) m H xs vs):Q (.ref p) (upd H p (.tup vs)) :=
 c m _ (a.wd.laid hp) _ (jo a.wd hp r)
end
def am(g:D->D->Ev)(a b:Ev):Ev:=ay a λx=>ay b λy=>g x y
def iY(X:Cx)(W:WX)(r:R2)(g:D->D->Ev):Prop:=∀{M:Addr->Prop} {m:List Addr} {hb:HB} {fr:Fr} {σ:St} {H:Hp} {x y:D} {vx vy:V} {res:R} {hb':HB} {Q:VK},
 At X.K M m H hb fr σ->RelT X.K M m H fr σ x vx->RelT X.K M m H fr σ y vy->g x y fr hb=some (res,hb')->Pst X.K W M m H fr σ res hb' Q->r vx vy H Q
section
variable {X:Cx} {W:WX} {a b:Expr} {eva evb:Ev} {pos:Pos}
theorem lf{op:Operator}{r:R2}{g:D->D->Ev}(ho:OpR X (binaryOp op) r)(hs:iY X W r g)(ha:SE X W a eva)(hb:SE X W b evb):SE X W (.BinOp a op b pos) (am g eva evb) :=
 PE.mono (pe_op ho ha hb) λ_ _ _ h=>c9 h λat_ rx ry e c=>hs at_ rx ry e c
theorem nS{op:CmpOp}{r:R2}{g:D->D->Ev}(ho:OpR X (compareOp op) r)(hs:iY X W r g)(ha:SE X W a eva)(hb:SE X W b evb)(hm:behindInMarks op b=false):SE X W (.Compare a [op] [b] pos) (am g eva evb) :=
 PE.mono (pe_cmpR ho ha hb hm) λ_ _ _ h=>c9 h λat_ rx ry e c=>hs at_ rx ry e c
theorem vz{r:R2}{g:D->D->Ev}(ho:IxR X r)(hs:iY X W r g)(ha:SE X W a eva)(hb:SE X W b evb)(hp:PlainIx b:=by first|exact λ_ _=>rfl|intro _ _; rfl):SE X W (.Subscript a b pos) (am g eva evb) :=
 PE.mono (pe_ix ho ha hb hp) λ_ _ _ h=>c9 h λat_ rx ry e c=>hs at_ rx ry e c
theorem OpR.or{f:Value->Value->Sem Value}{r r':R2}(h:OpR X f r)(h':OpR X f r'):OpR X f (λx y H Q=>r x y H Q\/r' x y H Q):=by
 intro pins s σ H x y v u Q I rx ry q
 rcases q with q|q
 .exact h pins s σ H x y v u Q I rx ry q
 .exact h' pins s σ H x y v u Q I rx ry q
theorem IxR.or{r r':R2}(h:IxR X r)(h':IxR X r'):IxR X (λx y H Q=>r x y H Q\/r' x y H Q):=by
 intro value slice pins s σ H x y v u Q I rx ry q hs
 rcases q with q|q
 .exact h value slice pins s σ H x y v u Q I rx ry q hs
 .exact h' value slice pins s σ H x y v u Q I rx ry q hs
def szL:Nat:=16777216
/-- x+y -/
def cJ:D->D->Ev:=λx y fr hb=>match x,y with
 | .int i,.int j=>some (.ok (.int (i+j)),hb)
 | .str s,.str t=>if s.length+t.length<=szL then some (.ok (.str (s++t)),hb) else none
 | .tup xs,.tup ys=>if xs.length+ys.length<=szL then some (.ok (.tup (xs++ys)),hb) else none
 | x,y=>match d8 fr hb x,d8 fr hb y with
  | some xs,some ys=>if xs.length+ys.length<=szL then some (.ok (.lst (xs++ys)),hb) else none
  | _,_=>none
theorem bd:szL=sizeLine:=by rw[sizeLine_eq]; rfl
end
end
section
theorem d4(a b:List Char):au a++au b=au (a++b):=by
 show(⟨_++_⟩:Str)=_
 unfold au
 rw[List.map_append]
 simp
theorem aJ(a:List Char):(au a).length=a.length:=by
 show((a.map Char.toNat).toArray).size=_
 simp
theorem Char.toNat_inj{a b:Char}(h:a.toNat=b.toNat):a=b:=by
 apply Char.ext
 apply UInt32.toNat_inj.mp
 exact h
theorem ci:∀{a b:List Char},a.map Char.toNat=b.map Char.toNat->a=b
 | [],[],_=>rfl
 | [],_::_,h=>by simp at h
 | _::_,[],h=>by simp at h
 | x::a,y::b,h=>by
  rw[List.map_cons,List.map_cons] at h
  injection h with h1 h2
  rw[Char.toNat_inj h1,ci h2]
theorem kc{a b:List Char}(h:au a=au b):a=b:=by
 unfold au at h
 injection h with h
 exact ci (by simpa using congrArg Array.toList h)
theorem ej(s:String):Str.ofString s=au s.toList:=Str.ofString_eq_toList s
theorem qW(c:Char):c.toNat<0x110000:=by
 have h:=c.valid
 simp only[UInt32.isValidChar,Nat.isValidChar] at h
 have:c.toNat=c.val.toNat:=rfl
 omega
section
variable {X:Cx} {W:WX}
theorem sD:iY X W (λx y H Q=>rI0 (λi j=>V.int (i+j)) x y H Q\/(∃i j,x=V.str i/\y=V.str j/\i.length+j.length<=sizeLine/\Q (V.str (i++j)) H)\/rCatA X.K x y H Q\/rCat x y H Q) cJ:=by
 intro M m hb fr σ H x y vx vy res hb' Q a rx ry e c
 unfold cJ at e
 split at e
 .cases e
  rw[ao rx,ao ry]
  exact .inl ⟨_,_,rfl,rfl,c.done a fC⟩
 .split at e
  .rename_i hz
   cases e
   rw[az rx,az ry]
   refine .inr (.inl ⟨_,_,rfl,rfl,?_,?_⟩)
   .rw[aJ,aJ,<-bd]; exact hz
   .rw[d4]
    exact c.done a kW
  .cases e
 .split at e
  .rename_i xs ys hz
   cases e
   obtain⟨p,vs,rfl,f1,r1⟩:=bz rx
   obtain⟨q,ws,rfl,f2,r2⟩:=bz ry
   refine .inr (.inr (.inl ⟨p,q,vs,ws,rfl,rfl,f1,f2,?_,λh=> ?_,λh1 h2=> ?_,λh1 h2 pp hp=> ?_⟩))
   .rw[<-r1.length,<-r2.length,<-bd]; exact hz
   .subst h
    have:xs=[]:=List.eq_nil_of_length_eq_zero (by rw[r1.length]; rfl)
    subst this
    exact c.done a ry
   .subst h2
    have:ys=[]:=List.eq_nil_of_length_eq_zero (by rw[r2.length]; rfl)
    subst this
    rw[List.append_nil] at c
    exact c.done a rx
   .exact c.tup a hp (r1.append r2)
  .cases e
 .split at e
  .rename_i xs ys e1 e2
   split at e
   .rename_i hz
    cases e
    obtain⟨p,vs,rfl,f1,r1⟩:=bc a rx e1
    obtain⟨q,ws,rfl,f2,r2⟩:=bc a ry e2
    exact .inr (.inr (.inr ⟨p,q,vs,ws,rfl,rfl,f1,f2,by rw[<-r1.length,<-r2.length,<-bd]; exact hz,λpp hp=>c.lst a hp (r1.append r2)⟩))
   .cases e
  .cases e
theorem bB{a b:Expr}{eva evb:Ev}{pos:Pos}(ha:SE X W a eva)(hb:SE X W b evb):SE X W (.BinOp a .Add b pos) (am cJ eva evb) :=
 lf (OpR.or op_add (OpR.or op_add_str (OpR.or op_catA op_cat))) sD ha hb
def n9:D->D->Ev:=λx y fr hb=>match x,y with
 | .int i,.int j=>some (.ok (.int (i - j)),hb)
 | _,_=>none
theorem sJ:iY X W (rI0 λi j=>V.int (i - j)) n9:=by
 intro M m hb fr σ H x y vx vy res hb' Q a rx ry e c
 unfold n9 at e
 split at e
 .cases e
  rw[ao rx,ao ry]
  exact⟨_,_,rfl,rfl,c.done a fC⟩
 .cases e
theorem hU{a b:Expr}{eva evb:Ev}{pos:Pos}(ha:SE X W a eva)(hb:SE X W b evb):SE X W (.BinOp a .Sub b pos) (am n9 eva evb):=lf op_sub sJ ha hb
def gF:D->D->Ev:=λx y fr hb=>match x,y with
 | .int i,.int j=>if 0<j then some (.ok (.int (i % j)),hb) else none
 | _,_=>none
theorem rh:iY X W (rI (λx j=>0<j) λi j=>V.int (i % j)) gF:=by
 intro M m hb fr σ H x y vx vy res hb' Q a rx ry e c
 unfold gF at e
 split at e
 .split at e
  .rename_i h
   cases e
   rw[ao rx,ao ry]
   exact⟨_,_,rfl,rfl,h,c.done a fC⟩
  .cases e
 .cases e
theorem fL{a b:Expr}{eva evb:Ev}{pos:Pos}(ha:SE X W a eva)(hb:SE X W b evb):SE X W (.BinOp a .Mod b pos) (am gF eva evb):=lf op_mod rh ha hb
def jL:D->D->Ev:=λx y fr hb=>match x,y with
 | .int i,.int j=>if 0<j/\j<1073741824 then some (.ok (.int (i / j)),hb) else none
 | _,_=>none
theorem l6{a b:Expr}{eva evb:Ev}{pos:Pos}(ha:SE X W a eva)(hb:SE X W b evb):SE X W (.BinOp a .FloorDiv b pos) (am jL eva evb):=by
 refine lf op_fdiv ?_ ha hb
 intro M m hb fr σ H x y vx vy res hb' Q a rx ry e c
 unfold jL at e
 split at e
 .split at e
  .rename_i h
   cases e
   rw[ao rx,ao ry]
   exact⟨_,_,rfl,rfl,h,c.done a fC⟩
  .cases e
 .cases e
def ve:D->D->Ev:=λx y fr hb=>match x,y with
 | .int i,.int j=>if 0<=j/\j<=1000000/\i.natAbs<2 ^ 64 then some (.ok (.int (i ^ j.toNat)),hb) else none
 | _,_=>none
theorem um{a b:Expr}{eva evb:Ev}{pos:Pos}(ha:SE X W a eva)(hb:SE X W b evb):SE X W (.BinOp a .Pow b pos) (am ve eva evb):=by
 refine lf op_pow ?_ ha hb
 intro M m hb fr σ H x y vx vy res hb' Q a rx ry e c
 unfold ve at e
 split at e
 .split at e
  .rename_i h
   cases e
   rw[ao rx,ao ry]
   exact⟨_,_,rfl,rfl,h,c.done a fC⟩
  .cases e
 .cases e
def d5:D->D->Ev:=λx y fr hb=>match x,y with
 | .int i,.int j=>if (-(2 ^ 64)<i/\i<2 ^ 64)\/(-(2 ^ 64)<j/\j<2 ^ 64) then some (.ok (.int (i * j)),hb) else none
 | .str s,.int n=>if 0<=n/\n<=szL/\s.length * n.toNat<=szL then some (.ok (.str (List.replicate n.toNat s).flatten),hb) else none
 | x,.int n=>match d8 fr hb x with
  | some xs=>if 0<=n/\n<=szL/\xs.length * n.toNat<=szL then some (.ok (.lst (List.replicate n.toNat xs).flatten),hb) else none
  | none=>none
 | _,_=>none
theorem iQ(l:List Nat):∀(k:Nat) (acc:Array Nat),(List.replicate k l.toArray).foldl (· ++·) acc=acc++((List.replicate k l).flatten).toArray
 | 0,acc=>by simp
 | k+1,acc=>by
  rw[List.replicate_succ,List.foldl_cons,iQ l k,List.replicate_succ,List.flatten_cons]
  simp
theorem nD(s:List Char):∀k:Nat,(List.replicate k (s.map Char.toNat)).flatten=((List.replicate k s).flatten).map Char.toNat
 | 0=>rfl
 | k+1=>by rw[List.replicate_succ,List.flatten_cons,nD s k,List.replicate_succ,List.flatten_cons,List.map_append]
theorem kx{α:Type}(l:List α):∀k:Nat,(List.replicate k l).flatten.length=l.length * k
 | 0=>rfl
 | k+1=>by rw[List.replicate_succ,List.flatten_cons,List.length_append,kx l k,Nat.mul_succ,Nat.add_comm]
theorem kM{n:Nat}(h:n<=16777216):Builtin.Str.tooLong n=false:=by
 unfold Builtin.Str.tooLong
 rw[sizeLine_eq]
 exact decide_eq_false (by omega)
/-- text * n -/
theorem lC:OpR X (binaryOp .Mult) (λx y H Q=>∃(s:List Char) (n:Int),x=V.str (au s)/\y=V.int n/\0<=n/\n<=szL/\s.length * n.toNat<=szL/\Q (V.str (au (List.replicate n.toNat s).flatten)) H):=by
 intro pins s σ H x y v u Q I rx ry h
 obtain⟨z,n,rfl,rfl,h0,h1,h2,q⟩:=h
 obtain⟨t,rfl⟩:=rx
 obtain⟨t',rfl⟩:=ry
 have hz:(au z).length=z.length:=aJ z
 have e1:(n:Int)<=16777216:=h1
 refine P.mul_str (by
  have a1:¬n< -(2 ^ 63:Int):=by omega
  have a2:¬n ≥ 2 ^ 63:=by omega
  rw[decide_eq_false a1,decide_eq_false a2]<;>rfl) (λhn hb=> ?_) (λhn hb=> ?_) ?_
 .rw[hz]
  have hle:(z.length:Int) * n<=16777216:=by
   have h3:z.length * n.toNat<=16777216:=h2
   have h4:((z.length * n.toNat:Nat):Int)<=16777216:=Int.ofNat_le.mpr h3
   rw[Int.natCast_mul,Int.toNat_of_nonneg h0] at h4
   exact h4
  intro hgt
  have hpos:0<n:=by omega
  have:(z.length:Int)<=(2 ^ 63 - 1) / n:=Int.le_ediv_of_mul_le hpos (by omega)
  omega
 .rw[hz]
  have:z.length * n.toNat<=16777216:=h2
  exact kM this
 .by_cases c1:n<1
  .rw[if_pos c1]
   have:n=0:=by omega
   subst this
   have e:(au (List.replicate (0:Int).toNat z).flatten)=Str.empty:=by rfl
   rw[e] at q
   exact⟨by decide,⟨.str Str.empty,H,I.tok _,⟨_,rfl⟩,q⟩⟩
  .rw[if_neg c1]
   by_cases c2:(n == 1 || (au z).length == 0)=true
   .rw[if_pos c2]
    have e:au (List.replicate n.toNat z).flatten=au z:=by
     rcases Bool.or_eq_true_iff.mp c2 with c|c
     .have:n=1:=by simpa using c
      subst this
      show au (List.replicate 1 z).flatten=_
      simp
     .have:z=[]:=List.eq_nil_of_length_eq_zero (by rw[<-aJ]; simpa using c)
      subst this
      simp
    rw[e] at q
    exact⟨.str (au z),H,I,⟨_,rfl⟩,q⟩
   .rw[if_neg c2]
    have e:(⟨(List.replicate n.toNat (au z).cps).foldl (· ++·) #[]⟩:Str)=au (List.replicate n.toNat z).flatten:=by
     unfold au
     rw[iQ,nD]
     simp
    rw[e]
    refine⟨?_,⟨.str _,H,I.tok _,⟨_,rfl⟩,q⟩⟩
    show(au (List.replicate n.toNat z).flatten).length<=_
    rw[aJ,kx]
    exact h2
end
end
section
mutual
def D.py:D->PyData
 | .non=>.none
 | .bl b=>.bool b
 | .int i=>.int i
 | .str x=>.str (au x)
 | .tup xs=>.tuple (D.pys xs)
 | .lst xs=>.list (D.pys xs)
 | .fz xs=>.list (D.pys xs)
 | _=>.none
def D.pys:List D->List PyData
 | []=>[]
 | x::xs=>D.py x::D.pys xs
end
theorem nZ:∀xs:List D,D.pys xs=xs.map D.py
 | []=>by simp[D.pys]
 | x::xs=>by simp[D.pys,nZ xs]
/-- data of at most this depth -/
def dat:Nat->D->Bool
 | _,.non=>true
 | _,.bl _=>true
 | _,.int _=>true
 | _,.str _=>true
 | n+1,.tup xs=>xs.all (dat n)
 | n+1,.lst xs=>xs.all (dat n)
 | n+1,.fz xs=>xs.all (dat n)
 | _,_=>false
def deq(d e:D):Bool:=PyData.eqv d.py e.py
mutual
theorem jw:∀(n:Nat) (d:D),dat n d=true->d.py.canLay0=true/\d.py.depth<=n
 | n,.non,h=>by simp[D.py,PyData.canLay0,PyData.depth]
 | n,.bl b,h=>by simp[D.py,PyData.canLay0,PyData.depth]
 | n,.int i,h=>by simp[D.py,PyData.canLay0,PyData.depth]
 | n,.str x,h=>by
  refine⟨?_,by simp[D.py,PyData.depth]⟩
  simp only[D.py,PyData.canLay0]
  unfold PyData.strOk au
  simp only[List.all_toArray,List.all_map,List.all_eq_true]
  intro c _
  simpa using qW c
 | 0,.tup xs,h=>by simp[dat] at h
 | n+1,.tup xs,h=>by
  have z:=d0 n xs (by simpa [dat] using h)
  simp only[D.py,PyData.canLay0,PyData.depth]
  exact⟨z.1,by omega⟩
 | 0,.lst xs,h=>by simp[dat] at h
 | n+1,.lst xs,h=>by
  have z:=d0 n xs (by simpa [dat] using h)
  simp only[D.py,PyData.canLay0,PyData.depth]
  exact⟨z.1,by omega⟩
 | 0,.fz xs,h=>by simp[dat] at h
 | n+1,.fz xs,h=>by
  have z:=d0 n xs (by simpa [dat] using h)
  simp only[D.py,PyData.canLay0,PyData.depth]
  exact⟨z.1,by omega⟩
 | n,.dct _ _,h=>by cases n<;>simp[dat] at h
 | n,.ins _ _ _,h=>by cases n<;>simp[dat] at h
 | n,.box _,h=>by cases n<;>simp[dat] at h
 | n,.loc _,h=>by cases n<;>simp[dat] at h
 | n,.rf _,h=>by cases n<;>simp[dat] at h
 | n,.ty _,h=>by cases n<;>simp[dat] at h
 | n,.xo _ _ _ _ _,h=>by cases n<;>simp[dat] at h
 | n,.ob,h=>by cases n<;>simp[dat] at h
 | n,.xv _ _ _,h=>by cases n<;>simp[dat] at h
 | n,.lk _ _,h=>by cases n<;>simp[dat] at h
 | n,.wd _ _,h=>by cases n<;>simp[dat] at h
theorem d0:∀(n:Nat) (xs:List D),(∀x∈xs,dat n x=true)->PyData.canLayAll0 (D.pys xs)=true/\PyData.depthAll (D.pys xs)<=n
 | n,[],_=>by simp[D.pys,PyData.canLayAll0,PyData.depthAll]
 | n,x::xs,h=>by
  have h1:=jw n x (h x List.mem_cons_self)
  have h2:=d0 n xs λy hy=>h y (List.mem_cons_of_mem _ hy)
  simp only[D.pys,PyData.canLayAll0,PyData.depthAll,h1.1,h2.1,Bool.and_self,true_and]
  exact Nat.max_le.mpr ⟨h1.2,h2.2⟩
end
theorem aP{d:D}(h:dat 64 d=true):SeqAt.shaped d.py=true:=by
 obtain⟨h1,h2⟩:=jw 64 d h
 unfold SeqAt.shaped
 rw[h1,decide_eq_true h2]; rfl
/-- the object that a loc or a box is,if it is a list -/
def rz(fr:Fr)(hb:HB)(d:D):D:=match d with
 | .loc i=>match d8 fr hb (.loc i) with
  | some xs=>.lst xs
  | none=>.loc i
 | .box n=>match d8 fr hb (.box n) with
  | some xs=>.lst xs
  | none=>.box n
 | d=>d
section
variable {K:PySem.W.Frag} {W:WX} {M:Addr->Prop} {m m':List Addr} {H H':Hp} {hb hb':HB} {fr:Fr} {σ:St} {Q:VK}
mutual
theorem rA:∀(n:Nat) (d:D) (v:V),dat n d=true->RelD K (Bd M m) m H d v->Dp K H v d.py
 | n,.non,v,_,r=>by unfold RelD at r; subst r; simp only[D.py]; exact .non
 | n,.bl b,v,_,r=>by unfold RelD at r; subst r; simp only[D.py]; exact .bl b
 | n,.int i,v,_,r=>by unfold RelD at r; subst r; simp only[D.py]; exact .int i
 | n,.str x,v,_,r=>by unfold RelD at r; subst r; simp only[D.py]; exact .str _
 | 0,.tup xs,v,h,_=>by simp[dat] at h
 | n+1,.tup xs,v,h,r=>by
  obtain⟨p,vs,rfl,f,r⟩:=bz (fr:=[]) (σ:=[]) r
  simp only[D.py]
  exact .tup f (cZ n xs vs (by simpa [dat] using h) r)
 | 0,.lst xs,v,h,_=>by simp[dat] at h
 | n+1,.lst xs,v,h,r=>by
  unfold RelD at r
  obtain⟨p,vs,rfl,f,r⟩:=r
  simp only[D.py]
  exact .lst (.of f.1) (cZ n xs vs (by simpa [dat] using h) r)
 | 0,.fz xs,v,h,_=>by simp[dat] at h
 | n+1,.fz xs,v,h,r=>by
  obtain⟨p,vs,rfl,f,r⟩:=c8 (fr:=[]) (σ:=[]) r
  simp only[D.py]
  exact .lst f (cZ n xs vs (by simpa [dat] using h) r)
 | n,.dct _ _,_,h,_=>by cases n<;>simp[dat] at h
 | n,.ins _ _ _,_,h,_=>by cases n<;>simp[dat] at h
 | n,.box _,_,h,_=>by cases n<;>simp[dat] at h
 | n,.loc _,_,h,_=>by cases n<;>simp[dat] at h
 | n,.rf _,_,h,_=>by cases n<;>simp[dat] at h
 | n,.ty _,_,h,_=>by cases n<;>simp[dat] at h
 | n,.xo _ _ _ _ _,_,h,_=>by cases n<;>simp[dat] at h
 | n,.ob,_,h,_=>by cases n<;>simp[dat] at h
 | n,.xv _ _ _,_,h,_=>by cases n<;>simp[dat] at h
 | n,.lk _ _,_,h,_=>by cases n<;>simp[dat] at h
 | n,.wd _ _,_,h,_=>by cases n<;>simp[dat] at h
theorem cZ:∀(n:Nat) (xs:List D) (vs:List V),(∀x∈xs,dat n x=true)->RelDs K (Bd M m) m H xs vs->DpAll K H vs (D.pys xs)
 | n,[],vs,_,r=>by unfold RelDs at r; subst r; simp only[D.pys]; exact .nil
 | n,x::xs,vs,h,r=>by
  obtain⟨v,w,rfl,r1,r2⟩:=RelDs.cons_inv r
  simp only[D.pys]
  exact .cons (rA n x v (h x List.mem_cons_self) r1) (cZ n xs w (λy hy=>h y (List.mem_cons_of_mem _ hy)) r2)
end
/-- data,also of a loc or a box -/
theorem gA{n:Nat}{d:D}{v:V}(a:At K M m H hb fr σ)(r:RelT K M m H fr σ d v)(h:dat n (rz fr hb d)=true):Dp K H v (rz fr hb d).py:=by
 cases d with
 | loc i =>
  simp only[rz] at h ⊢
  cases e:d8 fr hb (.loc i) with
  | none=>rw[e] at h; cases n<;>simp[dat] at h
  | some xs =>
   rw[e] at h
   dsimp only at h ⊢
   obtain⟨p,vs,rfl,f,r'⟩:=bc a r e
   cases n with
   | zero=>simp[dat] at h
   | succ n =>
    simp only[D.py]
    exact .lst (.of f) (cZ n xs vs (by simpa [dat] using h) r')
 | box i =>
  simp only[rz] at h ⊢
  cases e:d8 fr hb (.box i) with
  | none=>rw[e] at h; cases n<;>simp[dat] at h
  | some xs =>
   rw[e] at h
   dsimp only at h ⊢
   obtain⟨p,vs,rfl,f,r'⟩:=bc a r e
   cases n with
   | zero=>simp[dat] at h
   | succ n =>
    simp only[D.py]
    exact .lst (.of f) (cZ n xs vs (by simpa [dat] using h) r')
 | _=>exact rA (M:=M) (m:=m) n _ _ h r
end
section
variable {X:Cx} {W:WX} {a b:Expr} {eva evb:Ev} {pos:Pos}
def gEq:D->D->Ev:=λx y fr hb=>if dat 64 (rz fr hb x) && dat 64 (rz fr hb y) then some (.ok (.bl (deq (rz fr hb x) (rz fr hb y))),hb) else none
def gNe:D->D->Ev:=λx y fr hb=>if dat 64 (rz fr hb x) && dat 64 (rz fr hb y) then some (.ok (.bl (!deq (rz fr hb x) (rz fr hb y))),hb) else none
theorem fX{k:Nat}(hr:Room k X.A)(ha:SE X W a eva)(hb:SE X W b evb):SE X W (.Compare a [.Eq] [b] pos) (am gEq eva evb):=by
 refine nS (op_eqD hr.units) ?_ ha hb (nobehind _ (by decide) (by decide))
 intro M m hb fr σ H x y vx vy res hb' Q at_ rx ry e c
 unfold gEq at e
 split at e
 .rename_i h
  obtain⟨h1,h2⟩:=Bool.and_eq_true_iff.mp h
  cases e
  exact⟨_,_,gA at_ rx h1,gA at_ ry h2,aP h1,aP h2,c.done at_ rBl⟩
 .cases e
theorem vw{k:Nat}(hr:Room k X.A)(ha:SE X W a eva)(hb:SE X W b evb):SE X W (.Compare a [.NotEq] [b] pos) (am gNe eva evb):=by
 refine nS (op_neD hr.units) ?_ ha hb (nobehind _ (by decide) (by decide))
 intro M m hb fr σ H x y vx vy res hb' Q at_ rx ry e c
 unfold gNe at e
 split at e
 .rename_i h
  obtain⟨h1,h2⟩:=Bool.and_eq_true_iff.mp h
  cases e
  exact⟨_,_,gA at_ rx h1,gA at_ ry h2,aP h1,aP h2,c.done at_ rBl⟩
 .cases e
end
end
section
section
variable {X:Cx} {W:WX} {a b c:Expr} {eva evb evc:Ev} {pos:Pos}
def jM(xs:List D)(d:D):Bool:=xs.any λz=>deq z d
def dS(fr:Fr)(hb:HB):D->Option (List D)
 | .tup xs=>some xs
 | .fz xs=>some xs
 | d=>d8 fr hb d
def gIn(neg:Bool):D->D->Ev:=λx y fr hb=>match x,y with
 | .str [ch],.str t=>some (.ok (.bl (neg != decide (ch∈t))),hb)
 | x,y=>match dS fr hb y with
  | some ys=>if dat 64 x && ys.all (dat 63) then some (.ok (.bl (neg != jM ys x)),hb) else none
  | none=>none
def v3(K:PySem.W.Frag)(neg:Bool):R2:=λx y H Q=>∃d ds,Dp K H x d/\(Dp K H y (.list ds)\/Dp K H y (.tuple ds))/\SeqAt.shaped d=true/\SeqAt.shaped (.list ds)=true/\Q (.bl (neg != ds.any λz=>PyData.eqv z d)) H
theorem uK(hu:X.A.units+65<cLine):OpR X (compareOp .In) (v3 X.K false):=by
 intro pins s σ H x y v u Q I rx ry h
 obtain⟨d,ds,hd,he,sd,se,q⟩:=h
 obtain⟨as,r1⟩:=Dp.reads I d x v hd rx
 have q':Q (.bl (ds.any λz=>PyData.eqv z d)) H:=by simpa using q
 rcases he with he|he
 .obtain⟨bs,r2⟩:=Dp.reads I (.list ds) y u he ry
  exact SeqAt.in_list_reads r2 r1 (SeqAt.canLay_of_shaped se) (SeqAt.canLay_of_shaped sd) (room_in_shaped sd hu) ⟨.bl _,H,I,rfl,q'⟩
 .obtain⟨bs,r2⟩:=Dp.reads I (.tuple ds) y u he ry
  exact SeqAt.in_tuple_reads r2 r1 (SeqAt.canLay_of_shaped se) (SeqAt.canLay_of_shaped sd) (room_in_shaped sd hu) ⟨.bl _,H,I,rfl,q'⟩
theorem oK(ys:List D)(x:D):((D.pys ys).any λz=>PyData.eqv z x.py)=jM ys x:=by
 rw[nZ,List.any_map]; rfl
def vG(neg:Bool):R2:=λx y H Q=>∃(c:Nat) (z:Str),x=.str ⟨#[c]⟩/\y=.str z/\Q (.bl (neg != decide (c∈z.cps.toList))) H
theorem ug:OpR X (compareOp .In) (vG false):=by
 intro pins s σ H x y v u Q I rx ry h
 obtain⟨c,z,e1,e2,q⟩:=h
 exact op_in_sign pins s σ H x y v u Q I rx ry ⟨c,z,e1,e2,by simpa using q⟩
theorem oB{ch:Char}{t:List Char}:ch.toNat∈(au t).cps.toList<->ch∈t:=by
 unfold au
 rw[List.toList_toArray,List.mem_map]
 constructor
 .rintro⟨d,h1,h2⟩
  rw[<-Char.toNat_inj h2]; exact h1
 .exact λh=>⟨ch,h,rfl⟩
theorem uo(neg:Bool):iY X W (λx y H Q=>vG neg x y H Q\/v3 X.K neg x y H Q) (gIn neg):=by
 intro M m hb fr σ H x y vx vy res hb' Q a rx ry e c
 unfold gIn at e
 split at e
 .rename_i ch t
  cases e
  rw[az rx,az ry]
  refine .inl ⟨ch.toNat,_,rfl,rfl,?_⟩
  rw[decide_eq_decide.mpr (oB (ch:=ch) (t:=t))]
  exact c.done a rBl
 .split at e
  .rename_i ys e1
   split at e
   .rename_i h
    cases e
    obtain⟨h1,h2⟩:=Bool.and_eq_true_iff.mp h
    have h2':∀y∈ys,dat 63 y=true:=List.all_eq_true.mp h2
    have hx:∃vx',vx'=vx/\RelD X.K (Bd M m) m H x vx':=⟨vx,rfl,rx.val (by cases x<;>first|rfl|(simp[dat] at h1))⟩
    obtain⟨vx',rfl,rx'⟩:=hx
    have hl:SeqAt.shaped (.list (D.pys ys))=true:=by
     have:=aP (d:=.lst ys) (by simpa [dat] using h2')
     simpa [D.py] using this
    refine .inr ⟨_,D.pys ys,rA 64 x _ h1 rx',?_,aP h1,hl,?_⟩
    .unfold dS at e1
     split at e1
     .cases e1
      obtain⟨p,vs,rfl,f,r⟩:=bz ry
      exact .inr (.tup f (cZ 63 _ _ h2' r))
     .cases e1
      obtain⟨p,vs,rfl,f,r⟩:=c8 ry
      exact .inl (.lst f (cZ 63 _ _ h2' r))
     .obtain⟨p,vs,rfl,f,r⟩:=bc a ry e1
      exact .inl (.lst (.of f) (cZ 63 _ _ h2' r))
    .rw[oK]
     exact c.done a rBl
   .cases e
  .cases e
inductive Ord4 where
 | lt|le|gt|ge
def ltC(a b:List Char):Bool:=decide (a.map Char.toNat<b.map Char.toNat)
def Ord4.i:Ord4->Int->Int->Bool
 | .lt,i,j=>decide (i<j)
 | .le,i,j=>decide (i<=j)
 | .gt,i,j=>decide (j<i)
 | .ge,i,j=>decide (j<=i)
def Ord4.s:Ord4->List Char->List Char->Bool
 | .lt,i,j=>ltC i j
 | .le,i,j=> !ltC j i
 | .gt,i,j=>ltC j i
 | .ge,i,j=> !ltC i j
def Ord4.op:Ord4->CmpOp
 | .lt=>.Lt
 | .le=>.LtE
 | .gt=>.Gt
 | .ge=>.GtE
def d3(o:Ord4):D->D->Ev:=λx y fr hb=>match x,y with
 | .int i,.int j=>some (.ok (.bl (o.i i j)),hb)
 | .str i,.str j=>some (.ok (.bl (o.s i j)),hb)
 | _,_=>none
def tu(o:Ord4):R2:=λx y H Q=>(∃i j,x=V.int i/\y=V.int j/\Q (.bl (o.i i j)) H)\/(∃i j,x=V.str (au i)/\y=V.str (au j)/\Q (.bl (o.s i j)) H)
theorem iW(o:Ord4):OpR X (compareOp o.op) (tu o):=by
 intro pins s σ H x y v u Q I rx ry h
 rcases h with ⟨i,j,rfl,rfl,q⟩|⟨i,j,rfl,rfl,q⟩
 .cases o
  .exact op_lt pins s σ H _ _ v u Q I rx ry ⟨i,j,rfl,rfl,q⟩
  .exact op_le pins s σ H _ _ v u Q I rx ry ⟨i,j,rfl,rfl,q⟩
  .exact op_gt pins s σ H _ _ v u Q I rx ry ⟨i,j,rfl,rfl,q⟩
  .exact op_ge pins s σ H _ _ v u Q I rx ry ⟨i,j,rfl,rfl,q⟩
 .have q':=q
  cases o
  .exact op_lt_str pins s σ H _ _ v u Q I rx ry ⟨_,_,rfl,rfl,q⟩
  .exact op_le_str pins s σ H _ _ v u Q I rx ry ⟨_,_,rfl,rfl,q⟩
  .exact op_gt_str pins s σ H _ _ v u Q I rx ry ⟨_,_,rfl,rfl,q⟩
  .exact op_ge_str pins s σ H _ _ v u Q I rx ry ⟨_,_,rfl,rfl,q⟩
theorem f6(o:Ord4):iY X W (tu o) (d3 o):=by
 intro M m hb fr σ H x y vx vy res hb' Q a rx ry e c
 unfold d3 at e
 split at e
 .cases e
  rw[ao rx,ao ry]
  exact .inl ⟨_,_,rfl,rfl,c.done a rBl⟩
 .cases e
  rw[az rx,az ry]
  exact .inr ⟨_,_,rfl,rfl,c.done a rBl⟩
 .cases e
/-- a op b op' c -/
def iX(g g':D->D->Ev)(a b c:Ev):Ev:=ay a λx=>ay b λy=>ay (g x y) λz=>λfr hb=>match z with
 | .bl true=>ay c (λw=>g' y w) fr hb
 | .bl false=>some (.ok (.bl false),hb)
 | _=>none
theorem jm(o o':Ord4){σ:St}{H:Hp}{Q:VK}(h:tE X.K W (iX (d3 o) (d3 o') eva evb evc) σ H Q):tChain (tu o) (tu o') (tE X.K W eva) (tE X.K W evb) (tE X.K W evc) σ H Q:=by
 refine c9 h λ{M m hb fr x y vx vy H2 r hb'} at_ rx ry e cc=> ?_
 unfold ay at e
 split at e
 .rename_i z hb1 e1
  have key:hb1=hb/\∃k,z=.bl k/\((∃i j,vx=V.int i/\vy=V.int j/\k=o.i i j)\/(∃i j,vx=V.str (au i)/\vy=V.str (au j)/\k=o.s i j)):=by
   unfold d3 at e1
   split at e1
   .cases e1
    exact⟨rfl,_,rfl,.inl ⟨_,_,ao rx,ao ry,rfl⟩⟩
   .cases e1
    exact⟨rfl,_,rfl,.inr ⟨_,_,az rx,az ry,rfl⟩⟩
   .cases e1
  obtain⟨rfl,k,rfl,hk⟩:=key
  have fin:∃k',V.bl k=V.bl k'/\if k'=true then tE X.K W evc σ H2 (λw' H4=>tu o' vy w' H4 Q) else Q (V.bl false) H2:=by
   refine⟨k,rfl,?_⟩
   cases k with
   | true =>
    rw[if_pos rfl]
    exact cp at_ e cc λm1 H1 hb1 d v s1 a1 rv e2 c2=>f6 o' a1 (ry.keep s1) rv e2 c2
   | false =>
    rw[if_neg Bool.false_ne_true]
    cases e
    exact cc.done at_ rBl
  rcases hk with ⟨i,j,rfl,rfl,ek⟩|⟨i,j,rfl,rfl,ek⟩
  .exact .inl ⟨i,j,rfl,rfl,by rw[<-ek]; exact fin⟩
  .exact .inr ⟨i,j,rfl,rfl,by rw[<-ek]; exact fin⟩
 .rename_i e1
  unfold d3 at e1
  split at e1<;>cases e1
 .cases e
theorem nU(o o':Ord4)(ha:SE X W a eva)(hb:SE X W b evb)(hc:SE X W c evc)(hm:lastMarks [o.op,o'.op] [b,c]=false:=by rfl):SE X W (.Compare a [o.op,o'.op] [b,c] pos) (iX (d3 o) (d3 o') eva evb evc) :=
 PE.mono (pe_chain (iW o) (iW o') ha hb hc hm) λσ H Q h=>jm o o' h
def D.isN:D->Bool
 | .non=>true
 | _=>false
def wP(neg:Bool):D->Ev:=λx fr hb=>some (.ok (.bl (neg != x.isN)),hb)
def f7(a b:Ev):Ev:=ay a λx=>λfr hb=>match x with
 | .bl true=>b fr hb
 | .bl false=>some (.ok (.bl false),hb)
 | _=>none
def eOr(a b:Ev):Ev:=ay a λx=>λfr hb=>match x with
 | .bl true=>some (.ok (.bl true),hb)
 | .bl false=>b fr hb
 | _=>none
def lD(a:Ev):Ev:=ay a λx=>λfr hb=>match x with
 | .bl b=>some (.ok (.bl (!b)),hb)
 | _=>none
def eIf(t a b:Ev):Ev:=ay t λx=>λfr hb=>match x with
 | .bl true=>a fr hb
 | .bl false=>b fr hb
 | _=>none
variable {rest:List Expr}
theorem gU{op}(ha:SE X W a eva):SE X W (.BoolOp op [a] pos) eva:=pe_one ha
theorem db(ha:SE X W a eva)(hb:SE X W (.BoolOp .And (b::rest) pos) evb):SE X W (.BoolOp .And (a::b::rest) pos) (f7 eva evb):=by
 refine PE.mono (pe_and ha hb) λσ H Q h=>bT h λ{M m hb fr x vx H2 r hb'} at_ rx e c=> ?_
 split at e
 .rw[fR rx]; exact⟨true,rfl,b3 at_ e c⟩
 .rw[fR rx]; cases e; exact⟨false,rfl,c.done at_ rBl⟩
 .cases e
theorem ue(ha:SE X W a eva):SE X W (.UnaryOp .Not a pos) (lD eva):=by
 refine PE.mono (pe_not ha) λσ H Q h=>bT h λ{M m hb fr x vx H2 r hb'} at_ rx e c=> ?_
 split at e
 .rw[fR rx]; cases e; exact⟨_,rfl,c.done at_ rBl⟩
 .cases e
end
end
section
theorem ift{A B:Prop}(h:A):if true=true then A else B:=by rw[if_pos rfl]; exact h
theorem sX{A B:Prop}(h:B):if false=true then A else B:=by rw[if_neg Bool.false_ne_true]; exact h
section
variable {X:Cx} {W:WX} {a b c:Expr} {eva evb evc:Ev} {pos:Pos} {rest:List Expr}
def PstT(K:PySem.W.Frag)(W:WX)(M:Addr->Prop)(m:List Addr)(H:Hp)(σ:St)(r:R)(hb':HB)(Q:Bool->Hp->Prop):Prop:=∀m' H',Stp K M m H m' H' hb'->match r with
 | .ok d=>∃b,d=.bl b/\Q b H'
 | .exn x=>∀C dd,RelX K (Bd M m') m' H' x C dd->W C dd σ H'
theorem PstT.step{K:PySem.W.Frag}{W:WX}{M:Addr->Prop}{m m1:List Addr}{H H1:Hp}{σ:St}{r:R}{hb' hb1:HB}{Q:Bool->Hp->Prop}(c:PstT K W M m H σ r hb' Q)(s:Stp K M m H m1 H1 hb1):PstT K W M m1 H1 σ r hb' Q:=λm' H' s'=>c m' H' (s.trans s')
/-- the wish of a test as one of a value -/
theorem PstT.v{K:PySem.W.Frag}{W:WX}{M:Addr->Prop}{m:List Addr}{H:Hp}{fr:Fr}{σ:St}{r:R}{hb':HB}{Q:Bool->Hp->Prop}(c:PstT K W M m H σ r hb' Q):Pst K W M m H fr σ r hb' (λv H'=>∃k,v=.bl k/\Q k H'):=λm' H' s=>by
 have z:=c m' H' s
 cases r with
 | ok d =>
  obtain⟨b,rfl,q⟩:=z
  exact λv rv=>⟨b,fR rv,q⟩
 | exn x=>exact z
theorem pH{K:PySem.W.Frag}{W:WX}{ev:Ev}{σ:St}{H:Hp}{Q:Bool->Hp->Prop}(h:tT K W ev σ H Q):∃M m hb fr r hb',At K M m H hb fr σ/\ev fr hb=some (r,hb')/\PstT K W M m H σ r hb' Q:=by
 obtain⟨M,m,hb,fr,r,hb',w,f,e,c⟩:=h
 exact⟨M,m,hb,fr,r,hb',⟨w,f⟩,e,c⟩
theorem tz{K:PySem.W.Frag}{W:WX}{M:Addr->Prop}{m:List Addr}{H:Hp}{hb hb':HB}{fr:Fr}{σ:St}{r:R}{ev:Ev}{Q:Bool->Hp->Prop}(a:At K M m H hb fr σ)(e:ev fr hb=some (r,hb'))(c:PstT K W M m H σ r hb' Q):tT K W ev σ H Q:=⟨M,m,hb,fr,r,hb',a.wd,a.fr,e,c⟩
/-- a test by the value's rule -/
theorem wH{K:PySem.W.Frag}{W:WX}{ev:Ev}{σ:St}{H:Hp}{Q:Bool->Hp->Prop}(h:tT K W ev σ H Q):tE K W ev σ H (λv H'=>∃k,v=.bl k/\Q k H'):=by
 obtain⟨M,m,hb,fr,r,hb',a,e,c⟩:=pH h
 exact b3 a e c.v
theorem fg{op:CmpOp}{r:R2}{g:D->D->Ev}(ho:OpR X (compareOp op) r)(hs:iY X W r g)(ha:SE X W a eva)(hb:SE X W b evb)(hm:behindInMarks op b=false):ST X W (.Compare a [op] [b] pos) (am g eva evb) :=
 PT.mono (pt_cmpR ho ha hb hm) λ_ _ _ h=>c9 (wH h) λat_ rx ry e c=>hs at_ rx ry e c
theorem tV{k:Nat}:iY X W (rEqD X.K) gEq:=by
 intro M m hb fr σ H x y vx vy res hb' Q at_ rx ry e c
 unfold gEq at e
 split at e
 .rename_i h
  obtain⟨h1,h2⟩:=Bool.and_eq_true_iff.mp h
  cases e
  exact⟨_,_,gA at_ rx h1,gA at_ ry h2,aP h1,aP h2,c.done at_ rBl⟩
 .cases e
theorem uz{k:Nat}:iY X W (rNeD X.K) gNe:=by
 intro M m hb fr σ H x y vx vy res hb' Q at_ rx ry e c
 unfold gNe at e
 split at e
 .rename_i h
  obtain⟨h1,h2⟩:=Bool.and_eq_true_iff.mp h
  cases e
  exact⟨_,_,gA at_ rx h1,gA at_ ry h2,aP h1,aP h2,c.done at_ rBl⟩
 .cases e
theorem vI{k:Nat}(hr:Room k X.A)(ha:SE X W a eva)(hb:SE X W b evb):ST X W (.Compare a [.Eq] [b] pos) (am gEq eva evb):=fg (op_eqD hr.units) (tV (k:=0)) ha hb (nobehind _ (by decide) (by decide))
theorem kK{k:Nat}(hr:Room k X.A)(ha:SE X W a eva)(hb:SE X W b evb):ST X W (.Compare a [.NotEq] [b] pos) (am gNe eva evb):=fg (op_neD hr.units) (uz (k:=0)) ha hb (nobehind _ (by decide) (by decide))
theorem ph(ha:SE X W a eva)(hb:SE X W b evb):ST X W (.Compare a [.Lt] [b] pos) (am (d3 .lt) eva evb):=fg (iW .lt) (f6 .lt) ha hb (nobehind _ (by decide) (by decide))
theorem wb(ha:SE X W a eva)(hb:SE X W b evb):ST X W (.Compare a [.LtE] [b] pos) (am (d3 .le) eva evb):=fg (iW .le) (f6 .le) ha hb (nobehind _ (by decide) (by decide))
theorem uR(ha:SE X W a eva)(hb:SE X W b evb):ST X W (.Compare a [.Gt] [b] pos) (am (d3 .gt) eva evb):=fg (iW .gt) (f6 .gt) ha hb (nobehind _ (by decide) (by decide))
/-- a value that is a bool,as a test -/
theorem qp{e:Expr}{ev:Ev}(h:SE X W e ev)(he:∀whole,isTrue e X.env whole=(do let v <-whole; standAt e.pos; holding [v] (truthy v)):=by intro _; rfl):ST X W e ev :=
 PT.mono (pt_val h he) λ_ _ _ hq=>wH hq
/-- tests in chains: each evaluator's value a bool -/
abbrev SW(X:Cx)(W:WX)(e:Expr)(ev:Ev):Prop:=PW X e (tT X.K W ev)
theorem PW.mono{e:Expr}{t t':TT}(h:PW X e t)(i:∀σ H Q,t' σ H Q->t σ H Q):PW X e t':=⟨λw pins s σ H Q I hq=>h.run w pins s σ H Q I (i σ H Q hq)⟩
theorem uG{K:PySem.W.Frag}{σ:St}{H:Hp}{Q:Bool->Hp->Prop}(h:tT K W (f7 eva evb) σ H Q):tAnd (tT K W eva) (tT K W evb) σ H Q:=by
 obtain⟨M,m,hb,fr,r,hb',a,e,c⟩:=pH h
 unfold f7 ay at e
 split at e
 .rename_i d hb1 e1
  refine⟨M,m,hb,fr,.ok d,hb1,a.wd,a.fr,e1,λm1 H1 s1=> ?_⟩
  dsimp only at e
  split at e
  .refine⟨true,rfl,?_⟩
   refine ift ?_
   exact tz (a.step s1) e (c.step s1)
  .refine⟨false,rfl,?_⟩
   refine sX ?_
   cases e
   obtain⟨b,eb,q⟩:=c m1 H1 s1
   cases eb
   exact q
  .cases e
 .rename_i x hb1 e1
  cases e
  exact⟨M,m,hb,fr,.exn _,_,a.wd,a.fr,e1,λm1 H1 s1=>c m1 H1 s1⟩
 .cases e
theorem vT{K:PySem.W.Frag}{σ:St}{H:Hp}{Q:Bool->Hp->Prop}(h:tT K W (eOr eva evb) σ H Q):tOr (tT K W eva) (tT K W evb) σ H Q:=by
 obtain⟨M,m,hb,fr,r,hb',a,e,c⟩:=pH h
 unfold eOr ay at e
 split at e
 .rename_i d hb1 e1
  refine⟨M,m,hb,fr,.ok d,hb1,a.wd,a.fr,e1,λm1 H1 s1=> ?_⟩
  dsimp only at e
  split at e
  .refine⟨true,rfl,?_⟩
   refine ift ?_
   cases e
   obtain⟨b,eb,q⟩:=c m1 H1 s1
   cases eb
   exact q
  .refine⟨false,rfl,?_⟩
   refine sX ?_
   exact tz (a.step s1) e (c.step s1)
  .cases e
 .rename_i x hb1 e1
  cases e
  exact⟨M,m,hb,fr,.exn _,_,a.wd,a.fr,e1,λm1 H1 s1=>c m1 H1 s1⟩
 .cases e
theorem jA(ha:ST X W a eva):SW X W (.BoolOp .And [a] pos) eva:=pw_and1 ha
theorem iG(ha:ST X W a eva):SW X W (.BoolOp .Or [a] pos) eva:=pw_or1 ha
theorem mN(ha:ST X W a eva)(hb:SW X W (.BoolOp .And (b::rest) pos) evb):SW X W (.BoolOp .And (a::b::rest) pos) (f7 eva evb):=PW.mono (pw_and ha hb) λ_ _ _ h=>uG h
theorem nW(ha:ST X W a eva)(hb:SW X W (.BoolOp .Or (b::rest) pos) evb):SW X W (.BoolOp .Or (a::b::rest) pos) (eOr eva evb):=PW.mono (pw_or ha hb) λ_ _ _ h=>vT h
theorem qK{e:Expr}{ev:Ev}(h:SW X W e ev):ST X W e ev:=h.pt
theorem fM(ha:ST X W a eva):ST X W (.UnaryOp .Not a pos) (lD eva):=by
 refine PT.mono (pt_not ha) λσ H Q h=> ?_
 obtain⟨M,m,hb,fr,r,hb',a,e,c⟩:=pH h
 unfold lD ay at e
 split at e
 .rename_i d hb1 e1
  refine⟨M,m,hb,fr,.ok d,hb1,a.wd,a.fr,e1,λm1 H1 s1=> ?_⟩
  dsimp only at e
  split at e
  .cases e
   obtain⟨b,eb,q⟩:=c m1 H1 s1
   cases eb
   exact⟨_,rfl,q⟩
  .cases e
 .rename_i x hb1 e1
  cases e
  exact⟨M,m,hb,fr,.exn _,_,a.wd,a.fr,e1,λm1 H1 s1=>c m1 H1 s1⟩
 .cases e
end
end
section
section
variable {X:Cx} {W:WX} {a b c:Expr} {eva evb evc:Ev} {pos:Pos} {rest:List Expr}
theorem RelDs.len_eq{K:PySem.W.Frag}{B:Addr->Prop}{m:List Addr}{H:Hp}{ds:List D}{vs:List V}(h:RelDs K B m H ds vs):vs.length=ds.length:=h.length.symm
theorem jc{K:PySem.W.Frag}{B:Addr->Prop}{m:List Addr}{H:Hp}{ds:List D}{vs:List V}{i:Int}{d:D}(h:RelDs K B m H ds vs)(e:atI ds i=some d):∃v,atI vs i=some v/\RelD K B m H d v:=by
 unfold atI at e ⊢
 rw[h.len_eq]
 cases q:ixN ds.length i with
 | none=>rw[q] at e; cases e
 | some j =>
  rw[q] at e
  obtain⟨v,e1,r⟩:=h.get (i:=j) (by simpa using e)
  exact⟨v,by simpa using e1,r⟩
theorem rJ{α β:Type}(f:α->β)(xs:List α)(i:Int):atI (xs.map f) i=(atI xs i).map f:=by
 unfold atI
 rw[List.length_map]
 cases ixN xs.length i<;>simp
def gIx:D->D->Ev:=λx y fr hb=>match x,y with
 | .str s,.int i=>if s.length<=szL then (match atI s i with
  | some ch=>some (.ok (.str [ch]),hb)
  | none=>none) else none
 | x,.int i=>match dS fr hb x with
  | some xs=>(match atI xs i with
   | some d=>some (.ok d,hb)
   | none=>none)
  | none=>none
 | _,_=>none
theorem uJ:iY X W (λx y H Q=>rIxL X.K x y H Q\/rIxT X.K x y H Q\/rIxS x y H Q) gIx:=by
 intro M m hb fr σ H x y vx vy res hb' Q at_ rx ry e c
 unfold gIx at e
 split at e
 .split at e
  .rename_i hz
   split at e
   .rename_i ch e1
    cases e
    rw[az rx,ao ry]
    refine .inr (.inr ⟨_,_,ch.toNat,rfl,rfl,by rw[aJ,<-bd]; exact hz,?_,?_⟩)
    .unfold au
     rw[List.toList_toArray,rJ,e1]; rfl
    .have:({ cps:=#[ch.toNat] }:Str)=au [ch]:=rfl
     rw[this]
     exact c.done at_ kW
   .cases e
  .cases e
 .split at e
  .rename_i xs e1
   split at e
   .rename_i d e2
    cases e
    rw[ao ry]
    unfold dS at e1
    split at e1
    .cases e1
     obtain⟨p,vs,rfl,f,r⟩:=bz rx
     obtain⟨v,e3,rv⟩:=jc r e2
     exact .inr (.inl ⟨p,vs,_,v,rfl,rfl,f,e3,c.done at_ rv.t⟩)
    .cases e1
     obtain⟨p,vs,rfl,f,r⟩:=c8 rx
     obtain⟨v,e3,rv⟩:=jc r e2
     exact .inl ⟨p,vs,_,v,rfl,rfl,f,e3,c.done at_ rv.t⟩
    .obtain⟨p,vs,rfl,f,r⟩:=bc at_ rx e1
     obtain⟨v,e3,rv⟩:=jc r e2
     exact .inl ⟨p,vs,_,v,rfl,rfl,.of f,e3,c.done at_ rv.t⟩
   .cases e
  .cases e
 .cases e
def dU{α:Type}(xs:List α)(lo hi:Option Int):List α:=(xs.drop (HT.sIx xs.length 0 lo)).take (HT.sIx xs.length xs.length hi - HT.sIx xs.length 0 lo)
theorem gB{K:PySem.W.Frag}{B:Addr->Prop}{m:List Addr}{H:Hp}{ds:List D}{vs:List V}{lo hi:Option Int}(h:RelDs K B m H ds vs):RelDs K B m H (dU ds lo hi) (dU vs lo hi):=by
 unfold dU
 rw[h.len_eq]
 exact(h.drop _).take _
theorem pz{α β:Type}(f:α->β)(xs:List α)(lo hi:Option Int):dU (xs.map f) lo hi=(dU xs lo hi).map f:=by
 unfold dU
 rw[List.length_map,List.map_take,List.map_drop]
theorem sF(z:List Char)(lo hi:Option Int):cutS (au z) lo hi=au (dU z lo hi):=by
 unfold cutS
 rw[aJ]
 unfold au
 rw[List.toList_toArray,<-pz]
 unfold dU
 rw[List.length_map]
abbrev Eo:=Fr->HB->Option ((Option Int ⊕ Xn)×HB)
def lJ:Eo:=λ_ hb=>some (.inl none,hb)
def jz(ev:Ev):Eo:=λfr hb=>match ev fr hb with
 | some (.ok (.int i),hb1)=>some (.inl (some i),hb1)
 | some (.exn x,hb1)=>some (.inr x,hb1)
 | _=>none
def tO(K:PySem.W.Frag)(W:WX)(ev:Eo):TO:=λσ H Q=>∃(M:Addr->Prop) (m:List Addr) (hb:HB) (fr:Fr) (r:Option Int ⊕ Xn) (hb':HB),Wd K M m H hb/\FrR K M m H fr σ/\ev fr hb=some (r,hb') /\
 ∀ m' H',Stp K M m H m' H' hb'->match r with
  | .inl d=>Q d H'
  | .inr x=>∀C dd,RelX K (Bd M m') m' H' x C dd->W C dd σ H'
abbrev SO(X:Cx)(W:WX)(e:Option Expr)(ev:Eo):Prop:=PO X e (tO X.K W ev)
theorem PO.mono{e:Option Expr}{t t':TO}(h:PO X e t)(i:∀σ H Q,t' σ H Q->t σ H Q):PO X e t':=⟨λpins s σ H Q I hq=>h.run pins s σ H Q I (i σ H Q hq)⟩
theorem jg:SO X W none lJ:=PO.mono po_none λσ H Q h=>by
 obtain⟨M,m,hb,fr,r,hb',w,f,e,c⟩:=h
 cases e
 exact c m H (Stp.refl w)
theorem jD(ha:SE X W a eva):SO X W (some a) (jz eva):=PO.mono (po_some ha) λσ H Q h=>by
 obtain⟨M,m,hb,fr,r,hb',w,f,e,c⟩:=h
 unfold jz at e
 split at e
 .rename_i i hb1 e1
  cases e
  exact⟨M,m,hb,fr,.ok (.int i),_,w,f,e1,λm1 H1 s1 v rv=>⟨i,ao rv,c m1 H1 s1⟩⟩
 .rename_i x hb1 e1
  cases e
  exact⟨M,m,hb,fr,.exn x,_,w,f,e1,λm1 H1 s1=>c m1 H1 s1⟩
 .cases e
def sT(lo hi:Option Int):D->Ev:=λx fr hb=>match x with
 | .str s=>if s.length<=szL then some (.ok (.str (dU s lo hi)),hb) else none
 | .tup xs=>some (.ok (.tup (dU xs lo hi)),hb)
 | .fz xs=>some (.ok (.lst (dU xs lo hi)),hb)
 | x=>match d8 fr hb x with
  | some xs=>some (.ok (.lst (dU xs lo hi)),hb)
  | none=>none
def tm(a:Ev)(lo hi:Eo):Ev:=ay a λx=>λfr hb=>match lo fr hb with
 | some (.inl l,hb1)=>(match hi fr hb1 with
  | some (.inl h,hb2)=>sT l h x fr hb2
  | some (.inr x,hb2)=>some (.exn x,hb2)
  | none=>none)
 | some (.inr x,hb1)=>some (.exn x,hb1)
 | none=>none
theorem k7{xs:List D}{lo hi:Option Int}(h:HT.sIx xs.length 0 lo=0/\HT.sIx xs.length xs.length hi=xs.length):dU xs lo hi=xs:=by
 unfold dU
 rw[h.1,h.2]
 simp
theorem fS{lo hi:Option Expr}{evl evh:Eo}{p2:Pos}(ha:SE X W a eva)(hl:SO X W lo evl)(hh:SO X W hi evh):SE X W (.Subscript a (.Slice lo hi none p2) pos) (tm eva evl evh):=by
 refine PE.mono (pe_slice (SlR.or sl_list (SlR.or sl_tupA sl_str)) ha hl hh) λσ H Q h=> ?_
 show tE X.K W eva σ H λx H1=>tO X.K W evl σ H1 λl H2=>tO X.K W evh σ H2 λu H3=>rSlL X.K x l u H3 Q\/rSlA X.K x l u H3 Q\/rSlS x l u H3 Q
 obtain⟨M,m,hb,fr,r,hb',at_,e,c⟩:=dh h
 refine cp at_ e c λm1 H1 hb1 x v s1 a1 rx e1 c1=> ?_
 split at e1
 .rename_i l hb2 q1
  refine⟨M,m1,hb1,fr,.inl l,hb2,a1.wd,a1.fr,q1,λm2 H2 s2=> ?_⟩
  split at e1
  .rename_i u hb3 q2
   refine⟨M,m2,hb2,fr,.inl u,hb3,s2.wd,(a1.step s2).fr,q2,λm3 H3 s3=> ?_⟩
   have a3:=(a1.step s2).step s3
   have rx3:=(rx.keep s2).keep s3
   have c3:=(c1.step s2).step s3
   unfold sT at e1
   split at e1
   .split at e1
    .rename_i hz
     cases e1
     rw[az rx3]
     refine .inr (.inr ⟨_,rfl,by rw[aJ,<-bd]; exact hz,?_⟩)
     rw[sF]
     exact c3.done a3 kW
    .cases e1
   .cases e1
    obtain⟨p,vs,rfl,f,r⟩:=bz rx3
    refine .inr (.inl ⟨p,vs,rfl,f,λhw=> ?_,λhw p hp=> ?_⟩)
    .have hw':=hw
     rw[r.len_eq] at hw'
     rw[k7 hw'] at c3
     exact c3.done a3 rx3
    .exact c3.tup a3 hp (gB r)
   .cases e1
    obtain⟨p,vs,rfl,f,r⟩:=c8 rx3
    exact .inl ⟨p,vs,rfl,f,λp hp=>c3.lst a3 hp (gB r)⟩
   .split at e1
    .rename_i xs q3
     cases e1
     obtain⟨p,vs,rfl,f,r⟩:=bc a3 rx3 q3
     exact .inl ⟨p,vs,rfl,.of f,λp hp=>c3.lst a3 hp (gB r)⟩
    .cases e1
  .rename_i x' hb3 q2
   cases e1
   exact⟨M,m2,hb2,fr,.inr x',_,s2.wd,(a1.step s2).fr,q2,λm3 H3 s3=>(c1.step s2) m3 H3 s3⟩
  .cases e1
 .rename_i x' hb2 q1
  cases e1
  exact⟨M,m1,hb1,fr,.inr x',_,a1.wd,a1.fr,q1,λm2 H2 s2=>c1 m2 H2 s2⟩
 .cases e1
def i6(es:Evs):Ev:=λfr hb=>match es fr hb with
 | some (.inl ds,hb1)=>if av ds && decide (ds.length<=szL) then some (.ok (.tup ds),hb1) else none
 | some (.inr x,hb1)=>some (.exn x,hb1)
 | none=>none
def lc(es:Evs):Ev:=λfr hb=>match es fr hb with
 | some (.inl ds,hb1)=>if av ds && decide (ds.length<=szL) then some (.ok (.lst ds),hb1) else none
 | some (.inr x,hb1)=>some (.exn x,hb1)
 | none=>none
theorem RelTs.len{K:PySem.W.Frag}{M:Addr->Prop}{m:List Addr}{H:Hp}{fr:Fr}{σ:St}:∀{ds:List D} {vs:List V},RelTs K M m H fr σ ds vs->vs.length=ds.length
 | [],vs,r=>by
  have r':vs=[]:=r
  subst r'; rfl
 | d::ds,vs,r=>by
  obtain⟨v,w,e,h1,h2⟩:=r
  subst e
  simp[RelTs.len h2]
theorem eI{es:List Expr}{evs:Evs}{k:Nat}(h:SEs X W es evs):SE X W (.Tuple es k pos) (i6 evs):=by
 refine PE.mono (pe_tup h) λσ H Q hq=> ?_
 obtain⟨M,m,hb,fr,r,hb',at_,e,c⟩:=dh hq
 unfold i6 at e
 split at e
 .rename_i ds hb1 e1
  split at e
  .rename_i hz
   obtain⟨h1,h2⟩:=Bool.and_eq_true_iff.mp hz
   cases e
   refine⟨M,m,hb,fr,.inl ds,_,at_.wd,at_.fr,e1,λm1 H1 s1 vs rv=>⟨?_,λp hp=> ?_⟩⟩
   .rw[rv.len,<-bd]; exact of_decide_eq_true h2
   .exact(c.step s1).tup (at_.step s1) hp (rv.val h1)
  .cases e
 .rename_i x hb1 e1
  cases e
  exact⟨M,m,hb,fr,.inr x,_,at_.wd,at_.fr,e1,λm1 H1 s1=>c m1 H1 s1⟩
 .cases e
theorem dz{es:List Expr}{evs:Evs}(h:SEs X W es evs):SE X W (.List es pos) (lc evs):=by
 refine PE.mono (pe_lst h) λσ H Q hq=> ?_
 obtain⟨M,m,hb,fr,r,hb',at_,e,c⟩:=dh hq
 unfold lc at e
 split at e
 .rename_i ds hb1 e1
  split at e
  .rename_i hz
   obtain⟨h1,h2⟩:=Bool.and_eq_true_iff.mp hz
   cases e
   refine⟨M,m,hb,fr,.inl ds,_,at_.wd,at_.fr,e1,λm1 H1 s1 vs rv=>⟨?_,λp hp=> ?_⟩⟩
   .rw[rv.len,<-bd]; exact of_decide_eq_true h2
   .exact(c.step s1).lst (at_.step s1) hp (rv.val h1)
  .cases e
 .rename_i x hb1 e1
  cases e
  exact⟨M,m,hb,fr,.inr x,_,at_.wd,at_.fr,e1,λm1 H1 s1=>c m1 H1 s1⟩
 .cases e
def ig(X:Cx)(W:WX)(r:List V->Hp->VK->Prop)(g:List D->Ev):Prop:=∀{M:Addr->Prop} {m:List Addr} {hb:HB} {fr:Fr} {σ:St} {H:Hp} {ds:List D} {vs:List V} {res:R} {hb':HB} {Q:VK},
 At X.K M m H hb fr σ->RelTs X.K M m H fr σ ds vs->g ds fr hb=some (res,hb')->Pst X.K W M m H fr σ res hb' Q->r vs H Q
def eL(g:List D->Ev)(es:Evs):Ev:=λfr hb=>match es fr hb with
 | some (.inl ds,hb1)=>g ds fr hb1
 | some (.inr x,hb1)=>some (.exn x,hb1)
 | none=>none
theorem qP{r:List V->Hp->VK->Prop}{g:List D->Ev}{evs:Evs}(hs:ig X W r g){σ:St}{H:Hp}{Q:VK}(h:tE X.K W (eL g evs) σ H Q):tCB r (tEs X.K W evs) σ H Q:=by
 obtain⟨M,m,hb,fr,r,hb',at_,e,c⟩:=dh h
 unfold eL at e
 split at e
 .rename_i ds hb1 e1
  exact⟨M,m,hb,fr,.inl ds,_,at_.wd,at_.fr,e1,λm1 H1 s1 vs rv=>hs (at_.step s1) rv e (c.step s1)⟩
 .rename_i x hb1 e1
  cases e
  exact⟨M,m,hb,fr,.inr x,_,at_.wd,at_.fr,e1,λm1 H1 s1=>c m1 H1 s1⟩
 .cases e
theorem ai{r:List V->Hp->VK->Prop}{g:List D->Ev}{id:String}{x:Str}{p:Pos}{e:Expr}{es:List Expr}{evs:Evs}(hc:CallR X (.builtin id) r)(hs:ig X W r g)(hg:Gl X x)(hm:X.mg x=none)(hv:bootBuiltins x=some (.builtin id))(ha:SEs X W (e::es) evs)
 (hn:x≠"__name__":=by decide) (hdb:(x == ("__debug__":Str))=false:=by decide) (he:starEach (e::es) X.env=(false,eval e X.env)::starEach es X.env:=by rfl) (hpl:(backTo pos (starEach es X.env)).any (·.1)=false:=by rfl) :
 SE X W (.Call (.Name x p) (e::es) [] pos) (eL g evs):=PE.mono (pe_callB hc hg hm hv ha hn hdb he hpl) λ_ _ _ h=>qP hs h
theorem aZ{r:List V->Hp->VK->Prop}{g:List D->Ev}{T:String}{x:Str}{p:Pos}{e:Expr}{es:List Expr}{evs:Evs}(hc:CallR X (.type T) r)(hs:ig X W r g)(hg:Gl X x)(hm:X.mg x=none)(hv:bootBuiltins x=some (.type T))(ha:SEs X W (e::es) evs)
 (hn:x≠"__name__":=by decide) (hdb:(x == ("__debug__":Str))=false:=by decide) (he:starEach (e::es) X.env=(false,eval e X.env)::starEach es X.env:=by rfl) (hpl:(backTo pos (starEach es X.env)).any (·.1)=false:=by rfl) :
 SE X W (.Call (.Name x p) (e::es) [] pos) (eL g evs):=PE.mono (pe_callTy hc hg hm hv ha hn hdb he hpl) λ_ _ _ h=>qP hs h
theorem RelTs.one{K:PySem.W.Frag}{M:Addr->Prop}{m:List Addr}{H:Hp}{fr:Fr}{σ:St}{d:D}{vs:List V}(r:RelTs K M m H fr σ [d] vs):∃v,vs=[v]/\RelT K M m H fr σ d v:=by
 obtain⟨v,w,e,h1,h2⟩:=r
 have h2':w=[]:=h2
 subst h2'
 exact⟨v,e,h1⟩
theorem RelTs.two{K:PySem.W.Frag}{M:Addr->Prop}{m:List Addr}{H:Hp}{fr:Fr}{σ:St}{d d':D}{vs:List V}(r:RelTs K M m H fr σ [d,d'] vs):∃v v',vs=[v,v']/\RelT K M m H fr σ d v/\RelT K M m H fr σ d' v':=by
 obtain⟨v,w,e,h1,h2⟩:=r
 obtain⟨v',e2,h3⟩:=RelTs.one h2
 subst e2
 exact⟨v,v',e,h1,h3⟩
/-- len: texts,lists,tuples,dicts -/
def oh(fr:Fr)(hb:HB):D->Option (List D×List D)
 | .dct ks vs=>some (ks,vs)
 | .loc i=>match fr[i]? with
  | some (.ow (.dct ks vs))=>some (ks,vs)
  | _=>none
 | .box n=>match hb[n]? with
  | some (.dct ks vs)=>some (ks,vs)
  | _=>none
 | _=>none
def qk(H:Hp)(p:Addr)(ks:List D)(vs:List V):Prop:=(∃kvs,Rd H p (.dK kvs)/\KeysK ks kvs/\vs=kvs.map (·.2))\/(∃kvs,Rd H p (.dT kvs)/\KeysT ks kvs/\vs=kvs.map (·.2))
theorem nI{K:PySem.W.Frag}{M:Addr->Prop}{m:List Addr}{H:Hp}{hb:HB}{fr:Fr}{σ:St}{d:D}{v:V}{ks xs:List D}(a:At K M m H hb fr σ)(r:RelT K M m H fr σ d v)(e:oh fr hb d=some (ks,xs)):∃p vs,v=.ref p/\qk H p ks vs/\RelDs K (Bd M m) m H xs vs:=by
 unfold oh at e
 split at e
 .cases e
  have r':RelD K (Bd M m) m H (.dct ks xs) v:=r
  unfold RelD at r'
  obtain⟨p,vs,e,_,f,r⟩:=r'
  refine⟨p,vs,e,?_,r⟩
  rcases f with ⟨kvs,f,h1,h2⟩|⟨kvs,f,h1,h2⟩
  .exact .inl ⟨kvs,.inl f,h1,h2⟩
  .exact .inr ⟨kvs,.inl f,h1,h2⟩
 .rename_i i
  split at e
  .rename_i ks' ys e1
   cases e
   obtain⟨_,e2⟩:=r
   obtain⟨x,e3,p,e4,_,_,vs,e5,e6⟩:=a.fr.2 i _ e1
   rw[e3] at e2
   cases e2
   cases e4
   refine⟨p,vs,rfl,?_,e6⟩
   rcases e5 with ⟨kvs,f,h1,h2⟩|⟨kvs,f,h1,h2⟩
   .exact .inl ⟨kvs,.inl f,h1,h2⟩
   .exact .inr ⟨kvs,.inl f,h1,h2⟩
  .cases e
 .rename_i n
  split at e
  .rename_i ks' ys e1
   cases e
   have r':RelD K (Bd M m) m H (.box n) v:=r
   unfold RelD at r'
   obtain⟨p,e2,e3⟩:=r'
   obtain⟨vs,e5,e6⟩:=a.wd.ob n p _ e3 e1
   refine⟨p,vs,e2,?_,e6⟩
   rcases e5 with ⟨kvs,f,h1,h2⟩|⟨kvs,f,h1,h2⟩
   .exact .inl ⟨kvs,.inl f,h1,h2⟩
   .exact .inr ⟨kvs,.inl f,h1,h2⟩
  .cases e
 .cases e
def fm:List D->Ev:=λds fr hb=>match ds with
 | [.str s]=>if s.length<=szL then some (.ok (.int s.length),hb) else none
 | [d]=>match dS fr hb d with
  | some xs=>some (.ok (.int xs.length),hb)
  | none=>none
 | _=>none
theorem bj:ig X W (λxs H Q=>∃x n,xs=[x]/\LenV X.K x H n/\Q (V.int ↑n) H) fm:=by
 intro M m hb fr σ H ds vs res hb' Q at_ rv e c
 unfold fm at e
 split at e
 .split at e
  .rename_i s hz
   cases e
   obtain⟨v,rfl,r1⟩:=rv.one
   rw[az r1]
   exact⟨_,s.length,rfl,⟨by rw[aJ,<-bd]; exact hz,by rw[aJ]⟩,c.done at_ fC⟩
  .cases e
 .split at e
  .rename_i d xs e1
   cases e
   obtain⟨v,rfl,r1⟩:=rv.one
   unfold dS at e1
   split at e1
   .cases e1
    obtain⟨p,vs,rfl,f,r⟩:=bz r1
    exact⟨_,xs.length,rfl,.inr ⟨vs,f,r.length⟩,c.done at_ fC⟩
   .cases e1
    obtain⟨p,vs,rfl,f,r⟩:=c8 r1
    exact⟨_,xs.length,rfl,.inl ⟨vs,f,r.length⟩,c.done at_ fC⟩
   .obtain⟨p,vs,rfl,f,r⟩:=bc at_ r1 e1
    exact⟨_,xs.length,rfl,.inl ⟨vs,.of f,r.length⟩,c.done at_ fC⟩
  .cases e
 .cases e
/-- int(n),int(flag) -/
def i7:List D->Ev:=λds fr hb=>match ds with
 | [.int i]=>some (.ok (.int i),hb)
 | [.bl b]=>some (.ok (.int (if b then 1 else 0)),hb)
 | _=>none
theorem cS:ig X W (λxs H Q=>(∃i,xs=[V.int i]/\Q (V.int i) H)\/∃k,xs=[V.bl k]/\Q (V.int (if k=true then 1 else 0)) H) i7:=by
 intro M m hb fr σ H ds vs res hb' Q at_ rv e c
 unfold i7 at e
 split at e
 .cases e
  obtain⟨v,rfl,r1⟩:=rv.one
  rw[ao r1]
  exact .inl ⟨_,rfl,c.done at_ fC⟩
 .cases e
  obtain⟨v,rfl,r1⟩:=rv.one
  rw[fR r1]
  exact .inr ⟨_,rfl,c.done at_ fC⟩
 .cases e
theorem lO{K:PySem.W.Frag}{M:Addr->Prop}{m:List Addr}{H:Hp}{hb:HB}{fr:Fr}{σ:St}{d:D}{v:V}{xs:List D}(a:At K M m H hb fr σ)(r:RelT K M m H fr σ d v)(e:dS fr hb d=some xs):∃p vs,v=.ref p/\(SqL K H p vs\/SqT K H p vs)/\RelDs K (Bd M m) m H xs vs:=by
 unfold dS at e
 split at e
 .cases e
  obtain⟨p,vs,rfl,f,r⟩:=bz r
  exact⟨p,vs,rfl,.inr f,r⟩
 .cases e
  obtain⟨p,vs,rfl,f,r⟩:=c8 r
  exact⟨p,vs,rfl,.inl f,r⟩
 .obtain⟨p,vs,rfl,f,r⟩:=bc a r e
  exact⟨p,vs,rfl,.inl (.of f),r⟩
/-- tuple(xs) -/
def gR:List D->Ev:=λds fr hb=>match ds with
 | [d]=>match dS fr hb d with
  | some xs=>some (.ok (.tup xs),hb)
  | none=>none
 | _=>none
theorem lH:ig X W (λxs H Q=>∃p ys,xs=[V.ref p]/\((SqL X.K H p ys/\∀(l:Addr),H l=none->Q (V.ref l) (upd H l (HO.tup ys)))\/SqT X.K H p ys/\Q (V.ref p) H)) gR:=by
 intro M m hb fr σ H ds vs res hb' Q at_ rv e c
 unfold gR at e
 split at e
 .split at e
  .rename_i d xs e1
   cases e
   obtain⟨v,rfl,r1⟩:=rv.one
   unfold dS at e1
   split at e1
   .cases e1
    obtain⟨p,vs,rfl,f,r⟩:=bz r1
    exact⟨p,vs,rfl,.inr ⟨f,c.done at_ r1⟩⟩
   .cases e1
    obtain⟨p,vs,rfl,f,r⟩:=c8 r1
    exact⟨p,vs,rfl,.inl ⟨f,λl hl=>c.tup at_ hl r⟩⟩
   .obtain⟨p,vs,rfl,f,r⟩:=bc at_ r1 e1
    exact⟨p,vs,rfl,.inl ⟨.of f,λl hl=>c.tup at_ hl r⟩⟩
  .cases e
 .cases e
end
end
section
/-- a def's activation: others' owned objects,the boxed ones and the heap at the entry -/
structure Gh where
 M0:Addr->Prop
 ms:List Addr
 Hs:Hp
 pin:Option Addr:=none
/-- the object that is being made stands in slot 0 -/
def PinOk(pin:Option Addr)(fr:Fr)(σ:St):Prop:=∀p,pin=some p->∀o,fr[0]? =some (.ow o)->σ[0]? =some (some (.ref p))
theorem PinOk.sh{pin:Option Addr}{fr:Fr}{σ:St}{i:Nat}{d:D}{x:Option V}(h:PinOk pin fr σ):PinOk pin (fr.set i (.sh d)) (σ.set i x):=λp hp o e=>by
 by_cases hi:i=0
 .subst hi
  rw[List.getElem?_set] at e
  simp at e
 .rw[List.getElem?_set_ne hi] at e ⊢
  exact h p hp o e
theorem PinOk.un{pin:Option Addr}{fr:Fr}{σ:St}{i:Nat}{x:Option V}(h:PinOk pin fr σ):PinOk pin (fr.set i .un) (σ.set i x):=λp hp o e=>by
 by_cases hi:i=0
 .subst hi
  rw[List.getElem?_set] at e
  simp at e
 .rw[List.getElem?_set_ne hi] at e ⊢
  exact h p hp o e
theorem PinOk.ow{pin:Option Addr}{fr:Fr}{σ:St}{i:Nat}{o':O}{x:Option V}(h:PinOk pin fr σ)(hi:pin=none\/i≠0):PinOk pin (fr.set i (.ow o')) (σ.set i x):=λp hp o e=>by
 have hi':i≠0:=hi.elim (λz=>by rw[z] at hp; cases hp) id
 rw[List.getElem?_set_ne hi'] at e ⊢
 exact h p hp o e
theorem PinOk.wr{pin:Option Addr}{fr:Fr}{σ:St}{i:Nat}{o o':O}(h:PinOk pin fr σ)(ho:fr[i]? =some (.ow o)):PinOk pin (fr.set i (.ow o')) σ:=λp hp o2 e=>by
 by_cases hi:i=0
 .subst hi
  exact h p hp o ho
 .rw[List.getElem?_set_ne hi] at e
  exact h p hp o2 e
/-- others' and the frame's own objects -/
def Mf(M0:Addr->Prop)(fr:Fr)(σ:St):Addr->Prop:=λa=>M0 a\/∃(i:Nat) (o:O),fr[i]? =some (.ow o)/\σ[i]? =some (some (.ref a))
structure FS (K:PySem.W.Frag) (G:Gh) (m:List Addr) (H:Hp) (hb:HB) (fr:Fr) (σ:St):Prop where
 at_:At K (Mf G.M0 fr σ) m H hb fr σ
 m0:∀a,G.M0 a->∃o,G.Hs a=some o
 pre:∃l,m=G.ms++l
 new:∀a∈m,a∉G.ms->G.Hs a=none
 keep:∀a o,G.Hs a=some o->a∉G.ms->H a=some o
 pin:PinOk G.pin fr σ
 own:∀(i:Nat) o a,fr[i]? =some (.ow o)->σ[i]? =some (some (.ref a))->G.Hs a=none
 dist:∀(i j:Nat) o o' a,fr[i]? =some (.ow o)->fr[j]? =some (.ow o')->σ[i]? =some (some (.ref a))->σ[j]? =some (some (.ref a))->i=j
section
variable {K:PySem.W.Frag} {G:Gh} {m m':List Addr} {H H':Hp} {hb hb':HB} {fr:Fr} {σ:St}
theorem FS.step(s:FS K G m H hb fr σ){m1:List Addr}{H1:Hp}{hb1:HB}(t:Stp K (Mf G.M0 fr σ) m H m1 H1 hb1):FS K G m1 H1 hb1 fr σ:=by
 obtain⟨l,hl⟩:=s.pre
 obtain⟨l2,hl2⟩:=t.pre
 refine⟨s.at_.step t,s.m0,⟨l++l2,by rw[hl2,hl,List.append_assoc]⟩,λa ha hn=> ?_,λa o h hn=> ?_,s.pin,s.own,s.dist⟩
 .by_cases h1:a∈m
  .exact s.new a h1 hn
  .have z:=t.new a ha h1
   cases q:G.Hs a with
   | none=>rfl
   | some o=>have:=s.keep a o q hn; rw[z] at this; cases this
 .refine t.fr a o (s.keep a o h hn) λz=> ?_
  have:=s.new a z hn
  rw[h] at this; cases this
/-- B shrinks -/
theorem Keeps.shrink{B B':Addr->Prop}(h:∀a,B' a->B a):Keeps B B' m m H H:=⟨⟨[],by simp⟩,λa o q n=>⟨q,λz=>n (h a z)⟩⟩
theorem Mf.set_sh{M0:Addr->Prop}{i:Nat}{d:D}{x:Option V}{a:Addr}(h:Mf M0 (fr.set i (.sh d)) (σ.set i x) a):Mf M0 fr σ a:=by
 rcases h with h|⟨j,o,h1,h2⟩
 .exact .inl h
 .by_cases e:i=j
  .subst e
   rw[List.getElem?_set] at h1
   simp at h1
  .rw[List.getElem?_set_ne e] at h1 h2
   exact .inr ⟨j,o,h1,h2⟩
theorem Mf.set_un{M0:Addr->Prop}{i:Nat}{x:Option V}{a:Addr}(h:Mf M0 (fr.set i .un) (σ.set i x) a):Mf M0 fr σ a:=by
 rcases h with h|⟨j,o,h1,h2⟩
 .exact .inl h
 .by_cases e:i=j
  .subst e
   rw[List.getElem?_set] at h1
   simp at h1
  .rw[List.getElem?_set_ne e] at h1 h2
   exact .inr ⟨j,o,h1,h2⟩
/-- the slots' facts under a smaller B -/
theorem Wd.shrink{M M':Addr->Prop}(w:Wd K M m H hb)(h:∀a,M' a->M a):Wd K M' m H hb :=
 ⟨w.nd,λa ha z=>w.no a ha (h a z),λa z=>w.mt a (h a z),w.len,λn a o h1 h2=>(w.ob n a o h1 h2).keep_own (Keeps.shrink λb z=>z.elim (λz=>.inl (h b z)) .inr) λ_ q=>q⟩
theorem FS.setSh(s:FS K G m H hb fr σ){i:Nat}{d:D}{v:V}(r:RelD K (Bd (Mf G.M0 fr σ) m) m H d v):FS K G m H hb (fr.set i (.sh d)) (σ.set i (some v)):=by
 have sub:∀a,Mf G.M0 (fr.set i (.sh d)) (σ.set i (some v)) a->Mf G.M0 fr σ a:=λa=>Mf.set_sh
 have kp:Keeps (Bd (Mf G.M0 fr σ) m) (Bd (Mf G.M0 (fr.set i (.sh d)) (σ.set i (some v))) m) m m H H:=Keeps.shrink λb z=>z.elim (λz=>.inl (sub b z)) .inr
 have ne:∀(j:Nat) o,(fr.set i (.sh d))[j]? =some (.ow o)->i≠j:=λj o h e=>by
  subst e
  rw[List.getElem?_set] at h
  simp at h
 refine⟨⟨s.at_.wd.shrink sub,by rw[List.length_set,List.length_set]; exact s.at_.fr.1,λj sv e=> ?_⟩,s.m0,s.pre,s.new,s.keep,s.pin.sh,λj o a h1 h2=> ?_,λj k o o' a h1 h2 h3 h4=> ?_⟩
 .by_cases hj:i=j
  .subst hj
   rw[List.getElem?_set] at e
   simp only[if_true] at e
   split at e
   .cases e
    rename_i hl
    refine⟨some v,by rw[List.getElem?_set]; simp; rw[<-s.at_.fr.1]; exact hl,v,rfl,r.keep kp⟩
   .cases e
  .rw[List.getElem?_set_ne hj] at e
   obtain⟨x,e1,r1⟩:=s.at_.fr.2 j sv e
   refine⟨x,by rw[List.getElem?_set_ne hj]; exact e1,?_⟩
   cases sv with
   | un=>trivial
   | sh d'=>obtain⟨w,e2,r2⟩:=r1; exact⟨w,e2,r2.keep kp⟩
   | ow o =>
    obtain⟨a,e2,hM,nm,r2⟩:=r1
    subst e2
    refine⟨a,rfl,.inr ⟨j,o,by rw[List.getElem?_set_ne hj]; exact e,by rw[List.getElem?_set_ne hj]; exact e1⟩,nm,r2.keep_own kp λ_ q=>q⟩
 .have hj:=ne j o h1
  rw[List.getElem?_set_ne hj] at h1 h2
  exact s.own j o a h1 h2
 .have hj:=ne j o h1
  have hk:=ne k o' h2
  rw[List.getElem?_set_ne hj] at h1 h3
  rw[List.getElem?_set_ne hk] at h2 h4
  exact s.dist j k o o' a h1 h2 h3 h4
end
/-- the frozen things stay from state to state -/
abbrev Kp(G:Gh)(m:List Addr)(H:Hp)(fr:Fr)(σ:St)(m':List Addr)(H':Hp)(fr':Fr)(σ':St):Prop:=Keeps (Bd (Mf G.M0 fr σ) m) (Bd (Mf G.M0 fr' σ') m') m m' H H'
theorem Keeps.trans{B B1 B2:Addr->Prop}{m m1 m2:List Addr}{H H1 H2:Hp}(a:Keeps B B1 m m1 H H1)(b:Keeps B1 B2 m1 m2 H1 H2):Keeps B B2 m m2 H H2:=by
 obtain⟨l,e⟩:=a.pre
 obtain⟨l2,e2⟩:=b.pre
 exact⟨⟨l++l2,by rw[e2,e,List.append_assoc]⟩,λx o h n=>b.fr x o (a.fr x o h n).1 (a.fr x o h n).2⟩
theorem Keeps.refl{B:Addr->Prop}{m:List Addr}{H:Hp}:Keeps B B m m H H:=⟨⟨[],by simp⟩,λ_ _ h n=>⟨h,n⟩⟩
def PstS(K:PySem.W.Frag)(W:WX)(G:Gh)(m:List Addr)(H:Hp)(fr:Fr)(σ:St)(r:SR)(hb':HB)(D:Ends):Prop:=match r with
 | .nx fr'=>∀m' H' σ',FS K G m' H' hb' fr' σ'->Kp G m H fr σ m' H' fr' σ'->D.nx σ' H'
 | .bk fr'=>∀m' H' σ',FS K G m' H' hb' fr' σ'->Kp G m H fr σ m' H' fr' σ'->D.bk σ' H'
 | .ct fr'=>∀m' H' σ',FS K G m' H' hb' fr' σ'->Kp G m H fr σ m' H' fr' σ'->D.ct σ' H'
 | .rt d=>∀m' H' σ' fr' v,FS K G m' H' hb' fr' σ'->Kp G m H fr σ m' H' fr' σ'->RelD K (Bd (Mf G.M0 fr' σ') m') m' H' d v->D.rt v H'
 | .ex x=>∀m' H' σ' fr' C dd,FS K G m' H' hb' fr' σ'->Kp G m H fr σ m' H' fr' σ'->RelX K (Bd (Mf G.M0 fr' σ') m') m' H' x C dd->W C dd σ' H'
theorem PstS.step{K:PySem.W.Frag}{W:WX}{G:Gh}{m m1:List Addr}{H H1:Hp}{fr fr1:Fr}{σ σ1:St}{r:SR}{hb':HB}{D:Ends}(c:PstS K W G m H fr σ r hb' D)(k:Kp G m H fr σ m1 H1 fr1 σ1):PstS K W G m1 H1 fr1 σ1 r hb' D:=by
 cases r with
 | nx fr'=>exact λm' H' σ' s' k'=>c m' H' σ' s' (k.trans k')
 | bk fr'=>exact λm' H' σ' s' k'=>c m' H' σ' s' (k.trans k')
 | ct fr'=>exact λm' H' σ' s' k'=>c m' H' σ' s' (k.trans k')
 | rt d=>exact λm' H' σ' fr' v s' k'=>c m' H' σ' fr' v s' (k.trans k')
 | ex d=>exact λm' H' σ' fr' C dd s' k'=>c m' H' σ' fr' C dd s' (k.trans k')
def tS(K:PySem.W.Frag)(W:WX)(G:Gh)(sv:Sv):TS:=λD σ H=>∃(m:List Addr) (hb:HB) (fr:Fr) (r:SR) (hb':HB),FS K G m H hb fr σ/\sv fr hb=some (r,hb')/\PstS K W G m H fr σ r hb' D
abbrev SS(X:Cx)(W:WX)(G:Gh)(st:Stmt)(sv:Sv):Prop:=PS X st (tS X.K W G sv)
abbrev SSs(X:Cx)(W:WX)(G:Gh)(st:List Stmt)(sv:Sv):Prop:=PSs X st (tS X.K W G sv)
theorem aV{K:PySem.W.Frag}{W:WX}{G:Gh}{m:List Addr}{H:Hp}{hb hb':HB}{fr:Fr}{σ:St}{sv:Sv}{r:SR}{D:Ends}(s:FS K G m H hb fr σ)(e:sv fr hb=some (r,hb'))(c:PstS K W G m H fr σ r hb' D):tS K W G sv D σ H:=⟨m,hb,fr,r,hb',s,e,c⟩
/-- an expression within a statement -/
theorem FS.ev{K:PySem.W.Frag}{W:WX}{G:Gh}{m:List Addr}{H:Hp}{hb:HB}{fr:Fr}{σ:St}{ev:Ev}{r:R}{hb1:HB}(s:FS K G m H hb fr σ)(e:ev fr hb=some (r,hb1)){Q:VK}
  (h:match r with
   | .ok d=>∀m1 H1 v,FS K G m1 H1 hb1 fr σ->Kp G m H fr σ m1 H1 fr σ->RelT K (Mf G.M0 fr σ) m1 H1 fr σ d v->Q v H1
   | .exn x=>∀m1 H1 C dd,FS K G m1 H1 hb1 fr σ->Kp G m H fr σ m1 H1 fr σ->RelX K (Bd (Mf G.M0 fr σ) m1) m1 H1 x C dd->W C dd σ H1):tE K W ev σ H Q:=by
 refine b3 s.at_ e λm1 H1 s1=> ?_
 cases r with
 | ok d=>exact λv rv=>h m1 H1 v (s.step s1) s1.keeps rv
 | exn x=>exact λC dd rx=>h m1 H1 C dd (s.step s1) s1.keeps rx
def gH:Sv:=λfr hb=>some (.nx fr,hb)
def a8(a b:Sv):Sv:=λfr hb=>match a fr hb with
 | some (.nx fr1,hb1)=>b fr1 hb1
 | r=>r
def bX(ev:Ev):Sv:=λfr hb=>match ev fr hb with
 | some (.ok d,hb1)=>if d.isVal then some (.rt d,hb1) else (match d with
  | .loc i=>match fr[i]? with
   | some (.ow (.lst xs))=>some (.rt (.lst xs),hb1)
   | some (.ow (.dct ks vs))=>some (.rt (.dct ks vs),hb1)
   | some (.ow (.ins c fs vs))=>some (.rt (.ins c fs vs),hb1)
   | some (.ow (.tab _))=>some (.rt .ob,hb1)
   | _=>none
  | _=>none)
 | some (.exn x,hb1)=>some (.ex x,hb1)
 | none=>none
def gC(ev:Ev):Sv:=λfr hb=>match ev fr hb with
 | some (.ok _,hb1)=>some (.nx fr,hb1)
 | some (.exn x,hb1)=>some (.ex x,hb1)
 | none=>none
def fj(i:Nat)(ev:Ev):Sv:=λfr hb=>match ev fr hb with
 | some (.ok d,hb1)=>if d.isVal then some (.nx (fr.set i (.sh d)),hb1) else none
 | some (.exn x,hb1)=>some (.ex x,hb1)
 | none=>none
def sIf(t:Ev)(a b:Sv):Sv:=λfr hb=>match t fr hb with
 | some (.ok (.bl true),hb1)=>a fr hb1
 | some (.ok (.bl false),hb1)=>b fr hb1
 | some (.exn x,hb1)=>some (.ex x,hb1)
 | _=>none
section
variable {X:Cx} {W:WX} {G:Gh} {e:Expr} {ev:Ev} {pos:Pos} {st:Stmt} {sts:List Stmt} {sv sv2:Sv}
theorem bG:SSs X W G [] gH:=PSs.mono pss_nil λD σ H h=>by
 obtain⟨m,hb,fr,r,hb',s,e,c⟩:=h
 cases e
 exact c m H σ s Keeps.refl
theorem aj(h1:SS X W G st sv)(h2:SSs X W G sts sv2):SSs X W G (st::sts) (a8 sv sv2):=PSs.mono (pss_cons h1 h2) λD σ H h=>by
 obtain⟨m,hb,fr,r,hb',s,e,c⟩:=h
 unfold a8 at e
 show tS X.K W G sv { D with nx:=tS X.K W G sv2 D } σ H
 split at e
 .rename_i fr1 hb1 e1
  exact aV s e1 λm' H' σ' s' k'=>aV s' e (c.step k')
 .rename_i hn
  refine aV s e ?_
  cases r with
  | nx fr'=>exact absurd e (hn fr' hb')
  | rt d=>exact c
  | bk d=>exact c
  | ct d=>exact c
  | ex d=>exact c
theorem ap(h1:SS X W G st sv):SSs X W G [st] sv:=pss_one h1
theorem f9(he:SE X W e ev)(hs:swapsWith e none pos.line X.env=pure false:=by rfl):SS X W G (.Expr e pos) (gC ev):=PS.mono (ps_expr he hs) λD σ H h=>by
 obtain⟨m,hb,fr,r,hb',s,e,c⟩:=h
 unfold gC at e
 show tE X.K W ev σ H λ_ H1=>D.nx σ H1
 split at e
 .rename_i d hb1 e1
  cases e
  exact s.ev e1 λm1 H1 v s1 k1 rv=>c m1 H1 σ s1 k1
 .rename_i x hb1 e1
  cases e
  exact s.ev e1 λm1 H1 C dd s1 k1 rx=>c m1 H1 σ fr C dd s1 k1 rx
 .cases e
theorem bL{i:Nat}{x:Str}{pos':Pos}(hN:X.N.Nodup)(hi:X.N[i]? =some x)(hx:Loc X.env.scope x)(he:SE X W e ev)(hs:swapsWith e (some (.Name x pos')) pos.line X.env=pure false:=by rfl)(hf:X.fn x=true\/X.env.scope.names.lookup x=some .local:=by first|exact .inl rfl|exact .inr rfl|assumption) :
  SS X W G (.Assign [.Name x pos'] e pos) (fj i ev):=PS.mono (ps_set hN hi hx he hs hf) λD σ H h=>by
 obtain⟨m,hb,fr,r,hb',s,e,c⟩:=h
 unfold fj at e
 show tE X.K W ev σ H λx H1=>D.nx (σ.set i (some x)) H1
 split at e
 .rename_i d hb1 e1
  split at e
  .rename_i hv
   cases e
   exact s.ev e1 λm1 H1 v s1 k1 rv=>c m1 H1 _ (s1.setSh (rv.val hv)) (k1.trans (Keeps.shrink λb z=>z.elim (λz=>.inl (Mf.set_sh z)) .inr))
  .cases e
 .rename_i x hb1 e1
  cases e
  exact s.ev e1 λm1 H1 C dd s1 k1 rx=>c m1 H1 σ fr C dd s1 k1 rx
 .cases e
/-- the frame's own object is handed back: nobody has it any more -/
theorem FS.free{K:PySem.W.Frag}{m:List Addr}{H:Hp}{hb:HB}{fr:Fr}{σ:St}(s:FS K G m H hb fr σ)(i:Nat):FS K G m H hb (fr.set i .un) (σ.set i none):=by
 have sub:∀a,Mf G.M0 (fr.set i .un) (σ.set i none) a->Mf G.M0 fr σ a:=λa=>Mf.set_un
 have kp:Keeps (Bd (Mf G.M0 fr σ) m) (Bd (Mf G.M0 (fr.set i .un) (σ.set i none)) m) m m H H:=Keeps.shrink λb z=>z.elim (λz=>.inl (sub b z)) .inr
 have ne:∀(j:Nat) o,(fr.set i .un)[j]? =some (.ow o)->i≠j:=λj o h e=>by
  subst e
  rw[List.getElem?_set] at h
  simp at h
 refine⟨⟨s.at_.wd.shrink sub,by rw[List.length_set,List.length_set]; exact s.at_.fr.1,λj sv e=> ?_⟩,s.m0,s.pre,s.new,s.keep,s.pin.un,λj o a h1 h2=> ?_,λj k o o' a h1 h2 h3 h4=> ?_⟩
 .by_cases hj:i=j
  .subst hj
   rw[List.getElem?_set] at e
   simp only[if_true] at e
   split at e
   .cases e
    rename_i hl
    exact⟨none,by rw[List.getElem?_set]; simp; rw[<-s.at_.fr.1]; exact hl,trivial⟩
   .cases e
  .rw[List.getElem?_set_ne hj] at e
   obtain⟨x,e1,r1⟩:=s.at_.fr.2 j sv e
   refine⟨x,by rw[List.getElem?_set_ne hj]; exact e1,?_⟩
   cases sv with
   | un=>trivial
   | sh d'=>obtain⟨w,e2,r2⟩:=r1; exact⟨w,e2,r2.keep kp⟩
   | ow o =>
    obtain⟨a,e2,hM,nm,r2⟩:=r1
    subst e2
    refine⟨a,rfl,.inr ⟨j,o,by rw[List.getElem?_set_ne hj]; exact e,by rw[List.getElem?_set_ne hj]; exact e1⟩,nm,r2.keep_own kp λ_ q=>q⟩
 .have hj:=ne j o h1
  rw[List.getElem?_set_ne hj] at h1 h2
  exact s.own j o a h1 h2
 .have hj:=ne j o h1
  have hk:=ne k o' h2
  rw[List.getElem?_set_ne hj] at h1 h3
  rw[List.getElem?_set_ne hk] at h2 h4
  exact s.dist j k o o' a h1 h2 h3 h4
/-- .. and is then frozen -/
theorem FS.freed{K:PySem.W.Frag}{m:List Addr}{H:Hp}{hb:HB}{fr:Fr}{σ:St}(s:FS K G m H hb fr σ){i:Nat}{o:O}(ho:fr[i]? =some (.ow o)){v:V}(hv:σ[i]? =some (some v)) :
  ∃a,v=.ref a/\¬Bd (Mf G.M0 (fr.set i .un) (σ.set i none)) m a/\RelO K (Bd (Mf G.M0 (fr.set i .un) (σ.set i none)) m) m H o a:=by
 obtain⟨x,e1,a,e2,hM,nm,r⟩:=s.at_.fr.2 i _ ho
 rw[hv] at e1
 cases e1
 cases e2
 refine⟨a,rfl,λz=> ?_,r.keep_own (Keeps.shrink λb z=>z.elim (λz=>.inl (Mf.set_un z)) .inr) λ_ q=>q⟩
 rcases z with z|z
 .rcases z with z|⟨j,o',h1,h2⟩
  .obtain⟨u,hu⟩:=s.m0 a z
   have:=s.own i o a ho hv
   rw[hu] at this; cases this
  .have hj:i≠j:=λe=>by
    subst e
    rw[List.getElem?_set] at h1
    simp at h1
   rw[List.getElem?_set_ne hj] at h1 h2
   exact hj (s.dist i j o o' a ho h1 hv h2)
 .exact nm z
theorem aO(he:SE X W e ev):SS X W G (.Return (some e) pos) (bX ev):=PS.mono (ps_ret he) λD σ H h=>by
 obtain⟨m,hb,fr,r,hb',s,e,c⟩:=h
 unfold bX at e
 show tE X.K W ev σ H D.rt
 split at e
 .rename_i d hb1 e1
  split at e
  .rename_i hv
   cases e
   exact s.ev e1 λm1 H1 v s1 k1 rv=>c m1 H1 σ fr v s1 k1 (rv.val hv)
  .split at e
   .rename_i i hv
    split at e
    .rename_i xs ho
     cases e
     refine s.ev e1 λm1 H1 v s1 k1 rv=> ?_
     obtain⟨a,rfl,nb,vs,h1,h2⟩:=s1.freed ho rv.2
     exact c m1 H1 _ _ _ (s1.free i) (k1.trans (Keeps.shrink λb z=>z.elim (λz=>.inl (Mf.set_un z)) .inr)) (by unfold RelD; exact⟨a,vs,rfl,⟨h1,nb⟩,h2⟩)
    .rename_i ks xs ho
     cases e
     refine s.ev e1 λm1 H1 v s1 k1 rv=> ?_
     obtain⟨a,rfl,nb,vs,h1,h2⟩:=s1.freed ho rv.2
     refine c m1 H1 _ _ _ (s1.free i) (k1.trans (Keeps.shrink λb z=>z.elim (λz=>.inl (Mf.set_un z)) .inr)) (by
      unfold RelD
      refine⟨a,vs,rfl,nb,?_,h2⟩
      rcases h1 with ⟨kvs,f,h3,h4⟩|⟨kvs,f,h3,h4⟩
      .exact .inl ⟨kvs,f,h3,h4⟩
      .exact .inr ⟨kvs,f,h3,h4⟩)
    .rename_i cc fs xs ho
     cases e
     refine s.ev e1 λm1 H1 v s1 k1 rv=> ?_
     obtain⟨a,rfl,nb,dx,vs,h1,h3,h2⟩:=s1.freed ho rv.2
     exact c m1 H1 _ _ _ (s1.free i) (k1.trans (Keeps.shrink λb z=>z.elim (λz=>.inl (Mf.set_un z)) .inr)) (by unfold RelD; exact⟨a,dx,vs,rfl,nb,h1,h3,h2⟩)
    .rename_i q ho
     cases e
     refine s.ev e1 λm1 H1 v s1 k1 rv=> ?_
     obtain⟨a,rfl,nb,_⟩:=s1.freed ho rv.2
     exact c m1 H1 _ _ _ (s1.free i) (k1.trans (Keeps.shrink λb z=>z.elim (λz=>.inl (Mf.set_un z)) .inr)) (by unfold RelD; exact⟨a,rfl⟩)
    .cases e
   .cases e
 .rename_i x hb1 e1
  cases e
  exact s.ev e1 λm1 H1 C dd s1 k1 rx=>c m1 H1 σ fr C dd s1 k1 rx
 .cases e
theorem cT{t:Expr}{a b:List Stmt}{evt:Ev}{sa sb:Sv}(ht:ST X W t evt)(ha:SSs X W G a sa)(hb:SSs X W G b sb):SS X W G (.If t a b pos) (sIf evt sa sb):=PS.mono (ps_if ht ha hb) λD σ H h=>by
 obtain⟨m,hb,fr,r,hb',s,e,c⟩:=h
 unfold sIf at e
 show tT X.K W evt σ H λb H1=>if b=true then tS X.K W G sa D σ H1 else tS X.K W G sb D σ H1
 split at e
 .rename_i hb1 e1
  exact⟨_,m,hb,fr,.ok (.bl true),hb1,s.at_.wd,s.at_.fr,e1,λm1 H1 s1=>⟨true,rfl,ift (aV (s.step s1) e (c.step s1.keeps))⟩⟩
 .rename_i hb1 e1
  exact⟨_,m,hb,fr,.ok (.bl false),hb1,s.at_.wd,s.at_.fr,e1,λm1 H1 s1=>⟨false,rfl,sX (aV (s.step s1) e (c.step s1.keeps))⟩⟩
 .rename_i x hb1 e1
  cases e
  exact⟨_,m,hb,fr,.exn x,_,s.at_.wd,s.at_.fr,e1,λm1 H1 s1 C dd rx=>c m1 H1 σ fr C dd (s.step s1) s1.keeps rx⟩
 .cases e
end
end
section
inductive Tg where
 | nm (i:Nat)|tp (is:List Nat)
def fh:List Nat->TGs
 | []=>gNil
 | i::is=>gCons (gName i) (fh is)
def gT(K:PySem.W.Frag):Tg->TG
 | .nm i=>gName i
 | .tp is=>gTup K is.length (fh is)
abbrev SG(X:Cx)(tg:Expr)(t:Tg):Prop:=PG X tg (gT X.K t)
def stAll:List Nat->List D->Fr->Option Fr
 | [],[],fr=>some fr
 | i::is,d::ds,fr=>stAll is ds (fr.set i (.sh d))
 | _,_,_=>none
def stT:Tg->D->Fr->Option Fr
 | .nm i,d,fr=>some (fr.set i (.sh d))
 | .tp is,.tup ds,fr=>stAll is ds fr
 | _,_,_=>none
section
variable {K:PySem.W.Frag} {G:Gh} {m m':List Addr} {H H':Hp} {hb hb':HB} {fr fr':Fr} {σ:St}
theorem Kp.sh{i:Nat}{d:D}{x:Option V}:Kp G m H fr σ m H (fr.set i (.sh d)) (σ.set i x):=Keeps.shrink λb z=>z.elim (λz=>.inl (Mf.set_sh z)) .inr
theorem j6:∀{is:List Nat} {ds:List D} {vs:List V} {fr:Fr} {σ:St} {Q:St->Hp->Prop},FS K G m H hb fr σ->RelDs K (Bd (Mf G.M0 fr σ) m) m H ds vs->stAll is ds fr=some fr' ->
  (∀σ',FS K G m H hb fr' σ'->Kp G m H fr σ m H fr' σ'->Q σ' H)->fh is vs σ H Q
 | [],[],vs,fr,σ,Q,s,r,e,c=>by
  cases e
  exact⟨RelDs.nil_iff.mp r,c σ s Keeps.refl⟩
 | i::is,d::ds,vs,fr,σ,Q,s,r,e,c=>by
  obtain⟨v,w,rfl,r1,r2⟩:=RelDs.cons_inv r
  refine⟨v,w,rfl,?_⟩
  show fh is w (σ.set i (some v)) H Q
  have kk:Kp G m H fr σ m H (fr.set i (.sh d)) (σ.set i (some v)):=Kp.sh
  exact j6 (s.setSh r1) (r2.keep kk) e λσ' s' k'=>c σ' s' (kk.trans k')
 | [],_::_,_,_,_,_,_,_,e,_=>by cases e
 | _::_,[],_,_,_,_,_,_,e,_=>by cases e
theorem mW{t:Tg}{d:D}{v:V}{Q:St->Hp->Prop}(s:FS K G m H hb fr σ)(r:RelD K (Bd (Mf G.M0 fr σ) m) m H d v)(e:stT t d fr=some fr')
  (c:∀σ',FS K G m H hb fr' σ'->Kp G m H fr σ m H fr' σ'->Q σ' H):gT K t v σ H Q:=by
 unfold stT at e
 split at e
 .cases e
  exact c _ (s.setSh r) Kp.sh
 .rename_i is ds _
  obtain⟨p,vs,rfl,f,r'⟩:=bz (fr:=[]) (σ:=[]) r
  refine⟨p,vs,rfl,f,?_,j6 s r' e c⟩
  have hl:∀{is:List Nat} {ds:List D} {fr:Fr} {fr':Fr},stAll is ds fr=some fr'->ds.length=is.length:=by
   intro is
   induction is with
   | nil=>intro ds fr fr' e; cases ds<;>first|rfl|cases e
   | cons i is ih=>intro ds fr fr' e; cases ds with
    | nil=>cases e
    | cons d ds=>simp[ih (show stAll is ds _=some fr' from e)]
  rw[<-hl e,r'.length]
 .cases e
end
theorem aR{X:Cx}{i:Nat}{x:Str}{pos:Pos}(hN:X.N.Nodup)(hi:X.N[i]? =some x)(hx:Loc X.env.scope x)(hf:X.fn x=true\/X.env.scope.names.lookup x=some .local:=by first|exact .inl rfl|exact .inr rfl|assumption):SG X (.Name x pos) (.nm i):=pg_name hN hi hx hf
abbrev SGs(X:Cx)(tgs:List Expr)(is:List Nat):Prop:=PGs X tgs (fh is)
theorem mV{X:Cx}:SGs X [] []:=pgs_nil
theorem dZ{X:Cx}{e:Expr}{es:List Expr}{i:Nat}{is:List Nat}(h1:SG X e (.nm i))(h2:SGs X es is)(hs:(assignEach (e::es) X.env).map (·.2)=assign e X.env::(assignEach es X.env).map (·.2):=by rfl):SGs X (e::es) (i::is):=pgs_cons h1 h2 hs
theorem qM{X:Cx}{es:List Expr}{k:Nat}{is:List Nat}{pos:Pos}(hc:X.calm=true)(h:SGs X es is)(hn:(assignEach es X.env).length=is.length:=by rfl)(hst:(assignEach es X.env).findIdx? (·.1)=none:=by rfl):SG X (.Tuple es k pos) (.tp is):=pg_tup hc h hn hst
def uQ(t:Tg)(ev:Ev):Sv:=λfr hb=>match ev fr hb with
 | some (.ok d,hb1)=>if d.isVal then (match stT t d fr with
  | some fr1=>some (.nx fr1,hb1)
  | none=>none) else none
 | some (.exn x,hb1)=>some (.ex x,hb1)
 | none=>none
section
variable {X:Cx} {W:WX} {G:Gh} {e:Expr} {ev:Ev} {pos:Pos}
theorem uX{tg:Expr}{t:Tg}(he:SE X W e ev)(hg:SG X tg t)(hs:swapsWithSole [tg] e pos.line X.env=pure false:=by rfl)(hw:swappedStores [tg] e X.env=pure none:=by rfl)
  (h1:(assignEach [tg] X.env).map (·.2)=[assign tg X.env]:=by rfl):SS X W G (.Assign [tg] e pos) (uQ t ev):=PS.mono (ps_asg he hg hs hw h1) λD σ H h=>by
 obtain⟨m,hb,fr,r,hb',s,e,c⟩:=h
 unfold uQ at e
 show tE X.K W ev σ H λx H1=>gT X.K t x σ H1 D.nx
 split at e
 .rename_i d hb1 e1
  split at e
  .rename_i hv
   split at e
   .rename_i fr1 e2
    cases e
    exact s.ev e1 λm1 H1 v s1 k1 rv=>mW s1 (rv.val hv) e2 λσ' s' k'=>c m1 H1 σ' s' (k1.trans k')
   .cases e
  .cases e
 .rename_i x hb1 e1
  cases e
  exact s.ev e1 λm1 H1 C dd s1 k1 rx=>c m1 H1 σ fr C dd s1 k1 rx
 .cases e
end
def bf(t:Ev)(b:Sv):Nat->Sv
 | 0,_,_=>none
 | n +1,fr,hb=>match t fr hb with
  | some (.ok (.bl true),hb1)=>(match b fr hb1 with
   | some (.nx fr2,hb2)=>bf t b n fr2 hb2
   | some (.ct fr2,hb2)=>bf t b n fr2 hb2
   | some (.bk fr2,hb2)=>some (.nx fr2,hb2)
   | r=>r)
  | some (.ok (.bl false),hb1)=>some (.nx fr,hb1)
  | some (.exn x,hb1)=>some (.ex x,hb1)
  | _=>none
def sWhile(t:Ev)(b:Sv)(fr:Fr)(hb:HB):Option (SR×HB):=match t fr hb with
 | some (.ok (.bl true),hb1)=>(match b fr hb1 with
  | some (.nx fr2,hb2)=>sWhile t b fr2 hb2
  | some (.ct fr2,hb2)=>sWhile t b fr2 hb2
  | some (.bk fr2,hb2)=>some (.nx fr2,hb2)
  | some (.rt d,hb2)=>some (.rt d,hb2)
  | some (.ex x,hb2)=>some (.ex x,hb2)
  | none=>none)
 | some (.ok (.bl false),hb1)=>some (.nx fr,hb1)
 | some (.exn x,hb1)=>some (.ex x,hb1)
 | _=>none
partial_fixpoint
theorem qg{t:Ev}{b:Sv}:∀fr hb r,sWhile t b fr hb=some r->∃n,bf t b n fr hb=some r:=by
 apply sWhile.partial_correctness
 intro f ih fr hb r h
 split at h
 .rename_i hb1 e1
  split at h
  .rename_i fr2 hb2 e2
   obtain⟨n,hn⟩:=ih _ _ _ h
   exact⟨n+1,by simp[bf,e1,e2,hn]⟩
  .rename_i fr2 hb2 e2
   obtain⟨n,hn⟩:=ih _ _ _ h
   exact⟨n+1,by simp[bf,e1,e2,hn]⟩
  .rename_i fr2 hb2 e2
   exact⟨1,by simp[bf,e1,e2]; exact Option.some.inj h⟩
  .rename_i fr2 hb2 e2
   exact⟨1,by simp[bf,e1,e2]; exact Option.some.inj h⟩
  .rename_i fr2 hb2 e2
   exact⟨1,by simp[bf,e1,e2]; exact Option.some.inj h⟩
  .cases h
 .rename_i hb1 e1
  exact⟨1,by simp[bf,e1]; exact Option.some.inj h⟩
 .rename_i hb1 e1
  exact⟨1,by simp[bf,e1]; exact Option.some.inj h⟩
 .cases h
section
variable {X:Cx} {W:WX} {G:Gh} {pos:Pos}
theorem pQ{t:Expr}{body:List Stmt}{evt:Ev}{sb:Sv}(hp:PassesOwn (model X.prog X.w) X.A X.env X.xe)(ht:ST X W t evt)(hbd:SSs X W G body sb):SS X W G (.While t body [] pos) (sWhile evt sb):=PS.mono (ps_while hp ht hbd) λD σ H h=>by
 obtain⟨m,hb,fr,r,hb',s,e,c⟩:=h
 obtain⟨n,hn⟩:=qg _ _ _ e
 refine⟨λk σ' H'=>∃m1 hb1 fr1,FS X.K G m1 H' hb1 fr1 σ'/\Kp G m H fr σ m1 H' fr1 σ'/\bf evt sb k fr1 hb1=some (r,hb'),⟨n,m,hb,fr,s,Keeps.refl,hn⟩,?_⟩
 rintro k σ1 H1 ⟨m1,hb1,fr1,s1,k1,e1⟩
 cases k with
 | zero=>simp[bf] at e1
 | succ k =>
  unfold bf at e1
  split at e1
  .rename_i hb2 q1
   refine⟨_,m1,hb1,fr1,.ok (.bl true),hb2,s1.at_.wd,s1.at_.fr,q1,λm2 H2 st2=>⟨true,rfl,ift ?_⟩⟩
   have s2:=s1.step st2
   have k2:=k1.trans st2.keeps
   refine⟨λσ' H'=>∃m3 hb3 fr3,FS X.K G m3 H' hb3 fr3 σ'/\Kp G m H fr σ m3 H' fr3 σ'/\bf evt sb k fr3 hb3=some (r,hb'),λσ' H' hN=>⟨k,Nat.lt_succ_self k,hN⟩,?_⟩
   split at e1
   .rename_i fr2 hb3 q2
    exact aV s2 q2 λm' H' σ' s' k'=>⟨m',hb3,fr2,s',k2.trans k',e1⟩
   .rename_i fr2 hb3 q2
    exact aV s2 q2 λm' H' σ' s' k'=>⟨m',hb3,fr2,s',k2.trans k',e1⟩
   .rename_i fr2 hb3 q2
    cases e1
    exact aV s2 q2 λm' H' σ' s' k'=>c m' H' σ' s' (k2.trans k')
   .rename_i hn1 hn2 hn3
    refine aV s2 e1 ?_
    cases r with
    | nx f=>exact absurd e1 (hn1 f hb')
    | ct f=>exact absurd e1 (hn2 f hb')
    | bk f=>exact absurd e1 (hn3 f hb')
    | rt d=>exact λm' H' σ' fr' v s' k' rv=>c m' H' σ' fr' v s' (k2.trans k') rv
    | ex x=>exact λm' H' σ' fr' C dd s' k' rx=>c m' H' σ' fr' C dd s' (k2.trans k') rx
  .rename_i hb2 q1
   cases e1
   exact⟨_,m1,hb1,fr1,.ok (.bl false),_,s1.at_.wd,s1.at_.fr,q1,λm2 H2 st2=>⟨false,rfl,sX (c m2 H2 σ1 (s1.step st2) (k1.trans st2.keeps))⟩⟩
  .rename_i x hb2 q1
   cases e1
   exact⟨_,m1,hb1,fr1,.exn x,_,s1.at_.wd,s1.at_.fr,q1,λm2 H2 st2 C dd rx=>c m2 H2 σ1 fr1 C dd (s1.step st2) (k1.trans st2.keeps) rx⟩
  .cases e1
end
inductive Src where
 | ls (ds:List D) (fz:Bool)|bx (n:Nat) (en:Bool)
abbrev Iv:=Fr->HB->Option ((Src ⊕ Xn)×HB)
structure BxIt (K:PySem.W.Frag) (p:Addr) (en:Bool) (J:It):Prop where
 go:∀(i:Nat) H vs,H p=some (.lst vs)->i<vs.length->J.go i H
 stop:∀(i:Nat) H vs,H p=some (.lst vs)->vs.length=i->J.stop i H
 yld:∀(i:Nat) H x H' vs,H p=some (.lst vs)->J.yld i H x H'->∃v,vs[i]? =some v/\((en=false/\x=v/\H'=H)\/(en=true/\∃T,x=.ref T/\H T=none/\H'=upd H T (.tup [.int (i:Nat),v])))
/-- at state (m1,H1): the walk J of n turns gives the items ds -/
structure WalkD (K:PySem.W.Frag) (M:Addr->Prop) (m1:List Addr) (H1:Hp) (ds:List D) (fz:Bool) (J:It) (Gd:Hp->Prop) (Y:Nat->Hp->V->Hp->Prop):Prop where
 walk:Walk J ds.length Gd Y
 stand:∀H2,(∀a o,H1 a=some o->¬(if fz then Bd M m1 a else a∈m1)->H2 a=some o)->Gd H2
 heap:∀i H2 x H2',Y i H2 x H2'->H2'=H2\/∃p vs,H2 p=none/\H2'=upd H2 p (.tup vs)
 item:∀i H2 x H2',i<ds.length->Y i H2 x H2'->∀B2 m2,Keeps (Bd M m1) B2 m1 m2 H1 H2->(∀p,H2 p=none->¬B2 p)->∃d,ds[i]? =some d/\RelD K B2 m2 H2' d x
def tI(K:PySem.W.Frag)(W:WX)(iv:Iv):TI:=λσ H R=>∃(M:Addr->Prop) (m:List Addr) (hb:HB) (fr:Fr) (r:Src ⊕ Xn) (hb':HB),At K M m H hb fr σ/\iv fr hb=some (r,hb') /\
 ∀ m1 H1,Stp K M m H m1 H1 hb'->match r with
  | .inl (.ls ds fz)=>∀J Gd Y,WalkD K M m1 H1 ds fz J Gd Y->R J H1
  | .inl (.bx n en)=>∀p J,m1[n]? =some p->BxIt K p en J->R J H1
  | .inr x=>∀C dd,RelX K (Bd M m1) m1 H1 x C dd->W C dd σ H1
abbrev SI(X:Cx)(W:WX)(tg iter:Expr)(iv:Iv):Prop:=PI X tg iter (tI X.K W iv)
theorem PI.mono{X:Cx}{tg e:Expr}{t t':TI}(h:PI X tg e t)(i:∀σ H Q,t' σ H Q->t σ H Q):PI X tg e t':=⟨λpins s σ H Q I hq=>h.run pins s σ H Q I (i σ H Q hq)⟩
/-- a value: a list,a tuple,a text -/
def gG(ev:Ev):Iv:=λfr hb=>match ev fr hb with
 | some (.ok (.str s),hb1)=>some (.inl (.ls (s.map λch=>.str [ch]) true),hb1)
 | some (.ok (.tup xs),hb1)=>some (.inl (.ls xs true),hb1)
 | some (.ok (.lst xs),hb1)=>some (.inl (.ls xs true),hb1)
 | some (.ok (.fz xs),hb1)=>some (.inl (.ls xs true),hb1)
 | some (.ok (.loc i),hb1)=>(match d8 fr hb1 (.loc i) with
  | some xs=>some (.inl (.ls xs false),hb1)
  | none=>none)
 | some (.ok (.box n),hb1)=>(match hb1[n]? with
  | some (.lst _)=>some (.inl (.bx n false),hb1)
  | _=>none)
 | some (.exn x,hb1)=>some (.inr x,hb1)
 | _=>none
section
variable {X:Cx} {W:WX} {G:Gh} {pos:Pos} {tg e:Expr} {ev:Ev}
/-- a list at p that stays -/
theorem dy{K:PySem.W.Frag}{M:Addr->Prop}{m1:List Addr}{H1:Hp}{ds:List D}{vs:List V}{p:Addr}{fz:Bool}(r:RelDs K (Bd M m1) m1 H1 ds vs)
  (hs:∀H2,(∀a o,H1 a=some o->¬(if fz then Bd M m1 a else a∈m1)->H2 a=some o)->SqL K H2 p vs):WalkD K M m1 H1 ds fz (Itl K p) (λH=>SqL K H p vs) (YAt vs):=by
 refine⟨by rw[r.length]; exact walk_list,hs,λi H2 x H2' y=>.inl y.1,λi H2 x H2' hi y B2 m2 k nf=> ?_⟩
 obtain⟨rfl,e2⟩:=y
 obtain⟨d,hd⟩:∃d,ds[i]? =some d:=⟨ds[i],by simp[hi]⟩
 obtain⟨v,e3,rv⟩:=r.get hd
 rw[e2] at e3
 cases e3
 exact⟨d,hd,rv.keep k⟩
theorem l0{K:PySem.W.Frag}{M:Addr->Prop}{m1:List Addr}{H1:Hp}{ds:List D}{vs:List V}{p:Addr}{fz:Bool}(r:RelDs K (Bd M m1) m1 H1 ds vs)
  (hs:∀H2,(∀a o,H1 a=some o->¬(if fz then Bd M m1 a else a∈m1)->H2 a=some o)->SqT K H2 p vs):WalkD K M m1 H1 ds fz (Itt K p) (λH=>SqT K H p vs) (YAt vs):=by
 refine⟨by rw[r.length]; exact walk_tup,hs,λi H2 x H2' y=>.inl y.1,λi H2 x H2' hi y B2 m2 k nf=> ?_⟩
 obtain⟨rfl,e2⟩:=y
 obtain⟨d,hd⟩:∃d,ds[i]? =some d:=⟨ds[i],by simp[hi]⟩
 obtain⟨v,e3,rv⟩:=r.get hd
 rw[e2] at e3
 cases e3
 exact⟨d,hd,rv.keep k⟩
theorem mG{K:PySem.W.Frag}{M:Addr->Prop}{m1:List Addr}{H1:Hp}{s:List Char}{fz:Bool}:WalkD K M m1 H1 (s.map λch=>D.str [ch]) fz (Its (au s)) (λ_=>True) (λi H v H'=>H'=H/\∃c,(au s).cps[i]? =some c/\v=.str ⟨#[c]⟩):=by
 have hl:(au s).cps.size=(s.map λch=>D.str [ch]).length:=by rw[List.length_map]; exact aJ s
 refine⟨by rw[<-hl]; exact walk_str,λ_ _=>trivial,λi H2 x H2' y=>.inl y.1,λi H2 x H2' hi y B2 m2 k nf=> ?_⟩
 obtain⟨rfl,c,e2,rfl⟩:=y
 unfold au at e2
 rw[List.getElem?_toArray,List.getElem?_map] at e2
 cases e3:s[i]? with
 | none=>rw[e3] at e2; cases e2
 | some ch =>
  rw[e3] at e2
  cases e2
  refine⟨.str [ch],by rw[List.getElem?_map,e3]; rfl,?_⟩
  unfold RelD
  rfl
theorem mP{K:PySem.W.Frag}{p:Addr}:BxIt K p false (Itl K p) :=
 ⟨λi H vs h hi=>⟨vs,vs[i],.of h,by simp[hi]⟩,λi H vs h hi=>⟨vs,.of h,by omega⟩,λi H x H' vs h y=>⟨x,y.2 vs (.of h),.inl ⟨rfl,rfl,y.1⟩⟩⟩
theorem d7(he:SE X W e ev):SI X W tg e (gG ev):=by
 refine⟨λpins s σ H R I h=> ?_⟩
 obtain⟨M,m,hb,fr,r,hb',at_,e0,c⟩:=h
 unfold gG at e0
 split at e0
 .rename_i z hb1 e1
  cases e0
  exact(pi_str he).run pins s σ H R I (b3 at_ e1 λm1 H1 s1 v rv=>⟨_,az rv,c m1 H1 s1 _ _ _ mG⟩)
 .rename_i xs hb1 e1
  cases e0
  refine(pi_tup he).run pins s σ H R I (b3 at_ e1 λm1 H1 s1 v rv=> ?_)
  have rv':RelD X.K (Bd M m1) m1 H1 (.tup xs) v:=rv
  unfold RelD at rv'
  obtain⟨p,vs,rfl,f,r⟩:=rv'
  exact⟨p,rfl,⟨vs,.of f.1⟩,c m1 H1 s1 _ _ _ (l0 (p:=p) r λH2 hk=>.of (hk p _ f.1 (by simpa using f.2)))⟩
 .rename_i xs hb1 e1
  cases e0
  refine(pi_list he).run pins s σ H R I (b3 at_ e1 λm1 H1 s1 v rv=> ?_)
  have rv':RelD X.K (Bd M m1) m1 H1 (.lst xs) v:=rv
  unfold RelD at rv'
  obtain⟨p,vs,rfl,⟨f,nb⟩,r⟩:=rv'
  exact⟨p,rfl,⟨vs,.of f⟩,c m1 H1 s1 _ _ _ (dy (p:=p) r λH2 hk=>.of (hk p _ f (by simpa using nb)))⟩
 .rename_i xs hb1 e1
  cases e0
  refine(pi_list he).run pins s σ H R I (b3 at_ e1 λm1 H1 s1 v rv=> ?_)
  have rv':RelD X.K (Bd M m1) m1 H1 (.fz xs) v:=rv
  unfold RelD at rv'
  obtain⟨p,vs,rfl,f,r⟩:=rv'
  refine⟨p,rfl,⟨vs,?_⟩,c m1 H1 s1 _ _ _ (dy (p:=p) r λH2 hk=> ?_)⟩
  .rcases f with ⟨f,_⟩|f
   .exact .inl f
   .exact .inr f
  .rcases f with ⟨f,nb⟩|f
   .exact .inl (Rd.keep f λo q=>hk p o q (by simpa using nb))
   .exact .inr f
 .rename_i i hb1 e1
  split at e0
  .rename_i xs e2
   cases e0
   refine(pi_list he).run pins s σ H R I (b3 at_ e1 λm1 H1 s1 v rv=> ?_)
   have a1:=at_.step s1
   obtain⟨⟨o,ho⟩,h2⟩:=rv
   obtain⟨x,e3,p,e4,hM,nm,ro⟩:=a1.fr.2 i _ ho
   rw[e3] at h2
   cases h2
   cases e4
   have eo:o=.lst xs:=by
    unfold d8 at e2
    dsimp only at e2
    rw[ho] at e2
    cases o with
    | lst ys=>cases e2; rfl
    | dct _ _=>cases e2
    | ins _ _ _=>cases e2
    | tab _=>cases e2
   subst eo
   obtain⟨vs,f,r⟩:=ro
   exact⟨p,rfl,⟨vs,.of f⟩,c m1 H1 s1 _ _ _ (dy (p:=p) r λH2 hk=>.of (hk p _ f (by simpa using nm)))⟩
  .cases e0
 .rename_i n hb1 e1
  split at e0
  .rename_i xs e2
   cases e0
   refine(pi_list he).run pins s σ H R I (b3 at_ e1 λm1 H1 s1 v rv=> ?_)
   have rv':RelD X.K (Bd M m1) m1 H1 (.box n) v:=rv
   unfold RelD at rv'
   obtain⟨p,rfl,hp⟩:=rv'
   obtain⟨vs,f,r⟩:=s1.wd.ob n p _ hp e2
   exact⟨p,rfl,⟨vs,.of f⟩,c m1 H1 s1 p _ hp mP⟩
  .cases e0
 .rename_i x hb1 e1
  cases e0
  exact(pi_list he).run pins s σ H R I (b3 at_ e1 λm1 H1 s1=>c m1 H1 s1)
 .cases e0
def ft(t:Tg)(b:Sv):List D->Sv
 | [],fr,hb=>some (.nx fr,hb)
 | d ::ds,fr,hb=>match stT t d fr with
  | none=>none
  | some fr1=>match b fr1 hb with
   | some (.nx fr2,hb2)=>ft t b ds fr2 hb2
   | some (.ct fr2,hb2)=>ft t b ds fr2 hb2
   | some (.bk fr2,hb2)=>some (.nx fr2,hb2)
   | r=>r
def du (t:Tg)(b:Sv)(n:Nat)(en:Bool):Nat->Nat->Sv
 | 0,i,fr,hb=>match hb[n]? with
  | some (.lst xs)=>if xs.length=i then some (.nx fr,hb) else none
  | _=>none
 | k + 1,i,fr,hb=>match hb[n]? with
  | some (.lst xs)=>(match xs[i]? with
   | some d=>(match stT t (if en then .tup [.int (i:Nat),d] else d) fr with
    | none=>none
    | some fr1=>match b fr1 hb with
     | some (.nx fr2,hb2)=>du t b n en k (i+1) fr2 hb2
     | some (.ct fr2,hb2)=>du t b n en k (i+1) fr2 hb2
     | some (.bk fr2,hb2)=>some (.nx fr2,hb2)
     | r=>r)
   | none=>none)
  | _=>none
def j2(iv:Iv)(t:Tg)(b:Sv):Sv:=λfr hb=>match iv fr hb with
 | some (.inl (.ls ds true),hb1)=>ft t b ds fr hb1
 | some (.inl (.bx n en),hb1)=>(match hb1[n]? with
  | some (.lst xs)=>du t b n en xs.length 0 fr hb1
  | _=>none)
 | some (.inr x,hb1)=>some (.ex x,hb1)
 | _=>none
theorem fP{t:Tg}{body:List Stmt}{iv:Iv}{sb:Sv}(hp:PassesOwn (model X.prog X.w) X.A X.env X.xe)(hc:X.calm=true)(hi:SI X W tg e iv)(hg:SG X tg t)(hbd:SSs X W G body sb)(hs:∀x,foldedSetIterable e X.env x=pure x:=by intro _; rfl) :
  SS X W G (.For tg e body [] pos) (j2 iv t sb):=PS.mono (ps_for hp hc hi hg hbd hs) λD σ H h=>by
 obtain⟨m,hb,fr,r,hb',s,e0,c⟩:=h
 unfold j2 at e0
 split at e0
 .rename_i ds hb1 e1
  refine⟨_,m,hb,fr,.inl (.ls ds true),hb1,s.at_,e1,λm1 H1 st1 J Gd Y wd=> ?_⟩
  have s1:=s.step st1
  refine for_it wd.walk (λi σ2 H2=>∃m2 hb2 fr2,FS X.K G m2 H2 hb2 fr2 σ2/\Kp G m1 H1 fr σ m2 H2 fr2 σ2/\ft t sb (ds.drop i) fr2 hb2=some (r,hb')) ⟨m1,hb1,fr,s1,Keeps.refl,e0⟩ ?_ ?_ ?_
  .rintro i σ2 H2 hi ⟨m2,hb2,fr2,s2,k2,_⟩
   exact wd.stand H2 λa o q nb=>(k2.fr a o q (by simpa using nb)).1
  .rintro i x σ2 H2 H3 hi ⟨m2,hb2,fr2,s2,k2,e2⟩ y
   obtain⟨d,hd,rd⟩:=wd.item i H2 x H3 hi y _ m2 k2 λp hp=>b6 s2.at_.wd hp
   have st3:Stp X.K (Mf G.M0 fr2 σ2) m2 H2 m2 H3 hb2:=by
    rcases wd.heap i H2 x H3 y with rfl|⟨p,vs,hp,rfl⟩
    .exact Stp.refl s2.at_.wd
    .exact s2.at_.wd.laid hp
   have s3:=s2.step st3
   have k3:=k2.trans st3.keeps
   have hdrop:ds.drop i=d::ds.drop (i+1):=by
    have hlt:=(List.getElem?_eq_some_iff.mp hd).1
    rw[List.drop_eq_getElem_cons hlt]
    rw[(List.getElem?_eq_some_iff.mp hd).2]
   rw[hdrop] at e2
   unfold ft at e2
   split at e2
   .cases e2
   .rename_i fr3 q3
    refine mW s3 rd q3 λσ4 s4 k4=> ?_
    have k4':=k3.trans k4
    split at e2
    .rename_i fr5 hb5 q5
     exact aV s4 q5 λm' H' σ' s' k'=>⟨m',hb5,fr5,s',k4'.trans k',e2⟩
    .rename_i fr5 hb5 q5
     exact aV s4 q5 λm' H' σ' s' k'=>⟨m',hb5,fr5,s',k4'.trans k',e2⟩
    .rename_i fr5 hb5 q5
     cases e2
     exact aV s4 q5 λm' H' σ' s' k'=>c m' H' σ' s' (st1.keeps.trans (k4'.trans k'))
    .rename_i hn1 hn2 hn3
     refine aV s4 e2 ?_
     cases r with
     | nx f=>exact absurd e2 (hn1 f hb')
     | ct f=>exact absurd e2 (hn2 f hb')
     | bk f=>exact absurd e2 (hn3 f hb')
     | rt d=>exact λm' H' σ' fr' v s' k' rv=>c m' H' σ' fr' v s' (st1.keeps.trans (k4'.trans k')) rv
     | ex x=>exact λm' H' σ' fr' C dd s' k' rx=>c m' H' σ' fr' C dd s' (st1.keeps.trans (k4'.trans k')) rx
  .rintro σ2 H2 ⟨m2,hb2,fr2,s2,k2,e2⟩
   rw[List.drop_length] at e2
   cases e2
   exact c m2 H2 σ2 s2 (st1.keeps.trans k2)
 .rename_i n en hb1 e1
  split at e0
  .rename_i xs0 e2
   refine⟨_,m,hb,fr,.inl (.bx n en),hb1,s.at_,e1,λm1 H1 st1 p J hp bx=> ?_⟩
   have s1:=s.step st1
   refine⟨λi k σ2 H2=>∃m2 hb2 fr2,FS X.K G m2 H2 hb2 fr2 σ2/\Kp G m1 H1 fr σ m2 H2 fr2 σ2/\du t sb n en k i fr2 hb2=some (r,hb'),⟨xs0.length,m1,hb1,fr,s1,Keeps.refl,e0⟩,?_⟩
   rintro i k σ2 H2 ⟨m2,hb2,fr2,s2,k2,e3⟩
   have hp2:m2[n]? =some p:=Keeps.box k2 hp
   cases k with
   | zero =>
    unfold du at e3
    split at e3
    .rename_i xs e4
     split at e3
     .rename_i hz
      cases e3
      obtain⟨vs,f,rv⟩:=s2.at_.wd.ob n p _ hp2 e4
      exact .inl ⟨bx.stop i H2 vs f (by rw[<-rv.length]; exact hz),c m2 H2 σ2 s2 (st1.keeps.trans k2)⟩
     .cases e3
    .cases e3
   | succ k =>
    unfold du at e3
    split at e3
    .rename_i xs e4
     split at e3
     .rename_i d e5
      obtain⟨vs,f,rv⟩:=s2.at_.wd.ob n p _ hp2 e4
      obtain⟨v0,e6,rd0⟩:=rv.get e5
      refine .inr ⟨bx.go i H2 vs f (List.getElem?_eq_some_iff.mp e6).1,λσ' H'=>∃m2 hb2 fr2,FS X.K G m2 H' hb2 fr2 σ'/\Kp G m1 H1 fr σ m2 H' fr2 σ'/\du t sb n en k (i+1) fr2 hb2=some (r,hb'),λσ' H' hN=>⟨k,Nat.lt_succ_self k,hN⟩,λx H3 y=> ?_⟩
      obtain⟨v,e7,hy⟩:=bx.yld i H2 x H3 vs f y
      rw[e6] at e7
      cases e7
      have hst:Stp X.K (Mf G.M0 fr2 σ2) m2 H2 m2 H3 hb2/\RelD X.K (Bd (Mf G.M0 fr2 σ2) m2) m2 H3 (if en then .tup [.int (i:Nat),d] else d) x:=by
       rcases hy with ⟨rfl,rfl,rfl⟩|⟨rfl,T,rfl,hT,rfl⟩
       .exact⟨Stp.refl s2.at_.wd,rd0⟩
       .refine⟨s2.at_.wd.laid hT,(jo (fr:=fr2) (σ:=σ2) s2.at_.wd hT ?_)⟩
        exact RelDs.cons (by unfold RelD; rfl) (RelDs.cons rd0 RelDs.nil')
      obtain⟨st3,rd⟩:=hst
      have s3:=s2.step st3
      have k3:=k2.trans st3.keeps
      split at e3
      .cases e3
      .rename_i fr3 q3
       refine mW s3 rd q3 λσ4 s4 k4=> ?_
       have k4':=k3.trans k4
       split at e3
       .rename_i fr5 hb5 q5
        exact aV s4 q5 λm' H' σ' s' k'=>⟨m',hb5,fr5,s',k4'.trans k',e3⟩
       .rename_i fr5 hb5 q5
        exact aV s4 q5 λm' H' σ' s' k'=>⟨m',hb5,fr5,s',k4'.trans k',e3⟩
       .rename_i fr5 hb5 q5
        cases e3
        exact aV s4 q5 λm' H' σ' s' k'=>c m' H' σ' s' (st1.keeps.trans (k4'.trans k'))
       .rename_i hn1 hn2 hn3
        refine aV s4 e3 ?_
        cases r with
        | nx f=>exact absurd e3 (hn1 f hb')
        | ct f=>exact absurd e3 (hn2 f hb')
        | bk f=>exact absurd e3 (hn3 f hb')
        | rt d=>exact λm' H' σ' fr' v s' k' rv=>c m' H' σ' fr' v s' (st1.keeps.trans (k4'.trans k')) rv
        | ex x=>exact λm' H' σ' fr' C dd s' k' rx=>c m' H' σ' fr' C dd s' (st1.keeps.trans (k4'.trans k')) rx
     .cases e3
    .cases e3
  .cases e0
 .rename_i x hb1 e1
  cases e0
  exact⟨_,m,hb,fr,.inr x,_,s.at_,e1,λm1 H1 st1 C dd rx=>c m1 H1 σ fr C dd (s.step st1) st1.keeps rx⟩
 .cases e0
end
end
section
/-- what a def does: the values it is called with,what it hands back or raises -/
def spF(K:PySem.W.Frag)(n:Nat)(ev:a6):Sp:=λvs H Q E=>∃(M0:Addr->Prop) (ms:List Addr) (hb:HB) (ds:List D) (r:R) (hb':HB),ds.length=n/\Wd K M0 ms H hb/\RelDs K (Bd M0 ms) ms H ds vs/\ev ds hb=some (r,hb') /\
 ∀ m' H',Stp K M0 ms H m' H' hb'->match r with
  | .ok d=>∀v,RelD K (Bd M0 m') m' H' d v->Q v H'
  | .exn x=>∀C dd,RelX K (Bd M0 m') m' H' x C dd->E C dd H'
/-- a def keeps to ev -/
abbrev FOk(P:Program)(w:World)(K:PySem.W.Frag)(mg:Str->Option Value)(base:Heap)(k:Nat)(f:Addr)(fd:FuncData)(ps:List Str)(ev:a6):Prop:=FnOk P w K mg base (L2N.CX P w) k f fd ps (spF K ps.length ev)
/-- the frame at the entry -/
def fr0(n:Nat)(ds:List D):Fr:=ds.map .sh++List.replicate (n - ds.length) .un
def fnE(n:Nat)(body:Sv):a6:=λds hb=>match body (fr0 n ds) hb with
 | some (.nx _,hb1)=>some (.ok .non,hb1)
 | some (.rt d,hb1)=>some (.ok d,hb1)
 | some (.ex x,hb1)=>some (.exn x,hb1)
 | _=>none
theorem lK{n:Nat}{ds:List D}{i:Nat}{o:O}(h:(fr0 n ds)[i]? =some (.ow o)):False:=by
 unfold fr0 at h
 by_cases hi:i<ds.length
 .rw[List.getElem?_append_left (by simpa using hi),List.getElem?_map] at h
  cases e:ds[i]? with
  | none=>rw[e] at h; cases h
  | some d=>rw[e] at h; cases h
 .rw[List.getElem?_append_right (by simpa using hi),List.getElem?_replicate] at h
  split at h<;>cases h
theorem Mf_fr0{M0:Addr->Prop}{n:Nat}{ds:List D}{σ:St}{a:Addr}:Mf M0 (fr0 n ds) σ a<->M0 a:=by
 constructor
 .rintro (h|⟨i,o,h,_⟩)
  .exact h
  .exact(lK h).elim
 .exact .inl
section
variable {P:Program} {w:World} {K:PySem.W.Frag} {mg:Str->Option Value} {base:Heap}
theorem FS.start{M0:Addr->Prop}{ms:List Addr}{H:Hp}{hb:HB}{ds:List D}{vs:List V}{N:List Str}(wd:Wd K M0 ms H hb)(r:RelDs K (Bd M0 ms) ms H ds vs)(hl:ds.length<=N.length) :
  FS K ⟨M0,ms,H,none⟩ ms H hb (fr0 N.length ds) (L2.start N vs):=by
 have sub:∀a,Mf M0 (fr0 N.length ds) (L2.start N vs) a->M0 a:=λa=>Mf_fr0.mp
 have kp:Keeps (Bd M0 ms) (Bd (Mf M0 (fr0 N.length ds) (L2.start N vs)) ms) ms ms H H:=Keeps.shrink λb z=>z.elim (λz=>.inl (sub b z)) .inr
 have lv:vs.length=ds.length:=r.length.symm
 refine⟨⟨wd.shrink sub,?_,λi sv e=> ?_⟩,wd.mt,⟨[],by simp⟩,λa h n=>absurd h n,λ_ _ h _=>h,(λp hp=>by cases hp),λi o a h=>(lK h).elim,λi j o o' a h=>(lK h).elim⟩
 .unfold fr0 L2.start
  simp[lv]
 .unfold fr0 at e
  unfold L2.start
  by_cases hi:i<ds.length
  .rw[List.getElem?_append_left (by simpa using hi),List.getElem?_map] at e
   cases q:ds[i]? with
   | none=>rw[q] at e; cases e
   | some d =>
    rw[q] at e
    cases e
    obtain⟨v,e1,rv⟩:=r.get q
    exact⟨some v,by rw[List.getElem?_append_left (by simpa [lv] using hi),List.getElem?_map,e1]; rfl,v,rfl,rv.keep kp⟩
  .rw[List.getElem?_append_right (by simpa using hi),List.getElem?_replicate] at e
   split at e
   .rename_i hlt
    cases e
    refine⟨none,?_,trivial⟩
    rw[List.getElem?_append_right (by simp[lv]; omega),List.getElem?_replicate]
    simp only[List.length_map,lv] at hlt ⊢
    rw[if_pos hlt]
   .cases e
theorem mr{X:Cx}:L2N.Takes X (λ_ _ _ _=>False):=λ_ _ x=>by
 obtain⟨_,_,_,_,_,_,_,_,_,_,_,_,_,_,_,_,w⟩:=x
 exact w.elim
theorem ql{X:Cx}:Passes (L2N.CX X.prog X.w) X E0:=λ_ _ _ _ _ _ _ c=>by
 obtain⟨_,_,_,_,_,_,_,_,_,_,_,_,z⟩:=c
 exact z.elim
/-- THE RULE of a def -/
theorem fok{x qual:Str}{params:Arguments}{body:List Stmt}{scope:Scope}{dvs:List V}{kws:List (Str×V)}{f:Addr}{fd:FuncData}{N ps:List Str}{k:Nat}{sv:Sv}(F:FunD K x qual params body scope dvs kws f fd)(S:FnScope N ps scope)
  (hbody:∀(X:Cx) (W:WX) (G:Gh),X.prog=P->X.w=w->X.K=K->X.mg=mg->X.base=base->X.N=N->X.calm=true->X.fn=(λ_=>true)->X.env.scope=scope->Room k X.A->PassesOwn (model X.prog X.w) X.A X.env X.xe->L2N.Takes X W->X.stack=X.env::X.outer->X.env.frame=some X.env.locals->G.pin=none->SSs X W G body sv) :
  FOk P w K mg base (k+1) f fd ps (fnE N.length sv):=by
 refine F.ok (sp:=spF K ps.length (fnE N.length sv)) S (λvs H Q E h=> ?_) (λcdv A outer s H vs Q E hr h=> ?_)
 .obtain⟨M0,ms,hb,ds,r,hb',hl,_,rd,_⟩:=h
  rw[<-rd.length,hl]
 .obtain⟨M0,ms,hb,ds,r,hb',hl,wd,rd,e,c⟩:=h
  have hps:ps.length<=N.length:=by have:=congrArg List.length S.pre; rw[List.length_take] at this; omega
  refine⟨_,hbody (cxOf (L2N.CX P w) P w K mg base N qual scope f cdv A outer s H E) (λcls d _ H=>E cls d H) ⟨M0,ms,H,none⟩ rfl rfl rfl rfl rfl rfl rfl rfl rfl hr (passes_of rfl) (L2N.takes_of rfl rfl rfl rfl) rfl rfl rfl,?_⟩
  have s0:FS K ⟨M0,ms,H,none⟩ ms H hb (fr0 N.length ds) (L2.start N vs):=FS.start wd rd (by omega)
  have toStp:∀{m' H' hb2 fr' σ'},FS K ⟨M0,ms,H,none⟩ m' H' hb2 fr' σ'->Stp K M0 ms H m' H' hb2:=λs'=>⟨s'.pre,s'.new,s'.keep,s'.at_.wd.shrink λa h=>.inl h⟩
  have shr:∀{m':List Addr} {H':Hp} {fr':Fr} {σ':St},Keeps (Bd (Mf M0 fr' σ') m') (Bd M0 m') m' m' H' H':=Keeps.shrink λb z=>z.elim (λz=>.inl (.inl z)) .inr
  unfold fnE at e
  split at e
  .rename_i fr1 hb1 e1
   cases e
   exact aV s0 e1 λm' H' σ' s' _=>c m' H' (toStp s') .non (by unfold RelD; rfl)
  .rename_i d hb1 e1
   cases e
   exact aV s0 e1 λm' H' σ' fr' v s' _ rv=>c m' H' (toStp s') v (rv.keep shr)
  .rename_i x hb1 e1
   cases e
   refine aV s0 e1 λm' H' σ' fr' C dd s' _ rx=>c m' H' (toStp s') C dd ?_
   exact rx.keep shr
  .cases e
end
section
variable {X:Cx} {W:WX} {pos:Pos}
theorem lI{n:Nat}{ev:a6}{M:Addr->Prop}{m:List Addr}{H:Hp}{hb hb':HB}{fr:Fr}{σ:St}{ds:List D}{vs:List V}{r:R}{Q:VK}(a:At X.K M m H hb fr σ)(hl:ds.length=n)(rd:RelDs X.K (Bd M m) m H ds vs)(e:ev ds hb=some (r,hb'))(c:Pst X.K W M m H fr σ r hb' Q) :
  spF X.K n ev vs H Q (WE W σ):=by
 refine⟨M,m,hb,ds,r,hb',hl,a.wd,rd,e,λm' H' s'=> ?_⟩
 have z:=c m' H' s'
 cases r with
 | ok d=>exact λv rv=>z v rv.t
 | exn x=>exact λC dd rx=>z C dd rx
theorem tG{K:PySem.W.Frag}{W:WX}{evs:Evs}{σ:St}{H:Hp}{g:List D->Ev}{Q:VK}(h:tE K W (eL g evs) σ H Q){R:List V->Hp->Prop}
  (hR:∀{M:Addr->Prop} {m hb fr ds vs H1 r hb'},At K M m H1 hb fr σ->RelTs K M m H1 fr σ ds vs->g ds fr hb=some (r,hb')->Pst K W M m H1 fr σ r hb' Q->R vs H1):tEs K W evs σ H R:=by
 obtain⟨M,m,hb,fr,r,hb',at_,e,c⟩:=dh h
 unfold eL at e
 split at e
 .rename_i ds hb1 e1
  exact⟨M,m,hb,fr,.inl ds,_,at_.wd,at_.fr,e1,λm1 H1 s1 vs rv=>hR (at_.step s1) rv e (c.step s1)⟩
 .rename_i x hb1 e1
  cases e
  exact⟨M,m,hb,fr,.inr x,_,at_.wd,at_.fr,e1,λm1 H1 s1=>c m1 H1 s1⟩
 .cases e
def aM(n:Nat)(ev:a6)(es:Evs):Ev:=eL (λds _ hb=>if av ds && ds.length == n then ev ds hb else none) es
theorem aL{k:Nat}{f:Addr}{fd:FuncData}{ps:List Str}{ev:a6}{x:Str}{p:Pos}{e:Expr}{es:List Expr}{evs:Evs}(F:FOk X.prog X.w X.K X.mg X.base k f fd ps ev)(tk:L2N.Takes X W)(hr:Room k X.A)(hg:Gl X x)(hm:X.mg x=some (.ref f))(hk:PySem.W.keepIn X.K (.ref f)=true)
  (hb:Binds X.K fd ps []) (ha:SEs X W (e::es) evs) (hdb:(x == ("__debug__":Str))=false:=by decide) (he:starEach (e::es) X.env=(false,eval e X.env)::starEach es X.env:=by rfl) (hpl:(backTo pos (starEach es X.env)).any (·.1)=false:=by rfl) :
  SE X W (.Call (.Name x p) (e::es) [] pos) (aM ps.length ev evs):=by
 refine PE.mono (pe_callS F hr hg hm hk hb (λσ=>L2N.passAt tk σ) ha hdb he hpl) λσ H Q h=> ?_
 refine tG h λ{M m hb fr ds vs H1 r hb'} a rv e c=> ?_
 split at e
 .rename_i hv
  obtain⟨h1,h2⟩:=Bool.and_eq_true_iff.mp hv
  exact lI a (by simpa using h2) (rv.val h1) e c
 .cases e
end
end
section
def Mp(M:Addr->Prop)(p:Addr):Addr->Prop:=λa=>M a\/a=p
/-- from (m,H) to (m1,H1),a new object at p that nobody has -/
structure StpP (K:PySem.W.Frag) (M:Addr->Prop) (m:List Addr) (H:Hp) (m1:List Addr) (H1:Hp) (hb1:HB) (p:Addr):Prop where
 pre:∃l,m1=m++l
 new:∀a∈m1,a∉m->H a=none
 fr:∀a o,H a=some o->a∉m->H1 a=some o
 wd:Wd K (Mp M p) m1 H1 hb1
 pn:H p=none
abbrev Cv:=Fr->HB->Option ((O ⊕ Xn)×HB)
def tC'(K:PySem.W.Frag)(W:WX)(cv:Cv):TE:=λσ H Q=>∃(M:Addr->Prop) (m:List Addr) (hb:HB) (fr:Fr) (r:O ⊕ Xn) (hb':HB),At K M m H hb fr σ/\cv fr hb=some (r,hb')/\match r with
 | .inl o=>∀m1 H1 p,StpP K M m H m1 H1 hb' p->RelO K (Bd (Mp M p) m1) m1 H1 o p->Q (.ref p) H1
 | .inr x=>∀m1 H1,Stp K M m H m1 H1 hb'->∀C dd,RelX K (Bd M m1) m1 H1 x C dd->W C dd σ H1
abbrev SC(X:Cx)(W:WX)(e:Expr)(cv:Cv):Prop:=PE X e (tC' X.K W cv)
def O.d:O->D
 | .lst xs=>.lst xs
 | .dct ks vs=>.dct ks vs
 | .ins c fs vs=>.ins c fs vs
 | .tab _=>.ob
section
variable {K:PySem.W.Frag} {M:Addr->Prop} {m m1:List Addr} {H H1:Hp} {hb hb1:HB} {p:Addr}
theorem StpP.stp(s:StpP K M m H m1 H1 hb1 p):Stp K M m H m1 H1 hb1:=⟨s.pre,s.new,s.fr,s.wd.shrink λa h=>.inl h⟩
theorem StpP.not(w:Wd K M m H hb)(s:StpP K M m H m1 H1 hb1 p):¬Bd M m1 p:=λz=>by
 rcases z with z|z
 .obtain⟨u,hu⟩:=w.mt p z
  rw[s.pn] at hu; cases hu
 .exact s.wd.no p z (.inr rfl)
theorem RelO.d_of{B B':Addr->Prop}{o:O}(r:RelO K B m H o p)(hB:∀a,B' a->B a)(nb:¬B' p):RelD K B' m H o.d (.ref p):=by
 have kp:Keeps B B' m m H H:=Keeps.shrink hB
 cases o with
 | lst xs=>obtain⟨vs,h1,h2⟩:=r; unfold O.d RelD; exact⟨p,vs,rfl,⟨h1,nb⟩,h2.keep kp⟩
 | dct ks xs =>
  obtain⟨vs,h1,h2⟩:=r
  unfold O.d RelD
  refine⟨p,vs,rfl,nb,?_,h2.keep kp⟩
  rcases h1 with ⟨kvs,f,h3,h4⟩|⟨kvs,f,h3,h4⟩
  .exact .inl ⟨kvs,f,h3,h4⟩
  .exact .inr ⟨kvs,f,h3,h4⟩
 | ins c fs xs=>obtain⟨dx,vs,h1,h3,h2⟩:=r; unfold O.d RelD; exact⟨p,dx,vs,rfl,nb,h1,h3,h2.keep kp⟩
 | tab q=>unfold O.d RelD; exact⟨p,rfl⟩
/-- nothing tracked is at a free place -/
theorem Wd.grow(w:Wd K M m H hb)(hp:H p=none){o:HO}:Wd K (Mp M p) m (upd H p o) hb:=by
 have s:=w.laid (o:=o) hp
 have nep:∀a u,H a=some u->a≠p:=λa u h=>ne_of_none h hp
 have kp:Keeps (Bd M m) (Bd (Mp M p) m) m m H (upd H p o):=⟨⟨[],by simp⟩,λa u h n=>⟨by rw[upd_ne (nep a u h)]; exact h,λz=>by
  rcases z with (z|z)|z
  .exact n (.inl z)
  .exact nep a u h z
  .exact n (.inr z)⟩⟩
 refine⟨w.nd,λa ha z=> ?_,λa z=> ?_,w.len,λn a ob h1 h2=>(w.ob n a ob h1 h2).keep_own kp λu h=>by rw[upd_ne (nep a u h)]; exact h⟩
 .rcases z with z|z
  .exact w.no a ha z
  .obtain⟨u,hu⟩:=w.there ha
   exact nep a u hu z
 .rcases z with z|z
  .obtain⟨u,hu⟩:=s.wd.mt a z
   exact⟨u,hu⟩
  .subst z
   exact⟨o,upd_same⟩
theorem Keeps.grow(hp:H p=none){o:HO}:Keeps (Bd M m) (Bd (Mp M p) m) m m H (upd H p o):=by
 have nep:∀a u,H a=some u->a≠p:=λa u h=>ne_of_none h hp
 exact⟨⟨[],by simp⟩,λa u h n=>⟨by rw[upd_ne (nep a u h)]; exact h,λz=>by
  rcases z with (z|z)|z
  .exact n (.inl z)
  .exact nep a u h z
  .exact n (.inr z)⟩⟩
theorem Stp.free(s:Stp K M m H m1 H1 hb1)(hp:H1 p=none)(w:Wd K M m H hb):H p=none:=by
 cases q:H p with
 | none=>rfl
 | some o =>
  by_cases hm:p∈m
  .obtain⟨l,e⟩:=s.pre
   obtain⟨u,hu⟩:=s.wd.there (a:=p) (by rw[e]; exact List.mem_append_left _ hm)
   rw[hp] at hu; cases hu
  .have:=s.fr p o q hm
   rw[hp] at this; cases this
/-- laid behind a step -/
theorem Stp.newP(s:Stp K M m H m1 H1 hb1)(w:Wd K M m H hb)(hp:H1 p=none){o:HO}:StpP K M m H m1 (upd H1 p o) hb1 p :=
 ⟨s.pre,s.new,λa u h n=>by rw[upd_ne (ne_of_none (s.fr a u h n) hp)]; exact s.fr a u h n,s.wd.grow hp,s.free hp w⟩
end
section
variable {X:Cx} {W:WX} {G:Gh} {pos:Pos} {e:Expr}
/-- .. then frozen -/
def eFz(cv:Cv):Ev:=λfr hb=>match cv fr hb with
 | some (.inl o,hb1)=>some (.ok o.d,hb1)
 | some (.inr x,hb1)=>some (.exn x,hb1)
 | none=>none
theorem cR{cv:Cv}(h:SC X W e cv):SE X W e (eFz cv):=PE.mono h λσ H Q hq=>by
 obtain⟨M,m,hb,fr,r,hb',at_,e,c⟩:=dh hq
 unfold eFz at e
 split at e
 .rename_i o hb1 e1
  cases e
  refine⟨M,m,hb,fr,.inl o,_,at_,e1,λm1 H1 p s r=> ?_⟩
  exact c m1 H1 s.stp _ (RelD.t (r.d_of (λa z=>z.elim (λz=>.inl (.inl z)) .inr) (s.not at_.wd)))
 .rename_i x hb1 e1
  cases e
  exact⟨M,m,hb,fr,.inr x,_,at_,e1,λm1 H1 s=>c m1 H1 s⟩
 .cases e
/-- .. then boxed -/
def eBx(cv:Cv):Ev:=λfr hb=>match cv fr hb with
 | some (.inl o,hb1)=>some (.ok (.box hb1.length),hb1++[o])
 | some (.inr x,hb1)=>some (.exn x,hb1)
 | none=>none
theorem oQ{cv:Cv}(h:SC X W e cv):SE X W e (eBx cv):=PE.mono h λσ H Q hq=>by
 obtain⟨M,m,hb,fr,r,hb',at_,e,c⟩:=dh hq
 unfold eBx at e
 split at e
 .rename_i o hb1 e1
  cases e
  refine⟨M,m,hb,fr,.inl o,hb1,at_,e1,λm1 H1 p s r=> ?_⟩
  have ps:p∉m1:=λz=>s.wd.no p z (.inr rfl)
  have np:¬M p:=λz=>s.not at_.wd (.inl z)
  have kp:Keeps (Bd (Mp M p) m1) (Bd M (m1++[p])) m1 (m1++[p]) H1 H1:=⟨⟨[p],rfl⟩,λa u q n=>⟨q,λz=>n (by
   rcases z with z|z
   .exact .inl (.inl z)
   .rcases List.mem_append.mp z with z|z
    .exact .inr z
    .exact .inl (.inr (by simpa using z)))⟩⟩
  obtain⟨l,hl⟩:=s.pre
  have st :Stp X.K M m H (m1++[p]) H1 (hb1++[o]):=by
   refine⟨⟨l++[p],by rw[hl,List.append_assoc]⟩,λa ha hn=> ?_,s.fr,⟨?_,λa ha z=> ?_,λa z=>s.wd.mt a (.inl z),by simp[s.wd.len],λn a ob h1 h2=> ?_⟩⟩
   .rcases List.mem_append.mp ha with z|z
    .exact s.new a z hn
    .have:a=p:=by simpa using z
     rw[this]; exact s.pn
   .rw[List.nodup_append]
    refine⟨s.wd.nd,by simp,λa ha b hb2 e=> ?_⟩
    have:b=p:=by simpa using hb2
    subst this
    subst e
    exact ps ha
   .rcases List.mem_append.mp ha with q|q
    .exact s.wd.no a q (.inl z)
    .have:a=p:=by simpa using q
     subst this
     exact np z
   .by_cases hn:n<m1.length
    .rw[List.getElem?_append_left hn] at h1
     rw[List.getElem?_append_left (by rw[s.wd.len]; exact hn)] at h2
     exact(s.wd.ob n a ob h1 h2).keep_own kp λ_ q=>q
    .rw[List.getElem?_append_right (by omega)] at h1
     rw[List.getElem?_append_right (by rw[s.wd.len]; omega),s.wd.len] at h2
     cases k:n - m1.length with
     | succ j=>rw[k] at h1; simp at h1
     | zero =>
      rw[k] at h1 h2
      simp at h1 h2
      subst h1
      subst h2
      exact r.keep_own kp λ_ q=>q
  refine c _ _ st _ ?_
  show RelD _ _ _ _ _ _
  unfold RelD
  exact⟨p,rfl,by rw[s.wd.len,List.getElem?_append_right (Nat.le_refl _)]; simp⟩
 .rename_i x hb1 e1
  cases e
  exact⟨M,m,hb,fr,.inr x,_,at_,e1,λm1 H1 s=>c m1 H1 s⟩
 .cases e
/-- [a,b,..] -/
def pA(es:Evs):Cv:=λfr hb=>match es fr hb with
 | some (.inl ds,hb1)=>if av ds && decide (ds.length<=szL) then some (.inl (.lst ds),hb1) else none
 | some (.inr x,hb1)=>some (.inr x,hb1)
 | none=>none
theorem mO{es:List Expr}{evs:Evs}(h:SEs X W es evs):SC X W (.List es pos) (pA evs):=PE.mono (pe_lst h) λσ H Q hq=>by
 obtain⟨M,m,hb,fr,r,hb',at_,e,c⟩:=hq
 unfold pA at e
 split at e
 .rename_i ds hb1 e1
  split at e
  .rename_i hz
   obtain⟨h1,h2⟩:=Bool.and_eq_true_iff.mp hz
   cases e
   refine⟨M,m,hb,fr,.inl ds,_,at_.wd,at_.fr,e1,λm1 H1 s1 vs rv=>⟨?_,λp hp=> ?_⟩⟩
   .rw[rv.len,<-bd]; exact of_decide_eq_true h2
   .exact c m1 _ p (s1.newP at_.wd hp) ⟨vs,upd_same,(rv.val h1).keep (Keeps.grow hp)⟩
  .cases e
 .rename_i x hb1 e1
  cases e
  exact⟨M,m,hb,fr,.inr x,_,at_.wd,at_.fr,e1,λm1 H1 s1=>c m1 H1 s1⟩
 .cases e
theorem FS.setOw{K:PySem.W.Frag}{m m1:List Addr}{H H1:Hp}{hb hb1:HB}{fr:Fr}{σ:St}{i:Nat}{o:O}{p:Addr}(s:FS K G m H hb fr σ)(hpin:G.pin=none\/i≠0)(hi:i<fr.length)(t:StpP K (Mf G.M0 fr σ) m H m1 H1 hb1 p)(r:RelO K (Bd (Mp (Mf G.M0 fr σ) p) m1) m1 H1 o p) :
  FS K G m1 H1 hb1 (fr.set i (.ow o)) (σ.set i (some (.ref p)))/\Kp G m H fr σ m1 H1 (fr.set i (.ow o)) (σ.set i (some (.ref p))):=by
 have s1:=s.step t.stp
 have sub:∀a,Mf G.M0 (fr.set i (.ow o)) (σ.set i (some (.ref p))) a->Mp (Mf G.M0 fr σ) p a:=λa z=>by
  rcases z with z|⟨j,o',h1,h2⟩
  .exact .inl (.inl z)
  .by_cases e:i=j
   .subst e
    rw[List.getElem?_set] at h2
    simp only[if_true] at h2
    split at h2
    .cases h2; exact .inr rfl
    .cases h2
   .rw[List.getElem?_set_ne e] at h1 h2
    exact .inl (.inr ⟨j,o',h1,h2⟩)
 have hiσ:i<σ.length:=by rw[<-s.at_.fr.1]; exact hi
 have kp:Keeps (Bd (Mp (Mf G.M0 fr σ) p) m1) (Bd (Mf G.M0 (fr.set i (.ow o)) (σ.set i (some (.ref p)))) m1) m1 m1 H1 H1:=Keeps.shrink λb z=>z.elim (λz=>.inl (sub b z)) .inr
 have k0:Keeps (Bd (Mf G.M0 fr σ) m) (Bd (Mp (Mf G.M0 fr σ) p) m1) m m1 H H1:=⟨t.pre,λa u h n=>by
  have k:=t.stp.keeps.fr a u h n
  refine⟨k.1,λz=> ?_⟩
  rcases z with (z|z)|z
  .exact k.2 (.inl z)
  .subst z
   rw[t.pn] at h; cases h
  .exact k.2 (.inr z)⟩
 have pfree:∀(j:Nat) o',fr[j]? =some (.ow o')->σ[j]? ≠some (some (.ref p)):=λj o' h1 h2=>by
  obtain⟨x,e1,a,e2,hM,nm,r2⟩:=s.at_.fr.2 j _ h1
  rw[e1] at h2
  cases h2
  cases e2
  obtain⟨u,hu⟩:=r2.there
  rw[t.pn] at hu; cases hu
 have hsp:G.Hs p=none:=by
  cases q:G.Hs p with
  | none=>rfl
  | some u =>
   by_cases hm:p∈G.ms
   .obtain⟨l,e⟩:=s.pre
    obtain⟨v,hv⟩:=s.at_.wd.there (a:=p) (by rw[e]; exact List.mem_append_left _ hm)
    rw[t.pn] at hv; cases hv
   .have:=s.keep p u q hm
    rw[t.pn] at this; cases this
 refine⟨⟨⟨t.wd.shrink sub,by rw[List.length_set,List.length_set]; exact s.at_.fr.1,λj sv e=> ?_⟩,s.m0,s1.pre,s1.new,s1.keep,s.pin.ow hpin,λj o' a h1 h2=> ?_,λj k o1 o2 a h1 h2 h3 h4=> ?_⟩,k0.trans kp⟩
 .by_cases hj:i=j
  .subst hj
   rw[List.getElem?_set] at e
   simp only[if_true,hi] at e
   cases e
   refine⟨some (.ref p),by rw[List.getElem?_set]; simp[hiσ],p,rfl,.inr ⟨i,o,by rw[List.getElem?_set]; simp[hi],by rw[List.getElem?_set]; simp[hiσ]⟩,λz=>t.wd.no p z (.inr rfl),r.keep_own kp λ_ q=>q⟩
  .rw[List.getElem?_set_ne hj] at e
   obtain⟨x,e1,r1⟩:=s.at_.fr.2 j sv e
   refine⟨x,by rw[List.getElem?_set_ne hj]; exact e1,?_⟩
   cases sv with
   | un=>trivial
   | sh d'=>obtain⟨w,e2,r2⟩:=r1; exact⟨w,e2,(r2.keep k0).keep kp⟩
   | ow o' =>
    obtain⟨a,e2,hM,nm,r2⟩:=r1
    subst e2
    refine⟨a,rfl,.inr ⟨j,o',by rw[List.getElem?_set_ne hj]; exact e,by rw[List.getElem?_set_ne hj]; exact e1⟩,λz=>t.wd.no a z (.inl hM),(r2.keep_own k0 λu q=>t.fr a u q nm).keep_own kp λ_ q=>q⟩
 .by_cases hj:i=j
  .subst hj
   rw[List.getElem?_set] at h2
   simp only[if_true,hiσ] at h2
   cases h2
   exact hsp
  .rw[List.getElem?_set_ne hj] at h1 h2
   exact s.own j o' a h1 h2
 .by_cases hj:i=j
  .by_cases hk:i=k
   .exact hj.symm.trans hk
   .subst hj
    rw[List.getElem?_set] at h3
    simp only[if_true,hiσ] at h3
    cases h3
    rw[List.getElem?_set_ne hk] at h2 h4
    exact absurd h4 (pfree k o2 h2)
  .by_cases hk:i=k
   .subst hk
    rw[List.getElem?_set] at h4
    simp only[if_true,hiσ] at h4
    cases h4
    rw[List.getElem?_set_ne hj] at h1 h3
    exact absurd h3 (pfree j o1 h1)
   .rw[List.getElem?_set_ne hj] at h1 h3
    rw[List.getElem?_set_ne hk] at h2 h4
    exact s.dist j k o1 o2 a h1 h2 h3 h4
def rH(i:Nat)(cv:Cv):Sv:=λfr hb=>match cv fr hb with
 | some (.inl o,hb1)=>if i<fr.length then some (.nx (fr.set i (.ow o)),hb1) else none
 | some (.inr x,hb1)=>some (.ex x,hb1)
 | none=>none
theorem uv{K:PySem.W.Frag}{cv:Cv}{i:Nat}{D:Ends}{σ:St}{H:Hp}(hpin:G.pin=none\/i≠0)(h:tS K W G (rH i cv) D σ H):tAsg (tC' K W cv) (gName i) D σ H:=by
 obtain⟨m,hb,fr,r,hb',s,e,c⟩:=h
 unfold rH at e
 split at e
 .rename_i o hb1 e1
  split at e
  .rename_i hi
   cases e
   refine⟨_,m,hb,fr,.inl o,_,s.at_,e1,λm1 H1 p t r=> ?_⟩
   obtain⟨s2,k2⟩:=s.setOw hpin hi t r
   exact c m1 H1 _ s2 k2
  .cases e
 .rename_i x hb1 e1
  cases e
  exact⟨_,m,hb,fr,.inr x,_,s.at_,e1,λm1 H1 t C dd rx=>c m1 H1 σ fr C dd (s.step t) t.keeps rx⟩
 .cases e
end
end
section
def wipeF(fr:Fr):List Nat->Fr
 | []=>fr
 | v::vs=>(wipeF fr vs).set v .un
/-- nothing is raised within -/
abbrev W0:WX:=λ_ _ _ _=>False
def lcL (t:Tg)(c el:Ev):List D->List D->Fr->HB->Option (List D×HB)
 | [],acc,_,hb=>some (acc,hb)
 | d ::ds,acc,fr,hb=>match stT t d fr with
  | none=>none
  | some fr1=>match c fr1 hb with
   | some (.ok (.bl true),hb1)=>(match el fr1 hb1 with
    | some (.ok y,hb2)=>if y.isVal && decide (acc.length<szL) then lcL t c el ds (acc++[y]) fr hb2 else none
    | _=>none)
   | some (.ok (.bl false),hb1)=>lcL t c el ds acc fr hb1
   | _=>none
def cLc(iv:Iv)(t:Tg)(vs:List Nat)(c el:Ev):Cv:=λfr hb=>match iv fr hb with
 | some (.inl (.ls ds _),hb1)=>(match lcL t c el ds [] (wipeF fr vs) hb1 with
  | some (ys,hb2)=>some (.inl (.lst ys),hb2)
  | none=>none)
 | some (.inr x,hb1)=>some (.inr x,hb1)
 | _=>none
def Tg.slots:Tg->List Nat
 | .nm i=>[i]
 | .tp is=>is
section
variable {K:PySem.W.Frag} {M:Addr->Prop} {m m1:List Addr} {H H1:Hp} {hb hb1:HB} {fr fr':Fr} {σ:St}
theorem At.wipe(a:At K M m H hb fr σ):∀vs:List Nat,At K M m H hb (wipeF fr vs) (wipe σ vs)
 | []=>a
 | v ::vs=>by
  have ih:=At.wipe a vs
  refine⟨a.wd,?_,λi sv e=> ?_⟩
  .show((wipeF fr vs).set v .un).length=((L2.wipe σ vs).set v none).length
   rw[List.length_set,List.length_set]; exact ih.fr.1
  .have e':((wipeF fr vs).set v .un)[i]? =some sv:=e
   show ∃x,((L2.wipe σ vs).set v none)[i]? =some x/\RelS K M m H sv x
   by_cases hi:v=i
   .subst hi
    rw[List.getElem?_set] at e'
    simp only[if_true] at e'
    split at e'
    .rename_i hl
     cases e'
     exact⟨none,by rw[List.getElem?_set]; simp; rw[<-ih.fr.1]; exact hl,trivial⟩
    .cases e'
   .rw[List.getElem?_set_ne hi] at e' ⊢
    exact ih.fr.2 i sv e'
theorem At.set(a:At K M m H hb fr σ){i:Nat}{d:D}{v:V}(r:RelD K (Bd M m) m H d v):At K M m H hb (fr.set i (.sh d)) (σ.set i (some v)):=by
 refine⟨a.wd,by rw[List.length_set,List.length_set]; exact a.fr.1,λj sv e=> ?_⟩
 by_cases hj:i=j
 .subst hj
  rw[List.getElem?_set] at e
  simp only[if_true] at e
  split at e
  .rename_i hl
   cases e
   exact⟨some v,by rw[List.getElem?_set]; simp; rw[<-a.fr.1]; exact hl,v,rfl,r⟩
  .cases e
 .rw[List.getElem?_set_ne hj] at e ⊢
  exact a.fr.2 j sv e
theorem d6{σ:St}{i:Nat}{x:Option V}:∀{vs:List Nat},i∈vs->wipe (σ.set i x) vs=wipe σ vs
 | [],h=>by simp at h
 | v ::vs,h=>by
  show(wipe (σ.set i x) vs).set v none=(wipe σ vs).set v none
  by_cases hv:i∈vs
  .rw[d6 hv]
  .have e:v=i:=by
    rcases List.mem_cons.mp h with q|q
    .exact q.symm
    .exact absurd q hv
   subst e
   have out:∀{ws:List Nat},v∉ws->wipe (σ.set v x) ws=(wipe σ ws).set v x:=by
    intro ws
    induction ws with
    | nil=>intro _; rfl
    | cons w ws ih =>
     intro hn
     show(wipe (σ.set v x) ws).set w none=((wipe σ ws).set w none).set v x
     rw[ih λz=>hn (List.mem_cons_of_mem _ z)]
     exact List.set_comm _ _ λz=>hn (by rw[z]; exact List.mem_cons_self)
   rw[out hv,List.set_set]
theorem iL(σ:St)(vs:List Nat):wipe (wipe σ vs) vs=wipe σ vs:=by
 have gen:∀(ws us:List Nat),(∀w∈ws,w∈us)->∀σ:St,wipe (wipe σ ws) us=wipe σ us:=by
  intro ws
  induction ws with
  | nil=>intro us _ σ; rfl
  | cons w ws ih =>
   intro us h σ
   show wipe ((wipe σ ws).set w none) us=_
   rw[d6 (h w List.mem_cons_self)]
   exact ih us (λx hx=>h x (List.mem_cons_of_mem _ hx)) σ
 exact gen vs vs (λ_ h=>h) σ
theorem jX:∀{is:List Nat} {ds:List D} {ws:List V} {fr:Fr} {σ:St} {vs:List Nat} {Q:St->Hp->Prop},At K M m H hb fr σ->RelDs K (Bd M m) m H ds ws->stAll is ds fr=some fr'->(∀i∈is,i∈vs) ->
  (∀σ',At K M m H hb fr' σ'->wipe σ' vs=wipe σ vs->Q σ' H)->fh is ws σ H Q
 | [],[],ws,fr,σ,vs,Q,s,r,e,hv,c=>by
  cases e
  exact⟨RelDs.nil_iff.mp r,c σ s rfl⟩
 | i::is,d::ds,ws,fr,σ,vs,Q,s,r,e,hv,c=>by
  obtain⟨v,w,rfl,r1,r2⟩:=RelDs.cons_inv r
  refine⟨v,w,rfl,?_⟩
  show fh is w (σ.set i (some v)) H Q
  exact jX (s.set r1) r2 e (λj hj=>hv j (List.mem_cons_of_mem _ hj)) λσ' s' k'=>c σ' s' (k'.trans (d6 (hv i List.mem_cons_self)))
 | [],_::_,_,_,_,_,_,_,_,e,_,_=>by cases e
 | _::_,[],_,_,_,_,_,_,_,e,_,_=>by cases e
theorem hY:∀{is:List Nat} {ds:List D} {fr:Fr},stAll is ds fr=some fr'->ds.length=is.length
 | [],[],_,_=>rfl
 | [],_::_,_,e=>by cases e
 | _::_,[],_,e=>by cases e
 | i::is,d::ds,fr,e=>by simp[hY (show stAll is ds _=some fr' from e)]
theorem qm{t:Tg}{d:D}{v:V}{vs:List Nat}{Q:St->Hp->Prop}(s:At K M m H hb fr σ)(r:RelD K (Bd M m) m H d v)(e:stT t d fr=some fr')(hv:∀i∈t.slots,i∈vs)
  (c:∀σ',At K M m H hb fr' σ'->wipe σ' vs=wipe σ vs->Q σ' H):gT K t v σ H Q:=by
 unfold stT at e
 split at e
 .cases e
  exact c _ (s.set r) (d6 (hv _ (by simp[Tg.slots])))
 .rename_i is ds _
  obtain⟨p,ws,rfl,f,r'⟩:=bz (fr:=[]) (σ:=[]) r
  exact⟨p,ws,rfl,f,by rw[<-hY e,r'.length],jX s r' e hv c⟩
 .cases e
end
section
variable {X:Cx} {W:WX} {pos:Pos} {tg iter elt:Expr} {ifs:List Expr} {scope:Scope} {own:List (Str×Nat)} {iv:Iv} {t:Tg} {c el:Ev}
/-- what a comprehension's loop keeps -/
theorem kE {K : PySem.W.Frag}{σ:St}{H:Hp}{vs:List Nat}{Q:VK}(hv:∀i∈t.slots,i∈vs)(h:tC' K W (cLc iv t vs c el) σ H Q):tLc (tI K W iv) (gT K t) (tT K W0 c) (tE K W0 el) vs σ H Q:=by
 obtain⟨M,m,hb,fr,r,hb',at_,e,cc⟩:=h
 unfold cLc at e
 split at e
 .rename_i ds fz hb1 e1
  split at e
  .rename_i ys hb2 e2
   cases e
   refine⟨M,m,hb,fr,.inl (.ls ds fz),hb1,at_,e1,λm1 H1 s1 J Gd Y wd p hp=> ?_⟩
   have a1:=at_.step s1
   have w1:=a1.wd.grow (o:=.lst []) hp
   have hk0:∀a o,H1 a=some o->upd H1 p (.lst []) a=some o:=λa o q=>by rw[upd_ne (ne_of_none q hp)]; exact q
   have f1:FrR K (Mp M p) m1 (upd H1 p (.lst [])) fr σ:=⟨a1.fr.1,λi sv q=>by
    obtain⟨x,q1,r1⟩:=a1.fr.2 i sv q
    refine⟨x,q1,?_⟩
    cases sv with
    | un=>trivial
    | sh d=>obtain⟨v,q2,r2⟩:=r1; exact⟨v,q2,r2.keep (Keeps.grow hp)⟩
    | ow o=>obtain⟨a,q2,hM,nm,r2⟩:=r1; exact⟨a,q2,.inl hM,nm,r2.keep_own (Keeps.grow hp) λu q=>hk0 a u q⟩⟩
   refine lc_it wd.walk (λi H2=>∃m2 hb2' acc accV,H2 p=some (.lst accV)/\RelDs K (Bd (Mp M p) m2) m2 H2 acc accV/\At K (Mp M p) m2 H2 hb2' fr σ/\(∃l,m2=m1++l)/\(∀a∈m2,a∉m1->H1 a=none)/\(∀a o,H1 a=some o->a∉m1->H2 a=some o) /\
    lcL t c el (ds.drop i) acc (wipeF fr vs) hb2'=some (ys,hb')) ⟨m1,hb1,[],[],upd_same,RelDs.nil',⟨w1,f1⟩,⟨[],by simp⟩,λa h n=>absurd h n,λa o q _=>hk0 a o q,e2⟩ ?_ ?_ ?_
   .rintro i H2 hi ⟨m2,hb3,acc,accV,q1,q2,q3,q4,q5,q6,q7⟩
    refine wd.stand H2 λa o q nb=>q6 a o q λz=>nb ?_
    cases fz with
    | true=>exact .inr z
    | false=>exact z
   .rintro i x H2 H3 hi ⟨m2,hb3,acc,accV,q1,q2,q3,q4,q5,q6,q7⟩ y
    have kk:Keeps (Bd M m1) (Bd (Mp M p) m2) m1 m2 H1 H2:=⟨q4,λa o q n=>by
     have n1:a∉m1:=λz=>n (.inr z)
     refine⟨q6 a o q n1,λz=> ?_⟩
     rcases z with (z|z)|z
     .exact n (.inl z)
     .subst z; rw[hp] at q; cases q
     .have:=q5 a z n1
      rw[q] at this; cases this⟩
    obtain⟨d,hd,rd⟩:=wd.item i H2 x H3 hi y _ m2 kk λa ha=>b6 q3.wd ha
    have st3:Stp K (Mp M p) m2 H2 m2 H3 hb3:=by
     rcases wd.heap i H2 x H3 y with rfl|⟨a,ws,ha,rfl⟩
     .exact Stp.refl q3.wd
     .exact q3.wd.laid ha
    have a3:=q3.step st3
    have pn3:p∉m2:=λz=>q3.wd.no p z (.inr rfl)
    have q1':H3 p=some (.lst accV):=st3.fr p _ q1 pn3
    have q2':=q2.keep st3.keeps
    have hdrop:ds.drop i=d::ds.drop (i+1):=by
     have hlt:=(List.getElem?_eq_some_iff.mp hd).1
     rw[List.drop_eq_getElem_cons hlt,(List.getElem?_eq_some_iff.mp hd).2]
    rw[hdrop] at q7
    unfold lcL at q7
    split at q7
    .cases q7
    .rename_i fr1 z1
     refine qm (a3.wipe vs) rd z1 hv λσ4 a4 ws=>⟨ws.trans (iL σ vs),?_⟩
     -- back to the frame ahead
     have back:∀{m4:List Addr} {H4:Hp} {hb4:HB},Stp K (Mp M p) m2 H3 m4 H4 hb4->At K (Mp M p) m4 H4 hb4 fr σ:=λs4=>a3.step s4
     have pre4:∀{m4:List Addr} {H4:Hp} {hb4:HB},Stp K (Mp M p) m2 H3 m4 H4 hb4->(∃l,m4=m1++l)/\(∀a∈m4,a∉m1->H1 a=none)/\(∀a o,H1 a=some o->a∉m1->H4 a=some o):=λs4=>by
      have st:=st3.trans s4
      obtain⟨l,hl⟩:=q4
      obtain⟨l2,hl2⟩:=st.pre
      refine⟨⟨l++l2,by rw[hl2,hl,List.append_assoc]⟩,λa ha hn=> ?_,λa o q hn=> ?_⟩
      .by_cases h2:a∈m2
       .exact q5 a h2 hn
       .have:=st.new a ha h2
        cases q:H1 a with
        | none=>rfl
        | some o=>have z:=q6 a o q hn; rw[this] at z; cases z
      .refine st.fr a o (q6 a o q hn) λz=> ?_
       have:=q5 a z hn
       rw[q] at this; cases this
     split at q7
     .rename_i hb4 z2
      refine⟨Mp M p,m2,hb3,fr1,.ok (.bl true),hb4,a4.wd,a4.fr,z2,λm4 H4 s4=>⟨true,rfl,ift ?_⟩⟩
      split at q7
      .rename_i yd hb5 z3
       split at q7
       .rename_i hz
        obtain⟨hz1,hz2⟩:=Bool.and_eq_true_iff.mp hz
        refine b3 (a4.step s4) z3 λm5 H5 s5 yv ry=> ?_
        have s45:=s4.trans s5
        have p5:p∉m5:=λz=>s5.wd.no p z (.inr rfl)
        have q5':H5 p=some (.lst accV):=s45.fr p _ q1' pn3
        have acc5:=q2'.keep s45.keeps
        have a5:=back s45
        obtain⟨g1,g2,g3⟩:=pre4 s45
        have ryv:=ry.val hz1
        -- p is written
        have kw:Keeps (Bd (Mp M p) m5) (Bd (Mp M p) m5) m5 m5 H5 (upd H5 p (.lst (accV++[yv]))):=⟨⟨[],by simp⟩,λa o q n=>⟨by
         have:a≠p:=λz=>n (.inl (.inr z))
         rw[upd_ne this]; exact q,n⟩⟩
        have nep:∀a∈m5,a≠p:=λa ha z=>p5 (by rw[<-z]; exact ha)
        have wdw:Wd K (Mp M p) m5 (upd H5 p (.lst (accV++[yv]))) hb5:=by
         refine⟨s5.wd.nd,s5.wd.no,λa ha=> ?_,s5.wd.len,λn a ob h1 h2=>(s5.wd.ob n a ob h1 h2).keep_own kw λu q=> ?_⟩
         .by_cases hap:a=p
          .subst hap; exact⟨_,upd_same⟩
          .rw[upd_ne hap]; exact s5.wd.mt a ha
         .rw[upd_ne (nep a (List.mem_of_getElem? h1))]; exact q
        refine⟨accV,q5',?_,m5,hb5,acc++[yd],accV++[yv],upd_same,(acc5.append (RelDs.cons ryv RelDs.nil')).keep kw,⟨wdw,a5.fr.1,λj sv q=> ?_⟩,g1,g2,λa o q hn=> ?_,q7⟩
        .rw[<-acc5.length,<-bd]; exact of_decide_eq_true hz2
        .obtain⟨x',q8,r8⟩:=a5.fr.2 j sv q
         refine⟨x',q8,?_⟩
         cases sv with
         | un=>trivial
         | sh d'=>obtain⟨v',q9,r9⟩:=r8; exact⟨v',q9,r9.keep kw⟩
         | ow o =>
          obtain⟨a,q9,hM,nm,r9⟩:=r8
          refine⟨a,q9,hM,nm,r9.keep_own kw λu q=> ?_⟩
          by_cases hap:a=p
          .-- the frame's own objects are older than p
           subst hap
           obtain⟨x0,c1,r0⟩:=a1.fr.2 j _ (by assumption)
           obtain⟨b,c2,_,_,r0'⟩:=r0
           rw[q8] at c1
           cases c1
           rw[q9] at c2
           cases c2
           obtain⟨u0,hu0⟩:=r0'.there
           rw[hp] at hu0; cases hu0
          .rw[upd_ne hap]; exact q
        .have hap:a≠p:=ne_of_none q hp
         rw[upd_ne hap]
         exact g3 a o q hn
       .cases q7
      .cases q7
     .rename_i hb4 z2
      refine⟨Mp M p,m2,hb3,fr1,.ok (.bl false),hb4,a4.wd,a4.fr,z2,λm4 H4 s4=>⟨false,rfl,sX ?_⟩⟩
      obtain⟨g1,g2,g3⟩:=pre4 s4
      exact⟨m4,hb4,acc,accV,s4.fr p _ q1' pn3,q2'.keep s4.keeps,back s4,g1,g2,g3,q7⟩
     .cases q7
   .rintro H2 ⟨m2,hb3,acc,accV,q1,q2,q3,⟨l2,hl2⟩,q5,q6,q7⟩
    rw[List.drop_length] at q7
    cases q7
    obtain⟨l1,hl1⟩:=s1.pre
    refine cc m2 H2 p ⟨⟨l1++l2,by rw[hl2,hl1,List.append_assoc]⟩,λa ha hn=> ?_,λa o q hn=> ?_,q3.wd,s1.free hp at_.wd⟩ ⟨accV,q1,q2⟩
    .by_cases h1:a∈m1
     .exact s1.new a h1 hn
     .have:=q5 a ha h1
      cases q:H a with
      | none=>rfl
      | some o=>have z:=s1.fr a o q hn; rw[this] at z; cases z
    .refine q6 a o (s1.fr a o q hn) λz=> ?_
     have:=s1.new a z hn
     rw[q] at this; cases this
  .cases e
 .rename_i x hb1 e1
  cases e
  exact⟨M,m,hb,fr,.inr x,_,at_,e1,λm1 H1 s1=>cc m1 H1 s1⟩
 .cases e
/-- the judgement of what stands within -/
abbrev Blk(X:Cx)(scope:Scope)(R:Cx->Prop):Prop:=∀(s:Shared) (H:Hp) (C:Addr) (cl:List (Str×Addr)) (fp:List Addr),R (X.blk s H scope (compEnvC scope cl C X.env) fp)
abbrev STs(X:Cx)(W:WX)(es:List Expr)(ev:Ev):Prop:=PTs X es (tT X.K W ev)
theorem dm{X:Cx}{W:WX}:STs X W [] (eC (.bl true)):=⟨λpins s σ H Q I h=>by
 obtain⟨M,m,hb,fr,r,hb',w,f,e,c⟩:=h
 cases e
 obtain⟨b,q1,q2⟩:=c m H (Stp.refl w)
 cases q1
 exact pts_nil.run pins s σ H Q I q2⟩
theorem lW{X:Cx}{W:WX}{e:Expr}{ev:Ev}(h:ST X W e ev):STs X W [e] ev:=pts_one h
theorem lS(hc:X.calm=true)(hN:X.N.Nodup)(hi:SI X W tg iter iv)(ok:BlkOk X.N X.env.scope scope own)(hv:∀i∈t.slots,i∈own.map (·.2))(hg:Blk X scope λY=>SG Y tg t)(ht:Blk X scope λY=>STs Y W0 ifs c)(he:Blk X scope λY=>SE Y W0 elt el)
  (hs:∀x,foldedSetIterable iter X.env x=pure x:=by intro _; rfl):SC X W (.ListComp elt [⟨tg,iter,ifs,0⟩] scope pos) (cLc iv t (own.map (·.2)) c el) :=
 PE.mono (pe_lc hc hN hi ok hg ht he hs) λ_ _ _ h=>kE hv h
theorem j1{G:Gh}{i:Nat}{y:Str}{py spos:Pos}(hpin:G.pin=none\/i≠0)(hc:X.calm=true)(hN:X.N.Nodup)(hy:X.N[i]? =some y)(hyl:X.env.scope.names.lookup y=some .local)(hsw:swapsWith (.ListComp elt [⟨tg,iter,ifs,0⟩] scope pos) (some (.Name y py)) spos.line X.env=pure true)
  (hi:SI X W tg iter iv) (ok:BlkOk X.N X.env.scope scope own) (hv:∀i∈t.slots,i∈own.map (·.2)) (hg:Blk X scope λY=>SG Y tg t) (ht:Blk X scope λY=>STs Y W0 ifs c) (he:Blk X scope λY=>SE Y W0 elt el)
  (hs:∀x,foldedSetIterable iter X.env x=pure x:=by intro _; rfl):SS X W G (.Assign [.Name y py] (.ListComp elt [⟨tg,iter,ifs,0⟩] scope pos) spos) (rH i (cLc iv t (own.map (·.2)) c el)) :=
 PS.mono (ps_setLc hc hN hy hyl hsw hi ok hg ht he hs) λD σ H h=>by
  have z:=uv hpin h
  show tLc (tI X.K W iv) (gT X.K t) (tT X.K W0 c) (tE X.K W0 el) (own.map (·.2)) σ H (λx H1=>gName i x σ H1 D.nx)
  exact kE hv z
end
end
section
def Mx'(M0:Addr->Prop)(fr:Fr)(σ:St)(ps:List Addr):Addr->Prop:=λa=>Mf M0 fr σ a\/a∈ps
structure FSx (K:PySem.W.Frag) (G:Gh) (ps:List Addr) (m:List Addr) (H:Hp) (hb:HB) (fr:Fr) (σ:St):Prop where
 at_:At K (Mx' G.M0 fr σ ps) m H hb fr σ
 m0:∀a,G.M0 a->∃o,G.Hs a=some o
 pre:∃l,m=G.ms++l
 new:∀a∈m,a∉G.ms->G.Hs a=none
 keep:∀a o,G.Hs a=some o->a∉G.ms->H a=some o
 pin:PinOk G.pin fr σ
 own:∀(i:Nat) o a,fr[i]? =some (.ow o)->σ[i]? =some (some (.ref a))->G.Hs a=none
 dist:∀(i j:Nat) o o' a,fr[i]? =some (.ow o)->fr[j]? =some (.ow o')->σ[i]? =some (some (.ref a))->σ[j]? =some (some (.ref a))->i=j
 psn:ps.Nodup
 psh:∀p∈ps,G.Hs p=none
 pso:∀p∈ps,∀(i:Nat) o,fr[i]? =some (.ow o)->σ[i]? ≠some (some (.ref p))
section
variable {K:PySem.W.Frag} {W:WX} {G:Gh} {ps:List Addr} {m m1:List Addr} {H H1:Hp} {hb hb1:HB} {fr:Fr} {σ:St}
theorem At.shrink{M M':Addr->Prop}(a:At K M m H hb fr σ)(h:∀x,M' x->M x)(hk:∀(i:Nat) o x,fr[i]? =some (.ow o)->σ[i]? =some (some (.ref x))->M' x):At K M' m H hb fr σ:=by
 have kp:Keeps (Bd M m) (Bd M' m) m m H H:=Keeps.shrink λb z=>z.elim (λz=>.inl (h b z)) .inr
 refine⟨a.wd.shrink h,a.fr.1,λi sv e=> ?_⟩
 obtain⟨x,e1,r⟩:=a.fr.2 i sv e
 refine⟨x,e1,?_⟩
 cases sv with
 | un=>trivial
 | sh d=>obtain⟨v,e2,r2⟩:=r; exact⟨v,e2,r2.keep kp⟩
 | ow o =>
  obtain⟨b,e2,hM,nm,r2⟩:=r
  subst e2
  exact⟨b,rfl,hk i o b e e1,nm,r2.keep_own kp λ_ q=>q⟩
theorem FS.x(s:FS K G m H hb fr σ):FSx K G [] m H hb fr σ :=
 ⟨s.at_.shrink (λx h=>h.elim id λz=>by simp at z) (λi o x h1 h2=>.inl (.inr ⟨i,o,h1,h2⟩)),s.m0,s.pre,s.new,s.keep,s.pin,s.own,s.dist,List.nodup_nil,λp h=>by simp at h,λp h=>by simp at h⟩
theorem FSx.fs(s:FSx K G [] m H hb fr σ):FS K G m H hb fr σ :=
 ⟨s.at_.shrink (λx h=>.inl h) (λi o x h1 h2=>.inr ⟨i,o,h1,h2⟩),s.m0,s.pre,s.new,s.keep,s.pin,s.own,s.dist⟩
theorem FSx.step(s:FSx K G ps m H hb fr σ)(t:Stp K (Mx' G.M0 fr σ ps) m H m1 H1 hb1):FSx K G ps m1 H1 hb1 fr σ:=by
 obtain⟨l,hl⟩:=s.pre
 obtain⟨l2,hl2⟩:=t.pre
 refine⟨s.at_.step t,s.m0,⟨l++l2,by rw[hl2,hl,List.append_assoc]⟩,λa ha hn=> ?_,λa o h hn=> ?_,s.pin,s.own,s.dist,s.psn,s.psh,s.pso⟩
 .by_cases h1:a∈m
  .exact s.new a h1 hn
  .have z:=t.new a ha h1
   cases q:G.Hs a with
   | none=>rfl
   | some o=>have:=s.keep a o q hn; rw[z] at this; cases this
 .refine t.fr a o (s.keep a o h hn) λz=> ?_
  have:=s.new a z hn
  rw[h] at this; cases this
/-- what is not tracked was not at the entry -/
theorem FSx.hs(s:FSx K G ps m H hb fr σ){p:Addr}(hp:H p=none):G.Hs p=none:=by
 cases q:G.Hs p with
 | none=>rfl
 | some u =>
  by_cases hm:p∈G.ms
  .obtain⟨l,e⟩:=s.pre
   obtain⟨v,hv⟩:=s.at_.wd.there (a:=p) (by rw[e]; exact List.mem_append_left _ hm)
   rw[hp] at hv; cases hv
  .have:=s.keep p u q hm
   rw[hp] at this; cases this
/-- one more new object -/
theorem FSx.more(s:FSx K G ps m H hb fr σ){p:Addr}(t:StpP K (Mx' G.M0 fr σ ps) m H m1 H1 hb1 p):FSx K G (p::ps) m1 H1 hb1 fr σ:=by
 have s1:=s.step t.stp
 have eq:∀a,Mx' G.M0 fr σ (p::ps) a->Mp (Mx' G.M0 fr σ ps) p a:=λa z=>by
  rcases z with z|z
  .exact .inl (.inl z)
  .rcases List.mem_cons.mp z with z|z
   .exact .inr z
   .exact .inl (.inr z)
 have ptr:∀q∈ps,∃u,H q=some u:=λq hq=>s.at_.wd.mt q (.inr hq)
 have k0:Keeps (Bd (Mx' G.M0 fr σ ps) m) (Bd (Mp (Mx' G.M0 fr σ ps) p) m1) m m1 H H1:=⟨t.pre,λa u h n=>by
  have k:=t.stp.keeps.fr a u h n
  refine⟨k.1,λz=> ?_⟩
  rcases z with (z|z)|z
  .exact k.2 (.inl z)
  .subst z
   rw[t.pn] at h; cases h
  .exact k.2 (.inr z)⟩
 have a1:At K (Mp (Mx' G.M0 fr σ ps) p) m1 H1 hb1 fr σ:=by
  refine⟨t.wd,s.at_.fr.1,λi sv e=> ?_⟩
  obtain⟨x,e1,r⟩:=s.at_.fr.2 i sv e
  refine⟨x,e1,?_⟩
  cases sv with
  | un=>trivial
  | sh d=>obtain⟨v,e2,r2⟩:=r; exact⟨v,e2,r2.keep k0⟩
  | ow o =>
   obtain⟨b,e2,hM,nm,r2⟩:=r
   exact⟨b,e2,.inl hM,λz=>t.wd.no b z (.inl hM),r2.keep_own k0 λu q=>t.fr b u q nm⟩
 refine⟨a1.shrink eq λi o x h1 h2=>.inl (.inr ⟨i,o,h1,h2⟩),s1.m0,s1.pre,s1.new,s1.keep,s1.pin,s1.own,s1.dist,List.nodup_cons.mpr ⟨λhq=> ?_,s.psn⟩,λq hq=> ?_,λq hq i o h1 h2=> ?_⟩
 .obtain⟨u,hu⟩:=ptr p hq
  rw[t.pn] at hu; cases hu
 .rcases List.mem_cons.mp hq with e|e
  .rw[e]; exact s.hs t.pn
  .exact s.psh q e
 .rcases List.mem_cons.mp hq with e|e
  .subst e
   obtain⟨x,e1,b,e2,hM,nm,r2⟩:=s.at_.fr.2 i _ h1
   rw[e1] at h2
   cases h2
   cases e2
   obtain⟨u,hu⟩:=r2.there
   rw[t.pn] at hu; cases hu
  .exact s.pso q e i o h1 h2
theorem FSx.setSh(s:FSx K G ps m H hb fr σ){i:Nat}{d:D}{v:V}(r:RelD K (Bd (Mx' G.M0 fr σ ps) m) m H d v):FSx K G ps m H hb (fr.set i (.sh d)) (σ.set i (some v)):=by
 have sub:∀a,Mx' G.M0 (fr.set i (.sh d)) (σ.set i (some v)) ps a->Mx' G.M0 fr σ ps a:=λa z=>z.elim (λz=>.inl (Mf.set_sh z)) .inr
 have ne:∀(j:Nat) o,(fr.set i (.sh d))[j]? =some (.ow o)->i≠j:=λj o h e=>by
  subst e
  rw[List.getElem?_set] at h
  simp at h
 refine⟨(s.at_.set r).shrink sub λj o x h1 h2=>.inl (.inr ⟨j,o,h1,h2⟩),s.m0,s.pre,s.new,s.keep,s.pin.sh,λj o a h1 h2=> ?_,λj k o o' a h1 h2 h3 h4=> ?_,s.psn,s.psh,λp hp j o h1 h2=> ?_⟩
 .have hj:=ne j o h1
  rw[List.getElem?_set_ne hj] at h1 h2
  exact s.own j o a h1 h2
 .have hj:=ne j o h1
  have hk:=ne k o' h2
  rw[List.getElem?_set_ne hj] at h1 h3
  rw[List.getElem?_set_ne hk] at h2 h4
  exact s.dist j k o o' a h1 h2 h3 h4
 .have hj:=ne j o h1
  rw[List.getElem?_set_ne hj] at h1 h2
  exact s.pso p hp j o h1 h2
theorem Kp.x{i:Nat}{d:D}{x:Option V}:Keeps (Bd (Mx' G.M0 fr σ ps) m) (Bd (Mx' G.M0 (fr.set i (.sh d)) (σ.set i x) ps) m) m m H H :=
 Keeps.shrink λb z=>z.elim (λz=>.inl (z.elim (λz=>.inl (Mf.set_sh z)) .inr)) .inr
/-- the new object p becomes the slot's -/
theorem FSx.setOw(s:FSx K G (ps++p::qs) m H hb fr σ){i:Nat}(hpin:G.pin=none\/i≠0)(hi:i<fr.length){o:O}(r:RelO K (Bd (Mx' G.M0 fr σ (ps++p::qs)) m) m H o p) :
  FSx K G (ps++qs) m H hb (fr.set i (.ow o)) (σ.set i (some (.ref p)))/\Keeps (Bd (Mx' G.M0 fr σ (ps++p::qs)) m) (Bd (Mx' G.M0 (fr.set i (.ow o)) (σ.set i (some (.ref p))) (ps++qs)) m) m m H H:=by
 have hiσ:i<σ.length:=by rw[<-s.at_.fr.1]; exact hi
 have pin:p∈ps++p::qs:=by simp
 have sub:∀a,Mx' G.M0 (fr.set i (.ow o)) (σ.set i (some (.ref p))) (ps++qs) a->Mx' G.M0 fr σ (ps++p::qs) a:=λa z=>by
  rcases z with (z|⟨j,o',h1,h2⟩)|z
  .exact .inl (.inl z)
  .by_cases e:i=j
   .subst e
    rw[List.getElem?_set] at h2
    simp only[if_true,hiσ] at h2
    cases h2
    exact .inr pin
   .rw[List.getElem?_set_ne e] at h1 h2
    exact .inl (.inr ⟨j,o',h1,h2⟩)
  .refine .inr ?_
   rcases List.mem_append.mp z with z|z
   .exact List.mem_append_left _ z
   .exact List.mem_append_right _ (List.mem_cons_of_mem _ z)
 have nd:=s.psn
 rw[List.nodup_append] at nd
 obtain⟨nd1,nd2,nd3⟩:=nd
 have nd2':=List.nodup_cons.mp nd2
 have pnew:∀q∈ps++qs,q≠p:=λq hq e=>by
  subst e
  rcases List.mem_append.mp hq with h|h
  .exact nd3 q h q List.mem_cons_self rfl
  .exact nd2'.1 h
 have a1:At K (Mx' G.M0 fr σ (ps++p::qs)) m H hb (fr.set i (.ow o)) (σ.set i (some (.ref p))):=by
  refine⟨s.at_.wd,by rw[List.length_set,List.length_set]; exact s.at_.fr.1,λj sv e=> ?_⟩
  by_cases hj:i=j
  .subst hj
   rw[List.getElem?_set] at e
   simp only[if_true,hi] at e
   cases e
   exact⟨some (.ref p),by rw[List.getElem?_set]; simp[hiσ],p,rfl,.inr pin,λz=>s.at_.wd.no p z (.inr pin),r⟩
  .rw[List.getElem?_set_ne hj] at e ⊢
   exact s.at_.fr.2 j sv e
 refine⟨⟨a1.shrink sub λj o' x h1 h2=>.inl (.inr ⟨j,o',h1,h2⟩),s.m0,s.pre,s.new,s.keep,s.pin.ow hpin,λj o' a h1 h2=> ?_,λj k o1 o2 a h1 h2 h3 h4=> ?_,?_,λq hq=>s.psh q ?_,λq hq j o' h1 h2=> ?_⟩,Keeps.shrink λb z=>z.elim (λz=>.inl (sub b z)) .inr⟩
 .by_cases hj:i=j
  .subst hj
   rw[List.getElem?_set] at h2
   simp only[if_true,hiσ] at h2
   cases h2
   exact s.psh p pin
  .rw[List.getElem?_set_ne hj] at h1 h2
   exact s.own j o' a h1 h2
 .by_cases hj:i=j
  .by_cases hk:i=k
   .exact hj.symm.trans hk
   .subst hj
    rw[List.getElem?_set] at h3
    simp only[if_true,hiσ] at h3
    cases h3
    rw[List.getElem?_set_ne hk] at h2 h4
    exact absurd h4 (s.pso p pin k o2 h2)
  .by_cases hk:i=k
   .subst hk
    rw[List.getElem?_set] at h4
    simp only[if_true,hiσ] at h4
    cases h4
    rw[List.getElem?_set_ne hj] at h1 h3
    exact absurd h3 (s.pso p pin j o1 h1)
   .rw[List.getElem?_set_ne hj] at h1 h3
    rw[List.getElem?_set_ne hk] at h2 h4
    exact s.dist j k o1 o2 a h1 h2 h3 h4
 .rw[List.nodup_append]
  exact⟨nd1,nd2'.2,λa ha b hb'=>nd3 a ha b (List.mem_cons_of_mem _ hb')⟩
 .rcases List.mem_append.mp hq with z|z
  .exact List.mem_append_left _ z
  .exact List.mem_append_right _ (List.mem_cons_of_mem _ z)
 .by_cases hj:i=j
  .subst hj
   rw[List.getElem?_set] at h2
   simp only[if_true,hiσ] at h2
   cases h2
   exact pnew p hq rfl
  .rw[List.getElem?_set_ne hj] at h1 h2
   refine s.pso q ?_ j o' h1 h2
   rcases List.mem_append.mp hq with z|z
   .exact List.mem_append_left _ z
   .exact List.mem_append_right _ (List.mem_cons_of_mem _ z)
end
end
section
inductive Mx where
 | v (ev:Ev)|o (cv:Cv)
inductive MI where
 | v (d:D)|o (o:O)
def eMs:List Mx->Fr->HB->Option ((List MI ⊕ Xn)×HB)
 | [],_,hb=>some (.inl [],hb)
 | .v ev::r,fr,hb=>match ev fr hb with
  | some (.ok d,hb1)=>if d.isVal then (match eMs r fr hb1 with
   | some (.inl is,hb2)=>some (.inl (.v d::is),hb2)
   | some (.inr x,hb2)=>some (.inr x,hb2)
   | none=>none) else none
  | some (.exn x,hb1)=>some (.inr x,hb1)
  | none=>none
 | .o cv::r,fr,hb=>match cv fr hb with
  | some (.inl o,hb1)=>(match eMs r fr hb1 with
   | some (.inl is,hb2)=>some (.inl (.o o::is),hb2)
   | some (.inr x,hb2)=>some (.inr x,hb2)
   | none=>none)
  | some (.inr x,hb1)=>some (.inr x,hb1)
  | none=>none
def SMx(X:Cx)(W:WX)(e:Expr):Mx->Prop
 | .v ev=>SE X W e ev
 | .o cv=>SC X W e cv
/-- the items by their values,ps the new objects among them -/
inductive RelMI (K:PySem.W.Frag) (M:Addr->Prop) (m:List Addr) (H:Hp):List MI->List V->List Addr->Prop
 | nil:RelMI K M m H [] [] []
 | v {d v is vs ps}:RelD K (Bd M m) m H d v->RelMI K M m H is vs ps->RelMI K M m H (.v d::is) (v::vs) ps
 | o {o p is vs ps}:RelO K (Bd M m) m H o p->RelMI K M m H is vs ps->RelMI K M m H (.o o::is) (.ref p::vs) (p::ps)
def tMs(K:PySem.W.Frag)(W:WX)(G:Gh)(mxs:List Mx):TA:=λσ H Q=>∃(ps0 m:List Addr) (hb:HB) (fr:Fr) (r:List MI ⊕ Xn) (hb':HB),FSx K G ps0 m H hb fr σ/\eMs mxs fr hb=some (r,hb')/\match r with
 | .inl is=>∀ps m1 H1 vs,FSx K G (ps++ps0) m1 H1 hb' fr σ->Keeps (Bd (Mx' G.M0 fr σ ps0) m) (Bd (Mx' G.M0 fr σ (ps++ps0)) m1) m m1 H H1->(∀p∈ps0,∀o,H p=some o->H1 p=some o)->RelMI K (Mx' G.M0 fr σ (ps++ps0)) m1 H1 is vs ps->Q vs H1
 | .inr x=>∀m1 H1 C dd,FS K G m1 H1 hb' fr σ->Kp G m H fr σ m1 H1 fr σ->RelX K (Bd (Mf G.M0 fr σ) m1) m1 H1 x C dd->W C dd σ H1
section
variable {K:PySem.W.Frag} {W:WX} {G:Gh} {ps qs:List Addr} {m m1:List Addr} {H H1:Hp} {hb hb1:HB} {fr fr':Fr} {σ:St}
theorem FSx.sub(s:FSx K G ps m H hb fr σ)(h:∀p∈qs,p∈ps)(nd:qs.Nodup):FSx K G qs m H hb fr σ :=
 ⟨s.at_.shrink (λx z=>z.elim .inl λz=>.inr (h x z)) (λi o x h1 h2=>.inl (.inr ⟨i,o,h1,h2⟩)),s.m0,s.pre,s.new,s.keep,s.pin,s.own,s.dist,nd,λp hp=>s.psh p (h p hp),λp hp=>s.pso p (h p hp)⟩
theorem FSx.drop(s:FSx K G ps m H hb fr σ):FS K G m H hb fr σ:=(s.sub (qs:=[]) (λp h=>by simp at h) List.nodup_nil).fs
theorem Keeps.subX(h:∀p∈qs,p∈ps):Keeps (Bd (Mx' G.M0 fr σ ps) m) (Bd (Mx' G.M0 fr σ qs) m) m m H H:=Keeps.shrink λb z=>z.elim (λz=>.inl (z.elim .inl λz=>.inr (h b z))) .inr
theorem RelMI.keep{M M':Addr->Prop}(k:Keeps (Bd M m) (Bd M' m1) m m1 H H1):∀{is:List MI} {vs:List V} {ps:List Addr},RelMI K M m H is vs ps->(∀p∈ps,∀o,H p=some o->H1 p=some o)->RelMI K M' m1 H1 is vs ps
 | _,_,_,.nil,_=>.nil
 | _,_,_,.v r t,h=>.v (r.keep k) (RelMI.keep k t h)
 | _,_,_,.o r t,h=>.o (r.keep_own k (h _ List.mem_cons_self)) (RelMI.keep k t λp hp=>h p (List.mem_cons_of_mem _ hp))
end
section
variable {X:Cx} {W:WX} {G:Gh}
theorem qq:PA X [] (tMs X.K W G []):=PA.mono pa_nil λσ H Q h=>by
 obtain⟨ps0,m,hb,fr,r,hb',s,e,c⟩:=h
 cases e
 exact c [] m H [] s Keeps.refl (λ_ _ _ q=>q) .nil
theorem f4{e:Expr}{es:List Expr}{mx:Mx}{mxs:List Mx}(h:SMx X W e mx)(hs:PA X es (tMs X.K W G mxs))(hst:starEach (e::es) X.env=(false,eval e X.env)::starEach es X.env:=by rfl):PA X (e::es) (tMs X.K W G (mx::mxs)):=by
 cases mx with
 | v ev =>
  refine PA.mono (pa_cons (te:=tE X.K W ev) h hs hst) λσ H Q hq=> ?_
  obtain⟨ps0,m,hb,fr,r,hb',s,e,c⟩:=hq
  unfold eMs at e
  show tE X.K W ev σ H λx H1=>tMs X.K W G mxs σ H1 λxs H2=>Q (x::xs) H2
  split at e
  .rename_i d hb1 e1
   split at e
   .rename_i hv
    refine b3 s.at_ e1 λm1 H1 t1 v rv=> ?_
    have s1:=s.step t1
    have rd:=rv.val hv
    split at e
    .rename_i is hb2 e2
     cases e
     refine⟨ps0,m1,hb1,fr,.inl is,_,s1,e2,λps m2 H2 vs s2 k2 o2 r2=> ?_⟩
     exact c ps m2 H2 (v::vs) s2 (t1.keeps.trans k2) (λp hp o q=>o2 p hp o (t1.fr p o q λz=>s.at_.wd.no p z (.inr hp))) (.v (rd.keep k2) r2)
    .rename_i x hb2 e2
     cases e
     refine⟨ps0,m1,hb1,fr,.inr x,_,s1,e2,λm2 H2 C dd s2 k2 rx=> ?_⟩
     refine c m2 H2 C dd s2 ?_ rx
     have s0:=s.drop
     have t0:Stp X.K (Mf G.M0 fr σ) m H m1 H1 hb1:=⟨t1.pre,t1.new,t1.fr,t1.wd.shrink λa z=>.inl z⟩
     exact t0.keeps.trans k2
    .cases e
   .cases e
  .rename_i x hb1 e1
   cases e
   refine b3 s.at_ e1 λm1 H1 t1 C dd rx=> ?_
   have t0:Stp X.K (Mf G.M0 fr σ) m H m1 H1 hb':=⟨t1.pre,t1.new,t1.fr,t1.wd.shrink λa z=>.inl z⟩
   refine c m1 H1 C dd (s.step t1).drop t0.keeps ?_
   exact rx.keep (Keeps.shrink λb z=>z.elim (λz=>.inl (.inl z)) .inr)
  .cases e
 | o cv =>
  refine PA.mono (pa_cons (te:=tC' X.K W cv) h hs hst) λσ H Q hq=> ?_
  obtain⟨ps0,m,hb,fr,r,hb',s,e,c⟩:=hq
  unfold eMs at e
  show tC' X.K W cv σ H λx H1=>tMs X.K W G mxs σ H1 λxs H2=>Q (x::xs) H2
  split at e
  .rename_i o hb1 e1
   refine⟨_,m,hb,fr,.inl o,hb1,s.at_,e1,λm1 H1 p t1 ro=> ?_⟩
   have s1:=s.more t1
   have k01:Keeps (Bd (Mx' G.M0 fr σ ps0) m) (Bd (Mx' G.M0 fr σ (p::ps0)) m1) m m1 H H1:=⟨t1.pre,λa u q n=>by
    have k:=t1.stp.keeps.fr a u q n
    refine⟨k.1,λz=> ?_⟩
    rcases z with (z|z)|z
    .exact k.2 (.inl (.inl z))
    .rcases List.mem_cons.mp z with z|z
     .subst z; rw[t1.pn] at q; cases q
     .exact k.2 (.inl (.inr z))
    .exact k.2 (.inr z)⟩
   have ro':RelO X.K (Bd (Mx' G.M0 fr σ (p::ps0)) m1) m1 H1 o p:=ro.keep_own (Keeps.shrink λb z=>by
    rcases z with (z|z)|z
    .exact .inl (.inl (.inl z))
    .rcases List.mem_cons.mp z with z|z
     .exact .inl (.inr z)
     .exact .inl (.inl (.inr z))
    .exact .inr z) λ_ q=>q
   split at e
   .rename_i is hb2 e2
    cases e
    refine⟨p::ps0,m1,hb1,fr,.inl is,_,s1,e2,λps m2 H2 vs s2 k2 o2 r2=> ?_⟩
    have memEq:∀a,a∈ps++p::ps0<->a∈(p::ps)++ps0:=λa=>by simp[or_left_comm,or_assoc]
    have nd2:((p::ps)++ps0).Nodup:=by
     have h0:=s2.psn
     rw[List.nodup_append] at h0
     obtain⟨n1,n2,n3⟩:=h0
     have n2':=List.nodup_cons.mp n2
     show(p::(ps++ps0)).Nodup
     refine List.nodup_cons.mpr ⟨λz=> ?_,List.nodup_append.mpr ⟨n1,n2'.2,λa ha b hb'=>n3 a ha b (List.mem_cons_of_mem _ hb')⟩⟩
     rcases List.mem_append.mp z with z|z
     .exact n3 p z p List.mem_cons_self rfl
     .exact n2'.1 z
    have s2':FSx X.K G ((p::ps)++ps0) m2 H2 hb' fr σ:=s2.sub (λa ha=>(memEq a).mpr ha) nd2
    have ks:Keeps (Bd (Mx' G.M0 fr σ (ps++p::ps0)) m2) (Bd (Mx' G.M0 fr σ ((p::ps)++ps0)) m2) m2 m2 H2 H2:=Keeps.subX λa ha=>(memEq a).mpr ha
    refine c (p::ps) m2 H2 (.ref p::vs) s2' (k01.trans (k2.trans ks)) (λq hq u z=>o2 q (List.mem_cons_of_mem _ hq) u (t1.fr q u z λw=>s.at_.wd.no q w (.inr hq))) (.o ?_ (r2.keep ks λ_ _ _ q=>q))
    exact(ro'.keep_own k2 λu q=>o2 p List.mem_cons_self u q).keep_own ks λ_ q=>q
   .rename_i x hb2 e2
    cases e
    refine⟨p::ps0,m1,hb1,fr,.inr x,_,s1,e2,λm2 H2 C dd s2 k2 rx=> ?_⟩
    have t0:Stp X.K (Mf G.M0 fr σ) m H m1 H1 hb1:=⟨t1.pre,t1.new,t1.fr,t1.wd.shrink λa z=>.inl (.inl z)⟩
    exact c m2 H2 C dd s2 (t0.keeps.trans k2) rx
   .cases e
  .rename_i x hb1 e1
   cases e
   refine⟨_,m,hb,fr,.inr x,_,s.at_,e1,λm1 H1 t1 C dd rx=> ?_⟩
   have t0:Stp X.K (Mf G.M0 fr σ) m H m1 H1 hb':=⟨t1.pre,t1.new,t1.fr,t1.wd.shrink λa z=>.inl z⟩
   refine c m1 H1 C dd (s.step t1).drop t0.keeps ?_
   exact rx.keep (Keeps.shrink λb z=>z.elim (λz=>.inl (.inl z)) .inr)
  .cases e
def stMI:List Nat->List MI->Fr->Option Fr
 | [],[],fr=>some fr
 | i::is,.v d::ds,fr=>stMI is ds (fr.set i (.sh d))
 | i::is,.o o::ds,fr=>if i<fr.length then stMI is ds (fr.set i (.ow o)) else none
 | _,_,_=>none
def jW:List Nat->List V->St->St
 | i::is,v::vs,σ=>jW is vs (σ.set i (some v))
 | _,_,σ=>σ
theorem jl{K:PySem.W.Frag}{m:List Addr}{H:Hp}{hb:HB}{fr':Fr}:∀{is:List Nat} {ds:List MI} {vs:List V} {ps qs:List Addr} {fr:Fr} {σ:St},(G.pin=none\/0∉is)->FSx K G (ps++qs) m H hb fr σ->RelMI K (Mx' G.M0 fr σ (ps++qs)) m H ds vs ps->stMI is ds fr=some fr' ->
  FS K G m H hb fr' (jW is vs σ)/\Keeps (Bd (Mx' G.M0 fr σ (ps++qs)) m) (Bd (Mf G.M0 fr' (jW is vs σ)) m) m m H H/\vs.length=is.length
 | [],[],_,_,qs,fr,σ,hp,s,r,e=>by
  cases e
  cases r
  exact⟨s.drop,Keeps.shrink λb z=>z.elim (λz=>.inl (.inl z)) .inr,rfl⟩
 | i ::is,.v d::ds,_,ps,qs,fr,σ,hp,s,r,e=>by
  cases r with
  | v r1 r2 =>
   rename_i v vs
   have k:=Kp.x (G:=G) (ps:=ps++qs) (m:=m) (H:=H) (fr:=fr) (σ:=σ) (i:=i) (d:=d) (x:=some v)
   obtain⟨g1,g2,g3⟩:=jl (hp.imp id λz w=>z (List.mem_cons_of_mem _ w)) (s.setSh r1) (r2.keep k λ_ _ _ q=>q) e
   exact⟨g1,k.trans g2,by simp[g3]⟩
 | i ::is,.o o::ds,_,_,qs,fr,σ,hp,s,r,e=>by
  cases r with
  | o r1 r2 =>
   rename_i p vs ps
   unfold stMI at e
   split at e
   .rename_i hi
    obtain⟨s2,k2⟩:=FSx.setOw (ps:=[]) (qs:=ps++qs) s (hp.imp id λz w=>z (by rw[w]; exact List.mem_cons_self)) hi r1
    obtain⟨g1,g2,g3⟩:=jl (ps:=ps) (qs:=qs) (hp.imp id λz w=>z (List.mem_cons_of_mem _ w)) s2 (r2.keep k2 λ_ _ _ q=>q) e
    exact⟨g1,k2.trans g2,by simp[g3]⟩
   .cases e
 | [],_::_,_,_,_,_,_,_,_,_,e=>by cases e
 | _::_,[],_,_,_,_,_,_,_,_,e=>by cases e
def eU(is:List Nat)(mxs:List Mx):Sv:=λfr hb=>match eMs mxs fr hb with
 | some (.inl items,hb1)=>(match stMI is items fr with
  | some fr1=>some (.nx fr1,hb1)
  | none=>none)
 | some (.inr x,hb1)=>some (.ex x,hb1)
 | none=>none
/-- the reading of the written items,for the stores' end -/
theorem je{K:PySem.W.Frag}{is:List Nat}{mxs:List Mx}{D:Ends}{σ:St}{H:Hp}(hpin:G.pin=none\/0∉is)(h:tS K W G (eU is mxs) D σ H){R:List V->Hp->Prop}
  (hR:∀{ps m1 H1 hb1 fr fr' items vs},FSx K G ps m1 H1 hb1 fr σ->RelMI K (Mx' G.M0 fr σ ps) m1 H1 items vs ps->stMI is items fr=some fr' ->
   (∀m2 H2 hb2,FSx K G ps m2 H2 hb2 fr σ->hb2=hb1->RelMI K (Mx' G.M0 fr σ ps) m2 H2 items vs ps->Keeps (Bd (Mx' G.M0 fr σ ps) m1) (Bd (Mx' G.M0 fr σ ps) m2) m1 m2 H1 H2->D.nx (jW is vs σ) H2/\vs.length=is.length)->R vs H1):tMs K W G mxs σ H R:=by
 obtain⟨m,hb,fr,r,hb',s,e,c⟩:=h
 unfold eU at e
 split at e
 .rename_i items hb1 e1
  split at e
  .rename_i fr1 e2
   cases e
   refine⟨[],m,hb,fr,.inl items,_,s.x,e1,λps m1 H1 vs s1 k1 _ r1=> ?_⟩
   rw[List.append_nil] at s1 k1 r1
   refine hR s1 r1 e2 λm2 H2 hb2 s2 eh r2 k2=> ?_
   subst eh
   have s2':FSx K G (ps++[]) m2 H2 hb2 fr σ:=by rw[List.append_nil]; exact s2
   obtain⟨g1,g2,g3⟩:=jl (qs:=[]) hpin s2' (by rw[List.append_nil]; exact r2) e2
   rw[List.append_nil] at g2
   have k0:Keeps (Bd (Mf G.M0 fr σ) m) (Bd (Mx' G.M0 fr σ []) m) m m H H:=Keeps.shrink λb z=>z.elim (λz=>.inl (z.elim id λz=>by simp at z)) .inr
   exact⟨c m2 H2 _ g1 (k0.trans (k1.trans (k2.trans g2))),g3⟩
  .cases e
 .rename_i x hb1 e1
  cases e
  exact⟨[],m,hb,fr,.inr x,_,s.x,e1,λm1 H1 C dd s1 k1 rx=>c m1 H1 σ fr C dd s1 k1 rx⟩
 .cases e
theorem mY{i j:Nat}{x y:Str}{a b:Expr}{ma mb:Mx}{px py pt pos:Pos}{kt k2 pt2}(hpin:G.pin=none\/0∉[i,j])(hc:X.calm=true)(hN:X.N.Nodup)(hi:X.N[i]? =some x)(hj:X.N[j]? =some y)(hij:i≠j)
  (hx:X.env.scope.names.lookup x=some .local) (hy:X.env.scope.names.lookup y=some .local) (ha:PA X [a,b] (tMs X.K W G [ma,mb]))
  (hw:swappedStores [.Tuple [.Name x px,.Name y py] kt pt] (.Tuple [a,b] k2 pt2) X.env=pure (some [x,y]))
  (hs:swapsWithSole [.Tuple [.Name x px,.Name y py] kt pt] (.Tuple [a,b] k2 pt2) pos.line X.env=pure false:=by rfl) :
  SS X W G (.Assign [.Tuple [.Name x px,.Name y py] kt pt] (.Tuple [a,b] k2 pt2) pos) (eU [i,j] [ma,mb]):=PS.mono (ps_par hc hN hi hj hij hx hy ha hw hs) λD σ H h=>by
 refine je hpin h λ{ps m1 H1 hb1 fr fr' items vs} s r e c=> ?_
 obtain⟨g1,g2⟩:=c m1 H1 hb1 s rfl r Keeps.refl
 match vs,g2,g1 with
 | [v,w],_,g1=>exact⟨v,w,rfl,g1⟩
end
end
section
def rdO(fr:Fr)(hb:HB):D->Option O
 | .loc i=>match fr[i]? with
  | some (.ow o)=>some o
  | _=>none
 | .box n=>hb[n]?
 | _=>none
def wrO(d:D)(o:O)(fr:Fr)(hb:HB):Fr×HB:=match d with
 | .loc i=>(fr.set i (.ow o),hb)
 | .box n=>(fr,hb.set n o)
 | _=>(fr,hb)
section
variable {K:PySem.W.Frag} {W:WX} {M:Addr->Prop} {m:List Addr} {H:Hp} {hb hb':HB} {fr:Fr} {σ:St} {G:Gh}
theorem kq{d:D}{v:V}{o:O}(a:At K M m H hb fr σ)(r:RelT K M m H fr σ d v)(e:rdO fr hb d=some o):∃p,v=.ref p/\Bd M m p/\RelO K (Bd M m) m H o p:=by
 unfold rdO at e
 split at e
 .rename_i i
  split at e
  .rename_i ys e1
   cases e
   obtain⟨_,e2⟩:=r
   obtain⟨x,e3,p,e4,hM,_,ro⟩:=a.fr.2 i _ e1
   rw[e3] at e2
   cases e2
   cases e4
   exact⟨p,rfl,.inl hM,ro⟩
  .cases e
 .rename_i n
  have r':RelD K (Bd M m) m H (.box n) v:=r
  unfold RelD at r'
  obtain⟨p,e2,e3⟩:=r'
  exact⟨p,e2,.inr (List.mem_of_getElem? e3),a.wd.ob n p _ e3 e⟩
 .cases e
theorem Keeps.wr{B:Addr->Prop}{p:Addr}{u:HO}(hp:B p):Keeps B B m m H (upd H p u):=⟨⟨[],by simp⟩,λa o q n=>⟨by
 have:a≠p:=λz=>n (by rw[z]; exact hp)
 rw[upd_ne this]; exact q,n⟩⟩
/-- a box is written -/
theorem At.wrB{n:Nat}{v:V}{o o':O}{p:Addr}{u:HO}(a:At K M m H hb fr σ)(hm:m[n]? =some p)(h0:hb[n]? =some o)(r:RelO K (Bd M m) m (upd H p u) o' p):Stp K M m H m (upd H p u) (hb.set n o'):=by
 have hpm:p∈m:=List.mem_of_getElem? hm
 have kw:Keeps (Bd M m) (Bd M m) m m H (upd H p u):=Keeps.wr (.inr hpm)
 refine⟨⟨[],by simp⟩,λx h n=>absurd h n,λx o q n=>by rw[upd_ne λz=>n (by rw[z]; exact hpm)]; exact q,⟨a.wd.nd,a.wd.no,λx hx=> ?_,by rw[List.length_set]; exact a.wd.len,λj x ob h1 h2=> ?_⟩⟩
 .by_cases q:x=p
  .subst q; exact⟨_,upd_same⟩
  .rw[upd_ne q]; exact a.wd.mt x hx
 .by_cases hj:n=j
  .subst hj
   rw[hm] at h1
   cases h1
   rw[List.getElem?_set] at h2
   simp only[if_true] at h2
   split at h2
   .cases h2; exact r
   .cases h2
  .rw[List.getElem?_set_ne hj] at h2
   have:x≠p:=λz=>hj (by
    subst z
    exact(List.getElem?_inj (List.getElem?_eq_some_iff.mp hm).1 a.wd.nd).mp (hm.trans h1.symm))
   exact(a.wd.ob j x ob h1 h2).keep_own kw λw q=>by rw[upd_ne this]; exact q
/-- a box or a slot's own object is written -/
theorem FS.wr{d:D}{v:V}{o o':O}(s:FS K G m H hb fr σ)(r:RelT K (Mf G.M0 fr σ) m H fr σ d v)(e:rdO fr hb d=some o):∃p,v=.ref p/\RelO K (Bd (Mf G.M0 fr σ) m) m H o p/\Bd (Mf G.M0 fr σ) m p /\
  ∀u,RelO K (Bd (Mf G.M0 fr σ) m) m (upd H p u) o' p->FS K G m (upd H p u) (wrO d o' fr hb).2 (wrO d o' fr hb).1 σ/\Kp G m H fr σ m (upd H p u) (wrO d o' fr hb).1 σ:=by
 obtain⟨p,hv,hB,ro⟩:=kq s.at_ r e
 refine⟨p,hv,ro,hB,λu rn=> ?_⟩
 have kw:Keeps (Bd (Mf G.M0 fr σ) m) (Bd (Mf G.M0 fr σ) m) m m H (upd H p u):=Keeps.wr hB
 unfold rdO at e
 split at e
 .rename_i i
  split at e
  .rename_i ys e1
   cases e
   obtain⟨_,e2⟩:=r
   subst hv
   obtain⟨x,e3,p',e4,hM,nm,_⟩:=s.at_.fr.2 i _ e1
   rw[e3] at e2
   cases e2
   cases e4
   have hi:i<fr.length:=(List.getElem?_eq_some_iff.mp e1).1
   have back:∀(j:Nat) (o2:O),(fr.set i (.ow o'))[j]? =some (SV.ow o2)->∃o3,fr[j]? =some (SV.ow o3):=λj o2 h=>by
    by_cases hj:i=j
    .subst hj; exact⟨_,e1⟩
    .rw[List.getElem?_set_ne hj] at h; exact⟨_,h⟩
   have sub:∀a,Mf G.M0 (fr.set i (.ow o')) σ a->Mf G.M0 fr σ a:=λa z=>by
    rcases z with z|⟨j,o2,h1,h2⟩
    .exact .inl z
    .obtain⟨o3,h3⟩:=back j o2 h1
     exact .inr ⟨j,o3,h3,h2⟩
   have kp:Keeps (Bd (Mf G.M0 fr σ) m) (Bd (Mf G.M0 (fr.set i (.ow o')) σ) m) m m H (upd H p u):=kw.trans (Keeps.shrink λb z=>z.elim (λz=>.inl (sub b z)) .inr)
   have kp2:Keeps (Bd (Mf G.M0 fr σ) m) (Bd (Mf G.M0 (fr.set i (.ow o')) σ) m) m m (upd H p u) (upd H p u):=Keeps.shrink λb z=>z.elim (λz=>.inl (sub b z)) .inr
   have hHs:G.Hs p=none:=s.own i _ p e1 e3
   show FS K G m (upd H p u) hb (fr.set i (.ow o')) σ/\Kp G m H fr σ m (upd H p u) (fr.set i (.ow o')) σ
   refine⟨⟨⟨?_,by rw[List.length_set]; exact s.at_.fr.1,λj sv q=> ?_⟩,s.m0,s.pre,s.new,λa o q n=> ?_,s.pin.wr e1,λj o2 a h1 h2=> ?_,λj k o2 o3 a h1 h2 h3 h4=> ?_⟩,kp⟩
   .refine⟨s.at_.wd.nd,λa ha z=>s.at_.wd.no a ha (sub a z),λa z=> ?_,s.at_.wd.len,λn a ob h1 h2=>(s.at_.wd.ob n a ob h1 h2).keep_own kp λw q=> ?_⟩
    .by_cases q:a=p
     .subst q; exact⟨_,upd_same⟩
     .rw[upd_ne q]; exact s.at_.wd.mt a (sub a z)
    .rw[upd_ne λz=>nm (by rw[<-z]; exact List.mem_of_getElem? h1)]; exact q
   .by_cases hj:i=j
    .subst hj
     rw[List.getElem?_set] at q
     simp only[if_true,hi] at q
     cases q
     exact⟨_,e3,p,rfl,.inr ⟨i,o',by rw[List.getElem?_set]; simp[hi],e3⟩,nm,rn.keep_own kp2 λ_ q=>q⟩
    .rw[List.getElem?_set_ne hj] at q
     obtain⟨x,q1,r1⟩:=s.at_.fr.2 j sv q
     refine⟨x,q1,?_⟩
     cases sv with
     | un=>trivial
     | sh d'=>obtain⟨w,q2,r2⟩:=r1; exact⟨w,q2,r2.keep kp⟩
     | ow o2 =>
      obtain⟨a,q2,hM2,nm2,r2⟩:=r1
      subst q2
      have:a≠p:=λz=>hj (s.dist i j _ o2 p e1 q e3 (by rw[q1,z]))
      exact⟨a,rfl,.inr ⟨j,o2,by rw[List.getElem?_set_ne hj]; exact q,q1⟩,nm2,r2.keep_own kp λw q=>by rw[upd_ne this]; exact q⟩
   .rw[upd_ne λz=>by subst z; rw[hHs] at q; cases q]; exact s.keep a o q n
   .obtain⟨o3,h3⟩:=back j o2 h1
    exact s.own j o3 a h3 h2
   .obtain⟨o4,h5⟩:=back j o2 h1
    obtain⟨o5,h6⟩:=back k o3 h2
    exact s.dist j k o4 o5 a h5 h6 h3 h4
  .cases e
 .rename_i n
  have r':RelD K (Bd (Mf G.M0 fr σ) m) m H (.box n) v:=r
  unfold RelD at r'
  obtain⟨p',e2,e3⟩:=r'
  rw[hv] at e2
  cases e2
  have st:Stp K (Mf G.M0 fr σ) m H m (upd H p u) (hb.set n o'):=s.at_.wrB (v:=v) e3 e rn
  exact⟨s.step st,st.keeps⟩
 .cases e
theorem FS.evs{m:List Addr}{H:Hp}{hb:HB}{fr:Fr}{σ:St}{ev:Evs}{r:List D ⊕ Xn}{hb1:HB}(s:FS K G m H hb fr σ)(e:ev fr hb=some (r,hb1)){Q:List V->Hp->Prop}
  (h:match r with
   | .inl ds=>∀m1 H1 vs,FS K G m1 H1 hb1 fr σ->Kp G m H fr σ m1 H1 fr σ->Stp K (Mf G.M0 fr σ) m H m1 H1 hb1->RelTs K (Mf G.M0 fr σ) m1 H1 fr σ ds vs->Q vs H1
   | .inr x=>∀m1 H1 C dd,FS K G m1 H1 hb1 fr σ->Kp G m H fr σ m1 H1 fr σ->RelX K (Bd (Mf G.M0 fr σ) m1) m1 H1 x C dd->W C dd σ H1):tEs K W ev σ H Q:=by
 refine⟨_,m,hb,fr,r,hb1,s.at_.wd,s.at_.fr,e,λm1 H1 s1=> ?_⟩
 cases r with
 | inl ds=>exact λvs rv=>h m1 H1 vs (s.step s1) s1.keeps s1 rv
 | inr x=>exact λC dd rx=>h m1 H1 C dd (s.step s1) s1.keeps rx
theorem FS.ev'{ev:Ev}{r:R}{hb1:HB}(s:FS K G m H hb fr σ)(e:ev fr hb=some (r,hb1)){Q:VK}
  (h:match r with
   | .ok d=>∀m1 H1 v,FS K G m1 H1 hb1 fr σ->Kp G m H fr σ m1 H1 fr σ->Stp K (Mf G.M0 fr σ) m H m1 H1 hb1->RelT K (Mf G.M0 fr σ) m1 H1 fr σ d v->Q v H1
   | .exn x=>∀m1 H1 C dd,FS K G m1 H1 hb1 fr σ->Kp G m H fr σ m1 H1 fr σ->RelX K (Bd (Mf G.M0 fr σ) m1) m1 H1 x C dd->W C dd σ H1):tE K W ev σ H Q:=by
 refine b3 s.at_ e λm1 H1 s1=> ?_
 cases r with
 | ok d=>exact λv rv=>h m1 H1 v (s.step s1) s1.keeps s1 rv
 | exn x=>exact λC dd rx=>h m1 H1 C dd (s.step s1) s1.keeps rx
end
/-- what a method of an object does: the object ahead,the arguments; the object behind,the value -/
abbrev OM:=O->List D->Option (O×D)
def a9:OM:=λo ds=>match o,ds with
 | .lst xs,[d]=>if xs.length<szL then some (.lst (xs++[d]),.non) else none
 | _,_=>none
def fW:OM:=λo ds=>match o,ds with
 | .lst xs,[.int i]=>if -(2 ^ 63)<=i/\i<2 ^ 63 then (match seqIndex? i xs.length with
  | some k=>(match xs[k]? with
   | some d=>some (.lst (xs.eraseIdx k),d)
   | none=>none)
  | none=>none) else none
 | _,_=>none
def gu:OM:=λo ds=>match o,ds with
 | .lst xs,[]=>some (.lst [],.non)
 | _,_=>none
/-- soundness of such a method -/
def oj(K:PySem.W.Frag)(r:V->List V->Hp->VK->Prop)(om:OM):Prop:=∀{B:Addr->Prop} {m:List Addr} {H:Hp} {o o':O} {ds:List D} {d:D} {vs:List V} {p:Addr} {Q:VK},
 RelO K B m H o p->B p->RelDs K B m H ds vs->om o ds=some (o',d)->(∀u v,RelO K B m (upd H p u) o' p->RelD K B m (upd H p u) d v->Q v (upd H p u))->r (.ref p) vs H Q
/-- the kind of an object -/
def O.is(o:O)(T:String):Bool:=match o with
 | .lst _=>T == "list"
 | .dct _ _=>T == "dict"
 | _=>false
theorem RelDs.one{K:PySem.W.Frag}{B:Addr->Prop}{m:List Addr}{H:Hp}{d:D}{vs:List V}(r:RelDs K B m H [d] vs):∃v,vs=[v]/\RelD K B m H d v:=by
 obtain⟨v,w,rfl,h1,h2⟩:=RelDs.cons_inv r
 obtain rfl:=RelDs.nil_iff.mp h2
 exact⟨v,rfl,h1⟩
theorem RelDs.eraseIdx{K:PySem.W.Frag}{B:Addr->Prop}{m:List Addr}{H:Hp}{ds:List D}{vs:List V}(h:RelDs K B m H ds vs)(k:Nat):RelDs K B m H (ds.eraseIdx k) (vs.eraseIdx k):=by
 rw[List.eraseIdx_eq_take_drop_succ,List.eraseIdx_eq_take_drop_succ]
 exact(h.take _).append (h.drop _)
theorem rN{K:PySem.W.Frag}{H:Hp}{p:Addr}{vs:List V}(h:H p=some (.lst vs)):tyV K "list" (.ref p) H:=.inl ⟨rfl,vs,.of h⟩
theorem O.ty{K:PySem.W.Frag}{B:Addr->Prop}{m:List Addr}{H:Hp}{o:O}{p:Addr}{T:String}(r:RelO K B m H o p)(h:o.is T=true):tyV K T (.ref p) H:=by
 cases o with
 | lst xs =>
  obtain⟨vs,h1,_⟩:=r
  have:T="list":=by simpa [O.is] using h
  subst this
  exact rN h1
 | dct ks xs =>
  have:T="dict":=by simpa [O.is] using h
  subst this
  obtain⟨vs,h1,_⟩:=r
  rcases h1 with ⟨kvs,f,_⟩|⟨kvs,f,_⟩
  .exact .inr (.inr (.inl ⟨rfl,.inl ⟨kvs,f⟩⟩))
  .exact .inr (.inr (.inl ⟨rfl,.inr ⟨kvs,f⟩⟩))
 | ins _ _ _=>cases h
 | tab _=>cases h
theorem RelDs.wr{K:PySem.W.Frag}{B:Addr->Prop}{m:List Addr}{H:Hp}{ds:List D}{vs:List V}{p:Addr}{u:HO}(h:RelDs K B m H ds vs)(hp:B p):RelDs K B m (upd H p u) ds vs:=h.keep (Keeps.wr hp)
theorem RelD.wr{K:PySem.W.Frag}{B:Addr->Prop}{m:List Addr}{H:Hp}{d:D}{v:V}{p:Addr}{u:HO}(h:RelD K B m H d v)(hp:B p):RelD K B m (upd H p u) d v:=h.keep (Keeps.wr hp)
theorem RelO.lstW{K:PySem.W.Frag}{B:Addr->Prop}{m:List Addr}{H:Hp}{ds:List D}{vs:List V}{p:Addr}(h:RelDs K B m H ds vs)(hp:B p):RelO K B m (upd H p (.lst vs)) (.lst ds) p:=⟨vs,upd_same,h.wr hp⟩
theorem RelD.nonW{K:PySem.W.Frag}{B:Addr->Prop}{m:List Addr}{H:Hp}:RelD K B m H .non .non:=by unfold RelD; rfl
theorem RelD.int_inv{K:PySem.W.Frag}{B:Addr->Prop}{m:List Addr}{H:Hp}{i:Int}{v:V}(h:RelD K B m H (.int i) v):v=.int i:=by unfold RelD at h; exact h
theorem cX{K:PySem.W.Frag}:oj K rAppend a9:=by
 intro B m H o o' ds d vs p Q ro hp rv e c
 unfold a9 at e
 split at e
 .split at e
  .rename_i xs d1 hz
   cases e
   obtain⟨ws,h1,h2⟩:=ro
   obtain⟨v,rfl,r1⟩:=rv.one
   exact⟨p,ws,v,rfl,rfl,h1,by rw[<-h2.length,<-bd]; exact hz,c _ _ (RelO.lstW (h2.append (RelDs.cons r1 RelDs.nil')) hp) RelD.nonW⟩
  .cases e
 .cases e
theorem oG{K:PySem.W.Frag}:oj K rPopAt fW:=by
 intro B m H o o' ds d vs p Q ro hp rv e c
 unfold fW at e
 split at e
 .split at e
  .rename_i xs i hz
   split at e
   .rename_i k e0
    split at e
    .rename_i d1 e1
     cases e
     obtain⟨ws,h1,h2⟩:=ro
     obtain⟨v0,rfl,r0⟩:=rv.one
     obtain rfl:=r0.int_inv
     obtain⟨v,e2,r2⟩:=h2.get e1
     rw[h2.length] at e0
     exact⟨p,ws,i,k,v,rfl,rfl,h1,hz.1,hz.2,e0,e2,c _ _ (RelO.lstW (h2.eraseIdx k) hp) (r2.wr hp)⟩
    .cases e
   .cases e
  .cases e
 .cases e
theorem qa{K:PySem.W.Frag}:oj K rClear gu:=by
 intro B m H o o' ds d vs p Q ro hp rv e c
 unfold gu at e
 split at e
 .cases e
  obtain⟨ws,h1,h2⟩:=ro
  obtain rfl:=RelDs.nil_iff.mp rv
  exact⟨p,ws,rfl,rfl,h1,c _ _ (RelO.lstW RelDs.nil' hp) RelD.nonW⟩
 .cases e
def vm(om:OM)(d:D):List D->Ev:=λds _ hb=>match d with
 | .box n=>match hb[n]? with
  | some ob=>if av ds then (match om ob ds with
   | some (ob',x)=>some (.ok x,hb.set n ob')
   | none=>none) else none
  | none=>none
 | _=>none
def isK(T:String)(d:D)(fr:Fr)(hb:HB):Bool:=match rdO fr hb d with
 | some o=>o.is T
 | none=>false
def eBM(T:String)(om:OM)(o:Ev)(es:Evs):Ev:=ay o λd fr hb=>if isK T d fr hb then eL (vm om d) es fr hb else none
section
variable {X:Cx} {W:WX} {G:Gh} {pos apos cpos:Pos} {o e:Expr} {es:List Expr} {evo:Ev} {evs:Evs} {om:OM} {T:String} {id:String} {name:Str} {r:V->List V->Hp->VK->Prop}
theorem nr{K:PySem.W.Frag}{M:Addr->Prop}{m:List Addr}{H:Hp}{hb:HB}{fr:Fr}{σ:St}{d:D}{v:V}(a:At K M m H hb fr σ)(rx:RelT K M m H fr σ d v)(h:isK T d fr hb=true):tyV K T v H:=by
 unfold isK at h
 split at h
 .rename_i ob e
  obtain⟨p,rfl,_,ro⟩:=kq a rx e
  exact O.ty ro h
 .cases h
theorem At.omB{M:Addr->Prop}{m:List Addr}{hb hb':HB}{fr:Fr}{σ:St}{H:Hp}{d:D}{v:V}{vs:List V}{ds:List D}{res:R}{Q:VK}(ho:oj X.K r om)(a:At X.K M m H hb fr σ)(rx:RelT X.K M m H fr σ d v)(rs:RelTs X.K M m H fr σ ds vs)
  (e1:vm om d ds fr hb=some (res,hb')) (c:Pst X.K W M m H fr σ res hb' Q):r v vs H Q:=by
 unfold vm at e1
 split at e1
 .rename_i n
  split at e1
  .rename_i ob e0
   split at e1
   .rename_i hv
    split at e1
    .rename_i ob' x e2
     cases e1
     have rx':RelD X.K (Bd M m) m H (.box n) v:=rx
     unfold RelD at rx'
     obtain⟨p,rfl,hp⟩:=rx'
     have ro:=a.wd.ob n p _ hp e0
     refine ho ro (.inr (List.mem_of_getElem? hp)) (rs.val hv) e2 λu v' r1 r2=> ?_
     exact c m _ (a.wrB (v:=.ref p) hp e0 r1) v' r2.t
    .cases e1
   .cases e1
  .cases e1
 .cases e1
theorem sk(ho:oj X.K r om)(pa:PlainAttrs T)(slot:Slot T name id)(hty:typeOf (.builtin id)=pure (.type "method_descriptor"))(hm:MtR X id r)(he:SE X W o evo)(ha:SEs X W (e::es) evs)
  (hbase:attributeBase o name X.env (eval o X.env)=eval o X.env:=by rfl)
  (hfew:((backTo cpos (starEach (e::es) X.env)).all (λx=> !x.1) && (backToKw cpos (keywordEach [] X.env)).all (λx=>x.1.isSome)
   && decide ((e::es).length+([]:List Keyword).length+(if ([]:List Keyword).isEmpty then 0 else 1)<30))=true:=by rfl)
  (hline:(apos.endLine == cpos.line)=true:=by rfl) (hs:starEach (e::es) X.env=(false,eval e X.env)::starEach es X.env:=by rfl) (hplain:(backTo cpos (starEach es X.env)).any (·.1)=false:=by rfl) :
  SE X W (.Call (.Attribute o name apos) (e::es) [] cpos) (eBM T om evo evs):=by
 refine PE.mono (pe_bm pa slot hty hm he ha hbase hfew hline hs hplain) λσ H Q h=> ?_
 obtain⟨M,m,hb,fr,r0,hb',a,e0,c⟩:=dh h
 show tE X.K W evo σ H λx H1=>tyV X.K T x H1/\tEs X.K W evs σ H1 λxs H2=>r x xs H2 Q
 refine cp a e0 c λm1 H1 hb1 d v s1 a1 rx e1 c1=> ?_
 split at e1
 .rename_i hk
  refine⟨nr a1 rx hk,?_⟩
  unfold eL at e1
  split at e1
  .rename_i ds hb2 e2
   refine⟨M,m1,hb1,fr,.inl ds,_,a1.wd,a1.fr,e2,λm2 H2 s2 vs rv=> ?_⟩
   exact At.omB ho (a1.step s2) (rx.keep s2) rv e1 (c1.step s2)
  .rename_i x hb2 e2
   cases e1
   exact⟨M,m1,hb1,fr,.inr x,_,a1.wd,a1.fr,e2,λm2 H2 s2=>c1 m2 H2 s2⟩
  .cases e1
 .cases e1
/-- where the value goes -/
def toN(t:Option Nat)(d:D)(fr:Fr):Fr:=match t with
 | none=>fr
 | some i=>fr.set i (.sh d)
def vf(om:OM)(t:Option Nat)(d:D)(ds:List D):Sv:=λfr hb=>if av ds then (match rdO fr hb d with
 | some ob=>(match om ob ds with
  | some (ob',x)=>some (.nx (toN t x (wrO d ob' fr hb).1),(wrO d ob' fr hb).2)
  | none=>none)
 | none=>none) else none
def sBM(T:String)(om:OM)(t:Option Nat)(o:Ev)(es:Evs):Sv:=λfr hb=>match o fr hb with
 | some (.ok d,hb1)=>if isK T d fr hb1 then (match es fr hb1 with
  | some (.inl ds,hb2)=>vf om t d ds fr hb2
  | some (.inr x,hb2)=>some (.ex x,hb2)
  | none=>none) else none
 | some (.exn x,hb1)=>some (.ex x,hb1)
 | none=>none
def gTo(t:Option Nat):TG:=match t with
 | none=>λ_ σ H Q=>Q σ H
 | some i=>gName i
theorem mq {m:List Addr}{H:Hp}{hb hb':HB}{fr:Fr}{σ:St}{d:D}{v:V}{ds:List D}{vs:List V}{t:Option Nat}{res:SR}{D':Ends}(ho:oj X.K r om)(s:FS X.K G m H hb fr σ)(rx:RelT X.K (Mf G.M0 fr σ) m H fr σ d v)(rs:RelTs X.K (Mf G.M0 fr σ) m H fr σ ds vs)
  (e:vf om t d ds fr hb=some (res,hb')) (c:PstS X.K W G m H fr σ res hb' D'):r v vs H λx H1=>gTo t x σ H1 D'.nx:=by
 unfold vf at e
 split at e
 .rename_i hv
  split at e
  .rename_i ob e0
   split at e
   .rename_i ob' x e1
    cases e
    obtain⟨p,rfl,ro,hB,hw⟩:=s.wr (o':=ob') rx e0
    refine ho ro hB (rs.val hv) e1 λu v' r1 r2=> ?_
    obtain⟨s2,k2⟩:=hw u r1
    have r3 : RelD X.K (Bd (Mf G.M0 (wrO d ob' fr hb).1 σ) m) m (upd H p u) x v':=by
     refine r2.keep (Keeps.shrink λb z=> ?_)
     rcases z with z|z
     .rcases z with z|⟨j,o2,h1,h2⟩
      .exact .inl (.inl z)
      .have sl:∃o3,fr[j]? =some (SV.ow o3):=by
        unfold wrO at h1
        split at h1
        .rename_i i
         by_cases hj:i=j
         .subst hj
          unfold rdO at e0
          dsimp only at e0
          split at e0
          .rename_i o3 e3; exact⟨o3,e3⟩
          .cases e0
         .rw[List.getElem?_set_ne hj] at h1; exact⟨_,h1⟩
        .exact⟨_,h1⟩
        .exact⟨_,h1⟩
       obtain⟨o3,h3⟩:=sl
       exact .inl (.inr ⟨j,o3,h3,h2⟩)
     .exact .inr z
    cases t with
    | none=>exact c m _ σ s2 k2
    | some i=>exact c m _ _ (s2.setSh r3) (k2.trans Kp.sh)
   .cases e
  .cases e
 .cases e
theorem v4{t:Option Nat}{D':Ends}{σ:St}{H:Hp}(ho:oj X.K r om)(h:tS X.K W G (sBM T om t evo evs) D' σ H):tBM X.K T r (tE X.K W evo) (tEs X.K W evs) σ H λx H1=>gTo t x σ H1 D'.nx:=by
 obtain⟨m,hb,fr,r0,hb',s,e,c⟩:=h
 unfold sBM at e
 show tE X.K W evo σ H λx H1=>tyV X.K T x H1/\tEs X.K W evs σ H1 λxs H2=>r x xs H2 _
 split at e
 .rename_i d hb1 e1
  split at e
  .rename_i hk
   refine s.ev' e1 λm1 H1 v s1 k1 st1 rv=>⟨nr s1.at_ rv hk,?_⟩
   split at e
   .rename_i ds hb2 e2
    exact s1.evs e2 λm2 H2 vs s2 k2 st2 rs=>mq ho s2 (rv.keep st2) rs e (c.step (k1.trans k2))
   .rename_i x hb2 e2
    cases e
    exact s1.evs e2 λm2 H2 C dd s2 k2 rx=>c m2 H2 σ fr C dd s2 (k1.trans k2) rx
   .cases e
  .cases e
 .rename_i x hb1 e1
  cases e
  exact s.ev' e1 λm1 H1 C dd s1 k1 rx=>c m1 H1 σ fr C dd s1 k1 rx
 .cases e
theorem tM{t:Option Nat}{D':Ends}{σ:St}{H:Hp}(ho:oj X.K r om)(h:tS X.K W G (sBM T om t evo al) D' σ H):tBM0 X.K T r (tE X.K W evo) σ H λx H1=>gTo t x σ H1 D'.nx:=by
 obtain⟨m,hb,fr,r0,hb',s,e,c⟩:=h
 unfold sBM al at e
 show tE X.K W evo σ H λx H1=>tyV X.K T x H1/\r x [] H1 _
 split at e
 .rename_i d hb1 e1
  split at e
  .rename_i hk
   exact s.ev' e1 λm1 H1 v s1 k1 st1 rv=>⟨nr s1.at_ rv hk,mq ho s1 rv (show RelTs X.K _ m1 H1 fr σ [] [] from rfl) e (c.step k1)⟩
  .cases e
 .rename_i x hb1 e1
  cases e
  exact s.ev' e1 λm1 H1 C dd s1 k1 rx=>c m1 H1 σ fr C dd s1 k1 rx
 .cases e
/-- x.m(e,..) as a statement -/
theorem tN(ho:oj X.K r om)(pa:PlainAttrs T)(slot:Slot T name id)(hty:typeOf (.builtin id)=pure (.type "method_descriptor"))(hm:MtR X id r)(he:SE X W o evo)(ha:SEs X W (e::es) evs)
  (hbase:attributeBase o name X.env (eval o X.env)=eval o X.env:=by rfl)
  (hfew:((backTo cpos (starEach (e::es) X.env)).all (λx=> !x.1) && (backToKw cpos (keywordEach [] X.env)).all (λx=>x.1.isSome)
   && decide ((e::es).length+([]:List Keyword).length+(if ([]:List Keyword).isEmpty then 0 else 1)<30))=true:=by rfl)
  (hline:(apos.endLine == cpos.line)=true:=by rfl) (hs:starEach (e::es) X.env=(false,eval e X.env)::starEach es X.env:=by rfl) (hplain:(backTo cpos (starEach es X.env)).any (·.1)=false:=by rfl)
  (hsw:swapsWith (.Call (.Attribute o name apos) (e::es) [] cpos) none pos.line X.env=pure false:=by rfl) :
  SS X W G (.Expr (.Call (.Attribute o name apos) (e::es) [] cpos) pos) (sBM T om none evo evs) :=
 PS.mono (ps_expr (pe_bm pa slot hty hm he ha hbase hfew hline hs hplain) hsw) λD σ H h=>v4 ho h
theorem uO(ho:oj X.K r om)(pa:PlainAttrs T)(slot:Slot T name id)(hty:typeOf (.builtin id)=pure (.type "method_descriptor"))(hm:MtR X id r)(he:SE X W o evo)
  (hbase:attributeBase o name X.env (eval o X.env)=eval o X.env:=by rfl) (hline:(apos.endLine == cpos.line)=true:=by rfl)
  (hsw:swapsWith (.Call (.Attribute o name apos) [] [] cpos) none pos.line X.env=pure false:=by rfl) :
  SS X W G (.Expr (.Call (.Attribute o name apos) [] [] cpos) pos) (sBM T om none evo al) :=
 PS.mono (ps_expr (pe_bm0 pa slot hty hm he hbase hline) hsw) λD σ H h=>tM ho h
end
end
section
section
variable {X:Cx} {W:WX} {G:Gh} {a b c:Expr} {eva evb evc:Ev} {pos pos':Pos}
theorem sq:iY X W (λx y H Q=>rI CMul (λi j=>V.int (i * j)) x y H Q\/(∃(s:List Char) (n:Int),x=V.str (au s)/\y=V.int n/\0<=n/\n<=szL/\s.length * n.toNat<=szL/\Q (V.str (au (List.replicate n.toNat s).flatten)) H)\/rRep x y H Q) d5:=by
 intro M m hb fr σ H x y vx vy res hb' Q a rx ry e c
 unfold d5 at e
 split at e
 .split at e
  .rename_i h
   cases e
   rw[ao rx,ao ry]
   exact .inl ⟨_,_,rfl,rfl,h,c.done a fC⟩
  .cases e
 .split at e
  .rename_i h
   cases e
   rw[az rx,ao ry]
   exact .inr (.inl ⟨_,_,rfl,rfl,h.1,h.2.1,h.2.2,c.done a kW⟩)
  .cases e
 .split at e
  .rename_i xs e1
   split at e
   .rename_i h
    cases e
    obtain⟨p,vs,rfl,f,r⟩:=bc a rx e1
    rw[ao ry]
    obtain⟨h0,h1,h2⟩:=h
    have e2:(szL:Int)=16777216:=rfl
    refine .inr (.inr ⟨p,_,vs,rfl,rfl,f,by omega,by omega,by rw[<-r.length,<-bd]; exact h2,λq hq=>c.lst a hq ?_⟩)
    have rep:∀k:Nat,RelDs X.K (Bd M m) m H (List.replicate k xs).flatten (List.replicate k vs).flatten:=λk=>by
     induction k with
     | zero=>exact RelDs.nil'
     | succ k ih=>rw[List.replicate_succ,List.flatten_cons,List.replicate_succ,List.flatten_cons]; exact r.append ih
    exact rep _
   .cases e
  .cases e
 .cases e
theorem dG(ha:SE X W a eva)(hb:SE X W b evb):SE X W (.BinOp a .Mult b pos) (am d5 eva evb):=lf (OpR.or op_mul (OpR.or lC op_rep)) sq ha hb
def kEq:D->D->Bool
 | .int i,.int j=>decide (i=j)
 | .str s,.str t=>decide (s=t)
 | _,_=>false
/-- a key of a dict; a tuple of such -/
def D.isKey:D->Bool
 | .int _=>true
 | .str _=>true
 | _=>false
def getD(ks vs:List D)(k:D):Option D:=match ks,vs with
 | a::ks,v::vs=>if kEq a k then some v else getD ks vs k
 | _,_=>none
def uI(ks vs:List D)(k v:D):List D×List D:=if ks.any (kEq · k) then (ks,List.zipWith (λa w=>if kEq a k then v else w) ks vs) else (ks++[k],vs++[v])
theorem lP{a b:D}{ka kb:Key}(ha:kh a=some ka)(hb:kh b=some kb):kEq a b=decide (ka=kb):=by
 cases a<;>cases b<;>simp[kh] at ha hb<;>subst ha<;>subst hb<;>simp[kEq]
 exact⟨λh=>by rw[h],λh=>kc h⟩
theorem jC{k:D}{kk:Key}(hk:kh k=some kk):∀{ks vs:List D} {kvs:List (Key×V)},KeysK ks kvs->ks.length=vs.length->∀(K:PySem.W.Frag) (B:Addr->Prop) (m:List Addr) (H:Hp),RelDs K B m H vs (kvs.map (·.2))->(∀d,getD ks vs k=some d->∃v,valV kvs kk=some v/\RelD K B m H d v)/\(getD ks vs k=none->valV kvs kk=none)
 | [],vs,_,.nil,_,K,B,m,H,_=>⟨λd e=>by simp[getD] at e,λ_=>rfl⟩
 | a::ks,[],_,_,hl,_,_,_,_,_=>by simp at hl
 | a ::ks,w::vs,(ka,v)::kvs,.cons h1 h2,hl,K,B,m,H,r=>by
  obtain⟨v',r',e,r1,r2⟩:=RelDs.cons_inv r
  have e1:v=v'/\kvs.map (·.2)=r':=by simpa using e
  obtain⟨rfl,rfl⟩:=e1
  unfold getD
  rw[lP h1 hk]
  by_cases q:ka=kk
  .rw[if_pos (decide_eq_true q)]
   exact⟨λd e=>by cases e; exact⟨v,valV_pos q,r1⟩,λe=>by cases e⟩
  .rw[if_neg (by simpa using q),valV_neg (p:=(ka,v)) q]
   exact jC hk h2 (by simpa using hl) K B m H r2
def bp:D->D->Ev:=λx y fr hb=>match oh fr hb x with
 | some (ks,vs)=>if y.isKey && (ks.all D.isKey) && decide (ks.length=vs.length) then (match getD ks vs y with
  | some d=>some (.ok d,hb)
  | none=>none) else none
 | none=>gIx x y fr hb
theorem D.isKey_some{d:D}(h:d.isKey=true):∃k,kh d=some k:=by
 cases d<;>simp[D.isKey] at h<;>exact⟨_,rfl⟩
theorem qI{K:PySem.W.Frag}{M:Addr->Prop}{m:List Addr}{H:Hp}{fr:Fr}{σ:St}{d:D}{v:V}{k:Key}(r:RelT K M m H fr σ d v)(h:kh d=some k):v=kV k:=by
 cases d<;>simp[kh] at h<;>subst h
 .exact ao r
 .exact az r
theorem KeysT.no{ks:List D}{kvs:List (List Key×V)}(h:KeysT ks kvs)(hk:ks.all D.isKey=true):False:=by
 cases h<;>simp[D.isKey] at hk
/-- a dict with no tuple among its keys -/
theorem uw{H:Hp}{p:Addr}{ks:List D}{vs:List V}(h:qk H p ks vs)(hk:ks.all D.isKey=true):∃kvs,Rd H p (.dK kvs)/\KeysK ks kvs/\vs=kvs.map (·.2):=by
 rcases h with h|⟨kvs,f,h1,h2⟩
 .exact h
 .exact(KeysT.no h1 hk).elim
def tW:R2:=λx y H Q=>∃a v,x=V.ref a/\DGet H a y (some v)/\Q v H
theorem rZ(hu:X.A.units+1<cLine):IxR X tW:=by
 intro value slice pins s σ H x y v u Q I rx ry h hs
 obtain⟨p,w,rfl,g,q⟩:=h
 obtain rfl:v=Value.ref p:=rx
 have hT:=dict_typeIs I g
 unfold subscriptTail
 refine wpAny_bind ?_
 rw[getitemInPython_of_ne hT.not_modules]
 refine wpAny_bind (wpAny_specialOf hT PySem.F.slot_dict_getitem.lookup ?_)
 have fin:wpAny (model X.prog X.w) X.A (subscripted slice false (.ref p) u) (λr s₃=>wpAny (model X.prog X.w) X.A (letTemporaryGo value (.ref p) r >>= λ_=>pure r) (EP X pins σ Q) X.xe s₃) X.xe s:=by
  rw[hs]
  refine wpAny_operating (d_getItem hu I g ry λw' s3 I3 rw'=> ?_)
  exact wpAny_bind (wpAny_letTemporaryGo (wpAny_pure ⟨w,H,I3,rw',q⟩))
 first
  | exact wpAny_pure (wpAny_bind fin)
  | exact wpAny_bind (wpAny_pure (wpAny_bind fin))
  | exact wpAny_bind fin
theorem qT:iY X W (λx y H Q=>tW x y H Q\/rIxL X.K x y H Q\/rIxT X.K x y H Q\/rIxS x y H Q) bp:=by
 intro M m hb fr σ H x y vx vy res hb' Q a rx ry e c
 unfold bp at e
 split at e
 .rename_i ks vs e1
  split at e
  .rename_i hk
   rw[Bool.and_eq_true,Bool.and_eq_true] at hk
   obtain⟨⟨h1,h2⟩,h3⟩:=hk
   split at e
   .rename_i d e2
    cases e
    obtain⟨kk,hkk⟩:=D.isKey_some h1
    obtain⟨p,ws,rfl,f,r⟩:=nI a rx e1
    obtain⟨kvs,g1,g2,rfl⟩:=uw f h2
    obtain⟨v,g3,g4⟩:=(jC hkk g2 (of_decide_eq_true h3) _ _ _ _ r).1 d e2
    rw[qI ry hkk]
    exact .inl ⟨p,v,rfl,.inl ⟨kvs,kk,g1,rfl,g3.symm⟩,c.done a g4.t⟩
   .cases e
  .cases e
 .exact .inr (uJ (W:=W) a rx ry e c)
/-- x[i] -/
theorem aI{k:Nat}(hr:Room k X.A)(ha:SE X W a eva)(hb:SE X W b evb)(hp:PlainIx b:=by intro _ _; rfl):SE X W (.Subscript a b pos) (am bp eva evb) :=
 vz (IxR.or (rZ (by have:=hr.un; omega)) (IxR.or ix_list (IxR.or ix_tup ix_str))) qT ha hb hp
def uW(neg:Bool):R2:=λx y H Q=>∃a o,y=V.ref a/\DGet H a x o/\Q (.bl (neg != o.isSome)) H
theorem rB(hu:X.A.units+1<cLine):OpR X (compareOp .In) (uW false):=by
 intro pins s σ H x y v u Q I rx ry h
 obtain⟨p,o,rfl,g,q⟩:=h
 obtain rfl:u=Value.ref p:=ry
 exact d_in hu I g rx λs' I'=>⟨.bl o.isSome,H,I',rfl,by simpa using q⟩
def kR(neg:Bool):D->D->Ev:=λx y fr hb=>match oh fr hb y with
 | some (ks,vs)=>if x.isKey && (ks.all D.isKey) && decide (ks.length=vs.length) then some (.ok (.bl (neg != (getD ks vs x).isSome)),hb) else none
 | none=>gIn neg x y fr hb
theorem rS(neg:Bool):iY X W (λx y H Q=>uW neg x y H Q\/vG neg x y H Q\/v3 X.K neg x y H Q) (kR neg):=by
 intro M m hb fr σ H x y vx vy res hb' Q a rx ry e c
 unfold kR at e
 split at e
 .rename_i ks vs e1
  split at e
  .rename_i hk
   rw[Bool.and_eq_true,Bool.and_eq_true] at hk
   obtain⟨⟨h1,h2⟩,h3⟩:=hk
   cases e
   obtain⟨kk,hkk⟩:=D.isKey_some h1
   obtain⟨p,ws,rfl,f,r⟩:=nI a ry e1
   obtain⟨kvs,g1,g2,rfl⟩:=uw f h2
   have gg:=jC hkk g2 (of_decide_eq_true h3) _ _ _ _ r
   rw[qI rx hkk]
   refine .inl ⟨p,valV kvs kk,rfl,.inl ⟨kvs,kk,g1,rfl,rfl⟩,?_⟩
   have e3:(getD ks vs x).isSome=(valV kvs kk).isSome:=by
    cases q:getD ks vs x with
    | none=>rw[gg.2 q]; rfl
    | some d=>obtain⟨v,e4,_⟩:=gg.1 d q; rw[e4]; rfl
   rw[<-e3]
   exact c.done a rBl
  .cases e
 .exact .inr (uo (W:=W) neg a rx ry e c)
theorem qu{k:Nat}(hr:Room k X.A)(ha:SE X W a eva)(hb:SE X W b evb)(hm:behindInMarks .In b=false:=by rfl):ST X W (.Compare a [.In] [b] pos) (am (kR false) eva evb) :=
 fg (OpR.or (rB (by have:=hr.un; omega)) (OpR.or ug (uK (by have:=hr.un; omega)))) (rS false) ha hb hm
def sm(k:D)(v:D):O->Option O
 | .lst xs=>match k with
  | .int i=>(match ixN xs.length i with
   | some j=>some (.lst (xs.set j v))
   | none=>none)
  | _=>none
 | .dct ks vs=>if k.isKey && (ks.all D.isKey) && decide (ks.length=vs.length) && decide (ks.length<szL) then some (.dct (uI ks vs k v).1 (uI ks vs k v).2) else none
 | _=>none
def vq:TSet:=λo i v H Q=>rSetL o i v H Q\/rSetD o i v H Q
theorem uC(hu:X.A.units+1<cLine):PSet X vq:=by
 intro pins s σ H o i v ov iv u Q I ro ri rv h
 rcases h with h|h
 .exact set_list pins s σ H o i v ov iv u Q I ro ri rv h
 .exact set_dict hu pins s σ H o i v ov iv u Q I ro ri rv h
theorem ii{k:D}{kk:Key}(hk:kh k=some kk):∀{ks:List D} {kvs:List (Key×V)},KeysK ks kvs->ks.any (kEq · k)=kvs.any λkv=>decide (kv.1=kk)
 | [],_,.nil=>rfl
 | a::ks,(ka,v)::kvs,.cons h1 h2=>by
  rw[List.any_cons,List.any_cons,ii hk h2,lP h1 hk]
theorem jU{K:PySem.W.Frag}{B:Addr->Prop}{m:List Addr}{H:Hp}{k d:D}{v:V}{kk:Key}(hk:kh k=some kk)(rd:RelD K B m H d v):∀{ks vs:List D} {kvs:List (Key×V)},KeysK ks kvs->RelDs K B m H vs (kvs.map (·.2)) ->
  KeysK ks (kvs.map λkv=>if kv.1=kk then (kv.1,v) else kv)/\RelDs K B m H (List.zipWith (λa w=>if kEq a k then d else w) ks vs) ((kvs.map λkv=>if kv.1=kk then (kv.1,v) else kv).map (·.2))
 | [],vs,_,.nil,r=>⟨.nil,RelDs.nil'⟩
 | a ::ks,vs,(ka,w)::kvs,.cons h1 h2,r=>by
  match vs,r with
  | [],r=>exact absurd (RelDs.nil_iff.mp r) (by simp)
  | x ::vs,r =>
   obtain⟨v',r',e,r1,r2⟩:=RelDs.cons_inv r
   have e1:w=v'/\kvs.map (·.2)=r':=by simpa using e
   obtain⟨rfl,rfl⟩:=e1
   obtain⟨g1,g2⟩:=jU hk rd h2 r2
   rw[List.map_cons,List.zipWith_cons_cons,List.map_cons,lP h1 hk]
   by_cases q:ka=kk
   .simp only[q,decide_true,if_true]
    exact⟨.cons (by rw[h1,q]) g1,RelDs.cons rd g2⟩
   .simp only[q,decide_false,if_false]
    exact⟨.cons h1 g1,RelDs.cons r1 g2⟩
theorem KeysK.snoc{k:D}{kk:Key}{v:V}(hk:kh k=some kk):∀{ks:List D} {kvs:List (Key×V)},KeysK ks kvs->KeysK (ks++[k]) (kvs++[(kk,v)])
 | _,_,.nil=>.cons hk .nil
 | _,_,.cons h1 h2=>.cons h1 (KeysK.snoc hk h2)
theorem KeysK.len:∀{ks:List D} {kvs:List (Key×V)},KeysK ks kvs->ks.length=kvs.length
 | _,_,.nil=>rfl
 | _,_,.cons h1 h2=>by simp[KeysK.len h2]
theorem sO{K:PySem.W.Frag}{B:Addr->Prop}{m:List Addr}{H:Hp}{k d:D}{vk v:V}{o o':O}{p:Addr}{Q:Hp->Prop}(ro:RelO K B m H o p)(hp:B p)(rk:RelD K B m H k vk)(rd:RelD K B m H d v)(e:sm k d o=some o')
  (c:∀u,RelO K B m (upd H p u) o' p->Q (upd H p u)):vq (.ref p) vk v H Q:=by
 unfold sm at e
 split at e
 .rename_i xs
  split at e
  .rename_i i
   split at e
   .rename_i j e1
    cases e
    obtain⟨vs,h1,h2⟩:=ro
    obtain rfl:=rk.int_inv
    refine .inl ⟨p,vs,i,j,rfl,rfl,h1,by rw[<-h2.length]; exact e1,c _ ⟨_,upd_same,(h2.set rd j).wr hp⟩⟩
   .cases e
  .cases e
 .rename_i ks vs
  split at e
  .rename_i hk
   rw[Bool.and_eq_true,Bool.and_eq_true,Bool.and_eq_true] at hk
   obtain⟨⟨⟨h1,h2⟩,h3⟩,h4⟩:=hk
   cases e
   obtain⟨kk,hkk⟩:=D.isKey_some h1
   obtain⟨ws,f,r⟩:=ro
   have hK:∃kvs,H p=some (.dK kvs)/\KeysK ks kvs/\ws=kvs.map (·.2):=by
    rcases f with f|⟨kvs,f,g1,g2⟩
    .exact f
    .exact(KeysT.no g1 h2).elim
   obtain⟨kvs,g1,g2,rfl⟩:=hK
   have ev:vk=kV kk:=by
    cases k<;>simp[kh] at hkk<;>subst hkk<;>unfold RelD at rk<;>exact rk
   subst ev
   refine .inr ⟨p,_,rfl,DPut.k g1 (by rw[<-g2.len,<-bd]; exact of_decide_eq_true h4),c _ ?_⟩
   unfold uI putK
   rw[ii hkk g2]
   split
   .obtain⟨z1,z2⟩:=jU hkk rd g2 r
    exact⟨_,.inl ⟨_,upd_same,z1,rfl⟩,z2.wr hp⟩
   .exact⟨_,.inl ⟨_,upd_same,g2.snoc hkk,rfl⟩,by rw[List.map_append]; exact(r.append (RelDs.cons rd RelDs.nil')).wr hp⟩
  .cases e
 .cases e
/-- o[i]=e: the value first -/
def qZ(eve evo evi:Ev):Sv:=λfr hb=>match eve fr hb with
 | some (.ok d,hb1)=>if d.isVal then (match evo fr hb1 with
  | some (.ok x,hb2)=>(match evi fr hb2 with
   | some (.ok k,hb3)=>if k.isVal then (match rdO fr hb3 x with
    | some ob=>(match sm k d ob with
     | some ob'=>some (.nx (wrO x ob' fr hb3).1,(wrO x ob' fr hb3).2)
     | none=>none)
    | none=>none) else none
   | some (.exn z,hb3)=>some (.ex z,hb3)
   | none=>none)
  | some (.exn z,hb2)=>some (.ex z,hb2)
  | none=>none) else none
 | some (.exn z,hb1)=>some (.ex z,hb1)
 | none=>none
theorem mv{k:Nat}{o i e:Expr}{eve evo evi:Ev}(hr:Room k X.A)(he:SE X W e eve)(ho:SE X W o evo)(hi:SE X W i evi)
  (hs:swapsWithSole [.Subscript o i pos'] e pos.line X.env=pure false:=by rfl) (hw:swappedStores [.Subscript o i pos'] e X.env=pure none:=by rfl)
  (h1:(assignEach [.Subscript o i pos'] X.env).map (·.2)=[assign (.Subscript o i pos') X.env]:=by rfl)
  (ha:∀v,assign (.Subscript o i pos') X.env v=(do
   let ov <-holding [v] (eval o X.env)
   let iv <-holding [v,ov] (eval i X.env)
   standAt pos'
   holding [v,ov,iv] (setItem ov iv v)
   release [v,ov,iv] []):=by intro _; rfl) :
  SS X W G (.Assign [.Subscript o i pos'] e pos) (qZ eve evo evi):=PS.mono (ps_asg he (pg_sub ho hi (uC (by have:=hr.un; omega)) ha) hs hw h1) λD σ H h=>by
 obtain⟨m,hb,fr,r,hb',s,e,c⟩:=h
 unfold qZ at e
 show tE X.K W eve σ H λx H1=>tE X.K W evo σ H1 λo H2=>tE X.K W evi σ H2 λi H3=>vq o i x H3 λH4=>D.nx σ H4
 split at e
 .rename_i d hb1 e1
  split at e
  .rename_i hd
   refine s.ev' e1 λm1 H1 v s1 k1 t1 rv=> ?_
   split at e
   .rename_i x hb2 e2
    refine s1.ev' e2 λm2 H2 vo s2 k2 t2 ro=> ?_
    split at e
    .rename_i kd hb3 e3
     split at e
     .rename_i hkd
      refine s2.ev' e3 λm3 H3 vi s3 k3 t3 ri=> ?_
      split at e
      .rename_i ob e4
       split at e
       .rename_i ob' e5
        cases e
        obtain⟨p,rfl,rb,hB,hwr⟩:=s3.wr (o':=ob') (ro.keep t3) e4
        refine sO rb hB (ri.val hkd) (((rv.keep t2).keep t3).val hd) e5 λu ru=> ?_
        obtain⟨s4,k4⟩:=hwr u ru
        exact c m3 _ σ s4 (k1.trans (k2.trans (k3.trans k4)))
       .cases e
      .cases e
     .cases e
    .rename_i z hb3 e3
     cases e
     exact s2.ev' e3 λm3 H3 C dd s3 k3 rx=>c m3 H3 σ fr C dd s3 (k1.trans (k2.trans k3)) rx
    .cases e
   .rename_i z hb2 e2
    cases e
    exact s1.ev' e2 λm2 H2 C dd s2 k2 rx=>c m2 H2 σ fr C dd s2 (k1.trans k2) rx
   .cases e
  .cases e
 .rename_i z hb1 e1
  cases e
  exact s.ev' e1 λm1 H1 C dd s1 k1 rx=>c m1 H1 σ fr C dd s1 k1 rx
 .cases e
def eG(i j:Int):List D:=(List.range (j - i).toNat).map λn:Nat=>D.int (i+(n:Int))
def smI(i:Int):Bool:=decide (-(2 ^ 62)<=i) && decide (i<2 ^ 62)
def cN(es:Evs):Iv:=λfr hb=>match es fr hb with
 | some (.inl [.int j],hb1)=>if smI j then some (.inl (.ls (eG 0 j) true),hb1) else none
 | some (.inr x,hb1)=>some (.inr x,hb1)
 | _=>none
def fQ(es:Evs):Iv:=λfr hb=>match es fr hb with
 | some (.inl [.int i,.int j],hb1)=>if smI i && smI j then some (.inl (.ls (eG i j) true),hb1) else none
 | some (.inr x,hb1)=>some (.inr x,hb1)
 | _=>none
theorem gK{K:PySem.W.Frag}{M:Addr->Prop}{m1:List Addr}{H1:Hp}{i j:Int}{fz:Bool}:WalkD K M m1 H1 (eG i j) fz (Itr i (j - i).toNat) (λ_=>True) (YFn λn=>.int (i+n)):=by
 have hl:(eG i j).length=(j - i).toNat:=by unfold eG; rw[List.length_map,List.length_range]
 refine⟨by rw[hl]; exact walk_range,λ_ _=>trivial,λn H2 x H2' y=>.inl y.1,λn H2 x H2' hn y B2 m2 k nf=> ?_⟩
 obtain⟨rfl,rfl⟩:=y
 rw[hl] at hn
 refine⟨.int (i+n),by unfold eG; rw[List.getElem?_map,List.getElem?_range hn]; rfl,?_⟩
 unfold RelD
 rfl
theorem mh{i:Int}(h:smI i=true): -(2 ^ 62)<=i/\i<2 ^ 62:=by
 unfold smI at h
 rw[Bool.and_eq_true] at h
 exact⟨of_decide_eq_true h.1,of_decide_eq_true h.2⟩
theorem cH{tg:Expr}{p:Pos}{evs:Evs}(hg:Gl X "range")(hm:X.mg "range"=none)(ha:SEs X W [a] evs)(hs:starEach [a] X.env=[(false,eval a X.env)]:=by rfl):SI X W tg (.Call (.Name "range" p) [a] [] pos) (cN evs):=by
 refine PI.mono (pi_range1 hg hm ha hs) λσ H R h=> ?_
 obtain⟨M,m,hb,fr,r,hb',at_,e0,c⟩:=h
 unfold cN at e0
 show tEs X.K W evs σ H λvs H1=>∃j:Int,vs=[.int j]/\ -(2 ^ 62)<=j/\j<2 ^ 62/\R (Itr 0 j.toNat) H1
 split at e0
 .rename_i j hb1 e1
  split at e0
  .rename_i hj
   cases e0
   refine⟨M,m,hb,fr,.inl _,_,at_.wd,at_.fr,e1,λm1 H1 s1 vs rv=> ?_⟩
   obtain⟨v,rfl,r1⟩:=rv.one
   have hj':=mh hj
   refine⟨j,by rw[ao r1],hj'.1,hj'.2,?_⟩
   have z:=c m1 H1 s1 _ _ _ (gK (i:=0) (j:=j))
   rw[Int.sub_zero] at z
   exact z
  .cases e0
 .rename_i x hb1 e1
  cases e0
  exact⟨M,m,hb,fr,.inr x,_,at_.wd,at_.fr,e1,λm1 H1 s1=>c m1 H1 s1⟩
 .cases e0
theorem n7{tg:Expr}{p:Pos}{evs:Evs}(hg:Gl X "range")(hm:X.mg "range"=none)(ha:SEs X W [a,b] evs)(hs:starEach [a,b] X.env=[(false,eval a X.env),(false,eval b X.env)]:=by rfl)(hs2:starEach [b] X.env=[(false,eval b X.env)]:=by rfl):SI X W tg (.Call (.Name "range" p) [a,b] [] pos) (fQ evs):=by
 refine PI.mono (pi_range2 hg hm ha hs hs2) λσ H R h=> ?_
 obtain⟨M,m,hb,fr,r,hb',at_,e0,c⟩:=h
 unfold fQ at e0
 show tEs X.K W evs σ H λvs H1=>∃i j:Int,vs=[.int i,.int j]/\(-(2 ^ 62)<=i/\i<2 ^ 62/\ -(2 ^ 62)<=j/\j<2 ^ 62)/\R (Itr i (j - i).toNat) H1
 split at e0
 .rename_i i j hb1 e1
  split at e0
  .rename_i hj
   cases e0
   refine⟨M,m,hb,fr,.inl _,_,at_.wd,at_.fr,e1,λm1 H1 s1 vs rv=> ?_⟩
   obtain⟨v,w,rfl,r1,r2⟩:=rv.two
   rw[Bool.and_eq_true] at hj
   have h1:=mh hj.1
   have h2:=mh hj.2
   exact⟨i,j,by rw[ao r1,ao r2],⟨h1.1,h1.2,h2.1,h2.2⟩,c m1 H1 s1 _ _ _ gK⟩
  .cases e0
 .rename_i x hb1 e1
  cases e0
  exact⟨M,m,hb,fr,.inr x,_,at_.wd,at_.fr,e1,λm1 H1 s1=>c m1 H1 s1⟩
 .cases e0
end
end
section
section
variable {prog:Program} {w:World} {A:Around} {E:Value->Shared->Prop} {s:Shared}
theorem oP(xs:Array Value):((List.range xs.size).filterMap fun(k:Nat)=>xs[(((xs.size:Int) - 1)+(k:Int) * (-1)).toNat]?).toArray=xs.toList.reverse.toArray:=by
 have e:((List.range xs.size).filterMap fun(k:Nat)=>xs[(((xs.size:Int) - 1)+(k:Int) * (-1)).toNat]?)=((List.range xs.size).map λk=>xs.size - 1 - k).filterMap (xs[·]?):=by
  rw[List.filterMap_map]
  have cg:∀(l:List Nat) (f g:Nat->Option Value),(∀k∈l,f k=g k)->l.filterMap f=l.filterMap g:=by
   intro l
   induction l with
   | nil=>intro _ _ _; rfl
   | cons a l ih =>
    intro f g hh
    rw[List.filterMap_cons,List.filterMap_cons,hh a List.mem_cons_self,ih f g λk hk=>hh k (List.mem_cons_of_mem _ hk)]
  refine cg _ _ _ λk hk=> ?_
  have:=List.mem_range.mp hk
  have e2:(((xs.size:Int) - 1)+(k:Int) * (-1)).toNat=xs.size - 1 - k:=by omega
  rw[e2]; rfl
 rw[e,PySem.W.krv_range,List.filterMap_reverse,PySem.W.krv_all]
theorem ld(n:Nat):Builtin.Slice.sliceAdjust none none (-1) (n:Int)=((n:Int) - 1,-1):=by
 unfold Builtin.Slice.sliceAdjust
 have h1:((-1:Int)<0):=by omega
 simp only[h1,if_true]
theorem ln(n:Nat):Builtin.Slice.slicePlaces ((n:Int) - 1) (-1) (-1)=n:=by
 unfold Builtin.Slice.slicePlaces
 have h1:¬((-1:Int) > 0):=by omega
 simp only[h1,if_false]
 have e:((n:Int) - 1 - -1 - 1) / (- -1:Int)=(n:Int) - 1:=by
  rw[show(- -1:Int)=1 by decide,Int.ediv_one]; omega
 rw[e]
 split<;>omega
theorem df{t sl:Addr}{items:Array Value}{tk:Tok}{Q:Value->Shared->Prop}(ht:IsTup s.heap t items)(hs:s.heap.IsSliceOf sl .none .none (.int (-1) tk))
  (h:Q (.ref s.heap.objs.size) { s with heap:=s.heap.push { cls:=.type "tuple",data:=.seq items.toList.reverse.toArray } })
  (hsz:items.size<=sizeLine):wpAny (model prog w) A (getItem (.ref t) (.ref sl)) Q E s:=by
 have htake:sizeOk (.seq items.toList.reverse.toArray):=by
  show items.toList.reverse.toArray.size<=sizeLine
  rw[List.size_toArray,List.length_reverse,Array.length_toList]
  exact hsz
 obtain⟨os,hos,hcs,hds⟩:=id hs
 have hTs:s.TypeIs (.ref sl) "slice":=⟨os,hos,hcs⟩
 unfold getItem
 try with_reducible refine wpAny_holding ?_
 first|refine wpAny_bind (wpAny_pure ?_)|skip
 refine wpAny_bind (wpAny_sequenceKey ht.typeIs (by decide) ?_)
 refine wpAny_bind (wpAny_callSpecial?_slot (name:=Str.ofString "__getitem__") ht.typeIs PyProof.Rows.slot_tuple_getitem
  (wpAny_call_entry PyProof.Rows.slot_tuple_getitem ht.typeIs entry_tuple_getitem ?_ (args_tuple_getitem _ _)))
 show wpAny _ _ (Builtin.Tuple.tupleItemsOf (.ref t) >>= _) _ _ s
 refine wpAny_bind (tupleItemsOf_ ht ?_)
 refine wpAny_bind (wpAny_typeOf hTs ?_)
 rw[if_pos (by decide)]
 refine wpAny_bind ?_
 unfold Builtin.Slice.sliceApplied Builtin.Slice.sliceFields
 refine wpAny_bind (wpAny_bind (wpAny_field hos hds (x:=.none) rfl (wpAny_bind (wpAny_field hos hds (x:=.none) rfl (wpAny_bind (wpAny_field hos hds (x:=.int (-1) tk) rfl (wpAny_pure ?_)))))))
 refine wpAny_bind (slicePart_int ?_)
 show wpAny _ _ (if ((-1:Int) == 0)=true then _ else _) _ _ s
 rw[if_neg (by decide)]
 refine wpAny_bind (slicePart_none (wpAny_bind (slicePart_none (wpAny_bind (wpAny_pure ?_)))))
 show wpAny _ _ (match Builtin.Slice.sliceAdjust none none (-1) (items.size:Int) with|(lo,hi)=>pure (lo,(-1:Int),Builtin.Slice.slicePlaces lo hi (-1))) _ _ s
 rw[ld items.size]
 show wpAny _ _ (pure ((items.size:Int) - 1,(-1:Int),Builtin.Slice.slicePlaces ((items.size:Int) - 1) (-1) (-1))) _ _ s
 rw[ln]
 refine wpAny_pure ?_
 show wpAny _ _ (if (((items.size:Int) - 1) == 0 && (-1:Int) == 1 && items.size == items.size)=true then _ else _) _ _ s
 rw[if_neg (by rw[show((-1:Int) == 1)=false by decide,Bool.and_false]; simp),oP]
 first
  | exact wpAny_bind (m:=Builtin.Tuple.tupleExact _) (wpAny_newObj_type (wpAny_pure ⟨_,rfl,wpAny_pure h⟩) htake)
  | exact wpAny_bind (m:=Builtin.Tuple.tupleExact _) (wpAny_newObj_type (wpAny_bind (wpAny_pure (wpAny_pure ⟨_,rfl,wpAny_pure h⟩))) htake)
  | exact wpAny_bind (wpAny_bind (m:=Builtin.Tuple.tupleExact _) (wpAny_newObj_type (wpAny_pure (wpAny_pure ⟨_,rfl,wpAny_pure h⟩)) htake))
  | exact wpAny_bind (wpAny_bind (m:=Builtin.Tuple.tupleExact _) (wpAny_newObj_type (wpAny_pure ⟨_,rfl,wpAny_pure h⟩) htake))
end
def v9(K:PySem.W.Frag):V->Hp->VK->Prop:=λx H Q=>(∃a xs,x=.ref a/\SqL K H a xs/\∀p,H p=none->Q (.ref p) (upd H p (.lst xs.reverse))) \/
 (∃a xs,x=.ref a/\SqT K H a xs/\∀p,H p=none->Q (.ref p) (upd H p (.tup xs.reverse))) \/
 ∃z:List Char,x=.str (au z)/\z.length<=szL/\Q (.str (au z.reverse)) H
theorem iI(z:List Char):(⟨((Builtin.Str.strSliceIndices none none (-1) (au z).length).filterMap ((au z).cps[·]?)).toArray⟩:Str)=au z.reverse:=by
 have e:Builtin.Str.strSliceIndices none none (-1) (au z).length=(List.range (au z).length).map λk=>(au z).length - 1 - k:=by
  unfold Builtin.Str.strSliceIndices
  show sliceRange (((au z).length:Int) - 1) (-1) (-1)=_
  exact PySem.W.krv_sliceRange _
 rw[e,PySem.W.krv_range,List.filterMap_reverse]
 have e2:=PySem.W.krv_all (au z).cps
 have e3:(au z).cps.size=(au z).length:=rfl
 rw[e3] at e2
 rw[e2]
 unfold au
 simp
theorem rG{X:Cx}{e:Expr}{te:TE}{k:Nat}{p1 p2 p3 pos:Pos}(he:PE X e te):PE X (.Subscript e (.Slice none none (some (.UnaryOp .USub (.Constant (.int 1) k p1) p2)) p3) pos) (λσ H Q=>te σ H λx H1=>v9 X.K x H1 Q):=by
 refine⟨λpins s σ H Q I h=> ?_⟩
 refine Subscript_ (thn (he.run pins s σ H _ I h) λv s1 ⟨x,H1,I1,r1,q1⟩=> ?_)
 have hst:PO X (some (.UnaryOp .USub (.Constant (.int 1) k p1) p2)) (tPart (tUn (rU λi=>.int (-i)) (tC (.int 1)))):=po_some (pe_un un_neg pe_int)
 refine wpAny_Slice (thn (po_none.run pins s1 σ H1 (λo H2=>o=none/\H2=H1) I1 ⟨rfl,rfl⟩) λvl s2 ⟨l,H2,I2,pl,el,e2⟩=> ?_)
 subst el e2
 refine thn (po_none.run pins s2 σ H2 (λo H3=>o=none/\H3=H2) I2 ⟨rfl,rfl⟩) λvu s3 ⟨u,H3,I3,pu,eu,e3⟩=> ?_
 subst eu e3
 refine thn (hst.run pins s3 σ H3 (λo H4=>o=some (-1)/\H4=H3) I3 ⟨1,rfl,-1,rfl,rfl,rfl⟩) λvs s4 ⟨o,H4,I4,ps,eo,e4⟩=> ?_
 subst eo e4
 have I5:Inv X pins σ H4 { s4 with heap:=s4.heap.push { cls:=.type "slice",data:=.fields #[vl,vu,vs] } }:=I4.kept (t':=s4.toks) λb ob q=>Heap.get?_push_of_some _ q
 show wpAny (model X.prog X.w) X.A (subscriptTail e (.Slice none none (some (.UnaryOp .USub (.Constant (.int 1) k p1) p2)) p3) v (.ref s4.heap.objs.size)) (EP X pins σ Q) X.xe { s4 with heap:=s4.heap.push { cls:=.type "slice",data:=.fields #[vl,vu,vs] } }
 rcases q1 with ⟨a,xs,rfl,hx,q⟩|⟨a,xs,rfl,hx,q⟩|⟨z,rfl,hz,q⟩
 .cases r1
  obtain⟨its,r,ht,hz⟩:=I5.list hx
  have hlen:=r.length
  refine tail_any (ops:=[.ref a,.ref s4.heap.objs.size]) ht.isList.typeIs (PySem.slot_list_getitem.lookup) ?_ (by bv_omega)
  refine wpAny_getItem_list_slice ht.isList (Heap.IsSliceOf.new _ vl vu vs) pl pu ps (by decide) ?_ (by rw[List.size_toArray]; omega)
  rw[PySem.W.krv_pick]
  refine⟨.ref _,_,I5.laid (t':=s4.toks) (o:=.lst xs.reverse) (λb ob q=>Heap.get?_push_of_some _ q) (Nat.le_refl _) ?_,rfl,q _ (I5.hok.fresh (Nat.le_refl _))⟩
  exact⟨by rw[List.length_reverse]; exact hz,_,0,r.reverse,Heap.get?_push_size _ rfl⟩
 .cases r1
  obtain⟨its,r,ht,hz⟩:=I5.tuple hx
  have hlen:=r.length
  cases pl
  cases pu
  cases ps with
  | int i tk =>
   refine tail_any (ops:=[.ref a,.ref s4.heap.objs.size]) ht.typeIs (PyProof.Rows.slot_tuple_getitem.lookup) ?_ (by bv_omega)
   refine df ht (Heap.IsSliceOf.new _ .none .none (.int (-1) tk)) ?_ (by rw[List.size_toArray]; omega)
   refine⟨.ref _,_,I5.laid (t':=s4.toks) (o:=.tup xs.reverse) (λb ob q=>Heap.get?_push_of_some _ q) (Nat.le_refl _) ?_,rfl,q _ (I5.hok.fresh (Nat.le_refl _))⟩
   exact⟨by rw[List.length_reverse]; exact hz,_,r.reverse,_,Heap.get?_push_size _ rfl,rfl,0,by simp⟩
 .obtain⟨t,rfl⟩:=r1
  cases pl
  cases pu
  cases ps with
  | int i tk =>
   refine tail_any (ops:=[.str (au z) t,.ref s4.heap.objs.size]) (typeIs_str _ _ _) (F.slot_str_getitem.lookup) ?_ (by bv_omega)
   refine wpAny_getItem_str_slice (l:=none) (u:=none) (st:=some (-1,tk)) ⟨_,Heap.get?_push_size _ rfl,rfl,rfl⟩ rfl ?_
   have e9:=iI z
   have mk:sliceMade (au z) t none none (some (-1,tk))=.str (au z.reverse):=by
    unfold sliceMade slicePicked
    show(if ((-1:Int) == 1 && _)=true then _ else Made.str _)=_
    rw[if_neg (by rw[show((-1:Int) == 1)=false by decide,Bool.false_and]; simp)]
    exact congrArg Made.str e9
   rw[mk]
   exact⟨by rw[aJ,List.length_reverse,<-bd]; exact hz,.str (au z.reverse),H4,I5.tok _,⟨_,rfl⟩,q⟩
def sY:D->Ev:=λx fr hb=>match x with
 | .str s=>if s.length<=szL then some (.ok (.str s.reverse),hb) else none
 | .tup xs=>some (.ok (.tup xs.reverse),hb)
 | .fz xs=>some (.ok (.lst xs.reverse),hb)
 | x=>match d8 fr hb x with
  | some xs=>some (.ok (.lst xs.reverse),hb)
  | none=>none
theorem uH{X:Cx}{W:WX}{e:Expr}{ev:Ev}{k:Nat}{p1 p2 p3 pos:Pos}(he:SE X W e ev):SE X W (.Subscript e (.Slice none none (some (.UnaryOp .USub (.Constant (.int 1) k p1) p2)) p3) pos) (ay ev sY) :=
 PE.mono (rG he) λ_ _ _ h=>bT h λ{M m hb fr x vx H2 r hb'} a rx e c=>by
  unfold sY at e
  split at e
  .split at e
   .rename_i hz
    cases e
    rw[az rx]
    exact .inr (.inr ⟨_,rfl,hz,c.done a kW⟩)
   .cases e
  .cases e
   obtain⟨p,vs,rfl,f,r⟩:=bz rx
   exact .inr (.inl ⟨p,vs,rfl,f,λq hq=>c.tup a hq r.reverse⟩)
  .cases e
   obtain⟨p,vs,rfl,f,r⟩:=c8 rx
   exact .inl ⟨p,vs,rfl,f,λq hq=>c.lst a hq r.reverse⟩
  .split at e
   .rename_i xs e1
    cases e
    obtain⟨p,vs,rfl,f,r⟩:=bc a rx e1
    exact .inl ⟨p,vs,rfl,.of f,λq hq=>c.lst a hq r.reverse⟩
   .cases e
end
section
section
variable {prog:Program} {w:World} {A:Around} {E:Value->Shared->Prop} {s:Shared}
theorem fV{P:Nat->Value->Prop}(val:Nat->Str)(hval:∀i v,P i v->∃t,v=.str (val i) t) :
  CmpOf prog w A .Lt P (λi j=>decide ((val i).cps.toList<(val j).cps.toList)):=λi j vi vj s Q E hi hj h=>by
 obtain⟨t,rfl⟩:=hval i vi hi
 obtain⟨u,rfl⟩:=hval j vj hj
 exact richCompare_gives (op:=.Lt) (typeIs_str s _ t) (typeIs_str s _ u) F.slot_str_lt F.entry_str_lt (F.args_str_lt_2 _ _) (gives_str_lt _ _ t u) (λx=>nomatch x) h
theorem gp{P:Nat->Value->Prop}(val:Nat->Str)(hval:∀i v,P i v->∃t,v=.str (val i) t) :
  CmpOf prog w A .Gt P (λi j=>decide ((val j).cps.toList<(val i).cps.toList)):=λi j vi vj s Q E hi hj h=>by
 obtain⟨t,rfl⟩:=hval i vi hi
 obtain⟨u,rfl⟩:=hval j vj hj
 exact richCompare_gives (op:=.Gt) (typeIs_str s _ t) (typeIs_str s _ u) F.slot_str_gt F.entry_str_gt (F.args_str_gt_2 _ _) (gives_str_gt _ _ t u) (λx=>nomatch x) h
def two(a b:Str):Nat->Str
 | 0=>a
 | _=>b
theorem gJ{a b:Str}{t u:Tok}{i:Nat}{v:Value}(h:(#[Value.str a t,.str b u]:Array Value)[i]? =some v):∃t,v=.str (two a b i) t:=by
 match i with
 | 0=>simp at h; exact⟨t,h.symm⟩
 | 1=>simp at h; exact⟨u,h.symm⟩
 | n+2=>simp at h
theorem gL{a b:Str}{t u:Tok}{Q:Value->Shared->Prop}(hh:A.handled=none)
  (h:∀h' tk,(∀c o,s.heap.get? c=some o->h'.get? c=some o)->Q (if b.cps.toList<a.cps.toList then .str b u else .str a t) { s with heap:=h',toks:=tk }) :
  wpAny (model prog w) A (call (.builtin "min") [.str a t,.str b u]) Q E s:=by
 have hT:(s.heap.push { cls:=.type "tuple",data:=.seq #[.str a t,.str b u] }).IsTuple s.heap.objs.size #[.str a t,.str b u]:=⟨_,Heap.get?_push_size _ rfl,rfl,0,by simp⟩
 refine call_min_two (wpAny_pyIter_tuple hT ?_)
 have hsz:(s.heap.push { cls:=.type "tuple",data:=.seq #[.str a t,.str b u] }).objs.size=s.heap.objs.size+1:=Heap.size_push ..
 refine⟨_,[_,s.heap.objs.size],[_],_,_,_,_,rfl,Walks.tuple (A:=A.in1) hh _ s.heap.objs.size (by rw[hsz]; exact Nat.ne_of_lt (Nat.lt_succ_self _)) #[.str a t,.str b u],
  ⟨⟨_,Heap.get?_push_size _ rfl,rfl,rfl⟩,hT.push _⟩,λc hc=> ?_,by simp,fV (two a b) (λ_ _=>gJ),λv h' tk hP hk=> ?_⟩
 .show c<((s.heap.push _).push _).objs.size
  rw[Heap.size_push,hsz]
  rcases List.mem_cons.mp hc with rfl|hc
  .rw[hsz]; exact Nat.lt_succ_self _
  .rcases List.mem_cons.mp hc with rfl|hc
   .exact Nat.lt_succ_of_lt (Nat.lt_succ_self _)
   .cases hc
 .have hold:∀c o,s.heap.get? c=some o->h'.get? c=some o:=λc o e=>by
   refine hk c o (λhm=> ?_) (Heap.get?_push_of_some _ (Heap.get?_push_of_some _ e))
   rcases List.mem_cons.mp hm with e1|hm
   .have:=Heap.lt_size e; rw[e1,hsz] at this; exact Nat.lt_irrefl _ (Nat.lt_of_succ_lt this)
   .cases hm
  have:=h h' tk hold
  have hv:v=if b.cps.toList<a.cps.toList then Value.str b u else Value.str a t:=by
   by_cases hba:b.cps.toList<a.cps.toList
   .have e:argBest (λi j=>decide ((two a b i).cps.toList<(two a b j).cps.toList)) 1=1:=by simp[argBest,two,hba]
    have hP':(#[Value.str a t,.str b u]:Array Value)[argBest (λi j=>decide ((two a b i).cps.toList<(two a b j).cps.toList)) 1]? =some v:=hP
    rw[e] at hP'
    rw[if_pos hba]
    simpa using hP'.symm
   .have e:argBest (λi j=>decide ((two a b i).cps.toList<(two a b j).cps.toList)) 1=0:=by simp[argBest,two,hba]
    have hP':(#[Value.str a t,.str b u]:Array Value)[argBest (λi j=>decide ((two a b i).cps.toList<(two a b j).cps.toList)) 1]? =some v:=hP
    rw[e] at hP'
    rw[if_neg hba]
    simpa using hP'.symm
  rw[hv]; exact this
theorem gS{a b:Str}{t u:Tok}{Q:Value->Shared->Prop}(hh:A.handled=none)
  (h:∀h' tk,(∀c o,s.heap.get? c=some o->h'.get? c=some o)->Q (if a.cps.toList<b.cps.toList then .str b u else .str a t) { s with heap:=h',toks:=tk }) :
  wpAny (model prog w) A (call (.builtin "max") [.str a t,.str b u]) Q E s:=by
 have hT:(s.heap.push { cls:=.type "tuple",data:=.seq #[.str a t,.str b u] }).IsTuple s.heap.objs.size #[.str a t,.str b u]:=⟨_,Heap.get?_push_size _ rfl,rfl,0,by simp⟩
 refine call_max_two (wpAny_pyIter_tuple hT ?_)
 have hsz:(s.heap.push { cls:=.type "tuple",data:=.seq #[.str a t,.str b u] }).objs.size=s.heap.objs.size+1:=Heap.size_push ..
 refine⟨_,[_,s.heap.objs.size],[_],_,_,_,_,rfl,Walks.tuple (A:=A.in1) hh _ s.heap.objs.size (by rw[hsz]; exact Nat.ne_of_lt (Nat.lt_succ_self _)) #[.str a t,.str b u],
  ⟨⟨_,Heap.get?_push_size _ rfl,rfl,rfl⟩,hT.push _⟩,λc hc=> ?_,by simp,gp (two a b) (λ_ _=>gJ),λv h' tk hP hk=> ?_⟩
 .show c<((s.heap.push _).push _).objs.size
  rw[Heap.size_push,hsz]
  rcases List.mem_cons.mp hc with rfl|hc
  .rw[hsz]; exact Nat.lt_succ_self _
  .rcases List.mem_cons.mp hc with rfl|hc
   .exact Nat.lt_succ_of_lt (Nat.lt_succ_self _)
   .cases hc
 .have hold:∀c o,s.heap.get? c=some o->h'.get? c=some o:=λc o e=>by
   refine hk c o (λhm=> ?_) (Heap.get?_push_of_some _ (Heap.get?_push_of_some _ e))
   rcases List.mem_cons.mp hm with e1|hm
   .have:=Heap.lt_size e; rw[e1,hsz] at this; exact Nat.lt_irrefl _ (Nat.lt_of_succ_lt this)
   .cases hm
  have:=h h' tk hold
  have hv:v=if a.cps.toList<b.cps.toList then Value.str b u else Value.str a t:=by
   by_cases hba:a.cps.toList<b.cps.toList
   .have e:argBest (λi j=>decide ((two a b j).cps.toList<(two a b i).cps.toList)) 1=1:=by simp[argBest,two,hba]
    have hP':(#[Value.str a t,.str b u]:Array Value)[argBest (λi j=>decide ((two a b j).cps.toList<(two a b i).cps.toList)) 1]? =some v:=hP
    rw[e] at hP'
    rw[if_pos hba]
    simpa using hP'.symm
   .have e:argBest (λi j=>decide ((two a b j).cps.toList<(two a b i).cps.toList)) 1=0:=by simp[argBest,two,hba]
    have hP':(#[Value.str a t,.str b u]:Array Value)[argBest (λi j=>decide ((two a b j).cps.toList<(two a b i).cps.toList)) 1]? =some v:=hP
    rw[e] at hP'
    rw[if_neg hba]
    simpa using hP'.symm
  rw[hv]; exact this
end
section
variable {X:Cx} {W:WX}
theorem lp(hc:X.calm=true):CallR X (.builtin "min") (λxs H Q=>∃i j,xs=[.str i,.str j]/\Q (.str (if j.cps.toList<i.cps.toList then j else i)) H):=by
 intro pins s σ H xs us Q I r h
 obtain⟨i,j,rfl,q⟩:=h
 obtain⟨u,w',rfl,⟨t,rfl⟩,⟨t',rfl⟩⟩:=L2.vals2 r
 refine gL (I.ok.hd hc) λh' tk k=>⟨_,H,I.kept k,?_,q⟩
 by_cases hj:j.cps.toList<i.cps.toList
 .rw[if_pos hj,if_pos hj]; exact⟨_,rfl⟩
 .rw[if_neg hj,if_neg hj]; exact⟨_,rfl⟩
theorem k9(hc:X.calm=true):CallR X (.builtin "max") (λxs H Q=>∃i j,xs=[.str i,.str j]/\Q (.str (if i.cps.toList<j.cps.toList then j else i)) H):=by
 intro pins s σ H xs us Q I r h
 obtain⟨i,j,rfl,q⟩:=h
 obtain⟨u,w',rfl,⟨t,rfl⟩,⟨t',rfl⟩⟩:=L2.vals2 r
 refine gS (I.ok.hd hc) λh' tk k=>⟨_,H,I.kept k,?_,q⟩
 by_cases hj:i.cps.toList<j.cps.toList
 .rw[if_pos hj,if_pos hj]; exact⟨_,rfl⟩
 .rw[if_neg hj,if_neg hj]; exact⟨_,rfl⟩
theorem eO(a b:List Char):((au a).cps.toList<(au b).cps.toList)<->ltC a b=true:=by
 unfold ltC au
 rw[decide_eq_true_iff,List.toList_toArray,List.toList_toArray]
/-- min(a,b),max(a,b) -/
def lU:List D->Ev:=λds fr hb=>match ds with
 | [.int i,.int j]=>some (.ok (.int (if j<i then j else i)),hb)
 | [.str a,.str b]=>some (.ok (.str (if ltC b a then b else a)),hb)
 | _=>none
def mF:List D->Ev:=λds fr hb=>match ds with
 | [.int i,.int j]=>some (.ok (.int (if j > i then j else i)),hb)
 | [.str a,.str b]=>some (.ok (.str (if ltC a b then b else a)),hb)
 | _=>none
theorem oH:ig X W (λxs H Q=>(∃i j,xs=[V.int i,.int j]/\Q (V.int (if j<i then j else i)) H)\/∃i j,xs=[V.str i,.str j]/\Q (V.str (if j.cps.toList<i.cps.toList then j else i)) H) lU:=by
 intro M m hb fr σ H ds vs res hb' Q at_ rv e c
 unfold lU at e
 split at e
 .cases e
  obtain⟨v,w,rfl,r1,r2⟩:=rv.two
  rw[ao r1,ao r2]
  exact .inl ⟨_,_,rfl,c.done at_ fC⟩
 .rename_i a b
  cases e
  obtain⟨v,w,rfl,r1,r2⟩:=rv.two
  rw[az r1,az r2]
  refine .inr ⟨_,_,rfl,?_⟩
  have z:=c.done at_ kW
  by_cases h:ltC b a=true
  .rw[if_pos h] at z; rw[if_pos ((eO b a).mpr h)]; exact z
  .rw[if_neg h] at z; rw[if_neg λq=>h ((eO b a).mp q)]; exact z
 .cases e
theorem oW:ig X W (λxs H Q=>(∃i j,xs=[V.int i,.int j]/\Q (V.int (if j > i then j else i)) H)\/∃i j,xs=[V.str i,.str j]/\Q (V.str (if i.cps.toList<j.cps.toList then j else i)) H) mF:=by
 intro M m hb fr σ H ds vs res hb' Q at_ rv e c
 unfold mF at e
 split at e
 .cases e
  obtain⟨v,w,rfl,r1,r2⟩:=rv.two
  rw[ao r1,ao r2]
  exact .inl ⟨_,_,rfl,c.done at_ fC⟩
 .rename_i a b
  cases e
  obtain⟨v,w,rfl,r1,r2⟩:=rv.two
  rw[az r1,az r2]
  refine .inr ⟨_,_,rfl,?_⟩
  have z:=c.done at_ kW
  by_cases h:ltC a b=true
  .rw[if_pos h] at z; rw[if_pos ((eO a b).mpr h)]; exact z
  .rw[if_neg h] at z; rw[if_neg λq=>h ((eO a b).mp q)]; exact z
 .cases e
def iDs:List D->Option (List Int)
 | []=>some []
 | .int i::r=>match iDs r with
  | some is=>some (i::is)
  | none=>none
 | _=>none
def bDs:List D->Option (List Bool)
 | []=>some []
 | .bl i::r=>match bDs r with
  | some is=>some (i::is)
  | none=>none
 | _=>none
def tDs:List D->Option (List (List Char))
 | []=>some []
 | .str i::r=>match tDs r with
  | some is=>some (i::is)
  | none=>none
 | _=>none
theorem iK{K:PySem.W.Frag}{B:Addr->Prop}{m:List Addr}{H:Hp}:∀{ds:List D} {is:List Int} {vs:List V},iDs ds=some is->RelDs K B m H ds vs->vs=is.map V.int/\ds=is.map D.int
 | [],is,vs,e,r=>by
  cases e
  exact⟨RelDs.nil_iff.mp r,rfl⟩
 | d ::ds,is,vs,e,r=>by
  obtain⟨v,w,rfl,r1,r2⟩:=RelDs.cons_inv r
  unfold iDs at e
  split at e
  .cases e; rename_i h; cases h
  .rename_i i r' h
   cases h
   split at e
   .rename_i js e1
    cases e
    obtain⟨e2,e3⟩:=iK e1 r2
    subst e2
    exact⟨by rw[RelD.int_inv r1]; rfl,by rw[e3]; rfl⟩
   .cases e
  .cases e
theorem qJ{K:PySem.W.Frag}{B:Addr->Prop}{m:List Addr}{H:Hp}:∀{ds:List D} {is:List Bool} {vs:List V},bDs ds=some is->RelDs K B m H ds vs->vs=is.map V.bl
 | [],is,vs,e,r=>by
  cases e
  exact RelDs.nil_iff.mp r
 | d ::ds,is,vs,e,r=>by
  obtain⟨v,w,rfl,r1,r2⟩:=RelDs.cons_inv r
  unfold bDs at e
  split at e
  .cases e; rename_i h; cases h
  .rename_i i r' h
   cases h
   split at e
   .rename_i js e1
    cases e
    have e2:=qJ e1 r2
    subst e2
    unfold RelD at r1
    rw[r1]; rfl
   .cases e
  .cases e
theorem qA{K:PySem.W.Frag}{B:Addr->Prop}{m:List Addr}{H:Hp}:∀{ds:List D} {is:List (List Char)} {vs:List V},tDs ds=some is->RelDs K B m H ds vs->vs=is.map λs=>V.str (au s)
 | [],is,vs,e,r=>by
  cases e
  exact RelDs.nil_iff.mp r
 | d ::ds,is,vs,e,r=>by
  obtain⟨v,w,rfl,r1,r2⟩:=RelDs.cons_inv r
  unfold tDs at e
  split at e
  .cases e; rename_i h; cases h
  .rename_i i r' h
   cases h
   split at e
   .rename_i js e1
    cases e
    have e2:=qA e1 r2
    subst e2
    unfold RelD at r1
    rw[r1]; rfl
   .cases e
  .cases e
theorem RelDs.ofInts{K:PySem.W.Frag}{B:Addr->Prop}{m:List Addr}{H:Hp}:∀is:List Int,RelDs K B m H (is.map D.int) (is.map V.int)
 | []=>RelDs.nil'
 | i::is=>RelDs.cons (by unfold RelD; rfl) (RelDs.ofInts is)
theorem RelDs.ofTexts{K:PySem.W.Frag}{B:Addr->Prop}{m:List Addr}{H:Hp}:∀is:List (List Char),RelDs K B m H (is.map D.str) (is.map λs=>V.str (au s))
 | []=>RelDs.nil'
 | i::is=>RelDs.cons (by unfold RelD; rfl) (RelDs.ofTexts is)
/-- sum,all,any -/
def vU:List D->Ev:=λds fr hb=>match ds with
 | [.tup _]=>none
 | [d]=>match dS fr hb d with
  | some xs=>(match iDs xs with
   | some is=>some (.ok (.int is.sum),hb)
   | none=>none)
  | none=>none
 | _=>none
def sZ(any:Bool):List D->Ev:=λds fr hb=>match ds with
 | [.tup _]=>none
 | [d]=>match dS fr hb d with
  | some xs=>(match bDs xs with
   | some bs=>some (.ok (.bl (if any then bs.any id else bs.all id)),hb)
   | none=>none)
  | none=>none
 | _=>none
theorem eP{K:PySem.W.Frag}{M:Addr->Prop}{m:List Addr}{H:Hp}{hb:HB}{fr:Fr}{σ:St}{d:D}{v:V}{xs:List D}(a:At K M m H hb fr σ)(r:RelT K M m H fr σ d v)(e:dS fr hb d=some xs)(hn:∀ys,d≠.tup ys):∃p vs,v=.ref p/\SqL K H p vs/\RelDs K (Bd M m) m H xs vs:=by
 unfold dS at e
 split at e
 .exact absurd rfl (hn _)
 .cases e
  obtain⟨p,vs,rfl,f,r⟩:=c8 r
  exact⟨p,vs,rfl,f,r⟩
 .obtain⟨p,vs,rfl,f,r⟩:=bc a r e
  exact⟨p,vs,rfl,.of f,r⟩
theorem mL(any:Bool):ig X W (λxs H Q=>∃(a:Addr) (bs:List Bool),xs=[V.ref a]/\SqL X.K H a (bs.map V.bl)/\Q (.bl (if any then bs.any id else bs.all id)) H) (sZ any):=by
 intro M m hb fr σ H ds vs res hb' Q at_ rv e c
 unfold sZ at e
 split at e
 .cases e
 .rename_i d hn
  split at e
  .rename_i xs e1
   split at e
   .rename_i bs e2
    cases e
    obtain⟨v,rfl,r1⟩:=rv.one
    obtain⟨p,ws,rfl,f,r⟩:=eP at_ r1 e1 λys q=>hn ys (by rw[q])
    have:=qJ e2 r
    subst this
    exact⟨p,bs,rfl,f,c.done at_ rBl⟩
   .cases e
  .cases e
 .cases e
theorem pS:ig X W (rSum X.K) vU:=by
 intro M m hb fr σ H ds vs res hb' Q at_ rv e c
 unfold vU at e
 split at e
 .cases e
 .rename_i d hn
  split at e
  .rename_i xs e1
   split at e
   .rename_i bs e2
    cases e
    obtain⟨v,rfl,r1⟩:=rv.one
    obtain⟨p,ws,rfl,f,r⟩:=eP at_ r1 e1 λys q=>hn ys (by rw[q])
    have:=(iK e2 r).1
    subst this
    exact⟨p,bs,rfl,f,c.done at_ fC⟩
   .cases e
  .cases e
 .cases e
def ny(xs:List (List Char)):List (List Char):=xs.mergeSort λa b=> !ltC b a
def hO(xs:List Int):List Int:=xs.mergeSort λa b=>decide (a<=b)
theorem iU{a b c:List Char}(h1:ltC b a=false)(h2:ltC c b=false):ltC c a=false:=by
 unfold ltC at *
 rw[decide_eq_false_iff_not] at *
 exact List.le_trans h1 h2
theorem nz(a b:List Char):ltC b a=false\/ltC a b=false:=by
 unfold ltC
 rw[decide_eq_false_iff_not,decide_eq_false_iff_not]
 exact List.le_total _ _
theorem p7{a b:List Char}(h1:ltC b a=false)(h2:ltC a b=false):a=b:=by
 unfold ltC at *
 rw[decide_eq_false_iff_not] at *
 exact ci (List.le_antisymm h1 h2)
theorem bK{α:Type}(r:α->α->Prop)(anti:∀a b,r a b->r b a->a=b):∀{l m:List α},l.Perm m->l.Pairwise r->m.Pairwise r->l=m
 | [],m,p,_,_=>(List.Perm.nil_eq p).symm ▸ rfl
 | a::l,[],p,_,_=>absurd p.length_eq (by simp)
 | a ::l,b::m,p,h1,h2=>by
  have e:a=b:=by
   have ha:a∈b::m:=p.subset List.mem_cons_self
   have hb:b∈a::l:=p.symm.subset List.mem_cons_self
   rcases List.mem_cons.mp ha with q|ha
   .exact q
   .rcases List.mem_cons.mp hb with q|hb
    .exact q.symm
    .exact anti a b ((List.pairwise_cons.mp h1).1 b hb) ((List.pairwise_cons.mp h2).1 a ha)
  subst e
  rw[bK r anti (List.Perm.cons_inv p) (List.pairwise_cons.mp h1).2 (List.pairwise_cons.mp h2).2]
theorem kl:∀a b:List Nat,ltCps a b=decide (a<b)
 | [],[]=>by simp[ltCps]
 | [],b::t=>by simp[ltCps]
 | a::r,[]=>by simp[ltCps]
 | a ::r,b::t=>by
  unfold ltCps
  rw[kl r t]
  by_cases h1:a<b
  .simp[h1,List.cons_lt_cons_iff]
  .by_cases h2:a=b
   .subst h2
    simp[List.cons_lt_cons_iff]
   .have:¬(a::r<b::t):=λq=>by
     rcases List.cons_lt_cons_iff.mp q with q|q
     .exact h1 q
     .exact h2 q.1
    simp[h1,h2,this]
theorem gO:∀(p:List Char) (ss:List (List Char)),risingS (au p) (ss.map au)=true->(p::ss).Pairwise λa b=>ltC b a=false
 | p,[],_=>by simp
 | p,x::r,h=>by
  have h':(!ltCps (au x).cps.toList (au p).cps.toList && risingS (au x) (r.map au))=true:=h
  rw[Bool.and_eq_true,Bool.not_eq_true',kl] at h'
  have ih:=gO x r h'.2
  have h1:ltC x p=false:=by
   cases q:ltC x p with
   | false=>rfl
   | true=>exact absurd ((eO x p).mpr q) (of_decide_eq_false h'.1)
  refine List.pairwise_cons.mpr ⟨λy hy=> ?_,ih⟩
  rcases List.mem_cons.mp hy with rfl|hy
  .exact h1
  .exact iU h1 ((List.pairwise_cons.mp ih).1 y hy)
theorem pq(xs:List (List Char)):(ny xs).Pairwise λa b=>ltC b a=false:=by
 have:=List.pairwise_mergeSort (le:=λa b=> !ltC b a) (λa b c h1 h2=>by
  rw[Bool.not_eq_true'] at *
  exact iU h1 h2) (λa b=>by
  rcases nz a b with h|h
  .simp[h]
  .simp[h]) xs
 exact this.imp λh=>by simpa using h
theorem sortI_pw(xs:List Int):(hO xs).Pairwise λa b=>a<=b:=by
 have:=List.pairwise_mergeSort (le:=λa b:Int=>decide (a<=b)) (λa b c h1 h2=>by
  have:=of_decide_eq_true h1
  have:=of_decide_eq_true h2
  exact decide_eq_true (by omega)) (λa b=>by
  rcases Int.le_total a b with h|h
  .simp[h]
  .simp[h]) xs
 exact this.imp λh=>by simpa using h
theorem jP{xs:List (List Char)}:∀{ys:List Str},ys.Perm (xs.map au)->∃zs:List (List Char),ys=zs.map au/\zs.Perm xs:=by
 intro ys p
 have hm:∀y∈ys,∃z,y=au z:=λy hy=>by
  obtain⟨z,_,e⟩:=List.mem_map.mp (p.subset hy)
  exact⟨z,e.symm⟩
 have:∃zs:List (List Char),ys=zs.map au:=by
  clear p
  induction ys with
  | nil=>exact⟨[],rfl⟩
  | cons y ys ih =>
   obtain⟨zs,e⟩:=ih λy hy=>hm y (List.mem_cons_of_mem _ hy)
   obtain⟨z,e2⟩:=hm y List.mem_cons_self
   exact⟨z::zs,by rw[e,e2]; rfl⟩
 obtain⟨zs,rfl⟩:=this
 refine⟨zs,rfl,?_⟩
 have inj:∀{a b:List (List Char)},(a.map au).Perm (b.map au)->a.Perm b:=by
  intro a b q
  have q2:=q.map λs:Str=>s.cps.toList.map λn=>Char.ofNat n
  have e:∀l:List (List Char),(l.map au).map (λs:Str=>s.cps.toList.map λn=>Char.ofNat n)=l:=λl=>by
   rw[List.map_map]
   conv=>rhs; rw[<-List.map_id l]
   apply List.map_congr_left
   intro x _
   show(au x).cps.toList.map _=x
   unfold au
   rw[List.toList_toArray,List.map_map]
   conv=>rhs; rw[<-List.map_id x]
   apply List.map_congr_left
   intro c _
   exact Char.ofNat_toNat c
  rw[e,e] at q2
  exact q2
 exact inj p
/-- pairs of ints -/
def pDs:List D->Option (List (Int×Int))
 | []=>some []
 | .tup [.int i,.int j]::r=>match pDs r with
  | some ps=>some ((i,j)::ps)
  | none=>none
 | _=>none
def dP(p:Int×Int):D:=.tup [.int p.1,.int p.2]
def fq(xs:List (Int×Int)):List (Int×Int):=xs.mergeSort λa b=> !SrtO.lexB b a
theorem ir{a b:Int×Int}(h1:SrtO.lexB b a=false)(h2:SrtO.lexB a b=false):a=b:=by
 have e1:=SrtO.lexB_no.mp h1
 have e2:=SrtO.lexB_no.mp h2
 refine Prod.ext ?_ ?_<;>omega
theorem fY(xs:List (Int×Int)):(fq xs).Pairwise λa b=>SrtO.lexB b a=false:=by
 have:=List.pairwise_mergeSort (le:=λa b=> !SrtO.lexB b a) (λa b c h1 h2=>by
  rw[Bool.not_eq_true'] at *
  have e1:=SrtO.lexB_no.mp h1
  have e2:=SrtO.lexB_no.mp h2
  refine SrtO.lexB_no.mpr ?_
  omega) (λa b=>by
  have e1:=(SrtO.lexB_no (p:=a) (q:=b))
  have e2:=(SrtO.lexB_no (p:=b) (q:=a))
  cases h1:SrtO.lexB a b with
  | false=>simp
  | true =>
   have:=SrtO.lexB_iff.mp h1
   have:SrtO.lexB b a=false:=SrtO.lexB_no.mpr (by omega)
   simp[this]) xs
 exact this.imp λh=>by simpa using h
/-- the pair at a value -/
def kP(H:Hp):V->Int×Int
 | .ref t=>match H t with
  | some (.tup [.int i,.int j])=>(i,j)
  | _=>(0,0)
 | _=>(0,0)
theorem qr{K:PySem.W.Frag}{B:Addr->Prop}{m:List Addr}{H:Hp}:∀{ds:List D} {ps:List (Int×Int)} {vs:List V},pDs ds=some ps->RelDs K B m H ds vs->ds=ps.map dP/\vs.map (kP H)=ps/\(∀x∈vs,RelD K B m H (dP (kP H x)) x/\∃t,x=V.ref t/\H t=some (.tup [.int (kP H x).1,.int (kP H x).2]))
 | [],ps,vs,e,r=>by
  cases e
  obtain rfl:=RelDs.nil_iff.mp r
  exact⟨rfl,rfl,λ_ h=>by simp at h⟩
 | d ::ds,ps,vs,e,r=>by
  obtain⟨v,w,rfl,r1,r2⟩:=RelDs.cons_inv r
  unfold pDs at e
  split at e
  .cases e; rename_i h; cases h
  .rename_i i j r' h
   cases h
   split at e
   .rename_i qs e1
    cases e
    obtain⟨g1,g2,g3⟩:=qr e1 r2
    have r1':=r1
    unfold RelD at r1
    obtain⟨t,ws,rfl,⟨f,nb⟩,rr⟩:=r1
    obtain⟨a,ws1,rfl,ra,rr⟩:=RelDs.cons_inv rr
    obtain⟨b,ws2,rfl,rb,rr⟩:=RelDs.cons_inv rr
    obtain rfl:=RelDs.nil_iff.mp rr
    obtain rfl:=ra.int_inv
    obtain rfl:=rb.int_inv
    have ek:kP H (.ref t)=(i,j):=by simp[kP,f]
    refine⟨by rw[g1]; rfl,by rw[List.map_cons,ek,g2],λx hx=> ?_⟩
    rcases List.mem_cons.mp hx with rfl|hx
    .rw[ek]
     exact⟨r1',t,rfl,f⟩
    .exact g3 x hx
   .cases e
  .cases e
theorem RelDs.ofMap{K:PySem.W.Frag}{B:Addr->Prop}{m:List Addr}{H:Hp}{f:V->D}:∀{vs:List V},(∀x∈vs,RelD K B m H (f x) x)->RelDs K B m H (vs.map f) vs
 | [],_=>RelDs.nil'
 | v::vs,h=>RelDs.cons (h v List.mem_cons_self) (RelDs.ofMap λx hx=>h x (List.mem_cons_of_mem _ hx))
def uP(xs:List D):Option (List D):=match iDs xs with
 | some is=>some ((hO is).map .int)
 | none=>match tDs xs with
  | some ts=>if ts.length<64 then some ((ny ts).map .str) else none
  | none=>match pDs xs with
   | some ps=>some ((fq ps).map dP)
   | none=>none
def ki(K:PySem.W.Frag):List V->Hp->VK->Prop:=λxs H Q=>rSortedI K xs H Q\/rSortedS K xs H Q\/rSortedPO K xs H Q
theorem kO:CallR X (.builtin "sorted") (ki X.K):=CallR.or cr_sortedI (CallR.or cr_sortedS cr_sortedPO)
end
end
section
open PySem.W (Holds HoldAll min_tuple_datum max_tuple_datum minOf maxOf holds_int)
section
variable {X:Cx} {W:WX}
def og(i:Int)(is:List Int):Int:=is.foldl (λa y=>if y<a then y else a) i
def oi(i:Int)(is:List Int):Int:=is.foldl (λa y=>if a<y then y else a) i
theorem mw:∀(is:List Int) (i:Int),og i is∈i::is/\∀y∈i::is,og i is<=y
 | [],i=>by simp[og]
 | j ::is,i=>by
  have e:og i (j::is)=og (if j<i then j else i) is:=rfl
  obtain⟨h1,h2⟩:=mw is (if j<i then j else i)
  rw[e]
  have h3:=h2 _ List.mem_cons_self
  refine⟨?_,λy hy=> ?_⟩
  .rcases List.mem_cons.mp h1 with q|q
   .rw[q]; split<;>simp
   .exact List.mem_cons_of_mem _ (List.mem_cons_of_mem _ q)
  .rcases List.mem_cons.mp hy with rfl|hy
   .split at h3<;>split<;>omega
   .rcases List.mem_cons.mp hy with rfl|hy
    .split at h3<;>split<;>omega
    .exact h2 y (List.mem_cons_of_mem _ hy)
theorem nJ:∀(is:List Int) (i:Int),oi i is∈i::is/\∀y∈i::is,y<=oi i is
 | [],i=>by simp[oi]
 | j ::is,i=>by
  have e:oi i (j::is)=oi (if i<j then j else i) is:=rfl
  obtain⟨h1,h2⟩:=nJ is (if i<j then j else i)
  rw[e]
  have h3:=h2 _ List.mem_cons_self
  refine⟨?_,λy hy=> ?_⟩
  .rcases List.mem_cons.mp h1 with q|q
   .rw[q]; split<;>simp
   .exact List.mem_cons_of_mem _ (List.mem_cons_of_mem _ q)
  .rcases List.mem_cons.mp hy with rfl|hy
   .split at h3<;>split<;>omega
   .rcases List.mem_cons.mp hy with rfl|hy
    .split at h3<;>split<;>omega
    .exact h2 y (List.mem_cons_of_mem _ hy)
def sr(K:PySem.W.Frag)(mx:Bool):List V->Hp->VK->Prop:=λvs H Q=>∃(a:Addr) (i:Int) (is:List Int),vs=[V.ref a]/\SqT K H a ((i::is).map V.int)/\Q (.int (if mx then oi i is else og i is)) H
theorem gz:∀{ns:List Int} {us:List Value} {h:Heap},Vals (ns.map V.int) us->HoldAll h us ns
 | [],us,h,r=>by cases r; exact PySem.W.HoldAll.nil
 | n ::ns,us,h,r=>by
  cases r with
  | cons r1 r2 =>
   obtain⟨t,rfl⟩:=r1
   exact PySem.W.HoldAll.cons (holds_int n t) (gz r2)
theorem dI{h:Heap}{n m:Int}{t:Tok}(H:Holds h (.int n t) m):n=m:=by
 obtain⟨as,r⟩:=H
 cases r
 rfl
theorem sP(hc:X.calm=true)(hu:X.A.units+2<cLine):CallR X (.builtin "min") (sr X.K false):=by
 intro pins s σ H vs us Q I r h
 obtain⟨a,i,is,rfl,hs,q⟩:=h
 obtain⟨its,rv,ht,_⟩:=I.tuple hs
 rw[Vals.ref1 r]
 have hi:HoldAll s.heap its.toArray.toList (i::is):=by simpa using gz rv
 refine min_tuple_datum (I.ok.hd hc) (show s.heap.IsTuple a its.toArray from ht) hi (by show X.A.units+1+0<cLine; omega) λj v h' tk hv ho hk=> ?_
 obtain⟨n,t,rfl⟩:∃n t,v=.int n t:=by
  have hv':its[j]? =some v:=by simpa using hv
  have hj:=(List.getElem?_eq_some_iff.mp hv').1
  rw[<-rv.length] at hj
  obtain⟨u,hu,ru⟩:=rv.get (i:=j) (x:=((i::is).map V.int)[j]) (by simp)
  rw[hv'] at hu
  cases hu
  rw[List.getElem_map] at ru
  obtain⟨t,e⟩:=ru
  exact⟨_,t,e⟩
 have e:=dI ho
 refine⟨.int n,H,I.kept hk,⟨_,rfl⟩,?_⟩
 have e3:og i is=n:=by
  rw[e]
  unfold og minOf
  have:(fun(a y:Int)=>if y<a then y else a)=λa y=>if PySem.W.DatumOrd.lt y a=true then y else a:=by
   funext a y
   show _=if decide (y<a)=true then y else a
   simp
  rw[this]
 rw[<-e3]
 exact q
theorem sC(hc:X.calm=true)(hu:X.A.units+2<cLine):CallR X (.builtin "max") (sr X.K true):=by
 intro pins s σ H vs us Q I r h
 obtain⟨a,i,is,rfl,hs,q⟩:=h
 obtain⟨its,rv,ht,_⟩:=I.tuple hs
 rw[Vals.ref1 r]
 have hi:HoldAll s.heap its.toArray.toList (i::is):=by simpa using gz rv
 refine max_tuple_datum (I.ok.hd hc) (show s.heap.IsTuple a its.toArray from ht) hi (by show X.A.units+1+0<cLine; omega) λj v h' tk hv ho hk=> ?_
 obtain⟨n,t,rfl⟩:∃n t,v=.int n t:=by
  have hv':its[j]? =some v:=by simpa using hv
  have hj:=(List.getElem?_eq_some_iff.mp hv').1
  rw[<-rv.length] at hj
  obtain⟨u,hu,ru⟩:=rv.get (i:=j) (x:=((i::is).map V.int)[j]) (by simp)
  rw[hv'] at hu
  cases hu
  rw[List.getElem_map] at ru
  obtain⟨t,e⟩:=ru
  exact⟨_,t,e⟩
 have e:=dI ho
 refine⟨.int n,H,I.kept hk,⟨_,rfl⟩,?_⟩
 have e3:oi i is=n:=by
  rw[e]
  unfold oi maxOf
  have:(fun(a y:Int)=>if a<y then y else a)=λa y=>if PySem.W.DatumOrd.lt a y=true then y else a:=by
   funext a y
   show _=if decide (a<y)=true then y else a
   simp
  rw[this]
 rw[<-e3]
 exact q
def iZ(mx:Bool):List D->Ev:=λds fr hb=>match ds with
 | [d]=>match dS fr hb d with
  | some xs=>(match iDs xs with
   | some (i::is)=>some (.ok (.int (if mx then oi i is else og i is)),hb)
   | _=>none)
  | none=>none
 | _=>none
def wE(K:PySem.W.Frag)(mx:Bool):List V->Hp->VK->Prop:=λvs H Q=>(if mx then rMax K vs H Q else rMin K vs H Q)\/sr K mx vs H Q
theorem nV(mx:Bool):ig X W (wE X.K mx) (iZ mx):=by
 intro M m hb fr σ H ds vs res hb' Q at_ rv e c
 unfold iZ at e
 split at e
 .rename_i d
  split at e
  .rename_i xs e1
   split at e
   .rename_i i is e2
    cases e
    obtain⟨v,rfl,r1⟩:=rv.one
    obtain⟨p,ws,rfl,f,r⟩:=lO at_ r1 e1
    obtain rfl:=(iK e2 r).1
    rcases f with f|f
    .refine .inl ?_
     cases mx with
     | true =>
      refine⟨p,i::is,rfl,f,by simp,λmm h1 h2=> ?_⟩
      obtain⟨g1,g2⟩:=nJ is i
      have:mm=oi i is:=Int.le_antisymm (g2 _ h1) (h2 _ g1)
      subst this
      exact c.done at_ fC
     | false =>
      refine⟨p,i::is,rfl,f,by simp,λmm h1 h2=> ?_⟩
      obtain⟨g1,g2⟩:=mw is i
      have:mm=og i is:=Int.le_antisymm (h2 _ g1) (g2 _ h1)
      subst this
      exact c.done at_ fC
    .exact .inr ⟨p,i,is,rfl,f,c.done at_ fC⟩
   .cases e
  .cases e
 .cases e
theorem qy(mx:Bool)(hc:X.calm=true)(hu:X.A.units+2<cLine):CallR X (.builtin (if mx then "max" else "min")) (wE X.K mx):=by
 cases mx with
 | true=>exact CallR.or (cr_max hc) (sC hc hu)
 | false=>exact CallR.or (cr_min hc) (sP hc hu)
end
end
section
section
variable {X:Cx} {W:WX} {pos:Pos}
theorem cm{x:Str}{n:String}(hg:Gl X x)(hm:X.mg x=none)(hv:bootBuiltins x=some (.type n))(hn:x≠"__name__":=by decide)(hd:(x == ("__debug__":Str))=false:=by decide):SE X W (.Name x pos) (eC (.ty n)) :=
 uD (v:=.ty n) (pe_bltn hg hm hv rfl hn hd) (λ_ _ _=>by unfold RelD; rfl) λ_ q=>by cases q
theorem lV{x:Str}{c:String}(hg:Gl X x)(hm:X.mg x=some (.ref (He.ga X.K c)))(hd:(x == ("__debug__":Str))=false:=by decide):SE X W (.Name x pos) (eC (.rf c)) :=
 uD (v:=.ref (He.ga X.K c)) (pe_glob hg hm rfl hd) (λ_ _ _=>by unfold RelD; rfl) λ_ q=>by cases q
def O.ty_:O->TyN
 | .lst _=>.b "list"
 | .dct _ _=>.b "dict"
 | .ins c _ _=>.o c
 | .tab _=>.b "?"
def tyN(fr:Fr)(hb:HB):D->Option TyN
 | .non=>some (.b "NoneType")
 | .bl _=>some (.b "bool")
 | .int _=>some (.b "int")
 | .str _=>some (.b "str")
 | .tup _=>some (.b "tuple")
 | .lst _=>some (.b "list")
 | .dct _ _=>some (.b "dict")
 | .ins c _ _=>some (.o c)
 | d=>match rdO fr hb d with
  | some o=>some o.ty_
  | none=>none
/-- facts of the own classes -/
structure InsF (K:PySem.W.Frag) (C:Addr):Prop where
 cl:Cls K C
 ha:PySem.W.findIn K (.ref C) "__class__"=some (some (.builtin "object.__class__"))
 hn:PySem.W.specialIn K (.builtin "object.__class__") "__get__"=some (some (.builtin "getset_descriptor.__get__"))
 htk:PySem.W.takesIn K (.builtin "object.__class__")=some true
 hm:PySem.W.mroIn K C (.type "object")=some true
theorem si{K:PySem.W.Frag}{c:String}(h:wm K c=true):InsF K (He.ga K c):=by
 obtain⟨h1,h⟩:=He.ba h
 obtain⟨h2,h⟩:=He.ba h
 obtain⟨h3,h⟩:=He.ba h
 obtain⟨h4,h5⟩:=He.ba h
 exact⟨He.cls_ok h1,He.eqO_ok h2,He.eqO_ok h3,of_decide_eq_true h4,of_decide_eq_true h5⟩
/-- what isinstance says -/
def qo:TyN->TyN->Bool
 | .b t,.b c=>t == c || (t == "bool" && c == "int")
 | .o t,.o c=>t == c
 | _,_=>false
def okT(cs:List String):TyN->Bool
 | .b t=>bTys.contains t
 | .o c=>cs.contains c
def okC(cs:List String):TyN->Bool
 | .b t=>cTys.contains t
 | .o c=>cs.contains c
theorem ua{K:PySem.W.Frag}{t c:String}(ht:t∈bTys)(hc:c∈cTys):PySem.W.kitOne K (.type t) (.type c)=some (qo (.b t) (.b c)):=by
 have all:(bTys.all λt=>cTys.all λc=>decide (kitB t c=some (qo (.b t) (.b c))))=true:=by decide +kernel
 exact kit_ty (of_decide_eq_true (List.all_eq_true.mp (List.all_eq_true.mp all t ht) c hc))
theorem nk{K:PySem.W.Frag}{cs:List String}(h:mQ K cs=true){t c:TyN}(ht:okT cs t=true)(hc:okC cs c=true):PySem.W.kitOne K (t.v K) (c.v K)=some (qo t c):=by
 have h':=List.all_eq_true.mp h
 cases t with
 | b t =>
  have ht':t∈bTys:=by simpa [okT] using ht
  cases c with
  | b c=>exact ua ht' (by simpa [okC] using hc)
  | o c =>
   have z:=h' c (by simpa [okC] using hc)
   rw[Bool.and_eq_true,Bool.and_eq_true,Bool.and_eq_true] at z
   exact of_decide_eq_true (List.all_eq_true.mp z.1.1.2 t ht')
 | o t =>
  have z:=h' t (by simpa [okT] using ht)
  rw[Bool.and_eq_true,Bool.and_eq_true,Bool.and_eq_true] at z
  cases c with
  | b c=>exact of_decide_eq_true (List.all_eq_true.mp z.1.2 c (by simpa [okC] using hc))
  | o c=>exact of_decide_eq_true (List.all_eq_true.mp z.2 c (by simpa [okC] using hc))
theorem j3{K:PySem.W.Frag}{cs:List String}(h:mQ K cs=true){c:String}(hc:c∈cs):InsF K (He.ga K c):=by
 have z:=List.all_eq_true.mp h c hc
 rw[Bool.and_eq_true,Bool.and_eq_true,Bool.and_eq_true] at z
 exact si z.1.1.1
theorem RelO.tyx{K:PySem.W.Frag}{B:Addr->Prop}{m:List Addr}{H:Hp}{cs:List String}{o:O}{p:Addr}(hk:mQ K cs=true)(r:RelO K B m H o p)(h:okT cs o.ty_=true):TyX K H (.ref p) (o.ty_.v K):=by
 cases o with
 | lst xs=>obtain⟨vs,h1,_⟩:=r; exact .base (.lst h1)
 | dct ks xs =>
  obtain⟨vs,h1,_⟩:=r
  rcases h1 with ⟨kvs,f,_⟩|⟨kvs,f,_⟩
  .exact .base (.dK f)
  .exact .base (.dT f)
 | ins c fs xs =>
  obtain⟨dx,vs,h1,_⟩:=r
  have F:=j3 hk (c:=c) (by simpa [okT,O.ty_] using h)
  exact .base (.ins h1 F.cl F.ha F.hn F.htk F.hm)
 | tab q=>exact absurd (show okT cs (.b "?")=true from h) (by simp[okT,bTys])
theorem m6{M:Addr->Prop}{m:List Addr}{H:Hp}{hb:HB}{fr:Fr}{σ:St}{cs:List String}{K:PySem.W.Frag}{d:D}{v:V}{t:TyN}(hk:mQ K cs=true)(a:At K M m H hb fr σ)(r:RelT K M m H fr σ d v)(e:tyN fr hb d=some t)(h:okT cs t=true):TyX K H v (t.v K):=by
 unfold tyN at e
 split at e
 .cases e; rw[rj r]; exact .base .non
 .cases e; rw[fR r]; exact .base (.bl _)
 .cases e; rw[ao r]; exact .base (.int _)
 .cases e; rw[az r]; exact .base (.str _)
 .cases e
  obtain⟨p,vs,rfl,f,_⟩:=gi r
  exact .base (.tup f)
 .cases e
  obtain⟨p,vs,rfl,f,_⟩:=bc a r (show d8 fr hb (.lst _)=some _ from rfl)
  exact .base (.lst f)
 .rename_i ks xs
  cases e
  have r':RelD K (Bd M m) m H (.dct ks xs) v:=r
  unfold RelD at r'
  obtain⟨p,vs,rfl,_,f,_⟩:=r'
  rcases f with ⟨kvs,f,_⟩|⟨kvs,f,_⟩
  .exact .base (.dK f)
  .exact .base (.dT f)
 .rename_i c fs xs
  cases e
  have r':RelD K (Bd M m) m H (.ins c fs xs) v:=r
  unfold RelD at r'
  obtain⟨p,dx,vs,rfl,_,f,_⟩:=r'
  have F:=j3 hk (c:=c) (by simpa [okT] using h)
  exact .base (.ins f F.cl F.ha F.hn F.htk F.hm)
 .split at e
  .rename_i o e1
   cases e
   obtain⟨p,rfl,_,ro⟩:=kq a r e1
   exact RelO.tyx hk ro h
  .cases e
/-- isinstance(x,c),isinstance(x,(c1,c2)) -/
def clN:D->Option TyN
 | .ty n=>some (.b n)
 | .rf c=>some (.o c)
 | _=>none
def vd(cs:List String)(t:TyN):List D->Option Bool
 | []=>some false
 | d::r=>match clN d with
  | some c=>if okC cs c then (if qo t c then (if r.all (λx=>(clN x).isSome) then some true else none) else vd cs t r) else none
  | none=>none
def dY(cs:List String):List D->Ev:=λds fr hb=>match ds with
 | [d,.tup es]=>(match tyN fr hb d with
  | some t=>if okT cs t then (match vd cs t es with
   | some b=>some (.ok (.bl b),hb)
   | none=>none) else none
  | none=>none)
 | [d,c]=>(match tyN fr hb d,clN c with
  | some t,some c=>if okT cs t && okC cs c then some (.ok (.bl (qo t c)),hb) else none
  | _,_=>none)
 | _=>none
theorem nq{K:PySem.W.Frag}{M:Addr->Prop}{m:List Addr}{H:Hp}{fr:Fr}{σ:St}{d:D}{v:V}{c:TyN}(r:RelT K M m H fr σ d v)(h:clN d=some c):ClsV v (c.v K):=by
 cases d<;>simp[clN] at h<;>subst h
 .have r':RelD K (Bd M m) m H (.rf _) v:=r
  unfold RelD at r'
  subst r'
  exact .own _
 .have r':RelD K (Bd M m) m H (.ty _) v:=r
  unfold RelD at r'
  subst r'
  exact .ty _
theorem mj {cs:List String}{K:PySem.W.Frag}{M:Addr->Prop}{m:List Addr}{H:Hp}{t:TyN}(hk:mQ K cs=true)(ht:okT cs t=true):∀{es:List D} {vs:List V} {b:Bool},RelDs K (Bd M m) m H es vs->vd cs t es=some b->∃us,Paired ClsV vs us/\PySem.W.kitAny K (t.v K) us=some b
 | [],vs,b,r,e=>by
  obtain rfl:=RelDs.nil_iff.mp r
  cases e
  exact⟨[],.nil,rfl⟩
 | d ::es,vs,b,r,e=>by
  obtain⟨v,w,rfl,r1,r2⟩:=RelDs.cons_inv r
  unfold vd at e
  split at e
  .rename_i c e1
   split at e
   .rename_i hc
    have k1:=nk hk ht hc
    have c1:=nq (fr:=[]) (σ:=[]) r1.t e1
    by_cases hi:qo t c=true
    .rw[if_pos hi] at e
     split at e
     .rename_i ha
      cases e
      have:∀{es:List D} {vs:List V},es.all (λx=>(clN x).isSome)=true->RelDs K (Bd M m) m H es vs->∃us:List Value,Paired ClsV vs us:=by
       intro es
       induction es with
       | nil=>intro vs _ r; obtain rfl:=RelDs.nil_iff.mp r; exact⟨[],.nil⟩
       | cons x es ih =>
        intro vs h r
        rw[List.all_cons,Bool.and_eq_true] at h
        obtain⟨v,w,rfl,r1,r2⟩:=RelDs.cons_inv r
        obtain⟨us,pu⟩:=ih h.2 r2
        obtain⟨cc,hcc⟩:=Option.isSome_iff_exists.mp h.1
        exact⟨_::us,.cons (nq (fr:=[]) (σ:=[]) r1.t hcc) pu⟩
      obtain⟨us,pu⟩:=this ha r2
      refine⟨_::us,.cons c1 pu,?_⟩
      unfold PySem.W.kitAny
      rw[k1,hi]
     .cases e
    .rw[if_neg hi] at e
     obtain⟨us,pu,e2⟩:=mj hk ht r2 e
     refine⟨_::us,.cons c1 pu,?_⟩
     unfold PySem.W.kitAny
     rw[k1,Bool.eq_false_iff.mpr hi]
     exact e2
   .cases e
  .cases e
theorem bJ{cs:List String}(hk:mQ X.K cs=true):ig X W (λxs H Q=>rIsi X.K xs H Q\/rIsiT X.K xs H Q) (dY cs):=by
 intro M m hb fr σ H ds vs res hb' Q at_ rv e c
 unfold dY at e
 split at e
 .rename_i d es
  split at e
  .rename_i t e1
   split at e
   .rename_i ht
    split at e
    .rename_i b e2
     cases e
     obtain⟨v,w,rfl,r1,r2⟩:=rv.two
     obtain⟨p,ws,rfl,f,_,r⟩:=gi r2
     obtain⟨us,pu,e3⟩:=mj hk ht r e2
     exact .inr ⟨v,p,ws,_,us,b,rfl,f,pu,m6 hk at_ r1 e1 ht,e3,c.done at_ rBl⟩
    .cases e
   .cases e
  .cases e
 .split at e
  .rename_i t cc e1 e2
   split at e
   .rename_i hz
    rw[Bool.and_eq_true] at hz
    cases e
    obtain⟨v,w,rfl,r1,r2⟩:=rv.two
    exact .inl ⟨v,w,_,_,_,rfl,nq r2 e2,m6 hk at_ r1 e1 hz.1,nk hk hz.1 hz.2,c.done at_ rBl⟩
   .cases e
  .cases e
 .cases e
theorem cI:CallR X (.builtin "isinstance") (λxs H Q=>rIsi X.K xs H Q\/rIsiT X.K xs H Q):=CallR.or call_isi call_isiT
end
end
section
open PySem.Sem (wp)
set_option maxHeartbeats 1000000 in
theorem jI{v:Value}{o:Obj}{H:Heap->Prop}(B:Begins v o H) :
  Meets (Builtin.«enumerate.__new__» ⟨[.type "enumerate",v],[]⟩) (λ_ R s=>H s.heap /\
   R (.ok (.ret (.ref (s.heap.push o).objs.size))) { s with heap:=(s.heap.push o).push { cls:=.type "enumerate",data:=.fields #[.none,.bool false,.ref s.heap.objs.size,rawInt 0,.none,.none] } }) :=
 .of_wp λprog w A R s h=>by
  obtain⟨hp,g,d,tk,os⟩:=s; obtain⟨h1,h⟩:=h
  have hsub:=sub_enumerate
  have q1:∀{A':Around} {E:Value->Shared->Prop} {Q:Value->Shared->Prop},Q (.ref hp.objs.size) ⟨hp.push o,g,d,tk,os⟩->wpAny (model prog w) A' (pyIter v) Q E ⟨hp,g,d,tk,os⟩ :=
   λq=>B.iter prog w _ _ ⟨hp,g,d,tk,os⟩ _ h1 q
  wp_walk using q1
  refine wpAny_stack_any λst=>wpAny_pure ?_
  split
  .rename_i c _ _ _ _ _
   cases (c == Value.type "enumerate")
   .wp_walk using q1
    exact⟨_,rfl,h⟩
   .wp_walk using q1
    exact⟨_,rfl,h⟩
  .wp_walk using q1
   exact⟨_,rfl,h⟩
section
variable {prog:Program} {w:World} {A:Around} {E:Value->Shared->Prop} {s:Shared}
theorem ib{v:Value}{o:Obj}{H:Heap->Prop}{Q:Value->Shared->Prop}(B:Begins v o H)(h1:H s.heap)
  (h:∀h',IsEnum h' (s.heap.objs.size+1) s.heap.objs.size 0 .none->h'.get? s.heap.objs.size=some o->h'.objs.size=s.heap.objs.size+2 ->
   (∀b o,s.heap.get? b=some o->h'.get? b=some o)->Q (.ref (s.heap.objs.size+1)) { s with heap:=h' }) :
  wpAny (model prog w) A (call (.type "enumerate") [v]) Q E s:=by
 refine callType_new F.called_enumerate (by decide) (F.typeCall_enumerate_1 _) (F.newCall_enumerate_1 _) (λobj=>F.args_object_init_2 obj _) F.entry_enumerate_new
  (jI B) ⟨h1,?_⟩
 have hz:(s.heap.push o).objs.size=s.heap.objs.size+1:=Heap.size_push ..
 show _/\_
 rw[hz]
 have he:IsEnum ((s.heap.push o).push { cls:=.type "enumerate",data:=.fields #[.none,.bool false,.ref s.heap.objs.size,rawInt 0,.none,.none] }) (s.heap.objs.size+1) s.heap.objs.size 0 .none:=by
  have:=Heap.get?_push_size (s.heap.push o) (o:={ cls:=.type "enumerate",data:=.fields #[.none,.bool false,.ref s.heap.objs.size,rawInt 0,.none,.none] }) rfl
  rw[hz] at this; exact this
 refine⟨⟨_,he,rfl⟩,h _ he (Heap.get?_push_of_some _ (Heap.get?_push_size _ B.free)) (by rw[Heap.size_push,hz]) λb o x=>Heap.get?_push_of_some _ (Heap.get?_push_of_some _ x)⟩
end
inductive Sr where
 | tx (z:Str)|tp (a:Addr)|ls (a:Addr)
def b7(z:Str):List V:=z.cps.toList.map λc=>V.str ⟨#[c]⟩
def Sr.at(K:PySem.W.Frag)(S:Sr)(H:Hp)(xs:List V):Prop:=match S with
 | .tx z=>xs=b7 z
 | .tp a=>SqT K H a xs
 | .ls a=>SqL K H a xs
def Sr.v:Sr->V
 | .tx z=>.str z
 | .tp a=>.ref a
 | .ls a=>.ref a
def Sr.st(S:Sr)(it:Addr)(i:Nat)(h:Heap):Prop:=match S with
 | .tx z=>∃t,h.IsStrIter it (strIterType z) z t i
 | .tp a=>h.IsTupleIter it a i
 | .ls a=>h.IsListIter it a i
theorem Sr.st_keep{S:Sr}{it:Addr}{i:Nat}{h h':Heap}(st:S.st it i h)(k:∀o,h.get? it=some o->h'.get? it=some o):S.st it i h':=by
 cases S with
 | tx z=>obtain⟨t,o,ho,r⟩:=st; exact⟨t,o,k o ho,r⟩
 | tp a=>exact st.at k
 | ls a=>exact st.at k
theorem Sr.st_obj{S:Sr}{it:Addr}{i:Nat}{h:Heap}(st:S.st it i h):∃o c,h.get? it=some o/\o.cls=.type c/\c≠"list"/\c≠"tuple"/\(∀v,o.data≠.cell v)/\∃vs,o.data=.fields vs:=by
 cases S with
 | tx z =>
  obtain⟨t,o,ho,hc,hd⟩:=st
  refine⟨o,_,ho,hc,?_,?_,(λv q=>by rw[hd] at q; cases q),_,hd⟩
  .unfold strIterType; split<;>decide
  .unfold strIterType; split<;>decide
 | tp a=>obtain⟨o,ho,hc,hd⟩:=st; exact⟨o,_,ho,hc,by decide,by decide,(λv q=>by rw[hd] at q; cases q),_,hd⟩
 | ls a=>obtain⟨o,ho,hc,hd⟩:=st; exact⟨o,_,ho,hc,by decide,by decide,(λv q=>by rw[hd] at q; cases q),_,hd⟩
def Sr.off(S:Sr)(c:Addr):Prop:=match S with
 | .tx _=>True
 | .tp a=>a≠c
 | .ls a=>a≠c
/-- what it draws,at a state -/
theorem Sr.draw{X:Cx}{pins:List (Addr×Obj)}{σ:St}{H:Hp}{s:Shared}{S:Sr}{xs:List V}{it:Addr}{i:Nat}{A:Around}(hh:A.handled=none)(I:Inv X pins σ H s)(at_:S.at X.K H xs)(st:S.st it i s.heap) :
  ∃ fp P St,Draws X.prog X.w A it fp xs.length P St/\St i s.heap/\it∈fp/\(∀b∈fp,b=it\/(¬S.off b/\∃o c,s.heap.get? b=some o/\o.cls=.type c/\(c="list"\/c="tuple"))) /\
   (∀j v,P j v->∃x,xs[j]? =some x/\RelV x v)/\∀j h,St j h->S.st it j h:=by
 cases S with
 | tx z =>
  obtain rfl:xs=b7 z:=at_
  obtain⟨t,st⟩:=st
  have hl:(b7 z).length=z.cps.size:=by unfold b7; rw[List.length_map]; simp
  rw[hl]
  refine⟨[it],_,_,Draws.text hh it z t,st,by simp,λb hb=>.inl (by simpa using hb),λj v p=> ?_,λj h q=>⟨t,q⟩⟩
  obtain⟨c,u,e,rfl⟩:=p
  refine⟨.str ⟨#[c]⟩,?_,⟨u,rfl⟩⟩
  unfold b7
  rw[List.getElem?_map,Array.getElem?_toList,e]; rfl
 | tp a =>
  obtain⟨its,rv,ht,_⟩:=I.tuple at_
  have ht':s.heap.IsTuple a its.toArray:=ht
  have hne:a≠it:=λe=>by
   subst e
   obtain⟨o,ho,hc,_⟩:=ht'
   obtain⟨o2,ho2,hc2,_⟩:=st
   rw[ho] at ho2
   cases ho2
   rw[hc] at hc2
   injection hc2 with hc3
   exact absurd hc3 (by decide)
  have hl:xs.length=its.toArray.size:=by rw[rv.length]; simp
  rw[hl]
  refine⟨_,_,_,Draws.tuple hh it a hne its.toArray,⟨st,ht'⟩,by simp,λb hb=> ?_,λj v p=> ?_,λj h q=>q.1⟩
  .rcases List.mem_cons.mp hb with q|hb
   .exact .inl q
   .obtain⟨o,ho,hc,_⟩:=ht'
    have:b=a:=by simpa using hb
    subst this
    exact .inr ⟨λz=>z rfl,o,_,ho,hc,.inr rfl⟩
  .have p':its[j]? =some v:=by simpa using p
   have hj:=(List.getElem?_eq_some_iff.mp p').1
   rw[<-rv.length] at hj
   obtain⟨u,hu,ru⟩:=rv.get (i:=j) (x:=xs[j]) (by simp)
   rw[p'] at hu
   cases hu
   exact⟨_,by simp,ru⟩
 | ls a =>
  obtain⟨its,rv,pl,_⟩:=I.list at_
  have ht':=pl.isList
  have hne:a≠it:=λe=>by
   subst e
   obtain⟨o,ho,hc,_⟩:=ht'
   obtain⟨o2,ho2,hc2,_⟩:=st
   rw[ho] at ho2
   cases ho2
   rw[hc] at hc2
   injection hc2 with hc3
   exact absurd hc3 (by decide)
  have hl:xs.length=its.toArray.size:=by rw[rv.length]; simp
  rw[hl]
  refine⟨_,_,_,Draws.list hh it a hne its.toArray,⟨st,ht'⟩,by simp,λb hb=> ?_,λj v p=> ?_,λj h q=>q.1⟩
  .rcases List.mem_cons.mp hb with q|hb
   .exact .inl q
   .obtain⟨o,ho,hc,_⟩:=ht'
    have:b=a:=by simpa using hb
    subst this
    exact .inr ⟨λz=>z rfl,o,_,ho,hc,.inl rfl⟩
  .have p':its[j]? =some v:=by simpa using p
   have hj:=(List.getElem?_eq_some_iff.mp p').1
   rw[<-rv.length] at hj
   obtain⟨u,hu,ru⟩:=rv.get (i:=j) (x:=xs[j]) (by simp)
   rw[p'] at hu
   cases hu
   exact⟨_,by simp,ru⟩
theorem Sr.inj{X:Cx}{pins:List (Addr×Obj)}{σ:St}{H:Hp}{s:Shared}{S:Sr}{xs ys:List V}(I:Inv X pins σ H s)(h1:S.at X.K H xs)(h2:S.at X.K H ys):xs=ys:=by
 cases S with
 | tx z=>exact Eq.trans h1 (Eq.symm h2)
 | tp a=>exact I.tuple_inj h1 h2
 | ls a=>exact I.list_inj h1 h2
/-- enumerate's turns -/
def ItE(K:PySem.W.Frag)(S:Sr):It :=
 ⟨λi H=>∃(xs:List V) (x:V),S.at K H xs/\xs[i]? =some x,λi H v H'=>∃T x,v=.ref T/\H T=none/\H'=upd H T (.tup [.int (i:Nat),x])/\∀xs,S.at K H xs->xs[i]? =some x,λi H=>∃xs:List V,S.at K H xs/\xs.length=i⟩
theorem lB{P:Program}{w:World}{K:PySem.W.Frag}{elts:List Expr}{kk:Nat}{tpos:Pos}(S:Sr)(e it:Addr) :
  Turn P w K (.Tuple elts kk tpos) (ItE K S) [e,it] e (λi h=>(∃old,IsEnum h e it ((i:Nat):Int) old)/\S.st it i h/\e≠it) where
 mem:=by simp
 obj:=λi h st b hb=>by
  obtain⟨⟨old,he⟩,hs,_⟩:=st
  obtain⟨o,c,ho,hc,_,_,hd,_⟩:=Sr.st_obj hs
  have e':b=e\/b=it:=by simpa using hb
  rcases e' with z|z
  .rw[z]; exact⟨_,he,λv q=>nomatch q⟩
  .rw[z]; exact⟨o,ho,hd⟩
 keep:=λi h h' st k=>let ⟨⟨old,he⟩,hi,hne⟩:=st; ⟨⟨old,k e (by simp) _ he⟩,Sr.st_keep hi λo q=>k it (by simp) o q,hne⟩
 item:=by
  intro X hP hw hK hc i pins s σ H E I hf st hg
  subst hP hw hK
  obtain⟨⟨old,he⟩,hit,hne⟩:=st
  obtain⟨xs,x,hq,hx⟩:=hg
  obtain⟨fp,Pp,St,D,st0,mem,fpo,rel,toSt⟩:=Sr.draw (A:=X.A.in1) (I.ok.hd hc) I hq hit
  have hef:e∉fp:=λz=>by
   rcases fpo e z with q|⟨_,o,c,ho,hcc,q⟩
   .exact hne q
   .rw[he] at ho
    cases ho
    cases hcc
    rcases q with q|q<;>exact absurd q (by decide)
  have hel:e<s.heap.objs.size:=Heap.lt_size he
  have hil:it<s.heap.objs.size:=by obtain⟨o,_,q,_⟩:=Sr.st_obj hit; exact Heap.lt_size q
  refine wpAny_pyNext_enum_itemC (i:=i) D he st0 (List.getElem?_eq_some_iff.mp hx).1 hne hef λu h' tk hP ho st1 hT hsz hk=> ?_
  obtain⟨x',hx',ru⟩:=rel i u hP
  rw[hx] at hx'
  cases hx'
  have hit':=toSt _ _ st1
  refine⟨_,rfl,wpAny_letOwnedTupleGo_enum (s:={ s with heap:=h',toks:=tk+1 }) ho λh'' he' sb=> ?_⟩
  have hT2:h''.get? s.heap.objs.size=some { cls:=.type "tuple",data:=.seq #[.int i tk,u] }:=(sb.2 _ (Nat.ne_of_gt hel)).trans hT
  have new:ObjOk X.prog X.w (upd H s.heap.objs.size (.tup [.int (i:Nat),x])) h'' s.heap.objs.size (.tup [.int (i:Nat),x]) :=
   ⟨by show 2<=sizeLine; decide,[.int i tk,u],.cons ⟨_,rfl⟩ (.cons ru .nil),⟨_,hT2,rfl,_,rfl⟩⟩
  have I1:Inv X pins σ (upd H s.heap.objs.size (.tup [.int (i:Nat),x])) { s with heap:=h'',toks:=tk+1 } :=
   I.turnedNew (ch:=[e,it]) (λb ob hb q=>(sb.2 b (λz=>hb (by simp[z]))).trans (hk b ob (λz=>hb (by simp[z])) (λz=>hb (by simp[z])) q)) hf (Nat.le_refl _) new
  refine⟨.ref s.heap.objs.size,_,I1,rfl,⟨_,x,rfl,I.hok.fresh (Nat.le_refl _),rfl,λys hy=>by rw[Sr.inj I hy hq]; exact hx⟩,⟨⟨u,?_⟩,Sr.st_keep hit' λo q=>(sb.2 it (Ne.symm hne)).trans q,hne⟩,λb hb=> ?_⟩
  .have e1:((i+1:Nat):Int)=(i:Int)+1:=by omega
   rw[e1]; exact he'
  .have hb':b<s.heap.objs.size:=by
    have e':b=e\/b=it:=by simpa using hb
    rcases e' with z|z
    .rw[z]; exact hel
    .rw[z]; exact hil
   rw[upd_ne (Nat.ne_of_lt hb')]
   exact(hf b hb).1
 done:=by
  intro X hP hw hK hc i pins s σ H E I hf st hg
  subst hP hw hK
  obtain⟨⟨old,he⟩,hit,hne⟩:=st
  obtain⟨xs,hq,hx⟩:=hg
  obtain⟨fp,Pp,St,D,st0,mem,fpo,rel,toSt⟩:=Sr.draw (A:=X.A.in1) (I.ok.hd hc) I hq hit
  subst hx
  exact wpAny_pyNext_enum_endD D he st0 λh' eb=>⟨rfl,I.turnedL (t':=s.toks) (ch:=[e,it]) (λb o hb q=>eb b o (λz=>hb (by simp[z])) q) hf⟩
 self:=λA i s Q E st h=>let ⟨⟨_,he⟩,_⟩:=st; wpAny_pyIter_enum he h
end
section
theorem Sr.begins{X:Cx}{pins:List (Addr×Obj)}{σ:St}{H:Hp}{s:Shared}{S:Sr}{xs:List V}{v:Value}(I:Inv X pins σ H s)(at_:S.at X.K H xs)(rv:RelV S.v v) :
  ∃o Hh,Begins v o Hh/\Hh s.heap/\(∀it h',h'.get? it=some o->S.st it 0 h')/\∀c,s.heap.objs.size<=c->S.off c:=by
 cases S with
 | tx z =>
  obtain⟨t,rfl⟩:=rv
  exact⟨_,_,begins_text z t,trivial,λit h' e=>⟨t,_,e,rfl,rfl⟩,λ_ _=>trivial⟩
 | tp a =>
  obtain rfl:v=Value.ref a:=rv
  obtain⟨its,r,ht,_⟩:=I.tuple at_
  have ht':s.heap.IsTuple a its.toArray:=ht
  refine⟨_,_,begins_tuple a its.toArray,ht',λit h' e=>⟨_,e,rfl,rfl⟩,λc hc z=> ?_⟩
  obtain⟨o,ho,_⟩:=ht'
  have:=Heap.lt_size ho
  rw[z] at this
  exact absurd this (Nat.not_lt.mpr hc)
 | ls a =>
  obtain rfl:v=Value.ref a:=rv
  obtain⟨its,r,pl,_⟩:=I.list at_
  have ht':=pl.isList
  refine⟨_,_,begins_list a its.toArray,ht',λit h' e=>⟨_,e,rfl,rfl⟩,λc hc z=> ?_⟩
  obtain⟨o,ho,_⟩:=ht'
  have:=Heap.lt_size ho
  rw[z] at this
  exact absurd this (Nat.not_lt.mpr hc)
def tB(K:PySem.W.Frag)(ta:TA):TI:=λσ H R=>ta σ H λvs H1=>∃(S:Sr) (xs:List V),vs=[S.v]/\S.at K H1 xs/\R (ItE K S) H1
theorem pK{X:Cx}{e:Expr}{ta:TA}{p pos tpos:Pos}{elts:List Expr}{kk:Nat}(hg:Gl X "enumerate")(hm:X.mg "enumerate"=none)(ha:PA X [e] ta)(hs:starEach [e] X.env=[(false,eval e X.env)]:=by rfl) :
  PI X (.Tuple elts kk tpos) (.Call (.Name "enumerate" p) [e] [] pos) (tB X.K ta):=by
 refine⟨λpins s σ H R I h=> ?_⟩
 refine Call_ (ld_blt I hg hm boot_enumerate (PyProof.Rows.callWith_type1 (thn (ha.run pos pins s σ H _ I h) λus s1 ⟨vs,H1,I1,r1,q1⟩=> ?_) hs rfl))
 obtain⟨S,xs,ex,hq,q⟩:=q1
 subst ex
 obtain⟨u,rfl,ru⟩:=r1.one
 obtain⟨o,Hh,B,hh,st0,off⟩:=Sr.begins I1 hq ru
 refine ib B hh λh' he hit hsz hk=>wpAny_pyIter_enum he ?_
 have I2:Inv X pins σ H1 { s1 with heap:=h' }:=I1.kept (t':=s1.toks) hk
 refine⟨s1.heap.objs.size+1,[s1.heap.objs.size+1,s1.heap.objs.size],_,_,H1,rfl,I2,lB S (s1.heap.objs.size+1) s1.heap.objs.size,⟨⟨.none,he⟩,st0 _ _ hit,Nat.succ_ne_self _⟩,λb hb=> ?_,q⟩
 have e':b=s1.heap.objs.size+1\/b=s1.heap.objs.size:=by simpa using hb
 have hle:s1.heap.objs.size<=b:=by
  rcases e' with z|z
  .rw[z]; exact Nat.le_succ _
  .rw[z]; exact Nat.le_refl _
 exact I1.fpOk hle (I1.hok.fresh hle)
/-- a frozen source: its items -/
def srD(fr:Fr)(hb:HB):D->Option (List D×Bool)
 | .str s=>some (s.map λch=>.str [ch],true)
 | .tup xs=>some (xs,true)
 | .lst xs=>some (xs,true)
 | .fz xs=>some (xs,true)
 | .loc i=>match d8 fr hb (.loc i) with
  | some xs=>some (xs,false)
  | none=>none
 | _=>none
/-- a source at its state: it stands as long as what is frozen (own: what is not boxed) stands -/
theorem u6{K:PySem.W.Frag}{M:Addr->Prop}{m:List Addr}{H:Hp}{hb:HB}{fr:Fr}{σ:St}{d:D}{v:V}{ds:List D}{fz:Bool}(a:At K M m H hb fr σ)(r:RelT K M m H fr σ d v)(e:srD fr hb d=some (ds,fz)) :
  ∃S vs,v=Sr.v S/\RelDs K (Bd M m) m H ds vs/\S.at K H vs/\∀H2,(∀a o,H a=some o->¬(if fz then Bd M m a else a∈m)->H2 a=some o)->S.at K H2 vs:=by
 unfold srD at e
 split at e
 .rename_i s
  cases e
  refine⟨.tx (au s),b7 (au s),az r,?_,rfl,λ_ _=>rfl⟩
  have:b7 (au s)=s.map λch=>V.str (au [ch]):=by
   unfold b7 au
   rw[List.toList_toArray,List.map_map]
   rfl
  rw[this]
  clear r this
  induction s with
  | nil=>exact RelDs.nil'
  | cons ch s ih=>exact RelDs.cons (by unfold RelD; rfl) ih
 .rename_i xs
  cases e
  obtain⟨p,vs,rfl,f,nb,r⟩:=gi r
  exact⟨.tp p,vs,rfl,r,.of f,λH2 hk=>.of (hk p _ f (by simpa using nb))⟩
 .rename_i xs
  cases e
  have r':RelD K (Bd M m) m H (.lst ds) v:=r
  unfold RelD at r'
  obtain⟨p,vs,rfl,⟨f,nb⟩,r⟩:=r'
  exact⟨.ls p,vs,rfl,r,.of f,λH2 hk=>.of (hk p _ f (by simpa using nb))⟩
 .rename_i xs
  cases e
  have r':RelD K (Bd M m) m H (.fz ds) v:=r
  unfold RelD at r'
  obtain⟨p,vs,rfl,f,r⟩:=r'
  refine⟨.ls p,vs,rfl,r,?_,λH2 hk=> ?_⟩
  .rcases f with ⟨f,_⟩|f
   .exact .inl f
   .exact .inr f
  .rcases f with ⟨f,nb⟩|f
   .exact .inl (Rd.keep f λo q=>hk p o q (by simpa using nb))
   .exact .inr f
 .rename_i i
  split at e
  .rename_i xs e2
   cases e
   obtain⟨⟨o,ho⟩,h2⟩:=r
   obtain⟨x,e3,p,e4,hM,nm,ro⟩:=a.fr.2 i _ ho
   rw[e3] at h2
   cases h2
   cases e4
   have eo:o=.lst ds:=by
    unfold d8 at e2
    dsimp only at e2
    rw[ho] at e2
    cases o with
    | lst ys=>cases e2; rfl
    | dct _ _=>cases e2
    | ins _ _ _=>cases e2
    | tab _=>cases e2
   subst eo
   obtain⟨vs,f,r⟩:=ro
   exact⟨.ls p,vs,rfl,r,.of f,λH2 hk=>.of (hk p _ f (by simpa using nm))⟩
  .cases e
 .cases e
def d9(ds:List D):List D:=ds.zipIdx.map λp=>.tup [.int (p.2:Nat),p.1]
def fJ(es:Evs):Iv:=λfr hb=>match es fr hb with
 | some (.inl [.box n],hb1)=>(match hb1[n]? with
  | some (.lst _)=>some (.inl (.bx n true),hb1)
  | _=>none)
 | some (.inl [d],hb1)=>(match srD fr hb1 d with
  | some (ds,fz)=>some (.inl (.ls (d9 ds) fz),hb1)
  | none=>none)
 | some (.inr x,hb1)=>some (.inr x,hb1)
 | _=>none
theorem lw{K:PySem.W.Frag}{M:Addr->Prop}{m1:List Addr}{H1:Hp}{ds:List D}{vs:List V}{fz:Bool}{S:Sr}(r:RelDs K (Bd M m1) m1 H1 ds vs)
  (hs:∀H2,(∀a o,H1 a=some o->¬(if fz then Bd M m1 a else a∈m1)->H2 a=some o)->S.at K H2 vs):WalkD K M m1 H1 (d9 ds) fz (ItE K S) (λH=>S.at K H vs) (YPair (λi=>some (.int (i:Nat))) (λi=>vs[i]?)):=by
 have hl:(d9 ds).length=vs.length:=by unfold d9; rw[List.length_map,List.length_zipIdx,r.length]
 refine⟨?_,hs,λi H2 x H2' y=> ?_,λi H2 x H2' hi y B2 m2 k nf=> ?_⟩
 .rw[hl]
  refine⟨λi H hi q=>⟨vs,vs[i],q,by simp[hi]⟩,λH q=>⟨vs,q,rfl⟩,λi H v H' _ q y=> ?_⟩
  obtain⟨T,x,h1,h2,h3,h4⟩:=y
  exact⟨T,.int (i:Nat),x,h1,h2,h3,rfl,h4 vs q⟩
 .obtain⟨T,x',y',h1,h2,h3,h4,h5⟩:=y
  exact .inr ⟨T,_,h2,h3⟩
 .obtain⟨T,x',y',rfl,h2,rfl,h4,h5⟩:=y
  have h4':V.int (i:Nat)=x':=by simpa using h4
  subst h4'
  rw[hl,<-r.length] at hi
  obtain⟨w,hw,rw'⟩:=r.get (i:=i) (d:=ds[i]) (by simp[hi])
  have h5':vs[i]? =some y':=h5
  rw[h5'] at hw
  cases hw
  refine⟨.tup [.int (i:Nat),ds[i]],?_,?_⟩
  .unfold d9
   rw[List.getElem?_map,List.getElem?_zipIdx]
   simp[hi]
  .unfold RelD
   refine⟨T,_,rfl,⟨upd_same,nf T h2⟩,RelDs.cons (by unfold RelD; rfl) (RelDs.cons ?_ RelDs.nil')⟩
   have k2:Keeps B2 B2 m2 m2 H2 (upd H2 T (.tup [.int (i:Nat),y'])):=⟨⟨[],by simp⟩,λa o q n=>⟨by rw[upd_ne (ne_of_none q h2)]; exact q,n⟩⟩
   exact(rw'.keep k).keep k2
theorem mD{K:PySem.W.Frag}{p:Addr}:BxIt K p true (ItE K (.ls p)) :=
 ⟨λi H vs h hi=>⟨vs,vs[i],.of h,by simp[hi]⟩,λi H vs h hi=>⟨vs,.of h,hi⟩,λi H x H' vs h y=>by
  obtain⟨T,x',h1,h2,h3,h4⟩:=y
  exact⟨x',h4 vs (.of h),.inr ⟨rfl,T,h1,h2,h3⟩⟩⟩
section
variable {X:Cx} {W:WX} {e e2:Expr} {evs:Evs} {p pos tpos:Pos} {elts:List Expr} {kk:Nat}
theorem rV(hg:Gl X "enumerate")(hm:X.mg "enumerate"=none)(ha:SEs X W [e] evs)(hs:starEach [e] X.env=[(false,eval e X.env)]:=by rfl) :
  SI X W (.Tuple elts kk tpos) (.Call (.Name "enumerate" p) [e] [] pos) (fJ evs):=by
 refine PI.mono (pK hg hm ha hs) λσ H R h=> ?_
 obtain⟨M,m,hb,fr,r,hb',at_,e0,c⟩:=h
 unfold fJ at e0
 show tEs X.K W evs σ H λvs H1=>∃(S:Sr) (xs:List V),vs=[S.v]/\S.at X.K H1 xs/\R (ItE X.K S) H1
 split at e0
 .rename_i n hb1 e1
  split at e0
  .rename_i xs e2
   cases e0
   refine⟨M,m,hb,fr,.inl _,_,at_.wd,at_.fr,e1,λm1 H1 s1 vs rv=> ?_⟩
   obtain⟨v,rfl,r1⟩:=rv.one
   have r1':RelD X.K (Bd M m1) m1 H1 (.box n) v:=r1
   unfold RelD at r1'
   obtain⟨q,rfl,hp⟩:=r1'
   obtain⟨vs,f,_⟩:=s1.wd.ob n q _ hp e2
   exact⟨.ls q,vs,rfl,.of f,c m1 H1 s1 q _ hp mD⟩
  .cases e0
 .rename_i d hb1 hn e1
  split at e0
  .rename_i ds fz e2
   cases e0
   refine⟨M,m,hb,fr,.inl _,_,at_.wd,at_.fr,e1,λm1 H1 s1 vs rv=> ?_⟩
   obtain⟨v,rfl,r1⟩:=rv.one
   obtain⟨S,ws,rfl,rd,sat,std⟩:=u6 (at_.step s1) r1 e2
   exact⟨S,ws,rfl,sat,c m1 H1 s1 _ _ _ (lw rd std)⟩
  .cases e0
 .rename_i x hb1 e1
  cases e0
  exact⟨M,m,hb,fr,.inr x,_,at_.wd,at_.fr,e1,λm1 H1 s1=>c m1 H1 s1⟩
 .cases e0
/-- zip -/
def wc(xs ys:List D):List D:=List.zipWith (λa b=>.tup [a,b]) xs ys
def u7(es:Evs):Iv:=λfr hb=>match es fr hb with
 | some (.inl [d1,d2],hb1)=>(match srD fr hb1 d1,srD fr hb1 d2 with
  | some (xs,f1),some (ys,f2)=>some (.inl (.ls (wc xs ys) (f1 && f2)),hb1)
  | _,_=>none)
 | some (.inr x,hb1)=>some (.inr x,hb1)
 | _=>none
end
end
section
def pF(i:Int):List Char:=(toString i).toList
section
variable {X:Cx} {W:WX} {pos apos cpos:Pos} {e o:Expr} {es:List Expr} {ev evo:Ev} {evs:Evs}
def t5:List D->Ev:=λds fr hb=>match ds with
 | [.int i]=>if i.natAbs.log2<1920 then some (.ok (.str (pF i)),hb) else none
 | [.str s]=>some (.ok (.str s),hb)
 | _=>none
def ur:List V->Hp->VK->Prop:=λxs H Q=>(∃i:Int,xs=[V.int i]/\i.natAbs.log2<1920/\Q (V.str (Str.ofString (toString i))) H)\/∃a,xs=[V.str a]/\Q (V.str a) H
theorem nP(i:Int):Str.ofString (toString i)=au (pF i):=ej _
theorem nv:ig X W ur t5:=by
 intro M m hb fr σ H ds vs res hb' Q at_ rv e c
 unfold t5 at e
 split at e
 .split at e
  .rename_i i hz
   cases e
   obtain⟨v,rfl,r1⟩:=rv.one
   rw[ao r1]
   exact .inl ⟨i,rfl,hz,by rw[nP]; exact c.done at_ kW⟩
  .cases e
 .cases e
  obtain⟨v,rfl,r1⟩:=rv.one
  rw[az r1]
  exact .inr ⟨_,rfl,c.done at_ kW⟩
 .cases e
theorem qv:CallR X (.type "str") ur:=CallR.or call_str_int SkE.call_str_str
/-- {x} -/
def tc:D->Ev:=λd fr hb=>match d with
 | .int i=>if i.natAbs.log2<1920 then some (.ok (.str (pF i)),hb) else none
 | .str s=>if s.length<=szL then some (.ok (.str s),hb) else none
 | _=>none
theorem qR(he:SE X W e ev):SE X W (.FormattedValue e (-1) none pos) (ay ev tc) :=
 PE.mono (pe_fmt he) λ_ _ _ h=>bT h λ{M m hb fr x vx H2 r hb'} a rx e c=>by
  unfold tc at e
  split at e
  .split at e
   .rename_i i hz
    cases e
    rw[ao rx]
    exact .inr ⟨i,rfl,hz,by rw[nP]; exact c.done a kW⟩
   .cases e
  .split at e
   .rename_i hz
    cases e
    rw[az rx]
    exact .inl ⟨_,rfl,by rw[aJ,<-bd]; exact hz,c.done a kW⟩
   .cases e
  .cases e
def eJs:List Ev->List Char->Ev
 | [],acc=>λ_ hb=>some (.ok (.str acc),hb)
 | ev::r,acc=>ay ev λd fr hb=>match d with
  | .str y=>if (acc++y).length<=szL then eJs r (acc++y) fr hb else none
  | _=>none
inductive SJ (X:Cx) (W:WX):List Expr->List Ev->Prop where
 | nil:SJ X W [] []
 | cons {e:Expr} {ev:Ev} {es:List Expr} {evs:List Ev} (h:SE X W e ev) (r:SJ X W es evs):SJ X W (e::es) (ev::evs)
theorem SJ.pj{es:List Expr}{evs:List Ev}(h:SJ X W es evs):PJ X es (evs.map (tE X.K W)):=by
 induction h with
 | nil=>exact .nil
 | cons h r ih=>exact .cons h ih
theorem qQ:∀{evs:List Ev} {acc:List Char} {σ:St} {H:Hp} {Q:VK},tE X.K W (eJs evs acc) σ H Q->tJs (evs.map (tE X.K W)) (au acc) σ H λout H1=>Q (.str out) H1
 | [],acc,σ,H,Q,h=>by
  obtain⟨M,m,hb,fr,r,hb',a,e,c⟩:=dh h
  cases e
  exact c.done a kW
 | ev::evs,acc,σ,H,Q,h=>by
  show tE X.K W ev σ H λx H1=>∃y:Str,x=.str y/\(au acc++y).length<=sizeLine/\tJs (evs.map (tE X.K W)) (au acc++y) σ H1 λout H1=>Q (.str out) H1
  refine bT h λ{M m hb fr x vx H2 r hb'} a rx e c=> ?_
  split at e
  .rename_i y
   split at e
   .rename_i hz
    rw[az rx]
    refine⟨au y,rfl,by rw[d4,aJ,<-bd]; exact hz,?_⟩
    rw[d4]
    exact qQ (b3 a e c)
   .cases e
  .cases e
theorem rC{v1 v2:Expr}{rest:List Expr}{evl:List Ev}(h:SJ X W (v1::v2::rest) evl):SE X W (.JoinedStr (v1::v2::rest) pos) (eJs evl []) :=
 PE.mono (pe_joined h.pj) λ_ _ _ h=>qQ h
variable {T:String} {id:String} {name:Str} {r:V->List V->Hp->VK->Prop} {g:D->List D->Ev}
end
end
section
section
variable {X:Cx} {W:WX} {G:Gh} {pos apos cpos:Pos} {e o:Expr} {es:List Expr} {ev evo:Ev} {evs:Evs}
/-- the items of the new list -/
abbrev GL:=List D->Fr->HB->Option (List D)
def tY(X:Cx)(r:List V->Hp->VK->Prop)(gl:GL):Prop:=∀{M:Addr->Prop} {m:List Addr} {hb:HB} {fr:Fr} {σ:St} {H:Hp} {ds:List D} {vs:List V} {ys:List D} {Q:VK},
 At X.K M m H hb fr σ->RelTs X.K M m H fr σ ds vs->gl ds fr hb=some ys->(∀p ws,H p=none->RelDs X.K (Bd M m) m H ys ws->Q (.ref p) (upd H p (.lst ws)))->r vs H Q
def cE(gl:GL)(es:Evs):Cv:=λfr hb=>match es fr hb with
 | some (.inl ds,hb1)=>(match gl ds fr hb1 with
  | some ys=>some (.inl (.lst ys),hb1)
  | none=>none)
 | some (.inr x,hb1)=>some (.inr x,hb1)
 | none=>none
theorem ml{r:List V->Hp->VK->Prop}{gl:GL}(hs:tY X r gl){σ:St}{H:Hp}{Q:VK}(h:tC' X.K W (cE gl evs) σ H Q):tCB r (tEs X.K W evs) σ H Q:=by
 obtain⟨M,m,hb,fr,r0,hb',at_,e,c⟩:=h
 unfold cE at e
 show tEs X.K W evs σ H λvs H1=>r vs H1 Q
 split at e
 .rename_i ds hb1 e1
  split at e
  .rename_i ys e2
   cases e
   refine⟨M,m,hb,fr,.inl ds,_,at_.wd,at_.fr,e1,λm1 H1 s1 vs rv=> ?_⟩
   refine hs (at_.step s1) rv e2 λp ws hp rw'=> ?_
   exact c m1 _ p (s1.newP at_.wd hp) ⟨ws,upd_same,rw'.keep (Keeps.grow hp)⟩
  .cases e
 .rename_i x hb1 e1
  cases e
  exact⟨M,m,hb,fr,.inr x,_,at_.wd,at_.fr,e1,λm1 H1 s1=>c m1 H1 s1⟩
 .cases e
theorem pM{r:List V->Hp->VK->Prop}{gl:GL}{id:String}{x:Str}{p:Pos}(hc:CallR X (.builtin id) r)(hs:tY X r gl)(hg:Gl X x)(hm:X.mg x=none)(hv:bootBuiltins x=some (.builtin id))(ha:SEs X W (e::es) evs)
 (hn:x≠"__name__":=by decide) (hdb:(x == ("__debug__":Str))=false:=by decide) (he:starEach (e::es) X.env=(false,eval e X.env)::starEach es X.env:=by rfl) (hpl:(backTo pos (starEach es X.env)).any (·.1)=false:=by rfl) :
 SC X W (.Call (.Name x p) (e::es) [] pos) (cE gl evs):=PE.mono (pe_callB hc hg hm hv ha hn hdb he hpl) λ_ _ _ h=>ml hs h
theorem m8{r:List V->Hp->VK->Prop}{gl:GL}{T:String}{x:Str}{p:Pos}(hc:CallR X (.type T) r)(hs:tY X r gl)(hg:Gl X x)(hm:X.mg x=none)(hv:bootBuiltins x=some (.type T))(ha:SEs X W (e::es) evs)
 (hn:x≠"__name__":=by decide) (hdb:(x == ("__debug__":Str))=false:=by decide) (he:starEach (e::es) X.env=(false,eval e X.env)::starEach es X.env:=by rfl) (hpl:(backTo pos (starEach es X.env)).any (·.1)=false:=by rfl) :
 SC X W (.Call (.Name x p) (e::es) [] pos) (cE gl evs):=PE.mono (pe_callTy hc hg hm hv ha hn hdb he hpl) λ_ _ _ h=>ml hs h
/-- list(x): a list,a tuple,a text,a dict -/
def wF(fr:Fr)(hb:HB):D->Option (List D)
 | .str s=>if s.length<=szL then some (s.map λch=>.str [ch]) else none
 | d =>match dS fr hb d with
  | some xs=>some xs
  | none=>match oh fr hb d with
   | some (ks,vs)=>if ks.all D.isKey && decide (ks.length<=szL) then some ks else none
   | none=>none
def bA:GL:=λds fr hb=>match ds with
 | [d]=>wF fr hb d
 | _=>none
def qh(K:PySem.W.Frag):List V->Hp->VK->Prop:=λxs H Q=>(∃p ys,xs=[V.ref p]/\(SqL K H p ys\/SqT K H p ys)/\∀(l:Addr),H l=none->Q (V.ref l) (upd H l (HO.lst ys))) \/
 (∃z:Str,xs=[V.str z]/\z.length<=sizeLine/\∀(l:Addr),H l=none->Q (V.ref l) (upd H l (HO.lst (b7 z))))\/rListD xs H Q
theorem kQ(hc:X.calm=true):CallR X (.type "list") (λxs H Q=>∃z:Str,xs=[V.str z]/\z.length<=sizeLine/\∀(l:Addr),H l=none->Q (V.ref l) (upd H l (HO.lst (b7 z)))):=by
 intro pins s σ H xs us Q I r h
 obtain⟨z,rfl,hz,q⟩:=h
 obtain⟨u,rfl,t,rfl⟩:=r.one
 refine call_list_str (hn:=hz) (I.ok.hd hc) z t λh' tk acc' c' hk e' hi=> ?_
 have hl:(b7 z).length=acc'.toList.length:=by
  unfold b7
  rw[List.length_map,Array.length_toList,Array.length_toList]
  exact hi.1.symm
 refine⟨.ref s.heap.objs.size,upd H s.heap.objs.size (.lst (b7 z)),I.laid hk (Nat.le_refl _) (show ObjOk X.prog X.w _ _ _ (.lst (b7 z)) from ⟨?_,acc'.toList,c',?_,?_⟩),rfl,q _ (I.hok.fresh (Nat.le_refl _))⟩
 .rw[hl,Array.length_toList,hi.1]; exact hz
 .refine L2.vals_of_at hl λj x w h1 h2=> ?_
  obtain⟨c,u,e1,rfl⟩:=hi.2 j w (by rw[<-Array.getElem?_toList]; exact h2)
  unfold b7 at h1
  rw[List.getElem?_map,Array.getElem?_toList,e1] at h1
  cases h1
  exact⟨u,rfl⟩
 .rw[Array.toArray_toList]; exact e'
theorem kN(s:List Char):b7 (au s)=s.map λch=>V.str (au [ch]):=by
 unfold b7 au
 rw[List.toList_toArray,List.map_map]
 rfl
theorem RelDs.ofSigns{K:PySem.W.Frag}{B:Addr->Prop}{m:List Addr}{H:Hp}(s:List Char):RelDs K B m H (s.map λch=>D.str [ch]) (b7 (au s)):=by
 rw[kN]
 induction s with
 | nil=>exact RelDs.nil'
 | cons ch s ih=>exact RelDs.cons (by unfold RelD; rfl) ih
theorem RelDs.ofKeys{K:PySem.W.Frag}{B:Addr->Prop}{m:List Addr}{H:Hp}:∀{ks:List D} {kvs:List (Key×V)},KeysK ks kvs->RelDs K B m H ks (kvs.map λkv=>kV kv.1)
 | _,_,.nil=>RelDs.nil'
 | d::ds,(k,v)::kvs,.cons h1 h2=>by
  refine RelDs.cons ?_ (RelDs.ofKeys h2)
  cases d<;>simp[kh] at h1<;>subst h1<;>unfold RelD<;>rfl
theorem sM{fr:Fr}{hb:HB}{d:D}{ks vs:List D}{K:PySem.W.Frag}{M:Addr->Prop}{m:List Addr}{H:Hp}{σ:St}{v:V}(a:At K M m H hb fr σ)(r:RelT K M m H fr σ d v)(e:oh fr hb d=some (ks,vs))(hk:ks.all D.isKey=true):∃p kvs,v=.ref p/\H p=some (.dK kvs)/\KeysK ks kvs/\RelDs K (Bd M m) m H vs (kvs.map (·.2)):=by
 unfold oh at e
 split at e
 .cases e
  have r':RelD K (Bd M m) m H (.dct ks vs) v:=r
  unfold RelD at r'
  obtain⟨p,ws,rfl,_,f,r⟩:=r'
  rcases f with ⟨kvs,f,h1,rfl⟩|⟨kvs,f,h1,_⟩
  .exact⟨p,kvs,rfl,f,h1,r⟩
  .exact(KeysT.no h1 hk).elim
 .rename_i i
  split at e
  .rename_i e1
   cases e
   obtain⟨_,e2⟩:=r
   obtain⟨x,e3,p,e4,_,_,ws,e5,e6⟩:=a.fr.2 i _ e1
   rw[e3] at e2
   cases e2
   cases e4
   rcases e5 with ⟨kvs,f,h1,rfl⟩|⟨kvs,f,h1,_⟩
   .exact⟨p,kvs,rfl,f,h1,e6⟩
   .exact(KeysT.no h1 hk).elim
  .cases e
 .rename_i n
  split at e
  .rename_i e1
   cases e
   have r':RelD K (Bd M m) m H (.box n) v:=r
   unfold RelD at r'
   obtain⟨p,rfl,e3⟩:=r'
   obtain⟨ws,e5,e6⟩:=a.wd.ob n p _ e3 e1
   rcases e5 with ⟨kvs,f,h1,rfl⟩|⟨kvs,f,h1,_⟩
   .exact⟨p,kvs,rfl,f,h1,e6⟩
   .exact(KeysT.no h1 hk).elim
  .cases e
 .cases e
theorem nQ:tY X (qh X.K) bA:=by
 intro M m hb fr σ H ds vs ys Q at_ rv e c
 unfold bA at e
 split at e
 .rename_i d
  obtain⟨v,rfl,r1⟩:=rv.one
  unfold wF at e
  split at e
  .rename_i s
   split at e
   .rename_i hz
    cases e
    rw[az r1]
    exact .inr (.inl ⟨_,rfl,by rw[aJ,<-bd]; exact hz,λl hl=>c l _ hl (RelDs.ofSigns s)⟩)
   .cases e
  .split at e
   .rename_i xs e1
    cases e
    obtain⟨p,ws,rfl,f,r⟩:=lO at_ r1 e1
    exact .inl ⟨p,ws,rfl,f,λl hl=>c l _ hl r⟩
   .split at e
    .rename_i ks xs e2
     split at e
     .rename_i hz
      rw[Bool.and_eq_true] at hz
      cases e
      obtain⟨p,kvs,rfl,f,hkk,_⟩:=sM at_ r1 e2 hz.1
      exact .inr (.inr ⟨p,kvs,rfl,f,λq hq=>c q _ hq (RelDs.ofKeys hkk)⟩)
     .cases e
    .cases e
 .cases e
theorem oI(hc:X.calm=true):CallR X (.type "list") (qh X.K):=CallR.or call_list_of (CallR.or (kQ hc) (call_list_dK hc))
theorem di{p:Pos}(hc:X.calm=true)(hg:Gl X "list")(hm:X.mg "list"=none)(ha:SEs X W [e] evs)(he:starEach [e] X.env=(false,eval e X.env)::starEach [] X.env:=by rfl)(hpl:(backTo pos (starEach [] X.env)).any (·.1)=false:=by rfl) :
 SC X W (.Call (.Name "list" p) [e] [] pos) (cE bA evs):=m8 (oI hc) nQ hg hm rfl ha (by decide) (by decide) he hpl
/-- sorted(x) -/
def ij:GL:=λds fr hb=>match ds with
 | [.tup _]=>none
 | [d]=>match dS fr hb d with
  | some xs=>uP xs
  | none=>none
 | _=>none
theorem md:tY X (ki X.K) ij:=by
 intro M m hb fr σ H ds vs ys Q at_ rv e c
 unfold ij at e
 split at e
 .cases e
 .rename_i d hn
  split at e
  .rename_i xs e1
   obtain⟨v,rfl,r1⟩:=rv.one
   obtain⟨p,ws,rfl,f,r⟩:=eP at_ r1 e1 λys q=>hn ys (by rw[q])
   unfold uP at e
   split at e
   .rename_i is e3
    cases e
    obtain rfl:=(iK e3 r).1
    refine .inl ⟨p,is,rfl,f,λns q pm pw hq=> ?_⟩
    have:ns=hO is:=bK _ (λa b h1 h2=>by omega) (pm.trans (List.mergeSort_perm _ _).symm) pw (sortI_pw is)
    subst this
    exact c q _ hq (RelDs.ofInts _)
   .split at e
    .rename_i ts e3
     split at e
     .rename_i hz
      cases e
      obtain rfl:=qA e3 r
      have em:(ts.map λs=>V.str (au s))=(ts.map au).map V.str:=by rw[List.map_map]; rfl
      rw[em] at f
      refine .inr (.inl ⟨p,ts.map au,rfl,f,by rw[List.length_map]; exact hz,λzs q pm pw hq=> ?_⟩)
      obtain⟨us,rfl,pm2⟩:=jP pm
      have pw2:us.Pairwise λa b=>ltC b a=false:=by
       cases us with
       | nil=>exact .nil
       | cons u us=>exact gO u us pw
      have:us=ny ts:=bK _ (λa b h1 h2=>p7 h1 h2) (pm2.trans (List.mergeSort_perm _ _).symm) pw2 (pq ts)
      subst this
      have em2:((ny ts).map au).map V.str=(ny ts).map λs=>V.str (au s):=by rw[List.map_map]; rfl
      rw[em2]
      exact c q _ hq (RelDs.ofTexts _)
     .cases e
    .split at e
     .rename_i ps e3
      cases e
      obtain⟨g1,g2,g3⟩:=qr e3 r
      refine .inr (.inr ⟨p,ws,kP H,rfl,f,λx hx=>(g3 x hx).2,λzs q pw st hq=> ?_⟩)
      have e9:zs.map (kP H)=fq ps:=by
       refine bK _ (λa b h1 h2=>ir h1 h2) ?_ (List.pairwise_map.mpr pw) (fY ps)
       exact((st.perm.map (kP H)).trans (by rw[g2])).trans (List.mergeSort_perm _ _).symm
      have e10:(fq ps).map dP=zs.map λx=>dP (kP H x):=by rw[<-e9,List.map_map]; rfl
      rw[e10] at c
      exact c q _ hq (RelDs.ofMap λx hx=>(g3 x (st.perm.subset hx)).1)
     .cases e
  .cases e
 .cases e
theorem nw{p:Pos}(hg:Gl X "sorted")(hm:X.mg "sorted"=none)(ha:SEs X W [e] evs)(he:starEach [e] X.env=(false,eval e X.env)::starEach [] X.env:=by rfl)(hpl:(backTo pos (starEach [] X.env)).any (·.1)=false:=by rfl) :
 SC X W (.Call (.Name "sorted" p) [e] [] pos) (cE ij evs):=pM kO md hg hm rfl ha (by decide) (by decide) he hpl
/-- list(range(..)) -/
def wk(es:Evs):Cv:=λfr hb=>match es fr hb with
 | some (.inl [.int j],hb1)=>if smI j && decide (j<=szL) then some (.inl (.lst (eG 0 j)),hb1) else none
 | some (.inr x,hb1)=>some (.inr x,hb1)
 | _=>none
end
end
section
abbrev pT:=List D->HB->Option ((O ⊕ Xn)×HB)
def spI(K:PySem.W.Frag)(c:String)(n:Nat)(ev:pT):Sp:=λvs H Q E=>∃(M0:Addr->Prop) (ms:List Addr) (H0:Hp) (p dx:Addr) (hb:HB) (ds:List D) (vs':List V) (r:O ⊕ Xn) (hb':HB),
 vs=.ref p::vs'/\H=upd (upd H0 dx (.own p)) p (.ins (He.ga K c) dx [])/\H0 p=none/\H0 dx=none/\dx≠p/\ds.length+1=n/\Wd K M0 ms H0 hb/\RelDs K (Bd M0 ms) ms H0 ds vs'/\ev ds hb=some (r,hb')/\match r with
  | .inl o=>∀m' H',StpP K M0 ms H0 m' H' hb' p->RelO K (Bd (Mp M0 p) m') m' H' o p->Q .non H'
  | .inr x=>∀m' H',Stp K M0 ms H0 m' H' hb'->∀C dd,RelX K (Bd M0 m') m' H' x C dd->E C dd H'
abbrev u8(P:Program)(w:World)(K:PySem.W.Frag)(mg:Str->Option Value)(base:Heap)(k:Nat)(f:Addr)(fd:FuncData)(ps:List Str)(c:String)(ev:pT):Prop:=FnOk P w K mg base (L2N.CX P w) k f fd ps (spI K c ps.length ev)
def frI(c:String)(n:Nat)(ds:List D):Fr:=(fr0 n (.non::ds)).set 0 (.ow (.ins c [] []))
def inE(c:String)(n:Nat)(body:Sv):pT:=λds hb=>match body (frI c n ds) hb with
 | some (.nx fr,hb1)=>(match fr[(0:Nat)]? with
  | some (.ow o)=>some (.inl o,hb1)
  | _=>none)
 | some (.ex x,hb1)=>some (.inr x,hb1)
 | _=>none
section
variable {P:Program} {w:World} {K:PySem.W.Frag} {mg:Str->Option Value} {base:Heap}
theorem FS.startI{M0:Addr->Prop}{ms:List Addr}{H0:Hp}{hb:HB}{ds:List D}{vs:List V}{N:List Str}{c:String}{p dx:Addr}(wd:Wd K M0 ms H0 hb)(r:RelDs K (Bd M0 ms) ms H0 ds vs)(hl:ds.length+1<=N.length)(hp:H0 p=none)(hd:H0 dx=none)(hne:dx≠p) :
  FS K ⟨M0,ms,H0,some p⟩ ms (upd (upd H0 dx (.own p)) p (.ins (He.ga K c) dx [])) hb (frI c N.length ds) (L2.start N (.ref p::vs)):=by
 have s0:FS K ⟨M0,ms,H0,none⟩ ms H0 hb (fr0 N.length (.non::ds)) (L2.start N (.non::vs)):=FS.start wd (RelDs.cons (by unfold RelD; rfl) r) (by simpa using hl)
 have hp':(upd H0 dx (.own p)) p=none:=by rw[upd_ne (Ne.symm hne)]; exact hp
 have w1:=(s0.at_.wd.laid (o:=.own p) hd).wd
 have t:StpP K (Mf M0 (fr0 N.length (.non::ds)) (L2.start N (.non::vs))) ms H0 ms (upd (upd H0 dx (.own p)) p (.ins (He.ga K c) dx [])) hb p:=by
  refine⟨⟨[],by simp⟩,λa h n=>absurd h n,λa o q n=> ?_,w1.grow hp',hp⟩
  rw[upd_ne (ne_of_none q hp),upd_ne (ne_of_none q hd)]
  exact q
 have hlen:0<(fr0 N.length (.non::ds)).length:=by unfold fr0; simp
 obtain⟨s1,_⟩:=s0.setOw (o:=.ins c [] []) (i:=0) (.inl rfl) hlen t ⟨dx,[],upd_same,rfl,RelDs.nil'⟩
 have e:(L2.start N (.non::vs)).set 0 (some (.ref p))=L2.start N (.ref p::vs):=by unfold L2.start; simp
 rw[e] at s1
 refine⟨s1.at_,s1.m0,s1.pre,s1.new,s1.keep,λq hq o _=> ?_,s1.own,s1.dist⟩
 cases hq
 unfold L2.start
 simp
/-- THE RULE of __init__ -/
theorem wS{c:String}{x qual:Str}{params:Arguments}{body:List Stmt}{scope:Scope}{dvs:List V}{kws:List (Str×V)}{f:Addr}{fd:FuncData}{N ps:List Str}{k:Nat}{sv:Sv}(F:FunD K x qual params body scope dvs kws f fd)(S:FnScope N ps scope)
  (hbody:∀(X:Cx) (W:WX) (G:Gh),X.prog=P->X.w=w->X.K=K->X.mg=mg->X.base=base->X.N=N->X.calm=true->X.fn=(λ_=>true)->X.env.scope=scope->Room k X.A->PassesOwn (model X.prog X.w) X.A X.env X.xe->L2N.Takes X W->X.stack=X.env::X.outer->X.env.frame=some X.env.locals->SSs X W G body sv) :
  u8 P w K mg base (k+1) f fd ps c (inE c N.length sv):=by
 refine F.ok (sp:=spI K c ps.length (inE c N.length sv)) S (λvs H Q E h=> ?_) (λcdv A outer s H vs Q E hr h=> ?_)
 .obtain⟨M0,ms,H0,p,dx,hb,ds,vs',r,hb',rfl,_,_,_,_,hl,_,rd,_⟩:=h
  rw[List.length_cons,<-rd.length,hl]
 .obtain⟨M0,ms,H0,p,dx,hb,ds,vs',r,hb',rfl,rfl,hp,hd,hne,hl,wd,rd,e,cc⟩:=h
  have hps:ps.length<=N.length:=by have:=congrArg List.length S.pre; rw[List.length_take] at this; omega
  refine⟨_,hbody (cxOf (L2N.CX P w) P w K mg base N qual scope f cdv A outer s _ E) (λcls d _ H=>E cls d H) ⟨M0,ms,H0,some p⟩ rfl rfl rfl rfl rfl rfl rfl rfl rfl hr (passes_of rfl) (L2N.takes_of rfl rfl rfl rfl) rfl rfl,?_⟩
  have s0:=FS.startI (N:=N) (c:=c) wd rd (by omega) hp hd hne
  unfold inE at e
  split at e
  .rename_i fr1 hb1 e1
   split at e
   .rename_i o e2
    cases e
    refine aV s0 e1 λm' H' σ' s' _=> ?_
    have hσ:=s'.pin p rfl o e2
    obtain⟨x,e3,a,e4,hM,nm,ro⟩:=s'.at_.fr.2 0 _ e2
    rw[hσ] at e3
    cases e3
    cases e4
    have sub:∀a,Mp M0 p a->Mf M0 fr1 σ' a:=λa z=>z.elim .inl λz=>by subst z; exact .inr ⟨0,o,e2,hσ⟩
    exact cc m' H' ⟨s'.pre,s'.new,s'.keep,s'.at_.wd.shrink sub,hp⟩ (ro.keep_own (Keeps.shrink λb z=>z.elim (λz=>.inl (sub b z)) .inr) λ_ q=>q)
   .cases e
  .rename_i x hb1 e1
   cases e
   refine aV s0 e1 λm' H' σ' fr' C dd s' _ rx=> ?_
   refine cc m' H' ⟨s'.pre,s'.new,s'.keep,s'.at_.wd.shrink λa h=>.inl h⟩ C dd ?_
   exact rx.keep (Keeps.shrink λb z=>z.elim (λz=>.inl (.inl z)) .inr)
  .cases e
end
end
section
/-- .. the first one being self -/
structure KBI (K:PySem.W.Frag) (fd:FuncData) (ps:List Str) (n:Nat) (ks:List Str) (gD:List D->List D->List D):Prop where
 ex:∃(g:List Value->List Value->List Value) (gV gV2:List V->List V->List V),KBn K fd ps (n+1) ks g gV/\(∀v vs zs,vs.length=n->zs.length=ks.length->gV (v::vs) zs=v::gV2 vs zs) /\
  ∀{B:Addr->Prop} {m:List Addr} {H:Hp} {ds es:List D} {vs zs:List V},ds.length=n->es.length=ks.length->RelDs K B m H ds vs->RelDs K B m H es zs->RelDs K B m H (gD ds es) (gV2 vs zs)/\(gD ds es).length+1=ps.length
theorem rT{K:PySem.W.Frag}{fd:FuncData}{ps:List Str}(hb:Binds K fd ps []):KBn K fd ps ps.length [] (λus _=>us) (λvs _=>vs) :=
 ⟨λs us ws hk h1 h2=>by
  have z:=hb s us hk (by rw[List.append_nil]; exact h1)
  rw[List.append_nil] at z
  have:([]:List Str).zip ws=[]:=by simp
  rw[this]
  exact z,λr _=>r⟩
theorem gx{K:PySem.W.Frag}{fd:FuncData}{ps:List Str}{n:Nat}(hb:Binds K fd ps [])(hn:n+1=ps.length):KBI K fd ps n [] (λds _=>ds) :=
 ⟨_,_,λvs _=>vs,by rw[hn]; exact rT hb,λ_ _ _ _ _=>rfl,λh _ r _=>⟨r,by rw[h]; exact hn⟩⟩
abbrev Ea:=Fr->HB->Option (((List D×List D) ⊕ Xn)×HB)
def dR(evs evks:Evs):Ea:=λfr hb=>match evs fr hb with
 | some (.inl ds,hb1)=>(match evks fr hb1 with
  | some (.inl es,hb2)=>some (.inl (ds,es),hb2)
  | some (.inr x,hb2)=>some (.inr x,hb2)
  | none=>none)
 | some (.inr x,hb1)=>some (.inr x,hb1)
 | none=>none
abbrev SKs(X:Cx)(W:WX)(kws:List Keyword)(ev:Evs):Prop:=PK X kws (tEs X.K W ev)
theorem PK.mono{X:Cx}{kws:List Keyword}{t t':TA}(h:PK X kws t)(i:∀σ H Q,t' σ H Q->t σ H Q):PK X kws t':=⟨λpos pins s σ H Q I hq=>h.run pos pins s σ H Q I (i σ H Q hq)⟩
section
variable {X:Cx} {W:WX}
theorem eE:SKs X W [] al:=by
 refine PK.mono pk_nil λσ H Q h=> ?_
 obtain⟨M,m,hb,fr,r,hb',w,f,e,c⟩:=h
 cases e
 exact c m H (Stp.refl w) [] rfl
theorem kn{e:Expr}{ev:Ev}{evs:Evs}{kws:List Keyword}{nm:Option Str}{kpos:Pos}(h:SE X W e ev)(hs:SKs X W kws evs):SKs X W (⟨nm,e,kpos⟩::kws) (ae ev evs):=by
 refine PK.mono (pk_cons h hs) λσ H Q hq=> ?_
 obtain⟨M,m,hb,fr,r,hb',w,f,e,c⟩:=hq
 unfold ae at e
 show tE X.K W ev σ H λx H1=>tEs X.K W evs σ H1 λxs H2=>Q (x::xs) H2
 split at e
 .rename_i d hb1 e1
  refine⟨M,m,hb,fr,.ok d,hb1,w,f,e1,λm1 H1 s1 v rv=> ?_⟩
  split at e
  .rename_i ds hb2 e2
   cases e
   refine⟨M,m1,hb1,fr,.inl ds,_,s1.wd,f.keep s1 w,e2,λm2 H2 s2 vs rvs=> ?_⟩
   exact c m2 H2 (s1.trans s2) (v::vs) ⟨v,vs,rfl,rv.keep s2,rvs⟩
  .rename_i x hb2 e2
   cases e
   exact⟨M,m1,hb1,fr,.inr _,_,s1.wd,f.keep s1 w,e2,λm2 H2 s2=>c m2 H2 (s1.trans s2)⟩
  .cases e
 .rename_i x hb1 e1
  cases e
  exact⟨M,m,hb,fr,.exn _,_,w,f,e1,λm1 H1 s1=>c m1 H1 s1⟩
 .cases e
/-- behind the arguments -/
theorem j8{evs evks:Evs}{σ:St}{H:Hp}{M:Addr->Prop}{m:List Addr}{hb hb1:HB}{fr:Fr}{r:(List D×List D) ⊕ Xn}(a:At X.K M m H hb fr σ)(e:dR evs evks fr hb=some (r,hb1)){R:List V->List V->Hp->Prop}
  (h:match r with
   | .inl (ds,es)=>∀m1 H1 vs zs,Stp X.K M m H m1 H1 hb1->At X.K M m1 H1 hb1 fr σ->RelTs X.K M m1 H1 fr σ ds vs->RelTs X.K M m1 H1 fr σ es zs->R vs zs H1
   | .inr x=>∀m1 H1,Stp X.K M m H m1 H1 hb1->∀C dd,RelX X.K (Bd M m1) m1 H1 x C dd->W C dd σ H1):tEs X.K W evs σ H λvs H1=>tEs X.K W evks σ H1 λzs H2=>R vs zs H2:=by
 unfold dR at e
 split at e
 .rename_i ds hb2 e1
  refine⟨M,m,hb,fr,.inl ds,hb2,a.wd,a.fr,e1,λm1 H1 s1 vs rv=> ?_⟩
  split at e
  .rename_i es hb3 e2
   cases e
   refine⟨M,m1,hb2,fr,.inl es,_,s1.wd,(a.step s1).fr,e2,λm2 H2 s2 zs rz=> ?_⟩
   exact h m2 H2 vs zs (s1.trans s2) ((a.step s1).step s2) (rv.keep s2) rz
  .rename_i x hb3 e2
   cases e
   exact⟨M,m1,hb2,fr,.inr x,_,s1.wd,(a.step s1).fr,e2,λm2 H2 s2=>h m2 H2 (s1.trans s2)⟩
  .cases e
 .rename_i x hb2 e1
  cases e
  exact⟨M,m,hb,fr,.inr x,_,a.wd,a.fr,e1,λm1 H1 s1=>h m1 H1 s1⟩
 .cases e
def l8(C:Addr)(n m:Nat)(sp:Sp)(gV:List V->List V->List V)(E:St->XK)(t tk:TA):TE:=λσ H Q=>t σ H λvs H1=>tk σ H1 λzs H2=>vs.length=n/\zs.length=m /\
 ∀x dx,H2 x=none->H2 dx=none->dx≠x->sp (gV (.ref x::vs) zs) (upd (upd H2 dx (.own x)) x (.ins C dx [])) (λv H3=>v=.non/\Q (.ref x) H3) (E σ)
variable {CX:CXT} {k n:Nat} {f C:Addr} {fd:FuncData} {ps ks:List Str} {sp:Sp} {E:St->XK} {x:Str} {p pos:Pos} {e:Expr} {es:List Expr} {kws:List Keyword} {t tk:TA} {g:List Value->List Value->List Value} {gV:List V->List V->List V}
theorem gI{pins:List (Addr×Obj)}{σ:St}{H:Hp}{s:Shared}{Q:VK}{us ws:List Value}{vs zs:List V}(M:Mk X.K C f)(F:FnOk X.prog X.w X.K X.mg X.base CX k f fd ps sp)(hr:Room (k+1) X.A)(hb:KBn X.K fd ps (n+1) ks g gV)
  (hx:PassesAt CX X σ (E σ)) (I:Inv X pins σ H s) (r:Vals vs us) (rz:Vals zs ws) (l1:vs.length=n) (l2:zs.length=ks.length)
  (h:∀x dx,H x=none->H dx=none->dx≠x->sp (gV (.ref x::vs) zs) (upd (upd H dx (.own x)) x (.ins C dx [])) (λv H2=>v=.non/\Q (.ref x) H2) (E σ)) :
  wpAny (model X.prog X.w) X.A (call (.ref C) us (ks.zip ws)) (EP X pins σ Q) X.xe s:=by
 have hq:=h (s.heap.objs.size+1) s.heap.objs.size (I.hok.fresh (Nat.le_succ _)) (I.hok.fresh (Nat.le_refl _)) (Nat.ne_of_lt (Nat.lt_succ_self _))
 have I2:=Inv.made (C:=C) I
 have r1:Vals (V.ref (s.heap.objs.size+1)::vs) (Value.ref (s.heap.objs.size+1)::us):=.cons rfl r
 have r2:=hb.rel r1 rz
 have e1:(Value.ref (s.heap.objs.size+1)::us).length=n+1:=r1.length.symm.trans (congrArg Nat.succ l1)
 have e2:ws.length=ks.length:=rz.length.symm.trans l2
 refine wpAny_call (make_map (f:=f) I.kIn M.makes M.init (beq_iff_eq.mp M.fn) (codeAny_mono (F.run _ X.stack _ _ ⟨Value.ref (s.heap.objs.size+1)::us,ks.zip ws⟩ (g (Value.ref (s.heap.objs.size+1)::us) ws) _ _ (E σ) (hr.make C us (ks.zip ws))
  (I2.env0.make C us (ks.zip ws)) (hb.to _ (Value.ref (s.heap.objs.size+1)::us) ws I2.kIn e1 e2) r2 hq) λr s' hq'=> ?_))
 cases r with
 | error e=>exact hx pins _ _ e s' I2 hq'
 | ok fl =>
  cases fl with
  | ret u =>
   obtain⟨v,H',I3,rv,ev,q3⟩:=I2.after hq'
   subst ev
   exact⟨rv,⟨V.ref (s.heap.objs.size+1),H',I3,rfl,q3⟩⟩
  | next=>exact False.elim hq'
  | brk=>exact False.elim hq'
  | cont=>exact False.elim hq'
theorem oy(M:Mk X.K C f)(F:FnOk X.prog X.w X.K X.mg X.base CX k f fd ps sp)(hr:Room (k+1) X.A)(hg:Gl X x)(hm:X.mg x=some (.ref C))(hb:KBn X.K fd ps (n+1) ks g gV)(hx:∀σ,PassesAt CX X σ (E σ))
  (ha:PA X (e::es) t) (hkw:PK X kws tk) (hall:(backToKw pos (keywordEach kws X.env)).all (·.1.isSome)=true:=by rfl) (hks:(backToKw pos (keywordEach kws X.env)).filterMap (·.1)=ks:=by rfl)
  (hdb:(x == ("__debug__":Str))=false:=by decide) (he:starEach (e::es) X.env=(false,eval e X.env)::starEach es X.env:=by rfl)
  (hpl:((backTo pos (starEach (e::es) X.env)).any (·.1) || (backToKw pos (keywordEach kws X.env)).any (·.1.isNone))=false:=by rfl) :
  PE X (.Call (.Name x p) (e::es) kws pos) (l8 C n ks.length sp gV E t tk):=by
 refine⟨λpins s σ H Q I h=> ?_⟩
 refine wpAny_Call_Name_kw (ld_glob I hg hm ?_ hdb)
 refine PySem.W.callWith_KW (h₀:=X.base) I.ok.mod.kin M.kp hall (thn (ha.run pos pins s σ H _ I h) λus s1 ⟨vs,H1,I1,r,q⟩=> ?_) hpl he
 refine thn (hkw.run pos pins s1 σ H1 _ I1 q) λws s2 ⟨zs,H2,I2,rz,l1,l2,q2⟩=>⟨I2.kIn,?_⟩
 rw[hks]
 exact gI M F hr hb (hx σ) I2 r rz l1 l2 q2
theorem nT(M:Mk X.K C f)(F:FnOk X.prog X.w X.K X.mg X.base CX k f fd ps sp)(hr:Room (k+1) X.A)(hg:Gl X x)(hm:X.mg x=some (.ref C))(hb:KBn X.K fd ps 1 ks g gV)(hx:∀σ,PassesAt CX X σ (E σ))(hkw:PK X kws tk)
  (hall:(backToKw pos (keywordEach kws X.env)).all (·.1.isSome)=true:=by rfl) (hks:(backToKw pos (keywordEach kws X.env)).filterMap (·.1)=ks:=by rfl) (hdb:(x == ("__debug__":Str))=false:=by decide)
  (hpl:((backTo pos (starEach [] X.env)).any (·.1) || (backToKw pos (keywordEach kws X.env)).any (·.1.isNone))=false:=by rfl) :
  PE X (.Call (.Name x p) [] kws pos) (l8 C 0 ks.length sp gV E tNil tk):=by
 refine⟨λpins s σ H Q I h=> ?_⟩
 refine wpAny_Call_Name_kw (ld_glob I hg hm ?_ hdb)
 refine PySem.W.callWith_KW0 (h₀:=X.base) I.ok.mod.kin M.kp hall ?_ hpl
 refine thn (hkw.run pos pins s σ H _ I h) λws s2 ⟨zs,H2,I2,rz,l1,l2,q2⟩=>⟨I2.kIn,?_⟩
 rw[hks]
 exact gI (us:=[]) (vs:=[]) M F hr hb (hx σ) I2 .nil rz rfl l2 q2
/-- a new object by the class's __init__ -/
def fi(n m:Nat)(gD:List D->List D->List D)(ev:pT)(ar:Ea):Cv:=λfr hb=>match ar fr hb with
 | some (.inl (ds,es),hb1)=>if av ds && av es && decide (ds.length=n) && decide (es.length=m) then ev (gD ds es) hb1 else none
 | some (.inr x,hb1)=>some (.inr x,hb1)
 | none=>none
theorem nH{c:String}{ev:pT}{gD:List D->List D->List D}{gV2:List V->List V->List V}{evs evks:Evs}{m':Nat}(hgv:∀v vs zs,vs.length=n->zs.length=m'->gV (v::vs) zs=v::gV2 vs zs)
  (hrel:∀{B:Addr->Prop} {m:List Addr} {H:Hp} {ds es:List D} {vs zs:List V},ds.length=n->es.length=m'->RelDs X.K B m H ds vs->RelDs X.K B m H es zs->RelDs X.K B m H (gD ds es) (gV2 vs zs)/\(gD ds es).length+1=ps.length)
  {σ:St} {H:Hp} {Q:VK} (h:tC' X.K W (fi n m' gD ev (dR evs evks)) σ H Q):l8 (He.ga X.K c) n m' (spI X.K c ps.length ev) gV (λσ=>WE W σ) (tEs X.K W evs) (tEs X.K W evks) σ H Q:=by
 obtain⟨M,m,hb,fr,r,hb',at_,e,cc⟩:=h
 unfold fi at e
 show tEs X.K W evs σ H λvs H1=>tEs X.K W evks σ H1 λzs H2=>vs.length=n/\zs.length=m'/\_
 split at e
 .rename_i ds es hb1 e1
  split at e
  .rename_i hz
   rw[Bool.and_eq_true,Bool.and_eq_true,Bool.and_eq_true] at hz
   obtain⟨⟨⟨h1,h2⟩,h3⟩,h4⟩:=hz
   have h3':=of_decide_eq_true h3
   have h4':=of_decide_eq_true h4
   refine j8 at_ e1 λm1 H1 vs zs s1 a1 rv rz=> ?_
   have l1:vs.length=n:=by rw[rv.len]; exact h3'
   have l2:zs.length=m':=by rw[rz.len]; exact h4'
   refine⟨l1,l2,λx dx hx hdx hne=> ?_⟩
   obtain⟨rr,rl⟩:=hrel h3' h4' (rv.val h1) (rz.val h2)
   refine⟨M,m1,H1,x,dx,hb1,gD ds es,gV2 vs zs,r,hb',hgv _ vs zs l1 l2,rfl,hx,hdx,hne,rl,a1.wd,rr,e,?_⟩
   cases r with
   | inl o =>
    intro m2 H2 t ro
    refine⟨rfl,cc m2 H2 x ?_ ro⟩
    obtain⟨l3,q3⟩:=s1.pre
    obtain⟨l4,q4⟩:=t.pre
    refine⟨⟨l3++l4,by rw[q4,q3,List.append_assoc]⟩,λa ha hn=> ?_,λa o q hn=> ?_,t.wd,s1.free hx at_.wd⟩
    .by_cases h5:a∈m1
     .exact s1.new a h5 hn
     .have:=t.new a ha h5
      cases q:H a with
      | none=>rfl
      | some o=>have z:=s1.fr a o q hn; rw[this] at z; cases z
    .refine t.fr a o (s1.fr a o q hn) λz=> ?_
     have:=s1.new a z hn
     rw[q] at this; cases this
   | inr x =>
    intro m2 H2 t C dd rx
    exact cc m2 H2 (s1.trans t) C dd rx
  .cases e
 .rename_i x hb1 e1
  cases e
  exact j8 at_ e1 λm1 H1 s1=>cc m1 H1 s1
 .cases e
theorem gr{c:String}{ev:pT}{gD:List D->List D->List D}{evs evks:Evs}(M:Mk X.K (He.ga X.K c) f)(F:u8 X.prog X.w X.K X.mg X.base k f fd ps c ev)(tk:L2N.Takes X W)(hr:Room (k+1) X.A)(hg:Gl X x)(hm:X.mg x=some (.ref (He.ga X.K c)))
  (hb:KBI X.K fd ps n ks gD) (ha:SEs X W (e::es) evs) (hkw:SKs X W kws evks) (hall:(backToKw pos (keywordEach kws X.env)).all (·.1.isSome)=true:=by rfl) (hks:(backToKw pos (keywordEach kws X.env)).filterMap (·.1)=ks:=by rfl)
  (hdb:(x == ("__debug__":Str))=false:=by decide) (he:starEach (e::es) X.env=(false,eval e X.env)::starEach es X.env:=by rfl)
  (hpl:((backTo pos (starEach (e::es) X.env)).any (·.1) || (backToKw pos (keywordEach kws X.env)).any (·.1.isNone))=false:=by rfl) :
  SC X W (.Call (.Name x p) (e::es) kws pos) (fi n ks.length gD ev (dR evs evks)):=by
 obtain⟨g,gV,gV2,h1,h2,h3⟩:=hb.ex
 exact PE.mono (oy M F hr hg hm h1 (λσ=>L2N.passAt tk σ) ha hkw hall hks hdb he hpl) λσ H Q h=>nH h2 h3 h
theorem p9{c:String}{ev:pT}{gD:List D->List D->List D}{evks:Evs}(M:Mk X.K (He.ga X.K c) f)(F:u8 X.prog X.w X.K X.mg X.base k f fd ps c ev)(tk:L2N.Takes X W)(hr:Room (k+1) X.A)(hg:Gl X x)(hm:X.mg x=some (.ref (He.ga X.K c)))
  (hb:KBI X.K fd ps 0 ks gD) (hkw:SKs X W kws evks) (hall:(backToKw pos (keywordEach kws X.env)).all (·.1.isSome)=true:=by rfl) (hks:(backToKw pos (keywordEach kws X.env)).filterMap (·.1)=ks:=by rfl) (hdb:(x == ("__debug__":Str))=false:=by decide)
  (hpl:((backTo pos (starEach [] X.env)).any (·.1) || (backToKw pos (keywordEach kws X.env)).any (·.1.isNone))=false:=by rfl) :
  SC X W (.Call (.Name x p) [] kws pos) (fi 0 ks.length gD ev (dR al evks)):=by
 obtain⟨g,gV,gV2,h1,h2,h3⟩:=hb.ex
 refine PE.mono (nT M F hr hg hm h1 (λσ=>L2N.passAt tk σ) hkw hall hks hdb hpl) λσ H Q h=> ?_
 obtain⟨M',m,hb,fr,r,hb',w,f',e,cc⟩:=nH (evs:=al) h2 h3 h
 cases e
 exact cc m H (Stp.refl w) [] rfl
end
end
section
def i9(fr:Fr)(hb:HB):D->Option (String×List String×List D)
 | .ins c fs vs=>some (c,fs,vs)
 | d=>match rdO fr hb d with
  | some (.ins c fs vs)=>some (c,fs,vs)
  | _=>none
theorem cG{K:PySem.W.Frag}{M:Addr->Prop}{m:List Addr}{H:Hp}{hb:HB}{fr:Fr}{σ:St}{d:D}{v:V}{c:String}{fs:List String}{ds:List D}(a:At K M m H hb fr σ)(r:RelT K M m H fr σ d v)(e:i9 fr hb d=some (c,fs,ds)) :
  ∃p dx vs,v=.ref p/\H p=some (.ins (He.ga K c) dx ((fs.map Str.ofString).zip vs))/\fs.length=vs.length/\RelDs K (Bd M m) m H ds vs:=by
 unfold i9 at e
 split at e
 .cases e
  have r':RelD K (Bd M m) m H (.ins c fs ds) v:=r
  unfold RelD at r'
  obtain⟨p,dx,vs,rfl,_,f,l,r⟩:=r'
  exact⟨p,dx,vs,rfl,f,l,r⟩
 .split at e
  .rename_i e1
   cases e
   obtain⟨p,rfl,_,dx,vs,f,l,r⟩:=kq a r e1
   exact⟨p,dx,vs,rfl,f,l,r⟩
  .cases e
theorem cu{s t:String}(h:Str.ofString s=Str.ofString t):s=t:=by
 rw[ej,ej] at h
 exact String.toList_inj.mp (kc h)
def pX:List String->List D->String->Option D
 | g::fs,v::vs,f=>if g=f then some v else pX fs vs f
 | _,_,_=>none
theorem mS{K:PySem.W.Frag}{B:Addr->Prop}{m:List Addr}{H:Hp}{f:String}:∀{fs:List String} {ds:List D} {vs:List V} {d:D},RelDs K B m H ds vs->pX fs ds f=some d->∃v,((fs.map Str.ofString).zip vs).lookup (Str.ofString f)=some v/\RelD K B m H d v
 | [],ds,vs,d,r,e=>by cases ds<;>cases e
 | g::fs,[],vs,d,r,e=>by cases e
 | g ::fs,x::ds,vs,d,r,e=>by
  obtain⟨v,w,rfl,r1,r2⟩:=RelDs.cons_inv r
  unfold pX at e
  rw[List.map_cons,List.zip_cons_cons,List.lookup_cons]
  by_cases h:g=f
  .subst h
   rw[if_pos rfl] at e
   cases e
   exact⟨v,by simp,r1⟩
  .rw[if_neg h] at e
   obtain⟨u,e1,r3⟩:=mS r2 e
   have:(Str.ofString f == Str.ofString g)=false:=by
    rw[beq_eq_false_iff_ne]
    exact λz=>h (cu z).symm
   rw[this]
   exact⟨u,e1,r3⟩
theorem kf{f:String}:∀{fs:List String} {vs:List V},fs.contains f=false->((fs.map Str.ofString).zip vs).lookup (Str.ofString f)=none
 | [],_,_=>rfl
 | g::fs,[],_=>by simp
 | g ::fs,v::vs,h=>by
  rw[List.contains_cons,Bool.or_eq_false_iff] at h
  rw[List.map_cons,List.zip_cons_cons,List.lookup_cons]
  have:(Str.ofString f == Str.ofString g)=false:=by
   rw[beq_eq_false_iff_ne]
   intro z
   have:=cu z
   subst this
   simp at h
  rw[this]
  exact kf h.2
/-- facts of the classes whose objects are asked for f -/
def vJ(K:PySem.W.Frag)(cs:List String)(f:String):Prop:=∀c∈cs,Cls K (He.ga K c)/\NoAttr K (He.ga K c) f
def eW(cs:List String)(f:String):D->Ev:=λd fr hb=>match i9 fr hb d with
 | some (c,fs,vs)=>if cs.contains c then (match pX fs vs f with
  | some x=>some (.ok x,hb)
  | none=>none) else none
 | none=>none
section
variable {X:Cx} {W:WX} {G:Gh} {e o:Expr} {ev evo eve:Ev} {pos pos' apos:Pos} {es:List Expr} {evs:Evs}
theorem bU{cs:List String}{f:String}{fn:Str}(he:SE X W e ev)(hF:vJ X.K cs f)(hf:fn=Str.ofString f:=by rfl)(hb:attributeBase e fn X.env (eval e X.env)=eval e X.env:=by rfl):SE X W (.Attribute e fn pos) (ay ev (eW cs f)):=by
 subst hf
 refine PE.mono (pe_fld he hb) λσ H Q h=> ?_
 show tE X.K W ev σ H λx H1=>∃a C dx fs v,x=.ref a/\H1 a=some (.ins C dx fs)/\Cls X.K C/\NoAttr X.K C (Str.ofString f)/\fs.lookup (Str.ofString f)=some v/\Q v H1
 refine bT h λ{M m hb fr x vx H2 r hb'} a rx e c=> ?_
 unfold eW at e
 split at e
 .rename_i c0 fs vs e1
  split at e
  .rename_i hc
   split at e
   .rename_i d e2
    cases e
    obtain⟨p,dx,ws,rfl,f1,l,r⟩:=cG a rx e1
    obtain⟨v,e3,rv⟩:=mS r e2
    obtain⟨g1,g2⟩:=hF c0 (by simpa using hc)
    exact⟨p,_,dx,_,v,rfl,f1,g1,g2,e3,c.done a rv.t⟩
   .cases e
  .cases e
 .cases e
def bw:List String->List D->String->D->List String×List D
 | g::fs,v::vs,f,d=>if g=f then (g::fs,d::vs) else (g::(bw fs vs f d).1,v::(bw fs vs f d).2)
 | _,_,f,d=>([f],[d])
theorem j7{K:PySem.W.Frag}{B:Addr->Prop}{m:List Addr}{H:Hp}{f:String}{d:D}{v:V}(rd:RelD K B m H d v):∀{fs:List String} {ds:List D} {vs:List V},fs.length=vs.length->RelDs K B m H ds vs ->
  ∃ws,putF (Str.ofString f) v ((fs.map Str.ofString).zip vs)=((bw fs ds f d).1.map Str.ofString).zip ws/\(bw fs ds f d).1.length=ws.length/\RelDs K B m H (bw fs ds f d).2 ws
 | [],ds,vs,hl,r=>by
  have:vs=[]:=List.eq_nil_of_length_eq_zero hl.symm
  subst this
  refine⟨[v],?_,?_,?_⟩<;>cases ds<;>first|rfl|exact RelDs.cons rd RelDs.nil'
 | g::fs,[],vs,hl,r=>by
  obtain rfl:=RelDs.nil_iff.mp r
  simp at hl
 | g ::fs,x::ds,vs,hl,r=>by
  obtain⟨w,ws,rfl,r1,r2⟩:=RelDs.cons_inv r
  by_cases h:g=f
  .subst h
   refine⟨v::ws,?_,?_,?_⟩
   .unfold bw putF
    simp
   .unfold bw
    simpa using hl
   .unfold bw
    rw[if_pos rfl]
    exact RelDs.cons rd r2
  .obtain⟨us,e1,e2,e3⟩:=j7 (f:=f) rd (fs:=fs) (by simpa using hl) r2
   have hne:¬Str.ofString g=Str.ofString f:=λz=>h (cu z)
   refine⟨w::us,?_,?_,?_⟩
   .unfold bw
    rw[if_neg h,List.map_cons,List.zip_cons_cons,List.map_cons,List.zip_cons_cons]
    unfold putF
    rw[if_neg hne,e1]
   .unfold bw
    rw[if_neg h]
    simpa using e2
   .unfold bw
    rw[if_neg h]
    exact RelDs.cons r1 e3
def eJ(cs:List String)(f:String)(eve evo:Ev):Sv:=λfr hb=>match eve fr hb with
 | some (.ok d,hb1)=>if d.isVal then (match evo fr hb1 with
  | some (.ok x,hb2)=>(match rdO fr hb2 x with
   | some (.ins c fs vs)=>if cs.contains c && decide (fs.length<1000) then some (.nx (wrO x (.ins c (bw fs vs f d).1 (bw fs vs f d).2) fr hb2).1,(wrO x (.ins c (bw fs vs f d).1 (bw fs vs f d).2) fr hb2).2) else none
   | _=>none)
  | some (.exn z,hb2)=>some (.ex z,hb2)
  | none=>none) else none
 | some (.exn z,hb1)=>some (.ex z,hb1)
 | none=>none
theorem fT{cs:List String}{f:String}{fn:Str}(he:SE X W e eve)(ho:SE X W o evo)(hF:vJ X.K cs f)(hf:fn=Str.ofString f:=by rfl)(hs:swapsWith e (some (.Attribute o fn pos')) pos.line X.env=pure false:=by rfl) :
  SS X W G (.Assign [.Attribute o fn pos'] e pos) (eJ cs f eve evo):=by
 subst hf
 refine PS.mono (ps_fld ho he hs) λD σ H h=> ?_
 obtain⟨m,hb,fr,r,hb',s,e,c⟩:=h
 unfold eJ at e
 show tE X.K W eve σ H λy H1=>tE X.K W evo σ H1 λx H2=>∃a C dx fs,x=.ref a/\H2 a=some (.ins C dx fs)/\Cls X.K C/\NoAttr X.K C (Str.ofString f)/\fs.length<1000/\D.nx σ (upd H2 a (.ins C dx (putF (Str.ofString f) y fs)))
 split at e
 .rename_i d hb1 e1
  split at e
  .rename_i hd
   refine s.ev' e1 λm1 H1 v s1 k1 t1 rv=> ?_
   split at e
   .rename_i x hb2 e2
    refine s1.ev' e2 λm2 H2 vo s2 k2 t2 ro=> ?_
    split at e
    .rename_i c0 fs vs e3
     split at e
     .rename_i hz
      rw[Bool.and_eq_true] at hz
      cases e
      obtain⟨p,rfl,rb,hB,hwr⟩:=s2.wr (o':=.ins c0 (bw fs vs f d).1 (bw fs vs f d).2) ro e3
      obtain⟨dx,ws,f1,l,rds⟩:=rb
      obtain⟨us,g1,g2,g3⟩:=j7 (f:=f) ((rv.keep t2).val hd) l rds
      obtain⟨c1,c2⟩:=hF c0 (by simpa using hz.1)
      refine⟨p,_,dx,_,rfl,f1,c1,c2,?_,?_⟩
      .rw[List.length_zip,List.length_map]
       have:=of_decide_eq_true hz.2
       omega
      .rw[g1]
       obtain⟨s3,k3⟩:=hwr (.ins (He.ga X.K c0) dx (((bw fs vs f d).1.map Str.ofString).zip us)) ⟨dx,us,upd_same,g2,g3.wr hB⟩
       exact c m2 _ σ s3 (k1.trans (k2.trans k3))
     .cases e
    .cases e
   .rename_i z hb2 e2
    cases e
    exact s1.ev' e2 λm2 H2 C dd s2 k2 rx=>c m2 H2 σ fr C dd s2 (k1.trans k2) rx
   .cases e
  .cases e
 .rename_i z hb1 e1
  cases e
  exact s.ev' e1 λm1 H1 C dd s1 k1 rx=>c m1 H1 σ fr C dd s1 k1 rx
 .cases e
def kS(c:String)(ev:a6):D->Ev:=λd fr hb=>if d.isVal then (match i9 fr hb d with
 | some (c',_,_)=>if c'=c then (match ev [d] hb with
  | some (.ok x,hb1)=>some (.ok x,hb1)
  | _=>none) else none
 | none=>none) else none
theorem rp{c f:String}{fn:Str}{k:Nat}{p g:Addr}{fd:FuncData}{ps:List Str}{fev:a6}(he:SE X W e ev)(cl:Cls X.K (He.ga X.K c))(hp:PropOf X.K (He.ga X.K c) f p g)(F:FOk X.prog X.w X.K X.mg X.base k g fd ps fev)(hr:Room (k+1) X.A)(hb:Binds X.K fd ps [])(hl:ps.length=1)
  (hf:fn=Str.ofString f:=by rfl) (hab:attributeBase e fn X.env (eval e X.env)=eval e X.env:=by rfl):SE X W (.Attribute e fn pos) (ay ev (kS c fev)):=by
 subst hf
 refine PE.mono (pe_prop (E:=E0) he cl hp F hr hb .nil ql hab) λσ H Q h=> ?_
 show tE X.K W ev σ H λx H1=>∃a dx fs,x=.ref a/\H1 a=some (.ins (He.ga X.K c) dx fs)/\spF X.K ps.length fev (.ref a::[]) H1 Q E0
 refine bT h λ{M m hb fr x vx H2 r hb'} a rx e cc=> ?_
 unfold kS at e
 split at e
 .rename_i hv
  split at e
  .rename_i c' fs vs e1
   split at e
   .rename_i hc
    subst hc
    split at e
    .rename_i d hb1 e2
     cases e
     obtain⟨q,dx,ws,rfl,f1,l,rr⟩:=cG a rx e1
     refine⟨q,dx,_,rfl,f1,M,m,hb,[x],.ok d,_,by rw[hl]; rfl,a.wd,RelDs.cons (rx.val hv) RelDs.nil',e2,λm' H' s' v rv=>cc m' H' s' v rv.t⟩
    .cases e
   .cases e
  .cases e
 .cases e
def fN(C:Addr)(m:Str)(sp:Sp)(E:St->XK)(ta:TE)(t:TA):TE:=λσ H Q=>ta σ H λx H1=>∃a dx fs,x=.ref a/\H1 a=some (.ins C dx fs)/\fs.lookup m=none/\t σ H1 λvs H2=>sp (x::vs) H2 Q (E σ)
theorem iE{CX:CXT}{k:Nat}{f C:Addr}{fd:FuncData}{ps:List Str}{sp:Sp}{E:St->XK}{m:Str}{ta:TE}{t:TA}{pl:Sem Bool}(he:PE X o ta)(c:Cls X.K C)(hm:Meth X.K C m f)
  (F:FnOk X.prog X.w X.K X.mg X.base CX k f fd ps sp) (hr:Room k X.A) (hb:Binds X.K fd ps []) (hx:∀σ,PassesAt CX X σ (E σ)) (ha:PA X (e::es) t)
  (hst:starEach (e::es) X.env=(false,eval e X.env)::starEach es X.env:=by rfl) (hpl:(backTo pos (starEach es X.env)).any (·.1)=false:=by rfl)
  (ht:eval (.Call (.Attribute o m apos) (e::es) [] pos) X.env=(do
   let ov <-eval o X.env
   standAt apos.atName
   let (f,first) <-holding [ov] (getMethod ov m pl)
   callWith pos f first (backTo pos (starEach (e::es) X.env)) (backToKw pos (keywordEach [] X.env))):=by rfl) :
  PE X (.Call (.Attribute o m apos) (e::es) [] pos) (fN C m sp E ta t):=by
 refine⟨λpins s σ H Q I h=> ?_⟩
 refine PySem.W.methodCall_KW (pl:=pl) (thn (he.run pins s σ H _ I h) λu s1 ⟨x,H1,I1,rx,a,dx,fs,ex,ea,l,q⟩=> ?_) ht
 subst ex
 obtain rfl:u=Value.ref a:=rx
 refine getmeth_ok I1 ea c hm l ?_
 refine PySem.W.callWith_K (first:=[.ref a]) (h₀:=X.base) I.ok.mod.kin hm.kp (thn (ha.run pos pins s1 σ H1 _ I1 q) λus s2 ⟨vs,H2,I2,r,q2⟩=>⟨I2.kIn,?_⟩) hst hpl
 exact run_fnS (us:=.ref a::us) (vs:=.ref a::vs) F hr hb (hx σ) I2 (.cons rfl r) q2
theorem fH{CX:CXT}{k:Nat}{f C:Addr}{fd:FuncData}{ps:List Str}{sp:Sp}{E:St->XK}{m:Str}{ta:TE}{pl:Sem Bool}(he:PE X o ta)(c:Cls X.K C)(hm:Meth X.K C m f)
  (F:FnOk X.prog X.w X.K X.mg X.base CX k f fd ps sp) (hr:Room k X.A) (hb:Binds X.K fd ps []) (hx:∀σ,PassesAt CX X σ (E σ))
  (ht:eval (.Call (.Attribute o m apos) [] [] pos) X.env=(do
   let ov <-eval o X.env
   standAt apos.atName
   let (f,first) <-holding [ov] (getMethod ov m pl)
   callWith pos f first (backTo pos (starEach [] X.env)) (backToKw pos (keywordEach [] X.env))):=by rfl) :
  PE X (.Call (.Attribute o m apos) [] [] pos) (fN C m sp E ta tNil):=by
 refine⟨λpins s σ H Q I h=> ?_⟩
 refine PySem.W.methodCall_KW (pl:=pl) (thn (he.run pins s σ H _ I h) λu s1 ⟨x,H1,I1,rx,a,dx,fs,ex,ea,l,q⟩=> ?_) ht
 subst ex
 obtain rfl:u=Value.ref a:=rx
 refine getmeth_ok I1 ea c hm l ?_
 exact PySem.W.callWith_K0 (first:=[.ref a]) I1.kIn hm.kp (run_fnS (us:=[.ref a]) (vs:=[.ref a]) F hr hb (hx σ) I1 (.cons rfl .nil) q)
def gy(c m:String)(n:Nat)(ev:a6)(o:Ev)(es:Evs):Ev:=ay o λd fr hb=>if d.isVal then (match i9 fr hb d with
 | some (c',fs,_)=>if c'=c && !fs.contains m then eL (λds _ hb=>if av ds && decide (ds.length+1=n) then ev (d::ds) hb else none) es fr hb else none
 | none=>none) else none
theorem mK{c m:String}{n:Nat}{fev:a6}{σ:St}{H:Hp}{Q:VK}(h:tE X.K W (gy c m n fev evo evs) σ H Q):fN (He.ga X.K c) (Str.ofString m) (spF X.K n fev) (λσ=>WE W σ) (tE X.K W evo) (tEs X.K W evs) σ H Q:=by
 obtain⟨M,m0,hb,fr,r0,hb',a,e0,cc⟩:=dh h
 show tE X.K W evo σ H λx H1=>∃a dx fs,x=.ref a/\H1 a=some (.ins (He.ga X.K c) dx fs)/\fs.lookup (Str.ofString m)=none/\tEs X.K W evs σ H1 λvs H2=>spF X.K n fev (x::vs) H2 Q (WE W σ)
 refine cp a e0 cc λm1 H1 hb1 d v s1 a1 rx e1 c1=> ?_
 split at e1
 .rename_i hv
  split at e1
  .rename_i c' fs vs e2
   split at e1
   .rename_i hc
    rw[Bool.and_eq_true,Bool.not_eq_true'] at hc
    have hc1:=of_decide_eq_true hc.1
    subst hc1
    obtain⟨q,dx,ws,rfl,f1,l,rr⟩:=cG a1 rx e2
    refine⟨q,dx,_,rfl,f1,kf hc.2,?_⟩
    unfold eL at e1
    split at e1
    .rename_i ds hb2 e3
     refine⟨M,m1,hb1,fr,.inl ds,hb2,a1.wd,a1.fr,e3,λm2 H2 s2 us rv=> ?_⟩
     dsimp only at e1
     split at e1
     .rename_i hz
      rw[Bool.and_eq_true] at hz
      have a2:=a1.step s2
      have z:=lI (n:=n) a2 (by simpa using of_decide_eq_true hz.2) (RelDs.cons ((rx.keep s2).val hv) (rv.val hz.1)) e1 (c1.step s2)
      exact z
     .cases e1
    .rename_i x hb2 e3
     cases e1
     exact⟨M,m1,hb1,fr,.inr x,_,a1.wd,a1.fr,e3,λm2 H2 s2=>c1 m2 H2 s2⟩
    .cases e1
   .cases e1
  .cases e1
 .cases e1
variable {m:Str} {c mn:String} {k:Nat} {f:Addr} {fd:FuncData} {ps:List Str} {fev:a6} {pl:Sem Bool}
theorem mU(he:SE X W o evo)(cl:Cls X.K (He.ga X.K c))(hm:Meth X.K (He.ga X.K c) m f)(F:FOk X.prog X.w X.K X.mg X.base k f fd ps fev)(tk:L2N.Takes X W)(hr:Room k X.A)(hb:Binds X.K fd ps [])(ha:SEs X W (e::es) evs)(hmn:m=Str.ofString mn:=by rfl)
  (hst:starEach (e::es) X.env=(false,eval e X.env)::starEach es X.env:=by rfl) (hpl:(backTo pos (starEach es X.env)).any (·.1)=false:=by rfl)
  (ht:eval (.Call (.Attribute o m apos) (e::es) [] pos) X.env=(do
   let ov <-eval o X.env
   standAt apos.atName
   let (f,first) <-holding [ov] (getMethod ov m pl)
   callWith pos f first (backTo pos (starEach (e::es) X.env)) (backToKw pos (keywordEach [] X.env))):=by rfl) :
  SE X W (.Call (.Attribute o m apos) (e::es) [] pos) (gy c mn ps.length fev evo evs):=by
 subst hmn
 exact PE.mono (iE (pl:=pl) he cl hm F hr hb (λσ=>L2N.passAt tk σ) ha hst hpl ht) λσ H Q h=>mK h
theorem jT(he:SE X W o evo)(cl:Cls X.K (He.ga X.K c))(hm:Meth X.K (He.ga X.K c) m f)(F:FOk X.prog X.w X.K X.mg X.base k f fd ps fev)(tk:L2N.Takes X W)(hr:Room k X.A)(hb:Binds X.K fd ps [])(hmn:m=Str.ofString mn:=by rfl)
  (ht:eval (.Call (.Attribute o m apos) [] [] pos) X.env=(do
   let ov <-eval o X.env
   standAt apos.atName
   let (f,first) <-holding [ov] (getMethod ov m pl)
   callWith pos f first (backTo pos (starEach [] X.env)) (backToKw pos (keywordEach [] X.env))):=by rfl) :
  SE X W (.Call (.Attribute o m apos) [] [] pos) (gy c mn ps.length fev evo al):=by
 subst hmn
 refine PE.mono (fH (pl:=pl) he cl hm F hr hb (λσ=>L2N.passAt tk σ) ht) λσ H Q h=> ?_
 have z:=mK h
 show tE X.K W evo σ H λx H1=>∃a dx fs,x=.ref a/\H1 a=some (.ins (He.ga X.K c) dx fs)/\fs.lookup (Str.ofString mn)=none/\spF X.K ps.length fev [x] H1 Q (WE W σ)
 obtain⟨M,m,hb,fr,r,hb',w,f,e,cc⟩:=z
 refine⟨M,m,hb,fr,r,hb',w,f,e,λm1 H1 s1=> ?_⟩
 have z:=cc m1 H1 s1
 cases r with
 | exn x=>exact z
 | ok d =>
  intro v rv
  obtain⟨a,dx,fs,h1,h2,h3,M2,m2,hb2,fr2,r2,hb3,w2,f2,e2,c2⟩:=z v rv
  cases e2
  exact⟨a,dx,fs,h1,h2,h3,c2 m2 H1 (Stp.refl w2) [] rfl⟩
end
end
section
theorem ah{X:Cx}{sc:Scope}{x:Str}(h:X.env.scope=sc)(hk:sc.names.lookup x=some .globalImplicit):Gl X x:=by
 show X.env.scope.names.lookup x=_
 rw[h]; exact hk
def uu(sc:Scope)(x:Str):Bool:=match sc.names.lookup x with
 | some .local=>true
 | some .cell=>true
 | some .free=>true
 | _=>false
def sG(sc:Scope)(x:Str):Bool:=match sc.names.lookup x with
 | some .local=>true
 | some .cell=>true
 | _=>false
theorem mf{sc:Scope}{x:Str}(h:uu sc x=true):Vis sc x:=by
 unfold uu at h
 split at h
 .exact .inl ‹_›
 .exact .inr (.inl ‹_›)
 .exact .inr (.inr ‹_›)
 .cases h
theorem rg{sc:Scope}{x:Str}(h:sG sc x=true):Loc sc x:=by
 unfold sG at h
 split at h
 .exact .inl ‹_›
 .exact .inr ‹_›
 .cases h
theorem tX{X:Cx}{sc:Scope}{x:Str}(h:X.env.scope=sc)(hk:uu sc x=true):Vis X.env.scope x:=by rw[h]; exact mf hk
theorem aQ{X:Cx}{sc:Scope}{x:Str}(h:X.env.scope=sc)(hk:sG sc x=true):Loc X.env.scope x:=by rw[h]; exact rg hk
theorem aX{scope:Scope}{env:Env}{x:Str}:(relabel scope env).names.lookup x=scope.names.lookup x\/(scope.names.lookup x=some .free/\(relabel scope env).names.lookup x=some .cell):=by
 unfold relabel
 show(scope.names.map _).lookup x=_\/_
 induction scope.names with
 | nil=>exact .inl rfl
 | cons p r ih =>
  obtain⟨n,k⟩:=p
  rw[List.map_cons]
  by_cases hx:x=n
  .subst hx
   dsimp only
   split
   .rename_i hc
    rw[Bool.and_eq_true,Bool.and_eq_true] at hc
    have hk:k=.free:=by simpa using hc.1.1
    subst hk
    exact .inr ⟨by simp,by simp[List.lookup_cons]⟩
   .exact .inl (by simp[List.lookup_cons])
  .have hb:(x == n)=false:=by simpa using hx
   have e1:∀(k':NameKind) (l:List (Str×NameKind)),List.lookup x ((n,k')::l)=List.lookup x l:=λk' l=>by rw[List.lookup_cons,hb]
   dsimp only
   split
   .rw[e1,e1]; exact ih
   .rw[e1,e1]; exact ih
section
variable {X:Cx} {s:Shared} {H:Hp} {scope:Scope} {cl:List (Str×Addr)} {C:Addr} {fp:List Addr} {x:Str}
theorem cz(hk:scope.names.lookup x=some .globalImplicit):Gl (X.blk s H scope (compEnvC scope cl C X.env) fp) x:=by
 show(relabel scope X.env).names.lookup x=_
 rcases aX (scope:=scope) (env:=X.env) (x:=x) with e|⟨e,_⟩
 .rw[e]; exact hk
 .rw[hk] at e; cases e
theorem aB(hk:uu scope x=true):Vis (X.blk s H scope (compEnvC scope cl C X.env) fp).env.scope x:=by
 show Vis (relabel scope X.env) x
 rcases aX (scope:=scope) (env:=X.env) (x:=x) with e|⟨_,e⟩
 .have z:=mf hk
  unfold Vis at z ⊢
  rw[e]; exact z
 .exact .inr (.inl e)
theorem sU(hk:scope.names.lookup x=some .local):(X.blk s H scope (compEnvC scope cl C X.env) fp).env.scope.names.lookup x=some .local:=by
 show(relabel scope X.env).names.lookup x=_
 rcases aX (scope:=scope) (env:=X.env) (x:=x) with e|⟨e,_⟩
 .rw[e]; exact hk
 .rw[hk] at e; cases e
end
end
section
section
variable {X:Cx} {W:WX} {a b:Expr} {eva evb:Ev} {pos:Pos}
def wW:D->Ev:=λx fr hb=>match x with
 | .int i=>some (.ok (.int (-i)),hb)
 | _=>none
end
end
section
section
variable {X:Cx} {W:WX} {pins:List (Addr×Obj)} {σ:St} {H:Hp} {s:Shared} {k:Nat} {C g:Addr} {fd:FuncData} {ps:List Str} {sp:Sp}
theorem eY{A:Around}{E':Value->Shared->Prop}{Q:VK}{us:List Value}{vs:List V}(F:FnOk X.prog X.w X.K X.mg X.base (L2N.CX X.prog X.w) k g fd ps sp)(hr:Room k A)(e0:Env0 X.prog X.w X.K X.mg X.base A X.stack s H)(hb:Binds X.K fd ps [])(I:Inv X pins σ H s)(r:Vals vs us)(h:sp vs H Q E0) :
  wpAny (model X.prog X.w) A (call (.ref g) us) (EP X pins σ Q) E' s:=by
 have hl:us.length=ps.length:=by rw[<-r.length]; exact F.len _ _ _ _ h
 have hb':=hb s us I.kIn (by rw[List.append_nil]; exact hl)
 rw[List.append_nil] at hb'
 refine wpAny_call (codeAny_mono (F.run A X.stack s H ⟨us,[]⟩ us vs Q E0 hr e0 hb' r h) λr s' hq=> ?_)
 cases r with
 | error e=>exact False.elim (ql (X:=X.nox) pins σ H s e s' (I.wish _) hq)
 | ok fl =>
  cases fl with
  | ret u=>exact I.after hq
  | next=>exact False.elim hq
  | brk=>exact False.elim hq
  | cont=>exact False.elim hq
/-- the method named n of the class at C is the def at g -/
structure Dun (K:PySem.W.Frag) (C g:Addr) (n:Str):Prop where
 at_:PySem.W.findIn K (.ref C) n=some (some (.ref g))
 fn:PySem.W.isFn K (.ref g)=true
theorem Meth.dun{K:PySem.W.Frag}{C g:Addr}{n:Str}(m:Meth K C n g):Dun K C g n:=⟨m.at_,m.fn⟩
def uM(C:Addr)(sp:Sp):List V->Hp->VK->Prop:=λxs H Q=>∃a dx fs,xs=[V.ref a]/\H a=some (.ins C dx fs)/\sp [.ref a] H (λz H'=>∃n:Int,z=.int n/\0<=n/\n<2 ^ 63/\Q (.int n) H') E0
theorem re(hd:Dun X.K C g "__len__")(F:FnOk X.prog X.w X.K X.mg X.base (L2N.CX X.prog X.w) k g fd ps sp)(hr:Room (k+1) X.A)(hb:Binds X.K fd ps []):CallR X (.builtin "len") (uM C sp):=by
 intro pins s σ H xs us Q I r h
 obtain⟨a,dx,fs,rfl,ea,q⟩:=h
 obtain rfl:=Vals.ref1 r
 obtain⟨mA,O,_,_,_,_⟩:=ins_get I.hok ea
 obtain⟨od,J,_⟩:=O.look
 obtain⟨m,hF⟩:=I.fr
 refine PySem.W.len_K hF I.ok.mod.kin J hd.at_ hd.fn (wpAny_mono (eY (us:=[.ref a]) (vs:=[.ref a]) F hr.in1 I.env0.in1 hb I (.cons rfl .nil) q) (λv s' z=> ?_) λ_ _ x=>x)
 obtain⟨z,H',I',rz,n,rfl,h0,h1,qz⟩:=z
 obtain⟨t,rfl⟩:=rz
 exact⟨⟨h0,h1⟩,.int n,H',I'.tok _,⟨_,rfl⟩,qz⟩
def qi(C:Addr)(sp:Sp):List V->Hp->VK->Prop:=λxs H Q=>∃a dx fs,xs=[V.ref a]/\H a=some (.ins C dx fs)/\sp [.ref a] H (λz H'=>∃n:Str,z=.str n/\Q (.str n) H') E0
theorem pU(hd:Dun X.K C g "__repr__")(F:FnOk X.prog X.w X.K X.mg X.base (L2N.CX X.prog X.w) k g fd ps sp)(hr:Room (k+1) X.A)(hb:Binds X.K fd ps []):CallR X (.builtin "repr") (qi C sp):=by
 intro pins s σ H xs us Q I r h
 obtain⟨a,dx,fs,rfl,ea,q⟩:=h
 obtain rfl:=Vals.ref1 r
 obtain⟨mA,O,_,_,_,_⟩:=ins_get I.hok ea
 obtain⟨od,J,_⟩:=O.look
 obtain⟨m,hF⟩:=I.fr
 refine PySem.W.repr_K hr.in1.units0 hF I.ok.mod.kin J hd.at_ hd.fn (wpAny_mono (eY (us:=[.ref a]) (vs:=[.ref a]) F hr.in1 I.env0.in1 hb I (.cons rfl .nil) q) (λv s' z=> ?_) λ_ _ x=>x)
 obtain⟨z,H',I',rz,n,rfl,qz⟩:=z
 obtain⟨t,rfl⟩:=rz
 exact⟨.str n,H',I',⟨_,rfl⟩,qz⟩
def wA(K:PySem.W.Frag)(C:Addr)(sp:Sp):R2:=λx y H Q=>∃a dx fs t,x=V.ref a/\H a=some (.ins C dx fs)/\TyX K H y t/\PySem.W.notFirst K C t=true/\sp [x,y] H (λz H'=>∃b,z=.bl b/\Q (.bl b) H') E0
theorem qN(hd:Dun X.K C g "__eq__")(F:FnOk X.prog X.w X.K X.mg X.base (L2N.CX X.prog X.w) k g fd ps sp)(hr:Room k X.A)(hb:Binds X.K fd ps []):OpR X (compareOp .Eq) (wA X.K C sp):=by
 intro pins s σ H x y v u Q I rx ry h
 obtain⟨a,dx,fs,t,rfl,ea,ty,nf,q⟩:=h
 obtain rfl:v=Value.ref a:=rx
 obtain⟨mA,O,_,_,_,_⟩:=ins_get I.hok ea
 obtain⟨od,J,_⟩:=O.look
 obtain⟨m,hF⟩:=I.fr
 obtain⟨P,Z,p,hx⟩:=kit_of I ry ty
 refine PySem.W.cmp_K (op:=.Eq) (tb:=t) hr.units0 hF I.ok.mod.kin J (Z.ty _ _ I.kIn p) nf hd.at_ hd.fn ?_
 refine wpAny_mono (eY (us:=[.ref a,u]) (vs:=[.ref a,y]) F hr I.env0 hb I (.cons rfl (.cons ry .nil)) q) (λw s' z=> ?_) λ_ _ x=>x
 obtain⟨z,H',I',rz,b,rfl,qz⟩:=z
 obtain rfl:w=Value.bool b:=rz
 exact⟨.bl b,H',I',rfl,qz⟩
end
end
section
end
section
def lF(c:String)(fev:a6)(d:D)(as:List D)(k:D->HB->Option (R×HB)):Ev:=λfr hb=>if av as && d.isVal then (match i9 fr hb d with
 | some (c',_,_)=>if c'=c then (match fev as hb with
  | some (.ok x,hb1)=>k x hb1
  | _=>none) else none
 | none=>none) else none
theorem jq{c:String}{fev:a6}{d:D}{as:List D}{k:D->HB->Option (R×HB)}{fr:Fr}{hb:HB}{r:R}{hb':HB}(h:lF c fev d as k fr hb=some (r,hb')):av as=true/\d.isVal=true/\(∃fs vs,i9 fr hb d=some (c,fs,vs))/\∃x hb1,fev as hb=some (.ok x,hb1)/\k x hb1=some (r,hb'):=by
 unfold lF at h
 split at h
 .rename_i hv
  rw[Bool.and_eq_true] at hv
  split at h
  .rename_i c' fs vs e1
   split at h
   .rename_i hc
    subst hc
    split at h
    .rename_i x hb1 e2
     exact⟨hv.1,hv.2,⟨fs,vs,e1⟩,x,hb1,e2,h⟩
    .cases h
   .cases h
  .cases h
 .cases h
def vZ(x:D)(hb:HB):Option (R×HB):=match x with
 | .int n=>if decide (0<=n) && decide (n<9223372036854775808) then some (.ok (.int n),hb) else none
 | _=>none
def vX(x:D)(hb:HB):Option (R×HB):=match x with
 | .str n=>some (.ok (.str n),hb)
 | _=>none
def kBl(neg:Bool)(x:D)(hb:HB):Option (R×HB):=match x with
 | .bl b=>some (.ok (.bl (neg != b)),hb)
 | _=>none
def mo(c:String)(fev:a6):List D->Ev:=λds=>match ds with
 | [d]=>lF c fev d [d] vZ
 | _=>λ_ _=>none
def iy(c:String)(fev:a6):List D->Ev:=λds=>match ds with
 | [d]=>lF c fev d [d] vX
 | _=>λ_ _=>none
theorem uf{K:PySem.W.Frag}{c:String}{cs:List String}(h:nfB K c cs=true){t:TyN}(ht:okT cs t=true):PySem.W.notFirst K (He.ga K c) (t.v K)=true:=by
 unfold nfB at h
 rw[Bool.and_eq_true] at h
 cases t with
 | b t=>exact List.all_eq_true.mp h.1 t (by simpa [okT] using ht)
 | o t=>exact List.all_eq_true.mp h.2 t (by simpa [okT] using ht)
def ja(c:String)(cs:List String)(fev:a6):D->D->Ev:=λx y fr hb=>match tyN fr hb y with
 | some t=>if okT cs t then lF c fev x [x,y] (kBl false) fr hb else none
 | none=>none
section
variable {X:Cx} {W:WX} {a b:Expr} {eva evb:Ev} {pos:Pos} {c:String} {k:Nat} {g:Addr} {fd:FuncData} {ps:List Str} {fev:a6}
theorem iq{M:Addr->Prop}{m:List Addr}{H:Hp}{fr:Fr}{σ:St}{d:D}{vs:List V}(r:RelTs X.K M m H fr σ [d] vs):∃v,vs=[v]/\RelT X.K M m H fr σ d v:=by
 obtain⟨v,w,e,h1,h2⟩:=r
 have h2':w=[]:=h2
 subst h2'
 exact⟨v,e,h1⟩
theorem ot(hl:ps.length=1):ig X W (uM (He.ga X.K c) (spF X.K ps.length fev)) (mo c fev):=by
 intro M m hb fr σ H ds vs res hb' Q a rv e cc
 unfold mo at e
 split at e
 .rename_i d
  obtain⟨h1,hv,⟨fs,us,e1⟩,x,hb1,e2,e3⟩:=jq e
  obtain⟨v,rfl,rx⟩:=iq rv
  obtain⟨q,dx,ws,rfl,f1,l,rr⟩:=cG a rx e1
  unfold vZ at e3
  split at e3
  .rename_i n
   split at e3
   .rename_i hz
    rw[Bool.and_eq_true] at hz
    cases e3
    refine⟨q,dx,_,rfl,f1,M,m,hb,[d],.ok (.int n),_,by rw[hl]; rfl,a.wd,RelDs.cons (rx.val hv) RelDs.nil',e2,λm' H' s' v rv=> ?_⟩
    have:v=.int n:=by unfold RelD at rv; exact rv
    subst this
    exact⟨n,rfl,of_decide_eq_true hz.1,of_decide_eq_true hz.2,cc m' H' s' _ rv.t⟩
   .cases e3
  .cases e3
 .cases e
theorem m7(hl:ps.length=1):ig X W (qi (He.ga X.K c) (spF X.K ps.length fev)) (iy c fev):=by
 intro M m hb fr σ H ds vs res hb' Q a rv e cc
 unfold iy at e
 split at e
 .rename_i d
  obtain⟨h1,hv,⟨fs,us,e1⟩,x,hb1,e2,e3⟩:=jq e
  obtain⟨v,rfl,rx⟩:=iq rv
  obtain⟨q,dx,ws,rfl,f1,l,rr⟩:=cG a rx e1
  unfold vX at e3
  split at e3
  .rename_i n
   cases e3
   refine⟨q,dx,_,rfl,f1,M,m,hb,[d],.ok (.str n),_,by rw[hl]; rfl,a.wd,RelDs.cons (rx.val hv) RelDs.nil',e2,λm' H' s' v rv=> ?_⟩
   have:v=.str (au n):=by unfold RelD at rv; exact rv
   subst this
   exact⟨_,rfl,cc m' H' s' _ rv.t⟩
  .cases e3
 .cases e
theorem n6{x y:D}(h:av [x,y]=true):x.isVal=true/\y.isVal=true:=by
 simpa [av] using h
theorem mR{cs:List String}(hk:mQ X.K cs=true)(hn:nfB X.K c cs=true)(hl:ps.length=2):iY X W (wA X.K (He.ga X.K c) (spF X.K ps.length fev)) (ja c cs fev):=by
 intro M m hb fr σ H x y vx vy res hb' Q a rx ry e cc
 unfold ja at e
 split at e
 .rename_i t e0
  split at e
  .rename_i ht
   obtain⟨h1,hv,⟨fs,us,e1⟩,z,hb1,e2,e3⟩:=jq e
   obtain⟨q,dx,ws,rfl,f1,l,rr⟩:=cG a rx e1
   unfold kBl at e3
   split at e3
   .rename_i n
    cases e3
    refine⟨q,dx,_,_,rfl,f1,m6 hk a ry e0 ht,uf hn ht,M,m,hb,[x,y],.ok (.bl n),_,by rw[hl]; rfl,a.wd,RelDs.cons (rx.val hv) (RelDs.cons (ry.val (n6 h1).2) RelDs.nil'),e2,λm' H' s' v rv=> ?_⟩
    have:v=.bl n:=by unfold RelD at rv; exact rv
    subst this
    exact⟨n,rfl,cc m' H' s' _ (by show RelD _ _ _ _ _ _; unfold RelD; cases n<;>rfl)⟩
   .cases e3
  .cases e
 .cases e
theorem n4{cs:List String}(hk:mQ X.K cs=true)(hn:nfB X.K c cs=true)(hd:Dun X.K (He.ga X.K c) g "__eq__")(F:FOk X.prog X.w X.K X.mg X.base k g fd ps fev)(hr:Room k X.A)(hbd:Binds X.K fd ps [])(hl:ps.length=2)(ha:SE X W a eva)(hb:SE X W b evb):SE X W (.Compare a [.Eq] [b] pos) (am (ja c cs fev) eva evb) :=
 nS (qN hd F hr hbd) (mR hk hn hl) ha hb (nobehind _ (by decide) (by decide))
theorem qw{cs:List String}(hk:mQ X.K cs=true)(hn:nfB X.K c cs=true)(hd:Dun X.K (He.ga X.K c) g "__eq__")(F:FOk X.prog X.w X.K X.mg X.base k g fd ps fev)(hr:Room k X.A)(hbd:Binds X.K fd ps [])(hl:ps.length=2)(ha:SE X W a eva)(hb:SE X W b evb):ST X W (.Compare a [.Eq] [b] pos) (am (ja c cs fev) eva evb) :=
 fg (qN hd F hr hbd) (mR hk hn hl) ha hb (nobehind _ (by decide) (by decide))
theorem sE{x:Str}{p:Pos}(hd:Dun X.K (He.ga X.K c) g "__len__")(F:FOk X.prog X.w X.K X.mg X.base k g fd ps fev)(hr:Room (k+1) X.A)(hbd:Binds X.K fd ps [])(hl:ps.length=1)(hg:Gl X x)(hm:X.mg x=none)(hv:bootBuiltins x=some (.builtin "len")){e:Expr}{evs:Evs}(ha:SEs X W [e] evs)
  (he:starEach [e] X.env=(false,eval e X.env)::starEach [] X.env:=by rfl) (hpl:(backTo pos (starEach [] X.env)).any (·.1)=false:=by rfl) (hx:x≠"__name__":=by decide) (hdb:(x == ("__debug__":Str))=false:=by decide):SE X W (.Call (.Name x p) [e] [] pos) (eL (mo c fev) evs) :=
 ai (re hd F hr hbd) (ot hl) hg hm hv ha hx hdb he hpl
theorem pI{x:Str}{p:Pos}(hd:Dun X.K (He.ga X.K c) g "__repr__")(F:FOk X.prog X.w X.K X.mg X.base k g fd ps fev)(hr:Room (k+1) X.A)(hbd:Binds X.K fd ps [])(hl:ps.length=1)(hg:Gl X x)(hm:X.mg x=none)(hv:bootBuiltins x=some (.builtin "repr")){e:Expr}{evs:Evs}(ha:SEs X W [e] evs)
  (he:starEach [e] X.env=(false,eval e X.env)::starEach [] X.env:=by rfl) (hpl:(backTo pos (starEach [] X.env)).any (·.1)=false:=by rfl) (hx:x≠"__name__":=by decide) (hdb:(x == ("__debug__":Str))=false:=by decide):SE X W (.Call (.Name x p) [e] [] pos) (eL (iy c fev) evs) :=
 ai (pU hd F hr hbd) (m7 hl) hg hm hv ha hx hdb he hpl
end
end
section
def dcL (t:Tg)(c ek el:Ev):List D->List D->List D->Fr->HB->Option (List D×List D×HB)
 | [],ks,vs,_,hb=>some (ks,vs,hb)
 | d ::ds,ks,vs,fr,hb=>match stT t d fr with
  | none=>none
  | some fr1=>match c fr1 hb with
   | some (.ok (.bl true),hb1)=>(match ek fr1 hb1 with
    | some (.ok k,hb2)=>if k.isKey then (match el fr1 hb2 with
     | some (.ok y,hb3)=>if y.isVal && decide (ks.length<szL) then dcL t c ek el ds (uI ks vs k y).1 (uI ks vs k y).2 fr hb3 else none
     | _=>none) else none
    | _=>none)
   | some (.ok (.bl false),hb1)=>dcL t c ek el ds ks vs fr hb1
   | _=>none
def cDc(iv:Iv)(t:Tg)(vs:List Nat)(c ek el:Ev):Cv:=λfr hb=>match iv fr hb with
 | some (.inl (.ls ds _),hb1)=>(match dcL t c ek el ds [] [] (wipeF fr vs) hb1 with
  | some (ks,ys,hb2)=>some (.inl (.dct ks ys),hb2)
  | none=>none)
 | some (.inr x,hb1)=>some (.inr x,hb1)
 | _=>none
end
section
section
variable {X:Cx} {s:Shared} {H:Hp} {scope scope2:Scope} {cl:List (Str×Addr)} {C:Addr} {fp:List Addr} {x:Str} {own:List (Str×Nat)}
theorem kZ{N:List Str}(h:blkC N scope scope2 own=true):BlkOk N (X.blk s H scope (compEnvC scope cl C X.env) fp).env.scope scope2 own:=by
 have z:=blkOk_by h
 refine⟨z.kind,z.uniq,z.ix,λy hy e=> ?_,z.own⟩
 show(relabel scope X.env).names.lookup y.1=_\/(relabel scope X.env).names.lookup y.1=_
 rcases aX (scope:=scope) (env:=X.env) (x:=y.1) with q|⟨_,q⟩
 .rw[q]; exact z.free y hy e
 .exact .inl q
end
end
section
theorem ud{K:PySem.W.Frag}{c f:String}{i:Int}(h:cnB K c f i=true):ClX.CRead K (He.ga K c) (.type "type")/\∃u,ClX.CVal K (He.ga K c) (.type "type") f (.int i) u:=by
 obtain⟨h1,h⟩:=He.ba h
 obtain⟨h2,h⟩:=He.ba h
 refine⟨⟨h1,He.eqO_ok h2⟩,?_⟩
 split at h
 .rename_i j t e
  obtain rfl:=of_decide_eq_true h
  exact⟨_,e,⟨t,rfl⟩⟩
 .cases h
def mu(c:String)(i:Int):D->Ev:=λd fr hb=>match d with
 | .rf c'=>if c'=c then some (.ok (.int i),hb) else none
 | _=>none
section
variable {X:Cx} {W:WX} {e:Expr} {ev:Ev} {pos:Pos}
theorem mE{c f:String}{i:Int}{fn:Str}(he:SE X W e ev)(hF:cnB X.K c f i=true)(hf:fn=Str.ofString f:=by rfl)(hb:attributeBase e fn X.env (eval e X.env)=eval e X.env:=by rfl):SE X W (.Attribute e fn pos) (ay ev (mu c i)):=by
 subst hf
 obtain⟨r,u,k⟩:=ud hF
 refine PE.mono (ClX.pe_cval he hb) λσ H Q h=> ?_
 show tE X.K W ev σ H λx H1=>∃C mc v u,x=.ref C/\ClX.CRead X.K C mc/\ClX.CVal X.K C mc (Str.ofString f) v u/\Q v H1
 refine bT h λ{M m hb fr x vx H2 r2 hb'} a rx e cc=> ?_
 unfold mu at e
 split at e
 .split at e
  .rename_i hc
   subst hc
   cases e
   have r':RelD X.K (Bd M m) m H2 (.rf _) vx:=rx
   unfold RelD at r'
   exact⟨_,_,.int i,u,r',r,k,cc.done a fC⟩
  .cases e
 .cases e
end
end
section
theorem vt{P:Program}{w:World}:StX.CXUp (L2N.CX P w):=by
 intro outer s H s2 H2 E e s' un kp ho c
 obtain⟨a,B,H',cls,d,ea,fl,hok,ub,na,os,ag,he⟩:=c
 have ub':UB (frs outer) H H' s.heap B s'.heap:=by
  refine⟨λb o q n hb=>ub.keep b o (kp b o q) (un.free b o q n (by simp)) hb,λb o q hb=>ub.slot b o (kp b o q) hb,λb o q n=>ub.free b o (kp b o q) (un.free b o q n (by simp)),λb o q hb=>ub.there b o (kp b o q) hb,λb xs q=>ub.tups b xs (un.tups b xs q),λb o xs q=>ub.frzs b o xs (un.frzs b o xs q),λb ps q=> ?_⟩
  obtain⟨m1,e1⟩:=un.tbls b ps q
  obtain⟨m2,e2⟩:=ub.tbls b _ e1
  exact⟨m1++m2,by rw[e2,Array.append_assoc]⟩
 exact⟨a,B,H',cls,d,ea,fl,hok,ub',na,os.trans ho,ag,he⟩
def spR(K:PySem.W.Frag)(ev:a6):Sp:=λvs H Q E=>∃n,spF K n ev vs H Q E
abbrev wa(P:Program)(w:World)(K:PySem.W.Frag)(mg:Str->Option Value)(base:Heap)(k:Nat)(f:Addr)(ev:a6):Prop:=FnR P w K mg base (L2N.CX P w) k f (spR K ev)
def pY(n:Nat)(ev:a6):a6:=λds hb=>if decide (n<=ds.length) && decide (ds.length<=szL) then ev (ds.take n++[.tup (ds.drop n)]) hb else none
def nF(n:Nat)(ev:a6):a6:=λds hb=>if ds.length=n then ev ds hb else none
section
variable {P:Program} {w:World} {K:PySem.W.Frag} {mg:Str->Option Value} {base:Heap} {x qual:Str} {params:Arguments} {body:List Stmt} {scope:Scope} {f:Addr} {fd:FuncData} {N ps:List Str} {k:Nat} {sv:Sv} {ev:a6}
/-- the shape of a body's derivation -/
abbrev qx(P:Program)(w:World)(K:PySem.W.Frag)(mg:Str->Option Value)(base:Heap)(k:Nat)(N:List Str)(scope:Scope)(body:List Stmt)(sv:Sv):Prop:=∀(X:Cx) (W:WX) (G:Gh),X.prog=P->X.w=w->X.K=K->X.mg=mg->X.base=base->X.N=N->X.calm=true->X.fn=(λ_=>true)->X.env.scope=scope->Room k X.A->PassesOwn (model X.prog X.w) X.A X.env X.xe->L2N.Takes X W->X.stack=X.env::X.outer->X.env.frame=some X.env.locals->G.pin=none->SSs X W G body sv
theorem qf{n:Nat}(hn:n<=N.length)(hbody:qx P w K mg base k N scope body sv)(cdv:Value)(A:Around)(outer:List Env)(s:Shared)(H:Hp)(vs:List V)(Q:VK)(E:XK)(hr:Room k (A.deeper (envOfC qual scope s.heap.objs.size f cdv)))(h:spF K n (fnE N.length sv) vs H Q E) :
  ∃t,PSs (cxOf (L2N.CX P w) P w K mg base N qual scope f cdv A outer s H E) body t/\t { nx:=λ_ H'=>Q .non H',rt:=Q } (start N vs) H:=by
 obtain⟨M0,ms,hb,ds,r,hb',hl,wd,rd,e,c⟩:=h
 refine⟨_,hbody (cxOf (L2N.CX P w) P w K mg base N qual scope f cdv A outer s H E) (λcls d _ H=>E cls d H) ⟨M0,ms,H,none⟩ rfl rfl rfl rfl rfl rfl rfl rfl rfl hr (passes_of rfl) (L2N.takes_of rfl rfl rfl rfl) rfl rfl rfl,?_⟩
 have s0:FS K ⟨M0,ms,H,none⟩ ms H hb (fr0 N.length ds) (L2.start N vs):=FS.start wd rd (by omega)
 have toStp:∀{m' H' hb2 fr' σ'},FS K ⟨M0,ms,H,none⟩ m' H' hb2 fr' σ'->Stp K M0 ms H m' H' hb2:=λs'=>⟨s'.pre,s'.new,s'.keep,s'.at_.wd.shrink λa h=>.inl h⟩
 have shr:∀{m':List Addr} {H':Hp} {fr':Fr} {σ':St},Keeps (Bd (Mf M0 fr' σ') m') (Bd M0 m') m' m' H' H':=Keeps.shrink λb z=>z.elim (λz=>.inl (.inl z)) .inr
 unfold fnE at e
 split at e
 .rename_i fr1 hb1 e1
  cases e
  exact aV s0 e1 λm' H' σ' s' _=>c m' H' (toStp s') .non (by unfold RelD; rfl)
 .rename_i d hb1 e1
  cases e
  exact aV s0 e1 λm' H' σ' fr' v s' _ rv=>c m' H' (toStp s') v (rv.keep shr)
 .rename_i x hb1 e1
  cases e
  refine aV s0 e1 λm' H' σ' fr' C dd s' _ rx=>c m' H' (toStp s') C dd ?_
  exact rx.keep shr
 .cases e
/-- def f(a,..,*v) -/
theorem oo{pv:Str}(F:FunD K x qual params body scope [] [] f fd)(S:FnScope N (ps++[pv]) scope)
  (hbd:∀(kV doc pm:Value) (an:Option Addr) (cdv ct:Value) (us rest:List Value),us.length=ps.length->bindArgs (PySem.W.fnOf x qual params body scope .none kV doc pm an cdv ct) ⟨us++rest,[]⟩=(newTuple rest >>= λt=>pure (ps.zip us++[(pv,t)])))
  (hbody:qx P w K mg base k N scope body sv):wa P w K mg base (k+1) f (pY ps.length (fnE N.length sv)):=by
 obtain⟨oc,od,dV,kV,doc,pm,an,cdv,ct,osl,rfl,lk,hcd,hD,_⟩:=F.ex
 have hdv:dV=.none:=by
  rcases hD with ⟨_,e⟩|⟨e,_⟩
  .exact e
  .exact absurd rfl e
 subst hdv
 have hps:(ps++[pv]).length<=N.length:=by have:=congrArg List.length S.pre; rw[List.length_take] at this; omega
 rw[List.length_append] at hps
 refine FnR.imp (StX.fn_star (sp:=spF K (ps.length+1) (fnE N.length sv)) lk hcd S vt (hbd kV doc pm an cdv ct) λA outer s H vs Q E hr h=>qf hps hbody cdv A outer s H vs Q E hr h) λvs H Q E h=> ?_
 obtain⟨n',M0,ms,hb,ds,r,hb',hl,wd,rd,e,c⟩:=h
 unfold pY at e
 split at e
 .rename_i hz
  rw[Bool.and_eq_true] at hz
  have h1:=of_decide_eq_true hz.1
  have h2:=of_decide_eq_true hz.2
  have hlv:=rd.length
  refine⟨vs.take ps.length,vs.drop ps.length,(List.take_append_drop _ _).symm,by rw[List.length_take]; omega,?_,λp hp=> ?_⟩
  .rw[List.length_drop]
   have:=bd
   omega
  .have st:=wd.laid (o:=.tup (vs.drop ps.length)) hp
   refine⟨M0,ms,hb,_,r,hb',?_,st.wd,?_,e,λm' H' s'=>c m' H' (st.trans s')⟩
   .rw[List.length_append,List.length_take]
    simp
    omega
   .refine((RelDs.take ps.length rd).keep st.keeps).append (RelDs.cons ?_ RelDs.nil')
    have z:=jo (fr:=[]) (σ:=[]) wd hp (RelDs.drop ps.length rd)
    exact z
 .cases e
end
end
section
abbrev ff:=List D->HB->Option ((O ⊕ Xn)×HB)
def spC(K:PySem.W.Frag)(n:Nat)(ev:ff):Sp:=λvs H Q E=>∃(M0:Addr->Prop) (ms:List Addr) (hb:HB) (ds:List D) (r:O ⊕ Xn) (hb':HB),ds.length=n/\Wd K M0 ms H hb/\RelDs K (Bd M0 ms) ms H ds vs/\ev ds hb=some (r,hb') /\
 match r with
  | .inl o=>∀m' H' p,StpP K M0 ms H m' H' hb' p->RelO K (Bd (Mp M0 p) m') m' H' o p->Q (.ref p) H'
  | .inr x=>∀m' H',Stp K M0 ms H m' H' hb'->∀C dd,RelX K (Bd M0 m') m' H' x C dd->E C dd H'
abbrev uY(P:Program)(w:World)(K:PySem.W.Frag)(mg:Str->Option Value)(base:Heap)(k:Nat)(f:Addr)(fd:FuncData)(ps:List Str)(ev:ff):Prop:=FnOk P w K mg base (L2N.CX P w) k f fd ps (spC K ps.length ev)
def tSC(K:PySem.W.Frag)(W:WX)(G:Gh)(cv:Cv):TS:=λD σ H=>∃(m:List Addr) (hb:HB) (fr:Fr) (r:O ⊕ Xn) (hb':HB),FS K G m H hb fr σ/\cv fr hb=some (r,hb')/\match r with
 | .inl o=>∀m' H' p,StpP K G.M0 G.ms G.Hs m' H' hb' p->RelO K (Bd (Mp G.M0 p) m') m' H' o p->D.rt (.ref p) H'
 | .inr x=>∀m' H' σ' fr' C dd,FS K G m' H' hb' fr' σ'->RelX K (Bd (Mf G.M0 fr' σ') m') m' H' x C dd->W C dd σ' H'
abbrev u9(X:Cx)(W:WX)(G:Gh)(st:List Stmt)(cv:Cv):Prop:=PSs X st (tSC X.K W G cv)
theorem FS.fin{K:PySem.W.Frag}{G:Gh}{m m1:List Addr}{H H1:Hp}{hb hb1:HB}{fr:Fr}{σ:St}{p:Addr}(s:FS K G m H hb fr σ)(t:StpP K (Mf G.M0 fr σ) m H m1 H1 hb1 p):StpP K G.M0 G.ms G.Hs m1 H1 hb1 p:=by
 have s1:=s.step t.stp
 refine⟨s1.pre,s1.new,s1.keep,t.wd.shrink λa z=>z.elim (λz=>.inl (.inl z)) .inr,?_⟩
 cases q:G.Hs p with
 | none=>rfl
 | some u =>
  by_cases hm:p∈G.ms
  .obtain⟨l,e⟩:=s.pre
   obtain⟨v,hv⟩:=s.at_.wd.there (a:=p) (by rw[e]; exact List.mem_append_left _ hm)
   rw[t.pn] at hv; cases hv
  .have:=s.keep p u q hm
   rw[t.pn] at this; cases this
def td(sv:Sv)(cv:Cv):Cv:=λfr hb=>match sv fr hb with
 | some (.nx fr1,hb1)=>cv fr1 hb1
 | some (.ex x,hb1)=>some (.inr x,hb1)
 | _=>none
section
variable {X:Cx} {W:WX} {G:Gh} {e:Expr} {cv:Cv} {pos:Pos} {st:Stmt} {sts:List Stmt} {sv:Sv}
theorem lL(he:SC X W e cv):u9 X W G [.Return (some e) pos] cv:=PSs.mono (pss_one (ps_ret he)) λD σ H h=>by
 obtain⟨m,hb,fr,r,hb',s,e,c⟩:=h
 show tC' X.K W cv σ H D.rt
 refine⟨_,m,hb,fr,r,hb',s.at_,e,?_⟩
 cases r with
 | inl o=>exact λm1 H1 p t ro=>c m1 H1 p (s.fin t) (ro.keep_own (Keeps.shrink λb z=>z.elim (λz=>.inl (z.elim (λz=>.inl (.inl z)) .inr)) .inr) λ_ q=>q)
 | inr x=>exact λm1 H1 t C dd rx=>c m1 H1 σ fr C dd (s.step t) rx
theorem o8(h1:SS X W G st sv)(h2:u9 X W G sts cv):u9 X W G (st::sts) (td sv cv):=PSs.mono (pss_cons h1 h2) λD σ H h=>by
 obtain⟨m,hb,fr,r,hb',s,e,c⟩:=h
 unfold td at e
 show tS X.K W G sv { D with nx:=tSC X.K W G cv D } σ H
 split at e
 .rename_i fr1 hb1 e1
  exact aV s e1 λm' H' σ' s' k'=>⟨m',hb1,fr1,r,hb',s',e,c⟩
 .rename_i x hb1 e1
  cases e
  exact aV s e1 λm' H' σ' fr' C dd s' k' rx=>c m' H' σ' fr' C dd s' rx
 .cases e
end
section
variable {P:Program} {w:World} {K:PySem.W.Frag} {mg:Str->Option Value} {base:Heap}
def fnC(n:Nat)(body:Cv):ff:=λds hb=>body (fr0 n ds) hb
theorem wD{x qual:Str}{params:Arguments}{body:List Stmt}{scope:Scope}{dvs:List V}{kws:List (Str×V)}{f:Addr}{fd:FuncData}{N ps:List Str}{k:Nat}{cv:Cv}(F:FunD K x qual params body scope dvs kws f fd)(S:FnScope N ps scope)
  (hbody:∀(X:Cx) (W:WX) (G:Gh),X.prog=P->X.w=w->X.K=K->X.mg=mg->X.base=base->X.N=N->X.calm=true->X.fn=(λ_=>true)->X.env.scope=scope->Room k X.A->PassesOwn (model X.prog X.w) X.A X.env X.xe->L2N.Takes X W->X.stack=X.env::X.outer->X.env.frame=some X.env.locals->G.pin=none->u9 X W G body cv) :
  uY P w K mg base (k+1) f fd ps (fnC N.length cv):=by
 refine F.ok (sp:=spC K ps.length (fnC N.length cv)) S (λvs H Q E h=> ?_) (λcdv A outer s H vs Q E hr h=> ?_)
 .obtain⟨M0,ms,hb,ds,r,hb',hl,_,rd,_⟩:=h
  rw[<-rd.length,hl]
 .obtain⟨M0,ms,hb,ds,r,hb',hl,wd,rd,e,c⟩:=h
  have hps:ps.length<=N.length:=by have:=congrArg List.length S.pre; rw[List.length_take] at this; omega
  refine⟨_,hbody (cxOf (L2N.CX P w) P w K mg base N qual scope f cdv A outer s H E) (λcls d _ H=>E cls d H) ⟨M0,ms,H,none⟩ rfl rfl rfl rfl rfl rfl rfl rfl rfl hr (passes_of rfl) (L2N.takes_of rfl rfl rfl rfl) rfl rfl rfl,?_⟩
  have s0:FS K ⟨M0,ms,H,none⟩ ms H hb (fr0 N.length ds) (L2.start N vs):=FS.start wd rd (by omega)
  refine⟨ms,hb,_,r,hb',s0,e,?_⟩
  cases r with
  | inl o=>exact c
  | inr x =>
   refine λm' H' σ' fr' C dd s' rx=>c m' H' ⟨s'.pre,s'.new,s'.keep,s'.at_.wd.shrink λa h=>.inl h⟩ C dd ?_
   exact rx.keep (Keeps.shrink λb z=>z.elim (λz=>.inl (.inl z)) .inr)
end
section
variable {K:PySem.W.Frag} {M:Addr->Prop} {m m1 m2:List Addr} {H H1 H2:Hp} {hb hb1 hb2:HB} {p:Addr}
theorem Stp.thenP(s:Stp K M m H m1 H1 hb1)(w:Wd K M m H hb)(t:StpP K M m1 H1 m2 H2 hb2 p):StpP K M m H m2 H2 hb2 p:=by
 have z:=s.trans t.stp
 exact⟨z.pre,z.new,z.fr,t.wd,s.free t.pn w⟩
end
section
variable {X:Cx} {W:WX} {G:Gh} {o e:Expr} {evo:Ev} {evs:Evs} {pos apos:Pos} {es:List Expr}
def gN(c m:String)(n:Nat)(ev:ff)(o:Ev)(es:Evs):Cv:=λfr hb=>match o fr hb with
 | some (.ok d,hb1)=>if d.isVal then (match i9 fr hb1 d with
  | some (c',fs,_)=>if c'=c && !fs.contains m then (match es fr hb1 with
   | some (.inl ds,hb2)=>if av ds && decide (ds.length+1=n) then ev (d::ds) hb2 else none
   | some (.inr x,hb2)=>some (.inr x,hb2)
   | none=>none) else none
  | none=>none) else none
 | some (.exn x,hb1)=>some (.inr x,hb1)
 | none=>none
theorem lR{c m:String}{n:Nat}{fev:ff}{σ:St}{H:Hp}{Q:VK}(h:tC' X.K W (gN c m n fev evo evs) σ H Q):fN (He.ga X.K c) (Str.ofString m) (spC X.K n fev) (λσ=>WE W σ) (tE X.K W evo) (tEs X.K W evs) σ H Q:=by
 obtain⟨M,m0,hb,fr,r0,hb',a,e0,cc⟩:=h
 show tE X.K W evo σ H λx H1=>∃a dx fs,x=.ref a/\H1 a=some (.ins (He.ga X.K c) dx fs)/\fs.lookup (Str.ofString m)=none/\tEs X.K W evs σ H1 λvs H2=>spC X.K n fev (x::vs) H2 Q (WE W σ)
 unfold gN at e0
 split at e0
 .rename_i d hb1 e1
  refine b3 a e1 λm1 H1 s1 v rx=> ?_
  have a1:=a.step s1
  split at e0
  .rename_i hv
   split at e0
   .rename_i c' fs vs e2
    split at e0
    .rename_i hc
     rw[Bool.and_eq_true,Bool.not_eq_true'] at hc
     have hc1:=of_decide_eq_true hc.1
     subst hc1
     obtain⟨q,dx,ws,rfl,f1,l,rr⟩:=cG a1 rx e2
     refine⟨q,dx,_,rfl,f1,kf hc.2,?_⟩
     split at e0
     .rename_i ds hb2 e3
      refine⟨M,m1,hb1,fr,.inl ds,hb2,a1.wd,a1.fr,e3,λm2 H2 s2 us rv=> ?_⟩
      split at e0
      .rename_i hz
       rw[Bool.and_eq_true] at hz
       have a2:=a1.step s2
       have s12:=s1.trans s2
       refine⟨M,m2,hb2,d::ds,r0,hb',by simpa using of_decide_eq_true hz.2,a2.wd,RelDs.cons ((rx.keep s2).val hv) (rv.val hz.1),e0,?_⟩
       cases r0 with
       | inl o=>exact λm' H' p t ro=>cc m' H' p (s12.thenP a.wd t) ro
       | inr x=>exact λm' H' t C dd rx=>cc m' H' (s12.trans t) C dd rx
      .cases e0
     .rename_i x hb2 e3
      cases e0
      exact⟨M,m1,hb1,fr,.inr x,_,a1.wd,a1.fr,e3,λm2 H2 s2=>cc m2 H2 (s1.trans s2)⟩
     .cases e0
    .cases e0
   .cases e0
  .cases e0
 .rename_i x hb1 e1
  cases e0
  exact b3 a e1 λm1 H1 s1=>cc m1 H1 s1
 .cases e0
end
end
section
section
variable {X:Cx} {W:WX} {G:Gh} {e o:Expr} {ev evo eve:Ev} {pos pos' apos:Pos} {es:List Expr} {evs:Evs}
theorem pi{CX:CXT}{pins:List (Addr×Obj)}{σ:St}{H:Hp}{s:Shared}{k:Nat}{f:Addr}{sp:Sp}{E:St->XK}{Q:VK}{us:List Value}{vs:List V}(F:FnR X.prog X.w X.K X.mg X.base CX k f sp)(hr:Room k X.A)(hx:PassesAt CX X σ (E σ))(I:Inv X pins σ H s)(r:Vals vs us)(h:sp vs H Q (E σ)) :
  wpAny (model X.prog X.w) X.A (call (.ref f) us) (EP X pins σ Q) X.xe s:=by
 refine wpAny_call (codeAny_mono (F X.A X.stack s H us vs Q (E σ) hr I.env0 r h) λr s' hq=> ?_)
 cases r with
 | error e=>exact hx pins H s e s' I hq
 | ok fl =>
  cases fl with
  | ret u=>exact I.after hq
  | next=>exact False.elim hq
  | brk=>exact False.elim hq
  | cont=>exact False.elim hq
theorem nB{CX:CXT}{k:Nat}{f C:Addr}{sp:Sp}{E:St->XK}{m:Str}{ta:TE}{t:TA}{pl:Sem Bool}(he:PE X o ta)(c:Cls X.K C)(hm:Meth X.K C m f)
  (F:FnR X.prog X.w X.K X.mg X.base CX k f sp) (hr:Room k X.A) (hx:∀σ,PassesAt CX X σ (E σ)) (ha:PA X (e::es) t)
  (hst:starEach (e::es) X.env=(false,eval e X.env)::starEach es X.env:=by rfl) (hpl:(backTo pos (starEach es X.env)).any (·.1)=false:=by rfl)
  (ht:eval (.Call (.Attribute o m apos) (e::es) [] pos) X.env=(do
   let ov <-eval o X.env
   standAt apos.atName
   let (f,first) <-holding [ov] (getMethod ov m pl)
   callWith pos f first (backTo pos (starEach (e::es) X.env)) (backToKw pos (keywordEach [] X.env))):=by rfl) :
  PE X (.Call (.Attribute o m apos) (e::es) [] pos) (fN C m sp E ta t):=by
 refine⟨λpins s σ H Q I h=> ?_⟩
 refine PySem.W.methodCall_KW (pl:=pl) (thn (he.run pins s σ H _ I h) λu s1 ⟨x,H1,I1,rx,a,dx,fs,ex,ea,l,q⟩=> ?_) ht
 subst ex
 obtain rfl:u=Value.ref a:=rx
 refine getmeth_ok I1 ea c hm l ?_
 refine PySem.W.callWith_K (first:=[.ref a]) (h₀:=X.base) I.ok.mod.kin hm.kp (thn (ha.run pos pins s1 σ H1 _ I1 q) λus s2 ⟨vs,H2,I2,r,q2⟩=>⟨I2.kIn,?_⟩) hst hpl
 exact pi (us:=.ref a::us) (vs:=.ref a::vs) F hr (hx σ) I2 (.cons rfl r) q2
def fO(c m:String)(ev:a6)(o:Ev)(es:Evs):Ev:=ay o λd fr hb=>if d.isVal then (match i9 fr hb d with
 | some (c',fs,_)=>if c'=c && !fs.contains m then eL (λds _ hb=>if av ds then ev (d::ds) hb else none) es fr hb else none
 | none=>none) else none
theorem o0{c m:String}{fev:a6}{σ:St}{H:Hp}{Q:VK}(h:tE X.K W (fO c m fev evo evs) σ H Q):fN (He.ga X.K c) (Str.ofString m) (spR X.K fev) (λσ=>WE W σ) (tE X.K W evo) (tEs X.K W evs) σ H Q:=by
 obtain⟨M,m0,hb,fr,r0,hb',a,e0,cc⟩:=dh h
 show tE X.K W evo σ H λx H1=>∃a dx fs,x=.ref a/\H1 a=some (.ins (He.ga X.K c) dx fs)/\fs.lookup (Str.ofString m)=none/\tEs X.K W evs σ H1 λvs H2=>spR X.K fev (x::vs) H2 Q (WE W σ)
 refine cp a e0 cc λm1 H1 hb1 d v s1 a1 rx e1 c1=> ?_
 split at e1
 .rename_i hv
  split at e1
  .rename_i c' fs vs e2
   split at e1
   .rename_i hc
    rw[Bool.and_eq_true,Bool.not_eq_true'] at hc
    have hc1:=of_decide_eq_true hc.1
    subst hc1
    obtain⟨q,dx,ws,rfl,f1,l,rr⟩:=cG a1 rx e2
    refine⟨q,dx,_,rfl,f1,kf hc.2,?_⟩
    unfold eL at e1
    split at e1
    .rename_i ds hb2 e3
     refine⟨M,m1,hb1,fr,.inl ds,hb2,a1.wd,a1.fr,e3,λm2 H2 s2 us rv=> ?_⟩
     dsimp only at e1
     split at e1
     .rename_i hz
      have a2:=a1.step s2
      have z:=lI (n:=ds.length+1) a2 (by simp) (RelDs.cons ((rx.keep s2).val hv) (rv.val hz)) e1 (c1.step s2)
      exact⟨_,z⟩
     .cases e1
    .rename_i x hb2 e3
     cases e1
     exact⟨M,m1,hb1,fr,.inr x,_,a1.wd,a1.fr,e3,λm2 H2 s2=>c1 m2 H2 s2⟩
    .cases e1
   .cases e1
  .cases e1
 .cases e1
variable {m:Str} {c mn:String} {k:Nat} {f:Addr} {fd:FuncData} {ps:List Str} {fev:a6} {fec:ff} {pl:Sem Bool}
theorem kg(he:SE X W o evo)(cl:Cls X.K (He.ga X.K c))(hm:Meth X.K (He.ga X.K c) m f)(F:wa X.prog X.w X.K X.mg X.base k f fev)(tk:L2N.Takes X W)(hr:Room k X.A)(ha:SEs X W (e::es) evs)(hmn:m=Str.ofString mn:=by rfl)
  (hst:starEach (e::es) X.env=(false,eval e X.env)::starEach es X.env:=by rfl) (hpl:(backTo pos (starEach es X.env)).any (·.1)=false:=by rfl)
  (ht:eval (.Call (.Attribute o m apos) (e::es) [] pos) X.env=(do
   let ov <-eval o X.env
   standAt apos.atName
   let (f,first) <-holding [ov] (getMethod ov m pl)
   callWith pos f first (backTo pos (starEach (e::es) X.env)) (backToKw pos (keywordEach [] X.env))):=by rfl) :
  SE X W (.Call (.Attribute o m apos) (e::es) [] pos) (fO c mn fev evo evs):=by
 subst hmn
 exact PE.mono (nB (pl:=pl) he cl hm F hr (λσ=>L2N.passAt tk σ) ha hst hpl ht) λσ H Q h=>o0 h
theorem sy(he:SE X W o evo)(cl:Cls X.K (He.ga X.K c))(hm:Meth X.K (He.ga X.K c) m f)(F:uY X.prog X.w X.K X.mg X.base k f fd ps fec)(tk:L2N.Takes X W)(hr:Room k X.A)(hb:Binds X.K fd ps [])(ha:SEs X W (e::es) evs)(hmn:m=Str.ofString mn:=by rfl)
  (hst:starEach (e::es) X.env=(false,eval e X.env)::starEach es X.env:=by rfl) (hpl:(backTo pos (starEach es X.env)).any (·.1)=false:=by rfl)
  (ht:eval (.Call (.Attribute o m apos) (e::es) [] pos) X.env=(do
   let ov <-eval o X.env
   standAt apos.atName
   let (f,first) <-holding [ov] (getMethod ov m pl)
   callWith pos f first (backTo pos (starEach (e::es) X.env)) (backToKw pos (keywordEach [] X.env))):=by rfl) :
  SC X W (.Call (.Attribute o m apos) (e::es) [] pos) (gN c mn ps.length fec evo evs):=by
 subst hmn
 exact PE.mono (iE (pl:=pl) he cl hm F hr hb (λσ=>L2N.passAt tk σ) ha hst hpl ht) λσ H Q h=>lR h
theorem o9(he:SE X W o evo)(cl:Cls X.K (He.ga X.K c))(hm:Meth X.K (He.ga X.K c) m f)(F:uY X.prog X.w X.K X.mg X.base k f fd ps fec)(tk:L2N.Takes X W)(hr:Room k X.A)(hb:Binds X.K fd ps [])(hmn:m=Str.ofString mn:=by rfl)
  (ht:eval (.Call (.Attribute o m apos) [] [] pos) X.env=(do
   let ov <-eval o X.env
   standAt apos.atName
   let (f,first) <-holding [ov] (getMethod ov m pl)
   callWith pos f first (backTo pos (starEach [] X.env)) (backToKw pos (keywordEach [] X.env))):=by rfl) :
  SC X W (.Call (.Attribute o m apos) [] [] pos) (gN c mn ps.length fec evo al):=by
 subst hmn
 refine PE.mono (fH (pl:=pl) he cl hm F hr hb (λσ=>L2N.passAt tk σ) ht) λσ H Q h=> ?_
 have z:=lR h
 show tE X.K W evo σ H λx H1=>∃a dx fs,x=.ref a/\H1 a=some (.ins (He.ga X.K c) dx fs)/\fs.lookup (Str.ofString mn)=none/\spC X.K ps.length fec [x] H1 Q (WE W σ)
 obtain⟨M,m,hb,fr,r,hb',w,f,e,cc⟩:=z
 refine⟨M,m,hb,fr,r,hb',w,f,e,λm1 H1 s1=> ?_⟩
 have z:=cc m1 H1 s1
 cases r with
 | exn x=>exact z
 | ok d =>
  intro v rv
  obtain⟨a,dx,fs,h1,h2,h3,M2,m2,hb2,fr2,r2,hb3,w2,f2,e2,c2⟩:=z v rv
  cases e2
  exact⟨a,dx,fs,h1,h2,h3,c2 m2 H1 (Stp.refl w2) [] rfl⟩
end
end
section
def qF(n:Nat)(ev:ff)(es:Evs):Cv:=λfr hb=>match es fr hb with
 | some (.inl ds,hb2)=>if av ds && decide (ds.length=n) then ev ds hb2 else none
 | some (.inr x,hb2)=>some (.inr x,hb2)
 | none=>none
def qt(ev:a6)(es:Evs):Ev:=eL (λds _ hb=>if av ds then ev ds hb else none) es
end
section
structure Fxs (fa:List He.Fa) (K:PySem.W.Frag) (mg:Str->Option Value):Prop where
 ex:∃h:Heap,K.In h/\h.Ns mainGlobals mg
 all:∀x∈fa,x.ok K=true
section
variable {fa:List He.Fa} {K:PySem.W.Frag} {mg:Str->Option Value} (F:Fxs fa K mg)
include F
theorem Fxs.at_(i:Nat){x:He.Fa}(e:fa[i]? =some x):x.ok K=true:=F.all x (List.mem_of_getElem? e)
theorem Fxs.glo(i:Nat){x:Str}(e:fa[i]? =some (.glo x):=by rfl):mg x=some (.ref (He.ga K x)):=by
 obtain⟨h,a,b⟩:=F.ex
 exact He.glo_ok a b (F.at_ i e)
theorem Fxs.free(i:Nat){x:Str}(e:fa[i]? =some (.free x):=by rfl):mg x=none:=by
 obtain⟨h,a,b⟩:=F.ex
 exact He.free_ok a b (F.at_ i e)
theorem Fxs.int(i:Nat){x:Str}{n:Int}(e:fa[i]? =some (.int x n):=by rfl):∃t,mg x=some (.int n t):=by
 obtain⟨h,a,b⟩:=F.ex
 exact He.int_ok a b (F.at_ i e)
theorem Fxs.str(i:Nat){x z:Str}(e:fa[i]? =some (.str x z):=by rfl):∃t,mg x=some (.str z t):=by
 obtain⟨h,a,b⟩:=F.ex
 exact He.str_ok a b (F.at_ i e)
theorem Fxs.cls(i:Nat){x:Str}(e:fa[i]? =some (.cls x):=by rfl):Cls K (He.ga K x):=He.cls_ok (F.at_ i e)
theorem Fxs.noat(i:Nat){x f:Str}(e:fa[i]? =some (.noat x f):=by rfl):NoAttr K (He.ga K x) f:=He.noat_ok (F.at_ i e)
theorem Fxs.meth(i:Nat){x m:Str}(e:fa[i]? =some (.meth x m):=by rfl):Meth K (He.ga K x) m (He.ma K (He.ga K x) m):=He.meth_ok (F.at_ i e)
theorem Fxs.mkr(i:Nat){x:Str}(e:fa[i]? =some (.mkr x):=by rfl):Mk K (He.ga K x) (He.ma K (He.ga K x) "__init__"):=He.mkr_ok (F.at_ i e)
end
/-- a name's place -/
theorem we{X:Cx}{N:List Str}{i:Nat}{x:Str}(h:X.N=N)(e:N[i]? =some x):X.N[i]? =some x:=by rw[h]; exact e
theorem jp{X:Cx}{N:List Str}{sc scope:Scope}{own:List (Str×Nat)}(h:X.N=N)(hs:X.env.scope=sc)(e:blkC N sc scope own=true):BlkOk X.N X.env.scope scope own:=by rw[h,hs]; exact blkOk_by e
theorem tF{X:Cx}{N:List Str}{s:Shared}{H:Hp}{scope scope2:Scope}{cl:List (Str×Addr)}{C:Addr}{fp:List Addr}{own:List (Str×Nat)}(h:X.N=N)(e:blkC N scope scope2 own=true):BlkOk X.N (X.blk s H scope (compEnvC scope cl C X.env) fp).env.scope scope2 own:=by rw[h]; exact kZ e
end
section
theorem lz{X:Cx}{sc:Scope}{x:Str}(h:X.env.scope=sc)(hk:sc.names.lookup x=some .local):X.env.scope.names.lookup x=some .local:=by rw[h]; exact hk
theorem swl{X:Cx}{sc:Scope}{elt:Expr}{gs:List Comprehension}{scope:Scope}{pos py:Pos}{y:Str}{l:Nat}(h:X.env.scope=sc)(hk:sc.kind=.function)(hy:sc.names.lookup y=some .local)(hl:(py.line == pos.line)=true)(ha:(scope.names.any fun(n,k)=>n == y && (k == .local || k == .cell))=false) :
  swapsWith (.ListComp elt gs scope pos) (some (.Name y py)) l X.env=pure true:=by
 refine sw_true (by rw[h]; exact hk) (by rw[h]; exact hy) hl ha
theorem swE{α:Sort _}{X:Cx}{sc:Scope}{f:Env->α}{r:α}(h:X.env.scope=sc)(e:f { X.env with scope:=sc }=r):f X.env=r:=by subst h; exact e
def sFz(i:Nat)(sv:Sv):Sv:=λfr hb=>match sv fr hb with
 | some (.nx fr1,hb1)=>(match fr1[i]? with
  | some (.ow o)=>some (.nx (fr1.set i (.sh o.d)),hb1)
  | _=>none)
 | r=>r
section
variable {K:PySem.W.Frag} {G:Gh} {m:List Addr} {H:Hp} {hb:HB} {fr:Fr} {σ:St} {i:Nat} {o:O}
theorem FS.fzSlot(s:FS K G m H hb fr σ)(ho:fr[i]? =some (.ow o)):FS K G m H hb (fr.set i (.sh o.d)) σ/\Kp G m H fr σ m H (fr.set i (.sh o.d)) σ:=by
 obtain⟨x,e1,a,e2,hM,nm,r⟩:=s.at_.fr.2 i _ ho
 subst e2
 obtain⟨a',e3,nb,ro⟩:=s.freed ho e1
 cases e3
 have z:=(s.free i).setSh (i:=i) (d:=o.d) (v:=.ref a) (ro.d_of (λ_ h=>h) nb)
 rw[List.set_set,List.set_set] at z
 have hs:σ.set i (some (V.ref a))=σ:=by
  apply List.ext_getElem?
  intro j
  by_cases hj:i=j
  .subst hj
   rw[List.getElem?_set,e1]
   have:=(List.getElem?_eq_some_iff.mp e1).1
   simp[this]
  .rw[List.getElem?_set_ne hj]
 have sub:∀b,Mf G.M0 (fr.set i (.sh o.d)) σ b->Mf G.M0 fr σ b:=λb h=>by
  rcases h with h|⟨j,o',h1,h2⟩
  .exact .inl h
  .by_cases e:i=j
   .subst e
    rw[List.getElem?_set] at h1
    simp at h1
   .rw[List.getElem?_set_ne e] at h1
    exact .inr ⟨j,o',h1,h2⟩
 rw[hs] at z
 exact⟨z,Keeps.shrink λb z=>z.elim (λz=>.inl (sub b z)) .inr⟩
end
section
variable {X:Cx} {W:WX} {G:Gh} {st:Stmt} {sv:Sv}
theorem fF(i:Nat)(h:SS X W G st sv):SS X W G st (sFz i sv):=PS.mono h λD σ H hh=>by
 obtain⟨m,hb,fr,r,hb',s,e,c⟩:=hh
 unfold sFz at e
 split at e
 .rename_i fr1 hb1 e1
  split at e
  .rename_i o ho
   cases e
   refine aV s e1 λm' H' σ' s' k'=> ?_
   obtain⟨s2,k2⟩:=s'.fzSlot ho
   exact c m' H' σ' s2 (k'.trans k2)
  .cases e
 .exact aV s e c
end
end
section
def vg(st:a6->a6):Nat->a6
 | 0=>λ_ _=>none
 | n+1=>st (vg st n)
section
variable {P:Program} {w:World} {K:PySem.W.Frag} {mg:Str->Option Value} {base:Heap} {k:Nat} {f:Addr} {fd:FuncData} {ps:List Str}
theorem oS:FOk P w K mg base k f fd ps (λ_ _=>none) :=
 ⟨λvs H Q E h=>(by obtain⟨_,_,_,_,_,_,_,_,_,e,_⟩:=h; cases e),λA outer s H args us vs Q E hr he hb hv h=>(by obtain⟨_,_,_,_,_,_,_,_,_,e,_⟩:=h; cases e)⟩
theorem l5{st:a6->a6}(step:∀j ev,k<=j->FOk P w K mg base j f fd ps ev->FOk P w K mg base (j+1) f fd ps (st ev)):∀n,FOk P w K mg base (k+n) f fd ps (vg st n)
 | 0=>oS
 | n+1=>step (k+n) _ (by omega) (l5 step n)
end
end
section
def tL(t:Tg)(c:Ev)(iv1:Iv)(t1:Tg)(vs1:List Nat)(c1 el:Ev):List D->List D->Fr->HB->Option (List D×HB)
 | [],acc,_,hb=>some (acc,hb)
 | d ::ds,acc,fr,hb=>match stT t d fr with
  | none=>none
  | some fr1=>match c fr1 hb with
   | some (.ok (.bl true),hb1)=>(match iv1 fr1 hb1 with
    | some (.inl (.ls es true),hb2)=>(match lcL t1 c1 el es acc (wipeF fr1 vs1) hb2 with
     | some (acc',hb3)=>tL t c iv1 t1 vs1 c1 el ds acc' fr hb3
     | none=>none)
    | _=>none)
   | some (.ok (.bl false),hb1)=>tL t c iv1 t1 vs1 c1 el ds acc fr hb1
   | _=>none
def wg(iv:Iv)(t:Tg)(vs:List Nat)(c:Ev)(iv1:Iv)(t1:Tg)(vs1:List Nat)(c1 el:Ev):Cv:=λfr hb=>match iv fr hb with
 | some (.inl (.ls ds _),hb1)=>(match tL t c iv1 t1 vs1 c1 el ds [] (wipeF fr vs) hb1 with
  | some (ys,hb2)=>some (.inl (.lst ys),hb2)
  | none=>none)
 | some (.inr x,hb1)=>some (.inr x,hb1)
 | _=>none
structure PStp (p:Addr) (m1:List Addr) (H1:Hp) (m2:List Addr) (H2:Hp):Prop where
 pre:∃l,m2=m1++l
 new:∀a∈m2,a∉m1->H1 a=none
 fr:∀a o,H1 a=some o->a∉m1->a≠p->H2 a=some o
theorem PStp.refl{p:Addr}{m1:List Addr}{H1:Hp}:PStp p m1 H1 m1 H1:=⟨⟨[],by simp⟩,λ_ h n=>absurd h n,λ_ _ h _ _=>h⟩
theorem PStp.trans{p:Addr}{m1 m2 m3:List Addr}{H1 H2 H3:Hp}(hp:p∉m3)(a:PStp p m1 H1 m2 H2)(b:PStp p m2 H2 m3 H3):PStp p m1 H1 m3 H3:=by
 obtain⟨l,hl⟩:=a.pre
 obtain⟨l2,hl2⟩:=b.pre
 have inv:∀x,x∈m3->x∉m1->H1 x=none:=λx hx hn=>by
  by_cases h2:x∈m2
  .exact a.new x h2 hn
  .have z:=b.new x hx h2
   cases q:H1 x with
   | none=>rfl
   | some o =>
    have y:=a.fr x o q hn λe=>hp (e ▸ hx)
    rw[z] at y; cases y
 refine⟨⟨l++l2,by rw[hl2,hl,List.append_assoc]⟩,inv,λx o h hn hx=>b.fr x o (a.fr x o h hn hx) (λz=> ?_) hx⟩
 have:=inv x (by rw[hl2]; exact List.mem_append_left _ z) hn
 rw[h] at this; cases this
theorem PStp.of{K:PySem.W.Frag}{M:Addr->Prop}{p:Addr}{m1 m2:List Addr}{H1 H2:Hp}{hb:HB}(s:Stp K M m1 H1 m2 H2 hb):PStp p m1 H1 m2 H2:=⟨s.pre,s.new,λa o h n _=>s.fr a o h n⟩
theorem PStp.wr{p:Addr}{m1 m2:List Addr}{H1 H2:Hp}{o:HO}(s:PStp p m1 H1 m2 H2):PStp p m1 H1 m2 (upd H2 p o):=⟨s.pre,s.new,λa u h n hp=>by rw[upd_ne hp]; exact s.fr a u h n hp⟩
end
section
section
variable {chk:PySem.W.Frag->Bool} {fn:List He5.DefA} {K:PySem.W.Frag}
theorem SaysC.chk_(c:SaysC chk fn K):chk K=true :=
 (Bool.and_eq_true_iff.mp (show(chk K && fn.all λd=>d.ok K)=true from congrArg Prod.fst c)).1
theorem SaysC.def_(c:SaysC chk fn K)(i:Nat){d:He5.DefA}(h:fn[i]? =some d:=by rfl):∃fd,FunD K d.name d.qual d.params d.body d.scope (d.dvs K) (d.kws K) (d.at_ K) fd:=by
 have c2:=(Bool.and_eq_true_iff.mp (show(chk K && fn.all λd=>d.ok K)=true from congrArg Prod.fst c)).2
 have e:fn.map (λd=>He5.fnA K (d.at_ K))=fn.map He5.DefA.val:=congrArg Prod.snd c
 have e2:(fn.map λd=>He5.fnA K (d.at_ K))[i]? =(fn.map He5.DefA.val)[i]? :=congrArg (λl=>l[i]?) e
 rw[List.getElem?_map,List.getElem?_map,h] at e2
 exact He5.DefA.funD (Option.some.inj e2) (List.all_eq_true.mp c2 d (List.mem_of_getElem? h))
end
end
section
end
section
section
variable {P:Program} {w:World} {A:Around} {E:Value->Shared->Prop} {s:Shared} {a x:Addr} {L:List (Addr×List Int)} {es:Array (Int×Value)} {ep:Nat} {t:SetTable} {k:List Int}
/-- what adding leaves -/
def nK(x:Addr)(k:List Int)(L L':List (Addr×List Int)):Prop:=(k∈L.map (·.2)->L'=L)/\(k∉L.map (·.2)->L'.Perm ((x,k)::L))
theorem pf{Q:Bool->Shared->Prop}(R:SetTR P w s.heap a L es ep t)(hx:IsT P w s.heap k x)(hu:A.units<cLine)(hfew:L.length+1<64)
  (hQ:∀b h' tk L' es' ep' t',Heap.SameBut a s.heap h'->SetTR P w h' a L' es' ep' t'->nK x k L L'->Q b { s with heap:=h',toks:=tk }):wpAny (model P w) A (setAdd a (.ref x)) Q E s:=by
 unfold setAdd
 exact wpAny_holding (wpAny_bind (wpAny_pyHash_tuple hu hx (add_at (s:={ s with toks:=s.toks+(k.length+1) }) R hx hu hfew λb h' L' es' ep' t' sb R' c1 c2=>hQ b h' _ L' es' ep' t' sb R' ⟨c1,c2⟩)))
theorem qb{Q:Value->Shared->Prop}(R:SetTR P w s.heap a L es ep t)(hx:IsT P w s.heap k x)(hu:A.in1.units<cLine)(hfew:L.length+1<64)
  (hQ:∀h' tk L' es' ep' t',Heap.SameBut a s.heap h'->SetTR P w h' a L' es' ep' t'->nK x k L L'->Q .none { s with heap:=h',toks:=tk }) :
  wpAny (model P w) A (call (.builtin "set.add") [.ref a,.ref x]) Q E s:=by
 obtain⟨o,ho,hex,_⟩:=id R.ob
 have e1:Builtin.Frozenset.oneOther "add" ⟨[.ref a,.ref x],[]⟩=pure (a,Value.ref x):=rfl
 have go:wpAny (model P w) A.in1 (setAdd a (.ref x) >>= λ_=>ret Value.none) (λf s'=>∃v,f=.done (.ret v)/\Q v s') E s :=
  wpAny_bind (pf R hx hu hfew λb h' tk L' es' ep' t' sb R' c=>wpAny_pure ⟨Value.none,rfl,hQ h' tk L' es' ep' t' sb R' c⟩)
 refine wpAny_call_entry F.slot_set_add ⟨o,ho,hex.1⟩ F.entry_set_add ?_ (F.args_set_add_2 _ _)
 unfold Builtin.«set.add»
 rw[e1]
 exact wpAny_bind (wpAny_pure go)
end
section
variable {X:Cx} {tg elt iter:Expr} {ifs:List Expr} {scope:Scope} {pos:Pos} {g:TG} {tt:TT} {te:TE}
theorem sQ{pins:List (Addr×Obj)}{σ:L2.St}{H:Hp}{s:Shared}{E:Value->Shared->Prop}{D x:Addr}{L:List (Addr×List Int)}{k:List Int}{Q:Value->Shared->Prop}(I:Inv X pins σ H s)(hD:H D=some (SetTO X.prog X.w D L))(hL:∀p∈L,SqT X.K H p.1 (p.2.map V.int))
  (hx:SqT X.K H x (k.map V.int)) (hf:L.length+1<64) (hu:X.A.units+64<cLine)
  (h:∀s' L',Inv X pins σ (upd H D (SetTO X.prog X.w D L')) s'->nK x k L L'->Q .none s'):wpAny (model X.prog X.w) X.A (call (.builtin "set.add") [.ref D,.ref x]) Q E s:=by
 obtain⟨es,ep,t,R⟩:=(show SetT0 X.prog X.w s.heap D L from (I.hok D _ hD).1).full λp hp=>I.isT (hL p hp)
 refine qb R (I.isT hx) (by show X.A.units+1<cLine; omega) hf λh' tk L' es' ep' t' sb R' c=>h _ L' ?_ c
 refine I.write (e:=D) (t':=tk) (by rw[hD]; trivial) (.inl rfl) (λb u hb hu=>(sb.2 b hb).trans hu) ?_ (setTO_new R'.t0)
 obtain⟨o,ho,_⟩:=R'.ob
 exact⟨o,ho⟩
/-- the item's end: it is a tuple of ints,and the set at D takes it -/
def wI(P:Program)(w:World)(K:PySem.W.Frag)(D:Addr)(Nx:Hp->Prop):VK:=λy H=>∃(L:List (Addr×List Int)) (x:Addr) (k:List Int),y=.ref x/\SqT K H x (k.map V.int)/\H D=some (SetTO P w D L)/\(∀p∈L,SqT K H p.1 (p.2.map V.int))/\L.length+1<64 /\
 ∀L',nK x k L L'->Nx (upd H D (SetTO P w D L'))
/-- one turn of the loop -/
def Trn(P:Program)(w:World)(K:PySem.W.Frag)(D:Addr)(J:It)(g:TG)(tt:TT)(te:TE)(vs:List Nat)(σ:St)(W:Nat->Nat->Hp->Prop)(Qd:Hp->Prop)(i m:Nat)(H:Hp):Prop :=
 (J.stop i H/\Qd H)\/(J.go i H/\∃Nx:Hp->Prop,(∀H',Nx H'->∃m',m'<m/\W (i+1) m' H')/\∀x H',J.yld i H x H'->g x (wipe σ vs) H' λσ2 H2=>wipe σ2 vs=wipe σ vs/\tt σ2 H2 λb H3 =>
  if b=true then te σ2 H3 (wI P w K D Nx) else Nx H3)
/-- the comprehension -/
def tSt(P:Program)(w:World)(K:PySem.W.Frag)(wi:TI)(g:TG)(tt:TT)(te:TE)(vs:List Nat):TE:=λσ H Q=>wi σ H λJ H1=>∀D,H1 D=none->∃W:Nat->Nat->Hp->Prop,(∃m,W 0 m (upd H1 D (SetTO P w D [])))/\∀i m H,W i m H->Trn P w K D J g tt te vs σ W (Q (.ref D)) i m H
/-- where the loop stands,seen from the block Y -/
def hZ(Y:Cx)(σw:St)(tn:Nat->Heap->Prop)(fp:List Addr)(W:Nat->Nat->Hp->Prop)(n:Nat)(s:Shared):Prop :=
 ∃i H,Inv Y [] σw H s/\tn i s.heap/\(∀b∈fp,H b=none)/\W i n H
section
variable {Y:Cx} {J:It} {fp:List Addr} {it D:Addr} {tn:Nat->Heap->Prop} {σ:St} {vs:List Nat} {W:Nat->Nat->Hp->Prop} {Qd:Hp->Prop} {R:Result->Shared->Prop}
theorem e8(T:Turn Y.prog Y.w Y.K tg J fp it tn){σ8:St}{i m n:Nat}{H:Hp}{h7:Heap}{s:Shared}(hσ:wipe σ8 vs=wipe σ vs)(t7:tn i h7)(I:Inv Y ([]++pinsAt fp h7) σ8 H s)(hw:W i m H)(hm:m<n):∃m,m<n/\hZ Y (wipe σ vs) tn fp W m s:=by
 have at7:∀b∈fp,∀o,h7.get? b=some o->s.heap.get? b=some o/\H b=none:=λb hb o e=>by
  obtain⟨e1,e2,_⟩:=I.pin (b,o) (List.mem_append_right _ (List.mem_append_right _ (mem_pinsAt hb e)))
  exact⟨e1,e2⟩
 have keep:∀j v,(wipe σ vs)[j]? =some (some v)->σ8[j]? =some (some v):=λj v e=>by
  rw[<-hσ] at e
  exact(wipe_some e).1
 have len:(wipe σ vs).length=σ8.length:=by rw[<-hσ]; exact wipe_length _ _
 refine⟨m,hm,i,H,I.unpinned.weak len keep,T.keep i h7 s.heap t7 λb hb o e=>(at7 b hb o e).1,λb hb=> ?_,hw⟩
 obtain⟨o,e,_⟩:=T.obj i h7 t7 b hb
 exact(at7 b hb o e).2
theorem ji(hc:Y.calm=true)(hu:Y.A.units+64<cLine)(hx:∀e s,¬Y.xe e s)(T:Turn Y.prog Y.w Y.K tg J fp it tn)(pg:PG Y tg g)(pt:PTs Y ifs tt)(pe:PE Y elt te)
  (stat:∀σ' H' s',Inv Y [] σ' H' s'->(∀b∈fp,H' b=none)->∀b∈fp,FpOk Y [] H' b) (turn:∀i m H,W i m H->Trn Y.prog Y.w Y.K D J g tt te vs σ W Qd i m H)
  (done:∀H s,Inv Y [] (wipe σ vs) H s->Qd H->R (.ok .next) s) {n:Nat} {s:Shared} (h:hZ Y (wipe σ vs) tn fp W n s) :
  wpAny (model Y.prog Y.w) Y.A (pyNext (.ref it)) (λr s₁=>match r with
   | none=>R (.ok .next) s₁
   | some v=>wpAny (model Y.prog Y.w) Y.A (letOwnedTupleGo tg (.ref it) v) (λ_ s₁'=>wpAny (model Y.prog Y.w) Y.A (assign tg Y.env v) (λ_ s₂ =>
    wpAny (model Y.prog Y.w) Y.A (forIn ifs true λc r=>if r=true then do let ok <-isTrue c Y.env (eval c Y.env); pure (ForInStep.yield ok) else pure (ForInStep.yield r)) (λok s₃ =>
     if ok=true then wpAny (model Y.prog Y.w) Y.A (eval elt Y.env) (λx s₄ =>
      wpAny (model Y.prog Y.w) Y.A (call (.builtin "set.add") [.ref D,x]) (λ_ s₅=>∃m,m<n/\hZ Y (wipe σ vs) tn fp W m s₅) (notedBy (model Y.prog Y.w) Y.A Y.env λe s'=>R (.error e) s') s₄) (notedBy (model Y.prog Y.w) Y.A Y.env λe s'=>R (.error e) s') s₃
     else ∃m,m<n/\hZ Y (wipe σ vs) tn fp W m s₃) (notedBy (model Y.prog Y.w) Y.A Y.env λe s'=>R (.error e) s') s₂) (notedBy (model Y.prog Y.w) Y.A Y.env λe s'=>R (.error e) s') s₁') (notedBy (model Y.prog Y.w) Y.A Y.env λe s'=>R (.error e) s') s₁) (notedBy (model Y.prog Y.w) Y.A Y.env λe s'=>R (.error e) s') s:=by
 obtain⟨i,H,I,ht,hf,hw⟩:=h
 rcases turn i n H hw with ⟨hs,hq⟩|⟨hg,Nx,hN,step⟩
 .refine wpAny_mono (T.done Y rfl rfl rfl hc i [] s _ H (λ_ _=>False) I (stat _ _ _ I hf) ht hs) (λr s1 z=> ?_) λ_ _ z=>z.elim
  rw[z.1]
  exact done H s1 z.2 hq
 .refine wpAny_mono (T.item Y rfl rfl rfl hc i [] s _ H (λ_ _=>False) I (stat _ _ _ I hf) ht hg) (λr s1 z=> ?_) λ_ _ z=>z.elim
  obtain⟨u,rfl,z⟩:=z
  refine wpAny_mono z (λ_ s2 z=> ?_) λ_ _ z=>z.elim
  obtain⟨x,H2,I2,rx,hy,ht2,hf2⟩:=z
  have J2:=I2.pinned (stat _ _ _ I2 hf2) (T.obj _ _ ht2)
  refine wpAny_mono (pg.run _ s2 _ H2 x u _ J2 rx (step x H2 hy)) (λ_ s3 z=> ?_) λe s z=>(hx e s z).elim
  obtain⟨σ3,H3,I3,hσ,q3⟩:=z
  refine wpAny_mono (pt.run _ s3 σ3 H3 _ I3 q3) (λb s4 z=> ?_) λe s z=>(hx e s z).elim
  obtain⟨H4,I4,q4⟩:=z
  cases b with
  | false =>
   obtain⟨m',hm,w'⟩:=hN H4 q4
   exact e8 T hσ ht2 I4 w' hm
  | true =>
   refine wpAny_mono (pe.run _ s4 σ3 H4 _ I4 q4) (λv s5 z=> ?_) λe s z=>(hx e s z).elim
   obtain⟨y,H5,I5,ry,L,b,k,rfl,hb,hD,hL,hfew,nx⟩:=z
   obtain rfl:v=Value.ref b:=ry
   refine sQ I5 hD hL hb hfew hu λs6 L' I6 c=> ?_
   obtain⟨m',hm,w'⟩:=hN _ (nx L' c)
   exact e8 T hσ ht2 I6 w' hm
end
theorem tQ{own:List (Str×Nat)}{wi:TI}(hc:X.calm=true)(hu:X.A.units+64<cLine)(hN:X.N.Nodup)(hi:PI X tg iter wi)(ok:BlkOk X.N X.env.scope scope own)(hg:Blk X scope λY=>PG Y tg g)(ht:Blk X scope λY=>PTs Y ifs tt)(he:Blk X scope λY=>PE Y elt te)
  (hs:∀x,foldedSetIterable iter X.env x=pure x:=by intro _; rfl):PE X (.SetComp elt [⟨tg,iter,ifs,0⟩] scope pos) (tSt X.prog X.w X.K wi g tt te (own.map (·.2))):=by
 refine⟨λpins s σ H Q I h=> ?_⟩
 rw[PpSet.eval_SetComp]
 have cells:∀y∈scope.names,y.2=.free->∃c,X.env.cells.lookup y.1=some c:=λy hy e=>I.ok.has _ (ok.free y hy e)
 refine wpAny_comprehension_free rfl hs (closure_ok cells) ok.kind (λy hy e=>by rw[ok.uniq y hy,e])
  (wpAny_mono (hi.run pins s σ H _ I h) (λv s1 hx=>wpAny_mono hx (λitv s2 z=> ?_) λ_ _ z=>z) λ_ _ z=>z)
 obtain⟨it,fp,tn,J,H2,rfl,I2,T,t2,f2,q⟩:=z
 refine PpSet.newSet_ok (newEnv_comp ?_)
 have hnew:H2 s2.heap.objs.size=none:=I2.hok.fresh (Nat.le_refl _)
 obtain⟨W,⟨m0,w0⟩,turn⟩:=q _ hnew
 have grow:∀b o,s2.heap.get? b=some o->(s2.heap.push { cls:=.type "set",dict:=none,data:=.set #[] 0 (.fresh 0 0 (!X.w.params.followText "set-order")) }).get? b=some o:=λb o e=>Heap.get?_push_of_some _ e
 have I3:Inv X pins σ (upd H2 s2.heap.objs.size (SetTO X.prog X.w s2.heap.objs.size [])) { s2 with heap:=s2.heap.push { cls:=.type "set",dict:=none,data:=.set #[] 0 (.fresh 0 0 (!X.w.params.followText "set-order")) } } :=
  I2.laid (t':=s2.toks) grow (Nat.le_refl _) (setTO_new (setTR_fresh (Heap.get?_push_size _ rfl)).t0)
 have f3:∀b∈fp,FpOk X pins (upd H2 s2.heap.objs.size (SetTO X.prog X.w s2.heap.objs.size [])) b/\b<(s2.heap.push { cls:=.type "set",dict:=none,data:=.set #[] 0 (.fresh 0 0 (!X.w.params.followText "set-order")) }).objs.size:=λb hb=>by
  obtain⟨o,e,_⟩:=T.obj _ _ t2 b hb
  have lt:=Heap.lt_size e
  refine⟨⟨?_,(f2 b hb).2⟩,by rw[Heap.size_push]; exact Nat.lt_succ_of_lt lt⟩
  rw[upd_ne (Nat.ne_of_lt lt)]
  exact(f2 b hb).1
 have t3:=T.keep _ _ _ t2 λb _ o e=>grow b o e
 generalize hs3:({ s2 with heap:=s2.heap.push { cls:=.type "set",dict:=none,data:=.set #[] 0 (.fresh 0 0 (!X.w.params.followText "set-order")) } }:Shared)=s3 at I3 ⊢
 have h3:s3.heap=s2.heap.push { cls:=.type "set",dict:=none,data:=.set #[] 0 (.fresh 0 0 (!X.w.params.followText "set-order")) }:=by rw[<-hs3]
 rw[<-h3] at f3 t3
 generalize s2.heap.objs.size=D at *
 generalize hH3:upd H2 D (SetTO X.prog X.w D [])=H3 at *
 have I4:=block_start I3 ok hN f3
 have pg:=hg s3 H3 s3.heap.objs.size (cellsFrom (s3.heap.objs.size+1) scope.names (cloFrom X.env.cells scope.names [])) fp
 have pt:=ht s3 H3 s3.heap.objs.size (cellsFrom (s3.heap.objs.size+1) scope.names (cloFrom X.env.cells scope.names [])) fp
 have pe:=he s3 H3 s3.heap.objs.size (cellsFrom (s3.heap.objs.size+1) scope.names (cloFrom X.env.cells scope.names [])) fp
 show codeAny _ _ (.compStart (.SetComp elt [⟨tg,iter,ifs,0⟩] scope pos) 0 (.ref it) (.ref D) (compEnvC scope (cellsFrom (s3.heap.objs.size+1) scope.names (cloFrom X.env.cells scope.names [])) s3.heap.objs.size X.env)) (compPost (model X.prog X.w) X.A X.xe none _ (.ref D) s3.heap.objs.size) { s3 with heap:=pushCells (s3.heap.push { cls:=.type "dict",data:=.dict #[] }) scope.names }
 generalize hce:compEnvC scope (cellsFrom (s3.heap.objs.size+1) scope.names (cloFrom X.env.cells scope.names [])) s3.heap.objs.size X.env=ce at I4 pg pt pe ⊢
 have cL:ce.locals=s3.heap.objs.size:=by subst hce; rfl
 have t4:tn 0 (pushCells (s3.heap.push { cls:=.type "dict",data:=.dict #[] }) scope.names):=T.keep _ _ _ t3 λb _ o e=>pushCells_keeps _ _ _ _ (Heap.get?_push_of_some _ e)
 generalize hs4:({ s3 with heap:=pushCells (s3.heap.push { cls:=.type "dict",data:=.dict #[] }) scope.names }:Shared)=s4 at I4 ⊢
 have t4':tn 0 s4.heap:=by rw[<-hs4]; exact t4
 have none3:∀b∈fp,H3 b=none:=λb hb=>(f3 b hb).1.1
 have stat:∀σ' H' s',Inv (X.blk s3 H3 scope ce fp) [] σ' H' s'->(∀b∈fp,H' b=none)->∀b∈fp,FpOk (X.blk s3 H3 scope ce fp) [] H' b:=λσ' H' s' I' hn b hb=>by
  obtain⟨g1,g2⟩:=I'.ok.exf b hb
  refine⟨hn b hb,g1,I'.ok.exfs b hb,.inl hb,λx c e=>g2 x c e,λp hp=> ?_⟩
  have hp':p∈([]:List (Addr×Obj))++[]:=hp
  cases hp'
 have back:∀H' s',Inv (X.blk s3 H3 scope ce fp) [] (wipe σ (own.map (·.2))) H' s'->Q (.ref D) H'->compPost (model X.prog X.w) X.A X.xe none (EP X pins σ Q) (.ref D) s3.heap.objs.size (.ok .next) s':=λH' s' I' hq=>by
  have I7:Inv X pins σ H' s':=I3.call' (ch:=fp) I'.os I'.base I'.hok I'.bare λb hb=>by
   obtain⟨_,g1,_,g3,g4,g5⟩:=(f3 b hb).1
   exact⟨g3,g1,g4,g5⟩
  have free:H' s3.heap.objs.size=none:=by rw[<-cL]; exact I'.free
  obtain⟨m,hm,_⟩:=I'.loc
  obtain⟨k0,k1,_,k3,k4,k5⟩:=I3.fpOk (Nat.le_refl _) free
  exact⟨m,by rw[<-cL]; exact hm,λh'' sb=>⟨.ref D,H',I7.turned (t':=s'.toks) (λb o hb e=>(sb.2 b hb).trans e) k0 k1 k3 k4 k5,rfl,hq⟩⟩
 have loop:codeAny (model X.prog X.w) X.A (.compLoop (.SetComp elt [⟨tg,iter,ifs,0⟩] scope pos) 0 (.ref it) (.ref D) ce) (compPost (model X.prog X.w) X.A X.xe none (EP X pins σ Q) (.ref D) s3.heap.objs.size) s4 :=
  PpSet.compLoopS_any (hZ (X.blk s3 H3 scope ce fp) (wipe σ (own.map (·.2))) tn fp W) (λn s5 h5=>ji (Y:=X.blk s3 H3 scope ce fp) hc hu (λ_ _ z=>z) T pg pt pe stat turn back h5) m0 ⟨0,H3,I4,t4',none3,w0⟩
 exact PpSet.codeAny_compStart_set loop (T.self X.A 0 _ _ _ t4' loop)
end
end
section
abbrev IP:=Int×Int
def pL(p:IP):List Int:=[p.1,p.2]
def jZ(acc:List IP)(p:IP):List IP:=if p∈acc then acc else p::acc
def okP(p:IP)(acc:List IP):Bool:=decide (0<=p.1/\p.1<64/\0<=p.2/\p.2<64/\acc.length+1<64)
def prD:D->Option IP
 | .tup [.int i,.int j]=>some (i,j)
 | _=>none
theorem qC{d:D}{p:IP}(h:prD d=some p):d=.tup [.int p.1,.int p.2]:=by
 unfold prD at h
 split at h
 .cases h; rfl
 .cases h
def ssL (t:Tg)(c el:Ev):List D->List IP->Fr->HB->Option (List IP×HB)
 | [],acc,_,hb=>some (acc,hb)
 | d ::ds,acc,fr,hb=>match stT t d fr with
  | none=>none
  | some fr1=>match c fr1 hb with
   | some (.ok (.bl true),hb1)=>(match el fr1 hb1 with
    | some (.ok y,hb2)=>(match prD y with
     | some p=>if okP p acc then ssL t c el ds (jZ acc p) fr hb2 else none
     | none=>none)
    | _=>none)
   | some (.ok (.bl false),hb1)=>ssL t c el ds acc fr hb1
   | _=>none
def cSs(iv:Iv)(t:Tg)(vs:List Nat)(c el:Ev):Cv:=λfr hb=>match iv fr hb with
 | some (.inl (.ls ds _),hb1)=>(match ssL t c el ds [] (wipeF fr vs) hb1 with
  | some (acc,hb2)=>some (.inl (.lst ((fq acc).map dP)),hb2)
  | none=>none)
 | some (.inr x,hb1)=>some (.inr x,hb1)
 | _=>none
theorem tD{p q:IP}(h:pL p=pL q):p=q:=by
 unfold pL at h
 injection h with h1 h
 injection h with h2 _
 exact Prod.ext h1 h2
theorem pL_mem{p:IP}{acc:List IP}:pL p∈acc.map pL<->p∈acc:=by
 constructor
 .intro h
  obtain⟨q,hq,e⟩:=List.mem_map.mp h
  rw[<-tD e]; exact hq
 .exact λh=>List.mem_map.mpr ⟨p,h,rfl⟩
theorem lA{a:Addr}{p:IP}{L L':List (Addr×List Int)}{acc:List IP}(h:(L.map (·.2)).Perm (acc.map pL))(c:nK a (pL p) L L'):(L'.map (·.2)).Perm ((jZ acc p).map pL)/\∀q∈L',q∈L\/q=(a,pL p):=by
 unfold jZ
 by_cases hp:p∈acc
 .have e:=c.1 (h.mem_iff.mpr (pL_mem.mpr hp))
  rw[if_pos hp,e]
  exact⟨h,λq hq=>.inl hq⟩
 .have e:=c.2 λz=>hp (pL_mem.mp (h.mem_iff.mp z))
  rw[if_neg hp]
  refine⟨(e.map (·.2)).trans (by rw[List.map_cons,List.map_cons]; exact h.cons _),λq hq=> ?_⟩
  rcases List.mem_cons.mp (e.mem_iff.mp hq) with z|z
  .exact .inr z
  .exact .inl z
theorem pJ(acc:List IP)(p:IP):(jZ acc p).length<=acc.length+1:=by
 unfold jZ
 split<;>simp
section
variable {K:PySem.W.Frag} {M:Addr->Prop} {m:List Addr} {H:Hp} {hb:HB} {p:Addr}
/-- an own thing is let go -/
theorem Wd.drop(w:Wd K (Mp M p) m H hb):Wd K M m H hb:=by
 have k:Keeps (Bd (Mp M p) m) (Bd M m) m m H H:=⟨⟨[],by simp⟩,λa o e n=>⟨e,λz=>n (z.elim (λz=>.inl (.inl z)) .inr)⟩⟩
 exact⟨w.nd,λa ha z=>w.no a ha (.inl z),λa z=>w.mt a (.inl z),w.len,λn a ob h1 h2=>(w.ob n a ob h1 h2).keep_own k λu e=>e⟩
theorem FzT.keep{B B':Addr->Prop}{m m':List Addr}{H H':Hp}{a:Addr}{vs:List V}(h:FzT K B H a vs)(k:Keeps B B' m m' H H'):FzT K B' H' a vs:=k.fr a _ h.1 h.2
end
section
variable {J:It} {n:Nat} {G:Hp->Prop} {Y:Nat->Hp->V->Hp->Prop} {P:Program} {wd:World} {K:PySem.W.Frag}
theorem v7(w:Walk J n G Y){g:TG}{tt:TT}{te:TE}{vs:List Nat}{σ:St}{H1:Hp}{D:Addr}{Qd:Hp->Prop}(Pv:Nat->Hp->Prop)(h0:Pv 0 (upd H1 D (SetTO P wd D [])))(hG:∀i H,i<=n->Pv i H->G H)
  (hs:∀i x H H',i<n->Pv i H->Y i H x H'->g x (wipe σ vs) H' λσ2 H2=>wipe σ2 vs=wipe σ vs/\tt σ2 H2 λb H3=>if b=true then te σ2 H3 (wI P wd K D (Pv (i+1))) else Pv (i+1) H3) (hd:∀H,Pv n H->Qd H) :
  ∃W:Nat->Nat->Hp->Prop,(∃m,W 0 m (upd H1 D (SetTO P wd D [])))/\∀i m H,W i m H->Trn P wd K D J g tt te vs σ W Qd i m H:=by
 refine⟨λi m H=>m=n - i/\i<=n/\Pv i H,⟨n,by simp,Nat.zero_le _,h0⟩,?_⟩
 rintro i m H ⟨rfl,hi,pv⟩
 have q:=hG i H hi pv
 rcases Nat.lt_or_ge i n with hlt|hge
 .exact .inr ⟨w.goes i H hlt q,Pv (i+1),λH' p'=>⟨n - (i+1),by omega,rfl,hlt,p'⟩,λx H' y=>hs i x H H' hlt pv (w.yields i H x H' hlt q y)⟩
 .obtain rfl:i=n:=Nat.le_antisymm hi hge
  exact .inl ⟨w.stops H q,hd H pv⟩
end
/-- the pair of a tuple -/
def prL:List Int->IP
 | [i,j]=>(i,j)
 | _=>(0,0)
theorem u5(p:IP):prL (pL p)=p:=rfl
theorem jR{acc:List IP}{k:List Int}(h:k∈acc.map pL):prL k∈acc/\k=pL (prL k):=by
 obtain⟨p,hp,rfl⟩:=List.mem_map.mp h
 exact⟨hp,rfl⟩
def smP(p:IP):Prop:=0<=p.1/\p.1<64/\0<=p.2/\p.2<64
theorem ik{acc:List IP}{L L':List (Addr×List Int)}(hs:∀p∈acc,smP p)(h:(L.map (·.2)).Perm (acc.map pL))(pm:L'.Perm L)(pw:L'.Pairwise λq r=>TS.code 64 q.2<=TS.code 64 r.2):L'.map (λq=>prL q.2)=fq acc/\∀q∈L',q.2=pL (prL q.2):=by
 have mem:∀q∈L',q.2∈acc.map pL:=λq hq=>h.mem_iff.mp (List.mem_map.mpr ⟨q,pm.mem_iff.mp hq,rfl⟩)
 refine⟨bK (λa b=>SrtO.lexB b a=false) (λa b h1 h2=>ir h1 h2) ?_ (List.pairwise_map.mpr ?_) (fY acc),λq hq=>(jR (mem q hq)).2⟩
 .have e1:(L'.map λq=>prL q.2).Perm ((acc.map pL).map prL):=by
   have:=((pm.map (·.2)).trans h).map prL
   rw[List.map_map] at this
   exact this
  have e2:(acc.map pL).map prL=acc:=by
   rw[List.map_map]
   exact(List.map_congr_left λp _=>u5 p).trans (List.map_id _)
  rw[e2] at e1
  exact e1.trans (List.mergeSort_perm _ _).symm
 .refine pw.imp_of_mem λ{q r} hq hr hle=> ?_
  obtain⟨m1,e1⟩:=jR (mem q hq)
  obtain⟨m2,e2⟩:=jR (mem r hr)
  have s1:=hs _ m1
  have s2:=hs _ m2
  rw[e1,e2] at hle
  unfold pL at hle
  rw[code_pair,code_pair] at hle
  unfold smP at s1 s2
  refine SrtO.lexB_no.mpr ?_
  omega
theorem eA{K:PySem.W.Frag}{B:Addr->Prop}{m:List Addr}{H:Hp}:∀(L:List (Addr×List Int)),(∀q∈L,FzT K B H q.1 (q.2.map V.int))->(∀q∈L,q.2=pL (prL q.2))->RelDs K B m H ((L.map λq=>prL q.2).map dP) (L.map λq=>V.ref q.1)
 | [],_,_=>RelDs.nil'
 | q::L,h,e=>by
  have h1:=h q List.mem_cons_self
  rw[e q List.mem_cons_self] at h1
  rw[List.map_cons,List.map_cons,List.map_cons]
  refine RelDs.cons ?_ (eA L (λr hr=>h r (List.mem_cons_of_mem _ hr)) λr hr=>e r (List.mem_cons_of_mem _ hr))
  show RelD K B m H (.tup [.int _,.int _]) _
  unfold RelD
  refine⟨q.1,_,rfl,h1,?_⟩
  exact RelDs.cons (by unfold RelD; rfl) (RelDs.cons (by unfold RelD; rfl) RelDs.nil')
end
section
section
variable {X:Cx} {W:WX} {pos:Pos} {tg iter elt:Expr} {ifs:List Expr} {scope:Scope} {own:List (Str×Nat)} {iv:Iv} {t:Tg} {c el:Ev}
theorem qe {K : PySem.W.Frag}{P:Program}{w:World}{σ:St}{H:Hp}{vs:List Nat}{Q:VK}(hv:∀i∈t.slots,i∈vs)(h:tC' K W (cSs iv t vs c el) σ H Q):tCB (rSortedT K P w) (tCons (tSt P w K (tI K W iv) (gT K t) (tT K W0 c) (tE K W0 el) vs) tNil) σ H Q:=by
 obtain⟨M,m,hb,fr,r,hb',at_,e,cc⟩:=h
 unfold cSs at e
 show tSt P w K (tI K W iv) (gT K t) (tT K W0 c) (tE K W0 el) vs σ H (λx H1=>rSortedT K P w [x] H1 Q)
 split at e
 .rename_i ds fz hb1 e1
  split at e
  .rename_i accF hb2 e2
   cases e
   refine⟨M,m,hb,fr,.inl (.ls ds fz),hb1,at_,e1,λm1 H1 s1 J Gd Y wd p hp=> ?_⟩
   have a1:=at_.step s1
   have w1:=a1.wd.grow (o:=SetTO P w p []) hp
   have old:∀a o,H1 a=some o->upd H1 p (SetTO P w p []) a=some o:=λa o q=>by rw[upd_ne (ne_of_none q hp)]; exact q
   have f1:FrR K (Mp M p) m1 (upd H1 p (SetTO P w p [])) fr σ:=⟨a1.fr.1,λi sv q=>by
    obtain⟨x,q1,r1⟩:=a1.fr.2 i sv q
    cases sv with
    | un=>exact⟨x,q1,trivial⟩
    | sh d =>
     obtain⟨v,q2,r2⟩:=r1
     exact⟨x,q1,v,q2,r2.keep (Keeps.grow hp)⟩
    | ow o =>
     obtain⟨a,q2,hM,nm,r2⟩:=r1
     exact⟨x,q1,a,q2,.inl hM,nm,r2.keep_own (Keeps.grow hp) λu q=>old a u q⟩⟩
   refine v7 wd.walk (λi H2=>∃m2 hb2' acc L,H2 p=some (SetTO P w p L)/\(L.map (·.2)).Perm (acc.map pL)/\(∀q∈L,FzT K (Bd (Mp M p) m2) H2 q.1 (q.2.map V.int))/\(∀q∈acc,smP q)/\At K (Mp M p) m2 H2 hb2' fr σ/\(∃l,m2=m1++l)/\(∀a∈m2,a∉m1->H1 a=none)/\(∀a o,H1 a=some o->a∉m1->H2 a=some o) /\
    ssL t c el (ds.drop i) acc (wipeF fr vs) hb2'=some (accF,hb')) ⟨m1,hb1,[],[],upd_same,List.Perm.refl _,λq hq=>(List.not_mem_nil hq).elim,λq hq=>(List.not_mem_nil hq).elim,⟨w1,f1⟩,⟨[],by simp⟩,λa h n=>absurd h n,λa o q _=>old a o q,e2⟩ ?_ ?_ ?_
   .rintro i H2 hi ⟨m2,hb3,acc,L,q1,q2,qL,qs,q3,q4,q5,q6,q7⟩
    refine wd.stand H2 λa o q nb=>q6 a o q λz=>nb ?_
    cases fz with
    | true=>exact .inr z
    | false=>exact z
   .rintro i x H2 H3 hi ⟨m2,hb3,acc,L,q1,q2,qL,qs,q3,q4,q5,q6,q7⟩ y
    have kk:Keeps (Bd M m1) (Bd (Mp M p) m2) m1 m2 H1 H2:=⟨q4,λa o q n=>by
     have n1:a∉m1:=λz=>n (.inr z)
     refine⟨q6 a o q n1,λz=> ?_⟩
     rcases z with (z|z)|z
     .exact n (.inl z)
     .subst z; rw[hp] at q; cases q
     .have:=q5 a z n1
      rw[q] at this; cases this⟩
    obtain⟨d,hd,rd⟩:=wd.item i H2 x H3 hi y _ m2 kk λa ha=>b6 q3.wd ha
    have st3:Stp K (Mp M p) m2 H2 m2 H3 hb3:=by
     rcases wd.heap i H2 x H3 y with rfl|⟨a,ws,ha,rfl⟩
     .exact Stp.refl q3.wd
     .exact q3.wd.laid ha
    have a3:=q3.step st3
    have pn3:p∉m2:=λz=>q3.wd.no p z (.inr rfl)
    have q1':H3 p=some (SetTO P w p L):=st3.fr p _ q1 pn3
    have hdrop:ds.drop i=d::ds.drop (i+1):=by
     have hlt:=(List.getElem?_eq_some_iff.mp hd).1
     rw[List.drop_eq_getElem_cons hlt,(List.getElem?_eq_some_iff.mp hd).2]
    rw[hdrop] at q7
    unfold ssL at q7
    split at q7
    .cases q7
    .rename_i fr1 z1
     refine qm (a3.wipe vs) rd z1 hv λσ4 a4 ws=>⟨ws.trans (iL σ vs),?_⟩
     have since:∀{m4:List Addr} {H4:Hp} {hb4:HB},Stp K (Mp M p) m2 H3 m4 H4 hb4->(∃l,m4=m1++l)/\(∀a∈m4,a∉m1->H1 a=none)/\(∀a o,H1 a=some o->a∉m1->H4 a=some o):=λs4=>by
      have st:=st3.trans s4
      obtain⟨l,hl⟩:=q4
      obtain⟨l2,hl2⟩:=st.pre
      refine⟨⟨l++l2,by rw[hl2,hl,List.append_assoc]⟩,λa ha hn=> ?_,λa o q hn=>st.fr a o (q6 a o q hn) λz=> ?_⟩
      .by_cases h2:a∈m2
       .exact q5 a h2 hn
       .have no2:=st.new a ha h2
        cases q:H1 a with
        | none=>rfl
        | some o=>have z:=q6 a o q hn; rw[no2] at z; cases z
      .have no1:=q5 a z hn
       rw[q] at no1; cases no1
     split at q7
     .rename_i hb4 z2
      refine⟨Mp M p,m2,hb3,fr1,.ok (.bl true),hb4,a4.wd,a4.fr,z2,λm4 H4 s4=>⟨true,rfl,ift ?_⟩⟩
      split at q7
      .rename_i yd hb5 z3
       split at q7
       .rename_i pr hpr
        split at q7
        .rename_i hok
         have okk:=of_decide_eq_true hok
         refine b3 (a4.step s4) z3 λm5 H5 s5 yv ry=> ?_
         obtain rfl:=qC hpr
         have s45:=s4.trans s5
         have p5:p∉m5:=λz=>s5.wd.no p z (.inr rfl)
         have q5':H5 p=some (SetTO P w p L):=s45.fr p _ q1' pn3
         have a5:=a3.step s45
         have qL5:∀q∈L,FzT K (Bd (Mp M p) m5) H5 q.1 (q.2.map V.int):=λq hq=>(qL q hq).keep (st3.trans s45).keeps
         obtain⟨g1,g2,g3⟩:=since s45
         have ry':RelD K (Bd (Mp M p) m5) m5 H5 (.tup [.int pr.1,.int pr.2]) yv:=ry
         unfold RelD at ry'
         obtain⟨b,us,rfl,hf,rus⟩:=ry'
         obtain⟨v1,r1,rfl,i1,rus⟩:=rus
         obtain⟨v2,r2,rfl,i2,rus⟩:=rus
         unfold RelD at i1 i2
         subst i1
         subst i2
         obtain rfl:r2=[]:=rus
         have hlen:L.length=acc.length:=by simpa using q2.length_eq
         refine⟨L,b,pL pr,rfl,.inl (.inl hf.1),q5',λq hq=>.inl (.inl (qL5 q hq).1),by omega,λL' ad=> ?_⟩
         obtain⟨pm,from_⟩:=lA q2 ad
         have kw:Keeps (Bd (Mp M p) m5) (Bd (Mp M p) m5) m5 m5 H5 (upd H5 p (SetTO P w p L')):=⟨⟨[],by simp⟩,λa o q n=>⟨by
          have ne:a≠p:=λz=>n (.inl (.inr z))
          rw[upd_ne ne]; exact q,n⟩⟩
         have nep:∀a∈m5,a≠p:=λa ha z=>p5 (by rw[<-z]; exact ha)
         have wdw:Wd K (Mp M p) m5 (upd H5 p (SetTO P w p L')) hb5:=by
          refine⟨s5.wd.nd,s5.wd.no,λa ha=> ?_,s5.wd.len,λn a ob h1 h2=>(s5.wd.ob n a ob h1 h2).keep_own kw λu q=> ?_⟩
          .by_cases hap:a=p
           .subst hap; exact⟨_,upd_same⟩
           .rw[upd_ne hap]; exact s5.wd.mt a ha
          .rw[upd_ne (nep a (List.mem_of_getElem? h1))]; exact q
         refine⟨m5,hb5,jZ acc pr,L',upd_same,pm,λq hq=> ?_,λq hq=> ?_,⟨wdw,a5.fr.1,λj sv q=> ?_⟩,g1,g2,λa o q hn=> ?_,q7⟩
         .rcases from_ q hq with z|z
          .exact(qL5 q z).keep kw
          .subst z
           exact FzT.keep (show FzT K (Bd (Mp M p) m5) H5 b ((pL pr).map V.int) from hf) kw
         .unfold jZ at hq
          split at hq
          .exact qs q hq
          .rcases List.mem_cons.mp hq with z|z
           .subst z; exact⟨okk.1,okk.2.1,okk.2.2.1,okk.2.2.2.1⟩
           .exact qs q z
         .obtain⟨x',q8,r8⟩:=a5.fr.2 j sv q
          cases sv with
          | un=>exact⟨x',q8,trivial⟩
          | sh d' =>
           obtain⟨v',q9,r9⟩:=r8
           exact⟨x',q8,v',q9,r9.keep kw⟩
          | ow o =>
           obtain⟨a,q9,hM,nm,r9⟩:=r8
           refine⟨x',q8,a,q9,hM,nm,r9.keep_own kw λu q=> ?_⟩
           by_cases hap:a=p
           .subst hap
            obtain⟨x0,c1,r0⟩:=a1.fr.2 j _ (by assumption)
            obtain⟨b',c2,_,_,r0'⟩:=r0
            rw[q8] at c1
            cases c1
            rw[q9] at c2
            cases c2
            obtain⟨u0,hu0⟩:=r0'.there
            rw[hp] at hu0; cases hu0
           .rw[upd_ne hap]; exact q
         .rw[upd_ne (ne_of_none q hp)]
          exact g3 a o q hn
        .cases q7
       .cases q7
      .cases q7
     .rename_i hb4 z2
      refine⟨Mp M p,m2,hb3,fr1,.ok (.bl false),hb4,a4.wd,a4.fr,z2,λm4 H4 s4=>⟨false,rfl,sX ?_⟩⟩
      obtain⟨g1,g2,g3⟩:=since s4
      exact⟨m4,hb4,acc,L,s4.fr p _ q1' pn3,q2,λq hq=>(qL q hq).keep (st3.trans s4).keeps,qs,a3.step s4,g1,g2,g3,q7⟩
     .cases q7
   .rintro H2 ⟨m2,hb3,acc,L,q1,q2,qL,qs,q3,⟨l2,hl2⟩,q5,q6,q7⟩
    rw[List.drop_length] at q7
    cases q7
    obtain⟨l1,hl1⟩:=s1.pre
    have bounds:∀q∈L,q.2.length=2/\TS.Bd 64 q.2:=λq hq=>by
     obtain⟨hm,e⟩:=jR (q2.mem_iff.mp (List.mem_map.mpr ⟨q,hq,rfl⟩))
     have hs:=qs _ hm
     rw[e]
     refine⟨rfl,λz hz=> ?_⟩
     unfold pL at hz
     unfold smP at hs
     rcases List.mem_cons.mp hz with h|hz
     .rw[h]; exact⟨hs.1,hs.2.1⟩
     .rcases List.mem_cons.mp hz with h|hz
      .rw[h]; exact⟨hs.2.2.1,hs.2.2.2⟩
      .cases hz
    refine⟨p,L,2,64,rfl,q1,λq hq=>.inl (.inl (qL q hq).1),by decide,bounds,λL' p' pm nd few pw hn=> ?_⟩
    obtain⟨eL,eq⟩:=ik qs q2 pm pw
    have wd2:=q3.wd.drop
    have nm2:∀a∈m2,a≠p':=λa ha z=>by
     obtain⟨u,hu⟩:=wd2.there ha
     rw[z,hn] at hu; cases hu
    have stays:∀a o,H a=some o->a∉m->H2 a=some o:=λa o q hn=>by
     refine q6 a o (s1.fr a o q hn) λz=> ?_
     have no1:=s1.new a z hn
     rw[q] at no1; cases no1
    have kL:∀q∈L',FzT K (Bd (Mp M p') m2) (upd H2 p' (.lst (L'.map λq=>V.ref q.1))) q.1 (q.2.map V.int):=λq hq=>by
     obtain⟨h1,h2⟩:=qL q (pm.mem_iff.mp hq)
     exact FzT.keep (show FzT K (Bd M m2) H2 q.1 (q.2.map V.int) from ⟨h1,λz=>h2 (z.elim (λz=>.inl (.inl z)) .inr)⟩) (Keeps.grow hn)
    refine cc m2 _ p' ⟨⟨l1++l2,by rw[hl2,hl1,List.append_assoc]⟩,λa ha hn'=> ?_,λa o q hn'=> ?_,wd2.grow hn,?_⟩ ⟨_,upd_same,?_⟩
    .by_cases h1:a∈m1
     .exact s1.new a h1 hn'
     .have no1:=q5 a ha h1
      cases q:H a with
      | none=>rfl
      | some o=>have z:=s1.fr a o q hn'; rw[no1] at z; cases z
    .have h2:=stays a o q hn'
     rw[upd_ne (ne_of_none h2 hn)]
     exact h2
    .cases q:H p' with
     | none=>rfl
     | some o =>
      have nm:p'∉m:=λz=>nm2 p' (by rw[hl2,hl1]; exact List.mem_append_left _ (List.mem_append_left _ z)) rfl
      have z:=stays p' o q nm
      rw[hn] at z; cases z
    .rw[<-eL]
     exact eA L' kL eq
  .cases e
 .rename_i x hb1 e1
  cases e
  exact⟨M,m,hb,fr,.inr x,_,at_,e1,λm1 H1 s1=>cc m1 H1 s1⟩
 .cases e
theorem vB{p sp:Pos}(hc:X.calm=true)(hu:X.A.units+64<cLine)(hN:X.N.Nodup)(hgl:Gl X "sorted")(hm:X.mg "sorted"=none)(hi:SI X W tg iter iv)(ok:BlkOk X.N X.env.scope scope own)(hv:∀i∈t.slots,i∈own.map (·.2))(hg:Blk X scope λY=>SG Y tg t)(ht:Blk X scope λY=>STs Y W0 ifs c)(he:Blk X scope λY=>SE Y W0 elt el)
  (hs:∀x,foldedSetIterable iter X.env x=pure x:=by intro _; rfl) (hst:starEach [Expr.SetComp elt [⟨tg,iter,ifs,0⟩] scope sp] X.env=(false,eval (.SetComp elt [⟨tg,iter,ifs,0⟩] scope sp) X.env)::starEach [] X.env:=by rfl) (hpl:(backTo pos (starEach [] X.env)).any (·.1)=false:=by rfl) :
  SC X W (.Call (.Name "sorted" p) [.SetComp elt [⟨tg,iter,ifs,0⟩] scope sp] [] pos) (cSs iv t (own.map (·.2)) c el) :=
 PE.mono (pe_callB (cr_sortedT hc) hgl hm rfl (pa_cons (tQ hc hu hN hi ok hg ht he hs) pa_nil) (by decide) (by decide) hst hpl) λ_ _ _ h=>qe hv h
end
end
section
section
variable {prog:Program} {w:World} {A:Around} {E:Value->Shared->Prop} {s:Shared} {t:Addr} {xs:Array (Int×Tok)}
theorem rQ{Q:Value->Shared->Prop}(hh:A.handled=none)(ht:s.heap.IsTuple t (intItems xs))(h:∀h' tk t',(∀b o,s.heap.get? b=some o->h'.get? b=some o)->Q (.int (preSum (numAt xs) xs.size) t') { s with heap:=h',toks:=tk }) :
  wpAny (model prog w) A (call (.builtin "sum") [.ref t]) Q E s:=by
 have lt:t<s.heap.objs.size:=by obtain⟨_,e,_⟩:=id ht; exact Heap.lt_size e
 refine call_sum_walkG (wpAny_pyIter_tuple ht ?_)
 refine⟨_,_,_,_,_,_,numAt xs,rfl,Walks.tuple (A:=A.in1) hh s.heap.objs.size t (Nat.ne_of_lt lt) (intItems xs),⟨⟨_,Heap.get?_push_size _ rfl,rfl,rfl⟩,ht.at λo e=>Heap.get?_push_of_some _ e⟩,λb hb=> ?_,λ_ _=>intItems_at,λh' tk t' hk=> ?_⟩
 .show b<(s.heap.push _).objs.size
  rw[Heap.size_push]
  rcases List.mem_cons.mp hb with rfl|hb
  .exact Nat.lt_succ_self _
  .rw[List.mem_singleton.mp hb]; exact Nat.lt_succ_of_lt lt
 .have old:∀b o,s.heap.get? b=some o->h'.get? b=some o:=λb o e=>hk b o (λz=>by
   rw[List.mem_singleton.mp z] at e
   exact absurd (Heap.lt_size e) (Nat.lt_irrefl _)) (Heap.get?_push_of_some _ e)
  have:=h h' tk t' old
  simpa [intItems] using this
end
section
variable {X:Cx} {W:WX}
def t8(K:PySem.W.Frag):List V->Hp->VK->Prop:=λvs H Q=>∃(a:Addr) (ns:List Int),vs=[V.ref a]/\SqT K H a (ns.map V.int)/\Q (.int ns.sum) H
theorem rE(hc:X.calm=true):CallR X (.builtin "sum") (t8 X.K):=by
 intro pins s σ H vs us Q I r h
 obtain⟨a,ns,rfl,hs,q⟩:=h
 obtain⟨its,rv,ht,_⟩:=I.tuple hs
 rw[Vals.ref1 r]
 obtain⟨xs,e⟩:=rv.ints.allInts.items
 have hn:numsOf (intItems xs).toList=ns:=by rw[<-e]; exact rv.ints.numsOf
 rw[nums_intItems] at hn
 have ht':s.heap.IsTuple a (intItems xs):=by rw[<-e]; exact ht
 refine rQ (I.ok.hd hc) ht' λh' tk t' hk=> ?_
 rw[preSum_eq,List.take_of_length_le (by simp),hn]
 exact⟨.int _,H,I.kept hk,⟨_,rfl⟩,q⟩
/-- sum(x): a list or a tuple of ints -/
def nj:List D->Ev:=λds fr hb=>match ds with
 | [.tup xs]=>(match iDs xs with
  | some is=>some (.ok (.int is.sum),hb)
  | none=>none)
 | ds=>vU ds fr hb
theorem pc:ig X W (λvs H Q=>rSum X.K vs H Q\/t8 X.K vs H Q) nj:=by
 intro M m hb fr σ H ds vs res hb' Q at_ rv e c
 unfold nj at e
 split at e
 .rename_i xs
  split at e
  .rename_i is e1
   cases e
   obtain⟨v,rfl,r1⟩:=rv.one
   have r':RelD X.K (Bd M m) m H (.tup xs) v:=r1
   unfold RelD at r'
   obtain⟨a,us,rfl,hf,rus⟩:=r'
   obtain⟨e2,_⟩:=iK e1 rus
   subst e2
   exact .inr ⟨a,is,rfl,.inl (.inl hf.1),c.done at_ fC⟩
  .cases e
 .exact .inl (pS at_ rv e c)
end
end
section
end
section
end
section
end
section
end
section
end
section
end
section
end
section
end
section
open PySem.HandSPX (excO refsVE veTail)
def SrcX.v(vs:List V):SrcX->V
 | .par i=>vs.getD i .non
 | .cst s=>.str s
/-- the statements behind the first one: self.f=parameter|text -/
inductive Asg (ps:List Str):List Stmt->List (Str×SrcX)->Prop
 | nil:Asg ps [] []
 | par {f x:Str} {i:Nat} {p1 p2 p3 pos:Pos} {r:List Stmt} {as:List (Str×SrcX)}:ps[i]? =some x->Asg ps r as->Asg ps (.Assign [.Attribute (.Name "self" p1) f p2] (.Name x p3) pos::r) ((f,.par i)::as)
 | cst {f s:Str} {j:Nat} {p1 p2 p3 pos:Pos} {r:List Stmt} {as:List (Str×SrcX)}:Asg ps r as->Asg ps (.Assign [.Attribute (.Name "self" p1) f p2] (.Constant (.str s) j p3) pos::r) ((f,.cst s)::as)
/-- the fields,the last one first -/
def i5(vs:List V):List (Str×SrcX)->List (Str×V)->List (Str×V)
 | [],done=>done
 | (f,s)::as,done=>i5 vs as ((f,s.v vs)::done)
/-- what the written part tells of the class and its __init__ -/
structure ExcI (K:PySem.W.Frag) (C fI:Addr) (ps:List Str) (as:List (Str×SrcX)):Prop where
 oex:OexC K C
 iC:PySem.W.findIn K (.ref C) "__init__"=some (some (.ref fI))
 tI:PySem.W.typeIn K (.ref fI)=some (.type "function")
 opq:PySem.W.nsIn K cStatics "thirdparty.any"=some none
 sup:PySem.W.ks_superIn K C C "__init__"=some (some (.builtin "ValueError.__init__"))
 subB:PySem.W.subIn K (.ref C) (.type "ValueError")=some true
 subC:PySem.W.mroIn K C (.ref C)=some true
 ini:PySem.W.excInitIn K C [.type "ValueError",.type "Exception",.type "BaseException",.type "object"] "ValueError.__new__"=true
 flds:∀f∈as.map (·.1),PySem.W.findIn K (.ref C) f=some none
/-- and of the def -/
structure ExcD (K:PySem.W.Frag) (C fI:Addr) (name qual:Str) (params:Arguments) (body:List Stmt) (scope:Scope) (file:Str):Prop where
 ex:∃(oc:Value) (od:Option Addr) (kV doc pm:Value) (an:Option Addr) (cda cc:Addr) (ct:Value) (osl:Array (Option Value)) (c1 c2:Value) (d1 d2:Option Addr) (s1 s2:Array (Option Value)) (cv:Array Value) (tf:Tok),
  K.lookup fI=some ⟨oc,od,.func (PySem.W.ksFn name qual params body scope .none kV doc pm an (.ref cda) ct cc),osl⟩/\PySem.W.codeIn K (.ref cda) qual=true /\
  K.lookup cda=some ⟨c1,d1,.fields cv,s1⟩/\cv[2]? =some (.str file tf)/\K.lookup cc=some ⟨c2,d2,.cell (some (.ref C)),s2⟩
/-- the scope of such a def -/
structure ExcS (scope:Scope) (ps:List Str):Prop where
 kind:scope.kind=.function
 co:scope.isCoroutine=false
 gen:scope.isGenerator=false
 nocell:∀x∈scope.names,x.2≠.cell
 par:∀x∈ps,scope.names.lookup x=some .local
 nd:ps.Nodup
 self:ps[(0:Nat)]? =some ("self":Str)
 sup:scope.names.lookup ("super":Str)=some .globalImplicit
 cls:scope.names.lookup ("__class__":Str)=some .free
 dbg:∀x∈ps,(x == ("__debug__":Str))=false
section
open PySem.W PySem.Calls PyProof.Rows
variable {prog:Program} {w:World} {A:Around} {E:Value->Shared->Prop} {h:Heap} {g:Array GenState} {d:Drawn} {t:Nat} {os:OsState} {K:Frag} {C fI:Addr} {ps:List Str} {as:List (Str×SrcX)}
/-- the first statement: super().__init__(text) -/
theorem nC{name qual:Str}{params:Arguments}{scope:Scope}{kV doc pm ct oc c1 c2:Value}{an od d1 d2:Option Addr}{cda cc L e t0:Addr}{osl s1 s2:Array (Option Value)}{cv:Array Value}{tf:Tok}{ar:Arg}
  {body:List Stmt} {m mg mb:Str->Option Value} {p0 p1 p2 p3 p4 p5:Pos} {ms:Str} {j:Nat} {Q:Flow->Shared->Prop} (T:ExcI K C fI ps as) (S:ExcS scope ps) {h₀:Heap} (X₀:K.In h₀) (Fh:PyProof.Rows.Fr h₀ L h m) (n0:h₀.get? e=none) (neL:e≠L)
  (lk:K.lookup fI=some ⟨oc,od,.func (ksFn name qual params body scope .none kV doc pm an (.ref cda) ct cc),osl⟩) (hcda:K.lookup cda=some ⟨c1,d1,.fields cv,s1⟩) (hcv:cv[2]? =some (.str prog.main.file tf)) (hcc:K.lookup cc=some ⟨c2,d2,.cell (some (.ref C)),s2⟩)
  (hpar:(params.posonlyargs++params.args).head? =some ar) (har:ar.arg="self") (htop:(prog.main.scope.names.lookup ("super":Str)).isSome=false)
  (hself:m "self"=some (.ref e)) (he:h.get? e=some (excO C t0)) (hg:h.Ns mainGlobals mg) (hmg:mg "super"=none) (hb:h.Ns builtinsNs mb) (hmb:mb "super"=some (.type "super"))
  (hform:eval (.Call (.Attribute (.Call (.Name "super" p0) [] [] p1) "__init__" p2) [.Constant (.str ms) j p3] [] p4) (ksEnv qual scope L fI (.ref cda) cc)=(do
   let ov <-attributeBase (.Call (.Name "super" p0) [] [] p1) "__init__" (ksEnv qual scope L fI (.ref cda) cc) (eval (.Call (.Name "super" p0) [] [] p1) (ksEnv qual scope L fI (.ref cda) cc))
   standAt p2.atName
   let (f,first) <-holding [ov] (getMethod ov "__init__" (plainOf (.Call (.Name "super" p0) [] [] p1) (ksEnv qual scope L fI (.ref cda) cc)))
   callWith p4 f first (backTo p4 (starEach [.Constant (.str ms) j p3] (ksEnv qual scope L fI (.ref cda) cc))) []))
  (hq:∀h' t1 tk,PyProof.Rows.Fr h₀ L h' m->h'.get? e=some (excO C t1)->Q .next ⟨h',g,d,tk,os⟩) :
  _root_.PySem.wpAt (model prog w) A (.func body (ksEnv qual scope L fI (.ref cda) cc)) (exec (.Expr (.Call (.Attribute (.Call (.Name "super" p0) [] [] p1) "__init__" p2) [.Constant (.str ms) j p3] [] p4) p5) (ksEnv qual scope L fI (.ref cda) cc)) Q E ⟨h,g,d,t,os⟩:=by
 obtain⟨nm,qn,N,bs,bm,sn,sub,ab,col,dd,k0,k1,k2,k3,k5,hC,hbm⟩:=T.oex.cls
 have X:K.In h:=X₀.keeps Fh.keep
 have hns:=Fh.ns
 have hCh:=X _ _ hC
 have hcl:clsIn K C=some { name:=nm,bases:=bs,mro:=.ref C::bm,ns:=N,qualname:=qn,hasDict:=true,slotNames:=sn,subclasses:=sub,abstract:=ab,collection:=col,hasDel:=false }:=by unfold clsIn; rw[hC]<;>rfl
 have hks:(ksEnv qual scope L fI (.ref cda) cc).kindOf "super"=some .globalImplicit:=S.sup
 have hkc:(ksEnv qual scope L fI (.ref cda) cc).kindOf "__class__"=some .free:=S.cls
 have hkl:(ksEnv qual scope L fI (.ref cda) cc).kindOf "self"=some .local:=S.par _ (List.mem_of_getElem? S.self)
 have heC:e≠C:=λz=>by
  rw[z,hCh] at he
  have z2:=congrArg Obj.data (Option.some.inj he)
  cases z2
 refine ks_wpAt_Expr_any (ks_wpAt_MethodCall (ks_wpAt_super_base (f:=fI) (cc:=cda) hks hkc (by decide) rfl (X _ _ lk) rfl hpar rfl (X _ _ hcda) rfl hcv (by simp) htop ?_) hform) (by unfold interactive; rw[show(ksEnv qual scope L fI (.ref cda) cc).scope.kind=.function from S.kind]<;>rfl) rfl
 refine ks_loadName_global S.kind hks (loadGlobal_builtin (env:=ksEnv qual scope L fI (.ref cda) cc) hg hmg hb hmb ⟨rfl,?_⟩)
 refine wpAny_loadName_free S.kind hkc rfl ⟨_,X _ _ hcc,rfl⟩ ?_
 rw[har]
 refine wpAny_loadName_local S.kind hkl hns hself ?_
 refine ks_wpAny_isType_cls hCh rfl ⟨rfl,?_⟩
 refine ks_wpAny_call_super hCh rfl he rfl (λc z=>by cases z) (looks_mroIn X T.subC) (λh1 hso k1=> ?_)
 have X1:K.In h1:=X.keeps k1
 have he1:=k1 _ _ he
 have I1:InstAt h1 e (excO C t0) C none:=⟨he1,rfl,rfl,trivial⟩
 have hsup:alongIn K "__init__" (((Value.ref C::bm).dropWhile (· != .ref C)).drop 1)=some (some (.builtin "ValueError.__init__")):=by
  have z:=T.sup
  unfold ks_superIn at z
  rw[hcl] at z
  exact z
 refine kxs_getMethod kxs_ValueError hso (looks_opaque X1 T.opq) (l₀:=.ref C::bm) (λA Q E s k q=>wpAny_bind ((looks_clsIn X1 hcl) A _ E s k (wpAny_pure q))) rfl X1 hsup (I1.type.andThen (looks_subIn X1 T.subB)) heC (by decide) ?_
 have hu:(h1.push (kxs_mw "ValueError.__init__" e)).get? h1.objs.size=some (kxs_mw "ValueError.__init__" e):=Heap.get?_push_at rfl rfl
 have k2:∀b o,h1.get? b=some o->(h1.push (kxs_mw "ValueError.__init__" e)).get? b=some o:=λb o z=>Heap.get?_push_of_some _ z
 show wpAny _ _ (callWith p4 (.ref h1.objs.size) [] ((false,eval (.Constant (.str ms) j p3) (ksEnv qual scope L fI (.ref cda) cc))::backTo p4 (starEach [] (ksEnv qual scope L fI (.ref cda) cc))) []) _ _ _
 refine kxs_callWith (i:="ValueError.__init__") (x:=e) rfl (evalArgs_plain ?_)
 refine Calls.spliced_cons (wpAny_Constant_str ?_)
 refine Calls.spliced_nil ⟨hu,?_⟩
 have hlen:([Value.str ms (t+1)]:List Value).length<=sizeLine:=by
  rw[sizeLine_eq]
  show 1<=_
  decide
 have neu:∀b o,h1.get? b=some o->h1.objs.size≠b:=λb o z=>Nat.ne_of_gt (Heap.lt_size z)
 have kb:∀b o,h.get? b=some o->(h1.push (kxs_mw "ValueError.__init__" e)).get? b=some o:=λb o z=>k2 b o (k1 b o z)
 have FF:PyProof.Rows.Fr h₀ L (h1.push (kxs_mw "ValueError.__init__" e)) m:=⟨hns.keeps kb,λb o z=>kb b o (Fh.keep b o z),Fh.above⟩
 have NN:News h₀ L (h1.push (kxs_mw "ValueError.__init__" e)) [(h1.objs.size,kxs_mw "ValueError.__init__" e),(e,excO C t0)]:=λp hp=>by
  rcases List.mem_cons.mp hp with rfl|hp
  .refine⟨hu,λz=> ?_,?_⟩
   .obtain⟨oL,es,ep,hL,_⟩:=hns
    exact neu L oL (k1 _ _ hL) z
   .cases z:h₀.get? h1.objs.size with
    | none=>rfl
    | some o=>exact absurd rfl (neu _ o (k1 _ _ (Fh.keep _ _ z)))
  .obtain rfl:=List.mem_singleton.mp hp
   exact⟨k2 _ _ he1,neL,n0⟩
 refine kxs_call (C:=C) (t:=t0) (dv:=none) (c2:=.none) (s:=⟨h1.push (kxs_mw "ValueError.__init__" e),g,d,_,os⟩) FF X₀ NN F.excBase_ValueError T.ini (List.mem_cons_self ..) (.tail (neu e _ he1) (.head λp hp=>by cases hp)) hlen λt' h' F' N' _=> ?_
 exact hq h' t' _ F' (N' (e,excO C t') (by simp)).1
end
end
section
open PySem.HandSPX (excO refsVE veTail)
abbrev oa(C t:Addr)(d:Option Addr):Obj:={ cls:=.ref C,dict:=d,data:=.fields #[.ref t,.none,.none,.none,.bool false,.none] }
/-- what the frame tells of the parameters -/
def ll(ps:List Str)(vs:List V)(m:Str->Option Value):Prop:=vs.length=ps.length/\∀(i:Nat) x,ps[i]? =some x->∃v u,vs[i]? =some v/\m x=some u/\L2.RelV v u
section
open PySem.W PySem.Calls PyProof.Rows
variable {prog:Program} {w:World} {A:Around} {E:Value->Shared->Prop} {K:Frag} {C fI L e:Addr} {ps:List Str} {vs:List V} {m:Str->Option Value} {env:Env}
/-- the value of a source -/
theorem c6{f x:Str}{src:SrcX}{p1 p2 p3 pos:Pos}{j:Nat}{val:Expr}{h:Heap}{g:Array GenState}{d:Drawn}{t:Nat}{os:OsState}{Q:Flow->Shared->Prop}(hk:env.scope.kind=.function)(hpl:∀x∈ps,env.scope.names.lookup x=some .local)(hpd:∀x∈ps,(x == ("__debug__":Str))=false)(hL:env.locals=L)
  (hv:(∃i,src=.par i/\ps[i]? =some x/\val=.Name x p3)\/(∃s,src=.cst s/\val=.Constant (.str s) j p3)) (hps:ps[(0:Nat)]? =some ("self":Str)) (hself:m "self"=some (.ref e)) (hns:h.Ns L m) (hpar:ll ps vs m)
  (hq:∀u t',L2.RelV (src.v vs) u->wpAny (model prog w) A (setAttr (.ref e) f u) (λ_=>Q .next) E ⟨h,g,d,t',os⟩) :
  wpAny (model prog w) A (exec (.Assign [.Attribute (.Name "self" p1) f p2] val pos) env) Q E ⟨h,g,d,t,os⟩:=by
 have hso:∀{t':Nat} {Q':Value->Shared->Prop},Q' (.ref e) ⟨h,g,d,t',os⟩->wpAny (model prog w) A (eval (.Name "self" p1) env) Q' E ⟨h,g,d,t',os⟩:=λ{t' Q'} q =>
  PySem.ESX.ldL (m:=m) (by rw[hL]; exact hns) hself q hk (hpl _ (List.mem_of_getElem? hps)) (by decide)
 rcases hv with ⟨i,rfl,hi,rfl⟩|⟨s,rfl,rfl⟩
 .obtain⟨v,u,h1,h2,h3⟩:=hpar.2 i x hi
  have ev:(SrcX.par i).v vs=v:=by
   show vs.getD i .non=v
   rw[List.getD_eq_getElem?_getD,h1]<;>rfl
  refine plainObj_wpAny_Assign_Attribute (PySem.ESX.ldL (m:=m) (by rw[hL]; exact hns) h2 (hso (hq u t (by rw[ev]; exact h3))) hk (hpl _ (List.mem_of_getElem? hi)) (hpd _ (List.mem_of_getElem? hi))) rfl
 .exact plainObj_wpAny_Assign_Attribute (wpAny_Constant_str (hso (hq _ _ ⟨_,rfl⟩))) rfl
theorem bR{r:List Stmt}{as:List (Str×SrcX)}(h:Asg ps r as):(r=[]/\as=[])\/∃(st:Stmt) (r':List Stmt) (f x:Str) (src:SrcX) (as':List (Str×SrcX)) (p1 p2 p3 pos:Pos) (j:Nat) (val:Expr),r=st::r'/\as=(f,src)::as'/\Asg ps r' as'/\st=.Assign [.Attribute (.Name "self" p1) f p2] val pos /\
  ((∃i,src=.par i/\ps[i]? =some x/\val=.Name x p3)\/(∃s,src=.cst s/\val=.Constant (.str s) j p3)):=by
 cases h with
 | nil=>exact .inl ⟨rfl,rfl⟩
 | @par f x i p1 p2 p3 pos r as hi hr=>exact .inr ⟨_,r,f,x,.par i,as,p1,p2,p3,pos,0,_,rfl,rfl,hr,rfl,.inl ⟨i,rfl,hi,rfl⟩⟩
 | @cst f s j p1 p2 p3 pos r as hr=>exact .inr ⟨_,r,f,"",.cst s,as,p1,p2,p3,pos,j,_,rfl,rfl,hr,rfl,.inr ⟨s,rfl,rfl⟩⟩
/-- the further fields -/
theorem ko(T:OexC K C)(hk:env.scope.kind=.function)(hpl:∀x∈ps,env.scope.names.lookup x=some .local)(hpd:∀x∈ps,(x == ("__debug__":Str))=false)(hL:env.locals=L)(hps:ps[(0:Nat)]? =some ("self":Str))(hself:m "self"=some (.ref e))(hpar:ll ps vs m){dx t1:Addr}
  (hLd:L≠dx) (hde:dx≠e) {g:Array GenState} {d:Drawn} {os:OsState} {Q:Flow->Shared->Prop}:∀{as:List (Str×SrcX)} {r:List Stmt} {done:List (Str×V)} {h:Heap} {t:Nat} {mA:Str->Option Value},Asg ps r as->K.In h->h.Ns L m->h.get? e=some (oa C t1 (some dx))->h.Ns1 dx mA->(∀f,L2.RelO (done.lookup f) (mA f)) ->
   done.length+as.length<=900->(∀f∈as.map (·.1),findIn K (.ref C) f=some none)->K.lookup dx=none ->
   (∀h' tk mA',(∀b o,b≠dx->h.get? b=some o->h'.get? b=some o)->h'.Ns1 dx mA'->(∀f,L2.RelO ((i5 vs as done).lookup f) (mA' f))->Q .next ⟨h',g,d,tk,os⟩) ->
   wpAny (model prog w) A (execs r env) Q E ⟨h,g,d,t,os⟩
 | [],r,done,h,t,mA,hA,X,hns,he,hn,rel,hl,hf,hKd,hq=>by
  rcases bR hA with ⟨rfl,_⟩|⟨_,_,_,_,_,_,_,_,_,_,_,_,_,z,_⟩
  .exact wpAny_execs_nil (hq h t mA (λb o _ z=>z) hn rel)
  .cases z
 | (f, src)::as,r,done,h,t,mA,hA,X,hns,he,hn,rel,hl,hf,hKd,hq=>by
  rcases bR hA with ⟨_,z⟩|⟨st,r',f',x,src',as',p1,p2,p3,pos,j,val,rfl,z,hA',rfl,hv⟩
  .cases z
  .cases z
   obtain⟨nm,qn,N,bs,bm,sn,sub,ab,col,dd,k0,k1,k2,k3,k5,hC,hbm⟩:=T.cls
   have hcl:clsIn K C=some { name:=nm,bases:=bs,mro:=.ref C::bm,ns:=N,qualname:=qn,hasDict:=true,slotNames:=sn,subclasses:=sub,abstract:=ab,collection:=col,hasDel:=false }:=by unfold clsIn; rw[hC]<;>rfl
   refine wpAny_execs_cons (c6 hk hpl hpd hL hv hps hself hns hpar λu t' ru=> ?_)
   have hw:=L2.within_of rel
   obtain⟨oD,_,_,hoD,_,_⟩:=hn.count hw
   refine set_plain X (ox:=oa C t1 (some dx)) (od:=some oD) ⟨he,rfl,rfl,hoD⟩ T.sa ?_
   refine PySem.OEX.osa_old X he hn hw (by rw[List.length_map]; simp only[List.length_cons] at hl; omega) hcl (show refsVE (.ref C::bm)=true from hbm) rfl (hf f (by simp)) (λh' tk' k hn'=> ?_)
   have hns':h'.Ns L m:=by
    obtain⟨o,es,ep,ho,hr⟩:=hns
    exact⟨o,es,ep,k _ _ hLd ho,hr⟩
   refine ko T hk hpl hpd hL hps hself hpar hLd hde hA' (λb o z=>k b o (λy=>by rw[y,hKd] at z; cases z) (X b o z)) hns' (k _ _ (Ne.symm hde) he) hn' (relO_put ru rel) (by simp only[List.length_cons] at hl ⊢; omega) (λf2 h2=>hf f2 (by simp at h2 ⊢; exact .inr h2)) hKd
    λh2 tk mA' k2 hn2 rel2=>hq h2 tk mA' (λb o hb z=>k2 b o hb (k b o hb z)) hn2 rel2
end
end
section
open PySem.HandSPX (excO refsVE veTail)
section
open PySem.W PySem.Calls PyProof.Rows
/-- the form of the first statement -/
def pV(qual:Str)(scope:Scope)(p0 p1 p2 p3 p4:Pos)(ms:Str)(j:Nat):Prop:=∀(L fI cda cc:Addr),eval (.Call (.Attribute (.Call (.Name "super" p0) [] [] p1) "__init__" p2) [.Constant (.str ms) j p3] [] p4) (ksEnv qual scope L fI (.ref cda) cc)=(do
 let ov <-attributeBase (.Call (.Name "super" p0) [] [] p1) "__init__" (ksEnv qual scope L fI (.ref cda) cc) (eval (.Call (.Name "super" p0) [] [] p1) (ksEnv qual scope L fI (.ref cda) cc))
 standAt p2.atName
 let (f,first) <-holding [ov] (getMethod ov "__init__" (plainOf (.Call (.Name "super" p0) [] [] p1) (ksEnv qual scope L fI (.ref cda) cc)))
 callWith p4 f first (backTo p4 (starEach [.Constant (.str ms) j p3] (ksEnv qual scope L fI (.ref cda) cc))) [])
/-- all that is asked of such a class -/
structure ExcMV (K:Frag) (P:Program) (C:Addr) (ps:List Str) (as:List (Str×SrcX)):Prop where
 at_:∃(fI:Addr) (name qual:Str) (params:Arguments) (rest:List Stmt) (scope:Scope) (p0 p1 p2 p3 p4 p5:Pos) (ms:Str) (j:Nat) (ar:Arg),
  ExcI K C fI ps as/\ExcD K C fI name qual params (.Expr (.Call (.Attribute (.Call (.Name "super" p0) [] [] p1) "__init__" p2) [.Constant (.str ms) j p3] [] p4) p5::rest) scope P.main.file/\ExcS scope ps/\Asg ps rest as/\pV qual scope p0 p1 p2 p3 p4 ms j /\
  (params.posonlyargs++params.args).head? =some ar/\ar.arg="self" /\
  (∀(body:List Stmt) (kV doc pm ct cdv:Value) (an:Option Addr) (cc:Addr) (us:List Value),us.length=ps.length->bindArgs (ksFn name qual params body scope .none kV doc pm an cdv ct cc) ⟨us,[]⟩=pure (ps.zip us))
 top:(P.main.scope.names.lookup ("super":Str)).isSome=false
 as0:as≠[]
 asl:as.length<=800
/-- the exception made; the heap without it -/
def MkPX(X:Cx)(pins:List (Addr×Obj))(σ:L2.St)(Q:XK)(u:Value)(s':Shared):Prop:=∃(a:Addr) (oe:Obj) (vs:Array Value) (G:Heap) (H':Hp) (cls:Value) (d:Option Addr),u=.ref a/\Inv X pins σ H' { s' with heap:=G }/\(∀b o,G.get? b=some o->s'.heap.get? b=some o)/\G.get? a=none /\
 s'.heap.get? a=some oe/\L2N.Zn cls d oe/\oe.data=.fields vs/\vs[1]? =some .none/\4<vs.size/\H' a=none/\Raises X cls/\Q cls d H'
theorem MkPX.mk{X:Cx}{pins:List (Addr×Obj)}{σ:L2.St}{Q:XK}{u:Value}{s':Shared}(h:MkPX X pins σ Q u s'):L2N.MkP X pins σ Q u s':=by
 obtain⟨a,oe,vs,G,H',cls,d,e,J,k,ne,ha,hz,hd,h1,_,na,r,q⟩:=h
 exact⟨a,oe,vs,{ s' with heap:=G },H',cls,d,e,J,k,ne,ha,hz,hd,h1,na,rfl,J.bare,r,q⟩
variable {X:Cx} {C:Addr} {ps:List Str} {as:List (Str×SrcX)}
theorem li{pins:List (Addr×Obj)}{σ:L2.St}{H1:Hp}{s1:Shared}{us:List Value}{vs:List V}{Q:XK}{E:Value->Shared->Prop}{k:Nat}(T:ExcMV X.K X.prog C ps as)(hr:L2H.RoomH (k+1) X.A)(hsup:X.mg "super"=none)(I1:Inv X pins σ H1 s1)(r1:Vals vs us)(hl:vs.length+1=ps.length)(hz:vs.length<=1000)
  (q:∀(a d:Addr),H1 d=none->Q (.ref C) (some d) (upd H1 d (.xd (i5 (.ref a::vs) as [])))):wpAny (model X.prog X.w) X.A (call (.ref C) us) (MkPX X pins σ Q) E s1:=by
 obtain⟨⟨fI,name,qual,params,rest,scope,p0,p1,p2,p3,p4,p5,ms,j,ar,TI,TD,S,hA,hF,hpar,har,hbind⟩,htop,has0,hasl⟩:=T
 obtain⟨oc,od,kV,doc,pm,an,cda,cc,ct,osl,c1,c2,d1,d2,s1',s2',cv,tf,lk,hcd,hcda,hcv,hcc⟩:=TD.ex
 obtain⟨nm,qn,N,bs,bm,sn,sub,ab,col,dd,k0,k1,k2,k3,k5,hC,hbm⟩:=TI.oex.cls
 have hcl:clsIn X.K C=some { name:=nm,bases:=bs,mro:=.ref C::bm,ns:=N,qualname:=qn,hasDict:=true,slotNames:=sn,subclasses:=sub,abstract:=ab,collection:=col,hasDel:=false }:=by unfold clsIn; rw[hC]<;>rfl
 have gl:=I1.mod.glob.keeps I1.bk
 obtain⟨mb,hmb,hmb2⟩:=I1.mod.blt
 have gb:=hmb.keeps I1.bk
 have nl:=I1.nolimit
 have X0:=I1.kIn
 obtain⟨hp,g,dr,tk,os⟩:=s1
 have kk:∀b o,hp.get? b=some o->((hp.push (PySem.W.kdv_tup us)).push (excO C hp.objs.size)).get? b=some o:=λb o e=>Heap.get?_push_of_some _ (Heap.get?_push_of_some _ e)
 have hget:((hp.push (PySem.W.kdv_tup us)).push (excO C hp.objs.size)).get? (hp.objs.size+1)=some (excO C hp.objs.size):=by heap_get
 have hus:us.length<=sizeLine:=by
  rw[<-Paired.length r1,sizeLine_eq]
  omega
 have hul:(Value.ref (hp.objs.size+1)::us).length=ps.length:=by
  rw[List.length_cons,<-Paired.length r1]
  exact hl
 refine wpAny_call (PySem.HandSPX.call_own F.excBase_ValueError (λY=>PySem.HandSPX.refsVE_contains Y bm hbm) (X0 _ _ hC) (looks_findIn X0 TI.iC) (λself=>bind_fn X0 self TI.tI) hus ?_)
 have hp_none:∀b,hp.objs.size<=b->hp.get? b=none:=λb hb=>by
  cases z:hp.get? b with
  | none=>rfl
  | some o=>exact absurd (Heap.lt_size z) (Nat.not_lt_of_le hb)
 have X2:X.K.In ((hp.push (PySem.W.kdv_tup us)).push (excO C hp.objs.size)):=X0.keeps kk
 refine ks_codeAny_call_defAt (fd:=ksFn name qual params (.Expr (.Call (.Attribute (.Call (.Name "super" p0) [] [] p1) "__init__" p2) [.Constant (.str ms) j p3] [] p4) p5::rest) scope .none kV doc pm an (.ref cda) ct cc)
  (binds:=ps.zip (Value.ref (hp.objs.size+1)::us)) (hr.make C us []).depth (X2 _ _ lk) rfl (nl.keeps kk) (codeRec_of X2 hcd) rfl (.of_eq (hbind _ kV doc pm ct (.ref cda) an cc _ hul)) S.nocell (λx hx=>S.par _ (List.of_mem_zip hx).1) (λh₁ hns hk₁=> ?_) S.co S.gen S.kind
 have hsz:((hp.push (PySem.W.kdv_tup us)).push (excO C hp.objs.size)).objs.size=hp.objs.size+2:=by simp[Heap.push]
 rw[hsz] at hns ⊢
 have kA:∀b o,hp.get? b=some o->h₁.get? b=some o:=λb o z=>hk₁ b o (kk b o z)
 have X3:X.K.In h₁:=X0.keeps kA
 have he1:=hk₁ _ _ hget
 have r2:Vals (V.ref (hp.objs.size+1)::vs) (Value.ref (hp.objs.size+1)::us):=.cons rfl r1
 have hP:ll ps (V.ref (hp.objs.size+1)::vs) (λx=>(ps.zip (Value.ref (hp.objs.size+1)::us)).reverse.lookup x):=by
  refine⟨hl,λi x hx=> ?_⟩
  have hi:i<(V.ref (hp.objs.size+1)::vs).length:=by
   rw[show(V.ref (hp.objs.size+1)::vs).length=ps.length from hl]
   exact(List.getElem?_eq_some_iff.mp hx).1
  obtain⟨u,hu,rv⟩:=r2.get (List.getElem?_eq_getElem hi)
  exact⟨_,u,List.getElem?_eq_getElem hi,NdefX.zip_look S.nd hx hu,rv⟩
 have hself:(ps.zip (Value.ref (hp.objs.size+1)::us)).reverse.lookup ("self":Str)=some (.ref (hp.objs.size+1)):=NdefX.zip_look S.nd S.self rfl
 refine ks_wpAt_execs_cons (nC (Q:=λf s'=>match f with
  | .next=>_root_.PySem.wpAt _ _ _ _ _ _ s'
  | f=>_) TI S X0 ⟨hns,kA,Nat.le_add_right _ _⟩ (hp_none _ (Nat.le_succ _)) (Nat.ne_of_lt (Nat.lt_succ_self _)) lk hcda hcv hcc hpar har htop hself he1 (gl.keeps kA) hsup (gb.keeps kA) ((hmb2 _ (by decide)).trans PyProof.Rows.Boot.«super») (hF _ _ _ _) λh2 t1 tk2 F2 e2=> ?_)
 have ltb:∀b o,hp.get? b=some o->b<hp.objs.size:=λb o z=>Heap.lt_size z
 have kB:∀b o,hp.get? b=some o->h2.get? b=some o:=F2.keep
 have X4:X.K.In h2:=X0.keeps kB
 have hLne:hp.objs.size+2≠hp.objs.size+1:=by omega
 have hns2:h2.Ns (hp.objs.size+2) (λx=>(ps.zip (Value.ref (hp.objs.size+1)::us)).reverse.lookup x):=F2.ns
 show _root_.PySem.wpAt _ _ _ (execs rest (ksEnv qual scope (hp.objs.size+2) fI (.ref cda) cc)) _ _ _
 refine wpAt_of_wpAny ?_
 rcases bR hA with ⟨_,z⟩|⟨st,r',f,x,src,as',q1,q2,q3,qos,qj,val,rfl,rfl,hA',rfl,hv⟩
 .exact absurd z has0
 refine wpAny_execs_cons (c6 (L:=hp.objs.size+2) S.kind S.par S.dbg rfl hv S.self hself hns2 hP λu t' ru=> ?_)
 refine set_plain X4 (ox:=excO C t1) (od:=none) ⟨e2,rfl,rfl,trivial⟩ TI.oex.sa ?_
 refine PySem.HandSPX.exc_osa X4 e2 hcl (show refsVE (.ref C::bm)=true from hbm) rfl (TI.flds f (by simp)) (λh3 tk3 dx k3 dn dne hx hn=> ?_)
 have dn':h2.objs.size<=dx:=dn
 have dge:hp.objs.size+3<=dx:=by
  obtain⟨o,es,ep,ho,_⟩:=hns2
  exact Nat.le_trans (Nat.succ_le_of_lt (Heap.lt_size ho)) dn'
 have hpd:hp.get? dx=none:=by
  cases z:hp.get? dx with
  | none=>rfl
  | some o=>exact absurd (Heap.lt_size z) (Nat.not_lt_of_le (Nat.le_trans (Nat.le_add_right _ 3) dge))
 have hKd:X.K.lookup dx=none:=by
  cases z:X.K.lookup dx with
  | none=>rfl
  | some o=>rw[X0 _ _ z] at hpd; cases hpd
 have kC:∀b o,hp.get? b=some o->h3.get? b=some o:=λb o z=>k3 b o (Nat.ne_of_lt (Nat.lt_succ_of_lt (ltb b o z))) (kB b o z)
 have hns3:h3.Ns (hp.objs.size+2) (λx=>(ps.zip (Value.ref (hp.objs.size+1)::us)).reverse.lookup x):=by
  obtain⟨o,es,ep,ho,hr⟩:=hns2
  exact⟨o,es,ep,k3 _ _ hLne ho,hr⟩
 refine ko (C:=C) (K:=X.K) (e:=hp.objs.size+1) (dx:=dx) (t1:=t1) (vs:=V.ref (hp.objs.size+1)::vs) (L:=hp.objs.size+2) (done:=[(f,src.v (V.ref (hp.objs.size+1)::vs))]) TI.oex S.kind S.par S.dbg rfl S.self hself hP (λz=>absurd dge (by rw[<-z]; exact Nat.not_succ_le_self _)) dne hA' (X0.keeps kC) hns3 hx hn (relO_put (fs:=[]) ru λ_=>True.intro)
  (by simp only[List.length_cons,List.length_nil] at hasl ⊢; omega) (λf2 h2=>TI.flds f2 (by simp at h2 ⊢; exact .inr h2)) hKd λh4 tk4 mA k4 hn4 rel4=> ?_
 have kD:∀b o,hp.get? b=some o->h4.get? b=some o:=λb o z=>k4 b o (Nat.ne_of_lt (Nat.lt_of_lt_of_le (ltb b o z) (Nat.le_trans (Nat.le_add_right _ 3) dge))) (kC b o z)
 have he4:h4.get? (hp.objs.size+1)=some (oa C t1 (some dx)):=k4 _ _ (Ne.symm dne) hx
 obtain⟨G,g1,g2⟩:=restrict h4 λb=>decide (b≠hp.objs.size+1)
 have gk:∀b,b≠hp.objs.size+1->G.get? b=h4.get? b:=λb hb=>g1 b (decide_eq_true hb)
 have ge:G.get? (hp.objs.size+1)=none:=g2 _ (by simp)
 have nd1:H1 dx=none:=I1.hok.gone hpd
 have ne1:H1 (hp.objs.size+1)=none:=I1.hok.fresh (Nat.le_succ _)
 have J:Inv X pins σ (upd H1 dx (.xd (i5 (V.ref (hp.objs.size+1)::vs) ((f,src)::as') []))) ⟨G,g,dr,tk4,os⟩ :=
  I1.laidN (t':=tk4) (λb o z=>(gk b (Nat.ne_of_lt (Nat.lt_succ_of_lt (ltb b o z)))).trans (kD b o z)) hpd nd1 ⟨mA,by
   obtain⟨⟨o,es,ep,ho,hr⟩,rc⟩:=(⟨hn4,rel4⟩:h4.Ns1 dx mA/\_)
   exact⟨⟨o,es,ep,(gk _ dne).trans ho,hr⟩,rc⟩⟩
 refine⟨rfl,?_⟩
 exact⟨_,_,_,G,_,.ref C,some dx,rfl,J,λb o z=>by
  by_cases hb:b=hp.objs.size+1
  .rw[hb,ge] at z
   cases z
  .exact(gk b hb).symm.trans z,ge,he4,⟨rfl,rfl,λvs hv=>by cases hv; rfl⟩,rfl,rfl,(by first|decide|(show(4:Nat)<6; decide)),by rw[upd_ne (Ne.symm dne)]; exact ne1,raises_own TI.oex.exC TI.oex.tyC,q _ dx nd1⟩
end
end
section
open PySem.HandSPX (excO)
structure OexL (K:PySem.W.Frag) (C:Addr):Prop where
 cls:∃nm q N bs bm sn sub ab col dd k0 k1 k2 k3 k5,K.lookup C=some (excClassObj nm q C N bs bm true sn sub ab col dd k0 k1 k2 k3 k5 "LookupError.__new__")/\bm=bO
 sa:PySem.W.findIn K (.ref C) "__setattr__"=some (some (.builtin "object.__setattr__"))
 exC:PySem.W.subIn K (.ref C) (.type "BaseException")=some true
 tyC:PySem.W.typeIn K (.ref C)=some (.type "type")
 kC:PySem.W.keepIn K (.ref C)=true
structure ExcLe (K:PySem.W.Frag) (C fI:Addr) (ps:List Str) (as:List (Str×SrcX)):Prop where
 oex:OexL K C
 iC:PySem.W.findIn K (.ref C) "__init__"=some (some (.ref fI))
 tI:PySem.W.typeIn K (.ref fI)=some (.type "function")
 opq:PySem.W.nsIn K cStatics "thirdparty.any"=some none
 sup:PySem.W.ks_superIn K C C "__init__"=some (some (.builtin "LookupError.__init__"))
 subB:PySem.W.subIn K (.ref C) (.type "LookupError")=some true
 subC:PySem.W.mroIn K C (.ref C)=some true
 ini:PySem.W.excInitIn K C bO "LookupError.__new__"=true
 flds:∀f∈as.map (·.1),PySem.W.findIn K (.ref C) f=some none
section
open PySem.W PySem.Calls PyProof.Rows
variable {prog:Program} {w:World} {A:Around} {E:Value->Shared->Prop} {h:Heap} {g:Array GenState} {d:Drawn} {t:Nat} {os:OsState} {K:Frag} {C fI:Addr} {ps:List Str} {as:List (Str×SrcX)}
/-- the first statement: super().__init__(text) -/
theorem lj{name qual:Str}{params:Arguments}{scope:Scope}{kV doc pm ct oc c1 c2:Value}{an od d1 d2:Option Addr}{cda cc L e t0:Addr}{osl s1 s2:Array (Option Value)}{cv:Array Value}{tf:Tok}{ar:Arg}
  {body:List Stmt} {m mg mb:Str->Option Value} {p0 p1 p2 p3 p4 p5:Pos} {ms:Str} {j:Nat} {Q:Flow->Shared->Prop} (T:ExcLe K C fI ps as) (S:ExcS scope ps) {h₀:Heap} (X₀:K.In h₀) (Fh:PyProof.Rows.Fr h₀ L h m) (n0:h₀.get? e=none) (neL:e≠L)
  (lk:K.lookup fI=some ⟨oc,od,.func (ksFn name qual params body scope .none kV doc pm an (.ref cda) ct cc),osl⟩) (hcda:K.lookup cda=some ⟨c1,d1,.fields cv,s1⟩) (hcv:cv[2]? =some (.str prog.main.file tf)) (hcc:K.lookup cc=some ⟨c2,d2,.cell (some (.ref C)),s2⟩)
  (hpar:(params.posonlyargs++params.args).head? =some ar) (har:ar.arg="self") (htop:(prog.main.scope.names.lookup ("super":Str)).isSome=false)
  (hself:m "self"=some (.ref e)) (he:h.get? e=some (excO C t0)) (hg:h.Ns mainGlobals mg) (hmg:mg "super"=none) (hb:h.Ns builtinsNs mb) (hmb:mb "super"=some (.type "super"))
  (hform:eval (.Call (.Attribute (.Call (.Name "super" p0) [] [] p1) "__init__" p2) [.Constant (.str ms) j p3] [] p4) (ksEnv qual scope L fI (.ref cda) cc)=(do
   let ov <-attributeBase (.Call (.Name "super" p0) [] [] p1) "__init__" (ksEnv qual scope L fI (.ref cda) cc) (eval (.Call (.Name "super" p0) [] [] p1) (ksEnv qual scope L fI (.ref cda) cc))
   standAt p2.atName
   let (f,first) <-holding [ov] (getMethod ov "__init__" (plainOf (.Call (.Name "super" p0) [] [] p1) (ksEnv qual scope L fI (.ref cda) cc)))
   callWith p4 f first (backTo p4 (starEach [.Constant (.str ms) j p3] (ksEnv qual scope L fI (.ref cda) cc))) []))
  (hq:∀h' t1 tk,PyProof.Rows.Fr h₀ L h' m->h'.get? e=some (excO C t1)->Q .next ⟨h',g,d,tk,os⟩) :
  _root_.PySem.wpAt (model prog w) A (.func body (ksEnv qual scope L fI (.ref cda) cc)) (exec (.Expr (.Call (.Attribute (.Call (.Name "super" p0) [] [] p1) "__init__" p2) [.Constant (.str ms) j p3] [] p4) p5) (ksEnv qual scope L fI (.ref cda) cc)) Q E ⟨h,g,d,t,os⟩:=by
 obtain⟨nm,qn,N,bs,bm,sn,sub,ab,col,dd,k0,k1,k2,k3,k5,hC,hbm⟩:=T.oex.cls
 have X:K.In h:=X₀.keeps Fh.keep
 have hns:=Fh.ns
 have hCh:=X _ _ hC
 have hcl:clsIn K C=some { name:=nm,bases:=bs,mro:=.ref C::bm,ns:=N,qualname:=qn,hasDict:=true,slotNames:=sn,subclasses:=sub,abstract:=ab,collection:=col,hasDel:=false }:=by unfold clsIn; rw[hC]<;>rfl
 have hks:(ksEnv qual scope L fI (.ref cda) cc).kindOf "super"=some .globalImplicit:=S.sup
 have hkc:(ksEnv qual scope L fI (.ref cda) cc).kindOf "__class__"=some .free:=S.cls
 have hkl:(ksEnv qual scope L fI (.ref cda) cc).kindOf "self"=some .local:=S.par _ (List.mem_of_getElem? S.self)
 have heC:e≠C:=λz=>by
  rw[z,hCh] at he
  have z2:=congrArg Obj.data (Option.some.inj he)
  cases z2
 refine ks_wpAt_Expr_any (ks_wpAt_MethodCall (ks_wpAt_super_base (f:=fI) (cc:=cda) hks hkc (by decide) rfl (X _ _ lk) rfl hpar rfl (X _ _ hcda) rfl hcv (by simp) htop ?_) hform) (by unfold interactive; rw[show(ksEnv qual scope L fI (.ref cda) cc).scope.kind=.function from S.kind]<;>rfl) rfl
 refine ks_loadName_global S.kind hks (loadGlobal_builtin (env:=ksEnv qual scope L fI (.ref cda) cc) hg hmg hb hmb ⟨rfl,?_⟩)
 refine wpAny_loadName_free S.kind hkc rfl ⟨_,X _ _ hcc,rfl⟩ ?_
 rw[har]
 refine wpAny_loadName_local S.kind hkl hns hself ?_
 refine ks_wpAny_isType_cls hCh rfl ⟨rfl,?_⟩
 refine ks_wpAny_call_super hCh rfl he rfl (λc z=>by cases z) (looks_mroIn X T.subC) (λh1 hso k1=> ?_)
 have X1:K.In h1:=X.keeps k1
 have he1:=k1 _ _ he
 have I1:InstAt h1 e (excO C t0) C none:=⟨he1,rfl,rfl,trivial⟩
 have hsup:alongIn K "__init__" (((Value.ref C::bm).dropWhile (· != .ref C)).drop 1)=some (some (.builtin "LookupError.__init__")):=by
  have z:=T.sup
  unfold ks_superIn at z
  rw[hcl] at z
  exact z
 refine kxs_getMethod kxs_LookupError hso (looks_opaque X1 T.opq) (l₀:=.ref C::bm) (λA Q E s k q=>wpAny_bind ((looks_clsIn X1 hcl) A _ E s k (wpAny_pure q))) rfl X1 hsup (I1.type.andThen (looks_subIn X1 T.subB)) heC (by decide) ?_
 have hu:(h1.push (kxs_mw "LookupError.__init__" e)).get? h1.objs.size=some (kxs_mw "LookupError.__init__" e):=Heap.get?_push_at rfl rfl
 have k2:∀b o,h1.get? b=some o->(h1.push (kxs_mw "LookupError.__init__" e)).get? b=some o:=λb o z=>Heap.get?_push_of_some _ z
 show wpAny _ _ (callWith p4 (.ref h1.objs.size) [] ((false,eval (.Constant (.str ms) j p3) (ksEnv qual scope L fI (.ref cda) cc))::backTo p4 (starEach [] (ksEnv qual scope L fI (.ref cda) cc))) []) _ _ _
 refine kxs_callWith (i:="LookupError.__init__") (x:=e) rfl (evalArgs_plain ?_)
 refine Calls.spliced_cons (wpAny_Constant_str ?_)
 refine Calls.spliced_nil ⟨hu,?_⟩
 have hlen:([Value.str ms (t+1)]:List Value).length<=sizeLine:=by
  rw[sizeLine_eq]
  show 1<=_
  decide
 have neu:∀b o,h1.get? b=some o->h1.objs.size≠b:=λb o z=>Nat.ne_of_gt (Heap.lt_size z)
 have kb:∀b o,h.get? b=some o->(h1.push (kxs_mw "LookupError.__init__" e)).get? b=some o:=λb o z=>k2 b o (k1 b o z)
 have FF:PyProof.Rows.Fr h₀ L (h1.push (kxs_mw "LookupError.__init__" e)) m:=⟨hns.keeps kb,λb o z=>kb b o (Fh.keep b o z),Fh.above⟩
 have NN:News h₀ L (h1.push (kxs_mw "LookupError.__init__" e)) [(h1.objs.size,kxs_mw "LookupError.__init__" e),(e,excO C t0)]:=λp hp=>by
  rcases List.mem_cons.mp hp with rfl|hp
  .refine⟨hu,λz=> ?_,?_⟩
   .obtain⟨oL,es,ep,hL,_⟩:=hns
    exact neu L oL (k1 _ _ hL) z
   .cases z:h₀.get? h1.objs.size with
    | none=>rfl
    | some o=>exact absurd rfl (neu _ o (k1 _ _ (Fh.keep _ _ z)))
  .obtain rfl:=List.mem_singleton.mp hp
   exact⟨k2 _ _ he1,neL,n0⟩
 refine kxs_call (C:=C) (t:=t0) (dv:=none) (c2:=.none) (s:=⟨h1.push (kxs_mw "LookupError.__init__" e),g,d,_,os⟩) FF X₀ NN F.excBase_LookupError T.ini (List.mem_cons_self ..) (.tail (neu e _ he1) (.head λp hp=>by cases hp)) hlen λt' h' F' N' _=> ?_
 exact hq h' t' _ F' (N' (e,excO C t') (by simp)).1
/-- the first store -/
theorem kI{hp:Heap}{R:Result->Shared->Prop}{name:Str}{tk:Tok}{v:Value}{x t0:Addr}{cd:ClassData}(X:K.In hp)(hx:hp.get? x=some (excO C t0))(hcd:clsIn K C=some cd)(hm:cd.mro=.ref C::bO)(hh:cd.hasDict=true)(ha:findIn K (.ref C) name=some none)
  (hq:∀h' tk' dx,(∀b o,b≠x->hp.get? b=some o->h'.get? b=some o)->hp.objs.size<=dx->dx≠x->h'.get? x=some (oa C t0 (some dx))->h'.Ns1 dx (λy=>if y=name then some v else none)->R (.ok (.ret .none)) ⟨h',g,d,tk',os⟩) :
  codeAny (model prog w) A (.call (.builtin "object.__setattr__") ⟨[.ref x,.str name tk,v],[]⟩) R ⟨hp,g,d,t,os⟩:=by
 have hov:excOver K C bO=true:=by
  unfold excOver
  rw[hcd]
  show(match cd.mro with| .ref C'::bm=>C' == C && PySem.W.excTail bO bm|_=>false)=true
  rw[hm]
  show(C == C && PySem.W.excTail bO bO)=true
  rw[beq_self_eq_true,Bool.true_and]
  decide +kernel
 have htk:takerIn K C name=some none:=by
  unfold takerIn
  rw[ha]<;>rfl
 have hxs:x≠hp.objs.size:=Nat.ne_of_lt (Heap.lt_size hx)
 refine osa_openX (od:=none) PySem.F.store_LookupError X ⟨hx,rfl,rfl,trivial⟩ hov htk λb=> ?_
 refine wpAny_bind (wpAny_pure (wpAny_bind (instanceDict_exc hx (looks_clsIn X hcd) hh ?_)))
 refine PySem.HandSPX.store_in_new ?_ ?_
 .exact⟨_,#[],_,(Heap.get?_update_ne _ _ _ _ hxs.symm).trans (Heap.get?_push_at rfl rfl),rfl,λe he=>absurd he (by simp),λ_=>rfl⟩
 .intro h' tk' hn' hs
  have hx1:(hp.push (dictOf [] 0)).get? x=some (excO C t0):=Heap.get?_push_of_some _ hx
  refine hq h' tk' hp.objs.size (λb o hb ho=> ?_) (Nat.le_refl _) hxs.symm ?_ hn'
  .exact(hs.2 b (Nat.ne_of_lt (Heap.lt_size ho))).trans ((Heap.get?_update_ne _ _ _ _ hb).trans (Heap.get?_push_of_some _ ho))
  .exact(hs.2 x hxs).trans (Heap.get?_update_self _ hx1 rfl)
theorem g9{A:Around}{E:Value->Shared->Prop}{s:Shared}{M:Model}{C x d:Addr}{o:Obj}{cd:ClassData}{Q:Option Addr->Shared->Prop}(hx:s.heap.get? x=some o)(hc:o.cls=.ref C)(hl:Looks M s.heap (classData C) cd)(hh:cd.hasDict=true)(hd:o.dict=some d)(q:Q (some d) s):wpAny M A (instanceDict x true) Q E s:=by
 obtain⟨cl,dc,dt,sl⟩:=o
 dsimp only at hc hd
 subst hc hd
 unfold instanceDict
 wp_step
 wp_step
 refine wpAny_bind (hl A _ E s (λ_ _ z=>z) ?_)
 rw[hh]
 exact wpAny_pure q
/-- a further store -/
theorem jN{hp:Heap}{R:Result->Shared->Prop}{name:Str}{tk:Tok}{v:Value}{x dx t0:Addr}{cd:ClassData}{m0:Str->Option Value}{nl:List Str}{oD:Obj}(X:K.In hp)(hx:hp.get? x=some (oa C t0 (some dx)))(hoD:hp.get? dx=some oD)(hn:hp.Ns1 dx m0)(hw:PySem.Within m0 nl)(hl:nl.length<=1000)(hcd:clsIn K C=some cd)(hm:cd.mro=.ref C::bO)(hh:cd.hasDict=true)(ha:findIn K (.ref C) name=some none)
  (hq:∀h' tk',(∀b o,b≠dx->hp.get? b=some o->h'.get? b=some o)->h'.Ns1 dx (λy=>if y=name then some v else m0 y)->R (.ok (.ret .none)) ⟨h',g,d,tk',os⟩) :
  codeAny (model prog w) A (.call (.builtin "object.__setattr__") ⟨[.ref x,.str name tk,v],[]⟩) R ⟨hp,g,d,t,os⟩:=by
 have hov:excOver K C bO=true:=by
  unfold excOver
  rw[hcd]
  show(match cd.mro with| .ref C'::bm=>C' == C && PySem.W.excTail bO bm|_=>false)=true
  rw[hm]
  show(C == C && PySem.W.excTail bO bO)=true
  rw[beq_self_eq_true,Bool.true_and]
  decide +kernel
 have htk:takerIn K C name=some none:=by
  unfold takerIn
  rw[ha]<;>rfl
 refine osa_openX (od:=some oD) PySem.F.store_LookupError X ⟨hx,rfl,rfl,hoD⟩ hov htk λb=> ?_
 refine wpAny_bind (wpAny_pure (wpAny_bind (g9 hx rfl (looks_clsIn X hcd) hh rfl ?_)))
 exact PySem.OEX.store_in_old hn hw hl λh' tk' hn' hs=>hq h' tk' (λb o hb ho=>(hs.2 b hb).trans ho) hn'
end
section
open PySem.W PySem.Calls PyProof.Rows
structure ExcML (K:Frag) (P:Program) (C:Addr) (ps:List Str) (as:List (Str×SrcX)):Prop where
 at_:∃(fI:Addr) (name qual:Str) (params:Arguments) (rest:List Stmt) (scope:Scope) (p0 p1 p2 p3 p4 p5:Pos) (ms:Str) (j:Nat) (ar:Arg),
  ExcLe K C fI ps as/\ExcD K C fI name qual params (.Expr (.Call (.Attribute (.Call (.Name "super" p0) [] [] p1) "__init__" p2) [.Constant (.str ms) j p3] [] p4) p5::rest) scope P.main.file/\ExcS scope ps/\Asg ps rest as/\pV qual scope p0 p1 p2 p3 p4 ms j /\
  (params.posonlyargs++params.args).head? =some ar/\ar.arg="self" /\
  (∀(body:List Stmt) (kV doc pm ct cdv:Value) (an:Option Addr) (cc:Addr) (us:List Value),us.length=ps.length->bindArgs (ksFn name qual params body scope .none kV doc pm an cdv ct cc) ⟨us,[]⟩=pure (ps.zip us))
 top:(P.main.scope.names.lookup ("super":Str)).isSome=false
 as0:as≠[]
 asl:as.length<=800
end
section
open PySem.W PySem.Calls PyProof.Rows
variable {prog:Program} {w:World} {A:Around} {E:Value->Shared->Prop} {K:Frag} {C fI L e:Addr} {ps:List Str} {vs:List V} {m:Str->Option Value} {env:Env}
/-- the further fields -/
theorem iB(T:OexL K C)(hk:env.scope.kind=.function)(hpl:∀x∈ps,env.scope.names.lookup x=some .local)(hpd:∀x∈ps,(x == ("__debug__":Str))=false)(hL:env.locals=L)(hps:ps[(0:Nat)]? =some ("self":Str))(hself:m "self"=some (.ref e))(hpar:ll ps vs m){dx t1:Addr}
  (hLd:L≠dx) (hde:dx≠e) {g:Array GenState} {d:Drawn} {os:OsState} {Q:Flow->Shared->Prop}:∀{as:List (Str×SrcX)} {r:List Stmt} {done:List (Str×V)} {h:Heap} {t:Nat} {mA:Str->Option Value},Asg ps r as->K.In h->h.Ns L m->h.get? e=some (oa C t1 (some dx))->h.Ns1 dx mA->(∀f,L2.RelO (done.lookup f) (mA f)) ->
   done.length+as.length<=900->(∀f∈as.map (·.1),findIn K (.ref C) f=some none)->K.lookup dx=none ->
   (∀h' tk mA',(∀b o,b≠dx->h.get? b=some o->h'.get? b=some o)->h'.Ns1 dx mA'->(∀f,L2.RelO ((i5 vs as done).lookup f) (mA' f))->Q .next ⟨h',g,d,tk,os⟩) ->
   wpAny (model prog w) A (execs r env) Q E ⟨h,g,d,t,os⟩
 | [],r,done,h,t,mA,hA,X,hns,he,hn,rel,hl,hf,hKd,hq=>by
  rcases bR hA with ⟨rfl,_⟩|⟨_,_,_,_,_,_,_,_,_,_,_,_,_,z,_⟩
  .exact wpAny_execs_nil (hq h t mA (λb o _ z=>z) hn rel)
  .cases z
 | (f, src)::as,r,done,h,t,mA,hA,X,hns,he,hn,rel,hl,hf,hKd,hq=>by
  rcases bR hA with ⟨_,z⟩|⟨st,r',f',x,src',as',p1,p2,p3,pos,j,val,rfl,z,hA',rfl,hv⟩
  .cases z
  .cases z
   obtain⟨nm,qn,N,bs,bm,sn,sub,ab,col,dd,k0,k1,k2,k3,k5,hC,hbm⟩:=T.cls
   have hcl:clsIn K C=some { name:=nm,bases:=bs,mro:=.ref C::bm,ns:=N,qualname:=qn,hasDict:=true,slotNames:=sn,subclasses:=sub,abstract:=ab,collection:=col,hasDel:=false }:=by unfold clsIn; rw[hC]<;>rfl
   refine wpAny_execs_cons (c6 hk hpl hpd hL hv hps hself hns hpar λu t' ru=> ?_)
   have hw:=L2.within_of rel
   obtain⟨oD,_,_,hoD,_,_⟩:=hn.count hw
   refine set_plain X (ox:=oa C t1 (some dx)) (od:=some oD) ⟨he,rfl,rfl,hoD⟩ T.sa ?_
   refine jN X he hoD hn hw (by rw[List.length_map]; simp only[List.length_cons] at hl; omega) hcl (by show Value.ref C::bm=_; rw[hbm]) rfl (hf f (by simp)) (λh' tk' k hn'=> ?_)
   have hns':h'.Ns L m:=by
    obtain⟨o,es,ep,ho,hr⟩:=hns
    exact⟨o,es,ep,k _ _ hLd ho,hr⟩
   refine iB T hk hpl hpd hL hps hself hpar hLd hde hA' (λb o z=>k b o (λy=>by rw[y,hKd] at z; cases z) (X b o z)) hns' (k _ _ (Ne.symm hde) he) hn' (relO_put ru rel) (by simp only[List.length_cons] at hl ⊢; omega) (λf2 h2=>hf f2 (by simp at h2 ⊢; exact .inr h2)) hKd
    λh2 tk mA' k2 hn2 rel2=>hq h2 tk mA' (λb o hb z=>k2 b o hb (k b o hb z)) hn2 rel2
variable {X:Cx} {C:Addr} {ps:List Str} {as:List (Str×SrcX)}
theorem lm{pins:List (Addr×Obj)}{σ:L2.St}{H1:Hp}{s1:Shared}{us:List Value}{vs:List V}{Q:XK}{E:Value->Shared->Prop}{k:Nat}(T:ExcML X.K X.prog C ps as)(hr:L2H.RoomH (k+1) X.A)(hsup:X.mg "super"=none)(I1:Inv X pins σ H1 s1)(r1:Vals vs us)(hl:vs.length+1=ps.length)(hz:vs.length<=1000)
  (q:∀(a d:Addr),H1 d=none->Q (.ref C) (some d) (upd H1 d (.xd (i5 (.ref a::vs) as [])))):wpAny (model X.prog X.w) X.A (call (.ref C) us) (MkPX X pins σ Q) E s1:=by
 obtain⟨⟨fI,name,qual,params,rest,scope,p0,p1,p2,p3,p4,p5,ms,j,ar,TI,TD,S,hA,hF,hpar,har,hbind⟩,htop,has0,hasl⟩:=T
 obtain⟨oc,od,kV,doc,pm,an,cda,cc,ct,osl,c1,c2,d1,d2,s1',s2',cv,tf,lk,hcd,hcda,hcv,hcc⟩:=TD.ex
 obtain⟨nm,qn,N,bs,bm,sn,sub,ab,col,dd,k0,k1,k2,k3,k5,hC,hbm⟩:=TI.oex.cls
 have hcl:clsIn X.K C=some { name:=nm,bases:=bs,mro:=.ref C::bm,ns:=N,qualname:=qn,hasDict:=true,slotNames:=sn,subclasses:=sub,abstract:=ab,collection:=col,hasDel:=false }:=by unfold clsIn; rw[hC]<;>rfl
 have gl:=I1.mod.glob.keeps I1.bk
 obtain⟨mb,hmb,hmb2⟩:=I1.mod.blt
 have gb:=hmb.keeps I1.bk
 have nl:=I1.nolimit
 have X0:=I1.kIn
 obtain⟨hp,g,dr,tk,os⟩:=s1
 have kk:∀b o,hp.get? b=some o->((hp.push (PySem.W.kdv_tup us)).push (excO C hp.objs.size)).get? b=some o:=λb o e=>Heap.get?_push_of_some _ (Heap.get?_push_of_some _ e)
 have hget:((hp.push (PySem.W.kdv_tup us)).push (excO C hp.objs.size)).get? (hp.objs.size+1)=some (excO C hp.objs.size):=by heap_get
 have hus:us.length<=sizeLine:=by
  rw[<-Paired.length r1,sizeLine_eq]
  omega
 have hul:(Value.ref (hp.objs.size+1)::us).length=ps.length:=by
  rw[List.length_cons,<-Paired.length r1]
  exact hl
 refine wpAny_call (PySem.HandSPX.call_own F.excBase_LookupError (λY=>by rw[hbm]) (X0 _ _ hC) (looks_findIn X0 TI.iC) (λself=>bind_fn X0 self TI.tI) hus ?_)
 have hp_none:∀b,hp.objs.size<=b->hp.get? b=none:=λb hb=>by
  cases z:hp.get? b with
  | none=>rfl
  | some o=>exact absurd (Heap.lt_size z) (Nat.not_lt_of_le hb)
 have X2:X.K.In ((hp.push (PySem.W.kdv_tup us)).push (excO C hp.objs.size)):=X0.keeps kk
 refine ks_codeAny_call_defAt (fd:=ksFn name qual params (.Expr (.Call (.Attribute (.Call (.Name "super" p0) [] [] p1) "__init__" p2) [.Constant (.str ms) j p3] [] p4) p5::rest) scope .none kV doc pm an (.ref cda) ct cc)
  (binds:=ps.zip (Value.ref (hp.objs.size+1)::us)) (hr.make C us []).depth (X2 _ _ lk) rfl (nl.keeps kk) (codeRec_of X2 hcd) rfl (.of_eq (hbind _ kV doc pm ct (.ref cda) an cc _ hul)) S.nocell (λx hx=>S.par _ (List.of_mem_zip hx).1) (λh₁ hns hk₁=> ?_) S.co S.gen S.kind
 have hsz:((hp.push (PySem.W.kdv_tup us)).push (excO C hp.objs.size)).objs.size=hp.objs.size+2:=by simp[Heap.push]
 rw[hsz] at hns ⊢
 have kA:∀b o,hp.get? b=some o->h₁.get? b=some o:=λb o z=>hk₁ b o (kk b o z)
 have X3:X.K.In h₁:=X0.keeps kA
 have he1:=hk₁ _ _ hget
 have r2:Vals (V.ref (hp.objs.size+1)::vs) (Value.ref (hp.objs.size+1)::us):=.cons rfl r1
 have hP:ll ps (V.ref (hp.objs.size+1)::vs) (λx=>(ps.zip (Value.ref (hp.objs.size+1)::us)).reverse.lookup x):=by
  refine⟨hl,λi x hx=> ?_⟩
  have hi:i<(V.ref (hp.objs.size+1)::vs).length:=by
   rw[show(V.ref (hp.objs.size+1)::vs).length=ps.length from hl]
   exact(List.getElem?_eq_some_iff.mp hx).1
  obtain⟨u,hu,rv⟩:=r2.get (List.getElem?_eq_getElem hi)
  exact⟨_,u,List.getElem?_eq_getElem hi,NdefX.zip_look S.nd hx hu,rv⟩
 have hself:(ps.zip (Value.ref (hp.objs.size+1)::us)).reverse.lookup ("self":Str)=some (.ref (hp.objs.size+1)):=NdefX.zip_look S.nd S.self rfl
 refine ks_wpAt_execs_cons (lj (Q:=λf s'=>match f with
  | .next=>_root_.PySem.wpAt _ _ _ _ _ _ s'
  | f=>_) TI S X0 ⟨hns,kA,Nat.le_add_right _ _⟩ (hp_none _ (Nat.le_succ _)) (Nat.ne_of_lt (Nat.lt_succ_self _)) lk hcda hcv hcc hpar har htop hself he1 (gl.keeps kA) hsup (gb.keeps kA) ((hmb2 _ (by decide)).trans PyProof.Rows.Boot.«super») (hF _ _ _ _) λh2 t1 tk2 F2 e2=> ?_)
 have ltb:∀b o,hp.get? b=some o->b<hp.objs.size:=λb o z=>Heap.lt_size z
 have kB:∀b o,hp.get? b=some o->h2.get? b=some o:=F2.keep
 have X4:X.K.In h2:=X0.keeps kB
 have hLne:hp.objs.size+2≠hp.objs.size+1:=by omega
 have hns2:h2.Ns (hp.objs.size+2) (λx=>(ps.zip (Value.ref (hp.objs.size+1)::us)).reverse.lookup x):=F2.ns
 show _root_.PySem.wpAt _ _ _ (execs rest (ksEnv qual scope (hp.objs.size+2) fI (.ref cda) cc)) _ _ _
 refine wpAt_of_wpAny ?_
 rcases bR hA with ⟨_,z⟩|⟨st,r',f,x,src,as',q1,q2,q3,qos,qj,val,rfl,rfl,hA',rfl,hv⟩
 .exact absurd z has0
 refine wpAny_execs_cons (c6 (L:=hp.objs.size+2) S.kind S.par S.dbg rfl hv S.self hself hns2 hP λu t' ru=> ?_)
 refine set_plain X4 (ox:=excO C t1) (od:=none) ⟨e2,rfl,rfl,trivial⟩ TI.oex.sa ?_
 refine kI X4 e2 hcl (by show Value.ref C::bm=_; rw[hbm]) rfl (TI.flds f (by simp)) (λh3 tk3 dx k3 dn dne hx hn=> ?_)
 have dn':h2.objs.size<=dx:=dn
 have dge:hp.objs.size+3<=dx:=by
  obtain⟨o,es,ep,ho,_⟩:=hns2
  exact Nat.le_trans (Nat.succ_le_of_lt (Heap.lt_size ho)) dn'
 have hpd:hp.get? dx=none:=by
  cases z:hp.get? dx with
  | none=>rfl
  | some o=>exact absurd (Heap.lt_size z) (Nat.not_lt_of_le (Nat.le_trans (Nat.le_add_right _ 3) dge))
 have hKd:X.K.lookup dx=none:=by
  cases z:X.K.lookup dx with
  | none=>rfl
  | some o=>rw[X0 _ _ z] at hpd; cases hpd
 have kC:∀b o,hp.get? b=some o->h3.get? b=some o:=λb o z=>k3 b o (Nat.ne_of_lt (Nat.lt_succ_of_lt (ltb b o z))) (kB b o z)
 have hns3:h3.Ns (hp.objs.size+2) (λx=>(ps.zip (Value.ref (hp.objs.size+1)::us)).reverse.lookup x):=by
  obtain⟨o,es,ep,ho,hr⟩:=hns2
  exact⟨o,es,ep,k3 _ _ hLne ho,hr⟩
 refine iB (C:=C) (K:=X.K) (e:=hp.objs.size+1) (dx:=dx) (t1:=t1) (vs:=V.ref (hp.objs.size+1)::vs) (L:=hp.objs.size+2) (done:=[(f,src.v (V.ref (hp.objs.size+1)::vs))]) TI.oex S.kind S.par S.dbg rfl S.self hself hP (λz=>absurd dge (by rw[<-z]; exact Nat.not_succ_le_self _)) dne hA' (X0.keeps kC) hns3 hx hn (relO_put (fs:=[]) ru λ_=>True.intro)
  (by simp only[List.length_cons,List.length_nil] at hasl ⊢; omega) (λf2 h2=>TI.flds f2 (by simp at h2 ⊢; exact .inr h2)) hKd λh4 tk4 mA k4 hn4 rel4=> ?_
 have kD:∀b o,hp.get? b=some o->h4.get? b=some o:=λb o z=>k4 b o (Nat.ne_of_lt (Nat.lt_of_lt_of_le (ltb b o z) (Nat.le_trans (Nat.le_add_right _ 3) dge))) (kC b o z)
 have he4:h4.get? (hp.objs.size+1)=some (oa C t1 (some dx)):=k4 _ _ (Ne.symm dne) hx
 obtain⟨G,g1,g2⟩:=restrict h4 λb=>decide (b≠hp.objs.size+1)
 have gk:∀b,b≠hp.objs.size+1->G.get? b=h4.get? b:=λb hb=>g1 b (decide_eq_true hb)
 have ge:G.get? (hp.objs.size+1)=none:=g2 _ (by simp)
 have nd1:H1 dx=none:=I1.hok.gone hpd
 have ne1:H1 (hp.objs.size+1)=none:=I1.hok.fresh (Nat.le_succ _)
 have J:Inv X pins σ (upd H1 dx (.xd (i5 (V.ref (hp.objs.size+1)::vs) ((f,src)::as') []))) ⟨G,g,dr,tk4,os⟩ :=
  I1.laidN (t':=tk4) (λb o z=>(gk b (Nat.ne_of_lt (Nat.lt_succ_of_lt (ltb b o z)))).trans (kD b o z)) hpd nd1 ⟨mA,by
   obtain⟨⟨o,es,ep,ho,hr⟩,rc⟩:=(⟨hn4,rel4⟩:h4.Ns1 dx mA/\_)
   exact⟨⟨o,es,ep,(gk _ dne).trans ho,hr⟩,rc⟩⟩
 refine⟨rfl,?_⟩
 exact⟨_,_,_,G,_,.ref C,some dx,rfl,J,λb o z=>by
  by_cases hb:b=hp.objs.size+1
  .rw[hb,ge] at z
   cases z
  .exact(gk b hb).symm.trans z,ge,he4,⟨rfl,rfl,λvs hv=>by cases hv; rfl⟩,rfl,rfl,(by first|decide|(show(4:Nat)<6; decide)),by rw[upd_ne (Ne.symm dne)]; exact ne1,raises_own TI.oex.exC TI.oex.tyC,q _ dx nd1⟩
end
end
section
open PySem.HandSPX (excO)
structure OexI (K:PySem.W.Frag) (C:Addr):Prop where
 cls:∃nm q N bs bm sn sub ab col dd k0 k1 k2 k3 k5,K.lookup C=some (excClassObj nm q C N bs bm true sn sub ab col dd k0 k1 k2 k3 k5 "IndexError.__new__")/\bm=da
 sa:PySem.W.findIn K (.ref C) "__setattr__"=some (some (.builtin "object.__setattr__"))
 exC:PySem.W.subIn K (.ref C) (.type "BaseException")=some true
 tyC:PySem.W.typeIn K (.ref C)=some (.type "type")
 kC:PySem.W.keepIn K (.ref C)=true
structure ExcIe (K:PySem.W.Frag) (C fI:Addr) (ps:List Str) (as:List (Str×SrcX)):Prop where
 oex:OexI K C
 iC:PySem.W.findIn K (.ref C) "__init__"=some (some (.ref fI))
 tI:PySem.W.typeIn K (.ref fI)=some (.type "function")
 opq:PySem.W.nsIn K cStatics "thirdparty.any"=some none
 sup:PySem.W.ks_superIn K C C "__init__"=some (some (.builtin "IndexError.__init__"))
 subB:PySem.W.subIn K (.ref C) (.type "IndexError")=some true
 subC:PySem.W.mroIn K C (.ref C)=some true
 ini:PySem.W.excInitIn K C da "IndexError.__new__"=true
 flds:∀f∈as.map (·.1),PySem.W.findIn K (.ref C) f=some none
section
open PySem.W PySem.Calls PyProof.Rows
variable {prog:Program} {w:World} {A:Around} {E:Value->Shared->Prop} {h:Heap} {g:Array GenState} {d:Drawn} {t:Nat} {os:OsState} {K:Frag} {C fI:Addr} {ps:List Str} {as:List (Str×SrcX)}
/-- the first statement: super().__init__(text) -/
theorem lr{name qual:Str}{params:Arguments}{scope:Scope}{kV doc pm ct oc c1 c2:Value}{an od d1 d2:Option Addr}{cda cc L e t0:Addr}{osl s1 s2:Array (Option Value)}{cv:Array Value}{tf:Tok}{ar:Arg}
  {body:List Stmt} {m mg mb:Str->Option Value} {p0 p1 p2 p3 p4 p5:Pos} {ms:Str} {j:Nat} {Q:Flow->Shared->Prop} (T:ExcIe K C fI ps as) (S:ExcS scope ps) {h₀:Heap} (X₀:K.In h₀) (Fh:PyProof.Rows.Fr h₀ L h m) (n0:h₀.get? e=none) (neL:e≠L)
  (lk:K.lookup fI=some ⟨oc,od,.func (ksFn name qual params body scope .none kV doc pm an (.ref cda) ct cc),osl⟩) (hcda:K.lookup cda=some ⟨c1,d1,.fields cv,s1⟩) (hcv:cv[2]? =some (.str prog.main.file tf)) (hcc:K.lookup cc=some ⟨c2,d2,.cell (some (.ref C)),s2⟩)
  (hpar:(params.posonlyargs++params.args).head? =some ar) (har:ar.arg="self") (htop:(prog.main.scope.names.lookup ("super":Str)).isSome=false)
  (hself:m "self"=some (.ref e)) (he:h.get? e=some (excO C t0)) (hg:h.Ns mainGlobals mg) (hmg:mg "super"=none) (hb:h.Ns builtinsNs mb) (hmb:mb "super"=some (.type "super"))
  (hform:eval (.Call (.Attribute (.Call (.Name "super" p0) [] [] p1) "__init__" p2) [.Constant (.str ms) j p3] [] p4) (ksEnv qual scope L fI (.ref cda) cc)=(do
   let ov <-attributeBase (.Call (.Name "super" p0) [] [] p1) "__init__" (ksEnv qual scope L fI (.ref cda) cc) (eval (.Call (.Name "super" p0) [] [] p1) (ksEnv qual scope L fI (.ref cda) cc))
   standAt p2.atName
   let (f,first) <-holding [ov] (getMethod ov "__init__" (plainOf (.Call (.Name "super" p0) [] [] p1) (ksEnv qual scope L fI (.ref cda) cc)))
   callWith p4 f first (backTo p4 (starEach [.Constant (.str ms) j p3] (ksEnv qual scope L fI (.ref cda) cc))) []))
  (hq:∀h' t1 tk,PyProof.Rows.Fr h₀ L h' m->h'.get? e=some (excO C t1)->Q .next ⟨h',g,d,tk,os⟩) :
  _root_.PySem.wpAt (model prog w) A (.func body (ksEnv qual scope L fI (.ref cda) cc)) (exec (.Expr (.Call (.Attribute (.Call (.Name "super" p0) [] [] p1) "__init__" p2) [.Constant (.str ms) j p3] [] p4) p5) (ksEnv qual scope L fI (.ref cda) cc)) Q E ⟨h,g,d,t,os⟩:=by
 obtain⟨nm,qn,N,bs,bm,sn,sub,ab,col,dd,k0,k1,k2,k3,k5,hC,hbm⟩:=T.oex.cls
 have X:K.In h:=X₀.keeps Fh.keep
 have hns:=Fh.ns
 have hCh:=X _ _ hC
 have hcl:clsIn K C=some { name:=nm,bases:=bs,mro:=.ref C::bm,ns:=N,qualname:=qn,hasDict:=true,slotNames:=sn,subclasses:=sub,abstract:=ab,collection:=col,hasDel:=false }:=by unfold clsIn; rw[hC]<;>rfl
 have hks:(ksEnv qual scope L fI (.ref cda) cc).kindOf "super"=some .globalImplicit:=S.sup
 have hkc:(ksEnv qual scope L fI (.ref cda) cc).kindOf "__class__"=some .free:=S.cls
 have hkl:(ksEnv qual scope L fI (.ref cda) cc).kindOf "self"=some .local:=S.par _ (List.mem_of_getElem? S.self)
 have heC:e≠C:=λz=>by
  rw[z,hCh] at he
  have z2:=congrArg Obj.data (Option.some.inj he)
  cases z2
 refine ks_wpAt_Expr_any (ks_wpAt_MethodCall (ks_wpAt_super_base (f:=fI) (cc:=cda) hks hkc (by decide) rfl (X _ _ lk) rfl hpar rfl (X _ _ hcda) rfl hcv (by simp) htop ?_) hform) (by unfold interactive; rw[show(ksEnv qual scope L fI (.ref cda) cc).scope.kind=.function from S.kind]<;>rfl) rfl
 refine ks_loadName_global S.kind hks (loadGlobal_builtin (env:=ksEnv qual scope L fI (.ref cda) cc) hg hmg hb hmb ⟨rfl,?_⟩)
 refine wpAny_loadName_free S.kind hkc rfl ⟨_,X _ _ hcc,rfl⟩ ?_
 rw[har]
 refine wpAny_loadName_local S.kind hkl hns hself ?_
 refine ks_wpAny_isType_cls hCh rfl ⟨rfl,?_⟩
 refine ks_wpAny_call_super hCh rfl he rfl (λc z=>by cases z) (looks_mroIn X T.subC) (λh1 hso k1=> ?_)
 have X1:K.In h1:=X.keeps k1
 have he1:=k1 _ _ he
 have I1:InstAt h1 e (excO C t0) C none:=⟨he1,rfl,rfl,trivial⟩
 have hsup:alongIn K "__init__" (((Value.ref C::bm).dropWhile (· != .ref C)).drop 1)=some (some (.builtin "IndexError.__init__")):=by
  have z:=T.sup
  unfold ks_superIn at z
  rw[hcl] at z
  exact z
 refine kxs_getMethod kxs_IndexError hso (looks_opaque X1 T.opq) (l₀:=.ref C::bm) (λA Q E s k q=>wpAny_bind ((looks_clsIn X1 hcl) A _ E s k (wpAny_pure q))) rfl X1 hsup (I1.type.andThen (looks_subIn X1 T.subB)) heC (by decide) ?_
 have hu:(h1.push (kxs_mw "IndexError.__init__" e)).get? h1.objs.size=some (kxs_mw "IndexError.__init__" e):=Heap.get?_push_at rfl rfl
 have k2:∀b o,h1.get? b=some o->(h1.push (kxs_mw "IndexError.__init__" e)).get? b=some o:=λb o z=>Heap.get?_push_of_some _ z
 show wpAny _ _ (callWith p4 (.ref h1.objs.size) [] ((false,eval (.Constant (.str ms) j p3) (ksEnv qual scope L fI (.ref cda) cc))::backTo p4 (starEach [] (ksEnv qual scope L fI (.ref cda) cc))) []) _ _ _
 refine kxs_callWith (i:="IndexError.__init__") (x:=e) rfl (evalArgs_plain ?_)
 refine Calls.spliced_cons (wpAny_Constant_str ?_)
 refine Calls.spliced_nil ⟨hu,?_⟩
 have hlen:([Value.str ms (t+1)]:List Value).length<=sizeLine:=by
  rw[sizeLine_eq]
  show 1<=_
  decide
 have neu:∀b o,h1.get? b=some o->h1.objs.size≠b:=λb o z=>Nat.ne_of_gt (Heap.lt_size z)
 have kb:∀b o,h.get? b=some o->(h1.push (kxs_mw "IndexError.__init__" e)).get? b=some o:=λb o z=>k2 b o (k1 b o z)
 have FF:PyProof.Rows.Fr h₀ L (h1.push (kxs_mw "IndexError.__init__" e)) m:=⟨hns.keeps kb,λb o z=>kb b o (Fh.keep b o z),Fh.above⟩
 have NN:News h₀ L (h1.push (kxs_mw "IndexError.__init__" e)) [(h1.objs.size,kxs_mw "IndexError.__init__" e),(e,excO C t0)]:=λp hp=>by
  rcases List.mem_cons.mp hp with rfl|hp
  .refine⟨hu,λz=> ?_,?_⟩
   .obtain⟨oL,es,ep,hL,_⟩:=hns
    exact neu L oL (k1 _ _ hL) z
   .cases z:h₀.get? h1.objs.size with
    | none=>rfl
    | some o=>exact absurd rfl (neu _ o (k1 _ _ (Fh.keep _ _ z)))
  .obtain rfl:=List.mem_singleton.mp hp
   exact⟨k2 _ _ he1,neL,n0⟩
 refine kxs_call (C:=C) (t:=t0) (dv:=none) (c2:=.none) (s:=⟨h1.push (kxs_mw "IndexError.__init__" e),g,d,_,os⟩) FF X₀ NN F.excBase_IndexError T.ini (List.mem_cons_self ..) (.tail (neu e _ he1) (.head λp hp=>by cases hp)) hlen λt' h' F' N' _=> ?_
 exact hq h' t' _ F' (N' (e,excO C t') (by simp)).1
/-- the first store -/
theorem lg{hp:Heap}{R:Result->Shared->Prop}{name:Str}{tk:Tok}{v:Value}{x t0:Addr}{cd:ClassData}(X:K.In hp)(hx:hp.get? x=some (excO C t0))(hcd:clsIn K C=some cd)(hm:cd.mro=.ref C::da)(hh:cd.hasDict=true)(ha:findIn K (.ref C) name=some none)
  (hq:∀h' tk' dx,(∀b o,b≠x->hp.get? b=some o->h'.get? b=some o)->hp.objs.size<=dx->dx≠x->h'.get? x=some (oa C t0 (some dx))->h'.Ns1 dx (λy=>if y=name then some v else none)->R (.ok (.ret .none)) ⟨h',g,d,tk',os⟩) :
  codeAny (model prog w) A (.call (.builtin "object.__setattr__") ⟨[.ref x,.str name tk,v],[]⟩) R ⟨hp,g,d,t,os⟩:=by
 have hov:excOver K C da=true:=by
  unfold excOver
  rw[hcd]
  show(match cd.mro with| .ref C'::bm=>C' == C && PySem.W.excTail da bm|_=>false)=true
  rw[hm]
  show(C == C && PySem.W.excTail da da)=true
  rw[beq_self_eq_true,Bool.true_and]
  decide +kernel
 have htk:takerIn K C name=some none:=by
  unfold takerIn
  rw[ha]<;>rfl
 have hxs:x≠hp.objs.size:=Nat.ne_of_lt (Heap.lt_size hx)
 refine osa_openX (od:=none) PySem.F.store_IndexError X ⟨hx,rfl,rfl,trivial⟩ hov htk λb=> ?_
 refine wpAny_bind (wpAny_pure (wpAny_bind (instanceDict_exc hx (looks_clsIn X hcd) hh ?_)))
 refine PySem.HandSPX.store_in_new ?_ ?_
 .exact⟨_,#[],_,(Heap.get?_update_ne _ _ _ _ hxs.symm).trans (Heap.get?_push_at rfl rfl),rfl,λe he=>absurd he (by simp),λ_=>rfl⟩
 .intro h' tk' hn' hs
  have hx1:(hp.push (dictOf [] 0)).get? x=some (excO C t0):=Heap.get?_push_of_some _ hx
  refine hq h' tk' hp.objs.size (λb o hb ho=> ?_) (Nat.le_refl _) hxs.symm ?_ hn'
  .exact(hs.2 b (Nat.ne_of_lt (Heap.lt_size ho))).trans ((Heap.get?_update_ne _ _ _ _ hb).trans (Heap.get?_push_of_some _ ho))
  .exact(hs.2 x hxs).trans (Heap.get?_update_self _ hx1 rfl)
end
section
open PySem.W PySem.Calls PyProof.Rows
structure ExcMI (K:Frag) (P:Program) (C:Addr) (ps:List Str) (as:List (Str×SrcX)):Prop where
 at_:∃(fI:Addr) (name qual:Str) (params:Arguments) (rest:List Stmt) (scope:Scope) (p0 p1 p2 p3 p4 p5:Pos) (ms:Str) (j:Nat) (ar:Arg),
  ExcIe K C fI ps as/\ExcD K C fI name qual params (.Expr (.Call (.Attribute (.Call (.Name "super" p0) [] [] p1) "__init__" p2) [.Constant (.str ms) j p3] [] p4) p5::rest) scope P.main.file/\ExcS scope ps/\Asg ps rest as/\pV qual scope p0 p1 p2 p3 p4 ms j /\
  (params.posonlyargs++params.args).head? =some ar/\ar.arg="self" /\
  (∀(body:List Stmt) (kV doc pm ct cdv:Value) (an:Option Addr) (cc:Addr) (us:List Value),us.length=ps.length->bindArgs (ksFn name qual params body scope .none kV doc pm an cdv ct cc) ⟨us,[]⟩=pure (ps.zip us))
 top:(P.main.scope.names.lookup ("super":Str)).isSome=false
 as0:as≠[]
 asl:as.length=1
variable {X:Cx} {C:Addr} {ps:List Str} {as:List (Str×SrcX)}
theorem k8{pins:List (Addr×Obj)}{σ:L2.St}{H1:Hp}{s1:Shared}{us:List Value}{vs:List V}{Q:XK}{E:Value->Shared->Prop}{k:Nat}(T:ExcMI X.K X.prog C ps as)(hr:L2H.RoomH (k+1) X.A)(hsup:X.mg "super"=none)(I1:Inv X pins σ H1 s1)(r1:Vals vs us)(hl:vs.length+1=ps.length)(hz:vs.length<=1000)
  (q:∀(a d:Addr),H1 d=none->Q (.ref C) (some d) (upd H1 d (.xd (i5 (.ref a::vs) as [])))):wpAny (model X.prog X.w) X.A (call (.ref C) us) (MkPX X pins σ Q) E s1:=by
 obtain⟨⟨fI,name,qual,params,rest,scope,p0,p1,p2,p3,p4,p5,ms,j,ar,TI,TD,S,hA,hF,hpar,har,hbind⟩,htop,has0,hasl⟩:=T
 obtain⟨oc,od,kV,doc,pm,an,cda,cc,ct,osl,c1,c2,d1,d2,s1',s2',cv,tf,lk,hcd,hcda,hcv,hcc⟩:=TD.ex
 obtain⟨nm,qn,N,bs,bm,sn,sub,ab,col,dd,k0,k1,k2,k3,k5,hC,hbm⟩:=TI.oex.cls
 have hcl:clsIn X.K C=some { name:=nm,bases:=bs,mro:=.ref C::bm,ns:=N,qualname:=qn,hasDict:=true,slotNames:=sn,subclasses:=sub,abstract:=ab,collection:=col,hasDel:=false }:=by unfold clsIn; rw[hC]<;>rfl
 have gl:=I1.mod.glob.keeps I1.bk
 obtain⟨mb,hmb,hmb2⟩:=I1.mod.blt
 have gb:=hmb.keeps I1.bk
 have nl:=I1.nolimit
 have X0:=I1.kIn
 obtain⟨hp,g,dr,tk,os⟩:=s1
 have kk:∀b o,hp.get? b=some o->((hp.push (PySem.W.kdv_tup us)).push (excO C hp.objs.size)).get? b=some o:=λb o e=>Heap.get?_push_of_some _ (Heap.get?_push_of_some _ e)
 have hget:((hp.push (PySem.W.kdv_tup us)).push (excO C hp.objs.size)).get? (hp.objs.size+1)=some (excO C hp.objs.size):=by heap_get
 have hus:us.length<=sizeLine:=by
  rw[<-Paired.length r1,sizeLine_eq]
  omega
 have hul:(Value.ref (hp.objs.size+1)::us).length=ps.length:=by
  rw[List.length_cons,<-Paired.length r1]
  exact hl
 refine wpAny_call (PySem.HandSPX.call_own F.excBase_IndexError (λY=>by rw[hbm]) (X0 _ _ hC) (looks_findIn X0 TI.iC) (λself=>bind_fn X0 self TI.tI) hus ?_)
 have hp_none:∀b,hp.objs.size<=b->hp.get? b=none:=λb hb=>by
  cases z:hp.get? b with
  | none=>rfl
  | some o=>exact absurd (Heap.lt_size z) (Nat.not_lt_of_le hb)
 have X2:X.K.In ((hp.push (PySem.W.kdv_tup us)).push (excO C hp.objs.size)):=X0.keeps kk
 refine ks_codeAny_call_defAt (fd:=ksFn name qual params (.Expr (.Call (.Attribute (.Call (.Name "super" p0) [] [] p1) "__init__" p2) [.Constant (.str ms) j p3] [] p4) p5::rest) scope .none kV doc pm an (.ref cda) ct cc)
  (binds:=ps.zip (Value.ref (hp.objs.size+1)::us)) (hr.make C us []).depth (X2 _ _ lk) rfl (nl.keeps kk) (codeRec_of X2 hcd) rfl (.of_eq (hbind _ kV doc pm ct (.ref cda) an cc _ hul)) S.nocell (λx hx=>S.par _ (List.of_mem_zip hx).1) (λh₁ hns hk₁=> ?_) S.co S.gen S.kind
 have hsz:((hp.push (PySem.W.kdv_tup us)).push (excO C hp.objs.size)).objs.size=hp.objs.size+2:=by simp[Heap.push]
 rw[hsz] at hns ⊢
 have kA:∀b o,hp.get? b=some o->h₁.get? b=some o:=λb o z=>hk₁ b o (kk b o z)
 have X3:X.K.In h₁:=X0.keeps kA
 have he1:=hk₁ _ _ hget
 have r2:Vals (V.ref (hp.objs.size+1)::vs) (Value.ref (hp.objs.size+1)::us):=.cons rfl r1
 have hP:ll ps (V.ref (hp.objs.size+1)::vs) (λx=>(ps.zip (Value.ref (hp.objs.size+1)::us)).reverse.lookup x):=by
  refine⟨hl,λi x hx=> ?_⟩
  have hi:i<(V.ref (hp.objs.size+1)::vs).length:=by
   rw[show(V.ref (hp.objs.size+1)::vs).length=ps.length from hl]
   exact(List.getElem?_eq_some_iff.mp hx).1
  obtain⟨u,hu,rv⟩:=r2.get (List.getElem?_eq_getElem hi)
  exact⟨_,u,List.getElem?_eq_getElem hi,NdefX.zip_look S.nd hx hu,rv⟩
 have hself:(ps.zip (Value.ref (hp.objs.size+1)::us)).reverse.lookup ("self":Str)=some (.ref (hp.objs.size+1)):=NdefX.zip_look S.nd S.self rfl
 refine ks_wpAt_execs_cons (lr (Q:=λf s'=>match f with
  | .next=>_root_.PySem.wpAt _ _ _ _ _ _ s'
  | f=>_) TI S X0 ⟨hns,kA,Nat.le_add_right _ _⟩ (hp_none _ (Nat.le_succ _)) (Nat.ne_of_lt (Nat.lt_succ_self _)) lk hcda hcv hcc hpar har htop hself he1 (gl.keeps kA) hsup (gb.keeps kA) ((hmb2 _ (by decide)).trans PyProof.Rows.Boot.«super») (hF _ _ _ _) λh2 t1 tk2 F2 e2=> ?_)
 have ltb:∀b o,hp.get? b=some o->b<hp.objs.size:=λb o z=>Heap.lt_size z
 have kB:∀b o,hp.get? b=some o->h2.get? b=some o:=F2.keep
 have X4:X.K.In h2:=X0.keeps kB
 have hLne:hp.objs.size+2≠hp.objs.size+1:=by omega
 have hns2:h2.Ns (hp.objs.size+2) (λx=>(ps.zip (Value.ref (hp.objs.size+1)::us)).reverse.lookup x):=F2.ns
 show _root_.PySem.wpAt _ _ _ (execs rest (ksEnv qual scope (hp.objs.size+2) fI (.ref cda) cc)) _ _ _
 refine wpAt_of_wpAny ?_
 rcases bR hA with ⟨_,z⟩|⟨st,r',f,x,src,as',q1,q2,q3,qos,qj,val,rfl,rfl,hA',rfl,hv⟩
 .exact absurd z has0
 have e0:as'=[]:=by simpa using hasl
 subst e0
 have er:r'=[]:=by
  rcases bR hA' with ⟨z,_⟩|⟨_,_,_,_,_,_,_,_,_,_,_,_,_,z,_⟩
  .exact z
  .cases z
 subst er
 refine wpAny_execs_cons (c6 (L:=hp.objs.size+2) S.kind S.par S.dbg rfl hv S.self hself hns2 hP λu t' ru=> ?_)
 refine set_plain X4 (ox:=excO C t1) (od:=none) ⟨e2,rfl,rfl,trivial⟩ TI.oex.sa ?_
 refine lg X4 e2 hcl (by show Value.ref C::bm=_; rw[hbm]) rfl (TI.flds f (by simp)) (λh3 tk3 dx k3 dn dne hx hn=> ?_)
 have dn':h2.objs.size<=dx:=dn
 have dge:hp.objs.size+3<=dx:=by
  obtain⟨o,es,ep,ho,_⟩:=hns2
  exact Nat.le_trans (Nat.succ_le_of_lt (Heap.lt_size ho)) dn'
 have hpd:hp.get? dx=none:=by
  cases z:hp.get? dx with
  | none=>rfl
  | some o=>exact absurd (Heap.lt_size z) (Nat.not_lt_of_le (Nat.le_trans (Nat.le_add_right _ 3) dge))
 have hKd:X.K.lookup dx=none:=by
  cases z:X.K.lookup dx with
  | none=>rfl
  | some o=>rw[X0 _ _ z] at hpd; cases hpd
 have kC:∀b o,hp.get? b=some o->h3.get? b=some o:=λb o z=>k3 b o (Nat.ne_of_lt (Nat.lt_succ_of_lt (ltb b o z))) (kB b o z)
 have hns3:h3.Ns (hp.objs.size+2) (λx=>(ps.zip (Value.ref (hp.objs.size+1)::us)).reverse.lookup x):=by
  obtain⟨o,es,ep,ho,hr⟩:=hns2
  exact⟨o,es,ep,k3 _ _ hLne ho,hr⟩
 refine wpAny_execs_nil ?_
 have rel4:∀y,L2.RelO (([(f,src.v (V.ref (hp.objs.size+1)::vs))]:List (Str×V)).lookup y) ((λy=>if y=f then some u else none) y):=relO_put (mA:=λ_=>none) (fs:=[]) ru λ_=>True.intro
 have k4:∀b o,b≠dx->h3.get? b=some o->h3.get? b=some o:=λb o _ z=>z
 have hn4:=hn
 generalize (λy=>if y=f then some u else none)=mA at rel4 hn4
 have kD:∀b o,hp.get? b=some o->h3.get? b=some o:=λb o z=>k4 b o (Nat.ne_of_lt (Nat.lt_of_lt_of_le (ltb b o z) (Nat.le_trans (Nat.le_add_right _ 3) dge))) (kC b o z)
 have he4:h3.get? (hp.objs.size+1)=some (oa C t1 (some dx)):=k4 _ _ (Ne.symm dne) hx
 obtain⟨G,g1,g2⟩:=restrict h3 λb=>decide (b≠hp.objs.size+1)
 have gk:∀b,b≠hp.objs.size+1->G.get? b=h3.get? b:=λb hb=>g1 b (decide_eq_true hb)
 have ge:G.get? (hp.objs.size+1)=none:=g2 _ (by simp)
 have nd1:H1 dx=none:=I1.hok.gone hpd
 have ne1:H1 (hp.objs.size+1)=none:=I1.hok.fresh (Nat.le_succ _)
 have J:Inv X pins σ (upd H1 dx (.xd (i5 (V.ref (hp.objs.size+1)::vs) [(f,src)] []))) ⟨G,g,dr,tk3,os⟩ :=
  I1.laidN (t':=tk3) (λb o z=>(gk b (Nat.ne_of_lt (Nat.lt_succ_of_lt (ltb b o z)))).trans (kD b o z)) hpd nd1 ⟨mA,by
   obtain⟨⟨o,es,ep,ho,hr⟩,rc⟩:=(⟨hn4,rel4⟩:h3.Ns1 dx mA/\_)
   exact⟨⟨o,es,ep,(gk _ dne).trans ho,hr⟩,rc⟩⟩
 refine⟨rfl,?_⟩
 exact⟨_,_,_,G,_,.ref C,some dx,rfl,J,λb o z=>by
  by_cases hb:b=hp.objs.size+1
  .rw[hb,ge] at z
   cases z
  .exact(gk b hb).symm.trans z,ge,he4,⟨rfl,rfl,λvs hv=>by cases hv; rfl⟩,rfl,rfl,(by first|decide|(show(4:Nat)<6; decide)),by rw[upd_ne (Ne.symm dne)]; exact ne1,raises_own TI.oex.exC TI.oex.tyC,q _ dx nd1⟩
/-- all that is asked of an own exception class -/
def uA(K:Frag)(P:Program)(C:Addr)(ps:List Str)(as:List (Str×SrcX)):Prop:=ExcMV K P C ps as\/ExcMI K P C ps as\/ExcML K P C ps as
theorem mB{pins:List (Addr×Obj)}{σ:L2.St}{H1:Hp}{s1:Shared}{us:List Value}{vs:List V}{Q:XK}{E:Value->Shared->Prop}{k:Nat}(T:uA X.K X.prog C ps as)(hr:L2H.RoomH (k+1) X.A)(hsup:X.mg "super"=none)(I1:Inv X pins σ H1 s1)(r1:Vals vs us)(hl:vs.length+1=ps.length)(hz:vs.length<=1000)
  (q:∀(a d:Addr),H1 d=none->Q (.ref C) (some d) (upd H1 d (.xd (i5 (.ref a::vs) as [])))):wpAny (model X.prog X.w) X.A (call (.ref C) us) (MkPX X pins σ Q) E s1 :=
 T.elim (λT=>li T hr hsup I1 r1 hl hz q) λT=>T.elim (λT=>k8 T hr hsup I1 r1 hl hz q) λT=>lm T hr hsup I1 r1 hl hz q
theorem qd{pins:List (Addr×Obj)}{σ:L2.St}{H1:Hp}{s1:Shared}{us:List Value}{vs:List V}{Q:XK}{E:Value->Shared->Prop}{k:Nat}(T:uA X.K X.prog C ps as)(hr:L2H.RoomH (k+1) X.A)(hsup:X.mg "super"=none)(I1:Inv X pins σ H1 s1)(r1:Vals vs us)(hl:vs.length+1=ps.length)(hz:vs.length<=1000)
  (q:∀(a d:Addr),H1 d=none->Q (.ref C) (some d) (upd H1 d (.xd (i5 (.ref a::vs) as [])))):wpAny (model X.prog X.w) X.A (call (.ref C) us) (L2N.MkP X pins σ Q) E s1 :=
 wpAny_mono (mB T hr hsup I1 r1 hl hz q) (λ_ _ h=>h.mk) λ_ _ e=>e
end
end
section
def SrcY.d(ds:List D):SrcY->D
 | .par i=>ds.getD i .non
 | .cst s=>.str s.toList
/-- the exception,its last field first -/
def wM(c:String)(a:AsD)(ds:List D):Xn:=⟨c,a.reverse.map (·.1),a.reverse.map λp=>p.2.d ds⟩
def wq(n:Nat)(a:AsD):Bool:=a.all λp=>match p.2 with
 | .par i=>decide (i<n)
 | _=>true
def iA(c:String)(a:AsD)(n:Nat)(evs:Evs):Sv:=λfr hb=>match evs fr hb with
 | some (.inl ds,hb1)=>if av ds && ds.length == n then some (.ex (wM c a ds),hb1) else none
 | some (.inr x,hb1)=>some (.ex x,hb1)
 | none=>none
theorem n5(vs:List V):∀(as:List (Str×SrcX)) (done:List (Str×V)),i5 vs as done=(as.map λp=>(p.1,p.2.v vs)).reverse++done
 | [],done=>rfl
 | (f,s)::as,done=>by
  show i5 vs as ((f,s.v vs)::done)=_
  rw[n5 vs as,List.map_cons,List.reverse_cons,List.append_assoc]<;>rfl
theorem pD(vs:List V)(a:AsD):i5 vs (asX a) []=((a.reverse.map (·.1)).map Str.ofString).zip (a.reverse.map λp=>p.2.x.v vs):=by
 rw[n5,List.append_nil]
 unfold asX
 rw[List.map_map,<-List.map_reverse]
 generalize a.reverse=l
 induction l with
 | nil=>rfl
 | cons p l ih =>
  simp only[List.map_cons,List.zip_cons_cons,<-ih,Function.comp]
theorem hW{K:PySem.W.Frag}{B:Addr->Prop}{m:List Addr}{H:Hp}{α:Type}{f:α->D}{g:α->V}:∀{l:List α},(∀x∈l,RelD K B m H (f x) (g x))->RelDs K B m H (l.map f) (l.map g)
 | [],_=>RelDs.nil'
 | x::l,h=>RelDs.cons (h x (by simp)) (hW λy hy=>h y (List.mem_cons_of_mem _ hy))
section
variable {K:PySem.W.Frag} {B:Addr->Prop} {m:List Addr} {H:Hp}
theorem oY{a:AsD}{n:Nat}{ds:List D}{vs:List V}{e:Addr}(h:wq n a=true)(hl:ds.length=n)(r:RelDs K B m H ds vs):RelDs K B m H (a.reverse.map λp=>p.2.d ds) (a.reverse.map λp=>p.2.x.v (.ref e::vs)):=by
 refine hW λp hp=> ?_
 have h1:=List.all_eq_true.mp h p (List.mem_reverse.mp hp)
 obtain⟨f,s⟩:=p
 cases s with
 | cst s =>
  show RelD K B m H (.str s.toList) (.str (Str.ofString s))
  unfold RelD
  rw[ej]
 | par i =>
  have hi:i<ds.length:=by rw[hl]; exact of_decide_eq_true h1
  obtain⟨v,e1,rv⟩:=r.get (List.getElem?_eq_getElem hi)
  show RelD K B m H (ds.getD i .non) ((V.ref e::vs).getD (i+1) .non)
  rw[List.getD_cons_succ,List.getD_eq_getElem?_getD,List.getD_eq_getElem?_getD,List.getElem?_eq_getElem hi,e1]
  exact rv
end
section
variable {X:Cx} {W:WX} {G:Gh} {p p' pos:Pos} {x:Str} {C:Addr} {k:Nat} {ps:List Str} {as:List (Str×SrcX)} {e:Expr} {es:List Expr} {ta:TA}
def wj(C:Addr)(ps:List Str)(as:List (Str×SrcX))(ta:TA):L2.St->Hp->XK->Prop:=λσ H Q=>ta σ H λvs H1=>vs.length+1=ps.length/\vs.length<=1000/\∀a d,H1 d=none->Q (.ref C) (some d) (upd H1 d (.xd (i5 (.ref a::vs) as [])))
theorem jE(T:uA X.K X.prog C ps as)(hr:Room (k+1) X.A)(hsup:X.mg "super"=none)(hg:Gl X x)(hm:X.mg x=some (.ref C))(kC:PySem.W.keepIn X.K (.ref C)=true)(ha:PA X (e::es) ta)
  (hdb:(x == ("__debug__":Str))=false:=by decide) (he:starEach (e::es) X.env=(false,eval e X.env)::starEach es X.env:=by rfl) (hpl:(backTo pos (starEach es X.env)).any (·.1)=false:=by rfl) :
  L2N.PMk X (.Call (.Name x p) (e::es) [] pos) (wj C ps as ta):=by
 intro pins s σ H Q I h
 refine wpAny_Call_Name_kw (ld_glob I hg hm ?_ hdb)
 refine PySem.W.callWith_K (h₀:=X.base) I.ok.mod.kin kC (thn (ha.run pos pins s σ H _ I h) λus s1 ⟨vs,H1,I1,r1,hl,hz,q1⟩=>⟨I1.kIn,?_⟩) he hpl
 exact qd T (L2H.roomH_of hr) hsup I1 r1 hl hz λa d hd=>q1 a d hd
theorem eB{c:String}{a:AsD}{n:Nat}{evs:Evs}{ex:Expr}(hn:n+1=ps.length)(hp:ps.length<=900)(ok:wq n a=true)(tk:L2N.Takes X W)(hc:X.calm=true)(hP:L2N.PMk X ex (wj (He.ga X.K c) ps (asX a) (tEs X.K W evs))) :
  SS X W G (.Raise (some ex) none pos) (iA c a n evs):=PS.mono (L2N.ps_raise hc tk hP) λD σ H h=>by
 obtain⟨m,hb,fr,r,hb',s,e,cc⟩:=h
 unfold iA at e
 show tEs X.K W evs σ H _
 split at e
 .rename_i ds hb1 e1
  split at e
  .rename_i hv
   cases e
   obtain⟨h1,h2⟩:=Bool.and_eq_true_iff.mp hv
   have h2:ds.length=n:=by simpa using h2
   refine s.evs e1 λm1 H1 vs s1 k1 st1 rv=> ?_
   have rv:=rv.val h1
   have hl:=rv.length
   refine⟨by omega,by omega,λa0 d hd=> ?_⟩
   have t:=s1.at_.wd.laid (o:=.xd (i5 (V.ref a0::vs) (asX a) [])) hd
   have s2:=s1.step t
   refine cc m1 _ σ fr (.ref (He.ga X.K c)) (some d) s2 (k1.trans t.keeps) ⟨rfl,d,_,rfl,λz=>z.elim (λz=>by obtain⟨u,hu⟩:=s1.at_.wd.mt d z; rw[hd] at hu; cases hu) (λz=>by obtain⟨u,hu⟩:=s1.at_.wd.there z; rw[hd] at hu; cases hu),?_,?_,((oY (e:=a0) ok h2 rv).keep t.keeps)⟩
   .rw[upd_same,pD]<;>rfl
   .show(a.reverse.map _).length=(a.reverse.map _).length
    rw[List.length_map,List.length_map]
  .cases e
 .rename_i x hb1 e1
  cases e
  exact s.evs e1 λm1 H1 C dd s1 k1 rx=>cc m1 H1 σ fr C dd s1 k1 rx
 .cases e
end
end
section
open PySem.HandSPX (excO refsVE veTail)
class PFc (P:Program):Prop where
 file:P.main.file=("/claim/cut.py":Str)
 top:(P.main.scope.names.lookup ("super":Str)).isSome=false
section
open PySem.W PySem.Calls PyProof.Rows
theorem eT{ps:List Str}:∀{r:List Stmt} {as:List (Str×SrcX)},ti ps r as=true->Asg ps r as
 | [],[],_=>.nil
 | [],_::_,h=>by unfold ti at h; cases h
 | st::r,[],h=>by unfold ti at h; split at h<;>simp_all
 | st :: r,(g,src)::as,h=>by
  unfold ti at h
  split at h
  .simp_all
  .rename_i se p1 f p2 e pos r2 g2 src2 as2 e1 e2
   cases e1
   cases e2
   obtain⟨h1,h⟩:=Bool.and_eq_true_iff.mp h
   obtain⟨h2,h⟩:=Bool.and_eq_true_iff.mp h
   obtain⟨h3,h4⟩:=Bool.and_eq_true_iff.mp h
   obtain rfl:=eq_of_beq h1
   obtain rfl:=eq_of_beq h2
   cases src with
   | par i =>
    unfold v6 at h3
    dsimp only at h3
    split at h3
    .exact .par (of_decide_eq_true h3) (eT h4)
    .cases h3
   | cst s =>
    unfold v6 at h3
    dsimp only at h3
    split at h3
    .obtain rfl:=eq_of_beq h3
     exact .cst (eT h4)
    .cases h3
  .cases h
theorem eS{s:Stmt}(h:mT s=true):∃p0 p1 p2 p3 p4 p5 ms j,s=.Expr (.Call (.Attribute (.Call (.Name "super" p0) [] [] p1) "__init__" p2) [.Constant (.str ms) j p3] [] p4) p5/\(p2.endLine == p4.line)=true:=by
 unfold mT at h
 split at h
 .rename_i x p0 p1 i p2 ms j p3 p4 p5
  obtain⟨h1,h⟩:=Bool.and_eq_true_iff.mp h
  obtain⟨h2,h3⟩:=Bool.and_eq_true_iff.mp h
  obtain rfl:=eq_of_beq h1
  obtain rfl:=eq_of_beq h2
  exact⟨p0,p1,p2,p3,p4,p5,ms,j,rfl,h3⟩
 .cases h
theorem gd{qual:Str}{scope:Scope}{p0 p1 p2 p3 p4:Pos}{ms:Str}{j:Nat}(h:(p2.endLine == p4.line)=true):pV qual scope p0 p1 p2 p3 p4 ms j:=λL fI cda cc=>by
 have e:∀ov,methodCall (.Call (.Name "super" p0) [] [] p1) "__init__" p2 p4 (ksEnv qual scope L fI (.ref cda) cc) ov 1 (backTo p4 (starEach [.Constant (.str ms) j p3] (ksEnv qual scope L fI (.ref cda) cc))) []=_:=λov=>mcall_line (n:=1) rfl h
 show(do
  let ov <-attributeBase (.Call (.Name "super" p0) [] [] p1) "__init__" (ksEnv qual scope L fI (.ref cda) cc) (eval (.Call (.Name "super" p0) [] [] p1) (ksEnv qual scope L fI (.ref cda) cc))
  standAt p2.atName
  methodCall (.Call (.Name "super" p0) [] [] p1) "__init__" p2 p4 (ksEnv qual scope L fI (.ref cda) cc) ov 1 (backTo p4 (starEach [.Constant (.str ms) j p3] (ksEnv qual scope L fI (.ref cda) cc))) [])=_
 simp only[e]
def gm(ps:List Str):Prop:=∀(args:List Arg),args.map (·.arg)=ps->∀(name qual:Str) (scope:Scope) (body:List Stmt) (kV doc pm ct cdv:Value) (an:Option Addr) (cc:Addr) (us:List Value),us.length=ps.length ->
 bindArgs (ksFn name qual ⟨[],args,none,[],[],none,[]⟩ body scope .none kV doc pm an cdv ct cc) ⟨us,[]⟩=pure (ps.zip us)
theorem qB(x:Str)(h0:(x == ("self":Str))=false)(hx:∀(args:List Arg) (name qual:Str) (scope:Scope) (body:List Stmt) (kV doc pm ct cdv:Value) (an:Option Addr) (cc:Addr) (u v:Value) (e1 e2:Option Expr) (p1 p2:Pos),
  bindArgs (ksFn name qual ⟨[],[⟨"self",e1,p1⟩,⟨x,e2,p2⟩],none,[],[],none,[]⟩ body scope .none kV doc pm an cdv ct cc) ⟨[u,v],[]⟩=pure [(("self":Str),u),(x,v)]):gm ["self",x]:=λargs h name qual scope body kV doc pm ct cdv an cc us hl=>by
 match args,h with
 | [⟨a,_,_⟩,⟨b,_,_⟩],h =>
  simp only[List.map_cons,List.map_nil,List.cons.injEq,and_true] at h
  obtain⟨rfl,rfl⟩:=h
  match us,hl with
  | [u,v],_=>exact hx args _ _ _ _ _ _ _ _ _ _ _ _ _ _ _ _ _
theorem ol:gm ["self","at"]:=qB _ (by decide) λ_ _ _ _ _ _ _ _ _ _ _ _ _ _ _ _ _ _=>rfl
theorem eD:gm ["self","given"]:=qB _ (by decide) λ_ _ _ _ _ _ _ _ _ _ _ _ _ _ _ _ _ _=>rfl
theorem jB{p:Arguments}{ps:List Str}(h:vP p ps=true)(hb:gm ps)(h0:ps[(0:Nat)]? =some ("self":Str)):(∃ar,(p.posonlyargs++p.args).head? =some ar/\ar.arg="self")/\∀(name qual:Str) (scope:Scope) (body:List Stmt) (kV doc pm ct cdv:Value) (an:Option Addr) (cc:Addr) (us:List Value),us.length=ps.length ->
  bindArgs (ksFn name qual p body scope .none kV doc pm an cdv ct cc) ⟨us,[]⟩=pure (ps.zip us):=by
 unfold vP at h
 split at h
 .rename_i args
  have h1:=eq_of_beq h
  refine⟨?_,λname qual scope body kV doc pm ct cdv an cc us hl=>hb args h1 name qual scope body kV doc pm ct cdv an cc us hl⟩
  subst h1
  cases args with
  | nil=>cases h0
  | cons a l=>exact⟨a,rfl,by simpa using h0⟩
 .cases h
theorem jt{s:Scope}{ps:List Str}(h:vS s ps=true):ExcS s ps:=by
 unfold vS at h
 simp only[Bool.and_eq_true,Bool.not_eq_true',decide_eq_true_eq,decide_eq_false_iff_not,List.all_eq_true] at h
 obtain⟨h1,h2,h3,h4,h5,h6,h7,h8,h9⟩:=h
 exact⟨h1,h2,h3,h4,λx hx=>(h5 x hx).1,h6,h7,h8,h9,λx hx=>(h5 x hx).2⟩
theorem rL{K:Frag}{C:Addr}(h:vL K C=true):OexC K C:=by
 unfold vL at h
 obtain⟨h1,h⟩:=Bool.and_eq_true_iff.mp h
 obtain⟨h2,h⟩:=Bool.and_eq_true_iff.mp h
 obtain⟨h3,h⟩:=Bool.and_eq_true_iff.mp h
 obtain⟨h4,h5⟩:=Bool.and_eq_true_iff.mp h
 refine⟨?_,He.eqO_ok h2,of_decide_eq_true h3,of_decide_eq_true h4,h5⟩
 split at h1
 .rename_i dd cd sl ho
  split at h1
  .rename_i C' bm k0 k1 k2 k3 n k5 hm hs
   obtain⟨h6,h1⟩:=Bool.and_eq_true_iff.mp h1
   obtain⟨h7,h1⟩:=Bool.and_eq_true_iff.mp h1
   obtain⟨h8,h1⟩:=Bool.and_eq_true_iff.mp h1
   obtain⟨h9,h10⟩:=Bool.and_eq_true_iff.mp h1
   obtain rfl:=of_decide_eq_true h6
   obtain rfl:=eq_of_beq h7
   obtain⟨nm,bs,mro,ns,qn,hd,sn,sub,ab,col,del⟩:=cd
   dsimp only at hm h8 h9 h10
   subst hm h8
   have h9:del=false:=by simpa using h9
   subst h9
   have hsl:sl=#[k0,k1,k2,k3,some (.builtin "ValueError.__new__"),k5]:=by
    obtain⟨l⟩:=sl
    simp only at hs
    rw[hs]
   subst hsl
   exact⟨nm,qn,ns,bs,bm,sn,sub,ab,col,dd,k0,k1,k2,k3,k5,ho,h10⟩
  .cases h1
 .cases h1
theorem pk {K :Frag}{P:Program}[PFc P]{C fI:Addr}{ps:List Str}{as:List (Str×SrcX)}(h:rX K C fI ps as=true)(hb:gm ps):ExcMV K P C ps as:=by
 unfold rX at h
 obtain⟨h1,h⟩:=Bool.and_eq_true_iff.mp h
 obtain⟨h2,h⟩:=Bool.and_eq_true_iff.mp h
 obtain⟨h3,h⟩:=Bool.and_eq_true_iff.mp h
 obtain⟨h4,h⟩:=Bool.and_eq_true_iff.mp h
 obtain⟨h5,h⟩:=Bool.and_eq_true_iff.mp h
 obtain⟨h6,h⟩:=Bool.and_eq_true_iff.mp h
 obtain⟨h7,h⟩:=Bool.and_eq_true_iff.mp h
 obtain⟨hini,h⟩:=Bool.and_eq_true_iff.mp h
 obtain⟨h8,h⟩:=Bool.and_eq_true_iff.mp h
 obtain⟨h9,h⟩:=Bool.and_eq_true_iff.mp h
 obtain⟨h10,h⟩:=Bool.and_eq_true_iff.mp h
 have has:as≠[]:=λz=>by rw[z] at h10; cases h10
 refine⟨?_,PFc.top,has,of_decide_eq_true h9⟩
 split at h
 .rename_i oc od fd osl ho
  obtain⟨fname,fqual,fpar,fbody,fsco,fglob,fclo,fdef,fkw,fdoc,fmod,fann,fcode,fct,fbl⟩:=fd
  unfold fdB at h
  dsimp only at h
  simp only[Bool.and_eq_true] at h
  obtain⟨g1,g2,g3,g4,g5,g6,g7,g8⟩:=h
  obtain rfl:=of_decide_eq_true g2
  obtain rfl:=of_decide_eq_true g3
  have S:=jt g7
  split at g1
  .split at g4
   .rename_i n cc
    obtain⟨g41,g42⟩:=Bool.and_eq_true_iff.mp g4
    obtain rfl:=eq_of_beq g41
    split at g42
    .rename_i c2 d2 D s2 hcc
     obtain rfl:=of_decide_eq_true g42
     split at g5
     .rename_i cda
      obtain⟨g51,g52⟩:=Bool.and_eq_true_iff.mp g5
      split at g52
      .rename_i c1 d1 cv s1 hcda
       split at g52
       .rename_i f tf hcv
        obtain rfl:=eq_of_beq g52
        split at g6
        .rename_i st r
         obtain⟨g61,g62⟩:=Bool.and_eq_true_iff.mp g6
         obtain⟨p0,p1,p2,p3,p4,p5,ms,j,rfl,hl⟩:=eS g61
         obtain⟨⟨ar,e1,e2⟩,e3⟩:=jB g8 hb S.self
         refine⟨fI,fname,fqual,fpar,r,fsco,p0,p1,p2,p3,p4,p5,ms,j,ar,⟨rL h1,He.eqO_ok h2,of_decide_eq_true h3,of_decide_eq_true h4,He.eqO_ok h5,of_decide_eq_true h6,of_decide_eq_true h7,hini,λf hf=> ?_⟩,⟨oc,od,fkw,fdoc,fmod,fann,cda,cc,fct,osl,c1,c2,d1,d2,s1,s2,cv,tf,ho,g51,hcda,?_,hcc⟩,S,eT g62,gd hl,e1,e2,λbody kV doc pm ct cdv an cc us hl=>e3 _ _ _ body kV doc pm ct cdv an cc us hl⟩
         .obtain⟨p,hp,rfl⟩:=List.mem_map.mp hf
          exact He.eqO_ok (List.all_eq_true.mp h8 p hp)
         .rw[PFc.file (P:=P)]
          exact hcv
        .cases g6
       .cases g52
      .cases g52
     .cases g5
    .cases g42
   .cases g4
  .cases g1
 .cases h
theorem oA{K:Frag}{C:Addr}(h:rO K C=true):OexI K C:=by
 unfold rO at h
 obtain⟨h1,h⟩:=Bool.and_eq_true_iff.mp h
 obtain⟨h2,h⟩:=Bool.and_eq_true_iff.mp h
 obtain⟨h3,h⟩:=Bool.and_eq_true_iff.mp h
 obtain⟨h4,h5⟩:=Bool.and_eq_true_iff.mp h
 refine⟨?_,He.eqO_ok h2,of_decide_eq_true h3,of_decide_eq_true h4,h5⟩
 split at h1
 .rename_i dd cd sl ho
  split at h1
  .rename_i C' bm k0 k1 k2 k3 n k5 hm hs
   obtain⟨h6,h1⟩:=Bool.and_eq_true_iff.mp h1
   obtain⟨h7,h1⟩:=Bool.and_eq_true_iff.mp h1
   obtain⟨h8,h1⟩:=Bool.and_eq_true_iff.mp h1
   obtain⟨h9,h10⟩:=Bool.and_eq_true_iff.mp h1
   obtain rfl:=of_decide_eq_true h6
   obtain rfl:=eq_of_beq h7
   obtain⟨nm,bs,mro,ns,qn,hd,sn,sub,ab,col,del⟩:=cd
   dsimp only at hm h8 h9 h10
   subst hm h8
   have h9:del=false:=by simpa using h9
   subst h9
   have hsl:sl=#[k0,k1,k2,k3,some (.builtin "IndexError.__new__"),k5]:=by
    obtain⟨l⟩:=sl
    simp only at hs
    rw[hs]
   subst hsl
   exact⟨nm,qn,ns,bs,bm,sn,sub,ab,col,dd,k0,k1,k2,k3,k5,ho,of_decide_eq_true h10⟩
  .cases h1
 .cases h1
theorem pG {K :Frag}{P:Program}[PFc P]{C fI:Addr}{ps:List Str}{as:List (Str×SrcX)}(h:qY K C fI ps as=true)(hb:gm ps):ExcMI K P C ps as:=by
 unfold qY at h
 obtain⟨h1,h⟩:=Bool.and_eq_true_iff.mp h
 obtain⟨h2,h⟩:=Bool.and_eq_true_iff.mp h
 obtain⟨h3,h⟩:=Bool.and_eq_true_iff.mp h
 obtain⟨h4,h⟩:=Bool.and_eq_true_iff.mp h
 obtain⟨h5,h⟩:=Bool.and_eq_true_iff.mp h
 obtain⟨h6,h⟩:=Bool.and_eq_true_iff.mp h
 obtain⟨h7,h⟩:=Bool.and_eq_true_iff.mp h
 obtain⟨hini,h⟩:=Bool.and_eq_true_iff.mp h
 obtain⟨h8,h⟩:=Bool.and_eq_true_iff.mp h
 obtain⟨h9,h⟩:=Bool.and_eq_true_iff.mp h
 obtain⟨h10,h⟩:=Bool.and_eq_true_iff.mp h
 have has:as≠[]:=λz=>by rw[z] at h10; cases h10
 refine⟨?_,PFc.top,has,of_decide_eq_true h9⟩
 split at h
 .rename_i oc od fd osl ho
  obtain⟨fname,fqual,fpar,fbody,fsco,fglob,fclo,fdef,fkw,fdoc,fmod,fann,fcode,fct,fbl⟩:=fd
  unfold fdB at h
  dsimp only at h
  simp only[Bool.and_eq_true] at h
  obtain⟨g1,g2,g3,g4,g5,g6,g7,g8⟩:=h
  obtain rfl:=of_decide_eq_true g2
  obtain rfl:=of_decide_eq_true g3
  have S:=jt g7
  split at g1
  .split at g4
   .rename_i n cc
    obtain⟨g41,g42⟩:=Bool.and_eq_true_iff.mp g4
    obtain rfl:=eq_of_beq g41
    split at g42
    .rename_i c2 d2 D s2 hcc
     obtain rfl:=of_decide_eq_true g42
     split at g5
     .rename_i cda
      obtain⟨g51,g52⟩:=Bool.and_eq_true_iff.mp g5
      split at g52
      .rename_i c1 d1 cv s1 hcda
       split at g52
       .rename_i f tf hcv
        obtain rfl:=eq_of_beq g52
        split at g6
        .rename_i st r
         obtain⟨g61,g62⟩:=Bool.and_eq_true_iff.mp g6
         obtain⟨p0,p1,p2,p3,p4,p5,ms,j,rfl,hl⟩:=eS g61
         obtain⟨⟨ar,e1,e2⟩,e3⟩:=jB g8 hb S.self
         refine⟨fI,fname,fqual,fpar,r,fsco,p0,p1,p2,p3,p4,p5,ms,j,ar,⟨oA h1,He.eqO_ok h2,of_decide_eq_true h3,of_decide_eq_true h4,He.eqO_ok h5,of_decide_eq_true h6,of_decide_eq_true h7,hini,λf hf=> ?_⟩,⟨oc,od,fkw,fdoc,fmod,fann,cda,cc,fct,osl,c1,c2,d1,d2,s1,s2,cv,tf,ho,g51,hcda,?_,hcc⟩,S,eT g62,gd hl,e1,e2,λbody kV doc pm ct cdv an cc us hl=>e3 _ _ _ body kV doc pm ct cdv an cc us hl⟩
         .obtain⟨p,hp,rfl⟩:=List.mem_map.mp hf
          exact He.eqO_ok (List.all_eq_true.mp h8 p hp)
         .rw[PFc.file (P:=P)]
          exact hcv
        .cases g6
       .cases g52
      .cases g52
     .cases g5
    .cases g42
   .cases g4
  .cases g1
 .cases h
theorem qc{K:Frag}{C:Addr}(h:sW K C=true):OexL K C:=by
 unfold sW at h
 obtain⟨h1,h⟩:=Bool.and_eq_true_iff.mp h
 obtain⟨h2,h⟩:=Bool.and_eq_true_iff.mp h
 obtain⟨h3,h⟩:=Bool.and_eq_true_iff.mp h
 obtain⟨h4,h5⟩:=Bool.and_eq_true_iff.mp h
 refine⟨?_,He.eqO_ok h2,of_decide_eq_true h3,of_decide_eq_true h4,h5⟩
 split at h1
 .rename_i dd cd sl ho
  split at h1
  .rename_i C' bm k0 k1 k2 k3 n k5 hm hs
   obtain⟨h6,h1⟩:=Bool.and_eq_true_iff.mp h1
   obtain⟨h7,h1⟩:=Bool.and_eq_true_iff.mp h1
   obtain⟨h8,h1⟩:=Bool.and_eq_true_iff.mp h1
   obtain⟨h9,h10⟩:=Bool.and_eq_true_iff.mp h1
   obtain rfl:=of_decide_eq_true h6
   obtain rfl:=eq_of_beq h7
   obtain⟨nm,bs,mro,ns,qn,hd,sn,sub,ab,col,del⟩:=cd
   dsimp only at hm h8 h9 h10
   subst hm h8
   have h9:del=false:=by simpa using h9
   subst h9
   have hsl:sl=#[k0,k1,k2,k3,some (.builtin "LookupError.__new__"),k5]:=by
    obtain⟨l⟩:=sl
    simp only at hs
    rw[hs]
   subst hsl
   exact⟨nm,qn,ns,bs,bm,sn,sub,ab,col,dd,k0,k1,k2,k3,k5,ho,of_decide_eq_true h10⟩
  .cases h1
 .cases h1
theorem ou {K :Frag}{P:Program}[PFc P]{C fI:Addr}{ps:List Str}{as:List (Str×SrcX)}(h:sK K C fI ps as=true)(hb:gm ps):ExcML K P C ps as:=by
 unfold sK at h
 obtain⟨h1,h⟩:=Bool.and_eq_true_iff.mp h
 obtain⟨h2,h⟩:=Bool.and_eq_true_iff.mp h
 obtain⟨h3,h⟩:=Bool.and_eq_true_iff.mp h
 obtain⟨h4,h⟩:=Bool.and_eq_true_iff.mp h
 obtain⟨h5,h⟩:=Bool.and_eq_true_iff.mp h
 obtain⟨h6,h⟩:=Bool.and_eq_true_iff.mp h
 obtain⟨h7,h⟩:=Bool.and_eq_true_iff.mp h
 obtain⟨hini,h⟩:=Bool.and_eq_true_iff.mp h
 obtain⟨h8,h⟩:=Bool.and_eq_true_iff.mp h
 obtain⟨h9,h⟩:=Bool.and_eq_true_iff.mp h
 obtain⟨h10,h⟩:=Bool.and_eq_true_iff.mp h
 have has:as≠[]:=λz=>by rw[z] at h10; cases h10
 refine⟨?_,PFc.top,has,of_decide_eq_true h9⟩
 split at h
 .rename_i oc od fd osl ho
  obtain⟨fname,fqual,fpar,fbody,fsco,fglob,fclo,fdef,fkw,fdoc,fmod,fann,fcode,fct,fbl⟩:=fd
  unfold fdB at h
  dsimp only at h
  simp only[Bool.and_eq_true] at h
  obtain⟨g1,g2,g3,g4,g5,g6,g7,g8⟩:=h
  obtain rfl:=of_decide_eq_true g2
  obtain rfl:=of_decide_eq_true g3
  have S:=jt g7
  split at g1
  .split at g4
   .rename_i n cc
    obtain⟨g41,g42⟩:=Bool.and_eq_true_iff.mp g4
    obtain rfl:=eq_of_beq g41
    split at g42
    .rename_i c2 d2 D s2 hcc
     obtain rfl:=of_decide_eq_true g42
     split at g5
     .rename_i cda
      obtain⟨g51,g52⟩:=Bool.and_eq_true_iff.mp g5
      split at g52
      .rename_i c1 d1 cv s1 hcda
       split at g52
       .rename_i f tf hcv
        obtain rfl:=eq_of_beq g52
        split at g6
        .rename_i st r
         obtain⟨g61,g62⟩:=Bool.and_eq_true_iff.mp g6
         obtain⟨p0,p1,p2,p3,p4,p5,ms,j,rfl,hl⟩:=eS g61
         obtain⟨⟨ar,e1,e2⟩,e3⟩:=jB g8 hb S.self
         refine⟨fI,fname,fqual,fpar,r,fsco,p0,p1,p2,p3,p4,p5,ms,j,ar,⟨qc h1,He.eqO_ok h2,of_decide_eq_true h3,of_decide_eq_true h4,He.eqO_ok h5,of_decide_eq_true h6,of_decide_eq_true h7,hini,λf hf=> ?_⟩,⟨oc,od,fkw,fdoc,fmod,fann,cda,cc,fct,osl,c1,c2,d1,d2,s1,s2,cv,tf,ho,g51,hcda,?_,hcc⟩,S,eT g62,gd hl,e1,e2,λbody kV doc pm ct cdv an cc us hl=>e3 _ _ _ body kV doc pm ct cdv an cc us hl⟩
         .obtain⟨p,hp,rfl⟩:=List.mem_map.mp hf
          exact He.eqO_ok (List.all_eq_true.mp h8 p hp)
         .rw[PFc.file (P:=P)]
          exact hcv
        .cases g6
       .cases g52
      .cases g52
     .cases g5
    .cases g42
   .cases g4
  .cases g1
 .cases h
theorem rF{K:Frag}{P:Program}[PFc P]{C fI:Addr}{ps:List Str}{as:List (Str×SrcX)}(h:wn K C fI ps as=true)(hb:gm ps):uA K P C ps as :=
 (Bool.or_eq_true_iff.mp h).elim (λh=>.inl (pk h hb)) λh=>.inr ((Bool.or_eq_true_iff.mp h).elim (λh=>.inl (pG h hb)) λh=>.inr (ou h hb))
end
end
end DI
namespace DI
open PySem PySem.Spec PyProof.Rows L2 LamX
section
end
section
end
section
end
end DI
namespace DI
open PySem PySem.Spec PyProof.Rows L2 LamX
section
/-- the classes that are caught,what is known of each -/
structure XcF (K:PySem.W.Frag) (c1 c2 c3:String) (cs fs:List String):Prop where
 at_:∀c∈cs,XfC K (He.ga K c)/\(∀f∈fs,PySem.W.findIn K (.ref (He.ga K c)) (Str.ofString f)=some none)/\PySem.W.exmAny K (.ref (He.ga K c)) [.ref (He.ga K c1),.ref (He.ga K c2),.ref (He.ga K c3)]=some true
theorem uy{K:PySem.W.Frag}{c1 c2 c3:String}{cs fs:List String}(h:xcB K c1 c2 c3 cs fs=true):XcF K c1 c2 c3 cs fs:=⟨λc hc=>by
 obtain⟨h1,h⟩:=Bool.and_eq_true_iff.mp (List.all_eq_true.mp h c hc)
 obtain⟨h2,h3⟩:=Bool.and_eq_true_iff.mp h
 exact⟨xfB_ok h1,λf hf=>He.eqO_ok (List.all_eq_true.mp h2 f hf),of_decide_eq_true h3⟩⟩
end
end DI
namespace DI
open PySem PySem.Spec PyProof.Rows L2 LamX
section
end
section
structure IsX (K:PySem.W.Frag) (c:String):Prop where
 hcl:(PySem.W.clsIn K (He.ga K c)).isSome=true
 ha:PySem.W.findIn K (.ref (He.ga K c)) "__class__"=some (some (.builtin "object.__class__"))
 hn:PySem.W.specialIn K (.builtin "object.__class__") "__get__"=some (some (.builtin "getset_descriptor.__get__"))
 ht:PySem.W.takesIn K (.builtin "object.__class__")=some true
 hm:PySem.W.mroIn K (He.ga K c) (.type "object")=some true
theorem nA{K:PySem.W.Frag}{c:String}(h:va K c=true):IsX K c:=by
 unfold va at h
 obtain⟨h1,h⟩:=Bool.and_eq_true_iff.mp h
 obtain⟨h2,h⟩:=Bool.and_eq_true_iff.mp h
 obtain⟨h3,h⟩:=Bool.and_eq_true_iff.mp h
 obtain⟨h4,h5⟩:=Bool.and_eq_true_iff.mp h
 exact⟨h1,He.eqO_ok h2,He.eqO_ok h3,of_decide_eq_true h4,of_decide_eq_true h5⟩
end
section
end
section
end
section
end
section
end
section
structure Fc (fa:List He.Fa) (xf:List Xf) (fn:List He5.DefA) (K:PySem.W.Frag) (mg:Str->Option Value):Prop where
 fx:Fxs fa K mg
 xs:∀x∈xf,x.ok K=true
 def_:∀(i:Nat) d,fn[i]? =some d->∃fd,FunD K d.name d.qual d.params d.body d.scope (d.dvs K) (d.kws K) (d.at_ K) fd
section
variable {fa:List He.Fa} {xf:List Xf} {fn:List He5.DefA} {K:PySem.W.Frag} {mg:Str->Option Value} (F:Fc fa xf fn K mg)
include F
theorem Fc.at_(i:Nat){x:Xf}(e:xf[i]? =some x):x.ok K=true:=F.xs x (List.mem_of_getElem? e)
theorem Fc.dun(i:Nat){c:String}{n:Str}(e:xf[i]? =some (.dun c n):=by rfl):Dun K (He.ga K c) (He.ma K (He.ga K c) n) n:=by
 obtain⟨h1,h2⟩:=He.ba (F.at_ i e)
 exact⟨He.eqO_ok h1,h2⟩
theorem Fc.prop(i:Nat){c:String}{f:Str}(e:xf[i]? =some (.prop c f):=by rfl):PropOf K (He.ga K c) f (pa K (He.ga K c) f) (pg K (He.ga K c) f):=by
 obtain⟨h1,h⟩:=He.ba (F.at_ i e)
 obtain⟨h2,h⟩:=He.ba h
 obtain⟨h3,h⟩:=He.ba h
 refine⟨He.eqO_ok h1,He.eqO_ok h2,of_decide_eq_true h3,?_⟩
 split at h
 .rename_i g rest e
  obtain rfl:=of_decide_eq_true h
  exact⟨rest,e⟩
 .cases h
theorem Fc.xany(i:Nat){c:String}{cs:List String}(e:xf[i]? =some (.xany c cs):=by rfl):PySem.W.exmAny K (.ref (He.ga K c)) (cs.map λd:String=>.ref (He.ga K d))=some true:=of_decide_eq_true (F.at_ i e)
theorem Fc.sf(i:Nat){c:String}(e:xf[i]? =some (.sf c):=by rfl):PySem.W.selfFirst K (He.ga K c)=true:=F.at_ i e
theorem Fc.cint(i:Nat){c f:String}{n:Int}(e:xf[i]? =some (.cint c f n):=by rfl):cnB K c f n=true:=F.at_ i e
theorem Fc.nf(i:Nat){c:String}{cs:List String}(e:xf[i]? =some (.nf c cs):=by rfl):nfB K c cs=true:=F.at_ i e
theorem Fc.ne(i:Nat){c:String}(e:xf[i]? =some (.ne c):=by rfl):neB K c=true:=F.at_ i e
theorem Fc.cmet(i:Nat){c:String}{m:Str}(e:xf[i]? =some (.cmet c m):=by rfl):ClX.CMet K (He.ga K c) (.type "type") m (He.ma K (He.ga K c) m) (He5.wf K (He.ga K c) "classmethod" m):=by
 obtain⟨_,h⟩:=He.ba (F.at_ i e)
 obtain⟨_,h⟩:=He.ba h
 obtain⟨h3,h4⟩:=He.ba h
 obtain⟨g1,g2⟩:=He5.wrapB_ok h3
 exact⟨g1,g2,h4⟩
theorem Fc.exc(i:Nat){P:Program}[PFc P]{c:String}{ps:List Str}{a:AsD}(hb:gm ps)(e:xf[i]? =some (.exc c ps a):=by rfl):uA K P (He.ga K c) ps (asX a):=rF (He.ba (F.at_ i e)).1 hb
theorem Fc.exk(i:Nat){c:String}{ps:List Str}{a:AsD}(e:xf[i]? =some (.exc c ps a):=by rfl):PySem.W.keepIn K (.ref (He.ga K c))=true:=(He.ba (F.at_ i e)).2
theorem Fc.xcl(i:Nat){c1 c2 c3:String}{cs fs:List String}(e:xf[i]? =some (.xcl c1 c2 c3 cs fs):=by rfl):XcF K c1 c2 c3 cs fs:=uy (F.at_ i e)
theorem Fc.xth(i:Nat){c d:String}{fs:List String}(e:xf[i]? =some (.xth c d fs):=by rfl):XfC K (He.ga K c)/\(∀f∈fs,PySem.W.findIn K (.ref (He.ga K c)) (Str.ofString f)=some none)/\PySem.W.exmOne K (.ref (He.ga K c)) (.ref (He.ga K d))=some true:=by
 obtain⟨h1,h⟩:=He.ba (F.at_ i e)
 obtain⟨h2,h3⟩:=He.ba h
 exact⟨xfB_ok h1,λf hf=>He.eqO_ok (List.all_eq_true.mp h2 f hf),of_decide_eq_true h3⟩
theorem Fc.isx(i:Nat){c:String}{t:TyN}{b:Bool}(e:xf[i]? =some (.isx c t b):=by rfl):IsX K c/\PySem.W.kitOne K (.ref (He.ga K c)) (t.v K)=some b:=by
 obtain⟨h1,h2⟩:=He.ba (F.at_ i e)
 exact⟨nA h1,of_decide_eq_true h2⟩
theorem Fc.isv(i:Nat){t:TyN}{tab:List (String×Bool)}(e:xf[i]? =some (.isv t tab):=by rfl):∀q∈tab,XfC K (He.ga K q.1)/\IsX K q.1/\PySem.W.kitOne K (.ref (He.ga K q.1)) (t.v K)=some q.2:=λq hq=>by
 obtain⟨h1,h⟩:=He.ba (List.all_eq_true.mp (F.at_ i e) q hq)
 obtain⟨h2,h3⟩:=He.ba h
 exact⟨xfB_ok h1,nA h2,of_decide_eq_true h3⟩
theorem Fc.xvf(i:Nat){f:String}{cs:List String}(e:xf[i]? =some (.xvf f cs):=by rfl):∀c∈cs,XfC K (He.ga K c)/\PySem.W.findIn K (.ref (He.ga K c)) (Str.ofString f)=some none:=λc hc=>by
 obtain⟨h1,h2⟩:=He.ba (List.all_eq_true.mp (F.at_ i e) c hc)
 exact⟨xfB_ok h1,He.eqO_ok h2⟩
theorem Fc.lam(i:Nat){l:String}(e:xf[i]? =some (.lam l):=by rfl):PySem.W.codeHdIn K (ca K l) (ta K l)=true/\K.lookup (ta K l)=none:=by
 obtain⟨h1,h2⟩:=He.ba (F.at_ i e)
 exact⟨h1,by simpa using h2⟩
theorem Fc.isi(i:Nat){cs:List String}(e:xf[i]? =some (.isi cs):=by rfl):mQ K cs=true:=F.at_ i e
end
theorem cr{K:PySem.W.Frag}{c f:String}(h1:Cls K (He.ga K c))(h2:NoAttr K (He.ga K c) f):vJ K [c] f:=λx hx=>by
 rw[List.mem_singleton] at hx
 subst hx
 exact⟨h1,h2⟩
section
variable {X:Cx} {s:Shared} {H:Hp} {scope:Scope} {cl:List (Str×Addr)} {C:Addr} {fp:List Addr} {x:Str}
theorem cC(hk:sG scope x=true):Loc (X.blk s H scope (compEnvC scope cl C X.env) fp).env.scope x:=by
 show(relabel scope X.env).names.lookup x=_\/(relabel scope X.env).names.lookup x=_
 unfold sG at hk
 rcases aX (scope:=scope) (env:=X.env) (x:=x) with e|⟨e,_⟩
 .rw[e]
  split at hk
  .exact .inl (by assumption)
  .exact .inr (by assumption)
  .cases hk
 .rw[e] at hk; cases hk
theorem cy(hk:sG scope x=true):(X.blk s H scope (compEnvC scope cl C X.env) fp).fn x=true\/(X.blk s H scope (compEnvC scope cl C X.env) fp).env.scope.names.lookup x=some .local:=by
 unfold sG at hk
 split at hk
 .exact .inr (sU (by assumption))
 .refine .inl ?_
  show(scope.names.lookup x == some .cell)=true
  rename_i e
  rw[e]; rfl
 .cases hk
end
def sBx(i:Nat)(sv:Sv):Sv:=λfr hb=>match sv fr hb with
 | some (.nx fr1,hb1)=>(match fr1[i]? with
  | some (.ow o)=>some (.nx (fr1.set i (.sh (.box hb1.length))),hb1++[o])
  | _=>none)
 | r=>r
section
variable {K:PySem.W.Frag} {G:Gh} {m:List Addr} {H:Hp} {hb:HB} {fr:Fr} {σ:St} {i:Nat} {o:O}
theorem FS.bxSlot(s:FS K G m H hb fr σ)(ho:fr[i]? =some (.ow o)):∃m',FS K G m' H (hb++[o]) (fr.set i (.sh (.box hb.length))) σ/\Kp G m H fr σ m' H (fr.set i (.sh (.box hb.length))) σ:=by
 obtain⟨x,e1,a,e2,hM,nm,r⟩:=s.at_.fr.2 i _ ho
 subst e2
 obtain⟨a',e3,nb,ro⟩:=s.freed ho e1
 cases e3
 have il:=(List.getElem?_eq_some_iff.mp ho).1
 have z:=s.free i
 have hs:∀v,(σ.set i none).set i v=σ.set i v:=λv=>by rw[List.set_set]
 have hss:σ.set i (some (V.ref a))=σ:=by
  apply List.ext_getElem?
  intro j
  by_cases hj:i=j
  .subst hj
   rw[List.getElem?_set,e1]
   have:=(List.getElem?_eq_some_iff.mp e1).1
   simp[this]
  .rw[List.getElem?_set_ne hj]
 -- the state in which nobody owns it
 have sub:∀b,Mf G.M0 (fr.set i (.sh (.box hb.length))) σ b->Mf G.M0 (fr.set i .un) (σ.set i none) b:=λb h=>by
  rcases h with h|⟨j,o',h1,h2⟩
  .exact .inl h
  .by_cases e:i=j
   .subst e
    rw[List.getElem?_set] at h1
    simp at h1
   .rw[List.getElem?_set_ne e] at h1
    exact .inr ⟨j,o',by rw[List.getElem?_set_ne e]; exact h1,by rw[List.getElem?_set_ne e]; exact h2⟩
 have sub0:∀b,Mf G.M0 (fr.set i .un) (σ.set i none) b->Mf G.M0 (fr.set i (.sh (.box hb.length))) σ b:=λb h=>by
  rcases h with h|⟨j,o',h1,h2⟩
  .exact .inl h
  .by_cases e:i=j
   .subst e
    rw[List.getElem?_set] at h1
    simp at h1
   .rw[List.getElem?_set_ne e] at h1 h2
    exact .inr ⟨j,o',by rw[List.getElem?_set_ne e]; exact h1,h2⟩
 have nM:¬Mf G.M0 (fr.set i .un) (σ.set i none) a:=λq=>nb (.inl q)
 have kp:Keeps (Bd (Mf G.M0 (fr.set i .un) (σ.set i none)) m) (Bd (Mf G.M0 (fr.set i (.sh (.box hb.length))) σ) (m++[a])) m (m++[a]) H H->True:=λ_=>trivial
 -- what is frozen stays
 have k0 :Keeps (Bd (Mf G.M0 fr σ) m) (Bd (Mf G.M0 (fr.set i (.sh (.box hb.length))) σ) (m++[a])) m (m++[a]) H H:=⟨⟨[a],rfl⟩,λb u q n=>⟨q,λy=>n (by
  rcases y with y|y
  .rcases sub b y with y|⟨j,o',h1,h2⟩
   .exact .inl (.inl y)
   .by_cases e:i=j
    .subst e
     rw[List.getElem?_set] at h1
     simp at h1
    .rw[List.getElem?_set_ne e] at h1 h2
     exact .inl (.inr ⟨j,o',h1,h2⟩)
  .rcases List.mem_append.mp y with y|y
   .exact .inr y
   .have:b=a:=by simpa using y
    subst this
    exact .inl hM)⟩⟩
 have k1:∀{B:Addr->Prop},True:=λ{_}=>trivial
 -- relations of others' objects
 have kB:Keeps (Bd (Mf G.M0 (fr.set i .un) (σ.set i none)) m) (Bd (Mf G.M0 (fr.set i .un) (σ.set i none)) m) m m H H:=Keeps.refl
 refine⟨m++[a],⟨⟨⟨?_,λb hb2 y=> ?_,λb y=>s.at_.wd.mt b ?_,by simp[s.at_.wd.len],λn b ob h1 h2=> ?_⟩,by rw[List.length_set]; exact s.at_.fr.1,λj sv e=> ?_⟩,s.m0,?_,λb hb2 hn=> ?_,λb u q hn=>s.keep b u q hn,?_,λj o' b h1 h2=> ?_,λj k o1 o2 b h1 h2 h3 h4=> ?_⟩,k0⟩
 .rw[List.nodup_append]
  refine⟨s.at_.wd.nd,by simp,λb hb2 c hc e=> ?_⟩
  have:c=a:=by simpa using hc
  subst this
  subst e
  exact nm hb2
 .have y':=sub b y
  rcases List.mem_append.mp hb2 with q|q
  .refine s.at_.wd.no b q ?_
   rcases y' with y'|⟨j,o',h1,h2⟩
   .exact .inl y'
   .by_cases e:i=j
    .subst e
     rw[List.getElem?_set] at h1
     simp at h1
    .rw[List.getElem?_set_ne e] at h1 h2
     exact .inr ⟨j,o',h1,h2⟩
  .have:b=a:=by simpa using q
   subst this
   exact nM y'
 .rcases sub b y with y|⟨j,o',h1,h2⟩
  .exact .inl y
  .by_cases e:i=j
   .subst e
    rw[List.getElem?_set] at h1
    simp at h1
   .rw[List.getElem?_set_ne e] at h1 h2
    exact .inr ⟨j,o',h1,h2⟩
 .by_cases hn:n<m.length
  .rw[List.getElem?_append_left hn] at h1
   rw[List.getElem?_append_left (by rw[s.at_.wd.len]; exact hn)] at h2
   exact(s.at_.wd.ob n b ob h1 h2).keep_own k0 λ_ q=>q
  .rw[List.getElem?_append_right (by omega)] at h1
   rw[List.getElem?_append_right (by rw[s.at_.wd.len]; omega),s.at_.wd.len] at h2
   cases kk:n - m.length with
   | succ j=>rw[kk] at h1; simp at h1
   | zero =>
    rw[kk] at h1 h2
    simp at h1 h2
    subst h1
    subst h2
    exact r.keep_own k0 λ_ q=>q
 .by_cases hj:i=j
  .subst hj
   rw[List.getElem?_set] at e
   simp only[if_true,il] at e
   cases e
   refine⟨_,e1,.ref a,rfl,?_⟩
   unfold RelD
   exact⟨a,rfl,by rw[s.at_.wd.len,List.getElem?_append_right (Nat.le_refl _)]; simp⟩
  .rw[List.getElem?_set_ne hj] at e
   obtain⟨x',q8,r8⟩:=s.at_.fr.2 j sv e
   refine⟨x',q8,?_⟩
   cases sv with
   | un=>trivial
   | sh d'=>obtain⟨v',q9,r9⟩:=r8; exact⟨v',q9,r9.keep k0⟩
   | ow o' =>
    obtain⟨b,q9,hM',nm',r9⟩:=r8
    subst q9
    refine⟨b,rfl,.inr ⟨j,o',by rw[List.getElem?_set_ne hj]; exact e,q8⟩,λy=> ?_,r9.keep_own k0 λu q2=>q2⟩
    rcases List.mem_append.mp y with y|y
    .exact nm' y
    .have:b=a:=by simpa using y
     subst this
     exact hj (s.dist i j o o' b ho e e1 q8)
 .obtain⟨l,hl⟩:=s.pre
  exact⟨l++[a],by rw[hl,List.append_assoc]⟩
 .rcases List.mem_append.mp hb2 with q|q
  .exact s.new b q hn
  .have:b=a:=by simpa using q
   subst this
   exact s.own i o b ho e1
 .have:=s.pin.sh (i:=i) (d:=.box hb.length) (x:=some (V.ref a))
  rw[hss] at this
  exact this
 .by_cases hj:i=j
  .subst hj
   rw[List.getElem?_set] at h1
   simp at h1
  .rw[List.getElem?_set_ne hj] at h1
   exact s.own j o' b h1 h2
 .by_cases hj:i=j
  .subst hj
   rw[List.getElem?_set] at h1
   simp at h1
  .by_cases hk:i=k
   .subst hk
    rw[List.getElem?_set] at h2
    simp at h2
   .rw[List.getElem?_set_ne hj] at h1
    rw[List.getElem?_set_ne hk] at h2
    exact s.dist j k o1 o2 b h1 h2 h3 h4
end
section
variable {X:Cx} {W:WX} {G:Gh} {st:Stmt} {sv:Sv}
theorem ly(i:Nat)(h:SS X W G st sv):SS X W G st (sBx i sv):=PS.mono h λD σ H hh=>by
 obtain⟨m,hb,fr,r,hb',s,e,c⟩:=hh
 unfold sBx at e
 split at e
 .rename_i fr1 hb1 e1
  split at e
  .rename_i o ho
   cases e
   refine aV s e1 λm' H' σ' s' k'=> ?_
   obtain⟨m2,s2,k2⟩:=s'.bxSlot ho
   exact c m2 H' σ' s2 (k'.trans k2)
  .cases e
 .exact aV s e c
end
section
variable {K:PySem.W.Frag} {x qual:Str} {params:Arguments} {body:List Stmt} {scope:Scope} {kws:List (Str×V)} {f:Addr} {fd:FuncData} {ps:List Str}
theorem FunD.kbn(F:FunD K x qual params body scope [] kws f fd)(n:Nat)(ks:List Str)(g:List Value->List Value->List Value)(gV:List V->List V->List V)
  (hrel:∀{vs zs:List V} {us ws:List Value},Vals vs us->Vals zs ws->Vals (gV vs zs) (g us ws))
  (h:∀(kV doc pm:Value) (an:Option Addr) (cdv ct:Value) (us ws:List Value),us.length=n->ws.length=ks.length->bindArgs (PySem.W.fnOf x qual params body scope .none kV doc pm an cdv ct) ⟨us,ks.zip ws⟩=pure (ps.zip (g us ws))):KBn K fd ps n ks g gV:=by
 obtain⟨oc,od,dV,kV,doc,pm,an,cdv,ct,osl,rfl,lk,hcd,hD,hK⟩:=F.ex
 rcases hD with ⟨_,rfl⟩|⟨e,_⟩
 .exact⟨λs us ws _ h1 h2=>.of_eq (h kV doc pm an cdv ct us ws h1 h2),hrel⟩
 .exact absurd rfl e
end
/-- the values by name,put in order: p the places -/
def perm{α:Type}(p:List Nat)(ds es:List α):List α:=ds++p.filterMap λi=>es[i]?
theorem my:∀{zs:List V} {ws:List Value} (i:Nat),Vals zs ws->((zs[i]? =none/\ws[i]? =none)\/∃z w,zs[i]? =some z/\ws[i]? =some w/\Vals [z] [w])
 | [],_,i,h=>by cases h; exact .inl ⟨by simp,by simp⟩
 | _::_,_,0,h=>by
  cases h with
  | cons e r=>exact .inr ⟨_,_,by simp,by simp,.cons e .nil⟩
 | _::_,_,i+1,h=>by
  cases h with
  | cons e r=>simpa using my i r
theorem oE{vs zs:List V}{us ws:List Value}(r1:Vals vs us)(r2:Vals zs ws):∀p:List Nat,Vals (perm p vs zs) (perm p us ws):=λp=>by
 unfold perm
 refine r1.append ?_
 induction p with
 | nil=>exact .nil
 | cons i p ih =>
  rw[List.filterMap_cons,List.filterMap_cons]
  rcases my i r2 with ⟨e1,e2⟩|⟨z,w,e1,e2,e3⟩
  .rw[e1,e2]; exact ih
  .rw[e1,e2]
   cases e3 with
   | cons e _=>exact .cons e ih
theorem sR{K:PySem.W.Frag}{B:Addr->Prop}{m:List Addr}{H:Hp}{ds es:List D}{vs zs:List V}(r1:RelDs K B m H ds vs)(r2:RelDs K B m H es zs)(p:List Nat):RelDs K B m H (perm p ds es) (perm p vs zs):=by
 unfold perm
 refine r1.append ?_
 induction p with
 | nil=>exact RelDs.nil'
 | cons i p ih =>
  rw[List.filterMap_cons,List.filterMap_cons]
  cases h:es[i]? with
  | none =>
   have:zs[i]? =none:=by
    rw[List.getElem?_eq_none_iff] at h ⊢
    rw[<-r2.length]; exact h
   rw[this]; exact ih
  | some d =>
   obtain⟨v,e1,r⟩:=r2.get h
   rw[e1]; exact RelDs.cons r ih
theorem tH{K:PySem.W.Frag}{fd:FuncData}{ps ks:List Str}{n:Nat}(p:List Nat)(hb:KBn K fd ps (n+1) ks (λus ws=>perm p us ws) (λvs zs=>perm p vs zs))(hp:∀i∈p,i<ks.length)(hn:n+1+p.length=ps.length):KBI K fd ps n ks (λds es=>perm p ds es):=by
 refine⟨_,_,λvs zs=>perm p vs zs,hb,λ_ _ _ _ _=>rfl,λ{B m H ds es vs zs} h1 h2 r1 r2=>⟨sR r1 r2 p,?_⟩⟩
 have hl:∀q:List Nat,(∀i∈q,i<ks.length)->(q.filterMap λi=>es[i]?).length=q.length:=λq=>by
  induction q with
  | nil=>intro _; rfl
  | cons i q ih =>
   intro h
   have hi:i<es.length:=by rw[h2]; exact h i List.mem_cons_self
   rw[List.filterMap_cons,List.getElem?_eq_getElem hi]
   simp[ih λj hj=>h j (List.mem_cons_of_mem _ hj)]
 unfold perm
 rw[List.length_append,hl p hp,h1]
 omega
theorem FunD.kbp{K:PySem.W.Frag}{x qual:Str}{params:Arguments}{body:List Stmt}{scope:Scope}{kws:List (Str×V)}{f:Addr}{fd:FuncData}{ps:List Str}(F:FunD K x qual params body scope [] kws f fd)(n:Nat)(ks:List Str)(p:List Nat)
 (h:∀(kV doc pm:Value) (an:Option Addr) (cdv ct:Value) (us ws:List Value),us.length=n->ws.length=ks.length->bindArgs (PySem.W.fnOf x qual params body scope .none kV doc pm an cdv ct) ⟨us,ks.zip ws⟩=pure (ps.zip (perm p us ws))) :
 KBn K fd ps n ks (λus ws=>perm p us ws) (λvs zs=>perm p vs zs):=FunD.kbn F n ks _ _ (λr1 r2=>oE r1 r2 p) h
end
section
theorem lX{K:PySem.W.Frag}{B:Addr->Prop}{m:List Addr}{H:Hp}:∀ns:List Int,RelDs K B m H (ns.map .int) (ns.map V.int)
 | []=>RelDs.nil'
 | n::ns=>RelDs.cons (by unfold RelD; rfl) (lX ns)
theorem uh{K:PySem.W.Frag}{ev:a6}{ns:List Int}{a:Addr}{H:Hp}(hS:SqL K H a (ns.map V.int))(ho:∃hb,ev [.fz (ns.map .int)] []=some (.ok (.bl true),hb)) :
  spF K 1 ev [.ref a] H (λv _=>v=.bl true) (λ_ _ _=>False):=by
 obtain⟨hb,e⟩:=ho
 refine⟨λ_=>False,[],[],[.fz (ns.map .int)],.ok (.bl true),hb,rfl,⟨List.nodup_nil,λ_ h=>by simp at h,λ_ h=>h.elim,rfl,λn a o h=>by simp at h⟩,RelDs.cons ?_ RelDs.nil',e,λm' H' _ v rv=> ?_⟩
 .unfold RelD
  refine⟨a,ns.map V.int,rfl,?_,lX ns⟩
  rcases hS with h|h
  .exact .inl ⟨h,λz=>by rcases z with z|z; exact z; simp at z⟩
  .exact .inr h
 .unfold RelD at rv
  exact rv
end
end DI
namespace DI
open PySem PySem.Spec PyProof.Rows L2 LamX
section
end
end DI
namespace DI
open PySem PySem.Spec PyProof.Rows L2 LamX
section
end
end DI
namespace DI
open PySem PySem.Spec PyProof.Rows L2 LamX
section
structure LamP (sc scope:Scope) (y0:Str):Prop where
 kind:scope.kind=.function
 co:scope.isCoroutine=false
 gen:scope.isGenerator=false
 par:scope.names.lookup y0=some .local
 nocell:∀y∈scope.names,y.2≠.cell
 one:∀y,(y,NameKind.local)∈scope.names->y=y0
 free:∀y,(y,NameKind.free)∈scope.names->sc.names.lookup y=some .cell\/sc.names.lookup y=some .free
section
variable {X:Cx} {pins:List (Addr×Obj)} {σ:L2.St} {H HZ:Hp} {s s1:Shared} {y0:Str} {scope:Scope}
theorem LamP.cap(L:LamP X.env.scope scope y0)(ok:X.Ok):∀y∈scope.names,y.2=.free->∃c,X.env.cells.lookup y.1=some c:=fun⟨n,k⟩ hy e=>by
 cases e
 exact ok.has _ (L.free _ hy)
theorem LamP.sub(L:LamP X.env.scope scope y0)(ok:X.Ok){y:Str}{c:Addr}(e:(cloFrom X.env.cells scope.names []).lookup y=some c):X.env.cells.lookup y=some c:=by
 rcases cloFrom_mem (PySem.mem_of_lookup e) with z|⟨z1,z2⟩
 .exact absurd z (List.not_mem_nil)
 .obtain⟨c1,q⟩:=L.cap ok _ z1 rfl
  have q:X.env.cells.lookup y=some c1:=q
  rw[show c=c1 by rw[z2,q]<;>rfl]
  exact q
end
end
section
end
section
end
section
end
section
end
section
end
end DI
namespace DI
open PySem PySem.W PySem.Calls PySem.Spec PyProof.Rows L2 HandSHeadRun
section
end
section
end
section
theorem KeysT.snoc{xs:List D}{kk:List Key}{v:V}(hk:oz xs=some kk):∀{ks:List D} {kvs:List (List Key×V)},KeysT ks kvs->KeysT (ks++[.tup xs]) (kvs++[(kk,v)])
 | _,_,.one h1=>.cons h1 (.one hk)
 | _,_,.cons h1 h2=>.cons h1 (KeysT.snoc hk h2)
theorem KeysT.len:∀{ks:List D} {kvs:List (List Key×V)},KeysT ks kvs->ks.length=kvs.length
 | _,_,.one _=>rfl
 | _,_,.cons h1 h2=>by simp[KeysT.len h2]
end
section
end
section
instance memK_dec (k:Key) (acc:List Key):Decidable (k∈acc):=decidable_of_iff (acc.any λj=>decide (j=k)) (by
 rw[List.any_eq_true]
 exact⟨fun⟨j,h1,h2⟩=>of_decide_eq_true h2 ▸ h1,λh=>⟨k,h,decide_eq_true rfl⟩⟩)
end
section
end
section
end
section
end
section
end
end DI
namespace DI
open PySem PySem.Spec PyProof.Rows L2 GenW
section
/-- the same context,entered at v -/
abbrev Rb(X:Cx)(v:Shared):Cx:={ X with s_0:=v }
/-- asleep: in the entry v and in the state s the object at L is another one now,the same in both -/
structure Nap (X:Cx) (L:Addr) (v s v' s':Shared):Prop where
 os:s'.os=s.os
 vos:v'.os=v.os
 bare:AllBare s'.gens
 vv:Heap.SameBut L v.heap v'.heap
 ss:Heap.SameBut L s.heap s'.heap
 at_:∃o,v'.heap.get? L=some o/\s'.heap.get? L=some o
 funs:v'.heap.FunFrames X.base X.outer
inductive YR where
 | nx (fr:Fr)|bk (fr:Fr)|ct (fr:Fr)|out (d:D)
/-- what the loop's body does with an item: nothing to say,goes on,hands back -/
abbrev Cf:=D->Option (Option D)
def PY(X:Cx)(G:Gh)(L:Addr)(VP:Shared->Prop)(C:Cf)(OUT:D->HB->Prop):Protocol:=λn s₀ u s kap=>∃(v:Shared) (ip:List (Addr×Obj)) (σ:St) (m:List Addr) (H:Hp) (hb:HB) (fr:Fr) (x:V) (d:D),
 VP v/\Inv (Rb X v) ip σ H s/\FS X.K G m H hb fr σ/\RelV x u/\RelD X.K (Bd (Mf G.M0 fr σ) m) m H d x/\C d≠none/\(∀r,C d=some (some r)->OUT r hb) /\
 (C d=some none->∀v' s',Nap X L v s v' s'->VP v'->kap (.send .none) s')
/-- what is behind a statement -/
def PstY(X:Cx)(G:Gh)(L:Addr)(VP:Shared->Prop)(C:Cf)(OUT:D->HB->Prop)(A:Around)(R:GenEnd)(n:Nat)(c:Code)(fs:List Frame)(K:Flow->Sem PySem.Fin)(ip:List (Addr×Obj))(v:Shared)(m:List Addr)(H:Hp)(fr:Fr)(σ:St)(r:YR)(hb':HB):Prop :=
 let go (f:Flow) (fr':Fr):Prop:=∀s₀' v' s' σ' m' H',VP v'->v'.heap.objs.size=v.heap.objs.size->Inv (Rb X v') ip σ' H' s'->FS X.K G m' H' hb' fr' σ'->Kp G m H fr σ m' H' fr' σ'->Seg (model X.prog X.w) A R (PY X G L VP C OUT) n s₀' c (K f) fs s'
 match r with
 | .nx fr'=>go .next fr'
 | .bk fr'=>go .brk fr'
 | .ct fr'=>go .cont fr'
 | .out d=>OUT d hb'
theorem PstY.step{X:Cx}{G:Gh}{L:Addr}{VP:Shared->Prop}{C:Cf}{OUT:D->HB->Prop}{A:Around}{R:GenEnd}{n:Nat}{c:Code}{fs:List Frame}{K:Flow->Sem PySem.Fin}{ip:List (Addr×Obj)}{v v1:Shared}{m m1:List Addr}{H H1:Hp}{fr fr1:Fr}{σ σ1:St}{r:YR}{hb':HB}
  (h:PstY X G L VP C OUT A R n c fs K ip v m H fr σ r hb') (k:Kp G m H fr σ m1 H1 fr1 σ1) (hz:v1.heap.objs.size=v.heap.objs.size):PstY X G L VP C OUT A R n c fs K ip v1 m1 H1 fr1 σ1 r hb':=by
 cases r with
 | nx f=>exact λs₀' v' s' σ' m' H' h1 h2 h3 h4 h5=>h s₀' v' s' σ' m' H' h1 (h2.trans hz) h3 h4 (k.trans h5)
 | bk f=>exact λs₀' v' s' σ' m' H' h1 h2 h3 h4 h5=>h s₀' v' s' σ' m' H' h1 (h2.trans hz) h3 h4 (k.trans h5)
 | ct f=>exact λs₀' v' s' σ' m' H' h1 h2 h3 h4 h5=>h s₀' v' s' σ' m' H' h1 (h2.trans hz) h3 h4 (k.trans h5)
 | out d=>exact h
end
end DI
namespace DI
open PySem PySem.Spec PyProof.Rows L2 GenW
section
end
end DI
namespace DI
open PySem PySem.Spec PyProof.Rows L2 GenW
section
end
end DI
namespace DI
open PySem PySem.Spec PyProof.Rows L2 GenW
section
end
end DI
namespace DI
open PySem PySem.Spec PyProof.Rows L2 GenW
section
end
end DI
namespace DI
open PySem PySem.Spec PyProof.Rows L2 GenW
section
end
section
end
section
end
section
open TL (pre spl par tl spl_nil spl_hit spl_miss par_hit par_miss map_tl_inj split_spl kind_ok partition_par)
def low(b:List Char):Bool:=b.all λc=>decide (c.toNat<256)
end
section
end
section
end
section
end
section
end
section
end
section
end
section
/-- where the zip stands; S is the list that is being filled -/
structure ZipSt (z TI TO i1 i2 l1 l2 S:Addr) (xs ys:Array Value) (i:Nat) (h:Heap):Prop where
 hTI:IsPair h TI (.ref i1) (.ref i2)
 h1:h.IsListIter i1 l1 i
 h2:h.IsListIter i2 l2 i
 hl1:h.IsList l1 xs
 hl2:h.IsList l2 ys
 hz:(IsZip h z TI TO .none/\∃a b,IsPair h TO a b)\/∃T f oT,IsZipHeld h z TI TO T f/\h.get? T=some oT/\T≠z/\T≠i1/\T≠i2/\T≠S
structure Off (S z TI TO i1 i2 l1 l2:Addr):Prop where
 z:z≠S
 TI:TI≠S
 TO:TO≠S
 i1:i1≠S
 i2:i2≠S
 l1:l1≠S
 l2:l2≠S
theorem ZipSt.keep{z TI TO i1 i2 l1 l2 S:Addr}{xs ys:Array Value}{i:Nat}{h h':Heap}(d:Off S z TI TO i1 i2 l1 l2)(st:ZipSt z TI TO i1 i2 l1 l2 S xs ys i h)(hk:∀b o,b≠S->h.get? b=some o->h'.get? b=some o):ZipSt z TI TO i1 i2 l1 l2 S xs ys i h':=by
 refine⟨hk _ _ d.TI st.hTI,st.h1.at λo e=>hk _ o d.i1 e,st.h2.at λo e=>hk _ o d.i2 e,st.hl1.at λo e=>hk _ o d.l1 e,st.hl2.at λo e=>hk _ o d.l2 e,?_⟩
 rcases st.hz with ⟨hz,a,b,hTO⟩|⟨T,f,oT,hz,hT,r1,r2,r3,r4⟩
 .exact .inl ⟨hk _ _ d.z hz,a,b,hk _ _ d.TO hTO⟩
 .exact .inr ⟨T,f,oT,hk _ _ d.z hz,hk _ _ r4 hT,r1,r2,r3,r4⟩
/-- the tuples of the items -/
def PairsAt(H:Hp):List Addr->List V->List V->Prop
 | [],_,_=>True
 | T::Ts,x::xs,y::ys=>H T=some (.tup [x,y])/\PairsAt H Ts xs ys
 | _::_,_,_=>False
theorem PairsAt.keep{H H':Hp}(k:∀a o,H a=some (.tup o)->H' a=some (.tup o)):∀{Ts:List Addr} {xs ys:List V},PairsAt H Ts xs ys->PairsAt H' Ts xs ys
 | [],_,_,_=>trivial
 | T::Ts,x::xs,y::ys,⟨h1,h2⟩=>⟨k _ _ h1,h2.keep k⟩
theorem PairsAt.more{H:Hp}{T:Addr}{x y:V}(hT:H T=some (.tup [x,y])):∀{Ts:List Addr} {xs ys:List V},PairsAt H Ts xs ys->xs[Ts.length]? =some x->ys[Ts.length]? =some y->PairsAt H (Ts++[T]) xs ys
 | [],[],_,_,h,_=>by cases h
 | [],_::_,[],_,_,h=>by cases h
 | [],x'::xs,y'::ys,_,h1,h2=>by
  cases h1
  cases h2
  exact⟨hT,trivial⟩
 | T'::Ts,x'::xs,y'::ys,⟨q1,q2⟩,h1,h2=>⟨q1,q2.more hT (by simpa using h1) (by simpa using h2)⟩
end
section
end
section
end
section
mutual
/-- no dict,no box within -/
def D.cl:D->Bool
 | .non=>true
 | .bl _=>true
 | .int _=>true
 | .str _=>true
 | .tup xs=>D.cls xs
 | .lst xs=>D.cls xs
 | .fz xs=>D.cls xs
 | .ins _ _ vs=>D.cls vs
 | .rf _=>true
 | .ty _=>true
 | _=>false
def D.cls:List D->Bool
 | []=>true
 | x::xs=>D.cl x && D.cls xs
end
def SV.cl:SV->SV
 | .sh d=>if d.cl then .sh d else .un
 | _=>.un
end
section
def O.cl:O->Bool
 | .lst xs=>D.cls xs
 | .dct _ vs=>D.cls vs
 | .ins _ _ vs=>D.cls vs
 | .tab _=>false
def SV.cl3:SV->SV
 | .sh d=>if d.cl then .sh d else .un
 | .ow o=>if o.cl then .ow o else .un
 | .un=>.un
/-- behind the statement -/
def SV.bk:SV->SV
 | .sh (.lk ks vs)=>if D.cls vs then .sh (.wd ks vs) else .un
 | s=>s.cl3
end
section
end
section
mutual
/-- no box within -/
def D.nb:D->Bool
 | .non=>true
 | .bl _=>true
 | .int _=>true
 | .str _=>true
 | .tup xs=>D.nbs xs
 | .lst xs=>D.nbs xs
 | .fz xs=>D.nbs xs
 | .dct _ vs=>D.nbs vs
 | .ins _ _ vs=>D.nbs vs
 | .rf _=>true
 | .ty _=>true
 | _=>false
def D.nbs:List D->Bool
 | []=>true
 | x::xs=>D.nb x && D.nbs xs
end
def SV.nb:SV->SV
 | .sh d=>if d.nb then .sh d else .un
 | _=>.un
end
section
section
variable {K:PySem.W.Frag} {B B':Addr->Prop} {m m':List Addr} {H:Hp}
mutual
theorem RelD.fewer(k:∀a,B' a->B a):∀{d:D} {v:V},d.nb=true->RelD K B m H d v->RelD K B' m' H d v
 | .non,v,_,h=>by unfold RelD at h ⊢; exact h
 | .bl b,v,_,h=>by unfold RelD at h ⊢; exact h
 | .int i,v,_,h=>by unfold RelD at h ⊢; exact h
 | .str x,v,_,h=>by unfold RelD at h ⊢; exact h
 | .tup xs,v,c,h=>by
  unfold RelD at h ⊢
  obtain⟨a,vs,e,f,r⟩:=h
  exact⟨a,vs,e,⟨f.1,λz=>f.2 (k a z)⟩,RelDs.fewer k (by unfold D.nb at c; exact c) r⟩
 | .lst xs,v,c,h=>by
  unfold RelD at h ⊢
  obtain⟨a,vs,e,f,r⟩:=h
  exact⟨a,vs,e,⟨f.1,λz=>f.2 (k a z)⟩,RelDs.fewer k (by unfold D.nb at c; exact c) r⟩
 | .fz xs,v,c,h=>by
  unfold RelD at h ⊢
  obtain⟨a,vs,e,f,r⟩:=h
  refine⟨a,vs,e,?_,RelDs.fewer k (by unfold D.nb at c; exact c) r⟩
  rcases f with ⟨f,n⟩|f
  .exact .inl ⟨f,λz=>n (k a z)⟩
  .exact .inr f
 | .dct ks ds,v,c,h=>by
  unfold RelD at h ⊢
  obtain⟨a,vs,e,n,f,r⟩:=h
  exact⟨a,vs,e,λz=>n (k a z),f,RelDs.fewer k (by unfold D.nb at c; exact c) r⟩
 | .ins _ fs ds,v,c,h=>by
  unfold RelD at h ⊢
  obtain⟨a,dx,vs,e,n,f,l,r⟩:=h
  exact⟨a,dx,vs,e,λz=>n (k a z),f,l,RelDs.fewer k (by unfold D.nb at c; exact c) r⟩
 | .rf a,v,_,h=>by unfold RelD at h ⊢; exact h
 | .ty n,v,_,h=>by unfold RelD at h ⊢; exact h
 | .box _,_,c,_=>by unfold D.nb at c; cases c
 | .loc _,_,c,_=>by unfold D.nb at c; cases c
 | .xo _ _ _ _ _,_,c,_=>by unfold D.nb at c; cases c
 | .ob,_,c,_=>by unfold D.nb at c; cases c
 | .xv _ _ _,_,c,_=>by unfold D.nb at c; cases c
 | .lk _ _,_,c,_=>by unfold D.nb at c; cases c
 | .wd _ _,_,c,_=>by unfold D.nb at c; cases c
theorem RelDs.fewer(k:∀a,B' a->B a):∀{ds:List D} {vs:List V},D.nbs ds=true->RelDs K B m H ds vs->RelDs K B' m' H ds vs
 | [],vs,_,h=>by unfold RelDs at h ⊢; exact h
 | d::ds,vs,c,h=>by
  unfold RelDs at h ⊢
  unfold D.nbs at c
  rw[Bool.and_eq_true] at c
  obtain⟨v,r,e,h1,h2⟩:=h
  exact⟨v,r,e,RelD.fewer k c.1 h1,RelDs.fewer k c.2 h2⟩
end
theorem cO{B B':Addr->Prop}{m m':List Addr}{H:Hp}{p0:Addr}(hp:∃vs,H p0=some (.lst vs))(k:∀a,¬B a->a≠p0->¬B' a):∀{ys:List D} {vs:List V},ys.all (λy=>(prD y).isSome)=true->RelDs K B m H ys vs->RelDs K B' m' H ys vs
 | [],vs,_,h=>by unfold RelDs at h ⊢; exact h
 | y ::ys,vs,c,h=>by
  rw[List.all_cons,Bool.and_eq_true] at c
  unfold RelDs at h ⊢
  obtain⟨v,r,e,h1,h2⟩:=h
  refine⟨v,r,e,?_,cO hp k c.2 h2⟩
  cases e3:prD y with
  | none=>rw[e3] at c; cases c.1
  | some q =>
   have ey:=qC e3
   subst ey
   unfold RelD at h1 ⊢
   obtain⟨a,us,e4,f,r4⟩:=h1
   refine⟨a,us,e4,⟨f.1,k a f.2 λz=> ?_⟩,?_⟩
   .obtain⟨ws,hw⟩:=hp
    have f1:H p0=some (.tup us):=z ▸ f.1
    rw[hw] at f1
    cases f1
   .unfold RelDs at r4 ⊢
    obtain⟨u1,s1,e5,r5,r6⟩:=r4
    unfold RelD at r5
    unfold RelDs at r6
    obtain⟨u2,s2,e6,r7,r8⟩:=r6
    unfold RelD at r7
    unfold RelDs at r8
    refine⟨u1,s1,e5,by unfold RelD; exact r5,?_⟩
    unfold RelDs
    refine⟨u2,s2,e6,by unfold RelD; exact r7,?_⟩
    unfold RelDs
    exact r8
end
def tj(i:Nat)(cv:Cv):Cv:=λfr hb=>match fr[i]? with
 | some (.sh (.box n))=>(match hb[n]? with
  | some (.lst xs)=>if D.nbs xs then (match cv ((fr.map SV.nb).set i (.sh (.lst xs))) [] with
   | some (.inl (.lst ys),_)=>if ys.all (λy=>(prD y).isSome) then some (.inl (.lst ys),hb) else none
   | _=>none) else none
  | _=>none)
 | _=>cv fr hb
section
variable {K:PySem.W.Frag} {W:WX} {M:Addr->Prop} {m:List Addr} {H:Hp} {hb:HB} {fr:Fr} {σ:St}
theorem uL{i n:Nat}{xs:List D}(at_:At K M m H hb fr σ)(hi:fr[i]? =some (.sh (.box n)))(hn:hb[n]? =some (.lst xs))(nb:D.nbs xs=true) :
  ∃p0 vs,H p0=some (.lst vs)/\At K (λa=>Bd M m a/\a≠p0) [] H [] ((fr.map SV.nb).set i (.sh (.lst xs))) σ:=by
 obtain⟨x0,q1,v0,q2,q3⟩:=at_.fr.2 i _ hi
 unfold RelD at q3
 obtain⟨p0,rfl,hp0⟩:=q3
 obtain⟨vs,h1,h2⟩:=at_.wd.ob n p0 _ hp0 hn
 refine⟨p0,vs,h1,⟨List.nodup_nil,λ_ h=>(List.not_mem_nil h).elim,λa z=> ?_,rfl,λn a o h=>by simp at h⟩,by rw[List.length_set,List.length_map]; exact at_.fr.1,λj sv e=> ?_⟩
 .cases e:H a with
  | some u=>exact⟨u,rfl⟩
  | none=>exact absurd z.1 (b6 at_.wd e)
 .have kk :∀a,Bd (λa=>Bd M m a/\a≠p0) [] a->Bd M m a:=λa z=>z.elim (λz=>z.1) λz=>(List.not_mem_nil z).elim
  by_cases hj:i=j
  .subst hj
   have hlt:i<(fr.map SV.nb).length:=by rw[List.length_map]; exact(List.getElem?_eq_some_iff.mp hi).1
   rw[List.getElem?_set_self hlt] at e
   cases e
   refine⟨x0,q1,_,q2,?_⟩
   unfold RelD
   exact⟨p0,vs,rfl,⟨h1,λz=>z.elim (λz=>z.2 rfl) λz=>(List.not_mem_nil z).elim⟩,RelDs.fewer kk nb h2⟩
  .rw[List.getElem?_set_ne hj,List.getElem?_map] at e
   cases e1:fr[j]? with
   | none=>rw[e1] at e; cases e
   | some s =>
    rw[e1] at e
    obtain⟨x,r1,r2⟩:=at_.fr.2 j s e1
    refine⟨x,r1,?_⟩
    have es:s.nb=sv:=by simpa using e
    subst es
    cases s with
    | un=>trivial
    | ow o=>trivial
    | sh d =>
     by_cases hd:d.nb=true
     .rw[show SV.nb (.sh d)=.sh d from if_pos hd]
      obtain⟨v,r3,r4⟩:=r2
      exact⟨v,r3,r4.fewer kk hd⟩
     .rw[show SV.nb (.sh d)=.un from if_neg hd]
      trivial
end
theorem tK{X:Cx}{W:WX}{e:Expr}{cv:Cv}(i:Nat)(h:SC X W e cv):SC X W e (tj i cv):=PE.mono h λσ H Q hq=>by
 obtain⟨M,m,hb,fr,r,hb',at_,e0,c⟩:=hq
 unfold tj at e0
 split at e0
 .rename_i n hi
  split at e0
  .rename_i xs hn
   split at e0
   .rename_i nb
    split at e0
    .rename_i ys l2 e1
     split at e0
     .rename_i hp
      cases e0
      obtain⟨p0,vs0,h0,a2⟩:=uL at_ hi hn nb
      refine⟨_,[],[],_,.inl (.lst ys),l2,a2,e1,λm1 H1 p st ro=> ?_⟩
      have ext:∀a o,H a=some o->H1 a=some o:=λa o q=>st.fr a o q (List.not_mem_nil)
      have np:∀a u,H a=some u->a≠p:=λa u q z=>by rw[z,st.pn] at q; cases q
      have kp:Keeps (Bd M m) (Bd (Mp M p) m) m m H H1:=⟨⟨[],by simp⟩,λa o q n=>⟨ext a o q,λz=>by
       rcases z with (z|z)|z
       .exact n (.inl z)
       .exact np a o q z
       .exact n (.inr z)⟩⟩
      have some_of:∀a,Bd M m a->∃u,H a=some u:=λa z=>by
       cases e:H a with
       | some u=>exact⟨u,rfl⟩
       | none=>exact absurd z (b6 at_.wd e)
      have p1:∃u,H1 p=some u:=by
       obtain⟨ws,z,_⟩:=ro
       exact⟨_,z⟩
      refine c m H1 p ⟨⟨[],by simp⟩,λa h n=>absurd h n,λa o q _=>ext a o q,⟨at_.wd.nd,λa ha z=> ?_,λa z=> ?_,at_.wd.len,λn a ob z1 z2=>(at_.wd.ob n a ob z1 z2).keep_own kp λu q=>ext a u q⟩,st.pn⟩ ?_
      .rcases z with z|z
       .exact at_.wd.no a ha z
       .obtain⟨u,hu⟩:=some_of a (.inr ha)
        exact np a u hu z
      .rcases z with z|z
       .obtain⟨u,hu⟩:=at_.wd.mt a z
        exact⟨u,ext a u hu⟩
       .rw[z]; exact p1
      .obtain⟨ws,z1,z2⟩:=ro
       refine⟨ws,z1,cO (p0:=p0) ⟨vs0,ext _ _ h0⟩ (λa n ne z=>n ?_) hp z2⟩
       rcases z with (z|z)|z
       .exact .inl (.inl ⟨.inl z,ne⟩)
       .exact .inl (.inr z)
       .exact .inl (.inl ⟨.inr z,ne⟩)
     .cases e0
    .cases e0
   .cases e0
  .cases e0
 .exact⟨M,m,hb,fr,r,hb',at_,e0,c⟩
end
section
/-- a def's promise where no repr is under way -/
structure QuietOk (P:Program) (w:World) (K:PySem.W.Frag) (mg:Str->Option Value) (base:Heap) (k:Nat) (f:Addr) (fd:FuncData) (ps:List Str) (ev:a6):Prop where
 go:∀{A:Around} {outer:List Env} {s:Shared} {H:Hp} {args:Args} {us:List Value} {vs:List V} {Q:VK} {E:XK},A.guards=some []->Room k A->Env0 P w K mg base A outer s H->BindsTo s fd args (ps.zip us)->Vals vs us->spF K ps.length ev vs H Q E ->
  codeAny (model P w) A (.call (.ref f) args) (CR (L2N.CX P w) outer P w H s Q E) s
section
variable {P:Program} {w:World} {K:PySem.W.Frag} {mg:Str->Option Value} {base:Heap}
def flV:Flow->Value
 | .ret v=>v
 | _=>.none
/-- how a body's end is read by the caller -/
theorem mi{X:Cx}{H0:Hp}{s0 s':Shared}{Q:VK}{fl:Flow}(h:SP X [] { nx:=λ_ H'=>Q .non H',rt:=Q } fl s')(h1:X.prog=P)(h2:X.w=w)(h3:X.s_0=s0)(h4:X.H_0=H0)(h5:X.ex=[]){outer:List Env}{E:XK}(h6:X.fs=frs outer) :
  CR (L2N.CX P w) outer P w H0 s0 Q E (.ok (.ret (flV fl))) s':=by
 subst h1; subst h2; subst h3; subst h4
 cases fl with
 | next =>
  obtain⟨_,H',J,q⟩:=h
  exact⟨V.non,H',J.os,J.bare,by rw[<-h6,<-h5]; exact J.base,J.hok,rfl,q⟩
 | ret u =>
  obtain⟨v,_,H',J,rv,q⟩:=h
  exact⟨v,H',J.os,J.bare,by rw[<-h6,<-h5]; exact J.base,J.hok,rv,q⟩
 | brk=>obtain⟨_,_,_,q⟩:=h; exact q.elim
 | cont=>obtain⟨_,_,_,q⟩:=h; exact q.elim
/-- THE RULE of the law's def: what is known of its frame -/
theorem wZ{x qual:Str}{params:Arguments}{body:List Stmt}{scope:Scope}{dvs:List V}{kws:List (Str×V)}{f:Addr}{fd:FuncData}{N ps:List Str}{k:Nat}{sv:Sv}(F:FunD K x qual params body scope dvs kws f fd)(S:FnScope N ps scope)
  (hbody:∀(X:Cx) (W:WX) (G:Gh),X.prog=P->X.w=w->X.K=K->X.mg=mg->X.base=base->X.N=N->X.calm=true->X.fn=(λ_=>true)->X.env.scope=scope->Room k X.A->PassesOwn (model X.prog X.w) X.A X.env X.xe->L2N.Takes X W->X.stack=X.env::X.outer->X.env.frame=some X.env.locals->G.pin=none->X.A.guards=some []->SSs X W G body sv) :
  QuietOk P w K mg base (k+1) f fd ps (fnE N.length sv):=by
 obtain⟨oc,od,dV,kV,doc,pm,an,cdv,ct,osl,rfl,lk,hcd,_,_⟩:=F.ex
 constructor
 intro A outer s H args us vs Q E hg hr e0 hb rv ⟨M0,ms,h0,ds,r,h1,hl,wd,rd,e,c⟩
 have lv:vs.length=ps.length:=by rw[<-rd.length,hl]
 have hps:ps.length<=N.length:=by have:=congrArg List.length S.pre; rw[List.length_take] at this; omega
 let X:=cxOf (L2N.CX P w) P w K mg base N qual scope f cdv A outer s H E
 have B:=hbody X (λcls d _ H=>E cls d H) ⟨M0,ms,H,none⟩ rfl rfl rfl rfl rfl rfl rfl rfl rfl (hr.deeper _) (passes_of rfl) (L2N.takes_of rfl rfl rfl rfl) rfl rfl rfl hg
 have goal:tS X.K (λcls d _ H=>E cls d H) ⟨M0,ms,H,none⟩ sv { nx:=λ_ H'=>Q .non H',rt:=Q } (L2.start N vs) H:=by
  have s0:FS K ⟨M0,ms,H,none⟩ ms H h0 (fr0 N.length ds) (L2.start N vs):=FS.start wd rd (by omega)
  have st:∀{m' H' hb2 fr' σ'},FS K ⟨M0,ms,H,none⟩ m' H' hb2 fr' σ'->Stp K M0 ms H m' H' hb2:=λz=>⟨z.pre,z.new,z.keep,z.at_.wd.shrink λa h=>.inl h⟩
  have sh:∀{m':List Addr} {H':Hp} {fr':Fr} {σ':St},Keeps (Bd (Mf M0 fr' σ') m') (Bd M0 m') m' m' H' H':=Keeps.shrink λb z=>z.elim (λz=>.inl (.inl z)) .inr
  unfold fnE at e
  split at e<;>first|(cases e; done)|skip
  all_goals rename_i e1; cases e
  .exact aV s0 e1 λm' H' σ' z _=>c m' H' (st z) .non (by unfold RelD; rfl)
  .exact aV s0 e1 λm' H' σ' fr' v z _ q=>c m' H' (st z) v (q.keep sh)
  .exact aV s0 e1 λm' H' σ' fr' C dd z _ q=>c m' H' (st z) C dd (q.keep sh)
 -- the call itself
 have inF:K.In s.heap:=e0.mod.kin.keeps λb o z=>(e0.bs b o z).1
 have noL:s.heap.NoLimit:=e0.mod.nolimit.keeps λb o z=>(e0.bs b o z).1
 refine codeAny_call_function hr.depth (inF _ _ lk) rfl S.co S.gen rfl (PySem.W.codeRec_of inF hcd) (hb _ _ _ _ (wpAny_newFunctionEnv_cells S.kind ?_ ?_))
 .intro y hy
  rcases S.par y.1 (List.of_mem_zip (a:=y.1) (b:=y.2) hy).1 with q|q
  .exact Or.inl q
  .exact Or.inr ⟨q,PySem.W.cellsFrom_some _ _ _ (.inl q)⟩
 .rintro _ rfl s1 hs1
  refine⟨noL.keeps hs1.toInCall.keep,codeAny_func (wpAny_mono (B.run [] s1 (L2.start N vs) H _ (inv_start S hr.hd e0 lv rv hs1) goal) ?_ λ_ _ z=>z)⟩
  intro fl s2 z
  have t:=mi z (P:=P) (w:=w) (s0:=s) (H0:=H) (outer:=outer) (E:=E) rfl rfl rfl rfl rfl rfl
  cases fl<;>exact t
/-- the law's call,from the head -/
theorem mX{mb:Str->Option Value}{k:Nat}{fa a:Addr}{fd:FuncData}{x:Str}{ev:a6}{s1:Shared}{vs:List Value}{ns:List Int}
  (KX:K.In s1.heap) (G:s1.heap.Ns mainGlobals mg) (hb:s1.heap.Ns builtinsNs mb) (hbb:∀y:Str,y≠"__name__"->mb y=bootBuiltins y) (noL:s1.heap.NoLimit) (ng:s1.gens=#[])
  (ha:s1.heap.get? a=some { cls:=.type "list",data:=.seq vs.toArray }) (hi:IntsAre vs ns) (hl:ns.length<=sizeLine) (hr:Room k callerA)
  (F:∀b:Heap,K.In b->b.Ns mainGlobals mg->QuietOk P w K mg b k fa fd [x] ev) (hbind:∀(s:Shared) (u:Value),BindsTo s fd ⟨[u],[]⟩ [(x,u)])
  (ho:∃h',ev [.fz (ns.map .int)] []=some (.ok (.bl true),h')) :
  codeAny (model P w) callerA (.call (.ref fa) ⟨[.ref a],[]⟩) (λr s'=>r=.ok (.ret (.bool true))/\OldK s1.heap s'.heap/\s'.os=s1.os/\AllBare s'.gens) s1:=by
 have rv:=vals_ints hi
 let u0:HO:=.frz { cls:=.type "list",data:=.seq vs.toArray } (.lst (ns.map V.int))
 -- the script alone may be tracked,where it is none of the module's objects
 let H:Hp:=λb=>if b=a/\K.lookup a=none then some u0 else none
 have inv:∀{b u},H b=some u->(b=a/\K.lookup a=none)/\u=u0:=λ{b u} z=>by
  by_cases c:b=a/\K.lookup a=none
  .exact⟨c,(Option.some.inj ((if_pos c).symm.trans z)).symm⟩
  .exact absurd ((if_neg c).symm.trans z) (by simp)
 have hok:HOk P w H s1.heap:=λb u z=>by
  obtain⟨⟨rfl,_⟩,rfl⟩:=inv z
  exact⟨ha,by rw[List.length_map]; exact hl,vs,_,rv,ha⟩
 have un:∀{b o},s1.heap.get? b=some o->(b=a->K.lookup a≠none)->H b=none:=λ{b o} _ n=>if_neg λc=>n c.1 c.2
 have notA:∀{b:Addr} {o:Obj} {es:Array DictEntry} {ep:Nat},s1.heap.get? b=some o->o.data=.dict es ep->b≠a:=λ{b o es ep} z d c=>by
  subst c
  cases ha.symm.trans z
  cases d
 have ns0:∀{b:Addr} {m:Str->Option Value},s1.heap.Ns b m->(hidT s1.heap H).Ns b m:=λ{b m} ⟨o,es,ep,z,d,q⟩=>⟨o,es,ep,hidT_get z (un z λc=>absurd c (notA z d)),d,q⟩
 have KH:K.In (hidT s1.heap H):=λb o z=>hidT_get (KX b o z) (un (KX b o z) λc n=>by rw[c,n] at z; cases z)
 obtain⟨mc,l1,l2⟩:=noL
 have e0:Env0 P w K mg (hidT s1.heap H) callerA [] s1 H:={
  frames:=rfl
  mod:=⟨KH,ns0 G,⟨mb,ns0 hb,hbb⟩,⟨mc,ns0 l1,l2⟩⟩
  bs:=λb o z=>of_hidT z
  bsz:=Nat.le_of_eq (hidT_size _ _)
  funs:=trivial
  frf:=λb z=>by cases z
  hok:=hok
  bare:=.of_eq ng }
 have hS:SqL K H a (ns.map V.int):=by
  cases hk:K.lookup a with
  | none=>exact .inl (.inr ⟨_,if_pos ⟨rfl,hk⟩⟩)
  | some o =>
   have z:=KX a o hk
   cases ha.symm.trans z
   exact .inr ⟨_,vs.toArray,_,hk,rfl,rfl,rfl,by rw[List.size_toArray,hi.length]; exact hl,by simpa using rv⟩
 obtain⟨h',ho⟩:=ho
 have hsp:spF K 1 ev [.ref a] H (λv _=>v=.bl true) (λ_ _ _=>False):=uh hS ⟨h',ho⟩
 refine codeAny_mono ((F _ KH (ns0 G)).go rfl hr e0 (hbind s1 (.ref a)) (us:=[.ref a]) (vs:=[.ref a]) (.cons rfl .nil) hsp) ?_
 rintro (e|fl) s' q
 .obtain⟨_,_,_,_,_,_,_,_,_,_,_,_,z⟩:=q
  exact z.elim
 cases fl with
 | ret u =>
  obtain⟨v,H',q1,q2,q3,q4,q5,q6⟩:=q
  subst q6
  obtain rfl:u=Value.bool true:=q5
  refine⟨rfl,OldK.of_keep λb o z=> ?_,q1,q2⟩
  cases c:H b with
  | none=>exact q3.keep b o z c (λt=>by cases t) (by simp)
  | some t =>
   obtain⟨⟨rfl,_⟩,rfl⟩:=inv c
   obtain⟨z2,_⟩:=q4 b _ (q3.frzs b _ _ c)
   cases ha.symm.trans z
   exact z2
 | next=>exact False.elim q
 | brk=>exact False.elim q
 | cont=>exact False.elim q
end
/-- the law's walk -/
theorem p6{l:PySem.W.OpenLaw}{n k:Nat}{q:Program}{loose:List Str}{XP:(Str->Option Value)->Heap->Prop}{YP:World->Heap->Prop}{d:DefRec}{x:Str}{ev:a6}
  (hn:l.most=some n) (hn2:n<=sizeLine) (hdf:d.params.defaults=[]) (hr:Room k callerA)
  (F:∀(w:World) (mg:Str->Option Value) (fa:Addr) (h:Heap),YP w h->h.Ns mainGlobals mg->mg d.name=some (.ref fa)->∃(K:PySem.W.Frag) (fd:FuncData),K.In h/\(∀(s:Shared) (u:Value),BindsTo s fd ⟨[u],[]⟩ [(x,u)])/\∀base:Heap,K.In base->base.Ns mainGlobals mg->QuietOk l.prog w K mg base k fa fd [x] ev)
  (ho:∀ns:List Int,ns.length<=n->∃h',ev [.fz (ns.map .int)] []=some (.ok (.bl true),h')) :
  PySem.W.WalkO q loose XP YP l.row.toRowW d [] (λf vs=>PySem.call f vs) :=
 Att.attach_call hn hdf λw _ s1 mg mb fa _ _ _ _ a vs ns G Y _ _ _ hmg hobj hints hlen hg=>by
  obtain⟨K,fd,KX,hb,hF⟩:=F w mg fa _ Y G.T.g hmg
  exact mX KX G.T.g G.T.b G.T.builtins G.T.nolimit hg hobj hints (Nat.le_trans hlen hn2) hr hF hb (ho ns hlen)
end
section
/-- a text's characters,where it has no surrogates -/
def unC(s:Str):Option (List Char):=if s.cps.toList.all (λn=>decide (Nat.isValidChar n))=true then some (s.cps.toList.map Char.ofNat) else none
theorem ky{s:Str}{t:List Char}(h:unC s=some t):s=au t:=by
 unfold unC at h
 split at h
 .rename_i z
  cases h
  unfold au
  rw[List.map_map,show(Char.toNat∘Char.ofNat)=λn=>(Char.ofNat n).toNat from rfl]
  have e:s.cps.toList.map (λn=>(Char.ofNat n).toNat)=s.cps.toList:=by
   rw[List.map_congr_left (g:=λn=>n),List.map_id' ]
   intro n hn
   have v:=of_decide_eq_true (List.all_eq_true.mp z n hn)
   unfold Char.ofNat
   rw[dif_pos v]
   rfl
  rw[e]
 .cases h
theorem pW(t:List Char):unC (au t)=some t:=by
 have v:(au t).cps.toList=t.map Char.toNat:=by unfold au; simp
 unfold unC
 rw[v,if_pos,List.map_map]
 .rw[show(Char.ofNat∘Char.toNat)=id from funext λc=>by simp,List.map_id]
 .rw[List.all_map]
  exact List.all_eq_true.mpr λc _=>decide_eq_true c.valid
def ku:PyData->Bool
 | .list _=>true
 | .tuple _=>true
 | _=>false
def jF:List D->Ev:=λds fr hb=>match ds with
 | [x]=>(match unC (rz fr hb x).py.shown with
  | some t=>if dat 7 (rz fr hb x) && (ku (rz fr hb x).py && ((rz fr hb x).py.showable && ((!(rz fr hb x).py.hasDict) && decide (t.length<=szL)))) then some (.ok (.str t),hb) else none
  | none=>none)
 | _=>none
section
variable {X:Cx} {W:WX}
theorem rP{k:Nat}(hq:X.A.guards=some [])(hr:Room k X.A):CallR X (.builtin "repr") λvs H Q=>∃v d,vs=[v]/\Dp X.K H v d/\d.depth<=7/\ku d=true/\d.showable=true/\d.hasDict=false/\d.shown.length<=sizeLine/\Q (.str d.shown) H:=by
 intro pins s σ H xs us Q I rv ⟨v,d,e,dp,hd,hs,sh,nd,hz,q⟩
 subst e
 cases rv with
 | cons r1 r2 =>
  cases r2
  obtain⟨as,rd⟩:=Dp.reads I d v _ dp r1
  have un:=hr.un
  match d,hs,rd with
  | .list ys,_,.list h1 h2 h3 h4 =>
   exact repr_of_reads' (.list h1 h2 h3 h4) sh (λz=>by rw[nd] at z; cases z) hq (by omega) (λ_ _ z=>z) (λh' u tk kp=>⟨V.str _,H,I.kept kp,(by first|rfl|exact⟨_,rfl⟩|(unfold L2.RelV; exact⟨_,rfl⟩)),q⟩) hz
  | .tuple ys,_,.tuple h1 h2 h3 h4 =>
   exact repr_of_reads' (.tuple h1 h2 h3 h4) sh (λz=>by rw[nd] at z; cases z) hq (by omega) (λ_ _ z=>z) (λh' u tk kp=>⟨V.str _,H,I.kept kp,(by first|rfl|exact⟨_,rfl⟩|(unfold L2.RelV; exact⟨_,rfl⟩)),q⟩) hz
theorem oq:ig X W (λvs H Q=>∃v d,vs=[v]/\Dp X.K H v d/\d.depth<=7/\ku d=true/\d.showable=true/\d.hasDict=false/\d.shown.length<=sizeLine/\Q (.str d.shown) H) jF:=by
 intro M m hb fr σ H ds vs res hb' Q at_ rv e c
 unfold jF at e
 split at e
 .rename_i x
  obtain⟨v,rfl,r1⟩:=rv.one
  split at e
  .rename_i t et
   split at e
   .rename_i h
    obtain⟨h1,h⟩:=Bool.and_eq_true_iff.mp h
    obtain⟨h2,h⟩:=Bool.and_eq_true_iff.mp h
    obtain⟨h3,h⟩:=Bool.and_eq_true_iff.mp h
    obtain⟨h4,h5⟩:=Bool.and_eq_true_iff.mp h
    cases e
    have es:=ky et
    refine⟨v,_,rfl,gA at_ r1 h1,(jw 7 _ h1).2,h2,h3,by simpa using h4,?_,?_⟩
    .rw[es,aJ,<-bd]
     exact of_decide_eq_true h5
    .rw[es]
     exact c.done at_ kW
   .cases e
  .cases e
 .cases e
theorem l9{k:Nat}{p pos:Pos}{e:Expr}{es:List Expr}{evs:Evs}(hq:X.A.guards=some [])(hr:Room k X.A)(hg:Gl X "repr")(hm:X.mg "repr"=none)(ha:SEs X W (e::es) evs)(he:starEach (e::es) X.env=(false,eval e X.env)::starEach es X.env:=by rfl)(hpl:(backTo pos (starEach es X.env)).any (·.1)=false:=by rfl) :
  SE X W (.Call (.Name "repr" p) (e::es) [] pos) (eL jF evs) :=
 ai (rP hq hr) oq hg hm PyProof.Rows.Boot.«repr» ha (by decide) (by decide) he hpl
end
end
end DI
namespace DI
open PySem
section
/-- it answers,and so that Q -/
@[irreducible] def wp {α:Type} (o:Option (α×HB)) (Q:α->HB->Prop):Prop:=match o with
 | some (a,h)=>Q a h
 | none=>False
section
variable {α:Type} {o:Option (α×HB)} {Q Q':α->HB->Prop} {a:α} {h hb:HB} {fr:Fr}
@[simp] theorem wp_some:wp (some (a,h)) Q=Q a h:=by bv_omega
theorem i4(q:Q a h):wp (some (a,h)) Q:=by rw[wp_some]; exact q
@[simp] theorem ax:wp (none:Option (α×HB)) Q=False:=by bv_omega
theorem wp_ex:wp o Q<->∃a h,o=some (a,h)/\Q a h:=by
 unfold wp
 constructor
 .intro h
  split at h
  .exact⟨_,_,rfl,h⟩
  .exact h.elim
 .rintro⟨a,h,rfl,q⟩
  exact q
theorem eR(h:wp o Q)(i:∀a h,Q a h->Q' a h):wp o Q':=by
 obtain⟨a,h',rfl,q⟩:=wp_ex.mp h
 rw[wp_some]
 exact i _ _ q
@[simp] theorem aC {c:Prop} [Decidable c] {o':Option (α×HB)}:wp (if c then o else o') Q=if c then wp o Q else wp o' Q:=by split<;>bv_omega
theorem cQ{c:Prop}[Decidable c]:wp (if c then some (a,h) else none) Q=if c then Q a h else False:=by rw[aC,wp_some,ax]
/-- the answer of a value,else as it is -/
abbrev onOk(k:D->HB->Prop)(Q:R->HB->Prop):R->HB->Prop:=λr h=>match r with
 | .ok d=>k d h
 | .exn x=>Q (.exn x) h
abbrev onL{β:Type}(k:β->HB->Prop)(q:Xn->HB->Prop):β ⊕ Xn->HB->Prop:=λr h=>match r with
 | .inl d=>k d h
 | .inr x=>q x h
theorem wpR{β:Type}{o:Option (R×HB)}{F:D->HB->Option (β×HB)}{G:Xn->β}{Q:β->HB->Prop}:wp (match o with
 | some (.ok d,h)=>F d h
 | some (.exn x,h)=>some (G x,h)
 | none=>none) Q=wp o (λr h=>match r with
  | .ok d=>wp (F d h) Q
  | .exn x=>Q (G x) h):=by
 cases o with
 | none=>bv_omega
 | some p=>obtain⟨r,h⟩:=p; cases r<;>bv_omega
end
section
variable {ev ev2 ev3:Ev} {evs evs2:Evs} {fr:Fr} {hb:HB} {Q:R->HB->Prop} {QL:List D ⊕ Xn->HB->Prop} {QS:SR->HB->Prop} {QO:O ⊕ Xn->HB->Prop} {QI:Src ⊕ Xn->HB->Prop} {d d2:D} {g:D->D->Ev} {i:Nat}
theorem wpE_bind{k:D->Ev}:wp (ay ev k fr hb) Q=wp (ev fr hb) (onOk (λd h=>wp (k d fr h) Q) Q):=by
 unfold ay wp
 cases ev fr hb with
 | none=>bv_omega
 | some p=>obtain⟨r,h⟩:=p; cases r<;>bv_omega
@[simp] theorem wpE_c:wp (eC d fr hb) Q=Q (.ok d) hb:=by bv_omega
@[simp] theorem wpE_v:wp (eV i fr hb) Q=match fr[i]? with
 | some (.sh d)=>Q (.ok d) hb
 | some (.ow _)=>Q (.ok (.loc i)) hb
 | _=>False:=by
 unfold eV
 rcases fr[i]? with _|(_|_|_)<;>bv_omega
@[simp] theorem wpE_op2:wp (am g ev ev2 fr hb) Q=wp (ev fr hb) (onOk (λx h=>wp (ev2 fr h) (onOk (λy h2=>wp (g x y fr h2) Q) Q)) Q):=by
 unfold am; simp only[wpE_bind]
@[simp] theorem wpEs_nil:wp (al fr hb) QL=QL (.inl []) hb:=by bv_omega
@[simp] theorem wpEs_cons:wp (ae ev evs fr hb) QL=wp (ev fr hb) (λr h=>match r with
 | .ok d=>wp (evs fr h) (λr h=>match r with
  | .inl ds=>QL (.inl (d::ds)) h
  | .inr x=>QL (.inr x) h)
 | .exn x=>QL (.inr x) h):=by
 unfold ae
 rcases ev fr hb with _|⟨d|x,h⟩
 .bv_omega
 .simp only[wp_some]
  rcases evs fr h with _|⟨_|_,_⟩<;>bv_omega
 .bv_omega
@[simp] theorem wpE_eL {g:List D->Ev}:wp (eL g evs fr hb) Q=wp (evs fr hb) (onL (λds h=>wp (g ds fr h) Q) λx h=>Q (.exn x) h):=by
 unfold eL wp
 cases evs fr hb with
 | none=>bv_omega
 | some p=>obtain⟨r,h⟩:=p; cases r<;>bv_omega
@[simp] theorem wpE_callN {n:Nat} {f:a6}:wp (aM n f evs fr hb) Q=wp (evs fr hb) (onL (λds h=>if (av ds && ds.length == n)=true then wp (f ds h) Q else False) λx h=>Q (.exn x) h):=by
 unfold aM
 rw[wpE_eL]
 simp only[aC,ax]
@[simp] theorem wpE_callR {f:a6}:wp (qt f evs fr hb) Q=wp (evs fr hb) (onL (λds h=>if av ds=true then wp (f ds h) Q else False) λx h=>Q (.exn x) h):=by
 unfold qt
 rw[wpE_eL]
 simp only[aC,ax]
@[simp] theorem wpE_tup:wp (i6 evs fr hb) Q=wp (evs fr hb) (onL (λds h=>if (av ds && decide (ds.length<=szL))=true then Q (.ok (.tup ds)) h else False) λx h=>Q (.exn x) h):=by
 unfold i6
 rcases evs fr hb with _|⟨ds|x,h⟩
 .bv_omega
 .simp only[wp_some,onL]
  rw[aC]; bv_omega
 .bv_omega
@[simp] theorem wpE_lst:wp (lc evs fr hb) Q=wp (evs fr hb) (onL (λds h=>if (av ds && decide (ds.length<=szL))=true then Q (.ok (.lst ds)) h else False) λx h=>Q (.exn x) h):=by
 unfold lc
 rcases evs fr hb with _|⟨ds|x,h⟩
 .bv_omega
 .simp only[wp_some,onL]
  rw[aC]; bv_omega
 .bv_omega
@[simp] theorem wpE_and:wp (f7 ev ev2 fr hb) Q=wp (ev fr hb) (onOk (λx h=>match x with
 | .bl true=>wp (ev2 fr h) Q
 | .bl false=>Q (.ok (.bl false)) h
 | _=>False) Q):=by
 unfold f7; rw[wpE_bind]; congr 1; funext r h; cases r with
 | exn x=>bv_omega
 | ok d=>cases d<;>first|bv_omega|(rename_i b; cases b<;>bv_omega)
@[simp] theorem wpE_or:wp (eOr ev ev2 fr hb) Q=wp (ev fr hb) (onOk (λx h=>match x with
 | .bl true=>Q (.ok (.bl true)) h
 | .bl false=>wp (ev2 fr h) Q
 | _=>False) Q):=by
 unfold eOr; rw[wpE_bind]; congr 1; funext r h; cases r with
 | exn x=>bv_omega
 | ok d=>cases d<;>first|bv_omega|(rename_i b; cases b<;>bv_omega)
@[simp] theorem wpE_not:wp (lD ev fr hb) Q=wp (ev fr hb) (onOk (λx h=>match x with
 | .bl b=>Q (.ok (.bl (!b))) h
 | _=>False) Q):=by
 unfold lD; rw[wpE_bind]; congr 1; funext r h; cases r with
 | exn x=>bv_omega
 | ok d=>cases d<;>bv_omega
@[simp] theorem wpE_if:wp (eIf ev ev2 ev3 fr hb) Q=wp (ev fr hb) (onOk (λx h=>match x with
 | .bl true=>wp (ev2 fr h) Q
 | .bl false=>wp (ev3 fr h) Q
 | _=>False) Q):=by
 unfold eIf; rw[wpE_bind]; congr 1; funext r h; cases r with
 | exn x=>bv_omega
 | ok d=>cases d<;>first|bv_omega|(rename_i b; cases b<;>bv_omega)
@[simp] theorem wpE_isN {b:Bool}:wp (wP b d fr hb) Q=Q (.ok (.bl (b != d.isN))) hb:=by bv_omega
@[simp] theorem wpE_chain {g g':D->D->Ev}:wp (iX g g' ev ev2 ev3 fr hb) Q=wp (ev fr hb) (onOk (λx h=>wp (ev2 fr h) (onOk (λy h=>wp (g x y fr h) (onOk (λz h=>match z with
 | .bl true=>wp (ev3 fr h) (onOk (λw h=>wp (g' y w fr h) Q) Q)
 | .bl false=>Q (.ok (.bl false)) h
 | _=>False) Q)) Q)) Q):=by
 unfold iX
 simp only[wpE_bind]
 congr 1; funext r h; cases r with
 | exn x=>bv_omega
 | ok d =>
  show wp (ev2 fr h) _=wp (ev2 fr h) _
  congr 1; funext r h; cases r with
  | exn x=>bv_omega
  | ok d2 =>
   show wp (g d d2 fr h) _=wp (g d d2 fr h) _
   congr 1; funext r h; cases r with
   | exn x=>bv_omega
   | ok d=>cases d<;>first|bv_omega|(rename_i b; cases b<;>first|bv_omega|exact wpE_bind)
theorem wpE_cut{lo hi:Eo}:wp (tm ev lo hi fr hb) Q=wp (ev fr hb) (onOk (λx h=>wp (lo fr h) (onL (λl h=>wp (hi fr h) (onL (λu h=>wp (sT l u x fr h) Q) λx h=>Q (.exn x) h)) λx h=>Q (.exn x) h)) Q):=by
 unfold tm; rw[wpE_bind]; congr 1; funext r h; cases r with
 | exn x=>bv_omega
 | ok d =>
  dsimp only[onOk]
  rcases lo fr h with _|⟨l|x,h⟩
  .bv_omega
  .simp only[wp_some,onL]
   rcases hi fr h with _|⟨l|x,h⟩<;>bv_omega
  .bv_omega
@[simp] theorem wpO_none {Qo:Option Int ⊕ Xn->HB->Prop}:wp (lJ fr hb) Qo=Qo (.inl none) hb:=by bv_omega
@[simp] theorem wpO_some {Qo:Option Int ⊕ Xn->HB->Prop}:wp (jz ev fr hb) Qo=wp (ev fr hb) (λr h=>match r with
 | .ok (.int i)=>Qo (.inl (some i)) h
 | .exn x=>Qo (.inr x) h
 | _=>False):=by
 unfold jz wp
 cases ev fr hb with
 | none=>bv_omega
 | some p=>obtain⟨r,h⟩:=p; cases r with
  | exn x=>bv_omega
  | ok d=>cases d<;>bv_omega
variable {cv:Cv}
@[simp] theorem wpE_fz:wp (eFz cv fr hb) Q=wp (cv fr hb) (onL (λo h=>Q (.ok o.d) h) λx h=>Q (.exn x) h):=by
 unfold eFz wp
 cases cv fr hb with
 | none=>bv_omega
 | some p=>obtain⟨r,h⟩:=p; cases r<;>bv_omega
@[simp] theorem wpE_bx:wp (eBx cv fr hb) Q=wp (cv fr hb) (onL (λo h=>Q (.ok (.box h.length)) (h++[o])) λx h=>Q (.exn x) h):=by
 unfold eBx wp
 cases cv fr hb with
 | none=>bv_omega
 | some p=>obtain⟨r,h⟩:=p; cases r<;>bv_omega
@[simp] theorem wpC_lst:wp (pA evs fr hb) QO=wp (evs fr hb) (onL (λds h=>if (av ds && decide (ds.length<=szL))=true then QO (.inl (.lst ds)) h else False) λx h=>QO (.inr x) h):=by
 unfold pA
 rcases evs fr hb with _|⟨ds|x,h⟩
 .bv_omega
 .simp only[wp_some,onL]
  rw[aC]; bv_omega
 .bv_omega
@[simp] theorem wpC_call {gl:GL}:wp (cE gl evs fr hb) QO=wp (evs fr hb) (onL (λds h=>match gl ds fr h with
 | some ys=>QO (.inl (.lst ys)) h
 | none=>False) λx h=>QO (.inr x) h):=by
 unfold cE
 rcases evs fr hb with _|⟨ds|x,h⟩
 .bv_omega
 .simp only[wp_some,onL]
  cases gl ds fr h<;>bv_omega
 .bv_omega
@[simp] theorem wpC_lrg:wp (wk evs fr hb) QO=wp (evs fr hb) (λr h=>match r with
 | .inl [.int j]=>if (smI j && decide (j<=szL))=true then QO (.inl (.lst (eG 0 j))) h else False
 | .inr x=>QO (.inr x) h
 | _=>False):=by
 unfold wk
 cases evs fr hb with
 | none=>bv_omega
 | some p =>
  obtain⟨r,h⟩:=p
  cases r with
  | inr x=>bv_omega
  | inl ds =>
   rcases ds with _|⟨d,_|⟨_,_⟩⟩
   .bv_omega
   .cases d<;>first|bv_omega|(simp only[wp_some,aC,ax])
   .cases d<;>bv_omega
@[simp] theorem wpI_val:wp (gG ev fr hb) QI=wp (ev fr hb) (onOk (λd h=>match d with
 | .str s=>QI (.inl (.ls (s.map λch=>.str [ch]) true)) h
 | .tup xs=>QI (.inl (.ls xs true)) h
 | .lst xs=>QI (.inl (.ls xs true)) h
 | .fz xs=>QI (.inl (.ls xs true)) h
 | .loc i=>(match d8 fr h (.loc i) with
  | some xs=>QI (.inl (.ls xs false)) h
  | none=>False)
 | .box n=>(match h[n]? with
  | some (.lst _)=>QI (.inl (.bx n false)) h
  | _=>False)
 | _=>False) λr h=>match r with
  | .exn x=>QI (.inr x) h
  | _=>False):=by
 unfold gG
 cases ev fr hb with
 | none=>bv_omega
 | some p =>
  obtain⟨r,h⟩:=p
  cases r with
  | exn x=>bv_omega
  | ok d =>
   cases d<;>first|bv_omega|skip
   .rename_i n; show wp (match h[n]? with|some (.lst _)=>some (.inl (.bx n false),h)|_=>none) QI=_
    simp only[wp_some,onOk]
    rcases h[n]? with _|(_|_|_)<;>bv_omega
   .rename_i i
    simp only[wp_some,onOk]
    cases d8 fr h (.loc i)<;>bv_omega
@[simp] theorem wpI_rng1:wp (cN evs fr hb) QI=wp (evs fr hb) (λr h=>match r with
 | .inl [.int j]=>if smI j=true then QI (.inl (.ls (eG 0 j) true)) h else False
 | .inr x=>QI (.inr x) h
 | _=>False):=by
 unfold cN
 cases evs fr hb with
 | none=>bv_omega
 | some p =>
  obtain⟨r,h⟩:=p
  cases r with
  | inr x=>bv_omega
  | inl ds =>
   rcases ds with _|⟨d,_|⟨_,_⟩⟩
   .bv_omega
   .cases d<;>first|bv_omega|(simp only[wp_some,aC,ax])
   .cases d<;>bv_omega
@[simp] theorem wpI_rng2:wp (fQ evs fr hb) QI=wp (evs fr hb) (λr h=>match r with
 | .inl [.int i,.int j]=>if (smI i && smI j)=true then QI (.inl (.ls (eG i j) true)) h else False
 | .inr x=>QI (.inr x) h
 | _=>False):=by
 unfold fQ
 cases evs fr hb with
 | none=>bv_omega
 | some p =>
  obtain⟨r,h⟩:=p
  cases r with
  | inr x=>bv_omega
  | inl ds =>
   rcases ds with _|⟨d,_|⟨d2,_|⟨_,_⟩⟩⟩
   .bv_omega
   .cases d<;>bv_omega
   .cases d<;>first|bv_omega|(cases d2<;>first|bv_omega|(simp only[wp_some,aC,ax]))
   .cases d<;>first|bv_omega|(cases d2<;>bv_omega)
variable {sv sv2:Sv}
@[simp] theorem wpS_nil:wp (gH fr hb) QS=QS (.nx fr) hb:=by bv_omega
@[simp] theorem wpS_seq:wp (a8 sv sv2 fr hb) QS=wp (sv fr hb) (λr h=>match r with
 | .nx fr1=>wp (sv2 fr1 h) QS
 | .rt d=>QS (.rt d) h
 | .bk f=>QS (.bk f) h
 | .ct f=>QS (.ct f) h
 | .ex x=>QS (.ex x) h):=by
 unfold a8 wp
 cases sv fr hb with
 | none=>bv_omega
 | some p=>obtain⟨r,h⟩:=p; cases r<;>bv_omega
@[simp] theorem wpS_drop:wp (gC ev fr hb) QS=wp (ev fr hb) (λr h=>match r with
 | .ok _=>QS (.nx fr) h
 | .exn x=>QS (.ex x) h):=by
 unfold gC wp
 cases ev fr hb with
 | none=>bv_omega
 | some p=>obtain⟨r,h⟩:=p; cases r<;>bv_omega
@[simp] theorem wpS_set:wp (fj i ev fr hb) QS=wp (ev fr hb) (λr h=>match r with
 | .ok d=>if d.isVal=true then QS (.nx (fr.set i (.sh d))) h else False
 | .exn x=>QS (.ex x) h):=by
 refine(wpR (β:=SR) (F:=λd h=>if d.isVal=true then some (.nx (fr.set i (.sh d)),h) else none) (G:=.ex)).trans ?_
 simp only[aC,wp_some,ax]
@[simp] theorem wpS_if:wp (sIf ev sv sv2 fr hb) QS=wp (ev fr hb) (λr h=>match r with
 | .ok (.bl true)=>wp (sv fr h) QS
 | .ok (.bl false)=>wp (sv2 fr h) QS
 | .exn x=>QS (.ex x) h
 | _=>False):=by
 unfold sIf wp
 cases ev fr hb with
 | none=>bv_omega
 | some p=>obtain⟨r,h⟩:=p; cases r with
  | exn x=>bv_omega
  | ok d=>cases d<;>first|bv_omega|(rename_i b; cases b<;>bv_omega)
/-- what a slot's own object is as a value -/
def rtD(fr:Fr)(d:D):Option D:=match d with
 | .loc i=>match fr[i]? with
  | some (.ow o)=>some o.d
  | _=>none
 | d=>some d
@[simp] theorem wpS_ret:wp (bX ev fr hb) QS=wp (ev fr hb) (λr h=>match r with
 | .ok d=>(match rtD fr d with
  | some x=>QS (.rt x) h
  | none=>False)
 | .exn x=>QS (.ex x) h):=by
 unfold bX rtD
 cases ev fr hb with
 | none=>bv_omega
 | some p=>obtain⟨r,h⟩:=p; cases r with
  | exn x=>bv_omega
  | ok d =>
   cases d<;>first|bv_omega|skip
   rename_i i
   simp only[D.isVal,wp_some]
   rcases fr[i]? with _|(_|_|(_|_|_|_))<;>bv_omega
@[simp] theorem wpS_own:wp (rH i cv fr hb) QS=wp (cv fr hb) (onL (λo h=>if i<fr.length then QS (.nx (fr.set i (.ow o))) h else False) λx h=>QS (.ex x) h):=by
 unfold rH
 rcases cv fr hb with _|⟨ds|x,h⟩
 .bv_omega
 .simp only[wp_some,onL]
  rw[aC]; bv_omega
 .bv_omega
@[simp] theorem wpS_fz:wp (sFz i sv fr hb) QS=wp (sv fr hb) (λr h=>match r with
 | .nx fr1=>(match fr1[i]? with
  | some (.ow o)=>QS (.nx (fr1.set i (.sh o.d))) h
  | _=>False)
 | r=>QS r h):=by
 unfold sFz
 cases sv fr hb with
 | none=>bv_omega
 | some p =>
  obtain⟨r,h⟩:=p
  cases r with
  | nx f=>simp only[wp_some]; rcases f[i]? with _|(_|_|_)<;>bv_omega
  | _=>bv_omega
@[simp] theorem wpS_asg {t:Tg}:wp (uQ t ev fr hb) QS=wp (ev fr hb) (λr h=>match r with
 | .ok d=>if d.isVal=true then (match stT t d fr with
  | some fr1=>QS (.nx fr1) h
  | none=>False) else False
 | .exn x=>QS (.ex x) h):=by
 unfold uQ
 rcases ev fr hb with _|⟨d|x,h⟩
 .bv_omega
 .simp only[wp_some]
  rw[aC,ax]
  congr 1
  cases stT t d fr<;>bv_omega
 .bv_omega
variable {QM:List MI ⊕ Xn->HB->Prop} {mxs:List Mx}
@[simp] theorem wpM_nil:wp (eMs [] fr hb) QM=QM (.inl []) hb:=by bv_omega
@[simp] theorem wpM_v:wp (eMs (.v ev::mxs) fr hb) QM=wp (ev fr hb) (λr h=>match r with
 | .ok d=>if d.isVal=true then wp (eMs mxs fr h) (onL (λis h=>QM (.inl (.v d::is)) h) λx h=>QM (.inr x) h) else False
 | .exn x=>QM (.inr x) h):=by
 rw[eMs]
 rcases ev fr hb with _|⟨d|x,h⟩
 .bv_omega
 .simp only[wp_some]
  rw[aC,ax]
  congr 1
  rcases eMs mxs fr h with _|⟨_|_,_⟩<;>bv_omega
 .bv_omega
@[simp] theorem wpM_o:wp (eMs (.o cv::mxs) fr hb) QM=wp (cv fr hb) (onL (λo h=>wp (eMs mxs fr h) (onL (λis h=>QM (.inl (.o o::is)) h) λx h=>QM (.inr x) h)) λx h=>QM (.inr x) h):=by
 rw[eMs]
 rcases cv fr hb with _|⟨d|x,h⟩
 .bv_omega
 .simp only[wp_some,onL]
  rcases eMs mxs fr h with _|⟨_|_,_⟩<;>bv_omega
 .bv_omega
@[simp] theorem wpS_multi {is:List Nat}:wp (eU is mxs fr hb) QS=wp (eMs mxs fr hb) (onL (λitems h=>match stMI is items fr with
 | some fr1=>QS (.nx fr1) h
 | none=>False) λx h=>QS (.ex x) h):=by
 unfold eU
 rcases eMs mxs fr hb with _|⟨its|x,h⟩
 .bv_omega
 .simp only[wp_some,onL]
  cases stMI is its fr<;>bv_omega
 .bv_omega
@[simp] theorem wpF {n:Nat} {ds:List D}:wp (fnE n sv ds hb) Q=wp (sv (fr0 n ds) hb) (λr h=>match r with
 | .nx _=>Q (.ok .non) h
 | .rt d=>Q (.ok d) h
 | .ex x=>Q (.exn x) h
 | _=>False):=by
 unfold fnE wp
 cases sv (fr0 n ds) hb with
 | none=>bv_omega
 | some p=>obtain⟨r,h⟩:=p; cases r<;>bv_omega
@[simp] theorem wpS_put:wp (qZ ev ev2 ev3 fr hb) QS=wp (ev fr hb) (λr h=>match r with
 | .ok d =>if d.isVal=true then wp (ev2 fr h) (λr h=>match r with
  | .ok x=>wp (ev3 fr h) (λr h=>match r with
   | .ok k=>if k.isVal=true then (match rdO fr h x with
    | some ob=>(match sm k d ob with
     | some ob'=>QS (.nx (wrO x ob' fr h).1) (wrO x ob' fr h).2
     | none=>False)
    | none=>False) else False
   | .exn z=>QS (.ex z) h)
  | .exn z=>QS (.ex z) h) else False
 | .exn z=>QS (.ex z) h):=by
 unfold qZ
 rcases ev fr hb with _|⟨d|x,h⟩
 .bv_omega
 .simp only[wp_some]
  rw[aC,ax]
  congr 1
  rcases ev2 fr h with _|⟨x|x,h⟩
  .bv_omega
  .simp only[wp_some]
   rcases ev3 fr h with _|⟨k|x,h⟩
   .bv_omega
   .simp only[wp_some]
    rw[aC,ax]
    congr 1
    rcases rdO fr h x with _|ob
    .bv_omega
    .dsimp only
     rcases sm k d ob with _|ob'<;>bv_omega
   .bv_omega
  .bv_omega
 .bv_omega
@[simp] theorem wpS_bm {T:String} {om:OM} {t:Option Nat}:wp (sBM T om t ev evs fr hb) QS=wp (ev fr hb) (λr h=>match r with
 | .ok d=>if isK T d fr h=true then wp (evs fr h) (onL (λds h=>if av ds=true then (match rdO fr h d with
  | some ob=>(match om ob ds with
   | some p=>QS (.nx (toN t p.2 (wrO d p.1 fr h).1)) (wrO d p.1 fr h).2
   | none=>False)
  | none=>False) else False) λx h=>QS (.ex x) h) else False
 | .exn x=>QS (.ex x) h):=by
 unfold sBM
 rcases ev fr hb with _|⟨d|x,h⟩
 .bv_omega
 .simp only[wp_some]
  rw[aC,ax]
  congr 1
  rcases evs fr h with _|⟨ds|x,h⟩
  .bv_omega
  .simp only[wp_some,onL]
   unfold vf
   rw[aC,ax]
   congr 1
   rcases rdO fr h d with _|ob
   .bv_omega
   .dsimp only
    rcases om ob ds with _|⟨ob',x⟩<;>bv_omega
  .bv_omega
 .bv_omega
@[simp] theorem wpE_bm {T:String} {om:OM}:wp (eBM T om ev evs fr hb) Q=wp (ev fr hb) (onOk (λd h=>if isK T d fr h=true then wp (evs fr h) (onL (λds h=>match d with
 | .box n=>(match h[n]? with
  | some ob=>if av ds=true then (match om ob ds with
   | some p=>Q (.ok p.2) (h.set n p.1)
   | none=>False) else False
  | none=>False)
 | _=>False) λx h=>Q (.exn x) h) else False) Q):=by
 unfold eBM; rw[wpE_bind]; congr 1; funext r h; cases r with
 | exn x=>bv_omega
 | ok d =>
  dsimp only[onOk]
  rw[aC,ax]
  congr 1
  rw[wpE_eL]; congr 1; funext r h; cases r with
  | inr x=>bv_omega
  | inl ds =>
   unfold vm
   cases d<;>first|bv_omega|skip
   rename_i n
   dsimp only[onL]
   cases h[n]? with
   | none=>bv_omega
   | some ob =>
    dsimp only
    rw[aC,ax]
    congr 1
    cases om ob ds<;>bv_omega
end
end
end DI
namespace DI
open PySem
section
section
variable {α:Type} {o:Option (α×HB)} {fr:Fr} {hb:HB}
theorem jv{a:α}{h:HB}:wp o (λx y=>x=a/\y=h)<->o=some (a,h):=by
 rw[wp_ex]
 constructor
 .rintro⟨_,_,e,rfl,rfl⟩; exact e
 .intro e; exact⟨_,_,e,rfl,rfl⟩
end
section
variable {iv:Iv} {t:Tg} {vs:List Nat} {c el ek ev ev2:Ev} {evs evs2:Evs} {fr:Fr} {hb:HB} {QO:O ⊕ Xn->HB->Prop} {QS:SR->HB->Prop} {Q:R->HB->Prop} {b sv:Sv}
@[simp] theorem wpC_lc:wp (cLc iv t vs c el fr hb) QO=wp (iv fr hb) (λr h=>match r with
 | .inl (.ls ds _)=>wp (lcL t c el ds [] (wipeF fr vs) h) λys h2=>QO (.inl (.lst ys)) h2
 | .inr x=>QO (.inr x) h
 | _=>False):=by
 unfold cLc
 rcases iv fr hb with _|⟨(_|_)|x,h⟩
 .bv_omega
 .simp only[wp_some]
  rcases lcL t c el _ [] (wipeF fr vs) h with _|⟨ys,h2⟩<;>bv_omega
 .bv_omega
 .bv_omega
@[simp] theorem wpC_lc2 {c1:Ev} {iv1:Iv} {t1:Tg} {vs1:List Nat}:wp (wg iv t vs c iv1 t1 vs1 c1 el fr hb) QO=wp (iv fr hb) (λr h=>match r with
 | .inl (.ls ds _)=>wp (tL t c iv1 t1 vs1 c1 el ds [] (wipeF fr vs) h) λys h2=>QO (.inl (.lst ys)) h2
 | .inr x=>QO (.inr x) h
 | _=>False):=by
 unfold wg
 rcases iv fr hb with _|⟨(_|_)|x,h⟩
 .bv_omega
 .simp only[wp_some]
  rcases tL t c iv1 t1 vs1 c1 el _ [] (wipeF fr vs) h with _|⟨ys,h2⟩<;>bv_omega
 .bv_omega
 .bv_omega
@[simp] theorem wpC_dc:wp (cDc iv t vs c ek el fr hb) QO=wp (iv fr hb) (λr h=>match r with
 | .inl (.ls ds _)=>(match dcL t c ek el ds [] [] (wipeF fr vs) h with
  | some (ks,ys,h2)=>QO (.inl (.dct ks ys)) h2
  | none=>False)
 | .inr x=>QO (.inr x) h
 | _=>False):=by
 unfold cDc
 rcases iv fr hb with _|⟨(_|_)|x,h⟩
 .bv_omega
 .simp only[wp_some]
  rcases dcL t c ek el _ [] [] (wipeF fr vs) h with _|⟨ks,ys,h2⟩<;>bv_omega
 .bv_omega
 .bv_omega
@[simp] theorem wpI_enum {QI:Src ⊕ Xn->HB->Prop}:wp (fJ evs fr hb) QI=wp (evs fr hb) (λr h=>match r with
 | .inl [d]=>(match d with
  | .box n=>(match h[n]? with
   | some (.lst _)=>QI (.inl (.bx n true)) h
   | _=>False)
  | d=>(match srD fr h d with
   | some p=>QI (.inl (.ls (d9 p.1) p.2)) h
   | none=>False))
 | .inr x=>QI (.inr x) h
 | _=>False):=by
 unfold fJ
 rcases evs fr hb with _|⟨ds|x,h⟩
 .bv_omega
 .rcases ds with _|⟨d,_|⟨_,_⟩⟩
  .bv_omega
  .simp only[wp_some]
   cases d<;>first|(dsimp only; rcases srD fr h _ with _|⟨_,_⟩<;>bv_omega)|skip
   rename_i n
   dsimp only
   rcases h[n]? with _|(_|_|_)<;>bv_omega
  .cases d<;>bv_omega
 .bv_omega
@[simp] theorem wpI_zip {QI:Src ⊕ Xn->HB->Prop}:wp (u7 evs fr hb) QI=wp (evs fr hb) (λr h=>match r with
 | .inl [d1,d2]=>(match srD fr h d1,srD fr h d2 with
  | some p,some q=>QI (.inl (.ls (wc p.1 q.1) (p.2 && q.2))) h
  | _,_=>False)
 | .inr x=>QI (.inr x) h
 | _=>False):=by
 unfold u7
 rcases evs fr hb with _|⟨ds|x,h⟩
 .bv_omega
 .rcases ds with _|⟨d,_|⟨d2,_|⟨_,_⟩⟩⟩
  .bv_omega
  .bv_omega
  .simp only[wp_some]
   rcases srD fr h d with _|⟨_,_⟩
   .bv_omega
   .rcases srD fr h d2 with _|⟨_,_⟩<;>bv_omega
  .bv_omega
 .bv_omega
theorem jY{p:D->Bool}{f:D->D}:∀(ds acc:List D),(∀d∈ds,∃fr1,stT t d fr=some fr1/\wp (c fr1 hb) (λr h=>r=.ok (.bl (p d))/\h=hb)/\(p d=true->wp (el fr1 hb) (λr h=>r=.ok (f d)/\h=hb)/\(f d).isVal=true))->acc.length+ds.length<=szL ->
  lcL t c el ds acc fr hb=some (acc++(ds.filter p).map f,hb)
 | [],acc,_,_=>by simp[lcL]
 | d ::ds,acc,h,hl=>by
  obtain⟨fr1,h1,h2,h3⟩:=h d List.mem_cons_self
  rw[jv] at h2
  have ih:=λacc' hl'=>jY ds acc' (λx hx=>h x (List.mem_cons_of_mem _ hx)) hl'
  unfold lcL
  rw[h1]
  dsimp only
  rw[h2]
  simp only[List.length_cons] at hl
  cases hp:p d with
  | true =>
   obtain⟨h4,h5⟩:=h3 hp
   rw[jv] at h4
   dsimp only
   rw[h4]
   dsimp only
   have:(decide (acc.length<szL))=true:=decide_eq_true (by omega)
   rw[h5,this]
   simp only[Bool.and_self,if_true]
   rw[ih _ (by simp; omega)]
   simp[List.filter_cons,hp]
  | false =>
   dsimp only
   rw[ih _ (by omega)]
   simp[List.filter_cons,hp]
theorem vR{ds acc:List D}{Qc:List D->HB->Prop}(p:D->Bool)(f:D->D)(h:∀d∈ds,∃fr1,stT t d fr=some fr1/\wp (c fr1 hb) (λr h=>r=.ok (.bl (p d))/\h=hb)/\(p d=true->wp (el fr1 hb) (λr h=>r=.ok (f d)/\h=hb)/\(f d).isVal=true))(hl:acc.length+ds.length<=szL)
  (hq:Qc (acc++(ds.filter p).map f) hb):wp (lcL t c el ds acc fr hb) Qc:=by
 rw[jY ds acc h hl]
 exact i4 (hq)
/-- with a state -/
theorem n8{Qc:List D->HB->Prop}(I:List D->List D->List D->HB->Prop):∀(done ds acc:List D) (hb:HB),I done ds acc hb->(∀done d ds acc hb,I done (d::ds) acc hb->∃fr1,stT t d fr=some fr1/\wp (c fr1 hb) (λr h=>match r with
   | .ok (.bl true)=>wp (el fr1 h) (λr h2=>∃y,r=.ok y/\y.isVal=true/\acc.length<szL/\I (done++[d]) ds (acc++[y]) h2)
   | .ok (.bl false)=>I (done++[d]) ds acc h
   | _=>False))->(∀done acc hb,I done [] acc hb->Qc acc hb)->wp (lcL t c el ds acc fr hb) Qc
 | done,[],acc,hb,hi,hs,hq=>by
  unfold lcL
  exact i4 (hq done acc hb hi)
 | done,d::ds,acc,hb,hi,hs,hq=>by
  obtain⟨fr1,h1,h2⟩:=hs done d ds acc hb hi
  obtain⟨r,h,e,h3⟩:=wp_ex.mp h2
  unfold lcL
  rw[h1]
  dsimp only
  rw[e]
  match r,h3 with
  | .ok (.bl true),h3 =>
   obtain⟨r2,h',e2,y,rfl,hv,hl,hi'⟩:=wp_ex.mp h3
   dsimp only
   rw[e2]
   dsimp only
   have:(decide (acc.length<szL))=true:=decide_eq_true hl
   rw[hv,this]
   simp only[Bool.and_self,if_true]
   exact n8 I (done++[d]) ds _ _ hi' hs hq
  | .ok (.bl false),h3=>exact n8 I (done++[d]) ds _ _ h3 hs hq
theorem dJ(I:List D->List D->Fr->HB->Prop):∀(done ds:List D) (fr:Fr) (hb:HB),I done ds fr hb->(∀done d ds fr hb,I done (d::ds) fr hb->∃fr1,stT t d fr=some fr1/\wp (b fr1 hb) (λr h=>match r with
   | .nx fr2=>I (done++[d]) ds fr2 h
   | .ct fr2=>I (done++[d]) ds fr2 h
   | .bk fr2=>QS (.nx fr2) h
   | .rt d=>QS (.rt d) h
   | .ex x=>QS (.ex x) h))->(∀done fr hb,I done [] fr hb->QS (.nx fr) hb)->wp (ft t b ds fr hb) QS
 | done,[],fr,hb,hi,hs,hq=>by
  unfold ft
  exact i4 (hq done fr hb hi)
 | done,d::ds,fr,hb,hi,hs,hq=>by
  obtain⟨fr1,h1,h2⟩:=hs done d ds fr hb hi
  obtain⟨r,h,e,h3⟩:=wp_ex.mp h2
  unfold ft
  rw[h1]
  dsimp only
  rw[e]
  match r,h3 with
  | .nx fr2,h3=>exact dJ I (done++[d]) ds fr2 h h3 hs hq
  | .ct fr2,h3=>exact dJ I (done++[d]) ds fr2 h h3 hs hq
  | .bk fr2,h3=>exact i4 (h3)
  | .rt d,h3=>exact i4 (h3)
  | .ex x,h3=>exact i4 (h3)
/-- over a box that stays -/
theorem jr{n:Nat}{en:Bool}{xs:List D}(I:List D->List D->Fr->HB->Prop)(hx:∀done ds fr hb,I done ds fr hb->hb[n]? =some (.lst xs)):∀(done ds:List D) (fr:Fr) (hb:HB),xs=done++ds->I done ds fr hb->(∀done d ds fr hb,xs=done++d::ds->I done (d::ds) fr hb->∃fr1,stT t (if en then .tup [.int (done.length:Nat),d] else d) fr=some fr1/\wp (b fr1 hb) (λr h=>match r with
   | .nx fr2=>I (done++[d]) ds fr2 h
   | .ct fr2=>I (done++[d]) ds fr2 h
   | .bk fr2=>QS (.nx fr2) h
   | .rt d=>QS (.rt d) h
   | .ex x=>QS (.ex x) h))->(∀done fr hb,I done [] fr hb->QS (.nx fr) hb)->wp (du t b n en ds.length done.length fr hb) QS
 | done,[],fr,hb,hd,hi,hs,hq=>by
  show wp (du t b n en 0 done.length fr hb) QS
  unfold du
  rw[hx _ _ _ _ hi]
  subst hd
  simp only[List.append_nil,if_true,wp_some]
  exact hq done fr hb hi
 | done,d::ds,fr,hb,hd,hi,hs,hq=>by
  obtain⟨fr1,h1,h2⟩:=hs done d ds fr hb hd hi
  obtain⟨r,h,e,h3⟩:=wp_ex.mp h2
  show wp (du t b n en (ds.length+1) done.length fr hb) QS
  unfold du
  rw[hx _ _ _ _ hi]
  dsimp only
  have hg:xs[done.length]? =some d:=by rw[hd]; simp
  rw[hg]
  dsimp only
  rw[h1]
  dsimp only
  rw[e]
  have hl:done.length+1=(done++[d]).length:=by simp
  have hd':xs=(done++[d])++ds:=by rw[hd]; simp
  match r,h3 with
  | .nx fr2,h3=>dsimp only; rw[hl]; exact jr I hx (done++[d]) ds fr2 h hd' h3 hs hq
  | .ct fr2,h3=>dsimp only; rw[hl]; exact jr I hx (done++[d]) ds fr2 h hd' h3 hs hq
  | .bk fr2,h3=>exact i4 (h3)
  | .rt d,h3=>exact i4 (h3)
  | .ex x,h3=>exact i4 (h3)
@[simp] theorem wpS_for:wp (j2 iv t b fr hb) QS=wp (iv fr hb) (λr h=>match r with
 | .inl (.ls ds true)=>wp (ft t b ds fr h) QS
 | .inl (.bx n en)=>(match h[n]? with
  | some (.lst xs)=>wp (du t b n en xs.length 0 fr h) QS
  | _=>False)
 | .inr x=>QS (.ex x) h
 | _=>False):=by
 unfold j2
 rcases iv fr hb with _|⟨(⟨ds,_|_⟩|⟨n,en⟩)|x,h⟩
 .bv_omega
 .bv_omega
 .bv_omega
 .simp only[wp_some]
  rcases h[n]? with _|(_|_|_)<;>bv_omega
 .bv_omega
theorem pE(I:Fr->HB->Prop)(ms:Fr->HB->Nat)(hs:∀fr hb,I fr hb->wp (c fr hb) (λr h=>match r with
  | .ok (.bl true)=>wp (b fr h) (λr h2=>match r with
   | .nx fr2=>I fr2 h2/\ms fr2 h2<ms fr hb
   | .ct fr2=>I fr2 h2/\ms fr2 h2<ms fr hb
   | .bk fr2=>QS (.nx fr2) h2
   | .rt d=>QS (.rt d) h2
   | .ex x=>QS (.ex x) h2)
  | .ok (.bl false)=>QS (.nx fr) h
  | .exn x=>QS (.ex x) h
  | _=>False)):∀(n:Nat) (fr:Fr) (hb:HB),ms fr hb=n->I fr hb->wp (sWhile c b fr hb) QS:=by
 intro n
 induction n using Nat.strongRecOn with
 | ind n ih =>
  intro fr hb hn hi
  have z:=hs fr hb hi
  obtain⟨r,h,e,h3⟩:=wp_ex.mp z
  rw[sWhile,e]
  match r,h3 with
  | .ok (.bl true),h3 =>
   obtain⟨r2,h',e2,h4⟩:=wp_ex.mp h3
   dsimp only
   rw[e2]
   match r2,h4 with
   | .nx fr2,h4=>exact ih _ (by rw[<-hn]; exact h4.2) fr2 h' rfl h4.1
   | .ct fr2,h4=>exact ih _ (by rw[<-hn]; exact h4.2) fr2 h' rfl h4.1
   | .bk fr2,h4=>exact i4 (h4)
   | .rt d,h4=>exact i4 (h4)
   | .ex x,h4=>exact i4 (h4)
  | .ok (.bl false),h3=>exact i4 (h3)
  | .exn x,h3=>exact i4 (h3)
@[simp] theorem wpA_args {QA:(List D×List D) ⊕ Xn->HB->Prop}:wp (dR evs evs2 fr hb) QA=wp (evs fr hb) (onL (λds h=>wp (evs2 fr h) (onL (λes h=>QA (.inl (ds,es)) h) λx h=>QA (.inr x) h)) λx h=>QA (.inr x) h):=by
 unfold dR
 rcases evs fr hb with _|⟨ds|x,h⟩
 .bv_omega
 .simp only[wp_some,onL]
  rcases evs2 fr h with _|⟨es|x,h⟩<;>bv_omega
 .bv_omega
@[simp] theorem wpC_make {n m:Nat} {gD:List D->List D->List D} {f:pT} {ar:Ea}:wp (fi n m gD f ar fr hb) QO=wp (ar fr hb) (onL (λp h=>if (av p.1 && av p.2 && decide (p.1.length=n) && decide (p.2.length=m))=true then wp (f (gD p.1 p.2) h) QO else False) λx h=>QO (.inr x) h):=by
 unfold fi
 rcases ar fr hb with _|⟨⟨ds,es⟩|x,h⟩
 .bv_omega
 .simp only[wp_some,onL]
  rw[aC]; bv_omega
 .bv_omega
@[simp] theorem wpI {c:String} {n:Nat} {ds:List D}:wp (inE c n sv ds hb) QO=wp (sv (frI c n ds) hb) (λr h=>match r with
 | .nx fr=>(match fr[(0:Nat)]? with
  | some (.ow o)=>QO (.inl o) h
  | _=>False)
 | .ex x=>QO (.inr x) h
 | _=>False):=by
 unfold inE
 rcases sv (frI c n ds) hb with _|⟨r,h⟩
 .bv_omega
 .cases r<;>first|bv_omega|skip
  rename_i f
  simp only[wp_some]
  rcases f[(0:Nat)]? with _|(_|_|_)<;>bv_omega
@[simp] theorem wpC {n:Nat} {cv:Cv} {ds:List D}:wp (fnC n cv ds hb) QO=wp (cv (fr0 n ds) hb) QO:=by bv_omega
@[simp] theorem qX {cv:Cv}:wp (td sv cv fr hb) QO=wp (sv fr hb) (λr h=>match r with
 | .nx fr1=>wp (cv fr1 h) QO
 | .ex x=>QO (.inr x) h
 | _=>False):=by
 unfold td
 rcases sv fr hb with _|⟨r,h⟩
 .bv_omega
 .cases r<;>bv_omega
@[simp] theorem wpC_callC {n:Nat} {f:ff}:wp (qF n f evs fr hb) QO=wp (evs fr hb) (onL (λds h=>if (av ds && decide (ds.length=n))=true then wp (f ds h) QO else False) λx h=>QO (.inr x) h):=by
 unfold qF
 rcases evs fr hb with _|⟨ds|x,h⟩
 .bv_omega
 .simp only[wp_some,onL]
  rw[aC]; bv_omega
 .bv_omega
/-- a method's object -/
def mOk(c m:String)(fr:Fr)(h:HB)(d:D):Bool:=d.isVal && (match i9 fr h d with
 | some (c',fs,_)=>decide (c'=c) && !fs.contains m
 | none=>false)
@[simp] theorem wpE_meth {c m:String} {n:Nat} {f:a6}:wp (gy c m n f ev evs fr hb) Q=wp (ev fr hb) (onOk (λd h=>if mOk c m fr h d=true then wp (evs fr h) (onL (λds h=>if (av ds && decide (ds.length+1=n))=true then wp (f (d::ds) h) Q else False) λx h=>Q (.exn x) h) else False) Q):=by
 unfold gy; rw[wpE_bind]; congr 1; funext r h; cases r with
 | exn x=>bv_omega
 | ok d =>
  dsimp only[onOk]
  by_cases hv:d.isVal=true
  .simp only[mOk,hv,if_true,Bool.true_and]
   rcases i9 fr h d with _|⟨c',fs,vs⟩
   .simp
   .dsimp only
    rw[aC,wpE_eL]
    simp only[aC,ax]
  .simp[mOk,hv]
@[simp] theorem wpE_methR {c m:String} {f:a6}:wp (fO c m f ev evs fr hb) Q=wp (ev fr hb) (onOk (λd h=>if mOk c m fr h d=true then wp (evs fr h) (onL (λds h=>if av ds=true then wp (f (d::ds) h) Q else False) λx h=>Q (.exn x) h) else False) Q):=by
 unfold fO; rw[wpE_bind]; congr 1; funext r h; cases r with
 | exn x=>bv_omega
 | ok d =>
  dsimp only[onOk]
  by_cases hv:d.isVal=true
  .simp only[mOk,hv,if_true,Bool.true_and]
   rcases i9 fr h d with _|⟨c',fs,vs⟩
   .simp
   .dsimp only
    rw[aC,wpE_eL]
    simp only[aC,ax]
  .simp[mOk,hv]
@[simp] theorem wpC_meth {c m:String} {n:Nat} {f:ff}:wp (gN c m n f ev evs fr hb) QO=wp (ev fr hb) (λr h=>match r with
 | .ok d=>if mOk c m fr h d=true then wp (evs fr h) (onL (λds h=>if (av ds && decide (ds.length+1=n))=true then wp (f (d::ds) h) QO else False) λx h=>QO (.inr x) h) else False
 | .exn x=>QO (.inr x) h):=by
 unfold gN
 rcases ev fr hb with _|⟨d|x,h⟩
 .bv_omega
 .simp only[wp_some]
  by_cases hv:d.isVal=true
  .simp only[mOk,hv,if_true,Bool.true_and]
   rcases i9 fr h d with _|⟨c',fs,vs⟩
   .simp
   .dsimp only
    rw[aC,ax]
    congr 1
    rcases evs fr h with _|⟨ds|x,h⟩
    .bv_omega
    .simp only[wp_some,onL]
     rw[aC]; bv_omega
    .bv_omega
  .simp[mOk,hv]
 .bv_omega
@[simp] theorem wpS_bx {i:Nat}:wp (sBx i sv fr hb) QS=wp (sv fr hb) (λr h=>match r with
 | .nx fr1=>(match fr1[i]? with
  | some (.ow o)=>QS (.nx (fr1.set i (.sh (.box h.length)))) (h++[o])
  | _=>False)
 | r=>QS r h):=by
 unfold sBx
 rcases sv fr hb with _|⟨r,h⟩
 .bv_omega
 .cases r<;>first|bv_omega|skip
  rename_i f
  simp only[wp_some]
  rcases f[i]? with _|(_|_|_)<;>bv_omega
end
end
end DI
namespace DI
open PySem L2
section
section
variable {fr:Fr} {hb:HB} {Q:R->HB->Prop} {i j:Int} {s t:List Char} {xs ys ks vs:List D} {d x y:D} {n:Nat} {b c:Bool}
theorem qH{α:Type}(xs:List α)(i:Int):atI xs i=if 0<=i then xs[i.toNat]? else if -(xs.length:Int)<=i then xs[(i+xs.length).toNat]? else none:=by
 unfold atI ixN
 by_cases h0:0<=i
 .rw[if_pos h0,if_pos h0]
  by_cases h1:i<xs.length
  .rw[if_pos h1]; bv_omega
  .rw[if_neg h1]
   have:xs[i.toNat]? =none:=List.getElem?_eq_none (by omega)
   rw[this]; bv_omega
 .rw[if_neg h0,if_neg h0]
  by_cases h1: -(xs.length:Int)<=i
  .rw[if_pos h1,if_pos h1]; bv_omega
  .rw[if_neg h1,if_neg h1]; bv_omega
theorem jQ{α:Type}(xs:List α)(k:Nat):atI xs (k:Int)=xs[k]? :=by
 rw[qH,if_pos (by omega),Int.toNat_natCast]
/-- an item,or nothing -/
def wpO(o:Option D)(Q:R->HB->Prop)(hb:HB):Prop:=match o with
 | some d=>Q (.ok d) hb
 | none=>False
@[simp] theorem wpO_s:wpO (some d) Q hb=Q (.ok d) hb:=by bv_omega
@[simp] theorem wpO_n:wpO none Q hb=False:=by bv_omega
@[simp] theorem kT:wp (bp (.lst xs) (.int i) fr hb) Q=wpO (atI xs i) Q hb:=by
 show wp (match atI xs i with|some d=>some (R.ok d,hb)|none=>none) Q=_
 cases atI xs i<;>bv_omega
@[simp] theorem wO:wp (bp (.fz xs) (.int i) fr hb) Q=wpO (atI xs i) Q hb:=by
 show wp (match atI xs i with|some d=>some (R.ok d,hb)|none=>none) Q=_
 cases atI xs i<;>bv_omega
@[simp] theorem nc:wp (bp (.tup xs) (.int i) fr hb) Q=wpO (atI xs i) Q hb:=by
 show wp (match atI xs i with|some d=>some (R.ok d,hb)|none=>none) Q=_
 cases atI xs i<;>bv_omega
@[simp] theorem w8:wp (bp (.str s) (.int i) fr hb) Q=if s.length<=szL then wpO ((atI s i).map λch=>.str [ch]) Q hb else False:=by
 show wp (if s.length<=szL then (match atI s i with|some ch=>some (R.ok (.str [ch]),hb)|none=>none) else none) Q=_
 rw[aC]
 cases atI s i<;>bv_omega
theorem oC(e:hb[n]? =some (.lst xs)):wp (bp (.box n) (.int i) fr hb) Q=wpO (atI xs i) Q hb:=by
 have h1:oh fr hb (.box n)=none:=by simp only[oh,e]
 have h2:dS fr hb (.box n)=some xs:=by simp only[dS,d8,e]
 have h3:bp (.box n) (.int i) fr hb=gIx (.box n) (.int i) fr hb:=by unfold bp; rw[h1]
 have h4:gIx (.box n) (.int i) fr hb=match atI xs i with
  | some d=>some (R.ok d,hb)
  | none=>none:=by
  show(match dS fr hb (.box n) with|some xs=>(match atI xs i with|some d=>some (R.ok d,hb)|none=>none)|none=>none)=_
  rw[h2]
 rw[h3,h4]
 cases atI xs i<;>bv_omega
@[simp] theorem v_addI:wp (cJ (.int i) (.int j) fr hb) Q=Q (.ok (.int (i+j))) hb:=by bv_omega
@[simp] theorem tA:wp (cJ (.str s) (.str t) fr hb) Q=if s.length+t.length<=szL then Q (.ok (.str (s++t))) hb else False:=cQ
@[simp] theorem wK:wp (cJ (.tup xs) (.tup ys) fr hb) Q=if xs.length+ys.length<=szL then Q (.ok (.tup (xs++ys))) hb else False:=cQ
@[simp] theorem tZ:wp (cJ (.lst xs) (.lst ys) fr hb) Q=if xs.length+ys.length<=szL then Q (.ok (.lst (xs++ys))) hb else False:=cQ
@[simp] theorem v_sub:wp (n9 (.int i) (.int j) fr hb) Q=Q (.ok (.int (i - j))) hb:=by bv_omega
@[simp] theorem l7:wp (gF (.int i) (.int j) fr hb) Q=if 0<j then Q (.ok (.int (i % j))) hb else False:=cQ
@[simp] theorem qG:wp (jL (.int i) (.int j) fr hb) Q=if 0<j/\j<1073741824 then Q (.ok (.int (i / j))) hb else False:=cQ
@[simp] theorem v8:wp (ve (.int i) (.int j) fr hb) Q=if 0<=j/\j<=1000000/\i.natAbs<2 ^ 64 then Q (.ok (.int (i ^ j.toNat))) hb else False:=cQ
@[simp] theorem kr:wp (d5 (.int i) (.int j) fr hb) Q=if (-(2 ^ 64)<i/\i<2 ^ 64)\/(-(2 ^ 64)<j/\j<2 ^ 64) then Q (.ok (.int (i * j))) hb else False:=cQ
@[simp] theorem wo:wp (d5 (.str s) (.int j) fr hb) Q=if 0<=j/\j<=szL/\s.length * j.toNat<=szL then Q (.ok (.str (List.replicate j.toNat s).flatten)) hb else False:=cQ
@[simp] theorem v_ordI {o:Ord4}:wp (d3 o (.int i) (.int j) fr hb) Q=Q (.ok (.bl (o.i i j))) hb:=by bv_omega
@[simp] theorem v_ordS {o:Ord4}:wp (d3 o (.str s) (.str t) fr hb) Q=Q (.ok (.bl (o.s s t))) hb:=by bv_omega
@[simp] theorem wX:wp (wW (.int i) fr hb) Q=Q (.ok (.int (-i))) hb:=by bv_omega
@[simp] theorem wy:wp (fm [.str s] fr hb) Q=if s.length<=szL then Q (.ok (.int s.length)) hb else False:=cQ
@[simp] theorem v_lenL:wp (fm [.lst xs] fr hb) Q=Q (.ok (.int xs.length)) hb:=by bv_omega
@[simp] theorem wL:wp (fm [.fz xs] fr hb) Q=Q (.ok (.int xs.length)) hb:=by bv_omega
@[simp] theorem v_lenT:wp (fm [.tup xs] fr hb) Q=Q (.ok (.int xs.length)) hb:=by bv_omega
theorem ux(e:hb[n]? =some (.lst xs)):wp (fm [.box n] fr hb) Q=Q (.ok (.int xs.length)) hb:=by
 have h:dS fr hb (.box n)=some xs:=by simp only[dS,d8,e]
 have h2:fm [.box n] fr hb=some (R.ok (.int xs.length),hb):=by
  show(match dS fr hb (.box n) with|some xs=>some (R.ok (.int xs.length),hb)|none=>none)=_
  rw[h]
 rw[h2]; bv_omega
@[simp] theorem v_intI:wp (i7 [.int i] fr hb) Q=Q (.ok (.int i)) hb:=by bv_omega
@[simp] theorem v_min2I:wp (lU [.int i,.int j] fr hb) Q=Q (.ok (.int (if j<i then j else i))) hb:=by bv_omega
@[simp] theorem v_max2I:wp (mF [.int i,.int j] fr hb) Q=Q (.ok (.int (if j > i then j else i))) hb:=by bv_omega
@[simp] theorem v_min2S:wp (lU [.str s,.str t] fr hb) Q=Q (.ok (.str (if ltC t s then t else s))) hb:=by bv_omega
@[simp] theorem v_max2S:wp (mF [.str s,.str t] fr hb) Q=Q (.ok (.str (if ltC s t then t else s))) hb:=by bv_omega
@[simp] theorem wt {lo hi:Option Int}:wp (sT lo hi (.str s) fr hb) Q=if s.length<=szL then Q (.ok (.str (dU s lo hi))) hb else False:=cQ
@[simp] theorem v_cutT {lo hi:Option Int}:wp (sT lo hi (.tup xs) fr hb) Q=Q (.ok (.tup (dU xs lo hi))) hb:=by bv_omega
@[simp] theorem tv {lo hi:Option Int}:wp (sT lo hi (.fz xs) fr hb) Q=Q (.ok (.lst (dU xs lo hi))) hb:=by bv_omega
@[simp] theorem v_cutL {lo hi:Option Int}:wp (sT lo hi (.lst xs) fr hb) Q=Q (.ok (.lst (dU xs lo hi))) hb:=by bv_omega
@[simp] theorem wz:wp (sY (.str s) fr hb) Q=if s.length<=szL then Q (.ok (.str s.reverse)) hb else False:=cQ
@[simp] theorem u4:wp (sY (.tup xs) fr hb) Q=Q (.ok (.tup xs.reverse)) hb:=by bv_omega
@[simp] theorem ww:wp (sY (.lst xs) fr hb) Q=Q (.ok (.lst xs.reverse)) hb:=by bv_omega
@[simp] theorem wu:wp (tc (.str s) fr hb) Q=if s.length<=szL then Q (.ok (.str s)) hb else False:=cQ
@[simp] theorem tR:wp (tc (.int i) fr hb) Q=if i.natAbs.log2<1920 then Q (.ok (.str (pF i))) hb else False:=cQ
@[simp] theorem tP:wp (t5 [.int i] fr hb) Q=if i.natAbs.log2<1920 then Q (.ok (.str (pF i))) hb else False:=cQ
@[simp] theorem tr:wp (gR [.lst xs] fr hb) Q=Q (.ok (.tup xs)) hb:=by bv_omega
@[simp] theorem wC:wp (gR [.tup xs] fr hb) Q=Q (.ok (.tup xs)) hb:=by bv_omega
@[simp] theorem v_cint {cl:String} {k:Int}:wp (mu cl k (.rf cl) fr hb) Q=Q (.ok (.int k)) hb:=by
 show wp (if cl=cl then some (R.ok (.int k),hb) else none) Q=_
 rw[if_pos rfl]; bv_omega
@[simp] theorem sj {cl f:String} {cs fs:List String}:wp (eW cs f (.ins cl fs vs) fr hb) Q=if cs.contains cl=true then wpO (pX fs vs f) Q hb else False:=by
 show wp (if cs.contains cl then (match pX fs vs f with|some x=>some (R.ok x,hb)|none=>none) else none) Q=_
 rw[aC]
 cases pX fs vs f<;>bv_omega
@[simp] theorem v_inCh {ch:Char} {neg:Bool}:wp (kR neg (.str [ch]) (.str t) fr hb) Q=Q (.ok (.bl (neg != decide (ch∈t)))) hb:=by bv_omega
theorem j0{neg:Bool}(hs:dS fr hb y=some ys)(hd:oh fr hb y=none):kR neg x y fr hb=if dat 64 x && ys.all (dat 63) then some (.ok (.bl (neg != jM ys x)),hb) else none:=by
 unfold kR
 rw[hd]
 show gIn neg x y fr hb=_
 unfold gIn
 split
 .simp[dS,d8] at hs
 .rw[hs]
theorem vD{neg:Bool}(hx:dat 64 x=true)(hy:xs.all (dat 63)=true):wp (kR neg x (.lst xs) fr hb) Q=Q (.ok (.bl (neg != jM xs x))) hb:=by
 rw[j0 (ys:=xs) rfl rfl,hx,hy]; bv_omega
theorem vM{neg:Bool}(hx:dat 64 x=true)(hy:xs.all (dat 63)=true):wp (kR neg x (.tup xs) fr hb) Q=Q (.ok (.bl (neg != jM xs x))) hb:=by
 rw[j0 (ys:=xs) rfl rfl,hx,hy]; bv_omega
theorem strC_iff{s t:List Char}:au s=au t<->s=t:=by
 constructor
 .intro h
  unfold au at h
  injection h with h
  have h2:s.map Char.toNat=t.map Char.toNat:=by simpa using congrArg Array.toList h
  exact List.map_inj_right (λa b e=>by
   apply Char.ext
   apply UInt32.toNat_inj.mp
   exact e) |>.mp h2
 .rintro rfl; bv_omega
@[simp] theorem w3:deq (.str s) (.str t)=decide (s=t):=by
 show(au s == au t)=_
 by_cases h:s=t
 .subst h; simp
 .have:au s≠au t:=λe=>h (strC_iff.mp e)
  rw[decide_eq_false h]
  exact beq_eq_false_iff_ne.mpr this
@[simp] theorem tw:deq (.int i) (.int j)=decide (i=j):=by bv_omega
@[simp] theorem wT:deq (.bl b) (.bl c)=decide (b=c):=by cases b<;>cases c<;>bv_omega
@[simp] theorem wQ:deq .non .non=true:=by
 show PyData.eqv .none .none=true
 unfold PyData.eqv; bv_omega
@[simp] theorem w7:deq .non (.str s)=false:=by show PyData.eqv .none (.str _)=false; unfold PyData.eqv; bv_omega
@[simp] theorem wV:deq (.str s) .non=false:=by show PyData.eqv (.str _) .none=false; unfold PyData.eqv; bv_omega
/-- item by item -/
def i8:List D->List D->Bool
 | [],[]=>true
 | x::xs,y::ys=>deq x y && i8 xs ys
 | _,_=>false
theorem dk:∀xs ys:List D,PyData.eqvAll (D.pys xs) (D.pys ys)=i8 xs ys
 | [],[]=>by unfold D.pys PyData.eqvAll i8; bv_omega
 | [],_::_=>by unfold D.pys PyData.eqvAll i8; bv_omega
 | _::_,[]=>by unfold D.pys PyData.eqvAll i8; bv_omega
 | x::xs,y::ys=>by
  unfold D.pys PyData.eqvAll i8
  rw[dk xs ys]; bv_omega
@[simp] theorem uN:deq (.lst xs) (.lst ys)=i8 xs ys:=by
 show PyData.eqv (.list (D.pys xs)) (.list (D.pys ys))=_
 rw[show PyData.eqv (.list (D.pys xs)) (.list (D.pys ys))=PyData.eqvAll (D.pys xs) (D.pys ys) by unfold PyData.eqv; bv_omega]
 exact dk xs ys
@[simp] theorem wG:deq (.tup xs) (.tup ys)=i8 xs ys:=by
 show PyData.eqv (.tuple (D.pys xs)) (.tuple (D.pys ys))=_
 rw[show PyData.eqv (.tuple (D.pys xs)) (.tuple (D.pys ys))=PyData.eqvAll (D.pys xs) (D.pys ys) by unfold PyData.eqv; bv_omega]
 exact dk xs ys
@[simp] theorem j9:i8 [] []=true:=by bv_omega
@[simp] theorem iR:i8 (x::xs) (y::ys)=(deq x y && i8 xs ys):=by bv_omega
@[simp] theorem vQ:i8 [] (y::ys)=false:=by bv_omega
@[simp] theorem vA:i8 (x::xs) []=false:=by bv_omega
theorem cW{α:Type}[DecidableEq α]{f:α->D}(h:∀a b,deq (f a) (f b)=decide (a=b)):∀as bs:List α,i8 (as.map f) (bs.map f)=decide (as=bs)
 | [],[]=>rfl
 | [],_::_=>rfl
 | _::_,[]=>rfl
 | a::as,b::bs=>by
  show(deq (f a) (f b) && i8 (as.map f) (bs.map f))=_
  rw[h,cW h as bs]
  simp
theorem iJ{α:Type}[DecidableEq α]{f:α->D}(h:∀a b,deq (f a) (f b)=decide (a=b))(as:List α)(b:α):jM (as.map f) (f b)=decide (b∈as):=by
 unfold jM
 induction as with
 | nil=>bv_omega
 | cons a as ih =>
  rw[List.map_cons,List.any_cons,ih,h]
  simp[eq_comm]
@[simp] theorem xj {k:Nat}:dat k (.str s)=true:=by cases k<;>bv_omega
@[simp] theorem vc {k:Nat}:dat k (.int i)=true:=by cases k<;>bv_omega
@[simp] theorem xm {k:Nat}:dat k (.bl b)=true:=by cases k<;>bv_omega
@[simp] theorem xk {k:Nat}:dat k .non=true:=by cases k<;>bv_omega
@[simp] theorem wB {k:Nat}:dat (k+1) (.tup xs)=xs.all (dat k):=by bv_omega
@[simp] theorem vh {k:Nat}:dat (k+1) (.lst xs)=xs.all (dat k):=by bv_omega
@[simp] theorem xi {k:Nat}:dat (k+1) (.fz xs)=xs.all (dat k):=by bv_omega
theorem de{α:Type}{f:α->D}{k:Nat}(h:∀a,dat k (f a)=true)(as:List α):(as.map f).all (dat k)=true:=by
 rw[List.all_map]
 exact List.all_eq_true.mpr λa _=>h a
theorem sx(h1:dat 64 (rz fr hb x)=true)(h2:dat 64 (rz fr hb y)=true):wp (gEq x y fr hb) Q=Q (.ok (.bl (deq (rz fr hb x) (rz fr hb y)))) hb:=by
 unfold gEq; rw[h1,h2]; bv_omega
theorem uB(h1:dat 64 (rz fr hb x)=true)(h2:dat 64 (rz fr hb y)=true):wp (gNe x y fr hb) Q=Q (.ok (.bl (!deq (rz fr hb x) (rz fr hb y)))) hb:=by
 unfold gNe; rw[h1,h2]; bv_omega
@[simp] theorem rzS:rz fr hb (.str s)=.str s:=by bv_omega
@[simp] theorem rzI:rz fr hb (.int i)=.int i:=by bv_omega
@[simp] theorem rzB:rz fr hb (.bl b)=.bl b:=by bv_omega
@[simp] theorem rzN:rz fr hb .non=.non:=by bv_omega
@[simp] theorem rzT:rz fr hb (.tup xs)=.tup xs:=by bv_omega
@[simp] theorem rzL:rz fr hb (.lst xs)=.lst xs:=by bv_omega
@[simp] theorem rzF:rz fr hb (.fz xs)=.fz xs:=by bv_omega
theorem rzX(e:hb[n]? =some (.lst xs)):rz fr hb (.box n)=.lst xs:=by
 simp only[rz,d8,e]
@[simp] theorem v_eqI:wp (gEq (.int i) (.int j) fr hb) Q=Q (.ok (.bl (decide (i=j)))) hb:=sx rfl rfl
@[simp] theorem v_neI:wp (gNe (.int i) (.int j) fr hb) Q=Q (.ok (.bl (!decide (i=j)))) hb:=uB rfl rfl
@[simp] theorem v_eqS:wp (gEq (.str s) (.str t) fr hb) Q=Q (.ok (.bl (decide (s=t)))) hb:=by rw[sx rfl rfl]; simp
@[simp] theorem v_neS:wp (gNe (.str s) (.str t) fr hb) Q=Q (.ok (.bl (!decide (s=t)))) hb:=by rw[uB rfl rfl]; simp
@[simp] theorem v_eqB:wp (gEq (.bl b) (.bl c) fr hb) Q=Q (.ok (.bl (decide (b=c)))) hb:=by rw[sx rfl rfl]; simp
@[simp] theorem v_neB:wp (gNe (.bl b) (.bl c) fr hb) Q=Q (.ok (.bl (!decide (b=c)))) hb:=by rw[uB rfl rfl]; simp
@[simp] theorem isV_s:(D.str s).isVal=true:=by bv_omega
@[simp] theorem isV_i:(D.int i).isVal=true:=by bv_omega
@[simp] theorem isV_b:(D.bl b).isVal=true:=by bv_omega
@[simp] theorem isV_n:D.non.isVal=true:=by bv_omega
@[simp] theorem isV_t:(D.tup xs).isVal=true:=by bv_omega
@[simp] theorem isV_l:(D.lst xs).isVal=true:=by bv_omega
@[simp] theorem isV_f:(D.fz xs).isVal=true:=by bv_omega
@[simp] theorem isV_d:(D.dct ks vs).isVal=true:=by bv_omega
@[simp] theorem isV_x:(D.box n).isVal=true:=by bv_omega
@[simp] theorem isV_c {cl:String} {fs:List String}:(D.ins cl fs vs).isVal=true:=by bv_omega
@[simp] theorem isV_r {cl:String}:(D.rf cl).isVal=true:=by bv_omega
@[simp] theorem isV_y {cl:String}:(D.ty cl).isVal=true:=by bv_omega
@[simp] theorem isN_n:D.non.isN=true:=by bv_omega
@[simp] theorem isN_t:(D.tup xs).isN=false:=by bv_omega
@[simp] theorem isN_s:(D.str s).isN=false:=by bv_omega
@[simp] theorem isN_i:(D.int i).isN=false:=by bv_omega
@[simp] theorem allVal_nil:av []=true:=by bv_omega
@[simp] theorem allVal_cons:av (d::xs)=(d.isVal && av xs):=by bv_omega
@[simp] theorem O_dl:(O.lst xs).d=.lst xs:=by bv_omega
@[simp] theorem O_dd:(O.dct ks vs).d=.dct ks vs:=by bv_omega
@[simp] theorem O_di {cl:String} {fs:List String}:(O.ins cl fs vs).d=.ins cl fs vs:=by bv_omega
@[simp] theorem rtD_s:rtD fr (.str s)=some (.str s):=by bv_omega
@[simp] theorem rtD_i:rtD fr (.int i)=some (.int i):=by bv_omega
@[simp] theorem rtD_b:rtD fr (.bl b)=some (.bl b):=by bv_omega
@[simp] theorem rtD_n:rtD fr .non=some .non:=by bv_omega
@[simp] theorem rtD_t:rtD fr (.tup xs)=some (.tup xs):=by bv_omega
@[simp] theorem rtD_l:rtD fr (.lst xs)=some (.lst xs):=by bv_omega
@[simp] theorem rtD_x:rtD fr (.box n)=some (.box n):=by bv_omega
theorem bv:1000000<=szL:=by unfold szL; decide
end
section
variable {sv sv2:Sv} {fr:Fr} {hb:HB} {QS:SR->HB->Prop}
theorem aw(P:Fr->HB->Prop)(h1:wp (sv fr hb) (λr h=>match r with
  | .nx f=>P f h
  | .rt d=>QS (.rt d) h
  | .bk f=>QS (.bk f) h
  | .ct f=>QS (.ct f) h
  | .ex x=>QS (.ex x) h))(h2:∀f h,P f h->wp (sv2 f h) QS):wp (a8 sv sv2 fr hb) QS:=by
 rw[wpS_seq]
 refine eR h1 λr h q=> ?_
 cases r<;>first|exact h2 _ _ q|exact q
end
end
end DI
namespace Lw
open PySem DI
section
def dA:Sv:=(a8 (sFz 1 (rH 1 (cLc (gG (tm (eV 0) lJ (jz (eC (.int 63))))) (.nm 3) [3] (eC (.bl true)) (eL i7 (ae (eV 3) al))))) (a8 (fj 2 (am cJ (eC (.int 5647)) (am d5 (eC (.int 97)) (eL fm (ae (eV 1) al))))) (a8 (j2 (gG (eV 1)) (.nm 3) (fj 2 (am gF (eL i7 (ae (am cJ (am d5 (eV 2) (eC (.int 6367))) (eV 3)) al)) (eC (.int 2147483549))))) (bX (eBx (pA (ae (eV 1) (ae (eC (.int 0)) (ae (eC (.int 0)) (ae (eV 2) al))))))))))
def bo:a6:=fnE 4 dA
def dL:Sv:=(a8 (sIf (am (d3 .lt) (am bp (eV 0) (eC (.int 2))) (eC (.int 2))) (a8 (qZ (am cJ (am bp (eV 0) (eC (.int 1))) (eC (.int 1))) (eV 0) (eC (.int 1))) (a8 (fj 3 (am cJ (am bp (eV 0) (eC (.int 3))) (am d5 (am bp (eV 0) (eC (.int 1))) (eC (.int 8009))))) (a8 (sIf (am (d3 .le) (am bp (eV 0) (eC (.int 1))) (eL fm (ae (am bp (eV 0) (eC (.int 0))) al))) (fj 3 (am bp (am bp (eV 0) (eC (.int 0))) (am n9 (am bp (eV 0) (eC (.int 1))) (eC (.int 1))))) gH) (a8 (sIf (eOr (am (d3 .gt) (am bp (eV 0) (eC (.int 1))) (eL fm (ae (am bp (eV 0) (eC (.int 0))) al))) (am (d3 .lt) (eV 3) (am ve (eC (.int 10)) (eC (.int 18))))) (a8 (fj 4 (am gF (eL i7 (ae (am cJ (am cJ (am d5 (eV 3) (eC (.int 45742))) (am d5 (am bp (eV 0) (eC (.int 1))) (eC (.int 30269)))) (am bp (eV 0) (eC (.int 3)))) al)) (eC (.int 2147483587)))) (a8 (fj 5 (am gF (eL i7 (ae (am cJ (am d5 (eV 4) (eV 4)) (am d5 (am bp (eV 0) (eC (.int 1))) (eC (.int 17257)))) al)) (eC (.int 1000000009)))) (bX (am gF (am jL (am gF (eL i7 (ae (am cJ (am d5 (eV 5) (eC (.int 41358))) (eV 4)) al)) (eC (.int 2147483323))) (eC (.int 19))) (eV 1))))) gH) (qZ (eV 3) (eV 0) (eC (.int 2))))))) gH) (a8 (fj 2 (am gF (eL i7 (ae (am bp (eV 0) (eC (.int 2))) al)) (eV 1))) (a8 (qZ (am jL (eL i7 (ae (am bp (eV 0) (eC (.int 2))) al)) (eV 1)) (eV 0) (eC (.int 2))) (bX (eV 2)))))
def aE:a6:=fnE 6 dL
def dH:Sv:=(bX (am bp (eV 1) (aM 2 aE (ae (eV 0) (ae (eL fm (ae (eV 1) al)) al)))))
def bP:a6:=fnE 2 dH
def c5:Sv:=(a8 (eU [2,3] [.v (eBx (cE bA (ae (eV 1) al))),.o (pA al)]) (a8 (sWhile (am gNe (eV 2) (lc al)) (sBM "list" a9 none (eV 3) (ae (eBM "list" fW (eV 2) (ae (aM 2 aE (ae (eV 0) (ae (eL fm (ae (eV 2) al)) al))) al)) al))) (bX (eV 3))))
def bE:a6:=fnE 4 c5
def aH(ev__law_like:a6):Sv:=(a8 (sIf (eL (dY []) (ae (eV 1) (ae (i6 (ae (eC (.ty "list")) (ae (eC (.ty "tuple")) al))) al))) (a8 (sIf (eOr (am gNe (eL (dY []) (ae (eV 0) (ae (eC (.ty "list")) al))) (eL (dY []) (ae (eV 1) (ae (eC (.ty "list")) al)))) (am gNe (eL (dY []) (ae (eV 0) (ae (eC (.ty "tuple")) al))) (eL (dY []) (ae (eV 1) (ae (eC (.ty "tuple")) al))))) (bX (eC (.bl false))) gH) (bX (f7 (am gEq (eL fm (ae (eV 0) al)) (eL fm (ae (eV 1) al))) (eL (sZ false) (ae (eFz (cLc (cN (ae (eL fm (ae (eV 1) al)) al)) (.nm 2) [2] (eC (.bl true)) (aM 2 ev__law_like (ae (am bp (eV 0) (eV 2)) (ae (am bp (eV 1) (eV 2)) al))))) al))))) gH) (a8 (sIf (eOr (eL (dY []) (ae (eV 0) (ae (i6 (ae (eC (.ty "list")) (ae (eC (.ty "tuple")) al))) al))) (am gNe (eL (dY []) (ae (eV 0) (ae (eC (.ty "bool")) al))) (eL (dY []) (ae (eV 1) (ae (eC (.ty "bool")) al))))) (bX (eC (.bl false))) gH) (bX (am gEq (eV 0) (eV 1)))))
def aD:a6:=vg (λev=>fnE 3 (aH ev)) 8
end
section
/-- the law's box -/
def Box(h:HB)(n:Nat):Prop:=∃(cs:List Int) (a b c:Int),h[n]? =some (.lst [.lst (cs.map .int),.int a,.int b,.int c])/\0<=a
/-- all but the box stands as before -/
structure Ext (n:Nat) (h h':HB):Prop where
 len:h.length<=h'.length
 at_:∀(j:Nat) o,j≠n->h[j]? =some o->h'[j]? =some o
theorem Ext.refl{n:Nat}{h:HB}:Ext n h h:=⟨Nat.le_refl _,λ_ _ _ e=>e⟩
theorem Ext.trans{n:Nat}{h h1 h2:HB}(a:Ext n h h1)(b:Ext n h1 h2):Ext n h h2:=⟨Nat.le_trans a.len b.len,λj o hj e=>b.at_ j o hj (a.at_ j o hj e)⟩
theorem Ext.set{n:Nat}{h:HB}{o:O}:Ext n h (h.set n o):=⟨by simp,λj o' hj e=>by rw[List.getElem?_set_ne (Ne.symm hj)]; exact e⟩
theorem Ext.snoc{n:Nat}{h:HB}{o:O}:Ext n h (h++[o]):=⟨by simp,λj o' _ e=>by
 have:=(List.getElem?_eq_some_iff.mp e).1
 rw[List.getElem?_append_left this]; exact e⟩
theorem Box.snoc{n:Nat}{h:HB}{o:O}(b:Box h n):Box (h++[o]) n:=by
 obtain⟨cs,a,b,c,e,ha⟩:=b
 refine⟨cs,a,b,c,?_,ha⟩
 rw[List.getElem?_append_left (List.getElem?_eq_some_iff.mp e).1]; exact e
theorem Box.lt{n:Nat}{h:HB}(b:Box h n):n<h.length:=by
 obtain⟨cs,a,b,c,e,ha⟩:=b
 exact(List.getElem?_eq_some_iff.mp e).1
def BoxV(h:HB)(n:Nat)(cs:List Int)(a b c:Int):Prop:=h[n]? =some (.lst [.lst (cs.map .int),.int a,.int b,.int c])
theorem BoxV.get{h:HB}{n:Nat}{cs:List Int}{a b c:Int}(e:BoxV h n cs a b c):h[n]? =some (.lst [.lst (cs.map .int),.int a,.int b,.int c]):=e
section
variable {h:HB} {n:Nat} {cs:List Int} {a b c:Int} {fr:Fr} {Q:R->HB->Prop}
theorem bx0(e:BoxV h n cs a b c):wp (bp (.box n) (.int 0) fr h) Q=Q (.ok (.lst (cs.map .int))) h:=by rw[oC e]; rfl
theorem bx1(e:BoxV h n cs a b c):wp (bp (.box n) (.int 1) fr h) Q=Q (.ok (.int a)) h:=by rw[oC e]; rfl
theorem bx2(e:BoxV h n cs a b c):wp (bp (.box n) (.int 2) fr h) Q=Q (.ok (.int b)) h:=by rw[oC e]; rfl
theorem bx3(e:BoxV h n cs a b c):wp (bp (.box n) (.int 3) fr h) Q=Q (.ok (.int c)) h:=by rw[oC e]; rfl
theorem rdB(e:BoxV h n cs a b c):rdO fr h (.box n)=some (.lst [.lst (cs.map .int),.int a,.int b,.int c]):=e
theorem BoxV.set1(e:BoxV h n cs a b c){a':Int}:BoxV (h.set n (.lst [.lst (cs.map .int),.int a',.int b,.int c])) n cs a' b c:=by
 unfold BoxV
 rw[List.getElem?_set]; simp[(List.getElem?_eq_some_iff.mp e).1]
theorem BoxV.set2(e:BoxV h n cs a b c){b':Int}:BoxV (h.set n (.lst [.lst (cs.map .int),.int a,.int b',.int c])) n cs a b' c:=by
 unfold BoxV
 rw[List.getElem?_set]; simp[(List.getElem?_eq_some_iff.mp e).1]
theorem wR{d:Int}:sm (.int 1) (.int d) (.lst [.lst (cs.map .int),.int a,.int b,.int c])=some (.lst [.lst (cs.map .int),.int d,.int b,.int c]):=rfl
theorem wx{d:Int}:sm (.int 2) (.int d) (.lst [.lst (cs.map .int),.int a,.int b,.int c])=some (.lst [.lst (cs.map .int),.int a,.int d,.int c]):=rfl
end
theorem cD{x m:Int}(h:0<m):0<=x % m/\x % m<m:=⟨Int.emod_nonneg _ (by omega),Int.emod_lt_of_pos _ h⟩
theorem lN{h:HB}{n:Nat}{m z a b c:Int}{cs:List Int}{QS:SR->HB->Prop}(e:BoxV h n cs a b c)(hm:0<m)(hq:∀r:Int,0<=r->r<m->QS (.rt (.int r)) h) :
  wp (a8 (fj 4 (am gF (eL i7 (ae (am cJ (am cJ (am d5 (eV 3) (eC (.int 45742))) (am d5 (am bp (eV 0) (eC (.int 1))) (eC (.int 30269)))) (am bp (eV 0) (eC (.int 3)))) al)) (eC (.int 2147483587)))) (a8 (fj 5 (am gF (eL i7 (ae (am cJ (am d5 (eV 4) (eV 4)) (am d5 (am bp (eV 0) (eC (.int 1))) (eC (.int 17257)))) al)) (eC (.int 1000000009)))) (bX (am gF (am jL (am gF (eL i7 (ae (am cJ (am d5 (eV 5) (eC (.int 41358))) (eV 4)) al)) (eC (.int 2147483323))) (eC (.int 19))) (eV 1)))) [.sh (.box n),.sh (.int m),.un,.sh (.int z),.un,.un] h) QS:=by
 have mulC:∀(x k:Int) {fr:Fr} {hb:HB} {Q:R->HB->Prop},-(2 ^ 64)<k->k<2 ^ 64->wp (d5 (.int x) (.int k) fr hb) Q=Q (.ok (.int (x * k))) hb:=λx k {fr hb Q} h1 h2=>by rw[kr,if_pos (.inr ⟨h1,h2⟩)]
 refine aw (λf h'=>∃y:Int,0<=y/\y<2147483587/\f=[.sh (.box n),.sh (.int m),.un,.sh (.int z),.sh (.int y),.un]/\h'=h) ?_ ?_
 .simp only[wpS_set,wpE_op2,wpE_eL,wpEs_cons,wpEs_nil,wpE_v,wpE_c,List.getElem?_cons_succ,List.getElem?_cons_zero,onOk,onL,mulC _ 45742 (by decide) (by decide),mulC _ 30269 (by decide) (by decide),bx1 e,bx3 e,v_addI,v_intI,l7]
  rw[if_pos (by decide)]
  simp only[isV_i,if_true]
  exact⟨_,(cD (by decide)).1,(cD (by decide)).2,rfl,trivial⟩
 rintro f h' ⟨y,hy0,hy1,rfl,rfl⟩
 refine aw (λf h''=>∃x:Int,0<=x/\x<1000000009/\f=[.sh (.box n),.sh (.int m),.un,.sh (.int z),.sh (.int y),.sh (.int x)]/\h''=h') ?_ ?_
 .simp only[wpS_set,wpE_op2,wpE_eL,wpEs_cons,wpEs_nil,wpE_v,wpE_c,List.getElem?_cons_succ,List.getElem?_cons_zero,onOk,onL,mulC y y (by omega) (by omega),mulC _ 17257 (by decide) (by decide),bx1 e,bx3 e,v_addI,v_intI,l7]
  rw[if_pos (by decide)]
  simp only[isV_i,if_true]
  exact⟨_,(cD (by decide)).1,(cD (by decide)).2,rfl,trivial⟩
 rintro f h'' ⟨x,hx0,hx1,rfl,rfl⟩
 simp only[wpS_ret,wpE_op2,wpE_eL,wpEs_cons,wpEs_nil,wpE_v,wpE_c,List.getElem?_cons_succ,List.getElem?_cons_zero,onOk,onL,mulC _ 41358 (by decide) (by decide),v_addI,v_intI,l7,qG]
 rw[if_pos (by decide),if_pos (by decide),if_pos hm]
 exact hq _ (cD hm).1 (cD hm).2
theorem eK{hb:HB}{n:Nat}{m:Int}{Q:R->HB->Prop}(hB:Box hb n)(hm:0<m)(hm2:m<1073741824)(hq:∀(r:Int) hb',0<=r->r<m->Box hb' n->Ext n hb hb'->Q (.ok (.int r)) hb'):wp (aE [.box n,.int m] hb) Q:=by
 obtain⟨cs,a,b,c,e,ha⟩:=hB
 replace e:BoxV hb n cs a b c:=e
 unfold aE dL
 rw[wpF]
 show wp (a8 _ _ [.sh (.box n),.sh (.int m),.un,.un,.un,.un] hb) _
 refine aw (λf h=>(∃s2 s3 s4 s5,f=[.sh (.box n),.sh (.int m),s2,s3,s4,s5])/\∃a b,BoxV h n cs a b c/\0<=a/\Ext n hb h) ?_ ?_
 .rw[wpS_if]
  simp only[wpE_op2,wpE_v,wpE_c,List.getElem?_cons_zero,onOk,bx2 e,v_ordI,Ord4.i]
  by_cases h2:b<2
  .simp only[h2,decide_true]
   refine aw (λf h=>f=[.sh (.box n),.sh (.int m),.un,.un,.un,.un]/\BoxV h n cs (a+1) b c/\Ext n hb h) ?_ ?_
   .simp only[wpS_put,wpE_op2,wpE_v,wpE_c,List.getElem?_cons_zero,onOk,bx1 e,v_addI,isV_i,if_true,rdB e,wR]
    exact⟨rfl,e.set1,Ext.set⟩
   rintro f h ⟨rfl,e1,x1⟩
   refine aw (λf h=>∃z:Int,f=[.sh (.box n),.sh (.int m),.un,.sh (.int z),.un,.un]/\BoxV h n cs (a+1) b c/\Ext n hb h) ?_ ?_
   .simp only[wpS_set,wpE_op2,wpE_v,wpE_c,List.getElem?_cons_zero,onOk,bx1 e1,bx3 e1,v_addI,kr,isV_i,if_true]
    rw[if_pos (.inr (by decide))]
    exact⟨_,rfl,e1,x1⟩
   rintro f h ⟨z,rfl,e2,x2⟩
   refine aw (λf h=>∃z:Int,f=[.sh (.box n),.sh (.int m),.un,.sh (.int z),.un,.un]/\BoxV h n cs (a+1) b c/\Ext n hb h) ?_ ?_
   .rw[wpS_if]
    simp only[wpE_op2,wpE_v,wpE_c,List.getElem?_cons_zero,onOk,onL,bx1 e2,bx0 e2,wpE_eL,wpEs_cons,wpEs_nil,v_lenL,v_ordI,Ord4.i]
    by_cases h3:a+1<=((cs.map D.int).length:Int)
    .simp only[h3,decide_true,wpS_set,wpE_op2,wpE_v,wpE_c,List.getElem?_cons_zero,onOk,bx1 e2,bx0 e2,v_sub,kT]
     have ei:a+1 - 1=((a.toNat:Nat):Int):=by omega
     have hl:a.toNat<cs.length:=by simp at h3; omega
     rw[ei,L2.atI,<-L2.atI,jQ,List.getElem?_map,List.getElem?_eq_getElem hl]
     simp only[Option.map_some,wpO_s,isV_i,if_true]
     exact⟨_,rfl,e2,x2⟩
    .simp only[h3,decide_false,wpS_nil]
     exact⟨_,rfl,e2,x2⟩
   rintro f h ⟨z,rfl,e3,x3⟩
   refine aw (λf h=>∃z:Int,f=[.sh (.box n),.sh (.int m),.un,.sh (.int z),.un,.un]/\BoxV h n cs (a+1) b c/\Ext n hb h) ?_ ?_
   .rw[wpS_if]
    have last:wp (a8 (fj 4 (am gF (eL i7 (ae (am cJ (am cJ (am d5 (eV 3) (eC (.int 45742))) (am d5 (am bp (eV 0) (eC (.int 1))) (eC (.int 30269)))) (am bp (eV 0) (eC (.int 3)))) al)) (eC (.int 2147483587)))) (a8 (fj 5 (am gF (eL i7 (ae (am cJ (am d5 (eV 4) (eV 4)) (am d5 (am bp (eV 0) (eC (.int 1))) (eC (.int 17257)))) al)) (eC (.int 1000000009)))) (bX (am gF (am jL (am gF (eL i7 (ae (am cJ (am d5 (eV 5) (eC (.int 41358))) (eV 4)) al)) (eC (.int 2147483323))) (eC (.int 19))) (eV 1)))) [.sh (.box n),.sh (.int m),.un,.sh (.int z),.un,.un] h) (λr h=>match r with
     | .rt d=>Q (.ok d) h
     | _=>False):=lN e3 hm λr h0 h1=>hq r h h0 h1 ⟨cs,a+1,b,c,e3,by omega⟩ x3
    have last':=eR last (Q':=λr h=>match r with
     | .nx f=>∃z:Int,f=[.sh (.box n),.sh (.int m),.un,.sh (.int z),.un,.un]/\BoxV h n cs (a+1) b c/\Ext n hb h
     | .rt d=>Q (.ok d) h
     | .bk f=>False
     | .ct f=>False
     | .ex x=>Q (.exn x) h) (λr h q=>by cases r<;>first|exact q|exact q.elim)
    simp only[wpE_op2,wpE_or,wpE_v,wpE_c,List.getElem?_cons_zero,List.getElem?_cons_succ,onOk,onL,bx1 e3,bx0 e3,wpE_eL,wpEs_cons,wpEs_nil,v_lenL,v_ordI,Ord4.i,v8]
    by_cases h4:((cs.map D.int).length:Int)<a+1
    .simp only[h4,decide_true]
     exact last'
    .simp only[h4,decide_false]
     rw[if_pos (by decide)]
     by_cases h5:z<10 ^ (18:Int).toNat
     .simp only[h5,decide_true]
      exact last'
     .simp only[h5,decide_false,wpS_nil]
      exact⟨z,rfl,e3,x3⟩
   rintro f h ⟨z,rfl,e4,x4⟩
   simp only[wpS_put,wpE_op2,wpE_v,wpE_c,List.getElem?_cons_zero,List.getElem?_cons_succ,onOk,isV_i,if_true,rdB e4,wx]
   exact⟨⟨_,_,_,_,rfl⟩,a+1,z,e4.set2,by omega,x4.trans Ext.set⟩
  .simp only[h2,decide_false,wpS_nil]
   exact⟨⟨_,_,_,_,rfl⟩,a,b,e,ha,Ext.refl⟩
 .rintro f h ⟨⟨s2,s3,s4,s5,rfl⟩,a,b,e,ha,x⟩
  simp only[wpS_seq,wpS_set,wpS_put,wpS_ret,wpE_op2,wpE_eL,wpEs_cons,wpEs_nil,wpE_v,wpE_c,List.getElem?_cons_succ,List.getElem?_cons_zero,onOk,onL,bx2 e,v_intI,l7]
  rw[if_pos hm]
  simp only[isV_i,if_true,List.set_cons_succ,List.set_cons_zero,List.getElem?_cons_succ,List.getElem?_cons_zero,bx2 e,v_intI,qG]
  rw[if_pos ⟨hm,hm2⟩]
  simp only[isV_i,if_true,rdB e,wx,wrO,rtD_i]
  exact hq _ _ (cD hm).1 (cD hm).2 ⟨cs,a,_,c,e.set2,ha⟩ (x.trans Ext.set)
end
section
theorem rq{fr:Fr}{d:D}(h:d.isVal=true):rtD fr d=some d:=by
 cases d<;>first|rfl|cases h
theorem cK{α:Type}:∀(l:List α) (i:Nat) (h:i<l.length),(l[i]::l.eraseIdx i).Perm l
 | [],_,h=>by simp at h
 | a::l,0,_=>by simp
 | a::l,i+1,h=>by
  have hi:i<l.length:=by simpa using h
  simp only[List.getElem_cons_succ,List.eraseIdx_cons_succ]
  exact(List.Perm.swap a l[i] _).trans ((cK l i hi).cons a)
section
variable {hb:HB} {n:Nat} {xs:List D} {Q:R->HB->Prop}
theorem sN(hB:Box hb n)(h0:0<xs.length)(h1:xs.length<1073741824)(hv:∀x∈xs,x.isVal=true)(hq:∀d hb',d∈xs->Box hb' n->Ext n hb hb'->Q (.ok d) hb'):wp (bP [.box n,.lst xs] hb) Q:=by
 unfold bP dH
 rw[wpF]
 show wp (bX _ [.sh (.box n),.sh (.lst xs)] hb) _
 simp only[wpS_ret,wpE_op2,wpE_v,List.getElem?_cons_succ,List.getElem?_cons_zero,wpE_callN,wpEs_cons,wpEs_nil,wpE_eL,v_lenL,onOk,onL,allVal_cons,allVal_nil,isV_x,isV_i,List.length_cons,List.length_nil,Bool.and_true,Bool.true_and]
 rw[if_pos (by rfl)]
 refine eK hB (by omega) (by omega) λr hb' r0 r1 hB' hE=> ?_
 dsimp only[onOk]
 rw[kT]
 have er:r=((r.toNat:Nat):Int):=by omega
 have hl:r.toNat<xs.length:=by omega
 rw[er,jQ,List.getElem?_eq_getElem hl]
 have hm:xs[r.toNat]∈xs:=List.getElem_mem hl
 simp only[wpO_s,rq (hv _ hm)]
 exact hq _ hb' hm hB' hE
theorem lu:∀xs:List D,i8 xs []=xs.isEmpty
 | []=>rfl
 | _::_=>rfl
theorem o6(hB:Box hb n)(h1:xs.length<1000000)(hv:∀x∈xs,x.isVal=true)(hd:∀x∈xs,dat 63 x=true)(hq:∀ys hb',ys.Perm xs->Box hb' n->Ext n hb hb'->Q (.ok (.lst ys)) hb'):wp (bE [.box n,.lst xs] hb) Q:=by
 unfold bE c5
 rw[wpF]
 show wp (a8 _ _ [.sh (.box n),.sh (.lst xs),.un,.un] hb) _
 have hsz:=bv
 have hnb:=hB.lt
 refine aw (λf h=>f=[.sh (.box n),.sh (.lst xs),.sh (.box hb.length),.ow (.lst [])]/\h=hb++[.lst xs]) ?_ ?_
 .simp only[wpS_multi,wpM_v,wpM_o,wpM_nil,wpE_bx,wpC_call,wpC_lst,wpEs_cons,wpEs_nil,wpE_v,List.getElem?_cons_succ,List.getElem?_cons_zero,onL,onOk]
  have e:bA [.lst xs] [.sh (.box n),.sh (.lst xs),.un,.un] hb=some xs:=rfl
  rw[e]
  simp only[isV_x,if_true,allVal_nil,List.length_nil]
  rw[if_pos (by simp)]
  exact⟨rfl,trivial⟩
 rintro f h ⟨rfl,rfl⟩
 refine aw (λf h=>∃ys,f=[.sh (.box n),.sh (.lst xs),.sh (.box hb.length),.ow (.lst ys)]/\ys.Perm xs/\Box h n/\Ext n hb h) ?_ ?_
 .refine pE (λf h=>∃acc rest,f=[.sh (.box n),.sh (.lst xs),.sh (.box hb.length),.ow (.lst acc)]/\h[hb.length]? =some (.lst rest)/\(acc++rest).Perm xs/\Box h n/\Ext n hb h)
   (λf h=>match h[hb.length]? with
    | some (.lst r)=>r.length
    | _=>0) ?_ _ _ _ rfl ⟨[],xs,rfl,by simp,by simp,hB.snoc,Ext.snoc⟩
  rintro f h ⟨acc,rest,rfl,er,hp,hB',hE⟩
  have mem:∀x∈rest,x∈xs:=λx hx=>hp.mem_iff.mp (List.mem_append_right _ hx)
  have hlen:=hp.length_eq
  rw[List.length_append] at hlen
  simp only[wpE_op2,wpE_v,List.getElem?_cons_succ,List.getElem?_cons_zero,onOk,wpE_lst,wpEs_nil,onL,allVal_nil,List.length_nil,Nat.zero_le,decide_true,Bool.and_self,if_true]
  rw[uB (by rw[rzX er]; exact List.all_eq_true.mpr λx hx=>hd x (mem x hx)) rfl,rzX er]
  simp only[rzL,uN,lu]
  cases rest with
  | nil =>
   simp only[List.isEmpty_nil,Bool.not_true]
   exact⟨acc,rfl,by simpa using hp,hB',hE⟩
  | cons r0 rs =>
   simp only[List.isEmpty_cons,Bool.not_false]
   have k3:isK "list" (.loc 3) [.sh (.box n),.sh (.lst xs),.sh (.box hb.length),.ow (.lst acc)] h=true:=rfl
   have k2:isK "list" (.box hb.length) [.sh (.box n),.sh (.lst xs),.sh (.box hb.length),.ow (.lst acc)] h=true:=by
    unfold isK rdO
    simp only[er]
    rfl
   simp only[wpS_bm,wpE_v,List.getElem?_cons_succ,List.getElem?_cons_zero,onOk,onL,k3,if_true,wpEs_cons,wpEs_nil,wpE_bm,k2,wpE_callN,wpE_eL,ux er,allVal_cons,allVal_nil,isV_x,isV_i,List.length_cons,List.length_nil,Bool.and_true,Bool.true_and]
   rw[if_pos (by rfl)]
   refine eK hB' (by omega) (by simp only[List.length_cons] at hlen ⊢; omega) λr h2 q0 q1 hB2 hE2=> ?_
   have er2:h2[hb.length]? =some (.lst (r0::rs)):=hE2.at_ _ _ (by omega) er
   have hl2:=(List.getElem?_eq_some_iff.mp er2).1
   have hrl:r.toNat<(r0::rs).length:=by simp only[List.length_cons] at q1 ⊢; omega
   have eo:fW (.lst (r0::rs)) [.int r]=some (.lst ((r0::rs).eraseIdx r.toNat),(r0::rs)[r.toNat]):=by
    show(if -(2 ^ 63)<=r/\r<2 ^ 63 then (match seqIndex? r (r0::rs).length with
     | some k=>(match (r0::rs)[k]? with
      | some d=>some (O.lst ((r0::rs).eraseIdx k),d)
      | none=>none)
     | none=>none) else none)=_
    have hs:seqIndex? r (r0::rs).length=some r.toNat:=by
     unfold seqIndex?
     have:¬r<0:=by omega
     simp only[this,if_false]
     rw[if_pos]
     simp only[List.length_cons] at q1 ⊢
     simp only[Bool.and_eq_true,decide_eq_true_eq]
     omega
    rw[if_pos (by simp only[List.length_cons] at hlen q1; omega),hs]
    dsimp only
    rw[List.getElem?_eq_getElem hrl]
   have hm:(r0::rs)[r.toNat]∈(r0::rs):=List.getElem_mem hrl
   simp only[er2,isV_i,if_true,eo,hv _ (mem _ hm),List.getElem?_cons_succ,List.getElem?_cons_zero,rdO]
   have ea:a9 (.lst acc) [(r0::rs)[r.toNat]]=some (.lst (acc++[(r0::rs)[r.toNat]]),.non):=by
    show(if acc.length<szL then some (O.lst (acc++[_]),D.non) else none)=_
    rw[if_pos (by simp only[List.length_cons] at hlen; omega)]
   simp only[ea,toN,wrO,List.set_cons_succ,List.set_cons_zero]
   have g1:(h2.set hb.length (O.lst ((r0::rs).eraseIdx r.toNat)))[hb.length]? =some (.lst ((r0::rs).eraseIdx r.toNat)):=by
    rw[List.getElem?_set]; simp[hl2]
   refine⟨⟨_,_,rfl,g1,?_,?_,?_⟩,?_⟩
   .refine List.Perm.trans ?_ hp
    rw[List.append_assoc]
    exact List.Perm.append_left _ (cK _ _ hrl)
   .obtain⟨cs,a,b,c,e,ha⟩:=hB2
    exact⟨cs,a,b,c,by rw[List.getElem?_set_ne (by omega)]; exact e,ha⟩
   .refine⟨by rw[List.length_set]; exact Nat.le_trans hE.len hE2.len,λj o hj e=> ?_⟩
    have:=(List.getElem?_eq_some_iff.mp e).1
    rw[List.getElem?_set_ne (by omega)]
    exact hE2.at_ j o hj (hE.at_ j o hj e)
   .rw[g1,er]
    simp only[List.length_eraseIdx,hrl,if_true]
    omega
 rintro f h ⟨ys,rfl,hp,hB',hE⟩
 simp only[wpS_ret,wpE_v,List.getElem?_cons_succ,List.getElem?_cons_zero,rtD,O_dl]
 exact hq ys h hp hB' hE
end
/-- plain data of a depth -/
def pl:Nat->D->Bool
 | _,.non=>true
 | _,.bl _=>true
 | _,.int _=>true
 | _,.str _=>true
 | k+1,.lst xs=>decide (xs.length<=1000000) && xs.all (pl k)
 | k+1,.tup xs=>decide (xs.length<=1000000) && xs.all (pl k)
 | _,_=>false
end
section
theorem dec0:decide (0<=szL)=true:=by decide
theorem dec1:decide (1<=szL)=true:=by decide
theorem dec2:decide (2<=szL)=true:=by decide
theorem dec3:decide (3<=szL)=true:=by decide
theorem dec4:decide (4<=szL)=true:=by decide
def vr:D->Bool
 | .lst _=>true
 | .tup _=>true
 | _=>false
def xc:D->Bool
 | .lst _=>true
 | _=>false
def wN:D->Bool
 | .tup _=>true
 | _=>false
def w9:D->Bool
 | .bl _=>true
 | _=>false
section
variable {fr:Fr} {hb:HB} {Q:R->HB->Prop} {k:Nat} {d:D} {xs:List D}
theorem qE(h:pl k d=true):wp (dY [] [d,.tup [.ty "list",.ty "tuple"]] fr hb) Q=Q (.ok (.bl (vr d))) hb:=by
 cases d<;>first|(bv_omega)|(unfold pl at h; first|(bv_omega)|cases h)
theorem ut(h:pl k d=true):wp (dY [] [d,.ty "list"] fr hb) Q=Q (.ok (.bl (xc d))) hb:=by
 cases d<;>first|(bv_omega)|(unfold pl at h; first|(bv_omega)|cases h)
theorem t6(h:pl k d=true):wp (dY [] [d,.ty "tuple"] fr hb) Q=Q (.ok (.bl (wN d))) hb:=by
 cases d<;>first|(bv_omega)|(unfold pl at h; first|(bv_omega)|cases h)
theorem uV(h:pl k d=true):wp (dY [] [d,.ty "bool"] fr hb) Q=Q (.ok (.bl (w9 d))) hb:=by
 cases d<;>first|(bv_omega)|(unfold pl at h; first|(bv_omega)|cases h)
theorem qS(h:pl k d=true):d.isVal=true:=by
 cases d<;>first|rfl|(unfold pl at h; cases h)
end
theorem ed{n:Nat}{fr:Fr}{hb:HB}{Q:R->HB->Prop}{ds:List D}(h:∀d∈ds,d=.bl true):wp (sZ false [.lst ds] fr hb) Q=Q (.ok (.bl true)) hb:=by
 have e:∃bs,bDs ds=some bs/\bs.all id=true:=by
  induction ds with
  | nil=>exact⟨[],rfl,rfl⟩
  | cons d ds ih =>
   obtain⟨bs,e1,e2⟩:=ih λx hx=>h x (List.mem_cons_of_mem _ hx)
   have:=h d List.mem_cons_self
   subst this
   exact⟨true::bs,by unfold bDs; rw[e1],by simpa using e2⟩
 obtain⟨bs,e1,e2⟩:=e
 show wp (match bDs ds with|some bs=>some (R.ok (.bl (if false then bs.any id else bs.all id)),hb)|none=>none) Q=_
 rw[e1]
 simp[e2]
theorem ke(i j:Int):(eG i j).length=(j - i).toNat:=by simp[eG]
theorem pN{i j:Int}{d:D}(h:d∈eG i j):∃k:Int,d=.int k/\i<=k/\k<j:=by
 unfold eG at h
 obtain⟨n,hn,rfl⟩:=List.mem_map.mp h
 rw[List.mem_range] at hn
 exact⟨_,rfl,by omega,by omega⟩
theorem sL{k:Nat}(h:k<=1000000):smI (k:Int)=true:=by
 unfold smI
 simp only[Bool.and_eq_true,decide_eq_true_eq]
 omega
theorem sI{α:Type}{xs:List α}{k:Int}(h0:0<=k)(hk:k.toNat<xs.length):L2.atI xs k=some xs[k.toNat]:=by
 rw[qH,if_pos h0,List.getElem?_eq_getElem hk]
/-- the same,item by item -/
theorem kF{n:Nat}{ev:a6}{hb:HB}{xs:List D}{s0:D}(hl:xs.length<=1000000)(g0:∀(i:Int) (fr:Fr) (Q:R->HB->Prop),wp (bp s0 (.int i) fr hb) Q=wpO (L2.atI xs i) Q hb)(hs:s0.isVal=true)
  (h:∀x∈xs,x.isVal=true/\∀Q:R->HB->Prop,Q (.ok (.bl true)) hb->wp (ev [x,x] hb) Q) {Qc:List D->HB->Prop} (hq:∀ds,(∀d∈ds,d=.bl true)->Qc ds hb) :
  wp (lcL (.nm 2) (eC (.bl true)) (aM 2 ev (ae (am bp (eV 0) (eV 2)) (ae (am bp (eV 1) (eV 2)) al))) (eG 0 xs.length) [] [.sh s0,.sh s0,.un] hb) Qc:=by
 refine vR (λ_=>true) (λ_=>.bl true) (λd hd=> ?_) (by rw[ke,List.length_nil]; have:=bv; omega) (hq _ (by simp))
 obtain⟨k,rfl,k0,k1⟩:=pN hd
 refine⟨_,rfl,by rw[wpE_c]; exact⟨rfl,rfl⟩,λ_=>⟨?_,rfl⟩⟩
 have hk:k.toNat<xs.length:=by omega
 have ek:k=((k.toNat:Nat):Int):=by omega
 have em:L2.atI xs k=some xs[k.toNat]:=sI k0 hk
 obtain⟨hv,hh⟩:=h xs[k.toNat] (List.getElem_mem hk)
 simp only[wpE_callN,wpEs_cons,wpEs_nil,wpE_op2,wpE_v,List.set_cons_succ,List.set_cons_zero,List.getElem?_cons_succ,List.getElem?_cons_zero,onOk,onL,g0,em,wpO_s,allVal_cons,allVal_nil,hv,List.length_cons,List.length_nil,Nat.zero_add,Nat.reduceAdd,beq_self_eq_true,Bool.and_true,if_true]
 exact hh _ ⟨rfl,rfl⟩
theorem cB:∀(ev:a6) (d:D) (hb:HB) (Q:R->HB->Prop),pl 0 d=true->Q (.ok (.bl true)) hb->wp (fnE 3 (aH ev) [d,d] hb) Q:=by
 intro ev d hb Q hd hq
 rw[wpF]
 unfold aH
 show wp (a8 _ _ [.sh d,.sh d,.un] hb) _
 have key:vr d=false/\wp (gEq d d [.sh d,.sh d,.un] hb) (λr h=>match r with
  | .ok e=>(match rtD [.sh d,.sh d,.un] e with
   | some x=>Q (.ok x) h
   | none=>False)
  | .exn x=>Q (.exn x) h):=by
  cases d<;>first|(simp[pl] at hd; done)|skip
  all_goals
   refine⟨rfl,?_⟩
   rw[sx rfl rfl]
   simp only[rz,w3,tw,wT,wQ,decide_true,rtD_b]
   exact hq
 simp -implicitDefEqProofs only[wpF,wpS_seq,wpS_if,wpS_set,wpS_put,wpS_ret,wpS_nil,wpS_drop,wpS_own,wpS_fz,wpS_bx,wpS_asg,wpS_multi,wpM_nil,wpM_v,wpM_o,wpE_op2,wpE_v,wpE_c,wpE_eL,wpEs_cons,wpEs_nil,wpE_callN,wpE_callR,wpE_tup,wpE_lst,wpE_and,wpE_or,wpE_not,wpE_if,wpE_fz,wpE_bx,wpE_bind,wpE_isN,wpE_chain,wpE_cut,wpO_none,wpO_some,wpC_lst,wpC_call,wpC_lrg,wpI_val,wpI_rng1,wpI_rng2,wpI_enum,wpI_zip,wpC_lc,wpC_lc2,wpC_dc,wpS_for,wpA_args,wpC_make,wpS_bm,wpE_bm,wpE_meth,wpE_methR,wpC_meth,wpC_callC,wp_some,onOk,onL,List.getElem?_cons_succ,List.getElem?_cons_zero,List.set_cons_succ,List.set_cons_zero,allVal_cons,allVal_nil,isV_s,isV_i,isV_b,isV_n,isV_t,isV_l,isV_f,isV_d,isV_x,isV_c,isV_r,isV_y,List.length_cons,List.length_nil,Nat.zero_add,Nat.reduceAdd,beq_self_eq_true,Bool.and_true,Bool.true_and,Bool.and_self,decide_true,decide_false,if_true,Bool.not_true,Bool.not_false,dec0,dec1,dec2,dec3,dec4,rtD_s,rtD_i,rtD_b,rtD_n,rtD_t,rtD_l,rtD_x,isN_n,isN_t,isN_s,isN_i,O_dl,O_dd,O_di,v_addI,v_sub,v_intI,v_ordI,v_ordS,v_lenL,v_lenT,v_min2S,v_max2S,v_min2I,v_max2I,v_cutT,v_cutL,v_eqI,v_neI,v_eqS,v_neS,v_eqB,v_neB,v_cint,v_inCh,bne_self_eq_false,Bool.false_bne,Bool.true_bne,Bool.bne_false,Bool.bne_true,stT,stAll,stMI,wipeF,Option.map_some,Option.map_none,wpO_s,wpO_n,qE hd,uV hd,ut hd,t6 hd,key.1]
 have:=key.2
 cases d<;>first|exact this|(simp[pl] at hd; done)
theorem iw:∀(ev:a6) (d:D) (xs:List D) (hb:HB) (Q:R->HB->Prop) (k:Nat),(d=.lst xs\/d=.tup xs)->pl (k+1) d=true->(∀x∈xs,x.isVal=true/\∀Q:R->HB->Prop,Q (.ok (.bl true)) hb->wp (ev [x,x] hb) Q)->Q (.ok (.bl true)) hb->wp (fnE 3 (aH ev) [d,d] hb) Q:=by
 intro ev d xs hb Q k hd hp hx hq
 have hl:xs.length<=1000000:=by
  rcases hd with rfl|rfl<;>(unfold pl at hp; exact of_decide_eq_true (Bool.and_eq_true_iff.mp hp).1)
 rw[wpF]
 unfold aH
 rcases hd with rfl|rfl
 all_goals
  show wp (a8 _ _ [.sh _,.sh _,.un] hb) _
  simp -implicitDefEqProofs only[wpF,wpS_seq,wpS_if,wpS_set,wpS_put,wpS_ret,wpS_nil,wpS_drop,wpS_own,wpS_fz,wpS_bx,wpS_asg,wpS_multi,wpM_nil,wpM_v,wpM_o,wpE_op2,wpE_v,wpE_c,wpE_eL,wpEs_cons,wpEs_nil,wpE_callN,wpE_callR,wpE_tup,wpE_lst,wpE_and,wpE_or,wpE_not,wpE_if,wpE_fz,wpE_bx,wpE_bind,wpE_isN,wpE_chain,wpE_cut,wpO_none,wpO_some,wpC_lst,wpC_call,wpC_lrg,wpI_val,wpI_rng1,wpI_rng2,wpI_enum,wpI_zip,wpC_lc,wpC_lc2,wpC_dc,wpS_for,wpA_args,wpC_make,wpS_bm,wpE_bm,wpE_meth,wpE_methR,wpC_meth,wpC_callC,wp_some,onOk,onL,List.getElem?_cons_succ,List.getElem?_cons_zero,List.set_cons_succ,List.set_cons_zero,allVal_cons,allVal_nil,isV_s,isV_i,isV_b,isV_n,isV_t,isV_l,isV_f,isV_d,isV_x,isV_c,isV_r,isV_y,List.length_cons,List.length_nil,Nat.zero_add,Nat.reduceAdd,beq_self_eq_true,Bool.and_true,Bool.true_and,Bool.and_self,decide_true,decide_false,if_true,Bool.not_true,Bool.not_false,dec0,dec1,dec2,dec3,dec4,rtD_s,rtD_i,rtD_b,rtD_n,rtD_t,rtD_l,rtD_x,isN_n,isN_t,isN_s,isN_i,O_dl,O_dd,O_di,v_addI,v_sub,v_intI,v_ordI,v_ordS,v_lenL,v_lenT,v_min2S,v_max2S,v_min2I,v_max2I,v_cutT,v_cutL,v_eqI,v_neI,v_eqS,v_neS,v_eqB,v_neB,v_cint,v_inCh,bne_self_eq_false,Bool.false_bne,Bool.true_bne,Bool.bne_false,Bool.bne_true,stT,stAll,stMI,wipeF,Option.map_some,Option.map_none,wpO_s,wpO_n,qE hp,uV hp,ut hp,t6 hp,vr,sL hl]
  refine kF (n:=0) hl (λi fr Q=>by first|exact kT|exact nc) rfl hx λds hds=> ?_
  show wp (sZ false [.lst ds] _ hb) _
  rw[ed (n:=0) hds]
  exact hq
theorem rM:∀(k:Nat) (d:D),pl k d=true->∀(hb:HB) (Q:R->HB->Prop),Q (.ok (.bl true)) hb->wp (vg (λev=>fnE 3 (aH ev)) (k+1) [d,d] hb) Q:=by
 intro k
 induction k with
 | zero=>exact λd hd hb Q hq=>cB _ d hb Q hd hq
 | succ k ih =>
  intro d hd hb Q hq
  show wp (fnE 3 (aH _) [d,d] hb) Q
  cases d with
  | lst xs =>
   refine iw _ _ xs hb Q k (.inl rfl) hd (λx hx=> ?_) hq
   unfold pl at hd
   have:=List.all_eq_true.mp (Bool.and_eq_true_iff.mp hd).2 x hx
   exact⟨qS this,λQ hq=>ih x this hb Q hq⟩
  | tup xs =>
   refine iw _ _ xs hb Q k (.inr rfl) hd (λx hx=> ?_) hq
   unfold pl at hd
   have:=List.all_eq_true.mp (Bool.and_eq_true_iff.mp hd).2 x hx
   exact⟨qS this,λQ hq=>ih x this hb Q hq⟩
  | non=>exact cB _ _ hb Q rfl hq
  | bl b=>exact cB _ _ hb Q rfl hq
  | int b=>exact cB _ _ hb Q rfl hq
  | str b=>exact cB _ _ hb Q rfl hq
  | _=>simp[pl] at hd
theorem jk{d:D}{hb:HB}{Q:R->HB->Prop}(h:pl 7 d=true)(hq:Q (.ok (.bl true)) hb):wp (aD [d,d] hb) Q:=rM 7 d h hb Q hq
end
end Lw
local macro_rules | `(tactic| simp! only [$ls,*]) => `(tactic| simp -implicitDefEqProofs only [DI.wpF, DI.wpS_seq, DI.wpS_if, DI.wpS_set, DI.wpS_put, DI.wpS_ret, DI.wpS_nil, DI.wpS_drop, DI.wpS_own, DI.wpS_fz, DI.wpS_bx, DI.wpS_asg, DI.wpS_multi, DI.wpM_nil, DI.wpM_v, DI.wpM_o, DI.wpE_op2, DI.wpE_v, DI.wpE_c, DI.wpE_eL, DI.wpEs_cons, DI.wpEs_nil, DI.wpE_callN, DI.wpE_callR, DI.wpE_tup, DI.wpE_lst, DI.wpE_and, DI.wpE_or, DI.wpE_not, DI.wpE_if, DI.wpE_fz, DI.wpE_bx, DI.wpE_bind, DI.wpE_isN, DI.wpE_chain, DI.wpE_cut, DI.wpO_none, DI.wpO_some, DI.wpC_lst, DI.wpC_call, DI.wpC_lrg, DI.wpI_val, DI.wpI_rng1, DI.wpI_rng2, DI.wpI_enum, DI.wpI_zip, DI.wpC_lc, DI.wpC_lc2, DI.wpC_dc, DI.wpS_for, DI.wpA_args, DI.wpC_make, DI.wpS_bm, DI.wpE_bm, DI.wpE_meth, DI.wpE_methR, DI.wpC_meth, DI.wpC_callC, DI.wp_some, DI.onOk, DI.onL, List.getElem?_cons_succ, List.getElem?_cons_zero, List.set_cons_succ, List.set_cons_zero, DI.allVal_cons, DI.allVal_nil, DI.isV_s, DI.isV_i, DI.isV_b, DI.isV_n, DI.isV_t, DI.isV_l, DI.isV_f, DI.isV_d, DI.isV_x, DI.isV_c, DI.isV_r, DI.isV_y, List.length_cons, List.length_nil, Nat.zero_add, Nat.reduceAdd, beq_self_eq_true, Bool.and_true, Bool.true_and, Bool.and_self, decide_true, decide_false, if_true, Bool.not_true, Bool.not_false, Lw.dec0, Lw.dec1, Lw.dec2, Lw.dec3, Lw.dec4, DI.rtD_s, DI.rtD_i, DI.rtD_b, DI.rtD_n, DI.rtD_t, DI.rtD_l, DI.rtD_x, DI.isN_n, DI.isN_t, DI.isN_s, DI.isN_i, DI.O_dl, DI.O_dd, DI.O_di, DI.v_addI, DI.v_sub, DI.v_intI, DI.v_ordI, DI.v_ordS, DI.v_lenL, DI.v_lenT, DI.v_min2S, DI.v_max2S, DI.v_min2I, DI.v_max2I, DI.v_cutT, DI.v_cutL, DI.v_eqI, DI.v_neI, DI.v_eqS, DI.v_neS, DI.v_eqB, DI.v_neB, DI.v_cint, DI.v_inCh, bne_self_eq_false, Bool.false_bne, Bool.true_bne, Bool.bne_false, Bool.bne_true, DI.stT, DI.stAll, DI.stMI, DI.wipeF, Option.map_some, Option.map_none, DI.wpO_s, DI.wpO_n, $ls,*])
local macro_rules | `(tactic| ac_rfl) => `(tactic| (first | exact ⟨rfl, rfl⟩ | exact ⟨trivial, trivial⟩ | exact ⟨rfl, trivial⟩ | exact ⟨trivial, rfl⟩ | rfl | trivial))
local macro_rules | `(tactic| ac_nf) => `(tactic| simp! only [decide_true])
namespace Lw
open PySem DI
section
theorem dC{α:Type}{t:Tg}{c el:Ev}{fr:Fr}{hb:HB}{Qc:List D->HB->Prop}{g:α->D}(p:α->Bool)(f:α->D):∀(as:List α) (acc:List D),(∀a∈as,∃fr1,stT t (g a) fr=some fr1/\wp (c fr1 hb) (λr h=>r=.ok (.bl (p a))/\h=hb)/\(p a=true->wp (el fr1 hb) (λr h=>r=.ok (f a)/\h=hb)/\(f a).isVal=true))->acc.length+as.length<=szL ->
  Qc (acc++(as.filter p).map f) hb->wp (lcL t c el (as.map g) acc fr hb) Qc
 | [],acc,_,_,hq=>by
  rw[List.map_nil]
  unfold lcL
  simpa using hq
 | a ::as,acc,h,hl,hq=>by
  obtain⟨fr1,h1,h2,h3⟩:=h a List.mem_cons_self
  rw[jv] at h2
  rw[List.map_cons]
  unfold lcL
  rw[h1]
  dsimp only
  rw[h2]
  simp only[List.length_cons] at hl
  cases hp:p a with
  | true =>
   obtain⟨h4,h5⟩:=h3 hp
   rw[jv] at h4
   dsimp only
   rw[h4]
   dsimp only
   have:(decide (acc.length<szL))=true:=decide_eq_true (by omega)
   rw[h5,this]
   simp only[Bool.and_self,if_true]
   refine dC p f as _ (λx hx=>h x (List.mem_cons_of_mem _ hx)) (by simp; omega) ?_
   rw[List.filter_cons,if_pos hp] at hq
   simpa using hq
  | false =>
   dsimp only
   refine dC p f as _ (λx hx=>h x (List.mem_cons_of_mem _ hx)) (by omega) ?_
   rw[List.filter_cons,if_neg (by rw[hp]; simp)] at hq
   exact hq
theorem nL{i j:Int}{done ds:List D}{d:D}(h:done++d::ds=eG i j):d=.int (i+(done.length:Int))/\i+(done.length:Int)<j:=by
 have e:(eG i j)[done.length]? =some d:=by rw[<-h]; simp
 unfold eG at e
 rw[List.getElem?_map] at e
 have hl:done.length<(j - i).toNat:=by
  have:=congrArg List.length h
  rw[ke,List.length_append,List.length_cons] at this
  omega
 rw[List.getElem?_range hl] at e
 simp only[Option.map_some,Option.some.injEq] at e
 exact⟨e.symm,by omega⟩
abbrev sg(c:Char):D:=.str [c]
def pr(a b:Char):List Char:=if b.toNat<a.toNat then [b,a] else [a,b]
def J(ps:List (List Char))(a b:Char):Bool:=decide (pr a b∈ps)
end
section
theorem lY{ls:List Char}(h:ls.Pairwise λa b=>a.toNat<b.toNat){i j:Nat}{c:Char}(h1:ls[i]? =some c)(h2:ls[j]? =some c):i=j:=by
 obtain⟨l1,e1⟩:=List.getElem?_eq_some_iff.mp h1
 obtain⟨l2,e2⟩:=List.getElem?_eq_some_iff.mp h2
 have z:=List.pairwise_iff_getElem.mp h
 rcases Nat.lt_trichotomy i j with k|k|k
 .have:=z i j l1 l2 k
  rw[e1,e2] at this; omega
 .exact k
 .have:=z j i l2 l1 k
  rw[e1,e2] at this; omega
/-- where a pair comes from -/
def From(ls:List Char)(M:Nat)(done:List D)(p:List Char):Prop:=∃k:Nat,D.int (k:Int)∈done/\∃a b,ls[k / M]? =some a/\ls[k % M]? =some b/\a.toNat<b.toNat/\p=[a,b]
theorem From.inj{ls:List Char}{M:Nat}{d1 d2:List D}{p:List Char}(hM:0<M)(h:ls.Pairwise λa b=>a.toNat<b.toNat)(h1:From ls M d1 p)(h2:From ls M d2 p):∃k:Nat,D.int (k:Int)∈d1/\D.int (k:Int)∈d2:=by
 obtain⟨k,m1,a,b,e1,e2,_,rfl⟩:=h1
 obtain⟨k',m2,a',b',e3,e4,_,e⟩:=h2
 injection e with ea e
 injection e with eb _
 subst ea
 subst eb
 have q1:=lY h e1 e3
 have q2:=lY h e2 e4
 have:k=k':=by
  rw[<-Nat.div_add_mod k M,<-Nat.div_add_mod k' M,q1,q2]
 subst this
 exact⟨k,m1,m2⟩
end
section
section
variable {fr:Fr} {hb:HB} {Q:R->HB->Prop} {QS:SR->HB->Prop} {ev ev2:Ev} {evs:Evs}
theorem ez{cs:List String}{f:String}:wp (eJ cs f ev ev2 fr hb) QS=wp (ev fr hb) (λr h=>match r with
 | .ok d=>if d.isVal=true then wp (ev2 fr h) (λr h=>match r with
  | .ok x=>(match rdO fr h x with
   | some (.ins c fs vs)=>if (cs.contains c && decide (fs.length<1000))=true then QS (.nx (wrO x (.ins c (bw fs vs f d).1 (bw fs vs f d).2) fr h).1) (wrO x (.ins c (bw fs vs f d).1 (bw fs vs f d).2) fr h).2 else False
   | _=>False)
  | .exn z=>QS (.ex z) h) else False
 | .exn z=>QS (.ex z) h):=by
 unfold eJ
 rcases ev fr hb with _|⟨d|x,h⟩
 .bv_omega
 .simp only[wp_some]
  rw[aC,ax]
  congr 1
  rcases ev2 fr h with _|⟨x|x,h⟩
  .bv_omega
  .simp only[wp_some]
   rcases rdO fr h x with _|(_|_|⟨c,fs,vs⟩|_)
   .bv_omega
   .bv_omega
   .bv_omega
   .exact cQ
   .bv_omega
  .bv_omega
 .bv_omega
theorem t9{k:Nat}{c f:String}{cs fs:List String}{vs:List D}(e:fr[k]? =some (.ow (.ins c fs vs))):wp (eW cs f (.loc k) fr hb) Q=if cs.contains c=true then wpO (pX fs vs f) Q hb else False:=by
 have h1:i9 fr hb (.loc k)=some (c,fs,vs):=by simp only[i9,rdO,e]
 unfold eW
 rw[h1]
 dsimp only
 rw[aC,ax]
 congr 1
 cases pX fs vs f<;>bv_omega
theorem ul{acc:List Char}:wp (eJs [] acc fr hb) Q=Q (.ok (.str acc)) hb:=by bv_omega
theorem uj{acc:List Char}{r:List Ev}:wp (eJs (ev::r) acc fr hb) Q=wp (ev fr hb) (onOk (λd h=>match d with
 | .str y=>if (acc++y).length<=szL then wp (eJs r (acc++y) fr h) Q else False
 | _=>False) Q):=by
 rw[eJs,wpE_bind]; congr 1; funext r h; cases r with
 | exn x=>bv_omega
 | ok d=>cases d<;>first|bv_omega|(dsimp only[onOk]; rw[aC,ax])
end
theorem p8{xs done ds:List D}{d:D}(h:done++d::ds=d9 xs):∃hl:done.length<xs.length,d=.tup [.int (done.length:Nat),xs[done.length]]:=by
 have e:(d9 xs)[done.length]? =some d:=by rw[<-h]; simp
 unfold d9 at e
 rw[List.getElem?_map,List.getElem?_zipIdx] at e
 cases q:xs[done.length]? with
 | none=>rw[q] at e; simp at e
 | some z =>
  rw[q] at e
  obtain⟨hl,hz⟩:=List.getElem?_eq_some_iff.mp q
  refine⟨hl,?_⟩
  simp at e
  rw[hz]
  exact e.symm
theorem mM{α:Type}{g:α->D}{xs:List α}{done ds:List D}{d:D}(h:done++d::ds=xs.map g):∃hl:done.length<xs.length,d=g xs[done.length]:=by
 have e:(xs.map g)[done.length]? =some d:=by rw[<-h]; simp
 rw[List.getElem?_map] at e
 cases q:xs[done.length]? with
 | none=>rw[q] at e; simp at e
 | some z =>
  rw[q] at e
  obtain⟨hl,hz⟩:=List.getElem?_eq_some_iff.mp q
  refine⟨hl,?_⟩
  simp at e
  rw[hz]
  exact e.symm
def nb(ls:List Char)(ps:List (List Char))(a:Char):List Char:=ls.filter (J ps a)
def jn(ls:List Char)(ps:List (List Char)):D:=.dct (ls.map sg) (ls.map λa=>.str (nb ls ps a))
end
end Lw
namespace DI
open PySem
section
end
end DI
namespace Lw
open PySem DI
section
theorem rD{n:Nat}:decide (0<1000)=true:=rfl
/-- a sequence of texts,as it is handed over -/
def SeqB(hb:HB)(pd:D)(hs:List (List Char)):Prop:=pd=.lst (hs.map .str)\/pd=.tup (hs.map .str)\/∃k,pd=.box k/\hb[k]? =some (.lst (hs.map .str))
theorem SeqB.val{hb:HB}{pd:D}{hs:List (List Char)}(h:SeqB hb pd hs):pd.isVal=true:=by
 rcases h with rfl|rfl|⟨k,rfl,_⟩<;>rfl
def tbl(ls:List Char)(ps:List (List Char)):D:=.ins "Table" ["signs","joined"] [.str ls,jn ls ps]
end
section
theorem dl{α:Type}{lt:α->α->Prop}(irr:∀a,¬lt a a)(asy:∀a b,lt a b->¬lt b a):∀l1 l2:List α,l1.Pairwise lt->l2.Pairwise lt->(∀x,x∈l1<->x∈l2)->l1=l2
 | [],[],_,_,_=>rfl
 | [],b::l2,_,_,h=>absurd ((h b).mpr List.mem_cons_self) (by simp)
 | a::l1,[],_,_,h=>absurd ((h a).mp List.mem_cons_self) (by simp)
 | a ::l1,b::l2,h1,h2,h=>by
  rw[List.pairwise_cons] at h1 h2
  have e:a=b:=by
   rcases List.mem_cons.mp ((h a).mp List.mem_cons_self) with q|q
   .exact q
   .rcases List.mem_cons.mp ((h b).mpr List.mem_cons_self) with q2|q2
    .exact q2.symm
    .exact absurd (h1.1 b q2) (asy _ _ (h2.1 a q))
  subst e
  rw[dl irr asy l1 l2 h1.2 h2.2 λx=> ?_]
  constructor
  .intro hx
   rcases List.mem_cons.mp ((h x).mp (List.mem_cons_of_mem _ hx)) with q|q
   .exact absurd (h1.1 x hx) (q ▸ irr a)
   .exact q
  .intro hx
   rcases List.mem_cons.mp ((h x).mpr (List.mem_cons_of_mem _ hx)) with q|q
   .exact absurd (h2.1 x hx) (q ▸ irr a)
   .exact q
theorem pR:∀n:Nat,n<64->(pF (n:Int)).length<=10:=by decide
theorem rY{n:Nat}(h:n<64):(n:Int).natAbs.log2<1920:=by
 rw[Int.natAbs_natCast]
 have:=Nat.log2_le_self n
 omega
def nbs(ls:List Char)(ps:List (List Char)):List (List Char):=ls.map λa=>nb ls ps a
end
section
/-- the law's opening -/
theorem po{ns:List Int}{hb0:HB}{Q:R->HB->Prop}(h:ns.length<=63)(hq:∀hb',Box hb' hb0.length->Ext hb0.length hb0 hb'->Q (.ok (.box hb0.length)) hb'):wp (bo [.fz (ns.map .int)] hb0) Q:=by
 unfold bo dA
 rw[wpF]
 show wp (a8 _ _ [.sh (.fz (ns.map .int)),.un,.un,.un] hb0) _
 have hz:=bv
 have ec:dU (ns.map D.int) none (some 63)=ns.map .int:=by
  unfold dU
  have e1:HT.sIx (ns.map D.int).length 0 none=0:=rfl
  have e2:HT.sIx (ns.map D.int).length (ns.map D.int).length (some 63)=min 63 (ns.map D.int).length:=rfl
  rw[e1,e2,List.length_map]
  simp only[List.drop_zero,Nat.sub_zero]
  exact List.take_of_length_le (by rw[List.length_map]; omega)
 refine aw (λf hb=>(∃s3,f=[.sh (.fz (ns.map .int)),.sh (.lst (ns.map .int)),.un,s3])/\hb0=hb) ?_ ?_
 .simp! only[tv,ec]
  refine dC (g:=D.int) (λ_=>true) (λi=>.int i) ns [] (λi hi=>⟨_,rfl,by rw[wpE_c]; exact⟨rfl,rfl⟩,λ_=>⟨?_,rfl⟩⟩) (by simp only[List.length_nil]; omega) ?_
  .ac_nf
   exact⟨trivial,trivial⟩
  simp! only[List.nil_append]
  rw[if_pos (by decide)]
  rw[List.filter_eq_self.mpr (λ_ _=>rfl)]
  exact⟨⟨_,rfl⟩,trivial⟩
 rintro f _ ⟨⟨s3,rfl⟩,rfl⟩
 refine aw (λf hb=>(∃k:Int,f=[.sh (.fz (ns.map .int)),.sh (.lst (ns.map .int)),.sh (.int k),s3])/\hb0=hb) ?_ ?_
 .simp! only[kr]
  rw[if_pos (.inl (by decide))]
  exact⟨⟨_,rfl⟩,trivial⟩
 rintro f _ ⟨⟨k,rfl⟩,rfl⟩
 refine aw (λf hb=>(∃(k:Int) (s3:SV),f=[.sh (.fz (ns.map .int)),.sh (.lst (ns.map .int)),.sh (.int k),s3])/\hb0=hb) ?_ ?_
 .ac_nf
  refine dJ (λdone rest f hb=>(∃(k:Int) (s3:SV),f=[.sh (.fz (ns.map .int)),.sh (.lst (ns.map .int)),.sh (.int k),s3])/\hb0=hb/\done++rest=ns.map .int) [] _ _ _ ⟨⟨_,_,rfl⟩,rfl,rfl⟩ ?_ ?_
  .rintro done d rest f _ ⟨⟨k,s3,rfl⟩,rfl,hr⟩
   obtain⟨hi,rfl⟩:=mM hr
   refine⟨_,rfl,?_⟩
   simp! only[kr,l7]
   rw[if_pos (.inr (by decide))]
   rw[if_pos (by decide)]
   exact⟨⟨_,_,rfl⟩,trivial,by rw[List.append_assoc]; exact hr⟩
  .rintro done f hb ⟨hf,he,_⟩
   exact⟨hf,he⟩
 rintro f _ ⟨⟨k,s3,rfl⟩,rfl⟩
 ac_nf
 refine hq _ ⟨ns,0,0,k,by rw[List.getElem?_append_right (Nat.le_refl _),Nat.sub_self]; rfl,by decide⟩ Ext.snoc
theorem sw{ns:List Int}{Q:R->HB->Prop}(h:ns.length<=63)(hq:∀hb',Box hb' 0->Q (.ok (.box 0)) hb'):wp (bo [.fz (ns.map .int)] []) Q:=po h λhb' hB _=>hq hb' hB
end
section
def lx(p q:IP):Prop:=p.1<q.1\/(p.1=q.1/\p.2<q.2)
theorem qD(p:IP):¬lx p p:=by unfold lx; omega
theorem uT(p q:IP)(h:lx p q):¬lx q p:=by unfold lx at *; omega
theorem kz{l1 l2:List IP}(h1:l1.Pairwise lx)(h2:l2.Pairwise lx)(h:∀x,x∈l1<->x∈l2):l1=l2:=dl qD uT l1 l2 h1 h2 h
theorem nt{l:List IP}(h:l.Pairwise lx):l.Nodup:=by
 rw[List.nodup_iff_pairwise_ne]
 exact h.imp λ{a b} q e=>by subst e; exact qD a q
theorem ni{acc:List IP}{p:IP}:p∈fq acc<->p∈acc:=(List.mergeSort_perm _ _).mem_iff
theorem nY{acc:List IP}(h:acc.Nodup):(fq acc).Pairwise lx:=by
 have h1:=fY acc
 have h2:(fq acc).Nodup:=(List.mergeSort_perm _ _).nodup_iff.mpr h
 refine(h1.and h2).imp λ{a b} hab=> ?_
 obtain⟨q1,q2⟩:=hab
 have:=SrtO.lexB_no.mp q1
 unfold lx
 have ne:¬(a.1=b.1/\a.2=b.2):=λe=>q2 (Prod.ext e.1 e.2)
 omega
theorem pC{acc:List IP}{p q:IP}:q∈jZ acc p<->q∈acc\/q=p:=by
 unfold jZ
 split
 .rename_i h
  exact⟨.inl,λz=>z.elim id λe=>by rw[e]; exact h⟩
 .rw[List.mem_cons]
  exact⟨λz=>z.elim .inr .inl,λz=>z.elim .inr .inl⟩
theorem kU{acc:List IP}{p:IP}(h:acc.Nodup):(jZ acc p).Nodup:=by
 unfold jZ
 split
 .exact h
 .rename_i hn
  exact List.nodup_cons.mpr ⟨hn,h⟩
def dD(acc:List IP):List IP->List IP
 | []=>acc
 | p::ps=>dD (jZ acc p) ps
theorem fK{q:IP}:∀(ps acc:List IP),q∈dD acc ps<->q∈acc\/q∈ps
 | [],acc=>by simp[dD]
 | p::ps,acc=>by
  show q∈dD (jZ acc p) ps<->_
  rw[fK ps,pC,List.mem_cons,or_assoc]
theorem dM:∀(ps acc:List IP),acc.Nodup->(dD acc ps).Nodup
 | [],acc,h=>h
 | p::ps,acc,h=>dM ps _ (kU h)
/-- an edge's pair in order -/
def nm(p:IP):IP:=(if p.2<p.1 then p.2 else p.1,if p.1<p.2 then p.2 else p.1)
/-- the lines of drawn edges -/
def cF(xs:List IP):List IP:=fq (dD [] (xs.map nm))
theorem cU(xs:List IP):(cF xs).Pairwise lx:=nY (dM _ _ List.nodup_nil)
theorem linesOf_mem{xs:List IP}{q:IP}:q∈cF xs<->∃p∈xs,nm p=q:=by
 unfold cF
 rw[ni,fK,List.mem_map]
 simp
structure EdOk (n:Int) (es:List IP):Prop where
 asc:es.Pairwise lx
 low:∀p∈es,0<=p.1/\p.1<p.2/\p.2<n
theorem nN{p:IP}(h:p.1<p.2):nm p=p:=by
 unfold nm
 rw[if_neg (by omega),if_pos h]
theorem hV{n:Int}{es:List IP}(h:EdOk n es):cF es=es:=by
 refine kz (cU es) h.asc λq=> ?_
 rw[linesOf_mem]
 constructor
 .rintro⟨p,hp,rfl⟩
  rw[nN (h.low p hp).2.1]; exact hp
 .exact λhq=>⟨q,hq,nN (h.low q hq).2.1⟩
/-- few edges -/
theorem nh{α:Type}[DecidableEq α]:∀(l m:List α),l.Nodup->(∀x∈l,x∈m)->l.length<=m.length
 | [],m,_,_=>Nat.zero_le _
 | a::l,m,hn,hs=>by
  obtain⟨ha,hl⟩:=List.nodup_cons.mp hn
  have hm:=hs a List.mem_cons_self
  have:=nh l (m.erase a) hl λx hx=>(List.mem_erase_of_ne (λe=>ha (by rw[<-e]; exact hx))).mpr (hs x (List.mem_cons_of_mem _ hx))
  rw[List.length_erase_of_mem hm] at this
  have:0<m.length:=List.length_pos_iff.mpr (List.ne_nil_of_mem hm)
  simp only[List.length_cons]; omega
def allP:List IP:=(List.range 10).flatMap λb:Nat=>(List.range b).map λa:Nat=>((a:Int),(b:Int))
theorem pB:allP.length=45:=by decide
theorem iP{n:Int}{es:List IP}(h:EdOk n es)(hn:n<=10):es.length<=45:=by
 rw[<-pB]
 refine nh es allP (nt h.asc) λp hp=> ?_
 obtain⟨h0,h1,h2⟩:=h.low p hp
 refine List.mem_flatMap.mpr ⟨p.2.toNat,List.mem_range.mpr (by omega),List.mem_map.mpr ⟨p.1.toNat,List.mem_range.mpr (by omega),?_⟩⟩
 exact Prod.ext (by show((p.1.toNat:Nat):Int)=p.1; omega) (by show((p.2.toNat:Nat):Int)=p.2; omega)
def bu(es:List IP)(i:Int):List Int:=hO ((es.filter λp=>decide (i=p.1) || decide (i=p.2)).map λp=>p.1+p.2 - i)
theorem mH{xs:List Int}{a:Int}:a∈hO xs<->a∈xs:=(List.mergeSort_perm _ _).mem_iff
theorem sortI_pw(xs:List Int):(hO xs).Pairwise (· <=·):=by
 have:=List.pairwise_mergeSort (le:=λa b:Int=>decide (a<=b)) (λa b c h1 h2=>by simp at *; omega) (λa b=>by simp; omega) xs
 exact this.imp λh=>by simpa using h
theorem kX{n:Int}{es:List IP}(h:EdOk n es){i j:Int}:j∈bu es i<->(i,j)∈es\/(j,i)∈es:=by
 unfold bu
 rw[mH,List.mem_map]
 constructor
 .rintro⟨p,hp,rfl⟩
  obtain⟨hp,hc⟩:=List.mem_filter.mp hp
  rw[Bool.or_eq_true,decide_eq_true_eq,decide_eq_true_eq] at hc
  rcases hc with e|e
  .left
   have:(i,p.1+p.2 - i)=p:=Prod.ext e (by show p.1+p.2 - i=p.2; omega)
   rw[this]; exact hp
  .right
   have:(p.1+p.2 - i,i)=p:=Prod.ext (by show p.1+p.2 - i=p.1; omega) e
   rw[this]; exact hp
 .rintro (q|q)
  .exact⟨(i,j),List.mem_filter.mpr ⟨q,by simp⟩,by show i+j - i=j; omega⟩
  .exact⟨(j,i),List.mem_filter.mpr ⟨q,by simp⟩,by show j+i - i=j; omega⟩
theorem lh{n:Int}{es:List IP}(h:EdOk n es)(i:Int):(bu es i).Pairwise (· <·):=by
 have hnd:(bu es i).Nodup:=by
  refine(List.mergeSort_perm _ _).nodup_iff.mpr ?_
  rw[List.nodup_iff_pairwise_ne,List.pairwise_map]
  have h1:((es.filter λp=>decide (i=p.1) || decide (i=p.2))).Pairwise lx:=h.asc.sublist List.filter_sublist
  refine h1.imp_of_mem λ{a b} ha hb hab e=> ?_
  obtain⟨ma,ca⟩:=List.mem_filter.mp ha
  obtain⟨mb,cb⟩:=List.mem_filter.mp hb
  rw[Bool.or_eq_true,decide_eq_true_eq,decide_eq_true_eq] at ca cb
  have la:=h.low a ma
  have lb:=h.low b mb
  unfold lx at hab
  omega
 exact((sortI_pw _).and hnd).imp λ{a b} hab=>by have:=hab.2; have:=hab.1; omega
/-- the law's list of the nodes beside a node -/
theorem rR{n:Nat}{es:List IP}(h:EdOk n es)(i:Int):bu es i=((List.range n).map λk:Nat=>(k:Int)).filter λj=>decide (nm (i,j)∈es):=by
 refine dl (lt:=λa b:Int=>a<b) (λa=>Int.lt_irrefl a) (λa b h1 h2=>by omega) _ _ (lh h i) ?_ λj=> ?_
 .refine List.Pairwise.filter _ ?_
  rw[List.pairwise_map]
  exact List.pairwise_lt_range.imp λ{a b} q=>by show(a:Int)<(b:Int); omega
 .rw[kX h,List.mem_filter,List.mem_map,decide_eq_true_eq]
  constructor
  .rintro (q|q)
   .have:=h.low _ q
    exact⟨⟨j.toNat,List.mem_range.mpr (by simp only at this; omega),by simp only at this; omega⟩,by rw[nN (show(i,j).1<(i,j).2 from this.2.1)]; exact q⟩
   .have:=h.low _ q
    simp only at this
    refine⟨⟨j.toNat,List.mem_range.mpr (by omega),by omega⟩,?_⟩
    have e:nm (i,j)=(j,i):=by unfold nm; simp only; rw[if_pos (by omega),if_neg (by omega)]
    rw[e]; exact q
  .rintro⟨_,q⟩
   unfold nm at q
   simp only at q
   by_cases hij:i<j
   .rw[if_neg (by omega),if_pos hij] at q
    exact .inl q
   .by_cases hji:j<i
    .rw[if_pos hji,if_neg hij] at q
     exact .inr q
    .rw[if_neg hji,if_neg hij] at q
     have:=h.low _ q
     simp only at this; omega
end
section
theorem tq{α:Type}(xs:List α)(k:Nat):dU xs none (some (k:Int))=xs.take k:=by
 unfold dU
 have e1:HT.sIx xs.length 0 none=0:=rfl
 have e2:HT.sIx xs.length xs.length (some (k:Int))=min k xs.length:=by
  show(if (k:Int)<0 then ((k:Int)+(xs.length:Int)).toNat else min (k:Int).toNat xs.length)=_
  rw[if_neg (by omega),Int.toNat_natCast]
 rw[e1,e2,List.drop_zero,Nat.sub_zero]
 by_cases h:k<=xs.length
 .rw[Nat.min_eq_left h]
 .rw[Nat.min_eq_right (by omega),List.take_of_length_le (Nat.le_refl _),List.take_of_length_le (by omega)]
end
section
def eF:Sv:=(a8 (eU [4,5] [.v (am cJ (eC (.int 1)) (aM 2 aE (ae (eV 0) (ae (eV 1) al)))),.o (pA al)]) (a8 (fj 2 (aM 2 aE (ae (eV 0) (ae (eC (.int 4)) al)))) (a8 (sFz 5 (j2 (cN (ae (eV 4) al)) (.nm 3) (j2 (fQ (ae (am cJ (eV 3) (eC (.int 1))) (ae (eV 4) al))) (.nm 6) (sIf (eOr (am (d3 .lt) (aM 2 aE (ae (eV 0) (ae (eC (.int 5)) al))) (am bp (lc (ae (eC (.int 1)) (ae (eC (.int 2)) (ae (eC (.int 3)) (ae (eC (.int 2)) al))))) (eV 2))) (f7 (am (d3 .gt) (eV 2) (eC (.int 1))) (am gEq (eV 3) (am n9 (eV 6) (eC (.int 1)))))) (sBM "list" a9 none (eV 5) (ae (i6 (ae (eV 3) (ae (eV 6) al))) al)) gH)))) (bX (i6 (ae (eV 4) (ae (eV 5) al)))))))
def bF:a6:=fnE 7 eF
def dB:Sv:=(bX (f7 (eL (dY []) (ae (eV 0) (ae (eC (.ty "int")) al))) (f7 (lD (eL (dY []) (ae (eV 0) (ae (eC (.ty "bool")) al)))) (iX (d3 .le) (d3 .le) (eV 1) (eV 0) (eV 2)))))
def a7:a6:=fnE 3 dB
def dq:Sv:=(bX (f7 (am gEq (eL fm (ae (eV 0) al)) (eC (.int 2))) (f7 (eL (sZ false) (ae (eFz (cLc (gG (eV 0)) (.nm 2) [2] (eC (.bl true)) (aM 3 a7 (ae (eV 2) (ae (eC (.int 0)) (ae (am n9 (eV 1) (eC (.int 1))) al)))))) al)) (am gNe (am bp (eV 0) (eC (.int 0))) (am bp (eV 0) (eC (.int 1)))))))
def bi:a6:=fnE 3 dq
def cn:Sv:=(a8 (sIf (lD (aM 3 a7 (ae (eV 1) (ae (eC (.int 1)) (ae (ay (eC (.rf "Net")) (mu "Net" 10)) al))))) (iA "InvalidCount" [("given",.par 0),("code",.cst "InvalidCount")] 1 (ae (eV 1) al)) gH) (a8 (j2 (fJ (ae (eV 2) al)) (.tp [3,4]) (sIf (lD (aM 2 bi (ae (eV 4) (ae (eV 1) al)))) (iA "InvalidEdge" [("at",.par 0),("code",.cst "InvalidEdge")] 1 (ae (eV 3) al)) gH)) (a8 (eJ ["Net"] "own_nodes" (eV 1) (eV 0)) (a8 (eJ ["Net"] "lines" (eFz (tj 2 (cSs (gG (eV 2)) (.nm 4) [4] (eC (.bl true)) (i6 (ae (eL (iZ false) (ae (eV 4) al)) (ae (eL (iZ true) (ae (eV 4) al)) al)))))) (eV 0)) (eJ ["Net"] "sides" (eFz (cLc (cN (ae (eV 1) al)) (.nm 5) [5] (eC (.bl true)) (eFz (cE ij (ae (eFz (cLc (gG (ay (eV 0) (eW ["Net"] "lines"))) (.nm 6) [6] (am (kR false) (eV 5) (eV 6)) (am n9 (eL nj (ae (eV 6) al)) (eV 5)))) al))))) (eV 0))))))
def aq:pT:=inE "Net" 7 cn
def dE:Sv:=(bX (ay (eV 0) (eW ["Net"] "own_nodes")))
def bS:a6:=fnE 1 dE
def dF:Sv:=(bX (eFz (cE bA (ae (ay (eV 0) (eW ["Net"] "lines")) al))))
def bq:a6:=fnE 1 dF
def cP:Sv:=(bX (eL fm (ae (ay (eV 0) (eW ["Net"] "lines")) al)))
def aY:a6:=fnE 1 cP
def cq:Sv:=(bX (eJs [(eC (.str s!"Net(")),(ay (ay (eV 0) (eW ["Net"] "own_nodes")) tc),(eC (.str s!" nodes, ")),(ay (eL fm (ae (ay (eV 0) (eW ["Net"] "lines")) al)) tc),(eC (.str s!" edges)"))] []))
def aK:a6:=fnE 1 cq
def cM:Cv:=(cE bA (ae (ay (eV 0) (eW ["Net"] "lines")) al))
def bn:ff:=fnC 1 cM
def bg:Sv:=(j2 (gG (eV 1)) (.nm 2) (sIf (lD (aM 3 a7 (ae (eV 2) (ae (eC (.int 0)) (ae (am n9 (ay (eV 0) (eW ["Net"] "own_nodes")) (eC (.int 1))) al))))) (iA "InvalidNode" [("given",.par 0),("code",.cst "InvalidNode")] 1 (ae (eV 2) al)) gH))
def aF:a6:=pY 1 (fnE 3 bg)
def eN:Sv:=(a8 (gC (fO "Net" "check_node" aF (eV 0) (ae (eV 1) al))) (bX (eFz (cE bA (ae (am bp (ay (eV 0) (eW ["Net"] "sides")) (eV 1)) al)))))
def bI:a6:=fnE 2 eN
def dN:Sv:=(bX (eFz (cLc (cN (ae (am bp (eV 0) (eC (.int 0))) al)) (.nm 2) [2] (am (kR false) (i6 (ae (eL lU (ae (eV 1) (ae (eV 2) al))) (ae (eL mF (ae (eV 1) (ae (eV 2) al))) al))) (am bp (eV 0) (eC (.int 1)))) (eV 2))))
def bt:a6:=fnE 3 dN
def c7:Cv:=(td (gC (fO "Net" "check_node" aF (eV 0) (ae (eV 1) al))) (cE bA (ae (am bp (ay (eV 0) (eW ["Net"] "sides")) (eV 1)) al)))
def bD:ff:=fnC 2 c7
def b9:Sv:=(bX (f7 (eL (dY ["Net"]) (ae (eV 1) (ae (eC (.rf "Net")) al))) (f7 (am gEq (ay (eV 0) (eW ["Net"] "own_nodes")) (ay (eV 1) (eW ["Net"] "own_nodes"))) (am gEq (ay (eV 0) (eW ["Net"] "lines")) (ay (eV 1) (eW ["Net"] "lines"))))))
def ak:a6:=fnE 2 b9
def fD:Sv:=(a8 (fj 1 (aM 1 bo (ae (eV 0) al))) (a8 (fj 2 (aM 2 bF (ae (eV 1) (ae (eC (.int 10)) al)))) (a8 (uQ (.tp [10,11]) (eV 2)) (a8 (sBx 3 (rH 3 (cLc (gG (aM 2 bE (ae (eV 1) (ae (am cJ (eV 11) (tm (eV 11) lJ (jz (eC (.int 2))))) al)))) (.nm 12) [12] (eC (.bl true)) (aM 2 bP (ae (eV 1) (ae (lc (ae (eV 12) (ae (ay (eV 12) sY) (ae (eFz (cE bA (ae (eV 12) al))) al)))) al)))))) (a8 (fj 4 (eL jF (ae (eV 3) al))) (a8 (fj 5 (eFz (fi 2 0 (λds _=>ds) aq (dR (ae (eV 10) (ae (eV 3) al)) al)))) (a8 (sIf (am gNe (eL jF (ae (eV 3) al)) (eV 4)) (bX (eC (.bl false))) gH) (a8 (sBM "list" gu none (eV 3) al) (a8 (fj 6 (am cJ (am cJ (am cJ (am cJ (eC (.str s!"Net(")) (eL t5 (ae (eV 10) al))) (eC (.str s!" nodes, "))) (eL t5 (ae (eL fm (ae (eV 11) al)) al))) (eC (.str s!" edges)")))) (a8 (sIf (lD (aM 2 aD (ae (lc (ae (ay (eV 5) (kS "Net" bS)) (ae (gy "Net" "edges" 1 bq (eV 5) al) (ae (eL (mo "Net" aY) (ae (eV 5) al)) (ae (eL (iy "Net" aK) (ae (eV 5) al)) al))))) (ae (lc (ae (eV 10) (ae (eV 11) (ae (eL fm (ae (eV 11) al)) (ae (eV 6) al))))) al)))) (bX (eC (.bl false))) gH) (a8 (gC (eBM "list" a9 (eBx (gN "Net" "edges" 1 bn (eV 5) al)) (ae (i6 (ae (eC (.int 0)) (ae (eC (.int 0)) al))) al))) (a8 (j2 (cN (ae (eV 10) al)) (.nm 7) (a8 (sIf (lD (aM 2 aD (ae (gy "Net" "near" 2 bI (eV 5) (ae (eV 7) al)) (ae (aM 2 bt (ae (eV 2) (ae (eV 7) al))) al)))) (bX (eC (.bl false))) gH) (gC (eBM "list" a9 (eBx (gN "Net" "near" 2 bD (eV 5) (ae (eV 7) al))) (ae (eC (.int 99)) al))))) (a8 (fj 8 (aM 2 bF (ae (eV 1) (ae (eC (.int 10)) al)))) (a8 (fj 9 (eFz (fi 0 2 (λds es=>perm [1,0] ds es) aq (dR al (ae (eL gR (ae (am bp (eV 8) (eC (.int 1))) al)) (ae (am bp (eV 8) (eC (.int 0))) al)))))) (a8 (sIf (lD (aM 2 aD (ae (lc (ae (am (ja "Net" ["Net"] ak) (eV 5) (eV 9)) (ae (am (ja "Net" ["Net"] ak) (eV 5) (eFz (fi 2 0 (λds _=>ds) aq (dR (ae (eV 10) (ae (eV 11) al)) al)))) (ae (am (ja "Net" ["Net"] ak) (eV 5) (eV 10)) al)))) (ae (lc (ae (am gEq (eV 2) (eV 8)) (ae (eC (.bl true)) (ae (eC (.bl false)) al)))) al)))) (bX (eC (.bl false))) gH) (a8 (sIf (eOr (f7 (am gNe (eV 11) (lc al)) (am (ja "Net" ["Net"] ak) (eV 5) (eFz (fi 2 0 (λds _=>ds) aq (dR (ae (eV 10) (ae (tm (eV 11) (jz (eC (.int 1))) lJ) al)) al))))) (f7 (am (d3 .lt) (eV 10) (eC (.int 10))) (am (ja "Net" ["Net"] ak) (eV 5) (eFz (fi 2 0 (λds _=>ds) aq (dR (ae (am cJ (eV 10) (eC (.int 1))) (ae (eV 11) al)) al)))))) (bX (eC (.bl false))) gH) (bX (f7 (am gEq (gy "Net" "edges" 1 bq (eV 5) al) (eV 11)) (f7 (am gEq (gy "Net" "near" 2 bI (eV 5) (ae (eC (.int 0)) al)) (aM 2 bt (ae (eV 2) (ae (eC (.int 0)) al)))) (am gEq (ay (eC (.rf "Net")) (mu "Net" 10)) (eC (.int 10))))))))))))))))))))))
def bZ:a6:=fnE 13 fD
end
section
section
variable {fr:Fr} {hb:HB} {Q:R->HB->Prop} {i j:Int}
theorem uq:wp (iZ false [.tup [.int i,.int j]] fr hb) Q=Q (.ok (.int (if j<i then j else i))) hb:=by bv_omega
theorem tJ:wp (iZ true [.tup [.int i,.int j]] fr hb) Q=Q (.ok (.int (if i<j then j else i))) hb:=by bv_omega
theorem uc:wp (nj [.tup [.int i,.int j]] fr hb) Q=Q (.ok (.int (i+j))) hb:=by
 have e:[i,j].sum=i+j:=by simp
 rw[<-e]
 bv_omega
theorem vC:wp (dY [] [.int i,.ty "int"] fr hb) Q=Q (.ok (.bl true)) hb:=by bv_omega
theorem ui:wp (dY [] [.int i,.ty "bool"] fr hb) Q=Q (.ok (.bl false)) hb:=by bv_omega
end
theorem kj{i a b:Int}{hb:HB}{Q:R->HB->Prop}(h1:a<=i)(h2:i<=b)(hq:Q (.ok (.bl true)) hb):wp (a7 [.int i,.int a,.int b] hb) Q:=by
 unfold a7 dB
 rw[wpF]
 show wp (bX _ [.sh (.int i),.sh (.int a),.sh (.int b)] hb) _
 simp! only[vC,ui,Ord4.i,h1,h2]
 exact hq
/-- an edge between two nodes -/
def Ed(n:Int)(p:IP):Prop:=0<=p.1/\p.1<n/\0<=p.2/\p.2<n/\¬p.1=p.2
theorem sH{n:Int}{p:IP}{hb:HB}{Q:R->HB->Prop}(h:Ed n p)(hq:Q (.ok (.bl true)) hb):wp (bi [dP p,.int n] hb) Q:=by
 obtain⟨h1,h2,h3,h4,h5⟩:=h
 unfold bi dq
 rw[wpF]
 show wp (bX _ [.sh (.tup [.int p.1,.int p.2]),.sh (.int n),.un] hb) _
 have i0:L2.atI [D.int p.1,.int p.2] 0=some (.int p.1):=rfl
 have i1:L2.atI [D.int p.1,.int p.2] 1=some (.int p.2):=rfl
 have hz:=bv
 have ne:decide (p.1=p.2)=false:=decide_eq_false h5
 have two:decide (((1+1:Nat):Int)=2)=true:=rfl
 simp! only[two,Nat.reduceAdd,Int.cast_ofNat_Int]
 refine dC (g:=D.int) (λ_=>true) (λ_=>D.bl true) [p.1,p.2] [] (λa ha=>⟨_,rfl,?_,λ_=>⟨?_,rfl⟩⟩) (by simp only[List.length_nil,List.length_cons]; omega) ?_
 .ac_nf
  exact⟨trivial,trivial⟩
 .ac_nf
  have hab:0<=a/\a<=n - 1:=by
   simp only[List.mem_cons,List.not_mem_nil,or_false] at ha
   rcases ha with rfl|rfl
   .exact⟨h1,by omega⟩
   .exact⟨h3,by omega⟩
  exact kj hab.1 hab.2 ⟨rfl,rfl⟩
 rw[ed (n:=0) (λd hd=>by
  rw[List.nil_append] at hd
  obtain⟨a,_,rfl⟩:=List.mem_map.mp hd
  rfl)]
 simp! only[nc,i0,i1,ne]
 exact hq
theorem oO{n:Int}{p:IP}{hb:HB}{Q:R->HB->Prop}(h:Ed n p)(hq:Q (.ok (.bl true)) hb):wp (bi [.lst [.int p.1,.int p.2],.int n] hb) Q:=by
 obtain⟨h1,h2,h3,h4,h5⟩:=h
 unfold bi dq
 rw[wpF]
 show wp (bX _ [.sh (.lst [.int p.1,.int p.2]),.sh (.int n),.un] hb) _
 have i0:L2.atI [D.int p.1,.int p.2] 0=some (.int p.1):=rfl
 have i1:L2.atI [D.int p.1,.int p.2] 1=some (.int p.2):=rfl
 have hz:=bv
 have ne:decide (p.1=p.2)=false:=decide_eq_false h5
 have two:decide (((1+1:Nat):Int)=2)=true:=rfl
 simp! only[two,Nat.reduceAdd,Int.cast_ofNat_Int]
 refine dC (g:=D.int) (λ_=>true) (λ_=>D.bl true) [p.1,p.2] [] (λa ha=>⟨_,rfl,?_,λ_=>⟨?_,rfl⟩⟩) (by simp only[List.length_nil,List.length_cons]; omega) ?_
 .ac_nf
  exact⟨trivial,trivial⟩
 .ac_nf
  have hab:0<=a/\a<=n - 1:=by
   simp only[List.mem_cons,List.not_mem_nil,or_false] at ha
   rcases ha with rfl|rfl
   .exact⟨h1,by omega⟩
   .exact⟨h3,by omega⟩
  exact kj hab.1 hab.2 ⟨rfl,rfl⟩
 rw[ed (n:=0) (λd hd=>by
  rw[List.nil_append] at hd
  obtain⟨a,_,rfl⟩:=List.mem_map.mp hd
  rfl)]
 simp! only[kT,i0,i1,ne]
 exact hq
theorem jV{α:Type}{t:Tg}{c el:Ev}{fr:Fr}{hb:HB}{g:α->D}(f:α->IP):∀(as:List α) (acc:List IP),(∀a∈as,∃fr1,stT t (g a) fr=some fr1/\c fr1 hb=some (.ok (.bl true),hb)/\el fr1 hb=some (.ok (dP (f a)),hb)/\smP (f a))->acc.length+as.length<64 ->
  ssL t c el (as.map g) acc fr hb=some (dD acc (as.map f),hb)
 | [],acc,_,_=>rfl
 | a::as,acc,h,hl=>by
  obtain⟨fr1,h1,h2,h3,h4⟩:=h a List.mem_cons_self
  rw[List.map_cons]
  unfold ssL
  rw[h1]
  dsimp only
  rw[h2]
  dsimp only
  rw[h3]
  dsimp only
  simp only[List.length_cons] at hl
  have hp:prD (dP (f a))=some (f a):=rfl
  rw[hp]
  dsimp only
  have ok:okP (f a) acc=true:=decide_eq_true ⟨h4.1,h4.2.1,h4.2.2.1,h4.2.2.2,by omega⟩
  rw[if_pos ok]
  have:=pJ acc (f a)
  rw[jV f as (jZ acc (f a)) (λx hx=>h x (List.mem_cons_of_mem _ hx)) (by omega)]
  rfl
end
section
abbrev nF:List String:=["own_nodes","lines","sides"]
def iV(n:Int)(es:List IP):D:=.lst ((List.range n.toNat).map λk:Nat=>.lst ((bu es (k:Int)).map .int))
def vK(n:Int)(es:List IP):O:=.ins "Net" nF [.int n,.lst (es.map dP),iV n es]
def net(n:Int)(es:List IP):D:=.ins "Net" nF [.int n,.lst (es.map dP),iV n es]
theorem j5:∀xs:List Int,iDs (xs.map D.int)=some xs
 | []=>rfl
 | x::xs=>by
  show(match iDs (xs.map D.int) with|some is=>some (x::is)|none=>none)=_
  rw[j5 xs]
theorem nR(xs:List Int):uP (xs.map D.int)=some ((hO xs).map .int):=by
 unfold uP
 rw[j5]
theorem vE{n:Int}{p:IP}(h:Ed n p)(hn:n<=10):smP (nm p):=by
 obtain⟨h1,h2,h3,h4,h5⟩:=h
 unfold smP nm
 simp only
 split<;>split<;>omega
theorem lq{n:Int}{xs:List IP}(h:∀p∈xs,Ed n p):EdOk n (cF xs):=by
 refine⟨cU xs,λq hq=> ?_⟩
 obtain⟨p,hp,rfl⟩:=linesOf_mem.mp hq
 obtain⟨h1,h2,h3,h4,h5⟩:=h p hp
 unfold nm
 simp only
 split<;>split<;>omega
theorem qU{i:Int}{p:IP}{fr:Fr}{hb:HB}{Q:R->HB->Prop}:wp (kR false (.int i) (dP p) fr hb) Q=Q (.ok (.bl (decide (i=p.1) || decide (i=p.2)))) hb:=by
 show wp (kR false (.int i) (.tup ([p.1,p.2].map D.int)) fr hb) Q=_
 rw[vM vc (de (λ_=>vc) _),iJ (f:=D.int) (λa b=>by rw[tw])]
 congr 2
 rw[Bool.false_bne]
 have:decide (i∈[p.1,p.2])=(decide (i=p.1) || decide (i=p.2)):=by
  by_cases h1:i=p.1<;>by_cases h2:i=p.2<;>simp[h1,h2]
 rw[this]
theorem c4{i:Int}(h1: -1000000<=i)(h2:i<=1000000):smI i=true:=by
 unfold smI
 have a: -(2 ^ 62:Int)<=i:=Int.le_trans (by decide) h1
 have b:i<(2 ^ 62:Int):=Int.lt_of_le_of_lt h2 (by decide)
 rw[decide_eq_true a,decide_eq_true b]; rfl
theorem sB(n:Int):eG 0 n=(List.range n.toNat).map λk:Nat=>D.int (k:Int):=by
 unfold eG
 rw[Int.sub_zero]
 exact List.map_congr_left λk _=>by rw[Int.zero_add]
/-- an edge as it is handed: a list or a tuple -/
def dQ(q:Bool×IP):D:=if q.1 then .lst [.int q.2.1,.int q.2.2] else dP q.2
theorem mz(q:Bool×IP):(dQ q).isVal=true:=by
 unfold dQ
 split<;>rfl
theorem uS:∀xs:List (Bool×IP),D.nbs (xs.map dQ)=true
 | []=>rfl
 | q::xs=>by
  rw[List.map_cons]
  unfold D.nbs
  rw[uS xs,Bool.and_true]
  unfold dQ
  split<;>rfl
def SeqQ(hb:HB)(pd:D)(xs:List (Bool×IP)):Prop:=pd=.lst (xs.map dQ)\/pd=.tup (xs.map dQ)\/∃k,pd=.box k/\hb[k]? =some (.lst (xs.map dQ))
theorem SeqQ.val{hb:HB}{pd:D}{xs:List (Bool×IP)}(h:SeqQ hb pd xs):pd.isVal=true:=by
 rcases h with rfl|rfl|⟨k,rfl,_⟩<;>rfl
theorem oM{n:Int}{q:Bool×IP}{hb:HB}{Q:R->HB->Prop}(h:Ed n q.2)(hq:Q (.ok (.bl true)) hb):wp (bi [dQ q,.int n] hb) Q:=by
 unfold dQ
 split
 .exact oO h hq
 .exact sH h hq
theorem xh{q:Bool×IP}{fr:Fr}{hb:HB}{Q:R->HB->Prop}:wp (iZ false [dQ q] fr hb) Q=Q (.ok (.int (if q.2.2<q.2.1 then q.2.2 else q.2.1))) hb:=by
 unfold dQ
 split
 .bv_omega
 .exact uq
theorem wU{q:Bool×IP}{fr:Fr}{hb:HB}{Q:R->HB->Prop}:wp (iZ true [dQ q] fr hb) Q=Q (.ok (.int (if q.2.1<q.2.2 then q.2.2 else q.2.1))) hb:=by
 unfold dQ
 split
 .bv_omega
 .exact tJ
abbrev lQ(xs:List (Bool×IP)):List IP:=cF (xs.map (·.2))
theorem ssQ{n:Int}{xs:List (Bool×IP)}{fr:Fr}{hb:HB}(h10:n<=10)(hx:∀q∈xs,Ed n q.2)(hl:xs.length<=60)(h4:4<fr.length):ssL (.nm 4) (eC (.bl true)) (i6 (ae (eL (iZ false) (ae (eV 4) al)) (ae (eL (iZ true) (ae (eV 4) al)) al))) (xs.map dQ) [] fr hb=some (dD [] ((xs.map (·.2)).map nm),hb):=by
 have e:(xs.map (·.2)).map nm=xs.map λq=>nm q.2:=by rw[List.map_map]; rfl
 rw[e]
 refine jV (g:=dQ) (λq=>nm q.2) xs [] (λq hq=>⟨fr.set 4 (.sh (dQ q)),?_,rfl,?_,vE (hx q hq) h10⟩) (by simp only[List.length_nil]; omega)
 .rfl
 .rw[<-jv]
  have e4:(fr.set 4 (.sh (dQ q)))[4]? =some (.sh (dQ q)):=by rw[List.getElem?_set_self h4]
  simp! only[xh,wU,e4,mz]
  exact⟨rfl,trivial⟩
theorem vO{hb:HB}{pd:D}{xs:List (Bool×IP)}{fr:Fr}{b:Sv}{QS:SR->HB->Prop}{i:Nat}(h:SeqQ hb pd xs)(hfr:fr[i]? =some (.sh pd))(I:Fr->Prop)(h0:I fr)
  (hst:∀(k:Nat) q f,q∈xs->I f->wp (b ((f.set 3 (.sh (.int (k:Nat)))).set 4 (.sh (dQ q))) hb) (λr h=>match r with
   | .nx f2=>I f2/\h=hb
   | _=>False)) (hq:∀f,I f->QS (.nx f) hb):wp (j2 (fJ (ae (eV i) al)) (.tp [3,4]) b fr hb) QS:=by
 have viaL:∀ds:List D,ds=xs.map dQ->wp (ft (.tp [3,4]) b (d9 ds) fr hb) QS:=by
  rintro ds rfl
  refine dJ (λdone rest f h=>done++rest=d9 (xs.map dQ)/\h=hb/\I f) [] _ _ _ ⟨rfl,rfl,h0⟩ ?_ ?_
  .rintro done d rest f h ⟨hr,rfl,hI⟩
   obtain⟨hi,rfl⟩:=p8 hr
   rw[List.length_map] at hi
   refine⟨_,rfl,?_⟩
   have z:=hst done.length xs[done.length] f (List.getElem_mem hi) hI
   rw[List.getElem_map] at hr ⊢
   refine eR z λr h2 q=> ?_
   cases r<;>first|exact q.elim|skip
   exact⟨by rw[List.append_assoc]; exact hr,q.2,q.1⟩
  .rintro done f h ⟨hr,rfl,hI⟩
   exact hq f hI
 rcases h with rfl|rfl|⟨k,rfl,hk⟩
 .simp -implicitDefEqProofs only[wpS_for,wpI_enum,wpEs_cons,wpEs_nil,wpE_v,hfr,srD]
  exact viaL _ rfl
 .simp -implicitDefEqProofs only[wpS_for,wpI_enum,wpEs_cons,wpEs_nil,wpE_v,hfr,srD]
  exact viaL _ rfl
 .simp -implicitDefEqProofs only[wpS_for,wpI_enum,wpEs_cons,wpEs_nil,wpE_v,hfr,hk]
  refine jr (n:=k) (en:=true) (xs:=xs.map dQ) (λdone rest f h=>h=hb/\I f) (λ_ _ _ h q=>by rw[q.1]; exact hk) [] _ _ _ rfl ⟨rfl,h0⟩ ?_ ?_
  .rintro done d rest f h hr ⟨rfl,hI⟩
   obtain⟨hi,rfl⟩:=mM hr.symm
   refine⟨_,rfl,?_⟩
   have z:=hst done.length xs[done.length] f (List.getElem_mem hi) hI
   refine eR z λr h2 q=> ?_
   cases r<;>first|exact q.elim|skip
   exact⟨q.2,q.1⟩
  .rintro done f h ⟨rfl,hI⟩
   exact hq f hI
/-- the sorted edges,however they are handed -/
theorem xa{n:Int}{pd:D}{xs:List (Bool×IP)}{fr:Fr}{hb:HB}(h10:n<=10)(hS:SeqQ hb pd xs)(hx:∀q∈xs,Ed n q.2)(hl:xs.length<=60)(h2:fr[2]? =some (.sh pd))(h4:4<fr.length):tj 2 (cSs (gG (eV 2)) (.nm 4) [4] (eC (.bl true)) (i6 (ae (eL (iZ false) (ae (eV 4) al)) (ae (eL (iZ true) (ae (eV 4) al)) al)))) fr hb=some (.inl (.lst ((lQ xs).map dP)),hb):=by
 have wl:∀fr:Fr,(wipeF fr [4]).length=fr.length:=λfr=>List.length_set ..
 have core:∀(fr2:Fr) (h2:HB),4<fr2.length->gG (eV 2) fr2 h2=some (.inl (.ls (xs.map dQ) true),h2)->cSs (gG (eV 2)) (.nm 4) [4] (eC (.bl true)) (i6 (ae (eL (iZ false) (ae (eV 4) al)) (ae (eL (iZ true) (ae (eV 4) al)) al))) fr2 h2=some (.inl (.lst ((lQ xs).map dP)),h2):=λfr2 h2 l2 e2=>by
  unfold cSs
  rw[e2]
  dsimp only
  rw[ssQ h10 hx hl (by rw[wl]; exact l2)]
  rfl
 have ps:∀l:List IP,(l.map dP).all (λy=>(prD y).isSome)=true:=λl=>by
  rw[List.all_map]
  exact List.all_eq_true.mpr λq _=>rfl
 unfold tj
 rcases hS with rfl|rfl|⟨k,rfl,hk⟩
 .rw[h2]
  dsimp only
  refine core fr hb h4 ?_
  unfold gG eV
  rw[h2]
 .rw[h2]
  dsimp only
  refine core fr hb h4 ?_
  unfold gG eV
  rw[h2]
 .rw[h2]
  dsimp only
  rw[hk]
  dsimp only
  rw[if_pos (uS xs),core _ [] (by rw[List.length_set,List.length_map]; exact h4) (by
   have e:((fr.map SV.nb).set 2 (.sh (.lst (xs.map dQ))))[2]? =some (.sh (.lst (xs.map dQ))):=by rw[List.getElem?_set_self (by rw[List.length_map]; omega)]
   unfold gG eV
   rw[e])]
  dsimp only
  rw[if_pos (ps _)]
theorem lG{n:Int}{xs:List (Bool×IP)}{pd:D}{hb:HB}{QO:O ⊕ Xn->HB->Prop}(h1:1<=n)(h10:n<=10)(hS:SeqQ hb pd xs)(hx:∀q∈xs,Ed n q.2)(hl:xs.length<=60)(hq:QO (.inl (vK n (lQ xs))) hb):wp (aq [.int n,pd] hb) QO:=by
 unfold aq cn
 rw[wpI]
 show wp (a8 _ _ [.ow (.ins "Net" [] []),.sh (.int n),.sh pd,.un,.un,.un,.un] hb) _
 have hz:=bv
 have hE:=lq (xs:=xs.map (·.2)) λp hp=>by
  obtain⟨q,hq,rfl⟩:=List.mem_map.mp hp
  exact hx q hq
 have vp:=hS.val
 have hfew:(lQ xs).length<=45:=iP hE h10
 refine aw (λf h=>f=[.ow (.ins "Net" [] []),.sh (.int n),.sh pd,.un,.un,.un,.un]/\hb=h) ?_ ?_
 .ac_nf
  refine kj h1 h10 ?_
  ac_nf
  exact⟨trivial,trivial⟩
 rintro f _ ⟨rfl,rfl⟩
 refine aw (λf h=>(∃s3 s4,f=[.ow (.ins "Net" [] []),.sh (.int n),.sh pd,s3,s4,.un,.un])/\hb=h) ?_ ?_
 .refine vO hS (i:=2) rfl (λf=>∃s3 s4,f=[.ow (.ins "Net" [] []),.sh (.int n),.sh pd,s3,s4,.un,.un]) ⟨_,_,rfl⟩ (λi q f hq=> ?_) λf h=>⟨h,rfl⟩
  rintro⟨s3,s4,rfl⟩
  show wp (sIf _ _ _ [.ow (.ins "Net" [] []),.sh (.int n),.sh pd,.sh (.int (i:Nat)),.sh (dQ q),.un,.un] hb) _
  simp! only[mz]
  refine oM (hx _ hq) ?_
  ac_nf
  exact⟨⟨_,_,rfl⟩,trivial⟩
 rintro f _ ⟨⟨s3,s4,rfl⟩,rfl⟩
 refine aw (λf h'=>f=[.ow (.ins "Net" ["own_nodes"] [.int n]),.sh (.int n),.sh pd,s3,s4,.un,.un]/\hb=h') ?_ ?_
 .simp -implicitDefEqProofs only[ez,wpF,wpS_seq,wpS_if,wpS_set,wpS_put,wpS_ret,wpS_nil,wpS_drop,wpS_own,wpS_fz,wpS_bx,wpS_asg,wpS_multi,wpM_nil,wpM_v,wpM_o,wpE_op2,wpE_v,wpE_c,wpE_eL,wpEs_cons,wpEs_nil,wpE_callN,wpE_callR,wpE_tup,wpE_lst,wpE_and,wpE_or,wpE_not,wpE_if,wpE_fz,wpE_bx,wpE_bind,wpE_isN,wpE_chain,wpE_cut,wpO_none,wpO_some,wpC_lst,wpC_call,wpC_lrg,wpI_val,wpI_rng1,wpI_rng2,wpI_enum,wpI_zip,wpC_lc,wpC_lc2,wpC_dc,wpS_for,wpA_args,wpC_make,wpS_bm,wpE_bm,wpE_meth,wpE_methR,wpC_meth,wpC_callC,wp_some,onOk,onL,List.getElem?_cons_succ,List.getElem?_cons_zero,List.set_cons_succ,List.set_cons_zero,allVal_cons,allVal_nil,isV_s,isV_i,isV_b,isV_n,isV_t,isV_l,isV_f,isV_d,isV_x,isV_c,isV_r,isV_y,List.length_cons,List.length_nil,Nat.zero_add,Nat.reduceAdd,beq_self_eq_true,Bool.and_true,Bool.true_and,Bool.and_self,decide_true,decide_false,if_true,Bool.not_true,Bool.not_false,dec0,dec1,dec2,dec3,dec4,rtD_s,rtD_i,rtD_b,rtD_n,rtD_t,rtD_l,rtD_x,isN_n,isN_t,isN_s,isN_i,O_dl,O_dd,O_di,v_addI,v_sub,v_intI,v_ordI,v_ordS,v_lenL,v_lenT,v_min2S,v_max2S,v_min2I,v_max2I,v_cutT,v_cutL,v_eqI,v_neI,v_eqS,v_neS,v_eqB,v_neB,v_cint,v_inCh,bne_self_eq_false,Bool.false_bne,Bool.true_bne,Bool.bne_false,Bool.bne_true,stT,stAll,stMI,wipeF,Option.map_some,Option.map_none,wpO_s,wpO_n,rdO,List.contains_cons,Bool.true_or,rD,wrO,bw]
  exact⟨trivial,trivial⟩
 rintro f _ ⟨rfl,rfl⟩
 refine aw (λf h'=>f=[.ow (.ins "Net" ["own_nodes","lines"] [.int n,.lst ((lQ xs).map dP)]),.sh (.int n),.sh pd,s3,s4,.un,.un]/\hb=h') ?_ ?_
 .have key:wp (tj 2 (cSs (gG (eV 2)) (.nm 4) [4] (eC (.bl true)) (i6 (ae (eL (iZ false) (ae (eV 4) al)) (ae (eL (iZ true) (ae (eV 4) al)) al)))) [.ow (.ins "Net" ["own_nodes"] [.int n]),.sh (.int n),.sh pd,s3,s4,.un,.un] hb)=wp (some (.inl (.lst ((lQ xs).map dP)),hb)):=by rw[xa (fr:=[.ow (.ins "Net" ["own_nodes"] [.int n]),.sh (.int n),.sh pd,s3,s4,.un,.un]) h10 hS hx hl rfl (show 4<7 by decide)]
  simp -implicitDefEqProofs only[ez,wpF,wpS_seq,wpS_if,wpS_set,wpS_put,wpS_ret,wpS_nil,wpS_drop,wpS_own,wpS_fz,wpS_bx,wpS_asg,wpS_multi,wpM_nil,wpM_v,wpM_o,wpE_op2,wpE_v,wpE_c,wpE_eL,wpEs_cons,wpEs_nil,wpE_callN,wpE_callR,wpE_tup,wpE_lst,wpE_and,wpE_or,wpE_not,wpE_if,wpE_fz,wpE_bx,wpE_bind,wpE_isN,wpE_chain,wpE_cut,wpO_none,wpO_some,wpC_lst,wpC_call,wpC_lrg,wpI_val,wpI_rng1,wpI_rng2,wpI_enum,wpI_zip,wpC_lc,wpC_lc2,wpC_dc,wpS_for,wpA_args,wpC_make,wpS_bm,wpE_bm,wpE_meth,wpE_methR,wpC_meth,wpC_callC,wp_some,onOk,onL,List.getElem?_cons_succ,List.getElem?_cons_zero,List.set_cons_succ,List.set_cons_zero,allVal_cons,allVal_nil,isV_s,isV_i,isV_b,isV_n,isV_t,isV_l,isV_f,isV_d,isV_x,isV_c,isV_r,isV_y,List.length_cons,List.length_nil,Nat.zero_add,Nat.reduceAdd,beq_self_eq_true,Bool.and_true,Bool.true_and,Bool.and_self,decide_true,decide_false,if_true,Bool.not_true,Bool.not_false,dec0,dec1,dec2,dec3,dec4,rtD_s,rtD_i,rtD_b,rtD_n,rtD_t,rtD_l,rtD_x,isN_n,isN_t,isN_s,isN_i,O_dl,O_dd,O_di,v_addI,v_sub,v_intI,v_ordI,v_ordS,v_lenL,v_lenT,v_min2S,v_max2S,v_min2I,v_max2I,v_cutT,v_cutL,v_eqI,v_neI,v_eqS,v_neS,v_eqB,v_neB,v_cint,v_inCh,bne_self_eq_false,Bool.false_bne,Bool.true_bne,Bool.bne_false,Bool.bne_true,stT,stAll,stMI,wipeF,Option.map_some,Option.map_none,wpO_s,wpO_n,key,rdO,List.contains_cons,Bool.true_or,wrO,bw,show decide (1<1000)=true from rfl,show ¬("own_nodes"="lines") from by decide,if_false]
  first|exact⟨rfl,trivial⟩|exact⟨trivial,trivial⟩
 rintro f _ ⟨rfl,rfl⟩
 have fl:∀{x5 x6:SV} {Q:R->HB->Prop},wp (eW ["Net"] "lines" (.loc 0) [.ow (.ins "Net" ["own_nodes","lines"] [.int n,.lst ((lQ xs).map dP)]),.sh (.int n),.sh pd,s3,s4,x5,x6] hb) Q=Q (.ok (.lst ((lQ xs).map dP))) hb:=λ{x5 x6 Q}=>by
  rw[t9 (c:="Net") (fs:=["own_nodes","lines"]) (vs:=[.int n,.lst ((lQ xs).map dP)]) rfl]
  rfl
 simp -implicitDefEqProofs only[ez,wpF,wpS_seq,wpS_if,wpS_set,wpS_put,wpS_ret,wpS_nil,wpS_drop,wpS_own,wpS_fz,wpS_bx,wpS_asg,wpS_multi,wpM_nil,wpM_v,wpM_o,wpE_op2,wpE_v,wpE_c,wpE_eL,wpEs_cons,wpEs_nil,wpE_callN,wpE_callR,wpE_tup,wpE_lst,wpE_and,wpE_or,wpE_not,wpE_if,wpE_fz,wpE_bx,wpE_bind,wpE_isN,wpE_chain,wpE_cut,wpO_none,wpO_some,wpC_lst,wpC_call,wpC_lrg,wpI_val,wpI_rng1,wpI_rng2,wpI_enum,wpI_zip,wpC_lc,wpC_lc2,wpC_dc,wpS_for,wpA_args,wpC_make,wpS_bm,wpE_bm,wpE_meth,wpE_methR,wpC_meth,wpC_callC,wp_some,onOk,onL,List.getElem?_cons_succ,List.getElem?_cons_zero,List.set_cons_succ,List.set_cons_zero,allVal_cons,allVal_nil,isV_s,isV_i,isV_b,isV_n,isV_t,isV_l,isV_f,isV_d,isV_x,isV_c,isV_r,isV_y,List.length_cons,List.length_nil,Nat.zero_add,Nat.reduceAdd,beq_self_eq_true,Bool.and_true,Bool.true_and,Bool.and_self,decide_true,decide_false,if_true,Bool.not_true,Bool.not_false,dec0,dec1,dec2,dec3,dec4,rtD_s,rtD_i,rtD_b,rtD_n,rtD_t,rtD_l,rtD_x,isN_n,isN_t,isN_s,isN_i,O_dl,O_dd,O_di,v_addI,v_sub,v_intI,v_ordI,v_ordS,v_lenL,v_lenT,v_min2S,v_max2S,v_min2I,v_max2I,v_cutT,v_cutL,v_eqI,v_neI,v_eqS,v_neS,v_eqB,v_neB,v_cint,v_inCh,bne_self_eq_false,Bool.false_bne,Bool.true_bne,Bool.bne_false,Bool.bne_true,stT,stAll,stMI,wipeF,Option.map_some,Option.map_none,wpO_s,wpO_n,c4 (show -1000000<=n by omega) (show n<=1000000 by omega),sB]
 refine dC (g:=λk:Nat=>D.int (k:Int)) (λ_=>true) (λk:Nat=>D.lst ((bu (lQ xs) (k:Int)).map .int)) (List.range n.toNat) [] (λk hk=>⟨_,rfl,?_,λ_=>⟨?_,rfl⟩⟩) (by simp only[List.length_nil,List.length_range]; omega) ?_
 .ac_nf
  exact⟨trivial,trivial⟩
 .simp! only[fl]
  refine dC (g:=dP) (λp=>decide ((k:Int)=p.1) || decide ((k:Int)=p.2)) (λp=>D.int (p.1+p.2 - (k:Int))) (lQ xs) [] (λp hp=>⟨_,rfl,?_,λ_=>⟨?_,rfl⟩⟩) (by simp only[List.length_nil]; omega) ?_
  .simp! only[qU]
   exact⟨trivial,trivial⟩
  .have su:∀{fr:Fr} {hb:HB} {Q:R->HB->Prop},wp (nj [dP p] fr hb) Q=Q (.ok (.int (p.1+p.2))) hb:=λ{_ _ _}=>uc
   simp! only[su]
   exact⟨trivial,trivial⟩
  have eg:∀{fr:Fr} {hb:HB},ij [.lst ((((lQ xs).filter λp=>decide ((k:Int)=p.1) || decide ((k:Int)=p.2)).map λp=>D.int (p.1+p.2 - (k:Int))))] fr hb=some ((bu (lQ xs) (k:Int)).map .int):=λ{fr hb}=>by
   show uP _=_
   have:(((lQ xs).filter λp=>decide ((k:Int)=p.1) || decide ((k:Int)=p.2)).map λp=>D.int (p.1+p.2 - (k:Int)))=((((lQ xs).filter λp=>decide ((k:Int)=p.1) || decide ((k:Int)=p.2)).map λp=>p.1+p.2 - (k:Int))).map D.int:=by rw[List.map_map]; rfl
   rw[this,nR]
   rfl
  simp! only[List.nil_append,eg]
  exact⟨trivial,trivial⟩
 have ef:(List.range n.toNat).filter (λ_=>true)=List.range n.toNat:=by simp
 simp! only[List.nil_append,ef,rdO,List.contains_cons,Bool.true_or,wrO,bw,show decide (2<1000)=true from rfl,show ¬("own_nodes"="sides") from by decide,show ¬("lines"="sides") from by decide,if_false]
 exact hq
end
section
section
variable {n:Int} {es:List IP} {hb:HB} {Q:R->HB->Prop} {fr:Fr} {fev:a6}
theorem lM:(net n es).isVal=true:=rfl
theorem gc{m:String}(h:¬m="own_nodes"/\¬m="lines"/\¬m="sides"):mOk "Net" m fr hb (net n es)=true:=by unfold mOk i9 net; simpa using h
theorem wJ:mOk "Net" "check_node" fr hb (net n es)=true:=gc (by decide)
theorem w6:mOk "Net" "check_ends" fr hb (net n es)=true:=gc (by decide)
theorem vF:mOk "Net" "edges" fr hb (net n es)=true:=gc (by decide)
theorem vY:mOk "Net" "near" fr hb (net n es)=true:=gc (by decide)
theorem ew:wp (eW ["Net"] "own_nodes" (net n es) fr hb) Q=Q (.ok (.int n)) hb:=by
 unfold net; rw[sj]; rfl
theorem dg:wp (eW ["Net"] "lines" (net n es) fr hb) Q=Q (.ok (.lst (es.map dP))) hb:=by
 unfold net; rw[sj]; rfl
theorem nX:wp (eW ["Net"] "sides" (net n es) fr hb) Q=Q (.ok (iV n es)) hb:=by
 unfold net; rw[sj]; rfl
theorem gh{as:List D}{k:D->HB->Option (R×HB)}(h:av as=true):wp (lF "Net" fev (net n es) as k fr hb) Q=wp (fev as hb) (λr h=>match r with
 | .ok x=>wp (k x h) Q
 | _=>False):=by
 have e:lF "Net" fev (net n es) as k fr hb=match fev as hb with
  | some (.ok x,hb1)=>k x hb1
  | _=>none:=by
  unfold lF
  rw[h,lM]
  rfl
 rw[e]
 rcases fev as hb with _|⟨r|x,h⟩
 .simp only[ax]
 .simp only[wp_some]
 .simp only[wp_some,ax]
theorem pZ:wp (kS "Net" fev (net n es) fr hb) Q=wp (fev [net n es] hb) (λr h=>match r with
 | .ok x=>Q (.ok x) h
 | _=>False):=by
 have e:kS "Net" fev (net n es) fr hb=match fev [net n es] hb with
  | some (.ok x,hb1)=>some (.ok x,hb1)
  | _=>none:=by
  unfold kS
  rw[lM]
  rfl
 rw[e]
 rcases fev [net n es] hb with _|⟨r|x,h⟩
 .simp only[ax]
 .simp only[wp_some]
 .simp only[wp_some,ax]
theorem oU:wp (bS [net n es] hb) Q=Q (.ok (.int n)) hb:=by
 unfold bS dE
 rw[wpF]
 show wp (bX _ [.sh (net n es)] hb) _=_
 simp! only[ew]
theorem j4:wp (bq [net n es] hb) Q=Q (.ok (.lst (es.map dP))) hb:=by
 unfold bq dF
 rw[wpF]
 show wp (bX _ [.sh (net n es)] hb) _=_
 have eg:∀{xs:List D} {fr:Fr} {hb:HB},bA [.lst xs] fr hb=some xs:=λ{_ _ _}=>rfl
 simp! only[dg,eg]
theorem rW(h:es.length<=100000)(hq:Q (.ok (.int es.length)) hb):wp (mo "Net" aY [net n es] fr hb) Q:=by
 show wp (lF "Net" aY (net n es) [net n es] vZ fr hb) Q
 rw[gh (by rfl)]
 unfold aY cP
 rw[wpF]
 show wp (bX _ [.sh (net n es)] hb) _
 simp! only[dg,List.length_map]
 show wp (if decide (0<=(es.length:Int)) && decide ((es.length:Int)<9223372036854775808) then some (R.ok (.int es.length),hb) else none) Q
 rw[if_pos (by simp only[Bool.and_eq_true,decide_eq_true_eq]; omega)]
 exact i4 hq
theorem km(p q:IP):deq (dP p) (dP q)=decide (p=q):=by
 unfold dP
 rw[wG]
 simp only[iR,j9,tw,Bool.and_true]
 by_cases h1:p.1=q.1<;>by_cases h2:p.2=q.2
 .rw[decide_eq_true h1,decide_eq_true h2,decide_eq_true (Prod.ext h1 h2)]; rfl
 .rw[decide_eq_false h2,decide_eq_false (λe:p=q=>h2 (by rw[e])),Bool.and_false]
 .rw[decide_eq_false h1,decide_eq_false (λe:p=q=>h1 (by rw[e])),Bool.false_and]
 .rw[decide_eq_false h1,decide_eq_false (λe:p=q=>h1 (by rw[e])),Bool.false_and]
theorem gP{k:Nat}(p:IP):dat (k+1) (dP p)=true:=by
 unfold dP
 rw[wB]; simp
theorem f0(es:List IP):dat 64 (.lst (es.map dP))=true:=by
 rw[vh]; exact de (λp=>gP (k:=62) p) es
theorem vW{es fs:List IP}:wp (gEq (.lst (es.map dP)) (.lst (fs.map dP)) fr hb) Q=Q (.ok (.bl (decide (es=fs)))) hb:=by
 rw[sx (by rw[rzL]; exact f0 es) (by rw[rzL]; exact f0 fs)]
 simp only[rzL,uN]
 rw[cW km]
theorem xg{es fs:List IP}:wp (gNe (.lst (es.map dP)) (.lst (fs.map dP)) fr hb) Q=Q (.ok (.bl (!decide (es=fs)))) hb:=by
 rw[uB (by rw[rzL]; exact f0 es) (by rw[rzL]; exact f0 fs)]
 simp only[rzL,uN]
 rw[cW km]
theorem w5{p:IP}{neg:Bool}:wp (kR neg (dP p) (.lst (es.map dP)) fr hb) Q=Q (.ok (.bl (neg != decide (p∈es)))) hb:=by
 rw[vD (gP p) (de (λp=>gP (k:=62) p) es),iJ km]
 exact congrArg (λb=>Q (.ok (.bl (neg != b))) hb) (decide_eq_decide.mpr Iff.rfl)
theorem mZ{i:Int}(h0:0<=i)(h1:i<n):wp (bp (iV n es) (.int i) fr hb) Q=Q (.ok (.lst ((bu es i).map .int))) hb:=by
 unfold iV
 rw[kT]
 have hl:i.toNat<n.toNat:=by omega
 have e:L2.atI ((List.range n.toNat).map λk:Nat=>D.lst ((bu es (k:Int)).map .int)) i=some (.lst ((bu es i).map .int)):=by
  rw[show i=((i.toNat:Nat):Int) by omega,jQ,List.getElem?_map,List.getElem?_range hl]
  rfl
 rw[e]
 exact wpO_s
end
/-- nodes are nodes -/
theorem qO{n:Int}{es:List IP}{xs:List Int}{hb:HB}{Q:R->HB->Prop}(hin:∀i∈xs,0<=i/\i<n)(hl:xs.length<=10)(hq:Q (.ok .non) hb):wp (aF (net n es::xs.map .int) hb) Q:=by
 have e:aF (net n es::xs.map .int) hb=fnE 3 bg [net n es,.tup (xs.map .int)] hb:=by
  unfold aF pY
  have:=bv
  simp
  intro z
  omega
 rw[e,wpF]
 unfold bg
 show wp (j2 _ _ _ [.sh (net n es),.sh (.tup (xs.map .int)),.un] hb) _
 ac_nf
 refine dJ (λdone rest f h=>(∃s,f=[.sh (net n es),.sh (.tup (xs.map .int)),s])/\h=hb/\done++rest=xs.map .int) [] _ _ _ ⟨⟨_,rfl⟩,rfl,rfl⟩ ?_ ?_
 .rintro done d rest f h ⟨⟨s,rfl⟩,rfl,hr⟩
  refine⟨_,rfl,?_⟩
  obtain⟨i,hi,rfl⟩:∃i,i∈xs/\D.int i=d:=by
   have:d∈xs.map D.int:=by rw[<-hr]; simp
   exact List.mem_map.mp this
  simp! only[ew]
  refine kj (hin i hi).1 (by have:=(hin i hi).2; omega) ?_
  ac_nf
  exact⟨⟨_,rfl⟩,trivial,by rw[List.append_assoc]; exact hr⟩
 .rintro done f h ⟨_,rfl,_⟩
  exact hq
theorem mC{n:Int}{es:List IP}{i:Int}{hb:HB}{Q:R->HB->Prop}(h0:0<=i)(h1:i<n)(hq:Q (.ok (.lst ((bu es i).map .int))) hb):wp (bI [net n es,.int i] hb) Q:=by
 unfold bI eN
 rw[wpF]
 show wp (a8 _ _ [.sh (net n es),.sh (.int i)] hb) _
 have eg:∀{xs:List D} {fr:Fr} {hb:HB},bA [.lst xs] fr hb=some xs:=λ{_ _ _}=>rfl
 simp! only[wJ,w6]
 refine qO (xs:=[i]) (λk hk=> ?_) (by simp) ?_
 .rw[List.mem_singleton] at hk
  rw[hk]; exact⟨h0,h1⟩
 simp! only[nX,mZ h0 h1,eg]
 exact hq
end
section
theorem jS{n i:Int}{es:List IP}{hb:HB}{Q:R->HB->Prop}(h0:0<=n)(h10:n<=10)(hE:EdOk n es)(hq:Q (.ok (.lst ((bu es i).map .int))) hb):wp (bt [.tup [.int n,.lst (es.map dP)],.int i] hb) Q:=by
 unfold bt dN
 rw[wpF]
 show wp (bX _ [.sh (.tup [.int n,.lst (es.map dP)]),.sh (.int i),.un] hb) _
 have hz:=bv
 have i0:L2.atI [D.int n,.lst (es.map dP)] 0=some (.int n):=rfl
 have i1:L2.atI [D.int n,.lst (es.map dP)] 1=some (.lst (es.map dP)):=rfl
 simp! only[nc,i0,c4 (show -1000000<=n by omega) (show n<=1000000 by omega),sB]
 refine dC (g:=λk:Nat=>D.int (k:Int)) (λk:Nat=>decide (nm (i,(k:Int))∈es)) (λk:Nat=>D.int (k:Int)) (List.range n.toNat) [] (λk hk=>⟨_,rfl,?_,λ_=>⟨?_,rfl⟩⟩) (by simp only[List.length_nil,List.length_range]; omega) ?_
 .simp! only[nc,i1]
  have e:(D.tup [.int (if (k:Int)<i then (k:Int) else i),.int (if (k:Int) > i then (k:Int) else i)])=dP (nm (i,(k:Int))):=rfl
  rw[e,w5]
  exact⟨by rw[Bool.false_bne],rfl⟩
 .ac_nf
  exact⟨trivial,trivial⟩
 simp! only[List.nil_append]
 have hE':EdOk ((n.toNat:Nat):Int) es:=by rw[show((n.toNat:Nat):Int)=n by omega]; exact hE
 have:=rR hE' i
 rw[this,List.filter_map,List.map_map] at hq
 exact hq
end
section
theorem pb{es:List IP}{p:IP}(h:es.Pairwise lx)(hp:∀q∈es,lx q p):(es++[p]).Pairwise lx:=by
 rw[List.pairwise_append]
 exact⟨h,by simp,λa ha b hb=>by rw[List.mem_singleton] at hb; rw[hb]; exact hp a ha⟩
theorem m9 {top:Int}{hb:HB}{k:Nat}{Q:R->HB->Prop}(ht1:1<=top)(ht:top<=10)(hB:Box hb k)(hq:∀n es hb',1<=n->n<=top->EdOk n es->Box hb' k->Ext k hb hb'->Q (.ok (.tup [.int n,.lst (es.map dP)])) hb'):wp (bF [.box k,.int top] hb) Q:=by
 unfold bF eF
 rw[wpF]
 show wp (a8 _ _ [.sh (.box k),.sh (.int top),.un,.un,.un,.un,.un] hb) _
 have hz:=bv
 refine aw (λf h=>∃n,1<=n/\n<=top/\f=[.sh (.box k),.sh (.int top),.un,.un,.sh (.int n),.ow (.lst []),.un]/\Box h k/\Ext k hb h) ?_ ?_
 .ac_nf
  refine eK hB (by omega) (by omega) λr hb' r0 r1 hB' hE=> ?_
  ac_nf
  exact⟨1+r,by omega,by omega,rfl,hB',hE⟩
 rintro f h ⟨n,n1,n2,rfl,hB1,hE1⟩
 refine aw (λf h=>∃w,0<=w/\w<4/\f=[.sh (.box k),.sh (.int top),.sh (.int w),.un,.sh (.int n),.ow (.lst []),.un]/\Box h k/\Ext k hb h) ?_ ?_
 .ac_nf
  refine eK hB1 (by decide) (by decide) λr hb' r0 r1 hB' hE=> ?_
  ac_nf
  exact⟨r,r0,r1,rfl,hB',hE1.trans hE⟩
 rintro f h ⟨w,w0,w1,rfl,hB2,hE2⟩
 obtain⟨v,hv⟩:∃v:Int,L2.atI [D.int 1,.int 2,.int 3,.int 2] w=some (.int v):=by
  have:w=0\/w=1\/w=2\/w=3:=by omega
  rcases this with rfl|rfl|rfl|rfl
  .exact⟨1,rfl⟩
  .exact⟨2,rfl⟩
  .exact⟨3,rfl⟩
  .exact⟨2,rfl⟩
 have sn:smI n=true:=c4 (by omega) (by omega)
 refine aw (λf h=>∃es s3 s6,EdOk n es/\f=[.sh (.box k),.sh (.int top),.sh (.int w),s3,.sh (.int n),.sh (.lst (es.map dP)),s6]/\Box h k/\Ext k hb h) ?_ ?_
 .have body : wp (j2 (cN (ae (eV 4) al)) (.nm 3) (j2 (fQ (ae (am cJ (eV 3) (eC (.int 1))) (ae (eV 4) al))) (.nm 6) (sIf (eOr (am (d3 .lt) (aM 2 aE (ae (eV 0) (ae (eC (.int 5)) al))) (am bp (lc (ae (eC (.int 1)) (ae (eC (.int 2)) (ae (eC (.int 3)) (ae (eC (.int 2)) al))))) (eV 2))) (f7 (am (d3 .gt) (eV 2) (eC (.int 1))) (am gEq (eV 3) (am n9 (eV 6) (eC (.int 1)))))) (sBM "list" a9 none (eV 5) (ae (i6 (ae (eV 3) (ae (eV 6) al))) al)) gH)) [.sh (.box k),.sh (.int top),.sh (.int w),.un,.sh (.int n),.ow (.lst []),.un] h) (λr h=>match r with
    | .nx f=>∃es s3 s6,EdOk n es/\f=[.sh (.box k),.sh (.int top),.sh (.int w),s3,.sh (.int n),.ow (.lst (es.map dP)),s6]/\Box h k/\Ext k hb h
    | _=>False):=by
   simp! only[sn]
   refine dJ (λdone rest f h=>done++rest=eG 0 n/\∃es s3 s6,f=[.sh (.box k),.sh (.int top),.sh (.int w),s3,.sh (.int n),.ow (.lst (es.map dP)),s6]/\es.Pairwise lx/\(∀p∈es,0<=p.1/\p.1<p.2/\p.2<n/\p.1<(done.length:Int))/\Box h k/\Ext k hb h) [] _ _ _ ⟨rfl,[],_,_,rfl,List.Pairwise.nil,λp hp=>(List.not_mem_nil hp).elim,hB2,hE2⟩ ?_ ?_
   .rintro done d rest f h ⟨hr,es,s3,s6,rfl,hA,hL,hB3,hE3⟩
    obtain⟨rfl,hi⟩:=nL hr
    rw[Int.zero_add] at hi ⊢
    refine⟨_,rfl,?_⟩
    have s1:smI ((done.length:Int)+1)=true:=c4 (by omega) (by omega)
    simp! only[sn,s1]
    refine dJ (λdone2 rest2 f h=>done2++rest2=eG ((done.length:Int)+1) n/\∃es s6,f=[.sh (.box k),.sh (.int top),.sh (.int w),.sh (.int (done.length:Int)),.sh (.int n),.ow (.lst (es.map dP)),s6]/\es.Pairwise lx/\(∀p∈es,0<=p.1/\p.1<p.2/\p.2<n/\(p.1<(done.length:Int)\/(p.1=(done.length:Int)/\p.2<(done.length:Int)+1+(done2.length:Int))))/\Box h k/\Ext k hb h) [] _ _ _ ⟨rfl,es,_,rfl,hA,λp hp=>by have:=hL p hp; exact⟨this.1,this.2.1,this.2.2.1,.inl this.2.2.2⟩,hB3,hE3⟩ ?_ ?_
    .rintro done2 d rest2 f h ⟨hr2,es,s6,rfl,hA,hL,hB4,hE4⟩
     obtain⟨rfl,hj⟩:=nL hr2
     refine⟨_,rfl,?_⟩
     ac_nf
     refine eK hB4 (by decide) (by decide) λr hb5 r0 r1 hB5 hE5=> ?_
     have stay:∀es:List IP,es.Pairwise lx->(∀p∈es,0<=p.1/\p.1<p.2/\p.2<n/\(p.1<(done.length:Int)\/(p.1=(done.length:Int)/\p.2<(done.length:Int)+1+((done2++[D.int ((done.length:Int)+1+(done2.length:Int))]).length:Int))))->((done2++[D.int ((done.length:Int)+1+(done2.length:Int))])++rest2=eG ((done.length:Int)+1) n/\∃(es':List IP) (s6:SV),([.sh (.box k),.sh (.int top),.sh (.int w),.sh (.int (done.length:Int)),.sh (.int n),.ow (.lst (es.map dP)),.sh (.int ((done.length:Int)+1+(done2.length:Int)))]:Fr)=[.sh (.box k),.sh (.int top),.sh (.int w),.sh (.int (done.length:Int)),.sh (.int n),.ow (.lst (es'.map dP)),s6]/\es'.Pairwise lx/\(∀p∈es',0<=p.1/\p.1<p.2/\p.2<n/\(p.1<(done.length:Int)\/(p.1=(done.length:Int)/\p.2<(done.length:Int)+1+((done2++[D.int ((done.length:Int)+1+(done2.length:Int))]).length:Int))))/\Box hb5 k/\Ext k hb hb5) :=
      λes g1 g2=>⟨by rw[List.append_assoc]; exact hr2,es,_,rfl,g1,g2,hB5,hE4.trans hE5⟩
     have old:∀p∈es,0<=p.1/\p.1<p.2/\p.2<n/\(p.1<(done.length:Int)\/(p.1=(done.length:Int)/\p.2<(done.length:Int)+1+((done2++[D.int ((done.length:Int)+1+(done2.length:Int))]).length:Int))):=λp hp=>by
      have:=hL p hp
      rw[List.length_append,List.length_cons,List.length_nil]
      exact⟨this.1,this.2.1,this.2.2.1,by omega⟩
     have few:es.length<=45:=iP ⟨hA,λp hp=>by have:=hL p hp; exact⟨this.1,this.2.1,this.2.2.1⟩⟩ (show n<=10 by omega)
     have app:=stay (es++[((done.length:Int),(done.length:Int)+1+(done2.length:Int))]) (pb hA λq hq'=>by
      have:=hL q hq'
      unfold lx
      simp only
      omega) λp hp=>by
      rcases List.mem_append.mp hp with z|z
      .exact old p z
      .rw[List.mem_singleton] at z
       subst z
       rw[List.length_append,List.length_cons,List.length_nil]
       exact⟨by show(0:Int)<=(done.length:Int); omega,by show(done.length:Int)<(done.length:Int)+1+(done2.length:Int); omega,by show(done.length:Int)+1+(done2.length:Int)<n; omega,.inr ⟨rfl,by show(done.length:Int)+1+(done2.length:Int)<(done.length:Int)+1+((done2.length+(0+1):Nat):Int); omega⟩⟩
     have same:=stay es hA old
     rw[List.map_append] at app
     have k1:isK "list" (.loc 5) [.sh (.box k),.sh (.int top),.sh (.int w),.sh (.int (done.length:Int)),.sh (.int n),.ow (.lst (es.map dP)),.sh (.int ((done.length:Int)+1+(done2.length:Int)))] hb5=true:=by
      unfold isK rdO; rfl
     have r5:rdO [.sh (.box k),.sh (.int top),.sh (.int w),.sh (.int (done.length:Int)),.sh (.int n),.ow (.lst (es.map dP)),.sh (.int ((done.length:Int)+1+(done2.length:Int)))] hb5 (.loc 5)=some (.lst (es.map dP)):=by
      unfold rdO; rfl
     have o5:a9 (.lst (es.map dP)) [D.tup [.int (done.length:Int),.int ((done.length:Int)+1+(done2.length:Int))]]=some (.lst (es.map dP++[D.tup [.int (done.length:Int),.int ((done.length:Int)+1+(done2.length:Int))]]),.non):=by
      show(if (es.map dP).length<szL then some (O.lst (es.map dP++[_]),D.non) else none)=_
      rw[if_pos (by rw[List.length_map]; omega)]
     simp! only[kT,hv,Ord4.i]
     cases hd:decide (r<v) with
     | true =>
      simp! only[k1,r5,o5,toN,wrO]
      exact app
     | false =>
      simp! only[Ord4.i]
      cases hd2:decide (w > 1) with
      | false =>
       ac_nf
       exact same
      | true =>
       ac_nf
       cases hd3:decide ((done.length:Int)=(done.length:Int)+1+(done2.length:Int) - 1) with
       | false =>
        ac_nf
        exact same
       | true =>
        simp! only[k1,r5,o5,toN,wrO]
        exact app
    .rintro done2 f h ⟨hr2,es,s6,rfl,hA,hL,hB4,hE4⟩
     refine⟨by rw[List.append_assoc]; rw[Int.zero_add] at hr; exact hr,es,_,_,rfl,hA,λp hp=> ?_,hB4,hE4⟩
     have:=hL p hp
     rw[List.length_append,List.length_cons,List.length_nil]
     exact⟨this.1,this.2.1,this.2.2.1,by omega⟩
   .rintro done f h ⟨hr,es,s3,s6,rfl,hA,hL,hB3,hE3⟩
    exact⟨es,_,_,⟨hA,λp hp=>by have:=hL p hp; exact⟨this.1,this.2.1,this.2.2.1⟩⟩,rfl,hB3,hE3⟩
  rw[wpS_fz]
  refine eR body λr h z=> ?_
  cases r with
  | nx f =>
   obtain⟨es,s3,s6,g1,rfl,g2,g3⟩:=z
   exact⟨es,s3,s6,g1,rfl,g2,g3⟩
  | _=>exact z.elim
 rintro f h ⟨es,s3,s6,hEd,rfl,hB3,hE3⟩
 ac_nf
 exact hq n es h n1 n2 hEd hB3 hE3
end
section
def Tx(n:Nat)(s:Str):Prop:=∃t,au t=s/\t.length<=n
theorem Tx.lit{n:Nat}(s:String)(h:s.toList.length<=n):Tx n (Str.ofString s):=⟨s.toList,(ej s).symm,h⟩
theorem Tx.app{n m:Nat}{a b:Str}(x:Tx n a)(y:Tx m b):Tx (n+m) (a++b):=by
 obtain⟨t,rfl,ht⟩:=x
 obtain⟨u,rfl,hu⟩:=y
 exact⟨t++u,(d4 t u).symm,by rw[List.length_append]; omega⟩
theorem Tx.from:∀(ts:List Str) (k n:Nat) (acc:Str),Tx n acc->(∀x∈ts,Tx 6 x)->Tx (n+8 * ts.length) (PySem.textFrom k acc ts)
 | [],k,n,acc,ha,_=>ha
 | t ::ts,k,n,acc,ha,ht=>by
  have e:Tx 2 (Str.ofString (if k > 0 then ", " else "")):=by
   split
   .exact Tx.lit _ (by decide)
   .exact Tx.lit _ (by decide)
  have z:=Tx.from ts (k+1) (n+2+6) _ ((ha.app e).app (ht t List.mem_cons_self)) λx hx=>ht x (List.mem_cons_of_mem _ hx)
  rw[List.length_cons]
  obtain⟨u,hu,hl⟩:=z
  exact⟨u,hu,by omega⟩
def th(q:Bool×IP):Bool:=(match unC (dQ q).py.shown with
 | some t=>decide (t.length<=6)
 | none=>false) && ((dQ q).py.showable && !(dQ q).py.hasDict)
theorem oJ:∀i:Nat,i<10->∀j:Nat,j<10->∀b:Bool,th (b,((i:Int),(j:Int)))=true:=by decide +kernel
theorem sA{n:Int}{q:Bool×IP}(h:Ed n q.2)(h10:n<=10):th q=true:=by
 obtain⟨b,i,j⟩:=q
 obtain⟨h1,h2,h3,h4,_⟩:=h
 replace h1:0<=i:=h1
 replace h2:i<n:=h2
 replace h3:0<=j:=h3
 replace h4:j<n:=h4
 have z:=oJ i.toNat (by omega) j.toNat (by omega) b
 rw[Int.toNat_of_nonneg h1,Int.toNat_of_nonneg h3] at z
 exact z
theorem vV{q:Bool×IP}(h:th q=true):Tx 6 (dQ q).py.shown:=by
 unfold th at h
 cases e:unC (dQ q).py.shown with
 | none=>rw[e] at h; cases h
 | some t =>
  rw[e] at h
  obtain⟨h1,_⟩:=Bool.and_eq_true_iff.mp h
  exact⟨t,(ky e).symm,of_decide_eq_true h1⟩
theorem iz:∀xs:List (Bool×IP),(∀q∈xs,th q=true)->(∀x∈PyData.shownAll (D.pys (xs.map dQ)),Tx 6 x)/\(PyData.shownAll (D.pys (xs.map dQ))).length=xs.length/\PyData.showableAll (D.pys (xs.map dQ))=true/\PyData.hasDictAll (D.pys (xs.map dQ))=false
 | [],_=>by
  simp[D.pys,PyData.shownAll,PyData.showableAll,PyData.hasDictAll]
 | q::xs,h=>by
  obtain⟨h1,h2,h3,h4⟩:=iz xs λp hp=>h p (List.mem_cons_of_mem _ hp)
  have hq:=h q List.mem_cons_self
  have t:=vV hq
  unfold th at hq
  obtain⟨_,k⟩:=Bool.and_eq_true_iff.mp hq
  obtain⟨k1,k2⟩:=Bool.and_eq_true_iff.mp k
  simp only[List.map_cons,D.pys,PyData.shownAll,PyData.showableAll,PyData.hasDictAll,List.length_cons,h2,h3,h4,k1,Bool.and_true,Bool.or_false]
  refine⟨λx hx=> ?_,trivial,trivial,by simpa using k2⟩
  rcases List.mem_cons.mp hx with rfl|hx
  .exact t
  .exact h1 x hx
theorem uE(q:Bool×IP):dat 6 (dQ q)=true:=by
 unfold dQ
 split
 .bv_omega
 .bv_omega
/-- the boxed list is shown as some text -/
theorem nu{n:Int}{xs:List (Bool×IP)}{fr:Fr}{hb:HB}{k:Nat}(h10:n<=10)(hx:∀q∈xs,Ed n q.2)(hl:xs.length<=60)(hk:hb[k]? =some (.lst (xs.map dQ))):∃t,∀fr:Fr,jF [.box k] fr hb=some (.ok (.str t),hb):=by
 have hz:=bv
 obtain⟨h1,h2,h3,h4⟩:=iz xs λq hq=>sA (hx q hq) h10
 have e:(D.lst (xs.map dQ)).py.shown=PySem.listText (PyData.shownAll (D.pys (xs.map dQ))):=by
  simp only[D.py,PyData.shown]
 have lt:Tx (1+8 * xs.length+1) (D.lst (xs.map dQ)).py.shown:=by
  rw[e]
  have z:=Tx.from (PyData.shownAll (D.pys (xs.map dQ))) 0 1 (Str.ofString "[") (Tx.lit _ (by decide)) h1
  rw[h2] at z
  exact z.app (Tx.lit (n:=1) "]" (by decide))
 obtain⟨t,ht,hl2⟩:=lt
 have hd:dat 7 (D.lst (xs.map dQ))=true:=by
  rw[vh]
  exact de uE xs
 have s1:(D.lst (xs.map dQ)).py.showable=true:=by simp only[D.py,PyData.showable]; exact h3
 have s2:(D.lst (xs.map dQ)).py.hasDict=false:=by simp only[D.py,PyData.hasDict]; exact h4
 have s3:ku (D.lst (xs.map dQ)).py=true:=by simp only[D.py]; rfl
 refine⟨t,λfr=> ?_⟩
 unfold jF
 dsimp only
 rw[rzX hk,<-ht,pW]
 dsimp only
 rw[hd,s1,s2,s3,decide_eq_true (show t.length<=szL by omega)]
 rfl
end
section
/-- one step,over the stack (its top first) -/
def v5(c:Char)(st:List Char):List Char:=match st with
 | a::b::r=>if b=c then b::r else c::a::b::r
 | st=>c::st
def stk(st:List Char):List Char->List Char
 | []=>st
 | c::t=>stk (v5 c st) t
def red(t:List Char):List Char:=(stk [] t).reverse
/-- nothing can be cut -/
def NC:List Char->Prop
 | a::b::c::r=>a≠c/\NC (b::c::r)
 | _=>True
theorem NC.tail{a:Char}{l:List Char}(h:NC (a::l)):NC l:=by
 match l,h with
 | [],_=>trivial
 | [_],_=>trivial
 | _::_::_,h=>exact h.2
/-- what a cut keeps -/
structure Same (t s:List Char):Prop where
 red:red t=red s
 hd:t.head? =s.head?
 la:t.getLast? =s.getLast?
 ne:0<t.length->0<s.length
theorem Same.refl{t:List Char}:Same t t:=⟨rfl,rfl,rfl,id⟩
theorem Same.trans{t s r:List Char}(a:Same t s)(b:Same s r):Same t r:=⟨a.red.trans b.red,a.hd.trans b.hd,a.la.trans b.la,λh=>b.ne (a.ne h)⟩
end
section
theorem jH{xs:List D}{d:D}(h:xs.length<szL):a9 (.lst xs) [d]=some (.lst (xs++[d]),.non):=by
 show(if xs.length<szL then some (O.lst (xs++[d]),D.non) else none)=_
 rw[if_pos h]
end
section
abbrev nx1:List Char:=s!"Net("
abbrev nx2:List Char:=s!" nodes, "
abbrev nx3:List Char:=s!" edges)"
def aW(n:Int)(es:List IP):List Char:=nx1++pF n++nx2++pF (es.length:Nat)++nx3
section
variable {n m:Int} {es fs:List IP} {hb:HB} {Q:R->HB->Prop} {QO:O ⊕ Xn->HB->Prop} {fr:Fr}
theorem gn{i:Int}(h0:0<=i)(h1:i<64):(pF i).length<=10/\i.natAbs.log2<1920:=by
 have a:=pR i.toNat (by omega)
 have b:=rY (n:=i.toNat) (by omega)
 rw[Int.toNat_of_nonneg h0] at a b
 exact⟨a,b⟩
theorem pO(h1:1<=n)(h10:n<=10)(hl:es.length<=45)(hq:Q (.ok (.str (aW n es))) hb):wp (aK [net n es] hb) Q:=by
 unfold aK cq
 rw[wpF]
 show wp (bX _ [.sh (net n es)] hb) _
 have hz:=bv
 obtain⟨a1,a2⟩:=gn (i:=n) (by omega) (by omega)
 obtain⟨b1,b2⟩:=gn (i:=(es.length:Nat)) (by omega) (by omega)
 simp! only[uj,ul,ew,dg,tR,List.length_map,a2,b2]
 rw[if_pos (by simp only[List.nil_append,List.length_cons,List.length_nil]; omega),if_pos (by simp only[List.nil_append,List.length_append,List.length_cons,List.length_nil]; omega),if_pos (by simp only[List.nil_append,List.length_append,List.length_cons,List.length_nil]; omega),if_pos (by simp only[List.nil_append,List.length_append,List.length_cons,List.length_nil]; omega),if_pos (by simp only[List.nil_append,List.length_append,List.length_cons,List.length_nil]; omega)]
 unfold aW at hq
 exact hq
theorem mJ(h1:1<=n)(h10:n<=10)(hl:es.length<=45)(hq:Q (.ok (.str (aW n es))) hb):wp (iy "Net" aK [net n es] fr hb) Q:=by
 show wp (lF "Net" aK (net n es) [net n es] vX fr hb) Q
 rw[gh (by rfl)]
 refine pO h1 h10 hl ?_
 exact i4 hq
theorem fE:wp (ja "Net" ["Net"] ak (net n es) (net m fs) fr hb) Q=Q (.ok (.bl (decide (n=m) && decide (es=fs)))) hb:=by
 have e:ja "Net" ["Net"] ak (net n es) (net m fs) fr hb=lF "Net" ak (net n es) [net n es,net m fs] (kBl false) fr hb:=by
  unfold ja net
  simp[tyN,okT]
 have isi:∀{fr:Fr} {hb:HB} {Q:R->HB->Prop},wp (dY ["Net"] [net m fs,.rf "Net"] fr hb) Q=Q (.ok (.bl true)) hb:=λ{fr hb Q}=>by
  have:dY ["Net"] [net m fs,.rf "Net"] fr hb=some (.ok (.bl true),hb):=by
   unfold dY net
   simp[tyN,okT,clN,okC,qo]
  rw[this,wp_some]
 have ee:ak [net n es,net m fs] hb=some (.ok (.bl (decide (n=m) && decide (es=fs))),hb):=by
  rw[<-jv]
  unfold ak b9
  rw[wpF]
  show wp (bX _ [.sh (net n es),.sh (net m fs)] hb) _
  by_cases hn:n=m
  .simp! only[isi,ew,dg,vW,hn,decide_true]
   first|exact⟨rfl,rfl⟩|exact⟨trivial,trivial⟩
  .simp! only[isi,ew,dg,vW,decide_eq_false hn,Bool.false_and]
   first|exact⟨rfl,rfl⟩|exact⟨trivial,trivial⟩
 rw[e,gh (by rfl),ee,wp_some]
 show wp (some (R.ok (.bl (false != (decide (n=m) && decide (es=fs)))),hb)) Q=_
 rw[Bool.false_bne,wp_some]
/-- a net is no number -/
theorem sS{i:Int}:wp (ja "Net" ["Net"] ak (net n es) (.int i) fr hb) Q=Q (.ok (.bl false)) hb:=by
 have e:ja "Net" ["Net"] ak (net n es) (.int i) fr hb=lF "Net" ak (net n es) [net n es,.int i] (kBl false) fr hb:=by
  unfold ja net
  simp[tyN,okT,bTys]
 have isi:∀{fr:Fr} {hb:HB} {Q:R->HB->Prop},wp (dY ["Net"] [.int i,.rf "Net"] fr hb) Q=Q (.ok (.bl false)) hb:=λ{fr hb Q}=>by
  have:dY ["Net"] [.int i,.rf "Net"] fr hb=some (.ok (.bl false),hb):=by
   unfold dY
   simp[tyN,okT,clN,okC,qo,bTys]
  rw[this,wp_some]
 have ee:ak [net n es,.int i] hb=some (.ok (.bl false),hb):=by
  rw[<-jv]
  unfold ak b9
  rw[wpF]
  show wp (bX _ [.sh (net n es),.sh (.int i)] hb) _
  simp! only[isi]
  first|exact⟨rfl,rfl⟩|exact⟨trivial,trivial⟩
 rw[e,gh (by rfl),ee,wp_some]
 show wp (some (R.ok (.bl (false != false)),hb)) Q=_
 rw[Bool.false_bne,wp_some]
theorem nG:wp (bn [net n es] hb) QO=QO (.inl (.lst (es.map dP))) hb:=by
 unfold bn cM
 rw[wpC]
 show wp (cE _ _ [.sh (net n es)] hb) _=_
 have eg:∀{xs:List D} {fr:Fr} {hb:HB},bA [.lst xs] fr hb=some xs:=λ{_ _ _}=>rfl
 simp! only[dg,eg]
theorem oZ{i:Int}(h0:0<=i)(h1:i<n)(hq:QO (.inl (.lst ((bu es i).map .int))) hb):wp (bD [net n es,.int i] hb) QO:=by
 unfold bD c7
 rw[wpC]
 show wp (td _ _ [.sh (net n es),.sh (.int i)] hb) _
 have eg:∀{xs:List D} {fr:Fr} {hb:HB},bA [.lst xs] fr hb=some xs:=λ{_ _ _}=>rfl
 simp -implicitDefEqProofs only[qX,wpF,wpS_seq,wpS_if,wpS_set,wpS_put,wpS_ret,wpS_nil,wpS_drop,wpS_own,wpS_fz,wpS_bx,wpS_asg,wpS_multi,wpM_nil,wpM_v,wpM_o,wpE_op2,wpE_v,wpE_c,wpE_eL,wpEs_cons,wpEs_nil,wpE_callN,wpE_callR,wpE_tup,wpE_lst,wpE_and,wpE_or,wpE_not,wpE_if,wpE_fz,wpE_bx,wpE_bind,wpE_isN,wpE_chain,wpE_cut,wpO_none,wpO_some,wpC_lst,wpC_call,wpC_lrg,wpI_val,wpI_rng1,wpI_rng2,wpI_enum,wpI_zip,wpC_lc,wpC_lc2,wpC_dc,wpS_for,wpA_args,wpC_make,wpS_bm,wpE_bm,wpE_meth,wpE_methR,wpC_meth,wpC_callC,wp_some,onOk,onL,List.getElem?_cons_succ,List.getElem?_cons_zero,List.set_cons_succ,List.set_cons_zero,allVal_cons,allVal_nil,isV_s,isV_i,isV_b,isV_n,isV_t,isV_l,isV_f,isV_d,isV_x,isV_c,isV_r,isV_y,List.length_cons,List.length_nil,Nat.zero_add,Nat.reduceAdd,beq_self_eq_true,Bool.and_true,Bool.true_and,Bool.and_self,decide_true,decide_false,if_true,Bool.not_true,Bool.not_false,dec0,dec1,dec2,dec3,dec4,rtD_s,rtD_i,rtD_b,rtD_n,rtD_t,rtD_l,rtD_x,isN_n,isN_t,isN_s,isN_i,O_dl,O_dd,O_di,v_addI,v_sub,v_intI,v_ordI,v_ordS,v_lenL,v_lenT,v_min2S,v_max2S,v_min2I,v_max2I,v_cutT,v_cutL,v_eqI,v_neI,v_eqS,v_neS,v_eqB,v_neB,v_cint,v_inCh,bne_self_eq_false,Bool.false_bne,Bool.true_bne,Bool.bne_false,Bool.bne_true,stT,stAll,stMI,wipeF,Option.map_some,Option.map_none,wpO_s,wpO_n,wJ]
 refine qO (xs:=[i]) (λk hk=> ?_) (by simp) ?_
 .simp only[List.mem_cons,List.not_mem_nil,or_false] at hk
  subst hk
  exact⟨h0,h1⟩
 simp! only[nX,mZ h0 h1,eg]
 exact hq
/-- a new list that is written and left -/
theorem uk{xs:List D}{d:D}{cv:Cv}{ev:Ev}{QS:SR->HB->Prop}(h1:∀{QO:O ⊕ Xn->HB->Prop},QO (.inl (.lst xs)) hb->wp (cv fr hb) QO)(h2:∀{Q:R->HB->Prop},Q (.ok d) (hb++[.lst xs])->wp (ev fr (hb++[.lst xs])) Q)(hv:d.isVal=true)(hl:xs.length<szL)(hq:QS (.nx fr) (hb++[.lst (xs++[d])])):wp (gC (eBM "list" a9 (eBx cv) (ae ev al)) fr hb) QS:=by
 have at0:(hb++[O.lst xs])[hb.length]? =some (.lst xs):=by rw[List.getElem?_append_right (Nat.le_refl _),Nat.sub_self]; rfl
 have k3:isK "list" (.box hb.length) fr (hb++[O.lst xs])=true:=by
  unfold isK rdO
  simp only[at0]
  rfl
 rw[wpS_drop,wpE_bm,wpE_bx]
 refine h1 ?_
 dsimp only[onL,onOk]
 rw[if_pos k3,wpEs_cons]
 refine h2 ?_
 dsimp only
 rw[wpEs_nil]
 dsimp only[onL]
 rw[at0]
 dsimp only
 rw[if_pos (by rw[allVal_cons,hv,allVal_nil]; rfl),jH hl]
 dsimp only
 rw[List.set_append_right _ _ (Nat.le_refl _),Nat.sub_self]
 exact hq
/-- edges that are handed in any order,either way around,repeated -/
theorem oX{xs:List IP}(hE:EdOk n es)(h1:∀p∈xs,nm p∈es)(h2:∀e∈es,∃p∈xs,nm p=e):cF xs=es:=by
 refine kz (cU xs) hE.asc λe=> ?_
 rw[linesOf_mem]
 constructor
 .rintro⟨p,hp,rfl⟩
  exact h1 p hp
 .exact h2 e
theorem vH(l:List IP):l.map dP=(l.map λp=>(false,p)).map dQ:=by
 rw[List.map_map]; rfl
theorem uU(l:List IP):(l.map λp=>(false,p)).map (·.2)=l:=by
 rw[List.map_map]
 exact List.map_id l
end
end
section
abbrev f11(ns:List Int)(s2 s3 s4 s5 s6 s7 s8 s9 s10 s11 s12:SV):Fr:=[.sh (.fz (ns.map .int)),.sh (.box 0),s2,s3,s4,s5,s6,s7,s8,s9,s10,s11,s12]
theorem me{α:Type}(xs:List α):dU xs (some 1) none=xs.drop 1:=by
 unfold dU
 have e1:HT.sIx xs.length xs.length none=xs.length:=rfl
 cases xs with
 | nil=>rfl
 | cons x xs =>
  have e2:HT.sIx (x::xs).length 0 (some 1)=1:=by
   unfold HT.sIx
   simp
  rw[e1,e2]
  simp
def unP:D->IP
 | .tup [.int i,.int j]=>(i,j)
 | _=>(0,0)
theorem rK{ys:List D}{xs:List IP}(h:ys.Perm (xs.map dP)):∃zs:List IP,zs.Perm xs/\ys=zs.map dP:=by
 refine⟨ys.map unP,?_,?_⟩
 .have:=h.map unP
  rw[List.map_map] at this
  have e:xs.map (unP∘dP)=xs:=by
   have:(unP∘dP)=id:=rfl
   rw[this,List.map_id]
  rw[e] at this
  exact this
 .rw[List.map_map]
  have:∀y∈ys,(dP∘unP) y=y:=λy hy=>by
   obtain⟨p,_,rfl⟩:=List.mem_map.mp (h.mem_iff.mp hy)
   rfl
  exact(List.map_id ys).symm.trans (List.map_congr_left λy hy=>(this y hy).symm)
theorem up(xs:List Int)(h:xs.length<=1000000):pl 7 (.lst (xs.map .int))=true:=by
 have:(xs.map D.int).all (pl 6)=true:=by
  rw[List.all_map]; exact List.all_eq_true.mpr λ_ _=>rfl
 simp[pl,this]
 omega
theorem qV{n:Int}{p:IP}(h:Ed n p):Ed n (p.2,p.1):=⟨h.2.2.1,h.2.2.2.1,h.1,h.2.1,λe=>h.2.2.2.2 e.symm⟩
theorem uZ{n:Int}{es:List IP}(h:EdOk n es){p:IP}(hp:p∈es):Ed n p:=by
 have z:=h.low p hp
 exact⟨by omega,by omega,by omega,by omega,by omega⟩
theorem sz{p:IP}(h:p.1<p.2):nm (p.2,p.1)=p:=by
 unfold nm
 refine Prod.ext ?_ ?_
 .show(if p.1<p.2 then p.1 else p.2)=p.1
  rw[if_pos h]
 .show(if p.2<p.1 then p.1 else p.2)=p.2
  rw[if_neg (by omega)]
theorem tU{ns:List Int}(h63:ns.length<=63):∃hb,bZ [.fz (ns.map .int)] []=some (.ok (.bl true),hb):=by
 suffices wp (bZ [.fz (ns.map .int)] []) λr _=>r=.ok (.bl true) by
  obtain⟨r,hb,e,rfl⟩:=wp_ex.mp this
  exact⟨hb,e⟩
 unfold bZ fD
 rw[wpF]
 show wp (a8 _ _ [.sh (.fz (ns.map .int)),.un,.un,.un,.un,.un,.un,.un,.un,.un,.un,.un,.un] []) _
 have hz:=bv
 refine aw (λf h=>f=f11 ns .un .un .un .un .un .un .un .un .un .un .un/\Box h 0) ?_ ?_
 .ac_nf
  refine sw h63 λhb' hB=> ?_
  ac_nf
  exact⟨trivial,hB⟩
 rintro f h ⟨rfl,hB⟩
 -- the net
 refine aw (λf h=>∃n es,1<=n/\n<=10/\EdOk n es/\f=f11 ns (.sh (.tup [.int n,.lst (es.map dP)])) .un .un .un .un .un .un .un .un .un .un/\Box h 0) ?_ ?_
 .ac_nf
  refine m9 (by decide) (by decide) hB λn es hb' h1 h10 hE hB' hE'=> ?_
  ac_nf
  exact⟨n,es,h1,h10,hE,rfl,hB'⟩
 rintro f h ⟨n,es,h1,h10,hE,rfl,hB⟩
 have hfew:=iP hE h10
 refine aw (λf h=>f=f11 ns (.sh (.tup [.int n,.lst (es.map dP)])) .un .un .un .un .un .un .un (.sh (.int n)) (.sh (.lst (es.map dP))) .un/\Box h 0) ?_ ?_
 .ac_nf
  exact⟨trivial,hB⟩
 rintro f h ⟨rfl,hB⟩
 -- the edges as they are handed
 refine aw (λf h=>∃(k:Nat) (xs:List (Bool×IP)),0<k/\xs.length<=60/\(∀q∈xs,Ed n q.2)/\lQ xs=es/\f=f11 ns (.sh (.tup [.int n,.lst (es.map dP)])) (.sh (.box k)) .un .un .un .un .un .un (.sh (.int n)) (.sh (.lst (es.map dP))) .un/\Box h 0/\h[k]? =some (.lst (xs.map dQ))) ?_ ?_
 .have e2:(2:Int)=((2:Nat):Int):=rfl
  rw[wpS_bx,wpS_own]
  simp -implicitDefEqProofs only[wpC_lc,wpI_val,wpE_callN,wpEs_cons,wpEs_nil,wpE_v,wpE_op2,wpE_cut,wpO_none,wpO_some,wpE_c,v_cutL,tZ,onOk,onL,List.getElem?_cons_succ,List.getElem?_cons_zero]
  rw[e2,tq,if_pos (by rw[List.length_map,List.length_take,List.length_map]; omega)]
  ac_nf
  have em:es.map dP++(es.map dP).take 2=(es++es.take 2).map dP:=by rw[List.map_append,List.map_take]
  rw[em]
  have hlen:(es++es.take 2).length<=47:=by rw[List.length_append,List.length_take]; omega
  refine o6 hB (by rw[List.length_map]; omega) (λx hx=> ?_) (λx hx=> ?_) λys hb' hp hB' hE'=> ?_
  .obtain⟨p,_,rfl⟩:=List.mem_map.mp hx; rfl
  .obtain⟨p,_,rfl⟩:=List.mem_map.mp hx; exact gP p
  obtain⟨zs,hz1,rfl⟩:=rK hp
  have zin:∀p,p∈zs<->p∈es:=λp=>by
   rw[hz1.mem_iff,List.mem_append]
   exact⟨λq=>q.elim id λq=>List.mem_of_mem_take q,.inl⟩
  have zlen:zs.length<=47:=by rw[hz1.length_eq]; exact hlen
  simp -implicitDefEqProofs only[onOk,onL,wipeF,List.set_cons_succ,List.set_cons_zero]
  refine n8 (λdone rest acc h=>Box h 0/\done++rest=zs.map dP/\∃xs:List (Bool×IP),acc=xs.map dQ/\(∀q∈xs,Ed n q.2/\nm q.2∈es)/\(∀p,dP p∈done->∃q∈xs,nm q.2=p)/\xs.length=done.length) [] _ [] _ ⟨hB',rfl,[],rfl,by simp,by simp,rfl⟩ ?_ ?_
  .rintro done d rest acc h1' ⟨hB1,hr,xs,rfl,i1,i2,i3⟩
   obtain⟨hi,rfl⟩:=mM hr
   have hm:zs[done.length]∈es:=(zin _).mp (List.getElem_mem hi)
   have hed:=uZ hE hm
   have hlt:=(hE.low _ hm).2.1
   generalize zs[done.length]=p at *
   have eg:∀{xs:List D} {fr:Fr} {hb:HB},bA [.tup xs] fr hb=some xs:=λ{_ _ _}=>rfl
   refine⟨_,rfl,?_⟩
   simp! only[dP,u4,eg]
   refine sN hB1 (by simp) (by simp) (λx hx=> ?_) λd2 h2 hd2 hB2 hE2=> ?_
   .simp only[List.mem_cons,List.not_mem_nil,or_false] at hx
    rcases hx with rfl|rfl|rfl<;>rfl
   obtain⟨q,rfl,hq,hq2⟩:∃q:Bool×IP,d2=dQ q/\Ed n q.2/\nm q.2=p:=by
    simp only[List.mem_cons,List.not_mem_nil,or_false] at hd2
    rcases hd2 with rfl|rfl|rfl
    .exact⟨(false,p),rfl,hed,nN hlt⟩
    .exact⟨(false,(p.2,p.1)),rfl,qV hed,sz hlt⟩
    .exact⟨(true,p),rfl,hed,nN hlt⟩
   refine⟨_,rfl,mz q,by rw[List.length_map]; have:=congrArg List.length hr; rw[List.length_append,List.length_map,List.length_cons] at this; omega,hB2,by rw[List.append_assoc]; exact hr,xs++[q],by simp,?_,?_,by simp[i3]⟩
   .intro x hx
    rcases List.mem_append.mp hx with z|z
    .exact i1 x z
    .rw[List.mem_singleton] at z
     subst z
     exact⟨hq,hq2 ▸ hm⟩
   .intro p' hp'
    rcases List.mem_append.mp hp' with z|z
    .obtain⟨x,m,e⟩:=i2 p' z
     exact⟨x,List.mem_append_left _ m,e⟩
    .rw[List.mem_singleton] at z
     have e:p'=p:=congrArg unP z
     subst e
     exact⟨q,by simp,hq2⟩
  .rintro done acc h1' ⟨hB1,hr,xs,rfl,i1,i2,i3⟩
   rw[List.append_nil] at hr
   subst hr
   rw[List.length_map] at i3
   have e:lQ xs=es:=oX hE (λp hp=>by
    obtain⟨q,hq,rfl⟩:=List.mem_map.mp hp
    exact(i1 q hq).2) λe he=>by
     obtain⟨q,hq,hn⟩:=i2 e (List.mem_map.mpr ⟨e,(zin e).mpr he,rfl⟩)
     exact⟨q.2,List.mem_map.mpr ⟨q,hq,rfl⟩,hn⟩
   have k0:0<h1'.length:=hB1.lt
   refine⟨h1'.length,xs,k0,by omega,λq hq=>(i1 q hq).1,e,rfl,hB1.snoc,?_⟩
   rw[List.getElem?_append_right (Nat.le_refl _),Nat.sub_self]; rfl
 rintro f h ⟨k,xs,k0,xl,hx,hlq,rfl,hB,hk⟩
 obtain⟨t,ht⟩:=nu (fr:=[]) h10 hx xl hk
 -- shown
 refine aw (λf h'=>f=f11 ns (.sh (.tup [.int n,.lst (es.map dP)])) (.sh (.box k)) (.sh (.str t)) .un .un .un .un .un (.sh (.int n)) (.sh (.lst (es.map dP))) .un/\h=h') ?_ ?_
 .simp! only[ht]
  exact⟨trivial,trivial⟩
 rintro f _ ⟨rfl,rfl⟩
 -- made
 have vb:(D.box k).isVal=true:=rfl
 refine aw (λf h'=>f=f11 ns (.sh (.tup [.int n,.lst (es.map dP)])) (.sh (.box k)) (.sh (.str t)) (.sh (net n es)) .un .un .un .un (.sh (.int n)) (.sh (.lst (es.map dP))) .un/\h=h') ?_ ?_
 .simp! only[vb]
  refine lG h1 h10 (.inr (.inr ⟨k,rfl,hk⟩)) hx xl ?_
  rw[hlq]
  ac_nf
  ac_rfl
 rintro f _ ⟨rfl,rfl⟩
 refine aw (λf h'=>f=f11 ns (.sh (.tup [.int n,.lst (es.map dP)])) (.sh (.box k)) (.sh (.str t)) (.sh (net n es)) .un .un .un .un (.sh (.int n)) (.sh (.lst (es.map dP))) .un/\h=h') ?_ ?_
 .simp! only[ht]
  exact⟨trivial,trivial⟩
 rintro f _ ⟨rfl,rfl⟩
 -- clear
 refine aw (λf h=>f=f11 ns (.sh (.tup [.int n,.lst (es.map dP)])) (.sh (.box k)) (.sh (.str t)) (.sh (net n es)) .un .un .un .un (.sh (.int n)) (.sh (.lst (es.map dP))) .un/\Box h 0) ?_ ?_
 .have k3:∀{fr:Fr},isK "list" (.box k) fr h=true:=λ{fr}=>by
   unfold isK rdO
   simp only[hk]
   rfl
  have r3:∀{fr:Fr},rdO fr h (.box k)=some (.lst (xs.map dQ)):=λ{fr}=>hk
  have o3:gu (.lst (xs.map dQ)) []=some (.lst [],.non):=rfl
  simp! only[k3,r3,o3,toN,wrO]
  obtain⟨cs,a,b,c,e,ha⟩:=hB
  exact⟨trivial,cs,a,b,c,by rw[List.getElem?_set_ne (by omega)]; exact e,ha⟩
 clear hk ht
 rintro f h ⟨rfl,hB⟩
 -- the text
 obtain⟨a1,a2⟩:=gn (i:=n) (by omega) (by omega)
 obtain⟨b1,b2⟩:=gn (i:=(es.length:Nat)) (by omega) (by omega)
 refine aw (λf h=>f=f11 ns (.sh (.tup [.int n,.lst (es.map dP)])) (.sh (.box k)) (.sh (.str t)) (.sh (net n es)) (.sh (.str (aW n es))) .un .un .un (.sh (.int n)) (.sh (.lst (es.map dP))) .un/\Box h 0) ?_ ?_
 .simp! only[tP,a2,b2,tA,List.length_map]
  rw[if_pos (by first|omega|(simp only[List.length_append,List.length_cons,List.length_nil]; omega)),if_pos (by first|omega|(simp only[List.length_append,List.length_cons,List.length_nil]; omega)),if_pos (by first|omega|(simp only[List.length_append,List.length_cons,List.length_nil]; omega)),if_pos (by first|omega|(simp only[List.length_append,List.length_cons,List.length_nil]; omega))]
  exact⟨rfl,hB⟩
 rintro f h ⟨rfl,hB⟩
 have vn:(net n es).isVal=true:=rfl
 -- the first look
 refine aw (λf h=>f=f11 ns (.sh (.tup [.int n,.lst (es.map dP)])) (.sh (.box k)) (.sh (.str t)) (.sh (net n es)) (.sh (.str (aW n es))) .un .un .un (.sh (.int n)) (.sh (.lst (es.map dP))) .un/\Box h 0) ?_ ?_
 .simp! only[pZ,oU,vF,vn,j4]
  refine rW (by omega) ?_
  ac_nf
  refine mJ h1 h10 hfew ?_
  simp! only[List.length_map]
  refine jk (d:=.lst [.int n,.lst (es.map dP),.int (es.length:Nat),.str (aW n es)]) ?_ ?_
  .have:(es.map dP).all (pl 5)=true:=by
    rw[List.all_map]; exact List.all_eq_true.mpr λ_ _=>rfl
   generalize aW n es=tt
   clear hE hB
   simp[pl,this]
   omega
  ac_nf
  exact⟨trivial,hB⟩
 rintro f h ⟨rfl,hB⟩
 -- a fresh list of edges
 refine aw (λf h=>f=f11 ns (.sh (.tup [.int n,.lst (es.map dP)])) (.sh (.box k)) (.sh (.str t)) (.sh (net n es)) (.sh (.str (aW n es))) .un .un .un (.sh (.int n)) (.sh (.lst (es.map dP))) .un/\Box h 0) ?_ ?_
 .refine uk (xs:=es.map dP) (d:=.tup [.int 0,.int 0]) (λq0=> ?_) (λq0=> ?_) rfl (by rw[List.length_map]; omega) ⟨rfl,hB.snoc⟩
  .simp! only[vF,vn,nG]
   exact q0
  .ac_nf
   exact q0
 rintro f h ⟨rfl,hB⟩
 -- all nodes
 refine aw (λf h=>∃s7,f=f11 ns (.sh (.tup [.int n,.lst (es.map dP)])) (.sh (.box k)) (.sh (.str t)) (.sh (net n es)) (.sh (.str (aW n es))) s7 .un .un (.sh (.int n)) (.sh (.lst (es.map dP))) .un/\Box h 0) ?_ ?_
 .simp! only[c4 (show -1000000<=n by omega) (show n<=1000000 by omega),sB]
  refine dJ (λdone rest f h=>(∃s7,f=f11 ns (.sh (.tup [.int n,.lst (es.map dP)])) (.sh (.box k)) (.sh (.str t)) (.sh (net n es)) (.sh (.str (aW n es))) s7 .un .un (.sh (.int n)) (.sh (.lst (es.map dP))) .un)/\Box h 0/\done++rest=(List.range n.toNat).map λk:Nat=>D.int (k:Int)) [] _ _ _ ⟨⟨_,rfl⟩,hB,rfl⟩ ?_ ?_
  .rintro done d rest f h' ⟨⟨s7,rfl⟩,hB,hr⟩
   obtain⟨i,hi,rfl⟩:∃i:Nat,i<n.toNat/\d=.int (i:Int):=by
    have:d∈(List.range n.toNat).map λk:Nat=>D.int (k:Int):=by rw[<-hr]; simp
    obtain⟨i,hi,rfl⟩:=List.mem_map.mp this
    exact⟨i,List.mem_range.mp hi,rfl⟩
   have i0:(0:Int)<=(i:Int):=by omega
   have i1:(i:Int)<n:=by omega
   have nl:(bu es (i:Int)).length<=45:=by
    unfold bu
    rw[show ∀l:List Int,(hO l).length=l.length from λl=>List.length_mergeSort ..,List.length_map]
    exact Nat.le_trans (List.length_filter_le _ _) (by omega)
   refine⟨_,rfl,?_⟩
   refine aw (λf h2=>f=f11 ns (.sh (.tup [.int n,.lst (es.map dP)])) (.sh (.box k)) (.sh (.str t)) (.sh (net n es)) (.sh (.str (aW n es))) (.sh (.int (i:Int))) .un .un (.sh (.int n)) (.sh (.lst (es.map dP))) .un/\h'=h2) ?_ ?_
   .show wp (sIf _ _ _ (f11 ns (.sh (.tup [.int n,.lst (es.map dP)])) (.sh (.box k)) (.sh (.str t)) (.sh (net n es)) (.sh (.str (aW n es))) (.sh (.int (i:Int))) .un .un (.sh (.int n)) (.sh (.lst (es.map dP))) .un) h') _
    simp! only[vY,vn]
    refine mC i0 i1 ?_
    ac_nf
    refine jS (by omega) h10 hE ?_
    ac_nf
    refine jk (up _ (Nat.le_trans nl (by decide))) ?_
    ac_nf
    ac_rfl
   rintro f _ ⟨rfl,rfl⟩
   refine uk (xs:=(bu es (i:Int)).map .int) (d:=.int 99) (λq0=> ?_) (λq0=> ?_) rfl (by rw[List.length_map]; omega) ⟨⟨_,rfl⟩,hB.snoc,by rw[List.append_assoc]; exact hr⟩
   .simp! only[vY,vn]
    exact oZ i0 i1 q0
   .ac_nf
    exact q0
  .rintro done f h' ⟨hf,hB,_⟩
   obtain⟨s7,rfl⟩:=hf
   exact⟨s7,rfl,hB⟩
 rintro f h ⟨s7,rfl,hB⟩
 -- another net
 refine aw (λf h=>∃m fs,1<=m/\m<=10/\EdOk m fs/\f=f11 ns (.sh (.tup [.int n,.lst (es.map dP)])) (.sh (.box k)) (.sh (.str t)) (.sh (net n es)) (.sh (.str (aW n es))) s7 (.sh (.tup [.int m,.lst (fs.map dP)])) .un (.sh (.int n)) (.sh (.lst (es.map dP))) .un/\Box h 0) ?_ ?_
 .ac_nf
  refine m9 (by decide) (by decide) hB λm fs hb' m1 m10 hF hB' hE'=> ?_
  ac_nf
  exact⟨m,fs,m1,m10,hF,rfl,hB'⟩
 rintro f h ⟨m,fs,m1,m10,hF,rfl,hB⟩
 have ffew:=iP hF m10
 have made:∀{n:Int} {es:List IP} {pd:D} {hb:HB} {QO:O ⊕ Xn->HB->Prop},1<=n->n<=10->EdOk n es->(pd=.lst (es.map dP)\/pd=.tup (es.map dP))->QO (.inl (vK n es)) hb->wp (aq [.int n,pd] hb) QO:=λ{n es pd hb QO} n1 n10 hE hp q0=>by
  have fe:=iP hE n10
  have el:lQ (es.map λp=>(false,p))=es:=by
   show cF _=es
   rw[uU,hV hE]
  refine lG (xs:=es.map λp=>(false,p)) n1 n10 ?_ (λq hq=> ?_) (by rw[List.length_map]; omega) (by rw[el]; exact q0)
  .unfold SeqQ
   rw[<-vH]
   rcases hp with rfl|rfl
   .exact .inl rfl
   .exact .inr (.inl rfl)
  .obtain⟨p,hp,rfl⟩:=List.mem_map.mp hq
   exact uZ hE hp
 have nd:∀{n:Int} {es:List IP},(vK n es).d=net n es:=rfl
 have i0:L2.atI [D.int m,.lst (fs.map dP)] 0=some (.int m):=rfl
 have i1:L2.atI [D.int m,.lst (fs.map dP)] 1=some (.lst (fs.map dP)):=rfl
 refine aw (λf h'=>f=f11 ns (.sh (.tup [.int n,.lst (es.map dP)])) (.sh (.box k)) (.sh (.str t)) (.sh (net n es)) (.sh (.str (aW n es))) s7 (.sh (.tup [.int m,.lst (fs.map dP)])) (.sh (net m fs)) (.sh (.int n)) (.sh (.lst (es.map dP))) .un/\h=h') ?_ ?_
 .simp! only[nc,i0,i1,tr]
  refine made m1 m10 hF (.inr rfl) ?_
  simp! only[nd]
  ac_rfl
 rintro f _ ⟨rfl,rfl⟩
 have dw:∀{n:Int} {es:List IP},dat 64 (.tup [.int n,.lst (es.map dP)])=true:=λ{n es}=>by
  rw[wB]
  simp only[List.all_cons,List.all_nil,vc,Bool.and_true,Bool.true_and]
  rw[vh]
  exact de (λp=>gP p) es
 have eqw:∀{fr:Fr} {hb:HB} {Q:R->HB->Prop},wp (gEq (.tup [.int n,.lst (es.map dP)]) (.tup [.int m,.lst (fs.map dP)]) fr hb) Q=Q (.ok (.bl (decide (n=m) && decide (es=fs)))) hb:=λ{fr hb Q}=>by
  rw[sx (by rw[rzT]; exact dw) (by rw[rzT]; exact dw),rzT,rzT,wG]
  simp only[iR,j9,tw,uN,Bool.and_true]
  rw[cW km]
 refine aw (λf h'=>f=f11 ns (.sh (.tup [.int n,.lst (es.map dP)])) (.sh (.box k)) (.sh (.str t)) (.sh (net n es)) (.sh (.str (aW n es))) s7 (.sh (.tup [.int m,.lst (fs.map dP)])) (.sh (net m fs)) (.sh (.int n)) (.sh (.lst (es.map dP))) .un/\h=h') ?_ ?_
 .simp! only[fE,eqw]
  refine made h1 h10 hE (.inl rfl) ?_
  simp! only[nd,fE,sS,Bool.and_self]
  refine jk (d:=.lst [.bl (decide (n=m) && decide (es=fs)),.bl true,.bl false]) (by generalize (decide (n=m) && decide (es=fs))=b; cases b<;>bv_omega) ?_
  ac_nf
  ac_rfl
 rintro f _ ⟨rfl,rfl⟩
 -- one edge less,one node more
 refine aw (λf h'=>f=f11 ns (.sh (.tup [.int n,.lst (es.map dP)])) (.sh (.box k)) (.sh (.str t)) (.sh (net n es)) (.sh (.str (aW n es))) s7 (.sh (.tup [.int m,.lst (fs.map dP)])) (.sh (net m fs)) (.sh (.int n)) (.sh (.lst (es.map dP))) .un/\h=h') ?_ ?_
 .have more:EdOk (n+1) es:=⟨hE.asc,λp hp=>by have z:=hE.low p hp; omega⟩
  have less:EdOk n (es.drop 1):=⟨hE.asc.sublist (List.drop_sublist _ _),λp hp=>hE.low p (List.mem_of_mem_drop hp)⟩
  have cf:dU (es.map dP) (some 1) none=(es.drop 1).map dP:=by
   rw[List.map_drop]
   exact me _
  have nn:decide (n=n+1)=false:=decide_eq_false (by omega)
  have e0:∀{fr:Fr} {hb:HB} {Q:R->HB->Prop},wp (gNe (.lst (es.map dP)) (.lst []) fr hb) Q=Q (.ok (.bl (!decide (es=[])))) hb:=λ{fr hb Q}=>xg (fs:=[])
  by_cases hes:es=[]
  .by_cases h9:n<10
   .simp! only[e0,decide_eq_true hes,Ord4.i,decide_eq_true h9]
    refine made (by omega) (by omega) more (.inl rfl) ?_
    simp! only[nd,fE,nn,Bool.false_and]
    ac_rfl
   .simp! only[e0,decide_eq_true hes,Ord4.i,decide_eq_false h9]
    ac_rfl
  .have ne:decide (es=es.drop 1)=false:=decide_eq_false λe=>by
    have l:=congrArg List.length e
    rw[List.length_drop] at l
    have:es.length≠0:=λz=>hes (List.eq_nil_of_length_eq_zero z)
    omega
   by_cases h9:n<10
   .simp! only[e0,decide_eq_false hes,cf]
    refine made h1 h10 less (.inl rfl) ?_
    simp! only[nd,fE,ne,Bool.and_false,Ord4.i,decide_eq_true h9]
    refine made (by omega) (by omega) more (.inl rfl) ?_
    simp! only[nd,fE,nn,Bool.false_and]
    ac_rfl
   .simp! only[e0,decide_eq_false hes,cf]
    refine made h1 h10 less (.inl rfl) ?_
    simp! only[nd,fE,ne,Bool.and_false,Ord4.i,decide_eq_false h9]
    ac_rfl
 rintro f _ ⟨rfl,rfl⟩
 have eqs:∀{xs:List Int} {fr:Fr} {hb:HB} {Q:R->HB->Prop},wp (gEq (.lst (xs.map .int)) (.lst (xs.map .int)) fr hb) Q=Q (.ok (.bl true)) hb:=λ{xs fr hb Q}=>by
  have d:dat 64 (.lst (xs.map .int))=true:=by rw[vh]; exact de (λ_=>vc) xs
  rw[sx (by rw[rzL]; exact d) (by rw[rzL]; exact d),rzL,uN,cW (f:=D.int) (λa b=>by rw[tw])]
  simp
 simp! only[vF,vY,vn,j4,vW]
 refine mC (by decide) (by omega) ?_
 ac_nf
 refine jS (by omega) h10 hE ?_
 simp! only[eqs,v_cint]
end
end Lw
namespace Lw
open PySem PySem.Spec PyProof.Rows L2 DI
section
open Lh
section
variable {P:Program} [PFc P] {w:World} {K:PySem.W.Frag} {mg:Str->Option Value} {base:Heap}
abbrev jf:List Str:=["_law_script","_law_cells","_law_salt","_law_cell"]
abbrev ck:List Str:=["_law_script"]
theorem nmV{X:Cx}{N:List Str}{i:Nat}{x:Str}(h:X.N=N)(e:N[i]? =some x:=by rfl):X.N[i]? =some x:=we h e
theorem seV{X:Cx}{W:DI.WX}{N:List Str}{sc:Scope}{x:Str}{pos:Pos}(i:Nat)(hN:X.N=N)(hsc:X.env.scope=sc)(e:N[i]? =some x:=by rfl)(hk:uu sc x=true:=by rfl)(hd:(x == ("__debug__":Str))=false:=by decide)(hcd:(x == ("__classdict__":Str))=false:=by decide):SE X W (.Name x pos) (eV i):=aN (i:=i) (we hN e) (tX hsc hk) hd hcd
theorem iu:FnScope jf ck (defScope (top 12)):=⟨rfl,rfl,rfl,by decide +kernel,rfl,by decide +kernel,by decide +kernel⟩
abbrev FdT(K:PySem.W.Frag)(q n:String)(st:Stmt)(a:Addr)(fd:FuncData):Prop:=FunD K n q (defArgs st) (defBody st) (defScope st) [] [] a fd
abbrev OkT(P:Program)(w:World)(K:PySem.W.Frag)(mg:Str->Option Value)(base:Heap)(k:Nat)(q n:String)(st:Stmt)(a:Addr)(ps:List Str)(ev:a6):Prop:=∃fd,FOk P w K mg base k a fd ps ev/\Binds K fd ps []/\FdT K q n st a fd
abbrev FdU(K:PySem.W.Frag)(q:String)(st:Stmt)(fd:FuncData):Prop:=FdT K q q st (He.ga K q) fd
abbrev OkU(P:Program)(w:World)(K:PySem.W.Frag)(mg:Str->Option Value)(base:Heap)(k:Nat)(q:String)(st:Stmt)(ps:List Str)(ev:a6):Prop:=OkT P w K mg base k q q st (He.ga K q) ps ev
set_option hygiene false
local macro_rules | `(tactic| exists $X:ident,$F:ident,$b:ident,$k:ident) => `(tactic| (obtain ⟨_,$F:ident,$b:ident,D_⟩ := $X:ident (P := P) (w := w) (base := base) fc; have $k:ident := D_.kp))
local macro_rules | `(tactic| exists $r:ident,$S:ident,$p) => `(tactic| (refine ⟨fd, $r:ident F $S:ident (fun X W G hP hw hK hmg hb hN hc hfn hsc hr hpo tk hst hfr hpin => ?_), F.bindsN fun _ _ _ _ _ _ us hl => match us, hl with | $p, _ => rfl, F⟩; subst hP hw hK hmg hb; have hNd : X.N.Nodup := by rw [hN]; decide +kernel))
local macro_rules | `(#[$i:num]) => `(seV $i hN hsc)
local macro_rules | `(#[]) => `(⟨rfl, rfl, rfl, by decide +kernel, rfl, by decide +kernel, by decide +kernel⟩)
local macro_rules | `(#[$f:ident]) => `($f hsc rfl)
local macro_rules | `(#[_]) => `(.inl (congrFun hfn _))
local macro_rules | `(#[_,_]) => `(hr.mono (by decide))
local macro_rules | `(#[_,$i:num]) => `(fc.fx.glo $i)
local macro_rules | `(#[$i:num,_]) => `(fc.fx.free $i)
local macro_rules | `(#v[$x]) => `(aa $x ac)
local macro_rules | `(#v[$x,$xs,*]) => `(aa $x #v[$xs,*])
local macro_rules | `(tactic| exists $i:num,$s:str,$t:num) => `(tactic| obtain ⟨fd, F⟩ := (fc.def_ $i _ rfl : ∃ fd, FdU K $s (top $t) fd))
set_option hygiene true
theorem gZ(fc:Fc fa xf fn K mg):OkU P w K mg base 1 "_law_open" (top 12) ck bo:=by
 exists 0,"_law_open",12
 exists fok,iu,[_]
 exact(aj (fF 1 (j1 (own:=[("_law_cell",3)]) (t:=(.nm 3)) (i:=1) (.inl hpin) hc hNd (nmV hN) #[lz] (swl hsc rfl rfl rfl rfl) (d7 (fS #[0] jg (jD af))) (jp hN hsc rfl) (by decide) (λs0 H0 C0 cl0 fp0=>(aR hNd (nmV hN) (cC rfl) (cy rfl))) (λs0 H0 C0 cl0 fp0=>dm) (λs0 H0 C0 cl0 fp0=>(aZ L2.call_int1 cS (cz rfl) #[0,_] rfl #v[(aN (i:=3) (nmV hN) (aB rfl))])))) (aj (bL (i:=2) (hf:=#[_]) hNd (nmV hN) #[aQ] (bB af (dG af (ai L2.call_len bj #[ah] #[1,_] rfl #v[#[1]])))) (aj (fP (t:=(.nm 3)) hpo hc (d7 #[1]) (aR hNd (nmV hN) #[aQ] #[_]) (ap (bL (i:=2) (hf:=#[_]) hNd (nmV hN) #[aQ] (fL (aZ L2.call_int1 cS #[ah] #[0,_] rfl #v[(bB (dG #[2] af) #[3])]) af)))) (ap (aO (oQ (mO #v[#[1],af,af,#[2]])))))))
abbrev jh:List Str:=["_law_box","_law_many","_law_drawn","_law_cell","_law_one","_law_two"]
abbrev aU:List Str:=["_law_box","_law_many"]
theorem iT:FnScope jh aU (defScope (top 13)):=#[]
theorem cx(fc:Fc fa xf fn K mg):OkU P w K mg base 1 "_law_pull" (top 13) aU aE:=by
 exists 1,"_law_pull",13
 exists fok,iT,[_,_]
 exact(aj (cT (ph (aI hr #[0] af) af) (aj (mv hr (bB (aI hr #[0] af) af) #[0] af) (aj (bL (i:=3) (hf:=#[_]) hNd (nmV hN) #[aQ] (bB (aI hr #[0] af) (dG (aI hr #[0] af) af))) (aj (cT (wb (aI hr #[0] af) (ai L2.call_len bj #[ah] #[1,_] rfl #v[(aI hr #[0] af)])) (ap (bL (i:=3) (hf:=#[_]) hNd (nmV hN) #[aQ] (aI hr (aI hr #[0] af) (hU (aI hr #[0] af) af)))) bG) (aj (cT (qK (nW (uR (aI hr #[0] af) (ai L2.call_len bj #[ah] #[1,_] rfl #v[(aI hr #[0] af)])) (iG (ph #[3] (um af af))))) (aj (bL (i:=4) (hf:=#[_]) hNd (nmV hN) #[aQ] (fL (aZ L2.call_int1 cS #[ah] #[0,_] rfl #v[(bB (bB (dG #[3] af) (dG (aI hr #[0] af) af)) (aI hr #[0] af))]) af)) (aj (bL (i:=5) (hf:=#[_]) hNd (nmV hN) #[aQ] (fL (aZ L2.call_int1 cS #[ah] #[0,_] rfl #v[(bB (dG #[4] #[4]) (dG (aI hr #[0] af) af))]) af)) (ap (aO (fL (l6 (fL (aZ L2.call_int1 cS #[ah] #[0,_] rfl #v[(bB (dG #[5] af) #[4])]) af) af) #[1]))))) bG) (ap (mv hr #[3] #[0] af)))))) bG) (aj (bL (i:=2) (hf:=#[_]) hNd (nmV hN) #[aQ] (fL (aZ L2.call_int1 cS #[ah] #[0,_] rfl #v[(aI hr #[0] af)]) #[1])) (aj (mv hr (l6 (aZ L2.call_int1 cS #[ah] #[0,_] rfl #v[(aI hr #[0] af)]) #[1]) #[0] af) (ap (aO #[2])))))
abbrev k6:List Str:=["_law_box","_law_top","_law_way","_law_one","_law_many","_law_edges_z","_law_other"]
abbrev b5:List Str:=["_law_box","_law_top"]
theorem jJ:FnScope k6 b5 (defScope (top 17)):=#[]
theorem ju(fc:Fc fa xf fn K mg):OkU P w K mg base 2 "_law_net" (top 17) b5 bF:=by
 exists 2,"_law_net",17
 exists cx,F'a,b'a,k'a
 exists fok,jJ,[_,_]
 exact(aj (mY (i:=4) (j:=5) (.inl hpin) hc hNd (nmV hN) (nmV hN) (by decide) #[lz] #[lz] (f4 (mx:=.v (am cJ (eC (.int 1)) (aM 2 aE (ae (eV 0) (ae (eV 1) al))))) (bB af (aL (ps:=aU) F'a tk hr #[ah] #[_,3] k'a b'a #v[#[0],#[1]])) (f4 (mx:=.o (pA al)) (mO ac) qq)) (swE (f:=λenv=>swappedStores _ _ env) hsc rfl)) (aj (bL (i:=2) (hf:=#[_]) hNd (nmV hN) #[aQ] (aL (ps:=aU) F'a tk hr #[ah] #[_,3] k'a b'a #v[#[0],af])) (aj (fF 5 (fP (t:=(.nm 3)) hpo hc (cH #[ah] #[4,_] #v[#[4]]) (aR hNd (nmV hN) #[aQ] #[_]) (ap (fP (t:=(.nm 6)) hpo hc (n7 #[ah] #[4,_] #v[(bB #[3] af),#[4]]) (aR hNd (nmV hN) #[aQ] #[_]) (ap (cT (qK (nW (ph (aL (ps:=aU) F'a tk hr #[ah] #[_,3] k'a b'a #v[#[0],af]) (aI hr (dz #v[af,af,af,af]) #[2])) (iG (qK (mN (uR #[2] af) (jA (vI hr #[3] (hU #[6] af)))))))) (ap (tN cX PySem.F.plainAttrs_list PySem.F.slot_list_append PySem.F.type_list_append L2.mt_append #[5] #v[(eI #v[#[3],#[6]])])) bG)))))) (ap (aO (eI #v[#[4],#[5]]))))))
abbrev ia:List Str:=["_law_box","_law_row","_law_left","_law_found"]
abbrev bQ:List Str:=["_law_box","_law_row"]
theorem fZ:FnScope ia bQ (defScope (top 15)):=#[]
theorem gj(fc:Fc fa xf fn K mg):OkU P w K mg base 2 "_law_mixed" (top 15) bQ bE:=by
 exists 3,"_law_mixed",15
 exists cx,F'a,b'a,k'a
 exists fok,fZ,[_,_]
 exact(aj (mY (i:=2) (j:=3) (.inl hpin) hc hNd (nmV hN) (nmV hN) (by decide) #[lz] #[lz] (f4 (mx:=.v (eBx (cE bA (ae (eV 1) al)))) (oQ (di hc #[ah] #[6,_] #v[#[1]])) (f4 (mx:=.o (pA al)) (mO ac) qq)) (swE (f:=λenv=>swappedStores _ _ env) hsc rfl)) (aj (pQ hpo (kK hr #[2] (dz ac)) (ap (tN cX PySem.F.plainAttrs_list PySem.F.slot_list_append PySem.F.type_list_append L2.mt_append #[3] #v[(sk oG PySem.F.plainAttrs_list PySem.F.slot_list_pop PySem.F.type_list_pop L2.mt_popAt #[2] #v[(aL (ps:=aU) F'a tk hr #[ah] #[_,3] k'a b'a #v[#[0],(ai L2.call_len bj #[ah] #[1,_] rfl #v[#[2]])])])]))) (ap (aO #[3]))))
abbrev jO:List Str:=["_law_box","_law_row"]
abbrev cj:List Str:=["_law_box","_law_row"]
theorem hX:FnScope jO cj (defScope (top 14)):=#[]
theorem iH(fc:Fc fa xf fn K mg):OkU P w K mg base 2 "_law_pick" (top 14) cj bP:=by
 exists 4,"_law_pick",14
 exists cx,F'a,b'a,k'a
 exists fok,hX,[_,_]
 exact(ap (aO (aI hr #[1] (aL (ps:=aU) F'a tk hr #[ah] #[_,3] k'a b'a #v[#[0],(ai L2.call_len bj #[ah] #[1,_] rfl #v[#[1]])]))))
abbrev jG:List Str:=["value","least","most"]
abbrev bh:List Str:=["value","least","most"]
theorem gY:FnScope jG bh (defScope (top 7)):=#[]
theorem cw(fc:Fc fa xf fn K mg):OkU P w K mg base 1 "is_number" (top 7) bh a7:=by
 exists 5,"is_number",7
 exists fok,gY,[_,_,_]
 exact(ap (aO (db (ai cI (bJ (fc.isi 0)) #[ah] #[10,_] rfl #v[#[0],(cm (n:="int") #[ah] #[0,_] rfl)]) (db (ue (ai cI (bJ (fc.isi 0)) #[ah] #[10,_] rfl #v[#[0],(cm (n:="bool") #[ah] #[11,_] rfl)])) (gU (nU .le .le #[1] #[0] #[2]))))))
abbrev lZ:List Str:=["edge","nodes","node"]
abbrev cY:List Str:=["edge","nodes"]
theorem kJ:FnScope lZ cY (defScope (top 9)):=#[]
theorem kH(fc:Fc fa xf fn K mg):OkU P w K mg base 2 "is_edge" (top 9) cY bi:=by
 exists 6,"is_edge",9
 exists cw,F'b,b'b,k'b
 exists fok,kJ,[_,_]
 exact(ap (aO (db (fX hr (ai L2.call_len bj #[ah] #[1,_] rfl #v[#[0]]) af) (db (ai (L2.cr_all hc) (mL false) #[ah] #[17,_] rfl #v[(cR (lS (own:=[("node",2)]) (t:=(.nm 2)) hc hNd (d7 #[0]) (jp hN hsc rfl) (by decide) (λs0 H0 C0 cl0 fp0=>(aR hNd (nmV hN) (cC rfl) (cy rfl))) (λs0 H0 C0 cl0 fp0=>dm) (λs0 H0 C0 cl0 fp0=>(aL (ps:=bh) F'b mr hr (cz rfl) #[_,13] k'b b'b #v[(aN (i:=2) (nmV hN) (aB rfl)),af,(hU (aN (i:=1) (nmV hN) (aB rfl)) af)]))))]) (gU (vw hr (aI hr #[0] af) (aI hr #[0] af)))))))
abbrev fv:List Str:=["self","nodes","edges","at","edge","node","line"]
abbrev bV:List Str:=["self","nodes","edges"]
theorem fb:FnScope fv bV (defScope (aA 10 1)):=#[]
theorem eH(fc:Fc fa xf fn K mg):∃fd,u8 P w K mg base 3 (He.ma K (He.ga K "Net") "__init__") fd bV "Net" aq/\Binds K fd bV []/\FdT K "Net.__init__" "__init__" (aA 10 1) (He.ma K (He.ga K "Net") "__init__") fd:=by
 obtain⟨fd,F⟩:=(fc.def_ 7 _ rfl:∃fd,FdT K "Net.__init__" "__init__" (aA 10 1) (He.ma K (He.ga K "Net") "__init__") fd)
 exists cw,F'b,b'b,k'b
 exists kH,F'k,b'k,k'k
 refine⟨fd,wS F fb (λX W G hP hw hK hmg hb hN hc hfn hsc hr hpo tk hst hfr=> ?_),F.bindsN λ_ _ _ _ _ _ us hl=>match us,hl with|[_,_,_],_=>rfl,F⟩
 .skip
  subst hP hw hK hmg hb
  have hNd:X.N.Nodup:=by rw[hN]; decide +kernel
  exact(aj (cT (fM (qp (aL (ps:=bh) F'b tk #[_,_] #[ah] #[_,13] k'b b'b #v[#[1],af,(mE (lV (c:="Net") #[ah] #[_,12]) (fc.cint 1))]))) (ap (eB (c:="InvalidCount") (a:=[("given",.par 0),("code",.cst "InvalidCount")]) (ps:=["self","given"]) (n:=1) rfl (by decide) rfl tk hc (jE (k:=0) (fc.exc 2 eD) #[_,_] #[14,_] #[ah] #[_,15] (fc.exk 2) #v[#[1]]))) bG) (aj (fP (t:=(.tp [3,4])) hpo hc (rV #[ah] #[16,_] #v[#[2]]) (qM hc (dZ (aR hNd (nmV hN) #[aQ] #[_]) (dZ (aR hNd (nmV hN) #[aQ] #[_]) mV))) (ap (cT (fM (qp (aL (ps:=cY) F'k tk hr #[ah] #[_,18] k'k b'k #v[#[4],#[1]]))) (ap (eB (c:="InvalidEdge") (a:=[("at",.par 0),("code",.cst "InvalidEdge")]) (ps:=["self","at"]) (n:=1) rfl (by decide) rfl tk hc (jE (k:=0) (fc.exc 3 ol) #[_,_] #[14,_] #[ah] #[_,19] (fc.exk 3) #v[#[3]]))) bG))) (aj (fT #[1] #[0] (cr (fc.fx.cls 20) (fc.fx.noat 21))) (aj (fT (cR (tK 2 (vB (own:=[("edge",4)]) (t:=(.nm 4)) hc hr.units hNd #[ah] #[24,_] (d7 #[2]) (jp hN hsc rfl) (by decide) (λs0 H0 C0 cl0 fp0=>(aR hNd (nmV hN) (cC rfl) (cy rfl))) (λs0 H0 C0 cl0 fp0=>dm) (λs0 H0 C0 cl0 fp0=>(eI #v[(ai (qy false hc (Nat.lt_of_le_of_lt (Nat.add_le_add_left (show 2<=64 by decide) _) hr.units)) (nV false) (cz rfl) #[22,_] rfl #v[(aN (i:=4) (nmV hN) (aB rfl))]),(ai (qy true hc (Nat.lt_of_le_of_lt (Nat.add_le_add_left (show 2<=64 by decide) _) hr.units)) (nV true) (cz rfl) #[23,_] rfl #v[(aN (i:=4) (nmV hN) (aB rfl))])]))))) #[0] (cr (fc.fx.cls 20) (fc.fx.noat 25))) (ap (fT (cR (lS (own:=[("node",5)]) (t:=(.nm 5)) hc hNd (cH #[ah] #[4,_] #v[#[1]]) (jp hN hsc rfl) (by decide) (λs0 H0 C0 cl0 fp0=>(aR hNd (nmV hN) (cC rfl) (cy rfl))) (λs0 H0 C0 cl0 fp0=>dm) (λs0 H0 C0 cl0 fp0=>(cR (nw (cz rfl) #[24,_] #v[(cR (lS (own:=[("line",6)]) (t:=(.nm 6)) hc hNd (d7 (bU (aN (i:=0) (nmV hN) (aB rfl)) (cr (fc.fx.cls 20) (fc.fx.noat 25)))) (tF hN rfl) (by decide) (λs1 H1 C1 cl1 fp1=>(aR hNd (nmV hN) (cC rfl) (cy rfl))) (λs1 H1 C1 cl1 fp1=>(lW (qu hr (aN (i:=5) (nmV hN) (aB rfl)) (aN (i:=6) (nmV hN) (aB rfl))))) (λs1 H1 C1 cl1 fp1=>(hU (ai (L2.CallR.or (L2.cr_sum hc) (rE hc)) pc (cz rfl) #[26,_] rfl #v[(aN (i:=6) (nmV hN) (aB rfl))]) (aN (i:=5) (nmV hN) (aB rfl))))))]))))) #[0] (cr (fc.fx.cls 20) (fc.fx.noat 27))))))))
abbrev jx:List Str:=["_law_found","_law_due","_law_at"]
abbrev aG:List Str:=["_law_found","_law_due"]
theorem gQ:FnScope jx aG (defScope (top 16)):=#[]
theorem fA(fc:Fc fa xf fn K mg){fd:FuncData}(F:FdU K "_law_like" (top 16) fd)(b'c:Binds K fd aG [])(j:Nat)(aD:a6)(hj:0<=j)(F'c:FOk P w K mg base j (He.ga K "_law_like") fd aG aD):FOk P w K mg base (j+1) (He.ga K "_law_like") fd aG (fnE 3 (aH aD)):=by
 have k'c:=F.kp
 refine fok F gQ (λX W G hP hw hK hmg hb hN hc hfn hsc hr hpo tk hst hfr hpin=> ?_)
 .skip
  subst hP hw hK hmg hb
  have hNd:X.N.Nodup:=by rw[hN]; decide +kernel
  exact(aj (cT (qp (ai cI (bJ (fc.isi 0)) #[ah] #[10,_] rfl #v[#[1],(eI #v[(cm (n:="list") #[ah] #[6,_] rfl),(cm (n:="tuple") #[ah] #[30,_] rfl)])])) (aj (cT (qK (nW (kK hr (ai cI (bJ (fc.isi 0)) #[ah] #[10,_] rfl #v[#[0],(cm (n:="list") #[ah] #[6,_] rfl)]) (ai cI (bJ (fc.isi 0)) #[ah] #[10,_] rfl #v[#[1],(cm (n:="list") #[ah] #[6,_] rfl)])) (iG (kK hr (ai cI (bJ (fc.isi 0)) #[ah] #[10,_] rfl #v[#[0],(cm (n:="tuple") #[ah] #[30,_] rfl)]) (ai cI (bJ (fc.isi 0)) #[ah] #[10,_] rfl #v[#[1],(cm (n:="tuple") #[ah] #[30,_] rfl)]))))) (ap (aO gf)) bG) (ap (aO (db (fX hr (ai L2.call_len bj #[ah] #[1,_] rfl #v[#[0]]) (ai L2.call_len bj #[ah] #[1,_] rfl #v[#[1]])) (gU (ai (L2.cr_all hc) (mL false) #[ah] #[17,_] rfl #v[(cR (lS (own:=[("_law_at",2)]) (t:=(.nm 2)) hc hNd (cH #[ah] #[4,_] #v[(ai L2.call_len bj #[ah] #[1,_] rfl #v[#[1]])]) (jp hN hsc rfl) (by decide) (λs0 H0 C0 cl0 fp0=>(aR hNd (nmV hN) (cC rfl) (cy rfl))) (λs0 H0 C0 cl0 fp0=>dm) (λs0 H0 C0 cl0 fp0=>(aL (ps:=aG) F'c mr hr (cz rfl) #[_,31] k'c b'c #v[(aI hr (aN (i:=0) (nmV hN) (aB rfl)) (aN (i:=2) (nmV hN) (aB rfl))),(aI hr (aN (i:=1) (nmV hN) (aB rfl)) (aN (i:=2) (nmV hN) (aB rfl)))]))))])))))) bG) (aj (cT (qK (nW (qp (ai cI (bJ (fc.isi 0)) #[ah] #[10,_] rfl #v[#[0],(eI #v[(cm (n:="list") #[ah] #[6,_] rfl),(cm (n:="tuple") #[ah] #[30,_] rfl)])])) (iG (kK hr (ai cI (bJ (fc.isi 0)) #[ah] #[10,_] rfl #v[#[0],(cm (n:="bool") #[ah] #[11,_] rfl)]) (ai cI (bJ (fc.isi 0)) #[ah] #[10,_] rfl #v[#[1],(cm (n:="bool") #[ah] #[11,_] rfl)]))))) (ap (aO gf)) bG) (ap (aO (fX hr #[0] #[1])))))
theorem ie(fc:Fc fa xf fn K mg):OkU P w K mg base 8 "_law_like" (top 16) aG aD:=by
 exists 8,"_law_like",16
 have b:Binds K fd aG []:=F.bindsN λ_ _ _ _ _ _ us hl=>match us,hl with|[_,_],_=>rfl
 exact⟨fd,l5 (k:=0) (st:=λev=>fnE 3 (aH ev)) (λj ev hj h=>fA fc F b j ev hj h) 8,b,F⟩
abbrev jd:List Str:=["self"]
abbrev cV:List Str:=["self"]
theorem gM:FnScope jd cV (defScope (aA 10 2)):=#[]
theorem iM(fc:Fc fa xf fn K mg):OkT P w K mg base 1 "Net.nodes" "nodes" (aA 10 2) (pg K (He.ga K "Net") "nodes") cV bS:=by
 obtain⟨fd,F⟩:=(fc.def_ 9 _ rfl:∃fd,FdT K "Net.nodes" "nodes" (aA 10 2) (pg K (He.ga K "Net") "nodes") fd)
 exists fok,gM,[_]
 exact(ap (aO (bU #[0] (cr (fc.fx.cls 20) (fc.fx.noat 21)))))
abbrev jy:List Str:=["self"]
abbrev bM:List Str:=["self"]
theorem hH:FnScope jy bM (defScope (aA 10 3)):=#[]
theorem gW(fc:Fc fa xf fn K mg):OkT P w K mg base 1 "Net.edges" "edges" (aA 10 3) (He.ma K (He.ga K "Net") "edges") bM bq:=by
 obtain⟨fd,F⟩:=(fc.def_ 10 _ rfl:∃fd,FdT K "Net.edges" "edges" (aA 10 3) (He.ma K (He.ga K "Net") "edges") fd)
 exists fok,hH,[_]
 exact(ap (aO (cR (di hc #[ah] #[6,_] #v[(bU #[0] (cr (fc.fx.cls 20) (fc.fx.noat 25)))]))))
abbrev gq:List Str:=["self"]
abbrev b8:List Str:=["self"]
theorem fk:FnScope gq b8 (defScope (aA 10 15)):=#[]
theorem fu(fc:Fc fa xf fn K mg):OkT P w K mg base 1 "Net.__len__" "__len__" (aA 10 15) (He.ma K (He.ga K "Net") "__len__") b8 aY:=by
 obtain⟨fd,F⟩:=(fc.def_ 11 _ rfl:∃fd,FdT K "Net.__len__" "__len__" (aA 10 15) (He.ma K (He.ga K "Net") "__len__") fd)
 exists fok,fk,[_]
 exact(ap (aO (ai L2.call_len bj #[ah] #[1,_] rfl #v[(bU #[0] (cr (fc.fx.cls 20) (fc.fx.noat 25)))])))
abbrev fo:List Str:=["self"]
abbrev bW:List Str:=["self"]
theorem eZ:FnScope fo bW (defScope (aA 10 16)):=#[]
theorem eX(fc:Fc fa xf fn K mg):OkT P w K mg base 1 "Net.__repr__" "__repr__" (aA 10 16) (He.ma K (He.ga K "Net") "__repr__") bW aK:=by
 obtain⟨fd,F⟩:=(fc.def_ 12 _ rfl:∃fd,FdT K "Net.__repr__" "__repr__" (aA 10 16) (He.ma K (He.ga K "Net") "__repr__") fd)
 exists fok,eZ,[_]
 exact(ap (aO (rC (SJ.cons (fB (l:=s!"Net(")) (SJ.cons (qR (bU #[0] (cr (fc.fx.cls 20) (fc.fx.noat 21)))) (SJ.cons (fB (l:=s!" nodes, ")) (SJ.cons (qR (ai L2.call_len bj #[ah] #[1,_] rfl #v[(bU #[0] (cr (fc.fx.cls 20) (fc.fx.noat 25)))])) (SJ.cons (fB (l:=s!" edges)")) SJ.nil))))))))
abbrev gw:List Str:=["self"]
abbrev bC:List Str:=["self"]
theorem fy:FnScope gw bC (defScope (aA 10 3)):=#[]
theorem fw(fc:Fc fa xf fn K mg):∃fd,uY P w K mg base 1 (He.ma K (He.ga K "Net") "edges") fd bC bn/\Binds K fd bC []/\FdT K "Net.edges" "edges" (aA 10 3) (He.ma K (He.ga K "Net") "edges") fd:=by
 obtain⟨fd,F⟩:=(fc.def_ 13 _ rfl:∃fd,FdT K "Net.edges" "edges" (aA 10 3) (He.ma K (He.ga K "Net") "edges") fd)
 exists wD,fy,[_]
 exact(lL (di hc #[ah] #[6,_] #v[(bU #[0] (cr (fc.fx.cls 20) (fc.fx.noat 25)))]))
abbrev dX:List Str:=["self","nodes","node"]
abbrev dW:List Str:=["self","nodes"]
theorem dj:FnScope dX dW (defScope (aA 10 4)):=#[]
theorem b4(fc:Fc fa xf fn K mg):∃fd,wa P w K mg base 2 (He.ma K (He.ga K "Net") "check_node") aF/\True/\FdT K "Net.check_node" "check_node" (aA 10 4) (He.ma K (He.ga K "Net") "check_node") fd:=by
 obtain⟨fd,F⟩:=(fc.def_ 14 _ rfl:∃fd,FdT K "Net.check_node" "check_node" (aA 10 4) (He.ma K (He.ga K "Net") "check_node") fd)
 exists cw,F'b,b'b,k'b
 refine⟨fd,oo (ps:=["self"]) (pv:="nodes") F dj (λ_ _ _ _ _ _=>StX.bind_star1 (B:=λl=>bindArgs _ ⟨l,[]⟩) (λ_=>rfl) (λ_ _ _=>rfl)) (λX W G hP hw hK hmg hb hN hc hfn hsc hr hpo tk hst hfr hpin=> ?_),trivial,F⟩
 .skip
  subst hP hw hK hmg hb
  have hNd:X.N.Nodup:=by rw[hN]; decide +kernel
  exact(ap (fP (t:=(.nm 2)) hpo hc (d7 #[1]) (aR hNd (nmV hN) #[aQ] #[_]) (ap (cT (fM (qp (aL (ps:=bh) F'b tk hr #[ah] #[_,13] k'b b'b #v[#[2],af,(hU (bU #[0] (cr (fc.fx.cls 20) (fc.fx.noat 21))) af)]))) (ap (eB (c:="InvalidNode") (a:=[("given",.par 0),("code",.cst "InvalidNode")]) (ps:=["self","given"]) (n:=1) rfl (by decide) rfl tk hc (jE (k:=0) (fc.exc 7 eD) #[_,_] #[14,_] #[ah] #[_,33] (fc.exk 7) #v[#[2]]))) bG))))
abbrev kY:List Str:=["self","node"]
abbrev b0:List Str:=["self","node"]
theorem jj:FnScope kY b0 (defScope (aA 10 5)):=#[]
theorem jb(fc:Fc fa xf fn K mg):OkT P w K mg base 3 "Net.near" "near" (aA 10 5) (He.ma K (He.ga K "Net") "near") b0 bI:=by
 obtain⟨fd,F⟩:=(fc.def_ 15 _ rfl:∃fd,FdT K "Net.near" "near" (aA 10 5) (He.ma K (He.ga K "Net") "near") fd)
 exists b4,F'h,b'h,k'h
 exists fok,jj,[_,_]
 exact(aj (f9 (kg #[0] (fc.fx.cls 20) (fc.fx.meth 34) F'h tk hr #v[#[1]])) (ap (aO (cR (di hc #[ah] #[6,_] #v[(aI hr (bU #[0] (cr (fc.fx.cls 20) (fc.fx.noat 27))) #[1])])))))
abbrev jK:List Str:=["_law_web","_law_node","_law_other"]
abbrev bH:List Str:=["_law_web","_law_node"]
theorem gX:FnScope jK bH (defScope (top 18)):=#[]
theorem hJ(fc:Fc fa xf fn K mg):OkU P w K mg base 1 "_law_near" (top 18) bH bt:=by
 exists 16,"_law_near",18
 exists fok,gX,[_,_]
 exact(ap (aO (cR (lS (own:=[("_law_other",2)]) (t:=(.nm 2)) hc hNd (cH #[ah] #[4,_] #v[(aI hr #[0] af)]) (jp hN hsc rfl) (by decide) (λs0 H0 C0 cl0 fp0=>(aR hNd (nmV hN) (cC rfl) (cy rfl))) (λs0 H0 C0 cl0 fp0=>(lW (qu hr (eI #v[(ai (CallR.or (L2.call_min2 hc) (lp hc)) oH (cz rfl) #[22,_] rfl #v[(aN (i:=1) (nmV hN) (aB rfl)),(aN (i:=2) (nmV hN) (aB rfl))]),(ai (CallR.or (L2.call_max2 hc) (k9 hc)) oW (cz rfl) #[23,_] rfl #v[(aN (i:=1) (nmV hN) (aB rfl)),(aN (i:=2) (nmV hN) (aB rfl))])]) (aI hr (aN (i:=0) (nmV hN) (aB rfl)) af)))) (λs0 H0 C0 cl0 fp0=>(aN (i:=2) (nmV hN) (aB rfl)))))))
abbrev ic:List Str:=["self","node"]
abbrev bN:List Str:=["self","node"]
theorem fU:FnScope ic bN (defScope (aA 10 5)):=#[]
theorem f8(fc:Fc fa xf fn K mg):∃fd,uY P w K mg base 3 (He.ma K (He.ga K "Net") "near") fd bN bD/\Binds K fd bN []/\FdT K "Net.near" "near" (aA 10 5) (He.ma K (He.ga K "Net") "near") fd:=by
 obtain⟨fd,F⟩:=(fc.def_ 17 _ rfl:∃fd,FdT K "Net.near" "near" (aA 10 5) (He.ma K (He.ga K "Net") "near") fd)
 exists b4,F'h,b'h,k'h
 exists wD,fU,[_,_]
 exact(o8 (f9 (kg #[0] (fc.fx.cls 20) (fc.fx.meth 34) F'h tk hr #v[#[1]])) (lL (di hc #[ah] #[6,_] #v[(aI hr (bU #[0] (cr (fc.fx.cls 20) (fc.fx.noat 27))) #[1])])))
abbrev im:List Str:=["self","other"]
abbrev cA:List Str:=["self","other"]
theorem gv:FnScope im cA (defScope (aA 10 14)):=#[]
theorem f5(fc:Fc fa xf fn K mg):OkT P w K mg base 1 "Net.__eq__" "__eq__" (aA 10 14) (He.ma K (He.ga K "Net") "__eq__") cA ak:=by
 obtain⟨fd,F⟩:=(fc.def_ 18 _ rfl:∃fd,FdT K "Net.__eq__" "__eq__" (aA 10 14) (He.ma K (He.ga K "Net") "__eq__") fd)
 exists fok,gv,[_,_]
 exact(ap (aO (db (ai cI (bJ (fc.isi 8)) #[ah] #[10,_] rfl #v[#[1],(lV (c:="Net") #[ah] #[_,12])]) (db (fX hr (bU #[0] (cr (fc.fx.cls 20) (fc.fx.noat 21))) (bU #[1] (cr (fc.fx.cls 20) (fc.fx.noat 21)))) (gU (fX hr (bU #[0] (cr (fc.fx.cls 20) (fc.fx.noat 25))) (bU #[1] (cr (fc.fx.cls 20) (fc.fx.noat 25)))))))))
abbrev mI:List Str:=["_law_script","_law_box","_law_web","_law_handed","_law_kept","_law_made","_law_text","_law_node","_law_other","_law_second","_law_many","_law_edges_z","_law_edge"]
abbrev eM:List Str:=["_law_script"]
theorem kG:FnScope mI eM (defScope (top 19)):=#[]
theorem fG(fc:Fc fa xf fn K mg):∃fd,QuietOk P w K mg base 9 (He.ga K "law") fd eM bZ/\Binds K fd eM []/\FdU K "law" (top 19) fd:=by
 exists 19,"law",19
 exists gZ,F'l,b'l,k'l
 exists ju,F'f,b'f,k'f
 exists gj,F'm,b'm,k'm
 exists iH,F'n,b'n,k'n
 obtain⟨fd_Net___init__,F'e,b'e,D_Net___init__⟩:=eH (P:=P) (w:=w) (base:=base) fc
 have k'e:=D_Net___init__.kp
 exists ie,F'c,b'c,k'c
 exists iM,F'o,b'o,k'o
 exists gW,F'i,b'i,k'i
 exists fu,F'p,b'p,k'p
 exists eX,F'q,b'q,k'q
 exists fw,F'r,b'r,k'r
 exists jb,F'j,b'j,k'j
 exists hJ,F'g,b'g,k'g
 exists f8,F's,b's,k's
 exists f5,F'd,b'd,k'd
 refine⟨fd,wZ F kG (λX W G hP hw hK hmg hb hN hc hfn hsc hr hpo tk hst hfr hpin hq=> ?_),F.bindsN λ_ _ _ _ _ _ us hl=>match us,hl with|[_],_=>rfl,F⟩
 .skip
  subst hP hw hK hmg hb
  have hNd:X.N.Nodup:=by rw[hN]; decide +kernel
  exact(aj (bL (i:=1) (hf:=#[_]) hNd (nmV hN) #[aQ] (aL (ps:=ck) F'l tk #[_,_] #[ah] #[_,2] k'l b'l #v[#[0]])) (aj (bL (i:=2) (hf:=#[_]) hNd (nmV hN) #[aQ] (aL (ps:=b5) F'f tk #[_,_] #[ah] #[_,5] k'f b'f #v[#[1],af])) (aj (uX (t:=(.tp [10,11])) #[2] (qM hc (dZ (aR hNd (nmV hN) #[aQ] #[_]) (dZ (aR hNd (nmV hN) #[aQ] #[_]) mV)))) (aj (ly 3 (j1 (own:=[("_law_edge",12)]) (t:=(.nm 12)) (i:=3) (.inl hpin) hc hNd (nmV hN) #[lz] (swl hsc rfl rfl rfl rfl) (d7 (aL (ps:=bQ) F'm tk #[_,_] #[ah] #[_,7] k'm b'm #v[#[1],(bB #[11] (fS #[11] jg (jD af)))])) (jp hN hsc rfl) (by decide) (λs0 H0 C0 cl0 fp0=>(aR hNd (nmV hN) (cC rfl) (cy rfl))) (λs0 H0 C0 cl0 fp0=>dm) (λs0 H0 C0 cl0 fp0=>(aL (ps:=cj) F'n mr #[_,_] (cz rfl) #[_,8] k'n b'n #v[(aN (i:=1) (nmV hN) (aB rfl)),(dz #v[(aN (i:=12) (nmV hN) (aB rfl)),(uH (k:=0) (aN (i:=12) (nmV hN) (aB rfl))),(cR (di hc (cz rfl) #[6,_] #v[(aN (i:=12) (nmV hN) (aB rfl))]))])])))) (aj (bL (i:=4) (hf:=#[_]) hNd (nmV hN) #[aQ] (l9 hq hr #[ah] #[9,_] #v[#[3]])) (aj (bL (i:=5) (hf:=#[_]) hNd (nmV hN) #[aQ] (cR (gr (ks:=[]) (fc.fx.mkr 28) F'e tk #[_,_] #[ah] #[_,12] (gx (n:=2) b'e rfl) #v[#[10],#[3]] eE))) (aj (cT (kK hr (l9 hq hr #[ah] #[9,_] #v[#[3]]) #[4]) (ap (aO gf)) bG) (aj (uO qa PySem.F.plainAttrs_list PySem.F.slot_list_clear PySem.F.type_list_clear L2.mt_clear #[3]) (aj (bL (i:=6) (hf:=#[_]) hNd (nmV hN) #[aQ] (bB (bB (bB (bB (fB (l:=s!"Net(")) (aZ qv nv #[ah] #[29,_] rfl #v[#[10]])) (fB (l:=s!" nodes, "))) (aZ qv nv #[ah] #[29,_] rfl #v[(ai L2.call_len bj #[ah] #[1,_] rfl #v[#[11]])])) (fB (l:=s!" edges)")))) (aj (cT (fM (qp (aL (ps:=aG) F'c tk hr #[ah] #[_,31] k'c b'c #v[(dz #v[(rp #[5] (fc.fx.cls 20) (fc.prop 4) F'o #[_,_] b'o rfl),(jT (ps:=bM) #[5] (fc.fx.cls 20) (fc.fx.meth 32) F'i tk #[_,_] b'i),(sE (fc.dun 5) F'p #[_,_] b'p rfl #[ah] #[1,_] rfl #v[#[5]]),(pI (fc.dun 6) F'q #[_,_] b'q rfl #[ah] #[9,_] rfl #v[#[5]])]),(dz #v[#[10],#[11],(ai L2.call_len bj #[ah] #[1,_] rfl #v[#[11]]),#[6]])]))) (ap (aO gf)) bG) (aj (f9 (sk cX PySem.F.plainAttrs_list PySem.F.slot_list_append PySem.F.type_list_append L2.mt_append (oQ (o9 (ps:=bC) #[5] (fc.fx.cls 20) (fc.fx.meth 32) F'r tk #[_,_] b'r)) #v[(eI #v[af,af])])) (aj (fP (t:=(.nm 7)) hpo hc (cH #[ah] #[4,_] #v[#[10]]) (aR hNd (nmV hN) #[aQ] #[_]) (aj (cT (fM (qp (aL (ps:=aG) F'c tk hr #[ah] #[_,31] k'c b'c #v[(mU (ps:=b0) #[5] (fc.fx.cls 20) (fc.fx.meth 35) F'j tk #[_,_] b'j #v[#[7]]),(aL (ps:=bH) F'g tk #[_,_] #[ah] #[_,36] k'g b'g #v[#[2],#[7]])]))) (ap (aO gf)) bG) (ap (f9 (sk cX PySem.F.plainAttrs_list PySem.F.slot_list_append PySem.F.type_list_append L2.mt_append (oQ (sy (ps:=bN) #[5] (fc.fx.cls 20) (fc.fx.meth 35) F's tk #[_,_] b's #v[#[7]])) #v[af]))))) (aj (bL (i:=8) (hf:=#[_]) hNd (nmV hN) #[aQ] (aL (ps:=b5) F'f tk #[_,_] #[ah] #[_,5] k'f b'f #v[#[1],af])) (aj (bL (i:=9) (hf:=#[_]) hNd (nmV hN) #[aQ] (cR (p9 (ks:=["edges","nodes"]) (fc.fx.mkr 28) F'e tk #[_,_] #[ah] #[_,12] (tH (n:=0) [1,0] (FunD.kbp D_Net___init__ 1 ["edges","nodes"] [1,0] (λ_ _ _ _ _ _ us ws h1 h2=>match us,ws,h1,h2 with|[_],[_,_],_,_=>rfl)) (by decide) rfl) (kn (aZ L2.call_tuple_of lH #[ah] #[30,_] rfl #v[(aI hr #[8] af)]) (kn (aI hr #[8] af) eE))))) (aj (cT (fM (qp (aL (ps:=aG) F'c tk hr #[ah] #[_,31] k'c b'c #v[(dz #v[(n4 (fc.isi 8) (fc.nf 10) (fc.dun 9) F'd #[_,_] b'd rfl #[5] #[9]),(n4 (fc.isi 8) (fc.nf 10) (fc.dun 9) F'd #[_,_] b'd rfl #[5] (cR (gr (ks:=[]) (fc.fx.mkr 28) F'e tk #[_,_] #[ah] #[_,12] (gx (n:=2) b'e rfl) #v[#[10],#[11]] eE))),(n4 (fc.isi 8) (fc.nf 10) (fc.dun 9) F'd #[_,_] b'd rfl #[5] #[10])]),(dz #v[(fX hr #[2] #[8]),gf,gf])]))) (ap (aO gf)) bG) (aj (cT (qK (nW (qK (mN (kK hr #[11] (dz ac)) (jA (qw (fc.isi 8) (fc.nf 10) (fc.dun 9) F'd #[_,_] b'd rfl #[5] (cR (gr (ks:=[]) (fc.fx.mkr 28) F'e tk #[_,_] #[ah] #[_,12] (gx (n:=2) b'e rfl) #v[#[10],(fS #[11] (jD af) jg)] eE)))))) (iG (qK (mN (ph #[10] af) (jA (qw (fc.isi 8) (fc.nf 10) (fc.dun 9) F'd #[_,_] b'd rfl #[5] (cR (gr (ks:=[]) (fc.fx.mkr 28) F'e tk #[_,_] #[ah] #[_,12] (gx (n:=2) b'e rfl) #v[(bB #[10] af),#[11]] eE))))))))) (ap (aO gf)) bG) (ap (aO (db (fX hr (jT (ps:=bM) #[5] (fc.fx.cls 20) (fc.fx.meth 32) F'i tk #[_,_] b'i) #[11]) (db (fX hr (mU (ps:=b0) #[5] (fc.fx.cls 20) (fc.fx.meth 35) F'j tk #[_,_] b'j #v[af]) (aL (ps:=bH) F'g tk #[_,_] #[ah] #[_,36] k'g b'g #v[#[2],af])) (gU (fX hr (mE (lV (c:="Net") #[ah] #[_,12]) (fc.cint 1)) af))))))))))))))))))))))
end
end
end Lw
namespace Lw
open Lh
section
open PySem PySem.Spec PyProof.Rows L2 DI
theorem u3{K:PySem.W.Frag}{h:Heap}{mg:Str->Option Value}(X:K.In h)(G:h.Ns mainGlobals mg)(c:SaysC chk fn K):Fc fa xf fn K mg:=by
 have z:=c.chk_
 obtain⟨h1,h2⟩:=He.ba z
 exact⟨⟨⟨h,X,G⟩,List.all_eq_true.mp h1⟩,List.all_eq_true.mp h2,λi d e=>c.def_ i e⟩
theorem oV{P:Program}[PFc P]{w:World}{K:PySem.W.Frag}{h:Heap}{mg:Str->Option Value}{f:Addr}(X:K.In h)(G:h.Ns mainGlobals mg)(hfa:mg ("law":Str)=some (.ref f))(c:SaysC chk fn K) :
  ∃fd:FuncData,(∀(s:Shared) (v:Value),BindsTo s fd ⟨[v],[]⟩ [("_law_script",v)])/\∀base:Heap,K.In base->base.Ns mainGlobals mg->QuietOk P w K mg base 9 f fd ["_law_script"] bZ:=by
 have fc:=u3 X G c
 obtain⟨fd,F,b,D⟩:=fG (P:=P) (w:=w) (base:=h) fc
 have e:=hfa.symm.trans (fc.fx.glo 37)
 cases e
 have bb:=FunD.bindsA (ps:=["_law_script"]) D λ_ _ _ _ _ _ us hl=>match us,hl with|[_],_=>rfl
 refine⟨fd,λs v=>bb s [v] rfl,λbase X' G'=> ?_⟩
 obtain⟨fd2,F2,b2,D2⟩:=fG (P:=P) (w:=w) (base:=base) (u3 X' G' c)
 obtain⟨_,_,_,_,_,_,_,_,_,_,e1,l1,_⟩:=D.ex
 obtain⟨_,_,_,_,_,_,_,_,_,_,e2,l2,_⟩:=D2.ex
 have e:=l1.symm.trans l2
 obtain rfl:fd=fd2:=by
  injection e with e
  injection e with _ _ e _
  injection e
 exact F2
instance pfc:PFc (PySem.Challenge.rw_sameways_k11_nets_and_their_edges).prog:=⟨by kernel_rfl,by kernel_rfl⟩
end
end Lw
open PySem PySem.W PySem.Calls PyProof.Rows
theorem PySem.Challenge.cw_sameways_k11_nets_and_their_edges_holds : PySem.Challenge.rw_sameways_k11_nets_and_their_edges.Holds := by
 refine Lh.wl λsaid=> ?_
 refine HandSHeadRun.head_any (r:=OpenLaw.row PySem.Challenge.rw_sameways_k11_nets_and_their_edges) (q:=view (OpenLaw.row PySem.Challenge.rw_sameways_k11_nets_and_their_edges).prog [19]) (H:=Lh.hk) (ob:=Lh.ob) (M:=9000) (loose:=Lh.names) (d:=HandSHeadRun.topDef (OpenLaw.row PySem.Challenge.rw_sameways_k11_nets_and_their_edges).prog 19) (kwd:=[]) Lh.vN
  (by kernel_rfl) (λs=>by kernel_rfl) Lh.run (by kernel_rfl) (by kernel_rfl) (by kernel_rfl) (by rfl) (by first|assumption|decide +kernel) (by decide +kernel) Lh.br ?hw ?hc
 case hw=>w_witness2
 case hc =>
  refine DI.p6 (l:=PySem.Challenge.rw_sameways_k11_nets_and_their_edges) (n:=63) (k:=9) (x:="_law_script") rfl (by decide) (by kernel_rfl) ⟨rfl,by decide,by decide⟩ ?F (λns hl=>Lw.tU hl)
  .intro w mg fa h Y G hmg0
   obtain⟨K,KX,c⟩:=Y
   have hmg:mg ("law":PySem.Str)=some (.ref fa):=by
    have e:(HandSHeadRun.topDef (OpenLaw.row PySem.Challenge.rw_sameways_k11_nets_and_their_edges).prog 19).name=("law":PySem.Str):=by kernel_rfl
    rw[<-e]
    exact hmg0
   obtain⟨fd,hb,hF⟩:=Lw.oV (P:=(PySem.Challenge.rw_sameways_k11_nets_and_their_edges).prog) (w:=w) KX G hmg c
   exact⟨K,fd,KX,hb,hF⟩
