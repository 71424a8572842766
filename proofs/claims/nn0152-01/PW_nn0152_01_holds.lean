import PyProof.Rows.All
import Wide.All
import Open.Line
import Open.Tree
import Open.Boot
import OpenK.KMore
import OpenK.KMeth
import OpenK.KOps
import PyProof.Rows.InDataRows
import PyProof.TupleKey
import PyProof.DictWalks
import Open.Seg
import Open.Head
import PyProof.WalksPairs
import PyProof.FactsAll.tuple_iterator
import PyProof.FactsAll.range_iterator
import PyProof.Rows.Chain
import PyProof.CompMap
import PyProof.CompFree
import PyProof.P3In
import PyProof.NeData
import PyProof.Rows.RuleB_pow
import PyProof.Rows.RuleB_small
import PyProof.Rows.TupAdd
import PyProof.SliceStr2
import PyProof.SliceMore
import PyProof.Rows.TupMore
import PyProof.SliceSyntax
import PyProof.Rows.SeqSlice
import PyProof.DictCalls
import PyProof.MeetsDictList
import PyProof.DictTruth
import PyProof.FactsAll.dict_3
import PyProof.DictDisplay
import KE.KDictSum
import KE.KDictOf
import PyProof.ListCopy
import PyProof.TupleOfSeq
import PyProof.Rows.SortStr
import PyProof.CallStr
import PyProof.StrCalls2
import PyProof.RangeFor
import PyProof.IsiHeapPairs
import PyProof.IsiSeqPairs
import PyProof.IsiPairs
import PyProof.Rows.ExtendIn
import PyProof.FactsAll.list_0
import PyProof.FactsAll.dict_0
import PyProof.PureCalls
import PyProof.StrCalls3
import KE.KDictLaws
import PyProof.Rows.SortWalk
import PyProof.Rows.StrMeet
import KE.KEqDict
import PyProof.AttrMissHeap
import OpenK.KNot
import PyProof.Rows.Range3
import PyProof.Rows.Nodes
import PyProof.Rows.StrJoin2
import PyProof.ListMulAny
import PyProof.ListMulRoad
import PyProof.Rows.ListMulArg
import PyProof.Rows.SetFrom
import KE.KPar
import PyProof.InstStoreFacts
import PyProof.ExcClass2
import PyProof.ExcBaseAll.Exception
import OpenK.KRaise
import PyProof.RulesTry
import PyProof.Rows.Catch
import PyProof.ZipIter
import Lean
import PySem.Challenge.RW_nn0152_01
set_option Elab.async false
set_option autoImplicit false
set_option compiler.extract_closed false
set_option compiler.reuse false
set_option genInjectivity false
set_option genSizeOf false
set_option genSizeOfSpec false
set_option bootstrap.genMatcherCode false
set_option linter.all false
set_option maxHeartbeats 0
set_option maxRecDepth 100000
namespace Nn.Internal
open PySem PySem.W PyProof.Rows PySem.Calls PySem.SeqAt
variable{q v Jd JH:Nat}{d H IX Jj JE:Addr}{p JK:Shared}{h I5 JL JV JZ J9 Kf Km:Str}{k IY:Int}{b L Je J4:List (Str×Int)}{j O:List Int}{l Jb Jz J7:List Str}{o X:Expr}{D I1:Type}{G Jy:Value}{I JR:Heap}{N I9:Pos}{Q:Around}{KR:Scope}{IS:List Expr}{I0:List (Nat×Nat)}{I2:List Stmt}{I3:Array (Int×Value)}{I4 JX:Value->Shared->Prop}{I6:SetTable}{I7 JU Kd:Prop}{Ja:List Value}{Jc JF Ke:Array Value}{Jh:Bool}{Jq:Env}{JD J5 Ko:Sort _}{JM:Unit->Shared->Prop}{JS:Array Nat}{JY:String}{J6:Option Value->Shared->Prop}{Kb:List Addr}{Kc:Str->Int}{Kh:Arguments}{Kk:List (Obj->Prop)}{Kl:Sem Value}{Ku:Code}{KB:Bool->Shared->Prop}{KE:String->Option Builtin}{KG:List (Str×NameKind)}{KH:Program}{KI:World}{KJ:Option Value}{KM:Value->Addr->Result->Shared->Prop}{KN:Flow->Shared->Prop}{KO:Option (Value×Nat)->Shared->Prop}
theorem h_said:PySem.Challenge.rw_nn0152_01.wellSaid=true:=by decide+kernel
set_option compiler.extract_closed false
section words
open Lean
def Ij(k:String)(a:List Syntax):Syntax:=.node .none k.toName a.toArray
def Hz(k:String)(a:List Syntax):Syntax:=Ij ("Lean.Parser."++k) a
def wA(s:String):Syntax:=.atom .none s
def wQ:List Syntax->List Syntax
 |[]=>[]
 |x::r=>x::wA ";"::wQ r
def bg(a:List Syntax):Syntax:=Ij "null" a
def HJ(a:List Syntax):Syntax:=Hz "Tactic.tacticSeq" [Hz "Tactic.tacticSeq1Indented" [bg (wQ a)]]
def wG:List Syntax->List Syntax
 |[]=>[]
 |x::r=>Ij "group" [wA "|",HJ [x]]::wG r
def Hv(k s:String)(a:List Syntax):Syntax:=Hz ("Tactic."++k) (wA s::a)
def Ii(t:List Syntax):Syntax:=Hz "Term.byTactic" [wA "by",HJ t]
def Io(f:Syntax)(a:List Syntax):Syntax:=if a.isEmpty then f else Hz "Term.app" [f,bg a]
def HH(s:String):Syntax:=.ident .none s.toRawSubstring s.toName []
def Ia:List Syntax->Syntax
 |[]=>.missing
 |x::r=>Io x r
def Ix:List Syntax->Syntax
 |[]=>HH "List.nil"
 |x::r=>Io (HH "List.cons") [x,Ix r]
def Ic(a:List Syntax):Syntax:=Hz "Tactic.optConfig" [bg a]
def oH(s:String):Syntax:=Ic [Hz "Tactic.configItem" [Hz "Tactic.posConfigItem" [wA "+",HH s]]]
def Il(s:String):Syntax:=Ij "PyProof.Rows.tacticWalk_at_" [wA "walk_at",Syntax.mkStrLit s]
def gP:Syntax:=Hz "Term.hole" [wA "_"]
def jj:Syntax:=Hz "Term.syntheticHole" [wA "?",wA "_"]
def Ik(a:List Syntax):Syntax:=Hv "refine" "refine" [Ia a]
def oK(a:List Syntax):Syntax:=Hv "withReducible" "with_reducible" [HJ a]
def oI:Syntax:=Hv "tacticRfl" "rfl" []
def oJ:Syntax:=Hv "withUnfoldingAll" "with_unfolding_all" [HJ [oI]]
def f0(a:List Syntax):Syntax:=Hz "Tactic.paren" [wA "(",HJ a,wA ")"]
def ji(a:List Syntax):Syntax:=Hv "first" "first" [bg (wG a)]
def fY(a:List Syntax):Syntax:=Hv "intro" "intro" [bg a]
def wk(a:List Syntax):Syntax:=Hv "clear" "clear" [bg a]
def wq(q:Syntax):Syntax:=Hv "subst" "subst" [bg [q]]
def wp(a:List Syntax):Syntax:=Ik [Hz "Term.typeAscription" [Hz "Term.hygienicLParen" [wA "(",Ij "hygieneInfo" [HH ""]],jj,wA ":",bg [Ia a],wA ")"]]
def Ip(h:String)(a:List Syntax):Syntax:=
 let x:=a.head!
 let n:=x.getId.toString
 if h=="|"then ji a
 else if h==";"then f0 a
 else if h==":"then wp a
 else if h=="!"then Hv "exact" "exact" [Ia a]
 else if h=="^"then Hv "apply" "apply" [Ia a]
 else if h=="*"then Hz "Tactic.tacticRepeat_" [wA "repeat",HJ a]
 else if h=="r"then Ik a
 else if h=="@"then Ii [Il n]
 else if h=="="then Il n
 else if h=="#"then Syntax.mkStrLit n
 else if h=="0"then Syntax.mkNumLit n
 else if h=="l"then Ix a
 else if h=="f"then Ia a
 else if h=="w"then oK a
 else if h=="h"then Hv "tacticHave__" "have" [Hz "Term.letConfig" [bg []],Hz "Term.letDecl" [Hz "Term.letIdDecl" [Hz "Term.letId" [HH "q"],bg [],bg [],wA ":=",Ia a]]]
 else if h=="c"then wk a
 else Io (HH h) a
def Iy(e:List Syntax)(t:String):Syntax:=
 if t=="_"then gP
 else if t=="?"then jj
 else if t=="A"then Ii [Hv "assumption" "assumption" []]
 else if t=="a"then Hv "assumption" "assumption" []
 else if t=="U"then Ii [wIn0,oJ]
 else if t=="D"then Ii [Hv "decide" "decide" [oH "kernel"]]
 else if t=="%"then e.head!
 else if t=="&"then e.getLast!
 else if t=="o"then Hv "omega" "omega" [Ic []]
 else if t=="i"then fY [gP]
 else if t=="j"then fY [HH "q"]
 else if t=="s"then wq (HH "q")
 else if t=="L"then Hv "simp" "simp" [Ic [],bg [],bg [wA "only"],bg [wA "[",bg [wLm "append",wA ",",wLm "map",wA ",",wLm "cons",wA ",",wLm "nil"],wA "]"],bg []]
 else HH t
where
 wIn0:Syntax:=Hv "intros" "intros" [bg []]
 wLm (x:String):Syntax:=Hz "Tactic.simpLemma" [bg [],bg [],HH ("List.length_"++x)]
def It(a:List Syntax):Syntax:=HJ [fY a,oJ]
def eC:Syntax:=HJ [Hv "unfold" "unfold" [bg [HH "Plain"],bg []],f0 [It [gP,gP]]]
def aP:Syntax:=HJ [oJ]
def ic:Syntax:=It [gP]
def gL:Syntax:=It [gP,gP]
def dB:Syntax:=HJ [Hv "decide" "decide" [Ic []]]
def jf:Syntax:=HJ [oI]
def v3:Syntax:=HJ [Iy [] "o"]
def tHf:Syntax:=HJ [ji [Ip "!" [HH "Or.inr",HH "rfl"],Ip "!" [HH "Or.inl",HH "rfl"]]]
def Ib(e:List Syntax):Nat->List String->List Syntax×List String
 |n+1,"("::h::r=>if h==""then Ib e n ("("::r)else let p:=Ib e n r;let q:=Ib e n p.2;(Ip h p.1::q.1,q.2)
 |n+1,t::r=>if t==""then Ib e n r else if t==")"then([],r)else let q:=Ib e n r;(Iy e t::q.1,q.2)
 |_,_=>([],[])
def IQ(e:List Syntax)(s:String):Syntax:=HJ (Ib e 9999 ((" ) ".intercalate ((" ( ".intercalate (s.splitOn "(")).splitOn ")")).splitOn " ")).1
def IP:List (String×String):=[
("nsz","(| a o(; L(r szk ?)j o))"),
 ("nlook","(|(! FN)(! tM)(! tP)(! tQ)(! tR)(! tS)(! tT)(! tU)(! tV)(! tW)(! tN)(! tO)(! FO)(! b4.here)(;(^ b4.there)(= nlook)))"),
 ("nput","(|(! pt0)(! gH)(! gI)(! gJ)(! ve)(! vf)(! vg)(! vh)(! vi)(! vj)(! vc)(! vd)(! agg)(! bp.here)(;(^ bp.there)(= nput)))"),
 ("nmem","(| a(! am)(;(^ ac)(= nmem)))"),
 ("nless","(|(! aD.nil)(;(^ aD.same)(= nless))(;(^ aD.drop)(= nless)))"),
 ("npick","(|(! eG.here)(;(^ eG.there)(= npick)))"),
 ("nle","(|(! Le.refl _)a(;(^ eG.le)(= npick)(= nle))(;(^ Le.skip)(= nle)))"),
 ("nputs","(|(! gc.nil)(;(^ gc.cons)(= nmem)(= nput)(= nputs)))"),
 ("nupd","(| a(! bk.here)(;(^ bk.there)(= nupd)))"),
 ("ngv","(|(! Pg.al7 A)(! Pg.ama A)(! Pg.al9 A)(! Pg.al2 A)(! Pg.al5 A)(! Pg.amg A)(! Pg.al8 A)(! Pg.al4 A)(! Pg.amh A)(! Pg.ame A)(! Pg.amb A)(! Pg.ami A)(! Pg.amf A)(! Pg.al6 A)(! Pg.al3 A)(! Pg.ali A)(! Pg.alf A)(! Pg.ale A)(! Pg.alh A)(! Pg.al1 A)(! Pg.al0 A)(! Pg.alj A)(! Pg.alg A)(! Pg.wd A))"),
 ("nfn","(|(! Pg.BH A)(! Pg.Ci A)(! Pg.Cg A)(! Pg.Bt A)(! Pg.Cb A)(! Pg.Ck A)(! Pg.Bv A)(! Pg.Bs A)(! Pg.BG A)(! Pg.Bq A)(! Pg.Bw A)(! Pg.B5 A)(! Pg.Ca A)(! Pg.B0 A)(! Pg.By A)(! Pg.BY A)(! Pg.Bz A)(! Pg.Cf A)(! Pg.B9 A)(! Pg.Bx A)(! Pg.Bu A)(! Pg.Bp A)(! Pg.BZ A)(! Pg.Bo A)(! Pg.B6 A)(! Pg.Cd A)(! Pg.Cc A)(! Pg.Ce A)(! Pg.Cj A)(! Pg.Br A)(! Pg.mR A)(! Pg.BS A)(! Pg.BQ A)(! Pg.BN A)(! Pg.BP A)(! Pg.BV A)(! Pg.BU A)(! Pg.BW A)(! Pg.BO A)(! Pg.BR A)(! Pg.Ch A)(! Pg.Bn A)(! bF.IF(@ ngv))(! bF.H7(@ ngv)))"),
 ("nisi","(|(;(: GN _(Value.builtin(# isinstance))(l(GG.int _)(GG.raw(Value.type(# int))))_ _)(^ iG(bP.int _)apc))(;(: GN _(Value.builtin(# isinstance))(l(GG.str _)(GG.raw(Value.type(# str))))_ _)(^ iG(bP.str _)ape))(;(: GN _(Value.builtin(# isinstance))(l(GG.tup _)(GG.raw(Value.type(# tuple))))_ _)(^ iG(bP.tup _)apf))(;(: GN _(Value.builtin(# isinstance))(l(GG.int _)(GG.raw(Value.type(# bool))))_ _)(^ fc(bP.int _)ab2))(;(: GN _(Value.builtin(# isinstance))(l(GG.int _)(GG.raw(Value.type(# str))))_ _)(^ fc(bP.int _)ab3))(;(: GN _(Value.builtin(# isinstance))(l(GG.str _)(GG.raw(Value.type(# int))))_ _)(^ fc(bP.str _)ab7))(;(: GN _(Value.builtin(# isinstance))(l(GG.tup _)(GG.raw(Value.type(# str))))_ _)(^ fc(bP.tup _)ab9))(;(: GN _(Value.builtin(# isinstance))(l(GG.tup _)(GG.raw(Value.type(# int))))_ _)(^ fc(bP.tup _)ab8))(;(: GN _(Value.builtin(# isinstance))(l(GG.ref _)(GG.raw(Value.type(# bool))))_ _)(|(;(r fc ? ab4 ?)(;(^ bP.list)(= nmem)))(;(r fc ? abj ?)(;(^ bP.dict)(= nmem)))))(;(: GN _(Value.builtin(# isinstance))(l(GG.ref _)(GG.raw(Value.type(# int))))_ _)(|(;(r fc ? ab5 ?)(;(^ bP.list)(= nmem)))(;(r fc ? ab0 ?)(;(^ bP.dict)(= nmem)))))(;(: GN _(Value.builtin(# isinstance))(l(GG.ref _)(GG.raw(Value.type(# list))))_ _)(|(;(r iG ? apd ?)(;(^ bP.list)(= nmem)))(;(r fc ? ab1 ?)(;(^ bP.dict)(= nmem)))))(;(: GN _(Value.builtin(# isinstance))(l(GG.ref _)(GG.raw(Value.type(# dict))))_ _)(;(r iG ? apb ?)(;(^ bP.dict)(= nmem))))(;(: GN _(Value.builtin(# isinstance))(l(GG.ref _)(GG.raw(Value.ref(0 368))))_ _)(;(^ zq)(= nmem)))(;(: GN _(Value.builtin(# isinstance))(l(GG.ref _)(GG.raw(Value.ref _)))_ _)(|(;(r p5 A ?(tw(# list)(@ nmem)_(@ nmem))?)(;(^ bP.list)(= nmem)))(;(r p5 A ?(tw(# dict)(@ nmem)_(@ nmem))?)(;(^ bP.dict)(= nmem))))))"),
 ("nif1","(|(r ta D ?)(r tb D ?)(r ta rfl ?)(r tb rfl ?))"),
 ("nif","(|(r jn D ?)(r jo D ?)(r jn rfl ?)(r jo rfl ?)(r bx D ?)(r bN D ?)(r bx rfl ?)(r bN rfl ?))"),
 ("kop2","(|(r ae6 ?)(r ae5 ?)(r afg ?)(r aff ?)(r afb ?)(r ae8 ?)(r ae7 ?)(r ae0 ?)(r afi ?)(;(: aE _(binaryOp Operator.Add)(GG.tup _)(GG.tup _)_ _ _ _)(r ae2(@ nsz)?))(r ae9 rfl ?)(r afa rfl ?)(;(: aE _(compareOp CmpOp.In)(GG.str _)(GG.ref _)_ _ _ _)(r oO A(@ nmem)?))(;(: aE _(compareOp CmpOp.In)(GG.int _)(GG.ref _)_ _ _ _)(r wu A(@ nmem)?))(;(: aE _(compareOp CmpOp.NotIn)(GG.str _)(GG.ref _)_ _ _ _)(r wv A(@ nmem)?))(;(: aE _(compareOp CmpOp.NotIn)(GG.int _)(GG.ref _)_ _ _ _)(r oP A(@ nmem)?))(;(: aE _(subscriptTail _ _)(GG.tup(List.cons _ _))(GG.int(0 0))_ _ _ _)(r anb ?))(;(: aE _(subscriptTail _ _)(GG.tup(List.cons _(List.cons _ _)))(GG.int(0 1))_ _ _ _)(r anc ?))(;(: aE _(subscriptTail _ _)(GG.tup(List.cons _(List.cons _(List.cons _ _))))(GG.int(0 2))_ _ _ _)(r ane ?))(;(: aE _(subscriptTail _ _)(GG.tup(List.cons _(List.cons _(List.cons _(List.cons _ _)))))(GG.int(0 3))_ _ _ _)(r anf ?)))"),
 ("kcv","(|(;(: GN _(Value.builtin(# len))(l(GG.ref _))_ _)(r gW(@ nmem)(@ nsz)?))(r z2 ?)(;(: GN _(Value.builtin(# isinstance))_ _ _)(= nisi))(;(: GN _(Value.builtin(# list.append))(l(GG.ref _)_)_ _)(r pZ(@ nupd)(@ nsz)?))(;(: GN _(Value.builtin(# len))(l(GG.tup _))_ _)(r zB(@ nsz)?))(;(: GN _(Value.builtin(# len))(l(GG.ref _))_ _)(r gn(FL(@ nmem))(@ nsz)?))(r zE ?)(r zD ?)(r zK ?)(;(: GN _(Value.type(# range))(l _ _(GG.int _))_ _)(r zL D ab6 ?)))"),
 ("kexec","(|(;(: GK _(exec(Stmt.Assign(l(Expr.Name _ _))_ _)_)_ _ _ _)(r wD U A(@ nmem)?))(r hi ?)(r ao0 ?)(;(: GK _(exec(Stmt.Expr _ _)_)_ _ _ _)(r an9 A U ?))(;(: GK _(exec(Stmt.Assign(l(Expr.Subscript _ _ _))_ _)_)_ _ _ _)(r wF U ?))(;(: GK _(exec(Stmt.For _ _ _ _ _)_)_ _ _ _)(r aoa U ?))(;(: GK _(exec(Stmt.Assign(l(Expr.Tuple(l(Expr.Name _ _)(Expr.Name _ _))_ _))(Expr.Tuple(l _ _)_ _)_)_)_ _ _ _)(r ao7 A A(@ nmem)(@ nmem)D(@ nhf)U U U U ?)))"),
 ("kcall","(|(;(: GK _(eval(Expr.Call(Expr.Name _ _)(l _)_ _)_)_ _ _ _)(r an4 A A A(@ nmem)(@ nfn)U ?))(;(: GK _(eval(Expr.Call(Expr.Name _ _)(l _ _)_ _)_)_ _ _ _)(r an5 A A A(@ nmem)(@ nfn)U U ?))(;(: GK _(eval(Expr.Call(Expr.Name _ _)(l _ _ _)_ _)_)_ _ _ _)(r an6 A A A(@ nmem)(@ nfn)U U U ?))(;(: GK _(eval(Expr.Call(Expr.Attribute _ _ _)List.nil _ _)_)_ _ _ _)(r aof A U ?))(;(: GK _(eval(Expr.Call(Expr.Attribute _ _ _)_ _ _)_)_ _ _ _)(r aoe A U U U ?))(r ln A A A(@ nmem)(@ nfn)U U ?))"),
 ("keval","(|(;(: GK _(eval(Expr.Name _ _)_)_ _ _ _)(|(r l0 A(@ nlook)?)(r oT A A(@ nmem)(@ ngv)?)))(r xZ ?)(r x6 ?)(;(: GK _(eval(Expr.Call _ _ _ _)_)_ _ _ _)(= kcall))(;(: GK _(eval(Expr.Subscript _(Expr.Slice _ _ _ _)_)_)_ _ _ _)(r ao1 ?))(r ao2 ?)(r an1 ?)(;(: GK _(eval(Expr.Compare _ _ _ _)_)_ _ _ _)(r an8 U ?))(r pA ?)(r xQ ?)(r ao6 ?)(r aob ?)(r ao8 ?)(r aod ?)(r xq ?)(r an0 ?)(r aoh ?))"),
 ("ktest","(|(;(: GK _(isTrue(Expr.Compare _(l _)(l _)_)_ _)_ _ _ _)(r lp U ?))(r aog ?)(r x7 ?)(;(: GK _(isTrue(Expr.Compare _(l _ _)(l _ _)_)_ _)_ _ _ _)(r an7 U ?))(r ao4 U ?))"),
 ("kat","(|(;(: GK _(eval _ _)_ _ _ _)(= keval))(r aH ?)(r xU ?)(;(: GK _(exec _ _)_ _ _ _)(= kexec))(;(: GK _(isTrue _ _ _)_ _ _ _)(= ktest))(r iC ?)(r aoc U ?)(r ao3 ?)(r ao5 ?)(r xK ?)(r xM ?)(r x1 ?)(r x2 ?))"),
 ("m1","(|(;(: GK _ _ _ _ _ _)(= kat))(r ah5 ?)(;(: lW _ _ _ _ _ _)(r aoi(@ nput)?))(r an2 ?)(r ah6 ?)(;(: aE _ _ _ _ _ _ _ _)(= kop2))(;(: GN _ _ _ _ _)(= kcv))(;(: bn _ _ _ _ _ _ _)(|(r afd ?)(r afh ?)))(;(: lV _ _ _ _ _ _ _ _)(r aoj(@ nput)(@ nput)?))(r jr.ret A ?)(r an3 ?)(r ao9 ?)(r apa ?)(;(: And(LE.le _ sizeLine)_)(r And.intro(@ nsz)?))(;(: i5 _ _(Str.ofString(# append))_ _ _(GG.ref _)_ _)(r dy(un(@ nmem))dw ?))(;(: i5 _ _(Str.ofString(# extend))_ _ _(GG.ref _)_ _)(r dy(Gs(@ nmem))dw ?))(;(: i5 _ _(Str.ofString(# get))_ _ _(GG.ref _)_ _)(r dy(nx(@ nmem))dw ?))(;(: i5 _ _(Str.ofString(# join))_ _ _(GG.str _)_ _)(r dy Gu dw ?)))"),
 ("m","(*(= m1))"),
 ("mf","(*(|(= m1)(= nif)(= nif1)))"),
 ("ncaps","(|(! bm.nil)(;(^ bm.none)(= ncaps))(;(^ bm.pL U(@ nlook))(= ncaps)))"),
 ("nlin","(| a(! aj A rfl)(! Gd A rfl)(! FE A rfl)(! Gc A rfl)(! Nat.le_trans A A))"),
 ("nhf","(|(! Or.inr rfl)(! Or.inl rfl))"),
 ("rw","(|(w(r Eq.trans % ?))(w(r Eq.trans(f % _)?))(w(r Eq.trans(f % _ _)?))(w(r Eq.trans(f % _ _ _)?))(w(r cv % ?))(w(r cv(f % _)?))(w(r cv(f % _ _)?))(w(r cv(f % _ _ _)?))&)"),
 ("rws","(|(w(r Eq.trans(Eq.symm %)?))(w(r Eq.trans(Eq.symm(f % _))?))(w(r Eq.trans(Eq.symm(f % _ _))?))(w(r Eq.trans(Eq.symm(f % _ _ _))?))(w(r jp % ?))(w(r jp(f % _)?))(w(r jp(f % _ _)?))(w(r jp(f % _ _ _)?))&)"),
 ("rwn","(|(w(r Eq.trans % ?))(r cv % ?)&)"),
 ("rwns","(|(w(r Eq.trans(Eq.symm %)?))(r jp % ?)&)"),
 ("VR","(|(;(h VR.IC %)(c %)s)(;(r Exists.elim(VR.IA %)?)(c %)i j s)(;(r Exists.elim(VR.ID %)?)(c %)i j s)(;(h VR.IE %)(c %)s)(;(h VR.Iz %)(c %)s)(;(h VR.IB %)(c %)s))")]
def Ir(k:String)(e:List Syntax):Option Syntax:=(IP.lookup k).map (IQ e)
def HR(t:Option Syntax):MacroM Syntax:=match t with|some t=>pure t|none=>Macro.throwUnsupported
end words
section over
open Lean
def wr(p:Syntax):Syntax:=match p.getKind.getString! with
 |"rcasesPatMed"=>if p[0].getNumArgs==1 then p[0][0]else p
 |"rcasesPatLo"=>if p[1].getNumArgs==0&&p[0][0].getNumArgs==1 then p[0][0][0]else p
 |_=>p
def oG(a:List Syntax):Syntax:=Hz "Tactic.rcasesPatMed" [bg a]
def wl(m:Syntax):Syntax:=Hz "Tactic.rcasesPatLo" [m,bg []]
def wOb(q p:Syntax):Syntax:=Hv "obtain" "obtain" [bg [oG [p]],bg [],bg [wA ":=",bg [q]]]
def wo(q p:Syntax):Syntax:=Hv "rcases" "rcases" [bg [Hz "Tactic.elimTarget" [bg [],q]],bg [wA "with",p]]
def ih(q:String)(p:Syntax):List Syntax×List Syntax:=
 let p:=wr p
 let q:=HH q
 match p.getKind.getString! with
 |"one"=>if p[0].getId== `rfl then([fY [q],wq q],[])else([fY [p[0]]],[])
 |"tuple"=>([fY [q]],[wOb q p])
 |"rcasesPatLo"=>([fY [q]],[wo q p])
 |"paren"=>([fY [q]],[wo q (wl (oG [p]))])
 |_=>([fY [gP]],[])
def wn(q:String):Nat->List Syntax->List Syntax×List Syntax
 |_,[]=>([],[])
 |0,[p]=>ih q p
 |0,r=>ih q (Hz "Tactic.rcasesPat.tuple" [wA "⟨",bg (r.intersperse (wA ",")),wA "⟩"])
 |n+1,p::r=>let x:=ih (q++"0") p;let y:=wn (q++"1") n r;(x.1++y.1,x.2++y.2)
def oF(h:Syntax):List Syntax:=if h.isIdent then[Hv "tacticTry_" "try" [HJ [wk [h]]]]else[]
def lj(h:Syntax)(r:List Syntax)(f:String)(n:Nat):Syntax:=
 let x:=wn ("q"++if h.isIdent then h.getId.getString! else"") n r
 f0 (Ik [HH f,h,jj]::(oF h++x.1++x.2))
def wEx(h:Syntax)(r:List Syntax):Nat->List Syntax
 |0=>[lj h r "Exists.elim" 1,lj h r "and2" 1]
 |n+1=>if n+2<r.length then lj h r ("exe"++toString (n+2)) (n+2)::wEx h r n else wEx h r n
def wm(h m:Syntax):Option Syntax:=
 let p:=wr m
 let k:=p[1].getSepArgs.toList
 if p.getKind.getString! =="tuple"then if k.length<2 then none else some (ji (lj h k ("and"++toString k.length) (k.length-1)::wEx h k 6))
 else if m[0].getNumArgs<3 then none else
  let a:=ih "ql" m[0][0]
  let b:=ih "qr" (wl (oG (m[0].getArgs.toList.drop 2)))
  some (Hv "focus" "focus" [HJ ([Ik [HH "Or.elim",h,jj,jj],Hv "rotateLeft" "rotate_left" [bg []]]++oF h++b.1++b.2++[Hv "rotateRight" "rotate_right" [bg []]]++oF h++a.1++a.2)])
def fZ(s:Syntax):Option Syntax:=
 let t:=s[1]
 match s.getKind.getString! with
 |"obtain"=>if s[2].getNumArgs==0&&s[3][1].getNumArgs==1 then wm s[3][1][0] t[0]else none
 |"rcases"=>if t.getNumArgs==1&&t[0][0].getNumArgs==0&&s[2].getNumArgs==2&&s[2][1][1].getNumArgs==0 then wm t[0][1] s[2][1][0]else none
 |"rintro"=>if t[0].getKind.getString! =="one"then
   let x:=ih "q" t[0][0]
   some (f0 (x.1++x.2++if t.getNumArgs==1 then[]else[(s.setArg 1 (bg (t.getArgs.toList.drop 1)))]))
  else none
 |"omega"=>if t[0].getNumArgs==0 then some (ji [Il "nlin",Hv "lia" "lia" [Ic []],Hv "omega" "omega" [oH "splitNatSub"]])else none
 |"show"=>some (wp [t])
 |"declaration"=>if t[0].getPos?.isNone then none else if t.getKind.getString! =="inductive"||t.getKind.getString! =="structure"then some (s.rewriteBottomUp (Syntax.setInfo .none))else if t[0].isAtom then some ((if s[0][4][0].getKind.toString=="Lean.Parser.Command.noncomputable"then s.setArg 0 (s[0].setArg 4 (bg [Hz "Command.noncomputable" [wA "noncomputable"]]))else s).setArg 1 (t.setArg 0 (wA t[0].getAtomVal)))else none
 |"tacticExists_,,"=>if t.getNumArgs==1 then match t[0].isNatLit? with
   |some 4=>some (Hv "decide" "decide" [oH "kernel"])
   |some n=>some (Il (["m","mf","nmem","nless"].getD n ""))
   |none=>some (f0 [Ik [t[0]],Il "m"])
  else none
 |"nomatch"=>if t.getNumArgs==1&&t[0].isIdent then some (Ii [ji [Ip "!" [HH "False.elim",Io (HH "List.not_mem_nil") [t[0]]],Hv "contradiction" "contradiction" [],Hv "cases" "cases" [bg [Hz "Tactic.elimTarget" [bg [],t[0]]],bg [],bg []]]])else none
 |_=>if t.getNumArgs==1&&t[0][0].getNumArgs==0&&t[0][1].isIdent&&s[2].getNumArgs==0&&s[3].getNumArgs==0 then(Ir "VR" [t[0][1]]).map fun x=>f0 [x]else none
def wRw(s:Syntax):MacroM Syntax:=do
 let a:=s[2][1].getArgs.toList
 let r:=a.head!
 if s[1][0].getNumArgs !=0||s[3].getNumArgs !=0 then Macro.throwUnsupported
 let l<-Macro.resolveGlobalName r[1].getId
 let g:=r[1].isIdent&& !l.isEmpty
 let x:=Hv "rewriteSeq" "rewrite" [Ic [],Hz "Tactic.rwRuleSeq" [wA "[",bg [r],wA "]"],bg []]
 let k:=(if g then"rw"else"rwn")++if r[0].getNumArgs==0 then""else"s"
 let t<-HR (Ir k [r[1],x])
 pure (f0 [f0 [t],if a.length<3 then Hv "tacticTry_" "try" [HJ [oK [oI]]]else s.setArg 2 (s[2].setArg 1 (bg (a.drop 2)))])
end over
local macro_rules (kind:=Lean.Parser.Command.declaration)|s=>HR (fZ s)
open _root_.Nat renaming le_trans->mf,le_of_eq->Nd,le_of_lt_succ->Nh,le_refl->Ni,add_le_add->No,add_le_add_right->Np,le_of_lt->Nq,le_add_right->Nv,ne_of_lt->NH,zero_le->NN,le_of_ble_eq_true->NQ,lt_of_le_of_lt->NV,le_add_left->N3,lt_succ_of_lt->N5,le_succ->Ob,lt_of_lt_of_le->Oj,add_le_add_left->Om,lt_trans->OG,mul_le_mul_left->OI,add_comm->OJ,le_antisymm->OY,lt_irrefl->O9,not_lt_of_le->Pe,add_assoc->Pp,succ_pos->PB,le_succ_of_le->PC,add_lt_add_left->PD,le_of_not_lt->PO,ne_of_gt->PY,succ_le_succ->Qt,succ_lt_succ->Qu,lt_succ_self->Qz,sub_le->QM,min_eq_left->QO,le_zero->QT,lt_of_le_of_ne->QU,mod_lt->QX,sub_zero->Q4,mul_le_mul->Q5,add_right_comm->Rc,lt_or_ge->Rd,min_eq_right->Rt,lt_or_eq_of_le->RP,lt_of_sub_eq_succ->RZ,lt_of_not_le->R7,zero_add->R9,sub_succ_lt_self->Sc,le_sub_of_add_le->Se,not_le_of_lt->Si,le_of_succ_le->Sj,lt_add_right->So,le_of_succ_le_succ->SM,pred_le_of_le_succ->SO,add_sub_cancel_left->SZ,lt_of_succ_lt_succ->S1
open _root_.PySem renaming wpAny_bind->M9,wpAny_pure->Nc,sizeLine_eq->Nl,wpAny_mono->NB,wpAny_holding->N1,isSubtype_type->Oc,wpAny_call_entry->On,wpAny_newObj_type->Ou,wpAny_rule->OF,wpAny_field->ON,wpAny_standAt->OT,wpAny_execs_cons->OX,wpAny_seqItems->O3,wpAny_loadPart_at->O5,wpAny_Name->O7,wpAny_call->Pb,codeAny_mono->Pc,codeAny_builtin->Pd,wpAny_truthy_bool->Pq,wpAny_callSpecial?_slot->Pu,call_meetsIn->Px,plainId_quiet->Pz,wpAny_askSetting->PA,wpAny_loadName_local->PF,wpAny_execs_nil->PH,wpAny_assign_Name->PI,wpAny_pyIter_list->PJ,wpAny_typeOf->PP,wpAny_attempt->PW,wpAny_setState_of->P1,wpAny_ite_split->P4,wpAny_onRaise->Qb,wpAny_pyIter_slot->Qc,call_meets->Qi,wpAny_isSubtype_exc->Qq,wpAny_storeName_local->QC,entryFor_alias->QD,wpAny_Call_Name_kw->QE,wpAny_loadPart->QR,fits_of_scanBound->QW,wpAny_isInstance->QY,wpAny_dictEntries->QZ,wpAny_typeNameOfWhole_keyiter->Q0,wpAny_typeNameOf_keyiter->Q1,wpAny_pyNext_list_item->Rg,wpAny_pyNext_list_end->Rh,wpAny_list_append_plain->Rk,wpAny_comprehension_free->Rl,noFill_tuple_add->Rm,wpAny_specialOf->Rq,wpAny_letTemporaryGo->Rr,getMethod_builtin->Rx,typeLookup_type->RE,builtinLookup_eq_fast->RG,wpAny_notOrdered_dict->RJ,wpAny_lookBehind->RM,pastItsLine_dict->RN,codeAny_of_tree->RU,codeAny_call_builtin->RV,wpAny_fieldsOf->RW,isSubtype_stop->RX,wpAny_setField_rec->RY,wpAny_updateSeq->R0,wpAny_dictEpoch->R1,plainObj_wpAny_Assign_Attribute->R2,wpAt_of_wpAny->SV
open _root_.List renaming mem_map->Na,length_map->Nb,map_map->Nf,map_append->Ng,mem_singleton->Nj,mem_cons->Nk,length_append->Nm,map_cons->Nt,mem_append->Nu,mem_cons_self->Nz,mem_append_right->NA,nodup_cons->ND,lookup_cons->NF,mem_append_left->NG,mem_flatMap->NJ,nodup_append->NK,mem_filter->NL,flatMap_cons->NO,forall_mem_singleton->NP,append_assoc->NR,length_range->NS,forall_mem_cons->NT,append_nil->NU,mem_range->NX,not_mem_nil->N0,getElem?_eq_getElem->N2,length_cons->N4,map_congr_left->N7,any_eq_true->N8,map_flatMap->N9,filter_cons->Of,map_id->Oi,pairwise_map->Op,filter_sublist->Oq,getElem?_map->Ot,length_filter_le->Ov,find?_cons->Oy,filter_eq_nil_iff->OA,forall_mem_map->OC,nodup_nil->OE,foldl_cons->OH,perm_middle->OK,pairwise_cons->OL,any_cons->OM,take_of_length_le->OP,filter_congr->OQ,map_eq_nil_iff->OS,filter_eq_self->OW,flatMap_append->OZ,filter_append->O0,lookup_append->O4,nodup_range->O6,all_eq_true->O8,ext_getElem->Pa,length_take->Pf,map_nil->Ph,flatMap_eq_nil_iff->Pj,take_append_drop->Pn,filter_cons_of_pos->PL,filter_cons_of_neg->PM,mem_cons_of_mem->PT,find?_eq_none->PU,cons_ne_nil->PV,mem_map_of_mem->P5,any_map->P6,length_singleton->P7,mem_of_getElem?->Qg,filterMap_cons->Qk,eq_nil_of_length_eq_zero->Ql,getD_eq_getElem?_getD->Qm,getElem_map->Qn,length_nil->Qp,range_succ->Qr,map_take->Qs,filter_map->Qv,perm_ext_iff_of_nodup->Qx,take_succ_eq_append_getElem->QF,size_toArray->QL,pairwise_lt_range->QV,lookup_eq_none_iff->Q6,sum_cons->Q8,getElem_range->Ra,contains_iff_mem->Ri,take_length->Rj,drop_zero->Rs,zip_cons_cons->Ry,mem_of_mem_take->Rz,not_lt->RA,drop_eq_getElem_cons->RI,pairwise_iff_getElem->RO,pairwise_append->RQ,getElem_of_mem->RR,getElem_mem->RT,mem_filterMap->R3,exists_cons_of_length_eq_add_one->R4,flatMap_nil->R6,foldl_append->R8,append_of_mem->Sa,length_set->Sb,append_eq_nil_iff->Sh,perm_append_comm->Sw,getElem_cons_drop->Sx,getElem?_eq_some_iff->Sy,pairwise_mergeSort->SJ,mem_of_find?_eq_some->SK,length_eraseIdx_of_lt->SN,getElem?_append_left->SX,getElem?_append_right->SY,map_eq_cons_iff->S0,countP_eq_length_filter->S2,forall_mem_append->S3
open _root_.PySem.Heap renaming get?_push_of_some->Nr,get?_push_size->Ny,lt_size->NE,get?_none_of_le->NW,size_push->Od,get?_update_self->OO,get?_update_other->Qj,get?_update_ne->QS
open _root_.Exists renaming elim->Nw
open _root_.Array renaming length_toList->NI,getElem?_eq_getElem->Ow,getElem?_toList->O1,getElem?_eq_none->PX,toList_push->Qe,toList_append->QI
open _root_.Option.some renaming inj->NM,injEq->QQ
open _root_.PySem.Str renaming append_assoc->NY,length_append->Q3
open _root_.Ne renaming symm->NZ
open _root_.Int renaming ofNat_le->N6,lt_of_le_of_lt->Og,ofNat_lt->Ol,natCast_nonneg->Oo,ne_of_gt->Pk,lt_of_lt_of_le->Pm,ofNat_sub->Ps,not_lt->Pw,le_trans->PE,add_nonneg->P9,le_of_lt->Qh,toNat_of_nonneg->QK,min_eq_left->QN,toNat_natCast->Q2,mul_nonneg->Q7,lt_trans->Rb,max_eq_left->Ru,ofNat_inj->Sg,add_le_add_right->Sk,mul_le_mul_of_nonneg_left->Sl
open _root_.Option renaming isSome_iff_exists->Oa,map_eq_some_iff->Po,map_some->QA,some_ne_none->QG,some_or->RK,none_or->RL,map_eq_none_iff->R5,bind_eq_some_iff->Ss
open _root_.Bool renaming false_ne_true->Oe,and_eq_true->Ox,and_eq_true_iff->O2,not_eq_true'->Pr,or_eq_true->PK,eq_iff_iff->PN,false_or->P0,false_and->Qf,and_false->QH,or_eq_false_iff->Sn,not_eq_false->Sq
open _root_.Prod.mk renaming inj->Oh
open _root_.List.cons renaming inj->Oz,injEq->SI
open _root_.PySem.F renaming excBase_Exception->OB,slot_dict_setdefault->PS,called_set->P2,slot_dict_keyiterator_next->Qo,entry_dict_setdefault->QP,slot_zip_next->Q9,slot_tuple_add->Rn,entry_tuple_add->Ro,args_tuple_add_2->Rp,slot_dict_pop->Rv,slot_list_getattribute->RH,slot_tuple_iterator_iter->Su,slot_range_iterator_iter->Sv,slot_dict_get->Sz,args_dict_pop_3->SA,entry_dict_pop->SD,slot_list_extend->SE,plainAttrs_dict->SF,slot_list_pop->SG,type_dict_setdefault->SH,plain_extend_loop->SP,plain_list_iadd->SQ,entry_dict_keyiterator_next->SS,args_dict_keyiterator_next_1->SU
open _root_.Nat.succ renaming inj->OU
open _root_.PySem.Heap.SameBut renaming update->OV
open _root_.PySem.Around renaming under_plainId->Py,frames_deeper->SW
open _root_.PySem.Calls renaming Name_function_global->PG,evalArgs_plain->Qd,loadGlobal_global->QB
open _root_.Int.ofNat renaming inj->PQ
open _root_.Function renaming comp_def->PR,comp_apply->P8
open _root_.PyProof.Rows renaming call_isinstance_of->PZ,slot_tuple_getitem->QJ,slot_list_sort->RB,entry_list_sort->RC,args_list_sort->RD,assignInOrder_cons->Sp
open _root_.PySem.IntMulOk renaming of_left->Qa
open _root_.PySem.StrLaws renaming glued_eq_join->Qw
open _root_.Decidable renaming not_not->Qy,byContradiction->Sr
open Lean in
local macro_rules (kind:=PyProof.Rows.tacticWalk_at_)|s=>HR ((Ir (s[1].isStrLit?.getD "") []).map fun t=>oK [f0 [t]])
local macro_rules (kind:=Lean.Parser.Term.nomatch)|s=>HR (fZ s)
local macro_rules (kind:=Lean.Parser.Tactic.obtain)|s=>HR (fZ s)
local macro_rules (kind:=Lean.Parser.Tactic.rcases)|s=>HR (fZ s)
local macro_rules (kind:=Lean.Parser.Tactic.rintro)|s=>HR (fZ s)
local macro_rules (kind:=Lean.Parser.Tactic.rwSeq)|s=>wRw s
local macro_rules (kind:=Lean.Parser.Tactic.omega)|s=>HR (fZ s)
local macro_rules (kind:=Lean.Parser.Tactic.show)|s=>HR (fZ s)
local macro_rules (kind:=Lean.Parser.Tactic.«tacticExists_,,»)|s=>HR (fZ s)
noncomputable abbrev aV(c d:Heap):Prop:=∀a b,c.get? a=some b->d.get? a=some b
structure iz(base:Heap)(G2 HF:Str->Option Value):Prop where
 g:base.Ns mainGlobals G2
 b:base.Ns builtinsNs HF
 lim:base.NoLimit
 blt:∀x:Str,x≠"__name__"->HF x=bootBuiltins x
structure fy(base:Heap)(e:Addr)(f c:Str)(g:Arguments)(d:List Stmt)(i:Scope):Prop where
 ex:∃b h a doc,base.get? e=some b/\b.data=.func {docDef f g d i h a doc with qualname:=c}/\base.CodeRec a c
noncomputable def nG:Arguments:={posonlyargs:=[],args:=[],vararg:=none,kwonlyargs:=[],kw_defaults:=[],kwarg:=none,defaults:=[]}
noncomputable def nI:Scope:={kind:=.function,names:=[],isGenerator:=false,isCoroutine:=false,more:=[]}
noncomputable def HV:Option Stmt->Arguments×List Stmt×Scope
 |some (.FunctionDef _ b a _ _ _ c _ _ _)=>(b,a,c)
 |some (.ClassDef _ _ _ a _ _ _ _ _ _ _)=>(nG,a,nI)
 |some (.For _ _ a _ _)=>(nG,a,nI)
 |_=>(nG,[],nI)
noncomputable def mO(a:Nat):Arguments×List Stmt×Scope:=HV PySem.Challenge.pw_nn0152_01.main.body[a]?
noncomputable def az(a:Nat):Arguments:=(mO a).1
noncomputable def aT(a:Nat):List Stmt:=(mO a).2.1
noncomputable def aA(a:Nat):Scope:=(mO a).2.2
noncomputable def mT:List (Str×Addr×Nat):=[
 (Str.ofString "kind_of",265,13),
 (Str.ofString "told_plain",272,14),
 (Str.ofString "told",277,15),
 (Str.ofString "copied",282,17),
 (Str.ofString "shelf_copied",377,20),
 (Str.ofString "value_of",382,23),
 (Str.ofString "dict_of",389,24),
 (Str.ofString "common_rows",401,26),
 (Str.ofString "kept_pairs",406,27),
 (Str.ofString "array_rows",413,28),
 (Str.ofString "dict_rows",418,29),
 (Str.ofString "pairs_of",425,30),
 (Str.ofString "shape_rows",432,31),
 (Str.ofString "object_rows",439,32),
 (Str.ofString "differences",444,33),
 (Str.ofString "need",451,34),
 (Str.ofString "grouped",458,35),
 (Str.ofString "single",463,36),
 (Str.ofString "shape_applied",470,37),
 (Str.ofString "dict_shape",475,38),
 (Str.ofString "dict_applied",482,39),
 (Str.ofString "array_applied",489,40),
 (Str.ofString "object_applied",501,42),
 (Str.ofString "applied",508,43),
 (Str.ofString "put_object",515,44),
 (Str.ofString "show_step",520,45),
 (Str.ofString "show_shape",525,46),
 (Str.ofString "shown",530,47),
 (Str.ofString "touched",537,48),
 (Str.ofString "clashes",544,49),
 (Str.ofString "joined",551,50),
 (Str.ofString "_law_pen",558,52),
 (Str.ofString "_law_draw",565,53),
 (Str.ofString "_law_base",570,54),
 (Str.ofString "_law_draft",577,55),
 (Str.ofString "_law_shelf",584,56),
 (Str.ofString "_law_rows",591,57),
 (Str.ofString "_law_shown_right",596,58),
 (Str.ofString "_law_clashes",603,59),
 (Str.ofString "_law_joined",608,60)]
noncomputable def l5(a b:Nat):Arguments×List Stmt×Scope:=HV (aT a)[b]?
noncomputable def bj(a b:Nat):Arguments:=(l5 a b).1
noncomputable def bq(a b:Nat):List Stmt:=(l5 a b).2.1
noncomputable def a1(a b:Nat):Scope:=(l5 a b).2.2
noncomputable def Hc:Value:=.none
noncomputable def GV(b:String)(a:Nat):Value:=.str (Str.ofString b) a
noncomputable def G7(a:Int)(b:Nat):Value:=.int a b
noncomputable def HI(a:String)(b mro:List Value)(ns:Nat)(sub:List Value)(c:List (Option Value)):Obj:=
 ⟨.type "type",none,.cls {name:=Str.ofString a,bases:=b,mro:=mro,ns:=ns,qualname:=Str.ofString a,subclasses:=sub},c.toArray⟩
noncomputable def kj(c:Str->Int)(b:List (String×Nat×Value))(d:Nat):Obj:=⟨.type "dict",none,.dict (b.map fun a=>⟨c (Str.ofString a.1),GV a.1 a.2.1,a.2.2⟩).toArray d,#[]⟩
noncomputable def gx(f g:String)(a b:Nat)(d e:Value)(c:Nat):Obj:=⟨.type "function",none,.func {name:=Str.ofString f,qualname:=Str.ofString g,params:=bj a b,body:=.stmts (bq a b),scope:=a1 a b,globals:=3,closure:=[],defaults:=d,kwdefaults:=.none,pyModule:=e,code:=.ref c},#[]⟩
noncomputable def KF(a:Str->Int):Frag:=[
 (46,HI "PaperError" [.type "Exception"] [.ref 46,.type "Exception",.type "BaseException",.type "object"] 45 [.ref 59] [some (.ref 22),none,some (GV "PaperError" 196),some (GV "PaperError" 204),some (.builtin "Exception.__new__"),some (.bool true)]),
 (59,HI "DraftFault" [.ref 46] [.ref 59,.ref 46,.type "Exception",.type "BaseException",.type "object"] 58 [] [some (.ref 50),none,some (GV "DraftFault" 236),some (GV "DraftFault" 244),some (.builtin "Exception.__new__"),some (.bool true)]),
 (155,HI "Decimal" [.type "object"] [.ref 155,.type "object"] 154 [] [none,none,some (GV "Decimal" 254),some (GV "Decimal" 262),some (.builtin "object.__new__"),some (.bool true)]),
 (183,HI "Name" [.type "object"] [.ref 183,.type "object"] 182 [] [none,none,some (GV "Name" 379),some (GV "Name" 387),some (.builtin "object.__new__"),some (.bool true)]),
 (205,HI "String" [.type "object"] [.ref 205,.type "object"] 204 [] [none,none,some (GV "String" 408),some (GV "String" 416),some (.builtin "object.__new__"),some (.bool true)]),
 (226,HI "Stream" [.type "object"] [.ref 226,.type "object"] 225 [] [none,none,some (GV "Stream" 439),some (GV "Stream" 447),some (.builtin "object.__new__"),some (.bool true)]),
 (254,HI "Reference" [.type "object"] [.ref 254,.type "object"] 253 [] [none,none,some (GV "Reference" 470),some (GV "Reference" 478),some (.builtin "object.__new__"),some (.bool true)]),
 (314,HI "Lookup" [.type "object"] [.ref 314,.type "object"] 313 [.ref 368] [none,none,some (GV "Lookup" 536),some (GV "Lookup" 544),some (.builtin "object.__new__"),some (.bool true)]),
 (368,HI "Shelf" [.ref 314] [.ref 368,.ref 314,.type "object"] 367 [] [some (.ref 319),none,some (GV "Shelf" 588),some (GV "Shelf" 596),some (.builtin "object.__new__"),some (.bool true)]),
 (45,kj a [("__module__",203,(GV "paperhold.errors" 194)),("__firstlineno__",207,(.int (5) 206)),("__init__",218,(.ref 36)),("told",225,(.ref 43)),("__static_attributes__",228,(.ref 44)),("__weakref__",230,(.ref 47)),("__doc__",231,.none)] 3),
 (58,kj a [("__module__",243,(GV "paperhold.errors" 194)),("__firstlineno__",247,(.int (14) 246)),("__static_attributes__",248,(.ref 57)),("__doc__",249,.none)] 2),
 (313,kj a [("__module__",543,(GV "paperhold.objects" 375)),("__firstlineno__",547,(.int (143) 546)),("__init__",556,(.ref 297)),("fetch",568,(.ref 304)),("get",577,(.ref 311)),("__static_attributes__",580,(.ref 312)),("__dict__",582,(.ref 315)),("__weakref__",584,(.ref 316)),("__doc__",585,.none)] 4),
 (367,kj a [("__module__",595,(GV "paperhold.objects" 375)),("__firstlineno__",599,(.int (162) 598)),("put",609,(.ref 332)),("add",617,(.ref 339)),("drop",625,(.ref 346)),("numbers",632,(.ref 353)),("root",639,(.ref 360)),("told",645,(.ref 365)),("__static_attributes__",646,(.ref 366)),("__doc__",647,.none)] 2),
 (36,gx "__init__" "PaperError.__init__" 2 0 (.ref 29) (GV "paperhold.errors" 194) 35),
 (43,gx "told" "PaperError.told" 2 1 .none (GV "paperhold.errors" 194) 42),
 (297,gx "__init__" "Lookup.__init__" 18 0 (.ref 290) (GV "paperhold.objects" 375) 296),
 (304,gx "fetch" "Lookup.fetch" 18 1 .none (GV "paperhold.objects" 375) 303),
 (311,gx "get" "Lookup.get" 18 2 .none (GV "paperhold.objects" 375) 310),
 (332,gx "put" "Shelf.put" 19 0 .none (GV "paperhold.objects" 375) 331),
 (353,gx "numbers" "Shelf.numbers" 19 3 .none (GV "paperhold.objects" 375) 352),
 (365,gx "told" "Shelf.told" 19 5 .none (GV "paperhold.objects" 375) 364),
 (290,⟨(.type "tuple"),none,.seq #[.none,.none] 0,#[]⟩),
 (29,⟨(.type "tuple"),none,.seq #[(.int (-1) 209)] 0,#[]⟩)]
structure iw(base:Heap)(G2 HF:Str->Option Value):Prop where
 T:iz base G2 HF
 GY:∃c,base.get? sysModules=some c
 fn:∀(i:Nat)a,mT[i]? =some a->G2 a.1=some (.ref a.2.1)/\fy base a.2.1 a.1 a.1 (az a.2.2) (aT a.2.2) (aA a.2.2)
 told:G2 "told_objects"=some (.ref 277)
 cells:G2 "MOST_CELLS"=some (.int 1600 663)
 code:∀a∈([(296,"Lookup.__init__"),(35,"PaperError.__init__")]:List (Addr×Str)),base.CodeRec (.ref a.1) a.2
 g5:fy base 332 "put" "Shelf.put" (bj 19 0) (bq 19 0) (a1 19 0)/\fy base 353 "numbers" "Shelf.numbers" (bj 19 3) (bq 19 3) (a1 19 3)/\fy base 365 "told" "Shelf.told" (bj 19 5) (bq 19 5) (a1 19 5)
 bc:∃b:Str->Int,(KF b).In base
 cls:∀(i:Nat)a,([("PaperError",46),("DraftFault",59),("Decimal",155),("Name",183),("String",205),("Stream",226),("Reference",254),("Lookup",314),("Shelf",368)]:List (Str×Addr))[i]? =some a->G2 a.1=some (.ref a.2)
 free:∀(i:Nat)x,(["len","min","max","abs","int","str","list","dict","tuple","set","range","zip","sorted","isinstance","bool","bytes"]:List Str)[i]? =some x->G2 x=none
structure Wd where
 prog:Program
 w:World
 base:Heap
 G2:Str->Option Value
 HF:Str->Option Value
noncomputable def it(W:Wd):Prop:=iw W.base W.G2 W.HF->W.G2 "Exception"=none->∀e:Addr,fy W.base e "law" "law" (az 61) (aT 61) (aA 61)->∀(g:Addr)(d:Array Value)(b:List Int),W.base.IsList g d->d.size=b.length->(∀f<b.length,∃l,d[f]? =some (.int (b.getD f 0) l))->b.length<=63->
 ∀(c:Shared)(a:Around),c.heap=W.base->a.handled=none->a.frames=some []->a.depth+40<recursionLimit->a.units+400<cLine->
 codeAny (model W.prog W.w) a (.call (.ref e) ⟨[.ref g],[]⟩) (fun k h=>k=.ok (.ret (.bool true))/\(aV c.heap h.heap)/\∃j m i,h={c with heap:=j,toks:=m,drawn:=i}) c
noncomputable def W0:Wd:= @Classical.epsilon Wd ⟨⟨PySem.Challenge.pw_nn0152_01,aWorld 1,{},fun x=>none,fun x=>none⟩⟩ fun W=>¬it W
theorem CW(a:it W0)(W:Wd):it W:=Classical.byContradiction fun b=>(@Classical.epsilon_spec Wd (fun W=>¬it W) ⟨W,b⟩) a
noncomputable def prog:Program:=W0.prog
noncomputable def w:World:=W0.w
noncomputable def base:Heap:=W0.base
noncomputable def G2:Str->Option Value:=W0.G2
noncomputable def HF:Str->Option Value:=W0.HF
noncomputable abbrev St:Prop:=iz base G2 HF
noncomputable abbrev a7:=fy base
noncomputable abbrev Pg:Prop:=iw base G2 HF
theorem szk(a:sizeLine=16777216->I7):I7:=a Nl
theorem jO(a:q<v):v+1-(q+1)<v+1-q:=Nat.sub_lt_sub_left (N5 a) (Qz q)
theorem he{P:D->Prop}{a b:D}(c:P a)(d:P b):∀f∈[a,b],P f:=NT.mpr ⟨c,NT.mpr ⟨d,fun y e=>nomatch e⟩⟩
theorem bs{P:D->Prop}(a:D)(b:a∈([]:List D)):P a:=nomatch b
@[elab_as_elim] theorem cv{a b:JD}{P:JD->Prop}(c:a=b)(d:P b):P a:=c▸d
@[elab_as_elim] theorem jp{a b:JD}{P:JD->Prop}(c:b=a)(d:P b):P a:=c▸d
theorem exe2{P:JD->J5->Prop}(c:∃a,∃b,P a b)(d:∀a b,P a b->I7):I7:=Nw c fun a c=>Nw c fun b c=>d a b c
theorem exe3{P:JD->J5->Ko->Prop}(d:∃a,∃b,∃c,P a b c)(e:∀a b c,P a b c->I7):I7:=Nw d fun a d=>exe2 d (e a)
theorem exe4{f:Sort _}{P:JD->J5->Ko->f->Prop}(e:∃a,∃b,∃c,∃d,P a b c d)(g:∀a b c d,P a b c d->I7):I7:=Nw e fun a e=>exe3 e (g a)
theorem exe5{g h:Sort _}{P:JD->J5->Ko->g->h->Prop}(f:∃a,∃b,∃c,∃d,∃e,P a b c d e)(i:∀a b c d e,P a b c d e->I7):I7:=Nw f fun a f=>exe4 f (i a)
theorem exe6{h i j:Sort _}{P:JD->J5->Ko->h->i->j->Prop}(g:∃a,∃b,∃c,∃d,∃e,∃f,P a b c d e f)(k:∀a b c d e f,P a b c d e f->I7):I7:=Nw g fun a g=>exe5 g (k a)
theorem exe7{i j k l:Sort _}{P:JD->J5->Ko->i->j->k->l->Prop}(h:∃a,∃b,∃c,∃d,∃e,∃f,∃g,P a b c d e f g)(m:∀a b c d e f g,P a b c d e f g->I7):I7:=Nw h fun a h=>exe6 h (m a)
theorem and2(a:I7/\JU)(b:I7->JU->Kd):Kd:=b a.1 a.2
theorem and3{b:Prop}(a:I7/\JU/\Kd)(c:I7->JU->Kd->b):b:=c a.1 a.2.1 a.2.2
theorem and4{b a:Prop}(c:I7/\JU/\Kd/\b)(d:I7->JU->Kd->b->a):a:=and3 c.2 (d c.1)
theorem and5{b c a:Prop}(d:I7/\JU/\Kd/\b/\c)(e:I7->JU->Kd->b->c->a):a:=and4 d.2 (e d.1)
theorem and6{b c d a:Prop}(e:I7/\JU/\Kd/\b/\c/\d)(f:I7->JU->Kd->b->c->d->a):a:=and5 e.2 (f e.1)
theorem and7{b c d e a:Prop}(f:I7/\JU/\Kd/\b/\c/\d/\e)(g:I7->JU->Kd->b->c->d->e->a):a:=and6 f.2 (g f.1)
theorem and8{b c d e g a:Prop}(f:I7/\JU/\Kd/\b/\c/\d/\e/\g)(h:I7->JU->Kd->b->c->d->e->g->a):a:=and7 f.2 (h f.1)
theorem and9{b c d e g h a:Prop}(f:I7/\JU/\Kd/\b/\c/\d/\e/\g/\h)(i:I7->JU->Kd->b->c->d->e->g->h->a):a:=and8 f.2 (i f.1)
theorem aj{a b c:Nat}(d:a<=b)(e:Nat.ble b c=true):a<=c:=mf d (NQ e)
theorem Gd(a:q<v)(b:Nat.ble v Jd=true):q<Jd:=Oj a (NQ b)
theorem FE(a:q<=v)(b:Nat.ble (v+1) Jd=true):q<Jd:=NV a (NQ b)
theorem Gc(a:q<v)(b:Nat.ble v Jd=true):q<=Jd:=mf (Nq a) (NQ b)
inductive ik(a b:Prop):Prop
 |mk:a->b->ik a b
inductive hk(a b c:Prop):Prop
 |mk:a->b->c->hk a b c
inductive il(a b c P3:Prop):Prop
 |mk:a->b->c->P3->il a b c P3
inductive im(a b c P3 d:Prop):Prop
 |mk:a->b->c->P3->d->im a b c P3 d
inductive jq(a b c P3 d e:Prop):Prop
 |mk:a->b->c->P3->d->e->jq a b c P3 d e
inductive o0(a b c P3 d e f:Prop):Prop
 |mk:a->b->c->P3->d->e->f->o0 a b c P3 d e f
theorem aW(a:I7/\JU)(b:ik I7 JU->Kd):Kd:=b ⟨a.1,a.2⟩
theorem df{b:Prop}(a:I7/\JU/\Kd)(c:hk I7 JU Kd->b):b:=c ⟨a.1,a.2.1,a.2.2⟩
theorem oR{b c d P3:Prop}(a:b/\c/\d/\P3)(e:il b c d P3->I7):I7:=e ⟨a.1,a.2.1,a.2.2.1,a.2.2.2⟩
theorem wx{b c d P3 e:Prop}(a:b/\c/\d/\P3/\e)(f:im b c d P3 e->I7):I7:=f ⟨a.1,a.2.1,a.2.2.1,a.2.2.2.1,a.2.2.2.2⟩
theorem wy{b c d P3 e f:Prop}(a:b/\c/\d/\P3/\e/\f)(g:jq b c d P3 e f->I7):I7:=g ⟨a.1,a.2.1,a.2.2.1,a.2.2.2.1,a.2.2.2.2.1,a.2.2.2.2.2⟩
theorem ah{c d:JD->Prop}(b:∃a,c a/\d a)(e:∀a,ik (c a) (d a)->I7):I7:=Nw b fun a b=>e a ⟨b.1,b.2⟩
theorem aN{c d e:JD->Prop}(b:∃a,c a/\d a/\e a)(f:∀a,hk (c a) (d a) (e a)->I7):I7:=Nw b fun a b=>f a ⟨b.1,b.2.1,b.2.2⟩
theorem fw{c d e P3:JD->Prop}(b:∃a,c a/\d a/\e a/\P3 a)(f:∀a,il (c a) (d a) (e a) (P3 a)->I7):I7:=Nw b fun a b=>f a ⟨b.1,b.2.1,b.2.2.1,b.2.2.2⟩
theorem wz{c d e P3 f:JD->Prop}(b:∃a,c a/\d a/\e a/\P3 a/\f a)(g:∀a,im (c a) (d a) (e a) (P3 a) (f a)->I7):I7:=Nw b fun a b=>g a ⟨b.1,b.2.1,b.2.2.1,b.2.2.2.1,b.2.2.2.2⟩
theorem ang{c d e P3 f g h:JD->Prop}(b:∃a,c a/\d a/\e a/\P3 a/\f a/\g a/\h a)(i:∀a,o0 (c a) (d a) (e a) (P3 a) (f a) (g a) (h a)->I7):I7:=Nw b fun a b=>i a ⟨b.1,b.2.1,b.2.2.1,b.2.2.2.1,b.2.2.2.2.1,b.2.2.2.2.2.1,b.2.2.2.2.2.2⟩
theorem dN{d e:JD->J5->Prop}(c:∃a b,d a b/\e a b)(f:∀a b,ik (d a b) (e a b)->I7):I7:=Nw c fun a c=>Nw c fun b c=>f a b ⟨c.1,c.2⟩
theorem bB{d e f:JD->J5->Prop}(c:∃a b,d a b/\e a b/\f a b)(g:∀a b,hk (d a b) (e a b) (f a b)->I7):I7:=Nw c fun a c=>Nw c fun b c=>g a b ⟨c.1,c.2.1,c.2.2⟩
theorem oS{d e f P3:JD->J5->Prop}(c:∃a b,d a b/\e a b/\f a b/\P3 a b)(g:∀a b,il (d a b) (e a b) (f a b) (P3 a b)->I7):I7:=Nw c fun a c=>Nw c fun b c=>g a b ⟨c.1,c.2.1,c.2.2.1,c.2.2.2⟩
theorem anh{d e f P3 g:JD->J5->Prop}(c:∃a b,d a b/\e a b/\f a b/\P3 a b/\g a b)(h:∀a b,im (d a b) (e a b) (f a b) (P3 a b) (g a b)->I7):I7:=Nw c fun a c=>Nw c fun b c=>h a b ⟨c.1,c.2.1,c.2.2.1,c.2.2.2.1,c.2.2.2.2⟩
theorem wB{d e f P3 g h:JD->J5->Prop}(c:∃a b,d a b/\e a b/\f a b/\P3 a b/\g a b/\h a b)(i:∀a b,jq (d a b) (e a b) (f a b) (P3 a b) (g a b) (h a b)->I7):I7:=Nw c fun a c=>Nw c fun b c=>i a b ⟨c.1,c.2.1,c.2.2.1,c.2.2.2.1,c.2.2.2.2.1,c.2.2.2.2.2⟩
theorem jm{e f:JD->J5->Ko->Prop}(a:∃b c d,e b c d/\f b c d)(g:∀b c d,ik (e b c d) (f b c d)->I7):I7:=Nw a fun b a=>Nw a fun c a=>Nw a fun d a=>g b c d ⟨a.1,a.2⟩
theorem ij{e f g:JD->J5->Ko->Prop}(a:∃b c d,e b c d/\f b c d/\g b c d)(h:∀b c d,hk (e b c d) (f b c d) (g b c d)->I7):I7:=Nw a fun b a=>Nw a fun c a=>Nw a fun d a=>h b c d ⟨a.1,a.2.1,a.2.2⟩
theorem f2{e f g P3:JD->J5->Ko->Prop}(d:∃a b c,e a b c/\f a b c/\g a b c/\P3 a b c)(h:∀a b c,il (e a b c) (f a b c) (g a b c) (P3 a b c)->I7):I7:=Nw d fun a d=>Nw d fun b d=>Nw d fun c d=>h a b c ⟨d.1,d.2.1,d.2.2.1,d.2.2.2⟩
theorem ani{e f g P3 h:JD->J5->Ko->Prop}(d:∃a b c,e a b c/\f a b c/\g a b c/\P3 a b c/\h a b c)(i:∀a b c,im (e a b c) (f a b c) (g a b c) (P3 a b c) (h a b c)->I7):I7:=Nw d fun a d=>Nw d fun b d=>Nw d fun c d=>i a b c ⟨d.1,d.2.1,d.2.2.1,d.2.2.2.1,d.2.2.2.2⟩
theorem wC{e f g P3 h i:JD->J5->Ko->Prop}(d:∃a b c,e a b c/\f a b c/\g a b c/\P3 a b c/\h a b c/\i a b c)(j:∀a b c,jq (e a b c) (f a b c) (g a b c) (P3 a b c) (h a b c) (i a b c)->I7):I7:=Nw d fun a d=>Nw d fun b d=>Nw d fun c d=>j a b c ⟨d.1,d.2.1,d.2.2.1,d.2.2.2.1,d.2.2.2.2.1,d.2.2.2.2.2⟩
theorem anj{i:Sort _}{f g h:JD->J5->Ko->i->Prop}(a:∃b c d e,f b c d e/\g b c d e/\h b c d e)(j:∀b c d e,hk (f b c d e) (g b c d e) (h b c d e)->I7):I7:=Nw a fun b a=>Nw a fun c a=>Nw a fun d a=>Nw a fun e a=>j b c d e ⟨a.1,a.2.1,a.2.2⟩
theorem fD(a:(q:Int)<k):q<k.toNat:=Ol.mp (Pm a (Int.self_le_toNat k))
theorem ap1(a:(q:Int)<=k):q<=k.toNat:=N6.mp (PE a (Int.self_le_toNat k))
theorem yG(a:k<=q):k.toNat<=q:=Int.toNat_le.mpr a
theorem szi(a:q<=sizeLine):(q:Int)<2^63:=Og (N6.mpr a) (by exists 4)
open PySem PySem.W
noncomputable abbrev lH:Type:=List Obj×List (Nat×(Obj->Obj))
noncomputable def Hb(a:Value)(b:List Value):Obj:=⟨a,none,.fields b.toArray,#[]⟩
noncomputable def GX(a:List Value):Obj:=⟨.type "tuple",none,.seq a.toArray 0,#[]⟩
noncomputable def Hi(P:Params)(a:String×Nat×Value):DictEntry:=⟨PyData.keyHash P (Str.ofString a.1),GV a.1 a.2.1,a.2.2⟩
noncomputable def Dt(P:Params)(a:List (String×Nat×Value))(b:Nat):Obj:=⟨.none,none,.dict (a.map (Hi P)).toArray b,#[]⟩
noncomputable def G6(P:Params)(a:List (String×Nat×Value))(b:Nat):Obj:=⟨.type "dict",none,.dict (a.map (Hi P)).toArray b,#[]⟩
noncomputable def HE(a b:Nat)(c:Value):Obj:=⟨.type "frame",none,.plain,#[some (.ref a),some (.ref 3),some (.ref b),none,some c,none,some (.ref 0)]⟩
noncomputable def He(e f:String)(a b:Nat)(j:Arguments)(g:List Stmt)(k:Scope)(i o:Int)(n m:Value)(c:Option (List String)):List Obj:=
 let h:=match c with|some d=>d.length|none=>0
 let w:=match c with|some _=>2|none=>0
 [GX [],Hb .none []]++(match c with|some d=>[GX (d.zipIdx.map fun l=>GV l.1 (b+3+l.2)),GX []]|none=>[])++
 [⟨.none,none,.func {name:=Str.ofString e,qualname:=Str.ofString f,params:=j,body:=.stmts g,scope:=k,globals:=0,closure:=[],defaults:=.none,kwdefaults:=.none},#[]⟩,
  Hb (.type "code") [GV e b,GV f (b+1),GV "/claim/cut.py" (b+2),G7 i 0,G7 o 0,G7 0 0,G7 0 0,G7 3 0,.ref a,.bool true,G7 181 0,.ref (a+1),.none,(match c with|some _=>.ref (a+2)|none=>.none),(match c with|some _=>.ref (a+3)|none=>.none),.ref (a+2+w),G7 (b+3+h:Nat) 0,G7 i 0,GV "/claim/cut.py" (b+4+h)],
  ⟨.type "function",none,.func {name:=Str.ofString e,qualname:=Str.ofString f,params:=j,body:=.stmts g,scope:=k,globals:=3,closure:=[],defaults:=m,kwdefaults:=.none,pyModule:=n,code:=.ref (a+3+w)},#[]⟩]
noncomputable def HG(P:Params)(i:String)(g:Nat)(h:Value)(a:Obj):Obj:=match a with
 |⟨b,c,.dict d e,f⟩=>⟨b,c,.dict (d.push (Hi P (i,g,h))) (e+1),f⟩
 |a=>a
noncomputable def Ie(i:Value)(a:Obj):Obj:=match a with
 |⟨c,d,.dict b f,h⟩=>⟨c,d,.dict (match b.toList with|e::g=>(⟨e.hash,e.key,i⟩::g).toArray|[]=>b) f,h⟩
 |a=>a
noncomputable def HL(f:List Value)(a:Obj):Obj:=match a with
 |⟨b,c,.fields e,d⟩=>⟨b,c,.fields (e++f.toArray),d⟩
 |a=>a
noncomputable def Iv(f:List Value)(a:Obj):Obj:=match a with
 |⟨b,c,.cls d,e⟩=>⟨b,c,.cls {d with subclasses:=f},e⟩
 |a=>a
noncomputable def s8(c:BT×Nat)(os:List Obj):BT×Nat:=os.foldl (fun a b=>(a.1.ins a.2 b,a.2+1)) c
noncomputable def Dw(d:BT×Nat)(b:lH):BT×Nat:=let a:=s8 d b.1;(b.2.foldl (fun a c=>a.set c.1 c.2) a.1,a.2)
noncomputable def Dr(P:Params):List Obj:=(boot_heap P).objs.toList++[GX [],Hb .none [],Hb (.type "code") [GV "<module>" 182,GV "<module>" 183,GV "/claim/cut.py" 184,G7 1 0,G7 0 0,G7 0 0,G7 0 0,G7 0 0,.ref 11,.bool false,G7 181 0,.ref 12,.none,.none,.none,.none,G7 185 0,G7 1 0,GV "/claim/cut.py" 186],HE 13 3 (GV "__main__" 164)]
noncomputable def ba(P:Params)(d:String)(b f c:Nat)(a i:Int)(h:Value)(e:Option (List String)):lH:=
 let g:=match e with|some a=>a.length|none=>0
 let w:=match e with|some _=>2|none=>0
 (He d d b f (az c) (aT c) (aA c) a i h Hc e,[(3,HG P d (f+5+g) (.ref (b+4+w))),(12,HL [G7 a 0,G7 0 0,.ref (b+3+w)])])
noncomputable def bo:Value:=GV "paperhold.objects" 375
noncomputable def bQ:Value:=GV "paperhold.compare" 661
noncomputable def di:Value:=GV "paperhold.decimals" 252
noncomputable def eP:Value:=GV "law_nn0152_01" 925
noncomputable def G5(a:Int):Value:=G7 a 0
noncomputable def fO:Obj:=Hb (.type "builtin_function_or_method") [(.builtin "type.__prepare__"),(.type "type")]
noncomputable def fN(c:String)(a:Nat)(b:Int)(d:Nat)(e:Int)(f:Nat):Obj:=Hb (.type "code") [GV c a,GV c (a+1),GV "/claim/cut.py" (a+2),G5 b,G5 0,G5 0,G5 0,G5 0,.ref d,.bool false,G5 181,.ref (d+1),Hc,Hc,Hc,Hc,G5 e,G5 b,GV "/claim/cut.py" f]
noncomputable def Dv(P:Params):List lH:=[
 ba P "_wall" 15 187 0 1 1 (GV "__main__" 164) (some ["k"]),
 ([],[(3,Ie (GV "paperhold.errors" 194))]),
 ([GX [(.type "Exception")],fO,G6 P [("__module__",203,(GV "paperhold.errors" 194)),("__qualname__",205,(GV "PaperError" 204)),("__firstlineno__",207,(G7 5 206)),("__init__",218,(.ref 36)),("told",225,(.ref 43)),("__static_attributes__",228,(.ref 44))] 6,GX [],Hb Hc [(G5 7),(G5 4),(.ref 35),(G5 12),(G5 4),(.ref 42)],fN "PaperError" 198 5 25 201 202,HE 27 24 (GV "paperhold.errors" 194),GX [(G7 (-1) 209)]]++He "__init__" "PaperError.__init__" 30 210 (bj 2 0) (bq 2 0) (a1 2 0) 7 3 (GV "paperhold.errors" 194) (.ref 29) (some ["self","what","at"])++He "told" "PaperError.told" 37 219 (bj 2 1) (bq 2 1) (a1 2 1) 12 1 (GV "paperhold.errors" 194) Hc (some ["self"])++[GX [(GV "at" 226),(GV "what" 227)],G6 P [("__module__",203,(GV "paperhold.errors" 194)),("__firstlineno__",207,(G7 5 206)),("__init__",218,(.ref 36)),("told",225,(.ref 43)),("__static_attributes__",228,(.ref 44)),("__weakref__",230,(.ref 47)),("__doc__",231,Hc)] 3,HI "PaperError" [(.type "Exception")] [(.ref 46),(.type "Exception"),(.type "BaseException"),(.type "object")] 45 [] [(some (.ref 22)),none,(some (GV "PaperError" 196)),(some (GV "PaperError" 204)),(some (.builtin "Exception.__new__")),(some (.bool true))],Hb (.type "getset_descriptor") [(GV "__weakref__" 229),(.ref 46),(.builtin "ExceptionGroup.__weakref__"),Hc],Hb (.type "super") [(.ref 46),(.ref 46),(.ref 46)],Hb (.type "builtin_function_or_method") [(.builtin "object.__init_subclass__"),(.ref 46)]],[(3,HG P "PaperError" 235 (.ref 46)),(2,fun x=>Dt P [("type.__subclasses__.Exception.0",232,(G5 46)),("type.__subclasses__.Exception.n",233,(G5 1))] 2),(12,HL [(G5 5),(G5 0),(.ref 27)])]),
 ([GX [(.ref 46)],fO,G6 P [("__module__",243,(GV "paperhold.errors" 194)),("__qualname__",245,(GV "DraftFault" 244)),("__firstlineno__",247,(G7 14 246)),("__static_attributes__",248,(.ref 57))] 4,GX [],Hb Hc [],fN "DraftFault" 238 14 53 241 242,HE 55 52 (GV "paperhold.errors" 194),GX [],G6 P [("__module__",243,(GV "paperhold.errors" 194)),("__firstlineno__",247,(G7 14 246)),("__static_attributes__",248,(.ref 57)),("__doc__",249,Hc)] 2,HI "DraftFault" [(.ref 46)] [(.ref 59),(.ref 46),(.type "Exception"),(.type "BaseException"),(.type "object")] 58 [] [(some (.ref 50)),none,(some (GV "DraftFault" 236)),(some (GV "DraftFault" 244)),(some (.builtin "Exception.__new__")),(some (.bool true))],Hb (.type "super") [(.ref 59),(.ref 59),(.ref 59)],Hb (.type "builtin_function_or_method") [(.builtin "object.__init_subclass__"),(.ref 59)]],[(3,HG P "DraftFault" 251 (.ref 59)),(12,HL [(G5 14),(G5 0),(.ref 55)]),(46,Iv [(.ref 59)])]),
 ([],[(3,Ie di)]),
 ([GX [],fO,G6 P [("__module__",261,di),("__qualname__",263,(GV "Decimal" 262)),("__firstlineno__",265,(G7 17 264)),("__init__",274,(.ref 75)),("plus",282,(.ref 82)),("minus",290,(.ref 89)),("times",298,(.ref 96)),("negated",305,(.ref 103)),("compared",313,(.ref 110)),("is_whole",320,(.ref 117)),("floor",327,(.ref 124)),("rounded",335,(.ref 131)),("told",342,(.ref 138)),("text",350,(.ref 145)),("least_text",357,(.ref 152)),("__static_attributes__",360,(.ref 153))] 16,GX [],Hb Hc [(G5 19),(G5 4),(.ref 74),(G5 26),(G5 4),(.ref 81),(G5 29),(G5 4),(.ref 88),(G5 32),(G5 4),(.ref 95),(G5 35),(G5 4),(.ref 102),(G5 38),(G5 4),(.ref 109),(G5 41),(G5 4),(.ref 116),(G5 44),(G5 4),(.ref 123),(G5 47),(G5 4),(.ref 130),(G5 50),(G5 4),(.ref 137),(G5 53),(G5 4),(.ref 144),(G5 60),(G5 4),(.ref 151)],fN "Decimal" 256 17 65 259 260,HE 67 64 di]++He "__init__" "Decimal.__init__" 69 266 (bj 5 0) (bq 5 0) (a1 5 0) 19 3 di Hc (some ["self","top","places"])++He "plus" "Decimal.plus" 76 275 (bj 5 1) (bq 5 1) (a1 5 1) 26 2 di Hc (some ["self","other"])++He "minus" "Decimal.minus" 83 283 (bj 5 2) (bq 5 2) (a1 5 2) 29 2 di Hc (some ["self","other"])++He "times" "Decimal.times" 90 291 (bj 5 3) (bq 5 3) (a1 5 3) 32 2 di Hc (some ["self","other"])++He "negated" "Decimal.negated" 97 299 (bj 5 4) (bq 5 4) (a1 5 4) 35 1 di Hc (some ["self"])++He "compared" "Decimal.compared" 104 306 (bj 5 5) (bq 5 5) (a1 5 5) 38 2 di Hc (some ["self","other"])++He "is_whole" "Decimal.is_whole" 111 314 (bj 5 6) (bq 5 6) (a1 5 6) 41 1 di Hc (some ["self"])++He "floor" "Decimal.floor" 118 321 (bj 5 7) (bq 5 7) (a1 5 7) 44 1 di Hc (some ["self"])++He "rounded" "Decimal.rounded" 125 328 (bj 5 8) (bq 5 8) (a1 5 8) 47 2 di Hc (some ["self","places"])++He "told" "Decimal.told" 132 336 (bj 5 9) (bq 5 9) (a1 5 9) 50 1 di Hc (some ["self"])++He "text" "Decimal.text" 139 343 (bj 5 10) (bq 5 10) (a1 5 10) 53 1 di Hc (some ["self","numerals"])++He "least_text" "Decimal.least_text" 146 351 (bj 5 11) (bq 5 11) (a1 5 11) 60 1 di Hc (some ["self"])++[GX [(GV "places" 358),(GV "top" 359)],G6 P [("__module__",261,di),("__firstlineno__",265,(G7 17 264)),("__init__",274,(.ref 75)),("plus",282,(.ref 82)),("minus",290,(.ref 89)),("times",298,(.ref 96)),("negated",305,(.ref 103)),("compared",313,(.ref 110)),("is_whole",320,(.ref 117)),("floor",327,(.ref 124)),("rounded",335,(.ref 131)),("told",342,(.ref 138)),("text",350,(.ref 145)),("least_text",357,(.ref 152)),("__static_attributes__",360,(.ref 153)),("__dict__",362,(.ref 156)),("__weakref__",364,(.ref 157)),("__doc__",365,Hc)] 4,HI "Decimal" [(.type "object")] [(.ref 155),(.type "object")] 154 [] [none,none,(some (GV "Decimal" 254)),(some (GV "Decimal" 262)),(some (.builtin "object.__new__")),(some (.bool true))],Hb (.type "getset_descriptor") [(GV "__dict__" 361),(.ref 155),(.builtin "function.__dict__"),(.builtin "function.__dict__#set")],Hb (.type "getset_descriptor") [(GV "__weakref__" 363),(.ref 155),(.builtin "ExceptionGroup.__weakref__"),Hc],Hb (.type "super") [(.ref 155),(.ref 155),(.ref 155)],Hb (.type "builtin_function_or_method") [(.builtin "object.__init_subclass__"),(.ref 155)]],[(3,HG P "Decimal" 367 (.ref 155)),(12,HL [(G5 17),(G5 0),(.ref 67)])]),
 ba P "sign_text" 160 368 6 62 1 di (some ["number"]),
 ([],[(3,Ie bo)]),
 ([],[(3,HG P "MOST_HOPS" 378 (G7 30 377))]),
 ([GX [],fO,G6 P [("__module__",386,bo),("__qualname__",388,(GV "Name" 387)),("__firstlineno__",390,(G7 66 389)),("__init__",398,(.ref 180)),("__static_attributes__",400,(.ref 181))] 5,GX [],Hb Hc [(G5 68),(G5 4),(.ref 179)],fN "Name" 381 66 170 384 385,HE 172 169 bo]++He "__init__" "Name.__init__" 174 391 (bj 9 0) (bq 9 0) (a1 9 0) 68 2 bo Hc (some ["self","text"])++[GX [(GV "text" 399)],G6 P [("__module__",386,bo),("__firstlineno__",390,(G7 66 389)),("__init__",398,(.ref 180)),("__static_attributes__",400,(.ref 181)),("__dict__",402,(.ref 184)),("__weakref__",404,(.ref 185)),("__doc__",405,Hc)] 4,HI "Name" [(.type "object")] [(.ref 183),(.type "object")] 182 [] [none,none,(some (GV "Name" 379)),(some (GV "Name" 387)),(some (.builtin "object.__new__")),(some (.bool true))],Hb (.type "getset_descriptor") [(GV "__dict__" 401),(.ref 183),(.builtin "function.__dict__"),(.builtin "function.__dict__#set")],Hb (.type "getset_descriptor") [(GV "__weakref__" 403),(.ref 183),(.builtin "ExceptionGroup.__weakref__"),Hc],Hb (.type "super") [(.ref 183),(.ref 183),(.ref 183)],Hb (.type "builtin_function_or_method") [(.builtin "object.__init_subclass__"),(.ref 183)]],[(3,HG P "Name" 407 (.ref 183)),(12,HL [(G5 66),(G5 0),(.ref 172)])]),
 ([GX [],fO,G6 P [("__module__",415,bo),("__qualname__",417,(GV "String" 416)),("__firstlineno__",419,(G7 70 418)),("__init__",428,(.ref 202)),("__static_attributes__",431,(.ref 203))] 5,GX [],Hb Hc [(G5 72),(G5 4),(.ref 201)],fN "String" 410 70 191 413 414,HE 193 190 bo,GX [(.bool false)]]++He "__init__" "String.__init__" 196 420 (bj 10 0) (bq 10 0) (a1 10 0) 72 3 bo (.ref 195) (some ["self","octets","is_hex"])++[GX [(GV "is_hex" 429),(GV "octets" 430)],G6 P [("__module__",415,bo),("__firstlineno__",419,(G7 70 418)),("__init__",428,(.ref 202)),("__static_attributes__",431,(.ref 203)),("__dict__",433,(.ref 206)),("__weakref__",435,(.ref 207)),("__doc__",436,Hc)] 4,HI "String" [(.type "object")] [(.ref 205),(.type "object")] 204 [] [none,none,(some (GV "String" 408)),(some (GV "String" 416)),(some (.builtin "object.__new__")),(some (.bool true))],Hb (.type "getset_descriptor") [(GV "__dict__" 432),(.ref 205),(.builtin "function.__dict__"),(.builtin "function.__dict__#set")],Hb (.type "getset_descriptor") [(GV "__weakref__" 434),(.ref 205),(.builtin "ExceptionGroup.__weakref__"),Hc],Hb (.type "super") [(.ref 205),(.ref 205),(.ref 205)],Hb (.type "builtin_function_or_method") [(.builtin "object.__init_subclass__"),(.ref 205)]],[(3,HG P "String" 438 (.ref 205)),(12,HL [(G5 70),(G5 0),(.ref 193)])]),
 ([GX [],fO,G6 P [("__module__",446,bo),("__qualname__",448,(GV "Stream" 447)),("__firstlineno__",450,(G7 75 449)),("__init__",459,(.ref 223)),("__static_attributes__",462,(.ref 224))] 5,GX [],Hb Hc [(G5 77),(G5 4),(.ref 222)],fN "Stream" 441 75 213 444 445,HE 215 212 bo]++He "__init__" "Stream.__init__" 217 451 (bj 11 0) (bq 11 0) (a1 11 0) 77 3 bo Hc (some ["self","head","octets"])++[GX [(GV "head" 460),(GV "octets" 461)],G6 P [("__module__",446,bo),("__firstlineno__",450,(G7 75 449)),("__init__",459,(.ref 223)),("__static_attributes__",462,(.ref 224)),("__dict__",464,(.ref 227)),("__weakref__",466,(.ref 228)),("__doc__",467,Hc)] 4,HI "Stream" [(.type "object")] [(.ref 226),(.type "object")] 225 [] [none,none,(some (GV "Stream" 439)),(some (GV "Stream" 447)),(some (.builtin "object.__new__")),(some (.bool true))],Hb (.type "getset_descriptor") [(GV "__dict__" 463),(.ref 226),(.builtin "function.__dict__"),(.builtin "function.__dict__#set")],Hb (.type "getset_descriptor") [(GV "__weakref__" 465),(.ref 226),(.builtin "ExceptionGroup.__weakref__"),Hc],Hb (.type "super") [(.ref 226),(.ref 226),(.ref 226)],Hb (.type "builtin_function_or_method") [(.builtin "object.__init_subclass__"),(.ref 226)]],[(3,HG P "Stream" 469 (.ref 226)),(12,HL [(G5 75),(G5 0),(.ref 215)])]),
 ([GX [],fO,G6 P [("__module__",477,bo),("__qualname__",479,(GV "Reference" 478)),("__firstlineno__",481,(G7 80 480)),("__init__",490,(.ref 244)),("pair",497,(.ref 251)),("__static_attributes__",500,(.ref 252))] 6,GX [],Hb Hc [(G5 82),(G5 4),(.ref 243),(G5 86),(G5 4),(.ref 250)],fN "Reference" 472 80 234 475 476,HE 236 233 bo]++He "__init__" "Reference.__init__" 238 482 (bj 12 0) (bq 12 0) (a1 12 0) 82 3 bo Hc (some ["self","number","generation"])++He "pair" "Reference.pair" 245 491 (bj 12 1) (bq 12 1) (a1 12 1) 86 1 bo Hc (some ["self"])++[GX [(GV "generation" 498),(GV "number" 499)],G6 P [("__module__",477,bo),("__firstlineno__",481,(G7 80 480)),("__init__",490,(.ref 244)),("pair",497,(.ref 251)),("__static_attributes__",500,(.ref 252)),("__dict__",502,(.ref 255)),("__weakref__",504,(.ref 256)),("__doc__",505,Hc)] 4,HI "Reference" [(.type "object")] [(.ref 254),(.type "object")] 253 [] [none,none,(some (GV "Reference" 470)),(some (GV "Reference" 478)),(some (.builtin "object.__new__")),(some (.bool true))],Hb (.type "getset_descriptor") [(GV "__dict__" 501),(.ref 254),(.builtin "function.__dict__"),(.builtin "function.__dict__#set")],Hb (.type "getset_descriptor") [(GV "__weakref__" 503),(.ref 254),(.builtin "ExceptionGroup.__weakref__"),Hc],Hb (.type "super") [(.ref 254),(.ref 254),(.ref 254)],Hb (.type "builtin_function_or_method") [(.builtin "object.__init_subclass__"),(.ref 254)]],[(3,HG P "Reference" 507 (.ref 254)),(12,HL [(G5 80),(G5 0),(.ref 236)])]),
 ba P "kind_of" 259 508 13 88 1 bo (some ["value"]),
 ba P "told_plain" 266 515 14 110 2 bo (some ["kind","value"]),
 ba P "told" 273 523 15 124 1 bo none,
 ([],[(3,HG P "told_objects" 529 (.ref 277))]),
 ba P "copied" 278 530 17 134 1 bo none,
 ([GX [],fO,G6 P [("__module__",543,bo),("__qualname__",545,(GV "Lookup" 544)),("__firstlineno__",547,(G7 143 546)),("__init__",556,(.ref 297)),("fetch",568,(.ref 304)),("get",577,(.ref 311)),("__static_attributes__",580,(.ref 312))] 7,GX [],Hb Hc [(G5 145),(G5 4),(.ref 296),(G5 149),(G5 4),(.ref 303),(G5 160),(G5 4),(.ref 310)],fN "Lookup" 538 143 286 541 542,HE 288 285 bo,GX [Hc,Hc]]++He "__init__" "Lookup.__init__" 291 548 (bj 18 0) (bq 18 0) (a1 18 0) 145 3 bo (.ref 290) (some ["self","table","trailer"])++He "fetch" "Lookup.fetch" 298 557 (bj 18 1) (bq 18 1) (a1 18 1) 149 2 bo Hc (some ["self","value","here","hop","generation","found"])++He "get" "Lookup.get" 305 569 (bj 18 2) (bq 18 2) (a1 18 2) 160 3 bo Hc (some ["self","head","key"])++[GX [(GV "table" 578),(GV "trailer" 579)],G6 P [("__module__",543,bo),("__firstlineno__",547,(G7 143 546)),("__init__",556,(.ref 297)),("fetch",568,(.ref 304)),("get",577,(.ref 311)),("__static_attributes__",580,(.ref 312)),("__dict__",582,(.ref 315)),("__weakref__",584,(.ref 316)),("__doc__",585,Hc)] 4,HI "Lookup" [(.type "object")] [(.ref 314),(.type "object")] 313 [] [none,none,(some (GV "Lookup" 536)),(some (GV "Lookup" 544)),(some (.builtin "object.__new__")),(some (.bool true))],Hb (.type "getset_descriptor") [(GV "__dict__" 581),(.ref 314),(.builtin "function.__dict__"),(.builtin "function.__dict__#set")],Hb (.type "getset_descriptor") [(GV "__weakref__" 583),(.ref 314),(.builtin "ExceptionGroup.__weakref__"),Hc],Hb (.type "super") [(.ref 314),(.ref 314),(.ref 314)],Hb (.type "builtin_function_or_method") [(.builtin "object.__init_subclass__"),(.ref 314)]],[(3,HG P "Lookup" 587 (.ref 314)),(12,HL [(G5 143),(G5 0),(.ref 288)])]),
 ([GX [(.ref 314)],fO,G6 P [("__module__",595,bo),("__qualname__",597,(GV "Shelf" 596)),("__firstlineno__",599,(G7 162 598)),("put",609,(.ref 332)),("add",617,(.ref 339)),("drop",625,(.ref 346)),("numbers",632,(.ref 353)),("root",639,(.ref 360)),("told",645,(.ref 365)),("__static_attributes__",646,(.ref 366))] 10,GX [],Hb Hc [(G5 164),(G5 4),(.ref 331),(G5 167),(G5 4),(.ref 338),(G5 170),(G5 4),(.ref 345),(G5 173),(G5 4),(.ref 352),(G5 176),(G5 4),(.ref 359),(G5 179),(G5 4),(.ref 364)],fN "Shelf" 590 162 322 593 594,HE 324 321 bo]++He "put" "Shelf.put" 326 600 (bj 19 0) (bq 19 0) (a1 19 0) 164 4 bo Hc (some ["self","number","generation","value"])++He "add" "Shelf.add" 333 610 (bj 19 1) (bq 19 1) (a1 19 1) 167 2 bo Hc (some ["self","value"])++He "drop" "Shelf.drop" 340 618 (bj 19 2) (bq 19 2) (a1 19 2) 170 2 bo Hc (some ["self","number"])++He "numbers" "Shelf.numbers" 347 626 (bj 19 3) (bq 19 3) (a1 19 3) 173 1 bo Hc (some ["self"])++He "root" "Shelf.root" 354 633 (bj 19 4) (bq 19 4) (a1 19 4) 176 1 bo Hc (some ["self"])++He "told" "Shelf.told" 361 640 (bj 19 5) (bq 19 5) (a1 19 5) 179 1 bo Hc none++[GX [],G6 P [("__module__",595,bo),("__firstlineno__",599,(G7 162 598)),("put",609,(.ref 332)),("add",617,(.ref 339)),("drop",625,(.ref 346)),("numbers",632,(.ref 353)),("root",639,(.ref 360)),("told",645,(.ref 365)),("__static_attributes__",646,(.ref 366)),("__doc__",647,Hc)] 2,HI "Shelf" [(.ref 314)] [(.ref 368),(.ref 314),(.type "object")] 367 [] [(some (.ref 319)),none,(some (GV "Shelf" 588)),(some (GV "Shelf" 596)),(some (.builtin "object.__new__")),(some (.bool true))],Hb (.type "super") [(.ref 368),(.ref 368),(.ref 368)],Hb (.type "builtin_function_or_method") [(.builtin "object.__init_subclass__"),(.ref 368)]],[(3,HG P "Shelf" 649 (.ref 368)),(12,HL [(G5 162),(G5 0),(.ref 324)]),(314,Iv [(.ref 368)])]),
 ba P "shelf_copied" 371 650 20 182 1 bo (some ["shelf","table","number","generation","value"]),
 ([],[(3,Ie bQ)]),
 ([],[(3,HG P "MOST_CELLS" 664 (G7 1600 663))]),
 ba P "value_of" 378 665 23 190 1 bQ none,
 ba P "dict_of" 383 671 24 205 1 bQ (some ["shape","found","key","part"]),
 ba P "leaf_of" 390 681 25 210 1 bQ (some ["shape","kind"]),
 ba P "common_rows" 397 689 26 221 2 bQ none,
 ba P "kept_pairs" 402 695 27 240 2 bQ none,
 ba P "array_rows" 407 701 28 255 3 bQ (some ["path","one","other","pairs","partners","known","left","right","rows"]),
 ba P "dict_rows" 414 716 29 272 3 bQ none,
 ba P "pairs_of" 419 722 30 282 1 bQ (some ["shape","found","key","part"]),
 ba P "shape_rows" 426 732 31 287 3 bQ (some ["path","one","other","rows"]),
 ba P "object_rows" 433 742 32 300 3 bQ (some ["number","one","other","path","rows"]),
 ba P "differences" 440 753 33 316 2 bQ none,
 ba P "need" 445 759 34 323 2 bQ (some ["is_right","what"]),
 ba P "grouped" 452 767 35 326 1 bQ (some ["rows","found","path","way","old","new"]),
 ba P "single" 459 779 36 332 2 bQ none,
 ba P "shape_applied" 464 785 37 336 2 bQ (some ["shape","rows","turned"]),
 ba P "dict_shape" 471 794 38 349 1 bQ none,
 ba P "dict_applied" 476 800 39 351 2 bQ (some ["pairs","rows","found","parts","key","added","gone"]),
 ba P "array_applied" 483 813 40 368 2 bQ (some ["parts","rows","added","later","row","behind","kept","spot","some","gone","found"]),
 ba P "stream_applied" 490 830 41 395 2 bQ (some ["shape","rows","head","octets","parts","step","found"]),
 ba P "object_applied" 497 843 42 407 2 bQ none,
 ba P "applied" 502 849 43 425 2 bQ (some ["start","rows","table","trailer","parts","step"]),
 ba P "put_object" 509 861 44 438 3 bQ (some ["table","number","rows","entry","found"]),
 ba P "show_step" 516 872 45 447 1 bQ none,
 ba P "show_shape" 521 878 46 453 1 bQ none,
 ba P "shown" 526 884 47 466 1 bQ none,
 ba P "touched" 531 890 48 477 1 bQ (some ["rows","found","path","way","old","new"]),
 ba P "clashes" 538 902 49 485 2 bQ (some ["one","other","found","left","right","least"]),
 ba P "joined" 545 914 50 493 3 bQ (some ["base","one","other","first","second"]),
 ([],[(3,Ie eP)]),
 ba P "_law_pen" 552 927 52 499 1 eP (some ["script"]),
 ba P "_law_draw" 559 934 53 501 2 eP (some ["pen","many","digit","spot","cell","mix"]),
 ba P "_law_base" 566 946 54 519 1 eP none,
 ba P "_law_draft" 571 952 55 524 2 eP (some ["pen","base","plain","number","lap","way","key","worth"]),
 ba P "_law_shelf" 578 966 56 545 1 eP (some ["plain","shelf","number"]),
 ba P "_law_rows" 585 975 57 551 2 eP (some ["base","draft","rows","number","step","head","one","other","keys","key","place"]),
 ba P "_law_shown_right" 592 992 58 574 2 eP none,
 ba P "_law_clashes" 597 998 59 580 3 eP (some ["base","one","other","found","left","text","right","words"]),
 ba P "_law_joined" 604 1012 60 587 3 eP none,
 ba P "law" 609 1018 61 606 1 eP none]
noncomputable def gw(a:Nat)(P:Params):BT×Nat:=((Dv P).take a).foldl Dw (s8 (.nil,0) (Dr P))
noncomputable def fh(a b:Nat)(w:World)(os:OsState):SharedT:=⟨(gw a w.params).1,(gw a w.params).2,{},#[],{},b,os⟩
noncomputable def Hu:List Stmt:=behindTheImports PySem.Challenge.pw_nn0152_01
noncomputable def mY:Env:={scope:=PySem.Challenge.pw_nn0152_01.main.scope,locals:=mainNs,globals:=mainNs,cells:=[],code:=.ref 13,frame:=some 14}
noncomputable abbrev Hr:Code:=.body Hu mY
noncomputable def mZ(w:World)(os:OsState)(a b c e:Nat)(d:Pos):Option (Flow×SharedT×Code×Pos):=
 segRunT treeTable PySem.Challenge.pw_nn0152_01 w 11 (some (.ref 6)) 1 c (fh a e w os) (piecesOf ((Hu.drop a).take b) mY Hr d [topFrame ⟨0,0,0,0⟩])
noncomputable abbrev HN:Program:=PySem.Challenge.pw_nn0152_01
noncomputable abbrev Iq:Frame:=topFrame ⟨0,0,0,0⟩
noncomputable abbrev Ds(w:World)(os:OsState):Shared:=⟨boot_heap w.params,#[],boot_drawn,boot_toks,os⟩
theorem DW(w:World)(os:OsState):topGo treeTable HN w 11 (some (.ref 6)) 12 (Ds w os) (topStub HN)=some ((fh 0 187 w os).abs,⟨denote treeTable Hr,Hr,⟨0,0,0,0⟩,[Iq]⟩):=by kernel_rfl
theorem DD(w:World)(os:OsState):segRun treeTable HN w 11 (some (.ref 6)) 1 1 (fh 0 187 w os).abs (blockOf Hu mY Hr ⟨0,0,0,0⟩ [Iq])=some (.next,(fh 0 187 w os).abs,Hr,⟨0,0,0,0⟩):=by kernel_rfl
theorem DK(w:World)(os:OsState):topRun treeTable HN w 11 (some (.ref 6)) 2 (fh 62 1024 w os).abs ⟨doneF .next,Hr,⟨606,0,631,15⟩,[Iq]⟩=some (fh 62 1024 w os).abs:=by kernel_rfl
noncomputable def Hl:Program:={PySem.Challenge.pw_nn0152_01 with main:={PySem.Challenge.pw_nn0152_01.main with body:=Hu.drop 61}}
noncomputable def HA:List Str:=(PySem.Challenge.pw_nn0152_01.main.scope.names.map (fun x=>x.1)).filter fun a=> !(a==Str.ofString "law")&& !(a==Str.ofString "__name__")
noncomputable abbrev Hh(P:Params):Heap:=absHeap (gw 62 P).1 (gw 62 P).2 {}
noncomputable def kk(P:Params)(os:OsState):Shared:=⟨Hh P,#[],{},1024,os⟩
theorem DN(P:Params):staticsOk (importedModules PySem.Challenge.pw_nn0152_01.main.body) (boot_heap P) (Hh P)=true:=by kernel_rfl
theorem DO(P:Params):namesBound PySem.Challenge.pw_nn0152_01 (Hh P)=true:=by kernel_rfl
theorem DP(P:Params):laidKept (boot_heap P) (Hh P)=true:=by kernel_rfl
theorem DQ(P:Params)(os:OsState):openSeen Hl HA (importedModules PySem.Challenge.pw_nn0152_01.main.body) (fun x=>true) true (kk P os)=openGood Hl HA:=by kernel_rfl
noncomputable abbrev dX:OpenRow:=PySem.Challenge.rw_nn0152_01.row
theorem DT:(chainsOk Hl&&opensWell dX.prog&&(frees dX.toRowW&&dX.within.isEmpty))=true:=by exists 4
theorem DC:dX.prog.bare:=⟨rfl,rfl,rfl,rfl,rfl,by exists 4⟩
theorem DX:dX.toRowW.promised:=⟨[.list []],by decide+kernel,by exists 4⟩
theorem Dy(w:World)(os:OsState):mZ w os 0 13 2073 187 ⟨0,0,0,0⟩=some (.next,fh 13 508 w os,Hr,⟨80,0,87,45⟩):=by kernel_rfl
theorem Dz(w:World)(os:OsState):mZ w os 13 7 816 508 ⟨80,0,87,45⟩=some (.next,fh 20 650 w os,Hr,⟨162,0,181,49⟩):=by kernel_rfl
theorem DA(w:World)(os:OsState):mZ w os 20 42 1224 650 ⟨162,0,181,49⟩=some (.next,fh 62 1024 w os,Hr,⟨606,0,631,15⟩):=by kernel_rfl
section
theorem m1{k a c b:Nat}{e f:SharedT}{d:Pos}(h:segRunT KE KH KI q KJ 1 c e (piecesOf ((I2.drop k).take a) Jq Ku I9 [topFrame N])=some (.next,f,Ku,d))
(i:topRun KE KH KI q KJ b f.abs (restOf (I2.drop (k+a)) Jq Ku d [topFrame N])=some p):topRun KE KH KI q KJ (c+b) e.abs (restOf (I2.drop k) Jq Ku I9 [topFrame N])=some p:=by
 have g:I2.drop k=(I2.drop k).take a++I2.drop (k+a):=by rw[<-List.drop_drop];exact(Pn ..).symm
 rw[g];exact piece_app (segRun_of h) i
theorem DF{d c:Nat}{S:Shared}{j:Thread}{a h i b:SharedT}{e f g:Pos}(s:topGo KE KH KI q KJ v S j=some (a.abs,⟨denote KE (.body I2 Jq),Ku,I9,[topFrame N]⟩))
(l:segRun KE KH KI q KJ 1 1 a.abs (blockOf I2 Jq Ku I9 [topFrame N])=some (.next,a.abs,Ku,I9))
(o:segRunT KE KH KI q KJ 1 Jd a (piecesOf ((I2.drop 0).take 13) Jq Ku I9 [topFrame N])=some (.next,h,Ku,e))
(p:segRunT KE KH KI q KJ 1 JH h (piecesOf ((I2.drop 13).take 7) Jq Ku e [topFrame N])=some (.next,i,Ku,f))
(r:segRunT KE KH KI q KJ 1 d i (piecesOf ((I2.drop 20).take 42) Jq Ku f [topFrame N])=some (.next,b,Ku,g))(m:I2.drop 62=[])
(n:topRun KE KH KI q KJ c b.abs ⟨doneF .next,Ku,g,[topFrame N]⟩=some b.abs):topRun KE KH KI q KJ (v+(1+(Jd+(JH+(d+c))))) S j=some b.abs:=
 go_top s (piece_block l (m1 (k:=0) o (m1 (k:=13) p (m1 (k:=20) r (by rw[m];exact piece_nil n)))))
end
theorem DH:Hu.drop 62=[]:=by kernel_rfl
theorem DB(w:World)(os:OsState):(fh 62 1024 w os).abs=⟨absHeap (gw 62 w.params).1 (gw 62 w.params).2 {},#[],{},1024,os⟩:=by kernel_rfl
theorem DZ(w:World)(os:OsState):topRun treeTable HN w 11 (some (.ref 6)) (12+(1+(2073+(816+(1224+2))))) ⟨boot_heap w.params,#[],boot_drawn,boot_toks,os⟩ (topStub HN)=some ⟨absHeap (gw 62 w.params).1 (gw 62 w.params).2 {},#[],{},1024,os⟩:=
 (DF (DW w os) (DD w os) (Dy w os) (Dz w os) (DA w os) DH (DK w os)).trans (congrArg some (DB w os))
theorem DU:opening HN=plainProg HN.main.scope.names:=by kernel_rfl
theorem DJ:∀a:Shared,fenceModules? HN a=some a:=by intro a;kernel_rfl
theorem D0(w:World):((boot_heap w.params).isNs mainGlobals&&(#[]:Array GenState).size==0,(boot_heap w.params).objs.size,(boot_heap w.params).nsMap mainGlobals "__annotations__")=(true,11,some (.ref 6)):=by kernel_rfl
theorem DS(w:World):(fun os=>((staticsOk (importedModules HN.main.body) (boot_heap w.params) (Hh w.params)&&namesBound HN (Hh w.params)&&gensDone (kk w.params os)&&laidKept (boot_heap w.params) (Hh w.params)),openSeen Hl HA (importedModules HN.main.body) (fun x=>true) true (kk w.params os),(kk w.params os).heap))=fun x=>(true,openGood Hl HA,Hh w.params):=
 funext fun os=>Prod.ext (look_both (look_both (look_both (DN _) (DO _)) rfl) (DP _)) (Prod.ext (DQ _ _) rfl)
theorem DR:LeftO HN Hl HA (fun x=>true) (fun a=>a.heap) (fun w=>Hh w.params) 5000:=by
 refine LeftO.of_pieces (H₀:=boot_heap) (H₁:=Hh) (gs₀:= #[]) (gs₁:= #[]) (d₀:=boot_drawn) (d₁:={}) (k₀:=boot_toks) (k₁:=1024) (m₀:=11) (ann:=some (.ref 6)) (M:=12+(1+(2073+(816+(1224+2))))) ?_ D0 ?_ ?_ DS
 ·exact boot_open DU (by decide) DJ
 ·exact DZ
 ·decide
noncomputable def Du(c:Heap)(a:Addr):Value:=match c.get? a with|some ⟨_,_,.func b,_⟩=>b.pyModule|_=>.none
noncomputable def hG(a:Obj):Option Value:=match a.data with|.fields b=>b[1]? |_=>none
noncomputable def Dx(b:Heap)(a:Addr):Tok:=match (b.get? a).bind hG with|some (.str _ c)=>c|_=>0
noncomputable def hH(b:Heap)(a:Addr):Option Data×Option Value:=((b.get? a).map (·.data),(b.get? (a-1)).bind hG)
noncomputable def hI(b:Heap)(a:Addr)(e c:Str)(f:Arguments)(d:List Stmt)(g:Scope):Option Data×Option Value:=
 (some (.func {docDef e f d g (Du b a) (.ref (a-1)) .none with qualname:=c}),some (.str c (Dx b (a-1))))
theorem m0{e base:Heap}(i:aV e base){f:Tok}(a:(e.get? d).bind hG=some (.str h f)):base.CodeRec (.ref d) h:=by
 refine ah (Ss.mp a) fun c g=>?_;have a:=g.2;unfold hG at a;cases b:c.data with
 |fields j=>replace a:=b▸a;exact⟨d,c,j,f,rfl,i d c g.1,b,a⟩
 |_=>replace a:=b▸a;cases a
theorem iU{a base:Heap}(b:aV a base)(g:hH a d=hI a d h I5 Kh I2 KR):fy base d h I5 Kh I2 KR:=by
 refine aW (Oh g) fun e=>?_;refine ah (Po.mp e.1) fun c f=>?_;exact⟨c,_,_,_,b d c f.1,f.2,m0 b e.2⟩
theorem nu{c d:D->I1}{a:List D}(e:a.map c=a.map d){b:D}(f:a[q]? =some b):c b=d b:=by
 have:=congrArg (·[q]?) e;simp only[Ot,f,QA]at this;exact NM this
noncomputable abbrev lz(b:Heap):Prop:=(mT.map fun a=>(b.nsMap mainGlobals a.1,hH b a.2.1))=mT.map fun a=>(some (.ref a.2.1),hI b a.2.1 a.1 a.1 (az a.2.2) (aT a.2.2) (aA a.2.2))
noncomputable abbrev lA(a:Heap):Prop:=(a.nsMap mainGlobals "told_objects",a.nsMap mainGlobals "MOST_CELLS",a.nsMap mainGlobals "Exception",a.nsMap mainGlobals "law")=(some (.ref 277),some (.int 1600 663),none,some (.ref 613))
noncomputable abbrev lB(b:Heap):Prop:=(([("PaperError",46),("DraftFault",59),("Decimal",155),("Name",183),("String",205),("Stream",226),("Reference",254),("Lookup",314),("Shelf",368)]:List (Str×Addr)).map fun a=>b.nsMap mainGlobals a.1)=([("PaperError",46),("DraftFault",59),("Decimal",155),("Name",183),("String",205),("Stream",226),("Reference",254),("Lookup",314),("Shelf",368)]:List (Str×Addr)).map fun a=>some (.ref a.2)
noncomputable abbrev lC(a:Heap):Prop:=((["len","min","max","abs","int","str","list","dict","tuple","set","range","zip","sorted","isinstance","bool","bytes"]:List Str).map fun b=>a.nsMap mainGlobals b)=(["len","min","max","abs","int","str","list","dict","tuple","set","range","zip","sorted","isinstance","bool","bytes"]:List Str).map fun y=>none
noncomputable abbrev lD(a:Heap):Prop:=(hH a 613,hH a 332,hH a 353,hH a 365)=(hI a 613 "law" "law" (az 61) (aT 61) (aA 61),hI a 332 "put" "Shelf.put" (bj 19 0) (bq 19 0) (a1 19 0),hI a 353 "numbers" "Shelf.numbers" (bj 19 3) (bq 19 3) (a1 19 3),hI a 365 "told" "Shelf.told" (bj 19 5) (bq 19 5) (a1 19 5))
noncomputable abbrev lE(a:Heap):Prop:=((a.get? 296).bind hG,(a.get? 35).bind hG)=(some (.str "Lookup.__init__" 549),some (.str "PaperError.__init__" 211))
noncomputable abbrev lF(P:Params)(a:Heap):Prop:=((KF (PyData.keyHash P)).map (fun x=>x.1)).map a.get? =(KF (PyData.keyHash P)).map (fun b=>some b.2)
noncomputable abbrev lG(a:Heap):Prop:=((a.get? sysModules).isSome,(a.get? mainGlobals).isSome)=(true,true)
theorem E6{K:Frag}(a:(K.map (fun x=>x.1)).map I.get? =K.map (fun b=>some b.2)):K.In I:=Frag.in_of rfl a
theorem DV{P:Params}{a base:Heap}{G2 HF:Str->Option Value}(t:lz a)(u:lA a)(v:lB a)(x:lC a)(y:lD a)(z:lE a)(A:lF P a)(B:lG a)(b:aV a base)(j:iz base G2 HF)(c:∀h,G2 h=a.nsMap mainGlobals h):iw base G2 HF:=by
 obtain⟨k,e⟩:=Oh u;obtain⟨e,C⟩:=Oh e;obtain⟨D,f⟩:=Oh y;obtain⟨f,g⟩:=Oh f;obtain⟨g,l⟩:=Oh g;obtain⟨m,n⟩:=Oh z;refine⟨j,?_,fun i s d=>?_,(c _).trans k,(c _).trans e,he (m0 b m) (m0 b n),⟨iU b f,iU b g,iU b l⟩,⟨PyData.keyHash P,Frag.In.keeps (E6 A) b⟩,fun i s d=>(c _).trans (nu v d),fun i h d=>(c _).trans (nu x d)⟩
 ·obtain⟨r,q⟩:=Oa.mp (congrArg Prod.fst B);exact⟨r,b _ _ q⟩
 ·obtain⟨o,p⟩:=Oh (nu t d);exact⟨(c _).trans o,iU b p⟩
theorem D1(P:Params):lz (Hh P):=by kernel_rfl
theorem D2(P:Params):lA (Hh P):=by kernel_rfl
theorem D3(P:Params):lB (Hh P):=by kernel_rfl
theorem D4(P:Params):lC (Hh P):=by kernel_rfl
theorem D5(P:Params):lD (Hh P):=by kernel_rfl
theorem D6(P:Params):lE (Hh P):=by kernel_rfl
theorem D7(P:Params):lF P (Hh P):=by kernel_rfl
theorem D8(P:Params):lG (Hh P):=by kernel_rfl
theorem nM{a base:Heap}{G2:Str->Option Value}(e:aV a base)(d:(a.get? mainGlobals).isSome=true)(f:base.Ns mainGlobals G2)(c:Str):G2 c=a.nsMap mainGlobals c:=by
 obtain⟨g,b⟩:=Oa.mp d;rw[f.eq_nsMap];unfold Heap.nsMap;rw[b,e _ _ b]
theorem DL{P:Params}{a base:Heap}{G2 HF:Str->Option Value}(i:lz a)(e:lA a)(j:lB a)(k:lC a)(f:lD a)(l:lE a)(m:lF P a)(d:lG a)(b:aV a base)(c:iz base G2 HF):
  iw base G2 HF/\G2 "Exception"=none/\G2 "law"=some (.ref 613)/\fy base 613 "law" "law" (az 61) (aT 61) (aA 61):=by
 refine aW (Oh e) fun n=>?_;refine aW (Oh n.2) fun o=>?_;have h:=o.2;refine aW (Oh h) fun g=>?_;exact⟨DV i e j k f l m d b c (nM b (congrArg Prod.snd d) c.g),((nM b (congrArg Prod.snd d) c.g) _).trans g.1,((nM b (congrArg Prod.snd d) c.g) _).trans g.2,iU b (Oh f).1⟩
theorem DI{P:Params}{base:Heap}{G2 HF:Str->Option Value}(b:aV (Hh P) base)(a:iz base G2 HF):
  iw base G2 HF/\G2 "Exception"=none/\G2 "law"=some (.ref 613)/\fy base 613 "law" "law" (az 61) (aT 61) (aA 61):=
 DL (D1 P) (D2 P) (D3 P) (D4 P) (D5 P) (D6 P) (D7 P) (D8 P) b a
set_option genInjectivity true in
inductive GG where
 |none
 |bool (b:Bool)
 |int (i:Int)
 |str (x:Str)
 |tup (vs:List GG)
 |c4 (a b c:Int)
 |ref (a:Addr)
 |raw (d:Value)
 deriving Inhabited
variable{i Jn:GG}{z Jm:List GG}{Y JT:List (Option GG)}{Ji Jk Jt Jx JC JI JP J0 Kj Kr Kx:Option GG}{J8:List (Str×GG)}
set_option genInjectivity true in
inductive ae where
 |i (n:Int)
 |s (x:Str)
 deriving DecidableEq
variable{IZ:List ae}{I8 Ky KQ:List (ae×GG)}{Jr:ae}{J2:List (ae×Value)}{Ka:List (List ae×GG)}{Ks:List (List ae×Addr×Value)}
inductive GL where
 |list (b:List GG)
 |fixed (b:List GG)
 |dict (GH:Nat) (a:List (ae×GG))
 |bD (GH:Nat) (a:List (List ae×GG))
 |set (a:List ae)
 |inst (c d:Addr) (e:List (Str×GG))
variable{J1:Addr×GL}
noncomputable def ae.GP:ae->GG
 |.i a=>.int a
 |.s b=>.str b
noncomputable abbrev aa:=List (Addr×GL)
variable{M:GG->aa->Prop}{V:aa}{Ki:Addr->aa->Prop}{Kn:aa->Prop}{KA:List (Option GG)->aa->Prop}
noncomputable abbrev ab:=Str->Option GG
variable{t:ab}{B:GG->ab->aa->Prop}{Jw:Bool->ab->aa->Prop}{Kq:ab->aa->Prop}{KC:List GG->ab->aa->Prop}{KD:Unit->ab->aa->Prop}
noncomputable def cb(d:ab)(c:Str)(b:GG):ab:=fun a=>if a=c then some b else d a
theorem ed(a:List GG):GL.list z≠ .fixed a:=nofun
theorem gp(a:List GG):GL.dict q I8≠ .fixed a:=nofun
theorem v6(a:List GG):GL.bD q Ka≠ .fixed a:=nofun
mutual
inductive VR(h:Heap):Value->GG->Prop
 |none:VR h .none .none
 |bool (b:Bool):VR h (.bool b) (.bool b)
 |int (i:Int) (t:Tok):VR h (.int i t) (.int i)
 |str (x:Str) (t:Tok):VR h (.str x t) (.str x)
 |tup {a:Addr} {vs:Array Value} {ds:List GG}:IsTup h a vs->ao h vs.toList ds->VR h (.ref a) (.tup ds)
 |c4 {r:Addr} {a b c:Int} {t u v:Tok}:IsRange h r a b c t u v->VR h (.ref r) (.c4 a b c)
 |ref (a:Addr):VR h (.ref a) (.ref a)
 |raw (v:Value):VR h v (.raw v)
inductive ao(h:Heap):List Value->List GG->Prop
 |nil:ao h [] []
 |cons {v:Value} {vs:List Value} {d:GG} {ds:List GG}:VR h v d->ao h vs ds->ao h (v::vs) (d::ds)
end
noncomputable def c7(a:Obj):Prop:=(a.cls=.type "tuple"/\∃b c,a.data=.seq b c)\/(a.cls=.type "range"/\∃b,a.data=.fields b)
noncomputable def cm(c d:Heap):Prop:=∀b a,c.get? b=some a->c7 a->d.get? b=some a
theorem cm.tup{b c:Heap}(j:cm b c){a:Addr}{vs:Array Value}(i:IsTup b a vs):IsTup c a vs:=by
 obtain⟨g,h,d,f,e⟩:=i;exact⟨g,j a g h (.inl ⟨d,vs,f,e⟩),d,f,e⟩
theorem cm.c4(g:cm I JR){a:Int}{b c e:Tok}(f:IsRange I d k IY a b c e):IsRange JR d k IY a b c e:=g d _ f (.inr ⟨rfl,_,rfl⟩)
theorem VR.mono(d:cm I JR)(b:VR I G i):VR JR G i:=
 VR.rec (motive_1:=fun G i x=>VR JR G i) (motive_2:=fun f e x=>ao JR f e) .none .bool .int .str (fun c x b=>.tup (d.tup c) b) (fun c=>.c4 (d.c4 c)) .ref .raw .nil (fun x x a b=>.cons a b) b
theorem ao.ind{P:List Value->List GG->Prop}(g:P [] [])(e:∀{c Ja b z},VR I c b->ao I Ja z->P Ja z->P (c::Ja) (b::z))(a:ao I Ja z):P Ja z:=
 ao.rec (motive_1:=fun x x x=>True) (motive_2:=fun Ja z x=>P Ja z) trivial (fun x=>trivial) (fun x x=>trivial) (fun x x=>trivial) (fun x x x=>trivial) (fun x=>trivial) (fun x=>trivial) (fun x=>trivial) g (fun d a x f=>e d a f) a
theorem ao.mono(c:cm I JR)(b:ao I Ja z):ao JR Ja z:=b.ind .nil fun a x b=>.cons (a.mono c) b
theorem ao.length(b:ao I Ja z):Ja.length=z.length:=b.ind (P:=fun Ja z=>Ja.length=z.length) rfl fun x x a=>congrArg Nat.succ a
theorem ao.append{b:List Value}(a:ao I Ja z)(d:ao I b Jm):ao I (Ja++b) (z++Jm):=a.ind (P:=fun Ja z=>ao I (Ja++b) (z++Jm)) d fun c x a=>.cons c a
theorem ao.pz(d:ao I Ja z):∀a:Nat,(Ja[a]? =none/\z[a]? =none)\/∃c b,Ja[a]? =some c/\z[a]? =some b/\VR I c b:=
 d.ind (P:=fun Ja z=>∀a:Nat,(Ja[a]? =none/\z[a]? =none)\/∃c b,Ja[a]? =some c/\z[a]? =some b/\VR I c b) (fun x=>.inl ⟨rfl,rfl⟩) fun e x d a=>by cases a with|zero=>exact .inr ⟨_,_,rfl,rfl,e⟩|succ a=>exact d a
theorem ao.get{i:Nat}{d:GG}(f:ao I Ja z)(c:z[i]? =some d):∃a,Ja[i]? =some a/\VR I a d:=
 (f.pz i).elim (fun e=>nomatch e.2.symm.trans c) fun g=>by refine bB g fun a x b=>?_;exact⟨a,b.1,NM (b.2.symm.trans c)▸b.3⟩
theorem ao.get'{i:Nat}{v:Value}(e:ao I Ja z)(c:Ja[i]? =some v):∃a,z[i]? =some a/\VR I v a:=
 (e.pz i).elim (fun d=>nomatch d.1.symm.trans c) fun f=>by refine bB f fun x a b=>?_;exact⟨a,b.2,NM (b.1.symm.trans c)▸b.3⟩
theorem ao.head(a:ao I Ja (i::z)):∃b c,Ja=b::c/\VR I b i/\ao I c z:=by
 cases a with
 |cons d a=>exact⟨_,_,rfl,d,a⟩
theorem ao.fQ(a:ao I Ja []):Ja=[]:=by cases a;rfl
theorem VR.iB(a:VR I G (.raw Jy)):G=Jy:=by cases a;rfl
theorem VR.pr(a:VR I G .none):G=.none:=by cases a;rfl
theorem ao.one(c:ao I Ja [i]):∃a,Ja=[a]/\VR I a i:=by
 refine bB c.head fun a d b=>?_;exact⟨a,b.1.trans (congrArg (List.cons a) b.3.fQ),b.2⟩
theorem ao.two(e:ao I Ja [i,Jn]):∃a b,Ja=[a,b]/\VR I a i/\VR I b Jn:=by
 refine bB e.head fun a f c=>?_;refine ah c.3.one fun b d=>?_;exact⟨a,b,c.1.trans (congrArg (List.cons a) d.1),c.2,d.2⟩
theorem ao.three{f:GG}(g:ao I Ja [i,Jn,f]):∃a b c,Ja=[a,b,c]/\VR I a i/\VR I b Jn/\VR I c f:=by
 refine bB g.head fun a h d=>?_;refine bB d.3.two fun b c e=>?_;exact⟨a,b,c,d.1.trans (congrArg (List.cons a) e.1),d.2,e.2,e.3⟩
theorem VR.dr(a:VR I G (.ref d)):G=.ref d:=by cases a;rfl
theorem VR.gh(a:VR I G (.int k)):∃b,G=.int k b:=by cases a;exact⟨_,rfl⟩
theorem VR.atS(a:VR I G (.str h)):∃b,G=.str h b:=by cases a;exact⟨_,rfl⟩
theorem VR.jA(a:VR I G (.bool Jh)):G=.bool Jh:=by cases a;rfl
theorem VR.atT(e:VR I G (.tup z)):∃a b,G=.ref a/\IsTup I a b/\ao I b.toList z:=by cases e with| @tup a b _ c d=>exact⟨a,b,rfl,c,d⟩
theorem VR.IC(a:VR I G (.ref d)): .ref d=G:=a.dr.symm
theorem VR.IA(a:VR I G (.int k)):∃b,.int k b=G:=a.gh.imp fun x=>Eq.symm
theorem VR.ID(a:VR I G (.str h)):∃b,.str h b=G:=a.atS.imp fun x=>Eq.symm
theorem VR.IE(a:VR I G (.raw Jy)):Jy=G:=a.iB.symm
theorem VR.Iz(a:VR I G (.bool Jh)): .bool Jh=G:=a.jA.symm
theorem VR.IB(a:VR I G .none): .none=G:=a.pr.symm
local macro_rules (kind:=Lean.Parser.Tactic.cases)|s=>HR (fZ s)
theorem ao.take(b:Nat):∀{c:List Value}{a:List GG},ao I c a->ao I (c.take b) (a.take b):=by
 induction b with
 |zero=>intro c a _;simp;exact .nil
 |succ b e=>
  intro c a f;cases f with
  |nil=>simp;exact .nil
  |cons d g=>simp only[List.take_succ_cons];exact .cons d (e g)
theorem ao.drop(b:Nat):∀{c:List Value}{a:List GG},ao I c a->ao I (c.drop b) (a.drop b):=by
 induction b with
 |zero=>intro c a d;simpa using d
 |succ b e=>
  intro c a d;cases d with
  |nil=>simp;exact .nil
  |cons g f=>rw[List.drop_succ_cons];exact e f
section
noncomputable def d0:Value->ae
 |.int a _=>.i a
 |.str b _=>.s b
 |_=>.i 0
noncomputable def ae.is:ae->Value->Bool
 |.i b,a=>Value.isInt b a
 |.s c,a=>Value.isStrOf c a
theorem ae.fl(d:Jr.is G=true):(∃b a,Jr=.i b/\G=.int b a)\/∃c a,Jr=.s c/\G=.str c a:=by
 cases Jr with
 |i b=>obtain⟨a,rfl⟩:=Value.isInt_shape d;exact .inl ⟨b,a,rfl,rfl⟩
 |s c=>obtain⟨a,rfl⟩:=Value.isStrOf_shape d;exact .inr ⟨c,a,rfl,rfl⟩
theorem ae.tk(a:Jr.is G=true):Jr=d0 G:=by
 rcases ae.fl a with⟨c,b,rfl,rfl⟩|⟨d,b,rfl,rfl⟩<;>rfl
noncomputable def ae.hash:ae->Int
 |.i a=>hashInt a
 |.s b=>hashStr w b
theorem A6{g:ae}(h:Jr.is G=true)(i:g.is Jy=true)(a:KB (decide (Jr=g)) p):wpAny (model prog w) Q (PySem.eqBool G Jy) KB I4 p:=by
 rcases ae.fl h with⟨c,d,rfl,rfl⟩|⟨e,d,rfl,rfl⟩<;>rcases ae.fl i with⟨b,G,rfl,rfl⟩|⟨f,G,rfl,rfl⟩
 ·exact wpAny_eqBool_int ((show(c==b)=decide (ae.i c=ae.i b)from decide_eq_decide.mpr ⟨congrArg ae.i,ae.i.inj⟩)▸a)
 ·exact SeqAt.EqAt.int_str c d f G prog w I4 KB a
 ·exact SeqAt.EqAt.str_int e d b G prog w I4 KB a
 ·exact wpAny_eqBool_str ((decide_eq_decide.mpr ⟨congrArg ae.s,ae.s.inj⟩:decide (e=f)=decide (ae.s e=ae.s f))▸a)
noncomputable def aX:KeyKind prog w ae where
 is:=ae.is
 hash:=ae.hash
 inj:=fun d l m g h=>(ae.tk g).trans (ae.tk h).symm
 byValue:=fun j d a=>by rcases ae.fl a with⟨e,b,rfl,rfl⟩|⟨f,b,rfl,rfl⟩<;>rfl
 pyHash:=fun i a=>by
  rcases ae.fl i with⟨e,b,rfl,rfl⟩|⟨f,b,rfl,rfl⟩
  ·exact wpAny_pyHash_int a
  ·exact wpAny_pyHash_str a
 eqBool:=A6
 «strs»:=fun j f b d a=>by
  rcases ae.fl a with⟨e,k,rfl,c⟩|⟨n,k,rfl,c⟩
  ·cases c
  ·cases c;cases d<;>rfl
end
noncomputable def own(a:Addr×GL):List Addr:=match a.2 with
 |.list _|.dict _ _|.bD _ _|.set _=>[a.1]
 |.fixed _=>[]
 |.inst _ b _=>[a.1,b]
noncomputable def aK(S:aa):List Addr:=S.flatMap own
noncomputable def ip{K:Type}[DecidableEq K](e:HeapKind prog w K)(d:Heap)(g:Addr)(b:List (K×Addr×Value))(h:Nat):Prop:=
 ∃a c,d.get? g=some a/\a.ExactDict/\a.data=.dict c h/\c.toList=b.map (entryOfKey e)/\(∀f∈b,e.is d f.1 f.2.1)/\(b.map (fun x=>x.1)).Nodup
noncomputable abbrev be(a:Array (Int×Value))(b:SetTable)(c:List ae):Prop:=(ElemsOf (aX) a.toList)/\(c=a.toList.map fun d=>d0 d.2)/\(c.Nodup)/\(a.size<scanBound)/\(b.fits a.size=true)/\(b.place.toList.Pairwise (·<·))/\(b.led= !(w.params.followText "set-order"))
theorem be.elems(a:be I3 I6 IZ):ElemsOf (aX) I3.toList:=a.1
theorem be.keys(b:be I3 I6 IZ):IZ=I3.toList.map fun a=>d0 a.2:=b.2.1
theorem be.nodup(a:be I3 I6 IZ):IZ.Nodup:=a.2.2.1
theorem be.size(a:be I3 I6 IZ):I3.size<scanBound:=a.2.2.2.1
theorem be.fits(a:be I3 I6 IZ):I6.fits I3.size=true:=a.2.2.2.2.1
theorem be.k0(a:be I3 I6 IZ):I6.place.toList.Pairwise (·<·):=a.2.2.2.2.2.1
theorem be.led(a:be I3 I6 IZ):I6.led= !(w.params.followText "set-order"):=a.2.2.2.2.2.2
section
noncomputable def OR(a:Heap)(d:Addr):GL->Prop
 |.list h=>∃g,a.PlainList d g/\ao a g.toList h
 |.fixed h=>∃g,a.IsList d g/\ao a g.toList h
 |.dict f c=>∃b:List (ae×Value),a.DictAt (aX) d b f/\b.map (fun x=>x.1)=c.map (fun x=>x.1)/\ao a (b.map (fun x=>x.2)) (c.map (fun x=>x.2))
 |.bD f c=>∃b:List (List ae×Addr×Value),ip (tupleKind (aX)) a d b f/\b.map (fun x=>x.1)=c.map (fun x=>x.1)/\ao a (b.map (fun x=>x.2.2)) (c.map (fun x=>x.2))
 |.set c=>∃e f k,a.get? d=some {cls:=.type "set",data:=.set e f k}/\be e k c
 |.inst m i j=>a.get? d=some ⟨.ref m,some i,.plain,#[]⟩/\∃(e:List DictEntry)(n:Nat),a.get? i=some (dictOf e n)/\∃b:List (Str×Value),(∀l,getL l e=some (b.lookup l))/\(b.map (fun x=>x.1)=j.map (fun x=>x.1)/\e.length=b.length)/\ao a (b.map (fun x=>x.2)) (j.map (fun x=>x.2))
end
section
theorem ak7(f:cm I JR)(g:IsTupleKey (aX) I IZ d):IsTupleKey (aX) JR IZ d:=by
 refine f2 g fun e b c a=>?_;exact⟨e,b,c,f d e a.1 (.inl ⟨a.2,b,c,a.3⟩),a.2,a.3,a.4⟩
theorem OR.mono{a:Addr}{o:GL}(d:cm I JR)(e:∀p∈own (a,o),∀c,I.get? p=some c->JR.get? p=some c)(z:(∃k,o=.fixed k)->∀c,I.get? a=some c->JR.get? a=some c)(f:OR I a o):OR JR a o:=by
 cases o with
 |list k=>refine ah f fun l r=>?_;exact⟨l,r.1.at (e a (.head _)),r.2.mono d⟩
 |fixed k=>refine ah f fun l s=>?_;obtain⟨o,g,h⟩:=s.1;exact⟨l,⟨o,z ⟨_,rfl⟩ o g,h⟩,s.2.mono d⟩
 |dict j q=>refine aN f fun i m=>?_;obtain⟨o,b,g,h⟩:=m.1;exact⟨i,⟨o,b,e a (.head _) o g,h⟩,m.2,m.3.mono d⟩
 |bD j q=>
  refine aN f fun i n=>?_;obtain⟨o,b,g,C,D,E,G,H⟩:=n.1;exact⟨i,⟨o,b,e a (.head _) o g,C,D,E,fun c y=>ak7 d (G c y),H⟩,n.2,n.3.mono d⟩
 |set q=>refine jm f fun b j J t=>?_;exact⟨b,j,J,e a (.head _) _ t.1,t.2⟩
 |inst M u N=>
  obtain⟨B,b,A,h,i,x,v,L⟩:=f;exact⟨e a (.head _) _ B,b,A,e u (.tail _ (.head _)) _ h,i,x,v,L.mono d⟩
theorem hV{b:Obj}{x:String}(c:b.cls=.type x)(d:autoParam ((x=="tuple"||x=="range")=false) dB):¬c7 b:=by
 rintro(⟨a,_⟩|⟨a,_⟩)<;>(replace a:=c▸a;cases a;cases d)
theorem OR.c3{a i:Addr}{o:GL}(d:OR I a o)(b:i∈own (a,o)):∃l,I.get? i=some l/\¬c7 l:=by
 cases o with
 |list y=>refine ah d fun A q=>?_;obtain⟨n,h⟩:=q.1;rw[Nj.mp b];exact⟨_,h,hV rfl⟩
 |fixed _=>cases b
 |dict j k=>refine ah d fun p r=>?_;obtain⟨o,f,g,c,_⟩:=r.1;rw[Nj.mp b];exact⟨_,g,hV c.1⟩
 |bD j k=>refine ah d fun p s=>?_;obtain⟨o,f,g,c,_⟩:=s.1;rw[Nj.mp b];exact⟨_,g,hV c.1⟩
 |set k=>refine jm d fun f j z t=>?_;rw[Nj.mp b];exact⟨_,t.1,hV rfl⟩
 |inst u v x=>
  obtain⟨h,f,n,c,_⟩:=d;rcases Nk.mp b with e|e
  ·rw[e];exact⟨_,h,by rintro(⟨m,_⟩|⟨m,_⟩)<;>cases m⟩
  ·rw[Nj.mp e];exact⟨_,c,hV rfl⟩
end
noncomputable abbrev LR(S:aa)(b:Heap):Prop:=(∀c∈S,OR b c.1 c.2)/\((aK S).Nodup)/\(∀d∈aK S,base.get? d=none)/\(∀a f,(a,GL.fixed f)∈S->∃e,base.get? a=some e)/\(aV base b)
theorem LR.objs{S:aa}(b:LR S I):∀a∈S,OR I a.1 a.2:=b.1
theorem LR.nodup{S:aa}(a:LR S I):(aK S).Nodup:=a.2.1
theorem LR.fresh{S:aa}(b:LR S I):∀a∈aK S,base.get? a=none:=b.2.2.1
theorem LR.fix{S:aa}(d:LR S I):∀a c,(a,GL.fixed c)∈S->∃b,base.get? a=some b:=d.2.2.2.1
theorem LR.keep{S:aa}(a:LR S I):aV base I:=a.2.2.2.2
noncomputable abbrev aq(P:List Addr)(b:Shared)(S:aa)(d:Shared)(e:aa):Prop:=(∃g h f,d={b with heap:=g,toks:=h,drawn:=f})/\(∀a c,b.heap.get? a=some c->a∉P->a∉aK S->d.heap.get? a=some c)/\(∀a∈aK e,a∈aK S\/b.heap.get? a=none)
theorem aq.same{P:List Addr}{S:aa}(d:aq P p S JK V):∃b c a,JK={p with heap:=b,toks:=c,drawn:=a}:=d.1
theorem aq.frame{P:List Addr}{S:aa}(c:aq P p S JK V):∀a b,p.heap.get? a=some b->a∉P->a∉aK S->JK.heap.get? a=some b:=c.2.1
theorem aq.grow{P:List Addr}{S:aa}(b:aq P p S JK V):∀a∈aK V,a∈aK S\/p.heap.get? a=none:=b.2.2
theorem aq.refl(P:List Addr)(a:Shared)(S:aa):aq P a S a S:=⟨⟨a.heap,a.toks,a.drawn,rfl⟩,fun x x b x x=>b,fun x c=>.inl c⟩
theorem aq.tok(P:List Addr)(a:Shared)(S:aa)(b:Nat):aq P a S {a with toks:=b} S:=⟨⟨a.heap,b,a.drawn,rfl⟩,fun x x c x x=>c,fun x d=>.inl d⟩
theorem aq.wide{P d:List Addr}{S e:aa}(b:aq P p S JK e)(g:∀a∈P,a∈d\/p.heap.get? a=none):aq d p S JK e:=
 ⟨b.same,fun a j f i h=>b.frame a j f (fun k=>(g a k).elim i fun c=>by replace c:=f▸c;cases c) h,b.grow⟩
theorem aq.trans{P:List Addr}{n:Shared}{S i j:aa}(o:aq P p S JK i)(b:aq P JK i n j)(z:∀b∈P,∃e,JK.heap.get? b=some e):aq P p S n j:=by
 obtain⟨⟨h,C,B,rfl⟩,k,l⟩:=o;obtain⟨⟨v,A,r,rfl⟩,t,u⟩:=b;have q:∀c,h.get? c=none->c∉aK S->p.heap.get? c=none:=fun c a d=>by
  cases g:p.heap.get? c with
  |none=>rfl
  |some e=>
   by_cases f:c∈P
   ·obtain⟨y,s⟩:=z c f;replace a:=(show h.get? c=some y from s)▸a;cases a
   ·have:=k c e g f d;replace a:=(show h.get? c=some e from this)▸a;cases a
 refine⟨⟨v,A,r,rfl⟩,fun c e g f m=>?_,fun c x=>?_⟩
 ·refine t c e (k c e g f m) f fun d=>?_;rcases l c d with a|a
  ·exact m a
  ·replace a:=g▸a;cases a
 ·by_cases d:c∈aK S
  ·exact .inl d
  ·rcases u c x with a|a
   ·rcases l c a with a|a
    ·exact absurd a d
    ·exact .inr a
   ·exact .inr (q c a d)
section
theorem Go{S:aa}(a:d∈aK S):∃b∈S,d∈own b:=NJ.mp a
theorem ct{S:aa}{p:Addr×GL}(b:p∈S)(a:d∈own p):d∈aK S:=NJ.mpr ⟨p,b,a⟩
theorem LR.c3{S:aa}(f:LR S I)(g:d∈aK S):∃c,I.get? d=some c/\¬c7 c:=by
 refine ah (Go g) fun b e=>?_;exact(f.objs b e.1).c3 (a:=b.1) (o:=b.2) e.2
theorem LR.cj{S i:aa}(h:LR S p.heap){P:List Addr}(HL:∀j∈P,∃b,p.heap.get? j=some b/\¬c7 b)(k:aq P p S JK i):cm p.heap JK.heap:=fun f l c g=>by
 refine k.frame f l c (fun d=>?_) fun d=>?_
 ·obtain⟨b,a,e⟩:=HL f d;replace a:=c▸a;cases a;exact e g
 ·obtain⟨b,a,e⟩:=h.c3 d;replace a:=c▸a;cases a;exact e g
theorem LR.fm{S:aa}{P:List Addr}(e:LR S I)(h:∀b o,I.get? b=some o->b∉P->JR.get? b=some o)(k:∀b∈P,base.get? b=none/\b∉aK S)
(HL:∀b∈P,∀g,I.get? b=some g->¬c7 g):LR S JR:=by
 refine⟨fun i j=>?_,e.nodup,e.fresh,e.fix,fun b o c=>h b o (e.keep b o c) fun d=>by replace c:=((k b d).1)▸c;cases c⟩;refine(e.objs i j).mono (a:=i.1) (o:=i.2) (fun a o f n=>h a o f fun d=>HL a d o f n) (fun b l g c=>h b g c fun d=>(k b d).2 (ct j l)) ?_;rintro⟨p,c⟩ g m;obtain⟨o,f⟩:=e.fix i.1 p (by rw[<-c];exact j);exact h _ g m fun d=>by replace f:=((k _ d).1)▸f;cases f
end
structure GU where
 A:Around
 env:Env
 own:Bool:=true
variable{e:GU}
noncomputable def d4(a:GU):List Addr:=a.env.locals::a.env.cells.map (fun x=>x.2)
noncomputable def bU(a:GU):List Addr:=a.env.locals::if a.own then a.env.cells.map (fun x=>x.2)else[]
theorem h5(a:d∈bU e):d∈d4 e:=by
 unfold bU at a;rcases Nk.mp a with rfl|a
 ·exact .head _
 ·split at a
  ·exact .tail _ a
  ·cases a
noncomputable abbrev aw(a:Around)(b:Nat):Prop:=(a.handled=none)/\(a.depth+b<recursionLimit)/\(a.units+8*b+80<cLine)
theorem aw.GR{n:Nat}(a:aw Q n):Q.handled=none:=a.1
theorem aw.depth(a:aw Q q):Q.depth+q<recursionLimit:=a.2.1
theorem aw.units(a:aw Q q):Q.units+8*q+80<cLine:=a.2.2
theorem aw.mono(a:aw Q v)(b:q<=v):aw Q q:=⟨a.GR,NV (Om b _) a.depth,NV (Np (Om (OI 8 b) _) 80) a.units⟩
theorem aw.lt(a:aw Q q):Q.depth<recursionLimit:=NV (Nv ..) a.depth
theorem aw.u(a:aw Q q):Q.units+80<cLine:=NV (Np (Nv ..) 80) a.units
theorem aw.deeper(a:aw Q (q+1)):aw (Q.deeper Jq) q:=
 ⟨a.GR,(Pp Q.depth 1 q▸OJ q 1▸a.depth:Q.depth+1+q<recursionLimit),NV (Np (by rw[Nat.mul_succ,<-Pp,Rc];exact Om (by decide) _:Q.units+3+8*q<=Q.units+8*(q+1)) 80) a.units⟩
noncomputable abbrev SR(a:GU)(j:ab)(S:aa)(c:Shared):Prop:=(LR S c.heap)/\(∃i,c.heap.Ns a.env.locals i/\∀b e,j b=some e->a.env.kindOf b=some .local->∃d,i b=some d/\VR c.heap d e)/\(∀b f,a.env.cells.lookup b=some f->∃g,c.heap.IsCell f g/\∀e,j b=some e->a.env.kindOf b=some .cell\/a.env.kindOf b=some .free->∃d,g=some d/\VR c.heap d e)/\(∀f∈a.env.cells.map (fun x=>x.2),∃g,c.heap.IsCell f g)/\(a.env.cells.Pairwise fun b k=>b.2≠k.2)/\(a.env.locals∉a.env.cells.map (fun x=>x.2))/\(∀h∈d4 a,base.get? h=none/\h∉aK S)
theorem SR.led{S:aa}(a:SR e t S p):LR S p.heap:=a.1
theorem SR.ns{S:aa}(f:SR e t S p):∃b,p.heap.Ns e.env.locals b/\∀a d,t a=some d->e.env.kindOf a=some .local->∃c,b a=some c/\VR p.heap c d:=f.2.1
theorem SR.cell{S:aa}(g:SR e t S p):∀a b,e.env.cells.lookup a=some b->∃d,p.heap.IsCell b d/\∀f,t a=some f->e.env.kindOf a=some .cell\/e.env.kindOf a=some .free->∃c,d=some c/\VR p.heap c f:=g.2.2.1
theorem SR.live{S:aa}(c:SR e t S p):∀a∈e.env.cells.map (fun x=>x.2),∃b,p.heap.IsCell a b:=c.2.2.2.1
theorem SR.apart{S:aa}(c:SR e t S p):e.env.cells.Pairwise fun a b=>a.2≠b.2:=c.2.2.2.2.1
theorem SR.off{S:aa}(a:SR e t S p):e.env.locals∉e.env.cells.map (fun x=>x.2):=a.2.2.2.2.2.1
theorem SR.new{S:aa}(b:SR e t S p):∀a∈d4 e,base.get? a=none/\a∉aK S:=b.2.2.2.2.2.2
noncomputable abbrev ck(a:GU):Prop:=(a.env.scope.kind=.function)/\(a.env.globals=mainGlobals)/\(a.env.builtins=builtinsNs)
theorem ck.kind(a:ck e):e.env.scope.kind=.function:=a.1
theorem ck.glob(a:ck e):e.env.globals=mainGlobals:=a.2.1
theorem ck.blt(a:ck e):e.env.builtins=builtinsNs:=a.2.2
theorem m3{a:Obj}(d:c7 a):(∃b e,a.data=.seq b e)\/∃b,a.data=.fields b:=d.elim (fun c=>.inl c.2) fun c=>.inr c.2
section
variable{S:aa}
theorem SR.c3(R:SR e t S p):∀b∈d4 e,∃f,p.heap.get? b=some f/\¬c7 f:=fun b c=>by
 rcases Nk.mp c with rfl|c
 ·refine ah R.ns fun m j=>?_;obtain⟨o,l,k,i,h,_⟩:=j.1;exact⟨o,i,fun d=>by rcases m3 d with⟨_,_,a⟩|⟨_,a⟩<;>rw[h]at a<;>cases a⟩
 ·refine dN (R.live b c) fun n o g=>?_;exact⟨o,g.1,fun d=>by rcases m3 d with⟨_,_,a⟩|⟨_,a⟩<;>rw[g.2]at a<;>cases a⟩
theorem SR.jy(R:SR e t S p):∀a∈d4 e,∃b,p.heap.get? a=some b:=fun a c=>let⟨b,d,_⟩:=R.c3 a c;⟨b,d⟩
theorem SR.alive(R:SR e t S p):∀a∈bU e,∃c,p.heap.get? a=some c:=fun a b=>R.jy a (h5 b)
theorem SR.cj(R:SR e t S p)(c:aq (bU e) p S JK V):cm p.heap JK.heap:=R.led.cj (fun a b=>R.c3 a (h5 b)) c
theorem SR.ak8(R:SR e t S p)(a:aq [] p S JK V):cm p.heap JK.heap:=R.led.cj (P:=[]) bs a
theorem SR.behind(R:SR e t S p)(m:aq [] p S JK V)(y:LR V JK.heap):SR e t V JK:=by
 have s:=R.ak8 m;have n:=fun a g b f=>m.frame a b f (fun z=>(nomatch z)) fun i=>(R.new a g).2 i;refine⟨y,?_,fun r d h=>?_,fun d h=>?_,R.apart,R.off,fun a g=>⟨(R.new a g).1,fun i=>?_⟩⟩
 ·refine ah R.ns fun i u=>?_;exact⟨i,u.1.at' fun b f=>n _ (.head _) b f,fun r q k l=>let⟨c,j,a⟩:=u.2 r q k l;⟨c,j,a.mono s⟩⟩
 ·refine ah (R.cell r d h) fun c v=>?_;obtain⟨b,B,A⟩:=v.1;exact⟨c,⟨b,n d (.tail _ (Na.mpr ⟨_,mem_of_lookup h,rfl⟩)) b B,A⟩,fun q k l=>let⟨c,j,a⟩:=v.2 q k l;⟨c,j,a.mono s⟩⟩
 ·refine dN (R.live d h) fun c b x=>?_;exact⟨c,b,n d (.tail _ h) b x.1,x.2⟩
 ·exact(m.grow a i).elim (R.new a g).2 fun o=>by obtain⟨b,f⟩:=R.jy a g;replace o:=f▸o;cases o
end
section
noncomputable def bW{e f:Type}(c:GU)(i:Shared)(S:aa)(R:Heap->e->f->Prop)(h:f->ab->aa->Prop):e->Shared->Prop:=
 fun j b=>∃d g a,R b.heap j d/\SR c g a b/\aq (bU c) i S b a/\h d g a
noncomputable def a4:Value->Shared->Prop:=fun x x=>False
noncomputable def GK{c d:Type}(a:GU)(f:Sem c)(R:Heap->c->d->Prop)(g:ab)(S:aa)(e:d->ab->aa->Prop):Prop:=
 ∀b,SR a g S b->wpAny (model prog w) a.A f (bW a b S R e) a4 b
noncomputable def bn{d e:Type}(b:GU)(h:Value->Sem d)(g:GG)(R:Heap->d->e->Prop)(i:ab)(S:aa)(f:e->ab->aa->Prop):Prop:=
 ∀a c,SR b i S a->VR a.heap c g->wpAny (model prog w) b.A (h c) (bW b a S R f) a4 a
noncomputable def aE{e f:Type}(b:GU)(j:Value->Value->Sem e)(h i:GG)(R:Heap->e->f->Prop)(k:ab)(S:aa)(g:f->ab->aa->Prop):Prop:=
 ∀a c d,SR b k S a->VR a.heap c h->VR a.heap d i->wpAny (model prog w) b.A (j c d) (bW b a S R g) a4 a
end
noncomputable def Ho:Heap->Bool->Bool->Prop:=fun x a b=>a=b
noncomputable def UR:Heap->Unit->Unit->Prop:=fun x x x=>True
inductive G4 where
 |next
 |ret (a:GG)
variable{Z KL:G4->ab->aa->Prop}
inductive GW(b:Heap):Flow->G4->Prop
 |next:GW b .next .next
 |ret {c:Value} {a:GG}:VR b c a->GW b (.ret c) (.ret a)
section
variable{S:aa}
theorem bW.trans{R:Heap->D->I1->Prop}{c:I1->ab->aa->Prop}(h:aq (bU e) p S JK V)(j:SR e t V JK){f:D}{d:Shared}
(i:bW e JK V R c f d):bW e p S R c f d:=by
 refine f2 i fun b k g a=>?_;exact⟨b,k,g,a.1,a.2,h.trans a.3 j.alive,a.4⟩
theorem bK:∀a p,a4 a p->I4 a p:=fun x x b=>b.elim
theorem GK.run{h:Sem D}{R:Heap->D->I1->Prop}{Q:I1->ab->aa->Prop}(i:GK e h R t S Q)(k:SR e t S p){P:D->Shared->Prop}
(j:∀d c g b a,R a.heap d c->SR e g b a->aq (bU e) p S a b->Q c g b->P d a):wpAny (model prog w) e.A h P I4 p:=
 NB (i p k) (fun d a l=>by refine f2 l fun c g b f=>?_;exact j d c g b a f.1 f.2 f.3 f.4) bK
theorem bn.run{h:Value->Sem D}{R:Heap->D->I1->Prop}{Q:I1->ab->aa->Prop}(j:bn e h i R t S Q)(m:SR e t S p)(k:VR p.heap G i){P:D->Shared->Prop}
(l:∀d c g b a,R a.heap d c->SR e g b a->aq (bU e) p S a b->Q c g b->P d a):wpAny (model prog w) e.A (h G) P I4 p:=
 NB (j p G m k) (fun d a n=>by refine f2 n fun c g b f=>?_;exact l d c g b a f.1 f.2 f.3 f.4) bK
theorem GK.mono{g:Sem D}{R:Heap->D->I1->Prop}{d f:I1->ab->aa->Prop}(h:GK e g R t S d)(i:∀b c a,d b c a->f b c a):GK e g R t S f:=
 fun p k=>h.run k fun w b c a w l m n j=>⟨b,c,a,l,m,n,i b c a j⟩
theorem x5{g:Value->Sem D}{R:Heap->D->I1->Prop}{c:I1->ab->aa->Prop}(j:GK e Kl VR t S fun f i d=>bn e g f R i d c)(m:SR e t S p):
  wpAny (model prog w) e.A Kl (fun b a=>wpAny (model prog w) e.A (g b) (bW e p S R c) a4 a) a4 p:=
 j.run m fun b f i d a n h o l=>NB (l a b h n) (fun v v k=>k.trans o h) bK
theorem l1{m:Sem Value}{k:Value->Value->Sem D}{R:Heap->D->I1->Prop}{f:I1->ab->aa->Prop}
(s:GK e Kl VR t S fun i q g=>GK e m VR q g fun j r h=>aE e k i j R r h f)(y:SR e t S p):
  wpAny (model prog w) e.A Kl (fun b l=>wpAny (model prog w) e.A m (fun c a=>wpAny (model prog w) e.A (k b c) (bW e p S R f) a4 a) a4 l) a4 p:=
 s.run y fun b i q g l z d B v=>v.run d fun c j r h a A n o x=>NB (x a b c n (z.mono (d.cj o)) A) (fun E E u=>u.trans (B.trans o d.alive) n) bK
theorem SR.tok(a:SR e t S p)(b:Nat):SR e t S {p with toks:=b}:=⟨a.led,a.ns,a.cell,a.live,a.apart,a.off,a.new⟩
theorem x0(j:ck e)(a:e.env.kindOf h=some .local)(g:t h=some i)(k:B i t S)(f:autoParam ((h==("__debug__":Str))=false) dB):
  GK e (eval (.Name h N) e.env) VR t S B:=fun p b=>by
 refine ah b.ns fun l c=>?_;refine ah (c.2 h i g a) fun m d=>?_;exact O7 (PF j.kind a c.1 d.1 ⟨i,t,S,d.2,b,aq.refl ..,k⟩) f
theorem xS(l:ck e)(b:e.env.kindOf h=some .cell)(a:e.env.cells.lookup h=some d)(k:t h=some i)(m:B i t S)(j:autoParam ((h==("__debug__":Str))=false) dB):
  GK e (eval (.Name h N) e.env) VR t S B:=fun p c=>by
 refine ah (c.cell h d a) fun n f=>?_;refine ah (f.2 i k (.inl b)) fun n g=>?_;obtain rfl:=g.1;exact O7 (wpAny_loadName_cell l.kind b a f.1 ⟨i,t,S,g.2,c,aq.refl ..,m⟩) j
theorem xV(m:ck e)(b:e.env.kindOf h=some .free)(a:e.env.cells.lookup h=some d)(l:t h=some i)(n:B i t S)(j:autoParam ((h==("__debug__":Str))=false) dB)(k:autoParam ((h==("__classdict__":Str))=false) dB):
  GK e (eval (.Name h N) e.env) VR t S B:=fun p c=>by
 refine ah (c.cell h d a) fun o f=>?_;refine ah (f.2 i l (.inr b)) fun o g=>?_;obtain rfl:=g.1;exact O7 (wpAny_loadName_free m.kind b a f.1 ⟨i,t,S,g.2,c,aq.refl ..,n⟩ k) j
theorem xX(a:ck e)(c:St)(f:e.env.kindOf h=some .globalImplicit)(g:G2 h=some G)(i:B (.raw G) t S)(d:autoParam ((h==("__debug__":Str))=false) dB):
  GK e (eval (.Name h N) e.env) VR t S B:=fun p b=>
 PG a.kind f (QB (a.glob▸c.g.keeps b.led.keep) g ⟨_,t,S,.raw G,b,aq.refl ..,i⟩) d
theorem xP(b:ck e)(a:St)(f:e.env.kindOf h=some .globalImplicit)(g:G2 h=none)(j:bootBuiltins h=some G)(i:h≠"__name__")(k:B (.raw G) t S)(d:autoParam ((h==("__debug__":Str))=false) dB):
  GK e (eval (.Name h N) e.env) VR t S B:=fun p c=>
 PG b.kind f (loadGlobal_builtin (b.glob▸a.g.keeps c.led.keep) g (b.blt▸a.b.keeps c.led.keep) ((a.blt h i).trans j) ⟨_,t,S,.raw G,c,aq.refl ..,k⟩) d
theorem xZ(a:B (.int k) t S):GK e (eval (.Constant (.int k) q N) e.env) VR t S B:=fun p b=>
 wpAny_Constant_int ⟨_,t,S,.int k _,b.tok _,aq.tok ..,a⟩
theorem x6(a:B (.str h) t S):GK e (eval (.Constant (.str h) q N) e.env) VR t S B:=fun p b=>
 wpAny_Constant_str ⟨_,t,S,.str h _,b.tok _,aq.tok ..,a⟩
theorem pA(a:B .none t S):GK e (eval (.Constant .none q N) e.env) VR t S B:=fun p b=>
 wpAny_Constant_none ⟨_,t,S,.none,b,aq.refl ..,a⟩
theorem xQ(a:B (.bool Jh) t S):GK e (eval (.Constant (.bool Jh) q N) e.env) VR t S B:=fun p b=>
 wpAny_Constant_bool ⟨_,t,S,.bool Jh,b,aq.refl ..,a⟩
theorem xp{a:Operator}
(g:GK e (eval o e.env) VR t S fun d i b=>GK e (eval X e.env) VR i b fun f j c=>aE e (binaryOp a) d f VR j c B):GK e (eval (.BinOp o a X N) e.env) VR t S B:=
 fun x h=>wpAny_BinOp (l1 g h)
theorem xs{a:CmpOp}
(g:GK e (eval o e.env) VR t S fun d j b=>GK e (eval X e.env) VR j b fun f k c=>aE e (compareOp a) d f VR k c B)(h:autoParam (behindInMarks a X=false) aP):
  GK e (eval (.Compare o [a] [X] N) e.env) VR t S B:=
 fun x i=>wpAny_Compare1 (l1 g i) h
theorem xG{a:UnaryOp}(d:GK e (eval o e.env) VR t S fun c g b=>bn e (unaryOp a) c VR g b B):GK e (eval (.UnaryOp a o N) e.env) VR t S B:=
 fun x f=>wpAny_UnaryOp (x5 d f)
theorem xz{m:Expr}
(s:GK e (isTrue o e.env (eval o e.env)) Ho t S fun b k d=>(b=true->GK e (eval X e.env) VR k d B)/\(b=false->GK e (eval m e.env) VR k d B)):GK e (eval (.IfExp o X m N) e.env) VR t S B:=
 fun p u=>wpAny_IfExp (s.run u fun q b k d v a c r n=>by
  cases(a:q=b)
  cases q
  ·exact(n.2 rfl).run c fun w g l f w a i j h=>⟨g,l,f,a,i,r.trans j c.alive,h⟩
  ·exact(n.1 rfl).run c fun w g l f w a i j h=>⟨g,l,f,a,i,r.trans j c.alive,h⟩)
theorem uK{f:Value->Value->Sem Value}(j:aE e f i Jn VR t S fun a d c=>∃b,a=.bool b/\Jw b d c)(n:SR e t S p)(k:VR p.heap G i)(l:VR p.heap Jy Jn):
  wpAny (model prog w) e.A (f G Jy) (fun a g=>wpAny (model prog w) e.A (truthy a) (bW e p S Ho Jw) a4 g) a4 p:=
 NB (j p G Jy n k l) (fun a g s=>by obtain⟨Jn,d,c,o,q,r,b,h,m⟩:=s;subst h;cases o;exact Pq ⟨b,d,c,rfl,q,r,m⟩) bK
theorem x8{a:CmpOp}
(q:GK e (eval o e.env) VR t S fun f k c=>GK e (eval X e.env) VR k c fun g l d=>aE e (compareOp a) f g VR l d fun n C m=>∃h,n=.bool h/\Jw h C m)(s:autoParam (behindInMarks a X=false) aP):
  GK e (isTrue (.Compare o [a] [X] N) e.env Kl) Ho t S Jw:=
 fun p y=>wpAny_isTrue_Compare1 (q.run y fun G f k c D z b B v=>v.run b fun H g l d E A i j x=>
  NB (uK x i (z.mono (b.cj j)) A) (fun w w r=>NB r (fun w w u=>u.trans (B.trans j b.alive) i) bK) bK) s
theorem x9(f:GK e (isTrue o e.env (eval o e.env)) Ho t S fun b c a=>Jw (!b) c a):GK e (isTrue (.UnaryOp .Not o N) e.env Kl) Ho t S Jw:=
 fun p h=>wpAny_isTrue_Not (f.run h fun d b c a l i j k g=>by cases(i:d=b);exact⟨!d,c,a,rfl,j,k,g⟩)
theorem xK(a:Jw true t S):GK e (allTrue .And [] e.env) Ho t S Jw:=fun p b=>wpAny_allTrue_And_nil ⟨true,t,S,rfl,b,aq.refl ..,a⟩
theorem xM(a:Jw false t S):GK e (allTrue .Or [] e.env) Ho t S Jw:=fun p b=>wpAny_allTrue_Or_nil ⟨false,t,S,rfl,b,aq.refl ..,a⟩
theorem x7{a:BoolOp}(b:GK e (allTrue a IS e.env) Ho t S Jw):GK e (isTrue (.BoolOp a IS N) e.env Kl) Ho t S Jw:=
 fun p c=>wpAny_isTrue_BoolOp (b p c)
theorem iC(a:KC [] t S):GK e (spliced (backTo N (starEach [] e.env))) ao t S KC:=fun p b=>wpAny_items_nil ⟨[],t,S,.nil,b,aq.refl ..,a⟩
theorem gi
(j:GK e (eval o e.env) VR t S fun b i g=>GK e (spliced (backTo N (starEach IS e.env))) ao i g fun c f a=>KC (b::c) f a)
(k:autoParam (starEach (o::IS) e.env=(false,eval o e.env)::starEach IS e.env) aP):GK e (spliced (backTo N (starEach (o::IS) e.env))) ao t S KC:=
 fun p n=>wpAny_items_cons (j.run n fun y b i g v q d u l=>l.run d fun z c f a x r s h m=>⟨b::c,f,a,.cons (q.mono (d.cj h)) r,s,u.trans h d.alive,m⟩) k
end
section
variable{C:GU}{S:aa}
noncomputable def f4(C:GU)(a:Str):Prop:=C.env.kindOf a=some .local\/(C.own=true/\C.env.kindOf a=some .cell/\(C.env.cells.lookup a).isSome=true)
theorem SR.put(O:ck C)(b:SR C t S p)(o:f4 C h)(L:VR p.heap G i){P:Unit->Shared->Prop}
(M:∀H,SR C (cb t h i) S H->aq (bU C) p S H S->P () H):wpAny (model prog w) C.A (storeName C.env h G) P I4 p:=by
 rcases o with o|⟨KV,o,d⟩
 ·refine ah b.ns fun N Q=>?_;refine QC o Q.1 (fun x KU j=>?_) (by rw[O.kind];rfl);have st:aq (bU C) p S {p with heap:=x,toks:=p.toks+1} S:=⟨⟨_,_,_,rfl⟩,fun f E a r _=>(j.2 f fun l=>r (l▸ .head _)).trans a,fun _ B=>.inl B⟩
  have I:=b.cj st;have A:LR S x:=b.led.fm (P:=[C.env.locals]) (fun f E a r=>(j.2 f fun l=>r (l▸ .head _)).trans a) (fun f n=>by rw[Nj.mp n];exact b.new _ (.head _))
   fun f n h a=>by rw[Nj.mp n]at a;refine ah (b.c3 _ (.head _)) fun e T=>?_;exact NM (T.1.symm.trans a)▸T.2
  refine M _ ⟨A,⟨_,KU,fun e m c g=>?_⟩,fun e k d=>?_,fun k d=>?_,b.apart,b.off,b.new⟩ st
  ·unfold cb at c;by_cases a:e=h
   ·rw[if_pos a]at c;exact⟨G,if_pos a,NM c▸L.mono I⟩
   ·rw[if_neg a]at c;refine ah (Q.2 e m c g) fun s U=>?_;exact⟨s,(if_neg a).trans U.1,U.2.mono I⟩
  ·obtain⟨u,q,D⟩:=b.cell e k d;refine⟨u,q.sameBut j fun a=>b.off (a▸Na.mpr ⟨_,mem_of_lookup d,rfl⟩),fun m c g=>?_⟩;unfold cb at c;by_cases a:e=h
   ·rw[a,o]at g;exact g.elim nofun nofun
   ·rw[if_neg a]at c;refine ah (D m c g) fun s V=>?_;exact⟨s,V.1,V.2.mono I⟩
  ·obtain⟨u,q⟩:=b.live k d;exact⟨u,q.sameBut j fun a=>b.off (a▸d)⟩
 ·obtain⟨k,d⟩:=Oa.mp d;have z:k∈C.env.cells.map (fun x=>x.2):=Na.mpr ⟨_,mem_of_lookup d,rfl⟩;have KT:k∈bU C:=by unfold bU;rw[KV,if_pos rfl];exact .tail _ z
  refine ah (b.cell h k d) fun KX KW=>?_;refine wpAny_storeName_cell O.kind o d KW.1 fun x J j=>?_;have st:aq (bU C) p S {p with heap:=x} S:=⟨⟨_,p.toks,_,rfl⟩,fun f E a r _=>(j.2 f fun l=>r (l▸KT)).trans a,fun _ B=>.inl B⟩
  have A:LR S x:=b.led.fm (P:=[k]) (fun f E a r=>(j.2 f fun l=>r (l▸ .head _)).trans a) (fun f n=>by rw[Nj.mp n];exact b.new _ (.tail _ z))
   fun f n h a=>by rw[Nj.mp n]at a;refine ah (b.c3 _ (.tail _ z)) fun e X=>?_;exact NM (X.1.symm.trans a)▸X.2
  refine ah b.ns fun N Y=>?_;refine M _ ⟨A,⟨N,Y.1.sameBut j (fun a=>b.off (a▸z)),fun e m c g=>?_⟩,fun e y v=>?_,fun y v=>?_,b.apart,b.off,b.new⟩ st
  ·unfold cb at c;by_cases a:e=h
   ·rw[a,o]at g;cases g
   ·rw[if_neg a]at c;refine ah (Y.2 e m c g) fun s Z=>?_;exact⟨s,Z.1,Z.2.mono (b.cj st)⟩
  ·by_cases a:e=h
   ·subst a;rw[d]at v;cases v;exact⟨_,J,fun m c _=>by unfold cb at c;rw[if_pos rfl]at c;exact⟨G,rfl,NM c▸L.mono (b.cj st)⟩⟩
   ·obtain⟨u,q,D⟩:=b.cell e y v;exact⟨u,q.sameBut j (fun l=>a (name_of_addr b.apart (mem_of_lookup v) (l▸mem_of_lookup d))),fun m c g=>by unfold cb at c;rw[if_neg a]at c;refine ah (D m c g) fun s KS=>?_;exact⟨s,KS.1,KS.2.mono (b.cj st)⟩⟩
  ·by_cases a:y=k
   ·exact⟨_,a▸J⟩
   ·obtain⟨u,q⟩:=b.live y v;exact⟨u,q.sameBut j a⟩
theorem xU(a:Z .next t S):GK C (execs [] C.env) GW t S Z:=fun p b=>PH ⟨.next,t,S,.next,b,aq.refl ..,a⟩
theorem xT{st:Stmt}
(i:GK C (exec st C.env) GW t S fun d b a=>match d with|.next=>GK C (execs I2 C.env) GW b a Z|.ret m=>Z (.ret m) b a):GK C (execs (st::I2) C.env) GW t S Z:=
 fun p l=>OX (i.run l fun d u b a v n c f e=>by
  cases n with
  |next=>exact GK.run (Q:=Z) e c fun w h s g w o q r k=>⟨h,s,g,o,q,f.trans r c.alive,k⟩
  |ret j=>exact⟨_,b,a,.ret j,c,f,e⟩)
theorem xy{l:List Stmt}
(r:GK C (isTrue o C.env (eval o C.env)) Ho t S fun b j d=>(b=true->GK C (execs I2 C.env) GW j d Z)/\(b=false->GK C (execs l C.env) GW j d Z)):GK C (exec (.If o I2 l N) C.env) GW t S Z:=
 fun p s=>wpAny_If (r.run s fun n b j d u a c q m=>by
  cases(a:n=b)
  cases n
  ·exact(m.2 rfl).run c fun w f k e w a h i g=>⟨f,k,e,a,h,q.trans i c.alive,g⟩
  ·exact(m.1 rfl).run c fun w f k e w a h i g=>⟨f,k,e,a,h,q.trans i c.alive,g⟩)
theorem xE(d:GK C (eval o C.env) VR t S fun c b a=>Z (.ret c) b a):GK C (exec (.Return (some o) N) C.env) GW t S Z:=
 fun p f=>wpAny_Return_some (d.run f fun k c b a j g h i e=>⟨_,b,a,.ret g,h,i,e⟩)
theorem xv(d:GK C (eval o C.env) VR t S fun c b a=>Z .next b a)(e:autoParam (interactive C.env=false) aP)(f:autoParam (swapsWith o none N.line C.env=pure false) aP):
  GK C (exec (.Expr o N) C.env) GW t S Z:=
 fun p h=>wpAny_Expr_any (d.run h fun l c b a k m i j g=>⟨_,b,a,.next,i,j,g⟩) e f
theorem lX{Q:G4->ab->aa->Prop}(j:ck C)(f:f4 C h)(e:GK C (eval o C.env) VR t S fun b d a=>Q .next (cb d h b) a)
(g:autoParam (swapsWith o (some (.Name h N)) I9.line C.env=pure false) aP):GK C (exec (.Assign [.Name h N] o I9) C.env) GW t S Q:=
 fun p l=>wpAny_Assign_Name (e.run l fun s b d a q i c n k=>c.put j f i fun r m st=>⟨_,_,_,.next,m,n.trans st c.alive,k⟩) g
theorem x4(c:ck C)(a:f4 C h)(d:KD () (cb t h i) S):bn C (assign (.Name h N) C.env) i UR t S KD:=
 fun p j e b=>PI (e.put c a b fun g f st=>⟨(),_,_,trivial,f,st,d⟩)
end
section
theorem kO{a:Model}{c:Sem D}{b:D->Shared->Prop}(d:wpAny a Q c b a4 p):wpAny a Q c b (notedBy a Q Jq I4) p:=NB d (fun y y e=>e) bK
theorem B2{R:Result->Shared->Prop}(c:Nat->Shared->Prop)
(r:∀a p,c a p->wpAny (model prog w) Q (pyNext G) (fun f g=>match f with
 |none=>R (.ok .next) g
 |some b=>wpAny (model prog w) Q (letOwnedTupleGo o G b) (fun x k=>wpAny (model prog w) Q (assign o Jq b) (fun x l=>wpAny (model prog w) Q (execs I2 Jq) (fun e h=>match e with
  |.next=>∃j,j<a/\c j h
  |.ret b=>R (.ok (.ret b)) h
  |_=>False) a4 l) a4 k) a4 g) a4 p)
(a:Nat)(m:c a p):codeAny (model prog w) Q (.forLoop o G I2 [] Jq) R p:=by
 refine codeAny_loop' rfl c (fun a p G7=>?_) a m;refine wpAny_noted (kO ?_);refine M9 (OT (M9 (Qb (NB (r a p G7) (fun f g i=>?_) bK))));cases f with
 |none=>exact Nc (.inr ⟨rfl,codeAny_block (PH i)⟩)
 |some b=>
  refine M9 (NB i (fun x k n=>?_) bK);refine M9 (NB n (fun x l q=>?_) bK);refine M9 (NB q (fun e h d=>?_) bK);cases e with
  |next=>exact Nc (.inl ⟨rfl,d⟩)
  |ret b=>exact Nc d
  |brk=>exact d.elim
  |cont=>exact d.elim
theorem am6{R:Result->Shared->Prop}(b:Nat->Shared->Prop)
(k:∀a p,b a p->wpAny (model prog w) Q (isTrue o Jq (eval o Jq)) (fun c e=>
 if c then wpAny (model prog w) Q (execs I2 Jq) (fun d f=>match d with
  |.next=>∃i,i<a/\b i f
  |.ret l=>R (.ok (.ret l)) f
  |_=>False) a4 e
 else R (.ok .next) e) a4 p)
(a:Nat)(j:b a p):codeAny (model prog w) Q (.whileLoop o I2 [] Jq) R p:=by
 refine codeAny_whileLoop b (fun a p G7=>kO (NB (k a p G7) (fun c e g=>?_) bK)) a j;cases c with
 |false=>exact PH g
 |true=>exact kO (NB g (fun d f h=>by cases d<;>first|exact h|exact h.elim) bK)
end
section
variable{S:aa}{s:Shared}
theorem SR.dead(f:SR e t S s)(b:s.heap.get? d=none):d∉d4 e/\d∉aK S/\base.get? d=none:=by
 refine⟨fun c=>?_,fun c=>?_,?_⟩
 ·obtain⟨g,a⟩:=f.jy _ c;replace a:=b▸a;cases a
 ·obtain⟨h,a,_⟩:=f.led.c3 c;replace a:=b▸a;cases a
 ·cases a:base.get? d with
  |none=>rfl
  |some g=>have:=f.led.keep _ _ a;replace this:=b▸this;cases this
theorem SR.dJ(f:SR e t S s){tk:Nat}(p:∀b a,b≠d->s.heap.get? b=some a->I.get? b=some a)(G7:d∉d4 e/\d∉aK S/\base.get? d=none)
(v:∀a,s.heap.get? d=some a->¬c7 a):SR e t S {s with heap:=I,toks:=tk}:=by
 have x:cm s.heap I:=fun h a m C=>p h a (fun c=>v a (c▸m) C) m;have q:=fun b j a c=>p b a (fun r=>G7.1 (r▸j)) c;refine⟨f.led.fm (P:=[d]) (fun b a c E=>p b a (fun r=>E (r▸ .head _)) c) (fun b j=>by rw[Nj.mp j];exact⟨G7.2.2,G7.2.1⟩) (fun b j l c=>by replace c:=(Nj.mp j)▸c;exact v l c),?_,fun l i k=>?_,fun i k=>?_,f.apart,f.off,f.new⟩
 ·refine ah f.ns fun D y=>?_;exact⟨D,y.1.at' fun a c=>q _ (.head _) a c,fun l u n o=>let⟨g,h,b⟩:=y.2 l u n o;⟨g,h,b.mono x⟩⟩
 ·refine ah (f.cell l i k) fun g z=>?_;obtain⟨a,m,B⟩:=z.1;exact⟨g,⟨a,q i (.tail _ (Na.mpr ⟨_,mem_of_lookup k,rfl⟩)) a m,B⟩,fun u n o=>let⟨g,h,b⟩:=z.2 u n o;⟨g,h,b.mono x⟩⟩
 ·refine dN (f.live i k) fun g a A=>?_;exact⟨g,a,q i (.tail _ k) a A.1,A.2⟩
theorem aq.dJ{P:List Addr}(e:aq P s S p V){tk:Nat}(G7:s.heap.get? d=none)(i:∀a b,a≠d->p.heap.get? a=some b->I.get? a=some b):aq P s S {p with heap:=I,toks:=tk} V:=by
 obtain⟨⟨m,n,f,rfl⟩,g,h⟩:=e;exact⟨⟨I,tk,f,rfl⟩,fun a b c k j=>i a b (fun l=>by replace c:=G7▸l▸c;cases c) (g a b c k j),h⟩
structure wK(A:Around)(k:Heap)(c:Addr)(n:Nat)(l:Nat->GG)(j:aa->Prop)(St:Nat->Heap->Prop):Prop where
 frame:∀i f d,St i f->(∀o,f.get? c=some o->d.get? c=some o)->St i d
 fi:∀i f,St i f->∃o,f.get? c=some o/\¬c7 o
 next:∀(i:Nat)(S:aa)(s:Shared)(a:Option Value->Shared->Prop)(e:Value->Shared->Prop),i<n->LR S s.heap->j S->cm k s.heap->St i s.heap->
  (∀g d h,VR d g (l i)->St (i+1) d->(∀b o,b≠c->s.heap.get? b=some o->d.get? b=some o)->a (some g) {s with heap:=d,toks:=h})->wpAny (model prog w) A (pyNext (.ref c)) a e s
 done:∀(S:aa)(s:Shared)(a:Option Value->Shared->Prop)(e:Value->Shared->Prop),LR S s.heap->j S->cm k s.heap->St n s.heap->
  (∀d h,(∀b o,b≠c->s.heap.get? b=some o->d.get? b=some o)->a none {s with heap:=d,toks:=h})->wpAny (model prog w) A (pyNext (.ref c)) a e s
 go:∀(i:Nat)(m:Expr)(g:Value)(s:Shared)(a:Unit->Shared->Prop)(e:Value->Shared->Prop),St i s.heap->a () s->wpAny (model prog w) A (letOwnedTupleGo m (.ref c) g) a e s
 self:∀(i:Nat)(s:Shared)(a:Value->Shared->Prop)(e:Value->Shared->Prop),St i s.heap->a (.ref c) s->wpAny (model prog w) A (pyIter (.ref c)) a e s
noncomputable def dn(c:Around)(h:GG)(j:Nat)(i:Nat->GG)(d:aa->Prop):Prop:=
 ∀(S:aa)(s:Shared)(f:Value)(e:Value->Shared->Prop)(g:Value->Shared->Prop),LR S s.heap->VR s.heap f h->d S->
  (∀a b k St,wK c s.heap a j i d St->St 0 b->s.heap.get? a=none->(aV s.heap b)->e (.ref a) {s with heap:=b,toks:=k})->wpAny (model prog w) c (pyIter f) e g s
theorem SR.ext(f:SR e t S s){tk:Nat}(d:aV s.heap I):SR e t S {s with heap:=I,toks:=tk}:=by
 refine f.behind ⟨⟨_,_,_,rfl⟩,fun a c b x x=>d a c b,fun x g=>.inl g⟩ (f.led.fm (P:=[]) (fun a c b x=>d a c b) bs bs)
theorem aq.ext(P:List Addr){tk:Nat}(d:aV s.heap I):aq P s S {s with heap:=I,toks:=tk} S:=⟨⟨_,_,_,rfl⟩,fun a e b x x=>d a e b,fun x c=>.inl c⟩
theorem xw{U iter:Expr}
(Lj:GK e (eval iter e.env) VR t S fun KT z l=>∃h L A,dn e.A KT h L A/\∃j:Nat->ab->aa->Prop,j 0 z l/\(∀a d c,a<=h->j a d c->A c)/\
 (∀a d c,a<h->j a d c->bn e (assign U e.env) (L a) UR d c fun w Lx Ld=>GK e (execs I2 e.env) GW Lx Ld fun KV Lb Y=>match KV with|.next=>j (a+1) Lb Y|.ret V=>Z (.ret V) Lb Y)/\
 ∀d c,j h d c->Z .next d c)
(Lm:autoParam (∀x,foldedSetIterable iter e.env x=pure x) ic):GK e (exec (.For U iter I2 [] N) e.env) GW t S Z:=fun s Lq=>by
 refine wpAny_For (Lj.run Lq fun Lv KT z l K3 x k K5 Lo=>?_) Lm;obtain⟨h,L,A,Ll,j,KW,M,Lu,Li⟩:=Lo;refine Ll l K3 Lv _ _ k.led x (M 0 z l (NN _) KW) fun g LA LC St W Lr D ext=>?_;have m:=k.dead D;refine B2 (fun KX i=>∃a d c,KX=h+1-a/\a<=h/\SR e d c i/\aq (bU e) K3 l i c/\g∉aK c/\St a i.heap/\j a d c) ?_ (h+1) ⟨0,z,l,rfl,NN _,k.ext ext,aq.ext _ ext,m.2.1,Lr,KW⟩;rintro KX i ⟨a,d,c,rfl,G,r,y,Q,st,q⟩;rcases Rd a h with p|Lk
 ·refine W.next a c i _ _ p r.led (M a d c G q) (k.cj y) st fun V I K4 H v n=>?_;refine ah (W.fi a _ st) fun Ln K6=>?_;have J:∀b,i.heap.get? g=some b->¬c7 b:=fun b f=>by replace f:=K6.1▸f;cases f;exact K6.2
  have K0:SR e d c {i with heap:=I,toks:=K4}:=r.dJ n ⟨m.1,Q,m.2.2⟩ J;refine W.go (a+1) U V _ _ _ v ?_;refine(Lu a d c p q).run K0 H fun w w LD Ly Ls w K1 K9 Lp=>?_;have hM:∀{u T:Shared}{B C:aa},aq (bU e) u B T C->g∉aK B->(∃b,u.heap.get? g=some b)->(∀b,u.heap.get? g=some b->T.heap.get? g=some b)/\g∉aK C:=fun{u T B C}o KY Lf=>
   ⟨fun b f=>o.frame g b f (fun O=>m.1 (h5 O)) KY,fun O=>(o.grow g O).elim KY fun f=>by obtain⟨b,E⟩:=Lf;replace E:=f▸E;cases E⟩
  have Lg:∃b,I.get? g=some b:=let⟨b,f,_⟩:=W.fi _ _ v;⟨b,f⟩;refine aW (hM K9 Q Lg) fun X=>?_;refine Lp.run K1 fun KV Lz Lc KS LB Lw K2 La KZ=>?_;have Lh:∃b,Ls.heap.get? g=some b:=let⟨b,f,_⟩:=W.fi _ _ (W.frame _ _ _ v X.1);⟨b,f⟩;refine aW (hM La X.2 Lh) fun K7=>?_;have o:=((y.dJ D n).trans K9 K0.alive).trans La K1.alive;cases Lw with
  |next=>exact⟨h+1-(a+1),jO p,a+1,Lc,KS,rfl,p,K2,o,K7.2,W.frame _ _ _ (W.frame _ _ _ v X.1) K7.1,KZ⟩
  |ret H=>exact⟨_,Lc,KS,.ret H,K2,K5.trans o k.alive,KZ⟩
 ·have KU:=OY G Lk;refine W.done c i _ _ r.led (M a d c G q) (k.cj y) (KU▸st) fun I K4 n=>?_;refine ah (W.fi a _ st) fun Ln K8=>?_;have J:∀b,i.heap.get? g=some b->¬c7 b:=fun b f=>by replace f:=K8.1▸f;cases f;exact K8.2
  exact⟨.next,d,c,.next,r.dJ n ⟨m.1,Q,m.2.2⟩ J,K5.trans (y.dJ D n) k.alive,Li d c (KU▸q)⟩
end
section
variable{S:aa}
theorem A1:entryFor table "tuple_iterator.__iter__"=some Builtin.«dict_keyiterator.__iter__»:=
 QD (id':="dict_keyiterator.__iter__") (by kernel_rfl) rfl (by exists 4) (by kernel_rfl)
theorem AX:entryFor table "range_iterator.__iter__"=some Builtin.«dict_keyiterator.__iter__»:=
 QD (id':="dict_keyiterator.__iter__") (by kernel_rfl) rfl (by exists 4) (by kernel_rfl)
theorem ah4(a:p.TypeIs (.ref d) "tuple_iterator")(b:I4 (.ref d) p):wpAny (model prog w) Q (pyIter (.ref d)) I4 JX p:=by
 refine Qc a Su (On Su a A1 ?_ (F.args_tuple_iterator_iter_1 _));show wpAny _ _ (ret (.ref d)) _ _ p;exact Nc ⟨_,rfl,"tuple_iterator",_,a,F.slot_tuple_iterator_next.lookup,b⟩
theorem ah3(a:p.TypeIs (.ref d) "range_iterator")(b:I4 (.ref d) p):wpAny (model prog w) Q (pyIter (.ref d)) I4 JX p:=by
 refine Qc a Sv (On Sv a AX ?_ (F.args_range_iterator_iter_1 _));show wpAny _ _ (ret (.ref d)) _ _ p;exact Nc ⟨_,rfl,"range_iterator",_,a,F.slot_range_iterator_next.lookup,b⟩
noncomputable def n7:List String:=["enumerate","zip","dict_itemiterator","dict_reverseitemiterator","odict_iterator","itertools.zip_longest","itertools.pairwise"]
theorem s5{c:Model}{a:Obj}{es:List Expr}{k:Nat}{pos:Pos}(h:p.heap.get? d=some a)(g:a.cls=.type JY)(GX:n7.contains JY=false)(b:JM () p):
  wpAny c Q (letOwnedTupleGo (.Tuple es k pos) (.ref d) G) JM I4 p:=by
 cases G with
 |ref e=>
  refine M9 (wpAny_load h ?_);obtain⟨j,l,f,m⟩:=a;subst g;cases f with
  |fields i=>
   show wpAny c Q (if n7.contains JY&&i[0]? ==some (rawInt e)then _ else pure ()) JM I4 p;rw[GX];exact Nc b
  |_=>exact Nc b
 |_=>exact Nc b
theorem iS{h:Model}{f:Obj}(e:p.heap.get? d=some f)(c:f.cls=.type JY)(GX:n7.contains JY=false)(a:JM () p):
  wpAny h Q (letOwnedTupleGo o (.ref d) G) JM I4 p:=by
 cases o with
 |Tuple b i g=>exact s5 e c GX a
 |List b g=>exact s5 (es:=b) (k:=0) (pos:=g) e c GX a
 |_=>exact Nc a
theorem fj{a:Obj}{T:String}(c:a.cls=.type T)(b:autoParam ((T=="tuple"||T=="range")=false) dB):¬c7 a:=hV c b
theorem jg(g:Heap.SameBut d I JR){b:Obj}(f:I.get? d=some b)(i:¬c7 b):cm I JR:=fun c j a h=>(g.2 c fun e=>by rw[e,f]at a;cases a;exact i h).trans a
noncomputable def cf(S:aa)(a:Addr)(b:List GG):Prop:=(a,GL.list b)∈S\/(a,GL.fixed b)∈S
theorem LR.listAt(c:LR S p.heap)(b:cf S d z):∃a,p.heap.IsList d a/\ao p.heap a.toList z:=by
 rcases b with b|b
 ·refine ah (c.objs _ b) fun a e=>?_;exact⟨a,e.1.isList,e.2⟩
 ·refine ah (c.objs _ b) fun a f=>?_;exact⟨a,f.1,f.2⟩
theorem dj(G:Q.handled=none):dn Q (.ref d) z.length (fun a=>z.getD a .none) (fun S=>cf S d z):=by
 intro S p X i h g L f b;cases L;refine ah (g.listAt f) fun o u=>?_;have s:=u.1;have T:=u.2;refine PJ s ?_;refine ah (id s) fun U Y=>?_;refine b p.heap.objs.size _ p.toks (fun a l=>l.IsListIter p.heap.objs.size d a) ⟨fun a l k st N=>st.at N,fun a l r=>by refine aN r fun e q=>?_;have J:=q.1;have D:=q.2;have O:=q.3;exact⟨e,J,fj D⟩,?_,?_,fun a V n p i h r b=>by refine aN r fun e v=>?_;exact iS v.1 v.2 (rfl) b,fun a p i h st b=>wpAny_pyIter_listiter st b⟩
  ⟨_,Ny _ rfl,rfl,rfl⟩ (NW (Ni _)) fun j e c=>Nr _ c
 ·intro a S p i h H g f _ st b;refine ah (g.listAt f) fun o y=>?_;refine ah (y.2.get (by simp[H]:z[a]? =some (z.getD a .none))) fun n A=>?_;have c:=A.1;refine Rg st y.1 (x:=n) (by simpa using c) fun k I t=>?_;refine aN st fun e B=>?_;exact b n k p.toks (A.2.mono (jg t B.1 (fj B.2))) I fun j e m c=>(t.2 j m).trans c
 ·intro S p i h g f _ st b;refine ah (g.listAt f) fun o C=>?_;have M:o[z.length]? =none:=by
   have:=C.2.length;simp only[NI]at this;simp[<-this]
  exact Rh G st C.1 M fun k E=>b k p.toks fun j e m c=>E j e m c
theorem hL(E:Q.handled=none):dn Q (.tup z) z.length (fun b=>z.getD b .none) (fun w=>True):=by
 intro S p X i h U I T c;cases I with
 | @tup M N _ o u=>
 refine wpAny_pyIter_tuple o ?_;refine c p.heap.objs.size _ p.toks (fun b l=>l.IsTupleIter p.heap.objs.size M b) ⟨fun b l k e f=>by refine ah e fun a v=>?_;have g:=v.1;exact⟨a,f a g,v.2⟩,fun b l e=>by refine aN e fun a s=>?_;have g:=s.1;have n:=s.2;have O:=s.3;exact⟨a,g,fj n⟩,?_,?_,fun b V r p i h e c=>by refine aN e fun a y=>?_;have g:=y.1;have n:=y.2;exact iS g n (rfl) c,fun b p i h e c=>by refine aN e fun a A=>?_;exact ah4 ⟨a,A.1,A.2⟩ c⟩
  ⟨_,Ny _ rfl,rfl,rfl⟩ (NW (Ni _)) fun j a d=>Nr _ d
 ·intro b S q i h G L _ f st c;refine ah ((u.mono f).get (by simp[G]:z[b]? =some (z.getD b .none))) fun r B=>?_;have d:=B.1;refine wpAny_pyNext_tuple_item st (f.tup o) (x:=r) (by simpa using d) fun k H t=>?_;refine aN st fun a C=>?_;exact c r k q.toks (B.2.mono (jg t C.1 (fj C.2))) H fun j a m d=>(t.2 j m).trans d
 ·intro S q i h L _ f st c;have J:N[z.length]? =none:=by
   have:=u.length;simp only[NI]at this;simp[<-this]
  exact wpAny_pyNext_tuple_end E st (f.tup o) J fun k D=>c k q.toks fun j a m d=>D j a m d
theorem to(t:Q.handled=none){b:Int}(j:Builtin.Range.small k IY b=true)(u:Builtin.Range.rangeSize k IY b=(q:Int)):dn Q (.c4 k IY b) q (fun a=>.int (k+a*b)) (fun w=>True):=by
 intro S p D f e B x A c;cases x with
 |c4 v=>
 refine wpAny_pyIter_range v j ?_;refine c p.heap.objs.size _ p.toks (fun a h=>IsRangeIter h p.heap.objs.size (k+(a:Nat)*b) ((q:Int)-(a:Nat)) b) ⟨fun a h g st l=>l _ st,fun a h st=>⟨_,st,fj rfl⟩,?_,?_,fun a C E p f e st c=>iS st rfl (rfl) c,fun a p f e st c=>ah3 ⟨_,st,rfl⟩ c⟩
  (by show IsRangeIter _ _ _ _ _;rw[u];have:=Ny p.heap (o:={cls:=.type "range_iterator",data:=.fields #[rawInt k,rawInt (q:Int),rawInt b]}) rfl;simpa[IsRangeIter]using this) (NW (Ni _)) fun IY m d=>Nr _ d
 ·intro a S o f e z y _ l st c;refine wpAny_pyNext_range_item st (by omega) fun g n j=>?_;refine c _ g _ (.int _ _) ?_ fun IY m i d=>(j.2 IY i).trans d;have r:k+(a:Int)*b+b=k+((a+1:Nat):Int)*b:=by rw[show((a+1:Nat):Int)=(a:Int)+1 from rfl,Int.add_mul];omega
  rw[r,(by omega:(q:Int)-(a:Int)-1=(q:Int)-((a+1:Nat):Int))]at n;exact n
 ·intro S o f e y _ l st c;exact wpAny_pyNext_range_end t st (by omega) fun g s=>c g o.toks fun IY m i d=>s IY m i d
noncomputable def DictAt(S:aa)(a:Addr)(b:Nat)(c:List (ae×GG)):Prop:=(a,GL.dict b c)∈S
theorem ae.l3(b:Jr.is G=true):VR I G Jr.GP:=by
 rcases ae.fl b with⟨c,a,rfl,rfl⟩|⟨d,a,rfl,rfl⟩
 ·exact .int c a
 ·exact .str d a
theorem LR.noSys(f:LR S p.heap)(g:∃a,base.get? sysModules=some a)(c:d∈aK S):(d==sysModules)=false:=by
 cases e:d==sysModules with
 |false=>rfl
 |true=>obtain⟨a,b⟩:=g;have:=f.fresh d c;rw[beq_iff_eq.mp e,b]at this;exact nomatch this
theorem tn{A:Around}(T:A.handled=none)(KT:∃b,base.get? sysModules=some b){d:Addr}{ep:Nat}{ks:List (ae×GG)}:dn A (.ref d) ks.length (fun a=>((ks.map fun f=>f.1.GP)).getD a .none) (fun S=>DictAt S d ep ks):=by
 intro S p KW k j I Z H c;cases Z;refine aN (I.objs _ H) fun KU J=>?_;have z:=J.1;have q:=J.2;have X:KU.length=ks.length:=by have:=congrArg List.length q;simpa using this
 refine wpAny_pyIter_dict (I.noSys KT (ct H (Nz))) z ?_;refine c p.heap.objs.size _ p.toks (fun a n=>n.IsKeyIter p.heap.objs.size d a ks.length ep) ⟨fun a n m i s=>by refine ah i fun b L=>?_;have r:=L.1;exact⟨b,s b r,L.2⟩,fun a n i=>by refine aN i fun b x=>?_;have r:=x.1;have Q:=x.2;have z:=x.3;exact⟨b,r,fj Q⟩,?_,?_,fun a KV KX p k j i c=>by refine aN i fun b M=>?_;exact iS M.1 M.2 (rfl) c,fun a p k j st c=>wpAny_pyIter_keyiter st c⟩
  ⟨_,Ny _ rfl,rfl,by rw[X];rfl⟩ (NW (Ni _)) fun l b g=>Nr _ g
 ·intro a S v k j B u t s st c;refine aN (u.objs _ t) fun h y=>?_;have e:h.length=ks.length:=by have:=congrArg List.length y.2;simpa using this
  obtain⟨⟨G,KY⟩,E⟩:∃f,h[a]? =some f:=⟨h[a]'(mf B (Nd e.symm)),by simp[e,B]⟩
  have D:(ks.map (fun x=>x.1))[a]? =some G:=by rw[<-y.2,Ot,E];rfl
  have U:((ks.map fun f=>f.1.GP)).getD a .none=G.GP:=by
   rw[Ot,Po]at D;refine ah D fun f N=>?_;obtain rfl:=N.2;simp[N.1]
  refine wpAny_pyNext_dict_item (knd:=aX) (by rw[e];exact st) y.1 E fun KS m V C Y=>?_;rw[e]at C;exact c KS m v.toks (by rw[U];exact ae.l3 V) C fun l b o g=>(Y.2 l o).trans g
 ·intro S v k j u t s st c;refine aN (u.objs _ t) fun h O=>?_;have e:h.length=ks.length:=by have:=congrArg List.length O.2;simpa using this
  exact wpAny_pyNext_dict_end (knd:=aX) T (by rw[e];exact st) O.1 (by simp[e]) fun m q=>c m v.toks fun l b o g=>q l b o g
end
section
variable{S:aa}
noncomputable def o5(e:GU)(c:Value->Sem Unit)(d:Str):Prop:=∀{b:Value}{P:Unit->Shared->Prop}{a:Value->Shared->Prop}{p:Shared},wpAny (model prog w) e.A (storeName e.env d b) P a p->wpAny (model prog w) e.A (c b) P a p
noncomputable def ix(e:GU):List (Value->Sem Unit)->List GG->ab->(ab->Prop)->Prop
 |[],[],t,a=>a t
 |c::d,f::g,t,a=>∃b,o5 e c b/\f4 e b/\ix e d g (cb t b f) a
 |_,_,_,_=>False
theorem vk(r:ck e){P:Unit->Shared->Prop}{l:ab->Prop}(d:List (Value->Sem Unit)):∀{a:List GG}{c:List Value}{t:ab}{p:Shared},ix e d a t l->SR e t S p->ao p.heap c a->
  (∀g o,SR e o S g->aq (bU e) p S g S->l o->P () g)->wpAny (model prog w) e.A (assignInOrder d c) P I4 p:=by
 induction d with
 |nil=>
  intro a c t p b f h i;cases a with
  |nil=>rw[h.fQ];exact Nc (i p t f (aq.refl ..) b)
  |cons x a=>exact b.elim
 |cons A d q=>
  intro a c t p b f h i;cases a with
  |nil=>exact b.elim
  |cons x a=>
   refine aN b fun C j=>?_;refine bB h.head fun B c k=>?_;obtain rfl:=k.1;refine M9 (N1 (j.1 (f.put r j.2 k.2 fun g m n=>?_)));exact q j.3 m (k.3.mono (f.cj n)) fun v z u y s=>i v z u (n.trans y m.alive) s
theorem ow:o5 e (assign (.Name h N) e.env) h:=PI
theorem pC(s:ck e)(l:e.A.handled=none)(n:(assignEach IS e.env).length=z.length)(m:(assignEach IS e.env).findIdx? (fun x=>x.1)=none)
(i:ix e ((assignEach IS e.env).map (fun x=>x.2)) z t fun c=>KD () c S):bn e (assign (.Tuple IS q N) e.env) (.tup z) UR t S KD:=by
 intro p B f r;cases r with
 | @tup A C _ o d=>
 refine wpAny_assign_Tuple l o (by rw[n,<-d.length,NI]) m fun j k=>?_;have ext:aV p.heap j:=fun h b a=>k h b (NH (NE a)) a;exact vk s _ i (f.ext (tk:=p.toks) ext) (d.mono fun g b a w=>ext g b a) fun y c v x u=>⟨(),c,S,trivial,v,(aq.ext _ (tk:=p.toks) ext).trans x (f.ext (tk:=p.toks) ext).alive,u⟩
theorem lY(g:GK e (eval o e.env) VR t S fun b d a=>bn e (assign (.Tuple IS q N) e.env) b UR d a fun w=>Z .next)
(h:autoParam (swapsWithSole [.Tuple IS q N] o I9.line e.env=pure false) aP)(i:autoParam (swappedStores [.Tuple IS q N] o e.env=pure none) aP):GK e (exec (.Assign [.Tuple IS q N] o I9) e.env) GW t S Z:=
 fun p l=>Assign_Tuple (g.run l fun y b d a v m c r j=>j.run c m fun w w u f x w n s k=>⟨.next,u,f,.next,n,r.trans s c.alive,k⟩) h i
theorem ao.reverse(a:ao I Ja z):ao I Ja.reverse z.reverse:=
 a.ind (P:=fun Ja z=>ao I Ja.reverse z.reverse) .nil fun b x a=>by rw[List.reverse_cons,List.reverse_cons];exact a.append (.cons b .nil)
theorem xo(C:ck e)(u:e.A.handled=none)
(A:swappedStores [.Tuple IS q N] o e.env=pure (some l))
(n:GK e (eval o e.env) VR t S fun b k f=>∃d,b=.tup d/\d.length=l.length/\ix e (l.reverse.map fun B=>bindName e.env B) d.reverse k fun i=>Z .next i f)
(y:autoParam (swapsWithSole [.Tuple IS q N] o I9.line e.env=pure false) aP):GK e (exec (.Assign [.Tuple IS q N] o I9) e.env) GW t S Z:=by
 intro p D;refine Assign_Tuple_swapped (n.run D fun O b k f c G h I a=>?_) y A;obtain⟨d,rfl,v,a⟩:=a;cases G with
 | @tup M H _ z j=>
 have x:l.length=H.size:=by rw[<-v,<-j.length,NI]
 rw[x];refine wpAny_unpackItems_tuple u z fun r s=>?_;have ext:aV c.heap r:=fun m g o=>s m g (NH (NE o)) o;exact vk C _ a (h.ext (tk:=c.toks) ext) (j.mono fun b g o w=>ext b g o).reverse
  fun L i E J a=>⟨.next,i,f,.next,E,(I.trans (aq.ext _ (tk:=c.toks) ext) h.alive).trans J (h.ext (tk:=c.toks) ext).alive,a⟩
end
section
noncomputable def e4(e:Shared)(S:aa)(d:GG->aa->Prop):Value->Shared->Prop:=fun f b=>∃c a,VR b.heap f c/\LR a b.heap/\aq [] e S b a/\d c a
noncomputable def GN(g:Nat)(f:Value)(e:List GG)(S:aa)(d:GG->aa->Prop):Prop:=
 ∀(b:Around)(a:Shared)(c:List Value),aw b g->LR S a.heap->ao a.heap c e->
  wpAny (model prog w) b (call f c) (e4 a S d) a4 a
noncomputable def cH(c:Value):Prop:=∀b:Heap,(aV base b)->∃a,(a=Keeper.frame\/a=Keeper.machine\/a=Keeper.boundFrame)/\Looks (model prog w) b (keeperOf c) a
end
section
variable{S:aa}
theorem kq{f:Value}(b:∀a,f≠ .ref a):cH f:=fun c x=>⟨.machine,.inr (.inl rfl),by
 cases f<;>first|exact absurd rfl (b _)|exact Looks.now⟩
theorem ET{K:Frag}(a:K.In base)(e:keepIn K G=true):cH G:=fun d f=>keeps_K e d (fun b g c=>f _ _ (a b g c))
theorem vv(i:aw e.A q)(g:GN q G z S fun b d=>B b t d)(b:SR e t S p)(h:ao p.heap Ja z):
  wpAny (model prog w) e.A (call G Ja) (bW e p S VR B) a4 p:=
 NB (g e.A p Ja i b.led h) (fun l k j=>by refine oS j fun f c a=>?_;exact⟨f,t,c,a.1,b.behind a.3 a.2,a.3.wide bs,a.4⟩) bK
theorem pK{fs:List Value}{fa:List GG}(s:aw e.A q)(m:cH G)(b:SR e t S p)(k:ao p.heap fs fa)
(a:GK e (spliced (backTo N (starEach (o::IS) e.env))) ao t S fun f h d=>GN q G (fa++f) d fun b i=>B b h i)
(j:autoParam (starEach (o::IS) e.env=(false,eval o e.env)::starEach IS e.env) aP)(l:autoParam ((backTo N (starEach IS e.env)).any (fun x=>x.1)=false) aP):
  wpAny (model prog w) e.A (callWith N G fs (backTo N (starEach (o::IS) e.env)) []) (bW e p S VR B) a4 p:=by
 rw[j]at a⊢;refine callWith_of (P:=fun a=>aV base a) (by show((false||(backTo N (starEach IS e.env)).any (fun x=>x.1))||false)=false;rw[l];rfl) m (Qd (a.run b fun x f h d v u c g r=>⟨c.led.keep,?_⟩));exact NB (vv s r c ((k.mono (b.cj g)).append u)) (fun A A n=>n.trans g c) bK
theorem yO{fs:List Value}{fa:List GG}(g:aw e.A q)(f:cH G)(a:SR e t S p)(d:ao p.heap fs fa)
(b:GN q G (fa++[]) S fun a c=>B a t c):wpAny (model prog w) e.A (callWith N G fs (backTo N (starEach [] e.env)) []) (bW e p S VR B) a4 p:=
 callWith_of (P:=fun b=>aV base b) rfl f (evalArgs_nil3 ⟨a.led.keep,vv g b a (d.append .nil)⟩)
theorem xr(x:aw e.A q)
(l:GK e (eval (.Name h N) e.env) VR t S fun d g c=>∃a,d=.raw a/\cH a/\GK e (spliced (backTo I9 (starEach (o::IS) e.env))) ao g c fun k A i=>GN q a k i fun b j=>B b A j)
(n:autoParam (starEach (o::IS) e.env=(false,eval o e.env)::starEach IS e.env) aP)(r:autoParam ((backTo I9 (starEach IS e.env)).any (fun x=>x.1)=false) aP):
  GK e (eval (.Call (.Name h N) (o::IS) [] I9) e.env) VR t S B:=fun p b=>
 QE (l.run b fun D d g c C s f y z=>by
  obtain⟨a,m,u,v⟩:=z
  subst m
  cases s
  exact NB (pK (fa:=[]) x u f .nil v n r) (fun w w N=>N.trans y f) bK)
end
noncomputable def hR:List Str->List GG->ab->ab
 |n::b,c::d,a=>hR b d (cb a n c)
 |_,_,a=>a
noncomputable def g6:ab:=fun x=>none
section
variable{S:aa}
theorem yn{k:Str->Option NameKind}(m:List Str):∀(h:List Value)(i:List GG)(l j:Str->Option Value)(n:ab),ao I h i->
  (∀a c,n a=some c->(k a=some .local->∃b,l a=some b/\VR I b c)/\(k a≠some .local->∃b,j a=some b/\VR I b c))->
  ∀a c,hR m i n a=some c->(k a=some .local->∃b,bindL k (m.zip h) l a=some b/\VR I b c)/\(k a≠some .local->∃b,bindC k (m.zip h) j a=some b/\VR I b c):=by
 induction m with
 |nil=>intro h i l j n _ g;exact g
 |cons p y x=>
  intro h i l j n v g;cases v with
  |nil=>exact g
  |cons t u=>
  refine x _ _ _ _ _ u fun a c o=>?_;by_cases e:a=p
  ·cases(if_pos e).symm.trans o;subst e;exact⟨fun d=>⟨_,(congrFun (if_pos d) _).trans (if_pos rfl),t⟩,fun d=>⟨_,(congrFun (if_neg d) _).trans (if_pos rfl),t⟩⟩
  ·refine⟨fun d=>?_,fun d=>?_⟩
   ·refine ah ((g a c ((if_neg e).symm.trans o)).1 d) fun q r=>?_;refine⟨q,?_,r.2⟩;by_cases f:k p=some .local
    ·exact(congrFun (if_pos f) _).trans ((if_neg e).trans r.1)
    ·exact(congrFun (if_neg f) _).trans r.1
   ·refine ah ((g a c ((if_neg e).symm.trans o)).2 d) fun q s=>?_;refine⟨q,?_,s.2⟩;by_cases f:k p=some .local
    ·exact(congrFun (if_pos f) _).trans s.1
    ·exact(congrFun (if_neg f) _).trans ((if_neg e).trans s.1)
theorem pT{R:Result->Shared->Prop}{g:Obj}{fd:FuncData}{c:List (Str×Value)}
(z:Q.depth<recursionLimit)(y:p.heap.get? d=some g)(r:g.data=.func fd)(x:p.heap.NoLimit)(n:p.heap.CodeRec fd.code fd.qualname)
(m:fd.body=.stmts I2)(l:BindsTo p fd ⟨Ja,[]⟩ c)(o:fd.closure=[])
(v:∀a∈c,fd.scope.names.lookup a.1=some .local\/(fd.scope.names.lookup a.1=some .cell/\((cellsFrom (p.heap.objs.size+1) fd.scope.names []).lookup a.1).isSome=true))
(k:∀h,InCallC p (callEnvC fd p.heap.objs.size d).locals (bindL (callEnvC fd p.heap.objs.size d).kindOf c fun C=>none) (callEnvC fd p.heap.objs.size d).cells
  (bindC (callEnvC fd p.heap.objs.size d).kindOf c fun C=>none) h->
 wpAny (model prog w) (Q.deeper (callEnvC fd p.heap.objs.size d)) (execs I2 (callEnvC fd p.heap.objs.size d)) (fun j b=>R (.ok (.ret (match j with|.ret A=>A|_=>.none))) b)
  (fun f b=>wpAny (model prog w) (Q.deeper (callEnvC fd p.heap.objs.size d)) (leaving (callEnvC fd p.heap.objs.size d) f) (fun C e=>R (.error f) e) (fun i e=>R (.error i) e) b) h)
(q:fd.scope.isCoroutine=false)(t:fd.scope.isGenerator=false)(u:fd.scope.kind=.function):
  codeAny (model prog w) Q (.call (.ref d) ⟨Ja,[]⟩) R p:=by
 refine codeAny_call_function z y r q t m n (l _ _ _ _ ?_);rw[o];refine wpAny_newFunctionEnv_cells u v fun B s b a=>?_;subst s;exact⟨x.keeps a.toInCall.keep,codeAny_func (k b a)⟩
end
section
variable{S:aa}
theorem yb(g:GK e (eval o e.env) VR t S fun f d b=>∃a,f=.bool a/\Jw a d b)
(h:autoParam (isTrue o e.env (eval o e.env)=(do let c<-eval o e.env;standAt o.pos;holding [c] (truthy c))) aP):GK e (isTrue o e.env (eval o e.env)) Ho t S Jw:=
 fun p j=>wpAny_isTrue_value (g.run j fun c f d b q k l m n=>by obtain⟨a,o,i⟩:=n;subst o;cases k;exact Pq ⟨a,d,b,rfl,l,m,i⟩) h
theorem xJ
(l:GK e (isTrue o e.env (eval o e.env)) Ho t S fun b c a=>(b=true->GK e (allTrue .And IS e.env) Ho c a Jw)/\(b=false->Jw false c a)):GK e (allTrue .And (o::IS) e.env) Ho t S Jw:=
 fun p n=>wpAny_allTrue_And_cons (l.run n fun h b c a u d f i g=>by
  cases(d:h=b)
  cases h
  ·exact⟨false,c,a,rfl,f,i,g.2 rfl⟩
  ·exact(g.1 rfl).run f fun w k s j w d q r m=>⟨k,s,j,d,q,i.trans r f.alive,m⟩)
theorem xL
(l:GK e (isTrue o e.env (eval o e.env)) Ho t S fun b c a=>(b=true->Jw true c a)/\(b=false->GK e (allTrue .Or IS e.env) Ho c a Jw)):GK e (allTrue .Or (o::IS) e.env) Ho t S Jw:=
 fun p n=>wpAny_allTrue_Or_cons (l.run n fun h b c a u d f i g=>by
  cases(d:h=b)
  cases h
  ·exact(g.2 rfl).run f fun w k s j w d q r m=>⟨k,s,j,d,q,i.trans r f.alive,m⟩
  ·exact⟨true,c,a,rfl,f,i,g.1 rfl⟩)
theorem ya{j:Expr}{k l:CmpOp}
(H:GK e (eval o e.env) VR t S fun u B q=>GK e (eval X e.env) VR B q fun i C r=>aE e (compareOp k) u i VR C r fun c h b=>∃a,c=.bool a/\
 (a=false->Jw false h b)/\(a=true->GK e (eval j e.env) VR h b fun v D s=>aE e (compareOp l) i v VR D s fun c KX E=>∃a,c=.bool a/\Jw a KX E))
(J:autoParam (lastMarks [k,l] [X,j]=false) aP):GK e (isTrue (.Compare o [k,l] [X,j] N) e.env Kl) Ho t S Jw:=by
 intro p V;refine isTrue_chain (H.run V fun Z u B q KZ KT d z M=>test_link (M.run d fun KS i C r Y x f m T=>?_)) J;refine NB (T Y Z KS f (KT.mono (d.cj m)) x) (fun c K0 KW=>?_) bK;obtain⟨KY,h,b,KU,g,n,a,G,O,Q⟩:=KW;subst G;cases KU;refine Pq ?_;cases a with
 |false=>exact⟨false,h,b,rfl,g,((z.trans m d.alive).trans n f.alive),O rfl⟩
 |true=>
  refine test_last ((Q rfl).run g fun K2 v D s K1 KV y A U=>?_);exact NB (uK U y ((x.mono (f.cj n)).mono (g.cj A)) KV) (fun w w I=>NB I (fun w w L=>L.trans (((z.trans m d.alive).trans n f.alive).trans A g.alive) y) bK) bK
theorem xH(g:Nat->ab->aa->Prop)(d:Nat)(D:g d t S)
(G:∀d b a,g d b a->GK e (isTrue o e.env (eval o e.env)) Ho b a fun i l h=>(i=false->Z .next l h)/\
   (i=true->GK e (execs I2 e.env) GW l h fun r f c=>match r with|.next=>∃j,j<d/\g j f c|.ret k=>Z (.ret k) f c)):
  GK e (exec (.While o I2 [] N) e.env) GW t S Z:=fun p E=>by
 refine wpAny_While ?_;refine am6 (fun m n=>∃b a,SR e b a n/\aq (bU e) p S n a/\g m b a) ?_ d ⟨t,S,E,aq.refl ..,D⟩;rintro m n ⟨b,a,v,L,C⟩;refine(G m b a C).run v fun k i l h Q H q J s=>?_;cases(H:k=i);have A:=L.trans J v.alive;cases k with
 |false=>exact⟨.next,l,h,.next,q,A,s.1 rfl⟩
 |true=>
  refine(s.2 rfl).run q fun r O f c T I x M u=>?_;have z:=A.trans M q.alive;cases I with
  |next=>refine ah u fun j y=>?_;exact⟨j,y.1,f,c,x,z,y.2⟩
  |ret B=>exact⟨_,f,c,.ret B,x,z,u⟩
theorem LR.take(b:LR S p.heap){o:Obj}{ao:GL}(r:own (p.heap.objs.size,ao)=[p.heap.objs.size])(q:∀e,ao≠ .fixed e)(m:OR (p.heap.push o) p.heap.objs.size ao):LR ((p.heap.objs.size,ao)::S) (p.heap.push o):=by
 have ext:aV p.heap (p.heap.push o):=fun d k a=>Nr _ a;have h:=b.fm (P:=[]) (fun d o a y=>ext d o a) bs bs;have i:p.heap.get? p.heap.objs.size=none:=NW (Ni _);have j:aK ((p.heap.objs.size,ao)::S)=p.heap.objs.size::aK S:=by show own _++_=_;rw[r];rfl
 refine⟨fun s g=>?_,?_,fun d c=>?_,fun l e f=>?_,h.keep⟩
 ·rcases Nk.mp g with rfl|g
  ·exact m
  ·exact h.objs s g
 ·rw[j];refine ND.mpr ⟨fun n=>?_,b.nodup⟩;obtain⟨k,a,_⟩:=b.c3 n;replace a:=i▸a;cases a
 ·replace c:=j▸c;rcases Nk.mp c with rfl|c
  ·cases t:base.get? p.heap.objs.size with
   |none=>rfl
   |some k=>have:=b.keep _ _ t;replace this:=i▸this;cases this
  ·exact b.fresh d c
 ·rcases Nk.mp f with a|f
  ·cases a;exact absurd rfl (q e)
  ·exact b.fix l e f
theorem aq.take(f:LR S p.heap){P:List Addr}{o:Obj}{ao:GL}(e:own (p.heap.objs.size,ao)=[p.heap.objs.size]):aq P p S {p with heap:=p.heap.push o} ((p.heap.objs.size,ao)::S):=by
 refine⟨⟨_,p.toks,_,rfl⟩,fun b o c x x=>Nr _ c,fun b d=>?_⟩;rcases Nu.mp (show b∈own (p.heap.objs.size,ao)++aK S from d)with a|a
 ·rw[e]at a;rw[Nj.mp a];exact .inr (NW (Ni _))
 ·exact .inl a
theorem eO(c:aV I JR):cm I JR:=fun a d b x=>c a d b
theorem SR.newList(c:SR e t S p){us:Array Value}(g:ao p.heap us.toList z){P:Shared->Prop}
(h:∀b a,SR e t ((b,.list z)::S) a->aq (bU e) p S a ((b,.list z)::S)->b=p.heap.objs.size->a={p with heap:=p.heap.push {cls:=.type "list",data:=.seq us}}->P a):P {p with heap:=p.heap.push {cls:=.type "list",data:=.seq us}}:=by
 have d:aq [] p S _ _:=aq.take c.led (o:={cls:=.type "list",data:=.seq us}) (ao:=.list z) rfl;exact h _ _ (c.behind d (c.led.take (o:={cls:=.type "list",data:=.seq us}) (ao:=.list z) rfl ed ⟨us,⟨0,Ny _ rfl⟩,g.mono (eO fun i j f=>Nr _ f)⟩)) (d.wide bs) rfl rfl
theorem xA
(k:GK e (spliced (backTo N (starEach IS e.env))) ao t S fun b c d=>b.length<=sizeLine/\∀a,B (.ref a) c ((a,.list b)::d)):GK e (eval (.List IS N) e.env) VR t S B:=
 fun p l=>wpAny_List (k.run l fun o b c d n h i q f=>⟨by rw[h.length];exact f.1,i.newList (us:=o.toArray) (by simpa using h) (P:=fun g=>bW e p S VR B (.ref n.heap.objs.size) g)
  fun a g m r j IS=>⟨.ref a,c,_,j▸ .ref a,m,q.trans r i.alive,f.2 a⟩⟩)
theorem pv
(k:GK e (spliced (backTo N (starEach IS e.env))) ao t S fun vs c b=>vs.length<=sizeLine/\B (.tup vs) c b):GK e (eval (.Tuple IS q N) e.env) VR t S B:=
 fun p l=>wpAny_Tuple (k.run l fun m vs c b h i j n g=>⟨by rw[i.length];exact g.1,by
  exact⟨.tup vs,c,b,.tup (vs:=m.toArray) ⟨_,Ny _ rfl,rfl,_,rfl⟩ (by simpa using i.mono (eO (fun d f a=>Nr _ a))),j.ext (tk:=h.toks) (fun d f a=>Nr _ a),n.trans (aq.ext _ (tk:=h.toks) (fun d f a=>Nr _ a)) j.alive,g.2⟩⟩)
end
noncomputable def an:List Str->List (Option GG)->ab
 |x::b,c::d=>fun a=>if a=x then c else an b d a
 |_,_=>g6
noncomputable abbrev b6(c:List Str)(d:List (Option GG))(e:ab):Prop:=∀b a,an c d b=some a->e b=some a
noncomputable abbrev f6(d:Scope)(c:List Str)(e:List (Option GG))(f:ab):Prop:=∀a b,an c e a=some b->d.names.lookup a=some .free/\f a=some b
inductive b4:List Str->List (Option GG)->Str->GG->Prop
 |here {x:Str} {b:List Str} {a:GG} {c:List (Option GG)}:b4 (x::b) (some a::c) x a
 |there {x y:Str} {b:List Str} {a:GG} {u:Option GG} {c:List (Option GG)}:b4 b c x a->b4 (y::b) (u::c) x a
inductive bp:List Str->List (Option GG)->Str->GG->List (Option GG)->Prop
 |here {x:Str} {c:List Str} {a:GG} {u:Option GG} {b:List (Option GG)}:bp (x::c) (u::b) x a (some a::b)
 |there {x y:Str} {c:List Str} {a:GG} {u:Option GG} {b d:List (Option GG)}:bp c b x a d->bp (y::c) (u::b) x a (u::d)
theorem b4.mem(a:b4 l Y h i):h∈l:=by
 induction a with
 |here=>exact .head _
 |there _ b=>exact .tail _ b
theorem bp.mem(a:bp l Y h i JT):h∈l:=by
 induction a with
 |here=>exact .head _
 |there _ b=>exact .tail _ b
theorem b4.val(a:b4 l Y h i)(b:l.Nodup):an l Y h=some i:=by
 induction a with
 |here=>exact if_pos rfl
 | @there h f l i g Y a d=>
  have e:h≠f:=fun c=>(ND.mp b).1 (c▸a.mem);exact(if_neg e).trans (d (ND.mp b).2)
theorem bp.val(e:bp l Y h i JT)(d:l.Nodup):cb (an l Y) h i=an l JT:=by
 induction e with
 | @here h l j i Y=>
  funext b
  refine(?_:(if b=h then _ else if b=h then _ else _)=if b=h then _ else _);by_cases a:b=h
  ·rw[if_pos a,if_pos a]
  ·rw[if_neg a,if_neg a,if_neg a]
 | @there h b l i j Y JT e f=>
  have d:=ND.mp d
  funext c
  refine(?_:(if c=h then _ else if c=b then _ else _)=if c=b then _ else _);by_cases a:c=b
  ·rw[if_neg fun g=>(fun a=>d.1 (a▸e.mem):h≠b) (g.symm.trans a),if_pos a,if_pos a]
  ·rw[if_neg a,if_neg a];exact(congrFun (f d.2) c)
noncomputable def o2(a:List Str)(c:ab)(b:List (Option GG)):Prop:=c=an a b
theorem o2.base:o2 l (an l Y) Y:=rfl
theorem aca(a:List Str):an a (a.map fun z=>none)=g6:=by
 induction a with
 |nil=>rfl
 |cons d a c=>
  funext b
  refine(?_:(if b=d then none else an a (a.map fun z=>none) b)=none);rw[c];exact ite_self _
theorem FQ(c:List Str):∀(b:List GG)(f:ab),c.length=b.length->c.Nodup->∀a,(a∈c->hR c b f a=an c (b.map some) a)/\(a∉c->hR c b f a=f a):=by
 induction c with
 |nil=>exact fun b f x x a=>⟨fun e=>(N0 e).elim,fun x=>rfl⟩
 |cons i m g=>
  intro b f h j a;cases b with
  |nil=>cases h
  |cons l b=>
   have g:=g b (cb f i l) (OU h) (ND.mp j).2 a;by_cases d:a=i
   ·refine⟨fun x=>(g.2 (d▸(ND.mp j).1)).trans ((if_pos d).trans (if_pos d).symm),fun e=>absurd (d▸ .head _) e⟩
   ·refine⟨fun e=>(g.1 ((Nk.mp e).resolve_left d)).trans (if_neg d).symm,fun e=>(g.2 fun k=>e (.tail _ k)).trans (if_neg d)⟩
theorem uF(e g:List Str):∀(a:List GG),e.length=a.length->∀b,(b∈e->an (e++g) (a.map some++g.map fun x=>none) b=an e (a.map some) b)/\(b∉e->an (e++g) (a.map some++g.map fun x=>none) b=none):=by
 induction e with
 |nil=>intro a f b;cases a with
  |nil=>exact⟨fun d=>(N0 d).elim,fun x=>congrFun (aca g) b⟩
  |cons=>cases f
 |cons j k h=>
  intro a f b;cases a with
  |nil=>cases f
  |cons l a=>
   by_cases c:b=j
   ·exact⟨fun x=>(if_pos c).trans (if_pos c).symm,fun d=>absurd (c▸ .head _) d⟩
   ·exact⟨fun d=>(if_neg c).trans (((h a (OU f) b).1 ((Nk.mp d).resolve_left c)).trans (if_neg c).symm),fun d=>(if_neg c).trans ((h a (OU f) b).2 fun i=>d (.tail _ i))⟩
theorem FR(a c:List Str)(b:List GG)(h:(a++c).Nodup)(f:a.length=b.length):hR a b g6=an (a++c) (b.map some++c.map fun x=>none):=by
 funext e
 have g:=FQ a b g6 f (NK.mp h).1 e;by_cases d:e∈a
 ·exact(g.1 d).trans ((uF a c b f e).1 d).symm
 ·exact(g.2 d).trans ((uF a c b f e).2 d).symm
inductive aD:List (Option GG)->List (Option GG)->Prop
 |nil:aD [] []
 |same {c:Option GG} {b a:List (Option GG)}:aD b a->aD (c::b) (c::a)
 |drop {c:Option GG} {b a:List (Option GG)}:aD b a->aD (none::b) (c::a)
theorem aD.refl:∀a:List (Option GG),aD a a
 |[]=>.nil
 |_::a=>.same (aD.refl a)
theorem aD.val(b:aD Y JT):∀(a:List Str)(c:Str)(e:GG),an a Y c=some e->an a JT c=some e:=by
 induction b with
 |nil=>intro a c e b;exact b
 |same _ f=>intro a c e b;cases a with
  |nil=>exact b
  |cons g a=>
   by_cases d:c=g
   ·exact(if_pos d).trans ((if_pos d).symm.trans b)
   ·exact(if_neg d).trans (f a c e ((if_neg d).symm.trans b))
 |drop _ f=>intro a c e b;cases a with
  |nil=>exact b
  |cons g a=>
   by_cases d:c=g
   ·exact nomatch(if_pos d).symm.trans b
   ·exact(if_neg d).trans (f a c e ((if_neg d).symm.trans b))
noncomputable def Le(a S:aa):Prop:=∃R,(a++R).Perm S
theorem Le.refl(S:aa):Le S S:=⟨[],by simp⟩
theorem Le.skip{a S:aa}{p:Addr×GL}(c:Le a S):Le a (p::S):=let⟨R,b⟩:=c;⟨p::R,OK.trans (b.cons p)⟩
theorem Le.take{a S:aa}(c:Le a S):Le (J1::a) (J1::S):=let⟨R,b⟩:=c;⟨R,b.cons J1⟩
theorem Le.perm{a S b:aa}(d:Le a S)(e:S.Perm b):Le a b:=let⟨R,c⟩:=d;⟨R,c.trans e⟩
theorem Le.cU{S a:aa}(b:S.Perm a):Le S a:=⟨[],by simpa using b⟩
theorem Le.trans{S c d:aa}(f:Le S c)(g:Le c d):Le S d:=by
 obtain⟨R,e⟩:=f;obtain⟨a,b⟩:=g;exact⟨R++a,by rw[<-NR];exact(e.append_right a).trans b⟩
theorem Le.app{S d c e:aa}(g:Le S d)(h:Le c e):Le (S++c) (d++e):=by
 obtain⟨R,f⟩:=g;obtain⟨a,b⟩:=h;refine⟨R++a,List.Perm.trans ?_ (f.append b)⟩;have:(S++c++(R++a)).Perm (S++R++(c++a)):=by
  simp only[NR];refine List.Perm.append_left S ?_;rw[<-NR,<-NR];exact(Sw).append_right a
 exact this
theorem Le.eB{b S:aa}(a:aa)(c:Le b S):Le b (a++S):=by
 induction a with
 |nil=>exact c
 |cons e a d=>exact Le.skip d
inductive eG:Addr×GL->aa->aa->Prop
 |here {a:Addr×GL} {S:aa}:eG a (a::S) S
 |there {a c:Addr×GL} {S b:aa}:eG a S b->eG a (c::S) (c::b)
theorem eG.perm{S a:aa}(b:eG J1 S a):(J1::a).Perm S:=by
 induction b with
 |here=>exact List.Perm.refl _
 |there _ c=>exact(List.Perm.swap _ _ _).trans (c.cons _)
theorem Le.pick{a S b:aa}(d:eG J1 S b)(c:Le a b):Le (J1::a) S:=c.take.perm d.perm
theorem Le.mem{a S:aa}(c:Le a S)(d:J1∈a):J1∈S:=let⟨_,b⟩:=c;b.mem_iff.mp (NG _ d)
theorem uW{S a:aa}(b:S.Perm a):(aK S).Perm (aK a):=List.Perm.flatMap_right own b
inductive dP(a:Addr)(b c:GL):aa->aa->Prop
 |here {S:aa}:dP a b c ((a,b)::S) ((a,c)::S)
 |there {e:Addr×GL} {S d:aa}:dP a b c S d->dP a b c (e::S) (e::d)
theorem dP.mem{a f:GL}{S b:aa}(c:dP d a f S b):(d,a)∈S:=by
 induction c with
 |here=>exact .head _
 |there _ e=>exact .tail _ e
theorem dP.split{e f:GL}{S c:aa}(g:dP d e f S c):∃b a,S=b++(d,e)::a/\c=b++(d,f)::a:=by
 induction g with
 |here=>exact⟨[],_,rfl,rfl⟩
 | @there i S c _ h=>obtain⟨b,a,rfl,rfl⟩:=h;exact⟨i::b,a,rfl,rfl⟩
noncomputable def bk(b:Addr)(c:GL)(S:aa)(F:GL->aa):Prop:=∀a,dP b c a S (F a)
theorem bk.here{a:Addr}{b:GL}{S:aa}:bk a b ((a,b)::S) (fun c=>(a,c)::S):=fun x=>.here
theorem bk.there{b:Addr}{c:GL}{d:Addr×GL}{S:aa}{F:GL->aa}(e:bk b c S F):bk b c (d::S) (fun a=>d::F a):=fun a=>.there (e a)
theorem bk.mem{a:GL}{S:aa}{F:GL->aa}(b:bk d a S F):(d,a)∈S:=(b a).mem
section
variable{S:aa}
theorem LR.le(a:LR S I)(k:Le V S):LR V I:=by
 obtain⟨R,d⟩:=k;have e:∀b∈V,b∈S:=fun b l=>d.mem_iff.mp (NG _ l);have c:=uW d;have m:aK (V++R)=aK V++aK R:=OZ;rw[m]at c;exact⟨fun b j=>a.objs b (e b j),((NK.mp (c.nodup_iff.mpr a.nodup)).1),fun g h=>a.fresh g (c.mem_iff.mp (NG _ h)),fun f n i=>a.fix f n (e _ i),a.keep⟩
theorem Le.own{a S:aa}(e:Le a S)(c:d∈aK a):d∈aK S:=by
 obtain⟨R,g⟩:=e;have b:=uW g;have f:aK (a++R)=aK a++aK R:=OZ;rw[f]at b;exact b.mem_iff.mp (NG _ c)
theorem aq.le{P:List Addr}{b:aa}(a:aq P p S JK V)(e:Le b V):aq P p S JK b:=⟨a.same,a.frame,fun c d=>a.grow c (e.own d)⟩
theorem SR.le{n:ab}(a:SR e t S p)(j:Le V S)(k:∀c b,n c=some b->t c=some b):SR e n V p:=by
 refine⟨a.led.le j,?_,fun c o q=>?_,a.live,a.apart,a.off,fun h i=>⟨(a.new h i).1,fun g=>(a.new h i).2 (j.own g)⟩⟩
 ·refine ah a.ns fun g l=>?_;exact⟨g,l.1,fun c b d f=>l.2 c b (k c b d) f⟩
 ·refine ah (a.cell c o q) fun r m=>?_;exact⟨r,m.1,fun b d f=>m.2 b (k c b d) f⟩
theorem GK.less{j:Sem D}{R:Heap->D->I1->Prop}{h:I1->ab->aa->Prop}(l:GK e j R t S fun f k i=>∃d a,Le a i/\(∀b g,d b=some g->k b=some g)/\h f d a):GK e j R t S h:=
 fun p m=>l.run m fun g f k i r b n o q=>by refine bB q fun d a c=>?_;exact⟨f,d,a,b,n.le c.1 c.2,o.le c.1,c.3⟩
theorem GN.less(g:GN q G z S fun b c=>∃a,Le a c/\M b a):GN q G z S M:=fun e p j i f k=>
 NB (g e p j i f k) (fun w w o=>by obtain⟨b,c,l,m,n,a,d,h⟩:=o;exact⟨b,a,l,m.le d,n.le d,h⟩) bK
end
noncomputable abbrev G9(b:GU)(c K d e:List Str):Prop:=(ck b)/\(c.Nodup)/\(∀a∈c,b.env.kindOf a=some .local\/a∈e)/\(∀a∈K,f4 b a)/\(∀a∈d,b.env.kindOf a=some .globalImplicit)/\(∀a∈e,(b.env.kindOf a=some .cell\/b.env.kindOf a=some .free)/\(b.env.cells.lookup a).isSome=true)/\(∀a∈c++d,(a==("__debug__":Str))=false/\(a==("__classdict__":Str))=false)
theorem G9.ok{b K a c:List Str}(d:G9 e b K a c):ck e:=d.1
theorem G9.GO{a K b c:List Str}(d:G9 e a K b c):a.Nodup:=d.2.1
theorem G9.IM{a K d b:List Str}(f:G9 e a K d b):∀c∈a,e.env.kindOf c=some .local\/c∈b:=f.2.2.1
theorem G9.st{b K a c:List Str}(d:G9 e b K a c):∀x∈K,f4 e x:=d.2.2.2.1
theorem G9.gl{b K a c:List Str}(f:G9 e b K a c):∀d∈a,e.env.kindOf d=some .globalImplicit:=f.2.2.2.2.1
theorem G9.ce{d K c b:List Str}(f:G9 e d K c b):∀a∈b,(e.env.kindOf a=some .cell\/e.env.kindOf a=some .free)/\(e.env.cells.lookup a).isSome=true:=f.2.2.2.2.2.1
theorem G9.db{b K a d:List Str}(f:G9 e b K a d):∀c∈b++a,(c==("__debug__":Str))=false/\(c==("__classdict__":Str))=false:=f.2.2.2.2.2.2
theorem i2[BEq D][LawfulBEq D]{a:D}{l:List (D×I1)}(c:a∈l.map (fun x=>x.1)):(l.lookup a).isSome=true:=by
 induction l with
 |nil=>cases c
 |cons e l d=>
  rw[NF];cases b:a==e.1 with
  |true=>rfl
  |false=>exact d ((Nk.mp c).resolve_left fun f=>by rw[f,beq_self_eq_true]at b;cases b)
theorem bI[BEq D][LawfulBEq D]{c:D}{d:I1}{l:List (D×I1)}(a:l.lookup c=some d):(c,d)∈l:=by
 induction l with
 |nil=>cases a
 |cons f l e=>
  rw[NF]at a;cases b:c==f.1 with
  |true=>rw[b]at a;rw[eq_of_beq b,<-NM a];exact .head _
  |false=>rw[b]at a;exact .tail _ (e a)
theorem pM(f:List (Str×NameKind)):∀(e:Nat)(b:List (Str×Addr)),h∈b.map (fun x=>x.1)\/(h,NameKind.cell)∈f->h∈(cellsFrom e f b).map (fun x=>x.1):=by
 induction f with
 |nil=>exact fun e b a=>a.resolve_right nofun
 |cons j k g=>
  intro e b a;obtain⟨l,i⟩:=j;unfold cellsFrom;by_cases d:(i==NameKind.cell)=true
  ·rw[if_pos d];exact g _ _ (a.elim (fun a=>.inl (.tail _ a)) fun a=>(Nk.mp a).elim (fun c=>.inl (by cases c;exact .head _)) .inr)
  ·rw[if_neg d];exact g _ _ (a.imp id fun a=>(Nk.mp a).resolve_left fun c=>d (by cases c;rfl))
noncomputable def h6(names:List (Str×NameKind))(b K c d:List Str):Bool:=
 decide b.Nodup&&b.all (fun a=>names.lookup a==some .local||d.contains a)&&K.all (fun a=>names.lookup a==some .local||names.lookup a==some .cell)&&c.all (fun a=>names.lookup a==some .globalImplicit)&&
 d.all (fun a=>names.lookup a==some .cell)&&(b++c).all fun a=> !(a==("__debug__":Str))&& !(a==("__classdict__":Str))
theorem sY{c:FuncData}{g K f h:List Str}(q:ck ⟨Q,callEnvC c d H,true⟩)(j:h6 c.scope.names g K f h=true):G9 ⟨Q,callEnvC c d H,true⟩ g K f h:=by
 simp only[h6,Ox,decide_eq_true_eq,O8,PK,beq_iff_eq,Pr,Ri]at j;refine aW j fun l=>?_;obtain⟨⟨⟨⟨m,n⟩,o⟩,p⟩,k⟩:=l.1;have i:∀a,c.scope.names.lookup a=some .cell->((callEnvC c d H).cells.lookup a).isSome=true:=fun a e=>i2 (pM _ _ _ (.inr (bI e)));exact⟨q,m,fun a b=>(n a b),fun a b=>(o a b).imp id fun e=>⟨rfl,e,i a e⟩,p,fun a b=>⟨.inl (k a b),i a (k a b)⟩,l.2⟩
section
variable{K:List Str}{S:aa}
theorem ye(a:G9 e l K Jb Jz)(c:b4 l Y h i)(f:B i (an l Y) S):GK e (eval (.Name h N) e.env) VR (an l Y) S B:=by
 rcases a.IM h c.mem with b|b
 ·exact x0 a.ok b (c.val a.GO) f (a.db h (NG _ c.mem)).1
 ·obtain⟨b,d⟩:=a.ce h b;obtain⟨g,d⟩:=Oa.mp d;rcases b with b|b
  ·exact xS a.ok b d (c.val a.GO) f (a.db h (NG _ c.mem)).1
  ·exact xV a.ok b d (c.val a.GO) f (a.db h (NG _ c.mem)).1 (a.db h (NG _ c.mem)).2
theorem xY(a:G9 e l K Jb Jz)(c:St)(b:h∈Jb)(d:G2 h=some G)(f:B (.raw G) t S):GK e (eval (.Name h N) e.env) VR t S B:=
 xX a.ok c (a.gl h b) d f (a.db h (NA _ b)).1
theorem xR(a:G9 e l K Jb Jz)(c:St)(b:h∈Jb)(d:G2 h=none)(g:bootBuiltins h=some G)(f:h≠"__name__")(i:B (.raw G) t S):GK e (eval (.Name h N) e.env) VR t S B:=
 xP a.ok c (a.gl h b) d g f i (a.db h (NA _ b)).1
theorem xN(a:G9 e l K Jb Jz)(g:h∈K)(d:GK e (eval o e.env) VR t S fun c i b=>Z .next (cb i h c) b)
(f:autoParam (swapsWith o (some (.Name h N)) I9.line e.env=pure false) aP):GK e (exec (.Assign [.Name h N] o I9) e.env) GW t S Z:=lX a.ok (a.st h g) d f
noncomputable def ek(e:GU)(l:List Str)(r:Expr)(p:List Stmt)(h:G4->ab->aa->Prop)(o:GG)(u:ab)(n:aa):Prop:=
 ∃f j g,dn e.A o f j g/\∃b:Nat->List (Option GG)->aa->Prop,
  (∃d c,(b6 l d u)/\Le c n/\b 0 d c)/\(∀a Y S,a<=f->b a Y S->g S)/\
  (∀a Y S,a<f->b a Y S->bn e (assign r e.env) (j a) UR (an l Y) S fun x t m=>GK e (execs p e.env) GW t m fun q k i=>match q with
   |.next=>∃d c,(b6 l d k)/\Le c i/\b (a+1) d c
   |.ret s=>h (.ret s) k i)/\
  ∀Y S,b f Y S->h .next (an l Y) S
theorem xx{k iter:Expr}(l:List Str)(y:GK e (eval iter e.env) VR t S (ek e l k I2 Z))
(A:autoParam (∀g,foldedSetIterable iter e.env g=pure g) ic):GK e (exec (.For k iter I2 [] N) e.env) GW t S Z:=by
 refine xw (GK.less (y.mono fun X KU V a=>?_)) A;obtain⟨I,C,o,z,n,⟨f,h,H,G,D⟩,E,L,x⟩:=a;refine⟨an l f,h,G,H,I,C,o,z,fun c t S=>∃Y,t=an l Y/\n c Y S,⟨f,rfl,D⟩,?_,?_,?_⟩
 ·rintro c m b i ⟨Y,rfl,d⟩;exact E c Y b i d
 ·rintro c m b i ⟨Y,rfl,d⟩ p KT J B;refine(L c Y b i d).run J B fun M s T q KS g O Q a=>⟨s,T,q,g,O,Q,GK.less (a.mono fun v U r a=>?_)⟩
  cases v with
  |next=>refine bB a fun f h j=>?_;exact⟨_,h,j.2,j.1,f,rfl,j.3⟩
  |ret M=>exact⟨U,r,Le.refl _,fun w w u=>u,a⟩
 ·rintro m b ⟨Y,rfl,d⟩;exact x Y b d
theorem sW(a:List D)(h:D->GG)(c:List D->List (Option GG)->aa->Prop)
(x:dn e.A i (a.map h).length (fun b=>(a.map h).getD b .none) Kn)
(start:∃k g,(b6 l k t)/\Le g V/\c [] k g)(y:∀f m Y S,a=f++m->c f Y S->Kn S)
(z:∀f n m Y S,a=f++n::m->c f Y S->bn e (assign o e.env) (h n) UR (an l Y) S fun w B r=>GK e (execs I2 e.env) GW B r fun v q p=>match v with
 |.next=>∃k g,(b6 l k q)/\Le g p/\c (f++[n]) k g
 |.ret A=>Z (.ret A) q p)
(u:∀Y S,c a Y S->Z .next (an l Y) S):ek e l o I2 Z i t V:=by
 refine⟨_,_,Kn,x,fun b Y S=>c (a.take b) Y S,?_,?_,?_,?_⟩
 ·simpa using start
 ·intro b Y S j d;exact y (a.take b) (a.drop b) Y S (Pn b a).symm d
 ·intro b Y S j d;replace j:=(Nb _)▸j;have s:a=a.take b++a[b]::a.drop (b+1):=by rw[Sx];exact(Pn b a).symm
  rw[(by simp[j]:(a.map h).getD b .none=h a[b])];dsimp only;rw[(by rw[QF j]:a.take (b+1)=a.take b++[a[b]])];exact(z (a.take b) a[b] (a.drop (b+1)) Y S s d)
 ·intro Y S d;rw[Nb,Rj]at d;exact u Y S d
theorem B4(q:e.A.handled=none)(d:List D)(f:D->GG)(a:List D->List (Option GG)->aa->Prop)(m:z=d.map f)
(start:∃c b,(b6 l c t)/\Le b V/\a [] c b)
(s:∀g h r Y S,d=g++h::r->a g Y S->bn e (assign o e.env) (f h) UR (an l Y) S fun y v k=>GK e (execs I2 e.env) GW v k fun p j i=>match p with
 |.next=>∃c b,(b6 l c j)/\Le b i/\a (g++[h]) c b
 |.ret u=>Z (.ret u) j i)
(n:∀Y S,a d Y S->Z .next (an l Y) S):ek e l o I2 Z (.tup z) t V:=by
 subst m;exact sW d f a (hL q) start (fun y y y y y y=>trivial) s n
theorem B3{d:Int}(n:e.A.handled=none)(r:Builtin.Range.small k IY d=true)(p:Builtin.Range.rangeSize k IY d=(q:Int))(a:Nat->List (Option GG)->aa->Prop)
(start:∃c b,(b6 l c t)/\Le b V/\a 0 c b)
(s:∀f Y S,f<q->a f Y S->bn e (assign o e.env) (.int (k+f*d)) UR (an l Y) S fun x v i=>GK e (execs I2 e.env) GW v i fun m h g=>match m with
 |.next=>∃c b,(b6 l c h)/\Le b g/\a (f+1) c b
 |.ret u=>Z (.ret u) h g)
(j:∀Y S,a q Y S->Z .next (an l Y) S):ek e l o I2 Z (.c4 k IY d) t V:=
 ⟨q,_,_,to n r p,a,start,fun x x x x x=>trivial,s,j⟩
theorem xI(l:List Str)(h:Nat->List (Option GG)->aa->Prop)(g:Nat)(start:∃a b,(b6 l a t)/\Le b S/\h g a b)
(E:∀g Y S,h g Y S->GK e (isTrue o e.env (eval o e.env)) Ho (an l Y) S fun q v m=>(q=false->Z .next v m)/\
   (q=true->GK e (execs I2 e.env) GW v m fun r f d=>match r with
    |.next=>∃i a b,i<g/\(b6 l a f)/\Le b d/\h i a b
    |.ret u=>Z (.ret u) f d)):GK e (exec (.While o I2 [] N) e.env) GW t S Z:=by
 refine bB start fun a b j=>?_;have D:GK e (exec (.While o I2 [] N) e.env) GW (an l a) b Z:=by
  refine xH (fun s t S=>∃Y,t=an l Y/\h s Y S) g ⟨a,rfl,j.3⟩ ?_;rintro s L y ⟨Y,rfl,C⟩;refine(E s Y y C).mono fun q v m c=>⟨c.1,fun B=>GK.less ((c.2 B).mono fun r f d c=>?_)⟩
  cases r with
  |next=>refine f2 c fun i a b k=>?_;exact⟨_,b,k.3,k.2,i,k.1,a,rfl,k.4⟩
  |ret u=>exact⟨f,d,Le.refl _,fun w w z=>z,c⟩
 intro p x;refine D.run (x.le j.2 j.1) fun u n f d J G H I c=>⟨n,f,d,G,H,?_,c⟩
 exact((aq.refl _ p S).le j.2).trans I fun n A=>x.alive n A
end
noncomputable def d7(b:Env):List (Str×NameKind)->List (Str×Addr)->List (Str×Addr)
 |[],a=>a
 |(c,e)::d,a=>if e==.free then d7 b d ((c,(b.cells.lookup c).getD 0)::a)else d7 b d a
theorem jD{b:NameKind}{a:List (Str×Addr)}:d7 Jq ((h,b)::KG) a=if b==.free then d7 Jq KG ((h,(Jq.cells.lookup h).getD 0)::a)else d7 Jq KG a:=rfl
theorem l7(b:∀a,(a,NameKind.free)∈KR.names->(Jq.cells.lookup a).isSome=true):closureFor KR Jq=pure (d7 Jq KR.names []):=by
 have o:∀(c:List (Str×NameKind))(d:List (Str×Addr)),(∀a,(a,NameKind.free)∈c->(Jq.cells.lookup a).isSome=true)->
   (forIn c d fun(a:Str×NameKind)(j:List (Str×Addr))=>(do
    if(a.2==NameKind.free)=true then do
     let e<-cellOf Jq a.1
     pure (ForInStep.yield ((a.1,e)::j))
    else pure (ForInStep.yield j):Sem (ForInStep (List (Str×Addr)))))=pure (d7 Jq c d):=by
  intro c;induction c with
  |nil=>intro d _;rfl
  |cons p j l=>
   intro d b;obtain⟨m,i⟩:=p;rw[List.forIn_cons];rw[jD];by_cases g:(i==NameKind.free)=true
   ·have n:i=.free:=by cases i<;>first|rfl|(exact absurd g (by decide))
    obtain⟨e,k⟩:=Oa.mp (b m (by rw[n];exact .head _));simp only[g,if_true];have:cellOf Jq m=pure e:=by unfold cellOf;rw[k]
    rw[this,k];exact l _ fun a h=>b a (.tail _ h)
   ·simp only[g,if_false];exact l _ fun a h=>b a (.tail _ h)
 have:=o KR.names [] b;show(forIn KR.names [] _>>=fun f=>pure f)=_;rw[show(fun(f:List (Str×Addr))=>(pure f:Sem _))=pure from rfl];rw[bind_pure];exact this
theorem tx{a:NameKind}(b:(a==NameKind.free)=true):a=.free:=by cases a<;>first|rfl|exact absurd b (by decide)
theorem pR(g:List (Str×NameKind)):∀(d:List (Str×Addr))(b:Str)(c:Addr),(b,c)∈d7 Jq g d->(b,c)∈d\/((b,NameKind.free)∈g/\c=(Jq.cells.lookup b).getD 0):=by
 induction g with
 |nil=>exact fun d b c a=>.inl a
 |cons j l h=>
  intro d b c a;obtain⟨k,i⟩:=j;rw[jD]at a;by_cases f:(i==NameKind.free)=true
  ·replace a:=(if_pos f)▸a;rcases h _ b c a with a|⟨a,e⟩
   ·rcases Nk.mp a with e|a
    ·cases e;exact .inr ⟨by rw[tx f];exact .head _,rfl⟩
    ·exact .inl a
   ·exact .inr ⟨.tail _ a,e⟩
  ·replace a:=(if_neg f)▸a;exact(h _ b c a).imp id fun a=>⟨.tail _ a.1,a.2⟩
theorem yY(f:List (Str×NameKind)):∀(c:List (Str×Addr))(b:Str),b∈c.map (fun x=>x.1)\/(b,NameKind.free)∈f->b∈(d7 Jq f c).map (fun x=>x.1):=by
 induction f with
 |nil=>exact fun c b a=>a.resolve_right nofun
 |cons i k g=>
  intro c b a;obtain⟨j,h⟩:=i;rw[jD];by_cases e:(h==NameKind.free)=true
  ·rw[if_pos e];exact g _ b (a.elim (fun a=>.inl (.tail _ a)) fun a=>(Nk.mp a).elim (fun d=>.inl (by cases d;exact .head _)) .inr)
  ·rw[if_neg e];exact g _ b (a.imp id fun a=>(Nk.mp a).resolve_left fun d=>e (by cases d;rfl))
theorem yZ{C:List (Str×Addr)}(Hr:Jq.cells=C)(q:C.Pairwise fun b f=>b.2≠f.2)(e:List (Str×NameKind)):∀(c:List (Str×Addr)),(e.map (fun x=>x.1)).Nodup->(∀a∈c,a.1∉e.map (fun x=>x.1))->
  (∀a∈c,C.lookup a.1=some a.2)->(∀b,(b,NameKind.free)∈e->(C.lookup b).isSome=true)->c.Pairwise (fun b f=>b.2≠f.2)->(d7 Jq e c).Pairwise fun b f=>b.2≠f.2:=by
 induction e with
 |nil=>exact fun c z z z z g=>g
 |cons a y p=>
  obtain⟨k,v⟩:=a;intro c l m lk n g;have o:∀b,(b,NameKind.free)∈y->(C.lookup b).isSome=true:=fun b u=>n b (.tail _ u);rw[jD];by_cases i:(v==NameKind.free)=true
  ·rw[if_pos i];obtain⟨r,h⟩:=Oa.mp (n k (by rw[tx i];exact .head _));have t:(Jq.cells.lookup k).getD 0=r:=by rw[Hr,h];rfl
   rw[t];refine p _ (ND.mp l).2 (NT.mpr ⟨(ND.mp l).1,(fun a d j=>m a d (.tail _ j))⟩) (NT.mpr ⟨h,lk⟩) o (OL.mpr ⟨fun a d s=>?_,g⟩);have x:a.1=k:=name_of_addr q (mem_of_lookup (lk a d)) (s▸mem_of_lookup h);exact m a d (x▸ .head _)
  ·rw[if_neg i];exact p c (ND.mp l).2 (fun a d j=>m a d (.tail _ j)) lk o g
section
theorem pV{h g iter:Expr}{R:Result->Shared->Prop}(c:Nat->Shared->Prop)
(z:∀a p,c a p->wpAny (model prog w) Q (pyNext G) (fun b j=>match b with
 |none=>R (.ok .next) j
 |some l=>wpAny (model prog w) Q (letOwnedTupleGo g G l) (fun B o=>wpAny (model prog w) Q (assign g Jq l) (fun B q=>
  wpAny (model prog w) Q (forIn IS true fun m b=>if b=true then do let e<-isTrue m Jq (eval m Jq);pure (ForInStep.yield e)else pure (ForInStep.yield b)) (fun e k=>
   if e=true then wpAny (model prog w) Q (eval h Jq) (fun f r=>
    wpAny (model prog w) Q (call (.builtin "list.append") [Jy,f]) (fun B s=>∃d,d<a/\c d s) a4 r) a4 k
   else∃d,d<a/\c d k) a4 q) a4 o) a4 j) a4 p)
(a:Nat)(t:c a p):codeAny (model prog w) Q (.compLoop (.ListComp h [⟨g,iter,IS,0⟩] KR N) 0 G Jy Jq) R p:=by
 refine codeAny_loop rfl c (fun a p G7=>?_) a t;show wpAny _ Q ((compTurn (.ListComp h [⟨g,iter,IS,0⟩] KR N) 0 G Jy Jq).onRaise (fun f=>do noteFrame f Jq;theTreesLotGoes f)) _ _ p;refine wpAny_noted (kO ?_);rw[compTurn_list];refine M9 (OT (M9 (NB (z a p G7) (fun b j n=>?_) bK)));cases b with
 |none=>exact Nc n
 |some l=>
  refine M9 (NB n (fun B o u=>?_) bK);refine M9 (NB u (fun B q v=>?_) bK);refine M9 (NB v (fun e k i=>?_) bK);cases e with
  |false=>exact Nc ⟨rfl,i⟩
  |true=>
   simp only[if_true]at i;refine M9 (M9 (NB i (fun f r x=>M9 (NB x (fun B s y=>Nc (Nc ⟨rfl,y⟩)) bK)) bK))
end
noncomputable def aR(a:GU)(b:Scope)(c:Addr):GU:=⟨a.A,compEnvC b (d7 a.env b.names []) c a.env,false⟩
noncomputable def l9(b:List (Str×NameKind))(c K f d:List Str):Bool:=
 decide (b.map (fun x=>x.1)).Nodup&&decide c.Nodup&&c.all (fun a=>b.lookup a==some .local||d.contains a)&&K.all (fun a=>b.lookup a==some .local)&&f.all (fun a=>b.lookup a==some .globalImplicit)&&
 d.all (fun a=>b.lookup a==some .free)&&b.all (fun e=> !(e.2==.cell)&&(!(e.2==.free)||d.contains e.1))&&(c++f).all fun a=> !(a==("__debug__":Str))&& !(a==("__classdict__":Str))
theorem nq{env:Env}{f:NameKind->Str->NameKind}{d:NameKind}(a:KG.lookup h=some d):(KG.map fun b=>(b.1,f b.2 b.1)).lookup h=some (f d h):=by
 induction KG with
 |nil=>cases a
 |cons b g e=>
  rw[NF]at a;rw[Nt,NF];cases c:h==b.1 with
  |true=>rw[c]at a;rw[<-NM a,eq_of_beq c]
  |false=>rw[c]at a;exact e a
theorem oc(c:Scope)(b:Env):(relabel c b).names=c.names.map fun a=>(a.1,if(a.2==.free&&b.scope.kind==.function&&b.kindOf a.1==some .cell)then .cell else a.2):=by
 refine N7 fun a x=>?_;obtain⟨e,d⟩:=a;dsimp only
 split<;>rfl
theorem Cm{k K j h s r q l:List Str}(m:G9 e s r q l)(y:KR.kind=.function)(n:l9 KR.names k K j h=true)(C:∀a∈h,a∈l):G9 (aR e KR d) k K j h:=by
 simp only[l9,Ox,decide_eq_true_eq,O8,PK,beq_iff_eq,Pr,Ri]at n;refine aW n fun p=>?_;obtain⟨⟨⟨⟨⟨⟨A,t⟩,u⟩,v⟩,x⟩,o⟩,B⟩:=p.1;have g:∀a c,KR.names.lookup a=some c->(aR e KR d).env.kindOf a=some (if(c==.free&&e.env.scope.kind==.function&&e.env.kindOf a==some .cell)then .cell else c):=fun a c i=>by
  show(relabel KR e.env).names.lookup a=_;rw[oc];exact nq (env:=e.env) (f:=fun c z=>if(c==.free&&e.env.scope.kind==.function&&e.env.kindOf z==some .cell)then .cell else c) i
 refine⟨⟨y,m.ok.glob,m.ok.blt⟩,t,fun a b=>(u a b).imp (fun i=>?_) id,fun a b=>.inl ?_,fun a b=>?_,fun a b=>⟨?_,?_⟩,p.2⟩
 ·exact(g a _ i).trans rfl
 ·exact(g a _ (v a b)).trans rfl
 ·exact(g a _ (x a b)).trans rfl
 ·have:=g a _ (o a b);rw[this]
  split
  ·exact .inl rfl
  ·exact .inr rfl
 ·exact i2 (yY _ _ _ (.inr (bI (o a b))))
section
variable{K:List Str}{S:aa}{s:Shared}
theorem kI{b e:D}{d c:List D}:b∈d++e::c↔b=e\/b∈d++c:=by
 simp only[Nu,Nk];constructor
 ·rintro(a|a|a)
  ·exact .inr (.inl a)
  ·exact .inl a
  ·exact .inr (.inr a)
 ·rintro(a|a|a)
  ·exact .inr (.inl a)
  ·exact .inl a
  ·exact .inr (.inr a)
theorem LR.turn{a b:Addr}{o m:GL}(f:LR S I)(H:dP a o m S V)(k:b∈own (a,o))(n:∀c e,c≠b->I.get? c=some e->JR.get? c=some e)(G:own (a,m)=own (a,o))
(E:∀j,m≠ .fixed j)(z:OR JR a m):LR V JR:=by
 obtain⟨s,r,rfl,rfl⟩:=H.split;have x:aK (s++(a,m)::r)=aK (s++(a,o)::r):=by unfold aK;rw[OZ,OZ,NO,NO,G]
 refine⟨fun h A=>?_,x▸f.nodup,fun c q=>f.fresh c (x▸q),fun c j y=>?_,fun c e g=>n c e (fun i=>by subst i;rw[f.fresh _ (ct (p:=(a,o)) (by simp) k)]at g;exact nomatch g) (f.keep c e g)⟩
 ·rcases(kI.mp A)with rfl|t
  ·exact z
  ·have u:h∈s++(a,o)::r:=kI.mpr (.inr t);have D:b∉own h:=fun v=>by
    have p:=f.nodup;unfold aK at p;rw[OZ,NO]at p;rcases Nu.mp t with d|d
    ·exact(NK.mp p).2.2 b (NJ.mpr ⟨h,d,v⟩) b (NG _ k) rfl
    ·exact(NK.mp (NK.mp p).2.1).2.2 b k b (NJ.mpr ⟨h,d,v⟩) rfl
   refine(f.objs h u).mono (a:=h.1) (o:=h.2) (fun c e g B=>n c e (fun i=>by subst i;obtain⟨J,l,C⟩:=(f.c3 (ct (p:=(a,o)) (by simp) k));rw[g]at l;cases l;exact C B) g) (fun c q e i=>n c e (fun d=>D (d▸q)) i) ?_;rintro⟨j,i⟩ e g;obtain⟨J,l⟩:=f.fix h.1 j (by rw[<-i];exact u);exact n _ e (fun d=>by rw[d,f.fresh b (ct (p:=(a,o)) (by simp) k)]at l;exact nomatch l) g
 ·rcases kI.mp y with d|d
  ·exact absurd (Oh d).2.symm (E j)
  ·exact f.fix c j (kI.mpr (.inr d))
theorem aq.turn{tk:Nat}{a b:Addr}{d f:GL}(P:List Addr)(r:dP a d f S V)(j:b∈own (a,d))(l:∀c e,c≠b->s.heap.get? c=some e->I.get? c=some e)(o:own (a,f)=own (a,d)):
  aq P s S {s with heap:=I,toks:=tk} V:=by
 obtain⟨h,g,rfl,rfl⟩:=r.split;have n:aK (h++(a,f)::g)=aK (h++(a,d)::g):=by unfold aK;rw[OZ,OZ,NO,NO,o]
 exact⟨⟨_,_,_,rfl⟩,fun c e i y m=>l c e (fun q=>m (q▸ct (p:=(a,d)) (by simp) j)) i,fun c k=>.inl (n▸k)⟩
theorem SR.turn{tk:Nat}{a b:Addr}{f c:GL}(j:SR e t S s)(k:dP a f c S V)(g:b∈own (a,f))(h:∀d l,d≠b->s.heap.get? d=some l->I.get? d=some l)(i:own (a,c)=own (a,f))
(n:∀o,c≠ .fixed o)(m:OR I a c):SR e t V {s with heap:=I,toks:=tk}:=
 j.behind (aq.turn [] k g h i) (j.led.turn k g h i n m)
noncomputable def e8(e:GU)(c:List Expr)(t:ab)(S:aa)(b:Bool->ab->aa->Prop):Prop:=match c with
 |[]=>b true t S
 |[a]=>GK e (isTrue a e.env (eval a e.env)) Ho t S b
 |_=>False
theorem e8.mono{S:aa}{c:Bool->ab->aa->Prop}(a:e8 e IS t S Jw)(d:∀b t S,Jw b t S->c b t S):e8 e IS t S c:=by
 cases IS with
 |nil=>exact d _ _ _ a
 |cons g f=>cases f with
  |nil=>exact GK.mono a d
  |cons _ _=>exact a
noncomputable def dD(e:GU)(l:List Str)(g:Scope)(z:Expr)(y:List Expr)(x:Expr)(t:Addr->aa->Prop)(v:GG)(C:ab)(o:aa):Prop:=
 ∃k q n,dn e.A v k q n/\k<=sizeLine/\n o/\∃f:Nat->List (Option GG)->List GG->aa->Prop,
  (∃d m,(f6 g l d C)/\Le m o/\f 0 d [] m)/\
  (∀c h a S b,c<=k->f c h a S->n ((b,.list a)::S))/\
  (∀c h a S b i,c<k->f c h a S->a.length<=sizeLine/\
   bn (aR e g i) (assign z (aR e g i).env) (q c) UR (an l h) ((b,.list a)::S) fun w B m=>e8 (aR e g i) y B m fun r s p=>
    (r=true->GK (aR e g i) (eval x (aR e g i).env) VR s p fun A D u=>∃d j,(b6 l d D)/\Le ((b,.list a)::j) u/\f (c+1) d (a++[A]) j)/\
    (r=false->∃d j,(b6 l d s)/\Le ((b,.list a)::j) p/\f (c+1) d a j))/\
  ∀h a S b,f k h a S->t b ((b,.list a)::S)
theorem akg(b:e8 e IS t S Jw)(c:SR e t S s){P:Bool->Shared->Prop}
(i:∀f g a d,SR e g a d->aq (bU e) s S d a->Jw f g a->P f d):
  wpAny (model prog w) e.A (forIn IS true fun h c=>if c=true then do let f<-isTrue h e.env (eval h e.env);pure (ForInStep.yield f)else pure (ForInStep.yield c)) P a4 s:=by
 cases IS with
 |nil=>exact wpAny_tests_nil (i true t S s c (aq.refl ..) b)
 |cons h l=>cases l with
  |nil=>exact wpAny_tests_one (GK.run b c fun j k g a d m n o b=>i j g a d n o ((m:j=k)▸b))
  |cons _ _=>exact b.elim
theorem aa0(J:G9 e l Jb Jz J7)(Q:∀a∈KR.names,a.2=.free->a.1∈J7)(N:(KR.names.map (fun x=>x.1)).Nodup)(KS:∀a∈KR.names,a.2≠ .cell)
(g:SR e t S s){h':Heap}{tk:Nat}{H:ab}(HA:s.heap.get? d=none)(M:h'.Ns d fun w=>none)(ext:aV s.heap h')
(A:∀a j,H a=some j->KR.names.lookup a=some .free/\t a=some j):SR (aR e KR d) H S {s with heap:=h',toks:=tk}:=by
 have V:cm s.heap h':=fun I i h w=>ext I i h;have o:∀a,(a,NameKind.free)∈KR.names->(e.env.kindOf a=some .cell\/e.env.kindOf a=some .free)/\(e.env.cells.lookup a).isSome=true:=fun a u=>J.ce a (Q _ u rfl);have z:∀a b,(a,b)∈(aR e KR d).env.cells->(a,NameKind.free)∈KR.names/\e.env.cells.lookup a=some b:=fun a b r=>by
  rcases pR KR.names [] a b r with n|⟨n,h⟩
  ·exact nomatch n
  ·obtain⟨y,c⟩:=Oa.mp (o a n).2;replace h:=c▸h;exact⟨n,by rw[h];exact c⟩
 have v:∀b∈(aR e KR d).env.cells.map (fun x=>x.2),b∈e.env.cells.map (fun x=>x.2):=fun b c=>by
  obtain⟨⟨a,y⟩,r,rfl⟩:=Na.mp c;exact Na.mpr ⟨_,mem_of_lookup (z a y r).2,rfl⟩
 refine⟨g.led.fm (P:=[]) (fun k i h w=>ext k i h) bs bs,⟨_,M,fun a j p m=>?_⟩,fun a b c=>?_,fun b c=>?_,?_,fun T=>?_,fun k q=>?_⟩
 ·refine aW (A a j p) fun Y=>?_;have:(aR e KR d).env.kindOf a=some (if(NameKind.free==.free&&e.env.scope.kind==.function&&e.env.kindOf a==some .cell)then .cell else .free):=by
   show(relabel KR e.env).names.lookup a=_;rw[oc];exact nq (env:=e.env) (f:=fun B U=>if(B==.free&&e.env.scope.kind==.function&&e.env.kindOf U==some .cell)then .cell else B) Y.1
  replace m:=this▸m
  split at m<;>cases m
 ·refine aW (z a b (mem_of_lookup c)) fun C=>?_;refine ah (g.cell a b C.2) fun x D=>?_;obtain⟨i,O,L⟩:=D.1;refine⟨x,⟨i,ext _ _ O,L⟩,fun j p w=>?_⟩;refine aW (A a j p) fun Z=>?_;refine ah (D.2 j Z.2 (o a C.1).1) fun X E=>?_;exact⟨X,E.1,E.2.mono V⟩
 ·refine dN (g.live b (v b c)) fun x i G=>?_;exact⟨x,i,ext _ _ G.1,G.2⟩
 ·exact yZ (C:=e.env.cells) rfl g.apart KR.names [] N bs bs (fun a u=>(o a u).2) List.Pairwise.nil
 ·exact(g.dead HA).1 (.tail _ (v _ T))
 ·rcases Nk.mp q with rfl|q
  ·exact⟨(g.dead HA).2.2,(g.dead HA).2.1⟩
  ·exact g.new k (.tail _ (v k q))
end
section
variable{K:List Str}{S:aa}
theorem iR(g:List Str)(e:(KR.names.all fun f=> !(f.2==.cell)&&(!(f.2==.free)||g.contains f.1))=true):(∀a∈KR.names,a.2=.free->a.1∈g)/\∀a∈KR.names,a.2≠ .cell:=by
 simp only[O8,Ox,PK,Pr,Ri]at e;refine⟨fun a d c=>?_,fun a d c=>?_⟩
 ·rcases(e a d).2 with b|b
  ·replace b:=c▸b;simp at b
  ·exact b
 ·have:=(e a d).1;replace this:=c▸this;simp at this
theorem hM{e:aa}{P:List Addr}(g:aq P p V JK e)(i:d∉P)(f:d∉aK V)(h:∃a,p.heap.get? d=some a):(∀a,p.heap.get? d=some a->JK.heap.get? d=some a)/\d∉aK e:=
 ⟨fun a b=>g.frame d a b i f,fun j=>(g.grow d j).elim f fun b=>by obtain⟨a,c⟩:=h;replace c:=b▸c;cases c⟩
theorem aq.trans'{P:List Addr}{n:Shared}{S i j:aa}(o:aq P p S JK i)(g:aq P JK i n j)(y:∀g∈P,(∃e,JK.heap.get? g=some e)\/p.heap.get? g=none):aq P p S n j:=by
 obtain⟨⟨h,B,A,rfl⟩,k,l⟩:=o;obtain⟨⟨u,z,r,rfl⟩,s,t⟩:=g;have q:∀b,h.get? b=none->b∉aK S->p.heap.get? b=none:=fun b a d=>by
  cases c:p.heap.get? b with
  |none=>rfl
  |some e=>
   by_cases f:b∈P
   ·rcases y b f with⟨x,e'⟩|e'
    ·replace a:=(show h.get? b=some x from e')▸a;cases a
    ·replace c:=e'▸c;cases c
   ·have:=k b e c f d;replace a:=(show h.get? b=some e from this)▸a;cases a
 refine⟨⟨u,z,r,rfl⟩,fun b e c f m=>?_,fun b v=>?_⟩
 ·refine s b e (k b e c f m) f fun d=>?_;rcases l b d with a|a
  ·exact m a
  ·replace a:=c▸a;cases a
 ·by_cases d:b∈aK S
  ·exact .inl d
  ·rcases t b v with a|a
   ·rcases l b a with a|a
    ·exact absurd a d
    ·exact .inr a
   ·exact .inr (q b a d)
theorem h1{S:aa}:aK ((d,.list z)::S)=d::aK S:=rfl
theorem pW{scope:Scope}{K1 iter K6:Expr}(LA:G9 e l K Jb Jz)
(Mp:(scope.names.all fun L=> !(L.2==.cell)&&(!(L.2==.free)||Jz.contains L.1))=true)(Mj:(scope.names.map (fun x=>x.1)).Nodup)(Mh:scope.kind=.function)
(M:SR e t S p)(Mm:VR p.heap G i)(f:dD e J7 scope K1 IS K6 Ki i t S)
(Me:∀d b o k,SR e t k o->aq [] p S o k->p.heap.get? b=none->b∉d4 e->b∉aK k->base.get? b=none->(∃j,o.heap.Ns b j)->Ki d k->KM (.ref d) b (.ok .next) o):
  wpAny (model prog w) e.A (pyIter G) (fun Ms MF=>wpAny (model prog w) e.A (newList []) (fun Lx h=>
   wpAny (model prog w) e.A (newFunctionEnv scope e.env.globals (d7 e.env scope.names []) [] e.env.qual none .none (some e.env)) (fun Ly MG=>
    codeAny (model prog w) e.A (.compStart (.ListComp K6 [⟨K1,iter,IS,0⟩] scope N) 0 Ms Lx {Ly with scope:=relabel scope e.env}) (KM Lx Ly.locals) MG) a4 h) a4 MF) a4 p:=by
 refine aW (iR Jz Mp) fun K3=>?_;obtain⟨J,MZ,MS,Mg,MY,My,L6,⟨LS,K5,Mq,Lh,Mt⟩,LD,MI,Mc⟩:=f;refine Mg S p G _ _ M.led Mm My fun m v C St W LM U KT=>?_;have Lj:SR e t S {p with heap:=v,toks:=C}:=M.ext KT;have H:=M.dead U;refine ah (W.fi _ _ LM) fun Mw LW=>?_;refine Ou (wpAny_newFunctionEnv K3.2 (by intro LU Mo;simp at Mo) (fun X Lc Ld=>?_) Mh);dsimp only at Lc Ld⊢;generalize z:({p with heap:=v.push {cls:=.type "list",dict:=none,data:=.seq ([]:List Value).toArray},toks:=C}:Shared)=h at*;obtain⟨LI,MO⟩:SR e t ((v.objs.size,.list [])::S) h/\aq [] {p with heap:=v,toks:=C} S h ((v.objs.size,.list [])::S):=by
  have K2:aq [] {p with heap:=v,toks:=C} S _ _:=aq.take Lj.led (o:={cls:=.type "list",data:=.seq ([]:List Value).toArray}) (ao:=.list []) rfl;rw[<-z];exact⟨Lj.behind K2 (Lj.led.take (o:={cls:=.type "list",data:=.seq ([]:List Value).toArray}) (ao:=.list []) rfl ed ⟨_,⟨0,Ny _ rfl⟩,.nil⟩),K2⟩
 rw[(by rw[<-z]:v.push {cls:=.type "list",dict:=none,data:=.seq ([]:List Value).toArray}=h.heap)]at Lc Ld⊢;have Mb:∃Mf MH,({p with heap:=X,toks:=C+([]:List (Str×Value)).length}:Shared)={h with heap:=Mf,toks:=MH}:=⟨X,_,by rw[<-z]⟩
 generalize G6:v.objs.size=d at*;have V:h.heap.get? h.heap.objs.size=none:=NW (Ni _);generalize HA:h.heap.objs.size=b at*;have K7:aV h.heap X:=fun n c a=>Ld.extBut n c (fun f=>by replace a:=V▸f▸a;cases a) (Nr _ a);have T:p.heap.get? b=none:=by
  cases a:p.heap.get? b with
  |none=>rfl
  |some c=>
   have:h.heap.get? b=some c:=by rw[<-z];exact Nr _ (KT _ _ a)
   replace this:=V▸this;cases this
 generalize Ml:({p with heap:=X,toks:=C+([]:List (Str×Value)).length}:Shared)=u at*;obtain⟨MX,Ln,Lz⟩:=Mb;have KW:u.heap=X:=by rw[<-Ml]
 have ME:SR (aR e scope b) (an J7 LS) ((d,.list [])::K5) u:=by
  have MC:=aa0 (tk:=Ln) (h':=u.heap) LA K3.1 Mj K3.2 LI V (by rw[KW];simpa using Lc) (by rw[KW];exact K7) Mq;have:u={h with heap:=u.heap,toks:=Ln}:=by rewrite[Lz];rfl
  rw[this];exact MC.le Lh.take fun _ _ a=>a
 have MP:aq [b,m] h ((d,.list [])::S) u ((d,.list [])::K5):=by
  have:u={h with heap:=u.heap,toks:=Ln}:=by rewrite[Lz];rfl
  rw[this];exact(aq.ext _ (by rw[KW];exact K7)).le Lh.take
 have LN:St 0 u.heap:=W.frame _ _ _ LM fun c a=>by rw[KW];refine K7 _ _ ?_;rw[<-z];exact Nr _ a
 have Mu:m∉aK ((d,.list [])::S):=fun j=>by
  rcases Nk.mp (h1▸j)with f|f
  ·have:d=v.objs.size:=G6.symm;have Li:=NE LW.1;replace Li:=this▸f▸Li;exact O9 _ Li
  ·exact H.2.1 f
 have K9:m≠b:=fun f=>by
  have:h.heap.get? m=some Mw:=by rw[<-z];exact Nr _ LW.1
  replace this:=V▸f▸this;cases this
 have Mz:bU (aR e scope b)=[b]:=rfl;have La:m∉bU (aR e scope b):=by rw[Mz];simpa using K9
 have LG:codeAny (model prog w) e.A (.compLoop (.ListComp K6 [⟨K1,iter,IS,0⟩] scope N) 0 (.ref m) (.ref d) (aR e scope b).env) (KM (.ref d) b) u:=by
  refine pV (fun LF o=>∃g D q k,LF=J+1-g/\g<=J/\SR (aR e scope b) (an J7 D) ((d,.list q)::k) o/\aq [b,m] h ((d,.list [])::S) o ((d,.list q)::k)/\m∉aK ((d,.list q)::k)/\St g o.heap/\L6 g D q k) ?_ (J+1)
   ⟨0,LS,[],K5,rfl,NN _,ME,MP,fun j=>Mu ((Le.take Lh).own j),LN,Mt⟩
  rintro LF o ⟨g,D,q,k,rfl,KU,B,Lq,KY,st,KX⟩;have KZ:∀{g:Nat}{Z:Shared}{L7:aa}{MR:ab},SR (aR e scope b) MR L7 Z->St g Z.heap->∀n∈[b,m],∃c,Z.heap.get? n=some c:=fun MD Z=>he (MD.alive _ (.head _)) ((W.fi _ _ Z).imp fun _ a=>a.1);have Lp:∀{LK LL:Shared}{Lv Lw:aa},aq (bU (aR e scope b)) LK Lv LL Lw->aq [b,m] LK Lv LL Lw:=fun K2=>K2.wide fun n Lb=>.inl (Nj.mp Lb▸ .head _);have LP:cm p.heap o.heap:=fun n c a Y=>by
   have K8:h.heap.get? n=some c:=by rw[<-z];exact Nr _ (KT _ _ a)
   refine Lq.frame n c K8 (fun j=>?_) fun j=>?_
   ·exact he (P:=fun s=>s≠n) (fun f=>QG _ ((f▸K8).symm.trans V)) (fun f=>QG _ ((f▸a).symm.trans U)) n j rfl
   ·refine ah (LI.led.c3 j) fun LU LY=>?_;exact LY.2 (NM (LY.1.symm.trans K8)▸Y)
  refine ah (W.fi g _ st) fun M0 LZ=>?_;have Y:∀c,o.heap.get? m=some c->¬c7 c:=fun c a=>by replace a:=LZ.1▸a;cases a;exact LZ.2
  have LB:m∉d4 (aR e scope b):=fun j=>by
   rcases Nk.mp j with f|f
   ·exact K9 f
   ·refine H.1 (.tail _ ?_);obtain⟨⟨O,s⟩,Mi,L9⟩:=Na.mp f;rcases pR scope.names [] O s Mi with f|⟨f,a⟩
    ·exact(N0 f).elim
    ·obtain⟨MW,y⟩:=Oa.mp (LA.ce O (K3.1 _ f rfl)).2;replace a:=y▸a;exact Na.mpr ⟨_,mem_of_lookup y,a.symm.trans L9⟩
  rcases Rd g J with I|LC
  ·refine aW (MI g D q k d b I KX) fun L0=>?_;refine W.next g _ o _ _ I B.led (LD g D q k d KU KX) LP st fun MK Lg Lm Mn x A=>?_;have MQ:aq [b,m] h ((d,.list [])::S) {o with heap:=Lg,toks:=Lm} ((d,.list q)::k):=by
    refine df Lq fun Lu=>?_;obtain⟨Lf,M3,L8,Ma⟩:=Lu.1;exact⟨⟨Lg,Lm,L8,by rw[Ma]⟩,fun n c a L Mv=>A n c (fun f=>L (by rw[f];exact .tail _ (.head _))) (Lu.2 n c a L Mv),Lu.3⟩
   refine W.go (g+1) K1 MK _ _ _ x ?_;refine L0.2.run (B.dJ A ⟨LB,KY,H.2.2⟩ Y) Mn fun _ _ M6 MT M1 _ LJ L3 MA=>?_;refine aW (hM L3 La KY (let⟨c,a,_⟩:=W.fi _ _ x;⟨c,a⟩)) fun E=>?_;refine akg MA LJ fun Mx M7 MU M2 Lk L4 LH=>?_;refine aW (hM L4 La E.2 (let⟨c,a,_⟩:=W.fi _ _ (W.frame _ _ _ x E.1);⟨c,a⟩)) fun Q=>?_;have L2:=(MQ.trans (Lp L3) (KZ (B.dJ A ⟨LB,KY,H.2.2⟩ Y) x)).trans (Lp L4) (KZ LJ (W.frame _ _ _ x E.1));cases Mx with
   |false=>
    refine bB (LH.2 rfl) fun Lo K4 KS=>?_;rw[if_neg Oe];exact⟨J+1-(g+1),jO I,g+1,Lo,q,K4,rfl,I,Lk.le KS.2 KS.1,L2.le KS.2,fun j=>Q.2 (KS.2.own j),(W.frame _ _ _ (W.frame _ _ _ x E.1) Q.1),KS.3⟩
   |true=>
    rw[if_pos rfl];refine(LH.1 rfl).run Lk fun LU n M8 MV Ll ML K0 L5 MN=>?_;refine bB MN fun Lo K4 r=>?_;refine aW (hM L5 La Q.2 (let⟨c,a,_⟩:=W.fi _ _ (W.frame _ _ _ (W.frame _ _ _ x E.1) Q.1);⟨c,a⟩)) fun Lr=>?_;have LO:=W.frame _ _ _ (W.frame _ _ _ (W.frame _ _ _ x E.1) Q.1) Lr.1;refine ah ((K0.le r.2 r.1).led.objs (d,.list q) (.head _)) fun M4 Ls=>?_;refine Rk Ls.1 (fun Md Mk KV=>?_) (by rw[<-NI,Ls.2.length];exact L0.1);have LQ:cm Ll.heap Md:=fun s O Lf Mr=>(KV.2 s fun a=>by refine ah ((K0.le r.2 r.1).led.c3 (ct (p:=(d,.list q)) (.head _) (.head _))) fun M5 LX=>?_;exact LX.2 (NM (LX.1.symm.trans (a▸Lf))▸Mr)).trans Lf;refine⟨J+1-(g+1),jO I,g+1,Lo,q++[n],K4,rfl,I,?_,?_,?_,W.frame _ _ _ LO fun c a=>(fun s O y a=>(KV.2 s y).trans a) m c (NZ (fun a=>Lr.2 (r.2.own (by rw[h1,a];exact .head _)))) a,r.3⟩
    ·exact(K0.le r.2 r.1).turn (tk:=Ll.toks) .here (.head _) (fun s O y a=>(KV.2 s y).trans a) rfl ed ⟨_,Mk,by rw[Qe];exact(Ls.2.mono LQ).append (.cons (ML.mono LQ) .nil)⟩
    ·exact((L2.trans (Lp L5) (KZ Lk (W.frame _ _ _ (W.frame _ _ _ x E.1) Q.1))).le r.2).trans (aq.turn (tk:=Ll.toks) _ .here (.head _) (fun s O y a=>(KV.2 s y).trans a) rfl) (KZ (K0.le r.2 r.1) LO)
    ·exact fun j=>Lr.2 (r.2.own j)
  ·refine W.done _ o _ _ B.led (LD g D q k d KU KX) LP ((OY KU LC)▸st) fun Lg Lm A=>?_;have L1:aq [] p S o ((d,.list q)::k):=by
    exact aq.wide (P:=[b,m]) ((((aq.ext _ (tk:=C) KT).trans MO fun n Lb=>(nomatch Lb)).wide bs).trans' Lq (he (.inr T) (.inr U))) (he (.inr T) (.inr U))
   have MB:=M.behind L1 B.led;refine ah B.ns fun j MM=>?_;exact Me d b _ _ (MB.dJ A ⟨H.1,KY,H.2.2⟩ Y) (L1.dJ U A) T (M.dead T).1 ((B.new b (.head _)).2) (M.dead T).2.2 ⟨j,MM.1.at' fun c a=>A _ c (NZ K9) a⟩ (Mc D q k d ((OY KU LC)▸KX))
 exact codeAny_compStart_list LG (W.self 0 _ _ _ LN LG)
end
section
variable{K:List Str}{S:aa}
theorem np[BEq D][LawfulBEq D]{c:List (D×I1)}(d:(c.map (fun x=>x.1)).Nodup):∀a∈c,c.lookup a.1=some a.2:=by
 induction c with
 |nil=>exact nofun
 |cons g h f=>
  intro a b;rw[NF];rcases Nk.mp b with rfl|b
  ·rw[beq_self_eq_true]
  ·cases e:a.1==g.1 with
   |true=>exact absurd (Na.mpr ⟨a,b,eq_of_beq e⟩) (ND.mp d).1
   |false=>exact f (ND.mp d).2 a b
theorem hW{h:Str->Option Value}(i:I.Ns d h):∀b,I.get? d=some b->¬c7 b:=fun b e g=>by
 obtain⟨l,k,j,a,f,_⟩:=i;replace a:=e▸a;cases a;rcases m3 g with⟨_,_,c⟩|⟨_,c⟩<;>rw[f]at c<;>cases c
theorem cy{x iter m:Expr}(z:List Str)(n:G9 e l K Jb Jz)
(u:(KR.names.all fun i=> !(i.2==.cell)&&(!(i.2==.free)||Jz.contains i.1))=true)(r:(KR.names.map (fun x=>x.1)).Nodup)
(I:GK e (eval iter e.env) VR t S fun k d j=>dD e z KR x IS m (fun c C=>B (.ref c) d C) k d j)
(o:autoParam (KR.kind=.function) aP)(L:autoParam (∀a,foldedSetIterable iter e.env a=pure a) ic):
  GK e (eval (.ListComp m [⟨x,iter,IS,0⟩] KR N) e.env) VR t S B:=by
 intro p U;rw[eval_ListComp];refine Rl (use:=none) rfl L (l7 fun a h=>(n.ce a ((iR Jz u).1 _ h rfl)).2) o (fun a h b=>b▸np r a h) ?_;refine I.run U fun KV k d j KU M y X T=>?_;refine pW n u r o y M T fun c KS v A V Z D E G H Y J=>?_;obtain⟨O,q⟩:=Y;refine⟨O,q,fun KT s=>?_⟩;refine⟨.ref c,d,A,.ref c,V.dJ (tk:=v.toks) (fun f Q g b=>(s.2 f g).trans b) ⟨E,G,H⟩ (hW q),?_,J⟩;exact X.trans ((Z.dJ (tk:=v.toks) D (fun f Q g b=>(s.2 f g).trans b)).wide bs) y.alive
theorem aj9{c:List Comprehension}(e:Jq.scope.kind=.function)(i:Jq.kindOf h=some .local)(f:(I9.line==N.line)=true)
(g:(KR.names.any fun a=>a.1==h&&(a.2==.local||a.2==.cell))=false):swapsWith (.ListComp o c KR N) (some (.Name h I9)) q Jq=pure true:=by
 have d:Jq.blockKind=.function:=by unfold Env.blockKind;rw[e];rfl
 show pure (Jq.blockKind==.function&&Jq.kindOf h==some .local&&I9.line==N.line&& !(KR.names.any fun(q,b)=>q==h&&(b==.local||b==.cell)))=_;rw[d,i,f,g];rfl
theorem aj8{a:List Comprehension}(b:Jq.kindOf h=some .cell):swapsWith (.ListComp o a KR N) (some (.Name h I9)) q Jq=pure false:=by
 show pure (Jq.blockKind==.function&&Jq.kindOf h==some .local&&_&&_)=_;rw[b];have:(some NameKind.cell==some NameKind.local)=false:=rfl;rw[this,QH,Qf,Qf]
theorem xO{r iter j:Expr}{f:Pos}(L:List Str)(d:G9 e l K Jb Jz)
(c:e.env.kindOf h=some .local)(U:(f.line==N.line)=true)(X:(KR.names.any fun b=>b.1==h&&(b.2==.local||b.2==.cell))=false)
(D:(KR.names.all fun b=> !(b.2==.cell)&&(!(b.2==.free)||Jz.contains b.1))=true)(B:(KR.names.map (fun x=>x.1)).Nodup)
(k:GK e (eval iter e.env) VR t S fun v s u=>dD e L KR r IS j (fun g O=>Z .next (cb s h (.ref g)) O) v s u)
(z:autoParam (KR.kind=.function) aP)(Y:autoParam (∀h,foldedSetIterable iter e.env h=pure h) ic):
  GK e (exec (.Assign [.Name h f] (.ListComp j [⟨r,iter,IS,0⟩] KR N) I9) e.env) GW t S Z:=by
 intro p KV;rw[exec_Assign_Name_used _ _ _ _ (aj9 d.ok.kind c U X)];refine M9 (OT (M9 ?_));show wpAny _ e.A (do let _<-comprehension (.ListComp j [⟨r,iter,IS,0⟩] KR N) KR e.env _ (newList []) false (eval iter e.env) (some (assign (.Name h f) e.env))) _ _ p;refine M9 (NB (Rl (use:=some (assign (.Name h f) e.env)) (Q:=fun w q=>bW e p S GW Z .next q) rfl Y
  (l7 fun h c=>(d.ce h ((iR Jz D).1 _ c rfl)).2) z (fun h c a=>a▸np B h c) ?_) (fun w q n=>Nc (Nc n)) fun w w a=>a)
 refine k.run KV fun K2 v s u K1 KS H KX KU=>?_;refine pW d D B z H KS KU fun g J q M E KZ Q x y T KY n=>?_;obtain⟨KT,V⟩:=KY;refine PI (E.put d.ok (.inl c) (.ref g) fun G KW I=>?_);have A:=V.at' (fun o a=>I.frame J o a (fun k=>x (h5 k)) y);refine⟨KT,A,fun K0 C=>?_⟩;refine⟨.next,_,M,.next,KW.dJ (tk:=G.toks) (fun i o m a=>(C.2 i m).trans a) ⟨x,y,T⟩ (hW A),?_,n⟩;exact KX.trans (((KZ.wide bs).trans I E.alive).dJ (tk:=G.toks) Q (fun i o m a=>(C.2 i m).trans a)) H.alive
theorem pX(a:List D)(p:D->GG)(h:List D->List (Option GG)->List GG->aa->Prop)
(C:dn e.A i (a.map p).length (fun c=>(a.map p).getD c .none) Kn)(M:a.length<=sizeLine)(G:Kn V)
(start:∃g r,(f6 KR l g t)/\Le r V/\h [] g [] r)
(E:∀k u f b S d,a=k++u->h k f b S->Kn ((d,.list b)::S))
(H:∀k s u f b S d j,a=k++s::u->h k f b S->b.length<=sizeLine/\
 bn (aR e KR j) (assign o (aR e KR j).env) (p s) UR (an l f) ((d,.list b)::S) fun w J r=>e8 (aR e KR j) IS J r fun x y v=>
  (x=true->GK (aR e KR j) (eval X (aR e KR j).env) VR y v fun I L z=>∃g n,(b6 l g L)/\Le ((d,.list b)::n) z/\h (k++[s]) g (b++[I]) n)/\
  (x=false->∃g n,(b6 l g y)/\Le ((d,.list b)::n) v/\h (k++[s]) g b n))
(B:∀f b S d,h a f b S->Ki d ((d,.list b)::S)):dD e l KR o IS X Ki i t V:=by
 refine⟨_,_,Kn,C,by rwa[Nb],G,fun c f b S=>h (a.take c) f b S,?_,?_,?_,?_⟩
 ·simpa using start
 ·intro c f b S d q m;exact E (a.take c) (a.drop c) f b S d (Pn c a).symm m
 ·intro c f b S d j q m;replace q:=(Nb _)▸q;have A:a=a.take c++a[c]::a.drop (c+1):=by rw[Sx];exact(Pn c a).symm
  rw[(by simp[q]:(a.map p).getD c .none=p a[c])];dsimp only;rw[(by rw[QF q]:a.take (c+1)=a.take c++[a[c]])];exact(H (a.take c) a[c] (a.drop (c+1)) f b S d j A m)
 ·intro f b S d m;rw[Nb,Rj]at m;exact B f b S d m
theorem BB{b:D->Bool}{a:D->I1}{d:List D}{c:D}(e:b c=true):((d++[c]).filter b).map a=(d.filter b).map a++[a c]:=by rw[O0,Ng,PL e];rfl
theorem BA{a:D->Bool}{b:D->I1}{c:List D}{d:D}(e:a d=false):((c++[d]).filter a).map b=(c.filter a).map b:=by rw[O0,PM (by rw[e];exact Oe)];exact congrArg _ (NU _)
theorem fb(h:List D)(k:D->GG)(q:D->Bool)(m:D->GG)(c:List (Option GG))
(O:dn e.A i (h.map k).length (fun U=>(h.map k).getD U .none) Kn)(I:h.length<=sizeLine)(J:Kn V)(Y:∀a,Kn V->Kn (a::V))
(start:f6 KR l c t)
(KT:∀g d b f,g∈h->
 bn (aR e KR f) (assign o (aR e KR f).env) (k g) UR (an l c) ((b,.list d)::V) fun w B v=>e8 (aR e KR f) IS B v fun n C x=>n=q g/\
  (n=true->GK (aR e KR f) (eval X (aR e KR f).env) VR C x fun u M E=>u=m g/\(b6 l c M)/\Le ((b,.list d)::V) E)/\
  (n=false->(b6 l c C)/\Le ((b,.list d)::V) x))
(N:∀b,Ki b ((b,.list ((h.filter q).map m))::V)):dD e l KR o IS X Ki i t V:=by
 refine pX h k (fun r s d S=>s=c/\S=V/\d=(r.filter q).map m) O I J ⟨c,V,start,Le.refl _,rfl,rfl,rfl⟩ ?_ ?_ ?_
 ·intro r Z s d S b _ a;exact a.2.1▸Y _ J
 ·intro r g Z s d S b f G a;refine cv a.1 ?_;refine cv a.2.1 ?_;refine cv a.2.2 ?_;clear a;have Q:g∈h:=by rw[G];simp
  refine⟨?_,fun p KX KS T=>(KT g ((r.filter q).map m) b f Q).run KS T fun KY KV B v KW w u KU a=>⟨(),B,v,trivial,u,KU,?_⟩⟩
  ·rw[Nb];refine mf (Ov _ _) (mf ?_ I);rw[G,Nm];exact Nv _ _
  ·refine a.mono fun n C x A=>?_;refine df A fun y=>?_;have H:=y.1;refine⟨fun j=>(y.2 j).mono fun u M E A=>?_,fun j=>?_⟩
   ·refine df A fun z=>?_;exact⟨c,V,z.2,z.3,rfl,rfl,z.1▸(BB (H▸j)).symm⟩
   ·refine aW (y.3 j) fun L=>?_;exact⟨c,V,L.1,L.2,rfl,rfl,(BA (H▸j)).symm⟩
 ·intro s d S b a;exact a.2.1▸a.2.2▸N b
end
noncomputable def GG.bf(a b:GG):Bool:= @decide (a=b) (Classical.propDecidable _)
noncomputable def GG.dt(a b:List GG):Bool:= @decide (a=b) (Classical.propDecidable _)
theorem g0(a:GG):GG.bf a a=true:= @decide_eq_true _ (Classical.propDecidable _) rfl
theorem j3(a:i≠Jn):GG.bf i Jn=false:= @decide_eq_false _ (Classical.propDecidable _) a
theorem j5(a:List GG):GG.dt a a=true:= @decide_eq_true _ (Classical.propDecidable _) rfl
theorem es{R:Bool->Prop}(b:R false)(a:i≠Jn):R (GG.bf i Jn):=(j3 a).symm▸b
theorem mL{R:Bool->Prop}(a:Jh=GG.bf i Jn)(b:R Jh):R (GG.bf i Jn):=a▸b
theorem gZ[DecidableEq D]{f:D->GG}(c:∀{a b},f a=f b->a=b)(a b:D):GG.bf (f a) (f b)=decide (a=b):=decide_eq_decide.mpr ⟨c,congrArg f⟩
theorem kE{a:D->I1}(g:∀{b d},a b=a d->b=d){c e:List D}(f:c.map a=e.map a):c=e:=(List.map_inj_right fun z z=>g).mp f
theorem sB[DecidableEq D]{a:D->GG}(f:∀{b d},a b=a d->b=d)(c e:List D):GG.dt (c.map a) (e.map a)=decide (c=e):=decide_eq_decide.mpr ⟨kE f,congrArg _⟩
theorem A8(a b:Int):(a==b)=GG.bf (.int a) (.int b):=(gZ GG.int.inj a b).symm
theorem Ba(a b:Str):(a==b)=GG.bf (.str a) (.str b):=((gZ GG.str.inj a b).trans (by by_cases c:a=b<;>simp[c])).symm
noncomputable def aQ:Nat->GG->Prop
 |_,.none=>True
 |_,.int _=>True
 |_,.str _=>True
 |d+1,.tup b=>∀a∈b,aQ d a
 |_,_=>False
inductive H1(a:Heap)(d:Nat):Value->GG->Prop
 |none:H1 a d .none .none
 |int (i:Int) (t:Tok):H1 a d (.int i t) (.int i)
 |str (x:Str) (t:Tok):H1 a d (.str x t) (.str x)
 |tup {e:Nat} {c:Addr} {vs:Array Value} {b:List GG}:d=e+1->IsTup a c vs->ao a vs.toList b->(∀x∈b,aQ e x)->H1 a d (.ref c) (.tup b)
theorem fL(c:VR I G i)(b:aQ q i):H1 I q G i:=by
 cases c with
 |none=>exact .none
 |int a d=>exact .int a d
 |str e d=>exact .str e d
 |tup a c=>
  cases q with
  |zero=>exact b.elim
  |succ q=>exact .tup rfl a c b
 |_=>cases q<;>exact b.elim
theorem tj(f:IsTup I d Jc)(g:IsTup I d JF):Jc=JF:=by
 obtain⟨j,e,_,h,c⟩:=f;obtain⟨k,b,_,i,a⟩:=g;replace b:=e▸b;replace a:=c▸(NM b).symm▸a;exact(PySem.Data.seq.inj a).1
noncomputable def lN(d:Heap)(c:Nat):Prop:=∀{e:Value}{a b:GG},VR d e a->aQ c a->VR d e b->aQ c b->a=b
theorem wj(m:lN I q)(c:List GG):∀{d:List GG}{b:List Value},ao I b c->(∀e∈c,aQ q e)->ao I b d->(∀e∈d,aQ q e)->c=d:=by
 induction c with
 |nil=>intro d b g _ a _;replace a:=g.fQ▸a;cases a;rfl
 |cons e c l=>
  intro d b g j a k;refine bB g.head fun p b i=>?_;obtain rfl:=i.1;cases a with
  |cons n o=>rw[m i.2 (j _ (.head _)) n (k _ (.head _)),l i.3 (fun h f=>j h (.tail _ f)) o fun h f=>k h (.tail _ f)]
theorem vx(r:∀{a:Nat}{h:Array Value}{c d:List GG},q=a+1->ao I h.toList c->(∀b∈c,aQ a b)->ao I h.toList d->(∀b∈d,aQ a b)->c=d):lN I q:=by
 intro u s t p j g e;cases fL p j with
 |tup a k f m=>
  cases fL g e with
  |tup i l o n=>
   cases a;cases i;rw[tj k l]at f;rw[r rfl f m o n]
 |_=>cases fL g e;rfl
theorem rA(a:Nat):lN I a:=by
 induction a with
 |zero=>exact vx fun b=>Nat.noConfusion b
 |succ a c=>exact vx fun b f d g e=>by cases b;exact wj c _ f d g e
section
theorem mH{R:Value->Value->Bool->Prop}(z:R .none .none true)(y:∀b a,R .none (.int b a) false)(A:∀c a,R .none (.str c a) false)(B:∀{d e},IsTup I d e->R .none (.ref d) false)
(t:∀b a,R (.int b a) .none false)(s:∀b a f G,R (.int b a) (.int f G) (b==f))(u:∀b a c G,R (.int b a) (.str c G) false)(v:∀b a{d e},IsTup I d e->R (.int b a) (.ref d) false)
(J:∀c a,R (.str c a) .none false)(H:∀c a b G,R (.str c a) (.int b G) false)(L:∀c a h G,R (.str c a) (.str h G) (c==h))(st:∀c a{d e},IsTup I d e->R (.str c a) (.ref d) false)
(N:∀{d e},IsTup I d e->R (.ref d) .none false)(M:∀{d e}b a,IsTup I d e->R (.ref d) (.int b a) false)(O:∀{d e}c a,IsTup I d e->R (.ref d) (.str c a) false)
(Q:∀{g d o e p j k},q=g+1->IsTup I d e->IsTup I o p->ao I e.toList j->ao I p.toList k->(∀c∈j,aQ g c)->(∀c∈k,aQ g c)->R (.ref d) (.ref o) (GG.dt j k))
(r:H1 I q G i)(l:H1 I q Jy Jn):R G Jy (GG.bf i Jn):=by
 cases r with
 |none=>cases l with
  |none=>exact g0 _▸z
  |int b a=>exact es (R:=R _ _) (y b a) nofun
  |str c a=>exact es (R:=R _ _) (A c a) nofun
  |tup g b n m=>exact es (R:=R _ _) (B b) nofun
 |int b a=>cases l with
  |none=>exact es (R:=R _ _) (t b a) nofun
  |int f G=>exact mL (R:=R _ _) (A8 b f) (s b a f G)
  |str c G=>exact es (R:=R _ _) (u b a c G) nofun
  |tup g f n m=>exact es (R:=R _ _) (v b a f) nofun
 |str c a=>cases l with
  |none=>exact es (R:=R _ _) (J c a) nofun
  |int b G=>exact es (R:=R _ _) (H c a b G) nofun
  |str h G=>exact mL (R:=R _ _) (Ba c h) (L c a h G)
  |tup g b n m=>exact es (R:=R _ _) (st c a b) nofun
 | @tup g d e j C b n m=>cases l with
  |none=>exact es (R:=R _ _) (N b) nofun
  |int f G=>exact es (R:=R _ _) (M f G b) nofun
  |str h G=>exact es (R:=R _ _) (O h G b) nofun
  | @tup T o p k D f E x=>
   cases C;cases D;exact mL (R:=R _ _) (decide_eq_decide.mpr ⟨congrArg _,GG.tup.inj⟩:GG.dt j k=GG.bf (.tup j) (.tup k)) (Q rfl b f n E m x)
noncomputable def ly(p:Shared)(c:Nat):Prop:=∀{Q:Around}{d e:Value}{a b:GG},VR p.heap d a->VR p.heap e b->aQ c a->aQ c b->Q.units+c<cLine->EqAt Q p d e (GG.bf a b)
theorem kd(a:z[q]? =some i):z.getD q .none=i:=congrArg (fun b:Option GG=>b.getD .none) a
theorem sA(a:GG.bf i Jn=true):i=Jn:= @of_decide_eq_true _ (Classical.propDecidable _) a
theorem Bf(a:GG.dt z Jm=true):z=Jm:= @of_decide_eq_true _ (Classical.propDecidable _) a
theorem Bd(a:z≠Jm):GG.dt z Jm=false:= @decide_eq_false _ (Classical.propDecidable _) a
theorem iW(e:ly p q)(n:ao p.heap Jc.toList z)(o:ao p.heap JF.toList Jm)(f:∀b∈z,aQ q b)(g:∀b∈Jm,aQ q b)(h:Q.units+1+q<cLine):
  ∀a(t:a<Jc.size)(u:a<JF.size),EqAt Q.in1 p Jc[a] JF[a] (GG.bf (z.getD a .none) (Jm.getD a .none)):=fun a j k=>by
 obtain⟨r,c,l⟩:=n.get' (i:=a) (O1.trans (Ow j));obtain⟨s,d,m⟩:=o.get' (i:=a) (O1.trans (Ow k));rw[kd c,kd d];exact e l m (f _ (Qg c)) (g _ (Qg d)) h
theorem w1(e:z.length=Jm.length):((List.range z.length).all fun d=>GG.bf (z.getD d .none) (Jm.getD d .none))=GG.dt z Jm:=by
 refine PN.mpr ⟨fun a=> @decide_eq_true _ (Classical.propDecidable _) (Pa e fun c b f=>?_),fun a=>?_⟩
 ·have:=sA (O8.mp a c (NX.mpr b))
  rwa[kd (N2 b),kd (N2 f)]at this
 ·rw[Bf a];exact O8.mpr fun c x=>g0 _
theorem fX(a:ao I Jc.toList z):Jc.size=z.length:=NI.symm.trans a.length
theorem mJ{R:Bool->Prop}(b:ao p.heap Jc.toList z)(d:ao p.heap JF.toList Jm)(same:Jc.size=JF.size->R ((List.range Jc.size).all fun c=>GG.bf (z.getD c .none) (Jm.getD c .none)))(f:Jc.size≠JF.size->R false):R (GG.dt z Jm):=by
 by_cases a:Jc.size=JF.size
 ·rw[<-w1 ((fX b).symm.trans (a.trans (fX d))),<-fX b];exact same a
 ·rw[Bd fun e=>a ((fX b).trans ((congrArg List.length e).trans (fX d).symm))];exact f a
theorem mK{R:Bool->Prop}(d:ao p.heap Jc.toList z)(e:ao p.heap JF.toList Jm)(a:R ((List.range (min Jc.size JF.size)).all (fun c=>GG.bf (z.getD c .none) (Jm.getD c .none))&&Jc.size==JF.size)):R (GG.dt z Jm):=by
 refine mJ d e (fun b=>?_) fun b=>?_
 ·rw[<-b,Nat.min_self,beq_self_eq_true,Bool.and_true]at a;exact a
 ·rw[beq_eq_false_iff_ne.mpr b,QH]at a;exact a
theorem sx(x:∀{Q:Around}{c d e k l h i},q=c+1->Q.units+q<cLine->d≠e->IsTup p.heap d k->IsTup p.heap e l->ao p.heap k.toList h->ao p.heap l.toList i->(∀m∈h,aQ c m)->(∀m∈i,aQ c m)->EqAt Q p (.ref d) (.ref e) (GG.dt h i)):ly p q:=by
 intro Q A B y z u v f g o;have b:Q.units<cLine:=NV (Nv ..) o;refine mH (R:=EqAt Q p) (EqAt.same _) EqAt.none_int EqAt.none_str (fun a=>EqAt.none_tuple a b) EqAt.int_none EqAt.int_int EqAt.int_str (fun w w{_ _}a=>EqAt.int_tuple _ _ a b) EqAt.str_none EqAt.str_int EqAt.str_str (fun w w{_ _}a=>EqAt.str_tuple _ _ a b)
  (fun a=>EqAt.tuple_none a b) (fun w w a=>EqAt.tuple_int _ _ a b) (fun w w a=>EqAt.tuple_str _ _ a b) (fun{c d e k l h i}t a r j s f g=>?_) (fL u f) (fL v g)
 by_cases n:d=e
 ·subst n;rw[tj a r]at j;rw[wj (rA c) _ j f s g];rw[j5];exact EqAt.same _
 ·exact x t o n a r j s f g
theorem m4(b:v=q+1)(a:Q.units+v<cLine):Q.units+1+q<cLine:=by rw[b,OJ q,<-Pp]at a;exact a
theorem iQ(a:Nat):ly p a:=by
 induction a with
 |zero=>exact sx fun b=>Nat.noConfusion b
 |succ a i=>exact sx fun b c k h j d e f g=>by cases b;exact EqAt.of_refs k (mK d e (RcAt.tuples h j (NV (Nv ..) c) (iW i d e f g (m4 rfl c))))
theorem ag7(k:VR p.heap G i)(l:VR p.heap Jy Jn)(c:aQ q i)(d:aQ q Jn)(e:Q.units+q<cLine):RcAt Q p G Jy (GG.bf i Jn):=by
 have b:Q.units<cLine:=NV (Nv ..) e;exact mH (R:=RcAt Q p) RcAt.none_none RcAt.none_int RcAt.none_str (fun a=>RcAt.none_tuple a b) RcAt.int_none RcAt.int_int RcAt.int_str (fun x x{_ _}a=>RcAt.int_tuple _ _ a b) RcAt.str_none RcAt.str_int RcAt.str_str (fun x x{_ _}a=>RcAt.str_tuple _ _ a b)
  (fun a=>RcAt.tuple_none a b) (fun x x a=>RcAt.tuple_int _ _ a b) (fun x x a=>RcAt.tuple_str _ _ a b) (fun j a h f g c d=>mK f g (RcAt.tuples a h b (iW (iQ _) f g c d (m4 j e)))) (fL k c) (fL l d)
theorem ag9(l:VR p.heap G i)(m:VR p.heap Jy Jn)(d:aQ q i)(e:aQ q Jn)(f:Q.units+q<cLine):RcNeAt Q p G Jy (!GG.bf i Jn):=by
 have b:Q.units<cLine:=NV (Nv ..) f;exact mH (R:=fun G Jy c=>RcNeAt Q p G Jy (!c)) RcNeAt.none_none RcNeAt.none_int RcNeAt.none_str (fun a=>RcNeAt.none_tuple a b) RcNeAt.int_none RcNeAt.int_int RcNeAt.int_str (fun x x{_ _}a=>RcNeAt.int_tuple _ _ a b) RcNeAt.str_none RcNeAt.str_int RcNeAt.str_str (fun x x{_ _}a=>RcNeAt.str_tuple _ _ a b)
  (fun a=>RcNeAt.tuple_none a b) (fun x x a=>RcNeAt.tuple_int _ _ a b) (fun x x a=>RcNeAt.tuple_str _ _ a b) (fun k a j g h d e=>mK (R:=fun c=>RcNeAt Q p _ _ (!c)) g h (RcNeAt.tuples a j b (iW (iQ _) g h d e (m4 k f)))) (fL l d) (fL m e)
theorem ag8(f:p.heap.IsList d Jc)(g:p.heap.IsList H JF)(h:ao p.heap Jc.toList z)(i:ao p.heap JF.toList Jm)(j:∀b∈z,aQ q b)(k:∀b∈Jm,aQ q b)
(c:Q.units+1+q<cLine):RcAt Q p (.ref d) (.ref H) (GG.dt z Jm):=
 have e:Q.units<cLine:=NV (mf (Ob _) (Nv ..)) c
 mJ h i (fun a=>RcAt.lists f g a e (iW (iQ _) h i j k c)) fun a=>RcAt.lists_lengths f g (bne_iff_ne.mpr a) e
theorem aha(f:p.heap.IsList d Jc)(g:p.heap.IsList H JF)(h:ao p.heap Jc.toList z)(i:ao p.heap JF.toList Jm)(k:∀b∈z,aQ q b)(l:∀b∈Jm,aQ q b)
(c:Q.units+1+q<cLine):RcNeAt Q p (.ref d) (.ref H) (!GG.dt z Jm):=
 have e:Q.units<cLine:=NV (mf (Ob _) (Nv ..)) c
 mJ (R:=fun j=>RcNeAt Q p _ _ (!j)) h i (fun a=>RcNeAt.lists f g a e (iW (iQ _) h i k l c)) fun a=>RcNeAt.lists_lengths f g (bne_iff_ne.mpr a) e
end
section
variable{S:aa}
theorem b3{R:Heap->D->I1->Prop}{b:I1->ab->aa->Prop}{c:D}{a:I1}(g:SR e t S p)(d:R p.heap c a)(f:b a t S):bW e p S R b c p:=⟨a,t,S,d,g,aq.refl ..,f⟩
theorem ef{R:Heap->D->I1->Prop}{b:I1->ab->aa->Prop}{d:D}{a:I1}(h:SR e t S p)(c:Nat)(f:R p.heap d a)(g:b a t S):bW e p S R b d {p with toks:=c}:=⟨a,t,S,f,h.tok c,aq.tok ..,g⟩
theorem va{R:Heap->D->I1->Prop}{b:I1->ab->aa->Prop}{v:D}{a:I1}(g:SR e t S p){tk:Nat}(c:aV p.heap I)(d:R I v a)(f:b a t S):
 bW e p S R b v {p with heap:=I,toks:=tk}:=⟨a,t,S,d,g.ext c,aq.ext _ c,f⟩
theorem mN(a:Heap)(c:Obj):aV a (a.push c):=fun d e b=>Nr _ b
section
variable{S:aa}{β:Type}{f:Value->Value->Sem β}{g:Value->Sem β}{R:Heap->β->GG->Prop}
theorem eY(b:∀p h a,SR e t S p->wpAny (model prog w) e.A (f (.int k h) (.int IY a)) (bW e p S R B) a4 p):aE e f (.int k) (.int IY) R t S B:=by
 intro p a i g c d;cases c;cases d;exact b p _ _ g
theorem nV(b:∀p i a,SR e t S p->wpAny (model prog w) e.A (f (.str h i) (.str I5 a)) (bW e p S R B) a4 p):aE e f (.str h) (.str I5) R t S B:=by
 intro p a j g c d;cases c;cases d;exact b p _ _ g
theorem uJ(a:∀p,SR e t S p->wpAny (model prog w) e.A (f (.ref d) (.ref H)) (bW e p S R B) a4 p):aE e f (.ref d) (.ref H) R t S B:=by
 intro p h i g b c;cases b;cases c;exact a p g
theorem aej(a:∀p d,SR e t S p->wpAny (model prog w) e.A (g (.int k d)) (bW e p S R B) a4 p):bn e g (.int k) R t S B:=by
 intro p f c b;cases b;exact a p _ c
end
theorem pE[BEq D][LawfulBEq D][DecidableEq D](a b:D):(a==b)=decide (a=b):=PN.mpr (by simp)
theorem pG[BEq D][LawfulBEq D][DecidableEq D](a b:D):(!(a==b))=decide (a≠b):=PN.mpr (by simp)
theorem qb{a:Bool}{S:aa}(b:Jh=a)(c:B (.bool a) t S):B (.bool Jh) t S:=b▸c
theorem ae0(a:B (.int (k+IY)) t S):aE e (binaryOp .Add) (.int k) (.int IY) VR t S B:=by
 exact eY fun p x x b=>add_int (ef b _ (.int _ _) a)
theorem afi(a:B (.int (k-IY)) t S):aE e (binaryOp .Sub) (.int k) (.int IY) VR t S B:=by
 exact eY fun p x x b=>sub_int (ef b _ (.int _ _) a)
theorem g7(a:IntMulOk k IY)(b:B (.int (k*IY)) t S):aE e (binaryOp .Mult) (.int k) (.int IY) VR t S B:=by
 exact eY fun p x x c=>mul_int (ef c _ (.int _ _) b) a
theorem nX(a:IY≠0)(b:Builtin.divisionGoesByPylong k IY=false)(c:B (.int (k.fdiv IY)) t S):aE e (binaryOp .FloorDiv) (.int k) (.int IY) VR t S B:=by
 exact eY fun p x x d=>floordiv_int a (ef d _ (.int _ _) c) (.inl b)
theorem gC(a:IY≠0)(b:B (.int (k.fmod IY)) t S):aE e (binaryOp .Mod) (.int k) (.int IY) VR t S B:=by
 exact eY fun p x x c=>mod_int' a (ef c _ (.int _ _) b)
theorem kU(b:0<=IY)(c:IY<=1000000)(a:k.natAbs<2^64)(d:B (.int (k^IY.toNat)) t S):aE e (binaryOp .Pow) (.int k) (.int IY) VR t S B:=by
 exact eY fun p x x f=>pow_int_small b c a (ef f _ (.int _ _) d)
theorem afb(a:B (.bool (decide (k<IY))) t S):aE e (compareOp .Lt) (.int k) (.int IY) VR t S B:=by
 exact eY fun p x x b=>lt_int (b3 b (.bool _) a)
theorem ae8(a:B (.bool (decide (IY<k))) t S):aE e (compareOp .Gt) (.int k) (.int IY) VR t S B:=by
 exact eY fun p x x b=>gt_int (b3 b (.bool _) a)
theorem ae7(a:B (.bool (decide (IY<=k))) t S):aE e (compareOp .GtE) (.int k) (.int IY) VR t S B:=by
 exact eY fun p x x b=>ge_int (b3 b (.bool _) a)
theorem ae5(a:B (.bool (decide (k=IY))) t S):aE e (compareOp .Eq) (.int k) (.int IY) VR t S B:=by
 exact eY fun p x x b=>eq_int (b3 b (.bool _) (qb (pE k IY) a))
theorem aff(a:B (.bool (decide (k≠IY))) t S):aE e (compareOp .NotEq) (.int k) (.int IY) VR t S B:=by
 exact eY fun p x x b=>ne_int (b3 b (.bool _) (qb (pG k IY) a))
theorem afd(a:B (.int (-k)) t S):bn e (unaryOp .USub) (.int k) VR t S B:=by
 exact aej fun p x b=>neg_int (ef b _ (.int _ _) a)
theorem ae1(a:h.length+I5.length<=sizeLine)(b:B (.str (h++I5)) t S):aE e (binaryOp .Add) (.str h) (.str I5) VR t S B:=by
 exact nV fun p z z c=>add_str (fun d f=>ef c f (.str _ d) b) a
theorem ae6(a:B (.bool (decide (h=I5))) t S):aE e (compareOp .Eq) (.str h) (.str I5) VR t S B:=by
 refine nV fun p z z b=>?_;exact RcAt.str_str _ _ _ _ prog w _ _ (b3 b (.bool _) (qb (pE h I5) a))
theorem afg(a:B (.bool (decide (h≠I5))) t S):aE e (compareOp .NotEq) (.str h) (.str I5) VR t S B:=by
 refine nV fun p z z b=>?_;exact RcNeAt.str_str _ _ _ _ prog w _ _ (b3 b (.bool _) (qb (pG h I5) a))
theorem ee(h:aw e.A q)(a:aQ 20 i)(b:aQ 20 Jn)(f:B (.bool (GG.bf i Jn)) t S):aE e (compareOp .Eq) i Jn VR t S B:=by
 intro p j k g c d;exact ag7 c d a b (by have:=h.u;omega) prog w _ _ (b3 g (.bool _) f)
theorem kT(h:aw e.A q)(a:aQ 20 i)(b:aQ 20 Jn)(f:B (.bool (!GG.bf i Jn)) t S):aE e (compareOp .NotEq) i Jn VR t S B:=by
 intro p j k g c d;exact ag9 c d a b (by have:=h.u;omega) prog w _ _ (b3 g (.bool _) f)
theorem kR(l:aw e.A q)(i:cf S d z)(j:cf S H Jm)(g:∀b∈z,aQ 20 b)(h:∀b∈Jm,aQ 20 b)(k:B (.bool (GG.dt z Jm)) t S):
  aE e (compareOp .Eq) (.ref d) (.ref H) VR t S B:=by
 refine uJ fun p a=>?_;refine ah (a.led.listAt i) fun m c=>?_;refine ah (a.led.listAt j) fun n f=>?_;exact ag8 c.1 f.1 c.2 f.2 g h (by have:=l.u;omega) prog w _ _ (b3 a (.bool _) k)
theorem uQ(n:aw e.A q)(g:cf S d z)(h:cf S H Jm)(c:∀b∈z,aQ 20 b)(f:∀b∈Jm,aQ 20 b)(m:B (.bool (!GG.dt z Jm)) t S):
  aE e (compareOp .NotEq) (.ref d) (.ref H) VR t S B:=by
 refine uJ fun p a=>?_;obtain⟨o,i,j⟩:=a.led.listAt g;obtain⟨r,k,l⟩:=a.led.listAt h;exact aha i k j l c f (by have:=n.u;omega) prog w _ _ (b3 a (.bool _) m)
noncomputable def GG.isNone:GG->Bool
 |.none=>true
 |_=>false
noncomputable def GG.nH:GG->Bool
 |.raw _=>false
 |_=>true
theorem u7(b:VR I G i)(a:i.nH=true):plainIs G .none=true/\(G==Value.none)=i.isNone:=by
 cases b<;>first|exact⟨rfl,rfl⟩|(exact nomatch a)
theorem ae9(b:i.nH=true)(f:B (.bool i.isNone) t S):aE e (compareOp .Is) i .none VR t S B:=by
 intro p h j g c d;cases d;refine aW (u7 c b) fun a=>?_;exact wpAny_is_plain a.1 (b3 g (.bool _) (by rw[a.2];exact f))
theorem afa(b:i.nH=true)(f:B (.bool (!i.isNone)) t S):aE e (compareOp .IsNot) i .none VR t S B:=by
 intro p h j g c d;cases d;refine aW (u7 c b) fun a=>?_;exact wpAny_isNot_plain a.1 (b3 g (.bool _) (by rw[a.2];exact f))
theorem afh(b:B (.bool (!Jh)) t S):bn e (unaryOp .Not) (.bool Jh) VR t S B:=by
 intro p d c a;obtain rfl:=a.jA;exact not_of (Pq (b3 c (.bool _) b))
theorem pj{h:Heap}{A:Around}(o:ao p.heap Jc.toList z)(y:VR p.heap G i)(l:∀a∈z,aQ q a)(s:aQ q i)(u:A.units+1+q<cLine):
  ∃c:Value->Bool,(∀a,a∈Jc->EqAt A.in1 p a G (c a))/\Jc.any c=z.any fun a=>GG.bf a i:=by
 classical
 let c:Value->Bool:=fun a=>if h:∃b,VR p.heap a b/\b∈z then GG.bf (Classical.choose h) i else false
 have m:∀a b,VR p.heap a b->b∈z->c a=GG.bf b i:=fun a b g j=>by
  have h:∃b,VR p.heap a b/\b∈z:=⟨b,g,j⟩
  have:Classical.choose h=b:=rA q (Classical.choose_spec h).1 (l _ (Classical.choose_spec h).2) g (l _ j);show(if h:∃b,VR p.heap a b/\b∈z then GG.bf (Classical.choose h) i else false)=_;rw[dif_pos h,this]
 have x:∀a∈Jc.toList,∃b,VR p.heap a b/\b∈z:=fun a d=>by
  obtain⟨C,t⟩:=List.mem_iff_getElem?.mp d;refine ah (o.get' t) fun b r=>?_;exact⟨b,r.2,Qg r.1⟩
 refine⟨c,fun a d=>?_,?_⟩
 ·refine ah (x a (Array.mem_toList_iff.mpr d)) fun b k=>?_;rw[m a b k.1 k.2];exact iQ q k.1 y (l b k.2) s u
 ·rw[<-Array.any_toList];have:∀(e:List Value)(f:List GG),ao p.heap e f->(∀a∈f,a∈z)->e.any c=f.any fun a=>GG.bf a i:=by
   intro e;induction e with
   |nil=>intro f h _;cases h;rfl
   |cons B e v=>
    intro f h n;cases h with
    |cons g j=>rw[OM,OM,v _ j fun a d=>n a (.tail _ d),m B _ g (n _ (.head _))]
  exact this _ _ o fun w h=>h
theorem nY{a:GG}(o:aw e.A q)(j:cf S d z)(m:∀r∈z,aQ 20 r)(i:aQ 20 a)(n:B (.bool (!z.any fun s=>GG.bf s a)) t S):
  aE e (compareOp .NotIn) a (.ref d) VR t S B:=by
 intro p u v b k l;cases l;refine ah (b.led.listAt j) fun x c=>?_;refine ah (pj (h:=p.heap) (A:=e.A) c.2 k m i (by have:=o.u;omega)) fun g f=>?_;exact notIn_listAt g c.1 f.1 (b3 b (.bool _) (by rw[f.2];exact n))
theorem uN(n:aw e.A q)(g:∀o∈z,aQ 20 o)(c:aQ 20 i)(l:B (.bool (z.any fun r=>GG.bf r i)) t S):
  aE e (compareOp .In) i (.tup z) VR t S B:=by
 intro p s u m d f;cases f with
 |tup j k=>
 refine ah (pj (h:=p.heap) (A:=e.A) k d g c (by have:=n.u;omega)) fun b a=>?_;exact SeqAt.in_tupleAt b j a.1 (b3 m (.bool _) (by rw[a.2];exact l))
end
section
variable{C:GU}{S:aa}
theorem ae2(I:z.length+Jm.length<=sizeLine)(n:B (.tup (z++Jm)) t S):aE C (binaryOp .Add) (.tup z) (.tup Jm) VR t S B:=by
 intro p N O o J L;cases J with
 | @tup s vs _ D h=>
 cases L with
 | @tup u a _ E i=>
 obtain⟨⟨cls,f,data,q⟩,b,v,j,y⟩:=id D;obtain⟨⟨M,g,data2,r⟩,c,x,l,A⟩:=id E;simp only at v y x A;subst v y x A;have k:vs.size=z.length:=by rewrite[<-h.length,NI];rfl
 have m:a.size=Jm.length:=by rewrite[<-i.length,NI];rfl
 by_cases d:vs.isEmpty=true
 ·have G:z=[]:=by cases z with|nil=>rfl|cons _ _=>simp at d;rw[d]at k;simp at k
  subst G;exact concat_meets ⟨_,b,rfl⟩ ⟨_,c,rfl⟩ Rm seq_tuple_add Rn Ro (Rp _ _) (tuple_addW0 s u vs a j l f g q r d)
   ⟨b,c,b3 o (.tup E i) n⟩
 ·by_cases e:a.isEmpty=true
  ·have H:Jm=[]:=by cases Jm with|nil=>rfl|cons _ _=>simp at e;rw[e]at m;simp at m
   subst H;exact concat_meets ⟨_,b,rfl⟩ ⟨_,c,rfl⟩ Rm seq_tuple_add Rn Ro (Rp _ _) (tuple_addW1 s u vs a j l f g q r d e)
    ⟨b,c,b3 o (.tup D h) (by simpa using n)⟩
  ·refine concat_meets ⟨_,b,rfl⟩ ⟨_,c,rfl⟩ Rm seq_tuple_add Rn Ro (Rp _ _) (tuple_addW2 s u vs a j l f g q r d e (mf (No (Nd k) (Nd m)) I)) ⟨b,c,?_⟩;have ext:=mN p.heap {cls:=Value.type "tuple",data:=Data.seq (vs++a)};refine va o ext (.tup (vs:=vs++a) ⟨_,Ny _ rfl,rfl,_,rfl⟩ ?_) n;rw[QI];exact(h.mono (eO ext)).append (i.mono (eO ext))
theorem LR.plain(e:LR S p.heap)(f:(d,GL.list z)∈S):∃a b,IsL p.heap d a b/\ao p.heap a.toList z:=by
 refine ah (e.objs _ f) fun a c=>?_;obtain⟨b,g⟩:=c.1;exact⟨a,b,g,c.2⟩
theorem n9{α:Type}(f:SR C t S p){us:Array Value}(d:ao p.heap us.toList z)(e:∀a,B (.ref a) t ((a,.list z)::S)):
  bW C p S VR B (.ref p.heap.objs.size) {p with heap:=p.heap.push {cls:=.type "list",data:=.seq us}}:=
 f.newList d (P:=fun b=>bW C p S VR B (.ref p.heap.objs.size) b) fun a b g h c x=>⟨.ref a,t,_,c▸ .ref a,g,h,e a⟩
theorem eA{xs ys:List GG}(g:(d,GL.list xs)∈S)(h:(H,GL.list ys)∈S)(i:xs.length+ys.length<=sizeLine)(l:∀e,B (.ref e) t ((e,.list (xs++ys))::S)):
  aE C (binaryOp .Add) (.ref d) (.ref H) VR t S B:=by
 intro p o q a j k;cases j;cases k;refine dN (a.led.plain g) fun us n b=>?_;refine dN (a.led.plain h) fun f m c=>?_;exact P.add_list b.1 c.1 (n9 (α:=Unit) a (us:=us++f) (by rw[QI];exact b.2.append c.2) l) (mf (No (Nd (by rewrite[<-b.2.length,NI];rfl:us.size=xs.length)) (Nd (by rewrite[<-c.2.length,NI];rfl:f.size=ys.length))) i)
theorem xF
(e:GK C (eval o C.env) VR t S fun c g a=>GK C (eval X C.env) VR g a fun d h b=>aE C (subscriptTail o X) c d VR h b B):GK C (eval (.Subscript o X N) C.env) VR t S B:=
 fun x f=>Subscript_ (l1 e f)
theorem lb{c id:String}(GX:p.TypeIs G c)
(f:typeLookup (.type c) "__getitem__"=pure (some (.builtin id)))(e:wpAny (model prog w) Q (getItem G Jy) I4 JX p)
(g:subscripted X false G Jy=operate [G,Jy] (getItem G Jy)):wpAny (model prog w) Q (subscriptTail o X G Jy) I4 JX p:=by
 refine M9 ?_;rw[getitemInPython_of_ne GX.not_modules];refine M9 (Rq GX f ?_);have a:wpAny (model prog w) Q (subscripted X false G Jy) (fun b d=>wpAny (model prog w) Q (letTemporaryGo o G b>>=fun y=>pure b) I4 JX d) JX p:=by
  rw[g];exact wpAny_operating (NB e (fun b d h=>M9 (Rr (Nc h))) fun y y i=>i)
 first
  |exact Nc (M9 a)
  |exact M9 (Nc (M9 a))
  |exact M9 a
noncomputable def Plain(c:Expr):Prop:=∀b a,subscripted c false b a=operate [b,a] (getItem b a)
theorem uU{j:Nat}(e:seqIndex? k z.length=some j)(m:z[j]? =some i)(n:B i t S)
(f:autoParam (-(2^63)<=k) v3)(d:autoParam (k<2^63) v3)(g:autoParam (Plain X) gL):aE C (subscriptTail o X) (.tup z) (.int k) VR t S B:=by
 intro p u v q h l;cases h with
 | @tup s r _ a b=>
 cases l;refine ah (b.get m) fun x c=>?_;exact lb a.typeIs QJ.lookup (getItem_tuple a f d ((by rewrite[<-b.length,NI];rfl:r.size=z.length)▸e) (by simpa using c.1) (b3 q c.2 n)) (g _ _)
theorem kW{k:Nat}(a:z[k]? =some i)(b:(k:Int)<2^63)(d:B i t S)(c:autoParam (Plain X) gL):
  aE C (subscriptTail o X) (.tup z) (.int k) VR t S B:=by
 refine uU (j:=k) ?_ a d (PE (by decide) (Oo _)) b c;unfold seqIndex?;simp[((Sy.mp a).1),(by omega:¬((k:Int)<0))]
theorem cB{value e:Expr}{k:Nat}{a:GG}(h:cf S d z)(m:z[k]? =some a)(g:(k:Int)<2^63)(n:B a t S)(i:autoParam (Plain e) gL):
  aE C (subscriptTail value e) (.ref d) (.int k) VR t S B:=by
 intro p o q c j l;cases j;cases l;refine ah (c.led.listAt h) fun r b=>?_;refine ah (b.2.get m) fun s f=>?_;exact lb b.1.typeIs slot_list_getitem.lookup (wpAny_getItem_list b.1 (Oo _) g (by simpa using f.1) (b3 c f.2 n)) (i _ _)
theorem uO{a:GG}(e:cf S d z)(b:0<=k)(g:z[k.toNat]? =some a)(c:k<2^63)(h:B a t S)(f:autoParam (Plain X) gL):
  aE C (subscriptTail o X) (.ref d) (.int k) VR t S B:=by
 have:=cB (C:=C) (value:=o) (k:=k.toNat) e g ((QK b).symm▸c) h f
 rwa[QK b]at this
inductive e7:Value->Option Int->Prop
 |none:e7 .none none
 |int (i:Int) (t:Tok):e7 (.int i t) (some i)
theorem e7.th{a:Option Int}(b:e7 G a):IsPart G a:=by cases b<;>constructor
noncomputable def fC:Option Int->GG
 |none=>.none
 |some a=>.int a
theorem uZ{a:Option Int}(b:VR I G (fC a)):e7 G a:=by
 cases a<;>(cases b;constructor)
noncomputable def ga(C:GU)(g:GG)(lo h:Option Int)(t:ab)(S:aa)(f:GG->ab->aa->Prop):Prop:=
 ∀p b a d e,SR C t S p->VR p.heap b g->p.heap.IsSliceOf a d e .none->e7 d lo->e7 e h->p.heap.get? a≠none->
  ∃c id,p.TypeIs b c/\typeLookup (.type c) "__getitem__"=pure (some (.builtin id))/\wpAny (model prog w) C.A (getItem b (.ref a)) (bW C p S VR f) a4 p
noncomputable def ap3(b:Option Expr)(a:Env):Sem Value:=evalPart b a
theorem ajb{r u:Option Expr}
(I:GK C (eval o C.env) VR t S fun m A k=>GK C (evalPart r C.env) VR A k fun n D l=>GK C (evalPart u C.env) VR D l fun q E d=>
   ∃lo f,n=fC lo/\q=fC f/\ga C m lo f E d B):GK C (eval (.Subscript o (.Slice r u none N) I9) C.env) VR t S B:=by
 intro p b;rw[eval_Subscript];refine M9 (I.run b fun c m A k KT O h Z T=>M9 (N1 (wpAny_Slice (T.run h fun v n D l KU J i y U=>U.run i fun x q E d a L j z g=>?_))));obtain⟨lo,f,rfl,rfl,g⟩:=g;rw[evalPart_none];refine Nc (M9 (OT ?_));have ext:=mN a.heap {cls:=Value.type "slice",data:=Data.fields #[v,x,.none]};obtain⟨KS,id,GX,M,H⟩:=g _ c a.heap.objs.size v x (j.ext (tk:=a.toks) ext) (((O.mono (h.cj y)).mono (i.cj z)).mono (eO ext)) (Heap.IsSliceOf.new ..) (uZ J) (uZ L) (by rw[Ny _ rfl];exact nofun);have e:wpAny (model prog w) C.A (operate [.ref a.heap.objs.size,c] (getItem c (.ref a.heap.objs.size))) (fun b s=>wpAny (model prog w) C.A (letTemporaryGo o c b>>=fun _=>pure b) (bW C p S VR B) a4 s) a4 _:=
  wpAny_operating (NB (NB H (fun X V(N:bW C _ d VR B X V)=>N.trans (((Z.trans y h.alive).trans z i.alive).trans (aq.ext _ (tk:=a.toks) ext) j.alive) (j.ext (tk:=a.toks) ext)) (fun _ _ G=>G)) (fun b s Q=>M9 (Rr (Nc Q))) fun _ _ Y=>Y)
 refine M9 ?_;rw[getitemInPython_of_ne GX.not_modules];refine M9 (Rq GX M ?_)
 first
  |exact Nc (M9 e)
  |exact M9 (Nc (M9 e))
  |exact M9 e
theorem x1(a:B .none t S):GK C (evalPart none C.env) VR t S B:=fun p b=>Nc (b3 b .none a)
theorem x2(a:GK C (eval o C.env) VR t S B):GK C (evalPart (some o) C.env) VR t S B:=a
noncomputable def h4(a:List GG)(lo b:Option Int):List GG:=(a.drop (lo.elim 0 (clipAt a.length))).take (b.elim a.length (clipAt a.length)-lo.elim 0 (clipAt a.length))
theorem ja{xs:List GG}{lo b:Option Int}(h:cf S d xs)(j:xs.length<=sizeLine)(n:∀c,B (.ref c) t ((c,.list (h4 xs lo b))::S)):ga C (.ref d) lo b t S B:=by
 intro p q o r s f k i l m _;cases k;refine ah (f.led.listAt h) fun g a=>?_;have e:g.size=xs.length:=by rewrite[<-a.2.length,NI];rfl
 refine⟨_,_,a.1.typeIs,slot_list_getitem.lookup,wpAny_getItem_list_slice a.1 i l.th m.th .none (nofun) (n9 (α:=Unit) f (us:=slicePick g lo b none) ?_ n) (mf (Nd e) j)⟩;rw[slicePick_plain,e];exact(a.2.drop _).take _
theorem af9(a b:Nat):Builtin.Slice.slicePlaces (a:Int) (b:Int) 1=b-a:=by
 show(if(a:Int)<b then((b:Int)-a-1)/1+1 else 0).toNat=b-a;by_cases c:a<b
 ·rw[if_pos (Ol.mpr c),Int.ediv_one,Int.sub_add_cancel,<-Ps (Nq c)];rfl
 ·rw[if_neg fun d=>c (Ol.mp d),Nat.sub_eq_zero_of_le (PO c)];rfl
theorem aja{lo c:Option Int}{b:Int×Int×Nat->Shared->Prop}(k:p.heap.IsSliceOf d G Jy .none)(l:e7 G lo)(m:e7 Jy c)
(i:Builtin.Slice.sliceAdjust lo c 1 (q:Int)=((v:Int),(Jd:Int)))(h:b ((v:Int),1,Jd-v) p):
  wpAny (model prog w) Q (Builtin.Slice.sliceApplied (.ref d) (pure (q:Int))) b I4 p:=by
 refine aN (id k) fun os a=>?_;have a2:∀{g:Value}{f:Option Int}{b:Option Int->Shared->Prop},e7 g f->b f p->wpAny (model prog w) Q (Builtin.Slice.slicePartIndex g) b I4 p:=fun j e=>by
  cases j
  ·exact slicePart_none e
  ·exact slicePart_int e
 refine M9 (M9 (ON a.1 a.3 (x:=G) rfl (M9 (ON a.1 a.3 (x:=Jy) rfl (M9 (ON a.1 a.3 (x:=.none) rfl (Nc ?_)))))));refine M9 (slicePart_none ?_);rw[if_neg (by decide)];refine M9 (a2 l (M9 (a2 m (M9 (Nc ?_)))));rw[i];show wpAny _ _ (pure ((v:Int),(1:Int),Builtin.Slice.slicePlaces (v:Int) (Jd:Int) 1)) _ _ p;rw[(af9 v Jd)];exact Nc h
theorem af7(c:Array Value)(b a:Nat):((List.range a).filterMap fun(a:Nat)=>c[((b:Int)+(a:Int)*1).toNat]?).toArray=((c.toList.drop b).take a).toArray:=by
 have e:(fun(a:Nat)=>c[((b:Int)+(a:Int)*1).toNat]?)=fun a=>c[b+a]? :=by
  funext a
  have:((b:Int)+(a:Int)*1).toNat=b+a:=by rw[Int.mul_one];rfl
  rw[this]
 rw[e];have:=pick_run c b a;rw[List.filterMap_map]at this;rw[(rfl:((fun d=>c[d]?)∘fun d=>b+d)=fun a=>c[b+a]?)]at this;rw[this]
theorem h0{lo l:Option Int}{a b:Nat}(k:Builtin.Slice.sliceAdjust lo l 1 (z.length:Int)=((a:Int),(b:Int)))(r:z.length<=sizeLine)(d:B (.tup ((z.drop a).take (b-a))) t S):
  ga C (.tup z) lo l t S B:=by
 intro p A y D E i s n u x _;cases s with
 | @tup o vs _ c f=>
 have j:vs.size=z.length:=by rewrite[<-f.length,NI];rfl
 refine⟨_,_,c.typeIs,QJ.lookup,?_⟩;refine aN (id n) fun os q=>?_;delta getItem
 try with_reducible refine N1 ?_
 first|refine M9 (Nc ?_)|skip
 refine M9 (wpAny_sequenceKey c.typeIs (by decide) ?_);refine M9 (Pu (name:=Str.ofString "__getitem__") c.typeIs QJ
  (On QJ c.typeIs entry_tuple_getitem ?_ (args_tuple_getitem _ _)))
 show wpAny _ _ (Builtin.Tuple.tupleItemsOf (.ref o)>>=_) _ _ p;refine M9 (tupleItemsOf_ c ?_);refine M9 (PP ⟨os,q.1,q.2⟩ ?_);rw[if_pos (by decide)];rw[<-j]at k;refine M9 (aja n u x k ?_);show wpAny _ _ (if((a:Int)==0&&(1:Int)==1&&(b-a)==vs.size)=true then _ else _) _ _ p;by_cases e:((a:Int)==0&&(1:Int)==1&&(b-a)==vs.size)=true
 ·rw[if_pos e];simp only[Ox,beq_iff_eq]at e;replace d:=(by rw[e.2,j,(PQ e.1.1),Rs,Rj]:(z.drop a).take (b-a)=z)▸d;refine M9 (m:=Builtin.Tuple.tupleIsExact (.ref o)) (M9 (PP c.typeIs (Nc ?_)));rw[if_pos (by decide)];refine M9 (OF ?_)
  first
   |exact Nc ⟨_,rfl,Nc (b3 i (.tup c f) d)⟩
   |exact M9 (Nc ⟨_,rfl,Nc (b3 i (.tup c f) d)⟩)
   |exact M9 (Nc (Nc ⟨_,rfl,Nc (b3 i (.tup c f) d)⟩))
 ·rw[if_neg e,af7 vs a (b-a)];have h:sizeOk (.seq ((vs.toList.drop a).take (b-a)).toArray):=by
   show((vs.toList.drop a).take (b-a)).toArray.size<=sizeLine;rw[QL];exact mf (List.length_take_le' ..) (mf (List.length_drop▸QM ..) (NI▸j▸r))
  have ext:=mN p.heap {cls:=Value.type "tuple",data:=Data.seq ((vs.toList.drop a).take (b-a)).toArray};have g:=va (tk:=p.toks) (R:=VR) (v:=Value.ref p.heap.objs.size) i ext (.tup (vs:=((vs.toList.drop a).take (b-a)).toArray) ⟨_,Ny _ rfl,rfl,_,rfl⟩ ((((f.drop a).take (b-a)).mono (eO ext)))) d
  first
   |exact M9 (m:=Builtin.Tuple.tupleExact _) (Ou (Nc ⟨_,rfl,Nc g⟩) h)
   |exact M9 (m:=Builtin.Tuple.tupleExact _) (Ou (M9 (Nc (Nc ⟨_,rfl,Nc g⟩))) h)
   |exact M9 (M9 (m:=Builtin.Tuple.tupleExact _) (Ou (Nc (Nc ⟨_,rfl,Nc g⟩)) h))
   |exact M9 (M9 (m:=Builtin.Tuple.tupleExact _) (Ou (Nc ⟨_,rfl,Nc g⟩) h))
end
theorem wY(a:Nat)(b:1<=a):Builtin.Slice.sliceAdjust (some 1) none 1 (a:Int)=(((1:Nat):Int),((a:Nat):Int)):=by
 show(min 1 (a:Int),(a:Int))=_;rw[QN (N6.mpr b)]<;>rfl
theorem uq(b c:Nat):min (b:Int) (c:Int)=((min b c:Nat):Int):=
 (Nat.le_total b c).elim (fun a=>by rw[QO a,QN (N6.mpr a)]) fun a=>by rw[Rt a,Int.min_eq_right (N6.mpr a)]
theorem jx(b a:Nat):Builtin.Slice.sliceAdjust none (some (a:Int)) 1 (b:Int)=(((0:Nat):Int),((min a b:Nat):Int)):=by
 show((0:Int),if(a:Int)<0 then max ((a:Int)+b) 0 else min (a:Int) b)=_;rw[if_neg (Pw.mpr (Oo a)),uq];rfl
theorem pS(a:v<=q):clipAt q (v:Int)=v:=by
 delta clipAt;rw[if_neg (Pw.mpr (Oo v)),QN (N6.mpr a),Int.max_eq_right (Oo v)];rfl
theorem wX(a:Nat)(b:1<=a):Builtin.Slice.sliceAdjust none (some (-1)) 1 (a:Int)=(((0:Nat):Int),((a-1:Nat):Int)):=by
 show((0:Int),max (-1+(a:Int)) 0)=_;rw[Ps b,Ru (by omega:(0:Int)<=-1+a),Int.add_comm];rfl
noncomputable def ay{a:Type}[DecidableEq a](c:List (a×GG))(b:a):Option GG:=(c.find? fun d=>decide (d.1=b)).map (fun x=>x.2)
theorem hx[DecidableEq D](c:D×GG)(d:List (D×GG))(b:D):ay (c::d) b=if c.1=b then some c.2 else ay d b:=by
 unfold ay;rw[Oy];by_cases a:c.1=b
 ·rw[if_pos a,decide_eq_true a];rfl
 ·rw[if_neg a,decide_eq_false a]
theorem eT[BEq D][LawfulBEq D][DecidableEq D](c:D×I1)(d:List (D×I1))(b:D):(c::d).lookup b=if c.1=b then some c.2 else d.lookup b:=by
 obtain⟨e,g⟩:=c;rw[NF];by_cases a:e=b
 ·rw[if_pos a,beq_iff_eq.mpr a.symm]
 ·rw[if_neg a,beq_eq_false_iff_ne.mpr fun f=>a f.symm]
theorem nc(a:ae.i (q:Nat)=ae.i (v:Nat)):q=v:=PQ (ae.i.inj a)
theorem mB{f:Nat×D->ae×GG}{v:D->GG}(e:∀a,f a=(.i (a.1:Nat),v a.2))(c:List (Nat×D)):ay (c.map f) (.i (q:Nat))=(c.lookup q).map v:=by
 induction c with
 |nil=>rfl
 |cons a c g=>
  rw[Nt,hx,eT,e a,g];by_cases b:a.1=q
  ·rw[if_pos b,if_pos (congrArg (fun h:Nat=>ae.i (h:Int)) b)];rfl
  ·rw[if_neg b,if_neg fun d=>b (nc d)]
noncomputable def a6{b:Type}[DecidableEq b](d:List (b×GG))(c:b)(e:GG):List (b×GG):=if d.any (fun a=>decide (a.1=c))then d.map (fun a=>if a.1=c then(a.1,e)else a)else d++[(c,e)]
noncomputable def c8{a:Type}[DecidableEq a](c:List (a×GG))(b:a):List (a×GG):=c.filter fun d=> !decide (d.1=b)
inductive Hk{κ:Type}(h:Heap):List (κ×Value)->List (κ×GG)->Prop
 |nil:Hk h [] []
 |cons {a:κ} {u:Value} {d:GG} {c:List (κ×Value)} {b:List (κ×GG)}:VR h u d->Hk h c b->Hk h ((a,u)::c) ((a,d)::b)
section
variable{κ:Type}[DecidableEq κ]
theorem Hk.of{b:List (κ×Value)}:∀{a:List (κ×GG)},b.map (fun x=>x.1)=a.map (fun x=>x.1)->ao I (b.map (fun x=>x.2)) (a.map (fun x=>x.2))->Hk I b a:=by
 induction b with
 |nil=>intro a c d;cases a with
  |nil=>exact .nil
  |cons e a=>cases c
 |cons k b h=>intro a c d;cases a with
  |nil=>cases c
  |cons e a=>
   obtain⟨i,l⟩:=k;obtain⟨j,m⟩:=e;refine aW (Oz c) fun f=>?_;rw[show i=j from f.1];cases d with
   |cons g d=>exact .cons g (h f.2 d)
theorem Hk.keys{c:List (κ×Value)}{a:List (κ×GG)}(b:Hk I c a):c.map (fun x=>x.1)=a.map (fun x=>x.1):=by
 induction b with
 |nil=>rfl
 |cons e b d=>exact congrArg (_::·) d
theorem Hk.vals{c:List (κ×Value)}{a:List (κ×GG)}(b:Hk I c a):ao I (c.map (fun x=>x.2)) (a.map (fun x=>x.2)):=by
 induction b with
 |nil=>exact .nil
 |cons d b e=>exact .cons d e
theorem Hk.mono(f:cm I JR){d:List (κ×Value)}{b:List (κ×GG)}(c:Hk I d b):Hk JR d b:=by
 induction c with
 |nil=>exact .nil
 |cons a c e=>exact .cons (a.mono f) e
theorem Hk.length{b:List (κ×Value)}{a:List (κ×GG)}(c:Hk I b a):b.length=a.length:=(Nb ..).symm.trans ((congrArg List.length c.keys).trans (Nb ..))
theorem we(c:κ×Value)(d:List (κ×Value))(b:κ):valueAt (c::d) b=if c.1=b then some c.2 else valueAt d b:=by
 unfold valueAt;rw[Oy];by_cases a:c.1=b
 ·rw[if_pos a,decide_eq_true a];rfl
 ·rw[if_neg a,decide_eq_false a]
theorem Hk.get{e:List (κ×Value)}{c:List (κ×GG)}(g:Hk I e c)(a:κ):(valueAt e a=none/\ay c a=none)\/∃d f,valueAt e a=some d/\ay c a=some f/\VR I d f:=by
 induction g with
 |nil=>exact .inl ⟨rfl,rfl⟩
 | @cons j d f e c h g i=>
  by_cases b:j=a
  ·exact .inr ⟨d,f,(we _ _ _).trans (if_pos b),(hx _ _ _).trans (if_pos b),h⟩
  ·rw[we,hx,if_neg b,if_neg b];exact i
theorem Hk.any{e:List (κ×Value)}{c:List (κ×GG)}(d:Hk I e c)(b:κ):(e.any fun a=>decide (a.1=b))=c.any fun a=>decide (a.1=b):=by
 induction d with
 |nil=>rfl
 |cons g d f=>rw[OM,OM,f]
theorem Hk.Gg{f:List (κ×Value)}{c:List (κ×GG)}(h:Hk I f c)(b:κ)(k:VR I G i):Hk I (f.map fun d=>if d.1=b then(d.1,G)else d) (c.map fun e=>if e.1=b then(e.1,i)else e):=by
 induction h with
 |nil=>exact .nil
 | @cons l m n f c j h g=>
  rw[Nt,Nt];by_cases a:l=b
  ·rw[if_pos a,if_pos a];exact .cons k g
  ·rw[if_neg a,if_neg a];exact .cons j g
theorem Hk.app{d e:List (κ×Value)}{a b:List (κ×GG)}(c:Hk I d a)(h:Hk I e b):Hk I (d++e) (a++b):=by
 induction c with
 |nil=>exact h
 |cons f c g=>exact .cons f g
theorem Hk.put{e:List (κ×Value)}{d:List (κ×GG)}(b:Hk I e d)(a:κ)(c:VR I G i):Hk I (stored e a G) (a6 d a i):=by
 delta stored a6;rw[b.any a]
 split
 ·exact b.Gg a c
 ·exact b.app (.cons c .nil)
theorem Hk.del{d:List (κ×Value)}{c:List (κ×GG)}(f:Hk I d c)(b:κ):Hk I (without d b) (c8 c b):=by
 delta without c8;induction f with
 |nil=>exact .nil
 | @cons h i j d c g f e=>
  by_cases a:h=b
  ·rw[PM (by simp[a]),PM (by simp[a])];exact e
  ·rw[PL (by simp[a]),PL (by simp[a])];exact .cons g e
end
section
variable{S:aa}{s:Shared}
theorem LR.dict(f:LR S s.heap){c:Addr}{d:Nat}{e:List (ae×GG)}(g:(c,GL.dict d e)∈S):∃a,s.heap.DictAt (aX) c a d/\Hk s.heap a e:=by
 refine aN (f.objs _ g) fun a b=>?_;exact⟨a,b.1,Hk.of b.2 b.3⟩
theorem ec(a:VR I G Jr.GP):(aX).is Jr G=true:=by
 cases Jr with
 |i b=>cases a;simp[aX,ae.is,Value.isInt]
 |s c=>cases a;simp[aX,ae.is,Value.isStrOf]
theorem vb{R:Heap->D->I1->Prop}{g:I1->ab->aa->Prop}{tk:Nat}{a b:Addr}{f d:GL}{l:D}{c:I1}(r:SR e t S s)(k:dP a f d S V)(h:b∈own (a,f))
(i:∀c m,c≠b->s.heap.get? c=some m->I.get? c=some m)(j:own (a,d)=own (a,f))(p:∀u,d≠ .fixed u)(n:OR I a d)(o:R I l c)(q:g c t V):bW e s S R g l {s with heap:=I,toks:=tk}:=
 ⟨c,t,V,o,r.turn k h i j p n,aq.turn _ k h i j,q⟩
theorem fv{e b:Addr}{g n:GL}(h:LR S s.heap)(o:dP e g n S V)(j:b∈own (e,g))(k:∀a c,a≠b->s.heap.get? a=some c->I.get? a=some c):cm s.heap I:=fun a c f l=>
 k a c (fun i=>by subst i;obtain⟨p,d,m⟩:=h.c3 (ct o.mem j);replace d:=f▸d;cases d;exact m l) f
theorem gE{ks:List (ae×GG)}(b:I.DictOf (aX) d J2)(c:Hk I J2 ks):∃a,OR I d (.dict a ks):=by
 obtain⟨a,b⟩:=b.dictAt;exact⟨a,J2,b,c.keys,c.vals⟩
theorem uM{k:ae}(m:∃l,base.get? sysModules=some l)(f:(d,GL.dict q I8)∈S)(g:B (.bool (ay I8 k).isSome) t S):aE e (compareOp .In) k.GP (.ref d) VR t S B:=by
 intro s n r a i j;cases j;refine ah (a.led.dict f) fun p h=>?_;refine wpAny_in_of (ec i) (a.led.noSys m (ct f (Nz))) h.1.dictOf.mapOf (ef a _ (.bool _) ?_);rcases h.2.get k with⟨b,c⟩|⟨o,u,b,c,_⟩<;>(rw[b];rw[c]at g;exact g)
theorem uR{k:ae}(m:∃l,base.get? sysModules=some l)(f:(d,GL.dict q I8)∈S)(g:B (.bool (!(ay I8 k).isSome)) t S):aE e (compareOp .NotIn) k.GP (.ref d) VR t S B:=by
 intro s n r a i j;cases j;refine ah (a.led.dict f) fun p h=>?_;refine wpAny_notIn_of (ec i) (a.led.noSys m (ct f (Nz))) h.1.dictOf.mapOf (ef a _ (.bool _) ?_);rcases h.2.get k with⟨b,c⟩|⟨o,u,b,c,_⟩<;>(rw[b];rw[c]at g;exact g)
theorem nW{k:ae}(h:(d,GL.dict q I8)∈S)(c:ay I8 k=some i)(n:B i t S)(j:autoParam (Plain X) gL):
  aE e (subscriptTail o X) (.ref d) k.GP VR t S B:=by
 intro s r x f l m;cases l;refine ah (f.led.dict h) fun v b=>?_;rcases b.2.get k with⟨_,a⟩|⟨u,y,g,a,p⟩
 ·replace a:=c▸a;exact nomatch a
 ·replace a:=c▸a;cases a;exact lb b.1.dictOf.typeIs slot_dict_getitem.lookup (wpAny_getItem_of (ec m) b.1.dictOf.mapOf g (ef f _ p n)) (j _ _)
noncomputable def e5(e:GU)(i:Value->Value->Value->Sem Unit)(f g h:GG)(t:ab)(S:aa)(d:ab->aa->Prop):Prop:=
 ∀s a b c,SR e t S s->VR s.heap a f->VR s.heap b g->VR s.heap c h->wpAny (model prog w) e.A (i a b c) (bW e s S UR fun y=>d) a4 s
theorem xn{b:Expr}
(v:GK e (eval b e.env) VR t S fun l p g=>GK e (eval o e.env) VR p g fun j q h=>GK e (eval X e.env) VR q h fun k r i=>e5 e setItem j k l r i (Z .next))
(x:autoParam (swapsWith b (some (.Subscript o X N)) I9.line e.env=pure false) aP):GK e (exec (.Assign [.Subscript o X N] b I9) e.env) GW t S Z:=by
 intro s E;refine wpAny_Assign_Subscript (v.run E fun J l p g Q A c L B=>B.run c fun H j q h T y a n C=>C.run a fun I k r i G z m f D=>?_) x;refine NB (D G H I J m (y.mono (a.cj f)) z ((A.mono (c.cj n)).mono (a.cj f))) (fun w U M=>?_) bK;refine f2 M fun w O u d=>?_;exact⟨.next,O,u,.next,d.2,((L.trans n c.alive).trans f a.alive).trans d.3 m.alive,d.4⟩
theorem uS{k:ae}{F:GL->aa}(g:bk d (.dict q I8) S F)(r:I8.length<=sizeLine)(y:∀a,Kq t (F (.dict a (a6 I8 k i)))):
  e5 e setItem (.ref d) k.GP i t S Kq:=by
 intro s z B C f u v x;cases u;refine ah (f.led.dict g.mem) fun A h=>?_;refine wpAny_setItem_pairs (ec v) h.1.dictOf (fun l n p=>?_) (by rw[h.2.length];exact r);have same:∀b c,b≠d->s.heap.get? b=some c->l.get? b=some c:=fun b c m j=>(p.2 b m).trans j;obtain⟨a,o⟩:=gE n ((h.2.put k x).mono (fv f.led (g (.dict q (a6 I8 k i))) (b:=d) (Nz) same));exact vb (c:=()) f (g (.dict a (a6 I8 k i))) (b:=d) (Nz) same rfl gp o trivial (y a)
theorem eJ(g:∀c a,B (.ref c) t ((c,.dict a [])::S)):GK e (eval (.Dict [] [] N) e.env) VR t S B:=by
 intro s b;refine wpAny_Dict_empty ?_;obtain⟨a,f⟩:=gE (ks:=[]) (Heap.DictOf.new _) .nil;have d:aq [] s S _ _:=aq.take b.led (o:={cls:=.type "dict",data:=.dict #[]}) (ao:=.dict a []) rfl;exact⟨.ref s.heap.objs.size,t,_,.ref _,b.behind d (b.led.take (o:={cls:=.type "dict",data:=.dict #[]}) (ao:=.dict a []) rfl gp f),d.wide bs,g _ a⟩
theorem mi{Q:GG->aa->Prop}(a:LR S s.heap)(b:VR s.heap G i)(c:Q i S):e4 s S Q G s:=⟨i,S,b,a,aq.refl ..,c⟩
theorem dS{Q:GG->aa->Prop}(a:LR S s.heap)(d:Nat)(b:VR s.heap G i)(c:Q i S):e4 s S Q G {s with toks:=d}:=⟨i,S,b,a,aq.tok ..,c⟩
theorem LR.ext(a:LR S s.heap)(d:aV s.heap I):LR S I:=a.fm (P:=[]) (fun b e c x=>d b e c) bs bs
theorem iF(b:LR S s.heap){tk:Nat}(a:aV s.heap I)(c:VR I G i)(d:M i S):e4 s S M G {s with heap:=I,toks:=tk}:=
 ⟨i,S,c,b.ext a,aq.ext _ a,d⟩
theorem ht{Q:GG->aa->Prop}{tk:Nat}{a b:Addr}{d c:GL}(k:LR S s.heap)(h:dP a d c S V)(e:b∈own (a,d))
(f:∀i j,i≠b->s.heap.get? i=some j->I.get? i=some j)(g:own (a,c)=own (a,d))(n:∀p,c≠ .fixed p)(l:OR I a c)(m:VR I G i)(o:Q i V):e4 s S Q G {s with heap:=I,toks:=tk}:=
 ⟨i,V,m,k.turn h e f g n l,aq.turn _ h e f g,o⟩
theorem gm{ks:List (ae×GG)}{k:ae}(m:∃j,base.get? sysModules=some j)(h:(d,GL.dict v ks)∈S)(a:M ((ay ks k).getD .none) S):
  GN q (.builtin "dict.get") [.ref d,k.GP] S M:=by
 intro o s n p b i;refine bB i.two fun r u f=>?_;obtain rfl:=f.1;obtain rfl:=f.2.dr;refine ah (b.dict h) fun n g=>?_;refine Px Sz g.1.dictOf.typeIs PySem.F.entry_dict_get (PySem.F.args_dict_get_2 _ _) (meets_dict_get (aX) d (ec f.3) (b.noSys m (ct h (Nz)))) ⟨_,g.1.dictOf.mapOf,?_⟩;show e4 s S M _ _;rcases g.2.get k with⟨c,e⟩|⟨t,x,c,e,l⟩
 ·rw[c];replace a:=e▸a;exact dS b _ .none a
 ·rw[c];replace a:=e▸a;exact dS b _ l a
theorem E3(a:VR I G Jr.GP):(keyPart G).isSome=true:=by
 cases Jr with
 |i c=>obtain⟨b,rfl⟩:=VR.gh a;rfl
 |s d=>obtain⟨b,rfl⟩:=VR.atS a;rfl
theorem hp{ks:List (ae×GG)}{k:ae}{a:GG}{F:GL->aa}(D:z=[]\/∃h,z=[h])(j:bk d (.dict v ks) S F)(I:ks.length<=sizeLine)(m:ay ks k=some a)
(O:∀f,M a (F (.dict f (c8 ks k)))):GN q (.builtin "dict.pop") (.ref d::k.GP::z) S M:=by
 have B:=j.mem;intro X s c Z g J;obtain⟨KS,KT,rfl,x,L⟩:=J.head;obtain⟨N,c,rfl,l,o⟩:=L.head;obtain rfl:=x.dr;refine ah (g.dict B) fun Y e=>?_;have n:c=[]\/∃dflt,c=[dflt]:=by
  rcases D with rfl|⟨h,rfl⟩
  ·exact .inl o.fQ
  ·refine ah o.one fun T V=>?_;exact .inr ⟨T,V.1⟩
 have y:argsOk "dict.pop" ⟨.ref d::N::c,[]⟩:=by
  rcases n with rfl|⟨h,rfl⟩
  ·exact PySem.F.args_dict_pop_2 _ _
  ·exact SA _ _ _
 have G:=E3 l;rcases e.2.get k with⟨_,b⟩|⟨U,KU,r,b,Q⟩
 ·replace b:=m▸b;exact nomatch b
 ·replace b:=m▸b;cases b;refine Px Rv e.1.dictOf.typeIs SD y (meets_dict_pop_there (aX) d (ec l) c n G) ⟨_,U,e.1.dictOf,by rw[e.2.length];exact I,r,fun u C H=>?_⟩;have same:∀b i,b≠d->s.heap.get? b=some i->u.get? b=some i:=fun b i A t=>(H.2 b A).trans t;have p:=fv g (j (.dict v (c8 ks k))) (b:=d) (Nz) same;obtain⟨f,E⟩:=gE C ((e.2.del k).mono p);exact ht (Q:=M) g (j (.dict f (c8 ks k))) (b:=d) (Nz) same rfl gp E (Q.mono p) (O f)
end
section
variable{S:aa}{s:Shared}
theorem LR.add(a:LR S s.heap){f:Heap}{b:Addr}{ao:GL}(ext:aV s.heap f)(j:s.heap.get? b=none)(p:own (b,ao)=[b])(o:∀e,ao≠ .fixed e)(m:OR f b ao):
  LR ((b,ao)::S) f:=by
 have k:aK ((b,ao)::S)=b::aK S:=by show own _++_=_;rw[p];rfl
 refine⟨fun q h=>?_,?_,fun i d=>?_,fun l e g=>?_,(a.ext ext).keep⟩
 ·rcases Nk.mp h with rfl|h
  ·exact m
  ·exact(a.ext ext).objs q h
 ·rw[k];refine ND.mpr ⟨fun n=>?_,a.nodup⟩;refine ah (a.c3 n) fun t u=>?_;have c:=u.1;replace c:=j▸c;exact nomatch c
 ·replace d:=k▸d;rcases Nk.mp d with rfl|d
  ·cases r:base.get? i with
   |none=>rfl
   |some t=>have:=a.keep _ _ r;replace this:=j▸this;exact nomatch this
  ·exact a.fresh i d
 ·rcases Nk.mp g with c|g
  ·cases c;exact absurd rfl (o e)
  ·exact a.fix l e g
theorem aq.add{d:Heap}{tk:Nat}{a:Addr}{ao:GL}(P:List Addr)(ext:aV s.heap d)(e:s.heap.get? a=none)(i:own (a,ao)=[a]):aq P s S {s with heap:=d,toks:=tk} ((a,ao)::S):=by
 refine⟨⟨_,_,_,rfl⟩,fun c h f x x=>ext c h f,fun c g=>?_⟩;rcases Nu.mp (show c∈own (a,ao)++aK S from g)with b|b
 ·rw[i]at b;rw[Nj.mp b];exact .inr e
 ·exact .inl b
theorem gk{Q:GG->aa->Prop}(c:LR S s.heap){tk:Nat}{ao:GL}(ext:aV s.heap I)(a:s.heap.get? d=none)(b:own (d,ao)=[d])(f:∀h,ao≠ .fixed h)(e:OR I d ao)
(g:Q (.ref d) ((d,ao)::S)):e4 s S Q (.ref d) {s with heap:=I,toks:=tk}:=⟨.ref d,_,.ref d,c.add ext a b f e,aq.add [] ext a b,g⟩
theorem hv:s.heap.get? s.heap.objs.size=none:=NW (Ni _)
section
variable{S:aa}
theorem ao.size(a:ao I Jc.toList z):Jc.size=z.length:=by rewrite[<-a.length,NI];rfl
noncomputable abbrev e3(a:Around)(s:Shared)(S:aa)(M:GG->aa->Prop)(G:Value)(b:List Value):Prop:=wpAny (model prog w) a (call G b) (e4 s S M) a4 s
theorem GN.GS(e:∀a s b,aw a q->LR S s.heap->VR s.heap b i->e3 a s S M G [b]):GN q G [i] S M:=fun a s h g d f=>by
 refine ah f.one fun b c=>?_;obtain rfl:=c.1;exact e a s b g d c.2
theorem GN.G0(f:∀a s b c,aw a q->LR S s.heap->VR s.heap b i->VR s.heap c Jn->e3 a s S M G [b,c]):GN q G [i,Jn] S M:=fun a s j h e g=>by
 refine bB g.two fun b c d=>?_;obtain rfl:=d.1;exact f a s b c h e d.2 d.3
theorem GN.Hd(c:∀a s,aw a q->LR S s.heap->e3 a s S M G [.ref d]):GN q G [.ref d] S M:=GN.GS fun a s g f b e=>e.dr▸c a s f b
theorem GN.HK(c:∀a s,aw a q->LR S s.heap->e3 a s S M G [.bool Jh]):GN q G [.bool Jh] S M:=GN.GS fun a s f e b d=>d.jA▸c a s e b
theorem GN.HU(d:∀a s b,aw a q->LR S s.heap->e3 a s S M G [.int k b]):GN q G [.int k] S M:=GN.GS fun a s g f c e=>by obtain⟨b,rfl⟩:=e.gh;exact d a s b f c
theorem GN.s1(d:∀a s b,aw a q->LR S s.heap->e3 a s S M G [.str h b]):GN q G [.str h] S M:=GN.GS fun a s g f c e=>by obtain⟨b,rfl⟩:=e.atS;exact d a s b f c
theorem GN.t1(f:∀a s b c,aw a q->LR S s.heap->IsTup s.heap b c->ao s.heap c.toList z->e3 a s S M G [.ref b]):GN q G [.tup z] S M:=GN.GS fun a s i h e g=>by refine bB g.atT fun b c d=>?_;obtain rfl:=d.1;exact f a s b c h e d.2 d.3
theorem GN.HY(e:∀a s b c,aw a q->LR S s.heap->e3 a s S M G [.int k b,.int IY c]):GN q G [.int k,.int IY] S M:=GN.G0 fun a s i j h d f g=>by obtain⟨b,rfl⟩:=f.gh;obtain⟨c,rfl⟩:=g.gh;exact e a s b c h d
theorem GN.H9(e:∀a s b,aw a q->LR S s.heap->VR s.heap b i->e3 a s S M G [.ref d,b]):GN q G [.ref d,i] S M:=GN.G0 fun a s j b h c f g=>f.dr▸e a s b h c g
theorem GN.Hg(c:∀a s,aw a q->LR S s.heap->e3 a s S M G [.ref d,.ref H]):GN q G [.ref d,.ref H] S M:=GN.H9 fun a s g f b e=>e.dr▸c a s f b
end
theorem zB(f:z.length<=sizeLine)(d:M (.int z.length) S):GN q (.builtin "len") [.tup z] S M:=by
 refine GN.t1 fun e s h i g b c a=>?_;exact len_tuple c (by rw[a.size];have:=Nl;omega) (dS b _ (by rw[a.size];exact .int _ _) d)
theorem gn(c:cf S d z)(h:z.length<=sizeLine)(f:M (.int z.length) S):GN q (.builtin "len") [.ref d] S M:=by
 refine GN.Hd fun g s i a=>?_;obtain⟨j,e,b⟩:=a.listAt c;exact call_len_list e (by rw[b.size];have:=Nl;omega) (dS a _ (by rw[b.size];exact .int _ _) f)
theorem iH{ks:List (ae×GG)}(g:∃e,base.get? sysModules=some e)(c:(d,GL.dict v ks)∈S)(i:ks.length<=sizeLine)(f:M (.int ks.length) S):GN q (.builtin "len") [.ref d] S M:=by
 refine GN.Hd fun h s k a=>?_;refine ah (a.dict c) fun j b=>?_;exact call_len_dict (a.noSys g (ct c (Nz))) b.1.dictOf (by rw[b.2.length];have:=Nl;omega) (dS a _ (by rw[b.2.length];exact .int _ _) f)
theorem zE(d:M (.int (min k IY)) S):GN q (.builtin "min") [.int k,.int IY] S M:=by
 refine GN.HY fun f s h i e b=>?_;refine min_two_ints e.GR fun g j c=>iF b c ?_ d;by_cases a:IY<k
 ·rw[if_pos a,Int.min_eq_right (Qh a)];exact .int _ _
 ·rw[if_neg a,QN (Pw.mp a)];exact .int _ _
theorem zD(d:M (.int (max k IY)) S):GN q (.builtin "max") [.int k,.int IY] S M:=by
 refine GN.HY fun f s h i e b=>?_;refine max_two_ints e.GR fun g j c=>iF b c ?_ d;by_cases a:IY>k
 ·rw[if_pos a,Int.max_eq_right (Qh a)];exact .int _ _
 ·rw[if_neg a,Ru (Pw.mp a)];exact .int _ _
theorem pY(b:M (.int (if k<0 then-k else k)) S):GN q (.builtin "abs") [.int k] S M:=by
 refine GN.HU fun e s g f a=>?_;exact call_abs_int fun d c=>dS a c (.int _ d) b
theorem zp(b:M (.int (if Jh then 1 else 0)) S):GN q (.type "int") [.bool Jh] S M:=by
 refine GN.HK fun c s d a=>?_;exact call_int_bool (dS a _ (.int _ _) b)
theorem zX(b:M (.str h) S):GN q (.type "str") [.str h] S M:=by
 refine GN.s1 fun c s e d a=>?_;exact P.str_of_str (mi a (.str _ _) b)
theorem rl(b:k.natAbs.log2<1920)(c:M (.str (Str.ofString (toString k))) S):GN q (.type "str") [.int k] S M:=by
 refine GN.HU fun d s f e a=>?_;exact P.str_of_int b (dS a _ (.str _ _) c)
theorem zK(c:M (.c4 0 k 1) S):GN q (.type "range") [.int k] S M:=by
 refine GN.HU fun d s g f a=>?_;exact call_range_1 (iF a (fun k e b=>Nr _ b) (.c4 (Ny _ rfl)) c)
theorem mm(j:z.length<=sizeLine)(l:∀a,M (.ref a) ((a,.list z)::S)):GN q (.type "list") [.tup z] S M:=by
 refine GN.t1 fun o s m n u d k b=>?_;obtain⟨t,i,g,r,h⟩:=k;refine call_list_seq m (.inr rfl) i g h (fun p e c f=>?_) (mf (Nd b.size) j);exact gk (Q:=M) (ao:=.list z) (tk:=s.toks) d c hv rfl ed ⟨n,⟨e,f⟩,b.mono (eO c)⟩ (l _)
theorem ml(j:cf S d z)(l:z.length<=sizeLine)(m:∀b,M (.ref b) ((b,.list z)::S)):GN q (.type "list") [.ref d] S M:=by
 refine GN.Hd fun o s u a=>?_;obtain⟨n,⟨t,k,h,r,i⟩,c⟩:=a.listAt j;refine call_list_seq d (.inl rfl) k h i (fun p f e g=>?_) (mf (Nd c.size) l);exact gk (Q:=M) (ao:=.list z) (tk:=s.toks) a e hv rfl ed ⟨n,⟨f,g⟩,c.mono (eO e)⟩ (m _)
theorem iJ(h:cf S d z)(i:z.length<=sizeLine)(l:M (.tup z) S):GN q (.type "tuple") [.ref d] S M:=by
 refine GN.Hd fun m s n b=>?_;refine ah (b.listAt h) fun vs a=>?_;refine call_tuple_list a.1 (fun g j=>?_) (mf (Nd a.2.size) i);have c:aV s.heap (g.push {cls:=Value.type "tuple",data:=Data.seq vs}):=fun e k f=>Nr _ (j e k f);exact iF (tk:=s.toks) b c (.tup (vs:=vs) ⟨_,Ny _ rfl,rfl,_,rfl⟩ (a.2.mono (eO c))) l
theorem tv(n:Hk I J2 I8)(k:Jc.size=J2.length)(h:∀(b:Nat)(a:Value),Jc[b]? =some a->∃e i,J2[b]? =some (e,i)/\(aX).is e a=true):
  ao JR Jc.toList (I8.map fun d=>d.1.GP):=by
 have j:∀(f:List Value)(J2:List (ae×Value)),f.length=J2.length->(∀(b:Nat)(a:Value),f[b]? =some a->∃e i,J2[b]? =some (e,i)/\(aX).is e a=true)->ao JR f (J2.map fun d=>d.1.GP):=by
  intro f;induction f with
  |nil=>intro J2 g _;cases J2 with
   |nil=>exact .nil
   |cons=>simp at g
  |cons a f m=>intro J2 g h;cases J2 with
   |nil=>simp at g
   |cons d J2=>
    obtain⟨e,i,c,l⟩:=h 0 a rfl;simp at c;subst c;exact .cons (ae.l3 l) (m J2 (by simpa using g) fun b a c=>by simpa using h (b+1) a (c))
 have:=j Jc.toList J2 (by rw[NI];exact k) (fun b a c=>h b a (by simpa using c));have c:(J2.map fun d=>d.1.GP)=I8.map fun d=>d.1.GP:=by
  have:=congrArg (List.map ae.GP) n.keys;simpa[Nf,PR]using this
 rw[<-c];exact this
theorem fd{ks:List (ae×GG)}(r:∃m,base.get? sysModules=some m)(g:(d,GL.dict v ks)∈S)(k:ks.length<=sizeLine)(o:∀e,M (.ref e) ((e,.list (ks.map fun b=>b.1.GP))::S)):
  GN q (.type "list") [.ref d] S M:=by
 refine GN.Hd fun t s p a=>?_;refine ah (a.dict g) fun n c=>?_;refine kdl_call (kdl_dict (knd:=aX) (kvs:=n) (ep:=v) (a.noSys r (ct g (Nz)))) p.GR c.1 (by rw[c.2.length];exact k) fun u x h i l j f=>?_;exact gk (Q:=M) (ao:=.list (ks.map fun b=>b.1.GP)) a l hv rfl ed ⟨h,⟨i,j⟩,tv c.2 f.1 f.2⟩ (o _)
theorem jG(r:∃c,base.get? sysModules=some c)(h:(d,GL.dict v I8)∈S)(o:I8.length<=sizeLine)(p:∀f a,M (.ref f) ((f,.dict a I8)::S)):
  GN q (.type "dict") [.ref d] S M:=by
 refine GN.Hd fun t s x b=>?_;refine ah (b.dict h) fun u e=>?_;refine kt_call_dict (knd:=aX) (b.noSys r (ct h (Nz))) e.1.dictOf (by rw[e.2.length];exact o) fun k l n=>?_;have i:aV s.heap k:=fun j c g=>n.extBut j c (NH (NE g)) (Nr _ g);obtain⟨a,m⟩:=gE l (e.2.mono (eO i));exact gk (Q:=M) (ao:=.dict a I8) (tk:=s.toks) b i hv rfl gp m (p _ a)
theorem pZ{F:GL->aa}(e:bk d (.list z) S F)(n:z.length<=sizeLine)(p:M .none (F (.list (z++[i])))):GN q (.builtin "list.append") [.ref d,i] S M:=by
 refine GN.H9 fun r s u t a k=>?_;refine ah (a.objs _ e.mem) fun v f=>?_;refine Rk f.1 (fun j o m=>?_) (mf (Nd f.2.size) n);have same:∀b c,b≠d->s.heap.get? b=some c->j.get? b=some c:=fun b c l h=>(m.2 b l).trans h;have g:=fv a (e (.list (z++[i]))) (b:=d) (Nz) same;exact ht (tk:=s.toks) a (e (.list (z++[i]))) (b:=d) (Nz) same rfl ed ⟨_,o,by rw[Qe];exact(f.2.mono g).append (.cons (k.mono g) .nil)⟩ .none p
theorem mh{F:GL->aa}(i:bk d (.list z) S F)(r:(H,GL.list Jm)∈S)(l:z.length+Jm.length<2^20)(A:M .none (F (.list (z++Jm)))):
  GN q (.builtin "list.extend") [.ref d,.ref H] S M:=by
 have p:=i.mem;refine GN.Hg fun B s C e=>?_;refine dN (e.plain p) fun f u c=>?_;refine dN (e.plain r) fun a v k=>?_;have x:f.size=z.length:=c.2.size;have y:a.size=Jm.length:=k.2.size;have t:=Nl;have g:f.size+a.size<=sizeLine:=by exact mf (aj (No (mf (Nd x) (mf (Nv _ _) (Nh l))) (mf (Nd y) (mf (N3 _ _) (Nh l)))) rfl) (Nd t.symm)
 refine Qi SE ⟨_,c.1,rfl⟩ PySem.F.entry_list_extend (PySem.F.args_list_extend_2 _ _) (AutoSeq1.list_extend_list_list_0 d f u H a v (extend_door g) (mf (mf (Ni _) (Nv _ _)) g) (mf g (Nv _ _))) ⟨c.1,k.1,?_⟩;have same:∀b h,b≠d->s.heap.get? b=some h->(s.heap.update d (Obj.mapSeq fun j=>j++a)).get? b=some h:=fun b h o n=>(Qj _ _ (NZ o)).trans n;have m:=fv e (i (.list (z++Jm))) (b:=d) (Nz) same;exact ht (tk:=s.toks) e (i (.list (z++Jm))) (b:=d) (Nz) same rfl ed ⟨f++a,⟨_,c.1.update fun j=>j++a⟩,by rw[QI];exact(c.2.mono m).append (k.2.mono m)⟩ .none A
end
section
variable{S:aa}
noncomputable def cJ(e:GU)(f:GG)(i:Str)(t:ab)(S:aa)(g:Value)(h:List GG):Prop:=
 ∀(p:Shared)(b:Value)(j:Sem Bool)(a:Value×List Value->Shared->Prop)(d:Value->Shared->Prop),SR e t S p->VR p.heap b f->(∀c,ao p.heap c h->a (g,c) p)->wpAny (model prog w) e.A (getMethod b i j) a d p
theorem xB{A:Sem Bool}(C:aw e.A q)
(r:GK e (eval o e.env) VR t S fun j i c=>∃a b,cJ e j h i c a b/\cH a/\GK e (spliced (backTo I9 (starEach (X::IS) e.env))) ao i c fun n J l=>GN q a (b++n) l fun d m=>B d J m)
(u:autoParam (eval (.Call (.Attribute o h N) (X::IS) [] I9) e.env=(do
 let k<-eval o e.env
 standAt N.atName
 let(a,first)<-holding [k] (getMethod k h A)
 callWith I9 a first (backTo I9 (starEach (X::IS) e.env)) (backToKw I9 (keywordEach [] e.env)))) aP)
(s:autoParam (starEach (X::IS) e.env=(false,eval X e.env)::starEach IS e.env) aP)(v:autoParam ((backTo I9 (starEach IS e.env)).any (fun x=>x.1)=false) aP):
  GK e (eval (.Call (.Attribute o h N) (X::IS) [] I9) e.env) VR t S B:=fun p d=>by
 rw[u];refine M9 (r.run d fun E j i c D x f H I=>?_);refine bB I fun a b g=>?_;refine M9 (OT (M9 (N1 (g.1 D E _ _ _ f x fun G y=>?_))));exact NB (pK (fs:=G) (fa:=b) C g.2 f y g.3 s v) (fun w w z=>z.trans H f) bK
theorem xC{v:Sem Bool}(x:aw e.A q)
(m:GK e (eval o e.env) VR t S fun j i c=>∃a b,cJ e j h i c a b/\cH a/\GN q a (b++[]) c fun d l=>B d i l)
(n:autoParam (eval (.Call (.Attribute o h N) [] [] I9) e.env=(do
   let k<-eval o e.env
   standAt N.atName
   let(a,first)<-holding [k] (getMethod k h v)
   callWith I9 a first (backTo I9 (starEach [] e.env)) (backToKw I9 (keywordEach [] e.env)))) aP):
  GK e (eval (.Call (.Attribute o h N) [] [] I9) e.env) VR t S B:=fun p d=>by
 rw[n];refine M9 (m.run d fun z j i c y r f C D=>?_);refine bB D fun a b g=>?_;refine M9 (OT (M9 (N1 (g.1 y z _ _ _ f r fun A s=>?_))));exact NB (yO (fs:=A) (fa:=b) x g.2 f s g.3) (fun w w u=>u.trans C f) bK
theorem ny{id:String}(j:Slot "list" h id)(k:typeOf (.builtin id)=pure (.type "method_descriptor"))(c:(d,GL.list z)∈S):cJ e (.ref d) h t S (.builtin id) [.ref d]:=by
 intro p r q m l i f g;cases f;refine dN (i.led.plain c) fun s o a=>?_;exact Rx ⟨_,a.1,rfl⟩ PySem.F.plainAttrs_list j k (fun n b=>by cases b;exact⟨_,a.1,rfl⟩) (g _ (.cons (.ref d) .nil))
theorem nw{id:String}(i:Slot "dict" h id)(j:typeOf (.builtin id)=pure (.type "method_descriptor"))(b:(d,GL.dict q I8)∈S):cJ e (.ref d) h t S (.builtin id) [.ref d]:=by
 intro p n m l k g c f;cases c;refine ah (g.led.dict b) fun o a=>?_;exact Rx a.1.dictOf.typeIs SF i j a.1.dictOf.mapOf.noDict (f _ (.cons (.ref d) .nil))
theorem un{l:Addr}{xs:List GG}(a:(l,GL.list xs)∈S):cJ e (.ref l) "append" t S (.builtin "list.append") [.ref l]:=ny PySem.F.slot_list_append PySem.F.type_list_append a
theorem Gs(a:(d,GL.list z)∈S):cJ e (.ref d) "extend" t S (.builtin "list.extend") [.ref d]:=ny SE PySem.F.type_list_extend a
theorem Gv{xs:List GG}(a:(d,GL.list xs)∈S):cJ e (.ref d) "pop" t S (.builtin "list.pop") [.ref d]:=ny SG PySem.F.type_list_pop a
theorem nx(a:(d,GL.dict q I8)∈S):cJ e (.ref d) "get" t S (.builtin "dict.get") [.ref d]:=nw Sz PySem.F.type_dict_get a
theorem hU(a:(d,GL.dict q I8)∈S):cJ e (.ref d) "pop" t S (.builtin "dict.pop") [.ref d]:=nw Rv PySem.F.type_dict_pop a
theorem Gy(a:(d,GL.dict q I8)∈S):cJ e (.ref d) "setdefault" t S (.builtin "dict.setdefault") [.ref d]:=nw PS SH a
theorem Gu:cJ e (.str h) "join" t S (.builtin "str.join") [.str h]:=by
 intro p i f d c g a b;cases a;refine GM.join ?_;exact b _ (.cons (.str _ _) .nil)
theorem dw{id:String}:cH (.builtin id):=kq (by intro b a;cases a)
theorem EV{id:String}:cH (.type id):=kq (by intro b a;cases a)
end
theorem BX{c d:D->Option I1}{a:List D}(e:∀b∈a,c b=d b):a.filterMap c=a.filterMap d:=by
 induction a with
 |nil=>rfl
 |cons b a g=>rw[Qk,Qk,e b (.head _),g fun h f=>e h (.tail _ f)]
theorem ap0{us:List Value}(c:us.length=l.length)(f:l.Nodup):l.filterMap (fun a=>((l.zip us).lookup a).map (a,·))=l.zip us/\∀a∈l,((l.zip us).lookup a).isNone=false:=by
 induction l generalizing us with
 |nil=>cases us with
  |nil=>exact⟨rfl,bs⟩
  |cons=>simp at c
 |cons d l h=>
  cases us with
  |nil=>simp at c
  |cons j us=>
   refine aW (h (us:=us) (by simpa using c) (ND.mp f).2) fun g=>?_;have e:∀a∈l,((d,j)::l.zip us).lookup a=(l.zip us).lookup a:=fun a b=>by
    have:(a==d)=false:=by
     cases i:a==d with
     |false=>rfl
     |true=>exact absurd (eq_of_beq i▸b) (ND.mp f).1
    simp[NF,this]
   refine⟨?_,fun a b=>?_⟩
   ·rw[Ry,Qk];simp only[NF,beq_self_eq_true,QA];rw[SI];refine⟨rfl,?_⟩;refine Eq.trans (BX fun a b=>?_) g.1;have:=e a b;simp only[NF]at this;rw[this]
   ·rcases Nk.mp b with rfl|b
    ·simp[NF]
    ·rw[Ry,e a b];exact g.2 a b
theorem ym{c:FuncData}{a:List Arg}(j:c.params={posonlyargs:=[],args:=a,vararg:=none,kwonlyargs:=[],kw_defaults:=[],kwarg:=none,defaults:=[]})(g:c.defaults=.none)
(h:Ja.length=a.length)(k:(a.map (·.arg)).Nodup):bindArgs c ⟨Ja,[]⟩=pure ((a.map (·.arg)).zip Ja):=by
 have e:Ja.length=(a.map (·.arg)).length:=h.trans (Nb ..).symm;refine aW (ap0 e k) fun f=>?_;unfold bindArgs;rw[j,g];refine(?_:(if(decide (Ja.length>(a.map (·.arg)).length)&&true)=true then _ else _)=_);refine cv (if_neg (by rw[e,decide_eq_false (O9 _)];exact Oe)) ?_;refine(?_:(if(!(((a.map (·.arg)).take ((a.map (·.arg)).length-(List.drop (0-(a.map (·.arg)).length) ([]:List Value)).length)).filter fun b=>(((a.map (·.arg)).zip Ja).lookup b).isNone).isEmpty)=true then _ else _)=_);refine cv (if_neg fun d=>?_) ?_
 ·rw[OA.mpr fun b i=>by rw[f.2 b (Rz i)];exact Oe]at d;exact Bool.noConfusion d
 refine(?_:(forIn (m:=Sem) (β:=List (Str×Value)) (List.zip (_:List Str) (List.drop (0-(a.map (·.arg)).length) ([]:List Value))) _ _>>=_)=_);rw[List.drop_nil,List.zip_nil_right];refine(?_:(pure:List (Str×Value)->Sem (List (Str×Value))) (List.filterMap (fun b=>(((a.map (·.arg)).zip Ja).lookup b).map (b,·)) ((a.map (·.arg))++[]))=_);rw[NU,f.1]
noncomputable def aY(a:Arguments)(d:Scope)(b c e f:List Str):Bool:=
 decide (a.args.map (·.arg)=b)&&a.posonlyargs.isEmpty&&a.vararg.isNone&&a.kwonlyargs.isEmpty&&a.kw_defaults.isEmpty&&a.kwarg.isNone&&a.defaults.isEmpty&&h6 d.names (b++c) (b++c) e f&&
  decide ((cellsFrom 0 d.names []).map (fun x=>x.1)).Nodup
section
variable{S:aa}
noncomputable abbrev od(R:Result->Shared->Prop):Flow->Shared->Prop:=fun a b=>R (.ok (.ret (match a with|.ret c=>c|_=>.none))) b
noncomputable abbrev nj(b:GU)(R:Result->Shared->Prop):Value->Shared->Prop:=fun c e=>wpAny (model prog w) b.A (leaving b.env c) (fun x a=>R (.error c) a) (fun d a=>R (.error d) a) e
noncomputable abbrev lM(c:Around)(b:Shared)(S:aa)(a:GU)(e:Shared):Prop:=a.A=c.deeper a.env/\a.env.frame=some a.env.locals/\aq (bU a) b S e S/\∀d∈d4 a,b.heap.get? d=none
theorem pU{i:Obj}{a:FuncData}{R:Result->Shared->Prop}(I:St)
(X:base.get? d=some i)(U:i.data=.func a)(e:a.body=.stmts I2)(O:a.closure=[])(C:a.globals=mainGlobals)(B:a.builtins=builtinsNs)(N:base.CodeRec a.code a.qualname)
(M:BindsTo p a ⟨Ja,[]⟩ (l.zip Ja))(A:h6 a.scope.names (l++Jb) (l++Jb) Jz J7=true)(KT:((cellsFrom 0 a.scope.names []).map (fun x=>x.1)).Nodup)(f:l.length=z.length)
(G:aw Q (q+1))(j:LR S p.heap)(Y:ao p.heap Ja z)
(L:∀(h:GU)(s:Shared),lM Q p S h s->G9 h (l++Jb) (l++Jb) Jz J7->aw h.A q->SR h (an (l++Jb) (z.map some++Jb.map fun _=>none)) S s->wpAny (model prog w) h.A (execs I2 h.env) (od R) (nj h R) s)
(T:a.scope.isCoroutine=false)(V:a.scope.isGenerator=false)(y:a.scope.kind=.function):codeAny (model prog w) Q (.call (.ref d) ⟨Ja,[]⟩) R p:=by
 refine pT (fd:=a) G.lt (j.keep _ _ X) U (I.lim.keeps j.keep) (N.keeps j.keep) e M O (fun g Z=>?_) (fun s m=>?_) T V y
 ·exact((Bool.or_eq_true_iff.mp ((O8.mp (O2.mp (O2.mp (O2.mp (O2.mp A).1).1).1).2) g.1 (NG _ (List.of_mem_zip Z).1))).imp eq_of_beq eq_of_beq).imp id fun b=>⟨b,i2 (pM _ _ _ (.inr (bI b)))⟩
 refine dN m.done fun KS H u=>?_;obtain rfl:=u.1;have D:∀n∈(cellsFrom (p.heap.objs.size+1) a.scope.names []).map (fun x=>x.2),p.heap.objs.size<n:=fun n o=>by
  obtain⟨⟨q,v⟩,r,rfl⟩:=Na.mp o;exact m.above q v r
 have x:∀c∈d4 ⟨Q.deeper (callEnvC a p.heap.objs.size d),callEnvC a p.heap.objs.size d,true⟩,p.heap.get? c=none:=fun c e=>by
  rcases Nk.mp e with rfl|e
  ·exact NW (Ni _)
  ·exact NW (Nq (D c e))
 have E:=yn (k:=(callEnvC a p.heap.objs.size d).kindOf) l Ja z (fun _=>none) (fun _=>none) g6 (Y.mono (fun J i b _=>u.2 J i b)) (fun g t b=>by cases b);refine L _ _ ⟨rfl,rfl,aq.ext _ (tk:=H) u.2,x⟩ (sY ⟨y,C,B⟩ A:G9 ⟨Q.deeper (callEnvC a p.heap.objs.size d),callEnvC a p.heap.objs.size d,true⟩ (l++Jb) (l++Jb) Jz J7) G.deeper ?_;refine FR l Jb z (sY ⟨y,C,B⟩ A:G9 ⟨Q.deeper (callEnvC a p.heap.objs.size d),callEnvC a p.heap.objs.size d,true⟩ (l++Jb) (l++Jb) Jz J7).GO f▸(?_:SR _ (hR l z g6) S {p with heap:=KS,toks:=H});refine⟨(j.fm (P:=[]) (fun c i b _=>u.2 c i b) bs bs),⟨_,m.toInCall.ns,fun g t b f=>(E g t b).1 f⟩,fun g n o=>⟨_,m.cell g n o,fun t b f=>(E g t b).2 ?_⟩,fun n o=>?_,m.apart,fun r=>O9 _ (D _ r),fun c e=>?_⟩
 ·rcases f with f|f<;>(rw[f];exact nofun)
 ·obtain⟨⟨q,v⟩,r,rfl⟩:=Na.mp o;exact⟨_,m.cell q v (lookup_of_mem_nodup (cellsFrom_names a.scope.names 0 (p.heap.objs.size+1) [] [] rfl▸KT) r)⟩
 ·refine⟨?_,fun KU=>?_⟩
  ·cases KV:base.get? c with
   |none=>rfl
   |some i=>exact nomatch(j.keep _ _ KV).symm.trans (x c e)
  ·refine ah (j.c3 KU) fun g KW=>?_;exact nomatch KW.1.symm.trans (x c e)
theorem aec(a:aY Kh KR l Jb Jz J7=true):
  Kh={posonlyargs:=[],args:=Kh.args,vararg:=none,kwonlyargs:=[],kw_defaults:=[],kwarg:=none,defaults:=[]}/\Kh.args.map (·.arg)=l/\h6 KR.names (l++Jb) (l++Jb) Jz J7=true/\((cellsFrom 0 KR.names []).map (fun x=>x.1)).Nodup:=by
 obtain⟨k,m,n,o,p,q,r⟩:=Kh;simp only[aY,Ox,decide_eq_true_eq,List.isEmpty_iff,Option.isNone_iff_eq_none]at a;refine aW a fun b=>?_;obtain⟨⟨⟨⟨⟨⟨⟨c,d⟩,e⟩,f⟩,g⟩,h⟩,i⟩,j⟩:=b.1;exact⟨by rw[d,e,f,g,h,i],c,j,b.2⟩
theorem l8{R:Result->Shared->Prop}(j:St)
(k:a7 d h I5 Kh I2 KR)(v:aY Kh KR l Jb Jz J7=true)(e:l.length=z.length)(x:aw Q (q+1))(i:LR S p.heap)(f:ao p.heap Ja z)
(m:∀(a:GU)(b:Shared),lM Q p S a b->G9 a (l++Jb) (l++Jb) Jz J7->aw a.A q->SR a (an (l++Jb) (z.map some++Jb.map fun D=>none)) S b->wpAny (model prog w) a.A (execs I2 a.env) (od R) (nj a R) b)
(n:autoParam (KR.isCoroutine=false) aP)(o:autoParam (KR.isGenerator=false) aP)(r:autoParam (KR.kind=.function) aP):codeAny (model prog w) Q (.call (.ref d) ⟨Ja,[]⟩) R p:=by
 refine anj k.ex fun A B y doc c=>?_;obtain⟨s,t,g,u⟩:=aec v;refine pU j c.1 c.2 rfl rfl rfl rfl c.3 (BindsTo.of_eq ?_) g u e x i f m n o r;subst t;exact ym s rfl (by rw[f.length,<-e,Nb]) (NK.mp (of_decide_eq_true (O2.mp (O2.mp (O2.mp (O2.mp (O2.mp g).1).1).1).1).1:(Kh.args.map (·.arg)++Jb).Nodup)).1
noncomputable abbrev mc(c:Shared)(S:aa)(a:GG->aa->Prop):Result->Shared->Prop:=fun b d=>match b with|.ok (.ret e)=>e4 c S a e d|.ok _=>False|.error _=>False
noncomputable def io(g:Nat)(f:Value)(e:List GG)(S:aa)(d:GG->aa->Prop):Prop:=
 ∀(b:Around)(a:Shared)(c:List Value),aw b g->LR S a.heap->ao a.heap c e->codeAny (model prog w) b (.call f ⟨c,[]⟩) (mc a S d) a
theorem io.IG(d:io q G z S M):GN q G z S M:=fun b g h f c i=>Pb (Pc (d b g h f c i) fun e k a=>by
 cases e with
 |error j=>exact a.elim
 |ok G=>cases G<;>exact a)
noncomputable abbrev sK(b:GG->aa->Prop):G4->ab->aa->Prop:=fun d x c=>∃a,Le a c/\match d with|.ret e=>b e a|.next=>b .none a
theorem pH(d:lM Q p S e JK)(g:SR e t S JK)(i:GK e (execs I2 e.env) GW t S (sK M)):wpAny (model prog w) e.A (execs I2 e.env) (od (mc p S M)) (nj e (mc p S M)) JK:=
 i.run g fun r c s q l m h n o=>by
  obtain⟨a,b,f⟩:=o;have st:aq [] p S l a:=((d.2.2.1.trans n g.alive).wide fun c j=>.inr (d.2.2.2 c (h5 j))).le b;cases m with
  |next=>exact⟨.none,a,.none,h.led.le b,st,f⟩
  |ret k=>exact⟨_,a,k,h.led.le b,st,f⟩
theorem zo(e:St)
(f:a7 d h I5 Kh I2 KR)(p:aY Kh KR l Jb Jz J7=true)(n:l.length=z.length)
(i:∀a:GU,G9 a (l++Jb) (l++Jb) Jz J7->aw a.A q->GK a (execs I2 a.env) GW (an (l++Jb) (z.map some++Jb.map fun y=>none)) S (sK M))
(j:autoParam (KR.isCoroutine=false) aP)(k:autoParam (KR.isGenerator=false) aP)(m:autoParam (KR.kind=.function) aP):GN (q+1) (.ref d) z S M:=
 io.IG fun t u x b c o=>l8 e f p n b c o (fun a v r g b s=>pH r s (i a g b)) j k m
end
section
theorem Pg.jW(P:Pg):a7 265 "kind_of" "kind_of" (az 13) (aT 13) (aA 13):=(P.fn 0 _ rfl).2
theorem Pg.CK(P:Pg):G2 "kind_of"=some (.ref 265):=(P.fn 0 _ rfl).1
theorem Pg.sn(P:Pg):a7 272 "told_plain" "told_plain" (az 14) (aT 14) (aA 14):=(P.fn 1 _ rfl).2
theorem Pg.Dn(P:Pg):G2 "told_plain"=some (.ref 272):=(P.fn 1 _ rfl).1
theorem Pg.iO(P:Pg):a7 277 "told" "told" (az 15) (aT 15) (aA 15):=(P.fn 2 _ rfl).2
theorem Pg.Dm(P:Pg):G2 "told"=some (.ref 277):=(P.fn 2 _ rfl).1
theorem Pg.jM(P:Pg):a7 282 "copied" "copied" (az 17) (aT 17) (aA 17):=(P.fn 3 _ rfl).2
theorem Pg.Cv(P:Pg):G2 "copied"=some (.ref 282):=(P.fn 3 _ rfl).1
theorem Pg.sk(P:Pg):a7 377 "shelf_copied" "shelf_copied" (az 20) (aT 20) (aA 20):=(P.fn 4 _ rfl).2
theorem Pg.Dh(P:Pg):G2 "shelf_copied"=some (.ref 377):=(P.fn 4 _ rfl).1
theorem Pg.j1(P:Pg):a7 382 "value_of" "value_of" (az 23) (aT 23) (aA 23):=(P.fn 5 _ rfl).2
theorem Pg.Dq(P:Pg):G2 "value_of"=some (.ref 382):=(P.fn 5 _ rfl).1
theorem Pg.rK(P:Pg):a7 389 "dict_of" "dict_of" (az 24) (aT 24) (aA 24):=(P.fn 6 _ rfl).2
theorem Pg.Cy(P:Pg):G2 "dict_of"=some (.ref 389):=(P.fn 6 _ rfl).1
theorem Pg.rH(P:Pg):a7 401 "common_rows" "common_rows" (az 26) (aT 26) (aA 26):=(P.fn 7 _ rfl).2
theorem Pg.Cu(P:Pg):G2 "common_rows"=some (.ref 401):=(P.fn 7 _ rfl).1
theorem Pg.rZ(P:Pg):a7 406 "kept_pairs" "kept_pairs" (az 27) (aT 27) (aA 27):=(P.fn 8 _ rfl).2
theorem Pg.CI(P:Pg):G2 "kept_pairs"=some (.ref 406):=(P.fn 8 _ rfl).1
theorem Pg.ru(P:Pg):a7 413 "array_rows" "array_rows" (az 28) (aT 28) (aA 28):=(P.fn 9 _ rfl).2
theorem Pg.Cs(P:Pg):G2 "array_rows"=some (.ref 413):=(P.fn 9 _ rfl).1
theorem Pg.rL(P:Pg):a7 418 "dict_rows" "dict_rows" (az 29) (aT 29) (aA 29):=(P.fn 10 _ rfl).2
theorem Pg.Cz(P:Pg):G2 "dict_rows"=some (.ref 418):=(P.fn 10 _ rfl).1
theorem Pg.se(P:Pg):a7 425 "pairs_of" "pairs_of" (az 30) (aT 30) (aA 30):=(P.fn 11 _ rfl).2
theorem Pg.CZ(P:Pg):G2 "pairs_of"=some (.ref 425):=(P.fn 11 _ rfl).1
theorem Pg.jX(P:Pg):a7 432 "shape_rows" "shape_rows" (az 31) (aT 31) (aA 31):=(P.fn 12 _ rfl).2
theorem Pg.Dg(P:Pg):G2 "shape_rows"=some (.ref 432):=(P.fn 12 _ rfl).1
theorem Pg.sd(P:Pg):a7 439 "object_rows" "object_rows" (az 32) (aT 32) (aA 32):=(P.fn 13 _ rfl).2
theorem Pg.CY(P:Pg):G2 "object_rows"=some (.ref 439):=(P.fn 13 _ rfl).1
theorem Pg.rN(P:Pg):a7 444 "differences" "differences" (az 33) (aT 33) (aA 33):=(P.fn 14 _ rfl).2
theorem Pg.CB(P:Pg):G2 "differences"=some (.ref 444):=(P.fn 14 _ rfl).1
theorem Pg.sb(P:Pg):a7 451 "need" "need" (az 34) (aT 34) (aA 34):=(P.fn 15 _ rfl).2
theorem Pg.CU(P:Pg):G2 "need"=some (.ref 451):=(P.fn 15 _ rfl).1
theorem Pg.rU(P:Pg):a7 458 "grouped" "grouped" (az 35) (aT 35) (aA 35):=(P.fn 16 _ rfl).2
theorem Pg.CG(P:Pg):G2 "grouped"=some (.ref 458):=(P.fn 16 _ rfl).1
theorem Pg.sm(P:Pg):a7 463 "single" "single" (az 36) (aT 36) (aA 36):=(P.fn 17 _ rfl).2
theorem Pg.Dl(P:Pg):G2 "single"=some (.ref 463):=(P.fn 17 _ rfl).1
theorem Pg.iM(P:Pg):a7 470 "shape_applied" "shape_applied" (az 37) (aT 37) (aA 37):=(P.fn 18 _ rfl).2
theorem Pg.Df(P:Pg):G2 "shape_applied"=some (.ref 470):=(P.fn 18 _ rfl).1
theorem Pg.rM(P:Pg):a7 475 "dict_shape" "dict_shape" (az 38) (aT 38) (aA 38):=(P.fn 19 _ rfl).2
theorem Pg.CA(P:Pg):G2 "dict_shape"=some (.ref 475):=(P.fn 19 _ rfl).1
theorem Pg.rJ(P:Pg):a7 482 "dict_applied" "dict_applied" (az 39) (aT 39) (aA 39):=(P.fn 20 _ rfl).2
theorem Pg.Cx(P:Pg):G2 "dict_applied"=some (.ref 482):=(P.fn 20 _ rfl).1
theorem Pg.rt(P:Pg):a7 489 "array_applied" "array_applied" (az 40) (aT 40) (aA 40):=(P.fn 21 _ rfl).2
theorem Pg.Cr(P:Pg):G2 "array_applied"=some (.ref 489):=(P.fn 21 _ rfl).1
theorem Pg.sc(P:Pg):a7 501 "object_applied" "object_applied" (az 42) (aT 42) (aA 42):=(P.fn 22 _ rfl).2
theorem Pg.CX(P:Pg):G2 "object_applied"=some (.ref 501):=(P.fn 22 _ rfl).1
theorem Pg.rr(P:Pg):a7 508 "applied" "applied" (az 43) (aT 43) (aA 43):=(P.fn 23 _ rfl).2
theorem Pg.Cq(P:Pg):G2 "applied"=some (.ref 508):=(P.fn 23 _ rfl).1
theorem Pg.si(P:Pg):a7 515 "put_object" "put_object" (az 44) (aT 44) (aA 44):=(P.fn 24 _ rfl).2
theorem Pg.C4(P:Pg):G2 "put_object"=some (.ref 515):=(P.fn 24 _ rfl).1
theorem Pg.jY(P:Pg):a7 520 "show_step" "show_step" (az 45) (aT 45) (aA 45):=(P.fn 25 _ rfl).2
theorem Pg.Dj(P:Pg):G2 "show_step"=some (.ref 520):=(P.fn 25 _ rfl).1
theorem Pg.mG(P:Pg):a7 525 "show_shape" "show_shape" (az 46) (aT 46) (aA 46):=(P.fn 26 _ rfl).2
theorem Pg.Di(P:Pg):G2 "show_shape"=some (.ref 525):=(P.fn 26 _ rfl).1
theorem Pg.sl(P:Pg):a7 530 "shown" "shown" (az 47) (aT 47) (aA 47):=(P.fn 27 _ rfl).2
theorem Pg.Dk(P:Pg):G2 "shown"=some (.ref 530):=(P.fn 27 _ rfl).1
theorem Pg.so(P:Pg):a7 537 "touched" "touched" (az 48) (aT 48) (aA 48):=(P.fn 28 _ rfl).2
theorem Pg.Dp(P:Pg):G2 "touched"=some (.ref 537):=(P.fn 28 _ rfl).1
theorem Pg.rG(P:Pg):a7 544 "clashes" "clashes" (az 49) (aT 49) (aA 49):=(P.fn 29 _ rfl).2
theorem Pg.Ct(P:Pg):G2 "clashes"=some (.ref 544):=(P.fn 29 _ rfl).1
theorem Pg.mE(P:Pg):a7 551 "joined" "joined" (az 50) (aT 50) (aA 50):=(P.fn 30 _ rfl).2
theorem Pg.CH(P:Pg):G2 "joined"=some (.ref 551):=(P.fn 30 _ rfl).1
theorem Pg.r6(P:Pg):a7 558 "_law_pen" "_law_pen" (az 52) (aT 52) (aA 52):=(P.fn 31 _ rfl).2
theorem Pg.CQ(P:Pg):G2 "_law_pen"=some (.ref 558):=(P.fn 31 _ rfl).1
theorem Pg.r4(P:Pg):a7 565 "_law_draw" "_law_draw" (az 53) (aT 53) (aA 53):=(P.fn 32 _ rfl).2
theorem Pg.CO(P:Pg):G2 "_law_draw"=some (.ref 565):=(P.fn 32 _ rfl).1
theorem Pg.r1(P:Pg):a7 570 "_law_base" "_law_base" (az 54) (aT 54) (aA 54):=(P.fn 33 _ rfl).2
theorem Pg.CL(P:Pg):G2 "_law_base"=some (.ref 570):=(P.fn 33 _ rfl).1
theorem Pg.r3(P:Pg):a7 577 "_law_draft" "_law_draft" (az 55) (aT 55) (aA 55):=(P.fn 34 _ rfl).2
theorem Pg.CN(P:Pg):G2 "_law_draft"=some (.ref 577):=(P.fn 34 _ rfl).1
theorem Pg.r8(P:Pg):a7 584 "_law_shelf" "_law_shelf" (az 56) (aT 56) (aA 56):=(P.fn 35 _ rfl).2
theorem Pg.CS(P:Pg):G2 "_law_shelf"=some (.ref 584):=(P.fn 35 _ rfl).1
theorem Pg.r7(P:Pg):a7 591 "_law_rows" "_law_rows" (az 57) (aT 57) (aA 57):=(P.fn 36 _ rfl).2
theorem Pg.CR(P:Pg):G2 "_law_rows"=some (.ref 591):=(P.fn 36 _ rfl).1
theorem Pg.r9(P:Pg):a7 596 "_law_shown_right" "_law_shown_right" (az 58) (aT 58) (aA 58):=(P.fn 37 _ rfl).2
theorem Pg.CT(P:Pg):G2 "_law_shown_right"=some (.ref 596):=(P.fn 37 _ rfl).1
theorem Pg.r2(P:Pg):a7 603 "_law_clashes" "_law_clashes" (az 59) (aT 59) (aA 59):=(P.fn 38 _ rfl).2
theorem Pg.CM(P:Pg):G2 "_law_clashes"=some (.ref 603):=(P.fn 38 _ rfl).1
theorem Pg.r5(P:Pg):a7 608 "_law_joined" "_law_joined" (az 60) (aT 60) (aA 60):=(P.fn 39 _ rfl).2
theorem Pg.CP(P:Pg):G2 "_law_joined"=some (.ref 608):=(P.fn 39 _ rfl).1
end
section
variable{K:List Str}{S:aa}
noncomputable def oj(e:GU)(b:List Stmt)(a:G4->ab->aa->Prop):G4->ab->aa->Prop
 |.next,t,S=>GK e (execs b e.env) GW t S a
 |.ret c,t,S=>a (.ret c) t S
theorem ah5(a:GK e (execs I2 e.env) GW t S Z):oj e I2 Z .next t S:=a
theorem ah6(a:Z (.ret i) t S):oj e I2 Z (.ret i) t S:=a
theorem aH{st:Stmt}(b:GK e (exec st e.env) GW t S (oj e I2 Z)):GK e (execs (st::I2) e.env) GW t S Z:=
 xT (b.mono fun a t S c=>by cases a<;>exact c)
noncomputable def kB(l:List Str)(c:List (Option GG)->aa->Prop)(d:G4->ab->aa->Prop):G4->ab->aa->Prop
 |.next,t,S=>∃b a,(b6 l b t)/\Le a S/\c b a
 |.ret e,t,S=>d (.ret e) t S
theorem t6(a:KA JT V)(c:aD JT Y)(b:Le V S):kB l KA Z .next (an l Y) S:=⟨JT,V,fun e d=>c.val l e d,b,a⟩
theorem t7{d:Sem Flow}(h:GK e d GW t S (kB l KA Z)):GK e d GW t S fun a g c=>match a with
 |.next=>∃f b,(b6 l f g)/\Le b c/\KA f b
 |.ret j=>Z (.ret j) g c:=h.mono fun a t S i=>by cases a<;>exact i
noncomputable def j6(b:GG->aa->Prop):G4->ab->aa->Prop
 |.next,_,S=>∃a,Le a S/\b .none a
 |.ret c,_,S=>∃a,Le a S/\b c a
theorem BD(b:M .none V)(a:Le V S):j6 M .next t S:=⟨V,a,b⟩
structure ir(c:GG->aa->Prop)(b:G4->ab->aa->Prop):Prop where
 ret:∀{d:GG}{a:aa}{t:ab}{S:aa},c d a->Le a S->b (.ret d) t S
 next:∀{a:aa}{t:ab}{S:aa},c .none a->Le a S->b .next t S
theorem ir.r(a:ir M Z)(c:M i V)(b:Le V S):Z (.ret i) t S:=a.ret c b
theorem ir.n(a:ir M Z)(c:M .none V)(b:Le V S):Z .next t S:=a.next c b
structure jr(l:List Str)(e:List (Option GG)->aa->Prop)(f a:G4->ab->aa->Prop):Prop where
 next:∀{d:List (Option GG)}{b:aa}{Y:List (Option GG)}{S:aa},e d b->aD d Y->Le b S->a .next (an l Y) S
 ret:∀{c:GG}{t:ab}{S:aa},f (.ret c) t S->a (.ret c) t S
theorem jr.n(d:jr l KA Z KL)(a:KA JT V)(c:aD JT Y)(b:Le V S):KL .next (an l Y) S:=d.next a c b
theorem F3{d:Sem Flow}(i:∀a,jr l KA Z a->GK e d GW t S a):GK e d GW t S fun h g c=>match h with
 |.next=>∃f b,(b6 l f g)/\Le b c/\KA f b
 |.ret o=>Z (.ret o) g c:=t7 (i (kB l KA Z) ⟨fun j m k=>t6 j m k,fun n=>n⟩)
theorem aS{f:List Str}(l:List Str)(Y:List (Option GG))(g:St)
(i:a7 d h I5 Kh I2 KR)(u:aY Kh KR Jb Jz J7 f=true)(r:Jb.length=z.length)
(m:∀e:GU,G9 e l l J7 f->aw e.A q->∀c,ir M c->GK e (execs I2 e.env) GW (an l Y) S c)(Hc:autoParam (Jb++Jz=l) aP)(s:autoParam ((z.map some++Jz.map fun x=>none)=Y) aP)
(n:autoParam (KR.isCoroutine=false) aP)(o:autoParam (KR.isGenerator=false) aP)(p:autoParam (KR.kind=.function) aP):GN (q+1) (.ref d) z S M:=by
 subst Hc;subst s;exact zo g i u r (fun e k v=>(m e k v (j6 M) ⟨fun a b=>⟨_,b,a⟩,fun a b=>⟨_,b,a⟩⟩).mono fun j t S a=>by cases j<;>exact a) n o p
theorem bt(c:M i V):∀b a,(b=i/\a=V)->M b a:=by rintro _ _ ⟨rfl,rfl⟩;exact c
theorem gu{d:D->GG}{e:D->aa}(f:∀a,M (d a) (e a)):∀c b,(∃a,c=d a/\b=e a)->M c b:=by rintro _ _ ⟨a,rfl,rfl⟩;exact f a
theorem gv{e:D->I1->GG}{f:D->I1->aa}(g:∀a b,M (e a b) (f a b)):∀d c,(∃a b,d=e a b/\c=f a b)->M d c:=by rintro _ _ ⟨a,b,rfl,rfl⟩;exact g a b
theorem l0(a:G9 e l K Jb Jz)(b:b4 l Y h i)(c:B i (an l Y) S):GK e (eval (.Name h N) e.env) VR (an l Y) S B:=ye a b c
theorem py(d:G9 e l K Jb Jz)(j:h∈K)(g:GK e (eval o e.env) VR t S fun c f b=>∃Y a,f=an l Y/\bp l Y h c a/\Z .next (an l a) b)
(i:autoParam (swapsWith o (some (.Name h N)) I9.line e.env=pure false) aP):GK e (exec (.Assign [.Name h N] o I9) e.env) GW t S Z:=
 xN d j (g.mono fun c f b n=>by obtain⟨Y,a,o,k,m⟩:=n;subst o;rw[k.val d.GO];exact m) i
theorem aZ(a:G9 e l K Jb Jz)(b:h∈K)(c:bp l Y h i JT)(d:KD () (an l JT) S):bn e (assign (.Name h N) e.env) i UR (an l Y) S KD:=
 x4 a.ok (a.st h b) (by rw[c.val a.GO];exact d)
inductive gc(l K:List Str):List Expr->List GG->List (Option GG)->List (Option GG)->Prop
 |nil {Y:List (Option GG)}:gc l K [] [] Y Y
 |cons {x:Str} {f:Pos} {c:List Expr} {a:GG} {b:List GG} {Y d e:List (Option GG)}:x∈K->bp l Y x a d->gc l K c b d e->gc l K (.Name x f::c) (a::b) Y e
theorem gc.all(b:G9 e l K Jb Jz){Q:ab->Prop}(d:gc l K IS z Y JT)(c:Q (an l JT)):(assignEach IS e.env).length=z.length/\(assignEach IS e.env).findIdx? (fun x=>x.1)=none/\ix e ((assignEach IS e.env).map (fun x=>x.2)) z (an l Y) Q:=by
 induction d with
 |nil=>exact⟨rfl,rfl,c⟩
 |cons f i _ h=>
  refine df (h c) fun a=>?_;exact⟨congrArg Nat.succ a.1,(List.findIdx?_cons (x:=(false,_)) (xs:=assignEach _ e.env)).trans (congrArg (Option.map fun g=>g+1) a.2),_,ow,b.st _ f,by rw[i.val b.GO];exact a.3⟩
theorem eg{Q:Unit->ab->aa->Prop}(b:G9 e l K Jb Jz)(f:aw e.A q)(c:gc l K IS z Y JT)(d:Q () (an l JT) S):bn e (assign (.Tuple IS v N) e.env) (.tup z) UR (an l Y) S Q:=
 pC b.ok f.GR (c.all b (Q:=fun a=>Q () a S) d).1 (c.all b (Q:=fun a=>Q () a S) d).2.1 (c.all b (Q:=fun a=>Q () a S) d).2.2
theorem vm
(f:GK e (eval o e.env) VR t S fun c h a=>GK e (spliced (backTo N (starEach IS e.env))) ao h a fun d i b=>KC (c::d) i b)
(g:autoParam (starEach (o::IS) e.env=(false,eval o e.env)::starEach IS e.env) aP):GK e (spliced (backTo N (starEach (o::IS) e.env))) ao t S KC:=gi f g
theorem c6{lo hi:Option Int}{a:GG}(d:ga e i lo hi t S B)(b:autoParam (Jn=fC lo) aP)(c:autoParam (a=fC hi) aP):∃lo hi,Jn=fC lo/\a=fC hi/\ga e i lo hi t S B:=⟨lo,hi,b,c,d⟩
end
theorem yu:bootBuiltins "len"=some (.builtin "len"):=by exists 4
theorem yx:bootBuiltins "min"=some (.builtin "min"):=by exists 4
theorem yw:bootBuiltins "max"=some (.builtin "max"):=by exists 4
theorem yp:bootBuiltins "abs"=some (.builtin "abs"):=by exists 4
theorem yA:bootBuiltins "sorted"=some (.builtin "sorted"):=by exists 4
theorem yt:bootBuiltins "isinstance"=some (.builtin "isinstance"):=by exists 4
theorem ys:bootBuiltins "int"=some (.type "int"):=by exists 4
theorem yq:bootBuiltins "bool"=some (.type "bool"):=by exists 4
theorem yB:bootBuiltins "str"=some (.type "str"):=by exists 4
theorem yv:bootBuiltins "list"=some (.type "list"):=by exists 4
theorem yr:bootBuiltins "dict"=some (.type "dict"):=by exists 4
theorem yC:bootBuiltins "tuple"=some (.type "tuple"):=by exists 4
theorem yz:bootBuiltins "set"=some (.type "set"):=by exists 4
theorem yy:bootBuiltins "range"=some (.type "range"):=by exists 4
theorem yD:bootBuiltins "zip"=some (.type "zip"):=by exists 4
theorem aa7:("len":Str)≠"__name__":=by exists 4
theorem aba:("min":Str)≠"__name__":=by exists 4
theorem aa9:("max":Str)≠"__name__":=by exists 4
theorem aa1:("abs":Str)≠"__name__":=by exists 4
theorem abf:("sorted":Str)≠"__name__":=by exists 4
theorem aa6:("isinstance":Str)≠"__name__":=by exists 4
theorem aa5:("int":Str)≠"__name__":=by exists 4
theorem aa2:("bool":Str)≠"__name__":=by exists 4
theorem abg:("str":Str)≠"__name__":=by exists 4
theorem aa8:("list":Str)≠"__name__":=by exists 4
theorem aa4:("dict":Str)≠"__name__":=by exists 4
theorem abh:("tuple":Str)≠"__name__":=by exists 4
theorem abc:("set":Str)≠"__name__":=by exists 4
theorem abb:("range":Str)≠"__name__":=by exists 4
theorem abi:("zip":Str)≠"__name__":=by exists 4
theorem gD{S:aa}(c:z.length<sizeLine)(d:B (.tup z) t S):ga e (.tup (i::z)) (some 1) none t S B:=by
 refine h0 (a:=1) (b:=(i::z).length) (wY _ (by simp)) (by simp only[N4];exact c) ?_;rw[(by simp:((i::z).drop 1).take ((i::z).length-1)=z)];exact d
theorem am{a:D}{b:List D}:a∈a::b:=Nz
theorem ac{a c:D}{b:List D}(d:a∈b):a∈c::b:=PT _ d
theorem eG.le{a S b:aa}(d:eG J1 S b)(c:Le a b):Le (J1::a) S:=Le.pick d c
section
variable{K:List Str}{S:aa}
theorem oO(P:Pg)(a:(d,GL.dict q I8)∈S)(b:B (.bool (ay I8 (.s h)).isSome) t S):aE e (compareOp .In) (.str h) (.ref d) VR t S B:=uM (k:=.s h) P.GY a b
theorem wu(P:Pg)(a:(d,GL.dict q I8)∈S)(b:B (.bool (ay I8 (.i k)).isSome) t S):aE e (compareOp .In) (.int k) (.ref d) VR t S B:=uM (k:=.i k) P.GY a b
theorem wv(P:Pg)(a:(d,GL.dict q I8)∈S)(b:B (.bool (!(ay I8 (.s h)).isSome)) t S):aE e (compareOp .NotIn) (.str h) (.ref d) VR t S B:=uR (k:=.s h) P.GY a b
theorem oP(P:Pg)(a:(d,GL.dict q I8)∈S)(b:B (.bool (!(ay I8 (.i k)).isSome)) t S):aE e (compareOp .NotIn) (.int k) (.ref d) VR t S B:=uR (k:=.i k) P.GY a b
theorem cu(a:(d,GL.dict q I8)∈S)(b:ay I8 (.s h)=some i)(f:B i t S)(c:autoParam (Plain X) gL):
 aE e (subscriptTail o X) (.ref d) (.str h) VR t S B:=nW (k:=.s h) a b f c
theorem bu{a:GG}(b:(d,GL.dict q I8)∈S)(c:ay I8 (.i k)=some a)(g:B a t S)(f:autoParam (Plain X) gL):
 aE e (subscriptTail o X) (.ref d) (.int k) VR t S B:=nW (k:=.i k) b c g f
theorem hh{F:GL->aa}(f:bk d (.dict q I8) S F)(b:I8.length<=sizeLine)(c:∀a,Kq t (F (.dict a (a6 I8 (.s h) i)))):
 e5 e setItem (.ref d) (.str h) i t S Kq:=uS (k:=.s h) f b c
theorem dm{ks:List (ae×GG)}{F:GL->aa}(f:bk d (.dict q ks) S F)(b:ks.length<=sizeLine)(c:∀a,Kq t (F (.dict a (a6 ks (.i k) i)))):
 e5 e setItem (.ref d) (.int k) i t S Kq:=uS (k:=.i k) f b c
theorem dy{R:Value->List GG->Prop}(c:cJ e i h t S G z)(b:cH G)(a:R G z):∃G z,cJ e i h t S G z/\cH G/\R G z:=⟨G,z,c,b,a⟩
theorem bh(b:a7 d h I5 Kh I2 KR):cH (.ref d):=by
 intro k e;obtain⟨⟨f,j,i,n⟩,m,g,doc,c,a,l⟩:=b.ex;refine⟨.frame,.inl rfl,(Looks.ld (part:=none) (e _ _ c)).andThen ?_⟩;simp only at a;subst a;exact Looks.now
end
theorem kM(a b c:Value):argsOk "dict.setdefault" ⟨[a,b,c],[]⟩:=by unfold argsOk;kernel_rfl
section
variable{S:aa}
theorem sh(a:ay I8 Jr=none):a6 I8 Jr i=I8++[(Jr,i)]:=by
 unfold a6;rw[if_neg];simp only[N8,decide_eq_true_eq,not_exists,not_and];intro b e d;unfold ay at a;cases c:I8.find? (fun b=>decide (b.1=Jr))with
 |none=>have:=PU.mp c b e;simp[d]at this
 |some f=>rw[c]at a;cases a
theorem zR(s:∃o,base.get? sysModules=some o)(h:(d,GL.dict v I8)∈S)(n:I8.length<=sizeLine)(f:ay I8 Jr=some Jn)(r:M Jn S):
  GN q (.builtin "dict.setdefault") [.ref d,Jr.GP,i] S M:=by
 intro y p u A e g;obtain⟨B,C,D,rfl,k,l,z⟩:=g.three;cases k;refine ah (e.dict h) fun u c=>?_;refine Px PS c.1.dictOf.typeIs QP (kM _ _ _) (kt_meets_setdefault (aX) d (ec l) (e.noSys s (ct h (Nz))) _)
  ⟨_,c.1.dictOf,by rw[c.2.length];exact n,fun E g=>?_,fun m=>?_⟩
 ·rcases c.2.get Jr with⟨_,a⟩|⟨t,x,b,a,j⟩
  ·rw[f]at a;cases a
  ·rw[f]at a;cases a;rw[g]at b;cases b;exact dS (Q:=M) e _ j r
 ·rcases c.2.get Jr with⟨_,a⟩|⟨t,x,b,a,j⟩
  ·rw[f]at a;cases a
  ·rw[m]at b;cases b
theorem zQ{F:GL->aa}(B:∃a,base.get? sysModules=some a)(h:bk d (.dict v I8) S F)(A:I8.length<=sizeLine)(m:ay I8 Jr=none)
(g:∀f,M i (F (.dict f (I8++[(Jr,i)])))):GN q (.builtin "dict.setdefault") [.ref d,Jr.GP,i] S M:=by
 intro D p C G e j;obtain⟨J,L,N,rfl,s,t,l⟩:=j.three;cases s;refine ah (e.dict h.mem) fun C c=>?_;refine Px PS c.1.dictOf.typeIs QP (kM _ _ _) (kt_meets_setdefault (aX) d (ec t) (e.noSys B (ct h.mem (Nz))) _)
  ⟨_,c.1.dictOf,by rw[c.2.length];exact A,fun O j=>?_,fun E r x z=>?_⟩
 ·rcases c.2.get Jr with⟨k,_⟩|⟨I,Q,_,b,H⟩
  ·rw[j]at k;cases k
  ·rw[m]at b;cases b
 ·have same:∀b a,b≠d->p.heap.get? b=some a->r.get? b=some a:=fun b a u o=>(z.2 b u).trans o;have n:=fv e (h (.dict v (a6 I8 Jr i))) (b:=d) (Nz) same;obtain⟨f,y⟩:=gE x ((c.2.put Jr l).mono n);have g:=g f;rw[<-sh m]at g;exact ht (Q:=M) e (h (.dict f (a6 I8 Jr i))) (b:=d) (Nz) same rfl gp y (l.mono n) g
theorem mg{k:ae}(s:∃o,base.get? sysModules=some o)(f:(d,GL.dict v I8)∈S)(l:ay I8 k=none)(r:M i S):
  GN q (.builtin "dict.pop") [.ref d,k.GP,i] S M:=by
 intro x p u y a n;obtain⟨B,t,C,rfl,h,e,j⟩:=n.three;cases h;refine ah (a.dict f) fun u b=>?_;have m:(keyPart t).isSome=true:=by cases k<;>(cases e;rfl)
 rcases b.2.get k with⟨g,_⟩|⟨A,D,_,c,z⟩
 ·exact Px Rv b.1.dictOf.typeIs SD (SA _ _ _) (meets_dict_pop_default (aX) d (ec e) (a.noSys s (ct f (Nz))) m _)
   ⟨_,b.1.dictOf,g,dS (Q:=M) a _ j r⟩
 ·rw[l]at c;cases c
theorem zC{x:GG}{xs:List GG}{F:GL->aa}(l:bk d (.list (x::xs)) S F)(u:xs.length<sizeLine)(y:M x (F (.list xs))):GN q (.builtin "list.pop") [.ref d,.int 0] S M:=by
 intro z p E A g t;refine bB t.two fun C D n=>?_;obtain rfl:=n.1;obtain rfl:=n.2.dr;obtain⟨B,rfl⟩:=n.3.gh;obtain⟨⟨G⟩,⟨i,k⟩,v⟩:=g.objs _ l.mem;refine bB (ao.head v) fun m c e=>?_;obtain rfl:=e.1;refine Qi SG ⟨_,k,rfl⟩ PySem.F.entry_list_pop (PySem.F.args_list_pop_2 _ _) (PySem.MeetsSeq.list_pop_at d ⟨m::c⟩ i 0 _ 0 m (by decide) ?_ rfl ?_) ⟨k,?_⟩
 ·unfold seqIndex?;simp
 ·simp only[QL,N4];exact mf (Np (Nd e.3.length) 1) u
 ·have o:p.heap.update d (Obj.mapSeq fun xs=>xs.eraseIdxIfInBounds 0)=p.heap.update d (Obj.mapSeq fun xs=>xs.eraseIdxIfInBounds 0):=rfl;have same:∀b j,b≠d->p.heap.get? b=some j->(p.heap.update d (Obj.mapSeq fun xs=>xs.eraseIdxIfInBounds 0)).get? b=some j:=fun b j s o=>((OV (h:=p.heap) (a:=d) (f:=Obj.mapSeq fun xs=>xs.eraseIdxIfInBounds 0)).2 b s).trans o;have r:=fv g (l (.list xs)) (b:=d) (Nz) same;refine ht (Q:=M) (tk:=p.toks) g (l (.list xs)) (b:=d) (Nz) same rfl ed ⟨⟨c⟩,⟨if(⟨c⟩:Array Value).size==(⟨m::c⟩:Array Value).size then i else i+1,?_⟩,e.3.mono r⟩ (e.2.mono r) y;rw[OO _ k (by rfl)];simp[Obj.mapSeq,Array.eraseIdxIfInBounds]
theorem ah9{i:Tok}(b:p.heap.PlainList d Jc)
(f:0<=k)(h:k<2^63)(j:k<Jc.size)
(Hl:∀c,c.PlainList d (Jc.setIfInBounds k.toNat G)->Heap.SameBut d p.heap c->JM () {p with heap:=c}):
  wpAny (model prog w) Q (setItem (.ref d) (.int k i) G) JM I4 p:=by
 obtain⟨q,e⟩:=id b;unfold setItem
 try with_reducible refine N1 ?_
 first|refine M9 (Nc ?_)|skip
 refine M9 (wpAny_sequenceKey b.isList.typeIs (by decide) ?_);refine M9 (Pu (name:=Str.ofString "__setitem__") b.isList.typeIs slot_list_setitem
  (On slot_list_setitem b.isList.typeIs entry_list_setitem ?_ (args_list_setitem _ _ _)))
 show wpAny _ _ (Builtin.List.listSubscript? (.int k i)>>=_) _ _ p;refine M9 (wpAny_listSubscript_int (fitsIndex_of f h) ?_);clear h;obtain⟨a,rfl⟩:=Int.eq_ofNat_of_zero_le f;show wpAny _ _ ((seqItemAt d a>>=fun l=>pure (l.map (a,·)))>>=_) _ _ p;refine M9 (M9 (wpAny_seqItemAt e rfl (Nc ?_)));rw[(Ow (by exact Ol.mp j:a<Jc.size))];show wpAny _ _ (setSeqItemAt d a G>>=_) _ _ p;have g:(p.heap.update d (Obj.mapSeq (·.setIfInBounds a G))).PlainList d (Jc.setIfInBounds a G):=⟨q,by
  rw[OO _ e (by rfl)];simp[Obj.mapSeq]⟩
 refine M9 (wpAny_setSeqItemAt e rfl ?_)
 first
  |exact M9 (Nc (Nc ⟨.none,rfl,Nc (Hl _ g (OV ..))⟩))
  |exact Nc ⟨.none,rfl,Nc (Hl _ g (OV ..))⟩
theorem ao.set(b:ao I Ja z)(a:Nat)(e:VR I G i):ao I (Ja.set a G) (z.set a i):=by
 induction Ja generalizing z a with
 |nil=>cases b;exact .nil
 |cons f Ja d=>cases b with
  |cons c b=>cases a with
   |zero=>exact .cons e b
   |succ a=>exact .cons c (d b a)
theorem kV{xs:List GG}{F:GL->aa}(f:bk d (.list xs) S F)(m:0<=k)(n:k<xs.length)(D:xs.length<=sizeLine)(A:Kq t (F (.list (xs.set k.toNat i)))):
  e5 e setItem (.ref d) (.int k) i t S Kq:=by
 have C:=Nl;intro p E G H c r s u;cases r;cases s;refine ah (c.led.objs _ f.mem) fun B g=>?_;obtain⟨v,y⟩:=g.1;have x:B.size=xs.length:=by rewrite[<-g.2.length,NI];rfl
 refine ah9 ⟨v,y⟩ m (by omega) (Pm n (N6.mpr (Nd x.symm))) fun l z q=>?_;have same:∀b a,b≠d->p.heap.get? b=some a->l.get? b=some a:=fun b a o j=>(q.2 b o).trans j;have h:=fv c.led (f (.list (xs.set k.toNat i))) (b:=d) (Nz) same;exact vb (c:=()) (tk:=p.toks) c (f (.list (xs.set k.toNat i))) (b:=d) (Nz) same rfl ed ⟨_,z,by rw[Array.toList_setIfInBounds];exact(g.2.mono h).set _ (u.mono h)⟩ trivial A
end
section
open PySem.Spec
theorem n3(d:D->D->Prop)(i:∀b a,d b a->d a b->b=a){b:List D}:∀{a:List D},b.Perm a->b.Pairwise d->a.Pairwise d->b=a:=by
 induction b with
 |nil=>exact fun c z z=>c.nil_eq
 |cons e b k=>
  intro a c g h;cases a with
  |nil=>exact c.eq_nil
  |cons f a=>
   have j:e=f:=(Nk.mp (c.mem_iff.mp (.head _))).elim id fun l=>(Nk.mp (c.mem_iff.mpr (.head _))).elim Eq.symm fun m=>i e f ((OL.mp g).1 f m) ((OL.mp h).1 e l);subst j;rw[k (List.Perm.cons_inv c) (OL.mp g).2 (OL.mp h).2]
noncomputable def eb(a b:Int):Bool:=decide (a<=b)
noncomputable def dA(a b:Str):Bool:= !decide (b.cps.toList<a.cps.toList)
noncomputable def da(a:List Int):List Int:=a.mergeSort eb
noncomputable def cD(a:List Str):List Str:=a.mergeSort dA
theorem Em(a b c:Int)(d:eb a b=true)(e:eb b c=true):eb a c=true:=by simp only[eb,decide_eq_true_eq]at*;exact PE d e
theorem El(a b:Int):(eb a b||eb b a)=true:=by simp only[eb,PK,decide_eq_true_eq];omega
theorem vQ(a b c:Str)(d:dA a b=true)(e:dA b c=true):dA a c=true:=by
 simp only[dA,Pr,decide_eq_false_iff_not,RA]at*;exact List.le_trans d e
theorem ai9(a b:Str):(dA a b||dA b a)=true:=by
 simp only[dA,PK,Pr,decide_eq_false_iff_not,RA];exact List.le_total _ _
theorem ai8(a b:Str)(d:dA a b=true)(e:dA b a=true):a=b:=by
 simp only[dA,Pr,decide_eq_false_iff_not,RA]at*;have c:=List.le_antisymm d e;obtain⟨⟨a⟩⟩:=a;obtain⟨⟨b⟩⟩:=b;simp only at c;rw[c]
theorem eR(a:List Int):(da a).Perm a:=List.mergeSort_perm _ _
theorem cO(a:List Str):(cD a).Perm a:=List.mergeSort_perm _ _
theorem tm(a:List Int):(da a).Pairwise fun b c=>eb b c=true:=SJ Em El a
theorem vX(a:List Str):(cD a).Pairwise fun b c=>dA b c=true:=SJ vQ ai9 a
theorem m8(d:O.Perm j)(a:O.Pairwise (·<=·)):O=da j:=
 n3 (fun b c=>eb b c=true) (fun b c a e=>by simp only[eb,decide_eq_true_eq]at*;omega) (d.trans (eR j).symm) (a.imp fun a=>by simpa[eb]using a) (tm j)
theorem vW(d:Jb.Perm l)(c:Jb.Pairwise fun a b=>dA a b=true):Jb=cD l:=
 n3 (fun a b=>dA a b=true) ai8 (d.trans (cO l).symm) c (vX l)
theorem tl(b:O.Perm j):da O=da j:=m8 ((eR O).trans b) ((tm O).imp fun a=>by simpa[eb]using a)
theorem vV(a:Jb.Perm l):cD Jb=cD l:=vW ((cO Jb).trans a) (vX Jb)
theorem ahf:∀{c:Str},risingS c l=true->(c::l).Pairwise fun b f=>dA b f=true:=by
 induction l with
 |nil=>exact fun z=>.cons nofun .nil
 |cons b l d=>
  intro c g;have a:(!ltCps b.cps.toList c.cps.toList&&risingS b l)=true:=g;replace a:=(ltCps_eq _ _)▸(Ox _ _)▸a;exact .cons (NT.mpr ⟨a.1,fun e h=>vQ c b e a.1 ((OL.mp (d a.2)).1 e h)⟩) (d a.2)
theorem ajg(c:sortedS l=true):l.Pairwise fun a b=>dA a b=true:=by
 cases l with
 |nil=>exact .nil
 |cons d l=>exact ahf c
theorem aj2(b:Jb.Perm l)(a:sortedS Jb=true):Jb=cD l:=vW b (ajg a)
theorem VR.Ep(a:VR I G (.int k)):∃b,G=.int k b:=by cases a;exact⟨_,rfl⟩
theorem VR.v0(a:VR I G (.str h)):∃b,G=.str h b:=by cases a;exact⟨_,rfl⟩
theorem ints_of:∀{a:List Value},ao I a (j.map GG.int)->IntsAre a j:=by
 induction j with
 |nil=>intro a b;rw[b.fQ];exact .nil
 |cons f j d=>
  intro a b;obtain⟨h,i,rfl,c,e⟩:=b.head;obtain⟨g,rfl⟩:=c.Ep;exact .cons _ _ (d e)
theorem aj4:∀{a:List Value},ao I a (l.map GG.str)->StrsAre a l:=by
 induction l with
 |nil=>intro a b;rw[b.fQ];exact .nil
 |cons f l d=>
  intro a b;obtain⟨h,i,rfl,c,e⟩:=b.head;obtain⟨g,rfl⟩:=c.v0;exact .cons _ _ (d e)
theorem amc(b:Heap)(a:IntsAre Ja j):ao b Ja (j.map GG.int):=by
 induction a with
 |nil=>exact .nil
 |cons d e a c=>exact .cons (.int d e) c
theorem amd(b:Heap)(a:StrsAre Ja l):ao b Ja (l.map GG.str):=by
 induction a with
 |nil=>exact .nil
 |cons d e a c=>exact .cons (.str d e) c
noncomputable def cg(a c:List GG):Prop:=(∃b:List Int,a=b.map .int/\c=(da b).map .int)\/∃d:List Str,a=d.map .str/\c=(cD d).map .str
theorem cg.int(a:List Int):cg (a.map .int) ((da a).map .int):=.inl ⟨a,rfl,rfl⟩
theorem cg.str(a:List Str):cg (a.map .str) ((cD a).map .str):=.inr ⟨a,rfl,rfl⟩
section
variable{S:aa}
theorem nm{P:PySem.Fin->Shared->Prop}(f:p.heap.get? d=some (seqObj "list" Ja.toArray q))(g:ao I Ja z)(o:cg z Jm)(e:Ja.length<64)
(c:∀h:Array Value,(∀a,ao a h.toList Jm)->P (.done (.ret .none)) {p with heap:=sortedHeap p.heap d Ja h}):wpAny (model prog w) Q (Builtin.«list.sort» ⟨[.ref d],[]⟩) P I4 p:=by
 rcases o with⟨r,rfl,rfl⟩|⟨u,rfl,rfl⟩
 ·refine list_sort_tree f (ints_of g) e fun Jm s i j k=>c Jm fun a=>?_;rw[<-m8 j k];exact amc a i
 ·have GV:=aj4 g;refine list_sort_treeK strKind_oneLt f GV.keysOf (fun y A t l=>keyKind_strs (by rw[<-l];exact GV)) e fun x m n=>?_;refine aN (sorted_out_str GV m n) fun v b=>?_;refine c _ fun a=>?_;rw[<-aj2 b.2 b.3];exact amd a b.1
theorem rk{c out:List GG}(n:cf S d c)(t:cg c out)(f:c.length<64)(s:∀h,M (.ref h) ((h,.list out)::S)):GN q (.builtin "sorted") [.ref d] S M:=by
 refine GN.Hd fun u p y g=>?_;obtain⟨⟨a⟩,r,b⟩:=g.listAt n;refine Calls.call_function_entry kind_sorted plain_sorted entry_sorted (args_sorted1 _) ?_;refine M9 (m:=checkCount "sorted" 1 1 _) (Nc ?_);refine M9 (collect_list r ?_ (mf (aj (mf (Nd b.length) (Nh f)) rfl) (Nd Nl.symm)));refine M9 (wpAny_newList ?_ (mf (aj (mf (Nd b.length) (Nh f)) rfl) (Nd Nl.symm)));have j:((p.heap.push (seqObj "list" #[] 0)).update p.heap.objs.size (Obj.mapSeq (·++a.toArray))).objs.size=p.heap.objs.size+1:=by
  rw[Heap.size_update,size_push']
 have i:(((p.heap.push (seqObj "list" #[] 0)).update p.heap.objs.size (Obj.mapSeq (·++a.toArray))).push (seqObj "list" a.toArray 0)).get? (p.heap.objs.size+1)=some (seqObj "list" a.toArray 0):=by
  rw[<-j];exact Ny _ rfl
 show wpAny _ _ _ _ _ {p with heap:=((p.heap.push (seqObj "list" #[] 0)).update p.heap.objs.size (Obj.mapSeq (·++a.toArray))).push (seqObj "list" a.toArray 0)};rw[j];refine M9 (N1 (On RB ⟨_,i,rfl⟩ RC (nm i b t (mf (Np (Nd b.length) 1) f) fun k o=>⟨_,rfl,?_⟩) (RD _)));obtain⟨e,l⟩:=sortedAll_at p.heap a k;refine Nc ⟨_,rfl,?_⟩;exact gk (tk:=p.toks) (Q:=M) (ao:=.list out) g (fun v x e=>sortedAll_old e) (NW (Ob _)) rfl ed ⟨k,⟨e,l⟩,o _⟩ (s _)
theorem zW{P:Nat->Value->Prop}{i:Heap->Prop}(K:KdlSrc prog w JY d H q P i)(t:Q.handled=none)(o:LR S p.heap)(u:i p.heap)(g:q<64)
(x:∀(b:Array Value),ItemsOf P b q->∀e,ao e b.toList z)(A:cg z Jm)(h:∀j,M (.ref j) ((j,.list Jm)::S)):wpAny (model prog w) Q (call (.builtin "sorted") [.ref d]) (e4 p S M) a4 p:=by
 refine call_function_entry kind_sorted plain_sorted entry_sorted (args_sorted1 _) ?_;refine M9 (m:=checkCount "sorted" 1 1 _) (Nc ?_);refine M9 (kdu_collect (A:=Q.in1) K t u (mf (aj (c:=16777216) (Nh g) rfl) (Nd Nl.symm)) fun e B b f k=>?_);have l:b.toList.length=q:=by rw[NI];exact k.1
 refine M9 (wpAny_newList ?_ (by rw[l];exact mf (aj (c:=16777216) (Nh g) rfl) (Nd Nl.symm)));refine M9 (N1 (On RB ⟨_,(Ny _ rfl),rfl⟩ RC (nm (Ny _ rfl) (x b k e) A (by rw[l];exact g) fun n v=>⟨_,rfl,?_⟩) (RD _)));refine Nc ⟨_,rfl,?_⟩;obtain⟨a,s⟩:=sortedHeap_at (out:=n) (Ny _ rfl);have r:p.heap.get? e.objs.size=none:=by
  cases h:p.heap.get? e.objs.size with
  |none=>rfl
  |some y=>have:=NE (f _ _ h);exact absurd this (O9 _)
 exact gk (tk:=B) (Q:=M) (ao:=.list Jm) o (fun C y a=>by
  rw[sortedHeap_old (NH (NE (f _ _ a))) (by rw[size_push'];exact N5 (NE (f _ _ a))),Heap.get?_push_ne _ _ _ (NH (NE (f _ _ a)))]
  exact f _ _ a) r rfl ed ⟨n,⟨a,s⟩,v _⟩ (h _)
theorem mq{out:List GG}(m:∃h,base.get? sysModules=some h)(f:(d,GL.dict v I8)∈S)(g:I8.length<64)(n:cg (I8.map fun i=>i.1.GP) out)(k:∀c,M (.ref c) ((c,.list out)::S)):
  GN q (.builtin "sorted") [.ref d] S M:=by
 refine GN.Hd fun o p l a=>?_;refine ah (a.dict f) fun j b=>?_;exact zW (kdl_dict (knd:=aX) (kvs:=j) (ep:=v) (a.noSys m (ct f (Nz)))) l.GR a b.1 (by rw[b.2.length];exact g) (fun r e s=>tv b.2 e.1 e.2) n k
end
end
section
variable{S:aa}
noncomputable def lx(e:GU):List (Expr×Expr×Pos)->List (ae×GG)->ab->aa->(List (ae×GG)->ab->aa->Prop)->Prop
 |[],b,t,S,a=>a b t S
 |x::i,b,t,S,a=>GK e (eval x.1 e.env) VR t S fun g j d=>∃c:ae,g=c.GP/\GK e (eval x.2.1 e.env) VR j d fun h k f=>lx e i (b++[(c,h)]) k f a
noncomputable def h3(e:GU)(b:Pos)(c:List (Expr×Expr×Pos)):List (Sem Value×Sem Value):=c.map fun a=>(eval a.1 e.env,do let d<-eval a.2.1 e.env;standAt b;pure d)
theorem yR{a:List (Value×Value)}(b:Carries (aX) a J2)(c:(aX).is Jr G=true):Carries (aX) ((G,Jy)::a) ((Jr,Jy)::J2):=⟨c,rfl,b⟩
theorem Hk.merge{a:List (ae×Value)}(c:Hk I J2 I8)(g:Hk I a Ky):Hk I (merged J2 a) (Ky.foldl (fun e b=>a6 e b.1 b.2) I8):=by
 induction g generalizing J2 I8 with
 |nil=>exact c
 |cons d _ f=>exact f (c.put _ d)
theorem af1(g:List (Expr×Expr×Pos)):∀(a:List (ae×GG)){t:ab}{S:aa}{j:List (ae×GG)->ab->aa->Prop}{p:Shared}{P:List (Value×Value)->Shared->Prop},SR e t S p->lx e g a t S j->
  (∀(s:List (Value×Value))(q:List (ae×Value))(f:List (ae×GG))(k:ab)(d:aa)(c:Shared),Carries (aX) s q->Hk c.heap q f->SR e k d c->aq (bU e) p S c d->j (a++f) k d->P s c)->
  wpAny (model prog w) e.A (evalPairs (h3 e N g)) P a4 p:=by
 induction g with
 |nil=>intro a t S j p P h b m;exact Nc (m [] [] [] t S p trivial .nil h (aq.refl ..) ((NU a).symm▸b))
 |cons i g D=>
  intro a t S j p P h b m;refine(?_:wpAny _ _ (eval i.1 e.env>>=fun o=>holding [o] (do let i<-eval i.2.1 e.env;standAt N;pure i)>>=fun v=>holding [o,v] (evalPairs (h3 e N g))>>=fun h=>pure ((o,v)::h)) P a4 p);refine M9 (GK.run b h fun U O V L Q B u I H=>?_);refine ah H fun n y=>?_;have b:=y.2;refine M9 (N1 (M9 (GK.run b u fun i l X M T C r J b=>M9 (OT (Nc ?_)))));refine M9 (N1 (D (a++[(n,l)]) r b fun s q f k d c z A G x E=>Nc ?_));exact m _ _ ((n,l)::f) k d c (yR z (ec (by exact y.1▸B))) (.cons (C.mono (r.cj x)) A) G ((I.trans J u.alive).trans x r.alive) (NR a [(n,l)] f▸E)
theorem pt{o:List (Option Expr)}(c:List (Expr×Expr×Pos))(z:c≠[])(G:c.length<=15)
(y:∀j b,lx e c [] t ((j,.dict b [])::S) fun d KS v=>∃F,bk j (.dict b []) v F/\∀g,B (.ref j) KS (F (.dict g (d.foldl (fun O a=>a6 O a.1 a.2) []))))
(L:autoParam ((evalEachOpt o e.env).zip ((evalEach IS e.env).map fun T=>do let V<-T;standAt N;pure V)=(h3 e N c).map fun a=>(some a.1,a.2)) aP):
  GK e (eval (.Dict o IS N) e.env) VR t S B:=by
 intro p l;refine wpAny_Dict_pairs (knd:=aX) (pairs:=h3 e N c) L (by cases c;exact absurd rfl z;exact PV _ _) (by unfold h3;rw[Nb];exact G) ?_;obtain⟨b,H⟩:=gE (ks:=[]) (Heap.DictOf.new _) .nil;have s:aq [] p S {p with heap:=p.heap.push {cls:=.type "dict",data:=.dict #[]}} _:=aq.take l.led (o:={cls:=.type "dict",data:=.dict #[]}) (ao:=.dict b []) rfl;have r:=l.behind s (l.led.take (o:={cls:=.type "dict",data:=.dict #[]}) (ao:=.dict b []) rfl gp H);refine af1 c [] r (y _ b) fun U M q Z KT m C E i X Y=>?_;refine ah Y fun F h=>?_;refine ah (i.led.dict h.1.mem) fun KU u=>?_;cases u.2;refine⟨M,C,u.1.dictOf,fun n D J=>?_⟩;have same:∀f k,f≠p.heap.objs.size->m.heap.get? f=some k->n.get? f=some k:=fun f k A x=>(J.2 f A).trans x;obtain⟨g,I⟩:=gE D ((Hk.nil (κ:=ae) (h:=n)).merge (E.mono (fv i.led (h.1 (.dict b [])) (b:=p.heap.objs.size) (Nz) same)));have Q:=aq.turn (s:=m) (tk:=m.toks+U.length) (bU e) (h.1 (.dict g (q.foldl (fun d a=>a6 d a.1 a.2) []))) (b:=p.heap.objs.size) (Nz) same rfl;exact⟨.ref _,Z,_,.ref _,i.turn (h.1 (.dict g (q.foldl (fun d a=>a6 d a.1 a.2) []))) (b:=p.heap.objs.size) (Nz) same rfl gp I,((s.wide bs).trans X r.alive).trans Q i.alive,by simpa using h.2 g⟩
end
section
variable{S:aa}{s:Shared}
theorem FM:typeLookup (.type "list") "keys"=pure none:=by rw[RE,RG];kernel_rfl
theorem CE{A:Around}{sl:Array (Option Value)}
(b:s.heap.get? d=some {cls:=.type "list",dict:=none,data:=.seq Jc q,slots:=sl})(HG:A.handled=none)
(i:∀a e,(aV s.heap a)->J6 none {s with heap:=a,toks:=e}):
  wpAny (model prog w) A (getAttr? (.ref d) "keys") J6 I4 s:=by
 obtain⟨j,h,g,e,os⟩:=s;have GX:∀f,(⟨j,h,g,f,os⟩:Shared).TypeIs (.ref d) "list":=fun x=>⟨_,b,rfl⟩
 have l:=sub_AttributeError;have m:=RH.lookup;have n:=RH.bind (.ref d);have o:=am_list_getattr_none;delta getAttr? getAttrBy?;refine M9 (wpAny_mkText ?_);refine M9 (PW ?_);unfold getAttrBy
 repeat (any_goals (first|assumption|exact GX _|((with_reducible show wpAny _ _ (call (Value.builtin "list.__getattribute__") _ _) _ _ _);refine Qi RH (GX _) am_entry_list_getattribute (F.args_list_getattribute_2 _ _) (meets_getattribute_miss_list d Jc q sl "keys" _ FM (by exists 4) (by exists 4)) ⟨b,HG,fun a f k c=>?_⟩)|wp_step))
 obtain⟨r,t,p⟩:=c.there;show wpAny _ _ (getattributeRaised _ _ _ _ _ _ _) _ _ _;unfold getattributeRaised
 repeat (any_goals (first|assumption|wp_step))
 exact i _ _ c.keeps
theorem sv:entryFor table "dict.update.loop"=some Builtin.«dict.update.loop»:=entryFor_of_tree (by kernel_rfl)
theorem kZ:plainId "dict.update.loop"=true:=by exists 4
theorem Au(b:(aX).is Jr G=true)(f:s.heap.DictOf (aX) d J2)
(Hl:∀a,a.DictOf (aX) d (stored J2 Jr Jy)->Heap.SameBut d s.heap a->JM () {s with heap:=a,toks:=s.toks+1})(g:J2.length<=sizeLine):wpAny (model prog w) Q (dictSet d G Jy) JM I4 s:=by
 unfold dictSet
 try with_reducible refine N1 ?_
 exact M9 ((aX).pyHash b (wpAny_dictSetHashed_pairs (s:={s with toks:=s.toks+1}) b f (fun a c e=>Hl a c e) g))
noncomputable def o3(d:Heap)(e:Value)(b:ae×Value):Prop:=∃c a,e=.ref c/\IsTup d c #[a,b.2]/\(aX).is b.1 a=true
theorem Aw{A:Around}(KZ:A.handled=none){c I l:Addr}{items:Array Value}(g:List (ae×Value))(K3:items.size=g.length)(u:I≠c)(dl:l≠c)(K6:l≠I)(Lb:g.length<=1000):
  ∀(p a:Nat)(h:List (ae×Value))(s:Shared)(R:Result->Shared->Prop),a+p=g.length->h.length<=a->s.heap.DictOf (aX) c h->s.heap.IsListIter I l a->s.heap.IsList l items->
   (∀(q:Nat)(t:Value)(e:ae×Value),items[q]? =some t->g[q]? =some e->o3 s.heap t e)->
   (∀i D,i.DictOf (aX) c (merged h (g.drop a))->(∀f d,f≠c->f≠I->s.heap.get? f=some d->i.get? f=some d)->R (.ok (.ret G)) {s with heap:=i,toks:=D})->
   codeAny (model prog w) A (.builtin "dict.update.loop" ⟨[.ref c,.ref I,rawInt a,G],[]⟩) R s:=by
 have La:=Nl;intro p;induction p with
 |zero=>
  intro a h s R b x G6 G7 m y v;refine Pd sv ?_;rw[Py kZ _];show wpAny _ A.in1 (pyNext (.ref I)>>=_) _ _ s;refine M9 (Rh (A:=A.in1) KZ G7 m (PX (mf (Nd K3) (Nd b.symm))) fun i N=>?_);show wpAny _ _ (Builtin.Dict.addKeywords c []>>=_) _ _ _;refine M9 (Nc (Nc ?_));refine v i s.toks ?_ fun f d _ k b=>N f d k b;rw[List.drop_of_length_le (Nd b.symm)];exact G6.at fun d b=>N c d (NZ u) b
 |succ p K5=>
  intro a h s R b x G6 G7 m y v;have K0:a<items.size:=by omega
  obtain⟨e,z⟩:∃e,g[a]? =some e:=⟨_,N2 (by omega)⟩
  have B:items[a]? =some items[a]:=Ow K0;refine bB (y a _ e B z) fun C r E=>?_;have Z:=E.1;have K4:=E.2;have K1:=E.3;rw[Z]at B;refine Pd sv ?_;rw[Py kZ _];show wpAny _ A.in1 (pyNext (.ref I)>>=_) _ _ s;refine M9 (Rg G7 m B fun j KV n=>?_);refine aN (id G7) fun Lf T=>?_;have Q:cm s.heap j:=jg n T.1 (fj T.2);show wpAny _ _ (holding [Value.ref C] _>>=_) _ _ _;refine M9 (N1 ?_);refine M9 (wpAny_tryCatch ?_);obtain⟨K8,O,KX,Lc,KY⟩:=id (Q.tup K4);unfold Builtin.Dict.pairItems;refine M9 (PP (s:={s with heap:=j}) ⟨K8,O,KX⟩ ?_);rw[if_pos (rfl)];refine M9 (O3 (s:={s with heap:=j}) O KY (Nc ?_));show wpAny _ _ (holding [r,e.2] (dictSet c r e.2)) _ _ _;have L:j.DictOf (aX) c h:=G6.at fun d b=>(n.2 c (NZ u)).trans b;refine N1 (Au (s:={s with heap:=j}) K1 L (fun J KU o=>?_) (by omega));refine Nc ⟨Pz kZ _,?_⟩;have K2:J.IsList l items:=(m.at fun d b=>(n.2 l K6).trans b).at fun d b=>(o.2 l dl).trans b;refine ij (id L) fun Ld _ _ U=>?_;have KW:J.IsListIter I l (a+1):=KV.at fun d b=>(o.2 I u).trans b;have KS:rawInt ((a:Int)+1)=rawInt ((a+1:Nat):Int):=rfl;show codeAny _ A (.builtin "dict.update.loop" ⟨[.ref c,.ref I,rawInt ((a:Int)+1),G],[]⟩) R _;rw[KS];refine K5 (a+1) (stored h e.1 e.2) _ R (by omega) ?_ KU KW K2 ?_ ?_
  ·unfold stored;split
   ·rw[Nb];exact mf x (Nv _ _)
   ·rw[Nm];simp;exact x
  ·intro q t K9 V X;refine bB (y q t K9 V X) fun C r H=>?_;exact⟨C,r,H.1,(jg o U.1 (fj U.2.1)).tup (Q.tup H.2),H.3⟩
  ·intro i D KT K7;have Y:g.drop a=e::g.drop (a+1):=by
    rw[RI (by omega)]
    congr 1
    rw[N2 (by omega)]at z;exact NM z
   refine v i D ?_ fun f d k M b=>K7 f d k M ((o.2 f k).trans ((n.2 f M).trans b));rw[Y];exact KT
noncomputable def h2(a:ae×GG):GG:=.tup [a.1.GP,a.2]
theorem af2:∀{d:List Value},ao I d (I8.map h2)->∃a:List (ae×Value),a.length=d.length/\Hk I a I8/\∀(m:Nat)(b:Value)(c:ae×Value),d[m]? =some b->a[m]? =some c->o3 I b c:=by
 induction I8 with
 |nil=>exact fun f=>⟨[],by rw[f.fQ];rfl,.nil,fun w w w w o=>absurd o.symm (QG _)⟩
 |cons q I8 p=>
  intro d f;refine bB (ao.head f) fun u v g=>?_;obtain rfl:=g.1;refine aN (p g.3) fun a h=>?_;refine bB (VR.atT g.2) fun r s i=>?_;obtain rfl:=i.1;refine bB i.3.two fun b n j=>?_;refine⟨(q.1,n)::a,congrArg Nat.succ h.1,.cons j.3 h.2,fun e t c k l=>?_⟩;cases e with
  |zero=>exact NM k▸NM l▸⟨r,b,rfl,(Array.toList_inj.mp j.1:s= #[b,n])▸i.2,ec j.2⟩
  |succ e=>exact h.3 e t c k l
theorem p2(O:(d,GL.list (I8.map h2))∈S)(V:I8.length<=1000)
(KT:∀v g,M (.ref v) ((v,.dict g (I8.foldl (fun l a=>a6 l a.1 a.2) []))::S)):GN q (.type "dict") [.ref d] S M:=by
 have KZ:=Nl;intro t s K1 G u U;obtain⟨K0,rfl,N⟩:=U.one;cases N;obtain⟨e,⟨x,a⟩,X⟩:=u.objs _ O;obtain⟨e⟩:=e;refine aN (af2 X) fun E k=>?_;refine callType_codes (Q₁:=fun C H=>C=.ref s.heap.objs.size/\H={s with heap:=s.heap.push {cls:=.type "dict",data:=.dict #[]}}) F.kt_called_dict (F.kt_typeCall_dict_1 _) F.entry_dict_init (kt_code_dict_new _ ⟨rfl,rfl⟩) ?_;rintro C H ⟨rfl,rfl⟩;have i:(s.heap.push {cls:=.type "dict",data:=.dict #[]}).DictOf (aX) s.heap.objs.size []:=Heap.DictOf.new s.heap;have A:d<s.heap.objs.size:=NE a;have p:(s.heap.push {cls:=.type "dict",data:=.dict #[]}).get? d=some {cls:=.type "list",data:=.seq ⟨e⟩ x}:=Nr _ a;refine⟨i.typeIs,F.args_dict_init_2 _ _,?_⟩;unfold Builtin.«dict.__init__»;refine M9 ?_;unfold Builtin.Dict.selfAndRest;refine M9 (RJ i.typeIs ?_);show wpAny _ _ (pure (s.heap.objs.size,[Value.ref d])) _ _ _;refine Nc ?_;show wpAny _ _ (Builtin.Dict.updateFrom "dict.__init__" s.heap.objs.size (.ref d) [] .none) _ _ _;unfold Builtin.Dict.updateFrom;refine M9 (PP ⟨_,p,rfl⟩ ?_);rw[if_pos (rfl)];refine M9 (CE (A:=t.in1.in1) (sl:= #[]) p G.GR fun c KW j=>?_);rw[if_pos (rfl)];refine M9 (OF ?_);have D:c.get? d=some {cls:=.type "list",data:=.seq ⟨e⟩ x}:=j _ _ p;have n:s.heap.objs.size<c.objs.size:=by
  refine jm i fun f w w KY=>?_;exact NE (j _ _ KY.1)
 refine M9 (PJ (s:={s with heap:=c,toks:=KW}) (items:=⟨e⟩) ⟨_,D,rfl,_,rfl⟩ ?_);refine Nc ⟨Pz kZ _,?_⟩;have o:aV c (c.push {cls:=.type "list_iterator",data:=.fields #[.ref d,.int 0 0]}):=fun m f b=>Nr _ b;have z:aV s.heap (c.push {cls:=.type "list_iterator",data:=.fields #[.ref d,.int 0 0]}):=fun m f b=>o _ _ (j _ _ (Nr _ b));refine Aw (A:=t.in1) (I:=c.objs.size) (l:=d) (items:=⟨e⟩) G.GR E (k.1.symm) (PY n) (NH A) (NH (OG A n)) (mf (Nd k.2.length) V) E.length 0 [] _ _ (by omega) (Ni _)
  (i.at fun f b=>o _ _ (j _ _ b)) ⟨_,Ny _ rfl,rfl,rfl⟩ ⟨_,o _ _ D,rfl,_,rfl⟩ (fun Y KX a J L=>?_) fun y KV G6 Z=>⟨rfl,?_⟩
 ·refine bB (k.3 Y KX a (by simpa using J) L) fun KU KS r=>?_;exact⟨KU,KS,r.1,r.2.keeps z,r.3⟩
 ·have ext:aV s.heap y:=fun m f b=>by
   have B:=NE b;exact Z m f (NH B) (NH (OG B n)) (z _ _ b)
  have Q:=(Hk.nil (κ:=ae) (h:=y)).merge (k.2.mono (eO ext));obtain⟨g,T⟩:=gE G6 Q;exact gk (tk:=KV) (Q:=M) (ao:=.dict g (I8.foldl (fun l a=>a6 l a.1 a.2) [])) u ext hv rfl gp T (KT _ g)
end
section
variable{S:aa}
noncomputable def gX(c b:List (ae×GG)):Bool:=b.all fun a=> @decide (ay c a.1=some a.2) (Classical.propDecidable _)
noncomputable def iu(b:List (ae×GG)):Prop:=∀c∈b,∃a,c.2=.int a
theorem Ar(a:ay I8 Jr=some i):(Jr,i)∈I8:=by
 unfold ay at a;cases b:I8.find? (fun c=>decide (c.1=Jr))with
 |none=>replace a:=b▸a;exact nomatch a
 |some c=>
  replace a:=b▸a;have d:=List.find?_some b;simp only[decide_eq_true_eq]at d;simp only[QA,QQ]at a;obtain⟨e,f⟩:=c;simp only at d a;subst d;subst a;exact(SK b)
theorem Eg(s:Hk p.heap J2 I8)(o:iu I8){i:List (ae×Value)}(r:Hk p.heap i Ky):iu Ky->KeqHits Q p J2 i (gX I8 Ky):=by
 induction r with
 |nil=>exact fun w=>.nil
 | @cons b y j A v k x e=>
  intro g;have e:=e fun q n=>g q (.tail _ n);show KeqHits Q p J2 _ (@decide (ay I8 b=some j) (Classical.propDecidable _)&&gX I8 v);rcases s.get b with⟨c,a⟩|⟨z,u,c,a,t⟩
  ·rw[a,@decide_eq_false _ (Classical.propDecidable _) nofun,Qf];exact .miss c
  ·obtain⟨f,l⟩:=g (b,j) (.head _);obtain⟨h,m⟩:=o (b,u) (Ar a);cases l;cases m;cases k;cases t;refine .hit c ?_ e;rw[a,(decide_eq_decide.mpr ⟨fun d=>(GG.int.inj (NM d)).symm,fun d=>by rw[d]⟩: @decide (some (GG.int h)=some (GG.int f)) (Classical.propDecidable _)=decide (f=h))];exact SeqAt.EqAt.int_int _ _ _ _
theorem ae3(o:aw e.A q)(h:∃m,base.get? sysModules=some m)(f:(d,GL.dict v I8)∈S)(g:(H,GL.dict Jd Ky)∈S)(k:iu I8)(l:iu Ky)
(n:B (.bool (I8.length==Ky.length&&gX Ky I8)) t S):aE e (compareOp .Eq) (.ref d) (.ref H) VR t S B:=by
 intro p r u a i j;cases i;cases j;refine ah (a.led.dict f) fun s b=>?_;refine ah (a.led.dict g) fun x c=>?_;refine keq_eq (r:=gX Ky I8) (a.led.noSys h (ct f (Nz))) (a.led.noSys h (ct g (Nz))) b.1.dictOf c.1.dictOf (by have:=o.u;omega(config:={})) (fun y=>Eg c.2 l b.2 k) (b3 a (.bool _) ?_);rw[b.2.length,c.2.length];exact n
end
section
variable{S:aa}
inductive bP(S:aa):GG->String->Prop
 |int (i:Int):bP S (.int i) "int"
 |str (x:Str):bP S (.str x) "str"
 |tup (a:List GG):bP S (.tup a) "tuple"
 |list {b:Addr} {a:List GG}:(b,GL.list a)∈S->bP S (.ref b) "list"
 |dict {d:Addr} {GH:Nat} {c:List (ae×GG)}:(d,GL.dict GH c)∈S->bP S (.ref d) "dict"
theorem bP.typeIs(f:bP S i JY)(c:LR S p.heap)(a:VR p.heap G i):p.TypeIs G JY:=by
 cases f with
 |int d=>cases a;exact typeIs_int _ _ _
 |str o=>cases a;exact typeIs_str _ _ _
 |tup q=>cases a with|tup d _=>refine aN d fun g e=>?_;exact⟨g,e.1,e.2⟩
 |list b=>cases a;refine ah (c.objs _ b) fun n j=>?_;obtain⟨l,h⟩:=j.1;exact⟨_,h,rfl⟩
 |dict b=>cases a;refine ah (c.dict b) fun m k=>?_;exact k.1.dictOf.typeIs
theorem zs{a:String}(h:bP S i JY)(f:typeOf (.type a)=pure (.type "type"))(e:isSubtype (.type JY) (.type a)=pure true)(j:M (.bool true) S):GN q (.builtin "isinstance") [i,.raw (.type a)] S M:=by
 intro k p n l b g;obtain⟨m,o,rfl,c,d⟩:=g.two;cases d;exact call_isinstance_yes (h.typeIs b c) f e (mi (Q:=M) b (.bool true) j)
theorem zr{f:String}(r:bP S i JY)(b:(Value.type JY==Value.type f)=false)(d:typeOf (.type f)=pure (.type "type"))(c:isSubtype (.type JY) (.type f)=pure false)(u:M (.bool false) S):
  GN q (.builtin "isinstance") [i,.raw (.type f)] S M:=by
 intro A p v H g o;obtain⟨I,J,rfl,a,l⟩:=o.two;obtain rfl:=l.iB;have e:=dS (Q:=M) g (p.toks+1) (.bool false) u;obtain⟨E,D,C,j,os⟩:=p;cases r with
 |int G=>obtain⟨j,rfl⟩:=a.gh;exact PZ (isinstance_nested_false_int b d c e)
 |str L=>obtain⟨j,rfl⟩:=a.atS;exact PZ (isinstance_nested_false_str b d c e)
 |tup N=>obtain⟨j,x,rfl,⟨s,n,m,_⟩,_⟩:=a.atT;exact PZ (isinstance_nested_false_tuple n m b d c e) nofun
 |list h=>obtain rfl:=a.dr;refine ah (g.objs _ h) fun x y=>?_;obtain⟨B,t⟩:=y.1;exact PZ (isinstance_nested_false_list t rfl b d c e) nofun
 |dict h=>
  obtain rfl:=a.dr;refine ah (g.dict h) fun v z=>?_;refine ah z.1.dictOf.typeIs fun s k=>?_;exact PZ (isinstance_nested_false_dict k.1 k.2 b d c e) nofun
theorem p5(P:Pg)(v:bP S i JY)(g:∀b,isNotIn (KF b) JY d=true)(y:M (.bool false) S):GN q (.builtin "isinstance") [i,.raw (.ref d)] S M:=by
 intro D p z G j u;obtain⟨H,I,rfl,f,t⟩:=u.two;obtain rfl:=t.iB;have h:=dS (Q:=M) j (p.toks+1) (.bool false) y;obtain⟨b,x⟩:=P.bc;have c:=x.keeps j.keep;cases v with
 |int E=>obtain⟨s,rfl⟩:=f.gh;exact isn_call (P:=fun w=>True) c (fun k=>Looks.of_pure rfl) (g b) nofun trivial int_cls h
 |str J=>obtain⟨s,rfl⟩:=f.atS;exact isn_call (P:=fun w=>True) c (fun k=>Looks.of_pure rfl) (g b) nofun trivial str_cls h
 |tup L=>obtain⟨s,A,rfl,⟨a,o,n,_⟩,_⟩:=f.atT;exact isn_call (P:=fun e=>∃a,e.get? _=some a/\a.cls=.type "tuple") c (fun k=>by rw[<-n];exact(Looks.ld (part:=none) o).andThen .now) (g b) nofun ⟨a,o,n⟩ tuple_cls h
 |list m=>obtain rfl:=f.dr;refine ah (j.objs _ m) fun A B=>?_;obtain⟨d,r⟩:=B.1;exact isn_call (P:=fun e=>∃a,e.get? _=some a/\a.cls=.type "list") c (fun k=>(Looks.ld (part:=none) r).andThen .now) (g b) nofun ⟨_,r,rfl⟩ list_cls h
 |dict m=>
  obtain rfl:=f.dr;refine ah (j.dict m) fun z C=>?_;refine ah C.1.dictOf.typeIs fun a l=>?_;exact isn_call (P:=fun e=>∃a,e.get? _=some a/\a.cls=.type "dict") c (fun k=>by rw[<-l.2];exact(Looks.ld (part:=none) l.1).andThen .now) (g b) nofun ⟨a,l.1,l.2⟩ dict_cls h
theorem zq(e:(d,GL.inst H IX J8)∈S)(g:M (.bool true) S):GN q (.builtin "isinstance") [.ref d,.raw (.ref H)] S M:=by
 intro i p l j a f;obtain⟨k,m,rfl,b,c⟩:=f.two;cases b;cases c;refine aW (a.objs _ e) fun h=>?_;refine PZ ?_ nofun;refine M9 (((Looks.ld (part:=none) h.1).andThen .now:Looks (model prog w) p.heap (typeOf (.ref d)) (.ref H)).here ?_);rw[if_pos (by simp)]
 repeat (first|refine Nc ?_|refine OF ?_|refine M9 ?_)
 exact mi (Q:=M) a (.bool true) g
theorem tw:∀a∈(["int","list","dict","tuple","str"]:List String),∀b∈[155,183,205,226,254,314,368],∀d,isNotIn (KF d) a b=true:=by
 intro a GX b c d;simp only[Nk,N0,or_false]at GX c;rcases GX with rfl|rfl|rfl|rfl|rfl<;>rcases c with rfl|rfl|rfl|rfl|rfl|rfl|rfl<;>rfl
noncomputable def e1(b a:String):Prop:=(Value.type b==Value.type a)=false/\typeOf (.type a)=pure (.type "type")/\isSubtype (.type b) (.type a)=pure false
noncomputable def ia(b a:String):Prop:=typeOf (.type a)=pure (.type "type")/\isSubtype (.type b) (.type a)=pure true
theorem ab2:e1 "int" "bool":=⟨by decide+kernel,by kernel_rfl,by rw[Oc];kernel_rfl⟩
theorem ab3:e1 "int" "str":=⟨by decide+kernel,by kernel_rfl,by rw[Oc];kernel_rfl⟩
theorem ab7:e1 "str" "int":=⟨by decide+kernel,by kernel_rfl,by rw[Oc];kernel_rfl⟩
theorem ab9:e1 "tuple" "str":=⟨by decide+kernel,by kernel_rfl,by rw[Oc];kernel_rfl⟩
theorem ab8:e1 "tuple" "int":=⟨by decide+kernel,by kernel_rfl,by rw[Oc];kernel_rfl⟩
theorem ab4:e1 "list" "bool":=⟨by decide+kernel,by kernel_rfl,by rw[Oc];kernel_rfl⟩
theorem ab5:e1 "list" "int":=⟨by decide+kernel,by kernel_rfl,by rw[Oc];kernel_rfl⟩
theorem abj:e1 "dict" "bool":=⟨by decide+kernel,by kernel_rfl,by rw[Oc];kernel_rfl⟩
theorem ab0:e1 "dict" "int":=⟨by decide+kernel,by kernel_rfl,by rw[Oc];kernel_rfl⟩
theorem ab1:e1 "dict" "list":=⟨by decide+kernel,by kernel_rfl,by rw[Oc];kernel_rfl⟩
theorem apc:ia "int" "int":=⟨by kernel_rfl,by rw[Oc];kernel_rfl⟩
theorem ape:ia "str" "str":=⟨by kernel_rfl,by rw[Oc];kernel_rfl⟩
theorem apf:ia "tuple" "tuple":=⟨by kernel_rfl,by rw[Oc];kernel_rfl⟩
theorem apd:ia "list" "list":=⟨by kernel_rfl,by rw[Oc];kernel_rfl⟩
theorem apb:ia "dict" "dict":=⟨by kernel_rfl,by rw[Oc];kernel_rfl⟩
theorem fc{b:String}(c:bP S i JY)(a:e1 JY b)(d:M (.bool false) S):GN q (.builtin "isinstance") [i,.raw (.type b)] S M:=zr c a.1 a.2.1 a.2.2 d
theorem iG{a:String}(c:bP S i JY)(b:ia JY a)(d:M (.bool true) S):GN q (.builtin "isinstance") [i,.raw (.type a)] S M:=zs c b.1 b.2 d
end
theorem oa{d:Tok}{a:List DictEntry}:a.find? (·.key.isStr h)=none->putL h k (.str h d) G a=a++[⟨k,.str h d,G⟩]:=by
 induction a with
 |nil=>exact fun y=>rfl
 |cons e g f=>
  intro b;have c:=Bool.not_eq_true _▸PU.mp b e (.head _);rw[Oy,c]at b;unfold putL;rw[if_neg (c▸Oe),f b];rfl
theorem kg{b:List DictEntry}(a:getL h b=some none):b.find? (·.key.isStr h)=none/\b.any (·.refKey)=false:=by
 unfold getL at a;cases c:b.find? (·.key.isStr h)with
 |some e=>replace a:=c▸a;cases a
 |none=>
  replace a:=c▸a;by_cases d:b.any (·.refKey)=true
  ·replace a:=(if_pos d)▸a;exact nomatch a
  ·exact⟨rfl,Bool.not_eq_true _▸d⟩
theorem CF{l:Tok}{d:List DictEntry}{f:List (Str×Value)}(g:∀a,getL a d=some (f.lookup a))(j:f.lookup h=none)(a:Str):
  getL a (putL h k (.str h l) G d)=some ((f++[(h,G)]).lookup a):=by
 have e:=kg ((g h).trans (congrArg some j));rw[oa e.1];have b:=g a;unfold getL at b⊢;rw[List.find?_append];cases i:d.find? (·.key.isStr a)with
 |some c=>
  rw[i]at b;simp only[RK,QQ]at b⊢;rw[O4,<-b];rfl
 |none=>
  replace b:=i▸b;rw[if_neg (by rw[e.2];decide)]at b;rw[O4,((NM b).symm)];simp only[RL,Oy,List.find?_nil,Value.isStr,NF,List.lookup_nil];by_cases c:h=a
  ·subst c;simp
  ·rw[(by simpa using c:(h==a)=false),(by simpa using NZ c:(a==h)=false)];simp only[List.any_append,e.2,OM,List.any_nil,Bool.or_false,P0];rfl
section
variable{S:aa}{s:Shared}
theorem td(f:LR S s.heap)(i:(d,GL.inst H IX J8)∈S):∃b c,InstAt s.heap d ⟨.ref H,some IX,.plain,#[]⟩ H (some (dictOf b c))/\∃a:List (Str×Value),(∀e,getL e b=some (a.lookup e))/\a.map (fun x=>x.1)=J8.map (fun x=>x.1)/\ao s.heap (a.map (fun x=>x.2)) (J8.map (fun x=>x.2)):=by
 obtain⟨j,b,c,k,a,h,⟨g,_⟩,l⟩:=f.objs _ i;exact⟨b,c,⟨j,rfl,rfl,k⟩,a,h,g,l⟩
theorem F2{c:List (Str×Value)}:∀{a:List (Str×GG)}{d:Str}{e:GG},c.map (fun x=>x.1)=a.map (fun x=>x.1)->ao I (c.map (fun x=>x.2)) (a.map (fun x=>x.2))->a.lookup d=some e->∃g,c.lookup d=some g/\VR I g e:=by
 induction c with
 |nil=>intro a d e f l b;cases a with
  |nil=>cases b
  |cons i a=>cases f
 |cons h c p=>intro a d e f l b;cases a with
  |nil=>cases f
  |cons i a=>
   refine aW (Oz f) fun m=>?_;rw[NF]at b⊢;rw[show h.1=i.1 from m.1];refine bB l.head fun g q j=>?_;have o:=j.1;refine aW (Oz o) fun n=>?_;cases k:d==i.1 with
   |true=>rw[k]at b;rw[<-NM b];exact⟨h.2,rfl,by rw[show h.2=g from n.1];exact j.2⟩
   |false=>rw[k]at b;exact p m.2 (n.2▸j.3) b
theorem Ea(a:VR I G (.ref d)):handedIn G=true:=by cases a;rfl
theorem vM:∀a b,b=("table":Str)\/b=("trailer":Str)->plainGet (KF a) 368 b=true/\hasDictIn (KF a) 368=true/\findIn (KF a) (.ref 368) b=some none/\findIn (KF a) (.ref 368) "__setattr__"=some (some (.builtin "object.__setattr__"))/\plainOver (KF a) 368=true/\takerIn (KF a) 368 b=some none:=by
 rintro a b (rfl|rfl)<;>exact⟨rfl,rfl,rfl,rfl,rfl,rfl⟩
theorem lZ(P:Pg)(A:h="table"\/h="trailer")
(v:GK e (eval o e.env) VR t S fun k j a=>∃f l d b,k=.ref f/\(f,GL.inst 368 l d)∈a/\d.lookup h=some (.ref b)/\B (.ref b) j a)
(x:autoParam (attributeBase o h e.env (eval o e.env)=eval o e.env) aP):GK e (eval (.Attribute o h N) e.env) VR t S B:=by
 intro s H;rw[arm_eval_Attribute,x];refine M9 (v.run H fun m k j a O D c J L=>?_);obtain⟨f,l,d,b,q,z,y,G⟩:=L;subst q;cases D;refine M9 (OT ?_);obtain⟨C,E⟩:=P.bc;obtain⟨r,M,n,Q,u,p,I⟩:=td c.led z;refine ah (F2 p I y) fun m g=>?_;refine wy (vM C h A) fun i=>?_;refine M9 (N1 (get_value (E.keeps c.led.keep) n (plainGet_of i.1).1 (findObj_own i.2 i.3 rfl (by rw[u,g.1]:getL h r=some (some m))) (Ea g.2) ?_));refine M9 (Rr (Nc ?_));exact⟨.ref b,j,a,g.2,c.tok _,J.trans (aq.tok ..) c.alive,G⟩
theorem aig{F:GL->aa}(P:Pg)(X:h="table"\/h="trailer")(m:LR S s.heap)
(u:bk d (.inst 368 H J8) S F)(U:J8.lookup h=none)(KS:J8.length<=100)(Z:VR s.heap G i)
(j:∀p KU,LR (F (.inst 368 H (J8++[(h,i)]))) p->(∀b c,b≠H->s.heap.get? b=some c->p.get? b=some c)->JM () {s with heap:=p,toks:=KU}):wpAny (model prog w) Q (setAttr (.ref d) h G) JM I4 s:=by
 obtain⟨A,KT⟩:=P.bc;have o:(KF A).In s.heap:=KT.keeps m.keep;obtain⟨e,a,r,g,k,z,⟨f,x⟩,KV⟩:=m.objs _ u.mem;have v:InstAt s.heap d ⟨.ref 368,some H,.plain,#[]⟩ 368 (some (dictOf a r)):=⟨e,rfl,rfl,g⟩
 refine wy (vM A h X) fun n=>?_;have L:=n.5;have M:=n.6;have B:k.lookup h=none:=by
  cases j:k.lookup h with
  |none=>rfl
  |some KY=>
   have t:h∈k.map (fun x=>x.1):=by
    have:=bI j;exact Na.mpr ⟨_,this,rfl⟩
   replace t:=f▸t;have:=i2 (l:=J8) t;replace this:=U▸this;exact nomatch this
 have q:getL h a=some none:=by rw[z,B]
 have V:k.length=J8.length:=by have:=congrArg List.length f;simpa using this
 have Y:=Nl;refine set_plain o v n.4 ?_;refine osa_open (s:={s with toks:=s.toks+1}) o v L M fun b=>?_;refine ah (any_some n.2) fun KX E=>?_;have T:=E.1;refine M9 (Nc (M9 (M9 (QR (s:={s with toks:=s.toks+1}) e (M9 ((looks_clsIn (h:=s.heap) o T).here (s:={s with toks:=s.toks+1}) ?_))))));rw[E.2];refine Nc (a:=some H) (M9 (Nc (M9 ?_)));refine M9 (M9 (PA (Nc (M9 (wpAny_mkText (M9 (QR (s:={s with toks:=s.toks+1+1}) g ?_)))))));dsimp only;have I:(!a.toArray.any (·.key.isStr h)&&a.toArray.any (·.refKey))=false:=by
  rw[List.any_toArray,List.any_toArray,(kg q).2,QH]
 rw[aRefKeyMayBeTheName_at,I];have y:=putName_dict h (PyData.keyHash w.params h) (.str h (s.toks+1)) G a r;have same:∀b c,b≠H->s.heap.get? b=some c->(s.heap.update H (Obj.putName h (PyData.keyHash w.params h) (.str h (s.toks+1)) G)).get? b=some c:=fun b c O f=>(QS _ _ _ _ O).trans f;have C:(s.heap.update H (Obj.putName h (PyData.keyHash w.params h) (.str h (s.toks+1)) G)).get? H=some (dictOf (putL h (PyData.keyHash w.params h) (.str h (s.toks+1)) G a) (putN h a r)):=by
  rw[OO _ g (by rw[y];rfl),y]
 refine wpAny_updatePart (s:={s with toks:=s.toks+1+1}) g ?_;refine M9 (RM (s:={s with heap:=_,toks:=s.toks+1+1}) C (by
  refine RN ?_
  rw[QL]
  have:(putL h (PyData.keyHash w.params h) (.str h (s.toks+1)) G a).length=a.length+1:=by
   rw[oa (kg q).1,Nm];rfl
  exact mf (Nd this) (Np (mf (aj (mf (Nd x) (mf (Nd V) KS)) rfl) (Nd Y.symm)) _)) ?_)
 refine Nc ?_;have D:=fv m (u (.inst 368 H (J8++[(h,i)]))) (b:=H) (PT _ Nz) same;have J:d≠H:=fun j=>by replace e:=g▸j▸e;cases e
 refine j _ _ (m.turn (u (.inst 368 H (J8++[(h,i)]))) (b:=H) (PT _ Nz) same rfl (fun _ N=>(nomatch N)) ⟨same _ _ J e,_,_,C,k++[(h,G)],fun KW=>CF z B KW,⟨by simp[f],?_⟩,?_⟩) same
 ·rw[oa (kg q).1];simp[x]
 ·rw[Ng,Ng];exact(KV.mono D).append (.cons (Z.mono D) .nil)
end
section
variable{S:aa}
theorem EI:∀{b:List Value},ao I b (l.map .str)->∃a:List (Str×Tok),b=strValues a/\a.map (fun x=>x.1)=l:=by
 induction l with
 |nil=>intro b c;exact⟨[],c.fQ,rfl⟩
 |cons d l g=>
  intro b c;obtain⟨j,k,rfl,f,h⟩:=c.head;obtain⟨i,rfl⟩:=f.v0;refine ah (g h) fun a e=>?_;obtain rfl:=e.1;exact⟨(d,i)::a,rfl,congrArg (d::·) e.2⟩
theorem p6{ss:List Str}(f:(d,GL.list (ss.map .str))∈S)(g:(ss.map (·.length)).sum+ss.length*h.length<=16777216)(m:M (.str (Txt.join h ss)) S):GN q (.builtin "str.join") [.str h,.ref d] S M:=by
 intro o p t r a i;obtain⟨s,u,rfl,c,e⟩:=i.two;cases c;cases e;obtain⟨⟨v⟩,l,j⟩:=a.objs _ f;refine ah (EI j) fun d b=>?_;obtain rfl:=b.1;exact SC.join l.isList b.2 (joinOk_of g) fun n k=>dS (Q:=M) a k (.str _ n) m
theorem zL{a:Int}(g:a≠0)(h:Builtin.divisionGoesByPylong (IY-k) a=false)(j:M (.c4 k IY a) S):GN q (.type "range") [.int k,.int IY,.int a] S M:=by
 intro l p r n b i;obtain⟨o,s,t,rfl,d,e,f⟩:=i.three;cases d;cases e;cases f;exact call_range_3 g (iF (tk:=p.toks) b (fun IY m c=>Nr _ c) (.c4 (IsRange.new ..)) j) (.inl h)
theorem xm
(k:GK e (eval o e.env) VR t S fun c d b=>∃a,c=.bool a/\(a=true->GK e (eval (.BoolOp .And (X::IS) N) e.env) VR d b B)/\(a=false->B (.bool false) d b)):
  GK e (eval (.BoolOp .And (o::X::IS) N) e.env) VR t S B:=fun p q=>
 BoolOp_and (k.run q fun y c d b x f g h s=>by
  obtain⟨a,j,l,m⟩:=s
  subst j;cases f
  refine Pq ?_
  cases a with
  |true=>rw[if_pos rfl];exact(l rfl).run g fun w c v i w f r u n=>⟨c,v,i,f,r,h.trans u g.alive,n⟩
  |false=>rw[if_neg (by decide)];exact⟨.bool false,d,b,.bool _,g,h,m rfl⟩)
theorem xD
(k:GK e (eval o e.env) VR t S fun c d b=>∃a,c=.bool a/\(a=false->GK e (eval (.BoolOp .Or (X::IS) N) e.env) VR d b B)/\(a=true->B (.bool true) d b)):
  GK e (eval (.BoolOp .Or (o::X::IS) N) e.env) VR t S B:=fun p q=>
 BoolOp_or (k.run q fun y c d b x f g h s=>by
  obtain⟨a,j,l,m⟩:=s
  subst j;cases f
  refine Pq ?_
  cases a with
  |false=>rw[if_neg (by decide)];exact(l rfl).run g fun w c v i w f r u n=>⟨c,v,i,f,r,h.trans u g.alive,n⟩
  |true=>rw[if_pos rfl];exact⟨.bool true,d,b,.bool _,g,h,m rfl⟩)
theorem xq{b:BoolOp}(a:GK e (eval o e.env) VR t S B):GK e (eval (.BoolOp b [o] N) e.env) VR t S B:=fun p c=>BoolOp_one (a p c)
theorem afj(c:h.length<=sizeLine)(i:B (.str (Txt.slice h none (some k))) t S):ga e (.str h) none (some k) t S B:=by
 intro p q o r s j b a f g _;cases b;cases f;cases g with
 |int k m=>
 refine⟨"str",_,typeIs_str _ _ _,PySem.F.slot_str_getitem.lookup,?_⟩;exact wpAny_getItem_str_slice (l:=none) (u:=some (k,m)) (st:=none) a rfl (post_val_or_str ⟨mf (Txt.slice_le h _ _) c,fun n d=>ef j d (.str _ n) i⟩)
theorem afc{x:Int}(m:(d,GL.list z)∈S)(y:x<2^63)(A: -(2^63:Int)<=x)(n:z.length*x.toNat<=2^24)(s:∀i,B (.ref i) t ((i,.list (List.replicate x.toNat z).flatten)::S)):
  aE e (binaryOp .Mult) (.ref d) (.int x) VR t S B:=by
 intro p C D l q h;cases q;cases h with
 |int _ f=>
 obtain⟨⟨a⟩,⟨k,b⟩,j⟩:=l.led.objs _ m;have o:a.toArray.size*x.toNat<=2^24:=by rw[QL];rw[j.length];exact n
 refine wpAny_binaryOp_repeat_ref (T:="list") (U:="int") (rfl) ⟨_,b,rfl⟩ (fun v=>typeIs_int v x f) noFill_list_mul F.fills_int_mul F.slot_int_rmul repeat_list F.slot_int_index.lookup
  (Qi F.slot_int_rmul (typeIs_int p x f) F.entry_int_rmul (F.args_int_rmul_2 _ _) (lm_int_rmul_list_any x f d a.toArray k none #[])
   ⟨b,rfl,⟨_,b,rfl⟩,Qi F.slot_list_mul ⟨_,b,rfl⟩ F.entry_list_mul (F.args_list_mul_2 _ _)
    (lm_list_mul_any d a.toArray k none #[] x f (by simp[Builtin.List.listFitsIndex];omega(config:={})) (by omega(config:={})) (by simp[Builtin.List.listTooLong,sizeLine];simpa using o))
    ⟨b,?_⟩⟩)
 have u:∀(g:Heap)(c:Nat),ao g a z->ao g (List.replicate c a).flatten (List.replicate c z).flatten:=by
  intro g c h;induction c with
  |zero=>exact .nil
  |succ c r=>rw[List.replicate_succ,List.replicate_succ,List.flatten_cons,List.flatten_cons];exact h.append r
 rw[listMul_foldl_if];exact n9 (α:=Unit) l (us:=(List.replicate x.toNat a).flatten.toArray) (by simpa using u p.heap x.toNat j) s
end
theorem GB{lo a d:Nat}(e:lo<a)(f:a-lo<=d+1):lo<=(lo+a)/2/\(lo+a)/2<a/\a-((lo+a)/2+1)<=d/\(lo+a)/2-lo<=d:=by
 have b:lo<=(lo+a)/2:=(Nat.le_div_iff_mul_le (by decide)).mpr (by rw[Nat.mul_two];exact Om (Nq e) lo);have c:(lo+a)/2<a:=(Nat.div_lt_iff_lt_mul (by decide)).mpr (by rw[Nat.mul_two];exact Nat.add_lt_add_right e a);generalize (lo+a)/2=g at b c;exact⟨b,c,SM (mf (Nat.sub_lt_sub_left e (Nat.lt_succ_of_le b)) f),Nh (Oj (Nat.sub_lt_sub_right b c) f)⟩
noncomputable def wH(b:List Nat)(d c:Nat):Prop:=c<=b.length/\(∀a(e:a<b.length),a<c->b[a]<d)/\∀a(e:a<b.length),c<=a->d<=b[a]
theorem yk{b c lo a:Nat}:SetTable.below.go JS b (c+1) lo a=if lo<a then(if JS.getD ((lo+a)/2) b<b then SetTable.below.go JS b c ((lo+a)/2+1) a else SetTable.below.go JS b c lo ((lo+a)/2))else lo:=rfl
theorem yi{b:List Nat}(y:b.Pairwise (·<·))(g:Nat)(k:Nat):∀(lo c:Nat),lo<=c->c<=b.length->c-lo<=k->(∀a(e:a<b.length),a<lo->b[a]<g)->(∀a(e:a<b.length),c<=a->g<=b[a])->wH b g (SetTable.below.go b.toArray g k lo c):=by
 have u:∀a i(c:a<b.length)(s:i<b.length),a<i->b[a]<b[i]:=fun a i c s e=>RO.mp y a i c s e;induction k with
 |zero=>
  intro lo c p h q m l;obtain rfl:lo=c:=OY p (Nat.le_of_sub_eq_zero (QT.mp q));exact⟨h,m,l⟩
 |succ k t=>
  intro lo c p h q m l;rw[yk];by_cases n:lo<c
  ·rw[if_pos n];refine df (GB n q) fun j=>?_;generalize (lo+c)/2=d at*;have o:d<b.length:=Oj j.2 h;rw[(by simp[Array.getD,o]:b.toArray.getD d g=b[d])];by_cases f:b[d]<g
   ·rw[if_pos f];refine t (d+1) c j.2 h j.3.1 (fun a e x=>?_) l;rcases RP (Nh x)with r|rfl
    ·exact OG (u a d e o r) f
    ·exact f
   ·rw[if_neg f];refine t lo d j.1 (Nq o) j.3.2 m fun a e v=>?_;rcases RP v with r|rfl
    ·exact mf (PO f) (Nq (u d a o e r))
    ·exact(PO f)
  ·rw[if_neg n];obtain rfl:lo=c:=OY p (PO n);exact⟨h,m,l⟩
theorem l4(g:JS.toList.Pairwise (·<·))(b:Nat):SetTable.below JS b<=JS.toList.length/\(∀a(c:a<JS.toList.length),a<SetTable.below JS b->JS.toList[a]<b)/\∀a(c:a<JS.toList.length),SetTable.below JS b<=a->b<=JS.toList[a]:=by
 obtain⟨d⟩:=JS;exact yi g b d.length 0 d.length (NN _) (Ni _) (Ni _) (fun a c f=>absurd f (Nat.not_lt_zero _)) (fun a c e=>absurd c (Pe e))
theorem yj(d:JS.toList.Pairwise (·<·))(c:q<JS.toList.length):SetTable.below JS (JS.toList[q]+1)=q+1:=by
 refine df (l4 d (JS.toList[q]+1)) fun b=>?_;rcases Nat.lt_trichotomy (SetTable.below JS (JS.toList[q]+1)) (q+1)with a|a|a
 ·have:=b.3 q c (by omega);omega
 ·exact a
 ·have:=b.2 (q+1) (mf a b.1) a;have e:=RO.mp d q (q+1) c (mf a b.1) (Ni _);omega
theorem yl(c:JS.toList.Pairwise (·<·)):SetTable.below JS 0=0:=by
 refine df (l4 c 0) fun b=>?_;rcases Nat.eq_zero_or_pos (SetTable.below JS 0)with a|a
 ·exact a
 ·have:=b.2 0 (mf a b.1) a;omega
theorem Eo(e:JS.toList.Pairwise (·<·))(p:JS[SetTable.below JS q]?≠some q):(SetTable.insertAt JS (SetTable.below JS q) q).toList.Pairwise (·<·):=by
 refine df (l4 e q) fun h=>?_;generalize u:SetTable.below JS q=b at*;have o:(SetTable.insertAt JS b q).toList=JS.toList.take b++q::JS.toList.drop b:=by
  unfold SetTable.insertAt;simp[Array.toList_extract,List.extract_eq_take_drop];rw[OP (by simp)]
 rw[o,RQ];have l:∀a(c:a<JS.toList.length),b<=a->q<JS.toList[a]:=fun a c g=>by
  rcases RP (h.3 a c g)with f|f
  ·exact f
  ·exfalso;by_cases i:a=b
   ·cases i;apply p;rw[<-O1,N2 c,f]
   ·have m:b<JS.toList.length:=NV g c;exact O9 _ (NV (f▸h.3 b m (Ni _)) (RO.mp e b a m c (QU g (NZ i))))
 refine⟨e.sublist (List.take_sublist _ _),?_,?_⟩
 ·refine OL.mpr ⟨fun s d=>?_,e.sublist (List.drop_sublist _ _)⟩;obtain⟨a,j,rfl⟩:=RR d;rw[List.getElem_drop];exact l _ _ (Nv _ _)
 ·intro x r s d;obtain⟨a,j,rfl⟩:=RR r;have k:a<b/\a<JS.toList.length:=Nat.lt_min.mp (Pf▸j);rw[List.getElem_take];have n:=h.2 a k.2 k.1;rcases Nk.mp d with rfl|d
  ·exact n
  ·obtain⟨v,t,rfl⟩:=RR d;rw[List.getElem_drop];exact OG n (l _ _ (Nv _ _))
noncomputable def hm(b:SetTable)(a:Nat):Prop:=b.place[SetTable.below b.place a]?≠some a
theorem ajd(b:∀c,I6.slot q≠ .live c):hm I6 q:=by
 intro a;apply b (SetTable.below I6.place q);unfold SetTable.slot;dsimp only;rw[a];simp
theorem pc{p:SetTable.Probe}:(I6.advance p).dummy=p.dummy:=by
 show(ite (p.more>0) _ _:SetTable.Probe).dummy=_;by_cases a:p.more>0
 ·rw[if_pos a]
 ·rw[if_neg a]
theorem agf{hashAt:Nat->Int}(h:Nat):∀(b:SetTable.Probe){i:Nat}{g:Option Nat},(∀e,b.dummy=some e->hm I6 e)->SetTable.probe.go I6 hashAt k h b=some (.empty i g)->hm I6 i/\∀e,g=some e->hm I6 e:=by
 induction h with
 |zero=>intro b i g _ j;exact(QG _ (Eq.symm (a:=none) j)).elim
 |succ h o=>
  intro b i g n j;have st:∀f,I6.slot b.j=f->(match f with
    |.empty=>some (.empty b.j b.dummy)
    |.dummy=>SetTable.probe.go I6 hashAt k h (I6.advance {b with dummy:=some b.j})
    |.live d=>if hashAt d==k then some (.candidate b.j d (I6.advance b))else SetTable.probe.go I6 hashAt k h (I6.advance b))=some (SetTable.Met.empty i g):=fun f c=>c▸j
  have p:∀f,I6.slot b.j=f->(∀d,f≠ .live d)->hm I6 b.j:=fun f c s=>ajd fun d t=>s d (c.symm.trans t);cases c:I6.slot b.j with
  |empty=>
   have⟨q,r⟩:=SetTable.Met.empty.inj (NM (st _ c));exact⟨q▸p _ c nofun,r▸n⟩
  |dummy=>exact o _ (fun e l=>NM ((pc (p:={b with dummy:=some b.j})).symm.trans l)▸p _ c nofun) (st _ c)
  |live d=>
   by_cases m:(hashAt d==k)=true
   ·exact nomatch(if_pos m).symm.trans (st _ c)
   ·exact o _ (fun e l=>n e (pc.symm.trans l)) ((if_neg m).symm.trans (st _ c))
theorem B7(c:I6.freeSlot k=some (q,Jh)):hm I6 q:=by
 have st:∀b,I6.probe (fun y=>k+1) k (I6.probeStart k)=b->(match b with
   |some (.empty d f)=>some (f.getD d,f.isSome)
   |_=>none)=some (q,Jh):=fun b a=>a▸c
 cases a:I6.probe (fun y=>k+1) k (I6.probeStart k)with
 |none=>exact nomatch st _ a
 |some b=>cases b with
  |candidate d i j=>exact nomatch st _ a
  |empty d g=>
   have this:=agf _ _ (fun e h=>nomatch(show none=some e from h)) (show SetTable.probe.go I6 _ _ _ _=_ from a);have c:=(Oh (NM (st _ a))).1;cases g with
   |none=>exact c▸this.1
   |some e=>exact c▸this.2 e rfl
theorem ag3(a:Nat):(Array.range a).toList.Pairwise (·<·):=by
 rw[Array.toList_range];exact QV
theorem k8(b:SetTable)(a:Nat):(b.standIn a).place.toList.Pairwise (·<·):=ag3 a
theorem Fx(d:I6.place.toList.Pairwise (·<·))(a:Array (Int×Value))(b:Int)(c:Value):(layNew I6 a b c).2.1.place.toList.Pairwise (·<·)/\(layNew I6 a b c).2.1.led=I6.led:=by
 unfold layNew
 split
 ·rename_i f g e
  dsimp only;unfold SetTable.orStandIn
  split
  ·exact⟨(Eo d (B7 e)),rfl⟩
  ·exact⟨k8 _ _,rfl⟩
 ·exact⟨k8 _ _,rfl⟩
theorem Fi{d plain:Bool}{e:Array Int}(a:SetTable.laid q v Jd d plain e=some (I6,JS)):I6.place.toList.Pairwise (·<·)/\I6.led=d:=by
 unfold SetTable.laid at a;simp only[Option.bind_eq_bind,Ss,Option.pure_def,QQ,Prod.mk.injEq]at a;obtain⟨k,_,rfl,_⟩:=a;refine⟨?_,rfl⟩;simp only;rw[List.map_filterMap];refine List.Pairwise.filterMap _ (R:=(·<·)) ?_ QV;intro g h f i b j c;simp only[Option.mem_def,Po]at b c;obtain⟨_,⟨_,_,rfl⟩,rfl⟩:=b;obtain⟨_,⟨_,_,rfl⟩,rfl⟩:=c;exact f
theorem ahd(a:SetTable)(b:Array (Int×Value))(c:Nat):(relayAll a b c).2.1.place.toList.Pairwise (·<·)/\(relayAll a b c).2.1.led=a.led:=by
 unfold relayAll
 split
 ·rename_i f e d
  dsimp only;have:=Fi (show SetTable.laid _ _ _ _ _ _=_ from d)
  split
  ·exact this
  ·exact⟨k8 _ _,rfl⟩
 ·exact⟨k8 _ _,rfl⟩
section
variable{S:aa}{s:Shared}
theorem lh(a:(aX).is Jr G=true):d0 G=Jr:=by
 rcases ae.fl a with⟨q,b,rfl,rfl⟩|⟨c,b,rfl,rfl⟩<;>rfl
theorem uh{c:List (Int×Value)}(g:ElemsOf (aX) c)(d:ae):d∈c.map (fun a=>d0 a.2)↔∃a∈c,(aX).is d a.2=true:=by
 constructor
 ·intro f;refine ah (Na.mp f) fun a e=>?_;obtain rfl:=e.2;refine aW (g a e.1) fun i=>?_;obtain⟨d,b,_⟩:=i.1;exact⟨a,e.1,by rw[lh b];exact b⟩
 ·rintro⟨a,h,b⟩;exact Na.mpr ⟨a,h,lh b⟩
noncomputable abbrev bL(b:Array (Int×Value))(a:Nat)(c:SetTable):Obj:={cls:=.type "set",data:=.set b a c}
theorem vC{a:Array (Int×Value)}{b:SetTable}(e:s.heap.get? d=some (bL I3 q I6))(g:a.size<=sizeLine)
(f:∀c,c.get? d=some (bL a (q+1) b)->Heap.SameBut d s.heap c->JM () {s with heap:=c}):wpAny (model prog w) Q (storeSet d a b) JM I4 s:=by
 refine wpAny_storeSet_of e rfl (f _ ?_ (OV ..)) g;have:=OO (Obj.putSet a b) e (by rw[putSet_of a b rfl];rfl);rw[putSet_of a b rfl]at this;exact this
theorem agb(a:be I3 I6 IZ):be I3 {I6 with plain:=false} IZ:=⟨a.elems,a.keys,a.nodup,a.size,a.fits,a.k0,a.led⟩
theorem o8{a:Array (Int×Value)}{b:SetTable}{ks:List ae}{m:Bool->Sem Unit}{R:Option Bool->Shared->Prop}(C:∀(z:Bool)(v:Shared)(k:Unit->Shared->Prop),k () v->wpAny (model prog w) Q (m z) k I4 v)
(D:s.heap.get? d=some (bL I3 q I6))(c:be a b ks)
(n:∀i l A x r,Heap.SameBut d s.heap i->i.get? d=some (bL l A x)->be l x r->r.Perm ks->R (some true) {s with heap:=i}):
  wpAny (model prog w) Q (do
   storeSet d a b
   if(!Jh&&b.tooFull)=true then do
     m (relayAll b a (SetTable.grown a.size)).2.2
     storeSet d (relayAll b a (SetTable.grown a.size)).1 (relayAll b a (SetTable.grown a.size)).2.1
     pure (some true)
    else pure (some true)) R I4 s:=by
 refine M9 (vC D (QW c.size) fun B o u=>?_)
 split
 ·have e:=relayAll_perm b a (SetTable.grown a.size);have j:=relayAll_fits b a (SetTable.grown a.size);have g:=ahd b a (SetTable.grown a.size);generalize L:relayAll b a (SetTable.grown a.size)=y at e j g⊢;obtain⟨f,H,I⟩:=y;dsimp only at e j g⊢;have t:(f.toList.map fun h=>d0 h.2).Perm ks:=by rw[c.keys];exact e.map _
  have p:be f H (f.toList.map fun h=>d0 h.2):=⟨c.elems.perm e,rfl,t.nodup_iff.mpr c.nodup,by rw[(by rw[<-NI,e.length_eq,NI]:f.size=a.size)];exact c.size,j,g.1,g.2.trans c.led⟩
  refine M9 (C _ _ _ ?_);refine M9 (vC (s:={s with heap:=B}) o (QW p.size) fun J E G=>?_);exact Nc (n _ _ _ _ _ (u.trans G) E p t)
 ·exact Nc (n _ _ _ _ _ u o c (List.Perm.refl _))
theorem aia{ks:List ae}(C:(aX).is Jr G=true)(E:G.scannable=true)(o:s.heap.get? d=some (bL I3 q I6))(f:be I3 I6 ks)
(X:I3.size+1<scanBound)
(H:∀b e i g c h,Heap.SameBut d s.heap b->b.get? d=some (bL e i g)->be e g c->(Jr∈ks->c=ks)->(Jr∉ks->c.Perm (ks++[Jr]))->KB h {s with heap:=b}):
  wpAny (model prog w) Q (setAddHashed d G ((aX).hash Jr)) KB I4 s:=by
 have n:=f.elems;have A:=f.size;refine N1 (M9 (P1 o rfl f.fits ?_));dsimp only;rw[byScan_of E A n];rw[if_pos rfl];refine M9 ?_;refine M9 (OF ?_);refine M9 (wpAny_setScan_of C o rfl f.fits n ?_);cases J:List.findIdx? (fun a=>(aX).is Jr a.2) I3.toList with
 |some Z=>
  dsimp only;obtain⟨U,V,_⟩:=List.findIdx?_eq_some_iff_getElem.mp J;refine Nc (Nc ?_);have y:Jr∈ks:=by rw[f.keys];exact(uh n Jr).mpr ⟨I3.toList[Z],RT U,V⟩
  exact H s.heap I3 q I6 ks _ (Heap.SameBut.refl d s.heap) o f (fun _=>rfl) (fun p=>absurd y p)
 |none=>
  have y:Jr∉ks:=by
   rw[f.keys];intro p;refine ah ((uh n Jr).mp p) fun a M=>?_;have:=List.findIdx?_eq_none_iff.mp J a M.1;replace this:=M.2▸this;exact Bool.noConfusion this
  have T:∀(h:Bool){x:Shared}{m:Unit->Shared->Prop},m () x->wpAny (model prog w) Q (match h with|true=>rule "set.scan.the-table-gave-way"|false=>pure ()) m I4 x:=
   fun h x m j=>by cases h<;>first|exact Nc j|exact OF j
  have k:=layNew_perm I6 I3 ((aX).hash Jr) G;have B:=layNew_fits I6 I3 ((aX).hash Jr) G;have z:=Fx f.k0 I3 ((aX).hash Jr) G;generalize HA:layNew I6 I3 ((aX).hash Jr) G=N at k B z⊢;obtain⟨l,KT,KV,KU⟩:=N;dsimp only at k B z⊢;replace k:=Qe▸k;have Y:l.size=I3.size+1:=by rw[<-NI,k.length_eq,Nm,NI];rfl
  have L:(l.toList.map fun a=>d0 a.2).Perm (ks++[Jr]):=by
   rw[f.keys];have:=k.map fun a:Int×Value=>d0 a.2;exact(lh C)▸Ph▸Nt▸Ng▸this
  have KS:(ks++[Jr]).Nodup:=by
   rw[NK];exact⟨f.nodup,by simp,fun d O h A=>by rw[Nj.mp A];exact fun a=>y (a▸O)⟩
  have D:be l KT (l.toList.map fun a=>d0 a.2):=⟨((n.push C E).perm k),rfl,L.nodup_iff.mpr KS,by rw[Y];exact X,B,z.1,z.2.trans f.led⟩
  refine M9 (T _ ?_);have I:∀b e i g c,Heap.SameBut d s.heap b->b.get? d=some (bL e i g)->be e g c->c.Perm (l.toList.map fun a=>d0 a.2)->KB true {s with heap:=b}:=
   fun b e i g c r t u v=>H b e i g c true r t u (fun p=>absurd p y) fun _=>v.trans L
  split
  ·refine M9 ?_;rw[hashByValue_scannable 8 E];refine Nc ?_;refine o8 ?_ o (ks:=l.toList.map fun a=>d0 a.2) ?_ ?_
   ·intro h x m j;cases h<;>first|exact Nc j|exact OF j
   ·split
    ·exact D
    ·exact agb D
   ·intro b e i g c r t u v;dsimp only;exact Nc (I b e i g c r t u v)
  ·refine M9 (Nc ?_);rw[if_pos rfl];refine o8 ?_ o D ?_
   ·intro h x m j;cases h<;>first|exact Nc j|exact OF j
   ·intro b e i g c r t u v;dsimp only;exact Nc (I b e i g c r t u v)
end
section
variable{S:aa}{A:Around}{E:Value->Shared->Prop}
theorem E4(a:(aX).is Jr G=true):G.scannable=true:=by
 rcases ae.fl a with⟨q,b,rfl,rfl⟩|⟨c,b,rfl,rfl⟩<;>rfl
theorem aif{D j l:Addr}{items:Array Value}(c:List ae)(KT:A.handled=none)(KX:items.size=c.length)(y:j≠D)(dl:l≠D)(K0:l≠j)(La:c.length<=1000)
(KW:∀(a:Nat)(U:Value)(d:ae),items[a]? =some U->c[a]? =some d->(aX).is d U=true):
  ∀(u a:Nat)(h:Array (Int×Value))(n:Nat)(m:SetTable)(f:List ae)(p:Shared)(R:Result->Shared->Prop),a+u=c.length->f.length<=a->(∀d,d∈f↔d∈c.take a)->p.heap.get? D=some (bL h n m)->be h m f->p.heap.IsListIter j l a->p.heap.IsList l items->
   (∀i q z x v,i.get? D=some (bL q z x)->be q x v->(∀d,d∈v↔d∈c)->(∀e g,e≠D->e≠j->p.heap.get? e=some g->i.get? e=some g)->∀o,R (.ok (.ret .none)) {p with heap:=i,toks:=o})->
   codeAny (model prog w) A (.builtin "set.update.loop" ⟨[.ref D,.ref j],[]⟩) R p:=by
 intro u;induction u with
 |zero=>
  intro a h n m f p R b C G G6 t G7 s B;refine Pd F.entry_set_update_loop ?_;rw[Py F.plain_set_update_loop _];refine M9 (Rh (A:=A.in1) KT G7 s (PX (mf (Nd KX) (Nd b.symm))) fun i M=>?_);refine Nc (B i h n m f (M D _ (NZ y) G6) t (fun d=>?_) (fun e g _ r b=>M e g r b) p.toks);rw[G d,OP (Nd b.symm)]
 |succ u KZ=>
  intro a h n m f p R b C G G6 t G7 s B;have KU:a<items.size:=by omega
  have KV:a<c.length:=by omega
  have T:items[a]? =some items[a]:=Ow KU;have O:c[a]? =some c[a]:=N2 KV;have E:=KW a _ _ T O;refine Pd F.entry_set_update_loop ?_;rw[Py F.plain_set_update_loop _];refine M9 (Rg G7 s T fun J KS H=>?_);show wpAny _ A.in1 (holding [items[a]] (setAdd D items[a])>>=_) _ _ _;refine M9 (N1 ?_);unfold setAdd;refine N1 ?_;have Y:J.get? D=some (bL h n m):=(H.2 D (NZ y)).trans G6;have K9:h.size=f.length:=by rewrite[t.keys,Nb,NI];rfl
  refine M9 ((aX).pyHash E ?_);refine aia (s:={p with heap:=J,toks:=p.toks+1}) E (E4 E) Y t (by unfold scanBound;omega) fun K8 q z x v e I Z KY N Q=>?_;refine Nc ⟨Pz F.plain_set_update_loop _,?_⟩;have o:c.take (a+1)=c.take a++[c[a]]:=by rw[List.take_add_one,O];rfl
  refine KZ (a+1) q z x v _ R (by omega) ?_ (fun d=>?_) Z KY (KS.at fun g b=>(I.2 j y).trans b) ((s.at fun g b=>(H.2 l K0).trans b).at fun g b=>(I.2 l dl).trans b) ?_
  ·by_cases k:c[a]∈f
   ·rw[N k];exact mf C (Nv _ _)
   ·rw[(Q k).length_eq,Nm];simp;exact C
  ·rw[o,Nu,Nj,<-G d];by_cases k:c[a]∈f
   ·rw[N k];exact⟨.inl,fun K2=>K2.elim id fun b=>b▸k⟩
   ·rw[(Q k).mem_iff,Nu,Nj]
  ·intro i X V K7 K1 K3 K4 K5 K6 o;exact B i X V K7 K1 K3 K4 K5 (fun e g r L b=>K6 e g r L ((I.2 e r).trans ((H.2 e L).trans b))) o
theorem abe(a:Value){Q₁:Value->Shared->Prop}(b:Q₁ (.ref p.heap.objs.size) {p with heap:=p.heap.push (bL #[] 0 (.fresh 0 0 (!(w.params.followText "set-order"))))}):
  codeAny (model prog w) A (.call (.builtin "set.__new__") ⟨[.type "set",a],[]⟩) (wants Q₁ E) p:=by
 refine RU ?_;refine M9 (wpAny_of_eq (F.newCall_set_1 a) (Nc ⟨Pz F.plain_set_new _,Pd F.entry_set_new ?_⟩));rw[Py F.plain_set_new _];have f:=sub_set_self;obtain⟨e,d,c,g,os⟩:=p
 wp_walk
 refine PA (Nc ?_);refine M9 (wpAny_alloc (Nc ?_));exact Nc b
theorem ah8:be #[] (.fresh 0 0 (!(w.params.followText "set-order"))) []:=⟨fun b a=>by simp at a,rfl,.nil,by decide,rfl,.nil,rfl⟩
noncomputable abbrev wJ(p:Shared)(i:List ae)(j:Value)(k:Shared):Prop:=j=.none/\∃b l c h g e,k={p with heap:=b,toks:=l}/\b.get? p.heap.objs.size=some (bL c h g)/\be c g e/\(∀d,d∈e↔d∈i)/\
 (∀a f,a<p.heap.objs.size->p.heap.get? a=some f->b.get? a=some f)
theorem abd{kk:List ae}
(t:A.handled=none)(V:p.heap.PlainList d Jc)(Y:Jc.size=kk.length)(T:∀(y:Nat)(H:Value)(c:ae),Jc[y]? =some H->kk[y]? =some c->(aX).is c H=true)(KS:kk.length<=1000)
(N:∀(b:Heap)(h:Nat)j r q l,b.get? p.heap.objs.size=some (bL j r q)->be j q l->(∀c,c∈l↔c∈kk)->
   (∀e g,e<p.heap.objs.size->p.heap.get? e=some g->b.get? e=some g)->I4 (.ref p.heap.objs.size) {p with heap:=b,toks:=h}):
  wpAny (model prog w) A (call (.type "set") [.ref d]) I4 E p:=by
 obtain⟨KY,La,K4⟩:=P2.mro;have K3:=P2.made;have K8:=P2.sub;refine Pb (RU ?_);show wpAny _ _ (callAny (.type "set") _) _ _ _;refine Nc ⟨Code.quiet_builtin _ (by exists 4),Pd F.entry_type_call ?_⟩;rw[Around.under_plain (weight_type_call_type "set" [.ref d] []) rfl];have K0:=F.typeCall_set_1 (.ref d)
 repeat (any_goals (first|assumption|wp_step))
 refine Pc (abe (.ref d) (E:=E) (Q₁:=fun B G=>B=.ref p.heap.objs.size/\G={p with heap:=p.heap.push (bL #[] 0 (.fresh 0 0 (!(w.params.followText "set-order"))))}) ⟨rfl,rfl⟩) fun C G f=>?_;generalize X:(!(w.params.followText "set-order"))=a at f;have Q:be #[] (.fresh 0 0 a) []:=by rw[<-X];exact ah8
 cases C with
 |error i=>exact f
 |ok L=>
  cases L with
  |ret B=>
   obtain⟨rfl,rfl⟩:=f;have GV:(p.heap.push (bL #[] 0 (.fresh 0 0 a))).get? p.heap.objs.size=some (bL #[] 0 (.fresh 0 0 a)):=Ny _ rfl;have GX:Shared.TypeIs {p with heap:=p.heap.push (bL #[] 0 (.fresh 0 0 a))} (.ref p.heap.objs.size) "set":=⟨_,GV,rfl⟩
   have K2:=P2.init.lookup;have KZ:=P2.init.bind (.ref p.heap.objs.size)
   repeat (any_goals (first|assumption|wp_step))
   refine Pc (RV (R:=wants (wJ p kk) E) P2.init.plain F.entry_set_init (check_set_init_1 GX ?_)) fun KV K9 k=>?_
   ·obtain⟨z,x⟩:=V;have Z:(p.heap.push (bL #[] 0 (.fresh 0 0 a))).get? d=some {cls:=.type "list",data:=.seq Jc z}:=Nr _ x;have K7:=F.sub_list_set;have K6:=F.sub_list_frozenset;have K5:(Value.type "list"==Value.type "dict")=false:=by decide
    have u:(p.heap.push (bL #[] 0 (.fresh 0 0 a))).IsList d Jc:=⟨_,Z,rfl,z,rfl⟩
    unfold Builtin.«set.__init__» noKeywords Builtin.Frozenset.updateFrom;generalize O:pyIter=KX
    wp_walk
    subst O;refine PJ u ?_;refine M9 (wpAny_runValue ?_);have v:d<p.heap.objs.size:=NE x;have K1:A.in1.in1.in1.handled=none:=by simp[t]
    refine aif (A:=A.in1.in1) (D:=p.heap.objs.size) (l:=d) (items:=Jc) kk t Y ?_ (NH v) ?_ KS T kk.length 0 #[] 0 (.fresh 0 0 a) [] _ _ (by omega) (Ni _) (fun c=>by simp) ?_ Q ?_ ?_ ?_
    ·rw[Od];exact Nat.succ_ne_self _
    ·rw[Od];exact NH (N5 v)
    ·exact Nr _ GV
    ·exact⟨_,Ny _ rfl,rfl,rfl⟩
    ·exact u.push _
    ·intro b J I KW KT m n o KU h;show wpAny _ _ _ _ _ _;refine Nc ?_;show wpAny _ _ (ret Value.none) _ _ _;refine Nc ⟨rfl,b,h,J,I,KW,KT,rfl,m,n,o,fun e g s i=>?_⟩;refine KU e g (NH s) ?_ (Nr _ (Nr _ i));rw[Od];exact NH (N5 s)
   ·cases KV with
    |error i=>exact k
    |ok M=>
     cases M with
     |ret C=>
      obtain⟨rfl,b,h,j,r,q,l,rfl,m,n,o,U⟩:=k
      repeat (any_goals (first|assumption|wp_step))
      exact N _ _ _ _ _ _ m n o U
     |_=>exact k.elim
  |_=>exact f.elim
end
section
variable{S:aa}{s:Shared}
theorem mo(p:(d,GL.list (IZ.map ae.GP))∈S)(x:IZ.length<=1000)(B:∀g a,a.Nodup->(∀c,c∈a↔c∈IZ)->M (.ref g) ((g,.set a)::S)):GN q (.type "set") [.ref d] S M:=by
 intro Q s U G f t;obtain⟨T,rfl,n⟩:=t.one;cases n;refine ah (f.objs _ p) fun J e=>?_;have z:J.size=IZ.length:=by have:=e.2.length;rw[NI,Nb]at this;exact this
 refine abd (kk:=IZ) G.GR e.1 z (fun y L c u o=>?_) x fun O I l k H a C i D E=>?_
 ·obtain⟨N,b,r⟩:=e.2.get' (i:=y) (v:=L) (by rw[O1];exact u);replace b:=o▸(Ot)▸b;cases b;exact ec r
 ·exact gk (tk:=I) (Q:=M) (ao:=.set a) f (fun j A h=>E j A (NE h) h) hv rfl (fun w m=>(nomatch m)) ⟨l,k,H,C,i⟩ (B _ a i.nodup D)
theorem aa3{f:Source}{a:Nat->Shared->Prop}(b:q≠0)(e:∀c d,c<q->a c {s with drawn:=d}):wpAny (model prog w) Q (choose f q) a I4 s:=fun i h g=>⟨b,e _ _ (QX _ (Nat.pos_of_ne_zero b))⟩
theorem n4:∀{l:List D}{i:Nat}(a:i<l.length),(l[i]::l.eraseIdx i).Perm l
 |x::l,0,_=>List.Perm.refl _
 |x::l,i+1,a=>by
  simp only[List.getElem_cons_succ,List.eraseIdx_cons_succ];exact(List.Perm.swap _ _ _).trans ((n4 (l:=l) (i:=i) (by simpa using a)).cons x)
theorem AH(q:Nat):∀(a:List D)(s:Shared)(b:List D->Shared->Prop),a.length<=q->(∀i d,i.Perm a->b i {s with drawn:=d})->wpAny (model prog w) Q (drawOrder q a) b I4 s:=by
 induction q with
 |zero=>
  intro a s b f c;obtain rfl:=Ql (QT.mp f);exact Nc (c [] s.drawn (.refl _))
 |succ q l=>
  intro a s b f c;cases a with
  |nil=>exact Nc (c [] s.drawn (.refl _))
  |cons h a=>
   refine(?_:wpAny _ _ (choose .order (h::a).length>>=fun g=>(match (h::a)[g]? with
    |some n=>(drawOrder q ((h::a).eraseIdx g)>>=fun m=>pure (n::m))
    |none=>unsupported "internal:drawOrder")) b I4 s)
   refine M9 (aa3 (nofun) fun g d e=>?_);rw[N2 e];exact M9 (l _ {s with drawn:=d} _ (by rw[SN e];exact SO f) fun i j k=>Nc (c _ j ((k.cons _).trans (n4 e))))
theorem u2(next:Nat->Nat)(e:Nat):∀(a:Nat)(left:List D)(d:Array D),left.length<=e->(pickOrder.go next e a left d).toList.Perm (d.toList++left):=by
 induction e with
 |zero=>
  intro a left d f;rw[Ql (QT.mp f),NU];exact .refl _
 |succ e g=>
  intro a left d f;cases left with
  |nil=>rw[NU];exact .refl _
  |cons c b=>
   refine(?_:(match (c::b)[next a %(c::b).length]? with
    |some h=>pickOrder.go next e (a+1) ((c::b).eraseIdx (next a %(c::b).length)) (d.push h)
    |none=>d).toList.Perm _)
   rw[N2 (QX _ (PB _):next a %(c::b).length<(c::b).length)];refine(g (a+1) _ _ (by rw[SN (QX _ (PB _):next a %(c::b).length<(c::b).length)];exact SO f)).trans ?_;rw[Qe,NR];exact List.Perm.append_left _ (n4 (QX _ (PB _):next a %(c::b).length<(c::b).length))
theorem je:Slot "set_iterator" "__next__" "set_iterator.__next__":=
 .of (owner:="set_iterator") (n:="__next__") (by rw[RE,RG];kernel_rfl) (by exists 4) (by exists 4) (by exists 4)
  (by first|exact .inl (by exists 4)|exact .inr (by exists 4)) (by rw[Oc];kernel_rfl)
theorem AZ:entryFor table "set_iterator.__next__"=some Builtin.«set_iterator.__next__»:=entryFor_of_tree (by kernel_rfl)
theorem xa(a:Value):argsOk "set_iterator.__next__" ⟨[a],[]⟩:=by kernel_rfl
theorem AY:entryFor table "set.__iter__"=some Builtin.«frozenset.__iter__»:=QD (id':="frozenset.__iter__") (by kernel_rfl) (by exists 4) (by exists 4) (by kernel_rfl)
noncomputable abbrev fT(first:Value)(b:Int)(c:Addr)(d a:Int):Obj:={cls:=.type "set_iterator",data:=.fields #[first,rawInt b,.ref c,rawInt d,rawInt a]}
theorem k6{first:Value}(G7:s.heap.get? d=some (fT first q H I3.size v))(G6:s.heap.get? H=some (bL I3 v I6))(n:be I3 I6 IZ)
(m:wpAny (model prog w) Q.in1 (if let .int p _:=first then do
   match<-setNext H p.toNat (q:Int).toNat (v:Int).toNat with
   |some (f,next)=>setField (.ref d) 0 (rawInt next);setField (.ref d) 1 (rawInt ((q:Int)+1));ret f
   |none=>setField (.ref d) 2 .none;raiseNew (<-newExc (.type "StopIteration") [])
  else do
   let some cC<-seqItems? first|unsupported "internal:set_iterator"
   match cC[(q:Int).toNat]? with
   |some (.int o _)=>let f<-setNextDrawn H o.toNat (v:Int).toNat;setField (.ref d) 1 (rawInt ((q:Int)+1));ret f
   |some _=>unsupported "internal:set_iterator"
   |none=>setField (.ref d) 0 (rawInt 0);setField (.ref d) 2 .none;raiseNew (<-newExc (.type "StopIteration") []))
  (fun j a=>∃c,j=.done (.ret c)/\J6 (some c) a) (fun e a=>∃i,e=.ref i/\a.TypeIs e "StopIteration"/\J6 none a) s):wpAny (model prog w) Q (pyNext (.ref d)) J6 I4 s:=by
 unfold pyNext;refine M9 (PW (Pu (name:=Str.ofString "__next__") ⟨_,G7,rfl⟩ je (On je ⟨_,G7,rfl⟩ AZ ?_ (xa _))));show wpAny _ _ (fieldsOf (.ref d)>>=_) _ _ s;refine M9 (RW G7 rfl ?_);show wpAny _ _ (setEntries H>>=_) _ _ s;refine M9 (wpAny_setEntries_of G6 rfl n.fits ?_);rw[if_neg (by simp)];refine NB m (fun j a h=>by refine ah h fun c k=>?_;exact⟨c,k.1,Nc k.2⟩) fun e a h=>?_;refine aN h fun i g=>?_;have l:=g.1;subst l;refine M9 (QY (T:="StopIteration") (b:=true) g.2 RX ?_);exact Nc g.3
theorem vn{d:D->Shared->Prop}(g:Q.handled=none)(f:∀a c,(aV s.heap a)->(∃b,a.get? c=some b/\b.cls=.type "StopIteration")->I4 (.ref c) {s with heap:=a}):
  wpAny (model prog w) Q (do raiseNew (<-newExc (.type "StopIteration") []):Sem D) d I4 s:=by
 refine M9 ?_;refine M9 (Ou ?_ (by size_fits));refine M9 (m:=firstArgMember _ _) (wpAny_of_eq (a:=Value.none) (by first|rfl|(simp only[firstArgMember];rfl)) ?_);refine Ou ?_ (by size_fits);refine M9 (wpAny_handled ?_);rw[g];refine M9 (Nc (wpAny_throw ?_));exact f _ _ (fun h b e=>Nr _ (Nr _ e)) ⟨_,Ny _ rfl,rfl⟩
theorem h7{cls:Value}(e:s.heap.get? d=some {cls:=cls,data:=.fields Jc})(c:q<Jc.size)
(b:∀a,a.get? d=some {cls:=cls,data:=.fields (Jc.setIfInBounds q G)}->Heap.SameBut d s.heap a->JM () {s with heap:=a}):wpAny (model prog w) Q (setField (.ref d) q G) JM I4 s:=RY e c b
theorem vS:Slot "set_iterator" "__iter__" "set_iterator.__iter__":=
 .of (owner:="set_iterator") (n:="__iter__") (by rw[RE,RG];kernel_rfl) (by exists 4) (by exists 4) (by exists 4)
  (by first|exact .inl (by exists 4)|exact .inr (by exists 4)) (by rw[Oc];kernel_rfl)
theorem A0:entryFor table "set_iterator.__iter__"=some Builtin.«dict_keyiterator.__iter__»:=QD (id':="dict_keyiterator.__iter__") (by kernel_rfl) (by exists 4) (by exists 4) (by kernel_rfl)
theorem xb(a:Value):argsOk "set_iterator.__iter__" ⟨[a],[]⟩:=by kernel_rfl
theorem on{first:Value}{a:Int}(G7:s.heap.get? d=some (fT first k H IY a))(b:JX (.ref d) s):wpAny (model prog w) Q (pyIter (.ref d)) JX I4 s:=by
 refine Qc ⟨_,G7,rfl⟩ vS (On vS ⟨_,G7,rfl⟩ A0 ?_ (xb _));exact Nc ⟨_,rfl,"set_iterator",_,⟨_,G7,rfl⟩,je.lookup,b⟩
noncomputable def jd(a:SetTable):Nat->Nat
 |0=>0
 |i+1=>a.place.toList.getD i 0+1
theorem ajc(a:be I3 I6 IZ)(d:q<=I3.size):SetTable.below I6.place (jd I6 q)=q:=by
 have e:I6.place.size=I3.size:=by have:=a.fits;rw[SetTable.fits,Ox,beq_iff_eq]at this;exact this.1
 cases q with
 |zero=>exact yl a.k0
 |succ q=>
  have b:q<I6.place.toList.length:=by rw[NI];exact mf d (Nd e.symm)
  have c:jd I6 (q+1)=I6.place.toList[q]+1:=by
   show I6.place.toList.getD q 0+1=_;rw[Qm,N2 b];rfl
  rw[c];exact yj a.k0 b
theorem vO{slot c:Nat}{nx:Nat}(G7:s.heap.get? d=some (fT (rawInt slot) c H I3.size q))(G6:s.heap.get? H=some (bL I3 q I6))(m:be I3 I6 IZ)
(l:∀{J6:Option (Value×Nat)->Shared->Prop}{I4:Value->Shared->Prop},J6 (some (G,nx)) s->wpAny (model prog w) Q.in1 (setNext H slot c q) J6 I4 s)
(Hl:∀b,b.get? d=some (fT (rawInt nx) (c+1) H I3.size q)->(∀a e,a≠d->s.heap.get? a=some e->b.get? a=some e)->J6 (some G) {s with heap:=b}):wpAny (model prog w) Q (pyNext (.ref d)) J6 I4 s:=by
 refine k6 G7 G6 m (M9 (l ?_));refine M9 (h7 G7 (RZ rfl) fun k i g=>?_);refine M9 (h7 (s:={s with heap:=k}) i (RZ rfl) fun b j h=>?_);exact Nc ⟨_,rfl,Hl b j fun a e f n=>(h.2 a f).trans ((g.2 a f).trans n)⟩
theorem vN{slot e:Nat}(k:Q.handled=none)(G7:s.heap.get? d=some (fT (rawInt slot) e H I3.size q))(G6:s.heap.get? H=some (bL I3 q I6))(m:be I3 I6 IZ)
(l:∀{J6:Option (Value×Nat)->Shared->Prop}{I4:Value->Shared->Prop},J6 none s->wpAny (model prog w) Q.in1 (setNext H slot e q) J6 I4 s)
(Hl:∀b,(∀a c,a≠d->s.heap.get? a=some c->b.get? a=some c)->J6 none {s with heap:=b}):wpAny (model prog w) Q (pyNext (.ref d)) J6 I4 s:=by
 refine k6 G7 G6 m (M9 (l ?_));refine M9 (h7 G7 (RZ rfl) fun h p g=>?_);exact vn (s:={s with heap:=h}) k fun b f n i=>⟨f,rfl,i,Hl b fun a c j o=>n _ _ ((g.2 a j).trans o)⟩
theorem uw(b:be I3 I6 IZ)(c:w.params.followText "set-order"=false)(i:(!I6.plain&&decide (I3.size>1))=false)(G6:s.heap.get? d=some (bL I3 q I6))(f:v<=I3.size)
(j:KO (match I3[v]?,I6.place[v]? with|some (_,k),some g=>some (k,g+1)|_,_=>none) s):wpAny (model prog w) Q (setNext d (jd I6 v) v q) KO I4 s:=by
 have h:I6.led=true:=by rw[b.led,c];rfl
 refine M9 (P1 G6 rfl b.fits ?_);refine M9 (M9 (PA (Nc ?_)));have e:(model prog w).w.params.followText "set-order"=false:=c;rw[e,if_neg Oe];refine P4 (fun a=>Bool.noConfusion (i.symm.trans (show(!I6.plain&&decide (I3.size>1))=true from a))) (fun y=>?_);refine M9 ?_;refine P4 (fun a=>Bool.noConfusion ((show(!I6.led&& !I3.isEmpty)=false by rw[h];rfl).symm.trans (show(!I6.led&& !I3.isEmpty)=true from a))) (fun y=>Nc (Nc ?_));rw[ajc b f];exact j
theorem ux(b:be I3 I6 IZ)(c:w.params.followText "set-order"=true)(G6:s.heap.get? d=some (bL I3 q I6))
(f:KO ((pickOrder (w.params.setOrder d q) I3)[v]?.map fun e=>(e.2,0)) s):wpAny (model prog w) Q (setNext d 0 v q) KO I4 s:=by
 refine M9 (P1 G6 rfl b.fits ?_);refine M9 (M9 (PA (Nc ?_)));have a:(model prog w).w.params.followText "set-order"=true:=c;rw[a,if_pos rfl,if_neg (by simp)];refine M9 (M9 (P1 G6 rfl b.fits ?_));refine M9 (M9 (PA (Nc ?_)));rw[a,if_pos rfl];exact M9 (PA (Nc (Nc f)))
theorem uj{a b:D}(d:a∈[b])(c:D):a∈[b,c]:=Nj.mp d▸ .head _
theorem kL{a b:D}(d:a∉[b]):a≠b:=fun c=>d (c▸ .head _)
theorem am4{ep:Nat}(t:Q.handled=none)(u:H≠d)(e:be I3 I6 IZ)(m:w.params.followText "set-order"=false)(q:(!I6.plain&&decide (I3.size>1))=false):
  Walks prog w Q d [d,H] [d] I3.size (fun a x=>∃g,I3[a]? =some g/\x=g.2) (fun a n=>n.get? d=some (fT (rawInt (jd I6 a)) a H I3.size ep)/\n.get? H=some (bL I3 ep I6)) where
 sub:=fun f c=>uj c H
 frame:=fun y y y st p=>⟨p d (.head _) _ st.1,p H (.tail _ (.head _)) _ st.2⟩
 item:=fun a s l I4 h st Hl=>by
  have v:I6.place.size=I3.size:=by have:=e.fits;simp only[SetTable.fits,Ox,beq_iff_eq]at this;exact this.1
  have o:a<I6.place.size:=v▸h;have g:I6.place[a]+1=jd I6 (a+1):=by
   show _=I6.place.toList.getD a 0+1;rw[Qm,O1,Ow o];rfl
  refine vO st.1 st.2 e (fun b=>uw e m q st.2 (Nq h) (by rw[Ow h,Ow o];exact b)) fun j r i=>?_;exact Hl I3[a].2 j s.toks ⟨I3[a],Ow h,rfl⟩ ⟨g▸r,i H _ u st.2⟩ fun f k c b=>i f k (kL c) b
 done:=fun s l I4 st Hl=>vN t st.1 st.2 e (fun b=>uw e m q st.2 (Ni _) (by rw[PX (Ni _)];exact b)) fun j i=>Hl j s.toks fun f k c b=>i f k (kL c) b
 self:=fun a s l I4 st Hl=>on st.1 Hl
theorem am5{ep:Nat}(q:Q.handled=none)(t:H≠d)(f:be I3 I6 IZ)(k:w.params.followText "set-order"=true):
  Walks prog w Q d [d,H] [d] I3.size (fun b u=>∃l,(pickOrder (w.params.setOrder H ep) I3)[b]? =some l/\u=l.2) (fun b m=>m.get? d=some (fT (rawInt 0) b H I3.size ep)/\m.get? H=some (bL I3 ep I6)):=
 have o:(pickOrder (w.params.setOrder H ep) I3).size=I3.size:=by
  have:=(u2 (w.params.setOrder H ep) I3.size 0 I3.toList #[] (Ni _)).length_eq;simpa[pickOrder]using this
 {sub:=fun e c=>uj c H
  frame:=fun x x x st n=>⟨n d (.head _) _ st.1,n H (.tail _ (.head _)) _ st.2⟩
  item:=fun b s j I4 r st Hl=>by
   have he:=Ow (xs:=pickOrder (w.params.setOrder H ep) I3) (i:=b) (o▸r)
   exact vO (slot:=0) (nx:=0) st.1 st.2 f (fun a=>ux f k st.2 (by rw[he];exact a)) fun h p g=>Hl _ h s.toks ⟨_,he,rfl⟩ ⟨p,g H _ t st.2⟩ fun e i c a=>g e i (kL c) a
  done:=fun s j I4 st Hl=>vN (slot:=0) q st.1 st.2 f (fun a=>ux f k st.2 (by rw[PX (Nd o)];exact a)) fun h g=>Hl h s.toks fun e i c a=>g e i (kL c) a
  self:=fun b s j I4 st Hl=>on st.1 Hl}
theorem am3{c f T:Addr}{b:List Nat}(D:Q.handled=none)(H:f≠c)(G:T≠c)(n:be I3 I6 IZ)(o:b.Perm (List.range I3.size)):
  Walks prog w Q c [c,f,T] [c] I3.size (fun e L=>∃a t,b[e]? =some a/\I3[a]? =some t/\L=t.2) (fun e j=>j.get? c=some (fT (.ref T) e f I3.size q)/\j.get? f=some (bL I3 q I6)/\j.get? T=some {cls:=.type "tuple",data:=.seq (b.map fun a:Nat=>rawInt (a:Int)).toArray}) where
 sub:=fun g d=>by simp at d;simp[d]
 frame:=fun M M M st m=>⟨m c ((Nz)) _ st.1,m f (by simp) _ st.2.1,m T (by simp) _ st.2.2⟩
 item:=fun e s r I4 E st Hl=>by
  obtain⟨a,l⟩:∃a,b[e]? =some a:=⟨_,N2 (mf E (Nd (by rw[o.length_eq,NS]:b.length=I3.size).symm))⟩
  have v:a<I3.size:=NX.mp (o.mem_iff.mp (Qg l));refine k6 st.1 st.2.1 n ?_;dsimp only;refine M9 (O3 st.2.2 rfl ?_);dsimp only;rw[(by simp[l]:(b.map fun a:Nat=>rawInt (a:Int)).toArray[((e:Int)).toNat]? =some (rawInt (a:Int)))];refine M9 (M9 (P1 st.2.1 rfl n.fits ?_));dsimp only;rw[if_neg (by simp)];rw[Ow v];refine Nc ?_;refine M9 (h7 st.1 (by simp) fun k u h=>?_);refine Nc ⟨_,rfl,Hl I3[a].2 k s.toks ⟨a,I3[a],l,Ow v,rfl⟩ ⟨by simpa[rawInt,fT]using u,(h.2 f H).trans st.2.1,(h.2 T G).trans st.2.2⟩ fun g J d p=>?_⟩;exact(h.2 g (fun i=>d (by simp[i]))).trans p
 done:=fun s r I4 st Hl=>by
  refine k6 st.1 st.2.1 n ?_;dsimp only;refine M9 (O3 st.2.2 rfl ?_);dsimp only;rw[(by simp[(by rw[o.length_eq,NS]:b.length=I3.size)]:(b.map fun a:Nat=>rawInt (a:Int)).toArray[((I3.size:Int)).toNat]? =none)];dsimp only;refine M9 (h7 st.1 (by simp) fun A z y=>?_);refine M9 (h7 (s:={s with heap:=A}) z (by simp) fun k u h=>?_);refine vn (s:={s with heap:=k}) D fun B x I C=>⟨x,rfl,C,Hl B s.toks fun g J d p=>?_⟩
  exact I _ _ ((h.2 g (fun i=>d (by simp[i]))).trans ((y.2 g (fun i=>d (by simp[i]))).trans p))
 self:=fun e s r I4 st Hl=>on st.1 Hl
end
section
variable{S:aa}{s:Shared}{A:Around}
theorem oL{f:List Addr}{P c:Nat->Value->Prop}{St:Nat->Heap->Prop}(W:Walks prog w A d Kb f q P St)(h:∀a b,a<q->P a b->c a b):Walks prog w A d Kb f q c St where
 sub:=W.sub
 frame:=W.frame
 item:=fun a s g I4 e st Hl=>W.item a s g I4 e st fun b i m k l j=>Hl b i m (h a b e k) l j
 done:=W.done
 self:=W.self
theorem ag2[Inhabited D](a:Array D):((List.range a.size).map fun e=>a.getD e default)=a.toList:=by
 refine Pa (by simp) fun d f b=>?_;have c:d<a.size:=by simpa using b
 simp[Array.getD,c]
theorem aie(p:A.handled=none)(G6:s.heap.get? d=some (bL I3 q I6))(c:be I3 I6 IZ)
(n:∀i o j t(ord:List (Int×Value))St,ord.Perm I3.toList->Walks prog w A i t [i] I3.size (fun e l=>∃a,ord[e]? =some a/\l=a.2) St->St 0 o->(∀b∈t,b=d\/s.heap.get? b=none)->s.heap.get? i=none->(aV s.heap o)->JX (.ref i) {s with heap:=o,drawn:=j}):
  wpAny (model prog w) A (pyIter (.ref d)) JX I4 s:=by
 refine Qc ⟨_,G6,rfl⟩ F.slot_set_iter (On F.slot_set_iter ⟨_,G6,rfl⟩ AY ?_ (F.args_set_iter_1 _));show wpAny _ _ (Builtin.Frozenset.sizeOf d>>=_) _ _ s;refine M9 (M9 (wpAny_setEntries_of G6 rfl c.fits (Nc ?_)));refine M9 (M9 (P1 G6 rfl c.fits ?_));refine M9 (M9 (PA (Nc ?_)));refine Nc ?_;refine P4 (fun x=>?_) (fun x=>?_)
 ·refine M9 (AH I3.size (List.range I3.size) s _ (by simp) fun h j r=>?_);refine M9 (wpAny_newTuple ?_ (by simp[(by rw[r.length_eq,NS]:h.length=I3.size)];exact(QW c.size)));dsimp only;have v:(s.heap.push {cls:=.type "tuple",data:=.seq (h.map fun e:Nat=>rawInt (e:Int)).toArray}).get? d=some (bL I3 q I6):=Nr _ G6;refine M9 (wpAny_setEpoch_of (s:={s with heap:=_,drawn:=j}) v rfl c.fits ?_);refine M9 (Ou ?_ (by size_fits));refine Nc ⟨_,rfl,"set_iterator",_,⟨_,Ny _ rfl,rfl⟩,je.lookup,?_⟩;have pp:(h.map fun k=>I3.getD k default).Perm I3.toList:=by
   refine(r.map _).trans ?_;rw[ag2 I3]
  refine n _ _ j [(s.heap.push {cls:=.type "tuple",data:=.seq (h.map fun e:Nat=>rawInt (e:Int)).toArray}).objs.size,d,s.heap.objs.size] (h.map fun k=>I3.getD k default) _ pp
   (oL (am3 (T:=s.heap.objs.size) p ?_ ?_ c r) ?_) ⟨Ny _ rfl,Nr _ v,Nr _ (Ny _ rfl)⟩ ?_ ?_ ?_
  ·rw[Od];exact NH (N5 (NE G6))
  ·rw[Od];exact NH (Qz _)
  ·rintro e l y ⟨k,a,f,B,rfl⟩;exact⟨a,by rw[Ot,f];simp[Array.getD_eq_getD_getElem?,B],rfl⟩
  ·intro b g;simp only[Nk,N0,or_false]at g;rcases g with rfl|rfl|rfl
   ·exact .inr (NW (by rw[Od];exact Ob _))
   ·exact .inl rfl
   ·exact .inr (NW (Ni _))
  ·exact NW (by rw[Od];exact Ob _)
  ·exact fun b z a=>Nr _ (Nr _ a)
 ·refine M9 (Nc ?_);refine M9 (wpAny_setEpoch_of G6 rfl c.fits ?_);refine M9 (Ou ?_ (by size_fits));refine Nc ⟨_,rfl,"set_iterator",_,⟨_,Ny _ rfl,rfl⟩,je.lookup,?_⟩;have u:∀b∈[s.heap.objs.size,d],b=d\/s.heap.get? b=none:=by
   intro b g;simp only[Nk,N0,or_false]at g;rcases g with rfl|rfl
   ·exact .inr (NW (Ni _))
   ·exact .inl rfl
  cases m:w.params.followText "set-order"with
  |true=>
   refine n s.heap.objs.size _ s.drawn [s.heap.objs.size,d] (pickOrder (w.params.setOrder d q) I3).toList _ ?_ (oL (am5 (ep:=q) p (NH (NE G6)) c m) ?_) ⟨Ny _ rfl,Nr _ G6⟩ u (NW (Ni _)) fun b z a=>Nr _ a
   ·have:=u2 (w.params.setOrder d q) I3.size 0 I3.toList #[] (by simp);simpa[pickOrder]using this
   ·rintro e l y ⟨a,f,rfl⟩;exact⟨a,by rw[O1];exact f,rfl⟩
  |false=>
   have C:(!I6.plain&&decide (I3.size>1))=false:=by
    cases D:(!I6.plain&&decide (I3.size>1))with
    |false=>rfl
    |true=>exact absurd (show(!(w.params.followText "set-order")&&(!I6.plain&&decide (I3.size>1)))=true by rw[m,D]<;>rfl) x
   refine n s.heap.objs.size _ s.drawn [s.heap.objs.size,d] I3.toList _ (List.Perm.refl _) (oL (am4 (ep:=q) p (NH (NE G6)) c m C) ?_) ⟨Ny _ rfl,Nr _ G6⟩ u (NW (Ni _)) fun b z a=>Nr _ a;rintro e l y ⟨a,f,rfl⟩;exact⟨a,by rw[O1];exact f,rfl⟩
theorem aid(GX:s.TypeIs (.ref d) "set")(e:KB false s):wpAny (model prog w) A (Builtin.List.listLengthHint (.ref d)) KB I4 s:=by
 refine M9 (Rq GX F.slot_set_len.lookup ?_);generalize c:("set.__len__":String)=f
 wp_delta
 rw[show splitId f=some ("set","__len__")from by subst c;exists 4];subst c;refine M9 (QY (T:="set") (b:=true) GX (by rw[Oc];kernel_rfl) ?_);refine P4 (fun a=>absurd a (by decide)) (fun x=>?_);refine P4 (fun x=>?_) (fun a=>absurd (by exists 4) a);refine M9 (PP GX ?_);exact Nc e
theorem aic{R:Result->Shared->Prop}(V:A.handled=none)(G6:s.heap.get? d=some (bL I3 q I6))(I:be I3 I6 IZ)(b:Addr)(B:b≠d)(n:Value)(z:Nat)(GV:s.heap.get? b=some {cls:=.type "list",data:=.seq #[] z})
(HE:∀j o i(y:Array Value)h(ord:List (Int×Value)),ord.Perm I3.toList->y.toList=ord.map (fun x=>x.2)->(∀a c,a≠b->s.heap.get? a=some c->j.get? a=some c)->j.get? b=some {cls:=.type "list",dict:=none,data:=.seq y h,slots:= #[]}->R (.ok (.ret n)) {s with heap:=j,toks:=o,drawn:=i}):
  wpAny (model prog w) A.in1 (Builtin.List.listExtendWith (.ref b) (.ref d) n)
   (fun N g=>match N with|.done M=>R (.ok M) g|.again h=>h.quiet=true/\codeAny (model prog w) A h R g) (fun e g=>R (.error e) g) s:=by
 refine M9 (PP (T:="set") ⟨_,G6,rfl⟩ ?_);have O:(Value.type "set"==Value.type "tuple")=false:=by decide
 rw[(by simp[Builtin.List.listSameRef,B]:Builtin.List.listSameRef (.ref b) (.ref d)=false),(rfl:(Value.type "set"==Value.type "list")=false),O,if_neg (by decide)];refine M9 (aie (A:=A.in1) V G6 I fun x j i KV ord St H W st U G7 ext=>?_);have u:=fun KS=>by
  rcases U b KS with e|e
  ·exact B e
  ·rw[GV]at e;exact nomatch e
 have KW:b≠x:=fun e=>by rw[<-e,GV]at G7;exact nomatch G7
 have J:∀(l:Heap)(r o:Nat),St 0 l->(∀a c,a≠b->s.heap.get? a=some c->l.get? a=some c)->
   l.get? b=some {cls:=.type "list",data:=.seq #[] r}->codeAny (model prog w) A (.builtin "list.extend.loop" ⟨[.ref b,.ref x,n],[]⟩) R {s with heap:=l,toks:=o,drawn:=i}:=by
  intro l r o Y X k;refine codeAny_extend_loopS W.toS (QW I.size) b u n I3.size 0 _ #[] r rfl (NN _) Y k (ItemsOf.nil _) fun g p h G Q D=>?_;rw[Moved.eq_with G];refine HE g.heap g.toks i p h ord H ?_ (fun a c f e=>G.heap a c (fun v=>?_) (X a c f e)) Q
  ·refine Pa (by rw[NI,Nb,D.1,(by rw[H.length_eq,NI]:ord.length=I3.size)]) fun m KT KU=>?_;obtain⟨e,E,Z⟩:=D.2 m p[m] (Ow (by simpa using KT:m<p.size));rw[Qn,Array.getElem_toList,Z];rw[N2 (by simpa using KU:m<ord.length)]at E;rw[NM E]
  ·rcases Nk.mp v with L|v
   ·exact f L
   ·rw[Nj.mp v,G7]at e;exact nomatch e
 have k:=ext _ _ GV;refine M9 (N1 (aid (s:={s with heap:=j,drawn:=i}) ⟨_,ext _ _ G6,rfl⟩ ?_));refine P4 (fun _=>?_) (fun _=>Nc ⟨Pz SP _,J _ z s.toks st (fun a c _ e=>ext _ _ e) k⟩);refine M9 (OF ?_);refine M9 ?_;refine M9 (R0 (s:={s with heap:=j,drawn:=i}) k rfl ?_);have C:=OO (Obj.mapSeq (·.push Value.none)) k rfl;refine R0 (hz:=by seq_fits) C rfl ?_;refine Nc ⟨Pz SP _,J _ _ s.toks ?_ (fun a c f e=>?_) (OO (Obj.mapSeq (·.pop)) C rfl)⟩
 ·refine W.frame 0 _ _ st fun a f c e=>?_;exact(Qj _ _ (NZ (fun t=>u (t▸f):a≠b))).trans ((Qj _ _ (NZ (fun t=>u (t▸f):a≠b))).trans e)
 ·exact(Qj _ _ (NZ f)).trans ((Qj _ _ (NZ f)).trans (ext _ _ e))
theorem aib{R:List Value->Shared->Prop}(u:A.handled=none)(G6:s.heap.get? d=some (bL I3 q I6))(v:be I3 I6 IZ)
(n:∀a c b(ord:List (Int×Value)),ord.Perm I3.toList->(aV s.heap a)->R (ord.map (fun x=>x.2)) {s with heap:=a,toks:=c,drawn:=b}):wpAny (model prog w) A (collect (.ref d)) R I4 s:=by
 refine M9 (wpAny_runValue (Pd entry_proto_collect' ?_));rw[Py PySem.F.plain_proto_collect _];refine M9 (Ou ?_);refine Nc ⟨Pz SQ _,Pd entry_list_iadd' ?_⟩;rw[Py SQ _];have x:=aic (A:=A) (s:={s with heap:=s.heap.push {cls:=.type "list",data:=.seq ([]:List Value).toArray}})
  (R:=fun(o:Result)(m:Shared)=>∃(a:Heap)(c:Nat)(b:Drawn)(e:Array Value)(f:Nat)(ord:List (Int×Value)),o=.ok (.ret (.ref s.heap.objs.size))/\m={s with heap:=a,toks:=c,drawn:=b}/\ord.Perm I3.toList/\e.toList=ord.map (fun x=>x.2)/\
   (aV s.heap a)/\a.get? s.heap.objs.size=some {cls:=.type "list",dict:=none,data:=.seq e f,slots:= #[]})
  u (Nr _ G6) v s.heap.objs.size (PY (NE G6)) (.ref s.heap.objs.size) 0 (Ny _ rfl)
  (fun a c b e f ord k i j h=>⟨a,c,b,e,f,ord,rfl,rfl,k,i,fun p y g=>j p y (NH (NE g)) (Nr _ g),h⟩)
 refine NB x (fun t m l=>?_) fun g m l=>?_
 ·cases t with
  |done C=>
   obtain⟨a,c,b,e,f,ord,g,rfl,k,i,j,h⟩:=l;cases g;refine M9 (wpAny_load h ?_);exact Nc (by rw[i];exact n a c b ord k j)
  |again B=>
   refine⟨l.1,Pc l.2 fun o D z=>?_⟩;obtain⟨a,c,b,e,f,ord,rfl,rfl,k,i,j,h⟩:=z;refine M9 (wpAny_load h ?_);exact Nc (by rw[i];exact n a c b ord k j)
 ·obtain⟨_,_,_,_,_,_,r,_⟩:=l;exact nomatch r
theorem cg.perm{g:List GG}(c:Jm.Perm z)(i:cg z g):cg Jm g:=by
 rcases i with⟨f,rfl,rfl⟩|⟨h,rfl,rfl⟩
 ·have d:Jm=(Jm.map fun a=>match a with|.int b=>b|_=>0).map GG.int:=by
   rw[Nf];refine(Oi _).symm.trans (N7 fun a e=>?_);obtain⟨b,_,rfl⟩:=Na.mp (c.mem_iff.mp e);rfl
  refine .inl ⟨_,d,?_⟩;have:=c.map fun a=>match a with|.int b=>b|_=>(0:Int)
  rw[Nf]at this;rw[((N7 fun a x=>rfl).trans (Oi _):List.map ((fun a=>match a with|GG.int b=>b|_=>(0:Int))∘GG.int) f=f)]at this;rw[tl this]
 ·have d:Jm=(Jm.map fun a=>match a with|.str b=>b|_=>Str.ofString "").map GG.str:=by
   rw[Nf];refine(Oi _).symm.trans (N7 fun a e=>?_);obtain⟨b,_,rfl⟩:=Na.mp (c.mem_iff.mp e);rfl
  refine .inr ⟨_,d,?_⟩;have:=c.map fun a=>match a with|.str b=>b|_=>Str.ofString ""
  rw[Nf]at this;rw[((N7 fun a x=>rfl).trans (Oi _):List.map ((fun a=>match a with|GG.str b=>b|_=>Str.ofString "")∘GG.str) h=h)]at this;rw[vV this]
theorem aii{h:Heap}{a:List (Int×Value)}:ElemsOf (aX) a->ao h (a.map (fun x=>x.2)) (a.map fun d=>(d0 d.2).GP):=by
 induction a with
 |nil=>exact fun y=>.nil
 |cons d a g=>
  intro e;obtain⟨⟨j,f,_⟩,_⟩:=e.head;refine .cons ?_ (g e.tail);dsimp only;rw[lh f];rcases ae.fl f with⟨q,c,rfl,b⟩|⟨i,c,rfl,b⟩
  ·rw[b];exact .int q c
  ·rw[b];exact .str i c
theorem mr(x:(d,GL.set IZ)∈S)(D:cg (IZ.map ae.GP) z)(u:IZ.length<64)(j:∀l,M (.ref l) ((l,.list z)::S)):GN q (.builtin "sorted") [.ref d] S M:=by
 intro A s N C k B;obtain⟨L,rfl,t⟩:=B.one;cases t;refine jm (k.objs _ x) fun r I J c=>?_;refine call_function_entry kind_sorted plain_sorted entry_sorted (args_sorted1 _) ?_;refine M9 (m:=checkCount "sorted" 1 1 _) (Nc ?_);refine M9 (aib (A:=A.in1) C.GR c.1 c.2 fun b G H ord g ext=>?_);have p:(ord.map (fun x=>x.2)).length=IZ.length:=by rw[Nb,g.length_eq,NI,(by rewrite[c.2.keys,Nb,NI];rfl:r.size=IZ.length)]
 refine M9 (wpAny_newList ?_ (by rw[p];omega));have E:cg (ord.map fun a=>(d0 a.2).GP) z:=by
  refine D.perm ?_;rw[c.2.keys,Nf];exact g.map _
 refine M9 (N1 (On RB ⟨_,(Ny _ rfl),rfl⟩ RC (nm (Ny _ rfl) (aii (h:=b) (c.2.elems.perm g)) E (by rw[p];exact u) fun i y=>⟨_,rfl,?_⟩) (RD _)));refine Nc ⟨_,rfl,?_⟩;obtain⟨a,v⟩:=sortedHeap_at (out:=i) (Ny _ rfl);have n:s.heap.get? b.objs.size=none:=by
  cases j:s.heap.get? b.objs.size with
  |none=>rfl
  |some e=>have:=NE (ext _ _ j);exact absurd this (O9 _)
 have o:∀f e,s.heap.get? f=some e->(sortedHeap (b.push (seqObj "list" (ord.map (fun x=>x.2)).toArray 0)) b.objs.size (ord.map (fun x=>x.2)) i).get? f=some e:=fun f e a=>by
  rw[sortedHeap_old (NH (NE (ext _ _ a))) (by rw[size_push'];exact N5 (NE (ext _ _ a))),Heap.get?_push_ne _ _ _ (NH (NE (ext _ _ a)))];exact ext _ _ a
 have st:=aq.add (s:=s) (S:=S) (tk:=G) (ao:=.list z) [] o n rfl;exact⟨.ref _,_,.ref _,(k.add (ao:=.list z) o n rfl ed ⟨i,⟨a,v⟩,y _⟩),⟨⟨_,_,_,rfl⟩,st.frame,st.grow⟩,j _⟩
end
theorem Ga(d:h≠I5):cb (cb t I5 Jn) h i=cb (cb t h i) I5 Jn:=by
 funext c
 unfold cb;by_cases b:c=h
 ·subst b;by_cases a:c=I5
  ·exact absurd a d
  ·simp[a]
 ·by_cases a:c=I5
  ·subst a;simp[b]
  ·simp[b,a]
theorem AL(a:h≠I5):[h,I5].eraseDups=[h,I5]:=by
 simp[List.eraseDups,List.eraseDupsBy,List.eraseDupsBy.loop,(beq_eq_false_iff_ne.mpr (NZ a))]
noncomputable def kn(a:Expr):Bool:=swappedStores.match_5 (fun y=>Bool) a (fun y y=>true) fun y=>false
noncomputable def la(a:Env)(b:Nat)(d:Expr):Option Str:=swappedStores.match_8 (fun y=>Option Str) d (fun id c=>if a.kindOf id==some .local&&c.line==b then some id else none) fun y=>none
theorem aj6{f:Expr->Option Str}(c:f o=none\/f o=some h)(d:f X=none\/f X=some I5):[o,X].filterMap f=[h,I5]\/([o,X].filterMap f).length≠2:=by
 rw[Qk,Qk,List.filterMap_nil];rcases c with a|a<;>rcases d with b|b<;>rw[a,b]
 ·exact .inr nofun
 ·exact .inr nofun
 ·exact .inr nofun
 ·exact .inl rfl
theorem v2{x:Str}{p:Pos}:la Jq q (.Name x p)=none\/la Jq q (.Name x p)=some x:=by
 by_cases a:(Jq.kindOf x==some .local&&p.line==q)=true
 ·exact .inr (if_pos a)
 ·exact .inl (if_neg a)
theorem aj7{x y:Str}{px py tp p2:Pos}{k1 k2:Nat}(e:Jq.blockKind=.function)
(g:([o,X].any kn)=false)
(c:([o,X].all (foldedForSure 8))=true\/([o,X].all (constantsAlone 8))=false)(i:x≠y):
  swappedStores [.Tuple [.Name x px,.Name y py] k1 tp] (.Tuple [o,X] k2 p2) Jq=pure none\/swappedStores [.Tuple [.Name x px,.Name y py] k1 tp] (.Tuple [o,X] k2 p2) Jq=pure (some [x,y]):=by
 have d:∀a,[.Name x px,.Name y py].filterMap (la Jq px.line)=a->swappedStores [.Tuple [.Name x px,.Name y py] k1 tp] (.Tuple [o,X] k2 p2) Jq=
  (if(Jq.blockKind !=.function)=true then pure none else if([o,X].any kn)=true then pure none else if(a.length !=2||a.eraseDups.length !=a.length)=true then pure none else
   if[o,X].all (foldedForSure 8)=true then pure none else if[o,X].all (constantsAlone 8)=true then(do unsupported "assign.tuple-of-constant-expressions:order-of-the-stores";pure (some a))else pure (some a)):=fun a b=>by rw[<-b];rfl
 rcases aj6 (f:=la Jq px.line) (v2 (x:=x) (p:=px)) (v2 (x:=y) (p:=py))with b|b
 ·rw[d _ b,e,g,AL i];rcases c with c|c
  ·exact .inl (if_pos c)
  ·rw[c];by_cases h:[o,X].all (foldedForSure 8)=true
   ·exact .inl (if_pos h)
   ·exact .inr (if_neg h)
 ·refine .inl ?_;rw[d _ rfl,e,g,bne_iff_ne.mpr b];rfl
section
variable{K:List Str}{S:aa}
theorem agj{x j G:Pos}(a:G9 e l K Jb Jz)(H:aw e.A q)(D:h∈K)(E:I5∈K)
(m:GK e (eval o e.env) VR t S fun b r k=>GK e (eval X e.env) VR r k fun d I z=>∃f g i,I=an l f/\bp l f h b g/\bp l g I5 d i/\Z .next (an l i) z)
(A:autoParam (h≠I5) dB)(Q:autoParam (([o,X].all (foldedForSure 8))=true\/([o,X].all (constantsAlone 8))=false) tHf)
(M:autoParam (starEach [o,X] e.env=(false,eval o e.env)::starEach [X] e.env) aP)(O:autoParam (starEach [X] e.env=(false,eval X e.env)::starEach [] e.env) aP)
(T:autoParam (([o,X].any kn)=false) aP)
(B:autoParam (swapsWithSole [.Tuple [.Name h N,.Name I5 I9] v x] (.Tuple [o,X] Jd j) G.line e.env=pure false) aP):
  GK e (exec (.Assign [.Tuple [.Name h N,.Name I5 I9] v x] (.Tuple [o,X] Jd j) G) e.env) GW t S Z:=by
 have L:e.env.blockKind=.function:=by unfold Env.blockKind;rw[a.ok.kind];rfl
 have C:GK e (eval (.Tuple [o,X] Jd j) e.env) VR t S fun y V J=>∃b d f g i,y=.tup [b,d]/\V=an l f/\bp l f h b g/\bp l g I5 d i/\Z .next (an l i) J:=by
  refine pv (vm (m.mono fun b r k n=>vm (n.mono fun d I z U=>by refine f2 U fun f g i p=>?_;exact iC ⟨by simp;exact mf (aj (c:=16777216) (Ni _) rfl) (Nd Nl.symm),b,d,f,g,i,rfl,p.1,p.2,p.3,p.4⟩) O) M)
 rcases aj7 (x:=h) (y:=I5) (px:=N) (py:=I9) (tp:=x) (p2:=j) (k1:=v) (k2:=Jd) L T Q A with s|s
 ·refine lY (C.mono fun y r k m=>?_) B s;obtain⟨b,d,f,g,i,rfl,rfl,u,j,n⟩:=m;exact pC a.ok H.GR rfl rfl ⟨_,ow,a.st _ D,by rw[u.val a.GO];exact⟨_,ow,a.st _ E,by rw[j.val a.GO];exact n⟩⟩
 ·refine xo a.ok H.GR s (C.mono fun y r k m=>?_) B;obtain⟨b,d,f,g,i,rfl,rfl,u,j,n⟩:=m;refine⟨[b,d],rfl,rfl,?_⟩;refine⟨_,wpAny_bindName,a.st _ E,_,wpAny_bindName,a.st _ D,?_⟩;show Z .next (cb (cb (an l f) I5 d) h b) k;rw[Ga A,u.val a.GO,j.val a.GO];exact n
end
set_option compiler.extract_closed false
noncomputable def a3(a:Str)(b:Value):Prop:=(G2 a=some b\/(G2 a=none/\bootBuiltins a=some b/\a≠"__name__"))/\cH b
noncomputable def bF(a:Str)(b:Value):Prop:=G2 a=some b\/(G2 a=none/\bootBuiltins a=some b/\a≠"__name__")
theorem Pg.Hw(P:Pg)(a:Nat)(d:(["len","min","max","abs","int","str","list","dict","tuple","set","range","zip","sorted","isinstance","bool","bytes"]:List Str)[a]? =some h)(b:bootBuiltins h=some G)(c:h≠"__name__"):bF h G:=.inr ⟨P.free a h d,b,c⟩
theorem Pg.al7(P:Pg):bF "len" (.builtin "len"):=P.Hw 0 rfl yu aa7
theorem Pg.ama(P:Pg):bF "min" (.builtin "min"):=P.Hw 1 rfl yx aba
theorem Pg.al9(P:Pg):bF "max" (.builtin "max"):=P.Hw 2 rfl yw aa9
theorem Pg.al2(P:Pg):bF "abs" (.builtin "abs"):=P.Hw 3 rfl yp aa1
theorem Pg.al5(P:Pg):bF "int" (.type "int"):=P.Hw 4 rfl ys aa5
theorem Pg.amg(P:Pg):bF "str" (.type "str"):=P.Hw 5 rfl yB abg
theorem Pg.al8(P:Pg):bF "list" (.type "list"):=P.Hw 6 rfl yv aa8
theorem Pg.al4(P:Pg):bF "dict" (.type "dict"):=P.Hw 7 rfl yr aa4
theorem Pg.amh(P:Pg):bF "tuple" (.type "tuple"):=P.Hw 8 rfl yC abh
theorem Pg.ame(P:Pg):bF "set" (.type "set"):=P.Hw 9 rfl yz abc
theorem Pg.amb(P:Pg):bF "range" (.type "range"):=P.Hw 10 rfl yy abb
theorem Pg.ami(P:Pg):bF "zip" (.type "zip"):=P.Hw 11 rfl yD abi
theorem Pg.amf(P:Pg):bF "sorted" (.builtin "sorted"):=P.Hw 12 rfl yA abf
theorem Pg.al6(P:Pg):bF "isinstance" (.builtin "isinstance"):=P.Hw 13 rfl yt aa6
theorem Pg.al3(P:Pg):bF "bool" (.type "bool"):=P.Hw 14 rfl yq aa2
theorem Pg.ali(P:Pg):bF "PaperError" (.ref 46):=.inl (P.cls 0 _ rfl)
theorem Pg.alf(P:Pg):bF "DraftFault" (.ref 59):=.inl (P.cls 1 _ rfl)
theorem Pg.ale(P:Pg):bF "Decimal" (.ref 155):=.inl (P.cls 2 _ rfl)
theorem Pg.alh(P:Pg):bF "Name" (.ref 183):=.inl (P.cls 3 _ rfl)
theorem Pg.al1(P:Pg):bF "String" (.ref 205):=.inl (P.cls 4 _ rfl)
theorem Pg.al0(P:Pg):bF "Stream" (.ref 226):=.inl (P.cls 5 _ rfl)
theorem Pg.alj(P:Pg):bF "Reference" (.ref 254):=.inl (P.cls 6 _ rfl)
theorem Pg.alg(P:Pg):bF "Lookup" (.ref 314):=.inl (P.cls 7 _ rfl)
theorem Pg.wd(P:Pg):bF "Shelf" (.ref 368):=.inl (P.cls 8 _ rfl)
theorem bF.IF(a:bF h (.builtin JY)):a3 h (.builtin JY):=⟨a,dw⟩
theorem bF.H7(a:bF h (.type JY)):a3 h (.type JY):=⟨a,EV⟩
theorem Pg.BH(P:Pg):a3 "kind_of" (.ref 265):=⟨.inl P.CK,bh P.jW⟩
theorem Pg.Ci(P:Pg):a3 "told_plain" (.ref 272):=⟨.inl P.Dn,bh P.sn⟩
theorem Pg.Cg(P:Pg):a3 "told" (.ref 277):=⟨.inl P.Dm,bh P.iO⟩
theorem Pg.Bt(P:Pg):a3 "copied" (.ref 282):=⟨.inl P.Cv,bh P.jM⟩
theorem Pg.Cb(P:Pg):a3 "shelf_copied" (.ref 377):=⟨.inl P.Dh,bh P.sk⟩
theorem Pg.Ck(P:Pg):a3 "value_of" (.ref 382):=⟨.inl P.Dq,bh P.j1⟩
theorem Pg.Bv(P:Pg):a3 "dict_of" (.ref 389):=⟨.inl P.Cy,bh P.rK⟩
theorem Pg.Bs(P:Pg):a3 "common_rows" (.ref 401):=⟨.inl P.Cu,bh P.rH⟩
theorem Pg.BG(P:Pg):a3 "kept_pairs" (.ref 406):=⟨.inl P.CI,bh P.rZ⟩
theorem Pg.Bq(P:Pg):a3 "array_rows" (.ref 413):=⟨.inl P.Cs,bh P.ru⟩
theorem Pg.Bw(P:Pg):a3 "dict_rows" (.ref 418):=⟨.inl P.Cz,bh P.rL⟩
theorem Pg.B5(P:Pg):a3 "pairs_of" (.ref 425):=⟨.inl P.CZ,bh P.se⟩
theorem Pg.Ca(P:Pg):a3 "shape_rows" (.ref 432):=⟨.inl P.Dg,bh P.jX⟩
theorem Pg.B0(P:Pg):a3 "object_rows" (.ref 439):=⟨.inl P.CY,bh P.sd⟩
theorem Pg.By(P:Pg):a3 "differences" (.ref 444):=⟨.inl P.CB,bh P.rN⟩
theorem Pg.BY(P:Pg):a3 "need" (.ref 451):=⟨.inl P.CU,bh P.sb⟩
theorem Pg.Bz(P:Pg):a3 "grouped" (.ref 458):=⟨.inl P.CG,bh P.rU⟩
theorem Pg.Cf(P:Pg):a3 "single" (.ref 463):=⟨.inl P.Dl,bh P.sm⟩
theorem Pg.B9(P:Pg):a3 "shape_applied" (.ref 470):=⟨.inl P.Df,bh P.iM⟩
theorem Pg.Bx(P:Pg):a3 "dict_shape" (.ref 475):=⟨.inl P.CA,bh P.rM⟩
theorem Pg.Bu(P:Pg):a3 "dict_applied" (.ref 482):=⟨.inl P.Cx,bh P.rJ⟩
theorem Pg.Bp(P:Pg):a3 "array_applied" (.ref 489):=⟨.inl P.Cr,bh P.rt⟩
theorem Pg.BZ(P:Pg):a3 "object_applied" (.ref 501):=⟨.inl P.CX,bh P.sc⟩
theorem Pg.Bo(P:Pg):a3 "applied" (.ref 508):=⟨.inl P.Cq,bh P.rr⟩
theorem Pg.B6(P:Pg):a3 "put_object" (.ref 515):=⟨.inl P.C4,bh P.si⟩
theorem Pg.Cd(P:Pg):a3 "show_step" (.ref 520):=⟨.inl P.Dj,bh P.jY⟩
theorem Pg.Cc(P:Pg):a3 "show_shape" (.ref 525):=⟨.inl P.Di,bh P.mG⟩
theorem Pg.Ce(P:Pg):a3 "shown" (.ref 530):=⟨.inl P.Dk,bh P.sl⟩
theorem Pg.Cj(P:Pg):a3 "touched" (.ref 537):=⟨.inl P.Dp,bh P.so⟩
theorem Pg.Br(P:Pg):a3 "clashes" (.ref 544):=⟨.inl P.Ct,bh P.rG⟩
theorem Pg.mR(P:Pg):a3 "joined" (.ref 551):=⟨.inl P.CH,bh P.mE⟩
theorem Pg.BS(P:Pg):a3 "_law_pen" (.ref 558):=⟨.inl P.CQ,bh P.r6⟩
theorem Pg.BQ(P:Pg):a3 "_law_draw" (.ref 565):=⟨.inl P.CO,bh P.r4⟩
theorem Pg.BN(P:Pg):a3 "_law_base" (.ref 570):=⟨.inl P.CL,bh P.r1⟩
theorem Pg.BP(P:Pg):a3 "_law_draft" (.ref 577):=⟨.inl P.CN,bh P.r3⟩
theorem Pg.BV(P:Pg):a3 "_law_shelf" (.ref 584):=⟨.inl P.CS,bh P.r8⟩
theorem Pg.BU(P:Pg):a3 "_law_rows" (.ref 591):=⟨.inl P.CR,bh P.r7⟩
theorem Pg.BW(P:Pg):a3 "_law_shown_right" (.ref 596):=⟨.inl P.CT,bh P.r9⟩
theorem Pg.BO(P:Pg):a3 "_law_clashes" (.ref 603):=⟨.inl P.CM,bh P.r2⟩
theorem Pg.BR(P:Pg):a3 "_law_joined" (.ref 608):=⟨.inl P.CP,bh P.r5⟩
theorem Pg.Ch(P:Pg):a3 "told_objects" (.ref 277):=⟨.inl P.told,bh P.iO⟩
theorem kr(P:Pg)(b:∀a,keepIn (KF a) G=true):cH G:=by
 intro c d;obtain⟨a,e⟩:=P.bc;exact keeps_K (b a) c (e.keeps d)
theorem EU(P:Pg):cH (.ref 368):=kr P fun a=>rfl
theorem Pg.Bn(P:Pg):a3 "Shelf" (.ref 368):=⟨P.wd,EU P⟩
section
variable(C:GU)
@[reducible] noncomputable def gU(c:ab)(a:GG->ab->aa->Prop):GG->aa->Prop:=fun b S=>a b c S
@[reducible] noncomputable def yh(d:Value->Value->Sem Value)(b:GG)(a:GG->ab->aa->Prop):GG->ab->aa->Prop:=fun c e S=>aE C d b c VR e S a
@[reducible] noncomputable def jC(c:Expr)(d:Value->Value->Sem Value)(a:GG->ab->aa->Prop):GG->ab->aa->Prop:=fun b e S=>GK C (eval c C.env) VR e S (yh C d b a)
@[reducible] noncomputable def IN(c:Value->Sem Value)(a:GG->ab->aa->Prop):GG->ab->aa->Prop:=fun b d S=>bn C c b VR d S a
@[reducible] noncomputable def Im(b:Bool->ab->aa->Prop):GG->ab->aa->Prop:=fun c d S=>∃a,c=.bool a/\b a d S
@[reducible] noncomputable def lW(a:List Str)(f:Str)(d:G4->ab->aa->Prop):GG->ab->aa->Prop:=fun e g S=>∃b c,g=an a b/\bp a b f e c/\d .next (an a c) S
@[reducible] noncomputable def lV(a:List Str)(h i:Str)(f:GG)(e:G4->ab->aa->Prop):GG->ab->aa->Prop:=fun g j S=>∃b c d,j=an a b/\bp a b h f c/\bp a c i g d/\e .next (an a d) S
@[reducible] noncomputable def xl(a:List Str)(e f:Str)(d:Expr)(b:G4->ab->aa->Prop):GG->ab->aa->Prop:=fun c g S=>GK C (eval d C.env) VR g S (lV a e f c b)
@[reducible] noncomputable def m2(d e:List Stmt)(a:G4->ab->aa->Prop):Bool->ab->aa->Prop:=fun b c S=>(b=true->GK C (execs d C.env) GW c S a)/\(b=false->GK C (execs e C.env) GW c S a)
@[reducible] noncomputable def Ej(d e:Expr)(a:GG->ab->aa->Prop):Bool->ab->aa->Prop:=fun b c S=>(b=true->GK C (eval d C.env) VR c S a)/\(b=false->GK C (eval e C.env) VR c S a)
@[reducible] noncomputable def Ex(b:GG)(a:List GG->ab->aa->Prop):List GG->ab->aa->Prop:=fun c d S=>a (b::c) d S
@[reducible] noncomputable def Ew(c:Pos)(d:List Expr)(a:List GG->ab->aa->Prop):GG->ab->aa->Prop:=fun b e S=>GK C (spliced (backTo c (starEach d C.env))) ao e S (Ex b a)
@[reducible] noncomputable def ak9(b:GG->ab->aa->Prop):List GG->ab->aa->Prop:=fun a c S=>a.length<=sizeLine/\b (.tup a) c S
@[reducible] noncomputable def Gb(c:GG->ab->aa->Prop):List GG->ab->aa->Prop:=fun b d S=>b.length<=sizeLine/\∀a,c (.ref a) d ((a,.list b)::S)
@[reducible] noncomputable def yN(d:Nat)(c:Value)(a:GG->ab->aa->Prop):List GG->ab->aa->Prop:=fun b e S=>GN d c b S (gU e a)
@[reducible] noncomputable def yH(d:Nat)(c:Value)(a:GG->ab->aa->Prop):GG->ab->aa->Prop:=fun b e S=>GN d c [b] S (gU e a)
@[reducible] noncomputable def yJ(e:Nat)(d:Value)(b:GG)(a:GG->ab->aa->Prop):GG->ab->aa->Prop:=fun c f S=>GN e d [b,c] S (gU f a)
@[reducible] noncomputable def yI(e:Nat)(d:Value)(c:Expr)(a:GG->ab->aa->Prop):GG->ab->aa->Prop:=fun b f S=>GK C (eval c C.env) VR f S (yJ e d b a)
@[reducible] noncomputable def yM(f:Nat)(e:Value)(b c:GG)(a:GG->ab->aa->Prop):GG->ab->aa->Prop:=fun d g S=>GN f e [b,c,d] S (gU g a)
@[reducible] noncomputable def yL(f:Nat)(e:Value)(b:GG)(d:Expr)(a:GG->ab->aa->Prop):GG->ab->aa->Prop:=fun c g S=>GK C (eval d C.env) VR g S (yM f e b c a)
@[reducible] noncomputable def yK(f:Nat)(e:Value)(c d:Expr)(a:GG->ab->aa->Prop):GG->ab->aa->Prop:=fun b g S=>GK C (eval c C.env) VR g S (yL C f e b d a)
@[reducible] noncomputable def Gi(e:Nat)(c:Value)(d:List GG)(a:GG->ab->aa->Prop):List GG->ab->aa->Prop:=fun b f S=>GN e c (d++b) S (gU f a)
@[reducible] noncomputable def i5(g:Nat)(h:Str)(i:Pos)(f:List Expr)(d:GG->ab->aa->Prop):GG->ab->aa->Prop:=fun e c S=>∃a b,cJ C e h c S a b/\cH a/\GK C (spliced (backTo i (starEach f C.env))) ao c S (Gi g a b d)
@[reducible] noncomputable def Gh(f:Nat)(g:Str)(d:GG->ab->aa->Prop):GG->ab->aa->Prop:=fun e c S=>∃a b,cJ C e g c S a b/\cH a/\GN f a (b++[]) S (gU c d)
@[reducible] noncomputable def ahe(a:G4->ab->aa->Prop):GG->ab->aa->Prop:=fun b c S=>a (.ret b) c S
@[reducible] noncomputable def Bg(a:G4->ab->aa->Prop):GG->ab->aa->Prop:=fun x b S=>a .next b S
@[reducible] noncomputable def acc(a:Bool->ab->aa->Prop):Bool->ab->aa->Prop:=fun b c S=>a (!b) c S
@[reducible] noncomputable def w2(d:List Expr)(a:Bool->ab->aa->Prop):Bool->ab->aa->Prop:=fun b c S=>(b=true->GK C (allTrue .And d C.env) Ho c S a)/\(b=false->a false c S)
@[reducible] noncomputable def orQ(d:List Expr)(a:Bool->ab->aa->Prop):Bool->ab->aa->Prop:=fun b c S=>(b=true->a true c S)/\(b=false->GK C (allTrue .Or d C.env) Ho c S a)
@[reducible] noncomputable def wg(e:List Expr)(f:Pos)(b:GG->ab->aa->Prop):GG->ab->aa->Prop:=fun d c S=>∃a,d=.bool a/\(a=true->GK C (eval (.BoolOp .And e f) C.env) VR c S b)/\(a=false->b (.bool false) c S)
@[reducible] noncomputable def wi(e:List Expr)(f:Pos)(b:GG->ab->aa->Prop):GG->ab->aa->Prop:=fun d c S=>∃a,d=.bool a/\(a=false->GK C (eval (.BoolOp .Or e f) C.env) VR c S b)/\(a=true->b (.bool true) c S)
@[reducible] noncomputable def aj1(d b:GG)(a:G4->ab->aa->Prop):GG->ab->aa->Prop:=fun c e S=>e5 C setItem b c d e S (a .next)
@[reducible] noncomputable def aj0(d:Expr)(c:GG)(a:G4->ab->aa->Prop):GG->ab->aa->Prop:=fun b e S=>GK C (eval d C.env) VR e S (aj1 C c b a)
@[reducible] noncomputable def ajj(d c:Expr)(a:G4->ab->aa->Prop):GG->ab->aa->Prop:=fun b e S=>GK C (eval d C.env) VR e S (aj0 C c b a)
@[reducible] noncomputable def ai7(c d:GG)(b:GG->ab->aa->Prop):GG->ab->aa->Prop:=fun e f S=>∃lo a,d=fC lo/\e=fC a/\ga C c lo a f S b
@[reducible] noncomputable def ai6(d:Option Expr)(b:GG)(a:GG->ab->aa->Prop):GG->ab->aa->Prop:=fun c e S=>GK C (evalPart d C.env) VR e S (ai7 C b c a)
@[reducible] noncomputable def ai5(lo c:Option Expr)(a:GG->ab->aa->Prop):GG->ab->aa->Prop:=fun b d S=>GK C (evalPart lo C.env) VR d S (ai6 C c b a)
@[reducible] noncomputable def pJ(d:Value->Value->Sem Value)(b:GG)(a:Bool->ab->aa->Prop):GG->ab->aa->Prop:=fun c e S=>aE C d b c VR e S (Im a)
@[reducible] noncomputable def pI(f:Expr)(g:Value->Value->Sem Value)(d:GG)(b:Bool->ab->aa->Prop):GG->ab->aa->Prop:=fun e c S=>∃a,e=.bool a/\(a=false->b false c S)/\(a=true->GK C (eval f C.env) VR c S (pJ C g d b))
@[reducible] noncomputable def yF(e f:Value->Value->Sem Value)(d:Expr)(c:GG)(b:Bool->ab->aa->Prop):GG->ab->aa->Prop:=fun a g S=>aE C e c a VR g S (pI C d f a b)
@[reducible] noncomputable def yE(c d:Expr)(e f:Value->Value->Sem Value)(a:Bool->ab->aa->Prop):GG->ab->aa->Prop:=fun b g S=>GK C (eval c C.env) VR g S (yF C e f d b a)
end
section
variable{K:List Str}{S:aa}
theorem an1{a:Operator}(b:GK e (eval o e.env) VR t S (jC e X (binaryOp a) B)):GK e (eval (.BinOp o a X N) e.env) VR t S B:=xp b
theorem ao2(a:GK e (eval o e.env) VR t S (jC e X (subscriptTail o X) B)):GK e (eval (.Subscript o X N) e.env) VR t S B:=xF a
theorem an8{a:CmpOp}(c:behindInMarks a X=false)(b:GK e (eval o e.env) VR t S (jC e X (compareOp a) B)):GK e (eval (.Compare o [a] [X] N) e.env) VR t S B:=xs b c
theorem ao8{a:UnaryOp}(b:GK e (eval o e.env) VR t S (IN e (unaryOp a) B)):GK e (eval (.UnaryOp a o N) e.env) VR t S B:=xG b
theorem aob{a:Expr}(b:GK e (isTrue o e.env (eval o e.env)) Ho t S (Ej e X a B)):GK e (eval (.IfExp o X a N) e.env) VR t S B:=xz b
theorem lp{a:CmpOp}(c:behindInMarks a X=false)(b:GK e (eval o e.env) VR t S (jC e X (compareOp a) (Im Jw))):
 GK e (isTrue (.Compare o [a] [X] N) e.env Kl) Ho t S Jw:=x8 b c
theorem an7{a:Expr}{b c:CmpOp}(f:lastMarks [b,c] [X,a]=false)(d:GK e (eval o e.env) VR t S (yE e X a (compareOp b) (compareOp c) Jw))
:GK e (isTrue (.Compare o [b,c] [X,a] N) e.env Kl) Ho t S Jw:=ya d f
theorem ao4(c:isTrue o e.env (eval o e.env)=(do let a<-eval o e.env;standAt o.pos;holding [a] (truthy a)))(b:GK e (eval o e.env) VR t S (Im Jw)):
 GK e (isTrue o e.env (eval o e.env)) Ho t S Jw:=yb b c
theorem wD(c:swapsWith o (some (.Name h N)) I9.line e.env=pure false)(a:G9 e l K Jb Jz)(d:h∈K)(b:GK e (eval o e.env) VR t S (lW l h Z))
:GK e (exec (.Assign [.Name h N] o I9) e.env) GW t S Z:=py a d b c
theorem ao7{c a b:Pos}(d:G9 e l K Jb Jz)(s:aw e.A q)(p:h∈K)(r:I5∈K)(m:h≠I5)(j:([o,X].all (foldedForSure 8))=true\/([o,X].all (constantsAlone 8))=false)
(g:starEach [o,X] e.env=(false,eval o e.env)::starEach [X] e.env)(i:starEach [X] e.env=(false,eval X e.env)::starEach [] e.env)(k:([o,X].any kn)=false)
(n:swapsWithSole [.Tuple [.Name h N,.Name I5 I9] v c] (.Tuple [o,X] Jd a) b.line e.env=pure false)(f:GK e (eval o e.env) VR t S (xl e l h I5 X Z)):
 GK e (exec (.Assign [.Tuple [.Name h N,.Name I5 I9] v c] (.Tuple [o,X] Jd a) b) e.env) GW t S Z:=agj d s p r f m j g i k n
theorem hi{a:List Stmt}(b:GK e (isTrue o e.env (eval o e.env)) Ho t S (m2 e I2 a Z)):GK e (exec (.If o I2 a N) e.env) GW t S Z:=xy b
theorem an9(a:G9 e l K Jb Jz)(c:swapsWith o none N.line e.env=pure false)(b:GK e (eval o e.env) VR t S (Bg Z)):
 GK e (exec (.Expr o N) e.env) GW t S Z:=xv b (by unfold interactive;rw[a.ok.kind];rfl) c
theorem aoc(b:starEach (o::IS) e.env=(false,eval o e.env)::starEach IS e.env)(a:GK e (eval o e.env) VR t S (Ew e N IS KC))
:GK e (spliced (backTo N (starEach (o::IS) e.env))) ao t S KC:=gi a b
theorem ao6(a:GK e (spliced (backTo N (starEach IS e.env))) ao t S (ak9 B)):GK e (eval (.Tuple IS q N) e.env) VR t S B:=pv a
theorem aod(a:GK e (spliced (backTo N (starEach IS e.env))) ao t S (Gb B)):GK e (eval (.List IS N) e.env) VR t S B:=xA a
theorem oT(b:G9 e l K Jb Jz)(P:Pg)(c:h∈Jb)(a:bF h G)(d:B (.raw G) t S):GK e (eval (.Name h N) e.env) VR t S B:=by
 rcases a with a|⟨f,g,i⟩
 ·exact xY b P.T c a d
 ·exact xR b P.T c f g i d
theorem ln(i:aw e.A q)(b:G9 e l K Jb Jz)(P:Pg)(g:h∈Jb)(a:a3 h G)(d:starEach (o::IS) e.env=(false,eval o e.env)::starEach IS e.env)(f:(backTo I9 (starEach IS e.env)).any (fun x=>x.1)=false)(c:GK e (spliced (backTo I9 (starEach (o::IS) e.env))) ao t S (yN q G B)):
 GK e (eval (.Call (.Name h N) (o::IS) [] I9) e.env) VR t S B:=xr i (oT b P g a.1 ⟨G,rfl,a.2,c⟩) d f
theorem an4(i:aw e.A q)(b:G9 e l K Jb Jz)(P:Pg)(f:h∈Jb)(d:a3 h G)(a:starEach [o] e.env=[(false,eval o e.env)])(c:GK e (eval o e.env) VR t S (yH q G B)):GK e (eval (.Call (.Name h N) [o] [] I9) e.env) VR t S B:=
 ln i b P f d a rfl (gi (c.mono fun y y y g=>iC g) a)
theorem an5(j:aw e.A q)(d:G9 e l K Jb Jz)(P:Pg)(i:h∈Jb)(g:a3 h G)(b:starEach [o,X] e.env=(false,eval o e.env)::starEach [X] e.env)(c:starEach [X] e.env=[(false,eval X e.env)])(f:GK e (eval o e.env) VR t S (yI e q G X B)):GK e (eval (.Call (.Name h N) [o,X] [] I9) e.env) VR t S B:=
 ln j d P i g b (by rw[c];rfl) (gi (f.mono fun y y y a=>gi (GK.mono a fun y y y a=>iC a) c) b)
theorem an6{a:Expr}(m:aw e.A q)(g:G9 e l K Jb Jz)(P:Pg)(k:h∈Jb)(j:a3 h G)(c:starEach [o,X,a] e.env=(false,eval o e.env)::starEach [X,a] e.env)(d:starEach [X,a] e.env=(false,eval X e.env)::starEach [a] e.env)(f:starEach [a] e.env=[(false,eval a e.env)])(i:GK e (eval o e.env) VR t S (yK e q G X a B)):
  GK e (eval (.Call (.Name h N) [o,X,a] [] I9) e.env) VR t S B:=
 ln m g P k j c (by rw[d,f];rfl) (gi (i.mono fun y y y b=>gi (GK.mono b fun y y y b=>gi (GK.mono b fun y y y b=>iC b) f) d) c)
theorem aoe{g:Sem Bool}(i:aw e.A q)
(d:eval (.Call (.Attribute o h N) (X::IS) [] I9) e.env=(do
 let a<-eval o e.env
 standAt N.atName
 let(G,first)<-holding [a] (getMethod a h g)
 callWith I9 G first (backTo I9 (starEach (X::IS) e.env)) (backToKw I9 (keywordEach [] e.env))))
(c:starEach (X::IS) e.env=(false,eval X e.env)::starEach IS e.env)(f:(backTo I9 (starEach IS e.env)).any (fun x=>x.1)=false)(b:GK e (eval o e.env) VR t S (i5 e q h I9 (X::IS) B)):
 GK e (eval (.Call (.Attribute o h N) (X::IS) [] I9) e.env) VR t S B:=xB i b d c f
theorem aof{d:Sem Bool}(f:aw e.A q)
(c:eval (.Call (.Attribute o h N) [] [] I9) e.env=(do
 let a<-eval o e.env
 standAt N.atName
 let(G,first)<-holding [a] (getMethod a h d)
 callWith I9 G first (backTo I9 (starEach [] e.env)) (backToKw I9 (keywordEach [] e.env))))(b:GK e (eval o e.env) VR t S (Gh e q h B)):GK e (eval (.Call (.Attribute o h N) [] [] I9) e.env) VR t S B:=xC f b c
theorem ao0(a:GK e (eval o e.env) VR t S (ahe Z)):GK e (exec (.Return (some o) N) e.env) GW t S Z:=xE a
theorem aog(a:GK e (isTrue o e.env (eval o e.env)) Ho t S (acc Jw)):GK e (isTrue (.UnaryOp .Not o N) e.env Kl) Ho t S Jw:=x9 a
theorem ao3(a:GK e (isTrue o e.env (eval o e.env)) Ho t S (w2 e IS Jw)):GK e (allTrue .And (o::IS) e.env) Ho t S Jw:=xJ a
theorem ao5(a:GK e (isTrue o e.env (eval o e.env)) Ho t S (orQ e IS Jw)):GK e (allTrue .Or (o::IS) e.env) Ho t S Jw:=xL a
theorem an0(a:GK e (eval o e.env) VR t S (wg e (X::IS) N B)):GK e (eval (.BoolOp .And (o::X::IS) N) e.env) VR t S B:=xm a
theorem aoh(a:GK e (eval o e.env) VR t S (wi e (X::IS) N B)):GK e (eval (.BoolOp .Or (o::X::IS) N) e.env) VR t S B:=xD a
theorem wF{a:Expr}(c:swapsWith a (some (.Subscript o X N)) I9.line e.env=pure false)(b:GK e (eval a e.env) VR t S (ajj e o X Z))
:GK e (exec (.Assign [.Subscript o X N] a I9) e.env) GW t S Z:=xn b c
theorem ao1{a b:Option Expr}(c:GK e (eval o e.env) VR t S (ai5 e a b B)):GK e (eval (.Subscript o (.Slice a b none N) I9) e.env) VR t S B:=ajb c
theorem aoi(a:bp l Y h i JT)(b:Z .next (an l JT) S):lW l h Z i (an l Y) S:=⟨Y,JT,rfl,a,b⟩
theorem aoj{a:List (Option GG)}(b:bp l Y h i JT)(c:bp l JT I5 Jn a)(d:Z .next (an l a) S):lV l h I5 i Z Jn (an l Y) S:=⟨Y,JT,a,rfl,b,c,d⟩
theorem aoa{a iter:Expr}(c:∀h,foldedSetIterable iter e.env h=pure h)(b:GK e (eval iter e.env) VR (an l Y) S (ek e l a I2 Z)):GK e (exec (.For a iter I2 [] N) e.env) GW (an l Y) S Z:=xx l b c
theorem an3{a:Value->Value->Sem Value}(b:(Jh=false->Jw false t S)/\(Jh=true->GK e (eval o e.env) VR t S (pJ e a i Jw))):pI e o a i Jw (.bool Jh) t S:=⟨Jh,rfl,b⟩
theorem ao9(a:(Jh=true->GK e (eval (.BoolOp .And IS N) e.env) VR t S B)/\(Jh=false->B (.bool false) t S)):wg e IS N B (.bool Jh) t S:=⟨Jh,rfl,a⟩
theorem apa(a:(Jh=false->GK e (eval (.BoolOp .Or IS N) e.env) VR t S B)/\(Jh=true->B (.bool true) t S)):wi e IS N B (.bool Jh) t S:=⟨Jh,rfl,a⟩
theorem an2(a:Jw Jh t S):Im Jw (.bool Jh) t S:=⟨Jh,rfl,a⟩
theorem FN:b4 (h::l) (some i::Y) h i:=.here
theorem pt0:bp (h::l) (Ji::Y) h i (some i::Y):=.here
theorem tM:b4 (I5::h::l) (Ji::some i::Y) h i:=.there .here
theorem gH:bp (I5::h::l) (Ji::Jk::Y) h i (Ji::some i::Y):=.there .here
theorem tP:b4 (I5::JL::h::l) (Ji::Jk::some i::Y) h i:=.there tM
theorem gI:bp (I5::JL::h::l) (Ji::Jk::Jt::Y) h i (Ji::Jk::some i::Y):=.there gH
theorem tQ:b4 (I5::JL::JV::h::l) (Ji::Jk::Jt::some i::Y) h i:=.there tP
theorem gJ:bp (I5::JL::JV::h::l) (Ji::Jk::Jt::Jx::Y) h i (Ji::Jk::Jt::some i::Y):=.there gI
theorem tR:b4 (I5::JL::JV::JZ::h::l) (Ji::Jk::Jt::Jx::some i::Y) h i:=.there tQ
theorem ve:bp (I5::JL::JV::JZ::h::l) (Ji::Jk::Jt::Jx::JC::Y) h i (Ji::Jk::Jt::Jx::some i::Y):=.there gJ
theorem tS:b4 (I5::JL::JV::JZ::J9::h::l) (Ji::Jk::Jt::Jx::JC::some i::Y) h i:=.there tR
theorem vf:bp (I5::JL::JV::JZ::J9::h::l) (Ji::Jk::Jt::Jx::JC::JI::Y) h i (Ji::Jk::Jt::Jx::JC::some i::Y):=.there ve
theorem tT:b4 (I5::JL::JV::JZ::J9::Kf::h::l) (Ji::Jk::Jt::Jx::JC::JI::some i::Y) h i:=.there tS
theorem vg:bp (I5::JL::JV::JZ::J9::Kf::h::l) (Ji::Jk::Jt::Jx::JC::JI::JP::Y) h i (Ji::Jk::Jt::Jx::JC::JI::some i::Y):=.there vf
theorem tU:b4 (I5::JL::JV::JZ::J9::Kf::Km::h::l) (Ji::Jk::Jt::Jx::JC::JI::JP::some i::Y) h i:=.there tT
theorem vh:bp (I5::JL::JV::JZ::J9::Kf::Km::h::l) (Ji::Jk::Jt::Jx::JC::JI::JP::J0::Y) h i (Ji::Jk::Jt::Jx::JC::JI::JP::some i::Y):=.there vg
theorem tV{a:Str}:b4 (I5::JL::JV::JZ::J9::Kf::Km::a::h::l) (Ji::Jk::Jt::Jx::JC::JI::JP::J0::some i::Y) h i:=.there tU
theorem vi{a:Str}:bp (I5::JL::JV::JZ::J9::Kf::Km::a::h::l) (Ji::Jk::Jt::Jx::JC::JI::JP::J0::Kj::Y) h i (Ji::Jk::Jt::Jx::JC::JI::JP::J0::some i::Y):=.there vh
theorem tW{a b:Str}:b4 (I5::JL::JV::JZ::J9::Kf::Km::a::b::h::l) (Ji::Jk::Jt::Jx::JC::JI::JP::J0::Kj::some i::Y) h i:=.there tV
theorem vj{a b:Str}:bp (I5::JL::JV::JZ::J9::Kf::Km::a::b::h::l) (Ji::Jk::Jt::Jx::JC::JI::JP::J0::Kj::Kr::Y) h i (Ji::Jk::Jt::Jx::JC::JI::JP::J0::Kj::some i::Y):=.there vi
theorem tN{a b c:Str}:b4 (I5::JL::JV::JZ::J9::Kf::Km::a::b::c::h::l) (Ji::Jk::Jt::Jx::JC::JI::JP::J0::Kj::Kr::some i::Y) h i:=.there tW
theorem vc{a b c:Str}:bp (I5::JL::JV::JZ::J9::Kf::Km::a::b::c::h::l) (Ji::Jk::Jt::Jx::JC::JI::JP::J0::Kj::Kr::Kx::Y) h i (Ji::Jk::Jt::Jx::JC::JI::JP::J0::Kj::Kr::some i::Y):=.there vj
theorem tO{b c d a:Str}:b4 (I5::JL::JV::JZ::J9::Kf::Km::b::c::d::a::h::l) (Ji::Jk::Jt::Jx::JC::JI::JP::J0::Kj::Kr::Kx::some i::Y) h i:=.there tN
theorem vd{b c d a:Str}{e:Option GG}:bp (I5::JL::JV::JZ::J9::Kf::Km::b::c::d::a::h::l) (Ji::Jk::Jt::Jx::JC::JI::JP::J0::Kj::Kr::Kx::e::Y) h i (Ji::Jk::Jt::Jx::JC::JI::JP::J0::Kj::Kr::Kx::some i::Y):=.there vc
theorem FO{c d e a b:Str}{f:Option GG}:b4 (I5::JL::JV::JZ::J9::Kf::Km::c::d::e::a::b::h::l) (Ji::Jk::Jt::Jx::JC::JI::JP::J0::Kj::Kr::Kx::f::some i::Y) h i:=.there tO
theorem agg{d e f b c:Str}{a:Option GG}{g:Option GG}:bp (I5::JL::JV::JZ::J9::Kf::Km::d::e::f::b::c::h::l) (Ji::Jk::Jt::Jx::JC::JI::JP::J0::Kj::Kr::Kx::a::g::Y) h i (Ji::Jk::Jt::Jx::JC::JI::JP::J0::Kj::Kr::Kx::a::some i::Y):=.there vd
theorem anb(b:B i t S)(a:autoParam (Plain X) eC):aE e (subscriptTail o X) (.tup (i::z)) (.int 0) VR t S B:=kW (k:=0) rfl (by decide) b a
theorem anc(b:B Jn t S)(a:autoParam (Plain X) eC):aE e (subscriptTail o X) (.tup (i::Jn::z)) (.int 1) VR t S B:=kW (k:=1) rfl (by decide) b a
theorem ane{a:GG}(c:B a t S)(b:autoParam (Plain X) eC):aE e (subscriptTail o X) (.tup (i::Jn::a::z)) (.int 2) VR t S B:=kW (k:=2) rfl (by decide) c b
theorem anf{b a:GG}(d:B a t S)(c:autoParam (Plain X) eC):aE e (subscriptTail o X) (.tup (i::Jn::b::a::z)) (.int 3) VR t S B:=kW (k:=3) rfl (by decide) d c
theorem FL{S:aa}(a:(d,GL.list z)∈S):cf S d z:=.inl a
theorem ab6:Builtin.divisionGoesByPylong k (-1)=false:=PyProof.noPylong_small (by decide)
end
theorem z2{S:aa}(a:GN q G (i::z) S M):GN q G ([i]++z) S M:=a
theorem bN(c:Jh=true)(b:I7):(Jh=true->I7)/\(Jh=false->JU):=⟨fun x=>b,fun a=>(by rw[c]at a;cases a)⟩
theorem bx(c:Jh=false)(b:JU):(Jh=true->I7)/\(Jh=false->JU):=⟨fun a=>(by rw[c]at a;cases a),fun x=>b⟩
theorem tb(c:Jh=true)(b:I7):(Jh=false->JU)/\(Jh=true->I7):=⟨fun a=>(by rw[c]at a;cases a),fun x=>b⟩
theorem ta(c:Jh=false)(b:JU):(Jh=false->JU)/\(Jh=true->I7):=⟨fun x=>b,fun a=>(by rw[c]at a;cases a)⟩
theorem jo{b:List Stmt}{S:aa}(a:Jh=true)(c:GK e (execs I2 e.env) GW t S Z):m2 e I2 b Z Jh t S:=bN a c
theorem jn{a:List Stmt}{S:aa}(b:Jh=false)(c:GK e (execs a e.env) GW t S Z):m2 e I2 a Z Jh t S:=bx b c
section
variable{K:Type}[DecidableEq K]{knd:HeapKind prog w K}
theorem ah2{dflt:Value}{a:K}{f:List (K×Addr×Value)}(r:knd.room Q)(l:knd.is p.heap a H)(y:p.heap.DictOfH knd d f)
(v:∀i,atKey f a=some i->JX i.2 {p with toks:=p.toks+knd.draws a})
(x:atKey f a=none->∀k,k.DictOfH knd d (f++[(a,H,dflt)])->Heap.SameBut d p.heap k->JX dflt {p with heap:=k,toks:=p.toks+knd.draws a})
(A:f.length<=sizeLine):wpAny (model prog w) Q (dictSetDefault d (.ref H) dflt) JX I4 p:=by
 refine wC y fun D C u g=>?_;have e:=g.1;have c:=g.3;have h:=g.4;have n:=g.5;have m:=g.6;unfold dictSetDefault
 try with_reducible refine N1 ?_
 refine M9 (knd.pyHash r l ?_);refine M9 (wpAny_dictFind_heap (s:={p with toks:=p.toks+knd.draws a}) r l e c h n m ?_ ?_)
 ·intro q;have z:a∉f.map (fun x=>x.1):=not_mem_keys_of_get q;refine M9 (OF (M9 (wpAny_updateDictKeys (hz:=by have j:=size_of_entries h;exact mf (Nd j) A) (s:={p with toks:=p.toks+knd.draws a}) e c (Nc (x (atKey_none_of_get q) _ ⟨_,_,u+1,OO _ e (Obj.isFreed_of_dict (Obj.data_mapDictKeys c _)),
   g.2.mapDictKeys _,Obj.data_mapDictKeys c _,?_,?_,?_⟩ (OV ..))))))
  ·simp[h,entryOfKey]
  ·intro t b;rcases Nu.mp b with b|b
   ·exact knd.keeps (n t b) e c (OV ..)
   ·simp only[Nj]at b;subst b;exact knd.keeps l e c (OV ..)
  ·rw[Ng,NK];refine⟨m,by simp,?_⟩;intro t b E s;simp only[Nt,Ph,Nj]at s;cases s;exact fun j=>z (j▸b)
 ·intro B i o;refine M9 (QZ (s:={p with toks:=p.toks+knd.draws a}) e c ?_);rw[entry_at h B,o];exact M9 (OF (Nc (v i (atKey_of_get m o))))
theorem ug(a f:Addr)(j:(a==sysModules)=false)(dflt:Value):
  MeetsIn prog w (Builtin.«dict.setdefault» ⟨[Value.ref a,Value.ref f,dflt],[]⟩) (fun Q R p=>knd.room Q.in1/\∃b c,knd.is p.heap b f/\p.heap.DictOfH knd a c/\c.length<=sizeLine/\
   (∀e,atKey c b=some e->R (.ok (.ret e.2)) {p with toks:=p.toks+knd.draws b})/\
   (atKey c b=none->∀d,d.DictOfH knd a (c++[(b,f,dflt)])->Heap.SameBut a p.heap d->R (.ok (.ret dflt)) {p with heap:=d,toks:=p.toks+knd.draws b})):=
 .of_wp fun Q R p s=>by
  obtain⟨q,b,c,k,g,r,h,i⟩:=s;refine M9 ?_;refine M9 (RJ g.typeIs ?_);refine Nc ?_;show wpAny _ _ (if(a==sysModules)=true then _ else(dictSetDefault a (.ref f) dflt>>=_)) _ _ p;rw[if_neg (by rw[j];exact Oe)];exact M9 (ah2 q k g (fun e n=>Nc ⟨e.2,rfl,h e n⟩) (fun m d l o=>Nc ⟨dflt,rfl,i m d l o⟩) r)
end
noncomputable abbrev eh:=tupleKind (aX)
noncomputable abbrev ei(a:List ae):GG:=.tup (a.map ae.GP)
section
variable{S:aa}
theorem Ez:∀{a:List Value},ao I a (IZ.map ae.GP)->ItemsAre (aX) IZ a:=by
 induction IZ with
 |nil=>intro a b;rw[b.fQ];exact .nil
 |cons IZ f d=>
  intro a b;obtain⟨g,h,rfl,c,e⟩:=b.head;exact .cons (ec c) (d e)
theorem Eu(a:ItemsAre (aX) IZ Ja):ao I Ja (IZ.map ae.GP):=by
 induction a with
 |nil=>exact .nil
 |cons b a c=>exact .cons (ae.l3 b) c
theorem oB(b:VR I G (ei IZ)):∃a,G=.ref a/\(eh).is I IZ a:=by
 cases b with
 | @tup a h _ f b=>
  obtain⟨g,e,c,q,d⟩:=f;exact⟨a,rfl,g,h,q,e,c,d,Ez b⟩
theorem Ev(b:(eh).is I IZ d):VR I (.ref d) (ei IZ):=by
 refine f2 b fun c e q a=>?_;exact .tup ⟨c,a.1,a.2,q,a.3⟩ (Eu a.4)
theorem LR.bD(b:LR S p.heap)(c:(d,GL.bD q Ka)∈S):∃a,ip (eh) p.heap d a q/\a.map (fun x=>x.1)=Ka.map (fun x=>x.1)/\ao p.heap (a.map (fun x=>x.2.2)) (Ka.map (fun x=>x.2)):=b.objs _ c
theorem gT(e:ip (eh) I d Ks q):I.DictOfH (eh) d Ks:=by
 refine wB e fun c b a=>?_;exact⟨c,b,q,a.1,a.2,a.3,a.4,a.5,a.6⟩
theorem ac1(f:I.DictOfH (eh) d Ks):∃b,ip (eh) I d Ks b:=by
 refine wC f fun e c b a=>?_;exact⟨b,e,c,a.1,a.2,a.3,a.4,a.5,a.6⟩
theorem BE{k:Type}[DecidableEq D]{d:List (D×I1)}:∀{b:List (D×k)}{R:I1->k->Prop},d.map (fun x=>x.1)=b.map (fun x=>x.1)->(∀(i:Nat)(f:D×I1)(g:D×k),d[i]? =some f->b[i]? =some g->R f.2 g.2)->∀c,(d.find? (fun a=>decide (a.1=c))=none/\b.find? (fun a=>decide (a.1=c))=none)\/∃f g,d.find? (fun a=>decide (a.1=c))=some f/\b.find? (fun a=>decide (a.1=c))=some g/\R f.2 g.2:=by
 induction d with
 |nil=>intro b R h j c;cases b with
  |nil=>exact .inl ⟨rfl,rfl⟩
  |cons e b=>cases h
 |cons a d m=>intro b R h j c;cases b with
  |nil=>cases h
  |cons e b=>
   refine aW (Oz h) fun l=>?_;rw[Oy,Oy,show a.1=e.1 from l.1];cases decide (e.1=c)with
   |true=>exact .inr ⟨a,e,rfl,rfl,j 0 a e rfl rfl⟩
   |false=>exact m l.2 (fun i=>j (i+1)) c
theorem kf(i:Ks.map (fun x=>x.1)=Ka.map (fun x=>x.1))(m:ao I (Ks.map (fun x=>x.2.2)) (Ka.map (fun x=>x.2)))(f:List ae):(atKey Ks f=none/\ay Ka f=none)\/∃h a,atKey Ks f=some h/\ay Ka f=some a/\VR I h.2 a:=by
 delta atKey ay;have R:∀(g:Nat)(c:List ae×Addr×Value)(a:List ae×GG),Ks[g]? =some c->Ka[g]? =some a->VR I c.2.2 a.2:=fun g c a k l=>by
  obtain⟨w,b,e⟩:=m.get (i:=g) (d:=a.2) (by rw[Ot,l];rfl);rw[Ot,k]at b;rw[show c.2.2=w from NM b];exact e
 rcases BE (R:=fun h a=>VR I h.2 a) i R f with⟨b,e⟩|⟨c,a,b,e,j⟩
 ·exact .inl ⟨by rw[b];rfl,by rw[e];rfl⟩
 ·exact .inr ⟨c.2,a.2,by rw[b];rfl,by rw[e];rfl,j⟩
theorem og(a:aw Q q):(eh).room Q.in1:=tupleKind_room_in1 (by have:=a.units;omega)
theorem uV{ks:List (List ae×GG)}(b:I.DictOfH (eh) d Ks)(c:Ks.map (fun x=>x.1)=ks.map (fun x=>x.1))(e:ao I (Ks.map (fun x=>x.2.2)) (ks.map (fun x=>x.2))):∃a,OR I d (.bD a ks):=by
 obtain⟨a,b⟩:=ac1 b;exact⟨a,Ks,b,c,e⟩
theorem xt(g:∀c a,B (.ref c) t ((c,.bD a [])::S)):GK e (eval (.Dict [] [] N) e.env) VR t S B:=by
 intro p b;refine wpAny_Dict_empty ?_;obtain⟨a,f⟩:=uV (ks:=[]) (Heap.DictOfH.new _) rfl .nil;have d:aq [] p S _ _:=aq.take b.led (o:={cls:=.type "dict",data:=.dict #[]}) (ao:=.bD a []) rfl;exact⟨.ref p.heap.objs.size,t,_,.ref _,b.behind d (b.led.take (o:={cls:=.type "dict",data:=.dict #[]}) (ao:=.bD a []) rfl v6 f),d.wide bs,g _ a⟩
theorem zP(A:∃u,base.get? sysModules=some u)(h:(d,GL.bD v Ka)∈S)(s:Ka.length<=sizeLine)(f:ay Ka IZ=some Jn)(y:M Jn S):
  GN q (.builtin "dict.setdefault") [.ref d,ei IZ,i] S M:=by
 intro Q p g z e t;obtain⟨E,G,H,rfl,l,m,C⟩:=t.three;cases l;refine ah (oB m) fun a k=>?_;obtain rfl:=k.1;refine aN (e.bD h) fun g c=>?_;have n:g.length=Ka.length:=by have:=congrArg List.length c.2;simpa using this
 refine Px PS (gT c.1).typeIs QP (kM _ _ _) (ug (knd:=eh) d a (e.noSys A (ct h (Nz))) _)
  ⟨og z,IZ,g,k.2,gT c.1,by rw[n];exact s,fun D r=>?_,fun o=>?_⟩
 ·rcases kf c.2 c.3 IZ with⟨_,a⟩|⟨x,B,b,a,j⟩
  ·replace a:=f▸a;exact nomatch a
  ·replace a:=f▸a;cases a;replace b:=r▸b;cases b;exact dS (Q:=M) e _ j y
 ·rcases kf c.2 c.3 IZ with⟨_,a⟩|⟨x,B,b,a,j⟩
  ·replace a:=f▸a;exact nomatch a
  ·replace b:=o▸b;exact nomatch b
theorem zO{F:GL->aa}(J:∃a,base.get? sysModules=some a)(h:bk d (.bD v Ka) S F)(E:Ka.length<=sizeLine)(z:ay Ka IZ=none)
(H:∀e,M i (F (.bD e (Ka++[(IZ,i)])))):GN q (.builtin "dict.setdefault") [.ref d,ei IZ,i] S M:=by
 have m:=h.mem;intro Q p j I c G;obtain⟨U,V,X,rfl,u,x,l⟩:=G.three;cases u;obtain⟨b,rfl,f⟩:=oB x;obtain⟨j,n,g,o⟩:=c.bD m;have A:j.length=Ka.length:=by have:=congrArg List.length g;simpa using this
 refine Px PS (gT n).typeIs QP (kM _ _ _) (ug (knd:=eh) d b (c.noSys J (ct m (Nz))) _)
  ⟨og I,IZ,j,f,gT n,by rw[A];exact E,fun N C=>?_,fun L t y D=>?_⟩
 ·rcases kf g o IZ with⟨k,_⟩|⟨O,Y,_,b,T⟩
  ·rw[C]at k;exact nomatch k
  ·rw[z]at b;exact nomatch b
 ·have same:∀b a,b≠d->p.heap.get? b=some a->t.get? b=some a:=fun b a f s=>(D.2 b f).trans s;have r:=fv c (h (.bD v (Ka++[(IZ,i)]))) (b:=d) (Nz) same;obtain⟨e,B⟩:=uV (ks:=Ka++[(IZ,i)]) y (by rw[Ng,Ng,g];rfl) (by rw[Ng,Ng];exact(ao.append o (.cons l .nil)).mono r);exact ht (Q:=M) c (h (.bD e (Ka++[(IZ,i)]))) (b:=d) (Nz) same rfl v6 B (l.mono r) (H e)
theorem Gz(f:(d,GL.bD q Ka)∈S):cJ e (.ref d) "setdefault" t S (.builtin "dict.setdefault") [.ref d]:=by
 intro p o n k I4 j g i;cases g;refine aN (j.led.bD f) fun r a=>?_;refine Rx (gT a.1).typeIs SF PS SH (fun l c=>?_) (i _ (.cons (.ref d) .nil));cases c;refine bB a.1 fun h m b=>?_;exact⟨h,b.1,b.2.2.1⟩
theorem uT{k:List ae}(s:aw e.A q)(j:(d,GL.bD v Ka)∈S)(c:ay Ka k=some i)(r:B i t S)(l:autoParam (Plain X) gL):
  aE e (subscriptTail o X) (.ref d) (ei k) VR t S B:=by
 intro p y A f m n;cases m;refine ah (oB n) fun a g=>?_;obtain rfl:=g.1;refine aN (f.led.bD j) fun z b=>?_;rcases kf b.2 b.3 k with⟨_,a⟩|⟨x,C,h,a,u⟩
 ·replace a:=c▸a;exact nomatch a
 ·replace a:=c▸a;cases a;exact lb (gT b.1).typeIs slot_dict_getitem.lookup (wpAny_getItem_heap (og s) g.2 (gT b.1) h (ef f _ u r)) (l _ _)
end
noncomputable def jt(e:Heap)(b:Addr)(d:Array DictEntry)(c:Nat):Prop:=∃a,e.get? b=some a/\a.ExactDict/\a.data=.dict d c
section
theorem ag5{e:Array DictEntry}(h:(d==sysModules)=false)(g:jt p.heap d e q)
(i:JX (.ref p.heap.objs.size) {p with heap:=p.heap.push {cls:=.type "dict_keyiterator",data:=.fields #[.ref d,.int 0 0,.int e.size 0,.int q 0]}}):wpAny (model prog w) Q (pyIter (.ref d)) JX I4 p:=by
 obtain⟨c,a,b,f⟩:=g;refine Qc ⟨c,a,b.1⟩ F.slot_dict_iter (On F.slot_dict_iter ⟨c,a,b.1⟩ F.entry_dict_iter ?_ (F.args_dict_iter_1 _));unfold Builtin.«dict.__iter__»;refine M9 ?_;unfold Builtin.Dict.dictSlotNone;refine M9 (RJ ⟨c,a,b.1⟩ ?_);show wpAny _ _ (pure (Value.ref d)) _ _ p;refine Nc ?_;show wpAny _ _ (Builtin.Dict.showsAll d>>=_) _ _ p;unfold Builtin.Dict.showsAll;rw[if_neg (by rw[h];exact Oe)];refine M9 (Nc (M9 (QZ a f (M9 (R1 a f ?_)))));refine M9 (Ou (Nc ⟨_,rfl,"dict_keyiterator",_,⟨_,Ny _ rfl,rfl⟩,Qo.lookup,?_⟩));simpa[rawInt]using i
theorem ag6{c:Array DictEntry}{g:DictEntry}(a:p.heap.IsKeyIter d H q c.size v)(k:jt p.heap H c v)(j:c[q]? =some g)
(l:∀f,f.IsKeyIter d H (q+1) c.size v->Heap.SameBut d p.heap f->J6 (some g.key) {p with heap:=f}):wpAny (model prog w) Q (pyNext (.ref d)) J6 I4 p:=by
 refine aN (id a) fun m b=>?_;refine aN k fun n e=>?_;obtain⟨i,rfl⟩:=Array.getElem?_eq_some_iff.mp j;unfold pyNext;refine M9 (PW (Pu (name:=Str.ofString "__next__") a.typeIs Qo
  (On Qo a.typeIs SS ?_ (SU _))))
 refine M9 (Nc (M9 (M9 ?_)))
 first|refine M9 (Q0 a.typeIs (Nc ?_))|refine M9 (Q1 a.typeIs (Nc ?_))
 refine M9 (RW b.1 b.3 ?_);rw[if_neg (show¬(Builtin.Dict_items.ownsTuple "dict_keyiterator"=true) by decide)];show wpAny _ _ (if(Value.ref H==Value.none)=true then _ else _) _ _ p;rw[if_neg (show¬((Value.ref H==Value.none)=true)from Oe)];refine M9 (Nc (M9 (QZ e.1 e.3 ?_)));rw[if_neg (by simp)];refine M9 (Nc (M9 (R1 e.1 e.3 ?_)));rw[if_neg (by simp)];refine Nc ?_;dsimp only;rw[if_neg (Pw.mpr (Oo q)),Q2,Ow i];refine M9 ?_
 first|refine M9 (Q0 a.typeIs (Nc ?_))|refine M9 (Q1 a.typeIs (Nc ?_))
 refine M9 (wpAny_isOneOf_keyiter a.typeIs ?_);show wpAny _ _ (setField (.ref d) 1 (rawInt ((q:Int)+1))>>=_) _ _ p;refine M9 (wpAny_setField b.1 b.3 (by simp) ?_);have h:(p.heap.update d (Obj.mapFields (·.setIfInBounds 1 (rawInt ((q:Int)+1))))).IsKeyIter d H (q+1) c.size v:=
  ⟨_,OO _ b.1 (Obj.isFreed_of_fields (Obj.data_mapFields b.3 _)),(Obj.cls_mapFields ..).trans b.2,by rw[Obj.data_mapFields b.3];simp[rawInt]⟩
 refine M9 (N1 (M9 (wpAny_isOneOf_keyiter (s:={p with heap:=p.heap.update d (Obj.mapFields (·.setIfInBounds 1 (rawInt ((q:Int)+1))))}) h.typeIs ?_)));show wpAny _ _ (pure c[q].key) _ _ _;exact Nc (Nc ⟨_,rfl,Nc (l _ h (OV ..))⟩)
theorem ag4{g:Array DictEntry}(j:Q.handled=none)(c:p.heap.IsKeyIter d H q g.size v)(k:jt p.heap H g v)(i:g.size<=q)
(l:∀h,Heap.ExtBut d p.heap h->J6 none {p with heap:=h}):wpAny (model prog w) Q (pyNext (.ref d)) J6 I4 p:=by
 refine aN (id c) fun m e=>?_;refine aN k fun n f=>?_;unfold pyNext;refine M9 (PW (Pu (name:=Str.ofString "__next__") c.typeIs Qo
  (On Qo c.typeIs SS ?_ (SU _))))
 refine M9 (Nc (M9 (M9 ?_)))
 first|refine M9 (Q0 c.typeIs (Nc ?_))|refine M9 (Q1 c.typeIs (Nc ?_))
 refine M9 (RW e.1 e.3 ?_);rw[if_neg (show¬(Builtin.Dict_items.ownsTuple "dict_keyiterator"=true) by decide)];show wpAny _ _ (if(Value.ref H==Value.none)=true then _ else _) _ _ p;rw[if_neg (show¬((Value.ref H==Value.none)=true)from Oe)];refine M9 (Nc (M9 (QZ f.1 f.3 ?_)));rw[if_neg (by simp)];refine M9 (Nc (M9 (R1 f.1 f.3 ?_)));rw[if_neg (by simp)];refine Nc ?_;dsimp only;rw[if_neg (Pw.mpr (Oo q)),Q2,PX i];refine M9 ?_
 first|refine M9 (Q0 c.typeIs (Nc ?_))|refine M9 (Q1 c.typeIs (Nc ?_))
 show wpAny _ _ (setField (.ref d) 0 .none>>=_) _ _ p;refine M9 (wpAny_setField e.1 e.3 (by simp) ?_);show wpAny _ _ (newExc (.type "StopIteration") []>>=_) _ _ _;refine M9 ?_;delta newExc newTuple;refine M9 (Ou ?_ (by size_fits));refine M9 (m:=firstArgMember _ _) (wpAny_of_eq (a:=Value.none) (by first|rfl|(simp only[firstArgMember];rfl)) ?_);refine Ou ?_ (by size_fits);unfold raiseNew;refine M9 (wpAny_handled ?_);rw[show Q.in1.handled=none from j];refine M9 (Nc (wpAny_throw ?_));refine M9 (QY (T:="StopIteration") (b:=true) ⟨_,Ny _ rfl,rfl⟩ RX ?_);exact Nc (l _ (((OV ..).extBut.push _).push _))
end
section
theorem ob(i:ip (eh) I d Ks q):∃b,jt I d b q/\b.size=Ks.length/\(∀(e:Nat)(c:List ae×Addr×Value),Ks[e]? =some c->∃f,b[e]? =some f/\VR I f.key (ei c.1)):=by
 refine wB i fun h b a=>?_;refine⟨b,⟨h,a.1,a.2,a.3⟩,size_of_entries a.4,fun e c g=>⟨entryOfKey (eh) c,?_,?_⟩⟩
 ·rw[entry_at a.4,g];rfl
 ·exact Ev (a.5 c (Qg g))
theorem EB{A:Around}(Z:A.handled=none)(KV:∃b,base.get? sysModules=some b){d:Addr}{ep:Nat}{ks:List (List ae×GG)}:dn A (.ref d) (ks.map fun c=>ei c.1).length (fun a=>((ks.map fun c=>ei c.1)).getD a .none) (fun S=>(d,GL.bD ep ks)∈S):=by
 rw[Nb];intro S h K1 l k J KU I e;cases KU;refine aN (J.bD I) fun KW L=>?_;have r:=L.2;have KT:KW.length=ks.length:=by have:=congrArg List.length r;simpa using this
 refine aN (ob L.1) fun KX M=>?_;refine ag5 (J.noSys KV (ct I (Nz))) M.1 ?_;refine e h.heap.objs.size _ h.toks (fun a p=>p.IsKeyIter h.heap.objs.size d a ks.length ep) ⟨fun a p n j t=>by refine ah j fun b O=>?_;have s:=O.1;exact⟨b,t b s,O.2⟩,fun a p j=>by refine aN j fun b z=>?_;have s:=z.1;have Y:=z.2;have KY:=z.3;exact⟨b,s,fj Y⟩,?_,?_,fun a K0 K2 h l k j e=>by refine aN j fun b Q=>?_;exact iS Q.1 Q.2 (rfl) e,fun a h l k st e=>wpAny_pyIter_keyiter st e⟩
  ⟨_,Ny _ rfl,rfl,by rw[M.2,KT];rfl⟩ (NW (Ni _)) fun m b f=>Nr _ f
 ·intro a S x l k C v u t st e;refine aN (v.bD u) fun i B=>?_;have g:i.length=ks.length:=by have:=congrArg List.length B.2;simpa using this
  refine aN (ob B.1) fun X o=>?_;obtain⟨c,H⟩:∃c,i[a]? =some c:=⟨i[a]'(mf C (Nd g.symm)),by simp[g,C]⟩
  refine ah (o.3 a c H) fun f T=>?_;have E:(ks.map (fun x=>x.1))[a]? =some c.1:=by rw[<-B.2,Ot,H];rfl
  have KS:((ks.map fun c=>ei c.1)).getD a .none=ei c.1:=by
   rw[Ot,Po]at E;refine ah E fun KZ U=>?_;simp[U.1,U.2]
  refine ag6 (by rw[o.2,g];exact st) o.1 T.1 fun n D G=>?_;rw[o.2,g]at D;refine aN st fun b V=>?_;exact e f.key n x.toks (by rw[KS];exact T.2.mono (jg G V.1 (fj V.2))) D fun m b q f=>(G.2 m q).trans f
 ·intro S x l k v u t st e;refine aN (v.bD u) fun i N=>?_;have g:i.length=ks.length:=by have:=congrArg List.length N.2;simpa using this
  refine aN (ob N.1) fun X y=>?_;exact ag4 Z (by rw[y.2,g];exact st) y.1 (mf (Nd y.2) (Nd g)) fun n r=>e n x.toks fun m b q f=>r m b q f
end
section
open Builtin Builtin.ObjectAttr
noncomputable abbrev gj:List Value:=[.ref 46,.type "Exception",.type "BaseException",.type "object"]
noncomputable abbrev du(a:Option Addr)(b:Addr):Obj:={cls:=.ref 59,dict:=a,data:=.fields #[.ref b,.none,.none,.none,.bool false,.none],slots:= #[]}
section
variable{s:Shared}
theorem ahc(a:Value):refuseLoop a "__setattr__" [.ref 59,.ref 46,.type "Exception",.type "BaseException",.type "object"]=pure ():=by
 rw[refuseLoop_ref,refuseLoop_ref];exact PySem.F.store_Exception.passes a
theorem sD{dd:Option Addr}{od:Option Obj}(e:(KF Kc).In s.heap)(o:findIn (KF Kc) (.ref 59) h=some none)
(c:InstAt s.heap d (du dd H) 59 od)
(n:∀l,wpAny (model prog w) Q.in1 (storeInOwnDict (.ref d) (.ref 59) (.str h s.toks) h G l) (fun g k=>match g with|.done (.ret _)=>JM () k|.done _=>False|.again r=>False) I4 {s with toks:=s.toks+1}):
  wpAny (model prog w) Q (setAttr (.ref d) h G) JM I4 s:=by
 have a:=PySem.F.store_object;refine set_plain e c rfl ?_;obtain⟨f,j,i⟩:∃f,clsIn (KF Kc) 59=some f/\f.mro=[.ref 59,.ref 46,.type "Exception",.type "BaseException",.type "object"]:=⟨_,rfl,rfl⟩
 have sub:Looks (model prog w) s.heap (isInstance (.ref d) (.type "object")) true:=c.type.andThen (looks_mroIn e (by unfold mroIn;rw[j,Option.bind_some,if_neg (by rw[i];decide),i];exists 4));refine RV a.slot.plain a.entry (@check_slot (model prog w) _ _ {s with toks:=s.toks+1} "object.__setattr__" "object" "__setattr__" (.ref d) [.str h s.toks,G] [] _ a.kind a.split sub (a.args (.ref d) (.str h s.toks) G) ?_);have p:Looks (model prog w) s.heap (mroOf (.ref 59)) f.mro:=(looks_clsIn e j).andThen .now;rw[osa_eq,refuse_eq];refine M9 (M9 (c.type.here (s:={s with toks:=s.toks+1}) (M9 (p.here (s:={s with toks:=s.toks+1}) ?_))));rw[i,ahc];refine Nc (M9 (c.type.here (s:={s with toks:=s.toks+1}) (M9 ((looks_findIn e o).here (s:={s with toks:=s.toks+1}) (M9 (Looks.now.here (s:={s with toks:=s.toks+1}) ?_))))));refine NB (n _) (fun g k b=>?_) fun y y b=>b;cases g with
 |done m=>cases m<;>first|exact b|exact b.elim
 |again q=>exact b.elim
theorem Bi(l:(KF Kc).In s.heap)(a:s.heap.get? d=some (du none H))(t:findIn (KF Kc) (.ref 59) h=some none)
(p:∀c v f,c.get? d=some (du (some f) H)->f≠d->s.heap.get? f=none->c.Ns1 f (fun j=>if j=h then some G else none)->(∀b i,b≠d->s.heap.get? b=some i->c.get? b=some i)->JM () {s with heap:=c,toks:=v}):
  wpAny (model prog w) Q (setAttr (.ref d) h G) JM I4 s:=by
 refine sD (dd:=none) (od:=none) l t ⟨a,rfl,rfl,trivial⟩ fun b=>?_;refine M9 (Nc (M9 (M9 (QR (s:={s with toks:=s.toks+1}) a (M9 ((looks_clsIn (K:=KF Kc) (C:=59) l rfl).here (s:={s with toks:=s.toks+1}) ?_))))));dsimp only;rw[if_neg (by decide),if_neg (by simp[typeHasDict])];refine M9 (wpAny_alloc' ?_);refine M9 (wpAny_update' (Nr _ a) ?_);refine Nc ?_;dsimp only;unfold storeInDict newKeyGuard;refine M9 (Nc (M9 (wpAny_nsSet1 (Heap.Ns1.of_empty ⟨_,#[],_,((QS _ _ _ _ (NH (NE a)).symm).trans (Heap.get?_push_at rfl rfl)),rfl,fun g r=>absurd r (by simp),fun z=>rfl⟩) fun c m Kc=>?_)));refine ij (m.count (Within.cons h G Within.nil)) fun Hq y x k=>?_;refine M9 (RM k.1 (by rw[k.2];exact RN (mf k.3 (by rw[N4,Qp,Nl];exact NQ rfl))) ?_);refine Nc ?_;refine p c _ s.heap.objs.size ((Kc.2 d (NH (NE a))).trans (OO _ (Nr _ a) rfl)) (NH (NE a)).symm (NW (Ni _)) ?_ fun b i q g=>?_
 ·refine ani m fun u o n e=>?_;exact⟨u,o,n,e.1,e.2,e.3,e.4,fun j=>by rw[e.5 j]⟩
 ·exact(Kc.2 b (NH (NE g))).trans ((QS _ _ _ _ q).trans (Nr _ g))
theorem Bm{m:Str->Option Value}(j:(KF Kc).In s.heap)(f:s.heap.get? d=some (du (some IX) H))(p:IX≠d)(k:s.heap.Ns1 IX m)(q:findIn (KF Kc) (.ref 59) h=some none)(u:Within m l)(v:l.length<=10)
(n:∀b x,b.get? d=some (du (some IX) H)->(∀a c,a≠IX->s.heap.get? a=some c->b.get? a=some c)->JM () {s with heap:=b,toks:=x}):
  wpAny (model prog w) Q (setAttr (.ref d) h G) JM I4 s:=by
 obtain⟨g,t⟩:∃g,s.heap.get? IX=some g:=let⟨c,_,_,e,_⟩:=k;⟨c,e⟩;refine sD (dd:=some IX) (od:=some g) j q ⟨f,rfl,rfl,t⟩ fun a=>?_;refine M9 (Nc (M9 (M9 (QR (s:={s with toks:=s.toks+1}) f (M9 ((looks_clsIn (K:=KF Kc) (C:=59) j rfl).here (s:={s with toks:=s.toks+1}) ?_))))));dsimp only;rw[if_neg (by decide)];refine Nc ?_;unfold storeInDict newKeyGuard;refine M9 (Nc (M9 (wpAny_nsSet1 k fun b r Kc=>?_)));refine ij (r.count (Within.cons h G u)) fun Hq z y i=>?_;refine M9 (RM i.1 (by rw[i.2];exact RN (mf i.3 (by rw[N4,Nl];exact aj (Np v 1) rfl))) ?_);refine Nc ?_;exact n b _ ((Kc.2 d p.symm).trans f) fun a c o e=>(Kc.2 a o).trans e
theorem GA{h:Sem Bool}{a:Value×List Value->Shared->Prop}(b:(KF Kc).In s.heap)(f:a (.builtin "Exception.__init__",[]) {s with toks:=s.toks+1}):
  wpAny (model prog w) Q (getMethod (.type "Exception") (Str.ofString "__init__") h) a I4 s:=by
 have g:opaqueClassAbove (.type "Exception")=pure none:=by unfold opaqueClassAbove;dsimp only;rw[show Manifest.isStub "Exception"=false by exists 4];rfl
 have d:Looks (model prog w) s.heap (typeOf (.type "Exception")) (.type "type"):=Looks.of_pure (by first|rfl|kernel_rfl:typeOf (.type "Exception")=pure (.type "type"));have e:findIn (KF Kc) (.type "type") "__getattribute__"=some (some (.builtin "type.__getattribute__")):=type_tga;unfold getMethod specialOf;refine M9 (M9 (d.here ((looks_findIn b e).here ?_)));dsimp only;rw[if_pos canon_tga];refine M9 (NB (Q:=fun i=>a (i,[])) (E:=I4) ?_ (fun x x c=>Nc c) fun x x c=>c);refine cls_open (K:=KF Kc) (r:=.val (.builtin "Exception.__init__")) b (Looks.of_pure g) d e (looks_hook b (r:=none) (by rfl)) (by show subIn (KF Kc) _ _=_;rfl) (by rfl) ?_;refine Nc ?_;show wpAny _ _ (handedOut (.builtin "Exception.__init__")) _ _ _;rw[handedOut_of (by rfl)];exact Nc f
noncomputable abbrev hw:Obj:=excClassObj (Str.ofString "DraftFault") (Str.ofString "DraftFault") 59 58 [.ref 46] gj true [] [] false none none (some (.ref 50)) none (some (.str (Str.ofString "DraftFault") 236)) (some (.str (Str.ofString "DraftFault") 244)) (some (.bool true)) "Exception.__new__"
theorem yP{e:Option Addr}(h:(KF Kc).In s.heap)(g:s.heap.get? d=some (du e H))
(j:∀b l,b.get? d=some (du e l)->(∀a c,a≠d->s.heap.get? a=some c->b.get? a=some c)->JX .none {s with heap:=b}):
  wpAny (model prog w) Q (call (.builtin "Exception.__init__") [.ref d,G]) JX I4 s:=by
 obtain⟨f,n,m,o,os⟩:=s;have Hr:f.get? 59=some hw:=h 59 _ rfl;refine Pb (RV OB.init.plain OB.initEntry ?_);unfold checkBuiltinCall;rw[OB.initKind,OB.initSplit,OB.initRow]
 repeat (first|(with_reducible refine O5 g ?_)|with_reducible refine O5 Hr ?_|(with_reducible refine Qq Hr ?_;rw[(by exists 4:(Value.ref 59::gj).contains (.type "Exception")=true)])|wp_step)
 refine j _ f.objs.size (OO _ (Nr _ g) rfl) fun a c k i=>?_;exact(QS _ _ _ _ k).trans (Nr _ i)
end
section
theorem Bh(c:(KF Kc).In p.heap):∀a b,(KF Kc).lookup 36=some b->b.data=.func a->BindsTo p a ⟨[G,Jy],[]⟩ [("self",G),("what",Jy),("at",.int (-1) 209)]:=by
 intro a b e d;cases e;cases d;exact kp_binds c fun S=>rfl
theorem Bj(P:Pg)(Hi:G2 "Exception"=none){s:Shared}{L:Tok}{R:Result->Shared->Prop}(K5:Q.depth<recursionLimit)(o:aV base s.heap)(O:base.get? d=none)(D:s.heap.get? d=some (du none H))
(n:∀B Lj A Li,B.get? d=some (du (some A) Li)->(∀c a,c≠d->s.heap.get? c=some a->B.get? c=some a)->R (.ok (.ret .none)) {s with heap:=B,toks:=Lj}):
  codeAny (model prog w) Q (.call (.ref 36) ⟨[.ref d,.str h L],[]⟩) R s:=by
 obtain⟨Ln,m⟩:=P.bc;refine pT (fd:=_) K5 ((m.keeps o) 36 _ rfl) rfl (P.T.lim.keeps o) ((P.code (35,"PaperError.__init__") (by simp)).keeps o) rfl (Bh (m.keeps o) _ _ rfl rfl) rfl (fun x V=>by
  simp only[Nk,N0,or_false]at V
  rcases V with rfl|rfl|rfl<;>exact .inl (by rfl)) (fun Lp y=>?_) (by exists 4) (by exists 4) (by exists 4)
 have K3:(callEnvC {name:=Str.ofString "__init__",qualname:=Str.ofString "PaperError.__init__",params:=bj 2 0,body:=FuncBody.stmts (bq 2 0),scope:=a1 2 0,globals:=3,closure:=[],defaults:=Value.ref 29,kwdefaults:=Value.none,pyModule:=GV "paperhold.errors" 194,code:=Value.ref 35} s.heap.objs.size 36).kindOf=fun x=>(a1 2 0).names.lookup x:=rfl;have i:=y.toInCall.ns;refine dN y.done fun X Lq p=>?_;obtain rfl:=p.1;clear y;rw[K3]at i;have E:(a1 2 0).names.lookup ("self":Str)=some .local:=by exists 4
 have KS:(a1 2 0).names.lookup ("what":Str)=some .local:=by exists 4
 have U:(a1 2 0).kind=.function:=by exists 4
 generalize k:({name:=Str.ofString "__init__",qualname:=Str.ofString "PaperError.__init__",params:=bj 2 0,body:=FuncBody.stmts (bq 2 0),scope:=a1 2 0,globals:=3,closure:=[],defaults:=Value.ref 29,kwdefaults:=Value.none,pyModule:=GV "paperhold.errors" 194,code:=Value.ref 35}:FuncData)=j at*;have q:(callEnvC j s.heap.objs.size 36).scope=a1 2 0:=by rw[<-k];rfl
 have KX:(callEnvC j s.heap.objs.size 36).globals=mainGlobals:=by rw[<-k];rfl
 have KY:(callEnvC j s.heap.objs.size 36).builtins=builtinsNs:=by rw[<-k];rfl
 have T:(callEnvC j s.heap.objs.size 36).locals=s.heap.objs.size:=by rw[<-k];rfl
 have KZ:interactive (callEnvC j s.heap.objs.size 36)=false:=by rw[<-k];with_unfolding_all rfl
 rw[T]at i;generalize (callEnvC j s.heap.objs.size 36)=r at*;generalize t:(bindL (fun x=>(a1 2 0).names.lookup x) [(Str.ofString "self",Value.ref d),(Str.ofString "what",Value.str h L),(Str.ofString "at",Value.int (-1) 209)] fun d=>none)=e at*;have I:e "self"=some (.ref d):=by rw[<-t];with_unfolding_all rfl
 have KU:e "what"=some (.str h L):=by rw[<-t];with_unfolding_all rfl
 have Ld:e "at"=some (.int (-1) 209):=by rw[<-t];with_unfolding_all rfl
 clear t k;have l:aV base X:=fun c a b=>p.2 _ _ (o _ _ b);have Lm:∃Lg,X.get? s.heap.objs.size=some Lg:=let⟨a,_,_,b,_⟩:=i;⟨a,b⟩;have ld:∀{v:Str}{KV:Value}{Lh:Pos}{N:Value->Shared->Prop}{KW:Value->Shared->Prop}{J:Shared},J.heap.Ns s.heap.objs.size e->(a1 2 0).names.lookup v=some .local->e v=some KV->(v==("__debug__":Str))=false->N KV J->wpAny (model prog w) (Q.deeper r) (eval (.Name v Lh) r) N KW J:=fun Hc K4 K6 K0 g=>
  O7 (PF (by rw[q];exact U) (by show r.scope.names.lookup _=_;rw[q];exact K4) (by rw[T];exact Hc) K6 g) K0
 refine OX (wpAny_Expr_any (methodCall_KW (pl:= ?Lo) (PG (by rw[q];exact U) (by show r.scope.names.lookup _=_;rw[q];exact(by exists 4:(a1 2 0).names.lookup ("Exception":Str)=some .globalImplicit))
  (loadGlobal_builtin (by rw[KX];exact P.T.g.keeps l) Hi (by rw[KY];exact P.T.b.keeps l) ((P.T.blt "Exception" (by decide)).trans rfl) (GA (m.keeps l) ?_))) ?_) ?_ ?_)
 case refine_2=>with_unfolding_all rfl
 case refine_3=>exact KZ
 case refine_4=>with_unfolding_all rfl
 refine callWith_of (P:=fun n=>aV base n) rfl (kq (f:=.builtin "Exception.__init__") (fun _ n=>(nomatch n))) (Qd (spliced_cons (ld i E I (by decide) (spliced_cons (ld i KS KU (by decide) (spliced_nil ⟨l,yP (m.keeps l) (p.2 _ _ D) fun Y Ll K7 u=>?_⟩))))));have KT:aV base Y:=fun c a b=>u c a (fun g=>by rw[g,O]at b;cases b) (l c a b);have z:Y.Ns s.heap.objs.size e:=i.at' fun a b=>u _ a (PY (NE D)) b;refine OX (R2 (ld z KS KU (by decide) (ld z E I (by decide) (Bi (m.keeps KT) K7 (by rfl) fun Z Lr A K8 K1 K2 Lf G=>?_))) rfl);have Lb:aV base Z:=fun c a b=>G c a (fun g=>by rw[g,O]at b;cases b) (KT c a b);have M:Z.Ns s.heap.objs.size e:=z.at' fun a b=>G _ a (PY (NE D)) b;refine OX (R2 (ld M (by exists 4:(a1 2 0).names.lookup ("at":Str)=some .local) Ld (by decide) (ld M E I (by decide) (Bm (m.keeps Lb) K8 K1 Lf (by rfl) (Within.cons _ _ Within.nil) (by decide) fun La Lk K9 Lc=>?_))) rfl);refine PH ?_;refine n La Lk A Ll K9 fun c a C b=>Lc c a (fun g=>?_) (G c a C (u c a C (p.2 c a b)));have:=u c a C (p.2 c a b);rw[g,K2]at this;cases this
end
end
section
theorem Bk{a:Model}(b:(KF Kc).In p.heap)(c:J6 (some (.ref 36)) p):wpAny a Q (typeLookup (.ref 59) "__init__") J6 I4 p:=
 (looks_findIn (K:=KF Kc) (t:=.ref 59) (name:="__init__") (r:=some (.ref 36)) b rfl).here c
theorem yo[BEq D][LawfulBEq D]{a:D}:¬((a !=a)=true):=by rw[bne_self_eq_false];exact Oe
theorem yV{c:Model}{b:Array GenState}{a:Drawn}{os:OsState}(Hr:I.get? 59=some hw)(d:JM () ⟨I,b,a,q,os⟩):
  wpAny c Q (checkBuiltinCall "Exception.__new__" ⟨.ref 59::Ja,[]⟩) JM I4 ⟨I,b,a,q,os⟩:=by
 unfold checkBuiltinCall;rw[OB.newKind,OB.newSplit,OB.newRow]
 repeat (first|refine O5 Hr ?_|(refine Qq Hr ?_;rw[(by exists 4:(Value.ref 59::gj).contains (.type "Exception")=true)])|refine wpAny_staticBase_exc Hr ?_|refine wpAny_madeBy_exc Hr ?_|rw[if_neg yo]|wp_step)
 exact d
theorem y8{R:Result->Shared->Prop}{b:Array GenState}{a:Drawn}{os:OsState}(Hr:I.get? 59=some hw)
(c:R (.ok (.ret (.ref (I.objs.size+1)))) ⟨(I.push {cls:=.type "tuple",data:=.seq [G].toArray}).push (du none I.objs.size),b,a,q,os⟩):
  codeAny (model prog w) Q (.builtin "Exception.__new__" ⟨.ref 59::[G],[]⟩) R ⟨I,b,a,q,os⟩:=by
 have e:=OB.ends;refine codeAny_builtinAt OB.entry ?_;refine PySem.wpAt_bind ?_;refine PySem.wpAt_bind (PySem.wpAt_stack fun f d=>SV ?_)
 wp_walk
 refine SV ?_;rw[OB.owner]
 repeat (first|with_reducible refine wpAny_madeHere_exc OB.canon Hr ?_|with_reducible refine O5 Hr ?_|(with_reducible refine Qq Hr ?_;first|rw[(by exists 4:(Value.ref 59::gj).contains (.type "Exception")=true)]|rw[(by exists 4:(Value.ref 59::gj).contains (.type "AttributeError")=false)]|rw[(by exists 4:(Value.ref 59::gj).contains (.type "NameError")=false)])|wp_step)
 rw[Od];exact c
theorem Bl(P:Pg)(Hi:G2 "Exception"=none){s:Shared}{j:Tok}(B:Q.depth+1<recursionLimit)(n:aV base s.heap)
(z:∀i r b g H,i.get? b=some (du (some g) H)->s.heap.get? b=none->(aV s.heap i)->I4 (.ref b) {s with heap:=i,toks:=r}):
  wpAny (model prog w) Q (call (.ref 59) [.str h j]) I4 JX s:=by
 obtain⟨D,p⟩:=P.bc;have F:=OB;obtain⟨a,l,g,t,os⟩:=s;have v:(KF D).In a:=p.keeps n;have Hr:a.get? 59=some hw:=v 59 _ rfl;have J:=tc_lookup;have L:=tc_bind (.ref 59);have GX:(⟨a,l,g,t,os⟩:Shared).TypeIs (.ref 59) "type":=⟨_,Hr,rfl⟩
 refine Pb (RU ?_);show wpAny _ _ (callAny (.ref 59) _) _ _ _
 repeat (any_goals (first|assumption|with_reducible refine O5 Hr ?_|wp_step))
 refine⟨rfl,?_⟩;refine codeAny_call_builtin_at (Code.quiet_builtin _ (by exists 4)) entry_typeCall (wpAny_check_type_call_sub Hr ?_)
 repeat (first|with_reducible refine O5 Hr ?_|with_reducible refine wpAny_madeBy_exc Hr ?_|wp_step)
 refine codeAny_call_builtin_code (Code.quiet_builtin _ F.quiet) (yV Hr ?_);refine y8 Hr ?_;show wpAny _ _ _ _ _ _;generalize m:(a.push {cls:=.type "tuple",data:=.seq [Value.str h j].toArray}).push (du none a.objs.size)=e;have ext:aV a e:=fun d c b=>by rw[<-m];exact Nr _ (Nr _ b)
 have u:e.get? (a.objs.size+1)=some (du none a.objs.size):=by rw[<-m];exact Heap.get?_push_at (by simp only[Od]) rfl
 have k:a.get? (a.objs.size+1)=none:=NW (Ob _);have x:base.get? (a.objs.size+1)=none:=by
  cases q:base.get? (a.objs.size+1)with
  |none=>rfl
  |some c=>have:=n _ _ q;replace this:=k▸this;cases this
 have o:aV base e:=fun d c b=>ext d c (n d c b);clear m;have A:e.get? 59=some hw:=ext _ _ Hr;unfold isInstance
 repeat (first|with_reducible refine O5 u ?_|(with_reducible refine Qq A ?_;rw[(by exists 4:(Value.ref 59::gj).contains (.ref 59)=true)])|wp_step)
 show wpAny _ _ (typeLookup (.ref 59) _) _ _ _;refine Bk (p.keeps o) ?_;have C:(Q.under (Code.builtin "type.__call__" {pos:=[Value.ref 59]++{pos:=[Value.str h j]:Args}.pos})).depth<recursionLimit:=by
  show Q.depth+_<_;rw[(by kernel_rfl:(Code.builtin "type.__call__" {pos:=[Value.ref 59]++{pos:=[Value.str h j]:Args}.pos}).weight=1)];exact B
 refine N1 (M9 ((bind_fn (p.keeps o) (f:=36) (.ref (a.objs.size+1)) rfl).here (s:=⟨e,l,g,t,os⟩) ?_));refine M9 (Pb (Bj (s:=⟨e,l,g,t,os⟩) P Hi C o x u fun i r y I E G=>?_));show wpAny _ _ _ _ _ _;refine Nc ?_;show wpAny _ _ (if(Value.none !=Value.none)=true then _ else _) _ _ _;rw[if_neg (by decide)];refine Nc ?_;exact z i r _ y I E k fun d c b=>G d c (fun q=>by replace b:=k▸q▸b;cases b) (ext d c b)
end
section
variable{S:aa}
theorem ag1{c:Model}(i:Q.handled=none)
(g:wpAny c Q Kl (fun f a=>∃b e d,f=.ref b/\a.heap.get? 59=some hw/\a.heap.get? b=some (du d e)/\I4 (.ref b) a) I4 p):
  wpAny c Q (raiseStmt Jq (some Kl) none) KN I4 p:=by
 refine M9 (NB g (fun f a j=>?_) fun y y Kl=>Kl);obtain⟨b,e,k,rfl,Hr,h,Hi⟩:=j;obtain⟨m,l,d,n,os⟩:=a
 repeat (first|with_reducible refine O5 h ?_|with_reducible refine O5 Hr ?_|(with_reducible refine Qq Hr ?_;rw[(by exists 4:(Value.ref 59::gj).contains (.type "BaseException")=true)])|wp_step)
 exact wpAny_raiseNew_none i Hi
theorem ag0(P:Pg)(Hi:G2 "Exception"=none){i m:Pos}(d:SR e t S p)(l:ck e)(n:aw e.A (q+1))(s:e.env.kindOf "DraftFault"=some .globalImplicit)
(u:∀b g a c f,b.get? a=some (du (some c) f)->p.heap.get? a=none->(aV p.heap b)->I4 (.ref a) {p with heap:=b,toks:=g}):
  wpAny (model prog w) e.A (exec (.Raise (some (.Call (.Name "DraftFault" N) [.Constant (.str h) v I9] [] i)) none m) e.env) KN I4 p:=by
 obtain⟨y,k⟩:=P.bc;rw[arm_exec_Raise];refine M9 (OT ?_);show wpAny _ _ (raiseStmt e.env (some (do let x<-eval (.Call (.Name "DraftFault" N) [.Constant (.str h) v I9] [] i) e.env;standAt m;pure x)) none) _ _ _;refine ag1 n.GR (M9 ?_);refine QE (PG l.kind s (QB (l.glob▸P.T.g.keeps d.led.keep) (P.cls 1 _ rfl) ?_) (by decide));refine callWith_of (P:=fun o=>aV base o) rfl (ET k rfl) (Qd (spliced_cons (Constant_str (k:=v) (pos:=I9) (spliced_nil ⟨d.led.keep,?_⟩))));refine Bl P Hi (by have:=n.depth;omega) d.led.keep fun b g a c f j r ext=>?_;refine M9 (OT (Nc ⟨a,f,some c,rfl,?_,j,u b g a c f j r ext⟩));exact ext _ _ (d.led.keep _ _ (k 59 _ rfl))
end
noncomputable def ju(S:aa)(p:List Env)(g:Shared)(o:Value)(q:Shared):Prop:=
 ∃(f e r:Addr)(b c:Heap)(m:Nat)(k:Drawn)(h:List Addr),o=.ref f/\q={g with heap:=c,toks:=m,drawn:=k}/\LR S b/\aq [] g S {g with heap:=b,toks:=m,drawn:=k} S/\
  (∀a∈h,g.heap.get? a=none/\a∉aK S/\base.get? a=none/\∀d,b.get? a=some d->¬c7 d)/\f∈h/\b.get? e=none/\
  (∀a d,b.get? a=some d->a∉h->a∉p.filterMap (·.frame)->c.get? a=some d)/\b.UpToSlots c/\
  ∃i j l n,c.get? f=some i/\(i.cls=.ref 59/\j[0]? =some (.ref r))/\i.data=.fields j/\j[1]? =some (.ref e)/\e≠f/\c.get? e=some l/\l.data=.fields n/\n[3]? =some .none
noncomputable def js(S:aa)(e:Shared)(d:List Env):Prop:=
 ∀b∈d,b.scope.kind≠ .module/\∃a c,b.frame=some a/\base.get? a=none/\a∉aK S/\e.heap.get? a=some c/\∀f,c.data≠ .fields f
theorem mV{d base:Heap}:∀{c:List Env},(∀env∈c,env.scope.kind≠ .module/\∃a e,env.frame=some a/\base.get? a=none/\d.get? a=some e/\∀h,e.data≠ .fields h)->d.FunFrames base c
 |[],_=>trivial
 |env::c,b=>⟨(b env (.head _)).1,(b env (.head _)).2,mV fun f g=>b f (.tail _ g)⟩
section
variable{S:aa}
theorem z6{n:Nat}{v:List Env}(Ln:St)
(O:a7 d h I5 Kh I2 KR)(LG:aY Kh KR l Jb Jz J7=true)(LB:l.length=z.length)
(K8:aw Q (n+1))(Ls:Q.frames=some v)(s:LR S p.heap)(LC:ao p.heap Ja z)(LH:js S p v)
(E:∀(b:GU)(L:Shared),G9 b (l++Jb) (l++Jb) Jz J7->aw b.A n->SR b (an (l++Jb) (z.map some++Jb.map fun _=>none)) S L->wpAny (model prog w) b.A (execs I2 b.env) (fun _ _=>False) (fun T KV=>∃i LP f O KW Ll D x,SR b Ll D x/\aq (bU b) L S x D/\Le S D/\
 i.get? f=some (du (some O) KW)/\x.heap.get? f=none/\(aV x.heap i)/\T=.ref f/\KV={x with heap:=i,toks:=LP}) L)
(Ly:autoParam (KR.isCoroutine=false) aP)(Lz:autoParam (KR.isGenerator=false) aP)(LA:autoParam (KR.kind=.function) aP):
  codeAny (model prog w) Q (.call (.ref d) ⟨Ja,[]⟩) (fun KU KV=>match KU with|.error T=>ju S v p T KV|.ok _=>False) p:=by
 refine l8 Ln O LG LB K8 s LC (fun b L I Lb K8 KU=>?_) Ly Lz LA;refine NB (E b L Lb K8 KU) (fun _ _ M=>M.elim) ?_;rintro T KV ⟨i,K9,f,O,KW,Ll,D,x,A,LQ,KT,V,U,X,rfl,rfl⟩;have st:aq [] p S x D:=(I.2.2.1.trans LQ KU.alive).wide fun c G=>.inr (I.2.2.2 c (h5 G));have Lu:=I.1▸SW Ls;refine ah A.ns fun LU LS=>?_;have La:=I.2.1;have K3:=LS.1.at' fun g f=>X _ g f;refine df st fun KX=>?_;obtain⟨K0,LX,KZ,Lp⟩:=KX.1;subst Lp;have Lf:∀q∈v,q.scope.kind≠ .module/\∃s g,q.frame=some s/\base.get? s=none/\s∉aK S/\p.heap.get? s=some g/\i.get? s=some g/\∀y,g.data≠ .fields y:=fun q V=>by
  obtain⟨Y,N,e,r,K5,Z,KS,H⟩:=LH q V;exact⟨Y,N,e,r,K5,Z,KS,X _ _ (KX.2 _ _ KS (fun E=>(nomatch E)) Z),H⟩
 have Lo:base.get? f=none:=by
  cases a:base.get? f with
  |none=>rfl
  |some e=>have:=A.led.keep _ _ a;replace this:=U▸this;cases this
 have LI:p.heap.get? f=none:=by
  cases a:p.heap.get? f with
  |none=>rfl
  |some e=>
   by_cases m:f∈aK S
   ·obtain⟨M,u,_⟩:=A.led.c3 (KT.own m);replace u:=U▸u;cases u
   ·have:=KX.2 _ _ a (fun E=>(nomatch E)) m;replace this:=U▸this;cases this
 generalize K2:b.env.locals::f::v.filterMap (·.frame)=o;have K4:b.env.locals∈o/\f∈o/\∀c∈v.filterMap (·.frame),c∈o:=by rw[<-K2];exact⟨.head _,.tail _ (.head _),fun c G=>.tail _ (.tail _ G)⟩
 have Lm:i.FunFrames (hideAll i o) (b.env::v):=mV fun q m=>by
  rcases Nk.mp m with rfl|m
  ·refine⟨by rw[Lb.ok.kind];decide,b.env.locals,?_⟩;obtain⟨e,Lr,Lq,k,J,_⟩:=K3;exact⟨e,La,hideAll_none _ K4.1,k,fun y a=>by replace a:=J▸a;cases a⟩
  ·obtain⟨Y,N,e,r,K5,Z,KS,H,K6⟩:=Lf q m;exact⟨Y,N,e,r,hideAll_none _ (K4.2.2 _ (R3.mpr ⟨q,m,r⟩)),H,K6⟩
 refine wpAny_leaving_firstW (s:={p with heap:=i,toks:=K9,drawn:=KZ}) (base:=hideAll i o) (a0:=.ref KW) Lu Lm La V (fun c g a=>of_hideAll _ a) (hideAll_none _ K4.2.1) rfl rfl rfl fun Lv HA=>?_;refine oR HA fun KY=>?_;obtain⟨LF,y,B,LD,Lj,LJ,LL,LM,LN,LO,Lg,Lh,Li,LK⟩:=KY.3;refine⟨f,B,KW,i,Lv,K9,KZ,[b.env.locals,f],rfl,rfl,?_,⟨⟨i,K9,KZ,rfl⟩,fun c g k J K7=>X _ _ (KX.2 c g k J K7),fun c G=>.inl G⟩,?_,.tail _ (.head _),?_,?_,KY.4,LF,y,LD,Lj,LJ,LL,LM,LN,Lg,Lh,Li,LK⟩
 ·exact(A.led.le KT).fm (P:=[]) (fun c g a _=>X c g a) bs bs
 ·refine NT.mpr ⟨?_,NP.mpr ?_⟩
  ·refine⟨(I.2.2.2 _ (.head _)),fun j=>(A.new b.env.locals (.head _)).2 (KT.own j),(A.new b.env.locals (.head _)).1,fun e a C=>?_⟩;exact hW K3 e a C
  ·refine⟨LI,fun j=>?_,Lo,fun e a C=>?_⟩
   ·obtain⟨M,u,_⟩:=A.led.c3 (KT.own j);replace u:=U▸u;cases u
   ·replace a:=V▸a;cases a;rcases C with⟨C,_⟩|⟨C,_⟩<;>cases C
 ·cases a:i.get? B with
  |none=>rfl
  |some e=>
   exfalso;have t:B∈o:=by
    by_cases m:B∈o
    ·exact m
    ·have:=hideAll_get o a m;replace this:=LO▸this;cases this
   replace t:=K2.symm▸t;have Ld:∀c g,i.get? c=some g->(∀y,g.data≠ .fields y)->B≠c:=fun c g Lw K0 Lx=>by
    obtain⟨LW,K1⟩:=KY.4 c g Lw K0;replace K1:=Lh▸Lx.symm▸K1;have:=congrArg (fun M:Option Obj=>M.map (·.data)) K1;simp only[QA,QQ]at this;exact K0 Lj (this▸Li)
   rcases Nk.mp t with k|t
   ·obtain⟨e,Lr,Lq,K7,J,_⟩:=K3;exact Ld b.env.locals e K7 (fun y a=>by replace a:=J▸a;cases a) k
   ·rcases Nk.mp t with k|t
    ·exact Lg k
    ·refine ah (R3.mp t) fun q Lk=>?_;obtain⟨Y,N,e,r,K5,Z,KS,H,K6⟩:=Lf q Lk.1;replace r:=Lk.2▸r;cases r;exact Ld B e H K6 rfl
 ·intro c e a Lc Hb;refine KY.1 c e (hideAll_get o a fun j=>?_);replace j:=K2.symm▸j;rcases Nk.mp j with k|j
  ·exact Lc (k▸ .head _)
  ·rcases Nk.mp j with k|j
   ·exact Lc (k▸ .tail _ (.head _))
   ·exact Hb j
end
noncomputable abbrev dO(a:GU):Prop:=(a.A.frames=some [a.env])/\(a.env.frame=some a.env.locals)/\(a.env.scope.kind=.function)
theorem dO.frames(a:dO e):e.A.frames=some [e.env]:=a.1
theorem dO.frame(a:dO e):e.env.frame=some e.env.locals:=a.2.1
theorem dO.kind(a:dO e):e.env.scope.kind=.function:=a.2.2
section
variable{S:aa}
theorem SR.slots{X:List Addr}{h':Heap}{tk:Nat}(f:SR e t S p)(l:∀b∈X,b∉d4 e/\b∉aK S/\base.get? b=none/\∀a,p.heap.get? b=some a->¬c7 a)(q:∀b a,p.heap.get? b=some a->b∉X->b≠e.env.locals->h'.get? b=some a)
(H:p.heap.UpToSlots h'):SR e t S {p with heap:=h',toks:=tk}:=by
 refine ah f.ns fun G z=>?_;have o:=z.1;have E:=z.2;have y:cm p.heap h':=fun k a d v=>q k a d (fun c=>(l k c).2.2.2 a d v) (fun c=>hW o a (c▸d) v);have u:=fun g i a d=>q g a d (fun c=>(l g c).1 (.tail _ i)) (fun c=>f.off (c▸i));refine⟨f.led.fm (P:=e.env.locals::X) (fun b a d x=>q b a d (fun c=>x (.tail _ c)) (fun c=>x (c▸ .head _))) (fun b h=>?_) (fun b h a d=>?_),⟨G,H.ns o,fun s r m n=>let⟨j,k,b⟩:=E s r m n;⟨j,k,b.mono y⟩⟩,fun s g i=>?_,fun g i=>?_,f.apart,f.off,f.new⟩
 ·rcases Nk.mp h with rfl|h
  ·exact(f.new e.env.locals (.head _))
  ·exact⟨(l b h).2.2.1,(l b h).2.1⟩
 ·rcases Nk.mp h with rfl|h
  ·exact hW o a d
  ·exact(l b h).2.2.2 a d
 ·refine ah (f.cell s g i) fun j A=>?_;obtain⟨a,D,C⟩:=A.1;exact⟨j,⟨a,u g (Na.mpr ⟨_,mem_of_lookup i,rfl⟩) a D,C⟩,fun r m n=>let⟨j,k,b⟩:=A.2 r m n;⟨j,k,b.mono y⟩⟩
 ·refine dN (f.live g i) fun j a B=>?_;exact⟨j,a,u g i a B.1,B.2⟩
theorem SR.mark(a:SR e t S p):SR ⟨Q,e.env,e.own⟩ t S p:=⟨a.led,a.ns,a.cell,a.live,a.apart,a.off,a.new⟩
theorem SR.unmark(a:SR ⟨Q,e.env,e.own⟩ t S p):SR e t S p:=⟨a.led,a.ns,a.cell,a.live,a.apart,a.off,a.new⟩
theorem af0(b:dO e)(d:SR e t S p):js S p [e.env]:=fun j c=>by
 rw[Nj]at c;subst c;refine ah d.ns fun m i=>?_;obtain⟨h,l,k,g,f,_⟩:=i.1;have:=d.new e.env.locals (.head _);exact⟨by rw[b.kind];decide,e.env.locals,h,b.frame,this.1,this.2,g,fun n a=>by replace a:=f▸a;cases a⟩
theorem yS(P:Pg){Lh Li:Pos}{Lj:Pos}(n:ck e)(l:dO e)(K6:e.env.kindOf "DraftFault"=some .globalImplicit)(K9:f4 e h)(v:SR e t S p)(Ly:ju S [e.env] p G JK)
(a:∀o,SR e (cb t h .none) S o->aq (bU e) p S o S->KN .next o):
  wpAny (model prog w) e.A (noteFrame G e.env) (fun _ o=>wpAny (model prog w) e.A (setFlight G none) (fun _ Ln=>wpAny (model prog w) e.A (handleBy G e.env [.ExceptHandler (some (.Name "DraftFault" N)) none [.Assign [.Name h Lj] (.Constant .none q Lh) I9] Li]) KN I4 Ln) I4 o) I4 JK:=by
 obtain⟨d,E,V,KZ,h',tk,k,X,rfl,rfl,C,st,i,KW,GX,Lc,U,Lg,B,Lf,Lz,Lp,Lq,Lr,Ls,Lu,Lv,Lw,Lx⟩:=Ly;refine ah (id (v.behind st C).ns) fun LJ LA=>?_;obtain⟨Q,LG,LF,K7,J,LI⟩:=LA.1;have LH:e.env.locals∉X:=fun A=>by obtain⟨f,d⟩:=v.alive _ (.head _);replace d:=((i _ A).1)▸d;cases d
 have KT:∀b∈X,b∉d4 e:=fun b c A=>by obtain⟨f,d⟩:=v.jy b A;replace d:=((i b c).1)▸d;cases d
 have K1:=U _ _ K7 fun B a=>by replace a:=J▸a;cases a
 generalize u:[e.env.locals,d,E]=x;have K3:Heap.FlyingW (hideAll h' x) [e.env] d (.ref 59) (.ref V) h':=by
  refine⟨fun b f a=>of_hideAll _ a,hideAll_none _ (by rw[<-u];simp),mV fun KX j=>?_,Lg,B,E,Lf,Lz,Lp,Lq,Lr,Ls,hideAll_none _ (by rw[<-u];simp),Lu,Lv,Lw,Lx⟩;rw[Nj]at j;subst j;obtain⟨Lm,L⟩:=K1;exact⟨by rw[l.kind];decide,e.env.locals,_,l.frame,hideAll_none _ (by rw[<-u];simp),L,fun B a=>by replace a:=J▸(show({Q with slots:=Lm}:Obj).data=Q.data from rfl)▸a;cases a⟩
 have H:∀{g:Heap}{tk':Nat},Heap.FlyingW (hideAll h' x) [e.env] d (.ref 59) (.ref V) g->h'.UpToSlots g->SR e t S {p with heap:=g,toks:=tk',drawn:=k}/\aq (bU e) p S {p with heap:=g,toks:=tk',drawn:=k} S:=by
  intro g tk' KY Ll;have q:∀b f,KZ.get? b=some f->b∉X->b≠e.env.locals->g.get? b=some f:=fun b f c r s=>by
   have K2:=Lc b f c r (fun a=>by
    obtain⟨KX,j,m⟩:=R3.mp a
    replace j:=Nj.mp j;subst j
    replace m:=l.frame▸m;cases m;exact s rfl)
   refine KY.1 b f (hideAll_get x K2 fun a=>?_);replace a:=u.symm▸a;simp only[Nk,N0,or_false]at a;rcases a with a|a|a
   ·exact s a
   ·exact r (a▸KW)
   ·replace c:=GX▸a▸c;cases c
  refine⟨((v.behind st C).slots (tk:=tk') (X:=X) (h':=g) (fun b c=>⟨KT b c,(i b c).2.1,(i b c).2.2.1,(i b c).2.2.2⟩) q (U.trans Ll)),⟨_,_,_,rfl⟩,fun b f c r s=>?_,fun b c=>.inl c⟩;exact q b f (st.frame b f c (fun K0=>(nomatch K0)) s) (fun a=>by replace c:=((i b a).1)▸c;cases c) (fun a=>r (a▸ .head _))
 obtain⟨L,Ld⟩:=P.bc;refine wpAny_looks_onW (s:={p with heap:=h',toks:=tk,drawn:=k}) l.frames l.frame K3 fun La K5 M=>?_;refine wpAny_landsW (s:={p with heap:=La,toks:=tk,drawn:=k}) K5 fun Lb z O=>?_;refine aW (H (tk':=tk) z (M.trans O)) fun Y=>?_;refine ah z.there fun LK Z=>?_;refine wpAny_handleBy_cons (codeAny_handlers_test ?_) (by intro a;cases a);refine PG n.kind K6 (QB (n.glob▸P.T.g.keeps Y.1.led.keep) (P.cls 1 _ rfl) ?_) (by decide);refine wpAny_excMatches_sub_self (Y.1.led.keep _ _ (Ld 59 _ rfl)) Z.1 Z.2 (by exists 4) (codeAny_handlers_suite ?_);refine lands_againW (s:={p with heap:=Lb,toks:=tk,drawn:=k}) z fun g K4 K8=>?_;obtain⟨T,LB⟩:=H (tk':=tk) K4 ((M.trans O).trans K8);refine OX ?_;refine(lX (S:=S) (C:=⟨e.A.mark (some (.ref d)),e.env,e.own⟩) (Q:=fun I KS D=>I=.next/\KS=cb t h .none/\D=S) ⟨n.kind,n.glob,n.blt⟩ K9 (pA ⟨rfl,rfl,rfl⟩)).run (T.mark) fun I b KS D Lo m Lk LC LD=>?_;obtain⟨KU,KV,y⟩:=LD;subst KU;subst KV;have y:=y.symm;subst y;cases m;refine PH ?_;exact a Lo Lk.unmark (LB.trans LC T.alive)
end
section
variable{S:aa}{n:Nat}
theorem z3{n:Nat}{i:Obj}{a:FuncData}{names more GN Z:List Str}(k:St)(b:List Str)(j:List (Option GG))
(E:base.get? d=some i)(y:i.data=.func a)(q:a.body=.stmts I2)(v:a.closure=[])(A:a.globals=mainGlobals)(r:a.builtins=builtinsNs)(u:base.CodeRec a.code a.qualname)
(s:∀(p:Shared)(c:List Value),(aV base p.heap)->c.length=z.length->BindsTo p a ⟨c,[]⟩ (names.zip c))
(I:h6 a.scope.names b b GN Z=true)(H:((cellsFrom 0 a.scope.names []).map (fun x=>x.1)).Nodup)(D:names.length=z.length)
(o:∀e:GU,G9 e b b GN Z->aw e.A n->GK e (execs I2 e.env) GW (an b j) S (j6 M))(Hc:autoParam (names++more=b) jf)(G:autoParam ((z.map some++more.map fun w=>none)=j) jf)
(x:autoParam (a.scope.isCoroutine=false) jf)(B:autoParam (a.scope.isGenerator=false) jf)(C:autoParam (a.scope.kind=.function) jf):io (n+1) (.ref d) z S M:=by
 subst Hc;subst G;exact fun O p c f g h=>pU k E y q v A r u (s p c g.keep h.length) I H D f g h (fun e T J m f N=>pH J N ((o e m f).mono fun l t Q L=>by cases l<;>exact L)) x B C
theorem ps(P:Pg)(z:h="table"\/h="trailer")
(g:GK e (eval X e.env) VR t S fun q s m=>GK e (eval o e.env) VR s m fun c l n=>∃d a b F,c=.ref d/\bk d (.inst 368 a b) n F/\b.lookup h=none/\b.length<=100/\Z .next l (F (.inst 368 a (b++[(h,q)]))))
(B:autoParam (swapsWith X (some (.Attribute o h N)) I9.line e.env=pure false) aP):GK e (exec (.Assign [.Attribute o h N] X I9) e.env) GW t S Z:=by
 intro p G;refine R2 (g.run G fun q c s m U D j M i=>i.run j fun V O l n H C k r L=>?_) B;obtain⟨d,a,b,F,v,f,y,E,i⟩:=L;subst v;cases C;refine aig P z k.led f y E (D.mono (j.cj r)) fun x I u same=>?_;obtain⟨A⟩:OR x d (.inst 368 a (b++[(h,c)]))/\True:=by
  refine dN ((f (.inst 368 a (b++[(h,c)]))).split) fun T Q J=>?_;exact⟨u.objs (d,_) (by rw[J.2];simp),trivial⟩
 exact⟨.next,l,_,.next,k.turn (f (.inst 368 a (b++[(h,c)]))) (b:=a) (PT _ Nz) same rfl (fun w g=>(nomatch g)) A,((M.trans r j.alive).trans (aq.turn (s:=H) (tk:=I) (bU e) (f (.inst 368 a (b++[(h,c)]))) (b:=a) (PT _ Nz) same rfl) k.alive),i⟩
theorem En:∀e(p:Shared)(c:List Value),(KF e).In p.heap->c.length=3->∀d f,(KF e).lookup 297=some f->f.data=.func d->BindsTo p d ⟨c,[]⟩ ((["self","table","trailer"]:List Str).zip c):=by
 intro e p c h b d f j i;obtain⟨k,g,a⟩:=R4 b;subst a;obtain⟨l,g,a⟩:=R4 (OU b);subst a;obtain⟨m,g,a⟩:=R4 (OU (OU b));subst a;cases Ql (OU (OU (OU b)));cases j;cases i;exact kp_binds h fun S=>rfl
theorem z4(P:Pg){x d t r:Addr}:io 1 (.ref 297) [.ref x,.ref t,.ref r] ((x,.inst 368 d [])::S) (fun c b=>c=.none/\b=(x,.inst 368 d [("table",.ref t),("trailer",.ref r)])::S):=by
 obtain⟨g,a⟩:=P.bc;refine z3 (GN:=[]) (Z:=[]) (n:=0) (names:=["self","table","trailer"]) (more:=[]) P.T ["self","table","trailer"] [some (.ref x),some (.ref t),some (.ref r)] (a 297 _ rfl) rfl rfl rfl rfl rfl (P.code (296,"Lookup.__init__") (by simp)) (fun p i h f=>En g p i (a.keeps h) f _ _ rfl rfl) (by exists 4) (by exists 4) rfl fun e j k=>?_;refine aH ?_;exists ps P (.inl rfl) ?_;exists bx rfl ?_;exists⟨_,_,_,_,rfl,bk.here,rfl,by simp,?_⟩;exists ps P (.inr rfl) ?_;exists bx rfl ?_;exists⟨_,_,_,_,rfl,bk.here,rfl,by simp,?_⟩;exact BD ⟨rfl,rfl⟩ (Le.refl _)
end
section
variable{S:aa}{s:Shared}
theorem LR.wP(b:LR S s.heap)(ext:aV s.heap I)(j:s.heap.get? d=none)(k:s.heap.get? IX=none)(m:d≠IX)(l:OR I d (.inst H IX J8)):
  LR ((d,.inst H IX J8)::S) I:=by
 have g:∀c,s.heap.get? c=none->c∉aK S/\base.get? c=none:=fun c a=>⟨fun f=>(by obtain⟨q,e,_⟩:=b.c3 f;replace e:=a▸e;cases e),by
  cases o:base.get? c with
  |none=>rfl
  |some q=>have:=b.keep _ _ o;replace this:=a▸this;cases this⟩
 refine⟨fun n i=>?_,?_,fun c a=>?_,fun H p h=>?_,(b.ext ext).keep⟩
 ·rcases Nk.mp i with rfl|i
  ·exact l
  ·exact(b.ext ext).objs n i
 ·rw[(rfl:aK ((d,.inst H IX J8)::S)=d::IX::aK S)];refine ND.mpr ⟨fun f=>?_,ND.mpr ⟨(g IX k).1,b.nodup⟩⟩;rcases Nk.mp f with e|f
  ·exact m e
  ·exact(g d j).1 f
 ·replace a:=(rfl:aK ((d,.inst H IX J8)::S)=d::IX::aK S)▸a;rcases Nk.mp a with rfl|a
  ·exact(g _ j).2
  ·rcases Nk.mp a with rfl|a
   ·exact(g _ k).2
   ·exact b.fresh c a
 ·rcases Nk.mp h with e|h
  ·cases e
  ·exact b.fix H p h
theorem aw.under(a:aw Q (q+1))(b:Ku.weight<=1)(c:Ku.cUnits<=8):aw (Q.under Ku) q:=⟨a.GR,by have d:=a.depth;show Q.depth+Ku.weight+q<_;omega,by have e:=a.units;show Q.units+Ku.cUnits+8*q+80<_;omega⟩
theorem hN(P:Pg):cH (.ref 332)/\cH (.ref 353)/\cH (.ref 365):=⟨kr P fun a=>rfl,kr P fun a=>rfl,kr P fun a=>rfl⟩
theorem md(P:Pg)(v:∀k o,M (.ref k) ((k,.inst 368 o [("table",.ref d),("trailer",.ref H)])::S)):GN 2 (.ref 368) [.ref d,.ref H] S M:=by
 obtain⟨C,j⟩:=P.bc;intro n s G y c r;refine bB r.two fun E A m=>?_;obtain rfl:=m.1;obtain rfl:=m.2.dr;obtain rfl:=m.3.dr;obtain⟨a,g,e,h,os⟩:=s;have ext:aV a ((a.push emptyDict).push (instObj 368 a.objs.size)):=fun i k f=>Nr _ (Nr _ f);have st:aq [] ⟨a,g,e,h,os⟩ S ⟨(a.push emptyDict).push (instObj 368 a.objs.size),g,e,h,os⟩ ((a.objs.size+1,.inst 368 a.objs.size [])::S):=by
  exact⟨⟨_,_,_,rfl⟩,fun i u f w w=>ext i u f,NT.mpr ⟨.inr (NW (Ob _)),NT.mpr ⟨.inr (NW (Ni _)),fun w q=>.inl q⟩⟩⟩
 refine Pb (make_core (makes_of (j.keeps c.keep) rfl) (looks_findIn (j.keeps c.keep) (name:="__init__") (r:=some (.ref 297)) rfl) (fun z=>bind_fn (j.keeps c.keep) z rfl) (.inl rfl) ?_);have t:=z4 (S:=S) P (x:=a.objs.size+1) (d:=a.objs.size) (t:=d) (r:=H) (n.under (.builtin "type.__call__" ⟨[.ref 368,.ref d,.ref H],[]⟩)) ⟨(a.push emptyDict).push (instObj 368 a.objs.size),g,e,h,os⟩ [.ref (a.objs.size+1),.ref d,.ref H]
  (y.under (NQ rfl) (NQ rfl)) (c.wP (s:=⟨a,g,e,h,os⟩) ext (NW (Ob _)) (NW (Ni _)) (Nat.succ_ne_self _) ⟨(by heap_get:((a.push emptyDict).push (instObj 368 a.objs.size)).get? (a.objs.size+1)=some (instObj 368 a.objs.size)),[],0,(Nr _ (Ny _ rfl)),[],fun w=>rfl,⟨rfl,rfl⟩,.nil⟩) (.cons (.ref _) (.cons (.ref _) (.cons (.ref _) .nil)))
 refine Pc t fun x D l=>?_;cases x with
 |error f=>exact l.elim
 |ok p=>
  cases p with
  |ret A=>
   refine anh l fun i B b=>?_;exact⟨(b.4▸b.1).pr,.ref (a.objs.size+1),_,.ref _,b.5▸b.2,st.trans (b.5▸b.3) bs,v _ _⟩
  |_=>exact l.elim
theorem nz(P:Pg)(q:(d,GL.inst 368 H J8)∈S)(p:J8.lookup h=none)
(n:∀a,findIn (KF a) (.ref 368) h=some (some (.ref IX)))(o:∀a,typeIn (KF a) (.ref IX)=some (.type "function")):cJ e (.ref d) h t S (.ref IX) [.ref d]:=by
 intro s y B A z g r c;cases r;obtain⟨a,v⟩:=P.bc;obtain⟨k,x,i,f,m,j,C⟩:=td g.led q;have u:f.lookup h=none:=by
  cases c:f.lookup h with
  |none=>rfl
  |some y=>
   have b:h∈f.map (fun x=>x.1):=Na.mpr ⟨_,bI c,rfl⟩;replace b:=j▸b;have:=i2 (l:=J8) b;replace this:=p▸this;cases this
 refine method_fn (v.keeps g.led.keep) i rfl rfl (n a) (o a) ?_ (c _ (.cons (.ref _) .nil));show(lookIn h (dictOf k x)).map (·.isSome)=some false;rw[lookIn_dict,m,u];rfl
theorem Gx(P:Pg)(b:(d,GL.inst 368 H J8)∈S)(a:J8.lookup ("put":Str)=none):cJ e (.ref d) "put" t S (.ref 332) [.ref d]:=nz P b a (fun y=>rfl) fun y=>rfl
theorem Gw(P:Pg)(b:(d,GL.inst 368 H J8)∈S)(a:J8.lookup ("numbers":Str)=none):cJ e (.ref d) "numbers" t S (.ref 353) [.ref d]:=nz P b a (fun y=>rfl) fun y=>rfl
theorem kH(P:Pg)(b:(d,GL.inst 368 H J8)∈S)(a:J8.lookup ("told":Str)=none):cJ e (.ref d) "told" t S (.ref 365) [.ref d]:=nz P b a (fun y=>rfl) fun y=>rfl
end
open PySem
theorem nQ:aY (az 13) (aA 13) ["value"] [] ["isinstance","bool","int","Decimal","Name","String","list","dict","Stream","Reference","PaperError"] []=true:=by exists 4
theorem aeh:aY (az 14) (aA 14) ["kind","value"] [] ["bytes"] []=true:=by exists 4
theorem nT:aY (az 15) (aA 15) ["value"] ["kind"] ["kind_of","tuple","sorted","told_objects","bytes","told_plain"] ["value"]=true:=by exists 4
theorem nP:aY (az 17) (aA 17) ["value"] ["kind"] ["kind_of","dict","Stream","copied"] ["value"]=true:=by exists 4
theorem aee:aY (az 20) (aA 20) ["shelf"] ["table","number","generation","value"] ["copied","Shelf"] []=true:=by exists 4
theorem nU:aY (az 23) (aA 23) ["shape"] ["kind"] ["dict_of","Stream","leaf_of"] []=true:=by exists 4
theorem ac8:aY (az 24) (aA 24) ["shape"] ["found","key","part"] ["value_of"] []=true:=by exists 4
theorem ac6:aY (az 26) (aA 26) ["one","other"] ["lengths","left","right","pairs"] ["range","len","max"] ["other"]=true:=by exists 4
theorem ade:aY (az 27) (aA 27) ["one","other"] ["head","tail","inner_one","inner_other","inner","pairs"] ["min","len","MOST_CELLS","range","common_rows"] ["one","other","head","tail"]=true:=by exists 4
theorem ac4:aY (az 28) (aA 28) ["path","one","other"] ["pairs","partners","known","left","right","rows"] ["kept_pairs","range","len","shape_rows"] []=true:=by exists 4
theorem ac9:aY (az 29) (aA 29) ["path","one","other"] ["rows","key"] ["sorted","list","shape_rows"] ["one"]=true:=by exists 4
theorem aeb:aY (az 30) (aA 30) ["shape"] ["found","key","part"] [] []=true:=by exists 4
theorem nR:aY (az 31) (aA 31) ["path","one","other"] ["rows"] ["array_rows","list","dict_rows","pairs_of"] []=true:=by exists 4
theorem aea:aY (az 32) (aA 32) ["number","one","other"] ["path","rows"] ["told_objects","shape_rows"] []=true:=by exists 4
theorem adb:aY (az 33) (aA 33) ["one","other"] ["rows","number"] ["isinstance","Shelf","shape_rows","told_objects","sorted","list","object_rows"] ["one"]=true:=by exists 4
theorem ad8:aY (az 34) (aA 34) ["is_right","what"] [] ["DraftFault"] []=true:=by exists 4
theorem adc:aY (az 35) (aA 35) ["rows"] ["found","path","way","old","new"] ["need","len"] []=true:=by exists 4
theorem aeg:aY (az 36) (aA 36) ["rows","way"] ["found"] ["need","len"] ["way"]=true:=by exists 4
theorem kQ:aY (az 37) (aA 37) ["shape","rows"] ["turned"] ["single","need","len","array_applied","list","dict_shape","dict_applied","pairs_of","stream_applied"] []=true:=by exists 4
theorem ada:aY (az 38) (aA 38) ["pairs"] [] ["tuple","sorted"] ["pairs"]=true:=by exists 4
theorem ac7:aY (az 39) (aA 39) ["pairs","rows"] ["found","parts","key","added","gone"] ["dict","grouped","need","isinstance","str","single","len","shape_applied"] []=true:=by exists 4
theorem ac3:aY (az 40) (aA 40) ["parts","rows"] ["added","later","row","behind","kept","spot","some","gone","found"] ["len","need","grouped","range","single","shape_applied","tuple"] []=true:=by exists 4
theorem ad9:aY (az 42) (aA 42) ["entry","rows"] ["turns","others","added","gone","generation","path","way","old","new"] ["need","len","single","shape_applied"] []=true:=by exists 4
theorem ac2:aY (az 43) (aA 43) ["start","rows"] ["table","trailer","parts","step"] ["isinstance","Shelf","value_of","shape_applied","told_objects","list","shelf_copied","grouped","need","tuple","len","put_object"] []=true:=by exists 4
theorem aed:aY (az 44) (aA 44) ["table","number","rows"] ["entry","found"] ["told_objects","object_applied","value_of"] []=true:=by exists 4
theorem nS:aY (az 45) (aA 45) ["step"] [] ["isinstance","str","int"] []=true:=by exists 4
theorem uH:aY (az 46) (aA 46) ["shape"] ["kind"] ["str","len"] []=true:=by exists 4
theorem aef:aY (az 47) (aA 47) ["rows"] ["lines","path","way","old","new","place"] ["show_shape"] []=true:=by exists 4
theorem aei:aY (az 48) (aA 48) ["rows"] ["found","path","way","old","new"] ["isinstance","int"] []=true:=by exists 4
theorem ac5:aY (az 49) (aA 49) ["one","other"] ["found","left","right","least"] ["touched","min","len"] []=true:=by exists 4
theorem uG:aY (az 50) (aA 50) ["base","one","other"] ["first","second"] ["differences","clashes","DraftFault","applied"] []=true:=by exists 4
theorem ad1:aY (az 52) (aA 52) ["script"] [] ["list"] []=true:=by exists 4
theorem adj:aY (az 53) (aA 53) ["pen","many"] ["digit","spot","cell","mix"] ["len","abs","int"] []=true:=by exists 4
theorem adg:aY (az 54) (aA 54) ["pen"] ["plain","number"] ["range","_law_draw","dict"] ["pen"]=true:=by exists 4
theorem adi:aY (az 55) (aA 55) ["pen","base"] ["plain","number","lap","way","key","worth"] ["list","dict","range","_law_draw","len"] []=true:=by exists 4
theorem ad3:aY (az 56) (aA 56) ["plain"] ["shelf","number"] ["Shelf","dict","list"] []=true:=by exists 4
theorem ad2:aY (az 57) (aA 57) ["base","draft"] ["rows","number","step","head","one","other","keys","key","place"] ["str","len","range","sorted","set","list"] []=true:=by exists 4
theorem ad4:aY (az 58) (aA 58) ["base","draft"] ["due","lines"] ["_law_rows","shown","differences","_law_shelf","len"] []=true:=by exists 4
theorem adh:aY (az 59) (aA 59) ["base","one","other"] ["found","left","text","right","words"] ["_law_rows","len"] []=true:=by exists 4
theorem ad0:aY (az 60) (aA 60) ["base","one","other"] ["plain","number","key","new"] ["sorted","set","list","zip"] []=true:=by exists 4
theorem adf:aY (az 61) (aA 61) ["script"] ["pen","lap","base","one","other","shelves","before","due","heard","first","second","made"] ["_law_pen","range","_law_base","_law_draft","_law_shelf","_law_shown_right","_law_clashes","clashes","differences","len","joined","DraftFault","_law_joined"] ["due"]=true:=by exists 4
theorem ad6:aY (bj 19 0) (a1 19 0) ["self","number","generation","value"] [] [] []=true:=by exists 4
theorem ad5:aY (bj 19 3) (a1 19 3) ["self"] [] ["sorted"] []=true:=by exists 4
theorem ad7:aY (bj 19 5) (a1 19 5) ["self"] ["rows"] ["tuple","told_objects"] ["self"]=true:=by exists 4
noncomputable abbrev ap(a:Int):GG:=.tup [.str "int",.int a]
noncomputable abbrev dL(a:List Int):GG:=.tup (.str "array"::a.map ap)
noncomputable abbrev fr(a:Str×Int):GG:=.tup [.str a.1,ap a.2]
noncomputable abbrev bz(a:List (Str×Int)):GG:=.tup (.str "dict"::a.map fr)
noncomputable abbrev HB(a:List Int):GL:=.list (a.map .int)
noncomputable def Hf(a:Str×Int):ae×GG:=(.s a.1,.int a.2)
noncomputable abbrev Hq(a:Nat)(b:List (Str×Int)):GL:=.dict a (b.map Hf)
noncomputable def av(b:List (Str×Int))(a:Str):Int:=(b.lookup a).getD 0
noncomputable def as(b:List (Str×Int)):List (Str×Int):=(cD (b.map (fun x=>x.1))).map fun a=>(a,av b a)
section
variable{S:aa}
theorem p9(P:Pg):GN 1 (.ref 265) [.int k] S (fun b a=>b=.str "int"/\a=S):=by
 refine aS ["value"] [some (.int k)] P.T P.jW nQ rfl fun d f g e c=>?_;refine aH ?_;exists 1;exact c.r ⟨rfl,rfl⟩ (Le.refl _)
theorem ra(P:Pg)(h:(d,GL.list z)∈S):GN 1 (.ref 265) [.ref d] S (fun b a=>b=.str "array"/\a=S):=by
 refine aS ["value"] [some (.ref d)] P.T P.jW nQ rfl fun e g i f c=>?_;refine aH ?_;exists 1;exact c.r ⟨rfl,rfl⟩ (Le.refl _)
theorem p8(P:Pg)(h:(d,GL.dict q I8)∈S):GN 1 (.ref 265) [.ref d] S (fun b a=>b=.str "dict"/\a=S):=by
 refine aS ["value"] [some (.ref d)] P.T P.jW nQ rfl fun e g i f c=>?_;refine aH ?_;exists 1;exact c.r ⟨rfl,rfl⟩ (Le.refl _)
theorem zZ(P:Pg):GN 1 (.ref 272) [.str "int",.int k] S (fun b a=>b=ap k/\a=S):=by
 refine aS ["kind","value"] [some (.str "int"),some (.int k)] P.T P.sn aeh rfl fun d f g e c=>?_;refine aH ?_;exists 1;exact c.r ⟨rfl,rfl⟩ (Le.refl _)
theorem GN.go{d:GG->aa->Prop}(g:GN q G z S M)(i:q<=v)(h:∀b a,M b a->d b a):GN v G z S d:=fun e k l j f m=>
 NB (g e k l (j.mono i) f m) (fun x x n=>by refine oS n fun b a c=>?_;exact⟨b,a,c.1,c.2,c.3,h b a c.4⟩) bK
theorem rn(P:Pg):GN 2 (.ref 277) [.int k] S (fun b a=>b=ap k/\a=S):=by
 refine aS ["value","kind"] [some (.int k),none] P.T P.iO nT rfl fun d f g e c=>?_;refine aH ?_;exists 1;refine(p9 P).go (Ni _) (bt ?_);exists 1;refine(zZ P).go (Ni _) (bt ?_);exists 1;exact c.r ⟨rfl,rfl⟩ (Le.refl _)
inductive bm(b:List (Str×NameKind))(a:List Str)(c:List (Option GG)):List Str->List (Option GG)->Prop
 |nil:bm b a c [] []
 |none {x:Str} {d:List Str} {e:List (Option GG)}:bm b a c d e->bm b a c (x::d) (none::e)
 |pL {x:Str} {f:GG} {d:List Str} {e:List (Option GG)}:b.lookup x=some .free->b4 a c x f->bm b a c d e->bm b a c (x::d) (some f::e)
theorem bm.start(g:bm KG l Y Jb JT)(j:l.Nodup):∀a b,an Jb JT a=some b->KG.lookup a=some .free/\an l Y a=some b:=by
 induction g with
 |nil=>intro a b c;exact nomatch(show g6 a=some b from c)
 | @none f _ _ _ e=>
  intro a b c;by_cases d:a=f
  ·exact nomatch(if_pos d).symm.trans c
  ·exact e a b ((if_neg d).symm.trans c)
 | @pL f k _ _ h i _ e=>
  intro a b c;by_cases d:a=f
  ·exact d▸((if_pos d).symm.trans c)▸⟨h,i.val j⟩
  ·exact e a b ((if_neg d).symm.trans c)
theorem akf(a:Jw true t S):e8 e [] t S Jw:=a
theorem fW(a:GK e (isTrue o e.env (eval o e.env)) Ho t S Jw):e8 e [o] t S Jw:=a
theorem b2(c K b a:List Str){f:Value->Sem Unit}(g:G9 e l Jb Jz J7)(n:aw e.A q)(h:l9 KR.names c K b a=true)(k:∀o∈a,o∈J7)
(m:G9 (aR e KR d) c K b a->aw (aR e KR d).A q->bn (aR e KR d) f i UR t S KD)(j:autoParam (KR.kind=.function) aP):bn (aR e KR d) f i UR t S KD:=m (Cm g j h k) n
theorem d8(c:List D)(f:D->GG)(k:D->GG)(g:List (Option GG))
(u:dn e.A i (c.map f).length (fun z=>(c.map f).getD z .none) Kn)(v:c.length<=sizeLine)(B:Kn V)(A:∀m,Kn V->Kn (m::V))
(start:f6 KR l g t)
(E:∀d h a b,d∈c->bn (aR e KR b) (assign o (aR e KR b).env) (f d) UR (an l g) ((a,.list h)::V) fun w p j=>
 GK (aR e KR b) (eval X (aR e KR b).env) VR p j fun n H q=>n=k d/\(b6 l g H)/\Le ((a,.list h)::V) q)
(r:∀a,Ki a ((a,.list (c.map k))::V)):dD e l KR o [] X Ki i t V:=by
 refine fb c f (fun w=>true) k g u v B A start (fun d h a b y J M C x=>(E d h a b y).run C x fun N I p j L w n G m=>⟨(),p,j,trivial,n,G,akf ⟨rfl,fun w=>m,fun s=>nomatch s⟩⟩) fun a=>?_;rw[OW.mpr fun w w=>rfl];exact r a
theorem cp{c:aa}(d:i=Jn)(f:aD Y JT)(e:Le V c):i=Jn/\(∀b a,an l Y b=some a->an l JT b=some a)/\Le V c:=⟨d,fun b a=>f.val l b a,e⟩
theorem zY(P:Pg)(b:(d,HB j)∈S)(l:j.length<1000):GN 3 (.ref 277) [.ref d] S (fun h g=>h=dL j/\g=S):=by
 refine aS ["value","kind"] [some (.ref d),none] P.T P.iO nT rfl fun m a e n i=>?_;refine aH ?_;exists 1;refine(ra P b).go (NQ rfl) (bt ?_);exists 1;exists cy ["part"] a (by exists 4) (by exists 4) ?_;refine d8 j GG.int ap [none] (dj e.GR) (mf (aj (c:=16777216) (Nh l) rfl) (Nd Nl.symm)) (.inl b) (fun r p=>.inl (ac b)) (bm.start (by walk_at "ncaps") a.GO) (fun t u f o q=>?_) fun f=>?_
 ·refine b2 ["part"] ["part"] ["told_objects"] [] a e (by exists 4) (by exists 4) fun k s=>?_;exists aZ k (by exists 2) (by walk_at "nput") ?_;refine(rn P).go (Ni _) (bt ?_);exact cp rfl (by exists 3) (by walk_at "nle")
 ·exists 0;exists iJ (.inl am) (by walk_at "nsz") ?_;exact i.r ⟨rfl,rfl⟩ (by walk_at "nle")
theorem fe(e:h∈b.map (fun x=>x.1)):ay (b.map Hf) (.s h)=some (.int (av b h)):=by
 induction b with
 |nil=>simp at e
 |cons i b g=>
  obtain⟨d,j⟩:=i;by_cases a:d=h
  ·subst a;simp[ay,Hf,av]
  ·have f:h∈b.map (fun x=>x.1):=by
    rcases Nk.mp e with c|c
    ·exact absurd c.symm a
    ·exact c
   have:=g f;unfold ay at this⊢;rw[Nt,Oy];rw[(by simp[Hf,a]:decide ((Hf (d,j)).1=ae.s h)=false)];simp only[av,NF,(by simpa using NZ a:(h==d)=false)];exact this
theorem mz(c:h∉b.map (fun x=>x.1)):ay (b.map Hf) (.s h)=none:=by
 unfold ay;rw[R5,PU];intro g d;obtain⟨f,e,rfl⟩:=Na.mp d;simp only[Hf,decide_eq_true_eq,ae.s.injEq];exact fun a=>c (Na.mpr ⟨f,e,a⟩)
theorem iI(P:Pg)(e:(d,Hq q b)∈S)(g:b.length<60):GN 3 (.ref 277) [.ref d] S (fun l k=>l=bz (as b)/\k=S):=by
 refine aS ["value","kind"] [some (.ref d),none] P.T P.iO nT rfl fun r a i s m=>?_;refine aH ?_;exists 1;refine(p8 P e).go (NQ rfl) (bt ?_);exists 1;exists cy ["key","value"] a (by exists 4) (by exists 4) ?_;refine mq P.GY e (by rw[Nb];exact aj g rfl) (out:=(cD (b.map (fun x=>x.1))).map .str) (by have:=cg.str (b.map (fun x=>x.1));simpa[PR,Hf,ae.GP]using this) fun u=>?_;have o:(cD (b.map (fun x=>x.1))).length=b.length:=by rw[(cO _).length_eq,Nb]
 refine fb (cD (b.map (fun x=>x.1))) GG.str (fun w=>true) (fun h=>fr (h,av b h)) [none,some (.ref d)] (dj i.GR) (mf (aj (mf (Nd o) (Nh g)) rfl) (Nd Nl.symm)) (.inl am) (fun v c=>.inl (ac am)) (bm.start (by walk_at "ncaps") a.GO) (fun y z j t p=>?_) fun j=>?_
 ·have f:=fe ((cO _).mem_iff.mp p);refine b2 ["key","value"] ["key"] ["told_objects"] ["value"] a i (by exists 4) (by exists 4) fun n x=>?_;refine aZ n (by exists 2) (by walk_at "nput") ?_;exists fW ?_;exists cu (by exists 2) f ?_;exists⟨rfl,fun w=>?_,fun c=>nomatch c⟩;exists cu (by exists 2) f ?_;exists(rn P).go (Ni _) (bt ?_);exact cp rfl (by exists 3) (by walk_at "nle")
 ·rw[OW.mpr fun w w=>rfl];exists 0;exists iJ (.inl am) (by walk_at "nsz") ?_;refine m.r ⟨?_,rfl⟩ (by walk_at "nle");simp[bz,as,PR]
end
theorem er[DecidableEq D]{b:List (D×GG)}{a:D}(d:a∉b.map (fun x=>x.1)):a6 b a i=b++[(a,i)]:=by
 unfold a6;rw[if_neg];simp only[N8,decide_eq_true_eq,not_exists,not_and];exact fun f e c=>d (Na.mpr ⟨f,e,c⟩)
theorem B1[DecidableEq D]{b:List (D×GG)}:∀{ks:List (D×GG)},((ks++b).map (fun x=>x.1)).Nodup->b.foldl (fun d a=>a6 d a.1 a.2) ks=ks++b:=by
 induction b with
 |nil=>exact fun{ks}x=>(NU ks).symm
 |cons a b f=>
  intro ks c;have e:a.1∉ks.map (fun x=>x.1):=by
   intro g;rw[Ng,NK]at c;exact c.2.2 a.1 g a.1 (.head _) rfl
  rw[OH,er e,f (by rw[NR];exact c),NR];rfl
theorem mU[DecidableEq D]{a:List (D×GG)}(d:(a.map (fun x=>x.1)).Nodup):a.foldl (fun c b=>a6 c b.1 b.2) []=a:=B1 (ks:=[]) (d)
theorem nJ(c:(b.map (fun x=>x.1)).Nodup):((b.map Hf).map (fun x=>x.1)).Nodup:=by
 rw[Nf];have:((fun x=>x.1)∘Hf:Str×Int->ae)=ae.s∘(fun x=>x.1):=rfl;rw[this,<-Nf];rw[List.Nodup,Op];exact List.Pairwise.imp (fun d a=>d (by injection a)) c
theorem hA[DecidableEq D]{a:List (D×GG)}{p:D×GG}:(a.map (fun x=>x.1)).Nodup->p∈a->ay a p.1=some p.2:=by
 induction a with
 |nil=>exact fun x b=>(N0 b).elim
 |cons c a g=>
  intro d b;rw[hx];rcases Nk.mp b with rfl|b
  ·exact if_pos rfl
  ·rw[if_neg (fun e=>(ND.mp d:c.1∉a.map (fun x=>x.1)/\(a.map (fun x=>x.1)).Nodup).1 (e▸P5 (f:=(fun x=>x.1)) b):c.1≠p.1),g (ND.mp d:c.1∉a.map (fun x=>x.1)/\(a.map (fun x=>x.1)).Nodup).2 b]
section
variable{S:aa}
theorem EA(b:Q.handled=none)(f:∃e,base.get? sysModules=some e){ep:Nat}:dn Q (.ref d) (I8.map fun a=>a.1.GP).length (fun c=>((I8.map fun a=>a.1.GP)).getD c .none) (fun S=>DictAt S d ep I8):=by
 rw[Nb];exact tn b f
theorem p1(P:Pg):GN 2 (.ref 282) [.int k] S (fun b a=>b=.int k/\a=S):=by
 refine aS ["value","kind"] [some (.int k),none] P.T P.jM nP rfl fun d f g e c=>?_;refine aH ?_;exists 1;refine(p9 P).go (Ni _) (bt ?_);exists 1;exact c.r ⟨rfl,rfl⟩ (Le.refl _)
theorem zj(P:Pg)(e:(d,HB j)∈S)(l:j.length<1000):GN 3 (.ref 282) [.ref d] S (fun h g=>∃a,h=.ref a/\g=(a,HB j)::S):=by
 refine aS ["value","kind"] [some (.ref d),none] P.T P.jM nP rfl fun m b f n i=>?_;refine aH ?_;exists 1;refine(ra P e).go (NQ rfl) (bt ?_);exists 1;exists cy ["part"] b (by exists 4) (by exists 4) ?_;refine d8 j GG.int GG.int [none] (dj f.GR) (mf (aj (c:=16777216) (Nh l) rfl) (Nd Nl.symm)) (.inl e) (fun r p=>.inl (ac e)) (bm.start (by walk_at "ncaps") b.GO) (fun t u a o q=>?_) fun a=>?_
 ·refine b2 ["part"] ["part"] ["copied"] [] b f (by exists 4) ((by decide)) fun k s=>?_;exists aZ k (by exists 2) (by walk_at "nput") ?_;refine(p1 P).go (Ni _) (bt ?_);exact cp rfl (by exists 3) (by walk_at "nle")
 ·exists 0;exact i.r ⟨a,rfl,rfl⟩ (by walk_at "nle")
theorem p0(P:Pg)(g:(d,Hq q b)∈S)(i:b.length<60)(j:(b.map (fun x=>x.1)).Nodup):GN 3 (.ref 282) [.ref d] S (fun o m=>∃a e,o=.ref a/\m=(a,Hq e b)::S):=by
 refine aS ["value","kind"] [some (.ref d),none] P.T P.jM nP rfl fun v f l x p=>?_;refine aH ?_;exists 1;refine(p8 P g).go (NQ rfl) (bt ?_);exists 1;exists cy ["key","value"] f (by exists 4) (by exists 4) ?_;refine d8 (b.map Hf) (fun k=>k.1.GP) h2 [none,some (.ref d)] (EA (ep:=q) l.GR P.GY) (by rw[Nb];exact mf (aj (c:=16777216) (Nh i) rfl) (Nd Nl.symm)) g (fun z s=>ac s) (bm.start (by walk_at "ncaps") f.GO) (fun B C a y h=>?_) fun a=>?_
 ·refine ah (Na.mp h) fun k u=>?_;obtain rfl:=u.2;have t:=hA (nJ j) h;refine b2 ["key","value"] ["key"] ["copied"] ["value"] f l (by exists 4) ((by decide)) fun r A=>?_;exists aZ r (by exists 2) (by walk_at "nput") ?_;exists nW (by exists 2) t ?_;exists(p1 P).go (Ni _) (bt ?_);exact cp rfl (by exists 3) (by walk_at "nle")
 ·exists 0;refine p2 am (by rw[Nb];exact aj (Nh i) rfl) fun n e=>?_;rw[mU (nJ j)];exists 0;exact p.r ⟨n,e,rfl,rfl⟩ (by walk_at "nle")
end
@[elab_as_elim] theorem au{a b:JD}{P:JD->Prop}(c:a=b)(d:P b):P a:=c▸d
@[elab_as_elim] theorem dY{a b:JD}{P:JD->Prop}(c:b=a)(d:P b):P a:=c▸d
theorem vr:Builtin.Range.rangeSize 0 (q:Int) 1=(q:Int):=by
 rw[rangeSize_one];by_cases a:(0:Int)<q
 ·rw[if_pos a,Int.sub_zero]
 ·rw[if_neg a];exact Int.le_antisymm (Oo q) (Pw.mp a)
theorem vT(a:q<100000):Builtin.Range.small 0 (q:Int) 1=true:=small_one (by decide) (by decide) (PE (by decide) (Oo _)) (Og (N6.mpr (Nh a)) (by decide))
theorem AB(a:v<q):((q:Int)-1)+(v:Int)*(-1)=((q-1-v:Nat):Int):=by
 rw[Ps (Nat.le_sub_one_of_lt a),Ps (NV (NN v) a),Int.mul_neg,Int.mul_one];rfl
theorem vq:Builtin.Range.rangeSize ((q:Int)-1) (-1) (-1)=(q:Int):=by
 cases q with
 |zero=>rfl
 |succ q=>
  show(if(q:Int)+1-1> -1 then((q:Int)+1-1- -1-1)/1+1 else 0)=(q:Int)+1;rw[Int.add_sub_cancel,if_pos (Pm (by decide) (Oo q)),Int.ediv_one,Int.sub_add_cancel];rfl
theorem aje(a:q<100000):Builtin.Range.small ((q:Int)-1) (-1) (-1)=true:=by
 unfold Builtin.Range.small;rw[vq];simp only[Builtin.Range.rangeFitsLong,Ox,PK,decide_eq_true_eq,beq_iff_eq,show¬((-1:Int)>0) by decide,if_false];omega
theorem m9{ep:Nat}{b:List D}(g:Q.handled=none)(k:∃i,base.get? sysModules=some i)(a:D->ae×GG):dn Q (.ref d) (b.map fun c=>(a c).1.GP).length (fun h=>(b.map fun c=>(a c).1.GP).getD h .none) (fun S=>DictAt S d ep (b.map a)):=by
 have e:=tn (A:=Q) (d:=d) (ep:=ep) (ks:=b.map a) g k;have f:((b.map a).map fun j=>j.1.GP)=b.map fun c=>(a c).1.GP:=by rw[Nf];rfl
 rw[Nb,f]at e;rw[Nb];exact e
theorem bC(a:q<=1000):q<=sizeLine:=by have:=Nl;exact mf (aj (c:=16777216) a rfl) (Nd Nl.symm)
theorem cW{b:D->GG}{a:List D}(c:a.length<=1000):(a.map b).length<=sizeLine:=by rw[Nb];exact bC c
theorem cE{b:D->I1}{a:List D}(c:a.length<=1000):(a.map b).length<=sizeLine:=by rw[Nb];exact bC c
noncomputable def Sm(a:Nat)(b:Str):Prop:=b.length<=a
theorem Sm.app{a b:Nat}(c:Sm a h)(d:Sm b I5):Sm (a+b) (h++I5):=by unfold Sm;rw[Q3];exact No c d
theorem lit{s:Str}(a:decide (s.length<=30)=true):Sm 30 s:=(of_decide_eq_true a:s.length<=30)
theorem Sm.le(a:Sm q h)(b:autoParam (decide (q<=v)=true) dB):Sm v h:=mf a (of_decide_eq_true b)
theorem aG{S:aa}{a b:Nat}(c:Sm a h)(d:Sm b I5)(i:B (.str (h++I5)) t S)(g:autoParam (decide (a+b<=100000)=true) dB):aE e (binaryOp .Add) (.str h) (.str I5) VR t S B:=
 ae1 (by have j:=Nl;have f:=of_decide_eq_true g;unfold Sm at c d;exact mf (aj (No (mf c (mf (Nv _ _) f)) (mf d (mf (N3 _ _) f))) rfl) (Nd j.symm)) i
section
variable{S:aa}{ι:Type}
noncomputable def JO(d:ι->List (Option GG))(c:ι->aa)(b:ι->Prop):List (Option GG)->aa->Prop:=fun e S=>∃a,e=d a/\S=c a/\b a
structure Nx(l:List Str)(f:ι->List (Option GG))(T:ι->aa)(d:ι->Prop)(e a:G4->ab->aa->Prop):Prop where
 next:∀{i:ι}{c:List (Option GG)}{S:aa},d i->aD (f i) c->Le (T i) S->a .next (an l c) S
 ret:∀{b:GG}{t:ab}{S:aa},e (.ret b) t S->a (.ret b) t S
theorem Nx.n{d:ι->List (Option GG)}{c:ι->aa}{b:ι->Prop}(h:Nx l d c b Z KL)(a:ι)(e:b a)(g:aD (d a) Y)(f:Le (c a) S):KL .next (an l Y) S:=h.next e g f
noncomputable abbrev ge(e:GU)(l:List Str)(h:Expr)(g:List Stmt)(c:G4->ab->aa->Prop)(f:GG)(i:List (Option GG))(S:aa)(j:ι->List (Option GG))(d:ι->aa)(b:ι->Prop):Prop:=
 ∀a,Nx l j d b c a->bn e (assign h e.env) f UR (an l i) S fun x t S=>GK e (execs g e.env) GW t S a
theorem wc{f:ι->List (Option GG)}{c:ι->aa}{b:ι->Prop}(p:ge e l o I2 Z i Y S f c b):
  bn e (assign o e.env) i UR (an l Y) S fun w B k=>GK e (execs I2 e.env) GW B k fun n j g=>match n with
   |.next=>∃h a,(b6 l h j)/\Le a g/\JO f c b h a
   |.ret v=>Z (.ret v) j g:=
 fun C D u q=>(p (kB l (JO f c b) Z) ⟨fun r t s=>t6 ⟨_,rfl,rfl,r⟩ t s,fun d=>d⟩).run u q fun w m A a w x y z d=>⟨m,A,a,x,y,z,t7 d⟩
section
variable{α:Type}{vs:List α->ι->List (Option GG)}{T:List α->ι->aa}{J:List α->ι->Prop}
theorem vY{vs:ι->List (Option GG)}{T:ι->aa}{J:ι->Prop}(a:ι)(h:aD (vs a) Y)(g:Le (T a) V)(f:J a):∃e d,(∀c b,an l e c=some b->an l Y c=some b)/\Le d V/\JO vs T J e d:=
 ⟨_,_,fun c b=>h.val l c b,g,a,rfl,rfl,f⟩
theorem j9{Ok:aa->Prop}(d:List α)(g:α->GG)(p:dn e.A i (d.map g).length (fun a=>(d.map g).getD a .none) Ok)(vs:List α->ι->List (Option GG))(T:List α->ι->aa)(J:List α->ι->Prop)(a:ι)
(t:aD (vs [] a) Y)(s:Le (T [] a) V)(q:J [] a)(r:∀b a,Ok (T b a))
(u:∀b c h a,d=b++c::h->J b a->ge e l o I2 Z (g c) (vs b a) (T b a) (vs (b++[c])) (T (b++[c])) (J (b++[c])))
(n:∀a,J d a->Z .next (an l (vs d a)) (T d a)):ek e l o I2 Z i (an l Y) V:=
 sW d g (fun b=>JO (vs b) (T b) (J b)) p (vY a t s q) (fun b y y y y f=>by refine aN f fun a v=>?_;exact v.2▸r b a)
  (fun b c h y y m f=>by refine aN f fun a j=>?_;exact j.1▸j.2▸wc (u b c h a m j.3)) fun y y f=>by refine aN f fun a k=>?_;exact k.1▸k.2▸n a k.3
theorem ka{ep:Nat}(i:e.A.handled=none)(r:∃p,base.get? sysModules=some p)(f:List α)(g:α->ae×GG)(vs:List α->ι->List (Option GG))(T:List α->ι->aa)(J:List α->ι->Prop)(a:ι)
(n:aD (vs [] a) Y)(m:Le (T [] a) V)(j:J [] a)(k:∀b a,(d,GL.dict ep (f.map g))∈T b a)
(s:∀b c q a,f=b++c::q->J b a->ge e l o I2 Z (g c).1.GP (vs b a) (T b a) (vs (b++[c])) (T (b++[c])) (J (b++[c])))
(h:∀a,J f a->Z .next (an l (vs f a)) (T f a)):ek e l o I2 Z (.ref d) (an l Y) V:=
 j9 f (fun c=>(g c).1.GP) (m9 i r g) vs T J a n m j k s h
theorem dv(i:e.A.handled=none)(c:List α)(g:α->GG)(vs:List α->ι->List (Option GG))(T:List α->ι->aa)(J:List α->ι->Prop)(a:ι)
(n:aD (vs [] a) Y)(m:Le (T [] a) V)(j:J [] a)(k:∀b a,(d,GL.list (c.map g))∈T b a)
(q:∀b f p a,c=b++f::p->J b a->ge e l o I2 Z (g f) (vs b a) (T b a) (vs (b++[f])) (T (b++[f])) (J (b++[f])))
(h:∀a,J c a->Z .next (an l (vs c a)) (T c a)):ek e l o I2 Z (.ref d) (an l Y) V:=
 j9 c g (dj i) vs T J a n m j (fun b a=>.inl (k b a)) q h
theorem sV(i:e.A.handled=none)(c:List α)(f:α->GG)(g:z=c.map f)(vs:List α->ι->List (Option GG))(T:List α->ι->aa)(J:List α->ι->Prop)(a:ι)
(m:aD (vs [] a) Y)(k:Le (T [] a) V)(j:J [] a)
(p:∀b d n a,c=b++d::n->J b a->ge e l o I2 Z (f d) (vs b a) (T b a) (vs (b++[d])) (T (b++[d])) (J (b++[d])))
(h:∀a,J c a->Z .next (an l (vs c a)) (T c a)):ek e l o I2 Z (.tup z) (an l Y) V:=
 g▸j9 c f (hL i) vs T J a m k j (fun y y=>trivial) p h
end
theorem sU{g:Int}(n:e.A.handled=none)(s:Builtin.Range.small k IY g=true)(r:Builtin.Range.rangeSize k IY g=(q:Int))(f:Nat->ι->List (Option GG))(d:Nat->ι->aa)(c:Nat->ι->Prop)(a:ι)
(v:aD (f 0 a) Y)(u:Le (d 0 a) V)(t:c 0 a)
(x:∀b a,b<q->c b a->ge e l o I2 Z (.int (k+b*g)) (f b a) (d b a) (f (b+1)) (d (b+1)) (c (b+1)))
(m:∀a,c q a->Z .next (an l (f q a)) (d q a)):ek e l o I2 Z (.c4 k IY g) (an l Y) V:=
 B3 n s r (fun b=>JO (f b) (d b) (c b)) (vY a v u t) (fun b y y p j=>by refine aN j fun a h=>?_;exact h.1▸h.2▸wc (x b a p h.3)) fun y y j=>by refine aN j fun a i=>?_;exact i.1▸i.2▸m a i.3
theorem g3{n:Nat}(h:e.A.handled=none)(j:n<100000)(f:Nat->ι->List (Option GG))(d:Nat->ι->aa)(c:Nat->ι->Prop)(a:ι)
(q:aD (f 0 a) Y)(p:Le (d 0 a) V)(m:c 0 a)
(r:∀(b:Nat)a,b<n->c b a->ge e l o I2 Z (.int b) (f b a) (d b a) (f (b+1)) (d (b+1)) (c (b+1)))
(g:∀a,c n a->Z .next (an l (f n a)) (d n a)):ek e l o I2 Z (.c4 0 n 1) (an l Y) V:=
 sU h (vT j) vr f d c a q p m (fun b a i k=>by rw[Int.mul_one,Int.zero_add];exact r b a i k) g
end
section
variable{S:aa}{ι:Type}
structure Wx(l:List Str)(h:ι->List (Option GG))(T:ι->aa)(f:ι->Prop)(c:ι->Nat)(i:ι)(g b:G4->ab->aa->Prop):Prop where
 next:∀{a:ι}{e:List (Option GG)}{S:aa},c a<c i->f a->aD (h a) e->Le (T a) S->b .next (an l e) S
 ret:∀{d:GG}{t:ab}{S:aa},g (.ret d) t S->b (.ret d) t S
theorem Wx.n{f:ι->List (Option GG)}{d:ι->aa}{c:ι->Prop}{b:ι->Nat}{e:ι}(k:Wx l f d c b e Z KL)(a:ι)(g:b a<b e)(h:c a)(j:aD (f a) Y)(i:Le (d a) S):KL .next (an l Y) S:=k.next g h j i
@[reducible] noncomputable def ws(e:GU)(d:List Stmt)(c b:G4->ab->aa->Prop):Bool->ab->aa->Prop:=fun a t S=>(a=false->c .next t S)/\(a=true->GK e (execs d e.env) GW t S b)
theorem px{Q:G4->ab->aa->Prop}(h:ι->List (Option GG))(c:ι->aa)(b:ι->Prop)(f:ι->Nat)(d:ι)(D:aD (h d) Y)(B:Le (c d) S)(A:b d)
(E:∀a,b a->∀n,Wx l h c b f a Q n->GK e (isTrue o e.env (eval o e.env)) Ho (an l (h a)) (c a) (ws e I2 Q n)):GK e (exec (.While o I2 [] N) e.env) GW (an l Y) S Q:=
 xI l (fun i Y S=>∃a,Y=h a/\S=c a/\i=f a/\b a) (f d) ⟨_,_,fun m g=>D.val l m g,B,d,rfl,rfl,rfl,A⟩ fun i w w G=>by
  obtain⟨a,x,y,z,j⟩:=G;subst x;subst y;subst z;exact(E a j (fun u t q=>match u with
   |.next=>∃r s p,r<f a/\(b6 l s t)/\Le p q/\∃a,s=h a/\p=c a/\r=f a/\b a
   |.ret g=>Q (.ret g) t q) ⟨fun v j C i=>⟨_,_,_,v,fun m g=>C.val l m g,i,_,rfl,rfl,rfl,j⟩,fun k=>k⟩).mono fun w w w k=>k
theorem pw(c:ι->List (Option GG))(b:ι->aa)(d:ι->Prop)(j:ι->Nat)(g:ι)(u:aD (c g) Y)(s:Le (b g) S)(r:d g)
(x:∀a,d a->∀i f:G4->ab->aa->Prop,i .next (an l (c a)) (b a)->Wx l c b d j a i f->GK e (isTrue o e.env (eval o e.env)) Ho (an l (c a)) (b a) (ws e I2 i f))(q:∀a,d a->Z .next (an l (c a)) (b a)):GK e (exec (.While o I2 [] N) e.env) GW (an l Y) S Z:=
 (px (Q:=fun p t S=>p=.next/\∃a,d a/\t=an l (c a)/\S=b a) c b d j g u s r fun a h f v=>x a h _ f ⟨rfl,a,h,rfl,rfl⟩ v).mono fun z z z y=>by obtain⟨k,a,h,m,n⟩:=y;exact k▸m▸n▸q a h
end
theorem Le.eqv{R:Addr}{S a:aa}(b:z=Jm)(c:Le S a):Le ((R,.list z)::S) ((R,.list Jm)::a):=b▸Le.take c
theorem GN.lv{S:aa}(c:GN q G z S M)(d:autoParam (q<=v) dB):GN v G z S M:=fun a f g e b h=>c a f g (e.mono d) b h
theorem gW{b:D->GG}{S:aa}{a:List D}(c:(d,GL.list (a.map b))∈S)(e:(a.map b).length<=sizeLine)(f:M (.int a.length) S):GN q (.builtin "len") [.ref d] S M:=gn (.inl c) e (by rw[Nb];exact f)
theorem sT{n:Nat}(i:e.A.handled=none)(j:n<100000)(f:D->List (Option GG))(d:D->aa)(c:D->Prop)(a:D)
(q:aD (f a) Y)(p:Le (d a) V)(m:c a)
(r:∀(b:Nat)a,b<n->c a->ge e l o I2 Z (.int b) (f a) (d a) f d c)
(h:∀a,c a->Z .next (an l (f a)) (d a)):ek e l o I2 Z (.c4 ((n:Int)-1) (-1) (-1)) (an l Y) V:=
 sU i (aje j) vq (fun x=>f) (fun x=>d) (fun x=>c) a q p m (fun b a g k=>by
  rw[show((n:Int)-1)+(b:Int)*(-1)=((n-1-b:Nat):Int)from AB g];exact r _ a (NV (QM _ _) (Nat.sub_lt (NV (NN b) g) (by decide))) k) h
theorem cc{b a d:List D}{e:D}(c:b=a++e::d):a.length<b.length:=by rw[c,Nm,N4];omega
theorem g1{a:D->List I1}{b:List D}{c:D}:(b++[c]).flatMap a=b.flatMap a++a c:=by rw[OZ,NO,R6,NU]
theorem ez{f:D->I1}{d b h:List D}{c:D}(a:(d.map f).Nodup)(e:d=b++c::h):f c∉b.map f:=by
 rw[e,Ng,NK]at a;exact fun g=>a.2.2 _ g _ (.head _) rfl
section
variable{α β:Type}{acc m:List β}{f:α->List β}{g:β->GG}{pre:List α}{x:α}
theorem lQ(a:f x=m):(acc++(pre++[x]).flatMap f).map g=(acc++pre.flatMap f).map g++m.map g:=by
 rw[g1,<-NR,Ng,a]
theorem wN(a:f x=[]):(acc++(pre++[x]).flatMap f).map g=(acc++pre.flatMap f).map g:=(lQ a).trans (NU _)
theorem jv{f:Nat->List β}(a:f q=m):(acc++(List.range (q+1)).flatMap f).map g=(acc++(List.range q).flatMap f).map g++m.map g:=by rw[Qr];exact lQ a
theorem wO{f:Nat->List β}(a:f q=[]):(acc++(List.range (q+1)).flatMap f).map g=(acc++(List.range q).flatMap f).map g:=(jv a).trans (NU _)
theorem o6:(acc++([]:List β)).map g=acc.map g:=congrArg _ (NU acc)
theorem o7{n:Nat}(a:∀x,(f x).length<=1)(e:acc.length<=n)(b:pre.length<=100)(h:n<=1000):((acc++pre.flatMap f).map g).length<=sizeLine:=by
 have:(pre.flatMap f).length<=pre.length:=by
  clear b;induction pre with
  |nil=>exact Ni _
  |cons d i c=>rw[NO,Nm,N4];have:=a d;exact mf (No this c) (Nd (OJ _ _))
 have:=Nl;rw[Nb,Nm];omega
end
theorem Le.gY{R:Addr}{S:aa}(a:z=Jm):Le ((R,.list z)::S) ((R,.list Jm)::S):=a▸Le.refl _
theorem bd{b e d:List D}{a:D}(c:b=e++a::d):a∈b:=by rw[c];exact NA _ (.head _)
noncomputable def Pt{a:Type}(c:a)(e:ab)(S:aa):a->ab->aa->Prop:=fun d f b=>d=c/\f=e/\b=S
theorem HQ{a:D}{S:aa}:Pt a t S a t S:=⟨rfl,rfl,rfl⟩
theorem pB{d:Sem D}{R:Heap->D->I1->Prop}{S:aa}{b:I1}{c:I1->ab->aa->Prop}(f:GK e d R t S (Pt b t S))(g:c b t S):GK e d R t S c:=
 f.mono fun x x x h=>by refine df h fun a=>?_;exact a.1▸a.2▸a.3▸g
theorem x3{d:Sem D}{R:Heap->D->I1->Prop}{S:aa}(c:I1)(f:ab)(b:aa){a:I1->ab->aa->Prop}(j:GK e d R t S (Pt c f b))(k:a c f b):GK e d R t S a:=
 j.mono fun x x x l=>by obtain⟨g,h,i⟩:=l;exact g▸h▸i▸k
noncomputable abbrev eW(c:List GG)(d:Str)(b a:GG):GG:=.tup [.tup c,.str d,b,a]
theorem fH(a:Int):aQ (q+2) (ap a):=NT.mpr ⟨trivial,NP.mpr trivial⟩
theorem vK(a:ap k=ap IY):k=IY:=by cases a;rfl
theorem j4(a b:Int):GG.bf (ap a) (ap b)=decide (a=b):=gZ vK a b
section
variable{S:aa}
theorem rj(P:Pg):GN 1 (.ref 432) [.tup z,ap k,ap IY] S (fun f e=>∃c,f=.ref c/\e=(c,.list (if k=IY then[]else[eW z "turned" (ap k) (ap IY)]))::S):=by
 refine aS ["path","one","other","rows"] [some (.tup z),some (ap k),some (ap IY),none] P.T P.jX nR rfl fun h j g i d=>?_;exists aH ?_;refine ee g (fH k) (fH IY) ?_;rw[j4];exists 0;refine⟨fun b=>?_,fun b=>?_⟩
 ·exists 0;intro a;exists 0;exact d.r ⟨a,rfl,by rw[if_pos (of_decide_eq_true b)]⟩ (Le.refl _)
 ·exists 0;exists 1;intro a;exists 0;exact d.r ⟨a,rfl,by rw[if_neg (of_decide_eq_false b)]⟩ (Le.refl _)
noncomputable def Hy(a:Str×Int):ae×GG:=(.s a.1,ap a.2)
noncomputable abbrev HO(a:Nat)(b:List (Str×Int)):GL:=.dict a (b.map Hy)
noncomputable def ax(c:List (Str×Int))(a:Str):Bool:=c.any fun b=>decide (b.1=a)
theorem bw:ax b h=true↔h∈b.map (fun x=>x.1):=by
 simp only[ax,N8,decide_eq_true_eq,Na]
theorem hy:ay (b.map Hy) (.s h)=if ax b h then some (ap (av b h))else none:=by
 induction b with
 |nil=>rfl
 |cons e b d=>
  obtain⟨c,f⟩:=e;unfold ay at d⊢;rw[Nt,Oy];by_cases a:c=h
  ·subst a;simp[Hy,ax,av]
  ·rw[(by simp[Hy,a]:decide ((Hy (c,f)).1=ae.s h)=false)];simp only[ax,OM,a,decide_false,P0,av,NF,(by simpa using NZ a:(h==c)=false)];exact d
noncomputable def br(a c:List (Str×Int)):List Str:=cD (a.map (fun x=>x.1)++(c.filter fun b=> !ax a b.1).map (fun x=>x.1))
noncomputable def e0(d:List GG)(b c:List (Str×Int))(a:Str):List GG:=
 if ax c a=false then[eW (d++[.str a]) "gone" (ap (av b a)) .none]else if ax b a=false then[eW (d++[.str a]) "added" .none (ap (av c a))]
 else if av b a=av c a then[]else[eW (d++[.str a]) "turned" (ap (av b a)) (ap (av c a))]
noncomputable def jS(c:List GG)(a b:List (Str×Int)):List GG:=(br a b).flatMap (e0 c a b)
theorem hK:(ay (b.map Hy) (.s h)).isSome=ax b h:=by rw[hy];cases ax b h<;>rfl
theorem hB(a b:List (Str×Int)):(br a b).length<=a.length+b.length:=by
 rw[(cO _).length_eq,Nm,Nb,Nb];have:=Ov (fun c:Str×Int=> !ax a c.1) b;exact Om this _
theorem vt(b:List GG)(c d:List (Str×Int))(a:Str):(e0 b c d a).length<=1:=by
 unfold e0;repeat (first|split|simp)
theorem sO(b:D->List GG)(c:∀x,(b x).length<=1):∀a:List D,(a.flatMap b).length<=a.length
 |[]=>by simp
 |x::a=>by rw[NO,Nm,N4];have d:=c x;have e:=sO b c a;exact mf (No d e) (Nd (OJ _ _))
theorem ahi(a:ax L h=false):e0 z b L h=[eW (z++[.str h]) "gone" (ap (av b h)) .none]:=if_pos a
theorem oA(a:Jh=true):¬Jh=false:=by rw[a];exact Bool.noConfusion
theorem ahh(a:ax L h=true)(c:ax b h=false):e0 z b L h=[eW (z++[.str h]) "added" .none (ap (av L h))]:=(if_neg (oA a)).trans (if_pos c)
theorem vs(a:ax L h=true)(c:ax b h=true):e0 z b L h=if av b h=av L h then[]else[eW (z++[.str h]) "turned" (ap (av b h)) (ap (av L h))]:=(if_neg (oA a)).trans (if_neg (oA c))
theorem kh(a:ax b h=true):ay (b.map Hy) (.s h)=some (ap (av b h)):=by rw[hy,a];rfl
theorem Az(a:h∈br b L)(c:ax L h=false):ax b h=true:=by
 rcases Nu.mp ((cO _).mem_iff.mp a)with a|a
 ·exact bw.mpr a
 ·refine ah (Na.mp a) fun e d=>?_;obtain rfl:=d.2;replace c:=(bw.mpr (Na.mpr ⟨e,(NL.mp d.1).1,rfl⟩))▸c;cases c
noncomputable abbrev sj:List Str:=["path","one","other","rows","key"]
theorem F9:aD [Ji,Jk,Jt,Jx,none] [Ji,Jk,Jt,Jx,JC]:=.same (.same (.same (.same (.drop .nil))))
theorem zm(P:Pg)(m:(d,HO q b)∈S)(n:(H,HO v L)∈S)(J:z.length<50)(o:b.length<30)(p:L.length<30)(a:∀i,M (.ref i) ((i,.list (jS z b L))::S)):GN 2 (.ref 418) [.tup z,.ref d,.ref H] S M:=by
 have G:=hB b L;have A:((L.filter fun a=> !ax b a.1).map (fun x=>x.1)).length<30:=by rw[Nb];exact NV (Ov ..) p
 have B:(b.map (fun x=>x.1)).length<30:=by rw[Nb];exact o
 have KX:z.length+1<=sizeLine:=bC (aj J rfl);refine aS sj [some (.tup z),some (.ref d),some (.ref H),none,none] P.T P.rL ac9 rfl fun U j r V D=>?_;exists aH ?_;intro R;exists 0;refine fd P.GY (ks:=b.map Hy) (ac m) (bC (by rw[Nb];exact aj (Nh o) rfl)) fun Z=>?_;refine au (show(b.map Hy).map (fun c=>c.1.GP)=(b.map (fun x=>x.1)).map GG.str by rw[Nf,Nf];rfl) ?_;exists 0;exists cy ["key","one"] j (by exists 4) (by exists 4) ?_;refine fb L (fun c=>(Hy c).1.GP) (fun c=> !ax b c.1) (fun c=>.str c.1) [none,some (.ref d)] (m9 (ep:=v) r.GR P.GY Hy) (bC (aj (Nh p) rfl)) (ac (ac n)) (fun a g=>ac g) (bm.start (by walk_at "ncaps") j.GO) (fun s KW i X Y=>?_) fun KS=>?_
 ·refine b2 ["key","one"] ["key"] [] ["one"] j r (by exists 4) (by exists 4) fun E KV=>?_;refine(?_:bn _ _ (GG.str s.1) _ _ _ _);refine aZ E (by exists 2) (by walk_at "nput") ?_;exists fW ?_;exists⟨by rw[hK],fun w=>?_,fun w=>⟨fun s T=>aD.val (by exists 3) _ s T,Le.refl _⟩⟩;exact cp rfl (by exists 3) (Le.refl _)
 refine dY (show((L.filter fun a=> !ax b a.1).map (fun x=>x.1)).map GG.str=(L.filter fun a=> !ax b a.1).map fun c=>GG.str c.1 from Nf ..) ?_;refine eA (by exists 2) (by exists 2) (by rw[Nb,Nb (as:=(L.filter fun a=> !ax b a.1).map (fun x=>x.1))];exact bC (aj (No (Nh B) (Nh A)) rfl)) fun KT=>?_;exists dY (Ng ..) ?_;refine rk (out:=(br b L).map .str) (.inl am) (cg.str _) (by rw[Nb,Nm];exact aj (Np (No (Nh B) (Nh A)) 1) rfl) fun x=>?_;refine dv r.GR (br b L) GG.str (fun w w=>[some (.tup z),some (.ref d),some (.ref H),some (.ref R),none]) (fun h w=>(x,.list ((br b L).map .str))::(R,.list (h.flatMap (e0 z b L)))::S) (fun w w=>True) () (aD.refl _) (Le.take (Le.skip (Le.skip (Le.skip (Le.refl _))))) trivial (fun w w=>am) ?_ ?_
 ·intro h f KU _ u _ C N;have I:(h.flatMap (e0 z b L)).length<=100:=by
   have O:=sO _ (vt z b L) h;have Q:=cc u;exact mf O (aj (mf (Nq Q) (mf G (No (Nh o) (Nh p)))) rfl)
  have l:∀{y t},e0 z b L f=y->Le ((x,.list ((br b L).map .str))::(R,.list (h.flatMap (e0 z b L)++y))::S) t->C .next (an sj [some (.tup z),some (.ref d),some (.ref H),some (.ref R),some (.str f)]) t:=fun g f=>N.n () trivial F9 (by rw[g1,g];exact f);exists aZ j (by exists 2) (by walk_at "nput") ?_;refine au hK ?_;cases e:ax L f with
  |false=>
   exists bN rfl ?_;exists cu ((fun w=>ac (ac m)) _) (kh (Az (bd u) e)) ?_;exact l (ahi e) (Le.refl _)
  |true=>
   exists bx rfl ?_;refine au hK ?_;cases k:ax b f with
   |false=>
    exists bN rfl ?_;exists cu ((fun w=>ac (ac n)) _) (kh e) ?_;exact l (ahh e k) (Le.refl _)
   |true=>
    exists bx rfl ?_;exists cu ((fun w=>ac (ac m)) _) (kh k) ?_;exists cu ((fun w=>ac (ac n)) _) (kh e) ?_;exists(rj P).go (by decide) (gu fun i=>?_);refine mh (by walk_at "nupd") am (by have g:=vt z b L f;rw[vs e k]at g;exact aj (Np (No I g) 1) rfl) ?_;exists 0;exact l (vs e k) (Le.skip (Le.refl _))
 ·intro _ _;exists 0;exact D.r (a R) (Le.skip (Le.refl _))
end
theorem agc{a b:Str×Int}(c:fr a=fr b):a=b:=by
 obtain⟨f,d⟩:=a;obtain⟨g,e⟩:=b;cases c;rfl
theorem Bc(a b:List (Str×Int)):GG.bf (bz a) (bz b)=decide (a=b):=gZ (fun c=>kE agc (Oz (GG.tup.inj c)).2) a b
theorem Bb(a b:List Int):GG.bf (dL a) (dL b)=decide (a=b):=gZ (fun c=>kE vK (Oz (GG.tup.inj c)).2) a b
theorem rz(a:Str×Int):aQ (q+3) (fr a):=NT.mpr ⟨trivial,NP.mpr (fH a.2)⟩
theorem hu{f:D->GG}{d:Nat}(b:∀a,aQ d (f a))(c:List D):∀e∈c.map f,aQ d e:=OC.mpr fun a z=>b a
theorem mv(a:List (Str×Int)):aQ 20 (bz a):=NT.mpr ⟨trivial,hu (fun b=>rz b) a⟩
theorem mu(a:List Int):aQ 20 (dL a):=NT.mpr ⟨trivial,hu (fun b=>fH b) a⟩
theorem EO{a:Str×Int}(e:(b.map (fun x=>x.1)).Nodup)(g:b=L++a::Je):a6 (L.map Hy) (.s a.1) (ap a.2)=(L++[a]).map Hy:=by
 rw[er]
 ·simp[Hy]
 ·subst g;rw[Ng,Nt]at e;intro d;rw[Nf]at d;refine ah (Na.mp d) fun c f=>?_;exact(NK.mp e).2.2 c.1 (Na.mpr ⟨c,f.1,rfl⟩) a.1 (.head _) (by injection f.2:c.1=a.1)
section
variable{S:aa}
theorem mn(P:Pg)(p:(b.map (fun x=>x.1)).Nodup)(g:b.length<1000):GN 1 (.ref 425) [bz b] S (fun k j=>∃a d,k=.ref a/\j=(a,HO d b)::S):=by
 refine aS ["shape","found","key","part"] [some (bz b),none,none,none] P.T P.se aeb rfl fun q n i r m=>?_;exists aH ?_;exists eJ fun a d=>?_;refine c6 (lo:=some 1) (hi:=none) (gD (by rw[Nb];exact mf (aj (c:=16777216) g rfl) (Nd Nl.symm)) ?_);refine sV i.GR b fr rfl (fun x x=>[some (bz b),some (.ref a),none,none]) (fun h e=>(a,HO e h)::S) (fun x x=>True) d (aD.refl _) (Le.refl _) trivial ?_ ?_
 ·intro h u v t f _ s o;exists eg n i (by walk_at "nputs") ?_;refine hh (by walk_at "nupd") (cE (by have:=cc f;exact aj (mf (Nq this) (Nh g)) rfl)) fun l=>au (EO p f) ?_;exists 0;exact o.n l trivial (by exists 3) (Le.refl _)
 ·intro e _;exists 0;exact m.r ⟨a,e,rfl,rfl⟩ (Le.refl _)
noncomputable def jb(c:List GG)(a b:List (Str×Int)):List GG:=if a=b then[]else jS c a b
theorem zV(P:Pg)(j:z.length<50)(k:(b.map (fun x=>x.1)).Nodup)(l:(L.map (fun x=>x.1)).Nodup)(e:b.length<30)(f:L.length<30):
  GN 3 (.ref 432) [.tup z,bz b,bz L] S (fun i g=>∃a,i=.ref a/\g=(a,.list (jb z b L))::S):=by
 refine aS ["path","one","other","rows"] [some (.tup z),some (bz b),some (bz L),none] P.T P.jX nR rfl fun n t m o d=>?_;exists aH ?_;refine ee m (mv b) (mv L) ?_;rw[Bc];exists 0;refine⟨fun c=>?_,fun c=>?_⟩
 ·exists 0;intro h;exists 0;exact d.r ⟨h,rfl,by unfold jb;rw[if_pos (of_decide_eq_true c)]⟩ (Le.refl _)
 ·exists 1;exists(mn P k (aj e rfl)).go (NQ rfl) (gv fun p r=>?_);exists(mn P l (aj f rfl)).go (NQ rfl) (gv fun q s=>?_);exists GN.lv (zm P (ac am) am j e f fun a=>?_);exact d.r ⟨a,rfl,by unfold jb;rw[if_neg (of_decide_eq_false c)]⟩ (by walk_at "nle")
end
set_option genInjectivity true in
inductive ak where
 |obj (n:Int)
 |cd
 |key (x:Str)
 |idx (i:Int)
 deriving DecidableEq
variable{JB Kg:List ak}{J3:List ak×List ak}{Kp Kz:List (List ak)}{Kv:List (List ak×List ak)}
noncomputable def ak.GP:ak->GG
 |.obj b=>.tup [.str "obj",.int b]
 |.cd=>.tup [.str "trailer"]
 |.key c=>.str c
 |.idx a=>.int a
noncomputable abbrev bT(a:List ak):GG:=.tup (a.map ak.GP)
structure Rw where
 path:List ak
 way:Str
 old:GG
 new:GG
noncomputable abbrev Rw.GP(a:Rw):GG:=eW (a.path.map ak.GP) a.way a.old a.new
noncomputable def hO(a:List ak):Bool:=match a.getLast? with|some (.idx _)=>true|_=>false
noncomputable def tg:ak->Bool
 |.idx _=>true
 |_=>false
theorem Fj(b:List ak)(a:ak):hO (b++[a])=tg a:=by
 unfold hO;rw[List.getLast?_append];cases a<;>rfl
noncomputable def bl(a:Rw):List ak:=if hO a.path&&decide (a.way≠"turned")then a.path.dropLast else a.path
section
variable{S:aa}
theorem zF(P:Pg):GN 1 (.ref 451) [.bool true,.str h] S (fun b a=>b=.none/\a=S):=by
 refine aS ["is_right","what"] [some (.bool true),some (.str h)] P.T P.sb ad8 rfl fun d f g e c=>?_;refine aH ?_;exists 1;exact c.n ⟨rfl,rfl⟩ (Le.refl _)
theorem sy(a:List ak):GG.bf (bT a) (.tup [])=a.isEmpty:=by
 cases a with
 |nil=>exact g0 _
 |cons b a=>exact j3 nofun
theorem z9(a:ak):aQ (q+2) a.GP:=by
 cases a with
 |obj c=>exact NT.mpr ⟨trivial,NP.mpr trivial⟩
 |cd=>exact NP.mpr trivial
 |key a=>trivial
 |idx b=>trivial
theorem eo(a:List ak):aQ (q+3) (bT a):=hu (fun b=>z9 b) a
theorem oC{a:Rw}(b:hO a.path=false):bl a=a.path:=by unfold bl;rw[b];rfl
theorem v7{a:Rw}(b:hO a.path=true)(c:decide (a.way≠"turned")=Jh):bl a=if Jh then a.path.dropLast else a.path:=by unfold bl;rw[b,c];rfl
noncomputable abbrev gM(a:Rw):GG:=bT (bl a)
theorem akc{R:Addr}{S:aa}{a:List Rw}{b:Rw}(c:bl b=JB):Le ((R,.list ((a++[b]).map gM))::S) ((R,.list (a.map gM++[bT JB]))::S):=by rw[Ng,<-c];exact Le.refl _
noncomputable abbrev v5:List Str:=["rows","found","path","way","old","new"]
theorem ro(P:Pg){k:List Rw}(y:(d,GL.list (k.map Rw.GP))∈S)(C:k.length<1000)(A:∀c∈k,∃e f,c.path=e++[f]/\e.length<50)(e:∀o,M (.ref o) ((o,.list (k.map gM))::S)):GN 1 (.ref 537) [.ref d] S M:=by
 refine aS v5 [some (.ref d),none,none,none,none,none] P.T P.so aei rfl fun H v n I u=>?_;exists aH ?_;intro R;exists 0;refine dv n.GR k Rw.GP (fun w w=>[some (.ref d),some (.ref R),none,none,none,none]) (fun l w=>(R,.list (l.map gM))::S) (fun w w=>True) () (aD.refl _) (Le.refl _) trivial (fun w w=>ac y) ?_ ?_
 ·intro l c J _ p _ t E;have L:(l.map gM).length<=sizeLine:=cW (by have:=cc p;exact aj (mf (Nq this) (Nh C)) rfl);refine dN (A c (bd p)) fun e f g=>?_;have z:(c.path.map ak.GP)[e.length]? =some f.GP:=by rw[g.1];simp
  have m:(c.path.map ak.GP).length=e.length+1:=by rw[g.1];simp
  have i:hO c.path=tg f:=by rw[g.1];exact Fj e f
  have h:∀{r:List ak},bl c=r->t .next (an v5 [some (.ref d),some (.ref R),some (bT c.path),some (.str c.way),some c.old,some c.new]) ((R,.list (l.map gM++[bT r]))::S):=fun x=>E.n () trivial (by exists 3) (akc x);exists eg v n (by walk_at "nputs") ?_;exists kT n (eo c.path) (fun s B=>nomatch B) (au (sy c.path) ?_);refine bN (by rw[g.1];simp) ?_;exists 0;refine uU (j:=e.length) (by rw[m];unfold seqIndex?;simp;constructor<;>omega) z ?_;exists 0;cases f with
  |obj G=>
   refine(?_:GN _ _ [.tup [.str "obj",.int G],_] _ _);exists 1;exact h (oC i)
  |cd=>
   refine(?_:GN _ _ [.tup [.str "trailer"],_] _ _);exists 1;exact h (oC i)
  |key s=>
   refine(?_:GN _ _ [.str s,_] _ _);exists 1;exact h (oC i)
  |idx D=>
   exists(?_:GN _ _ [.int D,_] _ _);exists bN rfl ?_;cases q:decide (c.way≠"turned")with
   |true=>
    refine bN rfl ?_;exists 1;refine c6 (lo:=none) (hi:=some (-1)) (h0 (a:=0) (b:=e.length) (by rw[m];exact wX (e.length+1) (mf (NQ rfl:1<=1) (N3 _ _))) (by rw[m];exact bC (aj g.2 rfl)) ?_);refine au (show((c.path.map ak.GP).drop 0).take (e.length-0)=c.path.dropLast.map ak.GP by rw[g.1];simp) ?_;exists 0;exact h (v7 i q)
   |false=>
    refine bx rfl ?_;exists 1;exact h (v7 i q)
 ·intro _ _;exists 0;exact u.r (e R) (Le.refl _)
end
theorem yg{a b:ak}(c:a.GP=b.GP):a=b:=by
 cases a<;>cases b<;>cases c<;>rfl
theorem n2(a:bT JB=bT Kg):JB=Kg:=kE yg (GG.tup.inj a)
theorem mM(a b:List ak):GG.bf (bT a) (bT b)=decide (a=b):=gZ n2 a b
noncomputable abbrev bO(a:List ak×List ak):GG:=.tup [bT a.1,bT a.2]
theorem agd{b:List ak×List ak}(a:bO J3=bO b):J3=b:=
 Prod.ext (n2 (Oz (GG.tup.inj a)).1) (n2 (Oz (Oz (GG.tup.inj a)).2).1)
theorem lS{f:D->GG}(h:∀{d b},f d=f b->d=b)(c:List D)(a:D)[Decidable (a∈c)]:((c.map f).any fun b=>GG.bf b (f a))=decide (a∈c):=by
 rw[PN,P6,N8];exact⟨fun i=>by refine ah i fun d e=>?_;exact decide_eq_true (h (sA e.2)▸e.1),fun g=>⟨a,of_decide_eq_true g,g0 _⟩⟩
theorem pk(a:List (List ak×List ak))(b:List ak×List ak):((a.map bO).any fun c=>GG.bf c (bO b))=decide (b∈a):=lS agd a b
theorem ms(a:List ak×List ak):aQ 20 (bO a):=NT.mpr ⟨eo _,NP.mpr (eo _)⟩
noncomputable def bY(a:List ak)(c:List (List ak×List ak))(b:List ak):List (List ak×List ak):=
 if a.take (min a.length b.length)=b.take (min a.length b.length)/\(a,b)∉c then c++[(a,b)]else c
noncomputable def eM(b c:List (List ak)):List (List ak×List ak):=b.foldl (fun a d=>c.foldl (bY d) a) []
theorem y0(b:List ak)(a:List (List ak×List ak))(c:List ak):(bY b a c).length<=a.length+1:=by unfold bY;split<;>simp
theorem sS{d:I1->D->I1}{sz:I1->Nat}(e:∀a c,sz (d a c)<=sz a+q)(b:List D):∀a,sz (b.foldl d a)<=sz a+b.length*q:=by
 induction b with
 |nil=>exact fun a=>Nv _ _
 |cons c b f=>
  intro a;rw[OH,N4,Nat.succ_mul,OJ (b.length*q),<-Pp];exact mf (f _) (Np (e a c) _)
theorem pP(c:List ak)(a:List (List ak))(b:List (List ak×List ak)):(a.foldl (bY c) b).length<=b.length+a.length:=
 Nat.mul_one a.length▸sS (sz:=List.length) (y0 c) a b
theorem y4(c b:List (List ak))(a:List (List ak×List ak)):(b.foldl (fun a d=>c.foldl (bY d) a) a).length<=a.length+b.length*c.length:=
 sS (sz:=List.length) (fun e d=>pP d c e) b a
theorem oz(a:List ak)(c:Nat):((a.map ak.GP).drop 0).take (min c (a.map ak.GP).length-0)=(a.take c).map ak.GP:=by
 rw[Rs,Q4,Nb,Qs];by_cases b:c<=a.length
 ·rw[QO b]
 ·rw[Rt (Nq (R7 b)),OP (by simp),OP (by simp;exact Nq (R7 b))]
theorem ak1(a:Rw):(bl a).length<=a.path.length:=by unfold bl;split<;>simp
theorem y1(a:JB.take (min JB.length Kg.length)=Kg.take (min JB.length Kg.length))(b:(JB,Kg)∉Kv):bY JB Kv Kg=Kv++[(JB,Kg)]:=if_pos ⟨a,b⟩
theorem y2(a:(JB,Kg)∈Kv):bY JB Kv Kg=Kv:=if_neg fun b=>b.2 a
theorem y3(a:¬JB.take (min JB.length Kg.length)=Kg.take (min JB.length Kg.length)):bY JB Kv Kg=Kv:=if_neg fun b=>a b.1
theorem sR{a:I1->D->I1}{b:I1}{c:List D}{d:D}:(c++[d]).foldl a b=a (c.foldl a b) d:=by rw[R8];rfl
theorem v9{d:List Rw}(i:∀a∈d,∃b e,a.path=b++[e]/\b.length<50):∀c∈d.map bl,(c.map ak.GP).length<=sizeLine:=fun c h=>by
 refine ah (Na.mp h) fun a f=>?_;obtain rfl:=f.2;refine dN (i a f.1) fun b e g=>?_;have:=ak1 a;rw[g.1,Nm,P7]at this;rw[Nb];exact bC (aj (mf this g.2) rfl)
theorem rC(b:List (List ak×List ak)):∀a∈b.map bO,aQ 20 a:=fun a c=>by obtain⟨d,_,rfl⟩:=Na.mp c;exact ms d
theorem GC(a b:List ak):min ((a.map ak.GP).length:Int) ((b.map ak.GP).length:Int)=((min a.length b.length:Nat):Int):=by rw[Nb,Nb];exact uq _ _
theorem sQ(a:(!Jh)=true):Jh=false:=by cases Jh;rfl;exact nomatch a
section
variable{S:aa}
noncomputable abbrev pQ:List Str:=["one","other","found","left","right","least"]
theorem me(P:Pg){rs ts:List Rw}(n:(d,GL.list (rs.map Rw.GP))∈S)(r:(H,GL.list (ts.map Rw.GP))∈S)(D:rs.length<50)(E:ts.length<50)(B:∀c∈rs,∃h u,c.path=h++[u]/\h.length<50)(C:∀c∈ts,∃h u,c.path=h++[u]/\h.length<50)
(h:∀i,M (.ref i) ((i,.list ((eM (rs.map bl) (ts.map bl)).map bO))::S)):GN 2 (.ref 544) [.ref d,.ref H] S M:=by
 have L:=v9 B;have N:=v9 C;have O:(rs.map bl).length<50:=by rw[Nb];exact D
 have T:(ts.map bl).length<50:=by rw[Nb];exact E
 have KV:=Nl;refine aS pQ [some (.ref d),some (.ref H),none,none,none,none] P.T P.rG ac5 rfl fun Y A o Z J=>?_;exists aH ?_;intro F;exists 0;refine GN.lv (ro P (ac n) (aj D rfl) B fun p=>?_);refine dY (show(rs.map bl).map bT=rs.map gM from Nf ..) ?_;have U:∀(t c:Addr×GL){M:GG->aa->Prop},(∀i,M (.ref i) ((i,.list ((ts.map bl).map bT))::t::c::S))->GN 1 (.ref 537) [.ref H] (t::c::S) M:=fun t c{M}h=>ro P (ac (ac r)) (aj E rfl) C fun i=>by rw[show ts.map gM=(ts.map bl).map bT by rw[Nf];rfl];exact h i
 generalize rs.map bl=l at*;generalize ts.map bl=f at*;exists 0;refine dv o.GR l bT (fun w w=>[some (.ref d),some (.ref H),some (.ref F),none,none,none]) (fun g w=>(p,.list (l.map bT))::(F,.list ((g.foldl (fun e b=>f.foldl (bY b) e) []).map bO))::S) (fun w w=>True) () (aD.refl _) (Le.refl _) trivial (fun w w=>am) ?_ ?_
 ·intro g b KU _ y _ x s;have V:=L b (bd y);have KS:(g.foldl (fun e b=>f.foldl (bY b) e) []).length<=2500:=by
   have n:=y4 f g [];have r:=Q5 (Nq (OG (cc y) O)) (Nq T);rw[Qp,R9]at n;exact mf n r
  exists aZ A (by exists 2) (by walk_at "nput") ?_;refine GN.lv (U _ _ fun v=>?_);refine dv o.GR f bT (fun w w=>[some (.ref d),some (.ref H),some (.ref F),some (bT b),none,none]) (fun j w=>(v,.list (f.map bT))::(p,.list (l.map bT))::(F,.list ((j.foldl (bY b) (g.foldl (fun e b=>f.foldl (bY b) e) [])).map bO))::S) (fun w w=>True) () (aD.refl _) (Le.refl _) trivial (fun w w=>am) ?_ ?_
  ·intro j c KT _ z _ x s;have X:=N c (bd z);have Q:((j.foldl (bY b) (g.foldl (fun e b=>f.foldl (bY b) e) [])).map bO).length<=sizeLine:=by
    have:=pP b j (g.foldl (fun e b=>f.foldl (bY b) e) []);have:=cc z;rw[Nb];omega
   have m:∀{G},bY b (j.foldl (bY b) (g.foldl (fun e b=>f.foldl (bY b) e) [])) c=G->x .next (an pQ [some (.ref d),some (.ref H),some (.ref F),some (bT b),some (bT c),some (.int (min b.length c.length:Nat))]) ((v,.list (f.map bT))::(p,.list (l.map bT))::(F,.list (G.map bO))::S):=fun k=>s.n () trivial (by exists 3) (by rw[sR,k];exact Le.refl _);generalize j.foldl (bY b) (g.foldl (fun e b=>f.foldl (bY b) e) [])=I at Q m⊢;exists aZ A (by exists 2) (by walk_at "nput") ?_;exists au (GC b c) ?_;exists c6 (lo:=none) (hi:=some ((min b.length c.length:Nat):Int)) (h0 (jx _ _) V (au (oz ..) ?_));refine c6 (lo:=none) (hi:=some ((min b.length c.length:Nat):Int)) (h0 (jx _ _) X (au (oz ..) ?_));exists ee o (eo _) (eo _) (au (mM ..) ?_);refine⟨fun k=>?_,fun k=>?_⟩
   ·exists 0;exists nY (a:=bO (b,c)) o (.inl (ac (ac am))) (rC I) (ms (b,c)) (au (pk ..) ?_);refine⟨fun q=>?_,fun q=>?_⟩
    ·exists 1;have:=m (y1 (of_decide_eq_true k) (of_decide_eq_false (sQ q)));rw[Ng]at this;exact this
    ·exists 1;exact m (y2 (by simpa using q))
   ·exists 1;exact m (y3 (of_decide_eq_false k))
  ·intro _ _;exists 0;exact s.n () trivial (by exists 3) (Le.skip (by rw[sR];exact Le.refl _))
 ·intro _ _;exists 0;exact J.r (h F) (Le.skip (Le.refl _))
end
theorem EM{a:Str×Int}(e:(b.map (fun x=>x.1)).Nodup)(g:b=L++a::Je):a6 (L.map Hf) (.s a.1) (.int a.2)=(L++[a]).map Hf:=by
 rw[er]
 ·simp[Hf]
 ·subst g;rw[Ng,Nt]at e;intro d;rw[Nf]at d;refine ah (Na.mp d) fun c f=>?_;exact(NK.mp e).2.2 c.1 (Na.mpr ⟨c,f.1,rfl⟩) a.1 (.head _) (by injection f.2:c.1=a.1)
section
variable{S:aa}
theorem rq(P:Pg):GN 1 (.ref 382) [ap k] S (fun b a=>b=.int k/\a=S):=by
 refine aS ["shape","kind"] [some (ap k),none] P.T P.j1 nU rfl fun d f g e c=>?_;refine aH ?_;exists 1;exact c.r ⟨rfl,rfl⟩ (Le.refl _)
theorem z1(P:Pg)(d:j.length<1000):GN 2 (.ref 382) [dL j] S (fun g f=>∃a,g=.ref a/\f=(a,HB j)::S):=by
 refine aS ["shape","kind"] [some (dL j),none] P.T P.j1 nU rfl fun l b e m h=>?_;refine aH ?_;exists 1;exists cy ["part"] b (by exists 4) (by exists 4) ?_;refine c6 (lo:=some 1) (hi:=none) (gD (by rw[Nb];exact mf (aj (c:=16777216) d rfl) (Nd Nl.symm)) ?_);refine d8 j ap GG.int [none] (hL e.GR) (mf (aj (c:=16777216) (Nh d) rfl) (Nd Nl.symm)) trivial (fun p k=>k) (bm.start (by walk_at "ncaps") b.GO) (fun r s a n o=>?_) fun a=>?_
 ·refine b2 ["part"] ["part"] ["value_of"] [] b e (by exists 4) (by exists 4) fun i q=>?_;exists aZ i (by exists 2) (by walk_at "nput") ?_;refine(rq P).go (Ni _) (bt ?_);exact cp rfl (by exists 3) (by walk_at "nle")
 ·exists 0;exact h.r ⟨a,rfl,rfl⟩ (by walk_at "nle")
theorem zl(P:Pg)(q:(b.map (fun x=>x.1)).Nodup)(i:b.length<1000):GN 2 (.ref 389) [bz b] S (fun l d=>∃a e,l=.ref a/\d=(a,Hq e b)::S):=by
 have r:=Nl;refine aS ["shape","found","key","part"] [some (bz b),none,none,none] P.T P.rK ac8 rfl fun s n k t m=>?_;exists aH ?_;exists eJ fun a e=>?_;refine c6 (lo:=some 1) (hi:=none) (gD (by rw[Nb];exact mf (aj (c:=16777216) i rfl) (Nd Nl.symm)) ?_);refine B4 k.GR b fr (fun j f d=>∃e,f=[some (bz b),some (.ref a),none,none]/\d=(a,Hq e j)::S) rfl ?_ ?_ ?_
 ·exact⟨_,_,fun A z o=>o,Le.refl _,e,rfl,rfl⟩
 ·rintro j x y f d g ⟨h,rfl,rfl⟩;refine eg n k (by walk_at "nputs") ?_;exists F3 fun u p=>?_;exists(rq P).go (Ni _) (bt ?_);refine hh (by walk_at "nupd") (by rw[Nb];have:=congrArg List.length g;rw[Nm]at this;exact mf (aj (mf (mf (Nv _ _) (Nd this.symm)) (Nh i)) rfl) (Nd r.symm)) fun v=>?_;rw[EM q g];exists 0;exact p.n ⟨_,rfl,rfl⟩ (by exists 3) (by walk_at "nle")
 ·rintro f d ⟨h,rfl,rfl⟩;exists 0;exact m.r ⟨a,h,rfl,rfl⟩ (by walk_at "nle")
theorem rp(P:Pg)(h:(b.map (fun x=>x.1)).Nodup)(g:b.length<1000):GN 3 (.ref 382) [bz b] S (fun e d=>∃a c,e=.ref a/\d=(a,Hq c b)::S):=by
 have m:=Nl;refine aS ["shape","kind"] [some (bz b),none] P.T P.j1 nU rfl fun i k l j f=>?_;refine aH ?_;exists 1;exists(zl P h g).go (Ni _) (gv fun a c=>?_);exact f.r ⟨a,c,rfl,rfl⟩ (by walk_at "nle")
end
section
variable{K:List Str}{S:aa}
theorem mb{n:Nat}(x:e.A.handled=none)(q:n<100000)(i:Nat->List (Option GG)->List GG->aa->Prop)
(start:∃g k,(f6 KR l g t)/\Le k V/\i 0 g [] k)
(z:∀d f a S b h,d<n->i d f a S->a.length<=sizeLine/\
 bn (aR e KR h) (assign o (aR e KR h).env) (.int (d:Nat)) UR (an l f) ((b,.list a)::S) fun w B k=>e8 (aR e KR h) IS B k fun r s p=>
  (r=true->GK (aR e KR h) (eval X (aR e KR h).env) VR s p fun A C u=>∃g j,(b6 l g C)/\Le ((b,.list a)::j) u/\i (d+1) g (a++[A]) j)/\
  (r=false->∃g j,(b6 l g s)/\Le ((b,.list a)::j) p/\i (d+1) g a j))
(v:∀f a S b,i n f a S->Ki b ((b,.list a)::S)):dD e l KR o IS X Ki (.c4 0 n 1) t V:=by
 refine⟨_,_,_,to x (vT q) vr,by exact mf (aj (c:=16777216) (Nh q) rfl) (Nd Nl.symm),trivial,i,start,fun w w w w w w w=>trivial,fun d f a S b h y m=>?_,fun f a S b m=>v f a S b m⟩;rw[(by omega:(0:Int)+(d:Int)*1=(d:Int))];exact z d f a S b h y m
theorem ma(y:e.A.handled=none)(r:q<100000)(h:Nat->GG)(f:List (Option GG))
(start:f6 KR l f t)
(B:∀(c:Nat)s a d,c<q->bn (aR e KR d) (assign o (aR e KR d).env) (.int c) UR (an l f) ((a,.list s)::V) fun w n g=>
 GK (aR e KR d) (eval X (aR e KR d).env) VR n g fun j E u=>j=h c/\(b6 l f E)/\Le ((a,.list s)::V) u)
(v:∀a,Ki a ((a,.list ((List.range q).map h))::V)):dD e l KR o [] X Ki (.c4 0 q 1) t V:=by
 refine mb y r (fun c i m S=>i=f/\S=V/\m=(List.range c).map h) ⟨f,V,start,Le.refl _,rfl,rfl,rfl⟩ ?_ ?_
 ·intro c i m S a d p b;refine cv b.1 ?_;refine cv b.2.1 ?_;refine cv b.2.2 ?_;clear b;refine⟨by rw[Nb,NS];exact mf (aj (mf (Nq p) (Nh r)) rfl) (Nd Nl.symm),fun H I A z=>(B c _ a d p).run A z fun w G n g w w j C b=>⟨(),n,g,trivial,j,C,fun w=>b.mono fun w w w D=>by refine df D fun k=>?_;exact⟨_,_,k.2,k.3,rfl,rfl,by rw[Qr,Ng,k.1];rfl⟩,fun x=>(nomatch x)⟩⟩
 ·intro i m S a b;exact b.2.1▸b.2.2▸v a
section
variable{ι:Type}
noncomputable def lL(e:List Str)(g:List (Option GG))(c:Addr)(b:List GG)(f:ι->aa)(i:ι->List GG)(d:ι->Prop):GG->ab->aa->Prop:=fun h t S=>∃a,(b6 e g t)/\Le ((c,.list b)::f a) S/\i a=b++[h]/\d a
theorem uC{c:ι->aa}{e:ι->List GG}{b:ι->Prop}{S:aa}(a:ι)(j:aD Y JT)(h:Le ((d,.list z)::c a) S)(f:e a=z++[i])(g:b a):lL l Y d z c e b i (an l JT) S:=⟨a,fun m k=>j.val l m k,h,f,g⟩
theorem y9(f:List D)(q:D->GG)(p:List (Option GG))(k:List D->ι->aa)(j:List D->ι->List GG)(m:List D->ι->Prop)(r:ι)
(L:dn e.A i (f.map q).length (fun a=>(f.map q).getD a .none) Kn)(M:f.length<=sizeLine)(U:Kn V)(start:f6 KR l p t)(T:Le (k [] r) V)(KS:j [] r=[])(O:m [] r)(Q:∀Y b a,Kn (Y::k b a))
(E:∀b d n a c g,f=b++d::n->m b a->(j b a).length<=sizeLine/\bn (aR e KR g) (assign o (aR e KR g).env) (q d) UR (an l p) ((c,.list (j b a))::k b a) fun w A y=>
 GK (aR e KR g) (eval X (aR e KR g).env) VR A y (lL l p c (j b a) (k (b++[d])) (j (b++[d])) (m (b++[d]))))
(I:∀a c,m f a->Ki c ((c,.list (j f a))::k f a)):dD e l KR o [] X Ki i t V:=by
 refine pX f q (fun b s x S=>∃a,s=p/\S=k b a/\x=j b a/\m b a) L M U ⟨p,_,start,T,r,rfl,rfl,KS.symm,O⟩ ?_ ?_ ?_
 ·intro b n s x S c _ h;refine fw h fun a H=>?_;exact H.2▸H.3▸Q _ b a
 ·intro b d n s x S c g B h;refine fw h fun a u=>?_;have C:=u.4;refine cv u.1 ?_;refine cv u.2 ?_;refine cv u.3 ?_;refine⟨(E b d n a c g B C).1,fun KW KX Z N=>((E b d n a c g B C).2).run Z N fun w KV A y w w G KT h=>⟨(),A,y,trivial,G,KT,fun w=>h.mono fun G w w KU=>by refine fw KU fun a v=>?_;exact⟨_,_,v.1,v.2,a,rfl,rfl,v.3.symm,v.4⟩,fun J=>(nomatch J)⟩⟩
 ·intro s x S c h;refine fw h fun a z=>?_;exact z.2▸z.3▸I a c z.4
theorem za(D:e.A.handled=none)(E:q<100000)(j:List (Option GG))(h:Nat->ι->aa)(f:Nat->ι->List GG)(g:Nat->ι->Prop)(k:ι)
(start:f6 KR l j t)(I:Le (h 0 k) V)(L:f 0 k=[])(H:g 0 k)
(z:∀(b:Nat)a c d,b<q->g b a->(f b a).length<=sizeLine/\bn (aR e KR d) (assign o (aR e KR d).env) (.int b) UR (an l j) ((c,.list (f b a))::h b a) fun w v p=>
 GK (aR e KR d) (eval X (aR e KR d).env) VR v p (lL l j c (f b a) (h (b+1)) (f (b+1)) (g (b+1))))
(B:∀a c,g q a->Ki c ((c,.list (f q a))::h q a)):dD e l KR o [] X Ki (.c4 0 q 1) t V:=by
 refine mb D E (fun b r u S=>∃a,r=j/\S=h b a/\u=f b a/\g b a) ⟨j,_,start,I,k,rfl,rfl,L.symm,H⟩ ?_ ?_
 ·intro b r u S c d x i;refine fw i fun a m=>?_;have y:=m.4;refine cv m.1 ?_;refine cv m.2 ?_;refine cv m.3 ?_;refine⟨(z b a c d x y).1,fun Q T J G=>((z b a c d x y).2).run J G fun w O v p w w A M i=>⟨(),v,p,trivial,A,M,fun w=>i.mono fun A w w N=>by refine fw N fun a n=>?_;exact⟨_,_,n.1,n.2,a,rfl,rfl,n.3.symm,n.4⟩,fun C=>(nomatch C)⟩⟩
 ·intro r u S c i;refine fw i fun a s=>?_;exact s.2▸s.3▸B a c s.4
end
theorem dD.mono{c:Addr->aa->Prop}{a:GG}(g:dD e l KR o IS X Ki a t V)(s:∀b S,Ki b S->c b S):dD e l KR o IS X c a t V:=by
 obtain⟨u,q,f,h,i,j,d,k,m,n,p⟩:=g;exact⟨u,q,f,h,i,j,d,k,m,n,fun v x S b r=>s _ _ (p v x S b r)⟩
theorem g8{n iter k:Expr}{y:Pos}(f:List Str)(b:G9 e l K Jb Jz)(v:h∈K)
(C:(y.line==N.line)=true)(D:(KR.names.any fun a=>a.1==h&&(a.2==.local||a.2==.cell))=false)
(x:(KR.names.all fun a=> !(a.2==.cell)&&(!(a.2==.free)||Jz.contains a.1))=true)(s:(KR.names.map (fun x=>x.1)).Nodup)
(B:GK e (eval iter e.env) VR t S fun j c g=>dD e f KR n IS k (fun d i=>∃o p,c=an l o/\bp l o h (.ref d) p/\Z .next (an l p) i) j c g)
(r:autoParam (KR.kind=.function) aP)(u:autoParam (∀h,foldedSetIterable iter e.env h=pure h) ic):
  GK e (exec (.Assign [.Name h y] (.ListComp k [⟨n,iter,IS,0⟩] KR N) I9) e.env) GW t S Z:=by
 have q:GK e (eval iter e.env) VR t S fun j c g=>dD e f KR n IS k (fun d i=>Z .next (cb c h (.ref d)) i) j c g:=
  B.mono fun j c g A=>A.mono fun d i G=>by obtain⟨o,p,z,a,E⟩:=G;subst z;rw[a.val b.GO];exact E
 rcases b.st h v with m|⟨_,m,_⟩
 ·exact xO f b m C D x s q r u
 ·exact lX b.ok (b.st h v) (cy f b x s q r u) (aj8 m)
noncomputable def cl(f:Nat)(e:List Addr)(c S:aa):Prop:=∃a,c=a++S/\(∀g∈a,∃b:List Int,g.2=HB b/\b.length=f)/\∀d∈e,d∈a.map Prod.fst
theorem cl.start{S:aa}:cl q [] S S:=⟨[],rfl,by simp,by simp⟩
theorem cl.cons{e:Nat}{h:List Addr}{c:Addr}{b:List Int}{g S:aa}(k:cl e h g S)(l:b.length=e):cl e (h++[c]) ((c,HB b)::g) S:=by
 refine aN k fun i f=>?_;obtain rfl:=f.1;refine⟨(c,HB b)::i,rfl,fun m d=>?_,fun j a=>?_⟩
 ·rcases Nk.mp d with rfl|d
  ·exact⟨b,rfl,l⟩
  ·exact f.2 m d
 ·rcases Nu.mp a with a|a
  ·exact .tail _ (f.3 j a)
  ·rw[Nj.mp a];exact .head _
theorem cl.mem{a S:aa}(b:cl q Kb a S)(c:J1∈S):J1∈a:=by
 obtain⟨d,rfl,_⟩:=b;exact NA _ c
theorem cl.le{a S:aa}(b:cl q Kb a S):Le S a:=by
 obtain⟨c,rfl,_⟩:=b;exact Le.eB _ (Le.refl _)
theorem cl.row{c S:aa}(g:cl q Kb c S)(h:d∈Kb):∃a:List Int,a.length=q/\(d,HB a)∈c:=by
 refine aN g fun i b=>?_;obtain rfl:=b.1;obtain⟨⟨j,k⟩,e,rfl⟩:=Na.mp (b.3 d h);refine ah (b.2 _ e) fun a f=>?_;exact⟨a,f.2,NG _ (by rw[<-f.1];exact e)⟩
theorem lg{a:Addr}{o:GL}{post:aa}:∀b:aa,bk a o (b++(a,o)::post) (fun c=>b++(a,c)::post)
 |[]=>.here
 |d::b=>.there (lg b)
theorem cl.upd{j S:aa}(o:cl q Kb j S)(p:d∈Kb):∃(b:List Int)(F:GL->aa),b.length=q/\bk d (HB b) j F/\∀c:List Int,c.length=q->cl q Kb (F (HB c)) S:=by
 obtain⟨v,rfl,g,l⟩:=o;obtain⟨⟨f,x⟩,e,rfl⟩:=Na.mp (l d p);obtain⟨b,k,s⟩:=g _ e;obtain⟨i,h,rfl⟩:=Sa e;dsimp only at k;subst k;refine⟨b,fun u=>i++(f,u)::(h++S),s,?_,fun c t=>⟨i++(f,HB c)::h,by simp,fun m e=>?_,fun n r=>?_⟩⟩
 ·have:=lg (a:=f) (o:=HB b) (post:=h++S) i;simpa using this
 ·rcases Nu.mp e with a|a
  ·exact g m (NG _ a)
  ·rcases Nk.mp a with rfl|a
   ·exact⟨c,rfl,t⟩
   ·exact g m (NA _ (.tail _ a))
 ·have:=l n r;simpa using this
end
noncomputable abbrev dK(a:Nat×Nat):GG:=.tup [.int a.1,.int a.2]
noncomputable def cQ(d e:List Int)(b:List (Nat×Nat)):Prop:=b.Pairwise (fun a c=>a.1<c.1/\a.2<c.2)/\∀a∈b,a.1<d.length/\a.2<e.length/\d[a.1]? =e[a.2]?
structure e6(d e:List Int)(i b:Nat)(a:List (Nat×Nat)):Prop where
 li:i<=d.length
 Iw:b<=e.length
 len:a.length<=i
 ok:cQ d e a
 lt:∀c∈a,c.1<i/\c.2<b
theorem e6.snoc(b:e6 j O q v I0)(e:q<j.length)(f:v<O.length)(g:j[q]=O[v]):e6 j O (q+1) (v+1) (I0++[(q,v)]) where
 li:=e
 Iw:=f
 len:=by rw[Nm];exact Qt b.len
 ok:=⟨RQ.mpr ⟨b.ok.1,List.pairwise_singleton ..,fun c d a h=>Nj.mp h▸b.lt c d⟩,fun c d=>(Nu.mp d).elim (b.ok.2 c) fun a=>Nj.mp a▸⟨e,f,by rw[N2 e,N2 f,g]⟩⟩
 lt:=fun c d=>(Nu.mp d).elim (fun a=>⟨N5 (b.lt c a).1,N5 (b.lt c a).2⟩) fun a=>Nj.mp a▸⟨Qz q,Qz v⟩
theorem e6.left(a:e6 j O q v I0)(d:q<j.length):e6 j O (q+1) v I0:=⟨d,a.Iw,PC a.len,a.ok,fun b c=>⟨N5 (a.lt b c).1,(a.lt b c).2⟩⟩
theorem e6.right(a:e6 j O q v I0)(d:v<O.length):e6 j O q (v+1) I0:=⟨a.li,d,a.len,a.ok,fun b c=>⟨(a.lt b c).1,N5 (a.lt b c).2⟩⟩
theorem rO(a:decide ((q:Int)<(v:Int))=true):q<v:=Ol.mp (of_decide_eq_true a)
section
variable{S:aa}
theorem hg{k:Nat}(f:(d,GL.list (Kb.map .ref))∈S)(b:k<Kb.length)(c:k<100000)(h:∀a,a∈Kb->B (.ref a) t S)(g:autoParam (Plain X) eC):aE e (subscriptTail o X) (.ref d) (.int k) VR t S B:=
 cB (.inl f) (a:=.ref Kb[k]) (by rw[Ot,N2 b];rfl) (Og (N6.mpr (Nh c)) (by decide)) (h _ (RT b)) g
theorem am8{c:aa}(GX:cl q Kb V c)(sub:∀i∈V,i∈S)(f:d∈Kb)(a:v<q)(g:q<100000)(j:∀l:Int,B (.int l) t S)(h:autoParam (Plain X) eC):aE e (subscriptTail o X) (.ref d) (.int v) VR t S B:=by
 refine ah (GX.row f) fun k b=>?_;refine cB (.inl (sub _ b.2)) (a:=.int (k[v]'(mf a (Nd b.1.symm)))) ?_ (Og (N6.mpr (mf (Nq a) (Nh g))) (by decide)) (j _) h;rw[Ot,N2 (mf a (Nd b.1.symm))];rfl
theorem jk{j:Nat}{b:aa}(GX:cl q Kb V b)(h:V<:+S)(c:d∈Kb)(f:j<q)(g:q<100000)(i:∀k:Int,B (.int k) t S)(a:autoParam (Plain X) eC):aE e (subscriptTail o X) (.ref d) (.int j) VR t S B:=
 am8 GX (fun l a=>h.subset a) c f g i a
theorem f1(c:(d,GL.list (j.map ap))∈S)(a:q<j.length)(b:q<100000)(g:B (ap j[q]) t S)(f:autoParam (Plain X) eC):aE e (subscriptTail o X) (.ref d) (.int q) VR t S B:=
 cB (.inl c) (by rw[Ot,N2 a];rfl) (Og (N6.mpr (Nh b)) (by decide)) g f
theorem hZ(b:aw e.A q)(a:B (.bool (decide (k=IY))) t S):aE e (compareOp .Eq) (ap k) (ap IY) VR t S B:=ee b (fH _) (fH _) (by rw[j4];exact a)
theorem ww{b:aa}(GX:cl q Kb V b)(h:d∈Kb)(i:v<q)(j:q<100000)(l:∀c,cl q Kb c b->Kq t ((H,.list (Kb.map .ref))::c)):e5 e setItem (.ref d) (.int v) (.int k) t ((H,.list (Kb.map .ref))::V) Kq:=by
 obtain⟨f,F,a,Hb,g⟩:=GX.upd h;refine kV (.there Hb) (Oo v) (by rw[Nb];exact Ol.mpr (mf i (Nd a.symm))) (by have:=Nl;rw[Nb];exact mf (aj (mf (Nd a) (Nh j)) rfl) (Nd this.symm)) ?_;rw[(by rw[Q2,List.map_set]:((f.map GG.int).set ((v:Int)).toNat (.int k))=(f.set v k).map GG.int)];exact l _ (g _ (by rw[Sb];exact a))
end
section
variable{S:aa}
noncomputable abbrev zd:List Str:=["one","other","lengths","left","right","pairs"]
theorem zh(P:Pg)(K2:(d,GL.list (j.map ap))∈S)(KS:(H,GL.list (O.map ap))∈S)(s:j.length<1000)(x:O.length<1000)(A:∀i z,cQ j O z->M (.ref i) ((i,.list (z.map dK))::S)):
  GN 1 (.ref 401) [.ref d,.ref H] S M:=by
 have KV:(j.map ap).length<=sizeLine:=by have:=Nl;rw[Nb];exact mf (aj (c:=16777216) (Nh s) rfl) (Nd Nl.symm)
 have KW:(O.map ap).length<=sizeLine:=by have:=Nl;rw[Nb];exact mf (aj (c:=16777216) (Nh x) rfl) (Nd Nl.symm)
 have m:O.length+1<100000:=by exact aj (Np (Nh x) 2) rfl
 refine aS zd [some (.ref d),some (.ref H),none,none,none,none] P.T P.rH ac6 rfl fun La v t KX K0=>?_;refine aH ?_;exists g8 ["spot","other"] v (by exists 2) (by exists 4) (by exists 4) (by exists 4) (by exists 4) ?_;refine mb (n:=j.length+1) t.GR (aj (Np (Nh s) 2) rfl) (fun a T U KY=>T=[none,some (.ref H)]/\∃g,g.length=a/\U=g.map .ref/\cl (O.length+1) g KY S) ?_ ?_ ?_
 ·exact⟨[none,some (.ref H)],S,bm.start (by walk_at "ncaps") v.GO,by walk_at "nle",rfl,[],rfl,rfl,.start⟩
 ·rintro a T U b i Lb f ⟨rfl,g,B,rfl,GX⟩;refine⟨by have:=Nl;rw[Nb];exact mf (aj (mf (Nd B) (mf (Nq f) s)) rfl) (Nd this.symm),?_⟩;have y:=GX.mem KS;refine b2 ["spot","other"] ["spot"] ["len"] ["other"] v t (by exists 4) (by exists 4) fun K1 Lc=>?_;refine aZ K1 (by exists 2) (by walk_at "nput") ?_;exists⟨fun w=>?_,fun e=>nomatch e⟩;intro q;exists 0;refine afc (x:=((O.length+1:Nat):Int)) (by exists 2) (Og (N6.mpr x) (by decide)) (PE (by decide) (Oo _)) (by rw[Q2,P7];exact aj (Np (OI 1 (Nh x)) 1) rfl) fun X=>?_;have KZ:(List.replicate (((O.length+1:Nat):Int)).toNat [GG.int 0]).flatten=(List.replicate (O.length+1) (0:Int)).map GG.int:=by
   simp
  rw[KZ];exact⟨[none,some (.ref H)],(X,HB (List.replicate (O.length+1) 0))::b,fun K8 G=>aD.val (by exists 3) _ K8 G,by walk_at "nle",rfl,g++[X],by rw[Nm,B];rfl,by rw[Ng];rfl,GX.cons List.length_replicate⟩
 rintro T U b i ⟨rfl,g,B,rfl,GX⟩;walk_at "m1";walk_at "m1";have E:∀{b},cl (O.length+1) g b S->(d,GL.list (j.map ap))∈b:=fun e=>e.mem K2;have y:∀{b},cl (O.length+1) g b S->(H,GL.list (O.map ap))∈b:=fun e=>e.mem KS;have l:∀{L:Nat},L<j.length+1->L<g.length/\L<100000:=fun e=>by exact⟨(mf e (Nd B.symm)),(aj (mf e s) rfl)⟩
 exists 0;exists gW (ac (E GX)) KV ?_;refine sT t.GR (n:=j.length) (aj s rfl) (fun w=>[some (.ref d),some (.ref H),some (.ref i),none,none,none]) (fun b=>(i,.list (g.map .ref))::b) (fun b=>cl (O.length+1) g b S) b (aD.refl _) (Le.refl _) GX ?_ ?_
 ·intro a b f GX V o;exists aZ v (by exists 2) (by walk_at "nput") ?_;exists gW (ac (y GX)) KW ?_;refine sT t.GR (n:=O.length) (aj x rfl) (fun w=>[some (.ref d),some (.ref H),some (.ref i),some (.int a),none,none]) (fun b=>(i,.list (g.map .ref))::b) (fun b=>cl (O.length+1) g b S) b (by exists 3) (Le.refl _) GX ?_ ?_
  ·intro KU b k GX V o;have r:=l (Qu f);have C:=N5 k;have D:=Qu k;have u:b<:+(i,GL.list (g.map .ref))::b:=List.suffix_cons ..;exists aZ v (by exists 2) (by walk_at "nput") ?_;exists f1 (ac (E GX)) f (l (N5 f)).2 ?_;exists f1 (ac (y GX)) k (OG C m) (hZ t ?_);refine⟨fun w=>?_,fun w=>?_⟩
   ·exists 0;exists hg (k:=a+1) am r.1 r.2 fun q h=>?_;exists jk (j:=KU+1) GX u h D m fun G=>?_;exists hg am (l (N5 f)).1 (l (N5 f)).2 fun q h=>?_;exists ww GX h C m fun I J=>?_;exact o.n I J (by exists 3) (Le.refl _)
   ·exists 0;exists hg (k:=a+1) am r.1 r.2 fun q h=>?_;exists jk GX u h C m fun G=>?_;exists hg am (l (N5 f)).1 (l (N5 f)).2 fun q h=>?_;exists jk (j:=KU+1) GX u h D m fun K7=>?_;exists hg am (l (N5 f)).1 (l (N5 f)).2 fun q h=>?_;exists ww GX h C m fun I J=>?_;exact o.n I J (by exists 3) (Le.refl _)
  ·intro b GX;exists 0;exact o.n b GX (by exists 3) (Le.refl _)
 ·intro b GX;have u:∀Q A,b<:+Q::A::b:=fun Q A=>List.suffix_append [Q,A] b;exists 0;intro R;exists 0;have done:∀{z:List (Nat×Nat)}{K9},cQ j O z->KX (.ret (.ref R)) K9 ((R,.list (z.map dK))::(i,.list (g.map .ref))::b):=fun e=>K0.r (A R _ e) (Le.take (Le.skip GX.le));refine px (ι:=Nat×Nat×List (Nat×Nat)) (fun a=>[some (.ref d),some (.ref H),some (.ref i),some (.int a.1),some (.int a.2.1),some (.ref R)]) (fun a=>(R,.list (a.2.2.map dK))::(i,.list (g.map .ref))::b) (fun a=>e6 j O a.1 a.2.1 a.2.2) (fun a=>(j.length-a.1)+(O.length-a.2.1)) (0,0,[]) (aD.refl _) (Le.refl _) ⟨NN _,NN _,NN _,⟨.nil,fun w e=>nomatch e⟩,fun w e=>nomatch e⟩ ?_;intro a p V o;exists 0;exists gW (ac (ac (E GX))) KV ?_;refine⟨fun K3=>?_,fun w=>⟨fun w=>?_,fun e=>nomatch e⟩⟩
  ·have f:=rO K3;exists 0;exists gW (ac (ac (y GX))) KW ?_;refine⟨fun K4=>?_,fun w=>⟨fun w=>?_,fun e=>nomatch e⟩⟩
   ·have k:=rO K4;have N:=l (N5 f);have r:=l (Qu f);have D:=Qu k;have Y:=Sc _ _ f;have Z:=Sc _ _ k;exists 0;exists⟨fun e=>(nomatch e),fun w=>?_⟩;exists f1 (ac (ac (E GX))) f N.2 ?_;exists f1 (ac (ac (y GX))) k (OG (N5 k) m) (hZ t ?_);refine⟨fun KT=>?_,fun KT=>?_⟩
    ·have Ld:(a.2.2.map dK).length<=sizeLine:=by have K5:=p.len;have Lf:=p.li;have K6:=Nl;rw[Nb];exact mf (aj (mf K5 (mf (Nq f) (Nh s))) rfl) (Nd K6.symm)
     exists 0;exact o.n (a.1+1,a.2.1+1,a.2.2++[(a.1,a.2.1)]) (Nat.add_lt_add Y Z) (p.snoc f k (of_decide_eq_true KT)) (aD.refl _) (by rw[Ng];exact Le.refl _)
    ·exists 0;exists hg (k:=a.1+1) (ac am) r.1 r.2 fun q h=>?_;exists jk GX (u _ _) h (N5 k) m fun G=>?_;exists hg (ac am) N.1 N.2 fun q h=>?_;exists jk (j:=a.2.1+1) GX (u _ _) h D m fun K7=>?_;refine⟨fun w=>?_,fun w=>?_⟩
     ·exists 0;exact o.n (a.1+1,a.2.1,a.2.2) (Nat.add_lt_add_right Y _) (p.left f) (aD.refl _) (Le.refl _)
     ·exists 0;exact o.n (a.1,a.2.1+1,a.2.2) (PD Z _) (p.right k) (aD.refl _) (Le.refl _)
   ·exists 0;exact done p.ok
  ·exists 0;exact done p.ok
end
noncomputable def cF(a b:List Int)(d:List (Nat×Nat)):Prop:=(a.length=b.length/\d=(List.range a.length).map fun c=>(c,c))\/(a.length≠b.length/\cQ a b d)
theorem uX(a:cQ j O I0):I0.length<=j.length:=by
 have d:(I0.map (fun x=>x.1)).Nodup:=Op.mpr (a.1.imp fun f=>NH f.1);have:=d.length_le_of_subset (l₂:=List.range j.length) fun g c=>by
  refine ah (Na.mp c) fun e b=>?_;obtain rfl:=b.2;exact NX.mpr (a.2 e b.1).1
 rwa[Nb,NS]at this
theorem u1(c:v<=j.length)(d:q<=v):h4 (j.map ap) (some (q:Int)) (some (v:Int))=((j.drop q).take (v-q)).map ap:=by
 have b:∀a:Nat,a<=j.length->clipAt (j.map ap).length (a:Int)=a:=fun a e=>pS (Nb (as:=j) ap▸e);unfold h4;simp only[Option.elim,b q (mf d c),b v c];rw[Qs,List.map_drop]
noncomputable def jc(b c:Nat)(a:Nat×Nat):Nat×Nat:=(b+a.1,c+a.2)
theorem cQ.id(b:List Int):cQ b b ((List.range b.length).map fun a=>(a,a)):=
 ⟨Op.mpr (QV.imp fun d=>⟨d,d⟩),fun f e=>by
  refine ah (Na.mp e) fun a c=>?_;obtain rfl:=c.2
  exact⟨NX.mp c.1,NX.mp c.1,rfl⟩⟩
theorem cQ.app{h i:List Int}{k:List (Nat×Nat)}(b:cQ j O I0)(f:cQ h i k):cQ (j++h) (O++i) (I0++k.map (jc j.length O.length)):=by
 refine⟨RQ.mpr ⟨b.1,Op.mpr (f.1.imp fun a=>⟨PD a.1 _,PD a.2 _⟩),fun c e a l=>?_⟩,fun c e=>(Nu.mp e).elim (fun a=>?_) fun a=>?_⟩
 ·refine ah (Na.mp l) fun d m=>?_;obtain rfl:=m.2;exact⟨Oj (b.2 c e).1 (Nv ..),Oj (b.2 c e).2.1 (Nv ..)⟩
 ·rw[Nm,Nm,SX (b.2 c a).1,SX (b.2 c a).2.1];exact⟨Oj (b.2 c a).1 (Nv ..),Oj (b.2 c a).2.1 (Nv ..),(b.2 c a).2.2⟩
 ·refine ah (Na.mp a) fun d g=>?_;obtain rfl:=g.2;show j.length+d.1<_/\O.length+d.2<_/\(j++h)[j.length+d.1]? =(O++i)[O.length+d.2]?;rw[Nm,Nm,SY (Nv ..),SY (Nv ..),SZ,SZ];exact⟨PD (f.2 d g.1).1 _,PD (f.2 d g.1).2.1 _,(f.2 d g.1).2.2⟩
noncomputable def kp(b c d f:Nat)(e:List (Nat×Nat)):List (Nat×Nat):=(List.range b).map (fun a=>(a,a))++e.map (jc b b)++(List.range f).map (fun a=>(c+a,d+a))
theorem wZ{a d e c:List Int}(h:cF d e I0):cF (a++(d++c)) (a++(e++c)) (kp a.length (a.length+d.length) (a.length+e.length) c.length I0):=by
 have g:kp a.length (a.length+d.length) (a.length+e.length) c.length I0=(List.range a.length).map (fun b=>(b,b))++(I0++((List.range c.length).map fun b=>(b,b)).map (jc d.length e.length)).map (jc a.length a.length):=by
  rw[kp,Ng,NR,Nf,Nf]
  congr 2;apply N7;intro b _
  show(a.length+d.length+b,a.length+e.length+b)=(a.length+(d.length+b),a.length+(e.length+b));rw[Pp,Pp]
 rw[g];rcases h with⟨f,rfl⟩|⟨f,i⟩
 ·refine .inl ⟨by simp only[Nm,f],?_⟩;rw[Nm,Nm,List.range_add,List.range_add,Ng,Nf,Ng,Nf,<-f];simp only[Ng,Nf];rfl
 ·exact .inr ⟨fun g=>f (by simp only[Nm]at g;omega),(cQ.id a).app (i.app (cQ.id c))⟩
theorem Ee(a:j.take q=O.take q)(c:q<j.length)(d:q<O.length)(b:j[q]=O[q]):j.take (q+1)=O.take (q+1):=by
 rw[QF c,QF d,a,b]
theorem akb(e:v<j.length)(f:Jd<O.length)(c:v+1=j.length-q)(d:Jd+1=O.length-q)(a:j.drop (j.length-q)=O.drop (O.length-q))(b:j[v]=O[Jd]):j.drop v=O.drop Jd:=by
 rw[RI e,RI f,c,d,a,b]
noncomputable abbrev ej(c d:List Int)(a b:Nat):Prop:=(a+b<=c.length)/\(a+b<=d.length)/\(c.take a=d.take a)/\(c.drop (c.length-b)=d.drop (d.length-b))
theorem ej.x(a:ej j O q v):q+v<=j.length:=a.1
theorem ej.y(a:ej j O q v):q+v<=O.length:=a.2.1
theorem ej.a(a:ej j O q v):j.take q=O.take q:=a.2.2.1
theorem ej.c(a:ej j O q v):j.drop (j.length-v)=O.drop (O.length-v):=a.2.2.2
theorem ou(a:q+v<=j.length):j=j.take q++((j.drop q).take (j.length-v-q)++j.drop (j.length-v))/\(j.drop (j.length-v)).length=v:=by
 exact⟨by rw[<-(by rw[List.drop_drop,Nat.add_sub_cancel' (Se a)]:(j.drop q).drop (j.length-v-q)=j.drop (j.length-v)),Pn,Pn],by rw[List.length_drop,Nat.sub_sub_self (mf (N3 v q) a)]⟩
theorem ej.split(a:ej j O q v):∃b c,j=b++((j.drop q).take (j.length-v-q)++c)/\O=b++((O.drop q).take (O.length-v-q)++c)/\b.length=q/\c.length=v:=
 ⟨j.take q,j.drop (j.length-v),(ou a.x).1,by rw[a.a,a.c];exact(ou a.y).1,by rw[Pf];exact QO (mf (Nv ..) a.x),(ou a.x).2⟩
theorem Ah(a:decide ((q:Int)<min (v:Int) (Jd:Int))=true):q<v/\q<Jd:=(Int.lt_min.mp (of_decide_eq_true a)).imp Ol.mp Ol.mp
theorem Ai(c:decide ((q:Int)<min (Jd:Int) (JH:Int)-(v:Int))=true):v+(q+1)<=Jd/\v+(q+1)<=JH:=
 have b:∀{a:Nat},(q:Int)+v<a->v+(q+1)<=a:=fun d=>(OJ q v▸Ol.mp d:v+q<_)
 (Int.lt_min.mp (Int.add_lt_of_lt_sub_right (of_decide_eq_true c))).imp b b
theorem v1(a:Jd+(v+1)<=q):((q:Int)-1-v=((q-(v+1):Nat):Int))/\q-(v+1)<q/\q-(v+1)+1=q-v:=
 ⟨by rewrite[Ps (mf (N3 _ _) a),Int.sub_sub,Int.add_comm];rfl,Nat.sub_lt (Oj (PB v) (mf (N3 _ _) a)) (PB v),Nat.succ_pred_eq_of_pos (Nat.sub_pos_of_lt (mf (N3 _ _) a))⟩
theorem w0(a:cF j O I0):I0.length<=j.length:=by
 rcases a with⟨_,rfl⟩|⟨_,b⟩
 ·rw[Nb,NS];exact Ni _
 ·exact uX b
theorem yT(a:q<=30)(b:v<=30):decide ((1600:Int)<(q:Int)*(v:Int))=false:=by
 have:q*v<=30*30:=Q5 a b;rw[decide_eq_false_iff_not,<-Int.natCast_mul];omega
section
variable{S:aa}
theorem xW{f K b i:List Str}{m:Tok}(a:G9 e f K b i)(g:St)(c:h∈b)(j:G2 h=some (.int k m))(l:B (.int k) t S):GK e (eval (.Name h N) e.env) VR t S B:=fun n d=>
 PG a.ok.kind (a.gl h c) (QB (a.ok.glob▸g.g.keeps d.led.keep) j ⟨_,t,S,.int _ _,d,aq.refl ..,l⟩) (a.db h (NA _ c)).1
noncomputable abbrev iZ:List Str:=["one","other","head","tail","inner_one","inner_other","inner","pairs"]
noncomputable abbrev E7:List Str:=["min","len","MOST_CELLS","range","common_rows"]
noncomputable abbrev E8:List Str:=["one","other","head","tail"]
theorem E9(P:Pg)(c:G9 e iZ iZ E7 E8)(h:aw e.A 1){a k l b:List Int}(KT:(d,GL.list (j.map ap))∈S)(KU:(H,GL.list (O.map ap))∈S)(y:j=a++(k++b))(z:O=a++(l++b))(N:a.length=q)(Q:b.length=v)(f:j.length<=30)(M:O.length<=30)
(KW:∀r B,Le S (r::B::V))(A:cF k l I0)(E:∀i I0 t V,cF j O I0->Le ((i,.list (I0.map dK))::S) V->Z (.ret (.ref i)) t V)(D:V=(JE,.list (I0.map dK))::S):
  GK e (execs ((aT 27).drop 7) e.env) GW (an iZ [some (.ref d),some (.ref H),some (.int q),some (.int v),some (.ref IX),some (.ref Jj),some (.ref JE),none]) V Z:=by
 subst N;subst Q;subst D;have g:j.length=a.length+k.length+b.length:=by rw[y,Nm,Nm];omega
 have KX:O.length=a.length+l.length+b.length:=by rw[z,Nm,Nm];omega
 have p:=w0 A;have KZ:(j.map ap).length<=sizeLine:=cW (aj f rfl);have K0:(O.map ap).length<=sizeLine:=cW (aj M rfl);have G:a.length<100000:=by exact aj (Np (mf (mf (Nv _ _) (mf (Nv _ _) (Nd g.symm))) f) 1) rfl
 have I:b.length<100000:=by exact aj (Np (mf (mf (N3 _ _) (Nd g.symm)) f) 1) rfl
 have L:I0.length<=sizeLine:=bC (aj (mf p (mf (mf (N3 _ _) (mf (Nv _ _) (Nd g.symm))) f)) rfl);exists aH ?_;exists cy ["spot"] c (by exists 4) (by exists 4) ?_;refine ma h.GR G (fun o=>dK (o,o)) [none] (bm.start (by walk_at "ncaps") c.GO) (fun n O i u J=>?_) fun U=>?_
 ·refine b2 ["spot"] ["spot"] [] [] c h (by exists 4) (by exists 4) fun m s=>?_;exists aZ m (by exists 2) (by walk_at "nput") ?_;exact cp rfl (by exists 3) (Le.refl _)
 exists cy ["left","right","head"] c (by exists 4) (by exists 4) ?_;refine d8 I0 dK (fun r=>dK (jc a.length a.length r)) [none,none,some (.int a.length)] (dj h.GR) L (.inl (ac am)) (fun B q=>.inl (ac (ac am))) (bm.start (by walk_at "ncaps") c.GO) (fun KY T i u KV=>?_) fun X=>?_
 ·refine b2 ["left","right","head"] ["left","right"] [] ["head"] c h (by exists 4) (by exists 4) fun m s=>?_;exists eg m s (by walk_at "nputs") ?_;exact cp rfl (by exists 3) (by walk_at "nle")
 refine eA (by exists 2) (by exists 2) (by simp only[Nb,NS];exact bC (aj (No (mf (mf (Nv _ _) (mf (Nv _ _) (Nd g.symm))) f) (mf p (mf (mf (N3 _ _) (mf (Nv _ _) (Nd g.symm))) f))) rfl)) fun Y=>?_;exists 0;exists cy ["spot","one","other","tail"] c (by exists 4) (by exists 4) ?_;refine ma h.GR I (fun o=>dK (a.length+k.length+o,a.length+l.length+o)) [none,some (.ref d),some (.ref H),some (.int b.length)] (bm.start (by walk_at "ncaps") c.GO) (fun n T i u J=>?_) fun KS=>?_
 ·refine b2 ["spot","one","other","tail"] ["spot"] ["len"] ["one","other","tail"] c h (by exists 4) (by exists 4) fun m s=>?_;exists aZ m (by exists 2) (by walk_at "nput") ?_;exact cp (by rw[show(j.length:Int)-b.length+n=((a.length+k.length+n:Nat):Int) by omega,show(O.length:Int)-b.length+n=((a.length+l.length+n:Nat):Int) by omega]) (by exists 3) (Le.refl _)
 exists 0;refine eA (by exists 2) (by exists 2) (by simp only[Nb,NS,Nm];exact bC (aj (No (No (mf (mf (Nv _ _) (mf (Nv _ _) (Nd g.symm))) f) (mf p (mf (mf (N3 _ _) (mf (Nv _ _) (Nd g.symm))) f))) (mf (mf (N3 _ _) (Nd g.symm)) f)) rfl)) fun C=>?_;exists 0;have x:=wZ (a:=a) (c:=b) A;rw[<-y,<-z]at x;exact E C _ _ _ x (Le.eqv (by simp only[kp,Ng,Nf];rfl) (Le.skip (Le.skip (Le.skip (Le.skip (Le.skip (Le.refl _)))))))
end
section
variable{S:aa}
theorem zv(P:Pg)(r:(d,GL.list (j.map ap))∈S)(s:(H,GL.list (O.map ap))∈S)(o:j.length<30)(t:O.length<30)(KV:∀h e,cF j O e->M (.ref h) ((h,.list (e.map dK))::S)):
  GN 2 (.ref 406) [.ref d,.ref H] S M:=by
 have KY:(j.map ap).length<=sizeLine:=cW (aj (Nh o) rfl);have KZ:(O.map ap).length<=sizeLine:=cW (aj (Nh t) rfl);refine aS iZ [some (.ref d),some (.ref H),none,none,none,none,none,none] P.T P.rZ ade rfl fun I n q U Z=>?_;exists aH ?_;refine pw (fun a:Nat=>[some (.ref d),some (.ref H),some (.int a),none,none,none,none,none]) (fun w=>S) (fun a=>ej j O a 0) (fun a=>j.length-a) 0 (aD.refl _) (Le.refl _) ⟨NN _,NN _,rfl,by rw[Q4,Q4,List.drop_length,List.drop_length]⟩ ?_ ?_
 ·intro a b T V p E;exists 0;refine⟨fun A=>?_,fun w=>⟨fun w=>p,fun a=>nomatch a⟩⟩;refine aW (Ah A) fun g=>?_;have L:a<100000:=by exact aj (mf g.1 (Nh o)) rfl
  exists 0;exists f1 r g.1 L ?_;exists f1 s g.2 L (hZ q ?_);exists⟨fun f=>?_,fun w=>⟨fun w=>p,fun a=>nomatch a⟩⟩;exists⟨fun a=>(nomatch a),fun w=>?_⟩;exact E.n (a+1) (Sc _ _ g.1) ⟨g.1,g.2,Ee b.a g.1 g.2 (of_decide_eq_true f),b.c⟩ (aD.refl _) (Le.refl _)
 intro a b;exists 0;refine pw (fun c:Nat=>[some (.ref d),some (.ref H),some (.int a),some (.int c),none,none,none,none]) (fun w=>S) (fun c=>ej j O a c) (fun c=>j.length-c) 0 (aD.refl _) (Le.refl _) b ?_ ?_
 ·intro c b T V p E;exists 0;refine⟨fun A=>?_,fun w=>⟨fun w=>p,fun a=>nomatch a⟩⟩;obtain⟨N,Q⟩:=Ai A;refine df (v1 N) fun l=>?_;obtain⟨KW,G,KX⟩:=v1 Q;exists 0;exists au l.1 (f1 r l.2 (aj (mf l.2 (Nh o)) rfl) ?_);exists au KW (f1 s G (aj (mf G (Nh t)) rfl) (hZ q ?_));exists⟨fun f=>?_,fun w=>⟨fun w=>p,fun a=>nomatch a⟩⟩;exists⟨fun a=>(nomatch a),fun w=>?_⟩;exact E.n (c+1) (Nd l.3) ⟨N,Q,b.a,akb l.2 G l.3 KX b.c (of_decide_eq_true f)⟩ (aD.refl _) (Le.refl _)
 intro c b;refine oS b.split fun K2 K3 x=>?_;have y:=x.1;have z:=x.2;exists 0;refine dY (Ps (mf (N3 ..) b.x)) ?_;refine c6 (lo:=some (a:Int)) (hi:=some ((j.length-c:Nat):Int)) (ja (.inl r) KY fun B=>?_);exists au (u1 (QM ..) (Se b.x)) ?_;refine dY (Ps (mf (N3 ..) b.y)) ?_;refine c6 (lo:=some (a:Int)) (hi:=some ((O.length-c:Nat):Int)) (ja (.inl (ac s)) KZ fun C=>?_);refine au (u1 (QM ..) (Se b.y)) ?_;generalize (j.drop a).take (j.length-c-a)=i at y⊢;generalize (O.drop a).take (O.length-c-a)=k at z⊢;have D:i.length<=30:=by have:=congrArg List.length y;rw[Nm,Nm]at this;exact mf (mf (mf (mf (Ni _) (Nv _ _)) (N3 _ _)) (Nd this.symm)) (Nq o)
 have v:k.length<=30:=by have:=congrArg List.length z;rw[Nm,Nm]at this;exact mf (mf (mf (mf (Ni _) (Nv _ _)) (N3 _ _)) (Nd this.symm)) (Nq t)
 have K7:(i.map ap).length<=sizeLine:=cW (aj D rfl);have K8:(k.map ap).length<=sizeLine:=cW (aj v rfl);have J:∀m e,cF i k e->GK I (execs ((aT 27).drop 7) I.env) GW (an iZ [some (.ref d),some (.ref H),some (.int a),some (.int c),some (.ref B),some (.ref C),some (.ref m),none]) ((m,.list (e.map dK))::(C,.list (k.map ap))::(B,.list (i.map ap))::S) U:=fun m e KT=>
  E9 P n q (S:=(C,.list (k.map ap))::(B,.list (i.map ap))::S) (ac (ac r)) (ac (ac s)) y z x.3 x.4 (Nq o) (Nq t) (fun w w=>Le.skip (Le.skip (Le.skip (Le.refl _)))) KT (fun h e K9 K1 X u=>Z.r (KV h e X) ((Le.take (Le.skip (Le.skip (Le.refl _)))).trans u)) rfl
 walk_at "m1";walk_at "m1";walk_at "m1";exists 0;refine⟨fun f=>?_,fun f=>?_⟩
 ·refine⟨fun w=>?_,fun a=>nomatch a⟩;refine aH ?_;exists g8 ["spot"] n (by exists 2) (by exists 4) (by exists 4) (by exists 4) (by exists 4) ?_;refine au (show min (i.length:Int) (k.length:Int)=((i.length:Nat):Int) by omega) ?_;refine ma q.GR (aj (Np (mf (Nd (PQ (of_decide_eq_true f))) v) 1) rfl) (fun u=>dK (u,u)) [none] (bm.start (by walk_at "ncaps") n.GO) (fun K5 O h K0 K4=>?_) fun h=>?_
  ·refine b2 ["spot"] ["spot"] [] [] n q (by exists 4) (by exists 4) fun KS K6=>?_;exists aZ KS (by exists 2) (by walk_at "nput") ?_;exact cp rfl (by exists 3) (Le.refl _)
  walk_at "m1";walk_at "m1";walk_at "m1";walk_at "m1";have:=J h _ (.inl ⟨(PQ (of_decide_eq_true f)),rfl⟩);rw[Nf]at this;exact this
 ·exists 0;refine g7 (by mul_fits) ?_;exists xW n P.T (by exists 2) P.cells ?_;exists au (yT D v) ?_;exists⟨fun a=>(nomatch a),fun w=>?_⟩;exists⟨fun a=>(nomatch a),fun w=>?_⟩;refine GN.lv (zh P (ac am) am (aj (Np D 1) rfl) (aj (Np v 1) rfl) fun m e KU=>?_);walk_at "m1";walk_at "m1";walk_at "m1";walk_at "m1";exact J m e (.inr ⟨(fun Y=>of_decide_eq_false f (congrArg Int.ofNat Y)),KU⟩)
end
inductive a9 where
 |added (b:GG)
 |gone (a:GG)
 |turned (a b:GG)
noncomputable def a9.way:a9->Str
 |.added _=>"added"
 |.gone _=>"gone"
 |.turned .. =>"turned"
noncomputable def a9.old:a9->GG
 |.added _=>.none
 |.gone a=>a
 |.turned a _=>a
noncomputable def a9.new:a9->GG
 |.added a=>a
 |.gone _=>.none
 |.turned _ a=>a
noncomputable abbrev eL(b:List GG)(a:a9):GG:=eW b a.way a.old a.new
noncomputable def dF(b d:List Int)(e:List (Nat×Nat))(a:Nat):List (Nat×a9):=match e.lookup a with
 |some c=>if b.getD a 0=d.getD c 0 then[]else[(a,.turned (ap (b.getD a 0)) (ap (d.getD c 0)))]
 |none=>[(a,.gone (ap (b.getD a 0)))]
noncomputable def d5(d:List Int)(c:List (Nat×Nat))(a:Nat):List (Nat×a9):=if c.any (fun b=>decide (b.2=a))then[]else[(a,.added (ap (d.getD a 0)))]
noncomputable def cR(c a:List Int)(b:List (Nat×Nat)):List (Nat×a9):=(List.range c.length).flatMap (dF c a b)++(List.range a.length).flatMap (d5 a b)
theorem jz(c d:List Int)(b:List (Nat×Nat))(a:Nat):(dF c d b a).length<=1:=by unfold dF;repeat (first|split|simp)
theorem pn(c:List Int)(b:List (Nat×Nat))(a:Nat):(d5 c b a).length<=1:=by unfold d5;split<;>simp
theorem eu(b:D->List I1)(c:∀x,(b x).length<=1):∀a:List D,(a.flatMap b).length<=a.length
 |[]=>by simp
 |x::a=>by rw[NO,Nm,N4];have d:=c x;have e:=eu b c a;exact mf (No d e) (Nd (OJ _ _))
theorem pg(b:cF j O I0):(I0.map (fun x=>x.1)).Nodup/\(I0.map (fun x=>x.2)).Nodup:=by
 rcases b with⟨_,rfl⟩|⟨_,b,_⟩
 ·rw[Nf,Nf];have e:((fun d:Nat×Nat=>d.2)∘fun a=>(a,a))=(id:Nat->Nat):=rfl;rw[(rfl:((fun d:Nat×Nat=>d.1)∘fun a=>(a,a))=(id:Nat->Nat)),e,Oi];exact⟨O6,O6⟩
 ·refine⟨?_,?_⟩
  ·rw[List.Nodup,Op];exact b.imp fun c=>NH c.1
  ·rw[List.Nodup,Op];exact b.imp fun c=>NH c.2
theorem pe(b:cF j O I0):∀a∈I0,a.1<j.length/\a.2<O.length:=by
 rcases b with⟨e,rfl⟩|⟨_,_,b⟩
 ·intro a c;refine ah (Na.mp c) fun f d=>?_;obtain rfl:=d.2;have:=NX.mp d.1;exact⟨this,by dsimp only;exact mf this (Nd e)⟩
 ·exact fun a c=>⟨(b a c).1,(b a c).2.1⟩
theorem pf(a:cF j O I0):I0.length<=j.length:=by
 rcases a with⟨_,rfl⟩|⟨_,a⟩
 ·simp
 ·exact uX a
noncomputable def H5(a:Nat×Nat):ae×GG:=(.i (a.1:Nat),.int (a.2:Nat))
noncomputable def H6(a:Nat×Nat):ae×GG:=(.i (a.2:Nat),.bool true)
theorem EN{d h:List (Nat×Nat)}{b:Nat×Nat}(f:(I0.map (fun x=>x.1)).Nodup)(a:I0=d++b::h):a6 (d.map H5) (.i b.1) (.int b.2)=(d++[b]).map H5:=by
 rw[er]
 ·simp[H5]
 ·subst a;rw[Ng,Nt]at f;intro e;rw[Nf]at e;refine ah (Na.mp e) fun c g=>?_;have a:=g.2;have a:c.1=b.1:=by
   have a:ae.i (c.1:Nat)=ae.i (b.1:Nat):=a;injection a with a;exact Sg.mp a
  exact(NK.mp f).2.2 c.1 (Na.mpr ⟨c,g.1,rfl⟩) b.1 (.head _) a
theorem EP{d h:List (Nat×Nat)}{b:Nat×Nat}(f:(I0.map (fun x=>x.2)).Nodup)(a:I0=d++b::h):a6 (d.map H6) (.i b.2) (.bool true)=(d++[b]).map H6:=by
 rw[er]
 ·simp[H6]
 ·subst a;rw[Ng,Nt]at f;intro e;rw[Nf]at e;refine ah (Na.mp e) fun c g=>?_;have a:=g.2;have a:c.2=b.2:=by
   have a:ae.i (c.2:Nat)=ae.i (b.2:Nat):=a;injection a with a;exact Sg.mp a
  exact(NK.mp f).2.2 c.2 (Na.mpr ⟨c,g.1,rfl⟩) b.2 (.head _) a
theorem rR:ay (I0.map H5) (.i (q:Nat))=(I0.lookup q).map fun a:Nat=>GG.int a:=mB (f:=H5) (v:=fun a:Nat=>GG.int a) (fun x=>rfl) I0
theorem Aq:(ay (I0.map H6) (.i (q:Nat))).isSome=I0.any fun b=>decide (b.2=q):=by
 induction I0 with
 |nil=>rfl
 |cons b I0 d=>
  rw[Nt,hx,OM,<-d];by_cases a:b.2=q
  ·rw[if_pos (congrArg (fun e:Nat=>ae.i (e:Int)) a),decide_eq_true a];rfl
  ·rw[if_neg fun c=>a (nc c),decide_eq_false a];rfl
section
variable{S:aa}
theorem hf(c:(d,GL.list (j.map ap))∈S)(a:q<j.length)(b:q<100000)(g:B (ap (j.getD q 0)) t S)(f:autoParam (Plain X) eC):aE e (subscriptTail o X) (.ref d) (.int (q:Nat)) VR t S B:=
 f1 c a b (by rw[<-(by simp[a]:j.getD q 0=j[q])];exact g) f
noncomputable abbrev w8:List Str:=["path","one","other","pairs","partners","known","left","right","rows"]
noncomputable abbrev iA(b:List GG)(a:Nat×a9):GG:=eL (b++[.int (a.1:Nat)]) a.2
theorem xd(a:I0.lookup q=none):dF j O I0 q=[(q,.gone (ap (j.getD q 0)))]:=by unfold dF;rw[a]
theorem xe(a:I0.lookup q=some v):dF j O I0 q=if j.getD q 0=O.getD v 0 then[]else[(q,.turned (ap (j.getD q 0)) (ap (O.getD v 0)))]:=by unfold dF;rw[a]
theorem xf(a:(I0.any fun b=>decide (b.2=q))=false):d5 j I0 q=[(q,.added (ap (j.getD q 0)))]:=by unfold d5;rw[a];rfl
theorem xg(a:(I0.any fun b=>decide (b.2=q))=true):d5 j I0 q=[]:=if_pos a
theorem xk[Decidable I7]:(if I7 then[]else[(q,a9.turned i Jn)]).map (iA z)=if I7 then[]else[eW (z++[.int (q:Nat)]) "turned" i Jn]:=by split<;>rfl
theorem Ey{c:Type}{a:Prop}[Decidable a]{b:c}:(if a then[]else[b]).length<=1:=by split;exact NN _;exact Ni _
theorem zg(P:Pg)(V:(d,GL.list (j.map ap))∈S)(X:(H,GL.list (O.map ap))∈S)(Y:z.length<50)(h:j.length<30)(o:O.length<30)
(KT:∀i b,cF j O b->M (.ref i) ((i,.list ((cR j O b).map fun G=>eL (z++[.int (G.1:Nat)]) G.2))::S)):GN 3 (.ref 413) [.tup z,.ref d,.ref H] S M:=by
 have KZ:(j.map ap).length<=sizeLine:=cW (aj (Nh h) rfl);have K0:(O.map ap).length<=sizeLine:=cW (aj (Nh o) rfl);have K1:z.length+1<=sizeLine:=bC (aj Y rfl);refine aS w8 [some (.tup z),some (.ref d),some (.ref H),none,none,none,none,none,none] P.T P.ru ac4 rfl fun e y v KX U=>?_;exists aH ?_;refine GN.lv (zv P V X h o fun i b r=>?_);obtain⟨Z,KS⟩:=pg r;exists 0;exists eJ fun p Q=>?_;exists eJ fun m T=>?_;refine dv v.GR b dK (fun w w=>[some (.tup z),some (.ref d),some (.ref H),some (.ref i),some (.ref p),some (.ref m),none,none,none]) (fun u k=>(m,.dict k.2 (u.map H6))::(p,.dict k.1 (u.map H5))::(i,.list (b.map dK))::S) (fun w w=>True) (Q,T) (aD.refl _) (Le.refl _) trivial (fun w w=>ac (ac am)) ?_ ?_
 ·intro u I KY k x _ B l;have E:∀{KV:Type}{C:Nat×Nat->KV},(u.map C).length<=sizeLine:=by have:=cc x;intro _ C;rw[Nb];exact bC (aj (mf (Nq this) (mf (pf r) (Nh h))) rfl)
  exists eg y v (by walk_at "nputs") ?_;refine dm (by walk_at "nupd") E fun L=>?_;exists au (EN Z x) ?_;refine dm (by walk_at "nupd") E fun N=>?_;exists au (EP KS x) ?_;exact l.n (L,N) trivial (by exists 3) (Le.refl _)
 intro k _;exists 0;intro R;exists 0;refine g3 v.GR (aj h rfl) (fun w w=>[some (.tup z),some (.ref d),some (.ref H),some (.ref i),some (.ref p),some (.ref m),none,none,some (.ref R)]) (fun c w=>(R,.list (([]++(List.range c).flatMap (dF j O b)).map (iA z)))::(m,.dict k.2 (b.map H6))::(p,.dict k.1 (b.map H5))::S) (fun w w=>True) () (aD.refl _) (Le.take (Le.take (Le.take (Le.skip (Le.refl _))))) trivial ?_ ?_
 ·intro c _ f _ B l;have A:=o7 (g:=iA z) (acc:=[]) (n:=0) (jz j O b) (pre:=List.range c) (Ni _) (by rw[NS];exact aj (mf (Nq f) (Nh h)) rfl) (by decide);have q:c<100000:=by exact aj (mf f (Nh h)) rfl
  exists aZ y (by exists 2) (by walk_at "nput") ?_;refine au rR ?_;cases s:b.lookup c with
  |none=>
   exists bx rfl ?_;exists hf (by exists 2) f q ?_;exact l.n () trivial (by exists 3) (Le.gY (jv (xd s)))
  |some t=>
   have D:=(pe r (c,t) (bI s)).2;exists bN rfl ?_;exists hf (by exists 2) f q ?_;refine bu (a:=.int (t:Nat)) (by exists 2) (by rw[rR,s];rfl) ?_;exists 0;exists hf (by exists 2) D (aj (mf D (Nh o)) rfl) ?_;exists(rj P).go (by decide) (gu fun KW=>?_);refine mh (by walk_at "nupd") am (by rw[Nb,List.nil_append];have J:=eu _ (jz j O b) (List.range c);rw[NS]at J;have KU:= @Ey GG (j.getD c 0=O.getD t 0) _ (eW (z++[.int (c:Nat)]) "turned" (ap (j.getD c 0)) (ap (O.getD t 0)));exact aj (Np (No (mf J (mf (Nq f) (Nh h))) KU) 1) rfl) ?_;exists 0;exact l.n () trivial (by exists 3) (Le.skip (Le.gY (by rw[jv (xe s),xk])))
 intro _ _;have A:((List.range j.length).flatMap (dF j O b)).length<=30:=by have:=eu _ (jz j O b) (List.range j.length);rw[NS]at this;exact aj (mf this (Nh h)) rfl
 exists 0;refine g3 v.GR (aj o rfl) (fun w w=>[some (.tup z),some (.ref d),some (.ref H),some (.ref i),some (.ref p),some (.ref m),none,none,some (.ref R)]) (fun c w=>(R,.list (((List.range j.length).flatMap (dF j O b)++(List.range c).flatMap (d5 O b)).map (iA z)))::(m,.dict k.2 (b.map H6))::S) (fun w w=>True) () (aD.refl _) (Le.eqv o6 (Le.take (Le.skip (Le.refl _)))) trivial ?_ ?_
 ·intro c _ f _ B l;have A:=o7 (g:=iA z) (pn O b) (pre:=List.range c) A (by rw[NS];exact aj (mf (Nq f) (Nh o)) rfl) (by decide);exists aZ y (by exists 2) (by walk_at "nput") ?_;refine au Aq ?_;cases q:b.any fun I=>decide (I.2=c)with
  |false=>
   exists bN rfl ?_;exists hf (by exists 2) f (aj (mf f (Nh o)) rfl) ?_;exact l.n () trivial (by exists 3) (Le.gY (jv (xf q)))
  |true=>
   exists bx rfl ?_;exact l.n () trivial (by exists 3) (Le.gY (wO (xg q)))
 intro _ _;exists 0;exact U.r (KT R b r) (Le.take (Le.skip (Le.refl _)))
end
set_option genInjectivity true in
inductive ag where
 |a (c:List Int)
 |d (b:List (Str×Int))
variable{IU IW Ju:Option ag}{IV Jf:List (Int×ag)}{Jl:ag}{Kw:Int->Option ag}{KP:Option ag->Prop}
noncomputable def ag.Hs:ag->GG
 |.a c=>dL c
 |.d b=>bz b
noncomputable def ag.bA:ag->ag
 |.a c=>.a c
 |.d b=>.d (as b)
noncomputable def ag.ok:ag->Prop
 |.a c=>c.length<30
 |.d b=>b.length<30/\(b.map (fun x=>x.1)).Nodup
noncomputable def iv(b:GL):ag->Prop
 |.a f=>b=HB f
 |.d e=>∃c,b=Hq c e
noncomputable def bE(S:aa)(c:Addr)(b:ag):Prop:=∃a,(c,a)∈S/\iv a b
theorem bE.there{S:aa}{b:Addr}{a:ag}{g:Addr×GL}(e:bE S b a):bE (g::S) b a:=let⟨f,c,d⟩:=e;⟨f,ac c,d⟩
theorem bE.up{S a:aa}(e:bE S d Jl):bE (J1::(a++S)) d Jl:=let⟨f,b,c⟩:=e;⟨f,ac (NA _ b),c⟩
theorem bE.here{S:aa}{c:Addr}{b:ag}{a:GL}(d:iv a b):bE ((c,a)::S) c b:=⟨a,am,d⟩
theorem j0(a:List (Str×Int)):(as a).map (fun x=>x.1)=cD (a.map (fun x=>x.1)):=by
 unfold as;rw[Nf];simp[PR]
theorem gq(a:List (Str×Int)):(as a).length=a.length:=by
 have:=congrArg List.length (j0 a);rw[Nb,(cO _).length_eq,Nb]at this;exact this
theorem cz(a:(b.map (fun x=>x.1)).Nodup):((as b).map (fun x=>x.1)).Nodup:=by
 rw[j0];exact(cO _).nodup_iff.mpr a
theorem ag.eX(b:Jl.ok):Jl.bA.ok:=by
 cases Jl with
 |a e=>exact b
 |d c=>exact⟨by rw[gq];exact b.1,cz b.2⟩
section
variable{S:aa}
theorem hT(a:q<30):q<1000:=Oj a (by decide)
theorem gB(a:q<30):q<60:=Oj a (by decide)
theorem hs(P:Pg)(h:bE S d Jl)(e:Jl.ok):GN 3 (.ref 277) [.ref d] S (fun g f=>g=Jl.bA.Hs/\f=S):=by
 obtain⟨j,b,c⟩:=h;cases Jl with
 |a l=>cases c;exact zY P b (hT e)
 |d k=>obtain⟨i,rfl⟩:=c;exact iI P b (gB e.1)
theorem zi(P:Pg)(j:bE S d Jl)(e:Jl.ok)(h:∀b c,iv c Jl->M (.ref b) ((b,c)::S)):GN 3 (.ref 282) [.ref d] S M:=by
 obtain⟨c,f,g⟩:=j;cases Jl with
 |a m=>cases g;exact(zj P f (hT e)).go (by decide) (gu fun b=>h b _ rfl)
 |d l=>obtain⟨k,rfl⟩:=g;exact(p0 P f (gB e.1) e.2).go (by decide) (gv fun b i=>h b _ ⟨i,rfl⟩)
theorem z0(P:Pg)(c:Jl.ok)(f:∀b e,iv e Jl->M (.ref b) ((b,e)::S)):GN 3 (.ref 382) [Jl.Hs] S M:=by
 cases Jl with
 |a i=>exact(z1 P (hT c)).go (by decide) (gu fun b=>f b _ rfl)
 |d h=>exact(rp P c.2 (hT c.1)).go (by decide) (gv fun b g=>f b _ ⟨g,rfl⟩)
end
noncomputable def ds(b c:List (Str×Int))(a:Str):List (Str×a9):=
 if ax c a=false then[(a,.gone (ap (av b a)))]else if ax b a=false then[(a,.added (ap (av c a)))]
 else if av b a=av c a then[]else[(a,.turned (ap (av b a)) (ap (av c a)))]
noncomputable def c9(a b:List (Str×Int)):List (Str×a9):=(br a b).flatMap (ds a b)
theorem At(b:List GG)(c d:List (Str×Int)):jS b c d=(c9 c d).map fun a=>eL (b++[.str a.1]) a.2:=by
 delta jS c9;rw[N9]
 congr 1
 funext e
 delta e0 ds
 repeat (first|split|rfl)
theorem Eb(a:h∈br b b):ax b h=true:=by
 unfold br at a;have a:=(cO _).mem_iff.mp a;rcases Nu.mp a with a|a
 ·exact bw.mpr a
 ·obtain⟨d,c,rfl⟩:=Na.mp a;exact bw.mpr (Na.mpr ⟨d,(NL.mp c).1,rfl⟩)
theorem As(a:List (Str×Int)):c9 a a=[]:=by
 unfold c9;rw[Pj];intro c b;unfold ds;simp[Eb b]
theorem ahj(a:List GG)(b c:List (Str×Int)):jb a b c=(c9 b c).map fun d=>eL (a++[.str d.1]) d.2:=by
 unfold jb
 split
 ·rename_i e;subst e;rw[As];rfl
 ·exact At a b c
theorem t5(a:v<q):((List.range q).map fun v=>(v,v)).lookup v=some v:=by
 have g:(((List.range q).map fun v=>(v,v)).map (fun x=>x.1)).Nodup:=by
  rw[Nf];have e:((fun c:Nat×Nat=>c.1)∘fun v=>(v,v))=(id:Nat->Nat):=rfl;rw[e,Oi];exact O6
 have:∀(b:List Nat),v∈b->(b.map fun v=>(v,v)).lookup v=some v:=by
  intro b;induction b with
  |nil=>intro a;simp at a
  |cons c b f=>
   intro a;rw[Nt,NF];by_cases d:v=c
   ·subst d;simp
   ·rw[(by simpa using d:(v==c)=false)];exact f (by simpa[d]using a)
 exact this _ (NX.mpr a)
theorem xc(b:List Int)(c:cF b b I0):cR b b I0=[]:=by
 rcases c with⟨_,rfl⟩|⟨c,_⟩
 ·unfold cR;rw[Sh,Pj,Pj];refine⟨fun a d=>?_,fun a d=>?_⟩
  ·unfold dF;rw[t5 (NX.mp d)];simp
  ·unfold d5;rw[if_pos];rw[N8];exact⟨(a,a),Na.mpr ⟨a,d,rfl⟩,by simp⟩
 ·exact(c rfl).elim
theorem ph(a:List Int):cF a a ((List.range a.length).map fun b=>(b,b)):=.inl ⟨rfl,rfl⟩
noncomputable def iq:ag->ag->List (ak×a9)->Prop
 |.a f,.a g,e=>∃c,cF f g c/\e=(cR f g c).map fun b=>(.idx (b.1:Nat),b.2)
 |.d c,.d h,e=>e=(c9 c h).map fun b=>(.key b.1,b.2)
 |_,_,_=>False
noncomputable def ag.same:ag->ag->Prop
 |.a _,.a _=>True
 |.d _,.d _=>True
 |_,_=>False
section
variable{S:aa}
theorem zU(P:Pg)(m:z.length<50)(n:j.length<30)(o:O.length<30):
  {d:GG->aa->Prop}->(∀a c,cF j O c->d (.ref a) ((a,.list ((cR j O c).map fun f=>eL (z++[.int (f.1:Nat)]) f.2))::S))->GN 4 (.ref 432) [.tup z,dL j,dL O] S d:=by
 intro d g;have h:(j.map ap).length<sizeLine:=by have:=Nl;rw[Nb];omega
 have i:(O.map ap).length<sizeLine:=by have:=Nl;rw[Nb];omega
 refine aS ["path","one","other","rows"] [some (.tup z),some (dL j),some (dL O),none] P.T P.jX nR rfl fun q s p r e=>?_;exists aH ?_;refine ee p (mu j) (mu O) ?_;rw[Bb];exists 0;refine⟨fun b=>?_,fun b=>?_⟩
 ·have b:=of_decide_eq_true b;subst b;exists 0;intro k;exists 0;exact e.r (g k _ (ph j)) (Le.gY (by rw[xc j (ph j)];rfl))
 ·exists 1;exists c6 (lo:=some 1) (hi:=none) (gD h ?_);exists mm (Nq h) fun t=>?_;exists c6 (lo:=some 1) (hi:=none) (gD i ?_);exists mm (Nq i) fun u=>?_;exists GN.lv (zg P (ac am) am m n o fun a c l=>?_);exact e.r (g a c l) (Le.take (Le.skip (Le.skip (Le.refl _))))
theorem ri(P:Pg){path:List GG}{e e':ag}(m:e.same e')(c:e.ok)(f:e'.ok)(i:path.length<50)(k:∀b h,iq e e' h->M (.ref b) ((b,.list (h.map fun j=>eL (path++[j.1.GP]) j.2))::S)):GN 4 (.ref 432) [.tup path,e.Hs,e'.Hs] S M:=by
 cases e with
 |a p=>cases e' with
  |a o=>exact zU P i c f fun b g n=>by have:=k b _ ⟨g,n,rfl⟩;rw[Nf]at this;exact this
  |d l=>exact m.elim
 |d g=>cases e' with
  |a o=>exact m.elim
  |d l=>
   refine(zV P i c.2 f.2 c.1 f.1).go (by decide) (gu fun b=>?_);have:=k b _ (show iq (.d g) (.d l) _ from rfl);rw[Nf]at this;rw[ahj];exact this
end
noncomputable abbrev aC:=Int×Addr×ag
variable{IT JG:List aC}
noncomputable def Hm(a:aC):ae×GG:=(.i a.1,.tup [.int 0,.ref a.2.1])
noncomputable abbrev dM(a b:Addr):List (Str×GG):=[("table",.ref a),("trailer",.ref b)]
noncomputable def ar(b:List aC):List (Int×ag):=b.map fun a=>(a.1,a.2.2)
noncomputable abbrev cZ(S:aa)(b:List aC):Prop:=(∀a∈b,bE S a.2.1 a.2.2)/\(∀a∈b,a.2.2.ok)/\((b.map (fun x=>x.1)).Nodup)/\(b.length<20)
theorem cZ.ents{S:aa}(b:cZ S IT):∀a∈IT,bE S a.2.1 a.2.2:=b.1
theorem cZ.cr{S:aa}(b:cZ S IT):∀a∈IT,a.2.2.ok:=b.2.1
theorem cZ.GO{S:aa}(a:cZ S IT):(IT.map (fun x=>x.1)).Nodup:=a.2.2.1
theorem cZ.ca{S:aa}(a:cZ S IT):IT.length<20:=a.2.2.2
theorem cZ.there{S:aa}{b:List aC}{d:Addr×GL}(a:cZ S b):cZ (d::S) b:=⟨fun e c=>(a.ents e c).there,a.cr,a.GO,a.ca⟩
noncomputable abbrev bv(S:aa)(h e b d:Addr)(f g:Nat)(a:List aC)(c:List (Str×Int)):Prop:=((h,GL.inst 368 e (dM b d))∈S)/\((b,GL.dict f (a.map Hm))∈S)/\((d,Hq g c)∈S)/\(cZ S a)/\((ag.d c).ok)
theorem bv.inst{S:aa}(a:bv S d H IX Jj q v IT b):(d,GL.inst 368 H (dM IX Jj))∈S:=a.1
theorem bv.table{S:aa}(a:bv S d H IX Jj q v IT b):(IX,GL.dict q (IT.map Hm))∈S:=a.2.1
theorem bv.cd{S:aa}(a:bv S d H IX Jj q v IT b):(Jj,Hq v b)∈S:=a.2.2.1
theorem bv.tab{S:aa}(a:bv S d H IX Jj q v IT b):cZ S IT:=a.2.2.2.1
theorem bv.ok{S:aa}(a:bv S d H IX Jj q v IT b):(ag.d b).ok:=a.2.2.2.2
theorem bv.there{S:aa}{f b g i:Addr}{c d:Nat}{e:List aC}{h:List (Str×Int)}{j:Addr×GL}(a:bv S f b g i c d e h):bv (j::S) f b g i c d e h:=
 ⟨ac a.inst,ac a.table,ac a.cd,a.tab.there,a.ok⟩
noncomputable def af(b:List (Int×ag))(a:Int):Option ag:=b.lookup a
theorem aag(b:(IT.map (fun x=>x.1)).Nodup):((IT.map Hm).map (fun x=>x.1)).Nodup:=by
 rw[Nf];have:((fun x=>x.1)∘Hm:aC->ae)=ae.i∘(fun x=>x.1):=rfl;rw[this,<-Nf,List.Nodup,Op];exact List.Pairwise.imp (fun c a=>c (by injection a)) b
theorem jP(b:(IT.map (fun x=>x.1)).Nodup){a:aC}(c:a∈IT):ay (IT.map Hm) (.i a.1)=some (.tup [.int 0,.ref a.2.1]):=hA (aag b) (Na.mpr ⟨a,c,rfl⟩)
theorem AT(d:(IT.map (fun x=>x.1)).Nodup){b:aC}(a:b∈IT):af (ar IT) b.1=some b.2.2:=by
 induction IT with
 |nil=>simp at a
 |cons f IT e=>
  unfold af ar;rw[Nt,NF];rcases Nk.mp a with rfl|a
  ·simp
  ·have c:(b.1==f.1)=false:=by
    rw[beq_eq_false_iff_ne];intro c;exact(ND.mp d).1 (Na.mpr ⟨b,a,c⟩)
   simp only[c];exact e (ND.mp d).2 a
theorem AU(a:k∉IT.map (fun x=>x.1)):af (ar IT) k=none:=by
 induction IT with
 |nil=>rfl
 |cons d IT c=>
  rw[Nt,Nk,not_or]at a;unfold af ar;rw[Nt,NF];have b:(k==d.1)=false:=by rw[beq_eq_false_iff_ne];exact a.1
  simp only[b];exact c a.2
noncomputable def gK(b:Option ag):GG:=(b.map fun a=>a.bA.Hs).getD .none
noncomputable def fu(b:List (Int×ag))(c:List (Str×Int)):GG:=.tup [.tup ((da (b.map (fun x=>x.1))).map fun a=>.tup [.int a,.int 0,gK (af b a)]),bz (as c)]
theorem dG(a:List aC):(ar a).map (fun x=>x.1)=a.map (fun x=>x.1):=by unfold ar;rw[Nf];rfl
theorem uB(a:List aC):((a.map Hm).map fun b=>b.1.GP)=(a.map (fun x=>x.1)).map GG.int:=by rw[Nf,Nf];rfl
section
variable{K:List Str}{S:aa}
theorem eK(P:Pg)(a:G9 e l K Jb Jz)(f:b4 l Y h (.ref d))(c:(d,GL.inst 368 H (dM IX Jj))∈S)(g:B (.ref IX) (an l Y) S)
(b:autoParam (attributeBase (.Name h N) "table" e.env (eval (.Name h N) e.env)=eval (.Name h N) e.env) aP):GK e (eval (.Attribute (.Name h N) "table" I9) e.env) VR (an l Y) S B:=
 lZ P (.inl rfl) (l0 a f ⟨d,H,_,IX,rfl,c,rfl,g⟩) b
theorem iD(P:Pg)(a:G9 e l K Jb Jz)(f:b4 l Y h (.ref d))(c:(d,GL.inst 368 H (dM IX Jj))∈S)(g:B (.ref Jj) (an l Y) S)
(b:autoParam (attributeBase (.Name h N) "trailer" e.env (eval (.Name h N) e.env)=eval (.Name h N) e.env) aP):GK e (eval (.Attribute (.Name h N) "trailer" I9) e.env) VR (an l Y) S B:=
 lZ P (.inr rfl) (l0 a f ⟨d,H,_,Jj,rfl,c,rfl,g⟩) b
end
section
variable{S:aa}
theorem zG(P:Pg)(f:(d,GL.inst 368 H (dM IX Jj))∈S)(g:(IX,GL.dict q (IT.map Hm))∈S)(h:IT.length<60):
  GN 1 (.ref 353) [.ref d] S (fun c b=>∃a,c=.ref a/\b=(a,.list ((da (IT.map (fun x=>x.1))).map .int))::S):=by
 refine aS ["self"] [some (.ref d)] P.T P.g5.2.1 ad5 rfl fun i k l j e=>?_;exists aH ?_;exists eK P (by assumption) (by walk_at "nlook") (f) ?_;refine mq P.GY g (by rw[Nb];exact aj h rfl) (out:=(da (IT.map (fun x=>x.1))).map .int) (by rw[uB];exact cg.int _) fun a=>?_;exists 0;exact e.r ⟨a,rfl,rfl⟩ (Le.refl _)
theorem rc(P:Pg){b d t x:Addr}{F:GL->aa}(h:(b,GL.inst 368 d (dM t x))∈S)(l:bk t (.dict q I8) S F)(j:I8.length<60):
  GN 1 (.ref 332) [.ref b,.int k,.int IY,i] S (fun f e=>∃a,f=.none/\e=F (.dict a (a6 I8 (.i k) (.tup [.int IY,i])))):=by
 refine aS ["self","number","generation","value"] [some (.ref b),some (.int k),some (.int IY),some i] P.T P.g5.1 ad6 rfl fun m o p n g=>?_;exists aH ?_;exists eK P (by assumption) (by walk_at "nlook") (h) ?_;exists dm l (mf (aj (c:=16777216) (Nh j) rfl) (Nd Nl.symm)) fun a=>?_;exact g.n ⟨a,rfl,rfl⟩ (Le.refl _)
theorem jI(P:Pg)(g:bv S d H IX Jj q v IT b):
  GN 4 (.ref 365) [.ref d] S (fun m l=>m=fu (ar IT) b/\l=S):=by
 have u:=Nl;obtain⟨h,r,B,a,t⟩:=g;have A:=a.ca;refine aS ["self","rows"] [some (.ref d),none] P.T P.g5.2.2 ad7 rfl fun x e j y n=>?_;exists aH ?_;exists cy ["number","self"] e (by exists 4) (by exists 4) ?_;exists⟨_,_,Gw P h rfl,(hN P).2.1,?_⟩;refine(zG P h r (aj a.2.2.2 rfl)).go (NQ rfl) (gu fun C=>?_);have p:(da (IT.map (fun x=>x.1))).length=IT.length:=by rw[(eR _).length_eq,Nb]
 refine d8 (da (IT.map (fun x=>x.1))) GG.int (fun f=>.tup [.int f,.int 0,gK (af (ar IT) f)]) [none,some (.ref d)] (dj j.GR) (mf (aj (mf (Nd p) (Nh a.2.2.2)) rfl) (Nd u.symm)) (.inl am) (fun D g=>.inl (ac am)) (bm.start (by walk_at "ncaps") e.GO) (fun f G k z s=>?_) fun k=>?_
 ·refine ah (Na.mp ((eR _).mem_iff.mp s)) fun i c=>?_;obtain rfl:=c.2;refine b2 ["number","self"] ["number"] ["told_objects"] ["self"] e j (by exists 4) (by exists 4) fun o E=>?_;exists aZ o (by exists 2) (by walk_at "nput") ?_;exists eK P (by assumption) (by walk_at "nlook") (by exists 2) ?_;exists bu (by exists 2) (jP a.GO c.1) ?_;exists eK P (by assumption) (by walk_at "nlook") (by exists 2) ?_;exists bu (by exists 2) (jP a.GO c.1) ?_;exists(hs P ((a.ents i c.1).there.there) (a.cr i c.1)).go (Ni _) (bt ?_);refine cp ?_ (by exists 3) (by walk_at "nle");rw[AT a.GO c.1];rfl
 ·exists 0;exists iJ (.inl am) (by walk_at "nsz") ?_;exists iD P (by assumption) (by walk_at "nlook") (by exists 2) ?_;exists(iI P (show(Jj,Hq v b)∈_ by exists 2) (Oj t.1 (by decide))).go (by decide) (bt ?_);refine n.r ⟨?_,rfl⟩ (by walk_at "nle");unfold fu;rw[dG]
theorem rf(P:Pg)(c:bv S d H IX Jj q v IT b)
(f:∀(m o h n:Addr)(p r:Nat)(t:List aC)(l:aa),ar t=ar IT->(∀e∈t,bE l e.2.1 e.2.2)->M (.ref m) ((m,.inst 368 o (dM h n))::(n,Hq r b)::(h,.dict p (t.map Hm))::(l++S))):
  GN 4 (.ref 377) [.ref d] S M:=by
 have j:=c.tab;have k:∀{Q f:Addr×GL}{l:aa},f∈S->f∈Q::(l++S):=fun N=>ac (NA _ N);refine aS ["shelf","table","number","generation","value"] [some (.ref d),none,none,none,none] P.T P.sk aee rfl fun V x A X D=>?_;exists aH ?_;exists eJ fun h p=>?_;refine eK P (by assumption) (by walk_at "nlook") (ac c.inst) ?_;refine ka A.GR P.GY (ep:=q) IT Hm (fun w w=>[some (.ref d),some (.ref h),none,none,none]) (fun w(a:Nat×aa×List aC)=>(h,.dict a.1 (a.2.2.map Hm))::(a.2.1++S)) (fun s a=>ar a.2.2=ar s/\∀e∈a.2.2,bE a.2.1 e.2.1 e.2.2) (p,[],[]) (aD.refl _) (Le.refl _) ⟨rfl,fun w c=>nomatch c⟩ (fun w w=>k c.table) ?_ ?_
 ·intro s e Z a i g Y L;have y:a.2.2.map (fun x=>x.1)=s.map (fun x=>x.1):=by rw[<-dG,g.1,dG]
  have E:ae.i e.1∉(a.2.2.map Hm).map (fun x=>x.1):=fun z=>by
   rw[Nf]at z;refine ah (Na.mp z) fun f B=>?_;exact ez j.GO i (y▸Na.mpr ⟨f,B.1,ae.i.inj B.2⟩)
  have G:(a.2.2.map Hm).length<=sizeLine:=by have T:=congrArg List.length y;have U:=cc i;have KS:=j.ca;rw[Nb,Nb]at*;exact bC (aj (mf (Nd T) (mf (Nq U) (Nh c.2.2.2.1.2.2.2))) rfl)
  refine aZ x (by exists 2) (by walk_at "nput") ?_;refine aH ?_;exists lY ?_;exists eK P (by assumption) (by walk_at "nlook") (k c.inst) ?_;refine bu (k c.table) (jP j.GO (bd i)) ?_;exists eg x A (by walk_at "nputs") ?_;exists GN.lv (zi P (j.ents e (bd i)).up (j.cr e (bd i)) fun u O I=>?_);exists dm (by walk_at "nupd") G fun C=>?_;refine L.n (C,(u,O)::a.2.1,a.2.2++[(e.1,u,e.2.2)]) ⟨?_,fun f J=>(Nu.mp J).elim (fun c=>(g.2 f c).there) fun c=>by rw[Nj.mp c];exact bE.here I⟩ (by exists 3) ?_
  ·rw[ar,Ng,ar,Ng];exact congrArg (·++_) g.1
  ·rw[er E,Ng];exact Le.cU (List.Perm.swap ..)
 ·intro a g;exists 0;exists iD P (by assumption) (by walk_at "nlook") (k c.inst) ?_;exists(p0 P (k c.cd) (Oj c.ok.1 (by decide)) c.ok.2).go (by decide) (gv fun n r=>?_);exists GN.lv (md P fun m o=>?_);exact D.r (f m o h n a.1 r a.2.2 a.2.1 g.1 g.2) (Le.refl _)
end
theorem et{b g:D->List I1}:∀{a:List D},(∀x∈a,b x=g x)->a.flatMap b=a.flatMap g
 |[],_=>rfl
 |x::a,c=>by rw[NO,NO,c x (.head _),et fun e d=>c e (.tail _ d)]
noncomputable abbrev ai:=List ak×a9
variable{Js:List ai}
noncomputable abbrev ai.GP(a:ai):GG:=eL (a.1.map ak.GP) a.2
noncomputable def gb:Option ag->Option ag->List ai->Prop
 |none,some a,b=>b=[([],.added a.bA.Hs)]
 |some a,none,b=>b=[([],.gone a.bA.Hs)]
 |some a,some e,b=>∃c,iq a.bA e.bA c/\b=c.map fun d=>([d.1],d.2)
 |none,none,_=>False
theorem pN(b c:List (Str×Int))(a:Str):(ds b c a).length<=1:=by unfold ds;repeat (first|split|simp)
theorem ss{c:ag}{j:List (ak×a9)}(e:iq Jl c j)(k:Jl.ok)(l:c.ok):j.length<=60:=by
 cases Jl with
 |a m=>cases c with
  |a g=>
   obtain⟨b,_,rfl⟩:=e;rw[Nb];unfold cR;rw[Nm];have h:=eu _ (jz m g b) (List.range m.length);have i:=eu _ (pn g b) (List.range g.length);rw[NS]at h i;exact aj (No (mf h (Nh k)) (mf i (Nh l))) rfl
  |d f=>exact e.elim
 |d b=>cases c with
  |a g=>exact e.elim
  |d f=>
   rw[e,Nb];have h:=eu _ (pN b f) (br b f);have i:=hB b f;have:=k.1;have:=l.1;unfold c9;omega
theorem ach(b:gb IU IW Js)(d:∀a,IU=some a->a.ok)(e:∀a,IW=some a->a.ok):Js.length<=60:=by
 cases IU with
 |none=>cases IW with
  |none=>exact b.elim
  |some a=>rw[b];simp
 |some a=>cases IW with
  |none=>rw[b];simp
  |some c=>
   obtain⟨f,b,rfl⟩:=b;rw[Nb];exact ss b (ag.eX (d a rfl)) (ag.eX (e c rfl))
noncomputable abbrev cs(b:ak)(a:ai):ai:=(b::a.1,a.2)
section
variable{S:aa}
noncomputable abbrev orN:List Str:=["number","one","other","path","rows"]
theorem ah1{a:ag}(b:Jl.same a):Jl.bA.same a.bA:=by cases Jl<;>cases a<;>first|exact b.elim|trivial
noncomputable def fR:Option (Addr×ag)->GG
 |none=>.none
 |some a=>.tup [.int 0,.ref a.1]
theorem zI(P:Pg){o o':Option (Addr×ag)}(d:∀a,o=some a->bE S a.1 a.2/\a.2.ok)(e:∀a,o'=some a->bE S a.1 a.2/\a.2.ok)(n:∀a c,o=some a->o'=some c->a.2.same c.2)(l:o≠none\/o'≠none)
(g:∀b h,gb (o.map (fun x=>x.2)) (o'.map (fun x=>x.2)) h->M (.ref b) ((b,.list (h.map fun m=>ai.GP (cs (.obj k) m)))::S)):GN 5 (.ref 439) [.int k,fR o,fR o'] S M:=by
 refine aS orN [some (.int k),some (fR o),some (fR o'),none,none] P.T P.sd aea rfl fun p r s q f=>?_;refine aH ?_;cases o with
 |none=>cases o' with
  |none=>exact l.elim (absurd rfl) (absurd rfl)
  |some a=>
   unfold fR;exists 1;exists(hs P (e a rfl).1 (e a rfl).2).go (by decide) (bt ?_);intro b;exists 1;exact f.r (g b _ rfl) (Le.refl _)
 |some a=>cases o' with
  |none=>
   unfold fR;exists 1;exists(hs P (d a rfl).1 (d a rfl).2).go (by decide) (bt ?_);intro b;exists 1;exact f.r (g b _ rfl) (Le.refl _)
  |some c=>
   unfold fR;exists 1;exists(hs P (d a rfl).1 (d a rfl).2).go (by decide) (bt ?_);exists(hs P (e c rfl).1 (e c rfl).2).go (by decide) (bt ?_);refine GN.lv (ri P (ah1 (n a c rfl rfl)) (ag.eX (d a rfl).2) (ag.eX (e c rfl).2) (path:=[.tup [.str "obj",.int k]]) (by show 1<50;decide) fun b i j=>?_);exists 1;exact f.r (g b _ ⟨i,j,rfl⟩) (Le.gY (by rw[Nf];rfl))
end
noncomputable def dI(a c:List (Int×ag)):List Int:=da (a.map (fun x=>x.1)++(c.map (fun x=>x.1)).filter fun b=> !(af a b).isSome)
noncomputable def cw(b c:List (Int×ag))(i j:List (Str×Int))(h:List ai):Prop:=
 ∃(f:Int->List ai)(e:List (ak×a9)),(∀a∈dI b c,gb (af b a) (af c a) (f a))/\iq (.d (as i)) (.d (as j)) e/\h=(dI b c).flatMap (fun a=>(f a).map (cs (.obj a)))++e.map fun g=>([.cd,g.1],g.2)
theorem dT(b:List (Int×ag))(a:Int):(af b a).isSome=true↔a∈b.map (fun x=>x.1):=by
 unfold af;induction b with
 |nil=>simp
 |cons d b e=>
  rw[NF,Nt,Nk];by_cases c:a=d.1
  ·subst c;simp
  ·simp only[(by simpa using c:(a==d.1)=false)];rw[e];simp[c]
theorem uA(d:(IV.map (fun x=>x.1)).Nodup)(e:(Jf.map (fun x=>x.1)).Nodup):(dI IV Jf).Nodup:=by
 unfold dI;rw[(eR _).nodup_iff,NK];refine⟨d,e.filter _,fun b f g a c=>?_⟩;subst c;have:=(dT IV b).mpr f;have a:=(NL.mp a).2;replace a:=this▸a;cases a
theorem ui:k∈dI IV Jf↔k∈IV.map (fun x=>x.1)\/k∈Jf.map (fun x=>x.1):=by
 unfold dI;rw[(eR _).mem_iff,Nu,NL];constructor
 ·rintro(a|a)
  ·exact .inl a
  ·exact .inr a.1
 ·rintro(a|a)
  ·exact .inl a
  ·by_cases b:k∈IV.map (fun x=>x.1)
   ·exact .inl b
   ·refine .inr ⟨a,?_⟩;have:(af IV k).isSome=false:=by rw[Bool.eq_false_iff];exact fun c=>b ((dT IV k).mp c)
    rw[this];rfl
theorem uz(a b:List (Int×ag)):(dI a b).length<=a.length+b.length:=by
 rw[(eR _).length_eq,Nm,Nb];have:=Ov (fun c=> !(af a c).isSome) (b.map (fun x=>x.1));rw[Nb]at this;exact Om this _
noncomputable def fp(c:List aC)(a:Int):Option (Addr×ag):=(c.find? fun b=>decide (b.1=a)).map (fun x=>x.2)
theorem i9{c:Addr×ag}(a:fp IT k=some c):(k,c)∈IT:=by
 unfold fp at a;obtain⟨d,b,rfl⟩:=Po.mp a;have:=List.find?_some b;rw[<-of_decide_eq_true this];exact(SK b)
theorem fS(b:List aC)(a:Int):(fp b a).map (fun x=>x.2)=af (ar b) a:=by
 induction b with
 |nil=>rfl
 |cons e b d=>
  unfold fp af ar at d⊢;rw[Nt,NF,Oy];by_cases c:e.1=a
  ·subst c;simp
  ·simp only[c,decide_false,(by simpa using NZ c:(a==e.1)=false)];exact d
theorem rS(b:List aC)(a:Int):(ay (b.map Hm) (.i a)).getD .none=fR (fp b a):=by
 induction b with
 |nil=>rfl
 |cons e b d=>
  unfold fp ay at d⊢;rw[Nt,Oy,Oy];by_cases c:e.1=a
  ·subst c;simp[Hm,fR]
  ·simp only[c,decide_false,(by simp[Hm,c]:decide ((Hm e).1=ae.i a)=false)];exact d
theorem rT(b:List aC)(a:Int):(ay (b.map Hm) (.i a)).isSome=(af (ar b) a).isSome:=by
 rw[<-fS];induction b with
 |nil=>rfl
 |cons e b d=>
  unfold fp ay at d⊢;rw[Nt,Oy,Oy];by_cases c:e.1=a
  ·subst c;simp[Hm]
  ·simp only[c,decide_false,(by simp[Hm,c]:decide ((Hm e).1=ae.i a)=false)];exact d
noncomputable def RF(d:Int->List ai->Prop)(c:List Int)(e:List ai):Prop:=∃b:Int->List ai,(∀a∈c,d a (b a))/\e=c.flatMap fun a=>(b a).map (cs (.obj a))
theorem RF.snoc{d:Int->List ai->Prop}{c:List ai}(i:RF d j Js)(l:k∉j)(h:d k c):RF d (j++[k]) (Js++c.map (cs (.obj k))):=by
 refine ah i fun e g=>?_;have f:∀a∈j,(if a=k then c else e a)=e a:=fun a b=>if_neg fun(f:a=k)=>l (f▸b);refine⟨fun a=>if a=k then c else e a,fun a b=>?_,?_⟩
 ·rcases Nu.mp b with b|b
  ·show d a (if a=k then c else e a);rw[f a b];exact g.1 a b
  ·show d a (if a=k then c else e a);rw[if_pos (Nj.mp b),Nj.mp b];exact h
 ·rw[g1];dsimp only;rw[if_pos rfl,g.2];exact congrArg (·++_) (et fun a b=>by rw[f a b])
theorem sE{S:aa}(a:cZ S IT):IT.length<=1000:=by have:=a.ca;exact aj (Nh a.2.2.2) rfl
section
variable{S:aa}
noncomputable abbrev Al:List Str:=["one","other","rows","number"]
theorem gV(P:Pg){KT K7 La:Addr}(e:bv S d H IX Jj q v IT b)(g:bv S JE KT K7 La Jd JH JG L)
(K6:∀a f D,af (ar IT) a=some f->af (ar JG) a=some D->f.same D)(U:∀y h,cw (ar IT) (ar JG) b L h->M (.ref y) ((y,.list (h.map ai.GP))::S)):
  GN 6 (.ref 444) [.ref d,.ref JE] S M:=by
 have j:=e.tab;have x:=g.tab;have KY:(dI (ar IT) (ar JG)).Nodup:=uA (by rw[dG];exact j.GO) (by rw[dG];exact x.GO);have N:((JG.map (fun x=>x.1)).filter fun a=> !(af (ar IT) a).isSome).length<=20:=mf (Ov ..) (by rw[Nb];exact Nq x.ca);have Q:(IT.map (fun x=>x.1)).length<=20:=by rw[Nb];exact Nq j.ca
 have O:∀{IT:List aC},cZ S IT->∀{a p},fp IT a=some p->∀{Z KS:Addr×GL},bE (Z::KS::S) p.1 p.2/\p.2.ok:=fun j w w r w w=>⟨(j.ents _ (i9 r)).there.there,j.cr _ (i9 r)⟩
 have T:∀{IT:List aC},cZ S IT->∀{a f},af (ar IT) a=some f->f.ok:=fun j a f t=>by
  replace t:=(fS _ _).symm▸t;refine ah (Po.mp t) fun p V=>?_;obtain rfl:=V.2;exact j.cr _ (i9 V.1)
 refine aS Al [some (.ref d),some (.ref JE),none,none] P.T P.rN adb rfl fun Lb l A Lc KW=>?_;refine aH ?_;have Lg:=e.inst;have Lh:=e.table;have Li:=g.table;exists 1;intro R;exists 0;exists eK P l (by walk_at "nlook") (ac e.inst) ?_;refine fd P.GY (ks:=IT.map Hm) (ac e.table) (bC (by rw[Nb];exact sE j)) fun Lk=>?_;exists au (uB IT) ?_;refine cy ["number","one"] l (by exists 4) (by exists 4) ?_;refine eK P l (by walk_at "nlook") (ac (ac g.inst)) ?_;refine fb JG (fun m=>(Hm m).1.GP) (fun m=> !(af (ar IT) m.1).isSome) (fun m=>.int m.1) [none,some (.ref d)] (m9 (ep:=Jd) A.GR P.GY Hm) (bC (sE x)) (ac (ac g.table)) (fun U e=>ac e) (bm.start (by walk_at "ncaps") l.GO) (fun m Lr y Ld Lj=>?_) fun Ll=>?_
 ·refine b2 ["number","one"] ["number"] [] ["one"] l A (by exists 4) (by exists 4) fun E Lo=>?_;refine aZ E (by exists 2) (by walk_at "nput") ?_;refine fW ?_;refine lp (by with_unfolding_all rfl) ?_;walk_at "m1";refine eK P E (by walk_at "nlook") (ac (ac (ac e.inst))) ?_;exists oP P (ac (ac (ac e.table))) ?_;exists⟨by rw[rT],fun w=>?_,fun w=>⟨fun Jj K9=>aD.val (by exists 3) _ Jj K9,Le.refl _⟩⟩;exact cp rfl (by exists 3) (Le.refl _)
 have KU:(JG.filter fun m=> !(af (ar IT) m.1).isSome).map (fun m=>GG.int m.1)=((JG.map (fun x=>x.1)).filter fun a=> !(af (ar IT) a).isSome).map GG.int:=by
  rw[Qv,Nf];rfl
 refine au KU ?_;refine eA (by exists 2) (by exists 2) (by rw[Nb,Nb,Nb];rw[Nb]at Q;exact bC (aj (No (Nh e.2.2.2.1.2.2.2) N) rfl)) fun Lm=>?_;exists dY (Ng ..) ?_;refine rk (out:=(dI (ar IT) (ar JG)).map .int) (.inl am) (by unfold dI;rw[dG,dG];exact cg.int _) (by rw[Nb,Nm];exact aj (Np (No Q N) 1) rfl) fun K1=>?_;refine dv A.GR (dI (ar IT) (ar JG)) GG.int (fun w w=>[some (.ref d),some (.ref JE),some (.ref R),none]) (fun w h=>(K1,.list ((dI (ar IT) (ar JG)).map .int))::(R,.list (h.map ai.GP))::S) (fun z h=>RF (fun a=>gb (af (ar IT) a) (af (ar JG) a)) z h/\h.length<=60*z.length) [] (aD.refl _) (Le.take (Le.skip (Le.skip (Le.skip (Le.refl _))))) ⟨⟨fun w=>[],bs,rfl⟩,Ni _⟩ (fun w w=>am) ?_ ?_
 ·intro z a Ln h f n Lf K2;have K0:z.length<40:=Oj (cc f) (mf (uz ..) (by rw[ar,ar,Nb,Nb];have K8:=j.ca;have B:=x.ca;exact aj (No (Nh e.2.2.2.1.2.2.2) (Nh g.2.2.2.1.2.2.2)) rfl));have I:=ui.mp (bd f);exists aZ l (by exists 2) (by walk_at "nput") ?_;exists eK P l (by walk_at "nlook") (ac (ac e.inst)) ?_;refine gm (k:=.i a) P.GY (ac (ac e.table)) ?_;exists au (rS IT a) ?_;exists eK P l (by walk_at "nlook") (ac (ac g.inst)) ?_;refine gm (k:=.i a) P.GY (ac (ac g.table)) ?_;exists au (rS JG a) ?_;refine GN.lv (zI P (o:=fp IT a) (o':=fp JG a) (fun p r=>O j r) (fun p r=>O x r) (fun p K3 r KZ=>K6 a p.2 K3.2 (by rw[<-fS,r];rfl) (by rw[<-fS,KZ];rfl)) ?_ fun y K5 s=>?_)
  ·rw[<-dT,<-dT,<-fS,<-fS]at I;exact I.imp (fun u f=>by replace u:=f▸u;cases u) fun u f=>by replace u:=f▸u;cases u
  replace s:=(fS _ _)▸(fS _ _)▸s;have G:=ach s (fun f t=>T j t) (fun f t=>T x t);exists 0;refine mh (by walk_at "nupd") am (by have:=n.2;rw[Nb,Nb];exact aj (Np (No (mf n.2 (OI 60 (Nh K0))) G) 1) rfl) ?_;exists 0;exact K2.n (h++K5.map (cs (.obj a))) ⟨n.1.snoc (fun e=>ez (f:=_root_.id) ((Oi _).symm▸KY) f ((Oi _).symm▸e)) s,by have:=n.2;rw[Nm,Nb,Nm,P7];exact No n.2 G⟩ (by exists 3) (Le.skip (Le.take (Le.gY (by rw[Ng,Nf];rfl))))
 intro h n;have K4:h.length<=2400:=by
  have K8:=n.2;have B:=uz (ar IT) (ar JG);rw[ar,ar,Nb,Nb]at B;have Lp:=j.ca;have Lq:=x.ca;unfold ar at*;exact aj (mf n.2 (OI 60 (mf B (No (Nh e.2.2.2.1.2.2.2) (Nh g.2.2.2.1.2.2.2))))) rfl
 exists 0;exists iD P l (by walk_at "nlook") (ac (ac e.inst)) ?_;exists(iI P (ac (ac e.cd)) (gB e.ok.1)).go (by decide) (bt ?_);exists iD P l (by walk_at "nlook") (ac (ac g.inst)) ?_;exists(iI P (ac (ac g.cd)) (gB g.ok.1)).go (by decide) (bt ?_);refine GN.lv (ri P (e:=.d (as b)) (e':=.d (as L)) trivial (ag.eX e.ok) (ag.eX g.ok) (path:=[.tup [.str "trailer"]]) (by show 1<50;decide) fun y C s=>?_);have KX:=ss s (ag.eX e.ok) (ag.eX g.ok);refine eA (by exists 2) (by exists 2) (by have:=Nl;rw[Nb,Nb];exact mf (aj (c:=16777216) (No K4 KX) rfl) (Nd Nl.symm)) fun Y=>?_;exists 0;refine ah n.1 fun KV X=>?_;exact KW.r (U Y (h++C.map fun J=>([.cd,J.1],J.2)) ⟨KV,C,X.1,s,by rw[X.2]⟩) (Le.eqv (by rw[Ng,Nf];rfl) (Le.skip (Le.skip (Le.skip (Le.refl _)))))
end
section
variable{S:aa}
theorem kS(h:aw e.A q)(c:cf S d z)(f:cf S H [])(g:B (.bool z.isEmpty) t S):
  aE e (compareOp .Eq) (.ref d) (.ref H) VR t S B:=by
 cases z with
 |nil=>exact kR h c f (fun i a=>nomatch a) (fun i a=>nomatch a) (by rw[j5];exact g)
 |cons i z=>
  intro o p r b m n;cases m;cases n;refine ah (b.led.listAt c) fun s j=>?_;refine ah (b.led.listAt f) fun u k=>?_;exact RcAt.lists_lengths j.1 k.1 (bne_iff_ne.mpr fun l=>nomatch(fX j.2).symm.trans (l.trans (fX k.2))) (NV (Nv ..) h.u) prog w _ _ (b3 b (.bool _) g)
theorem eZ{xs:List GG}(h:aw e.A q)(c:cf S d xs)(f:cf S H [])(g:B (.bool (!xs.isEmpty)) t S):
  aE e (compareOp .NotEq) (.ref d) (.ref H) VR t S B:=by
 cases xs with
 |nil=>exact uQ h c f (fun i a=>nomatch a) (fun i a=>nomatch a) (by rw[j5];exact g)
 |cons i xs=>
  intro o p r b m n;cases m;cases n;refine ah (b.led.listAt c) fun s j=>?_;refine ah (b.led.listAt f) fun u k=>?_;exact RcNeAt.lists_lengths j.1 k.1 (bne_iff_ne.mpr fun l=>nomatch(fX j.2).symm.trans (l.trans (fX k.2))) (NV (Nv ..) h.u) prog w _ _ (b3 b (.bool _) g)
end
noncomputable def fs(b:Str)(a:ai):Bool:=a.1.isEmpty&&decide (a.2.way=b)
noncomputable def c5(a:List ai)(b:Str):GG:=match a.filter (fs b)with
 |[]=>.none
 |r::_=>r.GP
section
variable{S:aa}
theorem c2(P:Pg)(c:Jh=true)(d:1<=q)(e:M .none S):GN q (.ref 451) [.bool Jh,.str h] S M:=by
 subst c;exact(zF P).go d fun Jh g f=>by obtain⟨a,b⟩:=f;subst a;subst b;exact e
theorem jJ(P:Pg){rows:List ai}{way:Str}(n:(d,GL.list (rows.map ai.GP))∈S)(B:rows.length<3000)(r:(rows.filter (fs way)).length<2):
  GN 2 (.ref 463) [.ref d,.str way] S (fun p o=>p=c5 rows way/\o=S):=by
 refine aS ["rows","way","found"] [some (.ref d),some (.str way),none] P.T P.sm aeg rfl fun v e g y l=>?_;refine aH ?_;exists g8 ["row","way"] e (by exists 2) (by exists 4) (by exists 4) (by exists 4) (by exists 4) ?_;refine fb rows ai.GP (fs way) ai.GP [none,some (.str way)] (dj g.GR) (by omega) (.inl n) (fun C a=>.inl (ac n)) (bm.start (by walk_at "ncaps") e.GO) (fun c E j z A=>?_) fun j=>?_
 ·refine b2 ["row","way"] ["row"] [] ["way"] e g (by exists 4) (by exists 4) fun q u=>?_;refine aZ q (by exists 2) (by walk_at "nput") ?_;exists fW ?_;refine ee u (eo c.1) (by intro D s;cases s) ?_;rw[sy];exists 0;have b:fs way c=(c.1.isEmpty&&decide (c.2.way=way)):=rfl;refine⟨fun a=>?_,fun a=>?_⟩
  ·rw[a,Bool.true_and]at b;exists 0;refine⟨fun f=>?_,fun f=>?_⟩
   ·rw[f]at b;exists 0;exists⟨b.symm,fun w=>?_,fun a=>nomatch a⟩;exact cp rfl (by exists 3) (by walk_at "nle")
   ·rw[f]at b;exact⟨b.symm,fun a=>(nomatch a),fun w=>⟨fun i h=>aD.val (by exists 3) _ i h,by walk_at "nle"⟩⟩
  ·rw[a,Qf]at b;exact⟨b.symm,fun a=>(nomatch a),fun w=>⟨fun i h=>aD.val (by exists 3) _ i h,by walk_at "nle"⟩⟩
 ·exists 0;exists c2 P (decide_eq_true (Og (N6.mpr (Nh r)) (by decide))) (by decide) ?_;intro x;exists eZ g (.inl (by exists 2)) (.inl am) ?_;cases m:rows.filter (fs way)with
  |nil=>
   exists bx rfl ?_;exact l.r ⟨by unfold c5;rw[m],rfl⟩ (by walk_at "nle")
  |cons c t=>
   exists bN rfl ?_;refine cB (k:=0) (.inl (show(j,GL.list ((c::t).map ai.GP))∈_ by exists 2)) rfl (by decide) ?_ (by intro _ _;with_unfolding_all rfl);exists 0;exact l.r ⟨by unfold c5;rw[m],rfl⟩ (by walk_at "nle")
end
structure lw(f:Type)[DecidableEq f]where
 HS:Nat->List (f×GG)->GL
 GP:f->GG
 new:∀{g:GU}{h:ab}{S:aa}{j:Pos}{e:GG->ab->aa->Prop},(∀a GH,e (.ref a) h ((a,HS GH [])::S))->GK g (eval (.Dict [] [] j) g.env) VR h S e
 g5:∀{g:GU}{h:ab}{S:aa}{d:Addr}{GH:Nat}{b:List (f×GG)},(d,HS GH b)∈S->cJ g (.ref d) "setdefault" h S (.builtin "dict.setdefault") [.ref d]
 there:∀{S:aa}{n:Nat}{d:Addr}{GH:Nat}{b:List (f×GG)}{k:f}{c a:GG}{e:GG->aa->Prop},(d,HS GH b)∈S->b.length<=sizeLine->ay b k=some a->e a S->GN n (.builtin "dict.setdefault") [.ref d,GP k,c] S e
 fresh:∀{S:aa}{n:Nat}{d:Addr}{GH:Nat}{b:List (f×GG)}{k:f}{c:GG}{F:GL->aa}{e:GG->aa->Prop},bk d (HS GH b) S F->b.length<=sizeLine->ay b k=none->(∀i,e c (F (HS i (b++[(k,c)]))))->GN n (.builtin "dict.setdefault") [.ref d,GP k,c] S e
noncomputable def Ay(e:∃g,base.get? sysModules=some g):lw ae where
 HS:=GL.dict
 GP:=ae.GP
 new:=fun a=>eJ a
 g5:=fun f=>Gy f
 there:=fun b c d a=>zR e b c d a
 fresh:=fun b c d a=>zQ e b c d a
noncomputable def rY(e:∃g,base.get? sysModules=some g):lw (List ae) where
 HS:=GL.bD
 GP:=ei
 new:=fun a=>xt a
 g5:=fun f=>Gz f
 there:=fun b c d a=>zP e b c d a
 fresh:=fun b c d a=>zO e b c d a
section
variable{κ:Type}[DecidableEq κ]
noncomputable abbrev cP(κ:Type):=κ×Addr×List ai
noncomputable def HT(a:cP κ):κ×GG:=(a.1,.ref a.2.1)
noncomputable def Hn(a:cP κ):Addr×GL:=(a.2.1,.list (a.2.2.map ai.GP))
noncomputable def G8(a:cP κ):κ×List ai:=(a.1,a.2.2)
noncomputable def b0(b:List (κ×List ai))(c:κ)(d:ai):List (κ×List ai):=if b.any (fun a=>decide (a.1=c))then b.map (fun a=>if a.1=c then(a.1,a.2++[d])else a)else b++[(c,[d])]
noncomputable def b1(c:List (κ×ai)):List (κ×List ai):=c.foldl (fun b a=>b0 b a.1 a.2) []
theorem Db(b:List (κ×ai))(a:κ×ai):b1 (b++[a])=b0 (b1 b) a.1 a.2:=by unfold b1;rw[R8];rfl
theorem C0{c:List (κ×List ai)}{f:κ}{g:ai}(d:(c.map (fun x=>x.1)).Nodup):((b0 c f g).map (fun x=>x.1)).Nodup:=by
 unfold b0
 split
 ·rw[Nf];have b:((fun x=>x.1)∘fun a:κ×List ai=>if a.1=f then(a.1,a.2++[g])else a)=(fun x=>x.1):=by funext a;simp only[P8];split<;>rfl
  rw[b];exact d
 ·rename_i j
  rw[Ng,NK];refine⟨d,by simp,fun k i l e b=>?_⟩;rw[Nt,Ph,Nj]at e;subst e;subst b;refine ah (Na.mp i) fun a h=>?_;exact j (N8.mpr ⟨a,h.1,decide_eq_true h.2⟩)
theorem s7(a:List (κ×ai)):((b1 a).map (fun x=>x.1)).Nodup:=by
 have:∀(a:List (κ×ai))(b:List (κ×List ai)),(b.map (fun x=>x.1)).Nodup->((a.foldl (fun b d=>b0 b d.1 d.2) b).map (fun x=>x.1)).Nodup:=by
  intro a;induction a with
  |nil=>intro b c;exact c
  |cons d a e=>intro b c;exact e _ (C0 c)
 exact this a [] (by simp)
theorem C1(a:List (κ×List ai))(b:κ)(c:ai):(b0 a b c).length<=a.length+1:=by unfold b0;split<;>simp
theorem s6(a:List (κ×ai)):(b1 a).length<=a.length:=by
 have:∀(a:List (κ×ai))(b:List (κ×List ai)),(a.foldl (fun b c=>b0 b c.1 c.2) b).length<=b.length+a.length:=by
  intro a;induction a with
  |nil=>intro b;simp
  |cons c a d=>intro b;have e:=d (b0 b c.1 c.2);have f:=C1 b c.1 c.2;rw[OH,N4];omega
 have:=this a [];rw[Qp,R9]at this;exact this
theorem CJ(a:List (cP κ)):(a.map G8).map (fun x=>x.1)=a.map (fun x=>x.1):=by rw[Nf];rfl
theorem s0(b:List (cP κ))(c:κ):((b.map G8).any fun a=>decide (a.1=c))=b.any fun a=>decide (a.1=c):=by rw[P6];rfl
theorem Ao{d:κ}:∀{b:List (cP κ)},(b.any fun a=>decide (a.1=d))=false->ay (b.map HT) d=none:=by
 intro b c;unfold ay;rw[R5,PU];intro g f;obtain⟨a,e,rfl⟩:=Na.mp f;replace c:=List.any_eq_false.mp c;exact c a e
theorem aaf{a:List (cP κ)}(b:(a.map (fun x=>x.1)).Nodup):((a.map HT).map (fun x=>x.1)).Nodup:=by rw[Nf];exact b
end
section
variable{S:aa}{κ:Type}[DecidableEq κ]
theorem C7(g:List (κ×ai)):∀(d:Nat)(c:List (κ×List ai)),(∀b∈c,b.2.length<=d)->∀b∈g.foldl (fun c f=>b0 c f.1 f.2) c,b.2.length<=d+g.length:=by
 induction g with
 |nil=>exact fun d c e=>e
 |cons f g j=>
  intro d c e b a;rw[N4,OJ g.length,<-Pp];refine j (d+1) (b0 c f.1 f.2) (fun b a=>?_) b a;unfold b0 at a
  split at a
  ·refine ah (Na.mp a) fun i h=>?_;obtain rfl:=h.2
   split
   ·rw[Nm];exact Qt (e i h.1)
   ·exact PC (e i h.1)
  ·exact(Nu.mp a).elim (fun a=>PC (e b a)) fun a=>by rw[Nj.mp a];exact N3 1 d
theorem Dc{e:List (cP κ)}{f:κ}(j:(e.any fun i=>decide (i.1=f))=true):∃b a d c,e=b++(f,a,d)::c:=by
 obtain⟨⟨m,a,d⟩,k,g⟩:=N8.mp j;obtain⟨b,c,h⟩:=Sa k;exact⟨b,a,d,c,by rw[h];exact congrArg (fun l=>b++(l,a,d)::c) (of_decide_eq_true g)⟩
theorem C3{a:List (cP κ)}{b:κ}{c:ai}(f:(a.any fun e=>decide (e.1=b))=false):b0 (a.map G8) b c=(a++[(b,d,[c])]).map G8:=by
 rw[b0,if_neg (by rw[s0,f];exact Oe),Ng];rfl
theorem C5{f j:List (cP κ)}{a:κ}{k:ai}(h:((f++(a,d,Js)::j).map (fun x=>x.1)).Nodup):b0 ((f++(a,d,Js)::j).map G8) a k=(f++(a,d,Js++[k])::j).map G8:=by
 have n:∀b∈f,b.1≠a:=fun b c g=>ez h rfl (Na.mpr ⟨b,c,g⟩);have o:=fun b c g=>by
  rw[Ng,NK,Nt,ND]at h;exact h.2.1.1 (Na.mpr ⟨b,c,g⟩)
 have l:∀{i:List (cP κ)},(∀b∈i,b.1≠a)->(i.map G8).map (fun e=>if e.1=a then(e.1,e.2++[k])else e)=i.map G8:=fun m=>by
  rw[Nf];exact N7 fun b c=>if_neg (m b c)
 rw[b0,if_pos (by rw[s0,N8];exact⟨_,NA _ (.head _),decide_eq_true rfl⟩),Ng,Ng,l n,Nt,Nt,l o,if_pos (show(G8 (a,d,Js)).1=a from rfl),Ng];rfl
theorem sZ{b c:List (cP κ)}{a:cP κ}:(b++a::c).map Hn++S=b.map Hn++Hn a::(c.map Hn++S):=by rw[Ng,NR];rfl
theorem Cp{b:List (cP κ)}{a:cP κ}:Le ((b++[a]).map Hn++S) (Hn a::(b.map Hn++S)):=by
 rw[Ng,NR];exact Le.cU OK
theorem Cn{b c:List (cP κ)}{a:κ}{e rs':List ai}:(b++(a,d,e)::c).map HT=(b++(a,d,rs')::c).map HT:=by rw[Ng,Ng];rfl
theorem Co{b:κ}{a:ai}:Hn (b,d,Js++[a])=(d,.list (Js.map ai.GP++[ai.GP a])):=by rw[Hn,Ng];rfl
noncomputable abbrev Cw:List Str:=["rows","found","path","way","old","new"]
theorem p3(P:Pg)(K:lw κ){rows:List (κ×ai)}(H:(d,GL.list (rows.map fun b=>eL (K.GP b.1::b.2.1.map ak.GP) b.2.2))∈S)(x:rows.length<3000)(I:∀b∈rows,b.2.1.length<50)
(Q:∀h l(a:List (cP κ)),a.map G8=b1 rows->M (.ref h) ((h,K.HS l (a.map HT))::(a.map Hn++S))):GN 2 (.ref 458) [.ref d] S M:=by
 refine aS Cw [some (.ref d),none,none,none,none,none] P.T P.rU adc rfl fun T r A U D=>?_;refine aH ?_;refine py r (by exists 2) ?_;exists K.new fun h l=>?_;refine dv A.GR rows (fun b=>eL (K.GP b.1::b.2.1.map ak.GP) b.2.2) (fun w w=>[some (.ref d),some (.ref h),none,none,none,none]) (fun w(f:Nat×List (cP κ))=>(h,K.HS f.1 (f.2.map HT))::(f.2.map Hn++S)) (fun g f=>f.2.map G8=b1 g) (l,[]) (aD.refl _) (Le.refl _) rfl (fun w w=>ac (NA _ H)) ?_ ?_
 ·rintro g ⟨i,k⟩ X ⟨l,a⟩ m j V y;have t:(a.map HT).length<=sizeLine:=by have s:=congrArg List.length j;rw[Nb]at s⊢;exact mf (mf (Nd s) (aj (mf (s6 g) (mf (Nq (cc m)) (Nh x))) rfl)) (Nd Nl.symm)
  have J:k.1.length<50:=I _ (bd m);have B:(k.1.map ak.GP).length<sizeLine:=by rw[Nb];exact mf (aj (c:=16777216) J rfl) (Nd Nl.symm)
  have u:(a.map (fun x=>x.1)).Nodup:=by rw[<-CJ,j];exact s7 g
  have v:b1 (g++[(i,k)])=b0 (a.map G8) i k:=by rw[Db,j]
  have L:∀e∈a,((e.2.2.map ai.GP).length<=sizeLine):=fun e G=>by
   have:=C7 g 0 [] (fun w E=>nomatch E) (G8 e) (j▸Na.mpr ⟨e,G,rfl⟩:G8 e∈b1 g);have this:e.2.2.length<=0+g.length:=this;rw[Nb];exact mf (aj (mf this (No (Ni _) (mf (Nq (cc m)) (Nh x)))) rfl) (Nd Nl.symm)
  exists eg r A (by walk_at "nputs") ?_;refine c2 P (decide_eq_true (by rw[N4];exact Ol.mpr (mf (NQ rfl:1<=1) (N3 _ _)))) (by decide) ?_;exists 0;exists dy (K.g5 am) dw ?_;intro q;exists 0;cases n:a.any fun e=>decide (e.1=i)with
  |false=>
   exists K.fresh (k:=i) (F:=fun N=>(q,.list [])::(h,N)::(a.map Hn++S)) (bk.there bk.here) t (Ao n) fun C=>?_;exists c6 (lo:=some 1) (hi:=none) (gD B ?_);refine y.n (C,a++[(i,q,[k])]) (C3 n▸v.symm) (by exists 3) ?_;exact((Le.take Cp).trans (Le.cU (List.Perm.swap ..))).trans (by rw[Ng];exact Le.refl _)
  |true=>
   obtain⟨z,p,o,O,rfl⟩:=Dc n;refine K.there (k:=i) (ac am) t (hA (aaf u) (Na.mpr ⟨_,(NA _ (.head _)),rfl⟩)) ?_;refine au sZ ?_;exists dy (un (l:=p) (xs:=o.map ai.GP) (ac (ac (NA _ (.head _))))) dw ?_;exists c6 (lo:=some 1) (hi:=none) (gD B ?_);exists pZ (.there (.there (lg (z.map Hn)))) (L _ (NA _ (.head _))) ?_;refine y.n (l,z++(i,p,o++[k])::O) (C5 u▸v.symm) (by exists 3) (Le.skip ?_);refine(Le.take (Le.cU (.of_eq sZ))).trans ?_;rw[Co,Cn (rs':=o)];exact Le.refl _
 ·rintro f j;exists 0;exact D.r (Q h f.1 f.2 j) (Le.refl _)
end
set_option genInjectivity true in
inductive G1 where
 |add (a:Int)
 |del (u:Int)
 |set (u a:Int)
variable{Jp:List (Nat×G1)}
noncomputable def G1.cL:G1->a9
 |.add b=>.added (ap b)
 |.del a=>.gone (ap a)
 |.set a b=>.turned (ap a) (ap b)
noncomputable def dz(c:List (Str×Int))(b:Str)(d:Int):List (Str×Int):=if c.any (fun a=>decide (a.1=b))then c.map (fun a=>if a.1=b then(a.1,d)else a)else c++[(b,d)]
noncomputable def fq(c:List (Str×Int))(a:Str):List (Str×Int):=c.filter fun b=> !decide (b.1=a)
noncomputable def eN(b:List (Str×Int))(a:Str×G1):List (Str×Int):=match a.2 with
 |.add c=>dz b a.1 c
 |.del _=>fq b a.1
 |.set _ c=>dz b a.1 c
noncomputable def bJ(b:List (Str×Int))(a:List (Str×G1)):List (Str×Int):=a.foldl eN b
noncomputable def f5(b:List (Str×Int))(a:Str×G1):Prop:=match a.2 with
 |.add _=>ax b a.1=false
 |.del c=>ax b a.1=true/\av b a.1=c
 |.set c _=>ax b a.1=true/\av b a.1=c
theorem w5(c:List (Str×Int))(b:Str):((c.map Hy).any fun a=>decide (a.1=ae.s b))=c.any fun a=>decide (a.1=b):=by
 rw[P6];congr 1;funext a;simp[Hy]
theorem sg(b:List (Str×Int))(a:Str)(c:Int):a6 (b.map Hy) (.s a) (ap c)=(dz b a c).map Hy:=by
 delta a6 dz;rw[w5]
 split
 ·rw[Nf,Nf];apply N7;intro d _;simp only[P8,Hy,ae.s.injEq];split<;>rfl
 ·rw[Ng];rfl
theorem Af(b:List (Str×Int))(a:Str):c8 (b.map Hy) (.s a)=(fq b a).map Hy:=by
 delta c8 fq;rw[Qv];congr 1;apply OQ;intro c _;simp[Hy]
theorem u9(a:List (Str×Int))(b:Str)(c:Int):(dz a b c).length<=a.length+1:=by unfold dz;split<;>simp
theorem AJ(a:List (Str×Int))(b:Str×G1):(eN a b).length<=a.length+1:=by
 unfold eN
 split
 ·exact u9 ..
 ·have:=Ov (fun c:Str×Int=> !decide (c.1=b.1)) a;exact mf this (Nv _ _)
 ·exact u9 ..
theorem rP:∀(b:List (Str×G1))(a:List (Str×Int)),(bJ a b).length<=a.length+b.length
 |[],a=>by simp[bJ]
 |c::b,a=>by
  have:=rP b (eN a c);have:=AJ a c;unfold bJ at*;rw[OH,N4];omega
theorem FW(e:I5≠h):(b.map fun a=>if a.1=h then(a.1,k)else a).lookup I5=b.lookup I5:=by
 induction b with
 |nil=>rfl
 |cons a b f=>
  rw[Nt,eT,eT,f];by_cases c:a.1=h
  ·rw[if_pos c,if_neg (fun d=>e (d.symm.trans c))];exact(if_neg (fun d=>e (d.symm.trans c))).symm
  ·rw[if_neg c]
theorem FV(d:(b.any fun a=>decide (a.1=h))=true):(b.map fun a=>if a.1=h then(a.1,k)else a).lookup h=some k:=by
 induction b with
 |nil=>cases d
 |cons a b e=>
  rw[Nt,eT];by_cases c:a.1=h
  ·rw[if_pos c];exact if_pos c
  ·rw[if_neg c,if_neg c];rw[OM,decide_eq_false c,P0]at d;exact e d
theorem FS(c:¬(b.any fun d=>decide (d.1=h))=true):b.lookup h=none:=by
 cases a:b.lookup h with
 |none=>rfl
 |some e=>exact absurd (N8.mpr ⟨_,bI a,decide_eq_true rfl⟩) c
theorem kA(e:List (Str×Int))(b:Str)(f:Int)(c:Str):(dz e b f).lookup c=if c=b then some f else e.lookup c:=by
 unfold dz;by_cases d:(e.any fun h=>decide (h.1=b))=true
 ·rw[if_pos d];by_cases a:c=b
  ·rw[if_pos a,a];exact FV d
  ·rw[if_neg a];exact FW a
 ·rw[if_neg d,O4,eT];by_cases a:c=b
  ·rw[if_pos a,if_pos a.symm,a,FS d];rfl
  ·rw[if_neg a,if_neg fun g=>a g.symm];exact Option.or_none
theorem t4(e:List (Str×Int))(b c:Str):(fq e b).lookup c=if c=b then none else e.lookup c:=by
 unfold fq;induction e with
 |nil=>exact(ite_self _).symm
 |cons h e g=>
  rw[eT];by_cases d:h.1=b
  ·rw[PM (by rw[decide_eq_true d];exact Oe),g];by_cases a:c=b
   ·rw[if_pos a,if_pos a]
   ·rw[if_neg a,if_neg a,if_neg fun f=>a (f.symm.trans d)]
  ·rw[PL (by rw[decide_eq_false d];rfl),eT,g];by_cases a:c=b
   ·rw[if_pos a,if_pos a,if_neg fun f=>d (f.trans a)]
   ·rw[if_neg a,if_neg a]
theorem eQ(b:List (Str×Int))(c:Str):ax b c=(b.lookup c).isSome:=by
 unfold ax;induction b with
 |nil=>rfl
 |cons e b d=>
  rw[OM,eT,d];by_cases a:e.1=c
  ·rw[if_pos a,decide_eq_true a];rfl
  ·rw[if_neg a,decide_eq_false a,P0]
theorem tZ(d:List (Str×Int))(b:Str×G1)(c:Str)(a:c≠b.1):(eN d b).lookup c=d.lookup c:=by
 obtain⟨h,e⟩:=b;cases e with
 |add g=>exact(kA ..).trans (if_neg a)
 |del f=>exact(t4 ..).trans (if_neg a)
 |set f g=>exact(kA ..).trans (if_neg a)
theorem tY:∀(c:List (Str×G1))(d:List (Str×Int))(a:Str),(∀b∈c,a≠b.1)->(bJ d c).lookup a=d.lookup a
 |[],_,_,_=>rfl
 |b::c,d,a,e=>by
  have:=tY c (eN d b) a fun g f=>e g (.tail _ f);unfold bJ at*;rw[OH,this,tZ _ _ _ (e b (.head _))]
theorem C9[DecidableEq D](b:I1->D)(d:I1->ai):∀(c:List I1),(c.map b).Nodup->b1 (c.map fun a=>(b a,d a))=c.map fun a=>(b a,[d a]):=by
 have:∀(c e:List I1),((e++c).map b).Nodup->(c.map fun a=>(b a,d a)).foldl (fun k g=>b0 k g.1 g.2) (e.map fun a=>(b a,[d a]))=(e++c).map fun a=>(b a,[d a]):=by
  intro c;induction c with
  |nil=>intro e _;simp
  |cons a c n=>
   intro e f;rw[Nt,OH];have m:b0 (e.map fun a=>(b a,[d a])) (b a) (d a)=(e++[a]).map fun a=>(b a,[d a]):=by
    unfold b0;rw[if_neg,Ng];rfl;intro l;refine ah (N8.mp l) fun o i=>?_;refine ah (Na.mp i.1) fun h j=>?_;obtain rfl:=j.2;rw[Ng,Nt,NK]at f;exact f.2.2 (b h) (Na.mpr ⟨h,j.1,rfl⟩) (b a) (.head _) (of_decide_eq_true i.2)
   rw[m,n (e++[a]) (by rw[NR];exact f),NR];rfl
 intro c f;exact this c [] (f)
section
variable{S:aa}
theorem zN(P:Pg)(e:(d,GL.list [])∈S):GN 3 (.ref 470) [i,.ref d] S (fun b a=>b=i/\a=S):=by
 refine aS ["shape","rows","turned"] [some i,some (.ref d),none] P.T P.iM kQ rfl fun g k f j c=>?_;exists aH ?_;intro h;refine kS f (.inl (ac e)) (.inl am) ?_;exists 1;exact c.r ⟨rfl,rfl⟩ (by walk_at "nle")
theorem ai2(a b:GG):c5 [([],.turned a b)] "turned"=ai.GP ([],.turned a b):=by
 unfold c5;rw[Of,if_pos (by unfold fs;simp[a9.way])]
theorem vJ(a:a9)(c:Str):c5 [([],a)] c=if a.way=c then ai.GP ([],a)else .none:=by
 unfold c5;by_cases b:a.way=c
 ·rw[Of,if_pos (by unfold fs;simp[b]),if_pos b]
 ·rw[Of,if_neg (by unfold fs;simp[b]),if_neg b];rfl
theorem vH{c:a9}(a:c.way=h):c5 [([],c)] h=ai.GP ([],c):=by rw[vJ,if_pos a]
theorem k5{c:a9}(a:decide (c.way=h)=false):c5 [([],c)] h=.none:=by rw[vJ,if_neg (of_decide_eq_false a)]
theorem amj:decide (("added":Str)="gone")=false:=by exists 4
theorem am0:decide (("gone":Str)="added")=false:=by exists 4
theorem am1:decide (("turned":Str)="added")=false:=by exists 4
theorem am2:decide (("turned":Str)="gone")=false:=by exists 4
theorem vE:c5 [([],.added i)] "gone"=.none:=k5 (c:=.added i) amj
theorem vF:c5 [([],.gone i)] "added"=.none:=k5 (c:=.gone i) am0
theorem aij:c5 [([],.turned i Jn)] "added"=.none:=k5 (c:=.turned i Jn) am1
theorem vG:c5 [([],.turned i Jn)] "gone"=.none:=k5 (c:=.turned i Jn) am2
theorem vD:c5 [([],.added i)] "added"=ai.GP ([],.added i):=vH (c:=.added i) rfl
theorem om:c5 [([],.gone i)] "gone"=ai.GP ([],.gone i):=vH (c:=.gone i) rfl
theorem en(P:Pg){a:a9}(b:c5 [([],a)] h=i)(c:(d,GL.list [ai.GP ([],a)])∈S)(e:M i S):GN 2 (.ref 463) [.ref d,.str h] S M:=
 (jJ P (rows:=[([],a)]) (way:=h) c (show 1<3000 by decide) (NV (Ov _ _) (show 1<2 by decide))).go (by decide) (bt (b▸e))
theorem re(P:Pg){a b:GG}(c:aQ 20 a)(i:GG.bf a a=true)(e:(d,GL.list [ai.GP ([],.turned a b)])∈S):GN 3 (.ref 470) [a,.ref d] S (fun j g=>j=b/\g=S):=by
 refine aS ["shape","rows","turned"] [some a,some (.ref d),none] P.T P.iM kQ rfl fun k n f m h=>?_;exists aH ?_;intro l;refine kS f (.inl (ac e)) (.inl am) ?_;exists 1;refine(jJ P (rows:=[([],.turned a b)]) (way:="turned") (ac e) (by simp) (by refine NV (Ov _ _) ?_;simp)).go (Ni _) (bt ?_);rw[ai2];exists 1;exists ee f c c ?_;exists c2 P i (NQ rfl) ?_;exact h.r ⟨rfl,rfl⟩ (by walk_at "nle")
theorem zn(P:Pg)(n:(d,HO q b)∈S)(c:b.length<60):GN 1 (.ref 475) [.ref d] S (fun j i=>j=bz (as b)/\i=S):=by
 refine aS ["pairs"] [some (.ref d)] P.T P.rM ada rfl fun u a f v l=>?_;exists aH ?_;exists cy ["key","pairs"] a (by exists 4) (by exists 4) ?_;have k:((b.map Hy).map fun t=>t.1.GP)=(b.map (fun x=>x.1)).map GG.str:=by rw[Nf,Nf];rfl
 refine mq P.GY n (by rw[Nb];exact aj c rfl) (out:=(cD (b.map (fun x=>x.1))).map .str) (by rw[k];exact cg.str _) fun z=>?_;have p:(cD (b.map (fun x=>x.1))).length=b.length:=by rw[(cO _).length_eq,Nb]
 refine d8 (cD (b.map (fun x=>x.1))) GG.str (fun e=>fr (e,av b e)) [none,some (.ref d)] (dj f.GR) (mf (aj (mf (Nd p) (Nh c)) rfl) (Nd Nl.symm)) (.inl am) (fun A y=>.inl (ac am)) (bm.start (by walk_at "ncaps") a.GO) (fun g C h x r=>?_) fun h=>?_
 ·have o:ay (b.map Hy) (.s g)=some (ap (av b g)):=by rw[hy,bw.mpr ((cO _).mem_iff.mp r)];rfl
  refine b2 ["key","pairs"] ["key"] [] ["pairs"] a f (by exists 4) ((by decide)) fun m B=>?_;exists aZ m (by exists 2) (by walk_at "nput") ?_;exists cu (by exists 2) o ?_;exact cp rfl (by exists 3) (by walk_at "nle")
 ·exists 0;exists iJ (.inl am) (by walk_at "nsz") ?_;refine l.r ⟨?_,rfl⟩ (by walk_at "nle");simp[bz,as,PR]
noncomputable abbrev fG(a:Str×G1):ai:=([.key a.1],a.2.cL)
section
noncomputable abbrev H4(b:D->ae)(a:D×Addr):ae×GG:=(b a.1,.ref a.2)
noncomputable abbrev H0(b:D->a9)(a:D×Addr):Addr×GL:=(a.2,.list [ai.GP ([],b a.1)])
theorem Dd{k:D->ae}{j:D->a9}{a:List (cP ae)}:∀{d:List D},a.map G8=d.map (fun c=>((k c,[(([],j c):ai)]):ae×List ai))->∃b:List (D×Addr),b.map (fun x=>x.1)=d/\a.map HT=b.map (H4 k)/\a.map Hn=b.map (H0 j):=by
 induction a with
 |nil=>exact fun g=>⟨[],(OS.mp g.symm).symm,rfl,rfl⟩
 |cons f a l=>
  intro d g;refine bB (S0.mp g.symm) fun c d e=>?_;obtain rfl:=e.1;refine aN (l e.3.symm) fun b i=>?_;obtain rfl:=i.1;exact⟨(c,f.2.1)::b,rfl,congr (congrArg List.cons (congrArg (fun h:ae×List ai=>(h.1,GG.ref f.2.1)) e.2.symm)) i.2,congr (congrArg List.cons (congrArg (fun h:ae×List ai=>(f.2.1,GL.list (h.2.map ai.GP))) e.2.symm)) i.3⟩
theorem p4(P:Pg){xs:List D}{key:D->ae}{ch:D->a9}(i:(d,GL.list (xs.map fun a=>eL [(key a).GP] (ch a)))∈S)(j:xs.length<3000)(k:(xs.map key).Nodup)
(l:∀c e(b:List (D×Addr)),b.map (fun x=>x.1)=xs->M (.ref c) ((c,.dict e (b.map (H4 key)))::(b.map (H0 ch)++S))):GN 2 (.ref 458) [.ref d] S M:=by
 refine p3 P (Ay P.GY) (rows:=xs.map fun a=>((key a,(([],ch a):ai)):ae×ai)) (by rw[Nf];exact i) (by rw[Nb];exact j) (fun o h=>by refine ah (Na.mp h) fun y m=>?_;obtain rfl:=m.2;exact(by decide:0<50)) fun c e n g=>?_;rw[C9 key (fun a=>(([],ch a):ai)) xs k]at g;refine aN (Dd g) fun b f=>?_;rw[f.2,f.3];exact l c e b f.1
end
theorem uv{e:D->I1}{key:D->ae}{c:I1->ae}(h:∀f g,c f=c g->f=g)(d:∀a,key a=c (e a)){b:List D}(i:(b.map e).Nodup):(b.map key).Nodup:=by
 rw[show b.map key=(b.map e).map c by rw[Nf];exact N7 fun a y=>d a];exact Op.mpr (i.imp fun j d=>j (h _ _ d))
theorem Am{c:List (Str×G1)}{a:Str×G1}:bJ b (c++[a])=eN (bJ b c) a:=by unfold bJ;rw[R8];rfl
noncomputable abbrev z7:List Str:=["pairs","rows","found","parts","key","added","gone"]
theorem zk(P:Pg){m:List (Str×G1)}(Q:(d,HO q b)∈S)(KX:(H,GL.list (m.map fun a=>ai.GP (fG a)))∈S)(T:b.length<60)(B:m.length<60)
(G:(m.map (fun x=>x.1)).Nodup)(KS:∀a∈m,f5 b a)(n:∀l N,M (.ref l) ((l,HO N (bJ b m))::S)):GN 4 (.ref 482) [.ref d,.ref H] S M:=by
 refine aS z7 [some (.ref d),some (.ref H),none,none,none,none,none] P.T P.rJ ac7 rfl fun X KU V K0 KT=>?_;exists aH ?_;refine jG P.GY Q (by rw[Nb];exact mf (aj (c:=16777216) (Nh T) rfl) (Nd Nl.symm)) fun l Z=>?_;exists 0;have D:=uv (key:=fun a:Str×G1=>ae.s a.1) (fun K2 K3 j=>ae.s.inj j) (fun w=>rfl) G;refine GN.lv (p4 P (xs:=m) (key:=fun a=>.s a.1) (ch:=fun a=>a.2.cL) (ac KX) (aj B rfl) D fun y z i KW=>?_);subst KW;exists 0;refine ka V.GR P.GY (ep:=z) i (H4 fun a=>ae.s a.1) (fun w w=>[some (.ref d),some (.ref H),some (.ref l),some (.ref y),none,none,none]) (fun g C=>(l,HO C (bJ b (g.map (fun x=>x.1))))::(y,.dict z (i.map (H4 fun a=>ae.s a.1)))::(i.map (H0 fun a=>a.2.cL)++S)) (fun w w=>True) Z (aD.refl _) (Le.cU (OK (l₁:=(y,GL.dict z (i.map (H4 fun a=>ae.s a.1)))::i.map (H0 fun a=>a.2.cL))).symm) trivial (fun w w=>ac am) ?_ ?_
 ·rintro g ⟨⟨c,p⟩,v⟩ K4 N j _ K1 E;have e:=KS (c,p) (Na.mpr ⟨_,(bd j),rfl⟩);have k:ay (i.map (H4 fun a=>ae.s a.1)) (.s c)=some (.ref v):=hA (p:=(ae.s c,GG.ref v)) (by rw[Nf]at D⊢;exact D) (Na.mpr ⟨_,(bd j),rfl⟩);have h:∀I n:Addr×GL,(v,GL.list [ai.GP ([],p.cL)])∈I::n::(i.map (H0 fun a=>a.2.cL)++S):=fun w w=>ac (ac (NG _ (Na.mpr ⟨_,(bd j),rfl⟩)));have u:∀I n:Addr×GL,(d,HO q b)∈I::n::(i.map (H0 fun a=>a.2.cL)++S):=fun w w=>ac (ac (NA _ Q));have L:((bJ b (g.map (fun x=>x.1))).map Hy).length<=sizeLine:=by have O:=rP (g.map (fun x=>x.1)) b;rw[Nb]at O B⊢;exact mf (aj (mf O (No (Nh T) (mf (Nq (cc j)) (Nh B)))) rfl) (Nd Nl.symm)
  have J:∀{U:List (Str×Int)},U=eN (bJ b (g.map (fun x=>x.1))) (c,p)->bJ b ((g++[((c,p),v)]).map (fun x=>x.1))=U:=fun t=>by rw[t,Ng];exact Am
  refine(?_:bn X _ (GG.str c) _ _ _ _);exists aZ KU (by exists 2) (by walk_at "nput") ?_;exists c2 P rfl (by decide) ?_;exists cu (by exists 2) k ?_;cases p with
  |add x=>
   exists GN.lv (en P vD (h _ _) ?_);exists cu (by exists 2) k ?_;refine GN.lv (en P vE (h _ _) ?_);exists 1;exists cu (by exists 2) k ?_;exists gn (.inl (h _ _)) (show 1<=sizeLine by exact mf (aj (c:=16777216) (Ni _) rfl) (Nd Nl.symm)) ?_;exists bN rfl ?_;exists wv P (u _ _) ?_;refine c2 P (by rw[hK,show ax b c=false from e];rfl) (by decide) ?_;exists 0;exists hh (by walk_at "nupd") L fun r=>?_;exact E.n r trivial (by exists 3) (by rw[J (show dz (bJ b (g.map (fun x=>x.1))) c x=_ from rfl),HO,<-sg];exact Le.refl _)
  |del o=>
   have e:ax b c=true/\av b c=o:=e;have A:ay (b.map Hy) (.s c)=some (ap o):=by rw[hy,e.1,<-e.2];rfl
   exists GN.lv (en P vF (h _ _) ?_);exists cu (by exists 2) k ?_;refine GN.lv (en P om (h _ _) ?_);exists 1;exists oO P (u _ _) ?_;refine c2 P (by rw[hK,e.1]) (by decide) ?_;exists 1;exists cu (by exists 2) k ?_;exists gn (.inl (h _ _)) (show 1<=sizeLine by exact mf (aj (c:=16777216) (Ni _) rfl) (Nd Nl.symm)) ?_;refine bN rfl ?_;exists 1;exists cu (u _ _) A (hZ V ?_);exists c2 P (decide_eq_true rfl) (by decide) ?_;have KZ:ax (bJ b (g.map (fun x=>x.1))) c=true:=by
    rw[eQ,tY _ _ _ (fun n KY Y=>?_),<-eQ];exact e.1;obtain⟨t,KV,rfl⟩:=Na.mp KY;exact ez (f:=fun t:(Str×G1)×Addr=>t.1.1) (by rw[Nf]at G;exact G) j (Na.mpr ⟨t,KV,Y.symm⟩)
   exists dy (hU am) dw ?_;refine hp (k:=.s c) (.inl rfl) (by walk_at "nupd") L (by rw[hy,KZ];rfl) fun r=>?_;exists 0;exact E.n r trivial (by exists 3) (by rw[J (show fq (bJ b (g.map (fun x=>x.1))) c=_ from rfl),HO,<-Af];exact Le.refl _)
  |set o x=>
   have A:ay (b.map Hy) (.s c)=some (ap o):=by rw[hy,e.1,<-e.2];rfl
   exists GN.lv (en P aij (h _ _) ?_);exists cu (by exists 2) k ?_;refine GN.lv (en P vG (h _ _) ?_);exists 1;exists oO P (u _ _) ?_;refine c2 P (by rw[hK,e.1]) (by decide) ?_;exists 1;exists cu (u _ _) A ?_;exists cu (by exists 2) k ?_;exists(re P (a:=ap o) (b:=ap x) (fH o) (by rw[j4,decide_eq_true rfl]) (h _ _)).go (by decide) (bt ?_);exists hh (by walk_at "nupd") L fun r=>?_;exact E.n r trivial (by exists 3) (by rw[J (show dz (bJ b (g.map (fun x=>x.1))) c x=_ from rfl),HO,<-sg];exact Le.refl _)
 ·intro C _;exists 0;exact KT.r (n l C) (Le.take (Le.skip (Le.eB _ (Le.refl _))))
end
noncomputable abbrev e9(a:Nat×G1):ai:=([.idx (a.1:Nat)],a.2.cL)
noncomputable def m7:G1->Bool
 |.add _=>true
 |_=>false
noncomputable def bi:List (Nat×G1)->List (Nat×Int)
 |[]=>[]
 |(b,.add c)::a=>(b,c)::bi a
 |_::a=>bi a
noncomputable def b8(a:List (Nat×G1)):List (Nat×G1):=a.filter fun b=> !m7 b.2
noncomputable def eS(d:List Int)(b:List (Nat×G1))(a:Nat):List Int:=match b.lookup a with
 |some (.del _)=>[]
 |some (.set _ c)=>[c]
 |_=>[d.getD a 0]
noncomputable def co(c:List Int)(a:List (Nat×G1))(b:Nat):List Int:=(List.range b).flatMap (eS c a)
noncomputable def cq(aG:List (Nat×Int)):Nat->Nat->List Int->List Int
 |0,_,_=>[]
 |n+1,b,a=>match aG.lookup b with
  |some c=>c::cq aG n (b+1) a
  |none=>match a with
   |[]=>cq aG n (b+1) []
   |x::a=>x::cq aG n (b+1) a
theorem ul{aG:List (Nat×Int)}(a:aG.lookup v=some k):cq aG (q+1) v j=k::cq aG q (v+1) j:=by
 show(match aG.lookup v with
  |some k=>k::cq aG q (v+1) j
  |none=>match j with
   |[]=>cq aG q (v+1) []
   |x::j=>x::cq aG q (v+1) j)=_
 rw[a]
theorem Gp{aG:List (Nat×Int)}(a:aG.lookup v=none):cq aG (q+1) v []=cq aG q (v+1) []:=by
 show(match aG.lookup v with
  |some b=>b::cq aG q (v+1) []
  |none=>cq aG q (v+1) [])=_
 rw[a]
theorem nv{aG:List (Nat×Int)}(a:aG.lookup v=none):cq aG (q+1) v (k::j)=k::cq aG q (v+1) j:=by
 show(match aG.lookup v with
  |some b=>b::cq aG q (v+1) (k::j)
  |none=>k::cq aG q (v+1) j)=_
 rw[a]
theorem Gq{aG:List (Nat×Int)}:cq aG 0 q j=[]:=rfl
noncomputable def eH(b:List Int)(a:List (Nat×G1)):List Int:=cq (bi a) ((co b (b8 a) b.length).length+(bi a).length) 0 (co b (b8 a) b.length)
noncomputable def o1(c:List Int)(a:Nat×G1):Prop:=a.1<c.length/\match a.2 with
 |.add _=>False
 |.del b=>c.getD a.1 0=b
 |.set b _=>c.getD a.1 0=b
noncomputable abbrev d1(b:List Int)(a:List (Nat×G1)):Prop:=(((bi a).map (fun x=>x.1)).Nodup)/\(((b8 a).map (fun x=>x.1)).Nodup)/\(∀d∈b8 a,o1 b d)/\(∀c∈bi a,c.1<(co b (b8 a) b.length).length+(bi a).length)
theorem d1.nD(a:d1 j Jp):((bi Jp).map (fun x=>x.1)).Nodup:=a.1
theorem d1.nE(a:d1 j Jp):((b8 Jp).map (fun x=>x.1)).Nodup:=a.2.1
theorem d1.fit(b:d1 j Jp):∀a∈b8 Jp,o1 j a:=b.2.2.1
theorem d1.m5(b:d1 j Jp):∀a∈bi Jp,a.1<(co j (b8 Jp) j.length).length+(bi Jp).length:=b.2.2.2
theorem pb(a:List (Nat×G1))(c:Nat×G1):bi (a++[c])=bi a++bi [c]:=by
 induction a with
 |nil=>rfl
 |cons e a b=>
  obtain⟨g,f⟩:=e;cases f with
  |add d=>exact congrArg (List.cons (g,d)) b
  |del h=>exact b
  |set h d=>exact b
theorem tE(a:List (Nat×G1))(b:Nat×G1):b8 (a++[b])=b8 a++b8 [b]:=by unfold b8;rw[O0]
theorem pa(a:List (Nat×G1)):(bi a).length<=a.length:=by
 induction a with
 |nil=>exact Ni 0
 |cons c a b=>
  obtain⟨g,d⟩:=c;cases d with
  |add f=>exact Qt b
  |del e=>exact PC b
  |set e f=>exact PC b
theorem tD(a:List (Nat×G1)):(b8 a).length<=a.length:=Ov _ _
theorem EW(f:List Int)(b:List (Nat×G1))(a:Nat):(eS f b a).length<=1:=by
 unfold eS;cases b.lookup a with
 |none=>exact Ni 1
 |some c=>cases c with
  |add e=>exact Ni 1
  |del d=>exact NN 1
  |set d e=>exact Ni 1
theorem tt(c:List Int)(b:List (Nat×G1))(a:Nat):(co c b a).length<=a:=by
 have:=eu _ (EW c b) (List.range a);rw[NS]at this;exact this
theorem nb(c:List Int)(a:List (Nat×G1))(b:Nat):co c a (b+1)=co c a b++eS c a b:=by
 unfold co;rw[Qr,OZ,NO,R6,NU]
noncomputable def HM(a:Nat×Int):ae×GG:=(.i (a.1:Nat),ap a.2)
theorem rQ{a:List (Nat×Int)}:ay (a.map HM) (.i (q:Nat))=(a.lookup q).map ap:=mB (f:=HM) (v:=ap) (fun x=>rfl) a
theorem rI{b:Nat×D->ae×GG}(f:∀a,(b a).1=.i (a.1:Nat))(d:List (Nat×D))(c:Nat):c8 (d.map b) (.i (c:Nat))=(d.filter fun a=> !decide (a.1=c)).map b:=by
 unfold c8;rw[Qv];refine congrArg (List.map b) (OQ fun a x=>congrArg (!·) ?_);refine(?_:decide ((b a).1=.i (c:Nat))=decide (a.1=c));rw[f];exact decide_eq_decide.mpr ⟨nc,fun e=>e▸rfl⟩
theorem Ab(b:List (Nat×Int))(a:Nat):c8 (b.map HM) (.i (a:Nat))=(b.filter fun c=> !decide (c.1=a)).map HM:=rI (fun x=>rfl) b a
theorem sI(d:List (Nat×D))(c:Nat):(d.filter fun a=>decide (c<=a.1)).filter (fun a=> !decide (a.1=c))=d.filter fun a=>decide (c+1<=a.1):=by
 rw[List.filter_filter];refine OQ fun a x=>PN.mpr ?_;rw[Ox,Pr,decide_eq_false_iff_not,decide_eq_true_iff,decide_eq_true_iff];exact⟨fun b=>QU b.2 (NZ b.1),fun b=>⟨PY b,Nq b⟩⟩
theorem t3(c:List (Nat×D))(b:Nat):(c.filter fun a=>decide (b<=a.1)).lookup b=c.lookup b:=by
 induction c with
 |nil=>rfl
 |cons a c e=>
  by_cases d:b<=a.1
  ·rw[PL (p:=fun a:Nat×D=>decide (b<=a.1)) (decide_eq_true d),eT,eT,e]
  ·rw[PM (p:=fun a:Nat×D=>decide (b<=a.1)) (fun g=>d (of_decide_eq_true g)),e,eT,if_neg fun f=>d (Nd f.symm)]
theorem sJ(c:List (Nat×D))(b:Nat)(e:c.lookup b=none):(c.filter fun a=>decide (b<=a.1))=c.filter fun a=>decide (b+1<=a.1):=by
 refine OQ fun a g=>?_;have h:b≠a.1:=fun d=>by
  have:=Q6.mp e a g;replace this:=bne_iff_ne.mp this;exact this d
 exact decide_eq_decide.mpr ⟨fun f=>QU f h,Nq⟩
noncomputable abbrev f8:=Nat×Addr×G1
noncomputable def HZ(a:f8):ae×GG:=(.i (a.1:Nat),.ref a.2.1)
theorem Ap{a:List f8}:ay (a.map HZ) (.i (q:Nat))=(a.lookup q).map fun b=>GG.ref b.1:=mB (f:=HZ) (v:=fun b=>GG.ref b.1) (fun x=>rfl) a
theorem Ad(b:List f8)(a:Nat):c8 (b.map HZ) (.i (a:Nat))=(b.filter fun c=> !decide (c.1=a)).map HZ:=rI (fun x=>rfl) b a
theorem F0(b:List f8)(c:Nat):(b.map fun a=>(a.1,a.2.2)).lookup c=(b.lookup c).map (fun x=>x.2):=by
 induction b with
 |nil=>rfl
 |cons a b e=>
  rw[Nt,NF,NF];by_cases d:c=a.1
  ·subst d;simp
  ·simp only[(by simpa using d:(c==a.1)=false)];exact e
theorem ai0(a:Str):c5 [] a=.none:=rfl
theorem wR:bi (Jp++[(q,.add k)])=bi Jp++[(q,k)]:=pb ..
theorem o9{a:G1}(b:m7 a=false):bi (Jp++[(q,a)])=bi Jp:=by
 rw[pb];cases a with
 |add=>cases b
 |del=>exact NU _
 |set=>exact NU _
theorem tC{a:G1}(b:m7 a=false):b8 (Jp++[(q,a)])=b8 Jp++[(q,a)]:=by
 rw[tE];unfold b8;rw[Of,if_pos (by rw[b];rfl)];rfl
theorem Fk:b8 (Jp++[(q,.add k)])=b8 Jp:=(tE ..).trans (NU _)
theorem wS(a c:List (Nat×G1)):bi (a++c)=bi a++bi c:=by
 induction a with
 |nil=>rfl
 |cons e a b=>obtain⟨f,d⟩:=e;cases d with
  |add=>exact congrArg (_::·) b
  |del=>exact b
  |set=>exact b
theorem wW{a b:List (Nat×G1)}(g:((bi Jp).map (fun x=>x.1)).Nodup)(c:Jp=a++(q,.add k)::b):(bi a).lookup q=none:=by
 rw[Q6];intro h f;rw[bne_iff_ne];intro e;have d:bi Jp=bi a++(q,k)::bi b:=by rw[c,wS];rfl
 exact ez g d (Na.mpr ⟨h,f,e.symm⟩)
theorem t2{a:List f8}:ay ((a.filter fun b=>decide (q<=b.1)).map HZ) (.i (q:Nat))=(a.lookup q).map fun c=>GG.ref c.1:=by rw[Ap,t3]
theorem t0{a:List (Nat×Int)}:ay ((a.filter fun b=>decide (q<=b.1)).map HM) (.i (q:Nat))=(a.lookup q).map ap:=by rw[rQ,t3]
theorem EY(a:Jp.lookup q=none):co j Jp (q+1)=co j Jp q++[j.getD q 0]:=by rw[nb];unfold eS;rw[a]
theorem EX(a:Jp.lookup q=some (.del k)):co j Jp (q+1)=co j Jp q:=by rw[nb];unfold eS;rw[a,NU]
theorem EZ(a:Jp.lookup q=some (.set k IY)):co j Jp (q+1)=co j Jp q++[IY]:=by rw[nb];unfold eS;rw[a]
theorem sF{b:List (Nat×D)}:b.filter (fun a=>decide (0<=a.1))=b:=OW.mpr fun a x=>decide_eq_true (NN _)
theorem sG{c:List (Nat×D)}(a:∀b∈c,b.1<q):c.filter (fun a=>decide (q<=a.1))=[]:=OA.mpr fun b e d=>Si (a b e) (of_decide_eq_true d)
theorem sH{b:List (Nat×D)}{c:Nat×D->ae×GG}(a:b.length<=1000):((b.filter fun a=>decide (q<=a.1)).map c).length<=sizeLine:=cE (mf (Ov ..) a)
section
variable{S:aa}
noncomputable abbrev wL:List Str:=["parts","rows","added","later","row","behind","kept","spot","some","gone","found"]
theorem zf(P:Pg)(K7:(d,GL.list (j.map ap))∈S)(Lj:(H,GL.list (Jp.map fun c=>ai.GP (e9 c)))∈S)(s:j.length<60)(n:Jp.length<100)(U:d1 j Jp)(I:M (dL (eH j Jp)) S):
  GN 4 (.ref 489) [.ref d,.ref H] S M:=by
 refine aS wL [some (.ref d),some (.ref H),none,none,none,none,none,none,none,none,none] P.T P.rt ac3 rfl fun K1 KU J Lv Lh=>?_;exists aH ?_;exists eJ fun p Lc=>?_;intro O;exists 0;refine dv J.GR Jp (fun c=>ai.GP (e9 c)) (fun w w=>[some (.ref d),some (.ref H),some (.ref p),some (.ref O),none,none,none,none,none,none,none]) (fun x a=>(O,.list ((b8 x).map fun c=>ai.GP (e9 c)))::(p,.dict a ((bi x).map HM))::S) (fun w w=>True) Lc (aD.refl _) (Le.refl _) trivial (fun w w=>ac (ac Lj)) ?_ ?_
 ·rintro x ⟨a,q⟩ Ly D C _ K3 h;have Lz:((b8 x).map fun c=>ai.GP (e9 c)).length<=sizeLine:=cW (by have:=tD x;exact aj (mf this (mf (Nq (cc C)) (Nh n))) rfl);refine(?_:bn K1 _ (GG.tup [.tup [.int (a:Nat)],.str q.cL.way,q.cL.old,q.cL.new]) _ _ _ _);refine aZ KU (by exists 2) (by walk_at "nput") ?_;cases q with
  |add g=>
   have K8:ay ((bi x).map HM) (.i (a:Nat))=none:=by rw[rQ,(wW U.nD C)];rfl
   exists 1;refine c2 P (by rw[K8];rfl) (by decide) ?_;exists 1;refine(?_:e5 K1 setItem (.ref p) (.int (a:Nat)) (ap g) _ _ _);refine dm (ks:=(bi x).map HM) (by walk_at "nupd") (cE (by have:=pa x;exact aj (mf this (mf (Nq (cc C)) (Nh n))) rfl)) fun Lg=>?_;exists 0;exact h.n Lg trivial (by exists 3) (by rw[sh K8,wR,Fk,Ng];exact Le.refl _)
  |del L=>
   exists 1;exact h.n D trivial (by exists 3) (by rw[o9 rfl,tC rfl,Ng];exact Le.refl _)
  |set L g=>
   exists 1;exact h.n D trivial (by exists 3) (by rw[o9 rfl,tC rfl,Ng];exact Le.refl _)
 intro D _;have K6:=U.fit;have E:=pa Jp;have Lb:=tD Jp;have Lo:=U.m5;have Lq:=uv (key:=fun c:Nat×G1=>ae.i (c.1:Nat)) (c:=fun Lp:Nat=>ae.i Lp) (fun Lw Lx C=>PQ (ae.i.inj C)) (fun w=>rfl) U.nE;have Ls:cq (bi Jp) ((co j (b8 Jp) j.length).length+(bi Jp).length) 0 (co j (b8 Jp) j.length)=eH j Jp:=rfl;generalize bi Jp=aG at*;generalize b8 Jp=v at*;generalize eH j Jp=KY at*;exists 0;refine GN.lv (p4 P (xs:=v) (key:=fun c=>.i (c.1:Nat)) (ch:=fun c=>c.2.cL) am (mf (Np Lb 1) (aj n rfl)) Lq fun KS Ld Y Lm=>?_);refine aN (⟨Y.map fun b=>(b.1.1,b.2,b.1.2),by rw[Nf];exact Lm,by rw[Nf];rfl,fun b KW=>by obtain⟨Li,Lk,rfl⟩:=Na.mp KW;exact Na.mpr ⟨Li,Lk,rfl⟩⟩:∃i:List f8,i.map (fun b=>(b.1,b.2.2))=v/\Y.map (H4 fun c:Nat×G1=>ae.i (c.1:Nat))=i.map HZ/\∀b∈i,(b.2.1,GL.list [ai.GP ([],b.2.2.cL)])∈Y.map (H0 fun c:Nat×G1=>c.2.cL)) fun i N=>?_;have La:=N.3;refine au N.2 ?_;generalize Y.map (H0 fun c:Nat×G1=>c.2.cL)=KT at La⊢;have Ll:i.length<=1000:=by rw[<-Nb (f:=fun b:f8=>(b.1,b.2.2)),N.1];exact aj (mf Lb (Nh n)) rfl
 have K0:∀(o I KZ:Addr×GL),(d,GL.list (j.map ap))∈o::I::(KT++KZ::S):=fun w w w=>ac (ac (NA _ (ac K7)));exists 0;intro B;exists 0;exists gW (ac (ac (NA _ (ac (ac K7))))) (cW (aj (Nh s) rfl)) ?_;refine g3 J.GR (aj s rfl) (fun w w=>[some (.ref d),some (.ref H),some (.ref p),some (.ref O),none,some (.ref KS),some (.ref B),none,none,none,none]) (fun a T=>(B,.list ((co j v a).map ap))::(KS,.dict T ((i.filter fun b=>decide (a<=b.1)).map HZ))::(KT++(p,.dict D (aG.map HM))::S)) (fun w w=>True) Ld (aD.refl _) (by rw[sF];exact Le.take (Le.take (Le.app (Le.refl _) (Le.skip (Le.refl _))))) trivial ?_ ?_
 ·intro a T z _ K3 h;have Lu:((co j v a).map ap).length<=sizeLine:=cW (by have:=tt j v a;exact aj (mf this (mf (Nq z) (Nh s))) rfl);have KX:a<100000:=by exact aj (mf z (Nh s)) rfl
  have r:v.lookup a=(i.lookup a).map (fun x=>x.2):=by rw[<-N.1,F0]
  exists aZ KU (by exists 2) (by walk_at "nput") ?_;exists dy (hU (by exists 2)) dw ?_;intro K2;exists 0;cases e:i.lookup a with
  |none=>
   replace r:=e▸r;refine mg (k:=.i (a:Nat)) P.GY (ac (ac am)) (t2.trans (by rw[e];rfl)) ?_;exists 0;refine(jJ P (rows:=[]) (way:="gone") am (show 0<3000 by decide) (show 0<2 by decide)).go (by decide) (bt (au (ai0 _) ?_));exists 1;exists hf (ac (K0 _ _ _)) z KX ?_;exists(zN P am).go (by decide) (bt ?_);exact h.n T trivial (by exists 3) (by rw[EY r,Ng,<-sJ i a e];exact Le.skip (Le.refl _))
  |some o=>
   obtain⟨K4,q⟩:=o;replace r:=e▸r;have KV:=K6 (a,q) (bI r);have X:∀o I KZ l:Addr×GL,(K4,GL.list [ai.GP ([],q.cL)])∈o::I::KZ::(KT++l::S):=fun w w w w=>ac (ac (ac (NG _ (La _ (bI e)))));refine hp (k:=.i (a:Nat)) (a:=.ref K4) (.inr ⟨_,rfl⟩) (by walk_at "nupd") (sH Ll) (t2.trans (by rw[e];rfl)) fun K5=>?_;exists au (Ad _ a) (au (sI i a) ?_);cases q with
   |add g=>exact KV.2.elim
   |del L=>
    have Ln:=KV.2;refine GN.lv (en P om (X _ _ _ _) ?_);exists 1;exists gn (.inl (X _ _ _ _)) (bC (show 1<=1000 by decide)) ?_;exists bN rfl ?_;exists hf (ac (K0 _ _ _)) z KX (hZ J ?_);exists c2 P (decide_eq_true Ln.symm) (by decide) ?_;exact h.n K5 trivial (by exists 3) (by rw[EX r];exact Le.skip (Le.refl _))
   |set L g=>
    refine GN.lv (en P vG (X _ _ _ _) ?_);exists 1;exists hf (ac (K0 _ _ _)) z KX (au KV.2 ?_);exists(re P (a:=ap L) (b:=ap g) (fH L) (by rw[j4,decide_eq_true rfl]) (X _ _ _ _)).go (by decide) (bt ?_);exact h.n K5 trivial (by exists 3) (by rw[EZ r,Ng];exact Le.skip (Le.refl _))
 intro T _;refine au (sG fun b KW=>(K6 (b.1,b.2.2) (N.1▸Na.mpr ⟨b,KW,rfl⟩)).1) ?_;have V:=tt j v j.length;generalize co j v j.length=t at*;have Lu:(t.map ap).length<=sizeLine:=cW (aj (mf V (Nh s)) rfl);exists 0;exists iH P.GY (ks:=([]:List f8).map HZ) (ac am) (NN _) ?_;exists c2 P rfl (by decide) ?_;intro F;exists 0;exists iH P.GY (ac (ac (ac (NA _ am)))) (cE (aj (mf E (Nh n)) rfl)) ?_;refine au (show(t.length:Int)+((aG.map HM).length:Int)=((t.length+aG.length:Nat):Int) by rw[Nb];rfl) ?_;refine g3 J.GR (ι:=Nat×List Int×List Int) (aj (Np (No (mf V (Nh s)) (mf E (Nh n))) 1) rfl) (fun w w=>[some (.ref d),some (.ref H),some (.ref p),some (.ref O),none,some (.ref KS),some (.ref B),none,none,none,some (.ref F)]) (fun a l=>(F,.list (l.2.2.map ap))::(B,.list (l.2.1.map ap))::(p,.dict l.1 ((aG.filter fun o=>decide (a<=o.1)).map HM))::S) (fun a l=>l.2.2++cq aG (t.length+aG.length-a) a l.2.1=KY/\l.2.2.length<=a/\l.2.1.length<=60) (D,t,[]) (aD.refl _) (by rw[sF];exact Le.take (Le.take (Le.skip (Le.eB _ (Le.refl _))))) ⟨Ls,Ni _,by omega⟩ ?_ ?_
 ·rintro a ⟨Q,u,m⟩ z ⟨y,G,A⟩ K3 h;have LA:(m.map ap).length<=sizeLine:=cW (mf G (aj (mf (Nq z) (No (mf V (Nh s)) (mf E (Nh n)))) rfl));have y:m++cq aG ((t.length+aG.length-(a+1))+1) a u=KY:=by rw[show(t.length+aG.length-(a+1))+1=t.length+aG.length-a by omega];exact y
  have K9:∀g,(m++[g]).length<=a+1:=fun g=>by rw[Nm];exact Qt G
  exists aZ KU (by exists 2) (by walk_at "nput") ?_;refine au t0 ?_;cases e:aG.lookup a with
  |some g=>
   exists bN rfl ?_;exists dy (hU (by exists 2)) dw ?_;refine hp (k:=.i (a:Nat)) (a:=ap g) (.inl rfl) (by walk_at "nupd") (sH (aj (mf E (Nh n)) rfl)) (t0.trans (by rw[e];rfl)) fun Lf=>?_;exists au (Ab _ a) (au (sI aG a) ?_);exact h.n (Lf,u,m++[g]) ⟨by rw[<-y,ul e,NR];rfl,K9 g,A⟩ (by exists 3) (by rw[Ng];exact Le.refl _)
  |none=>
   exists bx rfl (au (sJ aG a e) ?_);intro K2;exists eZ J (.inl (by exists 2)) (.inl am) ?_;cases u with
   |nil=>
    exists bx rfl ?_;exact h.n (Q,[],m) ⟨by rw[<-y,Gp e],PC G,A⟩ (by exists 3) (Le.skip (Le.refl _))
   |cons Z u=>
    exists bN rfl ?_;exists dy (Gv (xs:=(Z::u).map ap) (by exists 2)) dw ?_;refine zC (x:=ap Z) (xs:=u.map ap) (F:=fun Lr=>(K2,.list [])::(F,.list (m.map ap))::(B,Lr)::(p,.dict Q ((aG.filter fun o=>decide (a+1<=o.1)).map HM))::S) (.there (.there .here)) (by have:=Nl;rw[Nb];replace A:=N4▸A;exact mf (aj (c:=16777216) A rfl) (Nd Nl.symm)) ?_;exists 0;exact h.n (Q,u,m++[Z]) ⟨by rw[<-y,nv e,NR];rfl,K9 Z,Sj A⟩ (by exists 3) (by rw[Ng];exact Le.skip (Le.refl _))
 rintro⟨Q,u,m⟩ ⟨y,G,A⟩;exists au (sG Lo) ?_;exists iH P.GY (ks:=([]:List (Nat×Int)).map HM) (ac (ac am)) (NN _) ?_;exists c2 P rfl (by decide) ?_;exists iJ (.inl am) (cW (aj (mf G (No (mf V (Nh s)) (mf E (Nh n)))) rfl)) ?_;exact Lh.r ((by rw[<-y,Nat.sub_self,Gq,NU]:m=KY)▸I) (Le.skip (Le.skip (Le.skip (Le.refl _))))
end
theorem vI(d:Str)(b:∀a∈Js,a.1.isEmpty=false):Js.filter (fs d)=[]:=by
 rw[OA];intro a c;unfold fs;rw[b a c];simp
theorem ai1(a:Str)(b:∀c∈Js,c.1.isEmpty=false):c5 Js a=.none:=by unfold c5;rw[vI a b]
section
variable{S:aa}
theorem hr(P:Pg)(a:∀f∈Js,f.1.isEmpty=false)(b:(d,GL.list (Js.map ai.GP))∈S)(c:Js.length<3000)(e:M .none S):GN 2 (.ref 463) [.ref d,.str h] S M:=
 (jJ P b c (by rw[vI _ a];exact(by decide:0<2))).go (by decide) (bt (ai1 h a▸e))
theorem no(c:List (Str×G1)):∀a∈c.map fG,a.1.isEmpty=false:=fun a b=>by obtain⟨d,_,rfl⟩:=Na.mp b;rfl
theorem nn(b:List (Nat×G1)):∀a∈b.map e9,a.1.isEmpty=false:=fun a c=>by obtain⟨d,_,rfl⟩:=Na.mp c;rfl
theorem sr{b:D->GG}{a:List D}(c:a≠[]):(a.map b).isEmpty=false:=by
 cases a with
 |nil=>exact absurd rfl c
 |cons=>rfl
noncomputable abbrev vw:List Str:=["shape","rows","turned"]
theorem rd(P:Pg){ps:List (Str×Int)}{kcs:List (Str×G1)}(k:(ps.map (fun x=>x.1)).Nodup)(a:(d,GL.list ((kcs.map fG).map ai.GP))∈S)(e:ps.length<30)(h:kcs.length<60)(i:(bJ ps kcs).length<30)
(l:kcs≠[])(j:(kcs.map (fun x=>x.1)).Nodup)(f:∀b∈kcs,f5 ps b)(m:M (bz (as (bJ ps kcs))) S):GN 5 (.ref 470) [bz ps,.ref d] S M:=by
 have c:(d,GL.list (kcs.map fun b=>ai.GP (fG b)))∈S:=by rw[Nf]at a;exact a
 refine aS vw [some (bz ps),some (.ref d),none] P.T P.iM kQ rfl fun o v n r g=>?_;exists aH ?_;intro q;refine kS n (.inl (ac c)) (.inl am) (au (sr l) ?_);exists 1;refine GN.lv (hr P (no kcs) (ac a) (by rw[Nb];omega) ?_);exists 1;exists(mn P k (hT e)).go (by decide) (gv fun s t=>?_);exists GN.lv (zk P am (ac (ac c)) (gB e) h j f fun p u=>?_);exists(zn P am (gB i)).go (by decide) (bt ?_);exact g.r m (Le.skip (Le.skip (Le.skip (Le.refl _))))
theorem zM(P:Pg){xs:List Int}{acs:List (Nat×G1)}(a:(d,GL.list ((acs.map e9).map ai.GP))∈S)(g:xs.length<30)(h:acs.length<100)(j:acs≠[])(e:d1 xs acs)(k:M (dL (eH xs acs)) S):GN 5 (.ref 470) [dL xs,.ref d] S M:=by
 have b:(d,GL.list (acs.map fun i=>ai.GP (e9 i)))∈S:=by rw[Nf]at a;exact a
 refine aS vw [some (dL xs),some (.ref d),none] P.T P.iM kQ rfl fun m p l o f=>?_;exists aH ?_;intro n;refine kS l (.inl (ac b)) (.inl am) (au (sr j) ?_);exists 1;refine GN.lv (hr P (nn acs) (ac a) (by rw[Nb];omega) ?_);exists 1;have c:(xs.map ap).length<sizeLine:=by have:=Nl;rw[Nb];omega
 exists c6 (lo:=some 1) (hi:=none) (gD c ?_);exists mm (Nq c) fun q=>?_;exists GN.lv (zf P am (ac (ac b)) (gB g) h e ?_);exact f.r k (Le.skip (Le.skip (Le.refl _)))
end
inductive cY:Option ag->List ai->Option ag->Prop
 |add {e:ag}:e.ok->cY none [([],.added e.Hs)] (some e)
 |gone {e:ag}:e.ok->cY (some e) [([],.gone e.bA.Hs)] none
 |dict {c:List (Str×Int)} {b:List (Str×G1)}:(ag.d c).ok->b.length<60->(ag.d (bJ (as c) b)).ok->b≠[]->(b.map (fun x=>x.1)).Nodup->(∀f∈b,f5 (as c) f)->cY (some (.d c)) (b.map fG) (some (.d (as (bJ (as c) b))))
 |arr {xs:List Int} {acs:List (Nat×G1)}:(ag.a xs).ok->acs.length<100->(ag.a (eH xs acs)).ok->acs≠[]->d1 xs acs->cY (some (.a xs)) (acs.map e9) (some (.a (eH xs acs)))
theorem cY.ok(d:cY IU Js IW):∀c,IW=some c->c.ok:=by
 intro c b;cases d with
 |add a=>cases b;exact a
 |gone=>cases b
 |dict _ _ a=>cases b;exact ag.eX a
 |arr _ _ a=>cases b;exact a
theorem cY.len{c d:Option ag}{b:List ai}(a:cY c b d):b.length<100:=by
 cases a with
 |add e=>simp
 |gone=>simp
 |dict _ a=>rw[Nb];omega
 |arr _ a=>rw[Nb];omega
theorem rv(b:ag):aQ 20 b.Hs:=by cases b with
 |a e=>exact mu e
 |d c=>exact mv c
theorem A7(a:ag):GG.bf a.Hs a.Hs=true:=g0 _
noncomputable def s2:GG:=.tup [.tup [.str "generation"]]
theorem rx:aQ 20 s2:=NP.mpr (NP.mpr trivial)
theorem sz(b:List ak):GG.bf (bT b) s2=false:=by
 refine j3 fun a=>?_;have a:=GG.tup.inj a;cases b with
 |nil=>cases a
 |cons c b=>
  have a:=(Oz a).1;cases c with
  |cd=>exact absurd (GG.str.inj (Oz (GG.tup.inj a)).1) (by exists 4)
  |obj d=>exact nomatch(Oz (GG.tup.inj a)).2
  |_=>cases a
noncomputable def hD:Option ag->GG
 |none=>.none
 |some a=>.tup [.int 0,a.bA.Hs]
noncomputable def vl:Option ag->GG
 |none=>.none
 |some a=>.tup [.int 0,a.Hs]
section
variable{S:aa}
theorem ae4(b:aw e.A q)(a:B (.bool false) t S):aE e (compareOp .Eq) (.tup (JB.map ak.GP)) (.tup [.tup [.str "generation"]]) VR t S B:=ee b (eo JB) rx (by rw[show(GG.tup (JB.map ak.GP)).bf (GG.tup [GG.tup [GG.str (Str.ofString "generation")]])=false from sz JB];exact a)
theorem afe(b:aw e.A q)(a:B (.bool true) t S):aE e (compareOp .NotEq) (.tup (JB.map ak.GP)) (.tup [.tup [.str "generation"]]) VR t S B:=kT b (eo JB) rx (by rw[show(GG.tup (JB.map ak.GP)).bf (GG.tup [GG.tup [GG.str (Str.ofString "generation")]])=false from sz JB];exact a)
noncomputable abbrev oaN:List Str:=["entry","rows","turns","others","added","gone","generation","path","way","old","new"]
theorem zH(P:Pg)(b:cY IU Js IW)(i:(d,GL.list (Js.map ai.GP))∈S)(g:M (vl IW) S):GN 6 (.ref 501) [hD IU,.ref d] S M:=by
 have t:Js.length<=1000:=by have:=b.len;omega
 have j:Js.length<3000:=by omega
 refine aS oaN [some (hD IU),some (.ref d),none,none,none,none,none,none,none,none,none] P.T P.sc ad9 rfl fun e c a H h=>?_;refine aH ?_;exists g8 ["row"] c (by exists 2) (by exists 4) (by exists 4) (by exists 4) (by exists 4) ?_;refine fb Js ai.GP (fun w=>false) ai.GP [none] (dj a.GR) (bC t) (.inl i) (fun g b=>.inl (ac i)) (bm.start (by walk_at "ncaps") c.GO) (fun B G v x y=>?_) fun J=>?_
 ·refine b2 ["row"] ["row"] [] [] c a (by exists 4) (by exists 4) fun n r=>?_;refine aZ n (by exists 2) (by walk_at "nput") ?_;exists fW ?_;exists ae4 r ?_;exact⟨rfl,fun b=>(nomatch b),fun w=>⟨fun D C=>aD.val (by exists 3) _ D C,Le.refl _⟩⟩
 refine au (OA.mpr fun w w=>Oe) ?_;walk_at "m1";walk_at "m1";walk_at "m1";exists g8 ["row"] c (by exists 2) (by exists 4) (by exists 4) (by exists 4) (by exists 4) ?_;refine fb Js ai.GP (fun w=>true) ai.GP [none] (dj a.GR) (bC t) (.inl (ac i)) (fun g b=>.inl (ac (ac i))) (bm.start (by walk_at "ncaps") c.GO) (fun B G v x y=>?_) fun I=>?_
 ·refine b2 ["row"] ["row"] [] [] c a (by exists 4) (by exists 4) fun n r=>?_;refine aZ n (by exists 2) (by walk_at "nput") ?_;exists fW ?_;exists afe r ?_;exists⟨rfl,fun w=>?_,fun b=>nomatch b⟩;exact cp rfl (by exists 3) (Le.refl _)
 exists au (OW.mpr fun w w=>rfl) ?_;exists c2 P rfl (by decide) ?_;cases b with
 | @add s f=>
  exists GN.lv (en P vD am ?_);refine GN.lv (en P vE am ?_);exists 1;intro k;refine eZ a (.inl (ac (ac am))) (.inl am) ?_;exists 1;exists c2 P rfl (by decide) ?_;exact h.r g (Le.skip (Le.skip (Le.skip (Le.refl _))))
 | @gone s f=>
  exists GN.lv (en P vF am ?_);refine GN.lv (en P om am ?_);dsimp only[hD];exists 1;intro k;refine eZ a (.inl (ac (ac am))) (.inl am) ?_;exists 1;refine c2 P rfl (by decide) ?_;exists 1;exists ee a (rv _) (rv _) ?_;refine bN (A7 s.bA) ?_;exists 1;exists c2 P rfl (by decide) ?_;exact h.r g (Le.skip (Le.skip (Le.skip (Le.refl _))))
 | @dict A p f o u q z m=>
  exists GN.lv (hr P (no p) am j ?_);refine GN.lv (hr P (no p) am j ?_);dsimp only[hD];exists 1;intro k;refine eZ a (.inl (ac (ac am))) (.inl am) ?_;exists 1;refine c2 P rfl (by decide) ?_;exists 1;refine GN.lv (rd P (ps:=as A) (kcs:=p) (cz f.2) (ac am) (by rw[gq];exact f.1) o u.1 q z m ?_);exists 0;exact h.r g (Le.skip (Le.skip (Le.skip (Le.refl _))))
 | @arr E l f o u q m=>
  exists GN.lv (hr P (nn l) am j ?_);refine GN.lv (hr P (nn l) am j ?_);dsimp only[hD];exists 1;intro k;refine eZ a (.inl (ac (ac am))) (.inl am) ?_;exists 1;refine c2 P rfl (by decide) ?_;exists 1;exists GN.lv (zM P (xs:=E) (acs:=l) (ac am) f o q m ?_);exact h.r g (Le.skip (Le.skip (Le.skip (Le.refl _))))
end
theorem bE.mono{S b:aa}(e:bE S d Jl)(sub:∀f∈S,f∈b):bE b d Jl:=let⟨o,a,c⟩:=e;⟨o,sub _ a,c⟩
noncomputable def e2(c:List aC)(b:Int)(d:Addr×ag):List aC:=if c.any (fun a=>decide (a.1=b))then c.map (fun a=>if a.1=b then(a.1,d)else a)else c++[(b,d)]
noncomputable def hd(c:List aC)(a:Int):List aC:=c.filter fun b=> !decide (b.1=a)
theorem w3(c:List aC)(a:Int):((c.map Hm).any fun b=>decide (b.1=ae.i a))=c.any fun d=>decide (d.1=a):=by
 rw[P6];congr 1;funext b;simp[Hm]
theorem AD(c:List aC)(a:Int)(b:Addr×ag):a6 (c.map Hm) (.i a) (.tup [.int 0,.ref b.1])=(e2 c a b).map Hm:=by
 unfold a6 e2;rw[w3]
 split
 ·rw[Nf,Nf];apply N7;intro d _;simp only[P8,Hm,ae.i.injEq];split<;>rfl
 ·rw[Ng];rfl
theorem Ac(b:List aC)(a:Int):c8 (b.map Hm) (.i a)=(hd b a).map Hm:=by
 unfold c8 hd;rw[Qv];congr 1;apply OQ;intro c _;simp[Hm]
theorem gr(b:aC)(d:List aC)(a:Int):af (ar (b::d)) a=if a=b.1 then some b.2.2 else af (ar d) a:=by
 unfold af ar;rw[Nt,NF];by_cases c:a=b.1
 ·simp[c]
 ·simp only[(by simpa using c:(a==b.1)=false),if_neg c]
theorem AV(e:List aC)(c b:Int):af (ar (hd e c)) b=if b=c then none else af (ar e) b:=by
 unfold hd;induction e with
 |nil=>unfold af ar;simp
 |cons h e f=>
  rw[Of,gr];by_cases d:h.1=c
  ·rw[if_neg (by simp[d]),f];by_cases a:b=c
   ·simp[a]
   ·rw[if_neg a,if_neg a,if_neg (by rw[d];exact a)]
  ·rw[if_pos (by simp[d]),gr,f];by_cases a:b=c
   ·rw[if_pos a,if_pos a,if_neg (by rw[a];exact fun g=>d g.symm)]
   ·rw[if_neg a,if_neg a]
theorem AS(b d:List aC)(a:Int):af (ar (b++d)) a=(af (ar b) a).or (af (ar d) a):=by
 induction b with
 |nil=>simp[af,ar]
 |cons f b e=>
  rw[List.cons_append,gr,gr,e];by_cases c:a=f.1
  ·simp[c]
  ·simp[c]
theorem AQ{f:Addr×ag}(d:IY≠k):af (ar (IT.map fun a=>if a.1=k then(a.1,f)else a)) IY=af (ar IT) IY:=by
 induction IT with
 |nil=>rfl
 |cons a IT e=>
  rw[Nt,gr,gr,e];by_cases b:a.1=k
  ·rw[if_pos b];exact(if_neg (fun c=>d (c.trans b))).trans (if_neg (fun c=>d (c.trans b))).symm
  ·rw[if_neg b]
theorem AP{d:Addr×ag}(c:(IT.any fun a=>decide (a.1=k))=true):af (ar (IT.map fun a=>if a.1=k then(a.1,d)else a)) k=some d.2:=by
 induction IT with
 |nil=>cases c
 |cons a IT e=>
  rw[Nt,gr];by_cases b:a.1=k
  ·rw[if_pos b];exact if_pos b.symm
  ·rw[OM,decide_eq_false b,P0]at c;rw[if_neg b];exact(if_neg fun f=>b f.symm).trans (e c)
theorem AW(e:List aC)(c:Int)(g:Addr×ag)(b:Int):af (ar (e2 e c g)) b=if b=c then some g.2 else af (ar e) b:=by
 unfold e2;by_cases d:(e.any fun f=>decide (f.1=c))=true
 ·rw[if_pos d];by_cases a:b=c
  ·rw[if_pos a,a];exact AP d
  ·rw[if_neg a];exact AQ a
 ·rw[if_neg d,AS,gr];by_cases a:b=c
  ·rw[if_pos a,if_pos a,show af (ar e) b=none from AU fun i=>by
    refine ah (Na.mp i) fun f h=>?_
    exact d (N8.mpr ⟨f,h.1,decide_eq_true (h.2.trans a)⟩)]
   rfl
  ·rw[if_neg a,if_neg a];exact Option.or_none
theorem ak5{f:Addr×ag}(d:(IT.map (fun x=>x.1)).Nodup):((e2 IT k f).map (fun x=>x.1)).Nodup:=by
 unfold e2
 split
 ·rw[Nf];have a:((fun x=>x.1)∘fun b:aC=>if b.1=k then(b.1,f)else b)=(fun x=>x.1):=by funext c;simp only[P8];split<;>rfl
  rw[a];exact d
 ·rename_i i
  rw[Ng,NK];refine⟨d,by simp,fun j h l e a=>?_⟩;simp only[Nt,Ph,Nj]at e;subst e;subst a;refine ah (Na.mp h) fun c g=>?_;exact i (N8.mpr ⟨c,g.1,decide_eq_true g.2⟩)
theorem ake(a:(IT.map (fun x=>x.1)).Nodup):((hd IT k).map (fun x=>x.1)).Nodup:=by
 exact(Oq.map _).nodup a
theorem wa{c:Addr×ag}{b:aC}(a:b∈e2 IT k c):b∈IT\/b=(k,c):=by
 unfold e2 at a
 split at a
 ·refine ah (Na.mp a) fun f d=>?_;obtain rfl:=d.2
  split
  ·rename_i e;rw[e];exact .inr rfl
  ·exact .inl d.1
 ·rcases Nu.mp a with a|a
  ·exact .inl a
  ·exact .inr (Nj.mp a)
theorem ak4(a:List aC)(b:Int)(c:Addr×ag):(e2 a b c).length<=a.length+1:=by unfold e2;split<;>simp
theorem akd(a:List aC)(b:Int):(hd a b).length<=a.length:=Ov _ _
section
variable{S:aa}
noncomputable abbrev u8:List Str:=["table","number","rows","entry","found"]
noncomputable abbrev el(d b:List aC)(f:Int)(g:Option ag)(e:aa):Prop:=(∀a∈b,a∈d\/bE e a.2.1 a.2.2)/\(∀a∈b,a.2.2.ok)/\(∀c,af (ar b) c=if c=f then g else af (ar d) c)/\((b.map (fun x=>x.1)).Nodup)/\(b.length<=d.length+1)
theorem el.at_(b:el IT JG k IU V):∀a∈JG,a∈IT\/bE V a.2.1 a.2.2:=b.1
theorem el.cr(b:el IT JG k IU V):∀a∈JG,a.2.2.ok:=b.2.1
theorem el.look(b:el IT JG k IU V):∀a,af (ar JG) a=if a=k then IU else af (ar IT) a:=b.2.2.1
theorem el.GO(a:el IT JG k IU V):(JG.map (fun x=>x.1)).Nodup:=a.2.2.2.1
theorem el.len{a b:List aC}{d:Int}{e:Option ag}{c:aa}(f:el a b d e c):b.length<=a.length+1:=f.2.2.2.2
theorem zJ(P:Pg){n:Int}{trs:List aC}{F:GL->aa}(r:bk d (.dict q (trs.map Hm)) S F)(D:(H,GL.list (Js.map ai.GP))∈S)(C:∀b∈trs,bE S b.2.1 b.2.2)(p:∀b∈trs,b.2.2.ok)
(o:(trs.map (fun x=>x.1)).Nodup)(U:trs.length<10000)(c:cY (af (ar trs) n) Js IU)(z:∀h A s,el trs A n IU s->M .none (s++F (.dict h (A.map Hm)))):
  GN 7 (.ref 515) [.ref d,.int n,.ref H] S M:=by
 have m:=r.mem;have B:(trs.map Hm).length<=sizeLine:=by have:=Nl;rw[Nb];omega
 have u:∀{a},af (ar trs) n=some a->∃f,(n,f,a)∈trs/\ay (trs.map Hm) (.i n)=some (.tup [.int 0,.ref f]):=fun{a}l=>by
  have:=fS trs n;replace this:=l▸this;obtain⟨⟨f,Q⟩,v,rfl⟩:=Po.mp this;exact⟨f,i9 v,jP o (i9 v)⟩
 refine aS u8 [some (.ref d),some (.int n),some (.ref H),none,none] P.T P.si aed rfl fun N T X O t=>?_;refine aH ?_;walk_at "m1";walk_at "m1";walk_at "m1";walk_at "m1";walk_at "m1";refine x3 .next (an u8 [some (.ref d),some (.int n),some (.ref H),some (hD (af (ar trs) n)),none]) S ?_ ?_
 ·exists hi ?_;refine au (rT trs n) ?_;cases E:af (ar trs) n with
  |none=>
   exists bx rfl ?_;exact HQ
  |some a=>
   refine ah (u E) fun f j=>?_;exists bN rfl ?_;exists bu m j.2 ?_;exists bu m j.2 ?_;exists(hs P (C _ j.1) (p _ j.1)).go (by decide) (bt ?_);exact HQ
 exists 0;exists GN.lv (zH P c D ?_);cases IU with
 |none=>
  have I:∃a,af (ar trs) n=some a:=by
   generalize af (ar trs) n=V at c;cases c with
   |gone _=>exact⟨_,rfl⟩
  obtain⟨a,l⟩:=I;refine ah (u l) fun f L=>?_;exists 1;exists dy (hU m) dw ?_;exists hp (k:=.i n) (.inl rfl) r B L.2 fun h=>au (Ac trs n) ?_;exact t.n (z h (hd trs n) [] ⟨fun b e=>.inl (NL.mp e).1,fun b e=>p b (NL.mp e).1,AV trs n,ake o,PC (akd trs n)⟩) (Le.refl _)
 |some a=>
  have y:=c.ok a rfl;dsimp only[vl];exists 1;exists GN.lv (z0 P y fun g x G=>?_);exists dm (F:=fun J=>(g,x)::F J) r.there B fun h=>au (AD trs n (g,a)) ?_;exact t.n (z h (e2 trs n (g,a)) [(g,x)] ⟨fun b e=>(wa e).imp id fun c=>by rw[c];exact bE.here G,fun b e=>(wa e).elim (p b) fun c=>by rw[c];exact y,AW trs n (g,a),ak5 o,ak4 trs n _⟩) (Le.refl _)
end
noncomputable abbrev bM:=Option Int
noncomputable def dV:bM->List ae
 |some a=>[.s "obj",.i a]
 |none=>[.s "trailer"]
noncomputable def fg:bM->ak
 |some a=>.obj a
 |none=>.cd
theorem sM{a b:bM}(c:dV a=dV b):a=b:=by
 cases a<;>cases b<;>simp[dV]at c⊢;exact c
theorem C2[DecidableEq D][DecidableEq I1](b:D->I1)(i:∀c h,b c=b h->c=h)(d:List (D×List ai))(c:D)(e:ai):b0 (d.map fun a=>(b a.1,a.2)) (b c) e=(b0 d c e).map fun a=>(b a.1,a.2):=by
 have j:((d.map fun a=>(b a.1,a.2)).any fun a=>decide (a.1=b c))=d.any fun a=>decide (a.1=c):=by
  rw[P6];exact congrArg (fun k=>d.any k) (funext fun a=>decide_eq_decide.mpr ⟨i _ _,congrArg b⟩)
 unfold b0;rw[j];by_cases f:(d.any fun a=>decide (a.1=c))=true
 ·rw[if_pos f,if_pos f,Nf,Nf];refine N7 fun a x=>?_;refine(?_:(if b a.1=b c then(b a.1,a.2++[e])else(b a.1,a.2))=(b (if a.1=c then(a.1,a.2++[e])else a).1,(if a.1=c then(a.1,a.2++[e])else a).2));by_cases g:a.1=c
  ·rw[if_pos g,if_pos (congrArg b g)]
  ·rw[if_neg g,if_neg fun l=>g (i _ _ l)]
 ·rw[if_neg f,if_neg f,Ng];rfl
theorem C6[DecidableEq D][DecidableEq I1](c:D->I1)(i:∀f g,c f=c g->f=g)(b:List (D×ai)):b1 (b.map fun a=>(c a.1,a.2))=(b1 b).map fun d=>(c d.1,d.2):=by
 have:∀(b:List (D×ai))(e:List (D×List ai)),(b.map fun a=>(c a.1,a.2)).foldl (fun e a=>b0 e a.1 a.2) (e.map fun d=>(c d.1,d.2))=(b.foldl (fun e a=>b0 e a.1 a.2) e).map fun d=>(c d.1,d.2):=by
  intro b;induction b with
  |nil=>intro e;rfl
  |cons a b h=>intro e;rw[Nt,OH,OH];dsimp only;rw[C2 c i];exact h _
 exact this b []
noncomputable def lO(c:List (Str×Int))(e:List (bM×List ai))(d:List (Str×Int)):Prop:=
 (∀b,(none,b)∈e->∃a:List (Str×G1),b=a.map fG/\a.length<60/\(ag.d (bJ (as c) a)).ok/\a≠[]/\(a.map (fun x=>x.1)).Nodup/\(∀f∈a,f5 (as c) f)/\d=as (bJ (as c) a))/\((∀b,(none,b)∉e)->d=as c)/\(ag.d d).ok
section
variable{S:aa}
theorem jK(a:bM):aQ 20 (ei (dV a)):=by
 cases a with
 |none=>exact NP.mpr trivial
 |some b=>exact NT.mpr ⟨trivial,NP.mpr trivial⟩
abbrev eF:=(bM×List ai)×Addr
noncomputable abbrev HP(a:eF):List ae×GG:=(dV a.1.1,.ref a.2)
noncomputable abbrev H8(a:eF):Addr×GL:=(a.2,.list (a.1.2.map ai.GP))
theorem De{b:List (cP (List ae))}:∀{h:List (bM×List ai)},b.map G8=h.map (fun a=>((dV a.1,a.2):List ae×List ai))->∃c:List eF,c.map (fun x=>x.1)=h/\b.map HT=c.map HP/\b.map Hn=c.map H8:=by
 induction b with
 |nil=>exact fun e=>⟨[],(OS.mp e.symm).symm,rfl,rfl⟩
 |cons a b i=>
  intro k e;refine bB (S0.mp e.symm) fun j k d=>?_;obtain rfl:=d.1;refine aN (i d.3.symm) fun c g=>?_;obtain rfl:=g.1;exact⟨(j,a.2.1)::c,rfl,congr (congrArg List.cons (congrArg (fun f:List ae×List ai=>(f.1,GG.ref a.2.1)) d.2.symm)) g.2,congr (congrArg List.cons (congrArg (fun f:List ae×List ai=>(a.2.1,GL.list (f.2.map ai.GP))) d.2.symm)) g.3⟩
theorem FF{e f d:Addr×GL}{b c S:aa}:Le (d::(c++J1::(b++S))) (J1::(b++(e::f::d::(c++S)))):=by
 refine(Le.take (Le.cU (OK (a:=J1) (l₁:=c) (l₂:=b++S)))).trans ((Le.cU (List.Perm.swap ..)).trans (Le.take ?_));refine(Le.cU ?_:Le _ (b++(d::(c++S)))).trans (Le.app (Le.refl _) (Le.skip (Le.skip (Le.refl _))));refine(List.Perm.cons d ?_).trans OK.symm;rw[<-NR,<-NR];exact List.Perm.append_right S Sw
structure eE(rs:List aC)(d:Int->Option ag)(b:List bM)(a:List aC)(c:aa):Prop where
 at_:∀r∈a,bE c r.2.1 r.2.2
 cr:∀r∈a,r.2.2.ok
 GO:(a.map (fun x=>x.1)).Nodup
 len:a.length<=20+b.length
 look:∀m,af (ar a) m=if some m∈b then d m else af (ar rs) m
theorem eE.start{S:aa}(c:cZ S IT)(b:ar JG=ar IT)(f:∀a∈JG,bE V a.2.1 a.2.2):eE IT Kw [] JG V where
 at_:=f
 cr:=fun a g=>by
  have:(a.1,a.2.2)∈ar IT:=b▸Na.mpr ⟨a,g,rfl⟩;refine ah (Na.mp this) fun i e=>?_;exact(congrArg (fun h:Int×ag=>h.2) e.2)▸c.cr i e.1
 GO:=by rw[<-dG,b,dG];exact c.GO
 len:=by have d:=congrArg List.length b;unfold ar at d;rw[Nb,Nb]at d;have k:=c.ca;show _<=20;exact aj (mf (Nd d) (Nh c.2.2.2)) rfl
 look:=fun j=>by rw[b];exact(if_neg (N0)).symm
theorem eE.put{l:List aC}{c:List bM}{i:aa}(f:eE IT Kw c JG V)(a:el JG l k (Kw k) i):eE IT Kw (c++[some k]) l (i++V) where
 at_:=fun j m=>(a.at_ j m).elim (fun h=>(f.at_ j h).mono fun a e=>NA _ e) fun h=>h.mono fun a e=>NG _ e
 cr:=a.cr
 GO:=a.GO
 len:=by have o:=a.len;have n:=f.len;rw[Nm,P7];exact mf a.2.2.2.2 (mf (Np n 1) (Ni _))
 look:=fun g=>by
  rw[a.look,f.look];by_cases b:g=k
  ·rw[if_pos b,if_pos (NA _ (Nj.mpr (congrArg some b))),b]
  ·rw[if_neg b];have:(some g∈c++[some k])↔some g∈c:=by rw[Nu,Nj];exact⟨fun d=>d.elim id fun d=>absurd (NM d) b,.inl⟩
   simp only[this]
theorem eE.trl{b:List bM}(a:eE IT Kw b JG V):eE IT Kw (b++[none]) JG V where
 at_:=a.at_
 cr:=a.cr
 GO:=a.GO
 len:=mf a.len (by rw[Nm];exact Om (mf (Ni _) (Nv _ _)) _)
 look:=fun d=>by
  have:(some d∈b++[none])↔some d∈b:=by rw[Nu,Nj];exact⟨fun c=>c.elim id fun c=>(nomatch c),.inl⟩
  simp only[a.look,this]
noncomputable abbrev w7:List Str:=["start","rows","table","trailer","parts","step"]
noncomputable def gN(b c:List (Str×Int))(a:List bM):List (Str×Int):=if none∈a then c else as b
theorem ak6{a:List bM}:gN b L (a++[some k])=gN b L a:=by
 have:(none∈a++[some k])↔none∈a:=by rw[Nu,Nj];exact⟨fun c=>c.elim id fun c=>(nomatch c),.inl⟩
 unfold gN;simp only[this]
theorem ze(P:Pg){f:List (bM×ai)}(a:bv S d H IX Jj q v IT b)
(Lg:(JE,GL.list (f.map fun e=>ai.GP (cs (fg e.1) e.2)))∈S)(Ll:f.length<3000)(U:∀e∈f,e.2.1.length<50)
(KU:∀i t,(some i,t)∈b1 f->cY (af (ar IT) i) t (Kw i))(A:lO b (b1 f) L)
(B:∀(KW K3 KX KY:Addr)(y z:Nat)(s:List aC)(l:aa),eE IT Kw ((b1 f).map (fun x=>x.1)) s l->M (.ref KW) ((KW,.inst 368 K3 (dM KX KY))::(KY,Hq z L)::(KX,.dict y (s.map Hm))::(l++S))):
  GN 8 (.ref 508) [.ref d,.ref JE] S M:=by
 have Y:∀{E B G:Addr×GL}{O:aa}{p:Addr×GL},p∈S->p∈E::B::G::(O++S):=fun V=>ac (ac (ac (NA _ V)));have LC:=a.inst;refine aS w7 [some (.ref d),some (.ref JE),none,none,none,none] P.T P.rr ac2 rfl fun N Q C Lw K8=>?_;refine aH ?_;exists 1;exists lZ P (.inl rfl) ?_;refine GN.lv (rf P a fun Lr K4 x LF K7 LA Lp K1 Lc Lb=>?_);exists⟨Lr,K4,_,x,rfl,am,rfl,?_⟩;exists iD P Q (by walk_at "nlook") (Y a.inst) ?_;exists(iI P (Y a.cd) (gB a.ok.1)).go (by decide) (bt ?_);have K6:(f.map fun e=>ai.GP (cs (fg e.1) e.2))=(f.map fun e=>((dV e.1,e.2):List ae×ai)).map fun e=>eL ((rY P.GY).GP e.1::e.2.1.map ak.GP) e.2.2:=by
  rw[Nf];apply N7;intro e _;obtain⟨n,G⟩:=e;cases n<;>rfl
 refine GN.lv (p3 P (rY P.GY) (Y (by rw[<-K6];exact Lg)) (by rw[Nb];exact Ll) (fun e Lf=>by refine ah (Na.mp Lf) fun Lm KZ=>?_;obtain rfl:=KZ.2;exact U Lm KZ.1) fun j m LB KT=>?_);rw[C6 dV (fun Ly Lz=>sM)]at KT;refine aN (De KT) fun c J=>?_;have T:=s7 f;have KS:=s6 f;rw[<-J.1]at T KU A KS;have X:(c.map fun a=>a.1.1).Nodup:=by rw[Nf]at T;exact T
 have Lo:((c.map HP).map (fun x=>x.1)).Nodup:=by
  rw[Nf,show((fun x=>x.1)∘HP:eF->List ae)=dV∘fun a=>a.1.1 from rfl,<-Nf];exact Op.mpr (X.imp fun B g=>B (sM g))
 rw[Nb]at KS;refine au J.2 (au J.3 ?_);have inR:∀{p:Addr×GL}{IX:GL}{O:aa},p∈(j,GL.bD m (c.map HP))::(c.map H8++S)->p∈(x,IX)::(O++(j,GL.bD m (c.map HP))::(c.map H8++S)):=fun V=>ac (NA _ V);exists 0;refine j9 c (fun a=>ei (dV a.1.1)) (Ok:=fun S=>(j,GL.bD m (c.map HP))∈S) (by
   have a:=EB (A:=N.A) (d:=j) (ep:=m) (ks:=c.map HP) C.GR P.GY
   rw[Nf]at a;exact a)
  (fun r(o:Nat×List aC×aa)=>[some (.ref d),some (.ref JE),some (.ref x),some (bz (gN b L (r.map fun a=>a.1.1))),some (.ref j),none]) (fun w o=>(x,.dict o.1 (o.2.1.map Hm))::(o.2.2++(j,.bD m (c.map HP))::(c.map H8++S)))
  (fun r o=>eE IT Kw (r.map fun a=>a.1.1) o.2.1 o.2.2) (K7,Lp,K1) (aD.refl _) FF (eE.start a.tab Lc Lb) (fun w w=>inR am) ?_ ?_
 ·rintro r ⟨⟨n,t⟩,D⟩ LD ⟨y,s,l⟩ g h Lx KV;have Z:ay (c.map HP) (dV n)=some (.ref D):=hA (p:=(dV n,GG.ref D)) Lo (Na.mpr ⟨_,(bd g),rfl⟩);have HG:(D,GL.list (t.map ai.GP))∈(j,GL.bD m (c.map HP))::(c.map H8++S):=ac (NG _ (Na.mpr ⟨_,(bd g),rfl⟩));have I:(r++[((n,t),D)]).map (fun a:eF=>a.1.1)=r.map (fun a:eF=>a.1.1)++[n]:=Ng ..;cases n with
  |none=>
   refine ang (A.1 t (Na.mpr ⟨_,(bd g),rfl⟩)) fun Ln u=>?_;obtain rfl:=u.1;have Lu:gN b L (r.map fun a:eF=>a.1.1)=as b:=if_neg (ez (f:=fun a:eF=>a.1.1) X g);refine(?_:bn N _ (GG.tup [.str "trailer"]) _ _ _ _);refine aZ Q (by exists 2) (by walk_at "nput") ?_;refine aH ?_;refine hi ?_;exists lp (by with_unfolding_all rfl) ?_;exists ee C (jK none) (jK none) ?_;exists jo (g0 _) ?_;exists uT (k:=dV none) C (inR am) Z ?_;refine au Lu ?_;refine GN.lv (rd P (ps:=as b) (kcs:=Ln) (cz a.ok.2) (inR HG) (by rw[gq];exact a.ok.1) u.2 u.3.1 u.4 u.5 u.6 ?_);exists 0;refine dY u.7 ?_;exact KV.n (y,s,l) (I▸h.trl) (by rw[I,gN,if_pos (NA _ (.head _))];exists 3) (Le.refl _)
  |some i=>
   refine(?_:bn N _ (GG.tup [.str "obj",.int i]) _ _ _ _);refine aZ Q (by exists 2) (by walk_at "nput") ?_;refine aH ?_;refine hi ?_;exists lp (by with_unfolding_all rfl) ?_;exists ee C (jK (some i)) (jK none) ?_;refine jn (j3 fun a=>nomatch(Oz (GG.tup.inj a)).2) ?_;exists 1;exists c2 P rfl (by decide) ?_;exists uT (k:=dV (some i)) C (inR am) Z ?_;refine GN.lv (zJ P (n:=i) (trs:=s) (F:=fun p=>(x,p)::(l++(j,.bD m (c.map HP))::(c.map H8++S))) bk.here (inR HG) (fun G Lj=>(h.at_ G Lj).mono fun E U=>ac (NG _ U)) h.cr h.GO (by have La:=h.len;rw[Nb]at La;have:=cc g;omega) (by rw[h.look,if_neg (ez (f:=fun a:eF=>a.1.1) X g)];exact(KU i t (Na.mpr ⟨_,(bd g),rfl⟩))) fun z Lq K2 E=>?_);exists 0;exact KV.n (z,Lq,K2++l) (I▸h.put E) (by rw[I,ak6];exists 3) (by rw[NR];exact Le.cU OK.symm)
 ·rintro⟨y,s,l⟩ h;have Ld:(c.map fun a:eF=>a.1.1)=(b1 f).map (fun x=>x.1):=by rw[<-J.1,Nf];rfl
  have Lk:gN b L (c.map fun a:eF=>a.1.1)=L:=by
   unfold gN;split
   ·rfl
   ·rename_i Li
    exact(A.2.1 fun IT Lh=>Li (by refine ah (Na.mp Lh) fun K9 K0=>?_;exact Na.mpr ⟨K9,K0.1,congrArg Prod.fst K0.2⟩)).symm
  exists au Lk ?_;exists(rp P A.2.2.2 (hT A.2.2.1)).go (by decide) (gv fun Lv z=>?_);exists GN.lv (md P fun Ls K5=>?_);exact K8.r (B Ls K5 x Lv y z s l (Ld▸h)) (Le.take (Le.take (Le.take (Le.app (Le.refl _) (Le.skip (Le.eB _ (Le.refl _)))))))
end
noncomputable abbrev bb(a:Addr)(c:Nat)(b:Int):GL:=.list [.ref a,.int (c:Nat),.int b]
theorem g2{a m:Int}(b:0<m):0<=a.fmod m/\a.fmod m<m:=⟨Int.fmod_nonneg_of_pos a b,Int.fmod_lt_of_pos a b⟩
section
variable{S:aa}
theorem y7:clipAt q 24<=24:=by
 unfold clipAt;rw[if_neg (by decide)];exact Int.toNat_le.mpr (Int.max_le.mpr ⟨by decide,Int.min_le_left _ _⟩)
theorem zz(P:Pg)(k:cf S d (j.map .int))(l:j.length<1000):
  {f:GG->aa->Prop}->(∀(e b:Addr)(a:List Int),a.length<=24->f (.ref e) ((e,bb b 0 0)::(b,.list (a.map .int))::S))->GN 1 (.ref 558) [.ref d] S f:=by
 intro f m;refine aS ["script"] [some (.ref d)] P.T P.r6 ad1 rfl fun n q r o i=>?_;exists aH ?_;refine c6 (lo:=none) (hi:=some 24) (ja k (by rw[Nb];exact mf (aj (c:=16777216) (Nh l) rfl) (Nd Nl.symm)) fun p=>?_);have h:∃a:List Int,h4 (j.map .int) none (some 24)=a.map .int/\a.length<=24:=by
  refine⟨(j.drop 0).take (clipAt (j.map GG.int).length 24-0),?_,?_⟩
  ·rw[Qs,List.map_drop];rfl
  ·rw[Pf];exact mf (Nat.min_le_left _ _) y7
 refine ah h fun a g=>?_;rw[g.1];exists 0;refine ml (.inl am) (by rw[Nb];exact mf (aj (c:=16777216) g.2 rfl) (Nd Nl.symm)) fun b=>?_;exists 0;intro e;exists 0;exact i.r (m e b a g.2) (Le.take (Le.take (Le.skip (Le.refl _))))
theorem lm(a:(d,bb H q k)∈S)(c:B (.ref H) t S)(b:autoParam (Plain X) eC):aE e (subscriptTail o X) (.ref d) (.int 0) VR t S B:=
 cB (k:=0) (.inl a) rfl (by decide) c b
theorem am9(a:(d,bb H q k)∈S)(c:B (.int (q:Nat)) t S)(b:autoParam (Plain X) eC):aE e (subscriptTail o X) (.ref d) (.int 1) VR t S B:=
 cB (k:=1) (.inl a) rfl (by decide) c b
theorem jl(a:(d,bb H q k)∈S)(c:B (.int k) t S)(b:autoParam (Plain X) eC):aE e (subscriptTail o X) (.ref d) (.int 2) VR t S B:=
 cB (k:=2) (.inl a) rfl (by decide) c b
theorem ana{b s':Nat}{F:GL->aa}(c:bk d (bb H b k) S F)(a:Kq t (F (bb H s' k))):e5 e setItem (.ref d) (.int 1) (.int (s':Nat)) t S Kq:=
 kV c (by decide) (by show(_:Int)<3;decide) (by show 3<=sizeLine;have:=Nl;exact mf (aj (c:=16777216) (Ni _) rfl) (Nd Nl.symm)) a
theorem oQ{F:GL->aa}(b:bk d (bb H q k) S F)(a:Kq t (F (bb H q IY))):e5 e setItem (.ref d) (.int 2) (.int IY) t S Kq:=
 kV b (by decide) (by show(_:Int)<3;decide) (by have:=Nl;exact mf (aj (c:=16777216) (Ni _) rfl) (Nd Nl.symm)) a
inductive Ht(b:Addr):GL->aa->(GL->aa)->Prop
 |here {a:GL} {S:aa}:Ht b a ((b,a)::S) (fun c=>(b,c)::S)
 |there {a:GL} {S:aa} {F:GL->aa} {d:Addr×GL}:Ht b a S F->Ht b a (d::S) (fun c=>d::F c)
theorem Ht.jh{a:GL}{S:aa}{F:GL->aa}(c:Ht d a S F):bk d a S F:=by
 induction c with
 |here=>exact .here
 |there _ b=>exact .there b
theorem Ht.mem{a:GL}{S:aa}{F:GL->aa}(b:Ht d a S F):(d,a)∈S:=b.jh.mem
theorem Ht.other{b:GL}{S:aa}{F:GL->aa}(g:Ht d b S F)(a:J1∈S)(e:J1.2≠b)(f:GL):J1∈F f:=by
 induction g with
 |here=>
  rcases Nk.mp a with rfl|a
  ·exact absurd rfl e
  ·exact ac a
 |there _ c=>
  rcases Nk.mp a with rfl|a
  ·exact am
  ·exact ac (c a)
theorem Ht.again{c:GL}{S:aa}{F:GL->aa}(e:Ht d c S F)(a:GL):Ht d a (F a) F:=by
 induction e with
 |here=>exact .here
 |there _ b=>exact .there b
theorem Ht.app{b:GL}{S:aa}{F:GL->aa}(a:aa)(f:Ht d b S F):Ht d b (a++S) (fun e=>a++F e):=by
 induction a with
 |nil=>exact f
 |cons g a c=>exact .there c
theorem Ht.eq{a:GL}{S:aa}{F:GL->aa}(c:Ht d a S F):F a=S:=by
 induction c with
 |here=>rfl
 |there _ b=>show _::_=_;rw[b]
theorem tf:GL.list (j.map .int)≠bb d q k:=by
 intro a;injection a with a
 cases j with
 |nil=>cases a
 |cons b j=>rw[Nt]at a;injection a with a;cases a
noncomputable abbrev hC:List Str:=["pen","many","digit","spot","cell","mix"]
noncomputable abbrev AM:List Str:=["len","abs","int"]
theorem us(a:0<=k)(b:k<2^64):k.natAbs<2^64:=Ol.mp (Og (Int.le_of_eq (Int.natAbs_of_nonneg a)) b)
theorem GD(d:q<1000000):(k.fmod 2147483579+91733*(q:Int)+5741).natAbs<2^64:=by
 obtain⟨b,c⟩:=g2 (a:=k) (m:=2147483579) (by decide);have e:(0:Int)<=q:=Oo q;have f:(q:Int)<=1000000:=N6.mpr (Nq d);exact us (P9 (P9 b (Q7 (by decide) e)) (by decide)) (Og (Sk (Int.add_le_add (Qh c) (Sl f (by decide))) _) (by decide))
theorem GF(c:q<1000000):(k.fmod 2147483647*(2*(q:Int)+373)+67289*(q:Int)+4931).natAbs<2^64:=by
 refine aW (g2 (a:=k) (m:=2147483647) (by decide)) fun d=>?_;have b:(0:Int)<=2*q+373:=P9 (Q7 (by decide) (Oo q)) (by decide);exact us (P9 (P9 (Q7 d.1 b) (Q7 (by decide) (Oo q))) (by decide)) (Og (Sk (Int.add_le_add (Int.mul_le_mul (Qh d.2) (Sk (Sl (N6.mpr (Nq c)) (by decide)) _) b (by decide)) (Sl (N6.mpr (Nq c)) (by decide))) _) (by decide))
theorem aaa:IntMulOk (k.fmod 2147483647) IY:=Qa (by refine aW (g2 (a:=k) (m:=2147483647) (by decide)) fun b=>?_;exact intBits_le_64 (by omega) (by omega))
theorem AG(h:G9 e hC hC AM [])(a:q<1000000)(c:k≠0)(b:∀(f:Int)g,Z (.ret (.int (f.fmod k))) g V):
  GK e (execs ((aT 53).drop 6) e.env) GW (an hC [some (.ref d),some (.int k),none,some (.int (q:Nat)),some (.int IY),none]) V Z:=by
 exists aH ?_;exists gC (by decide) ?_;exists g7 (Qa (by decide)) ?_;exists kU (by decide) (by decide) (GD a) ?_;exists gC (by decide) ?_;exists g7 (Qa (by decide)) ?_;exists g7 aaa ?_;exists g7 (Qa (by decide)) ?_;exists kU (by decide) (by decide) (GF a) ?_;exists gC (by decide) ?_;exists nX (by decide) (PyProof.noPylong_small (by decide)) ?_;exists gC c ?_;exact b _ _
theorem fF(P:Pg){F:GL->aa}(b:Ht d (bb H q k) S F)(HA:(H,GL.list (j.map .int))∈S)(u:j.length<=24)(E:q<1000000)(f:0<IY)(D:IY<1000)
(I:∀(l:Int)(g:Nat)(i:Int),0<=l->l<IY->g<=q+1->M (.int l) (F (bb H g i))):GN 1 (.ref 565) [.ref d,.int IY] S M:=by
 have v:∀k,Builtin.divisionGoesByPylong k IY=false:=fun k=>PyProof.noPylong_small (OG (Ol.mp (Og (Int.le_of_eq (Int.natAbs_of_nonneg (Qh f))) D):IY.natAbs<1000) (by decide));have m:∀{y:Int}{g:Nat}{i:Int},g<=q+1->M (.int (y.fmod IY)) (F (bb H g i)):=fun e=>I _ _ _ (g2 f).1 (g2 f).2 e;have L:(j.map GG.int).length<=sizeLine:=cW (aj u rfl);refine aS hC [some (.ref d),some (.int IY),none,none,none,none] P.T P.r4 adj rfl fun h A J p n=>?_;exists aH ?_;exists jl b.mem ?_;refine⟨fun B=>?_,fun B=>?_⟩
 ·exists 0;exists jl b.mem ?_;exists gC (Pk f) ?_;exists jl b.mem ?_;exists nX (Pk f) (v _) ?_;exists oQ b.jh ?_;exact n.r (m (Ob q)) (Le.refl _)
 exists 0;exists am9 b.mem ?_;refine ana (s':=q+1) b.jh ?_;have C:=b.other HA tf (bb H (q+1) k);have t:∀c,GK h (execs ((aT 53).drop 6) h.env) GW (an hC [some (.ref d),some (.int IY),none,some (.int (q:Nat)),some (.int c),none]) (F (bb H (q+1) k)) p:=fun c=>AG A E (Pk f) fun y N=>n.r (m (Ni _)) (Le.refl _);have x:∀c,GK h (execs ((aT 53).drop 5) h.env) GW (an hC [some (.ref d),some (.int IY),none,some (.int (q:Nat)),some (.int c),none]) (F (bb H (q+1) k)) p:=fun c=>by
  refine aH ?_;refine hi ?_;exists 1;refine lm ((b.again (bb H (q+1) k)).mem) ?_;exists 1;refine⟨fun e=>?_,fun e=>?_⟩
  ·exists 1;refine pY ?_;exists 1;refine kU (by decide) (by decide) (by decide) ?_;exists 1;refine⟨fun e=>?_,fun e=>?_⟩
   ·exists 1;refine pY ?_;exists 1;refine kU (by decide) (by decide) (by decide) ?_;exists 1;refine g7 (Qa (by decide)) ?_;exists 1;refine zp ?_;exists 1;refine oQ (b.again (bb H (q+1) k)).jh ?_;generalize (2*((if c<0 then-c else c)-10^Int.toNat 18)+if decide (c<0)=true then(1:Int)else 0)=z;have o:=(b.again (bb H (q+1) k)).again (bb H (q+1) z);exists 1;refine jl o.mem ?_;exists 1;refine gC (Pk f) ?_;exists 1;refine jl o.mem ?_;exists 1;refine nX (Pk f) (v _) ?_;exists 1;refine oQ o.jh ?_;exists 1;exact n.r (m (Ni _)) (Le.refl _)
   ·refine jn rfl ?_;walk_at "m1";walk_at "m1";exact t c
  ·refine jn rfl ?_;walk_at "m1";walk_at "m1";exact t c
 exists 0;refine g7 (Qa (by decide)) ?_;walk_at "m1";walk_at "m1";walk_at "m1";walk_at "m1";walk_at "m1";exists hi ?_;exists lm ((b.again (bb H (q+1) k)).mem) ?_;refine⟨fun e=>?_,fun e=>?_⟩
 ·exists 0;exists lm ((b.again (bb H (q+1) k)).mem) ?_;exists lm ((b.again (bb H (q+1) k)).mem) ?_;refine gC (Pk (of_decide_eq_true e)) ?_;obtain⟨r,s⟩:=g2 (a:=(q:Int)) (of_decide_eq_true e);have G:((q:Int).fmod j.length).toNat<j.length:=(Int.toNat_lt r).mpr s;refine uO (.inl C) r (a:=.int j[((q:Int).fmod j.length).toNat]) (by rw[Ot,N2 G];rfl) (Pm s (PE (N6.mpr u) (by decide))) ?_ (by intro _ _;with_unfolding_all rfl);walk_at "m1";walk_at "m1";walk_at "m1";walk_at "m1";exact x _
 ·walk_at "m1";walk_at "m1";exact x _
end
noncomputable abbrev aF:=Int×Addr×Nat×ag
variable{U Jg:List aF}
noncomputable def dU(b:Nat):ag->GL
 |.a e=>HB e
 |.d c=>Hq b c
noncomputable def Ha(a:aF):Addr×GL:=(a.2.1,dU a.2.2.1 a.2.2.2)
noncomputable def GZ(a:aF):ae×GG:=(.i a.1,.ref a.2.1)
noncomputable def al(b:List aF):List (Int×ag):=b.map fun a=>(a.1,a.2.2.2)
noncomputable def c0(a:Int):Prop:=0<=a/\a<100
noncomputable def cS:List Str:=["A","B","C","D","Z","Size"]
noncomputable def aI:ag->Prop
 |.a b=>1<=b.length/\b.length<=10/\∀f∈b,c0 f
 |.d e=>(e.map (fun x=>x.1)).Nodup/\∀c∈e,c.1∈cS/\c0 c.2
noncomputable def bR:ag->Bool
 |.a _=>true
 |.d _=>false
noncomputable abbrev aO(a:List (Int×ag)):Prop:=((a.map (fun x=>x.1)).Nodup)/\(∀b∈a,b.1∈([0,1,2,3,4,5]:List Int))/\(∀b∈a,bR b.2=decide (b.1=4))/\(∀b∈a,aI b.2)/\((0:Int)∈a.map (fun x=>x.1))/\((4:Int)∈a.map (fun x=>x.1))
theorem aO.GO(a:aO IV):(IV.map (fun x=>x.1)).Nodup:=a.1
theorem aO.nums(b:aO IV):∀a∈IV,a.1∈([0,1,2,3,4,5]:List Int):=b.2.1
theorem aO.kind(b:aO IV):∀a∈IV,bR a.2=decide (a.1=4):=b.2.2.1
theorem aO.good(b:aO IV):∀a∈IV,aI a.2:=b.2.2.2.1
theorem aO.ev(a:aO IV):(0:Int)∈IV.map (fun x=>x.1):=a.2.2.2.2.1
theorem aO.ea(a:aO IV):(4:Int)∈IV.map (fun x=>x.1):=a.2.2.2.2.2
noncomputable def kK:List (Option Expr)->List Expr->Pos->List (Expr×Expr×Pos)
 |some b::c,d::e,a=>(b,d,a)::kK c e a
 |_,_,_=>[]
theorem A4(b:Expr)(c:List (Option Expr))(a:Env):evalEachOpt (some b::c) a=some (eval b a)::evalEachOpt c a:=by with_unfolding_all rfl
theorem AN(b:Expr)(c:List Expr)(a:Env):evalEach (b::c) a=eval b a::evalEach c a:=by with_unfolding_all rfl
theorem AO(a:Env):evalEach [] a=[]:=by with_unfolding_all rfl
theorem A5(a:Env):evalEachOpt [] a=[]:=by with_unfolding_all rfl
theorem ur(c:GU)(d:Pos)(b:List Expr):∀a:List Expr,(evalEachOpt (b.map some) c.env).zip ((evalEach a c.env).map fun f=>do let h<-f;standAt d;pure h)=(h3 c d (kK (b.map some) a d)).map fun e=>(some e.1,e.2):=by
 induction b with
 |nil=>intro a;rw[Ph,A5];rfl
 |cons i b g=>
  intro a;cases a with
  |nil=>rw[AO,Nt];rfl
  |cons f a=>rw[Nt,A4,AN,Nt,Ry,g a];rfl
section
variable{S:aa}
theorem pu
(d:∀a b,GK e (eval o e.env) VR t ((a,.dict b [])::S) fun g i f=>∃c:ae,g=c.GP/\GK e (eval X e.env) VR i f fun k n j=>∃F,bk a (.dict b []) j F/\∀l,B (.ref a) n (F (.dict l [(c,k)]))):
 GK e (eval (.Dict [some o] [X] N) e.env) VR t S B:=pt (kK [some o] [X] N) (by intro d;cases d) (by show 1<=15;decide) (fun a b=>(d a b).mono fun g i f m=>by refine ah m fun c h=>?_;exact⟨c,h.1,h.2⟩) (ur e N [o] [X])
theorem xu{i j:Expr}
(D:∀d h,GK e (eval o e.env) VR t ((d,.dict h [])::S) fun r y m=>∃b:ae,r=b.GP/\GK e (eval X e.env) VR y m fun f z n=>GK e (eval i e.env) VR z n fun s A p=>∃c:ae,s=c.GP/\c≠b/\GK e (eval j e.env) VR A p fun g C q=>∃F,bk d (.dict h []) q F/\∀k,B (.ref d) C (F (.dict k [(b,f),(c,g)]))):
  GK e (eval (.Dict [some o,some i] [X,j] N) e.env) VR t S B:=by
 refine pt (kK [some o,some i] [X,j] N) (PV _ _) (by decide:2<=15) (fun d h=>(D d h).mono fun r y m a=>?_) (ur e N [o,i] [X,j]);refine ah a fun b v=>?_;have a:=v.2;refine⟨b,v.1,a.mono fun f z n a=>a.mono fun s A p a=>?_⟩;refine aN a fun c l=>?_;have a:=l.3;refine⟨c,l.1,a.mono fun g C q a=>?_⟩;refine ah a fun F x=>?_;exact⟨F,x.1,fun k=>(mU (by simp[l.2.symm]):([(b,f),(c,g)]:List (ae×GG)).foldl (fun E u=>a6 E u.1 u.2) []=[(b,f),(c,g)]).symm▸x.2 k⟩
theorem u3(a:q<=z.length):h4 z none (some (q:Int))=z.take q:=by
 unfold h4;have:clipAt z.length (q:Int)=q:=pS a;simp only[Option.elim,this,Rs,Q4]
end
noncomputable def bX(d:Nat)(b:aF):Prop:=b.1∈([0,1,2,3,4,5]:List Int)/\bR b.2.2.2=decide (b.1=4)/\aI b.2.2.2/\∀c,b.2.2.2=.a c->c.length<=d
noncomputable abbrev aL(b:Nat)(a:List aF):Prop:=((a.map (fun x=>x.1)).Nodup)/\(∀c∈a,bX b c)/\((0:Int)∈a.map (fun x=>x.1))/\((4:Int)∈a.map (fun x=>x.1))
theorem aL.GO(a:aL q U):(U.map (fun x=>x.1)).Nodup:=a.1
theorem aL.all(b:aL q U):∀a∈U,bX q a:=b.2.1
theorem aL.ev(a:aL q U):(0:Int)∈U.map (fun x=>x.1):=a.2.2.1
theorem aL.ea(a:aL q U):(4:Int)∈U.map (fun x=>x.1):=a.2.2.2
section
variable{S:aa}
noncomputable abbrev Fy:List Str:=["pen","plain","number"]
noncomputable abbrev gg:List Str:=["A","B","C"]
theorem oE(a:0<=k)(b:k<IY)(c:IY<=50):c0 (1+k):=⟨by omega,by omega⟩
theorem mP{k a e:Int}(g:0<=k)(d:0<=a)(f:a<e):∃c:Nat,k+a=(c:Int)/\k<=c/\(c:Int)<k+e:=
 have b:=QK (P9 g d)
 ⟨(k+a).toNat,b.symm,b.symm▸Int.le_add_of_nonneg_right d,b.symm▸Int.add_lt_add_left f k⟩
theorem wh(c:∀a∈j,c0 a)(e:c0 k):∀a∈j++[k],c0 a:=fun a d=>(Nu.mp d).elim (c a) fun b=>Nj.mp b▸e
theorem wM{a:Nat}:(∀b∈gg.take a,b∈cS)/\(gg.take a).Nodup/\(gg.take a).length<=3:=
 ⟨fun b c=>by
  have:=Rz c
  simp only[Nk,N0,or_false]at this
  rcases this with rfl|rfl|rfl<;>simp[cS],(List.take_sublist _ _).nodup (by exists 4),by rw[Pf];exact Nat.min_le_right ..⟩
structure f3(s:Nat)(a:List Int)(rs:List aF)(b:Nat):Prop where
 keys:rs.map (fun x=>x.1)=[0,4]++a
 good:∀r∈rs,bX 3 r
 fU:b<=s+5+5*a.length
theorem km(a:k∈([1,2,3]:List Int)):k∈([0,1,2,3,4,5]:List Int)/\k≠4/\k≠0:=
 (by decide:∀k∈([1,2,3]:List Int),k∈([0,1,2,3,4,5]:List Int)/\k≠4/\k≠0) k a
theorem f3.fresh(d:f3 q j U v)(b:([1,2,3]:List Int)=j++k::O):ae.i k∉(U.map GZ).map (fun x=>x.1):=fun a=>by
 rw[Nf]at a;refine ah (Na.mp a) fun e c=>?_;have:k∈[0,4]++j:=d.keys▸Na.mpr ⟨e,c.1,ae.i.inj c.2⟩;rcases Nu.mp this with a|a
 ·simp only[Nk,N0,or_false]at a;exact a.elim (km (bd b)).2.2 (km (bd b)).2.1
 ·exact ez (f:=_root_.id) (by decide) b (by rw[Oi];exact a)
theorem f3.snoc(e:f3 q j U v)(a:([1,2,3]:List Int)=j++k::O)(f:aI (.d b))(c:Jd<=v+5):f3 q (j++[k]) (U++[(k,d,JH,.d b)]) Jd where
 keys:=by rw[Ng,e.keys,NR];rfl
 good:=fun h g=>(Nu.mp g).elim (e.good h) fun c=>by
  rw[Nj.mp c];exact⟨(km (bd a)).1,(decide_eq_false (km (bd a)).2.1).symm,f,fun x a=>nomatch a⟩
 fU:=by have:=e.fU;rw[Nm,P7];exact mf c (mf (Np this 5) (Ni _))
theorem f3.done(a:f3 q [1,2,3] U v):aL 3 U/\af (al U) 5=none/\v<=q+30:=by
 refine⟨⟨by rw[a.keys];decide,a.good,by rw[a.keys];decide,by rw[a.keys];decide⟩,?_,by have d:v<=q+5+5*3:=a.fU;omega⟩;cases b:af (al U) 5 with
 |none=>rfl
 |some c=>
  have:=(dT (al U) 5).mp (by rw[b];rfl);rw[show(al U).map (fun x=>x.1)=U.map (fun x=>x.1) by unfold al;rw[Nf];rfl,a.keys]at this;exact absurd this (by decide)
theorem kY{o:GL}{S:aa}{F:GL->aa}(b:Ht d (bb H q k) S F)(HA:(H,GL.list (j.map .int))∈S)(a:aa):Ht d o (a++F o) (fun o=>a++F o)/\(H,GL.list (j.map .int))∈a++F o:=⟨(b.again o).app a,NA _ (b.other HA tf o)⟩
theorem zw(P:Pg){F:GL->aa}(T:Ht d (bb H q k) S F)(HA:(H,GL.list (j.map .int))∈S)(I:j.length<=24)(KT:q<900000)
(h:∀O g c La Lj,aL 3 c->af (al c) 5=none->La<=q+30->M (.ref O) ((O,.dict g (c.map GZ))::(c.map Ha++F (bb H La Lj)))):GN 3 (.ref 570) [.ref d] S M:=by
 refine aS Fy [some (.ref d),none,none] P.T P.r1 adg rfl fun LJ m z LK Lp=>?_;refine aH ?_;walk_at "m1"
 with_reducible refine xu fun e g=>?_
 exists 0;refine⟨.i 0,rfl,?_⟩
 with_reducible refine pu fun t LO=>?_
 exists 0;exists⟨.s "Size",rfl,?_⟩;exists⟨_,by walk_at "nupd",fun E=>?_⟩;refine⟨.i 4,rfl,by decide,?_⟩
 with_reducible refine cy ["spot","pen"] m (by exists 4) (by exists 4) ?_
 exists 0;refine GN.lv (fF P (.there (.there T)) (ac (ac HA)) I (aj KT rfl) (by decide) (by decide) fun LM LH Lk Lr Ls LA=>?_);refine aN (mP (k:=2) (by decide) Lr Ls) fun LS K2=>?_;have Lx:=K2.2;have x:=K2.3;exists 0;refine au K2.1 ?_;refine za (ι:=Nat×Int×List Int) z.GR (aj (fD x) rfl) [none,some (.ref d)] (fun w b=>(t,.dict E [(ae.s "Size",GG.int 9)])::(e,.dict g [])::F (bb H b.1 b.2.1)) (fun w b=>b.2.2.map .int) (fun y b=>b.2.2.length=y/\(∀LI∈b.2.2,c0 LI)/\b.1<=q+1+y) (LH,Lk,[]) (bm.start (by walk_at "ncaps") m.GO) (Le.refl _) rfl ⟨rfl,bs,LA⟩ ?_ ?_
 ·rintro y ⟨A,D,B⟩ U Li K6 ⟨p,KW,KU⟩;refine aW (kY (o:=bb H A D) T HA [(U,.list (B.map .int)),(t,.dict E [(ae.s "Size",GG.int 9)]),(e,.dict g [])]) fun Lc=>?_;refine⟨cW (by rw[p];exact aj (mf (Nq K6) (Nh (fD x))) rfl),?_⟩;refine b2 ["spot","pen"] ["spot"] ["_law_draw"] ["pen"] m z (by exists 4) (by exists 4) fun X LG=>?_;exists aZ X (by exists 2) (by walk_at "nput") ?_;exists GN.lv (fF P Lc.1 Lc.2 I (aj (Np (mf KU (No KT (mf (Nq K6) (Nh (fD x))))) 1) rfl) (by decide) (by decide) fun f o u Y Z KV=>?_);exact uC (o,u,B++[1+f]) (by exists 3) (Le.refl _) (by rw[Ng];rfl) ⟨by rw[Nm,p];rfl,wh KW (oE Y Z (by decide)),by show o<=_;exact mf KV (mf (Np KU 1) (Ni _))⟩
 rintro⟨A,D,B⟩ V ⟨p,KW,KU⟩;exists⟨_,by walk_at "nupd",fun K5=>?_⟩;refine sV z.GR (ι:=Nat×List aF×Nat×Int) ([1,2,3]:List Int) GG.int rfl (fun w w=>[some (.ref d),some (.ref e),none]) (fun w b=>(e,.dict b.1 (b.2.1.map GZ))::(b.2.1.map Ha++F (bb H b.2.2.1 b.2.2.2))) (fun K0 b=>f3 q K0 b.2.1 b.2.2.1) (K5,[(0,t,E,.d [("Size",9)]),(4,V,0,.a B)],A,D) (aD.refl _)
  ((Le.cU ((List.Perm.cons _ (List.Perm.swap ..)).trans ((List.Perm.swap ..).trans (List.Perm.cons _ (List.Perm.swap ..))))):Le ((e,.dict K5 [(ae.i 0,GG.ref t),(ae.i 4,GG.ref V)])::(t,Hq E [("Size",9)])::(V,HB B)::F (bb H A D)) _) ⟨rfl,NT.mpr ⟨⟨(show(0:Int)∈([0,1,2,3,4,5]:List Int) by decide),rfl,⟨by simp,fun h i=>by replace i:=Nj.mp i;subst i;exact⟨by simp[cS],by decide,by decide⟩⟩,fun w f=>nomatch f⟩,NP.mpr ⟨(show(4:Int)∈([0,1,2,3,4,5]:List Int) by decide),rfl,⟨by rw[p];exact mf (NQ rfl) (yG Lx),by rw[p];exact aj (Nh (fD x)) rfl,KW⟩,fun LX f=>by cases f;rw[p];exact Nh (fD x)⟩⟩,by show A<=q+5+5*0;omega⟩ ?_ ?_
 ·rintro K0 K9 LW ⟨g,c,o,u⟩ f r LL LC;have KV:=r.fU;have Lw:K0.length<3:=cc f;refine aW (kY (o:=bb H o u) T HA (c.map Ha)) fun Ld=>?_;have LF:=Ld.1;have O:=Ld.2;exists aZ m (by exists 2) (by walk_at "nput") ?_
  with_reducible refine cy ["key","pen"] m (by exists 4) (by exists 4) ?_
  exists 0;intro KY;exists 0;refine GN.lv (fF P (.there (.there LF)) (ac (ac O)) I (aj (Np (mf KV (No (Np (Nh KT) 5) (OI 5 (Nh Lw)))) 1) rfl) (by decide) (by decide) fun LN K1 Ll Lu Lv LQ=>?_);refine aN (mP (k:=1) (by decide) Lu Lv) fun N Lf=>?_;have Ly:=Lf.3;exists 0;refine au Lf.1 ?_;refine c6 (lo:=none) (hi:=some (N:Int)) (ja (xs:=gg.map GG.str) (.inl am) (bC (show 3<=1000 by decide)) fun KZ=>?_);refine au (u3 (by show N<=3;exact Nh (fD Ly))) (dY (Qs ..) ?_);obtain⟨K8,KX,J⟩:= @wM N;generalize gg.take N=L at K8 KX J⊢;refine y9 (ι:=Nat×Int×List (Str×Int)) L GG.str [none,some (.ref d)] (fun w b=>(KZ,.list (L.map GG.str))::(KY,.list (gg.map GG.str))::(e,.dict g (c.map GZ))::(c.map Ha++F (bb H b.1 b.2.1))) (fun w b=>(b.2.2.map Hf).map h2) (fun Q b=>b.2.2.map (fun x=>x.1)=Q/\(∀h∈b.2.2,c0 h.2)/\b.1<=K1+Q.length) (K1,Ll,[]) (dj z.GR) (bC (aj J rfl)) (.inl am) (bm.start (by walk_at "ncaps") m.GO) (Le.refl _) rfl ⟨rfl,bs,Ni _⟩ (fun w w w=>.inl (ac am)) ?_ ?_
  ·rintro Q y LU ⟨s,v,l⟩ U Li Ln ⟨n,KS,K7⟩;have Lz:=cc Ln;refine aW (kY (o:=bb H s v) T HA ((U,.list ((l.map Hf).map h2))::(KZ,.list (L.map GG.str))::(KY,.list (gg.map GG.str))::(e,.dict g (c.map GZ))::c.map Ha)) fun Lg=>?_;refine⟨cE (by have:=congrArg List.length n;rw[Nb]at this⊢;exact aj (mf (Nd this) (mf (Nq Lz) J)) rfl),?_⟩;refine b2 ["key","pen"] ["key"] ["_law_draw"] ["pen"] m z (by exists 4) (by exists 4) fun X LG=>?_;exists aZ X (by exists 2) (by walk_at "nput") ?_;exists GN.lv (fF P Lg.1 Lg.2 I (by omega) (by decide) (by decide) fun Lo Lb Lm Y Z LB=>?_);exact uC (Lb,Lm,l++[(y,1+Lo)]) (by exists 3) (Le.refl _) (by rw[Ng,Ng];rfl) ⟨by rw[Ng,n];rfl,fun h i=>(Nu.mp i).elim (KS h) fun Lq=>Nj.mp Lq▸oE Y Z (by decide),by rw[Nm];show Lb<=K1+(Q.length+1);exact mf LB (mf (Np K7 1) (Ni _))⟩
  rintro⟨s,v,l⟩ Lh ⟨n,KS,K7⟩;exists 0;refine p2 am (by have:=congrArg List.length n;rw[Nb]at this⊢;exact aj (mf (Nd this) J) rfl) fun C G=>?_;exists au (mU (nJ (n▸KX))) ?_;refine dm (F:=fun LD=>(C,Hq G l)::(Lh,.list ((l.map Hf).map h2))::(KZ,.list (L.map GG.str))::(KY,.list (gg.map GG.str))::(e,LD)::(c.map Ha++F (bb H s v))) (.there (.there (.there (.there .here)))) (cE (by have:=congrArg List.length r.keys;rw[Nb,Nm]at this;have LP:([0,4]:List Int).length=2:=rfl;omega)) fun K4=>?_;exists 0;refine LC.n (K4,c++[(K9,C,G,.d l)],s,v) (r.snoc f ⟨(n▸KX),fun h i=>⟨K8 _ (n▸Na.mpr ⟨h,i,rfl⟩),KS h i⟩⟩ (by show s<=o+5;omega)) (by exists 3) ?_;rw[er (r.fresh f),Ng,Ng,NR];exact(Le.cU (OK (a:=(C,Hq G l)) (l₁:=(e,GL.dict K4 (c.map GZ++[GZ (K9,C,G,ag.d l)]))::c.map Ha) (l₂:=F (bb H s v)))).trans (Le.take (Le.skip (Le.skip (Le.skip (Le.refl _)))))
 ·rintro⟨g,c,o,u⟩ r;exists 0;refine df r.done fun K3=>?_;exact Lp.r (h e g c o u K3.1 K3.2 K3.3) (Le.refl _)
end
theorem w4(c:List (Str×Int))(b:Str):((c.map Hf).any fun a=>decide (a.1=ae.s b))=c.any fun a=>decide (a.1=b):=by
 rw[P6];congr 1;funext a;simp[Hf]
theorem sf(b:List (Str×Int))(a:Str)(c:Int):a6 (b.map Hf) (.s a) (.int c)=(dz b a c).map Hf:=by
 delta a6 dz;rw[w4]
 split
 ·rw[Nf,Nf];apply N7;intro d _;simp only[P8,Hf,ae.s.injEq];split<;>rfl
 ·rw[Ng];rfl
theorem Ae(b:List (Str×Int))(a:Str):c8 (b.map Hf) (.s a)=(fq b a).map Hf:=by
 delta c8 fq;rw[Qv];congr 1;apply OQ;intro c _;simp[Hf]
theorem n8(e:(b.map (fun x=>x.1)).Nodup):((dz b h k).map (fun x=>x.1)).Nodup:=by
 unfold dz
 split
 ·rw[Nf];have a:((fun x=>x.1)∘fun c:Str×Int=>if c.1=h then(c.1,k)else c)=(fun x=>x.1):=by funext d;simp only[P8];split<;>rfl
  rw[a];exact e
 ·rename_i j
  rw[Ng,NK];refine⟨e,by simp,fun l i m f a=>?_⟩;rw[Nt,Ph,Nj]at f;subst f;subst a;refine ah (Na.mp i) fun d g=>?_;exact j (N8.mpr ⟨d,g.1,decide_eq_true g.2⟩)
theorem u0(a:(b.map (fun x=>x.1)).Nodup):((fq b h).map (fun x=>x.1)).Nodup:=(Oq.map _).nodup a
theorem s3(c:aI (.d b))(f:h∈cS)(e:c0 k):aI (.d (dz b h k)):=by
 refine⟨n8 c.1,fun i a=>?_⟩;unfold dz at a
 split at a
 ·obtain⟨j,g,rfl⟩:=Na.mp a;have:=c.2 j g
  split
  ·exact⟨this.1,e⟩
  ·exact this
 ·rcases Nu.mp a with a|a
  ·exact c.2 i a
  ·rw[Nj]at a;subst a;exact⟨f,e⟩
theorem CD(a:aI (.d b)):aI (.d (fq b h)):=⟨u0 a.1,fun e c=>a.2 e (NL.mp c).1⟩
theorem dH[DecidableEq D]:∀{l m:List D},l.Nodup->(∀c∈l,c∈m)->l.length<=m.length:=fun b a=>b.length_le_of_subset a
theorem ci(a:aI (.d b)):b.length<=6:=by
 have:=dH a.1 (m:=cS) fun g e=>by obtain⟨f,c,rfl⟩:=Na.mp e;exact(a.2 f c).1
 rw[Nb]at this;exact this
theorem gs(b:aI Jl):Jl.ok:=by
 cases Jl with
 |a c=>have:=b.2.1;show c.length<30;omega
 |d e=>have:=ci b;exact⟨by omega,b.1⟩
theorem bX.mono{b:aF}(a:bX q b)(d:q<=v):bX v b:=⟨a.1,a.2.1,a.2.2.1,fun e c=>mf (a.2.2.2 e c) d⟩
theorem aL.mono(a:aL q U)(c:q<=v):aL v U:=⟨a.GO,fun d b=>(a.all d b).mono c,a.ev,a.ea⟩
theorem kt(a b:List aF)(c:aF):(a++c::b).map (fun x=>x.1)=a.map (fun x=>x.1)++c.1::b.map (fun x=>x.1):=by rw[Ng,Nt]
theorem aL.vp{e c:aF}(b:aL q (U++e::Jg))(h:c.1=e.1)(i:bX v c)(f:q<=v):aL v (U++c::Jg):=by
 have d:(U++c::Jg).map (fun x=>x.1)=(U++e::Jg).map (fun x=>x.1):=by rw[kt,kt,h]
 refine⟨by rw[d];exact b.GO,fun g a=>?_,by rw[d];exact b.ev,by rw[d];exact b.ea⟩;rcases Nu.mp a with a|a
 ·exact(b.all g (NG _ a)).mono f
 ·rcases Nk.mp a with rfl|a
  ·exact i
  ·exact(b.all g (NA _ (.tail _ a))).mono f
theorem aL.del{e:aF}(b:aL q (U++e::Jg))(i:e.1≠0)(j:e.1≠4):aL q (U++Jg):=by
 have h:=b.GO;have f:=b.ev;have g:=b.ea;rw[kt]at h f g;have d:(U++Jg).map (fun x=>x.1)=U.map (fun x=>x.1)++Jg.map (fun x=>x.1):=Ng ..;refine⟨?_,fun a c=>?_,?_,?_⟩
 ·rw[d];exact(List.Sublist.append (List.Sublist.refl _) (List.sublist_cons_self ..)).nodup h
 ·rcases Nu.mp c with c|c
  ·exact b.all a (NG _ c)
  ·exact b.all a (NA _ (.tail _ c))
 ·rw[d];rcases Nu.mp f with a|a
  ·exact NG _ a
  ·rcases Nk.mp a with a|a
   ·exact absurd a.symm i
   ·exact NA _ a
 ·rw[d];rcases Nu.mp g with a|a
  ·exact NG _ a
  ·rcases Nk.mp a with a|a
   ·exact absurd a.symm j
   ·exact NA _ a
theorem aL.add{e:Nat}{b:List aF}{r:aF}(c:aL e b)(j:r.1∉b.map (fun x=>x.1))(h:bX e r):aL e (b++[r]):=by
 have d:(b++[r]).map (fun x=>x.1)=b.map (fun x=>x.1)++[r.1]:=by rw[Ng];rfl
 refine⟨?_,fun k a=>?_,by rw[d];exact NG _ c.ev,by rw[d];exact NG _ c.ea⟩
 ·rw[d,NK];refine⟨c.GO,by simp,fun l i m f g=>?_⟩;rw[Nj]at f;subst f;subst g;exact j i
 ·rcases Nu.mp a with a|a
  ·exact c.all k a
  ·rw[Nj]at a;subst a;exact h
theorem aah(b:(U.map (fun x=>x.1)).Nodup):((U.map GZ).map (fun x=>x.1)).Nodup:=by
 rw[Nf];have:((fun x=>x.1)∘GZ:aF->ae)=ae.i∘(fun x=>x.1):=rfl;rw[this,<-Nf,List.Nodup,Op];exact List.Pairwise.imp (fun c a=>c (by injection a)) b
theorem ep(b:(U.map (fun x=>x.1)).Nodup){a:aF}(c:a∈U):ay (U.map GZ) (.i a.1)=some (.ref a.2.1):=hA (aah b) (Na.mpr ⟨a,c,rfl⟩)
theorem mA(c:k∉U.map (fun x=>x.1)):ay (U.map GZ) (.i k)=none:=by
 unfold ay;rw[R5,PU];intro f d;refine ah (Na.mp d) fun e a=>?_;obtain rfl:=a.2;simp only[GZ,decide_eq_true_eq,ae.i.injEq];exact fun b=>c (Na.mpr ⟨e,a.1,b⟩)
theorem uo{b:aF}(e:((U++b::Jg).map (fun x=>x.1)).Nodup):(∀a∈U,a.1≠b.1)/\∀a∈Jg,a.1≠b.1:=by
 rw[kt,NK,ND]at e;exact⟨fun a d c=>e.2.2 a.1 (Na.mpr ⟨a,d,rfl⟩) b.1 (.head _) c,fun a d c=>e.2.1.1 (Na.mpr ⟨a,d,c⟩)⟩
theorem AE{a r':aF}(j:((U++a::Jg).map (fun x=>x.1)).Nodup)(c:r'.1=a.1):a6 ((U++a::Jg).map GZ) (.i a.1) (.ref r'.2.1)=(U++r'::Jg).map GZ:=by
 refine aW (uo j) fun f=>?_;unfold a6;rw[if_pos]
 ·rw[Ng,Ng,Ng,Nt,Nt,Nt];have g:(U.map GZ).map (fun b=>if b.1=ae.i a.1 then(b.1,GG.ref r'.2.1)else b)=U.map GZ:=by
   rw[Nf];apply N7;intro e d;exact if_neg (fun c=>f.1 e d (by injection c))
  have h:(Jg.map GZ).map (fun b=>if b.1=ae.i a.1 then(b.1,GG.ref r'.2.1)else b)=Jg.map GZ:=by
   rw[Nf];apply N7;intro e d;exact if_neg (fun c=>f.2 e d (by injection c))
  rw[g,h,if_pos (show(GZ a).1=ae.i a.1 from rfl)];unfold GZ;rw[c]
 ·rw[N8];exact⟨GZ a,Na.mpr ⟨a,by simp,rfl⟩,by simp[GZ]⟩
theorem Ag{c:aF}(g:((U++c::Jg).map (fun x=>x.1)).Nodup):c8 ((U++c::Jg).map GZ) (.i c.1)=(U++Jg).map GZ:=by
 refine aW (uo g) fun d=>?_;unfold c8;rw[Ng,O0,Nt,Of,if_neg (by simp[GZ])];rw[OW.mpr,OW.mpr,Ng]
 ·intro h a;refine ah (Na.mp a) fun b e=>?_;obtain rfl:=e.2;have:=d.2 b e.1;simp[GZ,this]
 ·intro h a;refine ah (Na.mp a) fun b f=>?_;obtain rfl:=f.2;have:=d.1 b f.1;simp[GZ,this]
theorem ii(b c:List aF)(d:aF)(a:aa):(b++d::c).map Ha++a=b.map Ha++Ha d::(c.map Ha++a):=by rw[Ng,Nt,NR];rfl
theorem oh(e:k∈U.map (fun x=>x.1)):∃b a c,U=b++a::c/\a.1=k:=by
 refine ah (Na.mp e) fun a d=>?_;obtain⟨b,c,rfl⟩:=Sa d.1;exact⟨b,a,c,rfl,d.2⟩
theorem fk{b:aF}(f:bX q b)(g:b.1≠4):∃c,b.2.2.2=.d c:=by
 have:=f.2.1;rw[decide_eq_false g]at this;cases e:b.2.2.2 with
 |a h=>rw[e]at this;exact nomatch this
 |d c=>exact⟨c,rfl⟩
theorem gy{b:aF}(g:bX q b)(f:b.1=4):∃c,b.2.2.2=.a c:=by
 have:=g.2.1;rw[decide_eq_true f]at this;cases e:b.2.2.2 with
 |a c=>exact⟨c,rfl⟩
 |d h=>rw[e]at this;exact nomatch this
theorem bX.dict{c:Nat}{e:Int}{a h i:_}{k f:List (Str×Int)}(b:bX c (e,a,h,.d k))(j:aI (.d f)):bX c (e,a,i,.d f):=⟨b.1,b.2.1,j,fun l g=>nomatch g⟩
theorem aL.plain(d:aL q U):aO (al U):=by
 have f:(al U).map (fun x=>x.1)=U.map (fun x=>x.1):=by unfold al;rw[Nf];rfl
 have g:∀b∈al U,∃a∈U,b=(a.1,a.2.2.2):=fun b c=>by
  refine ah (Na.mp c) fun a h=>?_;exact⟨a,h.1,h.2.symm⟩
 refine⟨by rw[f];exact d.GO,?_,?_,?_,by rw[f];exact d.ev,by rw[f];exact d.ea⟩
 ·intro b c;obtain⟨a,e,rfl⟩:=g b c;exact(d.all a e).1
 ·intro b c;obtain⟨a,e,rfl⟩:=g b c;exact(d.all a e).2.1
 ·intro b c;obtain⟨a,e,rfl⟩:=g b c;exact(d.all a e).2.2.1
theorem tc(a:(ay (U.map GZ) (.i k)).isSome=true):k∈U.map (fun x=>x.1):=by
 by_cases b:k∈U.map (fun x=>x.1)
 ·exact b
 ·rw[mA b]at a;exact nomatch a
section
variable{n:Int}
theorem EQ{a b:aF}(c:GZ b=GZ a):(U++b::Jg).map GZ=(U++a::Jg).map GZ:=by rw[Ng,Ng,Nt,Nt,c]
theorem oD(h:aL q U)(s:n∈U.map (fun x=>x.1)):∃a c b,bX q (n,a,c,b)/\ay (U.map GZ) (.i n)=some (.ref a)/\∀d:aa,∃o:GL->aa,bk a (dU c b) (U.map Ha++d) o/\
  ∀g f e,q<=g->bX g (n,a,f,e)->∃m,aL g m/\m.map GZ=U.map GZ/\Le (m.map Ha++d) (o (dU f e)):=by
 obtain⟨k,⟨j,a,c,b⟩,l,rfl,rfl⟩:=oh s;have p:(j,a,c,b)∈k++(j,a,c,b)::l:=NA _ (.head _);refine⟨a,c,b,h.all _ p,ep h.GO p,fun d=>⟨fun u=>k.map Ha++(a,u)::(l.map Ha++d),by rw[ii];exact lg _,fun g f e t r=>⟨k++(j,a,f,e)::l,h.vp rfl r t,EQ rfl,?_⟩⟩⟩;rw[ii];exact Le.refl _
theorem vB(c:aL q U){a:Addr}{ep:Nat}(h:q<=v)(f:bX v (n,a,ep,Jl)):∃e,aL v e/\a6 (U.map GZ) (.i n) (.ref a)=e.map GZ/\∀b:aa,Le (e.map Ha++b) ((a,dU ep Jl)::(U.map Ha++b)):=by
 by_cases d:n∈U.map (fun x=>x.1)
 ·obtain⟨l,j,m,rfl,rfl⟩:=oh d;refine⟨l++(j.1,a,ep,Jl)::m,c.vp rfl f h,AE (r':=(j.1,a,ep,Jl)) c.GO rfl,fun b=>?_⟩;rw[ii,ii];exact(Le.cU OK).trans (Le.take (Le.app (Le.refl _) (Le.skip (Le.refl _))))
 ·refine⟨U++[(n,a,ep,Jl)],(c.mono h).add d f,?_,fun b=>?_⟩
  ·rw[er,Ng];rfl;intro g;rw[Nf]at g;refine ah (Na.mp g) fun o k=>?_;exact d (Na.mpr ⟨o,k.1,ae.i.inj k.2⟩)
  ·rw[ii];exact Le.cU OK
theorem Aj(c:aL q U)(e:n∈U.map (fun x=>x.1))(f:n≠0)(g:n≠4):∃b,aL q b/\c8 (U.map GZ) (.i n)=b.map GZ/\∀a:aa,Le (b.map Ha++a) (U.map Ha++a):=by
 refine jm (oh e) fun h k j d=>?_;obtain rfl:=d.1;obtain rfl:=d.2;refine⟨h++j,c.del f g,Ag c.GO,fun a=>?_⟩;rw[ii,Ng,NR];exact Le.app (Le.refl _) (Le.skip (Le.refl _))
theorem aL.ca(a:aL q U):U.length<=6:=by
 have:=dH a.GO (m:=([0,1,2,3,4,5]:List Int)) fun e c=>by obtain⟨d,b,rfl⟩:=Na.mp c;exact(a.all d b).1
 rw[Nb]at this;exact this
theorem bX.Et(a:bX q (n,d,v,Jl))(b:n≠4):∃c,Jl=.d c:=fk a b
theorem bX.Es(a:bX q (4,d,v,Jl)):∃b,Jl=.a b:=gy a rfl
end
noncomputable def lP(c:ab)(S:aa)(K:Prop):Bool->ab->aa->Prop:=fun b d a=>d=c/\a=S/\(b=true->K)
theorem wb{S:aa}{K:Prop}(a:K):lP t S K true t S:=⟨rfl,rfl,fun x=>a⟩
theorem lc{S:aa}{K:Prop}:lP t S K false t S:=⟨rfl,rfl,fun a=>nomatch a⟩
theorem wE{S:aa}{a:List Stmt}(K:Prop)(f:GK e (isTrue o e.env (eval o e.env)) Ho t S (lP t S K))(h:K->GK e (execs I2 e.env) GW t S Z)(g:GK e (execs a e.env) GW t S Z):GK e (exec (.If o I2 a N) e.env) GW t S Z:=
 hi (f.mono fun x x x j=>by obtain⟨c,d,i⟩:=j;exact c▸d▸⟨fun b=>h (i b),fun x=>g⟩)
noncomputable abbrev HX:List Str:=["pen","base","plain","number","lap","way","key","worth"]
noncomputable abbrev IH:List Str:=["list","dict","range","_law_draw","len"]
noncomputable def HW:List Stmt:=(HV (aT 55)[2]?).2.1
theorem mW(c:1<=j.length)(a:j.length<=q)(e:q<=10)(f:∀g∈j,c0 g):bX q (4,d,v,.a j):=
 ⟨(by decide:(4:Int)∈([0,1,2,3,4,5]:List Int)),rfl,⟨c,mf a e,f⟩,fun h b=>ag.a.inj b▸a⟩
theorem CC(b:c0 k):aI (.d [("Z",k)]):=⟨by simp,fun c a=>by replace a:=Nj.mp a;subst a;exact⟨by simp[cS],b⟩⟩
section
theorem AF(P:Pg)(Ln:G9 e HX HX IH [])(Lo:aw e.A 2){r i:Nat}{f:Int}(m:aL (3+i) U)(G:i<=3)(Ld:1<=k)(Lf:k<=3)(K4:h∈cS)(I:c0 f)
(x:∀r b K2,aL (3+(i+1)) b->Le ((H,.dict r (b.map GZ))::(b.map Ha++V)) K2->Z .next (an HX [some (.ref Jj),some (.ref d),some (.ref H),some (.int k),some (.int i),some (.int IY),some (.str h),some (.int f)]) K2):
  GK e (execs (HW.drop 1) e.env) GW (an HX [some (.ref Jj),some (.ref d),some (.ref H),some (.int k),some (.int i),some (.int IY),some (.str h),some (.int f)]) ((IX,.list [GG.str "A",GG.str "B",GG.str "D"])::(H,.dict r (U.map GZ))::(U.map Ha++V)) Z:=by
 have M:(U.map GZ).length<=sizeLine:=cE (mf m.ca (by decide));have same:Z .next (an HX [some (.ref Jj),some (.ref d),some (.ref H),some (.int k),some (.int i),some (.int IY),some (.str h),some (.int f)]) ((IX,.list [GG.str "A",GG.str "B",GG.str "D"])::(H,.dict r (U.map GZ))::(U.map Ha++V)):=x r U _ (m.mono (Ob _)) (Le.skip (Le.refl _));have N:∀{J:Int},J∈U.map (fun x=>x.1)->J≠4->∃o v j,aI (.d j)/\ay (U.map GZ) (.i J)=some (.ref o)/\∃q,bk o (Hq v j) (U.map Ha++V) q/\∀c L,aI (.d L)->Z .next (an HX [some (.ref Jj),some (.ref d),some (.ref H),some (.int k),some (.int i),some (.int IY),some (.str h),some (.int f)]) ((IX,.list [GG.str "A",GG.str "B",GG.str "D"])::(H,.dict r (U.map GZ))::q (Hq c L)):=fun{J}A Lh=>by
  refine ij (oD m A) fun o v Lb E=>?_;obtain⟨j,rfl⟩:=E.1.Et Lh;refine ah (E.3 V) fun q K7=>?_;refine⟨o,v,j,E.1.2.2.1,E.2,q,K7.1,fun c L Lc=>?_⟩;refine aN (K7.2 (3+(i+1)) c (.d L) (Ob _) ((E.1.mono (Ob _)).dict Lc)) fun b KW=>?_;exact x r b _ KW.1 (by rw[KW.2];exact Le.skip (Le.take KW.3))
 have KT:k≠4:=by exact Int.ne_of_lt (Og Lf (by decide))
 refine aH ?_;refine wE (k∈U.map (fun x=>x.1)) ?_ (fun T=>?_) ?_
 ·exists 0;exists⟨fun w=>?_,fun w=>lc⟩;exists⟨fun Q=>?_,fun w=>lc⟩;exact wb (tc Q)
 ·obtain⟨o,v,j,t,z,q,l,y⟩:=N T KT;exists 0;exists bu (ac am) z ?_;refine hh (.there (.there l)) (cE (mf (ci t) (by decide))) fun c=>?_;exists au (sf j h f) ?_;exact y c _ (s3 t K4 I)
 walk_at "m1";refine wE (k∈U.map (fun x=>x.1)) ?_ (fun T=>?_) ?_
 ·exists 0;exists⟨fun w=>?_,fun w=>lc⟩;exists⟨fun Q=>?_,fun w=>lc⟩;exact wb (tc Q)
 ·obtain⟨o,v,j,t,z,q,l,y⟩:=N T KT;exists 0;refine bu (ac am) z ?_;exists dy (hU (ac (ac l.mem))) dw ?_;by_cases K5:ax j h=true
  ·refine hp (k:=.s h) (ks:=j.map Hf) (.inr ⟨_,rfl⟩) (.there (.there l)) (cE (mf (ci t) (by decide))) (fe (bw.mp K5)) fun c=>?_;exists au (Ae j h) ?_;exact y c _ (CD t)
  ·exists mg (k:=.s h) P.GY (ac (ac l.mem)) (mz fun O=>K5 (bw.mpr O)) ?_;exact same
 exists 0;refine⟨fun w=>?_,fun w=>?_⟩
 ·exists 0;exists dy (hU (ac am)) dw ?_;by_cases A:k∈U.map (fun x=>x.1)
  ·refine aN (Aj m A (Pk (Pm (by decide) Ld)) KT) fun b KX=>?_;refine ij (oD m A) fun o w w Ll=>?_;refine hp (k:=.i k) (.inr ⟨_,rfl⟩) (.there .here) M Ll.2 fun c=>?_;exists au KX.2 ?_;exact x c b _ (KX.1.mono (Ob _)) (Le.skip (Le.take (KX.3 V)))
  ·exists mg (k:=.i k) P.GY (ac am) (mA A) ?_;exact same
 exists 0;refine⟨fun w=>?_,fun w=>?_⟩
 ·exists 0
  with_reducible refine pu fun K1 Lm=>?_
  exists 0;exists⟨.s "Z",rfl,?_⟩;exists⟨_,by walk_at "nupd",fun K3=>?_⟩;refine aN (vB (n:=5) (a:=K1) (ep:=K3) m (Ob _) ⟨(by decide:(5:Int)∈([0,1,2,3,4,5]:List Int)),rfl,CC I,fun w La=>nomatch La⟩) fun b KY=>?_;refine dm (F:=fun u=>(K1,Hq K3 [("Z",f)])::(IX,.list [GG.str "A",GG.str "B",GG.str "D"])::(H,u)::(U.map Ha++V)) (.there (.there .here)) M fun c=>?_;exists au KY.2 ?_;exact x c b _ KY.1 ((Le.take (KY.3 V)).trans ((Le.cU (List.Perm.swap ..)).trans (Le.take (Le.skip (Le.refl _)))))
 refine ij (oD m m.ea) fun o v Lb p=>?_;obtain⟨g,rfl⟩:=p.1.Es;refine ah (p.3 V) fun q K8=>?_;have l:=K8.1;have y:=K8.2;have B:=p.1.2.2.1.1;have Y:=p.1.2.2.2 g rfl;have KS:=p.1.2.2.1.2.2;have K0:(g.map GG.int).length<=sizeLine:=cW (aj (mf Y (No (Ni _) G)) rfl);exists 0;refine⟨fun w=>?_,fun w=>?_⟩
 ·exists 0;exists bu (ac am) p.2 ?_;exists bu (ac am) p.2 ?_;exists gW ((fun u=>ac (ac l.mem)) _) K0 ?_;refine gC (Pk (Ol.mpr B)) ?_;refine aW (g2 (a:=f) (m:=(g.length:Int)) (Ol.mpr B)) fun K9=>?_;refine kV (xs:=g.map .int) (.there (.there l)) K9.1 (by rw[Nb];exact K9.2) K0 ?_;refine aN (y (3+(i+1)) 0 (.a (g.set (f.fmod g.length).toNat 7)) (Ob _) (mW (by rw[Sb];exact B) (by rw[Sb];omega) (by exact aj (Np (No (Ni _) G) 1) rfl) fun C X=>(List.mem_or_eq_of_mem_set X).elim (KS C) fun O=>O▸⟨by decide,by decide⟩)) fun b KZ=>?_;exists 0;exact x r b _ KZ.1 (by rw[KZ.2,show((g.map GG.int).set (f.fmod g.length).toNat (.int 7))=(g.set (f.fmod g.length).toNat 7).map GG.int from(List.map_set ..).symm];exact Le.skip (Le.take KZ.3))
 have K6:∀(n:Addr)(D:List Int),1<=D.length->D.length<=3+(i+1)->(∀C∈D,c0 C)->∃b,aL (3+(i+1)) b/\a6 (U.map GZ) (.i 4) (.ref n)=b.map GZ/\∀V:aa,Le (b.map Ha++V) ((n,HB D)::(U.map Ha++V)):=fun n D Li Lj Lk=>vB (ep:=0) m (Ob _) (mW Li Lj (aj (Np (No (Ni _) G) 1) rfl) Lk);exists 0;refine⟨fun w=>?_,fun w=>?_⟩
 ·exists 0;refine⟨fun w=>?_,fun w=>?_⟩
  ·exists 0;exists bu (ac am) p.2 ?_;intro Lg;refine eA (xs:=g.map .int) (ys:=[.int f]) (ac ((fun u=>ac (ac l.mem)) _)) am (by have:=Nl;rw[Nb];exact mf (aj (Np (mf Y (No (Ni _) G)) 1) rfl) (Nd this.symm)) fun n=>?_;exists 0;refine dm (ks:=U.map GZ) (F:=fun u=>(n,.list (g.map GG.int++[.int f]))::(Lg,.list [.int f])::(IX,.list [GG.str "A",GG.str "B",GG.str "D"])::(H,u)::(U.map Ha++V)) (.there (.there (.there .here))) M fun c=>?_;refine aN (K6 n (g++[f]) (by rw[Nm];exact mf B (Nv _ _)) (by rw[Nm,P7];exact mf (Np Y 1) (Ni _)) (wh KS I)) fun b KU=>?_;exists au KU.2 ?_;exact x c b _ KU.1 ((Le.take (KU.3 V)).trans ((Le.cU (List.Perm.swap ..)).trans (by rw[HB,Ng];exact Le.take (Le.skip (Le.skip (Le.refl _))))))
  ·exists 0;exists bu (ac am) p.2 ?_;refine c6 (lo:=none) (hi:=some ((1:Nat):Int)) (ja (xs:=g.map .int) (.inl ((fun u=>ac (ac l.mem)) _)) K0 fun n=>?_);refine au (u3 (by rw[Nb];exact B)) (dY (Qs ..) ?_);exists 0;refine dm (ks:=U.map GZ) (F:=fun u=>(n,HB (g.take 1))::(IX,.list [GG.str "A",GG.str "B",GG.str "D"])::(H,u)::(U.map Ha++V)) (.there (.there .here)) M fun c=>?_;refine aN (K6 n (g.take 1) (by rw[Pf];omega) (by rw[Pf];omega) fun C X=>KS C (Rz X)) fun b KV=>?_;exists au KV.2 ?_;exact x c b _ KV.1 ((Le.take (KV.3 V)).trans ((Le.cU (List.Perm.swap ..)).trans (Le.take (Le.skip (Le.refl _)))))
 exists 0;refine⟨fun w=>?_,fun w=>?_⟩
 ·obtain⟨o,v,j,t,z,q,l,y⟩:=N m.ev (by decide);exists 0;exists bu (ac am) z ?_;refine hh (.there (.there l)) (cE (mf (ci t) (by decide))) fun c=>?_;exists au (sf j h f) ?_;exact y c _ (s3 t K4 I)
 exists 0;exact same
end
theorem E2(b:0<=k)(c:k<3):∃a:Str,([GG.str "A",GG.str "B",GG.str "D"])[k.toNat]? =some (.str a)/\a∈cS:=by
 have:k=0\/k=1\/k=2:=by omega
 rcases this with rfl|rfl|rfl
 ·exact⟨"A",rfl,by simp[cS]⟩
 ·exact⟨"B",rfl,by simp[cS]⟩
 ·exact⟨"D",rfl,by simp[cS]⟩
theorem iP(a:List aF):(al a).map (fun x=>x.1)=a.map (fun x=>x.1):=by unfold al;rw[Nf];rfl
theorem aL.FH(a:aL q Jg)(f:al U=al Jg):aL q U:=by
 have c:U.map (fun x=>x.1)=Jg.map (fun x=>x.1):=by rw[<-iP,f,iP]
 refine⟨c▸a.GO,fun b i=>?_,c▸a.ev,c▸a.ea⟩;have:(b.1,b.2.2.2)∈al Jg:=f▸Na.mpr ⟨b,i,rfl⟩;refine ah (Na.mp this) fun g e=>?_;have h:g.2.2.2=b.2.2.2:=congrArg (fun d:Int×ag=>d.2) e.2;have:=a.all g e.1;unfold bX at this⊢;exact h▸(congrArg (fun d:Int×ag=>d.1) e.2)▸this
section
variable{S:aa}
theorem rb(P:Pg){F:GL->aa}(K4:Ht d (bb H v k) S F)(HA:(H,GL.list (j.map .int))∈S)(p:j.length<=24)(t:v<900000)
(Hu:(IX,GL.dict q (U.map GZ))∈S)(Hi:∀Lv∈U,Ha Lv∈S)(He:aL 3 U)(O:∀KY c a KZ Lb,aL 6 a->KZ<=v+30->M (.ref KY) ((KY,.dict c (a.map GZ))::(a.map Ha++F (bb H KZ Lb)))):GN 3 (.ref 577) [.ref d,.ref IX] S M:=by
 refine aS HX [some (.ref d),some (.ref IX),none,none,none,none,none,none] P.T P.r3 adi rfl fun K9 z D LB Lh=>?_;refine aH ?_;walk_at "m1";exists eJ fun b Lf=>?_;refine ka D.GR P.GY (ep:=q) U GZ (fun w w=>[some (.ref d),some (.ref IX),some (.ref b),none,none,none,none,none]) (fun w(i:Nat×List aF)=>(b,.dict i.1 (i.2.map GZ))::(i.2.map Ha++S)) (fun C i=>al i.2=al C) (Lf,[]) (aD.refl _) (Le.refl _) rfl (fun w w=>ac (NA _ Hu)) ?_ ?_
 ·rintro C ⟨u,La,Lg,E⟩ LN ⟨c,a⟩ g A T N;have KS:a.map (fun x=>x.1)=C.map (fun x=>x.1):=by rw[<-iP,show al a=al C from A,iP]
  have Lj:ae.i u∉(a.map GZ).map (fun x=>x.1):=fun KV=>by
   rw[Nf]at KV;refine ah (Na.mp KV) fun O K5=>?_;exact ez He.GO g (KS▸Na.mpr ⟨O,K5.1,ae.i.inj K5.2⟩)
  have K8:(a.map GZ).length<=sizeLine:=cE (by have Q:=congrArg List.length KS;replace Q:=(Nb _)▸(Nb _)▸Q;have Ly:=cc g;have Lz:=He.ca;exact aj (mf (Nd Q) (mf (Nq Ly) Lz)) rfl);have KX:∀l,(La,dU Lg E)∈(b,l)::(a.map Ha++S):=fun l=>ac (NA _ (Hi _ (bd g)));have Z:∀e n h,T .next (an HX [some (.ref d),some (.ref IX),some (.ref b),some (.int u),none,none,none,none]) ((e,dU n E)::(b,.dict h (a6 (a.map GZ) (.i u) (.ref e)))::(a.map Ha++S)):=fun e n h=>
   N.n (h,a++[(u,e,n,E)]) (by rw[al,Ng,al,Ng];exact congrArg (·++_) A) (by exists 3) (by
    rw[er Lj,Ng,Ng,NR]
    exact Le.cU (OK (l₁:=(b,GL.dict h (a.map GZ++_))::a.map Ha)))
  refine(?_:bn K9 _ (GG.int u) _ _ _ _);exists aZ z (by exists 2) (by walk_at "nput") ?_;refine⟨fun G=>?_,fun G=>?_⟩
  ·obtain⟨LA,rfl⟩:=gy (He.all _ (bd g)) (of_decide_eq_true G);exists 0;exists bu (ac (NA _ Hu)) (ep He.GO (bd g)) ?_;exists ml (.inl (KX _)) (cW (aj ((He.all _ (bd g)).2.2.1.2.1) rfl)) fun e=>?_;exists dm (F:=fun l=>(e,HB LA)::(b,l)::(a.map Ha++S)) (.there .here) K8 fun h=>?_;exact Z e 0 h
  ·obtain⟨Lu,rfl⟩:=fk (He.all _ (bd g)) (of_decide_eq_false G);exists 0;exists bu (ac (NA _ Hu)) (ep He.GO (bd g)) ?_;exists jG P.GY (KX _) (cE (mf (ci (He.all _ (bd g)).2.2.1) (by decide))) fun e n=>?_;exists dm (F:=fun l=>(e,Hq n Lu)::(b,l)::(a.map Ha++S)) (.there .here) K8 fun h=>?_;exact Z e n h
 rintro⟨c,a⟩ A;have GV:=K4.eq.symm;have f:∀(o:aa)v k,Ht d (bb H v k) (o++F (bb H v k)) (fun l=>o++F l)/\(H,GL.list (j.map .int))∈o++F (bb H v k):=fun o v k=>kY K4 HA o;exists au GV ?_;refine GN.lv (fF P (f ((b,.dict c (a.map GZ))::a.map Ha) v k).1 (f ((b,.dict c (a.map GZ))::a.map Ha) v k).2 p (aj t rfl) (by decide) (by decide) fun dl Lx Lc Ll Lm Ln=>?_);refine aN (mP (k:=0) (by decide) Ll Lm) fun Ls K6=>?_;have I:=K6.3;exists au ((Int.zero_add dl).symm.trans K6.1) ?_;refine g3 (ι:=Nat×List aF×Nat×Int) D.GR (aj (fD I) rfl) (fun w w=>[some (.ref d),some (.ref IX),some (.ref b),none,none,none,none,none]) (fun w i=>(b,.dict i.1 (i.2.1.map GZ))::(i.2.1.map Ha++F (bb H i.2.2.1 i.2.2.2))) (fun L i=>aL (3+L) i.2.1/\i.2.2.1<=v+1+4*L) (c,a,Lx,Lc) (by exists 3) (Le.refl _) ⟨(He.FH A),Ln⟩ ?_ ?_
 ·rintro i ⟨c,a,x,y⟩ Lk ⟨r,m⟩ T N;have r:aL (3+i) a:=r;have m:x<=v+1+4*i:=m;have s:i<3:=by exact mf Lk (Nh (fD I))
  refine aZ z (by exists 2) (by walk_at "nput") ?_;refine aH ?_
  with_reducible refine lY ?_
  exists 0;exists GN.lv (fF P (f ((b,.dict c (a.map GZ))::a.map Ha) x y).1 (f ((b,.dict c (a.map GZ))::a.map Ha) x y).2 p (aj (Np (mf m (No t (OI 4 (Nh s)))) 1) rfl) (by decide) (by decide) fun LH K0 V LL LM J=>?_);exists GN.lv (fF P (f ((b,.dict c (a.map GZ))::a.map Ha) K0 V).1 (f ((b,.dict c (a.map GZ))::a.map Ha) K0 V).2 p (mf (Np J 1) (aj (Np (mf m (No t (OI 4 (Nh s)))) 2) rfl)) (by decide) (by decide) fun LF K1 X LI LJ KW=>?_);intro B;exists 0;refine GN.lv (fF P (f ((B,_)::(b,.dict c (a.map GZ))::a.map Ha) K1 X).1 (f ((B,_)::(b,.dict c (a.map GZ))::a.map Ha) K1 X).2 p (mf (Np KW 1) (aj (Np (mf J (Np (mf m (No t (OI 4 (Nh s)))) 1)) 2) rfl)) (by decide) (by decide) fun LD K2 Y KT KU Lo=>?_);exists ah (E2 KT KU) fun L K7=>?_;refine uO (.inl am) KT K7.1 (Pm KU (by decide)) ?_ (by intro _ _;with_unfolding_all rfl);exists 0;exists GN.lv (fF P (f ((B,_)::(b,.dict c (a.map GZ))::a.map Ha) K2 Y).1 (f ((B,_)::(b,.dict c (a.map GZ))::a.map Ha) K2 Y).2 p (mf (Np Lo 1) (mf (Np KW 2) (aj (Np (mf J (Np (mf m (No t (OI 4 (Nh s)))) 1)) 3) rfl))) (by decide) (by decide) fun LG K3 Ld Lp Lq LK=>?_);refine eg z D (by walk_at "nputs") ?_;walk_at "m1";exact AF P z D (i:=i) r (Nq s) (by omega) (by omega) K7.2 (oE Lp Lq (by decide)) fun c Lw LC Li Lr=>N.n (c,Lw,K3,Ld) ⟨Li,by show K3<=v+1+4*(i+1);omega⟩ (by exists 3) Lr
 ·rintro⟨c,a,x,y⟩ ⟨r,m⟩;exists 0;exact Lh.r (O b c a x y (r.mono (Om (by exact Nh (fD I):Ls<=3) 3)) (by omega)) (Le.refl _)
end
noncomputable def aM(a:List (Int×ag)):List (Int×ag):=a.filter fun b=>decide (0<b.1)
theorem bv.mono{S c:aa}(a:bv S d H IX Jj q v IT b)(sub:∀f∈S,f∈c):bv c d H IX Jj q v IT b:=
 ⟨sub _ a.inst,sub _ a.table,sub _ a.cd,⟨fun g e=>(a.tab.ents g e).mono sub,a.tab.cr,a.tab.GO,a.tab.ca⟩,a.ok⟩
theorem ai3{S j:aa}(n:∀a∈IT,bE j a.2.1 a.2.2)(i:ar IT=aM (al U))(He:aL 10 U)(m:af (al U) 0=some (.d b)):
  bv ((d,.inst 368 H (dM IX Jj))::(IX,.dict q (IT.map Hm))::(Jj,Hq v b)::(j++S)) d H IX Jj q v IT b:=by
 have p:∀e∈ar IT,e∈al U:=fun e g=>by rw[i]at g;exact(NL.mp g).1
 have k:∀e∈al U,aI e.2:=fun e g=>by obtain⟨a,c,rfl⟩:=Na.mp g;exact(He.all a c).2.2.1
 refine⟨am,ac am,ac (ac am),⟨fun a c=>(n a c).mono fun l o=>ac (ac (ac (NG _ o))),fun a c=>gs (k _ (p (a.1,a.2.2) (Na.mpr ⟨a,c,rfl⟩))),?_,?_⟩,?_⟩
 ·rw[<-dG,i];have r:((al U).map (fun x=>x.1)).Nodup:=by unfold al;rw[Nf];exact He.GO
  exact(Oq.map _).nodup r
 ·have f:=congrArg List.length i;unfold ar aM at f;rw[Nb]at f;have h:=Ov (fun l:Int×ag=>decide (0<l.1)) (al U);unfold al at h;rw[Nb]at h;unfold al at f;exact aj (Np (mf (Nd f) (mf h He.ca)) 1) rfl
 ·exact gs (k _ (bI m))
theorem vL{b:Int×ag}:aM (IV++[b])=if 0<b.1 then aM IV++[b]else aM IV:=by
 unfold aM;rw[O0,Of];by_cases a:0<b.1
 ·rw[if_pos (decide_eq_true a),if_pos a];rfl
 ·rw[if_neg (fun c=>a (of_decide_eq_true c)),if_neg a];exact NU _
theorem sw(b:List aF)(a:aF):al (b++[a])=al b++[(a.1,a.2.2.2)]:=Ng ..
theorem A2(b:List aC)(a:aC):ar (b++[a])=ar b++[(a.1,a.2.2)]:=Ng ..
section
variable{S:aa}
noncomputable abbrev uf:List Str:=["plain","shelf","number"]
theorem hq(P:Pg)(Hu:(d,GL.dict q (U.map GZ))∈S)(Hi:∀t∈U,Ha t∈S)(He:aL 10 U)(N:af (al U) 0=some (.d b))
(k:∀h i a c u KY f C,bv C h i a c u KY f b->ar f=aM (al U)->Le S C->M (.ref h) C):GN 3 (.ref 584) [.ref d] S M:=by
 obtain⟨⟨Lc,K7,La,K9⟩,H,KW⟩:=Na.mp (bI (l:=al U) N);obtain⟨rfl,rfl⟩:=Oh KW;refine aS uf [some (.ref d),none,none] P.T P.r8 ad3 rfl fun KT K0 K5 K6 KZ=>?_;exists aH ?_;exists eJ fun a KX=>?_;exists bu (ac Hu) (ep He.GO H) ?_;exists jG P.GY (ac (Hi _ H)) (cE (mf (ci (He.all _ H).2.2.1) (by decide))) fun c r=>?_;exists GN.lv (md P fun h i=>?_);have y:∀{I k t s:Addr×GL}{KU:aa},s∈S->s∈I::k::t::(KU++S):=fun v=>ac (ac (ac (NA _ v)));refine ka K5.GR P.GY (ep:=q) U GZ (fun w w=>[some (.ref d),some (.ref h),none]) (fun w(o:Nat×List aC×aa)=>(h,.inst 368 i (dM a c))::(a,.dict o.1 (o.2.1.map Hm))::(c,Hq r b)::(o.2.2++S)) (fun B o=>(∀t∈o.2.1,bE o.2.2 t.2.1 t.2.2)/\ar o.2.1=aM (al B)) (KX,[],[]) (aD.refl _) (Le.take (Le.cU (List.Perm.swap ..))) ⟨bs,rfl⟩ (fun w w=>y Hu) ?_ ?_
 ·rintro B ⟨x,K8,Lb,J⟩ Ld ⟨u,f,p⟩ j ⟨z,n⟩ KV T;have K4:∀{v:Int},v∈f.map (fun x=>x.1)->v∈B.map (fun x=>x.1):=fun{v}e=>by
   rw[<-dG,n]at e;refine ah (Na.mp e) fun k Y=>?_;obtain rfl:=Y.2;rw[<-iP];exact Na.mpr ⟨k,(NL.mp Y.1).1,rfl⟩
  have K1:ae.i x∉(f.map Hm).map (fun x=>x.1):=fun Q=>by
   rw[Nf]at Q;refine ah (Na.mp Q) fun k Z=>?_;exact ez He.GO j (K4 (ae.i.inj Z.2▸Na.mpr ⟨k,Z.1,rfl⟩))
  have KS:(f.map Hm).length<60:=by
   have E:=congrArg List.length n;have O:=Ov (fun I:Int×ag=>decide (0<I.1)) (al B);have:=cc j;have:=He.ca;unfold ar aM at E;unfold al at E O;rw[Nb]at E O⊢;omega
  refine(?_:bn KT _ (GG.int x) _ _ _ _);exists aZ K0 (by exists 2) (by walk_at "nput") ?_;refine⟨fun e=>?_,fun e=>?_⟩
  ·have e:=of_decide_eq_true e;have L:∀(g:Addr)(A:GL)(m:Nat),iv A J->KV .next (an uf [some (.ref d),some (.ref h),some (.int x)]) ((g,A)::(h,.inst 368 i (dM a c))::(a,.dict m (a6 (f.map Hm) (.i x) (.tup [.int 0,.ref g])))::(c,Hq r b)::(p++S)):=fun g A m K2=>
    T.n (m,f++[(x,g,J)],(g,A)::p) ⟨fun k K3=>(Nu.mp K3).elim (fun e=>(z k e).there) fun e=>by rw[Nj.mp e];exact bE.here K2,by rw[A2,sw,vL,if_pos e,n]⟩ (by exists 3) (by
     rw[er K1,Ng]
     exact Le.cU (OK (l₁:=[(h,GL.inst 368 i (dM a c)),(a,GL.dict m (f.map Hm++_)),(c,Hq r b)])))
   exists 0;exists dy (Gx P am rfl) (hN P).1 ?_;refine⟨fun G=>?_,fun G=>?_⟩
   ·obtain⟨X,rfl⟩:=gy (He.all _ (bd j)) (of_decide_eq_true G);exists 0;exists bu (y Hu) (ep He.GO (bd j)) ?_;exists ml (.inl (y (Hi _ (bd j)))) (cW (aj ((He.all _ (bd j)).2.2.1.2.1) rfl)) fun g=>?_;exists(rc P (x:=c) (d:=i) (t:=a) (F:=fun s=>(g,HB X)::(h,.inst 368 i (dM a c))::(a,s)::(c,Hq r b)::(p++S)) (ac am) (.there (.there .here)) KS).go (by decide) (gu fun m=>?_);exact L g (HB X) m rfl
   ·obtain⟨V,rfl⟩:=fk (He.all _ (bd j)) (of_decide_eq_false G);exists 0;exists bu (y Hu) (ep He.GO (bd j)) ?_;exists jG P.GY (y (Hi _ (bd j))) (cE (mf (ci (He.all _ (bd j)).2.2.1) (by decide))) fun g D=>?_;exists(rc P (x:=c) (d:=i) (t:=a) (F:=fun s=>(g,Hq D V)::(h,.inst 368 i (dM a c))::(a,s)::(c,Hq r b)::(p++S)) (ac am) (.there (.there .here)) KS).go (by decide) (gu fun m=>?_);exact L g (Hq D V) m ⟨D,rfl⟩
  ·exists 0;exact T.n (u,f,p) ⟨z,by rw[sw,vL,if_neg (of_decide_eq_false e)];exact n⟩ (by exists 3) (Le.refl _)
 ·rintro⟨u,f,p⟩ ⟨z,n⟩;exists 0;exact KZ.r (k h i a c u r f _ (ai3 z n He N) n (Le.skip (Le.skip (Le.skip (Le.eB _ (Le.refl _)))))) (Le.refl _)
end
noncomputable def a0(a:Int):Str:=Str.ofString (toString a)
noncomputable def cG(a:Int):Prop:=a.natAbs.log2<1920
theorem na(a:cG k):(a0 k).length<=1921:=int_text_len_1921 a
noncomputable def fP:ae->Str
 |.i a=>a0 a
 |.s b=>b
noncomputable def f9:ae->Prop
 |.i a=>cG a
 |.s b=>b.length<=1000
theorem tA(a:f9 Jr):(fP Jr).length<=1921:=by
 cases Jr with
 |i c=>exact na a
 |s b=>show b.length<=1921;exact aj a rfl
theorem tr(b:Str):∀e:List Str,(Txt.join b e).length<=(e.map (·.length)).sum+e.length*b.length
 |[]=>NN _
 |[a]=>by
  show(PySem.Builtin.Str.glued b [a]).length<=_;rw[Qw];show a.length<=_;simp
 |a::c::d=>by
  have f:=tr b (c::d);have g:(Txt.join b (c::d)).length=(Str.join b (c::d)).length:=by show(PySem.Builtin.Str.glued b (c::d)).length=_;rw[Qw]
  show(PySem.Builtin.Str.glued b (a::c::d)).length<=_;rw[Qw];show(a++b++Str.join b (c::d)).length<=_;rw[g]at f;simp only[Q3,Nt,Q8,N4,Nat.add_mul]at f⊢;omega
noncomputable def gG(a:List ae):Str:=Txt.join " " (a.map fP)
theorem ox{l:List Str}{m:Nat}(b:∀a∈l,a.length<=m):(l.map (·.length)).sum<=l.length*m:=by
 induction l with
 |nil=>simp
 |cons a l d=>
  have f:=b a (.head _);have g:=d fun e c=>b e (.tail _ c);rw[Nt,Q8,N4,Nat.add_mul];omega
theorem ot:(Str.ofString " ").length=1:=by exists 4
theorem tq{l:List Str}{m:Nat}(b:∀c∈l,c.length<=m):(Txt.join " " l).length<=l.length*(m+1):=by
 have a:=tr " " l;rw[ot]at a;rw[Nat.mul_add];exact mf a (Np (ox b) _)
theorem af6(b:∀a∈IZ,f9 a):(gG IZ).length<=IZ.length*1922:=by
 have:=tq (l:=IZ.map fP) (m:=1921) (fun e d=>by obtain⟨a,c,rfl⟩:=Na.mp d;exact tA (b a c));exact(Nb _)▸this
noncomputable def dZ:ak->Str
 |.obj b=>gG [.s "obj",.i b]
 |.cd=>gG [.s "trailer"]
 |.key c=>"/"++c
 |.idx a=>"["++a0 a++"]"
noncomputable def fA:ak->Prop
 |.obj b=>cG b
 |.cd=>True
 |.key c=>c.length<=1000
 |.idx a=>cG a
theorem cV(a:cG k):Sm 1921 (a0 k):=na a
theorem oo(a:∀b∈IZ,f9 b)(c:IZ.length<=2):Sm 4000 (gG IZ):=mf (af6 a) (mf (Nat.mul_le_mul_right _ c) (by decide))
theorem lf{s:Str}(a:cG k)(c:decide (s.length<=1000)=true):∀b∈[ae.s s,ae.i k],f9 b:=NT.mpr ⟨(of_decide_eq_true c:s.length<=1000),NP.mpr a⟩
theorem uI(b:decide (h.length<=1000)=true):∀a∈[ae.s h],f9 a:=NP.mpr (of_decide_eq_true b:h.length<=1000)
theorem vZ{a:ak}(c:fA a):Sm 4000 (dZ a):=by
 cases a with
 |obj e=>exact oo (lf c (by exists 4)) (Ni 2)
 |cd=>exact oo (uI (by exists 4)) (Ob 1)
 |key a=>exact((lit (s:="/") (by exists 4)).app (b:=1000) c).le
 |idx d=>exact(((lit (s:="[") (by exists 4)).app (cV c)).app (lit (s:="]") (by exists 4))).le
noncomputable def iX(a:Str)(b:List GG):Str:=if a="int"then(match b with|[.int c]=>gG [.s "int",.i c]|_=>"")else a++" of "++a0 b.length
noncomputable def b9:GG->Str
 |.tup (.str a::b)=>iX a b
 |_=>""
theorem l2(a:Int):b9 (ap a)=gG [.s "int",.i a]:=by
 show iX "int" [.int a]=_;unfold iX;rw[if_pos rfl]
theorem jB(a:List (Str×Int)):b9 (bz a)="dict"++" of "++a0 a.length:=by
 show iX "dict" (a.map fr)=_;unfold iX;rw[if_neg (by exists 4),Nb]
noncomputable def gd(c:GG):Prop:=(∃a,c=ap a/\cG a)\/∃b,c=bz b/\b.length<1000
theorem hF{n:Nat}(b:n<2^60):cG (n:Int):=by
 unfold cG;rw[Int.natAbs_natCast];by_cases a:n=0
 ·subst a;decide
 ·have:=(Nat.log2_lt a (k:=60)).mpr b;exact aj this rfl
theorem fa(a:gd i):Sm 4000 (b9 i):=by
 rcases a with⟨b,rfl,a⟩|⟨c,rfl,a⟩
 ·rw[l2];exact oo (lf a (by exists 4)) (Ni 2)
 ·rw[jB];exact(((lit (s:="dict") (by exists 4)).app (lit (s:=" of ") (by exists 4))).app (cV (hF (OG a (by decide))))).le
noncomputable def de(a:List ak):Str:=Txt.join " " (a.map dZ)
theorem u6(b:∀a∈JB,fA a):(de JB).length<=JB.length*4001:=by
 have:=tq (l:=JB.map dZ) (m:=4000) (fun a d=>by obtain⟨e,c,rfl⟩:=Na.mp d;exact vZ (b e c));exact(Nb _)▸this
noncomputable def yU(c:Str):a9->Str
 |.gone a=>c++": gone, "++b9 a
 |.added b=>c++": added, "++b9 b
 |.turned a b=>c++": "++b9 a++" -> "++b9 b
noncomputable def hl:a9->Prop
 |.gone a=>gd a
 |.added b=>gd b
 |.turned a b=>gd a/\gd b
section
variable{S:aa}
theorem rm(b:f9 Jr)(a:M (.str (fP Jr)) S):GN q (.type "str") [Jr.GP] S M:=by
 cases Jr with
 |i c=>exact rl b a
 |s d=>exact zX a
theorem em(a:cG k)(b:M (.str (a0 k)) S):GN q (.type "str") [.int k] S M:=rl a b
theorem p7(c:∀a∈IZ,f9 a)(h:IZ.length<=2)(b:(d,GL.list (IZ.map fun a=>.str (fP a)))∈S)(g:M (.str (gG IZ)) S):GN q (.builtin "str.join") [.str " ",.ref d] S M:=by
 refine p6 (ss:=IZ.map fP) (by rw[Nf];exact b) ?_ g;have b:=ox (l:=IZ.map fP) (m:=1921) (fun i f=>by obtain⟨a,e,rfl⟩:=Na.mp f;exact tA (c a e));rw[ot];rw[Nb]at b⊢;omega
theorem rg(P:Pg)(a:∀c∈IZ,f9 c)(d:IZ.length<=2)(f:M (.str (gG IZ)) S):GN 1 (.ref 520) [.tup (IZ.map ae.GP)] S M:=by
 refine aS ["step"] [some (.tup (IZ.map ae.GP))] P.T P.jY nS rfl fun e b g m i=>?_;refine aH ?_;exists 1;exists cy ["part"] b (by exists 4) (by exists 4) ?_;refine d8 IZ ae.GP (fun c=>.str (fP c)) [none] (hL g.GR) (bC (mf d (by decide))) trivial (fun f a=>a) (bm.start (by walk_at "ncaps") b.GO) (fun l p h n k=>?_) fun h=>?_
 ·refine b2 ["part"] ["part"] ["str"] [] b g (by exists 4) (by exists 4) fun j o=>?_;exists aZ j (by exists 2) (by walk_at "nput") ?_;exact rm (a l k) (cp rfl (by exists 3) (Le.refl _))
 exists 0;exists p7 a d am ?_;exact i.r f (Le.skip (Le.refl _))
theorem zS(P:Pg){d:ak}(a:fA d)(c:M (.str (dZ d)) S):GN 1 (.ref 520) [d.GP] S M:=by
 cases d with
 |key k=>
  refine aS ["step"] [some (.str k)] P.T P.jY nS rfl fun e h j g f=>?_;refine aH ?_;exists 1;exists aG (b:=1000) (lit (by exists 4)) a ?_;exact f.r c (Le.refl _)
 |idx i=>
  refine aS ["step"] [some (.int i)] P.T P.jY nS rfl fun e h j g f=>?_;refine aH ?_;exists 1;exists em a (aG (lit (by exists 4)) (cV a) ?_);exists aG ((lit (by exists 4)).app (cV a)) (lit (by exists 4)) ?_;exact f.r c (Le.refl _)
 |obj l=>exact rg P (lf a (by exists 4)) (Ni 2) c
 |cd=>exact rg P (uI (by exists 4)) (Ob 1) c
theorem tz(a b:Str):∀c∈[GG.str a,GG.str b],aQ 20 c:=NT.mpr ⟨trivial,NP.mpr trivial⟩
theorem ty{c:Bool}(a:decide (JL∈[h,I5])=c):([GG.str h,GG.str I5].any fun b=>GG.bf b (.str JL))=c:=(lS (f:=GG.str) GG.str.inj [h,I5] JL).trans a
theorem jH(P:Pg)(a:gd i)(d:M (.str (b9 i)) S):GN 1 (.ref 525) [i] S M:=by
 rcases a with⟨l,rfl,a⟩|⟨b,rfl,a⟩
 ·have k:=lf (s:="int") a (by exists 4);rw[l2]at d;refine aS ["shape","kind"] [some (ap l),none] P.T P.mG uH rfl fun e g f n h=>?_;refine aH ?_;exists 1;refine uN f (tz _ _) trivial ?_;refine au (ty (c:=false) (by exists 4)) ?_;exists 1;exists cy ["part"] g (by exists 4) (by exists 4) ?_;refine d8 [ae.s "int",ae.i l] ae.GP (fun q=>.str (fP q)) [none] (hL f.GR) (bC (show 2<=1000 by decide)) trivial (fun d a=>a) (bm.start (by walk_at "ncaps") g.GO) (fun r v m t p=>?_) fun m=>?_
  ·refine b2 ["part"] ["part"] ["str"] [] g f (by exists 4) (by exists 4) fun o u=>?_;exists aZ o (by exists 2) (by walk_at "nput") ?_;exact rm (k r p) (cp rfl (by exists 3) (Le.refl _))
  exists 0;exists p7 k (Ni 2) am ?_;exact h.r d (Le.skip (Le.refl _))
 ·have j:cG b.length:=hF (OG a (by decide));rw[jB]at d;refine aS ["shape","kind"] [some (bz b),none] P.T P.mG uH rfl fun e g f n h=>?_;refine aH ?_;exists 1;refine uN f (tz _ _) trivial ?_;refine au (ty (c:=true) (by exists 4)) ?_;exists 1;exists aG (lit (by exists 4)) (lit (by exists 4)) ?_;refine au (show(((b.map fr).length+1:Nat):Int)-1=((b.length:Nat):Int) by rw[Nb];exact Int.add_sub_cancel (b.length:Int) 1) ?_;exists em j (aG ((lit (by exists 4)).app (lit (by exists 4))) (cV j) ?_);exact h.r d (Le.refl _)
end
noncomputable abbrev aJ:=List ak×Str
variable{JJ Kt:List aJ}
noncomputable abbrev aJ.GP(a:aJ):GG:=.tup [.tup (a.1.map ak.GP),.str a.2]
noncomputable def aB(a:Int):ak:=if 0<a then .obj a else .cd
noncomputable def aU(a:Int):Str:=if 0<a then"obj "++a0 a else"trailer"
noncomputable def bH(b:Int)(c d:List Int)(a:Nat):List aJ:=
 if c.getD a 0=d.getD a 0 then[]else[([aB b,.idx (a:Nat)],aU b++(" ["++a0 a++"]")++": int "++a0 (c.getD a 0)++" -> int "++a0 (d.getD a 0))]
noncomputable def b7(b:Int)(c d:List (Str×Int))(a:Str):List aJ:=
 if ax c a=false then[([aB b,.key a],aU b++(" /"++a)++": added, int "++a0 (av d a))]
 else if ax d a=false then[([aB b,.key a],aU b++(" /"++a)++": gone, int "++a0 (av c a))]
 else if av c a=av d a then[]else[([aB b,.key a],aU b++(" /"++a)++": int "++a0 (av c a)++" -> int "++a0 (av d a))]
noncomputable def j2:ag->Nat
 |.a c=>c.length
 |.d b=>b.length
noncomputable def bS(b:Int):Option ag->Option ag->List aJ
 |none,some c=>[([aB b],aU b++": added, dict of "++a0 (j2 c))]
 |some c,none=>[([aB b],aU b++": gone, dict of "++a0 (j2 c))]
 |some (.a e),some (.a h)=>if e.length=h.length then(List.range e.length).flatMap (bH b e h)else[([aB b],"")]
 |some (.d f),some (.d g)=>(br f g).flatMap (b7 b f g)
 |_,_=>[]
noncomputable def dd:List Int:=[1,2,3,4,5,0]
noncomputable def a8(b c:List (Int×ag)):List aJ:=dd.flatMap fun a=>bS a (af b a) (af c a)
theorem nd(e:Int)(c d:List Int)(a:Nat):(bH e c d a).length<=1:=by
 unfold bH;by_cases b:c.getD a 0=d.getD a 0
 ·rw[if_pos b];exact NN 1
 ·rw[if_neg b];exact Ni 1
theorem tB{c:aJ}(a:c∈bH k j O q):c.1=[aB k,.idx (q:Nat)]:=by
 unfold bH at a;by_cases b:j.getD q 0=O.getD q 0
 ·rw[if_pos b]at a;exact(N0 a).elim
 ·rw[if_neg b]at a;rw[Nj.mp a]
theorem ng{f:aJ}(a:f∈b7 k b L h):∃g,f=([aB k,.key h],aU k++(" /"++h)++g):=by
 unfold b7 at a;by_cases c:ax b h=false
 ·replace a:=(if_pos c)▸a;exact⟨_,(Nj.mp a).trans (congrArg (Prod.mk _) (NY _ _ _))⟩
 rw[if_neg c]at a;by_cases d:ax L h=false
 ·rw[if_pos d]at a;exact⟨_,(Nj.mp a).trans (congrArg (Prod.mk _) (NY _ _ _))⟩
 rw[if_neg d]at a;by_cases e:av b h=av L h
 ·rw[if_pos e]at a;exact(N0 a).elim
 ·rw[if_neg e]at a;exact⟨_,(Nj.mp a).trans (congrArg (Prod.mk _) ((NY _ _ _).trans ((NY _ _ _).trans (NY _ _ _))))⟩
theorem nf(g:Int)(b c:List (Str×Int))(a:Str):(b7 g b c a).length<=1:=by
 unfold b7;by_cases d:ax b a=false
 ·rw[if_pos d];exact Ni 1
 rw[if_neg d];by_cases e:ax c a=false
 ·rw[if_pos e];exact Ni 1
 rw[if_neg e];by_cases f:av b a=av c a
 ·rw[if_pos f];exact NN 1
 ·rw[if_neg f];exact Ni 1
theorem gQ(a:List aF)(f:(a.map (fun x=>x.1)).Nodup)(c:Int):(∃b∈a,b.1=c/\af (al a) c=some b.2.2.2/\ay (a.map GZ) (.i c)=some (.ref b.2.1))\/(af (al a) c=none/\ay (a.map GZ) (.i c)=none):=by
 by_cases e:c∈a.map (fun x=>x.1)
 ·refine ah (Na.mp e) fun b h=>?_;obtain rfl:=h.2;refine .inl ⟨b,h.1,rfl,?_,ep f h.1⟩;have:∀a:List aF,(a.map (fun x=>x.1)).Nodup->b∈a->af (al a) b.1=some b.2.2.2:=by
   intro a;induction a with
   |nil=>intro _ e;simp at e
   |cons k a j=>
    intro f g;delta af al;rw[Nt,NF];rcases Nk.mp g with rfl|g
    ·simp
    ·have d:(b.1==k.1)=false:=by
      rw[beq_eq_false_iff_ne];intro d;exact(ND.mp f).1 (Na.mpr ⟨b,g,d⟩)
     rw[d];exact j (ND.mp f).2 g
  exact this a f h.1
 ·refine .inr ⟨?_,mA e⟩;cases d:af (al a) c with
  |none=>rfl
  |some l=>
   have:=(dT (al a) c).mp (by rw[d];rfl);unfold al at this;rw[Nf]at this;exact(e this).elim
theorem dC(b:c0 k):cG k:=by
 obtain⟨a,c⟩:=b;have:=hF (n:=k.toNat) (OG ((Int.toNat_lt a).mpr (c:k<((100:Nat):Int))) (by decide))
 rwa[show((k.toNat:Nat):Int)=k from QK a]at this
theorem tG(a:h∈cS):h.length<=10:=by
 simp only[cS,Nk,N0,or_false]at a;rcases a with rfl|rfl|rfl|rfl|rfl|rfl<;>exists 4
theorem Ec(a:cG k):(aU k).length<=2000:=by
 unfold aU
 split
 ·have:=na a;rw[Q3];exact aj (No (by exists 4:(Str.ofString "obj ").length<=10) this) rfl
 ·exists 4
theorem ff(e:aI (.d b))(a:ax b h=true):c0 (av b h):=by
 rw[eQ]at a;obtain⟨f,c⟩:=Oa.mp a;have:=e.2 _ (bI c);unfold av;rw[c];exact this.2
theorem vP(d:∀a,a∈IZ↔a∈l.map ae.s):∃b:List Str,IZ=b.map ae.s/\∀c,c∈b↔c∈l:=by
 have:∀IZ:List ae,(∀a∈IZ,a∈l.map ae.s)->∃b:List Str,IZ=b.map ae.s:=by
  intro IZ;induction IZ with
  |nil=>intro _;exact⟨[],rfl⟩
  |cons a IZ g=>
   intro d;obtain⟨b,rfl⟩:=g fun h f=>d h (.tail _ f);obtain⟨c,_,rfl⟩:=Na.mp (d a (.head _));exact⟨c::b,rfl⟩
 obtain⟨b,rfl⟩:=this IZ fun a e=>(d a).mp e;refine⟨b,rfl,fun c=>?_⟩;have:=d (.s c);simpa using this
theorem oq(c:l.Nodup)(d:Jb.Nodup)(b:∀a,a∈l↔a∈Jb):cD l=cD Jb:=vV ((Qx c d).mpr b)
theorem jV(g:(b.map (fun x=>x.1)).Nodup)(h:(L.map (fun x=>x.1)).Nodup):(b.map (fun x=>x.1)++(L.filter fun a=> !ax b a.1).map (fun x=>x.1)).Nodup:=by
 rw[NK];refine⟨g,(Oq.map _).nodup h,fun i d j e c=>?_⟩;subst c;obtain⟨a,f,rfl⟩:=Na.mp e;have:=(NL.mp f).2;rw[bw.mpr d]at this;exact nomatch this
theorem kF:h∈(b.map (fun x=>x.1)++(L.filter fun c=> !ax b c.1).map (fun x=>x.1))↔h∈b.map (fun x=>x.1)\/h∈L.map (fun x=>x.1):=by
 rw[Nu];constructor
 ·rintro(a|a)
  ·exact .inl a
  ·refine ah (Na.mp a) fun c e=>?_;obtain rfl:=e.2;exact .inr (Na.mpr ⟨c,(NL.mp e.1).1,rfl⟩)
 ·rintro(a|a)
  ·exact .inl a
  ·by_cases d:ax b h=true
   ·exact .inl (bw.mp d)
   ·refine ah (Na.mp a) fun c f=>?_;obtain rfl:=f.2;refine .inr (Na.mpr ⟨c,NL.mpr ⟨f.1,by simpa using d⟩,rfl⟩)
theorem eU:h∈br b L↔h∈b.map (fun x=>x.1)\/h∈L.map (fun x=>x.1):=by unfold br;rw[(cO _).mem_iff];exact kF
theorem ti:(ay (b.map Hf) (.s h)).isSome=ax b h:=by
 cases a:ax b h with
 |true=>rw[fe (bw.mp a)];rfl
 |false=>rw[mz (fun c=>by rw[bw.mpr c]at a;exact nomatch a)];rfl
noncomputable abbrev Ih:List Str:=["base","draft","rows","number","step","head","one","other","keys","key","place"]
noncomputable abbrev IL:List Str:=["str","len","range","sorted","set","list"]
noncomputable def IK:List Stmt:=(HV (aT 57)[1]?).2.1
section
variable{S:aa}
end
theorem op(a:q<=1000):q<=sizeLine:=by have:=Nl;exact mf (aj (c:=16777216) a rfl) (Nd Nl.symm)
theorem fo{R:Addr}{S:aa}(a:z=Jm):Le (J1::(R,.list z)::S) (J1::(R,.list Jm)::S):=a▸Le.refl _
theorem hQ{a:Addr×GL}{R:Addr}{S:aa}(b:z=Jm):Le (J1::a::(R,.list z)::S) (J1::a::(R,.list Jm)::S):=b▸Le.refl _
theorem i3{a:D->List aJ}{b:List D}{c:D}(d:a c=Kt):(JJ++(b++[c]).flatMap a).map aJ.GP=(JJ++b.flatMap a).map aJ.GP++Kt.map aJ.GP:=by
 rw[g1,<-NR,Ng,d]
theorem F4{a:D->List aJ}{b:List D}{c:D}(d:a c=[]):(JJ++(b++[c]).flatMap a).map aJ.GP=(JJ++b.flatMap a).map aJ.GP:=(i3 d).trans (NU _)
theorem t9{a:Nat->List aJ}(b:a q=Kt):(JJ++(List.range (q+1)).flatMap a).map aJ.GP=(JJ++(List.range q).flatMap a).map aJ.GP++Kt.map aJ.GP:=by rw[Qr];exact i3 b
theorem F6{a:Nat->List aJ}(b:a q=[]):(JJ++(List.range (q+1)).flatMap a).map aJ.GP=(JJ++(List.range q).flatMap a).map aJ.GP:=(t9 b).trans (NU _)
theorem t8{a:D->List aJ}(b:∀e,(a e).length<=1){pre:List D}(c:JJ.length<=72)(d:pre.length<=20):((JJ++pre.flatMap a).map aJ.GP).length<=sizeLine:=by
 have:=eu a b pre;rw[Nb,Nm];exact op (aj (No c (mf this d)) rfl)
theorem nr:(JJ++([]:List aJ)).map aJ.GP=JJ.map aJ.GP:=congrArg _ (NU JJ)
theorem gA:aD [Ji,Jk,Jt,Jx,JC,JI,JP,J0,Kj,none,none] [Ji,Jk,Jt,Jx,JC,JI,JP,J0,Kj,Kr,Kx]:=.same (.same (.same (.same (.same (.same (.same (.same (.same (.drop (.drop .nil))))))))))
theorem F7:aD [Ji,Jk,Jt,none,none,none,none,none,none,none,none] [Ji,Jk,Jt,Jx,JC,JI,JP,J0,Kj,Kr,Kx]:=.same (.same (.same (.drop (.drop (.drop (.drop (.drop (.drop (.drop (.drop .nil))))))))))
theorem Fa(a:¬j.getD q 0=O.getD q 0):bH k j O q=[([aB k,.idx (q:Nat)],aU k++(" ["++a0 q++"]")++": int "++a0 (j.getD q 0)++" -> int "++a0 (O.getD q 0))]:=if_neg a
theorem H7(a:Jh=true):¬Jh=false:=by rw[a];exact Bool.noConfusion
section
theorem Fd(a:ax b h=false):b7 k b L h=[([aB k,.key h],aU k++(" /"++h)++": added, int "++a0 (av L h))]:=if_pos a
theorem Fe(a:ax b h=true)(c:ax L h=false):b7 k b L h=[([aB k,.key h],aU k++(" /"++h)++": gone, int "++a0 (av b h))]:=(if_neg (H7 a)).trans (if_pos c)
theorem Fh(c:ax b h=true)(d:ax L h=true)(a:¬av b h=av L h):b7 k b L h=[([aB k,.key h],aU k++(" /"++h)++": int "++a0 (av b h)++" -> int "++a0 (av L h))]:=(if_neg (H7 c)).trans ((if_neg (H7 d)).trans (if_neg a))
theorem Fg(c:ax b h=true)(d:ax L h=true)(a:av b h=av L h):b7 k b L h=[]:=(if_neg (H7 c)).trans ((if_neg (H7 d)).trans (if_pos a))
end
inductive LV(S:aa)(n:Int):Option GG->Option GG->List aJ->Prop
 |none (f:n≠4):LV S n none none []
 |added {a:Addr} {e:Nat} {b:List (Str×Int)} (f:n≠4) (j:(a,Hq e b)∈S) (g:aI (.d b)):LV S n none (some (.ref a)) [([aB n],aU n++": added, dict of "++a0 b.length)]
 |gone {a:Addr} {e:Nat} {b:List (Str×Int)} (f:n≠4) (j:(a,Hq e b)∈S) (g:aI (.d b)):LV S n (some (.ref a)) none [([aB n],aU n++": gone, dict of "++a0 b.length)]
 |arr {a c:Addr} {xs i:List Int} (f:n=4) (j:(a,HB xs)∈S) (l:(c,HB i)∈S) (g:aI (.a xs)) (k:aI (.a i)):
  LV S n (some (.ref a)) (some (.ref c)) (if xs.length=i.length then(List.range xs.length).flatMap (bH n xs i)else[([aB n],"")])
 |jN {a c:Addr} {e e':Nat} {h b:List (Str×Int)} (f:n≠4) (j:(a,Hq e h)∈S) (l:(c,Hq e' b)∈S) (g:aI (.d h)) (k:aI (.d b)):LV S n (some (.ref a)) (some (.ref c)) ((br h b).flatMap (b7 n h b))
theorem FP(e:aI (.d b))(f:aI (.d L))(h:IZ.Nodup)(k:∀g,g∈IZ↔g∈(b.map (fun x=>x.1)++L.map (fun x=>x.1)).map ae.s):cg (IZ.map ae.GP) ((br b L).map .str)/\IZ.length<64:=by
 refine ah (vP k) fun c i=>?_;obtain rfl:=i.1;have m:c.Nodup:=by rw[List.Nodup,Op]at h;exact h.imp fun l a=>l (congrArg _ a)
 have a:cD c=br b L:=oq m (jV e.1 f.1) fun n=>by rw[i.2,kF,Nu]
 refine⟨by rw[Nf,<-a];exact cg.str c,?_⟩;have j:=congrArg List.length a;rw[(cO _).length_eq]at j;have:=hB b L;have:=ci e;have:=ci f;rw[Nb];omega
theorem iY(a:List (Str×Int)):((a.map Hf).map fun b=>b.1.GP)=(a.map (fun x=>x.1)).map GG.str:=by rw[Nf,Nf];rfl
theorem k_keys(a b:List (Str×Int)):(a.map (fun x=>x.1)).map GG.str++(b.map (fun x=>x.1)).map GG.str=((a.map (fun x=>x.1)++b.map (fun x=>x.1)).map ae.s).map ae.GP:=by rw[<-Ng,Nf];rfl
theorem ua{S:aa}(i:LV S k Ji Jk JJ):JJ.length<=12:=by
 cases i with
 |none=>exact NN _
 |added=>exact N3 1 11
 |gone=>exact N3 1 11
 | @arr _ _ e j _ _ _ a d=>
  have:=eu _ (nd k e j) (List.range e.length);rw[NS]at this;have:=a.2.1
  split
  ·omega
  ·exact N3 1 11
 | @jN _ _ _ _ b c _ _ _ a d=>
  have:=eu _ (nf k b c) (br b c);have f:=hB b c;have g:=ci a;have h:=ci d;exact mf this (mf f (No g h))
theorem kc(a:q<j.length):(j.map GG.int)[q]? =some (.int (j.getD q 0)):=by
 rw[Ot,Qm,N2 a];rfl
theorem ke(c:aI (.a j))(b:q<j.length):c0 (j.getD q 0):=by
 rw[Qm,N2 b];exact c.2.2 _ (RT b)
theorem gz{b:D->I1}{a:List D}(c:a.length<=1000):(a.map b).length<=sizeLine:=by rw[Nb];exact op c
theorem mQ(a:q<=1000):cG (q:Int):=hF (aj (Np a 1) rfl)
section
variable{S:aa}{R:Addr}
theorem F5(P:Pg)(Lf:LV S k Ji Jk Kt)(KS:G9 e Ih Ih IL [])(KW:aw e.A 1)(K5:cG k)(L:JJ.length<=72)
(x:∀KY KZ K0 K1 K2 K3 I J X,Le ((IX,.list (dd.map .int))::(R,.list ((JJ++Kt).map aJ.GP))::S) X->Z .next (an Ih [some (.ref d),some (.ref H),some (.ref R),KY,KZ,K0,K1,K2,K3,I,J]) X)(I J K4:Option GG):
  GK e (execs (IK.drop 3) e.env) GW (an Ih [some (.ref d),some (.ref H),some (.ref R),some (.int k),some (aB k).GP,some (.str (aU k)),some (Ji.getD .none),some (Jk.getD .none),I,J,K4]) ((IX,.list (dd.map .int))::(R,.list (JJ.map aJ.GP))::S) Z:=by
 have f:Sm 2000 (aU k):=Ec K5;have Ln:(JJ.map aJ.GP).length<=sizeLine:=gz (aj L rfl);refine aH ?_;cases Lf with
 |none c=>
  exists 1;refine bx (decide_eq_false c) ?_;exists 1;exact x _ _ _ _ _ _ _ _ _ (fo nr)
 | @added y D l c h b=>
  have A:=ci b;have z:=mQ (aj A rfl);exists 1;exists aG f (lit (by exists 4)) ?_;refine iH P.GY (ac (ac h)) (gz (aj A rfl)) ?_;exists au (Nb ..) ?_;exists em z (aG (f.app (lit (by exists 4))) (cV z) ?_);exact x _ _ _ _ _ _ _ _ _ (fo (Ng ..))
 | @gone y D l c h b=>
  have A:=ci b;have z:=mQ (aj A rfl);exists 1;exists aG f (lit (by exists 4)) ?_;refine iH P.GY (ac (ac h)) (gz (aj A rfl)) ?_;exists au (Nb ..) ?_;exists em z (aG (f.app (lit (by exists 4))) (cV z) ?_);exact x _ _ _ _ _ _ _ _ _ (fo (Ng ..))
 | @arr y G V KX c h r b m=>
  have K6:=b.2.1;have p:=m.2.1;exists 1;exists bN (decide_eq_true c) ?_;refine gn (.inl (ac (ac h))) (gz (aj K6 rfl)) ?_;exists au (Nb ..) ?_;refine gn (.inl (ac (ac r))) (gz (aj p rfl)) ?_;exists au (Nb ..) ?_;refine⟨fun N=>?_,fun g=>?_⟩
  ·have N:=fun D=>of_decide_eq_true N (congrArg Int.ofNat D);exists 1;exact x _ _ _ _ _ _ _ _ _ (fo (by rw[if_neg N];exact Ng ..))
  ·have g:=PQ (Qy.mp (of_decide_eq_false g));exists 1;exists bN (decide_eq_true c) ?_;refine gn (.inl (ac (ac h))) (gz (aj (mf (Nd g) p) rfl)) ?_;exists au (Nb ..) ?_;refine g3 KW.GR (aj (Np (mf (Nd g) p) 1) rfl) (fun w w=>[some (.ref d),some (.ref H),some (.ref R),some (.int k),some (aB k).GP,some (.str (aU k)),some (.ref y),some (.ref G),some (.c4 0 V.length 1),none,none]) (fun C w=>(IX,.list (dd.map .int))::(R,.list ((JJ++(List.range C).flatMap (bH k V KX)).map aJ.GP))::S) (fun w w=>True) () gA (fo nr) trivial ?_ ?_
   ·intro B _ i _ Z u;have M:=mQ (aj (mf (Nq i) (mf (Nd g) p)) rfl);have E:=dC (ke b i);have KV:=dC (ke m (g▸i));have Lb:=t8 (nd k V KX) (pre:=List.range B) L (by rw[NS];exact aj (mf (Nq i) (mf (Nd g) p)) rfl);exists aZ KS (by exists 2) (by walk_at "nput") ?_;exists bN (decide_eq_true c) ?_;have n:=(lit (s:=" [") (by exists 4)).app (cV M);have T:=n.app (lit (s:="]") (by exists 4));exists em M (aG (lit (by exists 4)) (cV M) ?_);exists aG n (lit (by exists 4)) (aG f T ?_);exists bx (decide_eq_false fun o=>o c) (bx rfl ?_);exists bx (decide_eq_false fun o=>o c) (bx rfl ?_);refine cB (k:=B) (.inl (ac (ac h))) (kc i) (Og (N6.mpr (mf (Nq i) (mf (Nd g) p))) (by decide)) ?_ (by intro _ _;with_unfolding_all rfl);exists 0;refine cB (k:=B) (.inl (ac (ac r))) (kc (g▸i)) (Og (N6.mpr (mf (Nq i) (mf (Nd g) p))) (by decide)) ?_ (by intro _ _;with_unfolding_all rfl);exists 0;refine⟨fun t=>?_,fun t=>?_⟩
    ·exists 0;have v:=(f.app T).app (lit (s:=": int ") (by exists 4));exists aG (f.app T) (lit (by exists 4)) ?_;refine cB (k:=B) (.inl (ac (ac h))) (kc i) (Og (N6.mpr (mf (Nq i) (mf (Nd g) p))) (by decide)) ?_ (by intro _ _;with_unfolding_all rfl);exists 0;exists em E (aG v (cV E) ?_);exists aG (v.app (cV E)) (lit (by exists 4)) ?_;refine cB (k:=B) (.inl (ac (ac r))) (kc (g▸i)) (Og (N6.mpr (mf (Nq i) (mf (Nd g) p))) (by decide)) ?_ (by intro _ _;with_unfolding_all rfl);exists 0;exists em KV (aG ((v.app (cV E)).app (lit (by exists 4))) (cV KV) ?_);exact u.n () trivial gA (fo (t9 (Fa (of_decide_eq_true t))))
    ·exists 0;exact u.n () trivial gA (fo (F6 (if_pos (Qy.mp (of_decide_eq_false t)))))
   ·intro _ _;exists 0;exact x _ _ _ _ _ _ _ _ _ (fo (by rw[if_pos g]))
 | @jN y G D Lg q l c h r b m=>
  have a:=ci b;have j:=ci m;exists 1;refine bx (decide_eq_false c) (bx rfl ?_);exists 1;exists bx (decide_eq_false c) ?_;exists fd P.GY (ks:=q.map Hf) (ac (ac h)) (gz (aj a rfl)) fun Li=>au (iY q) ?_;refine fd P.GY (ks:=l.map Hf) (ac (ac (ac r))) (gz (aj j rfl)) fun Lj=>au (iY l) ?_;refine eA (by exists 2) (by exists 2) (by simp only[Nb];exact op (aj (No a j) rfl)) fun Lk=>?_;exists au (k_keys q l) ?_;refine mo am (by simp only[Nb,Nm];exact aj (No a j) rfl) fun Ll Lh K8 K7=>?_;obtain⟨K9,La⟩:=FP b m K8 K7;exists 0;exists mr am K9 La fun K=>?_;refine dv KW.GR (br q l) GG.str (fun w w=>[some (.ref d),some (.ref H),some (.ref R),some (.int k),some (aB k).GP,some (.str (aU k)),some (.ref y),some (.ref G),some (.ref K),none,none]) (fun U w=>(K,.list ((br q l).map .str))::(IX,.list (dd.map .int))::(R,.list ((JJ++U.flatMap (b7 k q l)).map aJ.GP))::S) (fun w w=>True) () gA ?_ trivial (fun w w=>am) ?_ ?_
  ·exact Le.take (Le.skip (Le.skip (Le.skip (Le.skip (fo nr)))))
  ·intro U C Lm _ Y _ Z u;have KU:=eU.mp (bd Y);have KT:Sm 10 C:=tG (KU.elim (fun o=>by obtain⟨Q,a,rfl⟩:=Na.mp o;exact(b.2 Q a).1) fun o=>by obtain⟨Q,a,rfl⟩:=Na.mp o;exact(m.2 Q a).1);have Lb:=t8 (nf k q l) (pre:=U) L (by have Lc:=cc Y;have Ld:=hB q l;exact aj (mf (Nq Lc) (mf Ld (No a j))) rfl);exists aZ KS (by exists 2) (by walk_at "nput") ?_;exists bx (decide_eq_false c) ?_;have n:=(lit (s:=" /") (by exists 4)).app KT;exists aG (lit (by exists 4)) KT (aG f n ?_);exists bN (decide_eq_true c) ?_;exists au ti ?_;cases a:ax q C with
   |false=>
    have O:=KU.elim (fun o=>by rw[bw.mpr o]at a;exact nomatch a) bw.mpr;refine bN rfl ?_;exists 1;exists aG (f.app n) (lit (by exists 4)) ?_;exists cu (ac (ac (ac r))) (fe (bw.mp O)) ?_;exists em (dC (ff m O)) (aG ((f.app n).app (lit (by exists 4))) (cV (dC (ff m O))) ?_);exact u.n () trivial gA (hQ (i3 (Fd a)))
   |true=>
    exists bx rfl (bx rfl ?_);exists bN (decide_eq_true c) ?_;exists au ti ?_;cases j:ax l C with
    |false=>
     refine bN rfl ?_;exists 1;exists aG (f.app n) (lit (by exists 4)) ?_;exists cu (ac (ac (ac h))) (fe (bw.mp a)) ?_;exists em (dC (ff b a)) (aG ((f.app n).app (lit (by exists 4))) (cV (dC (ff b a))) ?_);exact u.n () trivial gA (hQ (i3 (Fe a j)))
    |true=>
     exists bx rfl (bx rfl ?_);exists cu (ac (ac (ac h))) (fe (bw.mp a)) ?_;exists cu (ac (ac (ac r))) (fe (bw.mp j)) ?_;refine⟨fun t=>?_,fun t=>?_⟩
     ·exists 0;have v:=(f.app n).app (lit (s:=": int ") (by exists 4));exists aG (f.app n) (lit (by exists 4)) ?_;exists cu (ac (ac (ac h))) (fe (bw.mp a)) ?_;exists em (dC (ff b a)) (aG v (cV (dC (ff b a))) ?_);exists aG (v.app (cV (dC (ff b a)))) (lit (by exists 4)) ?_;exists cu (ac (ac (ac r))) (fe (bw.mp j)) ?_;exists em (dC (ff m j)) (aG ((v.app (cV (dC (ff b a)))).app (lit (by exists 4))) (cV (dC (ff m j))) ?_);exact u.n () trivial gA (hQ (i3 (Fh a j (of_decide_eq_true t))))
     ·exists 0;exact u.n () trivial gA (hQ (F4 (Fg a j (Qy.mp (of_decide_eq_false t)))))
  ·intro _ _;exists 0;exact x _ _ _ _ _ _ _ _ _ (Le.skip (Le.refl _))
theorem kC(Hi:∀m∈U,Ha m∈S)(Hb:∀m∈Jg,Ha m∈S)(a:aL q U)(b:aL v Jg)(k:Int):LV S k (ay (U.map GZ) (.i k)) (ay (Jg.map GZ) (.i k)) (bS k (af (al U) k) (af (al Jg) k)):=by
 have l:∀{q:Nat}{t:List aF},aL q t->ay (t.map GZ) (.i k)=none->k≠4:=fun p r o=>by
  subst o;refine ah (Na.mp p.ea) fun m u=>?_;rw[<-u.2,ep p.GO u.1]at r;exact nomatch r
 rcases gQ U a.GO k with⟨⟨z,C,o,D⟩,e,rfl,j,f⟩|⟨j,f⟩
 ·rcases gQ Jg b.GO z with⟨⟨s,x,y,A⟩,c,rfl,g,d⟩|⟨g,d⟩
  ·rw[j,f,g,d];by_cases h:s=4
   ·obtain⟨n,rfl⟩:=gy (a.all _ e) h;obtain⟨B,rfl⟩:=gy (b.all _ c) h;exact .arr h (Hi _ e) (Hb _ c) (a.all _ e).2.2.1 (b.all _ c).2.2.1
   ·obtain⟨n,rfl⟩:=fk (a.all _ e) h;obtain⟨B,rfl⟩:=fk (b.all _ c) h;exact .jN h (Hi _ e) (Hb _ c) (a.all _ e).2.2.1 (b.all _ c).2.2.1
  ·obtain⟨n,rfl⟩:=fk (a.all _ e) (l b d);rw[j,f,g,d];exact .gone (l b d) (Hi _ e) (a.all _ e).2.2.1
 ·rcases gQ Jg b.GO k with⟨⟨s,x,y,A⟩,c,rfl,g,d⟩|⟨g,d⟩
  ·obtain⟨n,rfl⟩:=fk (b.all _ c) (l a f);rw[j,f,g,d];exact .added (l a f) (Hb _ c) (b.all _ c).2.2.1
  ·rw[j,f,g,d];exact .none (l a f)
end
theorem ni(a:k∈dd):cG k:=by
 exact dC ((by exists 4:∀k∈dd,0<=k/\k<100) k a)
section
variable{S:aa}
theorem mj(P:Pg)(Hu:(d,GL.dict q (U.map GZ))∈S)(G6:(H,GL.dict v (Jg.map GZ))∈S)(Hi:∀h∈U,Ha h∈S)(Hb:∀h∈Jg,Ha h∈S)(k:aL 10 U)(l:aL 10 Jg)
(s:∀R,M (.ref R) ((R,.list ((a8 (al U) (al Jg)).map aJ.GP))::S)):GN 2 (.ref 591) [.ref d,.ref H] S M:=by
 refine aS Ih [some (.ref d),some (.ref H),none,none,none,none,none,none,none,none,none] P.T P.r7 ad2 rfl fun t j m u n=>?_;exists aH ?_;intro R;exists 0;intro p;refine dv m.GR dd GG.int (fun w w=>[some (.ref d),some (.ref H),some (.ref R),none,none,none,none,none,none,none,none]) (fun e w=>(p,.list (dd.map .int))::(R,.list ((e.flatMap fun a=>bS a (af (al U) a) (af (al Jg) a)).map aJ.GP))::S) (fun e w=>(e.flatMap fun a=>bS a (af (al U) a) (af (al Jg) a)).length<=12*e.length) () (aD.refl _) (Le.refl _) (Ni 0) (fun w w=>am) ?_ ?_
 ·intro e a z _ f g x r;refine aZ j (by exists 2) (by walk_at "nput") ?_;refine aH ?_;walk_at "m1";refine pB (b:=(aB a).GP) ?_ ?_
  ·exists 0;exact⟨fun c=>by exists 0;rw[aB,if_pos (of_decide_eq_true c)];exact HQ,fun c=>by exists 0;rw[aB,if_neg (of_decide_eq_false c)];exact HQ⟩
  walk_at "m1";walk_at "m1";walk_at "m1";walk_at "m1";refine pB (b:=.str (aU a)) ?_ ?_
  ·exists 0;exact⟨fun c=>by exists 0;refine em (ni (bd f)) (aG (lit (by exists 4)) (cV (ni (bd f))) ?_);rw[aU,if_pos (of_decide_eq_true c)];exact HQ,fun c=>by exists 0;rw[aU,if_neg (of_decide_eq_false c)];exact HQ⟩
  exists 0;exists gm (k:=.i a) P.GY (ac (ac Hu)) ?_;refine gm (k:=.i a) P.GY (ac (ac G6)) ?_;walk_at "m1";walk_at "m1";refine F5 P (kC Hi Hb k l a) j m (ni (bd f)) (aj (mf g (OI 12 (Nh (cc f)))) rfl) (fun w w w w w w w w y o=>r.n () (by rw[g1,Nm,Nm];have:=ua (kC Hi Hb k l a);exact No g this) F7 (g1▸o)) _ _ _
 ·intro _ g;exists 0;exact n.r (s R) (Le.skip (Le.refl _))
end
noncomputable def dW(c d:List aJ):List (List ak×List ak):=c.flatMap fun a=>d.flatMap fun b=>if a.1.take b.1.length=b.1\/b.1.take a.1.length=a.1 then[(a.1,b.1)]else[]
noncomputable def cA(a:aJ)(b:aJ):List (List ak×List ak):=if a.1.take b.1.length=b.1\/b.1.take a.1.length=a.1 then[(a.1,b.1)]else[]
theorem tI(a b:aJ):(cA a b).length<=1:=by unfold cA;split<;>simp
section
variable{S:aa}
theorem v4(a:List ak)(b:Nat):((a.map ak.GP).drop 0).take (min b (a.map ak.GP).length-0)=(a.take b).map ak.GP:=oz a b
theorem Ge(h:LV S k Ji Jk JJ):∀a∈JJ,a.1.length<50:=by
 have c:∀(d:Str)(a:aJ),a∈[([aB k],d)]->a.1.length<50:=fun d a f=>by rw[Nj.mp f];exact(by decide:1<50)
 intro a b;cases h with
 |none=>cases b
 |added=>exact c _ a b
 |gone=>exact c _ a b
 |arr=>
  split at b
  ·refine ah (NJ.mp b) fun g i=>?_;rw[tB i.2];exact(by decide:2<50)
  ·exact c _ a b
 |jN=>
  refine ah (NJ.mp b) fun g j=>?_;obtain⟨l,e⟩:=ng j.2;rw[e];exact(by decide:2<50)
theorem i4(Hi:∀b∈U,Ha b∈S)(Hb:∀b∈Jg,Ha b∈S)(d:aL q U)(e:aL v Jg):(a8 (al U) (al Jg)).length<=72/\∀b∈a8 (al U) (al Jg),b.1.length<50:=by
 have f:∀c:List Int,(c.flatMap fun a=>bS a (af (al U) a) (af (al Jg) a)).length<=12*c.length:=by
  intro c;induction c with
  |nil=>exact Ni _
  |cons a c h=>rw[NO,Nm,N4];have:=ua (kC Hi Hb d e a);exact mf (No this h) (Nd (OJ _ _))
 exact⟨f dd,fun b g=>by refine ah (NJ.mp g) fun a i=>?_;exact Ge (kC Hi Hb d e a) b i.2⟩
theorem FC{a b:aJ}(c:a.1.take b.1.length=b.1\/b.1.take a.1.length=a.1):cA a b=[(a.1,b.1)]:=if_pos c
theorem Fz{a b:aJ}(c:¬(a.1.take b.1.length=b.1\/b.1.take a.1.length=a.1)):cA a b=[]:=if_neg c
theorem tJ(b a:List aJ):(a.flatMap fun c=>b.flatMap (cA c)).length<=a.length*b.length:=by
 induction a with
 |nil=>exact NN _
 |cons c a d=>
  rw[NO,Nm,N4,Nat.succ_mul,OJ];exact No d (eu _ (tI c) b)
noncomputable abbrev tH:List Str:=["base","one","other","found","left","text","right","words"]
theorem F8:aD [Ji,Jk,Jt,Jx,none,none,none,none] [Ji,Jk,Jt,Jx,JC,JI,JP,J0]:=.same (.same (.same (.same (.drop (.drop (.drop (.drop .nil)))))))
theorem ue:aD [Ji,Jk,Jt,Jx,JC,JI,none,none] [Ji,Jk,Jt,Jx,JC,JI,JP,J0]:=.same (.same (.same (.same (.same (.same (.drop (.drop .nil)))))))
theorem zx(P:Pg){i:List aF}(Hu:(d,GL.dict q (U.map GZ))∈S)(I:(H,GL.dict v (Jg.map GZ))∈S)(GX:(IX,GL.dict Jd (i.map GZ))∈S)(n:∀a∈U,Ha a∈S)(B:∀a∈Jg,Ha a∈S)(C:∀a∈i,Ha a∈S)(l:aL 10 U)(Hn:aL 10 Jg)(A:aL 10 i)
(s:∀R,M (.ref R) ((R,.list ((dW (a8 (al U) (al Jg)) (a8 (al U) (al i))).map bO))::S)):GN 3 (.ref 603) [.ref d,.ref H,.ref IX] S M:=by
 refine aW (i4 n B l Hn) fun E=>?_;obtain⟨L,J⟩:=i4 n C l A;have KS:=Nl;refine aS tH [some (.ref d),some (.ref H),some (.ref IX),none,none,none,none,none] P.T P.r2 adh rfl fun T z h V G=>?_;exists aH ?_;intro F;exists 0;refine GN.lv (mj P (ac Hu) (ac I) (fun a e=>ac (n a e)) (fun a e=>ac (B a e)) l Hn fun o=>?_);have N:∀(r a:Addr×GL){M:GG->aa->Prop},(∀R,M (.ref R) ((R,.list ((a8 (al U) (al i)).map aJ.GP))::r::a::S))->GN 2 (.ref 591) [.ref d,.ref IX] (r::a::S) M:=fun r a{M}=>mj P (ac (ac Hu)) (ac (ac GX)) (fun a e=>ac (ac (n a e))) (fun a e=>ac (ac (C a e))) l A;generalize a8 (al U) (al Jg)=k at*;generalize a8 (al U) (al i)=f at*;refine dv h.GR k aJ.GP (fun w w=>[some (.ref d),some (.ref H),some (.ref IX),some (.ref F),none,none,none,none]) (fun g w=>(o,.list (k.map aJ.GP))::(F,.list ((g.flatMap fun b=>f.flatMap (cA b)).map bO))::S) (fun w w=>True) () (aD.refl _) (Le.refl _) trivial (fun w w=>am) ?_ ?_
 ·intro g b Z _ x _ t m;have X:(g.flatMap fun b=>f.flatMap (cA b)).length<=72*72:=mf (tJ f g) (Q5 (by have:=cc x;exact mf (Nq this) E.1) L);have O:b.1.length<50:=E.2 b (bd x);exists eg z h (by walk_at "nputs") ?_;refine GN.lv (N _ _ fun u=>?_);refine dv h.GR f aJ.GP (fun w w=>[some (.ref d),some (.ref H),some (.ref IX),some (.ref F),some (bT b.1),some (.str b.2),none,none]) (fun j w=>(u,.list (f.map aJ.GP))::(o,.list (k.map aJ.GP))::(F,.list (((g.flatMap fun b=>f.flatMap (cA b))++j.flatMap (cA b)).map bO))::S) (fun w w=>True) () (aD.refl _) (Le.take (fo o6)) trivial (fun w w=>am) ?_ ?_
  ·intro j a Y _ y _ t m;have Q:a.1.length<50:=J a (bd y);have KT:(((g.flatMap fun b=>f.flatMap (cA b))++j.flatMap (cA b)).map bO).length<=sizeLine:=by
    have:=eu _ (tI b) j;have:=cc y;rw[Nb,Nm];omega
   have D:(b.1.take a.1.length=a.1\/a.1.take b.1.length=b.1)->t .next (an tH [some (.ref d),some (.ref H),some (.ref IX),some (.ref F),some (bT b.1),some (.str b.2),some (bT a.1),some (.str a.2)]) ((u,.list (f.map aJ.GP))::(o,.list (k.map aJ.GP))::(F,.list (((g.flatMap fun b=>f.flatMap (cA b))++j.flatMap (cA b)).map bO++[bO (b.1,a.1)]))::S):=fun e=>m.n () trivial ue (hQ (lQ (FC e)));exists eg z h (by walk_at "nputs") ?_;refine c6 (lo:=none) (hi:=some (((a.1.map ak.GP).length:Nat):Int)) (h0 (jx _ _) (by rw[Nb];exact mf (aj (c:=16777216) (Nh O) rfl) (Nd Nl.symm)) ?_);refine au (show(((b.1.map ak.GP).drop 0).take (min (a.1.map ak.GP).length (b.1.map ak.GP).length-0))=(b.1.take a.1.length).map ak.GP by rw[Nb (as:=a.1)];exact v4 ..) ?_;exists 0;exists ee h (eo _) (eo _) (au (mM _ _) ?_);refine⟨fun e=>?_,fun e=>?_⟩
   ·exists jo rfl ?_;exact D (.inl (of_decide_eq_true e))
   ·exists 0;refine c6 (lo:=none) (hi:=some (((b.1.map ak.GP).length:Nat):Int)) (h0 (jx _ _) (by rw[Nb];exact mf (aj (c:=16777216) (Nh Q) rfl) (Nd Nl.symm)) ?_);refine au (show(((a.1.map ak.GP).drop 0).take (min (b.1.map ak.GP).length (a.1.map ak.GP).length-0))=(a.1.take b.1.length).map ak.GP by rw[Nb (as:=b.1)];exact v4 ..) ?_;exists 0;exists ee h (eo _) (eo _) (au (mM _ _) ?_);refine⟨fun p=>?_,fun p=>?_⟩
    ·exists jo rfl ?_;exact D (.inr (of_decide_eq_true p))
    ·exists 1;exact m.n () trivial ue (hQ (wN (Fz fun s=>s.elim (of_decide_eq_false e) (of_decide_eq_false p))))
  ·intro _ _;exists 0;exact m.n () trivial F8 (Le.skip (by rw[g1];exact Le.refl _))
 ·intro _ _;exists 0;exact G.r (s F) (Le.skip (Le.refl _))
end
noncomputable def b5(a:ai):Str:=yU (de a.1) a.2
noncomputable def iy(a:ai):Prop:=(∀b∈a.1,fA b)/\a.1.length<=10/\hl a.2
section
variable{S:aa}
noncomputable abbrev swN:List Str:=["rows","lines","path","way","old","new","place"]
noncomputable abbrev ib(a:ai):GG:=.str (b5 a)
theorem zu(c:∀a∈JB,fA a)(i:JB.length<=10)(b:(d,GL.list (JB.map fun a=>.str (dZ a)))∈S)(h:M (.str (de JB)) S):GN q (.builtin "str.join") [.str " ",.ref d] S M:=by
 refine p6 (ss:=JB.map dZ) (by rw[Nf];exact b) ?_ h;have b:=ox (l:=JB.map dZ) (m:=4000) (fun a f=>by obtain⟨g,e,rfl⟩:=Na.mp f;exact vZ (c g e));rw[ot];rw[Nb]at b⊢;omega
theorem h9(a:∀c∈JB,fA c)(b:JB.length<=10):Sm 40010 (de JB):=mf (u6 a) (mf (Nat.mul_le_mul_right _ b) (by decide))
theorem oy{R:Addr}{a:ai}(b:h=b5 a):Le ((R,.list ((Js++[a]).map ib))::S) ((R,.list (Js.map ib++[.str h]))::S):=by rw[Ng,b];exact Le.refl _
theorem zT(P:Pg)(t:(d,GL.list (Js.map ai.GP))∈S)(v:Js.length<3000)(r:∀b∈Js,iy b)(l:∀c,M (.ref c) ((c,.list (Js.map ib))::S)):GN 2 (.ref 530) [.ref d] S M:=by
 refine aS swN [some (.ref d),none,none,none,none,none,none] P.T P.sl aef rfl fun z e f A o=>?_;exists aH ?_;intro R;exists 0;refine dv f.GR Js ai.GP (fun w w=>[some (.ref d),some (.ref R),none,none,none,none,none]) (fun h w=>(R,.list (h.map ib))::S) (fun w w=>True) () (aD.refl _) (Le.refl _) trivial (fun w w=>ac t) ?_ ?_
 ·intro h b E _ k _ C g;have J:(h.map ib).length<=sizeLine:=by have x:=cc k;have y:=Nl;rw[Nb];exact mf (aj (mf (Nq x) (Nh v)) rfl) (Nd y.symm)
  refine df (r b (bd k)) fun a=>?_;exists eg e f (by walk_at "nputs") ?_;exists cy ["step"] e (by exists 4) (by exists 4) ?_;refine d8 b.1 ak.GP (fun j=>.str (dZ j)) [none] (hL f.GR) (bC (mf a.2 (by decide))) trivial (fun l q=>q) (bm.start (by walk_at "ncaps") e.GO) (fun j I c B u=>?_) fun c=>?_
  ·refine b2 ["step"] ["step"] ["show_step"] [] e f (by exists 4) (by exists 4) fun p G=>?_;exists aZ p (by exists 2) (by walk_at "nput") ?_;exact GN.lv (zS P (a.1 j u) (cp rfl (by exists 3) (Le.refl _)))
  exists 0;exists zu a.1 a.2 am ?_;obtain⟨D,n⟩:=b;cases n with
  |gone m=>
   exists 1;exists aG (h9 a.1 a.2) (lit (by exists 4)) ?_;exists GN.lv (jH P a.3 (aG ((h9 a.1 a.2).app (lit (by exists 4))) (fa a.3) ?_));exact g.n () trivial (by exists 3) (Le.skip (oy rfl))
  |added m=>
   exists 1;exists aG (h9 a.1 a.2) (lit (by exists 4)) ?_;exists GN.lv (jH P a.3 (aG ((h9 a.1 a.2).app (lit (by exists 4))) (fa a.3) ?_));exact g.n () trivial (by exists 3) (Le.skip (oy rfl))
  |turned m H=>
   have i:=(h9 a.1 a.2).app (lit (s:=": ") (by exists 4));exists 1;exists aG (h9 a.1 a.2) (lit (by exists 4)) ?_;exists GN.lv (jH P a.3.1 (aG i (fa a.3.1) ?_));exists aG (i.app (fa a.3.1)) (lit (by exists 4)) ?_;exists GN.lv (jH P a.3.2 (aG ((i.app (fa a.3.1)).app (lit (by exists 4))) (fa a.3.2) ?_));exact g.n () trivial (by exists 3) (Le.skip (oy rfl))
 ·intro _ _;exists 0;exact o.r (l R) (Le.refl _)
end
theorem sC(a b:List Str):GG.dt (a.map .str) (b.map .str)=decide (a=b):=sB GG.str.inj a b
theorem w6(b:List Str)(a:Str):((b.map GG.str).any fun c=>GG.bf c (.str a))=decide (a∈b):=lS GG.str.inj b a
noncomputable def dk(a:Str):Bool:=decide (Txt.slice a none (some 6)≠"obj 4 ")
noncomputable def hc(b a:List Str):Bool:=if("":Str)∈a then decide (b.filter dk=a.filter fun c=>decide (c≠("":Str)))&&decide (a.length<=b.length)else decide (b=a)
theorem iN(a:List Str):∀b∈a.map GG.str,aQ 20 b:=hu (f:=GG.str) (d:=20) (fun y=>trivial) a
theorem ajh(a:("":Str)∉Jb):hc l Jb=decide (l=Jb):=if_neg a
theorem vU(a:("":Str)∈Jb)(b:decide (l.filter dk=Jb.filter fun c=>decide (c≠("":Str)))=Jh):hc l Jb=(Jh&&decide (Jb.length<=l.length)):=by unfold hc;rw[if_pos a,b]
section
variable{S:aa}
noncomputable abbrev srN:List Str:=["base","draft","due","lines"]
theorem zA(P:Pg)(Hu:(d,GL.dict q (U.map GZ))∈S)(G6:(H,GL.dict v (Jg.map GZ))∈S)(Hi:∀a∈U,Ha a∈S)(Hb:∀a∈Jg,Ha a∈S)(t:aL 10 U)(u:aL 10 Jg)(KU:af (al U) 0=some (.d b))(KV:af (al Jg) 0=some (.d L))
(KY:∀KS O Q,af (aM (al U)) KS=some O->af (aM (al Jg)) KS=some Q->O.same Q)(KZ:∀c,cw (aM (al U)) (aM (al Jg)) b L c->c.length<3000/\∀a∈c,iy a/\(b5 a).length<=100000)
(f:∀c,cw (aM (al U)) (aM (al Jg)) b L c->M (.bool (hc (c.map b5) ((a8 (al U) (al Jg)).map (fun x=>x.2)))) S):GN 7 (.ref 596) [.ref d,.ref H] S M:=by
 have K1:=(i4 Hi Hb t u).1;refine aS srN [some (.ref d),some (.ref H),none,none] P.T P.r9 ad4 rfl fun K6 h i K7 s=>?_;refine aH ?_;exists g8 ["place","text"] h (by exists 2) (by exists 4) (by exists 4) (by exists 4) (by exists 4) ?_;refine GN.lv (mj P Hu G6 Hi Hb t u fun R=>?_);refine d8 (a8 (al U) (al Jg)) aJ.GP (fun a=>.str a.2) [none,none] (dj i.GR) (bC (by omega)) (.inl am) (fun f e=>.inl (ac am)) (bm.start (by walk_at "ncaps") h.GO) (fun a KT G J A=>?_) fun m=>?_
 ·refine b2 ["place","text"] ["place","text"] [] [] h i (by exists 4) (by exists 4) fun n C=>?_;exists eg n C (by walk_at "nputs") ?_;exact cp rfl (by exists 3) (Le.refl _)
 have KW:((a8 (al U) (al Jg)).map (fun x=>x.2)).length<=72:=by rw[Nb];exact K1
 refine dY (show((a8 (al U) (al Jg)).map (fun x=>x.2)).map GG.str=(a8 (al U) (al Jg)).map fun a=>GG.str a.2 from Nf ..) ?_;have HE:Le S ((m,GL.list (((a8 (al U) (al Jg)).map (fun x=>x.2)).map GG.str))::(R,GL.list ((a8 (al U) (al Jg)).map aJ.GP))::S):=Le.skip (Le.skip (Le.refl _));have y:=(am:(m,GL.list (((a8 (al U) (al Jg)).map (fun x=>x.2)).map GG.str))∈(m,GL.list (((a8 (al U) (al Jg)).map (fun x=>x.2)).map GG.str))::(R,GL.list ((a8 (al U) (al Jg)).map aJ.GP))::S)
 generalize (m,GL.list (((a8 (al U) (al Jg)).map (fun x=>x.2)).map GG.str))::(R,GL.list ((a8 (al U) (al Jg)).map aJ.GP))::S=K8 at HE y⊢;generalize (a8 (al U) (al Jg)).map (fun x=>x.2)=g at f KW y;exists 0;exists GN.lv (hq P (HE.mem Hu) (fun a j=>HE.mem (Hi a j)) t KU fun Lj La Ll Ln Lc Ld Lh K9 K2 T r=>?_);exists GN.lv (hq P (r.mem (HE.mem G6)) (fun a j=>r.mem (HE.mem (Hb a j))) u KV fun Lk Lb Lm Lo Lf Lg Li N K3 V B=>?_);refine GN.lv (gV P (K2.mono fun w e=>B.mem e) K3 (by rw[T,V];exact KY) fun I c o=>?_);replace o:=V▸T▸o;have f:=f c o;obtain⟨Y,Z⟩:=KZ c o;exists 0;refine GN.lv (zT P am Y (fun a j=>(Z a j).1) fun SL=>?_);refine dY (show(c.map b5).map GG.str=c.map ib from Nf ..) ?_;have X:∀l∈c.map b5,l.length<=100000:=fun l K0=>by obtain⟨a,j,rfl⟩:=Na.mp K0;exact(Z a j).2
 have KX:(c.map b5).length<3000:=by rw[Nb];exact Y
 generalize c.map b5=k at f X KX⊢;have z:Le S ((SL,GL.list (k.map GG.str))::(I,GL.list (c.map ai.GP))::N):=Le.skip (Le.skip ((HE.trans r).trans B));have p:(m,GL.list (g.map GG.str))∈(SL,GL.list (k.map GG.str))::(I,GL.list (c.map ai.GP))::N:=ac (ac (B.mem (r.mem y)));exists 0;exists nY i (.inl p) (iN g) trivial (au (w6 g "") ?_);refine⟨fun e=>?_,fun e=>?_⟩
 ·have e:("":Str)∉g:=by simpa using e
  exists 0;exists kR i (.inl am) (.inl p) (iN k) (iN g) (au (sC k g) ?_);exact s.r (ajh e▸f) z
 ·have e:("":Str)∈g:=by simpa using e
  exists 0
  with_reducible refine cy ["text"] h (by exists 4) (by exists 4) ?_
  exists 0;refine fb k GG.str dk GG.str [none] (dj i.GR) (by omega) (.inl am) (fun f e=>.inl (ac am)) (bm.start (by walk_at "ncaps") h.GO) (fun l KT G J A=>?_) fun K4=>?_
  ·refine b2 ["text"] ["text"] [] [] h i (by exists 4) (by exists 4) fun n C=>?_;refine aZ n (by exists 2) (by walk_at "nput") ?_;exists fW ?_;refine c6 (lo:=none) (hi:=some 6) (afj (by have:=X l A;omega) ?_);exists 0;exists⟨rfl,fun w=>?_,fun w=>⟨fun E D=>aD.val (by exists 3) _ E D,Le.refl _⟩⟩;exact cp rfl (by exists 3) (Le.refl _)
  exists 0
  with_reducible refine cy ["text"] h (by exists 4) (by exists 4) ?_
  exists 0;refine fb g GG.str (fun l=>decide (l≠("":Str))) GG.str [none] (dj i.GR) (by omega) (.inl (ac p)) (fun f e=>.inl (ac (ac p))) (bm.start (by walk_at "ncaps") h.GO) (fun l KT G J A=>?_) fun K5=>?_
  ·refine b2 ["text"] ["text"] [] [] h i (by exists 4) (by exists 4) fun n C=>?_;refine aZ n (by exists 2) (by walk_at "nput") ?_;exists fW ?_;exists⟨rfl,fun w=>?_,fun w=>⟨fun E D=>aD.val (by exists 3) _ E D,Le.refl _⟩⟩;exact cp rfl (by exists 3) (Le.refl _)
  exists kR i (.inl (ac am)) (.inl am) (iN _) (iN _) (au (sC _ _) ?_);refine⟨fun x=>?_,fun x=>?_⟩
  ·exists 0;rw[vU e x,Bool.true_and]at f;refine s.r ?_ (Le.skip (Le.skip z));exact(PN.mpr (by simp):decide ((g.length:Int)<=(k.length:Int))=decide (g.length<=k.length))▸f
  ·exists 0;rw[vU e x,Qf]at f;exact s.r f (Le.skip (Le.skip z))
end
theorem tp(a:Str):Txt.join " " [a]=a:=by show PySem.Builtin.Str.glued " " [a]=_;rw[Qw];rfl
theorem ko(a b:Str):Txt.join " " [a,b]=a++(" "++b):=by show PySem.Builtin.Str.glued " " [a,b]=_;rw[Qw];show a++" "++b=_;rw[NY]
theorem ov(b:Int):dZ (aB b)=aU b:=by
 delta aB aU;by_cases a:0<b
 ·rw[if_pos a,if_pos a];show Txt.join " " [("obj":Str),a0 b]=_;rw[ko,<-NY];rw[(by exists 4:(Str.ofString "obj")++(Str.ofString " ")=Str.ofString "obj ")]
 ·rw[if_neg a,if_neg a];show Txt.join " " [("trailer":Str)]=_;exact tp _
theorem u4(a:Int):de [aB a]=aU a:=by show Txt.join " " [dZ (aB a)]=_;rw[tp,ov]
theorem n5(b:Int)(a:Str):de [aB b,.key a]=aU b++(" /"++a):=by
 show Txt.join " " [dZ (aB b),dZ (.key a)]=_;rw[ko,ov];show aU b++((Str.ofString " ")++((Str.ofString "/")++a))=aU b++((Str.ofString " /")++a);rw[(by exists 4:(Str.ofString " /")=(Str.ofString " ")++(Str.ofString "/")),NY]
theorem u5(b:Int)(a:Int):de [aB b,.idx a]=aU b++(" ["++a0 a++"]"):=by
 show Txt.join " " [dZ (aB b),dZ (.idx a)]=_;rw[ko,ov];show aU b++((Str.ofString " ")++((Str.ofString "[")++a0 a++(Str.ofString "]")))=aU b++((Str.ofString " [")++a0 a++(Str.ofString "]"));rw[(by exists 4:(Str.ofString " [")=(Str.ofString " ")++(Str.ofString "["))];simp only[NY]
theorem ig(a:Int):b9 (ap a)="int"++(" "++a0 a):=by rw[l2];show Txt.join " " [("int":Str),a0 a]=_;exact ko _ _
theorem ER(a b:Str):a++": added, "++("int"++(" "++b))=a++": added, int "++b:=by
 rw[(by exists 4:(Str.ofString ": added, int ")=(Str.ofString ": added, ")++((Str.ofString "int")++(Str.ofString " ")))];simp only[NY]
theorem ES(a b:Str):a++": gone, "++("int"++(" "++b))=a++": gone, int "++b:=by
 rw[(by exists 4:(Str.ofString ": gone, int ")=(Str.ofString ": gone, ")++((Str.ofString "int")++(Str.ofString " ")))];simp only[NY]
theorem ts(a b c:Str):a++": "++("int"++(" "++b))++" -> "++("int"++(" "++c))=a++": int "++b++" -> int "++c:=by
 rw[(by exists 4:(Str.ofString ": int ")=(Str.ofString ": ")++((Str.ofString "int")++(Str.ofString " "))),(by exists 4:(Str.ofString " -> int ")=(Str.ofString " -> ")++((Str.ofString "int")++(Str.ofString " ")))];simp only[NY]
theorem acf(a:Str)(b:List (Str×Int)):a++": added, "++b9 (bz b)=a++": added, dict of "++a0 b.length:=by
 rw[jB];rw[(by exists 4:(Str.ofString ": added, dict of ")=(Str.ofString ": added, ")++((Str.ofString "dict")++(Str.ofString " of ")))];simp only[NY]
theorem acg(a:Str)(b:List (Str×Int)):a++": gone, "++b9 (bz b)=a++": gone, dict of "++a0 b.length:=by
 rw[jB];rw[(by exists 4:(Str.ofString ": gone, dict of ")=(Str.ofString ": gone, ")++((Str.ofString "dict")++(Str.ofString " of ")))];simp only[NY]
theorem kz[BEq D][LawfulBEq D](e:D->I1)(b:D)(a:List D):(a.map fun f=>(f,e f)).lookup b=if b∈a then some (e b)else none:=by
 induction a with
 |nil=>rfl
 |cons j a g=>
  rw[Nt,NF,g];cases d:b==j with
  |true=>rw[eq_of_beq d,if_pos (Nz ..)]
  |false=>
   by_cases c:b∈a
   ·rw[if_pos c,if_pos (PT _ c)]
   ·rw[if_neg c,if_neg fun h=>(Nk.mp h).elim (fun i=>by rw[i,beq_self_eq_true]at d;exact nomatch d) c]
theorem dx(a:List (Str×Int))(b:Str):(as a).lookup b=a.lookup b:=by
 unfold as;rw[kz (av a)];by_cases c:b∈cD (a.map (fun x=>x.1))
 ·rw[if_pos c];have:=bw.mpr ((cO _).mem_iff.mp c);rw[eQ]at this;obtain⟨g,e⟩:=Oa.mp this;unfold av;rw[e];rfl
 ·rw[if_neg c];have:ax a b≠true:=fun f=>c ((cO _).mem_iff.mpr (bw.mp f));rw[eQ]at this;cases d:a.lookup b with
  |none=>rfl
  |some g=>rw[d]at this;exact(this rfl).elim
theorem s9(b:List (Str×Int))(a:Str):ax (as b) a=ax b a:=by rw[eQ,eQ,dx]
theorem mF(b:List (Str×Int))(a:Str):av (as b) a=av b a:=by unfold av;rw[dx]
theorem r0(a:(b.map (fun x=>x.1)).Nodup)(c:(L.map (fun x=>x.1)).Nodup):br (as b) (as L)=br b L:=by
 refine oq (jV (cz a) (cz c)) (jV a c) fun d=>?_;rw[kF,kF,j0,j0,(cO _).mem_iff,(cO _).mem_iff]
theorem yW(b c:List (Str×Int))(a:Str):ds (as b) (as c) a=ds b c a:=by unfold ds;rw[s9,s9,mF,mF]
theorem mC(c:(b.map (fun x=>x.1)).Nodup)(d:(L.map (fun x=>x.1)).Nodup):c9 (as b) (as L)=c9 b L:=by
 unfold c9;rw[r0 c d];congr 1;funext a;exact yW b L a
theorem FJ(a:Int)(i:ax b h=true\/ax L h=true):(ds b L h).map (fun f=>b5 ([aB a,.key f.1],f.2))=(b7 a b L h).map (fun x=>x.2):=by
 unfold ds b7;cases g:ax L h with
 |false=>
  have e:ax b h=true:=by rcases i with d|d;exact d;rw[g]at d;exact nomatch d
  rw[e];show[de [aB a,.key h]++": gone, "++b9 (ap (av b h))]=[aU a++(" /"++h)++": gone, int "++a0 (av b h)];rw[n5,ig,ES]
 |true=>
  cases e:ax b h with
  |false=>
   show[de [aB a,.key h]++": added, "++b9 (ap (av L h))]=[aU a++(" /"++h)++": added, int "++a0 (av L h)];rw[n5,ig,ER]
  |true=>
   by_cases c:av b h=av L h
   ·rw[if_neg Bool.noConfusion,if_neg Bool.noConfusion,if_pos c,if_neg Bool.noConfusion,if_neg Bool.noConfusion,if_pos c];rfl
   ·rw[if_neg Bool.noConfusion,if_neg Bool.noConfusion,if_neg c,if_neg Bool.noConfusion,if_neg Bool.noConfusion,if_neg c];show[de [aB a,.key h]++": "++b9 (ap (av b h))++" -> "++b9 (ap (av L h))]=[aU a++(" /"++h)++": int "++a0 (av b h)++" -> int "++a0 (av L h)];rw[n5,ig,ig,ts]
theorem kD{f:Type}(b:D->List I1)(c:I1->f)(d:D->List f){a:List D}(g:∀e∈a,(b e).map c=d e):(a.flatMap b).map c=a.flatMap d:=by
 rw[N9];exact et g
theorem tL(a:Int)(g:(b.map (fun x=>x.1)).Nodup)(h:(L.map (fun x=>x.1)).Nodup):(c9 (as b) (as L)).map (fun e=>b5 ([aB a,.key e.1],e.2))=((br b L).flatMap (b7 a b L)).map (fun x=>x.2):=by
 rw[mC g h];unfold c9;rw[kD (ds b L) _ (fun d=>(b7 a b L d).map (fun x=>x.2)),N9];intro d f;refine FJ a ?_;rcases eU.mp f with c|c
 ·exact .inl (bw.mpr c)
 ·exact .inr (bw.mpr c)
theorem lU(c:j.length=O.length)(d:cF j O I0):cR j O I0=(List.range j.length).flatMap fun a=>if j.getD a 0=O.getD a 0 then[]else[(a,a9.turned (ap (j.getD a 0)) (ap (O.getD a 0)))]:=by
 rcases d with⟨_,rfl⟩|⟨f,_⟩
 ·unfold cR;have e:(List.range O.length).flatMap (d5 O ((List.range j.length).map fun a=>(a,a)))=[]:=by
   rw[Pj];intro a b;unfold d5;rw[if_pos];rw[N8];exact⟨(a,a),Na.mpr ⟨a,by rw[c];exact b,rfl⟩,by simp⟩
  rw[e,NU];apply et;intro a b;unfold dF;rw[t5 (NX.mp b)]
 ·exact(f c).elim
theorem FI(b:Int)(e:j.length=O.length)(f:cF j O I0):(cR j O I0).map (fun d=>b5 ([aB b,.idx (d.1:Nat)],d.2))=((List.range j.length).flatMap (bH b j O)).map (fun x=>x.2):=by
 rw[lU e f,kD _ _ (fun a=>(bH b j O a).map (fun x=>x.2)),N9];intro a g;unfold bH;by_cases c:j.getD a 0=O.getD a 0
 ·rw[if_pos c,if_pos c];rfl
 ·rw[if_neg c,if_neg c];show[de [aB b,.idx (a:Nat)]++": "++b9 (ap (j.getD a 0))++" -> "++b9 (ap (O.getD a 0))]=[aU b++(" ["++a0 a++"]")++": int "++a0 (j.getD a 0)++" -> int "++a0 (O.getD a 0)];rw[u5,ig,ig,ts]
section
open PySem.Builtin.Str
theorem Eh(a:Nat):strSliceIndices none (some 6) 1 a=strSliceIndices (some ((0:Nat):Int)) (some ((6:Nat):Int)) 1 a:=by
 delta strSliceIndices sliceRange;have b:max (0:Int) (min 0 (a:Int))=0:=Ru (Int.min_le_left _ _);simp[b]
theorem vR(b:6<=h.length):(Txt.slice h none (some 6)).cps.toList=h.cps.toList.take 6:=by
 unfold Txt.slice;rw[Eh]
 split
 ·rename_i a
  rw[StrLaws.strSliceIndices_plain (NN _) b]at a;simp at a;have:h.cps.toList.length=6:=by rw[NI];show h.length=6;exact OY (Nd a.symm) (Nd a)
  rw[OP (Nd this)]
 ·show(List.filterMap _ _).toArray.toList=_;rw[StrLaws.sliced_plain h (NN _) b];rfl
theorem ie(a b:Str):(a++b).cps.toList=a.cps.toList++b.cps.toList:=by rw[Str.cps_append,QI]
theorem Ed(a:Int)(c:a=1\/a=2\/a=3\/a=4\/a=5):∃b:Nat,(aU a).cps.toList=[111,98,106,32,b]/\(b=52↔a=4):=by
 rcases c with rfl|rfl|rfl|rfl|rfl
 ·exact⟨49,by decide+kernel,by decide⟩
 ·exact⟨50,by decide+kernel,by decide⟩
 ·exact⟨51,by decide+kernel,by decide⟩
 ·exact⟨52,by decide+kernel,by decide⟩
 ·exact⟨53,by decide+kernel,by decide⟩
theorem Ef:(aU 0).cps.toList=[116,114,97,105,108,101,114]:=by exists 4
theorem sX:(Str.ofString "obj 4 ").cps.toList=[111,98,106,32,52,32]:=by exists 4
theorem nk(a:Str):a.cps.toList.length=a.length:=by rw[NI];rfl
theorem nK(m:k=0\/k=1\/k=2\/k=3\/k=5)(o:h.cps.toList≠[]):dk (aU k++h)=true/\aU k++h≠("":Str):=by
 have p:∃(a:Nat×Nat×Nat×Nat)(e:Nat×Nat),(aU k++h).cps.toList.take 6=[a.1,a.2.1,a.2.2.1,a.2.2.2,e.1,e.2]/\(e.1≠52)/\6<=(aU k++h).length:=by
  obtain⟨d,g,l⟩:∃d g,h.cps.toList=d::g:=List.exists_cons_of_ne_nil o;rcases m with rfl|m
  ·have b:(aU 0++h).cps.toList=[116,114,97,105,108,101,114]++(d::g):=by rw[ie,Ef,l]
   refine⟨(116,114,97,105),(108,101),by rw[b];rfl,by decide,?_⟩;rw[<-nk,b];simp
  ·refine ah (Ed k (by omega)) fun a n=>?_;have b:(aU k++h).cps.toList=[111,98,106,32,a]++(d::g):=by rw[ie,n.1,l]
   refine⟨(111,98,106,32),(a,d),by rw[b];rfl,fun c=>?_,?_⟩
   ·have:=n.2.mp c;omega
   ·rw[<-nk,b];simp
 refine bB p fun a e j=>?_;have i:=j.3;constructor
 ·unfold dk;rw[decide_eq_true_eq];intro c;have f:=vR i;rw[c,j.1]at f;rw[sX]at f;simp only[SI]at f;exact j.2 f.2.2.2.2.1.symm
 ·intro c;rw[c]at i;have:(Str.ofString "").length=0:=by exists 4
  exact Pe (Nd this) (mf (NQ rfl) i)
theorem acb:dk (aU 4++(""++(" "++h)))=false:=by
 have a:(aU 4++((Str.ofString "")++((Str.ofString " ")++h))).cps.toList=[111,98,106,32,52,32]++h.cps.toList:=by
  rw[ie,ie,ie];rw[(by exists 4:(aU 4).cps.toList=[111,98,106,32,52]),(by exists 4:(Str.ofString "").cps.toList=[]),(by exists 4:(Str.ofString " ").cps.toList=[32])];rfl
 have b:6<=(aU 4++((Str.ofString "")++((Str.ofString " ")++h))).length:=by rw[<-nk,a];simp
 unfold dk;rw[decide_eq_false_iff_not,Qy];apply Str.ext';apply Array.ext';rewrite[vR b];rw[a,sX];rfl
theorem nL(a:Int)(c:Str):dk (de [aB 4,.idx a]++c)=false:=by
 rw[u5];have d:aU 4++((Str.ofString " [")++a0 a++(Str.ofString "]"))++c=aU 4++((Str.ofString "")++((Str.ofString " ")++((Str.ofString "[")++a0 a++(Str.ofString "]")++c))):=by
  have e:∀b:Str,(Str.ofString "")++b=b:=fun b=>by
   have:(Str.ofString "")=Str.empty:=by exists 4
   rw[this,Str.empty_append]
  rw[e,(by exists 4:(Str.ofString " [")=(Str.ofString " ")++(Str.ofString "["))];simp only[NY]
 rw[d];exact acb
theorem ahg(b:Nat)(c:a9):dk (b5 ([aB 4,.idx b],c))=false:=by
 cases c with
 |added a=>
  show dk (de [aB 4,.idx b]++(Str.ofString ": added, ")++b9 a)=false;rw[NY];exact nL ..
 |gone a=>
  show dk (de [aB 4,.idx b]++(Str.ofString ": gone, ")++b9 a)=false;rw[NY];exact nL ..
 |turned d a=>
  show dk (de [aB 4,.idx b]++(Str.ofString ": ")++b9 d++(Str.ofString " -> ")++b9 a)=false;simp only[NY];exact nL ..
theorem sp(i:k=0\/k=1\/k=2\/k=3\/k=5)(q:∀b,IU=some b->bR b=false)(r:∀b,IW=some b->bR b=false):∀f∈bS k IU IW,dk f.2=true/\f.2≠("":Str):=by
 have g:∀(h:Str)(e:Str),h.cps.toList≠[]->(h++e).cps.toList≠[]:=fun h e p m=>by rw[ie,Sh]at m;exact p m.1
 intro f c;cases IU with
 |none=>cases IW with
  |none=>cases c
  |some b=>
   have c:f∈[([aB k],aU k++(Str.ofString ": added, dict of ")++a0 (j2 b))]:=c;rw[Nj]at c;subst c;dsimp only;rw[NY];exact nK i (g _ _ (by exists 4))
 |some b=>cases IW with
  |none=>
   have c:f∈[([aB k],aU k++(Str.ofString ": gone, dict of ")++a0 (j2 b))]:=by cases b<;>exact c
   rw[Nj]at c;subst c;dsimp only;rw[NY];exact nK i (g _ _ (by exists 4))
  |some o=>cases b with
   |a u=>cases q _ rfl
   |d l=>cases o with
    |a v=>cases r _ rfl
    |d n=>
     have c:f∈(br l n).flatMap (b7 k l n):=c;refine ah (NJ.mp c) fun j t=>?_;have s:∀e:Str,dk (aU k++((Str.ofString " /")++j)++e)=true/\aU k++((Str.ofString " /")++j)++e≠("":Str):=fun e=>by
      rw[NY];exact nK i (g _ _ (g _ _ (by exists 4)))
     obtain⟨e,b⟩:=ng t.2;rw[b];exact s e
end
theorem c1(e:List (Int×ag))(a:Int):af (aM e) a=if 0<a then af e a else none:=by
 delta aM af;induction e with
 |nil=>simp
 |cons d e f=>
  rw[Of,NF];by_cases c:0<d.1
  ·rw[if_pos (by simpa using c),NF,f];by_cases b:a=d.1
   ·subst b;simp[c]
   ·rw[(by simpa using b:(a==d.1)=false)]
  ·rw[if_neg (by simpa using c),f];by_cases b:a=d.1
   ·subst b;rw[if_neg c,if_neg c]
   ·rw[(by simpa using b:(a==d.1)=false)]
theorem sq(a:List (Int×ag))(b:Int):b∈a.map (fun x=>x.1)↔(af a b).isSome=true:=(dT a b).symm
noncomputable def cM:List Int:=[1,2,3,4,5]
noncomputable def cK(c b:List (Int×ag))(a:Int):Bool:=(af c a).isSome||(af b a).isSome
theorem j7:∀a∈cM,0<a:=by exists 4
theorem nN(G8:aO IV)(e:aO Jf):dI (aM IV) (aM Jf)=cM.filter (cK IV Jf):=by
 have g:∀{IV:List (Int×ag)},aO IV->((aM IV).map (fun x=>x.1)).Nodup:=fun j=>(Oq.map _).nodup j.GO;have k:∀b,b∈cM.filter (cK IV Jf)↔b∈dI (aM IV) (aM Jf):=by
  intro b;rw[ui,sq,sq,c1,c1,NL];constructor
  ·rintro⟨a,f⟩;rw[if_pos (j7 b a),if_pos (j7 b a)];unfold cK at f;simpa using f
  ·intro a;by_cases c:0<b
   ·rw[if_pos c,if_pos c]at a;refine⟨?_,by unfold cK;simpa using a⟩;have:b∈([0,1,2,3,4,5]:List Int):=by
     rcases a with a|a
     ·obtain⟨i,d⟩:=Oa.mp a;exact G8.nums _ (bI d)
     ·obtain⟨i,d⟩:=Oa.mp a;exact e.nums _ (bI d)
    exact(by exists 4:∀b∈([0,1,2,3,4,5]:List Int),0<b->b∈cM) b this c
   ·rw[if_neg c,if_neg c]at a;simp at a
 have h:=(Qx ((Oq).nodup (by decide)) (uA (g G8) (g e))).mpr k;unfold dI at h⊢;rw[m8 (h.trans (eR _)) (List.Pairwise.sublist Oq (by decide))]
theorem BI(d:D->Bool)(c:D->List I1){a:List D}(e:∀b∈a,d b=false->c b=[]):a.flatMap c=(a.filter d).flatMap c:=by
 induction a with
 |nil=>rfl
 |cons b a h=>
  rw[NO,Of,h fun i g=>e i (.tail _ g)];cases f:d b with
  |true=>exact NO.symm
  |false=>rw[e b (.head _) f];rfl
theorem ub:a8 IV Jf=(cM.filter (cK IV Jf)).flatMap (fun a=>bS a (af IV a) (af Jf a))++bS 0 (af IV 0) (af Jf 0):=by
 have c:a8 IV Jf=cM.flatMap (fun a=>bS a (af IV a) (af Jf a))++bS 0 (af IV 0) (af Jf 0):=by
  delta a8 dd cM;simp only[NO,R6,NU,NR]
 rw[c,BI (cK IV Jf)];intro a _ b;unfold cK at b;replace b:=Sn.mp b;cases d:af IV a with
 |some _=>rw[d]at b;exact nomatch b.1
 |none=>cases e:af Jf a with
  |some _=>rw[e]at b;exact nomatch b.2
  |none=>rfl
theorem bZ(a:aO IV)(b:af IV k=some Jl):aI Jl/\bR Jl=decide (k=4):=⟨a.good _ (bI b),a.kind _ (bI b)⟩
theorem k9(a:0<k):aB k=.obj k:=if_pos a
theorem FK(G8:aO IV)(i:aO Jf)(p:0<k)(m:k≠4)(c:gb (af IV k) (af Jf k) Js):Js.map (fun s=>b5 (cs (.obj k) s))=(bS k (af IV k) (af Jf k)).map (fun x=>x.2):=by
 have h:∀{IV:List (Int×ag)},aO IV->∀f,af IV k=some f->∃b,f=.d b/\(b.map (fun x=>x.1)).Nodup:=fun l f o=>by
  obtain⟨g,e⟩:=bZ l o;rw[decide_eq_false m]at e;cases f with
  |a v=>cases e
  |d b=>exact⟨b,rfl,g.1⟩
 rw[<-k9 p];cases g:af IV k with
 |none=>
  cases e:af Jf k with
  |none=>rw[g,e]at c;exact c.elim
  |some f=>
   obtain⟨b,rfl,_⟩:=h i f e;replace c:=e▸g▸c;rw[c];show[de [aB k]++(Str.ofString ": added, ")++b9 (bz (as b))]=[aU k++(Str.ofString ": added, dict of ")++a0 (b.length:Nat)];rewrite[u4,show aU k++(Str.ofString ": added, ")++b9 (bz (as b))=_ from acf _ _,gq];rfl
 |some f=>
  obtain⟨b,rfl,q⟩:=h G8 f g;cases e:af Jf k with
  |none=>
   replace c:=e▸g▸c;rw[c];show[de [aB k]++(Str.ofString ": gone, ")++b9 (bz (as b))]=[aU k++(Str.ofString ": gone, dict of ")++a0 (b.length:Nat)];rewrite[u4,show aU k++(Str.ofString ": gone, ")++b9 (bz (as b))=_ from acg _ _,gq];rfl
  |some j=>
   obtain⟨u,rfl,r⟩:=h i j e;replace c:=e▸g▸c;obtain⟨t,n,rfl⟩:=c;rw[n,Nf,Nf];exact tL k q r
theorem lT(t:j.length≠O.length)(a:cF j O I0):cR j O I0≠[]:=by
 intro b;unfold cR at b;rw[Sh,Pj,Pj]at b;refine aW (pg a) fun o=>?_;have p:=pf a;have q:I0.length<=O.length:=by
  have:=dH o.2 (m:=List.range O.length) fun u l=>by refine ah (Na.mp l) fun e g=>?_;obtain rfl:=g.2;exact NX.mpr ((pe a) e g.1).2
  rw[Nb,NS]at this;exact this
 have r:j.length<=I0.length:=by
  have:=dH (O6 (n:=j.length)) (m:=I0.map (fun x=>x.1)) fun c i=>by
   have:=b.1 c i;unfold dF at this;cases f:I0.lookup c with
   |none=>rw[f]at this;exact nomatch this
   |some d=>exact Na.mpr ⟨(c,d),bI f,rfl⟩
  rw[Nb,NS]at this;exact this
 have s:O.length<=I0.length:=by
  have:=dH (O6 (n:=O.length)) (m:=I0.map (fun x=>x.2)) fun d k=>by
   have:=b.2 d k;unfold d5 at this
   split at this
   ·rename_i a
    refine ah (N8.mp a) fun e h=>?_;exact Na.mpr ⟨e,h.1,of_decide_eq_true h.2⟩
   ·exact nomatch this
  rw[Nb,NS]at this;exact this
 omega
theorem Fc{c:aJ}(a:c∈bH k j O q):∃d,c.2=aU k++d:=by
 unfold bH at a;by_cases b:j.getD q 0=O.getD q 0
 ·rw[if_pos b]at a;exact(N0 a).elim
 ·rw[if_neg b]at a;exact⟨_,(congrArg Prod.snd (Nj.mp a)).trans ((NY _ _ _).trans ((NY _ _ _).trans ((NY _ _ _).trans (NY _ _ _))))⟩
theorem Ei(c g:List Int):∀b∈(List.range c.length).flatMap (bH 4 c g),b.2≠("":Str):=by
 intro b e f;refine ah (NJ.mp e) fun i h=>?_;obtain⟨j,d⟩:=Fc h.2;have a:=congrArg Str.length (d.symm.trans f);rw[Q3]at a;exact absurd (Nat.add_eq_zero_iff.mp (a.trans (by exists 4:("":Str).length=0))).1 (by exists 4)
theorem mS{b c:D->List I1}{a:List D}(e:∀d∈a,b d=c d):a.flatMap b=a.flatMap c:=et e
theorem BK{i:Type}{c:D->List I1}{d:D->List i}{a:List D}(e:∀b∈a,(c b).length<=(d b).length):(a.flatMap c).length<=(a.flatMap d).length:=by
 induction a with
 |nil=>exact Ni _
 |cons b a g=>
  rw[NO,NO,Nm,Nm];exact No (e b (.head _)) (g fun h f=>e h (.tail _ f))
theorem iT(c:aO IV):∃b,af IV 4=some (.a b)/\aI (.a b):=by
 obtain⟨g,e⟩:=Oa.mp ((dT IV 4).mpr c.ea);refine aW (bZ c e) fun f=>?_;cases g with
 |a b=>exact⟨b,e,f.1⟩
 |d h=>cases f.2
theorem ai4(G8:aO IV)(n:aO Jf)(E:af IV 0=some (.d b))(G:af Jf 0=some (.d L))(f:cw (aM IV) (aM Jf) b L Js):
  hc (Js.map b5) ((a8 IV Jf).map (fun x=>x.2))=true:=by
 refine bB f fun k D B=>?_;have q:=B.1;obtain rfl:=B.3;rw[nN G8 n]at q⊢;rw[ub];generalize Hc:cM.filter (cK IV Jf)=g at*;have v:∀a∈g,0<a/\a∈cM:=fun a e=>by
  rw[<-Hc]at e;have:=(NL.mp e).1;exact⟨j7 a this,this⟩
 have q:∀a∈g,gb (af IV a) (af Jf a) (k a):=fun a e=>by
  have:=q a e;rw[c1,c1,if_pos (v a e).1,if_pos (v a e).1]at this;exact this
 refine ah (iT G8) fun h u=>?_;refine ah (iT n) fun j x=>?_;have H:(4:Int)∈g:=by rw[<-Hc];exact NL.mpr ⟨by decide,by unfold cK;rw[u.1];rfl⟩
 have KY:=(bZ G8 E).1.1;have KX:(D.map fun i=>(([ak.cd,i.1],i.2):ai)).map b5=(bS 0 (af IV 0) (af Jf 0)).map (fun x=>x.2):=by
  rw[B.2,E,G,Nf,Nf];exact tL 0 KY ((bZ n G).1.1)
 have J:∀a∈g,a≠4->∀c∈bS a (af IV a) (af Jf a),dk c.2=true/\c.2≠("":Str):=fun a e l=>by
  have KU:=(v a e).2;simp only[cM,Nk,N0,or_false]at KU;refine sp (by omega) (fun p m=>?_) (fun p m=>?_)
  ·rw[(bZ G8 m).2,decide_eq_false l]
  ·rw[(bZ n m).2,decide_eq_false l]
 have M:∀c∈bS 0 (af IV 0) (af Jf 0),dk c.2=true/\c.2≠("":Str):=
  sp (.inl rfl) (fun p m=>by rw[(bZ G8 m).2];rfl) (fun p m=>by rw[(bZ n m).2];rfl)
 have KW:((g.flatMap fun a=>(k a).map (cs (.obj a)))++D.map fun i=>(([ak.cd,i.1],i.2):ai)).map b5=(g.flatMap fun a=>(k a).map fun c=>b5 (cs (.obj a) c))++(bS 0 (af IV 0) (af Jf 0)).map (fun x=>x.2):=by
  rw[Ng,KX,N9];refine congrArg (·++_) ?_;refine mS fun a w=>?_;rw[Nf];exact N7 fun c w=>rfl
 have KV:((g.flatMap fun a=>bS a (af IV a) (af Jf a))++bS 0 (af IV 0) (af Jf 0)).map (fun x=>x.2)=(g.flatMap fun a=>(bS a (af IV a) (af Jf a)).map (fun x=>x.2))++(bS 0 (af IV 0) (af Jf 0)).map (fun x=>x.2):=by
  rw[Ng,N9]
 rw[KW,KV];have A:∀a∈g,a≠4->(k a).map (fun c=>b5 (cs (.obj a) c))=(bS a (af IV a) (af Jf a)).map (fun x=>x.2):=fun a e l=>FK G8 n (v a e).1 l (q a e);have l:=q 4 H;rw[u.1,x.1]at l;refine ah l fun K0 U=>?_;obtain⟨N,I,rfl⟩:=U.1;have z:(k 4).map (fun c=>b5 (cs (.obj 4) c))=(cR h j N).map fun i=>b5 ([aB 4,.idx (i.1:Nat)],i.2):=by rw[U.2,Nf,Nf];rfl
 by_cases r:h.length=j.length
 ·
  have KT:(k 4).map (fun c=>b5 (cs (.obj 4) c))=(bS 4 (af IV 4) (af Jf 4)).map (fun x=>x.2):=by
   rw[z,FI 4 r I,u.1,x.1];show _=(if h.length=j.length then(List.range h.length).flatMap (bH 4 h j)else[([aB 4],"")]).map (fun x=>x.2);rw[if_pos r]
  have p:(g.flatMap fun a=>(k a).map fun c=>b5 (cs (.obj a) c))=g.flatMap fun a=>(bS a (af IV a) (af Jf a)).map (fun x=>x.2):=by
   refine mS fun a e=>?_;by_cases f:a=4
   ·subst f;exact KT
   ·exact A a e f
  rw[p];unfold hc;rw[if_neg,decide_eq_true rfl];intro s;rcases Nu.mp s with s|s
  ·refine ah (NJ.mp s) fun a V=>?_;refine ah (Na.mp V.2) fun c C=>?_;have o:=C.1;by_cases f:a=4
   ·subst f;rw[u.1,x.1]at o;have o:c∈(if h.length=j.length then(List.range h.length).flatMap (bH 4 h j)else[([aB 4],"")]):=o;rw[if_pos r]at o;exact Ei h j c o C.2
   ·exact(J a V.1 f c o).2 C.2
  ·refine ah (Na.mp s) fun c X=>?_;exact(M c X.1).2 X.2
 ·have y:(bS 4 (af IV 4) (af Jf 4)).map (fun x=>x.2)=[("":Str)]:=by
   rw[u.1,x.1];show(if h.length=j.length then(List.range h.length).flatMap (bH 4 h j)else[([aB 4],("":Str))]).map (fun x=>x.2)=_;rw[if_neg r];rfl
  unfold hc;rw[if_pos,Ox,decide_eq_true_eq,decide_eq_true_eq]
  ·constructor
   ·rw[O0,O0,List.filter_flatMap,List.filter_flatMap];refine(congrArg (·++_) ?_).trans (congrArg (_++·) ?_)
    ·refine mS fun a e=>?_;by_cases f:a=4
     ·subst f;rw[y,z];have KS:((cR h j N).map fun i=>b5 ([aB 4,.idx (i.1:Nat)],i.2)).filter dk=[]:=by
       rw[OA];intro O t;refine ah (Na.mp t) fun i KZ=>?_;obtain rfl:=KZ.2;rw[ahg];exact nofun
      rw[KS];trivial
     ·rw[A a e f];apply OQ;intro O t;refine ah (Na.mp t) fun c Y=>?_;obtain rfl:=Y.2;refine aW (J a e f c Y.1) fun Z=>?_;rw[Z.1,decide_eq_true Z.2]
    ·apply OQ;intro O t;refine ah (Na.mp t) fun c Q=>?_;obtain rfl:=Q.2;refine aW (M c Q.1) fun T=>?_;rw[T.1,decide_eq_true T.2]
   ·rw[Nm,Nm];have:(g.flatMap fun a=>(bS a (af IV a) (af Jf a)).map (fun x=>x.2)).length<=(g.flatMap fun a=>(k a).map fun c=>b5 (cs (.obj a) c)).length:=by
     refine BK fun a e=>?_;by_cases f:a=4
     ·subst f;rw[y,z,Nb];have:=List.length_pos_iff.mpr (lT r I);simp only[N4,Qp];exact this
     ·rw[A a e f];exact Ni _
    exact Np this _
  ·refine NG _ (NJ.mpr ⟨4,H,?_⟩);rw[y];exact Nj.mpr rfl
noncomputable def dR(a b:List ak):Prop:=a.take (min a.length b.length)=b.take (min a.length b.length)
theorem jE(b a:List ak):dR b a↔(b.take a.length=a\/a.take b.length=b):=by
 unfold dR;by_cases c:b.length<=a.length
 ·rw[QO c,OP (Ni _)];constructor
  ·intro e;exact .inr e.symm
  ·rintro(e|e)
   ·have:=congrArg List.length e;rw[Pf]at this;have d:b.length=a.length:=by omega
    rw[<-d,OP (Ni _)]at e;rw[<-e,OP (Ni _)]
   ·exact e.symm
 ·have c:a.length<=b.length:=by exact Nq (R7 c)
  rw[Rt c,OP (l:=a) (Ni _)];constructor
  ·intro e;exact .inl e
  ·rintro(e|e)
   ·exact e
   ·have:=congrArg List.length e;rw[Pf]at this;rw[(by omega:b.length=a.length),OP (Ni _)]at e;rw[e,OP (Ni _)]
theorem zb:dR JB Kg↔dR Kg JB:=by unfold dR;rw[Nat.min_comm];exact eq_comm
theorem Gl:J3∈bY JB Kv Kg↔J3∈Kv\/(J3=(JB,Kg)/\dR JB Kg):=by
 unfold bY
 split
 ·rename_i c
  rw[Nu,Nj];exact⟨fun a=>a.elim .inl fun b=>.inr ⟨b,c.1⟩,fun a=>a.elim .inl fun b=>.inr b.1⟩
 ·rename_i c
  constructor
  ·exact .inl
  ·rintro(a|⟨rfl,e⟩)
   ·exact a
   ·by_cases d:(JB,Kg)∈Kv
    ·exact d
    ·exact absurd ⟨e,d⟩ c
theorem aad(a:Kv.Nodup):(bY JB Kv Kg).Nodup:=by
 unfold bY
 split
 ·rename_i e
  rw[NK];exact⟨a,by simp,fun f d g b c=>by rw[Nj]at b;subst b;subst c;exact e.2 d⟩
 ·exact a
theorem Gk:∀{b:List (List ak×List ak)},J3∈Kp.foldl (bY JB) b↔J3∈b\/(J3.1=JB/\J3.2∈Kp/\dR JB J3.2):=by
 induction Kp with
 |nil=>exact fun{b}=>⟨.inl,fun a=>a.elim id fun a=>(N0 a.2.1).elim⟩
 |cons g Kp f=>
  intro b;rw[OH,f,Gl,Nk];constructor
  ·rintro((a|⟨rfl,e⟩)|⟨c,GJ,d⟩)
   ·exact .inl a
   ·exact .inr ⟨rfl,.inl rfl,e⟩
   ·exact .inr ⟨c,.inr GJ,d⟩
  ·rintro(a|⟨c,GJ|GJ,d⟩)
   ·exact .inl (.inl a)
   ·exact .inl (.inr ⟨Prod.ext c GJ,GJ▸d⟩)
   ·exact .inr ⟨c,GJ,d⟩
theorem uu:∀{c:List (List ak)}{a:List (List ak×List ak)},a.Nodup->(c.foldl (bY JB) a).Nodup
 |[],_,b=>b
 |r::c,a,b=>by rw[OH];exact uu (aad b)
theorem Gn:∀{b:List (List ak×List ak)},J3∈Kz.foldl (fun b e=>Kp.foldl (bY e) b) b↔J3∈b\/(J3.1∈Kz/\J3.2∈Kp/\dR J3.1 J3.2):=by
 induction Kz with
 |nil=>exact fun{b}=>⟨.inl,fun a=>a.elim id fun a=>(N0 a.1).elim⟩
 |cons e Kz f=>
  intro b;rw[OH,f,Gk,Nk];constructor
  ·rintro((a|⟨GI,c,d⟩)|⟨GI,c,d⟩)
   ·exact .inl a
   ·exact .inr ⟨.inl GI,c,GI▸d⟩
   ·exact .inr ⟨.inr GI,c,d⟩
  ·rintro(a|⟨GI|GI,c,d⟩)
   ·exact .inl (.inl a)
   ·exact .inl (.inr ⟨GI,c,GI▸d⟩)
   ·exact .inr ⟨GI,c,d⟩
theorem Gm:J3∈eM Kp Kz↔J3.1∈Kp/\J3.2∈Kz/\dR J3.1 J3.2:=by unfold eM;rw[Gn];simp
theorem aae:(eM Kp Kz).Nodup:=by
 unfold eM;have:∀(Kp:List (List ak))(a:List (List ak×List ak)),a.Nodup->(Kp.foldl (fun a c=>Kz.foldl (bY c) a) a).Nodup:=by
  intro Kp;induction Kp with
  |nil=>intro a b;exact b
  |cons c Kp d=>intro a b;rw[OH];exact d _ (uu b)
 exact this Kp [] OE
theorem kG:J3∈dW JJ Kt↔J3.1∈JJ.map (fun x=>x.1)/\J3.2∈Kt.map (fun x=>x.1)/\dR J3.1 J3.2:=by
 have f:dW JJ Kt=JJ.flatMap fun b=>Kt.flatMap (cA b):=rfl;rw[f,NJ];constructor
 ·rintro⟨b,j,a⟩;obtain⟨c,k,a⟩:=NJ.mp a;unfold cA at a
  split at a
  ·rename_i l
   rw[Nj]at a;subst a;exact⟨Na.mpr ⟨b,j,rfl⟩,Na.mpr ⟨c,k,rfl⟩,(jE _ _).mpr l⟩
  ·exact nomatch a
 ·rintro⟨g,h,i⟩;refine ah (Na.mp g) fun b d=>?_;refine ah (Na.mp h) fun c e=>?_;refine⟨b,d.1,NJ.mpr ⟨c,e.1,?_⟩⟩;unfold cA;rw[d.2,e.2,if_pos ((jE _ _).mp i)];exact Nj.mpr rfl
theorem kv{b c:aJ}(a:J3∈cA b c):J3=(b.1,c.1):=by
 unfold cA at a;by_cases d:b.1.take c.1.length=c.1\/c.1.take b.1.length=b.1
 ·rw[if_pos d]at a;exact Nj.mp a
 ·rw[if_neg d]at a;exact(N0 a).elim
theorem FA(a b:aJ):(cA a b).Nodup:=by
 unfold cA;by_cases c:a.1.take b.1.length=b.1\/b.1.take a.1.length=a.1
 ·rw[if_pos c];exact ND.mpr ⟨N0,OE⟩
 ·rw[if_neg c];exact OE
theorem FD(b:aJ):(JJ.map (fun x=>x.1)).Nodup->(JJ.flatMap (cA b)).Nodup:=by
 induction JJ with
 |nil=>exact fun x=>OE
 |cons h JJ g=>
  intro a;rw[NO,NK];refine⟨FA b h,g (ND.mp a).2,fun j e k f d=>?_⟩;refine ah (NJ.mp f) fun i c=>?_;exact(ND.mp a).1 (Na.mpr ⟨i,c.1,(congrArg Prod.snd ((kv e).symm.trans (d.trans (kv c.2)))).symm⟩)
theorem aai(c:(JJ.map (fun x=>x.1)).Nodup)(f:(Kt.map (fun x=>x.1)).Nodup):(dW JJ Kt).Nodup:=by
 refine(?_:(JJ.flatMap fun b=>Kt.flatMap (cA b)).Nodup);induction JJ with
 |nil=>exact OE
 |cons b JJ h=>
  rw[NO,NK];refine⟨FD b f,h (ND.mp c).2,fun m g n a e=>?_⟩;refine ah (NJ.mp g) fun o k=>?_;refine ah (NJ.mp a) fun i d=>?_;have a:=d.2;refine ah (NJ.mp a) fun p l=>?_;exact(ND.mp c).1 (Na.mpr ⟨i,d.1,(congrArg (fun j:List ak×List ak=>j.1) ((kv k.2).symm.trans (e.trans (kv l.2)))).symm⟩)
theorem y5(d:(JJ.map (fun x=>x.1)).Nodup)(e:(Kt.map (fun x=>x.1)).Nodup)(b:∀a,a∈Kp↔a∈JJ.map (fun x=>x.1))(c:∀a,a∈Kz↔a∈Kt.map (fun x=>x.1)):(eM Kp Kz).Perm (dW JJ Kt):=by
 refine(Qx aae (aai d e)).mpr fun a=>?_;rw[Gm,kG,b,c]
theorem kN{d:D->List I1}{b:List D}:b.Nodup->(∀c∈b,(d c).Nodup)->(∀c∈b,∀a∈b,c≠a->∀e∈d c,e∉d a)->(b.flatMap d).Nodup:=by
 induction b with
 |nil=>exact fun w w w=>OE
 |cons c b o=>
  intro i j k;rw[NO,NK];refine⟨j c (.head _),o (ND.mp i).2 (fun a g=>j a (.tail _ g)) fun a g p n=>k a (.tail _ g) p (.tail _ n),fun e l q m f=>?_⟩;refine ah (NJ.mp m) fun a h=>?_;exact k c (.head _) a (.tail _ h.1) (fun f=>(ND.mp i).1 (f▸h.1)) e l (f▸h.2)
noncomputable def cC(a:Int)(b c:Option ag):List (List ak):=(bS a b c).map (fun x=>x.1)
theorem nh:∀a∈(b7 k b L h).map (fun x=>x.1),a=[aB k,.key h]:=by
 intro a d;obtain⟨f,e,rfl⟩:=Na.mp d;obtain⟨g,c⟩:=ng e;rw[c]
theorem ne:∀a∈(bH k j O q).map (fun x=>x.1),a=[aB k,.idx (q:Nat)]:=by
 intro a c;refine ah (Na.mp c) fun d b=>?_;obtain rfl:=b.2;exact tB b.1
theorem hY{b:List D}(c:D->I1)(d:b.length<=1):(b.map c).Nodup:=by
 match b with
 |[]=>exact OE
 |[a]=>simp
 |a::e::f=>simp at d
theorem jU(a:(b.map (fun x=>x.1)).Nodup)(c:(L.map (fun x=>x.1)).Nodup):(br b L).Nodup:=by unfold br;rw[(cO _).nodup_iff];exact jV a c
theorem n6:∀c∈cC k IU IW,∃l,c=aB k::l:=by
 intro c b;unfold cC at b;cases IU with
 |none=>cases IW with
  |none=>cases b
  |some e=>have b:c∈[[aB k]]:=b;rw[Nj]at b;exact⟨[],b⟩
 |some e=>cases IW with
  |none=>
    have b:c∈[[aB k]]:=by cases e<;>exact b
    rw[Nj]at b;exact⟨[],b⟩
  |some i=>cases e with
   |a g=>cases i with
    |a h=>
     have b:c∈(if g.length=h.length then(List.range g.length).flatMap (bH k g h)else[([aB k],"")]).map (fun x=>x.1):=b
     split at b
     ·rw[N9]at b;refine ah (NJ.mp b) fun o m=>?_;exact⟨_,ne c m.2⟩
     ·have b:c∈[[aB k]]:=b;replace b:=Nj.mp b;exact⟨[],b⟩
    |d f=>cases b
   |d j=>cases i with
    |a h=>cases b
    |d f=>
     have b:c∈((br j f).flatMap (b7 k j f)).map (fun x=>x.1):=b;rw[N9]at b;refine ah (NJ.mp b) fun p n=>?_;exact⟨_,nh c n.2⟩
theorem aga(m:∀b,IU=some b->aI b)(n:∀b,IW=some b->aI b):(cC k IU IW).Nodup:=by
 cases IU with
 |none=>cases IW with
  |none=>exact OE
  |some b=>exact hY _ (Ni 1)
 |some b=>cases IW with
  |none=>cases b<;>exact hY _ (Ni 1)
  |some j=>cases b with
   |a h=>cases j with
    |a i=>
     show((if h.length=i.length then(List.range h.length).flatMap (bH k h i)else[([aB k],"")]).map (fun x=>x.1)).Nodup
     split
     ·rw[N9];refine kN O6 (fun o x=>hY _ (nd ..)) fun o x q x f a c e=>?_;have:=(ne a c).symm.trans (ne a e);simp at this;exact f (Sg.mp this)
     ·exact hY _ (Ni 1)
    |d g=>exact OE
   |d l=>cases j with
    |a i=>exact OE
    |d g=>
     show(((br l g).flatMap (b7 k l g)).map (fun x=>x.1)).Nodup;rw[N9];refine kN (jU (m _ rfl).1 (n _ rfl).1) (fun p x=>hY _ (nf ..)) fun p x r x f a c e=>?_;have:=(nh a c).symm.trans (nh a e);simp at this;exact f this
theorem aj3(f:k∈dd)(e:IY∈dd)(a:aB k=aB IY):k=IY:=by
 unfold aB at a;by_cases b:0<k<;>by_cases c:0<IY
 ·rw[if_pos b,if_pos c]at a;injection a
 ·rw[if_pos b,if_neg c]at a;exact nomatch a
 ·rw[if_neg b,if_pos c]at a;exact nomatch a
 ·have d:∀k∈dd,¬0<k->k=0:=by exists 4
  exact(d k f b).trans (d IY e c).symm
theorem uc(G8:aO IV)(f:aO Jf):((a8 IV Jf).map (fun x=>x.1)).Nodup:=by
 unfold a8;rw[N9];refine kN (by decide) (fun k x=>aga (fun d b=>(bZ G8 b).1) (fun d b=>(bZ f b).1)) fun k j m i l c g h=>?_;obtain⟨n,e⟩:=n6 c g;obtain⟨o,a⟩:=n6 c h;replace a:=e▸a;injection a with a _
 exact l (aj3 j i a)
noncomputable def ai.rw(a:ai):Rw:=⟨a.1,a.2.way,a.2.old,a.2.new⟩
theorem ak3(d:ak)(c:Int)(a b:GG):bl (ai.rw ([d,.idx c],.turned a b))=[d,.idx c]:=by
 delta bl ai.rw;have:decide (a9.way (.turned a b)≠("turned":Str))=false:=decide_eq_false fun e=>e rfl;rw[this,QH];rfl
theorem ak2(d:ak)(g:Int)(b:a9)(e:∀c a,b≠ .turned c a):bl (ai.rw ([d,.idx g],b))=[d]:=by
 have f:decide (b.way≠("turned":Str))=true:=by
  cases b with
  |added a=>exact decide_eq_true (by show¬(Str.ofString "added")=(Str.ofString "turned");exists 4)
  |gone a=>exact decide_eq_true (by show¬(Str.ofString "gone")=(Str.ofString "turned");exists 4)
  |turned c a=>exact absurd rfl (e c a)
 delta bl ai.rw;rw[f];rfl
theorem yX(e:Int)(g:ax b h=true\/ax L h=true):(ds b L h).map (fun i=>[aB e,ak.key i.1])=(b7 e b L h).map (fun x=>x.1):=by
 delta ds b7;cases f:ax L h with
 |false=>
  have d:ax b h=true:=by rcases g with a|a;exact a;rw[f]at a;exact nomatch a
  rw[d];rfl
 |true=>
  cases d:ax b h with
  |false=>rfl
  |true=>
   by_cases c:av b h=av L h
   ·simp[c]
   ·simp[c]
theorem mD(a:Int)(g:(b.map (fun x=>x.1)).Nodup)(h:(L.map (fun x=>x.1)).Nodup):(c9 (as b) (as L)).map (fun f=>[aB a,ak.key f.1])=((br b L).flatMap (b7 a b L)).map (fun x=>x.1):=by
 rw[mC g h];unfold c9;rw[kD (ds b L) _ (fun d=>(b7 a b L d).map (fun x=>x.1)),N9];intro d e;refine yX a ?_;rcases eU.mp e with c|c
 ·exact .inl (bw.mpr c)
 ·exact .inr (bw.mpr c)
theorem xj(m:j.length≠O.length)(d:cF j O I0):∀g∈cR j O I0,∀h i,g.2≠ .turned h i:=by
 have l:cQ j O I0:=by
  rcases d with⟨b,_⟩|⟨_,d⟩
  ·exact(m b).elim
  ·exact d
 intro g a h i b;unfold cR at a;rcases Nu.mp a with a|a
 ·refine ah (NJ.mp a) fun c n=>?_;have a:=n.2;unfold dF at a;cases e:I0.lookup c with
  |none=>rw[e]at a;rw[Nj]at a;rw[a]at b;exact nomatch b
  |some f=>
   rw[e]at a;refine df (l.2 _ (bI e)) fun o=>?_;have k:j.getD c 0=O.getD f 0:=by
    simp only[List.getD];rw[o.3]
   have a:g∈(if j.getD c 0=O.getD f 0 then[]else[(c,a9.turned (ap (j.getD c 0)) (ap (O.getD f 0)))]):=a;rw[if_pos k]at a;exact nomatch a
 ·obtain⟨c,_,a⟩:=NJ.mp a;unfold d5 at a
  split at a
  ·exact nomatch a
  ·rw[Nj]at a;rw[a]at b;exact nomatch b
theorem v8(G8:aO IV)(v:aO Jf)(G:af IV 0=some (.d b))(H:af Jf 0=some (.d L))(m:cw (aM IV) (aM Jf) b L Js)(l:List ak):
  l∈Js.map (fun q=>bl (ai.rw q))↔l∈(a8 IV Jf).map (fun x=>x.1):=by
 refine bB m fun E T C=>?_;have x:=C.1;have Y:=C.2;obtain rfl:=C.3;rw[nN G8 v]at x⊢;rw[ub];generalize Hc:cM.filter (cK IV Jf)=y at*;have u:∀c∈y,0<c:=fun c g=>by
  rw[<-Hc]at g;have:=(NL.mp g).1;exact j7 c this
 have x:∀c∈y,gb (af IV c) (af Jf c) (E c):=fun c g=>by
  have:=x c g;rw[c1,c1,if_pos (u c g),if_pos (u c g)]at this;exact this
 refine ah (iT G8) fun e KT=>?_;refine ah (iT v) fun h KU=>?_;have Z:(T.map fun f=>(([ak.cd,f.1],f.2):ai)).map (fun q=>bl (ai.rw q))=(bS 0 (af IV 0) (af Jf 0)).map (fun x=>x.1):=by
  rw[Y,G,H,Nf,Nf];exact(mD 0 ((bZ G8 G).1.1) ((bZ v H).1.1))
 have M:∀c∈y,(l∈((E c).map (cs (.obj c))).map (fun q=>bl (ai.rw q))↔l∈(bS c (af IV c) (af Jf c)).map (fun x=>x.1)):=by
  intro c g;have k:=x c g;by_cases I:c=4
  ·subst I;rw[KT.1,KU.1]at k⊢;refine ah k fun KW N=>?_;obtain⟨p,A,rfl⟩:=N.1;rw[N.2,Nf,Nf,Nf];by_cases t:e.length=h.length
   ·have z:(bS 4 (some (.a e)) (some (.a h))).map (fun x=>x.1)=((List.range e.length).flatMap (bH 4 e h)).map (fun x=>x.1):=by
     show(if e.length=h.length then(List.range e.length).flatMap (bH 4 e h)else[([aB 4],("":Str))]).map (fun x=>x.1)=_;rw[if_pos t]
    rw[z,lU t A];have V:∀B:List Nat,(B.flatMap fun i=>if e.getD i 0=h.getD i 0 then[]else[((i,a9.turned (ap (e.getD i 0)) (ap (h.getD i 0))):Nat×a9)]).map ((fun q=>bl (ai.rw q))∘(cs (.obj 4))∘(fun f:ak×a9=>(([f.1],f.2):ai))∘fun f:Nat×a9=>((.idx (f.1:Nat),f.2):ak×a9))=(B.flatMap (bH 4 e h)).map (fun x=>x.1):=by
     intro B;rw[kD _ _ (fun i=>(bH 4 e h i).map (fun x=>x.1)),N9];intro i _;unfold bH;by_cases r:e.getD i 0=h.getD i 0
     ·rw[if_pos r,if_pos r];rfl
     ·rw[if_neg r,if_neg r];show[bl (ai.rw ([.obj 4,.idx (i:Nat)],.turned (ap (e.getD i 0)) (ap (h.getD i 0))))]=[[aB 4,.idx (i:Nat)]]
      rw[ak3];rfl
    exact Iff.of_eq (congrArg (l∈·) (V (List.range e.length)))
   ·have z:(bS 4 (some (.a e)) (some (.a h))).map (fun x=>x.1)=[[aB 4]]:=by
     show(if e.length=h.length then(List.range e.length).flatMap (bH 4 e h)else[([aB 4],("":Str))]).map (fun x=>x.1)=_;rw[if_neg t];rfl
    rw[z,Nj,Na];have J:∀f∈cR e h p,bl (ai.rw ([.obj 4,.idx (f.1:Nat)],f.2))=[aB 4]:=fun f s=>ak2 _ _ _ (xj t A f s);constructor
    ·rintro⟨f,s,j⟩;rw[<-j];exact J f s
    ·intro j;obtain⟨f,s⟩:=List.exists_mem_of_ne_nil _ (lT t A);exact⟨f,s,(J f s).trans j.symm⟩
  ·have D:∀{IV:List (Int×ag)},aO IV->∀j,af IV c=some j->∃p,j=.d p/\(p.map (fun x=>x.1)).Nodup:=fun X j r=>by
    obtain⟨o,n⟩:=bZ X r;rw[decide_eq_false I]at n;cases j with
    |a e=>cases n
    |d p=>exact⟨p,rfl,o.1⟩
   cases o:af IV c with
   |none=>
    cases n:af Jf c with
    |none=>rw[o,n]at k;exact k.elim
    |some j=>
     rw[o,n]at k;rw[k];show l∈[[ak.obj c]]↔l∈[[aB c]];rw[(k9 (u c g))]
   |some j=>
    obtain⟨p,rfl,KS⟩:=D G8 j o;cases n:af Jf c with
    |none=>
     rw[o,n]at k;rw[k];show l∈[[ak.obj c]]↔l∈[[aB c]];rw[(k9 (u c g))]
    |some U=>
     refine ah (D v U n) fun KX O=>?_;obtain rfl:=O.1;rw[o,n]at k;refine ah k fun KV Q=>?_;rw[Q.2,Q.1,Nf,Nf,Nf];have:=mD c KS O.2;rw[(k9 (u c g))]at this;exact Iff.of_eq (congrArg (l∈·) this)
 rw[Ng,Ng,Nu,Nu,Z,N9,N9,NJ,NJ];constructor
 ·rintro(⟨c,g,m⟩|m)
  ·exact .inl ⟨c,g,(M c g).mp m⟩
  ·exact .inr m
 ·rintro(⟨c,g,m⟩|m)
  ·exact .inl ⟨c,g,(M c g).mpr m⟩
  ·exact .inr m
theorem y6{a os c:List (Int×ag)}(G8:aO a)(Hn:aO os)(f:aO c)(g:af a 0=some (.d b))(k:af os 0=some (.d L))(l:af c 0=some (.d Je))
{h:List ai}(i:cw (aM a) (aM os) b L Js)(j:cw (aM a) (aM c) b Je h):(eM (Js.map fun e=>bl (ai.rw e)) (h.map fun e=>bl (ai.rw e))).Perm (dW (a8 a os) (a8 a c)):=
 y5 (uc G8 Hn) (uc G8 f) (v8 G8 Hn g k i) (v8 G8 f g l j)
noncomputable def fz(b:List ai):Prop:=b.length<50/\∀c∈b.map ai.rw,∃a d,c.path=a++[d]/\a.length<50
noncomputable def fE(a b:List ai):List (List ak×List ak):=eM ((a.map ai.rw).map bl) ((b.map ai.rw).map bl)
section
variable{S:aa}
noncomputable abbrev Ig:List Str:=["base","one","other","first","second"]
structure wI(T:aa)(s d t x:Addr)(GH a:Nat)(rs:List aC)(GQ:List (Str×Int))(R:Int->Option ag):Prop where
 inst:(s,GL.inst 368 d (dM t x))∈T
 table:(t,GL.dict GH (rs.map Hm))∈T
 cd:(x,Hq a GQ)∈T
 ents:∀r∈rs,bE T r.2.1 r.2.2
 cr:∀r∈rs,r.2.2.ok
 GO:(rs.map (fun x=>x.1)).Nodup
 ok:(ag.d GQ).ok
 look:∀m,af (ar rs) m=R m
theorem ace(a:q<50)(b:v<50):q+v<=sizeLine:=by have:=Nl;exact mf (aj (c:=16777216) (No (Nh a) (Nh b)) rfl) (Nd Nl.symm)
theorem zt(P:Pg){J z K4 x N A K5:Addr}{V X:Nat}{u:List aC}(p:bv S d H IX Jj q v IT b)(Z:bv S JE J z K4 Jd JH JG L)(KS:bv S x N A K5 V X u Je)
(K2:∀a g h,af (ar IT) a=some g->af (ar JG) a=some h->g.same h)(K3:∀a g h,af (ar IT) a=some g->af (ar u) a=some h->g.same h)
{G:(Int->Option ag)->List (Str×Int)->Prop}
(I:∀c e,cw (ar IT) (ar JG) b L c->cw (ar IT) (ar u) b Je e->fz c/\fz e/\fE c e=[]/\∃(GW:List (bM×ai))(s:Int->Option ag)(f:List (Str×Int)),c++e=GW.map (fun l=>cs (fg l.1) l.2)/\
 (∀l∈GW,l.2.1.length<50)/\(∀a E,(some a,E)∈b1 GW->cY (af (ar IT) a) E (s a))/\lO b (b1 GW) f/\G (fun r=>if some r∈(b1 GW).map (fun x=>x.1)then s r else af (ar IT) r) f)
(KZ:∀m o y B q v t f n R,wI n m o y B q v t f R->G R f->Le S n->M (.ref m) n):GN 9 (.ref 551) [.ref d,.ref JE,.ref x] S M:=by
 refine aS Ig [some (.ref d),some (.ref JE),some (.ref x),none,none] P.T P.mE uG rfl fun K6 Lf K1 Lb Y=>?_;exists aH ?_;exists GN.lv (gV P p Z K2 fun K7 c O=>?_);refine GN.lv (gV P p.there KS.there K3 fun K8 e Q=>?_);obtain⟨i,j,KU,GW,s,f,C,KX,KT,D,He⟩:=I c e O Q;exists 0;refine GN.lv (me P (rs:=c.map ai.rw) (ts:=e.map ai.rw) (by rw[Nf];exact ac am) (by rw[Nf];exact am) (by rw[Nb];exact i.1) (by rw[Nb];exact j.1) i.2 j.2 fun K9=>?_);exists au (show eM ((c.map ai.rw).map bl) ((e.map ai.rw).map bl)=[]from KU) ?_;intro Ld;exists eZ K1 (xs:=[]) (.inl (ac am)) (.inl am) ?_;exists bx rfl ?_;refine eA (by exists 2) (by exists 2) (by rw[Nb,Nb];exact ace i.1 j.1) fun La=>?_;refine dY (Ng ..) ?_;have KV:GW.length<3000:=by
  have:=congrArg List.length C;rw[Nm,Nb]at this;have z:=i.1;have A:=j.1;exact aj (Np (mf (Nd this.symm) (No (Nh z) (Nh A))) 1) rfl
 exists 0;refine GN.lv (ze P (p.there.there.there.there.there) (by rw[C,Nf];exact am) KV KX KT D fun m o y B T U t Lc k=>?_);exists 0;exact Y.r (KZ m o y B T U t f _ _ ⟨am,ac (ac am),ac am,fun K0 KY=>(k.at_ K0 KY).mono fun Lg KW=>ac (ac (ac (NG _ KW))),k.cr,k.GO,D.2.2,k.look⟩ He (Le.skip (Le.skip (Le.skip (Le.eB _ (Le.skip (Le.skip (Le.skip (Le.skip (Le.skip (Le.refl _))))))))))) (Le.refl _)
theorem EL(P:Pg)(Hi:G2 "Exception"=none){B:List Env}{X K7 La s Y K8 Lb:Addr}{Z KS:Nat}{r:List aC}(G:bv S d H IX Jj q v IT b)(KW:bv S JE X K7 La Jd JH JG L)(KX:bv S s Y K8 Lb Z KS r Je)
(K3:∀j e i,af (ar IT) j=some e->af (ar JG) j=some i->e.same i)(K4:∀j e i,af (ar IT) j=some e->af (ar r) j=some i->e.same i)
(N:∀a c,cw (ar IT) (ar JG) b L a->cw (ar IT) (ar r) b Je c->fz a/\fz c/\fE a c≠[])
(o:aw Q 9)(KU:Q.frames=some B)(O:LR S p.heap)(K0:ao p.heap Ja [.ref d,.ref JE,.ref s])(K1:js S p B):
  codeAny (model prog w) Q (.call (.ref 551) ⟨Ja,[]⟩) (fun k K2=>match k with|.error KT=>ju S B p KT K2|.ok _=>False) p:=by
 refine z6 (n:=8) P.T P.mE uG rfl o KU O K0 K1 fun C K5 m o k=>?_;replace m:G9 C Ig Ig ["differences","clashes","DraftFault","applied"] []:=m;replace k:SR C (an Ig [some (.ref d),some (.ref JE),some (.ref s),none,none]) S K5:=k;refine OX ?_;refine GK.run (R:=GW) (Q:=fun l t h=>l=G4.next/\∃f g a c,t=an Ig [some (.ref d),some (.ref JE),some (.ref s),some (.ref f),some (.ref g)]/\h=(g,.list (c.map ai.GP))::(f,.list (a.map ai.GP))::S/\cw (ar IT) (ar JG) b L a/\cw (ar IT) (ar r) b Je c) ?_ k ?_
 ·exists 0;exists GN.lv (gV P G KW K3 fun f a y=>?_);exists GN.lv (gV P G.there KX.there K4 fun g c z=>?_);exact⟨rfl,f,g,a,c,rfl,rfl,y,z⟩
 rintro l U t h Lf A I Lc ⟨rfl,f,g,a,c,rfl,rfl,y,z⟩;obtain⟨D,E,n⟩:=N a c y z;cases A;refine OX (wpAny_If ?_);refine GK.run (R:=Ho) (Q:=fun V t h=>V=true/\∃u,h=u++S) ?_ I ?_
 ·exists 0;refine GN.lv (me P (rs:=a.map ai.rw) (ts:=c.map ai.rw) (by rw[Nf];exact ac am) (by rw[Nf];exact am) (by rw[Nb];exact D.1) (by rw[Nb];exact E.1) D.2 E.2 fun M=>?_);have n:eM ((a.map ai.rw).map bl) ((c.map ai.rw).map bl)≠[]:=n;generalize eM ((a.map ai.rw).map bl) ((c.map ai.rw).map bl)=x at n⊢;exists 0;intro T;exists eZ o (xs:=x.map bO) (.inl (ac am)) (.inl am) ?_;refine⟨?_,[(T,.list []),(M,.list (x.map bO)),(g,.list (c.map ai.GP)),(f,.list (a.map ai.GP))],rfl⟩;cases x with
  |nil=>exact absurd rfl n
  |cons=>rfl
 rintro l U t h K6 A J Ld ⟨rfl,u,rfl⟩;cases(A:l=true);rw[if_pos rfl];refine OX ?_;refine ag0 P Hi J m.ok o (m.gl "DraftFault" (by simp)) fun KV K9 e H IX KZ KY ext=>?_;exact⟨KV,K9,e,H,IX,_,_,K6,J,Lc.trans Ld I.alive,Le.eB u (Le.refl _),KZ,KY,ext,rfl,rfl⟩
end
section
variable{S:aa}
theorem yc{j:ExceptHandler}{h:List ExceptHandler}(g:GK e (execs I2 e.env) GW t S Z):GK e (exec (.Try I2 (j::h) [] [] N) e.env) GW t S Z:=fun o k=>by
 refine wpAny_Try_except (g.run k fun n m f a p l c d b=>?_);cases l with
 |next=>exact PH ⟨.next,f,a,.next,c,d,b⟩
 |ret i=>exact⟨_,f,a,.ret i,c,d,b⟩
theorem yd(P:Pg)(KW:aw e.A q)(s:dO e)(ok:ck e)(D:e.env.kindOf "DraftFault"=some .globalImplicit)(J:f4 e h){d u Q L M O T U:Pos}
(j:GK e (eval (.Name I5 I9) e.env) VR t S fun n A m=>∃b,n=.raw b/\cH b/\GK e (spliced (backTo d (starEach (o::IS) e.env))) ao A m fun p B a=>
 (∀(c:Shared)(i:List Value),LR a c.heap->ao c.heap i p->js a c [e.env]->codeAny (model prog w) e.A (.call b ⟨i,[]⟩) (fun k y=>match k with|.error r=>ju a [e.env] c r y|.ok _=>False) c)/\Z .next (cb B h .none) a)
(C:autoParam (starEach (o::IS) e.env=(false,eval o e.env)::starEach IS e.env) aP)(E:autoParam ((backTo d (starEach IS e.env)).any (fun x=>x.1)=false) aP)
(G:autoParam (swapsWith (.Call (.Name I5 I9) (o::IS) [] d) (some (.Name h N)) u.line e.env=pure false) aP):
  GK e (exec (.Try [.Assign [.Name h N] (.Call (.Name I5 I9) (o::IS) [] d) u] [.ExceptHandler (some (.Name "DraftFault" Q)) none [.Assign [.Name h U] (.Constant .none v M) L] O] [] [] T) e.env) GW t S Z:=fun c k=>by
 refine wpAny_Try_except (OX ?_);refine wpAny_Assign_Name (QE (j.run k fun KS n A m KX H z KT g=>?_)) G;refine aN g fun b l=>?_;have g:=l.3;refine cv (VR.iB (l.1▸H):KS=b) ?_;rw[C]at g⊢;refine callWith_of (P:=fun j=>aV base j) (by show((false||(backTo d (starEach IS e.env)).any (fun x=>x.1))||false)=false;rw[E];rfl) l.2 (Qd (g.run z fun i p B a Y I f KU x=>⟨f.led.keep,?_⟩));refine Pb (Pc (x.1 Y i f.led I (af0 s f)) fun V y h=>?_);cases V with
 |ok b=>exact h.elim
 |error r=>exact yS P ok s D J f h fun KY X KV=>⟨.next,_,a,.next,X,(KT.trans KU z.alive).trans KV f.alive,x.2⟩
theorem z5{n:Nat}{Rf:GG->Prop}(u:St)
(v:a7 d h I5 Kh I2 KR)(E:aY Kh KR l Jb Jz J7=true)(D:l.length=z.length)
(j:aw Q (n+1))(y:Q.frames=some [])(s:LR S p.heap)(i:ao p.heap Ja z)
(g:∀(e:GU),G9 e (l++Jb) (l++Jb) Jz J7->aw e.A n->dO e->GK e (execs I2 e.env) GW (an (l++Jb) (z.map some++Jb.map fun U=>none)) S (j6 fun k U=>Rf k))
(A:autoParam (KR.isCoroutine=false) aP)(B:autoParam (KR.isGenerator=false) aP)(C:autoParam (KR.kind=.function) aP):
  codeAny (model prog w) Q (.call (.ref d) ⟨Ja,[]⟩) (fun a c=>match a with|.ok (.ret k)=>∃f,VR c.heap k f/\Rf f/\(aV base c.heap)/\∃g G x,c={p with heap:=g,toks:=G,drawn:=x}|_=>False) p:=by
 refine l8 u v E D j s i (fun e N b m j a=>?_) A B C;refine(g e m j ⟨b.1▸SW y,b.2.1,m.ok.kind⟩).run a fun M f O L c H q r o=>?_;cases H with
 |next=>refine ah o fun t I=>?_;exact⟨.none,.none,I.2,q.led.keep,((b.2.2.1.trans r a.alive).same)⟩
 |ret i=>refine ah o fun t J=>?_;exact⟨_,i,J.2,q.led.keep,((b.2.2.1.trans r a.alive).same)⟩
end
theorem alc(a b c:Value):checkTypeCall "zip" ⟨[a,b,c],[]⟩=pure ():=by kernel_rfl
theorem aaj(a b c:Value):checkBuiltinCall "zip.__new__" ⟨[.type "zip",a,b,c],[]⟩=pure ():=by kernel_rfl
theorem w9(a b c d:Value):argsOk "object.__init__" ⟨[a,b,c,d],[]⟩:=by
 rw[signature?_of (id:="object.__init__") (n:=['_','_','t','i','n','i','_','_']) (o:=['t','c','e','j','b','o']) (by kernel_rfl) F.owner_object];kernel_rfl
theorem Iu(a: @Eq Nat d H->False):d≠H:=a
noncomputable abbrev lI(e:Heap)(a:Addr)(b c d:Value):Prop:=e.get? a=some {cls:=.type "tuple",data:=.seq #[b,c,d]}
section
variable{s:Shared}
theorem ald{b c:Value}(GX:lI s.heap d G Jy b)
(e:∀a,a.get? d=some {cls:=.type "tuple",data:=.seq ((#[G,Jy,b]:Array Value).setIfInBounds q c)}->Heap.SameBut d s.heap a->JM () {s with heap:=a}):
  wpAny (model prog w) Q (updateSeq d (·.setIfInBounds q c)) JM I4 s:=by
 refine R0 GX rfl (e _ ?_ (OV ..));rw[OO _ GX rfl];simp[Obj.mapSeq]
theorem ll{c:Model}{e:D}{f:List D}{a:I1}{b:D->I1->Sem (ForInStep I1)}{d:I1->Shared->Prop}(g:wpAny c Q (b e a>>=fun h=>match h with|.done a=>pure a|.yield a=>forIn f a b) d I4 s):wpAny c Q (forIn (e::f) a b) d I4 s:=by
 rw[List.forIn_cons];exact g
theorem am7{c:Model}{b:I1}{d:D->I1->Sem (ForInStep I1)}{a:I1->Shared->Prop}(e:a b s):wpAny c Q (forIn ([]:List D) b d) a I4 s:=by
 rw[List.forIn_nil];exact Nc e
noncomputable abbrev gR(d:Heap)(e:Nat)(c:List (Obj->Prop)):Prop:=∀(a:Nat)P,c[a]? =some P->∃b,d.get? (e+a)=some b/\P b
noncomputable abbrev Zs(d b:Heap)(c:Nat)(f:List (Obj->Prop)):Prop:=gR b c f/\(∀(a:Nat)e,(a<c\/c+6<=a)->d.get? a=some e->b.get? a=some e)/\b.objs.size=d.objs.size
noncomputable def iV(c b:Nat)(a:Obj):Prop:=a.cls=.type "list_iterator"/\a.data=.fields #[.ref c,.int b 0]
noncomputable def fM(a b:Obj):Prop:=b=a
noncomputable def i6(a:Array Value):Obj:={cls:=.type "tuple",data:=.seq a}
noncomputable def kP(a:Array Value):Obj:={cls:=.type "zip",dict:=none,data:=.fields a,slots:= #[]}
noncomputable def eD(a i j k f g h:Nat)(b c d e:Value):List (Obj->Prop):=
 [iV i f,iV j g,iV k h,fM (i6 #[.ref a,.ref (a+1),.ref (a+2)]),fM (i6 #[b,c,d]),fM (kP #[e,.bool false,.bool false,.ref (a+3),.ref (a+4)])]
theorem dQ{c i:Nat}{a:Obj}(d:gR I c Kk)(e:Kk[i]? =some (fM a)):I.get? (c+i)=some a:=Nw (d i _ e) fun x b=>(b.2:_=a)▸b.1
theorem pF(e:gR I q Kk)(h:Kk.length=6)(f:∀(b:Nat)a,b<q+6->I.get? b=some a->JR.get? b=some a):gR JR q Kk:=fun g P d=>
 Nw (e g P d) fun a c=>⟨a,f _ a (PD (h▸(Sy.mp d).1) q) c.1,c.2⟩
theorem ho{P:Obj->Prop}(e:∃c,I.get? q=some c/\P c)(d:gR I (q+1) Kk):gR I q (P::Kk):=fun a R b=>by
 cases a with
 |zero=>exact NM b▸e
 |succ a=>rw[show q+(a+1)=q+1+a from(Rc q 1 a).symm▸rfl];exact d a R b
theorem nF{b a i:Nat}(e:b<a\/a+6<=b)(f:i<6):b≠a+i:=fun d=>e.elim (fun c=>O9 _ (Oj (d▸c) (Nv a i))) fun c=>O9 _ (Oj (PD f a) (d▸c))
theorem ls{h0 k g:Heap}{e i:Nat}{P:Obj->Prop}(f:Zs h0 k e Kk)(n:i<6)(h:Heap.SameBut (e+i) k g)(o:∃b,g.get? (e+i)=some b/\P b):Zs h0 g e (Kk.set i P):=by
 refine⟨fun l R a=>?_,fun j b d c=>h.extBut j b (nF d n) (f.2.1 j b d c),h.1.trans f.2.2⟩
 ·by_cases c:i=l
  ·subst c;replace a:=(List.getElem?_set_self')▸a;cases d:Kk[i]? with
   |none=>replace a:=d▸a;exact nomatch a
   |some _=>rw[d]at a;exact NM a▸o
  ·rw[List.getElem?_set_ne c]at a;exact Nw (f.1 l R a) fun b m=>⟨b,h.extBut _ b (fun p=>c (Nat.add_left_cancel p).symm) m.1,m.2⟩
theorem oY{c i b e:Nat}(d:Zs I s.heap c Kk)(h:i<6)(k:Kk[i]? =some (iV b e))(j:I.IsList b Jc)(n:b<c)(m:Jc[e]? =some G)
(p:∀a,Zs I a c (Kk.set i (iV b (e+1)))->JX G {s with heap:=a}):wpAny (model prog w) Q (Builtin.SmallTypes.nextOf (.ref (c+i))) JX I4 s:=
 wpAny_nextOf_list_item (d.1 i _ k) (j.at fun o f=>d.2.1 _ o (.inl n) f) m fun a g l=>p a (ls d h l g)
theorem oZ{c d:Value}(b:Zs I s.heap q Kk)(f:Kk[4]? =some (fM (i6 #[G,Jy,c])))
(h:∀a,Zs I a q (Kk.set 4 (fM (i6 ((#[G,Jy,c]:Array Value).setIfInBounds v d))))->JM () {s with heap:=a}):wpAny (model prog w) Q (updateSeq (q+4) (·.setIfInBounds v d)) JM I4 s:=
 ald (dQ b.1 f) fun a e g=>h a (ls b (by decide) g ⟨_,e,rfl⟩)
theorem lu{h0:Heap}(b:Zs h0 s.heap q Kk)(e:Kk[5]? =some (fM (kP Jc)))(d:v<Jc.size)
(g:∀a,Zs h0 a q (Kk.set 5 (fM (kP (Jc.setIfInBounds v G))))->JM () {s with heap:=a}):wpAny (model prog w) Q (setField (.ref (q+5)) v G) JM I4 s:=
 RY (dQ b.1 e) d fun a c f=>g a (ls b (by decide) f ⟨_,c,rfl⟩)
noncomputable abbrev dh(b:Heap)(m:Nat)(d e f:Nat)(k l n:Array Value)(c:Nat)(j:Value)(a:Nat):Prop:=m=a+5/\(∃g h i,gR b a (eD a d e f c c c g h i j))/\b.IsList d k/\b.IsList e l/\b.IsList f n/\d<a/\e<a/\f<a
theorem dh.HC{b:Nat}{a:Nat}(c:dh I q v Jd JH Jc JF Ke b G a):q=a+5:=c.1
theorem dh.HD{c:Nat}{a:Nat}(d:dh I q v Jd JH Jc JF Ke c G a):IsZip I (a+5) (a+3) (a+4) G:=exe3 d.2.1 fun x x x b=>dQ (i:=5) b rfl
theorem dh.keep{e:Nat}{d:Nat}(j:dh I q v Jd JH Jc JF Ke e G d)(c:∀(b:Nat)a,b<d+6->I.get? b=some a->JR.get? b=some a):
  dh JR q v Jd JH Jc JF Ke e G d:=by
 obtain⟨m,⟨k,b,l,i⟩,n,o,p,f,g,h⟩:=j;exact⟨m,⟨k,b,l,pF i rfl c⟩,n.at fun a=>c _ a (So 6 f),o.at fun a=>c _ a (So 6 g),p.at fun a=>c _ a (So 6 h),f,g,h⟩
theorem aph{a c:Nat}{g:Value}
(b:dh s.heap q v Jd JH Jc JF Ke a .none c)(E:Jc[a]? =some G)(H:JF[a]? =some Jy)(D:Ke[a]? =some g)
(Hl:∀h,dh h q v Jd JH Jc JF Ke (a+1) (rawInt s.heap.objs.size) c->lI h s.heap.objs.size G Jy g->h.objs.size=s.heap.objs.size+1->
   (∀(d:Nat)f,(d<c\/c+6<=d)->s.heap.get? d=some f->h.get? d=some f)->JX (.ref s.heap.objs.size) {s with heap:=h}):
  wpAny (model prog w) Q (Builtin.«zip.__next__» ⟨[.ref q],[]⟩) (fun C J=>∃A,C=.done (.ret A)/\JX A J) I4 s:=by
 obtain⟨rfl,⟨t,k,d,n⟩,u,x,y,o,p,r⟩:=b;have m:=dQ (i:=5) n rfl;show wpAny _ _ (field (.ref (c+5)) 2>>=_) _ _ _;refine M9 (ON m rfl (x:=.bool false) rfl ?_);refine M9 (ON m rfl (x:=.ref (c+3)) rfl ?_);refine M9 (O3 (dQ (i:=3) n rfl) rfl ?_);refine M9 ?_;refine M9 (ON m rfl (x:=.none) rfl (Nc ?_));rw[if_pos rfl];refine M9 (OF ?_);refine M9 (ON m rfl (x:=.ref (c+4)) rfl ?_);refine M9 (lu (h0:=s.heap) ⟨n,fun X X X e=>e,rfl⟩ rfl (by simp) fun L(b:Zs _ _ _ (eD c v Jd JH a a a t k d .ellipsis))=>?_);refine M9 (ll ?_);refine M9 (M9 (Qb ?_));refine M9 (oY (i:=0) b (by decide) rfl u o E fun M(b:Zs _ _ _ (eD c v Jd JH (a+1) a a t k d .ellipsis))=>Nc ?_);refine M9 (O3 (dQ (i:=4) b.1 rfl) rfl ?_);refine M9 (oZ b rfl fun N(b:Zs _ _ _ (eD c v Jd JH (a+1) a a G k d .ellipsis))=>?_);refine M9 (wpAny_letGo (Nc ?_));refine ll (M9 (M9 (Qb ?_)));refine M9 (oY (i:=1) b (by decide) rfl x p H fun O(b:Zs _ _ _ (eD c v Jd JH (a+1) (a+1) a G k d .ellipsis))=>Nc ?_);refine M9 (O3 (dQ (i:=4) b.1 rfl) rfl ?_);refine M9 (oZ b rfl fun T(b:Zs _ _ _ (eD c v Jd JH (a+1) (a+1) a G Jy d .ellipsis))=>?_);refine M9 (wpAny_letGo (Nc ?_));refine ll (M9 (M9 (Qb ?_)));refine M9 (oY (i:=2) b (by decide) rfl y r D fun U(b:Zs _ _ _ (eD c v Jd JH (a+1) (a+1) (a+1) G Jy d .ellipsis))=>Nc ?_);refine M9 (O3 (dQ (i:=4) b.1 rfl) rfl ?_);refine M9 (oZ b rfl fun I(b:Zs _ _ _ (eD c v Jd JH (a+1) (a+1) (a+1) G Jy g .ellipsis))=>?_);refine M9 (wpAny_letGo (Nc (am7 ?_)));refine M9 (O3 (dQ (i:=4) b.1 rfl) rfl ?_);refine M9 (wpAny_newTuple ?_);refine cv b.2.2 ?_;refine M9 ?_;refine M9 (lu (h0:=I.push (i6 #[G,Jy,g])) ⟨pF b.1 rfl fun X X X e=>Nr _ e,fun X X X e=>e,rfl⟩ rfl (by simp) fun V(B:Zs _ _ _ (eD c v Jd JH (a+1) (a+1) (a+1) G Jy g (rawInt s.heap.objs.size)))=>?_);refine lu B rfl (by simp) fun HG(j:Zs _ _ _ (eD c v Jd JH (a+1) (a+1) (a+1) G Jy g (rawInt s.heap.objs.size)))=>?_;refine Nc ⟨_,rfl,?_⟩;have l:=fun d f z e=>j.2.1 d f z (Nr _ (b.2.1 d f z e));exact Hl HG ⟨rfl,⟨_,_,_,j.1⟩,u.at fun f e=>l _ f (.inl o) e,x.at fun f e=>l _ f (.inl p) e,y.at fun f e=>l _ f (.inl r) e,o,p,r⟩
  (b.2.2▸j.2.1 _ _ (.inr (NE (dQ (i:=5) b.1 rfl))) (Ny _ rfl)) (j.2.2.trans ((Od ..).trans (congrArg (·+1) b.2.2))) l
theorem apg{f a:Nat}{t:Fin->Shared->Prop}(A:Q.handled=none)
(e:dh s.heap q v Jd JH Jc JF Ke f .none a)(B:Jc[f]? =none)
(Hi:∀j d,(∀(c:Nat)b,(c<a\/a+6<=c)->s.heap.get? c=some b->j.get? c=some b)->(∃b,j.get? d=some b/\b.cls=.type "StopIteration")->I4 (.ref d) {s with heap:=j}):
  wpAny (model prog w) Q (Builtin.«zip.__next__» ⟨[.ref q],[]⟩) t I4 s:=by
 obtain⟨rfl,⟨u,x,c,h⟩,y,J,L,I,M,N⟩:=e;have g:=dQ (i:=5) h rfl;show wpAny _ _ (field (.ref (a+5)) 2>>=_) _ _ _;refine M9 (ON g rfl (x:=.bool false) rfl ?_);refine M9 (ON g rfl (x:=.ref (a+3)) rfl ?_);refine M9 (O3 (dQ (i:=3) h rfl) rfl ?_);refine M9 ?_;refine M9 (ON g rfl (x:=.none) rfl (Nc ?_));rw[if_pos rfl];refine M9 (OF ?_);refine M9 (ON g rfl (x:=.ref (a+4)) rfl ?_);refine M9 (lu (h0:=s.heap) ⟨h,fun O O O d=>d,rfl⟩ rfl (by simp) fun C(e:Zs _ _ _ (eD a v Jd JH f f f u x c .ellipsis))=>?_);refine M9 (ll ?_);refine M9 (M9 (Qb ?_));refine M9 (wpAny_nextOf_list_end A (e.1 0 _ rfl:C.IsListIter a v f) (y.at fun b d=>e.2.1 _ b (.inl I) d) B fun D d o z=>?_);obtain⟨G,l,n⟩:=z;have r:IsZip D (a+5) (a+3) (a+4) .ellipsis:=o _ _ (Iu fun H=>nomatch Nat.add_left_cancel (k:=0) H) (dQ (i:=5) e.1 rfl);refine RY r (by simp) fun E O p=>Hi E d (fun c b k m=>p.extBut _ _ (nF k (by decide)) (o _ _ (nF (i:=0) k (by decide)) (e.2.1 c b k m))) ⟨G,p.extBut _ _ (fun m=>by rw[m,r]at l;exact(by decide:¬Value.type "zip"=.type "StopIteration") ((congrArg Obj.cls (NM l)).trans n)) l,n⟩
theorem agh{b d:Nat}{g:Value}
(e:dh s.heap q v Jd JH Jc JF Ke b .none d)(m:Jc[b]? =some G)(n:JF[b]? =some Jy)(l:Ke[b]? =some g)
(Hl:∀a,dh a q v Jd JH Jc JF Ke (b+1) (rawInt s.heap.objs.size) d->lI a s.heap.objs.size G Jy g->a.objs.size=s.heap.objs.size+1->
   (∀(c:Nat)f,(c<d\/d+6<=c)->s.heap.get? c=some f->a.get? c=some f)->J6 (some (.ref s.heap.objs.size)) {s with heap:=a}):wpAny (model prog w) Q (pyNext (.ref q)) J6 I4 s:=by
 have GX:s.TypeIs (.ref q) "zip":=⟨_,by rw[e.HC];exact e.HD,rfl⟩
 exact M9 (PW (Pu (name:=Str.ofString "__next__") GX Q9
  (On Q9 GX F.entry_zip_next (aph e m n l fun a h i j k=>Nc (Hl a h i j k)) (F.args_zip_next_1 _))))
theorem agi{g f:Nat}(j:Q.handled=none)
(d:dh s.heap q v Jd JH Jc JF Ke g .none f)(l:Jc[g]? =none)
(Hl:∀e,(∀(a:Nat)c,(a<f\/f+6<=a)->s.heap.get? a=some c->e.get? a=some c)->J6 none {s with heap:=e}):wpAny (model prog w) Q (pyNext (.ref q)) J6 I4 s:=by
 have GX:s.TypeIs (.ref q) "zip":=⟨_,by rw[d.HC];exact d.HD,rfl⟩
 refine M9 (PW (Pu (name:=Str.ofString "__next__") GX Q9
  (On Q9 GX F.entry_zip_next (apg j d l fun e m k i=>?_) (F.args_zip_next_1 _))))
 refine ah i fun c h=>?_;refine M9 (QY (T:="StopIteration") (b:=true) ⟨c,h.1,h.2⟩ RX ?_);exact Nc (Hl _ k)
theorem FG{z}{j:Nat}{g a:Nat}(p:dh s.heap q v Jd JH Jc JF Ke g (rawInt j) a)
(Hl:∀f,dh f q v Jd JH Jc JF Ke g .none a->f.objs.size=s.heap.objs.size->(∀(c:Nat)b,(c<a\/a+6<=c)->s.heap.get? c=some b->f.get? c=some b)->JM () {s with heap:=f}):
  wpAny (model prog w) Q (letOwnedTupleGo (.Tuple IS z N) (.ref q) (.ref j)) JM I4 s:=by
 obtain⟨rfl,⟨k,l,c,h⟩,r,t,u,m,n,o⟩:=p;refine wpAny_letOwnedTupleGo_zip (TI:=a+3) (TO:=a+4) (dQ (i:=5) h rfl) fun f y x=>?_;have e:Zs _ _ _ (eD a v Jd JH g g g k l c .none):=ls (h0:=s.heap) (i:=5) (P:=fM (kP #[.none,.bool false,.bool false,.ref (a+3),.ref (a+4)])) ⟨h,fun C C C d=>d,rfl⟩ (by decide) x ⟨_,y,rfl⟩;exact Hl f ⟨rfl,⟨k,l,c,e.1⟩,r.at fun b d=>e.2.1 _ b (.inl m) d,t.at fun b d=>e.2.1 _ b (.inl n) d,u.at fun b d=>e.2.1 _ b (.inl o) d,m,n,o⟩ e.2.2 e.2.1
end
noncomputable abbrev oU(a:Heap)(b:Addr):Heap:=a.push {cls:=.type "list_iterator",data:=.fields #[.ref b,.int 0 0]}
noncomputable abbrev oV(a:Heap)(b c:Addr):Heap:=(oU a b).push {cls:=.type "list_iterator",data:=.fields #[.ref c,.int 0 0]}
noncomputable abbrev oW(a:Heap)(b c d:Nat):Heap:=(oV a b c).push {cls:=.type "list_iterator",data:=.fields #[.ref d,.int 0 0]}
noncomputable abbrev lq(a:Heap)(b c d:Nat):Heap:=(oW a b c d).push {cls:=.type "tuple",data:=.seq #[.ref a.objs.size,.ref (oU a b).objs.size,.ref (oV a b c).objs.size]}
noncomputable abbrev oX(a:Heap)(b c d:Nat):Heap:=(lq a b c d).push {cls:=.type "tuple",data:=.seq #[.none,.none,.none]}
noncomputable abbrev lr(a:Heap)(b c d:Nat):Heap:=(oX a b c d).push {cls:=.type "zip",data:=.fields #[.none,.bool false,.bool false,.ref (oW a b c d).objs.size,.ref (lq a b c d).objs.size]}
theorem Gj(b c d:Nat)(g h i:Array Value):
  Meets (Builtin.«zip.__new__» ⟨[.type "zip",.ref b,.ref c,.ref d],[]⟩) (fun x R a=>a.heap.IsList b g/\a.heap.IsList c h/\a.heap.IsList d i/\
   R (.ok (.ret (.ref (oX a.heap b c d).objs.size))) {a with heap:=lr a.heap b c d}):=
 .of_wp fun prog w j R a f=>by
  obtain⟨m,l,k,o,os⟩:=a;refine oR f fun e=>?_;have n:=sub_zip
  wp_walk using PJ e.1,PJ (Heap.IsList.push e.2 _),PJ (Heap.IsList.push (Heap.IsList.push e.3 _) _)
  exact⟨_,rfl,e.4⟩
theorem yQ(f:p.heap.IsList q Jc)(g:p.heap.IsList v JF)(h:p.heap.IsList Jd Ke)
(A:∀d u i,dh d u q v Jd Jc JF Ke 0 .none i->i=p.heap.objs.size->d.objs.size=i+6->(∀(c:Nat)a,p.heap.get? c=some a->d.get? c=some a)->JX (.ref u) {p with heap:=d}):
  wpAny (model prog w) Q (call (.type "zip") [.ref q,.ref v,.ref Jd]) JX I4 p:=by
 refine callType_new F.called_zip (by decide) (alc _ _ _) (aaj _ _ _) (fun B=>w9 B _ _ _) F.entry_zip_new
  (Gj q v Jd Jc JF Ke) ⟨f,g,h,?_⟩
 have j:(oU p.heap q).objs.size=p.heap.objs.size+1:=Od ..;have k:(oV p.heap q v).objs.size=p.heap.objs.size+2:=by rw[Od,j]
 have l:(oW p.heap q v Jd).objs.size=p.heap.objs.size+3:=by rw[Od,k]
 have m:(lq p.heap q v Jd).objs.size=p.heap.objs.size+4:=by rw[Od,l]
 have n:(oX p.heap q v Jd).objs.size=p.heap.objs.size+5:=by rw[Od,m]
 have t:∀(c:Nat)a,(lq p.heap q v Jd).get? c=some a->(lr p.heap q v Jd).get? c=some a:=fun c a b=>(fun c a b=>Nr _ b) c a (Nr _ b);have s:=fun c a b=>t c a (Nr _ b);have r:=fun c a b=>s c a (Nr _ b);have o:=fun c a b=>r c a (Nr _ b);have e:=fun c a b=>o c a (Nr _ b);have x:q<p.heap.objs.size:=by refine ah f fun G C=>?_;exact NE C.1
 have y:v<p.heap.objs.size:=by refine ah g fun G D=>?_;exact NE D.1
 have z:Jd<p.heap.objs.size:=by refine ah h fun G E=>?_;exact NE E.1
 refine⟨⟨_,Ny _ rfl,rfl⟩,?_⟩;exact A (lr p.heap q v Jd) _ p.heap.objs.size ⟨n,⟨.none,.none,.none,
  ho ⟨_,o _ _ (Ny _ rfl),rfl,rfl⟩ (ho (j▸⟨_,r _ _ (Ny _ rfl),rfl,rfl⟩) (ho (k▸⟨_,s _ _ (Ny _ rfl),rfl,rfl⟩)
   (ho ⟨_,(by rw[<-l];exact t _ _ (Ny _ rfl)),by rw[j,k];rfl⟩ (ho ⟨_,(by rw[<-m];exact(fun c a b=>Nr _ b) _ _ (Ny _ rfl)),rfl⟩
    (ho ⟨_,(by rw[<-n];exact Ny _ rfl),by rw[l,m];rfl⟩ fun G G b=>nomatch b)))))⟩,
  f.at fun a b=>e _ a b,g.at fun a b=>e _ a b,h.at fun a b=>e _ a b,x,y,z⟩ rfl (by rw[Od,n]:(lr p.heap q v Jd).objs.size=p.heap.objs.size+6) e
section
variable{K:List Str}{S:aa}
theorem LR.adopt(a:LR S I){D:Addr}(i:I.PlainList D Jc)(k:ao I Jc.toList z)(h:base.get? D=none)(j:D∉aK S):LR ((D,.list z)::S) I:=by
 refine⟨fun l d=>?_,?_,fun f b=>?_,fun e m c=>?_,a.keep⟩
 ·rcases Nk.mp d with rfl|d
  ·exact⟨Jc,i,k⟩
  ·exact a.objs l d
 ·rw[h1];exact ND.mpr ⟨j,a.nodup⟩
 ·replace b:=h1▸b;rcases Nk.mp b with rfl|b
  ·exact h
  ·exact a.fresh f b
 ·rcases Nk.mp c with g|c
  ·cases g
  ·exact a.fix e m c
theorem SR.adopt(b:SR e t S p){D:Addr}{H:Heap}{tk:Nat}(c:p.heap.get? D=none)(f:aV p.heap H)(i:H.PlainList D Jc)(j:ao H Jc.toList z):
  SR e t ((D,.list z)::S) {p with heap:=H,toks:=tk}/\aq [] p S {p with heap:=H,toks:=tk} ((D,.list z)::S):=by
 have g:aq [] p S {p with heap:=H,toks:=tk} ((D,.list z)::S):=⟨⟨_,_,_,rfl⟩,fun d k h x x=>f d k h,fun d a=>by
  replace a:=h1▸a
  rcases Nk.mp a with rfl|a
  ·exact .inr c
  ·exact .inl a⟩
 exact⟨b.behind g ((b.ext f).led.adopt i j (b.dead c).2.2 (b.dead c).2.1),g⟩
noncomputable def dg(c b d:List Int)(a:Nat):Int:=if b.getD a 0=c.getD a 0 then d.getD a 0 else b.getD a 0
theorem m6(d:ao I Jc.toList (j.map .int)){i:Nat}(b:i<j.length):∃c,Jc[i]? =some (.int (j.getD i 0) c):=by
 obtain⟨a⟩:=Jc;have:∀(a:List Value)(j:List Int)(i:Nat),ao I a (j.map .int)->i<j.length->∃c,a[i]? =some (.int (j.getD i 0) c):=by
  intro a j;induction j generalizing a with
  |nil=>intro i _ b;exact absurd b (Nat.not_lt_zero _)
  |cons h j g=>
   intro i d b;cases d with
   |cons e f=>
    cases i with
    |zero=>cases e with|int _ c=>exact⟨c,rfl⟩
    |succ i=>exact g _ i f (S1 b)
 simpa using this a j i d b
theorem apj{d:Str->Option Value}{q r s t:Pos}{e:Int}{v i j:Tok}(b:Jq.scope.kind=.function)
(l:Jq.kindOf "here"=some .local)(f:Jq.kindOf "left"=some .local)(m:Jq.kindOf "right"=some .local)(c:p.heap.Ns Jq.locals d)(n:d "here"=some (.int k v))(g:d "left"=some (.int IY i))(o:d "right"=some (.int e j))
(h:∀u,JX (.int (if IY=k then e else IY) u) p):wpAny (model prog w) Q (eval (.IfExp (.Compare (.Name "left" N) [.Eq] [.Name "here" I9] q) (.Name "right" r) (.Name "left" s) t) Jq) JX I4 p:=by
 refine wpAny_IfExp (wpAny_isTrue_Compare1 (O7 (PF b f c g (O7 (PF b l c n (eq_int (Pq ?_)))))));by_cases a:IY=k
 ·rw[show(IY==k)=true from beq_iff_eq.mpr a];rw[if_pos rfl];refine O7 (PF b m c o ?_);have:=h j;rwa[if_pos a]at this
 ·rw[show(IY==k)=false from beq_eq_false_iff_ne.mpr a];rw[if_neg Oe];refine O7 (PF b f c g ?_);have:=h i;rwa[if_neg a]at this
theorem api{scope:Scope}{iter:Expr}{Ls Lm Ln Lo Lp Lq Lr gH gI gJ HQ:Pos}{H:List Int}(Mm:G9 e l K Jb Jz)
(LW:(scope.names.all fun KX=> !(KX.2==.cell)&&(!(KX.2==.free)||Jz.contains KX.1))=true)(Mp:(scope.names.map (fun x=>x.1)).Nodup)(y:scope.kind=.function)(Lc:e.A.handled=none)
(Lg:scope.names.lookup ("here":Str)=some .local)(Lh:scope.names.lookup ("left":Str)=some .local)(Li:scope.names.lookup ("right":Str)=some .local)
(L4:SR e t S p)(LI:p.heap.IsList v Jc)(LJ:p.heap.IsList Jd JF)(LK:p.heap.IsList JH Ke)(Lv:ao p.heap Jc.toList (j.map .int))(Mf:ao p.heap JF.toList (O.map .int))(Mg:ao p.heap Ke.toList (H.map .int))
(LG:j.length=O.length)(LH:j.length=H.length)(LS:j.length<=sizeLine)
(LL:∀I J o,SR e t ((I,.list (((List.range j.length).map (dg j O H)).map .int))::S) o->aq [] p S o ((I,.list (((List.range j.length).map (dg j O H)).map .int))::S)->p.heap.get? J=none->(∃D,o.heap.Ns J D)->J≠I->KM (.ref I) J (.ok .next) o):
  wpAny (model prog w) e.A (call (.type "zip") [.ref v,.ref Jd,.ref JH]) (fun Me L8=>wpAny (model prog w) e.A (pyIter Me) (fun LY L9=>wpAny (model prog w) e.A (newList []) (fun K8 Ma=>
   wpAny (model prog w) e.A (newFunctionEnv scope e.env.globals (d7 e.env scope.names []) [] e.env.qual none .none (some e.env)) (fun K9 Mb=>
    codeAny (model prog w) e.A (.compStart (.ListComp (.IfExp (.Compare (.Name "left" Lm) [.Eq] [.Name "here" Ln] Lo) (.Name "right" Lp) (.Name "left" Lq) Lr) [⟨.Tuple [.Name "here" gH,.Name "left" gI,.Name "right" gJ] q HQ,iter,[],0⟩] scope Ls) 0 LY K8 {K9 with scope:=relabel scope e.env}) (KM K8 K9.locals) Mb) a4 Ma) a4 L9) a4 L8) a4 p:=by
 refine aW (iR Jz LW) fun Mk=>?_;refine yQ LI LJ LK fun LX K1 d L u KY Lk=>?_;have KW:=L.HD;rw[<-L.HC]at KW;refine wpAny_pyIter_zip KW ?_;refine Ou (wpAny_newFunctionEnv Mk.2 (by intro Mt LU;simp at LU) (fun n KV N=>?_) y);generalize z:LX.push {cls:=.type "list",dict:=none,data:=.seq ([]:List Value).toArray}=Lf at*;have Lu:Lf.objs.size=d+7:=by rw[<-z,Od,KY]
 rw[Lu]at KV N⊢;rw[KY];have L7:n.objs.size=d+8:=by rw[N.1,Od,Lu]
 have U:∀(a:Nat)b,a≠d+7->Lf.get? a=some b->n.get? a=some b:=fun a b m c=>N.extBut a b m (Nr _ c);have L2:∀(a:Nat)b,p.heap.get? a=some b->n.get? a=some b:=fun a b c=>by
  have k:a<p.heap.objs.size:=NE c;exact U a b (NH (mf k (mf (Nd u.symm) (Nv _ _)))) (by rw[<-z];exact Nr _ (Lk a b c))
 have Z:=L.keep fun a b m c=>U a b (NH (mf m (Om (NQ rfl) _))) (by rw[<-z];exact Nr _ c);have Ly:n.PlainList (d+6) #[]:=⟨0,U _ _ (NH (Ni _)) (by rw[<-z,<-KY];exact Ny _ rfl)⟩
 have LB:n.Ns (d+7) fun _=>none:=by simpa using KV
 clear KV N L Lk z U KW;have x:∀G,scope.names.lookup G=some .local->(aR e scope (d+7)).env.kindOf G=some .local:=fun G c=>by
  refine Eq.trans (b:=some (if(NameKind.local==.free&&e.env.scope.kind==.function&&e.env.kindOf G==some .cell)then .cell else .local)) ?_ rfl;show(relabel scope e.env).names.lookup G=_;rw[oc];exact nq (env:=e.env) (f:=fun A L3=>if(A==.free&&e.env.scope.kind==.function&&e.env.kindOf L3==some .cell)then .cell else A) c
 have La:∀a:Nat,d<=a->p.heap.get? a=none:=fun a m=>NW (mf (Nd u.symm) m);generalize Ld:({p with heap:=n,toks:=p.toks+([]:List (Str×Value)).length}:Shared)=KZ at*;have Ll:codeAny (model prog w) e.A (.compLoop (.ListComp (.IfExp (.Compare (.Name "left" Lm) [.Eq] [.Name "here" Ln] Lo) (.Name "right" Lp) (.Name "left" Lq) Lr) [⟨.Tuple [.Name "here" gH,.Name "left" gI,.Name "right" gJ] q HQ,iter,[],0⟩] scope Ls) 0 (.ref K1) (.ref (d+6)) (aR e scope (d+7)).env) (KM (.ref (d+6)) (d+7)) KZ:=by
  refine pV (fun A o=>∃i h r D Q,o={p with heap:=h,toks:=r}/\A=j.length+1-i/\i<=j.length/\dh h K1 v Jd JH Jc JF Ke i .none d/\h.PlainList (d+6) Q/\(∀KS:Heap,ao KS Q.toList (((List.range i).map (dg j O H)).map .int))/\
    h.Ns (d+7) D/\(∀(a:Nat)b,p.heap.get? a=some b->h.get? a=some b)/\d+8<=h.objs.size) ?_ (j.length+1) ⟨0,n,_,_,_,(⟨_,Ld.symm⟩:∃Md,KZ={p with heap:=n,toks:=Md}).choose_spec,rfl,NN _,Z,Ly,fun _=>.nil,LB,L2,by exact Nd L7.symm⟩
  rintro A o ⟨i,h,r,D,Q,rfl,rfl,LO,K7,K2,Y,K4,K3,X⟩;rcases Rd i j.length with s|LN
  ·obtain⟨Mq,Mh⟩:=m6 Lv s;obtain⟨Mr,Mi⟩:=m6 Mf (i:=i) (mf s (Nd LG));obtain⟨Ms,Mj⟩:=m6 Mg (i:=i) (mf s (Nd LH));refine agh (s:={p with heap:=h,toks:=r}) K7 Mh Mi Mj fun M LD LC L5 B=>?_;refine FG (s:={p with heap:=M,toks:=r}) LD fun m LF E Lj=>?_;have K6:=Lj _ _ (.inr (show d+6<=h.objs.size by exact mf (Om (NQ rfl) _) X)) LC;refine wpAny_assign_Tuple (s:={p with heap:=m,toks:=r}) Lc (items:= #[_,_,_]) ⟨_,K6,rfl,_,rfl⟩ rfl rfl fun KT C=>?_;have C:∀(a:Nat)b,a<m.objs.size->m.get? a=some b->KT.get? a=some b:=fun a b k c=>C a b (Iu fun g=>by exact Pe (Nd g.symm) k) c;have E:m.objs.size=h.objs.size+1:=by rw[E,L5]
   have K0:∀(a:Nat)b,(a<d\/d+6<=a)->h.get? a=some b->KT.get? a=some b:=fun a b g c=>C a b (by have:=(fun a b c=>NE c) a b c;exact mf (Np (Nq this) 1) (Nd E.symm)) (Lj a b g (B a b g c));show wpAny _ _ (assignInOrder [assign (.Name "here" gH) (aR e scope (d+7)).env,assign (.Name "left" gI) (aR e scope (d+7)).env,assign (.Name "right" gJ) (aR e scope (d+7)).env] [_,_,_]) _ _ _;refine Sp (PI (QC (x _ Lg) (K4.at' fun b c=>K0 _ b (.inr (Om (NQ rfl) _)) c) (fun Mn LA LZ=>?_) (by rw[y];rfl)));refine Sp (PI (QC (x _ Lh) LA (fun Mo Ne L0=>?_) (by rw[y];rfl)));refine Sp (PI (QC (x _ Li) Ne (fun KU K5 L1=>?_) (by rw[y];rfl)));refine assignInOrder_nil ?_;have T:∀(a:Nat)b,a≠d+7->KT.get? a=some b->KU.get? a=some b:=fun a b g c=>L1.extBut a b g (L0.extBut a b g (LZ.extBut a b g c));have L6:h.objs.size<=KU.objs.size:=by
    exact Nq (NE (T _ _ (PY X) (C _ _ (Nd E.symm) K6)))
   refine wpAny_tests_nil ?_;rw[if_pos rfl];refine apj y (x _ Lg) (x _ Lh) (x _ Li) K5 rfl rfl rfl fun Mc=>?_;have LP:Q.size=i:=by
    have:=(Y KU).length;rw[Nb,Nb,NS]at this;simpa using this
   refine Rk (K2.at fun b c=>T _ b (NH (Ni _)) (K0 _ b (.inr (Ni _)) c)) (fun LM Lx V=>?_) (by rw[LP];exact mf (Nq s) LS);refine⟨j.length+1-(i+1),jO s,i+1,LM,_,_,_,rfl,rfl,s,(LF.keep fun a b k c=>T a b (NH (mf k (Om (NQ rfl) _))) (C a b (mf (mf k (mf (mf (Om (NQ rfl:6<=8) _) X) (Nv _ _))) (Nd E.symm)) c)).keep fun a b k c=>V.extBut a b (by intro g;exact Pe (Nd g.symm) k) c,Lx,fun KS=>?_,K5.at' fun b c=>V.extBut _ b (by intro g;exact Pe (Nd g) (Ni _)) c,fun a b c=>?_,?_⟩
   ·rw[Qe,Qr,Ng,Ng];refine(Y KS).append (.cons ?_ .nil);exact .int _ Mc
   ·have k:a<p.heap.objs.size:=NE c;exact V.extBut a b (by intro g;exact Pe (Nd g.symm) (mf k (mf (Nd u.symm) (Nv _ _)))) (T a b (NH (mf k (mf (Nd u.symm) (Nv _ _)))) (K0 a b (.inl (mf k (Nd u.symm))) (K3 a b c)))
   ·rw[V.1];exact mf X L6
  ·have Lb:=OY LO LN;have LQ:Jc[i]? =none:=by
    exact PX (Nd ((Lv.length.trans (Nb ..)).trans Lb.symm))
   refine agi (s:={p with heap:=h,toks:=r}) Lc K7 LQ fun M B=>?_;have Lz:=fun a b c=>by
    exact B a b (.inl (mf (NE c) (Nd u.symm))) (K3 a b c)
   refine aW (L4.adopt (D:=d+6) (H:=M) (tk:=r) (La _ (Nv _ _)) Lz (K2.at fun b c=>B _ b (.inr (Ni _)) c) (Lb▸Y M)) fun Lw=>?_;exact LL _ _ _ Lw.1 Lw.2 (La _ (Nv _ _)) ⟨D,K4.at' fun b c=>B _ b (.inr (Om (NQ rfl) _)) c⟩ (by intro g;exact Pe (Nd g) (Ni _))
 have Ml:IsZip KZ.heap K1 (d+3) (d+4) .none:=by rw[<-Ld,Z.HC];exact Z.HD
 exact codeAny_compStart_list Ll (wpAny_pyIter_zip Ml Ll)
theorem akh(e:ao I Ja [.ref d,.ref H,.ref IX]):Ja=[.ref d,.ref H,.ref IX]:=by
 obtain⟨f,g,h,rfl,a,b,c⟩:=e.three;rw[a.dr,b.dr,c.dr]
theorem alb(a:Addr):Value.type JY≠ .ref a:=nofun
theorem yf{g:Expr}{Lq G k Lk Ll Lm Ln Lo Lp gH gI gJ HQ:Pos}(M:G9 e l K Jb Jz)(Lu:aw e.A q)
(V:(KR.names.all fun E=> !(E.2==.cell)&&(!(E.2==.free)||Jz.contains E.1))=true)(T:(KR.names.map (fun x=>x.1)).Nodup)
(Y:(KR.names.lookup ("here":Str)==some .local&&KR.names.lookup ("left":Str)==some .local&&KR.names.lookup ("right":Str)==some .local)=true)
(A:GK e (eval (.Name "zip" G) e.env) VR t S fun J KY I=>J=.raw (.type "zip")/\GK e (spliced (backTo k (starEach [o,X,g] e.env))) ao KY I fun L H h=>
 ∃(s u x:Addr)(b m n:List Int),L=[.ref s,.ref u,.ref x]/\cf h s (b.map .int)/\cf h u (m.map .int)/\cf h x (n.map .int)/\b.length=m.length/\b.length=n.length/\b.length<=sizeLine/\
  ∀d,B (.ref d) H ((d,.list (((List.range b.length).map (dg b m n)).map .int))::h))
(K8:autoParam (starEach [o,X,g] e.env=(false,eval o e.env)::starEach [X,g] e.env) aP)(K9:autoParam ((backTo k (starEach [X,g] e.env)).any (fun x=>x.1)=false) aP)
(N:autoParam (KR.kind=.function) aP)(Lb:autoParam (∀i,foldedSetIterable (.Call (.Name "zip" G) [o,X,g] [] k) e.env i=pure i) ic):
  GK e (eval (.ListComp (.IfExp (.Compare (.Name "left" Lk) [.Eq] [.Name "here" Ll] Lm) (.Name "right" Ln) (.Name "left" Lo) Lp) [⟨.Tuple [.Name "here" gH,.Name "left" gI,.Name "right" gJ] v HQ,.Call (.Name "zip" G) [o,X,g] [] k,[],0⟩] KR Lq) e.env) VR t S B:=by
 intro p Ls;simp only[Ox,beq_iff_eq]at Y;refine aW Y fun KU=>?_;obtain⟨Lg,Lh⟩:=KU.1;rw[eval_ListComp];refine Rl (use:=none) rfl Lb (l7 fun i D=>(M.ce i ((iR Jz V).1 _ D rfl)).2) N (fun i D j=>j▸np T i D) ?_;refine QE (A.run Ls fun Lw J KY I LB Ld KT Lx a=>?_);have z:Lw=.type "zip":=VR.iB (a.1▸Ld);refine cv z ?_;have a:=a.2;rw[K8]at a⊢;refine callWith_of (P:=fun A=>aV base A) (by show((false||(backTo k (starEach [X,g] e.env)).any (fun x=>x.1))||false)=false;rw[K9];rfl) (kq (f:=.type "zip") alb) (Qd (a.run KT fun KS L H h LC Lf c Lz Lr=>⟨c.led.keep,?_⟩));obtain⟨s,u,x,b,m,n,K3,K4,K5,K6,K1,K2,Lc,La⟩:=Lr;have z:KS=[.ref s,.ref u,.ref x]:=akh (K3▸Lf);refine cv z ?_;refine ah (c.led.listAt K4) fun KS KV=>?_;refine ah (c.led.listAt K5) fun LD KW=>?_;refine ah (c.led.listAt K6) fun LF KX=>?_;refine api M V T N Lu.GR Lg Lh KU.2 c KV.1 KW.1 KX.1 KV.2 KW.2 KX.2 K1 K2 Lc fun d KZ Z Lv Ly r⟨Li,O⟩K7=>?_;refine⟨Li,O,fun LA U=>?_⟩;have K0:KZ∉aK ((d,GL.list (((List.range b.length).map (dg b m n)).map .int))::h):=fun Q=>by
  rw[h1]at Q;rcases Nk.mp Q with a|a
  ·exact K7 a
  ·exact(c.dead r).2.1 a
 refine⟨.ref d,H,_,.ref d,Lv.dJ (tk:=Z.toks) (fun y Lj C j=>(U.2 y C).trans j) ⟨(c.dead r).1,K0,(c.dead r).2.2⟩ (hW O),?_,La d⟩;refine Lx.trans (Lz.trans ((Ly.dJ (tk:=Z.toks) r (fun y Lj C j=>(U.2 y C).trans j)).wide bs) c.alive) KT.alive
end
noncomputable def fJ(c:List Int)(b:List (Nat×Nat))(a:Nat):List (Nat×G1):=if(b.lookup a).isSome then[]else[(a,.del (c.getD a 0))]
noncomputable def iL(d:List Int)(c:List (Nat×Nat))(a:Nat):List (Nat×G1):=if c.any (fun b=>decide (b.2=a))then[]else[(a,.add (d.getD a 0))]
noncomputable def dE(b c:List Int)(a:List (Nat×Nat)):List (Nat×G1):=(List.range b.length).flatMap (fJ b a)++(List.range c.length).flatMap (iL c a)
theorem pl(d:cQ j O I0):(dE j O I0).map (fun c=>(c.1,c.2.cL))=cR j O I0:=by
 delta dE cR;rw[Ng,N9,N9];refine(congrArg (·++_) ?_).trans (congrArg (_++·) ?_)
 ·refine et fun a x=>?_;delta fJ dF;cases f:I0.lookup a with
  |none=>rfl
  |some b=>
   have e:j.getD a 0=O.getD b 0:=by simp only[List.getD];rw[((d.2 _ (bI f)).2.2)]
   show[]=if j.getD a 0=O.getD b 0 then[]else _;rw[if_pos e]
 ·refine et fun b x=>?_;delta iL d5
  split<;>rfl
theorem wU(a b:List (Nat×G1)):bi (a++b)=bi a++bi b:=by
 induction a with
 |nil=>rfl
 |cons g a c=>
  obtain⟨e,d⟩:=g;cases d with
  |add f=>exact congrArg ((e,f)::·) c
  |_=>exact c
theorem sN(c:Nat->Bool)(d:Nat->D)(b:List Nat):(b.flatMap fun a=>if c a=true then[]else[d a])=(b.filter fun a=> !c a).map d:=by
 induction b with
 |nil=>rfl
 |cons a b e=>rw[NO,Of,e];cases c a<;>rfl
theorem BJ(c:Nat->Bool)(d:Nat->D)(b:List Nat):(b.flatMap fun a=>if c a=true then[d a]else[])=(b.filter c).map d:=by
 induction b with
 |nil=>rfl
 |cons a b e=>rw[NO,Of,e];cases c a<;>rfl
theorem i1(d:List Int)(c:List (Nat×Nat))(b:List Nat):b.flatMap (fJ d c)=(b.filter fun a=> !(c.lookup a).isSome).map fun a=>(a,G1.del (d.getD a 0)):=sN ..
theorem oe(d:List Int)(c:List (Nat×Nat))(b:List Nat):b.flatMap (iL d c)=(b.filter fun a=> !(c.any fun e=>decide (e.2=a))).map fun a=>(a,G1.add (d.getD a 0)):=sN ..
theorem wV(c:Nat->Int)(b:List Nat):bi (b.map fun a=>(a,G1.del (c a)))=[]:=by
 induction b with
 |nil=>rfl
 |cons a b d=>exact d
theorem wT(c:Nat->Int)(b:List Nat):bi (b.map fun a=>(a,G1.add (c a)))=b.map fun a=>(a,c a):=by
 induction b with
 |nil=>rfl
 |cons a b d=>exact congrArg ((a,c a)::·) d
theorem jw(e b:List Int)(c:List (Nat×Nat)):bi (dE e b c)=((List.range b.length).filter fun a=> !(c.any fun d=>decide (d.2=a))).map fun a=>(a,b.getD a 0):=by
 unfold dE;rw[wU,i1,oe,wV,wT];rfl
theorem ku(a c:List Int)(b:List (Nat×Nat)):b8 (dE a c b)=(List.range a.length).flatMap (fJ a b):=by
 delta dE b8;rw[i1,oe,O0,OW.mpr (OC.mpr fun x x=>rfl),OA.mpr (OC.mpr fun x x=>Oe),NU]
theorem E0(a:Nat)(d:a<j.length):eS j ((List.range j.length).flatMap (fJ j I0)) a=if(I0.lookup a).isSome=true then[j.getD a 0]else[]:=by
 unfold eS;rw[i1,kz (fun a=>G1.del (j.getD a 0))];by_cases b:(I0.lookup a).isSome=true
 ·rw[if_pos b,if_neg fun c=>by rw[NL,b]at c;exact nomatch c.2]
 ·rw[if_neg b,if_pos (NL.mpr ⟨NX.mpr d,by rw[Bool.eq_false_iff.mpr b];rfl⟩)]
theorem FZ:(I0.lookup q).isSome=true↔q∈I0.map (fun x=>x.1):=by
 induction I0 with
 |nil=>exact⟨nofun,nofun⟩
 |cons d I0 c=>
  rw[NF,Nt,Nk];by_cases a:q=d.1
  ·rw[a,beq_self_eq_true];exact⟨fun x=>.inl rfl,fun x=>rfl⟩
  ·rw[beq_eq_false_iff_ne.mpr a];exact c.trans ⟨.inr,fun b=>b.resolve_left a⟩
theorem vo{l:List Nat}{c:Nat->Bool}(e:l.Pairwise (·<·))(f:∀a∈l,a<q)(g:∀a,c a=true↔a∈l):(List.range q).filter c=l:=by
 have d:((List.range q).filter c).Pairwise (·<·):=List.Pairwise.sublist Oq QV;refine n3 (·<=·) (fun h i=>OY) ((Qx (d.imp NH) (e.imp NH)).mpr fun a=>?_) (d.imp Nq) (e.imp Nq);rw[NL,g,NX];exact⟨fun b=>b.2,fun b=>⟨f a b,b⟩⟩
theorem tu(c:cQ j O I0):co j ((List.range j.length).flatMap (fJ j I0)) j.length=I0.map fun b=>O.getD b.2 0:=by
 unfold co;rw[et (g:=fun a=>if(I0.lookup a).isSome=true then[j.getD a 0]else[]) fun a e=>E0 a (NX.mp e),BJ];rw[vo (l:=I0.map (fun x=>x.1)) (Op.mpr (c.1.imp fun f=>f.1)) (OC.mpr fun b d=>(c.2 b d).1) fun a=>FZ,Nf];exact N7 fun b d=>congrArg (Option.getD · 0) (c.2 b d).2.2
theorem BC(e:I0.Pairwise fun a b=>a.2<b.2){a:Nat×Nat}(c:a∈I0):(I0.filter fun b=>decide (a.2<=b.2))=a::I0.filter fun b=>decide (a.2+1<=b.2):=by
 induction I0 with
 |nil=>cases c
 |cons b I0 h=>
  rcases Nk.mp c with rfl|c
  ·rw[Of,if_pos (decide_eq_true (Ni _)),Of,if_neg fun d=>Nat.not_succ_le_self _ (of_decide_eq_true d)];exact congrArg (a::·) (OQ fun f g=>by rw[decide_eq_true (Nq ((OL.mp e).1 f g)),decide_eq_true (show a.2+1<=f.2 from(OL.mp e).1 f g)])
  ·have:=(OL.mp e).1 a c;rw[Of,if_neg fun d=>Si this (of_decide_eq_true d),Of,if_neg fun d=>Si this (Sj (of_decide_eq_true d))];exact h (OL.mp e).2 c
theorem pq(g:cQ j O I0):I0.length+(bi (dE j O I0)).length=O.length:=by
 have c:(List.range O.length).filter (fun b=>I0.any fun a=>decide (a.2=b))=I0.map (fun x=>x.2):=by
  refine vo (Op.mpr (g.1.imp fun l=>l.2)) (OC.mpr fun a d=>(g.2 a d).2.1) fun b=>?_;rw[N8,Na];exact⟨fun e=>by refine ah e fun a h=>?_;have d:=h.1;have c:=h.2;exact⟨a,d,of_decide_eq_true c⟩,fun e=>by refine ah e fun a i=>?_;exact⟨a,i.1,decide_eq_true i.2⟩⟩
 have f:=List.length_eq_countP_add_countP (l:=List.range O.length) (fun b=>I0.any fun a=>decide (a.2=b));rw[NS,S2,S2,c,Nb]at f;rw[jw,Nb];refine Eq.trans ?_ f.symm;exact congrArg (fun k=>I0.length+List.length k) (OQ fun b x=>by cases I0.any fun a=>decide (a.2=b)<;>rfl)
theorem Gr{ys:List Int}(m:I0.Pairwise fun a e=>a.2<e.2)(d:Nat):∀b:Nat,b+d=ys.length->cq (((List.range ys.length).filter fun c=> !(I0.any fun a=>decide (a.2=c))).map fun c=>(c,ys.getD c 0)) d b ((I0.filter fun a=>decide (b<=a.2)).map fun a=>ys.getD a.2 0)=(List.range' b d).map fun c=>ys.getD c 0:=by
 induction d with
 |zero=>exact fun b x=>rfl
 |succ d o=>
  intro b j;have n:b<ys.length:=j▸Nat.lt_add_of_pos_right (PB d);have k:b+1+d=ys.length:=by rw[<-j,Rc];rfl
  rw[List.range'_succ,Nt,<-o (b+1) k];have g:=kz (fun c=>ys.getD c 0) b ((List.range ys.length).filter fun c=> !(I0.any fun a=>decide (a.2=c)));cases f:I0.any fun a=>decide (a.2=b)with
  |false=>
   rw[if_pos (NL.mpr ⟨NX.mpr n,by rw[f];rfl⟩)]at g;rw[ul g];have l:(I0.filter fun a=>decide (b<=a.2))=I0.filter fun a=>decide (b+1<=a.2):=
    OQ fun a h=>decide_eq_decide.mpr ⟨fun e=>QU e fun p=>List.any_eq_false.mp f a h (decide_eq_true p.symm),Sj⟩
   rw[l]
  |true=>
   obtain⟨a,h,i⟩:=N8.mp f;have i:=of_decide_eq_true i;rw[if_neg fun e=>by have:=(NL.mp e).2;rw[f]at this;exact nomatch this]at g;subst i;rw[BC m h,Nt,nv g]
theorem po(a:cQ j O I0):eH j (dE j O I0)=O:=by
 unfold eH;rw[ku,tu a,Nb,(pq a),jw];have:=Gr (ys:=O) (a.1.imp fun c=>c.2) O.length 0 (R9 _);rw[OW.mpr fun f x=>decide_eq_true (NN _)]at this;rw[this,<-List.range_eq_range'];refine Pa (by rw[Nb,NS]) fun e d b=>?_;rw[Qn,Ra];exact congrArg (Option.getD · 0) (N2 b)
theorem xh(e:cQ j O I0):d1 j (dE j O I0):=by
 have i:=pq e;refine⟨?_,?_,?_,?_⟩
 ·rw[jw,Nf];have f:((fun x=>x.1)∘fun d:Nat=>(d,O.getD d 0))=(id:Nat->Nat):=rfl;rw[f,Oi];exact Oq.nodup O6
 ·rw[ku,i1,Nf];rw[show((fun x=>x.1)∘fun c:Nat=>(c,G1.del (j.getD c 0)))=(id:Nat->Nat)from rfl,Oi];exact Oq.nodup O6
 ·rw[ku];intro l a;obtain⟨c,g,a⟩:=NJ.mp a;unfold fJ at a
  split at a
  ·exact nomatch a
  ·rw[Nj]at a;subst a;exact⟨NX.mp g,rfl⟩
 ·rw[ku,tu e,Nb,i];intro k b;replace b:=(jw _ _ _)▸b;obtain⟨d,h,rfl⟩:=Na.mp b;exact NX.mp (NL.mp h).1
noncomputable def ha(d:List Int)(b:List (Nat×G1))(a:Nat):Int:=match b.lookup a with
 |some (.set _ c)=>c
 |_=>d.getD a 0
noncomputable def hj(a:List (Nat×G1)):Prop:=∀b∈a,∃c d,b.2=.set c d
theorem pi:hj Jp->bi Jp=[]/\b8 Jp=Jp:=by
 induction Jp with
 |nil=>exact fun x=>⟨rfl,rfl⟩
 |cons d Jp e=>
  intro a;obtain⟨h,i,f⟩:=a d (.head _);obtain⟨g,j⟩:=d;subst f;exact⟨(e fun c b=>a c (.tail _ b)).1,congrArg (List.cons (g,G1.set h i)) (e fun c b=>a c (.tail _ b)).2⟩
theorem E1(d:hj Jp)(a:Nat):eS j Jp a=[ha j Jp a]:=by
 delta eS ha;cases b:Jp.lookup a with
 |none=>rfl
 |some e=>
  obtain⟨f,g,c⟩:=d _ (bI b);subst c;rfl
theorem um:∀(a:List Int)(b:Nat),cq [] a.length b a=a
 |[],b=>rfl
 |x::a,b=>by rw[N4,nv rfl,um a (b+1)]
theorem pd{xs:List Int}(b:hj Jp):eH xs Jp=(List.range xs.length).map (ha xs Jp):=by
 obtain⟨d,e⟩:=pi b;unfold eH;rw[d,e];have f:co xs Jp xs.length=(List.range xs.length).map (ha xs Jp):=by
  unfold co;rw[et (g:=fun a=>[ha xs Jp a]) fun a x=>E1 b a];generalize List.range xs.length=c;induction c with
  |nil=>rfl
  |cons a c h=>rw[NO,Nt,h];rfl
 rw[f,Qp,Nat.add_zero];exact um _ 0
theorem BF(e:hj Jp)(m:(Jp.map (fun x=>x.1)).Nodup)(k:∀a∈Jp,a.1<j.length/\∀b c,a.2=.set b c->j.getD a.1 0=b):d1 j Jp:=by
 obtain⟨f,g⟩:=pi e;refine⟨by rw[f];exact OE,by rw[g];exact m,?_,by rw[f];intro n l;exact nomatch l⟩;rw[g];intro a h;obtain⟨b,c,d⟩:=e a h;refine aW (k a h) fun i=>?_;refine⟨i.1,?_⟩;rw[d];exact i.2 b c d
noncomputable def rE(b:Option G1)(c:Option Int):Option Int:=match b with
 |some (.add a)=>some a
 |some (.set _ a)=>some a
 |some (.del _)=>none
 |none=>c
theorem FX{b:List (Str×G1)}:∀{c:List (Str×Int)}{a:Str},(b.map (fun x=>x.1)).Nodup->(bJ c b).lookup a=rE (b.lookup a) (c.lookup a):=by
 induction b with
 |nil=>exact fun y=>rfl
 |cons f b j=>
  intro c a g;refine(j (ND.mp g).2:(bJ (eN c f) b).lookup a=_).trans ?_;obtain⟨h,e⟩:=f;rw[NF];by_cases d:a=h
  ·subst d;rw[Q6.mpr fun k i=>bne_iff_ne.mpr fun l=>(ND.mp g).1 (Na.mpr ⟨k,i,l.symm⟩),beq_self_eq_true];cases e with
   |add n=>exact(kA ..).trans (if_pos rfl)
   |set m n=>exact(kA ..).trans (if_pos rfl)
   |del m=>exact(t4 ..).trans (if_pos rfl)
  ·rw[beq_eq_false_iff_ne.mpr d,tZ c (h,e) a d]
theorem AK{c:Str×G1}(a:(b.map (fun x=>x.1)).Nodup):((eN b c).map (fun x=>x.1)).Nodup:=by
 unfold eN
 split
 ·exact n8 a
 ·exact u0 a
 ·exact n8 a
theorem my:∀{kcs:List (Str×G1)}{b:List (Str×Int)},(b.map (fun x=>x.1)).Nodup->((bJ b kcs).map (fun x=>x.1)).Nodup
 |[],_,a=>a
 |c::kcs,b,a=>my (kcs:=kcs) (AK a)
theorem eV:h∈b.map (fun x=>x.1)↔(b.lookup h).isSome=true:=by rw[<-eQ,bw]
theorem AI(d:(b.map (fun x=>x.1)).Nodup)(e:(L.map (fun x=>x.1)).Nodup)(c:∀a,b.lookup a=L.lookup a):as b=as L:=by
 unfold as;rw[(oq d e fun a=>by rw[eV,eV,c])];apply N7;intro a _;unfold av;rw[c]
noncomputable def fI(b c:List (Str×Int))(a:Str):List (Str×G1):=
 if ax c a=false then[(a,.del (av b a))]else if ax b a=false then[(a,.add (av c a))]
 else if av b a=av c a then[]else[(a,.set (av b a) (av c a))]
noncomputable def bG(a b:List (Str×Int)):List (Str×G1):=(br a b).flatMap (fI a b)
theorem jQ(b c:List (Str×Int)):(bG b c).map (fun a=>(a.1,a.2.cL))=c9 b c:=by
 delta bG c9;rw[N9];refine et fun d x=>?_;delta fI ds
 split
 ·rfl
 ·split
  ·rfl
  ·split<;>rfl
theorem jL{P:List (Str×G1)->Prop}(e:ax L h=false->P [(h,.del (av b h))])(f:ax b h=false->P [(h,.add (av L h))])(g:P [])(i:ax b h=true->P [(h,.set (av b h) (av L h))]):P (fI b L h):=by
 unfold fI;by_cases c:ax L h=false
 ·rw[if_pos c];exact e c
 ·rw[if_neg c];by_cases a:ax b h=false
  ·rw[if_pos a];exact f a
  ·rw[if_neg a];by_cases d:av b h=av L h
   ·rw[if_pos d];exact g
   ·rw[if_neg d];exact i (Sq _▸a)
theorem mw:∀a∈fI b L h,a.1=h:=
 jL (P:=fun c=>∀a∈c,a.1=h) (fun x=>NP.mpr rfl) (fun x=>NP.mpr rfl) bs fun x=>NP.mpr rfl
theorem rD(c d:List (Str×Int))(a:Str):(fI c d a).length<=1:=jL (P:=fun b=>b.length<=1) (fun x=>Ni _) (fun x=>Ni _) (NN _) fun x=>Ni _
theorem jR(g:(b.map (fun x=>x.1)).Nodup)(h:(L.map (fun x=>x.1)).Nodup):((bG b L).map (fun x=>x.1)).Nodup:=by
 unfold bG;rw[N9];refine kN (jU g h) (fun f x=>hY _ (rD ..)) fun f x m x i l d e=>?_;refine ah (Na.mp d) fun j a=>?_;refine ah (Na.mp e) fun k c=>?_;exact i ((mw j a.1).symm.trans (a.2.trans (c.2.symm.trans (mw k c.1))))
theorem rV:∀c∈bG b L,f5 b c:=by
 intro c a;refine ah (NJ.mp a) fun f e=>?_;have a:=e.2;refine(?_:∀c∈fI b L f,f5 b c) c a;refine jL (P:=fun g=>∀c∈g,f5 b c) (fun d=>NP.mpr ⟨?_,rfl⟩) (fun d=>NP.mpr d) bs fun d=>NP.mpr ⟨d,rfl⟩;rcases eU.mp e.1 with a|a
 ·exact bw.mpr a
 ·rw[bw.mpr a]at d;exact nomatch d
theorem F1:∀{a:List (Str×D)},(∀b∈a,b.1≠h)->a.lookup h=none:=fun{a}d=>by
 rw[Q6];intro b e;rw[bne_iff_ne];exact fun c=>d b e c.symm
theorem FY{c:Str->List (Str×D)}(f:∀a,∀d∈c a,d.1=a):l.Nodup->(l.flatMap c).lookup h=if h∈l then(c h).lookup h else none:=by
 induction l with
 |nil=>exact fun y=>rfl
 |cons a l i=>
  intro e;rw[NO,O4,i (ND.mp e).2];by_cases b:h=a
  ·subst b;simp[(ND.mp e).1]
  ·rw[(F1 fun d g j=>b (j.symm.trans (f a d g)))];simp[b]
theorem fK(a:ax b h=true):b.lookup h=some (av b h):=by
 rw[eQ]at a;obtain⟨d,c⟩:=Oa.mp a;unfold av;rewrite[c];rfl
theorem hJ(a:ax b h=false):b.lookup h=none:=by
 rw[eQ]at a;cases c:b.lookup h with
 |none=>rfl
 |some d=>rw[c]at a;exact nomatch a
theorem kx(k:(b.map (fun x=>x.1)).Nodup)(l:(L.map (fun x=>x.1)).Nodup)(a:Str):
  ((bG b L).lookup a=none/\b.lookup a=L.lookup a)\/∃h,(bG b L).lookup a=some h/\rE (some h) (b.lookup a)=L.lookup a/\b.lookup a≠L.lookup a:=by
 unfold bG;rw[FY (fun o m f=>mw m f) (jU k l)];by_cases g:a∈br b L
 ·rw[if_pos g];unfold fI;cases c:ax L a with
  |false=>
   have f:ax b a=true:=by
    rcases eU.mp g with e|e
    ·exact bw.mpr e
    ·rw[bw.mpr e]at c;exact nomatch c
   rw[if_pos rfl];refine .inr ⟨.del (av b a),by simp[NF],?_,?_⟩
   ·rw[hJ c];rfl
   ·rw[hJ c,fK f];exact fun d=>nomatch d
  |true=>
   rw[if_neg (by simp)];cases f:ax b a with
   |false=>
    rw[if_pos rfl];refine .inr ⟨.add (av L a),by simp[NF],?_,?_⟩
    ·rw[fK c];rfl
    ·rw[hJ f,fK c];exact fun d=>nomatch d
   |true=>
    rw[if_neg (by simp)];by_cases d:av b a=av L a
    ·rw[if_pos d];exact .inl ⟨rfl,by rw[fK f,fK c,d]⟩
    ·rw[if_neg d];refine .inr ⟨.set (av b a) (av L a),by simp[NF],?_,?_⟩
     ·rw[fK c];rfl
     ·rw[fK f,fK c];exact fun n=>d (by injection n)
 ·rw[if_neg g];have i:ax b a=false:=by
   cases e:ax b a with
   |false=>rfl
   |true=>exact absurd (eU.mpr (.inl (bw.mp e))) g
  have j:ax L a=false:=by
   cases e:ax L a with
   |false=>rfl
   |true=>exact absurd (eU.mpr (.inr (bw.mp e))) g
  exact .inl ⟨rfl,by rw[hJ i,hJ j]⟩
theorem Av(c:(b.map (fun x=>x.1)).Nodup)(h:(L.map (fun x=>x.1)).Nodup)(i:(Je.map (fun x=>x.1)).Nodup)(l:∀a,a∈(bG b L).map (fun x=>x.1)->a∉(bG b Je).map (fun x=>x.1))(a:Str):
  (bJ b (bG b L++bG b Je)).lookup a=if L.lookup a≠b.lookup a then L.lookup a else Je.lookup a:=by
 have r:((bG b L++bG b Je).map (fun x=>x.1)).Nodup:=by
  rw[Ng,NK];exact⟨jR c h,jR c i,fun j p s q m=>l j p (m▸q)⟩
 rw[FX r,O4];rcases kx c h a with⟨f,g⟩|⟨k,f,g,o⟩
 ·rw[f,RL,if_neg (fun n=>n g.symm)];rcases kx c i a with⟨d,e⟩|⟨k,d,e,_⟩
  ·rw[d];exact e
  ·rw[d];exact e
 ·rw[f,RK,if_pos (NZ o)];exact g
noncomputable def vy(b c:List Int)(a:Nat):List (Nat×G1):=if b.getD a 0=c.getD a 0 then[]else[(a,.set (b.getD a 0) (c.getD a 0))]
noncomputable def cN(a b:List Int):List (Nat×G1):=(List.range a.length).flatMap (vy a b)
theorem ah7(b:j.length=O.length)(c:cF j O I0):(cN j O).map (fun a=>(a.1,a.2.cL))=cR j O I0:=by
 rw[lU b c];unfold cN;rw[N9];refine et fun d x=>?_;unfold vy
 split<;>rfl
theorem BM(d:Nat->Prop)[DecidablePred d](e:Nat->D)(c:List Nat):(c.flatMap fun a=>if d a then[]else[e a])=(c.filter fun a=> !decide (d a)).map e:=by
 induction c with
 |nil=>rfl
 |cons a c f=>
  rw[NO,Of,f];by_cases b:d a
  ·rw[if_pos b,decide_eq_true b];rfl
  ·rw[if_neg b,decide_eq_false b];rfl
theorem hb(b c:List Int):cN b c=((List.range b.length).filter fun a=> !decide (b.getD a 0=c.getD a 0)).map fun a=>(a,G1.set (b.getD a 0) (c.getD a 0)):=BM ..
theorem k4(a b:List Int):hj (cN a b):=hb a b▸OC.mpr fun x x=>⟨_,_,rfl⟩
theorem vA(b c:List Int):((cN b c).map (fun x=>x.1)).Nodup:=by
 rw[hb,Nf,show((fun x=>x.1)∘fun a:Nat=>(a,G1.set (b.getD a 0) (c.getD a 0)))=(id:Nat->Nat)from rfl,Oi];exact Oq.nodup O6
theorem vz(a d:List Int):∀b∈cN a d,b.1<a.length/\∀c g,b.2=.set c g->a.getD b.1 0=c:=
 hb a d▸OC.mpr fun x f=>⟨NX.mp (NL.mp f).1,fun x x e=>(G1.set.inj e).1⟩
theorem ky(c:q<j.length):(cN j O).lookup q=if j.getD q 0=O.getD q 0 then none else some (.set (j.getD q 0) (O.getD q 0)):=by
 rw[hb,kz fun q=>G1.set (j.getD q 0) (O.getD q 0)];by_cases a:j.getD q 0=O.getD q 0
 ·rw[if_pos a,if_neg fun b=>by rw[NL,decide_eq_true a]at b;exact nomatch b.2]
 ·rw[if_neg a,if_pos (NL.mpr ⟨NX.mpr c,by rw[decide_eq_false a];rfl⟩)]
theorem xi{xs ys zs:List Int}:eH xs (cN xs ys++cN xs zs)=(List.range xs.length).map fun a=>if ys.getD a 0=xs.getD a 0 then zs.getD a 0 else ys.getD a 0:=by
 rw[pd (fun e f=>(Nu.mp f).elim (k4 xs ys e) (k4 xs zs e))];apply N7;intro a d;unfold ha;rw[O4,ky (NX.mp d),ky (NX.mp d)];by_cases b:xs.getD a 0=ys.getD a 0
 ·rw[if_pos b,RL,if_pos b.symm];by_cases c:xs.getD a 0=zs.getD a 0
  ·rw[if_pos c];exact c
  ·rw[if_neg c]
 ·rw[if_neg b,RK,if_neg (NZ b)]
theorem hz(c:List (Str×Int))(b:Str):ay (c.map Hf) (.s b)=(c.lookup b).map .int:=by
 cases a:ax c b with
 |true=>rw[fe (bw.mp a),fK a];rfl
 |false=>rw[mz (fun d=>by rw[bw.mpr d]at a;exact nomatch a),hJ a];rfl
theorem ajf{b:Option Int}:b.map GG.int=some (.int k)↔b=some k:=by
 cases b with
 |none=>exact⟨nofun,nofun⟩
 |some c=>exact⟨fun a=>congrArg some (GG.int.inj (NM a)),fun a=>by rw[a];rfl⟩
theorem Ak(b c:List (Str×Int)):gX (b.map Hf) (c.map Hf)=true↔∀a∈c,b.lookup a.1=some a.2:=by
 refine O8.trans (OC.trans (forall_congr' fun a=>imp_congr_right fun x=>?_));refine(@decide_eq_true_iff _ (Classical.propDecidable _)).trans ?_;rw[show ay (b.map Hf) (Hf a).1=_ from hz b a.1];exact ajf
theorem FU(e:(b.map (fun x=>x.1)).Nodup):∀a∈b,b.lookup a.1=some a.2:=by
 induction b with
 |nil=>intro a c;exact nomatch c
 |cons g b f=>
  intro a c;rw[NF];rcases Nk.mp c with rfl|c
  ·simp
  ·have d:(a.1==g.1)=false:=by
    rw[beq_eq_false_iff_ne];intro d;exact(ND.mp e).1 (Na.mpr ⟨a,c,d⟩)
   rw[d];exact f (ND.mp e).2 a c
theorem Ax(g:(b.map (fun x=>x.1)).Nodup)(r:(L.map (fun x=>x.1)).Nodup):((b.map Hf).length==(L.map Hf).length&&gX (L.map Hf) (b.map Hf))=true↔∀c,b.lookup c=L.lookup c:=by
 rw[Ox,Ak,Nb,Nb,beq_iff_eq];constructor
 ·rintro⟨q,d⟩ c;have sub:∀e∈b.map (fun x=>x.1),e∈L.map (fun x=>x.1):=fun e a=>by
   obtain⟨h,f,rfl⟩:=Na.mp a;rw[eV,d h f];rfl
  cases k:b.lookup c with
  |some s=>exact(d _ (bI k)).symm
  |none=>
   cases n:L.lookup c with
   |none=>rfl
   |some s=>
    exfalso;have o:c∉b.map (fun x=>x.1):=fun m=>by rw[eV,k]at m;exact nomatch m
    have p:c∈L.map (fun x=>x.1):=by rw[eV,n];rfl
    have:=dH (l:=c::b.map (fun x=>x.1)) (m:=L.map (fun x=>x.1)) (ND.mpr ⟨o,g⟩) fun e a=>by
     rcases Nk.mp a with rfl|a
     ·exact p
     ·exact sub e a
    simp only[N4,Nb]at this;exact Pe (Nd q.symm) this
 ·intro d;refine⟨?_,fun h f=>by rw[<-d];exact FU g h f⟩;have i:=dH g (m:=L.map (fun x=>x.1)) fun e a=>by rw[eV,<-d,<-eV];exact a
  have j:=dH r (m:=b.map (fun x=>x.1)) fun e a=>by rw[eV,d,<-eV];exact a
  simp only[Nb]at i j;exact OY i j
theorem Be(a b:List Int):GG.dt (a.map .int) (b.map .int)=decide (a=b):=sB GG.int.inj a b
noncomputable def ch:ag->ag->Bool
 |.a e,.a f=>decide (e=f)
 |.d b,.d c=>(b.map Hf).length==(c.map Hf).length&&gX (c.map Hf) (b.map Hf)
 |_,_=>false
noncomputable def dp(l n i b:Option ag):Prop:=match l,n,i with
 |none,some m,_=>b=some m
 |none,none,i=>b=i
 |some e,some f,some g=>if ch f e=true then b=some g else if ch g e=true then b=some f else match e,f,g with
  |.a k,.a q,.a r=>b=some (.a ((List.range k.length).map (dg k q r)))
  |.d o,.d j,.d p=>∃h,b=some (.d h)/\(h.map (fun x=>x.1)).Nodup/\∀c,h.lookup c=if j.lookup c≠o.lookup c then j.lookup c else p.lookup c
  |_,_,_=>False
 |some _,_,_=>b=none
noncomputable abbrev H3:List Str:=["base","one","other","plain","number","key","new"]
theorem ry(b:List (Str×Int))(a:Str):aQ 20 ((ay (b.map Hf) (.s a)).getD .none):=by
 rw[hz];cases b.lookup a<;>trivial
theorem FT{a b:Option Int}(c:(a.map GG.int).getD .none=(b.map GG.int).getD .none):a=b:=by
 cases a<;>cases b<;>cases c<;>rfl
theorem A9(b c:List (Str×Int))(a:Str):GG.bf ((ay (c.map Hf) (.s a)).getD .none) ((ay (b.map Hf) (.s a)).getD .none)=decide (c.lookup a=b.lookup a):=by
 rw[hz,hz];exact gZ (f:=fun d:Option Int=>(d.map GG.int).getD .none) FT _ _
theorem Ek(d:∀a,a∈IZ↔a∈j.map ae.i):∃b:List Int,IZ=b.map ae.i/\∀c,c∈b↔c∈j:=by
 have:∀IZ:List ae,(∀a∈IZ,a∈j.map ae.i)->∃b:List Int,IZ=b.map ae.i:=by
  intro IZ;induction IZ with
  |nil=>intro _;exact⟨[],rfl⟩
  |cons a IZ g=>
   intro d;obtain⟨b,rfl⟩:=g fun h f=>d h (.tail _ f);refine ah (Na.mp (d a (.head _))) fun c k=>?_;obtain rfl:=k.2;exact⟨c::b,rfl⟩
 obtain⟨b,rfl⟩:=this IZ fun a e=>(d a).mp e;refine⟨b,rfl,fun c=>?_⟩;have:=d (.i c);simpa using this
theorem te(b:List (Str×Int)):iu (b.map Hf):=fun d a=>by
 obtain⟨c,_,rfl⟩:=Na.mp a;exact⟨c.2,rfl⟩
theorem EH(e f c:ag):¬dp (some e) (some f) (some c) none:=by
 refine(?_:¬(if ch f e=true then none=some c else if ch c e=true then none=some f else _));by_cases b:ch f e=true
 ·rw[if_pos b];exact nofun
 rw[if_neg b];by_cases b:ch c e=true
 ·rw[if_pos b];exact nofun
 rw[if_neg b];cases e with
 |a l=>cases f with
  |a i=>cases c with
   |a j=>exact nofun
   |d h=>exact id
  |d g=>cases c<;>exact id
 |d k=>cases f with
  |a i=>cases c<;>exact id
  |d g=>cases c with
   |a j=>exact id
   |d h=>exact fun b=>by obtain⟨_,b,_⟩:=b;exact nomatch b
theorem A3{a:aF}(d:a.1∉U.map (fun x=>x.1)):af (al (U++[a])) a.1=some a.2.2.2/\∀b,b≠a.1->af (al (U++[a])) b=af (al U) b:=by
 have c:al (U++[a])=al U++[(a.1,a.2.2.2)]:=by unfold al;rw[Ng];rfl
 rw[c];unfold af;refine⟨?_,fun b e=>?_⟩
 ·rw[O4];have:List.lookup a.1 (al U)=none:=by
   cases f:List.lookup a.1 (al U)with
   |none=>rfl
   |some g=>
    have:=(dT (al U) a.1).mp (by unfold af;rw[f];rfl);unfold al at this;rw[Nf]at this;exact absurd this d
  rw[this];simp[NF]
 ·rw[O4];have:List.lookup b [(a.1,a.2.2.2)]=none:=by rw[NF,beq_eq_false_iff_ne.mpr e];rfl
  rw[this];simp
theorem hE(a:k∉U.map (fun x=>x.1)):af (al U) k=none:=by
 cases b:af (al U) k with
 |none=>rfl
 |some c=>
  have:=(dT (al U) k).mp (by rw[b];rfl);unfold al at this;rw[Nf]at this;exact absurd this a
structure gS(S c:aa)(b d t:Int->Option ag)(a:List Int)(rs:List aF):Prop where
 GO:(rs.map (fun x=>x.1)).Nodup
 all:∀r∈rs,r.1∈a/\bX 10 r/\Ha r∈c++S
 ok:∀n∈a,dp (b n) (d n) (t n) (af (al rs) n)
theorem gS.add{S f more:aa}{d g j:Int->Option ag}{h:List Int}{i:List aF}(c:gS S f d g j h i){r:aF}(n:r.1∉h)(s:bX 10 r)(u:Ha r∈(more++f)++S)(x:dp (d r.1) (g r.1) (j r.1) (some r.2.2.2)):gS S (more++f) d g j (h++[r.1]) (i++[r]):=by
 have m:r.1∉i.map (fun x=>x.1):=fun y=>by
  refine ah (Na.mp y) fun a p=>?_;exact n (p.2▸(c.all a p.1).1)
 refine aW (A3 m) fun q=>?_;refine⟨?_,fun a b=>?_,fun o v=>?_⟩
 ·rw[Ng,NK];refine⟨c.GO,by simp,fun z t A l e=>?_⟩;rw[Nt,Ph,Nj]at l;subst l;subst e;exact m t
 ·rcases Nu.mp b with b|b
  ·refine df (c.all a b) fun k=>?_;refine⟨NG _ k.1,k.2,?_⟩;rw[NR];exact NA _ k.3
  ·replace b:=Nj.mp b;subst b;exact⟨by simp,s,u⟩
 ·rcases Nu.mp v with a|a
  ·rw[q.2 o (fun e=>n (e▸a))];exact c.ok o a
  ·rw[Nj]at a;subst a;rw[q.1];exact x
theorem gS.skip{S g:aa}{c d:Int->Option ag}(b:gS S g Kw c d j U)(m:k∉j)(o:dp (Kw k) (c k) (d k) none):gS S g Kw c d (j++[k]) U:=by
 refine⟨b.GO,fun a n=>?_,fun f l=>?_⟩
 ·refine df (b.all a n) fun e=>?_;exact⟨NG _ e.1,e.2,e.3⟩
 ·rcases Nu.mp l with a|a
  ·exact b.ok f a
  ·replace a:=Nj.mp a;subst a;have i:f∉U.map (fun x=>x.1):=fun p=>by refine ah (Na.mp p) fun a h=>?_;exact m (by rw[<-h.2];exact(b.all a h.1).1)
   rw[hE i];exact o
noncomputable abbrev cX(f e g:List (Str×Int))(d:List Str)(b:List (Str×Int)):Prop:=((b.map (fun x=>x.1)).Nodup)/\(∀c∈b,c.1∈d/\c.1∈cS/\c0 c.2)/\(∀a∈d,b.lookup a=if e.lookup a≠f.lookup a then e.lookup a else g.lookup a)
theorem cX.GO(a:cX b L Je l J4):(J4.map (fun x=>x.1)).Nodup:=a.1
theorem cX.all(c:cX b L Je l J4):∀a∈J4,a.1∈l/\a.1∈cS/\c0 a.2:=c.2.1
theorem cX.ok(c:cX b L Je l J4):∀a∈l,J4.lookup a=if L.lookup a≠b.lookup a then L.lookup a else Je.lookup a:=c.2.2
theorem hS(c:h∉b.map (fun x=>x.1)):b.lookup h=none:=by
 cases a:b.lookup h with
 |none=>rfl
 |some d=>exact absurd (eV.mpr (by rw[a];rfl)) c
theorem cX.add{k e l i:List (Str×Int)}{j:List Str}{a:Str}{f:Int}(d:cX k e l j i)(o:a∉j)(s:a∈cS)(u:c0 f)(r:(if e.lookup a≠k.lookup a then e.lookup a else l.lookup a)=some f):cX k e l (j++[a]) (i++[(a,f)]):=by
 have n:a∉i.map (fun x=>x.1):=fun v=>by
  refine ah (Na.mp v) fun b q=>?_;exact o (q.2▸(d.all b q.1).1)
 refine⟨?_,fun b c=>?_,fun p t=>?_⟩
 ·rw[Ng,NK];refine⟨d.GO,by simp,fun x h y m g=>?_⟩;simp only[Nt,Ph,Nj]at m;replace h:=m▸g▸h;exact n h
 ·rcases Nu.mp c with c|c
  ·exact⟨NG _ (d.all b c).1,(d.all b c).2⟩
  ·replace c:=Nj.mp c;subst c;exact⟨by simp,s,u⟩
 ·rw[O4];rcases Nu.mp t with b|b
  ·have:List.lookup p [(a,f)]=none:=by
    rw[NF,beq_eq_false_iff_ne.mpr (fun g=>o (by rw[<-g];exact b))];rfl
   rw[this,d.ok p b];simp
  ·rw[Nj]at b;subst b;rw[hS n,r];simp[NF]
theorem cX.skip(c:cX b L Je l J4)(i:h∉l)(f:(if L.lookup h≠b.lookup h then L.lookup h else Je.lookup h)=none):cX b L Je (l++[h]) J4:=by
 have g:h∉J4.map (fun x=>x.1):=fun k=>by
  refine ah (Na.mp k) fun a e=>?_;exact i (e.2▸(c.all a e.1).1)
 refine⟨c.GO,fun a d=>⟨NG _ (c.all a d).1,(c.all a d).2⟩,fun m j=>?_⟩;rcases Nu.mp j with a|a
 ·exact c.ok m a
 ·rw[Nj]at a;subst a;rw[hS g,f]
section
variable{S:aa}
theorem uL{a c h i:Nat}{b:ag}(o:aw e.A q)(v:∃s,base.get? sysModules=some s)(j:(a,dU h Jl)∈S)(k:(c,dU i b)∈S)(l:bR Jl=bR b)(m:B (.bool (ch Jl b)) t S):
  aE e (compareOp .Eq) (.ref a) (.ref c) VR t S B:=by
 cases Jl with
 |a p=>
  cases b with
  |a g=>
   have:=Be p g;refine kR o (.inl (show(a,GL.list (p.map .int))∈S from j)) (.inl (show(c,GL.list (g.map .int))∈S from k)) (fun x f=>?_) (fun x f=>?_) (by rw[this];exact m)
   ·obtain⟨r,_,rfl⟩:=Na.mp f;trivial
   ·obtain⟨r,_,rfl⟩:=Na.mp f;trivial
  |d n=>cases l
 |d u=>
  cases b with
  |a g=>cases l
  |d n=>exact ae3 o v (show(a,GL.dict h (u.map Hf))∈S from j) (show(c,GL.dict i (n.map Hf))∈S from k) (te _) (te _) m
end
inductive Sd(S:aa)(n:Int):Option GG->Option ag->Prop
 |none:Sd S n none none
 |some {a:Addr} {GH:Nat} {e:ag} (b:(a,dU GH e)∈S) (g:bX 10 (n,a,GH,e)):Sd S n (some (.ref a)) (some e)
theorem oi{S:aa}(Hi:∀f∈U,Ha f∈S)(d:aL 10 U)(a:Int):Sd S a (ay (U.map GZ) (.i a)) (af (al U) a):=by
 rcases gQ U d.GO a with⟨⟨k,g,j,h⟩,e,rfl,b,c⟩|⟨b,c⟩
 ·rw[b,c];exact .some (Hi _ e) (d.all _ e)
 ·rw[b,c];exact .none
theorem EF{a b:ag}(c:ch a Jl=true):dp (some Jl) (some a) (some b) (some b):=by show(if ch a Jl=true then _ else _);rw[if_pos c]
theorem iE(a:Jh=false):¬Jh=true:=by rw[a];exact Oe
theorem EE{a b:ag}(c:ch a Jl=false)(d:ch b Jl=true):dp (some Jl) (some a) (some b) (some a):=by show(if ch a Jl=true then _ else if ch b Jl=true then _ else _);rw[if_neg (iE c),if_pos d]
theorem EC{b:List Int}(c:ch (.a O) (.a j)=false)(d:ch (.a b) (.a j)=false):dp (some (.a j)) (some (.a O)) (some (.a b)) (some (.a ((List.range j.length).map (dg j O b)))):=by
 show(if ch (.a O) (.a j)=true then _ else if ch (.a b) (.a j)=true then _ else _);rw[if_neg (iE c),if_neg (iE d)]
theorem ED(c:ch (.d L) (.d b)=false)(e:ch (.d Je) (.d b)=false)(g:(J4.map (fun x=>x.1)).Nodup)(f:∀a,J4.lookup a=if L.lookup a≠b.lookup a then L.lookup a else Je.lookup a):dp (some (.d b)) (some (.d L)) (some (.d Je)) (some (.d J4)):=by
 show(if ch (.d L) (.d b)=true then _ else if ch (.d Je) (.d b)=true then _ else∃h,_/\_);rw[if_neg (iE c),if_neg (iE e)];exact⟨J4,rfl,g,f⟩
theorem cX.done(f:cX b L Je l J4)(h:∀a,a∈l↔a∈b.map (fun x=>x.1)++L.map (fun x=>x.1)++Je.map (fun x=>x.1))(a:Str):J4.lookup a=if L.lookup a≠b.lookup a then L.lookup a else Je.lookup a:=by
 by_cases e:a∈l
 ·exact f.ok a e
 ·have d:=fun c=>e ((h a).mpr c);rw[Nu,Nu]at d;rw[hS (fun c=>d (.inl (.inl c)):a∉b.map (fun x=>x.1)),hS (fun c=>d (.inl (.inr c)):a∉L.map (fun x=>x.1)),hS (fun c=>d (.inr c):a∉Je.map (fun x=>x.1)),
   hS (fun c=>by refine ah (Na.mp c) fun i g=>?_;exact e (by rw[<-g.2];exact(f.all i g.1).1):a∉J4.map (fun x=>x.1))]
  rfl
theorem cX.put(e:cX b L Je l J4)(d:h∉l):a6 (J4.map Hf) (.s h) (.int k)=(J4++[(h,k)]).map Hf:=by
 rw[er,Ng];rfl;intro a;replace a:=Nf▸a;refine ah (Na.mp a) fun f c=>?_;exact d (ae.s.inj c.2▸(e.all f c.1).1)
theorem cX.len{g h j c:List (Str×Int)}{a:List Str}(b:cX g h j a c):c.length<=a.length:=by
 have d:=dH b.GO (m:=a) fun k f=>by obtain⟨i,e,rfl⟩:=Na.mp f;exact(b.all i e).1
 rwa[Nb]at d
theorem E5(k:aI (.d b))(l:aI (.d L))(n:aI (.d Je))(g:IZ.Nodup)(p:∀c,c∈IZ↔c∈(b.map (fun x=>x.1)++L.map (fun x=>x.1)++Je.map (fun x=>x.1)).map ae.s):
  ∃e:List Str,cg (IZ.map ae.GP) (e.map .str)/\IZ.length<64/\e.Nodup/\(∀c,c∈e↔c∈b.map (fun x=>x.1)++L.map (fun x=>x.1)++Je.map (fun x=>x.1))/\e.length<=18:=by
 refine ah (vP p) fun a f=>?_;obtain rfl:=f.1;have i:a.Nodup:=by rw[List.Nodup,Op]at g;exact g.imp fun q j=>q (congrArg _ j)
 have h:a.length<=18:=by
  have s:=dH i (m:=b.map (fun x=>x.1)++L.map (fun x=>x.1)++Je.map (fun x=>x.1)) fun r o=>(f.2 r).mp o;have t:=ci k;have:=ci l;have:=ci n;simp only[Nm,Nb]at*;omega
 exact⟨cD a,by rw[Nf];exact cg.str a,by rw[Nb];exact aj (Np h 1) rfl,(cO a).nodup_iff.mpr i,fun c=>by rw[(cO a).mem_iff,f.2],by rw[(cO a).length_eq];exact h⟩
theorem acd{d:List aF}(k:U.length<=6)(lo:Jg.length<=6)(l:d.length<=6)(f:IZ.Nodup)(n:∀b,b∈IZ↔b∈(U.map (fun x=>x.1)++Jg.map (fun x=>x.1)++d.map (fun x=>x.1)).map ae.i):
  ∃c:List Int,cg (IZ.map ae.GP) (c.map .int)/\IZ.length<64/\c.Nodup/\(∀b,b∈c↔b∈U.map (fun x=>x.1)++Jg.map (fun x=>x.1)++d.map (fun x=>x.1))/\c.length<=18:=by
 refine ah (Ek n) fun a e=>?_;obtain rfl:=e.1;have h:a.Nodup:=by rw[List.Nodup,Op]at f;exact f.imp fun o i=>o (congrArg _ i)
 have g:a.length<=18:=by
  have:=dH h (m:=U.map (fun x=>x.1)++Jg.map (fun x=>x.1)++d.map (fun x=>x.1)) fun p j=>(e.2 p).mp j;simp only[Nm,Nb]at*;exact mf this (No (No k lo) l)
 exact⟨da a,by rw[Nf];exact cg.int a,by rw[Nb];exact aj (Np g 1) rfl,(eR a).nodup_iff.mpr h,fun b=>by rw[(eR a).mem_iff,e.2],by rw[(eR a).length_eq];exact g⟩
theorem An[DecidableEq D](e:List (D×GG))(d:D)(f:GG):ay (a6 e d f) d=some f:=by
 unfold a6;by_cases c:(e.any fun b=>decide (b.1=d))=true
 ·rw[if_pos c];induction e with
  |nil=>cases c
  |cons b e h=>
   rw[Nt,hx];by_cases a:b.1=d
   ·rw[if_pos a];exact if_pos a
   ·rw[OM,decide_eq_false a,P0]at c;rw[if_neg a,if_neg a];exact h c
 ·rw[if_neg c];unfold ay;rw[List.find?_append,PU.mpr fun b g a=>c (N8.mpr ⟨b,g,a⟩)];exact congrArg (Option.map fun i:D×GG=>i.2) (List.find?_cons_of_pos (p:=fun b:D×GG=>decide (b.1=d)) (decide_eq_true rfl))
noncomputable def o4{b:Type}(e:b->GG)(K:b->Prop)(f:ab)(S:aa):GG->ab->aa->Prop:=fun d g c=>∃a,d=e a/\g=f/\c=S/\K a
theorem k3{b:D->GG}{K:D->Prop}{S:aa}(a:D)(c:K a):o4 b K t S (b a) t S:=⟨a,rfl,rfl,rfl,c⟩
theorem pD{d:Sem D}{R:Heap->D->GG->Prop}{S:aa}(c:I1->GG)(K:I1->Prop)(f:GK e d R t S (o4 c K t S))(g:∀a,K a->B (c a) t S):GK e d R t S B:=
 f.mono fun x x x h=>by refine fw h fun a b=>?_;exact b.1▸b.2▸b.3▸g a b.4
noncomputable abbrev IJ:List Str:=["sorted","set","list","zip"]
noncomputable def II:List Stmt:=(HV (aT 60)[1]?).2.1
theorem ud:aD [Ji,Jk,Jt,Jx,JC,none,none] [Ji,Jk,Jt,Jx,JC,JI,JP]:=.same (.same (.same (.same (.same (.drop (.drop .nil))))))
theorem nt:aD [Ji,Jk,Jt,Jx,none,none,none] [Ji,Jk,Jt,Jx,JC,JI,JP]:=.same (.same (.same (.same (.drop (.drop (.drop .nil))))))
theorem mI(a:List aF):((a.map GZ).map fun b=>b.1.GP)=(a.map (fun x=>x.1)).map GG.int:=by rw[Nf,Nf];rfl
section
variable{R:List (ae×GG)}
theorem EK(P:Pg)(K4:G9 e H3 H3 IJ [])(KU:aw e.A 0)(Hu:(d,GL.dict q I8)∈V)(x:(H,GL.dict v Ky)∈V)(GX:(IX,GL.dict Jd KQ)∈V)(HW:ay I8 (.i k)=Ji)(l:ay Ky (.i k)=Jk)(E:ay KQ (.i k)=Jt)
(HV:Sd V k Ji IU)(Lp:Sd V k Jk IW)(Lq:Sd V k Jt Ju)(LF:Ji=none->Jk=none->Jt≠none)(KW:R.length<=sizeLine)
(Ly:∀h A B,IU=some (.a h)->IW=some (.a A)->Ju=some (.a B)->A≠h->B≠h->h.length=A.length/\h.length=B.length)
(I:∀{Ld},dp IU IW Ju Ld->KP Ld)
(KY:∀C m G i,(C,dU m G)∈V->bX 10 (k,C,m,G)->KP (some G)->Z .next (an H3 [some (.ref d),some (.ref H),some (.ref IX),some (.ref Jj),some (.int k),none,none]) ((JE,.list z)::(Jj,.dict i (a6 R (.i k) (.ref C)))::V))
(fin2:∀C m G i Q T Li,bX 10 (k,C,m,G)->KP (some G)->Le ((C,dU m G)::(JE,.list z)::(Jj,.dict i (a6 R (.i k) (.ref C)))::V) Li->Z .next (an H3 [some (.ref d),some (.ref H),some (.ref IX),some (.ref Jj),some (.int k),Q,T]) Li)
(skip:KP none->Z .next (an H3 [some (.ref d),some (.ref H),some (.ref IX),some (.ref Jj),some (.int k),none,none]) ((JE,.list z)::(Jj,.dict JH R)::V)):
  GK e (execs II e.env) GW (an H3 [some (.ref d),some (.ref H),some (.ref IX),some (.ref Jj),some (.int k),none,none]) ((JE,.list z)::(Jj,.dict JH R)::V) Z:=by
 have b:∀{KS Lb Lc:Addr×GL},KS∈V->KS∈Lb::Lc::V:=fun c=>ac (ac c);refine aH ?_;walk_at "m1";walk_at "m1";walk_at "m1";walk_at "m1";refine oP P (b Hu) ?_;refine au HW ?_;cases HV with
 |none=>
  exists 0;refine bN rfl ?_;walk_at "m1";refine wF (by with_unfolding_all rfl) ?_;refine pD (fun a:Addr×Nat×ag=>.ref a.1) (fun a=>(a.1,dU a.2.1 a.2.2)∈V/\bX 10 (k,a.1,a.2.1,a.2.2)/\dp none IW Ju (some a.2.2)) ?_ fun a g=>?_
  ·walk_at "m1";walk_at "m1";walk_at "m1";walk_at "m1";refine wu P (b x) ?_;refine au l ?_;cases Lp with
   |some La K5=>
    exists 0;exists bN rfl ?_;refine bu (b x) l ?_;exact k3 (_,_,_) ⟨La,K5,rfl⟩
   |none=>
    exists 0;refine bx rfl ?_;cases Lq with
    |none=>exact absurd rfl (LF rfl rfl)
    |some La K5=>
     exists 0;refine bu (b GX) E ?_;exact k3 (_,_,_) ⟨La,K5,rfl⟩
  exists 0;exists dm (.there .here) KW fun i=>?_;exact KY a.1 a.2.1 a.2.2 i g.1 g.2.1 (I g.2.2)
 | @some Ls LK LJ N r=>
  exists 0;exists bx rfl ?_;refine au l ?_;cases Lp with
  |none=>
   exists 0;refine⟨fun c=>(nomatch c),fun w=>?_⟩;exists bx rfl ?_;exact skip (I rfl)
  | @some Q Lk KX L t=>
   exists 0;exists⟨fun w=>?_,fun c=>nomatch c⟩;refine au E ?_;cases Lq with
   |none=>
    exists 0;refine⟨fun c=>(nomatch c),fun w=>?_⟩;exists bx rfl ?_;exact skip (I rfl)
   | @some T Ll Lu Y u=>
    exists 0;exists⟨fun w=>?_,fun c=>nomatch c⟩;exists bN rfl ?_;refine gm (k:=.i k) P.GY (b x) ?_;exists au l ?_;exists bu (b Hu) HW (uL KU P.GY (b L) (b N) (t.2.1.trans r.2.1.symm) ?_);refine⟨fun O=>?_,fun O=>?_⟩
    ·exists 0;exists bu (b GX) E ?_;exists dm (.there .here) KW fun i=>?_;exact KY T Ll Lu i Y u (I (EF O))
    exists 0;refine gm (k:=.i k) P.GY (b GX) ?_;exists au E ?_;exists bu (b Hu) HW (uL KU P.GY (b Y) (b N) (u.2.1.trans r.2.1.symm) ?_);refine⟨fun KT=>?_,fun KT=>?_⟩
    ·exists 0;exists bu (b x) l ?_;exists dm (.there .here) KW fun i=>?_;exact KY Q Lk KX i L t (I (EE O KT))
    exists 0;clear skip KY;by_cases n:k=4
    ·refine bN (decide_eq_true n) ?_;obtain⟨h,rfl⟩:=gy r n;obtain⟨A,rfl⟩:=gy t n;obtain⟨B,rfl⟩:=gy u n;subst n;refine aW (Ly h A B rfl rfl rfl (of_decide_eq_false O) (of_decide_eq_false KT)) fun K2=>?_;have K7:=r.2.2.1;exists 0
     with_reducible refine yf K4 KU (by exists 4) (by exists 4) (by exists 4) ?_
     exists 0;exists⟨rfl,?_⟩;exists bu (b Hu) HW ?_;exists bu (b x) l ?_;exists bu (b GX) E ?_;exists⟨Ls,Q,T,h,A,B,rfl,.inl (b N),.inl (b L),.inl (b Y),K2.1,K2.2,bC (mf K7.2.1 (by decide)),fun Lg=>?_⟩;exists dm (F:=fun IW=>(Lg,.list (((List.range h.length).map (dg h A B)).map .int))::(JE,.list z)::(Jj,IW)::V) (.there (.there .here)) KW fun i=>?_;refine fin2 Lg 0 (.a ((List.range h.length).map (dg h A B))) i _ _ _ (mW (by rw[Nb,NS];exact K7.1) (by rw[Nb,NS];exact K7.2.1) (Ni _) fun Lr LA=>?_) (I (EC O KT)) (Le.refl _);refine ah (Na.mp LA) fun a Lf=>?_;obtain rfl:=Lf.2;unfold dg
     split
     ·exact ke u.2.2.1 (K2.2▸(NX.mp Lf.1))
     ·exact ke t.2.2.1 (K2.1▸(NX.mp Lf.1))
    refine bx (decide_eq_false n) ?_;obtain⟨y,rfl⟩:=fk r n;obtain⟨j,rfl⟩:=fk t n;obtain⟨M,rfl⟩:=fk u n;have K0:=ci r.2.2.1;have J:=ci t.2.2.1;have K9:=ci u.2.2.1;exists 0;exists eJ fun D Lm=>?_;exists dm (F:=fun IW=>(D,.dict Lm [])::(JE,.list z)::(Jj,IW)::V) (.there (.there .here)) KW fun m=>?_;exists bu (ac (b Hu)) HW ?_;refine fd P.GY (ks:=y.map Hf) (ac (b N)) (cE (aj K0 rfl)) fun LM=>?_;exists au (iY y) ?_;exists bu (ac (ac (b x))) l ?_;refine fd P.GY (ks:=j.map Hf) (ac (ac (b L))) (cE (aj J rfl)) fun LN=>?_;refine au (iY j) ?_;refine eA (by exists 2) (by exists 2) (by simp only[Nb];exact bC (aj (No K0 J) rfl)) fun LO=>?_;exists dY (Ng ..) ?_;exists bu (ac (ac (ac (ac (b GX))))) E ?_;refine fd P.GY (ks:=M.map Hf) (ac (ac (ac (ac (b Y))))) (cE (aj K9 rfl)) fun LP=>?_;refine au (iY M) ?_;refine eA (by exists 2) (by exists 2) (by simp only[Nb,Nm];exact bC (aj (No (No K0 J) K9) rfl)) fun LQ=>?_;refine au (show(y.map (fun x=>x.1)++j.map (fun x=>x.1)).map GG.str++(M.map (fun x=>x.1)).map GG.str=((y.map (fun x=>x.1)++j.map (fun x=>x.1)++M.map (fun x=>x.1)).map ae.s).map ae.GP by rw[<-Ng,Nf];rfl) ?_;exists 0;refine mo am (by simp only[Nb,Nm];exact aj (No (No K0 J) K9) rfl) fun LS LL LC LB=>?_;exists wz (E5 r.2.2.1 t.2.2.1 u.2.2.1 LC LB) fun K8 KV=>?_;exists mr am KV.1 KV.2 fun K=>?_;have Lo:ay (a6 R (.i k) (.ref D)) (.i k)=some (.ref D):=An ..;generalize Lw:a6 R (.i k) (.ref D)=Lh at Lo⊢;refine dv KU.GR K8 GG.str (fun w w=>[some (.ref d),some (.ref H),some (.ref IX),some (.ref Jj),some (.int k),none,none]) (fun w(a:Nat×List (Str×Int))=>(K,.list (K8.map .str))::(D,Hq a.1 a.2)::(JE,.list z)::(Jj,.dict m Lh)::V) (fun K1 a=>cX y j M K1 a.2) (Lm,[]) (aD.refl _) (Le.take (Le.skip (Le.skip (Le.skip (Le.skip (Le.skip (Le.skip (Le.refl _))))))))
     ⟨OE,fun Ld c=>(nomatch c),fun k c=>(nomatch c)⟩ (fun w w=>am) ?_ ?_
    ·rintro K1 g LU ⟨K3,X⟩ KX o Z J;have K6:g∉K1:=ez (f:=id) (by rw[Oi];exact KV.3) KX|>fun c=>by rw[Oi]at c;exact c
     have p:∀{KS Lb Lc LG LH:Addr×GL},KS∈V->KS∈Lb::Lc::LG::LH::V:=fun c=>ac (ac (b c));refine aZ K4 (by exists 2) (by walk_at "nput") ?_;refine aH ?_;refine wD (by with_unfolding_all rfl) K4 (by exists 2) ?_;refine pD (fun a:Addr×Nat×List (Str×Int)=>.ref a.1) (fun a=>(a.1,Hq a.2.1 a.2.2)∈V/\aI (.d a.2.2)/\(if j.lookup g≠y.lookup g then j.lookup g else M.lookup g)=a.2.2.lookup g) ?_ fun a Lx=>?_
     ·exists 0;refine bu (p x) l ?_;exists dy (nx (p L)) dw ?_;exists gm (k:=.s g) (ks:=j.map Hf) P.GY (p L) ?_;refine bu (p Hu) HW ?_;exists dy (nx (p N)) dw ?_;refine gm (k:=.s g) (ks:=y.map Hf) P.GY (p N) ?_;refine kT KU (ry _ _) (ry _ _) ?_;exists au (A9 y j g) ?_;refine⟨fun KZ=>?_,fun KZ=>?_⟩
      ·exists 0;refine bu (p x) l ?_;exact k3 (Q,Lk,j) ⟨L,t.2.2.1,if_pos (of_decide_eq_false (sQ KZ))⟩
      ·exists 0;refine bu (p GX) E ?_;exact k3 (T,Ll,M) ⟨Y,u.2.2.1,if_neg fun c=>by rw[decide_eq_false c]at KZ;exact nomatch KZ⟩
     obtain⟨LD,Ln,Lj⟩:=Lx;exists 0;refine au (hz a.2.2 g) ?_;cases U:a.2.2.lookup g with
     |none=>
      exists 0;exists bx rfl ?_;exact J.n (K3,X) (o.skip K6 (Lj.trans U)) ud (Le.refl _)
     |some Lr=>
      exists 0;exists bN rfl ?_;refine cu (p LD) ((hz a.2.2 g).trans (by rw[U];rfl)) ?_;exists 0;exists bu (ac (ac (ac am))) Lo ?_;refine hh (F:=fun IW=>(K,.list (K8.map .str))::(D,IW)::(JE,.list z)::(Jj,.dict m Lh)::V) (.there .here) (cE (by have c:X.length<=K1.length:=o.len;have:=cc KX;exact aj (mf c (mf (Nq this) KV.5)) rfl)) fun Lv=>?_;exists au (o.put K6) ?_;exact J.n (Lv,X++[(g,Lr)]) (o.add K6 (Ln.2 _ (bI U)).1 (Ln.2 _ (bI U)).2 (Lj.trans U)) ud (Le.refl _)
    ·rintro⟨K3,X⟩ o;subst Lw;exists 0;exact fin2 D K3 (.d X) m _ _ _ (r.dict ⟨o.GO,fun LI Lz=>(o.all LI Lz).2⟩) (I (ED O KT o.GO (o.done KV.4))) (Le.skip (Le.refl _))
end
section
variable{S:aa}
theorem zy(P:Pg){i:List aF}(Hu:(d,GL.dict q (U.map GZ))∈S)(K0:(H,GL.dict v (Jg.map GZ))∈S)(GX:(IX,GL.dict Jd (i.map GZ))∈S)
(Lm:∀c∈U,Ha c∈S)(Ln:∀c∈Jg,Ha c∈S)(Lo:∀c∈i,Ha c∈S)(o:aL 10 U)(Hn:aL 10 Jg)(p:aL 10 i)
(Lp:∀r O Q,af (al U) 4=some (.a r)->af (al Jg) 4=some (.a O)->af (al i) 4=some (.a Q)->O≠r->Q≠r->r.length=O.length/\r.length=Q.length)
(n:∀y B e IX,(y,GL.dict B (e.map GZ))∈IX->(∀c∈e,Ha c∈IX)->aL 10 e->(∀a,dp (af (al U) a) (af (al Jg) a) (af (al i) a) (af (al e) a))->Le S IX->M (.ref y) IX):GN 1 (.ref 608) [.ref d,.ref H,.ref IX] S M:=by
 have I:=o.ca;have J:=Hn.ca;have V:=p.ca;refine aS H3 [some (.ref d),some (.ref H),some (.ref IX),none,none,none,none] P.T P.r5 ad0 rfl fun Ly KZ La Lz Ll=>?_;exists aH ?_;exists eJ fun y Lk=>?_;refine fd P.GY (ks:=U.map GZ) (ac Hu) (cE (aj I rfl)) fun LM=>?_;exists au (mI U) ?_;refine fd P.GY (ks:=Jg.map GZ) (ac (ac K0)) (cE (aj J rfl)) fun LN=>?_;refine au (mI Jg) ?_;refine eA (by exists 2) (by exists 2) (by simp only[Nb];exact bC (aj (No I J) rfl)) fun LO=>?_;exists dY (Ng ..) ?_;refine fd P.GY (ks:=i.map GZ) (ac (ac (ac (ac GX)))) (cE (aj V rfl)) fun LP=>?_;refine au (mI i) ?_;refine eA (by exists 2) (by exists 2) (by simp only[Nb,Nm];exact bC (aj (No (No I J) V) rfl)) fun LQ=>?_;refine au (show(U.map (fun x=>x.1)++Jg.map (fun x=>x.1)).map GG.int++(i.map (fun x=>x.1)).map GG.int=((U.map (fun x=>x.1)++Jg.map (fun x=>x.1)++i.map (fun x=>x.1)).map ae.i).map ae.GP by rw[<-Ng,Nf];rfl) ?_;exists 0;refine mo am (by simp only[Nb,Nm];exact aj (No (No I J) V) rfl) fun LS LL Lv Lu=>?_;exists wz (acd I J V Lv Lu) fun KY A=>?_;exists mr am A.1 A.2 fun Lw=>?_;refine dv La.GR KY GG.int (fun w w=>[some (.ref d),some (.ref H),some (.ref IX),some (.ref y),none,none,none]) (fun w(x:Nat×List aF×aa)=>(Lw,.list (KY.map .int))::(y,.dict x.1 (x.2.1.map GZ))::(x.2.2++S)) (fun N x=>gS S x.2.2 (af (al U)) (af (al Jg)) (af (al i)) N x.2.1) (Lk,[],[]) (aD.refl _) (Le.take (Le.skip (Le.skip (Le.skip (Le.skip (Le.skip (Le.skip (Le.refl _))))))))
  ⟨OE,fun c b=>(nomatch b),fun a b=>(nomatch b)⟩ (fun w w=>am) ?_ ?_
 ·rintro N a LU ⟨B,e,L⟩ X m LA KW;have T:a∉N:=ez (f:=id) (by rw[Oi];exact A.3) X|>fun b=>by rw[Oi]at b;exact b
  have Lq:a∉e.map (fun x=>x.1):=fun h=>by
   refine ah (Na.mp h) fun n Lb=>?_;exact T (Lb.2▸(m.all n Lb.1).1)
  have Lx:(e.map GZ).length<=sizeLine:=cE (by
   have g:=dH m.GO (m:=N) fun LZ Lr=>by refine ah (Na.mp Lr) fun c Lc=>?_;obtain rfl:=Lc.2;exact(m.all c Lc.1).1
   have:=cc X;rw[Nb]at g;have g:e.length<=N.length:=g;exact aj (mf g (mf (Nq this) A.5)) rfl)
  have z:∀{K8:Addr×GL},K8∈S->K8∈L++S:=fun b=>NA _ b;have K9:∀(j:Addr)(l:Nat)(k:ag),a6 (e.map GZ) (.i a) (.ref j)=(e++[(a,j,l,k)]).map GZ:=fun j l k=>by
   rw[er,Ng];rfl;intro D;rw[Nf]at D;refine ah (Na.mp D) fun n Ld=>?_;exact Lq (Na.mpr ⟨n,Ld.1,ae.i.inj Ld.2⟩)
  refine aZ KZ (by exists 2) (by walk_at "nput") ?_;refine EK P KZ La (z Hu) (z K0) (z GX) rfl rfl rfl (oi (fun c b=>z (Lm c b)) o a) (oi (fun c b=>z (Ln c b)) Hn a) (oi (fun c b=>z (Lo c b)) p a) (fun g s t=>?_) Lx ?_ id (fun j l k Y h C G=>?_) (fun j l k Y LC LD LB C G K7=>?_) fun G=>?_
  ·have D:=(A.4 a).mp (bd X);have KX:∀{e:List aF}{Ls:Nat},aL Ls e->ay (e.map GZ) (.i a)=none->a∉e.map (fun x=>x.1):=fun C b h=>by
    refine ah (Na.mp h) fun c Lf=>?_;rw[<-Lf.2,ep C.GO Lf.1]at b;exact nomatch b
   rw[Nu,Nu]at D;exact D.elim (fun b=>b.elim (KX o g) (KX Hn s)) (KX p t)
  ·intro r O Q g s t;have Z:a=4:=by
    rcases gQ U o.GO a with⟨c,E,u,KV,_⟩|⟨KV,_⟩
    ·rw[KV]at g;have K3:=(o.all c E).2.1;rw[NM g]at K3;rw[<-u];exact of_decide_eq_true K3.symm
    ·rw[KV]at g;exact nomatch g
   rw[Z]at g s t;exact Lp r O Q g s t
  ·rw[K9 j l k];exact KW.n (Y,e++[(a,j,l,k)],L) (m.add (more:=[]) (r:=(a,j,l,k)) T C h G) nt (Le.refl _)
  ·rw[K9 j l k]at K7;exact KW.n (Y,e++[(a,j,l,k)],(j,dU l k)::L) (m.add (more:=[(j,dU l k)]) (r:=(a,j,l,k)) T C (.head _) G) nt ((Le.cU (((List.Perm.swap ..).cons _).trans (List.Perm.swap ..))).trans K7)
  ·exact KW.n (B,e,L) (m.skip T G) nt (Le.refl _)
 ·rintro⟨B,e,L⟩ m;exists 0;have K1:∀a,dp (af (al U) a) (af (al Jg) a) (af (al i) a) (af (al e) a):=fun a=>by
   by_cases b:a∈KY
   ·exact m.ok a b
   ·have u:a∉U.map (fun x=>x.1)++Jg.map (fun x=>x.1)++i.map (fun x=>x.1):=fun h=>b ((A.4 a).mpr h);rw[Nu,Nu]at u;have Z:a∉e.map (fun x=>x.1):=fun h=>by
     refine ah (Na.mp h) fun n Lg=>?_;exact b (by rw[<-Lg.2];exact(m.all n Lg.1).1)
    rw[hE (fun h=>u (.inl (.inl h)):a∉U.map (fun x=>x.1)),hE (fun h=>u (.inl (.inr h)):a∉Jg.map (fun x=>x.1)),hE (fun h=>u (.inr h):a∉i.map (fun x=>x.1)),hE Z];exact rfl
  have K2:∀a:Int,a∈U.map (fun x=>x.1)->a∈Jg.map (fun x=>x.1)->a∈i.map (fun x=>x.1)->a∈e.map (fun x=>x.1):=fun a g s t=>by
   have:=K1 a;rcases gQ U o.GO a with⟨LW,LF,LI,K4,KS⟩|⟨K4,KS⟩
   ·rcases gQ Jg Hn.GO a with⟨LX,LG,LJ,K5,KT⟩|⟨K5,KT⟩
    ·rcases gQ i p.GO a with⟨LY,LH,LK,K6,KU⟩|⟨K6,KU⟩
     ·rw[K4,K5,K6]at this;by_cases b:a∈e.map (fun x=>x.1)
      ·exact b
      ·rw[hE b]at this;exact absurd this (EH _ _ _)
     ·refine ah (Na.mp t) fun n Lh=>?_;rw[<-Lh.2,ep p.GO Lh.1]at KU;exact nomatch KU
    ·refine ah (Na.mp s) fun n Li=>?_;rw[<-Li.2,ep Hn.GO Li.1]at KT;exact nomatch KT
   ·refine ah (Na.mp g) fun n Lj=>?_;rw[<-Lj.2,ep o.GO Lj.1]at KS;exact nomatch KS
  refine Ll.r (n y B e _ am (fun c E=>ac (m.all c E).2.2) ⟨m.GO,fun c E=>(m.all c E).2.1,K2 0 o.ev Hn.ev p.ev,K2 4 o.ea Hn.ea p.ea⟩ K1 (Le.skip (Le.eB _ (Le.refl _)))) (Le.skip (Le.refl _))
end
theorem akj(j:(IV.map (fun x=>x.1)).Nodup)(k:(Jf.map (fun x=>x.1)).Nodup)(e:∀a,(af IV a).map ag.bA=(af Jf a).map ag.bA)(i:as b=as L):fu IV b=fu Jf L:=by
 have h:∀a,(af IV a).isSome=(af Jf a).isSome:=fun a=>by
  have:=congrArg Option.isSome (e a);rwa[Option.isSome_map,Option.isSome_map]at this
 have f:da (IV.map (fun x=>x.1))=da (Jf.map (fun x=>x.1)):=tl ((Qx j k).mpr fun a=>by
  rw[<-dT,<-dT,h])
 unfold fu;rw[f,i];have g:(da (Jf.map (fun x=>x.1))).map (fun a=>GG.tup [.int a,.int 0,gK (af IV a)])=(da (Jf.map (fun x=>x.1))).map fun a=>GG.tup [.int a,.int 0,gK (af Jf a)]:=by
  apply N7;intro a _;have:gK (af IV a)=gK (af Jf a):=by
   have d:∀c:Option ag,gK c=((c.map ag.bA).map ag.Hs).getD .none:=fun c=>by cases c<;>rfl
   rw[d,d,e]
  rw[this]
 rw[g]
noncomputable def cn(a b:Option ag):Prop:=a.map ag.bA=b.map ag.bA
theorem jZ(d:(b.map (fun x=>x.1)).Nodup)(e:(L.map (fun x=>x.1)).Nodup):as b=as L↔∀a,b.lookup a=L.lookup a:=
 ⟨fun c a=>by rw[<-dx b,<-dx L,c],AI d e⟩
theorem fB(c:(b.map (fun x=>x.1)).Nodup)(e:(L.map (fun x=>x.1)).Nodup):cn (some (.d b)) (some (.d L))↔∀a,b.lookup a=L.lookup a:=by
 rw[<-jZ c e];unfold cn;simp[ag.bA]
theorem eI:cn (some (.a j)) (some (.a O))↔j=O:=by unfold cn;simp[ag.bA]
inductive lJ:Option ag->Option ag->Option ag->Option ag->Prop
 |arr (xs h i:List Int):lJ (some (.a xs)) (some (.a h)) (some (.a i)) (some (.a ((List.range xs.length).map (dg xs h i))))
 |dict {f e g c:List (Str×Int)}:(c.map (fun x=>x.1)).Nodup->(∀b,c.lookup b=if e.lookup b≠f.lookup b then e.lookup b else g.lookup b)->lJ (some (.d f)) (some (.d e)) (some (.d g)) (some (.d c))
noncomputable def MJ(a b c d:Option ag):Prop:=(cn b a->cn d c)/\(cn c a->cn d b)/\(¬cn b a->¬cn c a->lJ a b c d)
theorem MJ.unique{g h:Option ag}(c:MJ IU IW Ju g)(d:MJ IU IW Ju h):cn g h:=by
 by_cases a:cn IW IU
 ·exact(c.1 a).trans (d.1 a).symm
 ·by_cases b:cn Ju IU
  ·exact(c.2.1 b).trans (d.2.1 b).symm
  ·have e:=d.2.2 a b;cases c.2.2 a b with
   |arr m n o=>cases e;exact rfl
   |dict k i=>cases e with
    |dict l j=>exact(fB k l).mpr fun f=>(i f).trans (j f).symm
noncomputable def NC(b:Int)(a c f:Option ag):Prop:=∀d∈cC b a c,∀e∈cC b a f,¬dR d e
theorem NC.symm(b:NC k IU IW Ju):NC k IU Ju IW:=fun e c f d a=>b f d e c (zb.mp a)
theorem jF(a:List ak):dR a a:=rfl
theorem zc(a:ak)(b:List ak):dR [a] (a::b):=by
 unfold dR;rfl
theorem aac(d:NC k IU IW Ju)(e:[aB k]∈cC k IU IW):cC k IU Ju=[]:=by
 cases c:cC k IU Ju with
 |nil=>rfl
 |cons b g=>
  have a:b∈cC k IU Ju:=by rw[c];exact .head _
  obtain⟨f,rfl⟩:=n6 b a;exact absurd (zc _ f) (d _ e _ a)
theorem sP{b:D->List I1}{d:List D}(c:d.flatMap b=[]):∀a∈d,b a=[]:=fun a e=>by
 rw[Pj]at c;exact c a e
theorem s4(a:q<j.length):j.getD q 0=j[q]:=by rw[Qm,N2 a];rfl
theorem Fb(a:bH k j O q=[]):j.getD q 0=O.getD q 0:=by
 unfold bH at a;by_cases b:j.getD q 0=O.getD q 0
 ·exact b
 ·rw[if_neg b]at a;exact nomatch a
theorem Ff(a:b7 k b L h=[]):ax b h=true/\ax L h=true/\av b h=av L h:=by
 unfold b7 at a;by_cases c:ax b h=false
 ·rw[if_pos c]at a;exact nomatch a
 rw[if_neg c]at a;by_cases d:ax L h=false
 ·rw[if_pos d]at a;exact nomatch a
 rw[if_neg d]at a;by_cases e:av b h=av L h
 ·exact⟨Sq _▸c,Sq _▸d,e⟩
 ·rw[if_neg e]at a;exact nomatch a
theorem tX(c:h∉b.map (fun x=>x.1)):b.lookup h=none:=by
 cases a:b.lookup h with
 |none=>rfl
 |some d=>exact absurd (Na.mpr ⟨_,bI a,rfl⟩) c
theorem af8(t:∀b,IU=some b->aI b)(u:∀b,IW=some b->aI b)(x:∀b e,IU=some b->IW=some e->bR b=bR e)(c:cC k IU IW=[]):cn IW IU:=by
 unfold cC at c;rw[OS]at c;cases IU with
 |none=>cases IW with
  |none=>rfl
  |some b=>cases b<;>exact absurd c (PV _ _)
 |some b=>cases IW with
  |none=>cases b<;>exact absurd c (PV _ _)
  |some e=>
   have o:=x b e rfl rfl;cases b with
   |a h=>cases e with
    |d r=>cases o
    |a i=>
     have c:(if h.length=i.length then(List.range h.length).flatMap (bH k h i)else[([aB k],"")])=[]:=c;by_cases l:h.length=i.length
     ·rw[if_pos l]at c;refine eI.mpr (Pa l.symm fun v g f=>?_);have b:=Fb (sP c v (NX.mpr f));rw[s4 f,s4 g]at b;exact b.symm
     ·rw[if_neg l]at c;exact nomatch c
   |d y=>cases e with
    |a i=>cases o
    |d r=>
     refine(fB ((u _ rfl).1) ((t _ rfl).1)).mpr fun s=>?_;by_cases m:s∈br y r
     ·obtain⟨g,f,j⟩:=Ff (sP c s m);rw[eQ]at g f;obtain⟨z,p⟩:=Oa.mp g;obtain⟨A,q⟩:=Oa.mp f;unfold av at j;rw[p,q]at j;rw[p,q];exact congrArg some j.symm
     ·rw[tX fun n=>m (eU.mpr (.inl n)),tX fun n=>m (eU.mpr (.inr n))]
theorem ks(f:(b.map (fun x=>x.1)).Nodup)(g:(L.map (fun x=>x.1)).Nodup)(c:h∈(bG (as b) (as L)).map (fun x=>x.1)):[aB k,ak.key h]∈cC k (some (.d b)) (some (.d L)):=by
 show _∈((br b L).flatMap (b7 k b L)).map (fun x=>x.1);rw[<-mD k f g,<-jQ,Nf];refine ah (Na.mp c) fun e a=>?_;obtain rfl:=a.2;exact Na.mpr ⟨e,a.1,rfl⟩
theorem kl(f:j.length=O.length)(d:q∈(cN j O).map (fun x=>x.1)):[aB k,ak.idx (q:Nat)]∈cC k (some (.a j)) (some (.a O)):=by
 unfold cC;show _∈(if j.length=O.length then(List.range j.length).flatMap (bH k j O)else[([aB k],"")]).map (fun x=>x.1);rw[if_pos f];rw[hb,Nf]at d;obtain⟨b,c,rfl⟩:=Na.mp d;obtain⟨c,e⟩:=NL.mp c;refine Na.mpr ⟨(([aB k,.idx (b:Nat)],aU k++(" ["++a0 b++"]")++": int "++a0 (j.getD b 0)++" -> int "++a0 (O.getD b 0)):aJ),NJ.mpr ⟨b,c,?_⟩,rfl⟩;unfold bH;rw[if_neg fun g=>by rw[decide_eq_true g]at e;exact nomatch e];exact Nj.mpr rfl
theorem nA{d:List Int}(e:j.length=O.length)(f:j.length=d.length):MJ (some (.a j)) (some (.a O)) (some (.a d)) (some (.a ((List.range j.length).map (dg j O d)))):=by
 refine⟨fun b=>?_,fun b=>?_,fun x x=>.arr ..⟩
 ·have b:=eI.mp b;subst b;refine eI.mpr (Pa (by simp[f]) fun h g c=>?_);rw[Qn,Ra];unfold dg;rw[if_pos rfl];simp[c]
 ·have b:=eI.mp b;subst b;refine eI.mpr (Pa (by simp[e]) fun h g c=>?_);rw[Qn,Ra];unfold dg
  split
  ·rename_i b;rw[<-b];simp[c]
  ·simp[c]
theorem kJ(h:(b.map (fun x=>x.1)).Nodup)(i:(L.map (fun x=>x.1)).Nodup)(j:(Je.map (fun x=>x.1)).Nodup)(f:(J4.map (fun x=>x.1)).Nodup)(e:∀a,J4.lookup a=if L.lookup a≠b.lookup a then L.lookup a else Je.lookup a):MJ (some (.d b)) (some (.d L)) (some (.d Je)) (some (.d J4)):=by
 refine⟨fun c=>?_,fun c=>?_,fun x x=>.dict f e⟩
 ·have c:=(fB i h).mp c;exact(fB f j).mpr fun a=>by rewrite[e,if_neg (fun g=>g (c a))];rfl
 ·have c:=(fB j h).mp c;refine(fB f i).mpr fun a=>?_;rw[e]
  split
  ·rfl
  ·rename_i g;rw[c];exact(Qy.mp g).symm
theorem rF(e:(b.map (fun x=>x.1)).Nodup)(f:(L.map (fun x=>x.1)).Nodup)(c:b.lookup h≠L.lookup h):h∈(bG (as b) (as L)).map (fun x=>x.1):=by
 rcases kx (cz e) (cz f) h with⟨_,a⟩|⟨g,d,_⟩
 ·rw[dx,dx]at a;exact absurd a c
 ·exact Na.mpr ⟨_,bI d,rfl⟩
theorem MJ.symm{t:Option ag}(l:∀b,IU=some b->aI b)(o:∀b,IW=some b->aI b)(p:∀b,Ju=some b->aI b)(y:∀c h g,IU=some (.a c)->IW=some (.a h)->Ju=some (.a g)->h≠c->g≠c->c.length=h.length/\c.length=g.length)(s:NC k IU IW Ju)(e:MJ IU Ju IW t):MJ IU IW Ju t:=by
 refine⟨e.2.1,e.1,fun q r=>?_⟩;cases e.2.2 r q with
 |arr c g h=>
  obtain⟨v,x⟩:=y c h g rfl rfl rfl (fun b=>q (eI.mpr b)) (fun b=>r (eI.mpr b));have b:(List.range c.length).map (dg c g h)=(List.range c.length).map (dg c h g):=N7 fun i m=>by
   have m:=NX.mp m;unfold dg;by_cases f:h.getD i 0=c.getD i 0
   ·rw[if_pos f];by_cases d:g.getD i 0=c.getD i 0
    ·rw[if_pos d,f,d]
    ·rw[if_neg d]
   ·rw[if_neg f];by_cases d:g.getD i 0=c.getD i 0
    ·rw[if_pos d]
    ·exact absurd (jF _) (s _ (kl v (Na.mpr ⟨_,bI (by rw[ky m,if_neg (NZ f)]),rfl⟩)) _ (kl x (Na.mpr ⟨_,bI (by rw[ky m,if_neg (NZ d)]),rfl⟩:i∈(cN c g).map (fun x=>x.1))))
  rw[b];exact .arr ..
 | @dict n u A B z b=>
  refine .dict z fun j=>?_;rw[b j];by_cases f:A.lookup j=n.lookup j
  ·by_cases d:u.lookup j=n.lookup j
   ·rw[if_neg fun e=>e d,if_neg fun e=>e f,f,d]
   ·rw[if_pos d,if_neg fun e=>e f]
  ·by_cases d:u.lookup j=n.lookup j
   ·rw[if_neg fun e=>e d,if_pos f]
   ·exact absurd (jF _) (s _ (ks (l _ rfl).1 (o _ rfl).1 (rF (l _ rfl).1 (o _ rfl).1 (NZ f))) _ (ks (l _ rfl).1 (p _ rfl).1 (rF (l _ rfl).1 (p _ rfl).1 (NZ d))))
theorem su{b:ag}(c:aI Jl)(e:aI b)(f:bR Jl=bR b):ch Jl b=true↔cn (some Jl) (some b):=by
 cases Jl with
 |a i=>cases b with
  |d h=>cases f
  |a g=>rw[eI];show decide (i=g)=true↔_;exact decide_eq_true_iff
 |d j=>cases b with
  |a g=>cases f
  |d h=>rw[fB c.1 e.1];exact Ax c.1 e.1
noncomputable abbrev cx(b:Int)(c d e:Option ag):Prop:=(∀a,c=some a->aI a/\bR a=decide (b=4))/\(∀a,d=some a->aI a/\bR a=decide (b=4))/\(∀a,e=some a->aI a/\bR a=decide (b=4))/\(NC b c d e)
theorem cx.Hj(b:cx k IU IW Ju):∀a,IU=some a->aI a/\bR a=decide (k=4):=b.1
theorem cx.go(b:cx k IU IW Ju):∀a,IW=some a->aI a/\bR a=decide (k=4):=b.2.1
theorem cx.gt(b:cx k IU IW Ju):∀a,Ju=some a->aI a/\bR a=decide (k=4):=b.2.2.1
theorem cx.Hp(a:cx k IU IW Ju):NC k IU IW Ju:=a.2.2.2
theorem cx.swap(a:cx k IU IW Ju):cx k IU Ju IW:=⟨a.Hj,a.gt,a.go,a.Hp.symm⟩
theorem cx.hn(b:cx k IU IW Ju)(g:[aB k]∈cC k IU IW):cn Ju IU:=
 af8 (fun a c=>(b.Hj a c).1) (fun a c=>(b.gt a c).1) (fun a d e f=>(b.Hj a e).2.trans (b.gt d f).2.symm) (aac b.Hp g)
theorem cx.lR(a:cx k IU IW Ju)(b:[aB k]∈cC k IU Ju):cn IW IU:=a.swap.hn b
theorem wt:[aB k]∈cC k none (some Jl):=by cases Jl<;>exact .head _
theorem oM:[aB k]∈cC k (some Jl) none:=by cases Jl<;>exact .head _
theorem oN(b:j.length≠O.length):[aB k]∈cC k (some (.a j)) (some (.a O)):=by
 show _∈(if j.length=O.length then(List.range j.length).flatMap (bH k j O)else[([aB k],"")]).map (fun x=>x.1);rw[if_neg b];exact .head _
theorem cx.nl{c:List Int}(d:cx k (some (.a j)) (some (.a O)) (some (.a c)))(e:O≠j)(f:c≠j):j.length=O.length/\j.length=c.length:=by
 refine⟨Sr fun b=>?_,Sr fun b=>?_⟩
 ·exact f (eI.mp (d.hn (oN b)))
 ·exact e (eI.mp (d.lR (oN b)))
theorem MJ.one{d:Option ag}(b:cn IW IU)(c:cn d Ju):MJ IU IW Ju d:=⟨fun x=>c,fun a=>c.trans (a.trans b.symm),fun a=>absurd b a⟩
theorem MJ.two{d:Option ag}(b:cn Ju IU)(c:cn d IW):MJ IU IW Ju d:=⟨fun a=>c.trans (a.trans b.symm),fun x=>c,fun x a=>absurd b a⟩
theorem EG{h:Option ag}(c:cx k IU IW Ju)(b:dp IU IW Ju h):MJ IU IW Ju h:=by
 cases IU with
 |none=>
  cases IW with
  |none=>exact .one rfl (by rw[b];exact rfl)
  |some e=>
   exact .two (c.hn wt) (by rw[b];exact rfl)
 |some IU=>
  cases IW with
  |none=>
   exact .two (c.hn oM) (by rw[b];exact rfl)
  |some IW=>
   cases Ju with
   |none=>
    exact .one (c.lR oM) (by rw[b];exact rfl)
   |some Ju=>
    unfold dp at b;dsimp only at b;by_cases f:ch IW IU=true
    ·replace b:=(if_pos f)▸b;exact .one ((su (c.go _ rfl).1 (c.Hj _ rfl).1 ((c.go _ rfl).2.trans (c.Hj _ rfl).2.symm)).mp f) (by rw[b];exact rfl)
    ·rw[if_neg f]at b;by_cases g:ch Ju IU=true
     ·rw[if_pos g]at b;exact .two ((su (c.gt _ rfl).1 (c.Hj _ rfl).1 ((c.gt _ rfl).2.trans (c.Hj _ rfl).2.symm)).mp g) (by rw[b];exact rfl)
     ·rw[if_neg g]at b;cases IU with
      |a r=>cases IW with
       |d l=>exact b.elim
       |a n=>cases Ju with
        |d m=>exact b.elim
        |a o=>
         refine aW (c.nl (fun e=>f (by rw[e];exact decide_eq_true rfl)) (fun e=>g (by rw[e];exact decide_eq_true rfl))) fun i=>?_;rw[b];exact nA i.1 i.2
      |d q=>cases IW with
       |a n=>exact b.elim
       |d l=>cases Ju with
        |a o=>exact b.elim
        |d m=>
         obtain⟨p,rfl,j,e⟩:=b;exact kJ (c.Hj _ rfl).1.1 (c.go _ rfl).1.1 (c.gt _ rfl).1.1 j e
noncomputable def OD(a b:Option ag)(c:List ai):Prop:=gb a b c\/(a=none/\b=none/\c=[])
theorem aji(b:ag)(e:aI b):b.bA.bA=b.bA:=by
 cases b with
 |a f=>rfl
 |d c=>show ag.d (as (as c))=ag.d (as c);rw[(jZ (cz e.1) e.1).mpr (dx c)]
theorem i8{R:List ai}(a:OD (some (.d b)) (some (.d L)) R):R=(bG (as b) (as L)).map fG:=by
 rcases a with⟨e,c,rfl⟩|⟨a,_⟩
 ·rw[c,<-jQ,Nf,Nf];rfl
 ·exact nomatch a
theorem uD{R:List ai}(c:OD (some (.a j)) (some (.a O)) R):∃b,cF j O b/\R=(cR j O b).map fun d=>([ak.idx (d.1:Nat)],d.2):=by
 rcases c with⟨g,⟨b,e,f⟩,rfl⟩|⟨c,_⟩
 ·exact⟨b,e,by rw[f,Nf];rfl⟩
 ·exact nomatch c
theorem i7{R:List ai}(b:j.length=O.length)(c:OD (some (.a j)) (some (.a O)) R):R=(cN j O).map e9:=by
 obtain⟨e,d,rfl⟩:=uD c;rw[<-ah7 b d,Nf];rfl
theorem nO{R:List ai}(d:j.length≠O.length)(e:OD (some (.a j)) (some (.a O)) R):∃c,cQ j O c/\R=(dE j O c).map e9:=by
 obtain⟨c,b,rfl⟩:=uD e;rcases b with⟨f,_⟩|⟨_,b⟩
 ·exact(d f).elim
 ·exact⟨c,b,by rw[<-pl b,Nf];rfl⟩
theorem j8{f:D->List I1}(c:∀b,(f b).length<=1)(a:List D):(a.flatMap f).length<=a.length:=by
 induction a with
 |nil=>exact Ni _
 |cons b a d=>rw[NO,Nm,N4,OJ];exact No d (c b)
theorem ol(a b:List Int):(cN a b).length<=a.length:=by
 rw[hb,Nb];exact mf (Ov ..) (Nd NS)
theorem rW(c:aI (.d b))(e:aI (.d L)):(bG (as b) (as L)).length<=12:=by
 have g:=j8 (f:=fI (as b) (as L)) (rD _ _) (br (as b) (as L));have a:=hB (as b) (as L);replace a:=(gq _)▸(gq _)▸a;have:=ci c;have:=ci e;unfold bG;omega
theorem Aa(h:(b.map (fun x=>x.1)).Nodup)(i:(L.map (fun x=>x.1)).Nodup)(g:∀d,b.lookup d=L.lookup d):bG (as b) (as L)=[]:=by
 cases f:bG (as b) (as L)with
 |nil=>rfl
 |cons e k=>
  exfalso;rcases kx (cz h) (cz i) e.1 with⟨a,_⟩|⟨j,_,_,c⟩
  ·rw[f]at a;simp[NF]at a
  ·rw[dx,dx]at c;exact c (g e.1)
theorem aih(a:List Int):cN a a=[]:=by
 unfold cN;rw[Pj];intro b _;exact if_pos rfl
theorem hX{R:List ai}(f:∀b,IU=some b->aI b)(h:∀b,IW=some b->aI b)(c:OD IU IW R)(e:cn IW IU):R=[]:=by
 cases IU with
 |none=>
  cases IW with
  |none=>
   rcases c with c|⟨_,_,c⟩
   ·exact c.elim
   ·exact c
  |some b=>cases e
 |some IU=>cases IW with
  |none=>cases e
  |some IW=>
   cases IU with
   |a k=>cases IW with
    |d j=>cases e
    |a m=>
     have b:=eI.mp e;subst b;rw[i7 rfl c,aih];rfl
   |d l=>cases IW with
    |a k=>cases e
    |d j=>
     have g:=(h _ rfl).1;rw[i8 c,Aa ((f _ rfl).1) g fun i=>((fB g ((f _ rfl).1)).mp e i).symm];rfl
theorem pm(a b:List Int)(c:List (Nat×Nat)):(dE a b c).length<=a.length+b.length:=by
 have d:=j8 (f:=fJ a c) (fun g=>by unfold fJ;repeat (first|split|simp)) (List.range a.length);have e:=j8 (f:=iL b c) (fun g=>by unfold iL;repeat (first|split|simp)) (List.range b.length);rw[NS]at d e;unfold dE;rw[Nm];exact No d e
theorem rX(c:aI (.d b))(f:aI (.d L))(g:aI (.d Je))(B:NC k (some (.d b)) (some (.d L)) (some (.d Je))):
  let e:=bG (as b) (as L)++bG (as b) (as Je)
  (∀a,(bJ (as b) e).lookup a=if L.lookup a≠b.lookup a then L.lookup a else Je.lookup a)/\(e.map (fun x=>x.1)).Nodup/\(∀i∈e,f5 (as b) i)/\e.length<60/\(ag.d (bJ (as b) e)).ok:=by
 intro e;have l:∀a,a∈(bG (as b) (as L)).map (fun x=>x.1)->a∉(bG (as b) (as Je)).map (fun x=>x.1):=fun a u v=>B _ (ks c.1 f.1 u) _ (ks c.1 g.1 v) (jF _);have o:∀a,(bJ (as b) e).lookup a=if L.lookup a≠b.lookup a then L.lookup a else Je.lookup a:=fun a=>by
  have:=(Av (cz c.1) (cz f.1) (cz g.1) l) a;rwa[dx,dx,dx]at this
 refine⟨o,?_,fun i z=>?_,?_,?_,(my (cz c.1))⟩
 ·rw[Ng,NK];exact⟨jR (cz c.1) (cz f.1),jR (cz c.1) (cz g.1),fun q x C y r=>l q x (r▸y)⟩
 ·exact(Nu.mp z).elim (rV i) (rV i)
 ·have:=rW c f;have:=rW c g;rw[Nm];omega
 ·have:=dH (my (cz c.1)) (m:=cS) fun p h=>by
   rw[eV,o]at h;have n:∀j:List (Str×Int),aI (.d j)->(j.lookup p).isSome=true->p∈cS:=fun j s t=>by
    obtain⟨D,A⟩:=Oa.mp t;exact(s.2 _ (bI A)).1
   split at h
   ·exact n L f h
   ·exact n Je g h
  rw[Nb]at this;exact aj (Np (mf this (Nd rfl)) 1) rfl
inductive gf:Option ag->Option ag->Prop
 |new (e:ag):gf none (some e)
 |gone (e:ag):gf (some e) none
 |len {b c:List Int}:b.length≠c.length->gf (some (.a b)) (some (.a c))
theorem gf.at(b:gf IU IW):[aB k]∈cC k IU IW:=by
 cases b with
 |new a=>exact wt
 |gone a=>exact oM
 |len a=>exact oN a
theorem uE{R:List ai}(b:gf IU IW)(g:∀a,IU=some a->aI a)(d:∀a,IW=some a->aI a)(f:OD IU IW R):R≠[]/\∃l,cY IU R l/\cn l IW:=by
 cases b with
 |new a=>
  rcases f with b|⟨_,b,_⟩
  ·rw[show R=[([],.added a.bA.Hs)]from b];exact⟨PV _ _,some a.bA,.add (ag.eX (gs (d _ rfl))),congrArg some (aji a (d _ rfl))⟩
  ·exact nomatch b
 |gone a=>
  rcases f with b|⟨b,_⟩
  ·rw[show R=[([],.gone a.bA.Hs)]from b];exact⟨PV _ _,none,.gone (gs (g _ rfl)),rfl⟩
  ·exact nomatch b
 | @len e j a=>
  obtain⟨h,c,rfl⟩:=nO a f;have k:dE e j h≠[]:=fun i=>by
   have:=lT a (.inr ⟨a,c⟩);rw[<-pl c,i]at this;exact this rfl
  have m:=(g _ rfl).2.1;have n:=(d _ rfl).2.1;have:=cY.arr (xs:=e) (acs:=dE e j h) (gs (g _ rfl)) (by have:=pm e j h;exact aj (Np (mf this (No m n)) 1) rfl) (by rw[(po c)];exact gs (d _ rfl)) k (xh c);rw[(po c)]at this;exact⟨fun i=>k (OS.mp i),_,this,rfl⟩
noncomputable def lK(a b d:Option ag)(R:List ai):Prop:=(R=[]/\MJ a b d a)\/(R≠[]/\∃c,cY a R c/\MJ a b d c)
theorem nB{e:List ai}(c:cx k IU IW Ju)(g:OD IU IW Js)(h:OD IU Ju e)(d:gf IU IW):lK IU IW Ju (Js++e):=by
 rw[hX (fun a b=>(c.Hj a b).1) (fun a b=>(c.gt a b).1) h (c.hn d.at),NU];obtain⟨j,l,f,i⟩:=uE d (fun a b=>(c.Hj a b).1) (fun a b=>(c.go a b).1) g;exact .inr ⟨j,l,f,.two (c.hn d.at) i⟩
theorem nC{d:List ai}(c:cx k IU IW Ju)(h:OD IU IW Js)(i:OD IU Ju d)(e:gf IU Ju):lK IU IW Ju (Js++d):=by
 have f:=c.lR e.at;rw[hX (fun a b=>(c.Hj a b).1) (fun a b=>(c.go a b).1) h f,List.nil_append];obtain⟨l,m,g,j⟩:=uE e (fun a b=>(c.Hj a b).1) (fun a b=>(c.gt a b).1) i;exact .inr ⟨l,m,g,.one f j⟩
theorem aab{v:List ai}(e:cx k IU IW Ju)(i:OD IU IW Js)(j:OD IU Ju v):lK IU IW Ju (Js++v):=by
 cases IU with
 |none=>
  cases IW with
  |some b=>exact nB e i j (.new b)
  |none=>
   cases Ju with
   |some b=>exact nC e i j (.new b)
   |none=>rw[hX (fun b c=>(e.Hj b c).1) (fun b c=>(e.go b c).1) i rfl,hX (fun b c=>(e.Hj b c).1) (fun b c=>(e.gt b c).1) j rfl];exact .inl ⟨rfl,.one rfl rfl⟩
 |some IU=>
  cases IW with
  |none=>exact nB e i j (.gone IU)
  |some IW=>
   cases Ju with
   |none=>exact nC e i j (.gone IU)
   |some Ju=>
    have z:=(e.go _ rfl).2.trans ((e.Hj _ rfl).2).symm;have A:=(e.gt _ rfl).2.trans ((e.Hj _ rfl).2).symm;cases IU with
    |d t=>cases IW with
     |a g=>cases z
     |d B=>cases Ju with
      |a h=>cases A
      |d C=>
       refine wx (rX ((fun b c=>(e.Hj b c).1) _ rfl) ((fun b c=>(e.go b c).1) _ rfl) ((fun b c=>(e.gt b c).1) _ rfl) e.Hp) fun l=>?_;have s:=l.1;rw[i8 i,i8 j,<-Ng];by_cases b:bG (as t) (as B)++bG (as t) (as C)=[]
       ·rw[b]at s⊢;refine .inl ⟨rfl,kJ ((fun b c=>(e.Hj b c).1) _ rfl).1 ((fun b c=>(e.go b c).1) _ rfl).1 ((fun b c=>(e.gt b c).1) _ rfl).1 ((fun b c=>(e.Hj b c).1) _ rfl).1 fun p=>?_⟩;rw[<-s p];exact(dx t p).symm
       ·refine .inr ⟨fun u=>b (OS.mp u),_,.dict (gs ((fun b c=>(e.Hj b c).1) _ rfl)) l.4 l.5 b l.2 l.3,?_⟩;exact kJ ((fun b c=>(e.Hj b c).1) _ rfl).1 ((fun b c=>(e.go b c).1) _ rfl).1 ((fun b c=>(e.gt b c).1) _ rfl).1 (cz l.5.2) fun p=>by rw[dx];exact s p
    |a f=>cases IW with
     |d B=>cases z
     |a g=>cases Ju with
      |d C=>cases A
      |a h=>
       by_cases m:f.length=g.length
       ·by_cases n:f.length=h.length
        ·rw[i7 m i,i7 n j,<-Ng];have y:hj (cN f g++cN f h):=fun o q=>(Nu.mp q).elim (k4 f g o) (k4 f h o);have H:((cN f g++cN f h).map (fun x=>x.1)).Nodup:=by
          rw[Ng,NK];exact⟨vA f g,vA f h,fun a E IU G b=>e.Hp _ (kl m E) _ (kl n (b▸G)) (jF _)⟩
         have r:=xi (xs:=f) (ys:=g) (zs:=h);by_cases b:cN f g++cN f h=[]
         ·refine .inl ⟨by rw[b];rfl,?_⟩;have x:=pd (xs:=f) y;rw[r,b]at x;have:=nA m n;rw[show(List.range f.length).map (dg f g h)=_ from x,show(List.range f.length).map (ha f [])=f from Pa (by rw[Nb,NS]) fun J I D=>by rw[Qn,Ra];exact congrArg (Option.getD · 0) (N2 D)]at this;exact this
         ·refine .inr ⟨fun u=>b (OS.mp u),_,.arr (gs ((fun b c=>(e.Hj b c).1) _ rfl)) (by rw[Nm];exact aj (Np (No (mf (ol f g) (((fun b c=>(e.Hj b c).1) _ rfl).2.1)) (mf (ol f h) (((fun b c=>(e.Hj b c).1) _ rfl).2.1))) 1) rfl) ?_ b (BF y H fun o q=>(Nu.mp q).elim (vz f g o) (vz f h o)),?_⟩
          ·rw[r];show((List.range f.length).map _).length<30;rw[Nb,NS];exact NV (((fun b c=>(e.Hj b c).1) _ rfl).2.1) (by decide)
          ·rw[r];exact nA m n
        ·exact nC e i j (.len n)
       ·exact nB e i j (.len m)
section
variable{κ:Type}[DecidableEq κ]
noncomputable def a2(a:κ)(c:List (κ×ai)):List ai:=(c.filter fun b=>decide (b.1=a)).map (fun x=>x.2)
theorem gF(a:κ)(b c:List (κ×ai)):a2 a (b++c)=a2 a b++a2 a c:=by unfold a2;rw[O0,Ng]
theorem nZ(b:κ)(d:List (κ×ai))(a:κ×ai):a2 b (d++[a])=if a.1=b then a2 b d++[a.2]else a2 b d:=by
 rw[gF];by_cases c:a.1=b
 ·rw[if_pos c];unfold a2;rw[PL (p:=fun a:κ×ai=>decide (a.1=b)) (decide_eq_true c)];rfl
 ·rw[if_neg c];unfold a2;rw[PM (p:=fun a:κ×ai=>decide (a.1=b)) (fun e=>c (of_decide_eq_true e))];exact NU _
theorem af4{a:κ}{b:List (κ×ai)}(e:a∉b.map (fun x=>x.1)):a2 a b=[]:=by
 unfold a2;rw[OA.mpr fun c f d=>e (Na.mpr ⟨c,f,of_decide_eq_true d⟩)];rfl
noncomputable def f7(b:List (κ×List ai))(d:List (κ×ai)):Prop:=(∀a∈b,a.2=a2 a.1 d)/\∀c,c∈b.map (fun x=>x.1)↔c∈d.map (fun x=>x.1)
theorem f7.step{e:List (κ×List ai)}{j:List (κ×ai)}(g:f7 e j)(b:κ×ai):f7 (b0 e b.1 b.2) (j++[b]):=by
 have o:∀c,c∈(j++[b]).map (fun x=>x.1)↔c∈e.map (fun x=>x.1)\/c=b.1:=fun c=>by
  rw[Ng,Nu,g.2 c];exact or_congr_right Nj
 unfold b0;by_cases h:e.any (fun a=>decide (a.1=b.1))=true
 ·rw[if_pos h];refine ah (N8.mp h) fun r p=>?_;refine⟨fun s f=>?_,fun c=>?_⟩
  ·refine ah (Na.mp f) fun a l=>?_;rw[<-l.2,nZ];by_cases d:a.1=b.1
   ·rw[if_pos d,if_pos d.symm,<-g.1 a l.1]
   ·rw[if_neg d,if_neg fun k=>d k.symm];exact g.1 a l.1
  ·rw[o c,Nf,show((fun x=>x.1)∘fun a:κ×List ai=>if a.1=b.1 then(a.1,a.2++[b.2])else a)=(fun x=>x.1)from funext fun a=>by
    show(if a.1=b.1 then(a.1,a.2++[b.2])else a).1=a.1
    by_cases d:a.1=b.1
    ·rw[if_pos d]
    ·rw[if_neg d]]
   exact⟨.inl,fun f=>f.elim id fun f=>f▸Na.mpr ⟨r,p.1,of_decide_eq_true p.2⟩⟩
 ·rw[if_neg h];have n:b.1∉e.map (fun x=>x.1):=fun i=>h (by
   refine ah (Na.mp i) fun a q=>?_
   exact N8.mpr ⟨a,q.1,decide_eq_true q.2⟩)
  refine⟨S3.mpr ⟨fun a m=>?_,NP.mpr ?_⟩,fun c=>?_⟩
  ·rw[nZ,if_neg (fun k=>n (k▸Na.mpr ⟨a,m,rfl⟩):b.1≠a.1)];exact g.1 a m
  ·rw[nZ,if_pos rfl,af4 fun i=>n ((g.2 _).mpr i)];rfl
  ·rw[o c,Ng,Nu];exact or_congr_right Nj
theorem f7.fold{b:List (κ×ai)}:∀{c:List (κ×List ai)}{d:List (κ×ai)},f7 c d->f7 (b.foldl (fun c a=>b0 c a.1 a.2) c) (d++b):=by
 induction b with
 |nil=>exact fun e=>(NU _).symm▸e
 |cons a b f=>
  intro c d e;rw[show d++a::b=(d++[a])++b by rw[NR];rfl];exact f (e.step a)
theorem C8(b:List (κ×ai)):(∀a c,(a,c)∈b1 b->c=a2 a b)/\∀a,a∈(b1 b).map (fun x=>x.1)↔a∈b.map (fun x=>x.1):=
 have d:f7 (b1 b) ([]++b):=f7.fold ⟨bs,fun x=>Iff.rfl⟩
 ⟨fun a c e=>d.1 (a,c) e,d.2⟩
theorem kX{b:κ}{c:List (κ×ai)}(f:b∈c.map (fun x=>x.1)):a2 b c≠[]:=fun a=>by
 unfold a2 at a;rw[OS,OA]at a;refine ah (Na.mp f) fun e d=>?_;exact a e d.1 (decide_eq_true d.2)
theorem uY{k:κ}{rows:List (κ×ai)}(d:a2 k rows≠[]):k∈rows.map (fun x=>x.1):=by
 by_cases a:k∈rows.map (fun x=>x.1)
 ·exact a
 ·exfalso;apply d;unfold a2;rw[OS,OA];intro b e;rw[decide_eq_true_eq];exact fun c=>a (Na.mpr ⟨b,e,c⟩)
end
noncomputable def fx(d:Int->List ai)(e:List Int)(c:List (ak×a9)):List (bM×ai):=e.flatMap (fun b=>(d b).map fun f=>(some b,f))++c.map fun a=>(none,(([a.1],a.2):ai))
theorem B8(c:Int->List ai)(f:List Int)(b:List (ak×a9)):(fx c f b).map (fun e=>cs (fg e.1) e.2)=f.flatMap (fun a=>(c a).map (cs (.obj a)))++b.map fun d=>(([.cd,d.1],d.2):ai):=by
 unfold fx;rw[Ng,N9,Nf];refine(congrArg (·++_) ?_);refine et fun a x=>?_;rw[Nf];rfl
theorem af3(c d:Int)(f:List ai):a2 (some c:bM) (f.map fun e=>((some d:bM),e))=if c=d then f else[]:=by
 unfold a2;by_cases a:c=d
 ·subst a;rw[if_pos rfl,OW.mpr (by intro g b;obtain⟨e,_,rfl⟩:=Na.mp b;simp),Nf];simp[PR]
 ·rw[if_neg a,OA.mpr (by intro g b;obtain⟨e,_,rfl⟩:=Na.mp b;simp;exact fun h=>a h.symm)];rfl
theorem n0(f:Int->List ai)(d:List (ak×a9))(b:Int):∀{a:List Int},a.Nodup->a2 (some b) (fx f a d)=if b∈a then f b else[]:=by
 intro a c;unfold fx;rw[gF];have h:a2 (some b:bM) (d.map fun g=>((none:bM),(([g.1],g.2):ai)))=[]:=by
  unfold a2;rw[OS,OA];intro m i;refine ah (Na.mp i) fun n l=>?_;obtain rfl:=l.2;exact nofun
 rw[h,NU];induction a with
 |nil=>rfl
 |cons k a j=>
  have c:=ND.mp c;rw[NO,gF,j c.2,af3];by_cases e:b=k
  ·subst e;simp[c.1]
  ·simp[e]
theorem af5(f:Int->List ai)(b:List (ak×a9))(g:List Int):a2 none (fx f g b)=b.map fun a=>(([a.1],a.2):ai):=by
 unfold fx;rw[gF];have i:a2 (none:bM) (g.flatMap fun d=>(f d).map fun e=>((some d:bM),e))=[]:=by
  unfold a2;rw[OS,OA];intro h c;refine ah (NJ.mp c) fun d k=>?_;refine ah (Na.mp k.2) fun e l=>?_;obtain rfl:=l.2;exact nofun
 have j:a2 (none:bM) (b.map fun a=>((none:bM),(([a.1],a.2):ai)))=b.map fun a=>(([a.1],a.2):ai):=by
  unfold a2;rw[OW.mpr (by intro h c;refine ah (Na.mp c) fun e m=>?_;obtain rfl:=m.2;trivial),Nf];rfl
 rw[i,j];rfl
noncomputable abbrev bV(c os e:List (Int×ag))(f g h:List (Str×Int)):Prop:=(aO c)/\(aO os)/\(aO e)/\(af c 0=some (.d f))/\(af os 0=some (.d g))/\(af e 0=some (.d h))/\(∀b,af c 4=some (.a b)->b.length<=3)/\(∀b,af os 4=some (.a b)->b.length<=6)/\(∀b,af e 4=some (.a b)->b.length<=6)
theorem bV.G8{a os c:List (Int×ag)}(d:bV a os c b L Je):aO a:=d.1
theorem bV.Hn{a os c:List (Int×ag)}(d:bV a os c b L Je):aO os:=d.2.1
theorem bV.Hx{c os a:List (Int×ag)}(d:bV c os a b L Je):aO a:=d.2.2.1
theorem bV.G3{a os c:List (Int×ag)}(e:bV a os c b L Je):af a 0=some (.d b):=e.2.2.2.1
theorem bV.GI{a os c:List (Int×ag)}(e:bV a os c b L Je):af os 0=some (.d L):=e.2.2.2.2.1
theorem bV.GJ{c os a:List (Int×ag)}(e:bV c os a b L Je):af a 0=some (.d Je):=e.2.2.2.2.2.1
theorem bV.le{c os e:List (Int×ag)}(f:bV c os e b L Je):∀d,af c 4=some (.a d)->d.length<=3:=f.2.2.2.2.2.2.1
theorem bV.lo{d os e:List (Int×ag)}(f:bV d os e b L Je):∀c,af os 4=some (.a c)->c.length<=6:=f.2.2.2.2.2.2.2.1
theorem bV.lt{e os c:List (Int×ag)}(f:bV e os c b L Je):∀d,af c 4=some (.a d)->d.length<=6:=f.2.2.2.2.2.2.2.2
theorem bV.hP{d os f:List (Int×ag)}(g:bV d os f b L Je):∀c,af d 4=some (.a c)->c.length<=6:=fun c e=>mf (g.le c e) (by decide)
noncomputable def d2(a os b:List (Int×ag)):Prop:=dW (a8 a os) (a8 a b)=[]
theorem mX(a:aO IV)(b:af IV k=some Jl):k∈dd:=by
 exact(by exists 4:∀k∈([0,1,2,3,4,5]:List Int),k∈dd) k (a.nums _ (bI b))
theorem ut{b os c:List (Int×ag)}(G8:aO b)(Hn:aO os)(r:aO c)(l:d2 b os c)(a:Int):NC a (af b a) (af os a) (af c a):=by
 intro o e p n m;by_cases d:a∈dd
 ·have:(o,p)∈dW (a8 b os) (a8 b c):=by
   rw[kG];refine⟨?_,?_,m⟩
   ·refine ah (Na.mp e) fun g h=>?_;exact Na.mpr ⟨g,NJ.mpr ⟨a,d,h.1⟩,h.2⟩
   ·refine ah (Na.mp n) fun g i=>?_;exact Na.mpr ⟨g,NJ.mpr ⟨a,d,i.1⟩,i.2⟩
  replace this:=(show dW (a8 b os) (a8 b c)=[]from l)▸this;exact nomatch this
 ·have j:af b a=none:=by
   cases f:af b a with
   |none=>rfl
   |some q=>exact absurd (mX G8 f) d
  have k:af os a=none:=by
   cases f:af os a with
   |none=>rfl
   |some q=>exact absurd (mX Hn f) d
  replace e:=k▸j▸e;exact(N0 e).elim
theorem gO{e os f:List (Int×ag)}(a:bV e os f b L Je)(h:d2 e os f)(d:Int):cx d (af e d) (af os d) (af f d):=
 ⟨fun g c=>bZ a.G8 c,fun g c=>bZ a.Hn c,fun g c=>bZ a.Hx c,ut a.G8 a.Hn a.Hx h d⟩
theorem AA(f:aI (.d b))(g:aI (.d L)):(br b L).length<=6:=by
 have:=dH (jU f.1 g.1) (m:=cS) fun i h=>by
  rcases eU.mp h with a|a
  ·obtain⟨e,c,rfl⟩:=Na.mp a;exact(f.2 e c).1
  ·obtain⟨e,c,rfl⟩:=Na.mp a;exact(g.2 e c).1
 exact this
theorem pO(a:aI (.d b))(c:aI (.d L)):(c9 (as b) (as L)).length<=6:=by
 rw[mC a.1 c.1];exact mf (j8 (f:=ds b L) (pN _ _) (br b L)) (AA a c)
theorem aci{R:List ai}(n:∀c,IU=some c->aI c/\bR c=decide (k=4))(o:∀c,IW=some c->aI c/\bR c=decide (k=4))(p:∀e,IU=some (.a e)->e.length<=6)(lo:∀e,IW=some (.a e)->e.length<=6)(b:OD IU IW R):R.length<=if k=4 then 12 else 6:=by
 have g:∀i:Nat,i<=6->i<=if k=4 then 12 else 6:=fun i r=>by split<;>omega
 cases IU with
 |none=>cases IW with
  |none=>
    rcases b with b|⟨_,_,rfl⟩
    ·exact b.elim
    ·exact g 0 (NQ rfl)
  |some c=>
    rcases b with b|⟨_,b,_⟩
    ·rw[show R=[([],.added c.bA.Hs)]from b];exact g 1 (NQ rfl)
    ·exact nomatch b
 |some IU=>cases IW with
  |none=>
    rcases b with b|⟨b,_⟩
    ·rw[show R=[([],.gone IU.bA.Hs)]from b];exact g 1 (NQ rfl)
    ·exact nomatch b
  |some IW=>
   refine aW (n _ rfl) fun h=>?_;refine aW (o _ rfl) fun l=>?_;cases IU with
   |d j=>cases IW with
    |a f=>have:=l.2.trans h.2.symm;exact nomatch this
    |d m=>
     rw[i8 b,Nb];have:=congrArg List.length (jQ (as j) (as m));rw[Nb]at this;rw[this];exact g _ (pO h.1 l.1)
   |a e=>cases IW with
    |d m=>have:=l.2.trans h.2.symm;exact nomatch this
    |a f=>
     rw[if_pos (of_decide_eq_true h.2.symm)];by_cases c:e.length=f.length
     ·rw[i7 c b,Nb];have:=ol e f;exact aj (mf this (mf (Nd c) (lo f rfl))) rfl
     ·refine ah (nO c b) fun j q=>?_;obtain rfl:=q.2;rw[Nb];have:=pm e f j;exact mf this (No (p e rfl) (lo f rfl))
theorem acj{n:Int}{R:List ai}(f:∀a,IU=some a->aI a/\bR a=decide (n=4))(g:∀a,IW=some a->aI a/\bR a=decide (n=4))(c:OD IU IW R):∀d∈R,d.1.length<=1:=by
 rcases c with c|⟨_,_,rfl⟩
 ·intro d b;cases IU with
  |none=>cases IW with
   |none=>exact c.elim
   |some a=>rw[show R=[([],.added a.bA.Hs)]from c,Nj]at b;rw[b];exact NN _
  |some IU=>cases IW with
   |none=>rw[show R=[([],.gone IU.bA.Hs)]from c,Nj]at b;rw[b];exact NN _
   |some IW=>
    obtain⟨e,_,rfl⟩:=c;obtain⟨h,_,rfl⟩:=Na.mp b;exact Ni _
 ·intro d b;exact nomatch b
theorem jT(G8:aO IV)(j:aO Jf)(q:cw (aM IV) (aM Jf) b L Js):
  ∃GW:List (bM×ai),Js=GW.map (fun n=>cs (fg n.1) n.2)/\(∀a,OD (af (aM IV) a) (af (aM Jf) a) (a2 (some a) GW))/\a2 none GW=(bG (as b) (as L)).map fG/\
   ∃e d,GW=fx e (cM.filter (cK IV Jf)) d/\d.length=(c9 (as b) (as L)).length:=by
 obtain⟨e,d,m,l,rfl⟩:=q;rw[(nN G8 j)]at m⊢;refine⟨fx e (cM.filter (cK IV Jf)) d,(B8 _ _ _).symm,fun a=>?_,?_,e,d,rfl,?_⟩
 ·rw[n0 e d a (Oq.nodup (by decide))];by_cases f:a∈cM.filter (cK IV Jf)
  ·rw[if_pos f];exact .inl (m a f)
  ·rw[if_neg f];refine .inr ?_;rw[c1,c1];by_cases g:0<a
   ·rw[if_pos g,if_pos g];have o:∀{i:List (Int×ag)},aO i->(cK IV Jf a=false->af i a=none)->af i a=none:=fun p c=>by
     by_cases k:a∈cM
     ·refine c ?_;cases h:cK IV Jf a with
      |false=>rfl
      |true=>exact absurd (NL.mpr ⟨k,h⟩) f
     ·cases h:af _ a with
      |none=>rfl
      |some r=>
       have:=mX p h;exfalso;apply k;simp only[dd,cM,Nk,N0,or_false]at this⊢;omega
    refine⟨o G8 fun c=>?_,o j fun c=>?_,rfl⟩
    ·unfold cK at c;rw[Sn]at c;simpa using c.1
    ·unfold cK at c;rw[Sn]at c;simpa using c.2
   ·rw[if_neg g,if_neg g];exact⟨rfl,rfl,rfl⟩
 ·rw[af5];rw[l,<-jQ,Nf,Nf];rfl
 ·rw[l,Nb]
theorem BL{g:D->List I1}{w:D->Nat}{l:List D}(b:∀a∈l,(g a).length<=w a):(l.flatMap g).length<=(l.map w).sum:=by
 induction l with
 |nil=>exact Ni _
 |cons a l d=>
  rw[NO,Nm,Nt,Q8];exact No (b a (.head _)) (d fun e c=>b e (.tail _ c))
theorem aj5{w:D->Nat}(c:D->Bool)(a:List D):((a.filter c).map w).sum<=(a.map w).sum:=by
 induction a with
 |nil=>exact Ni _
 |cons d a b=>
  rw[Of,Nt,Q8];cases c d with
  |true=>exact Om b _
  |false=>exact mf b (N3 ..)
theorem uk{a:bM×ai}{GW:List (bM×ai)}(b:a∈GW):a.2∈a2 a.1 GW:=Na.mpr ⟨a,NL.mpr ⟨b,decide_eq_true rfl⟩,rfl⟩
theorem ft(b:aO IV)(a:af (aM IV) k=some Jl):aI Jl/\bR Jl=decide (k=4):=by
 rw[c1]at a
 split at a
 ·exact bZ b a
 ·exact nomatch a
theorem n1(G8:aO IV)(f:aO Jf){GW:List (bM×ai)}(g:∀a,OD (af (aM IV) a) (af (aM Jf) a) (a2 (some a) GW))(h:a2 none GW=(bG (as b) (as L)).map fG):∀k∈GW,k.2.1.length<=1:=by
 rintro⟨j,l⟩ i;have c:=uk i;cases j with
 |none=>
  replace c:=h▸c;refine ah (Na.mp c) fun n m=>?_;obtain rfl:=m.2;exact Ni _
 |some a=>exact acj (n:=a) (fun e d=>ft G8 d) (fun e d=>ft f d) (g a) l c
theorem g9(G8:aO IV)(g:aO Jf)(y:af IV 0=some (.d b))(z:af Jf 0=some (.d L))(I:∀c,af IV 4=some (.a c)->c.length<=6)(ld:∀c,af Jf 4=some (.a c)->c.length<=6)
(x:cw (aM IV) (aM Jf) b L Js):fz Js:=by
 obtain⟨GW,h,q,E,p,u,rfl,B⟩:=jT G8 g x;refine⟨?_,?_⟩
 ·rw[h,Nb];have A:=BL (g:=fun a=>(p a).map fun r=>((some a:bM),r)) (w:=fun a:Int=>if a=4 then 12 else 6) (l:=cM.filter (cK IV Jf)) fun a D=>by
   rw[Nb];have:=q a;rw[n0 p u a (Oq.nodup (by decide)),if_pos D]at this;have o:∀{c:List (Int×ag)},aO c->∀{n:Nat},(∀e,af c 4=some (.a e)->e.length<=n)->∀e,af (aM c) a=some (.a e)->e.length<=n:=fun{c}v n C e m=>by
    have i:=(ft v m).2;have i:=of_decide_eq_true i.symm;subst i;rw[c1,if_pos (by decide)]at m;exact C e m
   exact aci (fun h j=>ft G8 j) (fun h j=>ft g j) (o G8 I) (o g ld) this
  unfold fx;rw[Nm,Nb,B];exact aj (Np (No (mf A (mf (aj5 (w:=fun a:Int=>if a=4 then 12 else 6) (cK IV Jf) cM) (Nd rfl))) (pO (bZ G8 y).1 (bZ g z).1)) 1) rfl
 ·intro r H;obtain⟨O,l,rfl⟩:=Na.mp H;replace l:=h▸l;refine ah (Na.mp l) fun f s=>?_;obtain rfl:=s.2;have k:=(n1 G8 g q E) f s.1;show∃J M,(fg f.1::f.2.1)=J++[M]/\_;cases G:f.2.1 with
  |nil=>exact⟨[],fg f.1,rfl,by simp⟩
  |cons t N=>
   replace k:=G▸k;rw[Ql (QT.mp (SM k))];exact⟨[fg f.1],t,rfl,by simp⟩
noncomputable def H2(b os h:List (Int×ag))(c e f:List (Str×Int))(R:Int->Option ag)(g:List (Str×Int)):Prop:=
 (∀a,0<a->MJ (af b a) (af os a) (af h a) (R a))/\(∀a,¬0<a->R a=none)/\MJ (some (.d c)) (some (.d e)) (some (.d f)) (some (.d g))
theorem bV.l6{c os d:List (Int×ag)}(a:bV c os d b L Je){e:List ai}(f:cw (aM c) (aM os) b L Js)(g:cw (aM c) (aM d) b Je e):(fE Js e).Perm (dW (a8 c os) (a8 c d)):=by
 have:=y6 a.G8 a.Hn a.Hx a.G3 a.GI a.GJ f g;unfold fE;rw[Nf,Nf];exact this
theorem EJ{e os l:List (Int×ag)}(c:bV e os l b L Je)(J:d2 e os l)(D E:List ai)(H:cw (aM e) (aM os) b L D)(I:cw (aM e) (aM l) b Je E):
  fz D/\fz E/\fE D E=[]/\∃(GW:List (bM×ai))(j:Int->Option ag)(U:List (Str×Int)),D++E=GW.map (fun n=>cs (fg n.1) n.2)/\
   (∀n∈GW,n.2.1.length<50)/\(∀a G,(some a,G)∈b1 GW->cY (af (aM e) a) G (j a))/\lO b (b1 GW) U/\H2 e os l b L Je (fun o=>if some o∈(b1 GW).map (fun x=>x.1)then j o else af (aM e) o) U:=by
 refine⟨g9 c.G8 c.Hn c.G3 c.GI c.hP c.lo H,g9 c.G8 c.Hx c.G3 c.GJ c.hP c.lt I,?_,?_⟩
 ·have:=c.l6 H I;rw[show dW (a8 e os) (a8 e l)=[]from J]at this;exact List.Perm.eq_nil this
 refine fw (jT c.G8 c.Hn H) fun f p=>?_;refine fw (jT c.G8 c.Hx I) fun g q=>?_;have Q:∀a,0<a->(a2 (some a) (f++g)=[]/\MJ (af e a) (af os a) (af l a) (af e a))\/(a2 (some a) (f++g)≠[]/\∃z,cY (af e a) (a2 (some a) (f++g)) z/\MJ (af e a) (af os a) (af l a) z):=fun a i=>by
  have x:=p.2 a;have y:=q.2 a;rw[c1,c1,if_pos i,if_pos i]at x y;rw[(fun k=>gF k f g)];exact aab (gO c J a) x y
 have T:∀a,¬0<a->a2 (some a) (f++g)=[]:=fun a i=>by
  have x:=p.2 a;have y:=q.2 a;rw[c1,c1,if_neg i,if_neg i]at x y;have C:∀s,(none:Option ag)=some s->aI s:=fun s h=>by cases h
  rw[(fun k=>gF k f g),hX C C x rfl,hX C C y rfl];rfl
 refine aW (C8 (f++g)) fun m=>?_;have j:∃j:Int->Option ag,∀a,0<a->a2 (some a) (f++g)≠[]->cY (af e a) (a2 (some a) (f++g)) (j a)/\MJ (af e a) (af os a) (af l a) (j a):=by
  classical
  refine⟨fun a=>if h:∃z,cY (af e a) (a2 (some a) (f++g)) z/\MJ (af e a) (af os a) (af l a) z then h.choose else none,fun a i B=>?_⟩;rcases Q a i with⟨h,_⟩|⟨_,h⟩
  ·exact absurd h B
  ·simp only[dif_pos h];exact h.choose_spec
 obtain⟨j,O⟩:=j;have KU:NC 0 (some (.d b)) (some (.d L)) (some (.d Je)):=by have:=ut c.G8 c.Hn c.Hx J 0;rwa[c.G3,c.GI,c.GJ]at this
 have A:=(bZ c.G8 c.G3).1;have M:=(bZ c.Hn c.GI).1;refine wx (rX A M ((bZ c.Hx c.GJ).1) KU) fun r=>?_;refine⟨f++g,j,as (bJ (as b) (bG (as b) (as L)++bG (as b) (as Je))),by rw[p.1,q.1,Ng],fun n Z=>?_,fun a G t=>?_,⟨fun G t=>?_,fun KT=>?_,ag.eX r.5⟩,⟨fun a i=>?_,fun a i=>?_,?_⟩⟩
 ·rcases Nu.mp Z with h|h
  ·have:=(n1 c.G8 c.Hn p.2 p.3) n h;exact aj (Np this 1) rfl
  ·have:=(n1 c.G8 c.Hx q.2 q.3) n h;exact aj (Np this 1) rfl
 ·have u:=kX ((m.2 (some a)).mp (Na.mpr ⟨_,t,rfl⟩));have i:0<a:=Sr fun v=>u (T a v);rw[c1,if_pos i,(m.1 _ _ t)];exact(O a i u).1
 ·have N:=m.1 _ _ t;have u:=kX ((m.2 none).mp (Na.mpr ⟨_,t,rfl⟩));rw[(fun k=>gF k f g),p.3,q.3,<-Ng]at N u;exact⟨_,N,r.4,r.5,fun v=>u (by rw[v];rfl),r.2,r.3,rfl⟩
 ·have B:a2 none (f++g)=[]:=by
   cases v:a2 none (f++g)with
   |nil=>rfl
   |cons KV KX=>
    exfalso;have:=uY (k:=(none:bM)) (rows:=f++g) (by rw[v];simp);obtain⟨V,Y,s⟩:=Na.mp ((m.2 none).mpr this);obtain⟨KW,X⟩:=V;subst s;exact KT X Y
  rw[(fun k=>gF k f g),p.3,q.3,<-Ng,OS]at B;rw[B];show as (as b)=as b;exact(jZ (cz A.1) A.1).mpr (dx b)
 ·rcases Q a i with⟨h,KS⟩|⟨h,_⟩
  ·show MJ _ _ _ (if some a∈(b1 (f++g)).map (fun x=>x.1)then j a else af (aM e) a);rw[if_neg (fun o=>kX ((m.2 _).mp o) h),c1,if_pos i];exact KS
  ·show MJ _ _ _ (if some a∈(b1 (f++g)).map (fun x=>x.1)then j a else af (aM e) a);rw[if_pos ((m.2 _).mpr (uY h))];exact(O a i h).2
 ·show(if some a∈(b1 (f++g)).map (fun x=>x.1)then j a else af (aM e) a)=none;rw[if_neg (fun o=>kX ((m.2 _).mp o) (T a i)),c1,if_neg i]
 ·exact kJ A.1 M.1 ((bZ c.Hx c.GJ).1).1 (cz r.5.2) fun k=>by rw[dx];exact r.1 k
theorem ak0{e os f n:List (Int×ag)}{i:List (Str×Int)}(c:bV e os f b L Je)(h:d2 e os f)(C:∀a,dp (af e a) (af os a) (af f a) (af n a))(s:aO n)(t:af n 0=some (.d J4))
(G:(IV.map (fun x=>x.1)).Nodup)(x:(ag.d i).ok){R:Int->Option ag}(HE:∀a,af IV a=R a)(j:H2 e os f b L Je R i\/H2 e f os b Je L R i):fu IV i=fu (aM n) J4:=by
 have j:H2 e os f b L Je R i:=by
  rcases j with j|⟨p,q,r⟩
  ·exact j
  ·have y:∀a u,MJ (af e a) (af f a) (af os a) u->MJ (af e a) (af os a) (af f a) u:=fun a u l=>
    MJ.symm (fun k m=>(((gO c h) a).Hj k m).1) (fun k m=>(((gO c h) a).go k m).1) (fun k m=>(((gO c h) a).gt k m).1) (fun H I J z A B D E=>by
     have o:=(gO c h) a;replace o:=B▸A▸z▸o;exact o.nl D E) ((gO c h) a).Hp l
   refine⟨fun a g=>y a _ (p a g),q,?_⟩;have:=y 0 (some (.d i));replace this:=c.GJ▸c.GI▸c.G3▸this;exact this r
 obtain⟨p,q,r⟩:=j;have v:=fun a=>EG (gO c h a) (C a);refine akj G ((Oq.map _).nodup s.GO) (fun a=>?_) ?_
 ·rw[HE,c1];by_cases g:0<a
  ·rw[if_pos g];exact(p a g).unique (v a)
  ·rw[if_neg g,q a g]
 ·have l:=v 0;replace l:=t▸c.GJ▸c.GI▸c.G3▸l;have:=r.unique l;exact(jZ x.2 (bZ s t).1.1).mpr ((fB x.2 (bZ s t).1.1).mp this)
theorem sL:cG 0:=hF (n:=0) (by decide)
theorem sa(e:aI (.d b))(a:Str):cG (av b a):=by
 unfold av;cases c:b.lookup a with
 |none=>exact sL
 |some f=>exact dC (e.2 _ (bI c)).2
theorem kb(d:aI (.a j))(b:Nat):cG (j.getD b 0):=by
 by_cases c:b<j.length
 ·exact dC (d.2.2 _ (by simp[List.getD,c]))
 ·rw[show j.getD b 0=0 by simp[List.getD,PO c]];exact sL
theorem h8(a:cG k):gd (ap k):=.inl ⟨k,rfl,a⟩
theorem mx(g:aI (.d b))(h:aI (.d L)):∀c∈bG (as b) (as L),c.1.length<=1000/\hl c.2.cL:=by
 intro c a;obtain⟨k,m,a⟩:=NJ.mp a;rw[r0 g.1 h.1]at m;have i:k.length<=1000:=by
  refine mf (tG ?_) (by decide:10<=1000);rcases eU.mp m with a|a
  ·obtain⟨l,j,rfl⟩:=Na.mp a;exact(g.2 l j).1
  ·obtain⟨l,j,rfl⟩:=Na.mp a;exact(h.2 l j).1
 have e:=h8 (sa g k);have f:=h8 (sa h k);rw[<-mF]at e f;exact jL (P:=fun n=>∀c∈n,c.1.length<=1000/\hl c.2.cL) (fun x=>NP.mpr ⟨i,e⟩) (fun x=>NP.mpr ⟨i,f⟩) nofun (fun x=>NP.mpr ⟨i,e,f⟩) c a
noncomputable def RS(a:ai):Prop:=(∀b∈a.1,fA b)/\a.1.length<=1/\hl a.2
theorem vu{a:a9}(b:hl a):∀c∈[(([],a):ai)],RS c:=NP.mpr ⟨bs,NN _,b⟩
theorem k1{b:ak}{a:a9}(d:fA b)(c:hl a):RS ([b],a):=⟨NP.mpr d,Ni _,c⟩
theorem ac0{n:Int}{R:List ai}(o:∀b,IU=some b->aI b/\bR b=decide (n=4))(p:∀b,IW=some b->aI b/\bR b=decide (n=4))(y:IU=none->∀b,IW=some b->bR b=false)(z:IW=none->∀b,IU=some b->bR b=false)(c:OD IU IW R):∀C∈R,RS C:=by
 have u:∀b:ag,aI b->bR b=false->gd b.bA.Hs:=fun b j A=>by
  cases b with
  |a v=>cases A
  |d k=>exact .inr ⟨as k,rfl,by rw[gq];have:=ci j;exact aj (Np this 1) rfl⟩
 cases IU with
 |none=>cases IW with
  |none=>
    rcases c with c|⟨_,_,rfl⟩
    ·exact c.elim
    ·exact bs
  |some b=>
   rcases c with c|⟨_,c,_⟩
   ·rw[show R=[([],.added b.bA.Hs)]from c];exact vu (u b (p _ rfl).1 (y rfl b rfl))
   ·exact nomatch c
 |some IU=>cases IW with
  |none=>
   rcases c with c|⟨c,_⟩
   ·rw[show R=[([],.gone IU.bA.Hs)]from c];exact vu (u IU (o _ rfl).1 (z rfl IU rfl))
   ·exact nomatch c
  |some IW=>
   obtain⟨e,r⟩:=o _ rfl;obtain⟨g,s⟩:=p _ rfl;cases IU with
   |d k=>cases IW with
    |a x=>cases s.trans r.symm
    |d B=>
     rw[i8 c];exact OC.mpr fun t q=>k1 (mx e g t q).1 (mx e g t q).2
   |a v=>cases IW with
    |d B=>cases s.trans r.symm
    |a x=>
     have l:∀{i:Nat}{m:List Int},aI (.a m)->i∈List.range m.length->fA (.idx (i:Nat)):=fun{i m}j c=>hF (n:=i) (by have D:=NX.mp c;have E:=j.2.1;exact aj (mf D E) rfl);by_cases b:v.length=x.length
     ·rw[i7 b c,hb,Nf];exact OC.mpr fun f h=>k1 (l e (NL.mp h).1) ⟨h8 (kb e f),h8 (kb g f)⟩
     ·obtain⟨k,_,rfl⟩:=nO b c;unfold dE;rw[i1,oe,Ng,Nf,Nf];exact S3.mpr ⟨OC.mpr fun f h=>k1 (l e (NL.mp h).1) (h8 (kb e f)),OC.mpr fun f h=>k1 (l g (NL.mp h).1) (h8 (kb g f))⟩
theorem ala{b:ai}(f:iy b):(b5 b).length<=100000:=by
 obtain⟨g,i,a⟩:=f;have d:Sm 40010 (de b.1):=mf (u6 g) (by omega);unfold b5;cases c:b.2 with
 |gone e=>rw[c]at a;exact((d.app (lit (by exists 4))).app (fa a)).le
 |added e=>rw[c]at a;exact((d.app (lit (by exists 4))).app (fa a)).le
 |turned e h=>rw[c]at a;exact((((d.app (lit (by exists 4))).app (fa a.1)).app (lit (by exists 4))).app (fa a.2)).le
theorem AR(c:aO IV):∃b,af (aM IV) 4=some (.a b):=by
 refine ah (iT c) fun b d=>?_;exact⟨b,by rw[c1,if_pos (by decide)];exact d.1⟩
theorem ah0(G8:aO IV)(f:aO Jf)(y:af IV 0=some (.d b))(z:af Jf 0=some (.d L))(x:cw (aM IV) (aM Jf) b L Js):∀i∈Js,iy i/\(b5 i).length<=100000:=by
 obtain⟨GW,c,G,E,t,s,rfl,J⟩:=jT G8 f x;intro i l;rw[c]at l;obtain⟨⟨m,o⟩,D,rfl⟩:=Na.mp l;have e:=uk D
 suffices h:iy (cs (fg m) o)from⟨h,ala h⟩
 cases m with
 |none=>
  rw[E]at e;refine ah (Na.mp e) fun I r=>?_;obtain rfl:=r.2;have:=mx (bZ G8 y).1 (bZ f z).1 I r.1;exact⟨NT.mpr ⟨trivial,NP.mpr this.1⟩,(by decide:2<=10),this.2⟩
 |some a=>
  have n:∀{p q:List (Int×ag)},aO p->aO q->af (aM p) a=none->∀c,af (aM q) a=some c->bR c=false:=fun u v k c g=>by
   rw[(ft v g).2];refine decide_eq_false fun A=>?_;subst A;obtain⟨M,H⟩:=AR u;rw[H]at k;exact nomatch k
  have:=ac0 (n:=a) (fun c g=>ft G8 g) (fun c g=>ft f g) (n G8 f) (n f G8) (G a) o e;have B:cG a:=by
   have C:a∈cM.filter (cK IV Jf):=by
    rw[n0 t s a (Oq.nodup (by decide))]at e;by_cases h:a∈cM.filter (cK IV Jf)
    ·exact h
    ·rw[if_neg h]at e;exact nomatch e
   have j:=of_decide_eq_true (O8.mp (rfl:cM.all (fun a=>decide (0<=a/\a<10))=true) a (NL.mp C).1);exact dC ⟨by exact j.1,by exact Pm j.2 (by decide)⟩
  exact⟨NT.mpr ⟨B,this.1⟩,mf (Qt this.2.1) (by decide:2<=10),this.2.2⟩
theorem k2(G8:aO IV)(d:aO Jf):∀c a b,af (aM IV) c=some a->af (aM Jf) c=some b->a.same b:=fun c a b e f=>by
 have:=(ft G8 e).2.trans (ft d f).2.symm;cases a<;>cases b<;>first|trivial|cases this
theorem ki(c:aO IV):∃b,af IV 0=some (.d b):=by
 obtain⟨f,e⟩:=Oa.mp ((dT IV 0).mpr c.ev);cases f with
 |d b=>exact⟨b,e⟩
 |a g=>exact nomatch(bZ c e).2
theorem rB{d:Nat}(b:ag):aQ (d+4) b.Hs:=by
 cases b with
 |a g=>exact NT.mpr ⟨trivial,hu (fun c=>fH c) g⟩
 |d f=>exact NT.mpr ⟨trivial,hu (fun e=>rz e) f⟩
theorem z8{d:Nat}(a:Option ag):aQ (d+4) (gK a):=by cases a with|none=>exact trivial|some b=>exact rB b.bA
theorem iK(b:List (Int×ag))(a:List (Str×Int)):aQ 20 (fu b a):=
 NT.mpr ⟨OC.mpr fun c x=>NT.mpr ⟨trivial,NT.mpr ⟨trivial,NP.mpr (z8 (d:=13) _)⟩⟩,NP.mpr (rB (d:=15) (.d (as a)))⟩
theorem Gf{j os n:List (Int×ag)}{R:Int->Option ag}(g:bV j os n b L Je)(i:H2 j os n b L Je R J4)(r:(IT.map (fun x=>x.1)).Nodup)(p:∀m,af (ar IT) m=R m):IT.length<20:=by
 have h:∀{f:List (Int×ag)}{a:Int},aO f->a∉([0,1,2,3,4,5]:List Int)->af f a=none:=fun{f a}o c=>by
  cases e:af f a with
  |none=>rfl
  |some s=>exact absurd (o.nums _ (bI e)) c
 have:=dH r (m:=([0,1,2,3,4,5]:List Int)) fun a q=>Classical.byContradiction fun c=>by
  have d:(af (ar IT) a).isSome=true:=(dT _ a).mpr (by rw[dG];exact q);rw[p]at d;by_cases k:0<a
  ·have m:=i.1 a k;rw[h g.G8 c,h g.Hn c,h g.Hx c]at m;have e:(R a).map ag.bA=none:=m.1 rfl;cases l:R a with
   |none=>rw[l]at d;cases d
   |some s=>rw[l]at e;cases e
  ·rw[i.2.1 a k]at d;cases d
 rw[Nb]at this;exact NV this (by decide)
structure Pl where
 a:Addr
 GH:Nat
 rs:List aF
variable{Jo Jv JA:Pl}
structure Sf where
 s:Addr
 d:Addr
 t:Addr
 x:Addr
 e:Nat
 e':Nat
 rs:List aC
 GQ:List (Str×Int)
variable{JN JQ JW:Sf}
noncomputable def dq(b:aa)(c:Nat)(a:Pl):Prop:=(a.a,GL.dict a.GH (a.rs.map GZ))∈b/\(∀d∈a.rs,Ha d∈b)/\aL c a.rs
noncomputable def d3(c:aa)(a:Sf)(b:Pl):Prop:=bv c a.s a.d a.t a.x a.e a.e' a.rs a.GQ/\ar a.rs=aM (al b.rs)/\af (al b.rs) 0=some (.d a.GQ)
noncomputable abbrev Sf.told(a:Sf):GG:=fu (ar a.rs) a.GQ
theorem dq.le{S b:aa}(a:dq S q Jo)(c:Le S b):dq b q Jo:=⟨c.mem a.1,fun e d=>c.mem (a.2.1 e d),a.2.2⟩
theorem d3.le{S a:aa}(b:d3 S JN Jo)(c:Le S a):d3 a JN Jo:=⟨b.1.mono fun x d=>c.mem d,b.2⟩
noncomputable abbrev cI(a:aa)(b c d:Pl)(e f g:Sf):Prop:=(dq a 3 b/\dq a 6 c/\dq a 6 d)/\d3 a e b/\d3 a f c/\d3 a g d
theorem cI.le{S c:aa}(a:cI S Jo Jv JA JN JW JQ)(b:Le S c):cI c Jo Jv JA JN JW JQ:=⟨⟨a.1.1.le b,a.1.2.1.le b,a.1.2.2.le b⟩,a.2.1.le b,a.2.2.1.le b,a.2.2.2.le b⟩
theorem fV(a:aL q U)(b:autoParam (q<=10) dB):aL 10 U:=a.mono b
theorem kw(e:aL q U):∀b,af (al U) 4=some (.a b)->b.length<=q:=fun b d=>by
 refine ah (Na.mp (bI (l:=al U) d)) fun f c=>?_;exact(e.all f c.1).2.2.2 b (congrArg Prod.snd c.2)
theorem tK(d:aL q U)(e:autoParam (q<=6) dB):∀b,af (al U) 4=some (.a b)->b.length<=6:=fun b c=>mf (kw d b c) e
theorem cI.dc(a:cI V Jo Jv JA JN JW JQ):bV (al Jo.rs) (al Jv.rs) (al JA.rs) JN.GQ JW.GQ JQ.GQ:=
 ⟨a.1.1.2.2.plain,a.1.2.1.2.2.plain,a.1.2.2.2.2.plain,a.2.1.2.2,a.2.2.1.2.2,a.2.2.2.2.2,kw a.1.1.2.2,kw a.1.2.1.2.2,kw a.1.2.2.2.2⟩
theorem cI.swap(a:cI V Jo Jv JA JN JW JQ):cI V Jo JA Jv JN JQ JW:=⟨⟨a.1.1,a.1.2.2,a.1.2.1⟩,a.2.1,a.2.2.2,a.2.2.1⟩
noncomputable abbrev Sf.at_(b:aa)(a:Sf):Prop:=bv b a.s a.d a.t a.x a.e a.e' a.rs a.GQ
theorem cI.all(a:cI V Jo Jv JA JN JW JQ):∀b∈[JN,JW,JQ],Sf.at_ V b:=NT.mpr ⟨a.2.1.1,he a.2.2.1.1 a.2.2.2.1⟩
noncomputable abbrev a5:List Str:=["script","pen","lap","base","one","other","shelves","before","due","heard","first","second","made"]
noncomputable abbrev ey:List Str:=["_law_pen","range","_law_base","_law_draft","_law_shelf","_law_shown_right","_law_clashes","clashes","differences","len","joined","DraftFault","_law_joined"]
noncomputable def ew:List Stmt:=(HV (aT 61)[1]?).2.1
noncomputable def i0:List Stmt:=(HV ew[8]?).2.1
theorem d6{S:aa}{st:Stmt}(b:∀a:G4->ab->aa->Prop,(∀t S,GK e (execs I2 e.env) GW t S Z->a .next t S)->GK e (exec st e.env) GW t S a):GK e (execs (st::I2) e.env) GW t S Z:=
 aH (b _ fun x x c=>c)
theorem uP{S:aa}{a:Bool}(d:B (.bool (!(Jh==a))) t S):aE e (compareOp .NotEq) (.bool Jh) (.bool a) VR t S B:=by
 intro g h i f b c;cases b;cases c;exact RcNeAt.bool_bool Jh a prog w _ _ (b3 f (.bool _) d)
theorem aka{S c:aa}(b:cZ S IT)(d:ar JG=ar IT)(h:∀a∈JG,bE c a.2.1 a.2.2):cZ c JG:=by
 have e:JG.map (fun x=>x.1)=IT.map (fun x=>x.1):=by rw[<-dG,d,dG]
 refine⟨h,fun a g=>?_,by rw[e];exact b.GO,?_⟩
 ·have:(a.1,a.2.2)∈ar IT:=d▸Na.mpr ⟨a,g,rfl⟩;refine ah (Na.mp this) fun i f=>?_;exact congrArg Prod.snd f.2▸b.cr i f.1
 ·have:=congrArg List.length e;rw[Nb,Nb]at this;rw[this];exact b.ca
theorem uy{a os b:List (Int×ag)}(e:d2 a os b):d2 a b os:=List.eq_nil_iff_forall_not_mem.mpr fun d f=>by
 refine df (kG.mp f) fun c=>?_;have:(d.2,d.1)∈dW (a8 a os) (a8 a b):=kG.mpr ⟨c.2,c.1,(jE _ _).mpr ((jE _ _).mp c.3).symm⟩;replace this:=(show dW (a8 a os) (a8 a b)=[]from e)▸this;cases this
section
variable{S:aa}
theorem Fm(P:Pg)(Q:G9 e a5 a5 ey ["due"])(T:aw e.A 39)(m:j.length<=24)(o:q<800000)
(M:∀b C G u B D,C<=q+90->dq b 3 u->dq b 6 B->dq b 6 D->Le ((H,bb IX C G)::(IX,.list (j.map .int))::S) b->GK e (execs (ew.drop 2) e.env) GW (an a5 [some (.ref d),some (.ref H),some (.int k),some (.ref u.a),some (.ref B.a),some (.ref D.a),none,none,none,none,none,none,none]) b Z):
  GK e (execs ew e.env) GW (an a5 [some (.ref d),some (.ref H),some (.int k),none,none,none,none,none,none,none,none,none,none]) ((H,bb IX q IY)::(IX,.list (j.map .int))::S) Z:=by
 exists d6 fun E n=>?_;exists GN.lv (zw P Ht.here (ac am) m (aj o rfl) fun g i c U N l w p=>?_);exists n _ _ (d6 fun E n=>?_);exists GN.lv (rb P (Ht.there (Ht.app _ Ht.here)) (ac (NA _ (ac am))) m (mf (Np p 1) (aj (Np (Nh o) 31) rfl)) am (fun f a=>ac (NG _ (P5 a))) l fun v y r V O I A=>?_);exists GN.lv (rb P (Ht.there (Ht.app _ (Ht.there (Ht.app _ Ht.here)))) (ac (NA _ (ac (NA _ (ac am))))) m (mf (Np A 1) (aj (Np (mf p (Np (Nh o) 30)) 31) rfl)) (ac (NA _ am)) (fun f a=>ac (NA _ (ac (NG _ (P5 a))))) l fun x z s t h J L=>?_);have up1:Le ((g,GL.dict i (c.map GZ))::(c.map Ha++(H,bb IX t h)::(IX,.list (j.map .int))::S)) ((x,GL.dict z (s.map GZ))::(s.map Ha++(v,GL.dict y (r.map GZ))::(r.map Ha++(g,GL.dict i (c.map GZ))::(c.map Ha++(H,bb IX t h)::(IX,.list (j.map .int))::S)))):=
  Le.skip (Le.eB _ (Le.skip (Le.eB _ (Le.refl _))))
 refine n _ _ (M _ t h ⟨g,i,c⟩ ⟨v,y,r⟩ ⟨x,z,s⟩ (mf L (mf (Np A 30) (mf (Np p 60) (Ni _)))) ?_ ?_ ?_ ?_)
 ·exact⟨up1.mem am,fun f a=>up1.mem (ac (NG _ (P5 a))),l⟩
 ·exact⟨ac (NA _ am),fun f a=>ac (NA _ (ac (NG _ (P5 a)))),I⟩
 ·exact⟨am,fun f a=>ac (NG _ (P5 a)),J⟩
 ·exact(Le.skip (Le.eB _ (Le.refl _))).trans up1
theorem Fn(P:Pg)(u:G9 e a5 a5 ey ["due"])(T:aw e.A 39)(l:dq S 3 Jo)(m:dq S 6 Jv)(o:dq S 6 JA)
(z:∀j a F t v q,cI j Jo Jv JA t v q->(a,GL.list [.ref t.s,.ref v.s,.ref q.s])∈j->(F,GL.list [t.told,v.told,q.told])∈j->Le S j->GK e (execs (ew.drop 4) e.env) GW (an a5 [some (.ref d),some (.ref H),some (.int k),some (.ref Jo.a),some (.ref Jv.a),some (.ref JA.a),some (.ref a),some (.ref F),none,none,none,none,none]) j Z):
  GK e (execs (ew.drop 2) e.env) GW (an a5 [some (.ref d),some (.ref H),some (.int k),some (.ref Jo.a),some (.ref Jv.a),some (.ref JA.a),none,none,none,none,none,none,none]) S Z:=by
 obtain⟨K9,L⟩:=ki l.2.2.plain;obtain⟨La,N⟩:=ki m.2.2.plain;obtain⟨Lb,O⟩:=ki o.2.2.plain;exists d6 fun KX n=>?_;exists GN.lv (hq P l.1 l.2.1 (fV l.2.2) L fun f B Y KU r E U Lg K6 KZ b=>?_);exists GN.lv (hq P (m.le b).1 (m.le b).2.1 (fV m.2.2) N fun g C KS KV s G V Lh K7 K0 c=>?_);exists GN.lv (hq P (o.le (b.trans c)).1 (o.le (b.trans c)).2.1 (fV o.2.2) O fun h D KT KW I J X p K8 K1 i=>?_);intro a;exists 0;refine n _ _ (d6 fun KX n=>?_);have y:cI ((a,GL.list [.ref f,.ref g,.ref h])::p) Jo Jv JA ⟨f,B,Y,KU,r,E,U,_⟩ ⟨g,C,KS,KV,s,G,V,_⟩ ⟨h,D,KT,KW,I,J,X,_⟩:=
  ⟨⟨l.le (Le.skip (b.trans (c.trans i))),m.le (Le.skip (b.trans (c.trans i))),o.le (Le.skip (b.trans (c.trans i)))⟩,d3.le ⟨K6,KZ,L⟩ (Le.skip (c.trans i)),d3.le ⟨K7,K0,N⟩ (Le.skip i),d3.le ⟨K8,K1,O⟩ (Le.skip (Le.refl _))⟩
 have Hh:(a,GL.list [.ref f,.ref g,.ref h])∈(a,GL.list [.ref f,.ref g,.ref h])::p:=am;have Q:Le S ((a,GL.list [.ref f,.ref g,.ref h])::p):=Le.skip (b.trans (c.trans i));generalize (a,GL.list [.ref f,.ref g,.ref h])::p=Li at y Hh Q⊢;exists g8 ["shelf"] u (by exists 2) (by exists 4) (by exists 4) (by exists 4) (by exists 4) ?_;refine d8 [(⟨f,B,Y,KU,r,E,U,K9⟩:Sf),⟨g,C,KS,KV,s,G,V,La⟩,⟨h,D,KT,KW,I,J,X,Lb⟩] (fun A=>.ref A.s) Sf.told [none] (dj T.GR) (bC (show 3<=1000 by decide)) (.inl Hh) (fun z q=>.inl (ac Hh)) (bm.start (by walk_at "ncaps") u.GO) (fun A Lp Lc Ld K4=>?_) fun F=>?_
 ·have x:=y.all A K4;refine b2 ["shelf"] ["shelf"] ["shelf_copied"] [] u T (by exists 4) (by exists 4) fun KY Lk=>?_;exists aZ KY (by exists 2) (by walk_at "nput") ?_;exists GN.lv (rf P (bv.there x) fun Lm Lj Ln Lo r s Ll Lf M K2=>?_);exists⟨_,_,kH P am rfl,(hN P).2.2,?_⟩;exists(jI P ⟨am,ac (ac am),ac am,aka x.tab M fun K5 K3=>(K2 K5 K3).mono fun z n=>ac (ac (ac (NG _ n))),x.ok⟩).go (by decide) (bt ?_);exact cp (by rw[M]) (by exists 3) (Le.skip (Le.skip (Le.skip (Le.eB _ (Le.refl _)))))
 exists 0;exact n _ _ (z _ a F _ _ _ (y.le (Le.skip (Le.refl _))) (ac Hh) am (Le.skip Q))
theorem rh(P:Pg)(a:dq S q Jo)(b:dq S v Jv)(d:d3 S JN Jo)(e:d3 S JW Jv)(h:M (.bool true) S)(f:autoParam (q<=6) dB)(g:autoParam (v<=6) dB):GN 7 (.ref 596) [.ref Jo.a,.ref Jv.a] S M:=
 zA P a.1 b.1 a.2.1 b.2.1 (a.2.2.mono (mf f (by decide))) (b.2.2.mono (mf g (by decide))) d.2.2 e.2.2 (k2 a.2.2.plain b.2.2.plain)
  (fun i c=>⟨OG (g9 a.2.2.plain b.2.2.plain d.2.2 e.2.2 (tK a.2.2 f) (tK b.2.2 g) c).1 (by decide),ah0 a.2.2.plain b.2.2.plain d.2.2 e.2.2 c⟩)
  fun i c=>(ai4 a.2.2.plain b.2.2.plain d.2.2 e.2.2 c).symm▸h
noncomputable abbrev cT(d H:Addr)(c:Int)(b e f:Pl)(a F:Addr)(g:List (Option GG)):List (Option GG):=some (.ref d)::some (.ref H)::some (.int c)::some (.ref b.a)::some (.ref e.a)::some (.ref f.a)::some (.ref a)::some (.ref F)::g
section
variable{F:Addr}
theorem Fo(P:Pg)(g:G9 e a5 a5 ey ["due"])(h:aw e.A 39)(a:cI S Jo Jv JA JN JW JQ)(c:GK e (execs (ew.drop 5) e.env) GW (an a5 (cT d H k Jo Jv JA IX F [none,none,none,none,none])) S Z):
  GK e (execs (ew.drop 4) e.env) GW (an a5 (cT d H k Jo Jv JA IX F [none,none,none,none,none])) S Z:=by
 exists d6 fun f b=>?_;refine GN.lv (rh P a.1.1 a.1.2.1 a.2.1 a.2.2.1 ?_);exists 1;refine GN.lv (rh P a.1.2.1 a.1.2.2 a.2.2.1 a.2.2.2 ?_);exists 1;exact b _ _ c
noncomputable abbrev d9(Jo Jv JA:Pl):List (List ak×List ak):=dW (a8 (al Jo.rs) (al Jv.rs)) (a8 (al Jo.rs) (al JA.rs))
theorem Fp(P:Pg)(u:G9 e a5 a5 ey ["due"])(r:aw e.A 39)(a:cI S Jo Jv JA JN JW JQ)(Hh:(IX,GL.list [.ref JN.s,.ref JW.s,.ref JQ.s])∈S)
(l:∀i g h,(g,GL.list ((d9 Jo Jv JA).map bO))∈i->Le S i->GK e (execs (ew.drop 8) e.env) GW (an a5 (cT d H k Jo Jv JA IX F [some (.ref g),some (.ref h),none,none,none])) i Z):
  GK e (execs (ew.drop 5) e.env) GW (an a5 (cT d H k Jo Jv JA IX F [none,none,none,none,none])) S Z:=by
 exists d6 fun v j=>?_;exists GN.lv (zx P a.1.1.1 a.1.2.1.1 a.1.2.2.1 a.1.1.2.1 a.1.2.1.2.1 a.1.2.2.2.1 (fV a.1.1.2.2) (fV a.1.2.1.2.2) (fV a.1.2.2.2.2) fun g=>?_);exists j _ _ (d6 fun v j=>?_);exists cB (k:=0) (.inl (ac Hh)) rfl (by decide) ?_;exists cB (k:=1) (.inl (ac Hh)) rfl (by decide) ?_;refine GN.lv (gV P a.2.1.1.there a.2.2.1.1.there (by rw[a.2.1.2.1,a.2.2.1.2.1];exact k2 a.1.1.2.2.plain a.1.2.1.2.2.plain) fun B m o=>?_);exists 0;exists cB (k:=0) (.inl (ac (ac Hh))) rfl (by decide) ?_;exists cB (k:=2) (.inl (ac (ac Hh))) rfl (by decide) ?_;refine GN.lv (gV P a.2.1.1.there.there a.2.2.2.1.there.there (by rw[a.2.1.2.1,a.2.2.2.2.1];exact k2 a.1.1.2.2.plain a.1.2.2.2.2.plain) fun C n p=>?_);replace o:=a.2.2.1.2.1▸a.2.1.2.1▸o;replace p:=a.2.2.2.2.1▸a.2.1.2.1▸p;have x:=g9 a.dc.G8 a.dc.Hn a.dc.G3 a.dc.GI a.dc.hP a.dc.lo o;have y:=g9 a.dc.G8 a.dc.Hx a.dc.G3 a.dc.GJ a.dc.hP a.dc.lt p;have f:(fE m n).Perm (d9 Jo Jv JA):=a.dc.l6 o p;exists 0;refine GN.lv (me P (rs:=m.map ai.rw) (ts:=n.map ai.rw) (by rw[Nf];exact ac am) (by rw[Nf];exact am) (by rw[Nb];exact x.1) (by rw[Nb];exact y.1) x.2 y.2 fun h=>?_);have z:(d9 Jo Jv JA).length<=72*72:=by
  have D:=(i4 a.1.1.2.1 a.1.2.1.2.1 a.1.1.2.2 a.1.2.1.2.2).1;have E:=(i4 a.1.1.2.1 a.1.2.2.2.1 a.1.1.2.2 a.1.2.2.2.2).1;exact mf (tJ _ _) (Q5 D E)
 refine(?_:gU _ _ _ ((h,GL.list ((fE m n).map bO))::(C,GL.list (n.map ai.GP))::(B,GL.list (m.map ai.GP))::(g,GL.list ((d9 Jo Jv JA).map bO))::S));have l:=fun h i L J=>l i g h J L;generalize d9 Jo Jv JA=t at f z l⊢;generalize fE m n=s at f⊢;have G:s.length<=72*72:=by rw[f.length_eq];exact z
 exists 0;exists j _ _ (d6 fun v j=>?_);refine au (decide_eq_false (fun JQ=>JQ (congrArg Int.ofNat f.length_eq))) ?_;exists 1
 with_reducible refine cy ["pair","due"] u (by exists 4) (by exists 4) ?_
 exists 0;refine fb s bO (fun b=>decide (b∉t)) bO [none,some (.ref g)] (dj r.GR) (mf (aj (c:=16777216) G rfl) (Nd Nl.symm)) (.inl am) (fun l JQ=>.inl (ac am)) (bm.start (by walk_at "ncaps") u.GO) (fun b T A N q=>?_) fun A=>?_
 ·refine b2 ["pair","due"] ["pair"] [] ["due"] u r (by exists 4) (by exists 4) fun I Q=>?_;refine aZ I (by exists 2) (by walk_at "nput") ?_;exists fW ?_;refine nY r (.inl (by exists 2)) (rC t) (ms b) (au (pk ..) ?_);exists au (decide_eq_true (f.mem_iff.mp q)) ?_;refine⟨(decide_eq_false fun JQ=>JQ (f.mem_iff.mp q)).symm,(fun JQ=>nomatch(JQ:false=true)),fun w=>⟨fun b M=>aD.val (by exists 3) _ b M,Le.refl _⟩⟩
 exists au (show s.filter (fun b=>decide (b∉t))=[]from OA.mpr fun b q JQ=>of_decide_eq_true JQ (f.mem_iff.mp q)) ?_;intro O;refine eZ r (xs:=[]) (.inl (ac am)) (.inl am) ?_;exists 1;exact j _ _ (l h _ (Le.skip (Le.skip (Le.skip (Le.skip (Le.skip (Le.skip (Le.refl _))))))) (ac (ac (ac (ac (ac am))))))
theorem k7(c:dq V q Jo)(d:dq V v Jv)(e:d3 V JN Jo)(f:d3 V JW Jv):∀v a b,af (ar JN.rs) v=some a->af (ar JW.rs) v=some b->a.same b:=by
 rw[e.2.1,f.2.1];exact k2 c.2.2.plain d.2.2.plain
theorem Ft(P:Pg)(E:G9 e a5 a5 ey ["due"])(G:aw e.A 39){g h:Pl}{j l:Sf}(a:cI S Jo g h JN j l)(Hh:(IX,GL.list [.ref JN.s,.ref JW.s,.ref JQ.s])∈S)(t:[GG.ref JN.s,.ref JW.s,.ref JQ.s][q]? =some (.ref j.s))(u:[GG.ref JN.s,.ref JW.s,.ref JQ.s][v]? =some (.ref l.s))(n:(q:Int)<3/\(v:Int)<3)
(y:d2 (al Jo.rs) (al g.rs) (al h.rs))
(z:∀c i,Le S c->Sf.at_ c i->H2 (al Jo.rs) (al g.rs) (al h.rs) JN.GQ j.GQ l.GQ (fun m=>af (ar i.rs) m) i.GQ->Z .next (an a5 (cT d H k Jo Jv JA IX F [some (.ref Jj),some (.ref JE),some (.int q),some (.int v),some (.ref i.s)])) c):
  GK e (exec (i0[1]?.getD (.Pass default)) e.env) GW (an a5 (cT d H k Jo Jv JA IX F [some (.ref Jj),some (.ref JE),some (.int q),some (.int v),Ji])) S Z:=by
 refine yc ?_;exists aH ?_;exists cB (k:=0) (.inl Hh) rfl (by decide) ?_;exists cB (.inl Hh) t (Rb n.1 (by decide)) ?_;exists cB (.inl Hh) u (Rb n.2 (by decide)) ?_;refine GN.lv (zt P a.2.1.1 a.2.2.1.1 a.2.2.2.1 (k7 a.1.1 a.1.2.1 a.2.1 a.2.2.1) (k7 a.1.1 a.1.2.2 a.2.1 a.2.2.2) (G:=H2 (al Jo.rs) (al g.rs) (al h.rs) JN.GQ j.GQ l.GQ) (by rw[a.2.1.2.1,a.2.2.1.2.1,a.2.2.2.2.1];exact EJ a.dc y) fun A p B D r s o C c R b f x=>?_);exists 0;have f:=(funext b.look:(fun m=>af (ar o) m)=R)▸f;exact z c ⟨A,p,B,D,r,s,o,C⟩ x ⟨b.inst,b.table,b.cd,⟨b.ents,b.cr,b.GO,Gf a.dc f b.GO fun w=>rfl⟩,b.ok⟩ f
theorem aki{a os f:List (Int×ag)}(d:bV a os f b L Je)(j:¬d2 a os f)(c e:List ai)(g:cw (aM a) (aM os) b L c)(h:cw (aM a) (aM f) b Je e):fz c/\fz e/\fE c e≠[]:=
 ⟨g9 d.G8 d.Hn d.G3 d.GI d.hP d.lo g,g9 d.G8 d.Hx d.G3 d.GJ d.hP d.lt h,fun i=>j (i▸d.l6 g h).nil_eq.symm⟩
theorem Fu(P:Pg)(Hi:G2 "Exception"=none)(b:G9 e a5 a5 ey ["due"])(j:aw e.A 39)(h:dO e){f g:Pl}{l m:Sf}(a:cI S Jo f g JN l m)(Hh:(Jj,GL.list [.ref JN.s,.ref JW.s,.ref JQ.s])∈S)(n:[GG.ref JN.s,.ref JW.s,.ref JQ.s][q]? =some (.ref l.s))(o:[GG.ref JN.s,.ref JW.s,.ref JQ.s][v]? =some (.ref m.s))(i:(q:Int)<3/\(v:Int)<3)
(r:¬d2 (al Jo.rs) (al f.rs) (al g.rs)){c:Addr}
(t:Z .next (an a5 (cT d H k Jo Jv JA Jj F [some (.ref JE),some (.ref c),some (.int q),some (.int v),some .none])) S):
  GK e (exec (i0[1]?.getD (.Pass default)) e.env) GW (an a5 (cT d H k Jo Jv JA Jj F [some (.ref JE),some (.ref c),some (.int q),some (.int v),Ji])) S Z:=by
 refine yd P j h b.ok (b.gl "DraftFault" (by exists 2)) (b.st "made" (by exists 2)) ?_;exists oT b P (by exists 2) (Pg.mR P).1 ⟨_,rfl,(Pg.mR P).2,?_⟩;exists cB (k:=0) (.inl Hh) rfl (by decide) ?_;exists cB (.inl Hh) n (Rb i.1 (by decide)) ?_;exists cB (.inl Hh) o (Rb i.2 (by decide)) ?_;refine⟨fun u x IX p s=>EL P Hi a.2.1.1 a.2.2.1.1 a.2.2.2.1 (k7 a.1.1 a.1.2.1 a.2.1 a.2.2.1) (k7 a.1.1 a.1.2.2 a.2.1 a.2.2.2) (by rw[a.2.1.2.1,a.2.2.1.2.1,a.2.2.2.2.1];exact aki a.dc r) (j.mono (by decide)) h.frames IX p s,?_⟩;rw[bp.val (by walk_at "nput") b.GO];exact t
theorem Fv(P:Pg)(U:G9 e a5 a5 ey ["due"])(r:aw e.A 39)(a:cI S Jo Jv JA JN JW JQ)(q:d2 (al Jo.rs) (al Jv.rs) (al JA.rs))(G6:(Jj,GL.list ((d9 Jo Jv JA).map bO))∈S){j:Sf}(p:Sf.at_ S j)
(J:∀g n,(∀l,dp (af (al Jo.rs) l) (af (al Jv.rs) l) (af (al JA.rs) l) (af g l))->aO g->af g 0=some (.d n)->j.told=fu (aM g) n)
(I:∀c,Le S c->Z .next (an a5 (cT d H k Jo Jv JA IX F [some (.ref Jj),some (.ref JE),some i,some Jn,some (.ref j.s)])) c):
  GK e (execs (i0.drop 2) e.env) GW (an a5 (cT d H k Jo Jv JA IX F [some (.ref Jj),some (.ref JE),some i,some Jn,some (.ref j.s)])) S Z:=by
 have G:d9 Jo Jv JA=[]:=q;rw[G]at G6;exists aH ?_;intro t;exists eZ r (xs:=[]) (.inl (ac G6)) (.inl am) ?_;refine uP ?_;exists 1;have b:=Le.skip (p:=(t,GL.list [])) (Le.refl S);exists⟨_,_,kH P (ac p.inst) rfl,(hN P).2.2,?_⟩;exists(jI P (bv.there p)).go (by decide) (bt ?_);refine GN.lv (zy P (b.mem a.1.1.1) (b.mem a.1.2.1.1) (b.mem a.1.2.2.1) (fun h f=>b.mem (a.1.1.2.1 h f)) (fun h f=>b.mem (a.1.2.1.2.1 h f)) (fun h f=>b.mem (a.1.2.2.2.1 h f)) (fV a.1.1.2.2) (fV a.1.2.1.2.2) (fV a.1.2.2.2.2) (fun xs KT KU u v x D E=>by
  have c:=gO a.dc q 4;rw[u,v,x]at c;exact c.nl D E) fun L T g c G5 y m A B=>?_)
 obtain⟨n,o⟩:=ki m.plain;exists 0;exists GN.lv (hq P G5 y m o fun X N Y KS O Q V M s z C=>?_);exists⟨_,_,kH P s.inst rfl,(hN P).2.2,?_⟩;exists(jI P s).go (by decide) (bt ?_);rw[z,<-J _ _ A m.plain o];refine kT r (iK _ _) (iK _ _) (au (g0 _) ?_);exists 1;exact I _ (b.trans (B.trans C))
theorem Fw(P:Pg)(j:G9 e a5 a5 ey ["due"])(g:aw e.A 39)(c:d9 Jo Jv JA≠[])(G6:(Jj,GL.list ((d9 Jo Jv JA).map bO))∈S)
(f:∀a,Le S a->Z .next (an a5 (cT d H k Jo Jv JA IX F [some (.ref Jj),some (.ref JE),some i,some Jn,some .none])) a):
  GK e (execs (i0.drop 2) e.env) GW (an a5 (cT d H k Jo Jv JA IX F [some (.ref Jj),some (.ref JE),some i,some Jn,some .none])) S Z:=by
 exists aH ?_;intro h;refine eZ g (.inl (ac G6)) (.inl am) ?_;exists au (show(!((d9 Jo Jv JA).map bO).isEmpty)=true from by cases b:d9 Jo Jv JA with|nil=>exact absurd b c|cons=>rfl) ?_;refine uP ?_;exists 1;exact f _ (Le.skip (Le.refl _))
theorem tF(P:Pg)(Hi:G2 "Exception"=none)(l:G9 e a5 a5 ey ["due"])(o:aw e.A 39)(J:dO e){i j:Pl}{p r:Sf}(n:cI S Jo Jv JA JN JW JQ)(ord:(i=Jv/\j=JA/\p=JW/\r=JQ)\/(i=JA/\j=Jv/\p=JQ/\r=JW))(Hh:(IX,GL.list [.ref JN.s,.ref JW.s,.ref JQ.s])∈S)
(z:[GG.ref JN.s,.ref JW.s,.ref JQ.s][q]? =some (.ref p.s))(B:[GG.ref JN.s,.ref JW.s,.ref JQ.s][v]? =some (.ref r.s))(A:(q:Int)<3/\(v:Int)<3)(G6:(Jj,GL.list ((d9 Jo Jv JA).map bO))∈S)
(E:∀s I,Le S s->Z .next (an a5 (cT d H k Jo Jv JA IX F [some (.ref Jj),some (.ref JE),some (.int q),some (.int v),some I])) s):
  GK e (execs i0 e.env) GW (an a5 (cT d H k Jo Jv JA IX F [some (.ref Jj),some (.ref JE),some (.int q),some (.int v),Ji])) S Z:=by
 have C:cI S Jo i j JN p r:=by
  rcases ord with⟨a,b,c,f⟩|⟨a,b,c,f⟩<;>rw[a,b,c,f]
  ·exact n
  ·exact n.swap
 have D:d2 (al Jo.rs) (al Jv.rs) (al JA.rs)↔d2 (al Jo.rs) (al i.rs) (al j.rs):=by
  rcases ord with⟨a,b,_,_⟩|⟨a,b,_,_⟩<;>rw[a,b]
  exact⟨uy,uy⟩
 exists d6 fun G m=>?_;refine m _ _ (d6 fun G m=>?_);by_cases g:d2 (al Jo.rs) (al Jv.rs) (al JA.rs)
 ·refine Ft P l o C Hh z B A (D.mp g) fun s T y u h=>m _ _ ?_;refine Fv P l o (n.le y) g (y.mem G6) u (fun Q U N L M=>?_) fun t x=>E t _ (y.trans x);refine ak0 n.dc g N L M (by rw[dG];exact u.tab.GO) u.ok (fun w=>rfl) ?_;rcases ord with⟨a,b,c,f⟩|⟨a,b,c,f⟩<;>replace h:=f▸c▸b▸a▸h
  ·exact .inl h
  ·exact .inr h
 ·exact Fu P Hi l o J C Hh z B A (fun O=>g (D.mpr O)) (m _ _ (Fw P l o g G6 fun t x=>E t _ x))
theorem Fq(P:Pg)(Hi:G2 "Exception"=none)(i:G9 e a5 a5 ey ["due"])(g:aw e.A 39)(m:dO e)(n:cI S Jo Jv JA JN JW JQ)(Hh:(IX,GL.list [.ref JN.s,.ref JW.s,.ref JQ.s])∈S)(G6:(Jj,GL.list ((d9 Jo Jv JA).map bO))∈S)
(s:∀c,Le S c->GK e (execs (ew.drop 9) e.env) GW (an a5 (cT d H k Jo Jv JA IX F [some (.ref Jj),some (.ref JE),none,none,none])) c Z):
  GK e (execs (ew.drop 8) e.env) GW (an a5 (cT d H k Jo Jv JA IX F [some (.ref Jj),some (.ref JE),none,none,none])) S Z:=by
 exists d6 fun j p=>?_;intro h;refine dv g.GR [((1:Nat),(2:Nat)),(2,1)] (fun a=>.tup [.int a.1,.int a.2]) (fun y y=>cT d H k Jo Jv JA IX F [some (.ref Jj),some (.ref JE),none,none,none]) (fun y y=>(h,.list ([((1:Nat),(2:Nat)),(2,1)].map fun a=>.tup [.int a.1,.int a.2]))::S) (fun y y=>True) () (aD.refl _) (Le.refl _) trivial (fun y y=>am) (fun u a t y o y j r=>?_) fun y y=>p _ _ (s _ (Le.skip (Le.refl _)));have b:=Le.skip (p:=(h,GL.list ([((1:Nat),(2:Nat)),(2,1)].map fun a=>.tup [.int a.1,.int a.2]))) (Le.refl S);refine eg i g (by walk_at "nputs") ?_;have f:∀c l,Le ((h,GL.list ([((1:Nat),(2:Nat)),(2,1)].map fun a=>.tup [.int a.1,.int a.2]))::S) c->j .next (an a5 (cT d H k Jo Jv JA IX F [some (.ref Jj),some (.ref JE),some (.int a.1),some (.int a.2),some l])) c:=fun c l q=>r.n () trivial (by exists 3) q;rcases Nk.mp (bd o)with GI|GI
 ·rw[GI]at f⊢;exact tF P Hi i g m (n.le b) (.inl ⟨rfl,rfl,rfl,rfl⟩) (b.mem Hh) rfl rfl (by decide) (b.mem G6) f
 ·rw[Nj.mp GI]at f⊢;exact tF P Hi i g m (n.le b) (.inr ⟨rfl,rfl,rfl,rfl⟩) (b.mem Hh) rfl rfl (by decide) (b.mem G6) f
theorem Fs(P:Pg)(b:G9 e a5 a5 ey ["due"])(c:aw e.A 39)(i:cI S Jo Jv JA JN JW JQ)(Hh:(IX,GL.list [.ref JN.s,.ref JW.s,.ref JQ.s])∈S)(Hb:(F,GL.list [JN.told,JW.told,JQ.told])∈S)
(j:∀f,Le S f->Z .next (an a5 (cT d H k Jo Jv JA IX F [some (.ref Jj),some (.ref JE),none,none,none])) f):
  GK e (execs (ew.drop 9) e.env) GW (an a5 (cT d H k Jo Jv JA IX F [some (.ref Jj),some (.ref JE),none,none,none])) S Z:=by
 exists aH ?_
 with_reducible refine cy ["shelf"] b (by exists 4) (by exists 4) ?_
 exists 0;refine d8 [JN,JW,JQ] (fun a=>.ref a.s) Sf.told [none] (dj c.GR) (bC (show 3<=1000 by decide)) (.inl Hh) (fun j JQ=>.inl (ac Hh)) (bm.start (by walk_at "ncaps") b.GO) (fun a p l n h=>?_) fun l=>?_
 ·refine b2 ["shelf"] ["shelf"] [] [] b c (by exists 4) (by exists 4) fun m o=>?_;exists aZ m (by exists 2) (by walk_at "nput") ?_;exists⟨_,_,kH P (ac (i.all a h).inst) rfl,(hN P).2.2,?_⟩;exists(jI P (bv.there (i.all a h))).go (by decide) (bt ?_);exact cp rfl (by exists 3) (Le.refl _)
 exists 0;have g:∀a∈[JN.told,JW.told,JQ.told],aQ 20 a:=NT.mpr ⟨iK _ _,he (iK _ _) (iK _ _)⟩;refine uQ c (.inl am) (.inl (ac Hb)) g g (au (j5 _) ?_);exists 1;exact j _ (Le.skip (Le.refl _))
end
end
section
variable{S:aa}
theorem Fl(P:Pg)(Hi:G2 "Exception"=none)(a:G9 e a5 a5 ey ["due"])(b:aw e.A 39)(u:dO e)(z:cf S d (j.map .int))(D:j.length<1000)(J:∀L o,Z (.ret (.bool true)) L o):
  GK e (execs (aT 61) e.env) GW (an a5 [some (.ref d),none,none,none,none,none,none,none,none,none,none,none,none]) S Z:=by
 exists d6 fun m i=>?_;exists GN.lv (zz P z D fun q l t x=>?_);exists i _ _ (d6 fun m i=>?_);refine g3 (n:=2) b.GR (by decide) (fun w w=>[some (.ref d),some (.ref q),none,none,none,none,none,none,none,none,none,none,none]) (fun w(c:Nat×Int)=>(q,bb l c.1 c.2)::(l,.list (t.map .int))::S) (fun k c=>c.1<=90*k) (0,0) (aD.refl _) (Le.refl _) (Ni _) (fun k c y p m I=>?_) fun c w=>i _ _ ?_
 ·refine aZ a (by exists 2) (by walk_at "nput") ?_;refine Fm P a b x (aj (Np (mf p (OI 90 (Nh y))) 1) rfl) fun o r s X KU KV B v A C E=>?_;refine Fn P a b v A C fun Q O F Y KS KT g Hh Hb G=>?_;refine Fo P a b g ?_;refine Fp P a b g Hh fun T M N G6 f=>?_;refine Fq P Hi a b u (g.le f) (f.mem Hh) G6 fun U h=>?_;refine Fs P a b (g.le (f.trans h)) ((f.trans h).mem Hh) ((f.trans h).mem Hb) fun V H=>?_;exact I.n (r,s) (by show r<=90*(k+1);exact mf B (mf (Np p 90) (Ni _))) (by exists 3) (E.trans (G.trans (f.trans (h.trans H))))
 ·exists 0;exact J _ _
end
theorem Er(b:List Int):∀a:List Value,a.length=b.length->(∀c,c<b.length->∃e,a[c]? =some (.int (b.getD c 0) e))->ao I a (b.map .int):=by
 induction b with
 |nil=>intro a d _;rw[Ql d];exact .nil
 |cons j b i=>
  intro a d f;cases a with
  |nil=>cases d
  |cons k a=>
   obtain⟨e,h⟩:=f 0 (PB _);exact .cons ((NM h)▸ .int j e) (i a (OU d) fun c g=>f (c+1) (Qu g))
theorem CV:it W0:=by
 intro P Hi M o g k h f v z A G I e s d r x;have l:LR [(g,GL.fixed (h.map .int))] G.heap:=by
  refine⟨NP.mpr (e▸⟨k,f,Er h k.toList (by rw[NI];exact v) fun B t=>?_⟩),.nil,bs,fun L O u=>?_,fun c i a=>e▸a⟩
  ·rw[O1];exact z B t
  ·refine ah f fun i H=>?_;rw[(Oh (Nj.mp u)).1];exact⟨i,H.1⟩
 refine Pc (z5 (n:=39) (Rf:=fun c=>c=.bool true) P.T o adf rfl ⟨s,r,x⟩ d l (.cons (.ref g) .nil) fun J q E d=>Fl P Hi q E d (.inr am) (NV A (by decide)) fun Q m=>⟨m,Le.refl _,rfl⟩) fun D N b=>?_;cases D with
 |error a=>exact b.elim
 |ok p=>cases p with
  |next=>exact b.elim
  |ret j=>
   obtain⟨c,y,a,C,st⟩:=b;subst a;exact⟨congrArg (fun j=>Except.ok (Flow.ret j)) y.jA,e▸C,st⟩
  |_=>exact b.elim
theorem ahb{R:WRecords}{j:Str->Option Addr}(b:List Int):∀{d:List Value}{e:List Addr},ReadsAllW R j I d (b.map .int) e->d.length=b.length/\∀a,a<b.length->∃g,d[a]? =some (.int (b.getD a 0) g):=by
 induction b with
 |nil=>intro d e c;cases c;exact⟨rfl,fun a f=>nomatch f⟩
 |cons n b k=>
  intro d e c;cases c with
  |cons i c=>
   refine ah (readsW_int_inv i) fun g m=>?_;obtain rfl:=m.1;refine aW (k c) fun h=>?_;have l:=h.2;exact⟨congrArg Nat.succ h.1,fun a f=>by cases a with|zero=>exact⟨g,rfl⟩|succ a=>exact l a (S1 f)⟩
theorem age{a:List WData}(b:WTm.holds [] dX.pre {args:=[.list a]}=true):a.length<=63:=by
 refine PO fun e=>?_;have c:WTm.value [] (.not (.lt (.lit (.int 63)) (.len (.arg 0)))) {args:=[.list a]}=some (WData.bool (!(decide ((63:Int)<(a.length:Int))))):=rfl;have f:(63:Int)<(a.length:Int):=Ol.mpr e;replace c:=(decide_eq_true f)▸c;have d:WTm.value [] dX.pre {args:=[.list a]}=some (WData.bool false):=by
  show WTm.value [] (.and (.not (.lt (.lit (.int 63)) (.len (.arg 0)))) (.lit (.bool true))) _=_;unfold WTm.value;rw[c];rfl
 unfold WTm.holds at b;replace b:=d▸b;cases b
noncomputable def g4:DefRec:=⟨"law",az 61,aT 61,aA 61,⟨606,0,631,15⟩⟩
theorem DG:defOf Hl dX.name=some (g4,[]):=by kernel_rfl
theorem D9:dX.prog.theDef dX.name=some (g4.params,g4.body,g4.scope):=by kernel_rfl
theorem DM:kwWritten? g4.params.kwonlyargs g4.params.kw_defaults=some []:=by kernel_rfl
theorem DE:WalkO Hl HA (fun _ _=>True) (fun w c=>aV (Hh w.params) c) dX.toRowW g4 [] fun t e=>PySem.call t e:=by
 intro w K1 j G2 HF a m u KY KZ Q doc V KX KV KS Z G6 z x args K3 N A KT C KW KU;refine aW (pre_splitW A) fun k=>?_;obtain⟨U,H,o,y,B⟩:=hasAllW_cons k.1;subst o;have p:=hasAllW_nil B;subst p;obtain⟨K4,q,d⟩:=hasW_list y;subst q;have h:=age k.2;obtain⟨i,r⟩:=items_int d;subst r;cases C with
 |cons I J=>
  cases J;refine f2 (readsW_list_inv I) fun G e O f=>?_;have s:=f.1;subst s;refine aW (ahb i f.3) fun l=>?_;rw[Nb]at h;refine oR (DI m ⟨a.T.g,a.T.b,a.T.nolimit,a.T.builtins⟩) fun b=>?_;have v:u=613:=Value.ref.inj (NM (z.symm.trans b.3));subst v;refine Pb (Pc (CW CV ⟨PySem.Challenge.pw_nn0152_01,w,j.heap,G2,HF⟩ b.1 b.2 613 b.4 G e i f.2 (by rw[<-NI];exact l.1) (fun D d=>by rw[<-O1];exact l.2 D d) h j callerA rfl rfl rfl (by exists 4) (by exists 4)) fun H K0 L=>?_);obtain⟨n,E,Y,K2,X,g⟩:=L;subst n;refine⟨.inl ⟨.bool true,.bool true,[],rfl,fun T=>rfl,.bool true,postW_of rfl rfl (same_self _),fun _=>⟨.nil,fun M c=>nomatch c⟩⟩,.of_keep E,by rw[g],.of_eq (by rw[g];exact x)⟩
theorem DY(a:Shared):RecFacts dX.records a.heap:=recFacts_of (R:=[]) (s:=a) rfl
theorem h_all(g:dX.wellSaid=true):dX.Holds:=
 holds_open (XP:=fun x x=>True) DR (fun w e a b d c=>a.symm▸c) (fun w c i f h b d a=>h _ _ (f b d a)) (fun x x=>trivial) (fun x x x x x=>trivial) DG D9 DM (fun e x=>DY e) rfl g DT DC DX DE
end Nn.Internal
theorem PySem.Challenge.cw_nn0152_01_holds : PySem.Challenge.rw_nn0152_01.Holds :=
 PySem.W.holds_law Nn.Internal.h_said Nn.Internal.h_all
