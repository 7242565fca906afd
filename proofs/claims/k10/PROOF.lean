import PyProof.Rows.All
import Wide.All
import OpenK.AllK
import Wide.FinOn
import HandS.ForMost
import HandS.Words
import HandS.WordsExc
import KE.KStateDown
import HandS.Head0
import HandS.Head1
import HandS.Head2
import HandS.ExcInit
import KE.KeyNested
import HandS.TryOnly
import HandS.More
import HandS.IsInst
import HandS.MakeKwOnly
import HandS.Property
import HandS.TupAny
import HandS.Style
import KE.KOpsOwn
import HandS.Star
import KE.KCallOwn
import HandS.Deep
import HandS.SortInts
import PyProof.ReprLen
import OpenK.KOps
import OpenK.KMeth
import HandS.ExcOwn
import HandS.ExcField
import HandS.ExcIs
import HandS.Nested
import KE.KExcSuper
import PyProof.IsiH_list
import PyProof.Transfer
import KE.SortData
import HandS.SortOrd
import HandS.SortRule
import HandS.SetKeys
import HandS.Strs
import PyProof.Rows.SetFrom
import PyProof.TupleIter
import PyProof.WalksMore
import KE.GoesMore
import PyProof.EnumMake
import PyProof.Draws
import HandS.Iter
import PyProof.SumWalkG
import PyProof.ListOps
import PyProof.Rows.SeqMore
import HandS.Flow
import HandS.Text
import HandS.Conv
import HandS.Finally
import HandS.TupSets
import HandS.DictTup
import KE.DataMinMax
import HandS.DeepEq
import KE.KEqNest
import KE.KDictZip
import HandS.TryMany
import KE.KDictWalk
import HandS.TupMul
import HandS.DictComp
import KE.KDictList
import HandS.Zip
import HandS.Exc
import HandS.Small
import HandS.TupLe
import KE.LtSeq
import HandS.DictEq
import HandS.ReplaceLit
import KE.KDictPairs
import HandS.SuiteRaise
import HandS.RaiseFrom
import HandS.NestedHot
import HandS.ExcInitHot
import KE.KTryMore
import PyProof.ListNew
import HandS.ExcValue
import PyProof.EqKinds
import PyProof.FactsAll.dict
import PySem.Challenge.RW_sparetails_k10_errors_and_kinds
set_option Elab.async false
set_option linter.all false
set_option maxRecDepth 100000
namespace Fm
inductive Cj(a b:Prop):Prop where
 |i:a→b→Cj a b
def Gr{α:Type}(P:α→Prop):List α→Prop
 | []=>True
 |x::xs=>Cj (P x) (Gr P xs)
theorem Gr.mem{α:Type}{P:α→Prop}:∀{l:List α},Gr P l→∀x∈l,P x
 | [],_,_,h=>nomatch h
 |y::l,h,x,hx=>by
  obtain⟨h1,h2⟩:=h
  rcases List.mem_cons.mp hx with rfl|hx
  ·exact h1
  ·exact Gr.mem h2 x hx
def AdB(t:List (String×List (String×Bool))):String→String→Option Bool:=fun C D=>(t.lookup C).bind fun r=>r.lookup D
theorem N5{β:Type}{C:String}{r:β}:∀{l:List (String×β)},l.lookup C=some r→(C,r)∈l
 | [],h=>nomatch h
 |(k,v)::l,h=>by
  by_cases q:C=k
  ·subst q
   rw[List.lookup_cons_self] at h
   cases h
   exact List.mem_cons_self ..
  ·rw[List.lookup_cons,show(C==k)=false from by simpa using q] at h
   exact List.mem_cons_of_mem _ (N5 h)
end Fm
set_option maxHeartbeats 4000000
namespace K10
open PySem L2
def Br(i:Nat):Stmt:=PySem.Challenge.pw_sparetails_k10_errors_and_kinds.main.body.getD i (.Pass ⟨0,0,0,0⟩)
abbrev Bq(K:PySem.W.Frag)(f:Addr)(n q:Str)(st:Stmt):Prop:=∃(oc:Value) (od an:Option Addr) (sl:Array (Option Value)) (kV dc pm cd ct:Value),K.lookup f=some ⟨oc,od,.func (PySem.W.fnOf n q (defArgs st) (defBody st) (defScope st) .none kV dc pm an cd ct),sl⟩∧PySem.W.codeIn K cd q=true∧PySem.W.keepIn K (.ref f)=true
abbrev Fq(K:PySem.W.Frag)(f:Addr)(n:Str)(st:Stmt):Prop:=PySem.W.nsIn K mainGlobals n=some (some (.ref f))∧Bq K f n n st
abbrev Mq(K:PySem.W.Frag)(f c:Addr)(n q:Str)(st:Stmt):Prop:=PySem.W.findIn K (.ref c) n=some (some (.ref f))∧PySem.W.isFn K (.ref f)=true∧Bq K f n q st
theorem Fq.i{K:PySem.W.Frag}{f:Addr}{n:Str}{st:Stmt}{oc:Value}{od an:Option Addr}{sl:Array (Option Value)}{kV dc pm cd ct:Value}(a:PySem.W.nsIn K mainGlobals n=some (some (.ref f)))(x:K.lookup f=some ⟨oc,od,.func (PySem.W.fnOf n n (defArgs st) (defBody st) (defScope st) .none kV dc pm an cd ct),sl⟩)(c:PySem.W.codeIn K cd n=true)(k:PySem.W.keepIn K (.ref f)=true):Fq K f n st:=⟨a,oc,od,an,sl,kV,dc,pm,cd,ct,x,c,k⟩
theorem Mq.i{K:PySem.W.Frag}{f c:Addr}{n q:Str}{st:Stmt}{oc:Value}{od an:Option Addr}{sl:Array (Option Value)}{kV dc pm cd ct:Value}(a:PySem.W.findIn K (.ref c) n=some (some (.ref f)))(i:PySem.W.isFn K (.ref f)=true)(x:K.lookup f=some ⟨oc,od,.func (PySem.W.fnOf n q (defArgs st) (defBody st) (defScope st) .none kV dc pm an cd ct),sl⟩)(e:PySem.W.codeIn K cd q=true)(k:PySem.W.keepIn K (.ref f)=true):Mq K f c n q st:=⟨a,i,oc,od,an,sl,kV,dc,pm,cd,ct,x,e,k⟩
theorem Fq.go{K:PySem.W.Frag}{f:Addr}{n:Str}{st:Stmt}(h:Fq K f n st):PySem.W.nsIn K mainGlobals n=some (some (.ref f))∧∃fd,Fun K n n st f fd∧PySem.W.keepIn K (.ref f)=true:=by
 obtain⟨a,oc,od,an,sl,kV,dc,pm,cd,ct,x,c,k⟩:=h
 exact⟨a,_,fun_mk x c k,k⟩
theorem Mq.go{K:PySem.W.Frag}{f c:Addr}{n q:Str}{st:Stmt}(h:Mq K f c n q st):PySem.W.findIn K (.ref c) n=some (some (.ref f))∧PySem.W.isFn K (.ref f)=true∧∃fd,Fun K n q st f fd∧PySem.W.keepIn K (.ref f)=true:=by
 obtain⟨a,i,oc,od,an,sl,kV,dc,pm,cd,ct,x,c,k⟩:=h
 exact⟨a,i,_,fun_mk x c k,k⟩
def Eb(l:PySem.W.OpenLaw)(K:PySem.W.Frag)(c_:Addr)(q_:Str)(st_:Stmt):Prop:=∃(nmE_ qE_ fileE_:Str) (NE_ fE_ ccE_ ceE_:Addr) (bsE_ bmE_ subE_:List Value) (snE_:List Str) (abE_:Bool) (colE_:Option Bool) (ddE_ odE_ cldE_ cddE_:Option Addr) (k0E_ k1E_ k2E_ k3E_ k5E_:Option Value) (ocE_ dcE_ pmE_ ctE_ clE_ cclE_:Value) (slE_ cslE_ ccsE_:Array (Option Value)) (vsE_:Array Value) (tfE_:Tok),Fm.Cj (K.lookup c_ = some (excClassObj nmE_ qE_ c_ NE_ bsE_ bmE_ true snE_ subE_ abE_ colE_ ddE_ k0E_ k1E_ k2E_ k3E_ k5E_ "ValueError.__new__")) (Fm.Cj (PySem.HandSPX.refsVE bmE_ = true) (Fm.Cj (PySem.W.findIn K (.ref c_) "__setattr__" = some (some (.builtin "object.__setattr__"))) (Fm.Cj (PySem.W.subIn K (.ref c_) (.type "BaseException")=some true) (Fm.Cj (PySem.W.typeIn K (.ref c_)=some (.type "type")) (Fm.Cj (PySem.W.keepIn K (.ref c_)=true) (Fm.Cj (PySem.W.findIn K (.ref c_) "__init__" = some (some (.ref fE_))) (Fm.Cj (PySem.W.typeIn K (.ref fE_)=some (.type "function")) (Fm.Cj (K.lookup fE_ = some ⟨ocE_,odE_,.func (PySem.W.fnX "__init__" (q_) (defArgs st_) (defBody st_) (defScope st_) [(("__class__" : Str),ccE_)] .none .none dcE_ pmE_ none (.ref ceE_) ctE_),slE_⟩) (Fm.Cj (PySem.W.codeIn K (.ref ceE_) (q_)=true) (Fm.Cj (K.lookup ccE_ = some ⟨clE_,cldE_,.cell (some (.ref c_)),cslE_⟩) (Fm.Cj (K.lookup ceE_ = some ⟨cclE_,cddE_,.fields vsE_,ccsE_⟩) (Fm.Cj (vsE_[2]? = some (.str fileE_ tfE_)) (Fm.Cj (((l.prog.main.file:Str)==fileE_)=true) (Fm.Cj ((l.prog.main.scope.names.lookup ("super" : Str)).isSome=false) (Fm.Cj (PySem.W.ks_superIn K c_ c_ "__init__" = some (some (.builtin "ValueError.__init__"))) (Fm.Cj (PySem.W.nsIn K cStatics "thirdparty.any" = some none) (Fm.Cj (PySem.W.subIn K (.ref c_) (.type "ValueError")=some true) (Fm.Cj (PySem.W.mroIn K c_ (.ref c_)=some true) (Fm.Cj (PySem.W.findIn K (.ref c_) "__getattribute__" = some (some (.builtin "BaseException.__getattribute__"))) (Fm.Cj (PySem.W.findIn K (.ref c_) "__getattr__" = some none) (Fm.Cj (PySem.W.hasDictIn K c_ = true) (Fm.Cj (PySem.W.findIn K (.ref c_) "__class__" = some (some (.builtin "object.__class__"))) (Fm.Cj (PySem.W.specialIn K (.builtin "object.__class__") "__get__" = some (some (.builtin "getset_descriptor.__get__"))) (Fm.Cj (PySem.W.takesIn K (.builtin "object.__class__")=some true) (Fm.Cj (PySem.W.mroIn K c_ (.type "object")=some true) (True))))))))))))))))))))))))))
theorem Eb.i{l:PySem.W.OpenLaw}{K:PySem.W.Frag}{c_:Addr}{q_:Str}{st_:Stmt}{nmE_ qE_ fileE_:Str}{NE_ fE_ ccE_ ceE_:Addr}{bsE_ bmE_ subE_:List Value}{snE_:List Str}{abE_:Bool}{colE_:Option Bool}{ddE_ odE_ cldE_ cddE_:Option Addr}{k0E_ k1E_ k2E_ k3E_ k5E_:Option Value}{ocE_ dcE_ pmE_ ctE_ clE_ cclE_:Value}{slE_ cslE_ ccsE_:Array (Option Value)}{vsE_:Array Value}{tfE_:Tok}(x0:K.lookup c_ = some (excClassObj nmE_ qE_ c_ NE_ bsE_ bmE_ true snE_ subE_ abE_ colE_ ddE_ k0E_ k1E_ k2E_ k3E_ k5E_ "ValueError.__new__"))(x1:PySem.HandSPX.refsVE bmE_ = true)(x2:PySem.W.findIn K (.ref c_) "__setattr__" = some (some (.builtin "object.__setattr__")))(x3:PySem.W.subIn K (.ref c_) (.type "BaseException")=some true)(x4:PySem.W.typeIn K (.ref c_)=some (.type "type"))(x5:PySem.W.keepIn K (.ref c_)=true)(x6:PySem.W.findIn K (.ref c_) "__init__" = some (some (.ref fE_)))(x7:PySem.W.typeIn K (.ref fE_)=some (.type "function"))(x8:K.lookup fE_ = some ⟨ocE_,odE_,.func (PySem.W.fnX "__init__" (q_) (defArgs st_) (defBody st_) (defScope st_) [(("__class__" : Str),ccE_)] .none .none dcE_ pmE_ none (.ref ceE_) ctE_),slE_⟩)(x9:PySem.W.codeIn K (.ref ceE_) (q_)=true)(x10:K.lookup ccE_ = some ⟨clE_,cldE_,.cell (some (.ref c_)),cslE_⟩)(x11:K.lookup ceE_ = some ⟨cclE_,cddE_,.fields vsE_,ccsE_⟩)(x12:vsE_[2]? = some (.str fileE_ tfE_))(x13:((l.prog.main.file:Str)==fileE_)=true)(x14:(l.prog.main.scope.names.lookup ("super" : Str)).isSome=false)(x15:PySem.W.ks_superIn K c_ c_ "__init__" = some (some (.builtin "ValueError.__init__")))(x16:PySem.W.nsIn K cStatics "thirdparty.any" = some none)(x17:PySem.W.subIn K (.ref c_) (.type "ValueError")=some true)(x18:PySem.W.mroIn K c_ (.ref c_)=some true)(x19:PySem.W.findIn K (.ref c_) "__getattribute__" = some (some (.builtin "BaseException.__getattribute__")))(x20:PySem.W.findIn K (.ref c_) "__getattr__" = some none)(x21:PySem.W.hasDictIn K c_ = true)(x22:PySem.W.findIn K (.ref c_) "__class__" = some (some (.builtin "object.__class__")))(x23:PySem.W.specialIn K (.builtin "object.__class__") "__get__" = some (some (.builtin "getset_descriptor.__get__")))(x24:PySem.W.takesIn K (.builtin "object.__class__")=some true)(x25:PySem.W.mroIn K c_ (.type "object")=some true):Eb l K c_ q_ st_:=⟨nmE_,qE_,fileE_,NE_,fE_,ccE_,ceE_,bsE_,bmE_,subE_,snE_,abE_,colE_,ddE_,odE_,cldE_,cddE_,k0E_,k1E_,k2E_,k3E_,k5E_,ocE_,dcE_,pmE_,ctE_,clE_,cclE_,slE_,cslE_,ccsE_,vsE_,tfE_,(Fm.Cj.i x0 (Fm.Cj.i x1 (Fm.Cj.i x2 (Fm.Cj.i x3 (Fm.Cj.i x4 (Fm.Cj.i x5 (Fm.Cj.i x6 (Fm.Cj.i x7 (Fm.Cj.i x8 (Fm.Cj.i x9 (Fm.Cj.i x10 (Fm.Cj.i x11 (Fm.Cj.i x12 (Fm.Cj.i x13 (Fm.Cj.i x14 (Fm.Cj.i x15 (Fm.Cj.i x16 (Fm.Cj.i x17 (Fm.Cj.i x18 (Fm.Cj.i x19 (Fm.Cj.i x20 (Fm.Cj.i x21 (Fm.Cj.i x22 (Fm.Cj.i x23 (Fm.Cj.i x24 (Fm.Cj.i x25 trivial))))))))))))))))))))))))))⟩
def En(K:PySem.W.Frag)(c_:Addr):Prop:=Fm.Cj (PySem.W.excIn K c_ [.type "ValueError", .type "Exception", .type "BaseException", .type "object"] "ValueError.__new__" = true) (Fm.Cj (PySem.W.subIn K (.ref c_) (.type "BaseException")=some true) (Fm.Cj (PySem.W.typeIn K (.ref c_)=some (.type "type")) (Fm.Cj (PySem.W.keepIn K (.ref c_)=true) (Fm.Cj (PySem.W.findIn K (.ref c_) "__getattribute__" = some (some (.builtin "BaseException.__getattribute__"))) (Fm.Cj (PySem.W.findIn K (.ref c_) "__getattr__" = some none) (Fm.Cj (PySem.W.hasDictIn K c_ = true) (Fm.Cj (PySem.W.findIn K (.ref c_) "__class__" = some (some (.builtin "object.__class__"))) (Fm.Cj (PySem.W.specialIn K (.builtin "object.__class__") "__get__" = some (some (.builtin "getset_descriptor.__get__"))) (Fm.Cj (PySem.W.takesIn K (.builtin "object.__class__")=some true) (Fm.Cj (PySem.W.mroIn K c_ (.type "object")=some true) (True)))))))))))
theorem En.i{K:PySem.W.Frag}{c_:Addr}  (x0:PySem.W.excIn K c_ [.type "ValueError", .type "Exception", .type "BaseException", .type "object"] "ValueError.__new__" = true) (x1:PySem.W.subIn K (.ref c_) (.type "BaseException")=some true) (x2:PySem.W.typeIn K (.ref c_)=some (.type "type")) (x3:PySem.W.keepIn K (.ref c_)=true) (x4:PySem.W.findIn K (.ref c_) "__getattribute__" = some (some (.builtin "BaseException.__getattribute__"))) (x5:PySem.W.findIn K (.ref c_) "__getattr__" = some none) (x6:PySem.W.hasDictIn K c_ = true) (x7:PySem.W.findIn K (.ref c_) "__class__" = some (some (.builtin "object.__class__"))) (x8:PySem.W.specialIn K (.builtin "object.__class__") "__get__" = some (some (.builtin "getset_descriptor.__get__"))) (x9:PySem.W.takesIn K (.builtin "object.__class__")=some true) (x10:PySem.W.mroIn K c_ (.type "object")=some true):En K c_:=(Fm.Cj.i x0 (Fm.Cj.i x1 (Fm.Cj.i x2 (Fm.Cj.i x3 (Fm.Cj.i x4 (Fm.Cj.i x5 (Fm.Cj.i x6 (Fm.Cj.i x7 (Fm.Cj.i x8 (Fm.Cj.i x9 (Fm.Cj.i x10 trivial)))))))))))
def Facts(l:PySem.W.OpenLaw)(w:World)(K:PySem.W.Frag)(h:Heap)(mg:Str→Option Value)(fa:Addr):Prop:=∀C:Prop,(∀{f_1 f_2 f_3 f_4 f_5 f_6 f_7 f_8 f_9 f_10 f_11 f_12 f_13 f_14 c_Wrong c_Unknown c_NoCell c_BadRoom c_Unfit c_NoArray c_Broken c_NoPlace c_TooMany c_NoFunction c_Full c_Refused c_NoEntry c_Endless c_BadStatement c_Nothing c_Unlike c_NoDeed c_NoText c_NoCommand c_TailError:Addr}
  {od14 an14:Option Addr} {sl14:Array (Option Value)} {oc14 kV14 dc14 pm14 cd14 ct14:Value}
  {ac_GROWINGS:Addr} {odc_GROWINGS:Option Addr} {nc_GROWINGS:Nat} {slc_GROWINGS:Array (Option Value)} {tc0_GROWINGS tc1_GROWINGS:Tok}
  {tc_LETTERS:Tok}
  {tc_MOST_LETTERS:Tok}
  (a_Wrong:PySem.W.nsIn K mainGlobals "Wrong" = some (some (.ref c_Wrong)))
  (a_Unknown:PySem.W.nsIn K mainGlobals "Unknown" = some (some (.ref c_Unknown)))
  (a_NoCell:PySem.W.nsIn K mainGlobals "NoCell" = some (some (.ref c_NoCell)))
  (a_BadRoom:PySem.W.nsIn K mainGlobals "BadRoom" = some (some (.ref c_BadRoom)))
  (a_Unfit:PySem.W.nsIn K mainGlobals "Unfit" = some (some (.ref c_Unfit)))
  (a_NoArray:PySem.W.nsIn K mainGlobals "NoArray" = some (some (.ref c_NoArray)))
  (a_Broken:PySem.W.nsIn K mainGlobals "Broken" = some (some (.ref c_Broken)))
  (a_NoPlace:PySem.W.nsIn K mainGlobals "NoPlace" = some (some (.ref c_NoPlace)))
  (a_TooMany:PySem.W.nsIn K mainGlobals "TooMany" = some (some (.ref c_TooMany)))
  (a_NoFunction:PySem.W.nsIn K mainGlobals "NoFunction" = some (some (.ref c_NoFunction)))
  (a_Full:PySem.W.nsIn K mainGlobals "Full" = some (some (.ref c_Full)))
  (a_Refused:PySem.W.nsIn K mainGlobals "Refused" = some (some (.ref c_Refused)))
  (a_NoEntry:PySem.W.nsIn K mainGlobals "NoEntry" = some (some (.ref c_NoEntry)))
  (a_Endless:PySem.W.nsIn K mainGlobals "Endless" = some (some (.ref c_Endless)))
  (a_BadStatement:PySem.W.nsIn K mainGlobals "BadStatement" = some (some (.ref c_BadStatement)))
  (a_Nothing:PySem.W.nsIn K mainGlobals "Nothing" = some (some (.ref c_Nothing)))
  (a_Unlike:PySem.W.nsIn K mainGlobals "Unlike" = some (some (.ref c_Unlike)))
  (a_NoDeed:PySem.W.nsIn K mainGlobals "NoDeed" = some (some (.ref c_NoDeed)))
  (a_NoText:PySem.W.nsIn K mainGlobals "NoText" = some (some (.ref c_NoText)))
  (a_NoCommand:PySem.W.nsIn K mainGlobals "NoCommand" = some (some (.ref c_NoCommand)))
  (a_TailError:PySem.W.nsIn K mainGlobals "TailError" = some (some (.ref c_TailError)))
  (g1:Fq K f_1 "is_integer" (Br 4))
  (g2:Fq K f_2 "is_number" (Br 5))
  (g3:Fq K f_3 "is_name" (Br 6))
  (g4:Fq K f_4 "is_growing" (Br 7))
  (g5:Fq K f_5 "_law_bag" (Br 31))
  (g6:Fq K f_6 "_law_take" (Br 32))
  (g7:Fq K f_7 "_law_alike" (Br 33))
  (g8:Fq K f_8 "_law_odd" (Br 34))
  (g9:Fq K f_9 "_law_is_name" (Br 35))
  (g10:Fq K f_10 "_law_errors" (Br 36))
  (g11:Fq K f_11 "_law_flags" (Br 37))
  (g12:Fq K f_12 "_law_errors_right" (Br 38))
  (g13:Fq K f_13 "_law_thing" (Br 39))
  (a14:PySem.W.nsIn K mainGlobals "law" = some (some (.ref f_14)))
  (l14:K.lookup f_14=some ⟨oc14,od14,.func (PySem.W.fnOf "law" "law" (defArgs (Br 40)) (defBody (Br 40)) (defScope (Br 40)) .none kV14 dc14 pm14 an14 cd14 ct14),sl14⟩)
  (c14:PySem.W.codeIn K cd14 "law" = true)
  (k14:PySem.W.keepIn K (.ref f_14)=true)
  (qn_GROWINGS:PySem.W.nsIn K mainGlobals "GROWINGS" = some (some (.ref ac_GROWINGS)))
  (ql_GROWINGS:K.lookup ac_GROWINGS=some ⟨.type "tuple", odc_GROWINGS,.seq #[.str (Str.ofString "exact") tc0_GROWINGS,.str (Str.ofString "spare") tc1_GROWINGS] nc_GROWINGS,slc_GROWINGS⟩)
  (qn_LETTERS:PySem.W.nsIn K mainGlobals "LETTERS" = some (some (.str (Str.ofString "abcdefghijklmnopqrstuvwxyz") tc_LETTERS)))
  (qn_MOST_LETTERS:PySem.W.nsIn K mainGlobals "MOST_LETTERS" = some (some (.int 8 tc_MOST_LETTERS)))
  (z_ValueError:PySem.W.nsIn K mainGlobals "ValueError" = some none)
  (z_abs:PySem.W.nsIn K mainGlobals "abs" = some none)
  (z_all:PySem.W.nsIn K mainGlobals "all" = some none)
  (z_bool:PySem.W.nsIn K mainGlobals "bool" = some none)
  (z_int:PySem.W.nsIn K mainGlobals "int" = some none)
  (z_isinstance:PySem.W.nsIn K mainGlobals "isinstance" = some none)
  (z_len:PySem.W.nsIn K mainGlobals "len" = some none)
  (z_list:PySem.W.nsIn K mainGlobals "list" = some none)
  (z_range:PySem.W.nsIn K mainGlobals "range" = some none)
  (z_repr:PySem.W.nsIn K mainGlobals "repr" = some none)
  (z_str:PySem.W.nsIn K mainGlobals "str" = some none)
  (z_super:PySem.W.nsIn K mainGlobals "super" = some none)
  (eb_Wrong:Eb l K c_Wrong (Str.ofString "Wrong.__init__") (inClass (Br 10) 0))
  (eb_Unknown:Eb l K c_Unknown (Str.ofString "Unknown.__init__") (inClass (Br 13) 0))
  (eb_NoCell:Eb l K c_NoCell (Str.ofString "NoCell.__init__") (inClass (Br 14) 0))
  (eb_BadRoom:Eb l K c_BadRoom (Str.ofString "BadRoom.__init__") (inClass (Br 15) 0))
  (eb_Unfit:Eb l K c_Unfit (Str.ofString "Unfit.__init__") (inClass (Br 17) 0))
  (eb_NoArray:Eb l K c_NoArray (Str.ofString "NoArray.__init__") (inClass (Br 18) 0))
  (eb_Broken:Eb l K c_Broken (Str.ofString "Broken.__init__") (inClass (Br 19) 0))
  (eb_NoPlace:Eb l K c_NoPlace (Str.ofString "NoPlace.__init__") (inClass (Br 20) 0))
  (eb_TooMany:Eb l K c_TooMany (Str.ofString "TooMany.__init__") (inClass (Br 21) 0))
  (eb_NoFunction:Eb l K c_NoFunction (Str.ofString "NoFunction.__init__") (inClass (Br 22) 0))
  (eb_Full:Eb l K c_Full (Str.ofString "Full.__init__") (inClass (Br 24) 0))
  (eb_Refused:Eb l K c_Refused (Str.ofString "Refused.__init__") (inClass (Br 26) 0))
  (eb_NoEntry:Eb l K c_NoEntry (Str.ofString "NoEntry.__init__") (inClass (Br 27) 0))
  (eb_Endless:Eb l K c_Endless (Str.ofString "Endless.__init__") (inClass (Br 12) 0))
  (eb_BadStatement:Eb l K c_BadStatement (Str.ofString "BadStatement.__init__") (inClass (Br 11) 0))
  (eb_Nothing:En K c_Nothing)
  (eb_Unlike:En K c_Unlike)
  (eb_NoDeed:En K c_NoDeed)
  (eb_NoText:En K c_NoText)
  (eb_NoCommand:En K c_NoCommand)
  (eb_TailError:En K c_TailError)
  (xkS:Fm.Cj (Fm.Cj (PySem.W.kitOne K (.ref c_Wrong) (.ref c_Wrong)=some true) (Fm.Cj (PySem.W.kitOne K (.ref c_Wrong) (.ref c_Unknown)=some false) (Fm.Cj (PySem.W.kitOne K (.ref c_Wrong) (.ref c_NoCell)=some false) (Fm.Cj (PySem.W.kitOne K (.ref c_Wrong) (.ref c_BadRoom)=some false) (Fm.Cj (PySem.W.kitOne K (.ref c_Wrong) (.ref c_Unfit)=some false) (Fm.Cj (PySem.W.kitOne K (.ref c_Wrong) (.ref c_NoArray)=some false) (Fm.Cj (PySem.W.kitOne K (.ref c_Wrong) (.ref c_Broken)=some false) (Fm.Cj (PySem.W.kitOne K (.ref c_Wrong) (.ref c_NoPlace)=some false) (Fm.Cj (PySem.W.kitOne K (.ref c_Wrong) (.ref c_TooMany)=some false) (Fm.Cj (PySem.W.kitOne K (.ref c_Wrong) (.ref c_NoFunction)=some false) (Fm.Cj (PySem.W.kitOne K (.ref c_Wrong) (.ref c_Full)=some false) (Fm.Cj (PySem.W.kitOne K (.ref c_Wrong) (.ref c_Refused)=some false) (Fm.Cj (PySem.W.kitOne K (.ref c_Wrong) (.ref c_NoEntry)=some false) (Fm.Cj (PySem.W.kitOne K (.ref c_Wrong) (.ref c_Endless)=some false) (Fm.Cj (PySem.W.kitOne K (.ref c_Wrong) (.ref c_BadStatement)=some false) (Fm.Cj (PySem.W.kitOne K (.ref c_Wrong) (.ref c_Nothing)=some false) (Fm.Cj (PySem.W.kitOne K (.ref c_Wrong) (.ref c_Unlike)=some false) (Fm.Cj (PySem.W.kitOne K (.ref c_Wrong) (.ref c_NoDeed)=some false) (Fm.Cj (PySem.W.kitOne K (.ref c_Wrong) (.ref c_NoText)=some false) (Fm.Cj (PySem.W.kitOne K (.ref c_Wrong) (.ref c_NoCommand)=some false) (Fm.Cj (PySem.W.kitOne K (.ref c_Wrong) (.ref c_TailError)=some true) (True)))))))))))))))))))))) (Fm.Cj (Fm.Cj (PySem.W.kitOne K (.ref c_Unknown) (.ref c_Wrong)=some false) (Fm.Cj (PySem.W.kitOne K (.ref c_Unknown) (.ref c_Unknown)=some true) (Fm.Cj (PySem.W.kitOne K (.ref c_Unknown) (.ref c_NoCell)=some false) (Fm.Cj (PySem.W.kitOne K (.ref c_Unknown) (.ref c_BadRoom)=some false) (Fm.Cj (PySem.W.kitOne K (.ref c_Unknown) (.ref c_Unfit)=some false) (Fm.Cj (PySem.W.kitOne K (.ref c_Unknown) (.ref c_NoArray)=some false) (Fm.Cj (PySem.W.kitOne K (.ref c_Unknown) (.ref c_Broken)=some false) (Fm.Cj (PySem.W.kitOne K (.ref c_Unknown) (.ref c_NoPlace)=some false) (Fm.Cj (PySem.W.kitOne K (.ref c_Unknown) (.ref c_TooMany)=some false) (Fm.Cj (PySem.W.kitOne K (.ref c_Unknown) (.ref c_NoFunction)=some false) (Fm.Cj (PySem.W.kitOne K (.ref c_Unknown) (.ref c_Full)=some false) (Fm.Cj (PySem.W.kitOne K (.ref c_Unknown) (.ref c_Refused)=some false) (Fm.Cj (PySem.W.kitOne K (.ref c_Unknown) (.ref c_NoEntry)=some false) (Fm.Cj (PySem.W.kitOne K (.ref c_Unknown) (.ref c_Endless)=some false) (Fm.Cj (PySem.W.kitOne K (.ref c_Unknown) (.ref c_BadStatement)=some false) (Fm.Cj (PySem.W.kitOne K (.ref c_Unknown) (.ref c_Nothing)=some false) (Fm.Cj (PySem.W.kitOne K (.ref c_Unknown) (.ref c_Unlike)=some false) (Fm.Cj (PySem.W.kitOne K (.ref c_Unknown) (.ref c_NoDeed)=some false) (Fm.Cj (PySem.W.kitOne K (.ref c_Unknown) (.ref c_NoText)=some false) (Fm.Cj (PySem.W.kitOne K (.ref c_Unknown) (.ref c_NoCommand)=some false) (Fm.Cj (PySem.W.kitOne K (.ref c_Unknown) (.ref c_TailError)=some true) (True)))))))))))))))))))))) (Fm.Cj (Fm.Cj (PySem.W.kitOne K (.ref c_NoCell) (.ref c_Wrong)=some false) (Fm.Cj (PySem.W.kitOne K (.ref c_NoCell) (.ref c_Unknown)=some false) (Fm.Cj (PySem.W.kitOne K (.ref c_NoCell) (.ref c_NoCell)=some true) (Fm.Cj (PySem.W.kitOne K (.ref c_NoCell) (.ref c_BadRoom)=some false) (Fm.Cj (PySem.W.kitOne K (.ref c_NoCell) (.ref c_Unfit)=some false) (Fm.Cj (PySem.W.kitOne K (.ref c_NoCell) (.ref c_NoArray)=some false) (Fm.Cj (PySem.W.kitOne K (.ref c_NoCell) (.ref c_Broken)=some false) (Fm.Cj (PySem.W.kitOne K (.ref c_NoCell) (.ref c_NoPlace)=some false) (Fm.Cj (PySem.W.kitOne K (.ref c_NoCell) (.ref c_TooMany)=some false) (Fm.Cj (PySem.W.kitOne K (.ref c_NoCell) (.ref c_NoFunction)=some false) (Fm.Cj (PySem.W.kitOne K (.ref c_NoCell) (.ref c_Full)=some false) (Fm.Cj (PySem.W.kitOne K (.ref c_NoCell) (.ref c_Refused)=some false) (Fm.Cj (PySem.W.kitOne K (.ref c_NoCell) (.ref c_NoEntry)=some false) (Fm.Cj (PySem.W.kitOne K (.ref c_NoCell) (.ref c_Endless)=some false) (Fm.Cj (PySem.W.kitOne K (.ref c_NoCell) (.ref c_BadStatement)=some false) (Fm.Cj (PySem.W.kitOne K (.ref c_NoCell) (.ref c_Nothing)=some false) (Fm.Cj (PySem.W.kitOne K (.ref c_NoCell) (.ref c_Unlike)=some false) (Fm.Cj (PySem.W.kitOne K (.ref c_NoCell) (.ref c_NoDeed)=some false) (Fm.Cj (PySem.W.kitOne K (.ref c_NoCell) (.ref c_NoText)=some false) (Fm.Cj (PySem.W.kitOne K (.ref c_NoCell) (.ref c_NoCommand)=some false) (Fm.Cj (PySem.W.kitOne K (.ref c_NoCell) (.ref c_TailError)=some true) (True)))))))))))))))))))))) (Fm.Cj (Fm.Cj (PySem.W.kitOne K (.ref c_BadRoom) (.ref c_Wrong)=some false) (Fm.Cj (PySem.W.kitOne K (.ref c_BadRoom) (.ref c_Unknown)=some false) (Fm.Cj (PySem.W.kitOne K (.ref c_BadRoom) (.ref c_NoCell)=some false) (Fm.Cj (PySem.W.kitOne K (.ref c_BadRoom) (.ref c_BadRoom)=some true) (Fm.Cj (PySem.W.kitOne K (.ref c_BadRoom) (.ref c_Unfit)=some false) (Fm.Cj (PySem.W.kitOne K (.ref c_BadRoom) (.ref c_NoArray)=some false) (Fm.Cj (PySem.W.kitOne K (.ref c_BadRoom) (.ref c_Broken)=some false) (Fm.Cj (PySem.W.kitOne K (.ref c_BadRoom) (.ref c_NoPlace)=some false) (Fm.Cj (PySem.W.kitOne K (.ref c_BadRoom) (.ref c_TooMany)=some false) (Fm.Cj (PySem.W.kitOne K (.ref c_BadRoom) (.ref c_NoFunction)=some false) (Fm.Cj (PySem.W.kitOne K (.ref c_BadRoom) (.ref c_Full)=some false) (Fm.Cj (PySem.W.kitOne K (.ref c_BadRoom) (.ref c_Refused)=some false) (Fm.Cj (PySem.W.kitOne K (.ref c_BadRoom) (.ref c_NoEntry)=some false) (Fm.Cj (PySem.W.kitOne K (.ref c_BadRoom) (.ref c_Endless)=some false) (Fm.Cj (PySem.W.kitOne K (.ref c_BadRoom) (.ref c_BadStatement)=some false) (Fm.Cj (PySem.W.kitOne K (.ref c_BadRoom) (.ref c_Nothing)=some false) (Fm.Cj (PySem.W.kitOne K (.ref c_BadRoom) (.ref c_Unlike)=some false) (Fm.Cj (PySem.W.kitOne K (.ref c_BadRoom) (.ref c_NoDeed)=some false) (Fm.Cj (PySem.W.kitOne K (.ref c_BadRoom) (.ref c_NoText)=some false) (Fm.Cj (PySem.W.kitOne K (.ref c_BadRoom) (.ref c_NoCommand)=some false) (Fm.Cj (PySem.W.kitOne K (.ref c_BadRoom) (.ref c_TailError)=some true) (True)))))))))))))))))))))) (Fm.Cj (Fm.Cj (PySem.W.kitOne K (.ref c_Unfit) (.ref c_Wrong)=some false) (Fm.Cj (PySem.W.kitOne K (.ref c_Unfit) (.ref c_Unknown)=some false) (Fm.Cj (PySem.W.kitOne K (.ref c_Unfit) (.ref c_NoCell)=some false) (Fm.Cj (PySem.W.kitOne K (.ref c_Unfit) (.ref c_BadRoom)=some false) (Fm.Cj (PySem.W.kitOne K (.ref c_Unfit) (.ref c_Unfit)=some true) (Fm.Cj (PySem.W.kitOne K (.ref c_Unfit) (.ref c_NoArray)=some false) (Fm.Cj (PySem.W.kitOne K (.ref c_Unfit) (.ref c_Broken)=some false) (Fm.Cj (PySem.W.kitOne K (.ref c_Unfit) (.ref c_NoPlace)=some false) (Fm.Cj (PySem.W.kitOne K (.ref c_Unfit) (.ref c_TooMany)=some false) (Fm.Cj (PySem.W.kitOne K (.ref c_Unfit) (.ref c_NoFunction)=some false) (Fm.Cj (PySem.W.kitOne K (.ref c_Unfit) (.ref c_Full)=some false) (Fm.Cj (PySem.W.kitOne K (.ref c_Unfit) (.ref c_Refused)=some false) (Fm.Cj (PySem.W.kitOne K (.ref c_Unfit) (.ref c_NoEntry)=some false) (Fm.Cj (PySem.W.kitOne K (.ref c_Unfit) (.ref c_Endless)=some false) (Fm.Cj (PySem.W.kitOne K (.ref c_Unfit) (.ref c_BadStatement)=some false) (Fm.Cj (PySem.W.kitOne K (.ref c_Unfit) (.ref c_Nothing)=some false) (Fm.Cj (PySem.W.kitOne K (.ref c_Unfit) (.ref c_Unlike)=some false) (Fm.Cj (PySem.W.kitOne K (.ref c_Unfit) (.ref c_NoDeed)=some false) (Fm.Cj (PySem.W.kitOne K (.ref c_Unfit) (.ref c_NoText)=some false) (Fm.Cj (PySem.W.kitOne K (.ref c_Unfit) (.ref c_NoCommand)=some false) (Fm.Cj (PySem.W.kitOne K (.ref c_Unfit) (.ref c_TailError)=some true) (True)))))))))))))))))))))) (Fm.Cj (Fm.Cj (PySem.W.kitOne K (.ref c_NoArray) (.ref c_Wrong)=some false) (Fm.Cj (PySem.W.kitOne K (.ref c_NoArray) (.ref c_Unknown)=some false) (Fm.Cj (PySem.W.kitOne K (.ref c_NoArray) (.ref c_NoCell)=some false) (Fm.Cj (PySem.W.kitOne K (.ref c_NoArray) (.ref c_BadRoom)=some false) (Fm.Cj (PySem.W.kitOne K (.ref c_NoArray) (.ref c_Unfit)=some false) (Fm.Cj (PySem.W.kitOne K (.ref c_NoArray) (.ref c_NoArray)=some true) (Fm.Cj (PySem.W.kitOne K (.ref c_NoArray) (.ref c_Broken)=some false) (Fm.Cj (PySem.W.kitOne K (.ref c_NoArray) (.ref c_NoPlace)=some false) (Fm.Cj (PySem.W.kitOne K (.ref c_NoArray) (.ref c_TooMany)=some false) (Fm.Cj (PySem.W.kitOne K (.ref c_NoArray) (.ref c_NoFunction)=some false) (Fm.Cj (PySem.W.kitOne K (.ref c_NoArray) (.ref c_Full)=some false) (Fm.Cj (PySem.W.kitOne K (.ref c_NoArray) (.ref c_Refused)=some false) (Fm.Cj (PySem.W.kitOne K (.ref c_NoArray) (.ref c_NoEntry)=some false) (Fm.Cj (PySem.W.kitOne K (.ref c_NoArray) (.ref c_Endless)=some false) (Fm.Cj (PySem.W.kitOne K (.ref c_NoArray) (.ref c_BadStatement)=some false) (Fm.Cj (PySem.W.kitOne K (.ref c_NoArray) (.ref c_Nothing)=some false) (Fm.Cj (PySem.W.kitOne K (.ref c_NoArray) (.ref c_Unlike)=some false) (Fm.Cj (PySem.W.kitOne K (.ref c_NoArray) (.ref c_NoDeed)=some false) (Fm.Cj (PySem.W.kitOne K (.ref c_NoArray) (.ref c_NoText)=some false) (Fm.Cj (PySem.W.kitOne K (.ref c_NoArray) (.ref c_NoCommand)=some false) (Fm.Cj (PySem.W.kitOne K (.ref c_NoArray) (.ref c_TailError)=some true) (True)))))))))))))))))))))) (Fm.Cj (Fm.Cj (PySem.W.kitOne K (.ref c_Broken) (.ref c_Wrong)=some false) (Fm.Cj (PySem.W.kitOne K (.ref c_Broken) (.ref c_Unknown)=some false) (Fm.Cj (PySem.W.kitOne K (.ref c_Broken) (.ref c_NoCell)=some false) (Fm.Cj (PySem.W.kitOne K (.ref c_Broken) (.ref c_BadRoom)=some false) (Fm.Cj (PySem.W.kitOne K (.ref c_Broken) (.ref c_Unfit)=some false) (Fm.Cj (PySem.W.kitOne K (.ref c_Broken) (.ref c_NoArray)=some false) (Fm.Cj (PySem.W.kitOne K (.ref c_Broken) (.ref c_Broken)=some true) (Fm.Cj (PySem.W.kitOne K (.ref c_Broken) (.ref c_NoPlace)=some false) (Fm.Cj (PySem.W.kitOne K (.ref c_Broken) (.ref c_TooMany)=some false) (Fm.Cj (PySem.W.kitOne K (.ref c_Broken) (.ref c_NoFunction)=some false) (Fm.Cj (PySem.W.kitOne K (.ref c_Broken) (.ref c_Full)=some false) (Fm.Cj (PySem.W.kitOne K (.ref c_Broken) (.ref c_Refused)=some false) (Fm.Cj (PySem.W.kitOne K (.ref c_Broken) (.ref c_NoEntry)=some false) (Fm.Cj (PySem.W.kitOne K (.ref c_Broken) (.ref c_Endless)=some false) (Fm.Cj (PySem.W.kitOne K (.ref c_Broken) (.ref c_BadStatement)=some false) (Fm.Cj (PySem.W.kitOne K (.ref c_Broken) (.ref c_Nothing)=some false) (Fm.Cj (PySem.W.kitOne K (.ref c_Broken) (.ref c_Unlike)=some false) (Fm.Cj (PySem.W.kitOne K (.ref c_Broken) (.ref c_NoDeed)=some false) (Fm.Cj (PySem.W.kitOne K (.ref c_Broken) (.ref c_NoText)=some false) (Fm.Cj (PySem.W.kitOne K (.ref c_Broken) (.ref c_NoCommand)=some false) (Fm.Cj (PySem.W.kitOne K (.ref c_Broken) (.ref c_TailError)=some true) (True)))))))))))))))))))))) (Fm.Cj (Fm.Cj (PySem.W.kitOne K (.ref c_NoPlace) (.ref c_Wrong)=some false) (Fm.Cj (PySem.W.kitOne K (.ref c_NoPlace) (.ref c_Unknown)=some false) (Fm.Cj (PySem.W.kitOne K (.ref c_NoPlace) (.ref c_NoCell)=some false) (Fm.Cj (PySem.W.kitOne K (.ref c_NoPlace) (.ref c_BadRoom)=some false) (Fm.Cj (PySem.W.kitOne K (.ref c_NoPlace) (.ref c_Unfit)=some false) (Fm.Cj (PySem.W.kitOne K (.ref c_NoPlace) (.ref c_NoArray)=some false) (Fm.Cj (PySem.W.kitOne K (.ref c_NoPlace) (.ref c_Broken)=some false) (Fm.Cj (PySem.W.kitOne K (.ref c_NoPlace) (.ref c_NoPlace)=some true) (Fm.Cj (PySem.W.kitOne K (.ref c_NoPlace) (.ref c_TooMany)=some false) (Fm.Cj (PySem.W.kitOne K (.ref c_NoPlace) (.ref c_NoFunction)=some false) (Fm.Cj (PySem.W.kitOne K (.ref c_NoPlace) (.ref c_Full)=some false) (Fm.Cj (PySem.W.kitOne K (.ref c_NoPlace) (.ref c_Refused)=some false) (Fm.Cj (PySem.W.kitOne K (.ref c_NoPlace) (.ref c_NoEntry)=some false) (Fm.Cj (PySem.W.kitOne K (.ref c_NoPlace) (.ref c_Endless)=some false) (Fm.Cj (PySem.W.kitOne K (.ref c_NoPlace) (.ref c_BadStatement)=some false) (Fm.Cj (PySem.W.kitOne K (.ref c_NoPlace) (.ref c_Nothing)=some false) (Fm.Cj (PySem.W.kitOne K (.ref c_NoPlace) (.ref c_Unlike)=some false) (Fm.Cj (PySem.W.kitOne K (.ref c_NoPlace) (.ref c_NoDeed)=some false) (Fm.Cj (PySem.W.kitOne K (.ref c_NoPlace) (.ref c_NoText)=some false) (Fm.Cj (PySem.W.kitOne K (.ref c_NoPlace) (.ref c_NoCommand)=some false) (Fm.Cj (PySem.W.kitOne K (.ref c_NoPlace) (.ref c_TailError)=some true) (True)))))))))))))))))))))) (Fm.Cj (Fm.Cj (PySem.W.kitOne K (.ref c_TooMany) (.ref c_Wrong)=some false) (Fm.Cj (PySem.W.kitOne K (.ref c_TooMany) (.ref c_Unknown)=some false) (Fm.Cj (PySem.W.kitOne K (.ref c_TooMany) (.ref c_NoCell)=some false) (Fm.Cj (PySem.W.kitOne K (.ref c_TooMany) (.ref c_BadRoom)=some false) (Fm.Cj (PySem.W.kitOne K (.ref c_TooMany) (.ref c_Unfit)=some false) (Fm.Cj (PySem.W.kitOne K (.ref c_TooMany) (.ref c_NoArray)=some false) (Fm.Cj (PySem.W.kitOne K (.ref c_TooMany) (.ref c_Broken)=some false) (Fm.Cj (PySem.W.kitOne K (.ref c_TooMany) (.ref c_NoPlace)=some false) (Fm.Cj (PySem.W.kitOne K (.ref c_TooMany) (.ref c_TooMany)=some true) (Fm.Cj (PySem.W.kitOne K (.ref c_TooMany) (.ref c_NoFunction)=some false) (Fm.Cj (PySem.W.kitOne K (.ref c_TooMany) (.ref c_Full)=some false) (Fm.Cj (PySem.W.kitOne K (.ref c_TooMany) (.ref c_Refused)=some false) (Fm.Cj (PySem.W.kitOne K (.ref c_TooMany) (.ref c_NoEntry)=some false) (Fm.Cj (PySem.W.kitOne K (.ref c_TooMany) (.ref c_Endless)=some false) (Fm.Cj (PySem.W.kitOne K (.ref c_TooMany) (.ref c_BadStatement)=some false) (Fm.Cj (PySem.W.kitOne K (.ref c_TooMany) (.ref c_Nothing)=some false) (Fm.Cj (PySem.W.kitOne K (.ref c_TooMany) (.ref c_Unlike)=some false) (Fm.Cj (PySem.W.kitOne K (.ref c_TooMany) (.ref c_NoDeed)=some false) (Fm.Cj (PySem.W.kitOne K (.ref c_TooMany) (.ref c_NoText)=some false) (Fm.Cj (PySem.W.kitOne K (.ref c_TooMany) (.ref c_NoCommand)=some false) (Fm.Cj (PySem.W.kitOne K (.ref c_TooMany) (.ref c_TailError)=some true) (True)))))))))))))))))))))) (Fm.Cj (Fm.Cj (PySem.W.kitOne K (.ref c_NoFunction) (.ref c_Wrong)=some false) (Fm.Cj (PySem.W.kitOne K (.ref c_NoFunction) (.ref c_Unknown)=some false) (Fm.Cj (PySem.W.kitOne K (.ref c_NoFunction) (.ref c_NoCell)=some false) (Fm.Cj (PySem.W.kitOne K (.ref c_NoFunction) (.ref c_BadRoom)=some false) (Fm.Cj (PySem.W.kitOne K (.ref c_NoFunction) (.ref c_Unfit)=some false) (Fm.Cj (PySem.W.kitOne K (.ref c_NoFunction) (.ref c_NoArray)=some false) (Fm.Cj (PySem.W.kitOne K (.ref c_NoFunction) (.ref c_Broken)=some false) (Fm.Cj (PySem.W.kitOne K (.ref c_NoFunction) (.ref c_NoPlace)=some false) (Fm.Cj (PySem.W.kitOne K (.ref c_NoFunction) (.ref c_TooMany)=some false) (Fm.Cj (PySem.W.kitOne K (.ref c_NoFunction) (.ref c_NoFunction)=some true) (Fm.Cj (PySem.W.kitOne K (.ref c_NoFunction) (.ref c_Full)=some false) (Fm.Cj (PySem.W.kitOne K (.ref c_NoFunction) (.ref c_Refused)=some false) (Fm.Cj (PySem.W.kitOne K (.ref c_NoFunction) (.ref c_NoEntry)=some false) (Fm.Cj (PySem.W.kitOne K (.ref c_NoFunction) (.ref c_Endless)=some false) (Fm.Cj (PySem.W.kitOne K (.ref c_NoFunction) (.ref c_BadStatement)=some false) (Fm.Cj (PySem.W.kitOne K (.ref c_NoFunction) (.ref c_Nothing)=some false) (Fm.Cj (PySem.W.kitOne K (.ref c_NoFunction) (.ref c_Unlike)=some false) (Fm.Cj (PySem.W.kitOne K (.ref c_NoFunction) (.ref c_NoDeed)=some false) (Fm.Cj (PySem.W.kitOne K (.ref c_NoFunction) (.ref c_NoText)=some false) (Fm.Cj (PySem.W.kitOne K (.ref c_NoFunction) (.ref c_NoCommand)=some false) (Fm.Cj (PySem.W.kitOne K (.ref c_NoFunction) (.ref c_TailError)=some true) (True)))))))))))))))))))))) (Fm.Cj (Fm.Cj (PySem.W.kitOne K (.ref c_Full) (.ref c_Wrong)=some false) (Fm.Cj (PySem.W.kitOne K (.ref c_Full) (.ref c_Unknown)=some false) (Fm.Cj (PySem.W.kitOne K (.ref c_Full) (.ref c_NoCell)=some false) (Fm.Cj (PySem.W.kitOne K (.ref c_Full) (.ref c_BadRoom)=some false) (Fm.Cj (PySem.W.kitOne K (.ref c_Full) (.ref c_Unfit)=some false) (Fm.Cj (PySem.W.kitOne K (.ref c_Full) (.ref c_NoArray)=some false) (Fm.Cj (PySem.W.kitOne K (.ref c_Full) (.ref c_Broken)=some false) (Fm.Cj (PySem.W.kitOne K (.ref c_Full) (.ref c_NoPlace)=some false) (Fm.Cj (PySem.W.kitOne K (.ref c_Full) (.ref c_TooMany)=some false) (Fm.Cj (PySem.W.kitOne K (.ref c_Full) (.ref c_NoFunction)=some false) (Fm.Cj (PySem.W.kitOne K (.ref c_Full) (.ref c_Full)=some true) (Fm.Cj (PySem.W.kitOne K (.ref c_Full) (.ref c_Refused)=some false) (Fm.Cj (PySem.W.kitOne K (.ref c_Full) (.ref c_NoEntry)=some false) (Fm.Cj (PySem.W.kitOne K (.ref c_Full) (.ref c_Endless)=some false) (Fm.Cj (PySem.W.kitOne K (.ref c_Full) (.ref c_BadStatement)=some false) (Fm.Cj (PySem.W.kitOne K (.ref c_Full) (.ref c_Nothing)=some false) (Fm.Cj (PySem.W.kitOne K (.ref c_Full) (.ref c_Unlike)=some false) (Fm.Cj (PySem.W.kitOne K (.ref c_Full) (.ref c_NoDeed)=some false) (Fm.Cj (PySem.W.kitOne K (.ref c_Full) (.ref c_NoText)=some false) (Fm.Cj (PySem.W.kitOne K (.ref c_Full) (.ref c_NoCommand)=some false) (Fm.Cj (PySem.W.kitOne K (.ref c_Full) (.ref c_TailError)=some true) (True)))))))))))))))))))))) (Fm.Cj (Fm.Cj (PySem.W.kitOne K (.ref c_Refused) (.ref c_Wrong)=some false) (Fm.Cj (PySem.W.kitOne K (.ref c_Refused) (.ref c_Unknown)=some false) (Fm.Cj (PySem.W.kitOne K (.ref c_Refused) (.ref c_NoCell)=some false) (Fm.Cj (PySem.W.kitOne K (.ref c_Refused) (.ref c_BadRoom)=some false) (Fm.Cj (PySem.W.kitOne K (.ref c_Refused) (.ref c_Unfit)=some false) (Fm.Cj (PySem.W.kitOne K (.ref c_Refused) (.ref c_NoArray)=some false) (Fm.Cj (PySem.W.kitOne K (.ref c_Refused) (.ref c_Broken)=some false) (Fm.Cj (PySem.W.kitOne K (.ref c_Refused) (.ref c_NoPlace)=some false) (Fm.Cj (PySem.W.kitOne K (.ref c_Refused) (.ref c_TooMany)=some false) (Fm.Cj (PySem.W.kitOne K (.ref c_Refused) (.ref c_NoFunction)=some false) (Fm.Cj (PySem.W.kitOne K (.ref c_Refused) (.ref c_Full)=some false) (Fm.Cj (PySem.W.kitOne K (.ref c_Refused) (.ref c_Refused)=some true) (Fm.Cj (PySem.W.kitOne K (.ref c_Refused) (.ref c_NoEntry)=some false) (Fm.Cj (PySem.W.kitOne K (.ref c_Refused) (.ref c_Endless)=some false) (Fm.Cj (PySem.W.kitOne K (.ref c_Refused) (.ref c_BadStatement)=some false) (Fm.Cj (PySem.W.kitOne K (.ref c_Refused) (.ref c_Nothing)=some false) (Fm.Cj (PySem.W.kitOne K (.ref c_Refused) (.ref c_Unlike)=some false) (Fm.Cj (PySem.W.kitOne K (.ref c_Refused) (.ref c_NoDeed)=some false) (Fm.Cj (PySem.W.kitOne K (.ref c_Refused) (.ref c_NoText)=some false) (Fm.Cj (PySem.W.kitOne K (.ref c_Refused) (.ref c_NoCommand)=some false) (Fm.Cj (PySem.W.kitOne K (.ref c_Refused) (.ref c_TailError)=some true) (True)))))))))))))))))))))) (Fm.Cj (Fm.Cj (PySem.W.kitOne K (.ref c_NoEntry) (.ref c_Wrong)=some false) (Fm.Cj (PySem.W.kitOne K (.ref c_NoEntry) (.ref c_Unknown)=some false) (Fm.Cj (PySem.W.kitOne K (.ref c_NoEntry) (.ref c_NoCell)=some false) (Fm.Cj (PySem.W.kitOne K (.ref c_NoEntry) (.ref c_BadRoom)=some false) (Fm.Cj (PySem.W.kitOne K (.ref c_NoEntry) (.ref c_Unfit)=some false) (Fm.Cj (PySem.W.kitOne K (.ref c_NoEntry) (.ref c_NoArray)=some false) (Fm.Cj (PySem.W.kitOne K (.ref c_NoEntry) (.ref c_Broken)=some false) (Fm.Cj (PySem.W.kitOne K (.ref c_NoEntry) (.ref c_NoPlace)=some false) (Fm.Cj (PySem.W.kitOne K (.ref c_NoEntry) (.ref c_TooMany)=some false) (Fm.Cj (PySem.W.kitOne K (.ref c_NoEntry) (.ref c_NoFunction)=some false) (Fm.Cj (PySem.W.kitOne K (.ref c_NoEntry) (.ref c_Full)=some false) (Fm.Cj (PySem.W.kitOne K (.ref c_NoEntry) (.ref c_Refused)=some false) (Fm.Cj (PySem.W.kitOne K (.ref c_NoEntry) (.ref c_NoEntry)=some true) (Fm.Cj (PySem.W.kitOne K (.ref c_NoEntry) (.ref c_Endless)=some false) (Fm.Cj (PySem.W.kitOne K (.ref c_NoEntry) (.ref c_BadStatement)=some false) (Fm.Cj (PySem.W.kitOne K (.ref c_NoEntry) (.ref c_Nothing)=some false) (Fm.Cj (PySem.W.kitOne K (.ref c_NoEntry) (.ref c_Unlike)=some false) (Fm.Cj (PySem.W.kitOne K (.ref c_NoEntry) (.ref c_NoDeed)=some false) (Fm.Cj (PySem.W.kitOne K (.ref c_NoEntry) (.ref c_NoText)=some false) (Fm.Cj (PySem.W.kitOne K (.ref c_NoEntry) (.ref c_NoCommand)=some false) (Fm.Cj (PySem.W.kitOne K (.ref c_NoEntry) (.ref c_TailError)=some true) (True)))))))))))))))))))))) (Fm.Cj (Fm.Cj (PySem.W.kitOne K (.ref c_Endless) (.ref c_Wrong)=some false) (Fm.Cj (PySem.W.kitOne K (.ref c_Endless) (.ref c_Unknown)=some false) (Fm.Cj (PySem.W.kitOne K (.ref c_Endless) (.ref c_NoCell)=some false) (Fm.Cj (PySem.W.kitOne K (.ref c_Endless) (.ref c_BadRoom)=some false) (Fm.Cj (PySem.W.kitOne K (.ref c_Endless) (.ref c_Unfit)=some false) (Fm.Cj (PySem.W.kitOne K (.ref c_Endless) (.ref c_NoArray)=some false) (Fm.Cj (PySem.W.kitOne K (.ref c_Endless) (.ref c_Broken)=some false) (Fm.Cj (PySem.W.kitOne K (.ref c_Endless) (.ref c_NoPlace)=some false) (Fm.Cj (PySem.W.kitOne K (.ref c_Endless) (.ref c_TooMany)=some false) (Fm.Cj (PySem.W.kitOne K (.ref c_Endless) (.ref c_NoFunction)=some false) (Fm.Cj (PySem.W.kitOne K (.ref c_Endless) (.ref c_Full)=some false) (Fm.Cj (PySem.W.kitOne K (.ref c_Endless) (.ref c_Refused)=some false) (Fm.Cj (PySem.W.kitOne K (.ref c_Endless) (.ref c_NoEntry)=some false) (Fm.Cj (PySem.W.kitOne K (.ref c_Endless) (.ref c_Endless)=some true) (Fm.Cj (PySem.W.kitOne K (.ref c_Endless) (.ref c_BadStatement)=some false) (Fm.Cj (PySem.W.kitOne K (.ref c_Endless) (.ref c_Nothing)=some false) (Fm.Cj (PySem.W.kitOne K (.ref c_Endless) (.ref c_Unlike)=some false) (Fm.Cj (PySem.W.kitOne K (.ref c_Endless) (.ref c_NoDeed)=some false) (Fm.Cj (PySem.W.kitOne K (.ref c_Endless) (.ref c_NoText)=some false) (Fm.Cj (PySem.W.kitOne K (.ref c_Endless) (.ref c_NoCommand)=some false) (Fm.Cj (PySem.W.kitOne K (.ref c_Endless) (.ref c_TailError)=some true) (True)))))))))))))))))))))) (Fm.Cj (Fm.Cj (PySem.W.kitOne K (.ref c_BadStatement) (.ref c_Wrong)=some false) (Fm.Cj (PySem.W.kitOne K (.ref c_BadStatement) (.ref c_Unknown)=some false) (Fm.Cj (PySem.W.kitOne K (.ref c_BadStatement) (.ref c_NoCell)=some false) (Fm.Cj (PySem.W.kitOne K (.ref c_BadStatement) (.ref c_BadRoom)=some false) (Fm.Cj (PySem.W.kitOne K (.ref c_BadStatement) (.ref c_Unfit)=some false) (Fm.Cj (PySem.W.kitOne K (.ref c_BadStatement) (.ref c_NoArray)=some false) (Fm.Cj (PySem.W.kitOne K (.ref c_BadStatement) (.ref c_Broken)=some false) (Fm.Cj (PySem.W.kitOne K (.ref c_BadStatement) (.ref c_NoPlace)=some false) (Fm.Cj (PySem.W.kitOne K (.ref c_BadStatement) (.ref c_TooMany)=some false) (Fm.Cj (PySem.W.kitOne K (.ref c_BadStatement) (.ref c_NoFunction)=some false) (Fm.Cj (PySem.W.kitOne K (.ref c_BadStatement) (.ref c_Full)=some false) (Fm.Cj (PySem.W.kitOne K (.ref c_BadStatement) (.ref c_Refused)=some false) (Fm.Cj (PySem.W.kitOne K (.ref c_BadStatement) (.ref c_NoEntry)=some false) (Fm.Cj (PySem.W.kitOne K (.ref c_BadStatement) (.ref c_Endless)=some false) (Fm.Cj (PySem.W.kitOne K (.ref c_BadStatement) (.ref c_BadStatement)=some true) (Fm.Cj (PySem.W.kitOne K (.ref c_BadStatement) (.ref c_Nothing)=some false) (Fm.Cj (PySem.W.kitOne K (.ref c_BadStatement) (.ref c_Unlike)=some false) (Fm.Cj (PySem.W.kitOne K (.ref c_BadStatement) (.ref c_NoDeed)=some false) (Fm.Cj (PySem.W.kitOne K (.ref c_BadStatement) (.ref c_NoText)=some false) (Fm.Cj (PySem.W.kitOne K (.ref c_BadStatement) (.ref c_NoCommand)=some false) (Fm.Cj (PySem.W.kitOne K (.ref c_BadStatement) (.ref c_TailError)=some true) (True)))))))))))))))))))))) (Fm.Cj (Fm.Cj (PySem.W.kitOne K (.ref c_Nothing) (.ref c_Wrong)=some false) (Fm.Cj (PySem.W.kitOne K (.ref c_Nothing) (.ref c_Unknown)=some false) (Fm.Cj (PySem.W.kitOne K (.ref c_Nothing) (.ref c_NoCell)=some false) (Fm.Cj (PySem.W.kitOne K (.ref c_Nothing) (.ref c_BadRoom)=some false) (Fm.Cj (PySem.W.kitOne K (.ref c_Nothing) (.ref c_Unfit)=some false) (Fm.Cj (PySem.W.kitOne K (.ref c_Nothing) (.ref c_NoArray)=some false) (Fm.Cj (PySem.W.kitOne K (.ref c_Nothing) (.ref c_Broken)=some false) (Fm.Cj (PySem.W.kitOne K (.ref c_Nothing) (.ref c_NoPlace)=some false) (Fm.Cj (PySem.W.kitOne K (.ref c_Nothing) (.ref c_TooMany)=some false) (Fm.Cj (PySem.W.kitOne K (.ref c_Nothing) (.ref c_NoFunction)=some false) (Fm.Cj (PySem.W.kitOne K (.ref c_Nothing) (.ref c_Full)=some false) (Fm.Cj (PySem.W.kitOne K (.ref c_Nothing) (.ref c_Refused)=some false) (Fm.Cj (PySem.W.kitOne K (.ref c_Nothing) (.ref c_NoEntry)=some false) (Fm.Cj (PySem.W.kitOne K (.ref c_Nothing) (.ref c_Endless)=some false) (Fm.Cj (PySem.W.kitOne K (.ref c_Nothing) (.ref c_BadStatement)=some false) (Fm.Cj (PySem.W.kitOne K (.ref c_Nothing) (.ref c_Nothing)=some true) (Fm.Cj (PySem.W.kitOne K (.ref c_Nothing) (.ref c_Unlike)=some false) (Fm.Cj (PySem.W.kitOne K (.ref c_Nothing) (.ref c_NoDeed)=some false) (Fm.Cj (PySem.W.kitOne K (.ref c_Nothing) (.ref c_NoText)=some false) (Fm.Cj (PySem.W.kitOne K (.ref c_Nothing) (.ref c_NoCommand)=some false) (Fm.Cj (PySem.W.kitOne K (.ref c_Nothing) (.ref c_TailError)=some true) (True)))))))))))))))))))))) (Fm.Cj (Fm.Cj (PySem.W.kitOne K (.ref c_Unlike) (.ref c_Wrong)=some false) (Fm.Cj (PySem.W.kitOne K (.ref c_Unlike) (.ref c_Unknown)=some false) (Fm.Cj (PySem.W.kitOne K (.ref c_Unlike) (.ref c_NoCell)=some false) (Fm.Cj (PySem.W.kitOne K (.ref c_Unlike) (.ref c_BadRoom)=some false) (Fm.Cj (PySem.W.kitOne K (.ref c_Unlike) (.ref c_Unfit)=some false) (Fm.Cj (PySem.W.kitOne K (.ref c_Unlike) (.ref c_NoArray)=some false) (Fm.Cj (PySem.W.kitOne K (.ref c_Unlike) (.ref c_Broken)=some false) (Fm.Cj (PySem.W.kitOne K (.ref c_Unlike) (.ref c_NoPlace)=some false) (Fm.Cj (PySem.W.kitOne K (.ref c_Unlike) (.ref c_TooMany)=some false) (Fm.Cj (PySem.W.kitOne K (.ref c_Unlike) (.ref c_NoFunction)=some false) (Fm.Cj (PySem.W.kitOne K (.ref c_Unlike) (.ref c_Full)=some false) (Fm.Cj (PySem.W.kitOne K (.ref c_Unlike) (.ref c_Refused)=some false) (Fm.Cj (PySem.W.kitOne K (.ref c_Unlike) (.ref c_NoEntry)=some false) (Fm.Cj (PySem.W.kitOne K (.ref c_Unlike) (.ref c_Endless)=some false) (Fm.Cj (PySem.W.kitOne K (.ref c_Unlike) (.ref c_BadStatement)=some false) (Fm.Cj (PySem.W.kitOne K (.ref c_Unlike) (.ref c_Nothing)=some false) (Fm.Cj (PySem.W.kitOne K (.ref c_Unlike) (.ref c_Unlike)=some true) (Fm.Cj (PySem.W.kitOne K (.ref c_Unlike) (.ref c_NoDeed)=some false) (Fm.Cj (PySem.W.kitOne K (.ref c_Unlike) (.ref c_NoText)=some false) (Fm.Cj (PySem.W.kitOne K (.ref c_Unlike) (.ref c_NoCommand)=some false) (Fm.Cj (PySem.W.kitOne K (.ref c_Unlike) (.ref c_TailError)=some true) (True)))))))))))))))))))))) (Fm.Cj (Fm.Cj (PySem.W.kitOne K (.ref c_NoDeed) (.ref c_Wrong)=some false) (Fm.Cj (PySem.W.kitOne K (.ref c_NoDeed) (.ref c_Unknown)=some false) (Fm.Cj (PySem.W.kitOne K (.ref c_NoDeed) (.ref c_NoCell)=some false) (Fm.Cj (PySem.W.kitOne K (.ref c_NoDeed) (.ref c_BadRoom)=some false) (Fm.Cj (PySem.W.kitOne K (.ref c_NoDeed) (.ref c_Unfit)=some false) (Fm.Cj (PySem.W.kitOne K (.ref c_NoDeed) (.ref c_NoArray)=some false) (Fm.Cj (PySem.W.kitOne K (.ref c_NoDeed) (.ref c_Broken)=some false) (Fm.Cj (PySem.W.kitOne K (.ref c_NoDeed) (.ref c_NoPlace)=some false) (Fm.Cj (PySem.W.kitOne K (.ref c_NoDeed) (.ref c_TooMany)=some false) (Fm.Cj (PySem.W.kitOne K (.ref c_NoDeed) (.ref c_NoFunction)=some false) (Fm.Cj (PySem.W.kitOne K (.ref c_NoDeed) (.ref c_Full)=some false) (Fm.Cj (PySem.W.kitOne K (.ref c_NoDeed) (.ref c_Refused)=some false) (Fm.Cj (PySem.W.kitOne K (.ref c_NoDeed) (.ref c_NoEntry)=some false) (Fm.Cj (PySem.W.kitOne K (.ref c_NoDeed) (.ref c_Endless)=some false) (Fm.Cj (PySem.W.kitOne K (.ref c_NoDeed) (.ref c_BadStatement)=some false) (Fm.Cj (PySem.W.kitOne K (.ref c_NoDeed) (.ref c_Nothing)=some false) (Fm.Cj (PySem.W.kitOne K (.ref c_NoDeed) (.ref c_Unlike)=some false) (Fm.Cj (PySem.W.kitOne K (.ref c_NoDeed) (.ref c_NoDeed)=some true) (Fm.Cj (PySem.W.kitOne K (.ref c_NoDeed) (.ref c_NoText)=some false) (Fm.Cj (PySem.W.kitOne K (.ref c_NoDeed) (.ref c_NoCommand)=some false) (Fm.Cj (PySem.W.kitOne K (.ref c_NoDeed) (.ref c_TailError)=some true) (True)))))))))))))))))))))) (Fm.Cj (Fm.Cj (PySem.W.kitOne K (.ref c_NoText) (.ref c_Wrong)=some false) (Fm.Cj (PySem.W.kitOne K (.ref c_NoText) (.ref c_Unknown)=some false) (Fm.Cj (PySem.W.kitOne K (.ref c_NoText) (.ref c_NoCell)=some false) (Fm.Cj (PySem.W.kitOne K (.ref c_NoText) (.ref c_BadRoom)=some false) (Fm.Cj (PySem.W.kitOne K (.ref c_NoText) (.ref c_Unfit)=some false) (Fm.Cj (PySem.W.kitOne K (.ref c_NoText) (.ref c_NoArray)=some false) (Fm.Cj (PySem.W.kitOne K (.ref c_NoText) (.ref c_Broken)=some false) (Fm.Cj (PySem.W.kitOne K (.ref c_NoText) (.ref c_NoPlace)=some false) (Fm.Cj (PySem.W.kitOne K (.ref c_NoText) (.ref c_TooMany)=some false) (Fm.Cj (PySem.W.kitOne K (.ref c_NoText) (.ref c_NoFunction)=some false) (Fm.Cj (PySem.W.kitOne K (.ref c_NoText) (.ref c_Full)=some false) (Fm.Cj (PySem.W.kitOne K (.ref c_NoText) (.ref c_Refused)=some false) (Fm.Cj (PySem.W.kitOne K (.ref c_NoText) (.ref c_NoEntry)=some false) (Fm.Cj (PySem.W.kitOne K (.ref c_NoText) (.ref c_Endless)=some false) (Fm.Cj (PySem.W.kitOne K (.ref c_NoText) (.ref c_BadStatement)=some false) (Fm.Cj (PySem.W.kitOne K (.ref c_NoText) (.ref c_Nothing)=some false) (Fm.Cj (PySem.W.kitOne K (.ref c_NoText) (.ref c_Unlike)=some false) (Fm.Cj (PySem.W.kitOne K (.ref c_NoText) (.ref c_NoDeed)=some false) (Fm.Cj (PySem.W.kitOne K (.ref c_NoText) (.ref c_NoText)=some true) (Fm.Cj (PySem.W.kitOne K (.ref c_NoText) (.ref c_NoCommand)=some false) (Fm.Cj (PySem.W.kitOne K (.ref c_NoText) (.ref c_TailError)=some true) (True)))))))))))))))))))))) (Fm.Cj (Fm.Cj (PySem.W.kitOne K (.ref c_NoCommand) (.ref c_Wrong)=some false) (Fm.Cj (PySem.W.kitOne K (.ref c_NoCommand) (.ref c_Unknown)=some false) (Fm.Cj (PySem.W.kitOne K (.ref c_NoCommand) (.ref c_NoCell)=some false) (Fm.Cj (PySem.W.kitOne K (.ref c_NoCommand) (.ref c_BadRoom)=some false) (Fm.Cj (PySem.W.kitOne K (.ref c_NoCommand) (.ref c_Unfit)=some false) (Fm.Cj (PySem.W.kitOne K (.ref c_NoCommand) (.ref c_NoArray)=some false) (Fm.Cj (PySem.W.kitOne K (.ref c_NoCommand) (.ref c_Broken)=some false) (Fm.Cj (PySem.W.kitOne K (.ref c_NoCommand) (.ref c_NoPlace)=some false) (Fm.Cj (PySem.W.kitOne K (.ref c_NoCommand) (.ref c_TooMany)=some false) (Fm.Cj (PySem.W.kitOne K (.ref c_NoCommand) (.ref c_NoFunction)=some false) (Fm.Cj (PySem.W.kitOne K (.ref c_NoCommand) (.ref c_Full)=some false) (Fm.Cj (PySem.W.kitOne K (.ref c_NoCommand) (.ref c_Refused)=some false) (Fm.Cj (PySem.W.kitOne K (.ref c_NoCommand) (.ref c_NoEntry)=some false) (Fm.Cj (PySem.W.kitOne K (.ref c_NoCommand) (.ref c_Endless)=some false) (Fm.Cj (PySem.W.kitOne K (.ref c_NoCommand) (.ref c_BadStatement)=some false) (Fm.Cj (PySem.W.kitOne K (.ref c_NoCommand) (.ref c_Nothing)=some false) (Fm.Cj (PySem.W.kitOne K (.ref c_NoCommand) (.ref c_Unlike)=some false) (Fm.Cj (PySem.W.kitOne K (.ref c_NoCommand) (.ref c_NoDeed)=some false) (Fm.Cj (PySem.W.kitOne K (.ref c_NoCommand) (.ref c_NoText)=some false) (Fm.Cj (PySem.W.kitOne K (.ref c_NoCommand) (.ref c_NoCommand)=some true) (Fm.Cj (PySem.W.kitOne K (.ref c_NoCommand) (.ref c_TailError)=some true) (True)))))))))))))))))))))) (Fm.Cj (Fm.Cj (PySem.W.kitOne K (.ref c_TailError) (.ref c_Wrong)=some false) (Fm.Cj (PySem.W.kitOne K (.ref c_TailError) (.ref c_Unknown)=some false) (Fm.Cj (PySem.W.kitOne K (.ref c_TailError) (.ref c_NoCell)=some false) (Fm.Cj (PySem.W.kitOne K (.ref c_TailError) (.ref c_BadRoom)=some false) (Fm.Cj (PySem.W.kitOne K (.ref c_TailError) (.ref c_Unfit)=some false) (Fm.Cj (PySem.W.kitOne K (.ref c_TailError) (.ref c_NoArray)=some false) (Fm.Cj (PySem.W.kitOne K (.ref c_TailError) (.ref c_Broken)=some false) (Fm.Cj (PySem.W.kitOne K (.ref c_TailError) (.ref c_NoPlace)=some false) (Fm.Cj (PySem.W.kitOne K (.ref c_TailError) (.ref c_TooMany)=some false) (Fm.Cj (PySem.W.kitOne K (.ref c_TailError) (.ref c_NoFunction)=some false) (Fm.Cj (PySem.W.kitOne K (.ref c_TailError) (.ref c_Full)=some false) (Fm.Cj (PySem.W.kitOne K (.ref c_TailError) (.ref c_Refused)=some false) (Fm.Cj (PySem.W.kitOne K (.ref c_TailError) (.ref c_NoEntry)=some false) (Fm.Cj (PySem.W.kitOne K (.ref c_TailError) (.ref c_Endless)=some false) (Fm.Cj (PySem.W.kitOne K (.ref c_TailError) (.ref c_BadStatement)=some false) (Fm.Cj (PySem.W.kitOne K (.ref c_TailError) (.ref c_Nothing)=some false) (Fm.Cj (PySem.W.kitOne K (.ref c_TailError) (.ref c_Unlike)=some false) (Fm.Cj (PySem.W.kitOne K (.ref c_TailError) (.ref c_NoDeed)=some false) (Fm.Cj (PySem.W.kitOne K (.ref c_TailError) (.ref c_NoText)=some false) (Fm.Cj (PySem.W.kitOne K (.ref c_TailError) (.ref c_NoCommand)=some false) (Fm.Cj (PySem.W.kitOne K (.ref c_TailError) (.ref c_TailError)=some true) (True)))))))))))))))))))))) (True))))))))))))))))))))))
  (xkT:Fm.Cj (Fm.Cj (PySem.W.kitOne K (.ref c_Wrong) (.type "ValueError")=some true) (True)) (Fm.Cj (Fm.Cj (PySem.W.kitOne K (.ref c_Unknown) (.type "ValueError")=some true) (True)) (Fm.Cj (Fm.Cj (PySem.W.kitOne K (.ref c_NoCell) (.type "ValueError")=some true) (True)) (Fm.Cj (Fm.Cj (PySem.W.kitOne K (.ref c_BadRoom) (.type "ValueError")=some true) (True)) (Fm.Cj (Fm.Cj (PySem.W.kitOne K (.ref c_Unfit) (.type "ValueError")=some true) (True)) (Fm.Cj (Fm.Cj (PySem.W.kitOne K (.ref c_NoArray) (.type "ValueError")=some true) (True)) (Fm.Cj (Fm.Cj (PySem.W.kitOne K (.ref c_Broken) (.type "ValueError")=some true) (True)) (Fm.Cj (Fm.Cj (PySem.W.kitOne K (.ref c_NoPlace) (.type "ValueError")=some true) (True)) (Fm.Cj (Fm.Cj (PySem.W.kitOne K (.ref c_TooMany) (.type "ValueError")=some true) (True)) (Fm.Cj (Fm.Cj (PySem.W.kitOne K (.ref c_NoFunction) (.type "ValueError")=some true) (True)) (Fm.Cj (Fm.Cj (PySem.W.kitOne K (.ref c_Full) (.type "ValueError")=some true) (True)) (Fm.Cj (Fm.Cj (PySem.W.kitOne K (.ref c_Refused) (.type "ValueError")=some true) (True)) (Fm.Cj (Fm.Cj (PySem.W.kitOne K (.ref c_NoEntry) (.type "ValueError")=some true) (True)) (Fm.Cj (Fm.Cj (PySem.W.kitOne K (.ref c_Endless) (.type "ValueError")=some true) (True)) (Fm.Cj (Fm.Cj (PySem.W.kitOne K (.ref c_BadStatement) (.type "ValueError")=some true) (True)) (Fm.Cj (Fm.Cj (PySem.W.kitOne K (.ref c_Nothing) (.type "ValueError")=some true) (True)) (Fm.Cj (Fm.Cj (PySem.W.kitOne K (.ref c_Unlike) (.type "ValueError")=some true) (True)) (Fm.Cj (Fm.Cj (PySem.W.kitOne K (.ref c_NoDeed) (.type "ValueError")=some true) (True)) (Fm.Cj (Fm.Cj (PySem.W.kitOne K (.ref c_NoText) (.type "ValueError")=some true) (True)) (Fm.Cj (Fm.Cj (PySem.W.kitOne K (.ref c_NoCommand) (.type "ValueError")=some true) (True)) (Fm.Cj (Fm.Cj (PySem.W.kitOne K (.ref c_TailError) (.type "ValueError")=some true) (True)) (True))))))))))))))))))))))
  (xn_address:Fm.Cj (PySem.W.findIn K (.ref c_Wrong) "address" = some none) (Fm.Cj (PySem.W.findIn K (.ref c_Unknown) "address" = some none) (Fm.Cj (PySem.W.findIn K (.ref c_NoCell) "address" = some none) (Fm.Cj (PySem.W.findIn K (.ref c_BadRoom) "address" = some none) (Fm.Cj (PySem.W.findIn K (.ref c_Unfit) "address" = some none) (Fm.Cj (PySem.W.findIn K (.ref c_NoArray) "address" = some none) (Fm.Cj (PySem.W.findIn K (.ref c_Broken) "address" = some none) (Fm.Cj (PySem.W.findIn K (.ref c_NoPlace) "address" = some none) (Fm.Cj (PySem.W.findIn K (.ref c_TooMany) "address" = some none) (Fm.Cj (PySem.W.findIn K (.ref c_NoFunction) "address" = some none) (Fm.Cj (PySem.W.findIn K (.ref c_Full) "address" = some none) (Fm.Cj (PySem.W.findIn K (.ref c_Refused) "address" = some none) (Fm.Cj (PySem.W.findIn K (.ref c_NoEntry) "address" = some none) (Fm.Cj (PySem.W.findIn K (.ref c_Endless) "address" = some none) (Fm.Cj (PySem.W.findIn K (.ref c_BadStatement) "address" = some none) (Fm.Cj (PySem.W.findIn K (.ref c_Nothing) "address" = some none) (Fm.Cj (PySem.W.findIn K (.ref c_Unlike) "address" = some none) (Fm.Cj (PySem.W.findIn K (.ref c_NoDeed) "address" = some none) (Fm.Cj (PySem.W.findIn K (.ref c_NoText) "address" = some none) (Fm.Cj (PySem.W.findIn K (.ref c_NoCommand) "address" = some none) (Fm.Cj (PySem.W.findIn K (.ref c_TailError) "address" = some none) (True))))))))))))))))))))))
  (xn_at:Fm.Cj (PySem.W.findIn K (.ref c_Wrong) "at" = some none) (Fm.Cj (PySem.W.findIn K (.ref c_Unknown) "at" = some none) (Fm.Cj (PySem.W.findIn K (.ref c_NoCell) "at" = some none) (Fm.Cj (PySem.W.findIn K (.ref c_BadRoom) "at" = some none) (Fm.Cj (PySem.W.findIn K (.ref c_Unfit) "at" = some none) (Fm.Cj (PySem.W.findIn K (.ref c_NoArray) "at" = some none) (Fm.Cj (PySem.W.findIn K (.ref c_Broken) "at" = some none) (Fm.Cj (PySem.W.findIn K (.ref c_NoPlace) "at" = some none) (Fm.Cj (PySem.W.findIn K (.ref c_TooMany) "at" = some none) (Fm.Cj (PySem.W.findIn K (.ref c_NoFunction) "at" = some none) (Fm.Cj (PySem.W.findIn K (.ref c_Full) "at" = some none) (Fm.Cj (PySem.W.findIn K (.ref c_Refused) "at" = some none) (Fm.Cj (PySem.W.findIn K (.ref c_NoEntry) "at" = some none) (Fm.Cj (PySem.W.findIn K (.ref c_Endless) "at" = some none) (Fm.Cj (PySem.W.findIn K (.ref c_BadStatement) "at" = some none) (Fm.Cj (PySem.W.findIn K (.ref c_Nothing) "at" = some none) (Fm.Cj (PySem.W.findIn K (.ref c_Unlike) "at" = some none) (Fm.Cj (PySem.W.findIn K (.ref c_NoDeed) "at" = some none) (Fm.Cj (PySem.W.findIn K (.ref c_NoText) "at" = some none) (Fm.Cj (PySem.W.findIn K (.ref c_NoCommand) "at" = some none) (Fm.Cj (PySem.W.findIn K (.ref c_TailError) "at" = some none) (True))))))))))))))))))))))
  (xn_deed:Fm.Cj (PySem.W.findIn K (.ref c_Wrong) "deed" = some none) (Fm.Cj (PySem.W.findIn K (.ref c_Unknown) "deed" = some none) (Fm.Cj (PySem.W.findIn K (.ref c_NoCell) "deed" = some none) (Fm.Cj (PySem.W.findIn K (.ref c_BadRoom) "deed" = some none) (Fm.Cj (PySem.W.findIn K (.ref c_Unfit) "deed" = some none) (Fm.Cj (PySem.W.findIn K (.ref c_NoArray) "deed" = some none) (Fm.Cj (PySem.W.findIn K (.ref c_Broken) "deed" = some none) (Fm.Cj (PySem.W.findIn K (.ref c_NoPlace) "deed" = some none) (Fm.Cj (PySem.W.findIn K (.ref c_TooMany) "deed" = some none) (Fm.Cj (PySem.W.findIn K (.ref c_NoFunction) "deed" = some none) (Fm.Cj (PySem.W.findIn K (.ref c_Full) "deed" = some none) (Fm.Cj (PySem.W.findIn K (.ref c_Refused) "deed" = some none) (Fm.Cj (PySem.W.findIn K (.ref c_NoEntry) "deed" = some none) (Fm.Cj (PySem.W.findIn K (.ref c_Endless) "deed" = some none) (Fm.Cj (PySem.W.findIn K (.ref c_BadStatement) "deed" = some none) (Fm.Cj (PySem.W.findIn K (.ref c_Nothing) "deed" = some none) (Fm.Cj (PySem.W.findIn K (.ref c_Unlike) "deed" = some none) (Fm.Cj (PySem.W.findIn K (.ref c_NoDeed) "deed" = some none) (Fm.Cj (PySem.W.findIn K (.ref c_NoText) "deed" = some none) (Fm.Cj (PySem.W.findIn K (.ref c_NoCommand) "deed" = some none) (Fm.Cj (PySem.W.findIn K (.ref c_TailError) "deed" = some none) (True))))))))))))))))))))))
  (xn_function:Fm.Cj (PySem.W.findIn K (.ref c_Wrong) "function" = some none) (Fm.Cj (PySem.W.findIn K (.ref c_Unknown) "function" = some none) (Fm.Cj (PySem.W.findIn K (.ref c_NoCell) "function" = some none) (Fm.Cj (PySem.W.findIn K (.ref c_BadRoom) "function" = some none) (Fm.Cj (PySem.W.findIn K (.ref c_Unfit) "function" = some none) (Fm.Cj (PySem.W.findIn K (.ref c_NoArray) "function" = some none) (Fm.Cj (PySem.W.findIn K (.ref c_Broken) "function" = some none) (Fm.Cj (PySem.W.findIn K (.ref c_NoPlace) "function" = some none) (Fm.Cj (PySem.W.findIn K (.ref c_TooMany) "function" = some none) (Fm.Cj (PySem.W.findIn K (.ref c_NoFunction) "function" = some none) (Fm.Cj (PySem.W.findIn K (.ref c_Full) "function" = some none) (Fm.Cj (PySem.W.findIn K (.ref c_Refused) "function" = some none) (Fm.Cj (PySem.W.findIn K (.ref c_NoEntry) "function" = some none) (Fm.Cj (PySem.W.findIn K (.ref c_Endless) "function" = some none) (Fm.Cj (PySem.W.findIn K (.ref c_BadStatement) "function" = some none) (Fm.Cj (PySem.W.findIn K (.ref c_Nothing) "function" = some none) (Fm.Cj (PySem.W.findIn K (.ref c_Unlike) "function" = some none) (Fm.Cj (PySem.W.findIn K (.ref c_NoDeed) "function" = some none) (Fm.Cj (PySem.W.findIn K (.ref c_NoText) "function" = some none) (Fm.Cj (PySem.W.findIn K (.ref c_NoCommand) "function" = some none) (Fm.Cj (PySem.W.findIn K (.ref c_TailError) "function" = some none) (True))))))))))))))))))))))
  (xn_index:Fm.Cj (PySem.W.findIn K (.ref c_Wrong) "index" = some none) (Fm.Cj (PySem.W.findIn K (.ref c_Unknown) "index" = some none) (Fm.Cj (PySem.W.findIn K (.ref c_NoCell) "index" = some none) (Fm.Cj (PySem.W.findIn K (.ref c_BadRoom) "index" = some none) (Fm.Cj (PySem.W.findIn K (.ref c_Unfit) "index" = some none) (Fm.Cj (PySem.W.findIn K (.ref c_NoArray) "index" = some none) (Fm.Cj (PySem.W.findIn K (.ref c_Broken) "index" = some none) (Fm.Cj (PySem.W.findIn K (.ref c_NoPlace) "index" = some none) (Fm.Cj (PySem.W.findIn K (.ref c_TooMany) "index" = some none) (Fm.Cj (PySem.W.findIn K (.ref c_NoFunction) "index" = some none) (Fm.Cj (PySem.W.findIn K (.ref c_Full) "index" = some none) (Fm.Cj (PySem.W.findIn K (.ref c_Refused) "index" = some none) (Fm.Cj (PySem.W.findIn K (.ref c_NoEntry) "index" = some none) (Fm.Cj (PySem.W.findIn K (.ref c_Endless) "index" = some none) (Fm.Cj (PySem.W.findIn K (.ref c_BadStatement) "index" = some none) (Fm.Cj (PySem.W.findIn K (.ref c_Nothing) "index" = some none) (Fm.Cj (PySem.W.findIn K (.ref c_Unlike) "index" = some none) (Fm.Cj (PySem.W.findIn K (.ref c_NoDeed) "index" = some none) (Fm.Cj (PySem.W.findIn K (.ref c_NoText) "index" = some none) (Fm.Cj (PySem.W.findIn K (.ref c_NoCommand) "index" = some none) (Fm.Cj (PySem.W.findIn K (.ref c_TailError) "index" = some none) (True))))))))))))))))))))))
  (xn_limit:Fm.Cj (PySem.W.findIn K (.ref c_Wrong) "limit" = some none) (Fm.Cj (PySem.W.findIn K (.ref c_Unknown) "limit" = some none) (Fm.Cj (PySem.W.findIn K (.ref c_NoCell) "limit" = some none) (Fm.Cj (PySem.W.findIn K (.ref c_BadRoom) "limit" = some none) (Fm.Cj (PySem.W.findIn K (.ref c_Unfit) "limit" = some none) (Fm.Cj (PySem.W.findIn K (.ref c_NoArray) "limit" = some none) (Fm.Cj (PySem.W.findIn K (.ref c_Broken) "limit" = some none) (Fm.Cj (PySem.W.findIn K (.ref c_NoPlace) "limit" = some none) (Fm.Cj (PySem.W.findIn K (.ref c_TooMany) "limit" = some none) (Fm.Cj (PySem.W.findIn K (.ref c_NoFunction) "limit" = some none) (Fm.Cj (PySem.W.findIn K (.ref c_Full) "limit" = some none) (Fm.Cj (PySem.W.findIn K (.ref c_Refused) "limit" = some none) (Fm.Cj (PySem.W.findIn K (.ref c_NoEntry) "limit" = some none) (Fm.Cj (PySem.W.findIn K (.ref c_Endless) "limit" = some none) (Fm.Cj (PySem.W.findIn K (.ref c_BadStatement) "limit" = some none) (Fm.Cj (PySem.W.findIn K (.ref c_Nothing) "limit" = some none) (Fm.Cj (PySem.W.findIn K (.ref c_Unlike) "limit" = some none) (Fm.Cj (PySem.W.findIn K (.ref c_NoDeed) "limit" = some none) (Fm.Cj (PySem.W.findIn K (.ref c_NoText) "limit" = some none) (Fm.Cj (PySem.W.findIn K (.ref c_NoCommand) "limit" = some none) (Fm.Cj (PySem.W.findIn K (.ref c_TailError) "limit" = some none) (True))))))))))))))))))))))
  (xn_many:Fm.Cj (PySem.W.findIn K (.ref c_Wrong) "many" = some none) (Fm.Cj (PySem.W.findIn K (.ref c_Unknown) "many" = some none) (Fm.Cj (PySem.W.findIn K (.ref c_NoCell) "many" = some none) (Fm.Cj (PySem.W.findIn K (.ref c_BadRoom) "many" = some none) (Fm.Cj (PySem.W.findIn K (.ref c_Unfit) "many" = some none) (Fm.Cj (PySem.W.findIn K (.ref c_NoArray) "many" = some none) (Fm.Cj (PySem.W.findIn K (.ref c_Broken) "many" = some none) (Fm.Cj (PySem.W.findIn K (.ref c_NoPlace) "many" = some none) (Fm.Cj (PySem.W.findIn K (.ref c_TooMany) "many" = some none) (Fm.Cj (PySem.W.findIn K (.ref c_NoFunction) "many" = some none) (Fm.Cj (PySem.W.findIn K (.ref c_Full) "many" = some none) (Fm.Cj (PySem.W.findIn K (.ref c_Refused) "many" = some none) (Fm.Cj (PySem.W.findIn K (.ref c_NoEntry) "many" = some none) (Fm.Cj (PySem.W.findIn K (.ref c_Endless) "many" = some none) (Fm.Cj (PySem.W.findIn K (.ref c_BadStatement) "many" = some none) (Fm.Cj (PySem.W.findIn K (.ref c_Nothing) "many" = some none) (Fm.Cj (PySem.W.findIn K (.ref c_Unlike) "many" = some none) (Fm.Cj (PySem.W.findIn K (.ref c_NoDeed) "many" = some none) (Fm.Cj (PySem.W.findIn K (.ref c_NoText) "many" = some none) (Fm.Cj (PySem.W.findIn K (.ref c_NoCommand) "many" = some none) (Fm.Cj (PySem.W.findIn K (.ref c_TailError) "many" = some none) (True))))))))))))))))))))))
  (xn_name:Fm.Cj (PySem.W.findIn K (.ref c_Wrong) "name" = some none) (Fm.Cj (PySem.W.findIn K (.ref c_Unknown) "name" = some none) (Fm.Cj (PySem.W.findIn K (.ref c_NoCell) "name" = some none) (Fm.Cj (PySem.W.findIn K (.ref c_BadRoom) "name" = some none) (Fm.Cj (PySem.W.findIn K (.ref c_Unfit) "name" = some none) (Fm.Cj (PySem.W.findIn K (.ref c_NoArray) "name" = some none) (Fm.Cj (PySem.W.findIn K (.ref c_Broken) "name" = some none) (Fm.Cj (PySem.W.findIn K (.ref c_NoPlace) "name" = some none) (Fm.Cj (PySem.W.findIn K (.ref c_TooMany) "name" = some none) (Fm.Cj (PySem.W.findIn K (.ref c_NoFunction) "name" = some none) (Fm.Cj (PySem.W.findIn K (.ref c_Full) "name" = some none) (Fm.Cj (PySem.W.findIn K (.ref c_Refused) "name" = some none) (Fm.Cj (PySem.W.findIn K (.ref c_NoEntry) "name" = some none) (Fm.Cj (PySem.W.findIn K (.ref c_Endless) "name" = some none) (Fm.Cj (PySem.W.findIn K (.ref c_BadStatement) "name" = some none) (Fm.Cj (PySem.W.findIn K (.ref c_Nothing) "name" = some none) (Fm.Cj (PySem.W.findIn K (.ref c_Unlike) "name" = some none) (Fm.Cj (PySem.W.findIn K (.ref c_NoDeed) "name" = some none) (Fm.Cj (PySem.W.findIn K (.ref c_NoText) "name" = some none) (Fm.Cj (PySem.W.findIn K (.ref c_NoCommand) "name" = some none) (Fm.Cj (PySem.W.findIn K (.ref c_TailError) "name" = some none) (True))))))))))))))))))))))
  (xn_place:Fm.Cj (PySem.W.findIn K (.ref c_Wrong) "place" = some none) (Fm.Cj (PySem.W.findIn K (.ref c_Unknown) "place" = some none) (Fm.Cj (PySem.W.findIn K (.ref c_NoCell) "place" = some none) (Fm.Cj (PySem.W.findIn K (.ref c_BadRoom) "place" = some none) (Fm.Cj (PySem.W.findIn K (.ref c_Unfit) "place" = some none) (Fm.Cj (PySem.W.findIn K (.ref c_NoArray) "place" = some none) (Fm.Cj (PySem.W.findIn K (.ref c_Broken) "place" = some none) (Fm.Cj (PySem.W.findIn K (.ref c_NoPlace) "place" = some none) (Fm.Cj (PySem.W.findIn K (.ref c_TooMany) "place" = some none) (Fm.Cj (PySem.W.findIn K (.ref c_NoFunction) "place" = some none) (Fm.Cj (PySem.W.findIn K (.ref c_Full) "place" = some none) (Fm.Cj (PySem.W.findIn K (.ref c_Refused) "place" = some none) (Fm.Cj (PySem.W.findIn K (.ref c_NoEntry) "place" = some none) (Fm.Cj (PySem.W.findIn K (.ref c_Endless) "place" = some none) (Fm.Cj (PySem.W.findIn K (.ref c_BadStatement) "place" = some none) (Fm.Cj (PySem.W.findIn K (.ref c_Nothing) "place" = some none) (Fm.Cj (PySem.W.findIn K (.ref c_Unlike) "place" = some none) (Fm.Cj (PySem.W.findIn K (.ref c_NoDeed) "place" = some none) (Fm.Cj (PySem.W.findIn K (.ref c_NoText) "place" = some none) (Fm.Cj (PySem.W.findIn K (.ref c_NoCommand) "place" = some none) (Fm.Cj (PySem.W.findIn K (.ref c_TailError) "place" = some none) (True))))))))))))))))))))))
  (xn_size:Fm.Cj (PySem.W.findIn K (.ref c_Wrong) "size" = some none) (Fm.Cj (PySem.W.findIn K (.ref c_Unknown) "size" = some none) (Fm.Cj (PySem.W.findIn K (.ref c_NoCell) "size" = some none) (Fm.Cj (PySem.W.findIn K (.ref c_BadRoom) "size" = some none) (Fm.Cj (PySem.W.findIn K (.ref c_Unfit) "size" = some none) (Fm.Cj (PySem.W.findIn K (.ref c_NoArray) "size" = some none) (Fm.Cj (PySem.W.findIn K (.ref c_Broken) "size" = some none) (Fm.Cj (PySem.W.findIn K (.ref c_NoPlace) "size" = some none) (Fm.Cj (PySem.W.findIn K (.ref c_TooMany) "size" = some none) (Fm.Cj (PySem.W.findIn K (.ref c_NoFunction) "size" = some none) (Fm.Cj (PySem.W.findIn K (.ref c_Full) "size" = some none) (Fm.Cj (PySem.W.findIn K (.ref c_Refused) "size" = some none) (Fm.Cj (PySem.W.findIn K (.ref c_NoEntry) "size" = some none) (Fm.Cj (PySem.W.findIn K (.ref c_Endless) "size" = some none) (Fm.Cj (PySem.W.findIn K (.ref c_BadStatement) "size" = some none) (Fm.Cj (PySem.W.findIn K (.ref c_Nothing) "size" = some none) (Fm.Cj (PySem.W.findIn K (.ref c_Unlike) "size" = some none) (Fm.Cj (PySem.W.findIn K (.ref c_NoDeed) "size" = some none) (Fm.Cj (PySem.W.findIn K (.ref c_NoText) "size" = some none) (Fm.Cj (PySem.W.findIn K (.ref c_NoCommand) "size" = some none) (Fm.Cj (PySem.W.findIn K (.ref c_TailError) "size" = some none) (True)))))))))))))))))))))),C)→C
end K10
set_option maxHeartbeats 4000000
namespace K10
def Aex:List PySem.Str:=([PySem.Str.ofString "__name__", PySem.Str.ofString "LETTERS", PySem.Str.ofString "MOST_LETTERS", PySem.Str.ofString "GROWINGS", PySem.Str.ofString "is_integer", PySem.Str.ofString "is_number", PySem.Str.ofString "is_name", PySem.Str.ofString "is_growing", PySem.Str.ofString "TailError", PySem.Str.ofString "Wrong", PySem.Str.ofString "BadStatement", PySem.Str.ofString "Endless", PySem.Str.ofString "Unknown", PySem.Str.ofString "NoCell", PySem.Str.ofString "BadRoom", PySem.Str.ofString "Nothing", PySem.Str.ofString "Unfit", PySem.Str.ofString "NoArray", PySem.Str.ofString "Broken", PySem.Str.ofString "NoPlace", PySem.Str.ofString "TooMany", PySem.Str.ofString "NoFunction", PySem.Str.ofString "Unlike", PySem.Str.ofString "Full", PySem.Str.ofString "NoDeed", PySem.Str.ofString "Refused", PySem.Str.ofString "NoEntry", PySem.Str.ofString "NoText", PySem.Str.ofString "NoCommand", PySem.Str.ofString "_law_bag", PySem.Str.ofString "_law_take", PySem.Str.ofString "_law_alike", PySem.Str.ofString "_law_odd", PySem.Str.ofString "_law_is_name", PySem.Str.ofString "_law_errors"]:List PySem.Str)++([PySem.Str.ofString "_law_flags", PySem.Str.ofString "_law_errors_right", PySem.Str.ofString "_law_thing"]:List PySem.Str)
end K10
local macro_rules
 | `(tactic|o_head (kHook $k $a $e))=>`(tactic|refine HandSHeadRun.head_any (r:=(PySem.W.OpenLaw.row PySem.Challenge.rw_sparetails_k10_errors_and_kinds)) (q:=PySem.W.view (PySem.W.OpenLaw.row PySem.Challenge.rw_sparetails_k10_errors_and_kinds).prog [40]) (H:=PySem.W.kHook $k $a $e) (ob:=fun s=>List.map (HandSHeadRun.getT s) $a) (M:=11404) (loose:=K10.Aex) (d:=HandSHeadRun.topDef (PySem.W.OpenLaw.row PySem.Challenge.rw_sparetails_k10_errors_and_kinds).prog 40) (kwd:=[]) (fun s=>by exact congrArg (fun g=>List.map g $a) (funext (HandSHeadRun.getT_eq s))) (by kernel_rfl) (fun s=>by kernel_rfl) (fun w os=>by kernel_rfl) (by kernel_rfl) (by kernel_rfl) (by kernel_rfl) (by rfl) (by first|assumption|decide +kernel) (by decide +kernel) ⟨rfl,rfl,rfl,rfl,rfl,by decide +kernel⟩ ?hw ?hc)
namespace K10
open PySem PySem.W PyProof.Rows
set_option maxHeartbeats 0 in
theorem top(W:∀{q:Program} {loose:List Str} {XP:(Str→Option Value)→Heap→Prop} {YP:World→Heap→Prop} {d:DefRec} {K:Params→PySem.W.Frag},d.params.defaults=[]→d.name = "law" → (∀(w:World) (h:Heap),YP w h→(K w.params).In h)→(∀(w:World) (mg:Str→Option Value) (fa:Addr) (h:Heap),(K w.params).In h→h.Ns mainGlobals mg→mg d.name=some (.ref fa)→Facts PySem.Challenge.rw_sparetails_k10_errors_and_kinds w (K w.params) h mg fa)→PySem.W.WalkO q loose XP YP PySem.Challenge.rw_sparetails_k10_errors_and_kinds.row.toRowW d [] (fun f vs=>PySem.call f vs)):PySem.Challenge.rw_sparetails_k10_errors_and_kinds.Holds:=by
 w_on;o_law;k_head;(case hw=>w_witness2)
 k_fill
 refine W (by kernel_rfl) (by kernel_rfl) (fun w h Y=>PySem.W.kIn_of Y) ?F
 case F =>
  intro w mg fa h KX N hmg C kk
  refine' kk ?_ ?_ ?_ ?_ ?_ ?_ ?_ ?_ ?_ ?_ ?_ ?_ ?_ ?_ ?_ ?_ ?_ ?_ ?_ ?_ ?_ ?_ ?_ ?_ ?_ ?_ ?_ ?_ ?_ ?_ ?_ ?_ ?_ ?_ ?_ ?_ ?_ ?_ ?_ ?_ ?_ ?_ ?_ ?_ ?_ ?_ ?_ ?_ ?_ ?_ ?_ ?_ ?_ ?_ ?_ ?_ ?_ ?_ ?_ ?_ ?_ ?_ ?_ ?_ ?_ ?_ ?_ ?_ ?_ ?_ ?_ ?_ ?_ ?_ ?_ ?_ ?_ ?_ ?_ ?_ ?_ ?_ ?_ ?_ ?_ ?_ ?_
  repeat' refine' Fm.Cj.i ?_ ?_
  any_goals (first|k_is|kit_is|(refine' Fq.i ?_ ?_ ?_ ?_;any_goals (first|k_is|kit_is))|(refine' Mq.i ?_ ?_ ?_ ?_ ?_;any_goals (first|k_is|kit_is))|(refine' Eb.i ?_ ?_ ?_ ?_ ?_ ?_ ?_ ?_ ?_ ?_ ?_ ?_ ?_ ?_ ?_ ?_ ?_ ?_ ?_ ?_ ?_ ?_ ?_ ?_ ?_ ?_;any_goals (first|k_is|kit_is|rfl|ks_is|k_exc|decide +kernel))|(refine' En.i ?_ ?_ ?_ ?_ ?_ ?_ ?_ ?_ ?_ ?_ ?_;any_goals (first|k_is|kit_is|rfl|ks_is|k_exc|decide +kernel))|rfl|ks_is|k_exc|decide +kernel)
end K10
namespace Fm
open PySem L2
inductive W where
 |non|bl (b:Bool)|int (i:Int)|str (x:Str)|tup (xs:List W)|ref (i:Nat)|sta (n:String)|ty (n:String)|scr (ns:List Int)
 |lst (xs:List W)|dct (kvs:List (Key×W))|obj (C:String) (fs:List (String×W))|exc (n:Nat) (C:String) (fs:List (String×W))
 |dn (kvs:List (NestedKey×W))
 |err (C:String) (fs:List (String×W))
 |db (kvs:List (W×W))
 deriving Inhabited
inductive SO where
 |lst (xs:List W)
 |ins (C:String) (fs:List (String×W))
 |dct (kvs:List (Key×W))
 |dn (kvs:List (NestedKey×W))
 |ldk (kvs:List (Key×W))
 |db (kvs:List (W×W))
 |dead
 deriving Inhabited
structure Sto where
 next:Nat
 get:Nat→Option SO
def Sto.set(s:Sto)(i:Nat)(o:SO):Sto:=⟨s.next,fun j=>if j=i then some o else s.get j⟩
def Sto.new(s:Sto)(o:SO):Sto:=⟨s.next+1,fun j=>if j=s.next then some o else s.get j⟩
@[simp] theorem next_set(s:Sto)(i:Nat)(o:SO):(s.set i o).next=s.next:=rfl
@[simp] theorem next_new(s:Sto)(o:SO):(s.new o).next=s.next+1:=rfl
@[simp] theorem Az(s:Sto)(i:Nat)(o:SO):(s.set i o).get i=some o:=if_pos rfl
theorem Ar(s:Sto){i j:Nat}(o:SO)(h:j≠i):(s.set i o).get j=s.get j:=if_neg h
@[simp] theorem Aq(s:Sto)(o:SO):(s.new o).get s.next=some o:=if_pos rfl
theorem Am(s:Sto){j:Nat}(o:SO)(h:j≠s.next):(s.new o).get j=s.get j:=if_neg h
theorem Hj(s:Sto){j:Nat}(o:SO)(h:j<s.next):(s.new o).get j=s.get j:=if_neg (Nat.ne_of_lt h)
inductive R(α:Type) where
 |ok (a:α) (s:Sto)
 |exn (C:String) (fs:List (String×W)) (s:Sto)
 |bad
def R.bind{α β:Type}(r:R α)(f:α→Sto→R β):R β :=
 match r with
 |.ok a s=>f a s
 |.exn C fs s=>.exn C fs s
 |.bad=>.bad
@[simp] theorem Aa{α β:Type}(a:α)(s:Sto)(f:α→Sto→R β):(R.ok a s).bind f=f a s:=rfl
@[simp] theorem bind_bad{α β:Type}(f:α→Sto→R β):(R.bad:R α).bind f=.bad:=rfl
@[simp] theorem bind_exn{α β:Type}(C:String)(fs:List (String×W))(s:Sto)(f:α→Sto→R β):(R.exn C fs s:R α).bind f=.exn C fs s:=rfl
structure Gw where
 at_:String→Addr
 K:PySem.W.Frag
 ex:Nat→Option (Addr×Value×Option Addr)
 hs:NestedKey→Int
def SqF(K:PySem.W.Frag)(H:Hp)(a:Addr)(xs:List V):Prop:=(∃o,H a=some (.frz o (.lst xs)))∨∃(o:Obj) (its:Array Value) (n:Nat),K.lookup a=some o∧o.cls=.type "list" ∧ o.dict=none∧o.data=.seq its n∧its.size≤sizeLine∧Vals xs its.toList
theorem SqF.sq{K:PySem.W.Frag}{H:Hp}{a:Addr}{xs:List V}(h:SqF K H a xs):SqL K H a xs:=by
 rcases h with⟨o,h⟩|h
 ·exact .inl (.inr ⟨o,h⟩)
 ·exact .inr h
mutual
def wK:NestedKey→W
 |.none=>.non
 |.num i=>.int i
 |.text x=>.str x
 |.tup ks=>.tup (wKs ks)
def wKs:List NestedKey→List W
 | []=>[]
 |k::ks=>wK k::wKs ks
end
mutual
def nkB:W→Option NestedKey
 |.non=>some .none
 |.int i=>some (.num i)
 |.bl b=>some (.num (if b then 1 else 0))
 |.str x=>some (.text x)
 |.tup ws=>(AfU ws).map .tup
 |_=>none
def AfU:List W→Option (List NestedKey)
 | []=>some []
 |w::ws=>match nkB w,AfU ws with
  |some k,some ks=>some (k::ks)
  |_,_=>none
end
def AfB(hs:NestedKey→Int)(a:Addr)(vs:List (NestedKey×Addr×V))(h:Heap):Prop :=
 vs.length≤sizeLine∧(a==sysModules)=false∧∃us:List (NestedKey×Addr×Value),Paired (fun(p:NestedKey×Addr×V) (q:NestedKey×Addr×Value)=>q.1=p.1∧q.2.1=p.2.1∧RelV p.2.2 q.2.2) vs us ∧
  ∃o es ep,h.get? a=some o∧o.ExactDict∧o.data=.dict es ep∧es.toList=us.map (fun x=>(⟨hs x.1,.ref x.2.1,x.2.2⟩:DictEntry))∧(us.map (·.1)).Nodup
def Yr(hs:NestedKey→Int)(a:Addr)(vs:List (NestedKey×Addr×V)):HO:=.ext (AfB hs a vs)
structure Pl where
 l:List Addr
 fz:List Addr
def Pl.add(p:Pl)(a:Addr):Pl:=⟨p.l++[a],p.fz⟩
def Pl.ice(p:Pl)(a:Addr):Pl:=⟨p.l,a::p.fz⟩
mutual
inductive RelW(G:Gw)(p:Pl)(H:Hp):W→V→Prop where
 |non:RelW G p H .non .non
 |bl (b:Bool):RelW G p H (.bl b) (.bl b)
 |int (i:Int):RelW G p H (.int i) (.int i)
 |str (x:Str):RelW G p H (.str x) (.str x)
 |ty (n:String):RelW G p H (.ty n) (.ty n)
 |ref {i:Nat} {a:Addr} (h:p.l[i]? = some a):RelW G p H (.ref i) (.ref a)
 |sta (n:String):RelW G p H (.sta n) (.ref (G.at_ n))
 |tup {a:Addr} {ws:List W} {vs:List V} (h:SqT G.K H a vs) (r:RelWs G p H ws vs):RelW G p H (.tup ws) (.ref a)
 |scr {a:Addr} {ns:List Int} (h:SqF G.K H a (ns.map V.int)):RelW G p H (.scr ns) (.ref a)
 |lst {a:Addr} {ws:List W} {vs:List V} (hf:a∈p.fz) (h:H a=some (.lst vs)) (r:RelWs G p H ws vs):RelW G p H (.lst ws) (.ref a)
 |dct {a:Addr} {ws:List (Key×W)} {vs:List (Key×V)} (hf:a∈p.fz) (h:∃o,H a=some (.frz o (.dK vs))) (r:RelKw G p H ws vs):RelW G p H (.dct ws) (.ref a)
 |dn {a:Addr} {ws:List (NestedKey×W)} {vs:List (NestedKey×Addr×V)} (hf:a∈p.fz) (h:∃o,H a=some (.frz o (Yr G.hs a vs))) (r:RelNw G p H ws vs):RelW G p H (.dn ws) (.ref a)
 |db {a:Addr} {ws:List (W×W)} {vs:List (NestedKey×Addr×V)} (hf:a∈p.fz) (h:∃o,H a=some (.frz o (Yr G.hs a vs))) (r:RelBw G p H ws vs):RelW G p H (.db ws) (.ref a)
 |obj {a dx:Addr} {C:String} {ws:List (String×W)} {vs:List (Str×V)} (hf:a∈p.fz) (h:H a=some (.ins (G.at_ C) dx vs)) (r:RelFw G p H ws vs):RelW G p H (.obj C ws) (.ref a)
 |excN {n:Nat} {C:String} {ws:List (String×W)} {a:Addr} (h:G.ex n=none):RelW G p H (.exc n C ws) (.ref a)
 |exc0 {n:Nat} {C:String} {a:Addr} (h:G.ex n=some (a,.ref (G.at_ C),none)):RelW G p H (.exc n C []) (.ref a)
 |excS {n:Nat} {C:String} {ws:List (String×W)} {vs:List (Str×V)} {a d:Addr} (h:G.ex n=some (a,.ref (G.at_ C),some d)) (hf:d∈p.fz) (hd:H d=some (.xd vs)) (r:RelFw G p H ws vs):RelW G p H (.exc n C ws) (.ref a)
 |err {a d:Addr} {C:String} {ws:List (String×W)} {vs:List (Str×V)} (hf:a∈p.fz) (h:H a=some (exo a (G.at_ C) (some d))) (hg:d∈p.fz) (hd:H d=some (exd d vs)) (r:RelFw G p H ws vs):RelW G p H (.err C ws) (.ref a)
 |err0 {a:Addr} {C:String} (hf:a∈p.fz) (h:H a=some (exo a (G.at_ C) none)):RelW G p H (.err C []) (.ref a)
inductive RelWs(G:Gw)(p:Pl)(H:Hp):List W→List V→Prop where
 |nil:RelWs G p H [] []
 |cons {w:W} {v:V} {ws:List W} {vs:List V} (h:RelW G p H w v) (t:RelWs G p H ws vs):RelWs G p H (w::ws) (v::vs)
inductive RelKw(G:Gw)(p:Pl)(H:Hp):List (Key×W)→List (Key×V)→Prop where
 |nil:RelKw G p H [] []
 |cons {k:Key} {w:W} {v:V} {ws:List (Key×W)} {vs:List (Key×V)} (h:RelW G p H w v) (t:RelKw G p H ws vs):RelKw G p H ((k,w)::ws) ((k,v)::vs)
inductive RelNw(G:Gw)(p:Pl)(H:Hp):List (NestedKey×W)→List (NestedKey×Addr×V)→Prop where
 |nil:RelNw G p H [] []
 |cons {k:NestedKey} {b:Addr} {w:W} {v:V} {ws:List (NestedKey×W)} {vs:List (NestedKey×Addr×V)} (hd:k.depth≤8) (hk:RelW G p H (wK k) (.ref b)) (h:RelW G p H w v) (t:RelNw G p H ws vs):RelNw G p H ((k,w)::ws) ((k,b,v)::vs)
inductive RelBw(G:Gw)(p:Pl)(H:Hp):List (W×W)→List (NestedKey×Addr×V)→Prop where
 |nil:RelBw G p H [] []
 |cons {u:W} {k:NestedKey} {b:Addr} {w:W} {v:V} {ws:List (W×W)} {vs:List (NestedKey×Addr×V)} (hn:nkB u=some k) (hd:k.depth≤8) (hk:RelW G p H u (.ref b)) (h:RelW G p H w v) (t:RelBw G p H ws vs):RelBw G p H ((u,w)::ws) ((k,b,v)::vs)
inductive RelFw(G:Gw)(p:Pl)(H:Hp):List (String×W)→List (Str×V)→Prop where
 |nil:RelFw G p H [] []
 |cons {k:String} {w:W} {v:V} {ws:List (String×W)} {vs:List (Str×V)} (h:RelW G p H w v) (t:RelFw G p H ws vs):RelFw G p H ((k,w)::ws) ((Str.ofString k,v)::vs)
end
structure Ext(G:Gw)(p:Pl)(H:Hp)(p':Pl)(H':Hp):Prop where
 more:∃q,p'.l=p.l++q∧∀a∈q,H a=none
 fzs:∀a∈p.fz,a∈p'.fz
 fzn:∀a∈p'.fz,a∈p.fz∨H a=none∨a∈p.l
 keep:∀a o,H a=some o→a∉p.l∨a∈p.fz→H' a=some o
 dom:∀a o,H a=some o→∃u,H' a=some u
 tups:∀a vs,SqT G.K H a vs→SqT G.K H' a vs
 scrs:∀a vs,SqF G.K H a vs→SqF G.K H' a vs
 frz:∀a o u,H a=some (.frz o u)→H' a=some (.frz o u)
theorem Ext.refl{G:Gw}{p:Pl}{H:Hp}:Ext G p H p H:=⟨⟨[],(List.append_nil p.l).symm,by simp⟩,fun _ h=>h,fun _ h=>.inl h,fun _ _ h _=>h,fun _ o h=>⟨o,h⟩,fun _ _ h=>h,fun _ _ h=>h,fun _ _ _ h=>h⟩
theorem Ext.trans{G:Gw}{p p1 p2:Pl}{H H1 H2:Hp}(a:Ext G p H p1 H1)(b:Ext G p1 H1 p2 H2):Ext G p H p2 H2:=by
 obtain⟨⟨q,hq,nq⟩,fa,ga,ka,da,ta,sa,za⟩:=a
 obtain⟨⟨q',hq',nq'⟩,fb,gb,kb,db,tb,sb,zb⟩:=b
 have step:∀x o,H x=some o→x∉p.l∨x∈p.fz→x∉p1.l∨x∈p1.fz:=fun x o hx h=>by
  rcases h with h|h
  ·left
   rw[hq,List.mem_append]
   rintro(h1|h1)
   ·exact h h1
   ·rw[nq x h1] at hx;cases hx
  ·exact .inr (fa x h)
 refine⟨⟨q++q',by rw[hq',hq,List.append_assoc],fun x hx=>?_⟩,fun x h=>fb x (fa x h),fun x hx=>?_,fun x o hx h=>kb x o (ka x o hx h) (step x o hx h),fun x o hx=>?_,fun x vs h=>tb x vs (ta x vs h),fun x vs h=>sb x vs (sa x vs h),fun x o u h=>zb x o u (za x o u h)⟩
 ·rcases List.mem_append.mp hx with h|h
  ·exact nq x h
  ·cases e:H x with
   |none=>rfl
   |some o =>
    obtain⟨u,hu⟩:=da x o e
    rw[nq' x h] at hu;cases hu
 ·rcases gb x hx with h|h|h
  ·exact ga x h
  ·cases e:H x with
   |none=>exact .inr (.inl rfl)
   |some o =>
    obtain⟨u,hu⟩:=da x o e
    rw[h] at hu;cases hu
  ·rw[hq] at h
   rcases List.mem_append.mp h with h|h
   ·exact .inr (.inr h)
   ·exact .inr (.inl (nq x h))
 ·obtain⟨u,hu⟩:=da x o hx
  exact db x u hu
theorem Ext.get{G:Gw}{p p':Pl}{H H':Hp}(e:Ext G p H p' H'){i:Nat}{a:Addr}(h:p.l[i]? = some a):p'.l[i]? = some a:=by
 obtain⟨⟨q,hq,_⟩,_⟩:=e
 obtain⟨h1,h2⟩:=List.getElem?_eq_some_iff.mp h
 rw[hq,List.getElem?_append_left h1,h]
structure ExtR(G:Gw)(p:Pl)(H:Hp)(p':Pl)(H':Hp):Prop where
 get:∀(i:Nat) (a:Addr),p.l[i]? = some a→p'.l[i]? = some a
 fzs:∀a∈p.fz,a∈p'.fz
 keep:∀a o,H a=some o→a∈p.fz→H' a=some o
 tups:∀a vs,SqT G.K H a vs→SqT G.K H' a vs
 scrs:∀a vs,SqF G.K H a vs→SqF G.K H' a vs
structure ExtF(G:Gw)(p:Pl)(H:Hp)(p':Pl)(H':Hp):Prop extends ExtR G p H p' H' where
 frz:∀a o u,H a=some (.frz o u)→H' a=some (.frz o u)
theorem Ext.toR{G:Gw}{p p':Pl}{H H':Hp}(e:Ext G p H p' H'):ExtR G p H p' H':=⟨fun _ _ h=>e.get h,e.fzs,fun a o h hf=>e.keep a o h (.inr hf),e.tups,e.scrs⟩
theorem Ext.toF{G:Gw}{p p':Pl}{H H':Hp}(e:Ext G p H p' H'):ExtF G p H p' H':=⟨e.toR,e.frz⟩
mutual
theorem RelW.monoR{G:Gw}{p p':Pl}{H H':Hp}(e:ExtR G p H p' H'):∀{w:W} {v:V},RelW G p H w v→RelW G p' H' w v
 |_,_,.non=>.non
 |_,_,.bl b=>.bl b
 |_,_,.int i=>.int i
 |_,_,.str x=>.str x
 |_,_,.ty n=>.ty n
 |_,_,.ref h=>.ref (e.get _ _ h)
 |_,_,.sta n=>.sta n
 |_,_,.tup h r=>.tup (e.tups _ _ h) (RelWs.monoR e r)
 |_,_,.scr h=>.scr (e.scrs _ _ h)
 |_,_,.lst hf h r=>.lst (e.fzs _ hf) (e.keep _ _ h hf) (RelWs.monoR e r)
 |_,_,.dct hf ⟨o,h⟩ r=>.dct (e.fzs _ hf) ⟨o,e.keep _ _ h hf⟩ (RelKw.monoR e r)
 |_,_,.dn hf ⟨o,h⟩ r=>.dn (e.fzs _ hf) ⟨o,e.keep _ _ h hf⟩ (RelNw.monoR e r)
 |_,_,.db hf ⟨o,h⟩ r=>.db (e.fzs _ hf) ⟨o,e.keep _ _ h hf⟩ (RelBw.monoR e r)
 |_,_,.obj hf h r=>.obj (e.fzs _ hf) (e.keep _ _ h hf) (RelFw.monoR e r)
 |_,_,.excN h=>.excN h
 |_,_,.exc0 h=>.exc0 h
 |_,_,.excS h hf hd r=>.excS h (e.fzs _ hf) (e.keep _ _ hd hf) (RelFw.monoR e r)
 |_,_,.err hf h hg hd r=>.err (e.fzs _ hf) (e.keep _ _ h hf) (e.fzs _ hg) (e.keep _ _ hd hg) (RelFw.monoR e r)
 |_,_,.err0 hf h=>.err0 (e.fzs _ hf) (e.keep _ _ h hf)
theorem RelWs.monoR{G:Gw}{p p':Pl}{H H':Hp}(e:ExtR G p H p' H'):∀{ws:List W} {vs:List V},RelWs G p H ws vs→RelWs G p' H' ws vs
 |_,_,.nil=>.nil
 |_,_,.cons h t=>.cons (RelW.monoR e h) (RelWs.monoR e t)
theorem RelKw.monoR{G:Gw}{p p':Pl}{H H':Hp}(e:ExtR G p H p' H'):∀{ws:List (Key×W)} {vs:List (Key×V)},RelKw G p H ws vs→RelKw G p' H' ws vs
 |_,_,.nil=>.nil
 |_,_,.cons h t=>.cons (RelW.monoR e h) (RelKw.monoR e t)
theorem RelNw.monoR{G:Gw}{p p':Pl}{H H':Hp}(e:ExtR G p H p' H'):∀{ws:List (NestedKey×W)} {vs:List (NestedKey×Addr×V)},RelNw G p H ws vs→RelNw G p' H' ws vs
 |_,_,.nil=>.nil
 |_,_,.cons hd hk h t=>.cons hd (RelW.monoR e hk) (RelW.monoR e h) (RelNw.monoR e t)
theorem RelBw.monoR{G:Gw}{p p':Pl}{H H':Hp}(e:ExtR G p H p' H'):∀{ws:List (W×W)} {vs:List (NestedKey×Addr×V)},RelBw G p H ws vs→RelBw G p' H' ws vs
 |_,_,.nil=>.nil
 |_,_,.cons hn hd hk h t=>.cons hn hd (RelW.monoR e hk) (RelW.monoR e h) (RelBw.monoR e t)
theorem RelFw.monoR{G:Gw}{p p':Pl}{H H':Hp}(e:ExtR G p H p' H'):∀{ws:List (String×W)} {vs:List (Str×V)},RelFw G p H ws vs→RelFw G p' H' ws vs
 |_,_,.nil=>.nil
 |_,_,.cons h t=>.cons (RelW.monoR e h) (RelFw.monoR e t)
end
theorem RelW.mono{G:Gw}{p p':Pl}{H H':Hp}(e:Ext G p H p' H'){w:W}{v:V}(h:RelW G p H w v):RelW G p' H' w v:=h.monoR e.toR
theorem RelWs.mono{G:Gw}{p p':Pl}{H H':Hp}(e:Ext G p H p' H'){w:List W}{v:List V}(h:RelWs G p H w v):RelWs G p' H' w v:=h.monoR e.toR
theorem RelKw.mono{G:Gw}{p p':Pl}{H H':Hp}(e:Ext G p H p' H'){w:List (Key×W)}{v:List (Key×V)}(h:RelKw G p H w v):RelKw G p' H' w v:=h.monoR e.toR
theorem RelNw.mono{G:Gw}{p p':Pl}{H H':Hp}(e:Ext G p H p' H'){w:List (NestedKey×W)}{v:List (NestedKey×Addr×V)}(h:RelNw G p H w v):RelNw G p' H' w v:=h.monoR e.toR
theorem RelBw.mono{G:Gw}{p p':Pl}{H H':Hp}(e:Ext G p H p' H'){w:List (W×W)}{v:List (NestedKey×Addr×V)}(h:RelBw G p H w v):RelBw G p' H' w v:=h.monoR e.toR
theorem RelFw.mono{G:Gw}{p p':Pl}{H H':Hp}(e:Ext G p H p' H'){w:List (String×W)}{v:List (Str×V)}(h:RelFw G p H w v):RelFw G p' H' w v:=h.monoR e.toR
theorem RelWs.length{G:Gw}{p:Pl}{H:Hp}:∀{ws:List W} {vs:List V},RelWs G p H ws vs→vs.length=ws.length
 |_,_,.nil=>rfl
 |_,_,.cons _ t=>by rw[List.length_cons,List.length_cons,RelWs.length t]
theorem RelWs.get{G:Gw}{p:Pl}{H:Hp}:∀{ws:List W} {vs:List V} {i:Nat} {w:W},RelWs G p H ws vs→ws[i]? = some w→∃v,vs[i]? = some v∧RelW G p H w v
 |_,_,0,_,.cons h _,e=>by cases e;exact⟨_,rfl,h⟩
 |_,_,i+1,w,.cons _ t,e=>by
  obtain⟨v,h1,h2⟩:=RelWs.get (i:=i) (w:=w) t (by simpa using e)
  exact⟨v,by simpa using h1,h2⟩
 |_,_,_,_,.nil,e=>by simp at e
theorem RelWs.append{G:Gw}{p:Pl}{H:Hp}:∀{ws us:List W} {vs ys:List V},RelWs G p H ws vs→RelWs G p H us ys→RelWs G p H (ws++us) (vs++ys)
 |_,_,_,_,.nil,s=>s
 |_,_,_,_,.cons h t,s=>.cons h (RelWs.append t s)
theorem RelWs.take{G:Gw}{p:Pl}{H:Hp}:∀{ws:List W} {vs:List V} (n:Nat),RelWs G p H ws vs→RelWs G p H (ws.take n) (vs.take n)
 |_,_,0,_=>by simp;exact .nil
 |_,_,_+1,.nil=>by simp;exact .nil
 |_,_,n+1,.cons h t=>by simp only[List.take_succ_cons];exact .cons h (RelWs.take n t)
theorem RelWs.drop{G:Gw}{p:Pl}{H:Hp}:∀{ws:List W} {vs:List V} (n:Nat),RelWs G p H ws vs→RelWs G p H (ws.drop n) (vs.drop n)
 |_,_,0,h=>h
 |_,_,_+1,.nil=>by simp;exact .nil
 |_,_,n+1,.cons _ t=>by simp only[List.drop_succ_cons];exact RelWs.drop n t
theorem RelWs.set{G:Gw}{p:Pl}{H:Hp}{w:W}{v:V}(r:RelW G p H w v):∀{ws:List W} {vs:List V} (i:Nat),RelWs G p H ws vs→RelWs G p H (ws.set i w) (vs.set i v)
 |_,_,_,.nil=>.nil
 |_,_,0,.cons _ t=>.cons r t
 |_,_,i+1,.cons h t=>.cons h (RelWs.set r i t)
theorem RelWs.one{G:Gw}{p:Pl}{H:Hp}{w:W}{v:V}(r:RelW G p H w v):RelWs G p H [w] [v]:=.cons r .nil
abbrev Zm(G:Gw)(p:Pl)(H:Hp)(fs:List (String×W))(vs:List (Str×V)):Prop:=Paired (fun(a:String×W) (b:Str×V)=>b.1=Str.ofString a.1∧RelW G p H a.2 b.2) fs vs
abbrev Em(G:Gw)(p:Pl)(H:Hp)(fs:List (Key×W))(vs:List (Key×V)):Prop:=Paired (fun(a:Key×W) (b:Key×V)=>b.1=a.1∧RelW G p H a.2 b.2) fs vs
theorem AdD{α β:Type}{F F':α→β→Prop}(f:∀a b,F a b→F' a b):∀{l₁:List α} {l₂:List β},Paired F l₁ l₂→Paired F' l₁ l₂
 |_,_,.nil=>.nil
 |_,_,.cons r t=>.cons (f _ _ r) (AdD f t)
def HAt(G:Gw)(p:Pl)(H:Hp)(a:Addr):SO→Prop
 |.lst ws=>∃vs,H a=some (.lst vs)∧RelWs G p H ws vs
 |.ins C fs=>∃dx vs,H a=some (.ins (G.at_ C) dx vs)∧Zm G p H fs vs
 |.dct kvs=>∃vs,H a=some (.dK vs)∧Em G p H kvs vs
 |.dn kvs=>∃vs,H a=some (Yr G.hs a vs)∧RelNw G p H kvs vs
 |.ldk kvs=>∃o vs,H a=some (.frz o (.dK vs))∧Em G p H kvs vs
 |.db kvs=>∃vs,H a=some (Yr G.hs a vs)∧RelBw G p H kvs vs
 |.dead=>∃u,H a=some u
theorem HAt.monoR{G:Gw}{p p':Pl}{H H':Hp}{a:Addr}{o:SO}(h:HAt G p H a o)(e:ExtR G p H p' H')(ha:H' a=H a):HAt G p' H' a o:=by
 cases o with
 |lst ws=>obtain⟨vs,h1,h2⟩:=h;exact⟨vs,ha.trans h1,h2.monoR e⟩
 |ins C fs=>obtain⟨dx,vs,h1,h2⟩:=h;exact⟨dx,vs,ha.trans h1,AdD (fun _ _ r=>⟨r.1,r.2.monoR e⟩) h2⟩
 |dct kvs=>obtain⟨vs,h1,h2⟩:=h;exact⟨vs,ha.trans h1,AdD (fun _ _ r=>⟨r.1,r.2.monoR e⟩) h2⟩
 |dn kvs=>obtain⟨vs,h1,h2⟩:=h;exact⟨vs,ha.trans h1,h2.monoR e⟩
 |ldk kvs=>obtain⟨o,vs,h1,h2⟩:=h;exact⟨o,vs,ha.trans h1,AdD (fun _ _ r=>⟨r.1,r.2.monoR e⟩) h2⟩
 |db kvs=>obtain⟨vs,h1,h2⟩:=h;exact⟨vs,ha.trans h1,h2.monoR e⟩
 |dead=>obtain⟨u,h1⟩:=h;exact⟨u,ha.trans h1⟩
theorem HAt.mono{G:Gw}{p p':Pl}{H H':Hp}{a:Addr}{o:SO}(h:HAt G p H a o)(e:Ext G p H p' H')(ha:H' a=H a):HAt G p' H' a o:=h.monoR e.toR ha
theorem HAt.some{G:Gw}{p:Pl}{H:Hp}{a:Addr}{o:SO}(h:HAt G p H a o):∃u,H a=some u:=by
 cases o with
 |lst ws=>obtain⟨vs,h1,h2⟩:=h;exact⟨_,h1⟩
 |ins C fs=>obtain⟨dx,vs,h1,h2⟩:=h;exact⟨_,h1⟩
 |dct kvs=>obtain⟨vs,h1,h2⟩:=h;exact⟨_,h1⟩
 |dn kvs=>obtain⟨vs,h1,h2⟩:=h;exact⟨_,h1⟩
 |ldk kvs=>obtain⟨o,vs,h1,h2⟩:=h;exact⟨_,h1⟩
 |db kvs=>obtain⟨vs,h1,h2⟩:=h;exact⟨_,h1⟩
 |dead=>exact h
def SO.live:SO→Bool
 |.dead=>false
 |_=>true
structure Emb(G:Gw)(p:Pl)(s:Sto)(H:Hp):Prop where
 len:p.l.length=s.next
 nd:p.l.Nodup
 dom:∀i,i<s.next→∃o,s.get i=some o
 at_:∀i o,s.get i=some o→∃a,p.l[i]? = some a∧HAt G p H a o
 lv:∀i o a,s.get i=some o→o.live=true→p.l[i]? = some a→a∉p.fz
 ice:∀a∈p.fz,∃u,H a=some u
section
variable {G:Gw} {p:Pl} {s:Sto} {H:Hp}
theorem Emb.lt(e:Emb G p s H){i:Nat}{o:SO}(h:s.get i=some o):i<s.next:=by
 obtain⟨a,ha,_⟩:=e.at_ i o h
 have:=(List.getElem?_eq_some_iff.mp ha).1
 rw[e.len] at this;exact this
theorem Emb.of(e:Emb G p s H){i:Nat}{a:Addr}{o:SO}(h:s.get i=some o)(ha:p.l[i]? = some a):HAt G p H a o:=by
 obtain⟨b,hb,q⟩:=e.at_ i o h
 rw[ha] at hb;cases hb
 exact q
theorem Emb.tracked(e:Emb G p s H){a:Addr}(h:a∈p.l):∃u,H a=some u:=by
 obtain⟨i,hi⟩:=List.getElem?_of_mem h
 have lt:=(List.getElem?_eq_some_iff.mp hi).1
 rw[e.len] at lt
 obtain⟨o,ho⟩:=e.dom i lt
 exact(e.of ho hi).some
theorem Ij{K:PySem.W.Frag}{a:Addr}{o:HO}(hn:H a=none){b:Addr}{vs:List V}(h:SqT K H b vs):SqT K (upd H a o) b vs:=by
 rcases h with(h|⟨ob,h⟩)|h
 ·exact .inl (.inl (by rw[upd_ne (ne_of_none h hn)];exact h))
 ·exact .inl (.inr ⟨ob,by rw[upd_ne (ne_of_none h hn)];exact h⟩)
 ·exact .inr h
theorem Il{K:PySem.W.Frag}{a:Addr}{o:HO}(hn:H a=none){b:Addr}{vs:List V}(h:SqF K H b vs):SqF K (upd H a o) b vs:=by
 rcases h with⟨ob,h⟩|h
 ·exact .inl ⟨ob,by rw[upd_ne (ne_of_none h hn)];exact h⟩
 ·exact .inr h
theorem Dh{a:Addr}{o:HO}(hn:H a=none):∀b u,H b=some u→upd H a o b=some u:=fun b u h=>by rw[upd_ne (ne_of_none h hn)];exact h
theorem Ext.laid{a:Addr}{o:HO}(hn:H a=none):Ext G p H (p.add a) (upd H a o):=⟨⟨[a],rfl,by simpa using hn⟩,fun _ h=>h,fun _ h=>.inl h,fun b u h _=>Dh hn b u h,fun b u h=>⟨u,Dh hn b u h⟩,fun _ _ h=>Ij hn h,fun _ _ h=>Il hn h,fun b _ _ h=>Dh hn b _ h⟩
theorem Ext.laid0{a:Addr}{o:HO}(hn:H a=none):Ext G p H p (upd H a o):=⟨⟨[],(List.append_nil p.l).symm,by simp⟩,fun _ h=>h,fun _ h=>.inl h,fun b u h _=>Dh hn b u h,fun b u h=>⟨u,Dh hn b u h⟩,fun _ _ h=>Ij hn h,fun _ _ h=>Il hn h,fun b _ _ h=>Dh hn b _ h⟩
theorem Ext.laidF{a:Addr}{o:HO}(hn:H a=none):Ext G p H (p.ice a) (upd H a o):=⟨⟨[],(List.append_nil p.l).symm,by simp⟩,fun _ h=>List.mem_cons_of_mem _ h,fun x h=>by rcases List.mem_cons.mp h with rfl|h;exact .inr (.inl hn);exact .inl h,fun b u h _=>Dh hn b u h,fun b u h=>⟨u,Dh hn b u h⟩,fun _ _ h=>Ij hn h,fun _ _ h=>Il hn h,fun b _ _ h=>Dh hn b _ h⟩
theorem Emb.ne_new(e:Emb G p s H){a:Addr}(hn:H a=none):a∉p.l:=fun h=>by
 obtain⟨u,hu⟩:=e.tracked h
 rw[hn] at hu;cases hu
theorem Emb.nfz(e:Emb G p s H){a:Addr}(hn:H a=none):a∉p.fz:=fun h=>by
 obtain⟨u,hu⟩:=e.ice a h
 rw[hn] at hu;cases hu
theorem Emb.keep(e:Emb G p s H){H':Hp}(x:Ext G p H p H')(k:∀a,a∈p.l→H' a=H a):Emb G p s H' :=
 ⟨e.len,e.nd,e.dom,fun i o h=>by
  obtain⟨a,ha,q⟩:=e.at_ i o h
  exact⟨a,ha,q.mono x (k a (List.mem_of_getElem? ha))⟩,e.lv,fun a h=>by obtain⟨u,hu⟩:=e.ice a h;exact⟨u,x.keep a u hu (.inr h)⟩⟩
theorem Emb.aside(e:Emb G p s H){a:Addr}{o:HO}(hn:H a=none):Emb G p s (upd H a o) :=
 e.keep (Ext.laid0 hn) fun b hb=>upd_ne fun z=>e.ne_new hn (z▸hb)
theorem Emb.asideF(e:Emb G p s H){a:Addr}{o:HO}(hn:H a=none):Emb G (p.ice a) s (upd H a o) where
 len:=e.len
 nd:=e.nd
 dom:=e.dom
 at_:=fun i o' h=>by
  obtain⟨b,hb,q⟩:=e.at_ i o' h
  exact⟨b,hb,q.mono (Ext.laidF hn) (upd_ne fun z=>e.ne_new hn (z▸List.mem_of_getElem? hb))⟩
 lv:=fun i o' b h hl hb hm=>by
  rcases List.mem_cons.mp hm with rfl|hm
  ·exact e.ne_new hn (List.mem_of_getElem? hb)
  ·exact e.lv i o' b h hl hb hm
 ice:=fun b h=>by
  rcases List.mem_cons.mp h with rfl|h
  ·exact⟨o,upd_same⟩
  ·obtain⟨u,hu⟩:=e.ice b h
   exact⟨u,Dh hn b u hu⟩
theorem Emb.new(e:Emb G p s H){a:Addr}{ho:HO}{o:SO}(hn:H a=none)(h:HAt G (p.add a) (upd H a ho) a o):Emb G (p.add a) (s.new o) (upd H a ho) where
 len:=by simp[Pl.add,e.len]
 nd:=by
  show(p.l++[a]).Nodup
  rw[List.nodup_append]
  refine⟨e.nd,by simp,fun x hx y hy=>?_⟩
  simp at hy;subst hy
  exact fun z=>e.ne_new hn (z▸hx)
 dom:=fun i hi=>by
  by_cases h:i=s.next
  ·subst h;exact⟨o,Aq s o⟩
  ·rw[Am s o h];exact e.dom i (by simp at hi;omega)
 at_:=fun i u h'=>by
  by_cases hi:i=s.next
  ·subst hi
   rw[Aq] at h';cases h'
   exact⟨a,by show(p.l++[a])[s.next]? = some a;rw[←e.len,List.getElem?_append_right (Nat.le_refl _)];simp,h⟩
  ·rw[Am s o hi] at h'
   obtain⟨b,hb,q⟩:=e.at_ i u h'
   refine⟨b,(Ext.laid (G:=G) (p:=p) (o:=ho) hn).get hb,q.mono (Ext.laid hn) (upd_ne ?_)⟩
   exact fun z=>e.ne_new hn (z▸List.mem_of_getElem? hb)
 lv:=fun i u b h' hl hb hm=>by
  by_cases hi:i=s.next
  ·have:(p.l++[a])[s.next]? = some a:=by rw[←e.len,List.getElem?_append_right (Nat.le_refl _)];simp
   rw[hi] at hb
   have hb:(p.l++[a])[s.next]? = some b:=hb
   rw[this] at hb;cases hb
   exact e.nfz hn hm
  ·rw[Am s o hi] at h'
   have hlt:=e.lt h'
   have hb:(p.l++[a])[i]? = some b:=hb
   rw[List.getElem?_append_left (by rw[e.len];exact hlt)] at hb
   exact e.lv i u b h' hl hb hm
 ice:=fun b h=>by
  obtain⟨u,hu⟩:=e.ice b h
  exact⟨u,Dh hn b u hu⟩
theorem Emb.newAt(e:Emb G p s H){a:Addr}:(p.add a).l[s.next]? = some a:=by
 show(p.l++[a])[s.next]? = some a
 rw[←e.len,List.getElem?_append_right (Nat.le_refl _)];simp
def Wr:HO→Prop
 |.tup _=>False
 |.frz _ _=>False
 |_=>True
theorem Ii{K:PySem.W.Frag}{a:Addr}{o u:HO}(hu:H a=some u)(hw:Wr u){b:Addr}{vs:List V}(h:SqT K H b vs):SqT K (upd H a o) b vs:=by
 rcases h with(h|⟨ob,h⟩)|h
 ·exact .inl (.inl (by rw[upd_ne (fun z=>by subst z;rw[hu] at h;cases h;exact hw)];exact h))
 ·exact .inl (.inr ⟨ob,by rw[upd_ne (fun z=>by subst z;rw[hu] at h;cases h;exact hw)];exact h⟩)
 ·exact .inr h
theorem Ik{K:PySem.W.Frag}{a:Addr}{o u:HO}(hu:H a=some u)(hw:Wr u){b:Addr}{vs:List V}(h:SqF K H b vs):SqF K (upd H a o) b vs:=by
 rcases h with⟨ob,h⟩|h
 ·exact .inl ⟨ob,by rw[upd_ne (fun z=>by subst z;rw[hu] at h;cases h;exact hw)];exact h⟩
 ·exact .inr h
theorem Ext.wrote{i:Nat}{a:Addr}{o u:HO}{so:SO}(e:Emb G p s H)(hs:s.get i=some so)(ha:p.l[i]? = some a)(hu:H a=some u)(hw:Wr u)(hl:so.live=true:=by rfl):Ext G p H p (upd H a o):=by
 have nf:=e.lv i so a hs hl ha
 have ne:∀b,b∉p.l∨b∈p.fz→b≠a:=fun b h z=>by
  subst z
  rcases h with h|h
  ·exact h (List.mem_of_getElem? ha)
  ·exact nf h
 exact⟨⟨[],(List.append_nil p.l).symm,by simp⟩,fun _ h=>h,fun _ h=>.inl h,fun b v h q=>by rw[upd_ne (ne b q)];exact h,fun b v h=>by
  by_cases z:b=a
  ·subst z;exact⟨o,upd_same⟩
  ·exact⟨v,by rw[upd_ne z];exact h⟩,fun _ _ h=>Ii hu hw h,fun _ _ h=>Ik hu hw h,fun b ob v h=>by rw[upd_ne (fun z=>by subst z;rw[hu] at h;cases h;exact hw)];exact h⟩
theorem Emb.write(e:Emb G p s H){i:Nat}{a:Addr}{u ho:HO}{o so:SO}(hs:s.get i=some so)(ha:p.l[i]? = some a)(hu:H a=some u)(hw:Wr u)(h:HAt G p (upd H a ho) a o)(hl:so.live=true:=by rfl):Emb G p (s.set i o) (upd H a ho) where
 len:=e.len
 nd:=e.nd
 dom:=fun j hj=>by
  by_cases q:j=i
  ·subst q;exact⟨o,Az s j o⟩
  ·rw[Ar s o q];exact e.dom j hj
 at_:=fun j u' h'=>by
  by_cases q:j=i
  ·subst q
   rw[Az] at h';cases h'
   exact⟨a,ha,h⟩
  ·rw[Ar s o q] at h'
   obtain⟨b,hb,r⟩:=e.at_ j u' h'
   refine⟨b,hb,r.mono (Ext.wrote e hs ha hu hw hl) (upd_ne fun z=>q ?_)⟩
   subst z
   obtain⟨l1,e1⟩:=List.getElem?_eq_some_iff.mp hb
   obtain⟨l2,e2⟩:=List.getElem?_eq_some_iff.mp ha
   exact(List.getElem_inj e.nd).mp (e1.trans e2.symm)
 lv:=fun j u' b h' hl' hb=>by
  by_cases q:j=i
  ·subst q
   exact e.lv j so b hs hl hb
  ·rw[Ar s o q] at h'
   exact e.lv j u' b h' hl' hb
 ice:=fun b h=>by
  obtain⟨v,hv⟩:=e.ice b h
  exact⟨v,(Ext.wrote (o:=ho) e hs ha hu hw hl).keep b v hv (.inr h)⟩
end
abbrev Env0:=List (Option W)
def S7(G:Gw)(p:Pl)(H:Hp):Option W→Option V→Prop
 |some w,some v=>RelW G p H w v
 |none,_=>True
 |_,_=>False
abbrev Be(G:Gw)(p:Pl)(H:Hp)(z:Env0)(σ:St):Prop:=Paired (S7 G p H) z σ
theorem S7.mono{G:Gw}{p p':Pl}{H H':Hp}(e:Ext G p H p' H'):∀{w:Option W} {v:Option V},S7 G p H w v→S7 G p' H' w v
 |some _,some _,h=>RelW.mono e h
 |none,_,_=>trivial
 |some _,none,h=>h.elim
theorem S7.monoR{G:Gw}{p p':Pl}{H H':Hp}(e:ExtR G p H p' H'):∀{w:Option W} {v:Option V},S7 G p H w v→S7 G p' H' w v
 |some _,some _,h=>RelW.monoR e h
 |none,_,_=>trivial
 |some _,none,h=>h.elim
theorem Be.monoR{G:Gw}{p p':Pl}{H H':Hp}(e:ExtR G p H p' H'){z:Env0}{σ:St}(h:Be G p H z σ):Be G p' H' z σ:=AdD (fun _ _ r=>S7.monoR e r) h
theorem Be.mono{G:Gw}{p p':Pl}{H H':Hp}(e:Ext G p H p' H'){z:Env0}{σ:St}(h:Be G p H z σ):Be G p' H' z σ:=AdD (fun _ _ r=>r.mono e) h
theorem Be.get{G:Gw}{p:Pl}{H:Hp}:∀{z:Env0} {σ:St} {i:Nat} {w:W},Be G p H z σ→z[i]? = some (some w)→∃v,σ[i]? = some (some v)∧RelW G p H w v
 |_,_,0,_,.cons (b:=b) h _,e=>by
  simp at e;subst e
  cases b with
  |none=>exact h.elim
  |some v=>exact⟨v,rfl,h⟩
 |_,_,i+1,w,.cons _ t,e=>by
  obtain⟨v,h1,h2⟩:=Be.get (i:=i) (w:=w) t (by simpa using e)
  exact⟨v,by simpa using h1,h2⟩
 |_,_,_,_,.nil,e=>by simp at e
theorem Be.set{G:Gw}{p:Pl}{H:Hp}{w:Option W}{v:Option V}(r:S7 G p H w v):∀{z:Env0} {σ:St} (i:Nat),Be G p H z σ→Be G p H (z.set i w) (σ.set i v)
 |_,_,_,.nil=>.nil
 |_,_,0,.cons _ t=>.cons r t
 |_,_,i+1,.cons h t=>.cons h (Be.set r i t)
def XAt(G:Gw)(p:Pl)(H:Hp)(d:Option Addr)(fs:List (String×W)):Prop:=match d with
 |none=>fs=[]
 |some a=>∃vs,a∈p.fz∧H a=some (.xd vs)∧Zm G p H fs vs
def Bf{α β:Type}(G:Gw)(rel:Pl→Hp→α→β→Prop)(p:Pl)(H:Hp)(Q:β→Hp→Prop)(E:XK):R α→Prop
 |.ok a s=>∀p' H' b,Ext G p H p' H'→Emb G p' s H'→rel p' H' a b→Q b H'
 |.exn C fs s=>∀p' H' d,Ext G p H p' H'→Emb G p' s H'→XAt G p' H' d fs→E (.ref (G.at_ C)) d H'
 |.bad=>False
theorem Bf.ext{α β:Type}{G:Gw}{rel:Pl→Hp→α→β→Prop}{p p1:Pl}{H H1:Hp}{Q:β→Hp→Prop}{E:XK}(x:Ext G p H p1 H1):∀{r:R α},Bf G rel p H Q E r→Bf G rel p1 H1 Q E r
 |.ok _ _,h=>fun p' H' b e m r=>h p' H' b (x.trans e) m r
 |.exn _ _ _,h=>fun p' H' d e m q=>h p' H' d (x.trans e) m q
 |.bad,h=>h
abbrev EM:=Env0→Sto→R W
abbrev TM:=Env0→Sto→R Bool
abbrev AM:=Env0→Sto→R (List W)
abbrev relB(_:Pl)(_:Hp)(a b:Bool):Prop:=a=b
def Gq(G:Gw)(E:St→XK)(t:TE)(m:EM):Prop:=∀(σ:St) (z:Env0) (H:Hp) (p:Pl) (s:Sto) (Q:VK),Be G p H z σ→Emb G p s H→Bf G (RelW G) p H Q (E σ) (m z s)→t σ H Q
def Abq(G:Gw)(E:St→XK)(t:TT)(m:TM):Prop:=∀(σ:St) (z:Env0) (H:Hp) (p:Pl) (s:Sto) (Q:Bool→Hp→Prop),Be G p H z σ→Emb G p s H→Bf G relB p H Q (E σ) (m z s)→t σ H Q
def Ag5(G:Gw)(E:St→XK)(t:TA)(m:AM):Prop:=∀(σ:St) (z:Env0) (H:Hp) (p:Pl) (s:Sto) (Q:List V→Hp→Prop),Be G p H z σ→Emb G p s H→Bf G (RelWs G) p H Q (E σ) (m z s)→t σ H Q
def SE(G:Gw)(E:St→XK)(X:Cx)(e:Expr)(m:EM):Prop:=∃t,PE X e t∧Gq G E t m
def ST(G:Gw)(E:St→XK)(X:Cx)(e:Expr)(m:TM):Prop:=∃t,PT X e t∧Abq G E t m
def SW(G:Gw)(E:St→XK)(X:Cx)(e:Expr)(m:TM):Prop:=∃t,PW X e t∧Abq G E t m
def SA(G:Gw)(E:St→XK)(X:Cx)(es:List Expr)(m:AM):Prop:=∃t,PA X es t∧Ag5 G E t m
theorem Bf.bind{α β α' β':Type}{G:Gw}{rel:Pl→Hp→α→β→Prop}{rel':Pl→Hp→α'→β'→Prop}{p:Pl}{H:Hp}{Q:β'→Hp→Prop}{E:XK}{r:R α}{f:α→Sto→R α'}{Q1:β→Hp→Prop}
  (h:Bf G rel' p H Q E (r.bind f)) (k:∀a s,r=.ok a s→∀p' H' b,Ext G p H p' H'→Emb G p' s H'→rel p' H' a b→Bf G rel' p' H' Q E (f a s)→Q1 b H'):Bf G rel p H Q1 E r:=by
 cases r with
 |ok a s=>intro p' H' b x m q;exact k a s rfl p' H' b x m q (Bf.ext x h)
 |exn C fs s=>exact h
 |bad=>exact h
end Fm
namespace Fm
open PySem L2
theorem Uo{a b:String}(h:Str.ofString a=Str.ofString b):a=b:=by
 rw[Str.ofString_eq_toList,Str.ofString_eq_toList] at h
 have h1:(a.toList.map Char.toNat)=(b.toList.map Char.toNat):=by
  injection h with h
  simpa using congrArg Array.toList h
 have h2:a.toList=b.toList:=by
  refine List.map_inj_right (fun x y e=>?_) |>.mp h1
  exact Char.ext (UInt32.toNat_inj.mp e)
 exact String.ext h2
theorem Bf.now{α β:Type}{G:Gw}{rel:Pl→Hp→α→β→Prop}{p:Pl}{H:Hp}{Q:β→Hp→Prop}{E:XK}{a:α}{s:Sto}{b:β}(h:Bf G rel p H Q E (.ok a s))(m:Emb G p s H)(r:rel p H a b):Q b H:=h p H b Ext.refl m r
def Ach(G:Gw)(r:V→Hp→VK→Prop)(g:W→Sto→R W):Prop:=∀(E:XK) (x:V) (w:W) (H:Hp) (p:Pl) (s:Sto) (Q:VK),RelW G p H w x→Emb G p s H→Bf G (RelW G) p H Q E (g w s)→r x H Q
def Bx(G:Gw)(r:R2)(g:W→W→Sto→R W):Prop:=∀(E:XK) (x y:V) (w u:W) (H:Hp) (p:Pl) (s:Sto) (Q:VK),RelW G p H w x→RelW G p H u y→Emb G p s H→Bf G (RelW G) p H Q E (g w u s)→r x y H Q
def O9(G:Gw)(r:List V→Hp→VK→Prop)(g:List W→Sto→R W):Prop:=∀(E:XK) (xs:List V) (ws:List W) (H:Hp) (p:Pl) (s:Sto) (Q:VK),RelWs G p H ws xs→Emb G p s H→Bf G (RelW G) p H Q E (g ws s)→r xs H Q
def AeS(G:Gw)(r:V→List V→Hp→VK→Prop)(g:W→List W→Sto→R W):Prop:=∀(E:XK) (x:V) (w:W) (xs:List V) (ws:List W) (H:Hp) (p:Pl) (s:Sto) (Q:VK),RelW G p H w x→RelWs G p H ws xs→Emb G p s H→Bf G (RelW G) p H Q E (g w ws s)→r x xs H Q
def Af(i:Nat):EM:=fun z s=>match z[i]? with
 |some (some w)=>.ok w s
 |_=>.bad
def eC(w:W):EM:=fun _ s=>.ok w s
def eUn(g:W→Sto→R W)(a:EM):EM:=fun z s=>(a z s).bind g
def eOp(g:W→W→Sto→R W)(a b:EM):EM:=fun z s=>(a z s).bind fun w s1=>(b z s1).bind fun u s2=>g w u s2
def Aj(g:List W→Sto→R W)(as:AM):EM:=fun z s=>(as z s).bind g
def Ao:AM:=fun _ s=>.ok [] s
def Ac(a:EM)(r:AM):AM:=fun z s=>(a z s).bind fun w s1=>(r z s1).bind fun ws s2=>.ok (w::ws) s2
def asB:W→Sto→R Bool:=fun w s=>match w with
 |.bl b=>.ok b s
 |_=>.bad
def tOf(m:EM):TM:=fun z s=>(m z s).bind asB
def M8(m:TM):TM:=fun z s=>(m z s).bind fun b s1=>.ok (!b) s1
def Afo(a b:TM):TM:=fun z s=>(a z s).bind fun c s1=>if c=true then b z s1 else .ok false s1
def AcI(a b:TM):TM:=fun z s=>(a z s).bind fun c s1=>if c=true then .ok true s1 else b z s1
def AaV(a b:EM):EM:=fun z s=>(a z s).bind fun w s1=>(asB w s1).bind fun c s2=>if c=true then b z s2 else .ok (.bl false) s2
def eOr(a b:EM):EM:=fun z s=>(a z s).bind fun w s1=>(asB w s1).bind fun c s2=>if c=true then .ok (.bl true) s2 else b z s2
def Ad3(a:EM):EM:=fun z s=>(a z s).bind fun w s1=>(asB w s1).bind fun c s2=>.ok (.bl (!c)) s2
def eIf(t:TM)(a b:EM):EM:=fun z s=>(t z s).bind fun c s1=>if c=true then a z s1 else b z s1
def Abp(as:AM):EM:=fun z s=>(as z s).bind fun ws s1=>if ws.length≤sizeLine then .ok (.tup ws) s1 else .bad
def Vo(as:AM):EM:=fun z s=>(as z s).bind fun ws s1=>if ws.length≤sizeLine then .ok (.ref s1.next) (s1.new (.lst ws)) else .bad
def AfT(C f:String):W→Sto→R W:=fun w s=>match w with
 |.ref i=>match s.get i with
  |some (.ins D fs)=>if D=C then(match fs.lookup f with
   |some u=>.ok u s
   |none=>.bad) else .bad
  |_=>.bad
 |_=>.bad
section
variable {G:Gw} {E:St→XK} {X:Cx}
theorem Ad(i:Nat){x:Str}{pos:Pos}(hN:X.N[i]? = some x:=by rfl)(hv:Vis X.env.scope x:=by first|exact Or.inl rfl|exact Or.inr (Or.inl rfl)|exact Or.inr (Or.inr rfl))
  (hd:(x==("__debug__" : Str))=false:=by decide) (hcd:(x==("__classdict__" : Str))=false:=by decide):SE G E X (.Name x pos) (Af i):=by
 refine⟨_,pe_var hN hv hd hcd,fun σ z H p s Q rs m h=>?_⟩
 unfold Af at h
 split at h
 ·rename_i w e
  obtain⟨v,h1,h2⟩:=rs.get e
  exact⟨v,h1,h.now m h2⟩
 ·exact h.elim
theorem Jj{e:Expr}{v:V}{w:W}(h:PE X e (tC v))(r:∀p H,RelW G p H w v):SE G E X e (eC w):=⟨_,h,fun σ z H p s Q rs m h=>h.now m (r p H)⟩
theorem Ag{i j pos}:SE G E X (.Constant (.int i) j pos) (eC (.int i)):=Jj pe_int fun _ _=>.int i
theorem Pb{b j pos}:SE G E X (.Constant (.bool b) j pos) (eC (.bl b)):=Jj pe_bl fun _ _=>.bl b
theorem AdU{j pos}:SE G E X (.Constant .none j pos) (eC .non):=Jj pe_non fun _ _=>.non
theorem Ds{x j pos}:SE G E X (.Constant (.str x) j pos) (eC (.str x)):=Jj pe_str fun _ _=>.str x
theorem Bj{n:String}{x:Str}{pos:Pos}(hg:Gl X x)(hm:X.mg x=some (.ref (G.at_ n)))(hd:(x==("__debug__" : Str))=false:=by decide):SE G E X (.Name x pos) (eC (.sta n)):=Jj (pe_glob (v:=.ref (G.at_ n)) hg hm rfl hd) fun _ _=>.sta n
theorem Pa{n:String}{x:Str}{pos:Pos}(hg:Gl X x)(hm:X.mg x=none)(hv:bootBuiltins x=some (.type n))(hn:x ≠ "__name__" := by decide)(hd:(x==("__debug__" : Str))=false:=by decide):SE G E X (.Name x pos) (eC (.ty n)) :=
 Jj (pe_bltn (v:=.ty n) hg hm hv rfl hn hd) fun _ _=>.ty n
theorem Gq.un{r:V→Hp→VK→Prop}{g:W→Sto→R W}{ta:TE}{ma:EM}(hp:Ach G r g)(ha:Gq G E ta ma):Gq G E (tUn r ta) (eUn g ma):=fun σ z H p s Q rs m h =>
 ha σ z H p s _ rs m (Bf.bind h fun w s1 _ p1 H1 x e1 m1 r1 h1=>hp _ x w H1 p1 s1 Q r1 m1 h1)
theorem Gq.op{r:R2}{g:W→W→Sto→R W}{ta tb:TE}{ma mb:EM}(hp:Bx G r g)(ha:Gq G E ta ma)(hb:Gq G E tb mb):Gq G E (tOp r ta tb) (eOp g ma mb):=fun σ z H p s Q rs m h =>
 ha σ z H p s _ rs m (Bf.bind h fun w s1 _ p1 H1 x e1 m1 r1 h1=>hb σ z H1 p1 s1 _ (rs.mono e1) m1 (Bf.bind h1 fun u s2 _ p2 H2 y e2 m2 r2 h2=>hp _ x y w u H2 p2 s2 Q (r1.mono e2) r2 m2 h2))
theorem AdT{op:UnaryOp}{r:V→Hp→VK→Prop}{g:W→Sto→R W}{a:Expr}{ma:EM}{pos:Pos}(ho:UnR X (unaryOp op) r)(hp:Ach G r g)(ha:SE G E X a ma):SE G E X (.UnaryOp op a pos) (eUn g ma) :=
 let ⟨ta,h1,h2⟩:=ha
 ⟨_,pe_un ho h1,h2.un hp⟩
theorem Cp{op:Operator}{r:R2}{g:W→W→Sto→R W}{a b:Expr}{ma mb:EM}{pos:Pos}(ho:OpR X (binaryOp op) r)(hp:Bx G r g)(ha:SE G E X a ma)(hb:SE G E X b mb):SE G E X (.BinOp a op b pos) (eOp g ma mb) :=
 let ⟨ta,h1,h2⟩:=ha
 let ⟨tb,h3,h4⟩:=hb
 ⟨_,pe_op ho h1 h3,Gq.op hp h2 h4⟩
theorem Lf{op:CmpOp}{r:R2}{g:W→W→Sto→R W}{a b:Expr}{ma mb:EM}{pos:Pos}(ho:OpR X (compareOp op) r)(hp:Bx G r g)(ha:SE G E X a ma)(hb:SE G E X b mb)(hm:behindInMarks op b=false:=by first|exact nomark _|rfl):SE G E X (.Compare a [op] [b] pos) (eOp g ma mb) :=
 let ⟨ta,h1,h2⟩:=ha
 let ⟨tb,h3,h4⟩:=hb
 ⟨_,pe_cmpR ho h1 h3 hm,Gq.op hp h2 h4⟩
theorem Abq.of{t:TE}{m:EM}(h:Gq G E t m):Abq G E (tTest t) (tOf m):=fun σ z H p s Q rs me hq =>
 h σ z H p s _ rs me (Bf.bind hq fun w s1 _ p1 H1 x e1 m1 r1 h1=>by
  cases r1 with
  |bl b=>exact⟨b,rfl,h1.now m1 rfl⟩
  |_=>exact h1.elim)
theorem K9{op:CmpOp}{r:R2}{g:W→W→Sto→R W}{a b:Expr}{ma mb:EM}{pos:Pos}(ho:OpR X (compareOp op) r)(hp:Bx G r g)(ha:SE G E X a ma)(hb:SE G E X b mb)(hm:behindInMarks op b=false:=by first|exact nomark _|rfl):ST G E X (.Compare a [op] [b] pos) (tOf (eOp g ma mb)) :=
 let ⟨ta,h1,h2⟩:=ha
 let ⟨tb,h3,h4⟩:=hb
 ⟨_,pt_cmpR ho h1 h3 hm,Abq.of (Gq.op hp h2 h4)⟩
theorem Jh{e:Expr}{m:EM}(h:SE G E X e m)(he:∀whole,isTrue e X.env whole=(do let v ←whole;standAt e.pos;holding [v] (truthy v)):=by intro _;rfl):ST G E X e (tOf m) :=
 let ⟨t,h1,h2⟩:=h
 ⟨_,pt_val h1 he,Abq.of h2⟩
theorem Ji{a:Expr}{ma:TM}{pos:Pos}(ha:ST G E X a ma):ST G E X (.UnaryOp .Not a pos) (M8 ma) :=
 let ⟨ta,h1,h2⟩:=ha
 ⟨_,pt_not h1,fun σ z H p s Q rs m h=>h2 σ z H p s _ rs m (Bf.bind h fun w s1 _ p1 H1 x e1 m1 r1 h1=>by cases r1;exact h1.now m1 rfl)⟩
theorem Tu{a:Expr}{ma:TM}{pos:Pos}(ha:ST G E X a ma):SW G E X (.BoolOp .Or [a] pos) ma :=
 let ⟨ta,h1,h2⟩:=ha
 ⟨_,pw_or1 h1,h2⟩
theorem Z9{a b:Expr}{rest:List Expr}{ma mb:TM}{pos:Pos}(ha:ST G E X a ma)(hb:SW G E X (.BoolOp .Or (b::rest) pos) mb):SW G E X (.BoolOp .Or (a::b::rest) pos) (AcI ma mb) :=
 let ⟨ta,h1,h2⟩:=ha
 let ⟨tb,h3,h4⟩:=hb
 ⟨_,pw_or h1 h3,fun σ z H p s Q rs m h=>h2 σ z H p s _ rs m (Bf.bind h fun w s1 _ p1 H1 x e1 m1 r1 h1=>by
  cases r1
  cases w with
  |false=>exact h4 σ z H1 p1 s1 Q (rs.mono e1) m1 h1
  |true=>exact h1.now m1 rfl)⟩
theorem AdP{e:Expr}{m:TM}(h:SW G E X e m):ST G E X e m :=
 let ⟨t,h1,h2⟩:=h
 ⟨_,h1.pt,h2⟩
theorem Nf{op}{a:Expr}{ma:EM}{pos:Pos}(h:SE G E X a ma):SE G E X (.BoolOp op [a] pos) ma :=
 let ⟨t,h1,h2⟩:=h
 ⟨_,pe_one h1,h2⟩
theorem Nh{a b:Expr}{rest:List Expr}{ma mb:EM}{pos:Pos}(ha:SE G E X a ma)(hb:SE G E X (.BoolOp .And (b::rest) pos) mb):SE G E X (.BoolOp .And (a::b::rest) pos) (AaV ma mb) :=
 let ⟨ta,h1,h2⟩:=ha
 let ⟨tb,h3,h4⟩:=hb
 ⟨_,pe_and h1 h3,fun σ z H p s Q rs m h=>h2 σ z H p s _ rs m (Bf.bind h fun w s1 _ p1 H1 x e1 m1 r1 h1=>by
  cases r1 with
  |bl b =>
   refine⟨b,rfl,?_⟩
   cases b with
   |true=>exact h4 σ z H1 p1 s1 Q (rs.mono e1) m1 h1
   |false=>exact h1.now m1 (.bl false)
  |_=>exact h1.elim)⟩
theorem Aah{a:Expr}{ma:EM}{pos:Pos}(ha:SE G E X a ma):SE G E X (.UnaryOp .Not a pos) (Ad3 ma) :=
 let ⟨ta,h1,h2⟩:=ha
 ⟨_,pe_not h1,fun σ z H p s Q rs m h=>h2 σ z H p s _ rs m (Bf.bind h fun w s1 _ p1 H1 x e1 m1 r1 h1=>by
  cases r1 with
  |bl b=>exact⟨b,rfl,h1.now m1 (.bl _)⟩
  |_=>exact h1.elim)⟩
theorem Ae:SA G E X [] Ao:=⟨_,pa_nil,fun σ z H p s Q rs m h=>h.now m .nil⟩
theorem Ab{e:Expr}{es:List Expr}{me:EM}{mr:AM}(ha:SE G E X e me)(hr:SA G E X es mr)(hs:starEach (e::es) X.env=(false,eval e X.env)::starEach es X.env:=by rfl):SA G E X (e::es) (Ac me mr) :=
 let ⟨ta,h1,h2⟩:=ha
 let ⟨tr,h3,h4⟩:=hr
 ⟨_,pa_cons h1 h3 hs,fun σ z H p s Q rs m h=>h2 σ z H p s _ rs m (Bf.bind h fun w s1 _ p1 H1 x e1 m1 r1 h1 =>
  h4 σ z H1 p1 s1 _ (rs.mono e1) m1 (Bf.bind h1 fun ws s2 _ p2 H2 xs e2 m2 r2 h2=>h2.now m2 (.cons (r1.mono e2) r2)))⟩
theorem Xc{es:List Expr}{ma:AM}{x1}{pos:Pos}(h:SA G E X es ma):SE G E X (.Tuple es x1 pos) (Abp ma) :=
 let ⟨t,h1,h2⟩:=h
 ⟨_,pe_tup h1,fun σ z H p s Q rs m h=>h2 σ z H p s _ rs m (Bf.bind h fun ws s1 _ p1 H1 xs e1 m1 r1 h1=>by
  by_cases hz:ws.length≤sizeLine
  ·simp only[hz,if_true] at h1
   refine⟨by rw[r1.length];exact hz,fun a hn=>?_⟩
   exact h1 p1 _ _ (Ext.laid0 hn) (m1.aside hn) (.tup (SqT.of upd_same) (r1.mono (Ext.laid0 hn)))
  ·simp only[hz,if_false] at h1;exact h1.elim)⟩
theorem Lz{p:Pl}{H:Hp}{s:Sto}{ws:List W}{vs:List V}{Q:VK}{E:XK}(m:Emb G p s H)(r:RelWs G p H ws vs)(h:Bf G (RelW G) p H Q E (.ok (.ref s.next) (s.new (.lst ws)))):∀a,H a=none→Q (.ref a) (upd H a (.lst vs)):=fun a hn =>
 h (p.add a) _ _ (Ext.laid hn) (m.new hn ⟨vs,upd_same,r.mono (Ext.laid hn)⟩) (.ref m.newAt)
theorem Fx{p:Pl}{H:Hp}{s:Sto}{ws:List W}{vs:List V}{Q:VK}{E:XK}(m:Emb G p s H)(r:RelWs G p H ws vs)(h:Bf G (RelW G) p H Q E (.ok (.lst ws) s)):∀a,H a=none→Q (.ref a) (upd H a (.lst vs)):=fun a hn =>
 h (p.ice a) _ _ (Ext.laidF hn) (m.asideF hn) (.lst (List.mem_cons_self ..) upd_same (r.mono (Ext.laidF hn)))
def Ci(as:AM):EM:=fun z s=>(as z s).bind fun ws s1=>if ws.length≤sizeLine then .ok (.lst ws) s1 else .bad
theorem Bs{es:List Expr}{ma:AM}{pos:Pos}(h:SA G E X es ma):SE G E X (.List es pos) (Ci ma) :=
 let ⟨t,h1,h2⟩:=h
 ⟨_,pe_lst h1,fun σ z H p s Q rs m h=>h2 σ z H p s _ rs m (Bf.bind h fun ws s1 _ p1 H1 xs e1 m1 r1 h1=>by
  by_cases hz:ws.length≤sizeLine
  ·simp only[hz,if_true] at h1
   exact⟨by rw[r1.length];exact hz,Fx m1 r1 h1⟩
  ·simp only[hz,if_false] at h1;exact h1.elim)⟩
def AfX:W→Sto→R W:=fun w s=>match w with
 |.ref i=>(match s.get i with
  |some (.lst ws)=>.ok (.lst ws) (s.set i .dead)
  |some (.dct ws)=>.ok (.dct ws) (s.set i .dead)
  |some (.dn ws)=>.ok (.dn ws) (s.set i .dead)
  |some (.db ws)=>.ok (.db ws) (s.set i .dead)
  |some (.ins C fs)=>.ok (.obj C fs) (s.set i .dead)
  |_=>.bad)
 |w=>.ok w s
theorem Q5{p:Pl}{H:Hp}:∀{ws:List (Key×W)} {vs:List (Key×V)},Em G p H ws vs→RelKw G p H ws vs
 |_,_,.nil=>.nil
 |(k,w)::ws,(k',v)::vs,.cons h t=>by
  obtain⟨h1,h2⟩:=h
  simp only at h1
  subst h1
  exact .cons h2 (Q5 t)
theorem Xl{p:Pl}{H:Hp}:∀{ws:List (String×W)} {vs:List (Str×V)},Zm G p H ws vs→RelFw G p H ws vs
 |_,_,.nil=>.nil
 |(k,w)::ws,(k',v)::vs,.cons h t=>by
  obtain⟨h1,h2⟩:=h
  simp only at h1
  subst h1
  exact .cons h2 (Xl t)
theorem Q6{p:Pl}{H:Hp}:∀{ws:List (Key×W)} {vs:List (Key×V)},RelKw G p H ws vs→Em G p H ws vs
 |_,_,.nil=>.nil
 |_,_,.cons h t=>.cons ⟨rfl,h⟩ (Q6 t)
theorem Xm{p:Pl}{H:Hp}:∀{ws:List (String×W)} {vs:List (Str×V)},RelFw G p H ws vs→Zm G p H ws vs
 |_,_,.nil=>.nil
 |_,_,.cons h t=>.cons ⟨rfl,h⟩ (Xm t)
def AfP:V→Hp→VK→Prop:=fun v H Q=>Q v H∨∃d u,v=.ref d∧H d=some u∧Mut (some u)∧∀od,Q v (upd H d (.frz od u))
theorem Acw{e:Expr}{t:TE}(h:PE X e t):PE X e (fun σ H Q=>t σ H fun v H1=>AfP v H1 Q):=by
 refine⟨fun pins s σ H Q I hw=>thn (h.run pins s σ H _ I hw) fun v s1 ⟨x,H1,I1,r,q⟩=>?_⟩
 rcases q with q|⟨d,u,rfl,hd,mu,q⟩
 ·exact⟨x,H1,I1,r,q⟩
 ·obtain⟨od,I2⟩:=I1.lock hd mu
  exact⟨_,_,I2,r,q od⟩
def Ag0(m:EM):EM:=eUn AfX m
theorem Hz{es:List Expr}{ma:AM}{pos:Pos}(h:SA G E X es ma):SE G E X (.List es pos) (Vo ma) :=
 let ⟨t,h1,h2⟩:=h
 ⟨_,pe_lst h1,fun σ z H p s Q rs m h=>h2 σ z H p s _ rs m (Bf.bind h fun ws s1 _ p1 H1 xs e1 m1 r1 h1=>by
  by_cases hz:ws.length≤sizeLine
  ·simp only[hz,if_true] at h1
   exact⟨by rw[r1.length];exact hz,Lz m1 r1 h1⟩
  ·simp only[hz,if_false] at h1;exact h1.elim)⟩
theorem Lj{p:Pl}{H:Hp}{f:String}:∀{fs:List (String×W)} {vs:List (Str×V)} {w:W},Zm G p H fs vs→fs.lookup f=some w→∃v,vs.lookup (Str.ofString f)=some v∧RelW G p H w v
 |_,_,_,.nil,e=>by cases e
 |(g,u)::fs,(g',v)::vs,w,.cons h t,e=>by
  obtain⟨h1,h2⟩:=h
  simp only at h1 h2
  subst h1
  rw[List.lookup_cons] at e
  by_cases q:f=g
  ·subst q
   simp at e;subst e
   exact⟨v,by rw[List.lookup_cons];simp,h2⟩
  ·have q1:(f==g)=false:=beq_eq_false_iff_ne.mpr q
   rw[q1] at e
   obtain⟨v',e1,e2⟩:=Lj t e
   have q2:(Str.ofString f==Str.ofString g)=false:=beq_eq_false_iff_ne.mpr fun z=>q (Uo z)
   exact⟨v',by rw[List.lookup_cons,q2];exact e1,e2⟩
def spM(G:Gw)(m:List W→Sto→R W):Sp:=fun vs H Q E=>∃p s ws,Emb G p s H∧RelWs G p H ws vs∧Bf G (RelW G) p H Q E (m ws s)
end
end Fm
namespace Fm
open PySem L2
inductive SR where
 |nx (z:Env0) (s:Sto)
 |rt (w:W) (s:Sto)
 |bk (z:Env0) (s:Sto)
 |ct (z:Env0) (s:Sto)
 |exn (C:String) (fs:List (String×W)) (z:Env0) (s:Sto)
 |bad
abbrev SM:=Env0→Sto→SR
def Cr(G:Gw)(p:Pl)(H:Hp)(D:Ends)(E:St→XK):SR→Prop
 |.nx z s=>∀p' H' σ',Ext G p H p' H'→Emb G p' s H'→Be G p' H' z σ'→D.nx σ' H'
 |.rt w s=>∀p' H' v,Ext G p H p' H'→Emb G p' s H'→RelW G p' H' w v→D.rt v H'
 |.bk z s=>∀p' H' σ',Ext G p H p' H'→Emb G p' s H'→Be G p' H' z σ'→D.bk σ' H'
 |.ct z s=>∀p' H' σ',Ext G p H p' H'→Emb G p' s H'→Be G p' H' z σ'→D.ct σ' H'
 |.exn C fs z s=>∀p' H' d σ',Ext G p H p' H'→Emb G p' s H'→Be G p' H' z σ'→XAt G p' H' d fs→E σ' (.ref (G.at_ C)) d H'
 |.bad=>False
theorem Cr.ext{G:Gw}{p p1:Pl}{H H1:Hp}{D:Ends}{E:St→XK}(x:Ext G p H p1 H1):∀{r:SR},Cr G p H D E r→Cr G p1 H1 D E r
 |.nx _ _,h=>fun p' H' b e m r=>h p' H' b (x.trans e) m r
 |.rt _ _,h=>fun p' H' b e m r=>h p' H' b (x.trans e) m r
 |.bk _ _,h=>fun p' H' b e m r=>h p' H' b (x.trans e) m r
 |.ct _ _,h=>fun p' H' b e m r=>h p' H' b (x.trans e) m r
 |.exn _ _ _ _,h=>fun p' H' d σ e m z q=>h p' H' d σ (x.trans e) m z q
 |.bad,h=>h
def Agf(G:Gw)(E:St→XK)(t:TS)(m:SM):Prop:=∀(D:Ends) (σ:St) (z:Env0) (H:Hp) (p:Pl) (s:Sto),Be G p H z σ→Emb G p s H→Cr G p H D E (m z s)→t D σ H
def SS(G:Gw)(E:St→XK)(X:Cx)(st:Stmt)(m:SM):Prop:=∃t,PS X st t∧Agf G E t m
def SSs(G:Gw)(E:St→XK)(X:Cx)(st:List Stmt)(m:SM):Prop:=∃t,PSs X st t∧Agf G E t m
def R.go{α:Type}(r:R α)(z:Env0)(f:α→Sto→SR):SR :=
 match r with
 |.ok a s=>f a s
 |.exn C fs s=>.exn C fs z s
 |.bad=>.bad
@[simp] theorem Jv{α:Type}(a:α)(s:Sto)(z:Env0)(f:α→Sto→SR):(R.ok a s).go z f=f a s:=rfl
@[simp] theorem go_bad{α:Type}(z:Env0)(f:α→Sto→SR):(R.bad:R α).go z f=.bad:=rfl
@[simp] theorem go_exn{α:Type}(C:String)(fs:List (String×W))(s:Sto)(z:Env0)(f:α→Sto→SR):(R.exn C fs s:R α).go z f=.exn C fs z s:=rfl
theorem Cr.go{α β:Type}{G:Gw}{rel:Pl→Hp→α→β→Prop}{p:Pl}{H:Hp}{D:Ends}{E:St→XK}{r:R α}{z:Env0}{σ:St}{f:α→Sto→SR}{Q1:β→Hp→Prop}(rs:Be G p H z σ)
  (h:Cr G p H D E (r.go z f)) (k:∀a s,r=.ok a s→∀p' H' b,Ext G p H p' H'→Emb G p' s H'→rel p' H' a b→Cr G p' H' D E (f a s)→Q1 b H'):Bf G rel p H Q1 (E σ) r:=by
 cases r with
 |ok a s=>intro p' H' b x m q;exact k a s rfl p' H' b x m q (Cr.ext x h)
 |exn C fs s=>intro p' H' d x m q;exact h p' H' d σ x m (rs.mono x) q
 |bad=>exact h
theorem Cr.now{G:Gw}{p:Pl}{H:Hp}{D:Ends}{E:St→XK}{z:Env0}{σ:St}{s:Sto}(h:Cr G p H D E (.nx z s))(m:Emb G p s H)(r:Be G p H z σ):D.nx σ H:=h p H σ Ext.refl m r
def Fl:SM:=fun z s=>.nx z s
def Cz(a b:SM):SM:=fun z s=>match a z s with
 |.nx z1 s1=>b z1 s1
 |r=>r
def AdY:SM:=fun z s=>.bk z s
def Aft:SM:=fun z s=>.ct z s
def AdX:SM:=fun _ _=>.bad
def Vz(m:EM):SM:=fun z s=>(m z s).go z fun _ s1=>.nx z s1
def Ho(m:EM):SM:=fun z s=>(m z s).go z fun w s1=>.rt w s1
def Afq:SM:=fun _ s=>.rt .non s
def sIf(t:TM)(a b:SM):SM:=fun z s=>(t z s).go z fun c s1=>if c=true then a z s1 else b z s1
abbrev GM:=W→Env0→Sto→R Env0
def Jm(m:EM)(g:GM):SM:=fun z s=>(m z s).go z fun w s1=>(g w z s1).go z fun z1 s2=>.nx z1 s2
def gNm(i:Nat):GM:=fun w z s=>.ok (z.set i (some w)) s
abbrev GMs:=List W→Env0→Sto→R Env0
def AaK:GMs:=fun ws z s=>match ws with
 | []=>.ok z s
 |_=>.bad
def U5(g:GM)(gs:GMs):GMs:=fun ws z s=>match ws with
 | []=>.bad
 |w::r=>(g w z s).bind fun z1 s1=>gs r z1 s1
def Adu(gs:GMs):GM:=fun w z s=>match w with
 |.tup ws=>gs ws z s
 |_=>.bad
def SameBut(vs:List Nat)(σ σ':St):Prop:=σ'.length=σ.length∧∀j,j∉vs→σ'[j]? = σ[j]?
theorem SameBut.refl{vs:List Nat}{σ:St}:SameBut vs σ σ:=⟨rfl,fun _ _=>rfl⟩
theorem SameBut.trans{vs:List Nat}{a b c:St}(x:SameBut vs a b)(y:SameBut vs b c):SameBut vs a c:=⟨y.1.trans x.1,fun j h=>(y.2 j h).trans (x.2 j h)⟩
theorem SameBut.set{vs:List Nat}{σ:St}{i:Nat}{v:Option V}(h:i∈vs):SameBut vs σ (σ.set i v):=⟨List.length_set ..,fun j hj=>List.getElem?_set_ne fun e=>hj (by rw[←e];exact h)⟩
theorem Lq{σ:St}{j:Nat}:∀{vs:List Nat},(wipe σ vs)[j]? = if j∈vs then(σ[j]?).map (fun _=>none) else σ[j]?
 | []=>by simp[wipe]
 |v::vs=>by
  unfold wipe
  by_cases h:j=v
  ·subst h
   rw[List.getElem?_set]
   simp only[if_true,wipe_length,List.mem_cons,true_or]
   by_cases hl:j<σ.length
   ·simp[hl]
   ·simp[hl,List.getElem?_eq_none_iff.mpr (Nat.le_of_not_lt hl)]
  ·rw[List.getElem?_set_ne (Ne.symm h),Lq (vs:=vs)]
   simp[h]
theorem Td{vs:List Nat}{σ σ2:St}(h:SameBut vs (wipe σ vs) σ2):wipe σ2 vs=wipe σ vs:=by
 apply List.ext_getElem?
 intro j
 rw[Lq,Lq]
 have hl:σ2.length=σ.length:=by rw[h.1,wipe_length]
 by_cases q:j∈vs
 ·simp only[q,if_true]
  by_cases l:j<σ.length
  ·have l2:j<σ2.length:=by omega
   rw[List.getElem?_eq_getElem l,List.getElem?_eq_getElem l2];rfl
  ·rw[List.getElem?_eq_none_iff.mpr (Nat.le_of_not_lt l),List.getElem?_eq_none_iff.mpr (by omega)]
 ·simp only[q,if_false]
  rw[h.2 j q,Lq,if_neg q]
def Cv(z:Env0):List Nat→Env0
 | []=>z
 |v::vs=>(Cv z vs).set v none
theorem Be.wipe{G:Gw}{p:Pl}{H:Hp}{z:Env0}{σ:St}(h:Be G p H z σ):∀vs:List Nat,Be G p H (Cv z vs) (L2.wipe σ vs)
 | []=>h
 |v::vs=>Be.set (w:=none) (v:=none) trivial v (Be.wipe h vs)
def AfN(G:Gw)(vs:List Nat)(σ0:St)(p:Pl)(H:Hp)(z:Env0)(σ:St):Prop:=Be G p H z σ∧SameBut vs σ0 σ
def Af9(G:Gw)(t:TG)(g:GM)(vs:List Nat):Prop:=∀(E:XK) (σ0:St) (v:V) (w:W) (σ:St) (z:Env0) (H:Hp) (p:Pl) (s:Sto) (Q:St→Hp→Prop),SameBut vs σ0 σ→RelW G p H w v→Be G p H z σ→Emb G p s H→Bf G (AfN G vs σ0) p H Q E (g w z s)→t v σ H Q
def SG(G:Gw)(X:Cx)(e:Expr)(g:GM)(vs:List Nat):Prop:=∃t,PG X e t∧Af9 G t g vs
section
variable {G:Gw} {E:St→XK} {X:Cx}
theorem Dt:SSs G E X [] Fl:=⟨_,pss_nil,fun D σ z H p s rs m h=>h.now m rs⟩
theorem Ay{st:Stmt}{m:SM}(h:SS G E X st m):SSs G E X [st] m :=
 let ⟨t,h1,h2⟩:=h
 ⟨_,pss_one h1,h2⟩
theorem Ai{st:Stmt}{rest:List Stmt}{m mr:SM}(h:SS G E X st m)(hr:SSs G E X rest mr):SSs G E X (st::rest) (Cz m mr) :=
 let ⟨t,h1,h2⟩:=h
 let ⟨u,h3,h4⟩:=hr
 ⟨_,pss_cons h1 h3,fun D σ z H p s rs me h=>by
  refine h2 _ σ z H p s rs me ?_
  unfold Cz at h
  cases e:m z s with
  |nx z1 s1 =>
   rw[e] at h
   intro p' H' σ' x m' r'
   exact h4 D σ' z1 H' p' s1 r' m' (Cr.ext x h)
  |rt w s1=>rw[e] at h;exact h
  |bk z1 s1=>rw[e] at h;exact h
  |ct z1 s1=>rw[e] at h;exact h
  |exn C fs z1 s1=>rw[e] at h;exact h
  |bad=>rw[e] at h;exact h⟩
theorem Vx{e:Expr}{m:EM}{pos:Pos}(he:SE G E X e m)(hs:swapsWith e none pos.line X.env=pure false:=by rfl):SS G E X (.Expr e pos) (Vz m) :=
 let ⟨t,h1,h2⟩:=he
 ⟨_,ps_expr h1 hs,fun D σ z H p s rs me h=>h2 σ z H p s _ rs me (Cr.go rs h fun w s1 _ p1 H1 x e1 m1 r1 h1=>h1.now m1 (rs.mono e1))⟩
theorem Cu{e:Expr}{m:EM}{pos:Pos}(he:SE G E X e m):SS G E X (.Return (some e) pos) (Ho m) :=
 let ⟨t,h1,h2⟩:=he
 ⟨_,ps_ret h1,fun D σ z H p s rs me h=>h2 σ z H p s _ rs me (Cr.go rs h fun w s1 _ p1 H1 x e1 m1 r1 h1=>h1 p1 H1 x Ext.refl m1 r1)⟩
theorem Kh{c:Expr}{a b:List Stmt}{mc:TM}{ma mb:SM}{pos:Pos}(hc:ST G E X c mc)(ha:SSs G E X a ma)(hb:SSs G E X b mb):SS G E X (.If c a b pos) (sIf mc ma mb) :=
 let ⟨tc,h1,h2⟩:=hc
 let ⟨ta,h3,h4⟩:=ha
 let ⟨tb,h5,h6⟩:=hb
 ⟨_,ps_if h1 h3 h5,fun D σ z H p s rs me h=>h2 σ z H p s _ rs me (Cr.go rs h fun w s1 _ p1 H1 x e1 m1 r1 h1=>by
  cases r1
  cases w with
  |true=>exact h4 D σ z H1 p1 s1 (rs.mono e1) m1 h1
  |false=>exact h6 D σ z H1 p1 s1 (rs.mono e1) m1 h1)⟩
theorem Fj(i:Nat){vs:List Nat}{x:Str}{pos:Pos}(hN:X.N.Nodup)(hv:i∈vs:=by decide)(hi:X.N[i]? = some x:=by rfl)(hx:Loc X.env.scope x:=by first|exact Or.inl rfl|exact Or.inr rfl)
  (hf:X.fn x=true∨X.env.scope.names.lookup x=some .local:=by first|exact .inl rfl|exact .inr rfl|assumption):SG G X (.Name x pos) (gNm i) vs :=
 ⟨_,pg_name hN hi hx hf,fun _ σ0 v w σ z H p s Q sb r rs m h=>h p H _ Ext.refl m ⟨Be.set (w:=some w) (v:=some v) r i rs,sb.trans (SameBut.set hv)⟩⟩
theorem Bt(i:Nat){x:Str}{e:Expr}{m:EM}{pos pos':Pos}(hN:X.N.Nodup)(he:SE G E X e m)(hi:X.N[i]? = some x:=by rfl)(hx:Loc X.env.scope x:=by first|exact Or.inl rfl|exact Or.inr rfl)(hs:swapsWith e (some (.Name x pos')) pos.line X.env=pure false:=by rfl)
  (hf:X.fn x=true∨X.env.scope.names.lookup x=some .local:=by first|exact .inl rfl|exact .inr rfl|assumption):SS G E X (.Assign [.Name x pos'] e pos) (Jm m (gNm i)):=by
 obtain⟨t,h2,h3⟩:=he
 refine⟨_,ps_set hN hi hx h2 hs hf,fun D σ z H p s rs me h=>h3 σ z H p s _ rs me (Cr.go rs h fun w s1 _ p1 H1 x e1 m1 r1 h1=>?_)⟩
 exact h1 p1 H1 _ Ext.refl m1 (Be.set (w:=some w) (v:=some x) r1 i (rs.mono e1))
end
end Fm
namespace Fm
open PySem L2
def R.noexn{α:Type}:R α→R α
 |.exn _ _ _=>.bad
 |r=>r
@[simp] theorem Xo{α:Type}(a:α)(s:Sto):(R.ok a s).noexn=.ok a s:=rfl
theorem Bf.noexn{α β:Type}{G:Gw}{rel:Pl→Hp→α→β→Prop}{p:Pl}{H:Hp}{Q:β→Hp→Prop}{E E':XK}:∀{r:R α},Bf G rel p H Q E r.noexn→Bf G rel p H Q E' r
 |.ok _ _,h=>h
 |.exn _ _ _,h=>h.elim
 |.bad,h=>h
structure ItW where
 xs:List W
 gd:Sto→Bool
abbrev IM:=Env0→Sto→R ItW
def Af7(G:Gw)(p0:Pl)(H0:Hp)(J:It)(w:ItW):Prop:=∀(i:Nat) (p:Pl) (H:Hp) (s:Sto),ExtF G p0 H0 p H→Emb G p s H→w.gd s=true →
 (i=w.xs.length→J.stop i H)∧∀u,w.xs[i]? = some u→J.go i H∧∀x H',J.yld i H x H'→Ext G p H p H'∧Emb G p s H'∧RelW G p H' u x
def Af8(G:Gw)(E:St→XK)(wi:TI)(m:IM):Prop:=∀(σ:St) (z:Env0) (H:Hp) (p:Pl) (s:Sto) (Q:It→Hp→Prop),Be G p H z σ→Emb G p s H→Bf G (fun p' H' w J=>Af7 G p' H' J w) p H Q (E σ) (m z s)→wi σ H Q
def SI(G:Gw)(E:St→XK)(X:Cx)(tg iter:Expr)(m:IM):Prop:=∃wi,PI X tg iter wi∧Af8 G E wi m
def forLoop(g:GM)(b:SM)(gd:Sto→Bool):List W→Env0→Sto→SR
 | [],z,s=>if gd s=true then .nx z s else .bad
 |x::xs,z,s=>if gd s=true then(g x z s).go z fun z1 s1=>match b z1 s1 with
  |.nx z2 s2=>forLoop g b gd xs z2 s2
  |.ct z2 s2=>forLoop g b gd xs z2 s2
  |.bk z2 s2=>.nx z2 s2
  |r=>r else .bad
def Abn(it:IM)(g:GM)(b:SM):SM:=fun z s=>(it z s).go z fun w s1=>forLoop g b w.gd w.xs z s1
def Ib(g:GM)(t:TM)(e:EM)(gd:Sto→Bool)(D:Nat)(z:Env0):List W→Sto→R Unit
 | [],s=>if gd s=true then .ok () s else .bad
 |x::xs,s=>if gd s=true then(g x z s).bind fun z1 s1=>(t z1 s1).noexn.bind fun c s2=>if c=true then(e z1 s2).noexn.bind fun w s3=>(match s3.get D with
   |some (.lst acc)=>if acc.length<sizeLine then Ib g t e gd D z xs (s3.set D (.lst (acc++[w]))) else .bad
   |_=>.bad) else Ib g t e gd D z xs s2 else .bad
def eLc(it:IM)(g:GM)(t:TM)(e:EM)(vs:List Nat):EM:=fun z s=>(it z s).bind fun w s1=>(Ib g t e w.gd s1.next (Cv z vs) w.xs (s1.new (.lst []))).bind fun _ s2=>.ok (.ref s1.next) s2
def Gh:TM:=fun _ s=>.ok true s
section
variable {G:Gw} {E:St→XK} {X:Cx}
theorem Tv{tg iter:Expr}{body:List Stmt}{mi:IM}{g:GM}{vs:List Nat}{mb:SM}{pos:Pos}(hp:PassesOwn (model X.prog X.w) X.A X.env X.xe)(hc:X.calm=true)(hi:SI G E X tg iter mi)(hg:SG G X tg g vs)(hb:SSs G E X body mb)
  (hs:∀x,foldedSetIterable iter X.env x=pure x:=by intro _;rfl):SS G E X (.For tg iter body [] pos) (Abn mi g mb):=by
 obtain⟨wi,h1,h2⟩:=hi
 obtain⟨tg',h3,h4⟩:=hg
 obtain⟨tb,h5,h6⟩:=hb
 refine⟨_,ps_for hp hc h1 h3 h5 hs,fun D σ z H p s rs me h=>?_⟩
 refine h2 σ z H p s _ rs me (Cr.go rs h fun w s1 _ p1 H1 J e1 m1 ok h1=>?_)
 refine⟨fun i m σ' H'=>m=w.xs.length - i∧i≤w.xs.length∧∃z' p' s',Ext G p1 H1 p' H'∧Be G p' H' z' σ'∧Emb G p' s' H'∧Cr G p' H' D E (forLoop g mb w.gd (w.xs.drop i) z' s'),
  ⟨w.xs.length,by simp,Nat.zero_le _,z,p1,s1,Ext.refl,rs.mono e1,m1,by simpa using h1⟩,?_⟩
 rintro i m σ' H' ⟨rfl,hi,z',p',s',x',r',m',q'⟩
 by_cases hlt:i<w.xs.length
 ·have hd:w.xs.drop i=w.xs[i]::w.xs.drop (i+1):=List.drop_eq_getElem_cons hlt
  rw[hd] at q'
  unfold forLoop at q'
  by_cases hgd:w.gd s'=true
  ·rw[if_pos hgd] at q'
   obtain⟨_,go⟩:=ok i p' H' s' x'.toF m' hgd
   obtain⟨go1,go2⟩:=go _ (List.getElem?_eq_getElem hlt)
   refine .inr ⟨go1,fun σ2 H2=>∃z2 p2 s2,Ext G p1 H1 p2 H2∧Be G p2 H2 z2 σ2∧Emb G p2 s2 H2∧Cr G p2 H2 D E (forLoop g mb w.gd (w.xs.drop (i+1)) z2 s2),fun σ2 H2 ⟨z2,p2,s2,a,b,c,d⟩=>⟨w.xs.length - (i+1),by omega,rfl,hlt,z2,p2,s2,a,b,c,d⟩,fun x H2 y=>?_⟩
   obtain⟨xa,ma,ra⟩:=go2 x H2 y
   refine h4 (E σ') σ' x _ σ' z' H2 p' s' _ SameBut.refl ra (r'.mono xa) ma (Cr.go (r'.mono xa) (Cr.ext xa q') fun z3 s3 _ p3 H3 σ3 e3 m3 r3 h3=>?_)
   refine h6 _ σ3 z3 H3 p3 s3 r3.1 m3 ?_
   have x3:Ext G p1 H1 p3 H3:=(x'.trans xa).trans e3
   cases e:mb z3 s3 with
   |nx z4 s4=>rw[e] at h3;exact fun p4 H4 σ4 e4 m4 r4=>⟨z4,p4,s4,x3.trans e4,r4,m4,Cr.ext e4 h3⟩
   |ct z4 s4=>rw[e] at h3;exact fun p4 H4 σ4 e4 m4 r4=>⟨z4,p4,s4,x3.trans e4,r4,m4,Cr.ext e4 h3⟩
   |bk z4 s4=>rw[e] at h3;exact h3
   |rt w4 s4=>rw[e] at h3;exact h3
   |exn C fs z4 s4=>rw[e] at h3;exact h3
   |bad=>rw[e] at h3;exact h3
  ·rw[if_neg hgd] at q';exact q'.elim
 ·have e:i=w.xs.length:=by omega
  subst e
  rw[List.drop_length] at q'
  unfold forLoop at q'
  by_cases hgd:w.gd s'=true
  ·rw[if_pos hgd] at q'
   exact .inl ⟨(ok _ p' H' s' x'.toF m' hgd).1 rfl,q'.now m' r'⟩
  ·rw[if_neg hgd] at q';exact q'.elim
open Classical in
noncomputable def Wf(i:Nat)(ws:List W):Sto→Bool:=fun s=>decide (s.get i=some (.lst ws))
@[simp] theorem N8{i:Nat}{ws:List W}{s:Sto}:Wf i ws s=true↔s.get i=some (.lst ws):=by unfold Wf;simp
noncomputable def AeY(w:W)(s:Sto):R ItW:=match w with
 |.ref i=>(match s.get i with
  |some (.lst ws)=>.ok ⟨ws,Wf i ws⟩ s
  |_=>.bad)
 |.lst ws=>.ok ⟨ws,fun _=>true⟩ s
 |_=>.bad
noncomputable def Ae7(m:EM):IM:=fun z s=>(m z s).bind AeY
def AbA(lo:Int)(n:Nat):List W:=(List.range n).map fun i=>.int (lo+(i:Nat))
def AdZ(j:Int):Prop:=-(2 ^ 62)≤j∧j<2 ^ 62
theorem Np{j:Int}(h0:-1000000000≤j)(h1:j<1000000000):AdZ j:=⟨Int.le_trans (by decide) h0,Int.lt_of_lt_of_le h1 (by decide)⟩
open Classical in
noncomputable def Xv(ws:List W)(s:Sto):R ItW:=match ws with
 | [.int j]=>if AdZ j then .ok ⟨AbA 0 j.toNat,fun _=>true⟩ s else .bad
 |_=>.bad
noncomputable def iRng1(as:AM):IM:=fun z s=>(as z s).bind Xv
theorem AdS{tg l:Expr}{m:EM}(hl:SE G E X l m)(hK:X.K=G.K:=by rfl):SI G E X tg l (Ae7 m):=by
 obtain⟨t,h1,h2⟩:=hl
 refine⟨_,pi_list h1,fun σ z H p s Q rs me h=>h2 σ z H p s _ rs me (Bf.bind h fun w s1 _ p1 H1 x e1 m1 r1 h1=>?_)⟩
 rw[hK]
 cases r1 with
 | @ref i a ha =>
  simp only[AeY] at h1
  split at h1
  ·rename_i ws hs
   obtain⟨vs,h3,h4⟩:=m1.of hs ha
   refine⟨a,rfl,⟨vs,SqL.of h3⟩,h1.now m1 fun j p2 H2 s2 x2 m2 g2=>?_⟩
   have g2':s2.get i=some (.lst ws):=N8.mp g2
   obtain⟨us,h5,h6⟩:=m2.of g2' (x2.get _ _ ha)
   refine⟨fun e=>⟨us,SqL.of h5,by rw[h6.length,e];exact Nat.le_refl _⟩,fun u hu=>?_⟩
   obtain⟨v,h7,h8⟩:=h6.get hu
   refine⟨⟨us,v,SqL.of h5,h7⟩,fun y H' hy=>?_⟩
   obtain⟨rfl,hy⟩:=hy
   have:=hy us (SqL.of h5)
   rw[h7] at this;cases this
   exact⟨Ext.refl,m2,h8⟩
  ·exact h1.elim
 | @lst a ws vs hf h3 h4 =>
  refine⟨a,rfl,⟨vs,SqL.of h3⟩,h1.now m1 fun j p2 H2 s2 x2 m2 g2=>?_⟩
  have h5:=x2.keep _ _ h3 hf
  have h6:=h4.monoR x2.toExtR
  refine⟨fun e=>⟨vs,SqL.of h5,by rw[h6.length,e];exact Nat.le_refl _⟩,fun u hu=>?_⟩
  obtain⟨v,h7,h8⟩:=h6.get hu
  refine⟨⟨vs,v,SqL.of h5,h7⟩,fun y H' hy=>?_⟩
  obtain⟨rfl,hy⟩:=hy
  have:=hy vs (SqL.of h5)
  rw[h7] at this;cases this
  exact⟨Ext.refl,m2,h8⟩
 |_=>exact h1.elim
theorem Ae4{p:Pl}{H:Hp}(lo:Int)(n:Nat):Af7 G p H (Itr lo n) ⟨AbA lo n,fun _=>true⟩:=by
 intro i p2 H2 s2 x2 m2 _
 refine⟨fun e=>?_,fun u hu=>?_⟩
 ·have e':i=n:=by simpa [AbA] using e
  show n≤i
  omega
 ·have hu':i<n∧W.int (lo+(i:Nat))=u:=by
   simp only[AbA,List.getElem?_map] at hu
   by_cases hl:i<n
   ·rw[List.getElem?_range hl] at hu
    exact⟨hl,by simpa using hu⟩
   ·rw[List.getElem?_eq_none_iff.mpr (by simp;omega)] at hu;cases hu
  obtain⟨hl,rfl⟩:=hu'
  refine⟨hl,fun x H' hx=>?_⟩
  obtain⟨rfl,rfl⟩:=hx
  exact⟨Ext.refl,m2,.int _⟩
theorem Im{tg a:Expr}{ma:AM}{p0 pos:Pos}(hg:Gl X "range")(hm:X.mg "range" = none)(ha:SA G E X [a] ma)(hs:starEach [a] X.env=[(false,eval a X.env)]:=by rfl):SI G E X tg (.Call (.Name "range" p0) [a] [] pos) (iRng1 ma):=by
 obtain⟨t,h1,h2⟩:=ha
 refine⟨_,pi_range1 hg hm h1 hs,fun σ z H p s Q rs me h=>h2 σ z H p s _ rs me (Bf.bind h fun ws s1 _ p1 H1 xs e1 m1 r1 h1=>?_)⟩
 cases r1 with
 |nil=>exact h1.elim
 |cons ra rb =>
  cases rb with
  |cons _ _=>cases ra<;>exact h1.elim
  |nil =>
   cases ra with
   |int j =>
    simp only[Xv] at h1
    split at h1
    ·rename_i hj
     exact⟨j,rfl,hj.1,hj.2,h1.now m1 (Ae4 0 _)⟩
    ·exact h1.elim
   |_=>exact h1.elim
theorem Gq.lc{wi:TI}{mi:IM}{tg':TG}{g:GM}{tt:TT}{mt:TM}{te:TE}{me:EM}{vs:List Nat}{E':St→XK}(hi:Af8 G E wi mi)(hg:Af9 G tg' g vs)(ht:Abq G E' tt mt)(he:Gq G E' te me):Gq G E (tLc wi tg' tt te vs) (eLc mi g mt me vs):=by
 intro σ z H p s Q rs m h
 refine hi σ z H p s _ rs m (Bf.bind h fun w s1 _ p1 H1 J e1 m1 ok h1=>?_)
 intro D hn
 have xD:Ext G p1 H1 (p1.add D) (upd H1 D (.lst [])):=Ext.laid hn
 have gD:(p1.add D).l[s1.next]? = some D:=m1.newAt
 have h2:=Bf.ext xD h1
 refine⟨fun i k H'=>k=w.xs.length - i∧i≤w.xs.length∧∃p' s',Ext G (p1.add D) (upd H1 D (.lst [])) p' H'∧Emb G p' s' H'∧Bf G (RelW G) p' H' Q (E σ) ((Ib g mt me w.gd s1.next (Cv z vs) (w.xs.drop i) s').bind fun _ s2=>.ok (.ref s1.next) s2),
  ⟨w.xs.length,by simp,Nat.zero_le _,p1.add D,_,Ext.refl,m1.new (o:=.lst []) hn ⟨[],upd_same,.nil⟩,by simpa using h2⟩,?_⟩
 rintro i k H' ⟨rfl,hi,p',s',x',m',q'⟩
 have x1:Ext G p1 H1 p' H':=xD.trans x'
 have rs':Be G p' H' z σ:=rs.mono (e1.trans x1)
 by_cases hlt:i<w.xs.length
 ·have hd:w.xs.drop i=w.xs[i]::w.xs.drop (i+1):=List.drop_eq_getElem_cons hlt
  rw[hd] at q'
  unfold Ib at q'
  by_cases hgd:w.gd s'=true
  ·rw[if_pos hgd] at q'
   obtain⟨_,go⟩:=ok i p' H' s' x1.toF m' hgd
   obtain⟨go1,go2⟩:=go _ (List.getElem?_eq_getElem hlt)
   refine .inr ⟨go1,fun H2=>∃p2 s2,Ext G (p1.add D) (upd H1 D (.lst [])) p2 H2∧Emb G p2 s2 H2∧Bf G (RelW G) p2 H2 Q (E σ) ((Ib g mt me w.gd s1.next (Cv z vs) (w.xs.drop (i+1)) s2).bind fun _ s2=>.ok (.ref s1.next) s2),
    fun H2 ⟨p2,s2,a,b,c⟩=>⟨w.xs.length - (i+1),by omega,rfl,hlt,p2,s2,a,b,c⟩,fun x H2 y=>?_⟩
   obtain⟨xa,ma,ra⟩:=go2 x H2 y
   have q2:=Bf.ext xa q'
   have assoc:∀{α β γ:Type} (r:R α) (f:α→Sto→R β) (k:β→Sto→R γ),(r.bind f).bind k=r.bind fun a s=>(f a s).bind k:=by
    intro α β γ r f k;cases r<;>rfl
   rw[assoc] at q2
   refine hg (E σ) (wipe σ vs) x _ (wipe σ vs) (Cv z vs) H2 p' s' _ SameBut.refl ra ((rs'.mono xa).wipe vs) ma (Bf.bind q2 fun z1 s2 _ p2 H3 σ2 e2 m2 r2 h3=>?_)
   refine⟨Td r2.2,?_⟩
   rw[assoc] at h3
   refine ht σ2 z1 H3 p2 s2 _ r2.1 m2 (Bf.noexn (E:=E σ) (Bf.bind h3 fun c s3 _ p3 H4 b e3 m3 rb h4=>?_))
   cases rb
   have x3:=((x'.trans xa).trans e2).trans e3
   cases c with
   |true =>
    simp only[if_true] at h4 ⊢
    rw[assoc] at h4
    refine he σ2 z1 H4 p3 s3 _ (r2.1.mono e3) m3 (Bf.noexn (E:=E σ) (Bf.bind h4 fun u s4 _ p4 H5 v e4 m4 r4 h5=>?_))
    split at h5
    ·rename_i acc hacc
     obtain⟨va,h6,h7⟩:=m4.of hacc ((x3.trans e4).get gD)
     by_cases hz:acc.length<sizeLine
     ·rw[if_pos hz] at h5
      have xw:Ext G p4 H5 p4 (upd H5 D (.lst (va++[v]))):=Ext.wrote m4 hacc ((x3.trans e4).get gD) h6 trivial
      exact⟨va,h6,by rw[h7.length];exact hz,p4,_,(x3.trans e4).trans xw,m4.write (o:=.lst (acc++[u])) hacc ((x3.trans e4).get gD) h6 trivial ⟨_,upd_same,(h7.append (.one r4)).mono xw⟩,Bf.ext xw h5⟩
     ·rw[if_neg hz] at h5;exact h5.elim
    ·exact h5.elim
   |false =>
    simp only[Bool.false_eq_true,if_false] at h4 ⊢
    exact⟨p3,s3,x3,m3,h4⟩
  ·rw[if_neg hgd] at q';exact q'.elim
 ·have e:i=w.xs.length:=by omega
  subst e
  rw[List.drop_length] at q'
  unfold Ib at q'
  by_cases hgd:w.gd s'=true
  ·rw[if_pos hgd] at q'
   exact .inl ⟨(ok _ p' H' s' x1.toF m' hgd).1 rfl,q'.now m' (.ref (x'.get gD))⟩
  ·rw[if_neg hgd] at q';exact q'.elim
def STs(G:Gw)(E:St→XK)(X:Cx)(es:List Expr)(m:TM):Prop:=∃t,PTs X es t∧Abq G E t m
theorem Qz:STs G E X [] Gh:=⟨_,pts_nil,fun σ z H p s Q rs m h=>h.now m rfl⟩
theorem AcJ{c:Expr}{m:TM}(h:ST G E X c m):STs G E X [c] m :=
 let ⟨t,h1,h2⟩:=h
 ⟨_,pts_one h1,h2⟩
def AeL(G:Gw)(E:St→XK)(m:EM):TE:=fun σ H Q=>∃z p s,Be G p H z σ∧Emb G p s H∧Bf G (RelW G) p H Q (E σ) (m z s)
def AeI(G:Gw)(E:St→XK)(m:TM):TT:=fun σ H Q=>∃z p s,Be G p H z σ∧Emb G p s H∧Bf G relB p H Q (E σ) (m z s)
def AeK(G:Gw)(g:GM)(vs:List Nat):TG:=fun v σ H Q=>∃E σ0 w z p s,SameBut vs σ0 σ∧RelW G p H w v∧Be G p H z σ∧Emb G p s H∧Bf G (AfN G vs σ0) p H Q E (g w z s)
theorem SE.canon{e:Expr}{m:EM}(h:SE G E X e m):PE X e (AeL G E m):=by
 obtain⟨t,h1,h2⟩:=h
 exact⟨fun pins s σ H Q I ⟨z,p,s',rs,me,q⟩=>h1.run pins s σ H Q I (h2 σ z H p s' Q rs me q)⟩
theorem STs.canon{es:List Expr}{m:TM}(h:STs G E X es m):PTs X es (AeI G E m):=by
 obtain⟨t,h1,h2⟩:=h
 exact⟨fun pins s σ H Q I ⟨z,p,s',rs,me,q⟩=>h1.run pins s σ H Q I (h2 σ z H p s' Q rs me q)⟩
theorem SG.canon{e:Expr}{g:GM}{vs:List Nat}(h:SG G X e g vs):PG X e (AeK G g vs):=by
 obtain⟨t,h1,h2⟩:=h
 exact⟨fun pins s σ H v u Q I r ⟨E,σ0,w,z,p,s',sb,rw',rs,me,q⟩=>h1.run pins s σ H v u Q I r (h2 E σ0 v w σ z H p s' Q sb rw' rs me q)⟩
theorem Afp{elt tg iter:Expr}{ifs:List Expr}{scope:Scope}{pos:Pos}{mi:IM}{g:GM}{mt:TM}{me:EM}(own:List (Str×Nat))(hc:X.calm=true)(hN:X.N.Nodup)(hi:SI G E X tg iter mi)(ok:BlkOk X.N X.env.scope scope own)
  (hg:∀(s:Shared) (H:Hp) (C:Addr) (cl:List (Str×Addr)) (fp:List Addr),SG G (X.blk s H scope (compEnvC scope cl C X.env) fp) tg g (own.map (·.2)))
  (ht:∀(s:Shared) (H:Hp) (C:Addr) (cl:List (Str×Addr)) (fp:List Addr),STs G (fun _=>E0) (X.blk s H scope (compEnvC scope cl C X.env) fp) ifs mt)
  (he:∀(s:Shared) (H:Hp) (C:Addr) (cl:List (Str×Addr)) (fp:List Addr),SE G (fun _=>E0) (X.blk s H scope (compEnvC scope cl C X.env) fp) elt me) (hs:∀x,foldedSetIterable iter X.env x=pure x:=by intro _;rfl) :
  SE G E X (.ListComp elt [⟨tg,iter,ifs,0⟩] scope pos) (eLc mi g mt me (own.map (·.2))):=by
 obtain⟨wi,h1,h2⟩:=hi
 refine⟨_,pe_lc hc hN h1 ok (fun s H C cl fp=>(hg s H C cl fp).canon) (fun s H C cl fp=>(ht s H C cl fp).canon) (fun s H C cl fp=>(he s H C cl fp).canon) hs,?_⟩
 exact Gq.lc (E':=fun _=>E0) h2 (fun Ee σ0 v w σ z H p s Q sb r rs m h=>⟨Ee,σ0,w,z,p,s,sb,r,rs,m,h⟩) (fun σ z H p s Q rs m h=>⟨z,p,s,rs,m,h⟩) (fun σ z H p s Q rs m h=>⟨z,p,s,rs,m,h⟩)
def Jg(n:Nat)(ws:List W):Env0:=ws.map some++List.replicate (n - ws.length) none
def SR.out0:SR→R W
 |.rt w s=>.ok w s
 |.nx _ s=>.ok .non s
 |_=>.bad
def Ip(n np:Nat)(b:SM):List W→Sto→R W:=fun ws s=>if ws.length=np then(b (Jg n ws) s).out0 else .bad
theorem Pk{p:Pl}{H:Hp}(N:List Str){ws:List W}{vs:List V}(r:RelWs G p H ws vs):Be G p H (Jg N.length ws) (L2.start N vs):=by
 unfold Jg L2.start
 rw[r.length]
 have a:∀{ws:List W} {vs:List V},RelWs G p H ws vs→Be G p H (ws.map some) (vs.map some):=by
  intro ws vs r
  induction ws generalizing vs with
  |nil=>cases r;exact .nil
  |cons w ws ih=>cases r with|cons h t=>exact .cons h (ih t)
 have b:∀n,Be G p H (List.replicate n none) (List.replicate n none):=by
  intro n
  induction n with
  |zero=>exact .nil
  |succ n ih=>exact .cons trivial ih
 have c:∀{z1:Env0} {σ1:St} {z2:Env0} {σ2:St},Be G p H z1 σ1→Be G p H z2 σ2→Be G p H (z1++z2) (σ1++σ2):=by
  intro z1 σ1 z2 σ2 h1 h2
  induction h1 with
  |nil=>exact h2
  |cons h t ih=>exact .cons h ih
 exact c (a r) (b _)
theorem fn_ok{P:Program}{w:World}{mg:Str→Option Value}{base:Heap}{N ps:List Str}{x qual:Str}{st:Stmt}{f:Addr}{fd:FuncData}{k:Nat}{b:SM}(F:Fun G.K x qual st f fd)(S:FnScope N ps (defScope st))
  (h:∀(cdv:Value) (A:Around) (outer:List Env) (s:Shared) (H:Hp) (E:XK),Room k (A.deeper (PyProof.Rows.envOfC qual (defScope st) s.heap.objs.size f cdv))→SSs G (fun _=>E0) (cxOf CX0 P w G.K mg base N qual (defScope st) f cdv A outer s H E).nox (defBody st) b) :
  FnOk P w G.K mg base CX0 (k+1) f fd ps (spM G (Ip N.length ps.length b)):=by
 have sp':FnOk P w G.K mg base CX0 (k+1) f fd ps (fun vs H Q E=>vs.length=ps.length∧spM G (Ip N.length ps.length b) vs H Q E):=by
  refine F.ok S (fun vs H Q E q=>q.1) fun cdv A outer s H vs Q E hr q=>?_
  obtain⟨hl,p,s',ws,m,r,q⟩:=q
  obtain⟨t,h1,h2⟩:=h cdv A outer s H E hr
  refine⟨t,h1,h2 _ _ _ H p s' (Pk N r) m ?_⟩
  have hl':ws.length=ps.length:=by rw[←r.length];exact hl
  unfold Ip at q
  rw[if_pos hl'] at q
  cases e:b (Jg N.length ws) s' with
  |rt w1 s1=>rw[e] at q;exact q
  |nx z1 s1=>rw[e] at q;exact fun p' H' σ' x m r=>q p' H' _ x m .non
  |bk _ _=>rw[e] at q;exact q.elim
  |ct _ _=>rw[e] at q;exact q.elim
  |exn _ _ _ _=>rw[e] at q;exact q.elim
  |bad=>rw[e] at q;exact q.elim
 refine sp'.imp fun vs H Q E q=>⟨?_,q⟩
 obtain⟨p,s',ws,m,r,q⟩:=q
 by_cases e:ws.length=ps.length
 ·rw[r.length];exact e
 ·unfold Ip at q;rw[if_neg e] at q;exact q.elim
structure FnM(G:Gw)(P:Program)(w:World)(mg:Str→Option Value)(base:Heap)(CX:CXT)(k:Nat)(n:String)(m:List W→Sto→R W):Prop where
 ex:∃fd ps,FnOk P w G.K mg base CX k (G.at_ n) fd ps (spM G m)∧mg (Str.ofString n)=some (.ref (G.at_ n))∧PySem.W.keepIn G.K (.ref (G.at_ n))=true∧Binds G.K fd ps []
structure MtMo(G:Gw)(P:Program)(w:World)(mg:Str→Option Value)(base:Heap)(CX:CXT)(k:Nat)(C:String)(x:Str)(m:List W→Sto→R W):Prop where
 cl:Cls G.K (G.at_ C)
 ex:∃f fd ps,FnOk P w G.K mg base CX k f fd ps (spM G m)∧Meth G.K (G.at_ C) x f∧Binds G.K fd ps []
variable {CX:CXT} {k:Nat} {E1:XK} {mf:List W→Sto→R W}
theorem Bl{n:String}{e:Expr}{es:List Expr}{ma:AM}{p0 pos:Pos}(F:FnM G X.prog X.w X.mg X.base CX k n mf)(hr:Room k X.A)(hx:Passes CX X E1)(ha:SA G (fun _=>E1) X (e::es) ma)(hg:Gl X (Str.ofString n):=by rfl)(hK:X.K=G.K:=by rfl)
  (hdb:(Str.ofString n==("__debug__" : Str))=false:=by decide) (he:starEach (e::es) X.env=(false,eval e X.env)::starEach es X.env:=by rfl) (hpl:(backTo pos (starEach es X.env)).any (·.1)=false:=by rfl) :
  SE G (fun _=>E1) X (.Call (.Name (Str.ofString n) p0) (e::es) [] pos) (Aj mf ma):=by
 obtain⟨fd,ps,h1,h2,h3,h4⟩:=F.ex
 obtain⟨t,h5,h6⟩:=ha
 rw[←hK] at h1 h3 h4
 exact⟨_,pe_call h1 hr hg h2 h3 h4 .nil hx h5 hdb he hpl,fun σ z H p s Q rs m h=>h6 σ z H p s _ rs m (Bf.bind h fun ws s1 _ p1 H1 xs e1 m1 r1 h1=>⟨p1,s1,ws,m1,by rw[List.append_nil];exact r1,h1⟩)⟩
def Ae5(C f:String):W→Sto→R W:=fun w s=>match w with
 |.ref i=>(match s.get i with
  |some (.ins D fs)=>if D=C∧fs.lookup f=none then .ok w s else .bad
  |_=>.bad)
 |_=>.bad
def Af4(C f:String)(mf:List W→Sto→R W)(o:EM)(as:AM):EM:=fun z s=>(o z s).bind fun w s1=>(Ae5 C f w s1).bind fun w s2=>(as z s2).bind fun ws s3=>mf (w::ws) s3
def Aew(C:String)(mf:List W→Sto→R W):List W→Sto→R W:=fun ws s=>(mf (.ref s.next::ws) (s.new (.ins C []))).bind fun v s2=>match v with
 |.non=>.ok (.ref s.next) s2
 |_=>.bad
theorem Ak{id:String}{r:List V→Hp→VK→Prop}{g:List W→Sto→R W}{x:Str}{e:Expr}{es:List Expr}{ma:AM}{p0 pos:Pos}(hc:CallR X (.builtin id) r)(hp:O9 G r g)(hm:X.mg x=none)(hv:bootBuiltins x=some (.builtin id))(ha:SA G E X (e::es) ma)(hg:Gl X x:=by rfl)(hn:x ≠ "__name__" := by decide)(hdb:(x==("__debug__" : Str))=false:=by decide)
  (he:starEach (e::es) X.env=(false,eval e X.env)::starEach es X.env:=by rfl) (hpl:(backTo pos (starEach es X.env)).any (·.1)=false:=by rfl):SE G E X (.Call (.Name x p0) (e::es) [] pos) (Aj g ma):=by
 obtain⟨t,h1,h2⟩:=ha
 exact⟨_,pe_callB hc hg hm hv h1 hn hdb he hpl,fun σ z H p s Q rs m h=>h2 σ z H p s _ rs m (Bf.bind h fun ws s1 _ p1 H1 xs e1 m1 r1 h1=>hp _ xs ws H1 p1 s1 Q r1 m1 h1)⟩
theorem Df{T:String}{r:List V→Hp→VK→Prop}{g:List W→Sto→R W}{x:Str}{e:Expr}{es:List Expr}{ma:AM}{p0 pos:Pos}(hc:CallR X (.type T) r)(hp:O9 G r g)(hm:X.mg x=none)(hv:bootBuiltins x=some (.type T))(ha:SA G E X (e::es) ma)(hg:Gl X x:=by rfl)(hn:x ≠ "__name__" := by decide)(hdb:(x==("__debug__" : Str))=false:=by decide)
  (he:starEach (e::es) X.env=(false,eval e X.env)::starEach es X.env:=by rfl) (hpl:(backTo pos (starEach es X.env)).any (·.1)=false:=by rfl):SE G E X (.Call (.Name x p0) (e::es) [] pos) (Aj g ma):=by
 obtain⟨t,h1,h2⟩:=ha
 exact⟨_,pe_callTy hc hg hm hv h1 hn hdb he hpl,fun σ z H p s Q rs m h=>h2 σ z H p s _ rs m (Bf.bind h fun ws s1 _ p1 H1 xs e1 m1 r1 h1=>hp _ xs ws H1 p1 s1 Q r1 m1 h1)⟩
def TyM(G:Gw)(T:String)(c:W→Sto→Bool):Prop:=∀(p:Pl) (H:Hp) (s:Sto) (w:W) (x:V),Emb G p s H→RelW G p H w x→c w s=true→tyV G.K T x H
def eBM(c:W→Sto→Bool)(g:W→List W→Sto→R W)(o:EM)(as:AM):EM:=fun z s=>(o z s).bind fun w s1=>if c w s1=true then(as z s1).bind fun ws s2=>g w ws s2 else .bad
theorem AcR{T id:String}{name:Str}{c:W→Sto→Bool}{r:V→List V→Hp→VK→Prop}{g:W→List W→Sto→R W}{o e:Expr}{es:List Expr}{mo:EM}{ma:AM}{apos cpos:Pos}(pa:PlainAttrs T)(slot:Slot T name id)(hty:typeOf (.builtin id)=pure (.type "method_descriptor"))(hm:MtR X id r)(hp:AeS G r g)(ht:TyM G T c)(ho:SE G E X o mo)(ha:SA G E X (e::es) ma)
  (hK:X.K=G.K:=by rfl) (hbase:attributeBase o name X.env (eval o X.env)=eval o X.env:=by rfl)
  (hfew:((backTo cpos (starEach (e::es) X.env)).all (fun x=>!x.1)&&(backToKw cpos (keywordEach [] X.env)).all (fun x=>x.1.isSome)
   && decide ((e::es).length+([]:List Keyword).length+(if ([]:List Keyword).isEmpty then 0 else 1)<30))=true:=by rfl)
  (hline:(apos.endLine==cpos.line)=true:=by rfl) (hs:starEach (e::es) X.env=(false,eval e X.env)::starEach es X.env:=by rfl) (hplain:(backTo cpos (starEach es X.env)).any (·.1)=false:=by rfl) :
  SE G E X (.Call (.Attribute o name apos) (e::es) [] cpos) (eBM c g mo ma):=by
 obtain⟨t,h1,h2⟩:=ho
 obtain⟨u,h3,h4⟩:=ha
 refine⟨_,pe_bm pa slot hty hm h1 h3 hbase hfew hline hs hplain,fun σ z H p s Q rs m h=>h2 σ z H p s _ rs m (Bf.bind h fun w s1 _ p1 H1 x e1 m1 r1 h1=>?_)⟩
 by_cases q:c w s1=true
 ·rw[if_pos q] at h1
  refine⟨by rw[hK];exact ht p1 H1 s1 w x m1 r1 q,h4 σ z H1 p1 s1 _ (rs.mono e1) m1 (Bf.bind h1 fun ws s2 _ p2 H2 xs e2 m2 r2 h2=>?_)⟩
  exact hp _ x w xs ws H2 p2 s2 Q (r1.mono e2) r2 m2 h2
 ·rw[if_neg q] at h1;exact h1.elim
theorem Ce{r:R2}{g:W→W→Sto→R W}{a b:Expr}{ma mb:EM}{pos:Pos}(hr:IxR X r)(hp:Bx G r g)(ha:SE G E X a ma)(hb:SE G E X b mb)(hs:PlainIx b:=by intro _ _;rfl):SE G E X (.Subscript a b pos) (eOp g ma mb):=by
 obtain⟨t,h1,h2⟩:=ha
 obtain⟨u,h3,h4⟩:=hb
 exact⟨_,pe_ix hr h1 h3 hs,Gq.op hp h2 h4⟩
abbrev OM:=Env0→Sto→R (Option Int)
def oNo:OM:=fun _ s=>.ok none s
def oAt(m:EM):OM:=fun z s=>(m z s).bind fun w s1=>match w with
 |.int i=>.ok (some i) s1
 |_=>.bad
def Ag4(G:Gw)(E:St→XK)(t:TO)(m:OM):Prop:=∀(σ:St) (z:Env0) (H:Hp) (p:Pl) (s:Sto) (Q:Option Int→Hp→Prop),Be G p H z σ→Emb G p s H→Bf G (fun _ _ a b=>a=b) p H Q (E σ) (m z s)→t σ H Q
def SO'(G:Gw)(E:St→XK)(X:Cx)(e:Option Expr)(m:OM):Prop:=∃t,PO X e t∧Ag4 G E t m
theorem Aag:SO' G E X none oNo:=⟨_,po_none,fun σ z H p s Q rs m h=>h.now m rfl⟩
theorem Aaf{e:Expr}{m:EM}(h:SE G E X e m):SO' G E X (some e) (oAt m):=by
 obtain⟨t,h1,h2⟩:=h
 refine⟨_,po_some h1,fun σ z H p s Q rs me h=>h2 σ z H p s _ rs me (Bf.bind h fun w s1 _ p1 H1 x e1 m1 r1 h1=>?_)⟩
 cases r1 with
 |int i=>exact⟨i,rfl,h1.now m1 rfl⟩
 |_=>exact h1.elim
def Ad7(G:Gw)(r:V→Option Int→Option Int→Hp→VK→Prop)(g:W→Option Int→Option Int→Sto→R W):Prop:=∀(E:XK) (x:V) (w:W) (lo hi:Option Int) (H:Hp) (p:Pl) (s:Sto) (Q:VK),RelW G p H w x→Emb G p s H→Bf G (RelW G) p H Q E (g w lo hi s)→r x lo hi H Q
def eSl(g:W→Option Int→Option Int→Sto→R W)(a:EM)(lo hi:OM):EM:=fun z s=>(a z s).bind fun w s1=>(lo z s1).bind fun l s2=>(hi z s2).bind fun h s3=>g w l h s3
theorem Xd{r:V→Option Int→Option Int→Hp→VK→Prop}{g:W→Option Int→Option Int→Sto→R W}{e:Expr}{lo hi:Option Expr}{me:EM}{ml mh:OM}{p2 pos:Pos}(hr:SlR X r)(hp:Ad7 G r g)(he:SE G E X e me)(hl:SO' G E X lo ml)(hh:SO' G E X hi mh):SE G E X (.Subscript e (.Slice lo hi none p2) pos) (eSl g me ml mh):=by
 obtain⟨t,h1,h2⟩:=he
 obtain⟨u,h3,h4⟩:=hl
 obtain⟨v,h5,h6⟩:=hh
 exact⟨_,pe_slice hr h1 h3 h5,fun σ z H p s Q rs m h=>h2 σ z H p s _ rs m (Bf.bind h fun w s1 _ p1 H1 x e1 m1 r1 h1 =>
  h4 σ z H1 p1 s1 _ (rs.mono e1) m1 (Bf.bind h1 fun l s2 _ p2 H2 l' e2 m2 r2 h2=>h6 σ z H2 p2 s2 _ ((rs.mono e1).mono e2) m2 (Bf.bind h2 fun k s3 _ p3 H3 k' e3 m3 r3 h3=>by
   cases r2;cases r3
   exact hp _ x w l k H3 p3 s3 Q ((r1.mono e2).mono e3) m3 h3)))⟩
end
end Fm
namespace Fm
open PySem L2
section
variable {G:Gw} {X:Cx}
def pI(g:Int→Int→W):W→W→Sto→R W:=fun w u s=>match w,u with
 |.int i,.int j=>.ok (g i j) s
 |_,_=>.bad
open Classical in
noncomputable def pIc(C:Int→Int→Prop)(g:Int→Int→W):W→W→Sto→R W:=fun w u s=>match w,u with
 |.int i,.int j=>if C i j then .ok (g i j) s else .bad
 |_,_=>.bad
theorem Aas{g:Int→Int→V}{g':Int→Int→W}(h:∀p H i j,RelW G p H (g' i j) (g i j)):Bx G (rI0 g) (pI g'):=by
 intro E x y w u H p s Q r1 r2 m h1
 cases r1 with
 |int i=>cases r2 with
  |int j=>exact⟨i,j,rfl,rfl,h1.now m (h _ _ _ _)⟩
  |_=>exact h1.elim
 |_=>exact h1.elim
theorem AeU{C:Int→Int→Prop}{g:Int→Int→V}{g':Int→Int→W}(h:∀p H i j,RelW G p H (g' i j) (g i j)):Bx G (rI C g) (pIc C g'):=by
 intro E x y w u H p s Q r1 r2 m h1
 cases r1 with
 |int i=>cases r2 with
  |int j =>
   simp only[pIc] at h1
   split at h1
   ·rename_i hc
    exact⟨i,j,rfl,rfl,hc,h1.now m (h _ _ _ _)⟩
   ·exact h1.elim
  |_=>exact h1.elim
 |_=>exact h1.elim
def Agp:=pI fun i j=>.int (i - j)
noncomputable def AbH:=pIc CMul fun i j=>.int (i*j)
noncomputable def Aax:=pIc CDiv fun i j=>.int (i / j)
noncomputable def Aav:=pIc (fun _ j=>0<j) fun i j=>.int (i % j)
noncomputable def Acx:=pIc CPow fun i j=>.int (i ^ j.toNat)
def pLt:=pI fun i j=>.bl (decide (i<j))
def pLe:=pI fun i j=>.bl (decide (i≤j))
def pGt:=pI fun i j=>.bl (decide (j<i))
def pGe:=pI fun i j=>.bl (decide (j≤i))
theorem Qg:Bx G (rI CMul fun i j=>.int (i*j)) AbH:=AeU fun _ _ _ _=>.int _
theorem Aar:Bx G (rI CDiv fun i j=>.int (i / j)) Aax:=AeU fun _ _ _ _=>.int _
theorem Lk:Bx G (rI (fun _ j=>0<j) fun i j=>.int (i % j)) Aav:=AeU fun _ _ _ _=>.int _
theorem Acr:Bx G (rI CPow fun i j=>.int (i ^ j.toNat)) Acx:=AeU fun _ _ _ _=>.int _
theorem Aap:Bx G (rI0 fun i j=>.bl (decide (i<j))) pLt:=Aas fun _ _ _ _=>.bl _
theorem AbD:Bx G (rI0 fun i j=>.bl (decide (i≤j))) pLe:=Aas fun _ _ _ _=>.bl _
theorem Aek:Bx G (rI0 fun i j=>.bl (decide (j<i))) pGt:=Aas fun _ _ _ _=>.bl _
theorem Afx:Bx G (rI0 fun i j=>.bl (decide (j≤i))) pGe:=Aas fun _ _ _ _=>.bl _
def AeW:W→Sto→R W:=fun w s=>match w with
 |.int i=>.ok (.int (-i)) s
 |_=>.bad
theorem Acs:Ach G (rU fun i=>.int (-i)) AeW:=by
 intro E x w H p s Q r1 m h1
 cases r1 with
 |int i=>exact⟨i,rfl,h1.now m (.int _)⟩
 |_=>exact h1.elim
def Hq:W→W→Sto→R W:=fun w u s=>match w,u with
 |.int i,.int j=>.ok (.int (i+j)) s
 |.str a,.str b=>if a.length+b.length≤sizeLine then .ok (.str (a++b)) s else .bad
 |.ref a,.ref b=>(match s.get a,s.get b with
  |some (.lst xs),some (.lst ys)=>if xs.length+ys.length≤sizeLine then .ok (.ref s.next) (s.new (.lst (xs++ys))) else .bad
  |_,_=>.bad)
 |.tup xs,.tup ys=>if xs.length+ys.length≤sizeLine then .ok (.tup (xs++ys)) s else .bad
 |.lst xs,.lst ys=>if xs.length+ys.length≤sizeLine then .ok (.lst (xs++ys)) s else .bad
 |.lst xs,.ref b=>(match s.get b with
  |some (.lst ys)=>if xs.length+ys.length≤sizeLine then .ok (.lst (xs++ys)) s else .bad
  |_=>.bad)
 |.ref a,.lst ys=>(match s.get a with
  |some (.lst xs)=>if xs.length+ys.length≤sizeLine then .ok (.lst (xs++ys)) s else .bad
  |_=>.bad)
 |_,_=>.bad
def Aeh(K:PySem.W.Frag):R2:=fun x y H Q=>rI0 (fun i j=>.int (i+j)) x y H Q∨((∃i j,x=.str i∧y=.str j∧i.length+j.length≤sizeLine∧Q (.str (i++j)) H)∨(rCat x y H Q∨rCatA K x y H Q))
theorem Dc:OpR X (binaryOp .Add) (Aeh X.K):=op_add.or (op_add_str.or (op_cat.or op_catA))
theorem Jo{p:Pl}{H:Hp}{ws:List W}{vs:List V}(r:RelWs G p H ws vs):vs=[]↔ws=[]:=by
 cases r with
 |nil=>simp
 |cons _ _=>simp
theorem Eu:Bx G (Aeh G.K) Hq:=by
 intro E x y w u H p s Q r1 r2 m h1
 cases r1 with
 |int i=>cases r2 with
  |int j=>exact .inl ⟨i,j,rfl,rfl,h1.now m (.int _)⟩
  |_=>exact h1.elim
 |str a=>cases r2 with
  |str b =>
   simp only[Hq] at h1
   split at h1
   ·rename_i hz
    exact .inr (.inl ⟨a,b,rfl,rfl,hz,h1.now m (.str _)⟩)
   ·exact h1.elim
  |_=>exact h1.elim
 | @ref i a ha=>cases r2 with
  | @ref j b hb =>
   simp only[Hq] at h1
   split at h1
   ·rename_i xs ys e1 e2
    split at h1
    ·rename_i hz
     obtain⟨vs,h2,h3⟩:=m.of e1 ha
     obtain⟨us,h4,h5⟩:=m.of e2 hb
     exact .inr (.inr (.inl ⟨a,b,vs,us,rfl,rfl,h2,h4,by rw[h3.length,h5.length];exact hz,Lz m (h3.append h5) h1⟩))
    ·exact h1.elim
   ·exact h1.elim
  | @lst b us ys hf2 h4 h5 =>
   simp only[Hq] at h1
   split at h1
   ·rename_i xs e1
    split at h1
    ·rename_i hz
     obtain⟨vs,h2,h3⟩:=m.of e1 ha
     exact .inr (.inr (.inl ⟨a,b,vs,ys,rfl,rfl,h2,h4,by rw[h3.length,h5.length];exact hz,Fx m (h3.append h5) h1⟩))
    ·exact h1.elim
   ·exact h1.elim
  |_=>exact h1.elim
 | @tup a ws vs hq rw'=>cases r2 with
  | @tup b us ys hq2 ru =>
   simp only[Hq] at h1
   split at h1
   ·rename_i hz
    refine .inr (.inr (.inr ⟨a,b,vs,ys,rfl,rfl,hq,hq2,by rw[rw'.length,ru.length];exact hz,?_,?_,?_⟩))
    ·intro e
     have:=(Jo rw').mp e
     subst this
     exact h1.now m (.tup hq2 ru)
    ·intro _ e
     have:=(Jo ru).mp e
     subst this
     rw[List.append_nil] at h1
     exact h1.now m (.tup hq rw')
    ·intro _ _ q hn
     exact h1 p _ _ (Ext.laid0 hn) (m.aside hn) (.tup (SqT.of upd_same) ((rw'.append ru).mono (Ext.laid0 hn)))
   ·exact h1.elim
  |_=>exact h1.elim
 | @lst a ws vs hf h2 h3=>cases r2 with
  | @lst b us ys hf2 h4 h5 =>
   simp only[Hq] at h1
   split at h1
   ·rename_i hz
    exact .inr (.inr (.inl ⟨a,b,vs,ys,rfl,rfl,h2,h4,by rw[h3.length,h5.length];exact hz,Fx m (h3.append h5) h1⟩))
   ·exact h1.elim
  | @ref j b hb =>
   simp only[Hq] at h1
   split at h1
   ·rename_i us e1
    split at h1
    ·rename_i hz
     obtain⟨ys,h4,h5⟩:=m.of e1 hb
     exact .inr (.inr (.inl ⟨a,b,vs,ys,rfl,rfl,h2,h4,by rw[h3.length,h5.length];exact hz,Fx m (h3.append h5) h1⟩))
    ·exact h1.elim
   ·exact h1.elim
  |_=>exact h1.elim
 |_=>exact h1.elim
def rd(s:Sto):Nat→W→Option PyData
 |_,.non=>some .none
 |_,.bl b=>some (.bool b)
 |_,.int i=>some (.int i)
 |_,.str x=>some (.str x)
 |n+1,.ref i=>(match s.get i with
  |some (.lst ws)=>(ws.mapM (rd s n)).map .list
  |_=>none)
 |n+1,.tup ws=>(ws.mapM (rd s n)).map .tuple
 |n+1,.lst ws=>(ws.mapM (rd s n)).map .list
 |_,_=>none
theorem Mf{p:Pl}{H:Hp}{f:W→Option PyData}(hf:∀w v d,RelW G p H w v→f w=some d→Dp G.K H v d):∀{ws:List W} {vs:List V} {ds:List PyData},RelWs G p H ws vs→ws.mapM f=some ds→DpAll G.K H vs ds
 |_,_,_,.nil,e=>by simp at e;subst e;exact .nil
 |w::ws,v::vs,ds,.cons h t,e=>by
  rw[List.mapM_cons] at e
  cases q:f w with
  |none=>rw[q] at e;simp at e
  |some d =>
   rw[q] at e
   cases q2:ws.mapM f with
   |none=>rw[q2] at e;simp at e
   |some ds' =>
    rw[q2] at e
    simp at e;subst e
    exact .cons (hf w v d h q) (Mf hf t q2)
theorem AcT{p:Pl}{H:Hp}{s:Sto}(m:Emb G p s H):∀(n:Nat) (w:W) (v:V) (d:PyData),RelW G p H w v→rd s n w=some d→Dp G.K H v d:=by
 intro n
 induction n with
 |zero =>
  intro w v d r e
  cases r with
  |non=>simp[rd] at e;subst e;exact .non
  |bl b=>simp[rd] at e;subst e;exact .bl b
  |int i=>simp[rd] at e;subst e;exact .int i
  |str x=>simp[rd] at e;subst e;exact .str x
  |_=>simp[rd] at e
 |succ n ih =>
  intro w v d r e
  cases r with
  |non=>simp[rd] at e;subst e;exact .non
  |bl b=>simp[rd] at e;subst e;exact .bl b
  |int i=>simp[rd] at e;subst e;exact .int i
  |str x=>simp[rd] at e;subst e;exact .str x
  | @ref i a ha =>
   simp only[rd] at e
   split at e
   ·rename_i ws hs
    obtain⟨vs,h2,h3⟩:=m.of hs ha
    cases q:ws.mapM (rd s n) with
    |none=>rw[q] at e;simp at e
    |some ds =>
     rw[q] at e;simp at e;subst e
     exact .lst (SqL.of h2) (Mf ih h3 q)
   ·cases e
  | @tup a ws vs hq rw' =>
   simp only[rd] at e
   cases q:ws.mapM (rd s n) with
   |none=>rw[q] at e;simp at e
   |some ds =>
    rw[q] at e;simp at e;subst e
    exact .tup hq (Mf ih rw' q)
  | @lst a ws vs hf h2 h3 =>
   simp only[rd] at e
   cases q:ws.mapM (rd s n) with
   |none=>rw[q] at e;simp at e
   |some ds =>
    rw[q] at e;simp at e;subst e
    exact .lst (SqL.of h2) (Mf ih h3 q)
  |_=>simp[rd] at e
def eqS:W→W→Option Bool
 |.non,.non=>some true
 |.non,.int _=>some false
 |.int _,.non=>some false
 |.non,.bl _=>some false
 |.bl _,.non=>some false
 |.non,.str _=>some false
 |.str _,.non=>some false
 |.int i,.int j=>some (decide (i=j))
 |.bl i,.bl j=>some (decide (i=j))
 |.str i,.str j=>some (decide (i=j))
 |.int _,.str _=>some false
 |.str _,.int _=>some false
 |.bl _,.str _=>some false
 |.str _,.bl _=>some false
 |_,_=>none
theorem AeD{p:Pl}{H:Hp}{w u:W}{x y:V}{b:Bool}(r1:RelW G p H w x)(r2:RelW G p H u y)(h:eqS w u=some b):scal x y=true∧decide (x=y)=b:=by
 cases r1<;>cases r2<;>simp only[eqS] at h<;>first|(cases h;done)|(cases h;exact⟨rfl,by simp⟩)|skip
def eqD(w u:W)(s:Sto):Option Bool:=match eqS w u with
 |some b=>some b
 |none=>match rd s 64 w,rd s 64 u with
  |some d,some e=>if SeqAt.shaped d=true∧SeqAt.shaped e=true then some (PyData.eqv d e) else none
  |_,_=>none
def pEq:W→W→Sto→R W:=fun w u s=>match eqD w u s with
 |some b=>.ok (.bl b) s
 |none=>.bad
def pNe:W→W→Sto→R W:=fun w u s=>match eqD w u s with
 |some b=>.ok (.bl (!b)) s
 |none=>.bad
theorem Uj(hu:X.A.units+64<cLine):OpR X (compareOp .Eq) (fun x y H Q=>rEq x y H Q∨rEqD X.K x y H Q):=op_eq.or (op_eqD hu)
theorem Acz(hu:X.A.units+64<cLine):OpR X (compareOp .NotEq) (fun x y H Q=>rNe x y H Q∨rNeD X.K x y H Q):=op_ne.or (op_neD hu)
theorem Yo{p:Pl}{H:Hp}{s:Sto}{w u:W}{x y:V}{b:Bool}(m:Emb G p s H)(r1:RelW G p H w x)(r2:RelW G p H u y)(h:eqD w u s=some b) :
  (scal x y=true∧decide (x=y)=b)∨∃d e,Dp G.K H x d∧Dp G.K H y e∧SeqAt.shaped d=true∧SeqAt.shaped e=true∧PyData.eqv d e=b:=by
 unfold eqD at h
 split at h
 ·rename_i b' e
  cases h
  exact .inl (AeD r1 r2 e)
 ·split at h
  ·rename_i d e h1 h2
   split at h
   ·rename_i hs
    cases h
    exact .inr ⟨d,e,AcT m 64 w x d r1 h1,AcT m 64 u y e r2 h2,hs.1,hs.2,rfl⟩
   ·cases h
  ·cases h
theorem AbE:Bx G (fun x y H Q=>rEq x y H Q∨rEqD G.K x y H Q) pEq:=by
 intro E x y w u H p s Q r1 r2 m h1
 unfold pEq at h1
 split at h1
 ·rename_i b e
  have q:Q (.bl b) H:=h1.now m (.bl b)
  rcases Yo m r1 r2 e with⟨a1,a2⟩|⟨d,e,a1,a2,a3,a4,a5⟩
  ·exact .inl ⟨a1,by rw[a2];exact q⟩
  ·exact .inr ⟨d,e,a1,a2,a3,a4,by rw[a5];exact q⟩
 ·exact h1.elim
theorem Aej:Bx G (fun x y H Q=>rNe x y H Q∨rNeD G.K x y H Q) pNe:=by
 intro E x y w u H p s Q r1 r2 m h1
 unfold pNe at h1
 split at h1
 ·rename_i b e
  have q:Q (.bl (!b)) H:=h1.now m (.bl _)
  rcases Yo m r1 r2 e with⟨a1,a2⟩|⟨d,e,a1,a2,a3,a4,a5⟩
  ·exact .inl ⟨a1,by rw[a2];exact q⟩
  ·exact .inr ⟨d,e,a1,a2,a3,a4,by rw[a5];exact q⟩
 ·exact h1.elim
def isNon:W→Bool
 |.non=>true
 |_=>false
def Ags:W→W→Sto→R W:=fun w u s=>match u with
 |.non=>.ok (.bl (isNon w)) s
 |_=>.bad
def Bp:W→W→Sto→R W:=fun w u s=>match w,u with
 |.ref i,.int k=>(match s.get i with
  |some (.lst ws)=>(match atI ws k with
   |some v=>.ok v s
   |none=>.bad)
  |_=>.bad)
 |.tup ws,.int k=>(match atI ws k with
  |some v=>.ok v s
  |none=>.bad)
 |.lst ws,.int k=>(match atI ws k with
  |some v=>.ok v s
  |none=>.bad)
 |_,_=>.bad
theorem Jp{p:Pl}{H:Hp}{ws:List W}{vs:List V}{k:Int}{w:W}(r:RelWs G p H ws vs)(h:atI ws k=some w):∃v,atI vs k=some v∧RelW G p H w v:=by
 unfold atI at h ⊢
 rw[r.length]
 cases e:ixN ws.length k with
 |none=>rw[e] at h;cases h
 |some j =>
  rw[e] at h
  exact r.get h
theorem Bb:Bx G (fun x y H Q=>rIxL G.K x y H Q∨rIxT G.K x y H Q) Bp:=by
 intro E x y w u H p s Q r1 r2 m h1
 cases r1 with
 | @ref i a ha=>cases r2 with
  |int k =>
   simp only[Bp] at h1
   split at h1
   ·rename_i ws hs
    obtain⟨vs,h2,h3⟩:=m.of hs ha
    split at h1
    ·rename_i v hv
     obtain⟨v',h4,h5⟩:=Jp h3 hv
     exact .inl ⟨a,vs,k,v',rfl,rfl,SqL.of h2,h4,h1.now m h5⟩
    ·exact h1.elim
   ·exact h1.elim
  |_=>exact h1.elim
 | @tup a ws vs hq rw'=>cases r2 with
  |int k =>
   simp only[Bp] at h1
   split at h1
   ·rename_i v hv
    obtain⟨v',h4,h5⟩:=Jp rw' hv
    exact .inr ⟨a,vs,k,v',rfl,rfl,hq,h4,h1.now m h5⟩
   ·exact h1.elim
  |_=>exact h1.elim
 | @lst a ws vs hf h2 h3=>cases r2 with
  |int k =>
   simp only[Bp] at h1
   split at h1
   ·rename_i v hv
    obtain⟨v',h4,h5⟩:=Jp h3 hv
    exact .inl ⟨a,vs,k,v',rfl,rfl,SqL.of h2,h4,h1.now m h5⟩
   ·exact h1.elim
  |_=>exact h1.elim
 |_=>exact h1.elim
theorem Bc:IxR X (fun x y H Q=>rIxL X.K x y H Q∨rIxT X.K x y H Q):=ix_list.or ix_tup
def Zt{α:Type}(xs:List α)(lo hi:Option Int):List α:=(xs.drop (HT.sIx xs.length 0 lo)).take (HT.sIx xs.length xs.length hi - HT.sIx xs.length 0 lo)
def pSl:W→Option Int→Option Int→Sto→R W:=fun w lo hi s=>match w with
 |.ref i=>(match s.get i with
  |some (.lst ws)=>.ok (.ref s.next) (s.new (.lst (Zt ws lo hi)))
  |_=>.bad)
 |.scr ns=>.ok (.ref s.next) (s.new (.lst ((Zt ns lo hi).map .int)))
 |.tup ws=>.ok (.tup (Zt ws lo hi)) s
 |.lst ws=>.ok (.lst (Zt ws lo hi)) s
 |_=>.bad
theorem Nq{p:Pl}{H:Hp}{ws:List W}{vs:List V}{lo hi:Option Int}(r:RelWs G p H ws vs):RelWs G p H (Zt ws lo hi) (cutV vs lo hi):=by
 unfold Zt cutV
 rw[r.length]
 exact(r.drop _).take _
theorem Qc{p:Pl}{H:Hp}:∀ns:List Int,RelWs G p H (ns.map W.int) (ns.map V.int)
 | []=>.nil
 |n::ns=>.cons (.int n) (Qc ns)
theorem AaX(ns:List Int)(lo hi:Option Int):cutV (ns.map V.int) lo hi=(Zt ns lo hi).map V.int:=by
 unfold cutV Zt
 simp[List.map_take,List.map_drop]
theorem Afv:Ad7 G (fun x lo hi H Q=>rSlL G.K x lo hi H Q∨rSlA G.K x lo hi H Q) pSl:=by
 intro E x w lo hi H p s Q r1 m h1
 cases r1 with
 | @ref i a ha =>
  simp only[pSl] at h1
  split at h1
  ·rename_i ws hs
   obtain⟨vs,h2,h3⟩:=m.of hs ha
   exact .inl ⟨a,vs,rfl,SqL.of h2,Lz m (Nq h3) h1⟩
  ·exact h1.elim
 | @scr a ns hq =>
  refine .inl ⟨a,_,rfl,hq.sq,?_⟩
  rw[AaX]
  exact Lz m (Qc _) h1
 | @tup a ws vs hq rw' =>
  refine .inr ⟨a,vs,rfl,hq,fun e=>?_,fun _ q hn=>?_⟩
  ·have ec:Zt ws lo hi=ws:=by
    unfold Zt
    rw[rw'.length] at e
    rw[e.1,e.2]
    simp
   simp only[pSl,ec] at h1
   exact h1.now m (.tup hq rw')
  ·exact h1 p _ _ (Ext.laid0 hn) (m.aside hn) (.tup (SqT.of upd_same) ((Nq rw').mono (Ext.laid0 hn)))
 | @lst a ws vs hf h2 h3=>exact .inl ⟨a,vs,rfl,SqL.of h2,Fx m (Nq h3) h1⟩
 |_=>exact h1.elim
theorem AdR:SlR X (fun x lo hi H Q=>rSlL X.K x lo hi H Q∨rSlA X.K x lo hi H Q):=sl_list.or sl_tupA
end
end Fm
namespace Fm
open PySem L2
section
variable {G:Gw} {X:Cx} {E:St→XK}
theorem Aco{p:Pl}{H:Hp}{w:W}{xs:List V}(r:RelWs G p H [w] xs):∃x,xs=[x]∧RelW G p H w x:=by
 cases r with|cons h t=>cases t;exact⟨_,rfl,h⟩
theorem Acn{p:Pl}{H:Hp}{w u:W}{xs:List V}(r:RelWs G p H [w,u] xs):∃x y,xs=[x,y]∧RelW G p H w x∧RelW G p H u y:=by
 cases r with|cons h t=>cases t with|cons h2 t=>cases t;exact⟨_,_,rfl,h,h2⟩
def l1(g:W→Sto→R W):List W→Sto→R W:=fun ws s=>match ws with
 | [w]=>g w s
 |_=>.bad
def l2(g:W→W→Sto→R W):List W→Sto→R W:=fun ws s=>match ws with
 | [w,u]=>g w u s
 |_=>.bad
theorem Ug{r:List V→Hp→VK→Prop}{g:W→Sto→R W}(h:Ach G (fun x=>r [x]) g):O9 G r (l1 g):=by
 intro E xs ws H p s Q rs m h1
 match ws,rs,h1 with
 | [w],rs,h1=>obtain⟨x,rfl,r1⟩:=Aco rs;exact h E x w H p s Q r1 m h1
 | [],_,h1=>exact h1.elim
 |_::_::_,_,h1=>exact h1.elim
theorem Acq{r:List V→Hp→VK→Prop}{g:W→W→Sto→R W}(h:Bx G (fun x y=>r [x,y]) g):O9 G r (l2 g):=by
 intro E xs ws H p s Q rs m h1
 match ws,rs,h1 with
 | [w,u],rs,h1=>obtain⟨x,y,rfl,r1,r2⟩:=Acn rs;exact h E x y w u H p s Q r1 r2 m h1
 | [],_,h1=>exact h1.elim
 | [_],_,h1=>exact h1.elim
 |_::_::_::_,_,h1=>exact h1.elim
def Zo:W→Sto→R W:=fun w s=>match w with
 |.ref i=>(match s.get i with
  |some (.lst ws)=>.ok (.int ws.length) s
  |_=>.bad)
 |.scr ns=>.ok (.int ns.length) s
 |.tup ws=>.ok (.int ws.length) s
 |.str x=>if x.length≤sizeLine then .ok (.int x.length) s else .bad
 |.lst ws=>.ok (.int ws.length) s
 |_=>.bad
theorem Aaq:O9 G (fun xs H Q=>∃x n,xs=[x]∧LenV G.K x H n∧Q (.int n) H) (l1 Zo):=Ug (by
 intro E x w H p s Q r1 m h1
 cases r1 with
 | @ref i a ha =>
  simp only[Zo] at h1
  split at h1
  ·rename_i ws hs
   obtain⟨vs,h2,h3⟩:=m.of hs ha
   exact⟨_,_,rfl,.inl ⟨vs,SqL.of h2,rfl⟩,by rw[h3.length];exact h1.now m (.int _)⟩
  ·exact h1.elim
 | @scr a ns hq=>exact⟨_,_,rfl,.inl ⟨_,hq.sq,rfl⟩,by rw[List.length_map];exact h1.now m (.int _)⟩
 | @tup a ws vs hq rw'=>exact⟨_,_,rfl,.inr ⟨vs,hq,rfl⟩,by rw[rw'.length];exact h1.now m (.int _)⟩
 |str x =>
  simp only[Zo] at h1
  split at h1
  ·rename_i hz
   exact⟨_,_,rfl,⟨hz,rfl⟩,h1.now m (.int _)⟩
  ·exact h1.elim
 | @lst a ws vs hf h2 h3=>exact⟨_,_,rfl,.inl ⟨vs,SqL.of h2,rfl⟩,by rw[h3.length];exact h1.now m (.int _)⟩
 |_=>exact h1.elim)
def Aeq:W→Sto→R W:=fun w s=>match w with
 |.int i=>.ok (.int (if i<0 then -i else i)) s
 |_=>.bad
theorem Aem:O9 G (fun xs H Q=>∃i,xs=[.int i]∧Q (.int (if i<0 then -i else i)) H) (l1 Aeq):=Ug (by
 intro E x w H p s Q r1 m h1
 cases r1 with
 |int i=>exact⟨i,rfl,h1.now m (.int _)⟩
 |_=>exact h1.elim)
def Agr:=pI fun i j=>.int (if j > i then j else i)
def Agq:=pI fun i j=>.int (if j<i then j else i)
def Yz:W→Sto→R W:=fun w s=>match w with
 |.int i=>.ok (.int i) s
 |.bl k=>.ok (.int (if k then 1 else 0)) s
 |_=>.bad
theorem Jr:O9 G (fun xs H Q=>(∃i,xs=[.int i]∧Q (.int i) H)∨∃k,xs=[.bl k]∧Q (.int (if k then 1 else 0)) H) (l1 Yz):=Ug (by
 intro E x w H p s Q r1 m h1
 cases r1 with
 |int i=>exact .inl ⟨i,rfl,h1.now m (.int _)⟩
 |bl k=>exact .inr ⟨k,rfl,h1.now m (.int _)⟩
 |_=>exact h1.elim)
def Uh:W→Sto→R W:=fun w s=>match w with
 |.ref i=>(match s.get i with
  |some (.lst ws)=>.ok (.lst ws) s
  |_=>.bad)
 |.tup ws=>.ok (.lst ws) s
 |.lst ws=>.ok (.lst ws) s
 |_=>.bad
def Aau:W→Sto→R W:=fun w s=>match w with
 |.ref i=>(match s.get i with
  |some (.lst ws)=>.ok (.tup ws) s
  |_=>.bad)
 |.tup ws=>.ok (.tup ws) s
 |.lst ws=>.ok (.tup ws) s
 |_=>.bad
def Ss:List W→Option (List Bool)
 | []=>some []
 |.bl b::r=>(Ss r).map (b :: ·)
 |_=>none
theorem Sq{p:Pl}{H:Hp}:∀{ws:List W} {vs:List V} {bs:List Bool},RelWs G p H ws vs→Ss ws=some bs→vs=bs.map V.bl
 |_,_,_,.nil,e=>by cases e;rfl
 |w::ws,v::vs,bs,.cons h t,e=>by
  cases h with
  |bl b =>
   simp only[Ss] at e
   cases q:Ss ws with
   |none=>rw[q] at e;cases e
   |some bs' =>
    rw[q] at e;simp at e;subst e
    rw[Sq t q];rfl
  |_=>simp[Ss] at e
def AdF:W→Sto→R W:=fun w s=>match w with
 |.ref i=>(match s.get i with
  |some (.lst ws)=>(match Ss ws with
   |some bs=>.ok (.bl (bs.all id)) s
   |none=>.bad)
  |_=>.bad)
 |.lst ws=>(match Ss ws with
  |some bs=>.ok (.bl (bs.all id)) s
  |none=>.bad)
 |_=>.bad
theorem Ael:O9 G (rAll G.K) (l1 AdF):=Ug (by
 intro E x w H p s Q r1 m h1
 cases r1 with
 | @ref i a ha =>
  simp only[AdF] at h1
  split at h1
  ·rename_i ws hs
   obtain⟨vs,h2,h3⟩:=m.of hs ha
   split at h1
   ·rename_i bs hb
    exact⟨a,bs,rfl,by rw[←Sq h3 hb];exact SqL.of h2,h1.now m (.bl _)⟩
   ·exact h1.elim
  ·exact h1.elim
 | @lst a ws vs hf h2 h3 =>
  simp only[AdF] at h1
  split at h1
  ·rename_i bs hb
   exact⟨a,bs,rfl,by rw[←Sq h3 hb];exact SqL.of h2,h1.now m (.bl _)⟩
  ·exact h1.elim
 |_=>exact h1.elim)
def Fd:W→Sto→Option String:=fun w s=>match w with
 |.non=>some "NoneType"
 |.bl _=>some "bool"
 |.int _=>some "int"
 |.str _=>some "str"
 |.ref i=>(match s.get i with
  |some (.lst _)=>some "list"
  |some (.dct _)=>some "dict"
  |_=>none)
 |.lst _=>some "list"
 |.dct _=>some "dict"
 |_=>none
def Uw:String→String→Option Bool:=fun a b=>if a=b then some true else
 if (a = "NoneType" ∨ a = "bool" ∨ a = "int" ∨ a = "str" ∨ a = "list" ∨ a = "dict" ∨ a = "tuple")∧(b = "int" ∨ b = "bool" ∨ b = "str" ∨ b = "list" ∨ b = "tuple" ∨ b = "dict") then some (decide (a = "bool" ∧ b = "int")) else none
theorem Aa9{a b:String}{r:Bool}(h:Uw a b=some r):kitB a b=some r:=by
 unfold Uw at h
 split at h
 ·rename_i e
  subst e;cases h
  unfold kitB;simp
 ·split at h
  ·rename_i e1 e2
   cases h
   obtain⟨ha,hb⟩:=e2
   rcases ha with rfl|rfl|rfl|rfl|rfl|rfl|rfl<;>rcases hb with rfl|rfl|rfl|rfl|rfl|rfl<;>first|(exact absurd rfl e1)|decide +kernel
  ·cases h
def Hg:W→W→Sto→R W:=fun w u s=>match u with
 |.ty n=>(match Fd w s with
  |some a=>(match Uw a n with
   |some b=>.ok (.bl b) s
   |none=>.bad)
  |none=>(match w with
   |.tup _=>(match Uw "tuple" n with
    |some b=>.ok (.bl b) s
    |none=>.bad)
   |_=>.bad))
 |_=>.bad
theorem Jq:O9 G (rIsi G.K) (l2 Hg):=Acq (by
 intro E x y w u H p s Q r1 r2 m h1
 cases r2 with
 |ty n =>
  simp only[Hg] at h1
  have fin:∀{a:String} {b:Bool},TyX G.K H x (.type a)→Uw a n=some b→Q (.bl b) H→rIsi G.K [x,.ty n] H Q:=fun{a b} ty e q=>⟨x,.ty n,_,_,b,rfl,.ty n,ty,kit_ty (Aa9 e),q⟩
  cases r1 with
  |non=>simp only[Fd] at h1;split at h1<;>first|exact h1.elim|(rename_i b e;exact fin (.base .non) e (h1.now m (.bl b)))
  |bl k=>simp only[Fd] at h1;split at h1<;>first|exact h1.elim|(rename_i b e;exact fin (.base (.bl k)) e (h1.now m (.bl b)))
  |int k=>simp only[Fd] at h1;split at h1<;>first|exact h1.elim|(rename_i b e;exact fin (.base (.int k)) e (h1.now m (.bl b)))
  |str k=>simp only[Fd] at h1;split at h1<;>first|exact h1.elim|(rename_i b e;exact fin (.base (.str k)) e (h1.now m (.bl b)))
  | @ref i a ha =>
   simp only[Fd] at h1
   cases e:s.get i with
   |none=>rw[e] at h1;exact h1.elim
   |some o =>
    rw[e] at h1
    cases o with
    |lst ws=>obtain⟨vs,h2,h3⟩:=m.of e ha;simp only at h1;split at h1<;>first|exact h1.elim|(rename_i b e;exact fin (.base (.lst h2)) e (h1.now m (.bl b)))
    |dct ws=>obtain⟨vs,h2,h3⟩:=m.of e ha;simp only at h1;split at h1<;>first|exact h1.elim|(rename_i b e;exact fin (.base (.dK h2)) e (h1.now m (.bl b)))
    |_=>exact h1.elim
  | @tup a ws vs hq rw' =>
   simp only[Fd] at h1
   split at h1
   ·rename_i b e
    refine fin ?_ e (h1.now m (.bl b))
    rcases hq with(hq|⟨o,hq⟩)|⟨o,its,n,hk,hc,_⟩
    ·exact .base (.tup hq)
    ·exact .fTuple hq
    ·exact .kTuple hk hc
   ·exact h1.elim
  | @lst a ws vs hf h2 r=>simp only[Fd] at h1;split at h1<;>first|exact h1.elim|(rename_i b e;exact fin (.base (.lst h2)) e (h1.now m (.bl b)))
  | @dct a ws vs hf h2 r=>obtain⟨od,h2⟩:=h2;simp only[Fd] at h1;split at h1<;>first|exact h1.elim|(rename_i b e;exact fin (.fDict h2) e (h1.now m (.bl b)))
  |_=>simp only[Fd] at h1;exact h1.elim
 |_=>exact h1.elim)
end
end Fm
namespace Fm
open PySem L2
section
variable {G:Gw} {X:Cx} {E:St→XK}
def Kv:W→Sto→Bool:=fun w s=>match w with
 |.ref i=>(match s.get i with
  |some (.lst _)=>true
  |_=>false)
 |_=>false
theorem ty_list:TyM G "list" Kv:=by
 intro p H s w x m r h
 cases r with
 | @ref i a ha =>
  simp only[Kv] at h
  split at h
  ·rename_i ws hs
   obtain⟨vs,h2,h3⟩:=m.of hs ha
   exact .inl ⟨rfl,vs,SqL.of h2⟩
  ·cases h
 |_=>cases h
def Zq(n:Nat)(f:List W→List W→Option (List W×W)):W→List W→Sto→R W:=fun w as s=>if as.length=n then(match w with
 |.ref i=>(match s.get i with
  |some (.lst ws)=>(match f ws as with
   |some (ws',v)=>.ok v (s.set i (.lst ws'))
   |none=>.bad)
  |_=>.bad)
 |_=>.bad) else .bad
theorem Adh{n:Nat}{f:List W→List W→Option (List W×W)}{p:Pl}{H:Hp}{s:Sto}{w:W}{x:V}{as:List W}{Q:VK}{Ee:XK}(m:Emb G p s H)(r:RelW G p H w x)(h:Bf G (RelW G) p H Q Ee (Zq n f w as s)) :
  ∃a ws vs ws' v,as.length=n∧x=.ref a∧H a=some (.lst vs)∧RelWs G p H ws vs∧f ws as=some (ws',v)∧∀vs' y,RelWs G p H ws' vs'→RelW G p H v y→Q y (upd H a (.lst vs')):=by
 unfold Zq at h
 by_cases hn:as.length=n
 ·rw[if_pos hn] at h
  cases r with
  | @ref i a ha =>
   simp only at h
   split at h
   ·rename_i ws hs
    obtain⟨vs,h2,h3⟩:=m.of hs ha
    split at h
    ·rename_i ws' v e
     refine⟨a,ws,vs,ws',v,hn,rfl,h2,h3,e,fun vs' y r1 r2=>?_⟩
     have x1:Ext G p H p (upd H a (.lst vs')):=Ext.wrote m hs ha h2 trivial
     exact h p _ y x1 (m.write (o:=.lst ws') hs ha h2 trivial ⟨vs',upd_same,r1.mono x1⟩) (r2.mono x1)
    ·exact h.elim
   ·exact h.elim
  |_=>exact h.elim
 ·rw[if_neg hn] at h;exact h.elim
def Ey:List W→List W→Option (List W×W):=fun ws as=>match as with
 | [a]=>if ws.length<sizeLine then some (ws++[a],.non) else none
 |_=>none
theorem Nv:AeS G rAppend (Zq 1 Ey):=by
 intro Ee x w xs as H p s Q r rs m h
 obtain⟨a,ws,vs,ws',v,hn,rfl,h2,h3,e,q⟩:=Adh m r h
 match as,hn,rs,e with
 | [u],_,rs,e =>
  obtain⟨y,rfl,ry⟩:=Aco rs
  simp only[Ey] at e
  split at e
  ·rename_i hz
   cases e
   exact⟨a,vs,y,rfl,rfl,h2,by rw[h3.length];exact hz,q _ _ (h3.append (.one ry)) .non⟩
  ·cases e
abbrev Agm(_:Pl)(_:Hp)(_ _:Unit):Prop:=True
def Abk(G:Gw)(E1:XK)(t:TSet)(g:W→W→W→Sto→R Unit):Prop:=∀(o i v:V) (wo wi wv:W) (H:Hp) (p:Pl) (s:Sto) (Q:Hp→Prop),RelW G p H wo o→RelW G p H wi i→RelW G p H wv v→Emb G p s H→Bf G Agm p H (fun _ H'=>Q H') E1 (g wo wi wv s)→t o i v H Q
def AdW(g:W→W→W→Sto→R Unit)(me mo mi:EM):SM:=fun z s=>(me z s).go z fun v s1=>(mo z s1).go z fun o s2=>(mi z s2).go z fun i s3=>(g o i v s3).go z fun _ s4=>.nx z s4
theorem Aac{E1:XK}{t:TSet}{g:W→W→W→Sto→R Unit}{o i e:Expr}{me mo mi:EM}{pos tpos:Pos}(hs:PSet X t)(hp:Abk G E1 t g)(he:SE G (fun _=>E1) X e me)(ho:SE G (fun _=>E1) X o mo)(hi:SE G (fun _=>E1) X i mi)
  (ha:∀v,assign (.Subscript o i tpos) X.env v=(do
   let ov ←holding [v] (eval o X.env)
   let iv ←holding [v,ov] (eval i X.env)
   standAt tpos
   holding [v,ov,iv] (setItem ov iv v)
   release [v,ov,iv] []):=by intro _;rfl)
  (hs1:swapsWithSole [.Subscript o i tpos] e pos.line X.env=pure false:=by rfl) (hw:swappedStores [.Subscript o i tpos] e X.env=pure none:=by rfl)
  (h1:(assignEach [.Subscript o i tpos] X.env).map (·.2)=[assign (.Subscript o i tpos) X.env]:=by rfl):SS G (fun _=>E1) X (.Assign [.Subscript o i tpos] e pos) (AdW g me mo mi):=by
 obtain⟨te,a1,a2⟩:=he
 obtain⟨to,b1,b2⟩:=ho
 obtain⟨ti,c1,c2⟩:=hi
 refine⟨_,ps_asg a1 (pg_sub b1 c1 hs ha) hs1 hw h1,fun D σ z H p s rs me h=>a2 σ z H p s _ rs me (Cr.go rs h fun v s1 _ p1 H1 x e1 m1 r1 h1=>?_)⟩
 refine b2 σ z H1 p1 s1 _ (rs.mono e1) m1 (Cr.go (rs.mono e1) h1 fun o s2 _ p2 H2 y e2 m2 r2 h2=>?_)
 refine c2 σ z H2 p2 s2 _ ((rs.mono e1).mono e2) m2 (Cr.go ((rs.mono e1).mono e2) h2 fun i s3 _ p3 H3 w e3 m3 r3 h3=>?_)
 refine hp y w x o i v H3 p3 s3 _ (r2.mono e3) r3 ((r1.mono e2).mono e3) m3 (Cr.go (E:=fun _=>E1) (σ:=σ) (((rs.mono e1).mono e2).mono e3) h3 fun u s4 _ p4 H4 b e4 m4 r4 h4=>?_)
 exact h4.now m4 ((((rs.mono e1).mono e2).mono e3).mono e4)
def Ph:W→W→W→Sto→R Unit:=fun o i v s=>match o,i with
 |.ref l,.int k=>(match s.get l with
  |some (.lst ws)=>(match ixN ws.length k with
   |some j=>.ok () (s.set l (.lst (ws.set j v)))
   |none=>.bad)
  |_=>.bad)
 |_,_=>.bad
theorem Q7{E1:XK}:Abk G E1 rSetL Ph:=by
 intro o i v wo wi wv H p s Q r1 r2 r3 m h
 cases r1 with
 | @ref l a ha=>cases r2 with
  |int k =>
   simp only[Ph] at h
   split at h
   ·rename_i ws hs
    obtain⟨vs,h2,h3⟩:=m.of hs ha
    split at h
    ·rename_i j hj
     refine⟨a,vs,k,j,rfl,rfl,h2,by rw[h3.length];exact hj,?_⟩
     have x1:Ext G p H p (upd H a (.lst (vs.set j v))):=Ext.wrote m hs ha h2 trivial
     exact h p _ () x1 (m.write (o:=.lst (ws.set j wv)) hs ha h2 trivial ⟨_,upd_same,(RelWs.set r3 j h3).mono x1⟩) trivial
    ·exact h.elim
   ·exact h.elim
  |_=>exact h.elim
 |_=>exact h.elim
theorem AbS:PGet X (rIxL X.K):=by
 intro pins s σ H x y v u Q I rx ry h
 obtain⟨p,xs,i,z,rfl,rfl,hq,he,q⟩:=h
 cases rx
 obtain⟨t,rfl⟩:=ry
 obtain⟨its,r,pl,hz⟩:=I.list hq
 obtain⟨j,h1,h2,h3,h4,h5⟩:=atI_get he
 obtain⟨w,ew,rw'⟩:=r.get h2
 have hl:=r.length
 have hn:=line63
 have fin:EP X pins σ Q w s:=⟨z,H,I,rw',q⟩
 by_cases h0:0≤i
 ·have hj:i.toNat=j:=by
   rw[seqIndex_of h0 h5] at h1
   exact Option.some.inj h1
  exact wpAny_getItem_list pl.isList h0 (by omega) (by rw[hj];simpa using ew) fin
 ·have hj:(i+(its.toArray.size:Int)).toNat=j:=by
   rw[seqIndex_neg (by omega) h4] at h1
   rw[List.size_toArray,←hl]
   exact Option.some.inj h1
  exact wpAny_getItem_list_neg pl.isList (by omega) (by rw[List.size_toArray]<;>omega) (by omega) (by rw[hj];simpa using ew) fin
def Y0:W→W→Sto→R W:=fun w u s=>match w,u with
 |.ref i,.int k=>(match s.get i with
  |some (.lst ws)=>(match atI ws k with
   |some v=>.ok v s
   |none=>.bad)
  |_=>.bad)
 |_,_=>.bad
theorem AcX:Bx G (rIxL G.K) Y0:=by
 intro E x y w u H p s Q r1 r2 m h1
 cases r1 with
 | @ref i a ha=>cases r2 with
  |int k =>
   simp only[Y0] at h1
   split at h1
   ·rename_i ws hs
    obtain⟨vs,h2,h3⟩:=m.of hs ha
    split at h1
    ·rename_i v hv
     obtain⟨v',h4,h5⟩:=Jp h3 hv
     exact⟨a,vs,k,v',rfl,rfl,SqL.of h2,h4,h1.now m h5⟩
    ·exact h1.elim
   ·exact h1.elim
  |_=>exact h1.elim
 |_=>exact h1.elim
def V1(g:W→W→Sto→R W)(mo mi me:EM):SM:=fun z s=>(mo z s).go z fun o s1=>(mi z s1).go z fun i s2=>(Y0 o i s2).go z fun x s3=>(me z s3).go z fun y s4=>(g x y s4).go z fun u s5=>(Ph o i u s5).go z fun _ s6=>.nx z s6
theorem Aad{E1:XK}{op:Operator}{r:R2}{g:W→W→Sto→R W}{o i e:Expr}{mo mi me:EM}{pos tpos:Pos}(hp:PIp X op r)(hg:Bx G r g)(ho:SE G (fun _=>E1) X o mo)(hi:SE G (fun _=>E1) X i mi)(he:SE G (fun _=>E1) X e me)(hK:X.K=G.K:=by rfl)
  (ha:∀ov iv new,augStore i ov iv new=(do holding [new,ov,iv] (setItem ov iv new);release [new,ov,iv] [];pure .next):=by intros;rfl):SS G (fun _=>E1) X (.AugAssign (.Subscript o i tpos) op e pos) (V1 g mo mi me):=by
 obtain⟨to,b1,b2⟩:=ho
 obtain⟨ti,c1,c2⟩:=hi
 obtain⟨te,a1,a2⟩:=he
 refine⟨_,ps_augS b1 c1 AbS a1 hp set_list ha,fun D σ z H p s rs me h=>b2 σ z H p s _ rs me (Cr.go rs h fun o s1 _ p1 H1 x e1 m1 r1 h1=>?_)⟩
 refine c2 σ z H1 p1 s1 _ (rs.mono e1) m1 (Cr.go (rs.mono e1) h1 fun i s2 _ p2 H2 y e2 m2 r2 h2=>?_)
 rw[hK]
 refine AcX E1 x y o i H2 p2 s2 _ (r1.mono e2) r2 m2 (Cr.go (E:=fun _=>E1) (σ:=σ) ((rs.mono e1).mono e2) h2 fun u s3 _ p3 H3 v e3 m3 r3 h3=>?_)
 have rs3:=((rs.mono e1).mono e2).mono e3
 refine a2 σ z H3 p3 s3 _ rs3 m3 (Cr.go rs3 h3 fun yw s4 _ p4 H4 yv e4 m4 r4 h4=>?_)
 refine hg E1 v yv u yw H4 p4 s4 _ (r3.mono e4) r4 m4 (Cr.go (E:=fun _=>E1) (σ:=σ) (rs3.mono e4) h4 fun nw s5 _ p5 H5 nv e5 m5 r5 h5=>?_)
 have e25:=(e3.trans e4).trans e5
 refine Q7 (E1:=E1) x y nv o i nw H5 p5 s5 _ ((r1.mono e2).mono e25) (r2.mono e25) r5 m5 (Cr.go (E:=fun _=>E1) (σ:=σ) ((rs3.mono e4).mono e5) h5 fun u s6 _ p6 H6 b e6 m6 r6 h6=>?_)
 exact h6.now m6 (((rs3.mono e4).mono e5).mono e6)
theorem AcZ:PIp X .Add (rI0 fun i j=>.int (i+j)):=ip_add
theorem AcY:Bx G (rI0 fun i j=>.int (i+j)) (pI fun i j=>.int (i+j)):=Aas fun _ _ _ _=>.int _
def Agl(i:Nat)(g:W→W→Sto→R W)(me:EM):SM:=fun z s=>match z[i]? with
 |some (some x)=>(me z s).go z fun y s1=>(g x y s1).go z fun u s2=>.nx (z.set i (some u)) s2
 |_=>.bad
def AeT(G:Gw)(E1:XK)(r:R2)(g:W→W→Sto→R W):Prop:=∀(x y:V) (w u:W) (H:Hp) (p:Pl) (s:Sto) (Q:VK),RelW G p H w x→RelW G p H u y→Emb G p s H→Bf G (RelW G) p H Q E1 (g w u s)→r x y H Q
theorem Bx.at{r:R2}{g:W→W→Sto→R W}(h:Bx G r g)(E1:XK):AeT G E1 r g:=h E1
def AfQ(f:String)(v:W):List (String×W)→List (String×W)
 | []=>[(f,v)]
 |(g,x)::r=>if g=f then(g,v)::r else(g,x)::AfQ f v r
def Aep(C f:String):W→W→Sto→R Unit:=fun v o s=>match o with
 |.ref i=>(match s.get i with
  |some (.ins D fs)=>if D=C∧fs.length<1000 then .ok () (s.set i (.ins C (AfQ f v fs))) else .bad
  |_=>.bad)
 |_=>.bad
def Afs(C f:String)(mv mo:EM):SM:=fun z s=>(mv z s).go z fun v s1=>(mo z s1).go z fun o s2=>(Aep C f v o s2).go z fun _ s3=>.nx z s3
end
end Fm
namespace Fm
open PySem L2 PyProof.Rows
section
variable {G:Gw} {X:Cx} {E:L2.St→XK}
def AfS:W→W→Option Int→Option Int→Sto→R Unit:=fun v o lo hi s=>match v,o,lo,hi with
 |.ref b,.ref l,some a,some c=>(match s.get l,s.get b with
  |some (.lst xs),some (.lst ys)=>if l≠b∧0≤a∧a≤c∧a≤xs.length∧xs.length+ys.length≤sizeLine then .ok () (s.set l (.lst (xs.take a.toNat++ys++xs.drop (min c.toNat xs.length)))) else .bad
  |_,_=>.bad)
 |_,_,_,_=>.bad
def Agk(me mo:EM)(ml mh:OM):SM:=fun z s=>(me z s).go z fun v s1=>(mo z s1).go z fun o s2=>(ml z s2).go z fun l s3=>(mh z s3).go z fun h s4=>(AfS v o l h s4).go z fun _ s5=>.nx z s5
variable {CX:CXT} {k:Nat} {C:Addr} {f:Addr} {fd:FuncData} {ps:List Str} {mf:List W→Sto→R W} {E1:XK}
def AfR(tb:String→Option (List W→Sto→R W)):W→Sto→R (List W→Sto→R W):=fun w s=>match w with
 |.sta n=>(match tb n with
  |some m=>.ok m s
  |none=>.bad)
 |_=>.bad
def Ag1(C f:String)(tb:String→Option (List W→Sto→R W))(o:EM)(as:AM):EM:=fun z s=>(o z s).bind fun w s1=>(AfT C f w s1).bind fun v s2=>(AfR tb v s2).bind fun m s3=>(as z s3).bind fun ws s4=>m ws s4
def AeE(C:String)(n k:Nat)(mf:List W→Sto→R W)(as ks:AM):EM:=fun z s=>(as z s).bind fun ws s1=>(ks z s1).bind fun us s2=>if ws.length=n∧us.length=k then Aew C mf (ws++us) s2 else .bad
def AdC(i j:Nat)(as:AM):SM:=fun z s=>(as z s).go z fun ws s1=>match ws with
 | [v,w]=>.nx ((z.set i (some v)).set j (some w)) s1
 |_=>.bad
theorem Aci(i j:Nat){x y:Str}{a b:Expr}{ma:AM}{px py pt:Pos}{kt k2 pt2}{pos:Pos}(hc:X.calm=true)(hN:X.N.Nodup)(ha:SA G E X [a,b] ma)
  (hw:swappedStores [.Tuple [.Name x px,.Name y py] kt pt] (.Tuple [a,b] k2 pt2) X.env=pure (some [x,y]):=by rfl) (hi:X.N[i]? = some x:=by rfl) (hj:X.N[j]? = some y:=by rfl) (hij:i≠j:=by decide)
  (hx:X.env.scope.names.lookup x=some .local:=by rfl) (hy:X.env.scope.names.lookup y=some .local:=by rfl)
  (hs:swapsWithSole [.Tuple [.Name x px,.Name y py] kt pt] (.Tuple [a,b] k2 pt2) pos.line X.env=pure false:=by rfl):SS G E X (.Assign [.Tuple [.Name x px,.Name y py] kt pt] (.Tuple [a,b] k2 pt2) pos) (AdC i j ma):=by
 obtain⟨t,h1,h2⟩:=ha
 refine⟨_,ps_par hc hN hi hj hij hx hy h1 hw hs,fun D σ z H p s rs m h=>h2 σ z H p s _ rs m (Cr.go rs h fun ws s1 _ p1 H1 xs e1 m1 r1 h1=>?_)⟩
 match ws,r1,h1 with
 | [v,w],r1,h1 =>
  obtain⟨a,b,rfl,ra,rb⟩:=Acn r1
  exact⟨a,b,rfl,h1 p1 H1 _ Ext.refl m1 (Be.set (w:=some w) (v:=some b) rb j (Be.set (w:=some v) (v:=some a) ra i (rs.mono e1)))⟩
 | [],_,h1=>exact h1.elim
 | [_],_,h1=>exact h1.elim
 |_::_::_::_,_,h1=>exact h1.elim
def Afr(i j l:Nat)(as:AM):SM:=fun z s=>(as z s).go z fun ws s1=>match ws with
 | [u,v,w]=>.nx (((z.set i (some u)).set j (some v)).set l (some w)) s1
 |_=>.bad
end
end Fm
namespace Fm
open PySem L2
section
variable {G:Gw} {X:Cx} {E:St→XK}
def J5(g g':W→W→Sto→R W)(a b c:EM):EM:=fun z s=>(a z s).bind fun x s1=>(b z s1).bind fun y s2=>(g x y s2).bind fun v s3=>(asB v s3).bind fun k s4=>if k=true then(c z s4).bind fun w s5=>g' y w s5 else .ok (.bl false) s4
theorem Gq.chain{r r':R2}{g g':W→W→Sto→R W}{ta tb tc:TE}{ma mb mc:EM}(hp:Bx G r g)(hp':Bx G r' g')(ha:Gq G E ta ma)(hb:Gq G E tb mb)(hc:Gq G E tc mc):Gq G E (tChain r r' ta tb tc) (J5 g g' ma mb mc):=fun σ z H p s Q rs m h =>
 ha σ z H p s _ rs m (Bf.bind h fun x s1 _ p1 H1 xv e1 m1 r1 h1=>hb σ z H1 p1 s1 _ (rs.mono e1) m1 (Bf.bind h1 fun y s2 _ p2 H2 yv e2 m2 r2 h2 =>
  hp (E σ) xv yv x y H2 p2 s2 _ (r1.mono e2) r2 m2 (Bf.bind h2 fun v s3 _ p3 H3 vv e3 m3 r3 h3=>by
   cases r3 with
   |bl k =>
    refine⟨k,rfl,?_⟩
    simp only[asB,Aa] at h3
    cases k with
    |true=>exact hc σ z H3 p3 s3 _ (((rs.mono e1).mono e2).mono e3) m3 (Bf.bind h3 fun w s4 _ p4 H4 wv e4 m4 r4 h4=>hp' (E σ) yv wv y w H4 p4 s4 Q ((r2.mono e3).mono e4) r4 m4 h4)
    |false=>exact h3.now m3 (.bl false)
   |_=>exact h3.elim)))
theorem Xf{op op':CmpOp}{r r':R2}{g g':W→W→Sto→R W}{a b c:Expr}{ma mb mc:EM}{pos:Pos}(ho:OpR X (compareOp op) r)(hp:Bx G r g)(ho':OpR X (compareOp op') r')(hp':Bx G r' g')(ha:SE G E X a ma)(hb:SE G E X b mb)(hc:SE G E X c mc)
  (hm:lastMarks [op,op'] [b,c]=false:=by with_unfolding_all rfl):SE G E X (.Compare a [op,op'] [b,c] pos) (J5 g g' ma mb mc) :=
 let ⟨ta,h1,h2⟩:=ha
 let ⟨tb,h3,h4⟩:=hb
 let ⟨tc,h5,h6⟩:=hc
 ⟨_,pe_chain ho ho' h1 h3 h5 hm,Gq.chain hp hp' h2 h4 h6⟩
theorem W9{op op':CmpOp}{r r':R2}{g g':W→W→Sto→R W}{a b c:Expr}{ma mb mc:EM}{pos:Pos}(ho:OpR X (compareOp op) r)(hp:Bx G r g)(ho':OpR X (compareOp op') r')(hp':Bx G r' g')(ha:SE G E X a ma)(hb:SE G E X b mb)(hc:SE G E X c mc)
  (hm:lastMarks [op,op'] [b,c]=false:=by with_unfolding_all rfl):ST G E X (.Compare a [op,op'] [b,c] pos) (tOf (J5 g g' ma mb mc)) :=
 let ⟨ta,h1,h2⟩:=ha
 let ⟨tb,h3,h4⟩:=hb
 let ⟨tc,h5,h6⟩:=hc
 ⟨_,pt_chain ho ho' h1 h3 h5 hm,Abq.of (Gq.chain hp hp' h2 h4 h6)⟩
def Qm:List Nat→GMs
 | []=>AaK
 |i::is=>U5 (gNm i) (Qm is)
end
end Fm
namespace Fm
open PySem L2
section
variable (z:Env0) (s:Sto)
@[simp] theorem ev_var(i:Nat):Af i z s=match z[i]? with|some (some w)=>.ok w s|_=>.bad:=rfl
@[simp] theorem ev_c(w:W):eC w z s=.ok w s:=rfl
@[simp] theorem ev_un(g:W→Sto→R W)(a:EM):eUn g a z s=(a z s).bind g:=rfl
@[simp] theorem ev_op(g:W→W→Sto→R W)(a b:EM):eOp g a b z s=(a z s).bind fun w s1=>(b z s1).bind fun u s2=>g w u s2:=rfl
@[simp] theorem ev_call(g:List W→Sto→R W)(a:AM):Aj g a z s=(a z s).bind g:=rfl
@[simp] theorem Ax:Ao z s=.ok [] s:=rfl
@[simp] theorem Ah(a:EM)(r:AM):Ac a r z s=(a z s).bind fun w s1=>(r z s1).bind fun ws s2=>.ok (w::ws) s2:=rfl
@[simp] theorem Ed(b:Bool):asB (.bl b) s=.ok b s:=rfl
@[simp] theorem G7(m:EM):tOf m z s=(m z s).bind asB:=rfl
@[simp] theorem Qp(m:TM):M8 m z s=(m z s).bind fun b s1=>.ok (!b) s1:=rfl
@[simp] theorem Yk(a b:TM):Afo a b z s=(a z s).bind fun c s1=>if c=true then b z s1 else .ok false s1:=rfl
@[simp] theorem AaO(a b:TM):AcI a b z s=(a z s).bind fun c s1=>if c=true then .ok true s1 else b z s1:=rfl
@[simp] theorem Ft(a b:EM):AaV a b z s=(a z s).bind fun w s1=>(asB w s1).bind fun c s2=>if c=true then b z s2 else .ok (.bl false) s2:=rfl
@[simp] theorem Yh(a b:EM):eOr a b z s=(a z s).bind fun w s1=>(asB w s1).bind fun c s2=>if c=true then .ok (.bl true) s2 else b z s2:=rfl
@[simp] theorem Oq(a:EM):Ad3 a z s=(a z s).bind fun w s1=>(asB w s1).bind fun c s2=>.ok (.bl (!c)) s2:=rfl
@[simp] theorem Ou(t:TM)(a b:EM):eIf t a b z s=(t z s).bind fun c s1=>if c=true then a z s1 else b z s1:=rfl
@[simp] theorem Iv(as:AM):Abp as z s=(as z s).bind fun ws s1=>if ws.length≤sizeLine then .ok (.tup ws) s1 else .bad:=rfl
@[simp] theorem Ot(as:AM):Vo as z s=(as z s).bind fun ws s1=>if ws.length≤sizeLine then .ok (.ref s1.next) (s1.new (.lst ws)) else .bad:=rfl
@[simp] theorem Bo(g g':W→W→Sto→R W)(a b c:EM):J5 g g' a b c z s=(a z s).bind fun x s1=>(b z s1).bind fun y s2=>(g x y s2).bind fun v s3=>(asB v s3).bind fun k s4=>if k=true then(c z s4).bind fun w s5=>g' y w s5 else .ok (.bl false) s4:=rfl
@[simp] theorem Mw(C f:String)(mf:List W→Sto→R W)(o:EM)(as:AM):Af4 C f mf o as z s=(o z s).bind fun w s1=>(Ae5 C f w s1).bind fun w s2=>(as z s2).bind fun ws s3=>mf (w::ws) s3:=rfl
@[simp] theorem Yj(c:W→Sto→Bool)(g:W→List W→Sto→R W)(o:EM)(as:AM):eBM c g o as z s=(o z s).bind fun w s1=>if c w s1=true then(as z s1).bind fun ws s2=>g w ws s2 else .bad:=rfl
@[simp] theorem Qn:oNo z s=.ok none s:=rfl
@[simp] theorem Qo(m:EM):oAt m z s=(m z s).bind fun w s1=>match w with|.int i=>.ok (some i) s1|_=>.bad:=rfl
@[simp] theorem Qq(g:W→Option Int→Option Int→Sto→R W)(a:EM)(lo hi:OM):eSl g a lo hi z s=(a z s).bind fun w s1=>(lo z s1).bind fun l s2=>(hi z s2).bind fun h s3=>g w l h s3:=rfl
@[simp] theorem R5(C f:String)(tb:String→Option (List W→Sto→R W))(o:EM)(as:AM):Ag1 C f tb o as z s=(o z s).bind fun w s1=>(AfT C f w s1).bind fun v s2=>(AfR tb v s2).bind fun m s3=>(as z s3).bind fun ws s4=>m ws s4:=rfl
@[simp] theorem Jy(C:String)(n k:Nat)(mf:List W→Sto→R W)(as ks:AM):AeE C n k mf as ks z s=(as z s).bind fun ws s1=>(ks z s1).bind fun us s2=>if ws.length=n∧us.length=k then Aew C mf (ws++us) s2 else .bad:=rfl
@[simp] theorem Mj:Fl z s=.nx z s:=rfl
@[simp] theorem ev_sNever:AdX z s=.bad:=rfl
@[simp] theorem Jw:AdY z s=.bk z s:=rfl
@[simp] theorem Ms:Aft z s=.ct z s:=rfl
@[simp] theorem Mr(m:EM):Vz m z s=(m z s).go z fun _ s1=>.nx z s1:=rfl
@[simp] theorem Ef(m:EM):Ho m z s=(m z s).go z fun w s1=>.rt w s1:=rfl
@[simp] theorem Mi:Afq z s=.rt .non s:=rfl
@[simp] theorem Oh(t:TM)(a b:SM):sIf t a b z s=(t z s).go z fun c s1=>if c=true then a z s1 else b z s1:=rfl
@[simp] theorem Ez(m:EM)(g:GM):Jm m g z s=(m z s).go z fun w s1=>(g w z s1).go z fun z1 s2=>.nx z1 s2:=rfl
@[simp] theorem Ru(i:Nat)(g:W→W→Sto→R W)(me:EM):Agl i g me z s=match z[i]? with|some (some x)=>(me z s).go z fun y s1=>(g x y s1).go z fun u s2=>.nx (z.set i (some u)) s2|_=>.bad:=rfl
@[simp] theorem Hl(g:W→W→Sto→R W)(mo mi me:EM):V1 g mo mi me z s=(mo z s).go z fun o s1=>(mi z s1).go z fun i s2=>(Y0 o i s2).go z fun x s3=>(me z s3).go z fun y s4=>(g x y s4).go z fun u s5=>(Ph o i u s5).go z fun _ s6=>.nx z s6:=rfl
@[simp] theorem Mp(C f:String)(mv mo:EM):Afs C f mv mo z s=(mv z s).go z fun v s1=>(mo z s1).go z fun o s2=>(Aep C f v o s2).go z fun _ s3=>.nx z s3:=rfl
@[simp] theorem Rp(g:W→W→W→Sto→R Unit)(me mo mi:EM):AdW g me mo mi z s=(me z s).go z fun v s1=>(mo z s1).go z fun o s2=>(mi z s2).go z fun i s3=>(g o i v s3).go z fun _ s4=>.nx z s4:=rfl
@[simp] theorem Rq(me mo:EM)(ml mh:OM):Agk me mo ml mh z s=(me z s).go z fun v s1=>(mo z s1).go z fun o s2=>(ml z s2).go z fun l s3=>(mh z s3).go z fun h s4=>(AfS v o l h s4).go z fun _ s5=>.nx z s5:=rfl
@[simp] theorem Rr(i j:Nat)(as:AM):AdC i j as z s=(as z s).go z fun ws s1=>match ws with | [v,w]=>.nx ((z.set i (some v)).set j (some w)) s1|_=>.bad:=rfl
@[simp] theorem Ml(i j l:Nat)(as:AM):Afr i j l as z s=(as z s).go z fun ws s1=>match ws with | [u,v,w]=>.nx (((z.set i (some u)).set j (some v)).set l (some w)) s1|_=>.bad:=rfl
@[simp] theorem Oo(i:Nat)(w:W):gNm i w z s=.ok (z.set i (some w)) s:=rfl
@[simp] theorem Ol(g:W→Sto→R W)(w:W):l1 g [w] s=g w s:=rfl
@[simp] theorem Zf(g:W→W→Sto→R W)(w u:W):l2 g [w,u] s=g w u s:=rfl
@[simp] theorem AaN(g:Int→Int→W)(i j:Int):pI g (.int i) (.int j) s=.ok (g i j) s:=rfl
@[simp] theorem Rv(i j:Int):Agp (.int i) (.int j) s=.ok (.int (i - j)) s:=rfl
@[simp] theorem Jx(i j:Int):pLt (.int i) (.int j) s=.ok (.bl (decide (i<j))) s:=rfl
@[simp] theorem G8(i j:Int):pLe (.int i) (.int j) s=.ok (.bl (decide (i≤j))) s:=rfl
@[simp] theorem Yd(i j:Int):pGt (.int i) (.int j) s=.ok (.bl (decide (j<i))) s:=rfl
@[simp] theorem Ye(i j:Int):pGe (.int i) (.int j) s=.ok (.bl (decide (j≤i))) s:=rfl
@[simp] theorem Ry(i j:Int):Agr (.int i) (.int j) s=.ok (.int (if j > i then j else i)) s:=rfl
@[simp] theorem Rx(i j:Int):Agq (.int i) (.int j) s=.ok (.int (if j<i then j else i)) s:=rfl
@[simp] theorem Oi(i:Int):AeW (.int i) s=.ok (.int (-i)) s:=rfl
@[simp] theorem R3(i:Int):Yz (.int i) s=.ok (.int i) s:=rfl
@[simp] theorem R4(i:Int):Aeq (.int i) s=.ok (.int (if i<0 then -i else i)) s:=rfl
theorem Ky{i j:Int}(h:CMul i j):AbH (.int i) (.int j) s=.ok (.int (i*j)) s:=by unfold AbH pIc;simp[h]
theorem Yg{i j:Int}(h1:0<j)(h2:j<1073741824):Aax (.int i) (.int j) s=.ok (.int (i / j)) s:=by unfold Aax pIc;simp[CDiv,h1,h2]
theorem Iu{i j:Int}(h:0<j):Aav (.int i) (.int j) s=.ok (.int (i % j)) s:=by unfold Aav pIc;simp[h]
@[simp] theorem Mv(i j:Int):Hq (.int i) (.int j) s=.ok (.int (i+j)) s:=rfl
@[simp] theorem Oj(i j:Int):pEq (.int i) (.int j) s=.ok (.bl (decide (i=j))) s:=rfl
@[simp] theorem Rw(i j:Int):pNe (.int i) (.int j) s=.ok (.bl (!decide (i=j))) s:=rfl
@[simp] theorem Rz(w:W):Ags w .non s=.ok (.bl (isNon w)) s:=rfl
@[simp] theorem ev_rt(w:W):SR.out0 (.rt w s)=.ok w s:=rfl
@[simp] theorem ev_nx:SR.out0 (.nx z s)=.ok .non s:=rfl
end
theorem Eh{s:Sto}{i:Nat}{ws:List W}{k:Int}{v:W}(h:s.get i=some (.lst ws))(hv:atI ws k=some v):Bp (.ref i) (.int k) s=.ok v s:=by simp only[Bp,h,hv]
theorem AbX{s:Sto}{i:Nat}{ws:List W}{k:Int}{v:W}(h:s.get i=some (.lst ws))(hv:atI ws k=some v):Y0 (.ref i) (.int k) s=.ok v s:=by simp only[Y0,h,hv]
theorem Og{s:Sto}{i:Nat}{ws:List W}{k:Int}{j:Nat}{v:W}(h:s.get i=some (.lst ws))(hk:ixN ws.length k=some j):Ph (.ref i) (.int k) v s=.ok () (s.set i (.lst (ws.set j v))):=by simp only[Ph,h,hk]
theorem Abi{α:Type}(xs:List α)(n:Nat):atI xs (OfNat.ofNat n:Int)=xs[n]?:=by
 unfold atI ixN
 by_cases h:n<xs.length
 ·have h1:(0:Int)≤(OfNat.ofNat n:Int):=Int.natCast_nonneg n
  have h2:(OfNat.ofNat n:Int)<xs.length:=Int.ofNat_lt.mpr h
  rw[if_pos h1,if_pos h2]
  rfl
 ·have h1:(0:Int)≤(OfNat.ofNat n:Int):=Int.natCast_nonneg n
  have h2:¬(OfNat.ofNat n:Int)<xs.length:=fun q=>h (Int.ofNat_lt.mp q)
  rw[if_pos h1,if_neg h2]
  exact(List.getElem?_eq_none_iff.mpr (Nat.le_of_not_lt h)).symm
theorem Bg{a b:SM}{z z1:Env0}{s s1:Sto}(h:a z s=.nx z1 s1):Cz a b z s=b z1 s1:=by unfold Cz;rw[h]
theorem Acl{a b:SM}{z:Env0}{w:W}{s s1:Sto}(h:a z s=.rt w s1):Cz a b z s=.rt w s1:=by unfold Cz;rw[h]
theorem Rk{n np:Nat}{b:SM}{ws:List W}{s s1:Sto}{w:W}(hl:ws.length=np)(h:b (Jg n ws) s=.rt w s1):Ip n np b ws s=.ok w s1:=by unfold Ip;rw[if_pos hl,h];rfl
structure Keeps(s s':Sto)(ex:List Nat):Prop where
 next:s.next≤s'.next
 get:∀i,i<s.next→i∉ex→s'.get i=s.get i
theorem Keeps.refl(s:Sto)(ex:List Nat):Keeps s s ex:=⟨Nat.le_refl _,fun _ _ _=>rfl⟩
theorem Keeps.trans{a b c:Sto}{ex:List Nat}(h:Keeps a b ex)(k:Keeps b c ex):Keeps a c ex:=⟨Nat.le_trans h.next k.next,fun i hi hx=>(k.get i (Nat.lt_of_lt_of_le hi h.next) hx).trans (h.get i hi hx)⟩
theorem Keeps.mono{a b:Sto}{ex ex':List Nat}(h:Keeps a b ex)(k:∀i,i∈ex→i∈ex'):Keeps a b ex':=⟨h.next,fun i hi hx=>h.get i hi fun z=>hx (k i z)⟩
theorem Keeps.new(s:Sto)(o:SO)(ex:List Nat):Keeps s (s.new o) ex:=⟨Nat.le_succ _,fun i hi _=>Hj s o hi⟩
theorem Keeps.set(s:Sto)(i:Nat)(o:SO):Keeps s (s.set i o) [i]:=⟨Nat.le_refl _,fun j _ hx=>Ar s o fun e=>hx (by simp[e])⟩
def Sto.wf(s:Sto):Prop:=∀i o,s.get i=some o→i<s.next
theorem Sto.wf.new{s:Sto}(h:s.wf)(o:SO):(s.new o).wf:=fun i u e=>by
 by_cases q:i=s.next
 ·subst q;simp
 ·rw[Am s o q] at e;have:=h i u e;simp;omega
theorem Sto.wf.set{s:Sto}(h:s.wf){i:Nat}(hi:i<s.next)(o:SO):(s.set i o).wf:=fun j u e=>by
 by_cases q:j=i
 ·subst q;exact hi
 ·rw[Ar s o q] at e;exact h j u e
end Fm
namespace Fm
open PySem L2
noncomputable def Ac8:SM:=(Ho (Vo (Ac (eC (.int 0)) (Ac (eC (.int 1234567891)) (Ac (eC (.int 0)) (Ac (eLc (Ae7 (eSl pSl (Af 0) oNo (oAt (eC (.int 63))))) (gNm 1) Gh (Aj (l1 Aeq) (Ac (Af 1) Ao)) [1]) Ao))))))
noncomputable def Afc:SM:=Ac8
noncomputable def AeN:List W→Sto→R W:=Ip 2 1 Afc
noncomputable def M7:SM:=(Jm (eC (.int 0)) (gNm 4))
noncomputable def Ih:SM:=(Jm (eOp Bp (eOp Bp (Af 0) (eC (.int 3))) (eOp Bp (Af 0) (eC (.int 2)))) (gNm 4))
noncomputable def Je:SM:=(sIf (tOf (eOp pLt (eOp Bp (Af 0) (eC (.int 2))) (Aj (l1 Zo) (Ac (eOp Bp (Af 0) (eC (.int 3))) Ao)))) Ih Fl)
noncomputable def M6:SM:=(V1 (pI fun i j=>.int (i+j)) (Af 0) (eC (.int 2)) (eC (.int 1)))
noncomputable def Ig:SM:=(AdW Ph (Af 4) (Af 0) (eC (.int 0)))
noncomputable def Jd:SM:=(sIf (tOf (eOp pGe (Af 4) (eC (.int 1000000000000000000)))) Ig Fl)
noncomputable def M5:SM:=(Jm (eOp Hq (eOp Hq (eOp AbH (eOp Bp (Af 0) (eC (.int 1))) (eC (.int 48271))) (eOp Aav (Aj (l1 Yz) (Ac (Af 4) Ao)) (eC (.int 2147483647)))) (eOp AbH (eC (.int 7919)) (eOp Bp (Af 0) (eC (.int 2))))) (gNm 5))
noncomputable def M4:SM:=(AdW Ph (eOp Aav (Aj (l1 Yz) (Ac (Af 5) Ao)) (eC (.int 2147483647))) (Af 0) (eC (.int 1)))
noncomputable def W7:SM:=(Cz M7 (Cz Je (Cz M6 (Cz Jd (Cz M5 M4)))))
noncomputable def Qx:SM:=(sIf (tOf (eOp pEq (eOp Bp (Af 0) (eC (.int 0))) (eC (.int 0)))) W7 Fl)
noncomputable def Tt:SM:=(Jm (eOp Aav (Aj (l1 Yz) (Ac (eOp Bp (Af 0) (eC (.int 0))) Ao)) (Af 1)) (gNm 6))
noncomputable def Tq:SM:=(AdW Ph (eOp Aax (eOp Bp (Af 0) (eC (.int 0))) (Af 1)) (Af 0) (eC (.int 0)))
noncomputable def Tp:SM:=(Ho (Af 6))
noncomputable def W6:SM:=(Cz Tt (Cz Tq Tp))
noncomputable def Qw:SM:=(sIf (tOf (eOp pGt (eOp Bp (Af 0) (eC (.int 0))) (eC (.int 0)))) W6 Fl)
noncomputable def Vv:SM:=(Jm (eOp Aav (Aj (l1 Yz) (Ac (eOp AbH (eOp Hq (eOp Bp (Af 0) (eC (.int 1))) (eC (.int 1))) (eC (.int 39373))) Ao)) (eC (.int 1000000007))) (gNm 2))
noncomputable def Vu:SM:=(Jm (eOp Aav (Aj (l1 Yz) (Ac (eOp AbH (eOp Aav (Aj (l1 Yz) (Ac (eOp AbH (Af 2) (Af 2)) Ao)) (eC (.int 998244353))) (eC (.int 30011))) Ao)) (eC (.int 998244353))) (gNm 3))
noncomputable def Tn:SM:=(Ho (eOp Aav (Aj (l1 Yz) (Ac (eOp Hq (eOp AbH (Af 3) (eC (.int 1000000007))) (Af 2)) Ao)) (Af 1)))
noncomputable def Vt:SM:=(sIf (tOf (eOp pGt (Af 1) (eC (.int 1000000)))) Tn Fl)
noncomputable def Z8:SM:=(Ho (eOp Aav (Aj (l1 Yz) (Ac (eOp Aax (Af 3) (eC (.int 7))) Ao)) (Af 1)))
noncomputable def Vw:SM:=(Cz Qx (Cz Qw (Cz Vv (Cz Vu (Cz Vt Z8)))))
noncomputable def Cd:List W→Sto→R W:=Ip 7 2 Vw
structure BagAt(s:Sto)(b n:Nat):Prop where
 lt:b<n
 ex:∃(a0 a1 a2:Int) (c:Nat) (ns:List Int),c<n∧s.get b=some (.lst [.int a0,.int a1,.int a2,.ref c])∧s.get c=some (.lst (ns.map W.int))∧c≠b∧0≤a0∧0≤a1∧a1<2147483647∧0≤a2∧∀x∈ns,0≤x
theorem AbO(a b c d:W):atI [a,b,c,d] 0=some a:=rfl
theorem Ae3(a b c d:W):atI [a,b,c,d] 1=some b:=rfl
theorem AbN(a b c d:W):atI [a,b,c,d] 2=some c:=rfl
theorem Ae2(a b c d:W):atI [a,b,c,d] 3=some d:=rfl
theorem AfV(a b c d:W):ixN [a,b,c,d].length 0=some 0:=rfl
theorem Agv(a b c d:W):ixN [a,b,c,d].length 1=some 1:=rfl
theorem Agu(a b c d:W):ixN [a,b,c,d].length 2=some 2:=rfl
theorem atI_get?{α:Type}{xs:List α}{k:Int}(h0:0≤k):atI xs k=xs[k.toNat]?:=by
 obtain⟨n,rfl⟩:=Int.eq_ofNat_of_zero_le h0
 exact Abi xs n
theorem ixI{xs:List Int}{k:Int}(h0:0≤k)(h1:k<xs.length):∃v∈xs,atI (xs.map W.int) k=some (.int v):=by
 have h2:k.toNat<xs.length:=by omega
 exact⟨xs[k.toNat],List.getElem_mem h2,by rw[atI_get? h0];simp[h2]⟩
theorem Yq{i j:Int}(h1:-(2 ^ 64)<j)(h2:j<2 ^ 64):CMul i j:=.inr ⟨h1,h2⟩
theorem Ac5{i j:Int}(h1:-(2 ^ 64)<i)(h2:i<2 ^ 64):CMul i j:=.inl ⟨h1,h2⟩
theorem Afm{s:Sto}{b n:Nat}{many:Int}(h:BagAt s b n):∃u v s',Qx [some (.ref b),some (.int many),none,none,none,none,none] s=.nx [some (.ref b),some (.int many),none,none,u,v,none] s'∧BagAt s' b n∧s'.next=s.next∧∀i,i≠b→s'.get i=s.get i:=by
 obtain⟨a0,a1,a2,c,ns,hcn,hb,hc,hcb,h0,h1,h1',h2,hn⟩:=h.ex
 by_cases q:a0=0
 ·subst q
  have e0:M7 [some (.ref b),some (.int many),none,none,none,none,none] s=.nx [some (.ref b),some (.int many),none,none,some (.int 0),none,none] s:=by simp[M7]
  obtain⟨cell,hcell,e1⟩:∃cell:Int,0≤cell∧Je [some (.ref b),some (.int many),none,none,some (.int 0),none,none] s=.nx [some (.ref b),some (.int many),none,none,some (.int cell),none,none] s:=by
   by_cases l:a2<(ns.length:Int)
   ·obtain⟨v,hv,e⟩:=ixI h2 l
    exact⟨v,hn v hv,by simp[Je,Ih,Eh hb (AbN _ _ _ _),Eh hb (Ae2 _ _ _ _),Zo,hc,l,Eh hc e]⟩
   ·exact⟨0,Int.le_refl _,by simp[Je,Ih,Eh hb (AbN _ _ _ _),Eh hb (Ae2 _ _ _ _),Zo,hc,l]⟩
  let s2:=s.set b (.lst [.int 0,.int a1,.int (a2+1),.ref c])
  have b2:s2.get b=some (.lst [.int 0,.int a1,.int (a2+1),.ref c]):=Az ..
  have e2:M6 [some (.ref b),some (.int many),none,none,some (.int cell),none,none] s=.nx [some (.ref b),some (.int many),none,none,some (.int cell),none,none] s2:=by
   simp[M6,AbX hb (AbN _ _ _ _),Og hb (Agu _ _ _ _),s2]
  obtain⟨a0',h0',s3,b3,hs3,e3⟩:∃(a0':Int) (_:0≤a0') (s3:Sto),s3.get b=some (.lst [.int a0',.int a1,.int (a2+1),.ref c])∧(s3.next=s.next∧∀i,i≠b→s3.get i=s.get i)∧Jd [some (.ref b),some (.int many),none,none,some (.int cell),none,none] s2=.nx [some (.ref b),some (.int many),none,none,some (.int cell),none,none] s3:=by
   by_cases l:(1000000000000000000:Int)≤cell
   ·refine⟨cell,hcell,s2.set b (.lst [.int cell,.int a1,.int (a2+1),.ref c]),Az ..,⟨rfl,fun i hi=>?_⟩,?_⟩
    ·rw[Ar _ _ hi,Ar _ _ hi]
    ·simp[Jd,Ig,l,Og b2 (AfV _ _ _ _)]
   ·exact⟨0,Int.le_refl _,s2,b2,⟨rfl,fun i hi=>Ar _ _ hi⟩,by simp[Jd,Ig,l]⟩
  have hm:=Int.emod_nonneg cell (show(2147483647:Int)≠0 by decide)
  let mixed:Int:=a1*48271+cell % 2147483647+7919*(a2+1)
  have e4:M5 [some (.ref b),some (.int many),none,none,some (.int cell),none,none] s3=.nx [some (.ref b),some (.int many),none,none,some (.int cell),some (.int mixed),none] s3:=by
   simp[M5,Eh b3 (Ae3 _ _ _ _),Eh b3 (AbN _ _ _ _),Ky _ (Yq (i:=a1) (j:=48271) (by decide) (by decide)),Ky _ (Ac5 (i:=7919) (j:=a2+1) (by decide) (by decide)),Iu _ (show(0:Int)<2147483647 by decide),mixed]
  have e5:M4 [some (.ref b),some (.int many),none,none,some (.int cell),some (.int mixed),none] s3=.nx [some (.ref b),some (.int many),none,none,some (.int cell),some (.int mixed),none] (s3.set b (.lst [.int a0',.int (mixed % 2147483647),.int (a2+1),.ref c])):=by
   simp[M4,Iu _ (show(0:Int)<2147483647 by decide),Og b3 (Agv _ _ _ _)]
  refine⟨some (.int cell),some (.int mixed),s3.set b (.lst [.int a0',.int (mixed % 2147483647),.int (a2+1),.ref c]),?_,⟨h.lt,a0',mixed % 2147483647,a2+1,c,ns,hcn,Az ..,?_,hcb,h0',Int.emod_nonneg _ (by decide),Int.emod_lt_of_pos _ (by decide),by omega,hn⟩,hs3.1,fun i hi=>?_⟩
  ·simp only[Qx,Oh,G7,ev_op,ev_var,List.getElem?_cons_zero,Aa,ev_c,Eh hb (AbO _ _ _ _),Oj,decide_true,Ed,Jv,if_true]
   rw[W7,Bg e0,Bg e1,Bg e2,Bg e3,Bg e4,e5]
  ·rw[Ar _ _ hcb,hs3.2 c hcb,hc]
  ·rw[Ar _ _ hi,hs3.2 i hi]
 ·refine⟨none,none,s,?_,h,rfl,fun _ _=>rfl⟩
  simp[Qx,Eh hb (AbO _ _ _ _),q]
theorem AcG{s:Sto}{b n:Nat}{many:Int}(h:BagAt s b n)(h1:0<many)(h2:many<1073741824):∃v s',Cd [.ref b,.int many] s=.ok (.int v) s'∧0≤v∧v<many∧BagAt s' b n∧s'.next=s.next∧∀i,i≠b→s'.get i=s.get i:=by
 obtain⟨u,v,s1,e0,hB,hn,hk⟩:=Afm (many:=many) h
 obtain⟨a0,a1,a2,c,ns,hcn,hb,hc,hcb,h0,h10,h11,h20,hns⟩:=hB.ex
 by_cases q:0<a0
 ·refine⟨a0 % many,s1.set b (.lst [.int (a0 / many),.int a1,.int a2,.ref c]),?_,Int.emod_nonneg _ (by omega),Int.emod_lt_of_pos _ h1,⟨h.lt,a0 / many,a1,a2,c,ns,hcn,Az ..,by rw[Ar _ _ hcb];exact hc,hcb,Int.ediv_nonneg h0 (by omega),h10,h11,h20,hns⟩,hn,fun i hi=>by rw[Ar _ _ hi];exact hk i hi⟩
  refine Rk rfl ?_
  show Vw [some (.ref b),some (.int many),none,none,none,none,none] s = _
  rw[Vw,Bg e0]
  refine Acl ?_
  simp[Qw,W6,Tt,Tq,Tp,Cz,Eh hb (AbO _ _ _ _),q,Iu _ h1,Yg _ h1 h2,Og hb (AfV _ _ _ _)]
 ·have e1:Qw [some (.ref b),some (.int many),none,none,u,v,none] s1=.nx [some (.ref b),some (.int many),none,none,u,v,none] s1:=by simp[Qw,Eh hb (AbO _ _ _ _),q]
  let bg:Int:=(a1+1)*39373 % 1000000007
  have bg0:0≤bg:=Int.emod_nonneg _ (by decide)
  have bg1:bg<1000000007:=Int.emod_lt_of_pos _ (by decide)
  have e2:Vv [some (.ref b),some (.int many),none,none,u,v,none] s1=.nx [some (.ref b),some (.int many),some (.int bg),none,u,v,none] s1:=by
   simp[Vv,Eh hb (Ae3 _ _ _ _),Ky _ (Yq (i:=a1+1) (j:=39373) (by decide) (by decide)),Iu _ (show(0:Int)<1000000007 by decide),bg]
  let sc:Int:=bg*bg % 998244353*30011 % 998244353
  have sc0:0≤sc:=Int.emod_nonneg _ (by decide)
  have sc1:sc<998244353:=Int.emod_lt_of_pos _ (by decide)
  have e3:Vu [some (.ref b),some (.int many),some (.int bg),none,u,v,none] s1=.nx [some (.ref b),some (.int many),some (.int bg),some (.int sc),u,v,none] s1:=by
   simp[Vu,Ky _ (Ac5 (i:=bg) (j:=bg) (by omega) (by omega)),Ky _ (Yq (i:=bg*bg % 998244353) (j:=30011) (by decide) (by decide)),Iu _ (show(0:Int)<998244353 by decide),sc]
  have fin:∀w:Int,∀s1':Sto,Vw [some (.ref b),some (.int many),none,none,none,none,none] s=.rt (.int w) s1'→Cd [.ref b,.int many] s=.ok (.int w) s1':=fun w s1' e=>Rk rfl e
  by_cases l:1000000<many
  ·refine⟨(sc*1000000007+bg) % many,s1,fin _ _ ?_,Int.emod_nonneg _ (by omega),Int.emod_lt_of_pos _ h1,hB,hn,hk⟩
   rw[Vw,Bg e0,Bg e1,Bg e2,Bg e3]
   refine Acl ?_
   simp[Vt,Tn,l,Ky _ (Yq (i:=sc) (j:=1000000007) (by decide) (by decide)),Iu _ h1]
  ·refine⟨(sc / 7) % many,s1,fin _ _ ?_,Int.emod_nonneg _ (by omega),Int.emod_lt_of_pos _ h1,hB,hn,hk⟩
   rw[Vw,Bg e0,Bg e1,Bg e2,Bg e3,Bg (z1:=[some (.ref b),some (.int many),some (.int bg),some (.int sc),u,v,none]) (s1:=s1) (by simp[Vt,l])]
   simp[Z8,Yg _ (show(0:Int)<7 by decide) (show(7:Int)<1073741824 by decide),Iu _ h1]
end Fm
namespace Fm
open PySem L2
theorem Sto.ext'{a b:Sto}(h:a.next=b.next)(g:∀i,a.get i=b.get i):a=b:=by
 cases a;cases b;simp only[Sto.mk.injEq];exact⟨h,funext g⟩
@[simp] theorem new_set(s:Sto)(o o':SO):(s.new o).set s.next o'=s.new o':=Sto.ext' rfl fun i=>by
 by_cases h:i=s.next
 ·subst h;rw[Az,Aq]
 ·rw[Ar _ _ h,Am _ _ h,Am _ _ h]
@[simp] theorem set_set(s:Sto)(i:Nat)(o o':SO):(s.set i o).set i o'=s.set i o':=Sto.ext' rfl fun j=>by
 by_cases h:j=i
 ·subst h;rw[Az,Az]
 ·rw[Ar _ _ h,Ar _ _ h,Ar _ _ h]
theorem Aa5{t:TM}{e:EM}{gd:Sto→Bool}{D i:Nat}{z:Env0}(I:Nat→List W→Sto→Prop):∀(xs:List W) (k:Nat) (acc:List W) (s:Sto),(∀k acc s,I k acc s→gd s=true) →
  (∀j x acc s,xs[j]? = some x→I (k+j) acc s→∃c s2,t (z.set i (some x)) s=.ok c s2∧(c=false→I (k+j+1) acc s2)∧(c=true→∃w s3,e (z.set i (some x)) s2=.ok w s3∧s3.get D=some (.lst acc)∧acc.length<sizeLine∧I (k+j+1) (acc++[w]) (s3.set D (.lst (acc++[w]))))) →
  I k acc s→∃acc' s',Ib (gNm i) t e gd D z xs s=.ok () s'∧I (k+xs.length) acc' s'
 | [],k,acc,s,hd,_,h=>⟨acc,s,by unfold Ib;rw[if_pos (hd k acc s h)],h⟩
 |x::xs,k,acc,s,hd,hs,h=>by
  obtain⟨c,s2,e1,hf,ht⟩:=hs 0 x acc s rfl h
  have nxt:∀j y acc s,xs[j]? = some y→I (k+1+j) acc s→∃c s2,t (z.set i (some y)) s=.ok c s2∧(c=false→I (k+1+j+1) acc s2)∧(c=true→∃w s3,e (z.set i (some y)) s2=.ok w s3∧s3.get D=some (.lst acc)∧acc.length<sizeLine∧I (k+1+j+1) (acc++[w]) (s3.set D (.lst (acc++[w])))):=fun j y acc s hy hI=>by
   have:=hs (j+1) y acc s (by simpa using hy) (by rw[show k+(j+1)=k+1+j by omega];exact hI)
   rw[show k+(j+1)+1=k+1+j+1 by omega] at this
   exact this
  unfold Ib
  rw[if_pos (hd k acc s h)]
  simp only[Oo,Aa,e1,Xo]
  cases c with
  |false =>
   obtain⟨acc',s',e3,h3⟩:=Aa5 I xs (k+1) acc s2 hd nxt (hf rfl)
   exact⟨acc',s',by simp[e3],by rw[List.length_cons,show k+(xs.length+1)=k+1+xs.length by omega];exact h3⟩
  |true =>
   obtain⟨w,s3,e2,hD,hz,h4⟩:=ht rfl
   obtain⟨acc',s',e3,h3⟩:=Aa5 I xs (k+1) (acc++[w]) _ hd nxt h4
   exact⟨acc',s',by simp[e2,hD,hz,e3],by rw[List.length_cons,show k+(xs.length+1)=k+1+xs.length by omega];exact h3⟩
theorem Adl{it:IM}{t:TM}{e:EM}{i:Nat}{vs:List Nat}{z:Env0}{s s1:Sto}{w:ItW}(p:W→Bool)(f:W→W)(hi:it z s=.ok w s1)(hz:w.xs.length≤sizeLine)(hg:∀acc,w.gd (s1.new (.lst acc))=true)
  (ht:∀x∈w.xs,∀acc,t ((Cv z vs).set i (some x)) (s1.new (.lst acc))=.ok (p x) (s1.new (.lst acc))) (he:∀x∈w.xs,p x=true→∀acc,e ((Cv z vs).set i (some x)) (s1.new (.lst acc))=.ok (f x) (s1.new (.lst acc))) :
  eLc it (gNm i) t e vs z s=.ok (.ref s1.next) (s1.new (.lst ((w.xs.filter p).map f))):=by
 obtain⟨acc',s',e1,h1,h2,_⟩:=Aa5 (t:=t) (e:=e) (gd:=w.gd) (D:=s1.next) (i:=i) (z:=Cv z vs) (fun k acc s=>s=s1.new (.lst acc)∧acc=((w.xs.take k).filter p).map f∧acc.length≤k) w.xs 0 [] (s1.new (.lst [])) (fun k acc s h=>by rw[h.1];exact hg acc) (fun j x acc s hx hI=>by
  obtain⟨rfl,ha,hl⟩:=hI
  simp only[Nat.zero_add] at ha hl ⊢
  have hm:=List.mem_of_getElem? hx
  have hj:j<w.xs.length:=(List.getElem?_eq_some_iff.mp hx).1
  have tk:w.xs.take (j+1)=w.xs.take j++[x]:=by rw[List.take_add_one,hx];rfl
  refine⟨p x,_,ht x hm acc,fun q=>⟨rfl,?_,by omega⟩,fun q=>⟨f x,_,he x hm q acc,Aq ..,by omega,by simp,?_,by simp;omega⟩⟩
  ·rw[tk,ha];simp[q]
  ·rw[tk,ha];simp[q]) ⟨rfl,by simp,by simp⟩
 unfold eLc
 rw[hi]
 simp only[Aa,e1,h1]
 rw[h2];simp
theorem Aez{it:IM}{e:EM}{i:Nat}{vs:List Nat}{z:Env0}{s s1:Sto}{w:ItW}(f:W→W)(hi:it z s=.ok w s1)(hz:w.xs.length≤sizeLine)(hg:∀acc,w.gd (s1.new (.lst acc))=true)
  (he:∀x∈w.xs,∀acc,e ((Cv z vs).set i (some x)) (s1.new (.lst acc))=.ok (f x) (s1.new (.lst acc))):eLc it (gNm i) Gh e vs z s=.ok (.ref s1.next) (s1.new (.lst (w.xs.map f))):=by
 have q:=Adl (t:=Gh) (e:=e) (i:=i) (vs:=vs) (fun _=>true) f hi hz hg (fun _ _ _=>rfl) (fun x hx _ acc=>he x hx acc)
 rw[List.filter_eq_self.mpr (fun _ _=>rfl)] at q
 exact q
theorem Ur{α β:Type}(f:α→Option β)(g:α→β):∀(xs:List α),(∀x∈xs,f x=some (g x))→xs.mapM f=some (xs.map g)
 | [],_=>rfl
 |x::xs,h=>by
  rw[List.mapM_cons,h x (List.mem_cons_self ..),Ur f g xs fun y hy=>h y (List.mem_cons_of_mem _ hy)]
  rfl
theorem U8{d:PyData}(h:SeqAt.shaped d=true):PyData.eqv d d=true:=SeqAt.eqv_refl d (SeqAt.canLay_of_shaped h)
theorem Adz{w u:W}{s:Sto}{d:PyData}(h1:rd s 64 w=some d)(h2:rd s 64 u=some d)(hs:SeqAt.shaped d=true)(hn:eqS w u=none):pEq w u s=.ok (.bl true) s:=by
 simp only[pEq,eqD,hn,h1,h2,hs,and_self,if_true,U8 hs]
end Fm
namespace Fm
open PySem L2
theorem BagAt.keep{s s':Sto}{b n:Nat}(h:BagAt s b n)(k:∀i,i<n→s'.get i=s.get i):BagAt s' b n:=by
 obtain⟨a0,a1,a2,c,ns,hcn,h1,h2,h3⟩:=h.ex
 exact⟨h.lt,a0,a1,a2,c,ns,hcn,(k b h.lt).trans h1,(k c hcn).trans h2,h3⟩
theorem BagAt.new{s:Sto}{b n:Nat}(h:BagAt s b n)(hn:n≤s.next)(o:SO):BagAt (s.new o) b n:=h.keep fun i hi=>Hj s o (by omega)
theorem BagAt.set{s:Sto}{b n i:Nat}(h:BagAt s b n)(hn:n≤i)(o:SO):BagAt (s.set i o) b n:=h.keep fun j hj=>Ar s o (by omega)
theorem BagAt.keeps{s s':Sto}{b n:Nat}{ex:List Nat}(h:BagAt s b n)(hn:n≤s.next)(k:Keeps s s' ex)(hx:∀i∈ex,n≤i):BagAt s' b n:=h.keep fun i hi=>k.get i (by omega) fun z=>by have:=hx i z;omega
theorem AeG{α:Type}(xs:List α){k:Int}(h:0≤k):Zt xs none (some k)=xs.take k.toNat:=by
 obtain⟨n,rfl⟩:=Int.eq_ofNat_of_zero_le h
 unfold Zt
 rw[HT.sIx_none,HT.sIx_nat]
 simp only[List.drop_zero,Nat.sub_zero,Int.toNat_natCast]
 by_cases q:n≤xs.length
 ·rw[Nat.min_eq_left q]
 ·rw[Nat.min_eq_right (by omega),List.take_of_length_le (Nat.le_refl _),List.take_of_length_le (by omega)]
def Afe:W→W
 |.int i=>.int (if i<0 then -i else i)
 |w=>w
theorem Abw{z:Env0}{i:Nat}{x:W}{vs:List Nat}(h:i<z.length):((Cv z vs).set i (some x))[i]? = some (some x):=by
 have:(Cv z vs).length=z.length:=by
  induction vs with
  |nil=>rfl
  |cons v vs ih=>unfold Cv;rw[List.length_set,ih]
 rw[List.getElem?_set_self (by rw[this];exact h)]
theorem Adx{s:Sto}{i:Nat}{ws:List W}(h:s.get i=some (.lst ws)):AeY (.ref i) s=.ok ⟨ws,Wf i ws⟩ s:=by simp only[AeY,h]
theorem Ae8{s:Sto}{i:Nat}{ws:List W}{o:SO}(w:s.wf)(h:s.get i=some (.lst ws)):Wf i ws (s.new o)=true:=N8.mpr (by rw[Hj s o (w _ _ h)];exact h)
theorem AeM{s:Sto}{ns:List Int}(w:s.wf)(hl:ns.length≤63):∃s',AeN [.scr ns] s=.ok (.ref (s.next+2)) s'∧s'.wf∧BagAt s' (s.next+2) (s.next+3)∧s'.next=s.next+3∧Keeps s s' []:=by
 let s1:=s.new (.lst ((ns.take 63).map .int))
 let s2:=s1.new (.lst (((ns.take 63).map W.int).map Afe))
 let s3:=s2.new (.lst [.int 0,.int 1234567891,.int 0,.ref (s.next+1)])
 have w1:s1.wf:=w.new _
 have w2:s2.wf:=w1.new _
 have g1:s1.get s.next=some (.lst ((ns.take 63).map .int)):=Aq ..
 have e1:Ae7 (eSl pSl (Af 0) oNo (oAt (eC (.int 63)))) [some (.scr ns),none] s=.ok ⟨(ns.take 63).map .int,Wf s.next ((ns.take 63).map .int)⟩ s1:=by
  unfold Ae7
  simp only[Qq,ev_var,List.getElem?_cons_zero,Aa,Qn,Qo,ev_c,pSl]
  rw[AeG ns (show(0:Int)≤63 by decide)]
  exact Adx g1
 have e2:eLc (Ae7 (eSl pSl (Af 0) oNo (oAt (eC (.int 63))))) (gNm 1) Gh (Aj (l1 Aeq) (Ac (Af 1) Ao)) [1] [some (.scr ns),none] s=.ok (.ref s1.next) s2:=by
  exact Aez (e:=Aj (l1 Aeq) (Ac (Af 1) Ao)) (i:=1) (vs:=[1]) Afe e1 (by simp;exact Nat.le_trans (Nat.min_le_left _ _) (by decide)) (fun acc=>Ae8 w1 g1) (fun x hx acc=>by
   obtain⟨k,_,rfl⟩:=List.mem_map.mp hx
   simp[Abw,Afe])
 have hz:(4:Nat)≤sizeLine:=by decide
 refine⟨s3,?_,w2.new _,⟨by omega,0,1234567891,0,s.next+1,(ns.take 63).map fun i=>if i<0 then -i else i,by omega,Aq ..,?_,by omega,by decide,by decide,by decide,by decide,?_⟩,rfl,((Keeps.new s _ []).trans (Keeps.new s1 _ [])).trans (Keeps.new s2 _ [])⟩
 ·refine Rk rfl ?_
  show Afc [some (.scr ns),none] s = _
  simp[Afc,Ac8,e2,hz,s3]
  exact⟨rfl,rfl⟩
 ·show s3.get (s.next+1) = _
  rw[Hj _ _ (show s.next+1<s2.next by simp[s2,s1])]
  show s2.get s1.next = _
  rw[Aq]
  simp[Afe,Function.comp_def]
 ·intro x hx
  obtain⟨k,_,rfl⟩:=List.mem_map.mp hx
  split<;>omega
end Fm
namespace Fm
open PySem L2
theorem ev_len{s:Sto}{i:Nat}{ws:List W}(h:s.get i=some (.lst ws)):Zo (.ref i) s=.ok (.int ws.length) s:=by simp only[Zo,h]
theorem AaQ{s:Sto}{i j:Nat}{xs ys:List W}(h1:s.get i=some (.lst xs))(h2:s.get j=some (.lst ys))(hz:xs.length+ys.length≤sizeLine):Hq (.ref i) (.ref j) s=.ok (.ref s.next) (s.new (.lst (xs++ys))):=by simp only[Hq,h1,h2,hz,if_true]
theorem AbW{s:Sto}{i:Nat}{ws:List W}(h:s.get i=some (.lst ws)):Kv (.ref i) s=true:=by simp only[Kv,h]
theorem Ov{s:Sto}{i:Nat}{ws:List W}{v:W}(h:s.get i=some (.lst ws))(hz:ws.length<sizeLine):Zq 1 Ey (.ref i) [v] s=.ok .non (s.set i (.lst (ws++[v]))):=by
 simp only[Zq,h,Ey,hz,if_true,List.length_singleton]
theorem Pq{n:Nat}(h:n≤100000):n≤sizeLine:=Nat.le_trans h (by decide)
theorem G9{n:Nat}(h:n≤100000):n<sizeLine:=Nat.lt_of_le_of_lt h (by decide)
end Fm
namespace Fm
open PySem L2
theorem AdQ{K:PySem.W.Frag}{H:Hp}{a:Addr}{xs:List V}(hO:Only H)(h:SqL K H a xs):SqF K H a xs:=by
 rcases h with(h|⟨o,h⟩)|h
 ·rcases hO a with e|⟨o,ys,e⟩
  ·rw[e] at h;cases h
  ·rw[e] at h;cases h
 ·exact .inl ⟨o,h⟩
 ·exact .inr h
end Fm
namespace Fm
open PySem L2
end Fm
namespace Fm
open PySem PySem.Spec PyProof.Rows L2
structure FnG(P:Program)(w:World)(K:PySem.W.Frag)(mg:Str→Option Value)(base:Heap)(CX:CXT)(k:Nat)(f:Addr)(fd:FuncData)(ps:List Str)(sp:Sp):Prop where
 len:∀vs H Q E,sp vs H Q E→vs.length=ps.length
 run:∀(A:Around) (stk:List Env) (s:Shared) (H:Hp) (ar:Args) (us:List Value) (vs:List V) (Q:VK) (E:XK),A.guards=some []→Room k A→L2.Env0 P w K mg base A stk s H→BindsTo s fd ar (ps.zip us)→Vals vs us→sp vs H Q E →
  codeAny (model P w) A (.call (.ref f) ar) (CR CX stk P w H s Q E) s
theorem FnG.imp{P:Program}{w:World}{K:PySem.W.Frag}{mg:Str→Option Value}{base:Heap}{CX:CXT}{k:Nat}{f:Addr}{fd:FuncData}{ps:List Str}{sp sp':Sp}(F:FnG P w K mg base CX k f fd ps sp)(h:∀vs H Q E,sp' vs H Q E→sp vs H Q E):FnG P w K mg base CX k f fd ps sp' :=
 ⟨fun vs H Q E q=>F.len vs H Q E (h _ _ _ _ q),fun A stk s H ar us vs Q E g hr he hb hv hs=>F.run A stk s H ar us vs Q E g hr he hb hv (h _ _ _ _ hs)⟩
theorem Ae9{CX:CXT}{P:Program}{w:World}{K:PySem.W.Frag}{mg:Str→Option Value}{base:Heap}{k:Nat}{f:Addr}{x qual:Str}{params:Arguments}{body:List Stmt}{sc:Scope}{dV kV doc pm cdv ct oc:Value}{an od:Option Addr}{osl:Array (Option Value)}{N ps:List Str}{sp:Sp}
  (lk:K.lookup f=some ⟨oc,od,.func (PySem.W.fnOf x qual params body sc dV kV doc pm an cdv ct),osl⟩) (hcd:PySem.W.codeIn K cdv qual=true) (S:FnScope N ps sc) (len:∀vs H Q E,sp vs H Q E→vs.length=ps.length)
  (hb:∀(A:Around) (stk:List Env) (s:Shared) (H:Hp) (vs:List V) (Q:VK) (E:XK),A.guards=some []→Room k (A.deeper (envOfC qual sc s.heap.objs.size f cdv))→sp vs H Q E →
   ∃t,PSs (cxOf CX P w K mg base N qual sc f cdv A stk s H E) body t∧t { nx:=fun _ H'=>Q .non H',rt:=Q } (start N vs) H) :
  FnG P w K mg base CX (k+1) f (PySem.W.fnOf x qual params body sc dV kV doc pm an cdv ct) ps sp:=by
 refine⟨len,fun A stk s H ar us vs Q E gd hr e0 bd r hsp=>?_⟩
 have keep:∀b o,base.get? b=some o→s.heap.get? b=some o:=fun b o e=>(e0.bs b o e).1
 have kx:K.In s.heap:=e0.mod.kin.keeps keep
 have kinds:∀y∈ps.zip us,sc.names.lookup y.1=some .local∨(sc.names.lookup y.1=some .cell∧((cellsFrom (s.heap.objs.size+1) sc.names []).lookup y.1).isSome=true):=by
  rintro⟨y,v⟩ hy
  exact(S.par y (List.of_mem_zip hy).1).imp id fun q=>⟨q,PySem.W.cellsFrom_some _ _ _ (.inl q)⟩
 refine codeAny_call_function hr.depth (kx _ _ lk) rfl S.co S.gen rfl (PySem.W.codeRec_of kx hcd) (bd _ _ _ _ (wpAny_newFunctionEnv_cells S.kind kinds fun env he s1 ic=>?_))
 subst he
 obtain⟨t,ht,hq⟩:=hb A stk s H vs Q E gd (hr.deeper _) hsp
 have J0:Inv (cxOf CX P w K mg base N qual sc f cdv A stk s H E) [] (start N vs) H s1:=inv_start S hr.hd e0 (len _ _ _ _ hsp) r ic
 refine⟨(e0.mod.nolimit.keeps keep).keeps ic.toInCall.keep,codeAny_func (wpAny_mono (ht.run [] s1 (start N vs) H _ J0 hq) (fun fl s' hs=>?_) fun _ _ z=>z)⟩
 match fl,hs with
 |.ret u,⟨v,σ',H',J,rv,q⟩=>exact⟨v,H',J.os,J.bare,J.base,J.hok,rv,q⟩
 |.next,⟨σ',H',J,q⟩=>exact⟨.non,H',J.os,J.bare,J.base,J.hok,rfl,q⟩
 |.brk,⟨_,_,_,q⟩=>exact q.elim
 |.cont,⟨_,_,_,q⟩=>exact q.elim
section
variable {G:Gw} {X:Cx} {CX:CXT} {k:Nat} {E1:XK} {mf:List W→Sto→R W}
theorem AaL{P:Program}{w:World}{mg:Str→Option Value}{base:Heap}{N ps:List Str}{x qual:Str}{st:Stmt}{f:Addr}{fd:FuncData}{k:Nat}{b:SM}(F:Fun G.K x qual st f fd)(S:FnScope N ps (defScope st))
  (h:∀(cdv:Value) (A:Around) (outer:List Env) (s:Shared) (H:Hp) (E:XK),A.guards=some []→Room k (A.deeper (PyProof.Rows.envOfC qual (defScope st) s.heap.objs.size f cdv))→SSs G (fun _=>E0) (cxOf CX0 P w G.K mg base N qual (defScope st) f cdv A outer s H E).nox (defBody st) b) :
  FnG P w G.K mg base CX0 (k+1) f fd ps (spM G (Ip N.length ps.length b)):=by
 have sp':FnG P w G.K mg base CX0 (k+1) f fd ps (fun vs H Q E=>vs.length=ps.length∧spM G (Ip N.length ps.length b) vs H Q E):=by
  obtain⟨oc,od,kV,doc,pm,an,cdv,ct,osl,rfl,lk,hcd⟩:=F.ex
  refine Ae9 lk hcd S (fun vs H Q E q=>q.1) fun A outer s H vs Q E gd hr q=>?_
  obtain⟨hl,p,s',ws,m,r,q⟩:=q
  obtain⟨t,h1,h2⟩:=h cdv A outer s H E gd hr
  refine⟨t,h1.nox,h2 _ _ _ H p s' (Pk N r) m ?_⟩
  have hl':ws.length=ps.length:=by rw[←r.length];exact hl
  unfold Ip at q
  rw[if_pos hl'] at q
  cases e:b (Jg N.length ws) s' with
  |rt w1 s1=>rw[e] at q;exact q
  |nx z1 s1=>rw[e] at q;exact fun p' H' σ' x m r=>q p' H' _ x m .non
  |bk _ _=>rw[e] at q;exact q.elim
  |ct _ _=>rw[e] at q;exact q.elim
  |exn _ _ _ _=>rw[e] at q;exact q.elim
  |bad=>rw[e] at q;exact q.elim
 refine sp'.imp fun vs H Q E q=>⟨?_,q⟩
 obtain⟨p,s',ws,m,r,q⟩:=q
 by_cases e:ws.length=ps.length
 ·rw[r.length];exact e
 ·unfold Ip at q;rw[if_neg e] at q;exact q.elim
structure FgM(G:Gw)(P:Program)(w:World)(mg:Str→Option Value)(base:Heap)(CX:CXT)(k:Nat)(n:String)(m:List W→Sto→R W):Prop where
 ex:∃fd ps,FnG P w G.K mg base CX k (G.at_ n) fd ps (spM G m)∧mg (Str.ofString n)=some (.ref (G.at_ n))∧PySem.W.keepIn G.K (.ref (G.at_ n))=true∧Binds G.K fd ps []
theorem AcS{pins:List (Addr×Obj)}{σ:L2.St}{H:Hp}{s:Shared}{Q:VK}{us:List Value}{vs:List V}{f:Addr}{fd:FuncData}{ps:List Str}{sp:Sp}(F:FnG X.prog X.w X.K X.mg X.base CX k f fd ps sp)(gd:X.A.guards=some [])(hr:Room k X.A)(hb:Binds X.K fd ps [])(hx:Passes CX X E1)
  (I:Inv X pins σ H s) (r:Vals vs us) (h:sp vs H Q E1):wpAny (model X.prog X.w) X.A (call (.ref f) us) (EP X pins σ Q) X.xe s:=by
 have hl:(us++[]).length=ps.length:=by rw[List.append_nil,←r.length];exact F.len _ _ _ _ h
 have bb:=hb s us I.kIn hl
 rw[List.append_nil] at bb
 refine wpAny_call (codeAny_mono (F.run X.A X.stack s H ⟨us,[]⟩ us vs Q E1 gd hr I.env0 bb r h) fun q s' hq=>?_)
 match q,hq with
 |.error e,hq=>exact hx pins σ H s e s' I hq
 |.ok (.ret u),hq=>exact I.after hq
 |.ok .next,hq=>exact hq.elim
 |.ok .brk,hq=>exact hq.elim
 |.ok .cont,hq=>exact hq.elim
theorem Lw{n:String}{e:Expr}{es:List Expr}{ma:AM}{p0 pos:Pos}(F:FgM G X.prog X.w X.mg X.base CX k n mf)(gd:X.A.guards=some [])(hr:Room k X.A)(hx:Passes CX X E1)(ha:SA G (fun _=>E1) X (e::es) ma)(hg:Gl X (Str.ofString n):=by rfl)(hK:X.K=G.K:=by rfl)
  (hdb:(Str.ofString n==("__debug__" : Str))=false:=by decide) (he:starEach (e::es) X.env=(false,eval e X.env)::starEach es X.env:=by rfl) (hpl:(backTo pos (starEach es X.env)).any (·.1)=false:=by rfl) :
  SE G (fun _=>E1) X (.Call (.Name (Str.ofString n) p0) (e::es) [] pos) (Aj mf ma):=by
 obtain⟨fd,ps,h1,h2,h3,h4⟩:=F.ex
 obtain⟨t,h5,h6⟩:=ha
 rw[←hK] at h1 h3 h4
 refine⟨fun σ H Q=>t σ H fun vs H1=>spM G mf vs H1 Q E1,⟨fun pins s σ H Q I h=>?_⟩,fun σ z H p s Q rs m h=>h6 σ z H p s _ rs m (Bf.bind h fun ws s1 _ p1 H1 xs e1 m1 r1 h1=>⟨p1,s1,ws,m1,r1,h1⟩)⟩
 exact wpAny_Call_Name_kw (ld_glob I hg h2 (PySem.W.callWith_K (h₀:=X.base) I.ok.mod.kin h3 (thn (h5.run pos pins s σ H _ I h) fun us s1 ⟨vs,H1,I1,r,q⟩=>⟨I1.kIn,AcS h1 gd hr h4 hx I1 r q⟩) he hpl) hdb)
def Ack(d:PyData):Bool:=d.showable && !d.hasDict&&decide (d.depth<60)&&decide (d.shown.length≤sizeLine)
end
end Fm
namespace Fm
open PySem PySem.Spec PyProof.Rows L2
theorem Agw{P:Program}{w:World}{K:PySem.W.Frag}{mg mb:Str→Option Value}{CX:CXT}{k:Nat}{fa a:Addr}{fd:FuncData}{x:Str}{sp:Sp}{t:Shared}{vs:List Value}{ns:List Int}
  (kin:K.In t.heap) (gns:t.heap.Ns mainGlobals mg) (bns:t.heap.Ns builtinsNs mb) (boot:∀y:Str,y ≠ "__name__" → mb y=bootBuiltins y) (nlim:t.heap.NoLimit) (gens:t.gens=#[])
  (ao:t.heap.get? a=some { cls:=.type "list", data:=.seq vs.toArray }) (ii:IntsAre vs ns) (ln:ns.length≤sizeLine) (hr:Room k callerA)
  (F:∀base:Heap,K.In base→base.Ns mainGlobals mg→FnG P w K mg base CX k fa fd [x] sp) (bd:∀(s:Shared) (u:Value),BindsTo s fd ⟨[u],[]⟩ [(x,u)])
  (hsp:∀H:Hp,Only H→SqL K H a (ns.map V.int)→sp [.ref a] H (fun v _=>v=.bl true) fun _ _ _=>False)
  (hCX:∀H e s',CX [] H t (fun _ _ _=>False) e s'→False) :
  codeAny (model P w) callerA (.call (.ref fa) ⟨[.ref a],[]⟩) (fun r s'=>r=.ok (.ret (.bool true))∧OldK t.heap s'.heap∧s'.os=t.os∧AllBare s'.gens) t:=by
 -- H tracks nothing but the script
 have main:∀H:Hp,(∀b,H b≠none→b=a∧K.lookup a=none)→Only H→SqL K H a (ns.map V.int)→HOk P w H t.heap →
   codeAny (model P w) callerA (.call (.ref fa) ⟨[.ref a],[]⟩) (fun r s'=>r=.ok (.ret (.bool true))∧OldK t.heap s'.heap∧s'.os=t.os∧AllBare s'.gens) t:=by
  intro H own only sq hok
  have up:∀{b:Addr} {o:Obj},t.heap.get? b=some o→(b≠a∨K.lookup b≠none)→(hidT t.heap H).get? b=some o:=fun{b o} e h=>hidT_get e (by
   cases q:H b with
   |none=>rfl
   |some u =>
    obtain⟨e1,e2⟩:=own b (by rw[q];simp)
    subst e1
    rcases h with h|h
    ·exact absurd rfl h
    ·exact absurd e2 h)
  have ns':∀{b:Addr} {m:Str→Option Value},t.heap.Ns b m→(hidT t.heap H).Ns b m:=by
   rintro b m ⟨o,es,ep,e,d,rest⟩
   refine⟨o,es,ep,up e (.inl fun z=>?_),d,rest⟩
   subst z
   rw[ao] at e
   cases e
   exact Data.noConfusion d
  have hK:K.In (hidT t.heap H):=fun b o e=>up (kin b o e) (.inr (by rw[e];simp))
  obtain⟨mc,l1,l2⟩:=nlim
  have env:L2.Env0 P w K mg (hidT t.heap H) callerA [] t H :=
   { frames:=rfl,mod:=⟨hK,ns' gns,⟨mb,ns' bns,boot⟩,⟨mc,ns' l1,l2⟩⟩,bs:=fun b o e=>of_hidT e,bsz:=Nat.le_of_eq (hidT_size _ _),funs:=trivial,frf:=fun b hb=>(nomatch (show b∈([]:List Addr) from hb)),hok:=hok,bare:=.of_eq gens }
  refine codeAny_mono ((F _ hK (ns' gns)).run callerA [] t H ⟨[.ref a],[]⟩ [.ref a] [.ref a] _ _ rfl hr env (bd t (.ref a)) (.cons rfl .nil) (hsp H only sq)) fun q s' h=>?_
  match q,h with
  |.error e,h=>exact(hCX H e s' h).elim
  |.ok .next,h=>exact h.elim
  |.ok .brk,h=>exact h.elim
  |.ok .cont,h=>exact h.elim
  |.ok (.ret u),⟨v,H',os,bare,un,hok',rv,qv⟩ =>
   have qv:v=.bl true:=qv
   subst qv
   cases rv
   refine⟨rfl,OldK.of_keep fun b o e=>?_,os,bare⟩
   cases z:H b with
   |none=>exact un.keep b o e z (fun m=>(nomatch (show b∈([]:List Addr) from m))) (by simp)
   |some ob =>
    rcases only b with y|⟨o1,xs,y⟩
    ·rw[z] at y;cases y
    ·obtain⟨d1,_⟩:=hok b _ y
     obtain⟨d2,_⟩:=hok' b _ (un.frzs b o1 _ y)
     rw[d1] at e
     cases e
     exact d2
 have rel:=vals_ints ii
 cases lk:K.lookup a with
 |some o =>
  have same:=(kin a o lk).symm.trans ao
  cases same
  exact main (fun _=>none) (fun b z=>absurd rfl z) (fun _=>.inl rfl) (.inr ⟨_,vs.toArray,_,lk,rfl,rfl,rfl,by rw[List.size_toArray,ii.length];exact ln,by simpa using rel⟩) (fun b u z=>nomatch z)
 |none =>
  let H:Hp:=fun b=>if b=a then some (.frz { cls:=.type "list", data:=.seq vs.toArray } (.lst (ns.map V.int))) else none
  have hit:H a=some (.frz { cls:=.type "list", data:=.seq vs.toArray } (.lst (ns.map V.int))):=if_pos rfl
  have miss:∀b,b≠a→H b=none:=fun b h=>if_neg h
  refine main H (fun b z=>⟨Classical.byContradiction fun h=>z (miss b h),lk⟩) (fun b=>?_) (.inl (.inr ⟨_,hit⟩)) (fun b u z=>?_)
  ·rcases Classical.em (b=a) with rfl|h
   ·exact .inr ⟨_,_,hit⟩
   ·exact .inl (miss b h)
  ·rcases Classical.em (b=a) with rfl|h
   ·rw[hit] at z
    cases z
    exact⟨ao,by rw[List.length_map];exact ln,vs,_,rel,ao⟩
   ·rw[miss b h] at z;cases z
theorem Afh{l:PySem.W.OpenLaw}{n k:Nat}{q:Program}{loose:List Str}{XP:(Str→Option Value)→Heap→Prop}{YP:World→Heap→Prop}{d:DefRec}{K:Params→PySem.W.Frag}{sp:World→Sp}{x:Str}
  (hn:l.most=some n) (hn2:n≤sizeLine) (hdf:d.params.defaults=[]) (hr:Room k callerA) (hY:∀(w:World) (h:Heap),YP w h→(K w.params).In h)
  (F:∀(w:World) (mg:Str→Option Value) (fa:Addr) (h:Heap),(K w.params).In h→h.Ns mainGlobals mg→mg d.name=some (.ref fa) →
   ∃fd:FuncData,(∀(s:Shared) (u:Value),BindsTo s fd ⟨[u],[]⟩ [(x,u)])∧∀base:Heap,(K w.params).In base→base.Ns mainGlobals mg→FnG l.prog w (K w.params) mg base CX0 k fa fd [x] (sp w))
  (hsp:∀(w:World) (H:Hp) (a:Addr) (ns:List Int),ns.length≤n→Only H→SqL (K w.params) H a (ns.map V.int)→sp w [.ref a] H (fun v _=>v=.bl true) fun _ _ _=>False) :
  PySem.W.WalkO q loose XP YP l.row.toRowW d [] (fun f vs=>PySem.call f vs) :=
 Att.attach_call hn hdf fun w s0 s1 mg mb fa o pm cd doc a vs ns G Y ho hd hcd hmg hobj hints hlen hg=>by
  obtain⟨fd,bd,hF⟩:=F w mg fa _ (hY w _ Y) G.T.g hmg
  exact Agw (hY w _ Y) G.T.g G.T.b G.T.builtins G.T.nolimit hg hobj hints (Nat.le_trans hlen hn2) hr hF bd (fun H hO hS=>hsp w H a ns hlen hO hS) fun _ _ _ z=>z
end Fm
namespace Fm
open PySem PySem.Spec PyProof.Rows L2
end Fm
namespace Fm
open PySem L2
end Fm
namespace Fm
open PySem L2
structure Tame(k m:Nat)(d:PyData):Prop where
 lay:d.canLay0=true
 leaf:d.leavesShort 64=true
 shw:d.showable=true
 nod:d.hasDict=false
 dep:d.depth≤k
 wt:d.weight≤m
theorem Tame.shaped{k m:Nat}{d:PyData}(t:Tame k m d)(h:k<60):SeqAt.shaped d=true:=(Bool.and_eq_true _ _).mpr ⟨t.lay,decide_eq_true (by have:=t.dep;omega)⟩
theorem Tame.show_{k m:Nat}{d:PyData}(t:Tame k m d)(h:k<60)(hm:m≤250000):Ack d=true:=by
 have h1:=PyData.shown_le 64 (by decide) d t.leaf
 have h2:=t.wt;have h3:=t.dep
 have e:sizeLine=16777216:=by decide
 have a1:d.depth<60:=by omega
 have a2:d.shown.length≤sizeLine:=by rw[e];omega
 simp[Ack,t.shw,t.nod,a1,a2]
theorem Tame.mono{k m k' m':Nat}{d:PyData}(t:Tame k m d)(h1:k≤k')(h2:m≤m'):Tame k' m' d:=⟨t.lay,t.leaf,t.shw,t.nod,Nat.le_trans t.dep h1,Nat.le_trans t.wt h2⟩
theorem Aat{n:Nat}(h:n<10 ^ 60):n.log2<200:=by
 by_cases e:n=0
 ·subst e;decide
 ·have:n.log2<200:=(Nat.log2_lt e).mpr (Nat.lt_of_lt_of_le h (by decide))
  exact this
theorem Ab2{i:Int}(h:i.natAbs<10 ^ 60):Tame 0 200 (.int i):=by
 refine⟨rfl,?_,?_,rfl,Nat.le_refl _,?_⟩
 ·simp only[PyData.leavesShort,decide_eq_true_eq]
  show(Str.ofString (toString i)).length≤64
  rw[ofString_length]
  exact Nat.le_trans (int_text_length_le10 (k:=60) (by decide) h) (by decide)
 ·simp only[PyData.showable,decide_eq_true_eq];have:=Aat h;omega
 ·have:=Aat h
  simp only[PyData.weight]
  split<;>omega
theorem Z5:Tame 0 1 .none:=⟨rfl,rfl,rfl,rfl,Nat.le_refl _,by simp[PyData.weight]⟩
theorem Th(b:Bool):Tame 0 1 (.bool b):=⟨rfl,rfl,rfl,rfl,Nat.le_refl _,by simp[PyData.weight]⟩
theorem W4{k m:Nat}:∀{ds:List PyData},(∀d∈ds,Tame k m d)→PyData.canLayAll0 ds=true∧PyData.leavesShortAll 64 ds=true∧PyData.showableAll ds=true∧PyData.hasDictAll ds=false∧PyData.depthAll ds≤k∧PyData.weightAll ds≤(m+1)*ds.length
 | [],_=>⟨rfl,rfl,rfl,rfl,Nat.zero_le _,by simp[PyData.weightAll]⟩
 |d::ds,h=>by
  obtain⟨a1,a2,a3,a4,a5,a6⟩:=W4 fun x hx=>h x (List.mem_cons_of_mem _ hx)
  have t:=h d (by simp)
  refine⟨by simp[PyData.canLayAll0,t.lay,a1],by simp[PyData.leavesShortAll,t.leaf,a2],by simp[PyData.showableAll,t.shw,a3],by simp[PyData.hasDictAll,t.nod,a4],?_,?_⟩
  ·simp only[PyData.depthAll];have:=t.dep;omega
  ·simp only[PyData.weightAll,List.length_cons,Nat.mul_add,Nat.mul_one];have:=t.wt;omega
theorem Z6{k m:Nat}{ds:List PyData}(h:∀d∈ds,Tame k m d):Tame (k+1) ((m+1)*ds.length) (.list ds):=by
 obtain⟨a1,a2,a3,a4,a5,a6⟩:=W4 h
 exact⟨a1,a2,by simpa [PyData.showable] using a3,by simpa [PyData.hasDict] using a4,by simp only[PyData.depth];omega,by simp only[PyData.weight];exact a6⟩
end Fm
namespace Fm
open PySem L2
end Fm
namespace Fm
open PySem PySem.Spec PyProof.Rows L2
end Fm
namespace Fm
open PySem L2
section
variable {G:Gw} {X:Cx} {E1:XK} {E:St→XK}
theorem T7{p:Pl}{H:Hp}{ws:List W}{vs:List V}(r:RelWs G p H ws vs):∀n:Nat,RelWs G p H (List.replicate n ws).flatten (List.replicate n vs).flatten
 |0=>by simp;exact .nil
 |n+1=>by rw[List.replicate_succ,List.replicate_succ,List.flatten_cons,List.flatten_cons];exact r.append (T7 r n)
end
end Fm
namespace Fm
open PySem L2
end Fm
namespace Fm
open PySem L2
abbrev XP:=String→List (String×W)→Sto→Prop
def R.wp{α:Type}(r:R α)(Q:α→Sto→Prop)(X:XP):Prop:=match r with
 |.ok a s=>Q a s
 |.exn C fs s=>X C fs s
 |.bad=>False
structure Kt where
 nx:Env0→Sto→Prop
 rt:W→Sto→Prop
 bk:Env0→Sto→Prop
 ct:Env0→Sto→Prop
 ex:String→List (String×W)→Env0→Sto→Prop
def SR.wp(r:SR)(K:Kt):Prop:=match r with
 |.nx z s=>K.nx z s
 |.rt w s=>K.rt w s
 |.bk z s=>K.bk z s
 |.ct z s=>K.ct z s
 |.exn C fs z s=>K.ex C fs z s
 |.bad=>False
theorem Abv{α:Type}(a:α)(s:Sto)(Q:α→Sto→Prop)(X:XP):(R.ok a s).wp Q X=Q a s:=rfl
theorem Wy{α:Type}(C:String)(fs:List (String×W))(s:Sto)(Q:α→Sto→Prop)(X:XP):(R.exn C fs s).wp Q X=X C fs s:=rfl
theorem Wz{α:Type}(Q:α→Sto→Prop)(X:XP):(R.bad:R α).wp Q X=False:=rfl
theorem wp_bind{α β:Type}(r:R α)(f:α→Sto→R β)(Q:β→Sto→Prop)(X:XP):(r.bind f).wp Q X=r.wp (fun a s=>(f a s).wp Q X) X:=by cases r<;>rfl
theorem Tc(z:Env0)(s:Sto)(K:Kt):(SR.nx z s).wp K=K.nx z s:=rfl
theorem Abr(w:W)(s:Sto)(K:Kt):(SR.rt w s).wp K=K.rt w s:=rfl
theorem Abu(z:Env0)(s:Sto)(K:Kt):(SR.bk z s).wp K=K.bk z s:=rfl
theorem Abt(z:Env0)(s:Sto)(K:Kt):(SR.ct z s).wp K=K.ct z s:=rfl
theorem Wx(C:String)(fs:List (String×W))(z:Env0)(s:Sto)(K:Kt):(SR.exn C fs z s).wp K=K.ex C fs z s:=rfl
theorem Abs{α:Type}(r:R α)(z:Env0)(f:α→Sto→SR)(K:Kt):(r.go z f).wp K=r.wp (fun a s=>(f a s).wp K) (fun C fs s=>K.ex C fs z s):=by cases r<;>rfl
theorem S9(a b:SM)(z:Env0)(s:Sto)(K:Kt):(Cz a b z s).wp K=(a z s).wp { K with nx:=fun z1 s1=>(b z1 s1).wp K }:=by
 unfold Cz
 cases h:a z s<;>rfl
def kN(N:Env0→Sto→Prop):Kt:=⟨N,fun _ _=>False,fun _ _=>False,fun _ _=>False,fun _ _ _ _=>False⟩
def kF(Q:W→Sto→Prop):Kt:=⟨fun _ s=>Q .non s,Q,fun _ _=>False,fun _ _=>False,fun _ _ _ _=>False⟩
def Kt.loop(K:Kt)(I:Env0→Sto→Prop):Kt:=⟨I,K.rt,K.nx,I,K.ex⟩
theorem AdI{r:SR}{N:Env0→Sto→Prop}{K:Kt}(h:r.wp (kN N))(f:∀z s,N z s→K.nx z s):r.wp K:=by
 cases r with
 |nx z s=>exact f _ _ h
 |_=>exact h.elim
theorem Adw{n np:Nat}{b:SM}{ws:List W}{s:Sto}{Q:W→Sto→Prop}(hl:ws.length=np)(h:(b (Jg n ws) s).wp (kF Q)):∃w s',Ip n np b ws s=.ok w s'∧Q w s':=by
 unfold Ip
 rw[if_pos hl]
 cases e:b (Jg n ws) s with
 |nx z t=>rw[e] at h;exact⟨_,_,rfl,h⟩
 |rt w t=>rw[e] at h;exact⟨_,_,rfl,h⟩
 |_=>rw[e] at h;exact h.elim
theorem Zw{g:GM}{b:SM}{gd:Sto→Bool}{i:Nat}{K:Kt}(I:Nat→Env0→Sto→Prop)(hg:g=gNm i):∀(xs:List W) (k:Nat) (z:Env0) (s:Sto),(∀k z s,I k z s→gd s=true) →
  (∀j x z s,xs[j]? = some x→I (k+j) z s→(b (z.set i (some x)) s).wp (K.loop (I (k+j+1))))→(∀z s,I (k+xs.length) z s→K.nx z s)→I k z s→(forLoop g b gd xs z s).wp K
 | [],k,z,s,hd,_,he,h=>by unfold forLoop;rw[if_pos (hd k z s h)];exact he z s h
 |x::xs,k,z,s,hd,hs,he,h=>by
  have h2:=hs 0 x z s rfl h
  unfold forLoop
  rw[if_pos (hd k z s h)]
  subst hg
  simp only[Oo,Jv]
  have rc:=fun z2 s2=>Zw (g:=gNm i) (K:=K) (b:=b) (gd:=gd) I rfl xs (k+1) z2 s2 hd (fun j y z s hy hI=>by
   have:=hs (j+1) y z s (by simpa using hy) (by rw[show k+(j+1)=k+1+j by omega];exact hI)
   rw[show k+(j+1)+1=k+1+j+1 by omega] at this
   exact this) (fun z s h=>he z s (by rw[List.length_cons,show k+(xs.length+1)=k+1+xs.length by omega];exact h))
  cases e:b (z.set i (some x)) s with
  |nx z2 s2=>rw[e] at h2;exact rc z2 s2 h2
  |ct z2 s2=>rw[e] at h2;exact rc z2 s2 h2
  |bk z2 s2=>rw[e] at h2;exact h2
  |rt w s2=>rw[e] at h2;exact h2
  |exn C fs z2 s2=>rw[e] at h2;exact h2
  |bad=>rw[e] at h2;exact h2
theorem Ww{b:SM}{i n:Nat}{z:Env0}{s s1:Sto}{as:AM}{K:Kt}(I:Nat→Env0→Sto→Prop)(ha:as z s=.ok [.int n] s1)(hn:n<1000000000)(h0:I 0 z s1)
  (hs:∀k z s,k<n→I k z s→(b (z.set i (some (.int k))) s).wp (K.loop (I (k+1)))) (he:∀z s,I n z s→K.nx z s):(Abn (iRng1 as) (gNm i) b z s).wp K:=by
 have e:Abn (iRng1 as) (gNm i) b z s=forLoop (gNm i) b (fun _=>true) (AbA 0 n) z s1:=by
  unfold Abn iRng1
  rw[ha]
  simp only[Aa,Xv,Np (j:=(n:Int)) (by omega) (by omega),if_true,Jv,Int.toNat_natCast]
 rw[e]
 refine Zw (gd:=fun _=>true) (b:=b) (i:=i) I rfl (AbA 0 n) 0 z s1 (fun _ _ _ _=>rfl) (fun j x z s hx hI=>?_) (fun z s h=>he z s (by simpa [AbA] using h)) h0
 simp only[AbA,List.getElem?_map] at hx
 have hj:j<n:=by
  by_cases q:j<n
  ·exact q
  ·rw[List.getElem?_eq_none_iff.mpr (by simp;omega)] at hx;cases hx
 rw[List.getElem?_range hj] at hx
 simp at hx;subst hx
 simp only[Nat.zero_add] at hI ⊢
 exact hs j z s hj hI
theorem AeZ{α:Sort _}(a b:α):(if true=true then a else b)=a:=rfl
theorem Afa{α:Sort _}(a b:α):(if false=true then a else b)=b:=rfl
structure TameAll(k m:Nat)(ds:List PyData):Prop where
 lay:PyData.canLayAll0 ds=true
 leaf:PyData.leavesShortAll 64 ds=true
 shw:PyData.showableAll ds=true
 nod:PyData.hasDictAll ds=false
 dep:PyData.depthAll ds≤k
 wt:PyData.weightAll ds≤m
theorem Z7(k:Nat):TameAll k 0 []:=⟨rfl,rfl,rfl,rfl,Nat.zero_le _,by simp[PyData.weightAll]⟩
theorem Yu{k m m':Nat}{d:PyData}{ds:List PyData}(t:Tame k m d)(a:TameAll k m' ds):TameAll k (m+1+m') (d::ds):=by
 refine⟨by simp[PyData.canLayAll0,t.lay,a.lay],by simp[PyData.leavesShortAll,t.leaf,a.leaf],by simp[PyData.showableAll,t.shw,a.shw],by simp[PyData.hasDictAll,t.nod,a.nod],?_,?_⟩
 ·simp only[PyData.depthAll];have:=t.dep;have:=a.dep;omega
 ·simp only[PyData.weightAll];have:=t.wt;have:=a.wt;omega
theorem Tj{α:Type}{k m:Nat}{f:α→PyData}:∀{xs:List α},(∀x∈xs,Tame k m (f x))→TameAll k ((m+1)*xs.length) (xs.map f)
 | [],_=>by simpa using Z7 k
 |x::xs,h=>by
  have a:=Tj (xs:=xs) fun y hy=>h y (List.mem_cons_of_mem _ hy)
  have:=Yu (h x (by simp)) a
  rw[List.map_cons,List.length_cons,Nat.mul_add,Nat.mul_one,Nat.add_comm]
  exact this
theorem TameAll.list{k m:Nat}{ds:List PyData}(a:TameAll k m ds):Tame (k+1) m (.list ds) :=
 ⟨a.lay,a.leaf,by simpa [PyData.showable] using a.shw,by simpa [PyData.hasDict] using a.nod,by simp only[PyData.depth];have:=a.dep;omega,by simp only[PyData.weight];exact a.wt⟩
theorem TameAll.mono{k m k' m':Nat}{ds:List PyData}(t:TameAll k m ds)(h1:k≤k')(h2:m≤m'):TameAll k' m' ds:=⟨t.lay,t.leaf,t.shw,t.nod,Nat.le_trans t.dep h1,Nat.le_trans t.wt h2⟩
end Fm
local macro_rules
 | `(tactic|simp_arith!)=>`(tactic|simp only[Fm.Abv,Fm.Wy,Fm.Wz,Fm.wp_bind,Fm.Tc,Fm.Abr,Fm.Abu,Fm.Abt,Fm.Wx,Fm.Abs,Fm.S9,Fm.AeZ,Fm.Afa,Fm.ev_var,Fm.ev_c,Fm.ev_un,Fm.ev_op,Fm.ev_call,Fm.Ax,Fm.Ah,Fm.Ed,Fm.G7,Fm.Qp,Fm.Yk,Fm.AaO,Fm.Ft,Fm.Yh,Fm.Oq,Fm.Ou,Fm.Iv,Fm.Ot,Fm.Bo,Fm.Mw,Fm.Yj,Fm.Qn,Fm.Qo,Fm.Qq,Fm.R5,Fm.Jy,Fm.Mj,Fm.Jw,Fm.Ms,Fm.Mr,Fm.Ef,Fm.Mi,Fm.Oh,Fm.Ez,Fm.Ru,Fm.Hl,Fm.Mp,Fm.Rp,Fm.Rq,Fm.Rr,Fm.Ml,Fm.Oo,Fm.Ol,Fm.Zf,Fm.AaN,Fm.Rv,Fm.Jx,Fm.G8,Fm.Yd,Fm.Ye,Fm.Ry,Fm.Rx,Fm.Oi,Fm.R3,Fm.R4,Fm.Mv,Fm.Oj,Fm.Rw,Fm.Rz,Fm.Aa,Fm.Jv,List.getElem?_cons_zero,List.getElem?_cons_succ,List.set_cons_zero,List.set_cons_succ,List.cons_append,List.nil_append,List.length_cons,List.length_nil,decide_true,decide_false,Bool.not_true,Bool.not_false,Bool.not_not,Fm.Adu,Fm.Qm,Fm.U5,Fm.AaK,Fm.Kt.loop,Fm.kN,Fm.kF,reduceIte,Nat.zero_add,Nat.reduceAdd,and_self])
 | `(tactic|simp_arith! [$xs,*])=>`(tactic|simp only[$xs,*,Fm.Abv,Fm.Wy,Fm.Wz,Fm.wp_bind,Fm.Tc,Fm.Abr,Fm.Abu,Fm.Abt,Fm.Wx,Fm.Abs,Fm.S9,Fm.AeZ,Fm.Afa,Fm.ev_var,Fm.ev_c,Fm.ev_un,Fm.ev_op,Fm.ev_call,Fm.Ax,Fm.Ah,Fm.Ed,Fm.G7,Fm.Qp,Fm.Yk,Fm.AaO,Fm.Ft,Fm.Yh,Fm.Oq,Fm.Ou,Fm.Iv,Fm.Ot,Fm.Bo,Fm.Mw,Fm.Yj,Fm.Qn,Fm.Qo,Fm.Qq,Fm.R5,Fm.Jy,Fm.Mj,Fm.Jw,Fm.Ms,Fm.Mr,Fm.Ef,Fm.Mi,Fm.Oh,Fm.Ez,Fm.Ru,Fm.Hl,Fm.Mp,Fm.Rp,Fm.Rq,Fm.Rr,Fm.Ml,Fm.Oo,Fm.Ol,Fm.Zf,Fm.AaN,Fm.Rv,Fm.Jx,Fm.G8,Fm.Yd,Fm.Ye,Fm.Ry,Fm.Rx,Fm.Oi,Fm.R3,Fm.R4,Fm.Mv,Fm.Oj,Fm.Rw,Fm.Rz,Fm.Aa,Fm.Jv,List.getElem?_cons_zero,List.getElem?_cons_succ,List.set_cons_zero,List.set_cons_succ,List.cons_append,List.nil_append,List.length_cons,List.length_nil,decide_true,decide_false,Bool.not_true,Bool.not_false,Bool.not_not,Fm.Adu,Fm.Qm,Fm.U5,Fm.AaK,Fm.Kt.loop,Fm.kN,Fm.kF,reduceIte,Nat.zero_add,Nat.reduceAdd,and_self])
namespace Fm
open PySem L2
theorem Agh{s t:Sto}{b:Nat}(w:s.wf)(hb:b<s.next)(hn:t.next=s.next)(k:∀i,i≠b→t.get i=s.get i):t.wf:=fun i o h=>by
 rw[hn]
 by_cases q:i=b
 ·subst q;exact hb
 ·rw[k i q] at h;exact w i o h
theorem Adm{s t:Sto}{b:Nat}(hn:t.next=s.next)(k:∀i,i≠b→t.get i=s.get i):Keeps s t [b]:=⟨by omega,fun i _ hx=>k i (by simpa using hx)⟩
theorem AdO{s:Sto}{b n:Nat}{many:Int}(w:s.wf)(h:BagAt s b n)(hn:n≤s.next)(h1:0<many)(h2:many<1073741824):∃(v:Nat) (s':Sto),Cd [.ref b,.int many] s=.ok (.int v) s'∧(v:Int)<many∧s'.wf∧BagAt s' b n∧n≤s'.next∧s'.next=s.next∧Keeps s s' [b]:=by
 obtain⟨v,s',e,a0,a1,hb,hn',hk⟩:=AcG h h1 h2
 obtain⟨c,rfl⟩:=Int.eq_ofNat_of_zero_le a0
 have:=h.lt
 exact⟨c,s',e,a1,Agh w (by omega) hn' hk,hb,by omega,hn',Adm hn' hk⟩
end Fm
namespace Fm
open PySem L2
theorem AbT{s t:Sto}{i:Nat}{o:SO}{ex:List Nat}(h:s.get i=some o)(wf:s.wf)(k:Keeps s t ex)(hx:i∉ex):t.get i=some o:=(k.get i (wf _ _ h) hx).trans h
structure RowsAt(s:Sto)(lo D:Nat)(rows:List (List Int)):Prop where
 ex:∃ps:List Nat,s.get D=some (.lst (ps.map .ref))∧ps.length=rows.length∧lo≤D∧(∀p∈ps,lo≤p∧p≠D)∧∀(k p:Nat) (r:List Int),ps[k]? = some p→rows[k]? = some r→s.get p=some (.lst (r.map .int))
section
variable {s t:Sto} {lo D:Nat} {rows:List (List Int)}
theorem RowsAt.keep{ex:List Nat}(x:RowsAt s lo D rows)(wf:s.wf)(k:Keeps s t ex)(h:∀i∈ex,i<lo):RowsAt t lo D rows:=by
 obtain⟨ps,h1,h2,h3,h4,h5⟩:=x.ex
 refine⟨ps,AbT h1 wf k (fun hh=>by have:=h _ hh;omega),h2,h3,h4,fun j p r hp hr=>AbT (h5 j p r hp hr) wf k (fun hh=>?_)⟩
 have:=h _ hh;have:=h4 p (List.mem_of_getElem? hp);omega
theorem RowsAt.len(x:RowsAt s lo D rows):Zo (.ref D) s=.ok (.int rows.length) s:=by
 obtain⟨ps,h1,h2,h3,h4,h5⟩:=x.ex
 rw[ev_len h1];simp[h2]
theorem RowsAt.set(x:RowsAt s lo D rows)(wf:s.wf){k q:Nat}{r:List Int}(hk:k<rows.length)(hq:s.get q=some (.lst (r.map .int)))(h1:lo≤q)(h2:q≠D) :
  ∃s',Ph (.ref D) (.int k) (.ref q) s=.ok () s'∧s'.wf∧Keeps s s' [D]∧s'.next=s.next∧RowsAt s' lo D (rows.set k r):=by
 obtain⟨ps,g1,g2,g3,g4,g5⟩:=x.ex
 have hix:ixN (ps.map W.ref).length (k:Int)=some k:=by
  unfold ixN
  rw[if_pos (by omega),if_pos (by simp[g2];omega)]
  simp
 refine⟨_,Og g1 hix,wf.set (wf _ _ g1) _,Keeps.set _ _ _,rfl,ps.set k q,by rw[Az];simp[List.map_set],by simp[g2],g3,fun p hp=>?_,fun j p r' hp hr=>?_⟩
 ·rcases List.mem_or_eq_of_mem_set hp with hp|rfl
  ·exact g4 p hp
  ·exact⟨h1,h2⟩
 ·by_cases hj:j=k
  ·subst hj
   rw[List.getElem?_set_self (by omega)] at hp hr
   cases hp;cases hr
   rw[Ar _ _ h2];exact hq
  ·rw[List.getElem?_set_ne (Ne.symm hj)] at hp hr
   rw[Ar _ _ (g4 p (List.mem_of_getElem? hp)).2]
   exact g5 j p r' hp hr
end
theorem RowsAt.append{s:Sto}{lo D:Nat}{rows:List (List Int)}(x:RowsAt s lo D rows)(wf:s.wf){q:Nat}{r:List Int}(hq:s.get q=some (.lst (r.map .int)))(h1:lo≤q)(h2:q≠D)(hz:rows.length<10000) :
  ∃s',Zq 1 Ey (.ref D) [.ref q] s=.ok .non s'∧Kv (.ref D) s=true∧s'.wf∧Keeps s s' [D]∧s'.next=s.next∧RowsAt s' lo D (rows++[r]):=by
 obtain⟨ps,g1,g2,g3,g4,g5⟩:=x.ex
 refine⟨_,Ov g1 (by simp[g2];exact G9 (by omega)),AbW g1,wf.set (wf _ _ g1) _,Keeps.set _ _ _,rfl,ps++[q],by rw[Az];simp,by simp[g2],g3,fun p hp=>?_,fun j p r' hp hr=>?_⟩
 ·rcases List.mem_append.mp hp with hp|hp
  ·exact g4 p hp
  ·simp at hp;subst hp;exact⟨h1,h2⟩
 ·by_cases hj:j<ps.length
  ·rw[List.getElem?_append_left hj] at hp
   rw[List.getElem?_append_left (by omega)] at hr
   rw[Ar _ _ (g4 p (List.mem_of_getElem? hp)).2]
   exact g5 j p r' hp hr
  ·have:j=ps.length:=by
    have:=(List.getElem?_eq_some_iff.mp hp).1
    simp at this;omega
   subst this
   rw[List.getElem?_append_right (Nat.le_refl _)] at hp
   rw[g2,List.getElem?_append_right (Nat.le_refl _)] at hr
   simp at hp hr
   subst hp hr
   rw[Ar _ _ h2];exact hq
end Fm
namespace Fm
open PySem L2
end Fm
namespace Fm
open PySem L2
theorem Ext.nofz{G:Gw}{p p':Pl}{H H':Hp}(e:Ext G p H p' H'){D:Addr}{o:HO}(h:H D=some o)(n:D∉p.l)(nf:D∉p.fz):D∉p'.fz:=fun hf=>by
 rcases e.fzn D hf with h1|h1|h1
 ·exact nf h1
 ·rw[h1] at h;cases h
 ·exact n h1
theorem Ext.notin{G:Gw}{p p':Pl}{H H':Hp}(e:Ext G p H p' H'){D:Addr}{o:HO}(h:H D=some o)(n:D∉p.l):D∉p'.l:=by
 obtain⟨q,hq,nq⟩:=e.more
 rw[hq,List.mem_append]
 rintro(h1|h1)
 ·exact n h1
 ·rw[nq D h1] at h;cases h
section
variable {G:Gw}
theorem ExtR.touch{p:Pl}{H:Hp}{D:Addr}{u o:HO}(hu:H D=some u)(hw:Wr u)(nf:D∉p.fz):ExtR G p H p (upd H D o) :=
 ⟨fun _ _ h=>h,fun _ h=>h,fun a v h hf=>by rw[upd_ne (fun z=>nf (by rw[←z];exact hf))];exact h,fun _ _ h=>Ii hu hw h,fun _ _ h=>Ik hu hw h⟩
theorem Emb.touch{p:Pl}{s:Sto}{H:Hp}(m:Emb G p s H){D:Addr}{u o:HO}(hu:H D=some u)(hw:Wr u)(nl:D∉p.l)(nf:D∉p.fz):Emb G p s (upd H D o) :=
 ⟨m.len,m.nd,m.dom,fun i so h=>by
  obtain⟨a,ha,q⟩:=m.at_ i so h
  exact⟨a,ha,q.monoR (ExtR.touch hu hw nf) (upd_ne fun z=>nl (z▸List.mem_of_getElem? ha))⟩,m.lv,fun a h=>by
  obtain⟨v,hv⟩:=m.ice a h
  exact⟨v,by rw[upd_ne (fun z=>nf (by rw[←z];exact h))];exact hv⟩⟩
theorem Ext.after{p p':Pl}{H H':Hp}(e:Ext G p H p' H'){D:Addr}{u o:HO}(hn:H D=none)(hu:H' D=some u)(hw:Wr u):Ext G p H p' (upd H' D o) :=
 ⟨e.more,e.fzs,e.fzn,fun a v h q=>by rw[upd_ne (ne_of_none h hn)];exact e.keep a v h q,fun a v h=>by
  obtain⟨y,hy⟩:=e.dom a v h
  exact⟨y,by rw[upd_ne (ne_of_none h hn)];exact hy⟩,fun _ _ h=>Ii hu hw (e.tups _ _ h),fun _ _ h=>Ik hu hw (e.scrs _ _ h),fun _ _ _ h=>by rw[upd_ne (ne_of_none h hn)];exact e.frz _ _ _ h⟩
theorem ExtR.iced{p:Pl}{H:Hp}(D:Addr):ExtR G p H (p.ice D) H:=⟨fun _ _ h=>h,fun _ h=>List.mem_cons_of_mem _ h,fun _ _ h _=>h,fun _ _ h=>h,fun _ _ h=>h⟩
theorem Ext.iceNew{p p':Pl}{H H':Hp}(e:Ext G p H p' H'){D:Addr}(hn:H D=none):Ext G p H (p'.ice D) H' :=
 ⟨e.more,fun a h=>List.mem_cons_of_mem _ (e.fzs a h),fun a h=>by
  rcases List.mem_cons.mp h with rfl|h
  ·exact .inr (.inl hn)
  ·exact e.fzn a h,e.keep,e.dom,e.tups,e.scrs,e.frz⟩
theorem Emb.iceAside{p:Pl}{s:Sto}{H:Hp}(m:Emb G p s H){D:Addr}{u:HO}(hu:H D=some u)(nl:D∉p.l):Emb G (p.ice D) s H :=
 have xr:ExtR G p H (p.ice D) H:=⟨fun _ _ h=>h,fun _ h=>List.mem_cons_of_mem _ h,fun _ _ h _=>h,fun _ _ h=>h,fun _ _ h=>h⟩
 ⟨m.len,m.nd,m.dom,fun i so h=>by
  obtain⟨a,ha,q⟩:=m.at_ i so h
  exact⟨a,ha,q.monoR xr rfl⟩,fun i o a h hl ha hm=>by
  rcases List.mem_cons.mp hm with rfl|hm
  ·exact nl (List.mem_of_getElem? ha)
  ·exact m.lv i o a h hl ha hm,fun a h=>by
  rcases List.mem_cons.mp h with rfl|h
  ·exact⟨u,hu⟩
  ·exact m.ice a h⟩
theorem Bf.bind0{α β α' β':Type}{rel:Pl→Hp→α→β→Prop}{rel':Pl→Hp→α'→β'→Prop}{p0 p:Pl}{H0 H:Hp}{Q:β'→Hp→Prop}{E:XK}{r:R α}{f:α→Sto→R α'}{Q1:β→Hp→Prop}(x0:Ext G p0 H0 p H)
  (h:Bf G rel' p0 H0 Q E (r.bind f)) (k:∀a s,r=.ok a s→∀p' H' b,Ext G p H p' H'→Emb G p' s H'→rel p' H' a b→Bf G rel' p0 H0 Q E (f a s)→Q1 b H'):Bf G rel p H Q1 E r:=by
 cases r with
 |ok a s=>intro p' H' b x m q;exact k a s rfl p' H' b x m q h
 |exn C fs s=>exact Bf.ext (rel:=rel) (r:=R.exn C fs s) x0 h
 |bad=>exact h
def Fp(g:GM)(t:TM)(e:EM)(gd:Sto→Bool)(z:Env0):List W→List W→Sto→R (List W)
 | [],acc,s=>if gd s=true then .ok acc s else .bad
 |x::xs,acc,s=>if gd s=true then(g x z s).bind fun z1 s1=>(t z1 s1).noexn.bind fun c s2=>if c=true then(e z1 s2).noexn.bind fun w s3=>if acc.length<sizeLine then Fp g t e gd z xs (acc++[w]) s3 else .bad else Fp g t e gd z xs acc s2 else .bad
def R9(it:IM)(g:GM)(t:TM)(e:EM)(vs:List Nat):EM:=fun z s=>(it z s).bind fun w s1=>(Fp g t e w.gd (Cv z vs) w.xs [] s1).bind fun acc s2=>.ok (.lst acc) s2
theorem bind_assoc{α β γ:Type}(r:R α)(f:α→Sto→R β)(k:β→Sto→R γ):(r.bind f).bind k=r.bind fun a s=>(f a s).bind k:=by cases r<;>rfl
variable {E:St→XK} {X:Cx}
theorem Gq.lcV{wi:TI}{mi:IM}{tg':TG}{g:GM}{tt:TT}{mt:TM}{te:TE}{me:EM}{vs:List Nat}{E':St→XK}(hi:Af8 G E wi mi)(hg:Af9 G tg' g vs)(ht:Abq G E' tt mt)(he:Gq G E' te me):Gq G E (tLc wi tg' tt te vs) (R9 mi g mt me vs):=by
 intro σ z H p s Q rs m h
 refine hi σ z H p s _ rs m (Bf.bind h fun w s1 _ p1 H1 J e1 m1 ok h1=>?_)
 intro D hn
 have xD:Ext G p1 H1 p1 (upd H1 D (.lst [])):=Ext.laid0 hn
 have nl1:D∉p1.l:=m1.ne_new hn
 have nf1:D∉p1.fz:=m1.nfz hn
 refine⟨fun i k H'=>k=w.xs.length - i∧i≤w.xs.length∧∃p' s' acc va,Ext G p1 H1 p' H'∧Emb G p' s' H'∧D∉p'.l∧D∉p'.fz∧H' D=some (.lst va)∧RelWs G p' H' acc va∧Bf G (RelW G) p1 H1 Q (E σ) ((Fp g mt me w.gd (Cv z vs) (w.xs.drop i) acc s').bind fun acc s2=>.ok (.lst acc) s2),
  ⟨w.xs.length,by simp,Nat.zero_le _,p1,s1,[],[],xD,m1.aside hn,nl1,nf1,upd_same,.nil,by simpa using h1⟩,?_⟩
 rintro i k H' ⟨rfl,hi,p',s',acc,va,x1,m',nl,nf,hD,ra,q'⟩
 have rs':Be G p' H' z σ:=rs.mono (e1.trans x1)
 by_cases hlt:i<w.xs.length
 ·have hd:w.xs.drop i=w.xs[i]::w.xs.drop (i+1):=List.drop_eq_getElem_cons hlt
  rw[hd] at q'
  unfold Fp at q'
  by_cases hgd:w.gd s'=true
  ·rw[if_pos hgd] at q'
   obtain⟨_,go⟩:=ok i p' H' s' x1.toF m' hgd
   obtain⟨go1,go2⟩:=go _ (List.getElem?_eq_getElem hlt)
   refine .inr ⟨go1,fun H2=>∃p2 s2 acc va,Ext G p1 H1 p2 H2∧Emb G p2 s2 H2∧D∉p2.l∧D∉p2.fz∧H2 D=some (.lst va)∧RelWs G p2 H2 acc va∧Bf G (RelW G) p1 H1 Q (E σ) ((Fp g mt me w.gd (Cv z vs) (w.xs.drop (i+1)) acc s2).bind fun acc s2=>.ok (.lst acc) s2),
    fun H2 ⟨p2,s2,ac,vv,a,b,c,d,e,f,g'⟩=>⟨w.xs.length - (i+1),by omega,rfl,hlt,p2,s2,ac,vv,a,b,c,d,e,f,g'⟩,fun x H2 y=>?_⟩
   obtain⟨xa,ma,rx⟩:=go2 x H2 y
   rw[bind_assoc] at q'
   -- what D holds while others run
   have cont:∀{p2:Pl} {H3:Hp},Ext G p' H' p2 H3→D∉p2.l∧D∉p2.fz∧H3 D=some (.lst va)∧RelWs G p2 H3 acc va:=fun e2=>⟨e2.notin hD nl,e2.nofz hD nl nf,e2.keep D _ hD (.inl nl),ra.mono e2⟩
   refine hg (E σ) (wipe σ vs) x _ (wipe σ vs) (Cv z vs) H2 p' s' _ SameBut.refl rx ((rs'.mono xa).wipe vs) ma (Bf.bind0 (x1.trans xa) q' fun z1 s2 _ p2 H3 σ2 e2 m2 r2 h3=>?_)
   refine⟨Td r2.2,?_⟩
   rw[bind_assoc] at h3
   have x2:=xa.trans e2
   refine ht σ2 z1 H3 p2 s2 _ r2.1 m2 (Bf.noexn (E:=E σ) (Bf.bind0 (x1.trans x2) h3 fun c s3 _ p3 H4 b e3 m3 rb h4=>?_))
   cases rb
   have x3:=x2.trans e3
   cases c with
   |true =>
    simp only[if_true] at h4 ⊢
    rw[bind_assoc] at h4
    refine he σ2 z1 H4 p3 s3 _ (r2.1.mono e3) m3 (Bf.noexn (E:=E σ) (Bf.bind0 (x1.trans x3) h4 fun u s4 _ p4 H5 v e4 m4 r4 h5=>?_))
    have x4:=x3.trans e4
    obtain⟨nl4,nf4,hD4,ra4⟩:=cont x4
    by_cases hz:acc.length<sizeLine
    ·rw[if_pos hz] at h5
     have xw:=(x1.trans x4).after (o:=.lst (va++[v])) hn hD4 trivial
     have xr:ExtR G p4 H5 p4 (upd H5 D (.lst (va++[v]))):=ExtR.touch hD4 trivial nf4
     exact⟨va,hD4,by rw[ra4.length];exact hz,p4,s4,acc++[u],va++[v],xw,m4.touch hD4 trivial nl4 nf4,nl4,nf4,upd_same,(ra4.append (.one r4)).monoR xr,h5⟩
    ·rw[if_neg hz] at h5;exact h5.elim
   |false =>
    simp only[Bool.false_eq_true,if_false] at h4 ⊢
    obtain⟨nl3,nf3,hD3,ra3⟩:=cont x3
    exact⟨p3,s3,acc,va,x1.trans x3,m3,nl3,nf3,hD3,ra3,h4⟩
  ·rw[if_neg hgd] at q';exact q'.elim
 ·have e:i=w.xs.length:=by omega
  subst e
  rw[List.drop_length] at q'
  unfold Fp at q'
  by_cases hgd:w.gd s'=true
  ·rw[if_pos hgd] at q'
   refine .inl ⟨(ok _ p' H' s' x1.toF m' hgd).1 rfl,q' (p'.ice D) H' _ (x1.iceNew hn) (m'.iceAside hD nl) (.lst (List.mem_cons_self ..) hD (ra.monoR (ExtR.iced D)))⟩
  ·rw[if_neg hgd] at q';exact q'.elim
theorem Xe{elt tg iter:Expr}{ifs:List Expr}{scope:Scope}{pos:Pos}{mi:IM}{g:GM}{mt:TM}{me:EM}(own:List (Str×Nat))(hc:X.calm=true)(hN:X.N.Nodup)(hi:SI G E X tg iter mi)(ok:BlkOk X.N X.env.scope scope own)
  (hg:∀(s:Shared) (H:Hp) (C:Addr) (cl:List (Str×Addr)) (fp:List Addr),SG G (X.blk s H scope (compEnvC scope cl C X.env) fp) tg g (own.map (·.2)))
  (ht:∀(s:Shared) (H:Hp) (C:Addr) (cl:List (Str×Addr)) (fp:List Addr),STs G (fun _=>E0) (X.blk s H scope (compEnvC scope cl C X.env) fp) ifs mt)
  (he:∀(s:Shared) (H:Hp) (C:Addr) (cl:List (Str×Addr)) (fp:List Addr),SE G (fun _=>E0) (X.blk s H scope (compEnvC scope cl C X.env) fp) elt me) (hs:∀x,foldedSetIterable iter X.env x=pure x:=by intro _;rfl) :
  SE G E X (.ListComp elt [⟨tg,iter,ifs,0⟩] scope pos) (R9 mi g mt me (own.map (·.2))):=by
 obtain⟨wi,h1,h2⟩:=hi
 refine⟨_,pe_lc hc hN h1 ok (fun s H C cl fp=>(hg s H C cl fp).canon) (fun s H C cl fp=>(ht s H C cl fp).canon) (fun s H C cl fp=>(he s H C cl fp).canon) hs,?_⟩
 exact Gq.lcV (E':=fun _=>E0) h2 (fun Ee σ0 v w σ z H p s Q sb r rs m h=>⟨Ee,σ0,w,z,p,s,sb,r,rs,m,h⟩) (fun σ z H p s Q rs m h=>⟨z,p,s,rs,m,h⟩) (fun σ z H p s Q rs m h=>⟨z,p,s,rs,m,h⟩)
end
end Fm
namespace Fm
open PySem L2
def keyOf:W→Option Key
 |.int i=>some (.inl i)
 |.str x=>some (.inr x)
 |_=>none
def AdA(kvs:List (Key×W))(k:Key):Option W:=(kvs.find? fun kv=>decide (kv.1=k)).map (·.2)
def putD(kvs:List (Key×W))(k:Key)(v:W):List (Key×W) :=
 if (kvs.any fun kv=>decide (kv.1=k))=true then kvs.map (fun kv=>if kv.1=k then(kv.1,v) else kv) else kvs++[(k,v)]
def Xp(kvs more:List (Key×W)):List (Key×W):=more.foldl (fun acc kv=>putD acc kv.1 kv.2) kvs
section
variable {G:Gw} {E:St→XK} {X:Cx}
theorem T9{p:Pl}{H:Hp}{k:Key}:∀{ws:List (Key×W)} {vs:List (Key×V)},Em G p H ws vs→(AdA ws k=none∧valV vs k=none)∨∃w v,AdA ws k=some w∧valV vs k=some v∧RelW G p H w v
 |_,_,.nil=>.inl ⟨rfl,rfl⟩
 |(k1,w)::ws,(k2,v)::vs,.cons h t=>by
  obtain⟨h1,h2⟩:=h
  simp only at h1 h2
  subst h1
  by_cases e:k2=k
  ·exact .inr ⟨w,v,by simp[AdA,e],by simp[valV,e],h2⟩
  ·rcases T9 (k:=k) t with⟨a,b⟩|⟨w',v',a,b,c⟩
   ·exact .inl ⟨by simpa [AdA,e] using a,by simpa [valV,e] using b⟩
   ·exact .inr ⟨w',v',by simpa [AdA,e] using a,by simpa [valV,e] using b,c⟩
theorem Nu{p:Pl}{H:Hp}{ws:List (Key×W)}{vs:List (Key×V)}(r:Em G p H ws vs):vs.length=ws.length:=(Paired.length r).symm
theorem Ud{p:Pl}{H:Hp}{k:Key}:∀{ws:List (Key×W)} {vs:List (Key×V)},Em G p H ws vs→(vs.any fun kv=>decide (kv.1=k))=(ws.any fun kv=>decide (kv.1=k))
 |_,_,.nil=>rfl
 |(k1,w)::ws,(k2,v)::vs,.cons h t=>by
  obtain⟨h1,h2⟩:=h
  simp only at h1
  subst h1
  simp only[List.any_cons,Ud t]
theorem Ub{p:Pl}{H:Hp}{k:Key}{w:W}{v:V}(r:RelW G p H w v):∀{ws:List (Key×W)} {vs:List (Key×V)},Em G p H ws vs→Em G p H (ws.map (fun kv=>if kv.1=k then(kv.1,w) else kv)) (vs.map (fun kv=>if kv.1=k then(kv.1,v) else kv))
 |_,_,.nil=>.nil
 |(k1,w1)::ws,(k2,v1)::vs,.cons h t=>by
  obtain⟨h1,h2⟩:=h
  simp only at h1 h2
  subst h1
  refine .cons ?_ (Ub r t)
  by_cases e:k2=k
  ·simp only[e,if_true];exact⟨trivial,r⟩
  ·simp only[e,if_false];exact⟨trivial,h2⟩
theorem Uc{p:Pl}{H:Hp}:∀{ws us:List (Key×W)} {vs ys:List (Key×V)},Em G p H ws vs→Em G p H us ys→Em G p H (ws++us) (vs++ys)
 |_,_,_,_,.nil,s=>s
 |_,_,_,_,.cons h t,s=>.cons h (Uc t s)
theorem Aam{p:Pl}{H:Hp}{k:Key}{w:W}{v:V}{ws:List (Key×W)}{vs:List (Key×V)}(r:RelW G p H w v)(rs:Em G p H ws vs):Em G p H (putD ws k w) (putK vs k v):=by
 unfold putD putK
 rw[Ud rs]
 split
 ·exact Ub r rs
 ·exact Uc rs (.cons ⟨rfl,r⟩ .nil)
theorem Nt{p:Pl}{H:Hp}:∀{ms:List (Key×W)} {ns:List (Key×V)} {ws:List (Key×W)} {vs:List (Key×V)},Em G p H ms ns→Em G p H ws vs→Em G p H (Xp ws ms) (mergeK vs ns)
 |_,_,_,_,.nil,s=>s
 |(k1,w1)::ws,(k2,v1)::vs,_,_,.cons h t,s=>by
  obtain⟨h1,h2⟩:=h
  simp only at h1 h2
  subst h1
  show Em G p H (Xp (putD _ k2 w1) ws) (mergeK (putK _ k2 v1) vs)
  exact Nt t (Aam h2 s)
theorem AbM{p:Pl}{H:Hp}{w:W}{v:V}{k:Key}(r:RelW G p H w v)(h:keyOf w=some k):v=kV k:=by
 cases r with
 |int i=>cases h;rfl
 |str i=>cases h;rfl
 |_=>cases h
def dOf(w:W)(s:Sto):Option (List (Key×W)):=match w with
 |.ref i=>(match s.get i with
  |some (.dct kvs)=>some kvs
  |some (.ldk kvs)=>some kvs
  |_=>none)
 |.dct kvs=>some kvs
 |_=>none
theorem Ac4{p:Pl}{H:Hp}{s:Sto}{w:W}{v:V}{kvs:List (Key×W)}(m:Emb G p s H)(r:RelW G p H w v)(h:dOf w s=some kvs):∃a vs,v=.ref a∧Rd H a (.dK vs)∧Em G p H kvs vs:=by
 cases r with
 | @ref i a ha =>
  simp only[dOf] at h
  split at h
  ·rename_i ws hs
   cases h
   obtain⟨vs,h1,h2⟩:=m.of hs ha
   exact⟨a,vs,rfl,.inl h1,h2⟩
  ·rename_i ws hs
   cases h
   obtain⟨o,vs,h1,h2⟩:=m.of hs ha
   exact⟨a,vs,rfl,.inr ⟨o,h1⟩,h2⟩
  ·cases h
 | @dct a ws vs hf h1 h2=>cases h;exact⟨a,vs,rfl,.inr h1,Q6 h2⟩
 |_=>cases h
def Af5:EM:=fun _ s=>.ok (.ref s.next) (s.new (.dct []))
theorem Ab7{pos:Pos}:SE G E X (.Dict [] [] pos) (eC (.dct [])) :=
 ⟨_,Acw pe_dnewK,fun σ z H p s Q rs m h d hn=>.inr ⟨d,_,rfl,upd_same,trivial,fun od=>by rw[upd_upd];exact h (p.ice d) _ _ (Ext.laidF hn) (m.asideF hn) (.dct (List.mem_cons_self ..) ⟨od,upd_same⟩ .nil)⟩⟩
def Acd:List (EM×EM)→Env0→Sto→R (List (Key×W))
 | [],_,s=>.ok [] s
 |(mk,mv)::r,z,s=>(mk z s).bind fun k s1=>(mv z s1).bind fun v s2=>(Acd r z s2).bind fun kvs s3=>match keyOf k with
  |some k=>.ok ((k,v)::kvs) s3
  |none=>.bad
def Yp(ms:List (EM×EM)):EM:=fun z s=>(Acd ms z s).bind fun kvs s1=>if kvs.length≤15 then .ok (.dct (Xp [] kvs)) s1 else .bad
inductive SPs(G:Gw)(E:St→XK)(X:Cx)(pos:Pos):List (Option Expr)→List Expr→List (EM×EM)→List (TE×TE)→Prop where
 |nil:SPs G E X pos [] [] [] []
 |cons {k v:Expr} {ks:List (Option Expr)} {vs:List Expr} {mk mv:EM} {ms:List (EM×EM)} {tk tv:TE} {ts:List (TE×TE)} (hk:PE X k tk∧Gq G E tk mk) (hv:PE X v tv∧Gq G E tv mv) (t:SPs G E X pos ks vs ms ts):SPs G E X pos (some k::ks) (v::vs) ((mk,mv)::ms) ((tk,tv)::ts)
def SPx(G:Gw)(E:St→XK)(X:Cx)(pos:Pos)(ks:List (Option Expr))(vs:List Expr)(ms:List (EM×EM)):Prop:=∃ts,SPs G E X pos ks vs ms ts
theorem AcL{pos:Pos}:SPx G E X pos [] [] []:=⟨[],.nil⟩
theorem Ab4{pos:Pos}{k v:Expr}{ks:List (Option Expr)}{vs:List Expr}{mk mv:EM}{ms:List (EM×EM)}(hk:SE G E X k mk)(hv:SE G E X v mv)(t:SPx G E X pos ks vs ms):SPx G E X pos (some k::ks) (v::vs) ((mk,mv)::ms) :=
 let ⟨tk,a,b⟩:=hk
 let ⟨tv,c,d⟩:=hv
 let ⟨ts,e⟩:=t
 ⟨(tk,tv)::ts,.cons ⟨a,b⟩ ⟨c,d⟩ e⟩
theorem SPs.pps{pos:Pos}{ks:List (Option Expr)}{vs:List Expr}{ms:List (EM×EM)}{ts:List (TE×TE)}(h:SPs G E X pos ks vs ms ts):PPs X pos ks vs ts:=by
 induction h with
 |nil=>exact pps_nil
 |cons hk hv t ih=>exact pps_cons hk.1 hv.1 ih
theorem SPs.imp{pos:Pos}{ks:List (Option Expr)}{vs:List Expr}{ms:List (EM×EM)}{ts:List (TE×TE)}(h:SPs G E X pos ks vs ms ts):∀(σ:St) (z:Env0) (H:Hp) (p:Pl) (s:Sto) (Q:List (V×V)→Hp→Prop),Be G p H z σ→Emb G p s H →
  Bf G (fun p H kws ps=>∃kvs:List (Key×V),ps=kvs.map (fun kv=>(kV kv.1,kv.2))∧Em G p H kws kvs) p H Q (E σ) (Acd ms z s)→tPairs ts σ H Q:=by
 induction h with
 |nil=>intro σ z H p s Q rs m h;exact h.now m ⟨[],rfl,.nil⟩
 |cons hk hv t ih =>
  intro σ z H p s Q rs m h
  unfold Acd at h
  refine hk.2 σ z H p s _ rs m (Bf.bind h fun k s1 _ p1 H1 x e1 m1 r1 h1=>hv.2 σ z H1 p1 s1 _ (rs.mono e1) m1 (Bf.bind h1 fun v s2 _ p2 H2 y e2 m2 r2 h2=>?_))
  refine ih σ z H2 p2 s2 _ ((rs.mono e1).mono e2) m2 (Bf.bind h2 fun kws s3 _ p3 H3 ps e3 m3 r3 h3=>?_)
  obtain⟨kvs,rfl,hr⟩:=r3
  cases hko:keyOf k with
  |none=>rw[hko] at h3;exact h3.elim
  |some key =>
   rw[hko] at h3
   have:=AbM r1 hko
   subst this
   exact h3.now m3 ⟨(key,y)::kvs,rfl,.cons ⟨rfl,r2.mono e3⟩ hr⟩
theorem Gq.dispV{pos:Pos}{ks:List (Option Expr)}{vs:List Expr}{ms:List (EM×EM)}{ts:List (TE×TE)}(h:SPs G E X pos ks vs ms ts):Gq G E (fun σ H Q=>tDisp ts σ H fun v H1=>AfP v H1 Q) (Yp ms):=by
 intro σ z H p s Q rs m hq D hn
 have xD:Ext G p H p (upd H D (.dK [])):=Ext.laid0 hn
 unfold Yp at hq
 refine h.imp σ z _ p s _ (rs.mono xD) (m.aside hn) (Bf.bind0 xD hq fun kws s1 _ p1 H1 ps e1 m1 r1 h1=>?_)
 obtain⟨kvs,rfl,hr⟩:=r1
 have nl0:D∉p.l:=m.ne_new hn
 have nf0:D∉p.fz:=m.nfz hn
 have hD:H1 D=some (.dK []):=e1.keep D _ upd_same (.inl nl0)
 have nl:=e1.notin (upd_same (H:=H) (a:=D) (o:=.dK [])) nl0
 have nf:=e1.nofz (upd_same (H:=H) (a:=D) (o:=.dK [])) nl0 nf0
 by_cases hl:kws.length≤15
 ·rw[if_pos hl] at h1
  refine⟨hD,kvs,rfl,by rw[Nu hr];exact hl,.inr ⟨D,_,rfl,upd_same,trivial,fun od=>?_⟩⟩
  rw[upd_upd]
  have xr:ExtR G p1 H1 p1 (upd H1 D (.frz od (.dK (mergeK [] kvs)))):=ExtR.touch hD trivial nf
  have x2:Ext G p H p1 (upd H1 D (.frz od (.dK (mergeK [] kvs)))):=(xD.trans e1).after hn hD trivial
  have m2:=m1.touch (o:=.frz od (.dK (mergeK [] kvs))) hD trivial nl nf
  have hr2:Em G p1 H1 (Xp [] kws) (mergeK [] kvs):=Nt hr .nil
  exact h1 (p1.ice D) _ _ (x2.iceNew hn) (m2.iceAside upd_same nl) (.dct (List.mem_cons_self ..) ⟨od,upd_same⟩ (((Q5 hr2).monoR xr).monoR (ExtR.iced D)))
 ·rw[if_neg hl] at h1;exact h1.elim
theorem Ab8{ks:List (Option Expr)}{vs:List Expr}{ms:List (EM×EM)}{pos:Pos}(h:SPx G E X pos ks vs ms)(hall:ks.all (·.isSome)=true:=by rfl)(hl:ks.length=vs.length:=by rfl)(h0:ks≠[]:=by intro z;cases z)(h15:ks.length≤15:=by decide):SE G E X (.Dict ks vs pos) (Yp ms) :=
 let ⟨_,h⟩:=h
 ⟨_,Acw (pe_disp h.pps hall hl h0 h15),Gq.dispV h⟩
end
end Fm
namespace Fm
open PySem L2
section
variable {G:Gw} {E:St→XK} {X:Cx} {CX:CXT} {k:Nat} {E1:XK} {mf:List W→Sto→R W}
def inW(x:W)(ws:List W):Option Bool:=match x with
 |.int i=>if ws.all (fun w=>match w with|.int _=>true|_=>false)=true then some (ws.any fun w=>match w with|.int j=>decide (j=i)|_=>false) else none
 |.str i=>if ws.all (fun w=>match w with|.str _=>true|_=>false)=true then some (ws.any fun w=>match w with|.str j=>decide (j=i)|_=>false) else none
 |_=>none
def Ac0(w:W)(s:Sto):Option (List W):=match w with
 |.ref i=>(match s.get i with
  |some (.lst ws)=>some ws
  |_=>none)
 |.lst ws=>some ws
 |.tup ws=>some ws
 |_=>none
theorem Aa2{p:Pl}{H:Hp}{s:Sto}{w:W}{v:V}{ws:List W}(m:Emb G p s H)(r:RelW G p H w v)(h:Ac0 w s=some ws):∃a vs,v=.ref a∧(SqL G.K H a vs∨SqT G.K H a vs)∧RelWs G p H ws vs:=by
 cases r with
 | @ref i a ha =>
  simp only[Ac0] at h
  split at h
  ·rename_i us hs
   cases h
   obtain⟨vs,h1,h2⟩:=m.of hs ha
   exact⟨a,vs,rfl,.inl (SqL.of h1),h2⟩
  ·cases h
 | @lst a us vs hf h1 h2=>cases h;exact⟨a,vs,rfl,.inl (SqL.of h1),h2⟩
 | @tup a us vs hq h2=>cases h;exact⟨a,vs,rfl,.inr hq,h2⟩
 |_=>cases h
theorem AaD{p:Pl}{H:Hp}{i:Int}:∀{ws:List W} {vs:List V},RelWs G p H ws vs→ws.all (fun w=>match w with|.int _=>true|_=>false)=true→vs.all flatV=true∧inV (.int i) vs=ws.any fun w=>match w with|.int j=>decide (j=i)|_=>false
 |_,_,.nil,_=>⟨rfl,rfl⟩
 |w::ws,v::vs,.cons h t,e=>by
  simp only[List.all_cons,Bool.and_eq_true] at e
  obtain⟨a,b⟩:=AaD (i:=i) t e.2
  cases h with
  |int j =>
   refine⟨by simp[flatV,a],?_⟩
   unfold inV at b ⊢
   simp only[List.any_cons,b]
   congr 1
  |_=>simp at e
theorem AaC{p:Pl}{H:Hp}{i:Str}:∀{ws:List W} {vs:List V},RelWs G p H ws vs→ws.all (fun w=>match w with|.str _=>true|_=>false)=true→vs.all flatV=true∧inV (.str i) vs=ws.any fun w=>match w with|.str j=>decide (j=i)|_=>false
 |_,_,.nil,_=>⟨rfl,rfl⟩
 |w::ws,v::vs,.cons h t,e=>by
  simp only[List.all_cons,Bool.and_eq_true] at e
  obtain⟨a,b⟩:=AaC (i:=i) t e.2
  cases h with
  |str j =>
   refine⟨by simp[flatV,a],?_⟩
   unfold inV at b ⊢
   simp only[List.any_cons,b]
   congr 1
  |_=>simp at e
def pIn(neg:Bool):W→W→Sto→R W:=fun x y s=>match Ac0 y s with
 |some ws=>(match inW x ws with
  |some b=>.ok (.bl (if neg then !b else b)) s
  |none=>.bad)
 |none=>.bad
theorem Afw{neg:Bool}:Bx G (rIn G.K neg) (pIn neg):=by
 intro Ee x y w u H p s Q r1 r2 m h
 unfold pIn at h
 cases e:Ac0 u s with
 |none=>rw[e] at h;exact h.elim
 |some ws =>
  rw[e] at h
  obtain⟨a,vs,rfl,hq,hr⟩:=Aa2 m r2 e
  cases r1 with
  |int i =>
   simp only[inW] at h
   split at h
   ·rename_i b hb
    split at hb
    ·rename_i ha
     cases hb
     obtain⟨f1,f2⟩:=AaD (i:=i) hr ha
     refine⟨a,vs,rfl,hq,rfl,f1,?_⟩
     rw[f2]
     exact h.now m (.bl _)
    ·cases hb
   ·exact h.elim
  |str i =>
   simp only[inW] at h
   split at h
   ·rename_i b hb
    split at hb
    ·rename_i ha
     cases hb
     obtain⟨f1,f2⟩:=AaC (i:=i) hr ha
     refine⟨a,vs,rfl,hq,rfl,f1,?_⟩
     rw[f2]
     exact h.now m (.bl _)
    ·cases hb
   ·exact h.elim
  |_=>exact h.elim
end
end Fm
set_option maxHeartbeats 2000000
namespace Fm
open PySem L2
open PySem.Spec PyProof.Rows
open _root_.NdefX (NF NScope CellsAt startF envF ncx inv_startN)
set_option autoImplicit false
structure SupF(P:Program)(K:PySem.W.Frag)(F:NF)(f cc C:Addr):Prop where
 lk:∃oc od doc pm ctv osl,K.lookup f=some ⟨oc,od,.func (F.fd doc pm ctv),osl⟩
 cl:F.cl=[(("__class__" : Str),cc)]
 code:PySem.W.codeIn K (.ref F.c) F.qual=true
 cell:∃cl cld csl,K.lookup cc=some ⟨cl,cld,.cell (some (.ref C)),csl⟩
 file:∃ccl cdd vs ccs file tf,K.lookup F.c=some ⟨ccl,cdd,.fields vs,ccs⟩∧vs[2]? = some (.str file tf)∧((P.main.file:Str)==file)=true
 top:(P.main.scope.names.lookup ("super" : Str)).isSome=false
 sup:PySem.W.ks_superIn K C C "__init__" = some (some (.builtin "ValueError.__init__"))
 nop:PySem.W.nsIn K cStatics "thirdparty.any" = some none
 veC:PySem.W.subIn K (.ref C) (.type "ValueError")=some true
 self:PySem.W.mroIn K C (.ref C)=some true
 ks:F.scope.names.lookup ("super" : Str)=some .globalImplicit
 kc:F.scope.names.lookup ("__class__" : Str)=some .free
section
variable {P:Program} {w:World} {K:PySem.W.Frag} {mg:Str→Option Value} {base:Heap} {CX:CXT}
theorem Yc{F:NF}{f cc C:Addr}{N ps:List Str}{k:Nat}{sp:Sp}{e:Expr}{es:List Expr}{rest:List Stmt}{p0 p1 p2 p3 p4:Pos}{ar:Arg}{ps':List Str}(FS:SupF P K F f cc C)(T:OexC K C)(hm:mg "super" = none)(S:NScope N ps ["__class__"] F.scope)
  (hp:(F.params.posonlyargs++F.params.args).head? = some ar) (har:ps=ar.arg::ps') (hbd:F.body=.Expr (.Call (.Attribute (.Call (.Name "super" p0) [] [] p1) "__init__" p2) (e::es) [] p3) p4::rest)
  (he:∀env,starEach (e::es) env=(false,eval e env)::starEach es env) (hpl:∀env,(backTo p3 (starEach es env)).any (·.1)=false) (hsw:∀env:Env,swapsWith (.Call (.Attribute (.Call (.Name "super" p0) [] [] p1) "__init__" p2) (e::es) [] p3) none p4.line env=pure false)
  (hev:∀env:Env,∃pl:Sem Bool,eval (.Call (.Attribute (.Call (.Name "super" p0) [] [] p1) "__init__" p2) (e::es) [] p3) env=(do
   let ov ←attributeBase (.Call (.Name "super" p0) [] [] p1) "__init__" env (eval (.Call (.Name "super" p0) [] [] p1) env)
   standAt p2.atName
   let (f,first) ←holding [ov] (getMethod ov "__init__" pl)
   callWith p3 f first (backTo p3 (starEach (e::es) env)) [])) (len:∀vs H Q E,sp vs H Q E→vs.length=ps.length)
  (hbody:∀(A:Around) (outer:List Env) (s:Shared) (H:Hp) (vs:List V) (Q:VK) (E:XK),Room k (A.deeper (envF F f s.heap.objs.size))→sp vs H Q E →
   ∃ta t a vs',vs=.ref a::vs'∧H a=some (exo a C none)∧PA (ncx CX P w K mg base N F f A outer s H E) (e::es) ta∧PSs (ncx CX P w K mg base N F f A outer s H E) rest t ∧
    ta (startF N vs [none]) H (fun ws H1=>ws.length≤1000∧H1 a=some (exo a C none)∧t { nx:=fun _ H'=>Q .non H',rt:=Q } (startF N vs [none]) H1)) :
  ∃fd:Obj×FuncData,K.lookup f=some (fd.1)∧fd.1.data=.func fd.2∧FnOk P w K mg base CX (k+1) f fd.2 ps sp:=by
 obtain⟨oc,od,doc,pm,ctv,osl,hlk⟩:=FS.lk
 obtain⟨cl,cld,csl,hcc⟩:=FS.cell
 obtain⟨ccl,cdd,cvs,ccs,file,tf,hco,hvs,hfile⟩:=FS.file
 refine⟨(⟨oc,od,.func (F.fd doc pm ctv),osl⟩,F.fd doc pm ctv),hlk,rfl,len,fun A outer s H args us vs Q E hr e0 hb r hsp=>?_⟩
 have hl:=len _ _ _ _ hsp
 have lim:s.heap.NoLimit:=e0.mod.nolimit.keeps fun b o e=>(e0.bs b o e).1
 have kin:K.In s.heap:=fun b o z=>(e0.bs b o (e0.mod.kin b o z)).1
 refine ks_codeAny_call_defAt (fd:=F.fd doc pm ctv) (body:=F.body) hr.depth (kin _ _ hlk) rfl lim (PySem.W.codeRec_of kin FS.code) rfl hb S.nocell (fun⟨n,_⟩ hy=>S.par n (List.of_mem_zip hy).1) (fun h₁ hns kp=>?_) S.co S.gen S.kind
 show _root_.PySem.wpAt _ (A.deeper (envF F f s.heap.objs.size)) (.func F.body (envF F f s.heap.objs.size)) (execs F.body (envF F f s.heap.objs.size)) _ _ _
 have CA:CellsAt F.cl ["__class__"] [none] s.heap H:=by
  have z:=e0.bs _ _ (e0.mod.kin _ _ hcc)
  refine⟨rfl,fun y c h=>?_,fun x y c h1 h2=>?_,fun i y h=>?_⟩
  ·rw[FS.cl] at h
   simp only[List.lookup] at h
   split at h
   ·cases h
    exact⟨z.2,_,_,z.1,rfl⟩
   ·cases h
  ·rw[FS.cl] at h1 h2
   simp only[List.lookup] at h1 h2
   split at h1
   ·rename_i q1
    split at h2
    ·rename_i q2
     rw[beq_iff_eq.mp q1,beq_iff_eq.mp q2]
    ·cases h2
   ·cases h1
  ·cases i with
   |zero =>
    simp at h
    subst h
    refine⟨cc,by rw[FS.cl];rfl,fun v hv=>?_⟩
    simp at hv
   |succ i=>simp at h
 obtain⟨ta,t,a,vs',rfl,hHa,hA,hR,q⟩:=hbody A outer s H vs Q E (hr.deeper _) hsp
 have I:Inv (ncx CX P w K mg base N F f A outer s H E) [] (startF N (.ref a::vs') [none]) H { s with heap:=h₁,toks:=s.toks+(ps.zip us).length }:=inv_startN S hr.hd e0 hl r CA hns kp
 have hxs:(ps.zip us).reverse.lookup ar.arg=some (.ref a):=by
  have h0:ps[0]? = some ar.arg:=by rw[har];rfl
  cases r with
  | @cons _ u0 _ ur ra rw' =>
   obtain rfl:u0=Value.ref a:=ra
   have ndP:ps.Nodup:=by
    have q:=S.nd.sublist (List.take_sublist (ps.length+(["__class__"]:List Str).length) N)
    rw[S.pre] at q
    exact(List.nodup_append.mp q).1
   exact NdefX.zip_look ndP h0 rfl
 have hkar:F.scope.names.lookup ar.arg=some .local:=S.par _ (by rw[har];exact List.mem_cons_self ..)
 rw[hbd]
 have hin:interactive (envF F f s.heap.objs.size)=false:=by
  unfold interactive
  show(F.scope.kind == .module&&_)=false
  rw[S.kind]
  rfl
 obtain⟨pl,hev⟩:=hev (envF F f s.heap.objs.size)
 refine ks_wpAt_execs_cons (ks_wpAt_Expr_any (ks_wpAt_MethodCall ?_ hev) hin (hsw _))
 have kin1:K.In h₁:=fun b o z=>kp b o (kin b o z)
 obtain⟨mb,hb1,hb2⟩:=e0.mod.blt
 have up:∀b o,base.get? b=some o→h₁.get? b=some o:=fun b o z=>kp b o (e0.bs b o z).1
 refine PySem.ks_wpAt_super_base (env:=envF F f s.heap.objs.size) FS.ks FS.kc (by decide) rfl (kin1 _ _ hlk) rfl hp rfl (kin1 _ _ hco) rfl hvs hfile FS.top ?_
 refine PySem.W.ks_loadName_global S.kind FS.ks (Calls.loadGlobal_builtin (env:=envF F f s.heap.objs.size) (e0.mod.glob.keeps up) hm (hb1.keeps up) ((hb2 _ (by decide)).trans (show bootBuiltins "super" = some (.type "super") by decide +kernel)) ⟨rfl,?_⟩)
 refine wpAny_loadName_free S.kind FS.kc (show F.cl.lookup _ = some cc by rw[FS.cl];rfl) ⟨_,kin1 _ _ hcc,rfl⟩ ?_
 refine wpAny_loadName_local S.kind hkar hns hxs ?_
 obtain⟨nm,q0,N0,bs,bm,sn,sub,ab,col,dd,k0,k1,k2,k3,k5,hC,hbm⟩:=T.cls
 obtain⟨t1,hx⟩:=exo_at I.hok hHa
 refine ks_wpAny_isType_cls (kin1 _ _ hC) rfl ⟨rfl,?_⟩
 refine ks_wpAny_call_super (kin1 _ _ hC) rfl hx rfl (fun c z=>by cases z) (PySem.W.looks_mroIn kin1 FS.self) (fun h' eo k=>?_)
 have I2:=I.kept (t':=s.toks+(ps.zip us).length) k
 have kin2:K.In h':=fun b o z=>k b o (kin1 b o z)
 have hx2:=k _ _ hx
 have ia:PySem.W.InstAt h' a _ C none:=⟨hx2,rfl,rfl,trivial⟩
 have hcd:∃cd,PySem.W.clsIn K C=some cd∧PySem.W.alongIn K "__init__" ((cd.mro.dropWhile (· != .ref C)).drop 1)=some (some (.builtin "ValueError.__init__")):=by
  have z:=FS.sup
  unfold PySem.W.ks_superIn at z
  cases h:PySem.W.clsIn K C with
  |none=>rw[h] at z;cases z
  |some cd=>rw[h] at z;exact⟨cd,rfl,z⟩
 obtain⟨cd,hcd,hal⟩:=hcd
 refine PySem.W.kxs_getMethod PySem.W.kxs_ValueError eo (PySem.W.looks_opaque kin2 FS.nop) (l₀:=cd.mro) (fun A Q E s k q=>wpAny_bind ((PySem.W.looks_clsIn kin2 hcd) A _ E s k (wpAny_pure q))) rfl kin2 hal (ia.type.andThen (PySem.W.looks_subIn kin2 FS.veC)) (PySem.W.ks_ne kin2 ia hcd) (by decide) ?_
 let u:Addr:=h'.objs.size
 let h2:=h'.push (PySem.W.kxs_mw "ValueError.__init__" a)
 have k2:∀b o,h'.get? b=some o→h2.get? b=some o:=fun b o z=>Heap.get?_push_of_some _ z
 have hu:h2.get? u=some (PySem.W.kxs_mw "ValueError.__init__" a):=Heap.get?_push_at rfl rfl
 have I3:=I2.kept (t':=s.toks+(ps.zip us).length+1) k2
 have I3':Inv (ncx CX P w K mg base N F f A outer s H E) [(u,PySem.W.kxs_mw "ValueError.__init__" a)] (startF N (.ref a::vs') [none]) H ⟨h2,s.gens,s.drawn,s.toks+(ps.zip us).length+1,s.os⟩:=by
  refine I3.pins_of fun p hp=>?_
  rcases List.mem_cons.mp hp with rfl|hp
  ·have fp:=I2.fpOk (b:=u) (Nat.le_refl _) (I2.hok.fresh (Nat.le_refl _))
   exact⟨hu,fp.1,fp.2.1,fp.2.2.1,fun v z=>by cases z⟩
  ·cases hp
 show wpAny _ _ (callWith p3 (.ref u) [] (backTo p3 (starEach (e::es) (envF F f s.heap.objs.size))) []) _ _ _
 have hrun:=hA.run p3 _ _ _ H _ I3' q
 rw[he] at hrun ⊢
 refine PySem.W.kxs_callWith (i := "ValueError.__init__") (x:=a) (by show(false||(backTo p3 (starEach es (envF F f s.heap.objs.size))).any (·.1))=false;rw[hpl];rfl) (Calls.evalArgs_plain (thn hrun fun us1 s1 ⟨ws,H1,I4,r4,hlw,hH1,q1⟩=>?_))
 have pu:=(I4.pin (u,PySem.W.kxs_mw "ValueError.__init__" a) (by simp)).1
 refine⟨pu,?_⟩
 show wpAny _ _ (call (.ref u) us1) _ _ _
 have hz:us1.length≤sizeLine:=by
  rw[←Paired.length r4,sizeLine_eq]
  omega
 have I5:Inv (ncx CX P w K mg base N F f A outer s H E) [] (startF N (.ref a::vs') [none]) H1 s1:=I4.pins_of fun p hp=>by cases hp
 have kin4:K.In s1.heap:=I5.kIn
 obtain⟨t4,hx4⟩:=exo_at I5.hok hH1
 obtain⟨hp4,g4,d4,tk4,os4⟩:=s1
 refine wpAny_call (codeAny_of_tree ?_)
 show wpAny _ (A.deeper (envF F f s.heap.objs.size)).in1 (callAny (.ref u) ⟨us1,[]⟩) _ _ _
 simp only[callAny]
 refine wpAny_bind (wpAny_load pu ?_)
 simp only[PySem.W.kxs_mw,show(Value.type "method-wrapper" == Value.type "method" || Value.type "method-wrapper" == Value.type "builtin_function_or_method" || Value.type "method-wrapper" == Value.type "method-wrapper")=true by decide,if_true]
 refine PySem.W.KFB.if_so (by decide) ?_
 refine wpAny_bind (PySem.W.check_bound_init PySem.F.excBase_ValueError.toExcCallFacts (kin4 _ _ hC) hx4 rfl ?_)
 refine wpAny_bind (wpAny_pure (wpAny_pure ?_))
 refine⟨plainId_quiet PySem.F.excBase_ValueError.init.plain _,codeAny_builtin PySem.F.excBase_ValueError.initEntry ?_⟩
 refine PySem.W.exc_init_tree (cls:=.ref C) (t0:=t4) (dv:=none) (c2:=.none) (c3:=.none) (b4:=.bool false) hx4 hz (fun h5 kk hx5 _=>?_)
 have J:=I5.write (t':=tk4) (x:=a) (e:=a) (o:=exo a C none) (by rw[hH1];exact True.intro) (.inl rfl) kk ⟨_,hx5⟩ (exo_ok hx5)
 have eu:upd H1 a (exo a C none)=H1:=by
  funext b
  by_cases hb:b=a
  ·rw[hb,upd_same,hH1]
  ·rw[upd_ne hb]
 rw[eu] at J
 show _root_.PySem.wpAt _ _ _ (execs rest (envF F f s.heap.objs.size)) _ _ _
 refine PySem.wpAt_of_wpAny (wpAny_mono (hR.run [] _ _ H1 _ J q1) (fun fl s' hs=>?_) fun e s' hs=>hs)
 have fin:∀{σ':L2.St} {H':Hp} {v:V} {u:Value},Inv (ncx CX P w K mg base N F f A outer s H E) [] σ' H' s'→L2.RelV v u→Q v H'→CE outer P w H s Q u s' :=
  fun{σ' H' v u} J rv q=>⟨v,H',J.os,J.bare,J.base,J.hok,rv,q⟩
 cases fl with
 |ret u =>
  obtain⟨v,σ',H',J,rv,q⟩:=hs
  exact fin J rv q
 |next =>
  obtain⟨σ',H',J,q⟩:=hs
  exact fin (v:=V.non) (u:=Value.none) J rfl q
 |brk =>
  obtain⟨_,_,_,q⟩:=hs
  exact False.elim q
 |cont =>
  obtain⟨_,_,_,q⟩:=hs
  exact False.elim q
def AcM(C:Addr)(fs:List Str):Sp:=fun vs H Q _=>∃a us,vs=.ref a::us∧us.length=fs.length∧H a=some (exo a C none) ∧
 ∀dx H',H dx=none→dx≠a→H' a=some (exo a C (some dx))→H' dx=some (exd dx (fs.zip us).reverse)→(∀b,b≠a→b≠dx→H' b=H b)→Q .non H'
abbrev Ym(slf x fld:Str)(p0 p1 p2 p3 p4 p5 p6 p7 p8 p9:Pos):List Stmt:=[.Expr (.Call (.Attribute (.Call (.Name "super" p0) [] [] p1) "__init__" p2) [.Name x p5] [] p3) p4,.Assign [.Attribute (.Name slf p6) fld p7] (.Name x p8) p9]
theorem Agy{F:NF}{f cc C:Addr}{k:Nat}{slf x fld:Str}{p0 p1 p2 p3 p4 p5 p6 p7 p8 p9:Pos}{ar:Arg}(FS:SupF P K F f cc C)(T:OexC K C)(hm:mg "super" = none)(S:NScope [slf,x, "__class__"] [slf,x] ["__class__"] F.scope)
  (hp:(F.params.posonlyargs++F.params.args).head? = some ar) (har:ar.arg=slf) (hbd:F.body=Ym slf x fld p0 p1 p2 p3 p4 p5 p6 p7 p8 p9) (hno:PySem.W.findIn K (.ref C) fld=some none)
  (hev:∀env:Env,∃pl:Sem Bool,eval (.Call (.Attribute (.Call (.Name "super" p0) [] [] p1) "__init__" p2) [.Name x p5] [] p3) env=(do
   let ov ←attributeBase (.Call (.Name "super" p0) [] [] p1) "__init__" env (eval (.Call (.Name "super" p0) [] [] p1) env)
   standAt p2.atName
   let (f,first) ←holding [ov] (getMethod ov "__init__" pl)
   callWith p3 f first (backTo p3 (starEach [.Name x p5] env)) []))
  (d1:(slf==("__debug__" : Str))=false:=by decide) (d2:(slf==("__classdict__" : Str))=false:=by decide) (d3:(x==("__debug__" : Str))=false:=by decide) (d4:(x==("__classdict__" : Str))=false:=by decide) :
  ∃fd:Obj×FuncData,K.lookup f=some (fd.1)∧fd.1.data=.func fd.2∧FnOk P w K mg base CX (k+1) f fd.2 [slf,x] (AcM C [fld]):=by
 refine Yc (ps':=[x]) FS T hm S hp (by rw[har]) hbd (fun _=>rfl) (fun _=>rfl) (fun _=>rfl) hev (fun vs H Q E ⟨a,us,h1,h2,_⟩=>by rw[h1,List.length_cons,h2];rfl) fun A outer s H vs Q E hr q=>?_
 obtain⟨a,us,rfl,hl,hH,q⟩:=q
 match us,hl with
 | [v],_ =>
  have v1:Vis F.scope slf:=.inl (S.par slf (by simp))
  have v2:Vis F.scope x:=.inl (S.par x (by simp))
  have e1:∀pos,PE (ncx CX P w K mg base [slf,x, "__class__"] F f A outer s H E) (.Name slf pos) (tVar 0):=fun pos=>pe_var rfl v1 d1 d2
  have e2:∀pos,PE (ncx CX P w K mg base [slf,x, "__class__"] F f A outer s H E) (.Name x pos) (tVar 1):=fun pos=>pe_var rfl v2 d3 d4
  refine⟨_,_,a,[v],rfl,hH,pa_cons (e2 _) pa_nil,pss_cons (ps_ost (e1 _) (e2 _) rfl) pss_nil,v,rfl,by simp,hH,v,rfl,.ref a,rfl,a,C,rfl,T,hno,.inl ⟨hH,fun dx h1 h2=>?_⟩⟩
  refine q dx _ h1 h2 upd_same (by rw[upd_ne h2];exact upd_same) fun b hb hd=>?_
  rw[upd_ne hb,upd_ne hd]
abbrev Yl(slf x y fx fy:Str)(p0 p1 p2 p3 p4 p5 p5' p6 p7 p8 p9 q6 q7 q8 q9:Pos):List Stmt:=[.Expr (.Call (.Attribute (.Call (.Name "super" p0) [] [] p1) "__init__" p2) [.Name x p5,.Name y p5'] [] p3) p4,.Assign [.Attribute (.Name slf p6) fx p7] (.Name x p8) p9,.Assign [.Attribute (.Name slf q6) fy q7] (.Name y q8) q9]
theorem Agx{F:NF}{f cc C:Addr}{k:Nat}{slf x y fx fy:Str}{p0 p1 p2 p3 p4 p5 p5' p6 p7 p8 p9 q6 q7 q8 q9:Pos}{ar:Arg}(FS:SupF P K F f cc C)(T:OexC K C)(hm:mg "super" = none)(S:NScope [slf,x,y, "__class__"] [slf,x,y] ["__class__"] F.scope)
  (hp:(F.params.posonlyargs++F.params.args).head? = some ar) (har:ar.arg=slf) (hbd:F.body=Yl slf x y fx fy p0 p1 p2 p3 p4 p5 p5' p6 p7 p8 p9 q6 q7 q8 q9) (hno:PySem.W.findIn K (.ref C) fx=some none) (hno':PySem.W.findIn K (.ref C) fy=some none)
  (hev:∀env:Env,∃pl:Sem Bool,eval (.Call (.Attribute (.Call (.Name "super" p0) [] [] p1) "__init__" p2) [.Name x p5,.Name y p5'] [] p3) env=(do
   let ov ←attributeBase (.Call (.Name "super" p0) [] [] p1) "__init__" env (eval (.Call (.Name "super" p0) [] [] p1) env)
   standAt p2.atName
   let (f,first) ←holding [ov] (getMethod ov "__init__" pl)
   callWith p3 f first (backTo p3 (starEach [.Name x p5,.Name y p5'] env)) []))
  (d1:(slf==("__debug__" : Str))=false:=by decide) (d2:(slf==("__classdict__" : Str))=false:=by decide) (d3:(x==("__debug__" : Str))=false:=by decide) (d4:(x==("__classdict__" : Str))=false:=by decide) (d5:(y==("__debug__" : Str))=false:=by decide) (d6:(y==("__classdict__" : Str))=false:=by decide) :
  ∃fd:Obj×FuncData,K.lookup f=some (fd.1)∧fd.1.data=.func fd.2∧FnOk P w K mg base CX (k+1) f fd.2 [slf,x,y] (AcM C [fx,fy]):=by
 refine Yc (ps':=[x,y]) FS T hm S hp (by rw[har]) hbd (fun _=>rfl) (fun _=>rfl) (fun _=>rfl) hev (fun vs H Q E ⟨a,us,h1,h2,_⟩=>by rw[h1,List.length_cons,h2];rfl) fun A outer s H vs Q E hr q=>?_
 obtain⟨a,us,rfl,hl,hH,q⟩:=q
 match us,hl with
 | [v,u],_ =>
  have v1:Vis F.scope slf:=.inl (S.par slf (by simp))
  have v2:Vis F.scope x:=.inl (S.par x (by simp))
  have v3:Vis F.scope y:=.inl (S.par y (by simp))
  have e1:∀pos,PE (ncx CX P w K mg base [slf,x,y, "__class__"] F f A outer s H E) (.Name slf pos) (tVar 0):=fun pos=>pe_var rfl v1 d1 d2
  have e2:∀pos,PE (ncx CX P w K mg base [slf,x,y, "__class__"] F f A outer s H E) (.Name x pos) (tVar 1):=fun pos=>pe_var rfl v2 d3 d4
  have e3:∀pos,PE (ncx CX P w K mg base [slf,x,y, "__class__"] F f A outer s H E) (.Name y pos) (tVar 2):=fun pos=>pe_var rfl v3 d5 d6
  refine⟨_,_,a,[v,u],rfl,hH,pa_cons (e2 _) (pa_cons (e3 _) pa_nil),pss_cons (ps_ost (e1 _) (e2 _) rfl) (pss_cons (ps_ost (e1 _) (e3 _) rfl) pss_nil),v,rfl,u,rfl,by simp,hH,v,rfl,.ref a,rfl,a,C,rfl,T,hno,.inl ⟨hH,fun dx h1 h2=>?_⟩⟩
  refine⟨u,rfl,.ref a,rfl,a,C,rfl,T,hno',.inr ⟨dx,[(fx,v)],upd_same,by rw[upd_ne h2];exact upd_same,by simp,?_⟩⟩
  refine q dx _ h1 h2 (by rw[upd_ne (Ne.symm h2)];exact upd_same) upd_same fun b hb hd=>?_
  rw[upd_ne hd,upd_ne hb,upd_ne hd]
structure ErrK(G:Gw)(P:Program)(w:World)(mg:Str→Option Value)(base:Heap)(k:Nat)(C:String)(fs:List String):Prop where
 mgc:mg (Str.ofString C)=some (.ref (G.at_ C))
 T:OexC G.K (G.at_ C)
 ex:∃f fd ps,FnOk P w G.K mg base CX0 k f fd ps (AcM (G.at_ C) (fs.map Str.ofString))∧PySem.W.findIn G.K (.ref (G.at_ C)) "__init__" = some (some (.ref f))∧PySem.W.typeIn G.K (.ref f)=some (.type "function")∧Binds G.K fd ps []
end
section
variable {G:Gw} {X:Cx} {k:Nat}
theorem Ue{p:Pl}{H:Hp}:∀{fs:List String} {ws:List W} {vs:List V},RelWs G p H ws vs→Zm G p H (fs.zip ws) ((fs.map Str.ofString).zip vs)
 | [],_,_,_=>.nil
 |_::_,_,_,.nil=>.nil
 |_::fs,_,_,.cons h t=>.cons ⟨rfl,h⟩ (Ue (fs:=fs) t)
theorem Q8{α β:Type}{F:α→β→Prop}{l₁ m₁:List α}{l₂ m₂:List β}(h:Paired F l₁ l₂)(k:Paired F m₁ m₂):Paired F (l₁++m₁) (l₂++m₂):=by
 induction h with
 |nil=>exact k
 |cons r t ih=>exact .cons r ih
theorem Pg{α β:Type}{F:α→β→Prop}{l₁:List α}{l₂:List β}(h:Paired F l₁ l₂):Paired F l₁.reverse l₂.reverse:=by
 induction h with
 |nil=>exact .nil
 |cons r t ih=>rw[List.reverse_cons,List.reverse_cons];exact Q8 ih (.cons r .nil)
end
end Fm
set_option maxHeartbeats 2000000
namespace Fm
open PySem L2
set_option autoImplicit false
section
variable {G:Gw}
def canon(G:Gw)(E:L2.St→XK)(m:SM):TS:=fun D σ H=>∃z p s,Be G p H z σ∧Emb G p s H∧Cr G p H D E (m z s)
theorem SSs.canon{E:L2.St→XK}{X:Cx}{b:List Stmt}{m:SM}(h:SSs G E X b m):PSs X b (Fm.canon G E m):=by
 obtain⟨t,h1,h2⟩:=h
 exact⟨fun pins s σ H D I ⟨z,p,s',r,e,q⟩=>h1.run pins s σ H D I (h2 D σ z H p s' r e q)⟩
end
end Fm
set_option maxHeartbeats 2000000
namespace Fm
open PySem PySem.Spec PySem.Calls PyProof.Rows PySem.W in
section
variable {prog:Program} {w:World} {A:Around} {E:Value→Shared→Prop} {s:Shared} {K:Frag} {x D:Addr} {ox:Obj} {od:Option Obj}
theorem Rm{C:Addr}{name:Str}{a g:Value}(hc:(clsIn K C).isSome=true)(ha:findIn K (.ref C) name=some (some a))(hg:specialIn K a "__get__" = some (some g))(ht:takesIn K a=some true):findObj K C od name=some (.bind g a):=by
 obtain⟨cd,hc⟩:=Option.isSome_iff_exists.mp hc
 unfold findObj
 rw[hc,Option.bind_some,ha,Option.bind_some]
 simp[hg,ht]
theorem Wc{Q:Option Value→Shared→Prop}(hga:findIn K (.ref D) "__getattribute__" = some (some (.builtin "BaseException.__getattribute__")))(hgt:findIn K (.ref D) "__getattr__" = some none)(hsub:subIn K (.ref D) (.type "BaseException")=some true)
  (hdct:hasDictIn K D=true) (ha:findIn K (.ref D) "__class__" = some (some (.builtin "object.__class__")))
  (hn:specialIn K (.builtin "object.__class__") "__get__" = some (some (.builtin "getset_descriptor.__get__"))) (htk:takesIn K (.builtin "object.__class__")=some true) (hm:mroIn K D (.type "object")=some true)
  (X:K.In s.heap) (I:InstAt s.heap x ox D od) (h:Q (some (.ref D)) { s with toks:=s.toks+1 }):wpAny (model prog w) A (getAttr? (.ref x) "__class__") Q E s:=by
 have hf:findObj K D od "__class__" = some (.bind (.builtin "getset_descriptor.__get__") (.builtin "object.__class__")):=Rm (by obtain⟨cd,hc,_⟩:=any_some hdct;rw[hc];rfl) ha hn htk
 obtain⟨hp,g,d,t,os⟩:=s
 have L0:=I.type (M:=model prog w)
 have L1:=looks_findIn (M:=model prog w) X hga
 have L2:=looks_findIn (M:=model prog w) X hgt
 have L3:=looks_find (M:=model prog w) X I hf
 have sub:Looks (model prog w) hp (isInstance (.ref x) (.type "BaseException")) true:=L0.andThen (looks_subIn X hsub)
 have hx0:(false&&onTheHeap (Value.builtin "BaseException.__getattribute__"))=false:=rfl
 have hx2:(Value.builtin "BaseException.__getattribute__" == Value.builtin "object.__getattribute__")=false:=by decide +kernel
 have hx1:(onTheHeap (Value.ref D)&&Value.builtin "BaseException.__getattribute__" == Value.builtin "object.__getattribute__")=false:=by rw[hx2];rfl
 unfold getAttr? getAttrBy? getAttrBy
 refine wpAny_bind (wpAny_mkText (wpAny_bind (wpAny_attempt (wpAny_holding (wpAny_bind (L0.at (wpAny_bind (L1.at ?_))))))))
 show wpAny _ _ (if (onTheHeap (Value.ref D)&&Value.builtin "BaseException.__getattribute__" == Value.builtin "object.__getattribute__")=true then _ else _) _ _ _
 rw[hx1,if_neg Bool.false_ne_true]
 unfold getAttrByItsOwn hookBefore
 refine wpAny_bind ?_
 rw[if_pos (show onTheHeap (Value.ref D)=true from rfl)]
 refine L2.at ?_
 refine wpAny_bind (wpAny_attempt (wpAny_holding ?_))
 unfold callGetattribute
 rw[hx0,if_neg Bool.false_ne_true]
 unfold boundAndCalled
 rw[PySem.F.excAttr_ValueError.ga.bind (.ref x)]
 refine wpAny_bind (wpAny_pure ?_)
 show wpAny _ _ (call (.builtin "BaseException.__getattribute__") [.ref x,.str "__class__" t]) _ _ _
 refine wpAny_call (codeAny_call_builtin PySem.F.excAttr_ValueError.ga.plain PySem.F.entry_bexc_ga ?_)
 refine @check_slot (model prog w) _ _ ⟨hp,g,d,t+1,os⟩ "BaseException.__getattribute__" "BaseException" "__getattribute__" (.ref x) [.str "__class__" t] [] _ (by decide +kernel) (by decide +kernel) sub (PySem.F.args_bexc_ga (.ref x) (.str "__class__" t)) ?_
 unfold Builtin.«object.__getattribute__»
 refine wpAny_bind (wpAny_of_eq (a:=((Value.ref x:Value),[Value.str "__class__" t])) (by first|rfl|(simp only[slotArgs];rfl)) ?_)
 refine wpAny_bind (wpAny_pure (wpAny_bind (L0.at (wpAny_bind (L3.at ?_)))))
 show wpAny _ _ (holding [Value.builtin "object.__class__"] (call (.builtin "getset_descriptor.__get__") [.builtin "object.__class__", .ref x,.ref D]) >>= ret) _ _ _
 refine wpAny_bind (wpAny_holding (wpAny_call (class_get (s:=⟨hp,g,d,t+1,os⟩) (ox:=ox) (od:=od) X I hm ?_)))
 refine wpAny_pure ?_
 show wpAny _ _ (handedOut (.ref D)) _ _ _
 rw[handedOut_of (v:=.ref D) rfl]
 first
  |exact wpAny_pure (wpAny_pure h)
  |exact wpAny_pure h
  |exact wpAny_pure (wpAny_bind (wpAny_pure (wpAny_pure h)))
theorem Aa7(hga:findIn K (.ref D) "__getattribute__" = some (some (.builtin "BaseException.__getattribute__")))(hgt:findIn K (.ref D) "__getattr__" = some none)(hsub:subIn K (.ref D) (.type "BaseException")=some true)(hdct:hasDictIn K D=true)(ha:findIn K (.ref D) "__class__" = some (some (.builtin "object.__class__")))
  (hn:specialIn K (.builtin "object.__class__") "__get__" = some (some (.builtin "getset_descriptor.__get__"))) (htk:takesIn K (.builtin "object.__class__")=some true) (hm:mroIn K D (.type "object")=some true) :
  KitX K (.ref x) (.ref D) (fun h=>InstAt h x ox D od) where
 ty:=fun _ _ _ I=>I.type
 it:=fun _ _ X _=>by
  obtain⟨cdD,hcD,_⟩:=any_some hdct
  unfold clsIn at hcD
  split at hcD
  ·rename_i c' d' cd' sl' ho
   intro A' Q' E' s' k q
   unfold isType loadHead
   exact wpAny_bind (wpAny_loadPart (k _ _ (X _ _ ho)) (wpAny_pure q))
  ·cases hcD
 ne:=fun h tp dd its n sl X htp=>by
  obtain⟨cdD,hcD,_⟩:=any_some hdct
  refine Bool.eq_false_iff.mpr fun q=>?_
  have e:D=tp:=Value.ref.inj (beq_iff_eq.mp q)
  subst e
  unfold clsIn at hcD
  split at hcD
  ·rename_i c' d' cd' sl' ho
   have z:=(X _ _ ho).symm.trans htp
   cases z
  ·cases hcD
 ca:=fun X I k=>Wc hga hgt hsub hdct ha hn htk hm X I k
end
open PySem L2
section
variable {G:Gw} {X:Cx}
structure TabE(G:Gw)(tS tT:String→String→Option Bool):Prop where
 st:∀C D b,tS C D=some b→PySem.W.kitOne G.K (.ref (G.at_ C)) (.ref (G.at_ D))=some b
 ty:∀C D b,tT C D=some b→PySem.W.kitOne G.K (.ref (G.at_ C)) (.type D)=some b
end
end Fm
set_option maxHeartbeats 2000000
namespace Fm
open PySem L2
set_option autoImplicit false
end Fm
set_option maxHeartbeats 2000000
namespace Fm
open PySem L2
set_option autoImplicit false
open _root_.NdefX (NF NScope)
structure ErrRaw(P:Program)(K:PySem.W.Frag)(C f cc cd:Addr)(qual:Str)(st:Stmt):Prop where
 cls:∃nm q N bs bm sn sub ab col dd k0 k1 k2 k3 k5,K.lookup C=some (excClassObj nm q C N bs bm true sn sub ab col dd k0 k1 k2 k3 k5 "ValueError.__new__")∧PySem.HandSPX.refsVE bm=true
 sa:PySem.W.findIn K (.ref C) "__setattr__" = some (some (.builtin "object.__setattr__"))
 exC:PySem.W.subIn K (.ref C) (.type "BaseException")=some true
 tyC:PySem.W.typeIn K (.ref C)=some (.type "type")
 kC:PySem.W.keepIn K (.ref C)=true
 init:PySem.W.findIn K (.ref C) "__init__" = some (some (.ref f))
 ty:PySem.W.typeIn K (.ref f)=some (.type "function")
 lk:∃oc od doc pm ctv osl,K.lookup f=some ⟨oc,od,.func (PySem.W.fnX "__init__" qual (defArgs st) (defBody st) (defScope st) [(("__class__" : Str),cc)] .none .none doc pm none (.ref cd) ctv),osl⟩
 code:PySem.W.codeIn K (.ref cd) qual=true
 cell:∃cl cld csl,K.lookup cc=some ⟨cl,cld,.cell (some (.ref C)),csl⟩
 file:∃ccl cdd vs ccs file tf,K.lookup cd=some ⟨ccl,cdd,.fields vs,ccs⟩∧vs[2]? = some (.str file tf)∧((P.main.file:Str)==file)=true
 top:(P.main.scope.names.lookup ("super" : Str)).isSome=false
 sup:PySem.W.ks_superIn K C C "__init__" = some (some (.builtin "ValueError.__init__"))
 nop:PySem.W.nsIn K cStatics "thirdparty.any" = some none
 veC:PySem.W.subIn K (.ref C) (.type "ValueError")=some true
 self:PySem.W.mroIn K C (.ref C)=some true
abbrev ErrRaw.nf(qual:Str)(st:Stmt)(cc cd:Addr):NF:=⟨"__init__", qual,defArgs st,defBody st,defScope st,[(("__class__" : Str),cc)],cd⟩
section
variable {G:Gw} {P:Program} {w:World} {mg:Str→Option Value} {base:Heap} {C:String} {f cc cd:Addr} {qual:Str} {st:Stmt}
theorem ErrRaw.oex{K:PySem.W.Frag}{C:Addr}(R:ErrRaw P K C f cc cd qual st):OexC K C:=⟨R.cls,R.sa,R.exC,R.tyC,R.kC⟩
theorem Jz{k:Nat}{x fld:String}{p0 p1 p2 p3 p4 p5 p6 p7 p8 p9:Pos}{ar:Arg}(R:ErrRaw P G.K (G.at_ C) f cc cd qual st)(hmg:mg (Str.ofString C)=some (.ref (G.at_ C)))(hm:mg "super" = none)(hno:PySem.W.findIn G.K (.ref (G.at_ C)) (Str.ofString fld)=some none)
  (ks:(defScope st).names.lookup ("super" : Str)=some .globalImplicit) (kc:(defScope st).names.lookup ("__class__" : Str)=some .free) (S:NScope ["self", Str.ofString x, "__class__"] ["self", Str.ofString x] ["__class__"] (defScope st))
  (hp:((defArgs st).posonlyargs++(defArgs st).args).head? = some ar) (har:ar.arg = "self") (hbd:defBody st=Ym "self" (Str.ofString x) (Str.ofString fld) p0 p1 p2 p3 p4 p5 p6 p7 p8 p9)
  (hev:∀env:Env,∃pl:Sem Bool,eval (.Call (.Attribute (.Call (.Name "super" p0) [] [] p1) "__init__" p2) [.Name (Str.ofString x) p5] [] p3) env=(do
   let ov ←attributeBase (.Call (.Name "super" p0) [] [] p1) "__init__" env (eval (.Call (.Name "super" p0) [] [] p1) env)
   standAt p2.atName
   let (f,first) ←holding [ov] (getMethod ov "__init__" pl)
   callWith p3 f first (backTo p3 (starEach [.Name (Str.ofString x) p5] env)) []))
  (hb:∀(doc pm ctv:Value) (us:List Value),us.length=2→bindArgs (PySem.W.fnX "__init__" qual (defArgs st) (defBody st) (defScope st) [(("__class__" : Str),cc)] .none .none doc pm none (.ref cd) ctv) ⟨us,[]⟩=pure (([("self" : Str),Str.ofString x]:List Str).zip us))
  (d3:(Str.ofString x==("__debug__" : Str))=false:=by decide) (d4:(Str.ofString x==("__classdict__" : Str))=false:=by decide):ErrK G P w mg base (k+1) C [fld]:=by
 have FS:SupF P G.K (ErrRaw.nf qual st cc cd) f cc (G.at_ C):=⟨R.lk,rfl,R.code,R.cell,R.file,R.top,R.sup,R.nop,R.veC,R.self,ks,kc⟩
 obtain⟨⟨o,fd⟩,h1,h2,h3⟩:=Agy (w:=w) (mg:=mg) (base:=base) (CX:=CX0) (k:=k) FS R.oex hm S hp har hbd hno hev (by decide) (by decide) d3 d4
 obtain⟨oc,od,doc,pm,ctv,osl,hl⟩:=R.lk
 have e:=h1.symm.trans hl
 simp only at e h2
 cases e
 cases h2
 exact⟨hmg,R.oex,f,_,_,h3,R.init,R.ty,.all (hb doc pm ctv)⟩
end
end Fm
set_option maxHeartbeats 2000000
namespace Fm
open PySem L2
end Fm
namespace Fm
open PySem PySem.Spec PyProof.Rows L2
end Fm
namespace Fm
open PySem L2
end Fm
set_option maxHeartbeats 3200000
namespace Fm
open PySem PySem.Spec PyProof.Rows L2
def AfW(e:Int×Value):Key:=match e.2 with|.int k _=>.inl k|.str x _=>.inr x|_=>.inl 0
def AfA(w:World)(e:Int×Value):Prop:=∃k:Key,keyIs k e.2=true∧e.1=keyH w k
def Ad6(w:World)(h:Heap)(a:Addr)(L:List Key):Prop :=
 ∃o es ep t,h.get? a=some o∧o.ExactSet∧o.data=.set es ep t∧(∀e∈es.toList,AfA w e)∧(es.toList.map AfW).Nodup∧(∀k,k∈es.toList.map AfW↔k∈L) ∧
  es.size<scanBound∧t.fits es.size=true∧es.size≤L.length∧Ris t.place.toList∧(w.params.followText "set-order" = true∨t.led=true)
section
variable {P:Program} {w:World} {h h':Heap} {a:Addr} {L:List Key}
theorem Ad6.at(R:Ad6 w h a L)(k:∀o,h.get? a=some o→h'.get? a=some o):Ad6 w h' a L:=by
 obtain⟨o,es,ep,t,ho,r⟩:=R
 exact⟨o,es,ep,t,k o ho,r⟩
end
end Fm
set_option maxHeartbeats 6400000
namespace Fm
open PySem PySem.Spec PyProof.Rows L2
end Fm
set_option maxHeartbeats 1000000
namespace Fm
open PySem PySem.Spec PyProof.Rows L2
def keyD:Key→PyData
 |.inl i=>.int i
 |.inr x=>.str x
def kLe:Key→Key→Bool:=PySem.W.dataLe false keyD
def V5(ks:List Key):Bool:=ks.all (fun k=>match k with|.inl _=>true|_=>false)||ks.all (fun k=>match k with|.inr _=>true|_=>false)
end Fm
set_option maxHeartbeats 1000000
namespace Fm
open PySem L2
theorem Tw{α:Type}{le:α→α→Bool}(anti:∀a b,le a b=true→le b a=true→a=b):∀{xs ys:List α},xs.Perm ys→xs.Pairwise (fun a b=>le a b=true)→ys.Pairwise (fun a b=>le a b=true)→xs=ys
 | [],ys,h,_,_=>(List.nil_perm.mp h).symm
 |x::xs,[],h,_,_=>absurd h.length_eq (by simp)
 |x::xs,y::ys,h,h1,h2=>by
  obtain⟨a1,b1⟩:=List.pairwise_cons.mp h1
  obtain⟨a2,b2⟩:=List.pairwise_cons.mp h2
  have e:x=y:=by
   have m1:x∈y::ys:=h.subset (by simp)
   have m2:y∈x::xs:=h.symm.subset (by simp)
   rcases List.mem_cons.mp m1 with e|m1
   ·exact e
   ·rcases List.mem_cons.mp m2 with e|m2
    ·exact e.symm
    ·exact anti x y (a1 y m2) (a2 x m1)
  subst e
  rw[Tw anti (List.Perm.cons_inv h) b1 b2]
theorem Ve{α:Type}(k:α→PyData)(a b:α):(PySem.W.dataLe false k a b||PySem.W.dataLe false k b a)=true:=by
 have:=(PySem.W.sortLe_total (PyProof.Rows.listOrd PyProof.Rows.itemOrd) false (fun x:α=>PySem.W.keyToks (k x))).total a b
 rw[Bool.or_eq_true];exact this
theorem Vd{α:Type}(k:α→PyData)(a b c:α):PySem.W.dataLe false k a b=true→PySem.W.dataLe false k b c=true→PySem.W.dataLe false k a c=true :=
 (PySem.W.sortLe_total (PyProof.Rows.listOrd PyProof.Rows.itemOrd) false (fun x:α=>PySem.W.keyToks (k x))).trans a b c
theorem Wh{α:Type}(k:α→PyData){a b:α}(h1:PySem.W.dataLe false k a b=true)(h2:PySem.W.dataLe false k b a=true):PySem.W.keyToks (k a)=PySem.W.keyToks (k b):=by
 have e1:(!PyProof.Rows.lexLt PyProof.Rows.itemOrd (PySem.W.keyToks (k b)) (PySem.W.keyToks (k a)))=true:=h1
 have e2:(!PyProof.Rows.lexLt PyProof.Rows.itemOrd (PySem.W.keyToks (k a)) (PySem.W.keyToks (k b)))=true:=h2
 rw[Bool.not_eq_true'] at e1 e2
 exact(PyProof.Rows.listOrd PyProof.Rows.itemOrd).total _ _ e2 e1
theorem Vc{α:Type}(k:α→PyData)(l:List α):(l.mergeSort (PySem.W.dataLe false k)).Pairwise (fun a b=>PySem.W.dataLe false k a b=true) :=
 List.pairwise_mergeSort (Vd k) (Ve k) l
def kW:Key→W
 |.inl i=>.int i
 |.inr x=>.str x
end Fm
set_option maxHeartbeats 2000000
namespace Fm
open PySem PySem.Spec PyProof.Rows L2
end Fm
set_option maxHeartbeats 1000000
namespace Fm
open PySem PySem.Spec PyProof.Rows L2
section
variable {X:Cx} {tg:Expr}
def Afy(K:PySem.W.Frag)(td:TE):TI:=fun σ H R=>td σ H fun x H1=>(∃a xs,x=.ref a∧SqL K H1 a xs∧R (Itl K a) H1)∨(∃a xs,x=.ref a∧SqT K H1 a xs∧R (Itt K a) H1) ∨
 (∃d o kvs,x=.ref d∧H1 d=some (.frz o (.dK kvs))∧R (Itk d o kvs) H1)∨∃y,x=.str y∧R (Its y) H1
theorem Aeo{l:Expr}{tl:TE}(hl:PE X l tl):PI X tg l (Afy X.K tl):=by
 refine⟨fun pins s σ H R I h=>?_⟩
 refine thn (hl.run pins s σ H _ I h) fun v s1 ⟨x,H1,I1,r1,q1⟩=>?_
 have fin:∀b,b∈[s1.heap.objs.size]→FpOk X pins H1 b:=fun b hb=>by
  have e:b=s1.heap.objs.size:=by simpa using hb
  subst e
  exact I1.fpOk (Nat.le_refl _) (I1.hok.fresh (Nat.le_refl _))
 rcases q1 with⟨a,xs,rfl,hq,q⟩|⟨a,xs,rfl,hq,q⟩|⟨d,o,kvs,rfl,hd,q⟩|⟨y,rfl,q⟩
 ·cases r1
  obtain⟨its,rv,p,hz⟩:=I1.list hq
  refine wpAny_pyIter_list p.isList ?_
  exact⟨s1.heap.objs.size,[s1.heap.objs.size],_,_,H1,rfl,I1.kept (t':=s1.toks) fun b o e=>Heap.get?_push_of_some _ e,turn_list a _,⟨_,Heap.get?_push_size _ rfl,rfl,rfl⟩,fin,q⟩
 ·cases r1
  obtain⟨its,rv,p,hz⟩:=I1.tuple hq
  refine wpAny_pyIter_tuple (show s1.heap.IsTuple a its.toArray from p) ?_
  exact⟨s1.heap.objs.size,[s1.heap.objs.size],_,_,H1,rfl,I1.kept (t':=s1.toks) fun b o e=>Heap.get?_push_of_some _ e,turn_tuple a _,⟨_,Heap.get?_push_size _ rfl,rfl,rfl⟩,fin,q⟩
 ·obtain rfl:v=Value.ref d:=r1
  obtain⟨hs,hgd,hx,es,ep,vs,hdt,hsz,kv,hm⟩:=I1.frzK hd
  refine iter_keys hs hgd hx hdt (pi_one (tk:=s1.toks) I1 _ (turn_keys _ hdt) ⟨_,Heap.get?_push_size _ rfl,rfl,?_⟩ q)
  rw[hsz]<;>rfl
 ·obtain⟨t,rfl⟩:=r1
  cases ha:y.cps.all (· < 128)
  ·exact wpAny_pyIter_wide ha (pi_one (tk:=s1.toks) I1 _ (turn_str _ y t "str_iterator" (.inr rfl)) ⟨_,Heap.get?_push_size _ rfl,rfl,rfl⟩ q)
  ·exact wpAny_pyIter_ascii ha (pi_one (tk:=s1.toks) I1 _ (turn_str _ y t "str_ascii_iterator" (.inl rfl)) ⟨_,Heap.get?_push_size _ rfl,rfl,rfl⟩ q)
end
def Xa(x:Str):List W:=x.cps.toList.map fun c=>.str ⟨#[c]⟩
open Classical in
noncomputable def Adt(i:Nat)(kvs:List (Key×W)):Sto→Bool:=fun s=>decide (s.get i=some (.ldk kvs))
open Classical in
theorem AaJ{i:Nat}{kvs:List (Key×W)}{s:Sto}:Adt i kvs s=true↔s.get i=some (.ldk kvs):=by unfold Adt;simp
noncomputable def Wd(w:W)(s:Sto):R ItW:=match w with
 |.ref i=>(match s.get i with
  |some (.lst ws)=>.ok ⟨ws,Wf i ws⟩ s
  |some (.ldk kvs)=>.ok ⟨kvs.map fun kv=>kW kv.1,Adt i kvs⟩ s
  |_=>.bad)
 |.lst ws=>.ok ⟨ws,fun _=>true⟩ s
 |.tup ws=>.ok ⟨ws,fun _=>true⟩ s
 |.dct kvs=>.ok ⟨kvs.map fun kv=>kW kv.1,fun _=>true⟩ s
 |.str x=>.ok ⟨Xa x,fun _=>true⟩ s
 |_=>.bad
noncomputable def AaI(m:EM):IM:=fun z s=>(m z s).bind Wd
section
variable {G:Gw} {X:Cx} {E:L2.St→XK}
theorem T8{p:Pl}{H:Hp}:∀{ws:List (Key×W)} {vs:List (Key×V)},RelKw G p H ws vs→vs.length=ws.length
 |_,_,.nil=>rfl
 |_,_,.cons _ t=>by rw[List.length_cons,List.length_cons,T8 t]
theorem Nr{p:Pl}{H:Hp}:∀{ws:List (Key×W)} {vs:List (Key×V)} {i:Nat} {kw:Key×W},RelKw G p H ws vs→ws[i]? = some kw→∃v,vs[i]? = some (kw.1,v)∧RelW G p H kw.2 v
 |_,_,0,_,.cons h _,e=>by cases e;exact⟨_,rfl,h⟩
 |_,_,i+1,kw,.cons _ t,e=>by
  obtain⟨v,h1,h2⟩:=Nr (i:=i) t (by simpa using e)
  exact⟨v,by simpa using h1,h2⟩
 |_,_,_,_,.nil,e=>by simp at e
theorem Xk{p:Pl}{H:Hp}(k:Key):RelW G p H (kW k) (kV k):=by
 cases k with
 |inl i=>exact .int i
 |inr x=>exact .str x
theorem Acj{tg l:Expr}{m:EM}(hl:SE G E X l m)(hK:X.K=G.K:=by rfl):SI G E X tg l (AaI m):=by
 obtain⟨t,h1,h2⟩:=hl
 refine⟨_,Aeo h1,fun σ z H p s Q rs me h=>h2 σ z H p s _ rs me (Bf.bind h fun w s1 _ p1 H1 x e1 m1 r1 h1=>?_)⟩
 rw[hK]
 cases r1 with
 | @ref i a ha =>
  simp only[Wd] at h1
  split at h1
  ·rename_i ws hs
   obtain⟨vs,h3,h4⟩:=m1.of hs ha
   refine .inl ⟨a,vs,rfl,SqL.of h3,h1.now m1 fun j p2 H2 s2 x2 m2 g2=>?_⟩
   have g2':s2.get i=some (.lst ws):=N8.mp g2
   obtain⟨us,h5,h6⟩:=m2.of g2' (x2.get _ _ ha)
   refine⟨fun e=>⟨us,SqL.of h5,by rw[h6.length,e];exact Nat.le_refl _⟩,fun u hu=>?_⟩
   obtain⟨v,h7,h8⟩:=h6.get hu
   refine⟨⟨us,v,SqL.of h5,h7⟩,fun y H' hy=>?_⟩
   obtain⟨rfl,hy⟩:=hy
   have:=hy us (SqL.of h5)
   rw[h7] at this;cases this
   exact⟨Ext.refl,m2,h8⟩
  ·rename_i kvs hs
   obtain⟨o,vs,h3,h4⟩:=m1.of hs ha
   refine .inr (.inr (.inl ⟨a,o,vs,rfl,h3,h1.now m1 fun j p2 H2 s2 x2 m2 g2=>?_⟩))
   have h5:=x2.frz _ _ _ h3
   obtain⟨o',us,h9,h6⟩:=m2.of (AaJ.mp g2) (x2.get _ _ ha)
   rw[h5] at h9
   cases h9
   have hl:vs.length=kvs.length:=(Paired.length h6).symm
   refine⟨fun e=>⟨h5,by rw[hl];simp at e;omega⟩,fun u hu=>?_⟩
   simp only[List.getElem?_map,Option.map_eq_some_iff] at hu
   obtain⟨kw,hkw,rfl⟩:=hu
   obtain⟨v,h7,h8⟩:=Nr (Q5 h6) hkw
   refine⟨⟨h5,(List.getElem?_eq_some_iff.mp h7).1⟩,fun y H' hy=>?_⟩
   obtain⟨rfl,k,v',hk,rfl⟩:=hy
   rw[h7] at hk;cases hk
   exact⟨Ext.refl,m2,Xk _⟩
  ·exact h1.elim
 | @lst a ws vs hf h3 h4 =>
  refine .inl ⟨a,vs,rfl,SqL.of h3,h1.now m1 fun j p2 H2 s2 x2 m2 g2=>?_⟩
  have h5:=x2.keep _ _ h3 hf
  have h6:=h4.monoR x2.toExtR
  refine⟨fun e=>⟨vs,SqL.of h5,by rw[h6.length,e];exact Nat.le_refl _⟩,fun u hu=>?_⟩
  obtain⟨v,h7,h8⟩:=h6.get hu
  refine⟨⟨vs,v,SqL.of h5,h7⟩,fun y H' hy=>?_⟩
  obtain⟨rfl,hy⟩:=hy
  have:=hy vs (SqL.of h5)
  rw[h7] at this;cases this
  exact⟨Ext.refl,m2,h8⟩
 | @tup a ws vs hq hr =>
  refine .inr (.inl ⟨a,vs,rfl,hq,h1.now m1 fun j p2 H2 s2 x2 m2 g2=>?_⟩)
  have h5:=x2.tups _ _ hq
  have h6:=hr.monoR x2.toExtR
  refine⟨fun e=>⟨vs,h5,by rw[h6.length,e];exact Nat.le_refl _⟩,fun u hu=>?_⟩
  obtain⟨v,h7,h8⟩:=h6.get hu
  refine⟨⟨vs,v,h5,h7⟩,fun y H' hy=>?_⟩
  obtain⟨rfl,hy⟩:=hy
  have:=hy vs h5
  rw[h7] at this;cases this
  exact⟨Ext.refl,m2,h8⟩
 | @dct a ws vs hf h3 h4 =>
  obtain⟨o,h3⟩:=h3
  refine .inr (.inr (.inl ⟨a,o,vs,rfl,h3,h1.now m1 fun j p2 H2 s2 x2 m2 g2=>?_⟩))
  have h5:=x2.keep _ _ h3 hf
  have h6:=h4.monoR x2.toExtR
  refine⟨fun e=>⟨h5,by rw[T8 h6];simp at e;omega⟩,fun u hu=>?_⟩
  simp only[List.getElem?_map,Option.map_eq_some_iff] at hu
  obtain⟨kw,hkw,rfl⟩:=hu
  obtain⟨v,h7,h8⟩:=Nr h6 hkw
  refine⟨⟨h5,(List.getElem?_eq_some_iff.mp h7).1⟩,fun y H' hy=>?_⟩
  obtain⟨rfl,k,v',hk,rfl⟩:=hy
  rw[h7] at hk;cases hk
  exact⟨Ext.refl,m2,Xk _⟩
 | @str x =>
  refine .inr (.inr (.inr ⟨x,rfl,h1.now m1 fun j p2 H2 s2 x2 m2 g2=>?_⟩))
  have hz:(Xa x).length=x.cps.size:=by simp[Xa]
  refine⟨fun e=>by show x.cps.size≤j;rw[e,←hz];exact Nat.le_refl _,fun u hu=>?_⟩
  simp only[Xa,List.getElem?_map,Option.map_eq_some_iff] at hu
  obtain⟨c,hc,rfl⟩:=hu
  rw[Array.getElem?_toList] at hc
  refine⟨(Array.getElem?_eq_some_iff.mp hc).1,fun y H' hy=>?_⟩
  obtain⟨rfl,c',hc',rfl⟩:=hy
  rw[hc] at hc';cases hc'
  exact⟨Ext.refl,m2,.str _⟩
 |_=>exact h1.elim
end
end Fm
namespace Fm
open PySem L2
section
variable {G:Gw} {E:St→XK} {X:Cx}
theorem ExtR.trans{p p1 p2:Pl}{H H1 H2:Hp}(a:ExtR G p H p1 H1)(b:ExtR G p1 H1 p2 H2):ExtR G p H p2 H2 :=
 ⟨fun i x h=>b.get i x (a.get i x h),fun x h=>b.fzs x (a.fzs x h),fun x o h hf=>b.keep x o (a.keep x o h hf) (a.fzs x hf),fun x vs h=>b.tups x vs (a.tups x vs h),fun x vs h=>b.scrs x vs (a.scrs x vs h)⟩
theorem ExtR.refl{p:Pl}{H:Hp}:ExtR G p H p H:=⟨fun _ _ h=>h,fun _ h=>h,fun _ _ h _=>h,fun _ _ h=>h,fun _ _ h=>h⟩
theorem ExtF.trans{p p1 p2:Pl}{H H1 H2:Hp}(a:ExtF G p H p1 H1)(b:ExtF G p1 H1 p2 H2):ExtF G p H p2 H2:=⟨a.toExtR.trans b.toExtR,fun x o u h=>b.frz _ _ _ (a.frz _ _ _ h)⟩
theorem ExtF.refl{p:Pl}{H:Hp}:ExtF G p H p H:=⟨ExtR.refl,fun _ _ _ h=>h⟩
theorem ExtF.touch{p:Pl}{H:Hp}{D:Addr}{u o:HO}(hu:H D=some u)(hw:Wr u)(nf:D∉p.fz):ExtF G p H p (upd H D o) :=
 ⟨ExtR.touch hu hw nf,fun b q v h=>by rw[upd_ne (fun z=>by subst z;rw[hu] at h;cases h;exact hw)];exact h⟩
def AeJ(G:Gw)(E:St→XK)(m:IM):TI:=fun σ H Q=>∃z p s,Be G p H z σ∧Emb G p s H∧Bf G (fun p' H' w J=>Af7 G p' H' J w) p H Q (E σ) (m z s)
theorem SI.canon{tg e:Expr}{m:IM}(h:SI G E X tg e m):PI X tg e (AeJ G E m):=by
 obtain⟨t,h1,h2⟩:=h
 exact⟨fun pins s σ H Q I ⟨z,p,s',rs,me,q⟩=>h1.run pins s σ H Q I (h2 σ z H p s' Q rs me q)⟩
end
end Fm
namespace Fm
open PySem PySem.Spec PyProof.Rows L2
section
variable {X:Cx}
theorem CallR.or{f:Value}{r1 r2:List V→Hp→VK→Prop}(h1:CallR X f r1)(h2:CallR X f r2):CallR X f (fun xs H Q=>r1 xs H Q∨r2 xs H Q):=fun pins s σ H xs us Q I r h=>h.elim (h1 pins s σ H xs us Q I r) (h2 pins s σ H xs us Q I r)
end
section
variable {G:Gw} {X:Cx} {E:L2.St→XK}
def V3:W→Sto→R W:=fun w s=>match dOf w s with
 |some kvs=>if V5 (kvs.map (·.1))=true then .ok (.lst (((kvs.map (·.1)).mergeSort kLe).map kW)) s else .bad
 |none=>.bad
end
end Fm
namespace Fm
open PySem PySem.Spec PyProof.Rows
section
variable {prog:Program} {w:World} {A:Around} {E:Value→Shared→Prop} {s:Shared} {R:Result→Shared→Prop}
def LX(h:Heap)(l:Addr)(xs:List Value):Prop:=∃n,h.get? l=some { cls:=.type "list", dict:=none,data:=.seq xs.toArray n,slots:=#[] }
theorem LX.list{h:Heap}{l:Addr}{xs:List Value}(x:LX h l xs):h.IsList l xs.toArray:=let ⟨n,e⟩:=x;⟨_,e,rfl,n,rfl⟩
theorem LX.keep{h h':Heap}{l:Addr}{xs:List Value}(x:LX h l xs)(k:∀o,h.get? l=some o→h'.get? l=some o):LX h' l xs:=let ⟨n,e⟩:=x;⟨n,k _ e⟩
end
end Fm
namespace Fm
open PySem L2
def Age(K:PySem.W.Frag)(a:Addr)(xs:List Str):Prop:=∃(o:Obj) (its:Array Value) (n:Nat),K.lookup a=some o∧o.cls=.type "tuple" ∧ o.data=.seq its n∧its.size≤sizeLine∧Vals (xs.map V.str) its.toList
section
variable {G:Gw} {X:Cx} {E:St→XK}
theorem AcQ{i:Int}{x:Str}{pos:Pos}(hg:Gl X x)(hm:∃t,X.mg x=some (.int i t))(hd:(x==("__debug__" : Str))=false:=by decide):SE G E X (.Name x pos) (eC (.int i)):=by
 obtain⟨t,hm⟩:=hm
 exact Jj (pe_glob (v:=.int i) hg hm ⟨t,rfl⟩ hd) fun _ _=>.int i
theorem AcP{y x:Str}{pos:Pos}(hg:Gl X x)(hm:∃t,X.mg x=some (.str y t))(hd:(x==("__debug__" : Str))=false:=by decide):SE G E X (.Name x pos) (eC (.str y)):=by
 obtain⟨t,hm⟩:=hm
 exact Jj (pe_glob (v:=.str y) hg hm ⟨t,rfl⟩ hd) fun _ _=>.str y
theorem Qa{p:Pl}{H:Hp}:∀xs:List Str,RelWs G p H (xs.map W.str) (xs.map V.str)
 | []=>.nil
 |x::xs=>.cons (.str x) (Qa xs)
theorem AcO{ys:List Str}{x:Str}{pos:Pos}(hg:Gl X x)(hm:∃a,X.mg x=some (.ref a)∧Age G.K a ys)(hd:(x==("__debug__" : Str))=false:=by decide):SE G E X (.Name x pos) (eC (.tup (ys.map .str))):=by
 obtain⟨a,hm,o,its,n,h1,h2,h3,h4,h5⟩:=hm
 exact Jj (pe_glob (v:=.ref a) hg hm rfl hd) fun _ _=>.tup (.inr ⟨o,its,n,h1,h2,h3,h4,h5⟩) (Qa ys)
theorem Tf{x:Str}{xs:List Str}{t:Tok}{us:List Value}(h:Vals (xs.map V.str) us):Vals ((x::xs).map V.str) (.str x t::us):=.cons ⟨t,rfl⟩ h
theorem Zy:Vals (([]:List Str).map V.str) []:=.nil
end
end Fm
namespace Fm
open PySem PySem.Spec PyProof.Rows L2
section
variable {G:Gw} {X:Cx} {E:L2.St→XK}
def strsOf:List W→Option (List Str)
 | []=>some []
 |.str i::ws=>(strsOf ws).map (i :: ·)
 |_::_=>none
theorem M9{p:Pl}{H:Hp}:∀{ws:List W} {vs:List V} {ns:List Str},RelWs G p H ws vs→strsOf ws=some ns→vs=ns.map V.str
 |_,_,_,.nil,e=>by cases e;rfl
 |_,_,ns,.cons (w:=w) h t,e=>by
  cases w with
  |str i =>
   simp only[strsOf,Option.map_eq_some_iff] at e
   obtain⟨ms,e1,rfl⟩:=e
   cases h
   rw[M9 t e1];rfl
  |_=>simp[strsOf] at e
@[simp] theorem Yv:∀l:List Str,strsOf (l.map .str)=some l
 | []=>rfl
 |x::l=>by simp[strsOf,Yv l]
def Ac2:W→Sto→R W:=fun w s=>match w with
 |.str a=>.ok (.str a) s
 |_=>.bad
def eM1(g:W→W→Sto→R W)(o e:EM):EM:=fun z s=>(o z s).bind fun w s1=>(Ac2 w s1).bind fun w s2=>(e z s2).bind fun u s3=>g w u s3
theorem Adr{r:V→List V→Hp→VK→Prop}{g:W→W→Sto→R W}{to te:TE}{o e:EM}(hp:Bx G (fun x y=>r x [y]) g)(ho:Gq G E to o)(he:Gq G E te e):Gq G E (tM1 r to te) (eM1 g o e):=fun σ z H p s Q rs m h =>
 ho σ z H p s _ rs m (Bf.bind h fun w s1 _ p1 H1 x e1 m1 r1 h1=>by
  cases r1 with
  |str a =>
   refine⟨⟨a,rfl⟩,he σ z H1 p1 s1 _ (rs.mono e1) m1 (Bf.bind h1 fun u s2 _ p2 H2 y e2 m2 r2 h2=>hp _ _ _ _ _ _ _ _ _ (.str a) r2 m2 h2)⟩
  |_=>exact h1.elim)
def Aaw:W→W→Sto→R W:=fun w u s=>match w,(Ac0 u s).bind strsOf with
 |.str a,some ys=>if (ys.map (·.length)).sum+ys.length*a.length≤16777216 then .ok (.str (Txt.join a ys)) s else .bad
 |_,_=>.bad
theorem AcN{o e:Expr}{mo me:EM}{apos pos:Pos}(ho:SE G E X o mo)(he:SE G E X e me)(hs:starEach [e] X.env=[(false,eval e X.env)]:=by rfl)(hbase:attributeBase o "join" X.env (eval o X.env)=eval o X.env:=by rfl)(hline:(apos.endLine==pos.line)=true:=by rfl)(hK:X.K=G.K:=by rfl) :
  SE G E X (.Call (.Attribute o "join" apos) [e] [] pos) (eM1 Aaw mo me) :=
 let ⟨_,h1,h2⟩:=ho
 let ⟨_,h3,h4⟩:=he
 ⟨_,pe_join h1 h3 hs hbase hline,Adr (fun Ee x y w u H p s Q r1 r2 m h=>by
  unfold Aaw at h
  split at h
  ·rename_i a ys e
   cases e1:Ac0 u s with
   |none=>rw[e1] at e;cases e
   |some ws =>
    rw[e1] at e
    split at h
    ·rename_i hz
     cases r1
     obtain⟨q,vs,rfl,hq,hr⟩:=Aa2 m r2 e1
     have:=M9 hr e
     subst this
     rw[hK]
     exact⟨a,q,ys,rfl,rfl,hq,hz,h.now m (.str _)⟩
    ·exact h.elim
  ·exact h.elim) h2 h4⟩
end
end Fm
set_option maxHeartbeats 1000000
namespace Fm
open PySem PySem.Spec PyProof.Rows L2
section
variable {G:Gw} {X:Cx} {E:L2.St→XK}
def V4:W→W→Sto→R W:=fun w u s=>match w,u with
 |.str z,.int i=>if 0≤i∧i<2 ^ 63 then(match z.cps[i.toNat]? with
  |some c=>.ok (.str ⟨#[c]⟩) s
  |none=>.bad) else .bad
 |_,_=>.bad
theorem AdV{a b:Expr}{ma mb:EM}{pos:Pos}(ha:SE G E X a ma)(hb:SE G E X b mb)(hs:PlainIxT b:=by exact fun _ _=>rfl):SE G E X (.Subscript a b pos) (eOp V4 ma mb) :=
 let ⟨ta,h1,h2⟩:=ha
 let ⟨tb,h3,h4⟩:=hb
 ⟨_,pe_item_str h1 h3 hs,Gq.op (fun Ee x y w u H p s Q r1 r2 m h=>by
  unfold V4 at h
  split at h
  ·rename_i z i
   split at h
   ·rename_i hi
    split at h
    ·rename_i c e
     cases r1;cases r2
     have hl:i.toNat<z.cps.size:=(Array.getElem?_eq_some_iff.mp e).1
     exact⟨z,i,c,rfl,rfl,hi.1,hi.2,by show i<(z.cps.size:Int);omega,e,h.now m (.str _)⟩
    ·exact h.elim
   ·exact h.elim
  ·exact h.elim) h2 h4⟩
def AbG:W→W→Sto→R W:=fun w u s=>match w,u with
 |.lst ws,.int k=>if -(2 ^ 63)≤k∧k<2 ^ 63∧ws.length*k.toNat≤sizeLine then .ok (.lst (List.replicate k.toNat ws).flatten) s else .bad
 |_,_=>.bad
theorem AcV:Bx G rRep AbG:=by
 intro Ee x y w u H p s Q r1 r2 m h
 unfold AbG at h
 split at h
 ·rename_i ws k
  split at h
  ·rename_i hz
   cases r2
   cases r1 with
   | @lst a _ vs hf h1 hr=>exact⟨a,k,vs,rfl,rfl,h1,hz.1,hz.2.1,by rw[hr.length];exact hz.2.2,Fx m (T7 hr _) h⟩
  ·exact h.elim
 ·exact h.elim
def Ac9(G:Gw)(tab:String→Option (List Str)):Prop:=∀n ys,tab n=some ys→∃(o:Obj) (its:Array Value) (k:Nat),G.K.lookup (G.at_ n)=some o∧o.cls=.type "tuple" ∧ o.dict=none∧o.data=.seq its k∧its.size≤sizeLine∧Vals (ys.map V.str) its.toList
theorem Ac9.sq{tab:String→Option (List Str)}(T:Ac9 G tab){n:String}{ys:List Str}(h:tab n=some ys)(H:Hp):SqT G.K H (G.at_ n) (ys.map V.str):=by
 obtain⟨o,its,k,h1,h2,h3,h4,h5,h6⟩:=T n ys h
 exact .inr ⟨o,its,k,h1,h2,h4,h5,h6⟩
end
def AdH:List W→Sto→R W:=fun _ _=>.bad
theorem FnM.bad{G:Gw}{P:Program}{w:World}{mg:Str→Option Value}{base:Heap}{CX:CXT}{k:Nat}{n:String}{fd:FuncData}{ps:List Str}(h2:mg (Str.ofString n)=some (.ref (G.at_ n)))(h3:PySem.W.keepIn G.K (.ref (G.at_ n))=true)(h4:Binds G.K fd ps []):FnM G P w mg base CX k n AdH :=
 have no:∀vs H Q E,¬spM G AdH vs H Q E:=fun vs H Q E h=>by
  obtain⟨p,s',ws,m,r,q⟩:=h
  exact q
 ⟨⟨fd,ps,⟨fun vs H Q E h=>(no vs H Q E h).elim,fun A outer s H args us vs Q E _ _ _ _ h=>(no vs H Q E h).elim⟩,h2,h3,h4⟩⟩
end Fm
set_option maxHeartbeats 3200000
namespace Fm
open PySem PySem.Spec PyProof.Rows L2
def NK(h:Heap)(k:NestedKey)(a:Addr):Prop:=NestedIs h k (.ref a)∧k.depth≤8
end Fm
set_option maxHeartbeats 3200000
namespace Fm
open PySem PySem.Spec PyProof.Rows L2
def Af3(w:World)(p:Addr×NestedKey):Int×Value:=(p.2.hash w,.ref p.1)
def Ads(w:World)(M:List (Addr×NestedKey)):List Int:=M.map fun p=>p.2.hash w
structure SetN(w:World)(h:Heap)(a:Addr)(M:List (Addr×NestedKey))(es:Array (Int×Value))(ep:Nat)(t:SetTable):Prop where
 ob:∃o,h.get? a=some o∧o.ExactSet∧o.data=.set es ep t
 es:es.toList=M.map (Af3 w)
 tab:TabOk t (Ads w M)
 once:(M.map (·.2)).Nodup
 keys:∀p∈M,NK h p.2 p.1
 led:w.params.followText "set-order" = true∨t.led=true
 room:M.length*5<t.mask*3
section
variable {P:Program} {w:World} {A:Around} {E:Value→Shared→Prop} {s:Shared} {a:Addr} {M:List (Addr×NestedKey)} {es:Array (Int×Value)} {ep:Nat} {t:SetTable}
theorem SetN.size{h:Heap}(R:SetN w h a M es ep t):es.size=M.length:=by
 have q:=congrArg List.length R.es
 rwa [Array.length_toList,List.length_map] at q
theorem SetN.place{h:Heap}(R:SetN w h a M es ep t):t.place.size=M.length:=by
 have q:=R.tab.sz
 rwa [Ads,List.length_map] at q
theorem SetN.fits{h:Heap}(R:SetN w h a M es ep t):t.fits es.size=true:=by
 have h1:=R.place
 have h2:=R.size
 have h3:=R.room
 simp only[SetTable.fits,SetTable.fill,R.tab.dm,Bool.and_eq_true,beq_iff_eq,decide_eq_true_eq]
 refine⟨by omega,?_⟩
 show t.place.size+0≤t.mask
 omega
theorem SetN.get{h:Heap}(R:SetN w h a M es ep t){i:Nat}{p:Addr×NestedKey}(q:M[i]? = some p):es[i]? = some (Af3 w p):=by
 rw[←Array.getElem?_toList,R.es,List.getElem?_map,q]
 rfl
end
end Fm
set_option maxHeartbeats 3200000
namespace Fm
open PySem PySem.Spec PyProof.Rows L2
end Fm
set_option maxHeartbeats 6400000
namespace Fm
open PySem PySem.Spec PyProof.Rows L2
theorem SetN.keep{w:World}{h h':Heap}{a:Addr}{M:List (Addr×NestedKey)}{es:Array (Int×Value)}{ep:Nat}{t:SetTable}(R:SetN w h a M es ep t)(ka:∀o,h.get? a=some o→h'.get? a=some o)(kk:∀p∈M,NK h' p.2 p.1):SetN w h' a M es ep t:=by
 obtain⟨o,ho,r⟩:=R.ob
 exact⟨⟨o,ka o ho,r⟩,R.es,R.tab,R.once,kk,R.led,R.room⟩
end Fm
set_option maxHeartbeats 1000000
namespace Fm
open PySem PySem.Spec PyProof.Rows L2
def SetB(w:World)(h:Heap)(a:Addr)(bs:List (Addr×NestedKey)):Prop :=
 ∃M es ep t o,h.get? a=some o∧o.ExactSet∧o.data=.set es ep t∧es.toList=M.map (Af3 w)∧TabOk t (Ads w M)∧(w.params.followText "set-order" = true∨t.led=true)∧M.length*5<t.mask*3∧M.Perm bs
theorem SetB.at{w:World}{h h':Heap}{a:Addr}{bs:List (Addr×NestedKey)}(R:SetB w h a bs)(k:∀o,h.get? a=some o→h'.get? a=some o):SetB w h' a bs:=by
 obtain⟨M,es,ep,t,o,ho,r⟩:=R
 exact⟨M,es,ep,t,o,k o ho,r⟩
end Fm
set_option maxHeartbeats 1000000
namespace Fm
open PySem L2
end Fm
set_option maxHeartbeats 1000000
namespace Fm
open PySem PySem.Spec PyProof.Rows L2
def Afz(w:World):NestedKey→Int:=fun k=>k.hash w
end Fm
set_option maxHeartbeats 1000000
namespace Fm
open PySem L2
end Fm
set_option maxHeartbeats 1000000
namespace Fm
open PySem PySem.Spec PyProof.Rows L2
section
variable {G:Gw} {E:L2.St→XK} {X:Cx}
inductive RLk:Hp→(Hp→Prop)→Prop where
 |now {H:Hp} {Q:Hp→Prop} (q:Q H):RLk H Q
 |lock {H:Hp} {Q:Hp→Prop} {d:Addr} {u:HO} (hd:H d=some u) (mu:Mut (some u)) (q:∀od,RLk (upd H d (.frz od u)) Q):RLk H Q
end
end Fm
set_option maxHeartbeats 4000000
namespace Fm
open PySem PySem.Spec PyProof.Rows L2 L2.DX PySem.W PySem.Calls
end Fm
set_option maxHeartbeats 1000000
namespace Fm
open PySem PySem.Spec PyProof.Rows L2 L2.DX PySem.Calls
end Fm
set_option maxHeartbeats 2000000
namespace Fm
open PySem L2
section
variable {G:Gw} {E:L2.St→XK} {X:Cx}
def AdE(neg:Bool):W→W→Sto→R W:=fun x y s=>match x,y with
 |.str a,.str z=>(match a.cps.toList with
  | [c]=>.ok (.bl (if neg then !decide (c∈z.cps.toList) else decide (c∈z.cps.toList))) s
  |_=>.bad)
 |_,_=>.bad
def Agn(neg:Bool):R2:=fun x y H Q=>∃(c:Nat) (z:Str),x=.str ⟨#[c]⟩∧y=.str z∧Q (.bl (if neg then !decide (c∈z.cps.toList) else decide (c∈z.cps.toList))) H
theorem Acu{neg:Bool}:Bx G (Agn neg) (AdE neg):=by
 intro Ee x y w u H p s Q r1 r2 m h
 unfold AdE at h
 split at h
 ·rename_i a z
  cases r1;cases r2
  split at h
  ·rename_i c hc
   have e:a=⟨#[c]⟩:=by
    cases a with
    |mk cps =>
     have:cps=#[c]:=Array.toList_inj.mp (by simpa using hc)
     rw[this]
   subst e
   exact⟨c,z,rfl,rfl,h.now m (.bl _)⟩
  ·exact h.elim
 ·exact h.elim
end
end Fm
namespace Fm
open PySem L2
set_option autoImplicit false
open _root_.NdefX (NF NScope)
section
variable {G:Gw} {P:Program} {w:World} {mg:Str→Option Value} {base:Heap} {C:String} {f cc cd:Addr} {qual:Str} {st:Stmt}
theorem Af2{k:Nat}{x y fx fy:String}{p0 p1 p2 p3 p4 p5 p5' p6 p7 p8 p9 q6 q7 q8 q9:Pos}{ar:Arg}(R:ErrRaw P G.K (G.at_ C) f cc cd qual st)(hmg:mg (Str.ofString C)=some (.ref (G.at_ C)))(hm:mg "super" = none)(hno:PySem.W.findIn G.K (.ref (G.at_ C)) (Str.ofString fx)=some none)(hno':PySem.W.findIn G.K (.ref (G.at_ C)) (Str.ofString fy)=some none)
  (ks:(defScope st).names.lookup ("super" : Str)=some .globalImplicit) (kc:(defScope st).names.lookup ("__class__" : Str)=some .free) (S:NScope ["self", Str.ofString x,Str.ofString y, "__class__"] ["self", Str.ofString x,Str.ofString y] ["__class__"] (defScope st))
  (hp:((defArgs st).posonlyargs++(defArgs st).args).head? = some ar) (har:ar.arg = "self") (hbd:defBody st=Yl "self" (Str.ofString x) (Str.ofString y) (Str.ofString fx) (Str.ofString fy) p0 p1 p2 p3 p4 p5 p5' p6 p7 p8 p9 q6 q7 q8 q9)
  (hev:∀env:Env,∃pl:Sem Bool,eval (.Call (.Attribute (.Call (.Name "super" p0) [] [] p1) "__init__" p2) [.Name (Str.ofString x) p5,.Name (Str.ofString y) p5'] [] p3) env=(do
   let ov ←attributeBase (.Call (.Name "super" p0) [] [] p1) "__init__" env (eval (.Call (.Name "super" p0) [] [] p1) env)
   standAt p2.atName
   let (f,first) ←holding [ov] (getMethod ov "__init__" pl)
   callWith p3 f first (backTo p3 (starEach [.Name (Str.ofString x) p5,.Name (Str.ofString y) p5'] env)) []))
  (hb:∀(doc pm ctv:Value) (us:List Value),us.length=3→bindArgs (PySem.W.fnX "__init__" qual (defArgs st) (defBody st) (defScope st) [(("__class__" : Str),cc)] .none .none doc pm none (.ref cd) ctv) ⟨us,[]⟩=pure (([("self" : Str),Str.ofString x,Str.ofString y]:List Str).zip us))
  (d3:(Str.ofString x==("__debug__" : Str))=false:=by decide) (d4:(Str.ofString x==("__classdict__" : Str))=false:=by decide) (d5:(Str.ofString y==("__debug__" : Str))=false:=by decide) (d6:(Str.ofString y==("__classdict__" : Str))=false:=by decide):ErrK G P w mg base (k+1) C [fx,fy]:=by
 have FS:SupF P G.K (ErrRaw.nf qual st cc cd) f cc (G.at_ C):=⟨R.lk,rfl,R.code,R.cell,R.file,R.top,R.sup,R.nop,R.veC,R.self,ks,kc⟩
 obtain⟨⟨o,fd⟩,h1,h2,h3⟩:=Agx (w:=w) (mg:=mg) (base:=base) (CX:=CX0) (k:=k) FS R.oex hm S hp har hbd hno hno' hev (by decide) (by decide) d3 d4 d5 d6
 obtain⟨oc,od,doc,pm,ctv,osl,hl⟩:=R.lk
 have e:=h1.symm.trans hl
 simp only at e h2
 cases e
 cases h2
 exact⟨hmg,R.oex,f,_,_,h3,R.init,R.ty,.all (hb doc pm ctv)⟩
end
theorem MtMo.bad{G:Gw}{P:Program}{w:World}{mg:Str→Option Value}{base:Heap}{CX:CXT}{k:Nat}{C:String}{x:Str}{f:Addr}{fd:FuncData}{ps:List Str}(h1:Cls G.K (G.at_ C))(h2:Meth G.K (G.at_ C) x f)(h4:Binds G.K fd ps []):MtMo G P w mg base CX k C x AdH :=
 have no:∀vs H Q E,¬spM G AdH vs H Q E:=fun vs H Q E h=>by
  obtain⟨p,s',ws,m,r,q⟩:=h
  exact q
 ⟨h1,f,fd,ps,⟨fun vs H Q E h=>(no vs H Q E h).elim,fun A outer s H args us vs Q E _ _ _ _ h=>(no vs H Q E h).elim⟩,h2,h4⟩
end Fm
set_option maxHeartbeats 1000000
namespace Fm
open PySem L2
end Fm
namespace Fm
open PySem PySem.Spec PyProof.Rows L2
end Fm
namespace Fm
open PySem L2
end Fm
namespace Fm
open PySem L2
mutual
def W.nd:W→Bool
 |.tup xs=>nds xs
 |.lst xs=>nds xs
 |.dct _=>false
 |.dn kvs=>ndn kvs
 |.db _=>false
 |.obj _ fs=>ndf fs
 |.exc _ _ fs=>ndf fs
 |.err _ fs=>ndf fs
 |_=>true
def nds:List W→Bool
 | []=>true
 |w::ws=>w.nd&&nds ws
def ndn:List (NestedKey×W)→Bool
 | []=>true
 |(_,w)::ws=>w.nd&&ndn ws
def ndf:List (String×W)→Bool
 | []=>true
 |(_,w)::ws=>w.nd&&ndf ws
end
def ndk:List (Key×W)→Bool
 | []=>true
 |(_,w)::ws=>w.nd&&ndk ws
def SO.nd:SO→Bool
 |.lst ws=>nds ws
 |.ins _ fs=>ndf fs
 |.dct kvs=>ndk kvs
 |.dn kvs=>ndn kvs
 |.ldk _=>false
 |.db _=>false
 |.dead=>true
structure Thaw(G:Gw)(a:Addr)(p:Pl)(H:Hp)(p':Pl)(H':Hp):Prop where
 l:p'.l=p.l
 fz:∀b,b∈p.fz→b≠a→b∈p'.fz
 at_:∀b,b≠a→H' b=H b
 loc:∃od vs,H a=some (.frz od (.dK vs))
 tups:∀b vs,SqT G.K H b vs→SqT G.K H' b vs
 scrs:∀b vs,SqF G.K H b vs→SqF G.K H' b vs
theorem Thaw.ne{G:Gw}{a:Addr}{p p':Pl}{H H':Hp}(T:Thaw G a p H p' H'){b:Addr}{u:HO}(h:H b=some u)(hn:∀od vs,u≠.frz od (.dK vs)):b≠a:=by
 rintro rfl
 obtain⟨od,vs,e⟩:=T.loc
 rw[h] at e
 cases e
 exact hn _ _ rfl
end Fm
namespace L2
open PySem PySem.Spec PyProof.Rows
mutual
inductive RdX(h:Heap):Value→PyData→Prop
 |none:RdX h .none .none
 |bool (b):RdX h (.bool b) (.bool b)
 |int (i t):RdX h (.int i t) (.int i)
 |str (x t):RdX h (.str x t) (.str x)
 |list {a:Addr} {o:Obj} {vs:Array Value} {n:Nat} {xs:List PyData}:h.get? a=some o→o.cls=.type "list" → o.data=.seq vs n→RdXs h vs.toList xs→RdX h (.ref a) (.list xs)
 |tuple {a:Addr} {o:Obj} {vs:Array Value} {n:Nat} {xs:List PyData}:h.get? a=some o→o.cls=.type "tuple" → o.data=.seq vs n→RdXs h vs.toList xs→RdX h (.ref a) (.tuple xs)
 |dict {a:Addr} {o:Obj} {es:Array DictEntry} {n:Nat} {kvs:List (PyData×PyData)}:(a==sysModules)=false→h.get? a=some o→o.cls=.type "dict" → o.data=.dict es n→RdXs h (es.toList.map (·.key)) (kvs.map (·.1)) →
   RdXs h (es.toList.map (·.val)) (kvs.map (·.2))→RdX h (.ref a) (.dict kvs)
inductive RdXs(h:Heap):List Value→List PyData→Prop
 |nil:RdXs h [] []
 |cons {v:Value} {vs:List Value} {d:PyData} {ds:List PyData}:RdX h v d→RdXs h vs ds→RdXs h (v::vs) (d::ds)
end
mutual
theorem RdX.reads{h:Heap}:∀{v:Value} {d:PyData},RdX h v d→∃as,Reads h v d as
 |_,_,.none=>⟨_,.none⟩
 |_,_,.bool b=>⟨_,.bool b⟩
 |_,_,.int i t=>⟨_,.int i t⟩
 |_,_,.str x t=>⟨_,.str x t⟩
 |_,_,.list h1 h2 h3 h4=>by
  obtain⟨as,r⟩:=RdXs.reads h4
  exact⟨_,.list h1 h2 h3 r⟩
 |_,_,.tuple h1 h2 h3 h4=>by
  obtain⟨as,r⟩:=RdXs.reads h4
  exact⟨_,.tuple h1 h2 h3 r⟩
 |_,_,.dict _ h1 h2 h3 h4 h5=>by
  obtain⟨as,r⟩:=RdXs.reads h4
  obtain⟨bs,q⟩:=RdXs.reads h5
  exact⟨_,.dict h1 h2 h3 r q⟩
theorem RdXs.reads{h:Heap}:∀{vs:List Value} {ds:List PyData},RdXs h vs ds→∃as,ReadsAll h vs ds as
 |_,_,.nil=>⟨_,.nil⟩
 |_,_,.cons h1 h2=>by
  obtain⟨as,r⟩:=RdX.reads h1
  obtain⟨bs,q⟩:=RdXs.reads h2
  exact⟨_,.cons r q⟩
end
section
variable {prog:PySem.Program} {w:World} {h₀:Heap}
mutual
theorem AbB:∀{v:Value} {d:PyData},RdX h₀ v d→d.showable=true→d.shown.length≤sizeLine→∃bs,ReadAtMost h₀ d.depth bs∧ReprK prog w bs h₀ d.depth v d.shown
 |_,_,.none,_,_=>⟨[],(fun _ h=>nomatch h),by simp only[PyData.shown];exact .of_is ReprIs.none _ _ _⟩
 |_,_,.bool b,_,_=>⟨[],(fun _ h=>nomatch h),by simp only[PyData.shown];exact .of_is (ReprIs.bool b) _ _ _⟩
 |_,_,.int i t,hs,_=>⟨[],(fun _ h=>nomatch h),by simp only[PyData.shown];exact .of_is (ReprIs.int t (by simpa [PyData.showable] using hs)) _ _ _⟩
 |_,_,.str x t,_,hz=>⟨[],(fun _ h=>nomatch h),by simp only[PyData.shown];exact .of_is (ReprIs.str x t (by simpa only[PyData.shown] using hz)) _ _ _⟩
 |_,_,.list (a:=a) (vs:=vs) (xs:=xs) h1 h2 h3 h4,hs,hz=>by
  have hz':(listText (PyData.shownAll xs)).length≤sizeLine:=by simpa only[PyData.shown] using hz
  obtain⟨bs,hb,hk⟩:=Bu h4 (by simpa [PyData.showable] using hs) (fun t ht=>Nat.le_trans (listText_mem_le ht) hz')
  obtain⟨as,r4⟩:=h4.reads
  have r:Reads h₀ (.ref a) (.list xs) _:=.list h1 h2 h3 r4
  have hna:a∉bs:=not_mem_of_deeper r (by simp only[PyData.depth];omega) hb
  refine⟨a::bs,ReadAtMost.cons r (by simp only[PyData.depth];omega) hb,?_⟩
  simp only[PyData.depth,PyData.shown]
  obtain⟨l⟩:=vs
  cases l with
  |nil =>
   have h4':RdXs h₀ [] xs:=h4
   cases h4'
   simp only[PyData.shownAll,listText_nil]
   exact ReprK.listEmpty h1 h2 h3
  |cons x l=>exact ReprK.list h1 h2 h3 hna (by simpa using hk.length_eq) (fun i y e=>hk.item i y (by simpa using e))
 |_,_,.tuple (a:=a) (xs:=xs) h1 h2 h3 h4,hs,hz=>by
  have hz':(tupleText (PyData.shownAll xs)).length≤sizeLine:=by simpa only[PyData.shown] using hz
  obtain⟨bs,hb,hk⟩:=Bu h4 (by simpa [PyData.showable] using hs) (fun t ht=>Nat.le_trans (tupleText_mem_le ht) hz')
  obtain⟨as,r4⟩:=h4.reads
  have r:Reads h₀ (.ref a) (.tuple xs) _:=.tuple h1 h2 h3 r4
  have hna:a∉bs:=not_mem_of_deeper r (by simp only[PyData.depth];omega) hb
  refine⟨a::bs,ReadAtMost.cons r (by simp only[PyData.depth];omega) hb,?_⟩
  simp only[PyData.depth,PyData.shown]
  exact ReprK.tuple h1 h2 h3 hna hk
 |_,_,.dict (a:=a) (es:=es) (kvs:=kvs) hsys h1 h2 h3 h4 h5,hs,hz=>by
  have hz':(dictText (PyData.shownKv kvs)).length≤sizeLine:=by simpa only[PyData.shown] using hz
  obtain⟨hs1,hs2⟩:=PyData.showableKv_split kvs (by simpa [PyData.showable] using hs)
  obtain⟨b1,hb1,k1⟩:=Bu h4 hs1 (fun t ht=>let ⟨p,hp,hl⟩:=PyData.shownKv_key_le kvs t ht;Nat.le_trans hl (Nat.le_trans (dictText_mem_le hp) hz'))
  obtain⟨b2,hb2,k2⟩:=Bu h5 hs2 (fun t ht=>let ⟨p,hp,hl⟩:=PyData.shownKv_val_le kvs t ht;Nat.le_trans hl (Nat.le_trans (dictText_mem_le hp) hz'))
  obtain⟨as,r4⟩:=h4.reads
  obtain⟨as',r5⟩:=h5.reads
  have r:Reads h₀ (.ref a) (.dict kvs) _:=.dict h1 h2 h3 r4 r5
  have hb:ReadAtMost h₀ (PyData.depthKv kvs) (b1++b2):=(hb1.mono (PyData.depthAll_keys_le kvs)).append (hb2.mono (PyData.depthAll_vals_le kvs))
  have hna:a∉b1++b2:=not_mem_of_deeper r (by simp only[PyData.depth];omega) hb
  refine⟨a::(b1++b2),ReadAtMost.cons r (by simp only[PyData.depth];omega) hb,?_⟩
  simp only[PyData.depth,PyData.shown,PyData.shownKv_eq]
  exact ReprK.dict h1 h2 h3 hsys hna (ReprEntriesK.of_two es.toList _ _
   (k1.more_le (fun b hb=>List.mem_append_left _ hb) (PyData.depthAll_keys_le kvs)) (k2.more_le (fun b hb=>List.mem_append_right _ hb) (PyData.depthAll_vals_le kvs)))
theorem Bu:∀{vs:List Value} {ds:List PyData},RdXs h₀ vs ds→PyData.showableAll ds=true→(∀t∈PyData.shownAll ds,t.length≤sizeLine) →
  ∃bs,ReadAtMost h₀ (PyData.depthAll ds) bs∧ReprAllK prog w bs h₀ (PyData.depthAll ds) vs (PyData.shownAll ds)
 |_,_,.nil,_,_=>⟨[],(fun _ h=>nomatch h),by simp only[PyData.shownAll];exact .nil⟩
 |_,_,.cons (d:=d) (ds:=ds) r rs,hs,hz=>by
  have hs':d.showable=true∧PyData.showableAll ds=true:=by simpa [PyData.showableAll] using hs
  obtain⟨b1,hb1,k1⟩:=AbB r hs'.1 (hz _ (by simp only[PyData.shownAll];exact List.mem_cons_self ..))
  obtain⟨b2,hb2,k2⟩:=Bu rs hs'.2 (fun t ht=>hz t (by simp only[PyData.shownAll];exact List.mem_cons_of_mem _ ht))
  refine⟨b1++b2,?_,?_⟩
  ·intro b hm
   simp only[PyData.depthAll]
   rcases List.mem_append.mp hm with hm|hm
   ·obtain⟨d',as',r',hd'⟩:=hb1 b hm
    exact⟨d',as',r',Nat.le_trans hd' (Nat.le_max_left _ _)⟩
   ·obtain⟨d',as',r',hd'⟩:=hb2 b hm
    exact⟨d',as',r',Nat.le_trans hd' (Nat.le_max_right _ _)⟩
  ·simp only[PyData.depthAll,PyData.shownAll]
   exact .cons ((k1.more fun b hb=>List.mem_append_left _ hb).level_le (Nat.le_max_left _ _)) (k2.more_le (fun b hb=>List.mem_append_right _ hb) (Nat.le_max_right _ _))
end
theorem Yw{a:Addr}{d:PyData}(r:RdX h₀ (.ref a) d)(hs:d.showable=true)(hsz:d.shown.length≤sizeLine):∃T idr,ShowsBy prog w h₀ a d T idr:=by
 cases r with
 |list h1 h2 h3 h4 =>
  rename_i o vs n xs
  have hz':(listText (PyData.shownAll xs)).length≤sizeLine:=by simpa only[PyData.shown] using hsz
  obtain⟨bs,hb,hk⟩:=Bu (prog:=prog) (w:=w) h4 (by simpa [PyData.showable] using hs) (fun t ht=>Nat.le_trans (listText_mem_le ht) hz')
  obtain⟨as,r4⟩:=h4.reads
  have hna:a∉bs:=not_mem_of_deeper (.list h1 h2 h3 r4) (by simp only[PyData.depth];omega) hb
  refine⟨"list", "list.__repr__", F.slot_list_repr.toG,F.slot_list_str,F.slot_list_format,fun s hk0=>⟨o,hk0 _ _ h1,h2⟩,fun A E s Q hg hu hk0 hQ=>?_⟩
  simp only[PyData.depth] at hu
  simp only[PyData.shown] at hQ
  obtain⟨l⟩:=vs
  cases l with
  |nil =>
   have h4':RdXs h₀ [] xs:=h4
   cases h4'
   simp only[PyData.shownAll,listText_nil] at hQ
   exact call_list_repr_empty ⟨o,hk0 _ _ h1,h2⟩ (hk0 _ _ h1) h3 (hQ s.heap _ _ fun _ _ e=>e)
  |cons x l =>
   exact call_list_reprK h1 h2 h3 hna (by simpa using hk.length_eq) (fun i y e=>hk.item i y (by simpa using e)) hg (fun b _=>Clear.nil b) hu hk0 hQ hz'
 |tuple h1 h2 h3 h4 =>
  rename_i o vs n xs
  have hz':(tupleText (PyData.shownAll xs)).length≤sizeLine:=by simpa only[PyData.shown] using hsz
  obtain⟨bs,hb,hk⟩:=Bu (prog:=prog) (w:=w) h4 (by simpa [PyData.showable] using hs) (fun t ht=>Nat.le_trans (tupleText_mem_le ht) hz')
  obtain⟨as,r4⟩:=h4.reads
  have hna:a∉bs:=not_mem_of_deeper (.tuple h1 h2 h3 r4) (by simp only[PyData.depth];omega) hb
  refine⟨"tuple", "tuple.__repr__", F.slot_tuple_repr,F.slot_tuple_str,F.slot_tuple_format,fun s hk0=>⟨o,hk0 _ _ h1,h2⟩,fun A E s Q hg hu hk0 hQ=>?_⟩
  simp only[PyData.depth] at hu
  simp only[PyData.shown] at hQ
  exact call_tuple_reprK h1 h2 h3 hna hk hg (fun b _=>Clear.nil b) hu hk0 hQ hz'
 |dict hsys h1 h2 h3 h4 h5 =>
  rename_i o es n kvs
  have hz':(dictText (PyData.shownKv kvs)).length≤sizeLine:=by simpa only[PyData.shown] using hsz
  obtain⟨hs1,hs2⟩:=PyData.showableKv_split kvs (by simpa [PyData.showable] using hs)
  obtain⟨b1,hb1,k1⟩:=Bu (prog:=prog) (w:=w) h4 hs1 (fun t ht=>let ⟨p,hp,hl⟩:=PyData.shownKv_key_le kvs t ht;Nat.le_trans hl (Nat.le_trans (dictText_mem_le hp) hz'))
  obtain⟨b2,hb2,k2⟩:=Bu (prog:=prog) (w:=w) h5 hs2 (fun t ht=>let ⟨p,hp,hl⟩:=PyData.shownKv_val_le kvs t ht;Nat.le_trans hl (Nat.le_trans (dictText_mem_le hp) hz'))
  have hb:ReadAtMost h₀ (PyData.depthKv kvs) (b1++b2):=(hb1.mono (PyData.depthAll_keys_le kvs)).append (hb2.mono (PyData.depthAll_vals_le kvs))
  obtain⟨as,r4⟩:=h4.reads
  obtain⟨as',r5⟩:=h5.reads
  have hna:a∉b1++b2:=not_mem_of_deeper (.dict h1 h2 h3 r4 r5) (by simp only[PyData.depth];omega) hb
  refine⟨"dict", "dict.__repr__", F.slot_dict_repr,F.slot_dict_str,F.slot_dict_format,fun s hk0=>⟨o,hk0 _ _ h1,h2⟩,fun A E s Q hg hu hk0 hQ=>?_⟩
  simp only[PyData.depth] at hu
  simp only[PyData.shown,PyData.shownKv_eq] at hQ
  exact call_dict_reprK h1 h2 h3 hsys hna (ReprEntriesK.of_two es.toList _ _
   (k1.more_le (fun b hb=>List.mem_append_left _ hb) (PyData.depthAll_keys_le kvs)) (k2.more_le (fun b hb=>List.mem_append_right _ hb) (PyData.depthAll_vals_le kvs))) hg (fun b _=>Clear.nil b) hu hk0 hQ (by rw[←PyData.shownKv_eq];exact hz')
theorem V2{A:Around}{E:Value→Shared→Prop}{s:Shared}{Q:Value→Shared→Prop}{a:Addr}{d:PyData}(r:RdX h₀ (.ref a) d)(hs:d.showable=true)(hg:A.guards=some [])(hu:A.units+(d.depth+1)<cLine)(hk0:∀b o,h₀.get? b=some o→s.heap.get? b=some o)
  (hQ:∀h' u tk,(∀b o,s.heap.get? b=some o→h'.get? b=some o)→Q (.str d.shown u) { s with heap:=h',toks:=tk }) (hsz:d.shown.length≤sizeLine):wpAny (model prog w) A (call (.builtin "repr") [.ref a]) Q E s:=by
 obtain⟨T,idr,S⟩:=Yw (prog:=prog) (w:=w) r hs hsz
 exact call_repr_slot (by omega) (S.typeIs s hk0) S.slotRepr (S.call A.in1 E s _ hg (by show A.units+1+d.depth<cLine;omega) hk0 fun h' u tk hk=>⟨_,_,rfl,hQ h' u tk hk⟩)
end
def kD:Key→PyData
 |.inl i=>.int i
 |.inr x=>.str x
mutual
inductive DpX(K:PySem.W.Frag)(H:Hp):V→PyData→Prop
 |non:DpX K H .non .none
 |bl (b:Bool):DpX K H (.bl b) (.bool b)
 |int (i:Int):DpX K H (.int i) (.int i)
 |str (x:Str):DpX K H (.str x) (.str x)
 |lst {a:Addr} {xs:List V} {ds:List PyData}:SqL K H a xs→DpXs K H xs ds→DpX K H (.ref a) (.list ds)
 |tup {a:Addr} {xs:List V} {ds:List PyData}:SqT K H a xs→DpXs K H xs ds→DpX K H (.ref a) (.tuple ds)
 |dct {a:Addr} {kvs:List (Key×V)} {ds:List PyData}:Rd H a (.dK kvs)→DpXs K H (kvs.map (·.2)) ds→DpX K H (.ref a) (.dict ((kvs.map fun p=>kD p.1).zip ds))
inductive DpXs(K:PySem.W.Frag)(H:Hp):List V→List PyData→Prop
 |nil:DpXs K H [] []
 |cons {v:V} {vs:List V} {d:PyData} {ds:List PyData}:DpX K H v d→DpXs K H vs ds→DpXs K H (v::vs) (d::ds)
end
theorem DpXs.len{K:PySem.W.Frag}{H:Hp}:∀{vs:List V} {ds:List PyData},DpXs K H vs ds→vs.length=ds.length
 |_,_,.nil=>rfl
 |_,_,.cons _ t=>by simp[DpXs.len t]
theorem Zv{α β:Type}:∀{xs:List α} {ys:List β},xs.length=ys.length→(xs.zip ys).map (·.1)=xs
 | [],[],_=>rfl
 | [],_::_,h=>by cases h
 |_::_,[],h=>by cases h
 |x::xs,y::ys,h=>by simp only[List.zip_cons_cons,List.map_cons,Zv (Nat.succ.inj h)]
theorem Zu{α β:Type}:∀{xs:List α} {ys:List β},xs.length=ys.length→(xs.zip ys).map (·.2)=ys
 | [],[],_=>rfl
 | [],_::_,h=>by cases h
 |_::_,[],h=>by cases h
 |x::xs,y::ys,h=>by simp only[List.zip_cons_cons,List.map_cons,Zu (Nat.succ.inj h)]
theorem keyD{h:Heap}{k:Key}{v:Value}(e:keyIs k v=true):RdX h v (kD k):=by
 rcases keyIs_shape e with⟨i,t,rfl,rfl⟩|⟨x,t,rfl,rfl⟩
 ·exact .int i t
 ·exact .str x t
theorem Ae1{P:PySem.Program}{w:World}{h:Heap}:∀{es:List DictEntry} {vs:List (Key×Value)} {kvs:List (Key×V)},Pairs (mixKind P w) es vs→KV kvs vs→RdXs h (es.map (·.key)) (kvs.map fun p=>kD p.1)
 | [],_,_,hp,r=>by
  cases hp
  cases r
  exact .nil
 |e::es,_,_,hp,r=>by
  cases hp with
  |cons h1 h2 h3 =>
   cases r with
   |cons q t =>
    refine .cons ?_ (Ae1 h3 t)
    have e1:=q.1
    show RdX h e.key (kD _)
    rw[e1]
    exact keyD h1
theorem AdM{P:PySem.Program}{w:World}:∀{es:List DictEntry} {vs:List (Key×Value)} {kvs:List (Key×V)},Pairs (mixKind P w) es vs→KV kvs vs→Vals (kvs.map (·.2)) (es.map (·.val))
 | [],_,_,hp,r=>by
  cases hp
  cases r
  exact .nil
 |e::es,_,_,hp,r=>by
  cases hp with
  |cons h1 h2 h3 =>
   cases r with
   |cons q t =>
    refine .cons ?_ (AdM h3 t)
    show RelV _ e.val
    rw[h2]
    exact q.2
section
variable {X:Cx} {pins:List (Addr×Obj)} {σ:St} {H:Hp} {s:Shared}
mutual
theorem DpX.rdX(I:Inv X pins σ H s):∀{v:V} {d:PyData},DpX X.K H v d→∀u,RelV v u→RdX s.heap u d
 |_,_,.non,_,r=>by cases r;exact .none
 |_,_,.bl b,_,r=>by cases r;exact .bool b
 |_,_,.int i,_,r=>by
  obtain⟨t,rfl⟩:=r
  exact .int i t
 |_,_,.str x,_,r=>by
  obtain⟨t,rfl⟩:=r
  exact .str x t
 |_,_,.lst hs ha,_,r=>by
  cases r
  obtain⟨its,rv,⟨o,n,ho,hc,_,hd⟩,_⟩:=I.list hs
  exact .list ho hc hd (DpXs.rdX I ha its rv)
 |_,_,.tup hs ha,_,r=>by
  cases r
  obtain⟨its,rv,⟨o,ho,hc,n,hd⟩,_⟩:=I.tuple hs
  exact .tuple ho hc hd (DpXs.rdX I ha its rv)
 |_,_,.dct (kvs:=kvs) (ds:=ds) hs ha,_,r=>by
  cases r
  obtain⟨z,hsys,vs,rv,o,es,ep,ho,hx,hd,hk,hp,nd⟩:=(hs.ok I.hok)
  have e:(kvs.map fun p=>kD p.1).length=ds.length:=by rw[←ha.len,List.length_map,List.length_map]
  refine .dict hsys ho hx.1 hd ?_ ?_
  ·rw[Zv e]
   exact Ae1 hp rv
  ·rw[Zu e]
   exact DpXs.rdX I ha _ (AdM hp rv)
theorem DpXs.rdX(I:Inv X pins σ H s):∀{vs:List V} {ds:List PyData},DpXs X.K H vs ds→∀us,Vals vs us→RdXs s.heap us ds
 |_,_,.nil,_,r=>by cases r;exact .nil
 |_,_,.cons h t,_,r=>by
  cases r with
  |cons r1 r2=>exact .cons (DpX.rdX I h _ r1) (DpXs.rdX I t _ r2)
end
end
section
variable {X:Cx}
def Acp(K:PySem.W.Frag):List V→Hp→VK→Prop:=fun xs H Q=>∃x d,xs=[x]∧DpX K H x d∧d.showable=true∧d.depth<60∧d.shown.length≤sizeLine∧Q (.str d.shown) H
theorem Hm(gd:X.A.guards=some [])(hu:X.A.units+64<cLine):CallR X (.builtin "repr") (Acp X.K):=by
 intro pins s σ H xs us Q I r h
 obtain⟨x,d,rfl,hd,hs,hdp,hz,q⟩:=h
 obtain⟨u,rfl,ru⟩:=vals1 r
 have rr:=DpX.rdX I hd u ru
 have key:∀a,u=.ref a→wpAny (model X.prog X.w) X.A (call (.builtin "repr") [u]) (EP X pins σ Q) X.xe s:=by
  rintro a rfl
  exact V2 rr hs gd (by omega) (fun _ _ e=>e) (fun h' t tk hk=>⟨.str d.shown,H,I.kept hk,⟨t,rfl⟩,q⟩) hz
 cases rr with
 |none=>exact PySem.P.repr_of_none ⟨.str _,H,I.tok _,⟨_,rfl⟩,q⟩
 |bool b=>exact PySem.P.repr_of_bool ⟨.str _,H,I.tok _,⟨_,rfl⟩,q⟩
 |int i t=>exact PySem.P.repr_of_int (by simpa [PyData.showable] using hs) ⟨.str _,H,I.tok _,⟨_,rfl⟩,q⟩
 |str y t=>exact PySem.P.repr_of_str ⟨.str _,H,I.tok _,⟨_,rfl⟩,q⟩ hz
 |list=>exact key _ rfl
 |tuple=>exact key _ rfl
 |dict=>exact key _ rfl
end
end L2
namespace L2
open PySem PySem.Spec PyProof.Rows
def Afg(K:PySem.W.Frag)(H:Hp)(E:V→V→Prop)(x y:V):Prop :=
 (∃a b xs ys,x=.ref a∧y=.ref b∧SqL K H a xs∧SqL K H b ys∧Paired E xs ys) ∨
  (∃a b ks ls,x=.ref a∧y=.ref b∧Rd H a (.dK ks)∧Rd H b (.dK ls)∧ks.length=ls.length∧∀p∈ks,∃u,valV ls p.1=some u∧E p.2 u) ∨
  ∃a b xs ys,x=.ref a∧y=.ref b∧SqT K H a xs∧SqT K H b ys∧Paired E xs ys
def EqX(K:PySem.W.Frag)(H:Hp):Nat→V→V→Prop
 |0=>fun _ _=>False
 |n+1=>fun x y=>(x=y∧flatB x=true)∨(∃d e,Dp K H x d∧Dp K H y e∧SeqAt.shaped d=true∧SeqAt.shaped e=true∧PyData.eqv d e=true)∨Afg K H (EqX K H n) x y
section
variable {X:Cx} {pins:List (Addr×Obj)} {σ:St} {H:Hp} {s:Shared}
theorem Yn(I:Inv X pins σ H s){A:Around}{F:V→V→Prop}(hu:A.units<cLine)(ih:∀x y v u,F x y→RelV x v→RelV y u→SeqAt.EqP X.prog X.w A.in1 s v u true){x y:V}{v u:Value}(h:Afg X.K H F x y)(rx:RelV x v)(ry:RelV y u)
  (E Q:Value→Shared→Prop) (q:Q (.bool true) s):wpAny (model X.prog X.w) A (richCompare .Eq v u) Q E s:=by
 rcases h with⟨a,b,xs,ys,rfl,rfl,ha,hb,hp⟩|⟨a,b,ks,ls,rfl,rfl,ha,hb,hl,hp⟩|⟨a,b,xs,ys,rfl,rfl,ha,hb,hp⟩
 ·cases (show v=Value.ref a from rx)
  cases (show u=Value.ref b from ry)
  obtain⟨us,r1,p1,_⟩:=I.list ha
  obtain⟨ws,r2,p2,_⟩:=I.list hb
  have hsz:us.toArray.size=ws.toArray.size:=by
   rw[List.size_toArray,List.size_toArray,←r1.length,←r2.length]
   exact Paired.length hp
  refine SeqAt.rcP_lists (e:=fun _=>true) p1.isList p2.isList hsz hu (fun j h1 h2=>?_) E Q ?_
  ·have k:=items_run ih hp r1 r2 j (by simpa using h1) (by simpa using h2)
   simpa using k
  ·rw[show((List.range us.toArray.size).all fun _=>true)=true from List.all_eq_true.mpr fun _ _=>rfl]
   exact q
 ·cases (show v=Value.ref a from rx)
  cases (show u=Value.ref b from ry)
  obtain⟨_,ya,va,ra,da⟩:=(show ObjOk X.prog X.w H s.heap a (.dK ks) from ha.ok I.hok)
  obtain⟨_,yb,vb,rb,db⟩:=(show ObjOk X.prog X.w H s.heap b (.dK ls) from hb.ok I.hok)
  refine PySem.W.rcP_dicts (knd:=mixKind X.prog X.w) (r:=true) ya yb da db hu (fun _=>hits_run ih rb ra hp) E Q ?_
  have e:va.length=vb.length:=by rw[←ra.length,←rb.length];exact hl
  rw[show(va.length==vb.length&&true)=true from by rw[e];simp]
  exact q
 ·cases (show v=Value.ref a from rx)
  cases (show u=Value.ref b from ry)
  obtain⟨us,r1,p1,_⟩:=I.tuple ha
  obtain⟨ws,r2,p2,_⟩:=I.tuple hb
  have hsz:us.toArray.size=ws.toArray.size:=by
   rw[List.size_toArray,List.size_toArray,←r1.length,←r2.length]
   exact Paired.length hp
  refine SeqAt.rcIn_tuples (e:=fun _=>true) p1 p2 hu (fun j h1 h2=>?_) ?_
  ·have k:=items_run ih hp r1 r2 j (by simpa using h1) (by simpa using h2)
   have k':SeqAt.EqP X.prog X.w A.in1 s us.toArray[j] ws.toArray[j] true:=by simpa using k
   exact k'
  ·rw[hsz,show((List.range (min ws.toArray.size ws.toArray.size)).all fun _=>true)=true from List.all_eq_true.mpr fun _ _=>rfl]
   simpa using q
theorem AaS(I:Inv X pins σ H s):∀(n:Nat) (A:Around),A.units+n+64<cLine→∀(x y:V) (v u:Value),EqX X.K H n x y→RelV x v→RelV y u→SeqAt.EqP X.prog X.w A s v u true
 |0,_,_,_,_,_,_,h,_,_=>(show False from h).elim
 |n+1,A,hu,x,y,v,u,h,rx,ry=>by
  rcases h with⟨rfl,f⟩|⟨d,e,hd,he,sd,se,q⟩|h
  ·exact(eqAt_same rx ry f).eqP
  ·obtain⟨as,r1⟩:=Dp.reads I d x v hd rx
   obtain⟨bs,r2⟩:=Dp.reads I e y u he ry
   have k:=SeqAt.eqAt_reads d e A s v u as bs r1 r2 (SeqAt.canLay_of_shaped sd) (SeqAt.canLay_of_shaped se) (SeqAt.room_of_shaped sd (by omega))
   rw[q] at k
   exact k.eqP
  ·have step:=Yn I (A:=A) (by omega) (AaS I n A.in1 (by show A.units+1+n+64<cLine;omega)) h rx ry
   obtain⟨a,b,rfl,rfl⟩:∃a b,x=.ref a∧y=.ref b:=by
    rcases h with⟨a,b,_,_,e1,e2,_⟩|⟨a,b,_,_,e1,e2,_⟩|⟨a,b,_,_,e1,e2,_⟩
    ·exact⟨a,b,e1,e2⟩
    ·exact⟨a,b,e1,e2⟩
    ·exact⟨a,b,e1,e2⟩
   cases (show v=Value.ref a from rx)
   cases (show u=Value.ref b from ry)
   by_cases e:a=b
   ·subst e
    exact(SeqAt.EqAt.same _).eqP
   ·exact SeqAt.eqP_refs e step
end
section
variable {X:Cx}
def Afu(K:PySem.W.Frag):R2:=fun x y H Q=>∃n,n≤40∧Afg K H (EqX K H n) x y∧Q (.bl true) H
theorem Aer(hu:X.A.units+200<cLine):OpR X (compareOp .Eq) (Afu X.K):=by
 intro pins s σ H x y v u Q I rx ry h
 obtain⟨n,hn,h,q⟩:=h
 exact Yn I (A:=X.A) (by omega) (AaS I n X.A.in1 (by show X.A.units+1+n+64<cLine;omega)) h rx ry _ _ ⟨.bl true,H,I,rfl,q⟩
end
end L2
namespace Fm
open PySem L2
def lOf(w:W)(s:Sto):Option (List W):=match w with
 |.ref i=>(match s.get i with
  |some (.lst ws)=>some ws
  |_=>none)
 |.lst ws=>some ws
 |_=>none
def rdX(s:Sto):Nat→W→Option PyData
 |_,.non=>some .none
 |_,.bl b=>some (.bool b)
 |_,.int i=>some (.int i)
 |_,.str x=>some (.str x)
 |n+1,.ref i=>(match s.get i with
  |some (.lst ws)=>(ws.mapM (rdX s n)).map .list
  |some (.dct kvs)=>((kvs.map (·.2)).mapM (rdX s n)).map fun ds=>.dict ((kvs.map fun p=>kD p.1).zip ds)
  |_=>none)
 |n+1,.tup ws=>(ws.mapM (rdX s n)).map .tuple
 |n+1,.lst ws=>(ws.mapM (rdX s n)).map .list
 |n+1,.dct kvs=>((kvs.map (·.2)).mapM (rdX s n)).map fun ds=>.dict ((kvs.map fun p=>kD p.1).zip ds)
 |_,_=>none
section
variable {G:Gw} {E:St→XK} {X:Cx}
theorem Gx{p:Pl}{H:Hp}{f:W→Option PyData}(hf:∀w v d,RelW G p H w v→f w=some d→DpX G.K H v d):∀{ws:List W} {vs:List V} {ds:List PyData},RelWs G p H ws vs→ws.mapM f=some ds→DpXs G.K H vs ds
 |_,_,_,.nil,e=>by simp at e;subst e;exact .nil
 |w::ws,v::vs,ds,.cons h t,e=>by
  rw[List.mapM_cons] at e
  cases q:f w with
  |none=>rw[q] at e;simp at e
  |some d =>
   rw[q] at e
   cases q2:ws.mapM f with
   |none=>rw[q2] at e;simp at e
   |some ds' =>
    rw[q2] at e
    simp at e;subst e
    exact .cons (hf w v d h q) (Gx hf t q2)
theorem Qe{p:Pl}{H:Hp}:∀{ws:List (Key×W)} {vs:List (Key×V)},Em G p H ws vs→RelWs G p H (ws.map (·.2)) (vs.map (·.2))∧(ws.map fun q=>kD q.1)=vs.map fun q=>kD q.1
 |_,_,.nil=>⟨.nil,rfl⟩
 |(k1,w)::ws,(k2,v)::vs,.cons h t=>by
  obtain⟨h1,h2⟩:=h
  simp only at h1 h2
  subst h1
  obtain⟨a,b⟩:=Qe t
  exact⟨.cons h2 a,by simp only[List.map_cons,b]⟩
theorem Aga{p:Pl}{H:Hp}{f:W→Option PyData}(hf:∀w v d,RelW G p H w v→f w=some d→DpX G.K H v d){a:Addr}{ws:List (Key×W)}{vs:List (Key×V)}{d:PyData}(hr:Rd H a (.dK vs))(r:Em G p H ws vs)
  (e:((ws.map (·.2)).mapM f).map (fun ds=>PyData.dict ((ws.map fun p=>kD p.1).zip ds))=some d):DpX G.K H (.ref a) d:=by
 obtain⟨h1,h2⟩:=Qe r
 cases q:(ws.map (·.2)).mapM f with
 |none=>rw[q] at e;simp at e
 |some ds =>
  rw[q] at e;simp at e;subst e
  rw[show(ws.map fun p=>kD p.1)=vs.map fun p=>kD p.1 from h2]
  exact .dct hr (Gx hf h1 q)
theorem Aee{p:Pl}{H:Hp}{s:Sto}(m:Emb G p s H):∀(n:Nat) (w:W) (v:V) (d:PyData),RelW G p H w v→rdX s n w=some d→DpX G.K H v d:=by
 intro n
 induction n with
 |zero =>
  intro w v d r e
  cases r with
  |non=>simp[rdX] at e;subst e;exact .non
  |bl b=>simp[rdX] at e;subst e;exact .bl b
  |int i=>simp[rdX] at e;subst e;exact .int i
  |str x=>simp[rdX] at e;subst e;exact .str x
  |_=>simp[rdX] at e
 |succ n ih =>
  intro w v d r e
  cases r with
  |non=>simp[rdX] at e;subst e;exact .non
  |bl b=>simp[rdX] at e;subst e;exact .bl b
  |int i=>simp[rdX] at e;subst e;exact .int i
  |str x=>simp[rdX] at e;subst e;exact .str x
  | @ref i a ha =>
   simp only[rdX] at e
   split at e
   ·rename_i ws hs
    obtain⟨vs,h2,h3⟩:=m.of hs ha
    cases q:ws.mapM (rdX s n) with
    |none=>rw[q] at e;simp at e
    |some ds =>
     rw[q] at e;simp at e;subst e
     exact .lst (SqL.of h2) (Gx ih h3 q)
   ·rename_i kvs hs
    obtain⟨vs,h2,h3⟩:=m.of hs ha
    exact Aga ih (.inl h2) h3 e
   ·cases e
  | @tup a ws vs hq rw' =>
   simp only[rdX] at e
   cases q:ws.mapM (rdX s n) with
   |none=>rw[q] at e;simp at e
   |some ds =>
    rw[q] at e;simp at e;subst e
    exact .tup hq (Gx ih rw' q)
  | @lst a ws vs hf h2 h3 =>
   simp only[rdX] at e
   cases q:ws.mapM (rdX s n) with
   |none=>rw[q] at e;simp at e
   |some ds =>
    rw[q] at e;simp at e;subst e
    exact .lst (SqL.of h2) (Gx ih h3 q)
  | @dct a ws vs hf h2 h3 =>
   simp only[rdX] at e
   exact Aga ih (.inr h2) (Q6 h3) e
  |_=>simp[rdX] at e
def Ab6(d:PyData):Bool:=d.showable&&decide (d.depth<60)&&decide (d.shown.length≤sizeLine)
def Fw:W→Sto→R W:=fun w s=>match rdX s 64 w with
 |some d=>if Ab6 d=true then .ok (.str d.shown) s else .bad
 |none=>.bad
theorem Ly:O9 G (Acp G.K) (l1 Fw):=Ug (by
 intro E x w H p s Q r1 m h1
 unfold Fw at h1
 split at h1
 ·rename_i d hd
  split at h1
  ·rename_i ho
   simp only[Ab6,Bool.and_eq_true,decide_eq_true_eq] at ho
   exact⟨x,d,rfl,Aee m 64 w x d r1 hd,ho.1.1,ho.1.2,ho.2,h1.now m (.str _)⟩
  ·exact h1.elim
 ·exact h1.elim)
def AaU(s:Sto)(f:W→W→Bool)(w u:W):Bool :=
 (match lOf w s,lOf u s with
  |some ws,some us=>decide (ws.length=us.length)&&(ws.zip us).all fun p=>f p.1 p.2
  |_,_=>false) ||
 (match dOf w s,dOf u s with
  |some ks,some ls=>decide (ks.length=ls.length)&&ks.all fun p=>match AdA ls p.1 with
   |some v=>f p.2 v
   |none=>false
  |_,_=>false) ||
 (match w,u with
  |.tup ws,.tup us=>decide (ws.length=us.length)&&(ws.zip us).all fun p=>f p.1 p.2
  |_,_=>false)
def eqT(s:Sto):Nat→W→W→Bool
 |0=>fun _ _=>false
 |n+1=>fun w u=>decide (eqD w u s=some true)||AaU s (eqT s n) w u
def Abo:W→W→Sto→R W:=fun w u s=>match eqD w u s with
 |some b=>.ok (.bl b) s
 |none=>if AaU s (eqT s 40) w u=true then .ok (.bl true) s else .bad
theorem Ac1{p:Pl}{H:Hp}{s:Sto}{w:W}{v:V}{ws:List W}(m:Emb G p s H)(r:RelW G p H w v)(h:lOf w s=some ws):∃a vs,v=.ref a∧SqL G.K H a vs∧RelWs G p H ws vs:=by
 cases r with
 | @ref i a ha =>
  simp only[lOf] at h
  split at h
  ·rename_i us hs
   cases h
   obtain⟨vs,h1,h2⟩:=m.of hs ha
   exact⟨a,vs,rfl,SqL.of h1,h2⟩
  ·cases h
 | @lst a us vs hf h1 h2=>cases h;exact⟨a,vs,rfl,SqL.of h1,h2⟩
 |_=>cases h
theorem Ny{p:Pl}{H:Hp}{f:W→W→Bool}{F:V→V→Prop}(hf:∀w u x y,RelW G p H w x→RelW G p H u y→f w u=true→F x y):∀{ws us:List W} {xs ys:List V},RelWs G p H ws xs→RelWs G p H us ys→ws.length=us.length→((ws.zip us).all fun p=>f p.1 p.2)=true→Paired F xs ys
 |_,_,_,_,.nil,.nil,_,_=>.nil
 |_,_,_,_,.nil,.cons _ _,h,_=>by cases h
 |_,_,_,_,.cons _ _,.nil,h,_=>by cases h
 |_,_,_,_,.cons h1 t1,.cons h2 t2,h,q=>by
  simp only[List.zip_cons_cons,List.all_cons,Bool.and_eq_true] at q
  exact .cons (hf _ _ _ _ h1 h2 q.1) (Ny hf t1 t2 (Nat.succ.inj h) q.2)
theorem Ua{p:Pl}{H:Hp}:∀{ws:List (Key×W)} {vs:List (Key×V)},Em G p H ws vs→∀q∈vs,∃w,(q.1,w)∈ws∧RelW G p H w q.2
 |_,_,.nil,_,h=>by cases h
 |(k1,w)::ws,(k2,v)::vs,.cons h t,q,hq=>by
  obtain⟨h1,h2⟩:=h
  simp only at h1 h2
  subst h1
  rcases List.mem_cons.mp hq with rfl|hq
  ·exact⟨w,List.mem_cons_self ..,h2⟩
  ·obtain⟨w',a,b⟩:=Ua t q hq
   exact⟨w',List.mem_cons_of_mem _ a,b⟩
theorem AaT{p:Pl}{H:Hp}{s:Sto}(m:Emb G p s H){f:W→W→Bool}{F:V→V→Prop}(hf:∀w u x y,RelW G p H w x→RelW G p H u y→f w u=true→F x y){w u:W}{x y:V}(r1:RelW G p H w x)(r2:RelW G p H u y)(h:AaU s f w u=true):Afg G.K H F x y:=by
 unfold AaU at h
 rw[Bool.or_eq_true,Bool.or_eq_true] at h
 rcases h with(h|h)|h
 ·split at h
  ·rename_i ws us h1 h2
   rw[Bool.and_eq_true,decide_eq_true_eq] at h
   obtain⟨a,xs,rfl,a1,a2⟩:=Ac1 m r1 h1
   obtain⟨b,ys,rfl,b1,b2⟩:=Ac1 m r2 h2
   exact .inl ⟨a,b,xs,ys,rfl,rfl,a1,b1,Ny hf a2 b2 h.1 h.2⟩
  ·cases h
 ·split at h
  ·rename_i ws us h1 h2
   rw[Bool.and_eq_true,decide_eq_true_eq] at h
   obtain⟨a,xs,rfl,a1,a2⟩:=Ac4 m r1 h1
   obtain⟨b,ys,rfl,b1,b2⟩:=Ac4 m r2 h2
   refine .inr (.inl ⟨a,b,xs,ys,rfl,rfl,a1,b1,by rw[Nu a2,Nu b2];exact h.1,fun q hq=>?_⟩)
   obtain⟨w',m1,m2⟩:=Ua a2 q hq
   have e:=List.all_eq_true.mp h.2 _ m1
   simp only at e
   rcases T9 (k:=q.1) b2 with⟨c1,c2⟩|⟨w2,v2,c1,c2,c3⟩
   ·rw[c1] at e;cases e
   ·rw[c1] at e
    exact⟨v2,c2,hf _ _ _ _ m2 c3 e⟩
  ·cases h
 ·split at h
  ·rename_i ws us
   rw[Bool.and_eq_true,decide_eq_true_eq] at h
   cases r1 with
   | @tup a _ xs ha ra=>cases r2 with
    | @tup b _ ys hb rb=>exact .inr (.inr ⟨a,b,xs,ys,rfl,rfl,ha,hb,Ny hf ra rb h.1 h.2⟩)
  ·cases h
theorem Aai{x y:V}(h:scal x y=true)(e:x=y):flatB x=true:=by
 subst e
 cases x<;>first|rfl|cases h
theorem Ac3{p:Pl}{H:Hp}{s:Sto}(m:Emb G p s H):∀(n:Nat) (w u:W) (x y:V),RelW G p H w x→RelW G p H u y→eqT s n w u=true→EqX G.K H n x y
 |0,_,_,_,_,_,_,h=>by cases h
 |n+1,w,u,x,y,r1,r2,h=>by
  unfold eqT at h
  rw[Bool.or_eq_true,decide_eq_true_eq] at h
  rcases h with h|h
  ·rcases Yo m r1 r2 h with⟨a1,a2⟩|⟨d,e,a1,a2,a3,a4,a5⟩
   ·exact .inl ⟨of_decide_eq_true a2,Aai a1 (of_decide_eq_true a2)⟩
   ·exact .inr (.inl ⟨d,e,a1,a2,a3,a4,a5⟩)
  ·exact .inr (.inr (AaT m (Ac3 m n) r1 r2 h))
theorem W0{k:Nat}{A:Around}(r:Room k A):A.units+200<cLine:=by have:=r.un;omega
theorem Aay(hu:X.A.units+200<cLine):OpR X (compareOp .Eq) (fun x y H Q=>(rEq x y H Q∨rEqD X.K x y H Q)∨Afu X.K x y H Q):=(Uj (by omega)).or (Aer hu)
theorem Acv:Bx G (fun x y H Q=>(rEq x y H Q∨rEqD G.K x y H Q)∨Afu G.K x y H Q) Abo:=by
 intro E x y w u H p s Q r1 r2 m h1
 unfold Abo at h1
 split at h1
 ·rename_i b e
  have q:Q (.bl b) H:=h1.now m (.bl b)
  rcases Yo m r1 r2 e with⟨a1,a2⟩|⟨d,e,a1,a2,a3,a4,a5⟩
  ·exact .inl (.inl ⟨a1,by rw[a2];exact q⟩)
  ·exact .inl (.inr ⟨d,e,a1,a2,a3,a4,by rw[a5];exact q⟩)
 ·split at h1
  ·rename_i e
   exact .inr ⟨40,Nat.le_refl _,AaT m (Ac3 m 40) r1 r2 e,h1.now m (.bl true)⟩
  ·exact h1.elim
end
end Fm
namespace L2
open PySem PySem.Spec PyProof.Rows
end L2
namespace Fm
open PySem L2
end Fm
namespace Fm
open PySem L2
end Fm
namespace L2
open PySem PySem.Spec PyProof.Rows
end L2
namespace Fm
open PySem L2
end Fm
namespace Fm
open PySem PySem.Spec PyProof.Rows L2
end Fm
set_option maxHeartbeats 4000000
namespace L2
open PySem PySem.Spec PyProof.Rows
end L2
namespace Fm
open PySem L2
end Fm
set_option maxHeartbeats 1000000
namespace Fm
open PySem PySem.Spec PyProof.Rows L2
end Fm
set_option maxHeartbeats 1000000
namespace Fm
open PySem PySem.Spec PyProof.Rows L2
end Fm
set_option maxHeartbeats 1000000
namespace PySem.SeqAt
open AutoSeq1 (wpAny_loadPart')
open MeetsSeq MeetsSeq2 MeetsSeq3 SeqRoads2
end PySem.SeqAt
namespace L2
open PySem PySem.Spec PyProof.Rows
end L2
set_option maxHeartbeats 1000000
namespace L2
open PySem PySem.Spec PyProof.Rows
end L2
namespace Fm
open PySem PySem.Spec PyProof.Rows L2
end Fm
namespace Fm
open PySem L2
end Fm
namespace Fm
open PySem L2
end Fm
set_option maxHeartbeats 1000000
namespace PySem
open PySem.Sem (wp)
end PySem
set_option maxHeartbeats 1000000
namespace L2
open PySem PySem.Spec PyProof.Rows
end L2
namespace Fm
open PySem L2
end Fm
namespace Fm
open PySem L2
section
variable {G:Gw} {E:L2.St→XK} {X:Cx}
def flW:W→Bool
 |.non=>true
 |.int _=>true
 |.str _=>true
 |_=>false
end
end Fm
namespace Fm
open PySem L2
end Fm
namespace L2
open PySem PySem.Spec PyProof.Rows
end L2
namespace Fm
open PySem L2
end Fm
set_option maxHeartbeats 2000000
namespace Fm
open PySem L2
end Fm
set_option maxHeartbeats 2000000
namespace L2
open PySem PySem.Spec PyProof.Rows
end L2
namespace Fm
open PySem L2
end Fm
set_option maxHeartbeats 2000000
namespace Fm
open PySem L2
end Fm
set_option maxHeartbeats 2000000
namespace Fm
open PySem L2
end Fm
set_option maxHeartbeats 2000000
namespace L2
open PySem PySem.Spec PyProof.Rows
end L2
namespace Fm
open PySem L2
structure ErrN(G:Gw)(mg:Str→Option Value)(C:String):Prop where
 mgc:mg (Str.ofString C)=some (.ref (G.at_ C))
 exc:PySem.W.excIn G.K (G.at_ C) [.type "ValueError", .type "Exception", .type "BaseException", .type "object"] "ValueError.__new__" = true
 keep:PySem.W.keepIn G.K (.ref (G.at_ C))=true
 sub:PySem.W.subIn G.K (.ref (G.at_ C)) (.type "BaseException")=some true
 ty:PySem.W.typeIn G.K (.ref (G.at_ C))=some (.type "type")
end Fm
set_option maxHeartbeats 2000000
namespace L2
open PySem PySem.Spec PyProof.Rows
end L2
namespace Fm
open PySem L2
section
variable {G:Gw}
def sc:W→Option PyData
 |.non=>some .none
 |.bl b=>some (.bool b)
 |.int i=>some (.int i)
 |.str x=>some (.str x)
 |_=>none
end
end Fm
set_option maxHeartbeats 2000000
namespace Fm
open PySem L2
end Fm
set_option maxHeartbeats 2000000
namespace Fm
open PySem L2
section
variable {G:Gw} {X:Cx} {E:L2.St→XK}
def AeV:W→Option Int→Option Int→Sto→R W:=fun w lo hi s=>match w with
 |.str z=>if z.length≤sizeLine then .ok (.str (cutS z lo hi)) s else .bad
 |_=>.bad
theorem Aei:Ad7 G rSlS AeV:=by
 intro Ee x w lo hi H p s Q r1 m h1
 cases r1 with
 |str z =>
  simp only[AeV] at h1
  split at h1
  ·rename_i hz
   exact⟨z,rfl,hz,h1.now m (.str _)⟩
  ·exact h1.elim
 |_=>exact h1.elim
end
end Fm
set_option maxHeartbeats 2000000
namespace Fm
open PySem L2
end Fm
namespace PySem.W
open PySem PySem.Calls PyProof.Rows PySem.SeqAt
end PySem.W
namespace Fm
open PySem PySem.Spec PyProof.Rows L2
end Fm
set_option maxHeartbeats 2000000
namespace PySem.SeqAt
open PySem PySem.Calls PyProof.Rows PySem.W
end PySem.SeqAt
namespace L2
open PySem PySem.Spec PyProof.Rows
end L2
namespace Fm
open PySem L2
end Fm
set_option maxHeartbeats 2000000
namespace L2
open PySem PySem.Spec PyProof.Rows
end L2
namespace Fm
open PySem L2
end Fm
set_option maxHeartbeats 4000000
namespace L2
open PySem PySem.Spec PyProof.Rows
end L2
namespace Fm
open PySem L2
end Fm
set_option maxHeartbeats 4000000
namespace Fm
open PySem PySem.Spec L2
end Fm
set_option maxHeartbeats 4000000
namespace Fm
open PySem PySem.Spec L2 PyProof.Rows
end Fm
set_option maxHeartbeats 4000000
namespace Fm
open PySem PySem.Spec PyProof.Rows L2
end Fm
set_option maxHeartbeats 4000000
namespace Fm
open PySem PySem.Spec PyProof.Rows L2
end Fm
set_option maxHeartbeats 4000000
namespace Fm
open PySem PySem.Spec PyProof.Rows L2
end Fm
set_option maxHeartbeats 2000000
namespace Fm
open PySem L2
set_option autoImplicit false
end Fm
set_option maxHeartbeats 2000000
namespace PySem.W
open Lean Elab Tactic Meta PySem PySem.Calls PyProof.Rows PyProof.V PySem.Spec
end PySem.W
namespace L2
open PySem PySem.Spec PyProof.Rows
end L2
namespace Fm
open PySem L2
end Fm
set_option maxHeartbeats 1000000
namespace Fm
open PySem L2
end Fm
set_option maxHeartbeats 2000000
namespace Fm
open PySem L2
open PySem.Spec PyProof.Rows
open _root_.NdefX (NF NScope CellsAt startF envF ncx inv_startN ncxH inv_startNH)
open HotX L2H
set_option autoImplicit false
end Fm
set_option maxHeartbeats 2000000
namespace Fm
open PySem PySem.Spec PyProof.Rows L2 HotX L2H
end Fm
set_option maxHeartbeats 2000000
namespace L2
open PySem PySem.Spec PyProof.Rows
end L2
namespace Fm
open PySem L2
open PySem.Spec PyProof.Rows
open HotX L2H
open _root_.NdefX (NF NScope)
end Fm
set_option maxHeartbeats 2000000
namespace Fm
open PySem L2
open HotX L2H
set_option autoImplicit false
end Fm
namespace Fm
open PySem PySem.Spec PyProof.Rows L2
end Fm
set_option maxHeartbeats 2000000
namespace PySem
open PySem.Sem (wp)
end PySem
namespace L2
open PySem PySem.Spec PyProof.Rows L2.DX
end L2
namespace Fm
open PySem L2
section
variable {G:Gw} {E:L2.St→XK} {X:Cx}
def Acy:List W→Sto→R W:=fun ws s=>match ws with
 | [a,b]=>(match lOf a s,lOf b s with
  |some xs,some ys=>.ok (.lst ((xs.zip ys).map fun p=>.tup [p.1,p.2])) s
  |_,_=>.bad)
 |_=>.bad
@[simp] theorem ev_listZ{a b:W}{xs ys:List W}{s:Sto}(h1:lOf a s=some xs)(h2:lOf b s=some ys):Acy [a,b] s=.ok (.lst ((xs.zip ys).map fun p=>.tup [p.1,p.2])) s:=by
 unfold Acy
 simp only[h1,h2]
end
end Fm
set_option maxHeartbeats 2000000
namespace Fm
open PySem L2
def Adj(L:List Nat)(s:Sto):Sto:=⟨s.next,fun j=>if j∈L then(match s.get j with|some (.dct kvs)=>some (.ldk kvs)|o=>o) else s.get j⟩
def Adv(L:List Nat)(s:Sto):Sto:=⟨s.next,fun j=>if j∈L then(match s.get j with|some (.ldk kvs)=>some (.dct kvs)|o=>o) else s.get j⟩
@[simp] theorem lockS_nil(s:Sto):Adj [] s=s:=by
 cases s
 simp[Adj]
@[simp] theorem freeS_nil(s:Sto):Adv [] s=s:=by
 cases s
 simp[Adv]
@[simp] theorem lockS_next(L:List Nat)(s:Sto):(Adj L s).next=s.next:=rfl
@[simp] theorem freeS_next(L:List Nat)(s:Sto):(Adv L s).next=s.next:=rfl
end Fm
set_option maxHeartbeats 1000000
namespace Fm
open PySem L2
def Agg:HO→Prop
 |.dK _=>True
 |.ext _=>True
 |_=>False
def LkK(H H':Hp):Prop:=∀b u,H b=some u→H' b=some u∨(Agg u∧∃od,H' b=some (.frz od u))
theorem LkK.refl{H:Hp}:LkK H H:=fun _ _ h=>.inl h
theorem LkK.trans{H H1 H2:Hp}(a:LkK H H1)(b:LkK H1 H2):LkK H H2:=fun x u h=>by
 rcases a x u h with h1|⟨mu,od,h1⟩
 ·exact b x u h1
 ·rcases b x _ h1 with h2|⟨mu2,od2,h2⟩
  ·exact .inr ⟨mu,od,h2⟩
  ·exact mu2.elim
theorem LkK.lock{H:Hp}{d:Addr}{u:HO}{od:Obj}(hd:H d=some u)(mu:Agg u):LkK H (upd H d (.frz od u)):=fun x v h=>by
 by_cases e:x=d
 ·subst e
  rw[hd] at h;cases h
  exact .inr ⟨mu,od,upd_same⟩
 ·exact .inl (by rw[upd_ne e];exact h)
theorem RLk.bind{H:Hp}{Q R:Hp→Prop}(h:RLk H Q)(k:∀H1,Q H1→RLk H1 R):RLk H R:=by
 induction h with
 |now q=>exact k _ q
 |lock hd mu _ ih=>exact .lock hd mu fun od=>ih od k
end Fm
set_option maxHeartbeats 1000000
namespace Fm
open PySem PySem.Spec PyProof.Rows L2
end Fm
set_option maxHeartbeats 4000000
namespace Fm
open PySem PySem.Spec PyProof.Rows L2
end Fm
namespace Fm
open PySem L2
end Fm
set_option maxHeartbeats 4000000
namespace Fm
open PySem PySem.Spec PyProof.Rows L2
end Fm
set_option maxHeartbeats 2000000
namespace Fm
open PySem L2
end Fm
set_option maxHeartbeats 2000000
namespace Fm
open PySem L2
end Fm
set_option maxHeartbeats 2000000
namespace L2
open PySem PySem.Spec PyProof.Rows
section
variable {X:Cx}
def Agi(C:Addr)(sp:Sp)(dvs:List V)(ta:TA):TE:=fun σ H Q=>ta σ H fun vs H1=>vs.length≤1000∧∀a,H1 a=none→sp (.ref a::(vs++dvs)) (upd H1 a (exo a C none)) (fun v H2=>v=.non∧Q (.ref a) H2) (fun _ _ _=>False)
theorem Ada{CX:CXT}{x:Str}{C fI:Addr}{k:Nat}{fd:FuncData}{ps:List Str}{sp:Sp}{ds:List Value}{dvs:List V}{e:Expr}{es:List Expr}{ta:TA}{p pos:Pos}(T:OexC X.K C)(iC:PySem.W.findIn X.K (.ref C) "__init__" = some (some (.ref fI)))(tI:PySem.W.typeIn X.K (.ref fI)=some (.type "function"))
  (F1:FnOk X.prog X.w X.K X.mg X.base CX k fI fd ps sp) (hr:Room (k+1) X.A) (hb:Binds X.K fd ps ds) (hd:Vals dvs ds) (hx:Passes CX X (fun _ _ _=>False)) (hg:Gl X x) (hm:X.mg x=some (.ref C)) (ha:PA X (e::es) ta)
  (hdb:(x==("__debug__" : Str))=false:=by decide) (he:starEach (e::es) X.env=(false,eval e X.env)::starEach es X.env:=by rfl) (hpl:(backTo pos (starEach es X.env)).any (·.1)=false:=by rfl) :
  PE X (.Call (.Name x p) (e::es) [] pos) (Agi C sp dvs ta):=by
 refine⟨fun pins s σ H Q I h=>?_⟩
 obtain⟨nm,q,N,bs,bm,sn,sub,ab,col,dd,k0,k1,k2,k3,k5,hC,hbm⟩:=T.cls
 refine wpAny_Call_Name_kw (ld_glob I hg hm ?_ hdb)
 refine PySem.W.callWith_K (h₀:=X.base) I.ok.mod.kin T.kC (thn (ha.run pos pins s σ H _ I h) fun us s1 ⟨vs,H1,I1,r1,hz,q1⟩=>⟨I1.kIn,?_⟩) he hpl
 show wpAny _ _ (call (.ref C) us) _ _ _
 obtain⟨hp,g,dr,tk,os⟩:=s1
 have hsz:hp.objs.size≤hp.objs.size+1:=Nat.le_succ _
 have hn:H1 (hp.objs.size+1)=none:=I1.hok.fresh hsz
 have hq:=q1 (hp.objs.size+1) hn
 have kk:∀b o,hp.get? b=some o→((hp.push (PySem.W.kdv_tup us)).push (PySem.HandSPX.excO C hp.objs.size)).get? b=some o:=fun b o e=>Heap.get?_push_of_some _ (Heap.get?_push_of_some _ e)
 have hget:((hp.push (PySem.W.kdv_tup us)).push (PySem.HandSPX.excO C hp.objs.size)).get? (hp.objs.size+1)=some (PySem.HandSPX.excO C hp.objs.size):=by heap_get
 have I2:Inv X pins σ (upd H1 (hp.objs.size+1) (exo (hp.objs.size+1) C none)) ⟨(hp.push (PySem.W.kdv_tup us)).push (PySem.HandSPX.excO C hp.objs.size),g,dr,tk,os⟩ :=
  I1.laid (t':=tk) (a:=hp.objs.size+1) (o:=exo (hp.objs.size+1) C none) (h':=(hp.push (PySem.W.kdv_tup us)).push (PySem.HandSPX.excO C hp.objs.size)) kk hsz (exo_ok hget)
 have r2:Vals (V.ref (hp.objs.size+1)::(vs++dvs)) (Value.ref (hp.objs.size+1)::(us++ds)):=.cons rfl (r1.append hd)
 have hl:(Value.ref (hp.objs.size+1)::us++ds).length=ps.length:=by
  have e:=r2.length
  rw[F1.len _ _ _ _ hq] at e
  exact e.symm
 have hus:us.length≤sizeLine:=by
  rw[←Paired.length r1,sizeLine_eq]
  omega
 refine wpAny_call (PySem.HandSPX.call_own F.excBase_ValueError (fun Y=>PySem.HandSPX.refsVE_contains Y bm hbm) (I1.kIn _ _ hC) (PySem.W.looks_findIn I1.kIn iC) (fun self=>PySem.W.bind_fn I1.kIn self tI) hus
  (codeAny_mono (F1.run _ X.stack _ _ ⟨Value.ref (hp.objs.size+1)::us,[]⟩ (Value.ref (hp.objs.size+1)::(us++ds)) _ _ (fun _ _ _=>False) (hr.make C us []) (I2.env0.make C us []) (hb _ (Value.ref (hp.objs.size+1)::us) I2.kIn hl) r2 hq) fun r s' hq'=>?_))
 cases r with
 |error er=>exact hx pins σ _ _ er s' I2 hq'
 |ok fl =>
  cases fl with
  |ret u =>
   obtain⟨v,H2,os2,bare2,un2,hok2,rv,ev,q2⟩:=hq'
   subst ev
   obtain⟨h2,g2,d2,t2,os'⟩:=s'
   refine⟨rv,?_⟩
   exact⟨.ref (hp.objs.size+1),H2,I2.call' (ch:=[]) os2 un2 hok2 bare2 (fun b z=>absurd z (by simp)),rfl,q2⟩
  |next=>exact False.elim hq'
  |brk=>exact False.elim hq'
  |cont=>exact False.elim hq'
theorem AbF{C:Addr}{bmB:List Value}{B newId initId:String}{x:Str}{p pos:Pos}(F:ExcBaseFacts B newId initId bmB)(q:PySem.W.excIn X.K C bmB newId=true)(gC:X.mg x=some (.ref C))
  (kC:PySem.W.keepIn X.K (.ref C)=true) (hg:Gl X x) (hdb:(x==("__debug__" : Str))=false:=by decide) :
  PE X (.Call (.Name x p) [] [] pos) (fun _ H Q=>∀a,H a=none→Q (.ref a) (upd H a (exo a C none))):=by
 refine⟨fun pins s σ H Q I h=>?_⟩
 refine wpAny_Call_Name_kw (ld_glob I hg gC ?_ hdb)
 refine PySem.W.callWith_K0 I.kIn kC ?_
 show wpAny _ _ (call (.ref C) []) _ _ _
 obtain⟨bm,N,nm,qn,bs,hdct,sn,sub,ab,col,dd,k0,k1,k2,k3,k5,mN,hC,hN,hni,T⟩:=exc_obj I.kIn q
 refine wpAny_call_exc_subT F T hC hN hni (fun h' e hm=>?_) (Nat.zero_le _)
 obtain⟨t,he,_,_⟩:=hm.there
 have na:=I.hok.gone hm.new
 exact⟨.ref e,_,I.laidN (t':=s.toks) hm.keeps hm.new na (exo_ok he),rfl,h e na⟩
def Afn(K:PySem.W.Frag)(n:Str)(te:TE):TE:=fun σ H Q=>te σ H fun x H1=>∃(a C d:Addr) (fs:List (Str×V)) (v:V),x=.ref a∧H1 a=some (exo a C (some d))∧H1 d=some (exd d fs)∧XfC K C∧PySem.W.findIn K (.ref C) n=some none∧fs.lookup n=some v∧Q v H1
theorem Adb{e:Expr}{te:TE}{pos:Pos}{n:Str}(he:PE X e te)(hb:attributeBase e n X.env (eval e X.env)=eval e X.env:=by rfl) :
  PE X (.Attribute e n pos) (Afn X.K n te):=by
 refine⟨fun pins s σ H Q I h=>?_⟩
 refine attr_of hb (thn (he.run pins s σ H _ I h) fun u s1 hh=>?_)
 obtain⟨x,H1,I1,rx,a,C,d,fs,v,ex,ea,ed,T,hno,l,q⟩:=hh
 subst ex
 obtain rfl:u=Value.ref a:=rx
 obtain⟨t1,ha⟩:=exo_at I1.hok ea
 obtain⟨mA,hns,hr⟩:=exd_at I1.hok ed
 obtain⟨od,ho,hl⟩:=lookIn_ns hns
 obtain⟨u,hu,ru⟩:=RelO.some_of (v:=v) (o:=mA n) (by rw[←l];exact hr n)
 have J:PySem.W.InstAt s1.heap a _ C (some od):=⟨ha,rfl,rfl,ho⟩
 exact HandSPX.exc_get I1.kIn J T.ga T.gg T.exC (PySem.W.findObj_own T.hdC hno rfl (by rw[hl,hu])) (handed_of ru) ⟨v,H1,I1.tok _,ru,q⟩
def AfO(K:PySem.W.Frag):List V→Hp→VK→Prop:=fun xs H Q=>∃(a D:Addr) (c:V) (cv:Value) (b:Bool),xs=[.ref a,c]∧ExcC K D∧(H a=some (exo a D none)∨∃d fs,H a=some (exo a D (some d))∧H d=some (exd d fs))∧(∀u,RelV c u→u=cv)∧PySem.W.kitOne K (.ref D) cv=some b∧Q (.bl b) H
theorem Ba:CallR X (.builtin "isinstance") (AfO X.K):=by
 intro pins s σ H xs us Q I r h
 obtain⟨a,D,c,cv,b,rfl,C,hd,hcv,e,q⟩:=h
 cases r with
 |cons rx rr =>
  cases rr with
  |cons rt rr =>
   cases rr
   cases rx
   have ec:=hcv _ rt
   subst ec
   have J:∃oe od,PySem.W.InstAt s.heap a oe D od:=by
    rcases hd with hd|⟨d,fs,hd,hx⟩
    ·obtain⟨t1,ha⟩:=exo_at I.hok hd
     exact⟨_,none,ha,rfl,rfl,trivial⟩
    ·obtain⟨t1,ha⟩:=exo_at I.hok hd
     obtain⟨mA,hns,hr⟩:=exd_at I.hok hx
     obtain⟨od,ho,hl⟩:=lookIn_ns hns
     exact⟨_,some od,ha,rfl,rfl,ho⟩
   obtain⟨oe,od,J⟩:=J
   exact PySem.W.kia_one (Fm.Aa7 C.hg C.hk C.hs C.hd C.ha C.hn C.ht C.hm) I.kIn J e (fun z=>nomatch z) fun tk=>⟨.bl b,H,I.kept (t':=tk) fun _ _ z=>z,rfl,q⟩
end
end L2
set_option maxHeartbeats 2000000
namespace Fm
open PySem L2
section
variable {G:Gw} {E:L2.St→XK} {X:Cx} {k:Nat}
def Vb(C:String)(fs:List String)(ma:AM):EM:=fun z s=>(ma z s).bind fun ws s1=>if ws.length=fs.length then .ok (.err C (fs.zip ws).reverse) s1 else .bad
@[simp] theorem ev_eErr(C:String)(fs:List String)(ma:AM)(z:Env0)(s:Sto):Vb C fs ma z s=(ma z s).bind fun ws s1=>if ws.length=fs.length then .ok (.err C (fs.zip ws).reverse) s1 else .bad:=rfl
theorem Et{C:String}{fs:List String}{e:Expr}{es:List Expr}{ma:AM}{p pos:Pos}(F:ErrK G X.prog X.w X.mg X.base k C fs)(hr:Room (k+1) X.A)(ha:SA G E X (e::es) ma)(hfs:fs.length≤1000:=by decide)(hg:Gl X (Str.ofString C):=by rfl)(hK:X.K=G.K:=by rfl)
  (hdb:(Str.ofString C==("__debug__" : Str))=false:=by decide) (he:starEach (e::es) X.env=(false,eval e X.env)::starEach es X.env:=by rfl) (hpl:(backTo pos (starEach es X.env)).any (·.1)=false:=by rfl) :
  SE G E X (.Call (.Name (Str.ofString C) p) (e::es) [] pos) (Vb C fs ma):=by
 obtain⟨h1,T,f,fd,ps,h2,h3,h4,h5⟩:=F
 rw[←hK] at T h2 h3 h4 h5
 obtain⟨t,h6,h7⟩:=ha
 refine⟨_,Ada (ds:=[]) (dvs:=[]) T h3 h4 h2 hr h5 .nil pass0 hg h1 h6 hdb he hpl,fun σ z H p s Q rs m h=>h7 σ z H p s _ rs m (Bf.bind h fun ws s1 _ p1 H1 vs e1 m1 r1 q1=>?_)⟩
 split at q1
 ·rename_i hl
  have hl':vs.length=(fs.map Str.ofString).length:=by rw[List.length_map,r1.length];exact hl
  have hz:vs.length≤1000:=by rw[r1.length,hl];exact hfs
  refine⟨hz,fun a hn=>⟨a,vs,by rw[List.append_nil],hl',upd_same,fun dx H' d1 d2 d3 d4 d5=>⟨rfl,?_⟩⟩⟩
  rw[upd_ne d2] at d1
  have e2:Ext G p1 H1 (p1.ice a) (upd H1 a (exo a (G.at_ C) (some dx))):=Ext.laidF hn
  have m2:=m1.asideF (o:=exo a (G.at_ C) (some dx)) hn
  have d1':upd H1 a (exo a (G.at_ C) (some dx)) dx=none:=by rw[upd_ne d2];exact d1
  have e3:Ext G (p1.ice a) (upd H1 a (exo a (G.at_ C) (some dx))) ((p1.ice a).ice dx) (upd (upd H1 a (exo a (G.at_ C) (some dx))) dx (exd dx ((fs.map Str.ofString).zip vs).reverse)):=Ext.laidF d1'
  have m3:=m2.asideF (o:=exd dx ((fs.map Str.ofString).zip vs).reverse) d1'
  have eH:H'=upd (upd H1 a (exo a (G.at_ C) (some dx))) dx (exd dx ((fs.map Str.ofString).zip vs).reverse):=by
   funext b
   by_cases c1:b=dx
   ·subst c1;rw[upd_same,d4]
   ·rw[upd_ne c1]
    by_cases c2:b=a
    ·subst c2;rw[upd_same,d3]
    ·rw[upd_ne c2,d5 b c2 c1,upd_ne c2]
  rw[eH]
  refine q1 _ _ _ (e2.trans e3) m3 (.err (d:=dx) (vs:=((fs.map Str.ofString).zip vs).reverse) (List.mem_cons_of_mem _ (List.mem_cons_self ..)) ?_ (List.mem_cons_self ..) upd_same ?_)
  ·rw[upd_ne (Ne.symm d2),upd_same]
  ·exact Xl (Pg (Ue (RelWs.mono (e2.trans e3) r1)))
 ·exact q1.elim
theorem Km{C:String}{p pos:Pos}(F:ErrN G X.mg C)(hg:Gl X (Str.ofString C):=by rfl)(hK:X.K=G.K:=by rfl)
  (hdb:(Str.ofString C==("__debug__" : Str))=false:=by decide):SE G E X (.Call (.Name (Str.ofString C) p) [] [] pos) (eC (.err C [])):=by
 obtain⟨h1,h2,h3,h4,h5⟩:=F
 rw[←hK] at h2 h3 h4 h5
 refine⟨_,AbF PySem.F.excBase_ValueError h2 h1 h3 hg hdb,fun σ z H p s Q rs m h a hn=>?_⟩
 have h':Bf G (RelW G) p H Q (E σ) (.ok (.err C []) s):=h
 exact h' _ _ _ (Ext.laidF hn) (m.asideF hn) (.err0 (List.mem_cons_self ..) upd_same)
def Dy(ns:List String)(f:String):W→Sto→R W:=fun w s=>match w with
 |.err C fs=>if C∈ns then(match fs.lookup f with
  |some u=>.ok u s
  |none=>.bad) else .bad
 |_=>.bad
theorem Cy{ns:List String}{e:Expr}{me:EM}{f:String}{pos:Pos}(T1:∀C,C∈ns→XfC G.K (G.at_ C))(T2:∀C,C∈ns→PySem.W.findIn G.K (.ref (G.at_ C)) (Str.ofString f)=some none)(he:SE G E X e me)(hb:attributeBase e (Str.ofString f) X.env (eval e X.env)=eval e X.env:=by rfl)(hK:X.K=G.K:=by rfl) :
  SE G E X (.Attribute e (Str.ofString f) pos) (eUn (Dy ns f) me):=by
 obtain⟨t,h1,h2⟩:=he
 refine⟨_,Adb h1 hb,fun σ z H p s Q rs em h=>h2 σ z H p s _ rs em (Bf.bind h fun w s1 _ p1 H1 x e1 m1 r1 h3=>?_)⟩
 unfold Dy at h3
 rw[hK]
 cases r1 with
 | @err a d C ws vs hf ha hg hd r =>
  simp only at h3
  split at h3
  ·rename_i hm
   have t1:=T1 _ hm
   have t2:=T2 _ hm
   split at h3
   ·rename_i u hu
    obtain⟨v,h5,h6⟩:=Lj (Xm r) hu
    exact⟨a,G.at_ C,d,vs,v,rfl,ha,hd,t1,t2,h5,h3.now m1 h6⟩
   ·exact h3.elim
  ·exact h3.elim
 | @err0 a C hf ha =>
  simp only at h3
  split at h3
  ·exact h3.elim
  ·exact h3.elim
 |_=>exact h3.elim
def Kg(ns:List String)(tS tT:String→String→Option Bool):W→W→Sto→R W:=fun w u s=>match w,u with
 |.err C _,.sta D=>if C∈ns then(match tS C D with
  |some b=>.ok (.bl b) s
  |none=>.bad) else .bad
 |.err C _,.ty D=>if C∈ns then(match tT C D with
  |some b=>.ok (.bl b) s
  |none=>.bad) else .bad
 |_,_=>.bad
theorem Cg{ns:List String}{tS tT:String→String→Option Bool}(T1:∀C,C∈ns→ExcC G.K (G.at_ C))(T:TabE G tS tT):O9 G (AfO G.K) (l2 (Kg ns tS tT)):=Acq (by
 intro E x y w u H p s Q r1 r2 em h
 unfold Kg at h
 have key:∀{C:String} {ws:List (String×W)},RelW G p H (.err C ws) x→∃a,x=.ref a∧(H a=some (exo a (G.at_ C) none)∨∃d fs,H a=some (exo a (G.at_ C) (some d))∧H d=some (exd d fs)):=by
  intro C ws r
  cases r with
  |err hf ha hg hd r=>exact⟨_,rfl,.inr ⟨_,_,ha,hd⟩⟩
  |err0 hf ha=>exact⟨_,rfl,.inl ha⟩
 cases r2 with
 |sta D =>
  cases w with
  |err C fs =>
   simp only at h
   split at h
   ·rename_i hm
    split at h
    ·rename_i b hb
     obtain⟨a,rfl,hd⟩:=key r1
     exact⟨a,G.at_ C,.ref (G.at_ D),.ref (G.at_ D),b,rfl,T1 C hm,hd,fun u hu=>hu,T.st C D b hb,h.now em (.bl b)⟩
    ·exact h.elim
   ·exact h.elim
  |_=>exact h.elim
 |ty D =>
  cases w with
  |err C fs =>
   simp only at h
   split at h
   ·rename_i hm
    split at h
    ·rename_i b hb
     obtain⟨a,rfl,hd⟩:=key r1
     exact⟨a,G.at_ C,.ty D,.type D,b,rfl,T1 C hm,hd,fun u hu=>hu,T.ty C D b hb,h.now em (.bl b)⟩
    ·exact h.elim
   ·exact h.elim
  |_=>exact h.elim
 |_=>cases w<;>exact h.elim)
end
end Fm
set_option maxHeartbeats 2000000
namespace PySem.SeqAt
open AutoSeq1 (wpAny_loadPart')
open MeetsSeq
section
variable {A:Around} {s:Shared}
theorem Hn(b:Str)(u:Tok)(l:Addr)(es:Array DictEntry)(ep:Nat) :
  Meets (Builtin.«str.__eq__» ⟨[.str b u,.ref l],[]⟩) (fun _ R s=>s.heap.get? l=some { cls:=.type "dict", data:=.dict es ep }∧R (.ok (.ret .notImplemented)) s) :=
 .of_wp fun prog w A R s h=>by obtain⟨hp,g,d,tk,os⟩:=s;obtain⟨hl,h⟩:=h;wp_walk using wpAny_loadPart' hl,wpAny_load hl;exact⟨_,rfl,h⟩
theorem Qy:isSubtype (.type "str") (.type "dict")=pure false:=by rw[isSubtype_type];kernel_rfl
theorem Hr(b:Str)(u:Tok)(l:Addr)(es:Array DictEntry)(ep:Nat) :
  Meets (Builtin.«dict.__eq__» ⟨[.ref l,.str b u],[]⟩) (fun _ R s=>s.heap.get? l=some { cls:=.type "dict", data:=.dict es ep }∧R (.ok (.ret .notImplemented)) s) :=
 .of_wp fun prog w A R s h=>by obtain⟨hp,g,d,tk,os⟩:=s;obtain⟨hl,h⟩:=h;have f3:=Qy;wp_walk using wpAny_loadPart' hl,wpAny_load hl;exact⟨_,rfl,h⟩
theorem RcAt.str_dict{l:Addr}{es:Array DictEntry}{ep:Nat}(b:Str)(u:Tok)(ho:s.heap.get? l=some { cls:=.type "dict", data:=.dict es ep })(hu:A.units<cLine):RcAt A s (.str b u) (.ref l) false:=fun prog w E Q h=>by
 exact rc_eq_decline_or (k:=false) (typeIs_str s b u) ⟨_,ho,rfl⟩ (by decide) F.sub_dict_str F.slot_str_eq F.slot_dict_eq_refl
  (fun _ hq=>call_meets F.slot_str_eq (typeIs_str s b u) F.entry_str_eq (F.args_str_eq_2 _ _) (Hn b u l es ep) ⟨ho,hq⟩)
  (fun _ hq=>call_meets F.slot_dict_eq_refl ⟨_,ho,rfl⟩ F.entry_dict_eq (F.args_dict_eq_2 _ _) (Hr b u l es ep) ⟨ho,hq⟩)
  (fun _ hq=>wpAny_of_eq (rfl:isSame (.str b u) (.ref l)=pure false) hq) (.inr hu) h
theorem EqAt.str_dict{l:Addr}{es:Array DictEntry}{ep:Nat}(b:Str)(u:Tok)(ho:s.heap.get? l=some { cls:=.type "dict", data:=.dict es ep })(hu:A.units<cLine):EqAt A s (.str b u) (.ref l) false:=fun prog w E Q h=>by
 unfold eqBool
 refine wpAny_holding ?_
 refine wpAny_ite_split (fun hab=>absurd (eq_of_beq hab) nofun) (fun _=>?_)
 exact wpAny_bind (RcAt.str_dict b u ho hu prog w E _ (wpAny_truthy_bool h))
end
end PySem.SeqAt
namespace L2
open PySem PySem.Spec PyProof.Rows
def Aeg(K:PySem.W.Frag):R2:=fun x y H Q=>∃(p:Addr) (ts:List Str),y=.ref p∧SqT K H p (ts.map V.str)∧(∀t∈ts,SeqAt.shaped (.str t)=true)∧((∃d,Dp K H x d∧SeqAt.shaped d=true∧Q (.bl (ts.any fun t=>PyData.eqv (.str t) d)) H)∨(∃a ks,x=.ref a∧Rd H a (.dK ks)∧Q (.bl false) H))
theorem Adc{X:Cx}(hu:X.A.units+64<cLine):OpR X (compareOp .In) (Aeg X.K):=by
 intro pins s σ H x y v u Q I rx ry h
 obtain⟨p,ts,rfl,hp,hts,h⟩:=h
 cases (show u=Value.ref p from ry)
 obtain⟨its,r1,p1,_⟩:=I.tuple hp
 have str_of:∀{ts:List Str} {its:List Value},Vals (ts.map V.str) its→∀z∈its,∃t k,z=Value.str t k∧t∈ts:=by
  intro ts
  induction ts with
  |nil=>intro its r z hz;cases r;cases hz
  |cons t ts ih =>
   intro its r z hz
   cases r with
   |cons h r =>
    rcases List.mem_cons.mp hz with rfl|hz
    ·obtain⟨k,rfl⟩:=h
     exact⟨t,k,rfl,List.mem_cons_self ..⟩
    ·obtain⟨t,k,e,m⟩:=ih r z hz
     exact⟨t,k,e,List.mem_cons_of_mem _ m⟩
 have any_of:∀{ts:List Str} {its:List Value} (e:Value→Bool) (g:Str→Bool),(∀t k,e (.str t k)=g t)→Vals (ts.map V.str) its→its.any e=ts.any g:=by
  intro ts
  induction ts with
  |nil=>intro its e g hg r;cases r;rfl
  |cons t ts ih =>
   intro its e g hg r
   cases r with
   |cons h r =>
    obtain⟨k,rfl⟩:=h
    rw[List.any_cons,List.any_cons,hg,ih e g hg r]
 rcases h with⟨d,hd,sd,q⟩|⟨a,ks,rfl,ha,q⟩
 ·obtain⟨bs,r2⟩:=Dp.reads I d x v hd rx
  let e:Value→Bool:=fun z=>match z with
   |.str t _=>PyData.eqv (.str t) d
   |_=>false
  refine SeqAt.in_tupleAt e p1 (fun z hz=>?_) ?_
  ·obtain⟨t,k,rfl,mt⟩:=str_of r1 z (by simpa using hz)
   exact SeqAt.eqAt_reads (.str t) d X.A.in1 s _ v [] bs (.str ..) r2 (SeqAt.canLay_of_shaped (hts t mt)) (SeqAt.canLay_of_shaped sd) (by
    show X.A.units+1+min 0 d.depth<cLine
    omega)
  ·rw[←Array.any_toList,any_of e (fun t=>PyData.eqv (.str t) d) (fun _ _=>rfl) r1]
   exact⟨.bl _,H,I,rfl,q⟩
 ·cases (show v=Value.ref a from rx)
  obtain⟨_,_,va,ra,da⟩:=(show ObjOk X.prog X.w H s.heap a (.dK ks) from ha.ok I.hok)
  obtain⟨⟨cls,dd,data,sl⟩,es,ep,ho,⟨hc1,hc2,hc3⟩,hd,_⟩:=da
  dsimp only at hc1 hc2 hc3 hd
  subst hc1 hc2 hc3 hd
  refine SeqAt.in_tupleAt (fun _=>false) p1 (fun z hz=>?_) ?_
  ·obtain⟨t,k,rfl,mt⟩:=str_of r1 z (by simpa using hz)
   exact SeqAt.EqAt.str_dict t k ho (by show X.A.units+1<cLine;omega)
  ·rw[show its.toArray.any (fun _=>false)=false by rw[←Array.any_toList];simp]
   exact⟨.bl _,H,I,rfl,q⟩
end L2
namespace Fm
open PySem L2
def Ui:W→W→Sto→R W:=fun x y s=>match y with
 |.tup ws=>(match strsOf ws with
  |some ts=>if ts.all (fun t=>SeqAt.shaped (.str t))=true then(match x with
   |.dct _=>.ok (.bl false) s
   |x=>(match rd s 64 x with
    |some d=>if SeqAt.shaped d=true then .ok (.bl (ts.any fun t=>PyData.eqv (.str t) d)) s else .bad
    |none=>.bad)) else .bad
  |none=>.bad)
 |_=>.bad
theorem AcW{G:Gw}:Bx G (Aeg G.K) Ui:=by
 intro Ee x y w u H p s Q r1 r2 m h
 unfold Ui at h
 split at h
 ·rename_i ws
  cases r2 with
  |tup hq hr =>
   split at h
   ·rename_i ts ht
    have e:=M9 hr ht
    subst e
    split at h
    rotate_left
    ·exact h.elim
    rename_i hall
    have hts:=fun t mt=>List.all_eq_true.mp hall t mt
    refine⟨_,ts,rfl,hq,hts,?_⟩
    split at h
    ·cases r1 with
     |dct hf hd hr2 =>
      obtain⟨o,hd⟩:=hd
      exact .inr ⟨_,_,rfl,.inr ⟨o,hd⟩,h.now m (.bl false)⟩
    ·split at h
     ·rename_i d hd
      split at h
      ·rename_i ok
       exact .inl ⟨d,AcT m 64 w x d r1 hd,ok,h.now m (.bl _)⟩
      ·exact h.elim
     ·exact h.elim
   ·exact h.elim
 ·exact h.elim
end Fm
namespace Fm
open PySem L2
theorem AcH{G:Gw}{tS tT:List (String×List (String×Bool))}(h1:Gr (fun p=>Gr (fun q=>PySem.W.kitOne G.K (.ref (G.at_ p.1)) (.ref (G.at_ q.1))=some q.2) p.2) tS)
  (h2:Gr (fun p=>Gr (fun q=>PySem.W.kitOne G.K (.ref (G.at_ p.1)) (.type q.1)=some q.2) p.2) tT):TabE G (AdB tS) (AdB tT):=by
 have key:∀{t:List (String×List (String×Bool))} {C D:String} {b:Bool},AdB t C D=some b→∃r,(C,r)∈t∧(D,b)∈r:=by
  intro t C D b h
  unfold AdB at h
  cases e:t.lookup C with
  |none=>rw[e] at h;cases h
  |some r=>rw[e] at h;exact⟨r,N5 e,N5 h⟩
 refine⟨fun C D b h=>?_,fun C D b h=>?_⟩
 ·obtain⟨r,m1,m2⟩:=key h
  exact(h1.mem _ m1).mem _ m2
 ·obtain⟨r,m1,m2⟩:=key h
  exact(h2.mem _ m1).mem _ m2
end Fm
namespace Fm
open PySem L2
theorem Ff(as:AM)(z:Env0)(s:Sto):Ci as z s=(as z s).bind fun ws s1=>if ws.length≤sizeLine then .ok (.lst ws) s1 else .bad:=rfl
theorem AaP(m:EM)(z:Env0)(s:Sto):Ag0 m z s=(m z s).bind AfX:=rfl
theorem Aan{s:Sto}{n:Nat}{ws:List W}{ds:List PyData}(h:ws.mapM (rd s n)=some ds):rd s (n+1) (.lst ws)=some (.list ds):=by simp only[rd,h,Option.map_some]
theorem Aea{s:Sto}{n:Nat}{ws:List W}{ds:List PyData}(h:ws.mapM (rd s n)=some ds):rd s (n+1) (.tup ws)=some (.tuple ds):=by simp only[rd,h,Option.map_some]
end Fm
namespace Fm
open PySem L2
end Fm
namespace Fm
open PySem L2
end Fm
namespace Fm
open PySem L2
section
variable (z:Env0) (s:Sto)
theorem Om(m:EM):AaI m z s=(m z s).bind Wd:=rfl
theorem Uu(ws:List W):Wd (.lst ws) s=.ok ⟨ws,fun _=>true⟩ s:=rfl
theorem Ut(ws:List W):Wd (.tup ws) s=.ok ⟨ws,fun _=>true⟩ s:=rfl
theorem Uv(kvs:List (Key×W)):Wd (.dct kvs) s=.ok ⟨kvs.map fun kv=>kW kv.1,fun _=>true⟩ s:=rfl
end
theorem V9{t:TM}{e:EM}{gd:Sto→Bool}{i:Nat}{z:Env0}(I:Nat→List W→Sto→Prop):∀(xs:List W) (k:Nat) (acc:List W) (s:Sto),(∀k acc s,I k acc s→gd s=true) →
  (∀j x acc s,xs[j]? = some x→I (k+j) acc s→∃c s2,t (z.set i (some x)) s=.ok c s2∧(c=false→I (k+j+1) acc s2)∧(c=true→∃w s3,e (z.set i (some x)) s2=.ok w s3∧acc.length<sizeLine∧I (k+j+1) (acc++[w]) s3)) →
  I k acc s→∃acc' s',Fp (gNm i) t e gd z xs acc s=.ok acc' s'∧I (k+xs.length) acc' s'
 | [],k,acc,s,hd,_,h=>⟨acc,s,by unfold Fp;rw[if_pos (hd k acc s h)],h⟩
 |x::xs,k,acc,s,hd,hs,h=>by
  obtain⟨c,s2,e1,hf,ht⟩:=hs 0 x acc s rfl h
  have nxt:∀j y acc s,xs[j]? = some y→I (k+1+j) acc s→∃c s2,t (z.set i (some y)) s=.ok c s2∧(c=false→I (k+1+j+1) acc s2)∧(c=true→∃w s3,e (z.set i (some y)) s2=.ok w s3∧acc.length<sizeLine∧I (k+1+j+1) (acc++[w]) s3):=fun j y acc s hy hI=>by
   have:=hs (j+1) y acc s (by simpa using hy) (by rw[show k+(j+1)=k+1+j by omega];exact hI)
   rw[show k+(j+1)+1=k+1+j+1 by omega] at this
   exact this
  unfold Fp
  rw[if_pos (hd k acc s h)]
  simp only[Oo,Aa,e1,Xo]
  cases c with
  |false =>
   obtain⟨acc',s',e3,h3⟩:=V9 I xs (k+1) acc s2 hd nxt (hf rfl)
   exact⟨acc',s',by simp[e3],by rw[List.length_cons,show k+(xs.length+1)=k+1+xs.length by omega];exact h3⟩
  |true =>
   obtain⟨w,s3,e2,hz,h4⟩:=ht rfl
   obtain⟨acc',s',e3,h3⟩:=V9 I xs (k+1) (acc++[w]) _ hd nxt h4
   exact⟨acc',s',by simp[e2,hz,e3],by rw[List.length_cons,show k+(xs.length+1)=k+1+xs.length by omega];exact h3⟩
theorem V8{it:IM}{t:TM}{e:EM}{i:Nat}{vs:List Nat}{z:Env0}{s s1:Sto}{w:ItW}(I:Nat→List W→Sto→Prop)(hi:it z s=.ok w s1)(hg:∀k acc s,I k acc s→w.gd s=true)(h0:I 0 [] s1)
  (he:∀k x acc s,w.xs[k]? = some x→I k acc s→∃c s2,t ((Cv z vs).set i (some x)) s=.ok c s2∧(c=false→I (k+1) acc s2)∧(c=true→∃u s3,e ((Cv z vs).set i (some x)) s2=.ok u s3∧acc.length<sizeLine∧I (k+1) (acc++[u]) s3)) :
  ∃acc s',R9 it (gNm i) t e vs z s=.ok (.lst acc) s'∧I w.xs.length acc s':=by
 obtain⟨acc,s',e1,h1⟩:=V9 (t:=t) (e:=e) (gd:=w.gd) (i:=i) (z:=Cv z vs) I w.xs 0 [] s1 hg (fun j x acc s hx hI=>by simp only[Nat.zero_add] at hI ⊢; exact he j x acc s hx hI) h0
 refine⟨acc,s',?_,by simpa using h1⟩
 unfold R9
 rw[hi]
 simp only[Aa,e1]
theorem Zz(ws:List W)(s:Sto):Aau (.lst ws) s=.ok (.tup ws) s:=rfl
theorem AaH{ws:List W}{k:Int}{v:W}(s:Sto)(h:atI ws k=some v):Bp (.lst ws) (.int k) s=.ok v s:=by simp only[Bp,h]
theorem Rf{ws:List W}{k:Int}{v:W}(s:Sto)(h:atI ws k=some v):Bp (.tup ws) (.int k) s=.ok v s:=by simp only[Bp,h]
end Fm
namespace Fm
open PySem L2
noncomputable def Qi:SM:=(Ho (R9 (AaI (eOp Bp (Af 0) (eC (.int 1)))) (gNm 1) Gh (Aj (l1 Uh) (Ac (Af 1) Ao)) [1]))
noncomputable def Mh:SM:=(sIf (tOf (eOp pEq (eOp Bp (Af 0) (eC (.int 0))) (eC (.str (Str.ofString "either"))))) Qi Fl)
noncomputable def Xx:SM:=(Ho (eIf (tOf (eOp pEq (eOp Bp (Af 0) (eC (.int 0))) (eC (.str (Str.ofString "loop"))))) (Ci (Ac (Aj (l1 Uh) (Ac (eOp Bp (Af 0) (eC (.int 1))) Ao)) Ao)) (Ci Ao)))
noncomputable def Xy:SM:=(Cz Mh Xx)
noncomputable def Ae6:List W→Sto→R W:=Ip 2 1 Xy
end Fm
namespace Fm
open PySem L2
noncomputable def Gk:SM:=(Ho (eC (.bl false)))
noncomputable def G3:SM:=(sIf (AcI (M8 (tOf (Aj (l2 Hg) (Ac (Af 0) (Ac (eC (.ty "str")) Ao))))) (M8 (tOf (J5 pLe pLe (eC (.int 1)) (Aj (l1 Zo) (Ac (Af 0) Ao)) (eC (.int 8)))))) Gk Fl)
noncomputable def Ux:SM:=(Ho (Aj (l1 AdF) (Ac (R9 (AaI (Af 0)) (gNm 1) Gh (eOp (AdE false) (Af 1) (eC (.str (Str.ofString "abcdefghijklmnopqrstuvwxyz")))) [1]) Ao)))
noncomputable def G4:SM:=(Cz G3 Ux)
noncomputable def Ku:List W→Sto→R W:=Ip 2 1 G4
noncomputable def Wj:SM:=(Ho (R9 (AaI (eOp Bp (Af 0) (eC (.int 1)))) (gNm 1) Gh (Aj (l1 Uh) (Ac (Af 1) Ao)) [1]))
noncomputable def Abb:SM:=(sIf (tOf (eOp pEq (eOp Bp (Af 0) (eC (.int 0))) (eC (.str (Str.ofString "either"))))) Wj Fl)
noncomputable def Aba:SM:=(Ho (eIf (tOf (eOp pEq (eOp Bp (Af 0) (eC (.int 0))) (eC (.str (Str.ofString "loop"))))) (Ci (Ac (Aj (l1 Uh) (Ac (eOp Bp (Af 0) (eC (.int 1))) Ao)) Ao)) (Ci Ao)))
noncomputable def Ad5:SM:=(Cz Abb Aba)
noncomputable def Wi:List W→Sto→R W:=Ip 2 1 Ad5
noncomputable def Hw(r_settled_body r_settled:List W→Sto→R W):SM:=(Ho (R9 (AaI (Af 0)) (gNm 1) Gh (Aj r_settled (Ac (Af 1) Ao)) [1]))
noncomputable def Gv(r_settled_body r_settled:List W→Sto→R W):SM:=(Hw r_settled_body r_settled)
noncomputable def Kl(r_settled_body r_settled:List W→Sto→R W):SM:=(Jm (eOp Bp (Af 0) (eC (.int 0))) (gNm 1))
noncomputable def Le(r_settled_body r_settled:List W→Sto→R W):SM:=(Ho (Abp (Ac (Af 1) (Ac (R9 (AaI (eOp Bp (Af 0) (eC (.int 1)))) (gNm 2) Gh (Aj r_settled_body (Ac (Af 2) Ao)) [2]) Ao))))
noncomputable def Du(r_settled_body r_settled:List W→Sto→R W):SM:=(sIf (tOf (eOp pEq (Af 1) (eC (.str (Str.ofString "either"))))) (Le r_settled_body r_settled) Fl)
noncomputable def Ld(r_settled_body r_settled:List W→Sto→R W):SM:=(Ho (Abp (Ac (Af 1) (Ac (Aj r_settled_body (Ac (eOp Bp (Af 0) (eC (.int 1))) Ao)) Ao))))
noncomputable def Ep(r_settled_body r_settled:List W→Sto→R W):SM:=(sIf (tOf (eOp pEq (Af 1) (eC (.str (Str.ofString "loop"))))) (Ld r_settled_body r_settled) Fl)
noncomputable def Hf(r_settled_body r_settled:List W→Sto→R W):SM:=(Ho (eIf (tOf (eOp pEq (Af 1) (eC (.str (Str.ofString "call"))))) (eOp Hq (eSl pSl (Af 0) oNo (oAt (eC (.int 3)))) (Abp (Ac (Aj (l1 Aau) (Ac (eOp Bp (Af 0) (eC (.int 3))) Ao)) Ao))) (Af 0)))
noncomputable def Q3(r_settled_body r_settled:List W→Sto→R W):SM:=(Cz (Kl r_settled_body r_settled) (Cz (Du r_settled_body r_settled) (Cz (Ep r_settled_body r_settled) (Hf r_settled_body r_settled))))
mutual
noncomputable def Av:Nat→List W→Sto→R W
 |0=>AdH
 |n+1=>Ip 2 1 (Gv (Av n) (Bh n))
noncomputable def Bh:Nat→List W→Sto→R W
 |0=>AdH
 |n+1=>Ip 3 1 (Q3 (Av n) (Bh n))
end
noncomputable def Xb:List W→Sto→R W:=Bh 24
end Fm
namespace Fm
open PySem L2
noncomputable def Vn:SM:=(Ho (AaV (eOp Abo (Af 0) (Af 1)) (eOp Abo (Aj (l1 Fw) (Ac (Af 0) Ao)) (Aj (l1 Fw) (Ac (Af 1) Ao)))))
noncomputable def Sy:SM:=Vn
noncomputable def Fb:List W→Sto→R W:=Ip 2 2 Sy
end Fm
namespace Fm
open PySem L2
end Fm
namespace Fm
open PySem L2
noncomputable def Ln:SM:=(Ho (AaV (Aj (l2 Hg) (Ac (Af 0) (Ac (eC (.ty "int")) Ao))) (Ad3 (Aj (l2 Hg) (Ac (Af 0) (Ac (eC (.ty "bool")) Ao))))))
noncomputable def Hh:SM:=Ln
noncomputable def Ea:List W→Sto→R W:=Ip 1 1 Hh
noncomputable def G5:SM:=(Ho (AaV (Aj (l2 Hg) (Ac (Af 0) (Ac (eC (.ty "str")) Ao))) (eOp (pIn false) (Af 0) (eC (.tup ([Str.ofString "exact", Str.ofString "spare"].map .str))))))
noncomputable def Es:SM:=G5
noncomputable def Gf:List W→Sto→R W:=Ip 1 1 Es
end Fm
set_option maxHeartbeats 4000000
namespace K10
open PySem L2 Fm
def errs:List String:=["Wrong", "Unknown", "NoCell", "BadRoom", "Unfit", "NoArray", "Broken", "NoPlace", "TooMany", "NoFunction", "Full", "Refused", "NoEntry", "Endless", "BadStatement", "Nothing", "Unlike", "NoDeed", "NoText", "NoCommand", "TailError"]
abbrev AeC:List (String×List (String×Bool)):=[("Wrong", [("Wrong", true),("Unknown", false),("NoCell", false),("BadRoom", false),("Unfit", false),("NoArray", false),("Broken", false),("NoPlace", false),("TooMany", false),("NoFunction", false),("Full", false),("Refused", false),("NoEntry", false),("Endless", false),("BadStatement", false),("Nothing", false),("Unlike", false),("NoDeed", false),("NoText", false),("NoCommand", false),("TailError", true)]),("Unknown", [("Wrong", false),("Unknown", true),("NoCell", false),("BadRoom", false),("Unfit", false),("NoArray", false),("Broken", false),("NoPlace", false),("TooMany", false),("NoFunction", false),("Full", false),("Refused", false),("NoEntry", false),("Endless", false),("BadStatement", false),("Nothing", false),("Unlike", false),("NoDeed", false),("NoText", false),("NoCommand", false),("TailError", true)]),("NoCell", [("Wrong", false),("Unknown", false),("NoCell", true),("BadRoom", false),("Unfit", false),("NoArray", false),("Broken", false),("NoPlace", false),("TooMany", false),("NoFunction", false),("Full", false),("Refused", false),("NoEntry", false),("Endless", false),("BadStatement", false),("Nothing", false),("Unlike", false),("NoDeed", false),("NoText", false),("NoCommand", false),("TailError", true)]),("BadRoom", [("Wrong", false),("Unknown", false),("NoCell", false),("BadRoom", true),("Unfit", false),("NoArray", false),("Broken", false),("NoPlace", false),("TooMany", false),("NoFunction", false),("Full", false),("Refused", false),("NoEntry", false),("Endless", false),("BadStatement", false),("Nothing", false),("Unlike", false),("NoDeed", false),("NoText", false),("NoCommand", false),("TailError", true)]),("Unfit", [("Wrong", false),("Unknown", false),("NoCell", false),("BadRoom", false),("Unfit", true),("NoArray", false),("Broken", false),("NoPlace", false),("TooMany", false),("NoFunction", false),("Full", false),("Refused", false),("NoEntry", false),("Endless", false),("BadStatement", false),("Nothing", false),("Unlike", false),("NoDeed", false),("NoText", false),("NoCommand", false),("TailError", true)]),("NoArray", [("Wrong", false),("Unknown", false),("NoCell", false),("BadRoom", false),("Unfit", false),("NoArray", true),("Broken", false),("NoPlace", false),("TooMany", false),("NoFunction", false),("Full", false),("Refused", false),("NoEntry", false),("Endless", false),("BadStatement", false),("Nothing", false),("Unlike", false),("NoDeed", false),("NoText", false),("NoCommand", false),("TailError", true)]),("Broken", [("Wrong", false),("Unknown", false),("NoCell", false),("BadRoom", false),("Unfit", false),("NoArray", false),("Broken", true),("NoPlace", false),("TooMany", false),("NoFunction", false),("Full", false),("Refused", false),("NoEntry", false),("Endless", false),("BadStatement", false),("Nothing", false),("Unlike", false),("NoDeed", false),("NoText", false),("NoCommand", false),("TailError", true)]),("NoPlace", [("Wrong", false),("Unknown", false),("NoCell", false),("BadRoom", false),("Unfit", false),("NoArray", false),("Broken", false),("NoPlace", true),("TooMany", false),("NoFunction", false),("Full", false),("Refused", false),("NoEntry", false),("Endless", false),("BadStatement", false),("Nothing", false),("Unlike", false),("NoDeed", false),("NoText", false),("NoCommand", false),("TailError", true)]),("TooMany", [("Wrong", false),("Unknown", false),("NoCell", false),("BadRoom", false),("Unfit", false),("NoArray", false),("Broken", false),("NoPlace", false),("TooMany", true),("NoFunction", false),("Full", false),("Refused", false),("NoEntry", false),("Endless", false),("BadStatement", false),("Nothing", false),("Unlike", false),("NoDeed", false),("NoText", false),("NoCommand", false),("TailError", true)]),("NoFunction", [("Wrong", false),("Unknown", false),("NoCell", false),("BadRoom", false),("Unfit", false),("NoArray", false),("Broken", false),("NoPlace", false),("TooMany", false),("NoFunction", true),("Full", false),("Refused", false),("NoEntry", false),("Endless", false),("BadStatement", false),("Nothing", false),("Unlike", false),("NoDeed", false),("NoText", false),("NoCommand", false),("TailError", true)]),("Full", [("Wrong", false),("Unknown", false),("NoCell", false),("BadRoom", false),("Unfit", false),("NoArray", false),("Broken", false),("NoPlace", false),("TooMany", false),("NoFunction", false),("Full", true),("Refused", false),("NoEntry", false),("Endless", false),("BadStatement", false),("Nothing", false),("Unlike", false),("NoDeed", false),("NoText", false),("NoCommand", false),("TailError", true)]),("Refused", [("Wrong", false),("Unknown", false),("NoCell", false),("BadRoom", false),("Unfit", false),("NoArray", false),("Broken", false),("NoPlace", false),("TooMany", false),("NoFunction", false),("Full", false),("Refused", true),("NoEntry", false),("Endless", false),("BadStatement", false),("Nothing", false),("Unlike", false),("NoDeed", false),("NoText", false),("NoCommand", false),("TailError", true)]),("NoEntry", [("Wrong", false),("Unknown", false),("NoCell", false),("BadRoom", false),("Unfit", false),("NoArray", false),("Broken", false),("NoPlace", false),("TooMany", false),("NoFunction", false),("Full", false),("Refused", false),("NoEntry", true),("Endless", false),("BadStatement", false),("Nothing", false),("Unlike", false),("NoDeed", false),("NoText", false),("NoCommand", false),("TailError", true)]),("Endless", [("Wrong", false),("Unknown", false),("NoCell", false),("BadRoom", false),("Unfit", false),("NoArray", false),("Broken", false),("NoPlace", false),("TooMany", false),("NoFunction", false),("Full", false),("Refused", false),("NoEntry", false),("Endless", true),("BadStatement", false),("Nothing", false),("Unlike", false),("NoDeed", false),("NoText", false),("NoCommand", false),("TailError", true)]),("BadStatement", [("Wrong", false),("Unknown", false),("NoCell", false),("BadRoom", false),("Unfit", false),("NoArray", false),("Broken", false),("NoPlace", false),("TooMany", false),("NoFunction", false),("Full", false),("Refused", false),("NoEntry", false),("Endless", false),("BadStatement", true),("Nothing", false),("Unlike", false),("NoDeed", false),("NoText", false),("NoCommand", false),("TailError", true)]),("Nothing", [("Wrong", false),("Unknown", false),("NoCell", false),("BadRoom", false),("Unfit", false),("NoArray", false),("Broken", false),("NoPlace", false),("TooMany", false),("NoFunction", false),("Full", false),("Refused", false),("NoEntry", false),("Endless", false),("BadStatement", false),("Nothing", true),("Unlike", false),("NoDeed", false),("NoText", false),("NoCommand", false),("TailError", true)]),("Unlike", [("Wrong", false),("Unknown", false),("NoCell", false),("BadRoom", false),("Unfit", false),("NoArray", false),("Broken", false),("NoPlace", false),("TooMany", false),("NoFunction", false),("Full", false),("Refused", false),("NoEntry", false),("Endless", false),("BadStatement", false),("Nothing", false),("Unlike", true),("NoDeed", false),("NoText", false),("NoCommand", false),("TailError", true)]),("NoDeed", [("Wrong", false),("Unknown", false),("NoCell", false),("BadRoom", false),("Unfit", false),("NoArray", false),("Broken", false),("NoPlace", false),("TooMany", false),("NoFunction", false),("Full", false),("Refused", false),("NoEntry", false),("Endless", false),("BadStatement", false),("Nothing", false),("Unlike", false),("NoDeed", true),("NoText", false),("NoCommand", false),("TailError", true)]),("NoText", [("Wrong", false),("Unknown", false),("NoCell", false),("BadRoom", false),("Unfit", false),("NoArray", false),("Broken", false),("NoPlace", false),("TooMany", false),("NoFunction", false),("Full", false),("Refused", false),("NoEntry", false),("Endless", false),("BadStatement", false),("Nothing", false),("Unlike", false),("NoDeed", false),("NoText", true),("NoCommand", false),("TailError", true)]),("NoCommand", [("Wrong", false),("Unknown", false),("NoCell", false),("BadRoom", false),("Unfit", false),("NoArray", false),("Broken", false),("NoPlace", false),("TooMany", false),("NoFunction", false),("Full", false),("Refused", false),("NoEntry", false),("Endless", false),("BadStatement", false),("Nothing", false),("Unlike", false),("NoDeed", false),("NoText", false),("NoCommand", true),("TailError", true)]),("TailError", [("Wrong", false),("Unknown", false),("NoCell", false),("BadRoom", false),("Unfit", false),("NoArray", false),("Broken", false),("NoPlace", false),("TooMany", false),("NoFunction", false),("Full", false),("Refused", false),("NoEntry", false),("Endless", false),("BadStatement", false),("Nothing", false),("Unlike", false),("NoDeed", false),("NoText", false),("NoCommand", false),("TailError", true)])]
def K6:String→String→Option Bool:=Fm.AdB AeC
abbrev AeB:List (String×List (String×Bool)):=[("Wrong", [("ValueError", true)]),("Unknown", [("ValueError", true)]),("NoCell", [("ValueError", true)]),("BadRoom", [("ValueError", true)]),("Unfit", [("ValueError", true)]),("NoArray", [("ValueError", true)]),("Broken", [("ValueError", true)]),("NoPlace", [("ValueError", true)]),("TooMany", [("ValueError", true)]),("NoFunction", [("ValueError", true)]),("Full", [("ValueError", true)]),("Refused", [("ValueError", true)]),("NoEntry", [("ValueError", true)]),("Endless", [("ValueError", true)]),("BadStatement", [("ValueError", true)]),("Nothing", [("ValueError", true)]),("Unlike", [("ValueError", true)]),("NoDeed", [("ValueError", true)]),("NoText", [("ValueError", true)]),("NoCommand", [("ValueError", true)]),("TailError", [("ValueError", true)])]
def Kz:String→String→Option Bool:=Fm.AdB AeB
noncomputable def El:SM:=(Ho (AaV (Aj Ea (Ac (Af 1) Ao)) (J5 pLe pLt (eC (.int 0)) (Af 1) (Af 0))))
noncomputable def Cm:SM:=El
noncomputable def Ew:List W→Sto→R W:=Ip 2 2 Cm
noncomputable def Oz:SM:=(Jm (Vo Ao) (gNm 1))
noncomputable def Wk:SM:=(Jm (Vo (Ac (Af 1) Ao)) (gNm 1))
noncomputable def Ka:SM:=(Abn (iRng1 (Ac (eC (.int 3)) Ao)) (gNm 2) Wk)
noncomputable def J9:SM:=(Jm (Ci (Ac (eC .non) (Ac (eC (.bl true)) (Ac (eC (.bl false)) (Ac (eC (.int 0)) (Ac (eC (.int 1)) (Ac (eUn AeW (eC (.int 1))) (Ac (eOp Acx (eC (.int 10)) (eC (.int 39))) (Ac (eC (.str (Str.ofString ""))) (Ac (eC (.str (Str.ofString "a"))) (Ac (eC (.str (Str.ofString "0"))) (Ac (Abp Ao) (Ac (Vo Ao) (Ac (eC (.dct [])) (Ac (Vo (Ac (eC (.int 0)) Ao)) (Ac (Abp (Ac (eC (.int 0)) Ao)) (Ac (Abp (Ac (eC (.str (Str.ofString "a"))) Ao)) (Ac (Yp [((eC (.str (Str.ofString "a"))),(eC (.int 0)))]) (Ac (Af 1) Ao))))))))))))))))))) (gNm 3))
noncomputable def Vg:SM:=(Ho (eOp Bp (Af 3) (Aj Cd (Ac (Af 0) (Ac (eC (.int 18)) Ao)))))
noncomputable def Su:SM:=(Cz Oz (Cz Ka (Cz J9 Vg)))
noncomputable def Gy:List W→Sto→R W:=Ip 4 1 Su
noncomputable def Di:SM:=(Ho (eC (.bl false)))
noncomputable def Dj:SM:=(sIf (AcI (M8 (tOf (Aj (l2 Hg) (Ac (Af 0) (Ac (eC (.ty "str")) Ao))))) (M8 (tOf (J5 pLt pLt (eC (.int 0)) (Aj (l1 Zo) (Ac (Af 0) Ao)) (eC (.int 9)))))) Di Fl)
noncomputable def Kc:SM:=(Ho (eOp pEq (R9 (AaI (Af 0)) (gNm 1) (tOf (eOp (AdE true) (Af 1) (eC (.str (Str.ofString "abcdefghijklmnopqrstuvwxyz"))))) (Af 1) [1]) (Ci Ao)))
noncomputable def Ck:SM:=(Cz Dj Kc)
noncomputable def Dz:List W→Sto→R W:=Ip 2 1 Ck
noncomputable def Vk:SM:=(Jm (Ci (Ac (Vb "Wrong" ["place"] (Ac (Af 0) Ao)) (Ac (Vb "Unknown" ["name"] (Ac (Af 0) Ao)) (Ac (Vb "NoCell" ["at"] (Ac (Af 0) Ao)) (Ac (Vb "BadRoom" ["size"] (Ac (Af 0) Ao)) (Ac (Vb "Unfit" ["at"] (Ac (Af 0) Ao)) (Ac (Vb "NoArray" ["index"] (Ac (Af 0) Ao)) (Ac (Vb "Broken" ["at"] (Ac (Af 0) Ao)) (Ac (Vb "NoPlace" ["place"] (Ac (Af 0) Ao)) (Ac (Vb "TooMany" ["limit"] (Ac (Af 0) Ao)) Ao)))))))))) (gNm 2))
noncomputable def Vj:SM:=(Jm (eOp Hq (Af 2) (Ci (Ac (Vb "NoFunction" ["name"] (Ac (Af 0) Ao)) (Ac (Vb "Full" ["limit"] (Ac (Af 0) Ao)) (Ac (Vb "Refused" ["deed"] (Ac (Af 0) Ao)) (Ac (Vb "NoEntry" ["many"] (Ac (Af 0) Ao)) (Ac (Vb "Endless" ["function"] (Ac (Af 0) Ao)) (Ac (Vb "BadStatement" ["function", "address"] (Ac (Af 0) (Ac (Af 1) Ao))) Ao)))))))) (gNm 2))
noncomputable def Vi:SM:=(Ho (eOp Hq (Af 2) (Ci (Ac (eC (.err "Nothing" [])) (Ac (eC (.err "Unlike" [])) (Ac (eC (.err "NoDeed" [])) (Ac (eC (.err "NoText" [])) (Ac (eC (.err "NoCommand" [])) Ao))))))))
noncomputable def Qt:SM:=(Cz Vk (Cz Vj Vi))
noncomputable def Ge:List W→Sto→R W:=Ip 3 2 Qt
noncomputable def Ws:SM:=(Jm (Ci (Ac (Aj (l2 (Kg errs K6 Kz)) (Ac (Af 0) (Ac (eC (.sta "Wrong")) Ao))) (Ac (Aj (l2 (Kg errs K6 Kz)) (Ac (Af 0) (Ac (eC (.sta "Unknown")) Ao))) (Ac (Aj (l2 (Kg errs K6 Kz)) (Ac (Af 0) (Ac (eC (.sta "NoCell")) Ao))) (Ac (Aj (l2 (Kg errs K6 Kz)) (Ac (Af 0) (Ac (eC (.sta "BadRoom")) Ao))) Ao))))) (gNm 1))
noncomputable def Wq:SM:=(Jm (eOp Hq (Af 1) (Ci (Ac (Aj (l2 (Kg errs K6 Kz)) (Ac (Af 0) (Ac (eC (.sta "Unfit")) Ao))) (Ac (Aj (l2 (Kg errs K6 Kz)) (Ac (Af 0) (Ac (eC (.sta "NoArray")) Ao))) (Ac (Aj (l2 (Kg errs K6 Kz)) (Ac (Af 0) (Ac (eC (.sta "Broken")) Ao))) (Ac (Aj (l2 (Kg errs K6 Kz)) (Ac (Af 0) (Ac (eC (.sta "NoPlace")) Ao))) Ao)))))) (gNm 1))
noncomputable def Wo:SM:=(Jm (eOp Hq (Af 1) (Ci (Ac (Aj (l2 (Kg errs K6 Kz)) (Ac (Af 0) (Ac (eC (.sta "TooMany")) Ao))) (Ac (Aj (l2 (Kg errs K6 Kz)) (Ac (Af 0) (Ac (eC (.sta "NoFunction")) Ao))) (Ac (Aj (l2 (Kg errs K6 Kz)) (Ac (Af 0) (Ac (eC (.sta "Full")) Ao))) (Ac (Aj (l2 (Kg errs K6 Kz)) (Ac (Af 0) (Ac (eC (.sta "Refused")) Ao))) Ao)))))) (gNm 1))
noncomputable def Wn:SM:=(Jm (eOp Hq (Af 1) (Ci (Ac (Aj (l2 (Kg errs K6 Kz)) (Ac (Af 0) (Ac (eC (.sta "NoEntry")) Ao))) (Ac (Aj (l2 (Kg errs K6 Kz)) (Ac (Af 0) (Ac (eC (.sta "Endless")) Ao))) (Ac (Aj (l2 (Kg errs K6 Kz)) (Ac (Af 0) (Ac (eC (.sta "BadStatement")) Ao))) Ao))))) (gNm 1))
noncomputable def Wm:SM:=(Jm (eOp Hq (Af 1) (Ci (Ac (Aj (l2 (Kg errs K6 Kz)) (Ac (Af 0) (Ac (eC (.sta "Nothing")) Ao))) (Ac (Aj (l2 (Kg errs K6 Kz)) (Ac (Af 0) (Ac (eC (.sta "Unlike")) Ao))) (Ac (Aj (l2 (Kg errs K6 Kz)) (Ac (Af 0) (Ac (eC (.sta "NoDeed")) Ao))) (Ac (Aj (l2 (Kg errs K6 Kz)) (Ac (Af 0) (Ac (eC (.sta "NoText")) Ao))) Ao)))))) (gNm 1))
noncomputable def Wl:SM:=(Ho (eOp Hq (Af 1) (Ci (Ac (Aj (l2 (Kg errs K6 Kz)) (Ac (Af 0) (Ac (eC (.sta "NoCommand")) Ao))) Ao))))
noncomputable def Vh:SM:=(Cz Ws (Cz Wq (Cz Wo (Cz Wn (Cz Wm Wl)))))
noncomputable def Gz:List W→Sto→R W:=Ip 2 1 Vh
noncomputable def Fg:SM:=(Jm (Aj Ge (Ac (Af 0) (Ac (Af 1) Ao))) (gNm 2))
noncomputable def Gp:SM:=(Ho (eC (.bl false)))
noncomputable def Ek:SM:=(sIf (AcI (tOf (eOp pNe (Aj Gz (Ac (eOp Bp (Af 2) (Af 3)) Ao)) (R9 (iRng1 (Ac (eC (.int 20)) Ao)) (gNm 5) Gh (eOp pEq (Af 5) (Af 3)) [5]))) (M8 (tOf (Aj (l2 (Kg errs K6 Kz)) (Ac (eOp Bp (Af 2) (Af 3)) (Ac (eC (.sta "TailError")) Ao)))))) Gp Fl)
noncomputable def Gn:SM:=(Ho (eC (.bl false)))
noncomputable def Ei:SM:=(sIf (M8 (tOf (Aj (l2 (Kg errs K6 Kz)) (Ac (eOp Bp (Af 2) (Af 3)) (Ac (eC (.ty "ValueError")) Ao))))) Gn Fl)
noncomputable def Dd:SM:=(Cz Ek Ei)
noncomputable def Dr:SM:=(Abn (iRng1 (Ac (eC (.int 20)) Ao)) (gNm 3) Dd)
noncomputable def Dq:SM:=(Jm (Vo (Ac (eUn (Dy errs "place") (eOp Bp (Af 2) (eC (.int 0)))) (Ac (eUn (Dy errs "name") (eOp Bp (Af 2) (eC (.int 1)))) (Ac (eUn (Dy errs "at") (eOp Bp (Af 2) (eC (.int 2)))) (Ac (eUn (Dy errs "size") (eOp Bp (Af 2) (eC (.int 3)))) (Ac (eUn (Dy errs "at") (eOp Bp (Af 2) (eC (.int 4)))) (Ac (eUn (Dy errs "index") (eOp Bp (Af 2) (eC (.int 5)))) (Ac (eUn (Dy errs "at") (eOp Bp (Af 2) (eC (.int 6)))) Ao)))))))) (gNm 4))
noncomputable def Ca:SM:=(Jm (eOp Hq (Af 4) (Vo (Ac (eUn (Dy errs "place") (eOp Bp (Af 2) (eC (.int 7)))) (Ac (eUn (Dy errs "limit") (eOp Bp (Af 2) (eC (.int 8)))) (Ac (eUn (Dy errs "name") (eOp Bp (Af 2) (eC (.int 9)))) (Ac (eUn (Dy errs "limit") (eOp Bp (Af 2) (eC (.int 10)))) (Ac (eUn (Dy errs "deed") (eOp Bp (Af 2) (eC (.int 11)))) (Ac (eUn (Dy errs "many") (eOp Bp (Af 2) (eC (.int 12)))) Ao)))))))) (gNm 4))
noncomputable def Do:SM:=(Vz (eBM Kv (Zq 1 Ey) (Af 4) (Ac (eUn (Dy errs "function") (eOp Bp (Af 2) (eC (.int 13)))) Ao)))
noncomputable def Dm:SM:=(Jm (eOp Hq (Af 4) (Vo (Ac (eUn (Dy errs "function") (eOp Bp (Af 2) (eC (.int 14)))) (Ac (eUn (Dy errs "address") (eOp Bp (Af 2) (eC (.int 14)))) Ao)))) (gNm 4))
noncomputable def Hu:SM:=(Vz (eBM Kv (Zq 1 Ey) (Af 0) (Ac (eC (.str (Str.ofString "more"))) Ao)))
noncomputable def Ke:SM:=(sIf (tOf (Aj (l2 Hg) (Ac (Af 0) (Ac (eC (.ty "list")) Ao)))) Hu Fl)
noncomputable def Ht:SM:=(Vz (eBM Kv (Zq 1 Ey) (Af 1) (Ac (eC (.str (Str.ofString "more"))) Ao)))
noncomputable def Kd:SM:=(sIf (tOf (Aj (l2 Hg) (Ac (Af 1) (Ac (eC (.ty "list")) Ao)))) Ht Fl)
noncomputable def Dk:SM:=(Ho (AaV (Aj Fb (Ac (Af 4) (Ac (eOp Hq (eOp AbG (Ci (Ac (Af 0) Ao)) (eC (.int 14))) (Ci (Ac (Af 0) (Ac (Af 1) Ao)))) Ao))) (Ad3 (Aj (l2 (Kg errs K6 Kz)) (Ac (eC (.err "TailError" [])) (Ac (eC (.sta "Wrong")) Ao))))))
noncomputable def Bw:SM:=(Cz Fg (Cz Dr (Cz Dq (Cz Ca (Cz Do (Cz Dm (Cz Ke (Cz Kd Dk))))))))
noncomputable def Bm:List W→Sto→R W:=Ip 6 2 Bw
noncomputable def Ox:SM:=(Jm (eC (.str (Str.ofString "abcdefghijklmnopqrstuvwxyzA_1 "))) (gNm 1))
noncomputable def Iz:SM:=(Jm (eM1 Aaw (eC (.str (Str.ofString ""))) (R9 (iRng1 (Ac (Aj Cd (Ac (Af 0) (Ac (eC (.int 10)) Ao))) Ao)) (gNm 4) Gh (eOp V4 (Af 1) (Aj Cd (Ac (Af 0) (Ac (eOp Bp (Ci (Ac (eC (.int 26)) (Ac (eC (.int 26)) (Ac (eC (.int 30)) Ao)))) (Aj Cd (Ac (Af 0) (Ac (eC (.int 3)) Ao)))) Ao)))) [4])) (gNm 2))
noncomputable def Iw:SM:=(Jm (Ci (Ac (eC (.str (Str.ofString "exact"))) (Ac (eC (.str (Str.ofString "spare"))) (Ac (eC (.str (Str.ofString "exac"))) (Ac (eC (.str (Str.ofString "spares"))) (Ac (eC (.str (Str.ofString ""))) (Ac (Af 2) (Ac (eSl AeV (Af 2) oNo (oAt (eC (.int 8)))) (Ac (Aj Gy (Ac (Af 0) Ao)) (Ac (Aj Cd (Ac (Af 0) (Ac (eC (.int 9)) Ao))) (Ac (eUn AeW (eC (.int 1))) (Ac (eC (.bl true)) Ao)))))))))))) (gNm 3))
noncomputable def Ow:SM:=(Ho (eOp Bp (eOp Hq (Af 3) (Ci (Ac (Ci (Ac (eC (.str (Str.ofString "spare"))) Ao)) Ao))) (Aj Cd (Ac (Af 0) (Ac (eC (.int 12)) Ao)))))
noncomputable def J8:SM:=(Cz Ox (Cz Iz (Cz Iw Ow)))
noncomputable def Fy:List W→Sto→R W:=Ip 5 1 J8
noncomputable def Abg:SM:=(Jm (Aj AeN (Ac (Af 0) Ao)) (gNm 1))
noncomputable def Wt:SM:=(Ho (eC (.bl false)))
noncomputable def Kf:SM:=(sIf (AcI (M8 (tOf (Aj Bm (Ac (Vo (Ac (Aj Cd (Ac (Af 1) (Ac (eC (.int 9)) Ao))) Ao)) (Ac (Aj Gy (Ac (Af 1) Ao)) Ao))))) (M8 (tOf (Aj Bm (Ac (Aj Gy (Ac (Af 1) Ao)) (Ac (Vo (Ac (eC (.int 0)) (Ac (eC (.int 1)) Ao))) Ao)))))) Wt Fl)
noncomputable def Abf:SM:=(Abn (iRng1 (Ac (eC (.int 3)) Ao)) (gNm 2) Kf)
noncomputable def O8:SM:=(AdC 5 6 (Ac (Aj Fy (Ac (Af 1) Ao)) (Ac (eOp Bp (Ci (Ac (Aj Cd (Ac (Af 1) (Ac (eC (.int 9)) Ao))) (Ac (eOp Acx (eC (.int 10)) (eC (.int 39))) Ao))) (Aj (l1 Yz) (Ac (eOp pEq (Aj Cd (Ac (Af 1) (Ac (eC (.int 9)) Ao))) (eC (.int 0))) Ao))) Ao)))
noncomputable def O7:SM:=(Jm (AaV (Aj (l2 Hg) (Ac (Af 5) (Ac (eC (.ty "int")) Ao))) (Ad3 (Aj (l2 Hg) (Ac (Af 5) (Ac (eC (.ty "bool")) Ao))))) (gNm 3))
noncomputable def O5:SM:=(AdC 7 8 (Ac (Ci (Ac (Af 3) (Ac (Aj Dz (Ac (Af 5) Ao)) (Ac (AaV (Af 3) (J5 pLe pLt (eC (.int 0)) (Af 5) (Af 6))) (Ac (eOp Ui (Af 5) (Abp (Ac (eC (.str (Str.ofString "exact"))) (Ac (eC (.str (Str.ofString "spare"))) Ao)))) Ao))))) (Ac (Aj (l1 Fw) (Ac (Af 5) Ao)) Ao)))
noncomputable def Jc:SM:=(Jm (Ci (Ac (Aj Ea (Ac (Af 5) Ao)) (Ac (Aj Ku (Ac (Af 5) Ao)) (Ac (Aj Ew (Ac (Af 6) (Ac (Af 5) Ao))) (Ac (Aj Gf (Ac (Af 5) Ao)) Ao))))) (gNm 9))
noncomputable def Sv:SM:=(Ho (eC (.bl false)))
noncomputable def Ja:SM:=(sIf (AcI (M8 (tOf (Aj Fb (Ac (Af 9) (Ac (Af 7) Ao))))) (tOf (eOp pNe (Aj (l1 Fw) (Ac (Af 5) Ao)) (Af 8)))) Sv Fl)
noncomputable def K8:SM:=(Cz Jc Ja)
noncomputable def Vl:SM:=(Abn (iRng1 (Ac (eC (.int 2)) Ao)) (gNm 4) K8)
noncomputable def Sw:SM:=(Cz O8 (Cz O7 (Cz O5 Vl)))
noncomputable def Abe:SM:=(Abn (iRng1 (Ac (eC (.int 25)) Ao)) (gNm 2) Sw)
noncomputable def Abd:SM:=(Ho (eC (.bl true)))
noncomputable def Abh:SM:=(Cz Abg (Cz Abf (Cz Abe Abd)))
noncomputable def Zd:List W→Sto→R W:=Ip 10 1 Abh
end K10
namespace Fm
open PySem L2
abbrev Ord:=List (List Str)
def lS(l:List Str):W:=.lst (l.map .str)
def sLe:Str→Str→Bool:=PySem.W.dataLe false (fun x:Str=>PyData.str x)
def Ec(l:List Str):List Str:=l.mergeSort sLe
theorem AcK(a b:Str)(h:PySem.W.keyToks (PyData.str a)=PySem.W.keyToks (PyData.str b)):a=b:=by
 simp[PySem.W.keyToks] at h
 cases a;cases b;simp at h;rw[h]
theorem Ab9{a b:Str}(h1:sLe a b=true)(h2:sLe b a=true):a=b:=AcK a b (Wh (fun x:Str=>PyData.str x) h1 h2)
theorem Eo(l:List Str):(Ec l).Perm l:=List.mergeSort_perm ..
theorem Fe(l:List Str):(Ec l).Pairwise (fun a b=>sLe a b=true):=Vc (fun x:Str=>PyData.str x) l
theorem Aae(l:List Str):(Ec l).length=l.length:=(Eo l).length_eq
theorem Nz{x:Str}{l:List Str}:x∈Ec l↔x∈l:=(Eo l).mem_iff
theorem Ls{l m:List Str}(h:l.Perm m)(hs:l.Pairwise (fun a b=>sLe a b=true)):Ec m=l :=
 Tw (fun a b=>Ab9) ((Eo m).trans h.symm) (Fe m) hs
theorem Gi{l m:List Str}(h:l.Perm m):Ec l=Ec m:=Ls ((Eo m).trans h.symm) (Fe m)
theorem Pn(l:List Str):Ec (Ec l)=Ec l:=Ls (List.Perm.refl _) (Fe l)
theorem La{l:List Str}(h:Ec l=l)(p:Str→Bool):Ec (l.filter p)=l.filter p :=
 Ls (List.Perm.refl _) ((h▸Fe l).filter p)
theorem Vy{l:List Str}(h:l.Nodup):(Ec l).Nodup:=(Eo l).nodup_iff.mpr h
def AcF:List Str→List Str
 | []=>[]
 |k::r=>if k∈r then AcF r else k::AcF r
theorem Uk(l:List Str):V5 (l.map Sum.inr)=true:=by
 unfold V5
 rw[Bool.or_eq_true]
 right
 simp[List.all_map,Function.comp_def]
theorem Aeb(s:Sto)(n:Nat)(x:Str):rd s n (.str x)=some (.str x):=by cases n<;>rfl
theorem AbC(s:Sto)(n:Nat)(l:List Str):(l.map W.str).mapM (rd s n)=some (l.map PyData.str):=by
 rw[Ur (rd s n) (fun w=>match w with|.str x=>.str x|_=>.none) _ fun x hx=>by
  obtain⟨k,_,rfl⟩:=List.mem_map.mp hx
  exact Aeb s n k]
 simp[Function.comp_def]
theorem AbQ(x:Str)(l:List Str):inW (.str x) (l.map .str)=some (decide (x∈l)):=by
 have h1:((l.map W.str).all fun w=>match w with|.str _=>true|_=>false)=true:=by simp[List.all_map,Function.comp_def]
 have h2:((l.map W.str).any fun w=>match w with|.str j=>decide (j=x)|_=>false)=decide (x∈l):=by
  rw[List.any_map]
  induction l with
  |nil=>rfl
  |cons y l ih =>
   simp only[List.any_cons,Function.comp_def] at ih ⊢
   rw[ih (by simpa using h1)]
   by_cases e:y=x
   ·simp[e]
   ·have e':¬x=y:=fun z=>e z.symm
    simp[e,e']
 show(if ((l.map W.str).all fun w=>match w with|.str _=>true|_=>false)=true then some ((l.map W.str).any fun w=>match w with|.str j=>decide (j=x)|_=>false) else none) = _
 rw[if_pos h1,h2]
theorem AbI{w:W}{s:Sto}{l:List Str}(x:Str)(neg:Bool)(h:Ac0 w s=some (l.map .str)):pIn neg (.str x) w s=.ok (.bl (decide (x∈l) != neg)) s:=by
 unfold pIn
 rw[h]
 dsimp only
 rw[AbQ]
 dsimp only
 cases neg<;>simp
def lv(o:Ord)(x:Str):Option Nat:=o.findIdx? fun l=>decide (x∈l)
structure Good(o:Ord):Prop where
 ne:∀l∈o,l≠[]
 srt:∀l∈o,Ec l=l
 nd:o.flatten.Nodup
def Hk(o:Ord)(p:Str→Bool):Ord:=(o.map fun l=>l.filter p).filter fun l=>!l.isEmpty
theorem Ir(o:Ord)(p:Str→Bool):(Hk o p).flatten=o.flatten.filter p:=by
 unfold Hk
 induction o with
 |nil=>rfl
 |cons l o ih =>
  rw[List.map_cons,List.flatten_cons,List.filter_append,←ih,List.filter_cons]
  by_cases h:(l.filter p).isEmpty=true
  ·rw[if_neg (by simp[h]),List.isEmpty_iff.mp h,List.nil_append]
  ·rw[if_pos (by simp[h]),List.flatten_cons]
theorem X5{o:Ord}(g:Good o)(p:Str→Bool):Good (Hk o p) where
 ne:=fun l hl=>by
  have:=(List.mem_filter.mp hl).2
  intro e;subst e;simp at this
 srt:=fun l hl=>by
  obtain⟨m,hm,rfl⟩:=List.mem_map.mp (List.mem_filter.mp hl).1
  exact La (g.srt m hm) p
 nd:=by rw[Ir];exact g.nd.filter p
end Fm
namespace Fm
open PySem L2
end Fm
set_option maxHeartbeats 1000000
namespace Fm
open PySem L2
structure LevAt(s:Sto)(lo D:Nat)(ls:Ord):Prop where
 ex:∃pl:List (Nat×List Str),s.get D=some (.lst (pl.map fun q=>.ref q.1))∧ls=pl.map (·.2)∧(∀q∈pl,s.get q.1=some (.lst (q.2.map .str)))∧(D::pl.map (·.1)).Nodup∧∀i∈D::pl.map (·.1),lo≤i
theorem LevAt.keep{s t:Sto}{lo D:Nat}{ls:Ord}{ex:List Nat}(x:LevAt s lo D ls)(wf:s.wf)(k:Keeps s t ex)(h:∀i∈ex,i<lo):LevAt t lo D ls:=by
 obtain⟨pl,h1,h2,h3,h4,h5⟩:=x.ex
 have ne:∀i∈D::pl.map (·.1),i∉ex:=fun i hi hx=>by have:=h5 i hi;have:=h i hx;omega
 exact⟨pl,AbT h1 wf k (ne _ (by simp)),h2,fun q hq=>AbT (h3 q hq) wf k (ne _ (by simp only[List.mem_cons];exact .inr (List.mem_map.mpr ⟨q,hq,rfl⟩))),h4,h5⟩
end Fm
set_option maxHeartbeats 1000000
namespace Fm
open PySem L2
def okS(x:Str):Prop:=PyData.strOk x=true∧x.cps.size≤10
def Lp(l:List Str):Prop:=∀x∈l,okS x
theorem Lp.perm{l m:List Str}(h:Lp m)(p:l.Perm m):Lp l:=fun x hx=>h x (p.mem_iff.mp hx)
theorem Lp.filter{l:List Str}(h:Lp l)(p:Str→Bool):Lp (l.filter p):=fun x hx=>h x (List.mem_filter.mp hx).1
theorem Qv{x:Str}(h:okS x):Tame 0 10 (.str x):=by
 refine⟨h.1,?_,rfl,rfl,by simp[PyData.depth],h.2⟩
 have h1:=h.1
 unfold PyData.strOk at h1
 simp only[PyData.leavesShort,List.all_eq_true,decide_eq_true_eq]
 intro c hc
 have:=Array.all_eq_true_iff_forall_mem.mp h1 c (Array.mem_toList_iff.mp hc)
 simp at this
 omega
theorem Yt{l:List Str}(h:Lp l):TameAll 0 (11*l.length) (l.map .str):=Tj fun x hx=>Qv (h x hx)
theorem Nb{l:List Str}(h:Lp l):SeqAt.shaped (.list (l.map .str))=true:=(Yt h).list.shaped (by decide)
end Fm
set_option maxHeartbeats 1000000
namespace Fm
open PySem L2
def rk:Nat→Ord→List (Str×Nat)
 |_,[]=>[]
 |i,l::o=>l.map (fun x=>(x,i))++rk (i+1) o
end Fm
set_option maxHeartbeats 1000000
namespace Fm
open PySem L2
section
variable {α:Type} {it:IM} {t:TM} {e:EM} {i:Nat} {vs:List Nat} {z:Env0} {s s1:Sto} {gd:Sto→Bool}
theorem Gm{as:List α}{k:Nat}{a:α}(p:α→Bool)(h:as[k]? = some a):(as.take (k+1)).filter p=(as.take k).filter p++(if p a=true then[a] else[]):=by
 rw[List.take_add_one,h,List.filter_append]
 cases h2:p a<;>simp[h2]
theorem Xr(as:List α)(inj:α→W)(p:α→Bool)(f:α→W)(hi:it z s=.ok ⟨as.map inj,gd⟩ s1)(hz:as.length≤4000)(hg:gd s1=true)
  (ht:∀a∈as,t ((Cv z vs).set i (some (inj a))) s1=.ok (p a) s1)
  (he:∀a∈as,p a=true→e ((Cv z vs).set i (some (inj a))) s1=.ok (f a) s1) :
  R9 it (gNm i) t e vs z s=.ok (.lst ((as.filter p).map f)) s1:=by
 obtain⟨acc,s',e1,rfl,ha,hl⟩:=V8 (t:=t) (e:=e) (i:=i) (vs:=vs) (z:=z) (fun k acc u=>u=s1∧acc=((as.take k).filter p).map f∧acc.length≤k) hi (fun k acc u h=>by rw[h.1];exact hg) ⟨rfl,by simp,by simp⟩ (fun k x acc u hx hI=>by
  obtain⟨rfl,ha,hl⟩:=hI
  rw[List.getElem?_map] at hx
  cases hq:as[k]? with
  |none=>rw[hq] at hx;cases hx
  |some a =>
   rw[hq] at hx;cases hx
   have hm:=List.mem_of_getElem? hq
   have hj:k<as.length:=(List.getElem?_eq_some_iff.mp hq).1
   refine⟨p a,u,ht a hm,fun q=>⟨rfl,?_,by omega⟩,fun q=>⟨f a,u,he a hm q,G9 (by omega),rfl,?_,by simp;omega⟩⟩
   ·rw[Gm p hq,ha];simp[q]
   ·rw[Gm p hq,ha];simp[q])
 rw[e1,ha];simp
theorem Aa6(as:List α)(inj:α→W)(f:α→W)(hi:it z s=.ok ⟨as.map inj,gd⟩ s1)(hz:as.length≤4000)(hg:gd s1=true)
  (he:∀a∈as,e ((Cv z vs).set i (some (inj a))) s1=.ok (f a) s1):R9 it (gNm i) Gh e vs z s=.ok (.lst (as.map f)) s1:=by
 rw[Xr as inj (fun _=>true) f hi hz hg (fun _ _=>rfl) (fun a ha _=>he a ha),List.filter_eq_self.mpr (fun _ _=>rfl)]
end
theorem Aec(s:Sto)(n:Nat)(l:List Str):rd s (n+1) (lS l)=some (.list (l.map .str)):=Aan (AbC s n l)
theorem TameAll.tuple{k m:Nat}{ds:List PyData}(a:TameAll k m ds):Tame (k+1) m (.tuple ds) :=
 ⟨a.lay,a.leaf,a.shw,a.nod,by have:=a.dep;simp only[PyData.depth];omega,by have:=a.wt;simpa only[PyData.weight] using this⟩
end Fm
set_option maxHeartbeats 1000000
namespace Fm
open PySem L2
theorem Xn{x:Str}(h:(x.cps.toList.all fun c=>decide (c<0x110000))=true)(h2:x.cps.toList.length≤10):okS x:=by
 refine⟨?_,by simpa using h2⟩
 unfold PyData.strOk
 rw[Array.all_eq_true_iff_forall_mem]
 intro c hc
 have:=List.all_eq_true.mp h c (Array.mem_toList_iff.mpr hc)
 simpa using this
end Fm
set_option maxHeartbeats 1000000
namespace Fm
open PySem L2
def RdT(r k m:Nat)(w:W):Prop:=∃d,(∀s n,rd s (n+r) w=some d)∧Tame k m d
theorem RdT.mono{r k m r' k' m':Nat}{w:W}(h:RdT r k m w)(h1:r≤r')(h2:k≤k')(h3:m≤m'):RdT r' k' m' w:=by
 obtain⟨d,e,t⟩:=h
 exact⟨d,fun s n=>by rw[show n+r'=(n+(r' - r))+r by omega];exact e s _,t.mono h2 h3⟩
theorem Aao{r k m:Nat}:∀{ws:List W},(∀w∈ws,RdT r k m w)→∃ds,(∀s n,ws.mapM (rd s (n+r))=some ds)∧ds.length=ws.length∧∀d∈ds,Tame k m d
 | [],_=>⟨[],fun _ _=>rfl,rfl,by simp⟩
 |w::ws,h=>by
  obtain⟨d,e,t⟩:=h w (by simp)
  obtain⟨ds,e2,hl,t2⟩:=Aao (ws:=ws) fun x hx=>h x (by simp[hx])
  refine⟨d::ds,fun s n=>by rw[List.mapM_cons,e,e2];rfl,by simp[hl],fun x hx=>?_⟩
  rcases List.mem_cons.mp hx with rfl|hx
  ·exact t
  ·exact t2 x hx
theorem AcU{r k m:Nat}{ws:List W}(h:∀w∈ws,RdT r k m w):RdT (r+1) (k+1) ((m+1)*ws.length) (.lst ws):=by
 obtain⟨ds,e,hl,t⟩:=Aao h
 exact⟨.list ds,fun s n=>Aan (e s n),by rw[←hl];exact Z6 t⟩
theorem Aef(b:Bool):RdT 0 0 200 (.bl b):=⟨.bool b,fun s n=>by cases n<;>rfl,(Th b).mono (Nat.le_refl _) (by omega)⟩
end Fm
set_option maxHeartbeats 1000000
namespace Fm
open PySem L2
theorem Bv(l:List Str)(o:Ord)(p:Str→Bool):Hk (l::o) p=if (l.filter p).isEmpty=true then Hk o p else l.filter p::Hk o p:=by
 unfold Hk
 rw[List.map_cons,List.filter_cons]
 by_cases h:(l.filter p).isEmpty=true
 ·rw[if_pos h,if_neg (by simp[h])]
 ·rw[if_neg h,if_pos (by simp[h])]
theorem Kw{o:Ord}{p q:Str→Bool}(h:∀y∈o.flatten,p y=q y):Hk o p=Hk o q:=by
 induction o with
 |nil=>rfl
 |cons l o ih =>
  have h1:l.filter p=l.filter q:=List.filter_congr fun y hy=>h y (by rw[List.flatten_cons];exact List.mem_append_left _ hy)
  have h2:=ih fun y hy=>h y (by rw[List.flatten_cons];exact List.mem_append_right _ hy)
  rw[Bv,Bv,h1,h2]
theorem Oe(o:Ord)(p q:Str→Bool):Hk (Hk o p) q=Hk o fun y=>p y&&q y:=by
 induction o with
 |nil=>rfl
 |cons l o ih =>
  have hf:(l.filter p).filter q=l.filter fun y=>p y&&q y:=by
   rw[List.filter_filter]
   exact List.filter_congr fun y _=>Bool.and_comm _ _
  rw[Bv,Bv l o (fun y=>p y&&q y)]
  by_cases h:(l.filter p).isEmpty=true
  ·rw[if_pos h,ih]
   have:(l.filter fun y=>p y&&q y).isEmpty=true:=by
    rw[←hf,List.isEmpty_iff.mp h];rfl
   rw[if_pos this]
  ·rw[if_neg h,Bv,hf,ih]
theorem Ro{o:Ord}(g:Good o){p:Str→Bool}(h:∀y∈o.flatten,p y=true):Hk o p=o:=by
 induction o with
 |nil=>rfl
 |cons l o ih =>
  have h1:l.filter p=l:=List.filter_eq_self.mpr fun y hy=>h y (by rw[List.flatten_cons];exact List.mem_append_left _ hy)
  have hne:l≠[]:=g.ne l (by simp)
  have g2:Good o:=⟨fun m hm=>g.ne m (by simp[hm]),fun m hm=>g.srt m (by simp[hm]),by have:=g.nd;rw[List.flatten_cons] at this;exact(List.nodup_append.mp this).2.1⟩
  rw[Bv,h1,if_neg (by simp[hne]),ih g2 fun y hy=>h y (by rw[List.flatten_cons];exact List.mem_append_right _ hy)]
theorem Uz{l:List Str}{o:Ord}(g:Good (l::o)):Good o:=⟨fun m hm=>g.ne m (by simp[hm]),fun m hm=>g.srt m (by simp[hm]),by have:=g.nd;rw[List.flatten_cons] at this;exact(List.nodup_append.mp this).2.1⟩
def Cq(x:Str)(y:Str):Bool:=!decide (y=x)
def AaB:Ord→Str→List Ord
 | [],x=>[[[x]]]
 |l::P,x=>([x]::l::P)::(Ec (l++[x])::P)::(AaB P x).map (l :: ·)
theorem Ju{l:List Str}{x:Str}(h:x∉l):l.filter (Cq x)=l:=List.filter_eq_self.mpr fun y hy=>by
 have:y≠x:=fun e=>h (e▸hy)
 simp[Cq,this]
theorem Tz(x:Str):Ec [x]=[x]:=Ls (List.Perm.refl _) (by simp)
theorem Rb:∀{P:Ord} {x:Str},Good P→x∉P.flatten→∀R,R∈AaB P x→Good R∧x∈R.flatten∧Hk R (Cq x)=P
 | [],x,_,_,R,h=>by
  rw[List.mem_singleton.mp h]
  refine⟨⟨by simp,by intro l hl;rw[List.mem_singleton.mp hl];exact Tz x,by simp⟩,by simp,?_⟩
  rw[Bv]
  have:[x].filter (Cq x)=[]:=by simp[Cq]
  rw[this];rfl
 |l::P,x,g,hx,R,h=>by
  have hl:x∉l:=fun h=>hx (by rw[List.flatten_cons];exact List.mem_append_left _ h)
  have hP:x∉P.flatten:=fun h=>hx (by rw[List.flatten_cons];exact List.mem_append_right _ h)
  have gt:=Uz g
  have hne:l≠[]:=g.ne l (by simp)
  have all:Hk (l::P) (Cq x)=l::P:=Ro g fun y hy=>by
   have:y≠x:=fun e=>hx (e▸hy)
   simp[Cq,this]
  have Agb:Hk P (Cq x)=P:=Ro gt fun y hy=>by
   have:y≠x:=fun e=>hP (e▸hy)
   simp[Cq,this]
  have nd:=g.nd
  rw[List.flatten_cons] at nd
  obtain⟨n1,n2,n3⟩:=List.nodup_append.mp nd
  rcases List.mem_cons.mp h with rfl|h
  ·refine⟨⟨?_,?_,?_⟩,by simp,?_⟩
   ·intro m hm
    rcases List.mem_cons.mp hm with rfl|hm
    ·simp
    ·exact g.ne m hm
   ·intro m hm
    rcases List.mem_cons.mp hm with rfl|hm
    ·exact Tz x
    ·exact g.srt m hm
   ·rw[List.flatten_cons,List.singleton_append,List.nodup_cons]
    exact⟨hx,g.nd⟩
   ·rw[Bv]
    have:[x].filter (Cq x)=[]:=by simp[Cq]
    rw[this,all];rfl
  rcases List.mem_cons.mp h with rfl|h
  ·have pm:=Eo (l++[x])
   have nl:(l++[x]).Nodup:=by
    rw[List.nodup_append]
    exact⟨n1,by simp,fun a ha b hb e=>by rw[List.mem_singleton.mp hb] at e;exact hl (e▸ha)⟩
   refine⟨⟨?_,?_,?_⟩,?_,?_⟩
   ·intro m hm
    rcases List.mem_cons.mp hm with rfl|hm
    ·intro e
     have:=Aae (l++[x])
     rw[e] at this;simp at this
    ·exact gt.ne m hm
   ·intro m hm
    rcases List.mem_cons.mp hm with rfl|hm
    ·exact Pn _
    ·exact gt.srt m hm
   ·rw[List.flatten_cons,List.nodup_append]
    refine⟨Vy nl,n2,fun a ha b hb e=>?_⟩
    rcases List.mem_append.mp (Nz.mp ha) with h1|h1
    ·exact n3 a h1 b hb e
    ·rw[List.mem_singleton.mp h1] at e;exact hP (e▸hb)
   ·rw[List.flatten_cons]
    exact List.mem_append_left _ (Nz.mpr (by simp))
   ·have hf:(Ec (l++[x])).filter (Cq x)=l:=by
     have h1:=La (Pn (l++[x])) (Cq x)
     rw[←h1]
     have h2:((Ec (l++[x])).filter (Cq x)).Perm l:=by
      have:=pm.filter (Cq x)
      rw[List.filter_append,Ju hl] at this
      have e:[x].filter (Cq x)=[]:=by simp[Cq]
      rwa [e,List.append_nil] at this
     rw[Gi h2]
     exact g.srt l (by simp)
    rw[Bv,hf,if_neg (by simp[hne]),Agb]
  ·obtain⟨R',hR',rfl⟩:=List.mem_map.mp h
   obtain⟨g',hx',hf'⟩:=Rb gt hP R' hR'
   have hpts:∀y,y∈R'.flatten→y≠x→y∈P.flatten:=fun y hy hn=>by
    rw[←hf',Ir]
    exact List.mem_filter.mpr ⟨hy,by simp[Cq,hn]⟩
   refine⟨⟨?_,?_,?_⟩,?_,?_⟩
   ·intro m hm
    rcases List.mem_cons.mp hm with rfl|hm
    ·exact hne
    ·exact g'.ne m hm
   ·intro m hm
    rcases List.mem_cons.mp hm with rfl|hm
    ·exact g.srt _ (by simp)
    ·exact g'.srt m hm
   ·rw[List.flatten_cons,List.nodup_append]
    refine⟨n1,g'.nd,fun a ha b hb e=>?_⟩
    by_cases hbx:b=x
    ·exact hl (by rw[←hbx,←e];exact ha)
    ·exact n3 a ha b (hpts b hb hbx) e
   ·rw[List.flatten_cons];exact List.mem_append_right _ hx'
   ·rw[Bv,Ju hl,if_neg (by simp[hne]),hf']
theorem AaA:∀{R:Ord} {x:Str},Good R→x∈R.flatten→R∈AaB (Hk R (Cq x)) x
 | [],x,_,h=>by cases h
 |m::R,x,g,h=>by
  have gt:=Uz g
  have hne:m≠[]:=g.ne m (by simp)
  have nd:=g.nd
  rw[List.flatten_cons] at nd
  obtain⟨n1,n2,n3⟩:=List.nodup_append.mp nd
  by_cases hm:x∈m
  ·have hR:x∉R.flatten:=fun h=>n3 x hm x h rfl
   have allR:Hk R (Cq x)=R:=Ro gt fun y hy=>by
    have:y≠x:=fun e=>hR (e▸hy)
    simp[Cq,this]
   have pm:(m.filter (Cq x)++[x]).Perm m:=by
    clear g hne n3 nd h gt
    induction m with
    |nil=>cases hm
    |cons y m ih =>
     rw[List.nodup_cons] at n1
     by_cases e:y=x
     ·subst e
      have:(y::m).filter (Cq y)=m:=by
       rw[List.filter_cons_of_neg (by simp[Cq]),Ju n1.1]
      rw[this]
      exact List.perm_append_singleton y m
     ·have hm':x∈m:=by
       rcases List.mem_cons.mp hm with h|h
       ·exact absurd h.symm e
       ·exact h
      rw[List.filter_cons_of_pos (by simp[Cq,e]),List.cons_append]
      exact(ih n1.2 hm').cons y
   rw[Bv,allR]
   by_cases he:(m.filter (Cq x)).isEmpty=true
   ·rw[if_pos he]
    rw[List.isEmpty_iff.mp he,List.nil_append] at pm
    have:m=[x]:=List.perm_singleton.mp pm.symm
    subst this
    cases R with
    |nil=>simp[AaB]
    |cons l R=>simp[AaB]
   ·rw[if_neg he]
    have:Ec (m.filter (Cq x)++[x])=m:=by
     rw[Gi pm]
     exact g.srt m (by simp)
    simp[AaB,this]
  ·have hR:x∈R.flatten:=by
    rw[List.flatten_cons] at h
    rcases List.mem_append.mp h with h|h
    ·exact absurd h hm
    ·exact h
   rw[Bv,Ju hm,if_neg (by simp[hne])]
   unfold AaB
   exact List.mem_cons_of_mem _ (List.mem_cons_of_mem _ (List.mem_map.mpr ⟨R,AaA gt hR,rfl⟩))
theorem Qh:∀{P:Ord} {x:Str},x∉P.flatten→(AaB P x).Nodup
 | [],x,_=>by simp[AaB]
 |l::P,x,hx=>by
  have hl:x∉l:=fun h=>hx (by rw[List.flatten_cons];exact List.mem_append_left _ h)
  have hP:x∉P.flatten:=fun h=>hx (by rw[List.flatten_cons];exact List.mem_append_right _ h)
  unfold AaB
  rw[List.nodup_cons,List.nodup_cons]
  refine⟨?_,?_,?_⟩
  ·intro h
   rcases List.mem_cons.mp h with h|h
   ·have:=congrArg List.length h
    simp at this
   ·obtain⟨R,_,e⟩:=List.mem_map.mp h
    have:=(List.cons.inj e).1
    rw[this] at hl
    exact hl (by simp)
  ·intro h
   obtain⟨R,_,e⟩:=List.mem_map.mp h
   have:=(List.cons.inj e).1
   rw[this] at hl
   exact hl (Nz.mpr (by simp))
  ·have:=Qh hP
   rw[List.nodup_iff_pairwise_ne,List.pairwise_map]
   exact this.imp fun h e=>h (List.cons.inj e).2
def grow(L:List Ord)(x:Str)(p:Ord→Bool):List Ord:=L.flatMap fun P=>(AaB P x).filter p
theorem Rc{L:List Ord}{x:Str}{p:Ord→Bool}(hg:∀P∈L,Good P∧x∉P.flatten)(R:Ord):R∈grow L x p↔Good R∧x∈R.flatten∧Hk R (Cq x)∈L∧p R=true:=by
 unfold grow
 rw[List.mem_flatMap]
 constructor
 ·rintro⟨P,hP,hR⟩
  obtain⟨h1,h2⟩:=List.mem_filter.mp hR
  obtain⟨a,b,c⟩:=Rb (hg P hP).1 (hg P hP).2 R h1
  exact⟨a,b,by rw[c];exact hP,h2⟩
 ·rintro⟨a,b,c,d⟩
  exact⟨_,c,List.mem_filter.mpr ⟨AaA a b,d⟩⟩
theorem Ks{x:Str}{p:Ord→Bool}:∀{L:List Ord},L.Nodup→(∀P∈L,Good P∧x∉P.flatten)→(grow L x p).Nodup
 | [],_,_=>by simp[grow]
 |P::L,nd,hg=>by
  rw[List.nodup_cons] at nd
  have ih:=Ks (x:=x) (p:=p) nd.2 fun Q hQ=>hg Q (by simp[hQ])
  unfold grow at ih ⊢
  rw[List.flatMap_cons,List.nodup_append]
  refine⟨(Qh (hg P (by simp)).2).filter _,ih,?_⟩
  rintro R hR R' hR' rfl
  have h1:=(Rb (hg P (by simp)).1 (hg P (by simp)).2 R (List.mem_filter.mp hR).1).2.2
  have h2:=((Rc (x:=x) (p:=p) (fun Q hQ=>hg Q (by simp[hQ])) R).mp hR').2.2.1
  rw[h1] at h2
  exact nd.1 h2
structure AllOf(L:List Ord)(S:List Str):Prop where
 nd:L.Nodup
 mem:∀R,R∈L↔Good R∧∀y,y∈R.flatten↔y∈S
theorem Ma{R:Ord}{x y:Str}:y∈(Hk R (Cq x)).flatten↔y∈R.flatten∧y≠x:=by
 rw[Ir,List.mem_filter]
 simp[Cq]
theorem AllOf.step{L:List Ord}{S:List Str}{x:Str}(h:AllOf L S)(hx:x∉S):AllOf (grow L x fun _=>true) (S++[x]):=by
 have hg:∀P∈L,Good P∧x∉P.flatten:=fun P hP=>⟨((h.mem P).mp hP).1,fun hh=>hx ((((h.mem P).mp hP).2 x).mp hh)⟩
 refine⟨Ks h.nd hg,fun R=>?_⟩
 rw[Rc hg]
 constructor
 ·rintro⟨g,hx',hl,_⟩
  refine⟨g,fun y=>?_⟩
  have:=((h.mem _).mp hl).2 y
  rw[Ma] at this
  rw[List.mem_append,List.mem_singleton,←this]
  by_cases e:y=x
  ·subst e;simp[hx']
  ·simp[e]
 ·rintro⟨g,hm⟩
  refine⟨g,(hm x).mpr (by simp),(h.mem _).mpr ⟨X5 g _,fun y=>?_⟩,rfl⟩
  rw[Ma,hm y,List.mem_append,List.mem_singleton]
  constructor
  ·rintro⟨h1|h1,h2⟩
   ·exact h1
   ·exact absurd h1 h2
  ·intro h1
   exact⟨.inl h1,fun e=>hx (e▸h1)⟩
def isIn(l:List Str)(y:Str):Bool:=decide (y∈l)
structure OverAt(one other:Ord)(S c:List Str)(L:List Ord):Prop where
 nd:L.Nodup
 mem:∀R,R∈L↔Good R∧(∀y,y∈R.flatten↔y∈S)∧Hk R (isIn one.flatten)=one∧Hk R (isIn c)=Hk other (isIn c)
theorem OverAt.step{one other:Ord}{S c:List Str}{L:List Ord}{x:Str}(h:OverAt one other S c L)(hx:x∉S)(h1:∀y∈one.flatten,y∈S)(hc:∀y∈c,y∈S) :
  OverAt one other (S++[x]) (c++[x]) (grow L x fun R=>decide (Hk R (isIn (c++[x]))=Hk other (isIn (c++[x])))):=by
 have hg:∀P∈L,Good P∧x∉P.flatten:=fun P hP=>⟨((h.mem P).mp hP).1,fun hh=>hx ((((h.mem P).mp hP).2.1 x).mp hh)⟩
 have ho:∀R:Ord,Hk (Hk R (Cq x)) (isIn one.flatten)=Hk R (isIn one.flatten):=fun R=>by
  rw[Oe]
  refine Kw fun y _=>?_
  by_cases e:y=x
  ·subst e
   have:y∉one.flatten:=fun hh=>hx (h1 y hh)
   simp[isIn,this]
  ·simp[Cq,e]
 have hcx:∀R:Ord,Hk (Hk R (Cq x)) (isIn c)=Hk R (isIn c):=fun R=>by
  rw[Oe]
  refine Kw fun y _=>?_
  by_cases e:y=x
  ·subst e
   have:y∉c:=fun hh=>hx (hc y hh)
   simp[isIn,this]
  ·simp[Cq,e]
 have hcc:∀R:Ord,Hk (Hk R (isIn (c++[x]))) (isIn c)=Hk R (isIn c):=fun R=>by
  rw[Oe]
  refine Kw fun y _=>?_
  by_cases e:y∈c
  ·simp[isIn,e]
  ·simp[isIn,e]
 refine⟨Ks h.nd hg,fun R=>?_⟩
 rw[Rc hg,decide_eq_true_eq]
 constructor
 ·rintro⟨g,hx',hl,hd⟩
  obtain⟨_,hp,h3,_⟩:=(h.mem _).mp hl
  refine⟨g,fun y=>?_,by rw[←ho];exact h3,hd⟩
  have:=hp y
  rw[Ma] at this
  rw[List.mem_append,List.mem_singleton,←this]
  by_cases e:y=x
  ·subst e;simp[hx']
  ·simp[e]
 ·rintro⟨g,hm,h3,hd⟩
  refine⟨g,(hm x).mpr (by simp),(h.mem _).mpr ⟨X5 g _,fun y=>?_,by rw[ho];exact h3,?_⟩,hd⟩
  ·rw[Ma,hm y,List.mem_append,List.mem_singleton]
   constructor
   ·rintro⟨h1|h1,h2⟩
    ·exact h1
    ·exact absurd h1 h2
   ·intro h1
    exact⟨.inl h1,fun e=>hx (e▸h1)⟩
  ·rw[hcx,←hcc R,hd,hcc]
end Fm
set_option maxHeartbeats 1000000
namespace Fm
open PySem L2
def pl(P:Ord)(x:Str)(k:Nat):Ord:=if k % 2=0 then P.take (k / 2)++[[x]]++P.drop (k / 2) else P.take (k / 2)++[Ec ((P[k / 2]?.getD [])++[x])]++P.drop (k / 2+1)
end Fm
set_option maxHeartbeats 1000000
namespace Fm
open PySem L2
end Fm
set_option maxHeartbeats 1000000
namespace Fm
open PySem L2
end Fm
set_option maxHeartbeats 1000000
namespace Fm
open PySem L2
theorem ln0:(0:Nat)≤sizeLine:=by decide
theorem ln1:(1:Nat)≤sizeLine:=by decide
theorem ln2:(2:Nat)≤sizeLine:=by decide
theorem ln4:(4:Nat)≤sizeLine:=by decide
theorem Aak{as:AM}{z:Env0}{s s1:Sto}{n:Nat}(ha:as z s=.ok [.int n] s1)(hn:n<1000000000):Fm.iRng1 as z s=.ok ⟨(List.range n).map (fun k=>W.int (k:Nat)),fun _=>true⟩ s1:=by
 unfold Fm.iRng1
 rw[ha]
 simp only[Aa,Xv,Np (j:=(n:Int)) (by omega) (by omega),if_true,Int.toNat_natCast,AbA]
 congr 2
 refine List.map_congr_left fun k _=>?_
 rw[Int.zero_add]
end Fm
set_option maxHeartbeats 1000000
namespace Fm
open PySem L2
inductive K1|new|set|keep|look deriving DecidableEq
inductive K2|take|cut|put|copy|copycut|copyput deriving DecidableEq
def K1.s:K1→Str
 |.new=>Str.ofString "new" |.set=>Str.ofString "set" |.keep=>Str.ofString "keep" |.look=>Str.ofString "look"
def K2.s:K2→Str
 |.take=>Str.ofString "take" |.cut=>Str.ofString "cut" |.put=>Str.ofString "put"
 |.copy=>Str.ofString "copy" |.copycut=>Str.ofString "copycut" |.copyput=>Str.ofString "copyput"
def Nm:Str:=Str.ofString "call"
def Q4:Str:=Str.ofString "loop"
def Gj:Str:=Str.ofString "either"
inductive St
 |w1 (k:K1) (a:Str)
 |w2 (k:K2) (a b:Str)
 |call (v f:Str) (ps:List Str)
 |loop (b:List St)
 |either (bs:List (List St))
def Wu(u:W)(ws:List W):Prop:=u=.lst ws∨u=.tup ws
mutual
def Frm:St→W→Prop
 |.w1 k a,w=>w=.tup [.str k.s,.str a]
 |.w2 k a b,w=>w=.tup [.str k.s,.str a,.str b]
 |.call v f ps,w=>∃u,w=.tup [.str Nm,.str v,.str f,u]∧Wu u (ps.map .str)
 |.loop b,w=>∃u ws,w=.tup [.str Q4,u]∧Wu u ws∧Hv b ws
 |.either bs,w=>∃u us,w=.tup [.str Gj,u]∧Wu u us∧De bs us
def Hv:List St→List W→Prop
 | [],ws=>ws=[]
 |s::b,ws=>∃w r,ws=w::r∧Frm s w∧Hv b r
def De:List (List St)→List W→Prop
 | [],us=>us=[]
 |b::bs,us=>∃u r ws,us=u::r∧Wu u ws∧Hv b ws∧De bs r
end
mutual
def St.enc:St→W
 |.w1 k a=>.tup [.str k.s,.str a]
 |.w2 k a b=>.tup [.str k.s,.str a,.str b]
 |.call v f ps=>.tup [.str Nm,.str v,.str f,.tup (ps.map .str)]
 |.loop b=>.tup [.str Q4,.lst (encL b)]
 |.either bs=>.tup [.str Gj,.lst (R8 bs)]
def encL:List St→List W
 | []=>[]
 |s::b=>s.enc::encL b
def R8:List (List St)→List W
 | []=>[]
 |b::bs=>.lst (encL b)::R8 bs
end
mutual
def St.wt:St→Nat
 |.w1 _ _=>3
 |.w2 _ _ _=>4
 |.call _ _ ps=>5+ps.length
 |.loop b=>3+wtL b
 |.either bs=>3+AcD bs
def wtL:List St→Nat
 | []=>0
 |s::b=>1+s.wt+wtL b
def AcD:List (List St)→Nat
 | []=>0
 |b::bs=>2+wtL b+AcD bs
end
mutual
def St.dep:St→Nat
 |.w1 _ _=>0
 |.w2 _ _ _=>0
 |.call _ _ _=>0
 |.loop b=>1+Zr b
 |.either bs=>1+Ace bs
def Zr:List St→Nat
 | []=>0
 |s::b=>max s.dep (Zr b)
def Ace:List (List St)→Nat
 | []=>0
 |b::bs=>max (Zr b) (Ace bs)
end
mutual
def St.nms:St→List Str
 |.w1 _ a=>[a]
 |.w2 _ a b=>[a,b]
 |.call v _ ps=>v::ps
 |.loop b=>AeX b
 |.either bs=>Aev bs
def AeX:List St→List Str
 | []=>[]
 |s::b=>s.nms++AeX b
def Aev:List (List St)→List Str
 | []=>[]
 |b::bs=>AeX b++Aev bs
end
mutual
def St.txt:St→List Str
 |.w1 _ a=>[a]
 |.w2 _ a b=>[a,b]
 |.call v f ps=>v::f::ps
 |.loop b=>Abl b
 |.either bs=>Aby bs
def Abl:List St→List Str
 | []=>[]
 |s::b=>s.txt++Abl b
def Aby:List (List St)→List Str
 | []=>[]
 |b::bs=>Abl b++Aby bs
end
mutual
theorem Wg:∀s:St,Frm s s.enc
 |.w1 k a=>by simp only[Frm,St.enc]
 |.w2 k a b=>by simp only[Frm,St.enc]
 |.call v f ps=>by simp only[Frm,St.enc];exact⟨_,rfl,.inr rfl⟩
 |.loop b=>by simp only[Frm,St.enc];exact⟨_,_,rfl,.inl rfl,Rj b⟩
 |.either bs=>by simp only[Frm,St.enc];exact⟨_,_,rfl,.inl rfl,Od bs⟩
theorem Rj:∀b:List St,Hv b (encL b)
 | []=>by simp only[Hv,encL]
 |s::b=>by simp only[Hv,encL];exact⟨_,_,rfl,Wg s,Rj b⟩
theorem Od:∀bs:List (List St),De bs (R8 bs)
 | []=>by simp only[De,R8]
 |b::bs=>by simp only[De,R8];exact⟨_,_,_,rfl,.inl rfl,Rj b,Od bs⟩
end
theorem Hv.len:∀{b:List St} {ws:List W},Hv b ws→ws.length=b.length
 | [],ws,h=>by simp only[Hv] at h;rw[h];rfl
 |s::b,ws,h=>by
  simp only[Hv] at h
  obtain⟨w,r,rfl,_,h⟩:=h
  rw[List.length_cons,List.length_cons,Hv.len h]
theorem Hv.get:∀{b:List St} {ws:List W},Hv b ws→∀{i:Nat} {w:W},ws[i]? = some w→∃s,b[i]? = some s∧Frm s w
 | [],ws,h,i,w,e=>by simp only[Hv] at h;rw[h] at e;simp at e
 |s::b,ws,h,i,w,e=>by
  simp only[Hv] at h
  obtain⟨w',r,rfl,h1,h⟩:=h
  cases i with
  |zero=>simp at e;subst e;exact⟨s,rfl,h1⟩
  |succ i=>obtain⟨s',e1,h2⟩:=Hv.get h (i:=i) (by simpa using e);exact⟨s',by simpa using e1,h2⟩
theorem Hv.append:∀{b c:List St} {ws us:List W},Hv b ws→Hv c us→Hv (b++c) (ws++us)
 | [],c,ws,us,h,k=>by simp only[Hv] at h;rw[h];exact k
 |s::b,c,ws,us,h,k=>by
  simp only[Hv] at h
  obtain⟨w',r,rfl,h1,h⟩:=h
  rw[List.cons_append,List.cons_append]
  simp only[Hv]
  exact⟨_,_,rfl,h1,Hv.append h k⟩
theorem Hv.one{s:St}{w:W}(h:Frm s w):Hv [s] [w]:=by simp only[Hv];exact⟨_,_,rfl,h,rfl⟩
theorem De.len:∀{b:List (List St)} {ws:List W},De b ws→ws.length=b.length
 | [],ws,h=>by simp only[De] at h;rw[h];rfl
 |s::b,ws,h=>by
  simp only[De] at h
  obtain⟨w,r,_,rfl,_,_,h⟩:=h
  rw[List.length_cons,List.length_cons,De.len h]
theorem De.get:∀{b:List (List St)} {ws:List W},De b ws→∀{i:Nat} {w:W},ws[i]? = some w→∃s us,b[i]? = some s∧Wu w us∧Hv s us
 | [],ws,h,i,w,e=>by simp only[De] at h;rw[h] at e;simp at e
 |s::b,ws,h,i,w,e=>by
  simp only[De] at h
  obtain⟨w',r,us,rfl,h1,h2,h⟩:=h
  cases i with
  |zero=>simp at e;subst e;exact⟨s,us,rfl,h1,h2⟩
  |succ i=>obtain⟨s',us',e1,h2⟩:=De.get h (i:=i) (by simpa using e);exact⟨s',us',by simpa using e1,h2⟩
theorem De.append:∀{b c:List (List St)} {ws us:List W},De b ws→De c us→De (b++c) (ws++us)
 | [],c,ws,us,h,k=>by simp only[De] at h;rw[h];exact k
 |s::b,c,ws,us,h,k=>by
  simp only[De] at h
  obtain⟨w',r,vs,rfl,h1,h2,h⟩:=h
  rw[List.cons_append,List.cons_append]
  simp only[De]
  exact⟨_,_,_,rfl,h1,h2,De.append h k⟩
theorem De.one{b:List St}{w:W}{ws:List W}(h1:Wu w ws)(h:Hv b ws):De [b] [w]:=by simp only[De];exact⟨_,_,_,rfl,h1,h,rfl⟩
theorem R7:∀b:List St,encL b=b.map St.enc
 | []=>rfl
 |s::b=>by simp only[List.map_cons,encL,R7 b]
theorem Gg:∀b:List (List St),R8 b=b.map fun c=>.lst (encL c)
 | []=>rfl
 |s::b=>by simp only[List.map_cons,R8,Gg b]
theorem Sd{s:St}:∀{b:List St},s∈b→s.dep≤Zr b
 |t::b,h=>by
  simp only[Zr]
  rcases List.mem_cons.mp h with rfl|h
  ·omega
  ·have:=Sd h;omega
theorem Sh{s:List St}:∀{b:List (List St)},s∈b→Zr s≤Ace b
 |t::b,h=>by
  simp only[Ace]
  rcases List.mem_cons.mp h with rfl|h
  ·omega
  ·have:=Sh h;omega
theorem Wv{s:St}:∀{b:List St},s∈b→1+s.wt≤wtL b
 |t::b,h=>by
  simp only[wtL]
  rcases List.mem_cons.mp h with rfl|h
  ·omega
  ·have:=Wv h;omega
theorem Vp{s:List St}:∀{b:List (List St)},s∈b→2+wtL s≤AcD b
 |t::b,h=>by
  simp only[AcD]
  rcases List.mem_cons.mp h with rfl|h
  ·omega
  ·have:=Vp h;omega
theorem Aa4:∀b:List St,4*b.length≤wtL b
 | []=>by simp[wtL]
 |s::b=>by
  have:=Aa4 b
  have:3≤s.wt:=by cases s<;>simp only[St.wt]<;>omega
  simp only[wtL,List.length_cons];omega
theorem Xq:∀b:List (List St),2*b.length≤AcD b
 | []=>by simp[AcD]
 |s::b=>by
  have:=Xq b
  simp only[AcD,List.length_cons];omega
def RdA(r k m:Nat)(ws:List W):Prop:=∃ds,(∀s n,ws.mapM (rd s (n+r))=some ds)∧TameAll k m ds
theorem RdA.mono{r k m r' k' m':Nat}{ws:List W}(h:RdA r k m ws)(h1:r≤r')(h2:k≤k')(h3:m≤m'):RdA r' k' m' ws:=by
 obtain⟨d,e,t⟩:=h
 exact⟨d,fun s n=>by rw[show n+r'=(n+(r' - r))+r by omega];exact e s _,t.mono h2 h3⟩
theorem RdA.tup{r k m:Nat}{ws:List W}(h:RdA r k m ws):RdT (r+1) (k+1) m (.tup ws):=by
 obtain⟨ds,e,t⟩:=h
 exact⟨.tuple ds,fun s n=>Aea (e s n),t.tuple⟩
theorem RdA.lst{r k m:Nat}{ws:List W}(h:RdA r k m ws):RdT (r+1) (k+1) m (.lst ws):=by
 obtain⟨ds,e,t⟩:=h
 exact⟨.list ds,fun s n=>Aan (e s n),t.list⟩
theorem RdA.seq{r k m:Nat}{u:W}{ws:List W}(h:RdA r k m ws)(hu:Wu u ws):RdT (r+1) (k+1) m u:=by
 rcases hu with rfl|rfl
 ·exact h.lst
 ·exact h.tup
def St.word:St→Str
 |.w1 k _=>k.s|.w2 k _ _=>k.s|.call _ _ _=>Nm|.loop _=>Q4|.either _=>Gj
theorem AbU{s:St}{w:W}(h:Frm s w):∃r,w=.tup (.str s.word::r):=by
 cases s with
 |w1 k a=>simp only[Frm] at h;exact⟨_,h⟩
 |w2 k a b=>simp only[Frm] at h;exact⟨_,h⟩
 |call v f ps=>simp only[Frm] at h;obtain⟨u,rfl,_⟩:=h;exact⟨_,rfl⟩
 |loop b=>simp only[Frm] at h;obtain⟨u,_,rfl,_⟩:=h;exact⟨_,rfl⟩
 |either b=>simp only[Frm] at h;obtain⟨u,_,rfl,_⟩:=h;exact⟨_,rfl⟩
theorem Rh(v:W)(r:List W)(s:Sto):Bp (.tup (v::r)) (.int 0) s=.ok v s:=Rf s (by rw[atI_get? (by decide)];rfl)
theorem Hi(v u:W)(r:List W)(s:Sto):Bp (.tup (v::u::r)) (.int 1) s=.ok u s:=Rf s (by rw[atI_get? (by decide)];rfl)
theorem X4(v u t:W)(r:List W)(s:Sto):Bp (.tup (v::u::t::r)) (.int 2) s=.ok t s:=Rf s (by rw[atI_get? (by decide)];rfl)
theorem Rg(v u t x:W)(r:List W)(s:Sto):Bp (.tup (v::u::t::x::r)) (.int 3) s=.ok x s:=Rf s (by rw[atI_get? (by decide)];rfl)
theorem Yb{s:St}{w:W}(h:Frm s w)(t:Sto):Bp w (.int 0) t=.ok (.str s.word) t:=by
 obtain⟨r,rfl⟩:=AbU h
 exact Rh _ _ _
theorem R6(a b:Str)(s:Sto):pEq (.str a) (.str b) s=.ok (.bl (decide (a=b))) s:=by simp[pEq,eqD,eqS]
def St.isE:St→Bool|.either _=>true|_=>false
def St.isL:St→Bool|.loop _=>true|_=>false
def St.isC:St→Bool|.call _ _ _=>true|_=>false
theorem Ado:∀k:K1,k.s≠Gj∧k.s≠Q4∧k.s≠Nm
 |.new=>by decide|.set=>by decide|.keep=>by decide|.look=>by decide
theorem Adn:∀k:K2,k.s≠Gj∧k.s≠Q4∧k.s≠Nm
 |.take=>by decide|.cut=>by decide|.put=>by decide|.copy=>by decide|.copycut=>by decide|.copyput=>by decide
theorem Yy:Nm≠Gj∧Nm≠Q4∧Q4≠Gj:=by decide
theorem AdK:∀s:St,decide (s.word=Gj)=s.isE
 |.w1 k a=>decide_eq_false (Ado k).1
 |.w2 k a b=>decide_eq_false (Adn k).1
 |.call v f ps=>decide_eq_false Yy.1
 |.loop b=>decide_eq_false Yy.2.2
 |.either b=>decide_eq_true rfl
theorem AdJ:∀s:St,decide (s.word=Q4)=s.isL
 |.w1 k a=>decide_eq_false (Ado k).2.1
 |.w2 k a b=>decide_eq_false (Adn k).2.1
 |.call v f ps=>decide_eq_false Yy.2.1
 |.loop b=>decide_eq_true rfl
 |.either b=>decide_eq_false fun e=>Yy.2.2 e.symm
theorem AdL:∀s:St,decide (s.word=Nm)=s.isC
 |.w1 k a=>decide_eq_false (Ado k).2.2
 |.w2 k a b=>decide_eq_false (Adn k).2.2
 |.call v f ps=>decide_eq_true rfl
 |.loop b=>decide_eq_false fun e=>Yy.2.1 e.symm
 |.either b=>decide_eq_false fun e=>Yy.1 e.symm
theorem AfZ(s:St)(t:Sto):pEq (.str s.word) (.str (Str.ofString "either")) t=.ok (.bl s.isE) t:=by rw[R6,show decide (s.word=Str.ofString "either")=s.isE from AdK s]
theorem AfY(s:St)(t:Sto):pEq (.str s.word) (.str (Str.ofString "loop")) t=.ok (.bl s.isL) t:=by rw[R6,show decide (s.word=Str.ofString "loop")=s.isL from AdJ s]
theorem Agz(s:St)(t:Sto):pEq (.str s.word) (.str (Str.ofString "call")) t=.ok (.bl s.isC) t:=by rw[R6,show decide (s.word=Str.ofString "call")=s.isC from AdL s]
end Fm
set_option maxHeartbeats 1000000
namespace Fm
open PySem L2
abbrev Ag3(c:Nat):Prop:=97≤c∧c≤122
def Low(x:Str):Prop:=∀c∈x.cps.toList,Ag3 c
structure NameOk(x:Str):Prop where
 low:Low x
 pos:1≤x.cps.size
 few:x.cps.size≤8
theorem NameOk.okS{x:Str}(h:NameOk x):okS x:=Xn (by
 rw[List.all_eq_true]
 intro c hc
 have:=h.low c hc
 exact decide_eq_true (by have:=this.2;omega)) (by rw[Array.length_toList];have:=h.few;omega)
theorem Jf(a b:Str):(a++b).cps.toList=a.cps.toList++b.cps.toList:=by
 show(a.cps++b.cps).toList = _
 simp
theorem Xu:∀ys:List Str,(Txt.join (Str.ofString "") ys).cps.toList=ys.flatMap fun y=>y.cps.toList
 | []=>rfl
 | [x]=>by rw[TL.join_eq];simp[Str.join]
 |x::y::r=>by
  have:=Xu (y::r)
  rw[TL.join_eq] at this ⊢
  show(x++Str.ofString "" ++ Str.join (Str.ofString "") (y::r)).cps.toList = _
  rw[Jf,Jf,this]
  simp[show(Str.ofString "").cps.toList=[] from rfl]
end Fm
set_option maxHeartbeats 1000000
namespace Fm
open PySem L2
def Aaj:Str:=Str.ofString "main"
end Fm
set_option maxHeartbeats 1000000
namespace Fm
open PySem L2
theorem Ad0{l:List Str}(h:Lp l)(s:Sto):pEq (lS l) (.lst []) s=.ok (.bl l.isEmpty) s:=by
 have e1:rd s 64 (lS l)=some (.list (l.map .str)):=Aec s 63 l
 have e2:rd s 64 (.lst [])=some (.list []):=Aec s 63 []
 have e0:eqS (lS l) (.lst [])=none:=rfl
 have h2:SeqAt.shaped (.list [])=true:=Nb (l:=[]) (fun x h=>by cases h)
 simp only[pEq,eqD,e0,e1,e2,Nb h,h2,and_self,if_true]
 cases l with
 |nil=>rfl
 |cons x l=>rfl
end Fm
set_option maxHeartbeats 1000000
namespace Fm
open PySem L2
theorem Io{t:TM}{b:SM}{z:Env0}{s s1:Sto}(h:t z s=.ok false s1):sIf t b Fl z s=.nx z s1:=by rw[Oh,h];rfl
theorem AaG{t:TM}{a b:SM}{z:Env0}{s s1:Sto}(h:t z s=.ok true s1):sIf t a b z s=a z s1:=by rw[Oh,h];rfl
end Fm
set_option maxHeartbeats 1000000
namespace Fm
open PySem L2
theorem Aa8{u:W}{ws:List W}(h:Wu u ws)(s:Sto):Wd u s=.ok ⟨ws,fun _=>true⟩ s:=by
 rcases h with rfl|rfl
 ·rfl
 ·rfl
theorem Wb{it:IM}{e:EM}{i:Nat}{vs:List Nat}{z:Env0}{s s1:Sto}{xs ys:List W}{gd:Sto→Bool}(hi:it z s=.ok ⟨xs,gd⟩ s1)(hg:gd s1=true)(hz:xs.length≤90000)(hl:ys.length=xs.length)
  (he:∀(k:Nat) (x y:W),xs[k]? = some x→ys[k]? = some y→e ((Cv z vs).set i (some x)) s1=.ok y s1):R9 it (gNm i) Gh e vs z s=.ok (.lst ys) s1:=by
 obtain⟨acc,s',e1,rfl,ha⟩:=V8 (t:=Gh) (e:=e) (i:=i) (vs:=vs) (z:=z) (fun k acc u=>u=s1∧acc=ys.take k) hi (fun k acc u h=>by rw[h.1];exact hg) ⟨rfl,rfl⟩ (fun k x acc u hx hI=>by
  obtain⟨rfl,rfl⟩:=hI
  have hk:k<xs.length:=(List.getElem?_eq_some_iff.mp hx).1
  have hy:ys[k]? = some ys[k]:=List.getElem?_eq_getElem (by omega)
  refine⟨true,u,rfl,(fun q=>by cases q),fun _=>⟨ys[k],u,he k x _ hx hy,by rw[List.length_take];exact G9 (by omega),rfl,?_⟩⟩
  rw[List.take_add_one,hy];rfl)
 rw[e1,ha,List.take_of_length_le (by show ys.length≤xs.length;omega)]
mutual
def St.sz:St→Nat
 |.w1 _ _=>0
 |.w2 _ _ _=>0
 |.call _ _ _=>0
 |.loop b=>szL b
 |.either bs=>AfM bs
def szL:List St→Nat
 | []=>0
 |s::b=>1+s.sz+szL b
def AfM:List (List St)→Nat
 | []=>0
 |b::bs=>szL b+AfM bs
end
end Fm
set_option maxHeartbeats 1000000
namespace Fm
open PySem L2
def AaW(ps:List (Str×W)):List (Key×W):=ps.map fun p=>(.inr p.1,p.2)
theorem Zi(ps:List (Str×W)):(AaW ps).map (·.1)=(ps.map (·.1)).map .inr:=by simp[AaW,Function.comp_def]
theorem Ab5(ps:List (Str×W))(s:Sto){w:W}(h:dOf w s=some (AaW ps)):V3 w s=.ok (lS (Ec (ps.map (·.1)))) s:=by
 simp only[V3,h,Zi,Uk,if_true]
 rw[show((ps.map (·.1)).map (Sum.inr:Str→Key)).mergeSort kLe=(Ec (ps.map (·.1))).map Sum.inr from(List.map_mergeSort (r:=sLe) (s:=kLe) (f:=(Sum.inr:Str→Key)) (fun _ _ _ _=>rfl)).symm,List.map_map]
 rfl
structure Fn where
 ps:List Str
 body:List St
 res:Str
end Fm
set_option maxHeartbeats 1000000
namespace Fm
open PySem L2
def look(fs:List (Str×Fn))(f:Str):Fn:=(fs.lookup f).getD ⟨[],[],f⟩
theorem Abx{α:Type}{hs:List (Str×α)}(nd:(hs.map (·.1)).Nodup){f:Str}{a c:α}(h1:(f,a)∈hs)(h2:(f,c)∈hs):a=c:=by
 induction hs with
 |nil=>cases h1
 |cons p hs ih =>
  rw[List.map_cons,List.nodup_cons] at nd
  rcases List.mem_cons.mp h1 with e1|h1
  ·rcases List.mem_cons.mp h2 with e2|h2
   ·rw[←e1] at e2;cases e2;rfl
   ·exact absurd (List.mem_map.mpr ⟨_,h2,by rw[←e1]⟩) nd.1
  ·rcases List.mem_cons.mp h2 with e2|h2
   ·exact absurd (List.mem_map.mpr ⟨_,h1,by rw[←e2]⟩) nd.1
   ·exact ih nd.2 h1 h2
end Fm
set_option maxHeartbeats 1000000
namespace Fm
open PySem L2
theorem Us{u:W}{ws:List W}(h:Wu u ws)(s:Sto):Uh u s=.ok (.lst ws) s:=by
 rcases h with rfl|rfl<;>rfl
end Fm
set_option maxHeartbeats 1000000
namespace Fm
open PySem L2
end Fm
set_option maxHeartbeats 1000000
namespace Fm
open PySem L2
def K1.isNew:K1→Bool|.new=>true|_=>false
def St.made:St→Option Str
 |.w1 k a=>if k.isNew=true then some a else none
 |.w2 _ a _=>some a
 |.call v _ _=>some v
 |_=>none
def St.read:St→List Str
 |.w1 k a=>if k.isNew=true then[] else[a]
 |.w2 _ _ b=>[b]
 |.call _ _ ps=>Ec (AcF ps)
 |_=>[]
def St.bods:St→List (List St)
 |.loop b=>[b]
 |.either bs=>bs
 |_=>[]
structure Bods(st:St)(w:W)(cs:List (List W)):Prop where
 frm:De st.bods (cs.map W.lst)
 len:cs.length=st.bods.length
 hL:st.isL=true→∃(u:W) (ws:List W),w=.tup [.str Q4,u]∧Wu u ws∧cs=[ws]
 hE:st.isE=true→∃(u:W) (us:List W),w=.tup [.str Gj,u]∧Wu u us∧us.length=cs.length∧∀(k:Nat) (x:W) (c:List W),us[k]? = some x→cs[k]? = some c→Wu x c
 h0:st.isL=false→st.isE=false→cs=[]
theorem AbP{st:St}{w:W}{cs:List (List W)}(h:Frm st w)(B:Bods st w cs)(hz:cs.length≤80000)(s:Sto) :
  Ae6 [w] s=.ok (.lst (cs.map .lst)) s:=by
 let z:Env0:=[some w,none]
 have v0:∀t,Af 0 z t=.ok w t:=fun _=>rfl
 have i0:∀t,eOp Bp (Af 0) (eC (.int 0)) z t=.ok (.str st.word) t:=fun t=>by
  rw[ev_op,v0,Aa,ev_c,Aa,Yb h]
 have tL:tOf (eOp pEq (eOp Bp (Af 0) (eC (.int 0))) (eC (.str (Str.ofString "loop")))) z s=.ok st.isL s:=by
  rw[G7,ev_op,i0,Aa,ev_c,Aa,AfY];rfl
 have tE:tOf (eOp pEq (eOp Bp (Af 0) (eC (.int 0))) (eC (.str (Str.ofString "either")))) z s=.ok st.isE s:=by
  rw[G7,ev_op,i0,Aa,ev_c,Aa,AfZ];rfl
 refine Rk rfl ?_
 show Xy z s = _
 cases he:st.isE with
 |true =>
  obtain⟨u,us,rfl,hu,hl,hk⟩:=B.hE he
  have E:Mh z s=.rt (.lst (cs.map .lst)) s:=by
   unfold Mh
   rw[AaG (by rw[tE,he])]
   unfold Qi
   rw[Ef,Wb (xs:=us) (ys:=cs.map .lst) (gd:=fun _=>true) (s1:=s) ?_ rfl (by omega) (by simp[hl]) ?_,Jv]
   ·rw[Om,ev_op,v0,Aa,ev_c,Aa,Hi,Aa,Aa8 hu]
   ·intro k x y hx hy
    rw[List.getElem?_map] at hy
    obtain⟨c,hc,rfl⟩:=Option.map_eq_some_iff.mp hy
    rw[ev_call,Ah,show Af 1 ((Cv z [1]).set 1 (some x)) s=.ok x s from rfl,Aa,Ax,Aa,Aa,Ol,Us (hk k x c hx hc)]
  simp only[Xy,Cz,E]
 |false =>
  have E:Mh z s=.nx z s:=Io (by rw[tE,he])
  rw[Xy,Bg E]
  unfold Xx
  rw[Ef,Ou,tL,Aa]
  cases hl:st.isL with
  |true =>
   obtain⟨u,ws,rfl,hu,rfl⟩:=B.hL hl
   rw[if_pos rfl,Ff,Ah,ev_call,Ah,ev_op,v0,Aa,ev_c,Aa,Hi,Aa,Ax,Aa,Aa,Ol,Us hu,Aa,Ax,Aa,Aa,if_pos (by exact ln1),Jv]
   rfl
  |false =>
   rw[B.h0 hl he,if_neg (by decide),Ff,Ax,Aa,if_pos (by exact ln0),Jv]
   rfl
end Fm
set_option maxHeartbeats 1000000
namespace Fm
open PySem L2
def own(c:List Str)(P:Ord):Nat:=(P.filter fun l=>(l.filter (isIn c)).isEmpty).length
end Fm
set_option maxHeartbeats 1000000
namespace Fm
open PySem L2
theorem Vf{α:Type}(f:α→Bool):∀ws:List α,Ss (ws.map fun x=>.bl (f x))=some (ws.map f)
 | []=>rfl
 |w::ws=>by
  have:=Vf f ws
  simp[Ss] at this ⊢
  simp[this]
theorem AbJ{α:Type}(f:α→Bool)(ws:List α)(s:Sto):AdF (.lst (ws.map fun x=>.bl (f x))) s=.ok (.bl (ws.all f)) s:=by
 simp[AdF,Vf,List.all_map,Function.comp_def]
end Fm
set_option maxHeartbeats 1000000
namespace Fm
open PySem L2
theorem AaZ{st:St}{w:W}{cs:List (List W)}(h:Frm st w)(B:Bods st w cs)(hz:cs.length≤80000)(s:Sto):Wi [w] s=.ok (.lst (cs.map .lst)) s:=AbP h B hz s
theorem We(x:Str)(s:Sto):Hg (.str x) (.ty "str") s=.ok (.bl true) s:=rfl
def Shp:St→Prop
 |.w1 _ a=>NameOk a
 |.w2 _ a b=>NameOk a∧NameOk b
 |.call v f ps=>NameOk v∧NameOk f∧(∀x∈ps,NameOk x)∧ps.length≤2
 |.loop _=>True
 |.either bs=>bs≠[]∧bs.length≤4000
theorem Z0{m:EM}{z:Env0}{s:Sto}{c:Bool}(h:m z s=.ok (.bl c) s):tOf m z s=.ok c s:=by rw[G7,h,Aa,Ed]
theorem Xj{m:EM}{z:Env0}{s s1:Sto}{w:W}(h:m z s=.ok w s1):Ho m z s=.rt w s1:=by rw[Ef,h,Jv]
end Fm
set_option maxHeartbeats 1000000
namespace Fm
open PySem L2
theorem U6:∀{bs:List (List St)} {us:List W},De bs us→us.length=bs.length
 | [],us,h=>by simp only[De] at h;rw[h];rfl
 |b::bs,us,h=>by
  simp only[De] at h
  obtain⟨x,r,ws,rfl,_,_,hr⟩:=h
  rw[List.length_cons,List.length_cons,U6 hr]
theorem Acb{st:St}{w:W}(h:Frm st w)(h1:st.isE=false)(h2:st.isL=false)(h3:st.isC=false):w=st.enc:=by
 cases st with
 |w1 k a=>simp only[Frm] at h;simp only[St.enc];exact h
 |w2 k a b=>simp only[Frm] at h;simp only[St.enc];exact h
 |call v f ps=>cases h3
 |loop b=>cases h2
 |either bs=>cases h1
def AeR(n:Nat):Prop:=(∀(st:St) (w:W) (s:Sto),2*st.dep+1≤n→st.wt≤80000→Frm st w→Bh n [w] s=.ok st.enc s)∧(∀(b:List St) (u:W) (ws:List W) (s:Sto),2*Zr b+2≤n→wtL b≤80000→Wu u ws→Hv b ws→Av n [u] s=.ok (.lst (encL b)) s)
theorem T5{n:Nat}(ih:AeR n)(st:St)(w:W)(s:Sto)(hd:2*st.dep+1≤n+1)(hw:st.wt≤80000)(h:Frm st w):Bh (n+1) [w] s=.ok st.enc s:=by
 let z:Env0:=[some w,none,none]
 let z1:Env0:=[some w,some (.str st.word),none]
 have i0:eOp Bp (Af 0) (eC (.int 0)) z s=.ok (.str st.word) s:=by rw[ev_op,show Af 0 z s=.ok w s from rfl,Aa,ev_c,Aa,Yb h]
 have u0:Af 0 z1 s=.ok w s:=rfl
 have u1:Af 1 z1 s=.ok (.str st.word) s:=rfl
 refine Rk rfl ?_
 show Q3 (Av n) (Bh n) z s = _
 have E0:Kl (Av n) (Bh n) z s=.nx z1 s:=by
  unfold Kl
  rw[Ez,i0,Jv];rfl
 have tE:tOf (eOp pEq (Af 1) (eC (.str (Str.ofString "either")))) z1 s=.ok st.isE s:=Z0 (by rw[ev_op,u1,Aa,ev_c,Aa,AfZ])
 have tL:tOf (eOp pEq (Af 1) (eC (.str (Str.ofString "loop")))) z1 s=.ok st.isL s:=Z0 (by rw[ev_op,u1,Aa,ev_c,Aa,AfY])
 have tC:tOf (eOp pEq (Af 1) (eC (.str (Str.ofString "call")))) z1 s=.ok st.isC s:=Z0 (by rw[ev_op,u1,Aa,ev_c,Aa,Agz])
 rw[Q3,Bg E0]
 have plain:st.isE=false→st.isL=false→st.isC=false→(Cz (Du (Av n) (Bh n)) (Cz (Ep (Av n) (Bh n)) (Hf (Av n) (Bh n)))) z1 s=.rt st.enc s:=fun h1 h2 h3=>by
  have E1:Du (Av n) (Bh n) z1 s=.nx z1 s:=Io (by rw[tE,h1])
  have E2:Ep (Av n) (Bh n) z1 s=.nx z1 s:=Io (by rw[tL,h2])
  rw[Bg E1,Bg E2]
  unfold Hf
  rw[Ef,Ou,tC,Aa,h3,if_neg (by decide),u0,Jv,Acb h h1 h2 h3]
 cases st with
 |w1 k a=>exact plain rfl rfl rfl
 |w2 k a b=>exact plain rfl rfl rfl
 |call v f ps =>
  simp only[Frm] at h
  obtain⟨u,rfl,hu⟩:=h
  have E1:Du (Av n) (Bh n) z1 s=.nx z1 s:=Io tE
  have E2:Ep (Av n) (Bh n) z1 s=.nx z1 s:=Io tL
  rw[Bg E1,Bg E2]
  unfold Hf
  have sl:eSl pSl (Af 0) oNo (oAt (eC (.int 3))) z1 s=.ok (.tup [.str Nm,.str v,.str f]) s:=rfl
  have i3:eOp Bp (Af 0) (eC (.int 3)) z1 s=.ok u s:=by rw[ev_op,u0,Aa,ev_c,Aa,Rg]
  have tp:Aau u s=.ok (.tup (ps.map .str)) s:=by rcases hu with rfl|rfl<;>rfl
  have ad:Hq (.tup [.str Nm,.str v,.str f]) (.tup [.tup (ps.map .str)]) s=.ok (.tup [.str Nm,.str v,.str f,.tup (ps.map .str)]) s:=by
   simp only[Hq]
   rw[if_pos (by exact ln4)];rfl
  refine Xj ?_
  rw[Ou,tC,Aa,if_pos (show(St.call v f ps).isC=true from rfl),ev_op,sl,Aa,Iv,Ah,ev_call,Ah,i3,Aa,Ax,Aa,Aa,Ol,tp,Aa,Ax,Aa,Aa,if_pos (by exact ln1),Aa,ad]
  simp only[St.enc]
 |loop b =>
  simp only[Frm] at h
  obtain⟨u,ws,rfl,hu,hb⟩:=h
  simp only[St.dep] at hd
  simp only[St.wt] at hw
  have E1:Du (Av n) (Bh n) z1 s=.nx z1 s:=Io tE
  have i1:eOp Bp (Af 0) (eC (.int 1)) z1 s=.ok u s:=by rw[ev_op,u0,Aa,ev_c,Aa,Hi]
  have E2:Ep (Av n) (Bh n) z1 s=.rt (St.loop b).enc s:=by
   unfold Ep
   rw[AaG tL]
   unfold Ld
   refine Xj ?_
   rw[Iv,Ah,u1,Aa,Ah,ev_call,Ah,i1,Aa,Ax,Aa,Aa,ih.2 b u ws s (by omega) (by omega) hu hb,Aa,Ax,Aa,Aa,Aa,if_pos (by exact ln2)]
   simp only[St.enc]
   rfl
  rw[Bg E1]
  simp only[Cz,E2]
 |either bs =>
  simp only[Frm] at h
  obtain⟨u,us,rfl,hu,hb⟩:=h
  simp only[St.dep] at hd
  simp only[St.wt] at hw
  have hl:=U6 hb
  have hlw:=Xq bs
  have i1:eOp Bp (Af 0) (eC (.int 1)) z1 s=.ok u s:=by rw[ev_op,u0,Aa,ev_c,Aa,Hi]
  have lc:R9 (AaI (eOp Bp (Af 0) (eC (.int 1)))) (gNm 2) Gh (Aj (Av n) (Ac (Af 2) Ao)) [2] z1 s=.ok (.lst (R8 bs)) s:=by
   refine Wb (xs:=us) (gd:=fun _=>true) ?_ rfl (by omega) (by rw[Gg,List.length_map,hl]) fun k x y hx hy=>?_
   ·rw[Om,i1,Aa,Aa8 hu]
   ·obtain⟨b,ws,e1,hx2,hf⟩:=hb.get hx
    rw[Gg,List.getElem?_map,e1] at hy
    cases hy
    have hm:b∈bs:=List.mem_of_getElem? e1
    have d1:=Sh hm
    have w1:=Vp hm
    rw[ev_call,Ah,show Af 2 ((Cv z1 [2]).set 2 (some x)) s=.ok x s from rfl,Aa,Ax,Aa,Aa,ih.2 b x ws s (by omega) (by omega) hx2 hf]
  have E1:Du (Av n) (Bh n) z1 s=.rt (St.either bs).enc s:=by
   unfold Du
   rw[AaG tE]
   unfold Le
   refine Xj ?_
   rw[Iv,Ah,u1,Aa,Ah,lc,Aa,Ax,Aa,Aa,Aa,if_pos (by exact ln2)]
   simp only[St.enc]
   rfl
  simp only[Cz,E1]
theorem Pr:∀n,AeR n
 |0=>⟨fun st w s hd=>by omega,fun b u ws s hd=>by omega⟩
 |n+1=>by
  have ih:=Pr n
  refine⟨T5 ih,fun b u ws s hd hw hu hb=>?_⟩
  let z:Env0:=[some u,none]
  refine Rk rfl ?_
  show Gv (Av n) (Bh n) z s = _
  rw[Gv]
  unfold Hw
  refine Xj ?_
  have hl:=hb.len
  have hlw:=Aa4 b
  refine Wb (xs:=ws) (gd:=fun _=>true) ?_ rfl (by omega) (by rw[R7,List.length_map,hl]) fun k x y hx hy=>?_
  ·rw[Om,show Af 0 z s=.ok u s from rfl,Aa,Aa8 hu]
  ·obtain⟨st,e1,hf⟩:=hb.get hx
   rw[R7,List.getElem?_map,e1] at hy
   cases hy
   have hm:st∈b:=List.mem_of_getElem? e1
   have d1:=Sd hm
   have w1:=Wv hm
   rw[ev_call,Ah,show Af 1 ((Cv z [1]).set 1 (some x)) s=.ok x s from rfl,Aa,Ax,Aa,Aa,ih.1 st x s (by omega) (by omega) hf]
theorem Yx{st:St}{w:W}(h:Frm st w)(hd:st.dep≤11)(hw:st.wt≤80000)(s:Sto):Xb [w] s=.ok st.enc s:=(Pr 24).1 st w s (by omega) hw h
end Fm
set_option maxHeartbeats 1000000
namespace Fm
open PySem L2
inductive SubS:St→List St→Prop where
 |here {st:St} {b:List St} (h:st∈b):SubS st b
 |inn {st t:St} {b c:List St} (h:t∈b) (hc:c∈t.bods) (r:SubS st c):SubS st b
theorem Ac7{st:St}{c:List St}(h:c∈st.bods):wtL c+2≤st.wt:=by
 cases st with
 |loop b=>simp only[St.bods,List.mem_singleton] at h;subst h;simp only[St.wt];omega
 |either bs=>simp only[St.bods] at h;have:=Vp h;simp only[St.wt];omega
 |_=>simp only[St.bods,List.not_mem_nil] at h
theorem AaY{st:St}{c:List St}(h:c∈st.bods):Zr c+1≤st.dep:=by
 cases st with
 |loop b=>simp only[St.bods,List.mem_singleton] at h;subst h;simp only[St.dep];omega
 |either bs=>simp only[St.bods] at h;have:=Sh h;simp only[St.dep];omega
 |_=>simp only[St.bods,List.not_mem_nil] at h
end Fm
set_option maxHeartbeats 1000000
namespace Fm
open PySem L2
def AcB(fn:Fn)(w:W):Prop:=∃(pu bu:W) (ws:List W),w=.tup [pu,bu,.str fn.res]∧Wu pu (fn.ps.map .str)∧Wu bu ws∧Hv fn.body ws
structure Handed(fs:List (Str×Fn))(hd:List (Str×W)):Prop where
 nd:(hd.map (·.1)).Nodup
 perm:(hd.map (·.1)).Perm (fs.map (·.1))
 ok:∀p∈hd,∃fn,(p.1,fn)∈fs∧AcB fn p.2
def AcA(fs:List (Str×Fn)):St→Prop
 |.call _ f ps=>f≠Aaj∧∃fn,(f,fn)∈fs∧ps.length=fn.ps.length
 |_=>True
theorem Handed.get{fs:List (Str×Fn)}{hd:List (Str×W)}(H:Handed fs hd)(nd:(fs.map (·.1)).Nodup){f:Str}{fn:Fn}(h:(f,fn)∈fs):∃w,(f,w)∈hd∧AcB fn w:=by
 have:f∈hd.map (·.1):=H.perm.mem_iff.mpr (List.mem_map.mpr ⟨_,h,rfl⟩)
 obtain⟨⟨g,w⟩,hp,e⟩:=List.mem_map.mp this
 have e':g=f:=e
 subst e'
 obtain⟨fn',h',hw⟩:=H.ok _ hp
 have:fn'=fn:=Abx nd h' h
 subst this
 exact⟨w,hp,hw⟩
end Fm
set_option maxHeartbeats 1000000
namespace Fm
open PySem L2
mutual
def U9(E:List Str):St→Bool
 |.w1 _ _=>true
 |.w2 _ _ _=>true
 |.call _ f _=>decide (f∈E)
 |.loop _=>true
 |.either bs=>Zh E bs
def Va(E:List Str):List St→Bool
 | []=>true
 |s::b=>U9 E s&&Va E b
def Zh(E:List Str):List (List St)→Bool
 | []=>false
 |b::bs=>Va E b||Zh E bs
end
end Fm
set_option maxHeartbeats 1000000
namespace Fm
open PySem L2
mutual
theorem Zg{E E':List Str}(h:∀x∈E,x∈E'):∀s:St,U9 E s=true→U9 E' s=true
 |.w1 _ _,_=>by simp only[U9]
 |.w2 _ _ _,_=>by simp only[U9]
 |.call _ f _,e=>by simp only[U9] at e ⊢; exact decide_eq_true (h f (of_decide_eq_true e))
 |.loop _,_=>by simp only[U9]
 |.either bs,e=>by simp only[U9] at e ⊢; exact Qs h bs e
theorem K7{E E':List Str}(h:∀x∈E,x∈E'):∀b:List St,Va E b=true→Va E' b=true
 | [],_=>by simp only[Va]
 |s::b,e=>by
  simp only[Va,Bool.and_eq_true] at e ⊢
  exact⟨Zg h s e.1,K7 h b e.2⟩
theorem Qs{E E':List Str}(h:∀x∈E,x∈E'):∀bs:List (List St),Zh E bs=true→Zh E' bs=true
 | [],e=>by simp only[Zh] at e;cases e
 |b::bs,e=>by
  simp only[Zh,Bool.or_eq_true] at e ⊢
  exact e.imp (K7 h b) (Qs h bs)
end
def Agd(E:List Str)(f:Str):List Str:=if f∈E then E else E++[f]
end Fm
set_option maxHeartbeats 1000000
namespace Fm
open PySem L2
def AcC(fs:List (Str×Fn))(E:List Str):Prop:=∀p∈fs,Va E p.2.body=true→p.1∈E
def Ad8(fs:List (Str×Fn))(E:List Str):Prop:=∀C,AcC fs C→∀x∈E,x∈C
theorem Ad8.add{fs:List (Str×Fn)}{E:List Str}{f:Str}{fn:Fn}(h:Ad8 fs E)(hm:(f,fn)∈fs)(he:Va E fn.body=true):Ad8 fs (Agd E f):=fun C hC x hx=>by
 unfold Agd at hx
 split at hx
 ·exact h C hC x hx
 ·rcases List.mem_append.mp hx with hx|hx
  ·exact h C hC x hx
  ·rw[List.mem_singleton.mp hx]
   exact hC _ hm (K7 (h C hC) _ he)
end Fm
set_option maxHeartbeats 1000000
namespace Fm
open PySem L2
end Fm
set_option maxHeartbeats 1000000
namespace Fm
open PySem L2
theorem Acf(st:St):Bods st st.enc (st.bods.map encL):=by
 have ll:∀bs:List (List St),De bs ((bs.map encL).map W.lst):=fun bs=>by
  have:=Od bs
  rw[Gg] at this
  rw[List.map_map]
  exact this
 refine⟨ll _,by rw[List.length_map],fun h=>?_,fun h=>?_,fun h1 h2=>?_⟩
 ·cases st with
  |loop b=>exact⟨_,encL b,by simp only[St.enc],.inl rfl,rfl⟩
  |_=>cases h
 ·cases st with
  |either bs =>
   refine⟨_,R8 bs,by simp only[St.enc],.inl rfl,by rw[Gg,List.length_map,List.length_map];rfl,fun k x c hx hc=>?_⟩
   rw[Gg,List.getElem?_map] at hx
   simp only[St.bods] at hc
   rw[List.getElem?_map] at hc
   cases e:bs[k]? with
   |none=>rw[e] at hx;cases hx
   |some b=>rw[e] at hx hc;cases hx;cases hc;exact .inl rfl
  |_=>cases h
 ·cases st with
  |loop b=>cases h1
  |either bs=>cases h2
  |_=>rfl
theorem Zj{st:St}(hz:st.bods.length≤80000)(s:Sto):Wi [st.enc] s=.ok (.lst ((st.bods.map encL).map .lst)) s :=
 AaZ (Wg st) (Acf st) (by rw[List.length_map];exact hz) s
structure ProgAt(s:Sto)(p a b c:Nat)(kS kL:List (NestedKey×W)):Prop where
 self:s.get p=some (.ins "Program" [("kept_functions", .ref a),("kept_statements", .ref b),("kept_lengths", .ref c)])
 st:s.get b=some (.dn kS)
 ln:s.get c=some (.dn kL)
 bc:b≠c
 pb:p≠b
 pc:p≠c
end Fm
set_option maxHeartbeats 1000000
namespace Fm
open PySem L2
def ND(kvs:List (NestedKey×W)):Prop:=(kvs.map (·.1)).Nodup
theorem ND.new{x y:List (NestedKey×W)}{p:NestedKey×W}(h:ND (x++p::y)):p.1∉x.map (·.1):=by
 unfold ND at *; rw[List.map_append,List.nodup_append] at h
 exact fun hx=>h.2.2 _ hx p.1 (by simp) rfl
end Fm
set_option maxHeartbeats 1000000
namespace Fm
open PySem L2
theorem Aab{st:St}{b:List St}(h:SubS st b):st.wt≤wtL b:=by
 induction h with
 |here h=>have:=Wv h;omega
 |inn h hc _ ih=>have:=Wv h;have:=Ac7 hc;omega
def wtF:List (Str×Fn)→Nat
 | []=>0
 |p::fs=>wtL p.2.body+2+wtF fs
structure Sized(fs:List (Str×Fn)):Prop where
 one:∀p∈fs,Zr p.2.body≤8∧wtL p.2.body≤8000
 all:wtF fs≤70000
 few:fs.length≤60
structure Made(fs:List (Str×Fn)):Prop where
 nd:(fs.map (·.1)).Nodup
 srt:Ec (fs.map (·.1))=fs.map (·.1)
 main:Aaj∈fs.map (·.1)
 nm:∀p∈fs,NameOk p.1
 fn:∀p∈fs,NameOk p.2.res∧(∀x∈p.2.ps,NameOk x)∧p.2.ps.Nodup∧p.2.ps.length≤2
 shp:∀p∈fs,∀st,SubS st p.2.body→Shp st∧AcA fs st
 sz:Sized fs
theorem Handed.names{fs:List (Str×Fn)}{hd:List (Str×W)}(H:Handed fs hd)(srt:Ec (fs.map (·.1))=fs.map (·.1))(s:Sto):V3 (.dct (AaW hd)) s=.ok (lS (fs.map (·.1))) s:=by
 rw[Ab5 hd s (w:=.dct (AaW hd)) rfl,(Gi H.perm).trans srt]
end Fm
set_option maxHeartbeats 1000000
namespace Fm
open PySem L2
end Fm
set_option maxHeartbeats 1000000
namespace Fm
open PySem L2
theorem ProgAt.keeps{s s':Sto}{p a b c:Nat}{kS kL:List (NestedKey×W)}(h:ProgAt s p a b c kS kL)(hp:s'.get p=s.get p)(hb:s'.get b=s.get b)(hc:s'.get c=s.get c):ProgAt s' p a b c kS kL :=
 ⟨hp.trans h.self,hb.trans h.st,hc.trans h.ln,h.bc,h.pb,h.pc⟩
end Fm
set_option maxHeartbeats 1000000
namespace Fm
open PySem L2
end Fm
set_option maxHeartbeats 1000000
namespace Fm
open PySem L2
def Abm:List St→List Nat→Option St
 |_,[]=>none
 |b,[k]=>b[k]?
 |b,k::q::r=>match b[k]? with
  |some st=>(match st.bods[q]? with
   |some c=>Abm c r
   |none=>none)
  |none=>none
def Ac6:List St→List Nat→Option (List St)
 |b,[]=>some b
 |_,[_]=>none
 |b,k::q::r=>match b[k]? with
  |some st=>(match st.bods[q]? with
   |some c=>Ac6 c r
   |none=>none)
  |none=>none
end Fm
set_option maxHeartbeats 1000000
namespace Fm
open PySem L2
abbrev Plc:=Str×List Nat
def Agt(a:List Nat):List PyData:=a.map fun k=>.int (k:Nat)
def plD(p:Plc):PyData:=.tuple [.str p.1,.tuple (Agt p.2)]
def Agj(L:List Plc):List Plc:=L.mergeSort (PySem.W.dataLe false plD)
end Fm
set_option maxHeartbeats 1000000
namespace Fm
open PySem L2
theorem Lr:∀(a:List Nat) {b:List St} {st:St},Abm b a=some st→SubS st b
 | [],b,st,h=>by cases b<;>cases h
 | [k],b,st,h=>by simp only[Abm] at h;exact .here (List.mem_of_getElem? h)
 |k::q::r,b,st,h=>by
  simp only[Abm] at h
  split at h
  ·rename_i s hs
   split at h
   ·rename_i c hc
    exact .inn (List.mem_of_getElem? hs) (List.mem_of_getElem? hc) (Lr r h)
   ·cases h
  ·cases h
theorem W8{st:St}{b:List St}(h:SubS st b):st.dep≤Zr b:=by
 induction h with
 |here h=>exact Sd h
 |inn h hc _ ih=>have:=Sd h;have:=AaY hc;omega
def Agc(b:List St):List Nat→List Nat
 | []=>[]
 | [k]=>[k+1]
 |k::q::rr=>if k+1<((Ac6 b (q::rr).reverse).getD []).length then(q::rr).reverse++[k+1] else if (Abm b rr.reverse).any St.isL=true then rr.reverse else Agc b rr
def aft(b:List St)(a:List Nat):List Nat:=Agc b a.reverse
structure PgAt(fs:List (Str×Fn))(f:Str)(b:List St):Prop where
 nd:(fs.map (·.1)).Nodup
 fn:∃fn,(f,fn)∈fs∧fn.body=b
 ok:okS f
 txt:∀x∈Abl b,NameOk x
 dep:Zr b≤10
 wt:wtL b≤8000
 few:∀st,SubS st b→st.bods.length≤60
 bod1:∀st,SubS st b→st.isE=true→st.bods≠[]
section
variable {fs:List (Str×Fn)} {f:Str} {b:List St}
theorem PgAt.enc(H:PgAt fs f b){a:List Nat}{st:St}(h:Abm b a=some st)(s:Sto):Xb [st.enc] s=.ok st.enc s:=by
 have h1:=Lr a h
 have h2:=W8 h1
 have h3:=Aab h1
 have:=H.dep
 have:=H.wt
 exact Yx (Wg st) (by omega) (by omega) s
end
end Fm
set_option maxHeartbeats 1000000
namespace Fm
open PySem L2
theorem Vq{x:Str}{st:St}:∀{b:List St},st∈b→x∈st.txt→x∈Abl b
 |t::b,h,hx=>by
  simp only[Abl,List.mem_append]
  rcases List.mem_cons.mp h with rfl|h
  ·exact .inl hx
  ·exact .inr (Vq h hx)
theorem Tg{x:Str}{c:List St}:∀{bs:List (List St)},c∈bs→x∈Abl c→x∈Aby bs
 |d::bs,h,hx=>by
  simp only[Aby,List.mem_append]
  rcases List.mem_cons.mp h with rfl|h
  ·exact .inl hx
  ·exact .inr (Tg h hx)
theorem W3{x:Str}{st:St}{c:List St}(h:c∈st.bods)(hx:x∈Abl c):x∈st.txt:=by
 cases st with
 |loop b=>simp only[St.bods,List.mem_singleton] at h;subst h;simpa only[St.txt] using hx
 |either bs=>simp only[St.bods] at h;simp only[St.txt];exact Tg h hx
 |_=>simp[St.bods] at h
theorem Ab3{x:Str}{st:St}{b:List St}(h:SubS st b)(hx:x∈st.txt):x∈Abl b:=by
 induction h with
 |here h=>exact Vq h hx
 |inn h hc _ ih=>exact Vq h (W3 hc ih)
theorem NameOk.pts{l:List Str}(h:∀x∈l,NameOk x):Lp l:=fun x hx=>(h x hx).okS
def ent(b:List St)(a:List Nat)(q:Nat):List Nat:=match Abm b a with
 |some st=>if (st.bods[q]?).getD []≠[] then a++[q,0] else if st.isL=true then a else aft b a
 |none=>a
section
variable {fs:List (Str×Fn)} {f:Str} {b:List St}
theorem PgAt.body(H:PgAt fs f b){a:List Nat}{st:St}{q:Nat}{c:List St}(h:Abm b a=some st)(hc:st.bods[q]? = some c):Lp (Abl c)∧Zr c≤10∧wtL c≤8000:=by
 have h1:=Lr a h
 have h2:=W8 h1
 have h3:=Aab h1
 have h4:=AaY (List.mem_of_getElem? hc)
 have h5:=Ac7 (List.mem_of_getElem? hc)
 have:=H.dep
 have:=H.wt
 exact⟨NameOk.pts fun x hx=>H.txt x (Ab3 h1 (W3 (List.mem_of_getElem? hc) hx)),by omega,by omega⟩
theorem PgAt.bods(H:PgAt fs f b){a:List Nat}{st:St}(h:Abm b a=some st)(s:Sto):Wi [st.enc] s=.ok (.lst ((st.bods.map encL).map .lst)) s:=by
 have:=H.few st (Lr a h)
 exact Zj (by omega) s
def AfC(b:List St)(a:List Nat):List (List Nat):=match Abm b a with
 |some st=>(List.range st.bods.length).map (ent b a)++(if st.isE=true then[] else[aft b a])
 |none=>[]
end
end Fm
set_option maxHeartbeats 1000000
namespace Fm
open PySem L2
mutual
def Ag2(a:List Nat):St→List (List Nat)
 |.loop b=>Afd (a++[0]) 0 b
 |.either bs=>AeQ a 0 bs
 |_=>[]
def Afd(ahead:List Nat)(k:Nat):List St→List (List Nat)
 | []=>[]
 |s::b=>(ahead++[k])::(Ag2 (ahead++[k]) s++Afd ahead (k+1) b)
def AeQ(a:List Nat)(q:Nat):List (List St)→List (List Nat)
 | []=>[]
 |b::bs=>Afd (a++[q]) 0 b++AeQ a (q+1) bs
end
def Ago(f:Str)(b:List St):List Plc:=Agj ((Afd [] 0 b).map (fun a=>(f,a))++[(f,[b.length])])
def Agb(fs:List (Str×Fn)):List Plc:=fs.flatMap fun p=>Ago p.1 p.2.body
end Fm
set_option maxHeartbeats 1000000
namespace Fm
open PySem L2
inductive Rch(b:List St)(a:List Nat):List Nat→Prop where
 |refl:Rch b a a
 |step {x y:List Nat} (h:Rch b a x) (w:y∈AfC b x):Rch b a y
theorem Rch.trans{b:List St}{x y z:List Nat}(h:Rch b x y)(k:Rch b y z):Rch b x z:=by
 induction k with
 |refl=>exact h
 |step _ w ih=>exact .step ih w
theorem Rch.one{b:List St}{x y:List Nat}(w:y∈AfC b x):Rch b x y:=.step .refl w
end Fm
set_option maxHeartbeats 1000000
namespace Fm
open PySem
open L2 hiding St keyOf isNon
end Fm
set_option maxHeartbeats 1000000
namespace Fm
open PySem
open L2 hiding St keyOf isNon
def Ad9(adrs:List (List Nat))(sts:List St)(items:List (List Nat×W)):Prop:=items.map (·.1)=adrs∧Hv sts (items.map (·.2))
theorem Ad9.cons{a:List Nat}{c:List (List Nat)}{x:St}{y:List St}{w:W}{q:List (List Nat×W)}(h:Frm x w)(k:Ad9 c y q):Ad9 (a::c) (x::y) ((a,w)::q) :=
 ⟨by rw[List.map_cons,k.1],by rw[List.map_cons];simp only[Hv];exact⟨w,_,rfl,h,k.2⟩⟩
end Fm
set_option maxHeartbeats 1000000
namespace Fm
open PySem
open L2 hiding St keyOf isNon
structure Made0(fs:List (Str×Fn)):Prop where
 nd:(fs.map (·.1)).Nodup
 srt:Ec (fs.map (·.1))=fs.map (·.1)
 main:Aaj∈fs.map (·.1)
 nm:∀p∈fs,NameOk p.1
 fn:∀p∈fs,NameOk p.2.res∧(∀x∈p.2.ps,NameOk x)∧p.2.ps.Nodup∧p.2.ps.length≤2
 shp:∀p∈fs,∀st,SubS st p.2.body→Shp st
 sz:Sized fs
theorem Made0.made{fs:List (Str×Fn)}(h:Made0 fs)(r:∀p∈fs,∀st,SubS st p.2.body→AcA fs st):Made fs:=⟨h.nd,h.srt,h.main,h.nm,h.fn,fun p hp st hs=>⟨h.shp p hp st hs,r p hp st hs⟩,h.sz⟩
end Fm
set_option maxHeartbeats 1000000
namespace Fm
open PySem
open L2 hiding St keyOf isNon
structure MonoOn(S:List Str)(f:Str→Str):Prop where
 le:∀x∈S,∀y∈S,sLe x y=true→sLe (f x) (f y)=true
 inj:∀x∈S,∀y∈S,f x=f y→x=y
theorem MonoOn.sub{S T:List Str}{f:Str→Str}(h:MonoOn S f)(s:∀x∈T,x∈S):MonoOn T f:=⟨fun x hx y hy=>h.le x (s x hx) y (s y hy),fun x hx y hy=>h.inj x (s x hx) y (s y hy)⟩
def Fn.all(fn:Fn):List Str:=fn.ps++[fn.res]++AeX fn.body
structure Ren(fs:List (Str×Fn))(L N:Str→Str):Prop where
 lab:MonoOn (fs.map (·.1)) L
 nam:MonoOn (fs.flatMap fun p=>p.2.all) N
 main:L Aaj=Aaj
 lok:∀p∈fs,NameOk (L p.1)
 nok:∀p∈fs,∀x∈p.2.all,NameOk (N x)
section
variable {fs:List (Str×Fn)} {L N:Str→Str}
theorem Ren.name{f:Str}{fn:Fn}(h:Ren fs L N)(hm:(f,fn)∈fs):MonoOn fn.all N:=h.nam.sub fun x hx=>List.mem_flatMap.mpr ⟨_,hm,hx⟩
def Ends(fs:List (Str×Fn))(x:Str):Prop:=∀C,AcC fs C→x∈C
end
end Fm
set_option maxHeartbeats 1000000
namespace Fm
open PySem L2
structure TameX(k m:Nat)(d:PyData):Prop where
 leaf:d.leavesShort 64=true
 shw:d.showable=true
 dep:d.depth≤k
 wt:d.weight≤m
theorem Tame.x{k m:Nat}{d:PyData}(t:Tame k m d):TameX k m d:=⟨t.leaf,t.shw,t.dep,t.wt⟩
theorem TameX.show_{k m:Nat}{d:PyData}(t:TameX k m d)(h:k<60)(hm:m≤250000):Ab6 d=true:=by
 have h1:=PyData.shown_le 64 (by decide) d t.leaf
 have h2:=t.wt;have h3:=t.dep
 have e:sizeLine=16777216:=by decide
 have a1:d.depth<60:=by omega
 have a2:d.shown.length≤sizeLine:=by rw[e];omega
 simp[Ab6,t.shw,a1,a2]
theorem Mu{w:W}{s:Sto}{d:PyData}{k m:Nat}(h:rdX s 64 w=some d)(t:TameX k m d)(hk:k<60)(hm:m≤250000):Fw w s=.ok (.str d.shown) s:=by
 unfold Fw
 rw[h]
 simp[t.show_ hk hm]
end Fm
set_option maxHeartbeats 1000000
namespace Fm
open PySem L2
end Fm
set_option maxHeartbeats 1000000
namespace Fm
open PySem L2
def Pv(r:R W)(s:Sto)(v:W):Prop:=∃s',r=.ok v s'∧s'.wf∧Keeps s s' []
theorem Pv.of{r:R W}{s:Sto}{v:W}(h:r=.ok v s)(w:s.wf):Pv r s v:=⟨s,h,w,Keeps.refl _ _⟩
theorem AfL:(0≤sizeLine)=True:=eq_true (by decide)
theorem AfK:(1≤sizeLine)=True:=eq_true (by decide)
theorem AfJ:(2≤sizeLine)=True:=eq_true (by decide)
theorem AfI:(3≤sizeLine)=True:=eq_true (by decide)
theorem AfH:(4≤sizeLine)=True:=eq_true (by decide)
theorem AfG:(5≤sizeLine)=True:=eq_true (by decide)
theorem AfF:(6≤sizeLine)=True:=eq_true (by decide)
theorem AfE:(7≤sizeLine)=True:=eq_true (by decide)
theorem AfD:(8≤sizeLine)=True:=eq_true (by decide)
theorem AaM(a b:SM)(z:Env0)(s:Sto)(K:Kt):(Cz a b z s).wp K=(a z s).wp { K with nx:=fun z1 s1=>(b z1 s1).wp K }:=S9 a b z s K
theorem Yi(z:Env0)(s:Sto):Af5 z s=.ok (.ref s.next) (s.new (.dct [])):=rfl
theorem U3(gs:GMs)(ws:List W)(z:Env0)(s:Sto):Adu gs (.tup ws) z s=gs ws z s:=rfl
theorem Ql:Qm []=AaK:=rfl
theorem Oa(i:Nat)(is:List Nat):Qm (i::is)=U5 (gNm i) (Qm is):=rfl
theorem Oc(g:GM)(gs:GMs)(w:W)(ws:List W)(z:Env0)(s:Sto):U5 g gs (w::ws) z s=(g w z s).bind fun z1 s1=>gs ws z1 s1:=rfl
theorem U4(z:Env0)(s:Sto):AaK [] z s=.ok z s:=rfl
end Fm
local macro_rules
 | `(tactic|simp_arith)=>`(tactic|try simp only[Fm.Abv,Fm.Wy,Fm.Wz,Fm.wp_bind,Fm.Tc,Fm.Abr,Fm.Abu,Fm.Abt,Fm.Wx,Fm.Abs,Fm.S9,Fm.AeZ,Fm.Afa,Fm.ev_var,Fm.ev_c,Fm.ev_un,Fm.ev_op,Fm.ev_call,Fm.Ax,Fm.Ah,Fm.Ed,Fm.G7,Fm.Qp,Fm.Yk,Fm.AaO,Fm.Ft,Fm.Yh,Fm.Oq,Fm.Ou,Fm.Iv,Fm.Ot,Fm.Bo,Fm.Mw,Fm.Yj,Fm.Qn,Fm.Qo,Fm.Qq,Fm.R5,Fm.Jy,Fm.Mj,Fm.Jw,Fm.Ms,Fm.Mr,Fm.Ef,Fm.Mi,Fm.Oh,Fm.Ez,Fm.Ru,Fm.Hl,Fm.Mp,Fm.Rp,Fm.Rq,Fm.Rr,Fm.Ml,Fm.Oo,Fm.Ol,Fm.Zf,Fm.AaN,Fm.Rv,Fm.Jx,Fm.G8,Fm.Yd,Fm.Ye,Fm.Ry,Fm.Rx,Fm.Oi,Fm.R3,Fm.R4,Fm.Mv,Fm.Oj,Fm.Rw,Fm.Rz,Fm.Aa,Fm.Jv,List.getElem?_cons_zero,List.getElem?_cons_succ,List.set_cons_zero,List.set_cons_succ,List.cons_append,List.nil_append,List.length_cons,List.length_nil,decide_true,decide_false,Bool.not_true,Bool.not_false,Bool.not_not,Fm.Kt.loop,Fm.kN,Fm.kF,reduceIte,Nat.zero_add,Nat.reduceAdd,and_self,Fm.Ff,Fm.AaP,Fm.Om,Fm.Uu,Fm.Ut,Fm.Uv,Fm.Zz,Fm.Rh,Fm.Hi,Fm.X4,Fm.Rg,Fm.AfL,Fm.AfK,Fm.AfJ,Fm.AfI,Fm.AfH,Fm.AfG,Fm.AfF,Fm.AfE,Fm.AfD,Fm.Cv,Fm.AaM,if_true,Fm.Yi,Bool.false_eq_true,Fm.U3,Fm.Ql,Fm.Oa,Fm.Oc,Fm.U4])
 | `(tactic|simp_arith[$xs,*])=>`(tactic|try simp only[$xs,*,Fm.Abv,Fm.Wy,Fm.Wz,Fm.wp_bind,Fm.Tc,Fm.Abr,Fm.Abu,Fm.Abt,Fm.Wx,Fm.Abs,Fm.S9,Fm.AeZ,Fm.Afa,Fm.ev_var,Fm.ev_c,Fm.ev_un,Fm.ev_op,Fm.ev_call,Fm.Ax,Fm.Ah,Fm.Ed,Fm.G7,Fm.Qp,Fm.Yk,Fm.AaO,Fm.Ft,Fm.Yh,Fm.Oq,Fm.Ou,Fm.Iv,Fm.Ot,Fm.Bo,Fm.Mw,Fm.Yj,Fm.Qn,Fm.Qo,Fm.Qq,Fm.R5,Fm.Jy,Fm.Mj,Fm.Jw,Fm.Ms,Fm.Mr,Fm.Ef,Fm.Mi,Fm.Oh,Fm.Ez,Fm.Ru,Fm.Hl,Fm.Mp,Fm.Rp,Fm.Rq,Fm.Rr,Fm.Ml,Fm.Oo,Fm.Ol,Fm.Zf,Fm.AaN,Fm.Rv,Fm.Jx,Fm.G8,Fm.Yd,Fm.Ye,Fm.Ry,Fm.Rx,Fm.Oi,Fm.R3,Fm.R4,Fm.Mv,Fm.Oj,Fm.Rw,Fm.Rz,Fm.Aa,Fm.Jv,List.getElem?_cons_zero,List.getElem?_cons_succ,List.set_cons_zero,List.set_cons_succ,List.cons_append,List.nil_append,List.length_cons,List.length_nil,decide_true,decide_false,Bool.not_true,Bool.not_false,Bool.not_not,Fm.Kt.loop,Fm.kN,Fm.kF,reduceIte,Nat.zero_add,Nat.reduceAdd,and_self,Fm.Ff,Fm.AaP,Fm.Om,Fm.Uu,Fm.Ut,Fm.Uv,Fm.Zz,Fm.Rh,Fm.Hi,Fm.X4,Fm.Rg,Fm.AfL,Fm.AfK,Fm.AfJ,Fm.AfI,Fm.AfH,Fm.AfG,Fm.AfF,Fm.AfE,Fm.AfD,Fm.Cv,Fm.AaM,if_true,Fm.Yi,Bool.false_eq_true,Fm.U3,Fm.Ql,Fm.Oa,Fm.Oc,Fm.U4])
set_option maxHeartbeats 4000000
namespace K10
open PySem Fm
open L2 hiding St keyOf isNon
theorem Ad1(a b:Nat)(s:Sto):pEq (.int (a:Nat)) (.int (b:Nat)) s=.ok (.bl (decide (a=b))) s:=by
 show Fm.R.ok (W.bl (decide _)) s = _
 rw[show decide (((a:Nat):Int)=((b:Nat):Int))=decide (a=b) from decide_eq_decide.mpr (by omega)]
def esW(x y:W):List W:=[.err "Wrong" [("place", x)],.err "Unknown" [("name", x)],.err "NoCell" [("at", x)],.err "BadRoom" [("size", x)],.err "Unfit" [("at", x)],.err "NoArray" [("index", x)],.err "Broken" [("at", x)],.err "NoPlace" [("place", x)],.err "TooMany" [("limit", x)],.err "NoFunction" [("name", x)],.err "Full" [("limit", x)],.err "Refused" [("deed", x)],.err "NoEntry" [("many", x)],.err "Endless" [("function", x)],.err "BadStatement" [("address", y),("function", x)],.err "Nothing" [],.err "Unlike" [],.err "NoDeed" [],.err "NoText" [],.err "NoCommand" []]
theorem AaR(x y:W)(s:Sto):Ge [x,y] s=.ok (.lst (esW x y)) s:=by rfl
def Afb(x y:W)(q:Nat):W:=((esW x y)[q]?).getD .non
def flW(q:Nat):W:=.lst ((List.range 20).map fun k=>.bl (decide (k=q)))
theorem Abj{P:Nat→Prop}(h:∀q∈[0,1,2,3,4,5,6,7,8,9,10,11,12,13,14,15,16,17,18,19],P q):∀q,q<20→P q:=fun q hq=>h q (by
 have:∀q<20,q∈[0,1,2,3,4,5,6,7,8,9,10,11,12,13,14,15,16,17,18,19]:=by decide
 exact this q hq)
theorem AeA(x y:W)(s:Sto):∀q,q<20→Bp (.lst (esW x y)) (.int (q:Nat)) s=.ok (Afb x y q) s:=by
 refine Abj ?_
 repeat (refine List.forall_mem_cons.mpr ⟨by kernel_rfl,?_⟩)
 exact nofun
theorem Af1(s:Sto):∀q,q<20→pNe (flW q) (flW q) s=.ok (.bl false) s:=by
 refine Abj ?_
 repeat (refine List.forall_mem_cons.mpr ⟨by kernel_rfl,?_⟩)
 exact nofun
theorem Af0(x y:W)(s:Sto):∀q,q<20→Gz [Afb x y q] s=.ok (flW q) s:=by
 refine Abj ?_
 repeat (refine List.forall_mem_cons.mpr ⟨by kernel_rfl,?_⟩)
 exact nofun
theorem Ady(x y:W)(s:Sto):∀q,q<20→Kg errs K6 Kz (Afb x y q) (.sta "TailError") s=.ok (.bl true) s:=by
 refine Abj ?_
 repeat (refine List.forall_mem_cons.mpr ⟨by kernel_rfl,?_⟩)
 exact nofun
theorem AbY(x y:W)(s:Sto):∀q,q<20→Kg errs K6 Kz (Afb x y q) (.ty "ValueError") s=.ok (.bl true) s:=by
 refine Abj ?_
 repeat (refine List.forall_mem_cons.mpr ⟨by kernel_rfl,?_⟩)
 exact nofun
theorem Ad4(a b c d4 d5:Option W)(q:Nat)(s:Sto):R9 (Fm.iRng1 (Ac (eC (.int 20)) Ao)) (gNm 5) Gh (eOp pEq (Af 5) (Af 3)) [5] [a,b,c,some (.int (q:Nat)),d4,d5] s=.ok (flW q) s:=by
 refine Aa6 (List.range 20) (fun k=>W.int (k:Nat)) (fun k=>.bl (decide (k=q))) (gd:=fun _=>true) (Aak rfl (by decide)) (by simp) rfl fun k hk=>?_
 rw[ev_op,show Af 5 ((Cv [a,b,c,some (.int (q:Nat)),d4,d5] [5]).set 5 (some (.int (k:Nat)))) s=.ok (.int (k:Nat)) s from rfl,Aa,show Af 3 ((Cv [a,b,c,some (.int (q:Nat)),d4,d5] [5]).set 5 (some (.int (k:Nat)))) s=.ok (.int (q:Nat)) s from rfl,Aa,Ad1]
theorem Adi(x y:W)(s:Sto)(d3 d4 d5:Option W){K:Kt}(h:∀d3,K.nx [some x,some y,some (.lst (esW x y)),d3,d4,d5] s):(Dr [some x,some y,some (.lst (esW x y)),d3,d4,d5] s).wp K:=by
 unfold Dr
 refine Ww (n:=20) (s1:=s) (fun q z u=>(∃d3,z=[some x,some y,some (.lst (esW x y)),d3,d4,d5])∧u=s) rfl (by decide) ⟨⟨_,rfl⟩,rfl⟩ ?_ ?_
 ·rintro q z u hq ⟨⟨d3,rfl⟩,rfl⟩
  have e1:=AeA x y u q hq
  have e2:=Af0 x y u q hq
  have e3:=Ad4 (some x) (some y) (some (.lst (esW x y))) d4 d5 q u
  have e4:=Af1 u q hq
  have e5:=Ady x y u q hq
  have e6:=AbY x y u q hq
  show(Dd [some x,some y,some (.lst (esW x y)),some (.int (q:Nat)),d4,d5] u).wp _
  unfold Dd Ek Ei
  simp_arith[e1,e2,e3,e4,e5,e6]
  exact⟨⟨_,rfl⟩,trivial⟩
 ·rintro z u ⟨⟨d3,rfl⟩,rfl⟩
  exact h d3
end K10
set_option maxHeartbeats 1000000
namespace Fm
open PySem
open L2 hiding St keyOf isNon
end Fm
set_option maxHeartbeats 1000000
namespace Fm
open PySem
open L2 hiding St keyOf isNon
def St.own(st:St):List Str:=st.read++st.made.toList
end Fm
set_option maxHeartbeats 1000000
namespace Fm
open PySem
open L2 hiding St keyOf isNon
end Fm
set_option maxHeartbeats 1000000
namespace Fm
open PySem
open L2 hiding St keyOf isNon
end Fm
set_option maxHeartbeats 1000000
namespace Fm
open PySem
open L2 hiding St keyOf isNon
theorem Mg{f g:W→Option PyData}(h:∀w d,f w=some d→g w=some d):∀{ws:List W} {ds:List PyData},ws.mapM f=some ds→ws.mapM g=some ds
 | [],ds,e=>by simpa using e
 |w::ws,ds,e=>by
  rw[List.mapM_cons] at e ⊢
  cases q:f w with
  |none=>rw[q] at e;simp at e
  |some d =>
   rw[q] at e
   cases q2:ws.mapM f with
   |none=>rw[q2] at e;simp at e
   |some es =>
    rw[q2] at e
    rw[h w d q,Mg h q2]
    exact e
theorem Aed(s:Sto):∀(n:Nat) (w:W) (d:PyData),rd s n w=some d→rdX s n w=some d:=by
 intro n
 induction n with
 |zero=>intro w d e;cases w<;>simp[rd] at e<;>simp[rdX,e]
 |succ n ih =>
  intro w d e
  cases w with
  |ref i =>
   simp only[rd] at e
   simp only[rdX]
   split at e
   ·rename_i ws hs
    rw[hs]
    dsimp only
    cases q:ws.mapM (rd s n) with
    |none=>rw[q] at e;simp at e
    |some ds=>rw[q] at e;rw[Mg ih q];exact e
   ·cases e
  |tup ws =>
   simp only[rd] at e
   simp only[rdX]
   cases q:ws.mapM (rd s n) with
   |none=>rw[q] at e;simp at e
   |some ds=>rw[q] at e;rw[Mg ih q];exact e
  |lst ws =>
   simp only[rd] at e
   simp only[rdX]
   cases q:ws.mapM (rd s n) with
   |none=>rw[q] at e;simp at e
   |some ds=>rw[q] at e;rw[Mg ih q];exact e
  |_=>simp[rd] at e<;>simp[rdX,e]
theorem Aca{r k m:Nat}{w:W}(h:RdT r k m w)(hr:r≤64)(hk:k<60)(hn:eqS w w=none)(s:Sto):eqD w w s=some true:=by
 obtain⟨d,e,t⟩:=h
 have e1:rd s 64 w=some d:=by rw[show(64:Nat)=(64 - r)+r by omega];exact e s _
 have:=Adz e1 e1 (t.shaped hk) hn
 unfold pEq at this
 cases q:eqD w w s with
 |none=>rw[q] at this;cases this
 |some b=>rw[q] at this;cases this;rfl
theorem AbZ(x:Str)(s:Sto):Abo (.str x) (.str x) s=.ok (.bl true) s:=by
 have:eqD (.str x) (.str x) s=some true:=by
  have:=R6 x x s
  unfold pEq at this
  cases q:eqD (.str x) (.str x) s with
  |none=>rw[q] at this;cases this
  |some b=>rw[q] at this;rw[decide_eq_true rfl] at this;cases this;rfl
 unfold Abo
 rw[this]
theorem Vm{w u:W}{x:Str}{s:Sto}(he:Abo w u s=.ok (.bl true) s)(h1:Fw w s=.ok (.str x) s)(h2:Fw u s=.ok (.str x) s):Fb [w,u] s=.ok (.bl true) s:=by
 refine Rk rfl ?_
 show Sy [some w,some u] s = _
 have v0:Af 0 [some w,some u] s=.ok w s:=rfl
 have v1:Af 1 [some w,some u] s=.ok u s:=rfl
 unfold Sy Vn
 rw[Ef,Ft,ev_op,v0,Aa,v1,Aa,he,Aa,Ed,Aa,if_pos rfl,ev_op,ev_call,Ah,v0,Aa,Ax,Aa,Aa,Ol,h1,Aa,ev_call,Ah,v1,Aa,Ax,Aa,Aa,Ol,h2,Aa,AbZ,Jv]
theorem Ad2{r k m:Nat}{w:W}(h:RdT r k m w)(hr:r≤64)(hk:k<60)(hn:eqS w w=none)(s:Sto):Abo w w s=.ok (.bl true) s:=by
 unfold Abo
 rw[Aca h hr hk hn]
theorem Aal{r k m:Nat}{w:W}(h:RdT r k m w)(hr:r≤64)(hk:k<60)(hm:m≤250000):∃x,∀s,Fw w s=.ok (.str x) s:=by
 obtain⟨d,e,t⟩:=h
 refine⟨d.shown,fun s=>Mu (Aed s 64 w d ?_) t.x hk hm⟩
 rw[show(64:Nat)=(64 - r)+r by omega];exact e s _
theorem Zk{r k m:Nat}{w:W}(h:RdT r k m w)(hr:r≤64)(hk:k<60)(hm:m≤250000)(hn:eqS w w=none)(s:Sto):Fb [w,w] s=.ok (.bl true) s:=by
 obtain⟨x,e⟩:=Aal h hr hk hm
 exact Vm (Ad2 h hr hk hn s) (e s) (e s)
end Fm
set_option maxHeartbeats 4000000
namespace K10
open PySem Fm
open L2 hiding St keyOf isNon
def RX(r m:Nat)(w:W):Prop:=∃d,(∀s n,rdX s (n+r) w=some d)∧TameX r m d
theorem _root_.Fm.TameX.mono{k m k' m':Nat}{d:PyData}(t:TameX k m d)(h1:k≤k')(h2:m≤m'):TameX k' m' d:=⟨t.leaf,t.shw,Nat.le_trans t.dep h1,Nat.le_trans t.wt h2⟩
theorem RX.mono{r m r' m':Nat}{w:W}(h:RX r m w)(h1:r≤r')(h2:m≤m'):RX r' m' w:=by
 obtain⟨d,e,t⟩:=h
 exact⟨d,fun s n=>by rw[show n+r'=(n+(r' - r))+r by omega];exact e s _,t.mono h1 h2⟩
theorem RX.non:RX 0 200 .non:=⟨.none,fun s n=>by cases n<;>rfl,Z5.x.mono (Nat.le_refl _) (by omega)⟩
theorem RX.bl(b:Bool):RX 0 200 (.bl b):=⟨.bool b,fun s n=>by cases n<;>rfl,(Th b).x.mono (Nat.le_refl _) (by omega)⟩
theorem RX.int{i:Int}(h:i.natAbs<10 ^ 60):RX 0 200 (.int i):=⟨.int i,fun s n=>by cases n<;>rfl,(Ab2 h).x⟩
theorem RX.str{x:Str}(h:okS x):RX 0 200 (.str x):=⟨.str x,fun s n=>by cases n<;>rfl,(Qv h).x.mono (Nat.le_refl _) (by omega)⟩
theorem M3{k m:Nat}:∀{ds:List PyData},(∀d∈ds,TameX k m d)→PyData.leavesShortAll 64 ds=true∧PyData.showableAll ds=true∧PyData.depthAll ds≤k∧PyData.weightAll ds≤(m+1)*ds.length
 | [],_=>⟨rfl,rfl,Nat.zero_le _,by simp[PyData.weightAll]⟩
 |d::ds,h=>by
  obtain⟨a2,a3,a5,a6⟩:=M3 fun x hx=>h x (List.mem_cons_of_mem _ hx)
  have t:=h d (by simp)
  refine⟨by simp[PyData.leavesShortAll,t.leaf,a2],by simp[PyData.showableAll,t.shw,a3],?_,?_⟩
  ·simp only[PyData.depthAll];have:=t.dep;omega
  ·simp only[PyData.weightAll,List.length_cons,Nat.mul_add,Nat.mul_one];have:=t.wt;omega
variable {s t:Sto} {r m r' m' lo hi n c:Nat} {w x y:W} {ws us:List W}
structure Gd(s:Sto)(r m:Nat)(w:W):Prop where
 rx:∃d,(∀n,rdX s (n+r) w=some d)∧TameX r m d
 eq:∀n,eqT s (n+r+1) w w=true
theorem Gd.mono(h:Gd s r m w)(h1:r≤r')(h2:m≤m'):Gd s r' m' w:=⟨by
 obtain⟨d,e,t⟩:=h.rx
 exact⟨d,fun n=>by rw[show n+r'=(n+(r' - r))+r by omega];exact e _,t.mono h1 h2⟩,fun n=>by
 rw[show n+r'+1=(n+(r' - r))+r+1 by omega]
 exact h.eq _⟩
theorem Gd.sc(h:RX 0 200 w)(he:eqS w w=some true):Gd s 0 200 w:=⟨by
 obtain⟨d,e,t⟩:=h
 exact⟨d,fun n=>e s n,t⟩,fun n=>by
 show(decide (eqD w w s=some true)||_)=true
 rw[show eqD w w s=some true by unfold eqD;rw[he]]
 rfl⟩
theorem U0:∀{ws:List W},(∀w∈ws,Gd s r m w)→∃ds,(∀n,ws.mapM (rdX s (n+r))=some ds)∧ds.length=ws.length∧∀d∈ds,TameX r m d
 | [],_=>⟨[],fun _=>rfl,rfl,by simp⟩
 |w::ws,h=>by
  obtain⟨d,e,t⟩:=(h w (by simp)).rx
  obtain⟨ds,e2,l2,t2⟩:=U0 (ws:=ws) fun x hx=>h x (List.mem_cons_of_mem _ hx)
  exact⟨d::ds,fun n=>by rw[List.mapM_cons,e,e2];rfl,by simp[l2],fun x hx=>by
   rcases List.mem_cons.mp hx with rfl|hx
   ·exact t
   ·exact t2 x hx⟩
theorem Mx{f:W→W→Bool}:∀{ws:List W},(∀w∈ws,f w w=true)→((ws.zip ws).all fun p=>f p.1 p.2)=true
 | [],_=>rfl
 |w::ws,h=>by
  rw[List.zip_cons_cons,List.all_cons,h w (by simp),Mx fun x hx=>h x (List.mem_cons_of_mem _ hx)]
  rfl
theorem Z3{ds:List PyData}(t:∀d∈ds,TameX r m d)(hl:ds.length≤c):TameX (r+1) ((m+1)*c) (.list ds):=by
 obtain⟨a2,a3,a5,a6⟩:=M3 t
 refine⟨a2,by simpa [PyData.showable] using a3,by simp only[PyData.depth];omega,?_⟩
 simp only[PyData.weight]
 exact Nat.le_trans a6 (Nat.mul_le_mul_left _ (by omega))
theorem AdN{ds:List PyData}(t:∀d∈ds,TameX r m d)(hl:ds.length≤c):TameX (r+1) ((m+1)*c) (.tuple ds):=by
 obtain⟨a2,a3,a5,a6⟩:=M3 t
 refine⟨a2,by simpa [PyData.showable] using a3,by simp only[PyData.depth];omega,?_⟩
 simp only[PyData.weight]
 exact Nat.le_trans a6 (Nat.mul_le_mul_left _ (by omega))
theorem Gd.lst(h:∀w∈ws,Gd s r m w)(hl:ws.length≤c):Gd s (r+1) ((m+1)*c) (.lst ws):=by
 obtain⟨ds,e,l,t⟩:=U0 h
 refine⟨⟨.list ds,fun n=>by show(ws.mapM (rdX s (n+r))).map PyData.list = _;rw[e];rfl,Z3 t (by omega)⟩,fun n=>?_⟩
 show(decide _||AaU s (eqT s (n+r+1)) (.lst ws) (.lst ws))=true
 unfold AaU
 rw[show lOf (.lst ws) s=some ws from rfl]
 dsimp only
 rw[Mx fun w hw=>(h w hw).eq n]
 simp
theorem Gd.tup(h:∀w∈ws,Gd s r m w)(hl:ws.length≤c):Gd s (r+1) ((m+1)*c) (.tup ws):=by
 obtain⟨ds,e,l,t⟩:=U0 h
 refine⟨⟨.tuple ds,fun n=>by show(ws.mapM (rdX s (n+r))).map PyData.tuple = _;rw[e];rfl,AdN t (by omega)⟩,fun n=>?_⟩
 show(decide _||AaU s (eqT s (n+r+1)) (.tup ws) (.tup ws))=true
 unfold AaU
 dsimp only
 rw[Mx fun w hw=>(h w hw).eq n]
 simp
theorem Gd.ref{i:Nat}(g:s.get i=some (.lst ws))(h:∀w∈ws,Gd s r m w)(hl:ws.length≤c):Gd s (r+1) ((m+1)*c) (.ref i):=by
 obtain⟨ds,e,l,t⟩:=U0 h
 refine⟨⟨.list ds,fun n=>by rw[show n+(r+1)=(n+r)+1 from rfl,rdX,g];dsimp only;rw[e];rfl,Z3 t (by omega)⟩,fun n=>?_⟩
 show(decide _||AaU s (eqT s (n+r+1)) (.ref i) (.ref i))=true
 unfold AaU
 rw[show lOf (.ref i) s=some ws by simp only[lOf,g]]
 dsimp only
 rw[Mx fun w hw=>(h w hw).eq n]
 simp
theorem Acg{i:Nat}(g:s.get i=some (.lst us))(h:∀w∈us,Gd s r m w)(hr:r≤30)(hm:(m+1)*us.length≤250000):Fb [.ref i,.lst us] s=.ok (.bl true) s:=by
 obtain⟨ds,e,l,t⟩:=U0 h
 have T:=Z3 (c:=us.length) t (by omega)
 have e1:rdX s 64 (.lst us)=some (.list ds):=by
  show(us.mapM (rdX s 63)).map PyData.list = _
  rw[show(63:Nat)=(63 - r)+r by omega,e];rfl
 have e2:rdX s 64 (.ref i)=some (.list ds):=by
  rw[show(64:Nat)=63+1 from rfl,rdX,g]
  exact e1
 refine Vm ?_ (Mu e2 T (by omega) hm) (Mu e1 T (by omega) hm)
 unfold Abo
 cases q:eqD (.ref i) (.lst us) s with
 |none =>
  dsimp only
  rw[if_pos]
  unfold AaU
  rw[show lOf (.ref i) s=some us by simp only[lOf,g],show lOf (.lst us) s=some us from rfl]
  dsimp only
  rw[Mx fun w hw=>by
   have:=(h w hw).eq (39 - r)
   rwa [show 39 - r+r+1=40 by omega] at this]
  simp
 |some b =>
  unfold eqD at q
  rw[show eqS (.ref i) (.lst us)=none from rfl] at q
  dsimp only at q
  have er:rd s 64 (.ref i)=rd s 64 (.lst us):=by
   rw[show(64:Nat)=63+1 from rfl,rd,g]
   rfl
  rw[er] at q
  cases qd:rd s 64 (.lst us) with
  |none=>rw[qd] at q;cases q
  |some d =>
   rw[qd] at q
   dsimp only at q
   split at q
   ·rename_i hs
    rw[U8 hs.1] at q
    cases q
    rfl
   ·cases q
def Imm(w:W):Prop:=(∀s,Gd s 1 220 w)∧∀s,Hg w (.ty "list") s=.ok (.bl false) s
inductive Tr(s:Sto)(lo:Nat):Nat→Nat→W→Prop
 |imm {n hi:Nat} {w:W}:Imm w→Tr s lo n hi w
 |ref {n hi i:Nat} {ws:List W}:lo≤i→i<hi→s.get i=some (.lst ws)→ws.length≤1→(∀v∈ws,Tr s lo n i v)→Tr s lo (n+1) hi (.ref i)
theorem Tr.keep(h:Tr s lo n hi w)(k:∀i,lo≤i→i<hi→t.get i=s.get i):Tr t lo n hi w:=by
 induction h with
 |imm h=>exact .imm h
 |ref h1 h2 h3 h4 _ ih=>exact .ref h1 h2 (by rw[k _ h1 h2];exact h3) h4 fun v hv=>ih v hv fun i a b=>k i a (by omega)
theorem Tr.gd(h:Tr s lo n hi w):Gd s (n+1) (220+n) w:=by
 induction h with
 |imm h=>exact(h.1 s).mono (by omega) (by omega)
 |ref h1 h2 h3 h4 _ ih=>exact(Gd.ref h3 ih h4).mono (by omega) (by omega)
def Arg(c:Nat)(s:Sto)(lo hi:Nat)(x:W):Prop:=Imm x∨∃i ws,x=.ref i∧lo≤i∧i<hi∧s.get i=some (.lst ws)∧ws.length≤c∧∀v∈ws,Tr s lo 3 i v
theorem Arg.keep(h:Arg c s lo hi w)(k:∀i,lo≤i→i<hi→t.get i=s.get i):Arg c t lo hi w:=by
 rcases h with h|⟨i,ws,rfl,h1,h2,h3,h4,h5⟩
 ·exact .inl h
 ·exact .inr ⟨i,ws,rfl,h1,h2,by rw[k _ h1 h2];exact h3,h4,fun v hv=>(h5 v hv).keep fun j a b=>k j a (by omega)⟩
theorem Arg.gd(h:Arg c s lo hi w)(hc:c≤3):Gd s 5 700 w:=by
 rcases h with h|⟨i,ws,rfl,h1,h2,h3,h4,h5⟩
 ·exact(h.1 s).mono (by omega) (by omega)
 ·exact(Gd.ref h3 (fun v hv=>(h5 v hv).gd) (Nat.le_trans h4 hc)).mono (by omega) (by omega)
theorem Imm.sc(h:RX 0 200 w)(he:eqS w w=some true)(hi:∀s,Hg w (.ty "list") s=.ok (.bl false) s):Imm w:=⟨fun s=>(Gd.sc h he).mono (by omega) (by omega),hi⟩
theorem Imm.tup(h:∀w∈ws,RX 0 200 w∧eqS w w=some true)(hl:ws.length≤1):Imm (.tup ws):=⟨fun s=>(Gd.tup (fun w hw=>Gd.sc (h w hw).1 (h w hw).2) hl).mono (by omega) (by omega),fun _=>rfl⟩
theorem AbR:Imm (.str (Str.ofString "more")):=.sc (.str ⟨by decide +kernel,by decide +kernel⟩) rfl fun _=>rfl
end K10
set_option maxHeartbeats 4000000
namespace K10
open PySem Fm
open L2 hiding St keyOf isNon
variable {s t:Sto} {r m lo hi n c:Nat} {w x y:W} {ws us:List W}
theorem app_ok{a:Nat}{z:Env0}(A:Arg 2 s lo hi x)(wf:s.wf)(hz:z[a]? = some (some x)){K:Kt}
  (h:∀t,t.wf→t.next=s.next→(∀j,(j<lo∨hi≤j)→t.get j=s.get j)→Arg 3 t lo hi x→K.nx z t) :
  (sIf (tOf (Aj (l2 Hg) (Ac (Af a) (Ac (eC (.ty "list")) Ao)))) (Vz (eBM Kv (Zq 1 Ey) (Af a) (Ac (eC (.str (Str.ofString "more"))) Ao))) Fl z s).wp K:=by
 have v0:∀u,Af a z u=.ok x u:=fun u=>by rw[ev_var,hz]
 rcases A with A|⟨i,ws,rfl,h1,h2,h3,h4,h5⟩
 ·have e1:=A.2 s
  simp_arith[v0,e1]
  exact h s wf rfl (fun _ _=>rfl) (.inl A)
 ·have e1:Hg (.ref i) (.ty "list") s=.ok (.bl true) s:=by
   simp only[Hg,Fd,h3];rfl
  have e2:Kv (.ref i) s=true:=by simp only[Kv,h3]
  have e3:Zq 1 Ey (.ref i) [.str (Str.ofString "more")] s=.ok .non (s.set i (.lst (ws++[.str (Str.ofString "more")]))):=Ov h3 (G9 (by omega))
  simp_arith[v0,e1,e2,e3]
  refine h _ (wf.set (wf _ _ h3) _) rfl (fun j hj=>Ar _ _ (by omega)) (.inr ⟨i,_,rfl,h1,h2,Az ..,by simp;omega,fun v hv=>?_⟩)
  rcases List.mem_append.mp hv with hv|hv
  ·exact(h5 v hv).keep fun j a b=>Ar _ _ (by omega)
  ·rw[List.mem_singleton.mp hv];exact .imm AbR
abbrev zR(x y:W)(d3 d4 d5:Option W):Env0:=[some x,some y,some (.lst (esW x y)),d3,d4,d5]
theorem Afl(d3 d4 d5:Option W)(s:Sto):Dq (zR x y d3 d4 d5) s=.nx (zR x y d3 (some (.ref s.next)) d5) (s.new (.lst [x,x,x,x,x,x,x])):=by kernel_rfl
theorem Afk(d3 d4 d5:Option W)(s:Sto):Vo (Ac (eUn (Dy errs "place") (eOp Bp (Af 2) (eC (.int 7)))) (Ac (eUn (Dy errs "limit") (eOp Bp (Af 2) (eC (.int 8)))) (Ac (eUn (Dy errs "name") (eOp Bp (Af 2) (eC (.int 9)))) (Ac (eUn (Dy errs "limit") (eOp Bp (Af 2) (eC (.int 10)))) (Ac (eUn (Dy errs "deed") (eOp Bp (Af 2) (eC (.int 11)))) (Ac (eUn (Dy errs "many") (eOp Bp (Af 2) (eC (.int 12)))) Ao)))))) (zR x y d3 d4 d5) s=.ok (.ref s.next) (s.new (.lst [x,x,x,x,x,x])):=by kernel_rfl
theorem Afj(d3 d4 d5:Option W)(s:Sto):Ac (eUn (Dy errs "function") (eOp Bp (Af 2) (eC (.int 13)))) Ao (zR x y d3 d4 d5) s=.ok [x] s:=by kernel_rfl
theorem Afi(d3 d4 d5:Option W)(s:Sto):Vo (Ac (eUn (Dy errs "function") (eOp Bp (Af 2) (eC (.int 14)))) (Ac (eUn (Dy errs "address") (eOp Bp (Af 2) (eC (.int 14)))) Ao)) (zR x y d3 d4 d5) s=.ok (.ref s.next) (s.new (.lst [x,y])):=by kernel_rfl
def AdG(x y:W):List W:=[x,x,x,x,x,x,x,x,x,x,x,x,x,x,x,y]
theorem AeF(d3 d4 d5:Option W)(s:Sto):eOp Hq (eOp AbG (Ci (Ac (Af 0) Ao)) (eC (.int 14))) (Ci (Ac (Af 0) (Ac (Af 1) Ao))) (zR x y d3 d4 d5) s=.ok (.lst (AdG x y)) s:=by kernel_rfl
theorem Aa1(z:Env0)(s:Sto):Ad3 (Aj (l2 (Kg errs K6 Kz)) (Ac (eC (.err "TailError" [])) (Ac (eC (.sta "Wrong")) Ao))) z s=.ok (.bl true) s:=by kernel_rfl
theorem Xi{lo1 hi1 lo2 hi2:Nat}(X:Arg 2 s lo1 hi1 x)(Y:Arg 2 s lo2 hi2 y)(wf:s.wf)(hd:hi1≤lo2∨hi2≤lo1)(z1:hi1≤s.next)(z2:hi2≤s.next) :
  ∃t,Bm [x,y] s=.ok (.bl true) t∧t.wf∧s.next≤t.next∧∀j,j<lo1→j<lo2→j<s.next→t.get j=s.get j:=by
 obtain⟨w,t,e,rfl,h⟩:=Adw (n:=6) (np:=2) (b:=Bw) (ws:=[x,y]) (s:=s) (Q:=fun w t=>w=.bl true∧t.wf∧s.next≤t.next∧∀j,j<lo1→j<lo2→j<s.next→t.get j=s.get j) rfl (by
  have e0:=AaR x y s
  show(Bw [some x,some y,none,none,none,none] s).wp _
  unfold Bw Fg
  simp_arith[e0]
  refine Adi x y s none none none fun d3=>?_
  dsimp only
  have E2:Dq [some x,some y,some (.lst (esW x y)),d3,none,none] s = _:=Afl d3 none none s
  rw[E2,Tc]
  dsimp only
  let s1:=s.new (.lst [x,x,x,x,x,x,x])
  let s2:=s1.new (.lst [x,x,x,x,x,x])
  let s3:=s2.new (.lst [x,x,x,x,x,x,x,x,x,x,x,x,x])
  let s4:=s3.set s2.next (.lst [x,x,x,x,x,x,x,x,x,x,x,x,x,x])
  let s5:=s4.new (.lst [x,y])
  let s6:=s5.new (.lst (AdG x y))
  have w3:s3.wf:=((wf.new _).new _).new _
  have w4:s4.wf:=w3.set (Nat.lt_succ_self _) _
  have w6:s6.wf:=(w4.new _).new _
  have g1:s2.get s.next=some (.lst [x,x,x,x,x,x,x]):=by
   rw[Am _ _ (by show s.next≠s.next+1;omega)];exact Aq ..
  have g2:s2.get s1.next=some (.lst [x,x,x,x,x,x]):=Aq ..
  have e3:Hq (.ref s.next) (.ref s1.next) s2=.ok (.ref s2.next) s3:=AaQ g1 g2 (by show 7+6≤sizeLine;decide)
  have E3:Ca (zR x y d3 (some (.ref s.next)) none) s1=.nx (zR x y d3 (some (.ref s2.next)) none) s3:=by
   unfold Ca
   rw[Ez,ev_op,show Af 4 (zR x y d3 (some (.ref s.next)) none) s1=.ok (.ref s.next) s1 from rfl,Aa,Afk,Aa,e3]
   rfl
  have g3:s3.get s2.next=some (.lst [x,x,x,x,x,x,x,x,x,x,x,x,x]):=Aq ..
  have a1:Kv (.ref s2.next) s3=true:=by simp only[Kv,g3]
  have a2:Zq 1 Ey (.ref s2.next) [x] s3=.ok .non s4:=Ov g3 (G9 (by show 13≤100000;decide))
  have E4:Do (zR x y d3 (some (.ref s2.next)) none) s3=.nx (zR x y d3 (some (.ref s2.next)) none) s4:=by
   have v4:Af 4 (zR x y d3 (some (.ref s2.next)) none) s3=.ok (.ref s2.next) s3:=rfl
   have t4:=Afj (x:=x) (y:=y) d3 (some (.ref s2.next)) none s3
   unfold Do Vz eBM
   rw[v4,Aa,if_pos a1,t4,Aa,a2]
   rfl
  have g4:s5.get s2.next=some (.lst [x,x,x,x,x,x,x,x,x,x,x,x,x,x]):=by
   rw[Am _ _ (by show s2.next≠s2.next+1;omega)];exact Az ..
  have g5:s5.get s4.next=some (.lst [x,y]):=Aq ..
  have e5:Hq (.ref s2.next) (.ref s4.next) s5=.ok (.ref s5.next) s6:=AaQ g4 g5 (by show 14+2≤sizeLine;decide)
  have E5:Dm (zR x y d3 (some (.ref s2.next)) none) s4=.nx (zR x y d3 (some (.ref s5.next)) none) s6:=by
   unfold Dm
   rw[Ez,ev_op,show Af 4 (zR x y d3 (some (.ref s2.next)) none) s4=.ok (.ref s2.next) s4 from rfl,Aa,Afi,Aa,e5]
   rfl
  have n6:s5.next=s.next+4∧s6.next=s.next+5:=⟨rfl,rfl⟩
  have k6:∀j,j<s.next→s6.get j=s.get j:=fun j hj=>by
   rw[Am _ _ (by show j≠s.next+4;omega),Am _ _ (by show j≠s.next+3;omega),Ar _ _ (by show j≠s.next+2;omega),Am _ _ (by show j≠s.next+2;omega),Am _ _ (by show j≠s.next+1;omega),Am _ _ (by omega)]
  have g6:s6.get s5.next=some (.lst (AdG x y)):=Aq ..
  have X6:Arg 2 s6 lo1 hi1 x:=X.keep fun i a b=>k6 i (by omega)
  have Y6:Arg 2 s6 lo2 hi2 y:=Y.keep fun i a b=>k6 i (by omega)
  show(Ca (zR x y d3 (some (.ref s.next)) none) s1).wp _
  rw[E3,Tc]
  dsimp only
  rw[E4,Tc]
  dsimp only
  rw[E5,Tc]
  dsimp only
  refine app_ok X6 w6 rfl fun t7 w7 n7 k7 X7=>?_
  dsimp only
  have Y7:Arg 2 t7 lo2 hi2 y:=Y6.keep fun i a b=>k7 i (by omega)
  refine app_ok Y7 w7 rfl fun t8 w8 n8 k8 Y8=>?_
  dsimp only
  have X8:Arg 3 t8 lo1 hi1 x:=X7.keep fun i a b=>k8 i (by omega)
  have g8:t8.get s5.next=some (.lst (AdG x y)):=by
   rw[k8 _ (by omega),k7 _ (by omega)];exact g6
  have al:Fb [.ref s5.next,.lst (AdG x y)] t8=.ok (.bl true) t8:=Acg g8 (r:=5) (m:=700) (fun w hw=>by
   have:w=x∨w=y:=by
    simp only[AdG,List.mem_cons,List.not_mem_nil,or_false,or_self] at hw
    simpa [or_assoc] using hw
   rcases this with rfl|rfl
   ·exact X8.gd (by omega)
   ·exact Y8.gd (by omega)) (by omega) (by show(700+1)*16≤250000;decide)
  have d8:=AeF (x:=x) (y:=y) d3 (some (.ref s5.next)) none t8
  have n8':=Aa1 (zR x y d3 (some (.ref s5.next)) none) t8
  have v8:Af 4 (zR x y d3 (some (.ref s5.next)) none) t8=.ok (.ref s5.next) t8:=rfl
  show(Dk (zR x y d3 (some (.ref s5.next)) none) t8).wp _
  unfold Dk
  rw[Ef,Ft,ev_call,Ah,v8,Aa,Ah,d8,Aa,Ax,Aa,Aa,Aa,al,Aa,Ed,Aa,if_pos rfl,n8']
  refine⟨rfl,w8,by omega,fun j j1 j2 j3=>?_⟩
  rw[k8 j (by omega),k7 j (by omega),k6 j j3])
 exact⟨t,e,h⟩
end K10
set_option maxHeartbeats 4000000
namespace K10
open PySem Fm
open L2 hiding St keyOf isNon
theorem Pj:∀cs:List Nat,strsOf (cs.map fun c=>W.str ⟨#[c]⟩)=some (cs.map fun c=>(⟨#[c]⟩:Str))
 | []=>rfl
 |c::cs=>by simp only[List.map_cons,strsOf,Pj cs,Option.map_some]
theorem Aaa:∀cs:List Nat,((cs.map fun c=>(⟨#[c]⟩:Str)).map (·.length)).sum=cs.length
 | []=>rfl
 |c::cs=>by
  simp only[List.map_cons,List.sum_cons,List.length_cons,Aaa cs]
  have:(⟨#[c]⟩:Str).length=1:=rfl
  omega
theorem AbV(cs:List Nat):(cs.map fun c=>(⟨#[c]⟩:Str)).flatMap (fun y=>y.cps.toList)=cs:=by
 induction cs with
 |nil=>rfl
 |cons c cs ih=>rw[List.map_cons,List.flatMap_cons,ih];rfl
theorem Adp(cs:List Nat)(h:∀c∈cs,c<128)(hz:cs.length≤10):okS (Txt.join (Str.ofString "") (cs.map fun c=>(⟨#[c]⟩:Str))):=by
 have e:=Xu (cs.map fun c=>(⟨#[c]⟩:Str))
 rw[AbV] at e
 refine Xn ?_ (by rw[e];exact hz)
 rw[e,List.all_eq_true]
 exact fun c hc=>decide_eq_true (by have:=h c hc;omega)
theorem Ie{n np:Nat}{b:SM}{ws:List W}{s:Sto}{v:W}(hl:ws.length=np)(h:(b (Jg n ws) s).wp (kF fun w t=>w=v∧t=s)):Ip n np b ws s=.ok v s:=by
 obtain⟨w,t,e,rfl,rfl⟩:=Adw hl h
 exact e
theorem AeH{x:Str}(h:okS x)(lo hi:Option Int):okS (cutS x lo hi):=by
 have e:(cutS x lo hi).cps.toList=(x.cps.toList.drop (HT.sIx x.length 0 lo)).take (HT.sIx x.length x.length hi - HT.sIx x.length 0 lo):=by
  unfold cutS;simp
 refine Xn ?_ ?_
 ·rw[e,List.all_eq_true]
  intro c hc
  have hc:=List.mem_of_mem_drop (List.mem_of_mem_take hc)
  have h1:=h.1
  unfold PyData.strOk at h1
  rw[Array.all_eq_true_iff_forall_mem] at h1
  have:=h1 c (Array.mem_toList_iff.mp hc)
  simpa using this
 ·rw[e]
  have:=h.2
  have h3:x.cps.toList.length=x.cps.size:=Array.length_toList
  simp only[List.length_take,List.length_drop]
  omega
abbrev N6:Str:=Str.ofString "abcdefghijklmnopqrstuvwxyz"
def nmB(x:Str):Bool:=decide (1≤x.cps.size)&&decide (x.cps.size≤8)&&x.cps.toList.all fun c=>decide (c∈N6.cps.toList)
theorem len_str{x:Str}(h:okS x)(s:Sto):Zo (.str x) s=.ok (.int (x.cps.size:Nat)) s:=by
 have hl:x.length=x.cps.size:=rfl
 have:=h.2
 show(if x.length≤sizeLine then R.ok (W.int x.length) s else .bad) = _
 rw[if_pos (Pq (by rw[hl];omega)),hl]
theorem Ze{x:Str}(h:okS x)(s:Sto):Ku [.str x] s=.ok (.bl (nmB x)) s:=by
 refine Ie rfl ?_
 show(G4 [some (.str x),none] s).wp _
 have e0:=len_str h s
 have e1:=Fm.We x s
 have h2:=h.2
 have lc:R9 (AaI (Af 0)) (gNm 1) Gh (eOp (AdE false) (Af 1) (eC (.str N6))) [1] [some (.str x),none] s=.ok (.lst (x.cps.toList.map fun c=>.bl (decide (c∈N6.cps.toList)))) s:=by
  rw[Aa6 x.cps.toList (fun c=>W.str ⟨#[c]⟩) (fun c=>.bl (decide (c∈N6.cps.toList))) (s1:=s) (gd:=fun _=>true) rfl (by rw[Array.length_toList];omega) rfl ?_]
  intro c hc
  rw[ev_op,show Af 1 ((Cv [some (.str x),none] [1]).set 1 (some (.str ⟨#[c]⟩))) s=.ok (.str ⟨#[c]⟩) s from rfl,Aa,ev_c,Aa]
  rfl
 have pa:=AbJ (fun c:Nat=>decide (c∈N6.cps.toList)) x.cps.toList s
 by_cases q1:1≤x.cps.size
 ·by_cases q2:x.cps.size≤8
  ·have d1:decide ((1:Int)≤(x.cps.size:Nat))=true:=decide_eq_true (by omega)
   have d2:decide (((x.cps.size:Nat):Int)≤8)=true:=decide_eq_true (by omega)
   simp_arith[G4,G3,e0,e1,Bo,G8,d1,d2,Ux,lc,pa]
   simp[nmB,q1,q2]
  ·have d1:decide ((1:Int)≤(x.cps.size:Nat))=true:=decide_eq_true (by omega)
   have d2:decide (((x.cps.size:Nat):Int)≤8)=false:=decide_eq_false (by omega)
   simp_arith[G4,G3,e0,e1,Bo,G8,d1,d2,Gk]
   simp[nmB,q2]
 ·have d1:decide ((1:Int)≤(x.cps.size:Nat))=false:=decide_eq_false (by omega)
  simp_arith[G4,G3,e0,e1,Bo,G8,d1,Gk]
  simp[nmB,q1]
theorem Zx{x:Str}(h:okS x)(s:Sto):Dz [.str x] s=.ok (.bl (nmB x)) s:=by
 refine Ie rfl ?_
 show(Ck [some (.str x),none] s).wp _
 have e0:=len_str h s
 have e1:=Fm.We x s
 have h2:=h.2
 have lc:R9 (AaI (Af 0)) (gNm 1) (tOf (eOp (AdE true) (Af 1) (eC (.str N6)))) (Af 1) [1] [some (.str x),none] s=.ok (lS ((x.cps.toList.filter fun c=>!decide (c∈N6.cps.toList)).map fun c=>(⟨#[c]⟩:Str))) s:=by
  rw[Xr x.cps.toList (fun c=>W.str ⟨#[c]⟩) (fun c=>!decide (c∈N6.cps.toList)) (fun c=>W.str ⟨#[c]⟩) (s1:=s) (gd:=fun _=>true) rfl (by rw[Array.length_toList];omega) rfl ?_ ?_]
  ·simp[lS,Function.comp_def]
  ·intro c hc
   rw[G7,ev_op,show Af 1 ((Cv [some (.str x),none] [1]).set 1 (some (.str ⟨#[c]⟩))) s=.ok (.str ⟨#[c]⟩) s from rfl,Aa,ev_c,Aa]
   rfl
  ·intro c hc _
   rfl
 have ok1:Lp ((x.cps.toList.filter fun c=>!decide (c∈N6.cps.toList)).map fun c=>(⟨#[c]⟩:Str)):=fun y hy=>by
  obtain⟨c,hc,rfl⟩:=List.mem_map.mp hy
  have hc:=(List.mem_filter.mp hc).1
  refine Xn ?_ (by show 1≤10;decide)
  have h1:=h.1
  unfold PyData.strOk at h1
  rw[Array.all_eq_true_iff_forall_mem] at h1
  have:=h1 c (Array.mem_toList_iff.mp hc)
  simpa using this
 have pe:=Ad0 ok1 s
 have pe':pEq (lS ((x.cps.toList.filter fun c=>!decide (c∈N6.cps.toList)).map fun c=>(⟨#[c]⟩:Str))) (.lst []) s=.ok (.bl (x.cps.toList.all fun c=>decide (c∈N6.cps.toList))) s:=by
  rw[pe]
  congr 2
  rw[Bool.eq_iff_iff,List.isEmpty_iff,List.map_eq_nil_iff,List.filter_eq_nil_iff,List.all_eq_true]
  simp
 by_cases q1:1≤x.cps.size
 ·by_cases q2:x.cps.size≤8
  ·have d1:decide ((0:Int)<(x.cps.size:Nat))=true:=decide_eq_true (by omega)
   have d2:decide (((x.cps.size:Nat):Int)<9)=true:=decide_eq_true (by omega)
   simp_arith[Ck,Dj,e0,e1,Bo,Jx,d1,d2,Kc,lc,pe']
   simp[nmB,q1,q2]
  ·have d1:decide ((0:Int)<(x.cps.size:Nat))=true:=decide_eq_true (by omega)
   have d2:decide (((x.cps.size:Nat):Int)<9)=false:=decide_eq_false (by omega)
   simp_arith[Ck,Dj,e0,e1,Bo,Jx,d1,d2,Di]
   simp[nmB,q2]
 ·have d1:decide ((0:Int)<(x.cps.size:Nat))=false:=decide_eq_false (by omega)
  simp_arith[Ck,Dj,e0,e1,Bo,Jx,d1,Di]
  simp[nmB,q1]
end K10
set_option maxHeartbeats 4000000
namespace K10
open PySem Fm
open L2 hiding St keyOf isNon
variable {s t:Sto} {b l lo hi n c:Nat} {w x y:W} {ws us:List W}
theorem tk(q:Nat)(w:s.wf)(h:BagAt s b l)(hn:l≤s.next)(h1:0<q)(h2:q<1073741824):∃(v:Nat) (s':Sto),Cd [.ref b,.int (q:Nat)] s=.ok (.int v) s'∧v<q∧s'.wf∧BagAt s' b l∧l≤s'.next∧s'.next=s.next∧Keeps s s' [b]:=by
 obtain⟨v,s',e,a,r⟩:=AdO (many:=(q:Nat)) w h hn (by omega) (by omega)
 exact⟨v,s',e,by omega,r⟩
def Uq(n:Nat):List W:=[.non,.bl true,.bl false,.int 0,.int 1,.int (-1),.int (10 ^ 39),.str (Str.ofString ""),.str (Str.ofString "a"),.str (Str.ofString "0"),.tup [],.ref (n+4),.dct [],.ref (n+5),.tup [.int 0],.tup [.str (Str.ofString "a")],.dct [(.inr (Str.ofString "a"),.int 0)],.ref (n+3)]
def S8(s:Sto):Sto:=(((((s.new (.lst [])).new (.lst [.ref s.next])).new (.lst [.ref (s.next+1)])).new (.lst [.ref (s.next+2)])).new (.lst [])).new (.lst [.int 0])
structure OddAt(t:Sto)(n:Nat):Prop where
 a0:t.get n=some (.lst [])
 a1:t.get (n+1)=some (.lst [.ref n])
 a2:t.get (n+2)=some (.lst [.ref (n+1)])
 a3:t.get (n+3)=some (.lst [.ref (n+2)])
 a4:t.get (n+4)=some (.lst [])
 a5:t.get (n+5)=some (.lst [.int 0])
theorem Adg(s:Sto):OddAt (S8 s) s.next:=⟨by unfold S8;rw[Am _ _ (by show s.next≠s.next+5;omega),Am _ _ (by show s.next≠s.next+4;omega),Am _ _ (by show s.next≠s.next+3;omega),Am _ _ (by show s.next≠s.next+2;omega),Am _ _ (by show s.next≠s.next+1;omega)];exact Aq ..,
 by unfold S8;rw[Am _ _ (by show s.next+1≠s.next+5;omega),Am _ _ (by show s.next+1≠s.next+4;omega),Am _ _ (by show s.next+1≠s.next+3;omega),Am _ _ (by show s.next+1≠s.next+2;omega)];exact Aq ..,
 by unfold S8;rw[Am _ _ (by show s.next+2≠s.next+5;omega),Am _ _ (by show s.next+2≠s.next+4;omega),Am _ _ (by show s.next+2≠s.next+3;omega)];exact Aq ..,
 by unfold S8;rw[Am _ _ (by show s.next+3≠s.next+5;omega),Am _ _ (by show s.next+3≠s.next+4;omega)];exact Aq ..,
 by unfold S8;rw[Am _ _ (by show s.next+4≠s.next+5;omega)];exact Aq ..,
 by unfold S8;exact Aq ..⟩
theorem OddAt.keep(h:OddAt s n)(k:∀i,n≤i→i<n+6→t.get i=s.get i):OddAt t n:=⟨by rw[k _ (by omega) (by omega)];exact h.a0,by rw[k _ (by omega) (by omega)];exact h.a1,by rw[k _ (by omega) (by omega)];exact h.a2,by rw[k _ (by omega) (by omega)];exact h.a3,by rw[k _ (by omega) (by omega)];exact h.a4,by rw[k _ (by omega) (by omega)];exact h.a5⟩
theorem Zb(wf:s.wf):(S8 s).wf∧Keeps s (S8 s) []:=⟨(((((wf.new _).new _).new _).new _).new _).new _,((((((Keeps.new s _ []).trans (Keeps.new _ _ _)).trans (Keeps.new _ _ _)).trans (Keeps.new _ _ _)).trans (Keeps.new _ _ _)).trans (Keeps.new _ _ _))⟩
theorem Aen:eOp Acx (eC (.int 10)) (eC (.int 39))=eC (.int (10 ^ 39)):=by
 funext z s
 rw[ev_op,ev_c,Aa,ev_c,Aa]
 show Acx _ _ s = _
 unfold Acx pIc
 dsimp only
 rw[if_pos (by unfold CPow;decide)]
 kernel_rfl
theorem Aet(s:Sto)(d2 d3:Option W):∃d2',∀B:SM,Cz Oz (Cz Ka (Cz J9 B)) [some (.ref b),none,d2,d3] s=B [some (.ref b),some (.ref (s.next+3)),d2',some (.lst (Uq s.next))] (S8 s):=by
 have r:=Aak (as:=Ac (eC (.int 3)) Ao) (z:=[some (.ref b),some (.ref s.next),d2,d3]) (s:=s.new (.lst [])) (s1:=s.new (.lst [])) (n:=3) rfl (by decide)
 refine⟨some (.int 2),fun B=>?_⟩
 have E0:Oz [some (.ref b),none,d2,d3] s=.nx [some (.ref b),some (.ref s.next),d2,d3] (s.new (.lst [])):=by kernel_rfl
 have E1:Ka [some (.ref b),some (.ref s.next),d2,d3] (s.new (.lst []))=.nx [some (.ref b),some (.ref (s.next+3)),some (.int 2),d3] ((((s.new (.lst [])).new (.lst [.ref s.next])).new (.lst [.ref (s.next+1)])).new (.lst [.ref (s.next+2)])):=by
  unfold Ka Abn
  rw[r]
  kernel_rfl
 have E2:J9 [some (.ref b),some (.ref (s.next+3)),some (.int 2),d3] ((((s.new (.lst [])).new (.lst [.ref s.next])).new (.lst [.ref (s.next+1)])).new (.lst [.ref (s.next+2)]))=.nx [some (.ref b),some (.ref (s.next+3)),some (.int 2),some (.lst (Uq s.next))] (S8 s):=by
  unfold J9
  rw[Aen]
  kernel_rfl
 rw[Bg E0,Bg E1,Bg E2]
def Fo(n v:Nat):W:=((Uq n)[v]?).getD .non
theorem V7{n v:Nat}(h:v<18):Fo n v∈Uq n:=by
 have:v<(Uq n).length:=h
 rw[Fo,List.getElem?_eq_getElem this]
 exact List.getElem_mem this
theorem Adf{n v:Nat}(h:v<18)(s:Sto):Bp (.lst (Uq n)) (.int (v:Nat)) s=.ok (Fo n v) s:=by
 have:v<(Uq n).length:=h
 refine AaH s ?_
 rw[atI_nat]
 unfold Fo
 rw[List.getElem?_eq_getElem this,Option.getD_some]
theorem Aa0(wf:s.wf)(hb:BagAt s b l)(hn:l≤s.next):∃v t,v<18∧Gy [.ref b] s=.ok (Fo s.next v) t∧t.wf∧BagAt t b l∧t.next=s.next+6∧Keeps s t [b]∧OddAt t s.next:=by
 obtain⟨d2,e⟩:=Aet (b:=b) s none none
 obtain⟨w1,k1⟩:=Zb wf
 have n1:(S8 s).next=s.next+6:=rfl
 have b1:BagAt (S8 s) b l:=hb.keeps hn k1 (by simp)
 obtain⟨v,t,e2,hv,w2,b2,n2,x2,k2⟩:=tk 18 w1 b1 (by omega) (by omega) (by omega)
 refine⟨v,t,hv,Rk rfl ?_,w2,b2,by omega,(k1.mono (by simp)).trans k2,(Adg s).keep fun i a c=>k2.get i (by omega) (by have:=hb.lt;simp;omega)⟩
 show Su [some (.ref b),none,none,none] s = _
 unfold Su
 rw[e]
 unfold Vg
 have e2':Cd [.ref b,.int 18] (S8 s)=.ok (.int (v:Nat)) t:=e2
 rw[Ef,ev_op,show Af 3 [some (.ref b),some (.ref (s.next+3)),d2,some (.lst (Uq s.next))] (S8 s)=.ok (.lst (Uq s.next)) (S8 s) from rfl,Aa,ev_call,Ah,show Af 0 [some (.ref b),some (.ref (s.next+3)),d2,some (.lst (Uq s.next))] (S8 s)=.ok (.ref b) (S8 s) from rfl,Aa,Ah,ev_c,Aa,Ax,Aa,Aa,Aa,e2',Aa,Adf hv]
 rfl
theorem Dg{x:Str}(h:(PyData.strOk x&&decide (x.cps.size≤10))=true):okS x:=by
 rw[Bool.and_eq_true] at h
 exact⟨h.1,of_decide_eq_true h.2⟩
theorem X3:Imm (.dct []):=⟨fun s=>⟨⟨.dict [],fun n=>rfl,⟨rfl,rfl,by decide,by decide⟩⟩,fun n=>rfl⟩,fun _=>rfl⟩
theorem Xz:Imm (.dct [(.inr (Str.ofString "a"),.int 0)]):=⟨fun s=>⟨⟨.dict [(.str (Str.ofString "a"),.int 0)],fun n=>by cases n<;>rfl,⟨by decide +kernel,by decide +kernel,by decide,by decide +kernel⟩⟩,fun n=>by kernel_rfl⟩,fun _=>rfl⟩
theorem AaE:Imm .non:=.sc .non rfl fun _=>rfl
theorem AaF(k:Bool):Imm (.bl k):=.sc (.bl k) (by cases k<;>rfl) fun _=>by cases k<;>rfl
theorem G6{i:Int}(h:i.natAbs<10 ^ 60):Imm (.int i):=.sc (.int h) (by show some (decide (i=i)) = _;rw[decide_eq_true rfl]) fun _=>rfl
theorem N7{x:Str}(h:okS x):Imm (.str x):=.sc (.str h) (by show some (decide (x=x)) = _;rw[decide_eq_true rfl]) fun _=>rfl
theorem Kr(h:OddAt t n):∀w∈Uq n,Arg 2 t n (n+6) w:=by
 unfold Uq
 refine List.forall_mem_cons.mpr ⟨.inl AaE,?_⟩
 refine List.forall_mem_cons.mpr ⟨.inl (AaF _),?_⟩
 refine List.forall_mem_cons.mpr ⟨.inl (AaF _),?_⟩
 refine List.forall_mem_cons.mpr ⟨.inl (G6 (by decide)),?_⟩
 refine List.forall_mem_cons.mpr ⟨.inl (G6 (by decide)),?_⟩
 refine List.forall_mem_cons.mpr ⟨.inl (G6 (by decide)),?_⟩
 refine List.forall_mem_cons.mpr ⟨.inl (G6 (by decide)),?_⟩
 refine List.forall_mem_cons.mpr ⟨.inl (N7 (Dg (by decide +kernel))),?_⟩
 refine List.forall_mem_cons.mpr ⟨.inl (N7 (Dg (by decide +kernel))),?_⟩
 refine List.forall_mem_cons.mpr ⟨.inl (N7 (Dg (by decide +kernel))),?_⟩
 refine List.forall_mem_cons.mpr ⟨.inl (.tup (ws:=[]) nofun (by decide)),?_⟩
 refine List.forall_mem_cons.mpr ⟨.inr ⟨_,_,rfl,by omega,by omega,h.a4,by simp,nofun⟩,?_⟩
 refine List.forall_mem_cons.mpr ⟨.inl X3,?_⟩
 refine List.forall_mem_cons.mpr ⟨.inr ⟨_,_,rfl,by omega,by omega,h.a5,by simp,fun v hv=>by rw[List.mem_singleton.mp hv];exact .imm (G6 (by decide))⟩,?_⟩
 refine List.forall_mem_cons.mpr ⟨.inl (.tup (ws:=[.int 0]) (fun w hw=>by rw[List.mem_singleton.mp hw];exact⟨.int (by decide),rfl⟩) (by decide)),?_⟩
 refine List.forall_mem_cons.mpr ⟨.inl (.tup (ws:=[.str (Str.ofString "a")]) (fun w hw=>by rw[List.mem_singleton.mp hw];exact⟨.str (Dg (by decide +kernel)),rfl⟩) (by decide)),?_⟩
 refine List.forall_mem_cons.mpr ⟨.inl Xz,?_⟩
 refine List.forall_mem_cons.mpr ⟨.inr ⟨_,_,rfl,by omega,by omega,h.a3,by simp,fun v hv=>by
  rw[List.mem_singleton.mp hv]
  refine .ref (by omega) (by omega) h.a2 (by simp) fun v hv=>?_
  rw[List.mem_singleton.mp hv]
  refine .ref (by omega) (by omega) h.a1 (by simp) fun v hv=>?_
  rw[List.mem_singleton.mp hv]
  exact .ref (by omega) (by omega) h.a0 (by simp) nofun⟩,nofun⟩
end K10
set_option maxHeartbeats 4000000
namespace K10
open PySem Fm
open L2 hiding St keyOf isNon
variable {s t:Sto} {b l lo hi n c:Nat} {w x y:W} {ws us:List W}
abbrev Adk:Str:=Str.ofString "abcdefghijklmnopqrstuvwxyzA_1 "
theorem Aey{v:Nat}(h:v<30)(s:Sto):∃c,c<128∧V4 (.str Adk) (.int (v:Nat)) s=.ok (.str ⟨#[c]⟩) s:=by
 have hs:Adk.cps.size=30:=by decide
 have hall:(Adk.cps.toList.all fun c=>decide (c<128))=true:=by decide
 have hv:v<Adk.cps.size:=by omega
 refine⟨Adk.cps[v],?_,?_⟩
 ·exact of_decide_eq_true (List.all_eq_true.mp hall _ (Array.getElem_mem_toList hv))
 ·simp only[V4]
  rw[if_pos ⟨by omega,by omega⟩,Int.toNat_natCast,Array.getElem?_eq_getElem hv]
abbrev zW(b:Nat)(d2 d3 d4:Option W):Env0:=[some (.ref b),some (.str Adk),d2,d3,d4]
theorem Aa3{d2 d3 d4:Option W}(wf:s.wf)(hb:BagAt s b l)(hn:l≤s.next) :
  ∃c t,c<128∧eOp V4 (Af 1) (Aj Cd (Ac (Af 0) (Ac (eOp Bp (Ci (Ac (eC (.int 26)) (Ac (eC (.int 26)) (Ac (eC (.int 30)) Ao)))) (Aj Cd (Ac (Af 0) (Ac (eC (.int 3)) Ao)))) Ao))) (zW b d2 d3 d4) s=.ok (.str ⟨#[c]⟩) t∧t.wf∧BagAt t b l∧t.next=s.next∧Keeps s t [b]:=by
 obtain⟨v,s1,e1,hv,w1,b1,n1,x1,k1⟩:=tk 3 wf hb hn (by omega) (by omega)
 have e1':Cd [.ref b,.int 3] s=.ok (.int (v:Nat)) s1:=e1
 obtain⟨q,hq,hi⟩:∃q:Nat,(q=26∨q=30)∧Bp (.lst [.int 26,.int 26,.int 30]) (.int (v:Nat)) s1=.ok (.int (q:Nat)) s1:=by
  obtain rfl|rfl|rfl:v=0∨v=1∨v=2:=by omega
  ·exact⟨26,.inl rfl,rfl⟩
  ·exact⟨26,.inl rfl,rfl⟩
  ·exact⟨30,.inr rfl,rfl⟩
 obtain⟨u,s2,e2,hu,w2,b2,n2,x2,k2⟩:=tk q w1 b1 n1 (by omega) (by omega)
 obtain⟨c,hc,ei⟩:=Aey (v:=u) (by omega) s2
 refine⟨c,s2,hc,?_,w2,b2,by omega,k1.trans k2⟩
 have v0:∀u,Af 0 (zW b d2 d3 d4) u=.ok (.ref b) u:=fun _=>rfl
 have v1:∀u,Af 1 (zW b d2 d3 d4) u=.ok (.str Adk) u:=fun _=>rfl
 have l3:Ci (Ac (eC (.int 26)) (Ac (eC (.int 26)) (Ac (eC (.int 30)) Ao))) (zW b d2 d3 d4) s=.ok (.lst [.int 26,.int 26,.int 30]) s:=by kernel_rfl
 rw[ev_op,v1,Aa,ev_call,Ah,v0,Aa,Ah,ev_op,l3,Aa,ev_call,Ah,v0,Aa,Ah,ev_c,Aa,Ax,Aa,Aa,Aa,e1',Aa,hi,Aa,Ax,Aa,Aa,Aa,e2,Aa,ei]
theorem AcE{d2 d3 d4:Option W}(wf:s.wf)(hb:BagAt s b l)(hn:l≤s.next) :
  ∃x t,Iz (zW b d2 d3 d4) s=.nx (zW b (some (.str x)) d3 d4) t∧okS x∧t.wf∧BagAt t b l∧t.next=s.next∧Keeps s t [b]:=by
 obtain⟨v,s1,e1,hv,w1,b1,n1,x1,k1⟩:=tk 10 wf hb hn (by omega) (by omega)
 have e1':Cd [.ref b,.int 10] s=.ok (.int (v:Nat)) s1:=e1
 have rg:Fm.iRng1 (Ac (Aj Cd (Ac (Af 0) (Ac (eC (.int 10)) Ao))) Ao) (zW b d2 d3 d4) s=.ok ⟨(List.range v).map (fun k=>W.int (k:Nat)),fun _=>true⟩ s1:=by
  refine Aak (n:=v) ?_ (by omega)
  rw[Ah,ev_call,Ah,show Af 0 (zW b d2 d3 d4) s=.ok (.ref b) s from rfl,Aa,Ah,ev_c,Aa,Ax,Aa,Aa,Aa,e1',Aa,Ax,Aa]
 obtain⟨acc,s3,e3,cs,rfl,hc,hl,w3,b3,n3,k3⟩:=V8 (it:=Fm.iRng1 (Ac (Aj Cd (Ac (Af 0) (Ac (eC (.int 10)) Ao))) Ao)) (t:=Gh) (e:=eOp V4 (Af 1) (Aj Cd (Ac (Af 0) (Ac (eOp Bp (Ci (Ac (eC (.int 26)) (Ac (eC (.int 26)) (Ac (eC (.int 30)) Ao)))) (Aj Cd (Ac (Af 0) (Ac (eC (.int 3)) Ao)))) Ao)))) (i:=4) (vs:=[4])
  (fun k acc r=>∃cs:List Nat,acc=cs.map (fun c=>W.str ⟨#[c]⟩)∧(∀c∈cs,c<128)∧cs.length=k∧r.wf∧BagAt r b l∧r.next=s.next∧Keeps s r [b]) rg (fun _ _ _ _=>rfl) ⟨[],rfl,fun c hc=>(nomatch hc),rfl,w1,b1,x1,k1⟩ (by
   rintro k x acc r hx ⟨cs,rfl,hc,hl,rw',rb,rn,rk⟩
   have hk:k<v:=by
    have:=(List.getElem?_eq_some_iff.mp hx).1
    simpa using this
   obtain⟨c,r1,hc1,ec,w4,b4,n4,k4⟩:=Aa3 (d2:=d2) (d3:=d3) (d4:=some x) rw' rb (by omega)
   refine⟨true,r,rfl,(fun h=>by cases h),fun _=>⟨.str ⟨#[c]⟩,r1,ec,?_,cs++[c],by simp,fun d hd=>?_,by rw[List.length_append,hl];rfl,w4,b4,by omega,rk.trans k4⟩⟩
   ·rw[List.length_map,hl];exact G9 (by omega)
   ·rcases List.mem_append.mp hd with hd|hd
    ·exact hc d hd
    ·rw[List.mem_singleton] at hd;subst hd;exact hc1)
 have hl':cs.length=v:=by
  have:((List.range v).map (fun k=>W.int (k:Nat))).length=v:=by rw[List.length_map,List.length_range]
  rw[←this];exact hl
 refine⟨Txt.join (Str.ofString "") (cs.map fun c=>(⟨#[c]⟩:Str)),s3,?_,Adp cs hc (by omega),w3,b3,n3,k3⟩
 have jn:Aaw (.str (Str.ofString "")) (.lst (cs.map fun c=>W.str ⟨#[c]⟩)) s3=.ok (.str (Txt.join (Str.ofString "") (cs.map fun c=>(⟨#[c]⟩:Str)))) s3:=by
  unfold Aaw
  have e1:(Ac0 (.lst (cs.map fun c=>W.str ⟨#[c]⟩)) s3).bind strsOf=some (cs.map fun c=>(⟨#[c]⟩:Str)):=Pj cs
  rw[e1]
  dsimp only
  rw[if_pos ?_]
  rw[Aaa,List.length_map]
  have:(Str.ofString "").length=0:=rfl
  rw[this];omega
 unfold Iz
 rw[Ez]
 unfold eM1
 rw[ev_c,Aa,show Ac2 (.str (Str.ofString "")) s=.ok (.str (Str.ofString "")) s from rfl,Aa,e3,Aa,jn]
 rfl
inductive Thg(u:Sto)(l:Nat):W→Prop
 |str {x:Str}:okS x→Thg u l (.str x)
 |int {i:Int}:i.natAbs<10 ^ 60→Thg u l (.int i)
 |tru:Thg u l (.bl true)
 |odd {n v:Nat}:l≤n→n+6≤u.next→OddAt u n→v<18→Thg u l (Fo n v)
 |spa:Thg u l (.lst [.str (Str.ofString "spare")])
theorem Thg.keep(h:Thg s l w)(hb:b<l)(k:Keeps s t [b]):Thg t l w:=by
 cases h with
 |str h=>exact .str h
 |int h=>exact .int h
 |tru=>exact .tru
 |odd h1 h2 h3 h4=>exact .odd h1 (by have:=k.next;omega) (h3.keep fun i a c=>k.get i (by omega) (by simp;omega)) h4
 |spa=>exact .spa
def Ys(x:Str)(o:W)(k:Nat):List W:=[.str (Str.ofString "exact"),.str (Str.ofString "spare"),.str (Str.ofString "exac"),.str (Str.ofString "spares"),.str (Str.ofString ""),.str x,.str (cutS x none (some 8)),o,.int (k:Nat),.int (-1),.bl true]
theorem Ab1(wf:s.wf)(hb:BagAt s b l)(hn:l≤s.next):∃w t,Fy [.ref b] s=.ok w t∧t.wf∧BagAt t b l∧l≤t.next∧Keeps s t [b]∧Thg t l w:=by
 obtain⟨x,s1,e1,hx,w1,b1,n1,k1⟩:=AcE (d2:=none) (d3:=none) (d4:=none) wf hb hn
 obtain⟨v,s2,hv,e2,w2,b2,n2,k2,o2⟩:=Aa0 w1 b1 (by omega)
 obtain⟨k,s3,e3,hk,w3,b3,n3,x3,k3⟩:=tk 9 w2 b2 (by omega) (by omega) (by omega)
 obtain⟨q,s4,e4,hq,w4,b4,n4,x4,k4⟩:=tk 12 w3 b3 (by omega) (by omega) (by omega)
 have e3':Cd [.ref b,.int 9] s2=.ok (.int (k:Nat)) s3:=e3
 have e4':Cd [.ref b,.int 12] s3=.ok (.int (q:Nat)) s4:=e4
 have O2:Thg s2 l (Fo s1.next v):=.odd (by omega) (by omega) o2 hv
 have O4:Thg s4 l (Fo s1.next v):=(O2.keep hb.lt k3).keep hb.lt k4
 have all:∀w∈Ys x (Fo s1.next v) k++[.lst [.str (Str.ofString "spare")]],Thg s4 l w:=by
  unfold Ys
  rw[List.cons_append,List.cons_append,List.cons_append,List.cons_append,List.cons_append,List.cons_append,List.cons_append,List.cons_append,List.cons_append,List.cons_append,List.cons_append,List.nil_append]
  refine List.forall_mem_cons.mpr ⟨.str (Dg (by decide +kernel)),?_⟩
  refine List.forall_mem_cons.mpr ⟨.str (Dg (by decide +kernel)),?_⟩
  refine List.forall_mem_cons.mpr ⟨.str (Dg (by decide +kernel)),?_⟩
  refine List.forall_mem_cons.mpr ⟨.str (Dg (by decide +kernel)),?_⟩
  refine List.forall_mem_cons.mpr ⟨.str (Dg (by decide +kernel)),?_⟩
  refine List.forall_mem_cons.mpr ⟨.str hx,?_⟩
  refine List.forall_mem_cons.mpr ⟨.str (AeH hx _ _),?_⟩
  refine List.forall_mem_cons.mpr ⟨O4,?_⟩
  refine List.forall_mem_cons.mpr ⟨.int (by
   have h:k<10 ^ 60:=Nat.lt_trans hk (by decide)
   rwa [Int.natAbs_natCast]),?_⟩
  refine List.forall_mem_cons.mpr ⟨.int (by decide),?_⟩
  refine List.forall_mem_cons.mpr ⟨.tru,?_⟩
  exact List.forall_mem_cons.mpr ⟨.spa,nofun⟩
 have hlen:q<(Ys x (Fo s1.next v) k++[W.lst [.str (Str.ofString "spare")]]).length:=hq
 refine⟨(Ys x (Fo s1.next v) k++[W.lst [.str (Str.ofString "spare")]])[q],s4,Rk rfl ?_,w4,b4,by omega,((k1.trans k2).trans k3).trans k4,all _ (List.getElem_mem hlen)⟩
 show J8 [some (.ref b),none,none,none,none] s = _
 have E0:Ox [some (.ref b),none,none,none,none] s=.nx (zW b none none none) s:=by kernel_rfl
 have sl:AeV (.str x) none (some 8) s1=.ok (.str (cutS x none (some 8))) s1:=by
  show(if x.length≤sizeLine then _ else _) = _
  rw[if_pos (Pq (by have:x.length=x.cps.size:=rfl;have:=hx.2;omega))]
 have E2:Iw (zW b (some (.str x)) none none) s1=.nx (zW b (some (.str x)) (some (.lst (Ys x (Fo s1.next v) k))) none) s3:=by
  have v0:∀u,Af 0 (zW b (some (.str x)) none none) u=.ok (.ref b) u:=fun _=>rfl
  have v2:∀u,Af 2 (zW b (some (.str x)) none none) u=.ok (.str x) u:=fun _=>rfl
  unfold Iw
  simp only[Ez,Ff,Ah,ev_c,Aa,v2,Qq,Qn,Qo,AaN,sl,ev_call,v0,Ax,e2,e3',ev_un,Oi]
  rfl
 unfold J8
 rw[Bg E0,Bg e1,Bg E2]
 unfold Ow
 have ad:Hq (.lst (Ys x (Fo s1.next v) k)) (.lst [.lst [.str (Str.ofString "spare")]]) s3=.ok (.lst (Ys x (Fo s1.next v) k++[.lst [.str (Str.ofString "spare")]])) s3:=by
  simp only[Hq]
  rw[if_pos (by show 11+1≤sizeLine;decide)]
 have l1:Ci (Ac (Ci (Ac (eC (.str (Str.ofString "spare"))) Ao)) Ao) (zW b (some (.str x)) (some (.lst (Ys x (Fo s1.next v) k))) none) s3=.ok (.lst [.lst [.str (Str.ofString "spare")]]) s3:=by kernel_rfl
 have ix:Bp (.lst (Ys x (Fo s1.next v) k++[.lst [.str (Str.ofString "spare")]])) (.int (q:Nat)) s4=.ok ((Ys x (Fo s1.next v) k++[W.lst [.str (Str.ofString "spare")]])[q]) s4:=AaH s4 (atI_nat (List.getElem?_eq_getElem hlen))
 rw[Ef,ev_op,ev_op,show Af 3 (zW b (some (.str x)) (some (.lst (Ys x (Fo s1.next v) k))) none) s3=.ok (.lst (Ys x (Fo s1.next v) k)) s3 from rfl,Aa,l1,Aa,ad,Aa,ev_call,Ah,show Af 0 (zW b (some (.str x)) (some (.lst (Ys x (Fo s1.next v) k))) none) s3=.ok (.ref b) s3 from rfl,Aa,Ah,ev_c,Aa,Ax,Aa,Aa,Aa,e4',Aa,ix]
 rfl
end K10
set_option maxHeartbeats 4000000
namespace K10
open PySem Fm
open L2 hiding St keyOf isNon
variable {s t u:Sto} {b l lo hi n c r m:Nat} {w x y:W} {ws us:List W}
abbrev Uy:W:=.tup [.str (Str.ofString "exact"),.str (Str.ofString "spare")]
def ThF(u:Sto)(w:W):Prop:=∃(i bo nm gr:Bool) (x:Str),Hg w (.ty "int") u=.ok (.bl i) u∧Hg w (.ty "bool") u=.ok (.bl bo) u∧Dz [w] u=.ok (.bl nm) u∧Ku [w] u=.ok (.bl nm) u∧Ui w Uy u=.ok (.bl gr) u∧Gf [w] u=.ok (.bl gr) u∧Fw w u=.ok (.str x) u∧((i && !bo)=true→∃k,w=.int k)
theorem Gd.repr(h:Gd s r m w)(hr:r<60)(hm:m≤250000):∃x,Fw w s=.ok (.str x) s:=by
 obtain⟨d,e,t⟩:=h.rx
 exact⟨d.shown,Mu (by have:=e (64 - r);rwa [show 64 - r+r=64 by omega] at this) t hr hm⟩
theorem Vs{i bo:Bool}(G:Gd u r m w)(hr:r<60)(hm:m≤250000)(h0:Hg w (.ty "str") u=.ok (.bl false) u)(h1:Hg w (.ty "int") u=.ok (.bl i) u)(h2:Hg w (.ty "bool") u=.ok (.bl bo) u)(h3:Ui w Uy u=.ok (.bl false) u)(h5:(i && !bo)=true→∃k,w=.int k):ThF u w:=by
 obtain⟨x,h4⟩:=G.repr hr hm
 refine⟨i,bo,false,false,x,h1,h2,Ie rfl ?_,Ie rfl ?_,h3,Ie rfl ?_,h4,h5⟩
 ·show(Ck [some w,none] u).wp _
  simp_arith[Ck,Dj,h0,Di]
 ·show(G4 [some w,none] u).wp _
  simp_arith[G4,G3,h0,Gk]
 ·show(Es [some w] u).wp _
  simp_arith[Es,G5,h0]
def Ri:List Str:=[Str.ofString "exact", Str.ofString "spare"]
theorem Qu{x:Str}(h:okS x):ThF u (.str x):=by
 obtain⟨z,h4⟩:=(((N7 h).1 u)).repr (by omega) (by omega)
 have sh:SeqAt.shaped (.str x)=true:=(Qv h).shaped (by omega)
 have e1:Ui (.str x) Uy u=.ok (.bl (Ri.any fun t=>PyData.eqv (.str t) (.str x))) u:=by
  show(if Ri.all (fun t=>SeqAt.shaped (.str t))=true then(if SeqAt.shaped (.str x)=true then _ else _) else _) = _
  rw[if_pos (by decide +kernel),if_pos sh]
  rfl
 have e2:pIn false (.str x) Uy u=.ok (.bl (Ri.any fun t=>PyData.eqv (.str t) (.str x))) u:=by
  rw[show Uy=.tup (Ri.map .str) from rfl,AbI x false rfl]
  congr 2
  simp only[Ri,List.any_cons,List.any_nil,PyData.eqv,Bool.or_false,List.mem_cons,List.not_mem_nil,or_false]
  by_cases q1:x=Str.ofString "exact"
  ·subst q1;decide +kernel
  ·by_cases q2:x=Str.ofString "spare"
   ·subst q2;decide +kernel
   ·have r1:¬Str.ofString "exact" = x:=fun e=>q1 e.symm
    have r2:¬Str.ofString "spare" = x:=fun e=>q2 e.symm
    simp[q1,q2,r1,r2]
 refine⟨false,false,nmB x,_,z,rfl,rfl,Zx h u,Ze h u,e1,Ie rfl ?_,h4,fun h=>by cases h⟩
 have e0:=Fm.We x u
 show(Es [some (.str x)] u).wp _
 have e2':pIn false (.str x) (.tup ([Str.ofString "exact", Str.ofString "spare"].map .str)) u = _:=e2
 simp_arith[Es,G5,e0,e2']
theorem Adq{d:PyData}{i:Nat}(hr:rd u 64 (.ref i)=some d)(hs:SeqAt.shaped d=true)(hd:(Ri.any fun t=>PyData.eqv (.str t) d)=false):Ui (.ref i) Uy u=.ok (.bl false) u:=by
 show(if Ri.all (fun t=>SeqAt.shaped (.str t))=true then(match rd u 64 (.ref i) with|some d=>if SeqAt.shaped d=true then R.ok (W.bl (Ri.any fun t=>PyData.eqv (.str t) d)) u else .bad|none=>.bad) else _) = _
 rw[if_pos (by decide +kernel),hr]
 dsimp only
 rw[if_pos hs,hd]
theorem Vr{i:Nat}{d:PyData}(A:Arg 2 u n (n+6) (.ref i))(g:u.get i=some (.lst ws))(hr:rd u 64 (.ref i)=some d)(hs:SeqAt.shaped d=true)(hd:(Ri.any fun t=>PyData.eqv (.str t) d)=false):ThF u (.ref i) :=
 Vs (i:=false) (bo:=false) (A.gd (by omega)) (by omega) (by omega) (by simp only[Hg,Fd,g];rfl) (by simp only[Hg,Fd,g];rfl) (by simp only[Hg,Fd,g];rfl) (Adq hr hs hd) (fun h=>by cases h)
theorem Gu{i bo:Bool}(A:Imm w)(h0:Hg w (.ty "str") u=.ok (.bl false) u)(h1:Hg w (.ty "int") u=.ok (.bl i) u)(h2:Hg w (.ty "bool") u=.ok (.bl bo) u)(h3:Ui w Uy u=.ok (.bl false) u)(h5:(i && !bo)=true→∃k,w=.int k):ThF u w:=Vs (A.1 u) (by omega) (by omega) h0 h1 h2 h3 h5
theorem Mz{i:Int}(h:i.natAbs<10 ^ 60):ThF u (.int i):=Gu (i:=true) (bo:=false) (G6 h) rfl rfl rfl (by kernel_rfl) fun _=>⟨_,rfl⟩
theorem Z4(k:Bool):ThF u (.bl k):=Gu (i:=true) (bo:=true) (AaF k) (by cases k<;>rfl) (by cases k<;>rfl) (by cases k<;>rfl) (by cases k<;>kernel_rfl) fun h=>by cases h
theorem Ade(h:OddAt u n):∀w∈Uq n,ThF u w:=by
 have A:=Kr h
 unfold Uq at A ⊢
 simp only[List.forall_mem_cons] at A
 refine List.forall_mem_cons.mpr ⟨Gu (i:=false) (bo:=false) AaE rfl rfl rfl (by kernel_rfl) (fun h=>by cases h),?_⟩
 refine List.forall_mem_cons.mpr ⟨Z4 _,?_⟩
 refine List.forall_mem_cons.mpr ⟨Z4 _,?_⟩
 refine List.forall_mem_cons.mpr ⟨Mz (by decide),?_⟩
 refine List.forall_mem_cons.mpr ⟨Mz (by decide),?_⟩
 refine List.forall_mem_cons.mpr ⟨Mz (by decide),?_⟩
 refine List.forall_mem_cons.mpr ⟨Mz (by decide),?_⟩
 refine List.forall_mem_cons.mpr ⟨Qu (Dg (by decide +kernel)),?_⟩
 refine List.forall_mem_cons.mpr ⟨Qu (Dg (by decide +kernel)),?_⟩
 refine List.forall_mem_cons.mpr ⟨Qu (Dg (by decide +kernel)),?_⟩
 refine List.forall_mem_cons.mpr ⟨Gu (i:=false) (bo:=false) (.tup (ws:=[]) nofun (by decide)) rfl rfl rfl (by kernel_rfl) (fun h=>by cases h),?_⟩
 refine List.forall_mem_cons.mpr ⟨Vr (d:=.list []) (Kr h _ (by simp[Uq])) h.a4 (by simp[rd,h.a4]) (by decide +kernel) (by decide +kernel),?_⟩
 refine List.forall_mem_cons.mpr ⟨Gu (i:=false) (bo:=false) X3 rfl rfl rfl (by kernel_rfl) (fun h=>by cases h),?_⟩
 refine List.forall_mem_cons.mpr ⟨Vr (d:=.list [.int 0]) (Kr h _ (by simp[Uq])) h.a5 (by simp[rd,h.a5]) (by decide +kernel) (by decide +kernel),?_⟩
 refine List.forall_mem_cons.mpr ⟨Gu (i:=false) (bo:=false) (.tup (ws:=[.int 0]) (fun w hw=>by rw[List.mem_singleton.mp hw];exact⟨.int (by decide),rfl⟩) (by decide)) rfl rfl rfl (by kernel_rfl) (fun h=>by cases h),?_⟩
 refine List.forall_mem_cons.mpr ⟨Gu (i:=false) (bo:=false) (.tup (ws:=[.str (Str.ofString "a")]) (fun w hw=>by rw[List.mem_singleton.mp hw];exact⟨.str (Dg (by decide +kernel)),rfl⟩) (by decide)) rfl rfl rfl (by kernel_rfl) (fun h=>by cases h),?_⟩
 refine List.forall_mem_cons.mpr ⟨Gu (i:=false) (bo:=false) Xz rfl rfl rfl (by kernel_rfl) (fun h=>by cases h),?_⟩
 exact List.forall_mem_cons.mpr ⟨Vr (d:=.list [.list [.list [.list []]]]) (Kr h _ (by simp[Uq])) h.a3 (by simp[rd,h.a3,h.a2,h.a1,h.a0]) (by decide +kernel) (by decide +kernel),nofun⟩
theorem Thg.f(h:Thg u l w):ThF u w:=by
 cases h with
 |str h=>exact Qu h
 |int h=>exact Mz h
 |tru=>exact Z4 _
 |odd _ _ h3 h4=>exact Ade h3 _ (V7 h4)
 |spa=>exact Vs (i:=false) (bo:=false) (Gd.lst (c:=1) (fun w hw=>by rw[List.mem_singleton.mp hw];exact(N7 (Dg (x:=Str.ofString "spare") (by decide +kernel))).1 u) (by decide)) (by omega) (by omega) rfl rfl rfl (by kernel_rfl) (fun h=>by cases h)
end K10
set_option maxHeartbeats 4000000
namespace K10
open PySem Fm
open L2 hiding St keyOf isNon
variable {s t u:Sto} {b l lo hi n c r m:Nat} {w x y:W} {ws us:List W}
abbrev zL(ns:W)(b:Nat)(d2 d3 d4 d5 d6 d7 d8 d9:Option W):Env0:=[some ns,some (.ref b),d2,d3,d4,d5,d6,d7,d8,d9]
def Jb(b l:Nat)(u:Sto):Prop:=u.wf∧BagAt u b l∧l≤u.next
theorem U7{s:Sto}{us:List W}(h:us.length≤2)(hi:∀v∈us,Imm v):Arg 2 (s.new (.lst us)) s.next (s.next+1) (.ref s.next):=.inr ⟨_,_,rfl,by omega,by omega,Aq ..,h,fun v hv=>.imm (hi v hv)⟩
theorem Ab0{ns:W}{d2 d3 d4 d5 d6 d7 d8 d9:Option W}(J:Jb b l s):∃t,Kf (zL ns b d2 d3 d4 d5 d6 d7 d8 d9) s=.nx (zL ns b d2 d3 d4 d5 d6 d7 d8 d9) t∧Jb b l t:=by
 obtain⟨wf,hb,hn⟩:=J
 obtain⟨v,s1,e1,hv,w1,b1,n1,x1,k1⟩:=tk 9 wf hb hn (by omega) (by omega)
 have e1':Cd [.ref b,.int 9] s=.ok (.int (v:Nat)) s1:=e1
 let s2:=s1.new (.lst [.int (v:Nat)])
 have w2:s2.wf:=w1.new _
 have b2:BagAt s2 b l:=b1.new n1 _
 have n2:s2.next=s1.next+1:=rfl
 have A2:Arg 2 s2 s1.next (s1.next+1) (.ref s1.next):=U7 (by simp) fun w hw=>by
  rw[List.mem_singleton.mp hw]
  exact G6 (by
   have h:v<10 ^ 60:=Nat.lt_trans hv (by decide)
   rwa [Int.natAbs_natCast])
 obtain⟨q,s3,hq,e3,w3,b3,n3,k3,o3⟩:=Aa0 w2 b2 (by omega)
 have A3:Arg 2 s3 s1.next (s1.next+1) (.ref s1.next):=A2.keep fun i a c=>k3.get i (by omega) (by have:=hb.lt;simp;omega)
 have O3:=Kr o3 _ (V7 (n:=s2.next) hq)
 obtain⟨s4,e4,w4,n4,k4⟩:=Xi A3 O3 w3 (by omega) (by omega) (by omega)
 have b4:BagAt s4 b l:=b3.keep fun i hi=>k4 i (by omega) (by omega) (by omega)
 obtain⟨p,s5,hp,e5,w5,b5,n5,k5,o5⟩:=Aa0 w4 b4 (by omega)
 let s6:=s5.new (.lst [.int 0,.int 1])
 have w6:s6.wf:=w5.new _
 have b6:BagAt s6 b l:=b5.new (by omega) _
 have n6:s6.next=s5.next+1:=rfl
 have A6:Arg 2 s6 s5.next (s5.next+1) (.ref s5.next):=U7 (by simp) fun w hw=>by
  simp only[List.mem_cons,List.not_mem_nil,or_false] at hw
  rcases hw with rfl|rfl<;>exact G6 (by decide)
 have O6:Arg 2 s6 s4.next (s4.next+6) (Fo s4.next p):=(Kr o5 _ (V7 hp)).keep fun i a c=>Am _ _ (by omega)
 obtain⟨s7,e7,w7,n7,k7⟩:=Xi O6 A6 w6 (by omega) (by omega) (by omega)
 have b7:BagAt s7 b l:=b6.keep fun i hi=>k7 i (by omega) (by omega) (by omega)
 refine⟨s7,?_,w7,b7,by omega⟩
 have v1:∀u,Af 1 (zL ns b d2 d3 d4 d5 d6 d7 d8 d9) u=.ok (.ref b) u:=fun _=>rfl
 have l1:Vo (Ac (Aj Cd (Ac (Af 1) (Ac (eC (.int 9)) Ao))) Ao) (zL ns b d2 d3 d4 d5 d6 d7 d8 d9) s=.ok (.ref s1.next) s2:=by
  simp only[Ot,Ah,ev_call,v1,Aa,ev_c,Ax,e1']
  rfl
 have l2:Vo (Ac (eC (.int 0)) (Ac (eC (.int 1)) Ao)) (zL ns b d2 d3 d4 d5 d6 d7 d8 d9) s5=.ok (.ref s5.next) s6:=rfl
 unfold Kf
 refine Io ?_
 rw[AaO,Qp,G7,ev_call,Ah,l1,Aa,Ah,ev_call,Ah,v1,Aa,Ax,Aa,Aa,e3,Aa,Ax,Aa,Aa,Aa,e4,Aa,Ed,Aa]
 show(if (!true)=true then R.ok true s4 else _) = _
 rw[if_neg (by decide),Qp,G7,ev_call,Ah,ev_call,Ah,v1,Aa,Ax,Aa,Aa,e5,Aa,Ah,l2,Aa,Ax,Aa,Aa,Aa,e7,Aa,Ed,Aa]
 rfl
theorem AeP(a b c d:Bool)(s:Sto):Fb [.lst [.bl a,.bl b,.bl c,.bl d],.lst [.bl a,.bl b,.bl c,.bl d]] s=.ok (.bl true) s:=Zk (r:=1) (k:=1) (m:=201*4) (AcU (ws:=[.bl a,.bl b,.bl c,.bl d]) (r:=0) (k:=0) (m:=200) fun w hw=>by
 simp only[List.mem_cons,List.not_mem_nil,or_false] at hw
 rcases hw with rfl|rfl|rfl|rfl<;>exact Aef _) (by omega) (by omega) (by omega) rfl s
theorem Xw{i bo:Bool}(f1:Hg w (.ty "int") u=.ok (.bl i) u)(f2:Hg w (.ty "bool") u=.ok (.bl bo) u):Ea [w] u=.ok (.bl (i && !bo)) u:=by
 refine Ie rfl ?_
 show(Hh [some w] u).wp _
 cases i<;>cases bo<;>(simp_arith[Hh,Ln,f1,f2];try simp)
theorem Aeu{i bo:Bool}(many:Int)(f1:Hg w (.ty "int") u=.ok (.bl i) u)(f2:Hg w (.ty "bool") u=.ok (.bl bo) u)(f8:(i && !bo)=true→∃k,w=.int k) :
  ∃nb:Bool,(∀z:Env0,Af 3 z u=.ok (.bl (i && !bo)) u→Af 5 z u=.ok w u→Af 6 z u=.ok (.int many) u→AaV (Af 3) (J5 pLe pLt (eC (.int 0)) (Af 5) (Af 6)) z u=.ok (.bl nb) u)∧Ew [.int many,w] u=.ok (.bl nb) u:=by
 have e0:=Xw f1 f2
 cases h:(i && !bo) with
 |false =>
  rw[h] at e0
  refine⟨false,fun z h1 h2 h3=>by rw[Ft,h1,Aa,Ed,Aa];rfl,Ie rfl ?_⟩
  show(Cm [some (.int many),some w] u).wp _
  simp_arith[Cm,El,e0]
  try simp
 |true =>
  rw[h] at e0
  obtain⟨k,rfl⟩:=f8 h
  cases h1:decide (0≤k) with
  |false =>
   refine⟨false,fun z h4 h2 h3=>by
    rw[Ft,h4,Aa,Ed,Aa,if_pos rfl,Bo,ev_c,Aa,h2,Aa,G8,Aa,Ed,Aa,h1]
    rfl,Ie rfl ?_⟩
   show(Cm [some (.int many),some (.int k)] u).wp _
   simp_arith[Cm,El,e0,Bo,G8,h1]
   try simp
  |true =>
   refine⟨decide (k<many),fun z h4 h2 h3=>by
    rw[Ft,h4,Aa,Ed,Aa,if_pos rfl,Bo,ev_c,Aa,h2,Aa,G8,Aa,Ed,Aa,h1,if_pos rfl,h3,Aa,Jx],Ie rfl ?_⟩
   show(Cm [some (.int many),some (.int k)] u).wp _
   simp_arith[Cm,El,e0,Bo,G8,Jx,h1]
   try simp
theorem Abz{ns:W}{d2 d3 d4 d5 d6 d7 d8 d9:Option W}(J:Jb b l s) :
  (Sw (zL ns b d2 d3 d4 d5 d6 d7 d8 d9) s).wp (kN fun z u=>(∃d3 d4 d5 d6 d7 d8 d9,z=zL ns b d2 d3 d4 d5 d6 d7 d8 d9)∧Jb b l u):=by
 obtain⟨wf,hb,hn⟩:=J
 obtain⟨w,s1,e1,w1,b1,n1,k1,T1⟩:=Ab1 wf hb hn
 obtain⟨v,s2,e2,hv,w2,b2,n2,x2,k2⟩:=tk 9 w1 b1 n1 (by omega) (by omega)
 have e2':Cd [.ref b,.int 9] s1=.ok (.int (v:Nat)) s2:=e2
 obtain⟨q,s3,e3,hq,w3,b3,n3,x3,k3⟩:=tk 9 w2 b2 n2 (by omega) (by omega)
 have e3':Cd [.ref b,.int 9] s2=.ok (.int (q:Nat)) s3:=e3
 have T3:Thg s3 l w:=(T1.keep hb.lt k2).keep hb.lt k3
 obtain⟨i,bo,nm,gr,x,f1,f2,f3,f4,f5,f6,f7,f8⟩:=T3.f
 obtain⟨many,hm⟩:∃many:Int,Bp (.lst [.int (v:Nat),.int (10 ^ 39)]) (.int (if q=0 then 1 else 0)) s3=.ok (.int many) s3:=by
  by_cases c:q=0
  ·rw[if_pos c];exact⟨_,rfl⟩
  ·rw[if_neg c];exact⟨_,rfl⟩
 obtain⟨nb,g1,g2⟩:=Aeu (u:=s3) many f1 f2 f8
 have gi:=Xw f1 f2
 have v1:∀u,Af 1 (zL ns b d2 d3 d4 d5 d6 d7 d8 d9) u=.ok (.ref b) u:=fun _=>rfl
 have pe:pEq (.int (q:Nat)) (.int 0) s3=.ok (.bl (decide ((q:Int)=0))) s3:=rfl
 have pi:Yz (.bl (decide ((q:Int)=0))) s3=.ok (.int (if q=0 then 1 else 0)) s3:=by
  by_cases c:q=0
  ·rw[if_pos c,decide_eq_true (by omega)];rfl
  ·rw[if_neg c,decide_eq_false (by omega)];rfl
 have E0:O8 (zL ns b d2 d3 d4 d5 d6 d7 d8 d9) s=.nx (zL ns b d2 d3 d4 (some w) (some (.int many)) d7 d8 d9) s3:=by
  have lv:Ci (Ac (Aj Cd (Ac (Af 1) (Ac (eC (.int 9)) Ao))) (Ac (eOp Acx (eC (.int 10)) (eC (.int 39))) Ao)) (zL ns b d2 d3 d4 d5 d6 d7 d8 d9) s1=.ok (.lst [.int (v:Nat),.int (10 ^ 39)]) s2:=by
   rw[Aen]
   simp only[Ff,Ah,ev_call,v1,Aa,ev_c,Ax,e2']
   rfl
  have ar:Ac (Aj Fy (Ac (Af 1) Ao)) (Ac (eOp Bp (Ci (Ac (Aj Cd (Ac (Af 1) (Ac (eC (.int 9)) Ao))) (Ac (eOp Acx (eC (.int 10)) (eC (.int 39))) Ao))) (Aj (l1 Yz) (Ac (eOp pEq (Aj Cd (Ac (Af 1) (Ac (eC (.int 9)) Ao))) (eC (.int 0))) Ao))) Ao) (zL ns b d2 d3 d4 d5 d6 d7 d8 d9) s=.ok [w,.int many] s3:=by
   rw[Ah,ev_call,Ah,v1,Aa,Ax,Aa,Aa,e1,Aa,Ah,ev_op,lv,Aa,ev_call,Ah,ev_op,ev_call,Ah,v1,Aa,Ah,ev_c,Aa,Ax,Aa,Aa,Aa,e3',Aa,ev_c,Aa,pe,Aa,Ax,Aa,Aa,Ol,pi,Aa,hm,Aa,Ax,Aa,Aa]
  unfold O8 AdC
  rw[ar]
  rfl
 have E1:O7 (zL ns b d2 d3 d4 (some w) (some (.int many)) d7 d8 d9) s3=.nx (zL ns b d2 (some (.bl (i && !bo))) d4 (some w) (some (.int many)) d7 d8 d9) s3:=by
  have v5:Af 5 (zL ns b d2 d3 d4 (some w) (some (.int many)) d7 d8 d9) s3=.ok w s3:=rfl
  have:AaV (Aj (l2 Hg) (Ac (Af 5) (Ac (eC (.ty "int")) Ao))) (Ad3 (Aj (l2 Hg) (Ac (Af 5) (Ac (eC (.ty "bool")) Ao)))) (zL ns b d2 d3 d4 (some w) (some (.int many)) d7 d8 d9) s3=.ok (.bl (i && !bo)) s3:=by
   rw[Ft,ev_call,Ah,v5,Aa,Ah,ev_c,Aa,Ax,Aa,Aa,Aa,Zf,f1,Aa,Ed,Aa]
   cases i with
   |false=>rfl
   |true =>
    rw[if_pos rfl,Oq,ev_call,Ah,v5,Aa,Ah,ev_c,Aa,Ax,Aa,Aa,Aa,Zf,f2,Aa,Ed,Aa]
    rfl
  unfold O7
  rw[Ez,this]
  rfl
 let D:W:=.lst [.bl (i && !bo),.bl nm,.bl nb,.bl gr]
 have E2:O5 (zL ns b d2 (some (.bl (i && !bo))) d4 (some w) (some (.int many)) d7 d8 d9) s3=.nx (zL ns b d2 (some (.bl (i && !bo))) d4 (some w) (some (.int many)) (some D) (some (.str x)) d9) s3:=by
  have v5:Af 5 (zL ns b d2 (some (.bl (i && !bo))) d4 (some w) (some (.int many)) d7 d8 d9) s3=.ok w s3:=rfl
  have v3:Af 3 (zL ns b d2 (some (.bl (i && !bo))) d4 (some w) (some (.int many)) d7 d8 d9) s3=.ok (.bl (i && !bo)) s3:=rfl
  have g:=g1 (zL ns b d2 (some (.bl (i && !bo))) d4 (some w) (some (.int many)) d7 d8 d9) rfl rfl rfl
  have gt:Abp (Ac (eC (.str (Str.ofString "exact"))) (Ac (eC (.str (Str.ofString "spare"))) Ao)) (zL ns b d2 (some (.bl (i && !bo))) d4 (some w) (some (.int many)) d7 d8 d9) s3=.ok Uy s3:=rfl
  unfold O5 AdC
  rw[Ah,Ff,Ah,v3,Aa,Ah,ev_call,Ah,v5,Aa,Ax,Aa,Aa,f3,Aa,Ah,g,Aa,Ah,ev_op,v5,Aa,gt,Aa,f5,Aa,Ax,Aa,Aa,Aa,Aa,Aa]
  rw[if_pos (by show 4≤sizeLine;decide),Aa,Ah,ev_call,Ah,v5,Aa,Ax,Aa,Aa,Ol,f7,Aa,Ax,Aa,Aa]
  rfl
 unfold Sw
 rw[Bg E0,Bg E1,Bg E2]
 unfold Vl
 refine Ww (n:=2) (s1:=s3) (fun q z u=>(∃d4 d9,z=zL ns b d2 (some (.bl (i && !bo))) d4 (some w) (some (.int many)) (some D) (some (.str x)) d9)∧u=s3) rfl (by decide) ⟨⟨_,_,rfl⟩,rfl⟩ ?_ ?_
 ·rintro q z u hq ⟨⟨d4,d9,rfl⟩,hu⟩
  rw[hu]
  show(K8 (zL ns b d2 (some (.bl (i && !bo))) (some (.int (q:Nat))) (some w) (some (.int many)) (some D) (some (.str x)) d9) s3).wp _
  have E3:Jc (zL ns b d2 (some (.bl (i && !bo))) (some (.int (q:Nat))) (some w) (some (.int many)) (some D) (some (.str x)) d9) s3=.nx (zL ns b d2 (some (.bl (i && !bo))) (some (.int (q:Nat))) (some w) (some (.int many)) (some D) (some (.str x)) (some D)) s3:=by
   have v5:Af 5 (zL ns b d2 (some (.bl (i && !bo))) (some (.int (q:Nat))) (some w) (some (.int many)) (some D) (some (.str x)) d9) s3=.ok w s3:=rfl
   have v6:Af 6 (zL ns b d2 (some (.bl (i && !bo))) (some (.int (q:Nat))) (some w) (some (.int many)) (some D) (some (.str x)) d9) s3=.ok (.int many) s3:=rfl
   unfold Jc
   rw[Ez,Ff,Ah,ev_call,Ah,v5,Aa,Ax,Aa,Aa,gi,Aa,Ah,ev_call,Ah,v5,Aa,Ax,Aa,Aa,f4,Aa,Ah,ev_call,Ah,v6,Aa,Ah,v5,Aa,Ax,Aa,Aa,Aa,g2,Aa,Ah,ev_call,Ah,v5,Aa,Ax,Aa,Aa,f6,Aa,Ax,Aa,Aa,Aa,Aa,Aa]
   rfl
  have al:=AeP (i && !bo) nm nb gr s3
  have ne:pNe (.str x) (.str x) s3=.ok (.bl false) s3:=by
   show R.ok (W.bl (!decide (x=x))) s3 = _
   rw[decide_eq_true rfl];rfl
  unfold K8
  rw[Bg E3]
  show(Ja (zL ns b d2 (some (.bl (i && !bo))) (some (.int (q:Nat))) (some w) (some (.int many)) (some (.lst [.bl (i && !bo),.bl nm,.bl nb,.bl gr])) (some (.str x)) (some (.lst [.bl (i && !bo),.bl nm,.bl nb,.bl gr]))) s3).wp _
  simp_arith[Ja,al,f7,ne]
  exact⟨⟨_,_,rfl⟩,trivial⟩
 ·rintro z u ⟨⟨d4,d9,rfl⟩,hu⟩
  rw[hu]
  exact⟨⟨_,_,_,_,_,_,_,rfl⟩,w3,b3,n3⟩
theorem law_true{ns:List Int}(hl:ns.length≤63):∃s',Zd [.scr ns] ⟨0,fun _=>none⟩=.ok (.bl true) s':=by
 have w0:Sto.wf ⟨0,fun _=>none⟩:=fun i o h=>by cases h
 obtain⟨s1,e1,w1,b1,n1,k1⟩:=AeM (ns:=ns) w0 hl
 obtain⟨w,s',e,rfl⟩:=Adw (n:=10) (np:=1) (b:=Abh) (ws:=[.scr ns]) (s:=⟨0,fun _=>none⟩) (Q:=fun w _=>w=.bl true) rfl (by
  show(Abh [some (.scr ns),none,none,none,none,none,none,none,none,none] ⟨0,fun _=>none⟩).wp _
  unfold Abh Abg Abf Abe
  simp_arith[e1]
  refine Ww (n:=3) (s1:=s1) (fun q z u=>(∃d2,z=zL (.scr ns) 2 d2 none none none none none none none)∧Jb 2 3 u) rfl (by decide) ⟨⟨_,rfl⟩,w1,b1,by rw[n1];exact Nat.le_refl 3⟩ ?_ ?_
  ·rintro q z u hq ⟨⟨d2,rfl⟩,J⟩
   obtain⟨t,e,Jt⟩:=Ab0 (ns:=.scr ns) (d2:=some (.int (q:Nat))) (d3:=none) (d4:=none) (d5:=none) (d6:=none) (d7:=none) (d8:=none) (d9:=none) J
   show(Kf (zL (.scr ns) 2 (some (.int (q:Nat))) none none none none none none none) u).wp _
   rw[e]
   exact⟨⟨_,rfl⟩,Jt⟩
  ·rintro z u ⟨⟨d2,rfl⟩,J⟩
   dsimp only
   refine Ww (n:=25) (s1:=u) (fun q z u=>(∃d2 d3 d4 d5 d6 d7 d8 d9,z=zL (.scr ns) 2 d2 d3 d4 d5 d6 d7 d8 d9)∧Jb 2 3 u) rfl (by decide) ⟨⟨_,_,_,_,_,_,_,_,rfl⟩,J⟩ ?_ ?_
   ·rintro q z u hq ⟨⟨d2,d3,d4,d5,d6,d7,d8,d9,rfl⟩,J⟩
    refine AdI (Abz (ns:=.scr ns) (d2:=some (.int (q:Nat))) J) ?_
    rintro z' u' ⟨⟨d3,d4,d5,d6,d7,d8,d9,rfl⟩,J⟩
    exact⟨⟨_,_,_,_,_,_,_,_,rfl⟩,J⟩
   ·rintro z u ⟨⟨d2,d3,d4,d5,d6,d7,d8,d9,rfl⟩,J⟩
    dsimp only
    simp_arith[Abd])
 exact⟨s',e⟩
end K10
set_option maxHeartbeats 4000000
namespace K10
open PySem L2 Fm
structure Txt(G:Gw)(mg:Str→Option Value):Prop where
 n_ValueError:mg "ValueError" = none
 n_abs:mg "abs" = none
 n_all:mg "all" = none
 n_bool:mg "bool" = none
 n_int:mg "int" = none
 n_isinstance:mg "isinstance" = none
 n_len:mg "len" = none
 n_list:mg "list" = none
 n_range:mg "range" = none
 n_repr:mg "repr" = none
 n_str:mg "str" = none
 g_BadRoom:mg (Str.ofString "BadRoom")=some (.ref (G.at_ "BadRoom"))
 g_BadStatement:mg (Str.ofString "BadStatement")=some (.ref (G.at_ "BadStatement"))
 g_Broken:mg (Str.ofString "Broken")=some (.ref (G.at_ "Broken"))
 g_Endless:mg (Str.ofString "Endless")=some (.ref (G.at_ "Endless"))
 g_Full:mg (Str.ofString "Full")=some (.ref (G.at_ "Full"))
 g_NoArray:mg (Str.ofString "NoArray")=some (.ref (G.at_ "NoArray"))
 g_NoCell:mg (Str.ofString "NoCell")=some (.ref (G.at_ "NoCell"))
 g_NoCommand:mg (Str.ofString "NoCommand")=some (.ref (G.at_ "NoCommand"))
 g_NoDeed:mg (Str.ofString "NoDeed")=some (.ref (G.at_ "NoDeed"))
 g_NoEntry:mg (Str.ofString "NoEntry")=some (.ref (G.at_ "NoEntry"))
 g_NoFunction:mg (Str.ofString "NoFunction")=some (.ref (G.at_ "NoFunction"))
 g_NoPlace:mg (Str.ofString "NoPlace")=some (.ref (G.at_ "NoPlace"))
 g_NoText:mg (Str.ofString "NoText")=some (.ref (G.at_ "NoText"))
 g_Nothing:mg (Str.ofString "Nothing")=some (.ref (G.at_ "Nothing"))
 g_Refused:mg (Str.ofString "Refused")=some (.ref (G.at_ "Refused"))
 g_TailError:mg (Str.ofString "TailError")=some (.ref (G.at_ "TailError"))
 g_TooMany:mg (Str.ofString "TooMany")=some (.ref (G.at_ "TooMany"))
 g_Unfit:mg (Str.ofString "Unfit")=some (.ref (G.at_ "Unfit"))
 g_Unknown:mg (Str.ofString "Unknown")=some (.ref (G.at_ "Unknown"))
 g_Unlike:mg (Str.ofString "Unlike")=some (.ref (G.at_ "Unlike"))
 g_Wrong:mg (Str.ofString "Wrong")=some (.ref (G.at_ "Wrong"))
 q_GROWINGS:∃a,mg (Str.ofString "GROWINGS")=some (.ref a)∧Age G.K a [Str.ofString "exact", Str.ofString "spare"]
 q_LETTERS:∃t,mg (Str.ofString "LETTERS")=some (.str (Str.ofString "abcdefghijklmnopqrstuvwxyz") t)
 q_MOST_LETTERS:∃t,mg (Str.ofString "MOST_LETTERS")=some (.int 8 t)
 xc:∀C,C∈errs→ExcC G.K (G.at_ C)
 xf:∀C,C∈errs→XfC G.K (G.at_ C)
 te:TabE G K6 Kz
 xn_address:∀C,C∈errs→PySem.W.findIn G.K (.ref (G.at_ C)) (Str.ofString "address")=some none
 xn_at:∀C,C∈errs→PySem.W.findIn G.K (.ref (G.at_ C)) (Str.ofString "at")=some none
 xn_deed:∀C,C∈errs→PySem.W.findIn G.K (.ref (G.at_ C)) (Str.ofString "deed")=some none
 xn_function:∀C,C∈errs→PySem.W.findIn G.K (.ref (G.at_ C)) (Str.ofString "function")=some none
 xn_index:∀C,C∈errs→PySem.W.findIn G.K (.ref (G.at_ C)) (Str.ofString "index")=some none
 xn_limit:∀C,C∈errs→PySem.W.findIn G.K (.ref (G.at_ C)) (Str.ofString "limit")=some none
 xn_many:∀C,C∈errs→PySem.W.findIn G.K (.ref (G.at_ C)) (Str.ofString "many")=some none
 xn_name:∀C,C∈errs→PySem.W.findIn G.K (.ref (G.at_ C)) (Str.ofString "name")=some none
 xn_place:∀C,C∈errs→PySem.W.findIn G.K (.ref (G.at_ C)) (Str.ofString "place")=some none
 xn_size:∀C,C∈errs→PySem.W.findIn G.K (.ref (G.at_ C)) (Str.ofString "size")=some none
section
variable {P:Program} {w:World} {G:Gw} {mg:Str→Option Value} {base:Heap}
theorem Jk:FnScope [Str.ofString "thing"] [Str.ofString "thing"] (defScope (Br 4)):=⟨rfl,rfl,rfl,by decide +kernel,rfl,by decide +kernel,by decide +kernel⟩
theorem Q9{f:Addr}{fd:FuncData}(F:Fun G.K "is_integer" "is_integer" (Br 4) f fd)(T:Txt G mg):FnOk P w G.K mg base CX0 1 f fd ["thing"] (spM G Ea) :=
 fn_ok (N:=["thing"]) (b:=Hh) F Jk fun cdv A outer s H E hr =>
  have nd:=Jk.nd
  (Ay (Cu (Nh (Ak call_isi Jq T.n_isinstance (by decide +kernel) (Ab (Ad 0) (Ab (Pa (n := "int") rfl T.n_int (by decide +kernel)) Ae))) (Nf (Aah (Ak call_isi Jq T.n_isinstance (by decide +kernel) (Ab (Ad 0) (Ab (Pa (n := "bool") rfl T.n_bool (by decide +kernel)) Ae))))))))
abbrev Y1:List Str:=["many", "thing"]
theorem Lh:FnScope Y1 Y1 (defScope (Br 5)):=⟨rfl,rfl,rfl,by decide +kernel,rfl,by decide +kernel,by decide +kernel⟩
abbrev Y2:List Str:=["many", "thing"]
theorem Um{f:Addr}{fd:FuncData}(F:Fun G.K "is_number" "is_number" (Br 5) f fd)(T:Txt G mg)(F_is_integer:FnM G P w mg base CX0 1 "is_integer" Ea):FnOk P w G.K mg base CX0 2 f fd Y2 (spM G Ew) :=
 fn_ok (N:=Y2) (b:=Cm) F Lh fun cdv A outer s H E hr =>
  have nd:=Lh.nd
  (Ay (Cu (Nh (Bl F_is_integer (hr.mono (by decide)) pass0 (Ab (Ad 1) Ae)) (Nf (Xf op_le AbD op_lt Aap Ag (Ad 1) (Ad 0))))))
theorem P0:FnScope [Str.ofString "thing", Str.ofString "letter"] [Str.ofString "thing"] (defScope (Br 6)):=⟨rfl,rfl,rfl,by decide +kernel,rfl,by decide +kernel,by decide +kernel⟩
abbrev Y3:List Str:=["thing", "letter"]
theorem Za{f:Addr}{fd:FuncData}(F:Fun G.K "is_name" "is_name" (Br 6) f fd)(T:Txt G mg):FnOk P w G.K mg base CX0 1 f fd ["thing"] (spM G Ku) :=
 fn_ok (N:=Y3) (b:=G4) F P0 fun cdv A outer s H E hr =>
  have nd:=P0.nd
  (Ai (Kh (AdP (Z9 (Ji (Jh (Ak call_isi Jq T.n_isinstance (by decide +kernel) (Ab (Ad 0) (Ab (Pa (n := "str") rfl T.n_str (by decide +kernel)) Ae))))) (Tu (Ji (W9 op_le AbD op_le AbD Ag (Ak call_len Aaq T.n_len (by decide +kernel) (Ab (Ad 0) Ae)) (AcQ (i:=8) rfl T.q_MOST_LETTERS)))))) (Ay (Cu Pb)) Dt)
  (Ay (Cu (Ak (cr_all rfl) Ael T.n_all (by decide +kernel) (Ab (Xe [(Str.ofString "letter", 1)] rfl nd (Acj (Ad 0)) (blkOk_by (N:=Y3) (sc:=defScope (Br 6)) (by decide +kernel)) (fun _ _ _ _ _=>(Fj 1 nd)) (fun _ _ _ _ _=>Qz) (fun _ _ _ _ _=>(Lf op_in_sign Acu (Ad 1) (AcP (y:=Str.ofString "abcdefghijklmnopqrstuvwxyz") rfl T.q_LETTERS) rfl))) Ae)))))
theorem Jl:FnScope [Str.ofString "thing"] [Str.ofString "thing"] (defScope (Br 7)):=⟨rfl,rfl,rfl,by decide +kernel,rfl,by decide +kernel,by decide +kernel⟩
theorem Ra{f:Addr}{fd:FuncData}(F:Fun G.K "is_growing" "is_growing" (Br 7) f fd)(T:Txt G mg):FnOk P w G.K mg base CX0 1 f fd ["thing"] (spM G Gf) :=
 fn_ok (N:=["thing"]) (b:=Es) F Jl fun cdv A outer s H E hr =>
  have nd:=Jl.nd
  (Ay (Cu (Nh (Ak call_isi Jq T.n_isinstance (by decide +kernel) (Ab (Ad 0) (Ab (Pa (n := "str") rfl T.n_str (by decide +kernel)) Ae))) (Nf (Lf op_in_seq Afw (Ad 0) (AcO (ys:=[Str.ofString "exact", Str.ofString "spare"]) rfl T.q_GROWINGS) rfl)))))
theorem Xh:FnScope [Str.ofString "_law_script", Str.ofString "_law_cell"] [Str.ofString "_law_script"] (defScope (Br 31)):=⟨rfl,rfl,rfl,by decide +kernel,rfl,by decide +kernel,by decide +kernel⟩
abbrev Y10:List Str:=["_law_script", "_law_cell"]
theorem AbL{f:Addr}{fd:FuncData}(F:Fun G.K "_law_bag" "_law_bag" (Br 31) f fd)(T:Txt G mg):FnOk P w G.K mg base CX0 1 f fd ["_law_script"] (spM G AeN) :=
 fn_ok (N:=Y10) (b:=Afc) F Xh fun cdv A outer s H E hr =>
  have nd:=Xh.nd
  (Ay (Cu (Hz (Ab Ag (Ab Ag (Ab Ag (Ab (Afp [(Str.ofString "_law_cell", 1)] rfl nd (AdS (Xd AdR Afv (Ad 0) Aag (Aaf Ag))) (blkOk_by (N:=Y10) (sc:=defScope (Br 31)) (by decide +kernel)) (fun _ _ _ _ _=>(Fj 1 nd)) (fun _ _ _ _ _=>Qz) (fun _ _ _ _ _=>(Ak call_abs Aem T.n_abs (by decide +kernel) (Ab (Ad 1) Ae)))) Ae)))))))
theorem T6:FnScope [Str.ofString "_law_bag_here", Str.ofString "_law_many", Str.ofString "_law_begin", Str.ofString "_law_second", Str.ofString "_law_cell", Str.ofString "_law_mixed", Str.ofString "_law_value"] [Str.ofString "_law_bag_here", Str.ofString "_law_many"] (defScope (Br 32)):=⟨rfl,rfl,rfl,by decide +kernel,rfl,by decide +kernel,by decide +kernel⟩
theorem Aaz{f:Addr}{fd:FuncData}(F:Fun G.K "_law_take" "_law_take" (Br 32) f fd)(T:Txt G mg):FnOk P w G.K mg base CX0 1 f fd ["_law_bag_here", "_law_many"] (spM G Cd) :=
 fn_ok (N:=["_law_bag_here", "_law_many", "_law_begin", "_law_second", "_law_cell", "_law_mixed", "_law_value"]) (b:=Vw) F T6 fun cdv A outer s H E hr =>
  have nd:=T6.nd
  (Ai (Kh (K9 (Uj hr.units) AbE (Ce Bc Bb (Ad 0) Ag) Ag) (Ai (Bt 4 nd Ag)
 (Ai (Kh (K9 op_lt Aap (Ce Bc Bb (Ad 0) Ag) (Ak call_len Aaq T.n_len (by decide +kernel) (Ab (Ce Bc Bb (Ad 0) Ag) Ae))) (Ay (Bt 4 nd (Ce Bc Bb (Ce Bc Bb (Ad 0) Ag) (Ce Bc Bb (Ad 0) Ag)))) Dt)
 (Ai (Aad AcZ AcY (Ad 0) Ag Ag)
 (Ai (Kh (K9 op_ge Afx (Ad 4) Ag) (Ay (Aac set_list Q7 (Ad 4) (Ad 0) Ag)) Dt)
 (Ai (Bt 5 nd (Cp Dc Eu (Cp Dc Eu (Cp op_mul Qg (Ce Bc Bb (Ad 0) Ag) Ag) (Cp op_mod Lk (Df call_int1 Jr T.n_int (by decide +kernel) (Ab (Ad 4) Ae)) Ag)) (Cp op_mul Qg Ag (Ce Bc Bb (Ad 0) Ag))))
 (Ay (Aac set_list Q7 (Cp op_mod Lk (Df call_int1 Jr T.n_int (by decide +kernel) (Ab (Ad 5) Ae)) Ag) (Ad 0) Ag))))))) Dt)
  (Ai (Kh (K9 op_gt Aek (Ce Bc Bb (Ad 0) Ag) Ag) (Ai (Bt 6 nd (Cp op_mod Lk (Df call_int1 Jr T.n_int (by decide +kernel) (Ab (Ce Bc Bb (Ad 0) Ag) Ae)) (Ad 1)))
 (Ai (Aac set_list Q7 (Cp op_fdiv Aar (Ce Bc Bb (Ad 0) Ag) (Ad 1)) (Ad 0) Ag)
 (Ay (Cu (Ad 6))))) Dt)
  (Ai (Bt 2 nd (Cp op_mod Lk (Df call_int1 Jr T.n_int (by decide +kernel) (Ab (Cp op_mul Qg (Cp Dc Eu (Ce Bc Bb (Ad 0) Ag) Ag) Ag) Ae)) Ag))
  (Ai (Bt 3 nd (Cp op_mod Lk (Df call_int1 Jr T.n_int (by decide +kernel) (Ab (Cp op_mul Qg (Cp op_mod Lk (Df call_int1 Jr T.n_int (by decide +kernel) (Ab (Cp op_mul Qg (Ad 2) (Ad 2)) Ae)) Ag) Ag) Ae)) Ag))
  (Ai (Kh (K9 op_gt Aek (Ad 1) Ag) (Ay (Cu (Cp op_mod Lk (Df call_int1 Jr T.n_int (by decide +kernel) (Ab (Cp Dc Eu (Cp op_mul Qg (Ad 3) Ag) (Ad 2)) Ae)) (Ad 1)))) Dt)
  (Ay (Cu (Cp op_mod Lk (Df call_int1 Jr T.n_int (by decide +kernel) (Ab (Cp op_fdiv Aar (Ad 3) Ag) Ae)) (Ad 1)))))))))
abbrev Y11:List Str:=["_law_found", "_law_due"]
theorem Py:FnScope Y11 Y11 (defScope (Br 33)):=⟨rfl,rfl,rfl,by decide +kernel,rfl,by decide +kernel,by decide +kernel⟩
abbrev Y12:List Str:=["_law_found", "_law_due"]
theorem Y9{f:Addr}{fd:FuncData}(F:Fun G.K "_law_alike" "_law_alike" (Br 33) f fd)(T:Txt G mg):FnG P w G.K mg base CX0 1 f fd Y12 (spM G Fb) :=
 AaL (N:=Y12) (b:=Sy) F Py fun cdv A outer s H E gd hr =>
  have nd:=Py.nd
  (Ay (Cu (Nh (Lf (Aay (W0 hr)) Acv (Ad 0) (Ad 1)) (Nf (Lf (Aay (W0 hr)) Acv (Ak (Hm gd hr.units) Ly T.n_repr (by decide +kernel) (Ab (Ad 0) Ae)) (Ak (Hm gd hr.units) Ly T.n_repr (by decide +kernel) (Ab (Ad 1) Ae)))))))
theorem Xg:FnScope [Str.ofString "_law_bag_here", Str.ofString "_law_deep", Str.ofString "_law_k", Str.ofString "_law_some"] [Str.ofString "_law_bag_here"] (defScope (Br 34)):=⟨rfl,rfl,rfl,by decide +kernel,rfl,by decide +kernel,by decide +kernel⟩
theorem AbK{f:Addr}{fd:FuncData}(F:Fun G.K "_law_odd" "_law_odd" (Br 34) f fd)(T:Txt G mg)(F_w_take:FnM G P w mg base CX0 1 "_law_take" Cd):FnOk P w G.K mg base CX0 2 f fd ["_law_bag_here"] (spM G Gy) :=
 fn_ok (N:=["_law_bag_here", "_law_deep", "_law_k", "_law_some"]) (b:=Su) F Xg fun cdv A outer s H E hr =>
  have nd:=Xg.nd
  (Ai (Bt 1 nd (Hz Ae))
  (Ai (Tv PassesOwn.never rfl (Im rfl T.n_range (Ab Ag Ae)) (Fj 2 nd (vs:=[2])) (Ay (Bt 1 nd (Hz (Ab (Ad 1) Ae)))))
  (Ai (Bt 3 nd (Bs (Ab AdU (Ab Pb (Ab Pb (Ab Ag (Ab Ag (Ab (AdT un_neg Acs Ag) (Ab (Cp op_pow Acr Ag Ag) (Ab Ds (Ab Ds (Ab Ds (Ab (Xc Ae) (Ab (Hz Ae) (Ab Ab7 (Ab (Hz (Ab Ag Ae)) (Ab (Xc (Ab Ag Ae)) (Ab (Xc (Ab Ds Ae)) (Ab (Ab8 (Ab4 Ds Ag AcL)) (Ab (Ad 1) Ae))))))))))))))))))))
  (Ay (Cu (Ce Bc Bb (Ad 3) (Bl F_w_take (hr.mono (by decide)) pass0 (Ab (Ad 0) (Ab Ag Ae)))))))))
theorem Lg:FnScope [Str.ofString "_law_thing_here", Str.ofString "_law_letter"] [Str.ofString "_law_thing_here"] (defScope (Br 35)):=⟨rfl,rfl,rfl,by decide +kernel,rfl,by decide +kernel,by decide +kernel⟩
abbrev Y13:List Str:=["_law_thing_here", "_law_letter"]
theorem Ul{f:Addr}{fd:FuncData}(F:Fun G.K "_law_is_name" "_law_is_name" (Br 35) f fd)(T:Txt G mg):FnOk P w G.K mg base CX0 1 f fd ["_law_thing_here"] (spM G Dz) :=
 fn_ok (N:=Y13) (b:=Ck) F Lg fun cdv A outer s H E hr =>
  have nd:=Lg.nd
  (Ai (Kh (AdP (Z9 (Ji (Jh (Ak call_isi Jq T.n_isinstance (by decide +kernel) (Ab (Ad 0) (Ab (Pa (n := "str") rfl T.n_str (by decide +kernel)) Ae))))) (Tu (Ji (W9 op_lt Aap op_lt Aap Ag (Ak call_len Aaq T.n_len (by decide +kernel) (Ab (Ad 0) Ae)) Ag))))) (Ay (Cu Pb)) Dt)
  (Ay (Cu (Lf (Uj hr.units) AbE (Xe [(Str.ofString "_law_letter", 1)] rfl nd (Acj (Ad 0)) (blkOk_by (N:=Y13) (sc:=defScope (Br 35)) (by decide +kernel)) (fun _ _ _ _ _=>(Fj 1 nd)) (fun _ _ _ _ _=>(AcJ (K9 op_notIn_sign Acu (Ad 1) Ds rfl))) (fun _ _ _ _ _=>(Ad 1))) (Bs Ae)))))
theorem Nk:FnScope [Str.ofString "_law_x", Str.ofString "_law_y", Str.ofString "_law_some"] [Str.ofString "_law_x", Str.ofString "_law_y"] (defScope (Br 36)):=⟨rfl,rfl,rfl,by decide +kernel,rfl,by decide +kernel,by decide +kernel⟩
theorem V6{f:Addr}{fd:FuncData}(F:Fun G.K "_law_errors" "_law_errors" (Br 36) f fd)(T:Txt G mg)(E_TooMany:ErrK G P w mg base 1 "TooMany" ["limit"])(E_NoPlace:ErrK G P w mg base 1 "NoPlace" ["place"])(E_Broken:ErrK G P w mg base 1 "Broken" ["at"])(E_NoArray:ErrK G P w mg base 1 "NoArray" ["index"])(E_Unfit:ErrK G P w mg base 1 "Unfit" ["at"])(E_BadRoom:ErrK G P w mg base 1 "BadRoom" ["size"])(E_NoCell:ErrK G P w mg base 1 "NoCell" ["at"])(E_Unknown:ErrK G P w mg base 1 "Unknown" ["name"])(E_Wrong:ErrK G P w mg base 1 "Wrong" ["place"])(E_BadStatement:ErrK G P w mg base 1 "BadStatement" ["function", "address"])(E_Endless:ErrK G P w mg base 1 "Endless" ["function"])(E_NoEntry:ErrK G P w mg base 1 "NoEntry" ["many"])(E_Refused:ErrK G P w mg base 1 "Refused" ["deed"])(E_Full:ErrK G P w mg base 1 "Full" ["limit"])(E_NoFunction:ErrK G P w mg base 1 "NoFunction" ["name"])(E_NoCommand:ErrN G mg "NoCommand")(E_NoText:ErrN G mg "NoText")(E_NoDeed:ErrN G mg "NoDeed")(E_Unlike:ErrN G mg "Unlike")(E_Nothing:ErrN G mg "Nothing"):FnOk P w G.K mg base CX0 3 f fd ["_law_x", "_law_y"] (spM G Ge) :=
 fn_ok (N:=["_law_x", "_law_y", "_law_some"]) (b:=Qt) F Nk fun cdv A outer s H E hr =>
  have nd:=Nk.nd
  (Ai (Bt 2 nd (Bs (Ab (Et E_Wrong (hr.mono (by decide)) (Ab (Ad 0) Ae)) (Ab (Et E_Unknown (hr.mono (by decide)) (Ab (Ad 0) Ae)) (Ab (Et E_NoCell (hr.mono (by decide)) (Ab (Ad 0) Ae)) (Ab (Et E_BadRoom (hr.mono (by decide)) (Ab (Ad 0) Ae)) (Ab (Et E_Unfit (hr.mono (by decide)) (Ab (Ad 0) Ae)) (Ab (Et E_NoArray (hr.mono (by decide)) (Ab (Ad 0) Ae)) (Ab (Et E_Broken (hr.mono (by decide)) (Ab (Ad 0) Ae)) (Ab (Et E_NoPlace (hr.mono (by decide)) (Ab (Ad 0) Ae)) (Ab (Et E_TooMany (hr.mono (by decide)) (Ab (Ad 0) Ae)) Ae)))))))))))
  (Ai (Bt 2 nd (Cp Dc Eu (Ad 2) (Bs (Ab (Et E_NoFunction (hr.mono (by decide)) (Ab (Ad 0) Ae)) (Ab (Et E_Full (hr.mono (by decide)) (Ab (Ad 0) Ae)) (Ab (Et E_Refused (hr.mono (by decide)) (Ab (Ad 0) Ae)) (Ab (Et E_NoEntry (hr.mono (by decide)) (Ab (Ad 0) Ae)) (Ab (Et E_Endless (hr.mono (by decide)) (Ab (Ad 0) Ae)) (Ab (Et E_BadStatement (hr.mono (by decide)) (Ab (Ad 0) (Ab (Ad 1) Ae))) Ae)))))))))
  (Ay (Cu (Cp Dc Eu (Ad 2) (Bs (Ab (Km E_Nothing) (Ab (Km E_Unlike) (Ab (Km E_NoDeed) (Ab (Km E_NoText) (Ab (Km E_NoCommand) Ae)))))))))))
theorem Px:FnScope [Str.ofString "_law_e", Str.ofString "_law_some"] [Str.ofString "_law_e"] (defScope (Br 37)):=⟨rfl,rfl,rfl,by decide +kernel,rfl,by decide +kernel,by decide +kernel⟩
theorem Y5{f:Addr}{fd:FuncData}(F:Fun G.K "_law_flags" "_law_flags" (Br 37) f fd)(T:Txt G mg):FnOk P w G.K mg base CX0 1 f fd ["_law_e"] (spM G Gz) :=
 fn_ok (N:=["_law_e", "_law_some"]) (b:=Vh) F Px fun cdv A outer s H E hr =>
  have nd:=Px.nd
  (Ai (Bt 1 nd (Bs (Ab (Ak Ba (Cg T.xc T.te) T.n_isinstance (by decide +kernel) (Ab (Ad 0) (Ab (Bj (n := "Wrong") rfl T.g_Wrong) Ae))) (Ab (Ak Ba (Cg T.xc T.te) T.n_isinstance (by decide +kernel) (Ab (Ad 0) (Ab (Bj (n := "Unknown") rfl T.g_Unknown) Ae))) (Ab (Ak Ba (Cg T.xc T.te) T.n_isinstance (by decide +kernel) (Ab (Ad 0) (Ab (Bj (n := "NoCell") rfl T.g_NoCell) Ae))) (Ab (Ak Ba (Cg T.xc T.te) T.n_isinstance (by decide +kernel) (Ab (Ad 0) (Ab (Bj (n := "BadRoom") rfl T.g_BadRoom) Ae))) Ae))))))
  (Ai (Bt 1 nd (Cp Dc Eu (Ad 1) (Bs (Ab (Ak Ba (Cg T.xc T.te) T.n_isinstance (by decide +kernel) (Ab (Ad 0) (Ab (Bj (n := "Unfit") rfl T.g_Unfit) Ae))) (Ab (Ak Ba (Cg T.xc T.te) T.n_isinstance (by decide +kernel) (Ab (Ad 0) (Ab (Bj (n := "NoArray") rfl T.g_NoArray) Ae))) (Ab (Ak Ba (Cg T.xc T.te) T.n_isinstance (by decide +kernel) (Ab (Ad 0) (Ab (Bj (n := "Broken") rfl T.g_Broken) Ae))) (Ab (Ak Ba (Cg T.xc T.te) T.n_isinstance (by decide +kernel) (Ab (Ad 0) (Ab (Bj (n := "NoPlace") rfl T.g_NoPlace) Ae))) Ae)))))))
  (Ai (Bt 1 nd (Cp Dc Eu (Ad 1) (Bs (Ab (Ak Ba (Cg T.xc T.te) T.n_isinstance (by decide +kernel) (Ab (Ad 0) (Ab (Bj (n := "TooMany") rfl T.g_TooMany) Ae))) (Ab (Ak Ba (Cg T.xc T.te) T.n_isinstance (by decide +kernel) (Ab (Ad 0) (Ab (Bj (n := "NoFunction") rfl T.g_NoFunction) Ae))) (Ab (Ak Ba (Cg T.xc T.te) T.n_isinstance (by decide +kernel) (Ab (Ad 0) (Ab (Bj (n := "Full") rfl T.g_Full) Ae))) (Ab (Ak Ba (Cg T.xc T.te) T.n_isinstance (by decide +kernel) (Ab (Ad 0) (Ab (Bj (n := "Refused") rfl T.g_Refused) Ae))) Ae)))))))
  (Ai (Bt 1 nd (Cp Dc Eu (Ad 1) (Bs (Ab (Ak Ba (Cg T.xc T.te) T.n_isinstance (by decide +kernel) (Ab (Ad 0) (Ab (Bj (n := "NoEntry") rfl T.g_NoEntry) Ae))) (Ab (Ak Ba (Cg T.xc T.te) T.n_isinstance (by decide +kernel) (Ab (Ad 0) (Ab (Bj (n := "Endless") rfl T.g_Endless) Ae))) (Ab (Ak Ba (Cg T.xc T.te) T.n_isinstance (by decide +kernel) (Ab (Ad 0) (Ab (Bj (n := "BadStatement") rfl T.g_BadStatement) Ae))) Ae))))))
  (Ai (Bt 1 nd (Cp Dc Eu (Ad 1) (Bs (Ab (Ak Ba (Cg T.xc T.te) T.n_isinstance (by decide +kernel) (Ab (Ad 0) (Ab (Bj (n := "Nothing") rfl T.g_Nothing) Ae))) (Ab (Ak Ba (Cg T.xc T.te) T.n_isinstance (by decide +kernel) (Ab (Ad 0) (Ab (Bj (n := "Unlike") rfl T.g_Unlike) Ae))) (Ab (Ak Ba (Cg T.xc T.te) T.n_isinstance (by decide +kernel) (Ab (Ad 0) (Ab (Bj (n := "NoDeed") rfl T.g_NoDeed) Ae))) (Ab (Ak Ba (Cg T.xc T.te) T.n_isinstance (by decide +kernel) (Ab (Ad 0) (Ab (Bj (n := "NoText") rfl T.g_NoText) Ae))) Ae)))))))
  (Ay (Cu (Cp Dc Eu (Ad 1) (Bs (Ab (Ak Ba (Cg T.xc T.te) T.n_isinstance (by decide +kernel) (Ab (Ad 0) (Ab (Bj (n := "NoCommand") rfl T.g_NoCommand) Ae))) Ae))))))))))
theorem Fv:FnScope [Str.ofString "_law_x", Str.ofString "_law_y", Str.ofString "_law_some", Str.ofString "_law_at", Str.ofString "_law_told", Str.ofString "_law_k"] [Str.ofString "_law_x", Str.ofString "_law_y"] (defScope (Br 38)):=⟨rfl,rfl,rfl,by decide +kernel,rfl,by decide +kernel,by decide +kernel⟩
abbrev Y14:List Str:=["_law_x", "_law_y", "_law_some", "_law_at", "_law_told", "_law_k"]
theorem Ko{f:Addr}{fd:FuncData}(F:Fun G.K "_law_errors_right" "_law_errors_right" (Br 38) f fd)(T:Txt G mg)(F_w_errors:FnM G P w mg base CX0 3 "_law_errors" Ge)(F_w_flags:FnM G P w mg base CX0 1 "_law_flags" Gz)(F_w_alike:FgM G P w mg base CX0 1 "_law_alike" Fb)(E_TailError:ErrN G mg "TailError"):FnG P w G.K mg base CX0 4 f fd ["_law_x", "_law_y"] (spM G Bm) :=
 AaL (N:=Y14) (b:=Bw) F Fv fun cdv A outer s H E gd hr =>
  have nd:=Fv.nd
  (Ai (Bt 2 nd (Bl F_w_errors (hr.mono (by decide)) pass0 (Ab (Ad 0) (Ab (Ad 1) Ae))))
  (Ai (Tv PassesOwn.never rfl (Im rfl T.n_range (Ab Ag Ae)) (Fj 3 nd (vs:=[3])) (Ai (Kh (AdP (Z9 (K9 (Acz hr.units) Aej (Bl F_w_flags (hr.mono (by decide)) pass0 (Ab (Ce Bc Bb (Ad 2) (Ad 3)) Ae)) (Xe [(Str.ofString "_law_k", 5)] rfl nd (Im rfl T.n_range (Ab Ag Ae)) (blkOk_by (N:=Y14) (sc:=defScope (Br 38)) (by decide +kernel)) (fun _ _ _ _ _=>(Fj 5 nd)) (fun _ _ _ _ _=>Qz) (fun _ _ _ _ _=>(Lf (Uj hr.units) AbE (Ad 5) (Ad 3))))) (Tu (Ji (Jh (Ak Ba (Cg T.xc T.te) T.n_isinstance (by decide +kernel) (Ab (Ce Bc Bb (Ad 2) (Ad 3)) (Ab (Bj (n := "TailError") rfl T.g_TailError) Ae)))))))) (Ay (Cu Pb)) Dt)
 (Ay (Kh (Ji (Jh (Ak Ba (Cg T.xc T.te) T.n_isinstance (by decide +kernel) (Ab (Ce Bc Bb (Ad 2) (Ad 3)) (Ab (Pa (n := "ValueError") rfl T.n_ValueError (by decide +kernel)) Ae))))) (Ay (Cu Pb)) Dt))))
  (Ai (Bt 4 nd (Hz (Ab (Cy T.xf T.xn_place (Ce Bc Bb (Ad 2) Ag)) (Ab (Cy T.xf T.xn_name (Ce Bc Bb (Ad 2) Ag)) (Ab (Cy T.xf T.xn_at (Ce Bc Bb (Ad 2) Ag)) (Ab (Cy T.xf T.xn_size (Ce Bc Bb (Ad 2) Ag)) (Ab (Cy T.xf T.xn_at (Ce Bc Bb (Ad 2) Ag)) (Ab (Cy T.xf T.xn_index (Ce Bc Bb (Ad 2) Ag)) (Ab (Cy T.xf T.xn_at (Ce Bc Bb (Ad 2) Ag)) Ae)))))))))
  (Ai (Bt 4 nd (Cp Dc Eu (Ad 4) (Hz (Ab (Cy T.xf T.xn_place (Ce Bc Bb (Ad 2) Ag)) (Ab (Cy T.xf T.xn_limit (Ce Bc Bb (Ad 2) Ag)) (Ab (Cy T.xf T.xn_name (Ce Bc Bb (Ad 2) Ag)) (Ab (Cy T.xf T.xn_limit (Ce Bc Bb (Ad 2) Ag)) (Ab (Cy T.xf T.xn_deed (Ce Bc Bb (Ad 2) Ag)) (Ab (Cy T.xf T.xn_many (Ce Bc Bb (Ad 2) Ag)) Ae)))))))))
  (Ai (Vx (AcR PySem.F.plainAttrs_list PySem.F.slot_list_append PySem.F.type_list_append mt_append Nv ty_list (Ad 4) (Ab (Cy T.xf T.xn_function (Ce Bc Bb (Ad 2) Ag)) Ae)))
  (Ai (Bt 4 nd (Cp Dc Eu (Ad 4) (Hz (Ab (Cy T.xf T.xn_function (Ce Bc Bb (Ad 2) Ag)) (Ab (Cy T.xf T.xn_address (Ce Bc Bb (Ad 2) Ag)) Ae)))))
  (Ai (Kh (Jh (Ak call_isi Jq T.n_isinstance (by decide +kernel) (Ab (Ad 0) (Ab (Pa (n := "list") rfl T.n_list (by decide +kernel)) Ae)))) (Ay (Vx (AcR PySem.F.plainAttrs_list PySem.F.slot_list_append PySem.F.type_list_append mt_append Nv ty_list (Ad 0) (Ab Ds Ae)))) Dt)
  (Ai (Kh (Jh (Ak call_isi Jq T.n_isinstance (by decide +kernel) (Ab (Ad 1) (Ab (Pa (n := "list") rfl T.n_list (by decide +kernel)) Ae)))) (Ay (Vx (AcR PySem.F.plainAttrs_list PySem.F.slot_list_append PySem.F.type_list_append mt_append Nv ty_list (Ad 1) (Ab Ds Ae)))) Dt)
  (Ay (Cu (Nh (Lw F_w_alike gd (hr.mono (by decide)) pass0 (Ab (Ad 4) (Ab (Cp Dc Eu (Cp op_rep AcV (Bs (Ab (Ad 0) Ae)) Ag) (Bs (Ab (Ad 0) (Ab (Ad 1) Ae)))) Ae))) (Nf (Aah (Ak Ba (Cg T.xc T.te) T.n_isinstance (by decide +kernel) (Ab (Km E_TailError) (Ab (Bj (n := "Wrong") rfl T.g_Wrong) Ae))))))))))))))))
theorem Pu:FnScope [Str.ofString "_law_bag_here", Str.ofString "_law_letters", Str.ofString "_law_word", Str.ofString "_law_some", Str.ofString "_law_k"] [Str.ofString "_law_bag_here"] (defScope (Br 39)):=⟨rfl,rfl,rfl,by decide +kernel,rfl,by decide +kernel,by decide +kernel⟩
abbrev Y15:List Str:=["_law_bag_here", "_law_letters", "_law_word", "_law_some", "_law_k"]
theorem Y4{f:Addr}{fd:FuncData}(F:Fun G.K "_law_thing" "_law_thing" (Br 39) f fd)(T:Txt G mg)(F_w_take:FnM G P w mg base CX0 1 "_law_take" Cd)(F_w_odd:FnM G P w mg base CX0 2 "_law_odd" Gy):FnOk P w G.K mg base CX0 3 f fd ["_law_bag_here"] (spM G Fy) :=
 fn_ok (N:=Y15) (b:=J8) F Pu fun cdv A outer s H E hr =>
  have nd:=Pu.nd
  (Ai (Bt 1 nd Ds)
  (Ai (Bt 2 nd (AcN Ds (Xe [(Str.ofString "_law_k", 4)] rfl nd (Im rfl T.n_range (Ab (Bl F_w_take (hr.mono (by decide)) pass0 (Ab (Ad 0) (Ab Ag Ae))) Ae)) (blkOk_by (N:=Y15) (sc:=defScope (Br 39)) (by decide +kernel)) (fun _ _ _ _ _=>(Fj 4 nd)) (fun _ _ _ _ _=>Qz) (fun _ _ _ _ _=>(AdV (Ad 1) (Bl F_w_take (hr.mono (by decide)) pass0 (Ab (Ad 0) (Ab (Ce Bc Bb (Bs (Ab Ag (Ab Ag (Ab Ag Ae)))) (Bl F_w_take (hr.mono (by decide)) pass0 (Ab (Ad 0) (Ab Ag Ae)))) Ae))))))))
  (Ai (Bt 3 nd (Bs (Ab Ds (Ab Ds (Ab Ds (Ab Ds (Ab Ds (Ab (Ad 2) (Ab (Xd sl_str Aei (Ad 2) Aag (Aaf Ag)) (Ab (Bl F_w_odd (hr.mono (by decide)) pass0 (Ab (Ad 0) Ae)) (Ab (Bl F_w_take (hr.mono (by decide)) pass0 (Ab (Ad 0) (Ab Ag Ae))) (Ab (AdT un_neg Acs Ag) (Ab Pb Ae)))))))))))))
  (Ay (Cu (Ce Bc Bb (Cp Dc Eu (Ad 3) (Bs (Ab (Bs (Ab Ds Ae)) Ae))) (Bl F_w_take (hr.mono (by decide)) pass0 (Ab (Ad 0) (Ab Ag Ae)))))))))
theorem Acm:FnScope [Str.ofString "_law_script", Str.ofString "_law_bag_here", Str.ofString "_law_turn", Str.ofString "_law_whole", Str.ofString "_law_again", Str.ofString "_law_thing_here", Str.ofString "_law_many", Str.ofString "_law_due", Str.ofString "_law_shown", Str.ofString "_law_found"] [Str.ofString "_law_script"] (defScope (Br 40)):=⟨rfl,rfl,rfl,by decide +kernel,rfl,by decide +kernel,by decide +kernel⟩
theorem Aes{f:Addr}{fd:FuncData}(F:Fun G.K "law" "law" (Br 40) f fd)(T:Txt G mg)(F_w_bag:FnM G P w mg base CX0 1 "_law_bag" AeN)(F_w_errors_right:FgM G P w mg base CX0 4 "_law_errors_right" Bm)(F_w_odd:FnM G P w mg base CX0 2 "_law_odd" Gy)(F_w_take:FnM G P w mg base CX0 1 "_law_take" Cd)(F_w_thing:FnM G P w mg base CX0 3 "_law_thing" Fy)(F_w_is_name:FnM G P w mg base CX0 1 "_law_is_name" Dz)(F_is_growing:FnM G P w mg base CX0 1 "is_growing" Gf)(F_is_number:FnM G P w mg base CX0 2 "is_number" Ew)(F_is_name:FnM G P w mg base CX0 1 "is_name" Ku)(F_is_integer:FnM G P w mg base CX0 1 "is_integer" Ea)(F_w_alike:FgM G P w mg base CX0 1 "_law_alike" Fb):FnG P w G.K mg base CX0 5 f fd ["_law_script"] (spM G Zd) :=
 AaL (N:=["_law_script", "_law_bag_here", "_law_turn", "_law_whole", "_law_again", "_law_thing_here", "_law_many", "_law_due", "_law_shown", "_law_found"]) (b:=Abh) F Acm fun cdv A outer s H E gd hr =>
  have nd:=Acm.nd
  (Ai (Bt 1 nd (Bl F_w_bag (hr.mono (by decide)) pass0 (Ab (Ad 0) Ae)))
  (Ai (Tv PassesOwn.never rfl (Im rfl T.n_range (Ab Ag Ae)) (Fj 2 nd (vs:=[2])) (Ay (Kh (AdP (Z9 (Ji (Jh (Lw F_w_errors_right gd (hr.mono (by decide)) pass0 (Ab (Hz (Ab (Bl F_w_take (hr.mono (by decide)) pass0 (Ab (Ad 1) (Ab Ag Ae))) Ae)) (Ab (Bl F_w_odd (hr.mono (by decide)) pass0 (Ab (Ad 1) Ae)) Ae))))) (Tu (Ji (Jh (Lw F_w_errors_right gd (hr.mono (by decide)) pass0 (Ab (Bl F_w_odd (hr.mono (by decide)) pass0 (Ab (Ad 1) Ae)) (Ab (Hz (Ab Ag (Ab Ag Ae))) Ae)))))))) (Ay (Cu Pb)) Dt)))
  (Ai (Tv PassesOwn.never rfl (Im rfl T.n_range (Ab Ag Ae)) (Fj 2 nd (vs:=[2])) (Ai (Aci 5 6 rfl nd (Ab (Bl F_w_thing (hr.mono (by decide)) pass0 (Ab (Ad 1) Ae)) (Ab (Ce Bc Bb (Bs (Ab (Bl F_w_take (hr.mono (by decide)) pass0 (Ab (Ad 1) (Ab Ag Ae))) (Ab (Cp op_pow Acr Ag Ag) Ae))) (Df call_int1 Jr T.n_int (by decide +kernel) (Ab (Lf (Uj hr.units) AbE (Bl F_w_take (hr.mono (by decide)) pass0 (Ab (Ad 1) (Ab Ag Ae))) Ag) Ae))) Ae)))
 (Ai (Bt 3 nd (Nh (Ak call_isi Jq T.n_isinstance (by decide +kernel) (Ab (Ad 5) (Ab (Pa (n := "int") rfl T.n_int (by decide +kernel)) Ae))) (Nf (Aah (Ak call_isi Jq T.n_isinstance (by decide +kernel) (Ab (Ad 5) (Ab (Pa (n := "bool") rfl T.n_bool (by decide +kernel)) Ae)))))))
 (Ai (Aci 7 8 rfl nd (Ab (Bs (Ab (Ad 3) (Ab (Bl F_w_is_name (hr.mono (by decide)) pass0 (Ab (Ad 5) Ae)) (Ab (Nh (Ad 3) (Nf (Xf op_le AbD op_lt Aap Ag (Ad 5) (Ad 6)))) (Ab (Lf (Adc hr.units) AcW (Ad 5) (Xc (Ab Ds (Ab Ds Ae))) rfl) Ae))))) (Ab (Ak (Hm gd hr.units) Ly T.n_repr (by decide +kernel) (Ab (Ad 5) Ae)) Ae)))
 (Ay (Tv PassesOwn.never rfl (Im rfl T.n_range (Ab Ag Ae)) (Fj 4 nd (vs:=[4])) (Ai (Bt 9 nd (Bs (Ab (Bl F_is_integer (hr.mono (by decide)) pass0 (Ab (Ad 5) Ae)) (Ab (Bl F_is_name (hr.mono (by decide)) pass0 (Ab (Ad 5) Ae)) (Ab (Bl F_is_number (hr.mono (by decide)) pass0 (Ab (Ad 6) (Ab (Ad 5) Ae))) (Ab (Bl F_is_growing (hr.mono (by decide)) pass0 (Ab (Ad 5) Ae)) Ae))))))
 (Ay (Kh (AdP (Z9 (Ji (Jh (Lw F_w_alike gd (hr.mono (by decide)) pass0 (Ab (Ad 9) (Ab (Ad 7) Ae))))) (Tu (K9 (Acz hr.units) Aej (Ak (Hm gd hr.units) Ly T.n_repr (by decide +kernel) (Ab (Ad 5) Ae)) (Ad 8))))) (Ay (Cu Pb)) Dt)))))))))
  (Ay (Cu Pb)))))
end
end K10
set_option maxHeartbeats 4000000
namespace K10
open PySem L2 Fm
theorem Ae0{K:PySem.W.Frag}{H:Hp}{a:Addr}{ns:List Int}(hl:ns.length≤63)(hO:Only H)(hS:SqL K H a (ns.map V.int))(at_:String→Addr){hs:NestedKey→Int}:spM ⟨at_,K,fun _=>none,hs⟩ Zd [.ref a] H (fun v _=>v=.bl true) fun _ _ _=>False:=by
 obtain⟨s',e⟩:=law_true hl
 refine⟨⟨[],[]⟩,⟨0,fun _=>none⟩,[.scr ns],⟨rfl,List.nodup_nil,fun i h=>absurd h (Nat.not_lt_zero i),fun i o h=>(by cases h),fun i o a h=>(by cases h),fun a h=>(by cases h)⟩,.cons (.scr (AdQ hO hS)) .nil,?_⟩
 rw[e]
 intro p' H' b _ _ r
 cases r;rfl
theorem Af6{c_Wrong c_Unknown c_NoCell c_BadRoom c_Unfit c_NoArray c_Broken c_NoPlace c_TooMany c_NoFunction c_Full c_Refused c_NoEntry c_Endless c_BadStatement c_Nothing c_Unlike c_NoDeed c_NoText c_NoCommand c_TailError f_1 f_2 f_3 f_4 f_5 f_6 f_7 f_8 f_9 f_10 f_11 f_12 f_13 f_14:Addr}:∃at_:String→Addr,at_ "Wrong" = c_Wrong∧at_ "Unknown" = c_Unknown∧at_ "NoCell" = c_NoCell∧at_ "BadRoom" = c_BadRoom∧at_ "Unfit" = c_Unfit∧at_ "NoArray" = c_NoArray∧at_ "Broken" = c_Broken∧at_ "NoPlace" = c_NoPlace∧at_ "TooMany" = c_TooMany∧at_ "NoFunction" = c_NoFunction∧at_ "Full" = c_Full∧at_ "Refused" = c_Refused∧at_ "NoEntry" = c_NoEntry∧at_ "Endless" = c_Endless∧at_ "BadStatement" = c_BadStatement∧at_ "Nothing" = c_Nothing∧at_ "Unlike" = c_Unlike∧at_ "NoDeed" = c_NoDeed∧at_ "NoText" = c_NoText∧at_ "NoCommand" = c_NoCommand∧at_ "TailError" = c_TailError∧at_ "is_integer" = f_1∧at_ "is_number" = f_2∧at_ "is_name" = f_3∧at_ "is_growing" = f_4∧at_ "_law_bag" = f_5∧at_ "_law_take" = f_6∧at_ "_law_alike" = f_7∧at_ "_law_odd" = f_8∧at_ "_law_is_name" = f_9∧at_ "_law_errors" = f_10∧at_ "_law_flags" = f_11∧at_ "_law_errors_right" = f_12∧at_ "_law_thing" = f_13∧at_ "law" = f_14:=by
 refine⟨fun n=>if n = "Wrong" then c_Wrong else if n = "Unknown" then c_Unknown else if n = "NoCell" then c_NoCell else if n = "BadRoom" then c_BadRoom else if n = "Unfit" then c_Unfit else if n = "NoArray" then c_NoArray else if n = "Broken" then c_Broken else if n = "NoPlace" then c_NoPlace else if n = "TooMany" then c_TooMany else if n = "NoFunction" then c_NoFunction else if n = "Full" then c_Full else if n = "Refused" then c_Refused else if n = "NoEntry" then c_NoEntry else if n = "Endless" then c_Endless else if n = "BadStatement" then c_BadStatement else if n = "Nothing" then c_Nothing else if n = "Unlike" then c_Unlike else if n = "NoDeed" then c_NoDeed else if n = "NoText" then c_NoText else if n = "NoCommand" then c_NoCommand else if n = "TailError" then c_TailError else if n = "is_integer" then f_1 else if n = "is_number" then f_2 else if n = "is_name" then f_3 else if n = "is_growing" then f_4 else if n = "_law_bag" then f_5 else if n = "_law_take" then f_6 else if n = "_law_alike" then f_7 else if n = "_law_odd" then f_8 else if n = "_law_is_name" then f_9 else if n = "_law_errors" then f_10 else if n = "_law_flags" then f_11 else if n = "_law_errors_right" then f_12 else if n = "_law_thing" then f_13 else if n = "law" then f_14 else 0,?_,?_,?_,?_,?_,?_,?_,?_,?_,?_,?_,?_,?_,?_,?_,?_,?_,?_,?_,?_,?_,?_,?_,?_,?_,?_,?_,?_,?_,?_,?_,?_,?_,?_,?_⟩<;>simp
abbrev g_(at_:String→Addr)(K:PySem.W.Frag)(w:World):Gw:=⟨at_,K,fun _=>none,Afz w⟩
abbrev Y16:List Str:=["_law_x", "_law_y"]
theorem AeO{l:PySem.W.OpenLaw}{w:World}{K:PySem.W.Frag}{h:Heap}{mg:Str→Option Value}{fa:Addr}(X:K.In h)(N:h.Ns mainGlobals mg)(hfa:mg "law" = some (.ref fa))(FF:Facts l w K h mg fa)
  : ∃fd:FuncData,(∀(s:Shared) (v:Value),BindsTo s fd ⟨[v],[]⟩ [("_law_script", v)])∧∀base:Heap,K.In base→base.Ns mainGlobals mg→FnG l.prog w K mg base CX0 5 fa fd ["_law_script"] (fun vs H Q E=>∀at_:String→Addr,spM (g_ at_ K w) Zd vs H Q E):=by
 refine FF _ ?_
 intro f_1 f_2 f_3 f_4 f_5 f_6 f_7 f_8 f_9 f_10 f_11 f_12 f_13 f_14 c_Wrong c_Unknown c_NoCell c_BadRoom c_Unfit c_NoArray c_Broken c_NoPlace c_TooMany c_NoFunction c_Full c_Refused c_NoEntry c_Endless c_BadStatement c_Nothing c_Unlike c_NoDeed c_NoText c_NoCommand c_TailError od14 an14 sl14 oc14 kV14 dc14 pm14 cd14 ct14 ac_GROWINGS odc_GROWINGS nc_GROWINGS slc_GROWINGS tc0_GROWINGS tc1_GROWINGS tc_LETTERS tc_MOST_LETTERS a_Wrong a_Unknown a_NoCell a_BadRoom a_Unfit a_NoArray a_Broken a_NoPlace a_TooMany a_NoFunction a_Full a_Refused a_NoEntry a_Endless a_BadStatement a_Nothing a_Unlike a_NoDeed a_NoText a_NoCommand a_TailError g1 g2 g3 g4 g5 g6 g7 g8 g9 g10 g11 g12 g13 a14 l14 c14 k14 qn_GROWINGS ql_GROWINGS qn_LETTERS qn_MOST_LETTERS z_ValueError z_abs z_all z_bool z_int z_isinstance z_len z_list z_range z_repr z_str z_super eb_Wrong eb_Unknown eb_NoCell eb_BadRoom eb_Unfit eb_NoArray eb_Broken eb_NoPlace eb_TooMany eb_NoFunction eb_Full eb_Refused eb_NoEntry eb_Endless eb_BadStatement eb_Nothing eb_Unlike eb_NoDeed eb_NoText eb_NoCommand eb_TailError xkS xkT xn_address xn_at xn_deed xn_function xn_index xn_limit xn_many xn_name xn_place xn_size
 have e:=hfa.symm.trans (PySem.W.mg_of X N a14)
 cases e
 obtain⟨at_,rfl,rfl,rfl,rfl,rfl,rfl,rfl,rfl,rfl,rfl,rfl,rfl,rfl,rfl,rfl,rfl,rfl,rfl,rfl,rfl,rfl,rfl,rfl,rfl,rfl,rfl,rfl,rfl,rfl,rfl,rfl,rfl,rfl,rfl,rfl⟩:=Af6 (c_Wrong:=c_Wrong) (c_Unknown:=c_Unknown) (c_NoCell:=c_NoCell) (c_BadRoom:=c_BadRoom) (c_Unfit:=c_Unfit) (c_NoArray:=c_NoArray) (c_Broken:=c_Broken) (c_NoPlace:=c_NoPlace) (c_TooMany:=c_TooMany) (c_NoFunction:=c_NoFunction) (c_Full:=c_Full) (c_Refused:=c_Refused) (c_NoEntry:=c_NoEntry) (c_Endless:=c_Endless) (c_BadStatement:=c_BadStatement) (c_Nothing:=c_Nothing) (c_Unlike:=c_Unlike) (c_NoDeed:=c_NoDeed) (c_NoText:=c_NoText) (c_NoCommand:=c_NoCommand) (c_TailError:=c_TailError) (f_1:=f_1) (f_2:=f_2) (f_3:=f_3) (f_4:=f_4) (f_5:=f_5) (f_6:=f_6) (f_7:=f_7) (f_8:=f_8) (f_9:=f_9) (f_10:=f_10) (f_11:=f_11) (f_12:=f_12) (f_13:=f_13) (f_14:=fa)
 obtain⟨nmE_Wrong,qE_Wrong,fileE_Wrong,NE_Wrong,fE_Wrong,ccE_Wrong,ceE_Wrong,bsE_Wrong,bmE_Wrong,subE_Wrong,snE_Wrong,abE_Wrong,colE_Wrong,ddE_Wrong,odE_Wrong,cldE_Wrong,cddE_Wrong,k0E_Wrong,k1E_Wrong,k2E_Wrong,k3E_Wrong,k5E_Wrong,ocE_Wrong,dcE_Wrong,pmE_Wrong,ctE_Wrong,clE_Wrong,cclE_Wrong,slE_Wrong,cslE_Wrong,ccsE_Wrong,vsE_Wrong,tfE_Wrong,e1_Wrong,e2_Wrong,e3_Wrong,e4_Wrong,e5_Wrong,e6_Wrong,e7_Wrong,e8_Wrong,e9_Wrong,d1_Wrong,d2_Wrong,d3_Wrong,d4_Wrong,d5_Wrong,d6_Wrong,d7_Wrong,d8_Wrong,d9_Wrong,da_Wrong,db_Wrong,dc_Wrong,dd_Wrong,de_Wrong,df_Wrong,dg_Wrong,dh_Wrong,_⟩:=eb_Wrong
 obtain⟨nmE_Unknown,qE_Unknown,fileE_Unknown,NE_Unknown,fE_Unknown,ccE_Unknown,ceE_Unknown,bsE_Unknown,bmE_Unknown,subE_Unknown,snE_Unknown,abE_Unknown,colE_Unknown,ddE_Unknown,odE_Unknown,cldE_Unknown,cddE_Unknown,k0E_Unknown,k1E_Unknown,k2E_Unknown,k3E_Unknown,k5E_Unknown,ocE_Unknown,dcE_Unknown,pmE_Unknown,ctE_Unknown,clE_Unknown,cclE_Unknown,slE_Unknown,cslE_Unknown,ccsE_Unknown,vsE_Unknown,tfE_Unknown,e1_Unknown,e2_Unknown,e3_Unknown,e4_Unknown,e5_Unknown,e6_Unknown,e7_Unknown,e8_Unknown,e9_Unknown,d1_Unknown,d2_Unknown,d3_Unknown,d4_Unknown,d5_Unknown,d6_Unknown,d7_Unknown,d8_Unknown,d9_Unknown,da_Unknown,db_Unknown,dc_Unknown,dd_Unknown,de_Unknown,df_Unknown,dg_Unknown,dh_Unknown,_⟩:=eb_Unknown
 obtain⟨nmE_NoCell,qE_NoCell,fileE_NoCell,NE_NoCell,fE_NoCell,ccE_NoCell,ceE_NoCell,bsE_NoCell,bmE_NoCell,subE_NoCell,snE_NoCell,abE_NoCell,colE_NoCell,ddE_NoCell,odE_NoCell,cldE_NoCell,cddE_NoCell,k0E_NoCell,k1E_NoCell,k2E_NoCell,k3E_NoCell,k5E_NoCell,ocE_NoCell,dcE_NoCell,pmE_NoCell,ctE_NoCell,clE_NoCell,cclE_NoCell,slE_NoCell,cslE_NoCell,ccsE_NoCell,vsE_NoCell,tfE_NoCell,e1_NoCell,e2_NoCell,e3_NoCell,e4_NoCell,e5_NoCell,e6_NoCell,e7_NoCell,e8_NoCell,e9_NoCell,d1_NoCell,d2_NoCell,d3_NoCell,d4_NoCell,d5_NoCell,d6_NoCell,d7_NoCell,d8_NoCell,d9_NoCell,da_NoCell,db_NoCell,dc_NoCell,dd_NoCell,de_NoCell,df_NoCell,dg_NoCell,dh_NoCell,_⟩:=eb_NoCell
 obtain⟨nmE_BadRoom,qE_BadRoom,fileE_BadRoom,NE_BadRoom,fE_BadRoom,ccE_BadRoom,ceE_BadRoom,bsE_BadRoom,bmE_BadRoom,subE_BadRoom,snE_BadRoom,abE_BadRoom,colE_BadRoom,ddE_BadRoom,odE_BadRoom,cldE_BadRoom,cddE_BadRoom,k0E_BadRoom,k1E_BadRoom,k2E_BadRoom,k3E_BadRoom,k5E_BadRoom,ocE_BadRoom,dcE_BadRoom,pmE_BadRoom,ctE_BadRoom,clE_BadRoom,cclE_BadRoom,slE_BadRoom,cslE_BadRoom,ccsE_BadRoom,vsE_BadRoom,tfE_BadRoom,e1_BadRoom,e2_BadRoom,e3_BadRoom,e4_BadRoom,e5_BadRoom,e6_BadRoom,e7_BadRoom,e8_BadRoom,e9_BadRoom,d1_BadRoom,d2_BadRoom,d3_BadRoom,d4_BadRoom,d5_BadRoom,d6_BadRoom,d7_BadRoom,d8_BadRoom,d9_BadRoom,da_BadRoom,db_BadRoom,dc_BadRoom,dd_BadRoom,de_BadRoom,df_BadRoom,dg_BadRoom,dh_BadRoom,_⟩:=eb_BadRoom
 obtain⟨nmE_Unfit,qE_Unfit,fileE_Unfit,NE_Unfit,fE_Unfit,ccE_Unfit,ceE_Unfit,bsE_Unfit,bmE_Unfit,subE_Unfit,snE_Unfit,abE_Unfit,colE_Unfit,ddE_Unfit,odE_Unfit,cldE_Unfit,cddE_Unfit,k0E_Unfit,k1E_Unfit,k2E_Unfit,k3E_Unfit,k5E_Unfit,ocE_Unfit,dcE_Unfit,pmE_Unfit,ctE_Unfit,clE_Unfit,cclE_Unfit,slE_Unfit,cslE_Unfit,ccsE_Unfit,vsE_Unfit,tfE_Unfit,e1_Unfit,e2_Unfit,e3_Unfit,e4_Unfit,e5_Unfit,e6_Unfit,e7_Unfit,e8_Unfit,e9_Unfit,d1_Unfit,d2_Unfit,d3_Unfit,d4_Unfit,d5_Unfit,d6_Unfit,d7_Unfit,d8_Unfit,d9_Unfit,da_Unfit,db_Unfit,dc_Unfit,dd_Unfit,de_Unfit,df_Unfit,dg_Unfit,dh_Unfit,_⟩:=eb_Unfit
 obtain⟨nmE_NoArray,qE_NoArray,fileE_NoArray,NE_NoArray,fE_NoArray,ccE_NoArray,ceE_NoArray,bsE_NoArray,bmE_NoArray,subE_NoArray,snE_NoArray,abE_NoArray,colE_NoArray,ddE_NoArray,odE_NoArray,cldE_NoArray,cddE_NoArray,k0E_NoArray,k1E_NoArray,k2E_NoArray,k3E_NoArray,k5E_NoArray,ocE_NoArray,dcE_NoArray,pmE_NoArray,ctE_NoArray,clE_NoArray,cclE_NoArray,slE_NoArray,cslE_NoArray,ccsE_NoArray,vsE_NoArray,tfE_NoArray,e1_NoArray,e2_NoArray,e3_NoArray,e4_NoArray,e5_NoArray,e6_NoArray,e7_NoArray,e8_NoArray,e9_NoArray,d1_NoArray,d2_NoArray,d3_NoArray,d4_NoArray,d5_NoArray,d6_NoArray,d7_NoArray,d8_NoArray,d9_NoArray,da_NoArray,db_NoArray,dc_NoArray,dd_NoArray,de_NoArray,df_NoArray,dg_NoArray,dh_NoArray,_⟩:=eb_NoArray
 obtain⟨nmE_Broken,qE_Broken,fileE_Broken,NE_Broken,fE_Broken,ccE_Broken,ceE_Broken,bsE_Broken,bmE_Broken,subE_Broken,snE_Broken,abE_Broken,colE_Broken,ddE_Broken,odE_Broken,cldE_Broken,cddE_Broken,k0E_Broken,k1E_Broken,k2E_Broken,k3E_Broken,k5E_Broken,ocE_Broken,dcE_Broken,pmE_Broken,ctE_Broken,clE_Broken,cclE_Broken,slE_Broken,cslE_Broken,ccsE_Broken,vsE_Broken,tfE_Broken,e1_Broken,e2_Broken,e3_Broken,e4_Broken,e5_Broken,e6_Broken,e7_Broken,e8_Broken,e9_Broken,d1_Broken,d2_Broken,d3_Broken,d4_Broken,d5_Broken,d6_Broken,d7_Broken,d8_Broken,d9_Broken,da_Broken,db_Broken,dc_Broken,dd_Broken,de_Broken,df_Broken,dg_Broken,dh_Broken,_⟩:=eb_Broken
 obtain⟨nmE_NoPlace,qE_NoPlace,fileE_NoPlace,NE_NoPlace,fE_NoPlace,ccE_NoPlace,ceE_NoPlace,bsE_NoPlace,bmE_NoPlace,subE_NoPlace,snE_NoPlace,abE_NoPlace,colE_NoPlace,ddE_NoPlace,odE_NoPlace,cldE_NoPlace,cddE_NoPlace,k0E_NoPlace,k1E_NoPlace,k2E_NoPlace,k3E_NoPlace,k5E_NoPlace,ocE_NoPlace,dcE_NoPlace,pmE_NoPlace,ctE_NoPlace,clE_NoPlace,cclE_NoPlace,slE_NoPlace,cslE_NoPlace,ccsE_NoPlace,vsE_NoPlace,tfE_NoPlace,e1_NoPlace,e2_NoPlace,e3_NoPlace,e4_NoPlace,e5_NoPlace,e6_NoPlace,e7_NoPlace,e8_NoPlace,e9_NoPlace,d1_NoPlace,d2_NoPlace,d3_NoPlace,d4_NoPlace,d5_NoPlace,d6_NoPlace,d7_NoPlace,d8_NoPlace,d9_NoPlace,da_NoPlace,db_NoPlace,dc_NoPlace,dd_NoPlace,de_NoPlace,df_NoPlace,dg_NoPlace,dh_NoPlace,_⟩:=eb_NoPlace
 obtain⟨nmE_TooMany,qE_TooMany,fileE_TooMany,NE_TooMany,fE_TooMany,ccE_TooMany,ceE_TooMany,bsE_TooMany,bmE_TooMany,subE_TooMany,snE_TooMany,abE_TooMany,colE_TooMany,ddE_TooMany,odE_TooMany,cldE_TooMany,cddE_TooMany,k0E_TooMany,k1E_TooMany,k2E_TooMany,k3E_TooMany,k5E_TooMany,ocE_TooMany,dcE_TooMany,pmE_TooMany,ctE_TooMany,clE_TooMany,cclE_TooMany,slE_TooMany,cslE_TooMany,ccsE_TooMany,vsE_TooMany,tfE_TooMany,e1_TooMany,e2_TooMany,e3_TooMany,e4_TooMany,e5_TooMany,e6_TooMany,e7_TooMany,e8_TooMany,e9_TooMany,d1_TooMany,d2_TooMany,d3_TooMany,d4_TooMany,d5_TooMany,d6_TooMany,d7_TooMany,d8_TooMany,d9_TooMany,da_TooMany,db_TooMany,dc_TooMany,dd_TooMany,de_TooMany,df_TooMany,dg_TooMany,dh_TooMany,_⟩:=eb_TooMany
 obtain⟨nmE_NoFunction,qE_NoFunction,fileE_NoFunction,NE_NoFunction,fE_NoFunction,ccE_NoFunction,ceE_NoFunction,bsE_NoFunction,bmE_NoFunction,subE_NoFunction,snE_NoFunction,abE_NoFunction,colE_NoFunction,ddE_NoFunction,odE_NoFunction,cldE_NoFunction,cddE_NoFunction,k0E_NoFunction,k1E_NoFunction,k2E_NoFunction,k3E_NoFunction,k5E_NoFunction,ocE_NoFunction,dcE_NoFunction,pmE_NoFunction,ctE_NoFunction,clE_NoFunction,cclE_NoFunction,slE_NoFunction,cslE_NoFunction,ccsE_NoFunction,vsE_NoFunction,tfE_NoFunction,e1_NoFunction,e2_NoFunction,e3_NoFunction,e4_NoFunction,e5_NoFunction,e6_NoFunction,e7_NoFunction,e8_NoFunction,e9_NoFunction,d1_NoFunction,d2_NoFunction,d3_NoFunction,d4_NoFunction,d5_NoFunction,d6_NoFunction,d7_NoFunction,d8_NoFunction,d9_NoFunction,da_NoFunction,db_NoFunction,dc_NoFunction,dd_NoFunction,de_NoFunction,df_NoFunction,dg_NoFunction,dh_NoFunction,_⟩:=eb_NoFunction
 obtain⟨nmE_Full,qE_Full,fileE_Full,NE_Full,fE_Full,ccE_Full,ceE_Full,bsE_Full,bmE_Full,subE_Full,snE_Full,abE_Full,colE_Full,ddE_Full,odE_Full,cldE_Full,cddE_Full,k0E_Full,k1E_Full,k2E_Full,k3E_Full,k5E_Full,ocE_Full,dcE_Full,pmE_Full,ctE_Full,clE_Full,cclE_Full,slE_Full,cslE_Full,ccsE_Full,vsE_Full,tfE_Full,e1_Full,e2_Full,e3_Full,e4_Full,e5_Full,e6_Full,e7_Full,e8_Full,e9_Full,d1_Full,d2_Full,d3_Full,d4_Full,d5_Full,d6_Full,d7_Full,d8_Full,d9_Full,da_Full,db_Full,dc_Full,dd_Full,de_Full,df_Full,dg_Full,dh_Full,_⟩:=eb_Full
 obtain⟨nmE_Refused,qE_Refused,fileE_Refused,NE_Refused,fE_Refused,ccE_Refused,ceE_Refused,bsE_Refused,bmE_Refused,subE_Refused,snE_Refused,abE_Refused,colE_Refused,ddE_Refused,odE_Refused,cldE_Refused,cddE_Refused,k0E_Refused,k1E_Refused,k2E_Refused,k3E_Refused,k5E_Refused,ocE_Refused,dcE_Refused,pmE_Refused,ctE_Refused,clE_Refused,cclE_Refused,slE_Refused,cslE_Refused,ccsE_Refused,vsE_Refused,tfE_Refused,e1_Refused,e2_Refused,e3_Refused,e4_Refused,e5_Refused,e6_Refused,e7_Refused,e8_Refused,e9_Refused,d1_Refused,d2_Refused,d3_Refused,d4_Refused,d5_Refused,d6_Refused,d7_Refused,d8_Refused,d9_Refused,da_Refused,db_Refused,dc_Refused,dd_Refused,de_Refused,df_Refused,dg_Refused,dh_Refused,_⟩:=eb_Refused
 obtain⟨nmE_NoEntry,qE_NoEntry,fileE_NoEntry,NE_NoEntry,fE_NoEntry,ccE_NoEntry,ceE_NoEntry,bsE_NoEntry,bmE_NoEntry,subE_NoEntry,snE_NoEntry,abE_NoEntry,colE_NoEntry,ddE_NoEntry,odE_NoEntry,cldE_NoEntry,cddE_NoEntry,k0E_NoEntry,k1E_NoEntry,k2E_NoEntry,k3E_NoEntry,k5E_NoEntry,ocE_NoEntry,dcE_NoEntry,pmE_NoEntry,ctE_NoEntry,clE_NoEntry,cclE_NoEntry,slE_NoEntry,cslE_NoEntry,ccsE_NoEntry,vsE_NoEntry,tfE_NoEntry,e1_NoEntry,e2_NoEntry,e3_NoEntry,e4_NoEntry,e5_NoEntry,e6_NoEntry,e7_NoEntry,e8_NoEntry,e9_NoEntry,d1_NoEntry,d2_NoEntry,d3_NoEntry,d4_NoEntry,d5_NoEntry,d6_NoEntry,d7_NoEntry,d8_NoEntry,d9_NoEntry,da_NoEntry,db_NoEntry,dc_NoEntry,dd_NoEntry,de_NoEntry,df_NoEntry,dg_NoEntry,dh_NoEntry,_⟩:=eb_NoEntry
 obtain⟨nmE_Endless,qE_Endless,fileE_Endless,NE_Endless,fE_Endless,ccE_Endless,ceE_Endless,bsE_Endless,bmE_Endless,subE_Endless,snE_Endless,abE_Endless,colE_Endless,ddE_Endless,odE_Endless,cldE_Endless,cddE_Endless,k0E_Endless,k1E_Endless,k2E_Endless,k3E_Endless,k5E_Endless,ocE_Endless,dcE_Endless,pmE_Endless,ctE_Endless,clE_Endless,cclE_Endless,slE_Endless,cslE_Endless,ccsE_Endless,vsE_Endless,tfE_Endless,e1_Endless,e2_Endless,e3_Endless,e4_Endless,e5_Endless,e6_Endless,e7_Endless,e8_Endless,e9_Endless,d1_Endless,d2_Endless,d3_Endless,d4_Endless,d5_Endless,d6_Endless,d7_Endless,d8_Endless,d9_Endless,da_Endless,db_Endless,dc_Endless,dd_Endless,de_Endless,df_Endless,dg_Endless,dh_Endless,_⟩:=eb_Endless
 obtain⟨nmE_BadStatement,qE_BadStatement,fileE_BadStatement,NE_BadStatement,fE_BadStatement,ccE_BadStatement,ceE_BadStatement,bsE_BadStatement,bmE_BadStatement,subE_BadStatement,snE_BadStatement,abE_BadStatement,colE_BadStatement,ddE_BadStatement,odE_BadStatement,cldE_BadStatement,cddE_BadStatement,k0E_BadStatement,k1E_BadStatement,k2E_BadStatement,k3E_BadStatement,k5E_BadStatement,ocE_BadStatement,dcE_BadStatement,pmE_BadStatement,ctE_BadStatement,clE_BadStatement,cclE_BadStatement,slE_BadStatement,cslE_BadStatement,ccsE_BadStatement,vsE_BadStatement,tfE_BadStatement,e1_BadStatement,e2_BadStatement,e3_BadStatement,e4_BadStatement,e5_BadStatement,e6_BadStatement,e7_BadStatement,e8_BadStatement,e9_BadStatement,d1_BadStatement,d2_BadStatement,d3_BadStatement,d4_BadStatement,d5_BadStatement,d6_BadStatement,d7_BadStatement,d8_BadStatement,d9_BadStatement,da_BadStatement,db_BadStatement,dc_BadStatement,dd_BadStatement,de_BadStatement,df_BadStatement,dg_BadStatement,dh_BadStatement,_⟩:=eb_BadStatement
 obtain⟨n0_Nothing,e4_Nothing,e5_Nothing,e6_Nothing,db_Nothing,dc_Nothing,dd_Nothing,de_Nothing,df_Nothing,dg_Nothing,dh_Nothing,_⟩:=eb_Nothing
 obtain⟨n0_Unlike,e4_Unlike,e5_Unlike,e6_Unlike,db_Unlike,dc_Unlike,dd_Unlike,de_Unlike,df_Unlike,dg_Unlike,dh_Unlike,_⟩:=eb_Unlike
 obtain⟨n0_NoDeed,e4_NoDeed,e5_NoDeed,e6_NoDeed,db_NoDeed,dc_NoDeed,dd_NoDeed,de_NoDeed,df_NoDeed,dg_NoDeed,dh_NoDeed,_⟩:=eb_NoDeed
 obtain⟨n0_NoText,e4_NoText,e5_NoText,e6_NoText,db_NoText,dc_NoText,dd_NoText,de_NoText,df_NoText,dg_NoText,dh_NoText,_⟩:=eb_NoText
 obtain⟨n0_NoCommand,e4_NoCommand,e5_NoCommand,e6_NoCommand,db_NoCommand,dc_NoCommand,dd_NoCommand,de_NoCommand,df_NoCommand,dg_NoCommand,dh_NoCommand,_⟩:=eb_NoCommand
 obtain⟨n0_TailError,e4_TailError,e5_TailError,e6_TailError,db_TailError,dc_TailError,dd_TailError,de_TailError,df_TailError,dg_TailError,dh_TailError,_⟩:=eb_TailError
 have xn_Wrong_place:PySem.W.findIn K (.ref (at_ "Wrong")) "place" = some none:=Fm.Gr.mem (P:=fun C=>PySem.W.findIn K (.ref (at_ C)) "place" = some none) (l:=errs) xn_place _ (by decide)
 have xn_Unknown_name:PySem.W.findIn K (.ref (at_ "Unknown")) "name" = some none:=Fm.Gr.mem (P:=fun C=>PySem.W.findIn K (.ref (at_ C)) "name" = some none) (l:=errs) xn_name _ (by decide)
 have xn_NoCell_at:PySem.W.findIn K (.ref (at_ "NoCell")) "at" = some none:=Fm.Gr.mem (P:=fun C=>PySem.W.findIn K (.ref (at_ C)) "at" = some none) (l:=errs) xn_at _ (by decide)
 have xn_BadRoom_size:PySem.W.findIn K (.ref (at_ "BadRoom")) "size" = some none:=Fm.Gr.mem (P:=fun C=>PySem.W.findIn K (.ref (at_ C)) "size" = some none) (l:=errs) xn_size _ (by decide)
 have xn_Unfit_at:PySem.W.findIn K (.ref (at_ "Unfit")) "at" = some none:=Fm.Gr.mem (P:=fun C=>PySem.W.findIn K (.ref (at_ C)) "at" = some none) (l:=errs) xn_at _ (by decide)
 have xn_NoArray_index:PySem.W.findIn K (.ref (at_ "NoArray")) "index" = some none:=Fm.Gr.mem (P:=fun C=>PySem.W.findIn K (.ref (at_ C)) "index" = some none) (l:=errs) xn_index _ (by decide)
 have xn_Broken_at:PySem.W.findIn K (.ref (at_ "Broken")) "at" = some none:=Fm.Gr.mem (P:=fun C=>PySem.W.findIn K (.ref (at_ C)) "at" = some none) (l:=errs) xn_at _ (by decide)
 have xn_NoPlace_place:PySem.W.findIn K (.ref (at_ "NoPlace")) "place" = some none:=Fm.Gr.mem (P:=fun C=>PySem.W.findIn K (.ref (at_ C)) "place" = some none) (l:=errs) xn_place _ (by decide)
 have xn_TooMany_limit:PySem.W.findIn K (.ref (at_ "TooMany")) "limit" = some none:=Fm.Gr.mem (P:=fun C=>PySem.W.findIn K (.ref (at_ C)) "limit" = some none) (l:=errs) xn_limit _ (by decide)
 have xn_NoFunction_name:PySem.W.findIn K (.ref (at_ "NoFunction")) "name" = some none:=Fm.Gr.mem (P:=fun C=>PySem.W.findIn K (.ref (at_ C)) "name" = some none) (l:=errs) xn_name _ (by decide)
 have xn_Full_limit:PySem.W.findIn K (.ref (at_ "Full")) "limit" = some none:=Fm.Gr.mem (P:=fun C=>PySem.W.findIn K (.ref (at_ C)) "limit" = some none) (l:=errs) xn_limit _ (by decide)
 have xn_Refused_deed:PySem.W.findIn K (.ref (at_ "Refused")) "deed" = some none:=Fm.Gr.mem (P:=fun C=>PySem.W.findIn K (.ref (at_ C)) "deed" = some none) (l:=errs) xn_deed _ (by decide)
 have xn_NoEntry_many:PySem.W.findIn K (.ref (at_ "NoEntry")) "many" = some none:=Fm.Gr.mem (P:=fun C=>PySem.W.findIn K (.ref (at_ C)) "many" = some none) (l:=errs) xn_many _ (by decide)
 have xn_Endless_function:PySem.W.findIn K (.ref (at_ "Endless")) "function" = some none:=Fm.Gr.mem (P:=fun C=>PySem.W.findIn K (.ref (at_ C)) "function" = some none) (l:=errs) xn_function _ (by decide)
 have xn_BadStatement_function:PySem.W.findIn K (.ref (at_ "BadStatement")) "function" = some none:=Fm.Gr.mem (P:=fun C=>PySem.W.findIn K (.ref (at_ C)) "function" = some none) (l:=errs) xn_function _ (by decide)
 have xn_BadStatement_address:PySem.W.findIn K (.ref (at_ "BadStatement")) "address" = some none:=Fm.Gr.mem (P:=fun C=>PySem.W.findIn K (.ref (at_ C)) "address" = some none) (l:=errs) xn_address _ (by decide)
 obtain⟨a1,_,F1,k1⟩:=Fq.go g1
 have b1:=F1.binds (ps:=[Str.ofString "thing"]) fun _ _ _ _ _ _ us hl=>match us,hl with | [_],_=>rfl
 obtain⟨a2,_,F2,k2⟩:=Fq.go g2
 have b2:=F2.binds (ps:=[Str.ofString "many", Str.ofString "thing"]) fun _ _ _ _ _ _ us hl=>match us,hl with | [_,_],_=>rfl
 obtain⟨a3,_,F3,k3⟩:=Fq.go g3
 have b3:=F3.binds (ps:=[Str.ofString "thing"]) fun _ _ _ _ _ _ us hl=>match us,hl with | [_],_=>rfl
 obtain⟨a4,_,F4,k4⟩:=Fq.go g4
 have b4:=F4.binds (ps:=[Str.ofString "thing"]) fun _ _ _ _ _ _ us hl=>match us,hl with | [_],_=>rfl
 obtain⟨a5,_,F5,k5⟩:=Fq.go g5
 have b5:=F5.binds (ps:=[Str.ofString "_law_script"]) fun _ _ _ _ _ _ us hl=>match us,hl with | [_],_=>rfl
 obtain⟨a6,_,F6,k6⟩:=Fq.go g6
 have b6:=F6.binds (ps:=[Str.ofString "_law_bag_here", Str.ofString "_law_many"]) fun _ _ _ _ _ _ us hl=>match us,hl with | [_,_],_=>rfl
 obtain⟨a7,_,F7,k7⟩:=Fq.go g7
 have b7:=F7.binds (ps:=[Str.ofString "_law_found", Str.ofString "_law_due"]) fun _ _ _ _ _ _ us hl=>match us,hl with | [_,_],_=>rfl
 obtain⟨a8,_,F8,k8⟩:=Fq.go g8
 have b8:=F8.binds (ps:=[Str.ofString "_law_bag_here"]) fun _ _ _ _ _ _ us hl=>match us,hl with | [_],_=>rfl
 obtain⟨a9,_,F9,k9⟩:=Fq.go g9
 have b9:=F9.binds (ps:=[Str.ofString "_law_thing_here"]) fun _ _ _ _ _ _ us hl=>match us,hl with | [_],_=>rfl
 obtain⟨a10,_,F10,k10⟩:=Fq.go g10
 have b10:=F10.binds (ps:=Y16) fun _ _ _ _ _ _ us hl=>match us,hl with | [_,_],_=>rfl
 obtain⟨a11,_,F11,k11⟩:=Fq.go g11
 have b11:=F11.binds (ps:=[Str.ofString "_law_e"]) fun _ _ _ _ _ _ us hl=>match us,hl with | [_],_=>rfl
 obtain⟨a12,_,F12,k12⟩:=Fq.go g12
 have b12:=F12.binds (ps:=Y16) fun _ _ _ _ _ _ us hl=>match us,hl with | [_,_],_=>rfl
 obtain⟨a13,_,F13,k13⟩:=Fq.go g13
 have b13:=F13.binds (ps:=[Str.ofString "_law_bag_here"]) fun _ _ _ _ _ _ us hl=>match us,hl with | [_],_=>rfl
 have F14:=fun_mk (st:=Br 40) l14 c14 k14
 have b14:=F14.binds (ps:=[Str.ofString "_law_script"]) fun _ _ _ _ _ _ us hl=>match us,hl with | [_],_=>rfl
 have xcc_Wrong:ExcC K (at_ "Wrong"):=⟨db_Wrong,dc_Wrong,e4_Wrong,dd_Wrong,de_Wrong,df_Wrong,dg_Wrong,dh_Wrong⟩
 have xff_Wrong:XfC K (at_ "Wrong"):=⟨db_Wrong,dc_Wrong,e4_Wrong,dd_Wrong⟩
 have xcc_Unknown:ExcC K (at_ "Unknown"):=⟨db_Unknown,dc_Unknown,e4_Unknown,dd_Unknown,de_Unknown,df_Unknown,dg_Unknown,dh_Unknown⟩
 have xff_Unknown:XfC K (at_ "Unknown"):=⟨db_Unknown,dc_Unknown,e4_Unknown,dd_Unknown⟩
 have xcc_NoCell:ExcC K (at_ "NoCell"):=⟨db_NoCell,dc_NoCell,e4_NoCell,dd_NoCell,de_NoCell,df_NoCell,dg_NoCell,dh_NoCell⟩
 have xff_NoCell:XfC K (at_ "NoCell"):=⟨db_NoCell,dc_NoCell,e4_NoCell,dd_NoCell⟩
 have xcc_BadRoom:ExcC K (at_ "BadRoom"):=⟨db_BadRoom,dc_BadRoom,e4_BadRoom,dd_BadRoom,de_BadRoom,df_BadRoom,dg_BadRoom,dh_BadRoom⟩
 have xff_BadRoom:XfC K (at_ "BadRoom"):=⟨db_BadRoom,dc_BadRoom,e4_BadRoom,dd_BadRoom⟩
 have xcc_Unfit:ExcC K (at_ "Unfit"):=⟨db_Unfit,dc_Unfit,e4_Unfit,dd_Unfit,de_Unfit,df_Unfit,dg_Unfit,dh_Unfit⟩
 have xff_Unfit:XfC K (at_ "Unfit"):=⟨db_Unfit,dc_Unfit,e4_Unfit,dd_Unfit⟩
 have xcc_NoArray:ExcC K (at_ "NoArray"):=⟨db_NoArray,dc_NoArray,e4_NoArray,dd_NoArray,de_NoArray,df_NoArray,dg_NoArray,dh_NoArray⟩
 have xff_NoArray:XfC K (at_ "NoArray"):=⟨db_NoArray,dc_NoArray,e4_NoArray,dd_NoArray⟩
 have xcc_Broken:ExcC K (at_ "Broken"):=⟨db_Broken,dc_Broken,e4_Broken,dd_Broken,de_Broken,df_Broken,dg_Broken,dh_Broken⟩
 have xff_Broken:XfC K (at_ "Broken"):=⟨db_Broken,dc_Broken,e4_Broken,dd_Broken⟩
 have xcc_NoPlace:ExcC K (at_ "NoPlace"):=⟨db_NoPlace,dc_NoPlace,e4_NoPlace,dd_NoPlace,de_NoPlace,df_NoPlace,dg_NoPlace,dh_NoPlace⟩
 have xff_NoPlace:XfC K (at_ "NoPlace"):=⟨db_NoPlace,dc_NoPlace,e4_NoPlace,dd_NoPlace⟩
 have xcc_TooMany:ExcC K (at_ "TooMany"):=⟨db_TooMany,dc_TooMany,e4_TooMany,dd_TooMany,de_TooMany,df_TooMany,dg_TooMany,dh_TooMany⟩
 have xff_TooMany:XfC K (at_ "TooMany"):=⟨db_TooMany,dc_TooMany,e4_TooMany,dd_TooMany⟩
 have xcc_NoFunction:ExcC K (at_ "NoFunction"):=⟨db_NoFunction,dc_NoFunction,e4_NoFunction,dd_NoFunction,de_NoFunction,df_NoFunction,dg_NoFunction,dh_NoFunction⟩
 have xff_NoFunction:XfC K (at_ "NoFunction"):=⟨db_NoFunction,dc_NoFunction,e4_NoFunction,dd_NoFunction⟩
 have xcc_Full:ExcC K (at_ "Full"):=⟨db_Full,dc_Full,e4_Full,dd_Full,de_Full,df_Full,dg_Full,dh_Full⟩
 have xff_Full:XfC K (at_ "Full"):=⟨db_Full,dc_Full,e4_Full,dd_Full⟩
 have xcc_Refused:ExcC K (at_ "Refused"):=⟨db_Refused,dc_Refused,e4_Refused,dd_Refused,de_Refused,df_Refused,dg_Refused,dh_Refused⟩
 have xff_Refused:XfC K (at_ "Refused"):=⟨db_Refused,dc_Refused,e4_Refused,dd_Refused⟩
 have xcc_NoEntry:ExcC K (at_ "NoEntry"):=⟨db_NoEntry,dc_NoEntry,e4_NoEntry,dd_NoEntry,de_NoEntry,df_NoEntry,dg_NoEntry,dh_NoEntry⟩
 have xff_NoEntry:XfC K (at_ "NoEntry"):=⟨db_NoEntry,dc_NoEntry,e4_NoEntry,dd_NoEntry⟩
 have xcc_Endless:ExcC K (at_ "Endless"):=⟨db_Endless,dc_Endless,e4_Endless,dd_Endless,de_Endless,df_Endless,dg_Endless,dh_Endless⟩
 have xff_Endless:XfC K (at_ "Endless"):=⟨db_Endless,dc_Endless,e4_Endless,dd_Endless⟩
 have xcc_BadStatement:ExcC K (at_ "BadStatement"):=⟨db_BadStatement,dc_BadStatement,e4_BadStatement,dd_BadStatement,de_BadStatement,df_BadStatement,dg_BadStatement,dh_BadStatement⟩
 have xff_BadStatement:XfC K (at_ "BadStatement"):=⟨db_BadStatement,dc_BadStatement,e4_BadStatement,dd_BadStatement⟩
 have xcc_Nothing:ExcC K (at_ "Nothing"):=⟨db_Nothing,dc_Nothing,e4_Nothing,dd_Nothing,de_Nothing,df_Nothing,dg_Nothing,dh_Nothing⟩
 have xff_Nothing:XfC K (at_ "Nothing"):=⟨db_Nothing,dc_Nothing,e4_Nothing,dd_Nothing⟩
 have xcc_Unlike:ExcC K (at_ "Unlike"):=⟨db_Unlike,dc_Unlike,e4_Unlike,dd_Unlike,de_Unlike,df_Unlike,dg_Unlike,dh_Unlike⟩
 have xff_Unlike:XfC K (at_ "Unlike"):=⟨db_Unlike,dc_Unlike,e4_Unlike,dd_Unlike⟩
 have xcc_NoDeed:ExcC K (at_ "NoDeed"):=⟨db_NoDeed,dc_NoDeed,e4_NoDeed,dd_NoDeed,de_NoDeed,df_NoDeed,dg_NoDeed,dh_NoDeed⟩
 have xff_NoDeed:XfC K (at_ "NoDeed"):=⟨db_NoDeed,dc_NoDeed,e4_NoDeed,dd_NoDeed⟩
 have xcc_NoText:ExcC K (at_ "NoText"):=⟨db_NoText,dc_NoText,e4_NoText,dd_NoText,de_NoText,df_NoText,dg_NoText,dh_NoText⟩
 have xff_NoText:XfC K (at_ "NoText"):=⟨db_NoText,dc_NoText,e4_NoText,dd_NoText⟩
 have xcc_NoCommand:ExcC K (at_ "NoCommand"):=⟨db_NoCommand,dc_NoCommand,e4_NoCommand,dd_NoCommand,de_NoCommand,df_NoCommand,dg_NoCommand,dh_NoCommand⟩
 have xff_NoCommand:XfC K (at_ "NoCommand"):=⟨db_NoCommand,dc_NoCommand,e4_NoCommand,dd_NoCommand⟩
 have xcc_TailError:ExcC K (at_ "TailError"):=⟨db_TailError,dc_TailError,e4_TailError,dd_TailError,de_TailError,df_TailError,dg_TailError,dh_TailError⟩
 have xff_TailError:XfC K (at_ "TailError"):=⟨db_TailError,dc_TailError,e4_TailError,dd_TailError⟩
 have R_Wrong:ErrRaw l.prog K (at_ "Wrong") fE_Wrong ccE_Wrong ceE_Wrong (Str.ofString "Wrong.__init__") (inClass (Br 10) 0):=⟨⟨_,_,_,_,_,_,_,_,_,_,_,_,_,_,_,e1_Wrong,e2_Wrong⟩,e3_Wrong,e4_Wrong,e5_Wrong,e6_Wrong,e7_Wrong,e8_Wrong,⟨_,_,_,_,_,_,e9_Wrong⟩,d1_Wrong,⟨_,_,_,d2_Wrong⟩,⟨_,_,_,_,_,_,d3_Wrong,d4_Wrong,d5_Wrong⟩,d6_Wrong,d7_Wrong,d8_Wrong,d9_Wrong,da_Wrong⟩
 have R_Unknown:ErrRaw l.prog K (at_ "Unknown") fE_Unknown ccE_Unknown ceE_Unknown (Str.ofString "Unknown.__init__") (inClass (Br 13) 0):=⟨⟨_,_,_,_,_,_,_,_,_,_,_,_,_,_,_,e1_Unknown,e2_Unknown⟩,e3_Unknown,e4_Unknown,e5_Unknown,e6_Unknown,e7_Unknown,e8_Unknown,⟨_,_,_,_,_,_,e9_Unknown⟩,d1_Unknown,⟨_,_,_,d2_Unknown⟩,⟨_,_,_,_,_,_,d3_Unknown,d4_Unknown,d5_Unknown⟩,d6_Unknown,d7_Unknown,d8_Unknown,d9_Unknown,da_Unknown⟩
 have R_NoCell:ErrRaw l.prog K (at_ "NoCell") fE_NoCell ccE_NoCell ceE_NoCell (Str.ofString "NoCell.__init__") (inClass (Br 14) 0):=⟨⟨_,_,_,_,_,_,_,_,_,_,_,_,_,_,_,e1_NoCell,e2_NoCell⟩,e3_NoCell,e4_NoCell,e5_NoCell,e6_NoCell,e7_NoCell,e8_NoCell,⟨_,_,_,_,_,_,e9_NoCell⟩,d1_NoCell,⟨_,_,_,d2_NoCell⟩,⟨_,_,_,_,_,_,d3_NoCell,d4_NoCell,d5_NoCell⟩,d6_NoCell,d7_NoCell,d8_NoCell,d9_NoCell,da_NoCell⟩
 have R_BadRoom:ErrRaw l.prog K (at_ "BadRoom") fE_BadRoom ccE_BadRoom ceE_BadRoom (Str.ofString "BadRoom.__init__") (inClass (Br 15) 0):=⟨⟨_,_,_,_,_,_,_,_,_,_,_,_,_,_,_,e1_BadRoom,e2_BadRoom⟩,e3_BadRoom,e4_BadRoom,e5_BadRoom,e6_BadRoom,e7_BadRoom,e8_BadRoom,⟨_,_,_,_,_,_,e9_BadRoom⟩,d1_BadRoom,⟨_,_,_,d2_BadRoom⟩,⟨_,_,_,_,_,_,d3_BadRoom,d4_BadRoom,d5_BadRoom⟩,d6_BadRoom,d7_BadRoom,d8_BadRoom,d9_BadRoom,da_BadRoom⟩
 have R_Unfit:ErrRaw l.prog K (at_ "Unfit") fE_Unfit ccE_Unfit ceE_Unfit (Str.ofString "Unfit.__init__") (inClass (Br 17) 0):=⟨⟨_,_,_,_,_,_,_,_,_,_,_,_,_,_,_,e1_Unfit,e2_Unfit⟩,e3_Unfit,e4_Unfit,e5_Unfit,e6_Unfit,e7_Unfit,e8_Unfit,⟨_,_,_,_,_,_,e9_Unfit⟩,d1_Unfit,⟨_,_,_,d2_Unfit⟩,⟨_,_,_,_,_,_,d3_Unfit,d4_Unfit,d5_Unfit⟩,d6_Unfit,d7_Unfit,d8_Unfit,d9_Unfit,da_Unfit⟩
 have R_NoArray:ErrRaw l.prog K (at_ "NoArray") fE_NoArray ccE_NoArray ceE_NoArray (Str.ofString "NoArray.__init__") (inClass (Br 18) 0):=⟨⟨_,_,_,_,_,_,_,_,_,_,_,_,_,_,_,e1_NoArray,e2_NoArray⟩,e3_NoArray,e4_NoArray,e5_NoArray,e6_NoArray,e7_NoArray,e8_NoArray,⟨_,_,_,_,_,_,e9_NoArray⟩,d1_NoArray,⟨_,_,_,d2_NoArray⟩,⟨_,_,_,_,_,_,d3_NoArray,d4_NoArray,d5_NoArray⟩,d6_NoArray,d7_NoArray,d8_NoArray,d9_NoArray,da_NoArray⟩
 have R_Broken:ErrRaw l.prog K (at_ "Broken") fE_Broken ccE_Broken ceE_Broken (Str.ofString "Broken.__init__") (inClass (Br 19) 0):=⟨⟨_,_,_,_,_,_,_,_,_,_,_,_,_,_,_,e1_Broken,e2_Broken⟩,e3_Broken,e4_Broken,e5_Broken,e6_Broken,e7_Broken,e8_Broken,⟨_,_,_,_,_,_,e9_Broken⟩,d1_Broken,⟨_,_,_,d2_Broken⟩,⟨_,_,_,_,_,_,d3_Broken,d4_Broken,d5_Broken⟩,d6_Broken,d7_Broken,d8_Broken,d9_Broken,da_Broken⟩
 have R_NoPlace:ErrRaw l.prog K (at_ "NoPlace") fE_NoPlace ccE_NoPlace ceE_NoPlace (Str.ofString "NoPlace.__init__") (inClass (Br 20) 0):=⟨⟨_,_,_,_,_,_,_,_,_,_,_,_,_,_,_,e1_NoPlace,e2_NoPlace⟩,e3_NoPlace,e4_NoPlace,e5_NoPlace,e6_NoPlace,e7_NoPlace,e8_NoPlace,⟨_,_,_,_,_,_,e9_NoPlace⟩,d1_NoPlace,⟨_,_,_,d2_NoPlace⟩,⟨_,_,_,_,_,_,d3_NoPlace,d4_NoPlace,d5_NoPlace⟩,d6_NoPlace,d7_NoPlace,d8_NoPlace,d9_NoPlace,da_NoPlace⟩
 have R_TooMany:ErrRaw l.prog K (at_ "TooMany") fE_TooMany ccE_TooMany ceE_TooMany (Str.ofString "TooMany.__init__") (inClass (Br 21) 0):=⟨⟨_,_,_,_,_,_,_,_,_,_,_,_,_,_,_,e1_TooMany,e2_TooMany⟩,e3_TooMany,e4_TooMany,e5_TooMany,e6_TooMany,e7_TooMany,e8_TooMany,⟨_,_,_,_,_,_,e9_TooMany⟩,d1_TooMany,⟨_,_,_,d2_TooMany⟩,⟨_,_,_,_,_,_,d3_TooMany,d4_TooMany,d5_TooMany⟩,d6_TooMany,d7_TooMany,d8_TooMany,d9_TooMany,da_TooMany⟩
 have R_NoFunction:ErrRaw l.prog K (at_ "NoFunction") fE_NoFunction ccE_NoFunction ceE_NoFunction (Str.ofString "NoFunction.__init__") (inClass (Br 22) 0):=⟨⟨_,_,_,_,_,_,_,_,_,_,_,_,_,_,_,e1_NoFunction,e2_NoFunction⟩,e3_NoFunction,e4_NoFunction,e5_NoFunction,e6_NoFunction,e7_NoFunction,e8_NoFunction,⟨_,_,_,_,_,_,e9_NoFunction⟩,d1_NoFunction,⟨_,_,_,d2_NoFunction⟩,⟨_,_,_,_,_,_,d3_NoFunction,d4_NoFunction,d5_NoFunction⟩,d6_NoFunction,d7_NoFunction,d8_NoFunction,d9_NoFunction,da_NoFunction⟩
 have R_Full:ErrRaw l.prog K (at_ "Full") fE_Full ccE_Full ceE_Full (Str.ofString "Full.__init__") (inClass (Br 24) 0):=⟨⟨_,_,_,_,_,_,_,_,_,_,_,_,_,_,_,e1_Full,e2_Full⟩,e3_Full,e4_Full,e5_Full,e6_Full,e7_Full,e8_Full,⟨_,_,_,_,_,_,e9_Full⟩,d1_Full,⟨_,_,_,d2_Full⟩,⟨_,_,_,_,_,_,d3_Full,d4_Full,d5_Full⟩,d6_Full,d7_Full,d8_Full,d9_Full,da_Full⟩
 have R_Refused:ErrRaw l.prog K (at_ "Refused") fE_Refused ccE_Refused ceE_Refused (Str.ofString "Refused.__init__") (inClass (Br 26) 0):=⟨⟨_,_,_,_,_,_,_,_,_,_,_,_,_,_,_,e1_Refused,e2_Refused⟩,e3_Refused,e4_Refused,e5_Refused,e6_Refused,e7_Refused,e8_Refused,⟨_,_,_,_,_,_,e9_Refused⟩,d1_Refused,⟨_,_,_,d2_Refused⟩,⟨_,_,_,_,_,_,d3_Refused,d4_Refused,d5_Refused⟩,d6_Refused,d7_Refused,d8_Refused,d9_Refused,da_Refused⟩
 have R_NoEntry:ErrRaw l.prog K (at_ "NoEntry") fE_NoEntry ccE_NoEntry ceE_NoEntry (Str.ofString "NoEntry.__init__") (inClass (Br 27) 0):=⟨⟨_,_,_,_,_,_,_,_,_,_,_,_,_,_,_,e1_NoEntry,e2_NoEntry⟩,e3_NoEntry,e4_NoEntry,e5_NoEntry,e6_NoEntry,e7_NoEntry,e8_NoEntry,⟨_,_,_,_,_,_,e9_NoEntry⟩,d1_NoEntry,⟨_,_,_,d2_NoEntry⟩,⟨_,_,_,_,_,_,d3_NoEntry,d4_NoEntry,d5_NoEntry⟩,d6_NoEntry,d7_NoEntry,d8_NoEntry,d9_NoEntry,da_NoEntry⟩
 have R_Endless:ErrRaw l.prog K (at_ "Endless") fE_Endless ccE_Endless ceE_Endless (Str.ofString "Endless.__init__") (inClass (Br 12) 0):=⟨⟨_,_,_,_,_,_,_,_,_,_,_,_,_,_,_,e1_Endless,e2_Endless⟩,e3_Endless,e4_Endless,e5_Endless,e6_Endless,e7_Endless,e8_Endless,⟨_,_,_,_,_,_,e9_Endless⟩,d1_Endless,⟨_,_,_,d2_Endless⟩,⟨_,_,_,_,_,_,d3_Endless,d4_Endless,d5_Endless⟩,d6_Endless,d7_Endless,d8_Endless,d9_Endless,da_Endless⟩
 have R_BadStatement:ErrRaw l.prog K (at_ "BadStatement") fE_BadStatement ccE_BadStatement ceE_BadStatement (Str.ofString "BadStatement.__init__") (inClass (Br 11) 0):=⟨⟨_,_,_,_,_,_,_,_,_,_,_,_,_,_,_,e1_BadStatement,e2_BadStatement⟩,e3_BadStatement,e4_BadStatement,e5_BadStatement,e6_BadStatement,e7_BadStatement,e8_BadStatement,⟨_,_,_,_,_,_,e9_BadStatement⟩,d1_BadStatement,⟨_,_,_,d2_BadStatement⟩,⟨_,_,_,_,_,_,d3_BadStatement,d4_BadStatement,d5_BadStatement⟩,d6_BadStatement,d7_BadStatement,d8_BadStatement,d9_BadStatement,da_BadStatement⟩
 have T:Txt (g_ at_ K w) mg:=⟨PySem.W.mg_none_of X N z_ValueError,PySem.W.mg_none_of X N z_abs,PySem.W.mg_none_of X N z_all,PySem.W.mg_none_of X N z_bool,PySem.W.mg_none_of X N z_int,PySem.W.mg_none_of X N z_isinstance,PySem.W.mg_none_of X N z_len,PySem.W.mg_none_of X N z_list,PySem.W.mg_none_of X N z_range,PySem.W.mg_none_of X N z_repr,PySem.W.mg_none_of X N z_str,PySem.W.mg_of X N a_BadRoom,PySem.W.mg_of X N a_BadStatement,PySem.W.mg_of X N a_Broken,PySem.W.mg_of X N a_Endless,PySem.W.mg_of X N a_Full,PySem.W.mg_of X N a_NoArray,PySem.W.mg_of X N a_NoCell,PySem.W.mg_of X N a_NoCommand,PySem.W.mg_of X N a_NoDeed,PySem.W.mg_of X N a_NoEntry,PySem.W.mg_of X N a_NoFunction,PySem.W.mg_of X N a_NoPlace,PySem.W.mg_of X N a_NoText,PySem.W.mg_of X N a_Nothing,PySem.W.mg_of X N a_Refused,PySem.W.mg_of X N a_TailError,PySem.W.mg_of X N a_TooMany,PySem.W.mg_of X N a_Unfit,PySem.W.mg_of X N a_Unknown,PySem.W.mg_of X N a_Unlike,PySem.W.mg_of X N a_Wrong,⟨_,PySem.W.mg_of X N qn_GROWINGS,_,_,_,ql_GROWINGS,rfl,rfl,(show 2≤sizeLine by decide),Tf (Tf (Zy))⟩,⟨_,PySem.W.mg_of X N qn_LETTERS⟩,⟨_,PySem.W.mg_of X N qn_MOST_LETTERS⟩,(Fm.Gr.mem (P:=fun C=>ExcC K (at_ C)) (l:=errs) (Fm.Cj.i xcc_Wrong (Fm.Cj.i xcc_Unknown (Fm.Cj.i xcc_NoCell (Fm.Cj.i xcc_BadRoom (Fm.Cj.i xcc_Unfit (Fm.Cj.i xcc_NoArray (Fm.Cj.i xcc_Broken (Fm.Cj.i xcc_NoPlace (Fm.Cj.i xcc_TooMany (Fm.Cj.i xcc_NoFunction (Fm.Cj.i xcc_Full (Fm.Cj.i xcc_Refused (Fm.Cj.i xcc_NoEntry (Fm.Cj.i xcc_Endless (Fm.Cj.i xcc_BadStatement (Fm.Cj.i xcc_Nothing (Fm.Cj.i xcc_Unlike (Fm.Cj.i xcc_NoDeed (Fm.Cj.i xcc_NoText (Fm.Cj.i xcc_NoCommand (Fm.Cj.i xcc_TailError trivial)))))))))))))))))))))),(Fm.Gr.mem (P:=fun C=>XfC K (at_ C)) (l:=errs) (Fm.Cj.i xff_Wrong (Fm.Cj.i xff_Unknown (Fm.Cj.i xff_NoCell (Fm.Cj.i xff_BadRoom (Fm.Cj.i xff_Unfit (Fm.Cj.i xff_NoArray (Fm.Cj.i xff_Broken (Fm.Cj.i xff_NoPlace (Fm.Cj.i xff_TooMany (Fm.Cj.i xff_NoFunction (Fm.Cj.i xff_Full (Fm.Cj.i xff_Refused (Fm.Cj.i xff_NoEntry (Fm.Cj.i xff_Endless (Fm.Cj.i xff_BadStatement (Fm.Cj.i xff_Nothing (Fm.Cj.i xff_Unlike (Fm.Cj.i xff_NoDeed (Fm.Cj.i xff_NoText (Fm.Cj.i xff_NoCommand (Fm.Cj.i xff_TailError trivial)))))))))))))))))))))),(Fm.AcH (G:=(g_ at_ K w)) (tS:=AeC) (tT:=AeB) xkS xkT),(Fm.Gr.mem (P:=fun C=>PySem.W.findIn K (.ref (at_ C)) "address" = some none) (l:=errs) xn_address),(Fm.Gr.mem (P:=fun C=>PySem.W.findIn K (.ref (at_ C)) "at" = some none) (l:=errs) xn_at),(Fm.Gr.mem (P:=fun C=>PySem.W.findIn K (.ref (at_ C)) "deed" = some none) (l:=errs) xn_deed),(Fm.Gr.mem (P:=fun C=>PySem.W.findIn K (.ref (at_ C)) "function" = some none) (l:=errs) xn_function),(Fm.Gr.mem (P:=fun C=>PySem.W.findIn K (.ref (at_ C)) "index" = some none) (l:=errs) xn_index),(Fm.Gr.mem (P:=fun C=>PySem.W.findIn K (.ref (at_ C)) "limit" = some none) (l:=errs) xn_limit),(Fm.Gr.mem (P:=fun C=>PySem.W.findIn K (.ref (at_ C)) "many" = some none) (l:=errs) xn_many),(Fm.Gr.mem (P:=fun C=>PySem.W.findIn K (.ref (at_ C)) "name" = some none) (l:=errs) xn_name),(Fm.Gr.mem (P:=fun C=>PySem.W.findIn K (.ref (at_ C)) "place" = some none) (l:=errs) xn_place),(Fm.Gr.mem (P:=fun C=>PySem.W.findIn K (.ref (at_ C)) "size" = some none) (l:=errs) xn_size)⟩
 refine⟨PySem.W.fnOf "law" "law" (defArgs (Br 40)) (defBody (Br 40)) (defScope (Br 40)) .none kV14 dc14 pm14 an14 cd14 ct14,fun s v=>.of_eq rfl,fun base _ _=>?_⟩
 have F_is_integer:FnM (g_ at_ K w) l.prog w mg base CX0 1 "is_integer" Ea:=⟨⟨_,_,Q9 F1 T,PySem.W.mg_of X N a1,k1,b1⟩⟩
 have F_w_take:FnM (g_ at_ K w) l.prog w mg base CX0 1 "_law_take" Cd:=⟨⟨_,_,Aaz F6 T,PySem.W.mg_of X N a6,k6,b6⟩⟩
 have E_TooMany:ErrK (g_ at_ K w) l.prog w mg base 1 "TooMany" ["limit"]:=Jz (k:=0) (x := "limit") (fld := "limit") R_TooMany (PySem.W.mg_of X N a_TooMany) (PySem.W.mg_none_of X N z_super) xn_TooMany_limit rfl rfl (NdefX.nscope_by (by decide +kernel)) rfl rfl rfl (fun _=>⟨_,rfl⟩) (fun _ _ _ us h=>match us,h with | [_,_],_=>rfl)
 have E_NoPlace:ErrK (g_ at_ K w) l.prog w mg base 1 "NoPlace" ["place"]:=Jz (k:=0) (x := "place") (fld := "place") R_NoPlace (PySem.W.mg_of X N a_NoPlace) (PySem.W.mg_none_of X N z_super) xn_NoPlace_place rfl rfl (NdefX.nscope_by (by decide +kernel)) rfl rfl rfl (fun _=>⟨_,rfl⟩) (fun _ _ _ us h=>match us,h with | [_,_],_=>rfl)
 have E_Broken:ErrK (g_ at_ K w) l.prog w mg base 1 "Broken" ["at"]:=Jz (k:=0) (x := "at") (fld := "at") R_Broken (PySem.W.mg_of X N a_Broken) (PySem.W.mg_none_of X N z_super) xn_Broken_at rfl rfl (NdefX.nscope_by (by decide +kernel)) rfl rfl rfl (fun _=>⟨_,rfl⟩) (fun _ _ _ us h=>match us,h with | [_,_],_=>rfl)
 have E_NoArray:ErrK (g_ at_ K w) l.prog w mg base 1 "NoArray" ["index"]:=Jz (k:=0) (x := "index") (fld := "index") R_NoArray (PySem.W.mg_of X N a_NoArray) (PySem.W.mg_none_of X N z_super) xn_NoArray_index rfl rfl (NdefX.nscope_by (by decide +kernel)) rfl rfl rfl (fun _=>⟨_,rfl⟩) (fun _ _ _ us h=>match us,h with | [_,_],_=>rfl)
 have E_Unfit:ErrK (g_ at_ K w) l.prog w mg base 1 "Unfit" ["at"]:=Jz (k:=0) (x := "at") (fld := "at") R_Unfit (PySem.W.mg_of X N a_Unfit) (PySem.W.mg_none_of X N z_super) xn_Unfit_at rfl rfl (NdefX.nscope_by (by decide +kernel)) rfl rfl rfl (fun _=>⟨_,rfl⟩) (fun _ _ _ us h=>match us,h with | [_,_],_=>rfl)
 have E_BadRoom:ErrK (g_ at_ K w) l.prog w mg base 1 "BadRoom" ["size"]:=Jz (k:=0) (x := "size") (fld := "size") R_BadRoom (PySem.W.mg_of X N a_BadRoom) (PySem.W.mg_none_of X N z_super) xn_BadRoom_size rfl rfl (NdefX.nscope_by (by decide +kernel)) rfl rfl rfl (fun _=>⟨_,rfl⟩) (fun _ _ _ us h=>match us,h with | [_,_],_=>rfl)
 have E_NoCell:ErrK (g_ at_ K w) l.prog w mg base 1 "NoCell" ["at"]:=Jz (k:=0) (x := "at") (fld := "at") R_NoCell (PySem.W.mg_of X N a_NoCell) (PySem.W.mg_none_of X N z_super) xn_NoCell_at rfl rfl (NdefX.nscope_by (by decide +kernel)) rfl rfl rfl (fun _=>⟨_,rfl⟩) (fun _ _ _ us h=>match us,h with | [_,_],_=>rfl)
 have E_Unknown:ErrK (g_ at_ K w) l.prog w mg base 1 "Unknown" ["name"]:=Jz (k:=0) (x := "name") (fld := "name") R_Unknown (PySem.W.mg_of X N a_Unknown) (PySem.W.mg_none_of X N z_super) xn_Unknown_name rfl rfl (NdefX.nscope_by (by decide +kernel)) rfl rfl rfl (fun _=>⟨_,rfl⟩) (fun _ _ _ us h=>match us,h with | [_,_],_=>rfl)
 have E_Wrong:ErrK (g_ at_ K w) l.prog w mg base 1 "Wrong" ["place"]:=Jz (k:=0) (x := "place") (fld := "place") R_Wrong (PySem.W.mg_of X N a_Wrong) (PySem.W.mg_none_of X N z_super) xn_Wrong_place rfl rfl (NdefX.nscope_by (by decide +kernel)) rfl rfl rfl (fun _=>⟨_,rfl⟩) (fun _ _ _ us h=>match us,h with | [_,_],_=>rfl)
 have E_BadStatement:ErrK (g_ at_ K w) l.prog w mg base 1 "BadStatement" ["function", "address"]:=Af2 (k:=0) (x := "function") (y := "address") (fx := "function") (fy := "address") R_BadStatement (PySem.W.mg_of X N a_BadStatement) (PySem.W.mg_none_of X N z_super) xn_BadStatement_function xn_BadStatement_address rfl rfl (NdefX.nscope_by (by decide +kernel)) rfl rfl rfl (fun _=>⟨_,rfl⟩) (fun _ _ _ us h=>match us,h with | [_,_,_],_=>rfl)
 have E_Endless:ErrK (g_ at_ K w) l.prog w mg base 1 "Endless" ["function"]:=Jz (k:=0) (x := "function") (fld := "function") R_Endless (PySem.W.mg_of X N a_Endless) (PySem.W.mg_none_of X N z_super) xn_Endless_function rfl rfl (NdefX.nscope_by (by decide +kernel)) rfl rfl rfl (fun _=>⟨_,rfl⟩) (fun _ _ _ us h=>match us,h with | [_,_],_=>rfl)
 have E_NoEntry:ErrK (g_ at_ K w) l.prog w mg base 1 "NoEntry" ["many"]:=Jz (k:=0) (x := "many") (fld := "many") R_NoEntry (PySem.W.mg_of X N a_NoEntry) (PySem.W.mg_none_of X N z_super) xn_NoEntry_many rfl rfl (NdefX.nscope_by (by decide +kernel)) rfl rfl rfl (fun _=>⟨_,rfl⟩) (fun _ _ _ us h=>match us,h with | [_,_],_=>rfl)
 have E_Refused:ErrK (g_ at_ K w) l.prog w mg base 1 "Refused" ["deed"]:=Jz (k:=0) (x := "deed") (fld := "deed") R_Refused (PySem.W.mg_of X N a_Refused) (PySem.W.mg_none_of X N z_super) xn_Refused_deed rfl rfl (NdefX.nscope_by (by decide +kernel)) rfl rfl rfl (fun _=>⟨_,rfl⟩) (fun _ _ _ us h=>match us,h with | [_,_],_=>rfl)
 have E_Full:ErrK (g_ at_ K w) l.prog w mg base 1 "Full" ["limit"]:=Jz (k:=0) (x := "limit") (fld := "limit") R_Full (PySem.W.mg_of X N a_Full) (PySem.W.mg_none_of X N z_super) xn_Full_limit rfl rfl (NdefX.nscope_by (by decide +kernel)) rfl rfl rfl (fun _=>⟨_,rfl⟩) (fun _ _ _ us h=>match us,h with | [_,_],_=>rfl)
 have E_NoFunction:ErrK (g_ at_ K w) l.prog w mg base 1 "NoFunction" ["name"]:=Jz (k:=0) (x := "name") (fld := "name") R_NoFunction (PySem.W.mg_of X N a_NoFunction) (PySem.W.mg_none_of X N z_super) xn_NoFunction_name rfl rfl (NdefX.nscope_by (by decide +kernel)) rfl rfl rfl (fun _=>⟨_,rfl⟩) (fun _ _ _ us h=>match us,h with | [_,_],_=>rfl)
 have E_NoCommand:ErrN (g_ at_ K w) mg "NoCommand" := ⟨PySem.W.mg_of X N a_NoCommand,n0_NoCommand,e6_NoCommand,e4_NoCommand,e5_NoCommand⟩
 have E_NoText:ErrN (g_ at_ K w) mg "NoText" := ⟨PySem.W.mg_of X N a_NoText,n0_NoText,e6_NoText,e4_NoText,e5_NoText⟩
 have E_NoDeed:ErrN (g_ at_ K w) mg "NoDeed" := ⟨PySem.W.mg_of X N a_NoDeed,n0_NoDeed,e6_NoDeed,e4_NoDeed,e5_NoDeed⟩
 have E_Unlike:ErrN (g_ at_ K w) mg "Unlike" := ⟨PySem.W.mg_of X N a_Unlike,n0_Unlike,e6_Unlike,e4_Unlike,e5_Unlike⟩
 have E_Nothing:ErrN (g_ at_ K w) mg "Nothing" := ⟨PySem.W.mg_of X N a_Nothing,n0_Nothing,e6_Nothing,e4_Nothing,e5_Nothing⟩
 have F_w_errors:FnM (g_ at_ K w) l.prog w mg base CX0 3 "_law_errors" Ge:=⟨⟨_,_,V6 F10 T E_TooMany E_NoPlace E_Broken E_NoArray E_Unfit E_BadRoom E_NoCell E_Unknown E_Wrong E_BadStatement E_Endless E_NoEntry E_Refused E_Full E_NoFunction E_NoCommand E_NoText E_NoDeed E_Unlike E_Nothing,PySem.W.mg_of X N a10,k10,b10⟩⟩
 have F_w_flags:FnM (g_ at_ K w) l.prog w mg base CX0 1 "_law_flags" Gz:=⟨⟨_,_,Y5 F11 T,PySem.W.mg_of X N a11,k11,b11⟩⟩
 have F_w_alike:FgM (g_ at_ K w) l.prog w mg base CX0 1 "_law_alike" Fb:=⟨⟨_,_,Y9 F7 T,PySem.W.mg_of X N a7,k7,b7⟩⟩
 have E_TailError:ErrN (g_ at_ K w) mg "TailError" := ⟨PySem.W.mg_of X N a_TailError,n0_TailError,e6_TailError,e4_TailError,e5_TailError⟩
 have F_w_odd:FnM (g_ at_ K w) l.prog w mg base CX0 2 "_law_odd" Gy:=⟨⟨_,_,AbK F8 T F_w_take,PySem.W.mg_of X N a8,k8,b8⟩⟩
 have F_w_bag:FnM (g_ at_ K w) l.prog w mg base CX0 1 "_law_bag" AeN:=⟨⟨_,_,AbL F5 T,PySem.W.mg_of X N a5,k5,b5⟩⟩
 have F_w_errors_right:FgM (g_ at_ K w) l.prog w mg base CX0 4 "_law_errors_right" Bm:=⟨⟨_,_,Ko F12 T F_w_errors F_w_flags F_w_alike E_TailError,PySem.W.mg_of X N a12,k12,b12⟩⟩
 have F_w_thing:FnM (g_ at_ K w) l.prog w mg base CX0 3 "_law_thing" Fy:=⟨⟨_,_,Y4 F13 T F_w_take F_w_odd,PySem.W.mg_of X N a13,k13,b13⟩⟩
 have F_w_is_name:FnM (g_ at_ K w) l.prog w mg base CX0 1 "_law_is_name" Dz:=⟨⟨_,_,Ul F9 T,PySem.W.mg_of X N a9,k9,b9⟩⟩
 have F_is_growing:FnM (g_ at_ K w) l.prog w mg base CX0 1 "is_growing" Gf:=⟨⟨_,_,Ra F4 T,PySem.W.mg_of X N a4,k4,b4⟩⟩
 have F_is_number:FnM (g_ at_ K w) l.prog w mg base CX0 2 "is_number" Ew:=⟨⟨_,_,Um F2 T F_is_integer,PySem.W.mg_of X N a2,k2,b2⟩⟩
 have F_is_name:FnM (g_ at_ K w) l.prog w mg base CX0 1 "is_name" Ku:=⟨⟨_,_,Za F3 T,PySem.W.mg_of X N a3,k3,b3⟩⟩
 have o14:=Aes (P:=l.prog) (w:=w) (G:=(g_ at_ K w)) (mg:=mg) (base:=base) F14 T F_w_bag F_w_errors_right F_w_odd F_w_take F_w_thing F_w_is_name F_is_growing F_is_number F_is_name F_is_integer F_w_alike
 exact o14.imp fun vs H Q E q=>q at_
theorem walk{l:PySem.W.OpenLaw}{q:Program}{loose:List Str}{XP:(Str→Option Value)→Heap→Prop}{YP:World→Heap→Prop}{d:DefRec}{K:Params→PySem.W.Frag}(hn:l.most=some 63)(hdf:d.params.defaults=[])
  (hY:∀(w:World) (h:Heap),YP w h→(K w.params).In h)
  (F:∀(w:World) (mg:Str→Option Value) (fa:Addr) (h:Heap),(K w.params).In h→h.Ns mainGlobals mg→mg d.name=some (.ref fa) →
   ∃fd:FuncData,(∀(s:Shared) (u:Value),BindsTo s fd ⟨[u],[]⟩ [("_law_script", u)])∧∀base:Heap,(K w.params).In base→base.Ns mainGlobals mg→FnG l.prog w (K w.params) mg base CX0 5 fa fd ["_law_script"] (fun vs H Q E=>∀at_:String→Addr,spM ⟨at_,K w.params,fun _=>none,Afz w⟩ Zd vs H Q E)) :
  PySem.W.WalkO q loose XP YP l.row.toRowW d [] (fun f vs=>PySem.call f vs) :=
 Afh (n:=63) (k:=5) (x := "_law_script") (sp:=fun w=>fun vs H Q E=>∀at_:String→Addr,spM ⟨at_,K w.params,fun _=>none,Afz w⟩ Zd vs H Q E) hn (by decide) hdf ⟨rfl,by decide,by decide⟩ hY F (fun w H a ns hl hO hS at_=>Ae0 hl hO hS at_)
end K10
open PySem PySem.W PyProof.Rows
set_option maxHeartbeats 0 in
theorem PySem.Challenge.cw_sparetails_k10_errors_and_kinds_holds : PySem.Challenge.rw_sparetails_k10_errors_and_kinds.Holds := by
 exact K10.top fun hdf hdn hY FF=>K10.walk rfl hdf hY fun w mg fa h KX N hmg=>K10.AeO KX N (by rw[←hdn];exact hmg) (FF w mg fa h KX N hmg)
