import PyProof.Rows.All
import HandS.ForMost
import HandS.Exc
import HandS.TupAny
import HandS.List
import HandS.TryOnly
import HandS.TryMany
import HandS.ExcOwn
import HandS.CallSlots
import HandS.Evl
import HandS.SetKeys
import HandS.ExcCtx
import HandS.HotCalls
import HandS.Lambda
import HandS.Nested
import KE.KDictKeyed
import KE.KeyNested
import HandS.TupLe
import HandS.Deep
import HandS.Wide
import HandS.WideBits
import HandS.IsInst
import HandS.Defaults
import HandS.Style
import HandS.HeadEnd
import PyProof.Rows.SetFrom
import PyProof.Rows.SetObj
import PyProof.WalksMore
import PyProof.FactsAll.subtypes_4
import PyProof.TupleIter
import PyProof.ListRange
import PyProof.StrOps2
import KE.KExcInit
import HandS.ExcIs
import HandS.Ends
import HandS.MakeKwOnly
import Open.SpecLaws
import KE.OsGo
import KE.KExcIs
import KE.KIsAll
import HandS.ExcField
import KE.KRevSl
import KE.KDictPairs
import HandS.Dict
import HandS.Flow
import HandS.Records
import HandS.Small
import OpenK.KOps
import PyProof.Conv_bool
import HandS.Zip
import HandS.Iter
import HandS.More
import HandS.SetFor
import HandS.SortInts
import HandS.Strs
import HandS.HeadHook1
import KE.GoesMore
import PyProof.ReprRoads
import HandS.SetBool
import KE.SortCalls
import HandS.FStr
import KE.KCallOwn
import KE.GoesEnum
import KE.KUnpackStar
import HandS.ExcValue
import HandS.SetTxt0
import KE.GoesZip
import KE.KDictZip
import KE.GoesEnumKw
import HandS.CallLocal
import HandS.Head0
import HandS.Head1
import HandS.Head2
import HandS.HeadHook2
import HandS.HeadHook4
import KE.KStateDown
import HandS.HeadHook3
import HandS.DeepEq
import KE.KEqDict
import HandS.Finally
import HandS.TupMul
import KE.KEqNest
import HandS.DictComp
import KE.DataFind
import PyProof.AttrMissHeap
import PyProof.NeKinds
import HandS.ListItems
import HandS.EndTab
import KE.KTryMore
import KE.KDictList
import PyProof.DictValues
import HandS.Conv
import HandS.Text
import PySem.Challenge.RW_newsahead_k61_rows_written_and_read
import PyProof.InstNe
import HandS.TupSets
import HandS.Comp
import KE.DataAny
import PyProof.Rows.BitMore
import KE.OsArith
import KE.BitLaws
import PyProof.ReprLen
import PyProof.Rows.ReprOcc
import PyProof.Rows.StrAscii
import PyProof.StrLawsIn
import KE.KStrBytes
import KE.IntTextLaws
import PyProof.StrLawsAffix
noncomputable section
set_option maxHeartbeats 0
set_option Elab.async false
set_option linter.all false
set_option maxRecDepth 100000
namespace ND
open PySem L2
def UV (K:PySem.W.Frag) (f:Addr):Option Addr:=match K.lookup f with
 | some ⟨_,_,.func fd,_⟩=>(match fd.code with
  | .ref c=>(match K.lookup c with
   | some ⟨_,_,.fields vs,_⟩=>(match (vs[11]?:Option Value) with
    | some (.ref p)=>if PySem.W.codeHdIn K c p && (K.lookup p).isNone then some p else none
    | _=>none)
   | _=>none)
  | _=>none)
 | _=>none
def Zdi (K:PySem.W.Frag) (C m:Str):Option Addr:=if C = "" then (match PySem.W.nsIn K mainGlobals m with
 | some (some (.ref f))=>some f
 | _=>none) else (match PySem.W.nsIn K mainGlobals C with
 | some (some (.ref a))=>(match PySem.W.findIn K (.ref a) m with
  | some (some (.ref f))=>some f
  | _=>none)
 | _=>none)
def ZaX:List (Str × Str):=[("House", "unlike"),("House", "parted"),("", "worth_of"),("", "begins_with"),("", "has_sign"),("", "told_paper"),("", "look_told"),("", "_law_news_turn"),("", "_law_tie_turn"),("", "_law_rows_how"),("", "_law_other_how"),("", "_law_fewest_right"),("", "_law_filled_right"),("", "_law_desks_right"),("", "_law_tried"),("", "_law_nested_right"),("", "_law_tells_on"),("", "_law_full_right"),("", "_law_flag_right"),("", "_law_known_right"),("", "_law_told_word"),("", "_law_carried")]
def ZbQ (C m:Str):Str:=(if C = "" then m else C ++ "." ++ m) ++ ".<locals>.<lambda>"
def tabsOf (K:PySem.W.Frag):List (Addr × Str):=ZaX.filterMap fun p=>match Zdi K p.1 p.2 with
 | some f=>(match UV K f with
  | some a=>some (a,ZbQ p.1 p.2)
  | none=>none)
 | none=>none
end ND
namespace PySem
namespace ErrK
open PySem.HandSPX Builtin Builtin.ObjectAttr
abbrev keyTail:List Value:=[.type "KeyError",.type "LookupError",.type "Exception",.type "BaseException",.type "object"]
end ErrK
end PySem
namespace ND
open PySem L2
section
def Zak:List Value→List Str→Bool
 | [],[]=>true
 | .str x _ :: vs,y :: ys=>decide (x=y) && Zak vs ys
 | _,_=>false
end
section
def conTB (K:PySem.W.Frag) (a:Addr) (ys:List Str):Bool:=match K.lookup a with
 | some ⟨.type T,none,.seq its _,_⟩=>decide (T = "tuple") && (decide (its.size≤1000) && Zak its.toList ys)
 | _=>false
end
end ND
namespace HX
open PySem L2
open He (ga eqO eqO_ok ba)
def Za9 (C:Addr):List Value→Option (List Value)
 | .ref D :: more=>if D=C then some more else none
 | _=>none
def Zcm:List (Option Value)→Option (String × Option Value × Option Value × Option Value × Option Value × Option Value)
 | [a,b,c,d,some (.builtin n),f]=>some (n,a,b,c,d,f)
 | _=>none
open PySem in
def Zbk (n:String) (more:List Value):Bool:=
 (n == "ValueError.__new__" && PySem.W.excTail [.type "ValueError",.type "Exception",.type "BaseException",.type "object"] more) ||
 (n == "ArithmeticError.__new__" && PySem.W.excTail [.type "ArithmeticError",.type "Exception",.type "BaseException",.type "object"] more) ||
 (n == "LookupError.__new__" && PySem.W.excTail [.type "LookupError",.type "Exception",.type "BaseException",.type "object"] more) ||
 (n == "OverflowError.__new__" && PySem.W.excTail [.type "OverflowError",.type "ArithmeticError",.type "Exception",.type "BaseException",.type "object"] more) ||
 (n == "IndexError.__new__" && PySem.W.excTail [.type "IndexError",.type "LookupError",.type "Exception",.type "BaseException",.type "object"] more) ||
 (n == "RuntimeError.__new__" && PySem.W.excTail [.type "RuntimeError",.type "Exception",.type "BaseException",.type "object"] more) ||
 (n == "LookupError.__new__" && PySem.W.excTail PySem.ErrK.keyTail more)
def ZfN (K:PySem.W.Frag) (C:Addr):Bool:=match K.lookup C with
 | some ⟨cl,_,.cls cd,sl⟩=>decide (cl = .type "type") && (!cd.hasDel && (cd.hasDict && (match Zcm sl.toList,Za9 C cd.mro with
  | some (n,_),some more=>Zbk n more
  | _,_=>false)))
 | _=>false
def errB (K:PySem.W.Frag) (nm fl:Str):Bool:=ZfN K (ga K nm) && (
 eqO (PySem.W.findIn K (.ref (ga K nm)) "__setattr__") (some (some (.builtin "object.__setattr__"))) && (
 eqO (PySem.W.findIn K (.ref (ga K nm)) "__getattribute__") (some (some (.builtin "BaseException.__getattribute__"))) && (
 eqO (PySem.W.findIn K (.ref (ga K nm)) "__getattr__") (some none) && (
 eqO (PySem.W.findIn K (.ref (ga K nm)) fl) (some none) && (
 eqO (PySem.W.findIn K (.ref (ga K nm)) "__class__") (some (some (.builtin "object.__class__"))) && (
 decide (PySem.W.specialIn K (.builtin "object.__class__") "__get__" = some (some (.builtin "getset_descriptor.__get__"))) && (
 decide (PySem.W.takesIn K (.builtin "object.__class__")=some true) && (
 decide (PySem.W.mroIn K (ga K nm) (.type "object")=some true) && (
 eqO (PySem.W.findIn K (.ref (ga K nm)) "__init__") (some (some (.ref (He.fAd K (nm,some "__init__"))))) && (
 decide (PySem.W.typeIn K (.ref (He.fAd K (nm,some "__init__")))=some (.type "function")) && (
 PySem.W.keepIn K (.ref (ga K nm)) && (
 decide (PySem.W.subIn K (.ref (ga K nm)) (.type "BaseException")=some true) && (
 decide (PySem.W.typeIn K (.ref (ga K nm))=some (.type "type")) && (
 PySem.W.hasDictIn K (ga K nm) && decide (PySem.W.exmOne K (.ref (ga K nm)) (.ref (ga K nm))=some true)))))))))))))))
end HX
namespace ND
open PySem L2
end ND
namespace HX
open PySem PySem.Spec PyProof.Rows L2 He
def dd:List Addr→Nat→List Addr
 | [],_=>[]
 | a :: r,m=>match Nat.beq (Nat.land (Nat.shiftRight m a) 1) 1 with
  | true=>dd r m
  | false=>a :: dd r (Nat.lor m (Nat.shiftLeft 1 a))
def ZgH (g:Addr→Option Obj) (as:List Addr):List Addr:=dd (as++as.flatMap fun a=>match g a with
 | some o=>refsD o
 | none=>[]) 0
def asY (g:Addr→Option Obj):Nat→List Addr
 | 0=>[mainGlobals]
 | n+1=>ZgH g (asY g n)
structure SaysY (fa:List Fa) (fn:List DefD) (ts:List Tab) (ex:PySem.W.Frag→Bool) (w:World) (K:PySem.W.Frag):Prop where
 t:SaysT fa fn ts w K
 more:ex K=true
abbrev AlZ:=AlT × Bool
abbrev KU (r:PySem.W.OpenRow) (M:Nat) (w:World) (os:OsState):Option PySem.W.SharedT:=HandSHeadRun.endF (HandSHeadRun.stepQ (HandSHeadRun.denQ HandSHeadRun.tabQ) r.prog w) M r.prog w os
def EqA (r:PySem.W.OpenRow) (q:Program) (M:Nat) (loose:List Str) (w:World):Prop:=∀ os,(KU r M w os).map (fun s=>(HandSHeadRun.looksF r.prog (PySem.W.boot_heap w.params) s.abs,HandSHeadRun.seenQ q loose (importedModules r.prog.main.body) (fun s=>PySem.W.xlAt q [] s && PySem.W.recOk r.toRowW.records s) s.abs))=some (true,PySem.W.openGood q loose)
end HX
namespace ND
open PySem PySem.Spec PyProof.Rows L2 NdefX
theorem mem_lookA:∀ {q:List (Addr × Obj)} {a:Addr} {o:Obj},q.lookup a=some o→(a,o) ∈ q
 | [],_,_,e=>by simp at e
 | (b,z) :: r,a,o,e=>by
  rw [List.lookup_cons] at e
  cases k:(a == b) with
  | true=>
   rw [k] at e
   obtain rfl:z=o:=Option.some.inj e
   obtain rfl:a=b:=beq_iff_eq.mp k
   exact List.mem_cons_self
  | false=>rw [k] at e; exact List.mem_cons_of_mem _ (mem_lookA e)
end ND
namespace HX
open PySem PySem.Spec PyProof.Rows L2 He ND
def Zd4 (K:PySem.W.Frag) (f:Addr):Option Addr:=match K.lookup f with
 | some ⟨_,_,.func fd,_⟩=>(match fd.code with
  | .ref c=>(match K.lookup c with
   | some ⟨_,_,.fields vs,_⟩=>(match (vs[11]?:Option Value) with
    | some (.ref p)=>some p
    | _=>none)
   | _=>none)
  | _=>none)
 | _=>none
def rawTabs (K:PySem.W.Frag):List Addr:=ZaX.filterMap fun p=>match Zdi K p.1 p.2 with
 | some f=>Zd4 K f
 | none=>none
def cutK (K:PySem.W.Frag) (ps:List Addr):PySem.W.Frag:=K.filter fun p=>!ps.contains p.1
def JH (o:Option Obj):Bool:=match o with
 | some ⟨.none,none,.fields vs,sl⟩=>vs.size == 0 && sl.size == 0
 | _=>false
theorem JI {o:Option Obj} (h:JH o=true):o=some { cls:=.none,data:=.fields #[] }:=by
 unfold JH at h
 split at h
 ·rename_i vs sl
  rw [Bool.and_eq_true,beq_iff_eq,beq_iff_eq] at h
  rw [Array.size_eq_zero_iff.mp h.1,Array.size_eq_zero_iff.mp h.2]
 ·cases h
theorem cutK_look {K:PySem.W.Frag} {ps:List Addr} {a:Addr} {o:Obj} (e:(cutK K ps).lookup a=some o):K.lookup a=some o:=by
 induction K with
 | nil=>cases e
 | cons p K ih=>
  unfold cutK at e
  rw [List.filter_cons] at e
  rw [List.lookup_cons]
  split at e
  ·rw [List.lookup_cons] at e
   cases q:(a == p.1) with
   | true=>rw [q] at e; exact e
   | false=>rw [q] at e; exact ih e
  ·rename_i hp
   cases q:(a == p.1) with
   | true=>
    exfalso
    obtain rfl:a=p.1:=beq_iff_eq.mp q
    have:=mem_lookA e
    have h2:=(List.mem_filter.mp this).2
    exact hp h2
   | false=>exact ih e
theorem Zbp {K:PySem.W.Frag} {ps:List Addr} {h:Heap} (x:K.In h):(cutK K ps).In h:=fun a o e=>x a o (cutK_look e)
def frL (n:Nat) (g:Addr→Option Obj):PySem.W.Frag:=(fun K=>cutK K (rawTabs K)) (frG g (asY g n))
def Zcq (K:PySem.W.Frag) (g:Addr→Option Obj):Bool:=(tabsOf K).all (fun p=>JH (g p.1)) && decide ((tabsOf K).map (·.1)).Nodup
def obsL (n:Nat) (fa:List Fa) (fn:List DefD) (ts:List Tab) (ex:PySem.W.Frag→Bool) (g:Addr→Option Obj):AlZ:=(fun K=>(obsT fa fn ts K,ex K && Zcq K g)) (frL n g)
structure SaysL (fa:List Fa) (fn:List DefD) (ts:List Tab) (ex:PySem.W.Frag→Bool) (w:World) (h:Heap) (K:PySem.W.Frag):Prop where
 s:SaysY fa fn ts ex w K
 tab:∀ p ∈ tabsOf K,h.get? p.1=some { cls:=.none,data:=.fields #[] }
 nd:((tabsOf K).map (·.1)).Nodup
def hookL (n:Nat) (fa:List Fa) (fn:List DefD) (ts:List Tab) (ex:PySem.W.Frag→Bool):PySem.W.Hook where
 α:=AlZ
 obs:=fun s=>obsL n fa fn ts ex s.heap.get?
 val:=fun w=>(valT fn ts w,true)
 says:=fun w h=>∃ K:PySem.W.Frag,K.In h∧SaysL fa fn ts ex w h K
 of:=fun _ s e=>by
  obtain ⟨e1,e2⟩:=Prod.mk.inj e
  rw [Bool.and_eq_true] at e2
  obtain ⟨e2,e3⟩:=e2
  unfold Zcq at e3
  rw [Bool.and_eq_true,List.all_eq_true] at e3
  exact ⟨_,Zbp frG_in,⟨⟨e1,e2⟩,fun p hp=>JI (e3.1 p hp),of_decide_eq_true e3.2⟩⟩
 keeps:=fun _ _ _ ⟨K,hK,c⟩ k=>⟨K,PySem.W.Frag.In.keeps hK k,⟨c.s,fun p hp=>k _ _ (c.tab p hp),c.nd⟩⟩
theorem obsL_eq {n:Nat} {fa:List Fa} {fn:List DefD} {ts:List Tab} {ex:PySem.W.Frag→Bool} {g:Addr→Option Obj} {s:Shared} (h:∀ a,g a=s.heap.get? a):obsL n fa fn ts ex g=(hookL n fa fn ts ex).obs s:=by
 have e:g=s.heap.get?:=funext h
 rw [e] <;> rfl
def ZhV (n:Nat) (fa:List Fa) (ts:List Tab) (ex:PySem.W.Frag→Bool) (g:Addr→Option Obj):Bool × List (Option (List (Option (Str × Int)))) × Bool:=(fun K=>(fa.all fun f=>f.ok K,ts.map fun t=>dicW K (t.1 K),ex K && Zcq K g)) (frL n g)
def ZhX (n:Nat) (fn:List DefD) (g:Addr→Option Obj):Bool × List FnW:=(fun K=>(fn.all fun d=>d.ok K,fn.map fun d=>fnW K d.at_)) (frL n g)
def EqBL (r:PySem.W.OpenRow) (M n:Nat) (fa:List Fa) (ts:List Tab) (ex:PySem.W.Frag→Bool) (w:World):Prop:=∀ os,(KU r M w os).map (fun s=>ZhV n fa ts ex (HandSHeadRun.getT s))=some (true,ts.map fun t=>some (keysIn w.params t.2),true)
def EqCL (r:PySem.W.OpenRow) (M n:Nat) (fn:List DefD) (w:World):Prop:=∀ os,(KU r M w os).map (fun s=>ZhX n fn (HandSHeadRun.getT s))=some (true,fn.map DefD.val)
theorem runL {r:PySem.W.OpenRow} {q:Program} {M n:Nat} {loose:List Str} {fa:List Fa} {fn:List DefD} {ts:List Tab} {ex:PySem.W.Frag→Bool} {w:World} (a:EqA r q M loose w) (b:EqBL r M n fa ts ex w) (c:EqCL r M n fn w) :
  HandSHeadRun.RunEq r q (hookL n fa fn ts ex) (fun s=>obsL n fa fn ts ex (HandSHeadRun.getT s)) M loose w:=fun os=>by
 obtain ⟨s,hs,h1⟩:=Option.map_eq_some_iff.mp (a os)
 have hb:=b os
 have hc:=c os
 rw [hs,Option.map_some,Option.some.injEq] at hb hc
 show (KU r M w os).map _=_
 rw [hs,Option.map_some]
 obtain ⟨l1,l2⟩:=Prod.mk.inj h1
 unfold ZhV at hb
 unfold ZhX at hc
 obtain ⟨b1,hb⟩:=Prod.mk.inj hb
 obtain ⟨b2,b3⟩:=Prod.mk.inj hb
 obtain ⟨c1,c2⟩:=Prod.mk.inj hc
 congr 1
 refine Prod.ext l1 (Prod.ext l2 ?_)
 show obsL n fa fn ts ex (HandSHeadRun.getT s)=(valT fn ts w,true)
 unfold obsL obsT obsD valT He.valD
 dsimp only
 rw [b1,b2,b3,c1,c2] <;> rfl
end HX
namespace L2
open PySem PySem.Spec PySem.W PyProof.Rows
def strB (x:Str):Value→Bool
 | .str a _=>decide (a=x)
 | _=>false
def esB:List (Str × Str)→List DictEntry→Bool
 | [],[]=>true
 | p :: tbl,e :: es=>strB p.1 e.key && (strB p.2 e.val && esB tbl es)
 | _,_=>false
end L2
namespace ND
open PySem L2
def conDB (K:PySem.W.Frag) (d:Addr) (tbl:List (Str × Str)):Bool:=match K.lookup d with
 | some ⟨_,_,.dict es _,_⟩=>esB tbl es.toList
 | _=>false
end ND
namespace ND
open PySem PySem.Spec PyProof.Rows L2 L2H
end ND
namespace K61
open PySem PySem.Spec PyProof.Rows L2 ND
def top (i:Nat):Stmt:=PySem.Challenge.pw_newsahead_k61_rows_written_and_read.main.body.getD i (.Pass ⟨0,0,0,0⟩)
def inClass (s:Stmt) (j:Nat):Stmt:=match s with
 | .ClassDef _ _ _ b _ _ _ _ _ _ _=>b.getD j (.Pass ⟨0,0,0,0⟩)
 | _=>.Pass ⟨0,0,0,0⟩
def Zif:List He.DefD:=[⟨("is_whole",none), "is_whole", "is_whole",defArgs (top 3),defBody (top 3),defScope (top 3),[],[]⟩,⟨("is_name",none), "is_name", "is_name",defArgs (top 7),defBody (top 7),defScope (top 7),[],[]⟩,⟨("number_words",none), "number_words", "number_words",defArgs (top 22),defBody (top 22),defScope (top 22),[],[]⟩,⟨("test_words",none), "test_words", "test_words",defArgs (top 23),defBody (top 23),defScope (top 23),[],[]⟩,⟨("row_words",none), "row_words", "row_words",defArgs (top 24),defBody (top 24),defScope (top 24),[],[]⟩,⟨("rows_words",none), "rows_words", "rows_words",defArgs (top 25),defBody (top 25),defScope (top 25),[],[]⟩,⟨("show_rows",none), "show_rows", "show_rows",defArgs (top 26),defBody (top 26),defScope (top 26),[],[]⟩,⟨("words_of",none), "words_of", "words_of",defArgs (top 27),defBody (top 27),defScope (top 27),[],[]⟩,⟨("read_number",none), "read_number", "read_number",defArgs (top 28),defBody (top 28),defScope (top 28),[],[]⟩,⟨("Reader",some "__init__"), "__init__", "Reader.__init__",defArgs (inClass (top 29) 0),defBody (inClass (top 29) 0),defScope (inClass (top 29) 0),[],[]⟩,⟨("Reader",some "here"), "here", "Reader.here",defArgs (inClass (top 29) 1),defBody (inClass (top 29) 1),defScope (inClass (top 29) 1),[],[]⟩,⟨("Reader",some "refuse"), "refuse", "Reader.refuse",defArgs (inClass (top 29) 2),defBody (inClass (top 29) 2),defScope (inClass (top 29) 2),[],[]⟩,⟨("Reader",some "step"), "step", "Reader.step",defArgs (inClass (top 29) 3),defBody (inClass (top 29) 3),defScope (inClass (top 29) 3),[],[]⟩,⟨("Reader",some "take"), "take", "Reader.take",defArgs (inClass (top 29) 4),defBody (inClass (top 29) 4),defScope (inClass (top 29) 4),[],[]⟩,⟨("Reader",some "take_name"), "take_name", "Reader.take_name",defArgs (inClass (top 29) 5),defBody (inClass (top 29) 5),defScope (inClass (top 29) 5),[],[]⟩,⟨("Reader",some "one_of"), "one_of", "Reader.one_of",defArgs (inClass (top 29) 6),defBody (inClass (top 29) 6),defScope (inClass (top 29) 6),[],[]⟩,⟨("Reader",some "sum_here"), "sum_here", "Reader.sum_here",defArgs (inClass (top 29) 7),defBody (inClass (top 29) 7),defScope (inClass (top 29) 7),[],[]⟩,⟨("Reader",some "test_here"), "test_here", "Reader.test_here",defArgs (inClass (top 29) 8),defBody (inClass (top 29) 8),defScope (inClass (top 29) 8),[],[]⟩,⟨("Reader",some "row_here"), "row_here", "Reader.row_here",defArgs (inClass (top 29) 9),defBody (inClass (top 29) 9),defScope (inClass (top 29) 9),[],[]⟩,⟨("Reader",some "inner"), "inner", "Reader.inner",defArgs (inClass (top 29) 10),defBody (inClass (top 29) 10),defScope (inClass (top 29) 10),[],[]⟩,⟨("Reader",some "rows_here"), "rows_here", "Reader.rows_here",defArgs (inClass (top 29) 11),defBody (inClass (top 29) 11),defScope (inClass (top 29) 11),[],[]⟩,⟨("read_words",none), "read_words", "read_words",defArgs (top 30),defBody (top 30),defScope (top 30),[],[]⟩,⟨("read_rows",none), "read_rows", "read_rows",defArgs (top 31),defBody (top 31),defScope (top 31),[],[]⟩,⟨("_law_bag",none), "_law_bag", "_law_bag",defArgs (top 33),defBody (top 33),defScope (top 33),[],[]⟩,⟨("_law_take",none), "_law_take", "_law_take",defArgs (top 34),defBody (top 34),defScope (top 34),[],[]⟩,⟨("_law_names",none), "_law_names", "_law_names",defArgs (top 35),defBody (top 35),defScope (top 35),[],[]⟩,⟨("_law_kit",none), "_law_kit", "_law_kit",defArgs (top 36),defBody (top 36),defScope (top 36),[],[]⟩,⟨("_law_sum",none), "_law_sum", "_law_sum",defArgs (top 37),defBody (top 37),defScope (top 37),[],[]⟩,⟨("_law_test",none), "_law_test", "_law_test",defArgs (top 38),defBody (top 38),defScope (top 38),[],[]⟩,⟨("_law_row",none), "_law_row", "_law_row",defArgs (top 39),defBody (top 39),defScope (top 39),[],[]⟩]
def Zig:List He.DefD:=[⟨("_law_rows",none), "_law_rows", "_law_rows",defArgs (top 40),defBody (top 40),defScope (top 40),[],[]⟩,⟨("_law_deed",none), "_law_deed", "_law_deed",defArgs (top 41),defBody (top 41),defScope (top 41),[],[]⟩,⟨("_law_sum_words",none), "_law_sum_words", "_law_sum_words",defArgs (top 42),defBody (top 42),defScope (top 42),[],[]⟩,⟨("_law_test_words",none), "_law_test_words", "_law_test_words",defArgs (top 43),defBody (top 43),defScope (top 43),[],[]⟩,⟨("_law_words",none), "_law_words", "_law_words",defArgs (top 44),defBody (top 44),defScope (top 44),[],[]⟩,⟨("_law_any_kit",none), "_law_any_kit", "_law_any_kit",defArgs (top 45),defBody (top 45),defScope (top 45),[],[]⟩,⟨("_law_deep_rows",none), "_law_deep_rows", "_law_deep_rows",defArgs (top 46),defBody (top 46),defScope (top 46),[],[]⟩,⟨("_law_right",none), "_law_right", "_law_right",defArgs (top 47),defBody (top 47),defScope (top 47),[],[]⟩,⟨("law",none), "law", "law",defArgs (top 48),defBody (top 48),defScope (top 48),[],[]⟩,⟨("NoText",some "__init__"), "__init__", "NoText.__init__",defArgs (inClass (top 1) 0),defBody (inClass (top 1) 0),defScope (inClass (top 1) 0),[],[]⟩]
def fn:List He.DefD:=Zif++Zig
def Zic:List He.Fa:=[.glo "is_whole",.glo "is_name",.glo "number_words",.glo "test_words",.glo "row_words",.glo "rows_words",.glo "show_rows",.glo "words_of",.glo "read_number",.glo "read_words",.glo "read_rows",.glo "_law_bag",.glo "_law_take",.glo "_law_names",.glo "_law_kit",.glo "_law_sum",.glo "_law_test",.glo "_law_row",.glo "_law_rows",.glo "_law_deed",.glo "_law_sum_words",.glo "_law_test_words",.glo "_law_words",.glo "_law_any_kit",.glo "_law_deep_rows",.glo "_law_right",.glo "law",.glo "NoText",.glo "Reader",.cls "Reader"]
def Zid:List He.Fa:=[.mkr "Reader",.noat "Reader" "many",.noat "Reader" "place",.noat "Reader" "words",.meth "Reader" "here",.meth "Reader" "inner",.meth "Reader" "one_of",.meth "Reader" "refuse",.meth "Reader" "row_here",.meth "Reader" "rows_here",.meth "Reader" "step",.meth "Reader" "sum_here",.meth "Reader" "take",.meth "Reader" "take_name",.meth "Reader" "test_here",.free "abs",.free "all",.free "bool",.free "int",.free "isinstance",.free "len",.free "list",.free "max",.free "min",.free "range",.free "repr",.free "str",.free "tuple",.free "zip",.str "CELL_SIGN" "@"]
def Zie:List He.Fa:=[.glo "COMPARED",.str "FIGURES" "0123456789",.str "LETTERS" "abcdefghijklmnopqrstuvwxyz",.int "MOST_FIGURES" 10,.int "MOST_NUMBER" 1000000000,.int "MOST_ROWS" 30,.int "MOST_SIGNS" 8,.int "MOST_SUMS" 5,.int "MOST_TESTS" 4,.int "MOST_WITHIN" 4,.str "PURSE_SIGN" "$",.glo "ROW_WORDS",.glo "SIGNS",.glo "WITHIN_WORDS"]
def fa:List He.Fa:=Zic++Zid++Zie
def ZbR:List Str:=["__name__", "NoText", "is_whole", "LETTERS", "MOST_SIGNS", "is_name", "MOST_NUMBER", "MOST_SUMS", "MOST_TESTS", "MOST_ROWS", "MOST_WITHIN", "SIGNS", "FIGURES", "MOST_FIGURES", "CELL_SIGN", "PURSE_SIGN", "COMPARED", "ROW_WORDS", "WITHIN_WORDS", "number_words", "test_words", "row_words", "rows_words", "show_rows", "words_of", "read_number", "Reader", "read_words", "read_rows", "_law_bag"]
def ZbS:List Str:=["_law_take", "_law_names", "_law_kit", "_law_sum", "_law_test", "_law_row", "_law_rows", "_law_deed", "_law_sum_words", "_law_test_words", "_law_words", "_law_any_kit", "_law_deep_rows", "_law_right"]
def loose:List Str:=ZbR++ZbS
def Zet:List He.Tab:=[(fun K=>He.ga K "COMPARED",["above", "same"])]
def ex (K:PySem.W.Frag):Bool:=HX.errB K "NoText" "place" && (conDB K (He.ga K "COMPARED") [("above", ">"),("same", "=")] && (conTB K (He.ga K "ROW_WORDS") ["set", "say", "pay", "if", "while"] && (conTB K (He.ga K "SIGNS") ["+", "-", "*"] && (conTB K (He.ga K "WITHIN_WORDS") ["if", "while"]))))
abbrev R:PySem.W.OpenRow:=PySem.W.OpenLaw.row PySem.Challenge.rw_newsahead_k61_rows_written_and_read
abbrev hk:PySem.W.Hook:=HX.hookL 5 fa fn Zet ex
def ob (s:PySem.W.SharedT):HX.AlZ:=HX.obsL 5 fa fn Zet ex (HandSHeadRun.getT s)
theorem ob_eq (s:PySem.W.SharedT):ob s=hk.obs s.abs:=HX.obsL_eq (HandSHeadRun.getT_eq s)
abbrev vw:Program:=PySem.W.view R.prog [48]
theorem runa_f (w:World):HX.EqA R vw 9000 loose (w.withFollow "special-get-raises" false):=by
 intro os
 kernel_rfl
theorem runb_f (w:World):HX.EqBL R 9000 5 fa Zet ex (w.withFollow "special-get-raises" false):=by
 intro os
 kernel_rfl
theorem runc_f (w:World):HX.EqCL R 9000 5 fn (w.withFollow "special-get-raises" false):=by
 intro os
 kernel_rfl
theorem runa_t (w:World):HX.EqA R vw 9000 loose (w.withFollow "special-get-raises" true):=by
 intro os
 kernel_rfl
theorem runb_t (w:World):HX.EqBL R 9000 5 fa Zet ex (w.withFollow "special-get-raises" true):=by
 intro os
 kernel_rfl
theorem runc_t (w:World):HX.EqCL R 9000 5 fn (w.withFollow "special-get-raises" true):=by
 intro os
 kernel_rfl
theorem run (w:World):HandSHeadRun.RunEq R vw hk ob 9000 loose w:=PySem.W.byRow2 "special-get-raises" (P:=fun w=>HandSHeadRun.RunEq R vw hk ob 9000 loose w) (fun w=>HX.runL (runa_f w) (runb_f w) (runc_f w)) (fun w=>HX.runL (runa_t w) (runb_t w) (runc_t w)) w
end K61
open PySem PySem.W PySem.Calls PyProof.Rows in
theorem K61.enter (call : PySem.W.WalkO K61.vw K61.loose (XL K61.vw []) (Hook.says K61.hk) (OpenLaw.row PySem.Challenge.rw_newsahead_k61_rows_written_and_read).toRowW (HandSHeadRun.topDef (OpenLaw.row PySem.Challenge.rw_newsahead_k61_rows_written_and_read).prog 48) [] fun f vs => PySem.call f vs) : PySem.Challenge.rw_newsahead_k61_rows_written_and_read.Holds := by
 w_on; o_law
 refine HandSHeadRun.head_any (r:=OpenLaw.row PySem.Challenge.rw_newsahead_k61_rows_written_and_read) (q:=K61.vw) (H:=K61.hk) (ob:=K61.ob) (M:=9000) (loose:=K61.loose) (d:=HandSHeadRun.topDef (OpenLaw.row PySem.Challenge.rw_newsahead_k61_rows_written_and_read).prog 48) (kwd:=[]) K61.ob_eq
  (by kernel_rfl) (fun s=>by kernel_rfl) K61.run (by kernel_rfl) (by kernel_rfl) (by kernel_rfl) (by rfl) (by first | assumption | decide +kernel) (by decide +kernel) ⟨rfl,rfl,rfl,rfl,rfl,by decide +kernel⟩ ?hw ?hc
 case hw => w_witness2
 case hc => exact call
namespace L2
open PySem
def PlT (o:Obj):Prop:=o.cls = .type "tuple" ∧ o.dict=none
def SqP (K:PySem.W.Frag) (F:Hp) (a:Addr) (vs:List V):Prop:=(∃ o,PlT o∧F a=some (.frz o (.tup vs))) ∨
 ∃ (o:Obj) (its:Array Value) (n:Nat),K.lookup a=some o∧o.cls = .type "tuple" ∧ o.dict=none∧o.data = .seq its n∧its.size≤sizeLine∧Vals vs its.toList
theorem SqP.sq {K:PySem.W.Frag} {F:Hp} {a:Addr} {vs:List V}:SqP K F a vs→SqT K F a vs
 | .inl ⟨o,_,e⟩=>.inl (.inr ⟨o,e⟩)
 | .inr ⟨o,its,n,look,isT,_,rest⟩=>.inr ⟨o,its,n,look,isT,rest⟩
abbrev Zan (H:Hp) (Q:VK) (xs:List V):Prop:=∀ p o,H p=none→PlT o→Q (.ref p) (upd H p (.frz o (.tup xs)))
section
variable {X:Cx} {ps:List (Addr × Obj)} {st:St} {G:Hp} {sh:Shared} {Q:VK}
abbrev tObj (its:List Value):Obj:={ cls:=.type "tuple",data:=.seq its.toArray }
theorem Inv.newT {xs:List V} {its:List Value} (inv:Inv X ps st G sh) (fits:xs.length≤sizeLine) (rel:Vals xs its) (want:Zan G Q xs) :
  EP X ps st Q (.ref sh.heap.objs.size) { sh with heap:=sh.heap.push (tObj its) }:=by
 have free:G sh.heap.objs.size=none:=inv.hok.fresh (Nat.le_refl _)
 have there:ObjOk X.prog X.w (upd G sh.heap.objs.size (.frz (tObj its) (.tup xs))) (sh.heap.push (tObj its)) sh.heap.objs.size (.frz (tObj its) (.tup xs)):=
  ⟨Heap.get?_push_size _ rfl,fits,its,rel,PyProof.Rows.IsTup.new _ _⟩
 exact ⟨.ref _,_,inv.laid (t':=sh.toks) (fun _ _ old=>Heap.get?_push_of_some _ old) (Nat.le_refl _) there,rfl,want _ _ free ⟨rfl,rfl⟩⟩
def tTupF (args:TA):TE:=fun st G Q=>args st G fun xs G1=>xs.length≤sizeLine∧Zan G1 Q xs
theorem pe_tupF {es:List Expr} {args:TA} {k:Nat} {pos:Pos} (items:PA X es args):PE X (.Tuple es k pos) (tTupF args) where
 run:=fun ps sh st G Q inv want=>wpAny_Tuple_spliced (thn (items.run pos ps sh st G _ inv want) fun got s1 ⟨xs,G1,inv1,rel,fits,new⟩=>⟨rel.length ▸ fits,inv1.newT fits rel new⟩)
def rCatF (K:PySem.W.Frag):R2:=fun x y G Q=>∃ a b xs ys,x = .ref a∧y = .ref b∧SqT K G a xs∧SqT K G b ys∧xs.length+ys.length≤sizeLine ∧
 (xs=[]→Q (.ref b) G)∧(xs ≠ []→ys=[]→Q (.ref a) G)∧(xs ≠ []→ys ≠ []→Zan G Q (xs++ys))
theorem Zb4:OpR X (binaryOp .Add) (rCatF X.K):=fun ps sh st G l r lv rv Q inv isL isR ⟨a,b,xs,ys,el,er,sqL,sqR,fits,wL,wR,wNew⟩=>by
 subst el er
 obtain rfl:lv = .ref a:=isL
 obtain rfl:rv = .ref b:=isR
 obtain ⟨itL,relL,tupL,_⟩:=inv.tuple sqL
 obtain ⟨itR,relR,tupR,_⟩:=inv.tuple sqR
 match xs,itL,relL,tupL,wL,wR,wNew,fits with
 | [],_,.nil,tupL,wL,_,_,_=>exact cat_tup0 tupL tupR ⟨.ref b,_,inv,rfl,wL rfl⟩
 | x :: xs,_,.cons hx hxs,tupL,_,wR,wNew,fits=>
  have relL:Vals (x :: xs) _:=.cons hx hxs
  refine HT.cat_tup tupL tupR (List.cons_ne_nil _ _) (fun none=>⟨.ref a,_,inv,rfl,wR (List.cons_ne_nil _ _) (relR.nil_iff.mp none)⟩) (fun some=>?_) (by rw [← relL.length,← relR.length]; exact fits)
  exact inv.newT (by rw [List.length_append]; exact fits) (relL.append relR) (wNew (List.cons_ne_nil _ _) fun none=>some (relR.nil_iff.mpr none))
abbrev whole (n:Nat) (lo hi:Option Int):Prop:=HT.sIx n 0 lo=0∧HT.sIx n n hi=n
def rSlF (K:PySem.W.Frag):V→Option Int→Option Int→Hp→VK→Prop:=fun x lo hi G Q=>∃ a xs,x = .ref a∧SqT K G a xs∧(whole xs.length lo hi→Q (.ref a) G)∧(¬ whole xs.length lo hi→Zan G Q (cutV xs lo hi))
theorem Zcn:SlR X (rSlF X.K):=fun ps sh st G x v vl vu lo hi sl Q inv isX slice pl pu ⟨a,xs,ex,sq,same,new⟩=>by
 subst ex
 obtain rfl:v = .ref a:=isX
 obtain ⟨its,rel,tup,fits⟩:=inv.tuple sq
 have size:its.toArray.size=xs.length:=(List.size_toArray ..).trans rel.length.symm
 refine ⟨_,_,PyProof.Rows.slot_tuple_getitem.lookup,tup.typeIs,?_⟩
 rcases Classical.em (whole xs.length lo hi) with w | w
 ·exact getItem_tuple_whole tup slice pl pu (size ▸ w) ⟨.ref a,_,inv,rfl,same w⟩
 ·have out:=inv.newT (Nat.le_trans (cutV_length xs lo hi) fits) ((rel.drop (HT.sIx xs.length 0 lo)).take (HT.sIx xs.length xs.length hi - HT.sIx xs.length 0 lo)) (new w)
  exact HT.getItem_tuple_cut tup slice pl pu (size ▸ w) (by rw [size]; exact out) (size ▸ fits)
theorem Yz:CallR X (.type "tuple") (fun xs G Q=>∃ p ys,xs=[.ref p]∧((SqL X.K G p ys∧Zan G Q ys)∨(SqT X.K G p ys∧Q (.ref p) G))):=fun ps sh st G xs us Q inv rel ⟨p,ys,ex,want⟩=>by
 subst ex
 rcases want with ⟨sq,new⟩ | old
 ·obtain ⟨u,rfl,isP⟩:=vals1 rel
  obtain rfl:u = .ref p:=isP
  obtain ⟨its,relI,lst,fits⟩:=inv.list sq
  have few:its.toArray.size≤sizeLine:=by rw [List.size_toArray,← relI.length]; exact fits
  exact call_tuple_list lst.isList (fun h' kept=>(inv.kept (t':=sh.toks) kept).newT fits relI new) few
 ·exact call_tuple_of ps sh st G _ us Q inv rel ⟨p,ys,rfl,.inr old⟩
end
end L2
namespace ND
open PySem L2
abbrev Takes (X:Cx) (W:WX):Prop:=L2N.Takes X W
abbrev passAt {X:Cx} {W:WX} (tk:Takes X W) (σ:St):PassesAt (L2N.CX X.prog X.w) X σ (WE W σ):=L2N.passAt tk σ
inductive D where
 | non | bl (b:Bool) | int (i:Int) | str (x:Str)
 | set (ks:List Key) | lst (xs:List D) | rol (xs:List D) | tup (xs:List D) | tpo (xs:List D) | dct (kvs:List (Key × D))
 | obj (C:Str) (fs:List (Str × D)) | cel (n:Nat) | fn (x:Str) | ty (n:String) | rdc (kvs:List (Key × D)) | kdc (kvs:List (List Bool × D)) | raw
inductive Cell where
 | lst (xs:List D) | dct (kvs:List (Key × D)) | ins (C:Str) (fs:List (Str × D)) | fz (d:D) | dead | kct (kvs:List (List Bool × D)) | tbl (q:Str)
def Cell.alive:Cell→Bool
 | .lst _=>true | .dct _=>true | .ins _ _=>true | .fz _=>false | .dead=>false | .kct _=>true | .tbl _=>true
abbrev Za:=List Cell
structure LamQ where
 f:Addr
 kn:List (Addr × HO)
 ws:List V
 cs:List D
structure CuE where
 n:Nat
 a:Addr
 u:Value
 o:Option Addr
 C:Str
 fs:List (Str × D)
 er:Bool
 lam:Option LamQ
structure G where
 K:PySem.W.Frag
 mg:Str→Option Value
 P:Program
 w:World
 cur:Option CuE
 hid:List Addr
def SOk (x:Str):Prop:=PyData.strOk x=true∧x.length≤sizeLine
def tkey (k:List Bool):NestedKey:=.tup (k.map fun b=>.num (if b=true then 1 else 0))
def KdO (P:Program) (w:World) (a:Addr) (xs:List (List Bool × Addr × Value)):HO:=.ext fun h=>(a == sysModules)=false∧∃ o es ep,h.get? a=some o∧o.ExactDict∧o.data = .dict es ep∧es.toList=xs.map (fun x=>entryOfKey (nestedKind P w) (tkey x.1,x.2))∧(xs.map (·.1)).Nodup
def ZcM (P:Program) (w:World) (F:Hp) (a:Addr) (xs:List (List Bool × Addr × Value)):Prop:=F a=some (KdO P w a xs)∨∃ o,F a=some (.frz o (KdO P w a xs))
mutual
inductive Val (g:G) (F:Hp) (c:List Addr):V→D→Prop
 | non:Val g F c .non .non
 | bl (b:Bool):Val g F c (.bl b) (.bl b)
 | int (i:Int):Val g F c (.int i) (.int i)
 | str {x:Str}:SOk x→Val g F c (.str x) (.str x)
 | lst {a:Addr} {vs:List V} {xs:List D}:F a=some (.lst vs)→Vls g F c vs xs→Val g F c (.ref a) (.lst xs)
 | rol {a:Addr} {vs:List V} {xs:List D}:SqL g.K F a vs→Vls g F c vs xs→Val g F c (.ref a) (.rol xs)
 | set {a:Addr} {ks:List Key}:ks.Nodup→F a=some (SetK g.P g.w a (fun k=>ks.any fun q=>decide (q=k)) ks.length)→Val g F c (.ref a) (.set ks)
 | tup {a:Addr} {vs:List V} {xs:List D}:SqP g.K F a vs→Vls g F c vs xs→Val g F c (.ref a) (.tup xs)
 | tpo {a:Addr} {vs:List V} {xs:List D}:SqT g.K F a vs→Vls g F c vs xs→Val g F c (.ref a) (.tpo xs)
 | dct {a:Addr} {ws:List (Key × V)} {kvs:List (Key × D)}:F a=some (.dK ws)→VKv g F c ws kvs→Val g F c (.ref a) (.dct kvs)
 | obj {a Ca dx:Addr} {C:Str} {ws:List (Str × V)} {fs:List (Str × D)}:g.mg C=some (.ref Ca)→F a=some (.ins Ca dx ws)→VFs g F c ws fs→Val g F c (.ref a) (.obj C fs)
 | cel {a:Addr} {n:Nat}:c[n]? = some a→Val g F c (.ref a) (.cel n)
 | fn {a:Addr} {x:Str}:g.mg x=some (.ref a)→Val g F c (.ref a) (.fn x)
 | ty (n:String):Val g F c (.ty n) (.ty n)
 | rdc {a:Addr} {o:Obj} {ws:List (Key × V)} {kvs:List (Key × D)}:F a=some (.frz o (.dK ws))→VKv g F c ws kvs→Val g F c (.ref a) (.rdc kvs)
 | kdc {a:Addr} {xs:List (List Bool × Addr × Value)} {kvs:List (List Bool × D)}:ZcM g.P g.w F a xs→VKb g F c xs kvs→Val g F c (.ref a) (.kdc kvs)
inductive Vls (g:G) (F:Hp) (c:List Addr):List V→List D→Prop
 | nil:Vls g F c [] []
 | cons {v:V} {d:D} {vs:List V} {xs:List D}:Val g F c v d→Vls g F c vs xs→Vls g F c (v :: vs) (d :: xs)
inductive VKv (g:G) (F:Hp) (c:List Addr):List (Key × V)→List (Key × D)→Prop
 | nil:VKv g F c [] []
 | cons {k:Key} {v:V} {d:D} {vs:List (Key × V)} {xs:List (Key × D)}:Val g F c v d→VKv g F c vs xs→VKv g F c ((k,v) :: vs) ((k,d) :: xs)
inductive VKb (g:G) (F:Hp) (c:List Addr):List (List Bool × Addr × Value)→List (List Bool × D)→Prop
 | nil:VKb g F c [] []
 | cons {k:List Bool} {b:Addr} {u:Value} {v:V} {d:D} {vs:List (List Bool × Addr × Value)} {xs:List (List Bool × D)}:SqP g.K F b (k.map V.bl)→L2.RelV v u→Val g F c v d→VKb g F c vs xs→VKb g F c ((k,b,u) :: vs) ((k,d) :: xs)
inductive VFs (g:G) (F:Hp) (c:List Addr):List (Str × V)→List (Str × D)→Prop
 | nil:VFs g F c [] []
 | cons {k:Str} {v:V} {d:D} {vs:List (Str × V)} {xs:List (Str × D)}:Val g F c v d→VFs g F c vs xs→VFs g F c ((k,v) :: vs) ((k,d) :: xs)
end
def Pre (c c':List Addr):Prop:=∀ (n:Nat) (a:Addr),c[n]? = some a→c'[n]? = some a
theorem Pre.refl (c:List Addr):Pre c c:=fun _ _ h=>h
theorem Pre.trans {c c1 c2:List Addr} (a:Pre c c1) (b:Pre c1 c2):Pre c c2:=fun n x h=>b n x (a n x h)
theorem Pre.snoc (c:List Addr) (p:Addr):Pre c (c++[p]):=fun n a h=>by
 have hn:n < c.length:=by
  rcases Nat.lt_or_ge n c.length with q | q
  ·exact q
  ·rw [List.getElem?_eq_none q] at h; cases h
 rw [List.getElem?_append_left hn]; exact h
abbrev Ex:=Evl.Ex
section
variable {g:G} {F F':Hp} {c c':List Addr}
theorem sqP_mono {a:Addr} {vs:List V} (e:Ex F F') (h:SqP g.K F a vs):SqP g.K F' a vs:=h.imp (fun ⟨o,p,q⟩=>⟨o,p,e _ _ q⟩) id
mutual
theorem Val.mono (e:Ex F F') (p:Pre c c'):∀ {v:V} {d:D},Val g F c v d→Val g F' c' v d
 | _,_,.non=>.non
 | _,_,.bl b=>.bl b
 | _,_,.int i=>.int i
 | _,_,.str h=>.str h
 | _,_,.lst s h=>.lst (e _ _ s) (Vls.mono e p h)
 | _,_,.rol s h=>.rol (Evl.ex_l e s) (Vls.mono e p h)
 | _,_,.set n s=>.set n (e _ _ s)
 | _,_,.tup s h=>.tup (sqP_mono e s) (Vls.mono e p h)
 | _,_,.tpo s h=>.tpo (Evl.ex_t e s) (Vls.mono e p h)
 | _,_,.dct s h=>.dct (e _ _ s) (VKv.mono e p h)
 | _,_,.obj m s h=>.obj m (e _ _ s) (VFs.mono e p h)
 | _,_,.cel h=>.cel (p _ _ h)
 | _,_,.fn h=>.fn h
 | _,_,.ty n=>.ty n
 | _,_,.rdc s h=>.rdc (e _ _ s) (VKv.mono e p h)
 | _,_,.kdc s h=>.kdc (s.imp (fun q=>e _ _ q) fun ⟨o,q⟩=>⟨o,e _ _ q⟩) (VKb.mono e p h)
theorem Vls.mono (e:Ex F F') (p:Pre c c'):∀ {vs:List V} {xs:List D},Vls g F c vs xs→Vls g F' c' vs xs
 | _,_,.nil=>.nil
 | _,_,.cons h t=>.cons (Val.mono e p h) (Vls.mono e p t)
theorem VKv.mono (e:Ex F F') (p:Pre c c'):∀ {vs:List (Key × V)} {xs:List (Key × D)},VKv g F c vs xs→VKv g F' c' vs xs
 | _,_,.nil=>.nil
 | _,_,.cons h t=>.cons (Val.mono e p h) (VKv.mono e p t)
theorem VKb.mono (e:Ex F F') (p:Pre c c'):∀ {vs:List (List Bool × Addr × Value)} {xs:List (List Bool × D)},VKb g F c vs xs→VKb g F' c' vs xs
 | _,_,.nil=>.nil
 | _,_,.cons s r h t=>.cons (sqP_mono e s) r (Val.mono e p h) (VKb.mono e p t)
theorem VFs.mono (e:Ex F F') (p:Pre c c'):∀ {vs:List (Str × V)} {xs:List (Str × D)},VFs g F c vs xs→VFs g F' c' vs xs
 | _,_,.nil=>.nil
 | _,_,.cons h t=>.cons (Val.mono e p h) (VFs.mono e p t)
end
theorem Vls.length:∀ {vs:List V} {xs:List D},Vls g F c vs xs→vs.length=xs.length
 | _,_,.nil=>rfl
 | _,_,.cons _ t=>by rw [List.length_cons,List.length_cons,Vls.length t]
theorem Vls.get:∀ {vs:List V} {xs:List D} {i:Nat} {d:D},Vls g F c vs xs→xs[i]? = some d→∃ v,vs[i]? = some v∧Val g F c v d
 | _,_,_,_,.nil,h=>by simp at h
 | _,_,0,_,.cons h _,e=>by simp at e; subst e; exact ⟨_,rfl,h⟩
 | _,_,i+1,d,.cons _ t,e=>by
  obtain ⟨v,h1,h2⟩:=Vls.get (i:=i) (d:=d) t (by simpa using e)
  exact ⟨v,by simpa using h1,h2⟩
theorem Vls.append:∀ {vs ws:List V} {xs ys:List D},Vls g F c vs xs→Vls g F c ws ys→Vls g F c (vs++ws) (xs++ys)
 | _,_,_,_,.nil,h=>h
 | _,_,_,_,.cons h t,s=>.cons h (Vls.append t s)
theorem Vls.take:∀ {vs:List V} {xs:List D} (n:Nat),Vls g F c vs xs→Vls g F c (vs.take n) (xs.take n)
 | _,_,0,_=>.nil
 | _,_,_+1,.nil=>.nil
 | _,_,n+1,.cons h t=>.cons h (Vls.take n t)
theorem Vls.drop:∀ {vs:List V} {xs:List D} (n:Nat),Vls g F c vs xs→Vls g F c (vs.drop n) (xs.drop n)
 | _,_,0,h=>h
 | _,_,_+1,.nil=>.nil
 | _,_,n+1,.cons _ t=>Vls.drop n t
theorem Vls.set:∀ {vs:List V} {xs:List D} {v:V} {d:D} (n:Nat),Vls g F c vs xs→Val g F c v d→Vls g F c (vs.set n v) (xs.set n d)
 | _,_,_,_,_,.nil,_=>.nil
 | _,_,_,_,0,.cons _ t,h=>.cons h t
 | _,_,_,_,n+1,.cons h t,q=>.cons h (Vls.set n t q)
theorem Vls.reverse {vs:List V} {xs:List D} (h:Vls g F c vs xs):Vls g F c vs.reverse xs.reverse:=by
 induction vs generalizing xs with
 | nil=>cases h; exact .nil
 | cons v vs ih=>
  cases h with
  | cons h t=>
   rw [List.reverse_cons,List.reverse_cons]
   exact (ih t).append (.cons h .nil)
theorem VFs.lookup:∀ {vs:List (Str × V)} {xs:List (Str × D)} {f:Str} {d:D},VFs g F c vs xs→xs.lookup f=some d→∃ v,vs.lookup f=some v∧Val g F c v d
 | _,_,_,_,.nil,h=>by simp at h
 | _,_,f,d,.cons (k:=k) h t,e=>by
  rw [List.lookup_cons] at e ⊢
  cases q:(f == k) with
  | true=>rw [q] at e; cases e; exact ⟨_,rfl,h⟩
  | false=>rw [q] at e; exact VFs.lookup t e
theorem VFs.lookup_none:∀ {vs:List (Str × V)} {xs:List (Str × D)} {f:Str},VFs g F c vs xs→xs.lookup f=none→vs.lookup f=none
 | _,_,_,.nil,h=>rfl
 | _,_,f,.cons (k:=k) h t,e=>by
  rw [List.lookup_cons] at e ⊢
  cases q:(f == k) with
  | true=>rw [q] at e; cases e
  | false=>rw [q] at e; exact VFs.lookup_none t e
theorem VFs.length:∀ {vs:List (Str × V)} {xs:List (Str × D)},VFs g F c vs xs→vs.length=xs.length
 | _,_,.nil=>rfl
 | _,_,.cons _ t=>by rw [List.length_cons,List.length_cons,VFs.length t]
theorem VKv.length:∀ {vs:List (Key × V)} {xs:List (Key × D)},VKv g F c vs xs→vs.length=xs.length
 | _,_,.nil=>rfl
 | _,_,.cons _ t=>by rw [List.length_cons,List.length_cons,VKv.length t]
end
def live:List Addr→Za→List Addr
 | a :: c,x :: S=>if x.alive then a :: live c S else live c S
 | _,_=>[]
def frz (g:G) (c:List Addr) (S:Za) (H:Hp):Hp:=fun a=>if a ∈ live c S∨a ∈ g.hid then none else H a
section
variable {g:G}
theorem frz_of {c:List Addr} {S:Za} {H:Hp} {a:Addr} {o:HO} (h:frz g c S H a=some o):H a=some o∧a ∉ live c S∧a ∉ g.hid:=by
 unfold frz at h
 split at h
 ·cases h
 ·rename_i q
  exact ⟨h,fun z=>q (.inl z),fun z=>q (.inr z)⟩
theorem frz_in {c:List Addr} {S:Za} {H:Hp} {a:Addr} (h:a ∉ live c S) (h':a ∉ g.hid):frz g c S H a=H a:=if_neg fun z=>z.elim h h'
theorem ZM {c:List Addr} {S:Za} {H:Hp} {a:Addr} (h:a ∈ live c S):frz g c S H a=none:=if_pos (.inl h)
theorem ZJ {c:List Addr} {S:Za} {H:Hp} {a:Addr} (h:a ∈ g.hid):frz g c S H a=none:=if_pos (.inr h)
theorem frz_ex {c:List Addr} {S:Za} {H:Hp}:Ex (frz g c S H) H:=fun a o h=>(frz_of h).1
end
theorem Wq:∀ {c:List Addr} {S:Za} {a:Addr},a ∈ live c S→∃ (n:Nat) (x:Cell),c[n]? = some a∧S[n]? = some x∧x.alive=true
 | [],_,_,h=>by simp [live] at h
 | _ :: _,[],_,h=>by simp [live] at h
 | b :: c,x :: S,a,h=>by
  unfold live at h
  split at h
  ·rcases List.mem_cons.mp h with rfl | h
   ·exact ⟨0,x,rfl,rfl,by assumption⟩
   ·obtain ⟨n,y,h1,h2,h3⟩:=Wq h
    exact ⟨n+1,y,by simpa using h1,by simpa using h2,h3⟩
  ·obtain ⟨n,y,h1,h2,h3⟩:=Wq h
   exact ⟨n+1,y,by simpa using h1,by simpa using h2,h3⟩
theorem mem_live:∀ {c:List Addr} {S:Za} {a:Addr} {n:Nat} {x:Cell},c[n]? = some a→S[n]? = some x→x.alive=true→a ∈ live c S
 | [],_,_,_,_,h,_,_=>by simp at h
 | _ :: _,[],_,_,_,_,h,_=>by simp at h
 | b :: c,y :: S,a,0,x,h1,h2,h3=>by
  simp at h1 h2; subst h1; subst h2
  unfold live; rw [if_pos h3]; exact List.mem_cons_self
 | b :: c,y :: S,a,n+1,x,h1,h2,h3=>by
  have:=mem_live (n:=n) (by simpa using h1) (by simpa using h2) h3
  unfold live; split
  ·exact List.mem_cons_of_mem _ this
  ·exact this
theorem live_inj:∀ {c:List Addr} {S:Za} {a:Addr} {n m:Nat} {x y:Cell},(live c S).Nodup→c[n]? = some a→S[n]? = some x→x.alive=true→c[m]? = some a→S[m]? = some y→y.alive=true→n=m
 | [],_,_,_,_,_,_,_,h,_,_,_,_,_=>by simp at h
 | _ :: _,[],_,_,_,_,_,_,_,h,_,_,_,_=>by simp at h
 | b :: c,z :: S,a,n,m,x,y,nd,h1,h2,h3,h4,h5,h6=>by
  have key:∀ {k:Nat} {u:Cell},(b :: c)[k+1]? = some a→(z :: S)[k+1]? = some u→u.alive=true→a ∈ live c S:=fun q1 q2 q3=>mem_live (by simpa using q1) (by simpa using q2) q3
  cases n with
  | zero=>
   cases m with
   | zero=>rfl
   | succ m=>
    exfalso
    simp at h1 h2; subst h1; subst h2
    have:=key h4 h5 h6
    unfold live at nd
    rw [if_pos h3] at nd
    exact (List.nodup_cons.mp nd).1 this
  | succ n=>
   cases m with
   | zero=>
    exfalso
    simp at h4 h5; subst h4; subst h5
    have:=key h1 h2 h3
    unfold live at nd
    rw [if_pos h6] at nd
    exact (List.nodup_cons.mp nd).1 this
   | succ m=>
    have nd':(live c S).Nodup:=by
     unfold live at nd
     split at nd
     ·exact (List.nodup_cons.mp nd).2
     ·exact nd
    rw [live_inj (n:=n) (m:=m) nd' (by simpa using h1) (by simpa using h2) h3 (by simpa using h4) (by simpa using h5) h6]
theorem Qz:∀ {c:List Addr} {S:Za} {n:Nat} {x y:Cell},S[n]? = some x→x.alive=y.alive→live c (S.set n y)=live c S
 | [],S,n,x,y,_,_=>by cases S <;> simp [live] <;> (cases n <;> simp [live])
 | _ :: _,[],_,_,_,h,_=>by simp at h
 | b :: c,z :: S,0,x,y,h,e=>by
  simp at h; subst h
  simp only [List.set_cons_zero,live,e]
 | b :: c,z :: S,n+1,x,y,h,e=>by
  simp only [List.set_cons_succ,live]
  rw [Qz (by simpa using h) e]
theorem Ut:∀ {c:List Addr} {S:Za} (p:Addr) (x:Cell),c.length=S.length→live (c++[p]) (S++[x])=live c S++(if x.alive then [p] else [])
 | [],[],p,x,_=>by simp [live]
 | b :: c,z :: S,p,x,h=>by
  have ih:=Ut (c:=c) (S:=S) p x (by simpa using h)
  simp only [List.cons_append,live]
  rw [ih]
  split <;> rfl
 | [],_ :: _,_,_,h=>by simp at h
 | _ :: _,[],_,_,h=>by simp at h
def Ya (g:G) (F:Hp) (c:List Addr) (H:Hp) (a:Addr):Cell→Prop
 | .lst xs=>∃ vs,H a=some (.lst vs)∧Vls g F c vs xs
 | .dct kvs=>∃ ws,H a=some (.dK ws)∧VKv g F c ws kvs
 | .ins C fs=>∃ Ca dx ws,g.mg C=some (.ref Ca)∧H a=some (.ins Ca dx ws)∧VFs g F c ws fs
 | .fz d=>Val g F c (.ref a) d
 | .dead=>True
 | .kct kvs=>∃ xs,H a=some (KdO g.P g.w a xs)∧VKb g F c xs kvs
 | .tbl q=>∃ ps:Array Value,H a=some (.tbl ps)∧TriplesOk ps.toList∧∀ (pos:Pos) (cv:Value),codeAmong pos ps.toList=some cv→∃ k,cv = .ref k∧F k=some (LamX.CodeO k q)
def K4 (g:G) (F:Hp) (c:List Addr) (u:Value) (o:Option Addr) (C:Str) (fs:List (Str × D)):Prop:=
 ∃ Ca,g.mg C=some (.ref Ca)∧u = .ref Ca∧((fs=[]∧o=none)∨∃ d ws,o=some d∧F d=some (.xd ws)∧VFs g F c ws fs)
theorem K4.mono {g:G} {F F':Hp} {c c':List Addr} {u:Value} {o:Option Addr} {C:Str} {fs:List (Str × D)} (e:Ex F F') (p:Pre c c') (h:K4 g F c u o C fs):K4 g F' c' u o C fs:=by
 obtain ⟨Ca,h1,h2,h3⟩:=h
 refine ⟨Ca,h1,h2,h3.imp id fun ⟨d,ws,q1,q2,q3⟩=>⟨d,ws,q1,e _ _ q2,q3.mono e p⟩⟩
def KY (g:G) (F:Hp) (c:List Addr) (l:LamQ):Prop:=(∀ p ∈ l.kn,F p.1=some p.2)∧Vls g F c l.ws l.cs
theorem KY.mono {g:G} {F F':Hp} {c c':List Addr} {l:LamQ} (e:Ex F F') (p:Pre c c') (h:KY g F c l):KY g F' c' l:=⟨fun q hq=>e _ _ (h.1 q hq),h.2.mono e p⟩
def Zbc (g:G) (F:Hp) (c:List Addr) (q:CuE):Prop:=(q.er=true→c[q.n]? = some q.a∧K4 g F c q.u q.o q.C q.fs)∧∀ l,q.lam=some l→KY g F c l
theorem Zbc.mono {g:G} {F F':Hp} {c c':List Addr} {q:CuE} (e:Ex F F') (p:Pre c c') (h:Zbc g F c q):Zbc g F' c' q:=⟨fun z=>⟨p _ _ (h.1 z).1,(h.1 z).2.mono e p⟩,fun l z=>(h.2 l z).mono e p⟩
structure Rep (g:G) (c:List Addr) (S:Za) (H:Hp):Prop where
 len:c.length=S.length
 nd:(live c S).Nodup
 hl:∀ a ∈ live c S,a ∉ g.hid
 hs:∀ a ∈ g.hid,∃ o,H a=some o
 cu:∀ q,g.cur=some q→Zbc g (frz g c S H) c q
 tb:∀ p ∈ tabsOf g.K,∃ n:Nat,c[n]? = some p.1∧S[n]? = some (Cell.tbl p.2)
 ok:∀ (n:Nat) (a:Addr) (x:Cell),c[n]? = some a→S[n]? = some x→Ya g (frz g c S H) c H a x
structure Fut (g:G) (c:List Addr) (S:Za) (H:Hp) (c':List Addr) (S':Za) (H':Hp):Prop where
 pre:Pre c c'
 rep:Rep g c' S' H'
 ex:Ex (frz g c S H) (frz g c' S' H')
 hid:∀ a ∈ g.hid,H' a=H a
theorem Fut.refl {g:G} {c:List Addr} {S:Za} {H:Hp} (r:Rep g c S H):Fut g c S H c S H:=⟨Pre.refl c,r,Evl.Ex.refl _,fun _ _=>rfl⟩
theorem Fut.trans {g:G} {c c1 c2:List Addr} {S S1 S2:Za} {H H1 H2:Hp} (a:Fut g c S H c1 S1 H1) (b:Fut g c1 S1 H1 c2 S2 H2):Fut g c S H c2 S2 H2:=
 ⟨a.pre.trans b.pre,b.rep,a.ex.trans b.ex,fun x hx=>(b.hid x hx).trans (a.hid x hx)⟩
theorem Fut.val {g:G} {c c':List Addr} {S S':Za} {H H':Hp} {v:V} {d:D} (f:Fut g c S H c' S' H') (h:Val g (frz g c S H) c v d):Val g (frz g c' S' H') c' v d:=h.mono f.ex f.pre
theorem Fut.vls {g:G} {c c':List Addr} {S S':Za} {H H':Hp} {v:List V} {d:List D} (f:Fut g c S H c' S' H') (h:Vls g (frz g c S H) c v d):Vls g (frz g c' S' H') c' v d:=h.mono f.ex f.pre
theorem Yr {g:G} {c:List Addr} {S:Za} {H:Hp} {a:Addr} (r:Rep g c S H) (h:a ∈ live c S):∃ o,H a=some o:=by
 obtain ⟨n,x,h1,h2,h3⟩:=Wq h
 have ok:=r.ok n a x h1 h2
 cases x with
 | lst xs=>obtain ⟨vs,e,_⟩:=ok; exact ⟨_,e⟩
 | dct xs=>obtain ⟨vs,e,_⟩:=ok; exact ⟨_,e⟩
 | kct xs=>obtain ⟨vs,e,_⟩:=ok; exact ⟨_,e⟩
 | tbl q=>obtain ⟨vs,e,_⟩:=ok; exact ⟨_,e⟩
 | ins C fs=>obtain ⟨_,_,_,_,e,_⟩:=ok; exact ⟨_,e⟩
 | fz d=>cases h3
 | dead=>cases h3
theorem Fut.new {g:G} {c:List Addr} {S:Za} {H:Hp} {p:Addr} {o:HO} (r:Rep g c S H) (hp:H p=none):Fut g c S H c S (upd H p o):=by
 have np:p ∉ live c S:=fun z=>by
  obtain ⟨o,e⟩:=Yr r z
  rw [hp] at e; cases e
 have ex:Ex (frz g c S H) (frz g c S (upd H p o)):=fun a u h=>by
  obtain ⟨h1,h2,h3⟩:=frz_of h
  rw [frz_in h2 h3,upd_ne (ne_of_none h1 hp)]
  exact h1
 have nh:∀ a ∈ g.hid,a ≠ p:=fun a ha z=>by
  obtain ⟨o,e⟩:=r.hs a ha
  rw [z,hp] at e; cases e
 refine ⟨Pre.refl c,⟨r.len,r.nd,r.hl,fun a ha=>by rw [upd_ne (nh a ha)]; exact r.hs a ha,fun q e=>(r.cu q e).mono ex (Pre.refl c),r.tb,fun n a x h1 h2=>?_⟩,ex,fun a ha=>upd_ne (nh a ha)⟩
 have ok:=r.ok n a x h1 h2
 cases x with
 | lst xs=>obtain ⟨vs,e,h⟩:=ok; exact ⟨vs,by rw [upd_ne (ne_of_none e hp)]; exact e,h.mono ex (Pre.refl c)⟩
 | dct xs=>obtain ⟨vs,e,h⟩:=ok; exact ⟨vs,by rw [upd_ne (ne_of_none e hp)]; exact e,h.mono ex (Pre.refl c)⟩
 | kct xs=>obtain ⟨vs,e,h⟩:=ok; exact ⟨vs,by rw [upd_ne (ne_of_none e hp)]; exact e,h.mono ex (Pre.refl c)⟩
 | tbl n=>obtain ⟨vs,e,h1,h2⟩:=ok; exact ⟨vs,by rw [upd_ne (ne_of_none e hp)]; exact e,h1,fun a b h=>(h2 a b h).imp fun k z=>⟨z.1,ex _ _ z.2⟩⟩
 | ins C fs=>obtain ⟨Ca,dx,ws,m,e,h⟩:=ok; exact ⟨Ca,dx,ws,m,by rw [upd_ne (ne_of_none e hp)]; exact e,h.mono ex (Pre.refl c)⟩
 | fz d=>exact Val.mono ex (Pre.refl c) ok
 | dead=>trivial
theorem Fut.frz_new {g:G} {c:List Addr} {S:Za} {H:Hp} {p:Addr} {o:HO} (r:Rep g c S H) (hp:H p=none):frz g c S (upd H p o) p=some o:=by
 have np:p ∉ live c S:=fun z=>by
  obtain ⟨o,e⟩:=Yr r z
  rw [hp] at e; cases e
 have nh:p ∉ g.hid:=fun z=>by
  obtain ⟨o,e⟩:=r.hs p z
  rw [hp] at e; cases e
 rw [frz_in np nh,upd_same]
theorem Zew {c d:List Addr} {S Z:Za} {a:Addr} {q:Str} (h:∃ n:Nat,c[n]? = some a∧S[n]? = some (Cell.tbl q)):∃ n:Nat,(c++d)[n]? = some a∧(S++Z)[n]? = some (Cell.tbl q):=by
 obtain ⟨n,h1,h2⟩:=h
 exact ⟨n,by rw [List.getElem?_append_left (List.getElem?_eq_some_iff.mp h1).1]; exact h1,by rw [List.getElem?_append_left (List.getElem?_eq_some_iff.mp h2).1]; exact h2⟩
theorem QS {c:List Addr} {S:Za} {m:Nat} {x y:Cell} {a:Addr} {q:Str} (hs:S[m]? = some x) (nt:∀ q,x ≠ .tbl q) (h:∃ n:Nat,c[n]? = some a∧S[n]? = some (Cell.tbl q)):∃ n:Nat,c[n]? = some a∧(S.set m y)[n]? = some (Cell.tbl q):=by
 obtain ⟨n,h1,h2⟩:=h
 refine ⟨n,h1,?_⟩
 rw [List.getElem?_set_ne (fun e=>nt q (by rw [e,h2] at hs; exact (Option.some.inj hs).symm))]
 exact h2
theorem Fut.cell {g:G} {c:List Addr} {S:Za} {H:Hp} {p:Addr} {o:HO} {x:Cell} (r:Rep g c S H) (hp:H p=none) (hx:x.alive=true)
  (ok:Ya g (frz g c S H) c (upd H p o) p x):Fut g c S H (c++[p]) (S++[x]) (upd H p o):=by
 have np:p ∉ live c S:=fun z=>by
  obtain ⟨o,e⟩:=Yr r z
  rw [hp] at e; cases e
 have lv:live (c++[p]) (S++[x])=live c S++[p]:=by rw [Ut p x r.len,if_pos hx]
 have nh:∀ a ∈ g.hid,a ≠ p:=fun a ha z=>by
  obtain ⟨o,e⟩:=r.hs a ha
  rw [z,hp] at e; cases e
 have nhp:p ∉ g.hid:=fun z=>nh p z rfl
 have ef:frz g (c++[p]) (S++[x]) (upd H p o)=frz g c S H:=by
  funext a
  by_cases h:a=p
  ·subst h
   rw [ZM (by rw [lv]; exact List.mem_append_right _ (List.mem_singleton.mpr rfl)),frz_in np nhp,hp]
  ·by_cases q:a ∈ live c S
   ·rw [ZM (by rw [lv]; exact List.mem_append_left _ q),ZM q]
   ·by_cases q2:a ∈ g.hid
    ·rw [ZJ q2,ZJ q2]
    ·rw [frz_in q q2,frz_in (by rw [lv]; exact fun z=>(List.mem_append.mp z).elim q fun z=>h (List.mem_singleton.mp z)) q2,upd_ne h]
 have pre:=Pre.snoc c p
 have exr:Ex (frz g c S H) (frz g c S H):=Evl.Ex.refl _
 refine ⟨pre,⟨by simp [r.len],?_,fun a ha=>?_,fun a ha=>by rw [upd_ne (nh a ha)]; exact r.hs a ha,fun q e=>by rw [ef]; exact (r.cu q e).mono exr pre,fun p hp=>Zew (r.tb p hp),fun n a y h1 h2=>?_⟩,by rw [ef]; exact exr,fun a ha=>upd_ne (nh a ha)⟩
 ·rw [lv]
  exact List.nodup_append.mpr ⟨r.nd,by simp,fun a ha b hb=>by
   rw [List.mem_singleton.mp hb]; intro z; subst z; exact np ha⟩
 ·rw [lv] at ha
  rcases List.mem_append.mp ha with z | z
  ·exact r.hl a z
  ·rw [List.mem_singleton.mp z]; exact nhp
 ·rw [ef]
  rcases Nat.lt_or_ge n c.length with q | q
  ·rw [List.getElem?_append_left q] at h1
   rw [List.getElem?_append_left (by rw [← r.len]; exact q)] at h2
   have ok':=r.ok n a y h1 h2
   cases y with
   | lst xs=>obtain ⟨vs,e,h⟩:=ok'; exact ⟨vs,by rw [upd_ne (ne_of_none e hp)]; exact e,h.mono exr pre⟩
   | dct xs=>obtain ⟨vs,e,h⟩:=ok'; exact ⟨vs,by rw [upd_ne (ne_of_none e hp)]; exact e,h.mono exr pre⟩
   | kct xs=>obtain ⟨vs,e,h⟩:=ok'; exact ⟨vs,by rw [upd_ne (ne_of_none e hp)]; exact e,h.mono exr pre⟩
   | tbl n=>obtain ⟨vs,e,h1,h2⟩:=ok'; exact ⟨vs,by rw [upd_ne (ne_of_none e hp)]; exact e,h1,fun a b h=>(h2 a b h).imp fun k z=>⟨z.1,exr _ _ z.2⟩⟩
   | ins C fs=>obtain ⟨Ca,dx,ws,m,e,h⟩:=ok'; exact ⟨Ca,dx,ws,m,by rw [upd_ne (ne_of_none e hp)]; exact e,h.mono exr pre⟩
   | fz d=>exact Val.mono exr pre ok'
   | dead=>trivial
  ·have hn:n=c.length:=by
    rcases Nat.eq_or_lt_of_le q with z | z
    ·exact z.symm
    ·rw [List.getElem?_eq_none (by simp; omega)] at h1; cases h1
   subst hn
   simp at h1
   rw [r.len] at h2
   simp at h2
   subst h1 h2
   cases x with
   | lst xs=>obtain ⟨vs,e,h⟩:=ok; exact ⟨vs,e,h.mono exr pre⟩
   | dct xs=>obtain ⟨vs,e,h⟩:=ok; exact ⟨vs,e,h.mono exr pre⟩
   | kct xs=>obtain ⟨vs,e,h⟩:=ok; exact ⟨vs,e,h.mono exr pre⟩
   | tbl n=>obtain ⟨vs,e,h1,h2⟩:=ok; exact ⟨vs,e,h1,fun a b h=>(h2 a b h).imp fun k z=>⟨z.1,exr _ _ z.2⟩⟩
   | ins C fs=>obtain ⟨Ca,dx,ws,m,e,h⟩:=ok; exact ⟨Ca,dx,ws,m,e,h.mono exr pre⟩
   | fz d=>cases hx
   | dead=>cases hx
theorem Fut.put {g:G} {c:List Addr} {S:Za} {H:Hp} {n:Nat} {a:Addr} {o:HO} {x y:Cell} (r:Rep g c S H) (ha:c[n]? = some a) (hs:S[n]? = some x) (hx:x.alive=true) (hy:y.alive=true)
  (ok:Ya g (frz g c S H) c (upd H a o) a y) (nt:∀ q,x ≠ .tbl q:=by intro _ z; cases z):Fut g c S H c (S.set n y) (upd H a o):=by
 have lv:live c (S.set n y)=live c S:=Qz hs (by rw [hx,hy])
 have hm:=mem_live ha hs hx
 have ef:frz g c (S.set n y) (upd H a o)=frz g c S H:=by
  funext b
  by_cases q:b ∈ live c S
  ·rw [ZM (by rw [lv]; exact q),ZM q]
  ·by_cases q2:b ∈ g.hid
   ·rw [ZJ q2,ZJ q2]
   ·rw [frz_in (by rw [lv]; exact q) q2,frz_in q q2,upd_ne (fun z:b=a=>q (by rw [z]; exact hm))]
 have nh:∀ b ∈ g.hid,b ≠ a:=fun b hb z=>r.hl a hm (z ▸ hb)
 refine ⟨Pre.refl c,⟨by simp [r.len],by rw [lv]; exact r.nd,by rw [lv]; exact r.hl,fun b hb=>by rw [upd_ne (nh b hb)]; exact r.hs b hb,fun q e=>by rw [ef]; exact r.cu q e,fun p hp=>QS hs nt (r.tb p hp),fun m b z h1 h2=>?_⟩,by rw [ef]; exact Evl.Ex.refl _,fun b hb=>upd_ne (nh b hb)⟩
 rw [ef]
 by_cases e:m=n
 ·subst e
  rw [ha] at h1; cases h1
  have hl:m < S.length:=by
   rcases Nat.lt_or_ge m S.length with q | q
   ·exact q
   ·rw [List.getElem?_eq_none q] at hs; cases hs
  rw [List.getElem?_set_self hl] at h2; cases h2
  exact ok
 ·rw [List.getElem?_set_ne (Ne.symm e)] at h2
  have ok':=r.ok m b z h1 h2
  have ne:z.alive=true→b ≠ a:=fun hz q=>by
   subst q
   exact e (live_inj r.nd h1 h2 hz ha hs hx)
  cases z with
  | lst xs=>obtain ⟨vs,e,h⟩:=ok'; exact ⟨vs,by rw [upd_ne (ne rfl)]; exact e,h⟩
  | dct xs=>obtain ⟨vs,e,h⟩:=ok'; exact ⟨vs,by rw [upd_ne (ne rfl)]; exact e,h⟩
  | kct xs=>obtain ⟨vs,e,h⟩:=ok'; exact ⟨vs,by rw [upd_ne (ne rfl)]; exact e,h⟩
  | tbl n=>obtain ⟨vs,e,h1⟩:=ok'; exact ⟨vs,by rw [upd_ne (ne rfl)]; exact e,h1⟩
  | ins C fs=>obtain ⟨Ca,dx,ws,m,e,h⟩:=ok'; exact ⟨Ca,dx,ws,m,by rw [upd_ne (ne rfl)]; exact e,h⟩
  | fz d=>exact ok'
  | dead=>trivial
theorem QA:∀ {c:List Addr} {S:Za} {n:Nat} {y:Cell},y.alive=false→(live c (S.set n y)).Sublist (live c S)
 | [],S,n,y,_=>by cases S <;> (cases n <;> simp [live])
 | _ :: _,[],n,y,_=>by cases n <;> simp [live]
 | b :: c,z :: S,0,y,h=>by
  simp only [List.set_cons_zero,live,h]
  rw [if_neg Bool.false_ne_true]
  split
  ·exact List.Sublist.cons _ (List.Sublist.refl _)
  ·exact List.Sublist.refl _
 | b :: c,z :: S,n+1,y,h=>by
  simp only [List.set_cons_succ,live]
  have ih:=QA (c:=c) (S:=S) (n:=n) h
  split
  ·exact List.Sublist.cons₂ _ ih
  ·exact ih
theorem Fut.fix {g:G} {c:List Addr} {S:Za} {H:Hp} {n:Nat} {a:Addr} {x:Cell} {d:D} (r:Rep g c S H) (ha:c[n]? = some a) (hs:S[n]? = some x) (hx:x.alive=true)
  (ok:∀ F,Ex (frz g c S H) F→F a=H a→Val g F c (.ref a) d) (nt:∀ q,x ≠ .tbl q:=by intro _ z; cases z):Fut g c S H c (S.set n (.fz d)) H∧Val g (frz g c (S.set n (.fz d)) H) c (.ref a) d:=by
 have sub:(live c (S.set n (.fz d))).Sublist (live c S):=QA rfl
 have ex:Ex (frz g c S H) (frz g c (S.set n (.fz d)) H):=fun b o h=>by
  obtain ⟨h1,h2,h3⟩:=frz_of h
  rw [frz_in (fun z=>h2 (sub.subset z)) h3]; exact h1
 have hl:n < S.length:=by
  rcases Nat.lt_or_ge n S.length with q | q
  ·exact q
  ·rw [List.getElem?_eq_none q] at hs; cases hs
 have na:a ∉ live c (S.set n (.fz d)):=fun z=>by
  obtain ⟨m,y,h1,h2,h3⟩:=Wq z
  by_cases e:m=n
  ·subst e
   rw [List.getElem?_set_self hl] at h2; cases h2; cases h3
  ·rw [List.getElem?_set_ne (Ne.symm e)] at h2
   exact e (live_inj r.nd h1 h2 h3 ha hs hx)
 have hv:Val g (frz g c (S.set n (.fz d)) H) c (.ref a) d:=ok _ ex (frz_in na (r.hl a (mem_live ha hs hx)))
 refine ⟨⟨Pre.refl c,⟨by simp [r.len],r.nd.sublist sub,fun b hb=>r.hl b (sub.subset hb),r.hs,fun q e=>(r.cu q e).mono ex (Pre.refl c),fun p hp=>QS hs nt (r.tb p hp),fun m b z h1 h2=>?_⟩,ex,fun _ _=>rfl⟩,hv⟩
 by_cases e:m=n
 ·subst e
  rw [ha] at h1; cases h1
  rw [List.getElem?_set_self hl] at h2; cases h2
  exact hv
 ·rw [List.getElem?_set_ne (Ne.symm e)] at h2
  have ok':=r.ok m b z h1 h2
  cases z with
  | lst xs=>obtain ⟨vs,e,h⟩:=ok'; exact ⟨vs,e,h.mono ex (Pre.refl c)⟩
  | dct xs=>obtain ⟨vs,e,h⟩:=ok'; exact ⟨vs,e,h.mono ex (Pre.refl c)⟩
  | kct xs=>obtain ⟨vs,e,h⟩:=ok'; exact ⟨vs,e,h.mono ex (Pre.refl c)⟩
  | tbl n=>obtain ⟨vs,e,h1,h2⟩:=ok'; exact ⟨vs,e,h1,fun a b h=>(h2 a b h).imp fun k z=>⟨z.1,ex _ _ z.2⟩⟩
  | ins C fs=>obtain ⟨Ca,dx,ws,m,e,h⟩:=ok'; exact ⟨Ca,dx,ws,m,e,h.mono ex (Pre.refl c)⟩
  | fz d=>exact Val.mono ex (Pre.refl c) ok'
  | dead=>trivial
def G.hide (g:G) (p:Addr):G:={ g with hid:=p :: g.hid }
section
variable {g g':G} {F:Hp} {c:List Addr}
def Zu (g g':G):Prop:=g.K=g'.K∧g.mg=g'.mg∧g.P=g'.P∧g.w=g'.w
theorem Zu.hide (g:G) (p:Addr):Zu g (g.hide p):=⟨rfl,rfl,rfl,rfl⟩
theorem Zu.symm (h:Zu g g'):Zu g' g:=⟨h.1.symm,h.2.1.symm,h.2.2.1.symm,h.2.2.2.symm⟩
mutual
theorem Val.same (e:Zu g g'):∀ {v:V} {d:D},Val g F c v d→Val g' F c v d
 | _,_,.non=>.non
 | _,_,.bl b=>.bl b
 | _,_,.int i=>.int i
 | _,_,.str h=>.str h
 | _,_,.lst s h=>.lst s (Vls.same e h)
 | _,_,.rol s h=>.rol (by rw [← e.1]; exact s) (Vls.same e h)
 | _,_,.set n s=>.set n (by rw [← e.2.2.1,← e.2.2.2]; exact s)
 | _,_,.tup s h=>.tup (by rw [← e.1]; exact s) (Vls.same e h)
 | _,_,.tpo s h=>.tpo (by rw [← e.1]; exact s) (Vls.same e h)
 | _,_,.dct s h=>.dct s (VKv.same e h)
 | _,_,.obj m s h=>.obj (by rw [← e.2.1]; exact m) s (VFs.same e h)
 | _,_,.cel h=>.cel h
 | _,_,.fn h=>.fn (by rw [← e.2.1]; exact h)
 | _,_,.ty n=>.ty n
 | _,_,.rdc s h=>.rdc s (VKv.same e h)
 | _,_,.kdc s h=>.kdc (by rw [← e.2.2.1,← e.2.2.2]; exact s) (VKb.same e h)
theorem Vls.same (e:Zu g g'):∀ {vs:List V} {xs:List D},Vls g F c vs xs→Vls g' F c vs xs
 | _,_,.nil=>.nil
 | _,_,.cons h t=>.cons (Val.same e h) (Vls.same e t)
theorem VKv.same (e:Zu g g'):∀ {vs:List (Key × V)} {xs:List (Key × D)},VKv g F c vs xs→VKv g' F c vs xs
 | _,_,.nil=>.nil
 | _,_,.cons h t=>.cons (Val.same e h) (VKv.same e t)
theorem VKb.same (e:Zu g g'):∀ {vs:List (List Bool × Addr × Value)} {xs:List (List Bool × D)},VKb g F c vs xs→VKb g' F c vs xs
 | _,_,.nil=>.nil
 | _,_,.cons s r h t=>.cons (by rw [← e.1]; exact s) r (Val.same e h) (VKb.same e t)
theorem VFs.same (e:Zu g g'):∀ {vs:List (Str × V)} {xs:List (Str × D)},VFs g F c vs xs→VFs g' F c vs xs
 | _,_,.nil=>.nil
 | _,_,.cons h t=>.cons (Val.same e h) (VFs.same e t)
end
theorem K4.same {u:Value} {o:Option Addr} {C:Str} {fs:List (Str × D)} (e:Zu g g') (h:K4 g F c u o C fs):K4 g' F c u o C fs:=by
 obtain ⟨Ca,h1,h2,h3⟩:=h
 exact ⟨Ca,by rw [← e.2.1]; exact h1,h2,h3.imp id fun ⟨d,ws,q1,q2,q3⟩=>⟨d,ws,q1,q2,q3.same e⟩⟩
theorem Zbc.same {q:CuE} (e:Zu g g') (h:Zbc g F c q):Zbc g' F c q:=⟨fun z=>⟨(h.1 z).1,(h.1 z).2.same e⟩,fun l z=>⟨(h.2 l z).1,(h.2 l z).2.same e⟩⟩
theorem Ya.same (e:Zu g g') {H:Hp} {a:Addr} {x:Cell} (h:Ya g F c H a x):Ya g' F c H a x:=by
 cases x with
 | lst xs=>obtain ⟨vs,q,h⟩:=h; exact ⟨vs,q,h.same e⟩
 | dct xs=>obtain ⟨vs,q,h⟩:=h; exact ⟨vs,q,h.same e⟩
 | kct xs=>obtain ⟨vs,q,h⟩:=h; exact ⟨vs,by rw [← e.2.2.1,← e.2.2.2]; exact q,h.same e⟩
 | tbl n=>exact h
 | ins C fs=>obtain ⟨Ca,dx,ws,m,q,h⟩:=h; exact ⟨Ca,dx,ws,by rw [← e.2.1]; exact m,q,h.same e⟩
 | fz d=>exact Val.same e h
 | dead=>trivial
theorem Ya.mono {F':Hp} {c':List Addr} {H:Hp} {a:Addr} {x:Cell} (e:Ex F F') (p:Pre c c') (h:Ya g F c H a x):Ya g F' c' H a x:=by
 cases x with
 | lst xs=>obtain ⟨vs,q,h⟩:=h; exact ⟨vs,q,h.mono e p⟩
 | dct xs=>obtain ⟨vs,q,h⟩:=h; exact ⟨vs,q,h.mono e p⟩
 | kct xs=>obtain ⟨vs,q,h⟩:=h; exact ⟨vs,q,h.mono e p⟩
 | tbl n=>obtain ⟨vs,q,h1,h2⟩:=h; exact ⟨vs,q,h1,fun a b h=>(h2 a b h).imp fun k z=>⟨z.1,e _ _ z.2⟩⟩
 | ins C fs=>obtain ⟨Ca,dx,ws,m,q,h⟩:=h; exact ⟨Ca,dx,ws,m,q,h.mono e p⟩
 | fz d=>exact Val.mono e p h
 | dead=>trivial
theorem Ya.at {H H':Hp} {a:Addr} {x:Cell} (e:x.alive=true→H' a=H a) (h:Ya g F c H a x):Ya g F c H' a x:=by
 cases x with
 | lst xs=>obtain ⟨vs,q,h⟩:=h; exact ⟨vs,(e rfl).trans q,h⟩
 | dct xs=>obtain ⟨vs,q,h⟩:=h; exact ⟨vs,(e rfl).trans q,h⟩
 | kct xs=>obtain ⟨vs,q,h⟩:=h; exact ⟨vs,(e rfl).trans q,h⟩
 | tbl n=>obtain ⟨vs,q,h⟩:=h; exact ⟨vs,(e rfl).trans q,h⟩
 | ins C fs=>obtain ⟨Ca,dx,ws,m,q,h⟩:=h; exact ⟨Ca,dx,ws,m,(e rfl).trans q,h⟩
 | fz d=>exact h
 | dead=>trivial
variable {S:Za} {H:Hp} {p:Addr} {o:HO}
theorem Rep.hide (r:Rep g c S H) (hp:H p=none):Rep (g.hide p) c S (upd H p o)∧frz (g.hide p) c S (upd H p o)=frz g c S H:=by
 have np:p ∉ live c S:=fun z=>by
  obtain ⟨o,e⟩:=Yr r z
  rw [hp] at e; cases e
 have ef:frz (g.hide p) c S (upd H p o)=frz g c S H:=by
  funext a
  by_cases q:a ∈ live c S
  ·rw [ZM q,ZM q]
  ·by_cases q1:a=p
   ·subst q1
    rw [ZJ (show a ∈ a :: g.hid from List.mem_cons_self)]
    by_cases q2:a ∈ g.hid
    ·rw [ZJ q2]
    ·rw [frz_in q q2,hp]
   ·by_cases q2:a ∈ g.hid
    ·rw [ZJ q2,ZJ (show a ∈ p :: g.hid from List.mem_cons_of_mem _ q2)]
    ·rw [frz_in q q2,frz_in q (show a ∉ p :: g.hid from fun z=>(List.mem_cons.mp z).elim q1 q2),upd_ne q1]
 refine ⟨⟨r.len,r.nd,fun a ha=>?_,fun a ha=>?_,fun q e=>by rw [ef]; exact (r.cu q e).same (Zu.hide g p),r.tb,fun n a x h1 h2=>?_⟩,ef⟩
 ·exact fun z=>(List.mem_cons.mp (show a ∈ p :: g.hid from z)).elim (fun e=>np (e ▸ ha)) (r.hl a ha)
 ·rcases List.mem_cons.mp (show a ∈ p :: g.hid from ha) with e | z
  ·subst e; exact ⟨o,upd_same⟩
  ·obtain ⟨u,e⟩:=r.hs a z
   exact ⟨u,by rw [upd_ne (ne_of_none e hp)]; exact e⟩
 ·rw [ef]
  refine ((r.ok n a x h1 h2).same (Zu.hide g p)).at fun hx=>upd_ne fun e=>?_
  subst e
  exact np (mem_live h1 h2 hx)
theorem Rep.hput (r:Rep (g.hide p) c S H):Rep (g.hide p) c S (upd H p o)∧frz (g.hide p) c S (upd H p o)=frz (g.hide p) c S H:=by
 have hm:p ∈ (g.hide p).hid:=List.mem_cons_self
 have ef:frz (g.hide p) c S (upd H p o)=frz (g.hide p) c S H:=by
  funext a
  by_cases q:a ∈ live c S
  ·rw [ZM q,ZM q]
  ·by_cases q2:a ∈ (g.hide p).hid
   ·rw [ZJ q2,ZJ q2]
   ·rw [frz_in q q2,frz_in q q2,upd_ne (fun e=>q2 (by rw [e]; exact hm))]
 refine ⟨⟨r.len,r.nd,r.hl,fun a ha=>?_,fun q e=>by rw [ef]; exact r.cu q e,r.tb,fun n a x h1 h2=>?_⟩,ef⟩
 ·by_cases e:a=p
  ·subst e; exact ⟨o,upd_same⟩
  ·rw [upd_ne e]; exact r.hs a ha
 ·rw [ef]
  refine (r.ok n a x h1 h2).at fun hx=>upd_ne fun e=>?_
  subst e
  exact r.hl a (mem_live h1 h2 hx) hm
theorem Rep.bare (r:Rep (g.hide p) c S H):Rep g c S H∧Ex (frz (g.hide p) c S H) (frz g c S H)∧(p ∉ g.hid→frz g c S H p=H p):=by
 have hm:p ∈ (g.hide p).hid:=List.mem_cons_self
 have ex:Ex (frz (g.hide p) c S H) (frz g c S H):=fun a o h=>by
  obtain ⟨h1,h2,h3⟩:=frz_of h
  rw [frz_in h2 (fun z=>h3 (show a ∈ p :: g.hid from List.mem_cons_of_mem _ z))]
  exact h1
 refine ⟨⟨r.len,r.nd,fun a ha z=>r.hl a ha (show a ∈ p :: g.hid from List.mem_cons_of_mem _ z),fun a ha=>r.hs a (show a ∈ p :: g.hid from List.mem_cons_of_mem _ ha),fun q e=>((r.cu q e).same (Zu.hide g p).symm).mono ex (Pre.refl c),r.tb,fun n a x h1 h2=>?_⟩,ex,fun h=>?_⟩
 ·exact ((r.ok n a x h1 h2).same (Zu.hide g p).symm).mono ex (Pre.refl c)
 ·exact frz_in (fun z=>r.hl p z hm) h
end
inductive Res (α:Type) where
 | ok (a:α) (S:Za) | err (C:Str) (fs:List (Str × D)) (S:Za) | bad
def M (α:Type):Type:=Za→Res α
def M.ret {α:Type} (a:α):M α:=fun S=>.ok a S
def M.bnd {α β:Type} (m:M α) (f:α→M β):M β:=fun S=>match m S with
 | .ok a S'=>f a S'
 | .err C fs S'=>.err C fs S'
 | .bad=>.bad
instance:Monad M where
 pure:=M.ret
 bind:=M.bnd
def M.no {α:Type}:M α:=fun _=>.bad
def okP (p:Prop):Bool:=@decide p (Classical.propDecidable p)
@[simp] theorem VS {p:Prop}:(okP p=true)=p:=by
 unfold okP
 exact propext (@decide_eq_true_iff p (Classical.propDecidable p))
theorem okP_of {p:Prop} (h:okP p=true):p:=VS.mp h
def M.chk {α:Type} (b:Bool) (m:M α):M α:=fun S=>if b=true then m S else .bad
theorem Zy {α β:Type} (m:M α) (f:α→M β) (S:Za):(m >>= f) S=(match m S with
 | .ok a S'=>f a S'
 | .err C fs S'=>.err C fs S'
 | .bad=>.bad):=rfl
abbrev DSt:=List (Option D)
abbrev EM:=DSt→M D
abbrev TM:=DSt→M Bool
abbrev AM:=DSt→M (List D)
inductive Flow where
 | nx (σ:DSt) | rt (d:D) | bk (σ:DSt) | ct (σ:DSt)
inductive SRes where
 | ok (f:Flow) (S:Za) | err (C:Str) (fs:List (Str × D)) (σ:DSt) (S:Za) | bad
abbrev SM:=DSt→Za→SRes
def G.lamAt (g:G):Option Addr:=match g.cur with
 | some q=>q.lam.map (·.f)
 | none=>none
inductive Sl (g:G) (F:Hp) (c:List Addr):St→DSt→Prop
 | nil:Sl g F c [] []
 | un {x:Option V} {σ:St} {τ:DSt}:Sl g F c σ τ→Sl g F c (x :: σ) (none :: τ)
 | hs {v:V} {d:D} {σ:St} {τ:DSt}:Val g F c v d→Sl g F c σ τ→Sl g F c (some v :: σ) (some d :: τ)
 | cl {a:Addr} {σ:St} {τ:DSt}:g.lamAt=some a→Sl g F c σ τ→Sl g F c (some (.ref a) :: σ) (some .raw :: τ)
section
variable {g:G} {F F':Hp} {c c':List Addr} {σ:St} {τ:DSt}
theorem Sl.mono (e:Ex F F') (p:Pre c c') (h:Sl g F c σ τ):Sl g F' c' σ τ:=by
 induction h with
 | nil=>exact .nil
 | un _ ih=>exact .un ih
 | hs v _ ih=>exact .hs (v.mono e p) ih
 | cl z _ ih=>exact .cl z ih
theorem Sl.get (h:Sl g F c σ τ):∀ {i:Nat} {d:D},τ[i]? = some (some d)→d ≠ .raw→∃ v,σ[i]? = some (some v)∧Val g F c v d:=by
 induction h with
 | nil=>intro i d e; simp at e
 | un _ ih=>
  intro i d e nr
  cases i with
  | zero=>simp at e
  | succ i=>
   obtain ⟨v,h1,h2⟩:=ih (i:=i) (by simpa using e) nr
   exact ⟨v,by simpa using h1,h2⟩
 | hs v _ ih=>
  intro i d e nr
  cases i with
  | zero=>simp at e; subst e; exact ⟨_,rfl,v⟩
  | succ i=>
   obtain ⟨v,h1,h2⟩:=ih (i:=i) (by simpa using e) nr
   exact ⟨v,by simpa using h1,h2⟩
 | cl z _ ih=>
  intro i d e nr
  cases i with
  | zero=>simp at e; exact absurd e.symm nr
  | succ i=>
   obtain ⟨v,h1,h2⟩:=ih (i:=i) (by simpa using e) nr
   exact ⟨v,by simpa using h1,h2⟩
theorem Sl.getR (h:Sl g F c σ τ):∀ {i:Nat},τ[i]? = some (some .raw)→∃ a,g.lamAt=some a∧σ[i]? = some (some (.ref a)):=by
 induction h with
 | nil=>intro i e; simp at e
 | un _ ih=>
  intro i e
  cases i with
  | zero=>simp at e
  | succ i=>
   obtain ⟨v,h1,h2⟩:=ih (i:=i) (by simpa using e)
   exact ⟨v,h1,by simpa using h2⟩
 | hs v _ ih=>
  intro i e
  cases i with
  | zero=>simp at e; subst e; cases v
  | succ i=>
   obtain ⟨v,h1,h2⟩:=ih (i:=i) (by simpa using e)
   exact ⟨v,h1,by simpa using h2⟩
 | cl z _ ih=>
  intro i e
  cases i with
  | zero=>exact ⟨_,z,rfl⟩
  | succ i=>
   obtain ⟨v,h1,h2⟩:=ih (i:=i) (by simpa using e)
   exact ⟨v,h1,by simpa using h2⟩
theorem Sl.noraw (hl:g.lamAt=none) (h:Sl g F c σ τ) {i:Nat} {d:D} (e:τ[i]? = some (some d)):d ≠ .raw:=fun z=>by
 subst z
 obtain ⟨a,z,_⟩:=h.getR e
 rw [hl] at z; cases z
theorem Sl.set {v:V} {d:D} (h:Sl g F c σ τ) (hv:Val g F c v d):∀ (i:Nat),Sl g F c (σ.set i (some v)) (τ.set i (some d)):=by
 induction h with
 | nil=>intro i; cases i <;> exact .nil
 | un h ih=>
  intro i
  cases i with
  | zero=>exact .hs hv h
  | succ i=>exact .un (ih i)
 | hs v h ih=>
  intro i
  cases i with
  | zero=>exact .hs hv h
  | succ i=>exact .hs v (ih i)
 | cl z h ih=>
  intro i
  cases i with
  | zero=>exact .hs hv h
  | succ i=>exact .cl z (ih i)
theorem Sl.length (h:Sl g F c σ τ):σ.length=τ.length:=by
 induction h with
 | nil=>rfl
 | un _ ih=>simp [ih]
 | hs _ _ ih=>simp [ih]
 | cl _ _ ih=>simp [ih]
theorem Sl.forget (h:Sl g F c σ τ):∀ (i:Nat) (x:Option V),Sl g F c (σ.set i x) (τ.set i none):=by
 induction h with
 | nil=>intro i x; cases i <;> exact .nil
 | un h ih=>
  intro i x
  cases i with
  | zero=>exact .un h
  | succ i=>exact .un (ih i x)
 | hs v h ih=>
  intro i x
  cases i with
  | zero=>exact .un h
  | succ i=>exact .hs v (ih i x)
 | cl z h ih=>
  intro i x
  cases i with
  | zero=>exact .un h
  | succ i=>exact .cl z (ih i x)
end
def Out {α:Type} (g:G) (c:List Addr) (S:Za) (H:Hp) (R:α→List Addr→Za→Hp→Prop) (E:XK):Res α→Prop
 | .ok a S'=>∀ H' c',Fut g c S H c' S' H'→R a c' S' H'
 | .err C fs S'=>∀ u o H' c',Fut g c S H c' S' H'→K4 g (frz g c' S' H') c' u o C fs→E u o H'
 | .bad=>False
theorem Out.fut {α:Type} {g:G} {c c1:List Addr} {S S1:Za} {H H1:Hp} {R:α→List Addr→Za→Hp→Prop} {E:XK} {r:Res α} (f:Fut g c S H c1 S1 H1) (h:Out g c S H R E r):Out g c1 S1 H1 R E r:=by
 cases r with
 | ok a S'=>exact fun H' c' q=>h H' c' (f.trans q)
 | err C fs S'=>exact fun u o H' c' q=>h u o H' c' (f.trans q)
 | bad=>exact h
theorem Out.imp {α:Type} {g:G} {c:List Addr} {S:Za} {H:Hp} {R R':α→List Addr→Za→Hp→Prop} {E:XK} {r:Res α} (h:Out g c S H R E r) (k:∀ a c' S' H',Fut g c S H c' S' H'→R a c' S' H'→R' a c' S' H'):Out g c S H R' E r:=by
 cases r with
 | ok a S'=>exact fun H' c' q=>k a c' S' H' q (h H' c' q)
 | err C fs S'=>exact h
 | bad=>exact h
theorem Out.bind {α β:Type} {g:G} {c:List Addr} {S:Za} {H:Hp} {R:β→List Addr→Za→Hp→Prop} {E:XK} {m:M α} {k:α→M β} (h:Out g c S H R E ((m >>= k) S)) :
  Out g c S H (fun a c1 S1 H1=>Out g c1 S1 H1 R E (k a S1)) E (m S):=by
 rw [Zy] at h
 cases q:m S with
 | ok a S'=>rw [q] at h; exact fun H' c' f=>h.fut f
 | err C fs S'=>rw [q] at h; exact h
 | bad=>rw [q] at h; exact h
theorem Out.chk {α:Type} {g:G} {c:List Addr} {S:Za} {H:Hp} {R:α→List Addr→Za→Hp→Prop} {E:XK} {b:Bool} {m:M α} (h:Out g c S H R E (M.chk b m S)):b=true∧Out g c S H R E (m S):=by
 unfold M.chk at h
 cases b with
 | true=>exact ⟨rfl,h⟩
 | false=>exact h.elim
abbrev RV (g:G) (Q:VK):D→List Addr→Za→Hp→Prop:=fun d c' S' H'=>∀ v,Val g (frz g c' S' H') c' v d→Q v H'
abbrev RB (Q:Bool→Hp→Prop):Bool→List Addr→Za→Hp→Prop:=fun b _ _ H'=>Q b H'
abbrev RL (g:G) (Q:List V→Hp→Prop):List D→List Addr→Za→Hp→Prop:=fun ds c' S' H'=>∀ vs,Vls g (frz g c' S' H') c' vs ds→Q vs H'
abbrev WS (W:WX) (σ:St):XK:=fun u o H'=>W u o σ H'
def tE (g:G) (W:WX) (m:EM):TE:=fun σ H Q=>∃ c S τ,Rep g c S H∧Sl g (frz g c S H) c σ τ∧Out g c S H (RV g Q) (WS W σ) (m τ S)
def tT (g:G) (W:WX) (m:TM):TT:=fun σ H Q=>∃ c S τ,Rep g c S H∧Sl g (frz g c S H) c σ τ∧Out g c S H (RB Q) (WS W σ) (m τ S)
def tAr (g:G) (W:WX) (m:AM):TA:=fun σ H Q=>∃ c S τ,Rep g c S H∧Sl g (frz g c S H) c σ τ∧Out g c S H (RL g Q) (WS W σ) (m τ S)
def Xv (g:G) (W:WX) (c:List Addr) (S:Za) (H:Hp) (De:Ends):SRes→Prop
 | .ok (.nx τ) S'=>∀ σ' H' c',Fut g c S H c' S' H'→Sl g (frz g c' S' H') c' σ' τ→De.nx σ' H'
 | .ok (.bk τ) S'=>∀ σ' H' c',Fut g c S H c' S' H'→Sl g (frz g c' S' H') c' σ' τ→De.bk σ' H'
 | .ok (.ct τ) S'=>∀ σ' H' c',Fut g c S H c' S' H'→Sl g (frz g c' S' H') c' σ' τ→De.ct σ' H'
 | .ok (.rt d) S'=>∀ v H' c',Fut g c S H c' S' H'→Val g (frz g c' S' H') c' v d→De.rt v H'
 | .err C fs τ S'=>∀ u o σ' H' c',Fut g c S H c' S' H'→Sl g (frz g c' S' H') c' σ' τ→K4 g (frz g c' S' H') c' u o C fs→W u o σ' H'
 | .bad=>False
theorem Xv.fut {g:G} {W:WX} {c c1:List Addr} {S S1:Za} {H H1:Hp} {De:Ends} {r:SRes} (f:Fut g c S H c1 S1 H1) (h:Xv g W c S H De r):Xv g W c1 S1 H1 De r:=by
 cases r with
 | ok fl S'=>
  cases fl with
  | nx τ=>exact fun σ' H' c' q=>h σ' H' c' (f.trans q)
  | bk τ=>exact fun σ' H' c' q=>h σ' H' c' (f.trans q)
  | ct τ=>exact fun σ' H' c' q=>h σ' H' c' (f.trans q)
  | rt d=>exact fun σ' H' c' q=>h σ' H' c' (f.trans q)
 | err C fs τ S'=>exact fun u o σ' H' c' q=>h u o σ' H' c' (f.trans q)
 | bad=>exact h
def tS (g:G) (W:WX) (m:SM):TS:=fun De σ H=>∃ c S τ,Rep g c S H∧Sl g (frz g c S H) c σ τ∧Xv g W c S H De (m τ S)
theorem PE.imp {X:Cx} {e:Expr} {t t':TE} (h:PE X e t) (k:∀ σ H Q,t' σ H Q→t σ H Q):PE X e t':=⟨fun pins s σ H Q I q=>h.run pins s σ H Q I (k σ H Q q)⟩
theorem PT.imp {X:Cx} {e:Expr} {t t':TT} (h:PT X e t) (k:∀ σ H Q,t' σ H Q→t σ H Q):PT X e t':=⟨fun pins s σ H Q I q=>h.run pins s σ H Q I (k σ H Q q)⟩
theorem PW.imp {X:Cx} {e:Expr} {t t':TT} (h:PW X e t) (k:∀ σ H Q,t' σ H Q→t σ H Q):PW X e t':=⟨fun wh pins s σ H Q I q=>h.run wh pins s σ H Q I (k σ H Q q)⟩
theorem PA.imp {X:Cx} {e:List Expr} {t t':TA} (h:PA X e t) (k:∀ σ H Q,t' σ H Q→t σ H Q):PA X e t':=⟨fun pos pins s σ H Q I q=>h.run pos pins s σ H Q I (k σ H Q q)⟩
theorem PS.imp {X:Cx} {e:Stmt} {t t':TS} (h:PS X e t) (k:∀ De σ H,t' De σ H→t De σ H):PS X e t':=⟨fun pins s σ H De I q=>h.run pins s σ H De I (k De σ H q)⟩
theorem PSs.imp {X:Cx} {e:List Stmt} {t t':TS} (h:PSs X e t) (k:∀ De σ H,t' De σ H→t De σ H):PSs X e t':=⟨fun pins s σ H De I q=>h.run pins s σ H De I (k De σ H q)⟩
abbrev gx (X:Cx) (cur:Option CuE) (hid:List Addr):G:=⟨X.K,X.mg,X.prog,X.w,cur,hid⟩
section
variable {X:Cx} {g:G} {W:WX} {a b c e:Expr} {ma mb:EM} {pos:Pos}
theorem V4 {m:EM} {k:D→M D} {σ:St} {H:Hp} {Q Q':VK} (h:tE g W (fun τ=>m τ >>= k) σ H Q')
  (q:∀ c S H1 v d,Rep g c S H1→Val g (frz g c S H1) c v d→Out g c S H1 (RV g Q') (WS W σ) (k d S)→Q v H1):tE g W m σ H Q:=by
 obtain ⟨c,S,τ,r,s,o⟩:=h
 exact ⟨c,S,τ,r,s,(Out.bind o).imp fun d c' S' H' f o' v hv=>q c' S' H' v d f.rep hv o'⟩
theorem YE {m:EM} {β:Type} {k:D→DSt→M β} {R:β→List Addr→Za→Hp→Prop} {σ:St} {H:Hp} {Q:VK} (h:∃ c S τ,Rep g c S H∧Sl g (frz g c S H) c σ τ∧Out g c S H R (WS W σ) ((m τ >>= fun d=>k d τ) S))
  (q:∀ c S H1 τ v d,Rep g c S H1→Sl g (frz g c S H1) c σ τ→Val g (frz g c S H1) c v d→Out g c S H1 R (WS W σ) (k d τ S)→Q v H1):tE g W m σ H Q:=by
 obtain ⟨c,S,τ,r,s,o⟩:=h
 exact ⟨c,S,τ,r,s,(Out.bind o).imp fun d c' S' H' f o' v hv=>q c' S' H' τ v d f.rep (s.mono f.ex f.pre) hv o'⟩
theorem Wx {m:TM} {β:Type} {k:Bool→DSt→M β} {R:β→List Addr→Za→Hp→Prop} {σ:St} {H:Hp} {Q:Bool→Hp→Prop} (h:∃ c S τ,Rep g c S H∧Sl g (frz g c S H) c σ τ∧Out g c S H R (WS W σ) ((m τ >>= fun d=>k d τ) S))
  (q:∀ c S H1 τ d,Rep g c S H1→Sl g (frz g c S H1) c σ τ→Out g c S H1 R (WS W σ) (k d τ S)→Q d H1):tT g W m σ H Q:=by
 obtain ⟨c,S,τ,r,s,o⟩:=h
 exact ⟨c,S,τ,r,s,(Out.bind o).imp fun d c' S' H' f o'=>q c' S' H' τ d f.rep (s.mono f.ex f.pre) o'⟩
theorem YZ {m:AM} {β:Type} {k:List D→DSt→M β} {R:β→List Addr→Za→Hp→Prop} {σ:St} {H:Hp} {Q:List V→Hp→Prop} (h:∃ c S τ,Rep g c S H∧Sl g (frz g c S H) c σ τ∧Out g c S H R (WS W σ) ((m τ >>= fun d=>k d τ) S))
  (q:∀ c S H1 τ v d,Rep g c S H1→Sl g (frz g c S H1) c σ τ→Vls g (frz g c S H1) c v d→Out g c S H1 R (WS W σ) (k d τ S)→Q v H1):tAr g W m σ H Q:=by
 obtain ⟨c,S,τ,r,s,o⟩:=h
 exact ⟨c,S,τ,r,s,(Out.bind o).imp fun d c' S' H' f o' v hv=>q c' S' H' τ v d f.rep (s.mono f.ex f.pre) hv o'⟩
def mVar (i:Nat):EM:=fun τ S=>match τ[i]? with
 | some (some d)=>.ok d S
 | _=>.bad
theorem d_var {i:Nat} {x:Str} {p:Pos} (hN:X.N[i]? = some x:=by rfl) (hv:Vis X.env.scope x:=by first | exact Or.inl rfl | exact Or.inr (Or.inl rfl) | exact Or.inr (Or.inr rfl)) (hd:(x == ("__debug__" : Str))=false:=by decide)
  (hcd:(x == ("__classdict__" : Str))=false:=by decide) (hl:g.lamAt=none:=by rfl):PE X (.Name x p) (tE g W (mVar i)):=PE.imp (pe_var hN hv hd hcd) fun σ H Q h=>by
 obtain ⟨c,S,τ,r,s,o⟩:=h
 unfold mVar at o
 split at o
 ·rename_i d e
  obtain ⟨v,h1,h2⟩:=s.get e (s.noraw hl e)
  exact ⟨v,h1,o H c (Fut.refl r) v h2⟩
 ·exact o.elim
def mC (d:D):EM:=fun _=>pure d
theorem tE_c {d:D} {v:V} (hv:∀ F c,Val g F c v d) (σ:St) (H:Hp) (Q:VK) (h:tE g W (mC d) σ H Q):tC v σ H Q:=by
 obtain ⟨c,S,τ,r,s,o⟩:=h
 exact o H c (Fut.refl r) v (hv _ _)
theorem Zd {i:Int} {j:Nat}:PE X (.Constant (.int i) j pos) (tE g W (mC (.int i))):=PE.imp pe_int (tE_c fun _ _=>.int i)
theorem ZeJ {i:Bool} {j:Nat}:PE X (.Constant (.bool i) j pos) (tE g W (mC (.bl i))):=PE.imp pe_bl (tE_c fun _ _=>.bl i)
theorem Uj {j:Nat}:PE X (.Constant .none j pos) (tE g W (mC .non)):=PE.imp pe_non (tE_c fun _ _=>.non)
theorem ZfO {i:Str} {j:Nat} (h:SOk i):PE X (.Constant (.str i) j pos) (tE g W (mC (.str i))):=PE.imp pe_str (tE_c fun _ _=>.str h)
theorem d_globI {x:Str} {i:Int} {p:Pos} (hg:Gl X x) (hm:∃ t,X.mg x=some (.int i t)) (hd:(x == ("__debug__" : Str))=false:=by decide):PE X (.Name x p) (tE g W (mC (.int i))):=by
 obtain ⟨t,hm⟩:=hm
 exact PE.imp (pe_glob (v:=.int i) hg hm ⟨t,rfl⟩ hd) (tE_c fun _ _=>.int i)
theorem d_globS {x:Str} {i:Str} {p:Pos} (hg:Gl X x) (hm:∃ t,X.mg x=some (.str i t)) (hi:SOk i) (hd:(x == ("__debug__" : Str))=false:=by decide):PE X (.Name x p) (tE g W (mC (.str i))):=by
 obtain ⟨t,hm⟩:=hm
 exact PE.imp (pe_glob (v:=.str i) hg hm ⟨t,rfl⟩ hd) (tE_c fun _ _=>.str hi)
theorem d_ty {x:Str} {n:String} {p:Pos} (hg:Gl X x) (hm:X.mg x=none) (hv:bootBuiltins x=some (.type n)) (hn:x ≠ "__name__" := by decide) (hd:(x == ("__debug__" : Str))=false:=by decide):PE X (.Name x p) (tE g W (mC (.ty n))):=
 PE.imp (pe_bltn (v:=.ty n) hg hm hv rfl hn hd) (tE_c fun _ _=>.ty n)
def OpD (g:G) (r:R2) (op:D→D→M D):Prop:=∀ (c:List Addr) (S:Za) (H:Hp) (v w:V) (d e:D) (Q:VK) (E:XK),Rep g c S H→Val g (frz g c S H) c v d→Val g (frz g c S H) c w e→Out g c S H (RV g Q) E (op d e S)→r v w H Q
def mBin (op:D→D→M D) (ma mb:EM):EM:=fun τ=>ma τ >>= fun x=>mb τ >>= fun y=>op x y
theorem QQ {r:R2} {op:D→D→M D} (ho:OpD g r op) {σ:St} {H:Hp} {Q:VK} (h:tE g W (mBin op ma mb) σ H Q):tOp r (tE g W ma) (tE g W mb) σ H Q:=
 YE (k:=fun x τ=>mb τ >>= fun y=>op x y) h fun c S H1 τ v d r1 s1 v1 o1=>
  ⟨c,S,τ,r1,s1,(Out.bind o1).imp fun e c2 S2 H2 f2 o2 w hw=>ho c2 S2 H2 v w d e Q _ f2.rep (f2.val v1) hw o2⟩
theorem d_bin {op:Operator} {r:R2} {f:D→D→M D} (h:OpR X (binaryOp op) r) (ho:OpD g r f) (ha:PE X a (tE g W ma)) (hb:PE X b (tE g W mb)):PE X (.BinOp a op b pos) (tE g W (mBin f ma mb)):=
 PE.imp (pe_op h ha hb) fun _ _ _ q=>QQ ho q
theorem d_cmp {op:CmpOp} {r:R2} {f:D→D→M D} (h:OpR X (compareOp op) r) (ho:OpD g r f) (ha:PE X a (tE g W ma)) (hb:PE X b (tE g W mb)) (hm:behindInMarks op b=false):PE X (.Compare a [op] [b] pos) (tE g W (mBin f ma mb)):=
 PE.imp (pe_cmpR h ha hb hm) fun _ _ _ q=>QQ ho q
def UnD (g:G) (r:V→Hp→VK→Prop) (op:D→M D):Prop:=∀ (c:List Addr) (S:Za) (H:Hp) (v:V) (d:D) (Q:VK) (E:XK),Rep g c S H→Val g (frz g c S H) c v d→Out g c S H (RV g Q) E (op d S)→r v H Q
def mUn (op:D→M D) (ma:EM):EM:=fun τ=>ma τ >>= op
theorem d_un {op:UnaryOp} {r:V→Hp→VK→Prop} {f:D→M D} (h:UnR X (unaryOp op) r) (ho:UnD g r f) (ha:PE X a (tE g W ma)):PE X (.UnaryOp op a pos) (tE g W (mUn f ma)):=
 PE.imp (pe_un h ha) fun _ _ Q q=>V4 q fun c S H1 v d r1 v1 o1=>ho c S H1 v d Q _ r1 v1 o1
theorem OpR.or {f:Value→Value→Sem Value} {r r':R2} (h:OpR X f r) (h':OpR X f r'):OpR X f (fun x y H Q=>r x y H Q∨r' x y H Q):=fun pins s σ H x y v u Q I rx ry q=>
 q.elim (h pins s σ H x y v u Q I rx ry) (h' pins s σ H x y v u Q I rx ry)
theorem CallR.or {f:Value} {r r':List V→Hp→VK→Prop} (h:CallR X f r) (h':CallR X f r'):CallR X f (fun x H Q=>r x H Q∨r' x H Q):=fun pins s σ H x u Q I rx q=>
 q.elim (h pins s σ H x u Q I rx) (h' pins s σ H x u Q I rx)
def asB (d:D):M Bool:=match d with
 | .bl b=>pure b
 | _=>M.no
def mAsT (m:EM):TM:=fun τ=>m τ >>= asB
theorem tT_of {m:EM} {σ:St} {H:Hp} {Q:Bool→Hp→Prop} (h:tT g W (mAsT m) σ H Q):tE g W m σ H fun x H1=>∃ k,x = .bl k∧Q k H1:=by
 obtain ⟨c,S,τ,r,s,o⟩:=h
 refine ⟨c,S,τ,r,s,(Out.bind o).imp fun d c' S' H' f o' v hv=>?_⟩
 cases hv with
 | bl b=>exact ⟨b,rfl,o' H' c' (Fut.refl f.rep)⟩
 | _=>exact o'.elim
theorem dt_val {m:EM} (h:PE X e (tE g W m)) (he:∀ whole,isTrue e X.env whole=(do let v ← whole; standAt e.pos; holding [v] (truthy v)):=by intro _; rfl):PT X e (tT g W (mAsT m)):=
 PT.imp (pt_val h he) fun _ _ _ q=>tT_of q
theorem dt_cmp {op:CmpOp} {r:R2} {f:D→D→M D} (h:OpR X (compareOp op) r) (ho:OpD g r f) (ha:PE X a (tE g W ma)) (hb:PE X b (tE g W mb)) (hm:behindInMarks op b=false):PT X (.Compare a [op] [b] pos) (tT g W (mAsT (mBin f ma mb))):=
 PT.imp (pt_cmpR h ha hb hm) fun σ H Q q=>QQ ho (tT_of q)
def mTAnd (m n:TM):TM:=fun τ=>m τ >>= fun b=>if b=true then n τ else pure false
def mTOr (m n:TM):TM:=fun τ=>m τ >>= fun b=>if b=true then pure true else n τ
def mTNot (m:TM):TM:=fun τ=>m τ >>= fun b=>pure (!b)
variable {tA tB':TM} {rest:List Expr} {op:BoolOp}
theorem dw_and1 (ha:PT X a (tT g W tA)):PW X (.BoolOp .And [a] pos) (tT g W tA):=pw_and1 ha
theorem dw_or1 (ha:PT X a (tT g W tA)):PW X (.BoolOp .Or [a] pos) (tT g W tA):=pw_or1 ha
theorem dw_and (ha:PT X a (tT g W tA)) (hb:PW X (.BoolOp .And (b :: rest) pos) (tT g W tB')):PW X (.BoolOp .And (a :: b :: rest) pos) (tT g W (mTAnd tA tB')):=
 PW.imp (pw_and ha hb) fun σ H Q h=>Wx (k:=fun b τ=>if b=true then tB' τ else pure false) h fun c S H1 τ d r1 s1 o1=>by
  cases d with
  | true=>exact ⟨c,S,τ,r1,s1,o1⟩
  | false=>exact o1 H1 c (Fut.refl r1)
theorem dw_or (ha:PT X a (tT g W tA)) (hb:PW X (.BoolOp .Or (b :: rest) pos) (tT g W tB')):PW X (.BoolOp .Or (a :: b :: rest) pos) (tT g W (mTOr tA tB')):=
 PW.imp (pw_or ha hb) fun σ H Q h=>Wx (k:=fun b τ=>if b=true then pure true else tB' τ) h fun c S H1 τ d r1 s1 o1=>by
  cases d with
  | true=>exact o1 H1 c (Fut.refl r1)
  | false=>exact ⟨c,S,τ,r1,s1,o1⟩
theorem dt_not (ha:PT X a (tT g W tA)):PT X (.UnaryOp .Not a pos) (tT g W (mTNot tA)):=
 PT.imp (pt_not ha) fun σ H Q h=>Wx (k:=fun b _=>pure (!b)) h fun c S H1 τ d r1 s1 o1=>o1 H1 c (Fut.refl r1)
def mAnd (m n:EM):EM:=fun τ=>m τ >>= asB >>= fun b=>if b=true then n τ else pure (.bl false)
def mOr (m n:EM):EM:=fun τ=>m τ >>= asB >>= fun b=>if b=true then pure (.bl true) else n τ
def notB (d:D):M D:=asB d >>= fun b=>pure (.bl (!b))
theorem Y4 {α β γ:Type} (m:M α) (f:α→M β) (h:β→M γ):(m >>= f >>= h)=(m >>= fun x=>f x >>= h):=by
 funext S
 rw [Zy,Zy,Zy]
 cases m S <;> rfl
theorem d_one {m:EM} (h:PE X a (tE g W m)):PE X (.BoolOp op [a] pos) (tE g W m):=pe_one h
theorem US {β:Type} {c:List Addr} {S:Za} {H:Hp} {v:V} {d:D} {k:Bool→M β} {R:β→List Addr→Za→Hp→Prop} {E:XK} (hv:Val g (frz g c S H) c v d) (o:Out g c S H R E ((asB d >>= k) S)):∃ b,v = .bl b∧Out g c S H R E (k b S):=by
 cases hv with
 | bl b=>exact ⟨b,rfl,o⟩
 | _=>exact o.elim
theorem d_and (ha:PE X a (tE g W ma)) (hb:PE X (.BoolOp .And (b :: rest) pos) (tE g W mb)):PE X (.BoolOp .And (a :: b :: rest) pos) (tE g W (mAnd ma mb)):=
 PE.imp (pe_and ha hb) fun σ H Q h=>by
  obtain ⟨c,S,τ,r,s,o⟩:=h
  unfold mAnd at o
  rw [Y4] at o
  refine YE (k:=fun x τ=>asB x >>= fun b=>if b=true then mb τ else pure (.bl false)) ⟨c,S,τ,r,s,o⟩ fun c S H1 τ v d r1 s1 v1 o1=>?_
  obtain ⟨k,rfl,o2⟩:=US v1 o1
  refine ⟨k,rfl,?_⟩
  cases k with
  | true=>exact ⟨c,S,τ,r1,s1,o2⟩
  | false=>exact o2 H1 c (Fut.refl r1) _ (.bl false)
theorem d_not (ha:PE X a (tE g W ma)):PE X (.UnaryOp .Not a pos) (tE g W (mUn notB ma)):=
 PE.imp (pe_not ha) fun σ H Q h=>V4 h fun c S H1 v d r1 v1 o1=>by
  obtain ⟨k,rfl,o2⟩:=US v1 o1
  exact ⟨k,rfl,o2 H1 c (Fut.refl r1) _ (.bl _)⟩
def mIf (t:TM) (ma mb:EM):EM:=fun τ=>t τ >>= fun b=>if b=true then ma τ else mb τ
theorem d_ifx (hc:PT X c (tT g W tA)) (ha:PE X a (tE g W ma)) (hb:PE X b (tE g W mb)):PE X (.IfExp c a b pos) (tE g W (mIf tA ma mb)):=
 PE.imp (pe_ifExp hc ha hb) fun σ H Q h=>Wx (k:=fun b τ=>if b=true then ma τ else mb τ) h fun c S H1 τ d r1 s1 o1=>by
  cases d with
  | true=>exact ⟨c,S,τ,r1,s1,o1⟩
  | false=>exact ⟨c,S,τ,r1,s1,o1⟩
end
def dr (S:Za):D→D
 | .cel n=>(match S[n]? with
  | some (.lst xs)=>.lst xs
  | some (.dct kvs)=>.dct kvs
  | some (.kct kvs)=>.kdc kvs
  | some (.ins C fs)=>.obj C fs
  | some (.fz d)=>d
  | _=>.cel n)
 | d=>d
inductive Seen (g:G) (c:List Addr) (S:Za) (H:Hp):V→D→Prop
 | same {v:V} {d:D}:Val g (frz g c S H) c v d→Seen g c S H v d
 | lst {a:Addr} {vs:List V} {xs:List D}:H a=some (.lst vs)→Vls g (frz g c S H) c vs xs→Seen g c S H (.ref a) (.lst xs)
 | dct {a:Addr} {ws:List (Key × V)} {kvs:List (Key × D)}:H a=some (.dK ws)→VKv g (frz g c S H) c ws kvs→Seen g c S H (.ref a) (.dct kvs)
 | obj {a Ca dx:Addr} {C:Str} {ws:List (Str × V)} {fs:List (Str × D)}:g.mg C=some (.ref Ca)→H a=some (.ins Ca dx ws)→VFs g (frz g c S H) c ws fs→Seen g c S H (.ref a) (.obj C fs)
 | kdc {a:Addr} {xs:List (List Bool × Addr × Value)} {kvs:List (List Bool × D)}:ZcM g.P g.w H a xs→VKb g (frz g c S H) c xs kvs→Seen g c S H (.ref a) (.kdc kvs)
section
variable {g:G} {c:List Addr} {S:Za} {H:Hp} {v:V} {d e:D}
theorem dr_seen (r:Rep g c S H) (h:Val g (frz g c S H) c v d):Seen g c S H v (dr S d):=by
 cases h with
 | cel hn=>
  rename_i a n
  show Seen g c S H (.ref a) (match S[n]? with
   | some (.lst xs)=>.lst xs
   | some (.dct kvs)=>.dct kvs
   | some (.kct kvs)=>.kdc kvs
   | some (.ins C fs)=>.obj C fs
   | some (.fz d)=>d
   | _=>.cel n)
  cases q:S[n]? with
  | none=>exact .same (.cel hn)
  | some x=>
   have ok:=r.ok n a x hn q
   cases x with
   | lst xs=>obtain ⟨vs,e,h⟩:=ok; exact .lst e h
   | dct xs=>obtain ⟨vs,e,h⟩:=ok; exact .dct e h
   | kct xs=>obtain ⟨vs,e,h⟩:=ok; exact .kdc (.inl e) h
   | ins C fs=>obtain ⟨Ca,dx,ws,m,e,h⟩:=ok; exact .obj m e h
   | fz d=>exact .same ok
   | dead=>exact .same (.cel hn)
   | tbl n=>exact .same (.cel hn)
 | non=>exact .same .non
 | bl b=>exact .same (.bl b)
 | int i=>exact .same (.int i)
 | str h=>exact .same (.str h)
 | lst a b=>exact .same (.lst a b)
 | rol a b=>exact .same (.rol a b)
 | tup a b=>exact .same (.tup a b)
 | tpo a b=>exact .same (.tpo a b)
 | set a b=>exact .same (.set a b)
 | dct a b=>exact .same (.dct a b)
 | obj a b c=>exact .same (.obj a b c)
 | fn h=>exact .same (.fn h)
 | ty n=>exact .same (.ty n)
 | rdc a b=>exact .same (.rdc a b)
 | kdc a b=>exact .same (.kdc a b)
theorem Seen.int {i:Int} (h:Seen g c S H v (.int i)):v = .int i:=by
 cases h with
 | same h=>cases h; rfl
theorem Seen.bl {i:Bool} (h:Seen g c S H v (.bl i)):v = .bl i:=by
 cases h with
 | same h=>cases h; rfl
theorem Seen.non (h:Seen g c S H v .non):v = .non:=by
 cases h with
 | same h=>cases h; rfl
theorem Seen.ty {n:String} (h:Seen g c S H v (.ty n)):v = .ty n:=by
 cases h with
 | same h=>cases h; rfl
theorem Seen.str {x:Str} (h:Seen g c S H v (.str x)):v = .str x∧SOk x:=by
 cases h with
 | same h=>cases h with | str h=>exact ⟨rfl,h⟩
theorem Seen.lst' {xs:List D} (h:Seen g c S H v (.lst xs)):∃ a vs,v = .ref a∧H a=some (.lst vs)∧Vls g (frz g c S H) c vs xs:=by
 cases h with
 | same h=>cases h with | lst h1 h2=>exact ⟨_,_,rfl,(frz_of h1).1,h2⟩
 | lst h1 h2=>exact ⟨_,_,rfl,h1,h2⟩
theorem Seen.rol {xs:List D} (h:Seen g c S H v (.rol xs)):∃ a vs,v = .ref a∧SqL g.K H a vs∧Vls g (frz g c S H) c vs xs:=by
 cases h with
 | same h=>cases h with | rol h1 h2=>exact ⟨_,_,rfl,Evl.ex_l frz_ex h1,h2⟩
theorem Seen.tup {xs:List D} (h:Seen g c S H v (.tup xs)):∃ a vs,v = .ref a∧SqT g.K H a vs∧Vls g (frz g c S H) c vs xs:=by
 cases h with
 | same h=>cases h with | tup h1 h2=>exact ⟨_,_,rfl,Evl.ex_t frz_ex h1.sq,h2⟩
theorem Seen.rdc' {kvs:List (Key × D)} (h:Seen g c S H v (.rdc kvs)):∃ a o ws,v = .ref a∧H a=some (.frz o (.dK ws))∧VKv g (frz g c S H) c ws kvs:=by
 cases h with
 | same h=>cases h with | rdc h1 h2=>exact ⟨_,_,_,rfl,(frz_of h1).1,h2⟩
theorem Seen.dct' {kvs:List (Key × D)} (h:Seen g c S H v (.dct kvs)):∃ a ws,v = .ref a∧H a=some (.dK ws)∧VKv g (frz g c S H) c ws kvs:=by
 cases h with
 | same h=>cases h with | dct h1 h2=>exact ⟨_,_,rfl,(frz_of h1).1,h2⟩
 | dct h1 h2=>exact ⟨_,_,rfl,h1,h2⟩
theorem Seen.obj' {C:Str} {fs:List (Str × D)} (h:Seen g c S H v (.obj C fs)):∃ a Ca dx ws,v = .ref a∧g.mg C=some (.ref Ca)∧H a=some (.ins Ca dx ws)∧VFs g (frz g c S H) c ws fs:=by
 cases h with
 | same h=>cases h with | obj h0 h1 h2=>exact ⟨_,_,_,_,rfl,h0,(frz_of h1).1,h2⟩
 | obj h0 h1 h2=>exact ⟨_,_,_,_,rfl,h0,h1,h2⟩
variable {Q:VK} {p:Addr}
theorem Zh {Q:VK} {E:XK} (r:Rep g c S H) (o:Out g c S H (RV g Q) E (.ok d S)) (h:Val g (frz g c S H) c v d):Q v H:=o H c (Fut.refl r) v h
theorem YR {E:XK} {vs:List V} {xs:List D} (r:Rep g c S H) (o:Out g c S H (RV g Q) E (.ok (.lst xs) S)) (h:Vls g (frz g c S H) c vs xs) (hp:H p=none):Q (.ref p) (upd H p (.lst vs)):=by
 have f:=Fut.new (o:=.lst vs) r hp
 exact o _ c f _ (.lst (Fut.frz_new r hp) (f.vls h))
theorem XM {E:XK} {vs:List V} {xs:List D} (r:Rep g c S H) (o:Out g c S H (RV g Q) E (.ok (.tup xs) S)) (h:Vls g (frz g c S H) c vs xs):Zan H Q vs:=fun p ob hp hb=>by
 have f:=Fut.new (o:=.frz ob (.tup vs)) r hp
 exact o _ c f _ (.tup (.inl ⟨ob,hb,Fut.frz_new r hp⟩) (f.vls h))
end
def addD (x y:D):M D:=fun S=>match dr S x,dr S y with
 | .int i,.int j=>.ok (.int (i+j)) S
 | .str i,.str j=>if i.length+j.length≤sizeLine then .ok (.str (i++j)) S else .bad
 | .lst xs,.lst ys=>if xs.length+ys.length≤sizeLine then .ok (.lst (xs++ys)) S else .bad
 | .tup xs,.tup ys=>if xs.length+ys.length≤sizeLine then .ok (.tup (xs++ys)) S else .bad
 | _,_=>.bad
theorem sOk_append {x y:Str} (h:SOk x) (h':SOk y) (hl:x.length+y.length≤sizeLine):SOk (x++y):=by
 refine ⟨?_,?_⟩
 ·have h1:=h.1
  have h2:=h'.1
  unfold PyData.strOk at *
  show (x.cps++y.cps).all _=true
  rw [Array.all_append,h1,h2]; rfl
 ·show (x.cps++y.cps).size≤sizeLine
  rw [Array.size_append]; exact hl
abbrev rAddD (K:PySem.W.Frag):R2:=fun x y H Q=>(((rI0 fun i j=>.int (i+j)) x y H Q∨(∃ i j,x = .str i∧y = .str j∧i.length+j.length≤sizeLine∧Q (.str (i++j)) H))∨rCat x y H Q)∨rCatF K x y H Q
theorem Zi {X:Cx}:OpR X (binaryOp .Add) (rAddD X.K):=((op_add.or op_add_str).or op_cat).or Zb4
theorem Zj {g:G}:OpD g (rAddD g.K) addD:=by
 intro c S H v w d e Q E r hv hw o
 have sv:=dr_seen r hv
 have sw:=dr_seen r hw
 unfold addD at o
 split at o
 ·rename_i i j h1 h2
  rw [h1] at sv; rw [h2] at sw
  exact .inl (.inl (.inl ⟨i,j,sv.int,sw.int,Zh r o (.int _)⟩))
 ·rename_i i j h1 h2
  rw [h1] at sv; rw [h2] at sw
  obtain ⟨e1,k1⟩:=sv.str
  obtain ⟨e2,k2⟩:=sw.str
  split at o
  ·rename_i hl
   exact .inl (.inl (.inr ⟨i,j,e1,e2,hl,Zh r o (.str (sOk_append k1 k2 hl))⟩))
  ·exact o.elim
 ·rename_i xs ys h1 h2
  rw [h1] at sv; rw [h2] at sw
  obtain ⟨a,vs,e1,k1,l1⟩:=sv.lst'
  obtain ⟨b,ws,e2,k2,l2⟩:=sw.lst'
  split at o
  ·rename_i hl
   exact .inl (.inr ⟨a,b,vs,ws,e1,e2,k1,k2,by rw [l1.length,l2.length]; exact hl,fun p hp=>YR r o (l1.append l2) hp⟩)
  ·exact o.elim
 ·rename_i xs ys h1 h2
  rw [h1] at sv; rw [h2] at sw
  obtain ⟨a,vs,e1,k1,l1⟩:=sv.tup
  obtain ⟨b,ws,e2,k2,l2⟩:=sw.tup
  split at o
  ·rename_i hl
   refine .inr ⟨a,b,vs,ws,e1,e2,k1,k2,by rw [l1.length,l2.length]; exact hl,fun z=>?_,fun z z2=>?_,fun z z2=>XM r o (l1.append l2)⟩
   ·subst z
    cases l1
    subst e2
    cases sw with
    | same sw=>exact Zh r o sw
   ·subst z2
    cases l2
    subst e1
    rw [List.append_nil] at o
    cases sv with
    | same sv=>exact Zh r o sv
  ·exact o.elim
 ·exact o.elim
def intD (C:Int→Int→Bool) (f:Int→Int→D) (x y:D):M D:=match x,y with
 | .int i,.int j=>M.chk (C i j) (pure (f i j))
 | _,_=>M.no
theorem QH {g:G} {C:Int→Int→Bool} {P:Int→Int→Prop} {f:Int→Int→V} {fd:Int→Int→D} (hC:∀ i j,C i j=true→P i j) (hf:∀ F c i j,Val g F c (f i j) (fd i j)):OpD g (rI P f) (intD C fd):=by
 intro c S H v w d e Q E r hv hw o
 cases hv with
 | int i=>
  cases hw with
  | int j=>
   obtain ⟨h,o⟩:=Out.chk o
   exact ⟨i,j,rfl,rfl,hC i j h,Zh r o (hf _ _ i j)⟩
  | _=>exact o.elim
 | _=>exact o.elim
theorem Zb1 {g:G} {f:Int→Int→V} {fd:Int→Int→D} (hf:∀ F c i j,Val g F c (f i j) (fd i j)):OpD g (rI0 f) (intD (fun _ _=>true) fd):=by
 intro c S H v w d e Q E r hv hw o
 cases hv with
 | int i=>
  cases hw with
  | int j=>exact ⟨i,j,rfl,rfl,Zh r (Out.chk o).2 (hf _ _ i j)⟩
  | _=>exact o.elim
 | _=>exact o.elim
def subD:D→D→M D:=intD (fun _ _=>true) fun i j=>.int (i - j)
theorem Yh {g:G}:OpD g (rI0 fun i j=>.int (i - j)) subD:=Zb1 fun _ _ _ _=>.int _
def mulC (i j:Int):Bool:=okP (-(2 ^ 64) < i∧i < 2 ^ 64) || okP (-(2 ^ 64) < j∧j < 2 ^ 64)
theorem ZbW (i j:Int) (h:mulC i j=true):CMul i j:=by
 unfold mulC at h
 rcases Bool.or_eq_true_iff.mp h with h | h
 ·exact .inl (okP_of h)
 ·exact .inr (okP_of h)
def mulID:D→D→M D:=intD mulC fun i j=>.int (i * j)
theorem od_mulI {g:G}:OpD g (rI CMul fun i j=>.int (i * j)) mulID:=QH ZbW fun _ _ _ _=>.int _
def fdivD:D→D→M D:=intD (fun _ j=>okP (0 < j∧j < 1073741824)) fun i j=>.int (i / j)
theorem Kc {g:G}:OpD g (rI CDiv fun i j=>.int (i / j)) fdivD:=QH (fun i j h=>show 0 < j∧j < 1073741824 from okP_of h) fun _ _ _ _=>.int _
def modD:D→D→M D:=intD (fun _ j=>decide (0 < j)) fun i j=>.int (i % j)
theorem Xk {g:G}:OpD g (rI (fun _ j=>0 < j) fun i j=>.int (i % j)) modD:=QH (fun _ _ h=>of_decide_eq_true h) fun _ _ _ _=>.int _
def ZhW (i j:Int):Bool:=okP (0≤j∧j≤1000000∧i.natAbs < 2 ^ 64)
def powD:D→D→M D:=intD ZhW fun i j=>.int (i ^ j.toNat)
theorem Xl {g:G}:OpD g (rI CPow fun i j=>.int (i ^ j.toNat)) powD:=QH (fun i j h=>show 0≤j∧j≤1000000∧i.natAbs < 2 ^ 64 from okP_of h) fun _ _ _ _=>.int _
def shrD:D→D→M D:=intD (fun _ j=>decide (0≤j)) fun i j=>.int (i / 2 ^ j.toNat)
def andD:D→D→M D:=intD (fun _ _=>true) fun i j=>.int (Builtin.bitAnd i j)
def orD:D→D→M D:=intD (fun _ _=>true) fun i j=>.int (Builtin.bitOr i j)
def negD (x:D):M D:=match x with
 | .int i=>pure (.int (-i))
 | _=>M.no
theorem Wd {g:G}:UnD g (rU fun i=>.int (-i)) negD:=by
 intro c S H v d Q E r hv o
 cases hv with
 | int i=>exact ⟨i,rfl,Zh r o (.int _)⟩
 | _=>exact o.elim
def invD (x:D):M D:=match x with
 | .int i=>pure (.int (Builtin.bitNot i))
 | _=>M.no
mutual
def py:D→Option PyData
 | .non=>some .none
 | .bl b=>some (.bool b)
 | .int i=>some (.int i)
 | .str x=>some (.str x)
 | .lst xs=>(pys xs).map .list
 | .rol xs=>(pys xs).map .list
 | .tup xs=>(pys xs).map .tuple
 | _=>none
def pys:List D→Option (List PyData)
 | []=>some []
 | x :: xs=>(match py x,pys xs with
  | some d,some ds=>some (d :: ds)
  | _,_=>none)
end
mutual
theorem Zdl {g:G} {F:Hp} {c:List Addr}:∀ {v:V} {d:D} {z:PyData},Val g F c v d→py d=some z→Dp g.K F v z∧z.canLay0=true
 | _,_,_,.non,e=>by cases e; exact ⟨.non,by simp [PyData.canLay0]⟩
 | _,_,_,.bl b,e=>by cases e; exact ⟨.bl b,by simp [PyData.canLay0]⟩
 | _,_,_,.int i,e=>by cases e; exact ⟨.int i,by simp [PyData.canLay0]⟩
 | _,_,_,.str h,e=>by cases e; exact ⟨.str _,by simpa [PyData.canLay0] using h.1⟩
 | _,_,_,.lst (xs:=xs) h1 h2,e=>by
  rw [py] at e
  cases q:pys xs with
  | none=>rw [q] at e; cases e
  | some zs=>
   rw [q] at e; cases e
   obtain ⟨h,l⟩:=dps_of h2 q
   exact ⟨.lst (SqL.of h1) h,by simpa [PyData.canLay0] using l⟩
 | _,_,_,.rol (xs:=xs) h1 h2,e=>by
  rw [py] at e
  cases q:pys xs with
  | none=>rw [q] at e; cases e
  | some zs=>
   rw [q] at e; cases e
   obtain ⟨h,l⟩:=dps_of h2 q
   exact ⟨.lst h1 h,by simpa [PyData.canLay0] using l⟩
 | _,_,_,.tup (xs:=xs) h1 h2,e=>by
  rw [py] at e
  cases q:pys xs with
  | none=>rw [q] at e; cases e
  | some zs=>
   rw [q] at e; cases e
   obtain ⟨h,l⟩:=dps_of h2 q
   exact ⟨.tup h1.sq h,by simpa [PyData.canLay0] using l⟩
 | _,_,_,.tpo _ _,e=>by cases e
 | _,_,_,.dct _ _,e=>by cases e
 | _,_,_,.set _ _,e=>by cases e
 | _,_,_,.obj _ _ _,e=>by cases e
 | _,_,_,.cel _,e=>by cases e
 | _,_,_,.fn _,e=>by cases e
 | _,_,_,.ty _,e=>by cases e
 | _,_,_,.rdc _ _,e=>by cases e
 | _,_,_,.kdc _ _,e=>by cases e
theorem dps_of {g:G} {F:Hp} {c:List Addr}:∀ {v:List V} {d:List D} {z:List PyData},Vls g F c v d→pys d=some z→DpAll g.K F v z∧PyData.canLayAll0 z=true
 | _,_,_,.nil,e=>by cases e; exact ⟨.nil,by simp [PyData.canLayAll0]⟩
 | _,_,_,.cons (d:=d) (xs:=xs) h t,e=>by
  rw [pys] at e
  cases q1:py d with
  | none=>rw [q1] at e; cases e
  | some z1=>
   cases q2:pys xs with
   | none=>rw [q1,q2] at e; cases e
   | some z2=>
    rw [q1,q2] at e; cases e
    obtain ⟨h1,l1⟩:=Zdl h q1
    obtain ⟨h2,l2⟩:=dps_of t q2
    exact ⟨.cons h1 h2,by simp [PyData.canLayAll0,l1,l2]⟩
end
mutual
theorem Dp.mono {K:PySem.W.Frag} {F F':Hp} (e:Ex F F'):∀ {v:V} {z:PyData},Dp K F v z→Dp K F' v z
 | _,_,.non=>.non
 | _,_,.bl b=>.bl b
 | _,_,.int i=>.int i
 | _,_,.str x=>.str x
 | _,_,.lst h t=>.lst (Evl.ex_l e h) (DpAll.mono e t)
 | _,_,.tup h t=>.tup (Evl.ex_t e h) (DpAll.mono e t)
theorem DpAll.mono {K:PySem.W.Frag} {F F':Hp} (e:Ex F F'):∀ {v:List V} {z:List PyData},DpAll K F v z→DpAll K F' v z
 | _,_,.nil=>.nil
 | _,_,.cons h t=>.cons (Dp.mono e h) (DpAll.mono e t)
end
theorem Seen.dp {g:G} {c:List Addr} {S:Za} {H:Hp} {v:V} {d:D} {z:PyData} (h:Seen g c S H v d) (e:py d=some z):Dp g.K H v z∧z.canLay0=true:=by
 cases h with
 | same h=>
  obtain ⟨h1,h2⟩:=Zdl h e
  exact ⟨Dp.mono frz_ex h1,h2⟩
 | lst h1 h2=>
  rename_i xs
  rw [py] at e
  cases q:pys xs with
  | none=>rw [q] at e; cases e
  | some zs=>
   rw [q] at e; cases e
   obtain ⟨h,l⟩:=dps_of h2 q
   exact ⟨.lst (SqL.of h1) (DpAll.mono frz_ex h),by simpa [PyData.canLay0] using l⟩
 | dct=>cases e
 | obj=>cases e
 | kdc=>cases e
def pyD (S:Za) (x:D):Option PyData:=match py (dr S x) with
 | some z=>if z.depth≤64 then some z else none
 | none=>none
theorem pyD_ok {g:G} {c:List Addr} {S:Za} {H:Hp} {v:V} {d:D} {z:PyData} (r:Rep g c S H) (h:Val g (frz g c S H) c v d) (e:pyD S d=some z):Dp g.K H v z∧SeqAt.shaped z=true:=by
 unfold pyD at e
 cases q:py (dr S d) with
 | none=>rw [q] at e; cases e
 | some z'=>
  rw [q] at e
  have e':(if z'.depth≤64 then some z' else none)=some z:=e
  split at e'
  ·rename_i hd
   cases e'
   obtain ⟨h1,h2⟩:=(dr_seen r h).dp q
   exact ⟨h1,by unfold SeqAt.shaped; rw [h2,decide_eq_true hd]; rfl⟩
  ·cases e'
def eqvD (neg:Bool) (x y:D):M D:=fun S=>match pyD S x,pyD S y with
 | some a,some b=>.ok (.bl (if neg then !PyData.eqv a b else PyData.eqv a b)) S
 | _,_=>.bad
theorem ZP {g:G}:OpD g (rEqD g.K) (eqvD false):=by
 intro c S H v w d e Q E r hv hw o
 unfold eqvD at o
 split at o
 ·rename_i a b h1 h2
  obtain ⟨p1,q1⟩:=pyD_ok r hv h1
  obtain ⟨p2,q2⟩:=pyD_ok r hw h2
  exact ⟨a,b,p1,p2,q1,q2,Zh r o (.bl _)⟩
 ·exact o.elim
theorem Wi {g:G}:OpD g (rNeD g.K) (eqvD true):=by
 intro c S H v w d e Q E r hv hw o
 unfold eqvD at o
 split at o
 ·rename_i a b h1 h2
  obtain ⟨p1,q1⟩:=pyD_ok r hv h1
  obtain ⟨p2,q2⟩:=pyD_ok r hw h2
  exact ⟨a,b,p1,p2,q1,q2,Zh r o (.bl _)⟩
 ·exact o.elim
def cmpD (f:Int→Int→Bool) (k:List Nat→List Nat→Bool) (x y:D):M D:=match x,y with
 | .int i,.int j=>pure (.bl (f i j))
 | .str i,.str j=>pure (.bl (k i.cps.toList j.cps.toList))
 | _,_=>M.no
abbrev rCmpD (f:Int→Int→Bool) (k:List Nat→List Nat→Bool):R2:=fun x y H Q=>(rI0 fun i j=>.bl (f i j)) x y H Q∨∃ i j,x = .str i∧y = .str j∧Q (.bl (k i.cps.toList j.cps.toList)) H
theorem Zx {g:G} {f:Int→Int→Bool} {k:List Nat→List Nat→Bool}:OpD g (rCmpD f k) (cmpD f k):=by
 intro c S H v w d e Q E r hv hw o
 cases hv with
 | int i=>
  cases hw with
  | int j=>exact .inl ⟨i,j,rfl,rfl,Zh r o (.bl _)⟩
  | _=>exact o.elim
 | str h=>
  cases hw with
  | str h'=>exact .inr ⟨_,_,rfl,rfl,Zh r o (.bl _)⟩
  | _=>exact o.elim
 | _=>exact o.elim
def ltD:=cmpD (fun i j=>decide (i < j)) (fun a b=>decide (a < b))
def leD:=cmpD (fun i j=>decide (i≤j)) (fun a b=>!decide (b < a))
def gtD:=cmpD (fun i j=>decide (j < i)) (fun a b=>decide (b < a))
def geD:=cmpD (fun i j=>decide (j≤i)) (fun a b=>!decide (a < b))
theorem VT {X:Cx}:OpR X (compareOp .Lt) (rCmpD (fun i j=>decide (i < j)) (fun a b=>decide (a < b))):=op_lt.or op_lt_str
theorem Jf {X:Cx}:OpR X (compareOp .LtE) (rCmpD (fun i j=>decide (i≤j)) (fun a b=>!decide (b < a))):=op_le.or op_le_str
theorem WZ {X:Cx}:OpR X (compareOp .Gt) (rCmpD (fun i j=>decide (j < i)) (fun a b=>decide (b < a))):=op_gt.or op_gt_str
theorem ZgR {X:Cx}:OpR X (compareOp .GtE) (rCmpD (fun i j=>decide (j≤i)) (fun a b=>!decide (a < b))):=op_ge.or op_ge_str
def isD (neg:Bool) (x y:D):M D:=match x,y with
 | .bl a,.bl b=>pure (.bl (if neg then !decide (a=b) else decide (a=b)))
 | .non,.non=>pure (.bl (!neg))
 | .str _,.bl _=>pure (.bl neg)
 | .int _,.non | .str _,.non | .bl _,.non | .lst _,.non | .tup _,.non | .dct _,.non | .obj _ _,.non | .cel _,.non | .fn _,.non=>pure (.bl neg)
 | _,_=>M.no
abbrev rIsD (neg:Bool):R2:=fun x y H Q=>(y = .non∧Q (.bl (if neg then !decide (x = .non) else decide (x = .non))) H)∨(∃ a b,x = .bl a∧y = .bl b∧Q (.bl (if neg then !decide (a=b) else decide (a=b))) H)∨∃ z b,x = .str z∧y = .bl b∧Q (.bl neg) H
theorem ZdW {X:Cx}:OpR X (compareOp .Is) (fun x y H Q=>∃ z b,x = .str z∧y = .bl b∧Q (.bl false) H):=fun ps sh st G x y v u Q inv rx ry ⟨z,b,ex,ey,q⟩=>by
 subst ex ey
 obtain ⟨t,rfl⟩:=rx
 obtain rfl:u=Value.bool b:=ry
 exact wpAny_is_other rfl (by intro e; cases e) ⟨.bl false,G,inv,rfl,q⟩
theorem Zb7 {X:Cx}:OpR X (compareOp .Is) (rIsD false):=op_isN.or (op_is_bl.or ZdW)
theorem Zb2 {g:G} {neg:Bool}:OpD g (rIsD neg) (isD neg):=by
 intro c S H v w d e Q E r hv hw o
 have no:∀ {u:V},u ≠ .non→(if neg then !decide (u = .non) else decide (u = .non))=neg:=fun {u} h=>by
  cases neg <;> simp [h]
 cases hw with
 | non=>
  cases hv with
  | non=>exact .inl ⟨rfl,by cases neg <;> exact Zh r o (.bl _)⟩
  | bl b=>exact .inl ⟨rfl,by rw [no (by intro z; cases z)]; exact Zh r o (.bl _)⟩
  | int b=>exact .inl ⟨rfl,by rw [no (by intro z; cases z)]; exact Zh r o (.bl _)⟩
  | str b=>exact .inl ⟨rfl,by rw [no (by intro z; cases z)]; exact Zh r o (.bl _)⟩
  | lst _ _=>exact .inl ⟨rfl,by rw [no (by intro z; cases z)]; exact Zh r o (.bl _)⟩
  | tup _ _=>exact .inl ⟨rfl,by rw [no (by intro z; cases z)]; exact Zh r o (.bl _)⟩
  | cel _=>exact .inl ⟨rfl,by rw [no (by intro z; cases z)]; exact Zh r o (.bl _)⟩
  | fn _=>exact .inl ⟨rfl,by rw [no (by intro z; cases z)]; exact Zh r o (.bl _)⟩
  | dct _ _=>exact .inl ⟨rfl,by rw [no (by intro z; cases z)]; exact Zh r o (.bl _)⟩
  | obj _ _ _=>exact .inl ⟨rfl,by rw [no (by intro z; cases z)]; exact Zh r o (.bl _)⟩
  | _=>exact o.elim
 | bl b=>
  cases hv with
  | bl a=>exact .inr (.inl ⟨a,b,rfl,rfl,Zh r o (.bl _)⟩)
  | str _=>exact .inr (.inr ⟨_,b,rfl,rfl,Zh r o (.bl _)⟩)
  | _=>exact o.elim
 | _=>cases hv <;> exact o.elim
section
variable {X:Cx} {g:G} {W:WX} {a b e o:Expr} {es:List Expr} {m ma mb:EM} {ms:AM} {pos:Pos} {cur:Option CuE} {hid:List Addr}
def mNil:AM:=fun _=>pure []
def mCons (m:EM) (ms:AM):AM:=fun τ=>m τ >>= fun x=>ms τ >>= fun xs=>pure (x :: xs)
theorem Zb:PA X [] (tAr g W mNil):=PA.imp pa_nil fun σ H Q h=>by
 obtain ⟨c,S,τ,r,s,o⟩:=h
 exact o H c (Fut.refl r) [] .nil
theorem d_acons (ha:PE X e (tE g W m)) (hr:PA X es (tAr g W ms)) (hs:starEach (e :: es) X.env=(false,eval e X.env) :: starEach es X.env:=by rfl):PA X (e :: es) (tAr g W (mCons m ms)):=
 PA.imp (pa_cons ha hr hs) fun σ H Q h=>YE (k:=fun x τ=>ms τ >>= fun xs=>pure (x :: xs)) h fun c S H1 τ v d r1 s1 v1 o1=>
  ⟨c,S,τ,r1,s1,(Out.bind o1).imp fun ds c2 S2 H2 f2 o2 vs hvs=>o2 H2 c2 (Fut.refl f2.rep) (v :: vs) (.cons (f2.val v1) hvs)⟩
def mTup (ms:AM):EM:=fun τ=>ms τ >>= fun xs=>M.chk (decide (xs.length≤sizeLine)) (pure (.tup xs))
def mLst (ms:AM):EM:=fun τ=>ms τ >>= fun xs=>M.chk (decide (xs.length≤sizeLine)) (pure (.lst xs))
def newCell (x:Cell):M D:=fun S=>.ok (.cel S.length) (S++[x])
def mLstC (ms:AM):EM:=fun τ=>ms τ >>= fun xs=>M.chk (decide (xs.length≤sizeLine)) (newCell (.lst xs))
theorem d_tup {k:Nat} (h:PA X es (tAr g W ms)):PE X (.Tuple es k pos) (tE g W (mTup ms)):=
 PE.imp (pe_tupF h) fun σ H Q h=>YZ (R:=RV g Q) (k:=fun xs _=>M.chk (decide (xs.length≤sizeLine)) (pure (D.tup xs))) h fun c S H1 τ vs ds r1 s1 v1 o1=>by
  obtain ⟨hl,o2⟩:=Out.chk o1
  exact ⟨by rw [v1.length]; exact of_decide_eq_true hl,XM r1 o2 v1⟩
theorem d_lst (h:PA X es (tAr g W ms)):PE X (.List es pos) (tE g W (mLst ms)):=
 PE.imp (pe_lst h) fun σ H Q h=>YZ (R:=RV g Q) (k:=fun xs _=>M.chk (decide (xs.length≤sizeLine)) (pure (D.lst xs))) h fun c S H1 τ vs ds r1 s1 v1 o1=>by
  obtain ⟨hl,o2⟩:=Out.chk o1
  exact ⟨by rw [v1.length]; exact of_decide_eq_true hl,fun p hp=>YR r1 o2 v1 hp⟩
theorem snoc_at (c:List Addr) (S:Za) (p:Addr) (h:c.length=S.length):(c++[p])[S.length]? = some p:=by rw [← h]; simp
theorem QG {c:List Addr} {S:Za} {H:Hp} {Q:VK} {p:Addr} {E:XK} {x:Cell} {o:HO} (r:Rep g c S H) (hx:x.alive=true) (ok:Ya g (frz g c S H) c (upd H p o) p x) (q:Out g c S H (RV g Q) E (newCell x S)) (hp:H p=none):Q (.ref p) (upd H p o):=by
 have f:=Fut.cell (o:=o) r hp hx ok
 exact q _ _ f _ (.cel (snoc_at c S p r.len))
theorem d_lstC (h:PA X es (tAr g W ms)):PE X (.List es pos) (tE g W (mLstC ms)):=
 PE.imp (pe_lst h) fun σ H Q h=>YZ (k:=fun xs _=>M.chk (decide (xs.length≤sizeLine)) (newCell (.lst xs))) h fun c S H1 τ vs ds r1 s1 v1 o1=>by
  obtain ⟨hl,o2⟩:=Out.chk o1
  exact ⟨by rw [v1.length]; exact of_decide_eq_true hl,fun p hp=>QG (x:=.lst ds) r1 rfl ⟨vs,upd_same,v1⟩ o2 hp⟩
def Xe:D→Option Key
 | .int i=>some (.inl i)
 | .str x=>some (.inr x)
 | _=>none
theorem YN {F:Hp} {c:List Addr} {v:V} {d:D} {k:Key} (h:Val g F c v d) (e:Xe d=some k):v=kV k:=by
 cases h with
 | int i=>cases e; rfl
 | str h=>cases e; rfl
 | _=>cases e
def valD (kvs:List (Key × D)) (k:Key):Option D:=(kvs.find? fun kv=>decide (kv.1=k)).map (·.2)
theorem VKv.val {F:Hp} {c:List Addr}:∀ {ws:List (Key × V)} {kvs:List (Key × D)} {k:Key},VKv g F c ws kvs→(valD kvs k=none∧valV ws k=none)∨∃ v d,valD kvs k=some d∧valV ws k=some v∧Val g F c v d
 | _,_,_,.nil=>.inl ⟨rfl,rfl⟩
 | _,_,k,.cons (k:=k') (v:=v) (d:=d) (vs:=vs) (xs:=xs) h t=>by
  by_cases e:k'=k
  ·refine .inr ⟨v,d,?_,?_,h⟩
   ·simp [valD,List.find?_cons,e]
   ·simp [valV,List.find?_cons,e]
  ·have e1:valD ((k',d) :: xs) k=valD xs k:=by simp [valD,List.find?_cons,e]
   have e2:valV ((k',v) :: vs) k=valV vs k:=by simp [valV,List.find?_cons,e]
   rw [e1,e2]
   exact VKv.val t
def ixD (x y:D):M D:=fun S=>match dr S x,y with
 | .lst xs,.int i | .rol xs,.int i | .tup xs,.int i=>(match atI xs i with
  | some d=>.ok d S
  | none=>.bad)
 | .str z,.int i=>(match atI z.cps.toList i with
  | some c=>.ok (.str ⟨#[c]⟩) S
  | none=>.bad)
 | .dct kvs,k=>(match Xe k with
  | some k=>(match valD kvs k with
   | some d=>.ok d S
   | none=>.bad)
  | none=>.bad)
 | .rdc kvs,k=>(match Xe k with
  | some k=>(match valD kvs k with
   | some d=>.ok d S
   | none=>.bad)
  | none=>.bad)
 | _,_=>.bad
abbrev Zd3:R2:=fun x y H Q=>∃ a v,x = .ref a∧DGet H a y (some v)∧Q v H
theorem ix_dict (hu:X.A.units+1 < cLine):IxR X Zd3:=by
 intro value slice pins s σ H x y v u Q I rx ry h hs
 obtain ⟨a,w,rfl,dg,q⟩:=h
 cases rx
 have hT:=dict_typeIs I dg
 refine PyProof.Rows.tail_any (ops:=[.ref a,u]) hT PySem.F.slot_dict_getitem.lookup ?_ hs
 exact d_getItem hu I dg ry fun w' s3 I3 rw'=>⟨w,H,I3,rw',q⟩
theorem UT {F:Hp} {c:List Addr} {vs:List V} {xs:List D} {i:Int} {d:D} (h:Vls g F c vs xs) (e:atI xs i=some d):∃ v,atI vs i=some v∧Val g F c v d:=by
 unfold atI at *
 rw [h.length]
 cases q:ixN xs.length i with
 | none=>rw [q] at e; cases e
 | some j=>
  rw [q] at e
  exact h.get e
theorem strOk_mem {x:Str} (h:SOk x) {c:Nat} (hc:c ∈ x.cps.toList):c < 0x110000:=by
 have h1:=h.1
 unfold PyData.strOk at h1
 rw [Array.all_eq_true'] at h1
 exact of_decide_eq_true (h1 c (by simpa using hc))
theorem sOk_one {c:Nat} (h:c < 0x110000):SOk ⟨#[c]⟩:=by
 refine ⟨?_,?_⟩
 ·unfold PyData.strOk
  simp [h]
 ·show 1≤sizeLine
  decide
theorem atI_mem {α:Type} {xs:List α} {i:Int} {d:α} (e:atI xs i=some d):d ∈ xs:=by
 unfold atI at e
 cases q:ixN xs.length i with
 | none=>rw [q] at e; cases e
 | some j=>rw [q] at e; exact List.mem_of_getElem? e
theorem ZgQ:OpD g (fun x y H Q=>rIx g.K x y H Q∨Zd3 x y H Q) ixD:=by
 intro c S H v w d e Q E r hv hw o
 have sv:=dr_seen r hv
 unfold ixD at o
 split at o
 ·rename_i xs i h1
  rw [h1] at sv
  obtain ⟨a,vs,e1,k1,l1⟩:=sv.lst'
  cases hw
  split at o
  ·rename_i z hz
   obtain ⟨u,h2,h3⟩:=UT l1 hz
   exact .inl (.inl ⟨a,vs,i,u,e1,rfl,SqL.of k1,h2,Zh r o h3⟩)
  ·exact o.elim
 ·rename_i xs i h1
  rw [h1] at sv
  obtain ⟨a,vs,e1,k1,l1⟩:=sv.rol
  cases hw
  split at o
  ·rename_i z hz
   obtain ⟨u,h2,h3⟩:=UT l1 hz
   exact .inl (.inl ⟨a,vs,i,u,e1,rfl,k1,h2,Zh r o h3⟩)
  ·exact o.elim
 ·rename_i xs i h1
  rw [h1] at sv
  obtain ⟨a,vs,e1,k1,l1⟩:=sv.tup
  cases hw
  split at o
  ·rename_i z hz
   obtain ⟨u,h2,h3⟩:=UT l1 hz
   exact .inl (.inr (.inl ⟨a,vs,i,u,e1,rfl,k1,h2,Zh r o h3⟩))
  ·exact o.elim
 ·rename_i z i h1
  rw [h1] at sv
  obtain ⟨e1,k1⟩:=sv.str
  cases hw
  split at o
  ·rename_i u hz
   exact .inl (.inr (.inr ⟨z,i,u,e1,rfl,k1.2,hz,Zh r o (.str (sOk_one (strOk_mem k1 (atI_mem hz))))⟩))
  ·exact o.elim
 ·rename_i kvs h1
  rw [h1] at sv
  obtain ⟨a,ws,e1,k1,l1⟩:=sv.dct'
  split at o
  ·rename_i k hk
   have ew:=YN hw hk
   rcases l1.val (k:=k) with ⟨h2,h3⟩ | ⟨u,z,h2,h3,h4⟩
   ·rw [h2] at o; exact o.elim
   ·rw [h2] at o
    refine .inr ⟨a,u,e1,?_,Zh r o h4⟩
    subst ew
    rw [← h3]
    exact DGet.k k1
  ·exact o.elim
 ·rename_i kvs h1
  rw [h1] at sv
  obtain ⟨a,ob,ws,e1,k1,l1⟩:=sv.rdc'
  split at o
  ·rename_i k hk
   have ew:=YN hw hk
   rcases l1.val (k:=k) with ⟨h2,h3⟩ | ⟨u,z,h2,h3,h4⟩
   ·rw [h2] at o; exact o.elim
   ·rw [h2] at o
    refine .inr ⟨a,u,e1,?_,Zh r o h4⟩
    subst ew
    rw [← h3]
    exact .inl ⟨ws,k,.inr ⟨ob,k1⟩,rfl,rfl⟩
  ·exact o.elim
 ·exact o.elim
theorem Zh1 (hu:X.A.units+1 < cLine) (ha:PE X a (tE (gx X cur hid) W ma)) (hb:PE X b (tE (gx X cur hid) W mb)) (hs:PlainIx b):PE X (.Subscript a b pos) (tE (gx X cur hid) W (mBin ixD ma mb)):=
 PE.imp (pe_ix (ix_seq.or (ix_dict hu)) ha hb hs) fun _ _ _ q=>QQ ZgQ q
abbrev OM:=DSt→M (Option Int)
def mNoPart:OM:=fun _=>pure none
def asI (d:D):M Int:=match d with
 | .int i=>pure i
 | _=>M.no
def mPart (m:EM):OM:=fun τ=>m τ >>= asI >>= fun i=>pure (some i)
abbrev RO (Q:Option Int→Hp→Prop):Option Int→List Addr→Za→Hp→Prop:=fun b _ _ H'=>Q b H'
def tO (g:G) (W:WX) (m:OM):TO:=fun σ H Q=>∃ c S τ,Rep g c S H∧Sl g (frz g c S H) c σ τ∧Out g c S H (RO Q) (WS W σ) (m τ S)
theorem PO.imp {e:Option Expr} {t t':TO} (h:PO X e t) (k:∀ σ H Q,t' σ H Q→t σ H Q):PO X e t':=⟨fun pins s σ H Q I q=>h.run pins s σ H Q I (k σ H Q q)⟩
theorem VE:PO X none (tO g W mNoPart):=PO.imp po_none fun σ H Q h=>by
 obtain ⟨c,S,τ,r,s,o⟩:=h
 exact o H c (Fut.refl r)
theorem d_po (h:PE X e (tE g W m)):PO X (some e) (tO g W (mPart m)):=PO.imp (po_some h) fun σ H Q h=>by
 obtain ⟨c,S,τ,r,s,o⟩:=h
 unfold mPart at o
 rw [Y4] at o
 refine ⟨c,S,τ,r,s,(Out.bind o).imp fun d c' S' H' f o' v hv=>?_⟩
 cases hv with
 | int i=>exact ⟨i,rfl,o' H' c' (Fut.refl f.rep)⟩
 | _=>exact o'.elim
def cut {α:Type} (xs:List α) (lo hi:Option Int):List α:=(xs.drop (HT.sIx xs.length 0 lo)).take (HT.sIx xs.length xs.length hi - HT.sIx xs.length 0 lo)
theorem Vls.cut {F:Hp} {c:List Addr} {vs:List V} {xs:List D} (h:Vls g F c vs xs) (lo hi:Option Int):Vls g F c (cutV vs lo hi) (ND.cut xs lo hi):=by
 unfold cutV ND.cut
 rw [h.length]
 exact (h.drop _).take _
theorem JG {α:Type} (xs:List α) (lo hi:Option Int) (h:HT.sIx xs.length 0 lo=0∧HT.sIx xs.length xs.length hi=xs.length):cut xs lo hi=xs:=by
 unfold cut
 rw [h.1,h.2]
 simp
theorem sOk_cut {z:Str} (h:SOk z) (lo hi:Option Int):SOk (cutS z lo hi):=by
 refine ⟨?_,?_⟩
 ·unfold PyData.strOk
  rw [Array.all_eq_true']
  intro c hc
  have:c ∈ z.cps.toList:=by
   have hc':c ∈ ((z.cps.toList.drop (HT.sIx z.length 0 lo)).take (HT.sIx z.length z.length hi - HT.sIx z.length 0 lo)):=by simpa [cutS] using hc
   exact List.mem_of_mem_drop (List.mem_of_mem_take hc')
  exact decide_eq_true (strOk_mem h this)
 ·show (cutS z lo hi).cps.size≤sizeLine
  have:(cutS z lo hi).cps.size≤z.cps.toList.length:=by
   unfold cutS
   simp only [List.size_toArray,List.length_take,List.length_drop]
   omega
  exact Nat.le_trans this (by rw [Array.length_toList]; exact h.2)
def slD (x:D) (lo hi:Option Int):M D:=fun S=>match dr S x with
 | .lst xs | .rol xs=>.ok (.lst (cut xs lo hi)) S
 | .tup xs=>.ok (.tup (cut xs lo hi)) S
 | .str z=>.ok (.str (cutS z lo hi)) S
 | _=>.bad
abbrev ZnC (K:PySem.W.Frag):V→Option Int→Option Int→Hp→VK→Prop:=fun x lo hi H Q=>(rSlL K x lo hi H Q∨rSlF K x lo hi H Q)∨rSlS x lo hi H Q
theorem Zg3 {c:List Addr} {S:Za} {H:Hp} {v:V} {d:D} {lo hi:Option Int} {Q:VK} {E:XK} (r:Rep g c S H) (hv:Val g (frz g c S H) c v d) (o:Out g c S H (RV g Q) E (slD d lo hi S)):ZnC g.K v lo hi H Q:=by
 have sv:=dr_seen r hv
 unfold slD at o
 split at o
 ·rename_i xs h1
  rw [h1] at sv
  obtain ⟨a,vs,e1,k1,l1⟩:=sv.lst'
  exact .inl (.inl ⟨a,vs,e1,SqL.of k1,fun p hp=>YR r o (l1.cut lo hi) hp⟩)
 ·rename_i xs h1
  rw [h1] at sv
  obtain ⟨a,vs,e1,k1,l1⟩:=sv.rol
  exact .inl (.inl ⟨a,vs,e1,k1,fun p hp=>YR r o (l1.cut lo hi) hp⟩)
 ·rename_i xs h1
  rw [h1] at sv
  obtain ⟨a,vs,e1,k1,l1⟩:=sv.tup
  refine .inl (.inr ⟨a,vs,e1,k1,fun hw=>?_,fun _=>XM r o (l1.cut lo hi)⟩)
  rw [l1.length] at hw
  rw [JG xs lo hi hw] at o
  subst e1
  cases sv with
  | same sv=>exact Zh r o sv
 ·rename_i z h1
  rw [h1] at sv
  obtain ⟨e1,k1⟩:=sv.str
  exact .inr ⟨z,e1,k1.2,Zh r o (.str (sOk_cut k1 lo hi))⟩
 ·exact o.elim
def mSl (m:EM) (ml mh:OM):EM:=fun τ=>m τ >>= fun x=>ml τ >>= fun lo=>mh τ >>= fun hi=>slD x lo hi
theorem d_sl {lo hi:Option Expr} {ml mh:OM} {p2:Pos} (he:PE X e (tE (gx X cur hid) W m)) (hl:PO X lo (tO (gx X cur hid) W ml)) (hh:PO X hi (tO (gx X cur hid) W mh)):PE X (.Subscript e (.Slice lo hi none p2) pos) (tE (gx X cur hid) W (mSl m ml mh)):=
 PE.imp (pe_slice ((sl_list.or Zcn).or sl_str) he hl hh) fun σ H Q h=>YE (k:=fun x τ=>ml τ >>= fun lo=>mh τ >>= fun hi=>slD x lo hi) h fun c S H1 τ v d r1 s1 v1 o1=>
  ⟨c,S,τ,r1,s1,(Out.bind o1).imp fun lo c2 S2 H2 f2 o2=>⟨c2,S2,τ,f2.rep,s1.mono f2.ex f2.pre,(Out.bind o2).imp fun hi c3 S3 H3 f3 o3=>Zg3 f3.rep (f3.val (f2.val v1)) o3⟩⟩
def strIn (w z:Str):Bool:=if w.cps.size=1 then decide (w.cps.getD 0 0 ∈ z.cps.toList) else !(Builtin.Str.occurrences z w 0 z.length 1).isEmpty
def flatP:PyData→Bool
 | .none | .bool _ | .int _ | .str _=>true
 | _=>false
def inB (x y:D) (S:Za):Option Bool:=match dr S y with
 | .str z=>(match x with
  | .str w=>some (strIn w z)
  | _=>none)
 | .dct kvs=>(match Xe x with
  | some k=>some (valD kvs k).isSome
  | none=>none)
 | .rdc kvs=>(match Xe x with
  | some k=>some (valD kvs k).isSome
  | none=>none)
 | .tup _=>(match pyD S x,pyD S y with
  | some a,some (.tuple ds)=>if flatP a && ds.all flatP then some (ds.any fun z=>PyData.eqv z a) else none
  | _,_=>none)
 | _=>(match pyD S x,pyD S y with
  | some a,some (.list ds)=>some (ds.any fun z=>PyData.eqv z a)
  | _,_=>none)
def inD (neg:Bool) (x y:D):M D:=fun S=>match inB x y S with
 | some b=>.ok (.bl (if neg then !b else b)) S
 | none=>.bad
theorem dp_flat {K:PySem.W.Frag} {H:Hp} {v:V} {z:PyData} (h:Dp K H v z) (f:flatP z=true):flatV v=true∧∀ {w:V} {y:PyData},Dp K H w y→flatP y=true→eqV v w=PyData.eqv z y:=by
 cases h with
 | non=>
  refine ⟨rfl,fun hw fy=>?_⟩
  cases hw <;> first | rfl | cases fy
 | bl b=>
  refine ⟨rfl,fun hw fy=>?_⟩
  cases hw <;> first | rfl | cases fy
 | int b=>
  refine ⟨rfl,fun hw fy=>?_⟩
  cases hw <;> first | rfl | cases fy
 | str b=>
  refine ⟨rfl,fun hw fy=>?_⟩
  cases hw <;> first | rfl | cases fy
 | lst _ _=>cases f
 | tup _ _=>cases f
theorem Qk {K:PySem.W.Frag} {H:Hp} {w:V} {y:PyData} (hw:Dp K H w y) (fy:flatP y=true):∀ {vs:List V} {zs:List PyData},DpAll K H vs zs→zs.all flatP=true→vs.all flatV=true∧inV w vs=zs.any fun z=>PyData.eqv z y
 | _,_,.nil,_=>⟨rfl,rfl⟩
 | _,_,.cons h t,f=>by
  rw [List.all_cons,Bool.and_eq_true] at f
  obtain ⟨h1,h2⟩:=Qk hw fy t f.2
  obtain ⟨h3,h4⟩:=dp_flat h f.1
  refine ⟨by rw [List.all_cons,h1,h3]; rfl,?_⟩
  unfold inV at *
  rw [List.any_cons,List.any_cons,h2,h4 hw fy]
abbrev rInS (neg:Bool):R2:=fun x y H Q=>∃ i j,x = .str i∧y = .str j∧Q (.bl (if neg then !strIn i j else strIn i j)) H
theorem one_of {w:Str} (h:w.cps.size=1):w=⟨#[w.cps.getD 0 0]⟩:=by
 obtain ⟨a⟩:=w
 obtain ⟨l⟩:=a
 cases l with
 | nil=>cases h
 | cons x l=>
  cases l with
  | nil=>rfl
  | cons y l=>simp at h
theorem or_inS:OpR X (compareOp .In) (rInS false):=by
 intro pins s σ H x y v u Q I rx ry q
 obtain ⟨i,j,e1,e2,q⟩:=q
 have q:Q (.bl (strIn i j)) H:=q
 by_cases h:i.cps.size=1
 ·unfold strIn at q
  rw [if_pos h] at q
  refine op_in_sign pins s σ H x y v u Q I rx ry ⟨i.cps.getD 0 0,j,?_,e2,q⟩
  rw [e1]
  exact congrArg V.str (one_of h)
 ·unfold strIn at q
  rw [if_neg h] at q
  exact op_in_str pins s σ H x y v u Q I rx ry ⟨i,j,e1,e2,q⟩
theorem or_notInS:OpR X (compareOp .NotIn) (rInS true):=by
 intro pins s σ H x y v u Q I rx ry q
 obtain ⟨i,j,e1,e2,q⟩:=q
 have q:Q (.bl (!strIn i j)) H:=q
 by_cases h:i.cps.size=1
 ·unfold strIn at q
  rw [if_pos h] at q
  refine op_notIn_sign pins s σ H x y v u Q I rx ry ⟨i.cps.getD 0 0,j,?_,e2,q⟩
  rw [e1]
  exact congrArg V.str (one_of h)
 ·unfold strIn at q
  rw [if_neg h] at q
  exact op_notin_str pins s σ H x y v u Q I rx ry ⟨i,j,e1,e2,q⟩
abbrev rDin (neg:Bool):R2:=fun y x H Q=>∃ a o,x = .ref a∧DGet H a y o∧Q (.bl (if neg then !o.isSome else o.isSome)) H
theorem or_din (hu:X.A.units+1 < cLine):OpR X (compareOp .In) (rDin false):=by
 intro pins s σ H x y v u Q I rx ry q
 obtain ⟨a,o,rfl,dg,q⟩:=q
 cases ry
 exact d_in hu I dg rx fun s3 I3=>⟨.bl o.isSome,H,I3,rfl,q⟩
theorem or_dnotin (hu:X.A.units+1 < cLine):OpR X (compareOp .NotIn) (rDin true):=by
 intro pins s σ H x y v u Q I rx ry q
 obtain ⟨a,o,rfl,dg,q⟩:=q
 cases ry
 exact d_notIn hu I dg rx fun s3 I3=>⟨.bl (!o.isSome),H,I3,rfl,q⟩
abbrev Zd2 (K:PySem.W.Frag) (neg:Bool):R2:=fun x y H Q=>∃ d ds,Dp K H x d∧Dp K H y (.list ds)∧SeqAt.shaped d=true∧SeqAt.shaped (.list ds)=true∧Q (.bl (if neg then !ds.any fun z=>PyData.eqv z d else ds.any fun z=>PyData.eqv z d)) H
abbrev rInAny (K:PySem.W.Frag) (neg:Bool):R2:=fun x y H Q=>((rInS neg x y H Q∨rDin neg x y H Q)∨rIn K neg x y H Q)∨Zd2 K neg x y H Q
theorem or_in (hu:X.A.units+65 < cLine):OpR X (compareOp .In) (rInAny X.K false):=((or_inS.or (or_din (by omega))).or op_in_seq).or (op_inD hu)
theorem or_notin (hu:X.A.units+65 < cLine):OpR X (compareOp .NotIn) (rInAny X.K true):=((or_notInS.or (or_dnotin (by omega))).or op_notIn_seq).or (op_notInD hu)
theorem Wh {neg:Bool}:OpD g (rInAny g.K neg) (inD neg):=by
 intro c S H v w d e Q E r hv hw o
 unfold inD at o
 cases q:inB d e S with
 | none=>rw [q] at o; exact o.elim
 | some b=>
  rw [q] at o
  have sw:=dr_seen r hw
  unfold inB at q
  split at q
  ·rename_i z h1
   rw [h1] at sw
   obtain ⟨e1,_⟩:=sw.str
   split at q
   ·rename_i x
    cases q
    cases hv with
    | str hx=>exact .inl (.inl (.inl ⟨x,z,rfl,e1,Zh r o (.bl _)⟩))
   ·cases q
  ·rename_i kvs h1
   rw [h1] at sw
   obtain ⟨a,ws,e1,k1,l1⟩:=sw.dct'
   split at q
   ·rename_i k hk
    cases q
    have ew:=YN hv hk
    refine .inl (.inl (.inr ⟨a,valV ws k,e1,?_,?_⟩))
    ·rw [ew]; exact DGet.k k1
    ·rcases l1.val (k:=k) with ⟨h2,h3⟩ | ⟨u,z,h2,h3,h4⟩
     ·rw [h3]; rw [h2] at o; exact Zh r o (.bl _)
     ·rw [h3]; rw [h2] at o; exact Zh r o (.bl _)
   ·cases q
  ·rename_i kvs h1
   rw [h1] at sw
   obtain ⟨a,ob,ws,e1,k1,l1⟩:=sw.rdc'
   split at q
   ·rename_i k hk
    cases q
    have ew:=YN hv hk
    refine .inl (.inl (.inr ⟨a,valV ws k,e1,?_,?_⟩))
    ·rw [ew]; exact .inl ⟨ws,k,.inr ⟨ob,k1⟩,rfl,rfl⟩
    ·rcases l1.val (k:=k) with ⟨h2,h3⟩ | ⟨u,z,h2,h3,h4⟩
     ·rw [h3]; rw [h2] at o; exact Zh r o (.bl _)
     ·rw [h3]; rw [h2] at o; exact Zh r o (.bl _)
   ·cases q
  ·rename_i xs h1
   split at q
   ·rename_i z ds p1 p2
    split at q
    ·rename_i hf
     cases q
     rw [Bool.and_eq_true] at hf
     obtain ⟨d1,_⟩:=pyD_ok r hv p1
     obtain ⟨d2,_⟩:=pyD_ok r hw p2
     cases d2 with
     | tup hs ht=>
      obtain ⟨f1,f2⟩:=Qk d1 hf.1 ht hf.2
      refine .inl (.inr ⟨_,_,rfl,.inr hs,(dp_flat d1 hf.1).1,f1,?_⟩)
      rw [f2]
      exact Zh r o (.bl _)
    ·cases q
   ·cases q
  ·split at q
   ·rename_i z ds p1 p2
    cases q
    obtain ⟨d1,q1⟩:=pyD_ok r hv p1
    obtain ⟨d2,q2⟩:=pyD_ok r hw p2
    exact .inr ⟨z,ds,d1,d2,q1,q2,Zh r o (.bl _)⟩
   ·cases q
end
abbrev Cur:=Option CuE
section
variable {X:Cx} {g:G} {W:WX} {a b e o:Expr} {es:List Expr} {ma mb mc mo:EM} {ms:AM} {pos p:Pos} {cur:Cur} {hid:List Addr}
def CbD (g:G) (r:List V→Hp→VK→Prop) (f:List D→M D):Prop:=∀ (c:List Addr) (S:Za) (H:Hp) (vs:List V) (ds:List D) (Q:VK) (E:XK),Rep g c S H→Vls g (frz g c S H) c vs ds→Out g c S H (RV g Q) E (f ds S)→r vs H Q
def mCall (f:List D→M D) (ms:AM):EM:=fun τ=>ms τ >>= f
theorem Ky {r:List V→Hp→VK→Prop} {f:List D→M D} (hf:CbD g r f) {σ:St} {H:Hp} {Q:VK} (h:tE g W (mCall f ms) σ H Q):tCB r (tAr g W ms) σ H Q:=
 YZ (R:=RV g Q) (k:=fun xs _=>f xs) h fun c S H1 τ vs ds r1 s1 v1 o1=>hf c S H1 vs ds Q _ r1 v1 o1
theorem d_callB {x:Str} {id:String} {r:List V→Hp→VK→Prop} {f:List D→M D} (hc:CallR X (.builtin id) r) (hf:CbD g r f) (hg:Gl X x) (hm:X.mg x=none) (hv:bootBuiltins x=some (.builtin id)) (ha:PA X (e :: es) (tAr g W ms))
 (hn:x ≠ "__name__" := by decide) (hdb:(x == ("__debug__" : Str))=false:=by decide) (he:starEach (e :: es) X.env=(false,eval e X.env) :: starEach es X.env:=by rfl) (hpl:(backTo pos (starEach es X.env)).any (·.1)=false:=by rfl) :
 PE X (.Call (.Name x p) (e :: es) [] pos) (tE g W (mCall f ms)):=PE.imp (pe_callB hc hg hm hv ha hn hdb he hpl) fun _ _ _ q=>Ky hf q
theorem d_callTy {x:Str} {T:String} {r:List V→Hp→VK→Prop} {f:List D→M D} (hc:CallR X (.type T) r) (hf:CbD g r f) (hg:Gl X x) (hm:X.mg x=none) (hv:bootBuiltins x=some (.type T)) (ha:PA X (e :: es) (tAr g W ms))
 (hn:x ≠ "__name__" := by decide) (hdb:(x == ("__debug__" : Str))=false:=by decide) (he:starEach (e :: es) X.env=(false,eval e X.env) :: starEach es X.env:=by rfl) (hpl:(backTo pos (starEach es X.env)).any (·.1)=false:=by rfl) :
 PE X (.Call (.Name x p) (e :: es) [] pos) (tE g W (mCall f ms)):=PE.imp (pe_callTy hc hg hm hv ha hn hdb he hpl) fun _ _ _ q=>Ky hf q
theorem UP {F:Hp} {c:List Addr} {vs:List V} {d:D} (h:Vls g F c vs [d]):∃ v,vs=[v]∧Val g F c v d:=by
 cases h with
 | cons h t=>cases t; exact ⟨_,rfl,h⟩
theorem ZfB {F:Hp} {c:List Addr} {vs:List V} {d e:D} (h:Vls g F c vs [d,e]):∃ v w,vs=[v,w]∧Val g F c v d∧Val g F c w e:=by
 cases h with
 | cons h t=>obtain ⟨w,rfl,hw⟩:=UP t; exact ⟨_,w,rfl,h,hw⟩
def ZgL (ds:List D):M D:=fun S=>match ds with
 | [x]=>(match dr S x with
  | .lst xs | .rol xs | .tup xs=>.ok (.int xs.length) S
  | .str z=>.ok (.int z.length) S
  | .dct kvs=>.ok (.int kvs.length) S
  | _=>.bad)
 | _=>.bad
abbrev rLenD (K:PySem.W.Frag):List V→Hp→VK→Prop:=fun xs H Q=>((∃ p ys,xs=[.ref p]∧(SqL K H p ys∨SqT K H p ys)∧Q (.int ys.length) H)∨(∃ z,xs=[.str z]∧z.length≤sizeLine∧Q (.int z.length) H))∨(∃ a kvs,xs=[V.ref a]∧H a=some (.dK kvs)∧Q (.int kvs.length) H)
theorem Zdf:CallR X (.builtin "len") (rLenD X.K):=(call_len_seq.or call_len_str).or call_lenD
theorem cd_len:CbD g (rLenD g.K) ZgL:=by
 intro c S H vs ds Q E r hv o
 unfold ZgL at o
 split at o
 ·obtain ⟨v,rfl,hv1⟩:=UP hv
  have sv:=dr_seen r hv1
  split at o
  ·rename_i xs h1
   rw [h1] at sv
   obtain ⟨a,vs,rfl,k1,l1⟩:=sv.lst'
   rw [← l1.length] at o
   exact .inl (.inl ⟨a,vs,rfl,.inl (SqL.of k1),Zh r o (.int _)⟩)
  ·rename_i xs h1
   rw [h1] at sv
   obtain ⟨a,vs,rfl,k1,l1⟩:=sv.rol
   rw [← l1.length] at o
   exact .inl (.inl ⟨a,vs,rfl,.inl k1,Zh r o (.int _)⟩)
  ·rename_i xs h1
   rw [h1] at sv
   obtain ⟨a,vs,rfl,k1,l1⟩:=sv.tup
   rw [← l1.length] at o
   exact .inl (.inl ⟨a,vs,rfl,.inr k1,Zh r o (.int _)⟩)
  ·rename_i z h1
   rw [h1] at sv
   obtain ⟨rfl,k1⟩:=sv.str
   exact .inl (.inr ⟨z,rfl,k1.2,Zh r o (.int _)⟩)
  ·rename_i kvs h1
   rw [h1] at sv
   obtain ⟨a,ws,rfl,k1,l1⟩:=sv.dct'
   rw [← l1.length] at o
   exact .inr ⟨a,ws,rfl,k1,Zh r o (.int _)⟩
  ·exact o.elim
 ·exact o.elim
def blsOf:List D→Option (List Bool)
 | []=>some []
 | .bl b :: r=>(blsOf r).map (b :: ·)
 | _=>none
theorem Jx {F:Hp} {c:List Addr}:∀ {vs:List V} {xs:List D} {bs:List Bool},Vls g F c vs xs→blsOf xs=some bs→vs=bs.map V.bl
 | _,_,_,.nil,e=>by cases e; rfl
 | _,_,bs,.cons (xs:=xs) h t,e=>by
  cases h with
  | bl b=>
   rw [blsOf] at e
   cases q:blsOf xs with
   | none=>rw [q] at e; cases e
   | some cs=>rw [q] at e; cases e; rw [Jx t q]; rfl
  | _=>cases e
def overBls (f:List Bool→Bool) (ds:List D):M D:=fun S=>match ds with
 | [x]=>(match dr S x with
  | .lst xs=>(match blsOf xs with
   | some bs=>.ok (.bl (f bs)) S
   | none=>.bad)
  | _=>.bad)
 | _=>.bad
abbrev rBls (K:PySem.W.Frag) (f:List Bool→Bool):List V→Hp→VK→Prop:=fun vs H Q=>∃ (a:Addr) (bs:List Bool),vs=[V.ref a]∧SqL K H a (bs.map V.bl)∧Q (.bl (f bs)) H
theorem JB {f:List Bool→Bool}:CbD g (rBls g.K f) (overBls f):=by
 intro c S H vs ds Q E r hv o
 unfold overBls at o
 split at o
 ·obtain ⟨v,rfl,hv1⟩:=UP hv
  have sv:=dr_seen r hv1
  split at o
  ·rename_i xs h1
   rw [h1] at sv
   obtain ⟨a,vs,rfl,k1,l1⟩:=sv.lst'
   split at o
   ·rename_i bs hb
    have e:=Jx l1 hb
    subst e
    exact ⟨a,bs,rfl,SqL.of k1,Zh r o (.bl _)⟩
   ·exact o.elim
  ·exact o.elim
 ·exact o.elim
def allD:List D→M D:=overBls fun bs=>bs.all id
def absD (ds:List D):M D:=match ds with
 | [.int i]=>pure (.int (if i < 0 then -i else i))
 | _=>M.no
theorem Zar:CbD g (fun xs H Q=>∃ i,xs=[.int i]∧Q (.int (if i < 0 then -i else i)) H) absD:=by
 intro c S H vs ds Q E r hv o
 unfold absD at o
 split at o
 ·rename_i i
  obtain ⟨v,rfl,hv1⟩:=UP hv
  cases hv1
  exact ⟨i,rfl,Zh r o (.int _)⟩
 ·exact o.elim
def twoD (f:Int→Int→Int) (ds:List D):M D:=match ds with
 | [.int i,.int j]=>pure (.int (f i j))
 | _=>M.no
theorem Zat {f:Int→Int→Int}:CbD g (fun xs H Q=>∃ i j,xs=[.int i,.int j]∧Q (.int (f i j)) H) (twoD f):=by
 intro c S H vs ds Q E r hv o
 unfold twoD at o
 split at o
 ·rename_i i j
  obtain ⟨v,w,rfl,hv1,hw1⟩:=ZfB hv
  cases hv1; cases hw1
  exact ⟨i,j,rfl,Zh r o (.int _)⟩
 ·exact o.elim
def listD (ds:List D):M D:=fun S=>match ds with
 | [x]=>(match dr S x with
  | .lst xs | .rol xs | .tup xs=>.ok (.lst xs) S
  | _=>.bad)
 | _=>.bad
def J5 (ds:List D):M D:=fun S=>match ds with
 | [x]=>(match dr S x with
  | .lst xs | .rol xs | .tup xs=>newCell (.lst xs) S
  | _=>.bad)
 | _=>.bad
def tupleD (ds:List D):M D:=fun S=>match ds with
 | [x]=>(match dr S x with
  | .lst xs | .rol xs | .tup xs=>.ok (.tup xs) S
  | _=>.bad)
 | _=>.bad
abbrev rListD' (K:PySem.W.Frag):List V→Hp→VK→Prop:=fun xs H Q=>∃ p ys,xs=[.ref p]∧(SqL K H p ys∨SqT K H p ys)∧∀ l,H l=none→Q (.ref l) (upd H l (.lst ys))
theorem JC:CbD g (rListD' g.K) listD:=by
 intro c S H vs ds Q E r hv o
 unfold listD at o
 split at o
 ·obtain ⟨v,rfl,hv1⟩:=UP hv
  have sv:=dr_seen r hv1
  split at o
  ·rename_i xs h1
   rw [h1] at sv
   obtain ⟨a,vs,rfl,k1,l1⟩:=sv.lst'
   exact ⟨a,vs,rfl,.inl (SqL.of k1),fun l hl=>YR r o l1 hl⟩
  ·rename_i xs h1
   rw [h1] at sv
   obtain ⟨a,vs,rfl,k1,l1⟩:=sv.rol
   exact ⟨a,vs,rfl,.inl k1,fun l hl=>YR r o l1 hl⟩
  ·rename_i xs h1
   rw [h1] at sv
   obtain ⟨a,vs,rfl,k1,l1⟩:=sv.tup
   exact ⟨a,vs,rfl,.inr k1,fun l hl=>YR r o l1 hl⟩
  ·exact o.elim
 ·exact o.elim
abbrev rTupleD (K:PySem.W.Frag):List V→Hp→VK→Prop:=fun xs H Q=>∃ p ys,xs=[.ref p]∧((SqL K H p ys∧Zan H Q ys)∨(SqT K H p ys∧Q (.ref p) H))
theorem Wn:CbD g (rTupleD g.K) tupleD:=by
 intro c S H vs ds Q E r hv o
 unfold tupleD at o
 split at o
 ·obtain ⟨v,rfl,hv1⟩:=UP hv
  have sv:=dr_seen r hv1
  split at o
  ·rename_i xs h1
   rw [h1] at sv
   obtain ⟨a,vs,rfl,k1,l1⟩:=sv.lst'
   exact ⟨a,vs,rfl,.inl ⟨SqL.of k1,XM r o l1⟩⟩
  ·rename_i xs h1
   rw [h1] at sv
   obtain ⟨a,vs,rfl,k1,l1⟩:=sv.rol
   exact ⟨a,vs,rfl,.inl ⟨k1,XM r o l1⟩⟩
  ·rename_i xs h1
   rw [h1] at sv
   obtain ⟨a,vs,rfl,k1,l1⟩:=sv.tup
   refine ⟨a,vs,rfl,.inr ⟨k1,?_⟩⟩
   cases sv with
   | same sv=>exact Zh r o sv
  ·exact o.elim
 ·exact o.elim
def intCD (ds:List D):M D:=match ds with
 | [.int i]=>pure (.int i)
 | [.bl b]=>pure (.int (if b then 1 else 0))
 | _=>M.no
theorem Zas:CbD g (fun xs H Q=>(∃ i,xs=[.int i]∧Q (.int i) H)∨∃ k,xs=[.bl k]∧Q (.int (if k then 1 else 0)) H) intCD:=by
 intro c S H vs ds Q E r hv o
 unfold intCD at o
 split at o
 ·rename_i i
  obtain ⟨v,rfl,hv1⟩:=UP hv
  cases hv1
  exact .inl ⟨i,rfl,Zh r o (.int _)⟩
 ·rename_i i
  obtain ⟨v,rfl,hv1⟩:=UP hv
  cases hv1
  exact .inr ⟨i,rfl,Zh r o (.int _)⟩
 ·exact o.elim
def tyNm:D→Option String
 | .non=>some "NoneType" | .bl _=>some "bool" | .int _=>some "int" | .str _=>some "str" | .lst _=>some "list" | .tup _=>some "tuple" | .dct _=>some "dict"
 | _=>none
def Z3 (t n:String):Option Bool:=if ["bool", "int", "str", "list", "tuple", "dict"].contains n=true∧["NoneType", "bool", "int", "str", "list", "tuple", "dict"].contains t=true then some (t == n || (t == "bool" && n == "int")) else none
theorem GL:(["NoneType", "bool", "int", "str", "list", "tuple", "dict"].all fun t=>["bool", "int", "str", "list", "tuple", "dict"].all fun n=>decide (kitB t n=some (t == n || (t == "bool" && n == "int"))))=true:=by decide +kernel
theorem kitT_ok {t n:String} {b:Bool} (h:Z3 t n=some b):kitB t n=some b:=by
 unfold Z3 at h
 split at h
 ·rename_i q
  have h1:=List.all_eq_true.mp GL t (List.contains_iff_mem.mp q.2)
  have h2:=of_decide_eq_true (List.all_eq_true.mp h1 n (List.contains_iff_mem.mp q.1))
  rw [h2]; exact h
 ·cases h
theorem Zey {c:List Addr} {S:Za} {H:Hp} {v:V} {d:D} {t:String} (h:Seen g c S H v d) (e:tyNm d=some t):TyX g.K H v (.type t):=by
 cases d with
 | non=>cases e; rw [h.non]; exact .base .non
 | bl b=>cases e; rw [h.bl]; exact .base (.bl b)
 | int b=>cases e; rw [h.int]; exact .base (.int b)
 | str b=>cases e; rw [h.str.1]; exact .base (.str b)
 | lst xs=>cases e; obtain ⟨a,vs,rfl,k,_⟩:=h.lst'; exact .base (.lst k)
 | dct xs=>cases e; obtain ⟨a,vs,rfl,k,_⟩:=h.dct'; exact .base (.dK k)
 | tup xs=>
  cases e
  obtain ⟨a,vs,rfl,k,_⟩:=h.tup
  rcases k with (k | ⟨o,k⟩) | ⟨o,its,n,k1,k2,_⟩
  ·exact .base (.tup k)
  ·exact .fTuple k
  ·exact .kTuple k1 k2
 | _=>cases e
def isiD (ds:List D):M D:=fun S=>match ds with
 | [x,.ty n]=>(match tyNm (dr S x) with
  | some t=>(match Z3 t n with
   | some b=>.ok (.bl b) S
   | none=>.bad)
  | none=>.bad)
 | _=>.bad
theorem XX:CbD g (rIsi g.K) isiD:=by
 intro c S H vs ds Q E r hv o
 unfold isiD at o
 split at o
 ·rename_i x n
  obtain ⟨v,w,rfl,hv1,hw1⟩:=ZfB hv
  cases hw1
  split at o
  ·rename_i t ht
   split at o
   ·rename_i b hb
    exact ⟨v,.ty n,.type t,.type n,b,rfl,.ty n,Zey (dr_seen r hv1) ht,kit_ty (kitT_ok hb),Zh r o (.bl _)⟩
   ·exact o.elim
  ·exact o.elim
 ·exact o.elim
def J2 (t:String):List String→Option Bool
 | []=>some false
 | n :: r=>(match Z3 t n with
  | some true=>some true
  | some false=>J2 t r
  | none=>none)
def isiTD (ns:List String) (x:D):M D:=fun S=>match tyNm (dr S x) with
 | some t=>(match J2 t ns with
  | some b=>.ok (.bl b) S
  | none=>.bad)
 | none=>.bad
def mChain (f k:D→D→M D) (ma mb mc:EM):EM:=fun τ=>ma τ >>= fun x=>mb τ >>= fun y=>f x y >>= asB >>= fun b=>if b=true then mc τ >>= fun z=>k y z else pure (.bl false)
theorem QR {r r':R2} {f k:D→D→M D} (hf:OpD g r f) (hk:OpD g r' k) {σ:St} {H:Hp} {Q:VK} (h:tE g W (mChain f k ma mb mc) σ H Q):tChain r r' (tE g W ma) (tE g W mb) (tE g W mc) σ H Q:=
 YE (k:=fun x τ=>mb τ >>= fun y=>f x y >>= asB >>= fun b=>if b=true then mc τ >>= fun z=>k y z else pure (.bl false)) h fun c S H1 τ v d r1 s1 v1 o1=>
  ⟨c,S,τ,r1,s1,(Out.bind o1).imp fun e c2 S2 H2 f2 o2 w hw=>by
   rw [Y4] at o2
   refine hf c2 S2 H2 v w d e _ _ f2.rep (f2.val v1) hw ((Out.bind o2).imp fun z c3 S3 H3 f3 o3 u hu=>?_)
   obtain ⟨b,rfl,o4⟩:=US hu o3
   refine ⟨b,rfl,?_⟩
   cases b with
   | false=>exact o4 H3 c3 (Fut.refl f3.rep) _ (.bl false)
   | true=>exact ⟨c3,S3,τ,f3.rep,s1.mono (f2.trans f3).ex (f2.trans f3).pre,(Out.bind o4).imp fun y c4 S4 H4 f4 o5 x hx=>hk c4 S4 H4 w x e y Q _ f4.rep (f4.val (f3.val hw)) hx o5⟩⟩
theorem d_chain {c:Expr} {op op':CmpOp} {r r':R2} {f k:D→D→M D} (h:OpR X (compareOp op) r) (h':OpR X (compareOp op') r') (hf:OpD g r f) (hk:OpD g r' k) (ha:PE X a (tE g W ma)) (hb:PE X b (tE g W mb)) (hc:PE X c (tE g W mc))
 (hm:lastMarks [op,op'] [b,c]=false:=by with_unfolding_all rfl):PE X (.Compare a [op,op'] [b,c] pos) (tE g W (mChain f k ma mb mc)):=PE.imp (pe_chain h h' ha hb hc hm) fun _ _ _ q=>QR hf hk q
theorem dt_chain {c:Expr} {op op':CmpOp} {r r':R2} {f k:D→D→M D} (h:OpR X (compareOp op) r) (h':OpR X (compareOp op') r') (hf:OpD g r f) (hk:OpD g r' k) (ha:PE X a (tE g W ma)) (hb:PE X b (tE g W mb)) (hc:PE X c (tE g W mc))
 (hm:lastMarks [op,op'] [b,c]=false:=by with_unfolding_all rfl):PT X (.Compare a [op,op'] [b,c] pos) (tT g W (mAsT (mChain f k ma mb mc))):=PT.imp (pt_chain h h' ha hb hc hm) fun _ _ _ q=>QR hf hk (tT_of q)
def MtD (g:G) (r:V→List V→Hp→VK→Prop) (f:D→List D→M D):Prop:=∀ (c:List Addr) (S:Za) (H:Hp) (v:V) (d:D) (vs:List V) (ds:List D) (Q:VK) (E:XK),Rep g c S H→Val g (frz g c S H) c v d→Vls g (frz g c S H) c vs ds→Out g c S H (RV g Q) E (f d ds S)→r v vs H Q
def isK (T:String) (x:D):M Unit:=fun S=>if tyNm (dr S x)=some T then .ok () S else .bad
def mMeth (T:String) (f:D→List D→M D) (mo:EM) (ms:AM):EM:=fun τ=>mo τ >>= fun x=>isK T x >>= fun _=>ms τ >>= fun xs=>f x xs
theorem ZbK {c:List Addr} {S:Za} {H:Hp} {v:V} {d:D} {T:String} (hT:T = "str" ∨ T = "list" ∨ T = "dict" ∨ T = "int") (r:Rep g c S H) (hv:Val g (frz g c S H) c v d) (e:tyNm (dr S d)=some T):tyV g.K T v H:=by
 have sv:=dr_seen r hv
 cases q:dr S d with
 | str x=>rw [q] at e sv; cases e; rw [sv.str.1]; exact rfl
 | int x=>rw [q] at e sv; cases e; rw [sv.int]; exact rfl
 | lst x=>rw [q] at e sv; cases e; obtain ⟨a,vs,rfl,k,_⟩:=sv.lst'; exact .inl ⟨rfl,vs,SqL.of k⟩
 | dct x=>rw [q] at e sv; cases e; obtain ⟨a,vs,rfl,k,_⟩:=sv.dct'; exact .inr (.inr (.inl ⟨rfl,.inl ⟨_,k⟩⟩))
 | tup x=>rw [q] at e; have e':=Option.some.inj e; subst e'; exact absurd hT (by decide)
 | non=>rw [q] at e; have e':=Option.some.inj e; subst e'; exact absurd hT (by decide)
 | bl x=>rw [q] at e; have e':=Option.some.inj e; subst e'; exact absurd hT (by decide)
 | _=>rw [q] at e; cases e
theorem ZbJ {β:Type} {c:List Addr} {S:Za} {H:Hp} {T:String} {d:D} {k:Unit→M β} {R:β→List Addr→Za→Hp→Prop} {E:XK} (o:Out g c S H R E ((isK T d >>= k) S)):tyNm (dr S d)=some T∧Out g c S H R E (k () S):=by
 rw [Zy] at o
 unfold isK at o
 split at o
 ·rename_i a S' q
  split at q
  ·rename_i h; cases q; exact ⟨h,o⟩
  ·cases q
 ·rename_i q
  split at q <;> cases q
 ·exact o.elim
theorem d_meth {name:Str} {apos:Pos} {T id:String} {r:V→List V→Hp→VK→Prop} {f:D→List D→M D} (pa:PlainAttrs T) (slot:Slot T name id) (hty:typeOf (.builtin id)=pure (.type "method_descriptor")) (hm:MtR X id r) (hf:MtD (gx X cur hid) r f)
  (hT:T = "str" ∨ T = "list" ∨ T = "dict" ∨ T = "int") (ho:PE X o (tE (gx X cur hid) W mo)) (ha:PA X (e :: es) (tAr (gx X cur hid) W ms))
  (hbase:attributeBase o name X.env (eval o X.env)=eval o X.env:=by rfl)
  (hfew:((backTo pos (starEach (e :: es) X.env)).all (fun x=>!x.1) && (backToKw pos (keywordEach [] X.env)).all (fun x=>x.1.isSome)
   && decide ((e :: es).length+([]:List Keyword).length+(if ([]:List Keyword).isEmpty then 0 else 1) < 30))=true:=by rfl)
  (hline:(apos.endLine == pos.line)=true:=by rfl) (hs:starEach (e :: es) X.env=(false,eval e X.env) :: starEach es X.env:=by rfl) (hplain:(backTo pos (starEach es X.env)).any (·.1)=false:=by rfl) :
  PE X (.Call (.Attribute o name apos) (e :: es) [] pos) (tE (gx X cur hid) W (mMeth T f mo ms)):=
 PE.imp (pe_bm pa slot hty hm ho ha hbase hfew hline hs hplain) fun σ H Q h=>YE (k:=fun x τ=>isK T x >>= fun _=>ms τ >>= fun xs=>f x xs) h fun c S H1 τ v d r1 s1 v1 o1=>by
  obtain ⟨e,o2⟩:=ZbJ o1
  exact ⟨ZbK hT r1 v1 e,c,S,τ,r1,s1,(Out.bind o2).imp fun ds c2 S2 H2 f2 o3 vs hvs=>hf c2 S2 H2 v d vs ds Q _ f2.rep (f2.val v1) hvs o3⟩
def appendD (x:D) (ds:List D):M D:=fun S=>match x,ds with
 | .cel n,[y]=>(match S[n]? with
  | some (.lst xs)=>if xs.length < sizeLine then .ok .non (S.set n (.lst (xs++[y]))) else .bad
  | _=>.bad)
 | _,_=>.bad
theorem Xc {c:List Addr} {S:Za} {H:Hp} {v:V} {n:Nat} (hv:Val g (frz g c S H) c v (.cel n)):∃ a,v = .ref a∧c[n]? = some a:=by
 cases hv with
 | cel h=>exact ⟨_,rfl,h⟩
theorem YO:MtD g rAppend appendD:=by
 intro c S H v d vs ds Q E r hv hvs o
 unfold appendD at o
 split at o
 ·rename_i n y
  obtain ⟨a,rfl,ha⟩:=Xc hv
  obtain ⟨w,rfl,hw⟩:=UP hvs
  split at o
  ·rename_i xs hx
   split at o
   ·rename_i hl
    obtain ⟨us,hu,lu⟩:=r.ok n a _ ha hx
    refine ⟨a,us,w,rfl,rfl,hu,by rw [lu.length]; exact hl,?_⟩
    have f:=Fut.put (o:=.lst (us++[w])) r ha hx rfl (y:=.lst (xs++[y])) rfl ⟨us++[w],upd_same,lu.append (.cons hw .nil)⟩
    exact o _ c f _ .non
   ·exact o.elim
  ·exact o.elim
 ·exact o.elim
def strsOf:List D→Option (List Str)
 | []=>some []
 | .str b :: r=>(strsOf r).map (b :: ·)
 | _=>none
theorem V3 {F:Hp} {c:List Addr}:∀ {vs:List V} {xs:List D} {bs:List Str},Vls g F c vs xs→strsOf xs=some bs→vs=bs.map V.str∧∀ z ∈ bs,SOk z
 | _,_,_,.nil,e=>by cases e; exact ⟨rfl,fun z h=>by cases h⟩
 | _,_,bs,.cons (xs:=xs) h t,e=>by
  cases h with
  | str hs=>
   rw [strsOf] at e
   cases q:strsOf xs with
   | none=>rw [q] at e; cases e
   | some cs=>
    rw [q] at e; cases e
    obtain ⟨h1,h2⟩:=V3 t q
    refine ⟨by rw [h1]; rfl,fun z hz=>?_⟩
    rcases List.mem_cons.mp hz with rfl | hz
    ·exact hs
    ·exact h2 z hz
  | _=>cases e
end
def sOf {α:Type} (m:M α) (τ:DSt) (k:α→Za→SRes):Za→SRes:=fun S=>match m S with
 | .ok a S'=>k a S'
 | .err C fs S'=>.err C fs τ S'
 | .bad=>.bad
section
variable {X:Cx} {g:G} {W:WX} {a b e o:Expr} {es:List Expr} {m mo:EM} {ms:AM} {pos p:Pos} {cur:Cur} {hid:List Addr} {st:Stmt} {rest:List Stmt} {s1 s2:SM} {tm:TM}
theorem Xv.of {α:Type} {c:List Addr} {S:Za} {H:Hp} {De:Ends} {σ:St} {τ:DSt} {m:M α} {k:α→Za→SRes} {R:α→List Addr→Za→Hp→Prop} (sl:Sl g (frz g c S H) c σ τ) (h:Xv g W c S H De (sOf m τ k S))
  (q:∀ a c1 S1 H1,Fut g c S H c1 S1 H1→Xv g W c1 S1 H1 De (k a S1)→R a c1 S1 H1):Out g c S H R (WS W σ) (m S):=by
 unfold sOf at h
 cases e:m S with
 | ok a S'=>rw [e] at h; exact fun H' c' f=>q a c' S' H' f (h.fut f)
 | err C fs S'=>rw [e] at h; exact fun u o H' c' f x=>h u o σ H' c' f (sl.mono f.ex f.pre) x
 | bad=>rw [e] at h; exact h
theorem tS_of {m:EM} {k:D→DSt→Za→SRes} {De:Ends} {σ:St} {H:Hp} {Q:VK} (h:tS g W (fun τ=>sOf (m τ) τ fun d=>k d τ) De σ H)
  (q:∀ c S H1 τ v d,Rep g c S H1→Sl g (frz g c S H1) c σ τ→Val g (frz g c S H1) c v d→Xv g W c S H1 De (k d τ S)→Q v H1):tE g W m σ H Q:=by
 obtain ⟨c,S,τ,r,s,o⟩:=h
 exact ⟨c,S,τ,r,s,Xv.of s o fun d c1 S1 H1 f o1 v hv=>q c1 S1 H1 τ v d f.rep (s.mono f.ex f.pre) hv o1⟩
theorem Zes {m:TM} {k:Bool→DSt→Za→SRes} {De:Ends} {σ:St} {H:Hp} {Q:Bool→Hp→Prop} (h:tS g W (fun τ=>sOf (m τ) τ fun d=>k d τ) De σ H)
  (q:∀ c S H1 τ d,Rep g c S H1→Sl g (frz g c S H1) c σ τ→Xv g W c S H1 De (k d τ S)→Q d H1):tT g W m σ H Q:=by
 obtain ⟨c,S,τ,r,s,o⟩:=h
 exact ⟨c,S,τ,r,s,Xv.of s o fun d c1 S1 H1 f o1=>q c1 S1 H1 τ d f.rep (s.mono f.ex f.pre) o1⟩
theorem Zer {m:AM} {k:List D→DSt→Za→SRes} {De:Ends} {σ:St} {H:Hp} {Q:List V→Hp→Prop} (h:tS g W (fun τ=>sOf (m τ) τ fun d=>k d τ) De σ H)
  (q:∀ c S H1 τ v d,Rep g c S H1→Sl g (frz g c S H1) c σ τ→Vls g (frz g c S H1) c v d→Xv g W c S H1 De (k d τ S)→Q v H1):tAr g W m σ H Q:=by
 obtain ⟨c,S,τ,r,s,o⟩:=h
 exact ⟨c,S,τ,r,s,Xv.of s o fun d c1 S1 H1 f o1 v hv=>q c1 S1 H1 τ v d f.rep (s.mono f.ex f.pre) hv o1⟩
def sSkip:SM:=fun τ S=>.ok (.nx τ) S
def sThen (m n:SM):SM:=fun τ S=>match m τ S with
 | .ok (.nx τ') S'=>n τ' S'
 | r=>r
theorem Xv.seq {c:List Addr} {S:Za} {H:Hp} {De:Ends} {r:SRes} {n:SM} (h:Xv g W c S H De (match r with
 | .ok (.nx τ') S'=>n τ' S'
 | r=>r)):Xv g W c S H { De with nx:=fun σ H=>tS g W n De σ H } r:=by
 cases r with
 | ok fl S'=>
  cases fl with
  | nx τ=>exact fun σ' H' c' f s=>⟨c',S',τ,f.rep,s,h.fut f⟩
  | bk τ=>exact h
  | ct τ=>exact h
  | rt d=>exact h
 | err C fs τ S'=>exact h
 | bad=>exact h
theorem Zf:PSs X [] (tS g W sSkip):=PSs.imp pss_nil fun De σ H h=>by
 obtain ⟨c,S,τ,r,s,o⟩:=h
 exact o σ H c (Fut.refl r) s
theorem dss_cons (h1:PS X st (tS g W s1)) (h2:PSs X rest (tS g W s2)):PSs X (st :: rest) (tS g W (sThen s1 s2)):=PSs.imp (pss_cons h1 h2) fun De σ H h=>by
 obtain ⟨c,S,τ,r,s,o⟩:=h
 exact ⟨c,S,τ,r,s,Xv.seq (r:=s1 τ S) o⟩
theorem dss_one (h1:PS X st (tS g W s1)):PSs X [st] (tS g W s1):=pss_one h1
def sExpr (m:EM):SM:=fun τ=>sOf (m τ) τ fun _ S=>.ok (.nx τ) S
theorem ds_expr (he:PE X e (tE g W m)) (hs:swapsWith e none pos.line X.env=pure false:=by rfl):PS X (.Expr e pos) (tS g W (sExpr m)):=PS.imp (ps_expr he hs) fun De σ H h=>
 tS_of (k:=fun _ τ S=>.ok (.nx τ) S) h fun c S H1 τ v d r1 s1 v1 o1=>o1 σ H1 c (Fut.refl r1) s1
def sRet (m:EM):SM:=fun τ=>sOf (m τ) τ fun d S=>.ok (.rt d) S
theorem ds_ret (he:PE X e (tE g W m)):PS X (.Return (some e) pos) (tS g W (sRet m)):=PS.imp (ps_ret he) fun De σ H h=>
 tS_of (k:=fun d τ S=>.ok (.rt d) S) h fun c S H1 τ v d r1 s1 v1 o1=>o1 v H1 c (Fut.refl r1) v1
def fixD (x:D):M D:=fun S=>match x with
 | .cel n=>(match S[n]? with
  | some (.lst xs)=>.ok (.lst xs) (S.set n (.fz (.lst xs)))
  | some (.dct xs)=>.ok (.dct xs) (S.set n (.fz (.dct xs)))
  | some (.ins C xs)=>.ok (.obj C xs) (S.set n (.fz (.obj C xs)))
  | some (.fz d)=>.ok d S
  | _=>.bad)
 | d=>.ok d S
theorem ZbI {c:List Addr} {S:Za} {H:Hp} {v:V} {d:D} {R:D→List Addr→Za→Hp→Prop} {E:XK} (r:Rep g c S H) (hv:Val g (frz g c S H) c v d) (o:Out g c S H R E (fixD d S)):∃ d' S',Fut g c S H c S' H∧Val g (frz g c S' H) c v d'∧fixD d S = .ok d' S':=by
 unfold fixD at o ⊢
 split at o
 ·rename_i n
  obtain ⟨a,rfl,ha⟩:=Xc hv
  split at o
  ·rename_i xs hx
   obtain ⟨us,hu,lu⟩:=r.ok n a _ ha hx
   obtain ⟨f,k⟩:=Fut.fix (d:=.lst xs) r ha hx rfl fun F ex e=>.lst (e.trans hu) (lu.mono ex (Pre.refl c))
   exact ⟨_,_,f,k,rfl⟩
  ·rename_i xs hx
   obtain ⟨us,hu,lu⟩:=r.ok n a _ ha hx
   obtain ⟨f,k⟩:=Fut.fix (d:=.dct xs) r ha hx rfl fun F ex e=>.dct (e.trans hu) (lu.mono ex (Pre.refl c))
   exact ⟨_,_,f,k,rfl⟩
  ·rename_i C xs hx
   obtain ⟨Ca,dx,ws,mC,hu,lu⟩:=r.ok n a _ ha hx
   obtain ⟨f,k⟩:=Fut.fix (d:=.obj C xs) r ha hx rfl fun F ex e=>.obj mC (e.trans hu) (lu.mono ex (Pre.refl c))
   exact ⟨_,_,f,k,rfl⟩
  ·rename_i d hx
   exact ⟨_,_,Fut.refl r,r.ok n a _ ha hx,rfl⟩
  ·exact o.elim
 ·exact ⟨_,_,Fut.refl r,hv,rfl⟩
def mFix (m:EM):EM:=fun τ=>m τ >>= fixD
theorem d_fix (he:PE X e (tE g W m)):PE X e (tE g W (mFix m)):=PE.imp he fun σ H Q h=>by
 obtain ⟨c,S,τ,r,s,o⟩:=h
 refine ⟨c,S,τ,r,s,(Out.bind o).imp fun d c1 S1 H1 f1 o1 v hv=>?_⟩
 obtain ⟨d',S',f,k,e1⟩:=ZbI f1.rep hv o1
 rw [e1] at o1
 exact o1 H1 c1 f v k
def sIf (t:TM) (m n:SM):SM:=fun τ=>sOf (t τ) τ fun b=>if b=true then m τ else n τ
theorem ds_if {c:Expr} {xs ys:List Stmt} (hc:PT X c (tT g W tm)) (ha:PSs X xs (tS g W s1)) (hb:PSs X ys (tS g W s2)):PS X (.If c xs ys pos) (tS g W (sIf tm s1 s2)):=PS.imp (ps_if hc ha hb) fun De σ H h=>
 Zes (k:=fun b τ=>if b=true then s1 τ else s2 τ) h fun c S H1 τ d r1 sl o1=>by
  cases d with
  | true=>exact ⟨c,S,τ,r1,sl,o1⟩
  | false=>exact ⟨c,S,τ,r1,sl,o1⟩
def sSet (i:Nat) (m:EM):SM:=fun τ=>sOf (m τ) τ fun d S=>.ok (.nx (τ.set i (some d))) S
theorem ds_set {i:Nat} {x:Str} {p':Pos} (hN:X.N.Nodup) (hi:X.N[i]? = some x) (hx:Loc X.env.scope x) (he:PE X e (tE g W m)) (hs:swapsWith e (some (.Name x p')) pos.line X.env=pure false:=by rfl)
  (hf:X.fn x=true∨X.env.scope.names.lookup x=some .local:=by first | exact .inl rfl | exact .inr rfl | assumption):PS X (.Assign [.Name x p'] e pos) (tS g W (sSet i m)):=PS.imp (ps_set hN hi hx he hs hf) fun De σ H h=>
 tS_of (k:=fun d τ S=>.ok (.nx (τ.set i (some d))) S) h fun c S H1 τ v d r1 sl v1 o1=>o1 _ H1 c (Fut.refl r1) (sl.set v1 i)
def sPar2 (i j:Nat) (ms:AM):SM:=fun τ=>sOf (ms τ) τ fun ds S=>match ds with
 | [d,e]=>.ok (.nx ((τ.set i (some d)).set j (some e))) S
 | _=>.bad
theorem ds_par2 {i j:Nat} (lib:PS X st (tPar i j (tAr g W ms))):PS X st (tS g W (sPar2 i j ms)):=PS.imp lib fun De σ H h=>
 Zer (k:=fun ds τ S=>match ds with
  | [d,e]=>.ok (.nx ((τ.set i (some d)).set j (some e))) S
  | _=>.bad) h fun c S H1 τ vs ds r1 sl v1 o1=>by
  split at o1
  ·obtain ⟨v,w,rfl,h1,h2⟩:=ZfB v1
   exact ⟨v,w,rfl,o1 _ H1 c (Fut.refl r1) ((sl.set h1 i).set h2 j)⟩
  ·exact o1.elim
def sPar3 (i j l:Nat) (ms:AM):SM:=fun τ=>sOf (ms τ) τ fun ds S=>match ds with
 | [d,e,f]=>.ok (.nx (((τ.set i (some d)).set j (some e)).set l (some f))) S
 | _=>.bad
def setD (x y z:D):M Unit:=fun S=>match x,y with
 | .cel n,.int i=>(match S[n]? with
  | some (.lst xs)=>(match ixN xs.length i with
   | some j=>.ok () (S.set n (.lst (xs.set j z)))
   | none=>.bad)
  | _=>.bad)
 | _,_=>.bad
def sPut (mo mi mv:EM):SM:=fun τ=>sOf (mv τ >>= fun z=>mo τ >>= fun x=>mi τ >>= fun y=>setD x y z) τ fun _ S=>.ok (.nx τ) S
theorem ds_put {mi mv:EM} (lib:PS X st (tAsg (tE g W mv) (gSub (tE g W mo) (tE g W mi) rSetL))):PS X st (tS g W (sPut mo mi mv)):=PS.imp lib fun De σ H h=>by
 obtain ⟨c,S,τ,r,s,q⟩:=h
 have q1:Out g c S H (fun _ c1 S1 H1=>Xv g W c1 S1 H1 De (.ok (.nx τ) S1)) (WS W σ) ((mv τ >>= fun z=>mo τ >>= fun x=>mi τ >>= fun y=>setD x y z) S):=Xv.of s q fun _ _ _ _ _ o=>o
 refine ⟨c,S,τ,r,s,(Out.bind q1).imp fun z c1 S1 H1 f1 o1 v hv=>?_⟩
 refine ⟨c1,S1,τ,f1.rep,s.mono f1.ex f1.pre,(Out.bind o1).imp fun x c2 S2 H2 f2 o2 w hw'=>?_⟩
 refine ⟨c2,S2,τ,f2.rep,s.mono (f1.trans f2).ex (f1.trans f2).pre,(Out.bind o2).imp fun y c3 S3 H3 f3 o3 u hu=>?_⟩
 have hw3:=f3.val hw'
 have hv3:=f3.val (f2.val hv)
 have s3:=s.mono ((f1.trans f2).trans f3).ex ((f1.trans f2).trans f3).pre
 unfold setD at o3
 split at o3
 ·rename_i n i
  obtain ⟨a,rfl,ha⟩:=Xc hw3
  cases hu
  split at o3
  ·rename_i xs hx
   split at o3
   ·rename_i j hj
    obtain ⟨us,hu,lu⟩:=f3.rep.ok n a _ ha hx
    refine ⟨a,us,i,j,rfl,rfl,hu,by rw [lu.length]; exact hj,?_⟩
    have f:=Fut.put (o:=.lst (us.set j v)) f3.rep ha hx rfl (y:=.lst (xs.set j z)) rfl ⟨us.set j v,upd_same,lu.set j hv3⟩
    exact o3 _ c3 f σ _ c3 (Fut.refl f.rep) (s3.mono f.ex f.pre)
   ·exact o3.elim
  ·exact o3.elim
 ·exact o3.elim
def sAug (i:Nat) (f:D→D→M D) (m:EM):SM:=fun τ=>sOf (mVar i τ >>= fun x=>m τ >>= fun y=>f x y) τ fun d S=>.ok (.nx (τ.set i (some d))) S
structure Later (g:G) (c:List Addr) (S:Za) (H:Hp) (g':G) (c':List Addr) (S':Za) (H':Hp):Prop where
 same:Zu g g'
 pre:Pre c c'
 rep:Rep g' c' S' H'
 ex:Ex (frz g c S H) (frz g' c' S' H')
 hid:∀ a ∈ g.hid,H' a=H a
theorem Zu.refl (g:G):Zu g g:=⟨rfl,rfl,rfl,rfl⟩
theorem Fut.later {c c':List Addr} {S S':Za} {H H':Hp} (f:Fut g c S H c' S' H'):Later g c S H g c' S' H':=⟨Zu.refl g,f.pre,f.rep,f.ex,f.hid⟩
structure Walks (g:G) (c:List Addr) (S:Za) (H:Hp) (J:It) (xs:List D):Prop where
 go:∀ (i:Nat) (g':G) (c':List Addr) (S':Za) (H':Hp),Later g c S H g' c' S' H'→i < xs.length→J.go i H'
 yld:∀ (i:Nat) (g':G) (c':List Addr) (S':Za) (H':Hp) (v:V) (H2:Hp),Later g c S H g' c' S' H'→J.yld i H' v H2→∀ d,xs[i]? = some d→Fut g' c' S' H' c' S' H2∧Val g' (frz g' c' S' H2) c' v d
 stop:∀ (i:Nat) (g':G) (c':List Addr) (S':Za) (H':Hp),Later g c S H g' c' S' H'→xs.length≤i→J.stop i H'
abbrev IM:=DSt→M (List D)
def tIt (g:G) (W:WX) (m:IM):TI:=fun σ H R=>∃ c S τ,Rep g c S H∧Sl g (frz g c S H) c σ τ∧Out g c S H (fun xs c' S' H'=>∀ J,Walks g c' S' H' J xs→R J H') (WS W σ) (m τ S)
theorem PI.imp {tg it:Expr} {t t':TI} (h:PI X tg it t) (k:∀ σ H R,t' σ H R→t σ H R):PI X tg it t':=⟨fun pins s σ H R I q=>h.run pins s σ H R I (k σ H R q)⟩
theorem Walks.lst {c:List Addr} {S:Za} {H:Hp} {a:Addr} {vs:List V} {xs:List D} (h:SqL g.K (frz g c S H) a vs) (l:Vls g (frz g c S H) c vs xs):Walks g c S H (Itl g.K a) xs where
 go:=fun i g' c' S' H' f hi=>⟨vs,vs[i]'(by rw [l.length]; exact hi),Evl.ex_l (frz_ex) (Evl.ex_l f.ex h),by simp⟩
 yld:=fun i g' c' S' H' v H2 f y d hd=>by
  obtain ⟨rfl,y⟩:=y
  have hv:=y vs (Evl.ex_l (frz_ex) (Evl.ex_l f.ex h))
  obtain ⟨w,hw,vw⟩:=l.get hd
  rw [hv] at hw
  cases hw
  exact ⟨Fut.refl f.rep,(vw.mono f.ex f.pre).same f.same⟩
 stop:=fun i g' c' S' H' f hi=>⟨vs,Evl.ex_l (frz_ex) (Evl.ex_l f.ex h),by rw [l.length]; exact hi⟩
theorem Walks.tup {c:List Addr} {S:Za} {H:Hp} {a:Addr} {vs:List V} {xs:List D} (h:SqT g.K (frz g c S H) a vs) (l:Vls g (frz g c S H) c vs xs):Walks g c S H (Itt g.K a) xs where
 go:=fun i g' c' S' H' f hi=>⟨vs,vs[i]'(by rw [l.length]; exact hi),Evl.ex_t (frz_ex) (Evl.ex_t f.ex h),by simp⟩
 yld:=fun i g' c' S' H' v H2 f y d hd=>by
  obtain ⟨rfl,y⟩:=y
  have hv:=y vs (Evl.ex_t (frz_ex) (Evl.ex_t f.ex h))
  obtain ⟨w,hw,vw⟩:=l.get hd
  rw [hv] at hw
  cases hw
  exact ⟨Fut.refl f.rep,(vw.mono f.ex f.pre).same f.same⟩
 stop:=fun i g' c' S' H' f hi=>⟨vs,Evl.ex_t (frz_ex) (Evl.ex_t f.ex h),by rw [l.length]; exact hi⟩
def intsD (lo:Int) (n:Nat):List D:=(List.range n).map fun i=>.int (lo+(i:Nat))
theorem J0 {lo:Int} {n i:Nat} {d:D} (hd:(intsD lo n)[i]? = some d):d = .int (lo+i):=by
 unfold intsD at hd
 rw [List.getElem?_map] at hd
 cases q:(List.range n)[i]? with
 | none=>rw [q] at hd; cases hd
 | some k=>
  rw [q] at hd
  obtain ⟨h1,h2⟩:=List.getElem?_eq_some_iff.mp q
  have:k=i:=by simpa using h2.symm
  subst this
  exact (Option.some.inj hd).symm
theorem X2 (lo:Int) (n:Nat):(intsD lo n).length=n:=by simp [intsD]
theorem Walks.rng {c:List Addr} {S:Za} {H:Hp} {lo:Int} {n:Nat}:Walks g c S H (Itr lo n) (intsD lo n) where
 go:=fun i g' c' S' H' f hi=>by rw [X2] at hi; exact hi
 yld:=fun i g' c' S' H' v H2 f y d hd=>by
  obtain ⟨rfl,rfl⟩:=y
  rw [J0 hd]
  exact ⟨Fut.refl f.rep,.int _⟩
 stop:=fun i g' c' S' H' f hi=>by rw [X2] at hi; exact hi
def chS (x:Str):List D:=x.cps.toList.map fun c=>.str ⟨#[c]⟩
theorem Walks.str {c:List Addr} {S:Za} {H:Hp} {x:Str} (h:SOk x):Walks g c S H (Its x) (chS x) where
 go:=fun i g' c' S' H' f hi=>by
  have:(chS x).length=x.cps.size:=by simp [chS]
  rw [this] at hi; exact hi
 yld:=fun i g' c' S' H' v H2 f y d hd=>by
  obtain ⟨rfl,k,hk,rfl⟩:=y
  have e:x.cps.toList[i]? = some k:=by simpa using hk
  have:d = .str ⟨#[k]⟩:=by
   unfold chS at hd
   rw [List.getElem?_map,e] at hd
   exact (Option.some.inj hd).symm
  subst this
  exact ⟨Fut.refl f.rep,.str (sOk_one (strOk_mem h (List.mem_of_getElem? e)))⟩
 stop:=fun i g' c' S' H' f hi=>by
  have:(chS x).length=x.cps.size:=by simp [chS]
  rw [this] at hi; exact hi
def walkLD (x:D):M (List D):=fun S=>match x with
 | .lst xs | .rol xs=>.ok xs S
 | .cel n=>(match S[n]? with
  | some (.fz (.lst xs))=>.ok xs S
  | _=>.bad)
 | _=>.bad
def walkTD (x:D):M (List D):=fun S=>match x with
 | .tup xs=>.ok xs S
 | _=>.bad
def walkSD (x:D):M (List D):=fun S=>match x with
 | .str z=>.ok (chS z) S
 | _=>.bad
def mWalkL (m:EM):IM:=fun τ=>m τ >>= walkLD
def mWalkT (m:EM):IM:=fun τ=>m τ >>= walkTD
def mWalkS (m:EM):IM:=fun τ=>m τ >>= walkSD
theorem di_tup {tg l:Expr} (hl:PE X l (tE (gx X cur hid) W m)):PI X tg l (tIt (gx X cur hid) W (mWalkT m)):=PI.imp (pi_tup hl) fun σ H R ⟨c,S,τ,r,s,o⟩=>
 ⟨c,S,τ,r,s,(Out.bind o).imp fun d c1 S1 H1 f1 o1 v hv=>match d,hv,o1 with
  | .tup _,.tup h1 h2,o1=>⟨_,rfl,⟨_,Evl.ex_t frz_ex h1.sq⟩,o1 H1 c1 (Fut.refl f1.rep) _ (Walks.tup (g:=gx X cur hid) h1.sq h2)⟩⟩
theorem di_str {tg l:Expr} (hl:PE X l (tE (gx X cur hid) W m)):PI X tg l (tIt (gx X cur hid) W (mWalkS m)):=PI.imp (pi_str hl) fun σ H R ⟨c,S,τ,r,s,o⟩=>
 ⟨c,S,τ,r,s,(Out.bind o).imp fun d c1 S1 H1 f1 o1 v hv=>match d,hv,o1 with
  | .str _,.str h,o1=>⟨_,rfl,o1 H1 c1 (Fut.refl f1.rep) _ (Walks.str h)⟩⟩
theorem di_lst {tg l:Expr} (hl:PE X l (tE (gx X cur hid) W m)):PI X tg l (tIt (gx X cur hid) W (mWalkL m)):=PI.imp (pi_list hl) fun σ H R h=>by
 obtain ⟨c,S,τ,r,s,o⟩:=h
 refine ⟨c,S,τ,r,s,(Out.bind o).imp fun d c1 S1 H1 f1 o1 v hv=>?_⟩
 have go:∀ {a:Addr} {vs:List V} {xs:List D},SqL X.K (frz (gx X cur hid) c1 S1 H1) a vs→Vls (gx X cur hid) (frz (gx X cur hid) c1 S1 H1) c1 vs xs→(∀ J,Walks (gx X cur hid) c1 S1 H1 J xs→R J H1) →
  ∃ a',V.ref a = .ref a'∧(∃ xs,SqL X.K H1 a' xs)∧R (Itl X.K a') H1:=fun sq vl k=>⟨_,rfl,⟨_,Evl.ex_l frz_ex sq⟩,k _ (Walks.lst (g:=gx X cur hid) sq vl)⟩
 unfold walkLD at o1
 split at o1
 ·cases hv with
  | lst h1 h2=>exact go (.inl (.inl h1)) h2 (o1 H1 c1 (Fut.refl f1.rep))
 ·cases hv with
  | rol h1 h2=>exact go h1 h2 (o1 H1 c1 (Fut.refl f1.rep))
 ·obtain ⟨a,rfl,ha⟩:=Xc hv
  split at o1
  ·rename_i xs hx
   cases f1.rep.ok _ a _ ha hx with
   | lst h1 h2=>exact go (.inl (.inl h1)) h2 (o1 H1 c1 (Fut.refl f1.rep))
  ·exact o1.elim
 ·exact o1.elim
def rng1D (ds:List D):M (List D):=match ds with
 | [.int n]=>M.chk (okP (-(2 ^ 62)≤n∧n < 2 ^ 62)) (pure (intsD 0 n.toNat))
 | _=>M.no
def rng2D (ds:List D):M (List D):=match ds with
 | [.int i,.int j]=>M.chk (okP (-(2 ^ 62)≤i∧i < 2 ^ 62∧-(2 ^ 62)≤j∧j < 2 ^ 62)) (pure (intsD i (j - i).toNat))
 | _=>M.no
def mRng1 (ms:AM):IM:=fun τ=>ms τ >>= rng1D
def mRng2 (ms:AM):IM:=fun τ=>ms τ >>= rng2D
theorem di_rng1 {tg:Expr} (hg:Gl X "range") (hm:X.mg "range" = none) (ha:PA X [a] (tAr g W ms)) (hs:starEach [a] X.env=[(false,eval a X.env)]:=by rfl):PI X tg (.Call (.Name "range" p) [a] [] pos) (tIt g W (mRng1 ms)):=PI.imp (pi_range1 hg hm ha hs) fun σ H R h=>by
 obtain ⟨c,S,τ,r,s,o⟩:=h
 refine ⟨c,S,τ,r,s,(Out.bind o).imp fun ds c1 S1 H1 f1 o1 vs hv=>?_⟩
 unfold rng1D at o1
 split at o1
 ·rename_i n
  obtain ⟨v,rfl,hv1⟩:=UP hv
  cases hv1
  obtain ⟨h1,o2⟩:=Out.chk o1
  have h2:=okP_of h1
  exact ⟨n,rfl,h2.1,h2.2,o2 H1 c1 (Fut.refl f1.rep) _ Walks.rng⟩
 ·exact o1.elim
inductive Tg where
 | nm (i:Nat) | tp (ts:List Tg)
mutual
def Tg.bind:Tg→D→DSt→Option DSt
 | .nm i,d,τ=>some (τ.set i (some d))
 | .tp ts,.tup ds,τ=>Tg.binds ts ds τ
 | .tp ts,.tpo ds,τ=>Tg.binds ts ds τ
 | .tp _,_,_=>none
def Tg.binds:List Tg→List D→DSt→Option DSt
 | [],[],τ=>some τ
 | t :: ts,d :: ds,τ=>(match Tg.bind t d τ with
  | some τ'=>Tg.binds ts ds τ'
  | none=>none)
 | _,_,_=>none
end
mutual
def Tg.rd (K:PySem.W.Frag):Tg→TG
 | .nm i=>gName i
 | .tp ts=>gTup K ts.length (Tg.rds K ts)
def Tg.rds (K:PySem.W.Frag):List Tg→TGs
 | []=>gNil
 | t :: ts=>gCons (Tg.rd K t) (Tg.rds K ts)
end
mutual
def Tg.slots:Tg→List Nat
 | .nm i=>[i]
 | .tp ts=>Tg.slotss ts
def Tg.slotss:List Tg→List Nat
 | []=>[]
 | t :: ts=>Tg.slots t++Tg.slotss ts
end
theorem YJ:∀ {ts:List Tg} {ds:List D} {τ τ':DSt},Tg.binds ts ds τ=some τ'→ts.length=ds.length
 | [],[],_,_,_=>rfl
 | [],_ :: _,_,_,h=>by simp [Tg.binds] at h
 | _ :: _,[],_,_,h=>by simp [Tg.binds] at h
 | t :: ts,d :: ds,τ,τ',h=>by
  rw [Tg.binds] at h
  cases q:Tg.bind t d τ with
  | none=>rw [q] at h; cases h
  | some τ1=>rw [q] at h; rw [List.length_cons,List.length_cons,YJ h]
theorem wipe_set {σ:St} {vs:List Nat} {i:Nat} {x:Option V} (h:i ∈ vs):wipe (σ.set i x) vs=wipe σ vs:=by
 apply List.ext_getElem?
 intro j
 by_cases hj:j ∈ vs
 ·have l1:(wipe (σ.set i x) vs).length=σ.length:=by rw [wipe_length,List.length_set]
  have l2:(wipe σ vs).length=σ.length:=wipe_length σ vs
  rcases Nat.lt_or_ge j σ.length with q | q
  ·have e1:(wipe (σ.set i x) vs)[j]? = some none:=by
    cases z:(wipe (σ.set i x) vs)[j]? with
    | none=>rw [List.getElem?_eq_none_iff] at z; omega
    | some y=>
     cases y with
     | none=>rfl
     | some v=>exact absurd hj (wipe_some z).2
   have e2:(wipe σ vs)[j]? = some none:=by
    cases z:(wipe σ vs)[j]? with
    | none=>rw [List.getElem?_eq_none_iff] at z; omega
    | some y=>
     cases y with
     | none=>rfl
     | some v=>exact absurd hj (wipe_some z).2
   rw [e1,e2]
  ·rw [List.getElem?_eq_none (by omega),List.getElem?_eq_none (by omega)]
 ·rw [wipe_out hj,wipe_out hj,List.getElem?_set_ne]
  intro e; subst e; exact hj h
section
variable {c:List Addr} {S:Za} {H:Hp} {vs:List Nat}
mutual
theorem Tg.ok (r:Rep g c S H):∀ {t:Tg} {v:V} {d:D} {σ:St} {τ τ':DSt} {Q:St→Hp→Prop},Sl g (frz g c S H) c σ τ→Val g (frz g c S H) c v d→Tg.bind t d τ=some τ'→(∀ i ∈ t.slots,i ∈ vs) →
  (∀ σ',Sl g (frz g c S H) c σ' τ'→wipe σ' vs=wipe σ vs→Q σ' H)→Tg.rd g.K t v σ H Q
 | .nm i,v,d,σ,τ,τ',Q,s,hv,e,hs,q=>by
  rw [Tg.bind] at e
  cases e
  rw [Tg.rd]
  exact q _ (s.set hv i) (wipe_set (hs i (by rw [Tg.slots]; exact List.mem_singleton.mpr rfl)))
 | .tp ts,v,d,σ,τ,τ',Q,s,hv,e,hs,q=>by
  cases hv with
  | tup h1 h2=>
   rw [Tg.bind] at e
   rw [Tg.rd]
   exact ⟨_,_,rfl,Evl.ex_t frz_ex h1.sq,by rw [h2.length,YJ e],Tg.oks r s h2 e (fun i hi=>hs i (by rw [Tg.slots]; exact hi)) q⟩
  | tpo h1 h2=>
   rw [Tg.bind] at e
   rw [Tg.rd]
   exact ⟨_,_,rfl,Evl.ex_t frz_ex h1,by rw [h2.length,YJ e],Tg.oks r s h2 e (fun i hi=>hs i (by rw [Tg.slots]; exact hi)) q⟩
  | _=>simp [Tg.bind] at e
theorem Tg.oks (r:Rep g c S H):∀ {ts:List Tg} {ws:List V} {ds:List D} {σ:St} {τ τ':DSt} {Q:St→Hp→Prop},Sl g (frz g c S H) c σ τ→Vls g (frz g c S H) c ws ds→Tg.binds ts ds τ=some τ'→(∀ i ∈ Tg.slotss ts,i ∈ vs) →
  (∀ σ',Sl g (frz g c S H) c σ' τ'→wipe σ' vs=wipe σ vs→Q σ' H)→Tg.rds g.K ts ws σ H Q
 | [],ws,ds,σ,τ,τ',Q,s,hv,e,hs,q=>by
  cases hv with
  | nil=>
   rw [Tg.binds] at e
   cases e
   rw [Tg.rds]
   exact ⟨rfl,q σ s rfl⟩
  | cons h t=>simp [Tg.binds] at e
 | t :: ts,ws,ds,σ,τ,τ',Q,s,hv,e,hs,q=>by
  cases hv with
  | nil=>simp [Tg.binds] at e
  | cons h tl=>
   rename_i v d ws ds
   rw [Tg.binds] at e
   cases q1:Tg.bind t d τ with
   | none=>rw [q1] at e; cases e
   | some τ1=>
    rw [q1] at e
    rw [Tg.rds]
    refine ⟨v,ws,rfl,Tg.ok r s h q1 (fun i hi=>hs i (by rw [Tg.slotss]; exact List.mem_append_left _ hi)) fun σ' s' w'=>?_⟩
    exact Tg.oks r s' tl e (fun i hi=>hs i (by rw [Tg.slotss]; exact List.mem_append_right _ hi)) fun σ2 s2 w2=>q σ2 s2 (w2.trans w')
end
end
def forL (t:Tg) (body:SM):List D→SM
 | [],τ,S=>.ok (.nx τ) S
 | d :: ds,τ,S=>(match t.bind d τ with
  | some τ1=>(match body τ1 S with
   | .ok (.nx τ2) S2=>forL t body ds τ2 S2
   | .ok (.ct τ2) S2=>forL t body ds τ2 S2
   | .ok (.bk τ2) S2=>.ok (.nx τ2) S2
   | r=>r)
  | none=>.bad)
def sFor (it:IM) (t:Tg) (body:SM):SM:=fun τ=>sOf (it τ) τ fun xs=>forL t body xs τ
theorem ds_for {iter tg:Expr} {body:List Stmt} {it:IM} {t:Tg} (hp:PassesOwn (model X.prog X.w) X.A X.env X.xe) (hc:X.calm=true) (hi:PI X tg iter (tIt (gx X cur hid) W it)) (hg:PG X tg (t.rd X.K)) (hb:PSs X body (tS (gx X cur hid) W s1))
  (hs:∀ x,foldedSetIterable iter X.env x=pure x:=by intro _; rfl):PS X (.For tg iter body [] pos) (tS (gx X cur hid) W (sFor it t s1)):=PS.imp (ps_for hp hc hi hg hb hs) fun De σ H h=>by
 obtain ⟨c,S,τ,r,s,o⟩:=h
 refine ⟨c,S,τ,r,s,Xv.of s o fun xs c1 S1 H1 f1 o1 J wk=>?_⟩
 have s1':=s.mono f1.ex f1.pre
 refine ⟨fun i m σ' H'=>∃ c' S' τ',Fut (gx X cur hid) c1 S1 H1 c' S' H'∧Sl (gx X cur hid) (frz (gx X cur hid) c' S' H') c' σ' τ'∧m=xs.length - i∧i≤xs.length∧Xv (gx X cur hid) W c' S' H' De (forL t s1 (xs.drop i) τ' S'),
  ⟨xs.length,c1,S1,τ,Fut.refl f1.rep,s1',by simp,Nat.zero_le _,by simpa using o1⟩,?_⟩
 rintro i m σ' H' ⟨c',S',τ',f,s',rfl,hi',o'⟩
 by_cases hlt:i < xs.length
 ·refine .inr ⟨wk.go i _ c' S' H' f.later hlt,_,fun σ2 H2 h2=>⟨xs.length - (i+1),by omega,h2⟩,fun v H2 y=>?_⟩
  obtain ⟨f2,hv⟩:=wk.yld i _ c' S' H' v H2 f.later y xs[i] (by simp [hlt])
  rw [List.drop_eq_getElem_cons hlt,forL] at o'
  cases q:t.bind xs[i] τ' with
  | none=>rw [q] at o'; exact o'.elim
  | some τ1=>
   rw [q] at o'
   have o2:=o'.fut f2
   dsimp only at o2
   refine Tg.ok (g:=gx X cur hid) (vs:=t.slots) f2.rep (s'.mono f2.ex f2.pre) hv q (fun _ h=>h) fun σ2 sl2 _=>?_
   refine ⟨c',S',τ1,f2.rep,sl2,?_⟩
   have again:∀ {τ2:DSt} {S2:Za} {σ3:St} {H3:Hp} {c3:List Addr},Xv (gx X cur hid) W c' S' H2 De (forL t s1 (xs.drop (i+1)) τ2 S2)→Fut (gx X cur hid) c' S' H2 c3 S2 H3→Sl (gx X cur hid) (frz (gx X cur hid) c3 S2 H3) c3 σ3 τ2 →
     ∃ c' S' τ',Fut (gx X cur hid) c1 S1 H1 c' S' H3∧Sl (gx X cur hid) (frz (gx X cur hid) c' S' H3) c' σ3 τ'∧xs.length - (i+1)=xs.length - (i+1)∧i+1≤xs.length∧Xv (gx X cur hid) W c' S' H3 De (forL t s1 (xs.drop (i+1)) τ' S'):=fun {τ2 S2 σ3 H3 c3} o3 f3 sl3=>
    ⟨c3,S2,τ2,(f.trans f2).trans f3,sl3,rfl,hlt,o3.fut f3⟩
   cases e:s1 τ1 S' with
   | ok fl S2=>
    rw [e] at o2
    cases fl with
    | nx τ2=>exact fun σ3 H3 c3 f3 sl3=>again o2 f3 sl3
    | ct τ2=>exact fun σ3 H3 c3 f3 sl3=>again o2 f3 sl3
    | bk τ2=>exact o2
    | rt d=>exact o2
   | err C fs τ2 S2=>rw [e] at o2; exact o2
   | bad=>rw [e] at o2; exact o2
 ·have e:i=xs.length:=by omega
  subst e
  rw [List.drop_length] at o'
  exact .inl ⟨wk.stop _ _ c' S' H' f.later (Nat.le_refl _),o' σ' H' c' (Fut.refl f.rep) s'⟩
theorem dg_name {i:Nat} {x:Str} (hN:X.N.Nodup) (hi:X.N[i]? = some x) (hx:Loc X.env.scope x) (hf:X.fn x=true∨X.env.scope.names.lookup x=some .local:=by first | exact .inl rfl | exact .inr rfl | assumption):PG X (.Name x pos) ((Tg.nm i).rd X.K):=by
 rw [Tg.rd]
 exact pg_name hN hi hx hf
theorem VF:PGs X [] (Tg.rds X.K []):=by rw [Tg.rds]; exact pgs_nil
theorem dgs_cons {e:Expr} {es:List Expr} {t:Tg} {ts:List Tg} (h1:PG X e (t.rd X.K)) (h2:PGs X es (Tg.rds X.K ts)) (hs:(assignEach (e :: es) X.env).map (·.2)=assign e X.env :: (assignEach es X.env).map (·.2):=by rfl):PGs X (e :: es) (Tg.rds X.K (t :: ts)):=by
 rw [Tg.rds]
 exact pgs_cons h1 h2 hs
theorem dg_tup {es:List Expr} {k:Nat} {ts:List Tg} (hc:X.calm=true) (h:PGs X es (Tg.rds X.K ts)) (hn:(assignEach es X.env).length=ts.length:=by rfl) (hst:(assignEach es X.env).findIdx? (·.1)=none:=by rfl):PG X (.Tuple es k pos) ((Tg.tp ts).rd X.K):=by
 rw [Tg.rd]
 exact pg_tup hc h hn hst
def whileL (t:TM) (body:SM):Nat→SM
 | 0,_,_=>.bad
 | n+1,τ,S=>sOf (t τ) τ (fun b S1=>if b=true then (match body τ S1 with
  | .ok (.nx τ2) S2=>whileL t body n τ2 S2
  | .ok (.ct τ2) S2=>whileL t body n τ2 S2
  | .ok (.bk τ2) S2=>.ok (.nx τ2) S2
  | r=>r) else .ok (.nx τ) S1) S
theorem ds_while {cc:Expr} {body:List Stmt} (fuel:Nat) (hp:PassesOwn (model X.prog X.w) X.A X.env X.xe) (hc:PT X cc (tT g W tm)) (hb:PSs X body (tS g W s1)):PS X (.While cc body [] pos) (tS g W (whileL tm s1 fuel)):=PS.imp (ps_while hp hc hb) fun De σ H h=>by
 refine ⟨fun n σ' H'=>tS g W (whileL tm s1 n) De σ' H',⟨fuel,h⟩,?_⟩
 rintro n σ' H' ⟨c,S,τ,r,s,o⟩
 cases n with
 | zero=>exact o.elim
 | succ n=>
  refine ⟨c,S,τ,r,s,Xv.of s o fun b c1 S1 H1 f1 o1=>?_⟩
  have s1':=s.mono f1.ex f1.pre
  cases b with
  | false=>exact o1 _ H1 c1 (Fut.refl f1.rep) s1'
  | true=>
   rw [if_pos rfl] at o1
   show (if true=true then _ else _)
   rw [if_pos rfl]
   refine ⟨fun σ2 H2=>tS g W (whileL tm s1 n) De σ2 H2,fun σ2 H2 h2=>⟨n,Nat.lt_succ_self n,h2⟩,c1,S1,τ,f1.rep,s1',?_⟩
   cases e:s1 τ S1 with
   | ok fl S2=>
    rw [e] at o1
    cases fl with
    | nx τ2=>exact fun σ3 H3 c3 f3 sl3=>⟨c3,S2,τ2,f3.rep,sl3,o1.fut f3⟩
    | ct τ2=>exact fun σ3 H3 c3 f3 sl3=>⟨c3,S2,τ2,f3.rep,sl3,o1.fut f3⟩
    | bk τ2=>exact o1
    | rt d=>exact o1
   | err C fs τ2 S2=>rw [e] at o1; exact o1
   | bad=>rw [e] at o1; exact o1
end
end ND
namespace L2
open PySem PySem.Spec PyProof.Rows
structure RoomG (k:Nat) (A:Around):Prop extends Room k A where
 gd:A.guards=some []
section
variable {P:Program} {w:World} {K:PySem.W.Frag} {mg:Str→Option Value} {base:Heap} {CX:CXT} {k:Nat} {f:Addr} {fd:FuncData} {ps:List Str} {sp:Sp} {A:Around}
theorem RoomG.mono {j:Nat} (r:RoomG k A) (h:j≤k):RoomG j A:=⟨r.toRoom.mono h,r.gd⟩
theorem RoomG.deeper (r:RoomG (k+1) A) (env:Env):RoomG k (A.deeper env):=⟨r.toRoom.deeper env,r.gd⟩
theorem RoomG.in1 (r:RoomG (k+1) A):RoomG k A.in1:=⟨r.toRoom.in1,r.gd⟩
theorem U4 {C:Addr} {us:List Value} {kw:List (Str × Value)}:(A.under (.builtin "type.__call__" ⟨.ref C :: us,kw⟩)).guards=A.guards:=by
 have e:(Code.builtin "type.__call__" ⟨.ref C :: us,kw⟩).guards=[]:=by simp [Code.guards,Code.isGuard,guardIds]
 unfold Around.under
 dsimp only
 rw [e]
 cases A.guards <;> rfl
theorem RoomG.make (r:RoomG (k+1) A) (C:Addr) (us:List Value) (kw:List (Str × Value)):RoomG k (A.under (.builtin "type.__call__" ⟨.ref C :: us,kw⟩)):=⟨r.toRoom.make C us kw,U4.trans r.gd⟩
structure FnG (P:Program) (w:World) (K:PySem.W.Frag) (mg:Str→Option Value) (base:Heap) (CX:CXT) (k:Nat) (f:Addr) (fd:FuncData) (ps:List Str) (sp:Sp):Prop where
 len:∀ xs G Q E,sp xs G Q E→xs.length=ps.length
 run:∀ (A:Around) (outer:List Env) (sh:Shared) (G:Hp) (args:Args) (us:List Value) (xs:List V) (Q:VK) (E:XK),RoomG k A→Env0 P w K mg base A outer sh G→BindsTo sh fd args (ps.zip us)→Vals xs us→sp xs G Q E→codeAny (model P w) A (.call (.ref f) args) (CR CX outer P w G sh Q E) sh
theorem FnG.mono {j:Nat} (F:FnG P w K mg base CX j f fd ps sp) (h:j≤k):FnG P w K mg base CX k f fd ps sp:=⟨F.len,fun A outer sh G args us xs Q E room=>F.run A outer sh G args us xs Q E (room.mono h)⟩
theorem ZdM {name qual:Str} {params:Arguments} {body:List Stmt} {scope:Scope} {dV kV doc pm cdv ct oc:Value} {an od:Option Addr} {osl:Array (Option Value)} {N:List Str}
  (at_:K.lookup f=some ⟨oc,od,.func (PySem.W.fnOf name qual params body scope dV kV doc pm an cdv ct),osl⟩) (isC:PySem.W.codeIn K cdv qual=true) (Sc:FnScope N ps scope) (len:∀ xs G Q E,sp xs G Q E→xs.length=ps.length)
  (bd:∀ (A:Around) (outer:List Env) (sh:Shared) (G:Hp) (xs:List V) (Q:VK) (E:XK),RoomG k (A.deeper (envOfC qual scope sh.heap.objs.size f cdv))→sp xs G Q E→∃ t,PSs (cxOf CX P w K mg base N qual scope f cdv A outer sh G E) body t∧t { nx:=fun _ H'=>Q .non H',rt:=Q } (start N xs) G) :
  FnG P w K mg base CX (k+1) f (PySem.W.fnOf name qual params body scope dV kV doc pm an cdv ct) ps sp where
 len:=len
 run:=fun A outer sh G args us xs Q E room e0 to rel want=>by
  have inK:K.In sh.heap:=e0.mod.kin.keeps fun b o e=>(e0.bs b o e).1
  have noL:sh.heap.NoLimit:=e0.mod.nolimit.keeps fun b o e=>(e0.bs b o e).1
  refine codeAny_call_function room.toRoom.depth (inK _ _ at_) rfl Sc.co Sc.gen rfl (PySem.W.codeRec_of inK isC) (to _ _ _ _ (wpAny_newFunctionEnv_cells Sc.kind (fun y hy=>?_) fun env isE s1 inC=>?_))
  ·rcases Sc.par y.1 (List.of_mem_zip hy).1 with loc | cel
   ·exact .inl loc
   ·exact .inr ⟨cel,PySem.W.cellsFrom_some _ _ _ (.inl cel)⟩
  ·subst isE
   obtain ⟨t,runs,q⟩:=bd A outer sh G xs Q E (room.deeper _) want
   have inv:=inv_start (CX:=CX) (base:=base) (E:=E) Sc room.toRoom.hd e0 (len _ _ _ _ want) rel inC
   refine ⟨noL.keeps inC.toInCall.keep,codeAny_func (wpAny_mono (runs.run [] s1 (start N xs) G _ inv q) (fun fl s' ended=>?_) fun _ _ z=>z)⟩
   cases fl with
   | ret u=>obtain ⟨v,_,G',inv',rv,q'⟩:=ended; exact ⟨v,G',inv'.os,inv'.bare,inv'.base,inv'.hok,rv,q'⟩
   | next=>obtain ⟨_,G',inv',q'⟩:=ended; exact ⟨V.non,G',inv'.os,inv'.bare,inv'.base,inv'.hok,rfl,q'⟩
   | brk=>exact ended.elim fun _ z=>z.elim fun _ z=>z.2.elim
   | cont=>exact ended.elim fun _ z=>z.elim fun _ z=>z.2.elim
theorem FunD.okG {x qual:Str} {params:Arguments} {body:List Stmt} {scope:Scope} {dvs:List V} {kws:List (Str × V)} {N:List Str} (F:FunD K x qual params body scope dvs kws f fd) (Sc:FnScope N ps scope) (len:∀ xs G Q E,sp xs G Q E→xs.length=ps.length)
  (bd:∀ (cdv:Value) (A:Around) (outer:List Env) (sh:Shared) (G:Hp) (xs:List V) (Q:VK) (E:XK),RoomG k (A.deeper (envOfC qual scope sh.heap.objs.size f cdv))→sp xs G Q E→∃ t,PSs (cxOf CX P w K mg base N qual scope f cdv A outer sh G E) body t∧t { nx:=fun _ H'=>Q .non H',rt:=Q } (start N xs) G) :
  FnG P w K mg base CX (k+1) f fd ps sp:=by
 obtain ⟨_,_,_,_,_,_,_,cdv,_,_,rfl,at_,isC,_,_⟩:=F.ex
 exact ZdM at_ isC Sc len fun A outer sh G xs Q E room want=>bd cdv A outer sh G xs Q E room want
end
section
variable {X:Cx} {CX:CXT} {k:Nat} {f:Addr} {fd:FuncData} {ps:List Str} {sp:Sp} {E:St→XK} {x:Str} {p pos:Pos} {e:Expr} {es:List Expr} {t:TA}
theorem run_fnG {pins:List (Addr × Obj)} {st:St} {G:Hp} {sh:Shared} {Q:VK} {us:List Value} {xs:List V} (F:FnG X.prog X.w X.K X.mg X.base CX k f fd ps sp) (room:RoomG k X.A) (bd:Binds X.K fd ps []) (pass:PassesAt CX X st (E st))
  (inv:Inv X pins st G sh) (rel:Vals xs us) (want:sp xs G Q (E st)):wpAny (model X.prog X.w) X.A (call (.ref f) us) (EP X pins st Q) X.xe sh:=by
 have to:=bd sh us inv.kIn (by rw [List.append_nil,← rel.length]; exact F.len _ _ _ _ want)
 rw [List.append_nil] at to
 refine wpAny_call (codeAny_mono (F.run X.A X.stack sh G ⟨us,[]⟩ us xs Q (E st) room inv.env0 to rel want) fun r s' ended=>?_)
 match r with
 | .error e=>exact pass pins G sh e s' inv ended
 | .ok (.ret u)=>exact inv.after ended
 | .ok .next=>exact ended.elim
 | .ok .brk=>exact ended.elim
 | .ok .cont=>exact ended.elim
theorem pe_callG (F:FnG X.prog X.w X.K X.mg X.base CX k f fd ps sp) (room:RoomG k X.A) (glob:Gl X x) (isF:X.mg x=some (.ref f)) (kept:PySem.W.keepIn X.K (.ref f)=true) (bd:Binds X.K fd ps []) (pass:∀ st,PassesAt CX X st (E st)) (ha:PA X (e :: es) t)
  (ndb:(x == ("__debug__" : Str))=false:=by decide) (plain:starEach (e :: es) X.env=(false,eval e X.env) :: starEach es X.env:=by rfl) (nostar:(backTo pos (starEach es X.env)).any (·.1)=false:=by rfl):PE X (.Call (.Name x p) (e :: es) [] pos) (tCallS sp E t) where
 run:=fun pins sh st G Q inv want=>wpAny_Call_Name_kw (ld_glob inv glob isF (PySem.W.callWith_K (h₀:=X.base) inv.ok.mod.kin kept (thn (ha.run pos pins sh st G _ inv want) fun us s1 ⟨xs,G1,inv1,rel,q⟩=>⟨inv1.kIn,run_fnG F room bd (pass st) inv1 rel q⟩) plain nostar) ndb)
end
end L2
namespace ND
open PySem L2
section
variable {X:Cx} {g:G} {W:WX} {a b e o:Expr} {es:List Expr} {m mb:EM} {ms:AM} {pos p:Pos} {cur:Cur} {hid:List Addr} {s1:SM} {tm:TM}
def wipeD (τ:DSt):List Nat→DSt
 | []=>τ
 | i :: r=>(wipeD τ r).set i none
theorem Sl.wipe {F:Hp} {c:List Addr} {σ:St} {τ:DSt} (h:Sl g F c σ τ):∀ vs:List Nat,Sl g F c (L2.wipe σ vs) (wipeD τ vs)
 | []=>h
 | i :: r=>by
  have ih:=Sl.wipe h r
  exact ih.forget i none
theorem Sl.same {g':G} {F:Hp} {c:List Addr} {σ:St} {τ:DSt} (e:Zu g g') (h:Sl g F c σ τ) (el:g.lamAt=g'.lamAt:=by rfl):Sl g' F c σ τ:=by
 induction h with
 | nil=>exact .nil
 | un _ ih=>exact .un ih
 | hs v _ ih=>exact .hs (v.same e) ih
 | cl z _ ih=>exact .cl (el.symm.trans z) ih
def compL (t:Tg) (tt:TM) (te:EM) (τ:DSt):List D→List D→M (List D)
 | [],acc=>pure acc
 | d :: ds,acc=>(match t.bind d τ with
  | some τ1=>tt τ1 >>= fun b=>if b=true then te τ1 >>= fun y=>M.chk (decide (acc.length < sizeLine)) (compL t tt te τ ds (acc++[y])) else compL t tt te τ ds acc
  | none=>M.no)
def noErr {α:Type} (m:M α):M α:=fun S=>match m S with
 | .ok a S'=>.ok a S'
 | _=>.bad
def mComp (it:IM) (vs:List Nat) (t:Tg) (tt:TM) (te:EM):EM:=fun τ=>it τ >>= fun xs=>noErr (compL t tt te (wipeD τ vs) xs []) >>= fun ys=>pure (.lst ys)
def mCompC (it:IM) (vs:List Nat) (t:Tg) (tt:TM) (te:EM):EM:=fun τ=>it τ >>= fun xs=>noErr (compL t tt te (wipeD τ vs) xs []) >>= fun ys=>newCell (.lst ys)
abbrev WF:WX:=fun _ _ _ _=>False
def tYesD:TM:=fun _=>pure true
theorem Yj:PTs X [] (tT g W tYesD):=⟨fun pins s σ H Q I h=>(pts_nil (X:=X)).run pins s σ H Q I (by
 obtain ⟨c,S,τ,r,s,o⟩:=h
 exact o H c (Fut.refl r))⟩
theorem dts_one {c:Expr} (h:PT X c (tT g W tm)):PTs X [c] (tT g W tm):=pts_one h
structure Hf (g:G) (c:List Addr) (S:Za) (H1:Hp) (p:Addr) (c':List Addr) (S':Za) (H:Hp):Prop where
 l:Later g c S H1 (g.hide p) c' S' H
 hid:∀ a ∈ g.hid,H a=H1 a
theorem Hf.start {c:List Addr} {S:Za} {H1:Hp} {p:Addr} {o:HO} (r:Rep g c S H1) (hp:H1 p=none):Hf g c S H1 p c S (upd H1 p o):=by
 obtain ⟨r1,ef⟩:=r.hide (o:=o) hp
 have hh:∀ a ∈ g.hid,upd H1 p o a=H1 a:=fun a ha=>upd_ne fun z=>by
  obtain ⟨o,e⟩:=r.hs a ha
  rw [z,hp] at e; cases e
 exact ⟨⟨Zu.hide g p,Pre.refl c,r1,by rw [ef]; exact Evl.Ex.refl _,hh⟩,hh⟩
theorem Hf.step {c c' c2:List Addr} {S S' S2:Za} {H1 H H2:Hp} {p:Addr} (h:Hf g c S H1 p c' S' H) (f:Fut (g.hide p) c' S' H c2 S2 H2):Hf g c S H1 p c2 S2 H2:=
 ⟨⟨h.l.same,h.l.pre.trans f.pre,f.rep,h.l.ex.trans f.ex,fun a ha=>(f.hid a (show a ∈ p :: g.hid from List.mem_cons_of_mem _ ha)).trans (h.hid a ha)⟩,fun a ha=>(f.hid a (show a ∈ p :: g.hid from List.mem_cons_of_mem _ ha)).trans (h.hid a ha)⟩
theorem Hf.put {c c':List Addr} {S S':Za} {H1 H:Hp} {p:Addr} {o:HO} (h:Hf g c S H1 p c' S' H) (np:p ∉ g.hid):Hf g c S H1 p c' S' (upd H p o)∧frz (g.hide p) c' S' (upd H p o)=frz (g.hide p) c' S' H:=by
 obtain ⟨r1,ef⟩:=h.l.rep.hput (o:=o)
 have hh:∀ a ∈ g.hid,upd H p o a=H1 a:=fun a ha=>by rw [upd_ne (fun z:a=p=>np (by rw [← z]; exact ha))]; exact h.hid a ha
 exact ⟨⟨⟨h.l.same,h.l.pre,r1,by rw [ef]; exact h.l.ex,hh⟩,hh⟩,ef⟩
theorem Hf.fut {c c':List Addr} {S S':Za} {H1 H:Hp} {p:Addr} (h:Hf g c S H1 p c' S' H):Fut g c S H1 c' S' H:=by
 obtain ⟨r2,ex,_⟩:=h.l.rep.bare
 exact ⟨h.l.pre,r2,h.l.ex.trans ex,h.hid⟩
theorem not_hid {c:List Addr} {S:Za} {H:Hp} {p:Addr} (r:Rep g c S H) (hp:H p=none):p ∉ g.hid:=fun z=>by
 obtain ⟨o,e⟩:=r.hs p z
 rw [hp] at e; cases e
theorem wipe_wipe (σ:St) (vs:List Nat):wipe (wipe σ vs) vs=wipe σ vs:=by
 apply List.ext_getElem?
 intro j
 by_cases hj:j ∈ vs
 ·have l1:(wipe (wipe σ vs) vs).length=σ.length:=by rw [wipe_length,wipe_length]
  have l2:(wipe σ vs).length=σ.length:=wipe_length σ vs
  have no:∀ σ':St,σ'.length=σ.length→∀ z:(wipe σ' vs).length=σ.length,j < σ.length→(wipe σ' vs)[j]? = some none:=fun σ' _ l hl=>by
   cases z:(wipe σ' vs)[j]? with
   | none=>rw [List.getElem?_eq_none_iff] at z; omega
   | some y=>
    cases y with
    | none=>rfl
    | some v=>exact absurd hj (wipe_some z).2
  rcases Nat.lt_or_ge j σ.length with q | q
  ·rw [no (wipe σ vs) l2 l1 q,no σ rfl l2 q]
  ·rw [List.getElem?_eq_none (by omega),List.getElem?_eq_none (by omega)]
 ·rw [wipe_out hj]
theorem comp_core {t:Tg} {tt:TM} {te:EM} {vs:List Nat} {σ:St} {H1:Hp} {c:List Addr} {S:Za} {τ:DSt} {xs:List D} {J:It} {Qd:Addr→Hp→Prop} {R:List D→List Addr→Za→Hp→Prop} {E:XK}
  (r:Rep g c S H1) (sl:Sl g (frz g c S H1) c σ τ) (wk:Walks g c S H1 J xs) (ht:∀ i ∈ t.slots,i ∈ vs) (o:Out g c S H1 R E (noErr (compL t tt te (wipeD τ vs) xs []) S))
  (q:∀ p ys us c' S' H',H1 p=none→Hf g c S H1 p c' S' H'→H' p=some (.lst us)→Vls (g.hide p) (frz (g.hide p) c' S' H') c' us ys→(∀ H'' c'',Fut g c S H1 c'' S' H''→R ys c'' S' H'')→Qd p H') :
  ∀ p,H1 p=none→∃ Wv:Nat→Nat→Hp→Prop,(∃ m,Wv 0 m (upd H1 p (.lst [])))∧∀ i m H,Wv i m H →
   (J.stop i H∧Qd p H)∨(J.go i H∧∃ Nx:Hp→Prop,(∀ H',Nx H'→∃ m',m' < m∧Wv (i+1) m' H')∧∀ x H',J.yld i H x H'→t.rd g.K x (wipe σ vs) H' fun σ2 H2=>wipe σ2 vs=wipe σ vs∧tT (g.hide p) WF tt σ2 H2 fun b H3=>
    if b=true then tE (g.hide p) WF te σ2 H3 fun y H4=>∃ acc,H4 p=some (.lst acc)∧acc.length < sizeLine∧Nx (upd H4 p (.lst (acc++[y]))) else Nx H3):=by
 intro p hp
 have np:=not_hid r hp
 have pm:p ∈ (g.hide p).hid:=List.mem_cons_self
 refine ⟨fun i m H=>∃ c' S' acc us,Hf g c S H1 p c' S' H∧H p=some (.lst us)∧Vls (g.hide p) (frz (g.hide p) c' S' H) c' us acc∧m=xs.length - i∧i≤xs.length∧Out g c S H1 R E (noErr (compL t tt te (wipeD τ vs) (xs.drop i) acc) S'),
  ⟨xs.length,c,S,[],[],Hf.start r hp,upd_same,.nil,by simp,Nat.zero_le _,by simpa using o⟩,?_⟩
 rintro i m H ⟨c',S',acc,us,hf,hH,vl,rfl,hi,o'⟩
 by_cases hlt:i < xs.length
 ·refine .inr ⟨wk.go i _ c' S' H hf.l hlt,_,fun H' h'=>⟨xs.length - (i+1),by omega,h'⟩,fun x H2 y=>?_⟩
  obtain ⟨f2,hv⟩:=wk.yld i _ c' S' H x H2 hf.l y xs[i] (by simp [hlt])
  rw [List.drop_eq_getElem_cons hlt,compL] at o'
  cases q1:t.bind xs[i] (wipeD τ vs) with
  | none=>rw [q1] at o'; exact o'.elim
  | some τ1=>
   rw [q1] at o'
   dsimp only at o'
   have slw:Sl (g.hide p) (frz (g.hide p) c' S' H2) c' (wipe σ vs) (wipeD τ vs):=((Sl.wipe sl vs).same (Zu.hide g p)).mono (hf.l.ex.trans f2.ex) (hf.l.pre.trans f2.pre)
   refine Tg.ok (g:=g.hide p) (vs:=vs) f2.rep slw hv q1 ht fun σ2 sl2 w2=>⟨w2.trans (wipe_wipe σ vs),c',S',τ1,f2.rep,sl2,?_⟩
   have hf2:=hf.step f2
   cases e1:tt τ1 S' with
   | err C fs S2=>
    exfalso
    unfold noErr at o'
    rw [Zy,e1] at o'
    exact o'
   | bad=>
    exfalso
    unfold noErr at o'
    rw [Zy,e1] at o'
    exact o'
   | ok b S2=>
    intro H3 c3 f3
    have hf3:=hf2.step f3
    have h3p:H3 p=some (.lst us):=by rw [f3.hid p pm,f2.hid p pm]; exact hH
    have vl3:=(vl.mono f2.ex f2.pre).mono f3.ex f3.pre
    cases b with
    | false=>
     show (if false=true then _ else _)
     rw [if_neg Bool.false_ne_true]
     refine ⟨c3,S2,acc,us,hf3,h3p,vl3,rfl,hlt,?_⟩
     unfold noErr at o' ⊢
     rw [Zy,e1] at o'
     exact o'
    | true=>
     show (if true=true then _ else _)
     rw [if_pos rfl]
     refine ⟨c3,S2,τ1,f3.rep,sl2.mono f3.ex f3.pre,?_⟩
     unfold noErr at o'
     rw [Zy,e1] at o'
     dsimp only at o'
     rw [if_pos rfl,Zy] at o'
     cases e2:te τ1 S2 with
     | err C fs S3=>rw [e2] at o'; exact o'.elim
     | bad=>rw [e2] at o'; exact o'.elim
     | ok d S3=>
      rw [e2] at o'
      dsimp only at o'
      intro H4 c4 f4 v hv4
      have hf4:=hf3.step f4
      have h4p:H4 p=some (.lst us):=by rw [f4.hid p pm]; exact h3p
      have vl4:=vl3.mono f4.ex f4.pre
      unfold M.chk at o'
      by_cases hl:acc.length < sizeLine
      ·rw [if_pos (decide_eq_true hl)] at o'
       obtain ⟨hf5,ef⟩:=hf4.put (o:=.lst (us++[v])) np
       refine ⟨us,h4p,by rw [vl4.length]; exact hl,c4,S3,acc++[d],us++[v],hf5,upd_same,by rw [ef]; exact vl4.append (.cons hv4 .nil),rfl,hlt,?_⟩
       unfold noErr
       exact o'
      ·rw [if_neg (fun z=>hl (of_decide_eq_true z))] at o'
       exact o'.elim
 ·have e:i=xs.length:=by omega
  subst e
  rw [List.drop_length,compL] at o'
  exact .inl ⟨wk.stop _ _ c' S' H hf.l (Nat.le_refl _),q p acc us c' S' H hp hf hH vl fun H'' c'' f=>o' H'' c'' f⟩
theorem pe_ex {I:Type} {t:I→TE} (h:∀ i,PE X e (t i)):PE X e (fun σ H Q=>∃ i,t i σ H Q):=⟨fun pins s σ H Q I ⟨i,q⟩=>(h i).run pins s σ H Q I q⟩
theorem Kf {I:Type} {t:I→TT} (h:∀ i,PTs X es (t i)):PTs X es (fun σ H Q=>∃ i,t i σ H Q):=⟨fun pins s σ H Q I ⟨i,q⟩=>(h i).run pins s σ H Q I q⟩
section
variable {elt tg iter:Expr} {ifs:List Expr} {scope:Scope} {own:List (Str × Nat)} {it:IM} {t:Tg} {tt:TM} {te:EM}
theorem ZdS {J:It} {σ:St} {H1:Hp} {vs:List Nat} {p:Addr} {Qd:Addr→Hp→Prop}
  (h:∃ Wv:Nat→Nat→Hp→Prop,(∃ m,Wv 0 m (upd H1 p (.lst [])))∧∀ i m H,Wv i m H →
   (J.stop i H∧Qd p H)∨(J.go i H∧∃ Nx:Hp→Prop,(∀ H',Nx H'→∃ m',m' < m∧Wv (i+1) m' H')∧∀ x H',J.yld i H x H'→t.rd X.K x (wipe σ vs) H' fun σ2 H2=>wipe σ2 vs=wipe σ vs∧tT (gx X cur (p :: hid)) WF tt σ2 H2 fun b H3=>
    if b=true then tE (gx X cur (p :: hid)) WF te σ2 H3 fun y H4=>∃ acc,H4 p=some (.lst acc)∧acc.length < sizeLine∧Nx (upd H4 p (.lst (acc++[y]))) else Nx H3))
  (mono:∀ (x:V) (σ:St) (H:Hp) (Q Q':St→Hp→Prop),(∀ σ' H',Q σ' H'→Q' σ' H')→t.rd X.K x σ H Q→t.rd X.K x σ H Q') :
  ∃ Wv:Nat→Nat→Hp→Prop,(∃ m,Wv 0 m (upd H1 p (.lst [])))∧∀ i m H,Wv i m H →
   (J.stop i H∧Qd p H)∨(J.go i H∧∃ Nx:Hp→Prop,(∀ H',Nx H'→∃ m',m' < m∧Wv (i+1) m' H')∧∀ x H',J.yld i H x H'→t.rd X.K x (wipe σ vs) H' fun σ2 H2=>wipe σ2 vs=wipe σ vs∧(∃ hd,tT (gx X cur hd) WF tt σ2 H2 fun b H3=>
    if b=true then (∃ hd,tE (gx X cur hd) WF te σ2 H3 fun y H4=>∃ acc,H4 p=some (.lst acc)∧acc.length < sizeLine∧Nx (upd H4 p (.lst (acc++[y])))) else Nx H3)):=by
 obtain ⟨Wv,h0,hs⟩:=h
 refine ⟨Wv,h0,fun i m H hw=>?_⟩
 rcases hs i m H hw with z | ⟨go,Nx,hN,hy⟩
 ·exact .inl z
 ·refine .inr ⟨go,Nx,hN,fun x H' y=>mono _ _ _ _ _ (fun σ2 H2 ⟨w,q⟩=>⟨w,p :: hid,?_⟩) (hy x H' y)⟩
  obtain ⟨c,S,τ,r,s,o⟩:=q
  refine ⟨c,S,τ,r,s,o.imp fun b c' S' H3 f q=>?_⟩
  cases b with
  | true=>exact ⟨p :: hid,q⟩
  | false=>exact q
mutual
theorem Tg.rd_mono {K:PySem.W.Frag}:∀ (t:Tg) (x:V) (σ:St) (H:Hp) (Q Q':St→Hp→Prop),(∀ σ' H',Q σ' H'→Q' σ' H')→t.rd K x σ H Q→t.rd K x σ H Q'
 | .nm i,x,σ,H,Q,Q',k,h=>by
  rw [Tg.rd] at h ⊢
  exact k _ _ h
 | .tp ts,x,σ,H,Q,Q',k,h=>by
  rw [Tg.rd] at h ⊢
  obtain ⟨a,xs,e,hs,hl,h⟩:=h
  exact ⟨a,xs,e,hs,hl,Tg.rds_mono ts xs σ H Q Q' k h⟩
theorem Tg.rds_mono {K:PySem.W.Frag}:∀ (ts:List Tg) (x:List V) (σ:St) (H:Hp) (Q Q':St→Hp→Prop),(∀ σ' H',Q σ' H'→Q' σ' H')→Tg.rds K ts x σ H Q→Tg.rds K ts x σ H Q'
 | [],x,σ,H,Q,Q',k,h=>by
  rw [Tg.rds] at h ⊢
  exact ⟨h.1,k _ _ h.2⟩
 | t :: ts,x,σ,H,Q,Q',k,h=>by
  rw [Tg.rds] at h ⊢
  obtain ⟨v,r,e,h⟩:=h
  exact ⟨v,r,e,Tg.rd_mono t v σ H _ _ (fun σ' H' q=>Tg.rds_mono ts r σ' H' Q Q' k q) h⟩
end
theorem Kz {σ:St} {H:Hp} {Q:VK} (hsl:∀ i ∈ t.slots,i ∈ own.map (·.2)) (h:tE (gx X cur hid) W (mComp it (own.map (·.2)) t tt te) σ H Q) :
 tLc (tIt (gx X cur hid) W it) (t.rd X.K) (fun σ H Q=>∃ hd,tT (gx X cur hd) WF tt σ H Q) (fun σ H Q=>∃ hd,tE (gx X cur hd) WF te σ H Q) (own.map (·.2)) σ H Q:=by
 obtain ⟨c,S,τ,r,s,o⟩:=h
 refine ⟨c,S,τ,r,s,(Out.bind o).imp fun xs c1 S1 H1 f1 o1 J wk=>?_⟩
 intro p hp
 refine ZdS (hid:=hid) (Qd:=fun p H=>Q (.ref p) H) (comp_core (Qd:=fun p H=>Q (.ref p) H) f1.rep (s.mono f1.ex f1.pre) wk hsl (Out.bind o1) (fun p ys us c' S' H' hp hf hH vl hR=>?_) p hp) (Tg.rd_mono t)
 have f:=hf.fut
 obtain ⟨_,ex,un⟩:=hf.l.rep.bare
 refine hR H' c' f H' c' (Fut.refl f.rep) _ (.lst (by rw [un (not_hid f1.rep hp)]; exact hH) ((vl.same (Zu.hide _ p).symm).mono ex (Pre.refl c')))
theorem d_comp (hc:X.calm=true) (hN:X.N.Nodup) (hi:PI X tg iter (tIt (gx X cur hid) W it)) (ok:BlkOk X.N X.env.scope scope own)
  (hg:∀ (s:Shared) (H:Hp) (C:Addr) (cl:List (Str × Addr)) (fp:List Addr),PG (X.blk s H scope (compEnvC scope cl C X.env) fp) tg (t.rd X.K))
  (hts:∀ (s:Shared) (H:Hp) (C:Addr) (cl:List (Str × Addr)) (fp:List Addr) (hd:List Addr),PTs (X.blk s H scope (compEnvC scope cl C X.env) fp) ifs (tT (gx X cur hd) WF tt))
  (he:∀ (s:Shared) (H:Hp) (C:Addr) (cl:List (Str × Addr)) (fp:List Addr) (hd:List Addr),PE (X.blk s H scope (compEnvC scope cl C X.env) fp) elt (tE (gx X cur hd) WF te))
  (hsl:∀ i ∈ t.slots,i ∈ own.map (·.2)) (hs:∀ x,foldedSetIterable iter X.env x=pure x:=by intro _; rfl) :
  PE X (.ListComp elt [⟨tg,iter,ifs,0⟩] scope pos) (tE (gx X cur hid) W (mComp it (own.map (·.2)) t tt te)):=
 PE.imp (pe_lc hc hN hi ok hg (fun s H C cl fp=>Kf (hts s H C cl fp)) (fun s H C cl fp=>pe_ex (he s H C cl fp)) hs) fun σ H Q h=>Kz hsl h
theorem ds_setLc {i:Nat} {y:Str} {py spos:Pos} (hc:X.calm=true) (hN:X.N.Nodup) (hy:X.N[i]? = some y) (hyl:X.env.scope.names.lookup y=some .local)
  (hsw:swapsWith (.ListComp elt [⟨tg,iter,ifs,0⟩] scope pos) (some (.Name y py)) spos.line X.env=pure true) (hi:PI X tg iter (tIt (gx X cur hid) W it)) (ok:BlkOk X.N X.env.scope scope own)
  (hg:∀ (s:Shared) (H:Hp) (C:Addr) (cl:List (Str × Addr)) (fp:List Addr),PG (X.blk s H scope (compEnvC scope cl C X.env) fp) tg (t.rd X.K))
  (hts:∀ (s:Shared) (H:Hp) (C:Addr) (cl:List (Str × Addr)) (fp:List Addr) (hd:List Addr),PTs (X.blk s H scope (compEnvC scope cl C X.env) fp) ifs (tT (gx X cur hd) WF tt))
  (he:∀ (s:Shared) (H:Hp) (C:Addr) (cl:List (Str × Addr)) (fp:List Addr) (hd:List Addr),PE (X.blk s H scope (compEnvC scope cl C X.env) fp) elt (tE (gx X cur hd) WF te))
  (hsl:∀ i ∈ t.slots,i ∈ own.map (·.2)) (hs:∀ x,foldedSetIterable iter X.env x=pure x:=by intro _; rfl) :
  PS X (.Assign [.Name y py] (.ListComp elt [⟨tg,iter,ifs,0⟩] scope pos) spos) (tS (gx X cur hid) W (sSet i (mComp it (own.map (·.2)) t tt te))):=
 PS.imp (ps_setLc hc hN hy hyl hsw hi ok hg (fun s H C cl fp=>Kf (hts s H C cl fp)) (fun s H C cl fp=>pe_ex (he s H C cl fp)) hs) fun De σ H h=>
  Kz hsl (tS_of (k:=fun d τ S=>.ok (.nx (τ.set i (some d))) S) h fun c S H1 τ v d r1 sl v1 o1=>o1 _ H1 c (Fut.refl r1) (sl.set v1 i))
end
def spD (K:PySem.W.Frag) (mg:Str→Option Value) (P:Program) (w:World) (n:Nat) (f:List D→M D):Sp:=fun vs H Q E=>∃ hid c S ds,Rep ⟨K,mg,P,w,none,hid⟩ c S H∧Vls ⟨K,mg,P,w,none,hid⟩ (frz ⟨K,mg,P,w,none,hid⟩ c S H) c vs ds∧ds.length=n ∧
 Out ⟨K,mg,P,w,none,hid⟩ c S H (RV ⟨K,mg,P,w,none,hid⟩ Q) E (f ds S)
def G.off (g:G):G:={ g with cur:=none }
theorem Zu.off (g:G):Zu g g.off:=⟨rfl,rfl,rfl,rfl⟩
theorem Rep.off {c:List Addr} {S:Za} {H:Hp} (r:Rep g c S H):Rep g.off c S H:=⟨r.len,r.nd,r.hl,r.hs,fun q e=>absurd (show (none:Option CuE)=some q from e) (fun z=>by injection z),r.tb,fun n a x h1 h2=>(r.ok n a x h1 h2).same (Zu.off g)⟩
theorem Fut.on {c c':List Addr} {S S':Za} {H H':Hp} (r:Rep g c S H) (f:Fut g.off c S H c' S' H'):Fut g c S H c' S' H':=
 ⟨f.pre,⟨f.rep.len,f.rep.nd,f.rep.hl,f.rep.hs,fun q e=>(r.cu q e).mono f.ex f.pre,f.rep.tb,fun n a x h1 h2=>(f.rep.ok n a x h1 h2).same (Zu.off g).symm⟩,f.ex,f.hid⟩
theorem Out.off {c:List Addr} {S:Za} {H:Hp} {Q:VK} {E:XK} {x:Res D} (r:Rep g c S H) (h:Out g c S H (RV g Q) E x):Out g.off c S H (RV g.off Q) E x:=by
 cases x with
 | ok d S'=>exact fun H' c' f v hv=>h H' c' (f.on r) v (hv.same (Zu.off g).symm)
 | err C fs S'=>exact fun u o H' c' f q=>h u o H' c' (f.on r) (q.same (Zu.off g).symm)
 | bad=>exact h
abbrev FnD (P:Program) (w:World) (K:PySem.W.Frag) (mg:Str→Option Value) (base:Heap) (k:Nat) (f:Addr) (fd:FuncData) (ps:List Str) (fm:List D→M D):Prop:=FnG P w K mg base (L2N.CX P w) k f fd ps (spD K mg P w ps.length fm)
def arity (n:Nat) (f:List D→M D) (ds:List D):M D:=M.chk (decide (ds.length=n)) (f ds)
theorem Zdh {x:Str} {k n:Nat} {f:Addr} {fd:FuncData} {ps:List Str} {fm:List D→M D} (F:FnD X.prog X.w X.K X.mg X.base k f fd ps fm) (hr:RoomG k X.A) (hg:Gl X x) (hm:X.mg x=some (.ref f)) (hk:PySem.W.keepIn X.K (.ref f)=true) (hb:Binds X.K fd ps [])
  (tk:Takes X W) (ha:PA X (e :: es) (tAr (gx X cur hid) W ms)) (hn:ps.length=n:=by rfl) (hdb:(x == ("__debug__" : Str))=false:=by decide) (he:starEach (e :: es) X.env=(false,eval e X.env) :: starEach es X.env:=by rfl) (hpl:(backTo pos (starEach es X.env)).any (·.1)=false:=by rfl) :
  PE X (.Call (.Name x p) (e :: es) [] pos) (tE (gx X cur hid) W (mCall (arity n fm) ms)):=by
 subst hn
 exact PE.imp (pe_callG F hr hg hm hk hb (fun σ=>passAt tk σ) ha hdb he hpl) fun σ H Q h=>
  YZ (R:=RV (gx X cur hid) Q) (k:=fun xs _=>arity ps.length fm xs) h fun c S H1 τ vs ds r1 s1 v1 o1=>by
   obtain ⟨hl,o2⟩:=Out.chk o1
   exact ⟨hid,c,S,ds,r1.off,v1.same (Zu.off _),of_decide_eq_true hl,o2.off r1⟩
def startD (N:List Str) (ds:List D):DSt:=ds.map some++List.replicate (N.length - ds.length) none
theorem Sl.rep {F:Hp} {c:List Addr}:∀ n:Nat,Sl g F c (List.replicate n none) (List.replicate n none)
 | 0=>.nil
 | n+1=>.un (Sl.rep n)
theorem Sl.startAux {F:Hp} {c:List Addr} (n:Nat):∀ {vs:List V} {ds:List D},Vls g F c vs ds→Sl g F c (vs.map some++List.replicate n none) (ds.map some++List.replicate n none)
 | _,_,.nil=>Sl.rep n
 | _,_,.cons h t=>.hs h (Sl.startAux n t)
theorem Sl.start {F:Hp} {c:List Addr} {N:List Str} {vs:List V} {ds:List D} (h:Vls g F c vs ds):Sl g F c (L2.start N vs) (startD N ds):=by
 unfold L2.start startD
 rw [h.length]
 exact Sl.startAux _ h
def mFn (N:List Str) (mb:SM) (ds:List D):M D:=fun S=>match mb (startD N ds) S with
 | .ok (.nx _) S'=>.ok .non S'
 | .ok (.rt d) S'=>.ok d S'
 | .err C fs _ S'=>.err C fs S'
 | _=>.bad
abbrev WE0 (E:XK):WX:=fun u o _ H=>E u o H
theorem ZA {P:Program} {w:World} {K:PySem.W.Frag} {mg:Str→Option Value} {base:Heap} {x qual:Str} {params:Arguments} {body:List Stmt} {scope:Scope} {dvs:List V} {kws:List (Str × V)} {f:Addr} {fd:FuncData} {N ps:List Str} {k:Nat} {mb:SM}
  (F:FunD K x qual params body scope dvs kws f fd) (Sc:FnScope N ps scope)
  (hb:∀ (cdv:Value) (A:Around) (outer:List Env) (s:Shared) (H:Hp) (E:XK) (hid:List Addr),RoomG k (A.deeper (PyProof.Rows.envOfC qual scope s.heap.objs.size f cdv))→Takes (cxOf (L2N.CX P w) P w K mg base N qual scope f cdv A outer s H E) (WE0 E) →
   PSs (cxOf (L2N.CX P w) P w K mg base N qual scope f cdv A outer s H E) body (tS ⟨K,mg,P,w,none,hid⟩ (WE0 E) mb)):FnD P w K mg base (k+1) f fd ps (mFn N mb):=by
 refine F.okG Sc (fun vs H Q E h=>?_) (fun cdv A outer s H vs Q E hr h=>?_)
 ·obtain ⟨hid,c,S,ds,r,v,hl,_⟩:=h
  rw [v.length]; exact hl
 ·obtain ⟨hid,c,S,ds,r,v,hl,o⟩:=h
  refine ⟨_,hb cdv A outer s H E hid hr (L2N.takes_of rfl rfl rfl rfl),c,S,startD N ds,r,Sl.start v,?_⟩
  unfold mFn at o
  cases e:mb (startD N ds) S with
  | ok fl S'=>
   rw [e] at o
   cases fl with
   | nx τ=>exact fun σ' H' c' f s=>o H' c' f _ .non
   | rt d=>exact fun v H' c' f hv=>o H' c' f v hv
   | bk τ=>exact o.elim
   | ct τ=>exact o.elim
  | err C fs τ S'=>rw [e] at o; exact fun u o' σ' H' c' f s x=>o u o' H' c' f x
  | bad=>rw [e] at o; exact o
end
end ND
namespace NDS
open PySem PyProof.Rows
section
variable {K:Type} [DecidableEq K]
def Zij (got:List K) (k:K):List K:=if k ∈ got then got else got++[k]
def dedK (ks:List K):List K:=ks.foldl Zij []
def among (got:List K):K→Bool:=fun k=>got.any fun q=>decide (q=k)
end
section
variable {prog:Program} {w:World} {K:Type} [DecidableEq K] [BEq K] [LawfulBEq K] {knd:KeyKind prog w K}
abbrev Holds (knd:KeyKind prog w K) (h:Heap) (a:Addr) (ks:List K):Prop:=h.SetOf knd a (among (dedK ks)) (dedK ks).length
theorem Holds.kept {h h':Heap} {a:Addr} {ks:List K} (S:Holds knd h a ks) (same:∀ o,h.get? a=some o→h'.get? a=some o):Holds knd h' a ks:=by
 obtain ⟨o,es,ep,t,there,facts⟩:=S
 exact ⟨o,es,ep,t,same o there,facts⟩
end
section
abbrev bare (led:Bool):Obj:={ cls:=.type "set",dict:=none,data:=.set #[] 0 (.fresh 0 0 led) }
end
end NDS
namespace ND
open PySem L2
section
variable {X:Cx} {g:G}
def Qv:List D→Option (List Key)
 | []=>some []
 | d :: r=>(match Xe d,Qv r with
  | some k,some ks=>some (k :: ks)
  | _,_=>none)
def Zei (ds:List D):M D:=fun S=>match ds with
 | [x]=>(match dr S x with
  | .lst xs | .tup xs=>(match Qv xs with
   | some ks=>if ks.length+1 < scanBound then .ok (.set (NDS.dedK ks)) S else .bad
   | none=>.bad)
  | _=>.bad)
 | _=>.bad
theorem Seen.set {c:List Addr} {S:Za} {H:Hp} {v:V} {ks:List Key} (h:Seen g c S H v (.set ks)):∃ a,v = .ref a∧ks.Nodup∧H a=some (SetK g.P g.w a (fun k=>ks.any fun q=>decide (q=k)) ks.length):=by
 cases h with
 | same h=>cases h with | set h1 h2=>exact ⟨_,rfl,h1,(frz_of h2).1⟩
abbrev rLenSet (P:Program) (w:World):List V→Hp→VK→Prop:=fun xs H Q=>∃ (a:Addr) (Sf:Key→Bool) (n:Nat),xs=[.ref a]∧H a=some (SetK P w a Sf n)∧n < 2 ^ 60∧Q (.int n) H
theorem JF:CallR X (.builtin "len") (rLenSet X.prog X.w):=by
 intro pins s σ H xs us Q I r h
 obtain ⟨a,Sf,n,rfl,hq,hb,q⟩:=h
 obtain ⟨u,rfl,ru⟩:=vals1 r
 cases ru
 obtain ⟨o,es,ep,t,ho,hex,hd,_,_,_,hf,hn⟩:=setK_get I hq
 refine PySem.call_len_set ho hex hd hf (by rw [hn]; omega) ⟨.int n,H,I.tok _,⟨_,by rw [hn]⟩,q⟩
def lenSD (ds:List D):M D:=fun S=>match ds with
 | [x]=>(match dr S x with
  | .set ks=>if ks.length < 2 ^ 60 then .ok (.int ks.length) S else .bad
  | _=>ZgL ds S)
 | _=>.bad
theorem YB:CallR X (.builtin "len") (fun xs H Q=>rLenSet X.prog X.w xs H Q∨rLenD X.K xs H Q):=JF.or Zdf
theorem YA:CbD g (fun xs H Q=>rLenSet g.P g.w xs H Q∨rLenD g.K xs H Q) lenSD:=by
 intro c S H vs ds Q E r hv o
 unfold lenSD at o
 split at o
 ·split at o
  ·rename_i x ks h1
   obtain ⟨v,rfl,hv1⟩:=UP hv
   have sv:=dr_seen r hv1
   rw [h1] at sv
   obtain ⟨a,rfl,_,k1⟩:=sv.set
   split at o
   ·rename_i hl
    exact .inl ⟨a,_,_,rfl,k1,hl,Zh r o (.int _)⟩
   ·exact o.elim
  ·exact .inr (cd_len c S H vs _ Q E r hv o)
 ·exact o.elim
open TL in
theorem UA {S:List Nat} {c:Nat}:∀ {ps:List (List Nat)},c ∈ joinL S ps→c ∈ S∨∃ p ∈ ps,c ∈ p
 | [],h=>by cases h
 | [p],h=>.inr ⟨p,List.mem_singleton.mpr rfl,h⟩
 | p :: q :: r,h=>by
  rcases List.mem_append.mp (show c ∈ p++(S++joinL S (q :: r)) from h) with h | h
  ·exact .inr ⟨p,List.mem_cons_self,h⟩
  ·rcases List.mem_append.mp h with h | h
   ·exact .inl h
   ·rcases UA h with h | ⟨p',hp,h⟩
    ·exact .inl h
    ·exact .inr ⟨p',List.mem_cons_of_mem _ hp,h⟩
open TL in
theorem len_joinL {S:List Nat}:∀ ps:List (List Nat),(joinL S ps).length≤(ps.map (·.length)).sum+ps.length * S.length
 | []=>by simp [joinL]
 | [p]=>by simp [joinL]
 | p :: q :: r=>by
  have h:=len_joinL (S:=S) (q :: r)
  show (p++(S++joinL S (q :: r))).length≤_
  rw [List.length_append,List.length_append,List.map_cons,List.sum_cons,List.length_cons (a:=p),Nat.add_mul,Nat.one_mul]
  omega
open TL in
theorem sOk_join {a:Str} {ys:List Str} (ha:SOk a) (hy:∀ y ∈ ys,SOk y) (hl:(ys.map (·.length)).sum+ys.length * a.length≤16777216):SOk (Txt.join a ys):=by
 have e:(Txt.join a ys).cps.toList=joinL a.cps.toList (ys.map fun y=>y.cps.toList):=by rw [join_eq]; exact tl_join a ys
 refine ⟨?_,?_⟩
 ·unfold PyData.strOk
  rw [Array.all_eq_true']
  intro c hc
  have hc':c ∈ (Txt.join a ys).cps.toList:=by simpa using hc
  rw [e] at hc'
  rcases UA hc' with h | ⟨p,hp,h⟩
  ·exact decide_eq_true (strOk_mem ha h)
  ·obtain ⟨y,h1,h2⟩:=List.mem_map.mp hp
   subst h2
   exact decide_eq_true (strOk_mem (hy y h1) h)
 ·show (Txt.join a ys).cps.size≤sizeLine
  rw [← Array.length_toList,e]
  refine Nat.le_trans (len_joinL _) ?_
  rw [List.map_map,List.length_map]
  have:(ys.map ((fun p:List Nat=>p.length) ∘ fun y:Str=>y.cps.toList))=ys.map (·.length):=by
   apply List.map_congr_left
   intro y _
   show y.cps.toList.length=y.cps.size
   simp
  rw [this]
  have:a.cps.toList.length=a.length:=by show a.cps.toList.length=a.cps.size; simp
  rw [this,sizeLine_eq]
  exact hl
def joinD (x:D) (ds:List D):M D:=fun S=>match x,ds with
 | .str a,[y]=>(match dr S y with
  | .lst xs | .tup xs=>(match strsOf xs with
   | some ys=>if (ys.map (·.length)).sum+ys.length * a.length≤16777216 then .ok (.str (Txt.join a ys)) S else .bad
   | none=>.bad)
  | _=>.bad)
 | _,_=>.bad
theorem U5:MtD g (fun x xs H Q=>∃ a p,∃ ys:List Str,x = .str a∧xs=[.ref p]∧(SqL g.K H p (ys.map V.str)∨SqT g.K H p (ys.map V.str))∧(ys.map (·.length)).sum+ys.length * a.length≤16777216∧Q (.str (Txt.join a ys)) H) joinD:=by
 intro c S H v d vs ds Q E r hv hvs o
 unfold joinD at o
 split at o
 ·rename_i a y
  cases hv with
  | str ha=>
   obtain ⟨w,rfl,hw⟩:=UP hvs
   have sw:=dr_seen r hw
   split at o
   ·rename_i xs h1
    rw [h1] at sw
    obtain ⟨p,us,rfl,k1,l1⟩:=sw.lst'
    split at o
    ·rename_i ys hy
     split at o
     ·rename_i hl
      obtain ⟨e,hs⟩:=V3 l1 hy
      subst e
      exact ⟨a,p,ys,rfl,rfl,.inl (SqL.of k1),hl,Zh r o (.str (sOk_join ha hs hl))⟩
     ·exact o.elim
    ·exact o.elim
   ·rename_i xs h1
    rw [h1] at sw
    obtain ⟨p,us,rfl,k1,l1⟩:=sw.tup
    split at o
    ·rename_i ys hy
     split at o
     ·rename_i hl
      obtain ⟨e,hs⟩:=V3 l1 hy
      subst e
      exact ⟨a,p,ys,rfl,rfl,.inr k1,hl,Zh r o (.str (sOk_join ha hs hl))⟩
     ·exact o.elim
    ·exact o.elim
   ·exact o.elim
 ·exact o.elim
end
section
variable {X:Cx} {g:G} {W:WX}
theorem sOk_of {x:Str} (h:(PyData.strOk x && decide (x.length≤sizeLine))=true):SOk x:=by
 rw [Bool.and_eq_true] at h
 exact ⟨h.1,of_decide_eq_true h.2⟩
def KS (x:Str):Bool:=PyData.strOk x && decide (x.length≤sizeLine)
def repS (a:Str) (n:Int):Str:=⟨(List.replicate n.toNat a.cps).foldl (· ++ ·) #[]⟩
theorem Vo (a:Array Nat):∀ (n:Nat) (acc:Array Nat),(List.foldl (fun x1 x2=>x1++x2) acc (List.replicate n a)).size=acc.size+n * a.size
 | 0,acc=>by simp
 | n+1,acc=>by rw [List.replicate_succ,List.foldl_cons,Vo a n,Array.size_append,Nat.add_mul]; omega
theorem Uo (a:Array Nat) (c:Nat):∀ (n:Nat) (acc:Array Nat),c ∈ (List.foldl (fun x1 x2=>x1++x2) acc (List.replicate n a))→c ∈ acc∨c ∈ a
 | 0,acc,h=>.inl h
 | n+1,acc,h=>by
  rw [List.replicate_succ,List.foldl_cons] at h
  rcases Uo a c n _ h with h | h
  ·exact Array.mem_append.mp h
  ·exact .inr h
theorem UK {i:Str} {n:Nat}:Str.length ⟨List.foldl (fun x1 x2=>x1++x2) #[] (List.replicate n i.cps)⟩=i.length * n:=by
 show (List.foldl (fun x1 x2=>x1++x2) #[] (List.replicate n i.cps)).size=i.cps.size * n
 rw [Vo,Nat.mul_comm]; simp
theorem sOk_rep {i:Str} {k:Int} (h:SOk i) (hl:i.length * k.toNat≤sizeLine):SOk (repS i k):=by
 refine ⟨?_,by unfold repS; rw [UK]; exact hl⟩
 unfold PyData.strOk
 rw [Array.all_eq_true']
 intro c hc
 rcases Uo _ c _ _ hc with h1 | h1
 ·simp at h1
 ·exact decide_eq_true (strOk_mem h (by simpa using h1))
abbrev Zcb:R2:=fun x y H Q=>∃ i k,x = .str i∧y = .int k∧2≤k∧k≤1000∧i.length≤1000∧i.length ≠ 0∧Q (.str (repS i k)) H
theorem Zb6:OpR X (binaryOp .Mult) Zcb:=by
 intro pins s σ H x y v u Q I rx ry h
 obtain ⟨i,k,rfl,rfl,h1,h2,h3,h4,q⟩:=h
 obtain ⟨t,rfl⟩:=rx
 obtain ⟨t',rfl⟩:=ry
 have hm:i.length * k.toNat≤1000 * 1000:=Nat.mul_le_mul h3 (by omega)
 refine PySem.P.mul_str ?_ ?_ ?_ ?_
 ·have e1:¬ k < -(2 ^ 63:Int):=by omega
  have e2:¬ k ≥ 2 ^ 63:=by omega
  rw [decide_eq_false e1,decide_eq_false e2]; rfl
 ·intro _ _
  have:(2 ^ 63 - 1:Int) / k ≥ 1000:=by
   apply Int.le_ediv_of_mul_le (by omega)
   omega
  omega
 ·intro _ _
  exact decide_eq_false (by rw [sizeLine_eq]; omega)
 ·rw [if_neg (by omega),if_neg (by
   have e1:(k == 1)=false:=by rw [beq_eq_false_iff_ne]; omega
   have e2:(i.length == 0)=false:=by rw [beq_eq_false_iff_ne]; exact h4
   rw [e1,e2]; simp)]
  refine ⟨?_,?_⟩
  ·rw [UK]
   exact Nat.le_trans hm (by rw [sizeLine_eq]; decide)
  ·exact ⟨.str _,H,I.tok _,⟨_,rfl⟩,q⟩
def mulD (x y:D):M D:=match x,y with
 | .str a,.int k=>M.chk (decide (2≤k∧k≤1000∧a.length≤1000∧a.length ≠ 0)) (pure (.str (repS a k)))
 | _,_=>mulID x y
theorem UG:OpR X (binaryOp .Mult) (fun x y H Q=>Zcb x y H Q∨(rI CMul fun i j=>.int (i * j)) x y H Q):=Zb6.or op_mul
theorem UF:OpD g (fun x y H Q=>Zcb x y H Q∨(rI CMul fun i j=>.int (i * j)) x y H Q) mulD:=by
 intro c S H v w d e Q E r hv hw o
 unfold mulD at o
 split at o
 ·rename_i a k
  cases hv with
  | str ha=>
   cases hw with
   | int k=>
    obtain ⟨h,o2⟩:=Out.chk o
    obtain ⟨h1,h2,h3,h4⟩:=of_decide_eq_true h
    have hm:a.length * k.toNat≤1000 * 1000:=Nat.mul_le_mul h3 (by omega)
    exact .inl ⟨a,k,rfl,rfl,h1,h2,h3,h4,Zh r o2 (.str (sOk_rep ha (Nat.le_trans hm (by rw [sizeLine_eq]; decide))))⟩
 ·exact .inr (od_mulI c S H v w _ _ Q E r hv hw o)
def shlC (i j:Int):Bool:=okP (0≤j∧(Builtin.Int.intBits i:Int)+j≤2 ^ 27)
def shlD:D→D→M D:=intD shlC fun i j=>.int (i * 2 ^ j.toNat)
def sAsg (t:Tg) (m:EM):SM:=fun τ=>sOf (m τ) τ fun d S=>match t.bind d τ with
 | some τ'=>.ok (.nx τ') S
 | none=>.bad
theorem ds_asg {cur:Cur} {hid:List Addr} {tg e:Expr} {pos:Pos} {t:Tg} {m:EM} (he:PE X e (tE (gx X cur hid) W m)) (hg:PG X tg (t.rd X.K)) (hs:swapsWithSole [tg] e pos.line X.env=pure false:=by rfl) (hw:swappedStores [tg] e X.env=pure none:=by rfl)
  (h1:(assignEach [tg] X.env).map (·.2)=[assign tg X.env]:=by rfl):PS X (.Assign [tg] e pos) (tS (gx X cur hid) W (sAsg t m)):=PS.imp (ps_asg he hg hs hw h1) fun De σ H h=>
 tS_of (k:=fun d τ S=>match t.bind d τ with
  | some τ'=>.ok (.nx τ') S
  | none=>.bad) h fun c S H1 τ v d r1 sl v1 o1=>by
  cases q:t.bind d τ with
  | none=>rw [q] at o1; exact o1.elim
  | some τ'=>
   rw [q] at o1
   exact Tg.ok (g:=gx X cur hid) (vs:=t.slots) r1 sl v1 q (fun _ h=>h) fun σ' s' _=>o1 σ' H1 c (Fut.refl r1) s'
theorem room65 {k:Nat} {A:Around} (h:RoomG k A):A.units+65 < cLine:=by have:=h.un; omega
theorem room1 {k:Nat} {A:Around} (h:RoomG k A):A.units+1 < cLine:=by have:=h.un; omega
theorem Wc:Takes X WF:=fun u s' x=>by
 obtain ⟨_,_,_,_,_,_,_,_,_,_,_,_,_,_,_,_,w⟩:=x
 exact w.elim
theorem Xb:bootBuiltins "len" = some (.builtin "len"):=PySem.boot_len
theorem Jy:bootBuiltins "all" = some (.builtin "all"):=by decide +kernel
theorem Zaq:bootBuiltins "abs" = some (.builtin "abs"):=by decide +kernel
theorem Zda:bootBuiltins "max" = some (.builtin "max"):=by decide +kernel
theorem Zdb:bootBuiltins "min" = some (.builtin "min"):=by decide +kernel
theorem Zt:bootBuiltins "isinstance" = some (.builtin "isinstance"):=by decide +kernel
theorem Uh:bootBuiltins "int" = some (.type "int"):=by decide +kernel
theorem WG:bootBuiltins "str" = some (.type "str"):=by decide +kernel
theorem Zbl:bootBuiltins "bool" = some (.type "bool"):=by decide +kernel
theorem Jz:bootBuiltins "list" = some (.type "list"):=by decide +kernel
theorem Wm:bootBuiltins "tuple" = some (.type "tuple"):=by decide +kernel
end
end ND
namespace PySem
namespace ErrK
open PySem.HandSPX Builtin Builtin.ObjectAttr
structure Mades (B:String) (bm:List Value):Prop where
 has:bm.contains (.type B)=true
 noA:bm.contains (.type "AttributeError")=false
 noN:bm.contains (.type "NameError")=false
section
variable {M:Model} {A:Around} {E:Value→Shared→Prop} {hp:Heap} {gs:Array GenState} {dr:Drawn} {tk:Nat} {osx:OsState}
variable {nm qn:Str} {C N:Addr} {bs bm bmF:List Value} {hd:Bool} {sn:List Str} {sb:List Value} {ab:Bool} {cl:Option Bool} {dl:Option Addr} {s0 s1 s2 s3 s5:Option Value} {B mk it:String}
theorem looked_new (F:ExcBaseFacts B mk it bmF) (P:Mades B bm) {us:List Value} {Q:Unit→Shared→Prop}
  (at_:hp.get? C=some (excClassObj nm qn C N bs bm hd sn sb ab cl dl s0 s1 s2 s3 s5 mk)) (q:Q () ⟨hp,gs,dr,tk,osx⟩):wpAny M A (checkBuiltinCall mk ⟨.ref C :: us,[]⟩) Q E ⟨hp,gs,dr,tk,osx⟩:=by
 have sub:(Value.ref C :: bm).contains (.type B)=true:=by rw [List.contains_cons,P.has]; exact Bool.or_true _
 have star:=F.noStar
 simp only [checkBuiltinCall,F.newRow,F.newSplit,F.newKind]
 repeat (first
  | refine wpAny_loadPart_at at_ ?_
  | (refine wpAny_isSubtype_exc at_ ?_; rw [sub])
  | refine wpAny_staticBase_exc at_ ?_
  | refine wpAny_madeBy_exc at_ ?_
  | simp only [bne_self_eq_false,Bool.false_eq_true,if_false]
  | wp_step)
 exact q
end
section
variable {prog:Program} {w:World} {A:Around} {E:Value→Shared→Prop} {R:Result→Shared→Prop} {hp:Heap} {gs:Array GenState} {dr:Drawn} {tk:Nat} {osx:OsState}
variable {nm qn:Str} {C N:Addr} {bs bm bmF:List Value} {hd:Bool} {sn:List Str} {sb:List Value} {ab:Bool} {cl:Option Bool} {dl:Option Addr} {s0 s1 s2 s3 s5:Option Value} {B mk it:String}
theorem new_made (F:ExcBaseFacts B mk it bmF) (P:Mades B bm) {us:List Value} (at_:hp.get? C=some (excClassObj nm qn C N bs bm hd sn sb ab cl dl s0 s1 s2 s3 s5 mk))
  (q:R (.ok (.ret (.ref (hp.objs.size+1)))) ⟨(hp.push (W.kdv_tup us)).push (excO C hp.objs.size),gs,dr,tk,osx⟩) (few:us.length≤sizeLine) :
  codeAny (model prog w) A (.builtin mk ⟨.ref C :: us,[]⟩) R ⟨hp,gs,dr,tk,osx⟩:=by
 have ends:=F.ends
 have sB:(Value.ref C :: bm).contains (.type B)=true:=by rw [List.contains_cons,P.has]; exact Bool.or_true _
 have sA:(Value.ref C :: bm).contains (.type "AttributeError")=false:=by rw [List.contains_cons,P.noA]; rfl
 have sN:(Value.ref C :: bm).contains (.type "NameError")=false:=by rw [List.contains_cons,P.noN]; rfl
 refine codeAny_builtinAt F.entry ?_
 unfold Builtin.«BaseException.__new__»
 refine wpAt_bind ?_
 show wpAt _ _ _ (stack >>= _) _ _ _
 refine wpAt_bind (wpAt_stack fun p below=>wpAt_of_wpAny ?_)
 wp_walk
 refine wpAt_of_wpAny ?_
 rw [F.owner]
 repeat (first
  | with_reducible refine wpAny_madeHere_exc F.canon at_ ?_
  | with_reducible refine wpAny_loadPart_at at_ ?_
  | (with_reducible refine wpAny_isSubtype_exc at_ ?_; first | rw [sB] | rw [sA] | rw [sN])
  | wp_step)
 show R _ _
 rw [Heap.size_push]
 exact q
theorem type_made (F:ExcBaseFacts B mk it bmF) (P:Mades B bm) {us:List Value} {fi:Addr} {Q:Fin→Shared→Prop} (at_:hp.get? C=some (excClassObj nm qn C N bs bm hd sn sb ab cl dl s0 s1 s2 s3 s5 mk))
  (ini:W.Looks (model prog w) hp (typeLookup (.ref C) "__init__") (some (.ref fi))) (bnd:∀ self,W.Looks (model prog w) hp (bindSpecial (.ref fi) self) (.ref fi,[self])) (few:us.length≤sizeLine)
  (q:codeAny (model prog w) A (.call (.ref fi) ⟨.ref (hp.objs.size+1) :: us,[]⟩) (fun r s'=>match r with | .ok (.ret v)=>v = .none∧Q (.done (.ret (.ref (hp.objs.size+1)))) s' | .ok _=>False | .error e=>E e s') ⟨(hp.push (W.kdv_tup us)).push (excO C hp.objs.size),gs,dr,tk,osx⟩) :
  wpAny (model prog w) A (Builtin.«type.__call__» ⟨.ref C :: us,[]⟩) Q E ⟨hp,gs,dr,tk,osx⟩:=by
 repeat (first | with_reducible refine wpAny_loadPart_at at_ ?_ | with_reducible refine wpAny_madeBy_exc at_ ?_ | wp_step)
 refine codeAny_call_builtin_code (Code.quiet_builtin _ F.quiet) (looked_new F P at_ (new_made F P at_ ?_ few))
 show wpAny _ _ _ _ _ _
 have kept:∀ b o,hp.get? b=some o→((hp.push (W.kdv_tup us)).push (excO C hp.objs.size)).get? b=some o:=fun b o z=>Heap.get?_push_of_some _ (Heap.get?_push_of_some _ z)
 have new_:((hp.push (W.kdv_tup us)).push (excO C hp.objs.size)).get? (hp.objs.size+1)=some (excO C hp.objs.size):=by heap_get
 have own:(Value.ref C :: bm).contains (.ref C)=true:=by simp
 have at2:=kept _ _ at_
 unfold isInstance
 repeat (first
  | with_reducible refine wpAny_loadPart_at new_ ?_
  | (with_reducible refine wpAny_isSubtype_exc at2 ?_; rw [own])
  | wp_step)
 show wpAny _ _ (typeLookup (.ref C) _) _ _ _
 refine (ini.keeps kept).at ?_
 refine wpAny_holding (wpAny_bind (((bnd (.ref (hp.objs.size+1))).keeps kept).at ?_))
 refine wpAny_bind (wpAny_call (codeAny_mono q fun r s' z=>?_))
 rcases r with e | (v | _ | _ | _) <;> first | exact z | exact z.elim | skip
 obtain ⟨rfl,z⟩:=z
 first
  | exact wpAny_pure (wpAny_pure z)
  | (wp_walk; exact z)
theorem made_call (F:ExcBaseFacts B mk it bmF) (P:Mades B bm) {us:List Value} {fi:Addr} (at_:hp.get? C=some (excClassObj nm qn C N bs bm hd sn sb ab cl dl s0 s1 s2 s3 s5 mk))
  (ini:W.Looks (model prog w) hp (typeLookup (.ref C) "__init__") (some (.ref fi))) (bnd:∀ self,W.Looks (model prog w) hp (bindSpecial (.ref fi) self) (.ref fi,[self])) (few:us.length≤sizeLine)
  (q:codeAny (model prog w) (A.under (.builtin "type.__call__" ⟨.ref C :: us,[]⟩)) (.call (.ref fi) ⟨.ref (hp.objs.size+1) :: us,[]⟩) (W.InitBack (hp.objs.size+1) R) ⟨(hp.push (W.kdv_tup us)).push (excO C hp.objs.size),gs,dr,tk,osx⟩) :
  codeAny (model prog w) A (.call (.ref C) ⟨us,[]⟩) R ⟨hp,gs,dr,tk,osx⟩:=by
 have l1:=tc_lookup
 have l2:=tc_bind (.ref C)
 have ty:(⟨hp,gs,dr,tk,osx⟩:Shared).TypeIs (.ref C) "type" := ⟨_,at_,rfl⟩
 refine codeAny_of_tree ?_
 show wpAny _ _ (callAny (.ref C) _) _ _ _
 repeat (any_goals (first | assumption | with_reducible refine wpAny_loadPart_at at_ ?_ | wp_step))
 refine ⟨rfl,?_⟩
 refine codeAny_call_builtin_at (Code.quiet_builtin _ (by decide +kernel)) entry_typeCall (wpAny_check_type_call_sub at_ (type_made F P at_ ini bnd few ?_))
 refine codeAny_mono q fun r s' z=>?_
 rcases r with e | (v | _ | _ | _) <;> exact z
end
theorem key_passes (self:Value):refuseLoop self "__setattr__" keyTail=pure ():=by kernel_rfl
theorem mades_of {B:String} {bm bmB:List Value} (h:W.excTail bmB bm=true) (b:bmB.contains (.type B)=true) (a:bmB.contains (.type "AttributeError")=false) (n:bmB.contains (.type "NameError")=false):Mades B bm:=
 ⟨(W.excTail_contains B bm h).trans b,(W.excTail_contains "AttributeError" bm h).trans a,(W.excTail_contains "NameError" bm h).trans n⟩
theorem key_object:keyTail.contains (.type "object")=true:=by decide +kernel
end ErrK
namespace ErrX
open PySem.W PySem.Calls PyProof.Rows PySem.HandSPX Builtin Builtin.ObjectAttr
def iA (fl:Str) (p1 p2:Pos):Arguments:={ posonlyargs:=[],args:=[{ arg := "self",annotation:=none,pos:=p1 },{ arg:=fl,annotation:=none,pos:=p2 }],vararg:=none,kwonlyargs:=[],kw_defaults:=[],kwarg:=none,defaults:=[] }
def iB (fl:Str) (q1 q2 q3 q4:Pos):List Stmt:=[.Assign [.Attribute (.Name "self" q1) fl q2] (.Name fl q3) q4]
def iS (fl:Str):Scope:={ kind:=.function,names:=[(PySem.Str.ofString "self",.local),(fl,.local)],isGenerator:=false,isCoroutine:=false,more:=[] }
def BaseOk (newId:String) (bm:List Value):Prop:=∃ B initId bmF bmB,ExcBaseFacts B newId initId bmF∧ErrK.Mades B bm∧excTail bmB bm=true∧(∀ self,refuseLoop self "__setattr__" bmB=pure ())∧bmB.contains (.type "object")=true
theorem BaseOk.pass {newId:String} {bm:List Value} {C:Addr} (b:BaseOk newId bm) (self:Value):refuseLoop self "__setattr__" (.ref C :: bm)=pure ():=by
 obtain ⟨B,i,bmF,bmB,_,_,tl,ps,_⟩:=b
 exact excTail_pass self (ps self) (.ref C :: bm) tl
theorem BaseOk.obj {newId:String} {bm:List Value} {C:Addr} (b:BaseOk newId bm):(Value.ref C :: bm).contains (.type "object")=true:=by
 obtain ⟨B,i,bmF,bmB,_,_,tl,_,ob⟩:=b
 exact (excTail_contains "object" (.ref C :: bm) tl).trans ob
section
variable {prog:Program} {w:World} {A:Around} {R:Result→Shared→Prop} {hp:Heap} {g:Array GenState} {d:Drawn} {t:Nat} {os:OsState}
theorem ZnA {K:W.Frag} {name:Str} {tk:Tok} {v:Value} {x C:Addr} {fv:Array Value} {cd:ClassData}
  (X:K.In hp) (hx:hp.get? x=some { cls:=.ref C,data:=.fields fv }) (hcd:W.clsIn K C=some cd) (pass:∀ self,refuseLoop self "__setattr__" cd.mro=pure ()) (ob:cd.mro.contains (.type "object")=true) (ne:cd.mro.isEmpty=false) (hh:cd.hasDict=true) (ha:W.findIn K (.ref C) name=some none)
  (hq:∀ h' tk' dx,(∀ b o,b ≠ x→hp.get? b=some o→h'.get? b=some o)→hp.objs.size≤dx→dx ≠ x→h'.get? x=some { cls:=.ref C,dict:=some dx,data:=.fields fv } →
   h'.Ns1 dx (fun y=>if y=name then some v else none)→R (.ok (.ret .none)) ⟨h',g,d,tk',os⟩) :
  codeAny (model prog w) A (.call (.builtin "object.__setattr__") ⟨[.ref x,.str name tk,v],[]⟩) R ⟨hp,g,d,t,os⟩:=by
 have J:W.InstAt hp x { cls:=.ref C,data:=.fields fv } C none:=⟨hx,rfl,rfl,trivial⟩
 have S1:=F.store_object
 have away:x ≠ hp.objs.size:=Nat.ne_of_lt (Heap.lt_size hx)
 have isO:W.Looks (model prog w) hp (isInstance (.ref x) (.type "object")) true:=J.type.andThen (W.looks_mroIn X (by unfold W.mroIn; rw [hcd,Option.bind_some,if_neg (by rw [ne]; decide),ob]))
 have mr:W.Looks (model prog w) hp (mroOf (.ref C)) cd.mro:=(W.looks_clsIn X hcd).andThen .now
 have tak:W.Looks (model prog w) hp (storeTaker? none) none:=.now
 have cls:W.Looks (model prog w) hp (classData C) cd:=W.looks_clsIn X hcd
 refine codeAny_call_builtin S1.slot.plain S1.entry (@W.check_slot (model prog w) _ _ ⟨hp,g,d,t,os⟩ "object.__setattr__" "object" "__setattr__" (.ref x) [.str name tk,v] [] _ S1.kind S1.split isO (S1.args (.ref x) (.str name tk) v) ?_)
 rw [W.osa_eq,refuse_eq]
 refine wpAny_bind (wpAny_bind (J.type.at (wpAny_bind (mr.at ?_)))); rw [pass]; refine wpAny_pure (wpAny_bind (J.type.at (wpAny_bind ((W.looks_findIn X ha).at (wpAny_bind (tak.at ?_))))))
 show wpAny _ _ (storeInOwnDict (.ref x) (.ref C) (.str name tk) name v false) _ _ _
 obtain ⟨nm,bs,mro,ns,qn,hd,sn,sb,ab,col,del⟩:=cd
 dsimp only at hh; subst hh; unfold storeInOwnDict ownDictForStores
 repeat (first | with_reducible refine HandSPX.store_in_new ?_ ?_ | with_reducible refine wpAny_loadPart_at hx ?_ | with_reducible refine cls.at ?_ | wp_step)
 ·exact ⟨_,#[],_,(Heap.get?_update_ne _ _ _ _ away.symm).trans (Heap.get?_push_at rfl rfl),rfl,fun e he=>absurd he (by simp),fun _=>rfl⟩
 ·intro h' tk' hn' hs
  have hx₁:(hp.push { cls:=.type "dict",data:=.dict #[] }).get? x=some { cls:=.ref C,data:=.fields fv }:=Heap.get?_push_of_some _ hx
  exact hq h' tk' hp.objs.size (fun b o hb ho=>(hs.2 b (Nat.ne_of_lt (Heap.lt_size ho))).trans ((Heap.get?_update_ne _ _ _ _ hb).trans (Heap.get?_push_of_some _ ho))) (Nat.le_refl _) away.symm ((hs.2 x away).trans (Heap.get?_update_self _ hx₁ rfl)) hn'
end
structure ErrTxt (K:Frag) (mg:Str→Option Value) (nm qn fl:Str) (C fI:Addr):Prop where
 gC:mg nm=some (.ref C)
 cls:∃ nm q N bs bm sn sub ab col dd k0 k1 k2 k3 k5 newId,K.lookup C=some (excClassObj nm q C N bs bm true sn sub ab col dd k0 k1 k2 k3 k5 newId)∧BaseOk newId bm
 sa:findIn K (.ref C) "__setattr__" = some (some (.builtin "object.__setattr__"))
 ga:findIn K (.ref C) "__getattribute__" = some (some (.builtin "BaseException.__getattribute__"))
 gg:findIn K (.ref C) "__getattr__" = some none
 noN:findIn K (.ref C) fl=some none
 nsf:(fl == ("self" : Str))=false
 ndb:(fl == ("__debug__" : Str))=false
 ca:findIn K (.ref C) "__class__" = some (some (.builtin "object.__class__"))
 cn:specialIn K (.builtin "object.__class__") "__get__" = some (some (.builtin "getset_descriptor.__get__"))
 ct:takesIn K (.builtin "object.__class__")=some true
 cm:mroIn K C (.type "object")=some true
 bd:∀ (kV doc pm:Value) (an:Option Addr) (cdv ct:Value) (p1 p2 q1 q2 q3 q4:Pos) (x v:Value),bindArgs (fnOf "__init__" qn (iA fl p1 p2) (iB fl q1 q2 q3 q4) (iS fl) .none kV doc pm an cdv ct) ⟨[x,v],[]⟩=pure [(("self" : Str),x),(fl,v)]
 iC:findIn K (.ref C) "__init__" = some (some (.ref fI))
 tC:typeIn K (.ref fI)=some (.type "function")
 kC:keepIn K (.ref C)=true
 exC:subIn K (.ref C) (.type "BaseException")=some true
 tyC:typeIn K (.ref C)=some (.type "type")
 hdC:hasDictIn K C=true
 te:exmOne K (.ref C) (.ref C)=some true
 fn:∃ (oc:Value) (od:Option Addr) (kV doc pm:Value) (an:Option Addr) (cdv ct:Value) (osl:Array (Option Value)) (p1 p2 q1 q2 q3 q4:Pos),
  K.lookup fI=some ⟨oc,od,.func (fnOf "__init__" qn (iA fl p1 p2) (iB fl q1 q2 q3 q4) (iS fl) .none kV doc pm an cdv ct),osl⟩∧codeIn K cdv qn=true
theorem one_size (v:Value):[v].length≤sizeLine:=by
 rw [sizeLine_eq]
 exact (by decide:1≤16777216)
theorem ldC {M:Model} {s:Shared} {name:Str} {scope:Scope} {L a:Addr} {cd:Value} {m:Str→Option Value} {x:Str} {pos:Pos} {v:Value} {Q:Value→Shared→Prop} {A:Around} {E:Value→Shared→Prop} (hn:s.heap.Ns L m) (hv:m x=some v) (h:Q v s)
 (hk:scope.kind = .function:=by rfl) (hl:(envOfC name scope L a cd).kindOf x=some .local:=by rfl) (hd:(x == ("__debug__" : Str))=false:=by decide) :
 wpAny M A (eval (.Name x pos) (envOfC name scope L a cd)) Q E s:=wpAny_Name (wpAny_loadName_local hk hl hn hv h) hd
structure InitEnd (h h':Heap) (fl:Str) (x C dx t1:Addr) (v:Value):Prop where
 keep:∀ b o,b ≠ x→h.get? b=some o→h'.get? b=some o
 obj:h'.get? x=some { cls:=.ref C,dict:=some dx,data:=.fields #[.ref t1,.none,.none,.none,.bool false,.none] }
 dbig:h.objs.size≤dx
 dne:dx ≠ x
 ns:h'.Ns1 dx (fun y=>if y=fl then some v else none)
structure OwnMade (h h':Heap) (fl:Str) (e C d:Addr) (v:Value):Prop where
 keep:∀ b o,h.get? b=some o→h'.get? b=some o
 new:h.objs.size≤e
 obj:∃ oe vs,h'.get? e=some oe∧oe.cls = .ref C∧oe.dict=some d∧oe.data = .fields vs∧vs[1]? = some .none∧vs[2]? = some .none
 dbig:h.objs.size≤d
 dne:d ≠ e
 ns:h'.Ns1 d (fun y=>if y=fl then some v else none)
section
variable {prog:Program} {w:World} {A:Around} {R:Result→Shared→Prop} {s:Shared} {K:Frag} {mg:Str→Option Value} {C fI:Addr} {nm qn fl:Str}
theorem Gk (T:ErrTxt K mg nm qn fl C fI) {x t0:Addr} {v:Value} (X:K.In s.heap) (hlim:s.heap.NoLimit) (hx:s.heap.get? x=some (excO C t0)) (hnx:K.lookup x=none) (hroom:A.depth < recursionLimit)
  (hq:∀ h' tk dx,InitEnd s.heap h' fl x C dx t0 v→R (.ok (.ret .none)) { s with heap:=h',toks:=tk }) :
  codeAny (model prog w) A (.call (.ref fI) ⟨[.ref x,v],[]⟩) R s:=by
 obtain ⟨oc,od,kV,doc,pm,an,cdv,ct,osl,p1,p2,q1,q2,q3,q4,ho,hcd⟩:=T.fn
 obtain ⟨cnm,q,N,bs,bm,sn,sub,ab,col,dd,k0,k1,k2,k3,k5,newId,hC,hbm⟩:=T.cls
 have hcl:clsIn K C=some { name:=cnm,bases:=bs,mro:=.ref C :: bm,ns:=N,qualname:=q,hasDict:=true,slotNames:=sn,subclasses:=sub,abstract:=ab,collection:=col,hasDel:=false }:=by unfold clsIn; rw [hC] <;> rfl
 have ns:¬ fl=("self" : Str):=fun z=>by
  have q:=T.nsf
  rw [z] at q
  exact absurd q (by decide)
 have k1':(iS fl).names.lookup fl=some .local:=by
  show List.lookup fl [(PySem.Str.ofString "self",NameKind.local),(fl,.local)]=_
  rw [List.lookup,T.nsf,List.lookup,beq_self_eq_true]
 have k0':(iS fl).names.lookup (PySem.Str.ofString "self")=some .local:=by
  show List.lookup (PySem.Str.ofString "self") [(PySem.Str.ofString "self",NameKind.local),(fl,.local)]=_
  rw [List.lookup,beq_self_eq_true]
 refine Att.call_fn (binds:=[("self",.ref x),(fl,v)]) X hlim ho hcd hroom (BindsTo.of_eq (T.bd _ _ _ _ _ _ _ _ _ _ _ _ _ _)) (by
  show (((iS fl).names.lookup (PySem.Str.ofString "self") == some NameKind.local || _) && ((((iS fl).names.lookup fl == some NameKind.local || _) && true)))=true
  rw [k0',k1']; rfl) (fun s₁ IC=>?_) rfl rfl rfl
 obtain ⟨h₁,tk₁,rfl⟩:=IC.toInCall.same
 have k:∀ b o,s.heap.get? b=some o→h₁.get? b=some o:=IC.toInCall.keep
 have hn:=IC.toInCall.ns
 have hxL:s.heap.objs.size ≠ x:=Nat.ne_of_gt (Heap.lt_size hx)
 have X₁:K.In h₁:=X.keeps k
 have hx₁:=k _ _ hx
 show wpAny _ _ (execs _ _) _ _ _
 refine wpAny_execs_cons (plainObj_wpAny_Assign_Attribute ?_)
 have e1:(bindL (envOfC qn (iS fl) s.heap.objs.size fI cdv).kindOf [(Str.ofString "self",Value.ref x),(fl,v)] fun _=>none)=fun y=>if y=fl then some v else if y=PySem.Str.ofString "self" then some (.ref x) else none:=by
  show (if (iS fl).names.lookup fl=some .local then fun y=>if y=fl then some v else (if (iS fl).names.lookup (PySem.Str.ofString "self")=some .local then fun y=>if y=PySem.Str.ofString "self" then some (Value.ref x) else none else fun _=>none) y else _)=_
  rw [if_pos k1',if_pos k0']
 rw [e1] at hn
 refine ldC (v:=v) hn (if_pos rfl) (ldC (v:=.ref x) hn ?_ ?_ rfl k0' (by decide)) rfl k1' T.ndb
 ·rw [if_neg (fun z=>ns z.symm),if_pos rfl]
 refine set_plain X₁ (ox:=excO C t0) (od:=none) ⟨hx₁,rfl,rfl,trivial⟩ T.sa ?_
 refine ZnA X₁ hx₁ hcl (fun self=>hbm.pass self) hbm.obj rfl rfl T.noN (fun h₃ tk₃ dx k₃ dn dne hx₃ hn₃=>?_)
 show wpAny _ _ (execs _ _) _ _ _
 have z:s.heap.objs.size < h₁.objs.size:=hn.lt
 exact wpAny_execs_nil (hq h₃ tk₃ dx ⟨fun b o hb e=>k₃ b o hb (k b o e),hx₃,Nat.le_of_lt (Nat.lt_of_lt_of_le z dn),dne,hn₃⟩)
theorem err_made (T:ErrTxt K mg nm qn fl C fI) {v:Value} (X:K.In s.heap) (hlim:s.heap.NoLimit) (hroom:A.depth+1 < recursionLimit)
  (hq:∀ h' tk e d,OwnMade s.heap h' fl e C d v→R (.ok (.ret (.ref e))) { s with heap:=h',toks:=tk }) :
  codeAny (model prog w) A (.call (.ref C) ⟨[v],[]⟩) R s:=by
 obtain ⟨cnm,q,N,bs,bm,sn,sub,ab,col,dd,k0,k1,k2,k3,k5,newId,hC,hbm⟩:=T.cls
 obtain ⟨hp,g,dr,tk,os⟩:=s
 have k:∀ b o,hp.get? b=some o→((hp.push (kdv_tup [v])).push (excO C hp.objs.size)).get? b=some o:=fun b o e=>Heap.get?_push_of_some _ (Heap.get?_push_of_some _ e)
 have hget:((hp.push (kdv_tup [v])).push (excO C hp.objs.size)).get? (hp.objs.size+1)=some (excO C hp.objs.size):=by heap_get
 have hnx:K.lookup (hp.objs.size+1)=none:=by
  cases e:K.lookup (hp.objs.size+1) with
  | none=>rfl
  | some o=>
   have z:hp.get? (hp.objs.size+1)=some o:=X _ _ e
   exact absurd (Nat.lt_of_succ_lt (Heap.lt_size z)) (Nat.lt_irrefl _)
 obtain ⟨B,initId,bmF,bmB,bf,md,tl,_,_⟩:=hbm
 refine ErrK.made_call bf md (X _ _ hC) (looks_findIn X T.iC) (fun self=>bind_fn X self T.tC) (one_size v) ?_
 refine Gk (s:=⟨(hp.push (kdv_tup [v])).push (excO C hp.objs.size),g,dr,tk,os⟩) T (X.keeps k) (hlim.keeps k) hget hnx ?_ fun h' tk' dx ⟨k',hx,dn,dne,hns⟩=>?_
 ·show A.depth+1 < recursionLimit
  exact hroom
 ·have old:∀ b o,hp.get? b=some o→h'.get? b=some o:=fun b o e=>k' b o (Nat.ne_of_lt (Nat.lt_succ_of_lt (Heap.lt_size e))) (k b o e)
  have z:hp.objs.size+1+1≤dx:=by
   first
    | (simpa only [Heap.size_push] using dn)
    | exact dn
    | (have q:=dn; rw [Heap.size_push,Heap.size_push] at q; exact q)
  exact ⟨rfl,hq h' tk' (hp.objs.size+1) dx ⟨old,Nat.le_succ _,⟨_,_,hx,rfl,rfl,rfl,rfl,rfl⟩,Nat.le_trans (Nat.le_trans (Nat.le_succ _) (Nat.le_succ _)) z,dne,hns⟩⟩
end
end ErrX
end PySem
namespace L2
open PySem
section
variable {X:Cx} {k:Nat} {f C:Addr} {fd:FuncData} {params:List Str} {sp:Sp} {E:St→XK}
def KZ (C:Addr) (sp:Sp) (vs:List V) (G:Hp) (Q:VK) (E:XK):Prop:=∀ x dx,G x=none→G dx=none→dx ≠ x →
 sp (.ref x :: vs) (upd (upd G dx (.own x)) x (.ins C dx [])) (fun v G2=>v = .non∧Q (.ref x) G2) E
theorem ZbU {CX:CXT} {ps:List (Addr × Obj)} {st:St} {G:Hp} {sh:Shared} {Q:VK} {us bs:List Value} {vs:List V} {kv:List (Str × Value)} (M:Mk X.K C f) (F:FnG X.prog X.w X.K X.mg X.base CX k f fd params sp) (room:RoomG (k+1) X.A)
  (pass:PassesAt CX X st (E st)) (inv:Inv X ps st G sh) (rel:Vals vs bs) (binds:∀ (s':Shared) (self:Value),X.K.In s'.heap→BindsTo s' fd ⟨self :: us,kv⟩ (params.zip (self :: bs))) (want:KZ C sp vs G Q (E st)) :
  wpAny (model X.prog X.w) X.A (call (.ref C) us kv) (EP X ps st Q) X.xe sh:=by
 let self:=sh.heap.objs.size+1
 have promise:=want self sh.heap.objs.size (inv.hok.fresh (Nat.le_succ _)) (inv.hok.fresh (Nat.le_refl _)) (Nat.ne_of_lt (Nat.lt_succ_self _))
 have made:=Inv.made (C:=C) inv
 have body:=F.run _ X.stack _ _ ⟨.ref self :: us,kv⟩ (.ref self :: bs) (.ref self :: vs) _ (E st) (room.make C us kv) (made.env0.make C us kv) (binds _ _ made.kIn) (.cons (show RelV (V.ref self) (Value.ref self) from rfl) rel) promise
 refine wpAny_call (make_map (f:=f) inv.kIn M.makes M.init (beq_iff_eq.mp M.fn) (codeAny_mono body fun res s' ends=>?_))
 match res,ends with
 | .error e,out=>exact pass ps _ _ e s' made out
 | .ok (.ret u),out=>
  obtain ⟨v,G',inv',isV,rfl,q⟩:=made.after out
  exact ⟨isV,⟨.ref self,G',inv',rfl,q⟩⟩
def tMakeX (C:Addr) (sp:Sp) (E:St→XK) (args:TA):TE:=fun st G Q=>args st G fun vs G1=>KZ C sp vs G1 Q (E st)
theorem KZ.len {CX:CXT} {ps:List (Addr × Obj)} {st:St} {G:Hp} {sh:Shared} {Q:VK} {vs:List V} {Ex:XK} (want:KZ C sp vs G Q Ex) (F:FnG X.prog X.w X.K X.mg X.base CX k f fd params sp) (inv:Inv X ps st G sh):vs.length+1=params.length:=
 F.len _ _ _ _ (want (sh.heap.objs.size+1) sh.heap.objs.size (inv.hok.fresh (Nat.le_succ _)) (inv.hok.fresh (Nat.le_refl _)) (Nat.ne_of_lt (Nat.lt_succ_self _)))
theorem pe_makeX {CX:CXT} {x:Str} {p pos:Pos} {e:Expr} {es:List Expr} {args:TA} (M:Mk X.K C f) (F:FnG X.prog X.w X.K X.mg X.base CX k f fd params sp) (room:RoomG (k+1) X.A) (glob:Gl X x) (isC:X.mg x=some (.ref C)) (bd:Binds X.K fd params [])
  (pass:∀ st,PassesAt CX X st (E st)) (items:PA X (e :: es) args) (ndbg:(x == ("__debug__" : Str))=false) (plain:starEach (e :: es) X.env=(false,eval e X.env) :: starEach es X.env) (nostar:(backTo pos (starEach es X.env)).any (·.1)=false) :
  PE X (.Call (.Name x p) (e :: es) [] pos) (tMakeX C sp E args) where
 run:=fun ps sh st G Q inv want=>wpAny_Call_Name_kw (ld_glob inv glob isC (PySem.W.callWith_K (h₀:=X.base) inv.ok.mod.kin M.kp (thn (items.run pos ps sh st G _ inv want) fun us s1 ⟨vs,G1,inv1,rel,mw⟩=>
  ⟨inv1.kIn,ZbU (bs:=us) M F room (pass st) inv1 rel (fun s' self inK=>by
   have all:(self :: us++[]).length=params.length:=by rw [List.append_nil,List.length_cons,← rel.length]; exact mw.len F inv1
   have b:=bd s' (self :: us) inK all
   rwa [List.append_nil] at b) mw⟩) plain nostar) ndbg)
end
end L2
namespace L2
open PySem PySem.Spec PyProof.Rows
theorem Zae {fl:Str} {v:V} {v':Value} (r:RelV v v') (f:Str):RelO (List.lookup f [(fl,v)]) (if f=fl then some v' else none):=by
 by_cases hw:f=fl
 ·subst hw
  rw [if_pos rfl]
  have q:List.lookup f [(f,v)]=some v:=by simp [List.lookup]
  rw [q]
  exact r
 ·rw [if_neg hw]
  have qw:(f == fl)=false:=by simpa using hw
  have q2:List.lookup f [(fl,v)]=none:=by simp [List.lookup,qw]
  rw [q2]
  trivial
section
variable {X:Cx} {C fI:Addr} {nm qn fl:Str}
def tMkErr (C:Addr) (fl:Str) (ta:TA):St→Hp→XK→Prop:=fun σ H Q=>ta σ H fun vs H1=>∃ v,vs=[v]∧∀ d,H1 d=none→Q (.ref C) (some d) (upd H1 d (.xd [(fl,v)]))
theorem pmk_err {a:Expr} {ta:TA} {p pos:Pos} {k:Nat} (T:PySem.ErrX.ErrTxt X.K X.mg nm qn fl C fI) (hr:Room k X.A) (ha:PA X [a] ta) (hg:Gl X nm) (hnd:(nm == ("__debug__" : Str))=false)
  (he:starEach (a :: []) X.env=(false,eval a X.env) :: starEach [] X.env:=by rfl) (hpl:(backTo pos (starEach [] X.env)).any (·.1)=false:=by rfl) :
  L2N.PMk X (.Call (.Name nm p) [a] [] pos) (tMkErr C fl ta):=by
 intro pins s σ H Q I h
 refine wpAny_Call_Name_kw (ld_glob I hg T.gC ?_ hnd)
 refine PySem.W.callWith_K (h₀:=X.base) I.ok.mod.kin T.kC (thn (ha.run pos pins s σ H _ I h) fun us s1 hh=>?_) he hpl
 obtain ⟨vs,H1,I1,r1,v,ev,q1⟩:=hh
 subst ev
 refine ⟨I1.kIn,?_⟩
 cases r1 with
 | cons rv rn=>
  rename_i v' us'
  cases rn
  show wpAny _ _ (call (.ref C) [v']) _ _ _
  have hlim:=I1.nolimit
  obtain ⟨hp,g,dr,tk,os⟩:=s1
  refine wpAny_call (PySem.ErrX.err_made T I1.kIn hlim (by have:=hr.dp; omega) fun h' tk' e d M=>?_)
  show L2N.MkP X pins σ Q (.ref e) ⟨h',g,dr,tk',os⟩
  obtain ⟨oe,fv,hoe,hc,hd,hdat,h1,h2⟩:=M.obj
  have hns:=M.ns
  obtain ⟨G',g1,g2⟩:=restrict h' fun b=>decide (b ≠ e)
  have gk:∀ b,b ≠ e→G'.get? b=h'.get? b:=fun b hb=>g1 b (decide_eq_true hb)
  have ge:G'.get? e=none:=g2 e (by simp)
  have old:∀ b o,hp.get? b=some o→G'.get? b=some o:=fun b o q=>(gk b (Nat.ne_of_lt (Nat.lt_of_lt_of_le (Heap.lt_size q) M.new))).trans (M.keep b o q)
  have ob:ObjOk X.prog X.w (upd H1 d (.xd [(fl,v)])) G' d (.xd [(fl,v)]):=
   ⟨_,hns.at (fun o q=>(gk d M.dne).trans q),fun f=>Zae rv f⟩
  have J:Inv X pins σ (upd H1 d (.xd [(fl,v)])) ⟨G',g,dr,tk',os⟩:=I1.laid (t':=tk') old M.dbig ob
  refine ⟨e,oe,fv,⟨G',g,dr,tk',os⟩,_,.ref C,some d,rfl,J,fun b o q=>?_,ge,hoe,⟨hc,hd,fun vs e=>by rw [hdat] at e; cases e; exact h2⟩,hdat,h1,?_,rfl,I1.bare,raises_own T.exC T.tyC,q1 d (I1.hok.fresh M.dbig)⟩
  ·by_cases hb:b=e
   ·have q':G'.get? b=some o:=q
    rw [hb,ge] at q'; cases q'
   ·exact (gk b hb).symm.trans q
  ·rw [upd_ne (Ne.symm M.dne)]
   exact I1.hok.fresh M.new
def tRaiseErr (C:Addr) (fl:Str) (W:WX) (ta:TA):TS:=fun _ σ H=>tMkErr C fl ta σ H fun cls d H'=>W cls d σ H'
theorem ps_raiseErr {a:Expr} {ta:TA} {W:WX} {p pos pos2:Pos} {k:Nat} (hc:X.calm=true) (T:PySem.ErrX.ErrTxt X.K X.mg nm qn fl C fI) (hr:Room k X.A) (tk:L2N.Takes X W) (ha:PA X [a] ta) (hg:Gl X nm) (hnd:(nm == ("__debug__" : Str))=false)
 (he:starEach (a :: []) X.env=(false,eval a X.env) :: starEach [] X.env:=by rfl) (hpl:(backTo pos (starEach [] X.env)).any (·.1)=false:=by rfl) :
 PS X (.Raise (some (.Call (.Name nm p) [a] [] pos)) none pos2) (tRaiseErr C fl W ta):=L2N.ps_raise hc tk (pmk_err T hr ha hg hnd he hpl)
end
end L2
namespace L2
open PySem
end L2
namespace ND
open PySem L2
section
variable {X:Cx} {W:WX} {a b:Expr} {m mb:EM} {ms:AM} {pos p:Pos} {cur:Cur} {hid:List Addr} {s1:SM}
def sRaise (nm fl:Str) (m:EM):SM:=fun τ=>sOf (m τ) τ fun d S=>.err nm [(fl,d)] τ S
theorem ds_raise {nm qn fl:Str} {C fI:Addr} {k:Nat} {p2:Pos} (hc:X.calm=true) (T:PySem.ErrX.ErrTxt X.K X.mg nm qn fl C fI) (hr:RoomG k X.A) (tk:Takes X W) (ha:PE X a (tE (gx X cur hid) W m)) (hg:Gl X nm)
  (hnd:(nm == ("__debug__" : Str))=false:=by decide) (he:starEach (a :: []) X.env=(false,eval a X.env) :: starEach [] X.env:=by rfl) (hpl:(backTo pos (starEach [] X.env)).any (·.1)=false:=by rfl) :
  PS X (.Raise (some (.Call (.Name nm p) [a] [] pos)) none p2) (tS (gx X cur hid) W (sRaise nm fl m)):=
 PS.imp (ps_raiseErr hc T hr.toRoom tk (pa_cons ha pa_nil he) hg hnd he hpl) fun De σ H h=>
  tS_of (k:=fun d τ S=>.err nm [(fl,d)] τ S) h fun c S H1 τ v d r1 s1 v1 o1=>
   ⟨v,rfl,fun dd hd=>o1 (.ref C) (some dd) σ _ c (Fut.new r1 hd) (s1.mono (Fut.new r1 hd).ex (Pre.refl c)) ⟨C,T.gC,rfl,.inr ⟨dd,_,rfl,Fut.frz_new r1 hd,.cons ((Fut.new r1 hd).val v1) .nil⟩⟩⟩
def clr (i:Nat):SRes→SRes
 | .ok (.nx τ) S=>.ok (.nx (τ.set i none)) S
 | .ok (.bk τ) S=>.ok (.bk (τ.set i none)) S
 | .ok (.ct τ) S=>.ok (.ct (τ.set i none)) S
 | .ok (.rt d) S=>.ok (.rt d) S
 | _=>.bad
def sTry (mb:SM) (hit:Str→Option Bool) (i:Nat) (ms:Str→List (Str × D)→Nat→SM):SM:=fun τ S=>match mb τ S with
 | .err C fs τ' S'=>(match hit C with
  | some true=>clr i (ms C fs S'.length (τ'.set i (some (.cel S'.length))) (S'++[.dead]))
  | some false=>.err C fs τ' S'
  | none=>.bad)
 | r=>r
def ZhR (nm C:Str) (fs:List (Str × D)) (k:Nat) (fl:Str) (x:D):M D:=fun S=>match x,fs with
 | .cel j,[(f,d)]=>if j=k∧f=fl∧C=nm then .ok d S else .bad
 | _,_=>.bad
def mExf (nm C:Str) (fs:List (Str × D)) (k:Nat) (fl:Str) (m:EM):EM:=fun τ=>m τ >>= ZhR nm C fs k fl
def ZhS (nm C:Str) (fs:List (Str × D)) (k:Nat) (b:Bool) (x:D):M D:=fun S=>match x,fs with
 | .cel j,[(f,d)]=>if j=k∧C=nm then .ok (.bl b) S else .bad
 | _,_=>.bad
def mExi (nm C:Str) (fs:List (Str × D)) (k:Nat) (b:Bool) (m:EM):EM:=fun τ=>m τ >>= ZhS nm C fs k b
end
end ND
namespace RevT
open PySem PyProof.Rows HT
section
variable {prog:Program} {w:World} {A:Around} {E:Value→Shared→Prop} {sh:Shared} {t sl:Addr} {items:Array Value} {vl vu vk:Value} {lo hi:Option Int} {c:Int}
theorem Zd0 (n:Nat):Builtin.Slice.slicePlaces ((n:Int) - 1) (-1) (-1)=n:=by
 unfold Builtin.Slice.slicePlaces
 rw [if_neg (by decide)]
 split
 ·rw [Int.neg_neg,Int.ediv_one]; omega
 ·omega
theorem ZgS (xs:Array Value):(List.range xs.size).filterMap (fun m:Nat=>xs[((xs.size:Int) - 1+(m:Int) * -1).toNat]?)=xs.toList.reverse:=by
 have step:∀ l:List Nat,(∀ m ∈ l,m < xs.size)→l.filterMap (fun m:Nat=>xs[((xs.size:Int) - 1+(m:Int) * -1).toNat]?)=(l.map fun m=>xs.size - 1 - m).filterMap (xs[·]?):=by
  intro l
  induction l with
  | nil=>intro _; rfl
  | cons m l ih=>
   intro lt
   have one:((xs.size:Int) - 1+(m:Int) * -1).toNat=xs.size - 1 - m:=by have:=lt m List.mem_cons_self; omega
   simp only [List.map_cons,List.filterMap_cons,one,ih fun k hk=>lt k (List.mem_cons_of_mem _ hk)]
 rw [step _ fun m hm=>List.mem_range.mp hm,PySem.W.krv_range,List.filterMap_reverse,PySem.W.krv_all]
theorem applied {n:Nat} {Q:Int × Int × Nat→Shared→Prop} (is:sh.heap.IsSliceOf sl vl vu vk) (pl:IsPart vl lo) (pu:IsPart vu hi) (pk:IsPart vk (some c)) (nz:c ≠ 0)
  (want:Q ((Builtin.Slice.sliceAdjust lo hi c n).1,c,Builtin.Slice.slicePlaces (Builtin.Slice.sliceAdjust lo hi c n).1 (Builtin.Slice.sliceAdjust lo hi c n).2 c) sh) :
  wpAny (model prog w) A (Builtin.Slice.sliceApplied (.ref sl) (pure (n:Int))) Q E sh:=by
 obtain ⟨o,there,_,three⟩:=is
 refine wpAny_bind (wpAny_bind (wpAny_field there three rfl (wpAny_bind (wpAny_field there three rfl (wpAny_bind (wpAny_field there three rfl (wpAny_pure (wpAny_bind (slicePart_ pk ?_)))))))))
 refine wpAny_ite (if_neg (fun z=>nz (eq_of_beq z)) ▸ ?_)
 exact wpAny_bind (slicePart_ pl (wpAny_bind (slicePart_ pu (wpAny_bind (wpAny_pure (wpAny_pure want))))))
theorem Zcp {Q:Value→Shared→Prop} (is:IsTup sh.heap t items) (cut:sh.heap.IsSliceOf sl vl vu vk) (pl:IsPart vl lo) (pu:IsPart vu hi) (pk:IsPart vk (some c)) (nz:c ≠ 0) (no:c ≠ 1) {got:List Value}
  (e:(List.range (Builtin.Slice.slicePlaces (Builtin.Slice.sliceAdjust lo hi c items.size).1 (Builtin.Slice.sliceAdjust lo hi c items.size).2 c)).filterMap (fun m:Nat=>items[((Builtin.Slice.sliceAdjust lo hi c items.size).1+(m:Int) * c).toNat]?)=got) (few:got.length≤sizeLine)
  (want:Q (.ref sh.heap.objs.size) { sh with heap:=sh.heap.push { cls:=.type "tuple",data:=.seq got.toArray } }):wpAny (model prog w) A (getItem (.ref t) (.ref sl)) Q E sh:=by
 have kind:sh.TypeIs (.ref sl) "slice" := let ⟨o,there,isS,_⟩:=cut; ⟨o,there,isS⟩
 have fits:sizeOk (.seq got.toArray):=show got.toArray.size≤sizeLine by rw [List.size_toArray]; exact few
 have other:¬ (((Builtin.Slice.sliceAdjust lo hi c items.size).1 == 0 && c == 1 && Builtin.Slice.slicePlaces (Builtin.Slice.sliceAdjust lo hi c items.size).1 (Builtin.Slice.sliceAdjust lo hi c items.size).2 c == items.size)=true):=fun z=>by
  rw [Bool.and_eq_true,Bool.and_eq_true] at z
  exact no (eq_of_beq z.1.2)
 refine wpAny_holding (wpAny_bind (wpAny_sequenceKey is.typeIs (by decide) (wpAny_bind (wpAny_callSpecial?_slot (name:=Str.ofString "__getitem__") is.typeIs slot_tuple_getitem (wpAny_call_entry slot_tuple_getitem is.typeIs entry_tuple_getitem ?_ (args_tuple_getitem _ _))))))
 show wpAny _ _ (Builtin.Tuple.tupleItemsOf (.ref t) >>= _) _ _ sh; refine wpAny_bind (tupleItemsOf_ is (wpAny_bind (wpAny_typeOf kind ?_)))
 rw [if_pos (show (Value.type "slice" == Value.type "slice")=true by decide)]; refine wpAny_bind (applied cut pl pu pk nz ?_)
 refine wpAny_ite (if_neg other ▸ ?_)
 subst e
 exact wpAny_bind (m:=Builtin.Tuple.tupleExact _) (wpAny_newObj_type (wpAny_pure ⟨_,rfl,wpAny_pure want⟩) fits)
theorem turned {Q:Value→Shared→Prop} (is:IsTup sh.heap t items) (cut:sh.heap.IsSliceOf sl vl vu vk) (pl:IsPart vl none) (pu:IsPart vu none) (pk:IsPart vk (some (-1))) (few:items.size≤sizeLine)
  (want:Q (.ref sh.heap.objs.size) { sh with heap:=sh.heap.push { cls:=.type "tuple",data:=.seq items.toList.reverse.toArray } }):wpAny (model prog w) A (getItem (.ref t) (.ref sl)) Q E sh:=by
 refine Zcp is cut pl pu pk (by decide) (by decide) (got:=items.toList.reverse) ?_ (by rw [List.length_reverse,Array.length_toList]; exact few) want
 have e:Builtin.Slice.sliceAdjust none none (-1) items.size=((items.size:Int) - 1,-1):=rfl
 rw [e,Zd0]
 exact ZgS items
end
end RevT
namespace L2
open PySem PyProof.Rows
end L2
namespace L2
open PySem
section
variable {X:Cx} {CX:CXT} {k:Nat} {f:Addr} {fd:FuncData} {params:List Str} {sp:Sp} {E:St→XK} {m:Str} {pos apos:Pos} {o:Expr} {obj:TE} {args:TA}
def tMethX (Ok:Addr→Prop) (m:Str) (sp:Sp) (E:St→XK) (obj:TE) (args:TA):TE:=fun st G Q=>obj st G fun x G1=>∃ a C dx fs,x = .ref a∧G1 a=some (.ins C dx fs)∧Ok C∧fs.lookup m=none ∧
 args st G1 fun vs G2=>sp (x :: vs) G2 Q (E st)
abbrev Wk (X:Cx) (o:Expr) (m:Str) (apos:Pos) (es:List Expr) (pos:Pos) (pl:Sem Bool):Prop:=eval (.Call (.Attribute o m apos) es [] pos) X.env =
 (eval o X.env >>= fun ov=>standAt apos.atName >>= fun _=>holding [ov] (getMethod ov m pl) >>= fun fm=>callWith pos fm.1 fm.2 (backTo pos (starEach es X.env)) (backToKw pos (keywordEach [] X.env)))
theorem pe_methX {Ok:Addr→Prop} {pl:Sem Bool} {e:Expr} {es:List Expr} (ho:PE X o obj) (known:∀ C,Ok C→Cls X.K C∧Meth X.K C m f) (F:FnG X.prog X.w X.K X.mg X.base CX k f fd params sp) (room:RoomG k X.A) (bd:Binds X.K fd params [])
  (pass:∀ st,PassesAt CX X st (E st)) (items:PA X (e :: es) args) (plain:starEach (e :: es) X.env=(false,eval e X.env) :: starEach es X.env) (nostar:(backTo pos (starEach es X.env)).any (·.1)=false) (tree:Wk X o m apos (e :: es) pos pl) :
  PE X (.Call (.Attribute o m apos) (e :: es) [] pos) (tMethX Ok m sp E obj args) where
 run:=fun ps sh st G Q inv want=>PySem.W.methodCall_KW (pl:=pl) (thn (ho.run ps sh st G _ inv want) fun u s1 ⟨x,G1,inv1,isX,a,C,dx,fs,ex,at_,ok,free,rest⟩=>by
  subst ex
  obtain rfl:u = .ref a:=isX
  obtain ⟨cls,meth⟩:=known C ok
  exact getmeth_ok inv1 at_ cls meth free (PySem.W.callWith_K (first:=[.ref a]) (h₀:=X.base) inv.ok.mod.kin meth.kp (thn (items.run pos ps s1 st G1 _ inv1 rest) fun us s2 ⟨vs,G2,inv2,rel,q⟩=>
   ⟨inv2.kIn,run_fnG (us:=.ref a :: us) (xs:=.ref a :: vs) F room bd (pass st) inv2 (.cons (show RelV (V.ref a) (Value.ref a) from rfl) rel) q⟩) plain nostar)) tree
theorem pe_methX0 {Ok:Addr→Prop} {pl:Sem Bool} (ho:PE X o obj) (known:∀ C,Ok C→Cls X.K C∧Meth X.K C m f) (F:FnG X.prog X.w X.K X.mg X.base CX k f fd params sp) (room:RoomG k X.A) (bd:Binds X.K fd params [])
  (pass:∀ st,PassesAt CX X st (E st)) (tree:Wk X o m apos [] pos pl):PE X (.Call (.Attribute o m apos) [] [] pos) (tMethX Ok m sp E obj tNil) where
 run:=fun ps sh st G Q inv want=>PySem.W.methodCall_KW (pl:=pl) (thn (ho.run ps sh st G _ inv want) fun u s1 ⟨x,G1,inv1,isX,a,C,dx,fs,ex,at_,ok,free,rest⟩=>by
  subst ex
  obtain rfl:u = .ref a:=isX
  obtain ⟨cls,meth⟩:=known C ok
  exact getmeth_ok inv1 at_ cls meth free (PySem.W.callWith_K0 (first:=[.ref a]) inv1.kIn meth.kp (run_fnG (us:=[.ref a]) (xs:=[.ref a]) F room bd (pass st) inv1 (.cons (show RelV (V.ref a) (Value.ref a) from rfl) .nil) rest))) tree
end
end L2
namespace ND
open PySem L2
section
variable {X:Cx} {g:G} {W:WX} {a e o:Expr} {es:List Expr} {m mo mv:EM} {ms:AM} {pos p:Pos} {cur:Cur} {hid:List Addr} {s1:SM}
def revTD (x:D):M D:=fun S=>match dr S x with
 | .tup xs=>.ok (.tup xs.reverse) S
 | _=>.bad
def putD (kvs:List (Key × D)) (k:Key) (d:D):List (Key × D):=
 if (kvs.any fun kv=>decide (kv.1=k))=true then kvs.map (fun kv=>if kv.1=k then (kv.1,d) else kv) else kvs++[(k,d)]
def mergeD (kvs more:List (Key × D)):List (Key × D):=more.foldl (fun acc kv=>putD acc kv.1 kv.2) kvs
def pairsD:List D→Option (List (Key × D))
 | []=>some []
 | .tup [k,v] :: r=>(match Xe k,pairsD r with
  | some k,some r=>some ((k,v) :: r)
  | _,_=>none)
 | _=>none
theorem VKv.append {F:Hp} {c:List Addr}:∀ {ws ws':List (Key × V)} {kvs kvs':List (Key × D)},VKv g F c ws kvs→VKv g F c ws' kvs'→VKv g F c (ws++ws') (kvs++kvs')
 | _,_,_,_,.nil,h=>h
 | _,_,_,_,.cons v t,h=>.cons v (VKv.append t h)
theorem VKv.any {F:Hp} {c:List Addr} {k:Key}:∀ {ws:List (Key × V)} {kvs:List (Key × D)},VKv g F c ws kvs→(ws.any fun kv=>decide (kv.1=k))=(kvs.any fun kv=>decide (kv.1=k))
 | _,_,.nil=>rfl
 | _,_,.cons v t=>by simp only [List.any_cons,VKv.any t]
theorem VKv.over {F:Hp} {c:List Addr} {k:Key} {v:V} {d:D} (hv:Val g F c v d):∀ {ws:List (Key × V)} {kvs:List (Key × D)},VKv g F c ws kvs→VKv g F c (ws.map fun kv=>if kv.1=k then (kv.1,v) else kv) (kvs.map fun kv=>if kv.1=k then (kv.1,d) else kv)
 | _,_,.nil=>.nil
 | _,_,.cons (k:=k') h t=>by
  simp only [List.map_cons]
  by_cases e:k'=k
  ·rw [if_pos e,if_pos e]; exact .cons hv (VKv.over hv t)
  ·rw [if_neg e,if_neg e]; exact .cons h (VKv.over hv t)
theorem VKv.put {F:Hp} {c:List Addr} {k:Key} {v:V} {d:D} {ws:List (Key × V)} {kvs:List (Key × D)} (h:VKv g F c ws kvs) (hv:Val g F c v d):VKv g F c (putK ws k v) (putD kvs k d):=by
 unfold putK putD
 rw [h.any]
 split
 ·exact h.over hv
 ·exact h.append (.cons hv .nil)
theorem VKv.merge {F:Hp} {c:List Addr}:∀ {more:List (Key × V)} {moreD:List (Key × D)},VKv g F c more moreD→∀ {ws:List (Key × V)} {kvs:List (Key × D)},VKv g F c ws kvs→VKv g F c (mergeK ws more) (mergeD kvs moreD)
 | _,_,.nil,_,_,h=>h
 | _,_,.cons v t,_,_,h=>VKv.merge t (h.put v)
theorem Paired.ex {K:PySem.W.Frag} {F F':Hp} (h:Ex F F'):∀ {ps:List Addr} {ws:List (Key × V)},Paired (fun p kv=>SqT K F p [kV kv.1,kv.2]) ps ws→Paired (fun p kv=>SqT K F' p [kV kv.1,kv.2]) ps ws
 | _,_,.nil=>.nil
 | _,_,.cons s t=>.cons (Evl.ex_t h s) (Paired.ex h t)
def fldD (Cs:List Str) (f:Str) (x:D):M D:=fun S=>match dr S x with
 | .obj C fs=>if C ∈ Cs then (match fs.lookup f with
  | some d=>.ok d S
  | none=>.bad) else .bad
 | _=>.bad
def KW (X:Cx) (Cs:List Str) (f:Str):Prop:=∀ C ∈ Cs,∀ Ca,X.mg C=some (.ref Ca)→Cls X.K Ca∧NoAttr X.K Ca f
theorem d_fld {Cs:List Str} {f:Str} (hC:KW X Cs f) (he:PE X e (tE (gx X cur hid) W m)) (hb:attributeBase e f X.env (eval e X.env)=eval e X.env:=by rfl):PE X (.Attribute e f pos) (tE (gx X cur hid) W (mUn (fldD Cs f) m)):=
 PE.imp (pe_fld he hb) fun σ H Q h=>V4 h fun c S H1 v x r1 v1 o1=>by
  unfold fldD at o1
  have sv:=dr_seen r1 v1
  split at o1
  ·rename_i C fs h1
   rw [h1] at sv
   obtain ⟨a,Ca,dx,ws,e1,e2,e3,e4⟩:=sv.obj'
   split at o1
   ·rename_i hm
    obtain ⟨q1,q2⟩:=hC C hm Ca e2
    split at o1
    ·rename_i d hd
     obtain ⟨u,h2,h3⟩:=e4.lookup hd
     exact ⟨a,Ca,dx,ws,u,e1,e3,q1,q2,h2,Zh r1 o1 h3⟩
    ·exact o1.elim
   ·exact o1.elim
  ·exact o1.elim
def putFD (f:Str) (v:D):List (Str × D)→List (Str × D)
 | []=>[(f,v)]
 | (g,x) :: r=>if g=f then (g,v) :: r else (g,x) :: putFD f v r
theorem VFs.put {F:Hp} {c:List Addr} {f:Str} {v:V} {d:D} (hv:Val g F c v d):∀ {ws:List (Str × V)} {fs:List (Str × D)},VFs g F c ws fs→VFs g F c (putF f v ws) (putFD f d fs)
 | _,_,.nil=>.cons hv .nil
 | _,_,.cons (k:=k) h t=>by
  unfold putF putFD
  split
  ·exact .cons hv t
  ·exact .cons h (VFs.put hv t)
def setFD (Cs:List Str) (f:Str) (x y:D):M Unit:=fun S=>match x with
 | .cel n=>(match S[n]? with
  | some (.ins C fs)=>if C ∈ Cs∧fs.length < 1000 then .ok () (S.set n (.ins C (putFD f y fs))) else .bad
  | _=>.bad)
 | _=>.bad
def sFldD (Cs:List Str) (f:Str) (mo mv:EM):SM:=fun τ=>sOf (mv τ >>= fun y=>mo τ >>= fun x=>setFD Cs f x y) τ fun _ S=>.ok (.nx τ) S
theorem ds_fld {Cs:List Str} {f:Str} {p':Pos} (hC:KW X Cs f) (ho:PE X o (tE (gx X cur hid) W mo)) (hv:PE X e (tE (gx X cur hid) W mv)) (hs:swapsWith e (some (.Attribute o f p')) pos.line X.env=pure false:=by rfl) :
  PS X (.Assign [.Attribute o f p'] e pos) (tS (gx X cur hid) W (sFldD Cs f mo mv)):=PS.imp (ps_fld ho hv hs) fun De σ H h=>by
 obtain ⟨c,S,τ,r,s,q⟩:=h
 have q1:Out (gx X cur hid) c S H (fun (_:Unit) c1 S1 H1=>Xv (gx X cur hid) W c1 S1 H1 De (.ok (.nx τ) S1)) (WS W σ) ((mv τ >>= fun y=>mo τ >>= fun x=>setFD Cs f x y) S):=Xv.of s q fun _ _ _ _ _ o=>o
 refine ⟨c,S,τ,r,s,(Out.bind q1).imp fun y c1 S1 H1 f1 o1 v hv=>⟨c1,S1,τ,f1.rep,s.mono f1.ex f1.pre,(Out.bind o1).imp fun x c2 S2 H2 f2 o2 w hw=>?_⟩⟩
 unfold setFD at o2
 split at o2
 ·rename_i n
  obtain ⟨ad,rfl,ha⟩:=Xc hw
  split at o2
  ·rename_i C fs hx
   split at o2
   ·rename_i hm
    obtain ⟨Ca,dx,ws,mC,hu,lu⟩:=f2.rep.ok n ad _ ha hx
    obtain ⟨q1,q2⟩:=hC C hm.1 Ca mC
    refine ⟨ad,Ca,dx,ws,rfl,hu,q1,q2,by rw [lu.length]; exact hm.2,?_⟩
    have f3:=Fut.put (o:=.ins Ca dx (putF f v ws)) (y:=.ins C (putFD f y fs)) f2.rep ha hx rfl rfl ⟨Ca,dx,_,mC,upd_same,VFs.put (f2.val hv) lu⟩
    exact o2 _ c2 f3 _ _ _ (Fut.refl f3.rep) ((s.mono f1.ex f1.pre).mono (f2.trans f3).ex (f2.trans f3).pre)
   ·exact o2.elim
  ·exact o2.elim
 ·exact o2.elim
def makeD (C:Str) (n:Nat) (f:List D→M D) (ds:List D):M D:=fun S=>if ds.length+1=n then (match f (.cel S.length :: ds) (S++[.ins C []]) with
 | .ok .non S'=>.ok (.cel S.length) S'
 | .err C fs S'=>.err C fs S'
 | _=>.bad) else .bad
theorem J7 {c:List Addr} {S:Za} {H:Hp} {C:Str} {Ca:Addr} {n:Nat} {fm:List D→M D} {ds:List D} {vs:List V} {Q:VK} {E:XK} (hm:X.mg C=some (.ref Ca)) (r1:Rep (gx X cur hid) c S H) (v1:Vls (gx X cur hid) (frz (gx X cur hid) c S H) c vs ds)
  (o1:Out (gx X cur hid) c S H (RV (gx X cur hid) Q) E (makeD C n fm ds S)) :
  ∀ x dx,H x=none→H dx=none→dx ≠ x→spD X.K X.mg X.prog X.w n fm (.ref x :: vs) (upd (upd H dx (.own x)) x (.ins Ca dx [])) (fun v H2=>v = .non∧Q (.ref x) H2) E:=by
 intro x dx hx hd ne
 unfold makeD at o1
 split at o1
 ·rename_i hl
  have f1:=Fut.new (o:=.own x) r1 hd
  have hx':upd H dx (.own x) x=none:=by rw [upd_ne (Ne.symm ne)]; exact hx
  have f2:=Fut.cell (o:=.ins Ca dx []) (x:=.ins C []) f1.rep hx' rfl ⟨Ca,dx,[],hm,upd_same,.nil⟩
  have f:=f1.trans f2
  have hc:(c++[x])[S.length]? = some x:=by rw [← r1.len]; simp
  refine ⟨hid,c++[x],S++[Cell.ins C []],D.cel S.length :: ds,f.rep.off,.cons (.cel hc) ((f.vls v1).same (Zu.off _)),by rw [List.length_cons]; exact hl,?_⟩
  refine Out.off (g:=gx X cur hid) (Q:=fun v H2=>v = .non∧Q (.ref x) H2) f.rep ?_
  cases q:fm (.cel S.length :: ds) (S++[.ins C []]) with
  | ok d S'=>
   rw [q] at o1
   cases d with
   | non=>
    intro H' c' f' v hv
    cases hv
    exact ⟨rfl,o1 H' c' (f.trans f') _ (.cel (f'.pre _ _ hc))⟩
   | _=>exact o1.elim
  | err C2 fs S'=>rw [q] at o1; exact fun u od H' c' f' z=>o1 u od H' c' (f.trans f') z
  | bad=>rw [q] at o1; exact o1
 ·exact o1.elim
def mMake (C:Str) (n:Nat) (f:List D→M D) (ms:AM):EM:=fun τ=>ms τ >>= makeD C n f
theorem d_make {x:Str} {k n:Nat} {Ca f:Addr} {fd:FuncData} {ps:List Str} {fm:List D→M D} (Mk:L2.Mk X.K Ca f) (F:FnD X.prog X.w X.K X.mg X.base k f fd ps fm) (hr:RoomG (k+1) X.A) (hg:Gl X x) (hm:X.mg x=some (.ref Ca)) (hb:Binds X.K fd ps [])
  (tk:Takes X W) (ha:PA X (e :: es) (tAr (gx X cur hid) W ms)) (hn:ps.length=n:=by rfl) (hdb:(x == ("__debug__" : Str))=false:=by decide) (he:starEach (e :: es) X.env=(false,eval e X.env) :: starEach es X.env:=by rfl) (hpl:(backTo pos (starEach es X.env)).any (·.1)=false:=by rfl) :
  PE X (.Call (.Name x p) (e :: es) [] pos) (tE (gx X cur hid) W (mMake x n fm ms)):=by
 subst hn
 exact PE.imp (pe_makeX Mk F hr hg hm hb (fun σ=>passAt tk σ) ha hdb he hpl) fun σ H Q h=>
  YZ (R:=RV (gx X cur hid) Q) (k:=fun xs _=>makeD x ps.length fm xs) h fun c S H1 τ vs ds r1 s1 v1 o1=>J7 hm r1 v1 o1
def methD (C m:Str) (n:Nat) (f:List D→M D) (x:D) (ds:List D):M D:=fun S=>if ds.length+1=n then f (x :: ds) S else .bad
def isObj (C m:Str) (x:D):M Unit:=fun S=>match dr S x with
 | .obj C' fs=>if C'=C∧(fs.lookup m).isNone=true then .ok () S else .bad
 | _=>.bad
def mMethI (C m:Str) (n:Nat) (f:List D→M D) (mo:EM) (ms:AM):EM:=fun τ=>mo τ >>= fun x=>isObj C m x >>= fun _=>ms τ >>= fun ds=>methD C m n f x ds
theorem GJ {β:Type} {C m:Str} {x:D} {k:Unit→M β} {c:List Addr} {S:Za} {H:Hp} {R:β→List Addr→Za→Hp→Prop} {E:XK} (h:Out g c S H R E ((isObj C m x >>= k) S)):∃ fs,dr S x = .obj C fs∧fs.lookup m=none∧Out g c S H R E (k () S):=by
 have h2:=h
 rw [Zy] at h2
 cases q:dr S x with
 | obj C' fs=>
  have e:isObj C m x S=if C'=C∧(fs.lookup m).isNone=true then .ok () S else .bad:=by unfold isObj; rw [q]
  rw [e] at h2
  by_cases hh:C'=C∧(fs.lookup m).isNone=true
  ·rw [if_pos hh] at h2
   obtain ⟨rfl,hl⟩:=hh
   refine ⟨fs,rfl,?_,h2⟩
   cases z:fs.lookup m with
   | none=>rfl
   | some z'=>rw [z] at hl; cases hl
  ·rw [if_neg hh] at h2; exact h2.elim
 | _=>
  have e:isObj C m x S = .bad:=by unfold isObj; rw [q]
  rw [e] at h2; exact h2.elim
theorem UC {C m:Str} {Ca:Addr} {n:Nat} {fm:List D→M D} {t:TA} (hm:X.mg C=some (.ref Ca)) {σ:St} {H:Hp} {Q:VK} (ht:∀ σ H Q,tAr (gx X cur hid) W ms σ H Q→t σ H Q)
  (h:tE (gx X cur hid) W (mMethI C m n fm mo ms) σ H Q):tMethX (fun D=>D=Ca) m (spD X.K X.mg X.prog X.w n fm) (fun σ=>WE W σ) (tE (gx X cur hid) W mo) t σ H Q:=
 YE (R:=RV (gx X cur hid) Q) (k:=fun x τ=>isObj C m x >>= fun _=>ms τ >>= fun ds=>methD C m n fm x ds) h fun c S H1 τ v d r1 s1 v1 o1=>by
  obtain ⟨fs,h1,hl,o1⟩:=GJ o1
  have sv:=dr_seen r1 v1
  rw [h1] at sv
  obtain ⟨a,Cb,dx,ws,e1,e2,e3,e4⟩:=sv.obj'
  have e2':=e2.symm.trans hm
  cases e2'
  subst e1
  refine ⟨a,_,dx,ws,rfl,e3,rfl,e4.lookup_none hl,?_⟩
  refine ht _ _ _ ⟨c,S,τ,r1,s1,(Out.bind o1).imp fun ds c2 S2 H2 f2 o2 vs hvs=>?_⟩
  unfold methD at o2
  split at o2
  ·rename_i hn
   exact ⟨hid,c2,S2,d :: ds,f2.rep.off,(Vls.cons (f2.val v1) hvs).same (Zu.off _),hn,Out.off (g:=gx X cur hid) f2.rep o2⟩
  ·exact o2.elim
theorem d_methI {C m:Str} {k n:Nat} {Ca f:Addr} {fd:FuncData} {ps:List Str} {fm:List D→M D} {pl:Sem Bool} {apos:Pos} (hc:Cls X.K Ca) (hM:Meth X.K Ca m f) (F:FnD X.prog X.w X.K X.mg X.base k f fd ps fm) (hr:RoomG k X.A) (hm:X.mg C=some (.ref Ca)) (hb:Binds X.K fd ps [])
  (tk:Takes X W) (ho:PE X o (tE (gx X cur hid) W mo)) (ha:PA X (e :: es) (tAr (gx X cur hid) W ms)) (hn:ps.length=n:=by rfl) (hst:starEach (e :: es) X.env=(false,eval e X.env) :: starEach es X.env:=by rfl) (hpl:(backTo pos (starEach es X.env)).any (·.1)=false:=by rfl)
  (ht:Wk X o m apos (e :: es) pos pl:=by rfl) :
  PE X (.Call (.Attribute o m apos) (e :: es) [] pos) (tE (gx X cur hid) W (mMethI C m n fm mo ms)):=by
 subst hn
 exact PE.imp (pe_methX (Ok:=fun D=>D=Ca) ho (fun D e=>by rw [e]; exact ⟨hc,hM⟩) F hr hb (fun σ=>passAt tk σ) ha hst hpl ht) fun σ H Q h=>UC hm (fun _ _ _ q=>q) h
theorem d_methI0 {C m:Str} {k n:Nat} {Ca f:Addr} {fd:FuncData} {ps:List Str} {fm:List D→M D} {pl:Sem Bool} {apos:Pos} (hc:Cls X.K Ca) (hM:Meth X.K Ca m f) (F:FnD X.prog X.w X.K X.mg X.base k f fd ps fm) (hr:RoomG k X.A) (hm:X.mg C=some (.ref Ca)) (hb:Binds X.K fd ps [])
  (tk:Takes X W) (ho:PE X o (tE (gx X cur hid) W mo)) (hn:ps.length=n:=by rfl)
  (ht:Wk X o m apos [] pos pl:=by rfl) :
  PE X (.Call (.Attribute o m apos) [] [] pos) (tE (gx X cur hid) W (mMethI C m n fm mo mNil)):=by
 subst hn
 exact PE.imp (pe_methX0 (Ok:=fun D=>D=Ca) ho (fun D e=>by rw [e]; exact ⟨hc,hM⟩) F hr hb (fun σ=>passAt tk σ) ht) fun σ H Q h=>UC hm (fun σ H Q q=>by
  obtain ⟨c,S,τ,r,sl,o⟩:=q
  exact o H c (Fut.refl r) [] .nil) h
def sAsg2 (i j:Nat) (m:EM):SM:=fun τ=>sOf (m τ) τ fun d S=>.ok (.nx ((τ.set i (some d)).set j (some d))) S
theorem fld1 {C f:Str} {Ca:Addr} (hm:X.mg C=some (.ref Ca)) (c:Cls X.K Ca) (n:NoAttr X.K Ca f):KW X [C] f:=fun C' h Cb e=>by
 rw [List.mem_singleton.mp h,hm] at e
 cases e
 exact ⟨c,n⟩
def hit1 (nm:Str):Str→Option Bool:=fun C=>if C=nm then some true else none
end
abbrev XP:=Str→List (Str × D)→Za→Prop
def Ev {α:Type} (m:M α) (S:Za) (E:XP) (P:α→Za→Prop):Prop:=match m S with
 | .ok a S'=>P a S'
 | .err C fs S'=>E C fs S'
 | .bad=>False
def EvR (r:SRes) (E:Str→List (Str × D)→DSt→Za→Prop) (P:Flow→Za→Prop):Prop:=match r with
 | .ok f S'=>P f S'
 | .err C fs τ S'=>E C fs τ S'
 | .bad=>False
section
variable {α β:Type} {S:Za} {E:XP} {P:α→Za→Prop} {τ:DSt} {Q:D→Za→Prop} {ER:Str→List (Str × D)→DSt→Za→Prop} {PR:Flow→Za→Prop}
theorem Ev.mono {m:M α} {P':α→Za→Prop} {E':XP} (h:Ev m S E P) (k:∀ a S',P a S'→P' a S') (k':∀ C fs S',E C fs S'→E' C fs S'):Ev m S E' P':=by
 unfold Ev at *
 split <;> simp_all
theorem EvR.mono {r:SRes} {P':Flow→Za→Prop} {E':Str→List (Str × D)→DSt→Za→Prop} (h:EvR r ER PR) (k:∀ a S',PR a S'→P' a S') (k':∀ C fs τ S',ER C fs τ S'→E' C fs τ S'):EvR r E' P':=by
 unfold EvR at *
 split <;> simp_all
@[simp] theorem ZI (a:α):Ev (pure a) S E P=P a S:=rfl
@[simp] theorem Zh5 (a:α) (S':Za):Ev (fun _=>Res.ok a S') S E P=P a S':=rfl
@[simp] theorem Zh4:Ev (M.no:M α) S E P=False:=rfl
theorem Ze (m:M β) (f:β→M α):Ev (m >>= f) S E P=Ev m S E fun a S'=>Ev (f a) S' E P:=by
 unfold Ev
 rw [Zy]
 cases m S <;> rfl
@[simp] theorem ZN (b:Bool) (m:M α):Ev (M.chk b m) S E P=(b=true∧Ev m S E P):=by
 unfold Ev M.chk
 cases b <;> simp
@[simp] theorem Vl (b:Prop) [Decidable b] (m n:M α):Ev (if b then m else n) S E P=if b then Ev m S E P else Ev n S E P:=by
 split <;> rfl
def ZfA (o:Option (Option D)) (S:Za) (Q:D→Za→Prop):Prop:=match o with
 | some (some d)=>Q d S
 | _=>False
@[simp] theorem Z9 {d:D}:ZfA (some (some d)) S Q=Q d S:=rfl
@[simp] theorem XZ {i:Nat}:Ev (mVar i τ) S E Q=ZfA τ[i]? S Q:=by
 unfold Ev mVar ZfA
 cases τ[i]? with
 | none=>rfl
 | some o=>cases o <;> rfl
@[simp] theorem ZnL (d:D):Ev (mC d τ) S E Q=Q d S:=rfl
@[simp] theorem Zaz (op:D→D→M D) (a b:EM):Ev (mBin op a b τ) S E Q=Ev (a τ) S E fun x S1=>Ev (b τ) S1 E fun y S2=>Ev (op x y) S2 E Q:=by
 unfold mBin; rw [Ze]; simp only [Ze]
@[simp] theorem Zh8 (op:D→M D) (a:EM):Ev (mUn op a τ) S E Q=Ev (a τ) S E fun x S1=>Ev (op x) S1 E Q:=by
 unfold mUn; rw [Ze]
@[simp] theorem Zm (b:Bool) {PB:Bool→Za→Prop}:Ev (asB (.bl b)) S E PB=PB b S:=rfl
@[simp] theorem Zay (a:EM) {PB:Bool→Za→Prop}:Ev (mAsT a τ) S E PB=Ev (a τ) S E fun x S1=>Ev (asB x) S1 E PB:=by unfold mAsT; rw [Ze]
@[simp] theorem Zgo (m n:TM) {PB:Bool→Za→Prop}:Ev (mTAnd m n τ) S E PB=Ev (m τ) S E fun b S1=>if b=true then Ev (n τ) S1 E PB else PB false S1:=by
 unfold mTAnd; rw [Ze]; simp only [Vl,ZI]
@[simp] theorem ZhM (m n:TM) {PB:Bool→Za→Prop}:Ev (mTOr m n τ) S E PB=Ev (m τ) S E fun b S1=>if b=true then PB true S1 else Ev (n τ) S1 E PB:=by
 unfold mTOr; rw [Ze]; simp only [Vl,ZI]
@[simp] theorem Zgp (m:TM) {PB:Bool→Za→Prop}:Ev (mTNot m τ) S E PB=Ev (m τ) S E fun b S1=>PB (!b) S1:=by
 unfold mTNot; rw [Ze]; simp only [ZI]
@[simp] theorem Zhn (m n:EM):Ev (mAnd m n τ) S E Q=Ev (m τ) S E fun x S1=>Ev (asB x) S1 E fun b S2=>if b=true then Ev (n τ) S2 E Q else Q (.bl false) S2:=by
 unfold mAnd; simp only [Ze,Vl,ZI]
@[simp] theorem Zh6 (m n:EM):Ev (mOr m n τ) S E Q=Ev (m τ) S E fun x S1=>Ev (asB x) S1 E fun b S2=>if b=true then Q (.bl true) S2 else Ev (n τ) S2 E Q:=by
 unfold mOr; simp only [Ze,Vl,ZI]
@[simp] theorem Zgd (b:Bool):Ev (notB (.bl b)) S E Q=Q (.bl (!b)) S:=rfl
@[simp] theorem Zhu (t:TM) (a b:EM):Ev (mIf t a b τ) S E Q=Ev (t τ) S E fun x S1=>if x=true then Ev (a τ) S1 E Q else Ev (b τ) S1 E Q:=by
 unfold mIf; simp only [Ze,Vl]
@[simp] theorem Zdy {PL:List D→Za→Prop}:Ev (mNil τ) S E PL=PL [] S:=rfl
@[simp] theorem ZfV (m:EM) (ms:AM) {PL:List D→Za→Prop}:Ev (mCons m ms τ) S E PL=Ev (m τ) S E fun x S1=>Ev (ms τ) S1 E fun xs S2=>PL (x :: xs) S2:=by
 unfold mCons; simp only [Ze,ZI]
@[simp] theorem ZhO (ms:AM):Ev (mTup ms τ) S E Q=Ev (ms τ) S E fun xs S1=>xs.length≤sizeLine∧Q (.tup xs) S1:=by
 unfold mTup; simp only [Ze,ZN,ZI,decide_eq_true_eq]
@[simp] theorem ZhA (ms:AM):Ev (mLst ms τ) S E Q=Ev (ms τ) S E fun xs S1=>xs.length≤sizeLine∧Q (.lst xs) S1:=by
 unfold mLst; simp only [Ze,ZN,ZI,decide_eq_true_eq]
@[simp] theorem Vm (x:Cell):Ev (newCell x) S E Q=Q (.cel S.length) (S++[x]):=rfl
@[simp] theorem Zf6 (ms:AM):Ev (mLstC ms τ) S E Q=Ev (ms τ) S E fun xs S1=>xs.length≤sizeLine∧Q (.cel S1.length) (S1++[.lst xs]):=by
 unfold mLstC; simp only [Ze,ZN,Vm,decide_eq_true_eq]
@[simp] theorem Zdz {PO:Option Int→Za→Prop}:Ev (mNoPart τ) S E PO=PO none S:=rfl
@[simp] theorem Zho (i:Int) {PI:Int→Za→Prop}:Ev (asI (.int i)) S E PI=PI i S:=rfl
@[simp] theorem Zge (m:EM) {PO:Option Int→Za→Prop}:Ev (mPart m τ) S E PO=Ev (m τ) S E fun x S1=>Ev (asI x) S1 E fun i S2=>PO (some i) S2:=by
 unfold mPart; simp only [Ze,ZI]
@[simp] theorem Zh7 (m:EM) (lo hi:OM):Ev (mSl m lo hi τ) S E Q=Ev (m τ) S E fun x S1=>Ev (lo τ) S1 E fun l S2=>Ev (hi τ) S2 E fun h S3=>Ev (slD x l h) S3 E Q:=by
 unfold mSl; simp only [Ze]
@[simp] theorem Zbv (f:List D→M D) (ms:AM):Ev (mCall f ms τ) S E Q=Ev (ms τ) S E fun xs S1=>Ev (f xs) S1 E Q:=by
 unfold mCall; simp only [Ze]
@[simp] theorem Gn (n:Nat) (f:List D→M D) (ds:List D):Ev (arity n f ds) S E Q=(ds.length=n∧Ev (f ds) S E Q):=by
 unfold arity; simp only [ZN,decide_eq_true_eq]
@[simp] theorem ZeM (f k:D→D→M D) (a b c:EM):Ev (mChain f k a b c τ) S E Q=Ev (a τ) S E fun x S1=>Ev (b τ) S1 E fun y S2=>Ev (f x y) S2 E fun z S3=>Ev (asB z) S3 E fun t S4=>if t=true then Ev (c τ) S4 E fun w S5=>Ev (k y w) S5 E Q else Q (.bl false) S4:=by
 unfold mChain; simp only [Ze,Vl,ZI]
@[simp] theorem Zds {T:String} {x:D} {PU:Unit→Za→Prop}:Ev (isK T x) S E PU=(tyNm (dr S x)=some T∧PU () S):=by
 unfold Ev isK
 by_cases h:tyNm (dr S x)=some T
 ·rw [if_pos h]; simp [h]
 ·rw [if_neg h]; simp [h]
@[simp] theorem Zgb (T:String) (f:D→List D→M D) (o:EM) (ms:AM):Ev (mMeth T f o ms τ) S E Q=Ev (o τ) S E fun x S1=>(tyNm (dr S1 x)=some T∧Ev (ms τ) S1 E fun xs S2=>Ev (f x xs) S2 E Q):=by
 unfold mMeth; simp only [Ze,Zds]
@[simp] theorem Zdr (m:EM):Ev (mFix m τ) S E Q=Ev (m τ) S E fun x S1=>Ev (fixD x) S1 E Q:=by unfold mFix; rw [Ze]
@[simp] theorem ZdE (m:EM) {PL:List D→Za→Prop}:Ev (mWalkL m τ) S E PL=Ev (m τ) S E fun x S1=>Ev (walkLD x) S1 E PL:=by unfold mWalkL; rw [Ze]
@[simp] theorem Zib (m:EM) {PL:List D→Za→Prop}:Ev (mWalkT m τ) S E PL=Ev (m τ) S E fun x S1=>Ev (walkTD x) S1 E PL:=by unfold mWalkT; rw [Ze]
@[simp] theorem Zia (m:EM) {PL:List D→Za→Prop}:Ev (mWalkS m τ) S E PL=Ev (m τ) S E fun x S1=>Ev (walkSD x) S1 E PL:=by unfold mWalkS; rw [Ze]
@[simp] theorem Zgi (ms:AM) {PL:List D→Za→Prop}:Ev (mRng1 ms τ) S E PL=Ev (ms τ) S E fun x S1=>Ev (rng1D x) S1 E PL:=by unfold mRng1; rw [Ze]
@[simp] theorem Zgj (ms:AM) {PL:List D→Za→Prop}:Ev (mRng2 ms τ) S E PL=Ev (ms τ) S E fun x S1=>Ev (rng2D x) S1 E PL:=by unfold mRng2; rw [Ze]
@[simp] theorem ZS {n:Int} {PL:List D→Za→Prop}:Ev (rng1D [.int n]) S E PL=((-(2 ^ 62)≤n∧n < 2 ^ 62)∧PL (intsD 0 n.toNat) S):=by
 unfold rng1D; simp only [ZN,ZI,VS]
@[simp] theorem Zh3 (C:Str) (n:Nat) (f:List D→M D) (ms:AM):Ev (mMake C n f ms τ) S E Q=Ev (ms τ) S E fun ds S1=>Ev (makeD C n f ds) S1 E Q:=by unfold mMake; rw [Ze]
section
variable {i j:Int}
@[simp] theorem ZfQ:Ev (addD (.int i) (.int j)) S E Q=Q (.int (i+j)) S:=rfl
@[simp] theorem Zgn:Ev (subD (.int i) (.int j)) S E Q=Q (.int (i - j)) S:=by unfold subD intD; simp
@[simp] theorem Ze5:Ev (mulID (.int i) (.int j)) S E Q=(mulC i j=true∧Q (.int (i * j)) S):=by unfold mulID intD; simp
@[simp] theorem Zgc:Ev (mulD (.int i) (.int j)) S E Q=(mulC i j=true∧Q (.int (i * j)) S):=by unfold mulD; simp
@[simp] theorem ZfX:Ev (fdivD (.int i) (.int j)) S E Q=((0 < j∧j < 1073741824)∧Q (.int (i / j)) S):=by unfold fdivD intD; simp
@[simp] theorem ZhD:Ev (modD (.int i) (.int j)) S E Q=(0 < j∧Q (.int (i % j)) S):=by unfold modD intD; simp
@[simp] theorem ZhG:Ev (powD (.int i) (.int j)) S E Q=((0≤j∧j≤1000000∧i.natAbs < 2 ^ 64)∧Q (.int (i ^ j.toNat)) S):=by unfold powD intD ZhW; simp
@[simp] theorem ZhI:Ev (shrD (.int i) (.int j)) S E Q=(0≤j∧Q (.int (i / 2 ^ j.toNat)) S):=by unfold shrD intD; simp
@[simp] theorem ZhH:Ev (shlD (.int i) (.int j)) S E Q=(shlC i j=true∧Q (.int (i * 2 ^ j.toNat)) S):=by unfold shlD intD; simp
@[simp] theorem ZfS:Ev (andD (.int i) (.int j)) S E Q=Q (.int (Builtin.bitAnd i j)) S:=by unfold andD intD; simp
@[simp] theorem ZhF:Ev (orD (.int i) (.int j)) S E Q=Q (.int (Builtin.bitOr i j)) S:=by unfold orD intD; simp
@[simp] theorem ZhE:Ev (negD (.int i)) S E Q=Q (.int (-i)) S:=rfl
@[simp] theorem ZhB:Ev (ltD (.int i) (.int j)) S E Q=Q (.bl (decide (i < j))) S:=rfl
@[simp] theorem ZaE:Ev (leD (.int i) (.int j)) S E Q=Q (.bl (decide (i≤j))) S:=rfl
@[simp] theorem Zht:Ev (gtD (.int i) (.int j)) S E Q=Q (.bl (decide (j < i))) S:=rfl
@[simp] theorem Zhs:Ev (geD (.int i) (.int j)) S E Q=Q (.bl (decide (j≤i))) S:=rfl
@[simp] theorem ZhC {x y:Str}:Ev (ltD (.str x) (.str y)) S E Q=Q (.bl (decide (x.cps.toList < y.cps.toList))) S:=rfl
@[simp] theorem Zhz {x y:Str}:Ev (leD (.str x) (.str y)) S E Q=Q (.bl (!decide (y.cps.toList < x.cps.toList))) S:=rfl
@[simp] theorem Zhm:Ev (absD [.int i]) S E Q=Q (.int (if i < 0 then -i else i)) S:=rfl
@[simp] theorem ZhP {f:Int→Int→Int}:Ev (twoD f [.int i,.int j]) S E Q=Q (.int (f i j)) S:=rfl
end
@[simp] theorem ZfR {x y:Str}:Ev (addD (.str x) (.str y)) S E Q=(x.length+y.length≤sizeLine∧Q (.str (x++y)) S):=by
 unfold Ev addD; simp only [dr]
 by_cases h:x.length+y.length≤sizeLine
 ·rw [if_pos h]; simp [h]
 ·rw [if_neg h]; simp [h]
@[simp] theorem Zg {x y:List D}:Ev (addD (.lst x) (.lst y)) S E Q=(x.length+y.length≤sizeLine∧Q (.lst (x++y)) S):=by
 unfold Ev addD; simp only [dr]
 by_cases h:x.length+y.length≤sizeLine
 ·rw [if_pos h]; simp [h]
 ·rw [if_neg h]; simp [h]
@[simp] theorem Zbu {x y:List D}:Ev (addD (.tup x) (.tup y)) S E Q=(x.length+y.length≤sizeLine∧Q (.tup (x++y)) S):=by
 unfold Ev addD; simp only [dr]
 by_cases h:x.length+y.length≤sizeLine
 ·rw [if_pos h]; simp [h]
 ·rw [if_neg h]; simp [h]
@[simp] theorem YG {xs:List D} {i:Int}:Ev (ixD (.lst xs) (.int i)) S E Q = ∃ d,atI xs i=some d∧Q d S:=by
 unfold Ev ixD; simp only [dr]; cases atI xs i <;> simp
@[simp] theorem Zhy {xs:List D} {i:Int}:Ev (ixD (.rol xs) (.int i)) S E Q = ∃ d,atI xs i=some d∧Q d S:=by
 unfold Ev ixD; simp only [dr]; cases atI xs i <;> simp
@[simp] theorem Yc {xs:List D} {i:Int}:Ev (ixD (.tup xs) (.int i)) S E Q = ∃ d,atI xs i=some d∧Q d S:=by
 unfold Ev ixD; simp only [dr]; cases atI xs i <;> simp
@[simp] theorem ZaD {z:Str} {i:Int}:Ev (ixD (.str z) (.int i)) S E Q = ∃ d,atI z.cps.toList i=some d∧Q (.str ⟨#[d]⟩) S:=by
 unfold Ev ixD; simp only [dr]; cases atI z.cps.toList i <;> simp
theorem Zdt {n:Nat} {xs:List D} {i:Int} (h:S[n]? = some (.lst xs)):Ev (ixD (.cel n) (.int i)) S E Q = ∃ d,atI xs i=some d∧Q d S:=by
 unfold Ev ixD; simp only [dr,h]; cases atI xs i <;> simp
@[simp] theorem ZhK {z:Str} {lo hi:Option Int}:Ev (slD (.str z) lo hi) S E Q=Q (.str ⟨(cut z.cps.toList lo hi).toArray⟩) S:=rfl
@[simp] theorem ZhL {xs:List D} {lo hi:Option Int}:Ev (slD (.tup xs) lo hi) S E Q=Q (.tup (cut xs lo hi)) S:=rfl
@[simp] theorem ZhJ {xs:List D} {lo hi:Option Int}:Ev (slD (.lst xs) lo hi) S E Q=Q (.lst (cut xs lo hi)) S:=rfl
@[simp] theorem Qs {xs:List D} {PL:List D→Za→Prop}:Ev (walkLD (.lst xs)) S E PL=PL xs S:=rfl
@[simp] theorem Ze9 {xs:List D} {PL:List D→Za→Prop}:Ev (walkTD (.tup xs)) S E PL=PL xs S:=rfl
@[simp] theorem Ze8 {xs:List D} {PL:List D→Za→Prop}:Ev (walkLD (.rol xs)) S E PL=PL xs S:=rfl
@[simp] theorem GA {z:Str} {PL:List D→Za→Prop}:Ev (walkSD (.str z)) S E PL=PL (chS z) S:=rfl
@[simp] theorem Zf5 {xs:List D}:Ev (lenSD [.tup xs]) S E Q=Q (.int xs.length) S:=rfl
@[simp] theorem Zf3 {xs:List D}:Ev (lenSD [.lst xs]) S E Q=Q (.int xs.length) S:=rfl
@[simp] theorem Zf4 {xs:List D}:Ev (lenSD [.rol xs]) S E Q=Q (.int xs.length) S:=rfl
@[simp] theorem JO {z:Str}:Ev (lenSD [.str z]) S E Q=Q (.int z.length) S:=rfl
@[simp] theorem ZeV {xs:List D}:Ev (listD [.tup xs]) S E Q=Q (.lst xs) S:=rfl
@[simp] theorem Gy {xs:List D}:Ev (listD [.lst xs]) S E Q=Q (.lst xs) S:=rfl
@[simp] theorem ZdD {xs:List D}:Ev (tupleD [.lst xs]) S E Q=Q (.tup xs) S:=rfl
theorem Um {n:Nat} {xs:List D} (h:S[n]? = some (.lst xs)):Ev (tupleD [.cel n]) S E Q=Q (.tup xs) S:=by
 unfold Ev tupleD; simp only [dr,h]
@[simp] theorem Zgk {n:Nat} {i:Int} {z:D} {PU:Unit→Za→Prop}:Ev (setD (.cel n) (.int i) z) S E PU = ∃ xs j,S[n]? = some (.lst xs)∧ixN xs.length i=some j∧PU () (S.set n (.lst (xs.set j z))):=by
 unfold Ev setD
 cases e:S[n]? with
 | none=>simp only [e]; simp
 | some c=>
  cases c with
  | lst xs=>cases e2:ixN xs.length i <;> (simp only [e,e2]; simp [e2])
  | _=>simp only [e]; simp
@[simp] theorem ZfT {n:Nat} {z:D}:Ev (appendD (.cel n) [z]) S E Q = ∃ xs,S[n]? = some (.lst xs)∧xs.length < sizeLine∧Q .non (S.set n (.lst (xs++[z]))):=by
 unfold Ev appendD
 cases e:S[n]? with
 | none=>simp only [e]; simp
 | some c=>
  cases c with
  | lst xs=>
   by_cases h:xs.length < sizeLine
   ·simp only [e,if_pos h]; simp [h]
   ·simp only [e,if_neg h]; simp [h]
  | _=>simp only [e]; simp
def ixO (n:Nat) (i:Int) (S:Za) (E:XP) (Q:D→Za→Prop):Prop:=Ev (ixD (.cel n) (.int i)) S E Q
def ixP (n:Nat) (i:Int) (S:Za) (E:XP) (Q:D→Za→Prop):Option Cell→Prop
 | some (.lst xs)=>∃ d,atI xs i=some d∧Q d S
 | _=>ixO n i S E Q
@[simp] theorem ZgJ {n:Nat} {i:Int} {xs:List D}:ixP n i S E Q (some (.lst xs)) = ∃ d,atI xs i=some d∧Q d S:=rfl
@[simp] theorem ZeU {n:Nat} {i:Int}:Ev (ixD (.cel n) (.int i)) S E Q=ixP n i S E Q S[n]?:=by
 cases e:S[n]? with
 | none=>rfl
 | some c=>
  cases c with
  | lst xs=>rw [Zdt e]; rfl
  | _=>rfl
theorem Wy {α:Type} {xs:List α} {i:Int} {n:Nat} {x:α} (hi:i=n) (h:xs[n]? = some x):atI xs i=some x:=by
 subst hi
 have hl:=(List.getElem?_eq_some_iff.mp h).1
 unfold atI ixN
 rw [if_pos (by omega),if_pos (by omega)]
 simpa using h
theorem YI {α:Type} {xs:List α} {i:Int} (h0:0≤i) (h:i < xs.length):∃ x,atI xs i=some x∧x ∈ xs:=by
 obtain ⟨n,rfl⟩:=Int.eq_ofNat_of_zero_le h0
 have hl:n < xs.length:=by omega
 exact ⟨xs[n],Wy rfl (List.getElem?_eq_getElem hl),List.getElem_mem hl⟩
@[simp] theorem ZnH {α:Type} {x:α} {r:List α}:atI (x :: r) 0=some x:=Wy (n:=0) rfl rfl
@[simp] theorem ZnI {α:Type} {x y:α} {r:List α}:atI (x :: y :: r) 1=some y:=Wy (n:=1) rfl rfl
@[simp] theorem ZnM {n:Nat}:ixN (n+1) 0=some 0:=by unfold ixN; rw [if_pos (by omega),if_pos (by omega)]; rfl
@[simp] theorem ZnN {n:Nat}:ixN (n+1+1) 1=some 1:=by unfold ixN; rw [if_pos (by omega),if_pos (by omega)]; rfl
@[simp] theorem Yn {m:M α} {k:α→Za→SRes}:EvR (sOf m τ k S) ER PR=Ev m S (fun C fs S'=>ER C fs τ S') fun a S'=>EvR (k a S') ER PR:=by
 unfold EvR Ev sOf
 cases m S <;> rfl
@[simp] theorem X0 {f:Flow} {S':Za}:EvR (.ok f S') ER PR=PR f S':=rfl
@[simp] theorem Zgx {C:Str} {fs:List (Str × D)}:EvR (.err C fs τ S) ER PR=ER C fs τ S:=rfl
@[simp] theorem Zfo:EvR (sSkip τ S) ER PR=PR (.nx τ) S:=rfl
def thenP (n:SM) (ER:Str→List (Str × D)→DSt→Za→Prop) (PR:Flow→Za→Prop):Flow→Za→Prop:=fun f S=>match f with
 | .nx τ=>EvR (n τ S) ER PR
 | f=>PR f S
@[simp] theorem Zfy {n:SM}:thenP n ER PR (.nx τ) S=EvR (n τ S) ER PR:=rfl
@[simp] theorem Zfz {n:SM} {d:D}:thenP n ER PR (.rt d) S=PR (.rt d) S:=rfl
@[simp] theorem Zfx {n:SM}:thenP n ER PR (.ct τ) S=PR (.ct τ) S:=rfl
@[simp] theorem Zfw {n:SM}:thenP n ER PR (.bk τ) S=PR (.bk τ) S:=rfl
@[simp] theorem Zv {m n:SM}:EvR (sThen m n τ S) ER PR=EvR (m τ S) ER (thenP n ER PR):=by
 unfold EvR sThen thenP
 cases m τ S with
 | ok f S'=>cases f <;> rfl
 | err C fs τ S'=>rfl
 | bad=>rfl
@[simp] theorem ZgA {b:Prop} [Decidable b] {r r':SRes}:EvR (if b then r else r') ER PR=if b then EvR r ER PR else EvR r' ER PR:=by split <;> rfl
@[simp] theorem Zfj {b:Prop} [Decidable b] {r r':Za→SRes}:EvR ((if b then r else r') S) ER PR=if b then EvR (r S) ER PR else EvR (r' S) ER PR:=by split <;> rfl
@[simp] theorem ZgC {m:EM}:EvR (sRet m τ S) ER PR=Ev (m τ) S (fun C fs S'=>ER C fs τ S') fun d S'=>PR (.rt d) S':=by unfold sRet; simp
@[simp] theorem ZgD {i:Nat} {m:EM}:EvR (sSet i m τ S) ER PR=Ev (m τ) S (fun C fs S'=>ER C fs τ S') fun d S'=>PR (.nx (τ.set i (some d))) S':=by unfold sSet; simp
@[simp] theorem Wo {m:EM}:EvR (sExpr m τ S) ER PR=Ev (m τ) S (fun C fs S'=>ER C fs τ S') fun d S'=>PR (.nx τ) S':=by unfold sExpr; simp
@[simp] theorem ZhQ {t:TM} {m n:SM}:EvR (sIf t m n τ S) ER PR=Ev (t τ) S (fun C fs S'=>ER C fs τ S') fun b S'=>if b=true then EvR (m τ S') ER PR else EvR (n τ S') ER PR:=by unfold sIf; simp
def Zb8 (i j:Nat) (τ:DSt) (PR:Flow→Za→Prop) (ds:List D) (S:Za):Prop:=match ds with
 | [a,b]=>PR (.nx ((τ.set i (some a)).set j (some b))) S
 | _=>False
def Zb9 (i j l:Nat) (τ:DSt) (PR:Flow→Za→Prop) (ds:List D) (S:Za):Prop:=match ds with
 | [a,b,c]=>PR (.nx (((τ.set i (some a)).set j (some b)).set l (some c))) S
 | _=>False
@[simp] theorem Zft {i j:Nat} {a b:D}:Zb8 i j τ PR [a,b] S=PR (.nx ((τ.set i (some a)).set j (some b))) S:=rfl
@[simp] theorem Zfu {i j l:Nat} {a b c:D}:Zb9 i j l τ PR [a,b,c] S=PR (.nx (((τ.set i (some a)).set j (some b)).set l (some c))) S:=rfl
@[simp] theorem Zfm {i j:Nat} {ms:AM}:EvR (sPar2 i j ms τ S) ER PR=Ev (ms τ) S (fun C fs S'=>ER C fs τ S') fun ds S'=>Zb8 i j τ PR ds S':=by
 unfold sPar2; rw [Yn]
 congr 1; funext ds S'
 unfold Zb8
 split
 ·rfl
 ·first | rfl | (split <;> simp_all [EvR])
@[simp] theorem Zfn {i j l:Nat} {ms:AM}:EvR (sPar3 i j l ms τ S) ER PR=Ev (ms τ) S (fun C fs S'=>ER C fs τ S') fun ds S'=>Zb9 i j l τ PR ds S':=by
 unfold sPar3; rw [Yn]
 congr 1; funext ds S'
 unfold Zb9
 split
 ·rfl
 ·first | rfl | (split <;> simp_all [EvR])
@[simp] theorem ZgB {o i v:EM}:EvR (sPut o i v τ S) ER PR=Ev (v τ) S (fun C fs S'=>ER C fs τ S') fun z S1=>Ev (o τ) S1 (fun C fs S'=>ER C fs τ S') fun x S2=>Ev (i τ) S2 (fun C fs S'=>ER C fs τ S') fun y S3=>Ev (setD x y z) S3 (fun C fs S'=>ER C fs τ S') fun _ S4=>PR (.nx τ) S4:=by
 unfold sPut; simp only [Yn,Ze,X0]
def Zbh (o:Option DSt) (S:Za) (PR:Flow→Za→Prop):Prop:=match o with
 | some τ=>PR (.nx τ) S
 | none=>False
@[simp] theorem ZcP:Zbh (some τ) S PR=PR (.nx τ) S:=rfl
@[simp] theorem Zgu {t:Tg} {m:EM}:EvR (sAsg t m τ S) ER PR=Ev (m τ) S (fun C fs S'=>ER C fs τ S') fun d S'=>Zbh (t.bind d τ) S' PR:=by
 unfold sAsg; rw [Yn]
 congr 1; funext d S'
 unfold Zbh
 cases t.bind d τ <;> rfl
@[simp] theorem Zz {i:Nat} {d:D}:Tg.bind (.nm i) d τ=some (τ.set i (some d)):=by rw [Tg.bind]
@[simp] theorem ZfK {ts:List Tg} {ds:List D}:Tg.bind (.tp ts) (.tup ds) τ=Tg.binds ts ds τ:=by rw [Tg.bind]
@[simp] theorem Zc9:Tg.binds [] [] τ=some τ:=by rw [Tg.binds]
@[simp] theorem Zcy {i:Nat} {ts:List Tg} {d:D} {ds:List D}:Tg.binds (.nm i :: ts) (d :: ds) τ=Tg.binds ts ds (τ.set i (some d)):=by rw [Tg.binds]; simp
@[simp] theorem Zgz {it:IM} {t:Tg} {b:SM}:EvR (sFor it t b τ S) ER PR=Ev (it τ) S (fun C fs S'=>ER C fs τ S') fun xs S'=>EvR (forL t b xs τ S') ER PR:=by unfold sFor; simp
@[simp] theorem ZdH {nm fl:Str} {m:EM}:EvR (sRaise nm fl m τ S) ER PR=Ev (m τ) S (fun C fs S'=>ER C fs τ S') fun d S'=>ER nm [(fl,d)] τ S':=by unfold sRaise; simp
theorem ZT {t:Tg} {b:SM} (Inv:Nat→DSt→Za→Prop):∀ {xs:List D} {k:Nat} {τ:DSt} {S:Za},Inv k τ S →
  (∀ i x τ S,xs[i]? = some x→Inv (k+i) τ S→∃ τ1,t.bind x τ=some τ1∧EvR (b τ1 S) ER fun f S'=>match f with
   | .nx τ'=>Inv (k+i+1) τ' S'
   | .ct τ'=>Inv (k+i+1) τ' S'
   | .bk τ'=>PR (.nx τ') S'
   | .rt d=>PR (.rt d) S')→(∀ τ S,Inv (k+xs.length) τ S→PR (.nx τ) S)→EvR (forL t b xs τ S) ER PR
 | [],k,τ,S,h0,_,fin=>fin τ S h0
 | x :: r,k,τ,S,h0,step,fin=>by
  obtain ⟨τ1,e1,h1⟩:=step 0 x τ S rfl h0
  unfold forL
  rw [e1]
  have go:∀ τ2 S2,Inv (k+1) τ2 S2→EvR (forL t b r τ2 S2) ER PR:=fun τ2 S2 h2=>ZT Inv h2 (fun i x τ S hx hi=>by
   have z:=step (i+1) x τ S hx (by rw [show k+(i+1)=k+1+i by omega]; exact hi)
   rw [show k+(i+1)=k+1+i by omega] at z
   exact z) (fun τ S h=>fin τ S (by rw [List.length_cons,show k+(r.length+1)=k+1+r.length by omega]; exact h))
  dsimp only
  cases e2:b τ1 S with
  | ok f S2=>
   rw [e2] at h1
   cases f with
   | nx τ2=>exact go τ2 S2 h1
   | ct τ2=>exact go τ2 S2 h1
   | bk τ2=>exact h1
   | rt d=>exact h1
  | err C fs τ2 S2=>rw [e2] at h1; exact h1
  | bad=>rw [e2] at h1; exact h1
theorem ev_compL {t:Tg} {tt:TM} {te:EM} {τ:DSt} {E:XP} {PL:List D→Za→Prop} (Inv:Nat→List D→Za→Prop):∀ {xs:List D} {k:Nat} {acc:List D} {S:Za},Inv k acc S →
  (∀ i x acc S,xs[i]? = some x→Inv (k+i) acc S→∃ τ1,t.bind x τ=some τ1∧Ev (tt τ1) S E fun c S1=>if c=true then Ev (te τ1) S1 E fun y S2=>acc.length < sizeLine∧Inv (k+i+1) (acc++[y]) S2 else Inv (k+i+1) acc S1) →
  (∀ acc S,Inv (k+xs.length) acc S→PL acc S)→Ev (compL t tt te τ xs acc) S E PL
 | [],k,acc,S,h0,_,fin=>fin acc S h0
 | x :: r,k,acc,S,h0,step,fin=>by
  obtain ⟨τ1,e1,h1⟩:=step 0 x acc S rfl h0
  unfold compL
  rw [e1]
  simp only [Ze]
  have go:∀ acc2 S2,Inv (k+1) acc2 S2→Ev (compL t tt te τ r acc2) S2 E PL:=fun acc2 S2 h2=>ev_compL Inv h2 (fun i x τ S hx hi=>by
   have z:=step (i+1) x τ S hx (by rw [show k+(i+1)=k+1+i by omega]; exact hi)
   rw [show k+(i+1)=k+1+i by omega] at z
   exact z) (fun τ S h=>fin τ S (by rw [List.length_cons,show k+(r.length+1)=k+1+r.length by omega]; exact h))
  refine h1.mono (fun c S1 hc=>?_) (fun _ _ _ z=>z)
  cases c with
  | false=>exact go _ _ hc
  | true=>
   simp only [if_true,Ze,ZN,decide_eq_true_eq] at hc ⊢
   exact hc.mono (fun y S2 hy=>⟨hy.1,go _ _ hy.2⟩) (fun _ _ _ z=>z)
theorem ev_noErr {m:M α} (h:Ev m S (fun _ _ _=>False) P):Ev (noErr m) S E P:=by
 unfold Ev noErr at *
 cases e:m S with
 | ok a S'=>rw [e] at h; exact h
 | err C fs S'=>rw [e] at h; exact h.elim
 | bad=>rw [e] at h; exact h
@[simp] theorem ZfU {it:IM} {vs:List Nat} {t:Tg} {tt:TM} {te:EM}:Ev (mComp it vs t tt te τ) S E Q=Ev (it τ) S E fun xs S1=>Ev (noErr (compL t tt te (wipeD τ vs) xs [])) S1 E fun ys S2=>Q (.lst ys) S2:=by
 unfold mComp; simp only [Ze,ZI]
@[simp] theorem ZaH {PB:Bool→Za→Prop}:Ev (tYesD τ) S E PB=PB true S:=rfl
def retP (Q:D→Za→Prop):Flow→Za→Prop:=fun f S=>match f with
 | .nx _=>Q .non S
 | .rt d=>Q d S
 | _=>False
@[simp] theorem ZgU:retP Q (.nx τ) S=Q .non S:=rfl
@[simp] theorem ZgV {d:D}:retP Q (.rt d) S=Q d S:=rfl
theorem Zl {N:List Str} {mb:SM} {ds:List D}:Ev (mFn N mb ds) S E Q=EvR (mb (startD N ds) S) (fun C fs _ S'=>E C fs S') (retP Q):=by
 unfold Ev EvR mFn retP
 cases mb (startD N ds) S with
 | ok f S'=>cases f <;> rfl
 | err C fs τ S'=>rfl
 | bad=>rfl
theorem Qn {t:Tg} {te:EM} {τ:DSt} {E:XP} {PL:List D→Za→Prop} {xs:List D} (f:D→D) (hl:xs.length≤sizeLine) (h:∀ x ∈ xs,∃ τ1,t.bind x τ=some τ1∧∀ (Q:D→Za→Prop),Q (f x) S→Ev (te τ1) S (fun _ _ _=>False) Q) (q:PL (xs.map f) S) :
  Ev (noErr (compL t tYesD te τ xs [])) S E PL:=by
 refine ev_noErr (ev_compL (fun k acc S'=>acc=(xs.take k).map f∧S'=S) (k:=0) ⟨rfl,rfl⟩ (fun i x acc S' hx hi=>?_) (fun acc S' hi=>?_))
 ·obtain ⟨rfl,rfl⟩:=hi
  have hlt:=(List.getElem?_eq_some_iff.mp hx).1
  obtain ⟨τ1,e1,h1⟩:=h x (List.mem_of_getElem? hx)
  refine ⟨τ1,e1,?_⟩
  simp only [ZaH,if_true]
  refine h1 _ ⟨?_,?_,rfl⟩
  ·rw [List.length_map,List.length_take]; omega
  ·rw [show 0+i+1=(0+i)+1 by omega,List.take_succ,Nat.zero_add,hx,List.map_append]; rfl
 ·obtain ⟨rfl,rfl⟩:=hi
  rw [Nat.zero_add,List.take_length]
  exact q
@[simp] theorem Kx {a:List Nat}:(⟨a.toArray⟩:Str).length=a.length:=by show a.toArray.size=_; simp
@[simp] theorem Zg9 {a b:List Nat}:(⟨a.toArray⟩:Str)++(⟨b.toArray⟩:Str)=⟨(a++b).toArray⟩:=by
 show (⟨a.toArray++b.toArray⟩:Str)=_
 simp
theorem str_lit (x:Str):x=⟨x.cps.toList.toArray⟩:=by cases x; simp
theorem Y2 (x:Str):x.length=x.cps.toList.length:=by show x.cps.size=_; simp
theorem Zdg {α:Type} {xs:List α} {j:Int} (h0:0≤j) (h1:j≤xs.length):cut xs none (some j)=xs.take j.toNat:=by
 unfold cut HT.sIx
 dsimp only
 rw [if_neg (by omega),Nat.min_eq_left (by omega)]
 simp
theorem Zav {α:Type} {xs:List α} {j:Int} (h0:0≤j) (h1:j≤xs.length):cut xs (some j) none=xs.drop j.toNat:=by
 unfold cut HT.sIx
 dsimp only
 rw [if_neg (by omega),Nat.min_eq_left (by omega),List.take_of_length_le (by simp)]
theorem intsD_at {lo:Int} {n i:Nat} {x:D} (h:(intsD lo n)[i]? = some x):x = .int (lo+i)∧i < n:=by
 unfold intsD at h
 rw [List.getElem?_map] at h
 cases e:(List.range n)[i]? with
 | none=>rw [e] at h; cases h
 | some j=>
  rw [e] at h
  obtain ⟨h1,h2⟩:=List.getElem?_eq_some_iff.mp e
  rw [List.getElem_range] at h2
  subst h2
  cases h
  exact ⟨rfl,by simpa using h1⟩
@[simp] theorem YM {lo:Int} {n:Nat}:(intsD lo n).length=n:=by unfold intsD; simp
theorem Zeq:∀ cs:List Nat,strsOf (cs.map fun c=>D.str ⟨#[c]⟩)=some (cs.map fun c=>⟨#[c]⟩)
 | []=>rfl
 | c :: cs=>by
  have ih:=Zeq cs
  simp only [List.map_cons,strsOf,ih,Option.map_some]
theorem ZaJ:∀ cs:List Nat,TL.joinL [] (cs.map fun c=>[c])=cs
 | []=>rfl
 | [c]=>rfl
 | c :: d :: cs=>by
  have ih:=ZaJ (d :: cs)
  show [c]++([]++TL.joinL [] ((d :: cs).map fun c=>[c]))=_
  rw [ih]; rfl
theorem ZbL {cs:List Nat} {S:Za} {E:XP} {Q:D→Za→Prop} (hl:cs.length≤100) (q:Q (.str ⟨cs.toArray⟩) S):Ev (joinD (.str "") [.lst (cs.map fun c=>D.str ⟨#[c]⟩)]) S E Q:=by
 have e:Txt.join ("" : Str) (cs.map fun c=>⟨#[c]⟩)=⟨cs.toArray⟩:=by
  have h:(Txt.join ("" : Str) (cs.map fun c=>(⟨#[c]⟩:Str))).cps.toList=cs:=by
   rw [TL.join_eq]
   refine (TL.tl_join _ _).trans ?_
   rw [List.map_map]
   exact ZaJ cs
  have h2:=congrArg List.toArray h
  rw [Array.toArray_toList] at h2
  exact congrArg Str.mk h2
 have hs:((cs.map fun c=>(⟨#[c]⟩:Str)).map (·.length)).sum+(cs.map fun c=>(⟨#[c]⟩:Str)).length * (("" : Str)).length≤16777216:=by
  have h1:((cs.map fun c=>(⟨#[c]⟩:Str)).map (·.length)).sum=cs.length:=by
   clear hl e q
   induction cs with
   | nil=>rfl
   | cons c cs ih=>simp only [List.map_cons,List.sum_cons,ih,List.length_cons]; show 1+_=_; omega
  rw [h1]
  show cs.length+_ * 0≤_
  omega
 unfold Ev joinD
 simp only [dr,Zeq]
 rw [if_pos hs,e]
 exact q
@[simp] theorem Q8:Z3 "NoneType" "bool" = some false:=by decide
@[simp] theorem Jn:Z3 "NoneType" "int" = some false:=by decide
@[simp] theorem Jo:Z3 "NoneType" "str" = some false:=by decide
@[simp] theorem Ja:Z3 "NoneType" "list" = some false:=by decide
@[simp] theorem Qx:Z3 "NoneType" "tuple" = some false:=by decide
@[simp] theorem Q9:Z3 "NoneType" "dict" = some false:=by decide
@[simp] theorem GM:Z3 "bool" "bool" = some true:=by decide
@[simp] theorem ZaK:Z3 "bool" "int" = some true:=by decide
@[simp] theorem ZaL:Z3 "bool" "str" = some false:=by decide
@[simp] theorem GO:Z3 "bool" "list" = some false:=by decide
@[simp] theorem KM:Z3 "bool" "tuple" = some false:=by decide
@[simp] theorem GN:Z3 "bool" "dict" = some false:=by decide
@[simp] theorem ZaO:Z3 "int" "bool" = some false:=by decide
@[simp] theorem ZbM:Z3 "int" "int" = some true:=by decide
@[simp] theorem ZbN:Z3 "int" "str" = some false:=by decide
@[simp] theorem ZaQ:Z3 "int" "list" = some false:=by decide
@[simp] theorem GU:Z3 "int" "tuple" = some false:=by decide
@[simp] theorem ZaP:Z3 "int" "dict" = some false:=by decide
@[simp] theorem ZaT:Z3 "str" "bool" = some false:=by decide
@[simp] theorem ZbO:Z3 "str" "int" = some false:=by decide
@[simp] theorem ZbP:Z3 "str" "str" = some true:=by decide
@[simp] theorem ZaV:Z3 "str" "list" = some false:=by decide
@[simp] theorem GZ:Z3 "str" "tuple" = some false:=by decide
@[simp] theorem ZaU:Z3 "str" "dict" = some false:=by decide
@[simp] theorem GV:Z3 "list" "bool" = some false:=by decide
@[simp] theorem ZaR:Z3 "list" "int" = some false:=by decide
@[simp] theorem ZaS:Z3 "list" "str" = some false:=by decide
@[simp] theorem GX:Z3 "list" "list" = some true:=by decide
@[simp] theorem KO:Z3 "list" "tuple" = some false:=by decide
@[simp] theorem GW:Z3 "list" "dict" = some false:=by decide
@[simp] theorem KP:Z3 "tuple" "bool" = some false:=by decide
@[simp] theorem G0:Z3 "tuple" "int" = some false:=by decide
@[simp] theorem G3:Z3 "tuple" "str" = some false:=by decide
@[simp] theorem KR:Z3 "tuple" "list" = some false:=by decide
@[simp] theorem J3:Z3 "tuple" "tuple" = some true:=by decide
@[simp] theorem KQ:Z3 "tuple" "dict" = some false:=by decide
@[simp] theorem GP:Z3 "dict" "bool" = some false:=by decide
@[simp] theorem ZaM:Z3 "dict" "int" = some false:=by decide
@[simp] theorem ZaN:Z3 "dict" "str" = some false:=by decide
@[simp] theorem GT:Z3 "dict" "list" = some false:=by decide
@[simp] theorem KN:Z3 "dict" "tuple" = some false:=by decide
@[simp] theorem GQ:Z3 "dict" "dict" = some true:=by decide
@[simp] theorem Zhx {x:D} {n:String}:Ev (isiD [x,.ty n]) S E Q = ∃ t,tyNm (dr S x)=some t∧∃ b,Z3 t n=some b∧Q (.bl b) S:=by
 unfold Ev isiD
 cases h:tyNm (dr S x) with
 | none=>simp [h]
 | some t=>
  simp only [h]
  cases h2:Z3 t n with
  | none=>simp [h2]
  | some b=>cases b <;> simp [h2]
theorem Ug:∀ bs:List Bool,blsOf (bs.map D.bl)=some bs
 | []=>rfl
 | b :: bs=>by simp only [List.map_cons,blsOf,Ug bs,Option.map_some]
theorem Zdn {f:List Bool→Bool} {bs:List Bool}:Ev (overBls f [.lst (bs.map D.bl)]) S E Q=Q (.bl (f bs)) S:=by
 unfold Ev overBls
 simp only [dr,Ug]
theorem JL {bs:List Bool}:Ev (allD [.lst (bs.map D.bl)]) S E Q=Q (.bl (bs.all id)) S:=Zdn
theorem ZbC {C:Str} {n:Nat} {f:List D→M D} {ds:List D}:Ev (makeD C n f ds) S E Q=(ds.length+1=n∧Ev (f (.cel S.length :: ds)) (S++[.ins C []]) E fun r S'=>r = .non∧Q (.cel S.length) S'):=by
 unfold Ev makeD
 by_cases h:ds.length+1=n
 ·rw [if_pos h]
  cases e:f (.cel S.length :: ds) (S++[.ins C []]) with
  | ok d S'=>cases d <;> simp [h,e]
  | err C2 fs S'=>simp [h,e]
  | bad=>simp [h,e]
 ·rw [if_neg h]; simp [h]
@[simp] theorem Zgl {Cs:List Str} {f:Str} {n:Nat} {y:D} {PU:Unit→Za→Prop}:Ev (setFD Cs f (.cel n) y) S E PU = ∃ C fs,S[n]? = some (.ins C fs)∧(C ∈ Cs∧fs.length < 1000)∧PU () (S.set n (.ins C (putFD f y fs))):=by
 unfold Ev setFD
 cases e:S[n]? with
 | none=>simp only [e]; simp
 | some c=>
  cases c with
  | ins C fs=>
   by_cases h:C ∈ Cs∧fs.length < 1000
   ·simp only [e,if_pos h]
    exact propext ⟨fun q=>⟨C,fs,rfl,h,q⟩,fun ⟨C',fs',e',h',q⟩=>by cases e'; exact q⟩
   ·simp only [e,if_neg h]
    exact propext ⟨fun q=>q.elim,fun ⟨C',fs',e',h',q⟩=>by cases e'; exact absurd h' h⟩
  | _=>simp only [e]; simp
@[simp] theorem Zgy {Cs:List Str} {f:Str} {o v:EM}:EvR (sFldD Cs f o v τ S) ER PR=Ev (v τ) S (fun C fs S'=>ER C fs τ S') fun y S1=>Ev (o τ) S1 (fun C fs S'=>ER C fs τ S') fun x S2=>Ev (setFD Cs f x y) S2 (fun C fs S'=>ER C fs τ S') fun _ S3=>PR (.nx τ) S3:=by
 unfold sFldD; simp only [Yn,Ze,X0]
@[simp] theorem Zgv {i:Nat} {f:D→D→M D} {m:EM}:EvR (sAug i f m τ S) ER PR=ZfA τ[i]? S fun x S0=>Ev (m τ) S0 (fun C fs S'=>ER C fs τ S') fun y S1=>Ev (f x y) S1 (fun C fs S'=>ER C fs τ S') fun d S2=>PR (.nx (τ.set i (some d))) S2:=by
 unfold sAug; simp only [Yn,Ze,X0,XZ]
@[simp] theorem Zfc {i j:Nat} {m:EM}:EvR (sAsg2 i j m τ S) ER PR=Ev (m τ) S (fun C fs S'=>ER C fs τ S') fun d S2=>PR (.nx ((τ.set i (some d)).set j (some d))) S2:=by
 unfold sAsg2; simp only [Yn,X0]
def tryP (hit:Str→Option Bool) (i:Nat) (ms:Str→List (Str × D)→Nat→SM) (ER:Str→List (Str × D)→DSt→Za→Prop) (PR:Flow→Za→Prop):Str→List (Str × D)→DSt→Za→Prop:=fun C fs τ S=>match hit C with
 | some true=>EvR (clr i (ms C fs S.length (τ.set i (some (.cel S.length))) (S++[.dead]))) ER PR
 | some false=>ER C fs τ S
 | none=>False
@[simp] theorem ZgE {mb:SM} {hit:Str→Option Bool} {i:Nat} {ms:Str→List (Str × D)→Nat→SM}:EvR (sTry mb hit i ms τ S) ER PR=EvR (mb τ S) (tryP hit i ms ER PR) PR:=by
 unfold sTry
 cases e:mb τ S with
 | ok f S'=>cases f <;> rfl
 | bad=>rfl
 | err C fs τ' S'=>
  show EvR (match hit C with
   | some true=>clr i (ms C fs S'.length (τ'.set i (some (.cel S'.length))) (S'++[.dead]))
   | some false=>.err C fs τ' S'
   | none=>.bad) ER PR=tryP hit i ms ER PR C fs τ' S'
  unfold tryP
  cases hit C with
  | none=>rfl
  | some b=>cases b <;> rfl
def clrF (i:Nat):Flow→Flow
 | .nx τ=>.nx (τ.set i none)
 | .bk τ=>.bk (τ.set i none)
 | .ct τ=>.ct (τ.set i none)
 | .rt d=>.rt d
@[simp] theorem ZfM {i:Nat} {d:D}:clrF i (.rt d) = .rt d:=rfl
@[simp] theorem ZfL {i:Nat}:clrF i (.nx τ) = .nx (τ.set i none):=rfl
@[simp] theorem Zgw {i:Nat} {r:SRes}:EvR (clr i r) ER PR=EvR r (fun _ _ _ _=>False) fun f S'=>PR (clrF i f) S':=by
 cases r with
 | ok f S'=>cases f <;> rfl
 | err C fs τ S'=>rfl
 | bad=>rfl
@[simp] theorem Zhq {nm C:Str} {k:Nat} {f fl:Str} {d:D} {m:EM}:Ev (mExf nm C [(f,d)] k fl m τ) S E Q=Ev (m τ) S E fun x S1=>(x = .cel k∧f=fl∧C=nm)∧Q d S1:=by
 unfold mExf
 rw [Ze]
 congr 1; funext x S1
 unfold Ev ZhR
 cases x with
 | cel j=>
  by_cases h:j=k∧f=fl∧C=nm
  ·simp only [if_pos h]; obtain ⟨rfl,rfl,rfl⟩:=h; simp
  ·simp only [if_neg h]
   exact propext ⟨fun q=>q.elim,fun ⟨z,_⟩=>absurd ⟨by injection z.1,z.2⟩ h⟩
 | _=>simp
@[simp] theorem Zhr {nm C:Str} {k:Nat} {f:Str} {d:D} {b:Bool} {m:EM}:Ev (mExi nm C [(f,d)] k b m τ) S E Q=Ev (m τ) S E fun x S1=>(x = .cel k∧C=nm)∧Q (.bl b) S1:=by
 unfold mExi
 rw [Ze]
 congr 1; funext x S1
 unfold Ev ZhS
 cases x with
 | cel j=>
  by_cases h:j=k∧C=nm
  ·simp only [if_pos h]; obtain ⟨rfl,rfl⟩:=h; simp
  ·simp only [if_neg h]
   exact propext ⟨fun q=>q.elim,fun ⟨z,_⟩=>absurd ⟨by injection z.1,z.2⟩ h⟩
 | _=>simp
theorem WH {neg:Bool} {x y:D} {a b:PyData} (hx:pyD S x=some a) (hy:pyD S y=some b):Ev (eqvD neg x y) S E Q=Q (.bl (if neg then !PyData.eqv a b else PyData.eqv a b)) S:=by
 unfold Ev eqvD
 simp only [hx,hy]
@[simp] theorem ZaB {neg:Bool} {i j:Int}:Ev (eqvD neg (.int i) (.int j)) S E Q=Q (.bl (if neg then !(i == j) else i == j)) S:=by rw [WH (a:=.int i) (b:=.int j) rfl rfl]; rfl
@[simp] theorem Vk {neg:Bool} {i j:Str}:Ev (eqvD neg (.str i) (.str j)) S E Q=Q (.bl (if neg then !(i == j) else i == j)) S:=by rw [WH (a:=.str i) (b:=.str j) rfl rfl]; rfl
@[simp] theorem Zhp {neg:Bool} {i j:Bool}:Ev (eqvD neg (.bl i) (.bl j)) S E Q=Q (.bl (if neg then !(i == j) else i == j)) S:=by rw [WH (a:=.bool i) (b:=.bool j) rfl rfl]; rfl
@[simp] theorem Zhw {neg:Bool} {i j:Bool}:Ev (isD neg (.bl i) (.bl j)) S E Q=Q (.bl (if neg then !decide (i=j) else decide (i=j))) S:=rfl
end
end ND
namespace L2
open PySem
end L2
namespace ND
open PySem L2
section
variable {S:Za} {C:Str}
def ZnB (C:Str) (f:List D→M D) (x:D) (ds:List D):M D:=fun S=>match dr S x with
 | .obj C' _=>if C'=C then noErr (f (x :: ds)) S else .bad
 | _=>.bad
def lenOf (d:D):M D:=match d with
 | .int n=>M.chk (okP (0≤n∧n < 2 ^ 63)) (pure (.int n))
 | _=>M.no
def truOf (d:D):M Bool:=lenOf d >>= fun d=>match d with
 | .int n=>pure (n != 0)
 | _=>M.no
def truOD (C:Str) (f:List D→M D) (x:D):M Bool:=ZnB C f x [] >>= truOf
def boolOD (C:Str) (f:List D→M D) (ds:List D):M D:=match ds with
 | [x]=>truOD C f x >>= fun b=>pure (.bl b)
 | _=>M.no
def mTruO (C:Str) (f:List D→M D) (m:EM):TM:=fun τ=>m τ >>= truOD C f
end
end ND
namespace ND
open PySem L2 RZ
section
variable {g:G} {S:Za} {b:Expr} {m:EM} {ms:AM}
def ZnF:D→Option Bool
 | .non=>some false
 | .bl b=>some b
 | .int i=>some (i != 0)
 | .str x=>some ((x.length:Int) != 0)
 | .lst xs=>some (!xs.isEmpty)
 | .rol xs=>some (!xs.isEmpty)
 | .tup xs=>some (!xs.isEmpty)
 | .dct kvs=>some (!kvs.isEmpty)
 | _=>none
def truD (x:D):M Bool:=fun S=>match ZnF (dr S x) with
 | some b=>.ok b S
 | none=>.bad
def mTru (m:EM):TM:=fun τ=>m τ >>= truD
abbrev Wj:D→D→D:=fun x y=>.tpo [x,y]
theorem ZeF {xs ys:List D} {i:Nat} {d:D} (h:(List.zipWith Wj xs ys)[i]? = some d):∃ x y,xs[i]? = some x∧ys[i]? = some y∧d = .tpo [x,y]:=by
 rw [List.getElem?_zipWith] at h
 cases q1:xs[i]? with
 | none=>rw [q1] at h; cases h
 | some x=>
  cases q2:ys[i]? with
  | none=>rw [q1,q2] at h; cases h
  | some y=>rw [q1,q2] at h; cases h; exact ⟨x,y,rfl,rfl,rfl⟩
theorem QJ {c':List Addr} {S':Za} {H':Hp} {T:Addr} {x y:V} {dx dy:D} (r:Rep g c' S' H') (free:H' T=none) (hx:Val g (frz g c' S' H') c' x dx) (hy:Val g (frz g c' S' H') c' y dy) :
  Fut g c' S' H' c' S' (upd H' T (.tup [x,y]))∧Val g (frz g c' S' (upd H' T (.tup [x,y]))) c' (.ref T) (.tpo [dx,dy]):=by
 have f:=Fut.new (o:=.tup [x,y]) r free
 exact ⟨f,.tpo (.inl (.inl (Fut.frz_new r free))) (.cons (f.val hx) (.cons (f.val hy) .nil))⟩
def zipD (ds:List D):M (List D):=match ds with
 | [.tup xs,.tup ys]=>pure (List.zipWith Wj xs ys)
 | [.lst xs,.lst ys]=>pure (List.zipWith Wj xs ys)
 | _=>M.no
def mZip (ms:AM):IM:=fun τ=>ms τ >>= zipD
end
end ND
namespace ND
open PySem L2
section
variable {g:G} {c:List Addr} {S:Za}
def dictOf (S:Za) (x:D):Option (List (Key × D)):=match x with
 | .tup xs=>(pairsD xs).map (mergeD [])
 | .lst xs=>(pairsD xs).map (mergeD [])
 | x=>(match dr S x with
  | .dct kvs=>some kvs
  | .rdc kvs=>some kvs
  | _=>none)
def Zaw (ds:List D):M D:=fun S=>match ds with
 | [x]=>(match dictOf S x with
  | some kvs=>.ok (.dct kvs) S
  | none=>.bad)
 | _=>.bad
def Zbr (ds:List D):M D:=fun S=>match ds with
 | [x]=>(match dictOf S x with
  | some kvs=>newCell (.dct kvs) S
  | none=>.bad)
 | _=>.bad
def reverseD (x:D) (ds:List D):M D:=fun S=>match x,ds with
 | .cel n,[]=>(match S[n]? with
  | some (.lst xs)=>.ok .non (S.set n (.lst xs.reverse))
  | _=>.bad)
 | _,_=>.bad
theorem Vls.erase {F:Hp}:∀ {vs:List V} {xs:List D} (n:Nat),Vls g F c vs xs→Vls g F c (vs.eraseIdx n) (xs.eraseIdx n)
 | _,_,_,.nil=>.nil
 | _,_,0,.cons _ t=>t
 | _,_,n+1,.cons h t=>.cons h (Vls.erase n t)
end
end ND
namespace L2
open PySem
end L2
namespace ND
open PySem L2
def insU (k:Int):List Int→List Int
 | []=>[k]
 | x :: xs=>if k < x then k :: x :: xs else if k=x then x :: xs else x :: insU k xs
def sortU:List Int→List Int
 | []=>[]
 | k :: ks=>insU k (sortU ks)
theorem VQ {k x:Int}:∀ {l:List Int},x ∈ insU k l↔x=k∨x ∈ l
 | []=>by simp [insU]
 | y :: l=>by
  unfold insU
  split
  ·simp
  ·split
   ·rename_i e; subst e; simp
   ·rw [List.mem_cons,VQ,List.mem_cons]
    exact ⟨fun h=>h.elim (fun e=>.inr (.inl e)) fun h=>h.elim .inl fun h=>.inr (.inr h),fun h=>h.elim (fun e=>.inr (.inl e)) fun h=>h.elim .inl fun h=>.inr (.inr h)⟩
theorem WL {k:Int}:∀ {l:List Int},l.Pairwise (· < ·)→(insU k l).Pairwise (· < ·)
 | [],_=>by simp [insU]
 | y :: l,h=>by
  obtain ⟨h1,h2⟩:=List.pairwise_cons.mp h
  unfold insU
  split
  ·rename_i lt
   exact List.pairwise_cons.mpr ⟨fun z hz=>(List.mem_cons.mp hz).elim (fun e=>e ▸ lt) fun hz=>Int.lt_trans lt (h1 z hz),h⟩
  ·split
   ·exact h
   ·refine List.pairwise_cons.mpr ⟨fun z hz=>?_,WL h2⟩
    rcases VQ.mp hz with e | hz
    ·omega
    ·exact h1 z hz
theorem YQ {x:Int}:∀ {l:List Int},x ∈ sortU l↔x ∈ l
 | []=>Iff.rfl
 | k :: l=>by rw [sortU,VQ,YQ,List.mem_cons]
theorem sortU_sorted:∀ (l:List Int),(sortU l).Pairwise (· < ·)
 | []=>.nil
 | _ :: l=>WL (sortU_sorted l)
theorem W3:∀ {l m:List Int},l.Pairwise (· < ·)→m.Pairwise (· < ·)→(∀ x,x ∈ l↔x ∈ m)→l=m
 | [],[],_,_,_=>rfl
 | [],y :: m,_,_,h=>absurd ((h y).mpr List.mem_cons_self) List.not_mem_nil
 | x :: l,[],_,_,h=>absurd ((h x).mp List.mem_cons_self) List.not_mem_nil
 | x :: l,y :: m,a,b,h=>by
  obtain ⟨a1,a2⟩:=List.pairwise_cons.mp a
  obtain ⟨b1,b2⟩:=List.pairwise_cons.mp b
  have e:x=y:=by
   have h1:x=y∨x ∈ m:=List.mem_cons.mp ((h x).mp List.mem_cons_self)
   have h2:y=x∨y ∈ l:=List.mem_cons.mp ((h y).mpr List.mem_cons_self)
   rcases h1 with h1 | h1
   ·exact h1
   ·rcases h2 with h2 | h2
    ·exact h2.symm
    ·have:=a1 y h2; have:=b1 x h1; omega
  subst e
  rw [W3 a2 b2 fun z=>⟨fun hz=>?_,fun hz=>?_⟩]
  ·rcases List.mem_cons.mp ((h z).mp (List.mem_cons_of_mem _ hz)) with e | k
   ·have:=a1 z hz; omega
   ·exact k
  ·rcases List.mem_cons.mp ((h z).mpr (List.mem_cons_of_mem _ hz)) with e | k
   ·have:=b1 z hz; omega
   ·exact k
def intsOf:List D→Option (List Int)
 | []=>some []
 | .int i :: r=>(intsOf r).map (i :: ·)
 | _ :: _=>none
section
variable {S:Za} {m:EM}
def sortSetD (x:D):M D:=fun S=>match dr S x with
 | .lst xs=>(match intsOf xs with
  | some ns=>if ns.length < 300∧(sortU ns).length < 63 then .ok (.lst ((sortU ns).map D.int)) S else .bad
  | none=>.bad)
 | _=>.bad
def mSortSet (m:EM):EM:=fun τ=>m τ >>= sortSetD
end
end ND
namespace L2
open PySem
end L2
namespace ND
open PySem L2
theorem VM:∀ {c:List Addr} {S:Za} {n:Nat} {a:Addr} {x y:Cell},c[n]? = some a→S[n]? = some y→y.alive=false→x.alive=true→(live c (S.set n x)).Perm (a :: live c S)
 | [],_,_,_,_,_,h,_,_,_=>by simp at h
 | _ :: _,[],_,_,_,_,_,h,_,_=>by simp at h
 | b :: c,z :: S,0,a,x,y,h1,h2,h3,h4=>by
  simp at h1 h2
  subst h1 h2
  rw [List.set_cons_zero,live,live,if_pos h4,if_neg (by rw [h3]; exact Bool.false_ne_true)]
 | b :: c,z :: S,n+1,a,x,y,h1,h2,h3,h4=>by
  have ih:=VM (c:=c) (S:=S) (n:=n) (x:=x) (by simpa using h1) (by simpa using h2) h3 h4
  rw [List.set_cons_succ,live,live]
  split
  ·exact (ih.cons b).trans (List.Perm.swap a b _)
  ·exact ih
section
variable {g:G} {c:List Addr} {S:Za} {H:Hp} {n:Nat} {a:Addr}
theorem Rep.take {x:Cell} (r:Rep g c S H) (ha:c[n]? = some a) (hs:S[n]? = some x) (hx:x.alive=true) (nt:∀ q,x ≠ .tbl q:=by intro _ z; cases z):Rep (g.hide a) c (S.set n .dead) H∧frz (g.hide a) c (S.set n .dead) H=frz g c S H:=by
 have hl:n < S.length:=(List.getElem?_eq_some_iff.mp hs).1
 have inA:=mem_live ha hs hx
 have back:((S.set n .dead).set n x)=S:=by
  rw [List.set_set]
  apply List.ext_getElem?
  intro i
  by_cases e:i=n
  ·subst e; rw [List.getElem?_set_self hl,hs]
  ·rw [List.getElem?_set_ne (Ne.symm e)]
 have perm:(live c S).Perm (a :: live c (S.set n .dead)):=by
  have:=VM (c:=c) (S:=S.set n .dead) (n:=n) (a:=a) (x:=x) (y:=.dead) ha (List.getElem?_set_self hl) rfl hx
  rwa [back] at this
 have nd:=(perm.nodup_iff.mp r.nd)
 obtain ⟨off,nd'⟩:=List.nodup_cons.mp nd
 have ef:frz (g.hide a) c (S.set n .dead) H=frz g c S H:=by
  funext b
  by_cases q1:b=a
  ·subst q1; rw [ZJ (show b ∈ b :: g.hid from List.mem_cons_self),ZM inA]
  ·by_cases q2:b ∈ live c S
   ·have q3:b ∈ live c (S.set n .dead):=(List.mem_cons.mp (perm.mem_iff.mp q2)).resolve_left q1
    rw [ZM q2,ZM q3]
   ·have q3:b ∉ live c (S.set n .dead):=fun z=>q2 (perm.mem_iff.mpr (List.mem_cons_of_mem _ z))
    by_cases q4:b ∈ g.hid
    ·rw [ZJ q4,ZJ (show b ∈ a :: g.hid from List.mem_cons_of_mem _ q4)]
    ·rw [frz_in q2 q4,frz_in q3 (show b ∉ a :: g.hid from fun z=>(List.mem_cons.mp z).elim q1 q4)]
 refine ⟨⟨by rw [List.length_set]; exact r.len,nd',fun b hb z=>?_,fun b hb=>?_,fun q e=>by rw [ef]; exact (r.cu q e).same (Zu.hide g a),fun p hp=>QS hs nt (r.tb p hp),fun m b y h1 h2=>?_⟩,ef⟩
 ·rcases List.mem_cons.mp (show b ∈ a :: g.hid from z) with e | z
  ·subst e; exact off hb
  ·exact r.hl b (perm.mem_iff.mpr (List.mem_cons_of_mem _ hb)) z
 ·rcases List.mem_cons.mp (show b ∈ a :: g.hid from hb) with e | z
  ·subst e; exact Yr r inA
  ·exact r.hs b z
 ·rw [ef]
  by_cases e:m=n
  ·subst e
   rw [List.getElem?_set_self hl] at h2; cases h2
   trivial
  ·rw [List.getElem?_set_ne (Ne.symm e)] at h2
   exact (r.ok m b y h1 h2).same (Zu.hide g a)
theorem Rep.give {x:Cell} (r:Rep (g.hide a) c S H) (na:a ∉ g.hid) (ha:c[n]? = some a) (hs:S[n]? = some .dead) (hx:x.alive=true) (ok:Ya (g.hide a) (frz (g.hide a) c S H) c H a x):Rep g c (S.set n x) H∧frz g c (S.set n x) H=frz (g.hide a) c S H:=by
 have hl:n < S.length:=(List.getElem?_eq_some_iff.mp hs).1
 have hm:a ∈ (g.hide a).hid:=List.mem_cons_self
 have off:a ∉ live c S:=fun z=>r.hl a z hm
 have perm:=VM (c:=c) (S:=S) (n:=n) (x:=x) ha hs rfl hx
 have same:=(Zu.hide g a).symm
 have ef:frz g c (S.set n x) H=frz (g.hide a) c S H:=by
  funext b
  by_cases q1:b=a
  ·subst q1; rw [ZJ hm,ZM (perm.mem_iff.mpr List.mem_cons_self)]
  ·by_cases q2:b ∈ live c S
   ·rw [ZM q2,ZM (perm.mem_iff.mpr (List.mem_cons_of_mem _ q2))]
   ·have q3:b ∉ live c (S.set n x):=fun z=>(List.mem_cons.mp (perm.mem_iff.mp z)).elim q1 q2
    by_cases q4:b ∈ g.hid
    ·rw [ZJ q4,ZJ (show b ∈ a :: g.hid from List.mem_cons_of_mem _ q4)]
    ·rw [frz_in q3 q4,frz_in q2 (show b ∉ a :: g.hid from fun z=>(List.mem_cons.mp z).elim q1 q4)]
 refine ⟨⟨by rw [List.length_set]; exact r.len,perm.nodup_iff.mpr (List.nodup_cons.mpr ⟨off,r.nd⟩),fun b hb z=>?_,fun b hb=>r.hs b (show b ∈ a :: g.hid from List.mem_cons_of_mem _ hb),fun q e=>by rw [ef]; exact (r.cu q e).same same,fun p hp=>QS hs (fun q z=>by cases z) (r.tb p hp),fun m b y h1 h2=>?_⟩,ef⟩
 ·rcases List.mem_cons.mp (perm.mem_iff.mp hb) with e | k
  ·subst e; exact na z
  ·exact r.hl b k (show b ∈ a :: g.hid from List.mem_cons_of_mem _ z)
 ·rw [ef]
  by_cases e:m=n
  ·subst e
   rw [List.getElem?_set_self hl] at h2; cases h2
   rw [ha] at h1; cases h1
   exact ok.same same
  ·rw [List.getElem?_set_ne (Ne.symm e)] at h2
   exact (r.ok m b y h1 h2).same same
theorem Walks.held {vs:List V} {xs:List D} (hid:a ∈ g.hid) (h:H a=some (.lst vs)) (l:Vls g (frz g c S H) c vs xs):Walks g c S H (Itl g.K a) xs where
 go:=fun i g' c' S' H' f hi=>⟨vs,vs[i]'(by rw [l.length]; exact hi),SqL.of ((f.hid a hid).trans h),by simp⟩
 yld:=fun i g' c' S' H' v H2 f ⟨e,y⟩ d hd=>by
  subst e
  have hv:=y vs (SqL.of ((f.hid a hid).trans h))
  obtain ⟨w,hw,vw⟩:=l.get hd
  cases hv.symm.trans hw
  exact ⟨Fut.refl f.rep,(vw.mono f.ex f.pre).same f.same⟩
 stop:=fun i g' c' S' H' f hi=>⟨vs,SqL.of ((f.hid a hid).trans h),by rw [l.length]; exact hi⟩
end
def compW (x:D) (k:List D→M (List D)):M D:=fun S=>match x with
 | .cel n=>(match S[n]? with
  | some (.lst xs)=>(match k xs (S.set n .dead) with
   | .ok ys S'=>(match S'[n]? with
    | some .dead=>.ok (.lst ys) (S'.set n (.lst xs))
    | _=>.bad)
   | _=>.bad)
  | _=>.bad)
 | _=>.bad
def mCompW (m:EM) (vs:List Nat) (t:Tg) (tt:TM) (te:EM):EM:=fun τ=>m τ >>= fun x=>compW x fun xs=>noErr (compL t tt te (wipeD τ vs) xs [])
section
variable {X:Cx} {W:WX} {cur:Cur} {hid:List Addr} {elt tg iter:Expr} {ifs:List Expr} {scope:Scope} {own:List (Str × Nat)} {pos:Pos} {m:EM} {t:Tg} {tt:TM} {te:EM}
theorem d_compW (hc:X.calm=true) (hN:X.N.Nodup) (hi:PE X iter (tE (gx X cur hid) W m)) (ok:BlkOk X.N X.env.scope scope own)
  (hg:∀ (s:Shared) (H:Hp) (C:Addr) (cl:List (Str × Addr)) (fp:List Addr),PG (X.blk s H scope (compEnvC scope cl C X.env) fp) tg (t.rd X.K))
  (hts:∀ (s:Shared) (H:Hp) (C:Addr) (cl:List (Str × Addr)) (fp:List Addr) (hd:List Addr),PTs (X.blk s H scope (compEnvC scope cl C X.env) fp) ifs (tT (gx X cur hd) WF tt))
  (he:∀ (s:Shared) (H:Hp) (C:Addr) (cl:List (Str × Addr)) (fp:List Addr) (hd:List Addr),PE (X.blk s H scope (compEnvC scope cl C X.env) fp) elt (tE (gx X cur hd) WF te))
  (hsl:∀ i ∈ t.slots,i ∈ own.map (·.2)) (hs:∀ x,foldedSetIterable iter X.env x=pure x:=by intro _; rfl) :
  PE X (.ListComp elt [⟨tg,iter,ifs,0⟩] scope pos) (tE (gx X cur hid) W (mCompW m (own.map (·.2)) t tt te)):=
 PE.imp (pe_lc hc hN (pi_list hi) ok hg (fun s H C cl fp=>Kf (hts s H C cl fp)) (fun s H C cl fp=>pe_ex (he s H C cl fp)) hs) fun σ H Q h=>by
  obtain ⟨c,S,τ,r,s,o⟩:=h
  refine ⟨c,S,τ,r,s,(Out.bind o).imp fun d c1 S1 H1 f1 o1 v hv=>?_⟩
  unfold compW at o1
  split at o1
  ·rename_i n
   obtain ⟨a,rfl,ha⟩:=Xc hv
   split at o1
   ·rename_i xs hx
    obtain ⟨vs,hH,vl⟩:=f1.rep.ok n a _ ha hx
    split at o1
    ·rename_i ys S' hk
     split at o1
     ·rename_i hd
      have na:a ∉ hid:=f1.rep.hl a (mem_live ha hx rfl)
      obtain ⟨r2,ef⟩:=f1.rep.take ha hx rfl
      have s2:Sl (gx X cur (a :: hid)) (frz (gx X cur (a :: hid)) c1 (S1.set n .dead) H1) c1 σ τ:=by
       have:=(s.mono f1.ex f1.pre).same (Zu.hide (gx X cur hid) a)
       rw [← ef] at this
       exact this
      have vl2:Vls (gx X cur (a :: hid)) (frz (gx X cur (a :: hid)) c1 (S1.set n .dead) H1) c1 vs xs:=by
       have:=vl.same (Zu.hide (gx X cur hid) a)
       rw [← ef] at this
       exact this
      refine ⟨a,rfl,⟨vs,SqL.of hH⟩,fun p hp=>?_⟩
      refine ZdS (hid:=a :: hid) (Qd:=fun p H=>Q (.ref p) H) (comp_core (g:=gx X cur (a :: hid)) (R:=fun ys0 _ S0 _=>ys0=ys∧S0=S') (E:=fun _ _ _=>False) (Qd:=fun p H=>Q (.ref p) H) r2 s2 (Walks.held (g:=gx X cur (a :: hid)) List.mem_cons_self hH vl2) hsl (by show Out _ _ _ _ _ _ ((fun xs=>noErr (compL t tt te (wipeD τ (List.map (fun x=>x.snd) own)) xs [])) xs (List.set S1 n Cell.dead)); rw [hk]; exact fun _ _ _=>⟨rfl,rfl⟩) (fun p ys0 us c' S0 H' hp hf hHp vlp hR=>?_) p hp) (Tg.rd_mono t)
      obtain ⟨rfl,rfl⟩:=hR H' c' hf.fut
      obtain ⟨r3,ex3,un⟩:=hf.l.rep.bare
      have npa:=not_hid r2 hp
      have vl3:Vls ((gx X cur hid).hide a) (frz ((gx X cur hid).hide a) c' S0 H') c' vs xs:=vl2.mono hf.fut.ex hf.fut.pre
      obtain ⟨r4,ef4⟩:=Rep.give (g:=gx X cur hid) (x:=.lst xs) r3 na (hf.fut.pre _ _ ha) hd rfl ⟨vs,(hf.hid a List.mem_cons_self).trans hH,vl3⟩
      have ex5:Ex (frz ((gx X cur hid).hide a) c1 (S1.set n .dead) H1) (frz ((gx X cur hid).hide a) c' S0 H'):=hf.fut.ex
      rw [ef,← ef4] at ex5
      have f:Fut (gx X cur hid) c1 S1 H1 c' (S0.set n (.lst xs)) H':=⟨hf.fut.pre,r4,ex5,fun b hb=>hf.hid b (List.mem_cons_of_mem _ hb)⟩
      refine o1 H' c' f _ (.lst (by rw [ef4]; exact (un npa).trans hHp) ?_)
      have:=((vlp.same (Zu.hide _ p).symm).mono ex3 (Pre.refl c')).same (Zu.hide (gx X cur hid) a).symm
      rw [ef4]
      exact this
     ·exact o1.elim
    ·exact o1.elim
   ·exact o1.elim
  ·exact o1.elim
end
end ND
namespace L2
open PySem PySem.Spec PyProof.Rows
end L2
namespace ND
open PySem L2
section
variable {ms:AM}
def enumL:Nat→List D→List D
 | _,[]=>[]
 | i,x :: xs=>.tpo [.int (i:Int),x] :: enumL (i+1) xs
def enumD (ds:List D):M (List D):=match ds with
 | [.tup xs]=>pure (enumL 0 xs)
 | _=>M.no
def mEnum (ms:AM):IM:=fun τ=>ms τ >>= enumD
end
end ND
namespace L2
open PySem
def rReprG (K:PySem.W.Frag):List V→Hp→VK→Prop:=fun xs G Q=>∃ x d,xs=[x]∧Dp K G x d∧d.showable=true∧d.hasDict=false∧d.depth≤64∧d.shown.length≤sizeLine∧Q (.str d.shown) G
theorem call_reprG {X:Cx} {k:Nat} (room:RoomG k X.A):CallR X (.builtin "repr") (rReprG X.K):=fun ps sh st G xs us Q inv rel ⟨x,d,ex,dp,able,nod,dep,few,q⟩=>by
 subst ex
 obtain ⟨u,rfl,isX⟩:=vals1 rel
 obtain ⟨as,rd⟩:=Dp.reads inv d x u dp isX
 have un:=room.toRoom.un
 cases u with
 | ref a=>
  exact repr_of_reads' rd able (fun z=>by rw [nod] at z; cases z) room.gd (by omega) (fun _ _ e=>e) (fun h' t tk kp=>⟨.str d.shown,G,inv.kept (t':=tk) kp,⟨t,rfl⟩,q⟩) few
 | none=>cases rd; exact PySem.P.repr_of_none ⟨.str _,G,inv.tok _,⟨_,rfl⟩,q⟩
 | bool b=>cases rd; exact PySem.P.repr_of_bool ⟨.str _,G,inv.tok _,⟨_,rfl⟩,q⟩
 | int i t=>cases rd; exact PySem.P.repr_of_int (of_decide_eq_true able) ⟨.str _,G,inv.tok _,⟨_,rfl⟩,q⟩
 | str y t=>cases rd; exact PySem.P.repr_of_str ⟨.str _,G,inv.tok _,⟨_,rfl⟩,q⟩ few
 | _=>cases rd
end L2
namespace ND
open PySem L2
section
variable {g:G}
def Zd7 (z:PyData):Bool:=okP (z.showable=true∧z.hasDict=false∧z.depth≤64∧z.shown.length≤sizeLine∧SOk z.shown)
def Zaf (x:D):M D:=fun S=>match pyD S x with
 | some z=>if Zd7 z=true then .ok (.str z.shown) S else .bad
 | none=>.bad
def reprD (ds:List D):M D:=match ds with
 | [x]=>Zaf x
 | _=>M.no
theorem JD:CbD g (rReprG g.K) reprD:=by
 intro c S H vs ds Q E r hv o
 unfold reprD at o
 split at o
 ·rename_i x
  obtain ⟨v,rfl,hv1⟩:=UP hv
  unfold Zaf at o
  split at o
  ·rename_i z hz
   split at o
   ·rename_i hc
    obtain ⟨h1,h2,h3,h4,h5⟩:=okP_of hc
    exact ⟨v,z,rfl,(pyD_ok r hv1 hz).1,h1,h2,h3,h4,Zh r o (.str h5)⟩
   ·exact o.elim
  ·exact o.elim
 ·exact o.elim
theorem JA:bootBuiltins "repr" = some (.builtin "repr"):=by decide +kernel
end
end ND
namespace L2
open PySem PySem.Spec PyProof.Rows
end L2
namespace ND
open PySem L2
section
variable {mo:EM} {ms:AM}
def isTp (x:D):M Unit:=match x with
 | .tup _=>pure ()
 | _=>M.no
def mTupM (f:D→List D→M D) (mo:EM) (ms:AM):EM:=fun τ=>mo τ >>= fun x=>isTp x >>= fun _=>ms τ >>= fun xs=>f x xs
def idxS (z:Str):List Str→Nat→Option Nat
 | [],_=>none
 | y :: ys,j=>if y=z then some j else idxS z ys (j+1)
def Znz:Option D→M D
 | some d=>pure d
 | none=>M.no
def indexO (xs:List D) (z:Str):Option D:=(strsOf xs).bind fun ys=>(idxS z ys 0).map fun j=>.int (j:Nat)
def JY (x:D) (ds:List D):M D:=match x,ds with
 | .tup xs,[.str z]=>Znz (indexO xs z)
 | _,_=>M.no
end
end ND
namespace NDS
open PySem PyProof.Rows PpSet
section
inductive BlsAre:List Value→List Bool→Prop
 | nil:BlsAre [] []
 | cons (b:Bool) {vs:List Value} {bs:List Bool}:BlsAre vs bs→BlsAre (.bool b :: vs) (b :: bs)
theorem BlsAre.length:∀ {vs:List Value} {bs:List Bool},BlsAre vs bs→vs.length=bs.length
 | _,_,.nil=>rfl
 | _,_,.cons _ t=>by rw [List.length_cons,List.length_cons,t.length]
theorem BlsAre.at:∀ {vs:List Value} {bs:List Bool} {i:Nat} {v:Value},BlsAre vs bs→vs[i]? = some v→∃ b,bs[i]? = some b∧v = .bool b
 | _,_,_,_,.nil,h=>by simp at h
 | _,_,0,_,.cons b _,h=>by simp at h; exact ⟨b,rfl,h.symm⟩
 | _,_,i+1,v,.cons _ t,h=>by
  obtain ⟨b,h1,h2⟩:=t.at (i:=i) (v:=v) (by simpa using h)
  exact ⟨b,by simpa using h1,h2⟩
end
end NDS
namespace NDS
open PySem PySem.W PyProof.Rows PpSet
def waysOf (S:Bool→Bool):List Bool:=[false,true].filter S
end NDS
namespace L2
open PySem PpSet
end L2
namespace ND
open PySem L2 PpSet
section
variable {S:Za} {m:EM}
def sortSetBD (x:D):M D:=fun S=>match dr S x with
 | .lst xs=>(match blsOf xs with
  | some bs=>if bs.length≤1024 then .ok (.lst ((NDS.waysOf fun j=>decide (j ∈ bs)).map D.bl)) S else .bad
  | none=>.bad)
 | _=>.bad
def mSortSetB (m:EM):EM:=fun τ=>m τ >>= sortSetBD
end
end ND
namespace NDS
open PySem PySem.W PyProof.Rows
def sortBy {α:Type} (xs:List α) (ds:List PyData):List α:=((xs.zip ds).mergeSort (sortLe (listOrd itemOrd) false fun p=>keyToks p.2)).map (·.1)
def SortAble (ds:List PyData):Prop:=AllAlike ds∧(Sortable ds∨ds=[.tuple []])∧∀ d ∈ ds,d.depth≤64
end NDS
namespace L2
open PySem PySem.W
end L2
namespace ND
open PySem L2
section
variable {S:Za}
def revLD (x:D):M D:=fun S=>match dr S x with
 | .lst xs=>.ok (.lst xs.reverse) S
 | _=>.bad
end
end ND
namespace L2
open PySem
end L2
namespace ND
open PySem L2
end ND
namespace L2
open PySem PpSet
end L2
namespace ND
open PySem L2
section
variable {a b:Str}
def Zac (a b:Str) (d:D):M D:=match d with
 | .bl t=>pure (.str (if t=true then a else b))
 | _=>M.no
end
end ND
namespace L2
open PySem
end L2
namespace ND
open PySem L2
section
variable {X:Cx} {W:WX} {cur:Cur} {hid:List Addr} {e:Expr} {p:Pos}
theorem Wf {P:Program} {w:World} {K:PySem.W.Frag} {mg:Str→Option Value} {base:Heap} {k:Nat} {f:Addr} {fd:FuncData} {ps:List Str}:FnD P w K mg base k f fd ps (fun _=>M.no):=
 ⟨fun xs G Q E h=>(by obtain ⟨_,_,_,_,_,_,_,o⟩:=h; exact o.elim),fun A outer sh G args us xs Q E _ _ _ _ h=>(by obtain ⟨_,_,_,_,_,_,_,o⟩:=h; exact o.elim)⟩
def ZcH (K:PySem.W.Frag) (mg:Str→Option Value) (x:Str) (ys:List Str):Prop:=∃ (a:Addr) (o:Obj) (its:Array Value) (n:Nat),mg x=some (.ref a)∧K.lookup a=some o∧o.cls = .type "tuple" ∧ o.dict=none∧o.data = .seq its n∧its.size≤sizeLine∧Vals (ys.map V.str) its.toList
theorem d_globT {x:Str} {ys:List Str} (hg:Gl X x) (hm:ZcH X.K X.mg x ys) (ok:∀ y ∈ ys,SOk y) (hd:(x == ("__debug__" : Str))=false:=by decide):PE X (.Name x p) (tE (gx X cur hid) W (mC (.tup (ys.map D.str)))):=by
 obtain ⟨a,o,its,n,h1,h2,h3,h4,h5,h6,h7⟩:=hm
 refine PE.imp (pe_glob (v:=.ref a) hg h1 rfl hd) (tE_c fun F c=>.tup (vs:=ys.map V.str) (.inr ⟨o,its,n,h2,h3,h4,h5,h6,h7⟩) ?_)
 clear h1 h2 h3 h4 h5 h6 h7
 induction ys with
 | nil=>exact .nil
 | cons y ys ih=>exact .cons (.str (ok y List.mem_cons_self)) (ih fun z hz=>ok z (List.mem_cons_of_mem _ hz))
theorem strsB_ok:∀ {vs:List Value} {ys:List Str},Zak vs ys=true→Vals (ys.map V.str) vs
 | [],[],_=>.nil
 | v :: vs,[],h=>by cases v <;> cases h
 | [],_ :: _,h=>by cases h
 | v :: vs,y :: ys,h=>by
  cases v with
  | str x t=>
   have h:(decide (x=y) && Zak vs ys)=true:=h
   rw [Bool.and_eq_true,decide_eq_true_iff] at h
   obtain ⟨rfl,h2⟩:=h
   exact .cons ⟨t,rfl⟩ (strsB_ok h2)
  | _=>cases h
theorem VD {K:PySem.W.Frag} {mg:Str→Option Value} {x:Str} {a:Addr} {ys:List Str} (hm:mg x=some (.ref a)) (h:conTB K a ys=true):ZcH K mg x ys:=by
 unfold conTB at h
 split at h
 ·rename_i T its n sl e
  rw [Bool.and_eq_true,Bool.and_eq_true,decide_eq_true_iff,decide_eq_true_iff] at h
  obtain ⟨rfl,h2,h3⟩:=h
  exact ⟨a,_,its,n,hm,e,rfl,rfl,rfl,by rw [sizeLine_eq]; omega,strsB_ok h3⟩
 ·cases h
end
end ND
namespace NDS
open PySem PyProof.Rows
section
variable {prog:Program} {w:World} {A:Around}
theorem draw_t (calm:A.handled=none) (it t:Addr) (ne:t ≠ it) (its:Array Value) (i:Nat) {h:Heap} (h1:h.IsTupleIter it t i) (h2:h.IsTuple t its) :
  ∃ n St,Draws prog w A it [it,t] n (fun j v=>its[j]? = some v) St∧St i h∧i≤n∧(its.size≤i→i=n)∧(i < its.size→i < n)∧∀ j h',St j h'→h'.IsTupleIter it t j:=by
 by_cases c:i≤its.size
 ·exact ⟨_,_,Draws.tuple calm it t ne its,⟨h1,h2⟩,c,fun z=>by omega,fun z=>z,fun j h' st=>st.1⟩
 ·refine ⟨i,fun j h=>j=i∧h.IsTupleIter it t i∧h.IsTuple t its,⟨fun _ _ st=>let ⟨o,ho,_⟩:=st.2.1; ⟨o,ho⟩,fun _ _ _ st hk=>⟨st.1,st.2.1.at fun o e=>hk it (by simp) o e,st.2.2.at fun o e=>hk t (by simp) o e⟩,fun j s Q E hj st _=>absurd st.1 (Nat.ne_of_lt hj),fun s Q E st hE=>wpAny_nextOf_tuple_end calm st.2.1 st.2.2 (by simp; omega) hE⟩,⟨rfl,h1,h2⟩,Nat.le_refl _,fun _=>rfl,fun z=>by omega,fun j h' st=>st.1 ▸ st.2.1⟩
theorem draw_l (calm:A.handled=none) (it t:Addr) (ne:t ≠ it) (its:Array Value) (i:Nat) {h:Heap} (h1:h.IsListIter it t i) (h2:h.IsList t its) :
  ∃ n St,Draws prog w A it [it,t] n (fun j v=>its[j]? = some v) St∧St i h∧i≤n∧(its.size≤i→i=n)∧(i < its.size→i < n)∧∀ j h',St j h'→h'.IsListIter it t j:=by
 by_cases c:i≤its.size
 ·exact ⟨_,_,Draws.list calm it t ne its,⟨h1,h2⟩,c,fun z=>by omega,fun z=>z,fun j h' st=>st.1⟩
 ·refine ⟨i,fun j h=>j=i∧h.IsListIter it t i∧h.IsList t its,⟨fun _ _ st=>let ⟨o,ho,_⟩:=st.2.1; ⟨o,ho⟩,fun _ _ _ st hk=>⟨st.1,st.2.1.at fun o e=>hk it (by simp) o e,st.2.2.at fun o e=>hk t (by simp) o e⟩,fun j s Q E hj st _=>absurd st.1 (Nat.ne_of_lt hj),fun s Q E st hE=>wpAny_nextOf_list_end calm st.2.1 st.2.2 (by simp; omega) hE⟩,⟨rfl,h1,h2⟩,Nat.le_refl _,fun _=>rfl,fun z=>by omega,fun j h' st=>st.1 ▸ st.2.1⟩
end
end NDS
namespace L2
open PySem PySem.Spec PyProof.Rows
def ZfG (K:PySem.W.Frag) (a b:Addr):It where
 go:=fun i H=>∃ (xs ys:List V) (x y:V),SqT K H a xs∧SqL K H b ys∧xs[i]? = some x∧ys[i]? = some y
 yld:=fun i H v H'=>∃ T x y,v = .ref T∧H T=none∧H'=upd H T (.tup [x,y])∧(∀ xs,SqT K H a xs→xs[i]? = some x)∧∀ ys,SqL K H b ys→ys[i]? = some y
 stop:=fun i H=>∃ xs ys:List V,SqT K H a xs∧SqL K H b ys∧(xs.length≤i∨ys.length≤i)
theorem KB {P:Program} {w:World} {K:PySem.W.Frag} {elts:List Expr} {kk:Nat} {tpos:Pos} {a b z TI TO i1 i2:Addr} (D:ZipSep2 z TI TO i1 i2 [i1,a] [i2,b]) (na:a ≠ i1) (nb:b ≠ i2) :
  Turn P w K (.Tuple elts kk tpos) (ZfG K a b) [z,TI,TO,i1,i2] z (fun i h=>IsZip h z TI TO .none∧IsTupOf2 h TI (.ref i1) (.ref i2)∧(∃ x y,IsTupOf2 h TO x y)∧h.IsTupleIter i1 a i∧h.IsListIter i2 b i) where
 mem:=by simp
 obj:=fun i h ⟨hz,hTI,⟨x,y,hTO⟩,⟨o1,e1,_,d1⟩,⟨o2,e2,_,d2⟩⟩ c hc=>by
  rcases (by simpa using hc:c=z∨c=TI∨c=TO∨c=i1∨c=i2) with rfl | rfl | rfl | rfl | rfl
  ·exact ⟨_,hz,fun v q=>nomatch q⟩
  ·exact ⟨_,hTI,fun v q=>nomatch q⟩
  ·exact ⟨_,hTO,fun v q=>nomatch q⟩
  ·exact ⟨o1,e1,fun v q=>by rw [d1] at q; cases q⟩
  ·exact ⟨o2,e2,fun v q=>by rw [d2] at q; cases q⟩
 keep:=fun i h h' ⟨hz,hTI,⟨x,y,hTO⟩,h1,h2⟩ k=>⟨k z (by simp) _ hz,k TI (by simp) _ hTI,⟨x,y,k TO (by simp) _ hTO⟩,h1.at fun o q=>k i1 (by simp) o q,h2.at fun o q=>k i2 (by simp) o q⟩
 item:=by
  intro X eP ew eK calm i pins s σ H E I fp ⟨hz,hTI,⟨x0,y0,hTO⟩,h1,h2⟩ ⟨xs,ys,x,y,sx,sy,hx,hy⟩
  subst eP ew eK
  obtain ⟨its,rv,p,_⟩:=I.tuple sx
  obtain ⟨its2,rv2,p2,_⟩:=I.list sy
  obtain ⟨u,hu,ru⟩:=rv.get hx
  obtain ⟨u2,hu2,ru2⟩:=rv2.get hy
  have lz:z < s.heap.objs.size:=Heap.lt_size hz
  have c1:X.A.in1.handled=none:=I.ok.hd calm
  obtain ⟨n1,St1,D1,s1,le1,_,lt1,it1⟩:=NDS.draw_t (prog:=X.prog) (w:=X.w) c1 i1 a na its.toArray i h1 p
  obtain ⟨n2,St2,D2,s2,le2,_,lt2,it2⟩:=NDS.draw_l (prog:=X.prog) (w:=X.w) c1 i2 b nb its2.toArray i h2 p2.isList
  have k1:=(List.getElem?_eq_some_iff.mp hu).1
  have k2:=(List.getElem?_eq_some_iff.mp hu2).1
  refine wpAny_pyNext_zipD2_item D D1 D2 hz hTI hTO s1 s2 (lt1 (by simpa using k1)) (lt2 (by simpa using k2)) fun v1 v2 h' tk q1 q2 z' TO' st1 st2 hT sz kp=>?_
  have e1:v1=u:=by
   have q1':its[i]? = some v1:=by simpa using q1
   rw [hu] at q1'; exact (Option.some.inj q1').symm
  have e2:v2=u2:=by
   have q2':its2[i]? = some v2:=by simpa using q2
   rw [hu2] at q2'; exact (Option.some.inj q2').symm
  subst e1 e2
  refine ⟨_,rfl,wpAny_letOwnedTupleGo_zip (s:={ s with heap:=h',toks:=tk }) z' fun h'' z'' sb=>?_⟩
  have hT2:=(sb.2 _ (Nat.ne_of_gt lz)).trans hT
  have new:ObjOk X.prog X.w (upd H s.heap.objs.size (.tup [x,y])) h'' s.heap.objs.size (.tup [x,y]):=⟨by show 2≤sizeLine; decide,[_,_],.cons ru (.cons ru2 .nil),⟨_,hT2,rfl,_,rfl⟩⟩
  have I1:=I.turnedNew (t':=tk) (ch:=[z,TI,TO,i1,i2]) (fun c o hb q=>(sb.2 c (fun z=>hb (by simp [z]))).trans (kp c o (fun z=>hb (by simp [z])) (fun z=>hb (by simp [z])) (fun z=>hb (by simp [z])) (fun z=>hb (by simp [z])) q)) fp (Nat.le_refl _) new
  have nz1:i1 ≠ z:=fun e=>D.zf1 (by rw [← e]; exact D.mem1)
  have nz2:i2 ≠ z:=fun e=>D.zf2 (by rw [← e]; exact D.mem2)
  refine ⟨.ref s.heap.objs.size,_,I1,rfl,⟨_,x,y,rfl,I.hok.fresh (Nat.le_refl _),rfl,fun l hl=>by rw [I.tuple_inj hl sx]; exact hx,fun l hl=>by rw [I.list_inj hl sy]; exact hy⟩,⟨z'',(sb.2 _ D.TIz).trans (kp _ _ D.TIz D.TITO D.TIi1 D.TIi2 hTI),⟨_,_,(sb.2 _ D.TOz).trans TO'⟩,(it1 _ _ st1).at fun o q=>(sb.2 _ nz1).trans q,(it2 _ _ st2).at fun o q=>(sb.2 _ nz2).trans q⟩,fun c hcm=>?_⟩
  have hlt:c < s.heap.objs.size:=by
   rcases (by simpa using hcm:c=z∨c=TI∨c=TO∨c=i1∨c=i2) with rfl | rfl | rfl | rfl | rfl
   ·exact lz
   ·exact Heap.lt_size hTI
   ·exact Heap.lt_size hTO
   ·obtain ⟨_,q,_⟩:=h1; exact Heap.lt_size q
   ·obtain ⟨_,q,_⟩:=h2; exact Heap.lt_size q
  rw [upd_ne (Nat.ne_of_lt hlt)]
  exact (fp c hcm).1
 done:=by
  intro X eP ew eK calm i pins s σ H E I fp ⟨hz,hTI,⟨x0,y0,hTO⟩,h1,h2⟩ ⟨xs,ys,sx,sy,hend⟩
  subst eP ew eK
  obtain ⟨its,rv,p,_⟩:=I.tuple sx
  obtain ⟨its2,rv2,p2,_⟩:=I.list sy
  have l1:=rv.length
  have l2:=rv2.length
  have c1:X.A.in1.handled=none:=I.ok.hd calm
  obtain ⟨n1,St1,D1,s1,le1,eq1,_,it1⟩:=NDS.draw_t (prog:=X.prog) (w:=X.w) c1 i1 a na its.toArray i h1 p
  obtain ⟨n2,St2,D2,s2,le2,eq2,_,it2⟩:=NDS.draw_l (prog:=X.prog) (w:=X.w) c1 i2 b nb its2.toArray i h2 p2.isList
  have he:i=n1∨i=n2:=hend.imp (fun q=>eq1 (by simp; omega)) fun q=>eq2 (by simp; omega)
  exact wpAny_pyNext_zipD2_end D D1 D2 hz hTI hTO s1 s2 le1 le2 he fun h' tk kp=>⟨rfl,I.turnedL (t':=tk) (ch:=[z,TI,TO,i1,i2]) (fun c o hb q=>kp c o (fun z=>hb (by simp [z])) (fun z=>hb (by simp [z])) (fun z=>hb (by simp [z])) (fun z=>hb (by simp [z])) q) fp⟩
 self:=fun A i s Q E st h=>wpAny_pyIter_zip st.1 h
def iZipM (K:PySem.W.Frag) (ta:TA):TI:=fun σ H R=>ta σ H fun vs H1=>∃ a b xs ys,vs=[.ref a,.ref b]∧SqT K H1 a xs∧SqL K H1 b ys∧R (ZfG K a b) H1
theorem pi_zipM {X:Cx} {e e2:Expr} {ta:TA} {p pos tpos:Pos} {elts:List Expr} {kk:Nat} (hg:Gl X "zip") (hm:X.mg "zip" = none) (ha:PA X [e,e2] ta)
  (hs:starEach [e,e2] X.env=(false,eval e X.env) :: starEach [e2] X.env:=by rfl) (hpl:(backTo pos (starEach [e2] X.env)).any (·.1)=false:=by rfl) :
  PI X (.Tuple elts kk tpos) (.Call (.Name "zip" p) [e,e2] [] pos) (iZipM X.K ta) where
 run:=fun pins s σ H R I h=>Call_ (ld_blt I hg hm boot_zip (PyProof.Rows.callWith_type1 (thn (ha.run pos pins s σ H _ I h) fun us s1 ⟨vs,H1,I1,r1,a,b,xs,ys,ex,sx,sy,q⟩=>by
  subst ex
  cases r1 with
  | cons r rr=>
   cases rr with
   | cons r' rr=>
    cases rr
    cases r
    cases r'
    obtain ⟨its,rv,p1,_⟩:=I1.tuple sx
    obtain ⟨its2,rv2,p2,_⟩:=I1.list sy
    have la:a < s1.heap.objs.size:=by obtain ⟨_,q,_⟩:=p1; exact Heap.lt_size q
    have lb:b < s1.heap.objs.size:=p2.lt
    refine zip_begins2 (begins_tuple a its.toArray) (begins_list b its2.toArray) p1 p2.isList fun h' hz hTI hTO g1 g2 sz kp=>wpAny_pyIter_zip hz ?_
    refine ⟨s1.heap.objs.size+4,[s1.heap.objs.size+4,s1.heap.objs.size+2,s1.heap.objs.size+3,s1.heap.objs.size,s1.heap.objs.size+1],_,_,H1,rfl,I1.kept (t':=s1.toks) kp,KB (zip_sep2 (fp1:=[a]) (fp2:=[b]) (by simpa using la) (by simpa using lb)) (Nat.ne_of_lt la) (Nat.ne_of_lt (Nat.lt_succ_of_lt lb)),⟨hz,hTI,⟨_,_,hTO⟩,⟨_,g1,rfl,rfl⟩,⟨_,g2,rfl,rfl⟩⟩,fun c hc=>?_,q⟩
    have ge:s1.heap.objs.size≤c:=by
     rcases (by simpa using hc:c=s1.heap.objs.size+4∨c=s1.heap.objs.size+2∨c=s1.heap.objs.size+3∨c=s1.heap.objs.size∨c=s1.heap.objs.size+1) with rfl | rfl | rfl | rfl | rfl <;> first | exact Nat.le_refl _ | exact Nat.le_add_right _ _
    exact I1.fpOk ge (I1.hok.fresh ge)) hs hpl))
end L2
namespace ND
open PySem L2
section
variable {X:Cx} {g:G} {W:WX} {cur:Cur} {hid:List Addr} {c:List Addr} {S:Za} {H:Hp} {a b:Expr} {ms:AM} {p pos:Pos}
theorem Walks.zipM {p q:Addr} {vs ws:List V} {xs ys:List D} (h1:SqT g.K (frz g c S H) p vs) (l1:Vls g (frz g c S H) c vs xs) (h2:SqL g.K (frz g c S H) q ws) (l2:Vls g (frz g c S H) c ws ys):Walks g c S H (ZfG g.K p q) (List.zipWith Wj xs ys) where
 go:=fun i g' c' S' H' f hi=>by
  rw [List.length_zipWith,← l1.length,← l2.length] at hi
  exact ⟨vs,ws,vs[i]'(by omega),ws[i]'(by omega),Evl.ex_t frz_ex (Evl.ex_t f.ex h1),Evl.ex_l frz_ex (Evl.ex_l f.ex h2),by simp,by simp⟩
 yld:=fun i g' c' S' H' v H2 f ⟨T,x,y,ev,free,eH,y1,y2⟩ d hd=>by
  subst ev eH
  obtain ⟨dx,dy,e1,e2,rfl⟩:=ZeF hd
  obtain ⟨x',ex,vx⟩:=l1.get e1
  obtain ⟨y',ey,vy⟩:=l2.get e2
  cases ex.symm.trans (y1 vs (Evl.ex_t frz_ex (Evl.ex_t f.ex h1)))
  cases ey.symm.trans (y2 ws (Evl.ex_l frz_ex (Evl.ex_l f.ex h2)))
  exact QJ f.rep free ((vx.mono f.ex f.pre).same f.same) ((vy.mono f.ex f.pre).same f.same)
 stop:=fun i g' c' S' H' f hi=>by
  rw [List.length_zipWith,← l1.length,← l2.length] at hi
  exact ⟨vs,ws,Evl.ex_t frz_ex (Evl.ex_t f.ex h1),Evl.ex_l frz_ex (Evl.ex_l f.ex h2),by omega⟩
def zipMD (ds:List D):M (List D):=match ds with
 | [.tup xs,.lst ys]=>pure (List.zipWith Wj xs ys)
 | _=>M.no
def mZipM (ms:AM):IM:=fun τ=>ms τ >>= zipMD
theorem di_zipM {elts:List Expr} {kk:Nat} {tpos:Pos} (hg:Gl X "zip") (hm:X.mg "zip" = none) (ha:PA X [a,b] (tAr (gx X cur hid) W ms)) (hs:starEach [a,b] X.env=(false,eval a X.env) :: starEach [b] X.env:=by rfl) (hpl:(backTo pos (starEach [b] X.env)).any (·.1)=false:=by rfl) :
  PI X (.Tuple elts kk tpos) (.Call (.Name "zip" p) [a,b] [] pos) (tIt (gx X cur hid) W (mZipM ms)):=PI.imp (pi_zipM hg hm ha hs hpl) fun σ H R ⟨c,S,τ,r,s,o⟩=>⟨c,S,τ,r,s,(Out.bind o).imp fun ds c1 S1 H1 f1 o1 vs hvs=>by
 unfold zipMD at o1
 split at o1
 ·obtain ⟨v,w,rfl,hv,hw⟩:=ZfB hvs
  cases hv with
  | tup h1 l1=>
   cases hw with
   | lst h2 l2=>exact ⟨_,_,_,_,rfl,Evl.ex_t frz_ex h1.sq,Evl.ex_l frz_ex (.inl (.inl h2)),o1 H1 c1 (Fut.refl f1.rep) _ (Walks.zipM (g:=gx X cur hid) h1.sq l1 (.inl (.inl h2)) l2)⟩
 ·exact o1.elim⟩
end
end ND
namespace NDS
open PySem PySem.W PyProof.Rows
theorem star_tup {prog:Program} {w:World} {A:Around} {E:Value→Shared→Prop} {s:Shared} {l:Addr} {its:Array Value} {i:Nat} {Q:List Value→Shared→Prop} (ht:IsTup s.heap l its) (calm:A.handled=none) (hi:i≤its.size) (few:its.size≤16384)
  (want:∀ (h':Heap) (tk:Nat),(∀ b o,s.heap.get? b=some o→h'.get? b=some o)→Q (its.toList.take i++[.ref h'.objs.size]) { s with heap:=h'.push (seqObj "list" (its.toList.drop i).toArray 0),toks:=tk }) :
  wpAny (model prog w) A (unpackItems (.ref l) (i+1) (some i)) Q E s:=by
 have lt:l < s.heap.objs.size:=by obtain ⟨o,ho,_⟩:=ht; exact Heap.lt_size ho
 have ne:l ≠ s.heap.objs.size:=Nat.ne_of_lt lt
 unfold unpackItems notIterableAtAll
 refine wpAny_bind (wpAny_bind (wpAny_specialOf ht.typeIs slot_tuple_iter.lookup (wpAny_pure ?_)))
 rw [if_neg (by simp)]
 refine wpAny_bind (wpAny_holding (iter_tuple ht ?_))
 refine wpAny_bind (wpAny_holding (draw_tuple ne i 0 _ _ ⟨_,Heap.get?_push_size _ rfl,rfl,rfl⟩ (ht.push _) (by omega) fun h1 it1 sb1=>?_))
 have t1:IsTup h1 l its:=(ht.push _).extBut sb1.extBut ne
 rw [Nat.zero_add] at it1
 have ⟨oi,hoi,_⟩:=id it1
 have ⟨ol,hol,_⟩:=id t1
 have lf:(its.toList.take i).length=i:=by rw [List.length_take,Array.length_toList]; omega
 rw [List.drop_zero,if_neg (by rw [lf]; omega)]
 refine wpAny_bind (wpAny_holding (kun_collect (s:={ s with heap:=h1 }) (T := "tuple_iterator") (.inr (.inr (.inr rfl))) (Walks.tuple (A:=A.in1) calm s.heap.objs.size l ne its) (fun j u st=>st.1.typeIs) (k:=i) hi ⟨it1,t1⟩ (Heap.lt_size hoi) (Heap.lt_size hol) (fun h2 tk kp=>?_) (by rw [sizeLine_eq]; omega)))
 have kp2:∀ b o,s.heap.get? b=some o→h2.get? b=some o:=fun b o e=>kp b o (Nat.ne_of_lt (Heap.lt_size e)) (sb1.extBut b o (Nat.ne_of_lt (Heap.lt_size e)) (Heap.get?_push_of_some _ e))
 have e1:(its.toList.drop i).length - (i+1 - 1 - i)=(its.toList.drop i).length:=by omega
 show wpAny _ _ (if (its.toList.drop i).length < i+1 - 1 - i then _ else _) _ _ _
 rw [if_neg (by omega)]
 show wpAny _ _ (newList ((its.toList.drop i).take ((its.toList.drop i).length - (i+1 - 1 - i))) >>= fun d=>pure (its.toList.take i++[d]++(its.toList.drop i).drop ((its.toList.drop i).length - (i+1 - 1 - i)))) _ _ _
 rw [e1,List.take_length,List.drop_length]
 refine wpAny_bind (wpAny_newList ?_ (by rw [List.length_drop,Array.length_toList,sizeLine_eq]; omega))
 refine wpAny_pure ?_
 rw [List.append_nil]
 exact want h2 tk kp2
end NDS
namespace L2
open PySem PyProof.Rows
section
variable {X:Cx} {pos:Pos}
def gStar (K:PySem.W.Frag) (i:Nat) (t:TGs):TG:=fun v σ H Q=>∃ a xs,v = .ref a∧SqT K H a xs∧i≤xs.length∧xs.length≤16384∧∀ p,H p=none→t (xs.take i++[.ref p]) σ (upd H p (.lst (xs.drop i))) Q
theorem pg_star {es:List Expr} {k i:Nat} {t:TGs} (calm:X.calm=true) (h:PGs X es t) (hn:(assignEach es X.env).length=i+1:=by rfl) (hst:(assignEach es X.env).findIdx? (·.1)=some i:=by rfl):PG X (.Tuple es k pos) (gStar X.K i t) where
 run:=fun pins s σ H v u Q I r ⟨a,xs,e1,sq,hi,few,want⟩=>by
  subst e1
  cases r
  obtain ⟨its,rv,tp,_⟩:=I.tuple sq
  have l1:=rv.length
  rw [assign_Tuple]
  refine wpAny_bind (wpAny_standAt ?_)
  unfold unpack
  rw [hn,hst]
  refine wpAny_bind (wpAny_holding (NDS.star_tup (its:=its.toArray) tp (I.ok.hd calm) (by simp; omega) (by simp; omega) fun h' tk kp=>?_))
  have free:H h'.objs.size=none:=(I.hok.kept kp).fresh (Nat.le_refl _)
  have none_:s.heap.get? h'.objs.size=none:=by
   cases q:s.heap.get? h'.objs.size with
   | none=>rfl
   | some o=>exact absurd (Heap.lt_size (kp _ _ q)) (Nat.lt_irrefl _)
  have kp2:∀ b o,s.heap.get? b=some o→(h'.push (seqObj "list" (its.drop i).toArray 0)).get? b=some o:=fun b o e=>Heap.get?_push_of_some _ (kp b o e)
  have rd:Vals (xs.drop i) (its.drop i):=rv.drop i
  have len:(xs.drop i).length≤sizeLine:=by rw [List.length_drop,sizeLine_eq]; omega
  have I1:=I.laidN (t':=tk) (o:=.lst (xs.drop i)) kp2 none_ free ⟨len,_,0,rd,Heap.get?_push_size _ rfl⟩
  refine h.run pins _ σ _ _ _ Q I1 ?_ (want _ free)
  refine Vals.append ?_ (.cons rfl .nil)
  exact rv.take i
theorem pgs_last {e:Expr} {t:TG} {p:Pos} (h:PG X e t) (hs:(assignEach [.Starred e p] X.env).map (·.2)=[assign e X.env]:=by rfl):PGs X [.Starred e p] (gCons t gNil) where
 run:=fun pins s σ H vs us Q I r ⟨v,vr,e1,w⟩=>by
  subst e1
  cases r with
  | cons r rr=>
   rw [hs]
   refine assignInOrder_cons (thn (h.run pins s σ H _ _ _ I r w) fun _ s1 ⟨σ1,H1,I1,q1,q2⟩=>?_)
   subst q1
   cases rr
   exact assignInOrder_nil ⟨σ1,H1,I1,q2⟩
end
end L2
namespace ND
open PySem L2
section
variable {X:Cx} {g:G} {W:WX} {cur:Cur} {hid:List Addr} {c:List Addr} {S:Za} {H:Hp} {e:Expr} {es:List Expr} {m:EM} {pos:Pos}
def extendD (x:D) (ds:List D):M D:=fun S=>match x,ds with
 | .cel n,[.lst ys]=>(match S[n]? with
  | some (.lst xs)=>if xs.length+ys.length≤sizeLine then .ok .non (S.set n (.lst (xs++ys))) else .bad
  | _=>.bad)
 | _,_=>.bad
theorem J8:MtD g rExtend extendD:=by
 intro c S H v d vs ds Q E r hv hvs o
 unfold extendD at o
 split at o
 ·rename_i n ys
  obtain ⟨a,rfl,ha⟩:=Xc hv
  obtain ⟨w,rfl,hw⟩:=UP hvs
  split at o
  ·rename_i xs hx
   split at o
   ·rename_i hl
    obtain ⟨us,hu,lu⟩:=r.ok n a _ ha hx
    cases hw with
    | lst hb lb=>
     refine ⟨a,_,us,_,rfl,rfl,hu,(frz_of hb).1,by rw [lu.length,lb.length]; exact hl,?_⟩
     have f:=Fut.put (o:=.lst (us++_)) r ha hx rfl (y:=.lst (xs++ys)) rfl ⟨us++_,upd_same,lu.append lb⟩
     exact o _ c f _ .non
   ·exact o.elim
  ·exact o.elim
 ·exact o.elim
def setAll:List Nat→List D→DSt→DSt
 | i :: is,d :: ds,τ=>setAll is ds (τ.set i (some d))
 | _,_,τ=>τ
def starK (is:List Nat) (j:Nat) (d:D) (τ:DSt) (S:Za):SRes:=match dr S d with
 | .tup xs=>if is.length≤xs.length∧xs.length≤16384 then .ok (.nx ((setAll is xs τ).set j (some (.lst (xs.drop is.length))))) S else .bad
 | _=>.bad
def sStar (is:List Nat) (j:Nat) (m:EM):SM:=fun τ=>sOf (m τ) τ fun d S=>starK is j d τ S
def rdAll:List Nat→Nat→TGs
 | [],j=>gCons (gName j) gNil
 | i :: is,j=>gCons (gName i) (rdAll is j)
theorem VX {F:Hp} {j:Nat} {u:V} {du:D} {Q:St→Hp→Prop} (hu:Val g F c u du):∀ {is:List Nat} {vs:List V} {xs:List D} {σ:St} {τ:DSt},Vls g F c vs xs→is.length≤xs.length→Sl g F c σ τ →
  (∀ σ',Sl g F c σ' ((setAll is xs τ).set j (some du))→Q σ' H)→rdAll is j (vs.take is.length++[u]) σ H Q
 | [],vs,xs,σ,τ,hv,hl,s,q=>⟨u,[],by simp,rfl,q _ (s.set hu j)⟩
 | i :: is,_,_,σ,τ,.cons (v:=v) (d:=d) h t,hl,s,q=>⟨v,_,rfl,VX hu t (by simpa using hl) (s.set h i) q⟩
 | i :: is,_,_,σ,τ,.nil,hl,s,q=>by simp at hl
theorem ds_star {is:List Nat} {j k:Nat} (calm:X.calm=true) (he:PE X e (tE (gx X cur hid) W m)) (hg:PGs X es (rdAll is j)) (hn:(assignEach es X.env).length=is.length+1:=by rfl) (hst:(assignEach es X.env).findIdx? (·.1)=some is.length:=by rfl) {tpos:Pos}
  (hs:swapsWithSole [.Tuple es k tpos] e pos.line X.env=pure false:=by rfl) (hw:swappedStores [.Tuple es k tpos] e X.env=pure none:=by rfl) (h1:(assignEach [.Tuple es k tpos] X.env).map (·.2)=[assign (.Tuple es k tpos) X.env]:=by rfl) :
  PS X (.Assign [.Tuple es k tpos] e pos) (tS (gx X cur hid) W (sStar is j m)):=PS.imp (ps_asg he (pg_star calm hg hn hst) hs hw h1) fun De σ H h=>
 tS_of (k:=fun d τ S=>starK is j d τ S) h fun c S H1 τ v d r1 sl v1 o1=>by
  unfold starK at o1
  have sv:=dr_seen r1 v1
  split at o1
  ·rename_i xs hx
   rw [hx] at sv
   obtain ⟨a,vs,rfl,k1,l1⟩:=sv.tup
   split at o1
   ·rename_i hc
    obtain ⟨hl,few⟩:=hc
    refine ⟨a,vs,rfl,k1,by rw [l1.length]; exact hl,by rw [l1.length]; exact few,fun p free=>?_⟩
    have f:=Fut.new (o:=.lst (vs.drop is.length)) r1 free
    exact VX (.lst (Fut.frz_new r1 free) ((f.vls l1).drop _)) (f.vls l1) hl (sl.mono f.ex f.pre) fun σ' s'=>o1 σ' _ c f s'
   ·exact o1.elim
  ·exact o1.elim
end
end ND
namespace NDS
open PySem PySem.W PyProof.Rows PySem.Froz
def Zin (e:Int × Value):Str:=match e.2 with
 | .str k _=>k
 | _=>Str.empty
open Classical in
def insT (k:Str) (l:List Str):List Str:=if k ∈ l then l else k :: l
theorem G8 {k j:Str} {l:List Str}:j ∈ insT k l↔j=k∨j ∈ l:=by
 unfold insT
 split
 ·rename_i h
  exact ⟨.inr,fun z=>z.elim (fun e=>e ▸ h) id⟩
 ·exact List.mem_cons
theorem Q7 {k:Str} {l:List Str} (h:l.Nodup):(insT k l).Nodup:=by
 unfold insT
 split
 ·exact h
 ·rename_i q
  exact List.nodup_cons.mpr ⟨q,h⟩
def STx (P:Program) (w:World) (h:Heap) (a:Addr) (l:List Str):Prop:=
 ∃ D:SD,h.get? a=some (sObj "set" D)∧TxOk P w D l∧(D.1.toList.map Zin).Perm l∧l.Nodup∧L2.Ris D.2.2.place.toList∧(w.params.followText "set-order" = true∨D.2.2.led=true)
section
variable {P:Program} {w:World} {a:Addr} {l:List Str}
theorem STx.at {h h':Heap} (R:STx P w h a l) (k:∀ o,h.get? a=some o→h'.get? a=some o):STx P w h' a l:=by
 obtain ⟨D,ho,r⟩:=R
 exact ⟨D,k _ ho,r⟩
def allT:List Str→List Str
 | []=>[]
 | k :: r=>insT k (allT r)
theorem QF {j:Str}:∀ {xs:List Str},j ∈ allT xs↔j ∈ xs
 | []=>Iff.rfl
 | k :: r=>by rw [allT,G8,QF,List.mem_cons]
end
def leT:Str→Str→Bool:=sortLe (listOrd itemOrd) false fun k=>keyToks (.str k)
def sortT (xs:List Str):List Str:=(allT xs).mergeSort leT
theorem allT_nodup:∀ (xs:List Str),(allT xs).Nodup
 | []=>.nil
 | k :: r=>Q7 (allT_nodup r)
theorem mem_sortT {j:Str} {xs:List Str}:j ∈ sortT xs↔j ∈ xs:=(List.mergeSort_perm _ _).mem_iff.trans QF
end NDS
namespace L2
open PySem PySem.W
theorem UE {l m:List Str} (h:l.Nodup) (sub:∀ j,j ∈ l→j ∈ m):l.length≤m.length:=by
 induction l generalizing m with
 | nil=>exact Nat.zero_le _
 | cons k l ih=>
  obtain ⟨n1,n2⟩:=List.nodup_cons.mp h
  obtain ⟨x,y,e⟩:=List.append_of_mem (sub k List.mem_cons_self)
  have:=ih (m:=x++y) n2 fun j hj=>by
   have q:=sub j (List.mem_cons_of_mem _ hj)
   rw [e] at q
   rcases List.mem_append.mp q with q | q
   ·exact List.mem_append_left _ q
   ·rcases List.mem_cons.mp q with q | q
    ·subst q; exact absurd hj n1
    ·exact List.mem_append_right _ q
  rw [e]
  simp at this ⊢
  omega
end L2
namespace ND
open PySem L2
section
variable {S:Za} {m:EM}
def sortSetSD (x:D):M D:=fun S=>match dr S x with
 | .lst xs=>(match strsOf xs with
  | some bs=>if bs.length≤1024 then .ok (.lst ((NDS.sortT bs).map D.str)) S else .bad
  | none=>.bad)
 | _=>.bad
def mSortSetS (m:EM):EM:=fun τ=>m τ >>= sortSetSD
end
end ND
namespace L2
open PySem PyProof.Rows
end L2
namespace L2
open PySem
end L2
namespace ND
open PySem L2
section
def strM (d:D):M D:=match d with
 | .str x=>pure (.str x)
 | _=>M.no
def sortKeys (ys:List D):M D:=match strsOf ys with
 | some ks=>pure (.lst ((NDS.sortT ks).map D.str))
 | none=>M.no
def mSortSC (it:IM) (vs:List Nat) (t:Tg) (tt:TM) (te:EM):EM:=fun τ=>it τ >>= fun xs=>M.chk (decide (xs.length≤1024)) (noErr (compL t tt (fun τ=>te τ >>= strM) (wipeD τ vs) xs []) >>= sortKeys)
end
section
variable {g:G} {m:EM}
def lstsOf:List D→Option (List (List D))
 | []=>some []
 | .lst i :: r=>(lstsOf r).map (i :: ·)
 | _ :: _=>none
def flatD (x:D):M D:=fun S=>match dr S x with
 | .lst ds=>(match lstsOf ds with
  | some yss=>if yss.flatten.length≤sizeLine then .ok (.lst yss.flatten) S else .bad
  | none=>.bad)
 | _=>.bad
def mFlat (i j:Nat) (m:EM):EM:=fun τ=>M.chk (decide (i < τ.length∧j < τ.length)) (m τ >>= flatD)
theorem Sl.len {F:Hp} {c:List Addr} {σ:St} {τ:DSt} (h:Sl g F c σ τ):σ.length=τ.length:=by
 induction h with
 | nil=>rfl
 | un _ ih=>simp [ih]
 | hs _ _ ih=>simp [ih]
 | cl _ _ ih=>simp [ih]
theorem KG {σ:St} {H:Hp} {Q:Bool→Hp→Prop} (h:Q true H):tYes σ H Q:=h
end
def addID (x y:D):M D:=match x,y with
 | .int i,.int j=>pure (.int (i+j))
 | _,_=>M.no
theorem YD {g:G}:OpD g (rI0 fun i j=>.int (i+j)) addID:=by
 intro c S H v w d e Q E r hv hw o
 unfold addID at o
 split at o
 ·cases hv with
  | int i=>
   cases hw with
   | int j=>exact ⟨_,_,rfl,rfl,Zh r o (.int _)⟩
 ·exact o.elim
def ZnE (ds:List D):M D:=fun S=>match ds with
 | [x]=>(match dr S x with
  | .lst xs=>(match intsOf xs with
   | some ns=>.ok (.int ns.sum) S
   | none=>.bad)
  | _=>.bad)
 | _=>.bad
end ND
namespace L2
open PySem PySem.Spec PyProof.Rows
end L2
namespace ND
open PySem L2
section
variable {ms:AM}
def dictZD (ds:List D):M D:=match ds with
 | [.tup xs,.tup ys]=>M.chk (okP (xs.length=ys.length)) (match Qv xs with
  | some ks=>pure (.dct (mergeD [] (ks.zip ys)))
  | none=>M.no)
 | _=>M.no
def mDictZ (ms:AM):EM:=fun τ=>ms τ >>= dictZD
end
end ND
namespace L2
open PySem PyProof.Rows
end L2
namespace ND
open PySem L2
end ND
namespace ND
open PySem L2 PySem.Spec PyProof.Rows
section
def inXD (neg:Bool) (x y:D):M D:=fun S=>match pyD S x,pyD S y with
 | some a,some (.tuple ds)=>.ok (.bl (if neg then !ds.any fun z=>PyData.eqv z a else ds.any fun z=>PyData.eqv z a)) S
 | some a,some (.list ds)=>.ok (.bl (if neg then !ds.any fun z=>PyData.eqv z a else ds.any fun z=>PyData.eqv z a)) S
 | _,_=>.bad
end
end ND
namespace ND
open PySem L2
section
variable {ms:AM}
def enumLD (ds:List D):M (List D):=match ds with
 | [.lst xs]=>pure (enumL 0 xs)
 | _=>M.no
def mEnumL (ms:AM):IM:=fun τ=>ms τ >>= enumLD
end
section
variable {X:Cx} {g:G} {W:WX} {cur:Cur} {hid:List Addr} {c:List Addr} {S:Za} {H:Hp} {a e o:Expr} {mo me mi mf mv m:EM} {pos:Pos}
def lstK (ts:List Tg) (d:D) (τ:DSt) (S:Za):SRes:=match dr S d with
 | .lst xs=>(match Tg.binds ts xs τ with
  | some τ'=>.ok (.nx τ') S
  | none=>.bad)
 | _=>.bad
def sAsgL (ts:List Tg) (m:EM):SM:=fun τ=>sOf (m τ) τ fun d S=>lstK ts d τ S
def mDNewC:EM:=fun _=>newCell (.dct [])
def mDNew:EM:=mC (.dct [])
def isDct (x:D):M Unit:=fun S=>match dr S x with
 | .dct _=>.ok () S
 | _=>.bad
def dgetD (x y z:D):M D:=fun S=>match dr S x,Xe y with
 | .dct kvs,some k=>.ok ((valD kvs k).getD z) S
 | _,_=>.bad
def mDGet (mo me mf:EM):EM:=fun τ=>mo τ >>= fun x=>isDct x >>= fun _=>me τ >>= fun y=>mf τ >>= fun z=>dgetD x y z
def setKD (x y z:D):M Unit:=fun S=>match x,Xe y with
 | .cel n,some k=>(match S[n]? with
  | some (.dct kvs)=>if kvs.length < sizeLine then .ok () (S.set n (.dct (putD kvs k z))) else .bad
  | _=>.bad)
 | _,_=>.bad
def sDPutD (mo mi mv:EM):SM:=fun τ=>sOf (mv τ >>= fun z=>mo τ >>= fun x=>mi τ >>= fun y=>setKD x y z) τ fun _ S=>.ok (.nx τ) S
def getKD (x y:D):M D:=fun S=>match x,Xe y with
 | .cel n,some k=>(match S[n]? with
  | some (.dct kvs)=>(match valD kvs k with
   | some d=>.ok d S
   | none=>.bad)
  | _=>.bad)
 | _,_=>.bad
def sDAugD (f:D→D→M D) (mo mi mv:EM):SM:=fun τ=>sOf (mo τ >>= fun x=>mi τ >>= fun y=>getKD x y >>= fun v=>mv τ >>= fun w=>f v w >>= fun z=>setKD x y z) τ fun _ S=>.ok (.nx τ) S
def dropD (kvs:List (Key × D)) (k:Key):List (Key × D):=kvs.filter fun kv=>decide (kv.1 ≠ k)
theorem VKv.drop {F:Hp} {k:Key}:∀ {ws:List (Key × V)} {kvs:List (Key × D)},VKv g F c ws kvs→VKv g F c (dropK ws k) (dropD kvs k)
 | _,_,.nil=>.nil
 | _,_,.cons (k:=k') h t=>by
  unfold dropK dropD
  rw [List.filter_cons,List.filter_cons]
  by_cases e:k'=k
  ·simp only [e,ne_eq,not_true_eq_false,decide_false,Bool.false_eq_true,if_false]
   exact VKv.drop t
  ·simp only [ne_eq,e,not_false_eq_true,decide_true,if_true]
   exact .cons h (VKv.drop t)
def popKD (x y:D):M D:=fun S=>match x,Xe y with
 | .cel n,some k=>(match S[n]? with
  | some (.dct kvs)=>(match valD kvs k with
   | some d=>.ok d (S.set n (.dct (dropD kvs k)))
   | none=>.bad)
  | _=>.bad)
 | _,_=>.bad
def mDPop (mo me:EM):EM:=fun τ=>mo τ >>= fun x=>isDct x >>= fun _=>me τ >>= fun y=>popKD x y
def getFD (Cs:List Str) (f:Str) (x:D):M D:=fun S=>match x with
 | .cel n=>(match S[n]? with
  | some (.ins C fs)=>if C ∈ Cs then (match fs.lookup f with
   | some d=>.ok d S
   | none=>.bad) else .bad
  | _=>.bad)
 | _=>.bad
def sFldAugD (Cs:List Str) (fl:Str) (f:D→D→M D) (mo mv:EM):SM:=fun τ=>sOf (mo τ >>= fun x=>getFD Cs fl x >>= fun v=>mv τ >>= fun w=>f v w >>= fun z=>setFD Cs fl x z) τ fun _ S=>.ok (.nx τ) S
theorem ds_fldaug {op:Operator} {rd:R2} {f:D→D→M D} {C0:Str} {fl:Str} {p':Pos} (hC:KW X [C0] fl) (ho:PE X o (tE (gx X cur hid) W mo)) (hv:PE X e (tE (gx X cur hid) W mv)) (hop:OpR X (inplaceOp op) rd) (hf:OpD (gx X cur hid) rd f) :
  PS X (.AugAssign (.Attribute o fl p') op e pos) (tS (gx X cur hid) W (sFldAugD [C0] fl f mo mv)):=PS.imp (ps_fldaug ho hv (fun pins s σ H x y u v Q I rx ry q=>hop pins s σ H x y u v Q I rx ry q)) fun De σ H h=>by
 obtain ⟨c,S,τ,r,s,q⟩:=h
 have q1:Out (gx X cur hid) c S H (fun (_:Unit) c1 S1 H1=>Xv (gx X cur hid) W c1 S1 H1 De (.ok (.nx τ) S1)) (WS W σ) ((mo τ >>= fun x=>getFD [C0] fl x >>= fun v=>mv τ >>= fun w=>f v w >>= fun z=>setFD [C0] fl x z) S):=Xv.of s q fun _ _ _ _ _ o=>o
 refine ⟨c,S,τ,r,s,(Out.bind q1).imp fun x c1 S1 H1 f1 o1 v hv=>?_⟩
 have o2:=Out.bind o1
 unfold getFD at o2
 split at o2
 ·rename_i n
  obtain ⟨a,rfl,ha⟩:=Xc hv
  split at o2
  ·rename_i C fs hs
   split at o2
   ·rename_i hC'
    split at o2
    ·rename_i d hd
     obtain ⟨Ca,dx,ws,mC,hu,lu⟩:=f1.rep.ok n a _ ha hs
     obtain ⟨k1,k2⟩:=hC C hC' Ca mC
     obtain ⟨w0,hw0,vw0⟩:=lu.lookup hd
     refine ⟨a,Ca,dx,ws,w0,rfl,hu,k1,k2,hw0,c1,S1,τ,f1.rep,s.mono f1.ex f1.pre,(Out.bind (o2 H1 c1 (Fut.refl f1.rep))).imp fun y c3 S3 H3 f3 o4 u hu'=>?_⟩
     refine hf c3 S3 H3 w0 u d y _ _ f3.rep (f3.val vw0) hu' ((Out.bind o4).imp fun z c4 S4 H4 f4 o5 nz hz=>?_)
     unfold setFD at o5
     have ha4:=f4.pre _ _ (f3.pre _ _ ha)
     dsimp only at o5
     split at o5
     ·rename_i C4 fs4 hs4
      split at o5
      ·rename_i hm
       obtain ⟨Ca4,dx4,ws4,mC4,hu4,lu4⟩:=f4.rep.ok n a _ ha4 hs4
       have e1:C4=C:=(List.mem_singleton.mp hm.1).trans (List.mem_singleton.mp hC').symm
       subst e1
       have e2:Ca4=Ca:=by
        have:=mC4.symm.trans mC
        cases this; rfl
       subst e2
       have f5:=Fut.put (o:=.ins Ca4 dx4 (putF fl nz ws4)) (y:=.ins C4 (putFD fl z fs4)) f4.rep ha4 hs4 rfl rfl ⟨Ca4,dx4,_,mC4,upd_same,VFs.put hz lu4⟩
       have ff:=(((f1.trans f3).trans f4).trans f5)
       exact ⟨dx4,ws4,hu4,by rw [lu4.length]; exact hm.2,o5 _ c4 f5 σ _ c4 (Fut.refl f5.rep) (s.mono ff.ex ff.pre)⟩
      ·exact o5.elim
     ·exact o5.elim
    ·exact o2.elim
   ·exact o2.elim
  ·exact o2.elim
 ·exact o2.elim
end
end ND
namespace L2
open PySem PySem.Spec PyProof.Rows
end L2
namespace ND
open PySem L2
abbrev FTb:=List (Str × Nat × (List D→M D))
inductive FTab (X:Cx):FTb→Prop
 | nil:FTab X []
 | cons {x:Str} {k n:Nat} {f:Addr} {fd:FuncData} {ps:List Str} {fm:List D→M D} {tbl:FTb}:FnD X.prog X.w X.K X.mg X.base k f fd ps fm→RoomG k X.A→X.mg x=some (.ref f)→PySem.W.keepIn X.K (.ref f)=true→Binds X.K fd ps []→ps.length=n→FTab X tbl→FTab X ((x,n,fm) :: tbl)
theorem FTab.get {X:Cx} {x:Str} {n:Nat} {fm:List D→M D}:∀ {tbl:FTb},FTab X tbl→tbl.lookup x=some (n,fm)→∃ k f fd ps,FnD X.prog X.w X.K X.mg X.base k f fd ps fm∧RoomG k X.A∧X.mg x=some (.ref f)∧PySem.W.keepIn X.K (.ref f)=true∧Binds X.K fd ps []∧ps.length=n
 | _,.nil,h=>by simp at h
 | _,.cons (x:=y) a b c d e1 e2 t,h=>by
  rw [List.lookup_cons] at h
  cases q:(x == y) with
  | true=>
   rw [q] at h; cases h
   rw [beq_iff_eq.mp q]
   exact ⟨_,_,_,_,a,b,c,d,e1,e2⟩
  | false=>rw [q] at h; exact FTab.get t h
def mCallF (i:Nat) (tbl:FTb) (ms:AM):EM:=fun τ=>match τ[i]? with
 | some (some (.fn x))=>(match tbl.lookup x with
  | some (n,fm)=>mCall (arity n fm) ms τ
  | none=>M.no)
 | _=>M.no
section
variable {mi:EM} {x:Str}
def tabD (tbl:List (Str × Str)) (y:D):M D:=match y with
 | .str x=>(match tbl.lookup x with
  | some f=>pure (.fn f)
  | none=>M.no)
 | _=>M.no
def mTab (tbl:List (Str × Str)) (mi:EM):EM:=fun τ=>mi τ >>= tabD tbl
end
end ND
namespace HX
open PySem L2
open He (ga eqO eqO_ok ba)
theorem KA {C:Addr}:∀ {l more:List Value},Za9 C l=some more→l = .ref C :: more
 | .ref D :: more,t,e=>by
  have e:(if D=C then some more else none)=some t:=e
  by_cases h:D=C
  ·rw [if_pos h] at e; cases e; rw [h]
  ·rw [if_neg h] at e; cases e
theorem Zaj {l:List (Option Value)} {n:String} {a b c d f:Option Value} (e:Zcm l=some (n,a,b,c,d,f)):l=[a,b,c,d,some (.builtin n),f]:=by
 unfold Zcm at e
 split at e
 ·cases e; rfl
 ·cases e
theorem Gf {n:String} {more:List Value} (h:Zbk n more=true):PySem.ErrX.BaseOk n more:=by
 unfold Zbk at h
 simp only [Bool.or_eq_true,Bool.and_eq_true,beq_iff_eq] at h
 rcases h with (((((⟨rfl,h⟩ | ⟨rfl,h⟩) | ⟨rfl,h⟩) | ⟨rfl,h⟩) | ⟨rfl,h⟩) | ⟨rfl,h⟩) | ⟨rfl,h⟩
 ·exact ⟨_,_,_,_,PySem.F.excBase_ValueError,PySem.ErrK.mades_of h (by decide +kernel) (by decide +kernel) (by decide +kernel),h,PySem.F.store_ValueError.passes,PySem.F.store_ValueError.hasOwner⟩
 ·exact ⟨_,_,_,_,PySem.F.excBase_ArithmeticError,PySem.ErrK.mades_of h (by decide +kernel) (by decide +kernel) (by decide +kernel),h,PySem.F.store_ArithmeticError.passes,PySem.F.store_ArithmeticError.hasOwner⟩
 ·exact ⟨_,_,_,_,PySem.F.excBase_LookupError,PySem.ErrK.mades_of h (by decide +kernel) (by decide +kernel) (by decide +kernel),h,PySem.F.store_LookupError.passes,PySem.F.store_LookupError.hasOwner⟩
 ·exact ⟨_,_,_,_,PySem.F.excBase_OverflowError,PySem.ErrK.mades_of h (by decide +kernel) (by decide +kernel) (by decide +kernel),h,PySem.F.store_OverflowError.passes,PySem.F.store_OverflowError.hasOwner⟩
 ·exact ⟨_,_,_,_,PySem.F.excBase_IndexError,PySem.ErrK.mades_of h (by decide +kernel) (by decide +kernel) (by decide +kernel),h,PySem.F.store_IndexError.passes,PySem.F.store_IndexError.hasOwner⟩
 ·exact ⟨_,_,_,_,PySem.F.excBase_RuntimeError,PySem.ErrK.mades_of h (by decide +kernel) (by decide +kernel) (by decide +kernel),h,PySem.F.store_RuntimeError.passes,PySem.F.store_RuntimeError.hasOwner⟩
 ·exact ⟨_,_,_,_,PySem.F.excBase_LookupError,PySem.ErrK.mades_of h (by decide +kernel) (by decide +kernel) (by decide +kernel),h,PySem.ErrK.key_passes,PySem.ErrK.key_object⟩
theorem Zbn {K:PySem.W.Frag} {C:Addr} (h:ZfN K C=true):∃ nm qn N bs bm sn sub ab col dd k0 k1 k2 k3 k5 newId,K.lookup C=some (excClassObj nm qn C N bs bm true sn sub ab col dd k0 k1 k2 k3 k5 newId)∧PySem.ErrX.BaseOk newId bm:=by
 unfold ZfN at h
 split at h
 case h_2=>cases h
 case h_1 cl dd cd sl look=>
  obtain ⟨nm,bs,mro,N,qn,hasD,sn,sub,ab,col,del⟩:=cd
  obtain ⟨sl⟩:=sl
  obtain ⟨h1,h⟩:=ba h
  obtain ⟨h2,h⟩:=ba h
  obtain ⟨h3,h5⟩:=ba h
  obtain rfl:=of_decide_eq_true h1
  cases del with
  | true=>cases h2
  | false=>
   cases hasD with
   | false=>cases h3
   | true=>
    dsimp only at h5
    split at h5
    ·rename_i n r more e1 e2
     obtain ⟨a,b,c,d,f⟩:=r
     have hsl:=Zaj e1
     have hm:=KA e2
     subst hm hsl
     exact ⟨nm,qn,N,bs,more,sn,sub,ab,col,dd,a,b,c,d,f,n,look,Gf h5⟩
    ·cases h5
theorem Zbj {K:PySem.W.Frag} {x qual:Str} {params:Arguments} {body:List Stmt} {scope:Scope} {kws:List (Str × V)} {f:Addr} {fd:FuncData} (F:FunD K x qual params body scope [] kws f fd) :
  ∃ (cl:Value) (own:Option Addr) (kwV docV modV:Value) (ann:Option Addr) (code typ:Value) (slots:Array (Option Value)),fd=PySem.W.fnOf x qual params body scope .none kwV docV modV ann code typ∧K.lookup f=some ⟨cl,own,.func fd,slots⟩∧PySem.W.codeIn K code qual=true:=
 match F.ex with
 | ⟨cl,own,_,kwV,docV,modV,ann,code,typ,slots,isFd,look,isCode,.inl ⟨_,bare⟩,_⟩=>⟨cl,own,kwV,docV,modV,ann,code,typ,slots,by rw [isFd,bare],look,isCode⟩
 | ⟨_,_,_,_,_,_,_,_,_,_,_,_,_,.inr ⟨nonempty,_⟩,_⟩=>absurd rfl nonempty
theorem err_of {K:PySem.W.Frag} {h:Heap} {mg:Str→Option Value} {nm qn fl:Str} {params:Arguments} {body:List Stmt} {scope:Scope} {fd:FuncData} (X:K.In h) (G:h.Ns mainGlobals mg) (cg:(He.Fa.glo nm).ok K=true) (c:errB K nm fl=true)
  (F:FunD K "__init__" qn params body scope [] [] (He.fAd K (nm,some "__init__")) fd) (hA:∃ p1 p2,params=PySem.ErrX.iA fl p1 p2) (hB:∃ q1 q2 q3 q4,body=PySem.ErrX.iB fl q1 q2 q3 q4) (hS:scope=PySem.ErrX.iS fl)
  (nsf:(fl == ("self" : Str))=false) (ndb:(fl == ("__debug__" : Str))=false)
  (bd:∀ (kV doc pm:Value) (an:Option Addr) (cdv ct:Value) (p1 p2 q1 q2 q3 q4:Pos) (x v:Value),bindArgs (PySem.W.fnOf "__init__" qn (PySem.ErrX.iA fl p1 p2) (PySem.ErrX.iB fl q1 q2 q3 q4) (PySem.ErrX.iS fl) .none kV doc pm an cdv ct) ⟨[x,v],[]⟩=pure [(("self" : Str),x),(fl,v)]) :
  PySem.ErrX.ErrTxt K mg nm qn fl (ga K nm) (He.fAd K (nm,some "__init__")):=by
 obtain ⟨c1,c⟩:=ba c
 obtain ⟨c2,c⟩:=ba c
 obtain ⟨c3,c⟩:=ba c
 obtain ⟨c4,c⟩:=ba c
 obtain ⟨c5,c⟩:=ba c
 obtain ⟨c6,c⟩:=ba c
 obtain ⟨c7,c⟩:=ba c
 obtain ⟨c8,c⟩:=ba c
 obtain ⟨c9,c⟩:=ba c
 obtain ⟨c10,c⟩:=ba c
 obtain ⟨c11,c⟩:=ba c
 obtain ⟨c12,c⟩:=ba c
 obtain ⟨c13,c⟩:=ba c
 obtain ⟨c14,c⟩:=ba c
 obtain ⟨c15,c16⟩:=ba c
 obtain ⟨cl,own,kwV,docV,modV,ann,code,typ,slots,rfl,look,isCode⟩:=Zbj F
 obtain ⟨p1,p2,rfl⟩:=hA
 obtain ⟨q1,q2,q3,q4,rfl⟩:=hB
 subst hS
 exact { gC:=He.glo_ok X G cg,cls:=Zbn c1,sa:=eqO_ok c2,ga:=eqO_ok c3,gg:=eqO_ok c4,noN:=eqO_ok c5,nsf:=nsf,ndb:=ndb,ca:=eqO_ok c6,cn:=of_decide_eq_true c7,ct:=of_decide_eq_true c8,cm:=of_decide_eq_true c9, bd:=bd,iC:=eqO_ok c10,tC:=of_decide_eq_true c11,kC:=c12,exC:=of_decide_eq_true c13,tyC:=of_decide_eq_true c14,hdC:=c15,te:=of_decide_eq_true c16,fn:=⟨cl,own,kwV,docV,modV,ann,code,typ,slots,p1,p2,q1,q2,q3,q4,look,isCode⟩ }
theorem calm {P:Program} {w:World} {K:PySem.W.Frag} {mg:Str→Option Value} {base:Heap} {k:Nat} {f:Addr} {fd:FuncData} {ps:List Str} {sp:Sp} (F:FnG P w K mg base (L2N.CX P w) k f fd ps sp) :
  FnG P w K mg base CX0 k f fd ps (fun vs H Q _=>sp vs H Q fun _ _ _=>False):=by
 refine ⟨fun vs H Q E h=>F.len vs H Q _ h,fun A outer s H args bs vs Q E hr he hb r h=>?_⟩
 refine codeAny_mono (F.run A outer s H args bs vs Q _ hr he hb r h) fun r s' hq=>?_
 cases r with
 | error e=>
  obtain ⟨_,_,_,_,_,_,_,_,_,_,_,_,z⟩:=hq
  exact z.elim
 | ok fl=>
  cases fl with
  | ret u=>exact hq
  | next=>exact hq
  | brk=>exact hq
  | cont=>exact hq
end HX
namespace PySem.SeqAt
open AutoSeq1 (wpAny_loadPart')
open MeetsSeq MeetsSeq2 MeetsSeq3 SeqRoads2
end PySem.SeqAt
namespace L2
open PySem PySem.Spec PyProof.Rows
end L2
namespace ND
open PySem L2
section
variable {S:Za} {m:EM}
def lockD (x:D):M D:=fun S=>match x with
 | .rdc kvs=>.ok (.rdc kvs) S
 | .cel n=>(match S[n]? with
  | some (.dct kvs)=>.ok (.rdc kvs) (S.set n (.fz (.rdc kvs)))
  | some (.fz (.rdc kvs))=>.ok (.rdc kvs) S
  | _=>.bad)
 | _=>.bad
def ZaW (m:EM):EM:=fun τ=>m τ >>= lockD
def Zim:Key→D
 | .inl i=>.int i
 | .inr x=>.str x
def keysD (x:D):M (List D):=match x with
 | .rdc kvs=>M.chk (okP (∀ kv ∈ kvs,∀ x,kv.1 = .inr x→SOk x)) (pure (kvs.map fun kv=>Zim kv.1))
 | _=>M.no
def mKeys (m:EM):IM:=fun τ=>ZaW m τ >>= keysD
inductive All2 {α β:Type} (R:α→β→Prop):List α→List β→Prop
 | nil:All2 R [] []
 | cons {a:α} {b:β} {as:List α} {bs:List β}:R a b→All2 R as bs→All2 R (a :: as) (b :: bs)
def ZhT (S:Za) (x:D) (kvs:List (Key × D)):Prop:=dr S x = .dct kvs∨dr S x = .rdc kvs
def AlT (S:Za) (R:D→D→Prop) (x y:D):Prop:=(∃ xs ys,dr S x = .lst xs∧dr S y = .lst ys∧All2 R xs ys)∨(∃ xs ys,dr S x = .tup xs∧dr S y = .tup ys∧All2 R xs ys) ∨
 ∃ ks ls,ZhT S x ks∧ZhT S y ls∧ks.length=ls.length∧∀ p ∈ ks,∃ u,valD ls p.1=some u∧R p.2 u
end
end ND
namespace ND
open PySem PySem.Spec L2
section
variable {X:Cx} {g:G} {W:WX} {cur:Cur} {hid:List Addr} {c:List Addr} {S:Za} {H:Hp} {e:Expr} {pos:Pos}
def flat2:List (V × V)→List V
 | []=>[]
 | p :: r=>p.1 :: p.2 :: flat2 r
def PD (g:G) (W:WX) (trs:List (TE × TE)) (ms:AM):Prop:=∀ (β:Type) (σ:St) (H:Hp) (c:List Addr) (S:Za) (τ:DSt) (R:β→List Addr→Za→Hp→Prop) (k:List D→M β) (Q:List (V × V)→Hp→Prop),Rep g c S H→Sl g (frz g c S H) c σ τ→Out g c S H R (WS W σ) ((ms τ >>= k) S) →
 (∀ c' S' H' ps ds,Fut g c S H c' S' H'→Vls g (frz g c' S' H') c' (flat2 ps) ds→Out g c' S' H' R (WS W σ) (k ds S')→Q ps H')→tPairs trs σ H Q
structure PDs (X:Cx) (g:G) (W:WX) (pos:Pos) (keys:List (Option Expr)) (values:List Expr) (ms:AM):Prop where
 ex:∃ trs,PPs X pos keys values trs∧PD g W trs ms
theorem ZdZ:PDs X g W pos [] [] mNil:=⟨[],pps_nil,fun β σ H c S τ R k Q r s o q=>q c S H [] [] (Fut.refl r) .nil o⟩
theorem pd_cons {k v:Expr} {ks:List (Option Expr)} {vs:List Expr} {mk mv:EM} {ms:AM} (hk:PE X k (tE g W mk)) (hv:PE X v (tE g W mv)) (hr:PDs X g W pos ks vs ms):PDs X g W pos (some k :: ks) (v :: vs) (mCons mk (mCons mv ms)):=by
 obtain ⟨trs,h1,h2⟩:=hr.ex
 refine ⟨_,pps_cons hk hv h1,fun β σ H c S τ R kk Q r s o q=>?_⟩
 refine ⟨c,S,τ,r,s,(Out.bind (Out.bind o)).imp fun x c1 S1 H1 f1 o1 u hu=>?_⟩
 refine ⟨c1,S1,τ,f1.rep,s.mono f1.ex f1.pre,(Out.bind (Out.bind o1)).imp fun y c2 S2 H2 f2 o2 w hw=>?_⟩
 have f12:=f1.trans f2
 refine h2 _ σ H2 c2 S2 τ _ _ _ f2.rep (s.mono f12.ex f12.pre) o2 fun c3 S3 H3 ps ds f3 hd o3=>?_
 refine q c3 S3 H3 ((u,w) :: ps) (x :: y :: ds) (f12.trans f3) (.cons (f3.val (f2.val hu)) (.cons (f3.val hw) hd)) ?_
 exact (o3 H3 c3 (Fut.refl f3.rep)) H3 c3 (Fut.refl f3.rep)
def Vr:List D→Option (List (Key × D))
 | []=>some []
 | k :: v :: r=>(match Xe k,Vr r with
  | some k,some r=>some ((k,v) :: r)
  | _,_=>none)
 | _=>none
theorem Vs {F:Hp} {c:List Addr}:∀ {ps:List (V × V)} {ds:List D} {kvs:List (Key × D)},Vls g F c (flat2 ps) ds→Vr ds=some kvs→∃ ws:List (Key × V),ps=ws.map (fun kv=>(kV kv.1,kv.2))∧VKv g F c ws kvs
 | [],_,kvs,.nil,e=>by cases e; exact ⟨[],rfl,.nil⟩
 | p :: ps,_,kvs,.cons (d:=k) h1 (.cons (d:=d) (xs:=ds) h2 t),e=>by
  rw [Vr] at e
  cases q1:Xe k with
  | none=>rw [q1] at e; cases e
  | some k'=>
   cases q2:Vr ds with
   | none=>rw [q1,q2] at e; cases e
   | some r=>
    rw [q1,q2] at e
    cases e
    obtain ⟨ws,e1,h⟩:=Vs t q2
    refine ⟨(k',p.2) :: ws,?_,.cons h2 h⟩
    rw [List.map_cons,← e1,← YN h1 q1]
def fillD (x:D) (ds:List D):M D:=fun S=>match x,Vr ds with
 | .cel n,some kvs=>(match S[n]? with
  | some (.dct [])=>if kvs.length≤15 then .ok (.cel n) (S.set n (.dct (mergeD [] kvs))) else .bad
  | _=>.bad)
 | _,_=>.bad
def mDispC (ms:AM):EM:=fun τ=>newCell (.dct []) >>= fun x=>ms τ >>= fun ds=>fillD x ds
theorem d_dispC {keys:List (Option Expr)} {values:List Expr} {ms:AM} (h:PDs X (gx X cur hid) W pos keys values ms) (hall:keys.all (·.isSome)=true:=by rfl) (hl:keys.length=values.length:=by rfl) (h0:keys ≠ []:=by simp) (h15:keys.length≤15:=by decide) :
  PE X (.Dict keys values pos) (tE (gx X cur hid) W (mDispC ms)):=by
 obtain ⟨trs,h1,h2⟩:=h.ex
 refine PE.imp (pe_disp h1 hall hl h0 h15) fun σ H Q ⟨c,S,τ,r,s,o⟩ p hp=>?_
 have f:=Fut.cell (g:=gx X cur hid) (o:=.dK []) (x:=.dct []) r hp rfl ⟨[],upd_same,.nil⟩
 have o1:=(Out.bind o) _ _ f
 refine h2 _ σ _ _ _ τ _ _ _ f.rep (s.mono f.ex f.pre) o1 fun c' S' H' ps ds f' hd o'=>?_
 have hc:Val (gx X cur hid) (frz (gx X cur hid) c' S' H') c' (.ref p) (.cel S.length):=f'.val (.cel (snoc_at c S p r.len))
 obtain ⟨a,ea,ha⟩:=Xc hc
 cases ea
 unfold fillD at o'
 split at o'
 ·rename_i n kvs en hk
  cases en
  split at o'
  ·rename_i hs
   split at o'
   ·rename_i hlk
    obtain ⟨ws,hu,lu⟩:=f'.rep.ok _ p _ ha hs
    cases lu
    obtain ⟨kv,e1,hv⟩:=Vs hd hk
    have f2:=Fut.put (o:=.dK (mergeK [] kv)) f'.rep ha hs rfl (y:=.dct (mergeD [] kvs)) rfl ⟨_,upd_same,hv.merge .nil⟩
    exact ⟨hu,kv,e1,by rw [hv.length]; exact hlk,o' _ _ f2 _ (f2.val hc)⟩
   ·exact o'.elim
  ·exact o'.elim
 ·exact o'.elim
end
end ND
namespace L2
open PySem PySem.Spec PySem.W PyProof.Rows
end L2
namespace ND
open PySem L2
end ND
namespace L2
open PySem PySem.Spec PySem.W PyProof.Rows
end L2
namespace ND
open PySem L2
def minlD (ds:List D):M D:=fun S=>match ds with
 | [x]=>(match dr S x with
  | .lst xs=>(match intsOf xs with
   | some ns=>(match ns.min? with
    | some m=>.ok (.int m) S
    | none=>.bad)
   | none=>.bad)
  | _=>.bad)
 | _=>.bad
end ND
namespace L2
open PySem PySem.Spec PyProof.Rows
theorem tuple_mul_one (l:Addr) (items:Array Value) (n:Nat) (dd:Option Addr) (sl:Array (Option Value)) (u:Tok) :
  Meets (Builtin.«tuple.__mul__» ⟨[.ref l,.int 1 u],[]⟩) (fun _ R s=>s.heap.get? l=some { cls:=.type "tuple",dict:=dd,data:=.seq items n,slots:=sl }∧R (.ok (.ret (Value.ref l))) s):=
 .of_wp fun prog w A R s h=>by
  obtain ⟨hp,g,d,tk,os⟩:=s
  obtain ⟨hl,h⟩:=h
  have f1:=AutoSeq1.idx_int
  wp_walk using wpAny_loadPart' hl
  exact ⟨_,rfl,h⟩
theorem tuple_mul_zero (l:Addr) (items:Array Value) (n:Nat) (dd:Option Addr) (sl:Array (Option Value)) (u:Tok) (he:items.isEmpty=false) :
  Meets (Builtin.«tuple.__mul__» ⟨[.ref l,.int 0 u],[]⟩) (fun _ R s=>s.heap.get? l=some { cls:=.type "tuple",dict:=dd,data:=.seq items n,slots:=sl } ∧
   R (.ok (.ret (Value.ref s.heap.objs.size))) { s with heap:=s.heap.push { cls:=Value.type "tuple",data:=Data.seq #[] },toks:=s.toks }):=
 .of_wp fun prog w A R s h=>by
  obtain ⟨hp,g,d,tk,os⟩:=s
  obtain ⟨hl,h⟩:=h
  have f1:=AutoSeq1.idx_int
  have c1:(items.isEmpty || ((0:Int) == 1))=false:=by rw [he]; rfl
  wp_walk using wpAny_loadPart' hl
  repeat (first
   | (refine wpAny_ite_false (decide_eq_false (by rw [c1]; exact Bool.false_ne_true)) ?_; wp_walk using wpAny_loadPart' hl))
  exact ⟨_,rfl,h⟩
def rRepF (K:PySem.W.Frag):R2:=fun x y H Q=>∃ l k xs,x = .ref l∧y = .int k∧SqT K H l xs∧xs ≠ []∧xs.length≤1000∧(k=1∧Q (.ref l) H∨(k=0∨2≤k)∧k≤1000∧Zan H Q (List.replicate k.toNat xs).flatten)
section
variable {X:Cx}
theorem Zb5:OpR X (binaryOp .Mult) (rRepF X.K):=by
 intro pins s σ H x y v u Q I rx ry h
 obtain ⟨l,k,xs,rfl,rfl,hT,hne,hz,q⟩:=h
 cases rx
 obtain ⟨t,rfl⟩:=ry
 obtain ⟨its,r,⟨⟨cls,dd,data,sl⟩,ho,hc,n,hd⟩,hs⟩:=I.tuple hT
 simp only at hc hd
 subst hc hd
 have hle:its.length=xs.length:=r.length.symm
 have hn:its ≠ []:=fun e=>hne (by
  rw [e] at hle
  exact List.eq_nil_of_length_eq_zero hle.symm)
 have hi:its.toArray.isEmpty=false:=by
  cases its with
  | nil=>exact absurd rfl hn
  | cons a b=>rfl
 rcases q with ⟨rfl,q⟩ | ⟨hk,hk2,q⟩
 ·refine wpAny_binaryOp_repeat_ref (T := "tuple") (U := "int") (by decide) ⟨_,ho,rfl⟩ (fun s'=>typeIs_int s' 1 t) noFill_tuple_mul F.fills_int_mul F.slot_int_rmul repeat_tuple F.slot_int_index.lookup
   (call_meets F.slot_int_rmul (typeIs_int s 1 t) F.entry_int_rmul (F.args_int_rmul_2 _ _) (int_rmul_tuple 1 t l its.toArray n dd sl)
    ⟨ho,rfl,⟨_,ho,rfl⟩,call_meets F.slot_tuple_mul ⟨_,ho,rfl⟩ F.entry_tuple_mul (F.args_tuple_mul_2 _ _) (tuple_mul_one l its.toArray n dd sl t) ⟨ho,?_⟩⟩)
  exact ⟨.ref l,H,I.tok _,rfl,q⟩
 ·rcases hk with rfl | h1
  ·refine wpAny_binaryOp_repeat_ref (T := "tuple") (U := "int") (by decide) ⟨_,ho,rfl⟩ (fun s'=>typeIs_int s' 0 t) noFill_tuple_mul F.fills_int_mul F.slot_int_rmul repeat_tuple F.slot_int_index.lookup
    (call_meets F.slot_int_rmul (typeIs_int s 0 t) F.entry_int_rmul (F.args_int_rmul_2 _ _) (int_rmul_tuple 0 t l its.toArray n dd sl)
     ⟨ho,rfl,⟨_,ho,rfl⟩,call_meets F.slot_tuple_mul ⟨_,ho,rfl⟩ F.entry_tuple_mul (F.args_tuple_mul_2 _ _) (tuple_mul_zero l its.toArray n dd sl t hi) ⟨ho,?_⟩⟩)
   exact I.newT (its:=[]) (by simp) .nil q
  ·have hsz0:its.toArray.size=xs.length:=by rw [List.size_toArray,hle]
   have hm:((its.toArray.size:Nat):Int) * k≤1000000:=by
    rw [hsz0]
    have a1:((xs.length:Nat):Int) * k≤1000 * k:=Int.mul_le_mul_of_nonneg_right (by omega) (by omega)
    omega
   have hf:k.toNat * xs.length≤1000 * 1000:=Nat.mul_le_mul (by omega) hz
   have c0:(decide (k < -(2 ^ 63)) || decide (k ≥ 2 ^ 63))=false:=by
    rw [decide_eq_false (by omega),decide_eq_false (by omega)] <;> rfl
   have c1:(its.toArray.isEmpty || k == 1)=false:=by
    rw [hi,Bool.false_or]
    exact beq_eq_false_iff_ne.mpr (by omega)
   have c2:(decide (k≤0) || its.toArray.isEmpty)=false:=by
    rw [hi,Bool.or_false]
    exact decide_eq_false (by omega)
   have c4:Builtin.Tuple.tupleTooMany (((its.toArray.size:Nat):Int) * k)=false:=by
    unfold Builtin.Tuple.tupleTooMany
    rw [sizeLine_eq]
    exact decide_eq_false (by omega)
   have flen:(List.replicate k.toNat its).flatten.length≤sizeLine:=by
    rw [PyProof.Rows.lm_len_rep_flat,hle,sizeLine_eq]
    omega
   refine wpAny_binaryOp_repeat_ref (T := "tuple") (U := "int") (by decide) ⟨_,ho,rfl⟩ (fun s'=>typeIs_int s' k t) noFill_tuple_mul F.fills_int_mul F.slot_int_rmul repeat_tuple F.slot_int_index.lookup
    (call_meets F.slot_int_rmul (typeIs_int s k t) F.entry_int_rmul (F.args_int_rmul_2 _ _) (int_rmul_tuple k t l its.toArray n dd sl)
     ⟨ho,rfl,⟨_,ho,rfl⟩,call_meets F.slot_tuple_mul ⟨_,ho,rfl⟩ F.entry_tuple_mul (F.args_tuple_mul_2 _ _) (tuple_mulW l its.toArray n dd sl k t c0 c1 c2 (by omega) c4 (by rw [size_rep,List.size_toArray]; exact flen)) ⟨ho,?_⟩⟩)
   rw [size_rep]
   exact I.newT (its:=(List.replicate k.toNat its).flatten) (by rw [PyProof.Rows.lm_len_rep_flat,sizeLine_eq]; omega) (r.rep k.toNat) q
end
end L2
namespace ND
open PySem L2
section
variable {g:G} {c:List Addr} {F:Hp}
theorem Vls.rep {vs:List V} {xs:List D} (h:Vls g F c vs xs):∀ k:Nat,Vls g F c (List.replicate k vs).flatten (List.replicate k xs).flatten
 | 0=>.nil
 | k+1=>by
  rw [List.replicate_succ,List.replicate_succ,List.flatten_cons,List.flatten_cons]
  exact h.append (Vls.rep h k)
def ZbX (x y:D):M D:=match x,y with
 | .tup xs,.int k=>M.chk (decide (0≤k∧k≤1000∧xs.length≤1000∧xs.length ≠ 0)) (pure (.tup (List.replicate k.toNat xs).flatten))
 | _,_=>M.no
theorem od_mulT:OpD g (rRepF g.K) ZbX:=by
 intro c S H v w d e Q E r hv hw o
 unfold ZbX at o
 split at o
 ·rename_i xs k
  cases hw with
  | int k=>
   obtain ⟨h,o2⟩:=Out.chk o
   obtain ⟨h1,h2,h3,h4⟩:=of_decide_eq_true h
   cases hv with
   | tup sq l=>
    rename_i a vs
    have hl:=l.length
    refine ⟨_,k,vs,rfl,rfl,Evl.ex_t frz_ex sq.sq,(fun e=>by subst e; simp at hl; omega),by omega,?_⟩
    by_cases hk:k=1
    ·subst hk
     refine .inl ⟨rfl,?_⟩
     have e1:(List.replicate (1:Int).toNat xs).flatten=xs:=by simp
     rw [e1] at o2
     exact Zh r o2 (.tup sq l)
    ·exact .inr ⟨by omega,h2,XM r o2 (Vls.rep l k.toNat)⟩
 ·exact o.elim
end
end ND
namespace L2
open PySem
end L2
namespace ND
open PySem L2
end ND
namespace L2
open PySem PySem.Spec PySem.W PyProof.Rows PyProof.V
theorem Rd.inj {H:Hp} {a:Addr} {u w:HO} (hu:∀ o z,u ≠ .frz o z) (hw:∀ o z,w ≠ .frz o z) (h:Rd H a u) (h':Rd H a w):u=w:=by
 rcases h with h | ⟨o,h⟩ <;> rcases h' with h' | ⟨o',h'⟩
 ·rw [h] at h'; exact Option.some.inj h'
 ·rw [h] at h'; exact absurd (Option.some.inj h') (hu _ _)
 ·rw [h] at h'; exact absurd (Option.some.inj h').symm (hw _ _)
 ·rw [h] at h'
  have:=Option.some.inj h'
  injection this
inductive EqA (K:PySem.W.Frag) (H:Hp):Nat→V→V→Bool→Prop
 | int {n:Nat} (i j:Int):EqA K H n (.int i) (.int j) (decide (i=j))
 | lists {n:Nat} {a b:Addr} {xs ys:List V} {e:Nat→Bool}:SqL K H a xs→SqL K H b ys→xs.length=ys.length→(∀ j x y,xs[j]? = some x→ys[j]? = some y→EqA K H n x y (e j))→EqA K H (n+1) (.ref a) (.ref b) ((List.range xs.length).all e)
 | listsLen {n:Nat} {a b:Addr} {xs ys:List V}:SqL K H a xs→SqL K H b ys→xs.length ≠ ys.length→EqA K H (n+1) (.ref a) (.ref b) false
 | tuples {n:Nat} {a b:Addr} {xs ys:List V} {e:Nat→Bool}:SqT K H a xs→SqT K H b ys→xs.length=ys.length→(∀ j x y,xs[j]? = some x→ys[j]? = some y→EqA K H n x y (e j))→EqA K H (n+1) (.ref a) (.ref b) ((List.range xs.length).all e)
 | dicts {n:Nat} {a b:Addr} {ks ls:List (Key × V)} {e:Key→Bool}:Rd H a (.dK ks)→Rd H b (.dK ls)→(∀ k v y,(k,v) ∈ ks→valV ls k=some y→EqA K H n v y (e k))→EqA K H (n+1) (.ref a) (.ref b) (ks.length == ls.length && ks.all fun p=>(valV ls p.1).isSome && e p.1)
end L2
namespace ND
open PySem L2
section
def Ji:SM:=fun _ _=>.bad
end
end ND
namespace L2
open PySem
def pick {α:Type} (idx:List Nat) (xs:List α):List α:=idx.filterMap fun i=>xs[i]?
end L2
namespace ND
open PySem L2
def mCall2 (n m:Nat) (idx:List Nat) (cs:List D) (f:List D→M D) (ms mk:AM):EM:=fun τ=>ms τ >>= fun xs=>mk τ >>= fun ys=>M.chk (decide (xs.length=n∧ys.length=m)) (f (pick idx (xs++ys++cs)))
section
variable {ms mk:AM} {mo:EM} {n m:Nat} {idx:List Nat} {cs:List D}
def mMeth2 (C md:Str) (j n m:Nat) (idx:List Nat) (cs:List D) (f:List D→M D) (mo:EM) (ms mk:AM):EM:=fun τ=>mo τ >>= fun x=>isObj C md x >>= fun _=>mCall2 n m idx cs (methD C md j f x) ms mk τ
end
end ND
namespace L2
open PySem PySem.Spec PyProof.Rows
end L2
namespace ND
open PySem L2
section
variable {ms:AM}
def Zhc (ds:List D):M (List D):=match ds with
 | [.tup xs,.tup ys]=>M.chk (decide (xs.length=ys.length)) (pure (List.zipWith Wj xs ys))
 | [.lst xs,.lst ys]=>M.chk (decide (xs.length=ys.length)) (pure (List.zipWith Wj xs ys))
 | _=>M.no
def mZipS (ms:AM):IM:=fun τ=>ms τ >>= Zhc
end
section
def compDL (t:Tg) (tt:TM) (tk tv:EM) (τ:DSt):List D→List (Key × D)→M (List (Key × D))
 | [],acc=>pure acc
 | d :: ds,acc=>(match t.bind d τ with
  | some τ1=>tt τ1 >>= fun b=>if b=true then tk τ1 >>= fun k=>tv τ1 >>= fun v=>(match Xe k with
   | some q=>M.chk (decide (acc.length < sizeLine)) (compDL t tt tk tv τ ds (putD acc q v))
   | none=>M.no) else compDL t tt tk tv τ ds acc
  | none=>M.no)
def mCompD (it:IM) (vs:List Nat) (t:Tg) (tt:TM) (tk tv:EM):EM:=fun τ=>it τ >>= fun xs=>noErr (compDL t tt tk tv (wipeD τ vs) xs []) >>= fun kvs=>newCell (.dct kvs)
end
end ND
namespace L2
open PySem PySem.Spec PyProof.Rows
end L2
namespace ND
open PySem L2
end ND
namespace L2
open PySem
end L2
namespace ND
open PySem L2
end ND
namespace L2
open PySem PySem.Spec PyProof.Rows HotX L2H
end L2
namespace ND
open PySem L2
open L2H hiding St
section
variable {X:Cx}
theorem PIH.imp {tg it:Expr} {t t':TI} (h:PIH X tg it t) (k:∀ σ H R,t' σ H R→t σ H R):PIH X tg it t':=⟨fun pins s σ H R I q=>h.run pins s σ H R I (k σ H R q)⟩
end
end ND
namespace ND
open PySem L2
section
variable {m:EM}
def slDC (x:D) (lo hi:Option Int):M D:=fun S=>match dr S x with
 | .lst xs | .rol xs=>newCell (.lst (cut xs lo hi)) S
 | _=>.bad
def mSlC (m:EM) (ml mh:OM):EM:=fun τ=>m τ >>= fun x=>ml τ >>= fun lo=>mh τ >>= fun hi=>slDC x lo hi
end
section
def UR:List (Option PyData)→Option (List PyData)
 | []=>some []
 | x :: xs=>(match x,UR xs with
  | some d,some ds=>some (d :: ds)
  | _,_=>none)
def pyS:Nat→Za→D→Option PyData
 | 0,_,_=>none
 | n+1,S,d=>match dr S d with
  | .tup xs=>(match UR (xs.map (pyS n S)) with
   | some zs=>some (.tuple zs)
   | none=>none)
  | .lst xs=>(match UR (xs.map (pyS n S)) with
   | some zs=>some (.list zs)
   | none=>none)
  | x=>py x
end
end ND
namespace PySem.W
open PySem PySem.Calls PyProof.Rows
end PySem.W
namespace L2
open PySem PySem.W
end L2
namespace ND
open PySem L2
end ND
namespace L2
open PySem PySem.Spec PySem.W PyProof.Rows PyProof.V
def rE0 (K:PySem.W.Frag) (neg:Bool):R2:=fun x y H Q=>∃ a b xs,x = .ref a∧y = .ref b∧SqL K H a xs∧SqL K H b []∧Q (.bl (xs.isEmpty != neg)) H
section
variable {X:Cx}
theorem op_ne0 (hu:X.A.units+64 < cLine):OpR X (compareOp .NotEq) (rE0 X.K true):=fun pins s σ H x y v u Q I rx ry ⟨a,b,xs,ex,ey,ha,hb,q⟩=>by
 subst ex ey
 obtain rfl:v = .ref a:=rx
 obtain rfl:u = .ref b:=ry
 obtain ⟨us,r1,p1,_⟩:=I.list ha
 obtain ⟨ws,r2,p2,_⟩:=I.list hb
 cases r2
 have l1:=r1.length
 cases xs with
 | nil=>
  cases r1
  exact SeqAt.RcNeAt.lists (e:=fun _=>true) p1.isList p2.isList rfl (by omega) (fun j h1 h2=>absurd h1 (by simp)) _ _ _ _ ⟨.bl _,H,I,rfl,q⟩
 | cons x xs=>
  have n0:us.length ≠ 0:=by rw [← l1]; simp
  exact SeqAt.RcNeAt.lists_lengths p1.isList p2.isList (bne_iff_ne.mpr (by rw [List.size_toArray,List.size_toArray]; exact n0)) (by omega) _ _ _ _ ⟨.bl _,H,I,rfl,q⟩
end
end L2
namespace ND
open PySem L2
section
variable {g:G}
def eq0D (neg:Bool) (x y:D):M D:=fun S=>match dr S x,dr S y with
 | .lst xs,.lst []=>.ok (.bl (xs.isEmpty != neg)) S
 | _,_=>.bad
theorem ZdV {neg:Bool}:OpD g (rE0 g.K neg) (eq0D neg):=by
 intro c S H v w d e Q E r hv hw o
 unfold eq0D at o
 split at o
 ·rename_i xs h1 h2
  have s1:=dr_seen r hv
  have s2:=dr_seen r hw
  rw [h1] at s1
  rw [h2] at s2
  obtain ⟨a,vs,rfl,k1,l1⟩:=s1.lst'
  obtain ⟨b,us,rfl,k2,l2⟩:=s2.lst'
  cases l2
  refine ⟨a,b,vs,rfl,rfl,SqL.of k1,SqL.of k2,?_⟩
  rw [show vs.isEmpty=xs.isEmpty by cases l1 <;> rfl]
  exact Zh r o (.bl _)
 ·exact o.elim
end
end ND
namespace NDS
open PySem PySem.W PyProof.Rows
theorem star_lst {prog:Program} {w:World} {A:Around} {E:Value→Shared→Prop} {s:Shared} {l:Addr} {its:Array Value} {i:Nat} {Q:List Value→Shared→Prop} (ht:s.heap.IsList l its) (calm:A.handled=none) (hi:i≤its.size) (few:its.size≤16384)
  (want:∀ (h':Heap) (tk:Nat),(∀ b o,s.heap.get? b=some o→h'.get? b=some o)→Q (its.toList.take i++[.ref h'.objs.size]) { s with heap:=h'.push (seqObj "list" (its.toList.drop i).toArray 0),toks:=tk }) :
  wpAny (model prog w) A (unpackItems (.ref l) (i+1) (some i)) Q E s:=by
 have lt:l < s.heap.objs.size:=by obtain ⟨o,ho,_⟩:=ht; exact Heap.lt_size ho
 have ne:l ≠ s.heap.objs.size:=Nat.ne_of_lt lt
 unfold unpackItems notIterableAtAll
 refine wpAny_bind (wpAny_bind (wpAny_specialOf ht.typeIs slot_list_iter.lookup (wpAny_pure ?_)))
 rw [if_neg (by simp)]
 refine wpAny_bind (wpAny_holding (wpAny_pyIter_list ht ?_))
 refine wpAny_bind (wpAny_holding (kun_draw ne i 0 _ _ ⟨_,Heap.get?_push_size _ rfl,rfl,rfl⟩ (ht.push _) (by omega) fun h1 it1 sb1=>?_))
 have t1:h1.IsList l its:=(ht.push _).extBut sb1.extBut ne
 rw [Nat.zero_add] at it1
 have ⟨oi,hoi,_⟩:=id it1
 have ⟨ol,hol,_⟩:=id t1
 have lf:(its.toList.take i).length=i:=by rw [List.length_take,Array.length_toList]; omega
 rw [List.drop_zero,if_neg (by rw [lf]; omega)]
 refine wpAny_bind (wpAny_holding (kun_collect (s:={ s with heap:=h1 }) (T := "list_iterator") (.inr (.inr (.inl rfl))) (Walks.list (A:=A.in1) calm s.heap.objs.size l ne its) (fun j u st=>st.1.typeIs) (k:=i) hi ⟨it1,t1⟩ (Heap.lt_size hoi) (Heap.lt_size hol) (fun h2 tk kp=>?_) (by rw [sizeLine_eq]; omega)))
 have kp2:∀ b o,s.heap.get? b=some o→h2.get? b=some o:=fun b o e=>kp b o (Nat.ne_of_lt (Heap.lt_size e)) (sb1.extBut b o (Nat.ne_of_lt (Heap.lt_size e)) (Heap.get?_push_of_some _ e))
 have e1:(its.toList.drop i).length - (i+1 - 1 - i)=(its.toList.drop i).length:=by omega
 show wpAny _ _ (if (its.toList.drop i).length < i+1 - 1 - i then _ else _) _ _ _
 rw [if_neg (by omega)]
 show wpAny _ _ (newList ((its.toList.drop i).take ((its.toList.drop i).length - (i+1 - 1 - i))) >>= fun d=>pure (its.toList.take i++[d]++(its.toList.drop i).drop ((its.toList.drop i).length - (i+1 - 1 - i)))) _ _ _
 rw [e1,List.take_length,List.drop_length]
 refine wpAny_bind (wpAny_newList ?_ (by rw [List.length_drop,Array.length_toList,sizeLine_eq]; omega))
 refine wpAny_pure ?_
 rw [List.append_nil]
 exact want h2 tk kp2
end NDS
namespace L2
open PySem PyProof.Rows
section
variable {X:Cx} {pos:Pos}
def gStarL (K:PySem.W.Frag) (i:Nat) (t:TGs):TG:=fun v σ H Q=>∃ a xs,v = .ref a∧SqL K H a xs∧i≤xs.length∧xs.length≤16384∧∀ p,H p=none→t (xs.take i++[.ref p]) σ (upd H p (.lst (xs.drop i))) Q
theorem pg_starL {es:List Expr} {k i:Nat} {t:TGs} (calm:X.calm=true) (h:PGs X es t) (hn:(assignEach es X.env).length=i+1:=by rfl) (hst:(assignEach es X.env).findIdx? (·.1)=some i:=by rfl):PG X (.Tuple es k pos) (gStarL X.K i t) where
 run:=fun pins s σ H v u Q I r ⟨a,xs,e1,sq,hi,few,want⟩=>by
  subst e1
  cases r
  obtain ⟨its,rv,tp,_⟩:=I.list sq
  have l1:=rv.length
  rw [assign_Tuple]
  refine wpAny_bind (wpAny_standAt ?_)
  unfold unpack
  rw [hn,hst]
  refine wpAny_bind (wpAny_holding (NDS.star_lst (its:=its.toArray) tp.isList (I.ok.hd calm) (by simp; omega) (by simp; omega) fun h' tk kp=>?_))
  have free:H h'.objs.size=none:=(I.hok.kept kp).fresh (Nat.le_refl _)
  have none_:s.heap.get? h'.objs.size=none:=by
   cases q:s.heap.get? h'.objs.size with
   | none=>rfl
   | some o=>exact absurd (Heap.lt_size (kp _ _ q)) (Nat.lt_irrefl _)
  have kp2:∀ b o,s.heap.get? b=some o→(h'.push (seqObj "list" (its.drop i).toArray 0)).get? b=some o:=fun b o e=>Heap.get?_push_of_some _ (kp b o e)
  have rd:Vals (xs.drop i) (its.drop i):=rv.drop i
  have len:(xs.drop i).length≤sizeLine:=by rw [List.length_drop,sizeLine_eq]; omega
  have I1:=I.laidN (t':=tk) (o:=.lst (xs.drop i)) kp2 none_ free ⟨len,_,0,rd,Heap.get?_push_size _ rfl⟩
  refine h.run pins _ σ _ _ _ Q I1 ?_ (want _ free)
  refine Vals.append ?_ (.cons rfl .nil)
  exact rv.take i
end
end L2
namespace ND
open PySem L2
section
variable {X:Cx} {W:WX} {cur:Cur} {hid:List Addr} {c:List Addr} {S:Za} {H:Hp} {e:Expr} {es:List Expr} {m:EM} {pos:Pos}
def starKL (is:List Nat) (j:Nat) (d:D) (τ:DSt) (S:Za):SRes:=match dr S d with
 | .lst xs=>if is.length≤xs.length∧xs.length≤16384 then .ok (.nx ((setAll is xs τ).set j (some (.lst (xs.drop is.length))))) S else .bad
 | _=>.bad
def sStarL (is:List Nat) (j:Nat) (m:EM):SM:=fun τ=>sOf (m τ) τ fun d S=>starKL is j d τ S
theorem ds_starL {is:List Nat} {j k:Nat} (calm:X.calm=true) (he:PE X e (tE (gx X cur hid) W m)) (hg:PGs X es (rdAll is j)) (hn:(assignEach es X.env).length=is.length+1:=by rfl) (hst:(assignEach es X.env).findIdx? (·.1)=some is.length:=by rfl) {tpos:Pos}
  (hs:swapsWithSole [.Tuple es k tpos] e pos.line X.env=pure false:=by rfl) (hw:swappedStores [.Tuple es k tpos] e X.env=pure none:=by rfl) (h1:(assignEach [.Tuple es k tpos] X.env).map (·.2)=[assign (.Tuple es k tpos) X.env]:=by rfl) :
  PS X (.Assign [.Tuple es k tpos] e pos) (tS (gx X cur hid) W (sStarL is j m)):=PS.imp (ps_asg he (pg_starL calm hg hn hst) hs hw h1) fun De σ H h=>
 tS_of (k:=fun d τ S=>starKL is j d τ S) h fun c S H1 τ v d r1 sl v1 o1=>by
  unfold starKL at o1
  have sv:=dr_seen r1 v1
  split at o1
  ·rename_i xs hx
   rw [hx] at sv
   obtain ⟨a,vs,rfl,k1,l1⟩:=sv.lst'
   split at o1
   ·rename_i hc
    obtain ⟨hl,few⟩:=hc
    refine ⟨a,vs,rfl,SqL.of k1,by rw [l1.length]; exact hl,by rw [l1.length]; exact few,fun p free=>?_⟩
    have f:=Fut.new (o:=.lst (vs.drop is.length)) r1 free
    exact VX (.lst (Fut.frz_new r1 free) ((f.vls l1).drop _)) (f.vls l1) hl (sl.mono f.ex f.pre) fun σ' s'=>o1 σ' _ c f s'
   ·exact o1.elim
  ·exact o1.elim
end
section
variable {ms:AM} {t:Tg} {tt:TM} {te:EM}
def mCompWE (ms:AM) (vs:List Nat) (t:Tg) (tt:TM) (te:EM):EM:=fun τ=>ms τ >>= fun ds=>match ds with
 | [x]=>compW x fun xs=>noErr (compL t tt te (wipeD τ vs) (enumL 0 xs) [])
 | _=>M.no
end
section
variable {C:Addr}
def sRaise0 (nm:Str):SM:=fun τ S=>.err nm [] τ S
def sTryN (mb:SM) (hit:Str→Option Bool) (ms:SM):SM:=fun τ S=>match mb τ S with
 | .err C fs τ' S'=>(match hit C with
  | some true=>(match ms τ' (S'++[.dead]) with
   | .ok f S2=>.ok f S2
   | _=>.bad)
  | some false=>.err C fs τ' S'
  | none=>.bad)
 | r=>r
end
end ND
namespace L2
open PySem
end L2
namespace ND
open PySem L2
end ND
namespace L2
open PySem PySem.Spec PySem.W PyProof.Rows HT
end L2
namespace ND
open PySem L2
section
variable {g:G}
def strID (ds:List D):M D:=match ds with
 | [.int i]=>M.chk (okP (i.natAbs.log2 < 1920∧SOk (toString i))) (pure (.str (toString i)))
 | _=>M.no
theorem JE:CbD g (fun xs H Q=>∃ i,xs=[.int i]∧i.natAbs.log2 < 1920∧Q (.str (toString i)) H) strID:=by
 intro c S H vs ds Q E r hv o
 unfold strID at o
 split at o
 ·rename_i i
  obtain ⟨v,rfl,hv1⟩:=UP hv
  cases hv1
  obtain ⟨hc,o2⟩:=Out.chk o
  obtain ⟨h1,h2⟩:=okP_of hc
  exact ⟨i,rfl,h1,Zh r o2 (.str h2)⟩
 ·exact o.elim
def slPut (z x:D) (lo hi:Option Int):M Unit:=fun S=>match z,x,lo,hi with
 | .cel k,.cel n,some i,some j=>(match S[k]?,S[n]? with
  | some (.lst []),some (.lst (x0 :: xs))=>if 0≤i∧i≤j∧j≤(x0 :: xs).length∧(x0 :: xs).length≤sizeLine then .ok () (S.set n (.lst ((x0 :: xs).take i.toNat++(x0 :: xs).drop j.toNat))) else .bad
  | _,_=>.bad)
 | _,_,_,_=>.bad
section
def sSlPut (m mo:EM) (ml mh:OM):SM:=fun τ=>sOf (m τ >>= fun z=>mo τ >>= fun x=>ml τ >>= fun lo=>mh τ >>= fun hi=>slPut z x lo hi) τ fun _ S=>.ok (.nx τ) S
end
end
theorem Fut.more {g:G} {c:List Addr} {S:Za} {H H':Hp} (r:Rep g c S H) (k:∀ b o,H b=some o→H' b=some o):Fut g c S H c S H':=by
 have ex:Ex (frz g c S H) (frz g c S H'):=fun a u h=>by
  obtain ⟨h1,h2,h3⟩:=frz_of h
  rw [frz_in h2 h3]
  exact k _ _ h1
 have hid:∀ a ∈ g.hid,H' a=H a:=fun a ha=>by
  obtain ⟨o,e⟩:=r.hs a ha
  rw [e,k _ _ e]
 refine ⟨Pre.refl c,⟨r.len,r.nd,r.hl,fun a ha=>by rw [hid a ha]; exact r.hs a ha,fun q e=>(r.cu q e).mono ex (Pre.refl c),r.tb,fun n a x h1 h2=>?_⟩,ex,hid⟩
 have ok:=r.ok n a x h1 h2
 cases x with
 | lst xs=>obtain ⟨vs,e,h⟩:=ok; exact ⟨vs,k _ _ e,h.mono ex (Pre.refl c)⟩
 | dct xs=>obtain ⟨vs,e,h⟩:=ok; exact ⟨vs,k _ _ e,h.mono ex (Pre.refl c)⟩
 | kct xs=>obtain ⟨vs,e,h⟩:=ok; exact ⟨vs,k _ _ e,h.mono ex (Pre.refl c)⟩
 | tbl n=>obtain ⟨vs,e,h1,h2⟩:=ok; exact ⟨vs,k _ _ e,h1,fun a b h=>(h2 a b h).imp fun k z=>⟨z.1,ex _ _ z.2⟩⟩
 | ins C fs=>obtain ⟨Ca,dx,ws,m,e,h⟩:=ok; exact ⟨Ca,dx,ws,m,k _ _ e,h.mono ex (Pre.refl c)⟩
 | fz d=>exact Val.mono ex (Pre.refl c) ok
 | dead=>trivial
end ND
namespace L2
open PySem PySem.Spec PySem.W PyProof.Rows
def itP (e:Str × Int):PyData:=.tuple [.str e.1,.int e.2]
section
def Zhe (G:Hp) (t:Addr) (e:Str × Int):Prop:=∃ o,PlT o∧G t=some (.frz o (.tup [.str e.1,.int e.2]))
theorem Zhe.sq {K:PySem.W.Frag} {G:Hp} {t:Addr} {e:Str × Int} (h:Zhe G t e):SqT K G t [.str e.1,.int e.2]:=by
 obtain ⟨o,_,e⟩:=h
 exact .inl (.inr ⟨o,e⟩)
end
end L2
namespace ND
open PySem L2
section
variable {m:EM}
def Zil (e:Str × Int):D:=.tup [.str e.1,.int e.2]
def txIs:List (Key × D)→Option (List (Str × Int))
 | []=>some []
 | (.inr x,.int n) :: r=>(txIs r).map ((x,n) :: ·)
 | _=>none
def sortItD (x:D):M D:=fun S=>match dr S x with
 | .dct kvs=>(match txIs kvs with
  | some es=>if okP (es.length≤1000∧NDS.SortAble (es.map itP)∧∀ e ∈ es,SOk e.1)=true then .ok (.lst (NDS.sortBy (es.map Zil) (es.map itP))) S else .bad
  | none=>.bad)
 | _=>.bad
def mSortIt (m:EM):EM:=fun τ=>m τ >>= fun x=>isK "dict" x >>= fun _=>sortItD x
end
def stillO (o:Obj):HO:=.frz o (.ext fun _=>True)
end ND
namespace L2
open PySem PySem.Spec PyProof.Rows ND
end L2
namespace ND
open PySem PySem.Spec PyProof.Rows L2 NdefX
abbrev CuE.clo (l:LamQ):CuE:=⟨0,0,.none,none, "",[],false,some l⟩
abbrev g0 (K:PySem.W.Frag) (mg:Str→Option Value) (P:Program) (w:World) (hid:List Addr):G:=⟨K,mg,P,w,none,hid⟩
def startL (N:List Str) (cs ds:List D):DSt:=ds.map some++(cs.map some++List.replicate (N.length - ds.length - cs.length) none)
section
variable {ms:AM}
def mCallR (i n:Nat) (fm:List D→M D) (ms:AM):EM:=fun τ=>match τ[i]? with
 | some (some .raw)=>ms τ >>= fun ds=>noErr (arity n fm ds)
 | _=>M.no
end
end ND
namespace ND
open PySem PySem.Spec PyProof.Rows L2 NdefX LamX
section
variable {H:Hp}
structure Made (H:Hp) (p:Addr) (ps:Array Value) (q:Str) (pos:Pos) (f c':Addr) (fo:Obj) (H1:Hp):Prop where
 old:∀ b o,H b=some o→b ≠ p→H1 b=some o
 new:H f=none
 fn:H1 f=some (stillO fo)
 co:H1 c'=some (CodeO c' q)
 un:H c'=none∨codeAmong pos ps.toList=some (.ref c')
 tab:∃ pz:Array Value,H1 p=some (.tbl pz)∧TriplesOk pz.toList∧∀ (at_:Pos) (cv:Value),codeAmong at_ pz.toList=some cv→codeAmong at_ ps.toList=some cv∨cv = .ref c'
end
section
variable {g:G} {c:List Addr} {S:Za} {H H1:Hp} {p:Addr} {ps:Array Value} {q:Str} {pos:Pos} {f c':Addr} {fo:Obj} {n:Nat}
theorem Made.fut (r:Rep g c S H) (hn:c[n]? = some p) (hs:S[n]? = some (.tbl q)) (hp:H p=some (.tbl ps)) (m:Made H p ps q pos f c' fo H1):Fut g c S H c S H1∧frz g c S H1 f=some (stillO fo)∧frz g c S H1 c'=some (CodeO c' q):=by
 have inL:=mem_live hn hs rfl
 obtain ⟨pz,t1,t2,t3⟩:=m.tab
 have ok0:=r.ok n p _ hn hs
 obtain ⟨pq,k1,k2,k3⟩:=ok0
 obtain rfl:ps=pq:=by
  rw [hp] at k1
  cases k1
  rfl
 have ex:Ex (frz g c S H) (frz g c S H1):=fun a u h=>by
  obtain ⟨h1,h2,h3⟩:=frz_of h
  rw [frz_in h2 h3]
  exact m.old a u h1 fun e=>h2 (e ▸ inL)
 have off:∀ {a:Addr},H a=none→a ∉ live c S∧a ∉ g.hid:=fun {a} e=>⟨(fun z=>by
  obtain ⟨o,e2⟩:=Yr r z
  rw [e] at e2; cases e2),(fun z=>by
  obtain ⟨o,e2⟩:=r.hs a z
  rw [e] at e2; cases e2)⟩
 have hf:frz g c S H1 f=some (stillO fo):=by rw [frz_in (off m.new).1 (off m.new).2]; exact m.fn
 have hc:frz g c S H1 c'=some (CodeO c' q):=by
  rcases m.un with z | z
  ·rw [frz_in (off z).1 (off z).2]; exact m.co
  ·obtain ⟨k,e1,e2⟩:=k3 pos _ z
   cases e1
   exact ex _ _ e2
 have hid:∀ a ∈ g.hid,H1 a=H a:=fun a ha=>by
  obtain ⟨o,e⟩:=r.hs a ha
  rw [e]
  exact m.old a o e fun z=>r.hl p inL (z ▸ ha)
 refine ⟨⟨Pre.refl c,⟨r.len,r.nd,r.hl,fun a ha=>by rw [hid a ha]; exact r.hs a ha,fun z e=>(r.cu z e).mono ex (Pre.refl c),r.tb,fun i b y h1 h2=>?_⟩,ex,hid⟩,hf,hc⟩
 have ok:=r.ok i b y h1 h2
 by_cases e:i=n
 ·subst e
  rw [hn] at h1; cases h1
  rw [hs] at h2; cases h2
  refine ⟨pz,t1,t2,fun a v z=>?_⟩
  rcases t3 a v z with y | y
  ·obtain ⟨k,e1,e2⟩:=k3 a v y
   exact ⟨k,e1,ex _ _ e2⟩
  ·exact ⟨c',y,hc⟩
 ·have keep:∀ {o:HO},y.alive=true→H b=some o→H1 b=some o:=fun {o} hy z=>m.old b o z fun w=>e (live_inj r.nd (w ▸ h1) h2 hy hn hs rfl)
  cases y with
  | lst xs=>obtain ⟨vs,e,h⟩:=ok; exact ⟨vs,keep rfl e,h.mono ex (Pre.refl c)⟩
  | dct xs=>obtain ⟨vs,e,h⟩:=ok; exact ⟨vs,keep rfl e,h.mono ex (Pre.refl c)⟩
  | kct xs=>obtain ⟨vs,e,h⟩:=ok; exact ⟨vs,keep rfl e,h.mono ex (Pre.refl c)⟩
  | tbl z=>obtain ⟨vs,e,h1,h2⟩:=ok; exact ⟨vs,keep rfl e,h1,fun a b h=>(h2 a b h).imp fun k z=>⟨z.1,ex _ _ z.2⟩⟩
  | ins C fs=>obtain ⟨Ca,dx,ws,m,e,h⟩:=ok; exact ⟨Ca,dx,ws,m,keep rfl e,h.mono ex (Pre.refl c)⟩
  | fz d=>exact Val.mono ex (Pre.refl c) ok
  | dead=>trivial
end
abbrev gl (K:PySem.W.Frag) (mg:Str→Option Value) (P:Program) (w:World) (l:LamQ) (hid:List Addr):G:=⟨K,mg,P,w,some (CuE.clo l),hid⟩
theorem Sl.more {g:G} {F:Hp} {c:List Addr} {σ:L2.St} {τ:DSt} (n:Nat) (h:Sl g F c σ τ):Sl g F c (σ++List.replicate n none) (τ++List.replicate n none):=by
 induction h with
 | nil=>exact Sl.rep n
 | un _ ih=>exact .un ih
 | hs v _ ih=>exact .hs v ih
 | cl z _ ih=>exact .cl z ih
def capD (τ:DSt):List Nat→Option (List D)
 | []=>some []
 | j :: r=>match τ[j]?,capD τ r with
  | some (some d),some cs=>some (d :: cs)
  | _,_=>none
def mMethL (C m:Str) (fq:(List D→M D)→List D→M D) (N:List Str) (js:List Nat) (me:EM) (mo:EM):EM:=fun τ=>mo τ >>= fun x=>isObj C m x >>= fun _=>match capD τ js with
 | some cs=>noErr (fq (fun ds=>noErr (me (startL N cs ds))) [x,.raw])
 | none=>M.no
def mVarR (i:Nat):EM:=fun τ S=>match τ[i]? with
 | some (some .raw)=>.bad
 | some (some d)=>.ok d S
 | _=>.bad
end ND
namespace ND
open PySem PySem.Spec PyProof.Rows L2
theorem Ui {K:PySem.W.Frag} {f p:Addr} (e:UV K f=some p):∃ (a:Value) (b:Option Addr) (fd:FuncData) (sl:Array (Option Value)) (c:Addr),K.lookup f=some ⟨a,b,.func fd,sl⟩∧fd.code = .ref c∧PySem.W.codeHdIn K c p=true∧K.lookup p=none:=by
 unfold UV at e
 split at e
 ·rename_i a b fd sl h1
  split at e
  ·rename_i c h2
   split at e
   ·rename_i a2 b2 vs sl2 h3
    split at e
    ·rename_i p2 h4
     split at e
     ·rename_i h5
      cases e
      rw [Bool.and_eq_true] at h5
      exact ⟨a,b,fd,sl,c,h1,h2,h5.1,Option.isNone_iff_eq_none.mp h5.2⟩
     ·cases e
    ·cases e
   ·cases e
  ·cases e
 ·cases e
theorem Qa {K:PySem.W.Frag} {p:Addr × Str} (h:p ∈ tabsOf K):∃ c,PySem.W.codeHdIn K c p.1=true∧K.lookup p.1=none:=by
 obtain ⟨m,_,e⟩:=List.mem_filterMap.mp h
 split at e
 ·split at e
  ·rename_i f _ _ k
   cases e
   obtain ⟨_,_,_,_,c,_,_,h1,h2⟩:=Ui k
   exact ⟨c,h1,h2⟩
  ·cases e
 ·cases e
def K0 (K:PySem.W.Frag) (G:Hp):Prop:=(∀ p ∈ tabsOf K,G p.1=some (.tbl #[]))∧∀ b,G b=none∨b ∈ (tabsOf K).map (·.1)∨∃ o xs,G b=some (.frz o (.lst xs))
theorem Zdc {P:Program} {w:World} {K:PySem.W.Frag} {mg mb:Str→Option Value} {CX:CXT} {k:Nat} {fa a:Addr} {fd:FuncData} {x:Str} {sp:Sp} {s1:Shared} {us:List Value} {ns:List Int}
  (inK:K.In s1.heap) (glo:s1.heap.Ns mainGlobals mg) (bui:s1.heap.Ns builtinsNs mb) (same:∀ x:Str,x ≠ "__name__" → mb x=bootBuiltins x) (noL:s1.heap.NoLimit) (gens:s1.gens = #[]) (obj:s1.heap.get? a=some { cls:=.type "list",data:=.seq us.toArray }) (areI:IntsAre us ns) (few:ns.length≤sizeLine) (room:RoomG k callerA)
  (tab0:∀ p ∈ tabsOf K,s1.heap.get? p.1=some { cls:=.none,data:=.fields #[] })
  (F:∀ base:Heap,K.In base→base.Ns mainGlobals mg→FnG P w K mg base CX k fa fd [x] sp) (to:∀ (s:Shared) (u:Value),BindsTo s fd ⟨[u],[]⟩ [(x,u)]) (want:∀ G:Hp,K0 K G→SqL K G a (ns.map V.int)→sp [.ref a] G (fun v _=>v = .bl true) fun _ _ _=>False) (noX:∀ G e s',CX [] G s1 (fun _ _ _=>False) e s'→False) :
  codeAny (model P w) callerA (.call (.ref fa) ⟨[.ref a],[]⟩) (fun r s'=>r = .ok (.ret (.bool true))∧OldK s1.heap s'.heap∧s'.os=s1.os∧AllBare s'.gens) s1:=by
 have tabAt:∀ {b:Addr},b ∈ (tabsOf K).map (·.1)→s1.heap.get? b=some { cls:=.none,data:=.fields #[] }∧K.lookup b=none∧∃ c,PySem.W.codeHdIn K c b=true:=fun {b} hb=>by
  obtain ⟨p,hp,rfl⟩:=List.mem_map.mp hb
  obtain ⟨c,h1,h2⟩:=Qa hp
  exact ⟨tab0 p hp,h2,c,h1⟩
 have main:∀ G:Hp,K0 K G→SqL K G a (ns.map V.int)→HOk P w G s1.heap→(∀ b,G b ≠ none→(b=a∧K.lookup a=none)∨b ∈ (tabsOf K).map (·.1))→codeAny (model P w) callerA (.call (.ref fa) ⟨[.ref a],[]⟩) (fun r s'=>r = .ok (.ret (.bool true))∧OldK s1.heap s'.heap∧s'.os=s1.os∧AllBare s'.gens) s1:=by
  intro G only sq ok lone
  have dicts:∀ {b:Addr} {m:Str→Option Value},s1.heap.Ns b m→(hidT s1.heap G).Ns b m:=fun {b m} ⟨o,es,ep,e,d,r⟩=>by
   refine ⟨o,es,ep,hidT_get e ?_,d,r⟩
   by_cases q:G b=none
   ·exact q
   ·rcases lone b q with ⟨rfl,_⟩ | z
    ·rw [obj] at e
     cases e
     exact absurd (show Data.seq us.toArray _=Data.dict es ep from d) (by intro z; cases z)
    ·rw [(tabAt z).1] at e
     cases e
     exact absurd (show Data.fields #[]=Data.dict es ep from d) (by intro z; cases z)
  have inB:K.In (hidT s1.heap G):=fun b o e=>hidT_get (inK b o e) (by
   by_cases q:G b=none
   ·exact q
   ·rcases lone b q with ⟨rfl,z⟩ | z
    ·rw [z] at e; cases e
    ·rw [(tabAt z).2.1] at e; cases e)
  have e0:Env0 P w K mg (hidT s1.heap G) callerA [] s1 G:=
   { frames:=rfl,mod:=⟨inB,dicts glo,⟨mb,dicts bui,same⟩,let ⟨mc,h1,h2⟩:=noL; ⟨mc,dicts h1,h2⟩⟩,bs:=fun b o e=>of_hidT e,bsz:=Nat.le_of_eq (hidT_size _ _),funs:=trivial, frf:=fun b z=>absurd (show b ∈ ([]:List Addr) from z) List.not_mem_nil,hok:=ok,bare:=.of_eq gens }
  refine codeAny_mono ((F _ inB (dicts glo)).run callerA [] s1 G ⟨[.ref a],[]⟩ [.ref a] [.ref a] _ _ room e0 (to s1 (.ref a)) (.cons rfl .nil) (want G only sq)) fun r s' ended=>?_
  match r with
  | .error e=>exact (noX G e s' ended).elim
  | .ok .next=>exact ended.elim
  | .ok .brk=>exact ended.elim
  | .ok .cont=>exact ended.elim
  | .ok (.ret u)=>
   obtain ⟨v,G',os,bare,un,ok',rv,q⟩:=ended
   obtain rfl:v = .bl true:=q
   obtain rfl:u=Value.bool true:=rv
   have grew:∀ b,b ∈ (tabsOf K).map (·.1)→∃ more:Array Value,s'.heap.get? b=some { cls:=.none,data:=.fields more }:=fun b hb=>by
    obtain ⟨p,hp,rfl⟩:=List.mem_map.mp hb
    obtain ⟨more,z⟩:=un.tbls p.1 #[] (only.1 p hp)
    exact ⟨_,ok' p.1 _ z⟩
   have rest:∀ b o,b ∉ (tabsOf K).map (·.1)→s1.heap.get? b=some o→s'.heap.get? b=some o:=fun b o nb e=>by
    rcases only.2 b with free | z | ⟨ob,ys,isF⟩
    ·exact un.keep b o e free (fun z=>absurd (show b ∈ ([]:List Addr) from z) List.not_mem_nil) (by simp)
    ·exact absurd z nb
    ·have e1:=(ok b _ isF).1
     rw [e] at e1
     cases e1
     exact (ok' b _ (un.frzs b _ _ isF)).1
   refine ⟨rfl,⟨fun b o e=>?_,fun b o e=>?_⟩,os,bare⟩
   ·by_cases hb:b ∈ (tabsOf K).map (·.1)
    ·obtain ⟨more,hm⟩:=grew b hb
     obtain ⟨t0,_,c,hc⟩:=tabAt hb
     rw [t0] at e
     cases e
     exact .inr (.inl ⟨((PySem.W.codeHd_of_K inK hc).tab t0).isCodeTable,rfl,#[],more,rfl,by rw [Array.empty_append]; exact hm⟩)
    ·exact .inl (rest b o hb e)
   ·by_cases hb:b ∈ (tabsOf K).map (·.1)
    ·obtain ⟨more,hm⟩:=grew b hb
     exact ⟨_,hm⟩
    ·exact ⟨o,rest b o hb e⟩
 have rel:=vals_ints areI
 have aT:a ∉ (tabsOf K).map (·.1):=fun z=>by
  have t0:=(tabAt z).1
  rw [obj] at t0
  have z':Data.seq us.toArray _=Data.fields #[]:=congrArg Obj.data (Option.some.inj t0)
  cases z'
 cases hk:K.lookup a with
 | some o=>
  have e:=inK a o hk
  rw [obj] at e
  cases e
  refine main (fun b=>if b ∈ (tabsOf K).map (·.1) then some (.tbl #[]) else none) ⟨fun p hp=>if_pos (List.mem_map.mpr ⟨p,hp,rfl⟩),fun b=>(Decidable.em (b ∈ (tabsOf K).map (·.1))).elim (fun z=>.inr (.inl z)) fun z=>.inl (if_neg z)⟩
   (.inr ⟨_,us.toArray,_,hk,rfl,rfl,rfl,by rw [List.size_toArray,areI.length]; exact few,by simpa using rel⟩) (fun b u z=>?_) fun b z=>(Decidable.em (b ∈ (tabsOf K).map (·.1))).elim .inr fun y=>absurd (if_neg y) z
  by_cases hb:b ∈ (tabsOf K).map (·.1)
  ·cases (if_pos hb).symm.trans z
   exact (tabAt hb).1
  ·cases (if_neg hb).symm.trans z
 | none=>
  refine main (fun b=>if b=a then some (.frz { cls:=.type "list",data:=.seq us.toArray } (.lst (ns.map V.int))) else if b ∈ (tabsOf K).map (·.1) then some (.tbl #[]) else none)
   ⟨fun p hp=>(if_neg (show ¬ p.1=a from fun z=>aT (by rw [← z]; exact List.mem_map.mpr ⟨p,hp,rfl⟩))).trans (if_pos (List.mem_map.mpr ⟨p,hp,rfl⟩)),fun b=>?_⟩ (.inl (.inr ⟨_,if_pos rfl⟩)) (fun b u z=>?_) fun b z=>?_
  ·by_cases h1:b=a
   ·exact .inr (.inr ⟨_,_,if_pos h1⟩)
   ·by_cases h2:b ∈ (tabsOf K).map (·.1)
    ·exact .inr (.inl h2)
    ·exact .inl ((if_neg h1).trans (if_neg h2))
  ·by_cases h1:b=a
   ·cases (if_pos h1).symm.trans z
    subst h1
    exact ⟨obj,by rw [List.length_map]; exact few,us,_,rel,obj⟩
   ·have z1:=(if_neg h1).symm.trans z
    by_cases h2:b ∈ (tabsOf K).map (·.1)
    ·cases (if_pos h2).symm.trans z1
     exact (tabAt h2).1
    ·cases (if_neg h2).symm.trans z1
  ·by_cases h1:b=a
   ·exact .inl ⟨h1,hk⟩
   ·by_cases h2:b ∈ (tabsOf K).map (·.1)
    ·exact .inr h2
    ·exact absurd ((if_neg h1).trans (if_neg h2)) z
theorem walkGT {l:PySem.W.OpenLaw} {n k:Nat} {q:Program} {loose:List Str} {XP:(Str→Option Value)→Heap→Prop} {YP:World→Heap→Prop} {d:DefRec} {CX:CXT} {x:Str} (most:l.most=some n) (few:n≤sizeLine) (plain:d.params.defaults=[]) (room:RoomG k callerA)
  (F:∀ (w:World) (mg:Str→Option Value) (fa:Addr) (h:Heap),YP w h→h.Ns mainGlobals mg→mg d.name=some (.ref fa)→∃ (K:PySem.W.Frag) (fd:FuncData) (sp:Sp),K.In h∧(∀ p ∈ tabsOf K,h.get? p.1=some { cls:=.none,data:=.fields #[] })∧(∀ (s:Shared) (u:Value),BindsTo s fd ⟨[u],[]⟩ [(x,u)]) ∧
   (∀ (G:Hp) (a:Addr) (ns:List Int),ns.length≤n→K0 K G→SqL K G a (ns.map V.int)→sp [.ref a] G (fun v _=>v = .bl true) fun _ _ _=>False)∧∀ base:Heap,K.In base→base.Ns mainGlobals mg→FnG l.prog w K mg base CX k fa fd [x] sp)
  (noX:∀ (G:Hp) (s:Shared) (e:Value) (s':Shared),CX [] G s (fun _ _ _=>False) e s'→False):PySem.W.WalkO q loose XP YP l.row.toRowW d [] (fun f vs=>PySem.call f vs):=
 Att.attach_call most plain fun w _ s1 mg mb fa _ _ _ _ a us ns Gd Y _ _ _ isF obj areI len gens=>by
  obtain ⟨K,fd,sp,inK,t0,to,want,Fs⟩:=F w mg fa _ Y Gd.T.g isF
  exact Zdc inK Gd.T.g Gd.T.b Gd.T.builtins Gd.T.nolimit gens obj areI (Nat.le_trans len few) room t0 Fs to (fun G o s=>want G a ns len o s) fun G e s'=>noX G s1 e s'
theorem WO:∀ T:List (Addr × Str),live (T.map (·.1)) (T.map fun p=>Cell.tbl p.2)=T.map (·.1)
 | []=>rfl
 | p :: T=>by
  rw [List.map_cons,List.map_cons,live,WO T]
  rfl
theorem law_spT {P:Program} {w:World} {K:PySem.W.Frag} {mg:Str→Option Value} {m:List D→M D} {n:Nat} (nd:((tabsOf K).map (·.1)).Nodup) (h:∀ (S0:Za) (ns:List Int),ns.length≤n→∃ S,m [.rol (ns.map D.int)] S0 = .ok (.bl true) S) (H:Hp) (a:Addr) (ns:List Int) (hl:ns.length≤n)
  (hT:K0 K H) (hS:SqL K H a (ns.map V.int)):spD K mg P w 1 m [.ref a] H (fun v _=>v = .bl true) fun _ _ _=>False:=by
 obtain ⟨S',e⟩:=h ((tabsOf K).map fun p=>Cell.tbl p.2) ns hl
 have vl:∀ (F:Hp) (c:List Addr) (ns:List Int),Vls ⟨K,mg,P,w,none,[]⟩ F c (ns.map V.int) (ns.map D.int):=fun F c ns=>by
  induction ns with
  | nil=>exact .nil
  | cons n ns ih=>exact .cons (.int n) ih
 refine ⟨[],(tabsOf K).map (·.1),(tabsOf K).map fun p=>Cell.tbl p.2,[.rol (ns.map D.int)],⟨by rw [List.length_map,List.length_map],by rw [WO]; exact nd,fun b _=>List.not_mem_nil,fun b hb=>absurd (show b ∈ ([]:List Addr) from hb) List.not_mem_nil,
  fun q e=>absurd (show (none:Option CuE)=some q from e) (fun z=>by injection z),fun p hp=>?_,fun i b x k1 k2=>?_⟩,?_,rfl,?_⟩
 ·obtain ⟨i,hi⟩:=List.mem_iff_getElem?.mp hp
  exact ⟨i,by rw [List.getElem?_map,hi]; rfl,by rw [List.getElem?_map,hi]; rfl⟩
 ·rw [List.getElem?_map] at k1 k2
  cases hi:(tabsOf K)[i]? with
  | none=>rw [hi] at k1; cases k1
  | some p=>
   rw [hi] at k1 k2
   cases k1
   cases k2
   exact ⟨#[],hT.1 p (List.mem_of_getElem? hi),trivial,fun pos cv z=>by
    have z:codeAmong pos []=some cv:=z
    simp [codeAmong] at z⟩
 ·refine .cons (.rol (hS.imp (fun r=>?_) id) (vl _ _ ns)) .nil
  have na:a ∉ (tabsOf K).map (·.1):=fun z=>by
   obtain ⟨p,hp,rfl⟩:=List.mem_map.mp z
   have t:=hT.1 p hp
   rcases r with r | ⟨o,r⟩ <;> (rw [t] at r; cases r)
  have e:frz ⟨K,mg,P,w,none,[]⟩ ((tabsOf K).map (·.1)) ((tabsOf K).map fun p=>Cell.tbl p.2) H a=H a:=frz_in (by rw [WO]; exact na) (fun z=>absurd (show a ∈ ([]:List Addr) from z) List.not_mem_nil)
  exact r.imp (fun q=>e.trans q) fun ⟨o,q⟩=>⟨o,e.trans q⟩
 ·rw [e]
  exact fun H' c' f v hv=>by cases hv; rfl
end ND
namespace ND
open PySem L2
open Classical in
def ZgG (t:Tg) (body:SM) (n:Nat) (all:List D):List D→SM
 | [],τ,S=>if S[n]? = some (.lst all) then .ok (.nx τ) S else .bad
 | d :: ds,τ,S=>if S[n]? = some (.lst all) then (match t.bind d τ with
  | some τ1=>(match body τ1 S with
   | .ok (.nx τ2) S2=>ZgG t body n all ds τ2 S2
   | .ok (.ct τ2) S2=>ZgG t body n all ds τ2 S2
   | .ok (.bk τ2) S2=>.ok (.nx τ2) S2
   | r=>r)
  | none=>.bad) else .bad
def forW0 (t:Tg) (body:SM) (d:D) (τ:DSt):Za→SRes:=fun S=>match d with
 | .cel n=>(match S[n]? with
  | some (.lst xs)=>ZgG t body n xs xs τ S
  | _=>.bad)
 | _=>.bad
def sForW (m:EM) (t:Tg) (body:SM):SM:=fun τ=>sOf (m τ) τ fun d=>forW0 t body d τ
end ND
namespace L2N
open PySem L2
end L2N
namespace ND
open PySem L2
end ND
namespace L2
open PySem
end L2
namespace ND
open PySem L2
end ND
namespace PySem.SeqAt
open AutoSeq1 (wpAny_loadPart')
open MeetsSeq MeetsSeq2 MeetsSeq3 SeqRoads2
end PySem.SeqAt
namespace L2
open PySem PySem.Spec PyProof.Rows
end L2
namespace ND
open PySem L2
end ND
namespace PySem.HandSPX
theorem FlyingZ.keeps {base:Heap} {l:List Env} {e:Addr} {Z:Obj→Prop} {h h':Heap} (f:FlyingZ base l e Z h) (k:∀ b o,h.get? b=some o→h'.get? b=some o):FlyingZ base l e Z h':=by
 obtain ⟨f1,f2,f3,oe,vs,T,oT,ts,he,hz,hd,h1,hn,hT,ht,hdT,h3⟩:=f
 exact ⟨fun b o e=>k b o (f1 b o e),f2,Heap.FunFrames.of_keeps (fun b o e _=>⟨o,k b o e,rfl⟩) f3,oe,vs,T,oT,ts,k _ _ he,hz,hd,h1,hn,hT,k _ _ ht,hdT,h3⟩
end PySem.HandSPX
namespace L2N
open PySem L2 PyProof.Rows
end L2N
namespace ND
open PySem L2
end ND
namespace L2
open PySem PySem.Spec PySem.W PyProof.Rows
def vaV (p d:Addr):HO:=.ext fun h=>h.IsValuesView p d
theorem vaV_ok {P:Program} {w:World} {H:Hp} {h:Heap} {p d:Addr} (e:h.get? p=some { cls:=.type "dict_values",data:=.fields #[.ref d] }):ObjOk P w H h p (vaV p d):=by
 refine ⟨⟨_,e,rfl,rfl⟩,⟨_,e⟩,fun h1 h2 x k=>?_⟩
 obtain ⟨o,ho,r⟩:=x
 exact ⟨o,k o ho,r⟩
section
theorem Zal {kvs:List (Key × V)} {vs:List (Key × Value)} {acc:Array Value} (kv:KV kvs vs) (h:ItemsOf (fun i v=>∃ k,vs[i]? = some (k,v)) acc vs.length):Vals (kvs.map (·.2)) acc.toList:=by
 have e:acc.toList=vs.map (·.2):=by
  apply List.ext_getElem?
  intro i
  rw [List.getElem?_map]
  by_cases hi:i < vs.length
  ·have ha:i < acc.toList.length:=by rw [Array.length_toList,h.1]; exact hi
   obtain ⟨k,hk⟩:=h.2 i acc.toList[i] (by rw [← Array.getElem?_toList,List.getElem?_eq_getElem ha])
   rw [hk,List.getElem?_eq_getElem ha]
   rfl
  ·rw [List.getElem?_eq_none (by rw [Array.length_toList,h.1]; omega),List.getElem?_eq_none (by omega)]
   rfl
 rw [e]
 clear e h acc
 induction kv with
 | nil=>exact .nil
 | cons h t ih=>exact .cons h.2 ih
end
end L2
namespace ND
open PySem L2
section
variable {m:EM}
def listVaD (x:D):M D:=fun S=>match dr S x with
 | .dct kvs=>.ok (.lst (kvs.map (·.2))) S
 | _=>.bad
def mListVa (m:EM):EM:=fun τ=>m τ >>= fun x=>isK "dict" x >>= fun _=>listVaD x
end
end ND
namespace L2
open PySem PySem.Spec PySem.W PyProof.Rows ND
section
def atK (xs:List (List Bool × Addr × Value)) (k:List Bool):Option Value:=(xs.find? fun x=>decide (x.1=k)).map (·.2.2)
end
end L2
namespace ND
open PySem L2
section
variable {g:G} {b:Expr}
def tksOf:List D→Option (List Bool)
 | []=>some []
 | .bl b :: xs=>(tksOf xs).map (b :: ·)
 | _=>none
def lookK (kvs:List (List Bool × D)) (k:List Bool):Option D:=(kvs.find? fun x=>decide (x.1=k)).map (·.2)
theorem VKb.look {F:Hp} {c:List Addr} {k:List Bool}:∀ {xs:List (List Bool × Addr × Value)} {kvs:List (List Bool × D)},VKb g F c xs kvs→(lookK kvs k=none∧L2.atK xs k=none)∨∃ d u v,lookK kvs k=some d∧L2.atK xs k=some u∧RelV v u∧Val g F c v d
 | _,_,.nil=>.inl ⟨rfl,rfl⟩
 | _,_,.cons (k:=k') s r h t=>by
  unfold lookK L2.atK
  by_cases e:k'=k
  ·right
   rw [List.find?_cons_of_pos (by simp [e]),List.find?_cons_of_pos (by simp [e])]
   exact ⟨_,_,_,rfl,rfl,r,h⟩
  ·rw [List.find?_cons_of_neg (by simp [e]),List.find?_cons_of_neg (by simp [e])]
   exact VKb.look t
theorem VKb.sq {F:Hp} {c:List Addr}:∀ {xs:List (List Bool × Addr × Value)} {kvs:List (List Bool × D)},VKb g F c xs kvs→∀ x ∈ xs,SqP g.K F x.2.1 (x.1.map V.bl)
 | _,_,.nil,x,h=>by cases h
 | _,_,.cons s r h t,x,hx=>by
  rcases List.mem_cons.mp hx with rfl | hx
  ·exact s
  ·exact VKb.sq t x hx
end
end ND
namespace L2
open PySem PySem.Spec PySem.W PyProof.Rows ND
end L2
namespace ND
open PySem L2
section
variable {g:G}
def mDNewKd:EM:=fun _=>newCell (.kct [])
theorem VKb.append {F:Hp} {c:List Addr}:∀ {xs ys:List (List Bool × Addr × Value)} {kvs lvs:List (List Bool × D)},VKb g F c xs kvs→VKb g F c ys lvs→VKb g F c (xs++ys) (kvs++lvs)
 | _,_,_,_,.nil,h=>h
 | _,_,_,_,.cons s r h t,q=>.cons s r h (VKb.append t q)
theorem VKb.length {F:Hp} {c:List Addr}:∀ {xs:List (List Bool × Addr × Value)} {kvs:List (List Bool × D)},VKb g F c xs kvs→xs.length=kvs.length
 | _,_,.nil=>rfl
 | _,_,.cons _ _ _ t=>by rw [List.length_cons,List.length_cons,VKb.length t]
def isKct (x:D):M Unit:=fun S=>match x with
 | .cel n=>(match S[n]? with
  | some (.kct _)=>.ok () S
  | _=>.bad)
 | _=>.bad
end
end ND
namespace L2
open PySem PySem.Spec PySem.W PyProof.Rows ND
section
def putX (xs:List (List Bool × Addr × Value)) (k:List Bool) (b:Addr) (u:Value):List (List Bool × Addr × Value):=if (atK xs k).isSome then xs.map (fun x=>if x.1=k then (x.1,x.2.1,u) else x) else xs++[(k,b,u)]
end
end L2
namespace ND
open PySem L2
section
variable {g:G} {e:Expr} {mo me mf:EM}
def kgetD (x y z:D):M D:=fun S=>match x,y with
 | .cel n,.tup ks=>(match S[n]?,tksOf ks with
  | some (.kct kvs),some k=>(match lookK kvs k with
   | some d=>.ok d S
   | none=>.ok z S)
  | _,_=>.bad)
 | _,_=>.bad
def mKGet (mo me mf:EM):EM:=fun τ=>mo τ >>= fun x=>isKct x >>= fun _=>me τ >>= fun y=>mf τ >>= fun z=>kgetD x y z
def putKd (kvs:List (List Bool × D)) (k:List Bool) (z:D):List (List Bool × D):=if (lookK kvs k).isSome then kvs.map (fun p=>if p.1=k then (p.1,z) else p) else kvs++[(k,z)]
theorem VKb.puts {F:Hp} {c:List Addr} {k:List Bool} {u:Value} {v:V} {z:D} (rv:RelV v u) (hz:Val g F c v z):∀ {xs:List (List Bool × Addr × Value)} {kvs:List (List Bool × D)},VKb g F c xs kvs→VKb g F c (xs.map fun x=>if x.1=k then (x.1,x.2.1,u) else x) (kvs.map fun p=>if p.1=k then (p.1,z) else p)
 | _,_,.nil=>.nil
 | _,_,@VKb.cons _ _ _ k' b' u' v' d' vs ys s r hv t=>by
  rw [List.map_cons,List.map_cons]
  by_cases e:k'=k
  ·rw [if_pos e,if_pos e]; exact .cons s rv hz (VKb.puts rv hz t)
  ·rw [if_neg e,if_neg e]; exact .cons s r hv (VKb.puts rv hz t)
theorem VKb.put {F:Hp} {c:List Addr} {k:List Bool} {b:Addr} {u:Value} {v:V} {z:D} {xs:List (List Bool × Addr × Value)} {kvs:List (List Bool × D)} (h:VKb g F c xs kvs) (sq:SqP g.K F b (k.map V.bl)) (rv:RelV v u) (hz:Val g F c v z):VKb g F c (putX xs k b u) (putKd kvs k z):=by
 unfold putX putKd
 rcases h.look (k:=k) with ⟨e1,e2⟩ | ⟨d,u',v',e1,e2,_,_⟩
 ·rw [e1,e2,if_neg (by simp),if_neg (by simp)]
  exact h.append (.cons sq rv hz .nil)
 ·rw [e1,e2,if_pos (show (some u').isSome=true from rfl),if_pos (show (some d).isSome=true from rfl)]
  exact h.puts rv hz
def setKt (x y z:D):M Unit:=fun S=>match x,y with
 | .cel n,.tup ks=>(match S[n]?,tksOf ks with
  | some (.kct kvs),some k=>if kvs.length < sizeLine then .ok () (S.set n (.kct (putKd kvs k z))) else .bad
  | _,_=>.bad)
 | _,_=>.bad
def sKPutD (mo mi mv:EM):SM:=fun τ=>sOf (mv τ >>= fun z=>mo τ >>= fun x=>mi τ >>= fun y=>setKt x y z) τ fun _ S=>.ok (.nx τ) S
end
end ND
namespace L2
open PySem PySem.Spec PySem.W PyProof.Rows ND
end L2
namespace ND
open PySem L2
section
variable {g:G} {c:List Addr}
theorem VKb.at {F:Hp}:∀ {xs:List (List Bool × Addr × Value)} {kvs:List (List Bool × D)} {i:Nat} {y:List Bool × Addr × Value},VKb g F c xs kvs→xs[i]? = some y→∃ d,kvs[i]? = some (y.1,d)∧SqP g.K F y.2.1 (y.1.map V.bl)
 | _,_,i,y,.nil,h=>by simp at h
 | _,_,0,y,.cons s r h t,q=>by simp at q; subst q; exact ⟨_,rfl,s⟩
 | _,_,i+1,y,.cons s r h t,q=>by simpa using VKb.at t (by simpa using q)
end
end ND
namespace ND
open PySem L2 RZ
end ND
namespace ND
open PySem L2
def ZgM (d:D):M D:=fun S=>match d with
 | .int n=>if 0≤n∧n≤16777216 then .ok (.lst (intsD 0 n.toNat)) S else .bad
 | _=>.bad
def ZgN (d e:D):M D:=fun S=>match d,e with
 | .int m,.int n=>if 0≤m∧m≤16777216∧0≤n∧n≤16777216 then .ok (.lst (intsD m (n - m).toNat)) S else .bad
 | _,_=>.bad
def mListR1 (m:EM):EM:=fun τ=>m τ >>= ZgM
def mListR2 (m k:EM):EM:=fun τ=>m τ >>= fun d=>k τ >>= fun e=>ZgN d e
section
variable {X:Cx} {g:G}
theorem Zaa:MtR X "str.removeprefix" (fun x xs H Q=>∃ a b,x = .str a∧xs=[.str b]∧a.length≤sizeLine∧Q (.str (Txt.removeprefix a b)) H):=by
 intro pins s σ H x xs v us Q I rx rs h
 obtain ⟨a,b,rfl,rfl,hl,h⟩:=h
 obtain ⟨t,rfl⟩:=rx
 cases rs with
 | cons r1 rs=>
  cases rs
  obtain ⟨u,rfl⟩:=r1
  exact PySem.SC.removeprefix (fun t' k=>⟨.str (Txt.removeprefix a b),H,I.tok k,⟨t',rfl⟩,h⟩) hl
def rmpreD (x:D) (ds:List D):M D:=match x,ds with
 | .str a,[.str b]=>M.chk (decide (a.length≤sizeLine) && KS (Txt.removeprefix a b)) (pure (.str (Txt.removeprefix a b)))
 | _,_=>M.no
theorem G6:MtD g (fun x xs H Q=>∃ a b,x = .str a∧xs=[.str b]∧a.length≤sizeLine∧Q (.str (Txt.removeprefix a b)) H) rmpreD:=by
 intro c S H v d vs ds Q E r hv hvs o
 unfold rmpreD at o
 split at o
 ·cases hv with
  | str ha=>
   cases hvs with
   | cons h1 h2=>
    cases h2
    cases h1
    obtain ⟨h,o2⟩:=Out.chk o
    rw [Bool.and_eq_true] at h
    exact ⟨_,_,rfl,rfl,of_decide_eq_true h.1,Zh r o2 (.str (sOk_of h.2))⟩
 ·exact o.elim
def QP (x:D) (ds:List D):M D:=match x,ds with
 | .str a,[.str b]=>M.chk ((!(b.length == 0)) && decide (a.length+2≤sizeLine) && (Txt.split a b).all KS) (pure (.lst ((Txt.split a b).map D.str)))
 | _,_=>M.no
theorem vls_parts {F:Hp} {c:List Addr}:∀ {ys:List Str},ys.all KS=true→Vls g F c (ys.map V.str) (ys.map D.str)
 | [],_=>.nil
 | y :: ys,h=>by
  rw [List.all_cons,Bool.and_eq_true] at h
  exact .cons (.str (sOk_of h.1)) (vls_parts h.2)
theorem G7:MtD g (fun x xs H Q=>∃ a b,x = .str a∧xs=[.str b]∧(b.length == 0)=false∧a.length+2≤sizeLine∧rNewStrs (Txt.split a b) H Q) QP:=by
 intro c S H v d vs ds Q E r hv hvs o
 unfold QP at o
 split at o
 ·cases hv with
  | str ha=>
   cases hvs with
   | cons h1 h2=>
    cases h2
    cases h1
    obtain ⟨h,o2⟩:=Out.chk o
    rw [Bool.and_eq_true,Bool.and_eq_true] at h
    refine ⟨_,_,rfl,rfl,by simpa using h.1.1,of_decide_eq_true h.1.2,fun p hp=>?_⟩
    exact YR r o2 (vls_parts h.2) hp
 ·exact o.elim
def intSD (ds:List D):M D:=match ds with
 | [.str a]=>(match PySem.intText? a with
  | some n=>M.chk (decide (a.length≤640)) (pure (.int n))
  | none=>M.no)
 | _=>M.no
theorem Zbm:CbD g (fun xs H Q=>∃ a n,xs=[.str a]∧PySem.intText? a=some n∧a.length≤640∧Q (.int n) H) intSD:=by
 intro c S H vs ds Q E r hv o
 unfold intSD at o
 split at o
 ·rename_i a
  obtain ⟨v,rfl,hv1⟩:=UP hv
  cases hv1 with
  | str ha=>
   cases hn:PySem.intText? a with
   | some n=>
    rw [hn] at o
    obtain ⟨h,o2⟩:=Out.chk o
    exact ⟨_,n,rfl,hn,of_decide_eq_true h,Zh r o2 (.int n)⟩
   | none=>rw [hn] at o; exact o.elim
 ·exact o.elim
end
end ND
namespace ND
open PySem PySem.Spec PyProof.Rows L2
section
variable {m:EM}
def walkXD (x:D):M (List D):=fun S=>match x with
 | .tup xs=>.ok xs S
 | .lst xs=>.ok xs S
 | _=>.bad
def mWalkX (m:EM):IM:=fun τ=>m τ >>= walkXD
end
end ND
namespace L2
open PySem PySem.Spec PySem.W PyProof.Rows
theorem V2 {x:Str} {v:Value} (h:strB x v=true):∃ t,v = .str x t:=by
 cases v with
 | str a t=>exact ⟨t,by rw [of_decide_eq_true h]⟩
 | _=>cases h
structure KD (K:PySem.W.Frag) (w:World) (d:Addr) (es:Array DictEntry) (ep:Nat) (tbl:List (Str × Str)):Prop where
 hs:(d == sysModules)=false
 lk:K.lookup d=some ⟨.type "dict",none,.dict es ep,#[]⟩
 hk:KeysLit w.params es.toList
 en:esB tbl es.toList=true
 nd:(tbl.map (·.1)).Nodup
 few:tbl.length≤1000
def tblV (tbl:List (Str × Str)):List (Key × V):=tbl.map fun p=>(.inr p.1,.str p.2)
theorem Zax {P:Program} {w:World}:∀ {tbl:List (Str × Str)} {es:List DictEntry},esB tbl es=true→∃ vs:List (Key × Value),KV (tblV tbl) vs∧Pairs (mixKind P w) es vs∧vs.map (·.1)=tbl.map fun p=>(.inr p.1:Key)
 | [],[],_=>⟨[],.nil,.nil,rfl⟩
 | p :: tbl,e :: es,h=>by
  rw [esB,Bool.and_eq_true,Bool.and_eq_true] at h
  obtain ⟨t,et⟩:=V2 h.1
  obtain ⟨u,eu⟩:=V2 h.2.1
  obtain ⟨vs,h1,h2,h3⟩:=Zax (P:=P) (w:=w) h.2.2
  refine ⟨(.inr p.1,e.val) :: vs,.cons ⟨rfl,u,eu⟩ h1,.cons ?_ rfl h2,by rw [List.map_cons,h3]; rfl⟩
  show keyIs (.inr p.1) e.key=true
  rw [et]
  exact keyIs_str _ _
 | [],_ :: _,h=>by cases h
 | _ :: _,[],h=>by cases h
section
variable {X:Cx} {pins:List (Addr × Obj)} {σ:List (Option V)} {H:Hp} {s:Shared} {d:Addr} {es:Array DictEntry} {ep:Nat} {tbl:List (Str × Str)}
theorem KD.at (D:KD X.K X.w d es ep tbl) (I:Inv X pins σ H s):∃ vs:List (Key × Value),KV (tblV tbl) vs∧s.heap.DictAt (mixKind X.prog X.w) d vs ep:=by
 obtain ⟨vs,h1,h2,h3⟩:=Zax (P:=X.prog) (w:=X.w) D.en
 refine ⟨vs,h1,_,es,I.kIn _ _ D.lk,⟨rfl,rfl,rfl⟩,rfl,fun e he=>?_,h2,?_⟩
 ·obtain ⟨x,t,e1,e2⟩:=D.hk.all e (Array.mem_toList_iff.mpr he)
  refine ⟨.inr x,?_,e2⟩
  show keyIs (.inr x) e.key=true
  rw [e1]
  exact keyIs_str _ _
 ·rw [h3]
  have:=D.nd
  rw [List.Nodup,List.pairwise_map] at this ⊢
  exact this.imp fun h e=>h (Sum.inr.inj e)
def Zhf (tbl:List (Str × Str)):It:=
 ⟨fun i _=>i < tbl.length,fun i H v H'=>∃ T p,v = .ref T∧tbl[i]? = some p∧H T=none∧H'=upd H T (.tup [.str p.1,.str p.2]),fun i _=>tbl.length≤i⟩
theorem turn_itemsC {P:Program} {w:World} {K:PySem.W.Frag} {elts:List Expr} {kk:Nat} {tpos:Pos} (D:KD K w d es ep tbl) (it:Addr) :
  Turn P w K (.Tuple elts kk tpos) (Zhf tbl) [it] it (fun i h=>∃ ok ov,IsItemIter h it d i tbl.length ep ok ov) where
 mem:=by simp
 obj:=fun i h st b hb=>by
  have e:b=it:=by simpa using hb
  subst e
  obtain ⟨ok,ov,e⟩:=st
  exact ⟨_,e,fun v z=>nomatch z⟩
 keep:=fun i h h' st k=>let ⟨ok,ov,e⟩:=st; ⟨ok,ov,k it (by simp) _ e⟩
 item:=by
  intro X hP hw hK hc i pins s σ H E I hf st hi
  subst hP hw hK
  obtain ⟨vs,kv,hm⟩:=D.at I
  have hi:i < tbl.length:=hi
  have hkv:(tblV tbl)[i]? = some (.inr tbl[i].1,.str tbl[i].2):=by unfold tblV; rw [List.getElem?_map,List.getElem?_eq_getElem hi]; rfl
  obtain ⟨u,hu,ru⟩:=kv_get kv hkv
  have hl:tbl.length=vs.length:=by have:=Paired.length kv; unfold tblV at this; rw [List.length_map] at this; exact this
  obtain ⟨ok,ov,he⟩:=st
  rw [hl] at he
  have hlt:it < s.heap.objs.size:=Heap.lt_size he
  refine wpAny_pyNext_items_item he hm hu fun key h' hkey ho hT hz hk=>?_
  refine ⟨_,rfl,wpAny_letOwnedTupleGo_items (s:={ s with heap:=h' }) ho fun h'' he' sb=>?_⟩
  have hT2:h''.get? s.heap.objs.size=some { cls:=.type "tuple",data:=.seq #[key,u] }:=(sb.2 _ (Nat.ne_of_gt hlt)).trans hT
  have new:ObjOk X.prog X.w (upd H s.heap.objs.size (.tup [.str tbl[i].1,.str tbl[i].2])) h'' s.heap.objs.size (.tup [.str tbl[i].1,.str tbl[i].2]):=
   ⟨by show 2≤sizeLine; decide,[key,u],.cons (relV_key (k:=.inr tbl[i].1) (show keyIs (.inr tbl[i].1) key=true from hkey)) (.cons ru .nil),⟨_,hT2,rfl,_,rfl⟩⟩
  have I1:Inv X pins σ (upd H s.heap.objs.size (.tup [.str tbl[i].1,.str tbl[i].2])) { s with heap:=h'' }:=
   I.turnedNew (t':=s.toks) (ch:=[it]) (fun b ob hb e=>(sb.2 b (by simpa using hb)).trans (hk b ob (by simpa using hb) e)) hf (Nat.le_refl _) new
  refine ⟨.ref s.heap.objs.size,_,I1,rfl,⟨_,tbl[i],rfl,List.getElem?_eq_getElem hi,I.hok.fresh (Nat.le_refl _),rfl⟩,⟨key,u,?_⟩,fun b hb=>?_⟩
  ·rw [hl]; exact he'
  ·have e:b=it:=by simpa using hb
   rw [e,upd_ne (Nat.ne_of_lt hlt)]
   exact (hf it (by simp)).1
 done:=by
  intro X hP hw hK hc i pins s σ H E I hf st hi
  subst hP hw hK
  obtain ⟨vs,kv,hm⟩:=D.at I
  have hi:tbl.length≤i:=hi
  obtain ⟨f0,f1,f2,f3,f4,f5⟩:=hf it (by simp)
  have hl:tbl.length=vs.length:=by have:=Paired.length kv; unfold tblV at this; rw [List.length_map] at this; exact this
  obtain ⟨ok,ov,he⟩:=st
  rw [hl] at he
  exact wpAny_pyNext_items_end (I.ok.hd hc) he hm (List.getElem?_eq_none (by omega)) fun h' eb=>⟨rfl,I.turned (t':=s.toks) (fun b ob hb e=>eb b ob hb e) f0 f1 f3 f4 f5⟩
 self:=fun A i s Q E st h=>let ⟨_,_,e⟩:=st; PySem.W.kcp_self e h
theorem pi_itemsC {elts:List Expr} {kk:Nat} {tpos apos cpos:Pos} {e:Expr} {td:TE} (D:KD X.K X.w d es ep tbl) (he:PE X e td) (hbase:attributeBase e "items" X.env (eval e X.env)=eval e X.env:=by rfl) (hline:(apos.endLine == cpos.line)=true:=by rfl) :
  PI X (.Tuple elts kk tpos) (.Call (.Attribute e "items" apos) [] [] cpos) (fun σ H R=>td σ H fun x H1=>x = .ref d∧R (Zhf tbl) H1):=by
 refine ⟨fun pins s σ H R I h=>?_⟩
 refine wpAny_Call_method (T := "dict") (id := "dict.items") hbase rfl hline F.plainAttrs_dict F.slot_dict_items F.type_dict_items (thn (he.run pins s σ H _ I h) fun u s1 ⟨x,H1,I1,rx,ex,q⟩=>?_)
 subst ex
 obtain rfl:u=Value.ref d:=rx
 obtain ⟨vs,kv,hm⟩:=D.at I1
 have hl:tbl.length=vs.length:=by have:=Paired.length kv; unfold tblV at this; rw [List.length_map] at this; exact this
 refine ⟨hm.dictOf.typeIs,hm.dictOf.mapOf.noDict,?_⟩
 have I2:Inv X pins σ H1 { s1 with heap:=s1.heap.push { cls:=.type "dict_items",data:=.fields #[.ref d] } }:=I1.kept (t':=s1.toks) fun b ob q=>Heap.get?_push_of_some _ q
 have fin:wpAny (model X.prog X.w) X.A (pyIter (.ref s1.heap.objs.size)) (PIE X pins σ (.Tuple elts kk tpos) R) X.xe { s1 with heap:=s1.heap.push { cls:=.type "dict_items",data:=.fields #[.ref d] } }:=by
  refine wpAny_pyIter_items (d:=d) (knd:=mixKind X.prog X.w) ⟨_,Heap.get?_push_size _ rfl,rfl,rfl⟩ (hm.push _) (pi_one (tk:=s1.toks) I2 _ (turn_itemsC D _) ⟨.none,.none,?_⟩ q)
  rw [hl]
  exact Heap.get?_push_size _ rfl
 show wpAny _ _ (callWith cpos (.builtin "dict.items") [.ref d] [] []) _ X.xe s1
 exact method_meetsIn F.slot_dict_items F.entry_dict_items rfl (PySem.evalArgs_none ⟨rfl,hm.dictOf.typeIs,F.args_dict_items_1 _,_,meets_dict_items (mixKind X.prog X.w) d D.hs,⟨vs,hm.dictOf⟩,fin⟩)
def rListC (d:Addr) (tbl:List (Str × Str)):List V→Hp→VK→Prop:=fun vs G Q=>∃ p,vs=[.ref p]∧G p=some (vaV p d)∧∀ l,G l=none→Q (.ref l) (upd G l (.lst (tbl.map fun p=>.str p.2)))
theorem cr_listC (D:KD X.K X.w d es ep tbl) (calm:X.calm=true):CallR X (.type "list") (rListC d tbl):=fun pins s σ H xs us Q I rel ⟨p,ex,hp,want⟩=>by
 subst ex
 obtain rfl:=Vals.ref1 rel
 have view:s.heap.IsValuesView p d:=(show ObjOk X.prog X.w H s.heap p (vaV p d) from I.hok p _ hp).1
 obtain ⟨vs,kv,hat⟩:=D.at I
 have lk:(tblV tbl).length=vs.length:=Paired.length kv
 have few:=D.few
 have lt:(tblV tbl).length=tbl.length:=List.length_map ..
 have sl:1000≤sizeLine:=by rw [sizeLine_eq]; decide
 refine kdl_call (kdl_values (knd:=mixKind X.prog X.w) (kvs:=vs) (ep:=ep)) (I.ok.hd calm) ⟨view,hat⟩ (by omega) fun h' tk acc' c' hk hl hacc=>?_
 have V1:=Zal kv hacc
 have ev:(tblV tbl).map (·.2)=tbl.map fun p=>V.str p.2:=by unfold tblV; rw [List.map_map]; rfl
 rw [ev] at V1
 have there:ObjOk X.prog X.w (upd H s.heap.objs.size (.lst (tbl.map fun p=>.str p.2))) h' s.heap.objs.size (.lst (tbl.map fun p=>.str p.2)):=⟨by rw [List.length_map]; omega,_,c',V1,by rw [Array.toArray_toList]; exact hl⟩
 exact ⟨.ref _,_,I.laid (t':=tk) hk (Nat.le_refl _) there,rfl,want _ (I.hok.fresh (Nat.le_refl _))⟩
end
section
variable {X:Cx} {d:Addr} {es:Array DictEntry} {ep:Nat} {tbl:List (Str × Str)}
theorem pe_valsC {apos cpos:Pos} {e:Expr} {td:TE} (D:KD X.K X.w d es ep tbl) (he:PE X e td) (hbase:attributeBase e "values" X.env (eval e X.env)=eval e X.env:=by rfl) (hline:(apos.endLine == cpos.line)=true:=by rfl) :
  PE X (.Call (.Attribute e "values" apos) [] [] cpos) (fun σ H Q=>td σ H fun x H1=>x = .ref d∧∀ p,H1 p=none→Q (.ref p) (upd H1 p (vaV p d))):=by
 refine ⟨fun pins s σ H Q I h=>?_⟩
 refine wpAny_Call_method (T := "dict") (id := "dict.values") hbase rfl hline F.plainAttrs_dict F.slot_dict_values F.type_dict_values (thn (he.run pins s σ H _ I h) fun u s1 ⟨x,H1,I1,rx,ex,q⟩=>?_)
 subst ex
 obtain rfl:u=Value.ref d:=rx
 obtain ⟨vs,kv,hm⟩:=D.at I1
 refine ⟨hm.dictOf.typeIs,hm.dictOf.mapOf.noDict,?_⟩
 have goal:=q s1.heap.objs.size (I1.hok.fresh (Nat.le_refl _))
 show wpAny _ _ (callWith cpos (.builtin "dict.values") [.ref d] [] []) _ X.xe s1
 exact method_meetsIn F.slot_dict_values F.entry_dict_values rfl (PySem.evalArgs_none ⟨rfl,hm.dictOf.typeIs,F.args_dict_values_1 _,_,meets_dict_values (mixKind X.prog X.w) d D.hs,⟨vs,hm.dictOf⟩,.ref _,_,I1.laid (t':=s1.toks) (fun b u e=>Heap.get?_push_of_some _ e) (Nat.le_refl _) (vaV_ok (Heap.get?_push_size _ rfl)),rfl,goal⟩)
theorem Ql {x y:Str}:∀ {tbl:List (Str × Str)} {es:List DictEntry},esB tbl es=true→tbl.lookup x=some y→∃ e t,es.find? (fun e=>e.key.isStr x)=some e∧e.val = .str y t
 | [],_,_,h=>by simp at h
 | p :: tbl,[],h,_=>by cases h
 | p :: tbl,e :: es,h,hl=>by
  rw [esB,Bool.and_eq_true,Bool.and_eq_true] at h
  obtain ⟨t,et⟩:=V2 h.1
  obtain ⟨u,eu⟩:=V2 h.2.1
  rw [List.lookup_cons] at hl
  have ek:e.key.isStr x=(p.1 == x):=by rw [et]; rfl
  rw [List.find?_cons,ek]
  cases q:(x == p.1) with
  | true=>
   rw [q] at hl
   have e1:x=p.1:=beq_iff_eq.mp q
   rw [show (p.1 == x)=true from beq_iff_eq.mpr e1.symm]
   cases hl
   exact ⟨e,u,rfl,eu⟩
  | false=>
   rw [q] at hl
   have e1:(p.1 == x)=false:=beq_eq_false_iff_ne.mpr fun z=>by rw [z] at q; simp at q
   rw [e1]
   exact Ql h.2.2 hl
end
end L2
namespace ND
open PySem L2
def ZcG (K:PySem.W.Frag) (mg:Str→Option Value) (w:World) (nm:Str) (tbl:List (Str × Str)):Prop:=∃ d es ep,mg nm=some (.ref d)∧KD K w d es ep tbl
theorem Gg {K:PySem.W.Frag} {mg:Str→Option Value} {w:World} {nm:Str} {d:Addr} {tbl:List (Str × Str)} (hm:mg nm=some (.ref d)) (kd:∃ es n,KDict K w d es n) (hb:conDB K d tbl=true) (nd:(tbl.map (·.1)).Nodup) (few:tbl.length≤1000):ZcG K mg w nm tbl:=by
 obtain ⟨es,n,k1,k2,k3⟩:=kd
 refine ⟨d,es,n,hm,k3,k1,k2,?_,nd,few⟩
 unfold conDB at hb
 rw [k1] at hb
 exact hb
section
variable {X:Cx} {g:G} {W:WX} {cur:Cur} {hid:List Addr} {mi:EM} {nm:Str} {tbl:List (Str × Str)} {p pos apos cpos:Pos} {b:Expr}
theorem sok2 {tbl:List (Str × Str)} (h:tbl.all (fun p=>KS p.1 && KS p.2)=true):∀ p ∈ tbl,SOk p.1∧SOk p.2:=fun p hp=>by
 have:=List.all_eq_true.mp h p hp
 rw [Bool.and_eq_true] at this
 exact ⟨sOk_of this.1,sOk_of this.2⟩
theorem sok1 {tbl:List (Str × Str)} (h:tbl.all (fun p=>KS p.1 && KS p.2)=true):∀ p ∈ tbl,SOk p.2:=fun p hp=>(sok2 h p hp).2
def tabSD (tbl:List (Str × Str)) (y:D):M D:=match y with
 | .str x=>(match tbl.lookup x with
  | some f=>pure (.str f)
  | none=>M.no)
 | _=>M.no
def mTabS (tbl:List (Str × Str)) (mi:EM):EM:=fun τ=>mi τ >>= tabSD tbl
theorem d_tabS (T:ZcG X.K X.mg X.w nm tbl) (ok:∀ p ∈ tbl,SOk p.2) (hg:Gl X nm) (hb:PE X b (tE (gx X cur hid) W mi)) (hs:PlainIx b) (hd:(nm == ("__debug__" : Str))=false:=by decide) :
  PE X (.Subscript (.Name nm p) b pos) (tE (gx X cur hid) W (mTabS tbl mi)):=by
 obtain ⟨a,es,ep,hm,KK⟩:=T
 refine PE.imp (pe_ix ix_kdict (pe_glob (v:=.ref a) hg hm rfl hd) hb hs) fun σ H Q h=>?_
 refine V4 h fun c S H1 v d r1 v1 o1=>?_
 unfold tabSD at o1
 cases d with
 | str y=>
  dsimp only at o1
  cases hl:tbl.lookup y with
  | none=>rw [hl] at o1; exact o1.elim
  | some f=>
   rw [hl] at o1
   obtain ⟨e,t,h1,h2⟩:=Ql KK.en hl
   have key:∀ {l:List (Str × Str)},l.lookup y=some f→∃ p ∈ l,p.2=f:=by
    intro l
    induction l with
    | nil=>intro h; simp at h
    | cons p l ih=>
     intro h
     rw [List.lookup_cons] at h
     cases q:(y == p.1) with
     | true=>rw [q] at h; exact ⟨p,List.mem_cons_self,Option.some.inj h⟩
     | false=>rw [q] at h; obtain ⟨p',h1,h2⟩:=ih h; exact ⟨p',List.mem_cons_of_mem _ h1,h2⟩
   obtain ⟨p',hp,rfl⟩:=key hl
   have kd:KDct X.K X.w a y (.str p'.2):=⟨es,ep,e.val,KK.lk,KK.hk,by
    unfold PySem.W.nsIn
    rw [KK.lk]
    dsimp only
    rw [h1],t,h2⟩
   cases v1 with
   | str _=>exact ⟨a,y,.str p'.2,rfl,rfl,kd,Zh r1 o1 (.str (ok p' hp))⟩
 | _=>exact o1.elim
def mListC (tbl:List (Str × Str)):EM:=fun _=>pure (.lst (tbl.map fun p=>.str p.2))
theorem vls_txts {F:Hp} {c:List Addr}:∀ {xs:List Str},(∀ x ∈ xs,SOk x)→Vls g F c (xs.map V.str) (xs.map D.str)
 | [],_=>.nil
 | x :: xs,h=>.cons (.str (h x List.mem_cons_self)) (vls_txts fun y hy=>h y (List.mem_cons_of_mem _ hy))
theorem d_listC {p2:Pos} (calm:X.calm=true) (T:ZcG X.K X.mg X.w nm tbl) (ok:∀ p ∈ tbl,SOk p.2) (hgn:Gl X nm) (hg:Gl X "list") (hm:X.mg "list" = none) (hv:bootBuiltins "list" = some (.type "list"))
  (hbase:attributeBase (.Name nm p) "values" X.env (eval (.Name nm p) X.env)=eval (.Name nm p) X.env:=by rfl) (hline:(apos.endLine == cpos.line)=true:=by rfl)
  (hs:starEach [.Call (.Attribute (.Name nm p) "values" apos) [] [] cpos] X.env=(false,eval (.Call (.Attribute (.Name nm p) "values" apos) [] [] cpos) X.env) :: starEach [] X.env:=by rfl) (hpl:(backTo pos (starEach [] X.env)).any (·.1)=false:=by rfl) (hd:(nm == ("__debug__" : Str))=false:=by decide) :
  PE X (.Call (.Name "list" p2) [.Call (.Attribute (.Name nm p) "values" apos) [] [] cpos] [] pos) (tE (gx X cur hid) W (mListC tbl)):=by
 obtain ⟨a,es,ep,hmn,KK⟩:=T
 refine PE.imp (pe_callTy (cr_listC KK calm) hg hm hv (pa_cons (pe_valsC KK (pe_glob (v:=.ref a) hgn hmn rfl hd) hbase hline) pa_nil hs) (by decide) (by decide) hs hpl) fun σ H Q h=>?_
 obtain ⟨c,S,τ,r,s,o⟩:=h
 refine ⟨rfl,fun q free=>?_⟩
 refine ⟨q,rfl,upd_same,fun l hl=>?_⟩
 have f1:=Fut.new (o:=vaV q a) r free
 have f2:=Fut.new (o:=.lst (tbl.map fun p=>V.str p.2)) f1.rep hl
 have e1:(tbl.map fun p=>V.str p.2)=(tbl.map (·.2)).map V.str:=by rw [List.map_map]; rfl
 have e2:(tbl.map fun p=>D.str p.2)=(tbl.map (·.2)).map D.str:=by rw [List.map_map]; rfl
 refine o _ c (f1.trans f2) _ (.lst (Fut.frz_new f1.rep hl) ?_)
 rw [e1,e2]
 exact vls_txts fun x hx=>by obtain ⟨p,hp,rfl⟩:=List.mem_map.mp hx; exact ok p hp
def mItemsC (tbl:List (Str × Str)):IM:=fun _=>pure (tbl.map fun p=>.tpo [.str p.1,.str p.2])
theorem di_itemsC {elts:List Expr} {kk:Nat} {tpos:Pos} (T:ZcG X.K X.mg X.w nm tbl) (ok:∀ p ∈ tbl,SOk p.1∧SOk p.2) (hgn:Gl X nm)
  (hbase:attributeBase (.Name nm p) "items" X.env (eval (.Name nm p) X.env)=eval (.Name nm p) X.env:=by rfl) (hline:(apos.endLine == cpos.line)=true:=by rfl) (hd:(nm == ("__debug__" : Str))=false:=by decide) :
  PI X (.Tuple elts kk tpos) (.Call (.Attribute (.Name nm p) "items" apos) [] [] cpos) (tIt (gx X cur hid) W (mItemsC tbl)):=by
 obtain ⟨a,es,ep,hmn,KK⟩:=T
 refine PI.imp (pi_itemsC KK (pe_glob (v:=.ref a) hgn hmn rfl hd) hbase hline) fun σ H R ⟨c,S,τ,r,s,o⟩=>⟨rfl,?_⟩
 refine o H c (Fut.refl r) _ ⟨fun i g' c' S' H' f hi=>?_,fun i g' c' S' H' v H2 f y d hd=>?_,fun i g' c' S' H' f hi=>?_⟩
 ·rw [List.length_map] at hi; exact hi
 ·obtain ⟨T,p,rfl,hp,free,rfl⟩:=y
  rw [List.getElem?_map,hp] at hd
  obtain rfl:D.tpo [.str p.1,.str p.2]=d:=Option.some.inj hd
  have:=ok p (List.mem_of_getElem? hp)
  exact QJ f.rep free (.str this.1) (.str this.2)
 ·rw [List.length_map] at hi; exact hi
end
end ND
namespace NA
open PySem L2 ND
def Zc6:SM:=(sRet (mAnd (mCall isiD (mCons (mVar 0) (mCons (mC (.ty "str")) mNil))) (mAnd (mChain leD leD (mC (.int 1)) (mCall lenSD (mCons (mVar 0) mNil)) (mC (.int 8))) (mCall allD (mCons (mComp (mWalkS (mVar 0)) [1] (.nm 1) tYesD (mBin (inD false) (mVar 1) (mC (.str "abcdefghijklmnopqrstuvwxyz")))) mNil)))))
def m_q34:List D→M D:=mFn ["thing", "sign"] Zc6
def UU:SM:=(sThen (sIf (mTOr (mTNot (mAsT (mCall isiD (mCons (mVar 0) (mCons (mC (.ty "tuple")) mNil))))) (mTOr (mAsT (mBin gtD (mCall lenSD (mCons (mVar 0) mNil)) (mC (.int 10)))) (mTNot (mAsT (mCall allD (mCons (mComp (mWalkT (mVar 0)) [1] (.nm 1) tYesD (mCall (arity 1 m_q34) (mCons (mVar 1) mNil))) mNil)))))) (sRet (mC (.bl false))) sSkip) (sRet (mBin (eqvD false) (mCall lenSD (mCons (mCall Zei (mCons (mVar 0) mNil)) mNil)) (mCall lenSD (mCons (mVar 0) mNil)))))
def WV:List D→M D:=mFn ["thing", "one"] UU
def Uc:SM:=(sRet (mAnd (mCall isiD (mCons (mVar 1) (mCons (mC (.ty "tuple")) mNil))) (mAnd (mBin (eqvD false) (mCall lenSD (mCons (mVar 1) mNil)) (mCall lenSD (mCons (mVar 0) mNil))) (mCall allD (mCons (mComp (mWalkT (mVar 1)) [2] (.nm 2) tYesD (mCall isiD (mCons (mVar 2) (mCons (mC (.ty "bool")) mNil)))) mNil)))))
def Uy:List D→M D:=mFn ["names", "thing", "one"] Uc
def Ju:SM:=(sThen (sSet 2 (mCall Zaw (mCons (mVar 1) mNil))) (sThen (sAsg2 3 4 (mC (.int 1))) (sThen (sFor (mWalkT (mUn revTD (mVar 0))) (.nm 5) (sThen (sIf (mAsT (mBin (inD true) (mVar 5) (mVar 2))) (sAug 3 orD (mBin shlD (mVar 3) (mVar 4))) (sIf (mTru (mBin ixD (mVar 2) (mVar 5))) (sAug 3 shlD (mVar 4)) sSkip)) (sAug 4 mulID (mC (.int 2))))) (sRet (mVar 3)))))
def Xj:List D→M D:=mFn ["names", "pairs", "wanted", "mask", "size", "name"] Ju
def Ua:SM:=(sThen (sSet 2 (mCall lenSD (mCons (mVar 0) mNil))) (sRet (mCall tupleD (mCons (mComp (mRng1 (mCons (mVar 2) mNil)) [3] (.nm 3) tYesD (mBin (eqvD false) (mBin andD (mBin shrD (mVar 1) (mBin subD (mBin subD (mVar 2) (mC (.int 1))) (mVar 3))) (mC (.int 1))) (mC (.int 1)))) mNil))))
def X6:List D→M D:=mFn ["names", "place", "many", "at"] Ua
def WA:SM:=(sThen (sIf (mTNot (mAsT (mCall (arity 1 WV) (mCons (mVar 1) mNil)))) (sRaise "NoHouse" "part" (mC (.str "names"))) sSkip) (sThen (sFldD ["Lot"] "names" (mVar 0) (mVar 1)) (sFldD ["Lot"] "mask" (mVar 0) (mCall (arity 2 Xj) (mCons (mVar 1) (mCons (mTup mNil) mNil))))))
def WT:List D→M D:=mFn ["self", "names"] WA
def Gb:SM:=(sThen (sSet 2 (mMake "Lot" 2 WT (mCons (mVar 0) mNil))) (sThen (sFldD ["Lot"] "mask" (mVar 2) (mVar 1)) (sRet (mVar 2))))
def G5:List D→M D:=mFn ["names", "mask", "lot"] Gb
def WB:SM:=(sRet (mCompC (mRng1 (mCons (mBin shlD (mC (.int 1)) (mCall lenSD (mCons (mUn (fldD ["Lot"] "names") (mVar 0)) mNil))) mNil)) [1] (.nm 1) (mTru (mBin andD (mBin shrD (mUn (fldD ["Lot"] "mask") (mVar 0)) (mVar 1)) (mC (.int 1)))) (mCall (arity 2 X6) (mCons (mUn (fldD ["Lot"] "names") (mVar 0)) (mCons (mVar 1) mNil)))))
def Z8:List D→M D:=mFn ["self", "place"] WB
def Zc7:SM:=(sThen (sAsg (.tp [(.nm 4),(.nm 5)]) (mTup (mCons (mC (.int 0)) (mCons (mTup (mCons (mC (.int 2147483629)) (mCons (mC (.int 2147483587)) (mCons (mC (.int 2147483579)) (mCons (mC (.int 2147483563)) (mCons (mC (.int 2147483549)) (mCons (mC (.int 2147483543)) (mCons (mC (.int 2147483497)) (mCons (mC (.int 2147483489)) mNil))))))))) mNil)))) (sThen (sIf (mAsT (mBin ltD (mVar 1) (mCall lenSD (mCons (mVar 0) mNil)))) (sSet 4 (mBin ixD (mVar 0) (mVar 1))) sSkip) (sThen (sSet 2 (mIf (mAsT (mBin geD (mCall absD (mCons (mVar 4) mNil)) (mBin powD (mC (.int 10)) (mC (.int 18))))) (mCall absD (mCons (mVar 4) mNil)) (mC (.int 0)))) (sThen (sSet 3 (mBin modD (mBin powD (mBin addD (mBin addD (mBin modD (mVar 4) (mC (.int 2147483647))) (mBin mulD (mC (.int 104729)) (mVar 1))) (mC (.int 7))) (mC (.int 5))) (mBin ixD (mVar 5) (mBin modD (mVar 1) (mC (.int 8)))))) (sRet (mLstC (mCons (mVar 2) (mCons (mBin modD (mBin powD (mBin addD (mBin addD (mBin mulD (mVar 3) (mC (.int 48271))) (mBin mulD (mC (.int 7919)) (mVar 1))) (mC (.int 11))) (mC (.int 3))) (mC (.int 2147483647))) mNil))))))))
def m_q35:List D→M D:=mFn ["_law_script", "_law_at", "_law_great", "_law_mixed", "_law_cell", "_law_primes"] Zc7
def Zc4:SM:=(sThen (sIf (mAsT (mBin gtD (mBin ixD (mVar 0) (mC (.int 0))) (mC (.int 0)))) (sThen (sSet 2 (mBin modD (mBin ixD (mVar 0) (mC (.int 0))) (mVar 1))) (sThen (sPut (mVar 0) (mC (.int 0)) (mBin fdivD (mBin ixD (mVar 0) (mC (.int 0))) (mVar 1))) (sRet (mVar 2)))) sSkip) (sThen (sPut (mVar 0) (mC (.int 1)) (mBin modD (mBin addD (mBin mulD (mBin ixD (mVar 0) (mC (.int 1))) (mC (.int 48271))) (mC (.int 11))) (mC (.int 2147483647)))) (sRet (mBin modD (mBin modD (mBin powD (mBin fdivD (mBin ixD (mVar 0) (mC (.int 1))) (mC (.int 8))) (mC (.int 3))) (mC (.int 2147483629))) (mVar 1)))))
def m_q31:List D→M D:=mFn ["_law_bag_here", "_law_many", "_law_digit"] Zc4
def Zc5:SM:=(sRet (mAnd (mCall isiD (mCons (mVar 0) (mCons (mC (.ty "int")) mNil))) (mUn notB (mCall isiD (mCons (mVar 0) (mCons (mC (.ty "bool")) mNil))))))
def m_q32:List D→M D:=mFn ["thing"] Zc5
def Ub:SM:=(sRet (mAnd (mCall (arity 1 m_q32) (mCons (mVar 0) mNil)) (mChain leD leD (mVar 1) (mVar 0) (mVar 2))))
def Ux:List D→M D:=mFn ["thing", "low", "high"] Ub
def b_q33 (r:List D→M D):SM:=(sThen (sSet 3 (mCall (arity 2 m_q31) (mCons (mVar 0) (mCons (mC (.int 8)) mNil)))) (sThen (sIf (mTAnd (mAsT (mBin gtD (mVar 3) (mC (.int 5)))) (mAsT (mBin gtD (mVar 2) (mC (.int 1))))) (sRet (mTup (mCons (mBin ixD (mLst (mCons (mC (.str "+")) (mCons (mC (.str "-")) (mCons (mC (.str "*")) mNil)))) (mCall (arity 2 m_q31) (mCons (mVar 0) (mCons (mC (.int 3)) mNil)))) (mCons (mCall (arity 3 r) (mCons (mVar 0) (mCons (mVar 1) (mCons (mBin subD (mVar 2) (mC (.int 1))) mNil)))) (mCons (mCall (arity 3 r) (mCons (mVar 0) (mCons (mVar 1) (mCons (mBin subD (mVar 2) (mC (.int 1))) mNil)))) mNil))))) sSkip) (sThen (sIf (mTAnd (mAsT (mBin gtD (mVar 3) (mC (.int 4)))) (mAsT (mBin (eqvD true) (mBin ixD (mVar 1) (mC (.int 2))) (mTup mNil)))) (sRet (mTup (mCons (mC (.str "purse")) (mCons (mBin ixD (mBin ixD (mBin ixD (mVar 1) (mC (.int 2))) (mCall (arity 2 m_q31) (mCons (mVar 0) (mCons (mCall lenSD (mCons (mBin ixD (mVar 1) (mC (.int 2))) mNil)) mNil)))) (mC (.int 0))) mNil)))) sSkip) (sThen (sIf (mAsT (mBin gtD (mVar 3) (mC (.int 2)))) (sRet (mBin ixD (mBin ixD (mVar 1) (mC (.int 1))) (mCall (arity 2 m_q31) (mCons (mVar 0) (mCons (mC (.int 3)) mNil))))) sSkip) (sThen (sSet 4 (mBin subD (mCall (arity 2 m_q31) (mCons (mVar 0) (mCons (mC (.int 9)) mNil))) (mC (.int 4)))) (sRet (mBin ixD (mLst (mCons (mVar 4) (mCons (mVar 4) (mCons (mVar 4) (mCons (mBin subD (mCall (arity 2 m_q31) (mCons (mVar 0) (mCons (mC (.int 2001)) mNil))) (mC (.int 1000))) (mCons (mBin powD (mC (.int 10)) (mC (.int 9))) (mCons (mUn negD (mBin powD (mC (.int 10)) (mC (.int 9)))) mNil))))))) (mCall (arity 2 m_q31) (mCons (mVar 0) (mCons (mC (.int 6)) mNil))))))))))
def m_q33:Nat→List D→M D
 | 0=>fun _=>M.no
 | n+1=>mFn ["_law_bag_here", "_law_kit_here", "_law_deep", "_law_way", "_law_small"] (b_q33 (m_q33 n))
def b_q27 (r:List D→M D):SM:=(sThen (sSet 3 (mCall (arity 2 m_q31) (mCons (mVar 0) (mCons (mC (.int 9)) mNil)))) (sThen (sIf (mTAnd (mAsT (mBin gtD (mVar 3) (mC (.int 6)))) (mAsT (mBin gtD (mVar 2) (mC (.int 1))))) (sThen (sIf (mAsT (mBin (eqvD false) (mVar 3) (mC (.int 7)))) (sRet (mTup (mCons (mC (.str "not")) (mCons (mCall (arity 3 r) (mCons (mVar 0) (mCons (mVar 1) (mCons (mBin subD (mVar 2) (mC (.int 1))) mNil)))) mNil)))) sSkip) (sRet (mTup (mCons (mC (.str "both")) (mCons (mCall (arity 3 r) (mCons (mVar 0) (mCons (mVar 1) (mCons (mBin subD (mVar 2) (mC (.int 1))) mNil)))) (mCons (mCall (arity 3 r) (mCons (mVar 0) (mCons (mVar 1) (mCons (mBin subD (mVar 2) (mC (.int 1))) mNil)))) mNil)))))) sSkip) (sThen (sIf (mTAnd (mAsT (mBin ltD (mVar 3) (mC (.int 4)))) (mAsT (mBin (eqvD true) (mBin ixD (mVar 1) (mC (.int 0))) (mTup mNil)))) (sRet (mTup (mCons (mC (.str "news")) (mCons (mBin ixD (mBin ixD (mVar 1) (mC (.int 0))) (mCall (arity 2 m_q31) (mCons (mVar 0) (mCons (mCall lenSD (mCons (mBin ixD (mVar 1) (mC (.int 0))) mNil)) mNil)))) mNil)))) sSkip) (sThen (sIf (mAsT (mBin (eqvD false) (mVar 3) (mC (.int 4)))) (sRet (mTup (mCons (mC (.str "known")) (mCons (mBin ixD (mBin ixD (mVar 1) (mC (.int 1))) (mCall (arity 2 m_q31) (mCons (mVar 0) (mCons (mC (.int 3)) mNil)))) mNil)))) sSkip) (sRet (mTup (mCons (mBin ixD (mLst (mCons (mC (.str "above")) (mCons (mC (.str "same")) mNil))) (mCall (arity 2 m_q31) (mCons (mVar 0) (mCons (mC (.int 2)) mNil)))) (mCons (mCall (arity 3 (m_q33 8)) (mCons (mVar 0) (mCons (mVar 1) (mCons (mC (.int 2)) mNil)))) (mCons (mCall (arity 3 (m_q33 8)) (mCons (mVar 0) (mCons (mVar 1) (mCons (mC (.int 2)) mNil)))) mNil)))))))))
def m_q27:Nat→List D→M D
 | 0=>fun _=>M.no
 | n+1=>mFn ["_law_bag_here", "_law_kit_here", "_law_deep", "_law_way"] (b_q27 (m_q27 n))
def b_q36 (r:List D→M D):SM:=(sThen (sPut (mVar 2) (mC (.int 0)) (mBin subD (mBin ixD (mVar 2) (mC (.int 0))) (mC (.int 1)))) (sThen (sSet 4 (mCall (arity 2 m_q31) (mCons (mVar 0) (mCons (mC (.int 10)) mNil)))) (sThen (sIf (mTAnd (mAsT (mBin ltD (mVar 4) (mC (.int 2)))) (mAsT (mBin ltD (mVar 3) (mC (.int 4))))) (sThen (sSet 5 (mCall (arity 3 (m_q27 8)) (mCons (mVar 0) (mCons (mVar 1) (mCons (mC (.int 3)) mNil))))) (sRet (mTup (mCons (mC (.str "if")) (mCons (mVar 5) (mCons (mCall (arity 4 r) (mCons (mVar 0) (mCons (mVar 1) (mCons (mVar 2) (mCons (mBin addD (mVar 3) (mC (.int 1))) mNil))))) (mCons (mCall (arity 4 r) (mCons (mVar 0) (mCons (mVar 1) (mCons (mVar 2) (mCons (mBin addD (mVar 3) (mC (.int 1))) mNil))))) mNil))))))) sSkip) (sThen (sIf (mTAnd (mAsT (mBin (eqvD false) (mVar 4) (mC (.int 2)))) (mTAnd (mAsT (mBin ltD (mVar 3) (mC (.int 4)))) (mAsT (mBin gtD (mBin ixD (mVar 2) (mC (.int 0))) (mC (.int 0)))))) (sThen (sPut (mVar 2) (mC (.int 0)) (mBin subD (mBin ixD (mVar 2) (mC (.int 0))) (mC (.int 1)))) (sThen (sSet 6 (mCall (arity 4 r) (mCons (mVar 0) (mCons (mVar 1) (mCons (mVar 2) (mCons (mBin addD (mVar 3) (mC (.int 1))) mNil)))))) (sThen (sIf (mAsT (mBin (eqvD false) (mCall (arity 2 m_q31) (mCons (mVar 0) (mCons (mC (.int 6)) mNil))) (mC (.int 0)))) (sRet (mTup (mCons (mC (.str "while")) (mCons (mCall (arity 3 (m_q27 8)) (mCons (mVar 0) (mCons (mVar 1) (mCons (mC (.int 2)) mNil)))) (mCons (mVar 6) mNil))))) sSkip) (sThen (sSet 7 (mBin ixD (mBin ixD (mVar 1) (mC (.int 1))) (mCall (arity 2 m_q31) (mCons (mVar 0) (mCons (mC (.int 3)) mNil))))) (sThen (sSet 5 (mTup (mCons (mC (.str "above")) (mCons (mCall (arity 2 m_q31) (mCons (mVar 0) (mCons (mC (.int 5)) mNil))) (mCons (mVar 7) mNil))))) (sThen (sIf (mAsT (mBin (eqvD false) (mCall (arity 2 m_q31) (mCons (mVar 0) (mCons (mC (.int 3)) mNil))) (mC (.int 0)))) (sSet 5 (mTup (mCons (mC (.str "both")) (mCons (mCall (arity 3 (m_q27 8)) (mCons (mVar 0) (mCons (mVar 1) (mCons (mC (.int 1)) mNil)))) (mCons (mVar 5) mNil))))) sSkip) (sRet (mTup (mCons (mC (.str "while")) (mCons (mVar 5) (mCons (mBin addD (mVar 6) (mTup (mCons (mTup (mCons (mC (.str "set")) (mCons (mVar 7) (mCons (mTup (mCons (mC (.str "+")) (mCons (mVar 7) (mCons (mC (.int 1)) mNil)))) mNil)))) mNil))) mNil))))))))))) sSkip) (sThen (sIf (mAsT (mBin ltD (mVar 4) (mC (.int 5)))) (sRet (mTup (mCons (mC (.str "set")) (mCons (mBin ixD (mBin ixD (mVar 1) (mC (.int 1))) (mCall (arity 2 m_q31) (mCons (mVar 0) (mCons (mC (.int 3)) mNil)))) (mCons (mCall (arity 3 (m_q33 8)) (mCons (mVar 0) (mCons (mVar 1) (mCons (mC (.int 3)) mNil)))) mNil))))) sSkip) (sThen (sIf (mTAnd (mAsT (mBin ltD (mVar 4) (mC (.int 7)))) (mAsT (mBin (eqvD true) (mBin ixD (mVar 1) (mC (.int 2))) (mTup mNil)))) (sThen (sSet 8 (mComp (mRng1 (mCons (mC (.int 2)) mNil)) [9] (.nm 9) tYesD (mBin ixD (mBin ixD (mBin ixD (mVar 1) (mC (.int 2))) (mCall (arity 2 m_q31) (mCons (mVar 0) (mCons (mCall lenSD (mCons (mBin ixD (mVar 1) (mC (.int 2))) mNil)) mNil)))) (mC (.int 0))))) (sRet (mTup (mCons (mC (.str "pay")) (mCons (mBin ixD (mVar 8) (mC (.int 0))) (mCons (mBin ixD (mVar 8) (mC (.int 1))) (mCons (mCall (arity 3 (m_q33 8)) (mCons (mVar 0) (mCons (mVar 1) (mCons (mC (.int 2)) mNil)))) mNil))))))) sSkip) (sRet (mTup (mCons (mC (.str "say")) (mCons (mCall (arity 3 (m_q33 8)) (mCons (mVar 0) (mCons (mVar 1) (mCons (mBin ixD (mLst (mCons (mC (.int 1)) (mCons (mC (.int 1)) (mCons (mC (.int 2)) (mCons (mC (.int 5)) mNil))))) (mCall (arity 2 m_q31) (mCons (mVar 0) (mCons (mC (.int 4)) mNil)))) mNil)))) mNil))))))))))
def b_q29 (r:List D→M D):SM:=(sThen (sSet 4 (mLstC mNil)) (sThen (sFor (mRng1 (mCons (mCall (arity 2 m_q31) (mCons (mVar 0) (mCons (mC (.int 5)) mNil))) mNil)) (.nm 5) (sIf (mAsT (mBin gtD (mBin ixD (mVar 2) (mC (.int 0))) (mC (.int 0)))) (sExpr (mMeth "list" appendD (mVar 4) (mCons (mCall (arity 4 r) (mCons (mVar 0) (mCons (mVar 1) (mCons (mVar 2) (mCons (mVar 3) mNil))))) mNil))) sSkip)) (sRet (mCall tupleD (mCons (mVar 4) mNil)))))
def m_q29:Nat→List D→M D
 | 0=>fun _=>M.no
 | n+1=>mFn ["_law_bag_here", "_law_kit_here", "_law_left", "_law_deeper", "_law_found", "_law_turn"] (b_q29 (mFn ["_law_bag_here", "_law_kit_here", "_law_left", "_law_deeper", "_law_way", "_law_test_here", "_law_rows_here", "_law_cell", "_law_labels", "_law_turn"] (b_q36 (m_q29 n))))
def Zc3:SM:=(sThen (sSet 2 (mLstC (mCons (mBin subD (mBin ixD (mLst (mCons (mC (.int 8)) (mCons (mC (.int 30)) mNil))) (mCall intCD (mCons (mBin (eqvD false) (mCall (arity 2 m_q31) (mCons (mVar 0) (mCons (mC (.int 16)) mNil))) (mC (.int 0))) mNil))) (mC (.int 1))) mNil))) (sThen (sSet 3 (mBin addD (mCall (arity 4 (m_q29 8)) (mCons (mVar 0) (mCons (mVar 1) (mCons (mVar 2) (mCons (mC (.int 0)) mNil))))) (mCall (arity 4 (m_q29 8)) (mCons (mVar 0) (mCons (mVar 1) (mCons (mVar 2) (mCons (mC (.int 0)) mNil))))))) (sThen (sIf (mTAnd (mAsT (mBin (eqvD false) (mVar 3) (mTup mNil))) (mAsT (mBin gtD (mCall (arity 2 m_q31) (mCons (mVar 0) (mCons (mC (.int 4)) mNil))) (mC (.int 0))))) (sRet (mTup (mCons (mTup (mCons (mC (.str "say")) (mCons (mCall (arity 3 (m_q33 8)) (mCons (mVar 0) (mCons (mVar 1) (mCons (mC (.int 3)) mNil)))) mNil))) mNil))) sSkip) (sRet (mVar 3)))))
def m_q30:List D→M D:=mFn ["_law_bag_here", "_law_kit_here", "_law_left", "_law_rows_here"] Zc3
def XA:SM:=(sThen (sFldD ["Stand"] "cells" (mVar 0) (mVar 1)) (sThen (sFldD ["Stand"] "purses" (mVar 0) (mVar 2)) (sFldD ["Stand"] "tape" (mVar 0) (mVar 3))))
def XI:List D→M D:=mFn ["self", "cells", "purses", "tape"] XA
def XU:SM:=(sThen (sDPutD (mUn (fldD ["Stand"] "cells") (mVar 0)) (mVar 1) (mVar 2)) (sIf (mAsT (mBin (eqvD false) (mVar 2) (mC (.int 0)))) (sExpr (mDPop (mUn (fldD ["Stand"] "cells") (mVar 0)) (mVar 1))) sSkip))
def m_Stand__put:List D→M D:=mFn ["self", "cell", "number"] XU
def Jt:SM:=(sRet (mBin addD (mVar 0) (mVar 1)))
def WU:List D→M D:=mFn ["one", "other"] Jt
def Vi:SM:=(sRet (mBin subD (mVar 0) (mVar 1)))
def Yw:List D→M D:=mFn ["one", "other"] Vi
def XW:SM:=(sRet (mBin mulD (mVar 0) (mVar 1)))
def ZW:List D→M D:=mFn ["one", "other"] XW
def WC:SM:=(sThen (sIf (mAsT (mBin (eqvD false) (mUn (fldD ["Run"] "steps") (mVar 0)) (mC (.int 80)))) (sRaise "Fault" "word" (mC (.str "long"))) sSkip) (sFldAugD ["Run"] "steps" addID (mVar 0) (mC (.int 1))))
def m_Run__step:List D→M D:=mFn ["self"] WC
def b_Run__number (r:List D→M D):SM:=(sThen (sIf (mAsT (mCall (arity 1 m_q32) (mCons (mVar 1) mNil))) (sRet (mVar 1)) sSkip) (sThen (sIf (mAsT (mCall isiD (mCons (mVar 1) (mCons (mC (.ty "str")) mNil)))) (sRet (mDGet (mUn (fldD ["Stand"] "cells") (mUn (fldD ["Run"] "state") (mVar 0))) (mVar 1) (mC (.int 0)))) sSkip) (sThen (sIf (mAsT (mBin (eqvD false) (mBin ixD (mVar 1) (mC (.int 0))) (mC (.str "purse")))) (sRet (mBin ixD (mUn (fldD ["Stand"] "purses") (mUn (fldD ["Run"] "state") (mVar 0))) (mBin ixD (mVar 1) (mC (.int 1))))) sSkip) (sThen (sAsg (.tp [(.nm 6),(.nm 7),(.nm 8)]) (mVar 1)) (sThen (sSet 2 (mMethI "Run" "number" 2 r (mVar 0) (mCons (mVar 7) mNil))) (sThen (sSet 3 (mMethI "Run" "number" 2 r (mVar 0) (mCons (mVar 8) mNil))) (sThen (sSet 4 (mTab [("+", "added"),("-", "lessened"),("*", "multiplied")] (mVar 6))) (sThen (sSet 5 (mCallF 4 [("added",2,WU),("lessened",2,Yw),("multiplied",2,ZW)] (mCons (mVar 2) (mCons (mVar 3) mNil)))) (sThen (sIf (mAsT (mBin gtD (mCall absD (mCons (mVar 5) mNil)) (mC (.int 1000000000)))) (sRaise "Fault" "word" (mC (.str "great"))) sSkip) (sRet (mVar 5)))))))))))
def m_Run__number:Nat→List D→M D
 | 0=>fun _=>M.no
 | n+1=>mFn ["self", "thing", "left", "right", "work", "found", "sign", "one", "other"] (b_Run__number (m_Run__number n))
def b_Run__holds (r:List D→M D):SM:=(sThen (sStar [4] 5 (mVar 1)) (sThen (sIf (mAsT (mBin (eqvD false) (mVar 4) (mC (.str "news")))) (sThen (sIf (mAsT (mBin (inD true) (mBin ixD (mVar 5) (mC (.int 0))) (mUn (fldD ["Run"] "reads") (mVar 0)))) (sRaise "Unread" "name" (mBin ixD (mVar 5) (mC (.int 0)))) sSkip) (sRet (mBin ixD (mUn (fldD ["Run"] "reads") (mVar 0)) (mBin ixD (mVar 5) (mC (.int 0)))))) sSkip) (sThen (sIf (mAsT (mBin (eqvD false) (mVar 4) (mC (.str "known")))) (sRet (mBin ixD (mUn (fldD ["Run"] "known") (mVar 0)) (mBin ixD (mVar 5) (mC (.int 0))))) sSkip) (sThen (sIf (mAsT (mBin (eqvD false) (mVar 4) (mC (.str "not")))) (sRet (mUn notB (mMethI "Run" "holds" 2 r (mVar 0) (mCons (mBin ixD (mVar 5) (mC (.int 0))) mNil)))) sSkip) (sThen (sIf (mAsT (mBin (eqvD false) (mVar 4) (mC (.str "both")))) (sRet (mAnd (mMethI "Run" "holds" 2 r (mVar 0) (mCons (mBin ixD (mVar 5) (mC (.int 0))) mNil)) (mMethI "Run" "holds" 2 r (mVar 0) (mCons (mBin ixD (mVar 5) (mC (.int 1))) mNil)))) sSkip) (sThen (sSet 2 (mMethI "Run" "number" 2 (m_Run__number 8) (mVar 0) (mCons (mBin ixD (mVar 5) (mC (.int 0))) mNil))) (sThen (sSet 3 (mMethI "Run" "number" 2 (m_Run__number 8) (mVar 0) (mCons (mBin ixD (mVar 5) (mC (.int 1))) mNil))) (sRet (mIf (mAsT (mBin (eqvD false) (mVar 4) (mC (.str "above")))) (mBin gtD (mVar 2) (mVar 3)) (mBin (eqvD false) (mVar 2) (mVar 3)))))))))))
def m_Run__holds:Nat→List D→M D
 | 0=>fun _=>M.no
 | n+1=>mFn ["self", "test", "left", "right", "word", "parts"] (b_Run__holds (m_Run__holds n))
def Qi:SM:=(sThen (sAsgL [(.nm 2),(.nm 3)] (mVar 1)) (sExpr (mMethI "Stand" "put" 3 m_Stand__put (mUn (fldD ["Run"] "state") (mVar 0)) (mCons (mVar 2) (mCons (mMethI "Run" "number" 2 (m_Run__number 8) (mVar 0) (mCons (mVar 3) mNil)) mNil)))))
def Wt:List D→M D:=mFn ["run", "parts", "cell", "thing"] Qi
def K9:SM:=(sThen (sSet 2 (mMethI "Run" "number" 2 (m_Run__number 8) (mVar 0) (mCons (mBin ixD (mVar 1) (mC (.int 0))) mNil))) (sThen (sIf (mAsT (mBin geD (mCall lenSD (mCons (mUn (fldD ["Stand"] "tape") (mUn (fldD ["Run"] "state") (mVar 0))) mNil)) (mC (.int 100)))) (sRaise "Fault" "word" (mC (.str "full"))) sSkip) (sExpr (mMeth "list" appendD (mUn (fldD ["Stand"] "tape") (mUn (fldD ["Run"] "state") (mVar 0))) (mCons (mVar 2) mNil)))))
def QD:List D→M D:=mFn ["run", "parts", "number"] K9
def K8:SM:=(sThen (sAsgL [(.nm 3),(.nm 4),(.nm 5)] (mVar 1)) (sThen (sSet 2 (mMethI "Run" "number" 2 (m_Run__number 8) (mVar 0) (mCons (mVar 5) mNil))) (sThen (sIf (mTNot (mAsT (mChain leD leD (mC (.int 0)) (mVar 2) (mBin ixD (mUn (fldD ["Stand"] "purses") (mUn (fldD ["Run"] "state") (mVar 0))) (mVar 3))))) (sRaise "Fault" "word" (mC (.str "short"))) sSkip) (sThen (sDAugD subD (mUn (fldD ["Stand"] "purses") (mUn (fldD ["Run"] "state") (mVar 0))) (mVar 3) (mVar 2)) (sDAugD addID (mUn (fldD ["Stand"] "purses") (mUn (fldD ["Run"] "state") (mVar 0))) (mVar 4) (mVar 2))))))
def QC:List D→M D:=mFn ["run", "parts", "pence", "giver", "taker", "thing"] K8
def b_do_if (r:List D→M D):SM:=(sThen (sAsgL [(.nm 2),(.nm 3),(.nm 4)] (mVar 1)) (sExpr (mMethI "Run" "do" 2 r (mVar 0) (mCons (mIf (mTru (mMethI "Run" "holds" 2 (m_Run__holds 8) (mVar 0) (mCons (mVar 2) mNil))) (mVar 3) (mVar 4)) mNil))))
def b_do_while (r:List D→M D):SM:=(sThen (sAsgL [(.nm 2),(.nm 3)] (mVar 1)) (whileL (mTru (mMethI "Run" "holds" 2 (m_Run__holds 8) (mVar 0) (mCons (mVar 2) mNil))) (sThen (sExpr (mMethI "Run" "do" 2 r (mVar 0) (mCons (mVar 3) mNil))) (sExpr (mMethI "Run" "step" 1 m_Run__step (mVar 0) mNil))) 1000))
def b_Run__do (r1 r2:List D→M D):SM:=(sFor (mWalkT (mVar 1)) (.nm 2) (sThen (sExpr (mMethI "Run" "step" 1 m_Run__step (mVar 0) mNil)) (sThen (sStar [4] 5 (mVar 2)) (sThen (sSet 3 (mTab [("set", "do_set"),("say", "do_say"),("pay", "do_pay"),("if", "do_if"),("while", "do_while")] (mVar 4))) (sExpr (mCallF 3 [("do_set",2,Wt),("do_say",2,QD),("do_pay",2,QC),("do_if",2,r1),("do_while",2,r2)] (mCons (mVar 0) (mCons (mVar 5) mNil))))))))
def m_Run__do:Nat→List D→M D
 | 0=>fun _=>M.no
 | n+1=>mFn ["self", "rows", "row", "deed", "word", "parts"] (b_Run__do (mFn ["run", "parts", "test", "rows", "others"] (b_do_if (m_Run__do n))) (mFn ["run", "parts", "test", "rows"] (b_do_while (m_Run__do n))))
def WD:SM:=(sRet (mTup (mCons (mC (.str "while")) (mCons (mTup (mCons (mC (.str "above")) (mCons (mVar 0) (mCons (mC (.str "c")) mNil)))) (mCons (mBin addD (mVar 1) (mTup (mCons (mTup (mCons (mC (.str "set")) (mCons (mC (.str "c")) (mCons (mTup (mCons (mC (.str "+")) (mCons (mC (.str "c")) (mCons (mC (.int 1)) mNil)))) mNil)))) mNil))) mNil)))))
def m_law_round:List D→M D:=mFn ["_law_often", "_law_rows"] WD
def b_is_same (r:List D→M D):SM:=(sThen (sIf (mTOr (mAsT (mUn (isiTD ["list", "tuple"]) (mVar 0))) (mAsT (mUn (isiTD ["list", "tuple"]) (mVar 1)))) (sThen (sIf (mTOr (mAsT (mBin (eqvD true) (mCall isiD (mCons (mVar 0) (mCons (mC (.ty "list")) mNil))) (mCall isiD (mCons (mVar 1) (mCons (mC (.ty "list")) mNil))))) (mAsT (mBin (eqvD true) (mCall isiD (mCons (mVar 0) (mCons (mC (.ty "tuple")) mNil))) (mCall isiD (mCons (mVar 1) (mCons (mC (.ty "tuple")) mNil)))))) (sRet (mC (.bl false))) sSkip) (sRet (mAnd (mBin (eqvD false) (mCall lenSD (mCons (mVar 0) mNil)) (mCall lenSD (mCons (mVar 1) mNil))) (mCall allD (mCons (mComp (mZipS (mCons (mVar 0) (mCons (mVar 1) mNil))) [2,3] (.tp [(.nm 2),(.nm 3)]) tYesD (mCall (arity 2 r) (mCons (mVar 2) (mCons (mVar 3) mNil)))) mNil))))) sSkip) (sThen (sIf (mTOr (mAsT (mBin (eqvD true) (mCall isiD (mCons (mVar 0) (mCons (mC (.ty "bool")) mNil))) (mCall isiD (mCons (mVar 1) (mCons (mC (.ty "bool")) mNil))))) (mAsT (mBin (eqvD true) (mCall isiD (mCons (mVar 0) (mCons (mC (.ty "str")) mNil))) (mCall isiD (mCons (mVar 1) (mCons (mC (.ty "str")) mNil)))))) (sRet (mC (.bl false))) sSkip) (sRet (mBin (eqvD false) (mVar 0) (mVar 1)))))
def m_is_same:Nat→List D→M D
 | 0=>fun _=>M.no
 | n+1=>mFn ["one", "other", "a", "b"] (b_is_same (m_is_same n))
def V9:SM:=(sRet (mBin (eqvD false) (mCall lenSD (mCons (mCall Zei (mCons (mVar 0) mNil)) mNil)) (mCall lenSD (mCons (mVar 0) mNil))))
def X5:List D→M D:=mFn ["names"] V9
def V8:SM:=(sThen (sIf (mTOr (mTNot (mAsT (mCall isiD (mCons (mVar 0) (mCons (mC (.ty "tuple")) mNil))))) (mAsT (mBin gtD (mCall lenSD (mCons (mVar 0) mNil)) (mC (.int 8))))) (sRet (mC (.bl false))) sSkip) (sThen (sFor (mWalkT (mVar 0)) (.nm 1) (sIf (mTOr (mTNot (mAsT (mCall isiD (mCons (mVar 1) (mCons (mC (.ty "tuple")) mNil))))) (mTOr (mAsT (mBin (eqvD true) (mCall lenSD (mCons (mVar 1) mNil)) (mC (.int 2)))) (mTOr (mTNot (mAsT (mCall (arity 1 m_q34) (mCons (mBin ixD (mVar 1) (mC (.int 0))) mNil)))) (mTNot (mAsT (mCall (arity 3 Ux) (mCons (mBin ixD (mVar 1) (mC (.int 1))) (mCons (mC (.int 0)) (mCons (mC (.int 1000000)) mNil))))))))) (sRet (mC (.bl false))) sSkip)) (sRet (mCall (arity 1 X5) (mCons (mComp (mWalkT (mVar 0)) [2,3] (.tp [(.nm 2),(.nm 3)]) tYesD (mVar 2)) mNil)))))
def Uw:List D→M D:=mFn ["thing", "one", "name", "pence"] V8
def Q0:SM:=(sThen (sIf (mTOr (mTNot (mAsT (mCall isiD (mCons (mVar 1) (mCons (mC (.ty "tuple")) mNil))))) (mTNot (mAsT (mChain leD leD (mC (.int 1)) (mCall lenSD (mCons (mVar 1) mNil)) (mC (.int 3)))))) (sRet (mC (.bl false))) sSkip) (sRet (mCall (arity 2 (m_is_same 25)) (mCons (mVar 1) (mCons (mCall tupleD (mCons (mComp (mWalkT (mVar 0)) [2] (.nm 2) (mAsT (mBin (inD false) (mVar 2) (mVar 1))) (mVar 2)) mNil)) mNil)))))
def Jd:List D→M D:=mFn ["names", "thing", "name"] Q0
def QZ:SM:=(sThen (sIf (mTOr (mTNot (mAsT (mCall isiD (mCons (mVar 1) (mCons (mC (.ty "tuple")) mNil))))) (mAsT (mBin gtD (mCall lenSD (mCons (mVar 1) mNil)) (mC (.int 4))))) (sRet (mC (.bl false))) sSkip) (sThen (sFor (mWalkT (mVar 1)) (.nm 2) (sIf (mTOr (mTNot (mAsT (mCall isiD (mCons (mVar 2) (mCons (mC (.ty "tuple")) mNil))))) (mTOr (mAsT (mBin (eqvD true) (mCall lenSD (mCons (mVar 2) mNil)) (mC (.int 2)))) (mTOr (mTNot (mAsT (mCall (arity 1 m_q34) (mCons (mBin ixD (mVar 2) (mC (.int 0))) mNil)))) (mTNot (mAsT (mCall (arity 2 Jd) (mCons (mVar 0) (mCons (mBin ixD (mVar 2) (mC (.int 1))) mNil)))))))) (sRet (mC (.bl false))) sSkip)) (sRet (mCall (arity 1 X5) (mCons (mComp (mWalkT (mVar 1)) [3,4] (.tp [(.nm 3),(.nm 4)]) tYesD (mVar 3)) mNil)))))
def Jc:List D→M D:=mFn ["names", "thing", "one", "ear", "some"] QZ
def Xa:SM:=(sThen (sStarL [3] 4 (mVar 0)) (sThen (sSet 1 (mCall (minlD) (mCons (mBin addD (mLst (mCons (mCall lenSD (mCons (mVar 3) mNil)) mNil)) (mComp (mWalkL (mVar 4)) [5] (.nm 5) tYesD (mCall lenSD (mCons (mVar 5) mNil)))) mNil))) (sThen (sSet 2 (mLstC mNil)) (sThen (whileL (mTAnd (mAsT (mBin ltD (mCall lenSD (mCons (mVar 2) mNil)) (mVar 1))) (mAsT (mCall allD (mCons (mComp (mWalkL (mVar 4)) [5] (.nm 5) tYesD (mBin (eqvD false) (mBin ixD (mVar 5) (mCall lenSD (mCons (mVar 2) mNil))) (mBin ixD (mVar 3) (mCall lenSD (mCons (mVar 2) mNil))))) mNil)))) (sExpr (mMeth "list" appendD (mVar 2) (mCons (mBin ixD (mVar 3) (mCall lenSD (mCons (mVar 2) mNil))) mNil))) 1000) (sRet (mFix (mVar 2)))))))
def Yg:List D→M D:=mFn ["tapes", "many", "found", "first", "others", "tape"] Xa
def Y9:SM:=(sThen (sFldD ["Moment"] "groups" (mVar 0) (mVar 1)) (sFldD ["Moment"] "said" (mVar 0) (mVar 2)))
def Yf:List D→M D:=mFn ["self", "groups", "said"] Y9
def Xw:SM:=(sThen (sIf (mTNot (mAsT (mCall (arity 1 WV) (mCons (mVar 1) mNil)))) (sRaise "NoHouse" "part" (mC (.str "names"))) sSkip) (sThen (sIf (mTNot (mAsT (mCall (arity 1 Uw) (mCons (mVar 2) mNil)))) (sRaise "NoHouse" "part" (mC (.str "purses"))) sSkip) (sThen (sIf (mTNot (mAsT (mCall (arity 2 Jc) (mCons (mVar 1) (mCons (mVar 3) mNil))))) (sRaise "NoHouse" "part" (mC (.str "ears"))) sSkip) (sThen (sFldD ["House"] "names" (mVar 0) (mVar 1)) (sThen (sFldD ["House"] "purses" (mVar 0) (mVar 2)) (sThen (sFldD ["House"] "ears" (mVar 0) (mVar 3)) (sThen (sFldD ["House"] "hand" (mVar 0) (mVar 4)) (sThen (sFldD ["House"] "shut" (mVar 0) (mC (.bl false))) (sThen (sFldD ["House"] "entries" (mVar 0) (mLstC mNil)) (sThen (sFldD ["House"] "past" (mVar 0) (mLstC mNil)) (sFldD ["House"] "now" (mVar 0) (mMake "Moment" 3 Yf (mCons (mLst (mCons (mTup (mCons (mCall (arity 2 Xj) (mCons (mVar 1) (mCons (mTup mNil) mNil))) (mCons (mMake "Stand" 4 XI (mCons mDNewC (mCons (mCall Zbr (mCons (mVar 2) mNil)) (mCons (mLstC mNil) mNil)))) mNil))) mNil)) (mCons (mLstC mNil) mNil))))))))))))))
def XH:List D→M D:=mFn ["self", "names", "purses", "ears", "hand"] Xw
def Y7:SM:=(sThen (sIf (mTru (mUn (fldD ["House"] "shut") (mVar 0))) Ji sSkip) (sIf (mAsT (mBin geD (mCall lenSD (mCons (mUn (fldD ["House"] "entries") (mVar 0)) mNil)) (mC (.int 60)))) Ji sSkip))
def Ye:List D→M D:=mFn ["self"] Y7
def Y8:SM:=(sThen (sSet 3 (mCall (arity 1 Yg) (mCons (mComp (mWalkL (mVar 2)) [5,6] (.tp [(.nm 5),(.nm 6)]) tYesD (mUn (fldD ["Stand"] "tape") (mVar 6))) mNil))) (sThen (sSet 4 (mSlC (mVar 3) (mPart (mCall lenSD (mCons (mUn (fldD ["Moment"] "said") (mUn (fldD ["House"] "now") (mVar 0))) mNil))) mNoPart)) (sThen (sExpr (mMeth "list" appendD (mUn (fldD ["House"] "past") (mVar 0)) (mCons (mUn (fldD ["House"] "now") (mVar 0)) mNil))) (sThen (sExpr (mMeth "list" appendD (mUn (fldD ["House"] "entries") (mVar 0)) (mCons (mVar 1) mNil))) (sThen (sFldD ["House"] "now" (mVar 0) (mMake "Moment" 3 Yf (mCons (mVar 2) (mCons (mVar 3) mNil)))) (sThen (sIf (mTAnd (mAsT (mBin (eqvD true) (mVar 4) (mLst mNil))) (mAsT (mBin (isD true) (mUn (fldD ["House"] "hand") (mVar 0)) (mC .non)))) (sThen Ji Ji) sSkip) (sRet (mVar 4))))))))
def Xh:List D→M D:=mFn ["self", "entry", "groups", "said", "fresh", "mask", "stand"] Y8
def VB:SM:=(sRet (mCall listD (mCons (mUn (fldD ["Moment"] "said") (mUn (fldD ["House"] "now") (mVar 0))) mNil)))
def Z2:List D→M D:=mFn ["self"] VB
def Vx:SM:=(sRet (mCall J5 (mCons (mUn (fldD ["House"] "entries") (mVar 0)) mNil)))
def VO:List D→M D:=mFn ["self"] Vx
def Vy:SM:=(sRet (mTup (mCons (mUn (fldD ["House"] "names") (mVar 0)) (mCons (mUn (fldD ["House"] "purses") (mVar 0)) (mCons (mUn (fldD ["House"] "ears") (mVar 0)) (mCons (mCall listD (mCons (mUn (fldD ["House"] "entries") (mVar 0)) mNil)) mNil))))))
def Z1:List D→M D:=mFn ["self"] Vy
def Ge:SM:=(sRet (mComp (mWalkL (mVar 0)) [2,3] (.tp [(.nm 2),(.nm 3)]) (mTru (mBin andD (mVar 2) (mVar 1))) (mTup (mCons (mBin andD (mVar 2) (mVar 1)) (mCons (mVar 3) mNil)))))
def QE:List D→M D:=mFn ["groups", "mask", "part", "stand"] Ge
def Q1:SM:=(sRet (mCall (arity 1 Yg) (mCons (mComp (mWalkL (mCall (arity 2 QE) (mCons (mVar 0) (mCons (mVar 1) mNil)))) [2,3] (.tp [(.nm 2),(.nm 3)]) tYesD (mUn (fldD ["Stand"] "tape") (mVar 3))) mNil)))
def Je:List D→M D:=mFn ["groups", "mask", "part", "stand"] Q1
def Y0:SM:=(sThen (sSet 1 (mC (.int 0))) (sThen (sFor (mWalkL (mUn (fldD ["Moment"] "groups") (mVar 0))) (.tp [(.nm 2),(.nm 3)]) (sAug 1 orD (mVar 2))) (sRet (mVar 1))))
def ZZ:List D→M D:=mFn ["self", "found", "part", "stand"] Y0
def Xy:SM:=(sThen (sSet 3 (mCall (arity 2 QE) (mCons (mUn (fldD ["Moment"] "groups") (mUn (fldD ["House"] "now") (mVar 0))) (mCons (mVar 2) mNil)))) (sThen (sIf (mAsT (mBin (eq0D false) (mVar 3) (mLst mNil))) (sRaise0 "NoWorld") sSkip) (sRet (mMethI "House" "put_entry" 3 Xh (mVar 0) (mCons (mVar 1) (mCons (mVar 3) mNil))))))
def Yt:List D→M D:=mFn ["self", "entry", "mask", "groups"] Xy
def Xx:SM:=(sThen (sIf (mTOr (mTNot (mAsT (mCall (arity 1 m_q34) (mCons (mVar 1) mNil)))) (mAsT (mBin (inD true) (mVar 1) (mComp (mWalkT (mUn (fldD ["House"] "ears") (mVar 0))) [2,3] (.tp [(.nm 2),(.nm 3)]) tYesD (mVar 2))))) Ji sSkip) (sRet (mBin ixD (mCall Zaw (mCons (mUn (fldD ["House"] "ears") (mVar 0)) mNil)) (mVar 1))))
def Ys:List D→M D:=mFn ["self", "ear", "one", "some"] Xx
def Xz:SM:=(sThen (sSet 2 (mLstC mNil)) (sThen (sFor (mRng1 (mCons (mBin shlD (mC (.int 1)) (mCall lenSD (mCons (mVar 1) mNil))) mNil)) (.nm 3) (sThen (sSet 4 (mCall (arity 2 X6) (mCons (mVar 1) (mCons (mVar 3) mNil)))) (sThen (sSet 5 (mCall (arity 2 Xj) (mCons (mUn (fldD ["House"] "names") (mVar 0)) (mCons (mCall tupleD (mCons (mComp (mZipS (mCons (mVar 1) (mCons (mVar 4) mNil))) [6,7] (.tp [(.nm 6),(.nm 7)]) tYesD (mTup (mCons (mVar 6) (mCons (mVar 7) mNil)))) mNil)) mNil)))) (sIf (mTru (mBin andD (mMethI "Moment" "all_worlds" 1 ZZ (mUn (fldD ["House"] "now") (mVar 0)) mNil) (mVar 5))) (sExpr (mMeth "list" appendD (mVar 2) (mCons (mTup (mCons (mVar 4) (mCons (mVar 5) (mCons (mCall (arity 2 Je) (mCons (mUn (fldD ["Moment"] "groups") (mUn (fldD ["House"] "now") (mVar 0))) (mCons (mVar 5) mNil))) mNil)))) mNil))) sSkip)))) (sRet (mFix (mVar 2)))))
def Yu:List D→M D:=mFn ["self", "names", "found", "place", "filling", "mask", "name", "truth"] Xz
def VA:SM:=(sThen (sExpr (mMethI "House" "look_free" 1 Ye (mVar 0) mNil)) (sThen (sIf (mTOr (mTNot (mAsT (mCall (arity 1 m_q34) (mCons (mVar 1) mNil)))) (mAsT (mBin (inD true) (mVar 1) (mUn (fldD ["House"] "names") (mVar 0))))) Ji sSkip) (sRet (mMethI "House" "narrowed" 3 Yt (mVar 0) (mCons (mTup (mCons (mC (.str "news")) (mCons (mVar 1) (mCons (mVar 2) mNil)))) (mCons (mCall (arity 2 Xj) (mCons (mUn (fldD ["House"] "names") (mVar 0)) (mCons (mTup (mCons (mTup (mCons (mVar 1) (mCons (mVar 2) mNil))) mNil)) mNil))) mNil))))))
def VP:List D→M D:=mFn ["self", "name", "yes"] VA
def Vz:SM:=(sThen (sExpr (mMethI "House" "look_free" 1 Ye (mVar 0) mNil)) (sThen (sSet 3 (mComp (mWalkL (mMethI "House" "tellings" 2 Yu (mVar 0) (mCons (mMethI "House" "names_of" 2 Ys (mVar 0) (mCons (mVar 1) mNil)) mNil))) [5,6,7] (.tp [(.nm 5),(.nm 6),(.nm 7)]) (mAsT (mBin (eqvD false) (mVar 7) (mVar 2))) (mTup (mCons (mVar 5) (mCons (mVar 6) mNil))))) (sThen (sSet 4 (mCall tupleD (mCons (mComp (mWalkL (mVar 3)) [5,6] (.tp [(.nm 5),(.nm 6)]) tYesD (mVar 5)) mNil))) (sRet (mMethI "House" "narrowed" 3 Yt (mVar 0) (mCons (mTup (mCons (mC (.str "heard")) (mCons (mVar 1) (mCons (mCall tupleD (mCons (mVar 2) mNil)) (mCons (mVar 4) mNil))))) (mCons (mCall ZnE (mCons (mComp (mWalkL (mVar 3)) [5,6] (.tp [(.nm 5),(.nm 6)]) tYesD (mVar 6)) mNil)) mNil)))))))
def Xg:List D→M D:=mFn ["self", "ear", "said", "some", "left", "filling", "mask", "text"] Vz
def W9:SM:=(sRet (mTup (mCons (mUn (fldD ["House"] "names") (mVar 0)) (mCons (mUn (fldD ["House"] "purses") (mVar 0)) (mCons (mUn (fldD ["House"] "ears") (mVar 0)) (mCons (mCall listD (mCons (mUn (fldD ["House"] "entries") (mVar 0)) mNil)) mNil))))))
def Vd:List D→M D:=mFn ["self"] W9
def Wz:SM:=(sRet (mCall (arity 2 G5) (mCons (mUn (fldD ["House"] "names") (mVar 0)) (mCons (mMethI "Moment" "all_worlds" 1 ZZ (mUn (fldD ["House"] "now") (mVar 0)) mNil) mNil))))
def Z7:List D→M D:=mFn ["self"] Wz
end NA
namespace L2
open PySem PySem.Spec PyProof.Rows
end L2
namespace ND
open PySem L2
section
variable {g:G} {c:List Addr} {S:Za} {H:Hp}
def mulLD (x y:D):M D:=match x,y with
 | .lst xs,.int k=>M.chk (decide (0≤k∧k≤1000∧xs.length≤10)) (pure (.lst (List.replicate k.toNat xs).flatten))
 | _,_=>M.no
theorem Zb3:OpD g rRep mulLD:=by
 intro c S H v w d e Q E r hv hw o
 unfold mulLD at o
 split at o
 ·rename_i xs k
  cases hw with
  | int k=>
   obtain ⟨h,o2⟩:=Out.chk o
   obtain ⟨h1,h2,h3⟩:=of_decide_eq_true h
   cases hv with
   | lst sq l=>
    rename_i a vs
    have hl:=l.length
    have z:=sizeLine_eq
    have b:vs.length * k.toNat≤10 * 1000:=Nat.mul_le_mul (by omega) (by omega)
    refine ⟨a,k,vs,rfl,rfl,(frz_of sq).1,by omega,by omega,by omega,fun p hp=>?_⟩
    have f:=Fut.new (o:=.lst (List.replicate k.toNat vs).flatten) r hp
    exact o2 _ c f _ (.lst (Fut.frz_new r hp) ((Vls.rep l k.toNat).mono f.ex (Pre.refl c)))
 ·exact o.elim
end
end ND
namespace NA
open PySem L2 ND
def VC:SM:=(sThen (sSet 1 (mCall2 1 2 [0,1,2,3] [.non] (makeD "House" 5 XH) (mCons (mUn (fldD ["House"] "names") (mVar 0)) mNil) (mCons (mUn (fldD ["House"] "purses") (mVar 0)) (mCons (mUn (fldD ["House"] "ears") (mVar 0)) mNil)))) (sThen (sFldD ["House"] "entries" (mVar 1) (mCall J5 (mCons (mUn (fldD ["House"] "entries") (mVar 0)) mNil))) (sThen (sFldD ["House"] "past" (mVar 1) (mCall J5 (mCons (mUn (fldD ["House"] "past") (mVar 0)) mNil))) (sThen (sFldD ["House"] "now" (mVar 1) (mUn (fldD ["House"] "now") (mVar 0))) (sRet (mVar 1))))))
def Xi:List D→M D:=mFn ["self", "other"] VC
def We:SM:=(sThen (sSet 3 (mMethI "House" "names_of" 2 Ys (mVar 0) (mCons (mVar 1) mNil))) (sThen (sIf (mAsT (mCall (arity 2 Uy) (mCons (mVar 3) (mCons (mVar 2) mNil)))) (sFor (mWalkL (mMethI "House" "tellings" 2 Yu (mVar 0) (mCons (mVar 3) mNil))) (.tp [(.nm 4),(.nm 5),(.nm 6)]) (sIf (mAsT (mBin (eqvD false) (mVar 4) (mVar 2))) (sRet (mVar 6)) sSkip)) sSkip) (sRaise0 "NoWorld")))
def ZL:List D→M D:=mFn ["self", "ear", "filling", "names", "one", "mask", "text"] We
end NA
namespace ND
open PySem L2
def addLC (x y:D):M D:=fun S=>match dr S x,dr S y with
 | .lst xs,.lst ys=>if xs.length+ys.length≤sizeLine then newCell (.lst (xs++ys)) S else .bad
 | _,_=>.bad
theorem Zb0 {g:G}:OpD g (rAddD g.K) addLC:=by
 intro c S H v w d e Q E r hv hw o
 have sv:=dr_seen r hv
 have sw:=dr_seen r hw
 unfold addLC at o
 split at o
 ·rename_i xs ys h1 h2
  rw [h1] at sv; rw [h2] at sw
  obtain ⟨a,vs,e1,k1,l1⟩:=sv.lst'
  obtain ⟨b,ws,e2,k2,l2⟩:=sw.lst'
  split at o
  ·rename_i hl
   exact .inl (.inr ⟨a,b,vs,ws,e1,e2,k1,k2,by rw [l1.length,l2.length]; exact hl,fun p hp=>QG (x:=.lst (xs++ys)) r rfl ⟨_,upd_same,l1.append l2⟩ o hp⟩)
  ·exact o.elim
 ·exact o.elim
end ND
namespace NA
open PySem L2 ND
def Zc1:SM:=(sThen (sSet 2 (mC (.str "abcdefghijklmnopqrstuvwxyz"))) (sThen (sSet 3 (mMeth "str" joinD (mC (.str "")) (mCons (mComp (mRng1 (mCons (mBin ixD (mLst (mCons (mC (.int 0)) (mCons (mC (.int 0)) (mCons (mC (.int 1)) (mCons (mC (.int 2)) (mCons (mC (.int 7)) mNil)))))) (mCall (arity 2 m_q31) (mCons (mVar 0) (mCons (mC (.int 5)) mNil)))) mNil)) [8] (.nm 8) tYesD (mBin ixD (mVar 2) (mCall (arity 2 m_q31) (mCons (mVar 0) (mCons (mC (.int 26)) mNil))))) mNil))) (sThen (sAsg (.tp [(.nm 5),(.nm 6),(.nm 7)]) (mTup (mCons (mCall (arity 2 m_q31) (mCons (mVar 0) (mCons (mBin addD (mCall lenSD (mCons (mVar 3) mNil)) (mC (.int 1))) mNil))) (mCons (mCall (arity 2 m_q31) (mCons (mVar 0) (mCons (mC (.int 26)) mNil))) (mCons (mBin ixD (mLst (mCons (mC (.int 1)) (mCons (mC (.int 3)) (mCons (mC (.int 5)) (mCons (mC (.int 25)) mNil))))) (mCall (arity 2 m_q31) (mCons (mVar 0) (mCons (mC (.int 4)) mNil)))) mNil))))) (sThen (sSet 4 (mComp (mRng1 (mCons (mVar 1) mNil)) [8] (.nm 8) tYesD (mBin ixD (mVar 2) (mBin modD (mBin addD (mVar 6) (mBin mulD (mVar 7) (mVar 8))) (mC (.int 26)))))) (sRet (mCall tupleD (mCons (mComp (mWalkL (mVar 4)) [9] (.nm 9) tYesD (mBin addD (mBin addD (mSl (mVar 3) mNoPart (mPart (mVar 5))) (mVar 9)) (mSl (mVar 3) (mPart (mVar 5)) mNoPart))) mNil)))))))
def m_q26:List D→M D:=mFn ["_law_bag_here", "_law_many", "_law_letters", "_law_stem", "_law_some", "_law_spot", "_law_first", "_law_pace", "_law_k", "_law_letter"] Zc1
def Zc8:SM:=(sThen (sPar2 4 5 (mCons (mCall (arity 2 m_q26) (mCons (mVar 0) (mCons (mCall (arity 2 m_q31) (mCons (mVar 0) (mCons (mBin addD (mVar 1) (mC (.int 1))) mNil))) mNil))) (mCons (mCall (arity 2 m_q26) (mCons (mVar 0) (mCons (mC (.int 3)) mNil))) mNil))) (sThen (sSet 2 (mCall (arity 2 m_q26) (mCons (mVar 0) (mCons (mCall (arity 2 m_q31) (mCons (mVar 0) (mCons (mC (.int 4)) mNil))) mNil)))) (sThen (sSet 3 (mComp (mWalkT (mVar 2)) [6] (.nm 6) tYesD (mBin ixD (mLst (mCons (mCall (arity 2 m_q31) (mCons (mVar 0) (mCons (mC (.int 6)) mNil))) (mCons (mCall (arity 2 m_q31) (mCons (mVar 0) (mCons (mC (.int 200)) mNil))) (mCons (mC (.int 0)) (mCons (mBin powD (mC (.int 10)) (mC (.int 6))) mNil))))) (mCall (arity 2 m_q31) (mCons (mVar 0) (mCons (mC (.int 4)) mNil)))))) (sRet (mTup (mCons (mVar 4) (mCons (mVar 5) (mCons (mCall tupleD (mCons (mComp (mZipM (mCons (mVar 2) (mCons (mVar 3) mNil))) [6,7] (.tp [(.nm 6),(.nm 7)]) tYesD (mTup (mCons (mVar 6) (mCons (mVar 7) mNil)))) mNil)) mNil))))))))
def m_q37:List D→M D:=mFn ["_law_bag_here", "_law_most", "_law_labels", "_law_pence", "_law_names_here", "_law_cells", "_law_label", "_law_much"] Zc8
end NA
namespace NDT
open PySem PySem.Spec PySem.W PyProof.Rows L2
open ND (tkey)
def truths (k:List Bool):List Value:=k.map Value.bool
theorem Vw:∀ {k l:List Bool},truths k=truths l→k=l
 | [],[],_=>rfl
 | [],_ :: _,h=>by cases h
 | _ :: _,[],h=>by cases h
 | b :: k,c :: l,h=>by
  unfold truths at h
  rw [List.map_cons,List.map_cons] at h
  injection h with h1 h2
  injection h1 with h1
  rw [h1,Vw h2]
def KJ (h:Heap) (k:List Bool) (a:Addr):Prop:=∃ o n,h.get? a=some o∧o.cls = .type "tuple" ∧ o.data = .seq (truths k).toArray n
theorem KJ.inj {h:Heap} {k l:List Bool} {a:Addr} (x:KJ h k a) (y:KJ h l a):k=l:=by
 obtain ⟨o,n,h1,_,h2⟩:=x
 obtain ⟨o',n',g1,_,g2⟩:=y
 rw [h1] at g1
 cases g1
 rw [h2] at g2
 injection g2 with g2
 exact Vw (by simpa using congrArg Array.toList g2)
theorem KJ.keep {h h':Heap} {k:List Bool} {a:Addr} (x:KJ h k a) (g:∀ o,h.get? a=some o→h'.get? a=some o):KJ h' k a:=by
 obtain ⟨o,n,h1,h2⟩:=x
 exact ⟨o,n,g o h1,h2⟩
section
variable {w:World} {s:Shared}
theorem KJ.ty {k:List Bool} {a:Addr} (x:KJ s.heap k a):s.TypeIs (.ref a) "tuple" := by
 obtain ⟨o,n,h1,h2,_⟩:=x
 exact ⟨o,h1,h2⟩
abbrev hashB (w:World) (k:List Bool):Int:=(tkey k).hash w
abbrev rowB (w:World) (p:Addr × List Bool):Int × Value:=(hashB w p.2,.ref p.1)
structure SetB (w:World) (h:Heap) (a:Addr) (L:List (Addr × List Bool)) (es:Array (Int × Value)) (ep:Nat) (t:SetTable):Prop where
 ob:∃ o,h.get? a=some o∧o.ExactSet∧o.data = .set es ep t
 rows:es.toList=L.map (rowB w)
 tab:TabOk t (L.map fun p=>hashB w p.2)
 nd:(L.map (·.2)).Nodup
 plain:t.plain=true
 led:w.params.followText "set-order" = true∨t.led=true
 room:L.length * 5 < t.mask * 3
 few:L.length < 16
variable {a:Addr} {L:List (Addr × List Bool)} {es:Array (Int × Value)} {ep:Nat} {t:SetTable}
theorem SetB.size (R:SetB w s.heap a L es ep t):es.size=L.length:=by
 rw [← Array.length_toList,R.rows,List.length_map]
theorem SetB.row (R:SetB w s.heap a L es ep t) (i:Nat):es[i]? = (L[i]?).map (rowB w):=by
 rw [← Array.getElem?_toList,R.rows,List.getElem?_map]
end
structure HasB (ks:List (Addr × List Bool)) (i:Nat) (L:List (Addr × List Bool)):Prop where
 sub:∀ p ∈ L,p ∈ ks.take i
 all:∀ p ∈ ks.take i,p.2 ∈ L.map (·.2)
theorem HasB.step {ks L L':List (Addr × List Bool)} {i:Nat} {x:Addr × List Bool} (g:HasB ks i L) (h:ks[i]? = some x) (c1:x.2 ∈ L.map (·.2)→L'=L) (c2:x.2 ∉ L.map (·.2)→L'.Perm (x :: L)):HasB ks (i+1) L':=by
 have e:ks.take (i+1)=ks.take i++[x]:=by rw [List.take_succ,h]; rfl
 by_cases c:x.2 ∈ L.map (·.2)
 ·rw [c1 c]
  refine ⟨fun p hp=>by rw [e]; exact List.mem_append_left _ (g.sub p hp),fun p hp=>?_⟩
  rw [e] at hp
  rcases List.mem_append.mp hp with z | z
  ·exact g.all p z
  ·rw [List.mem_singleton.mp z]; exact c
 ·have pm:=c2 c
  refine ⟨fun p hp=>?_,fun p hp=>?_⟩
  ·rw [e]
   rcases List.mem_cons.mp (pm.mem_iff.mp hp) with z | z
   ·rw [z]; exact List.mem_append_right _ (List.mem_singleton.mpr rfl)
   ·exact List.mem_append_left _ (g.sub p z)
  ·rw [(pm.map (·.2)).mem_iff,List.map_cons]
   rw [e] at hp
   rcases List.mem_append.mp hp with z | z
   ·exact List.mem_cons_of_mem _ (g.all p z)
   ·rw [List.mem_singleton.mp z]; exact List.mem_cons_self
def Zbe (w:World) (h:Heap) (a:Addr) (L:List (Addr × List Bool)):Prop:=∃ es ep t,SetB w h a L es ep t
theorem Zbe.at {w:World} {h h':Heap} {a:Addr} {L:List (Addr × List Bool)} (R:Zbe w h a L) (k:∀ o,h.get? a=some o→h'.get? a=some o):Zbe w h' a L:=by
 obtain ⟨es,ep,t,R⟩:=R
 obtain ⟨o,ho,r⟩:=R.ob
 exact ⟨es,ep,t,{ R with ob:=⟨o,k o ho,r⟩ }⟩
def hB (k:List Bool):Int:=reduceHash (Builtin.Tuple.tupleHashOf (k.map fun b=>hashInt (if b=true then 1 else 0)))
def tupD (k:List Bool):PyData:=.tuple (k.map PyData.bool)
def leB:List Bool→List Bool→Bool:=sortLe (listOrd itemOrd) false fun k=>keyToks (tupD k)
def onceB:List (List Bool)→List (List Bool)
 | []=>[]
 | k :: r=>if k ∈ r then onceB r else k :: onceB r
def sortB (ks:List (List Bool)):List (List Bool):=(onceB ks).mergeSort leB
theorem X8 {h:Heap}:∀ {k:List Bool},ReadsAll h (truths k) (k.map PyData.bool) []
 | []=>.nil
 | b :: k=>.cons (.bool b) X8
theorem KJ.reads {h:Heap} {k:List Bool} {a:Addr} (x:KJ h k a):Reads h (.ref a) (tupD k) []:=by
 obtain ⟨o,n,h1,h2,h3⟩:=x
 exact .tuple h1 h2 h3 (by simpa using X8)
end NDT
namespace L2
open PySem PySem.Spec PySem.W PyProof.Rows NDT
end L2
namespace ND
open PySem L2 NDT
section
variable {m:EM} {k:Nat}
def Zex:List D→Option (List (List Bool))
 | []=>some []
 | .tup xs :: r=>(match tksOf xs,Zex r with
  | some k,some ks=>some (k :: ks)
  | _,_=>none)
 | _=>none
def Zgt (ks:List (List Bool)):Bool:=ks.all fun k=>decide (k.length=(ks.headD []).length∧k.length≤3)
def Ku (x:D):M D:=fun S=>match dr S x with
 | .lst xs=>(match Zex xs with
  | some ks=>if Zgt ks=true then .ok (.lst ((sortB ks).map fun k=>.tup (k.map D.bl))) S else .bad
  | none=>.bad)
 | _=>.bad
def mSortSetF (m:EM):EM:=fun τ=>m τ >>= Ku
end
end ND
namespace ND
open PySem L2
section
variable {X:Cx} {g:G} {W:WX} {cur:Cur} {hid:List Addr} {a b e:Expr} {es:List Expr} {ma mb:EM} {ms:AM} {pos p:Pos}
theorem scQ {N ps:List Str} {sc:Scope} (h1:sc.kind = .function:=by rfl) (h2:sc.isCoroutine=false:=by rfl) (h3:sc.isGenerator=false:=by rfl) (h4:N.Nodup:=by decide +kernel) (h5:N.take ps.length=ps:=by rfl)
 (h6:∀ x ∈ ps,sc.names.lookup x=some .local∨sc.names.lookup x=some .cell:=by decide +kernel) (h7:∀ y ∈ sc.names,y.2 ≠ .free:=by decide +kernel):FnScope N ps sc:=⟨h1,h2,h3,h4,h5,h6,h7⟩
theorem d_iq {k:Nat} (hr:RoomG k X.A) (ha:PE X a (tE (gx X cur hid) W ma)) (hb:PE X b (tE (gx X cur hid) W mb)) (hs:PlainIx b:=by exact fun _ _=>rfl):PE X (.Subscript a b pos) (tE (gx X cur hid) W (mBin ixD ma mb)):=Zh1 (room1 hr) ha hb hs
theorem Zo {i:Str} {j:Nat} (h:(PyData.strOk i && decide (i.length≤sizeLine))=true:=by decide +kernel):PE X (.Constant (.str i) j pos) (tE g W (mC (.str i))):=ZfO (sOk_of h)
theorem d_cq {x:Str} {j k n:Nat} {f:Addr} {fd:FuncData} {ps:List Str} {fm:List D→M D} (F:FnD X.prog X.w X.K X.mg X.base j f fd ps fm) (hr:RoomG k X.A) (hm:X.mg x=some (.ref f)) (hk:PySem.W.keepIn X.K (.ref f)=true) (hb:Binds X.K fd ps [])
 (tk:Takes X W) (ha:PA X (e :: es) (tAr (gx X cur hid) W ms)) (hj:j≤k:=by first | decide | omega) (hg:Gl X x:=by rfl) (hn:ps.length=n:=by rfl) (hdb:(x == ("__debug__" : Str))=false:=by decide) (he:starEach (e :: es) X.env=(false,eval e X.env) :: starEach es X.env:=by rfl) (hpl:(backTo pos (starEach es X.env)).any (·.1)=false:=by rfl) :
 PE X (.Call (.Name x p) (e :: es) [] pos) (tE (gx X cur hid) W (mCall (arity n fm) ms)):=Zdh F (hr.mono hj) hg hm hk hb tk ha hn hdb he hpl
end
end ND
namespace NA
open PySem L2 ND
end NA
namespace L2
open PySem PySem.Spec PySem.W PyProof.Rows NDT ND
end L2
namespace NDT
open PySem PySem.Spec PySem.W PyProof.Rows L2
open ND (tkey)
end NDT
namespace L2
open PySem PySem.Spec PySem.W PyProof.Rows NDT ND
end L2
namespace ND
open PySem L2 NDT
end ND
namespace NA
open PySem L2 ND
end NA
namespace ND
open PySem PySem.Spec PyProof.Rows L2 L2H
def exkD (tab:Str→Option Bool) (k:Nat) (C:Str) (x:D):M D:=fun S=>match x,tab C with
 | .cel j,some b=>if j=k then .ok (.bl b) S else .bad
 | _,_=>.bad
def mExk (tab:Str→Option Bool) (k:Nat) (C:Str) (m:EM):EM:=fun τ=>m τ >>= exkD tab k C
end ND
namespace L2H
open PySem PySem.Spec PyProof.Rows L2 HotX
end L2H
namespace ND
open PySem PySem.Spec PyProof.Rows L2 L2H
section
variable {m:EM}
def walkAD (d:D):M (List D):=fun S=>match d with
 | .str x=>if x.cps.all (· < 128)=true then walkSD (.str x) S else .bad
 | _=>.bad
def mWalkA (m:EM):IM:=fun τ=>m τ >>= walkAD
end
section
variable {S:Za} {E:XP} {τ:DSt}
@[simp] theorem Zh9 (m:EM) {PL:List D→Za→Prop}:Ev (mWalkA m τ) S E PL=Ev (m τ) S E fun x S1=>Ev (walkAD x) S1 E PL:=by unfold mWalkA; rw [Ze]
end
end ND
namespace ND
open PySem L2
end ND
namespace NA
open PySem L2 ND
end NA
namespace ND
open PySem PySem.Spec PyProof.Rows L2 L2H
structure FnHg (P:Program) (w:World) (K:PySem.W.Frag) (mg:Str→Option Value) (base:Heap) (CX:CXT) (k:Nat) (f:Addr) (fd:FuncData) (ps:List Str) (sp:Sp):Prop where
 len:∀ vs H Q E,sp vs H Q E→vs.length=ps.length
 run:∀ (A:Around) (outer:List Env) (s:Shared) (H:Hp) (args:Args) (us:List Value) (vs:List V) (Q:VK) (E:XK) (p:Addr × Obj),RoomH k A→A.guards=some []→Hot1 A p→PinOk outer H s p→Env0 P w K mg base A outer s H→BindsTo s fd args (ps.zip us)→Vals vs us→sp vs H Q E →
  codeAny (model P w) A (.call (.ref f) args) (CR CX outer P w H s Q E) s
section
variable {X:Cx} {e:Expr}
theorem run_fnG {pins:List (Addr × Obj)} {σ:L2.St} {H:Hp} {s:Shared} {Q:VK} {us:List Value} {vs:List V} {CX:CXT} {k:Nat} {f:Addr} {fd:FuncData} {ps:List Str} {sp:Sp} {E:L2.St→XK} (F:FnHg X.prog X.w X.K X.mg X.base CX k f fd ps sp) (room:RoomH k X.A) (gd:X.A.guards=some []) (hc:HotC X) (bd:Binds X.K fd ps []) (px:PassesAt CX X σ (E σ))
  (I:Inv X pins σ H s) (rel:Vals vs us) (told:sp vs H Q (E σ)):wpAny (model X.prog X.w) X.A (call (.ref f) us) (EP X pins σ Q) X.xe s:=by
 obtain ⟨q,hot,hq⟩:=hc
 have many:us.length=ps.length:=by rw [← rel.length]; exact F.len _ _ _ _ told
 have bound:=bd s us I.kIn (by rw [List.append_nil]; exact many)
 rw [List.append_nil] at bound
 obtain ⟨z1,z2,z3,z4,z5⟩:=I.pin q (List.mem_append_left _ hq)
 have pin:PinOk X.stack H s q:=⟨z1,z2,fun hm=>by
  rcases List.mem_cons.mp (I.stkSub q.1 hm) with h | h
  ·exact z3 h
  ·exact z4 h,z5⟩
 refine wpAny_call (codeAny_mono (F.run X.A X.stack s H ⟨us,[]⟩ us vs Q (E σ) q room gd hot pin I.env0 bound rel told) fun r s' back=>?_)
 cases r with
 | ok fl=>
  cases fl with
  | ret u=>exact I.after back
  | next=>exact back.elim
  | brk=>exact back.elim
  | cont=>exact back.elim
 | error e=>exact px pins H s e s' I back
end
end ND
namespace NA
open PySem L2 ND
end NA
namespace ND
open PySem PySem.Spec PyProof.Rows L2 L2N
end ND
namespace NA
open PySem L2 ND
def Ud:SM:=(sThen (sPar2 5 6 (mCons (mMethI "House" "twin" 1 Xi (mVar 1) mNil) (mCons (mCall (arity 2 m_q31) (mCons (mVar 0) (mCons (mCall lenSD (mCons (mVar 2) mNil)) mNil))) mNil))) (sThen (sFor (mWalkL (mBin addD (mListR2 (mVar 6) (mCall lenSD (mCons (mVar 2) mNil))) (mListR1 (mVar 6)))) (.nm 4) (sExpr (mMeth2 "House" "news" 3 1 1 [0,1] [] VP (mVar 5) (mCons (mBin ixD (mVar 2) (mVar 4)) mNil) (mCons (mBin ixD (mVar 3) (mVar 4)) mNil)))) (sRet (mMethI "House" "told" 1 Z2 (mVar 5) mNil))))
def Uz:List D→M D:=mFn ["_law_bag_here", "_law_house", "_law_some", "_law_filling", "_law_place", "_law_twin", "_law_at"] Ud
def XB:SM:=(sThen (sSet 2 (mBin ixD (mMethI "House" "case" 1 Z1 (mVar 0) mNil) (mC (.int 0)))) (sRet (mSortSetF (mComp (mWalkL (mFix (mMethI "Lot" "fillings" 1 Z8 (mMethI "House" "worlds" 1 Z7 (mVar 0) mNil) mNil))) [3] (.nm 3) tYesD (mCall tupleD (mCons (mComp (mWalkT (mVar 1)) [4] (.nm 4) tYesD (mBin ixD (mVar 3) (mTupM JY (mVar 2) (mCons (mVar 4) mNil)))) mNil))))))
def Yv:List D→M D:=mFn ["_law_house", "_law_some", "_law_names_here", "_law_one", "_law_name"] XB
def XC:SM:=(sThen (sAsg (.tp [(.nm 9),(.nm 10)]) (mTup (mCons (mMethI "House" "told_to" 3 ZL (mVar 0) (mCons (mVar 1) (mCons (mVar 3) mNil))) (mCons (mMethI "House" "twin" 1 Xi (mVar 0) mNil) mNil)))) (sThen (sSet 4 (mCall tupleD (mCons (mComp (mWalkL (mCall (arity 2 Yv) (mCons (mVar 0) (mCons (mVar 2) mNil)))) [12] (.nm 12) (mAsT (mBin (eqvD false) (mMethI "House" "told_to" 3 ZL (mVar 0) (mCons (mVar 1) (mCons (mVar 12) mNil))) (mVar 9))) (mVar 12)) mNil))) (sThen (sSet 5 (mComp (mWalkT (mVar 2)) [11] (.nm 11) tYesD (mTupM JY (mBin ixD (mMethI "House" "case" 1 Z1 (mVar 0) mNil) (mC (.int 0))) (mCons (mVar 11) mNil)))) (sThen (sSet 6 (mComp (mWalkL (mFix (mMethI "Lot" "fillings" 1 Z8 (mMethI "House" "worlds" 1 Z7 (mVar 0) mNil) mNil))) [12] (.nm 12) (mAsT (mBin (inXD false) (mCall tupleD (mCons (mComp (mWalkL (mVar 5)) [13] (.nm 13) tYesD (mBin ixD (mVar 12) (mVar 13))) mNil)) (mVar 4))) (mVar 12))) (sThen (sSet 7 (mMethI "House" "hear" 3 Xg (mVar 10) (mCons (mVar 1) (mCons (mVar 9) mNil)))) (sThen (sIf (mTOr (mAsT (mBin (eqvD true) (mBin ixD (mMethI "House" "book" 1 VO (mVar 10) mNil) (mUn negD (mC (.int 1)))) (mTup (mCons (mC (.str "heard")) (mCons (mVar 1) (mCons (mCall tupleD (mCons (mVar 9) mNil)) (mCons (mVar 4) mNil))))))) (mAsT (mBin (eqvD true) (mMethI "Lot" "fillings" 1 Z8 (mMethI "House" "worlds" 1 Z7 (mVar 10) mNil) mNil) (mVar 6)))) (sRet (mC (.bl false))) sSkip) (sThen (sIf (mTOr (mAsT (mBin (eqvD true) (mBin addD (mMethI "House" "told" 1 Z2 (mVar 0) mNil) (mVar 7)) (mMethI "House" "told" 1 Z2 (mVar 10) mNil))) (mAsT (mBin (eqvD true) (mMethI "House" "told_to" 3 ZL (mVar 10) (mCons (mVar 1) (mCons (mVar 3) mNil))) (mVar 9)))) (sRet (mC (.bl false))) sSkip) (sThen (sSet 8 (mMethI "House" "case" 1 Z1 (mVar 0) mNil)) (sThen (sTryN (sExpr (mMethI "House" "hear" 3 Xg (mVar 0) (mCons (mVar 1) (mCons (mBin mulLD (mLst (mCons (mC (.int 7)) mNil)) (mC (.int 101))) mNil)))) (hit1 "NoWorld") (sRet (mBin (eqvD false) (mMethI "House" "case" 1 Vd (mVar 0) mNil) (mVar 8)))) (sRet (mC (.bl false))))))))))))
def XJ:List D→M D:=mFn ["_law_house", "_law_ear", "_law_some", "_law_filling", "_law_due", "_law_places", "_law_lot", "_law_fresh", "_law_kept", "_law_said_here", "_law_twin", "_law_name", "_law_one", "_law_place"] XC
def Gc:SM:=(sThen (sSet 2 (mMethI "House" "told" 1 Z2 (mVar 1) mNil)) (sThen (sFor (mWalkT (mBin ixD (mMethI "House" "case" 1 Z1 (mVar 1) mNil) (mC (.int 2)))) (.tp [(.nm 3),(.nm 4)]) (sFor (mWalkL (mCall (arity 2 Yv) (mCons (mVar 1) (mCons (mVar 4) mNil)))) (.nm 5) (sThen (sSet 6 (mMethI "House" "told_to" 3 ZL (mVar 1) (mCons (mVar 3) (mCons (mVar 5) mNil)))) (sThen (sIf (mTOr (mAsT (mBin (eqvD true) (mVar 6) (mCall (arity 4 Uz) (mCons (mVar 0) (mCons (mVar 1) (mCons (mVar 4) (mCons (mVar 5) mNil))))))) (mAsT (mBin (eqvD true) (mSl (mVar 6) mNoPart (mPart (mCall lenSD (mCons (mVar 2) mNil)))) (mVar 2)))) (sRet (mC (.bl false))) sSkip) (sIf (mTNot (mAsT (mCall (arity 4 XJ) (mCons (mVar 1) (mCons (mVar 3) (mCons (mVar 4) (mCons (mVar 5) mNil))))))) (sRet (mC (.bl false))) sSkip))))) (sRet (mC (.bl true)))))
def m_q22:List D→M D:=mFn ["_law_bag_here", "_law_house", "_law_told", "_law_ear", "_law_some", "_law_filling", "_law_found"] Gc
end NA
namespace L2
open PySem PySem.Spec PyProof.Rows
theorem tuple_mul_emp (l:Addr) (items:Array Value) (n:Nat) (dd:Option Addr) (sl:Array (Option Value)) (k:Int) (u:Tok) (c0:(decide (k < -(2 ^ 63)) || decide (k ≥ 2 ^ 63))=false) (he:items.isEmpty=true) :
  Meets (Builtin.«tuple.__mul__» ⟨[.ref l,.int k u],[]⟩) (fun _ R s=>s.heap.get? l=some { cls:=.type "tuple",dict:=dd,data:=.seq items n,slots:=sl }∧R (.ok (.ret (Value.ref l))) s):=
 .of_wp fun prog w A R s h=>by
  obtain ⟨hp,g,d,tk,os⟩:=s
  obtain ⟨hl,h⟩:=h
  have f1:=AutoSeq1.idx_int
  have c1:(items.isEmpty || (k == 1))=true:=by rw [he]; rfl
  wp_walk using wpAny_loadPart' hl
  repeat (first
   | (refine wpAny_ite_false (decide_eq_false (by rw [c0]; exact Bool.false_ne_true)) ?_; wp_walk using wpAny_loadPart' hl)
   | (refine wpAny_ite_true (decide_eq_true c1) ?_; wp_walk using wpAny_loadPart' hl))
  exact ⟨_,rfl,h⟩
def rRepG (K:PySem.W.Frag):R2:=fun x y H Q=>rRepF K x y H Q∨∃ l k,x = .ref l∧y = .int k∧SqT K H l []∧0≤k∧k≤1000∧Q (.ref l) H
section
variable {X:Cx}
theorem Kd:OpR X (binaryOp .Mult) (rRepG X.K):=by
 intro pins s σ H x y v u Q I rx ry h
 rcases h with h | h
 ·exact Zb5 pins s σ H x y v u Q I rx ry h
 obtain ⟨l,k,rfl,rfl,hT,k0,k1,q⟩:=h
 cases rx
 obtain ⟨t,rfl⟩:=ry
 obtain ⟨its,r,⟨⟨cls,dd,data,sl⟩,ho,hc,n,hd⟩,hs⟩:=I.tuple hT
 simp only at hc hd
 subst hc hd
 have hle:its.length=0:=r.length.symm
 have hi:its.toArray.isEmpty=true:=by
  cases its with
  | nil=>rfl
  | cons a b=>cases hle
 have c0:(decide (k < -(2 ^ 63)) || decide (k ≥ 2 ^ 63))=false:=by
  rw [decide_eq_false (by omega),decide_eq_false (by omega)] <;> rfl
 refine wpAny_binaryOp_repeat_ref (T := "tuple") (U := "int") (by decide) ⟨_,ho,rfl⟩ (fun s'=>typeIs_int s' k t) noFill_tuple_mul F.fills_int_mul F.slot_int_rmul repeat_tuple F.slot_int_index.lookup
  (call_meets F.slot_int_rmul (typeIs_int s k t) F.entry_int_rmul (F.args_int_rmul_2 _ _) (int_rmul_tuple k t l its.toArray n dd sl)
   ⟨ho,rfl,⟨_,ho,rfl⟩,call_meets F.slot_tuple_mul ⟨_,ho,rfl⟩ F.entry_tuple_mul (F.args_tuple_mul_2 _ _) (tuple_mul_emp l its.toArray n dd sl k t c0 hi) ⟨ho,?_⟩⟩)
 exact ⟨.ref l,H,I.tok _,rfl,q⟩
end
end L2
namespace ND
open PySem L2
section
variable {g:G}
def mulTZD (x y:D):M D:=match x,y with
 | .tup [],.int k=>M.chk (decide (0≤k∧k≤1000)) (pure (.tup []))
 | x,y=>ZbX x y
theorem QI:OpD g (rRepG g.K) mulTZD:=by
 intro c S H v w d e Q E r hv hw o
 unfold mulTZD at o
 split at o
 ·rename_i k
  cases hw with
  | int k=>
   obtain ⟨h,o2⟩:=Out.chk o
   obtain ⟨h1,h2⟩:=of_decide_eq_true h
   cases hv with
   | tup sq l=>
    rename_i a vs
    have hl:=l.length
    have:vs=[]:=List.eq_nil_of_length_eq_zero (by simpa using hl)
    subst this
    exact .inr ⟨_,k,rfl,rfl,Evl.ex_t frz_ex sq.sq,h1,h2,Zh r o2 (.tup sq l)⟩
 ·exact .inl (od_mulT c S H v w _ _ Q E r hv hw o)
end
end ND
namespace NA
open PySem L2 ND
end NA
namespace L2
open PySem PyProof.Rows
end L2
namespace ND
open PySem L2
end ND
namespace L2
open PySem PyProof.Rows
end L2
namespace ND
open PySem L2
end ND
namespace NA
open PySem L2 ND
end NA
namespace L2
open PySem PySem.Spec PyProof.Rows ND
end L2
namespace ND
open PySem PySem.Spec PyProof.Rows L2 NdefX LamX
end ND
namespace ND
open PySem PySem.Spec PyProof.Rows L2 L2N
end ND
namespace ND
open PySem L2
inductive Passes (X:Cx) (C0:Addr):List Str→Prop
 | nil:Passes X C0 []
 | cons {q:Str} {qs:List Str} {Cq:Addr}:X.mg q=some (.ref Cq)→PySem.W.exmOne X.K (.ref Cq) (.ref C0)=some false→Passes X C0 qs→Passes X C0 (q :: qs)
theorem Passes.at {X:Cx} {C0:Addr} {qs:List Str} (h:Passes X C0 qs):∀ C ∈ qs,∀ Ca,X.mg C=some (.ref Ca)→PySem.W.exmOne X.K (.ref Ca) (.ref C0)=some false:=by
 induction h with
 | nil=>intro C hC; cases hC
 | cons e x _ ih=>
  intro C hC Ca eC
  rcases List.mem_cons.mp hC with e1 | e1
  ·rw [e1,e] at eC
   cases eC
   exact x
  ·exact ih C e1 Ca eC
end ND
namespace NA
open PySem L2 ND
end NA
namespace ND
open PySem L2
def lstV (x:D):M (List D):=match x with
 | .lst ys=>pure ys
 | _=>M.no
def flat2L (i:Nat) (m:EM) (τ:DSt):List D→List D→M (List D)
 | [],acc=>pure acc
 | d :: ds,acc=>m (τ.set i (some d)) >>= fun y=>lstV y >>= fun ys=>M.chk (decide ((acc++ys).length≤sizeLine)) (flat2L i m τ ds (acc++ys))
def mComp2 (it:IM) (i j:Nat) (m:EM):EM:=fun τ=>M.chk (decide (i < τ.length∧j < τ.length)) (it τ >>= fun xs=>noErr (flat2L i m (wipeD τ [i,j]) xs []) >>= fun ys=>pure (.lst ys))
theorem upd_self {H:Hp} {p:Addr} {o:HO} (h:H p=some o):upd H p o=H:=by
 funext b
 unfold upd
 by_cases e:b=p
 ·subst e; simp [h]
 ·simp [e]
section
variable {g:G} {m:EM} {i j:Nat}
theorem Q6 {σ:St} {H1:Hp} {c:List Addr} {S:Za} {τ:DSt} {xs:List D} {J:It} {Qd:Addr→Hp→Prop} {R:List D→List Addr→Za→Hp→Prop} {E:XK} (li:i < τ.length) (lj:j < τ.length)
  (r:Rep g c S H1) (sl:Sl g (frz g c S H1) c σ τ) (wk:Walks g c S H1 J xs) (o:Out g c S H1 R E (noErr (flat2L i m (wipeD τ [i,j]) xs []) S))
  (q:∀ p ys us c' S' H',H1 p=none→Hf g c S H1 p c' S' H'→H' p=some (.lst us)→Vls (g.hide p) (frz (g.hide p) c' S' H') c' us ys→(∀ H'' c'',Fut g c S H1 c'' S' H''→R ys c'' S' H'')→Qd p H') :
  ∀ p,H1 p=none→∃ Wv:Nat→Nat→Hp→Prop,(∃ m,Wv 0 m (upd H1 p (.lst [])))∧∀ k n H,Wv k n H →
   (J.stop k H∧Qd p H)∨(J.go k H∧∃ Nx:Hp→Prop,(∀ H',Nx H'→∃ n',n' < n∧Wv (k+1) n' H')∧∀ x H',J.yld k H x H'→gName i x (wipe σ [i,j]) H' fun σ2 H2=>wipe σ2 [i,j]=wipe σ [i,j]∧tYes σ2 H2 fun b H3=>
    if b=true then iList g.K (tE (g.hide p) WF m) σ2 H3 fun J1 H4=>∃ W1:Nat→Nat→Hp→Prop,(∃ n,W1 0 n H4)∧∀ t u H,W1 t u H →
     (J1.stop t H∧Nx H)∨(J1.go t H∧∃ Nx1:Hp→Prop,(∀ H',Nx1 H'→∃ k',k' < u∧W1 (t+1) k' H')∧∀ x H',J1.yld t H x H'→gName j x (wipe σ2 [j]) H' fun σ3 H5=>wipe σ3 [j]=wipe σ2 [j]∧tYes σ3 H5 fun b H6=>
      if b=true then tVar j σ3 H6 fun y H7=>∃ acc,H7 p=some (.lst acc)∧acc.length < sizeLine∧Nx1 (upd H7 p (.lst (acc++[y]))) else Nx1 H6)
    else Nx H3):=by
 intro p hp
 have np:=not_hid r hp
 have pm:p ∈ (g.hide p).hid:=List.mem_cons_self
 have hl:=sl.len
 refine ⟨fun k n H=>∃ c' S' acc us,Hf g c S H1 p c' S' H∧H p=some (.lst us)∧Vls (g.hide p) (frz (g.hide p) c' S' H) c' us acc∧n=xs.length - k∧k≤xs.length∧Out g c S H1 R E (noErr (flat2L i m (wipeD τ [i,j]) (xs.drop k) acc) S'),
  ⟨xs.length,c,S,[],[],Hf.start r hp,upd_same,.nil,by simp,Nat.zero_le _,by simpa using o⟩,?_⟩
 rintro k n H ⟨c',S',acc,us,hf,hH,vl,rfl,hk,o'⟩
 by_cases hlt:k < xs.length
 ·refine .inr ⟨wk.go k _ c' S' H hf.l hlt,_,fun H' h'=>⟨xs.length - (k+1),by omega,h'⟩,fun x H2 y=>?_⟩
  obtain ⟨f2,hv⟩:=wk.yld k _ c' S' H x H2 hf.l y xs[k] (by simp [hlt])
  rw [List.drop_eq_getElem_cons hlt,flat2L] at o'
  have slw:Sl (g.hide p) (frz (g.hide p) c' S' H2) c' (wipe σ [i,j]) (wipeD τ [i,j]):=((Sl.wipe sl [i,j]).same (Zu.hide g p)).mono (hf.l.ex.trans f2.ex) (hf.l.pre.trans f2.pre)
  have hf2:=hf.step f2
  refine ⟨(wipe_set List.mem_cons_self).trans (wipe_wipe σ [i,j]),?_⟩
  refine KG (Eq.mpr (if_pos rfl) ?_)
  refine ⟨c',S',(wipeD τ [i,j]).set i (some xs[k]),f2.rep,slw.set hv i,?_⟩
  unfold noErr at o'
  rw [Zy] at o'
  cases e2:m ((wipeD τ [i,j]).set i (some xs[k])) S' with
  | err C fs S3=>rw [e2] at o'; exact o'.elim
  | bad=>rw [e2] at o'; exact o'.elim
  | ok d S3=>
   rw [e2] at o'
   dsimp only at o'
   intro H4 c4 f4 v hv4
   have hf4:=hf2.step f4
   have h4p:H4 p=some (.lst us):=by rw [f4.hid p pm,f2.hid p pm]; exact hH
   have vl4:=(vl.mono f2.ex f2.pre).mono f4.ex f4.pre
   cases d with
   | lst ys=>
    cases hv4 with
    | @lst a vs _ h1 h2=>
     rw [Zy] at o'
     rw [show lstV (D.lst ys) S3 = .ok ys S3 from rfl] at o'
     dsimp only at o'
     unfold M.chk at o'
     by_cases few:(acc++ys).length≤sizeLine
     case neg=>
      rw [if_neg (fun z=>few (of_decide_eq_true z))] at o'
      exact o'.elim
     rw [if_pos (decide_eq_true few)] at o'
     have ha:=(frz_of h1).1
     have na:a ≠ p:=fun z=>(frz_of h1).2.2 (z ▸ pm)
     have lv:=vl4.length
     have lvs:=h2.length
     have su:∀ ws,SqL g.K (upd H4 p (.lst ws)) a vs:=fun ws=>SqL.of ((upd_ne na).trans ha)
     refine ⟨a,rfl,⟨_,by have:=su us; rw [upd_self h4p] at this; exact this⟩,?_⟩
     refine ⟨fun t u G=>u=vs.length - t∧t≤vs.length∧G=upd H4 p (.lst (us++vs.take t)),⟨vs.length,by simp,Nat.zero_le _,by simp; exact (upd_self h4p).symm⟩,?_⟩
     rintro t u G ⟨rfl,ht,rfl⟩
     have lw:(wipe σ [i,j]).length=σ.length:=wipe_length _ _
     by_cases lt2:t < vs.length
     ·refine .inr ⟨⟨_,vs[t],su _,by simp [lt2]⟩,fun G=>G=upd H4 p (.lst (us++vs.take (t+1))),fun G' e=>⟨vs.length - (t+1),by omega,rfl,lt2,e⟩,fun z G' ⟨eG,yl⟩=>?_⟩
      subst eG
      have ez:=yl _ (su _)
      refine ⟨(wipe_set List.mem_cons_self).trans (wipe_wipe _ [j]),?_⟩
      refine KG (Eq.mpr (if_pos rfl) ?_)
      refine ⟨z,by rw [List.getElem?_set_self (by rw [wipe_length,List.length_set,wipe_length]; omega)],_,upd_same,?_,?_⟩
      ·rw [List.length_append] at few
       rw [List.length_append,List.length_take]
       omega
      ·show upd (upd H4 p _) p _=_
       rw [upd_upd,List.take_add_one,ez,List.append_assoc]
       rfl
     ·have e:t=vs.length:=by omega
      subst e
      refine .inl ⟨⟨_,su _,Nat.le_refl _⟩,?_⟩
      rw [List.take_length]
      obtain ⟨hf5,ef⟩:=hf4.put (o:=.lst (us++vs)) np
      refine ⟨c4,S3,acc++ys,us++vs,hf5,upd_same,by rw [ef]; exact vl4.append h2,rfl,hlt,?_⟩
      unfold noErr
      exact o'
   | _=>rw [Zy] at o'; exact o'.elim
 ·have e:k=xs.length:=by omega
  subst e
  rw [List.drop_length,flat2L] at o'
  exact .inl ⟨wk.stop _ _ c' S' H hf.l (Nat.le_refl _),q p acc us c' S' H hp hf hH vl fun H'' c'' f=>o' H'' c'' f⟩
end
section
variable {X:Cx} {W:WX} {m:EM} {it:IM} {cur:Cur} {hid:List Addr} {iter iter1:Expr} {scope:Scope}
theorem d_comp2 {i j:Nat} {x y:Str} {px py py2 pos:Pos} (hc:X.calm=true) (hN:X.N.Nodup) (hi:PI X (.Name x px) iter (tIt (gx X cur hid) W it)) (ok:BlkOk X.N X.env.scope scope [(x,i),(y,j)])
  (gx1:∀ (s:Shared) (H:Hp) (C:Addr) (cl:List (Str × Addr)) (fp:List Addr),PG (X.blk s H scope (compEnvC scope cl C X.env) fp) (.Name x px) (gName i))
  (hm:∀ (s:Shared) (H:Hp) (C:Addr) (cl:List (Str × Addr)) (fp:List Addr) (hd:List Addr),PE (X.blk s H scope (compEnvC scope cl C X.env) fp) iter1 (tE (gx X cur hd) WF m))
  (gy1:∀ (s:Shared) (H:Hp) (C:Addr) (cl:List (Str × Addr)) (fp:List Addr),PG (X.blk s H scope (compEnvC scope cl C X.env) fp) (.Name y py) (gName j))
  (vy:∀ (s:Shared) (H:Hp) (C:Addr) (cl:List (Str × Addr)) (fp:List Addr),PE (X.blk s H scope (compEnvC scope cl C X.env) fp) (.Name y py2) (tVar j)) (hs:∀ z,foldedSetIterable iter X.env z=pure z:=by intro _; rfl) (hs1:∀ env z,foldedSetIterable iter1 env z=pure z:=by intro _ _; rfl) :
  PE X (.ListComp (.Name y py2) [⟨.Name x px,iter,[],0⟩,⟨.Name y py,iter1,[],0⟩] scope pos) (tE (gx X cur hid) W (mComp2 it i j m)):=
 PE.imp (pe_lc2 (own:=[(x,i),(y,j)]) (vs1:=[j]) (wi1:=iList X.K (fun σ H Q=>∃ hd,tE (gx X cur hd) WF m σ H Q)) hc hN hi ok (by simp) gx1 (fun _ _ _ _ _=>pts_nil) (fun s H C cl fp=>pi_list (pe_ex (hm s H C cl fp))) gy1 (fun _ _ _ _ _=>pts_nil) vy hs hs1) fun σ H Q h=>by
  obtain ⟨c,S,τ,r,s,o⟩:=h
  unfold mComp2 M.chk at o
  by_cases lens:i < τ.length∧j < τ.length
  case neg=>rw [if_neg fun z=>lens (of_decide_eq_true z)] at o; exact o.elim
  rw [if_pos (decide_eq_true lens)] at o
  refine ⟨c,S,τ,r,s,(Out.bind o).imp fun xs c1 S1 H1 f1 o1 J wk=>?_⟩
  intro p hp
  obtain ⟨Wv,h0,hs⟩:=Q6 (Qd:=fun p H=>Q (.ref p) H) lens.1 lens.2 f1.rep (s.mono f1.ex f1.pre) wk (Out.bind o1) (fun p ys us c' S' H' hp hf hH vl hR=>by
   have f:=hf.fut
   obtain ⟨_,ex,un⟩:=hf.l.rep.bare
   exact hR H' c' f H' c' (Fut.refl f.rep) _ (.lst (by rw [un (not_hid f1.rep hp)]; exact hH) ((vl.same (Zu.hide _ p).symm).mono ex (Pre.refl c')))) p hp
  refine ⟨Wv,h0,fun k n H hw=>?_⟩
  rcases hs k n H hw with z | ⟨go,Nx,hN,hy⟩
  ·exact .inl z
  ·refine .inr ⟨go,Nx,hN,fun x H' y=>?_⟩
   obtain ⟨w,q⟩:=hy x H' y
   refine ⟨w,?_⟩
   have q2:=q
   unfold tYes at q2
   dsimp only at q2
   rw [if_pos rfl] at q2
   refine KG (Eq.mpr (if_pos rfl) ?_)
   exact ⟨p :: hid,q2⟩
end
end ND
namespace NA
open PySem L2 ND
def b_q14 (r:List D→M D):SM:=(sThen (sIf (mAsT (mCall (arity 1 m_q32) (mCons (mVar 0) mNil))) (sRet (mLst (mCons (mCall strID (mCons (mVar 0) mNil)) mNil))) sSkip) (sThen (sIf (mAsT (mCall isiD (mCons (mVar 0) (mCons (mC (.ty "str")) mNil)))) (sRet (mLst (mCons (mBin addD (mC (.str "@")) (mVar 0)) mNil))) sSkip) (sThen (sStar [1] 2 (mVar 0)) (sThen (sIf (mAsT (mBin (eqvD false) (mVar 1) (mC (.str "purse")))) (sRet (mLst (mCons (mBin addD (mC (.str "$")) (mBin ixD (mVar 2) (mC (.int 0)))) mNil))) sSkip) (sRet (mBin addD (mBin addD (mBin addD (mBin addD (mLst (mCons (mC (.str "(")) mNil)) (mCall (arity 1 r) (mCons (mBin ixD (mVar 2) (mC (.int 0))) mNil))) (mLst (mCons (mVar 1) mNil))) (mCall (arity 1 r) (mCons (mBin ixD (mVar 2) (mC (.int 1))) mNil))) (mLst (mCons (mC (.str ")")) mNil))))))))
def m_q14:Nat→List D→M D
 | 0=>fun _=>M.no
 | n+1=>mFn ["thing", "word", "parts"] (b_q14 (m_q14 n))
def b_q19 (r:List D→M D):SM:=(sThen (sStar [1] 2 (mVar 0)) (sThen (sIf (mAsT (mBin (inD false) (mVar 1) (mTup (mCons (mC (.str "news")) (mCons (mC (.str "known")) mNil))))) (sRet (mLst (mCons (mVar 1) (mCons (mBin ixD (mVar 2) (mC (.int 0))) mNil)))) sSkip) (sThen (sIf (mAsT (mBin (eqvD false) (mVar 1) (mC (.str "not")))) (sRet (mBin addD (mLst (mCons (mVar 1) mNil)) (mCall (arity 1 r) (mCons (mBin ixD (mVar 2) (mC (.int 0))) mNil)))) sSkip) (sThen (sIf (mAsT (mBin (eqvD false) (mVar 1) (mC (.str "both")))) (sRet (mBin addD (mBin addD (mBin addD (mBin addD (mLst (mCons (mC (.str "{")) mNil)) (mCall (arity 1 r) (mCons (mBin ixD (mVar 2) (mC (.int 0))) mNil))) (mLst (mCons (mC (.str "&")) mNil))) (mCall (arity 1 r) (mCons (mBin ixD (mVar 2) (mC (.int 1))) mNil))) (mLst (mCons (mC (.str "}")) mNil)))) sSkip) (sRet (mBin addD (mBin addD (mCall (arity 1 (m_q14 8)) (mCons (mBin ixD (mVar 2) (mC (.int 0))) mNil)) (mLst (mCons (mTabS [("above", ">"),("same", "=")] (mVar 1)) mNil))) (mCall (arity 1 (m_q14 8)) (mCons (mBin ixD (mVar 2) (mC (.int 1))) mNil))))))))
def m_q19:Nat→List D→M D
 | 0=>fun _=>M.no
 | n+1=>mFn ["thing", "word", "parts"] (b_q19 (m_q19 n))
def b_q23 (r:List D→M D):SM:=(sThen (sStar [1] 2 (mVar 0)) (sThen (sIf (mAsT (mBin (inD false) (mVar 1) (mC (.tup ([("if" : Str), "while"].map D.str))))) (sThen (sStarL [3] 4 (mVar 2)) (sRet (mBin addD (mBin addD (mLst (mCons (mVar 1) mNil)) (mCall (arity 1 (m_q19 8)) (mCons (mVar 3) mNil))) (mComp2 (mWalkL (mVar 4)) 5 6 (mBin addD (mBin addD (mLst (mCons (mC (.str "[")) mNil)) (mCall (arity 1 r) (mCons (mVar 5) mNil))) (mLst (mCons (mC (.str "]")) mNil))))))) sSkip) (sRet (mBin addD (mBin addD (mLst (mCons (mVar 1) mNil)) (mCall listD (mCons (mSl (mVar 2) mNoPart (mPart (mUn negD (mC (.int 1))))) mNil))) (mCall (arity 1 (m_q14 8)) (mCons (mBin ixD (mVar 2) (mUn negD (mC (.int 1)))) mNil))))))
def b_q18 (r:List D→M D):SM:=(sThen (sSet 1 (mLstC mNil)) (sThen (sFor (mWalkT (mVar 0)) (.nm 2) (sThen (sIf (mAsT (mBin (eq0D true) (mVar 1) (mLst mNil))) (sExpr (mMeth "list" appendD (mVar 1) (mCons (mC (.str ";")) mNil))) sSkip) (sExpr (mMeth "list" extendD (mVar 1) (mCons (mCall (arity 1 r) (mCons (mVar 2) mNil)) mNil))))) (sRet (mFix (mVar 1)))))
def m_q18:Nat→List D→M D
 | 0=>fun _=>M.no
 | n+1=>mFn ["rows", "found", "row"] (b_q18 (mFn ["row", "word", "parts", "test", "inner", "rows", "one"] (b_q23 (m_q18 n))))
def Zc0:SM:=(sRet (mMeth "str" joinD (mC (.str " ")) (mCons (mCall (arity 1 (m_q18 8)) (mCons (mVar 0) mNil)) mNil)))
def m_q25:List D→M D:=mFn ["rows"] Zc0
def Zc2:SM:=(sRet (mIf (mAsT (mBin (eqvD true) (mVar 0) (mC (.str "")))) (mMeth "str" QP (mVar 0) (mCons (mC (.str " ")) mNil)) (mLst mNil)))
def m_q28:List D→M D:=mFn ["text"] Zc2
def ZcW:SM:=(sThen (sSet 1 (mMeth "str" rmpreD (mVar 0) (mCons (mC (.str "-")) mNil))) (sThen (sIf (mTOr (mTNot (mAsT (mChain leD leD (mC (.int 1)) (mCall lenSD (mCons (mVar 1) mNil)) (mC (.int 10))))) (mTNot (mAsT (mCall allD (mCons (mComp (mWalkS (mVar 1)) [3] (.nm 3) tYesD (mBin (inD false) (mVar 3) (mC (.str "0123456789")))) mNil))))) (sRet (mC .non)) sSkip) (sThen (sIf (mTAnd (mAsT (mBin (eqvD false) (mBin ixD (mVar 1) (mC (.int 0))) (mC (.str "0")))) (mAsT (mBin (eqvD true) (mVar 0) (mC (.str "0"))))) (sRet (mC .non)) sSkip) (sThen (sSet 2 (mCall intSD (mCons (mVar 0) mNil))) (sRet (mIf (mAsT (mChain leD leD (mUn negD (mC (.int 1000000000))) (mVar 2) (mC (.int 1000000000)))) (mVar 2) (mC .non)))))))
def m_q16:List D→M D:=mFn ["word", "figures", "number", "sign"] ZcW
def Zhh:SM:=(sThen (sFldD ["Reader"] "words" (mVar 0) (mVar 1)) (sThen (sFldD ["Reader"] "place" (mVar 0) (mC (.int 0))) (sFldD ["Reader"] "many" (mVar 0) (mC (.int 0)))))
def ZgO:List D→M D:=mFn ["self", "words"] Zhh
def ZcU:SM:=(sRet (mIf (mAsT (mBin ltD (mUn (fldD ["Reader"] "place") (mVar 0)) (mCall lenSD (mCons (mUn (fldD ["Reader"] "words") (mVar 0)) mNil)))) (mBin ixD (mUn (fldD ["Reader"] "words") (mVar 0)) (mUn (fldD ["Reader"] "place") (mVar 0))) (mC .non)))
def m_q13:List D→M D:=mFn ["self"] ZcU
def Zhj:SM:=(sRaise "NoText" "place" (mUn (fldD ["Reader"] "place") (mVar 0)))
def m_q8:List D→M D:=mFn ["self"] Zhj
def ZcT:SM:=(sThen (sSet 1 (mMethI "Reader" "here" 1 m_q13 (mVar 0) mNil)) (sThen (sIf (mAsT (mBin (isD false) (mVar 1) (mC .non))) (sExpr (mMethI "Reader" "refuse" 1 m_q8 (mVar 0) mNil)) sSkip) (sThen (sFldAugD ["Reader"] "place" addID (mVar 0) (mC (.int 1))) (sRet (mVar 1)))))
def m_q12:List D→M D:=mFn ["self", "word"] ZcT
def ZcV:SM:=(sThen (sIf (mAsT (mBin (eqvD true) (mMethI "Reader" "here" 1 m_q13 (mVar 0) mNil) (mVar 1))) (sExpr (mMethI "Reader" "refuse" 1 m_q8 (mVar 0) mNil)) sSkip) (sFldAugD ["Reader"] "place" addID (mVar 0) (mC (.int 1))))
def m_q15:List D→M D:=mFn ["self", "wanted"] ZcV
def Zhg:SM:=(sThen (sIf (mTNot (mAsT (mCall (arity 1 m_q34) (mCons (mMethI "Reader" "here" 1 m_q13 (mVar 0) mNil) mNil)))) (sExpr (mMethI "Reader" "refuse" 1 m_q8 (mVar 0) mNil)) sSkip) (sRet (mMethI "Reader" "step" 1 m_q12 (mVar 0) mNil)))
def m_q1:List D→M D:=mFn ["self"] Zhg
def Zhi:SM:=(sThen (sIf (mAsT (mBin (inD true) (mMethI "Reader" "here" 1 m_q13 (mVar 0) mNil) (mVar 1))) (sExpr (mMethI "Reader" "refuse" 1 m_q8 (mVar 0) mNil)) sSkip) (sRet (mMethI "Reader" "step" 1 m_q12 (mVar 0) mNil)))
def m_q7:List D→M D:=mFn ["self", "some"] Zhi
def b_q4 (r:List D→M D):SM:=(sThen (sSet 2 (mMethI "Reader" "here" 1 m_q13 (mVar 0) mNil)) (sThen (sIf (mAsT (mBin (isD false) (mVar 2) (mC .non))) (sExpr (mMethI "Reader" "refuse" 1 m_q8 (mVar 0) mNil)) sSkip) (sThen (sIf (mTAnd (mAsT (mBin (eqvD false) (mVar 2) (mC (.str "(")))) (mAsT (mBin gtD (mVar 1) (mC (.int 1))))) (sThen (sFldAugD ["Reader"] "place" addID (mVar 0) (mC (.int 1))) (sThen (sSet 4 (mMethI "Reader" "sum_here" 2 r (mVar 0) (mCons (mBin subD (mVar 1) (mC (.int 1))) mNil))) (sThen (sSet 5 (mMethI "Reader" "one_of" 2 m_q7 (mVar 0) (mCons (mC (.tup ([("+" : Str), "-", "*"].map D.str))) mNil))) (sThen (sSet 6 (mMethI "Reader" "sum_here" 2 r (mVar 0) (mCons (mBin subD (mVar 1) (mC (.int 1))) mNil))) (sThen (sExpr (mMethI "Reader" "take" 2 m_q15 (mVar 0) (mCons (mC (.str ")")) mNil))) (sRet (mTup (mCons (mVar 5) (mCons (mVar 4) (mCons (mVar 6) mNil)))))))))) sSkip) (sThen (sIf (mTAnd (mAsT (mBin (inD false) (mSl (mVar 2) mNoPart (mPart (mC (.int 1)))) (mTup (mCons (mC (.str "@")) (mCons (mC (.str "$")) mNil))))) (mAsT (mCall (arity 1 m_q34) (mCons (mSl (mVar 2) (mPart (mC (.int 1))) mNoPart) mNil)))) (sThen (sFldAugD ["Reader"] "place" addID (mVar 0) (mC (.int 1))) (sRet (mIf (mAsT (mBin (eqvD false) (mSl (mVar 2) mNoPart (mPart (mC (.int 1)))) (mC (.str "@")))) (mSl (mVar 2) (mPart (mC (.int 1))) mNoPart) (mTup (mCons (mC (.str "purse")) (mCons (mSl (mVar 2) (mPart (mC (.int 1))) mNoPart) mNil)))))) sSkip) (sThen (sSet 3 (mCall (arity 1 m_q16) (mCons (mVar 2) mNil))) (sThen (sIf (mAsT (mBin (isD false) (mVar 3) (mC .non))) (sExpr (mMethI "Reader" "refuse" 1 m_q8 (mVar 0) mNil)) sSkip) (sThen (sFldAugD ["Reader"] "place" addID (mVar 0) (mC (.int 1))) (sRet (mVar 3)))))))))
def m_q4:Nat→List D→M D
 | 0=>fun _=>M.no
 | n+1=>mFn ["self", "deep", "word", "number", "one", "sign", "other"] (b_q4 (m_q4 n))
def b_q0 (r:List D→M D):SM:=(sThen (sSet 2 (mMethI "Reader" "here" 1 m_q13 (mVar 0) mNil)) (sThen (sIf (mAsT (mBin (inD false) (mVar 2) (mTup (mCons (mC (.str "news")) (mCons (mC (.str "known")) mNil))))) (sThen (sFldAugD ["Reader"] "place" addID (mVar 0) (mC (.int 1))) (sRet (mTup (mCons (mVar 2) (mCons (mMethI "Reader" "take_name" 1 m_q1 (mVar 0) mNil) mNil))))) sSkip) (sThen (sIf (mAsT (mBin (inD false) (mVar 2) (mTup (mCons (mC (.str "not")) (mCons (mC (.str "{")) mNil))))) (sThen (sIf (mAsT (mBin ltD (mVar 1) (mC (.int 2)))) (sExpr (mMethI "Reader" "refuse" 1 m_q8 (mVar 0) mNil)) sSkip) (sThen (sFldAugD ["Reader"] "place" addID (mVar 0) (mC (.int 1))) (sThen (sSet 3 (mMethI "Reader" "test_here" 2 r (mVar 0) (mCons (mBin subD (mVar 1) (mC (.int 1))) mNil))) (sThen (sIf (mAsT (mBin (eqvD false) (mVar 2) (mC (.str "not")))) (sRet (mTup (mCons (mVar 2) (mCons (mVar 3) mNil)))) sSkip) (sThen (sExpr (mMethI "Reader" "take" 2 m_q15 (mVar 0) (mCons (mC (.str "&")) mNil))) (sThen (sSet 5 (mMethI "Reader" "test_here" 2 r (mVar 0) (mCons (mBin subD (mVar 1) (mC (.int 1))) mNil))) (sThen (sExpr (mMethI "Reader" "take" 2 m_q15 (mVar 0) (mCons (mC (.str "}")) mNil))) (sRet (mTup (mCons (mC (.str "both")) (mCons (mVar 3) (mCons (mVar 5) mNil)))))))))))) sSkip) (sThen (sSet 3 (mMethI "Reader" "sum_here" 2 (m_q4 8) (mVar 0) (mCons (mC (.int 5)) mNil))) (sThen (sSet 4 (mMethI "Reader" "one_of" 2 m_q7 (mVar 0) (mCons (mListC [("above", ">"),("same", "=")]) mNil))) (sRet (mTup (mCons (mBin ixD (mComp (mItemsC [("above", ">"),("same", "=")]) [6,7] (.tp [(.nm 6),(.nm 7)]) (mAsT (mBin (eqvD false) (mVar 7) (mVar 4))) (mVar 6)) (mC (.int 0))) (mCons (mVar 3) (mCons (mMethI "Reader" "sum_here" 2 (m_q4 8) (mVar 0) (mCons (mC (.int 5)) mNil)) mNil))))))))))
def m_q0:Nat→List D→M D
 | 0=>fun _=>M.no
 | n+1=>mFn ["self", "deep", "word", "one", "sign", "other", "way", "shown"] (b_q0 (m_q0 n))
def b_q5 (r:List D→M D):SM:=(sThen (sSet 2 (mMethI "Reader" "here" 1 m_q13 (mVar 0) mNil)) (sThen (sIf (mTOr (mAsT (mBin (eqvD false) (mUn (fldD ["Reader"] "many") (mVar 0)) (mC (.int 30)))) (mTOr (mAsT (mBin (inD true) (mVar 2) (mC (.tup ([("set" : Str), "say", "pay", "if", "while"].map D.str))))) (mTAnd (mAsT (mBin (inD false) (mVar 2) (mC (.tup ([("if" : Str), "while"].map D.str))))) (mAsT (mBin (eqvD false) (mVar 1) (mC (.int 4))))))) (sExpr (mMethI "Reader" "refuse" 1 m_q8 (mVar 0) mNil)) sSkip) (sThen (sFldAugD ["Reader"] "many" addID (mVar 0) (mC (.int 1))) (sThen (sFldAugD ["Reader"] "place" addID (mVar 0) (mC (.int 1))) (sThen (sIf (mAsT (mBin (eqvD false) (mVar 2) (mC (.str "say")))) (sRet (mTup (mCons (mVar 2) (mCons (mMethI "Reader" "sum_here" 2 (m_q4 8) (mVar 0) (mCons (mC (.int 5)) mNil)) mNil)))) sSkip) (sThen (sIf (mAsT (mBin (eqvD false) (mVar 2) (mC (.str "set")))) (sThen (sSet 5 (mMethI "Reader" "take_name" 1 m_q1 (mVar 0) mNil)) (sRet (mTup (mCons (mVar 2) (mCons (mVar 5) (mCons (mMethI "Reader" "sum_here" 2 (m_q4 8) (mVar 0) (mCons (mC (.int 5)) mNil)) mNil)))))) sSkip) (sThen (sIf (mAsT (mBin (eqvD false) (mVar 2) (mC (.str "pay")))) (sThen (sSet 6 (mMethI "Reader" "take_name" 1 m_q1 (mVar 0) mNil)) (sThen (sSet 7 (mMethI "Reader" "take_name" 1 m_q1 (mVar 0) mNil)) (sRet (mTup (mCons (mVar 2) (mCons (mVar 6) (mCons (mVar 7) (mCons (mMethI "Reader" "sum_here" 2 (m_q4 8) (mVar 0) (mCons (mC (.int 5)) mNil)) mNil)))))))) sSkip) (sThen (sSet 3 (mMethI "Reader" "test_here" 2 (m_q0 8) (mVar 0) (mCons (mC (.int 4)) mNil))) (sThen (sSet 4 (mMethI "Reader" "inner" 2 r (mVar 0) (mCons (mBin addD (mVar 1) (mC (.int 1))) mNil))) (sThen (sIf (mAsT (mBin (eqvD false) (mVar 2) (mC (.str "while")))) (sRet (mTup (mCons (mVar 2) (mCons (mVar 3) (mCons (mVar 4) mNil))))) sSkip) (sRet (mTup (mCons (mVar 2) (mCons (mVar 3) (mCons (mVar 4) (mCons (mMethI "Reader" "inner" 2 r (mVar 0) (mCons (mBin addD (mVar 1) (mC (.int 1))) mNil)) mNil))))))))))))))))
def b_q11 (r:List D→M D):SM:=(sThen (sExpr (mMethI "Reader" "take" 2 m_q15 (mVar 0) (mCons (mC (.str "[")) mNil))) (sThen (sSet 2 (mMethI "Reader" "rows_here" 3 r (mVar 0) (mCons (mVar 1) (mCons (mC (.str "]")) mNil)))) (sThen (sExpr (mMethI "Reader" "take" 2 m_q15 (mVar 0) (mCons (mC (.str "]")) mNil))) (sRet (mVar 2)))))
def b_q2 (r:List D→M D):SM:=(sThen (sSet 3 (mLstC mNil)) (sThen (whileL (mAsT (mBin (eqvD true) (mMethI "Reader" "here" 1 m_q13 (mVar 0) mNil) (mVar 2))) (sThen (sIf (mAsT (mBin (eq0D true) (mVar 3) (mLst mNil))) (sThen (sIf (mAsT (mBin (eqvD false) (mUn (fldD ["Reader"] "many") (mVar 0)) (mC (.int 30)))) (sExpr (mMethI "Reader" "refuse" 1 m_q8 (mVar 0) mNil)) sSkip) (sExpr (mMethI "Reader" "take" 2 m_q15 (mVar 0) (mCons (mC (.str ";")) mNil)))) sSkip) (sExpr (mMeth "list" appendD (mVar 3) (mCons (mMethI "Reader" "row_here" 2 r (mVar 0) (mCons (mVar 1) mNil)) mNil)))) 1000) (sRet (mCall tupleD (mCons (mVar 3) mNil)))))
def m_q2:Nat→List D→M D
 | 0=>fun _=>M.no
 | n+1=>mFn ["self", "within", "closing", "found"] (b_q2 (mFn ["self", "within", "word", "test", "first", "cell", "purse", "other"] (b_q5 (mFn ["self", "within", "rows"] (b_q11 (m_q2 n))))))
def ZcY:SM:=(sRet (mMethI "Reader" "rows_here" 3 (m_q2 8) (mMake "Reader" 2 ZgO (mCons (mVar 0) mNil)) (mCons (mC (.int 0)) (mCons (mC .non) mNil))))
def m_q20:List D→M D:=mFn ["words"] ZcY
def ZcZ:SM:=(sThen (sIf (mTNot (mAsT (mCall isiD (mCons (mVar 0) (mCons (mC (.ty "str")) mNil))))) (sRaise "NoText" "place" (mC (.int 0))) sSkip) (sRet (mCall (arity 1 m_q20) (mCons (mCall (arity 1 m_q28) (mCons (mVar 0) mNil)) mNil))))
def m_q21:List D→M D:=mFn ["text"] ZcZ
def b_q9 (r:List D→M D):SM:=(sThen (sIf (mAsT (mCall isiD (mCons (mVar 0) (mCons (mC (.ty "int")) mNil)))) (sRet (mLst (mCons (mCall strID (mCons (mVar 0) mNil)) mNil))) sSkip) (sThen (sIf (mAsT (mCall isiD (mCons (mVar 0) (mCons (mC (.ty "str")) mNil)))) (sRet (mLst (mCons (mBin addD (mC (.str "@")) (mVar 0)) mNil))) sSkip) (sThen (sIf (mAsT (mBin (eqvD false) (mBin ixD (mVar 0) (mC (.int 0))) (mC (.str "purse")))) (sRet (mLst (mCons (mBin addD (mC (.str "$")) (mBin ixD (mVar 0) (mC (.int 1)))) mNil))) sSkip) (sRet (mBin addD (mBin addD (mBin addD (mBin addD (mLst (mCons (mC (.str "(")) mNil)) (mCall (arity 1 r) (mCons (mBin ixD (mVar 0) (mC (.int 1))) mNil))) (mLst (mCons (mBin ixD (mVar 0) (mC (.int 0))) mNil))) (mCall (arity 1 r) (mCons (mBin ixD (mVar 0) (mC (.int 2))) mNil))) (mLst (mCons (mC (.str ")")) mNil)))))))
def m_q9:Nat→List D→M D
 | 0=>fun _=>M.no
 | n+1=>mFn ["_law_thing"] (b_q9 (m_q9 n))
def b_q6 (r:List D→M D):SM:=(sThen (sIf (mAsT (mBin (inD false) (mBin ixD (mVar 0) (mC (.int 0))) (mTup (mCons (mC (.str "news")) (mCons (mC (.str "known")) mNil))))) (sRet (mLst (mCons (mBin ixD (mVar 0) (mC (.int 0))) (mCons (mBin ixD (mVar 0) (mC (.int 1))) mNil)))) sSkip) (sThen (sIf (mAsT (mBin (eqvD false) (mBin ixD (mVar 0) (mC (.int 0))) (mC (.str "not")))) (sRet (mBin addD (mLst (mCons (mC (.str "not")) mNil)) (mCall (arity 1 r) (mCons (mBin ixD (mVar 0) (mC (.int 1))) mNil)))) sSkip) (sThen (sIf (mAsT (mBin (eqvD false) (mBin ixD (mVar 0) (mC (.int 0))) (mC (.str "both")))) (sRet (mBin addD (mBin addD (mBin addD (mBin addD (mLst (mCons (mC (.str "{")) mNil)) (mCall (arity 1 r) (mCons (mBin ixD (mVar 0) (mC (.int 1))) mNil))) (mLst (mCons (mC (.str "&")) mNil))) (mCall (arity 1 r) (mCons (mBin ixD (mVar 0) (mC (.int 2))) mNil))) (mLst (mCons (mC (.str "}")) mNil)))) sSkip) (sRet (mBin addD (mBin addD (mCall (arity 1 (m_q9 8)) (mCons (mBin ixD (mVar 0) (mC (.int 1))) mNil)) (mLst (mCons (mBin ixD (mDispC (mCons (mC (.str "above")) (mCons (mC (.str ">")) (mCons (mC (.str "same")) (mCons (mC (.str "=")) mNil))))) (mBin ixD (mVar 0) (mC (.int 0)))) mNil))) (mCall (arity 1 (m_q9 8)) (mCons (mBin ixD (mVar 0) (mC (.int 2))) mNil)))))))
def m_q6:Nat→List D→M D
 | 0=>fun _=>M.no
 | n+1=>mFn ["_law_test_here"] (b_q6 (m_q6 n))
def b_q24 (r:List D→M D):SM:=(sThen (sSet 1 (mLst mNil)) (sThen (sFor (mWalkT (mVar 0)) (.nm 2) (sThen (sSet 1 (mBin addD (mVar 1) (mBin mulLD (mLst (mCons (mC (.str ";")) mNil)) (mCall intCD (mCons (mBin (eqvD true) (mVar 1) (mLst mNil)) mNil))))) (sIf (mAsT (mBin (inD false) (mBin ixD (mVar 2) (mC (.int 0))) (mTup (mCons (mC (.str "if")) (mCons (mC (.str "while")) mNil))))) (sThen (sSet 1 (mBin addD (mBin addD (mVar 1) (mLst (mCons (mBin ixD (mVar 2) (mC (.int 0))) mNil))) (mCall (arity 1 (m_q6 8)) (mCons (mBin ixD (mVar 2) (mC (.int 1))) mNil)))) (sFor (mWalkT (mSl (mVar 2) (mPart (mC (.int 2))) mNoPart)) (.nm 3) (sSet 1 (mBin addD (mBin addD (mBin addD (mVar 1) (mLst (mCons (mC (.str "[")) mNil))) (mCall (arity 1 r) (mCons (mVar 3) mNil))) (mLst (mCons (mC (.str "]")) mNil)))))) (sSet 1 (mBin addD (mBin addD (mBin addD (mVar 1) (mLst (mCons (mBin ixD (mVar 2) (mC (.int 0))) mNil))) (mCall listD (mCons (mSl (mVar 2) (mPart (mC (.int 1))) (mPart (mUn negD (mC (.int 1))))) mNil))) (mCall (arity 1 (m_q9 8)) (mCons (mBin ixD (mVar 2) (mUn negD (mC (.int 1)))) mNil))))))) (sRet (mVar 1))))
def m_q24:Nat→List D→M D
 | 0=>fun _=>M.no
 | n+1=>mFn ["_law_rows_here", "_law_found", "_law_row_here", "_law_inner"] (b_q24 (m_q24 n))
def ZcX:SM:=(sThen (sSet 1 (mTup (mCons (mC (.str "news")) (mCons (mC (.str "known")) (mCons (mC (.str "not")) (mCons (mC (.str "set")) (mCons (mC (.str "say")) (mCons (mC (.str "pay")) (mCons (mC (.str "if")) (mCons (mC (.str "while")) (mCons (mC (.str "yes")) (mCons (mC (.str "no")) mNil)))))))))))) (sThen (sSet 2 (mCall (arity 2 m_q37) (mCons (mVar 0) (mCons (mC (.int 4)) mNil)))) (sThen (sIf (mAsT (mBin (eqvD false) (mCall (arity 2 m_q31) (mCons (mVar 0) (mCons (mC (.int 3)) mNil))) (mC (.int 0)))) (sThen (sSet 3 (mCall (arity 2 m_q31) (mCons (mVar 0) (mCons (mC (.int 10)) mNil)))) (sSet 2 (mTup (mCons (mSl (mBin addD (mVar 1) (mVar 1)) (mPart (mVar 3)) (mPart (mBin addD (mVar 3) (mC (.int 3))))) (mCons (mSl (mBin addD (mVar 1) (mVar 1)) (mPart (mBin addD (mVar 3) (mC (.int 2)))) (mPart (mBin addD (mVar 3) (mC (.int 5))))) (mCons (mBin ixD (mVar 2) (mC (.int 2))) mNil)))))) sSkip) (sRet (mVar 2)))))
def m_q17:List D→M D:=mFn ["_law_bag_here", "_law_words_here", "_law_kit_here", "_law_at"] ZcX
def ZcS:SM:=(sThen (sSet 2 (mCall (arity 3 (m_q33 8)) (mCons (mVar 0) (mCons (mVar 1) (mCons (mC (.int 2)) mNil))))) (sThen (sFor (mRng1 (mCons (mC (.int 3)) mNil)) (.nm 3) (sSet 2 (mBin ixD (mLst (mCons (mTup (mCons (mC (.str "+")) (mCons (mVar 2) (mCons (mC (.int 1)) mNil)))) (mCons (mTup (mCons (mC (.str "*")) (mCons (mC (.int 2)) (mCons (mVar 2) mNil)))) (mCons (mTup (mCons (mC (.str "-")) (mCons (mVar 2) (mCons (mVar 2) mNil)))) mNil)))) (mCall (arity 2 m_q31) (mCons (mVar 0) (mCons (mC (.int 3)) mNil)))))) (sThen (sSet 4 (mTup (mCons (mC (.str "known")) (mCons (mBin ixD (mBin ixD (mVar 1) (mC (.int 1))) (mC (.int 1))) mNil)))) (sThen (sFor (mRng1 (mCons (mC (.int 3)) mNil)) (.nm 3) (sThen (sSet 6 (mLst (mCons (mTup (mCons (mC (.str "not")) (mCons (mVar 4) mNil))) (mCons (mTup (mCons (mC (.str "both")) (mCons (mVar 4) (mCons (mTup (mCons (mC (.str "above")) (mCons (mC (.int 1)) (mCons (mVar 2) mNil)))) mNil)))) (mCons (mTup (mCons (mC (.str "both")) (mCons (mTup (mCons (mC (.str "same")) (mCons (mVar 2) (mCons (mC (.int 0)) mNil)))) (mCons (mVar 4) mNil)))) mNil))))) (sSet 4 (mBin ixD (mVar 6) (mCall (arity 2 m_q31) (mCons (mVar 0) (mCons (mC (.int 3)) mNil))))))) (sThen (sSet 5 (mBin mulTZD (mTup (mCons (mTup (mCons (mC (.str "say")) (mCons (mVar 2) mNil))) mNil)) (mCall (arity 2 m_q31) (mCons (mVar 0) (mCons (mC (.int 3)) mNil))))) (sThen (sFor (mRng1 (mCons (mC (.int 4)) mNil)) (.nm 3) (sSet 5 (mBin ixD (mLst (mCons (mTup (mCons (mTup (mCons (mC (.str "while")) (mCons (mVar 4) (mCons (mVar 5) mNil)))) mNil)) (mCons (mTup (mCons (mTup (mCons (mC (.str "if")) (mCons (mVar 4) (mCons (mVar 5) (mCons (mTup mNil) mNil))))) mNil)) (mCons (mTup (mCons (mTup (mCons (mC (.str "if")) (mCons (mVar 4) (mCons (mTup mNil) (mCons (mVar 5) mNil))))) mNil)) mNil)))) (mCall (arity 2 m_q31) (mCons (mVar 0) (mCons (mC (.int 3)) mNil)))))) (sRet (mVar 5))))))))
def m_q10:List D→M D:=mFn ["_law_bag_here", "_law_kit_here", "_law_deep", "_law_turn", "_law_test_here", "_law_rows_here", "_law_some"] ZcS
end NA
namespace K61
open PySem L2 ND NA
abbrev FT (K:PySem.W.Frag) (n q:Str) (p) (a:Addr) (d:FuncData):=FunD K n q (defArgs p) (defBody p) (defScope p) [] [] a d
structure Txt (K:PySem.W.Frag) (mg:Str→Option Value) (w:World):Type where
 a_q32:Addr
 fd_q32:FuncData
 F_q32:FT K "is_whole" "is_whole" (top 3) a_q32 fd_q32
 B_q32:Binds K fd_q32 ["thing"] []
 g_q32:mg "is_whole" = some (.ref a_q32)
 a_q34:Addr
 fd_q34:FuncData
 F_q34:FT K "is_name" "is_name" (top 7) a_q34 fd_q34
 B_q34:Binds K fd_q34 ["thing"] []
 g_q34:mg "is_name" = some (.ref a_q34)
 a_q14:Addr
 fd_q14:FuncData
 F_q14:FT K "number_words" "number_words" (top 22) a_q14 fd_q14
 B_q14:Binds K fd_q14 ["thing"] []
 g_q14:mg "number_words" = some (.ref a_q14)
 a_q19:Addr
 fd_q19:FuncData
 F_q19:FT K "test_words" "test_words" (top 23) a_q19 fd_q19
 B_q19:Binds K fd_q19 ["thing"] []
 g_q19:mg "test_words" = some (.ref a_q19)
 a_q23:Addr
 fd_q23:FuncData
 F_q23:FT K "row_words" "row_words" (top 24) a_q23 fd_q23
 B_q23:Binds K fd_q23 ["row"] []
 g_q23:mg "row_words" = some (.ref a_q23)
 a_q18:Addr
 fd_q18:FuncData
 F_q18:FT K "rows_words" "rows_words" (top 25) a_q18 fd_q18
 B_q18:Binds K fd_q18 ["rows"] []
 g_q18:mg "rows_words" = some (.ref a_q18)
 a_q25:Addr
 fd_q25:FuncData
 F_q25:FT K "show_rows" "show_rows" (top 26) a_q25 fd_q25
 B_q25:Binds K fd_q25 ["rows"] []
 g_q25:mg "show_rows" = some (.ref a_q25)
 a_q28:Addr
 fd_q28:FuncData
 F_q28:FT K "words_of" "words_of" (top 27) a_q28 fd_q28
 B_q28:Binds K fd_q28 ["text"] []
 g_q28:mg "words_of" = some (.ref a_q28)
 a_q16:Addr
 fd_q16:FuncData
 F_q16:FT K "read_number" "read_number" (top 28) a_q16 fd_q16
 B_q16:Binds K fd_q16 ["word"] []
 g_q16:mg "read_number" = some (.ref a_q16)
 a_q3:Addr
 fd_q3:FuncData
 F_q3:FunD K "__init__" "Reader.__init__" (defArgs (inClass (top 29) 0)) (defBody (inClass (top 29) 0)) (defScope (inClass (top 29) 0)) [] [] a_q3 fd_q3
 B_q3:Binds K fd_q3 ["self", "words"] []
 a_q13:Addr
 fd_q13:FuncData
 F_q13:FunD K "here" "Reader.here" (defArgs (inClass (top 29) 1)) (defBody (inClass (top 29) 1)) (defScope (inClass (top 29) 1)) [] [] a_q13 fd_q13
 B_q13:Binds K fd_q13 ["self"] []
 a_q8:Addr
 fd_q8:FuncData
 F_q8:FunD K "refuse" "Reader.refuse" (defArgs (inClass (top 29) 2)) (defBody (inClass (top 29) 2)) (defScope (inClass (top 29) 2)) [] [] a_q8 fd_q8
 B_q8:Binds K fd_q8 ["self"] []
 a_q12:Addr
 fd_q12:FuncData
 F_q12:FunD K "step" "Reader.step" (defArgs (inClass (top 29) 3)) (defBody (inClass (top 29) 3)) (defScope (inClass (top 29) 3)) [] [] a_q12 fd_q12
 B_q12:Binds K fd_q12 ["self"] []
 a_q15:Addr
 fd_q15:FuncData
 F_q15:FunD K "take" "Reader.take" (defArgs (inClass (top 29) 4)) (defBody (inClass (top 29) 4)) (defScope (inClass (top 29) 4)) [] [] a_q15 fd_q15
 B_q15:Binds K fd_q15 ["self", "wanted"] []
 a_q1:Addr
 fd_q1:FuncData
 F_q1:FunD K "take_name" "Reader.take_name" (defArgs (inClass (top 29) 5)) (defBody (inClass (top 29) 5)) (defScope (inClass (top 29) 5)) [] [] a_q1 fd_q1
 B_q1:Binds K fd_q1 ["self"] []
 a_q7:Addr
 fd_q7:FuncData
 F_q7:FunD K "one_of" "Reader.one_of" (defArgs (inClass (top 29) 6)) (defBody (inClass (top 29) 6)) (defScope (inClass (top 29) 6)) [] [] a_q7 fd_q7
 B_q7:Binds K fd_q7 ["self", "some"] []
 a_q4:Addr
 fd_q4:FuncData
 F_q4:FunD K "sum_here" "Reader.sum_here" (defArgs (inClass (top 29) 7)) (defBody (inClass (top 29) 7)) (defScope (inClass (top 29) 7)) [] [] a_q4 fd_q4
 B_q4:Binds K fd_q4 ["self", "deep"] []
 a_q0:Addr
 fd_q0:FuncData
 F_q0:FunD K "test_here" "Reader.test_here" (defArgs (inClass (top 29) 8)) (defBody (inClass (top 29) 8)) (defScope (inClass (top 29) 8)) [] [] a_q0 fd_q0
 B_q0:Binds K fd_q0 ["self", "deep"] []
 a_q5:Addr
 fd_q5:FuncData
 F_q5:FunD K "row_here" "Reader.row_here" (defArgs (inClass (top 29) 9)) (defBody (inClass (top 29) 9)) (defScope (inClass (top 29) 9)) [] [] a_q5 fd_q5
 B_q5:Binds K fd_q5 ["self", "within"] []
 a_q11:Addr
 fd_q11:FuncData
 F_q11:FunD K "inner" "Reader.inner" (defArgs (inClass (top 29) 10)) (defBody (inClass (top 29) 10)) (defScope (inClass (top 29) 10)) [] [] a_q11 fd_q11
 B_q11:Binds K fd_q11 ["self", "within"] []
 a_q2:Addr
 fd_q2:FuncData
 F_q2:FunD K "rows_here" "Reader.rows_here" (defArgs (inClass (top 29) 11)) (defBody (inClass (top 29) 11)) (defScope (inClass (top 29) 11)) [] [] a_q2 fd_q2
 B_q2:Binds K fd_q2 ["self", "within", "closing"] []
 a_q20:Addr
 fd_q20:FuncData
 F_q20:FT K "read_words" "read_words" (top 30) a_q20 fd_q20
 B_q20:Binds K fd_q20 ["words"] []
 g_q20:mg "read_words" = some (.ref a_q20)
 a_q21:Addr
 fd_q21:FuncData
 F_q21:FT K "read_rows" "read_rows" (top 31) a_q21 fd_q21
 B_q21:Binds K fd_q21 ["text"] []
 g_q21:mg "read_rows" = some (.ref a_q21)
 a_q35:Addr
 fd_q35:FuncData
 F_q35:FT K "_law_bag" "_law_bag" (top 33) a_q35 fd_q35
 B_q35:Binds K fd_q35 ["_law_script", "_law_at"] []
 g_q35:mg "_law_bag" = some (.ref a_q35)
 a_q31:Addr
 fd_q31:FuncData
 F_q31:FT K "_law_take" "_law_take" (top 34) a_q31 fd_q31
 B_q31:Binds K fd_q31 ["_law_bag_here", "_law_many"] []
 g_q31:mg "_law_take" = some (.ref a_q31)
 a_q26:Addr
 fd_q26:FuncData
 F_q26:FT K "_law_names" "_law_names" (top 35) a_q26 fd_q26
 B_q26:Binds K fd_q26 ["_law_bag_here", "_law_many"] []
 g_q26:mg "_law_names" = some (.ref a_q26)
 a_q37:Addr
 fd_q37:FuncData
 F_q37:FT K "_law_kit" "_law_kit" (top 36) a_q37 fd_q37
 B_q37:Binds K fd_q37 ["_law_bag_here", "_law_most"] []
 g_q37:mg "_law_kit" = some (.ref a_q37)
 a_q33:Addr
 fd_q33:FuncData
 F_q33:FT K "_law_sum" "_law_sum" (top 37) a_q33 fd_q33
 B_q33:Binds K fd_q33 ["_law_bag_here", "_law_kit_here", "_law_deep"] []
 g_q33:mg "_law_sum" = some (.ref a_q33)
 a_q27:Addr
 fd_q27:FuncData
 F_q27:FT K "_law_test" "_law_test" (top 38) a_q27 fd_q27
 B_q27:Binds K fd_q27 ["_law_bag_here", "_law_kit_here", "_law_deep"] []
 g_q27:mg "_law_test" = some (.ref a_q27)
 a_q36:Addr
 fd_q36:FuncData
 F_q36:FT K "_law_row" "_law_row" (top 39) a_q36 fd_q36
 B_q36:Binds K fd_q36 ["_law_bag_here", "_law_kit_here", "_law_left", "_law_inside"] []
 g_q36:mg "_law_row" = some (.ref a_q36)
 a_q29:Addr
 fd_q29:FuncData
 F_q29:FT K "_law_rows" "_law_rows" (top 40) a_q29 fd_q29
 B_q29:Binds K fd_q29 ["_law_bag_here", "_law_kit_here", "_law_left", "_law_inside"] []
 g_q29:mg "_law_rows" = some (.ref a_q29)
 a_q30:Addr
 fd_q30:FuncData
 F_q30:FT K "_law_deed" "_law_deed" (top 41) a_q30 fd_q30
 B_q30:Binds K fd_q30 ["_law_bag_here", "_law_kit_here"] []
 g_q30:mg "_law_deed" = some (.ref a_q30)
 a_q9:Addr
 fd_q9:FuncData
 F_q9:FT K "_law_sum_words" "_law_sum_words" (top 42) a_q9 fd_q9
 B_q9:Binds K fd_q9 ["_law_thing"] []
 g_q9:mg "_law_sum_words" = some (.ref a_q9)
 a_q6:Addr
 fd_q6:FuncData
 F_q6:FT K "_law_test_words" "_law_test_words" (top 43) a_q6 fd_q6
 B_q6:Binds K fd_q6 ["_law_test_here"] []
 g_q6:mg "_law_test_words" = some (.ref a_q6)
 a_q24:Addr
 fd_q24:FuncData
 F_q24:FT K "_law_words" "_law_words" (top 44) a_q24 fd_q24
 B_q24:Binds K fd_q24 ["_law_rows_here"] []
 g_q24:mg "_law_words" = some (.ref a_q24)
 a_q17:Addr
 fd_q17:FuncData
 F_q17:FT K "_law_any_kit" "_law_any_kit" (top 45) a_q17 fd_q17
 B_q17:Binds K fd_q17 ["_law_bag_here"] []
 g_q17:mg "_law_any_kit" = some (.ref a_q17)
 a_q10:Addr
 fd_q10:FuncData
 F_q10:FT K "_law_deep_rows" "_law_deep_rows" (top 46) a_q10 fd_q10
 B_q10:Binds K fd_q10 ["_law_bag_here", "_law_kit_here"] []
 g_q10:mg "_law_deep_rows" = some (.ref a_q10)
 a_q22:Addr
 fd_q22:FuncData
 F_q22:FT K "_law_right" "_law_right" (top 47) a_q22 fd_q22
 B_q22:Binds K fd_q22 ["_law_rows_here"] []
 g_q22:mg "_law_right" = some (.ref a_q22)
 a_law:Addr
 fd_law:FuncData
 F_law:FT K "law" "law" (top 48) a_law fd_law
 B_law:Binds K fd_law ["_law_script"] []
 g_law:mg "law" = some (.ref a_law)
 C_NoText:Addr
 f_NoText:Addr
 e_NoText:PySem.ErrX.ErrTxt K mg "NoText" "NoText.__init__" "place" C_NoText f_NoText
 C_Reader:Addr
 gC_Reader:mg "Reader" = some (.ref C_Reader)
 cls_Reader:Cls K C_Reader
 mk_Reader:Mk K C_Reader a_q3
 na_Reader_many:NoAttr K C_Reader "many"
 na_Reader_place:NoAttr K C_Reader "place"
 na_Reader_words:NoAttr K C_Reader "words"
 mt_q13:Meth K C_Reader "here" a_q13
 mt_q11:Meth K C_Reader "inner" a_q11
 mt_q7:Meth K C_Reader "one_of" a_q7
 mt_q8:Meth K C_Reader "refuse" a_q8
 mt_q5:Meth K C_Reader "row_here" a_q5
 mt_q2:Meth K C_Reader "rows_here" a_q2
 mt_q12:Meth K C_Reader "step" a_q12
 mt_q4:Meth K C_Reader "sum_here" a_q4
 mt_q15:Meth K C_Reader "take" a_q15
 mt_q1:Meth K C_Reader "take_name" a_q1
 mt_q0:Meth K C_Reader "test_here" a_q0
 c_CELL_SIGN:∃ t,mg "CELL_SIGN" = some (.str "@" t)
 c_COMPARED:ZcG K mg w "COMPARED" [("above", ">"),("same", "=")]
 c_FIGURES:∃ t,mg "FIGURES" = some (.str "0123456789" t)
 c_LETTERS:∃ t,mg "LETTERS" = some (.str "abcdefghijklmnopqrstuvwxyz" t)
 c_MOST_FIGURES:∃ t,mg "MOST_FIGURES" = some (.int 10 t)
 c_MOST_NUMBER:∃ t,mg "MOST_NUMBER" = some (.int 1000000000 t)
 c_MOST_ROWS:∃ t,mg "MOST_ROWS" = some (.int 30 t)
 c_MOST_SIGNS:∃ t,mg "MOST_SIGNS" = some (.int 8 t)
 c_MOST_SUMS:∃ t,mg "MOST_SUMS" = some (.int 5 t)
 c_MOST_TESTS:∃ t,mg "MOST_TESTS" = some (.int 4 t)
 c_MOST_WITHIN:∃ t,mg "MOST_WITHIN" = some (.int 4 t)
 c_PURSE_SIGN:∃ t,mg "PURSE_SIGN" = some (.str "$" t)
 c_ROW_WORDS:ZcH K mg "ROW_WORDS" ["set", "say", "pay", "if", "while"]
 c_SIGNS:ZcH K mg "SIGNS" ["+", "-", "*"]
 c_WITHIN_WORDS:ZcH K mg "WITHIN_WORDS" ["if", "while"]
 n_abs:mg "abs" = none
 n_all:mg "all" = none
 n_bool:mg "bool" = none
 n_int:mg "int" = none
 n_isinstance:mg "isinstance" = none
 n_len:mg "len" = none
 n_list:mg "list" = none
 n_max:mg "max" = none
 n_min:mg "min" = none
 n_range:mg "range" = none
 n_repr:mg "repr" = none
 n_str:mg "str" = none
 n_tuple:mg "tuple" = none
 n_zip:mg "zip" = none
section
variable {P:Program} {w:World} {K:PySem.W.Frag} {mg:Str→Option Value} {base:Heap}
theorem Zeh:FnScope ["thing"] ["thing"] (defScope (top 3)):=scQ
theorem ok_q32 (T:Txt K mg w):FnD P w K mg base 1 T.a_q32 T.fd_q32 ["thing"] m_q32:=ZA T.F_q32 Zeh fun cdv A outer s H E hid hr tk=>
 (dss_one (ds_ret (d_and (d_callB call_isi XX rfl T.n_isinstance Zt (d_acons (d_var (i:=0)) (d_acons (d_ty rfl T.n_int Uh) Zb))) (d_one (d_not (d_callB call_isi XX rfl T.n_isinstance Zt (d_acons (d_var (i:=0)) (d_acons (d_ty rfl T.n_bool Zbl) Zb))))))))
theorem Ks:FnScope ["thing", "sign"] ["thing"] (defScope (top 7)):=scQ
theorem ok_q34 (T:Txt K mg w):FnD P w K mg base 1 T.a_q34 T.fd_q34 ["thing"] m_q34:=ZA T.F_q34 Ks fun cdv A outer s H E hid hr tk=>
 (dss_one (ds_ret (d_and (d_callB call_isi XX rfl T.n_isinstance Zt (d_acons (d_var (i:=0)) (d_acons (d_ty rfl T.n_str WG) Zb))) (d_and (d_chain Jf Jf Zx Zx Zd (d_callB YB YA rfl T.n_len Xb (d_acons (d_var (i:=0)) Zb)) (d_globI rfl T.c_MOST_SIGNS)) (d_one (d_callB (cr_all rfl) JB rfl T.n_all Jy (d_acons (d_comp (own:=[("sign",1)]) rfl Ks.nd (di_str (d_var (i:=0))) (blkOk_by (N:=["thing", "sign"]) (sc:=(defScope (top 7))) (own:=[("sign",1)]) (by decide +kernel)) (fun _ _ _ _ _=>(dg_name (i:=1) Ks.nd rfl (by first | exact .inl rfl | exact .inr rfl))) (fun _ _ _ _ _ _=>Yj) (fun _ _ _ _ _ _=>(d_cmp (or_in (room65 hr)) Wh (d_var (i:=1)) (d_globS rfl T.c_LETTERS (sOk_of (by decide +kernel))) (by rfl))) (by decide)) Zb)))))))
theorem Kl:FnScope ["thing", "word", "parts"] ["thing"] (defScope (top 22)):=scQ
theorem Zej (T:Txt K mg w) {L:Nat} {r:List D→M D} (hl:1≤L) (h:FnD P w K mg base L T.a_q14 T.fd_q14 ["thing"] r):FnD P w K mg base (L+1) T.a_q14 T.fd_q14 ["thing"] (mFn ["thing", "word", "parts"] (b_q14 r)):=ZA T.F_q14 Kl fun cdv A outer s H E hid hr tk=>
 (dss_cons (ds_if (dt_val (d_cq (ok_q32 T) hr T.g_q32 T.F_q32.kp T.B_q32 tk (d_acons (d_var (i:=0)) Zb))) (dss_one (ds_ret (d_lst (d_acons (d_callTy call_str_int JE rfl T.n_str WG (d_acons (d_var (i:=0)) Zb)) Zb)))) Zf) (dss_cons (ds_if (dt_val (d_callB call_isi XX rfl T.n_isinstance Zt (d_acons (d_var (i:=0)) (d_acons (d_ty rfl T.n_str WG) Zb)))) (dss_one (ds_ret (d_lst (d_acons (d_bin Zi Zj (d_globS rfl T.c_CELL_SIGN (sOk_of (by decide +kernel))) (d_var (i:=0))) Zb)))) Zf) (dss_cons (ds_star (is:=[1]) (j:=2) rfl (d_var (i:=0)) (pgs_cons (pg_name (i:=1) Kl.nd rfl (.inl rfl)) (pgs_last (pg_name (i:=2) Kl.nd rfl (.inl rfl))))) (dss_cons (ds_if (dt_cmp (op_eqD hr.units) ZP (d_var (i:=1)) Zo (nomark _)) (dss_one (ds_ret (d_lst (d_acons (d_bin Zi Zj (d_globS rfl T.c_PURSE_SIGN (sOk_of (by decide +kernel))) (d_iq hr (d_var (i:=2)) Zd)) Zb)))) Zf) (dss_one (ds_ret (d_bin Zi Zj (d_bin Zi Zj (d_bin Zi Zj (d_bin Zi Zj (d_lst (d_acons Zo Zb)) (d_cq h hr T.g_q14 T.F_q14.kp T.B_q14 tk (d_acons (d_iq hr (d_var (i:=2)) Zd) Zb))) (d_lst (d_acons (d_var (i:=1)) Zb))) (d_cq h hr T.g_q14 T.F_q14.kp T.B_q14 tk (d_acons (d_iq hr (d_var (i:=2)) Zd) Zb))) (d_lst (d_acons Zo Zb)))))))))
theorem ok_q14 (T:Txt K mg w):∀ n:Nat,FnD P w K mg base (1+n) T.a_q14 T.fd_q14 ["thing"] (m_q14 n)
 | 0=>Wf
 | n+1=>Zej T (L:=1+n) (by omega) (ok_q14 T n)
theorem Kn:FnScope ["thing", "word", "parts"] ["thing"] (defScope (top 23)):=scQ
theorem Zel (T:Txt K mg w) {L:Nat} {r:List D→M D} (hl:9≤L) (h:FnD P w K mg base L T.a_q19 T.fd_q19 ["thing"] r):FnD P w K mg base (L+1) T.a_q19 T.fd_q19 ["thing"] (mFn ["thing", "word", "parts"] (b_q19 r)):=ZA T.F_q19 Kn fun cdv A outer s H E hid hr tk=>
 (dss_cons (ds_star (is:=[1]) (j:=2) rfl (d_var (i:=0)) (pgs_cons (pg_name (i:=1) Kn.nd rfl (.inl rfl)) (pgs_last (pg_name (i:=2) Kn.nd rfl (.inl rfl))))) (dss_cons (ds_if (dt_cmp (or_in (room65 hr)) Wh (d_var (i:=1)) (d_tup (d_acons Zo (d_acons Zo Zb))) (by rfl)) (dss_one (ds_ret (d_lst (d_acons (d_var (i:=1)) (d_acons (d_iq hr (d_var (i:=2)) Zd) Zb))))) Zf) (dss_cons (ds_if (dt_cmp (op_eqD hr.units) ZP (d_var (i:=1)) Zo (nomark _)) (dss_one (ds_ret (d_bin Zi Zj (d_lst (d_acons (d_var (i:=1)) Zb)) (d_cq h hr T.g_q19 T.F_q19.kp T.B_q19 tk (d_acons (d_iq hr (d_var (i:=2)) Zd) Zb))))) Zf) (dss_cons (ds_if (dt_cmp (op_eqD hr.units) ZP (d_var (i:=1)) Zo (nomark _)) (dss_one (ds_ret (d_bin Zi Zj (d_bin Zi Zj (d_bin Zi Zj (d_bin Zi Zj (d_lst (d_acons Zo Zb)) (d_cq h hr T.g_q19 T.F_q19.kp T.B_q19 tk (d_acons (d_iq hr (d_var (i:=2)) Zd) Zb))) (d_lst (d_acons Zo Zb))) (d_cq h hr T.g_q19 T.F_q19.kp T.B_q19 tk (d_acons (d_iq hr (d_var (i:=2)) Zd) Zb))) (d_lst (d_acons Zo Zb))))) Zf) (dss_one (ds_ret (d_bin Zi Zj (d_bin Zi Zj (d_cq (ok_q14 T 8) hr T.g_q14 T.F_q14.kp T.B_q14 tk (d_acons (d_iq hr (d_var (i:=2)) Zd) Zb)) (d_lst (d_acons (d_tabS T.c_COMPARED (sok1 (by decide +kernel)) rfl (d_var (i:=1)) (fun _ _=>rfl)) Zb))) (d_cq (ok_q14 T 8) hr T.g_q14 T.F_q14.kp T.B_q14 tk (d_acons (d_iq hr (d_var (i:=2)) Zd) Zb)))))))))
theorem ok_q19 (T:Txt K mg w):∀ n:Nat,FnD P w K mg base (9+n) T.a_q19 T.fd_q19 ["thing"] (m_q19 n)
 | 0=>Wf
 | n+1=>Zel T (L:=9+n) (by omega) (ok_q19 T n)
theorem X9:FnScope ["row", "word", "parts", "test", "inner", "rows", "one"] ["row"] (defScope (top 24)):=scQ
theorem st_q23 (T:Txt K mg w) {L:Nat} {r:List D→M D} (hl:17≤L) (h:FnD P w K mg base L T.a_q18 T.fd_q18 ["rows"] r):FnD P w K mg base (L+1) T.a_q23 T.fd_q23 ["row"] (mFn ["row", "word", "parts", "test", "inner", "rows", "one"] (b_q23 r)):=ZA T.F_q23 X9 fun cdv A outer s H E hid hr tk=>
 (dss_cons (ds_star (is:=[1]) (j:=2) rfl (d_var (i:=0)) (pgs_cons (pg_name (i:=1) X9.nd rfl (.inl rfl)) (pgs_last (pg_name (i:=2) X9.nd rfl (.inl rfl))))) (dss_cons (ds_if (dt_cmp (or_in (room65 hr)) Wh (d_var (i:=1)) (d_globT rfl T.c_WITHIN_WORDS (by intro y hy; simp at hy; rcases hy with rfl | rfl <;> exact sOk_of (by decide +kernel))) (by rfl)) (dss_cons (ds_starL (is:=[3]) (j:=4) rfl (d_var (i:=2)) (pgs_cons (pg_name (i:=3) X9.nd rfl (by first | exact .inl rfl | exact .inr rfl)) (pgs_last (pg_name (i:=4) X9.nd rfl (by first | exact .inl rfl | exact .inr rfl))))) (dss_one (ds_ret (d_bin Zi Zj (d_bin Zi Zj (d_lst (d_acons (d_var (i:=1)) Zb)) (d_cq (ok_q19 T 8) hr T.g_q19 T.F_q19.kp T.B_q19 tk (d_acons (d_var (i:=3)) Zb))) (d_comp2 (i:=5) (j:=6) rfl X9.nd (di_lst (d_var (i:=4))) (blkOk_by (N:=["row", "word", "parts", "test", "inner", "rows", "one"]) (sc:=(defScope (top 24))) (own:=[("rows",5),("one",6)]) (by decide +kernel)) (fun _ _ _ _ _=>pg_name (i:=5) X9.nd rfl (by first | exact .inl rfl | exact .inr rfl)) (fun _ _ _ _ _ _=>(d_bin Zi Zj (d_bin Zi Zj (d_lst (d_acons Zo Zb)) (d_cq h hr T.g_q18 T.F_q18.kp T.B_q18 Wc (d_acons (d_var (i:=5)) Zb))) (d_lst (d_acons Zo Zb)))) (fun _ _ _ _ _=>pg_name (i:=6) X9.nd rfl (by first | exact .inl rfl | exact .inr rfl)) (fun _ _ _ _ _=>pe_var (i:=6) rfl (by first | exact Or.inl rfl | exact Or.inr (Or.inl rfl) | exact Or.inr (Or.inr rfl)))))))) Zf) (dss_one (ds_ret (d_bin Zi Zj (d_bin Zi Zj (d_lst (d_acons (d_var (i:=1)) Zb)) (d_callTy call_list_of JC rfl T.n_list Jz (d_acons (d_sl (d_var (i:=2)) VE (d_po (d_un un_neg Wd Zd))) Zb))) (d_cq (ok_q14 T 8) hr T.g_q14 T.F_q14.kp T.B_q14 tk (d_acons (d_iq hr (d_var (i:=2)) (d_un un_neg Wd Zd)) Zb)))))))
theorem Km:FnScope ["rows", "found", "row"] ["rows"] (defScope (top 25)):=scQ
theorem Zek (T:Txt K mg w) {L:Nat} {r:List D→M D} (hl:0≤L) (h:FnD P w K mg base L T.a_q23 T.fd_q23 ["row"] r):FnD P w K mg base (L+1) T.a_q18 T.fd_q18 ["rows"] (mFn ["rows", "found", "row"] (b_q18 r)):=ZA T.F_q18 Km fun cdv A outer s H E hid hr tk=>
 (dss_cons (ds_set (i:=1) Km.nd rfl (.inl rfl) (d_lstC Zb)) (dss_cons (ds_for (passes_of rfl) rfl (di_tup (d_var (i:=0))) (dg_name (i:=2) Km.nd rfl (.inl rfl)) (dss_cons (ds_if (dt_cmp (op_ne0 hr.units) ZdV (d_var (i:=1)) (d_lst Zb) (nomark _)) (dss_one (ds_expr (d_meth PySem.F.plainAttrs_list PySem.F.slot_list_append PySem.F.type_list_append mt_append YO (.inr (.inl rfl)) (d_var (i:=1)) (d_acons Zo Zb)))) Zf) (dss_one (ds_expr (d_meth PySem.F.plainAttrs_list PySem.F.slot_list_extend PySem.F.type_list_extend mt_extend J8 (.inr (.inl rfl)) (d_var (i:=1)) (d_acons (d_cq h hr T.g_q23 T.F_q23.kp T.B_q23 tk (d_acons (d_var (i:=2)) Zb)) Zb)))))) (dss_one (ds_ret (d_fix (d_var (i:=1)))))))
theorem ok_q18 (T:Txt K mg w):∀ n:Nat,FnD P w K mg base (17+2 * n) T.a_q18 T.fd_q18 ["rows"] (m_q18 n)
 | 0=>Wf
 | n+1=>Zek T (L:=17+2 * n+1) (by omega) (st_q23 T (L:=17+2 * n) (by omega) (ok_q18 T n))
theorem Zef:FnScope ["rows"] ["rows"] (defScope (top 26)):=scQ
theorem ok_q25 (T:Txt K mg w):FnD P w K mg base 34 T.a_q25 T.fd_q25 ["rows"] m_q25:=ZA T.F_q25 Zef fun cdv A outer s H E hid hr tk=>
 (dss_one (ds_ret (d_meth PySem.F.plainAttrs_str PySem.F.slot_str_join PySem.F.type_str_join mt_join U5 (.inl rfl) Zo (d_acons (d_cq (ok_q18 T 8) hr T.g_q18 T.F_q18.kp T.B_q18 tk (d_acons (d_var (i:=0)) Zb)) Zb))))
theorem Zeg:FnScope ["text"] ["text"] (defScope (top 27)):=scQ
theorem ok_q28 (T:Txt K mg w):FnD P w K mg base 1 T.a_q28 T.fd_q28 ["text"] m_q28:=ZA T.F_q28 Zeg fun cdv A outer s H E hid hr tk=>
 (dss_one (ds_ret (d_ifx (dt_cmp (op_neD hr.units) Wi (d_var (i:=0)) Zo (nomark _)) (d_meth PySem.F.plainAttrs_str PySem.F.slot_str_split PySem.F.type_str_split mt_split G7 (.inl rfl) (d_var (i:=0)) (d_acons Zo Zb)) (d_lst Zb))))
theorem UM:FnScope ["word", "figures", "number", "sign"] ["word"] (defScope (top 28)):=scQ
theorem ok_q16 (T:Txt K mg w):FnD P w K mg base 1 T.a_q16 T.fd_q16 ["word"] m_q16:=ZA T.F_q16 UM fun cdv A outer s H E hid hr tk=>
 (dss_cons (ds_set (i:=1) UM.nd rfl (by first | exact .inl rfl | exact .inr rfl) (d_meth PySem.F.plainAttrs_str PySem.F.slot_str_removeprefix PySem.F.type_str_removeprefix Zaa G6 (.inl rfl) (d_var (i:=0)) (d_acons Zo Zb))) (dss_cons (ds_if (PW.pt (dw_or (dt_not (dt_chain Jf Jf Zx Zx Zd (d_callB YB YA rfl T.n_len Xb (d_acons (d_var (i:=1)) Zb)) (d_globI rfl T.c_MOST_FIGURES))) (dw_or1 (dt_not (dt_val (d_callB (cr_all rfl) JB rfl T.n_all Jy (d_acons (d_comp (own:=[("sign",3)]) rfl UM.nd (di_str (d_var (i:=1))) (blkOk_by (N:=["word", "figures", "number", "sign"]) (sc:=(defScope (top 28))) (own:=[("sign",3)]) (by decide +kernel)) (fun _ _ _ _ _=>(dg_name (i:=3) UM.nd rfl (by first | exact .inl rfl | exact .inr rfl))) (fun _ _ _ _ _ _=>Yj) (fun _ _ _ _ _ _=>(d_cmp (or_in (room65 hr)) Wh (d_var (i:=3)) (d_globS rfl T.c_FIGURES (sOk_of (by decide +kernel))) (by rfl))) (by decide)) Zb))))))) (dss_one (ds_ret Uj)) Zf) (dss_cons (ds_if (PW.pt (dw_and (dt_cmp (op_eqD hr.units) ZP (d_iq hr (d_var (i:=1)) Zd) Zo (nomark _)) (dw_and1 (dt_cmp (op_neD hr.units) Wi (d_var (i:=0)) Zo (nomark _))))) (dss_one (ds_ret Uj)) Zf) (dss_cons (ds_set (i:=2) UM.nd rfl (.inl rfl) (d_callTy call_int_str Zbm rfl T.n_int Uh (d_acons (d_var (i:=0)) Zb))) (dss_one (ds_ret (d_ifx (dt_chain Jf Jf Zx Zx (d_un un_neg Wd (d_globI rfl T.c_MOST_NUMBER)) (d_var (i:=2)) (d_globI rfl T.c_MOST_NUMBER)) (d_var (i:=2)) Uj)))))))
theorem ZgY:FnScope ["self", "words"] ["self", "words"] (defScope (inClass (top 29) 0)):=scQ
theorem ok_q3 (T:Txt K mg w):FnD P w K mg base 1 T.a_q3 T.fd_q3 ["self", "words"] ZgO:=ZA T.F_q3 ZgY fun cdv A outer s H E hid hr tk=>
 (dss_cons (ds_fld (fld1 T.gC_Reader T.cls_Reader T.na_Reader_words) (d_var (i:=0)) (d_var (i:=1))) (dss_cons (ds_fld (fld1 T.gC_Reader T.cls_Reader T.na_Reader_place) (d_var (i:=0)) Zd) (dss_one (ds_fld (fld1 T.gC_Reader T.cls_Reader T.na_Reader_many) (d_var (i:=0)) Zd))))
theorem Zea:FnScope ["self"] ["self"] (defScope (inClass (top 29) 1)):=scQ
theorem ok_q13 (T:Txt K mg w):FnD P w K mg base 1 T.a_q13 T.fd_q13 ["self"] m_q13:=ZA T.F_q13 Zea fun cdv A outer s H E hid hr tk=>
 (dss_one (ds_ret (d_ifx (dt_cmp VT Zx (d_fld (fld1 T.gC_Reader T.cls_Reader T.na_Reader_place) (d_var (i:=0))) (d_callB YB YA rfl T.n_len Xb (d_acons (d_fld (fld1 T.gC_Reader T.cls_Reader T.na_Reader_words) (d_var (i:=0))) Zb)) (nomark _)) (d_iq hr (d_fld (fld1 T.gC_Reader T.cls_Reader T.na_Reader_words) (d_var (i:=0))) (d_fld (fld1 T.gC_Reader T.cls_Reader T.na_Reader_place) (d_var (i:=0)))) Uj)))
theorem Zg1:FnScope ["self"] ["self"] (defScope (inClass (top 29) 2)):=scQ
theorem ok_q8 (T:Txt K mg w):FnD P w K mg base 1 T.a_q8 T.fd_q8 ["self"] m_q8:=ZA T.F_q8 Zg1 fun cdv A outer s H E hid hr tk=>
 (dss_one (ds_raise rfl T.e_NoText hr tk (d_fld (fld1 T.gC_Reader T.cls_Reader T.na_Reader_place) (d_var (i:=0))) rfl))
theorem Za5:FnScope ["self", "word"] ["self"] (defScope (inClass (top 29) 3)):=scQ
theorem ok_q12 (T:Txt K mg w):FnD P w K mg base 2 T.a_q12 T.fd_q12 ["self"] m_q12:=ZA T.F_q12 Za5 fun cdv A outer s H E hid hr tk=>
 (dss_cons (ds_set (i:=1) Za5.nd rfl (.inl rfl) (d_methI0 T.cls_Reader T.mt_q13 (ok_q13 T) (hr.mono (by decide)) T.gC_Reader T.B_q13 tk (d_var (i:=0)))) (dss_cons (ds_if (dt_cmp Zb7 Zb2 (d_var (i:=1)) Uj (nomark _)) (dss_one (ds_expr (d_methI0 T.cls_Reader T.mt_q8 (ok_q8 T) (hr.mono (by decide)) T.gC_Reader T.B_q8 tk (d_var (i:=0))))) Zf) (dss_cons (ds_fldaug (fld1 T.gC_Reader T.cls_Reader T.na_Reader_place) (d_var (i:=0)) Zd iop_add YD) (dss_one (ds_ret (d_var (i:=1)))))))
theorem Zeb:FnScope ["self", "wanted"] ["self", "wanted"] (defScope (inClass (top 29) 4)):=scQ
theorem ok_q15 (T:Txt K mg w):FnD P w K mg base 2 T.a_q15 T.fd_q15 ["self", "wanted"] m_q15:=ZA T.F_q15 Zeb fun cdv A outer s H E hid hr tk=>
 (dss_cons (ds_if (dt_cmp (op_neD hr.units) Wi (d_methI0 T.cls_Reader T.mt_q13 (ok_q13 T) (hr.mono (by decide)) T.gC_Reader T.B_q13 tk (d_var (i:=0))) (d_var (i:=1)) (nomark _)) (dss_one (ds_expr (d_methI0 T.cls_Reader T.mt_q8 (ok_q8 T) (hr.mono (by decide)) T.gC_Reader T.B_q8 tk (d_var (i:=0))))) Zf) (dss_one (ds_fldaug (fld1 T.gC_Reader T.cls_Reader T.na_Reader_place) (d_var (i:=0)) Zd iop_add YD)))
theorem ZgX:FnScope ["self"] ["self"] (defScope (inClass (top 29) 5)):=scQ
theorem ok_q1 (T:Txt K mg w):FnD P w K mg base 3 T.a_q1 T.fd_q1 ["self"] m_q1:=ZA T.F_q1 ZgX fun cdv A outer s H E hid hr tk=>
 (dss_cons (ds_if (dt_not (dt_val (d_cq (ok_q34 T) hr T.g_q34 T.F_q34.kp T.B_q34 tk (d_acons (d_methI0 T.cls_Reader T.mt_q13 (ok_q13 T) (hr.mono (by decide)) T.gC_Reader T.B_q13 tk (d_var (i:=0))) Zb)))) (dss_one (ds_expr (d_methI0 T.cls_Reader T.mt_q8 (ok_q8 T) (hr.mono (by decide)) T.gC_Reader T.B_q8 tk (d_var (i:=0))))) Zf) (dss_one (ds_ret (d_methI0 T.cls_Reader T.mt_q12 (ok_q12 T) (hr.mono (by decide)) T.gC_Reader T.B_q12 tk (d_var (i:=0))))))
theorem Zg0:FnScope ["self", "some"] ["self", "some"] (defScope (inClass (top 29) 6)):=scQ
theorem ok_q7 (T:Txt K mg w):FnD P w K mg base 3 T.a_q7 T.fd_q7 ["self", "some"] m_q7:=ZA T.F_q7 Zg0 fun cdv A outer s H E hid hr tk=>
 (dss_cons (ds_if (dt_cmp (or_notin (room65 hr)) Wh (d_methI0 T.cls_Reader T.mt_q13 (ok_q13 T) (hr.mono (by decide)) T.gC_Reader T.B_q13 tk (d_var (i:=0))) (d_var (i:=1)) (by rfl)) (dss_one (ds_expr (d_methI0 T.cls_Reader T.mt_q8 (ok_q8 T) (hr.mono (by decide)) T.gC_Reader T.B_q8 tk (d_var (i:=0))))) Zf) (dss_one (ds_ret (d_methI0 T.cls_Reader T.mt_q12 (ok_q12 T) (hr.mono (by decide)) T.gC_Reader T.B_q12 tk (d_var (i:=0))))))
theorem Jj:FnScope ["self", "deep", "word", "number", "one", "sign", "other"] ["self", "deep"] (defScope (inClass (top 29) 7)):=scQ
theorem Zg6 (T:Txt K mg w) {L:Nat} {r:List D→M D} (hl:3≤L) (h:FnD P w K mg base L T.a_q4 T.fd_q4 ["self", "deep"] r):FnD P w K mg base (L+1) T.a_q4 T.fd_q4 ["self", "deep"] (mFn ["self", "deep", "word", "number", "one", "sign", "other"] (b_q4 r)):=ZA T.F_q4 Jj fun cdv A outer s H E hid hr tk=>
 (dss_cons (ds_set (i:=2) Jj.nd rfl (.inl rfl) (d_methI0 T.cls_Reader T.mt_q13 (ok_q13 T) (hr.mono (by omega)) T.gC_Reader T.B_q13 tk (d_var (i:=0)))) (dss_cons (ds_if (dt_cmp Zb7 Zb2 (d_var (i:=2)) Uj (nomark _)) (dss_one (ds_expr (d_methI0 T.cls_Reader T.mt_q8 (ok_q8 T) (hr.mono (by omega)) T.gC_Reader T.B_q8 tk (d_var (i:=0))))) Zf) (dss_cons (ds_if (PW.pt (dw_and (dt_cmp (op_eqD hr.units) ZP (d_var (i:=2)) Zo (nomark _)) (dw_and1 (dt_cmp WZ Zx (d_var (i:=1)) Zd (nomark _))))) (dss_cons (ds_fldaug (fld1 T.gC_Reader T.cls_Reader T.na_Reader_place) (d_var (i:=0)) Zd iop_add YD) (dss_cons (ds_set (i:=4) Jj.nd rfl (.inl rfl) (d_methI T.cls_Reader T.mt_q4 h (hr.mono (by omega)) T.gC_Reader T.B_q4 tk (d_var (i:=0)) (d_acons (d_bin op_sub Yh (d_var (i:=1)) Zd) Zb))) (dss_cons (ds_set (i:=5) Jj.nd rfl (.inl rfl) (d_methI T.cls_Reader T.mt_q7 (ok_q7 T) (hr.mono (by omega)) T.gC_Reader T.B_q7 tk (d_var (i:=0)) (d_acons (d_globT rfl T.c_SIGNS (by intro y hy; simp at hy; rcases hy with rfl | rfl | rfl <;> exact sOk_of (by decide +kernel))) Zb))) (dss_cons (ds_set (i:=6) Jj.nd rfl (.inl rfl) (d_methI T.cls_Reader T.mt_q4 h (hr.mono (by omega)) T.gC_Reader T.B_q4 tk (d_var (i:=0)) (d_acons (d_bin op_sub Yh (d_var (i:=1)) Zd) Zb))) (dss_cons (ds_expr (d_methI T.cls_Reader T.mt_q15 (ok_q15 T) (hr.mono (by omega)) T.gC_Reader T.B_q15 tk (d_var (i:=0)) (d_acons Zo Zb))) (dss_one (ds_ret (d_tup (d_acons (d_var (i:=5)) (d_acons (d_var (i:=4)) (d_acons (d_var (i:=6)) Zb))))))))))) Zf) (dss_cons (ds_if (PW.pt (dw_and (dt_cmp (or_in (room65 hr)) Wh (d_sl (d_var (i:=2)) VE (d_po Zd)) (d_tup (d_acons (d_globS rfl T.c_CELL_SIGN (sOk_of (by decide +kernel))) (d_acons (d_globS rfl T.c_PURSE_SIGN (sOk_of (by decide +kernel))) Zb))) (by rfl)) (dw_and1 (dt_val (d_cq (ok_q34 T) hr T.g_q34 T.F_q34.kp T.B_q34 tk (d_acons (d_sl (d_var (i:=2)) (d_po Zd) VE) Zb)))))) (dss_cons (ds_fldaug (fld1 T.gC_Reader T.cls_Reader T.na_Reader_place) (d_var (i:=0)) Zd iop_add YD) (dss_one (ds_ret (d_ifx (dt_cmp (op_eqD hr.units) ZP (d_sl (d_var (i:=2)) VE (d_po Zd)) (d_globS rfl T.c_CELL_SIGN (sOk_of (by decide +kernel))) (nomark _)) (d_sl (d_var (i:=2)) (d_po Zd) VE) (d_tup (d_acons Zo (d_acons (d_sl (d_var (i:=2)) (d_po Zd) VE) Zb))))))) Zf) (dss_cons (ds_set (i:=3) Jj.nd rfl (.inl rfl) (d_cq (ok_q16 T) hr T.g_q16 T.F_q16.kp T.B_q16 tk (d_acons (d_var (i:=2)) Zb))) (dss_cons (ds_if (dt_cmp Zb7 Zb2 (d_var (i:=3)) Uj (nomark _)) (dss_one (ds_expr (d_methI0 T.cls_Reader T.mt_q8 (ok_q8 T) (hr.mono (by omega)) T.gC_Reader T.B_q8 tk (d_var (i:=0))))) Zf) (dss_cons (ds_fldaug (fld1 T.gC_Reader T.cls_Reader T.na_Reader_place) (d_var (i:=0)) Zd iop_add YD) (dss_one (ds_ret (d_var (i:=3)))))))))))
theorem ok_q4 (T:Txt K mg w):∀ n:Nat,FnD P w K mg base (3+n) T.a_q4 T.fd_q4 ["self", "deep"] (m_q4 n)
 | 0=>Wf
 | n+1=>Zg6 T (L:=3+n) (by omega) (ok_q4 T n)
theorem V0:FnScope ["self", "deep", "word", "one", "sign", "other", "way", "shown"] ["self", "deep"] (defScope (inClass (top 29) 8)):=scQ
theorem Zg4 (T:Txt K mg w) {L:Nat} {r:List D→M D} (hl:11≤L) (h:FnD P w K mg base L T.a_q0 T.fd_q0 ["self", "deep"] r):FnD P w K mg base (L+1) T.a_q0 T.fd_q0 ["self", "deep"] (mFn ["self", "deep", "word", "one", "sign", "other", "way", "shown"] (b_q0 r)):=ZA T.F_q0 V0 fun cdv A outer s H E hid hr tk=>
 (dss_cons (ds_set (i:=2) V0.nd rfl (.inl rfl) (d_methI0 T.cls_Reader T.mt_q13 (ok_q13 T) (hr.mono (by omega)) T.gC_Reader T.B_q13 tk (d_var (i:=0)))) (dss_cons (ds_if (dt_cmp (or_in (room65 hr)) Wh (d_var (i:=2)) (d_tup (d_acons Zo (d_acons Zo Zb))) (by rfl)) (dss_cons (ds_fldaug (fld1 T.gC_Reader T.cls_Reader T.na_Reader_place) (d_var (i:=0)) Zd iop_add YD) (dss_one (ds_ret (d_tup (d_acons (d_var (i:=2)) (d_acons (d_methI0 T.cls_Reader T.mt_q1 (ok_q1 T) (hr.mono (by omega)) T.gC_Reader T.B_q1 tk (d_var (i:=0))) Zb)))))) Zf) (dss_cons (ds_if (dt_cmp (or_in (room65 hr)) Wh (d_var (i:=2)) (d_tup (d_acons Zo (d_acons Zo Zb))) (by rfl)) (dss_cons (ds_if (dt_cmp VT Zx (d_var (i:=1)) Zd (nomark _)) (dss_one (ds_expr (d_methI0 T.cls_Reader T.mt_q8 (ok_q8 T) (hr.mono (by omega)) T.gC_Reader T.B_q8 tk (d_var (i:=0))))) Zf) (dss_cons (ds_fldaug (fld1 T.gC_Reader T.cls_Reader T.na_Reader_place) (d_var (i:=0)) Zd iop_add YD) (dss_cons (ds_set (i:=3) V0.nd rfl (.inl rfl) (d_methI T.cls_Reader T.mt_q0 h (hr.mono (by omega)) T.gC_Reader T.B_q0 tk (d_var (i:=0)) (d_acons (d_bin op_sub Yh (d_var (i:=1)) Zd) Zb))) (dss_cons (ds_if (dt_cmp (op_eqD hr.units) ZP (d_var (i:=2)) Zo (nomark _)) (dss_one (ds_ret (d_tup (d_acons (d_var (i:=2)) (d_acons (d_var (i:=3)) Zb))))) Zf) (dss_cons (ds_expr (d_methI T.cls_Reader T.mt_q15 (ok_q15 T) (hr.mono (by omega)) T.gC_Reader T.B_q15 tk (d_var (i:=0)) (d_acons Zo Zb))) (dss_cons (ds_set (i:=5) V0.nd rfl (.inl rfl) (d_methI T.cls_Reader T.mt_q0 h (hr.mono (by omega)) T.gC_Reader T.B_q0 tk (d_var (i:=0)) (d_acons (d_bin op_sub Yh (d_var (i:=1)) Zd) Zb))) (dss_cons (ds_expr (d_methI T.cls_Reader T.mt_q15 (ok_q15 T) (hr.mono (by omega)) T.gC_Reader T.B_q15 tk (d_var (i:=0)) (d_acons Zo Zb))) (dss_one (ds_ret (d_tup (d_acons Zo (d_acons (d_var (i:=3)) (d_acons (d_var (i:=5)) Zb))))))))))))) Zf) (dss_cons (ds_set (i:=3) V0.nd rfl (.inl rfl) (d_methI T.cls_Reader T.mt_q4 (ok_q4 T 8) (hr.mono (by omega)) T.gC_Reader T.B_q4 tk (d_var (i:=0)) (d_acons (d_globI rfl T.c_MOST_SUMS) Zb))) (dss_cons (ds_set (i:=4) V0.nd rfl (by first | exact .inl rfl | exact .inr rfl) (d_methI T.cls_Reader T.mt_q7 (ok_q7 T) (hr.mono (by omega)) T.gC_Reader T.B_q7 tk (d_var (i:=0)) (d_acons (d_listC rfl T.c_COMPARED (sok1 (by decide +kernel)) rfl rfl T.n_list rfl) Zb))) (dss_one (ds_ret (d_tup (d_acons (d_iq hr (d_comp (own:=[("way",6),("shown",7)]) rfl V0.nd (di_itemsC T.c_COMPARED (sok2 (by decide +kernel)) rfl) (blkOk_by (N:=["self", "deep", "word", "one", "sign", "other", "way", "shown"]) (sc:=(defScope (inClass (top 29) 8))) (own:=[("way",6),("shown",7)]) (by decide +kernel)) (fun _ _ _ _ _=>(dg_tup rfl (dgs_cons (dg_name (i:=6) V0.nd rfl (by first | exact .inl rfl | exact .inr rfl)) (dgs_cons (dg_name (i:=7) V0.nd rfl (by first | exact .inl rfl | exact .inr rfl)) VF)))) (fun _ _ _ _ _ _=>(dts_one (dt_cmp (op_eqD hr.units) ZP (d_var (i:=7)) (d_var (i:=4)) (nomark _)))) (fun _ _ _ _ _ _=>(d_var (i:=6))) (by decide)) Zd) (d_acons (d_var (i:=3)) (d_acons (d_methI T.cls_Reader T.mt_q4 (ok_q4 T 8) (hr.mono (by omega)) T.gC_Reader T.B_q4 tk (d_var (i:=0)) (d_acons (d_globI rfl T.c_MOST_SUMS) Zb)) Zb)))))))))))
theorem ok_q0 (T:Txt K mg w):∀ n:Nat,FnD P w K mg base (11+n) T.a_q0 T.fd_q0 ["self", "deep"] (m_q0 n)
 | 0=>Wf
 | n+1=>Zg4 T (L:=11+n) (by omega) (ok_q0 T n)
theorem U9:FnScope ["self", "within", "word", "test", "first", "cell", "purse", "other"] ["self", "within"] (defScope (inClass (top 29) 9)):=scQ
theorem st_q5 (T:Txt K mg w) {L:Nat} {r:List D→M D} (hl:19≤L) (h:FnD P w K mg base L T.a_q11 T.fd_q11 ["self", "within"] r):FnD P w K mg base (L+1) T.a_q5 T.fd_q5 ["self", "within"] (mFn ["self", "within", "word", "test", "first", "cell", "purse", "other"] (b_q5 r)):=ZA T.F_q5 U9 fun cdv A outer s H E hid hr tk=>
 (dss_cons (ds_set (i:=2) U9.nd rfl (.inl rfl) (d_methI0 T.cls_Reader T.mt_q13 (ok_q13 T) (hr.mono (by omega)) T.gC_Reader T.B_q13 tk (d_var (i:=0)))) (dss_cons (ds_if (PW.pt (dw_or (dt_cmp (op_eqD hr.units) ZP (d_fld (fld1 T.gC_Reader T.cls_Reader T.na_Reader_many) (d_var (i:=0))) (d_globI rfl T.c_MOST_ROWS) (nomark _)) (dw_or (dt_cmp (or_notin (room65 hr)) Wh (d_var (i:=2)) (d_globT rfl T.c_ROW_WORDS (by intro y hy; simp at hy; rcases hy with rfl | rfl | rfl | rfl | rfl <;> exact sOk_of (by decide +kernel))) (by rfl)) (dw_or1 (PW.pt (dw_and (dt_cmp (or_in (room65 hr)) Wh (d_var (i:=2)) (d_globT rfl T.c_WITHIN_WORDS (by intro y hy; simp at hy; rcases hy with rfl | rfl <;> exact sOk_of (by decide +kernel))) (by rfl)) (dw_and1 (dt_cmp (op_eqD hr.units) ZP (d_var (i:=1)) (d_globI rfl T.c_MOST_WITHIN) (nomark _))))))))) (dss_one (ds_expr (d_methI0 T.cls_Reader T.mt_q8 (ok_q8 T) (hr.mono (by omega)) T.gC_Reader T.B_q8 tk (d_var (i:=0))))) Zf) (dss_cons (ds_fldaug (fld1 T.gC_Reader T.cls_Reader T.na_Reader_many) (d_var (i:=0)) Zd iop_add YD) (dss_cons (ds_fldaug (fld1 T.gC_Reader T.cls_Reader T.na_Reader_place) (d_var (i:=0)) Zd iop_add YD) (dss_cons (ds_if (dt_cmp (op_eqD hr.units) ZP (d_var (i:=2)) Zo (nomark _)) (dss_one (ds_ret (d_tup (d_acons (d_var (i:=2)) (d_acons (d_methI T.cls_Reader T.mt_q4 (ok_q4 T 8) (hr.mono (by omega)) T.gC_Reader T.B_q4 tk (d_var (i:=0)) (d_acons (d_globI rfl T.c_MOST_SUMS) Zb)) Zb))))) Zf) (dss_cons (ds_if (dt_cmp (op_eqD hr.units) ZP (d_var (i:=2)) Zo (nomark _)) (dss_cons (ds_set (i:=5) U9.nd rfl (.inl rfl) (d_methI0 T.cls_Reader T.mt_q1 (ok_q1 T) (hr.mono (by omega)) T.gC_Reader T.B_q1 tk (d_var (i:=0)))) (dss_one (ds_ret (d_tup (d_acons (d_var (i:=2)) (d_acons (d_var (i:=5)) (d_acons (d_methI T.cls_Reader T.mt_q4 (ok_q4 T 8) (hr.mono (by omega)) T.gC_Reader T.B_q4 tk (d_var (i:=0)) (d_acons (d_globI rfl T.c_MOST_SUMS) Zb)) Zb))))))) Zf) (dss_cons (ds_if (dt_cmp (op_eqD hr.units) ZP (d_var (i:=2)) Zo (nomark _)) (dss_cons (ds_set (i:=6) U9.nd rfl (.inl rfl) (d_methI0 T.cls_Reader T.mt_q1 (ok_q1 T) (hr.mono (by omega)) T.gC_Reader T.B_q1 tk (d_var (i:=0)))) (dss_cons (ds_set (i:=7) U9.nd rfl (.inl rfl) (d_methI0 T.cls_Reader T.mt_q1 (ok_q1 T) (hr.mono (by omega)) T.gC_Reader T.B_q1 tk (d_var (i:=0)))) (dss_one (ds_ret (d_tup (d_acons (d_var (i:=2)) (d_acons (d_var (i:=6)) (d_acons (d_var (i:=7)) (d_acons (d_methI T.cls_Reader T.mt_q4 (ok_q4 T 8) (hr.mono (by omega)) T.gC_Reader T.B_q4 tk (d_var (i:=0)) (d_acons (d_globI rfl T.c_MOST_SUMS) Zb)) Zb))))))))) Zf) (dss_cons (ds_set (i:=3) U9.nd rfl (.inl rfl) (d_methI T.cls_Reader T.mt_q0 (ok_q0 T 8) (hr.mono (by omega)) T.gC_Reader T.B_q0 tk (d_var (i:=0)) (d_acons (d_globI rfl T.c_MOST_TESTS) Zb))) (dss_cons (ds_set (i:=4) U9.nd rfl (.inl rfl) (d_methI T.cls_Reader T.mt_q11 h (hr.mono (by omega)) T.gC_Reader T.B_q11 tk (d_var (i:=0)) (d_acons (d_bin Zi Zj (d_var (i:=1)) Zd) Zb))) (dss_cons (ds_if (dt_cmp (op_eqD hr.units) ZP (d_var (i:=2)) Zo (nomark _)) (dss_one (ds_ret (d_tup (d_acons (d_var (i:=2)) (d_acons (d_var (i:=3)) (d_acons (d_var (i:=4)) Zb)))))) Zf) (dss_one (ds_ret (d_tup (d_acons (d_var (i:=2)) (d_acons (d_var (i:=3)) (d_acons (d_var (i:=4)) (d_acons (d_methI T.cls_Reader T.mt_q11 h (hr.mono (by omega)) T.gC_Reader T.B_q11 tk (d_var (i:=0)) (d_acons (d_bin Zi Zj (d_var (i:=1)) Zd) Zb)) Zb)))))))))))))))))
theorem Za4:FnScope ["self", "within", "rows"] ["self", "within"] (defScope (inClass (top 29) 10)):=scQ
theorem st_q11 (T:Txt K mg w) {L:Nat} {r:List D→M D} (hl:2≤L) (h:FnD P w K mg base L T.a_q2 T.fd_q2 ["self", "within", "closing"] r):FnD P w K mg base (L+1) T.a_q11 T.fd_q11 ["self", "within"] (mFn ["self", "within", "rows"] (b_q11 r)):=ZA T.F_q11 Za4 fun cdv A outer s H E hid hr tk=>
 (dss_cons (ds_expr (d_methI T.cls_Reader T.mt_q15 (ok_q15 T) (hr.mono (by omega)) T.gC_Reader T.B_q15 tk (d_var (i:=0)) (d_acons Zo Zb))) (dss_cons (ds_set (i:=2) Za4.nd rfl (.inl rfl) (d_methI T.cls_Reader T.mt_q2 h (hr.mono (by omega)) T.gC_Reader T.B_q2 tk (d_var (i:=0)) (d_acons (d_var (i:=1)) (d_acons Zo Zb)))) (dss_cons (ds_expr (d_methI T.cls_Reader T.mt_q15 (ok_q15 T) (hr.mono (by omega)) T.gC_Reader T.B_q15 tk (d_var (i:=0)) (d_acons Zo Zb))) (dss_one (ds_ret (d_var (i:=2)))))))
theorem Zec:FnScope ["self", "within", "closing", "found"] ["self", "within", "closing"] (defScope (inClass (top 29) 11)):=scQ
theorem Zg5 (T:Txt K mg w) {L:Nat} {r:List D→M D} (hl:2≤L) (h:FnD P w K mg base L T.a_q5 T.fd_q5 ["self", "within"] r):FnD P w K mg base (L+1) T.a_q2 T.fd_q2 ["self", "within", "closing"] (mFn ["self", "within", "closing", "found"] (b_q2 r)):=ZA T.F_q2 Zec fun cdv A outer s H E hid hr tk=>
 (dss_cons (ds_set (i:=3) Zec.nd rfl (.inl rfl) (d_lstC Zb)) (dss_cons (ds_while 1000 (passes_of rfl) (dt_cmp (op_neD hr.units) Wi (d_methI0 T.cls_Reader T.mt_q13 (ok_q13 T) (hr.mono (by omega)) T.gC_Reader T.B_q13 tk (d_var (i:=0))) (d_var (i:=2)) (nomark _)) (dss_cons (ds_if (dt_cmp (op_ne0 hr.units) ZdV (d_var (i:=3)) (d_lst Zb) (nomark _)) (dss_cons (ds_if (dt_cmp (op_eqD hr.units) ZP (d_fld (fld1 T.gC_Reader T.cls_Reader T.na_Reader_many) (d_var (i:=0))) (d_globI rfl T.c_MOST_ROWS) (nomark _)) (dss_one (ds_expr (d_methI0 T.cls_Reader T.mt_q8 (ok_q8 T) (hr.mono (by omega)) T.gC_Reader T.B_q8 tk (d_var (i:=0))))) Zf) (dss_one (ds_expr (d_methI T.cls_Reader T.mt_q15 (ok_q15 T) (hr.mono (by omega)) T.gC_Reader T.B_q15 tk (d_var (i:=0)) (d_acons Zo Zb))))) Zf) (dss_one (ds_expr (d_meth PySem.F.plainAttrs_list PySem.F.slot_list_append PySem.F.type_list_append mt_append YO (.inr (.inl rfl)) (d_var (i:=3)) (d_acons (d_methI T.cls_Reader T.mt_q5 h (hr.mono (by omega)) T.gC_Reader T.B_q5 tk (d_var (i:=0)) (d_acons (d_var (i:=1)) Zb)) Zb)))))) (dss_one (ds_ret (d_callTy Yz Wn rfl T.n_tuple Wm (d_acons (d_var (i:=3)) Zb))))))
theorem ok_q2 (T:Txt K mg w):∀ n:Nat,FnD P w K mg base (19+3 * n) T.a_q2 T.fd_q2 ["self", "within", "closing"] (m_q2 n)
 | 0=>Wf
 | n+1=>Zg5 T (L:=19+3 * n+2) (by omega) (st_q5 T (L:=19+3 * n+1) (by omega) (st_q11 T (L:=19+3 * n+0) (by omega) (ok_q2 T n)))
theorem Zed:FnScope ["words"] ["words"] (defScope (top 30)):=scQ
theorem ok_q20 (T:Txt K mg w):FnD P w K mg base 44 T.a_q20 T.fd_q20 ["words"] m_q20:=ZA T.F_q20 Zed fun cdv A outer s H E hid hr tk=>
 (dss_one (ds_ret (d_methI T.cls_Reader T.mt_q2 (ok_q2 T 8) (hr.mono (by decide)) T.gC_Reader T.B_q2 tk (d_make T.mk_Reader (ok_q3 T) (hr.mono (by decide)) rfl T.gC_Reader T.B_q3 tk (d_acons (d_var (i:=0)) Zb)) (d_acons Zd (d_acons Uj Zb)))))
theorem Zee:FnScope ["text"] ["text"] (defScope (top 31)):=scQ
theorem ok_q21 (T:Txt K mg w):FnD P w K mg base 45 T.a_q21 T.fd_q21 ["text"] m_q21:=ZA T.F_q21 Zee fun cdv A outer s H E hid hr tk=>
 (dss_cons (ds_if (dt_not (dt_val (d_callB call_isi XX rfl T.n_isinstance Zt (d_acons (d_var (i:=0)) (d_acons (d_ty rfl T.n_str WG) Zb))))) (dss_one (ds_raise rfl T.e_NoText hr tk Zd rfl)) Zf) (dss_one (ds_ret (d_cq (ok_q20 T) hr T.g_q20 T.F_q20.kp T.B_q20 tk (d_acons (d_cq (ok_q28 T) hr T.g_q28 T.F_q28.kp T.B_q28 tk (d_acons (d_var (i:=0)) Zb)) Zb)))))
theorem Vu:FnScope ["_law_script", "_law_at", "_law_great", "_law_mixed", "_law_cell", "_law_primes"] ["_law_script", "_law_at"] (defScope (top 33)):=scQ
theorem ok_q35 (T:Txt K mg w):FnD P w K mg base 1 T.a_q35 T.fd_q35 ["_law_script", "_law_at"] m_q35:=ZA T.F_q35 Vu fun cdv A outer s H E hid hr tk=>
 (dss_cons (ds_asg (d_tup (d_acons Zd (d_acons (d_tup (d_acons Zd (d_acons Zd (d_acons Zd (d_acons Zd (d_acons Zd (d_acons Zd (d_acons Zd (d_acons Zd Zb))))))))) Zb))) (dg_tup rfl (dgs_cons (dg_name (i:=4) Vu.nd rfl (.inl rfl)) (dgs_cons (dg_name (i:=5) Vu.nd rfl (.inl rfl)) VF)))) (dss_cons (ds_if (dt_cmp VT Zx (d_var (i:=1)) (d_callB YB YA rfl T.n_len Xb (d_acons (d_var (i:=0)) Zb)) (nomark _)) (dss_one (ds_set (i:=4) Vu.nd rfl (.inl rfl) (d_iq hr (d_var (i:=0)) (d_var (i:=1))))) Zf) (dss_cons (ds_set (i:=2) Vu.nd rfl (.inl rfl) (d_ifx (dt_cmp ZgR Zx (d_callB call_abs Zar rfl T.n_abs Zaq (d_acons (d_var (i:=4)) Zb)) (d_bin op_pow Xl Zd Zd) (nomark _)) (d_callB call_abs Zar rfl T.n_abs Zaq (d_acons (d_var (i:=4)) Zb)) Zd)) (dss_cons (ds_set (i:=3) Vu.nd rfl (.inl rfl) (d_bin op_mod Xk (d_bin op_pow Xl (d_bin Zi Zj (d_bin Zi Zj (d_bin op_mod Xk (d_var (i:=4)) Zd) (d_bin UG UF Zd (d_var (i:=1)))) Zd) Zd) (d_iq hr (d_var (i:=5)) (d_bin op_mod Xk (d_var (i:=1)) Zd)))) (dss_one (ds_ret (d_lstC (d_acons (d_var (i:=2)) (d_acons (d_bin op_mod Xk (d_bin op_pow Xl (d_bin Zi Zj (d_bin Zi Zj (d_bin UG UF (d_var (i:=3)) Zd) (d_bin UG UF Zd (d_var (i:=1)))) Zd) Zd) Zd) Zb)))))))))
theorem Za7:FnScope ["_law_bag_here", "_law_many", "_law_digit"] ["_law_bag_here", "_law_many"] (defScope (top 34)):=scQ
theorem ok_q31 (T:Txt K mg w):FnD P w K mg base 1 T.a_q31 T.fd_q31 ["_law_bag_here", "_law_many"] m_q31:=ZA T.F_q31 Za7 fun cdv A outer s H E hid hr tk=>
 (dss_cons (ds_if (dt_cmp WZ Zx (d_iq hr (d_var (i:=0)) Zd) Zd (nomark _)) (dss_cons (ds_set (i:=2) Za7.nd rfl (.inl rfl) (d_bin op_mod Xk (d_iq hr (d_var (i:=0)) Zd) (d_var (i:=1)))) (dss_cons (ds_put (ps_asg (d_bin op_fdiv Kc (d_iq hr (d_var (i:=0)) Zd) (d_var (i:=1))) (pg_sub (d_var (i:=0)) Zd set_list (by intro _; rfl)) (by rfl) (by rfl) (by rfl))) (dss_one (ds_ret (d_var (i:=2)))))) Zf) (dss_cons (ds_put (ps_asg (d_bin op_mod Xk (d_bin Zi Zj (d_bin UG UF (d_iq hr (d_var (i:=0)) Zd) Zd) Zd) Zd) (pg_sub (d_var (i:=0)) Zd set_list (by intro _; rfl)) (by rfl) (by rfl) (by rfl))) (dss_one (ds_ret (d_bin op_mod Xk (d_bin op_mod Xk (d_bin op_pow Xl (d_bin op_fdiv Kc (d_iq hr (d_var (i:=0)) Zd) Zd) Zd) Zd) (d_var (i:=1)))))))
theorem YH:FnScope ["_law_bag_here", "_law_many", "_law_letters", "_law_stem", "_law_some", "_law_spot", "_law_first", "_law_pace", "_law_k", "_law_letter"] ["_law_bag_here", "_law_many"] (defScope (top 35)):=scQ
theorem ok_q26 (T:Txt K mg w):FnD P w K mg base 2 T.a_q26 T.fd_q26 ["_law_bag_here", "_law_many"] m_q26:=ZA T.F_q26 YH fun cdv A outer s H E hid hr tk=>
 (dss_cons (ds_set (i:=2) YH.nd rfl (by first | exact .inl rfl | exact .inr rfl) Zo) (dss_cons (ds_set (i:=3) YH.nd rfl (by first | exact .inl rfl | exact .inr rfl) (d_meth PySem.F.plainAttrs_str PySem.F.slot_str_join PySem.F.type_str_join mt_join U5 (.inl rfl) Zo (d_acons (d_comp (own:=[("_law_k",8)]) rfl YH.nd (di_rng1 rfl T.n_range (d_acons (d_iq hr (d_lst (d_acons Zd (d_acons Zd (d_acons Zd (d_acons Zd (d_acons Zd Zb)))))) (d_cq (ok_q31 T) hr T.g_q31 T.F_q31.kp T.B_q31 tk (d_acons (d_var (i:=0)) (d_acons Zd Zb)))) Zb)) (blkOk_by (N:=["_law_bag_here", "_law_many", "_law_letters", "_law_stem", "_law_some", "_law_spot", "_law_first", "_law_pace", "_law_k", "_law_letter"]) (sc:=(defScope (top 35))) (own:=[("_law_k",8)]) (by decide +kernel)) (fun _ _ _ _ _=>(dg_name (i:=8) YH.nd rfl (by first | exact .inl rfl | exact .inr rfl))) (fun _ _ _ _ _ _=>Yj) (fun _ _ _ _ _ _=>(d_iq hr (d_var (i:=2)) (d_cq (ok_q31 T) hr T.g_q31 T.F_q31.kp T.B_q31 Wc (d_acons (d_var (i:=0)) (d_acons Zd Zb))))) (by decide)) Zb))) (dss_cons (ds_asg (d_tup (d_acons (d_cq (ok_q31 T) hr T.g_q31 T.F_q31.kp T.B_q31 tk (d_acons (d_var (i:=0)) (d_acons (d_bin Zi Zj (d_callB YB YA rfl T.n_len Xb (d_acons (d_var (i:=3)) Zb)) Zd) Zb))) (d_acons (d_cq (ok_q31 T) hr T.g_q31 T.F_q31.kp T.B_q31 tk (d_acons (d_var (i:=0)) (d_acons Zd Zb))) (d_acons (d_iq hr (d_lst (d_acons Zd (d_acons Zd (d_acons Zd (d_acons Zd Zb))))) (d_cq (ok_q31 T) hr T.g_q31 T.F_q31.kp T.B_q31 tk (d_acons (d_var (i:=0)) (d_acons Zd Zb)))) Zb)))) (dg_tup rfl (dgs_cons (dg_name (i:=5) YH.nd rfl (by first | exact .inl rfl | exact .inr rfl)) (dgs_cons (dg_name (i:=6) YH.nd rfl (by first | exact .inl rfl | exact .inr rfl)) (dgs_cons (dg_name (i:=7) YH.nd rfl (by first | exact .inl rfl | exact .inr rfl)) VF))))) (dss_cons (ds_setLc (i:=4) (own:=[("_law_k",8)]) rfl YH.nd rfl rfl (sw_true rfl rfl rfl (by decide +kernel)) (di_rng1 rfl T.n_range (d_acons (d_var (i:=1)) Zb)) (blkOk_by (N:=["_law_bag_here", "_law_many", "_law_letters", "_law_stem", "_law_some", "_law_spot", "_law_first", "_law_pace", "_law_k", "_law_letter"]) (sc:=(defScope (top 35))) (own:=[("_law_k",8)]) (by decide +kernel)) (fun _ _ _ _ _=>(dg_name (i:=8) YH.nd rfl (by first | exact .inl rfl | exact .inr rfl))) (fun _ _ _ _ _ _=>Yj) (fun _ _ _ _ _ _=>(d_iq hr (d_var (i:=2)) (d_bin op_mod Xk (d_bin Zi Zj (d_var (i:=6)) (d_bin UG UF (d_var (i:=7)) (d_var (i:=8)))) Zd))) (by decide)) (dss_one (ds_ret (d_callTy Yz Wn rfl T.n_tuple Wm (d_acons (d_comp (own:=[("_law_letter",9)]) rfl YH.nd (di_lst (d_var (i:=4))) (blkOk_by (N:=["_law_bag_here", "_law_many", "_law_letters", "_law_stem", "_law_some", "_law_spot", "_law_first", "_law_pace", "_law_k", "_law_letter"]) (sc:=(defScope (top 35))) (own:=[("_law_letter",9)]) (by decide +kernel)) (fun _ _ _ _ _=>(dg_name (i:=9) YH.nd rfl (by first | exact .inl rfl | exact .inr rfl))) (fun _ _ _ _ _ _=>Yj) (fun _ _ _ _ _ _=>(d_bin Zi Zj (d_bin Zi Zj (d_sl (d_var (i:=3)) VE (d_po (d_var (i:=5)))) (d_var (i:=9))) (d_sl (d_var (i:=3)) (d_po (d_var (i:=5))) VE))) (by decide)) Zb))))))))
theorem Wb:FnScope ["_law_bag_here", "_law_most", "_law_labels", "_law_pence", "_law_names_here", "_law_cells", "_law_label", "_law_much"] ["_law_bag_here", "_law_most"] (defScope (top 36)):=scQ
theorem ok_q37 (T:Txt K mg w):FnD P w K mg base 3 T.a_q37 T.fd_q37 ["_law_bag_here", "_law_most"] m_q37:=ZA T.F_q37 Wb fun cdv A outer s H E hid hr tk=>
 (dss_cons (ds_par2 (ps_par (i:=4) (j:=5) rfl Wb.nd rfl rfl (by decide) rfl rfl (d_acons (d_cq (ok_q26 T) hr T.g_q26 T.F_q26.kp T.B_q26 tk (d_acons (d_var (i:=0)) (d_acons (d_cq (ok_q31 T) hr T.g_q31 T.F_q31.kp T.B_q31 tk (d_acons (d_var (i:=0)) (d_acons (d_bin Zi Zj (d_var (i:=1)) Zd) Zb))) Zb))) (d_acons (d_cq (ok_q26 T) hr T.g_q26 T.F_q26.kp T.B_q26 tk (d_acons (d_var (i:=0)) (d_acons Zd Zb))) Zb)) (by rfl))) (dss_cons (ds_set (i:=2) Wb.nd rfl (by first | exact .inl rfl | exact .inr rfl) (d_cq (ok_q26 T) hr T.g_q26 T.F_q26.kp T.B_q26 tk (d_acons (d_var (i:=0)) (d_acons (d_cq (ok_q31 T) hr T.g_q31 T.F_q31.kp T.B_q31 tk (d_acons (d_var (i:=0)) (d_acons Zd Zb))) Zb)))) (dss_cons (ds_setLc (i:=3) (own:=[("_law_label",6)]) rfl Wb.nd rfl rfl (sw_true rfl rfl rfl (by decide +kernel)) (di_tup (d_var (i:=2))) (blkOk_by (N:=["_law_bag_here", "_law_most", "_law_labels", "_law_pence", "_law_names_here", "_law_cells", "_law_label", "_law_much"]) (sc:=(defScope (top 36))) (own:=[("_law_label",6)]) (by decide +kernel)) (fun _ _ _ _ _=>(dg_name (i:=6) Wb.nd rfl (by first | exact .inl rfl | exact .inr rfl))) (fun _ _ _ _ _ _=>Yj) (fun _ _ _ _ _ _=>(d_iq hr (d_lst (d_acons (d_cq (ok_q31 T) hr T.g_q31 T.F_q31.kp T.B_q31 Wc (d_acons (d_var (i:=0)) (d_acons Zd Zb))) (d_acons (d_cq (ok_q31 T) hr T.g_q31 T.F_q31.kp T.B_q31 Wc (d_acons (d_var (i:=0)) (d_acons Zd Zb))) (d_acons Zd (d_acons (d_bin op_pow Xl Zd Zd) Zb))))) (d_cq (ok_q31 T) hr T.g_q31 T.F_q31.kp T.B_q31 Wc (d_acons (d_var (i:=0)) (d_acons Zd Zb))))) (by decide)) (dss_one (ds_ret (d_tup (d_acons (d_var (i:=4)) (d_acons (d_var (i:=5)) (d_acons (d_callTy Yz Wn rfl T.n_tuple Wm (d_acons (d_comp (own:=[("_law_label",6),("_law_much",7)]) rfl Wb.nd (di_zipM rfl T.n_zip (d_acons (d_var (i:=2)) (d_acons (d_var (i:=3)) Zb))) (blkOk_by (N:=["_law_bag_here", "_law_most", "_law_labels", "_law_pence", "_law_names_here", "_law_cells", "_law_label", "_law_much"]) (sc:=(defScope (top 36))) (own:=[("_law_label",6),("_law_much",7)]) (by decide +kernel)) (fun _ _ _ _ _=>(dg_tup rfl (dgs_cons (dg_name (i:=6) Wb.nd rfl (by first | exact .inl rfl | exact .inr rfl)) (dgs_cons (dg_name (i:=7) Wb.nd rfl (by first | exact .inl rfl | exact .inr rfl)) VF)))) (fun _ _ _ _ _ _=>Yj) (fun _ _ _ _ _ _=>(d_tup (d_acons (d_var (i:=6)) (d_acons (d_var (i:=7)) Zb)))) (by decide)) Zb)) Zb)))))))))
theorem Kr:FnScope ["_law_bag_here", "_law_kit_here", "_law_deep", "_law_pick", "_law_small"] ["_law_bag_here", "_law_kit_here", "_law_deep"] (defScope (top 37)):=scQ
theorem Zep (T:Txt K mg w) {L:Nat} {r:List D→M D} (hl:1≤L) (h:FnD P w K mg base L T.a_q33 T.fd_q33 ["_law_bag_here", "_law_kit_here", "_law_deep"] r):FnD P w K mg base (L+1) T.a_q33 T.fd_q33 ["_law_bag_here", "_law_kit_here", "_law_deep"] (mFn ["_law_bag_here", "_law_kit_here", "_law_deep", "_law_pick", "_law_small"] (b_q33 r)):=ZA T.F_q33 Kr fun cdv A outer s H E hid hr tk=>
 (dss_cons (ds_set (i:=3) Kr.nd rfl (.inl rfl) (d_cq (ok_q31 T) hr T.g_q31 T.F_q31.kp T.B_q31 tk (d_acons (d_var (i:=0)) (d_acons Zd Zb)))) (dss_cons (ds_if (PW.pt (dw_and (dt_cmp WZ Zx (d_var (i:=3)) Zd (nomark _)) (dw_and1 (dt_cmp WZ Zx (d_var (i:=2)) Zd (nomark _))))) (dss_one (ds_ret (d_tup (d_acons (d_iq hr (d_lst (d_acons Zo (d_acons Zo (d_acons Zo Zb)))) (d_cq (ok_q31 T) hr T.g_q31 T.F_q31.kp T.B_q31 tk (d_acons (d_var (i:=0)) (d_acons Zd Zb)))) (d_acons (d_cq h hr T.g_q33 T.F_q33.kp T.B_q33 tk (d_acons (d_var (i:=0)) (d_acons (d_var (i:=1)) (d_acons (d_bin op_sub Yh (d_var (i:=2)) Zd) Zb)))) (d_acons (d_cq h hr T.g_q33 T.F_q33.kp T.B_q33 tk (d_acons (d_var (i:=0)) (d_acons (d_var (i:=1)) (d_acons (d_bin op_sub Yh (d_var (i:=2)) Zd) Zb)))) Zb)))))) Zf) (dss_cons (ds_if (PW.pt (dw_and (dt_cmp WZ Zx (d_var (i:=3)) Zd (nomark _)) (dw_and1 (dt_cmp (op_neD hr.units) Wi (d_iq hr (d_var (i:=1)) Zd) (d_tup Zb) (nomark _))))) (dss_one (ds_ret (d_tup (d_acons Zo (d_acons (d_iq hr (d_iq hr (d_iq hr (d_var (i:=1)) Zd) (d_cq (ok_q31 T) hr T.g_q31 T.F_q31.kp T.B_q31 tk (d_acons (d_var (i:=0)) (d_acons (d_callB YB YA rfl T.n_len Xb (d_acons (d_iq hr (d_var (i:=1)) Zd) Zb)) Zb)))) Zd) Zb))))) Zf) (dss_cons (ds_if (dt_cmp WZ Zx (d_var (i:=3)) Zd (nomark _)) (dss_one (ds_ret (d_iq hr (d_iq hr (d_var (i:=1)) Zd) (d_cq (ok_q31 T) hr T.g_q31 T.F_q31.kp T.B_q31 tk (d_acons (d_var (i:=0)) (d_acons Zd Zb)))))) Zf) (dss_cons (ds_set (i:=4) Kr.nd rfl (.inl rfl) (d_bin op_sub Yh (d_cq (ok_q31 T) hr T.g_q31 T.F_q31.kp T.B_q31 tk (d_acons (d_var (i:=0)) (d_acons Zd Zb))) Zd)) (dss_one (ds_ret (d_iq hr (d_lst (d_acons (d_var (i:=4)) (d_acons (d_var (i:=4)) (d_acons (d_var (i:=4)) (d_acons (d_bin op_sub Yh (d_cq (ok_q31 T) hr T.g_q31 T.F_q31.kp T.B_q31 tk (d_acons (d_var (i:=0)) (d_acons Zd Zb))) Zd) (d_acons (d_bin op_pow Xl Zd Zd) (d_acons (d_un un_neg Wd (d_bin op_pow Xl Zd Zd)) Zb))))))) (d_cq (ok_q31 T) hr T.g_q31 T.F_q31.kp T.B_q31 tk (d_acons (d_var (i:=0)) (d_acons Zd Zb)))))))))))
theorem ok_q33 (T:Txt K mg w):∀ n:Nat,FnD P w K mg base (1+n) T.a_q33 T.fd_q33 ["_law_bag_here", "_law_kit_here", "_law_deep"] (m_q33 n)
 | 0=>Wf
 | n+1=>Zep T (L:=1+n) (by omega) (ok_q33 T n)
theorem Za6:FnScope ["_law_bag_here", "_law_kit_here", "_law_deep", "_law_pick"] ["_law_bag_here", "_law_kit_here", "_law_deep"] (defScope (top 38)):=scQ
theorem Zen (T:Txt K mg w) {L:Nat} {r:List D→M D} (hl:9≤L) (h:FnD P w K mg base L T.a_q27 T.fd_q27 ["_law_bag_here", "_law_kit_here", "_law_deep"] r):FnD P w K mg base (L+1) T.a_q27 T.fd_q27 ["_law_bag_here", "_law_kit_here", "_law_deep"] (mFn ["_law_bag_here", "_law_kit_here", "_law_deep", "_law_pick"] (b_q27 r)):=ZA T.F_q27 Za6 fun cdv A outer s H E hid hr tk=>
 (dss_cons (ds_set (i:=3) Za6.nd rfl (.inl rfl) (d_cq (ok_q31 T) hr T.g_q31 T.F_q31.kp T.B_q31 tk (d_acons (d_var (i:=0)) (d_acons Zd Zb)))) (dss_cons (ds_if (PW.pt (dw_and (dt_cmp WZ Zx (d_var (i:=3)) Zd (nomark _)) (dw_and1 (dt_cmp WZ Zx (d_var (i:=2)) Zd (nomark _))))) (dss_cons (ds_if (dt_cmp (op_eqD hr.units) ZP (d_var (i:=3)) Zd (nomark _)) (dss_one (ds_ret (d_tup (d_acons Zo (d_acons (d_cq h hr T.g_q27 T.F_q27.kp T.B_q27 tk (d_acons (d_var (i:=0)) (d_acons (d_var (i:=1)) (d_acons (d_bin op_sub Yh (d_var (i:=2)) Zd) Zb)))) Zb))))) Zf) (dss_one (ds_ret (d_tup (d_acons Zo (d_acons (d_cq h hr T.g_q27 T.F_q27.kp T.B_q27 tk (d_acons (d_var (i:=0)) (d_acons (d_var (i:=1)) (d_acons (d_bin op_sub Yh (d_var (i:=2)) Zd) Zb)))) (d_acons (d_cq h hr T.g_q27 T.F_q27.kp T.B_q27 tk (d_acons (d_var (i:=0)) (d_acons (d_var (i:=1)) (d_acons (d_bin op_sub Yh (d_var (i:=2)) Zd) Zb)))) Zb))))))) Zf) (dss_cons (ds_if (PW.pt (dw_and (dt_cmp VT Zx (d_var (i:=3)) Zd (nomark _)) (dw_and1 (dt_cmp (op_neD hr.units) Wi (d_iq hr (d_var (i:=1)) Zd) (d_tup Zb) (nomark _))))) (dss_one (ds_ret (d_tup (d_acons Zo (d_acons (d_iq hr (d_iq hr (d_var (i:=1)) Zd) (d_cq (ok_q31 T) hr T.g_q31 T.F_q31.kp T.B_q31 tk (d_acons (d_var (i:=0)) (d_acons (d_callB YB YA rfl T.n_len Xb (d_acons (d_iq hr (d_var (i:=1)) Zd) Zb)) Zb)))) Zb))))) Zf) (dss_cons (ds_if (dt_cmp (op_eqD hr.units) ZP (d_var (i:=3)) Zd (nomark _)) (dss_one (ds_ret (d_tup (d_acons Zo (d_acons (d_iq hr (d_iq hr (d_var (i:=1)) Zd) (d_cq (ok_q31 T) hr T.g_q31 T.F_q31.kp T.B_q31 tk (d_acons (d_var (i:=0)) (d_acons Zd Zb)))) Zb))))) Zf) (dss_one (ds_ret (d_tup (d_acons (d_iq hr (d_lst (d_acons Zo (d_acons Zo Zb))) (d_cq (ok_q31 T) hr T.g_q31 T.F_q31.kp T.B_q31 tk (d_acons (d_var (i:=0)) (d_acons Zd Zb)))) (d_acons (d_cq (ok_q33 T 8) hr T.g_q33 T.F_q33.kp T.B_q33 tk (d_acons (d_var (i:=0)) (d_acons (d_var (i:=1)) (d_acons Zd Zb)))) (d_acons (d_cq (ok_q33 T 8) hr T.g_q33 T.F_q33.kp T.B_q33 tk (d_acons (d_var (i:=0)) (d_acons (d_var (i:=1)) (d_acons Zd Zb)))) Zb))))))))))
theorem ok_q27 (T:Txt K mg w):∀ n:Nat,FnD P w K mg base (9+n) T.a_q27 T.fd_q27 ["_law_bag_here", "_law_kit_here", "_law_deep"] (m_q27 n)
 | 0=>Wf
 | n+1=>Zen T (L:=9+n) (by omega) (ok_q27 T n)
theorem Xr:FnScope ["_law_bag_here", "_law_kit_here", "_law_left", "_law_inside", "_law_pick", "_law_test_here", "_law_rows_here", "_law_cell", "_law_labels", "_law_turn"] ["_law_bag_here", "_law_kit_here", "_law_left", "_law_inside"] (defScope (top 39)):=scQ
theorem st_q36 (T:Txt K mg w) {L:Nat} {r:List D→M D} (hl:17≤L) (h:FnD P w K mg base L T.a_q29 T.fd_q29 ["_law_bag_here", "_law_kit_here", "_law_left", "_law_inside"] r):FnD P w K mg base (L+1) T.a_q36 T.fd_q36 ["_law_bag_here", "_law_kit_here", "_law_left", "_law_inside"] (mFn ["_law_bag_here", "_law_kit_here", "_law_left", "_law_inside", "_law_pick", "_law_test_here", "_law_rows_here", "_law_cell", "_law_labels", "_law_turn"] (b_q36 r)):=ZA T.F_q36 Xr fun cdv A outer s H E hid hr tk=>
 (dss_cons (ds_put (ps_asg (d_bin op_sub Yh (d_iq hr (d_var (i:=2)) Zd) Zd) (pg_sub (d_var (i:=2)) Zd set_list (by intro _; rfl)) (by rfl) (by rfl) (by rfl))) (dss_cons (ds_set (i:=4) Xr.nd rfl (.inl rfl) (d_cq (ok_q31 T) hr T.g_q31 T.F_q31.kp T.B_q31 tk (d_acons (d_var (i:=0)) (d_acons Zd Zb)))) (dss_cons (ds_if (PW.pt (dw_and (dt_cmp VT Zx (d_var (i:=4)) Zd (nomark _)) (dw_and1 (dt_cmp VT Zx (d_var (i:=3)) Zd (nomark _))))) (dss_cons (ds_set (i:=5) Xr.nd rfl (.inl rfl) (d_cq (ok_q27 T 8) hr T.g_q27 T.F_q27.kp T.B_q27 tk (d_acons (d_var (i:=0)) (d_acons (d_var (i:=1)) (d_acons Zd Zb))))) (dss_one (ds_ret (d_tup (d_acons Zo (d_acons (d_var (i:=5)) (d_acons (d_cq h hr T.g_q29 T.F_q29.kp T.B_q29 tk (d_acons (d_var (i:=0)) (d_acons (d_var (i:=1)) (d_acons (d_var (i:=2)) (d_acons (d_bin Zi Zj (d_var (i:=3)) Zd) Zb))))) (d_acons (d_cq h hr T.g_q29 T.F_q29.kp T.B_q29 tk (d_acons (d_var (i:=0)) (d_acons (d_var (i:=1)) (d_acons (d_var (i:=2)) (d_acons (d_bin Zi Zj (d_var (i:=3)) Zd) Zb))))) Zb)))))))) Zf) (dss_cons (ds_if (PW.pt (dw_and (dt_cmp (op_eqD hr.units) ZP (d_var (i:=4)) Zd (nomark _)) (dw_and (dt_cmp VT Zx (d_var (i:=3)) Zd (nomark _)) (dw_and1 (dt_cmp WZ Zx (d_iq hr (d_var (i:=2)) Zd) Zd (nomark _)))))) (dss_cons (ds_put (ps_asg (d_bin op_sub Yh (d_iq hr (d_var (i:=2)) Zd) Zd) (pg_sub (d_var (i:=2)) Zd set_list (by intro _; rfl)) (by rfl) (by rfl) (by rfl))) (dss_cons (ds_set (i:=6) Xr.nd rfl (.inl rfl) (d_cq h hr T.g_q29 T.F_q29.kp T.B_q29 tk (d_acons (d_var (i:=0)) (d_acons (d_var (i:=1)) (d_acons (d_var (i:=2)) (d_acons (d_bin Zi Zj (d_var (i:=3)) Zd) Zb)))))) (dss_cons (ds_if (dt_cmp (op_eqD hr.units) ZP (d_cq (ok_q31 T) hr T.g_q31 T.F_q31.kp T.B_q31 tk (d_acons (d_var (i:=0)) (d_acons Zd Zb))) Zd (nomark _)) (dss_one (ds_ret (d_tup (d_acons Zo (d_acons (d_cq (ok_q27 T 8) hr T.g_q27 T.F_q27.kp T.B_q27 tk (d_acons (d_var (i:=0)) (d_acons (d_var (i:=1)) (d_acons Zd Zb)))) (d_acons (d_var (i:=6)) Zb)))))) Zf) (dss_cons (ds_set (i:=7) Xr.nd rfl (.inl rfl) (d_iq hr (d_iq hr (d_var (i:=1)) Zd) (d_cq (ok_q31 T) hr T.g_q31 T.F_q31.kp T.B_q31 tk (d_acons (d_var (i:=0)) (d_acons Zd Zb))))) (dss_cons (ds_set (i:=5) Xr.nd rfl (.inl rfl) (d_tup (d_acons Zo (d_acons (d_cq (ok_q31 T) hr T.g_q31 T.F_q31.kp T.B_q31 tk (d_acons (d_var (i:=0)) (d_acons Zd Zb))) (d_acons (d_var (i:=7)) Zb))))) (dss_cons (ds_if (dt_cmp (op_eqD hr.units) ZP (d_cq (ok_q31 T) hr T.g_q31 T.F_q31.kp T.B_q31 tk (d_acons (d_var (i:=0)) (d_acons Zd Zb))) Zd (nomark _)) (dss_one (ds_set (i:=5) Xr.nd rfl (.inl rfl) (d_tup (d_acons Zo (d_acons (d_cq (ok_q27 T 8) hr T.g_q27 T.F_q27.kp T.B_q27 tk (d_acons (d_var (i:=0)) (d_acons (d_var (i:=1)) (d_acons Zd Zb)))) (d_acons (d_var (i:=5)) Zb)))))) Zf) (dss_one (ds_ret (d_tup (d_acons Zo (d_acons (d_var (i:=5)) (d_acons (d_bin Zi Zj (d_var (i:=6)) (d_tup (d_acons (d_tup (d_acons Zo (d_acons (d_var (i:=7)) (d_acons (d_tup (d_acons Zo (d_acons (d_var (i:=7)) (d_acons Zd Zb)))) Zb)))) Zb))) Zb)))))))))))) Zf) (dss_cons (ds_if (dt_cmp VT Zx (d_var (i:=4)) Zd (nomark _)) (dss_one (ds_ret (d_tup (d_acons Zo (d_acons (d_iq hr (d_iq hr (d_var (i:=1)) Zd) (d_cq (ok_q31 T) hr T.g_q31 T.F_q31.kp T.B_q31 tk (d_acons (d_var (i:=0)) (d_acons Zd Zb)))) (d_acons (d_cq (ok_q33 T 8) hr T.g_q33 T.F_q33.kp T.B_q33 tk (d_acons (d_var (i:=0)) (d_acons (d_var (i:=1)) (d_acons Zd Zb)))) Zb)))))) Zf) (dss_cons (ds_if (PW.pt (dw_and (dt_cmp VT Zx (d_var (i:=4)) Zd (nomark _)) (dw_and1 (dt_cmp (op_neD hr.units) Wi (d_iq hr (d_var (i:=1)) Zd) (d_tup Zb) (nomark _))))) (dss_cons (ds_setLc (i:=8) (own:=[("_law_turn",9)]) rfl Xr.nd rfl rfl (sw_true rfl rfl rfl (by decide +kernel)) (di_rng1 rfl T.n_range (d_acons Zd Zb)) (blkOk_by (N:=["_law_bag_here", "_law_kit_here", "_law_left", "_law_inside", "_law_pick", "_law_test_here", "_law_rows_here", "_law_cell", "_law_labels", "_law_turn"]) (sc:=(defScope (top 39))) (own:=[("_law_turn",9)]) (by decide +kernel)) (fun _ _ _ _ _=>(dg_name (i:=9) Xr.nd rfl (by first | exact .inl rfl | exact .inr rfl))) (fun _ _ _ _ _ _=>Yj) (fun _ _ _ _ _ _=>(d_iq hr (d_iq hr (d_iq hr (d_var (i:=1)) Zd) (d_cq (ok_q31 T) hr T.g_q31 T.F_q31.kp T.B_q31 Wc (d_acons (d_var (i:=0)) (d_acons (d_callB YB YA rfl T.n_len Xb (d_acons (d_iq hr (d_var (i:=1)) Zd) Zb)) Zb)))) Zd)) (by decide)) (dss_one (ds_ret (d_tup (d_acons Zo (d_acons (d_iq hr (d_var (i:=8)) Zd) (d_acons (d_iq hr (d_var (i:=8)) Zd) (d_acons (d_cq (ok_q33 T 8) hr T.g_q33 T.F_q33.kp T.B_q33 tk (d_acons (d_var (i:=0)) (d_acons (d_var (i:=1)) (d_acons Zd Zb)))) Zb)))))))) Zf) (dss_one (ds_ret (d_tup (d_acons Zo (d_acons (d_cq (ok_q33 T 8) hr T.g_q33 T.F_q33.kp T.B_q33 tk (d_acons (d_var (i:=0)) (d_acons (d_var (i:=1)) (d_acons (d_iq hr (d_lst (d_acons Zd (d_acons Zd (d_acons Zd (d_acons Zd Zb))))) (d_cq (ok_q31 T) hr T.g_q31 T.F_q31.kp T.B_q31 tk (d_acons (d_var (i:=0)) (d_acons Zd Zb)))) Zb)))) Zb)))))))))))
theorem Ko:FnScope ["_law_bag_here", "_law_kit_here", "_law_left", "_law_inside", "_law_found", "_law_turn"] ["_law_bag_here", "_law_kit_here", "_law_left", "_law_inside"] (defScope (top 40)):=scQ
theorem Zeo (T:Txt K mg w) {L:Nat} {r:List D→M D} (hl:1≤L) (h:FnD P w K mg base L T.a_q36 T.fd_q36 ["_law_bag_here", "_law_kit_here", "_law_left", "_law_inside"] r):FnD P w K mg base (L+1) T.a_q29 T.fd_q29 ["_law_bag_here", "_law_kit_here", "_law_left", "_law_inside"] (mFn ["_law_bag_here", "_law_kit_here", "_law_left", "_law_inside", "_law_found", "_law_turn"] (b_q29 r)):=ZA T.F_q29 Ko fun cdv A outer s H E hid hr tk=>
 (dss_cons (ds_set (i:=4) Ko.nd rfl (.inl rfl) (d_lstC Zb)) (dss_cons (ds_for (passes_of rfl) rfl (di_rng1 rfl T.n_range (d_acons (d_cq (ok_q31 T) hr T.g_q31 T.F_q31.kp T.B_q31 tk (d_acons (d_var (i:=0)) (d_acons Zd Zb))) Zb)) (dg_name (i:=5) Ko.nd rfl (.inl rfl)) (dss_one (ds_if (dt_cmp WZ Zx (d_iq hr (d_var (i:=2)) Zd) Zd (nomark _)) (dss_one (ds_expr (d_meth PySem.F.plainAttrs_list PySem.F.slot_list_append PySem.F.type_list_append mt_append YO (.inr (.inl rfl)) (d_var (i:=4)) (d_acons (d_cq h hr T.g_q36 T.F_q36.kp T.B_q36 tk (d_acons (d_var (i:=0)) (d_acons (d_var (i:=1)) (d_acons (d_var (i:=2)) (d_acons (d_var (i:=3)) Zb))))) Zb)))) Zf))) (dss_one (ds_ret (d_callTy Yz Wn rfl T.n_tuple Wm (d_acons (d_var (i:=4)) Zb))))))
theorem ok_q29 (T:Txt K mg w):∀ n:Nat,FnD P w K mg base (17+2 * n) T.a_q29 T.fd_q29 ["_law_bag_here", "_law_kit_here", "_law_left", "_law_inside"] (m_q29 n)
 | 0=>Wf
 | n+1=>Zeo T (L:=17+2 * n+1) (by omega) (st_q36 T (L:=17+2 * n) (by omega) (ok_q29 T n))
theorem Kq:FnScope ["_law_bag_here", "_law_kit_here", "_law_left", "_law_rows_here"] ["_law_bag_here", "_law_kit_here"] (defScope (top 41)):=scQ
theorem ok_q30 (T:Txt K mg w):FnD P w K mg base 34 T.a_q30 T.fd_q30 ["_law_bag_here", "_law_kit_here"] m_q30:=ZA T.F_q30 Kq fun cdv A outer s H E hid hr tk=>
 (dss_cons (ds_set (i:=2) Kq.nd rfl (.inl rfl) (d_lstC (d_acons (d_bin op_sub Yh (d_iq hr (d_lst (d_acons Zd (d_acons Zd Zb))) (d_callTy call_int1 Zas rfl T.n_int Uh (d_acons (d_cmp (op_eqD hr.units) ZP (d_cq (ok_q31 T) hr T.g_q31 T.F_q31.kp T.B_q31 tk (d_acons (d_var (i:=0)) (d_acons Zd Zb))) Zd (nomark _)) Zb))) Zd) Zb))) (dss_cons (ds_set (i:=3) Kq.nd rfl (.inl rfl) (d_bin Zi Zj (d_cq (ok_q29 T 8) hr T.g_q29 T.F_q29.kp T.B_q29 tk (d_acons (d_var (i:=0)) (d_acons (d_var (i:=1)) (d_acons (d_var (i:=2)) (d_acons Zd Zb))))) (d_cq (ok_q29 T 8) hr T.g_q29 T.F_q29.kp T.B_q29 tk (d_acons (d_var (i:=0)) (d_acons (d_var (i:=1)) (d_acons (d_var (i:=2)) (d_acons Zd Zb))))))) (dss_cons (ds_if (PW.pt (dw_and (dt_cmp (op_eqD hr.units) ZP (d_var (i:=3)) (d_tup Zb) (nomark _)) (dw_and1 (dt_cmp WZ Zx (d_cq (ok_q31 T) hr T.g_q31 T.F_q31.kp T.B_q31 tk (d_acons (d_var (i:=0)) (d_acons Zd Zb))) Zd (nomark _))))) (dss_one (ds_ret (d_tup (d_acons (d_tup (d_acons Zo (d_acons (d_cq (ok_q33 T 8) hr T.g_q33 T.F_q33.kp T.B_q33 tk (d_acons (d_var (i:=0)) (d_acons (d_var (i:=1)) (d_acons Zd Zb)))) Zb))) Zb)))) Zf) (dss_one (ds_ret (d_var (i:=3)))))))
theorem Zg2:FnScope ["_law_thing"] ["_law_thing"] (defScope (top 42)):=scQ
theorem Zg8 (T:Txt K mg w) {L:Nat} {r:List D→M D} (hl:0≤L) (h:FnD P w K mg base L T.a_q9 T.fd_q9 ["_law_thing"] r):FnD P w K mg base (L+1) T.a_q9 T.fd_q9 ["_law_thing"] (mFn ["_law_thing"] (b_q9 r)):=ZA T.F_q9 Zg2 fun cdv A outer s H E hid hr tk=>
 (dss_cons (ds_if (dt_val (d_callB call_isi XX rfl T.n_isinstance Zt (d_acons (d_var (i:=0)) (d_acons (d_ty rfl T.n_int Uh) Zb)))) (dss_one (ds_ret (d_lst (d_acons (d_callTy call_str_int JE rfl T.n_str WG (d_acons (d_var (i:=0)) Zb)) Zb)))) Zf) (dss_cons (ds_if (dt_val (d_callB call_isi XX rfl T.n_isinstance Zt (d_acons (d_var (i:=0)) (d_acons (d_ty rfl T.n_str WG) Zb)))) (dss_one (ds_ret (d_lst (d_acons (d_bin Zi Zj Zo (d_var (i:=0))) Zb)))) Zf) (dss_cons (ds_if (dt_cmp (op_eqD hr.units) ZP (d_iq hr (d_var (i:=0)) Zd) Zo (nomark _)) (dss_one (ds_ret (d_lst (d_acons (d_bin Zi Zj Zo (d_iq hr (d_var (i:=0)) Zd)) Zb)))) Zf) (dss_one (ds_ret (d_bin Zi Zj (d_bin Zi Zj (d_bin Zi Zj (d_bin Zi Zj (d_lst (d_acons Zo Zb)) (d_cq h hr T.g_q9 T.F_q9.kp T.B_q9 tk (d_acons (d_iq hr (d_var (i:=0)) Zd) Zb))) (d_lst (d_acons (d_iq hr (d_var (i:=0)) Zd) Zb))) (d_cq h hr T.g_q9 T.F_q9.kp T.B_q9 tk (d_acons (d_iq hr (d_var (i:=0)) Zd) Zb))) (d_lst (d_acons Zo Zb))))))))
theorem ok_q9 (T:Txt K mg w):∀ n:Nat,FnD P w K mg base (0+n) T.a_q9 T.fd_q9 ["_law_thing"] (m_q9 n)
 | 0=>Wf
 | n+1=>Zg8 T (L:=0+n) (by omega) (ok_q9 T n)
theorem ZgZ:FnScope ["_law_test_here"] ["_law_test_here"] (defScope (top 43)):=scQ
theorem Zg7 (T:Txt K mg w) {L:Nat} {r:List D→M D} (hl:8≤L) (h:FnD P w K mg base L T.a_q6 T.fd_q6 ["_law_test_here"] r):FnD P w K mg base (L+1) T.a_q6 T.fd_q6 ["_law_test_here"] (mFn ["_law_test_here"] (b_q6 r)):=ZA T.F_q6 ZgZ fun cdv A outer s H E hid hr tk=>
 (dss_cons (ds_if (dt_cmp (or_in (room65 hr)) Wh (d_iq hr (d_var (i:=0)) Zd) (d_tup (d_acons Zo (d_acons Zo Zb))) (by rfl)) (dss_one (ds_ret (d_lst (d_acons (d_iq hr (d_var (i:=0)) Zd) (d_acons (d_iq hr (d_var (i:=0)) Zd) Zb))))) Zf) (dss_cons (ds_if (dt_cmp (op_eqD hr.units) ZP (d_iq hr (d_var (i:=0)) Zd) Zo (nomark _)) (dss_one (ds_ret (d_bin Zi Zj (d_lst (d_acons Zo Zb)) (d_cq h hr T.g_q6 T.F_q6.kp T.B_q6 tk (d_acons (d_iq hr (d_var (i:=0)) Zd) Zb))))) Zf) (dss_cons (ds_if (dt_cmp (op_eqD hr.units) ZP (d_iq hr (d_var (i:=0)) Zd) Zo (nomark _)) (dss_one (ds_ret (d_bin Zi Zj (d_bin Zi Zj (d_bin Zi Zj (d_bin Zi Zj (d_lst (d_acons Zo Zb)) (d_cq h hr T.g_q6 T.F_q6.kp T.B_q6 tk (d_acons (d_iq hr (d_var (i:=0)) Zd) Zb))) (d_lst (d_acons Zo Zb))) (d_cq h hr T.g_q6 T.F_q6.kp T.B_q6 tk (d_acons (d_iq hr (d_var (i:=0)) Zd) Zb))) (d_lst (d_acons Zo Zb))))) Zf) (dss_one (ds_ret (d_bin Zi Zj (d_bin Zi Zj (d_cq (ok_q9 T 8) hr T.g_q9 T.F_q9.kp T.B_q9 tk (d_acons (d_iq hr (d_var (i:=0)) Zd) Zb)) (d_lst (d_acons (d_iq hr (d_dispC (pd_cons Zo Zo (pd_cons Zo Zo ZdZ))) (d_iq hr (d_var (i:=0)) Zd)) Zb))) (d_cq (ok_q9 T 8) hr T.g_q9 T.F_q9.kp T.B_q9 tk (d_acons (d_iq hr (d_var (i:=0)) Zd) Zb))))))))
theorem ok_q6 (T:Txt K mg w):∀ n:Nat,FnD P w K mg base (8+n) T.a_q6 T.fd_q6 ["_law_test_here"] (m_q6 n)
 | 0=>Wf
 | n+1=>Zg7 T (L:=8+n) (by omega) (ok_q6 T n)
theorem Wa:FnScope ["_law_rows_here", "_law_found", "_law_row_here", "_law_inner"] ["_law_rows_here"] (defScope (top 44)):=scQ
theorem Zem (T:Txt K mg w) {L:Nat} {r:List D→M D} (hl:16≤L) (h:FnD P w K mg base L T.a_q24 T.fd_q24 ["_law_rows_here"] r):FnD P w K mg base (L+1) T.a_q24 T.fd_q24 ["_law_rows_here"] (mFn ["_law_rows_here", "_law_found", "_law_row_here", "_law_inner"] (b_q24 r)):=ZA T.F_q24 Wa fun cdv A outer s H E hid hr tk=>
 (dss_cons (ds_set (i:=1) Wa.nd rfl (.inl rfl) (d_lst Zb)) (dss_cons (ds_for (passes_of rfl) rfl (di_tup (d_var (i:=0))) (dg_name (i:=2) Wa.nd rfl (.inl rfl)) (dss_cons (ds_set (i:=1) Wa.nd rfl (.inl rfl) (d_bin Zi Zj (d_var (i:=1)) (d_bin op_rep Zb3 (d_lst (d_acons Zo Zb)) (d_callTy call_int1 Zas rfl T.n_int Uh (d_acons (d_cmp (op_neD hr.units) Wi (d_var (i:=1)) (d_lst Zb) (nomark _)) Zb))))) (dss_one (ds_if (dt_cmp (or_in (room65 hr)) Wh (d_iq hr (d_var (i:=2)) Zd) (d_tup (d_acons Zo (d_acons Zo Zb))) (by rfl)) (dss_cons (ds_set (i:=1) Wa.nd rfl (.inl rfl) (d_bin Zi Zj (d_bin Zi Zj (d_var (i:=1)) (d_lst (d_acons (d_iq hr (d_var (i:=2)) Zd) Zb))) (d_cq (ok_q6 T 8) hr T.g_q6 T.F_q6.kp T.B_q6 tk (d_acons (d_iq hr (d_var (i:=2)) Zd) Zb)))) (dss_one (ds_for (passes_of rfl) rfl (di_tup (d_sl (d_var (i:=2)) (d_po Zd) VE)) (dg_name (i:=3) Wa.nd rfl (.inl rfl)) (dss_one (ds_set (i:=1) Wa.nd rfl (.inl rfl) (d_bin Zi Zj (d_bin Zi Zj (d_bin Zi Zj (d_var (i:=1)) (d_lst (d_acons Zo Zb))) (d_cq h hr T.g_q24 T.F_q24.kp T.B_q24 tk (d_acons (d_var (i:=3)) Zb))) (d_lst (d_acons Zo Zb)))))))) (dss_one (ds_set (i:=1) Wa.nd rfl (.inl rfl) (d_bin Zi Zj (d_bin Zi Zj (d_bin Zi Zj (d_var (i:=1)) (d_lst (d_acons (d_iq hr (d_var (i:=2)) Zd) Zb))) (d_callTy call_list_of JC rfl T.n_list Jz (d_acons (d_sl (d_var (i:=2)) (d_po Zd) (d_po (d_un un_neg Wd Zd))) Zb))) (d_cq (ok_q9 T 8) hr T.g_q9 T.F_q9.kp T.B_q9 tk (d_acons (d_iq hr (d_var (i:=2)) (d_un un_neg Wd Zd)) Zb))))))))) (dss_one (ds_ret (d_var (i:=1))))))
theorem ok_q24 (T:Txt K mg w):∀ n:Nat,FnD P w K mg base (16+n) T.a_q24 T.fd_q24 ["_law_rows_here"] (m_q24 n)
 | 0=>Wf
 | n+1=>Zem T (L:=16+n) (by omega) (ok_q24 T n)
theorem UN:FnScope ["_law_bag_here", "_law_words_here", "_law_kit_here", "_law_at"] ["_law_bag_here"] (defScope (top 45)):=scQ
theorem ok_q17 (T:Txt K mg w):FnD P w K mg base 4 T.a_q17 T.fd_q17 ["_law_bag_here"] m_q17:=ZA T.F_q17 UN fun cdv A outer s H E hid hr tk=>
 (dss_cons (ds_set (i:=1) UN.nd rfl (.inl rfl) (d_tup (d_acons Zo (d_acons Zo (d_acons Zo (d_acons Zo (d_acons Zo (d_acons Zo (d_acons Zo (d_acons Zo (d_acons Zo (d_acons Zo Zb)))))))))))) (dss_cons (ds_set (i:=2) UN.nd rfl (.inl rfl) (d_cq (ok_q37 T) hr T.g_q37 T.F_q37.kp T.B_q37 tk (d_acons (d_var (i:=0)) (d_acons Zd Zb)))) (dss_cons (ds_if (dt_cmp (op_eqD hr.units) ZP (d_cq (ok_q31 T) hr T.g_q31 T.F_q31.kp T.B_q31 tk (d_acons (d_var (i:=0)) (d_acons Zd Zb))) Zd (nomark _)) (dss_cons (ds_set (i:=3) UN.nd rfl (.inl rfl) (d_cq (ok_q31 T) hr T.g_q31 T.F_q31.kp T.B_q31 tk (d_acons (d_var (i:=0)) (d_acons Zd Zb)))) (dss_one (ds_set (i:=2) UN.nd rfl (.inl rfl) (d_tup (d_acons (d_sl (d_bin Zi Zj (d_var (i:=1)) (d_var (i:=1))) (d_po (d_var (i:=3))) (d_po (d_bin Zi Zj (d_var (i:=3)) Zd))) (d_acons (d_sl (d_bin Zi Zj (d_var (i:=1)) (d_var (i:=1))) (d_po (d_bin Zi Zj (d_var (i:=3)) Zd)) (d_po (d_bin Zi Zj (d_var (i:=3)) Zd))) (d_acons (d_iq hr (d_var (i:=2)) Zd) Zb))))))) Zf) (dss_one (ds_ret (d_var (i:=2)))))))
theorem YV:FnScope ["_law_bag_here", "_law_kit_here", "_law_deep", "_law_turn", "_law_test_here", "_law_rows_here", "_law_some"] ["_law_bag_here", "_law_kit_here"] (defScope (top 46)):=scQ
theorem ok_q10 (T:Txt K mg w):FnD P w K mg base 10 T.a_q10 T.fd_q10 ["_law_bag_here", "_law_kit_here"] m_q10:=ZA T.F_q10 YV fun cdv A outer s H E hid hr tk=>
 (dss_cons (ds_set (i:=2) YV.nd rfl (.inl rfl) (d_cq (ok_q33 T 8) hr T.g_q33 T.F_q33.kp T.B_q33 tk (d_acons (d_var (i:=0)) (d_acons (d_var (i:=1)) (d_acons Zd Zb))))) (dss_cons (ds_for (passes_of rfl) rfl (di_rng1 rfl T.n_range (d_acons Zd Zb)) (dg_name (i:=3) YV.nd rfl (.inl rfl)) (dss_one (ds_set (i:=2) YV.nd rfl (.inl rfl) (d_iq hr (d_lst (d_acons (d_tup (d_acons Zo (d_acons (d_var (i:=2)) (d_acons Zd Zb)))) (d_acons (d_tup (d_acons Zo (d_acons Zd (d_acons (d_var (i:=2)) Zb)))) (d_acons (d_tup (d_acons Zo (d_acons (d_var (i:=2)) (d_acons (d_var (i:=2)) Zb)))) Zb)))) (d_cq (ok_q31 T) hr T.g_q31 T.F_q31.kp T.B_q31 tk (d_acons (d_var (i:=0)) (d_acons Zd Zb))))))) (dss_cons (ds_set (i:=4) YV.nd rfl (.inl rfl) (d_tup (d_acons Zo (d_acons (d_iq hr (d_iq hr (d_var (i:=1)) Zd) Zd) Zb)))) (dss_cons (ds_for (passes_of rfl) rfl (di_rng1 rfl T.n_range (d_acons Zd Zb)) (dg_name (i:=3) YV.nd rfl (.inl rfl)) (dss_cons (ds_set (i:=6) YV.nd rfl (.inl rfl) (d_lst (d_acons (d_tup (d_acons Zo (d_acons (d_var (i:=4)) Zb))) (d_acons (d_tup (d_acons Zo (d_acons (d_var (i:=4)) (d_acons (d_tup (d_acons Zo (d_acons Zd (d_acons (d_var (i:=2)) Zb)))) Zb)))) (d_acons (d_tup (d_acons Zo (d_acons (d_tup (d_acons Zo (d_acons (d_var (i:=2)) (d_acons Zd Zb)))) (d_acons (d_var (i:=4)) Zb)))) Zb))))) (dss_one (ds_set (i:=4) YV.nd rfl (.inl rfl) (d_iq hr (d_var (i:=6)) (d_cq (ok_q31 T) hr T.g_q31 T.F_q31.kp T.B_q31 tk (d_acons (d_var (i:=0)) (d_acons Zd Zb)))))))) (dss_cons (ds_set (i:=5) YV.nd rfl (.inl rfl) (d_bin Kd QI (d_tup (d_acons (d_tup (d_acons Zo (d_acons (d_var (i:=2)) Zb))) Zb)) (d_cq (ok_q31 T) hr T.g_q31 T.F_q31.kp T.B_q31 tk (d_acons (d_var (i:=0)) (d_acons Zd Zb))))) (dss_cons (ds_for (passes_of rfl) rfl (di_rng1 rfl T.n_range (d_acons Zd Zb)) (dg_name (i:=3) YV.nd rfl (.inl rfl)) (dss_one (ds_set (i:=5) YV.nd rfl (.inl rfl) (d_iq hr (d_lst (d_acons (d_tup (d_acons (d_tup (d_acons Zo (d_acons (d_var (i:=4)) (d_acons (d_var (i:=5)) Zb)))) Zb)) (d_acons (d_tup (d_acons (d_tup (d_acons Zo (d_acons (d_var (i:=4)) (d_acons (d_var (i:=5)) (d_acons (d_tup Zb) Zb))))) Zb)) (d_acons (d_tup (d_acons (d_tup (d_acons Zo (d_acons (d_var (i:=4)) (d_acons (d_tup Zb) (d_acons (d_var (i:=5)) Zb))))) Zb)) Zb)))) (d_cq (ok_q31 T) hr T.g_q31 T.F_q31.kp T.B_q31 tk (d_acons (d_var (i:=0)) (d_acons Zd Zb))))))) (dss_one (ds_ret (d_var (i:=5))))))))))
theorem UO:FnScope ["_law_rows_here", "_law_due", "_law_again", "_law_text", "_law_found"] ["_law_rows_here"] (defScope (top 47)):=scQ
def Gc:SM:=(sThen (sSet 1 (mMeth "str" joinD (mC (.str " ")) (mCons (mCall (arity 1 (m_q24 8)) (mCons (mVar 0) mNil)) mNil))) (sThen (sFor (mRng1 (mCons (mC (.int 2)) mNil)) (.nm 2) (sThen (sSet 3 (mCall (arity 1 m_q25) (mCons (mVar 0) mNil))) (sThen (sIf (mTOr (mTNot (mAsT (mCall isiD (mCons (mVar 3) (mCons (mC (.ty "str")) mNil))))) (mAsT (mBin (eqvD true) (mVar 3) (mVar 1)))) (sRet (mC (.bl false))) sSkip) (sThen (sSet 4 (mCall (arity 1 m_q21) (mCons (mVar 3) mNil))) (sIf (mTOr (mAsT (mBin (eqvD true) (mVar 4) (mVar 0))) (mTOr (mAsT (mBin (eqvD true) (mCall reprD (mCons (mVar 4) mNil)) (mCall reprD (mCons (mVar 0) mNil)))) (mAsT (mBin (eqvD true) (mCall (arity 1 m_q25) (mCons (mVar 4) mNil)) (mVar 1))))) (sRet (mC (.bl false))) sSkip))))) (sRet (mC (.bl true)))))
def m_q22:List D→M D:=mFn ["_law_rows_here", "_law_due", "_law_again", "_law_text", "_law_found"] Gc
theorem ok_q22 (T:Txt K mg w):FnD P w K mg base 46 T.a_q22 T.fd_q22 ["_law_rows_here"] m_q22:=ZA T.F_q22 UO fun cdv A outer s H E hid hr tk=>
 (dss_cons (ds_set (i:=1) UO.nd rfl (.inl rfl) (d_meth PySem.F.plainAttrs_str PySem.F.slot_str_join PySem.F.type_str_join mt_join U5 (.inl rfl) Zo (d_acons (d_cq (ok_q24 T 8) hr T.g_q24 T.F_q24.kp T.B_q24 tk (d_acons (d_var (i:=0)) Zb)) Zb))) (dss_cons (ds_for (passes_of rfl) rfl (di_rng1 rfl T.n_range (d_acons Zd Zb)) (dg_name (i:=2) UO.nd rfl (.inl rfl)) (dss_cons (ds_set (i:=3) UO.nd rfl (.inl rfl) (d_cq (ok_q25 T) hr T.g_q25 T.F_q25.kp T.B_q25 tk (d_acons (d_var (i:=0)) Zb))) (dss_cons (ds_if (PW.pt (dw_or (dt_not (dt_val (d_callB call_isi XX rfl T.n_isinstance Zt (d_acons (d_var (i:=3)) (d_acons (d_ty rfl T.n_str WG) Zb))))) (dw_or1 (dt_cmp (op_neD hr.units) Wi (d_var (i:=3)) (d_var (i:=1)) (nomark _))))) (dss_one (ds_ret ZeJ)) Zf) (dss_cons (ds_set (i:=4) UO.nd rfl (.inl rfl) (d_cq (ok_q21 T) hr T.g_q21 T.F_q21.kp T.B_q21 tk (d_acons (d_var (i:=3)) Zb))) (dss_one (ds_if (PW.pt (dw_or (dt_cmp (op_neD hr.units) Wi (d_var (i:=4)) (d_var (i:=0)) (nomark _)) (dw_or (dt_cmp (op_neD hr.units) Wi (d_callB (call_reprG hr) JD rfl T.n_repr JA (d_acons (d_var (i:=4)) Zb)) (d_callB (call_reprG hr) JD rfl T.n_repr JA (d_acons (d_var (i:=0)) Zb)) (nomark _)) (dw_or1 (dt_cmp (op_neD hr.units) Wi (d_cq (ok_q25 T) hr T.g_q25 T.F_q25.kp T.B_q25 tk (d_acons (d_var (i:=4)) Zb)) (d_var (i:=1)) (nomark _)))))) (dss_one (ds_ret ZeJ)) Zf)))))) (dss_one (ds_ret ZeJ))))
theorem Xq:FnScope ["_law_script", "_law_at", "_law_bag_here", "_law_kit_here", "_law_some", "_law_turn", "_law_rows_here"] ["_law_script"] (defScope (top 48)):=scQ
def ZcR:SM:=(sThen (sFor (mRng1 (mCons (mCall (twoD fun i j=>if j > i then j else i) (mCons (mC (.int 2)) (mCons (mCall (twoD fun i j=>if j < i then j else i) (mCons (mCall lenSD (mCons (mVar 0) mNil)) (mCons (mC (.int 4)) mNil))) mNil))) mNil)) (.nm 1) (sThen (sSet 2 (mCall (arity 2 m_q35) (mCons (mVar 0) (mCons (mVar 1) mNil)))) (sThen (sSet 3 (mCall (arity 1 m_q17) (mCons (mVar 2) mNil))) (sThen (sSet 4 (mBin addLC (mComp (mRng1 (mCons (mC (.int 3)) mNil)) [5] (.nm 5) tYesD (mCall (arity 2 m_q30) (mCons (mVar 2) (mCons (mVar 3) mNil)))) (mLst (mCons (mCall (arity 2 m_q10) (mCons (mVar 2) (mCons (mVar 3) mNil))) (mCons (mTup mNil) mNil))))) (sThen (sExpr (mMeth "list" appendD (mVar 4) (mCons (mTup (mCons (mTup (mCons (mC (.str "set")) (mCons (mBin ixD (mBin ixD (mVar 3) (mC (.int 1))) (mC (.int 0))) (mCons (mBin powD (mC (.int 10)) (mC (.int 9))) mNil)))) (mCons (mTup (mCons (mC (.str "say")) (mCons (mUn negD (mBin powD (mC (.int 10)) (mC (.int 9)))) mNil))) (mCons (mTup (mCons (mC (.str "say")) (mCons (mC (.int 0)) mNil))) (mCons (mTup (mCons (mC (.str "say")) (mCons (mUn negD (mC (.int 7))) mNil))) mNil))))) mNil))) (sThen (sExpr (mMeth "list" appendD (mVar 4) (mCons (mBin mulTZD (mTup (mCons (mTup (mCons (mC (.str "say")) (mCons (mC (.int 1)) mNil))) mNil)) (mC (.int 30))) mNil))) (sIf (mTNot (mAsT (mCall allD (mCons (mCompW (mVar 4) [6] (.nm 6) tYesD (mCall (arity 1 m_q22) (mCons (mVar 6) mNil))) mNil)))) (sRet (mC (.bl false))) sSkip))))))) (sRet (mAnd (mBin (eqvD false) (mCall (arity 1 m_q25) (mCons (mTup mNil) mNil)) (mC (.str ""))) (mBin (eqvD false) (mCall (arity 1 m_q21) (mCons (mC (.str "")) mNil)) (mTup mNil)))))
def m_law:List D→M D:=mFn ["_law_script", "_law_at", "_law_bag_here", "_law_kit_here", "_law_some", "_law_turn", "_law_rows_here"] ZcR
theorem ok_law (T:Txt K mg w):FnD P w K mg base 47 T.a_law T.fd_law ["_law_script"] m_law:=ZA T.F_law Xq fun cdv A outer s H E hid hr tk=>
 (dss_cons (ds_for (passes_of rfl) rfl (di_rng1 rfl T.n_range (d_acons (d_callB (call_max2 rfl) Zat rfl T.n_max Zda (d_acons Zd (d_acons (d_callB (call_min2 rfl) Zat rfl T.n_min Zdb (d_acons (d_callB YB YA rfl T.n_len Xb (d_acons (d_var (i:=0)) Zb)) (d_acons Zd Zb))) Zb))) Zb)) (dg_name (i:=1) Xq.nd rfl (.inl rfl)) (dss_cons (ds_set (i:=2) Xq.nd rfl (by first | exact .inl rfl | exact .inr rfl) (d_cq (ok_q35 T) hr T.g_q35 T.F_q35.kp T.B_q35 tk (d_acons (d_var (i:=0)) (d_acons (d_var (i:=1)) Zb)))) (dss_cons (ds_set (i:=3) Xq.nd rfl (by first | exact .inl rfl | exact .inr rfl) (d_cq (ok_q17 T) hr T.g_q17 T.F_q17.kp T.B_q17 tk (d_acons (d_var (i:=2)) Zb))) (dss_cons (ds_set (i:=4) Xq.nd rfl (by first | exact .inl rfl | exact .inr rfl) (d_bin Zi Zb0 (d_comp (own:=[("_law_turn",5)]) rfl Xq.nd (di_rng1 rfl T.n_range (d_acons Zd Zb)) (blkOk_by (N:=["_law_script", "_law_at", "_law_bag_here", "_law_kit_here", "_law_some", "_law_turn", "_law_rows_here"]) (sc:=(defScope (top 48))) (own:=[("_law_turn",5)]) (by decide +kernel)) (fun _ _ _ _ _=>(dg_name (i:=5) Xq.nd rfl (by first | exact .inl rfl | exact .inr rfl))) (fun _ _ _ _ _ _=>Yj) (fun _ _ _ _ _ _=>(d_cq (ok_q30 T) hr T.g_q30 T.F_q30.kp T.B_q30 Wc (d_acons (d_var (i:=2)) (d_acons (d_var (i:=3)) Zb)))) (by decide)) (d_lst (d_acons (d_cq (ok_q10 T) hr T.g_q10 T.F_q10.kp T.B_q10 tk (d_acons (d_var (i:=2)) (d_acons (d_var (i:=3)) Zb))) (d_acons (d_tup Zb) Zb))))) (dss_cons (ds_expr (d_meth PySem.F.plainAttrs_list PySem.F.slot_list_append PySem.F.type_list_append mt_append YO (.inr (.inl rfl)) (d_var (i:=4)) (d_acons (d_tup (d_acons (d_tup (d_acons Zo (d_acons (d_iq hr (d_iq hr (d_var (i:=3)) Zd) Zd) (d_acons (d_bin op_pow Xl Zd Zd) Zb)))) (d_acons (d_tup (d_acons Zo (d_acons (d_un un_neg Wd (d_bin op_pow Xl Zd Zd)) Zb))) (d_acons (d_tup (d_acons Zo (d_acons Zd Zb))) (d_acons (d_tup (d_acons Zo (d_acons (d_un un_neg Wd Zd) Zb))) Zb))))) Zb))) (dss_cons (ds_expr (d_meth PySem.F.plainAttrs_list PySem.F.slot_list_append PySem.F.type_list_append mt_append YO (.inr (.inl rfl)) (d_var (i:=4)) (d_acons (d_bin Kd QI (d_tup (d_acons (d_tup (d_acons Zo (d_acons Zd Zb))) Zb)) Zd) Zb))) (dss_one (ds_if (dt_not (dt_val (d_callB (cr_all rfl) JB rfl T.n_all Jy (d_acons (d_compW (own:=[("_law_rows_here",6)]) rfl Xq.nd (d_var (i:=4)) (blkOk_by (N:=["_law_script", "_law_at", "_law_bag_here", "_law_kit_here", "_law_some", "_law_turn", "_law_rows_here"]) (sc:=(defScope (top 48))) (own:=[("_law_rows_here",6)]) (by decide +kernel)) (fun _ _ _ _ _=>(dg_name (i:=6) Xq.nd rfl (by first | exact .inl rfl | exact .inr rfl))) (fun _ _ _ _ _ _=>Yj) (fun _ _ _ _ _ _=>(d_cq (ok_q22 T) hr T.g_q22 T.F_q22.kp T.B_q22 Wc (d_acons (d_var (i:=6)) Zb))) (by decide)) Zb)))) (dss_one (ds_ret ZeJ)) Zf)))))))) (dss_one (ds_ret (d_and (d_cmp (op_eqD hr.units) ZP (d_cq (ok_q25 T) hr T.g_q25 T.F_q25.kp T.B_q25 tk (d_acons (d_tup Zb) Zb)) Zo (nomark _)) (d_one (d_cmp (op_eqD hr.units) ZP (d_cq (ok_q21 T) hr T.g_q21 T.F_q21.kp T.B_q21 tk (d_acons Zo Zb)) (d_tup Zb) (nomark _)))))))
end
end K61
namespace NA
open PySem
@[simp] theorem ne0:¬Str.ofString "cell"=Str.ofString "purse"∧¬Str.ofString "cell"=Str.ofString "news"∧¬Str.ofString "cell"=Str.ofString "known"∧¬Str.ofString "cell"=Str.ofString "above"∧¬Str.ofString "cell"=Str.ofString "same"∧¬Str.ofString "cell"=Str.ofString "not"∧¬Str.ofString "cell"=Str.ofString "both"∧¬Str.ofString "cell"=Str.ofString "set"∧¬Str.ofString "cell"=Str.ofString "say"∧¬Str.ofString "cell"=Str.ofString "pay"∧¬Str.ofString "cell"=Str.ofString "if"∧¬Str.ofString "cell"=Str.ofString "while"∧¬Str.ofString "cell"=Str.ofString "+"∧¬Str.ofString "cell"=Str.ofString "-"∧¬Str.ofString "cell"=Str.ofString "*"∧¬Str.ofString "cell"=Str.ofString "deed"∧¬Str.ofString "cell"=Str.ofString "tie"∧¬Str.ofString "cell"=Str.ofString "heard"∧¬Str.ofString "cell"=Str.ofString "must"∧¬Str.ofString "cell"=Str.ofString "may":=by decide +kernel
@[simp] theorem ZnY:¬Str.ofString "purse"=Str.ofString "cell"∧¬Str.ofString "purse"=Str.ofString "news"∧¬Str.ofString "purse"=Str.ofString "known"∧¬Str.ofString "purse"=Str.ofString "above"∧¬Str.ofString "purse"=Str.ofString "same"∧¬Str.ofString "purse"=Str.ofString "not"∧¬Str.ofString "purse"=Str.ofString "both"∧¬Str.ofString "purse"=Str.ofString "set"∧¬Str.ofString "purse"=Str.ofString "say"∧¬Str.ofString "purse"=Str.ofString "pay"∧¬Str.ofString "purse"=Str.ofString "if"∧¬Str.ofString "purse"=Str.ofString "while"∧¬Str.ofString "purse"=Str.ofString "+"∧¬Str.ofString "purse"=Str.ofString "-"∧¬Str.ofString "purse"=Str.ofString "*"∧¬Str.ofString "purse"=Str.ofString "deed"∧¬Str.ofString "purse"=Str.ofString "tie"∧¬Str.ofString "purse"=Str.ofString "heard"∧¬Str.ofString "purse"=Str.ofString "must"∧¬Str.ofString "purse"=Str.ofString "may":=by decide +kernel
@[simp] theorem Zoi:¬Str.ofString "news"=Str.ofString "cell"∧¬Str.ofString "news"=Str.ofString "purse"∧¬Str.ofString "news"=Str.ofString "known"∧¬Str.ofString "news"=Str.ofString "above"∧¬Str.ofString "news"=Str.ofString "same"∧¬Str.ofString "news"=Str.ofString "not"∧¬Str.ofString "news"=Str.ofString "both"∧¬Str.ofString "news"=Str.ofString "set"∧¬Str.ofString "news"=Str.ofString "say"∧¬Str.ofString "news"=Str.ofString "pay"∧¬Str.ofString "news"=Str.ofString "if"∧¬Str.ofString "news"=Str.ofString "while"∧¬Str.ofString "news"=Str.ofString "+"∧¬Str.ofString "news"=Str.ofString "-"∧¬Str.ofString "news"=Str.ofString "*"∧¬Str.ofString "news"=Str.ofString "deed"∧¬Str.ofString "news"=Str.ofString "tie"∧¬Str.ofString "news"=Str.ofString "heard"∧¬Str.ofString "news"=Str.ofString "must"∧¬Str.ofString "news"=Str.ofString "may":=by decide +kernel
@[simp] theorem ZoC:¬Str.ofString "known"=Str.ofString "cell"∧¬Str.ofString "known"=Str.ofString "purse"∧¬Str.ofString "known"=Str.ofString "news"∧¬Str.ofString "known"=Str.ofString "above"∧¬Str.ofString "known"=Str.ofString "same"∧¬Str.ofString "known"=Str.ofString "not"∧¬Str.ofString "known"=Str.ofString "both"∧¬Str.ofString "known"=Str.ofString "set"∧¬Str.ofString "known"=Str.ofString "say"∧¬Str.ofString "known"=Str.ofString "pay"∧¬Str.ofString "known"=Str.ofString "if"∧¬Str.ofString "known"=Str.ofString "while"∧¬Str.ofString "known"=Str.ofString "+"∧¬Str.ofString "known"=Str.ofString "-"∧¬Str.ofString "known"=Str.ofString "*"∧¬Str.ofString "known"=Str.ofString "deed"∧¬Str.ofString "known"=Str.ofString "tie"∧¬Str.ofString "known"=Str.ofString "heard"∧¬Str.ofString "known"=Str.ofString "must"∧¬Str.ofString "known"=Str.ofString "may":=by decide +kernel
@[simp] theorem ZoW:¬Str.ofString "above"=Str.ofString "cell"∧¬Str.ofString "above"=Str.ofString "purse"∧¬Str.ofString "above"=Str.ofString "news"∧¬Str.ofString "above"=Str.ofString "known"∧¬Str.ofString "above"=Str.ofString "same"∧¬Str.ofString "above"=Str.ofString "not"∧¬Str.ofString "above"=Str.ofString "both"∧¬Str.ofString "above"=Str.ofString "set"∧¬Str.ofString "above"=Str.ofString "say"∧¬Str.ofString "above"=Str.ofString "pay"∧¬Str.ofString "above"=Str.ofString "if"∧¬Str.ofString "above"=Str.ofString "while"∧¬Str.ofString "above"=Str.ofString "+"∧¬Str.ofString "above"=Str.ofString "-"∧¬Str.ofString "above"=Str.ofString "*"∧¬Str.ofString "above"=Str.ofString "deed"∧¬Str.ofString "above"=Str.ofString "tie"∧¬Str.ofString "above"=Str.ofString "heard"∧¬Str.ofString "above"=Str.ofString "must"∧¬Str.ofString "above"=Str.ofString "may":=by decide +kernel
@[simp] theorem Zio:¬Str.ofString "same"=Str.ofString "cell"∧¬Str.ofString "same"=Str.ofString "purse"∧¬Str.ofString "same"=Str.ofString "news"∧¬Str.ofString "same"=Str.ofString "known"∧¬Str.ofString "same"=Str.ofString "above"∧¬Str.ofString "same"=Str.ofString "not"∧¬Str.ofString "same"=Str.ofString "both"∧¬Str.ofString "same"=Str.ofString "set"∧¬Str.ofString "same"=Str.ofString "say"∧¬Str.ofString "same"=Str.ofString "pay"∧¬Str.ofString "same"=Str.ofString "if"∧¬Str.ofString "same"=Str.ofString "while"∧¬Str.ofString "same"=Str.ofString "+"∧¬Str.ofString "same"=Str.ofString "-"∧¬Str.ofString "same"=Str.ofString "*"∧¬Str.ofString "same"=Str.ofString "deed"∧¬Str.ofString "same"=Str.ofString "tie"∧¬Str.ofString "same"=Str.ofString "heard"∧¬Str.ofString "same"=Str.ofString "must"∧¬Str.ofString "same"=Str.ofString "may":=by decide +kernel
@[simp] theorem ZiJ:¬Str.ofString "not"=Str.ofString "cell"∧¬Str.ofString "not"=Str.ofString "purse"∧¬Str.ofString "not"=Str.ofString "news"∧¬Str.ofString "not"=Str.ofString "known"∧¬Str.ofString "not"=Str.ofString "above"∧¬Str.ofString "not"=Str.ofString "same"∧¬Str.ofString "not"=Str.ofString "both"∧¬Str.ofString "not"=Str.ofString "set"∧¬Str.ofString "not"=Str.ofString "say"∧¬Str.ofString "not"=Str.ofString "pay"∧¬Str.ofString "not"=Str.ofString "if"∧¬Str.ofString "not"=Str.ofString "while"∧¬Str.ofString "not"=Str.ofString "+"∧¬Str.ofString "not"=Str.ofString "-"∧¬Str.ofString "not"=Str.ofString "*"∧¬Str.ofString "not"=Str.ofString "deed"∧¬Str.ofString "not"=Str.ofString "tie"∧¬Str.ofString "not"=Str.ofString "heard"∧¬Str.ofString "not"=Str.ofString "must"∧¬Str.ofString "not"=Str.ofString "may":=by decide +kernel
@[simp] theorem Zi3:¬Str.ofString "both"=Str.ofString "cell"∧¬Str.ofString "both"=Str.ofString "purse"∧¬Str.ofString "both"=Str.ofString "news"∧¬Str.ofString "both"=Str.ofString "known"∧¬Str.ofString "both"=Str.ofString "above"∧¬Str.ofString "both"=Str.ofString "same"∧¬Str.ofString "both"=Str.ofString "not"∧¬Str.ofString "both"=Str.ofString "set"∧¬Str.ofString "both"=Str.ofString "say"∧¬Str.ofString "both"=Str.ofString "pay"∧¬Str.ofString "both"=Str.ofString "if"∧¬Str.ofString "both"=Str.ofString "while"∧¬Str.ofString "both"=Str.ofString "+"∧¬Str.ofString "both"=Str.ofString "-"∧¬Str.ofString "both"=Str.ofString "*"∧¬Str.ofString "both"=Str.ofString "deed"∧¬Str.ofString "both"=Str.ofString "tie"∧¬Str.ofString "both"=Str.ofString "heard"∧¬Str.ofString "both"=Str.ofString "must"∧¬Str.ofString "both"=Str.ofString "may":=by decide +kernel
@[simp] theorem Zjn:¬Str.ofString "set"=Str.ofString "cell"∧¬Str.ofString "set"=Str.ofString "purse"∧¬Str.ofString "set"=Str.ofString "news"∧¬Str.ofString "set"=Str.ofString "known"∧¬Str.ofString "set"=Str.ofString "above"∧¬Str.ofString "set"=Str.ofString "same"∧¬Str.ofString "set"=Str.ofString "not"∧¬Str.ofString "set"=Str.ofString "both"∧¬Str.ofString "set"=Str.ofString "say"∧¬Str.ofString "set"=Str.ofString "pay"∧¬Str.ofString "set"=Str.ofString "if"∧¬Str.ofString "set"=Str.ofString "while"∧¬Str.ofString "set"=Str.ofString "+"∧¬Str.ofString "set"=Str.ofString "-"∧¬Str.ofString "set"=Str.ofString "*"∧¬Str.ofString "set"=Str.ofString "deed"∧¬Str.ofString "set"=Str.ofString "tie"∧¬Str.ofString "set"=Str.ofString "heard"∧¬Str.ofString "set"=Str.ofString "must"∧¬Str.ofString "set"=Str.ofString "may":=by decide +kernel
@[simp] theorem ZjH:¬Str.ofString "say"=Str.ofString "cell"∧¬Str.ofString "say"=Str.ofString "purse"∧¬Str.ofString "say"=Str.ofString "news"∧¬Str.ofString "say"=Str.ofString "known"∧¬Str.ofString "say"=Str.ofString "above"∧¬Str.ofString "say"=Str.ofString "same"∧¬Str.ofString "say"=Str.ofString "not"∧¬Str.ofString "say"=Str.ofString "both"∧¬Str.ofString "say"=Str.ofString "set"∧¬Str.ofString "say"=Str.ofString "pay"∧¬Str.ofString "say"=Str.ofString "if"∧¬Str.ofString "say"=Str.ofString "while"∧¬Str.ofString "say"=Str.ofString "+"∧¬Str.ofString "say"=Str.ofString "-"∧¬Str.ofString "say"=Str.ofString "*"∧¬Str.ofString "say"=Str.ofString "deed"∧¬Str.ofString "say"=Str.ofString "tie"∧¬Str.ofString "say"=Str.ofString "heard"∧¬Str.ofString "say"=Str.ofString "must"∧¬Str.ofString "say"=Str.ofString "may":=by decide +kernel
@[simp] theorem Zj1:¬Str.ofString "pay"=Str.ofString "cell"∧¬Str.ofString "pay"=Str.ofString "purse"∧¬Str.ofString "pay"=Str.ofString "news"∧¬Str.ofString "pay"=Str.ofString "known"∧¬Str.ofString "pay"=Str.ofString "above"∧¬Str.ofString "pay"=Str.ofString "same"∧¬Str.ofString "pay"=Str.ofString "not"∧¬Str.ofString "pay"=Str.ofString "both"∧¬Str.ofString "pay"=Str.ofString "set"∧¬Str.ofString "pay"=Str.ofString "say"∧¬Str.ofString "pay"=Str.ofString "if"∧¬Str.ofString "pay"=Str.ofString "while"∧¬Str.ofString "pay"=Str.ofString "+"∧¬Str.ofString "pay"=Str.ofString "-"∧¬Str.ofString "pay"=Str.ofString "*"∧¬Str.ofString "pay"=Str.ofString "deed"∧¬Str.ofString "pay"=Str.ofString "tie"∧¬Str.ofString "pay"=Str.ofString "heard"∧¬Str.ofString "pay"=Str.ofString "must"∧¬Str.ofString "pay"=Str.ofString "may":=by decide +kernel
@[simp] theorem Zkl:¬Str.ofString "if"=Str.ofString "cell"∧¬Str.ofString "if"=Str.ofString "purse"∧¬Str.ofString "if"=Str.ofString "news"∧¬Str.ofString "if"=Str.ofString "known"∧¬Str.ofString "if"=Str.ofString "above"∧¬Str.ofString "if"=Str.ofString "same"∧¬Str.ofString "if"=Str.ofString "not"∧¬Str.ofString "if"=Str.ofString "both"∧¬Str.ofString "if"=Str.ofString "set"∧¬Str.ofString "if"=Str.ofString "say"∧¬Str.ofString "if"=Str.ofString "pay"∧¬Str.ofString "if"=Str.ofString "while"∧¬Str.ofString "if"=Str.ofString "+"∧¬Str.ofString "if"=Str.ofString "-"∧¬Str.ofString "if"=Str.ofString "*"∧¬Str.ofString "if"=Str.ofString "deed"∧¬Str.ofString "if"=Str.ofString "tie"∧¬Str.ofString "if"=Str.ofString "heard"∧¬Str.ofString "if"=Str.ofString "must"∧¬Str.ofString "if"=Str.ofString "may":=by decide +kernel
@[simp] theorem ZkF:¬Str.ofString "while"=Str.ofString "cell"∧¬Str.ofString "while"=Str.ofString "purse"∧¬Str.ofString "while"=Str.ofString "news"∧¬Str.ofString "while"=Str.ofString "known"∧¬Str.ofString "while"=Str.ofString "above"∧¬Str.ofString "while"=Str.ofString "same"∧¬Str.ofString "while"=Str.ofString "not"∧¬Str.ofString "while"=Str.ofString "both"∧¬Str.ofString "while"=Str.ofString "set"∧¬Str.ofString "while"=Str.ofString "say"∧¬Str.ofString "while"=Str.ofString "pay"∧¬Str.ofString "while"=Str.ofString "if"∧¬Str.ofString "while"=Str.ofString "+"∧¬Str.ofString "while"=Str.ofString "-"∧¬Str.ofString "while"=Str.ofString "*"∧¬Str.ofString "while"=Str.ofString "deed"∧¬Str.ofString "while"=Str.ofString "tie"∧¬Str.ofString "while"=Str.ofString "heard"∧¬Str.ofString "while"=Str.ofString "must"∧¬Str.ofString "while"=Str.ofString "may":=by decide +kernel
@[simp] theorem ZkZ:¬Str.ofString "+"=Str.ofString "cell"∧¬Str.ofString "+"=Str.ofString "purse"∧¬Str.ofString "+"=Str.ofString "news"∧¬Str.ofString "+"=Str.ofString "known"∧¬Str.ofString "+"=Str.ofString "above"∧¬Str.ofString "+"=Str.ofString "same"∧¬Str.ofString "+"=Str.ofString "not"∧¬Str.ofString "+"=Str.ofString "both"∧¬Str.ofString "+"=Str.ofString "set"∧¬Str.ofString "+"=Str.ofString "say"∧¬Str.ofString "+"=Str.ofString "pay"∧¬Str.ofString "+"=Str.ofString "if"∧¬Str.ofString "+"=Str.ofString "while"∧¬Str.ofString "+"=Str.ofString "-"∧¬Str.ofString "+"=Str.ofString "*"∧¬Str.ofString "+"=Str.ofString "deed"∧¬Str.ofString "+"=Str.ofString "tie"∧¬Str.ofString "+"=Str.ofString "heard"∧¬Str.ofString "+"=Str.ofString "must"∧¬Str.ofString "+"=Str.ofString "may":=by decide +kernel
@[simp] theorem Zlj:¬Str.ofString "-"=Str.ofString "cell"∧¬Str.ofString "-"=Str.ofString "purse"∧¬Str.ofString "-"=Str.ofString "news"∧¬Str.ofString "-"=Str.ofString "known"∧¬Str.ofString "-"=Str.ofString "above"∧¬Str.ofString "-"=Str.ofString "same"∧¬Str.ofString "-"=Str.ofString "not"∧¬Str.ofString "-"=Str.ofString "both"∧¬Str.ofString "-"=Str.ofString "set"∧¬Str.ofString "-"=Str.ofString "say"∧¬Str.ofString "-"=Str.ofString "pay"∧¬Str.ofString "-"=Str.ofString "if"∧¬Str.ofString "-"=Str.ofString "while"∧¬Str.ofString "-"=Str.ofString "+"∧¬Str.ofString "-"=Str.ofString "*"∧¬Str.ofString "-"=Str.ofString "deed"∧¬Str.ofString "-"=Str.ofString "tie"∧¬Str.ofString "-"=Str.ofString "heard"∧¬Str.ofString "-"=Str.ofString "must"∧¬Str.ofString "-"=Str.ofString "may":=by decide +kernel
@[simp] theorem ZlD:¬Str.ofString "*"=Str.ofString "cell"∧¬Str.ofString "*"=Str.ofString "purse"∧¬Str.ofString "*"=Str.ofString "news"∧¬Str.ofString "*"=Str.ofString "known"∧¬Str.ofString "*"=Str.ofString "above"∧¬Str.ofString "*"=Str.ofString "same"∧¬Str.ofString "*"=Str.ofString "not"∧¬Str.ofString "*"=Str.ofString "both"∧¬Str.ofString "*"=Str.ofString "set"∧¬Str.ofString "*"=Str.ofString "say"∧¬Str.ofString "*"=Str.ofString "pay"∧¬Str.ofString "*"=Str.ofString "if"∧¬Str.ofString "*"=Str.ofString "while"∧¬Str.ofString "*"=Str.ofString "+"∧¬Str.ofString "*"=Str.ofString "-"∧¬Str.ofString "*"=Str.ofString "deed"∧¬Str.ofString "*"=Str.ofString "tie"∧¬Str.ofString "*"=Str.ofString "heard"∧¬Str.ofString "*"=Str.ofString "must"∧¬Str.ofString "*"=Str.ofString "may":=by decide +kernel
@[simp] theorem ZlX:¬Str.ofString "deed"=Str.ofString "cell"∧¬Str.ofString "deed"=Str.ofString "purse"∧¬Str.ofString "deed"=Str.ofString "news"∧¬Str.ofString "deed"=Str.ofString "known"∧¬Str.ofString "deed"=Str.ofString "above"∧¬Str.ofString "deed"=Str.ofString "same"∧¬Str.ofString "deed"=Str.ofString "not"∧¬Str.ofString "deed"=Str.ofString "both"∧¬Str.ofString "deed"=Str.ofString "set"∧¬Str.ofString "deed"=Str.ofString "say"∧¬Str.ofString "deed"=Str.ofString "pay"∧¬Str.ofString "deed"=Str.ofString "if"∧¬Str.ofString "deed"=Str.ofString "while"∧¬Str.ofString "deed"=Str.ofString "+"∧¬Str.ofString "deed"=Str.ofString "-"∧¬Str.ofString "deed"=Str.ofString "*"∧¬Str.ofString "deed"=Str.ofString "tie"∧¬Str.ofString "deed"=Str.ofString "heard"∧¬Str.ofString "deed"=Str.ofString "must"∧¬Str.ofString "deed"=Str.ofString "may":=by decide +kernel
@[simp] theorem Zmh:¬Str.ofString "tie"=Str.ofString "cell"∧¬Str.ofString "tie"=Str.ofString "purse"∧¬Str.ofString "tie"=Str.ofString "news"∧¬Str.ofString "tie"=Str.ofString "known"∧¬Str.ofString "tie"=Str.ofString "above"∧¬Str.ofString "tie"=Str.ofString "same"∧¬Str.ofString "tie"=Str.ofString "not"∧¬Str.ofString "tie"=Str.ofString "both"∧¬Str.ofString "tie"=Str.ofString "set"∧¬Str.ofString "tie"=Str.ofString "say"∧¬Str.ofString "tie"=Str.ofString "pay"∧¬Str.ofString "tie"=Str.ofString "if"∧¬Str.ofString "tie"=Str.ofString "while"∧¬Str.ofString "tie"=Str.ofString "+"∧¬Str.ofString "tie"=Str.ofString "-"∧¬Str.ofString "tie"=Str.ofString "*"∧¬Str.ofString "tie"=Str.ofString "deed"∧¬Str.ofString "tie"=Str.ofString "heard"∧¬Str.ofString "tie"=Str.ofString "must"∧¬Str.ofString "tie"=Str.ofString "may":=by decide +kernel
@[simp] theorem ZmB:¬Str.ofString "heard"=Str.ofString "cell"∧¬Str.ofString "heard"=Str.ofString "purse"∧¬Str.ofString "heard"=Str.ofString "news"∧¬Str.ofString "heard"=Str.ofString "known"∧¬Str.ofString "heard"=Str.ofString "above"∧¬Str.ofString "heard"=Str.ofString "same"∧¬Str.ofString "heard"=Str.ofString "not"∧¬Str.ofString "heard"=Str.ofString "both"∧¬Str.ofString "heard"=Str.ofString "set"∧¬Str.ofString "heard"=Str.ofString "say"∧¬Str.ofString "heard"=Str.ofString "pay"∧¬Str.ofString "heard"=Str.ofString "if"∧¬Str.ofString "heard"=Str.ofString "while"∧¬Str.ofString "heard"=Str.ofString "+"∧¬Str.ofString "heard"=Str.ofString "-"∧¬Str.ofString "heard"=Str.ofString "*"∧¬Str.ofString "heard"=Str.ofString "deed"∧¬Str.ofString "heard"=Str.ofString "tie"∧¬Str.ofString "heard"=Str.ofString "must"∧¬Str.ofString "heard"=Str.ofString "may":=by decide +kernel
@[simp] theorem ZmV:¬Str.ofString "must"=Str.ofString "cell"∧¬Str.ofString "must"=Str.ofString "purse"∧¬Str.ofString "must"=Str.ofString "news"∧¬Str.ofString "must"=Str.ofString "known"∧¬Str.ofString "must"=Str.ofString "above"∧¬Str.ofString "must"=Str.ofString "same"∧¬Str.ofString "must"=Str.ofString "not"∧¬Str.ofString "must"=Str.ofString "both"∧¬Str.ofString "must"=Str.ofString "set"∧¬Str.ofString "must"=Str.ofString "say"∧¬Str.ofString "must"=Str.ofString "pay"∧¬Str.ofString "must"=Str.ofString "if"∧¬Str.ofString "must"=Str.ofString "while"∧¬Str.ofString "must"=Str.ofString "+"∧¬Str.ofString "must"=Str.ofString "-"∧¬Str.ofString "must"=Str.ofString "*"∧¬Str.ofString "must"=Str.ofString "deed"∧¬Str.ofString "must"=Str.ofString "tie"∧¬Str.ofString "must"=Str.ofString "heard"∧¬Str.ofString "must"=Str.ofString "may":=by decide +kernel
@[simp] theorem Znf:¬Str.ofString "may"=Str.ofString "cell"∧¬Str.ofString "may"=Str.ofString "purse"∧¬Str.ofString "may"=Str.ofString "news"∧¬Str.ofString "may"=Str.ofString "known"∧¬Str.ofString "may"=Str.ofString "above"∧¬Str.ofString "may"=Str.ofString "same"∧¬Str.ofString "may"=Str.ofString "not"∧¬Str.ofString "may"=Str.ofString "both"∧¬Str.ofString "may"=Str.ofString "set"∧¬Str.ofString "may"=Str.ofString "say"∧¬Str.ofString "may"=Str.ofString "pay"∧¬Str.ofString "may"=Str.ofString "if"∧¬Str.ofString "may"=Str.ofString "while"∧¬Str.ofString "may"=Str.ofString "+"∧¬Str.ofString "may"=Str.ofString "-"∧¬Str.ofString "may"=Str.ofString "*"∧¬Str.ofString "may"=Str.ofString "deed"∧¬Str.ofString "may"=Str.ofString "tie"∧¬Str.ofString "may"=Str.ofString "heard"∧¬Str.ofString "may"=Str.ofString "must":=by decide +kernel
end NA
namespace NM
def fillAt:Nat→Nat→List Bool
 | 0,_=>[]
 | n+1,k=>k.testBit n :: fillAt n k
def placeOf (f:List Bool):Nat:=f.foldl (fun p b=>2 * p+b.toNat) 0
def fills:Nat→List (List Bool)
 | 0=>[[]]
 | n+1=>(fills n).flatMap fun f=>[f++[false],f++[true]]
theorem fillAt_length (n k:Nat):(fillAt n k).length=n:=by
 induction n with
 | zero=>rfl
 | succ n ih=>simp [fillAt,ih]
theorem Vf (k m:Nat) (b:Bool):(2 * k+b.toNat).testBit (m+1)=k.testBit m:=by
 rw [Nat.testBit_succ]
 congr 1
 cases b <;> simp <;> omega
theorem W5 (k:Nat) (b:Bool):(2 * k+b.toNat).testBit 0=b:=by
 rw [Nat.testBit_zero]
 cases b <;> simp <;> omega
theorem Z0 (n k:Nat) (b:Bool):fillAt (n+1) (2 * k+b.toNat)=fillAt n k++[b]:=by
 induction n with
 | zero=>rw [fillAt,fillAt,fillAt,W5]; rfl
 | succ n ih=>
  rw [fillAt,ih,Vf,fillAt]
  rfl
theorem UI (n:Nat):List.range (2 * n)=(List.range n).flatMap fun k=>[2 * k,2 * k+1]:=by
 induction n with
 | zero=>rfl
 | succ n ih=>
  rw [show 2 * (n+1)=2 * n+1+1 by omega,List.range_succ,List.range_succ,ih,List.range_succ,List.flatMap_append]
  simp
theorem VI (n:Nat):fills n=(List.range (2 ^ n)).map (fillAt n):=by
 induction n with
 | zero=>rfl
 | succ n ih=>
  rw [fills,ih,Nat.pow_succ,Nat.mul_comm,UI,List.map_flatMap,List.flatMap_map]
  congr 1
  funext k
  have e0:=Z0 n k false
  have e1:=Z0 n k true
  simp at e0 e1
  simp [e0,e1]
theorem QO {P:List Bool→Prop} (h0:P []) (h1:∀ f b,P f→P (f++[b])) (f:List Bool):P f:=by
 have key:∀ l:List Bool,P l.reverse:=by
  intro l
  induction l with
  | nil=>exact h0
  | cons b l ih=>rw [List.reverse_cons]; exact h1 _ _ ih
 have:=key f.reverse
 rwa [List.reverse_reverse] at this
theorem XO (f:List Bool) (b:Bool):placeOf (f++[b])=2 * placeOf f+b.toNat:=by simp [placeOf]
theorem place_lt (f:List Bool):placeOf f < 2 ^ f.length:=by
 refine QO (P:=fun f=>placeOf f < 2 ^ f.length) (by simp [placeOf]) (fun f b ih=>?_) f
 show placeOf (f++[b]) < 2 ^ (f++[b]).length
 rw [XO,List.length_append,List.length_singleton,Nat.pow_succ]
 cases b <;> simp <;> omega
theorem Q5 (f:List Bool):fillAt f.length (placeOf f)=f:=by
 refine QO (P:=fun f=>fillAt f.length (placeOf f)=f) rfl (fun f b ih=>?_) f
 show fillAt (f++[b]).length (placeOf (f++[b]))=f++[b]
 rw [XO,List.length_append,List.length_singleton,Z0,ih]
theorem Vt {n k:Nat} (h:k < 2 ^ n):placeOf (fillAt n k)=k:=by
 induction n generalizing k with
 | zero=>simp at h; subst h; rfl
 | succ n ih=>
  have e:k=2 * (k / 2)+(decide (k % 2=1)).toNat:=by
   by_cases q:k % 2=1
   ·simp [q]; omega
   ·simp [q]; omega
  rw [e,Z0,XO,ih (by rw [Nat.pow_succ] at h; omega)]
abbrev ZcN:=List (Option Bool)
def maskN:ZcN→Nat
 | []=>1
 | o :: w=>(match o with
  | none=>maskN w ||| maskN w <<< 2 ^ w.length
  | some true=>maskN w <<< 2 ^ w.length
  | some false=>maskN w)
def lot (n m:Nat):List (List Bool):=((List.range (2 ^ n)).filter fun k=>m.testBit k).map (fillAt n)
theorem lot_mem {n m:Nat} {f:List Bool} (h:f.length=n):f ∈ lot n m↔m.testBit (placeOf f)=true:=by
 subst h
 rw [lot,List.mem_map]
 constructor
 ·rintro ⟨k,hk,e⟩
  obtain ⟨k1,k2⟩:=List.mem_filter.mp hk
  rw [← e,Vt (List.mem_range.mp k1)]
  exact k2
 ·intro h
  exact ⟨placeOf f,List.mem_filter.mpr ⟨List.mem_range.mpr (place_lt f),h⟩,Q5 f⟩
theorem lot_fill {n m:Nat} {f:List Bool} (h:f ∈ lot n m):f.length=n:=by
 obtain ⟨k,_,rfl⟩:=List.mem_map.mp h
 exact fillAt_length n k
end NM
namespace NA
open PySem L2 ND
theorem Zcs {n:Nat} {S:Za} {g x k:Int} {E:XP} {Q:D→Za→Prop} (h:S[n]? = some (.lst [.int g,.int x])) (hg:0≤g) (hx:0≤x) (hx2:x < 2147483647) (hk:0 < k) (hk2:k < 1073741824)
  (q:∀ r g' x',0≤r→r < k→0≤g'→0≤x'→x' < 2147483647→Q (.int r) (S.set n (.lst [.int g',.int x']))):Ev (m_q31 [.cel n,.int k]) S E Q:=by
 unfold m_q31
 rw [Zl]
 unfold Zc4
 simp [startD,h,List.getElem?_set_self']
 split
 ·rename_i hp
  exact ⟨hk,⟨hk,hk2⟩,q _ _ _ (Int.emod_nonneg _ (by omega)) (Int.emod_lt_of_pos _ hk) (Int.ediv_nonneg hg (by omega)) hx hx2⟩
 ·have h1:0≤(x * 48271+11) % 2147483647:=Int.emod_nonneg _ (by decide)
  have h2:(x * 48271+11) % 2147483647 < 2147483647:=Int.emod_lt_of_pos _ (by decide)
  refine ⟨by unfold mulC; simp,?_,hk,q _ _ _ (Int.emod_nonneg _ (by omega)) (Int.emod_lt_of_pos _ hk) hg h1 h2⟩
  have h3:0≤(x * 48271+11) % 2147483647 / 8:=Int.ediv_nonneg h1 (by decide)
  omega
def Bag (S:Za) (n:Nat):Prop:=∃ g x,S[n]? = some (.lst [.int g,.int x])∧0≤g∧0≤x∧x < 2147483647
def Onl (n:Nat) (S S':Za):Prop:=S'.length=S.length∧∀ m,m ≠ n→S'[m]? = S[m]?
theorem Onl.refl {n:Nat} {S:Za}:Onl n S S:=⟨rfl,fun _ _=>rfl⟩
theorem Onl.trans {n:Nat} {S S1 S2:Za} (a:Onl n S S1) (b:Onl n S1 S2):Onl n S S2:=⟨b.1.trans a.1,fun m h=>(b.2 m h).trans (a.2 m h)⟩
theorem ZC {n:Nat} {S:Za} {k:Int} {E:XP} {Q:D→Za→Prop} (h:Bag S n) (hk:0 < k) (hk2:k < 1073741824)
  (q:∀ r S',Bag S' n→Onl n S S'→0≤r→r < k→Q (.int r) S'):Ev (m_q31 [.cel n,.int k]) S E Q:=by
 obtain ⟨g,x,h1,h2,h3,h4⟩:=h
 have hn:=(List.getElem?_eq_some_iff.mp h1).1
 refine Zcs h1 h2 h3 h4 hk hk2 fun r g' x' r0 r1 a b c=>q r _ ⟨g',x',by rw [List.getElem?_set_self hn],a,b,c⟩ ⟨by simp,fun m hm=>List.getElem?_set_ne (Ne.symm hm)⟩ r0 r1
theorem Zbi {S:Za} {ns:List Int} {a:Int} {E:XP} {Q:D→Za→Prop} (h0:0≤a) (h6:a < 64) (q:∀ g x,0≤g→0≤x→x < 2147483647→Q (.cel S.length) (S++[.lst [.int g,.int x]])) :
  Ev (m_q35 [.rol (ns.map D.int),.int a]) S E Q:=by
 unfold m_q35
 rw [Zl]
 unfold Zc7
 obtain ⟨p,hp,hp0,hp1⟩:∃ p,atI [D.int 2147483629,D.int 2147483587,D.int 2147483579,D.int 2147483563,D.int 2147483549,D.int 2147483543,D.int 2147483497,D.int 2147483489] (a % 8)=some (.int p)∧0 < p∧p < 2147483648:=by
  obtain ⟨x,h1,h2⟩:=YI (xs:=[D.int 2147483629,D.int 2147483587,D.int 2147483579,D.int 2147483563,D.int 2147483549,D.int 2147483543,D.int 2147483497,D.int 2147483489]) (i:=a % 8) (by omega) (by show a % 8 < 8; omega)
  rw [h1]
  simp at h2
  rcases h2 with rfl | rfl | rfl | rfl | rfl | rfl | rfl | rfl <;> exact ⟨_,rfl,by decide,by decide⟩
 have m1:mulC 104729 a=true:=by unfold mulC; simp
 have m2:mulC 7919 a=true:=by unfold mulC; simp
 have m3:∀ i,mulC i 48271=true:=fun i=>by unfold mulC; simp
 have z1:(8:Nat)≤sizeLine:=by rw [sizeLine_eq]; decide
 have z2:(2:Nat)≤sizeLine:=by rw [sizeLine_eq]; decide
 have fin:∀ y:Int,0≤y % p∧y % p < p:=fun y=>⟨Int.emod_nonneg _ (by omega),Int.emod_lt_of_pos _ hp0⟩
 have fin2:∀ y:Int,0≤y % 2147483647∧y % 2147483647 < 2147483647:=fun y=>⟨Int.emod_nonneg _ (by omega),Int.emod_lt_of_pos _ (by omega)⟩
 by_cases hlt:a < (ns.length:Int)
 ·obtain ⟨c,hc⟩:∃ c:Int,atI (ns.map D.int) a=some (.int c):=by
   obtain ⟨x,h1,h2⟩:=YI (xs:=ns.map D.int) h0 (by rw [List.length_map]; exact hlt)
   obtain ⟨c,_,rfl⟩:=List.mem_map.mp h2
   exact ⟨c,h1⟩
  have fc:=fin2 c
  simp [startD,hlt,hc,hp,m1,m2,m3,z1,z2,hp0]
  have f1:=fin ((c % 2147483647+104729 * a+7) ^ 5)
  have b1:(c % 2147483647+104729 * a+7).natAbs < 18446744073709551616:=by omega
  have b2:((c % 2147483647+104729 * a+7) ^ 5 % p * 48271+7919 * a+11).natAbs < 18446744073709551616:=by omega
  split <;> split <;> exact ⟨b1,b2,q _ _ (by omega) (fin2 _).1 (fin2 _).2⟩
 ·simp [startD,hlt,hp,m1,m2,m3,z1,z2,hp0]
  have f1:=fin ((104729 * a+7) ^ 5)
  have b1:(104729 * a+7).natAbs < 18446744073709551616:=by omega
  have b2:((104729 * a+7) ^ 5 % p * 48271+7919 * a+11).natAbs < 18446744073709551616:=by omega
  exact ⟨b1,b2,q _ _ (by omega) (fin2 _).1 (fin2 _).2⟩
def ZfH (x:Str):Prop:=∀ c ∈ x.cps.toList,97≤c∧c≤122
theorem abc:∀ c ∈ (("abcdefghijklmnopqrstuvwxyz" : Str)).cps.toList,97≤c∧c≤122:=by decide +kernel
theorem Zh0:(("abcdefghijklmnopqrstuvwxyz" : Str)).cps.toList.length=26:=by decide +kernel
def Ext (n:Nat) (S S':Za):Prop:=S.length≤S'.length∧∀ m,m < S.length→m ≠ n→S'[m]? = S[m]?
theorem Ext.refl {n:Nat} {S:Za}:Ext n S S:=⟨Nat.le_refl _,fun _ _ _=>rfl⟩
theorem Ext.trans {n:Nat} {S S1 S2:Za} (a:Ext n S S1) (b:Ext n S1 S2):Ext n S S2:=⟨Nat.le_trans a.1 b.1,fun m h q=>(b.2 m (Nat.lt_of_lt_of_le h a.1) q).trans (a.2 m h q)⟩
theorem Onl.ext {n:Nat} {S S':Za} (o:Onl n S S'):Ext n S S':=⟨Nat.le_of_eq o.1.symm,fun m _ q=>o.2 m q⟩
theorem Ext.snoc {n:Nat} {S:Za} (x:Cell):Ext n S (S++[x]):=⟨by simp,fun m h _=>List.getElem?_append_left h⟩
theorem Bag.lt {S:Za} {n:Nat} (b:Bag S n):n < S.length:=by obtain ⟨_,_,e,_⟩:=b; exact (List.getElem?_eq_some_iff.mp e).1
theorem Bag.snoc {S:Za} {n:Nat} (b:Bag S n) (x:Cell):Bag (S++[x]) n:=by
 obtain ⟨g,y,e,r⟩:=b
 exact ⟨g,y,by rw [List.getElem?_append_left (List.getElem?_eq_some_iff.mp e).1]; exact e,r⟩
theorem Bag.set {S:Za} {n k:Nat} (b:Bag S n) (x:Cell) (h:n ≠ k):Bag (S.set k x) n:=by
 obtain ⟨g,y,e,r⟩:=b
 exact ⟨g,y,by rw [List.getElem?_set_ne (Ne.symm h)]; exact e,r⟩
def nameJ (cs:List Nat) (sp:Nat) (fi pc:Int) (j:Nat):Str:=⟨(cs.take sp++(97+((fi+pc * j) % 26).toNat) :: cs.drop sp).toArray⟩
structure Names (ns:List Str):Prop where
 nm:∀ x ∈ ns,ZfH x∧1≤x.length∧x.length≤8
 nd:ns.Nodup
theorem abc_at:∀ r:Nat,r < 26→(("abcdefghijklmnopqrstuvwxyz" : Str)).cps.toList[r]? = some (97+r):=by
 have h:∀ r ∈ List.range 26,(("abcdefghijklmnopqrstuvwxyz" : Str)).cps.toList[r]? = some (97+r):=by decide +kernel
 exact fun r hr=>h r (List.mem_range.mpr hr)
theorem J9 {cs:List Nat} {sp:Nat} {fi pc:Int} (hsp:sp≤cs.length) (hpc:pc=1∨pc=3∨pc=5∨pc=25) {i j:Nat} (hi:i < 11) (hj:j < 11) (h:nameJ cs sp fi pc i=nameJ cs sp fi pc j):i=j:=by
 have e:cs.take sp++(97+((fi+pc * i) % 26).toNat) :: cs.drop sp=cs.take sp++(97+((fi+pc * j) % 26).toNat) :: cs.drop sp:=by
  have:=congrArg (fun z:Str=>z.cps.toList) h
  simpa [nameJ] using this
 have e2:=List.append_cancel_left e
 have e3:97+((fi+pc * i) % 26).toNat=97+((fi+pc * j) % 26).toNat:=(List.cons.inj e2).1
 rcases hpc with rfl | rfl | rfl | rfl <;> omega
theorem YS {α:Type} {f:Nat→α}:∀ {n:Nat},(∀ i j,i < n→j < n→f i=f j→i=j)→((List.range n).map f).Nodup
 | 0,_=>List.nodup_nil
 | n+1,h=>by
  rw [List.range_succ,List.map_append]
  refine List.nodup_append.mpr ⟨YS fun i j hi hj=>h i j (by omega) (by omega),by simp,fun a ha b hb e=>?_⟩
  obtain ⟨i,hi,rfl⟩:=List.mem_map.mp ha
  simp at hb
  subst hb
  have hi:=List.mem_range.mp hi
  have:=h i n (by omega) (by omega) e
  omega
def isL (c:Nat):Bool:=decide (97≤c∧c≤122)
def isN:D→Bool
 | .str x=>decide (1≤x.length∧x.length≤8) && x.cps.toList.all isL
 | _=>false
theorem VL (x:Str):isN (.str x)=(decide (1≤x.length∧x.length≤8) && x.cps.toList.all isL):=rfl
inductive Sd:D→Prop
 | non:Sd .non
 | bl (b:Bool):Sd (.bl b)
 | int (i:Int):Sd (.int i)
 | str (x:Str):Sd (.str x)
 | lst {xs:List D}:(∀ x ∈ xs,Sd x)→xs.length≤1000→Sd (.lst xs)
 | tup {xs:List D}:(∀ x ∈ xs,Sd x)→xs.length≤1000→Sd (.tup xs)
section
variable {S:Za} {E:XP} {Q:D→Za→Prop} {d:D}
theorem Zbf (c:Nat):strIn ⟨#[c]⟩ "abcdefghijklmnopqrstuvwxyz" = isL c:=by
 have h1:strIn ⟨#[c]⟩ "abcdefghijklmnopqrstuvwxyz" = decide (c ∈ (("abcdefghijklmnopqrstuvwxyz" : Str)).cps.toList):=rfl
 rw [h1]
 unfold isL
 by_cases h:97≤c∧c≤122
 ·have h2:c ∈ (("abcdefghijklmnopqrstuvwxyz" : Str)).cps.toList:=by
   have:∀ c ∈ List.range 123,97≤c→c ∈ (("abcdefghijklmnopqrstuvwxyz" : Str)).cps.toList:=by decide +kernel
   exact this c (List.mem_range.mpr (by omega)) h.1
  rw [decide_eq_true h2,decide_eq_true h]
 ·rw [decide_eq_false h,decide_eq_false (fun z=>h (abc c z))]
theorem ZaC {w z:Str}:Ev (inD false (.str w) (.str z)) S E Q=Q (.bl (strIn w z)) S:=rfl
theorem Zai {t:Tg} {te:EM} {τ:DSt} {x:Str} {PL:List D→Za→Prop} (hl:x.length≤8) (h:∀ c:Nat,∃ τ1,t.bind (.str ⟨#[c]⟩) τ=some τ1∧∀ (Q:D→Za→Prop),Q (.bl (isL c)) S→Ev (te τ1) S (fun _ _ _=>False) Q)
  (q:PL ((x.cps.toList.map isL).map D.bl) S):Ev (noErr (compL t tYesD te τ (chS x) [])) S E PL:=by
 have e:(chS x).map (fun d=>D.bl (match d with
  | .str y=>isL (y.cps.getD 0 0)
  | _=>false))=(x.cps.toList.map isL).map D.bl:=by
  unfold chS
  rw [List.map_map,List.map_map]
  rfl
 refine Qn (fun d=>D.bl (match d with
  | .str y=>isL (y.cps.getD 0 0)
  | _=>false)) ?_ (fun d hd=>?_) (by rw [e]; exact q)
 ·unfold chS
  rw [List.length_map,← Y2]
  exact Nat.le_trans hl (by rw [sizeLine_eq]; decide)
 ·obtain ⟨c,_,rfl⟩:=List.mem_map.mp hd
  exact h c
theorem ZcO {l:List Nat}:(l.map isL).all id=l.all isL:=by
 rw [List.all_map]; rfl
theorem XF (h:Sd d) (q:Q (.bl (isN d)) S):Ev (m_q34 [d]) S E Q:=by
 unfold m_q34
 rw [Zl]
 unfold Zc6
 cases h with
 | str x=>
  simp [startD,dr,tyNm,wipeD]
  rw [VL] at q
  by_cases h1:1≤x.length
  ·by_cases h2:x.length≤8
   ·rw [decide_eq_true ⟨h1,h2⟩,Bool.true_and] at q
    rw [if_pos (by omega),if_pos (by omega)]
    refine Zai h2 (fun c=>⟨_,Zz,fun Q q=>?_⟩) ?_
    ·simp
     rw [ZaC,Zbf]
     exact q
    ·rw [JL,ZcO]
     exact q
   ·rw [decide_eq_false (fun z=>h2 z.2),Bool.false_and] at q
    rw [if_pos (by omega),if_neg (by omega)]
    exact q
  ·rw [decide_eq_false (fun z=>h1 z.1),Bool.false_and] at q
   rw [if_neg (by omega)]
   exact q
 | _=>simpa [startD,dr,tyNm,isN] using q
def many (xs:List D):Nat:=match Qv xs with
 | some ks=>(NDS.dedK ks).length
 | none=>0
theorem ZnD {x y:D} (h:Sd x) (h':Sd y):Sd (.tup [x,y]):=.tup (by simp [h,h']) (by simp)
end
end NA
namespace ND
open PySem L2
section
variable {S:Za} {E:XP} {Q:D→Za→Prop} {τ:DSt} {PB:Bool→Za→Prop}
@[simp] theorem ZhN (m:EM):Ev (mTru m τ) S E PB=Ev (m τ) S E fun x S1=>Ev (truD x) S1 E PB:=by unfold mTru; rw [Ze]
@[simp] theorem Ze6 {b:Bool}:Ev (truD (.bl b)) S E PB=PB b S:=rfl
@[simp] theorem ZdC {i:Int}:Ev (truD (.int i)) S E PB=PB (i != 0) S:=rfl
theorem Gv {neg:Bool} {x:Str} {kvs:List (Key × D)}:Ev (inD neg (.str x) (.dct kvs)) S E Q=Q (.bl (if neg then !(valD kvs (.inr x)).isSome else (valD kvs (.inr x)).isSome)) S:=by rfl
@[simp] theorem Zgh {xs:List D}:Ev (revTD (.tup xs)) S E Q=Q (.tup xs.reverse) S:=rfl
@[simp] theorem Zhv {i:Int}:Ev (invD (.int i)) S E Q=Q (.int (Builtin.bitNot i)) S:=rfl
@[simp] theorem Zby {b:Bool}:Ev (intCD [.bl b]) S E Q=Q (.int (if b then 1 else 0)) S:=rfl
@[simp] theorem ZeN {it:IM} {vs:List Nat} {t:Tg} {tt:TM} {te:EM}:Ev (mCompC it vs t tt te τ) S E Q=Ev (it τ) S E fun xs S1=>Ev (noErr (compL t tt te (wipeD τ vs) xs [])) S1 E fun ys S2=>Q (.cel S2.length) (S2++[.lst ys]):=by
 unfold mCompC; simp only [Ze,Vm]
theorem Zw {C f:Str} {n:Nat} {fs:List (Str × D)} {d:D} (h:S[n]? = some (.ins C fs)) (hf:fs.lookup f=some d):Ev (fldD [C] f (.cel n)) S E Q=Q d S:=by
 have e:fldD [C] f (.cel n) S = .ok d S:=by
  unfold fldD
  simp only [dr,h,hf]
  simp
 unfold Ev
 rw [e]
theorem ZE {C m:Str} {k n:Nat} {f:List D→M D} {o:EM} {ms:AM}:Ev (mMethI C m k f o ms τ) S E Q=Ev (o τ) S E fun x S1=>Ev (isObj C m x) S1 E fun _ S2=>Ev (ms τ) S2 E fun ds S3=>Ev (methD C m k f x ds) S3 E Q:=by
 unfold mMethI; simp only [Ze]
theorem ZD {C m:Str} {n:Nat} {fs:List (Str × D)} {PU:Unit→Za→Prop} (h:S[n]? = some (.ins C fs)) (hf:fs.lookup m=none):Ev (isObj C m (.cel n)) S E PU=PU () S:=by
 have e:isObj C m (.cel n) S = .ok () S:=by
  unfold isObj
  simp only [dr,h,hf]
  simp
 unfold Ev
 rw [e]
@[simp] theorem Gz {C m:Str} {k:Nat} {f:List D→M D} {x:D} {ds:List D}:Ev (methD C m k f x ds) S E Q=(ds.length+1=k∧Ev (f (x :: ds)) S E Q):=by
 unfold Ev methD
 by_cases h:ds.length+1=k
 ·rw [if_pos h]; simp [h]
 ·rw [if_neg h]; simp [h]
@[simp] theorem Gx {i:Int}:Ev (lenOf (.int i)) S E Q=((0≤i∧i < 2 ^ 63)∧Q (.int i) S):=by unfold lenOf; simp
@[simp] theorem Ze7 {i:Int}:Ev (truOf (.int i)) S E PB=((0≤i∧i < 2 ^ 63)∧PB (i != 0) S):=by
 unfold truOf
 rw [Ze,Gx]
 simp
@[simp] theorem ZeK {C:Str} {f:List D→M D} {x:D}:Ev (boolOD C f [x]) S E Q=Ev (truOD C f x) S E fun b S1=>Q (.bl b) S1:=by
 unfold boolOD
 rw [Ze]
 simp
@[simp] theorem ZbB {m:EM}:Ev (mSortSet m τ) S E Q=Ev (m τ) S E fun x S1=>Ev (sortSetD x) S1 E Q:=by unfold mSortSet; rw [Ze]
@[simp] theorem Zga {ms:AM} {PL:List D→Za→Prop}:Ev (mZip ms τ) S E PL=Ev (ms τ) S E fun x S1=>Ev (zipD x) S1 E PL:=by unfold mZip; rw [Ze]
@[simp] theorem Zgs {xs ys:List D} {PL:List D→Za→Prop}:Ev (zipD [.tup xs,.tup ys]) S E PL=PL (List.zipWith Wj xs ys) S:=rfl
@[simp] theorem ZeI {ts:List Tg} {ds:List D}:Tg.bind (.tp ts) (.tpo ds) τ=Tg.binds ts ds τ:=by rw [Tg.bind]
end
end ND
namespace NA
open PySem L2 ND NM
abbrev ZdY (p:Str × Bool):D:=.tup [.str p.1,.bl p.2]
abbrev ZaZ (ps:List (Str × Bool)):D:=.tup (ps.map ZdY)
abbrev kvP (p:Str × Bool):Key × D:=(.inr p.1,.bl p.2)
theorem Xu (x:Str):∀ ps:List (Str × Bool),valD (ps.map kvP) (.inr x)=(ps.lookup x).map D.bl
 | []=>rfl
 | p :: ps=>by
  have ih:=Xu x ps
  unfold valD at ih ⊢
  rw [List.map_cons,List.find?_cons,List.lookup_cons]
  by_cases h:p.1=x
  ·have e1:decide ((kvP p).1=Sum.inr x)=true:=decide_eq_true (show (Sum.inr p.1:Key)=Sum.inr x by rw [h])
   have e2:(x == p.1)=true:=beq_iff_eq.mpr h.symm
   rw [e1,e2]; rfl
  ·have e1:decide ((kvP p).1=Sum.inr x)=false:=decide_eq_false (fun z=>h (by injection z))
   have e2:(x == p.1)=false:=beq_eq_false_iff_ne.mpr (Ne.symm h)
   rw [e1,e2]; exact ih
end NA
namespace NA
open PySem L2 ND NM PySem.W
theorem Jw (a b:Nat):Builtin.bitOr (a:Int) (b:Int)=((a ||| b:Nat):Int):=by
 rw [PyProof.Rows.bitOr_and,os_band]
 have:=PyProof.Rows.nat_or_add_and a b
 omega
theorem Zcl (a k:Nat):(a:Int) * 2 ^ k=((a <<< k:Nat):Int):=by
 rw [Nat.shiftLeft_eq]
 simp
def MkW (w:ZcN) (i:Nat) (sz m:Int):Prop:=i≤w.length∧sz=((2 ^ i:Nat):Int)∧m=((maskN (w.drop (w.length - i)):Nat):Int)
theorem MkW.start (w:ZcN):MkW w 0 1 1:=⟨Nat.zero_le _,rfl,by simp [maskN]⟩
theorem MkW.cut {w:ZcN} {i:Nat} (hi:i < w.length):∃ o,w[w.length - 1 - i]? = some o∧w.drop (w.length - (i+1))=o :: w.drop (w.length - i)∧(w.drop (w.length - i)).length=i:=by
 have lt:w.length - 1 - i < w.length:=by omega
 refine ⟨w[w.length - 1 - i],List.getElem?_eq_getElem lt,?_,by rw [List.length_drop]; omega⟩
 rw [show w.length - (i+1)=w.length - 1 - i by omega,List.drop_eq_getElem_cons lt,show w.length - 1 - i+1=w.length - i by omega]
def nextM:Option Bool→Int→Int→Int
 | none,m,sz=>Builtin.bitOr m (m * 2 ^ sz.toNat)
 | some true,m,sz=>m * 2 ^ sz.toNat
 | some false,m,_=>m
theorem MkW.step {w:ZcN} {i:Nat} {sz m:Int} {o:Option Bool} (h:MkW w i sz m) (hi:i < w.length) (ho:w[w.length - 1 - i]? = some o) :
  MkW w (i+1) (sz * 2) (nextM o m sz):=by
 obtain ⟨h1,rfl,rfl⟩:=h
 obtain ⟨o',e1,e2,e3⟩:=MkW.cut hi
 cases e1.symm.trans ho
 refine ⟨hi,by rw [Nat.pow_succ]; simp,?_⟩
 rw [e2]
 have hs:=Zcl (maskN (w.drop (w.length - i))) (2 ^ i)
 cases o with
 | none=>
  show Builtin.bitOr _ (_ * 2 ^ (((2 ^ i:Nat):Int)).toNat)=((maskN (none :: w.drop (w.length - i)):Nat):Int)
  rw [Int.toNat_natCast,hs,Jw,maskN,e3]
 | some b=>
  cases b with
  | true=>
   show _ * 2 ^ (((2 ^ i:Nat):Int)).toNat=((maskN (some true :: w.drop (w.length - i)):Nat):Int)
   rw [Int.toNat_natCast,hs,maskN,e3]
  | false=>rfl
section
abbrev ZdL (f:List Bool):D:=.tup (f.map D.bl)
end
end NA
namespace ND
open PySem L2
end ND
namespace NA
open PySem L2 ND NM
section
variable {S:Za} {E:XP} {Q:D→Za→Prop}
theorem XD {n:Nat} {PL:List D→Za→Prop} (h:n≤100000):Ev (rng1D [.int (n:Int)]) S E PL=PL (intsD 0 n) S:=by
 rw [ZS,Int.toNat_natCast]
 exact propext ⟨fun h=>h.2,fun q=>⟨⟨by omega,by omega⟩,q⟩⟩
abbrev lotF (ns:List Str) (m:Nat):List (Str × D):=[("names",.tup (ns.map D.str)),("mask",.int (m:Int))]
abbrev lotCell (ns:List Str) (m:Nat):Cell:=.ins "Lot" (lotF ns m)
def Yi (S:Za) (n:Nat) (ns:List Str) (m:Nat):Prop:=S[n]? = some (lotCell ns m)
theorem Yi.lt {n m:Nat} {ns:List Str} (h:Yi S n ns m):n < S.length:=(List.getElem?_eq_some_iff.mp h).1
theorem Yi.snoc {n m:Nat} {ns:List Str} (h:Yi S n ns m) (x:Cell):Yi (S++[x]) n ns m:=by
 unfold Yi; rw [List.getElem?_append_left h.lt]; exact h
theorem Yi.ext {n m b:Nat} {ns:List Str} {S':Za} (h:Yi S n ns m) (e:Ext b S S') (hb:n ≠ b):Yi S' n ns m:=by
 unfold Yi; rw [e.2 n h.lt hb]; exact h
theorem Yi.new (ns:List Str) (m:Nat):Yi (S++[lotCell ns m]) S.length ns m:=by unfold Yi; simp
theorem Yi.names {n m:Nat} {ns:List Str} (h:Yi S n ns m):Ev (fldD ["Lot"] "names" (.cel n)) S E Q=Q (.tup (ns.map D.str)) S:=Zw h rfl
theorem Yi.mask {n m:Nat} {ns:List Str} (h:Yi S n ns m):Ev (fldD ["Lot"] "mask" (.cel n)) S E Q=Q (.int (m:Int)) S:=Zw h rfl
end
section
def Zik:D→Bool
 | .bl _=>true
 | _=>false
def isF (n:Nat):D→Bool
 | .tup xs=>decide (xs.length=n) && xs.all Zik
 | _=>false
end
section
structure Pairs (ns:List Str) (ps:List (Str × Bool)):Prop where
 nd:(ps.map (·.1)).Nodup
 mem:∀ p ∈ ps,p.1 ∈ ns
theorem Pairs.nil (ns:List Str):Pairs ns []:=⟨List.nodup_nil,by simp⟩
end
theorem lookup_mem {α β:Type} [BEq α] [LawfulBEq α]:∀ {ps:List (α × β)} {x:α} {b:β},ps.lookup x=some b→(x,b) ∈ ps
 | [],_,_,h=>by simp at h
 | p :: ps,x,b,h=>by
  rw [List.lookup_cons] at h
  cases e:(x == p.1) with
  | true=>
   rw [e] at h; cases h
   rw [beq_iff_eq.mp e]; exact List.mem_cons_self
  | false=>rw [e] at h; exact List.mem_cons_of_mem _ (lookup_mem h)
def ZgF (ns:List Str) (f:List Bool) (ps:List (Str × Bool)):Bool:=ps.all fun p=>(ns.zip f).lookup p.1 == some p.2
section
theorem Jv {i j:Nat} {x y:D} {τ:DSt}:Tg.bind (.tp [.nm i,.nm j]) (.tpo [x,y]) τ=some ((τ.set i (some x)).set j (some y)):=by simp
end
end NA
namespace ND
open PySem L2
section
variable {S:Za} {E:XP} {Q:D→Za→Prop} {τ:DSt}
@[simp] theorem Zdv {m:EM} {vs:List Nat} {t:Tg} {tt:TM} {te:EM}:Ev (mCompW m vs t tt te τ) S E Q=Ev (m τ) S E fun x S1=>Ev (compW x fun xs=>noErr (compL t tt te (wipeD τ vs) xs [])) S1 E Q:=by unfold mCompW; rw [Ze]
@[simp] theorem Zgf {n:Nat}:Ev (reverseD (.cel n) []) S E Q = ∃ xs,S[n]? = some (.lst xs)∧Q .non (S.set n (.lst xs.reverse)):=by
 unfold Ev reverseD
 cases e:S[n]? with
 | none=>simp only [e]; simp
 | some c=>
  cases c with
  | lst xs=>simp only [e]; simp
  | _=>simp only [e]; simp
end
end ND
namespace NA
open PySem L2 ND NM
section
variable {S:Za}
theorem Bag.of {n:Nat} {S':Za} (b:Bag S n) (o:Onl n S S') (h:Bag S' n):Bag S' n:=h
theorem Yi.onl {n m l:Nat} {ns:List Str} {S':Za} (h:Yi S l ns m) (o:Onl n S S') (ne:l ≠ n):Yi S' l ns m:=by
 unfold Yi; rw [o.2 l ne]; exact h
end
def Low (n m:Nat):Prop:=∀ k,m.testBit k=true→k < 2 ^ n
theorem low_fitted {n m:Nat} (h:Low n m) (x:Nat):Low n (m &&& x):=fun k hk=>by
 rw [Nat.testBit_and,Bool.and_eq_true] at hk
 exact h k hk.1
theorem lot_at {n m k:Nat} (h:k < 2 ^ n):fillAt n k ∈ lot n m↔m.testBit k=true:=by
 rw [lot_mem (fillAt_length n k),Vt h]
theorem ZbT {n m m':Nat} (h:Low n m) (h':Low n m') (e:∀ f,f ∈ lot n m↔f ∈ lot n m'):m=m':=by
 refine Nat.eq_of_testBit_eq fun k=>?_
 rw [Bool.eq_iff_iff]
 exact ⟨fun z=>(lot_at (h k z)).mp ((e _).mp ((lot_at (h k z)).mpr z)),fun z=>(lot_at (h' k z)).mp ((e _).mpr ((lot_at (h' k z)).mpr z))⟩
theorem VN (n:Nat):lot n 0=[]:=by simp [lot]
theorem lot_nil {n m:Nat} (h:Low n m):m=0↔lot n m=[]:=
 ⟨fun e=>by rw [e,VN],fun e=>ZbT h (fun k hk=>by simp at hk) fun f=>by rw [e,VN]⟩
end NA
namespace ND
open PySem L2
section
variable {S:Za} {E:XP} {Q:D→Za→Prop} {τ:DSt}
@[simp] theorem Ze2 {f:D→List D→M D} {mo:EM} {ms:AM}:Ev (mTupM f mo ms τ) S E Q=Ev (mo τ) S E fun x S1=>Ev (isTp x) S1 E fun _ S2=>Ev (ms τ) S2 E fun xs S3=>Ev (f x xs) S3 E Q:=by unfold mTupM; simp only [Ze]
@[simp] theorem Zf1 {xs:List D} {PU:Unit→Za→Prop}:Ev (isTp (.tup xs)) S E PU=PU () S:=rfl
@[simp] theorem Zgr {xs ys:List D} {PL:List D→Za→Prop}:Ev (zipD [.lst xs,.lst ys]) S E PL=PL (List.zipWith Wj xs ys) S:=rfl
end
end ND
namespace NA
open PySem L2 ND NM
section
variable {S:Za} {E:XP} {Q:D→Za→Prop} {ns:List Str} {d:D}
theorem UH:∀ ns:List Str,pys (ns.map D.str)=some (ns.map PyData.str)
 | []=>rfl
 | x :: ns=>by rw [List.map_cons,pys,UH ns]; rfl
theorem Z6:∀ ns:List Str,PyData.depthAll (ns.map PyData.str)≤2
 | []=>by simp [PyData.depthAll]
 | b :: f=>by
  have:=Z6 f
  rw [List.map_cons,PyData.depthAll]
  simp only [PyData.depth]
  omega
theorem pyD_names (ns:List Str):pyD S (.tup (ns.map D.str))=some (.tuple (ns.map .str)):=by
 have:=Z6 ns
 unfold pyD
 show (match py (.tup (ns.map D.str)) with | some z=>if z.depth≤64 then some z else none | none=>none)=_
 rw [py,UH]
 exact if_pos (by show PyData.depth _≤64; rw [PyData.depth]; omega)
theorem U3 {neg:Bool} {x:Str}:Ev (inD neg (.str x) (.tup (ns.map D.str))) S E Q=Q (.bl (if neg then !decide (x ∈ ns) else decide (x ∈ ns))) S:=by
 have e:inB (.str x) (.tup (ns.map D.str)) S=some (decide (x ∈ ns)):=by
  have h1:pyD S (.str x)=some (.str x):=rfl
  show (match pyD S (.str x),pyD S (.tup (ns.map D.str)) with
   | some a,some (.tuple ds)=>if flatP a && ds.all flatP then some (ds.any fun z=>PyData.eqv z a) else none
   | _,_=>none)=_
  rw [h1,pyD_names]
  have fl:(flatP (.str x) && (ns.map PyData.str).all flatP)=true:=by
   rw [List.all_map,Bool.and_eq_true]
   exact ⟨rfl,List.all_eq_true.mpr fun _ _=>rfl⟩
  show (if (flatP (.str x) && (ns.map PyData.str).all flatP)=true then some ((ns.map PyData.str).any fun z=>PyData.eqv z (.str x)) else none)=_
  rw [if_pos fl]
  congr 1
  rw [List.any_map,Bool.eq_iff_iff,List.any_eq_true,decide_eq_true_iff]
  constructor
  ·rintro ⟨y,hy,e⟩
   have e':PyData.eqv (.str y) (.str x)=true:=e
   rw [PyData.eqv] at e'
   rw [← eq_of_beq e']; exact hy
  ·intro h
   exact ⟨x,h,by show PyData.eqv (.str x) (.str x)=true; rw [PyData.eqv]; exact beq_self_eq_true x⟩
 unfold Ev inD
 rw [e]
def ZdX (ns:List Str) (d:D):Option Nat:=match d with
 | .tup [.str x,.bl _]=>idxS x ns 0
 | _=>none
def chk (ns:List Str):Int→List D→Bool
 | _,[]=>true
 | l,d :: ds=>match ZdX ns d with
  | some j=>decide (l < (j:Int)) && chk ns (j:Int) ds
  | none=>false
end
section
variable {S:Za} {E:XP} {Q:D→Za→Prop} {τ:DSt}
@[simp] theorem ZeY {ms:AM} {PL:List D→Za→Prop}:Ev (mEnum ms τ) S E PL=Ev (ms τ) S E fun x S1=>Ev (enumD x) S1 E PL:=by unfold mEnum; rw [Ze]
@[simp] theorem ZeS {xs:List D} {PL:List D→Za→Prop}:Ev (enumD [.tup xs]) S E PL=PL (enumL 0 xs) S:=rfl
@[simp] theorem ZaF {m:EM}:Ev (mSortSetB m τ) S E Q=Ev (m τ) S E fun x S1=>Ev (sortSetBD x) S1 E Q:=by unfold mSortSetB; rw [Ze]
@[simp] theorem Ze1 {C:Str} {f:List D→M D} {m:EM} {PB:Bool→Za→Prop}:Ev (mTruO C f m τ) S E PB=Ev (m τ) S E fun x S1=>Ev (truOD C f x) S1 E PB:=by unfold mTruO; rw [Ze]
theorem XY:∀ f g:List Str,PyData.eqvAll (f.map PyData.str) (g.map PyData.str)=decide (f=g)
 | [],[]=>by simp [PyData.eqvAll]
 | [],_ :: _=>by simp [PyData.eqvAll]
 | _ :: _,[]=>by simp [PyData.eqvAll]
 | x :: f,y :: g=>by
  rw [List.map_cons,List.map_cons,PyData.eqvAll,XY f g]
  have:PyData.eqv (.str x) (.str y)=(x == y):=by simp only [PyData.eqv]
  rw [this]
  by_cases h1:x=y <;> by_cases h2:f=g <;> simp [h1,h2]
theorem UW {neg:Bool} {ps qs:List Str}:Ev (eqvD neg (.tup (ps.map D.str)) (.tup (qs.map D.str))) S E Q=Q (.bl (if neg then !decide (ps=qs) else decide (ps=qs))) S:=by
 rw [WH (pyD_names _) (pyD_names _),PyData.eqv,XY]
theorem Ka {neg:Bool} {ns:List Str}:Ev (eqvD neg (.tup (ns.map D.str)) (.tup [])) S E Q=Q (.bl (if neg then !decide (ns=[]) else decide (ns=[]))) S:=UW (qs:=[])
end
end NA
namespace ND
open PySem L2
section
variable {S:Za} {E:XP} {Q:D→Za→Prop} {τ:DSt}
@[simp] theorem ZeZ {m:EM}:Ev (mFix m τ) S E Q=Ev (m τ) S E fun x S1=>Ev (fixD x) S1 E Q:=Zdr m
theorem Zbx {n:Nat} {xs:List D} (h:S[n]? = some (.lst xs)):Ev (fixD (.cel n)) S E Q=Q (.lst xs) (S.set n (.fz (.lst xs))):=by
 unfold Ev fixD
 simp only [h]
@[simp] theorem Zgg {xs:List D}:Ev (revLD (.lst xs)) S E Q=Q (.lst xs.reverse) S:=rfl
end
end ND
namespace NM
end NM
namespace NA
open PySem L2 ND NM
abbrev ZhY:=Bool × List (Str × Bool)
def turned (ps:List (Str × Bool)):List ZhY:=ps.map fun p=>(true,[(p.1,!p.2)])
end NA
namespace ND
open PySem L2
section
variable {S:Za} {E:XP} {Q:D→Za→Prop} {τ:DSt} {ER:Str→List (Str × D)→DSt→Za→Prop} {PR:Flow→Za→Prop}
@[simp] theorem Zfp {is:List Nat} {j:Nat} {m:EM}:EvR (sStar is j m τ S) ER PR=Ev (m τ) S (fun C fs S'=>ER C fs τ S') fun d S'=>EvR (starK is j d τ S') ER PR:=by unfold sStar; simp
@[simp] theorem ZdK {is:List Nat} {j:Nat} {xs:List D}:EvR (starK is j (.tup xs) τ S) ER PR=((is.length≤xs.length∧xs.length≤16384)∧PR (.nx ((setAll is xs τ).set j (some (.lst (xs.drop is.length))))) S):=by
 unfold starK
 simp only [dr]
 by_cases h:is.length≤xs.length∧xs.length≤16384
 ·rw [if_pos h]; simp [h]
 ·rw [if_neg h]; simp [EvR,h]
@[simp] theorem ZcF {xs:List D}:setAll [] xs τ=τ:=by unfold setAll; rfl
@[simp] theorem Zcj {i:Nat} {is:List Nat} {x:D} {xs:List D}:setAll (i :: is) (x :: xs) τ=setAll is xs (τ.set i (some x)):=rfl
@[simp] theorem Zbw {n:Nat} {ys:List D}:Ev (extendD (.cel n) [.lst ys]) S E Q = ∃ xs,S[n]? = some (.lst xs)∧xs.length+ys.length≤sizeLine∧Q .non (S.set n (.lst (xs++ys))):=by
 unfold Ev extendD
 cases e:S[n]? with
 | none=>simp only [e]; simp
 | some c=>
  cases c with
  | lst xs=>
   by_cases h:xs.length+ys.length≤sizeLine
   ·simp only [e,if_pos h]; simp [h]
   ·simp only [e,if_neg h]; simp [h]
  | _=>simp only [e]; simp
@[simp] theorem ZfY {i j:Nat} {m:EM}:Ev (mFlat i j m τ) S E Q=((i < τ.length∧j < τ.length)∧Ev (m τ) S E fun x S1=>Ev (flatD x) S1 E Q):=by
 unfold mFlat; simp only [ZN,Ze,decide_eq_true_eq]
theorem QB:∀ yss:List (List D),lstsOf (yss.map D.lst)=some yss
 | []=>rfl
 | y :: r=>by rw [List.map_cons,lstsOf,QB r]; rfl
theorem Gu {yss:List (List D)}:Ev (flatD (.lst (yss.map D.lst))) S E Q=(yss.flatten.length≤sizeLine∧Q (.lst yss.flatten) S):=by
 unfold Ev flatD
 simp only [dr,QB]
 by_cases h:yss.flatten.length≤sizeLine
 ·rw [if_pos h]; exact propext ⟨fun q=>⟨h,q⟩,And.right⟩
 ·rw [if_neg h]; exact propext ⟨False.elim,fun q=>h q.1⟩
@[simp] theorem ZdB {it:IM} {vs:List Nat} {t:Tg} {tt:TM} {te:EM}:Ev (mSortSC it vs t tt te τ) S E Q=Ev (it τ) S E fun xs S1=>xs.length≤1024∧Ev (noErr (compL t tt (fun τ=>te τ >>= strM) (wipeD τ vs) xs [])) S1 E fun ys S2=>Ev (sortKeys ys) S2 E Q:=by
 unfold mSortSC; simp only [ZN,Ze,decide_eq_true_eq]
@[simp] theorem ZaG {m:EM}:Ev (mSortSetS m τ) S E Q=Ev (m τ) S E fun x S1=>Ev (sortSetSD x) S1 E Q:=by unfold mSortSetS; rw [Ze]
@[simp] theorem Ze3 {ms:AM} {PL:List D→Za→Prop}:Ev (mZipM ms τ) S E PL=Ev (ms τ) S E fun x S1=>Ev (zipMD x) S1 E PL:=by unfold mZipM; rw [Ze]
@[simp] theorem Zfb {xs ys:List D} {PL:List D→Za→Prop}:Ev (zipMD [.tup xs,.lst ys]) S E PL=PL (List.zipWith Wj xs ys) S:=rfl
@[simp] theorem Yb {i j:Int}:Ev (addID (.int i) (.int j)) S E Q=Q (.int (i+j)) S:=rfl
@[simp] theorem Zgm {x:Str}:Ev (strM (.str x)) S E Q=Q (.str x) S:=rfl
@[simp] theorem ZnJ {α:Type} {x y z:α} {r:List α}:atI (x :: y :: z :: r) 2=some z:=Wy (n:=2) rfl rfl
@[simp] theorem ZnK {α:Type} {x y z w:α} {r:List α}:atI (x :: y :: z :: w :: r) 3=some w:=Wy (n:=3) rfl rfl
end
end ND
namespace NA
open PySem L2 ND
def Pk (k:Nat) (d:D):Prop:=∃ z,py d=some z∧z.depth≤k
theorem Pk.mono {k j:Nat} {d:D} (h:Pk k d) (le:k≤j):Pk j d:=by obtain ⟨z,a,b⟩:=h; exact ⟨z,a,Nat.le_trans b le⟩
theorem Yx {k:Nat} {x:Str}:Pk k (.str x):=⟨_,rfl,by simp [PyData.depth]⟩
theorem Za1 {k:Nat} {i:Int}:Pk k (.int i):=⟨_,rfl,by simp [PyData.depth]⟩
theorem pks {k:Nat}:∀ {xs:List D},(∀ x ∈ xs,Pk k x)→∃ zs,pys xs=some zs∧PyData.depthAll zs≤k∧zs.length=xs.length
 | [],_=>⟨[],rfl,by simp [PyData.depthAll],rfl⟩
 | x :: xs,h=>by
  obtain ⟨z,h1,h2⟩:=h x List.mem_cons_self
  obtain ⟨zs,h3,h4,h5⟩:=pks fun y hy=>h y (List.mem_cons_of_mem _ hy)
  exact ⟨z :: zs,by rw [pys,h1,h3],by rw [PyData.depthAll]; omega,by simp [h5]⟩
theorem pk_tup {k:Nat} {xs:List D} (h:∀ x ∈ xs,Pk k x):Pk (k+1) (.tup xs):=by
 obtain ⟨zs,h1,h2,_⟩:=pks h
 exact ⟨.tuple zs,by rw [py,h1]; rfl,by rw [PyData.depth]; omega⟩
section
variable {S:Za} {E:XP} {Q:D→Za→Prop}
theorem JM {neg:Bool} {ds:List D} {k:Nat} (h:∀ x ∈ ds,Pk k x) (hk:k < 64):Ev (eqvD neg (.tup ds) (.tup [])) S E Q=Q (.bl (if neg then !decide (ds=[]) else decide (ds=[]))) S:=by
 obtain ⟨zs,h1,h2,h3⟩:=pks h
 have h4:pyD S (.tup ds)=some (.tuple zs):=by
  unfold pyD
  show (match py (.tup ds) with | some z=>if z.depth≤64 then some z else none | none=>none)=_
  rw [py,h1]
  exact if_pos (by rw [PyData.depth]; omega)
 rw [WH h4 (b:=.tuple []) rfl]
 cases zs with
 | nil=>
  have:ds=[]:=List.length_eq_zero_iff.mp h3.symm
  subst this; rfl
 | cons z zs=>
  have:ds ≠ []:=fun e=>by subst e; simp at h3
  rw [decide_eq_false this]; rfl
end
inductive SumD:Nat→D→Prop
 | cell {n:Nat} {x:Str}:isN (.str x)=true→SumD (n+1) (.str x)
 | num {n:Nat} {i:Int}:-1000000000≤i→i≤1000000000→SumD (n+1) (.int i)
 | purse {n:Nat} {x:Str}:isN (.str x)=true→SumD (n+1) (.tup [.str "purse",.str x])
 | op {n:Nat} {s:Str} {a b:D}:s = "+" ∨ s = "-" ∨ s = "*" → SumD n a→SumD n b→SumD (n+1) (.tup [.str s,a,b])
inductive TestD:Nat→D→Prop
 | news {n:Nat} {x:Str}:isN (.str x)=true→TestD (n+1) (.tup [.str "news",.str x])
 | known {n:Nat} {x:Str}:isN (.str x)=true→TestD (n+1) (.tup [.str "known",.str x])
 | cmp {n:Nat} {w:Str} {a b:D}:w = "above" ∨ w = "same" → SumD 2 a→SumD 2 b→TestD (n+1) (.tup [.str w,a,b])
 | not {n:Nat} {a:D}:TestD n a→TestD (n+1) (.tup [.str "not",a])
 | both {n:Nat} {a b:D}:TestD n a→TestD n b→TestD (n+1) (.tup [.str "both",a,b])
mutual
inductive RowD:Nat→Nat→D→Prop
 | set {n:Nat} {x:Str} {s:D}:isN (.str x)=true→SumD 5 s→RowD n 1 (.tup [.str "set",.str x,s])
 | say {n:Nat} {s:D}:SumD 5 s→RowD n 1 (.tup [.str "say",s])
 | pay {n:Nat} {x y:Str} {s:D}:isN (.str x)=true→isN (.str y)=true→SumD 5 s→RowD n 1 (.tup [.str "pay",.str x,.str y,s])
 | ifs {n a b:Nat} {t:D} {as bs:List D}:TestD 3 t→RowsD n a as→RowsD n b bs→as.length≤10→bs.length≤10→RowD (n+1) (1+a+b) (.tup [.str "if",t,.tup as,.tup bs])
 | whl {n a:Nat} {t:D} {as:List D}:TestD 3 t→RowsD n a as→as.length≤10→RowD (n+1) (1+a) (.tup [.str "while",t,.tup as])
inductive RowsD:Nat→Nat→List D→Prop
 | nil {n:Nat}:RowsD n 0 []
 | cons {n a b:Nat} {d:D} {ds:List D}:RowD n a d→RowsD n b ds→RowsD n (a+b) (d :: ds)
end
theorem SumD.mono {n m:Nat} {d:D} (h:SumD n d):n≤m→SumD m d:=by
 induction h generalizing m with
 | cell hx=>intro le; obtain ⟨k,rfl⟩:∃ k,m=k+1:=⟨m - 1,by omega⟩; exact .cell hx
 | num h1 h2=>intro le; obtain ⟨k,rfl⟩:∃ k,m=k+1:=⟨m - 1,by omega⟩; exact .num h1 h2
 | purse hx=>intro le; obtain ⟨k,rfl⟩:∃ k,m=k+1:=⟨m - 1,by omega⟩; exact .purse hx
 | op hs _ _ i1 i2=>intro le; obtain ⟨k,rfl⟩:∃ k,m=k+1:=⟨m - 1,by omega⟩; exact .op hs (i1 (by omega)) (i2 (by omega))
theorem TestD.mono {n m:Nat} {d:D} (h:TestD n d):n≤m→TestD m d:=by
 induction h generalizing m with
 | news hx=>intro le; obtain ⟨k,rfl⟩:∃ k,m=k+1:=⟨m - 1,by omega⟩; exact .news hx
 | known hx=>intro le; obtain ⟨k,rfl⟩:∃ k,m=k+1:=⟨m - 1,by omega⟩; exact .known hx
 | cmp hs h1 h2=>intro le; obtain ⟨k,rfl⟩:∃ k,m=k+1:=⟨m - 1,by omega⟩; exact .cmp hs h1 h2
 | not _ i1=>intro le; obtain ⟨k,rfl⟩:∃ k,m=k+1:=⟨m - 1,by omega⟩; exact .not (i1 (by omega))
 | both _ _ i1 i2=>intro le; obtain ⟨k,rfl⟩:∃ k,m=k+1:=⟨m - 1,by omega⟩; exact .both (i1 (by omega)) (i2 (by omega))
theorem SumD.pk {n:Nat} {d:D} (h:SumD n d):Pk n d:=by
 induction h with
 | cell _=>exact Yx
 | num _ _=>exact Za1
 | purse _=>exact (pk_tup (k:=0) (by intro x hx; simp at hx; rcases hx with rfl | rfl <;> exact Yx)).mono (by omega)
 | op _ _ _ i1 i2=>exact pk_tup (by intro x hx; simp at hx; rcases hx with rfl | rfl | rfl <;> first | exact Yx | assumption)
theorem TestD.pk {n:Nat} {d:D} (h:TestD n d):Pk (n+2) d:=by
 induction h with
 | news _ | known _=>exact (pk_tup (k:=0) (by intro x hx; simp at hx; rcases hx with rfl | rfl <;> exact Yx)).mono (by omega)
 | cmp _ h1 h2=>exact (pk_tup (k:=2) (by intro x hx; simp at hx; rcases hx with rfl | rfl | rfl <;> first | exact Yx | exact h1.pk | exact h2.pk)).mono (by omega)
 | not _ i1=>exact pk_tup (by intro x hx; simp at hx; rcases hx with rfl | rfl <;> first | exact Yx | assumption)
 | both _ _ i1 i2=>exact pk_tup (by intro x hx; simp at hx; rcases hx with rfl | rfl | rfl <;> first | exact Yx | assumption)
mutual
theorem RowD.pk:∀ {n c:Nat} {d:D},RowD n c d→Pk (2 * n+6) d
 | n,_,_,.set _ hs=>(pk_tup (k:=5) (by intro x hx; simp at hx; rcases hx with rfl | rfl | rfl <;> first | exact Yx | exact hs.pk)).mono (by omega)
 | n,_,_,.say hs=>(pk_tup (k:=5) (by intro x hx; simp at hx; rcases hx with rfl | rfl <;> first | exact Yx | exact hs.pk)).mono (by omega)
 | n,_,_,.pay _ _ hs=>(pk_tup (k:=5) (by intro x hx; simp at hx; rcases hx with rfl | rfl | rfl | rfl <;> first | exact Yx | exact hs.pk)).mono (by omega)
 | _,_,_,.ifs (n:=n) ht ha hb _ _=>(pk_tup (k:=2 * n+7) (by
  intro x hx; simp at hx
  rcases hx with rfl | rfl | rfl | rfl
  ·exact Yx
  ·exact ht.pk.mono (by omega)
  ·exact pk_tup (RowsD.pk ha)
  ·exact pk_tup (RowsD.pk hb))).mono (by omega)
 | _,_,_,.whl (n:=n) ht ha _=>(pk_tup (k:=2 * n+7) (by
  intro x hx; simp at hx
  rcases hx with rfl | rfl | rfl
  ·exact Yx
  ·exact ht.pk.mono (by omega)
  ·exact pk_tup (RowsD.pk ha))).mono (by omega)
theorem RowsD.pk:∀ {n c:Nat} {ds:List D},RowsD n c ds→∀ d ∈ ds,Pk (2 * n+6) d
 | _,_,_,.nil=>fun _ h=>nomatch h
 | _,_,_,.cons h t=>fun d hd=>(List.mem_cons.mp hd).elim (fun e=>e ▸ RowD.pk h) (RowsD.pk t d)
end
theorem SumD.sd {n:Nat} {d:D} (h:SumD n d):Sd d:=by
 induction h with
 | cell _=>exact .str _
 | num _ _=>exact .int _
 | purse _=>exact ZnD (.str _) (.str _)
 | op _ _ _ i1 i2=>exact .tup (by intro x hx; simp at hx; rcases hx with rfl | rfl | rfl <;> first | exact .str _ | assumption) (by simp)
def Hd (d:D):Prop:=(∃ x,d = .str x)∨(∃ i,d = .int i)∨∃ s r,d = .tup (.str s :: r)
section
variable {S:Za} {E:XP} {Q:D→Za→Prop}
theorem SumD.hd {n:Nat} {d:D} (h:SumD n d):Hd d:=by
 cases h with
 | cell _=>exact .inl ⟨_,rfl⟩
 | num _ _=>exact .inr (.inl ⟨_,rfl⟩)
 | purse _=>exact .inr (.inr ⟨_,_,rfl⟩)
 | op _ _ _=>exact .inr (.inr ⟨_,_,rfl⟩)
theorem X1 {s:Str} {r:List D}:Hd (.tup (.str s :: r)):=.inr (.inr ⟨_,_,rfl⟩)
theorem ZF {d:D} (h:Hd d) (q:Q (.bl (match d with | .int _=>true | _=>false)) S):Ev (m_q32 [d]) S E Q:=by
 unfold m_q32
 rw [Zl]
 unfold Zc5
 rcases h with ⟨x,rfl⟩ | ⟨i,rfl⟩ | ⟨s,r,rfl⟩ <;> simpa [startD,dr,tyNm] using q
end
section
theorem TestD.hd {n:Nat} {d:D} (h:TestD n d):Hd d:=by
 cases h <;> exact X1
end
end NA
namespace ND
open PySem L2
section
variable {S:Za} {τ τ1:DSt} {ER:Str→List (Str × D)→DSt→Za→Prop} {PR:Flow→Za→Prop} {t:Tg} {b:SM}
def nextP (t:Tg) (b:SM) (xs:List D) (ER:Str→List (Str × D)→DSt→Za→Prop) (PR:Flow→Za→Prop):Flow→Za→Prop:=fun f S'=>match f with
 | .nx τ'=>EvR (forL t b xs τ' S') ER PR
 | .ct τ'=>EvR (forL t b xs τ' S') ER PR
 | .bk τ'=>PR (.nx τ') S'
 | .rt d=>PR (.rt d) S'
@[simp] theorem Zfr {xs:List D}:nextP t b xs ER PR (.nx τ) S=EvR (forL t b xs τ S) ER PR:=rfl
@[simp] theorem Zfs {xs:List D} {d:D}:nextP t b xs ER PR (.rt d) S=PR (.rt d) S:=rfl
theorem GB {x:D} {xs:List D} (h:t.bind x τ=some τ1):EvR (forL t b (x :: xs) τ S) ER PR=EvR (b τ1 S) ER (nextP t b xs ER PR):=by
 unfold forL
 rw [h]
 dsimp only
 cases e:b τ1 S with
 | ok f S2=>cases f <;> rfl
 | err C fs τ2 S2=>rfl
 | bad=>rfl
@[simp] theorem Zfg:EvR (forL t b [] τ S) ER PR=PR (.nx τ) S:=by unfold forL; rfl
@[simp] theorem Zfh {i:Nat} {x:D} {xs:List D}:EvR (forL (.nm i) b (x :: xs) τ S) ER PR=EvR (b (τ.set i (some x)) S) ER (nextP (.nm i) b xs ER PR):=GB Zz
end
end ND
namespace NA
open PySem L2 ND
section
variable {S:Za} {E:XP} {Q:D→Za→Prop}
@[simp] theorem in2 {x a b:Str}:Ev (inD false (.str x) (.tup [.str a,.str b])) S E Q=Q (.bl (decide (x=a∨x=b))) S:=by
 have e:(D.tup [.str a,.str b]) = .tup (([a,b]:List Str).map D.str):=rfl
 rw [e,U3]
 simp
theorem RowD.hd {n c:Nat} {d:D} (h:RowD n c d):Hd d:=by
 cases h <;> exact X1
end
end NA
namespace ND
open PySem L2
section
variable {S:Za} {τ:DSt} {E:XP} {PL:List D→Za→Prop} {te:EM}
@[simp] theorem ZeP {i:Nat} {x:D} {xs acc:List D}:Ev (compL (.nm i) tYesD te τ (x :: xs) acc) S E PL=Ev (te (τ.set i (some x))) S E fun y S1=>acc.length < sizeLine∧Ev (compL (.nm i) tYesD te τ xs (acc++[y])) S1 E PL:=by
 rw [compL,Zz]
 simp [Ze]
@[simp] theorem ZeO {t:Tg} {tt:TM} {acc:List D}:Ev (compL t tt te τ [] acc) S E PL=PL acc S:=by rw [compL]; rfl
end
end ND
namespace NA
open PySem L2 ND
theorem zs:100000 < sizeLine:=by rw [sizeLine_eq]; decide
theorem fuel {n f:Nat} (h:n+1≤f):∃ g,f=g+1∧n≤g:=⟨f - 1,by omega,by omega⟩
theorem flat2 {S:Za} {E:XP} {Q:D→Za→Prop} {a b:List D} (h:(a++b).length≤sizeLine) (q:Q (.lst (a++b)) S):Ev (flatD (.lst [.lst a,.lst b])) S E Q:=by
 have e:(D.lst [.lst a,.lst b]) = .lst ([a,b].map D.lst):=rfl
 rw [e,Gu]
 simp only [List.flatten_cons,List.flatten_nil,List.append_nil]
 exact ⟨h,q⟩
theorem Y6 {S:Za} {k:Nat} {acc:List D} (h:S[k]? = some (.lst acc)):tyNm (dr S (.cel k))=some "list" := by simp only [dr,h]; rfl
def selW (ws:List Str) (L:List (Str × Str)):List Str:=(L.filter fun (p:Str × Str)=>decide (p.1 ∈ ws)).map (·.2)
theorem mem_selW {ws:List Str} {L:List (Str × Str)} {x:Str}:x ∈ selW ws L↔∃ w ∈ ws,(w,x) ∈ L:=by
 unfold selW
 rw [List.mem_map]
 constructor
 ·rintro ⟨⟨w,y⟩,h,rfl⟩
  rw [List.mem_filter] at h
  exact ⟨w,of_decide_eq_true h.2,h.1⟩
 ·rintro ⟨w,hw,h⟩
  exact ⟨(w,x),List.mem_filter.mpr ⟨h,decide_eq_true hw⟩,rfl⟩
structure Kit (k:D) (ns cs:List Str) (ps:List (Str × D)):Prop where
 eq:k = .tup [.tup (ns.map D.str),.tup (cs.map D.str),.tup (ps.map fun p=>D.tup [.str p.1,p.2])]
 nn:∀ x ∈ ns,isN (.str x)=true
 nl:ns.length≤20
 cn:∀ x ∈ cs,isN (.str x)=true
 cl:3≤cs.length∧cs.length≤4
 pn:∀ p ∈ ps,isN (.str p.1)=true∧Pk 3 p.2
 pl:ps.length≤20
theorem names_isN {ns:List Str} (h:Names ns):∀ x ∈ ns,isN (.str x)=true:=fun x hx=>by
 obtain ⟨h1,h2,h3⟩:=h.nm x hx
 rw [VL,Bool.and_eq_true]
 exact ⟨decide_eq_true ⟨h2,h3⟩,List.all_eq_true.mpr fun c hc=>decide_eq_true (h1 c hc)⟩
section
variable {S:Za} {E:XP} {Q:D→Za→Prop} {n:Nat} {k:D} {ns cs:List Str} {ps:List (Str × D)}
theorem Kit.purses {k:D} (h:Kit k ns cs ps):∀ x ∈ ps.map (fun p=>D.tup [.str p.1,p.2]),Pk 4 x:=fun x hx=>by
 obtain ⟨p,hp,rfl⟩:=List.mem_map.mp hx
 exact pk_tup (k:=3) (by intro y hy; simp at hy; rcases hy with rfl | rfl; exact Yx; exact (h.pn p hp).2)
theorem Xm {cs:List Str} {r:Int} (h0:0≤r) (h1:r < cs.length):∃ x,x ∈ cs∧atI (cs.map D.str) r=some (.str x):=by
 obtain ⟨d,hd,hm⟩:=YI (xs:=cs.map D.str) h0 (by simpa using h1)
 obtain ⟨x,hx,rfl⟩:=List.mem_map.mp hm
 exact ⟨x,hx,hd⟩
theorem Ke {ps:List (Str × D)} {r:Int} (h0:0≤r) (h1:r < ps.length):∃ p,p ∈ ps∧atI (ps.map fun p=>D.tup [.str p.1,p.2]) r=some (.tup [.str p.1,p.2]):=by
 obtain ⟨d,hd,hm⟩:=YI (xs:=ps.map fun p=>D.tup [.str p.1,p.2]) h0 (by simpa using h1)
 obtain ⟨x,hx,rfl⟩:=List.mem_map.mp hm
 exact ⟨x,hx,hd⟩
theorem ZH:∀ {k:D} {ns cs:List Str} {ps:List (Str × D)} {n m f:Nat} {S:Za} {E:XP} {Q:D→Za→Prop},Kit k ns cs ps→Bag S n→1≤m→m≤f→(∀ d S',SumD m d→Bag S' n→Onl n S S'→Q d S')→Ev (m_q33 f [.cel n,k,.int m]) S E Q
 | k,ns,cs,ps,n,m,f+1,S,E,Q,K,b,h1,hf,q=>by
  have z:=zs
  have K':=K
  obtain ⟨rfl,nn,nl,cn,cl,pn,pl⟩:=K'
  unfold m_q33
  rw [Zl]
  unfold b_q33
  simp [startD]
  refine ZC b (by omega) (by omega) fun w S1 b1 o1 w0 w1=>?_
  simp
  have nums:∀ {S2:Za} {E':XP},Bag S2 n→Onl n S S2→Ev (m_q31 [.cel n,.int 9]) S2 E' fun x S1=>Ev (subD x (.int 4)) S1 E' fun d S'=>Ev (m_q31 [.cel n,.int 2001]) S' E' fun x S1=>Ev (subD x (.int 1000)) S1 E' fun x S1=>6≤sizeLine∧Ev (m_q31 [.cel n,.int 6]) S1 E' fun y S2=>Ev (ixD (.lst [d,d,d,x,.int 1000000000,.int (-1000000000)]) y) S2 E' fun d S'=>Q d S':=by
   intro S2 E' b2 o2
   refine ZC b2 (by omega) (by omega) fun r S3 b3 o3 r0 r1=>?_
   simp
   refine ZC b3 (by omega) (by omega) fun r2 S4 b4 o4 r20 r21=>?_
   simp
   refine ⟨by omega,ZC b4 (by omega) (by omega) fun r3 S5 b5 o5 r30 r31=>?_⟩
   have fin:∀ i:Int,-1000000000≤i→i≤1000000000→Q (.int i) S5:=fun i a c=>q _ _ ((SumD.num (n:=0) a c).mono (by omega)) b5 (((o2.trans o3).trans o4).trans o5)
   have:r3=0∨r3=1∨r3=2∨r3=3∨r3=4∨r3=5:=by omega
   rcases this with rfl | rfl | rfl | rfl | rfl | rfl
   ·exact fin _ (by omega) (by omega)
   ·exact fin _ (by omega) (by omega)
   ·exact fin _ (by omega) (by omega)
   ·exact fin _ (by omega) (by omega)
   ·exact fin _ (by decide) (by decide)
   ·exact fin _ (by decide) (by decide)
  have cells:∀ {S2:Za} {E':XP},Bag S2 n→Onl n S S2→Ev (m_q31 [.cel n,.int 3]) S2 E' fun y S2=>Ev (ixD (.tup (cs.map D.str)) y) S2 E' fun d S'=>Q d S':=by
   intro S2 E' b2 o2
   refine ZC b2 (by omega) (by omega) fun r S3 b3 o3 r0 r1=>?_
   obtain ⟨x,hx,e⟩:=Xm (cs:=cs) r0 (by omega)
   rw [Yc]
   exact ⟨_,e,q _ _ ((SumD.cell (n:=0) (cn x hx)).mono (by omega)) b3 (o2.trans o3)⟩
  have tail:∀ {S2:Za} {E':XP},Bag S2 n→Onl n S S2→(if 2 < w then Ev (m_q31 [.cel n,.int 3]) S2 E' fun y S2=>Ev (ixD (.tup (cs.map D.str)) y) S2 E' fun d S'=>Q d S' else Ev (m_q31 [.cel n,.int 9]) S2 E' fun x S1=>Ev (subD x (.int 4)) S1 E' fun d S'=>Ev (m_q31 [.cel n,.int 2001]) S' E' fun x S1=>Ev (subD x (.int 1000)) S1 E' fun x S1=>6≤sizeLine∧Ev (m_q31 [.cel n,.int 6]) S1 E' fun y S2=>Ev (ixD (.lst [d,d,d,x,.int 1000000000,.int (-1000000000)]) y) S2 E' fun d S'=>Q d S'):=by
   intro S2 E' b2 o2
   split
   ·exact cells b2 o2
   ·exact nums b2 o2
  by_cases hw:5 < w∧1 < m
  ·obtain ⟨m',rfl⟩:∃ m',m=m'+1:=⟨m - 1,by omega⟩
   simp [hw.1,show 1 < (m'+1:Int) by omega]
   refine ⟨by omega,ZC b1 (by omega) (by omega) fun r S2 b2 o2 r0 r1=>?_⟩
   obtain ⟨s,hs,es⟩:∃ s:Str,(s = "+" ∨ s = "-" ∨ s = "*")∧atI [D.str (Str.ofString "+"),D.str (Str.ofString "-"),D.str (Str.ofString "*")] r=some (.str s):=by
    have:r=0∨r=1∨r=2:=by omega
    rcases this with rfl | rfl | rfl
    ·exact ⟨_,.inl rfl,rfl⟩
    ·exact ⟨_,.inr (.inl rfl),rfl⟩
    ·exact ⟨_,.inr (.inr rfl),rfl⟩
   rw [YG]
   refine ⟨_,es,ZH K b2 (by omega) (by omega) fun d1 S3 h3 b3 o3=>ZH K b3 (by omega) (by omega) fun d2 S4 h4 b4 o4=>⟨by omega,q _ _ (.op hs h3 h4) b4 (((o1.trans o2).trans o3).trans o4)⟩⟩
  ·have go:4 < w→Ev (eqvD true (.tup (ps.map fun p=>D.tup [.str p.1,p.2])) (.tup [])) S1 (fun C fs S'=>E C fs S') fun x S1=>Ev (asB x) S1 (fun C fs S'=>E C fs S') fun b S'=>if b=true then Ev (m_q31 [.cel n,.int (ps.length:Nat)]) S' (fun C fs S'=>E C fs S') fun y S2=>Ev (ixD (.tup (ps.map fun p=>D.tup [.str p.1,p.2])) y) S2 (fun C fs S'=>E C fs S') fun x S1=>Ev (ixD x (.int 0)) S1 (fun C fs S'=>E C fs S') fun x S1=>2≤sizeLine∧Q (.tup [.str (Str.ofString "purse"),x]) S1 else (if 2 < w then Ev (m_q31 [.cel n,.int 3]) S' (fun C fs S'=>E C fs S') fun y S2=>Ev (ixD (.tup (cs.map D.str)) y) S2 (fun C fs S'=>E C fs S') fun d S'=>Q d S' else Ev (m_q31 [.cel n,.int 9]) S' (fun C fs S'=>E C fs S') fun x S1=>Ev (subD x (.int 4)) S1 (fun C fs S'=>E C fs S') fun d S'=>Ev (m_q31 [.cel n,.int 2001]) S' (fun C fs S'=>E C fs S') fun x S1=>Ev (subD x (.int 1000)) S1 (fun C fs S'=>E C fs S') fun x S1=>6≤sizeLine∧Ev (m_q31 [.cel n,.int 6]) S1 (fun C fs S'=>E C fs S') fun y S2=>Ev (ixD (.lst [d,d,d,x,.int 1000000000,.int (-1000000000)]) y) S2 (fun C fs S'=>E C fs S') fun d S'=>Q d S'):=by
    intro h4
    rw [JM K.purses (by omega),Zm]
    by_cases hp:ps=[]
    ·have e:(if true=true then !decide (ps.map (fun p=>D.tup [.str p.1,p.2])=[]) else decide (ps.map (fun p=>D.tup [.str p.1,p.2])=[]))=false:=by simp [hp]
     rw [e,if_neg Bool.false_ne_true]
     exact tail b1 o1
    ·have e:(if true=true then !decide (ps.map (fun p=>D.tup [.str p.1,p.2])=[]) else decide (ps.map (fun p=>D.tup [.str p.1,p.2])=[]))=true:=by simp [hp]
     rw [e,if_pos rfl]
     have pp:0 < ps.length:=List.length_pos_iff.mpr hp
     refine ZC b1 (by omega) (by omega) fun r S2 b2 o2 r0 r1=>?_
     obtain ⟨p,hp,ep⟩:=Ke (ps:=ps) r0 (by omega)
     rw [Yc]
     refine ⟨_,ep,?_⟩
     rw [Yc]
     exact ⟨_,rfl,by omega,q _ _ ((SumD.purse (n:=0) (pn p hp).1).mono (by omega)) b2 (o1.trans o2)⟩
   by_cases h5:5 < w
   ·simp [h5,show ¬ 1 < (m:Int) by omega,show 4 < w by omega]
    exact go (by omega)
   ·by_cases h4:4 < w
    ·simp [h5,h4]
     exact go h4
    ·simp [h5,h4]
     exact tail b1 o1
 | k,ns,cs,ps,n,m,0,S,E,Q,K,b,h1,hf,q=>by omega
end
theorem ZR:∀ {k:D} {ns cs:List Str} {ps:List (Str × D)} {n m f:Nat} {S:Za} {E:XP} {Q:D→Za→Prop},Kit k ns cs ps→Bag S n→1≤m→m≤f→(∀ d S',TestD m d→Bag S' n→Onl n S S'→Q d S')→Ev (m_q27 f [.cel n,k,.int m]) S E Q
 | k,ns,cs,ps,n,m,f+1,S,E,Q,K,b,h1,hf,q=>by
  have z:=zs
  have K':=K
  obtain ⟨rfl,nn,nl,cn,cl,pn,pl⟩:=K'
  unfold m_q27
  rw [Zl]
  unfold b_q27
  simp [startD]
  refine ZC b (by omega) (by omega) fun w S1 b1 o1 w0 w1=>?_
  simp
  by_cases hw:6 < w∧1 < m
  ·obtain ⟨m',rfl⟩:∃ m',m=m'+1:=⟨m - 1,by omega⟩
   simp [hw.1,show 1 < (m'+1:Int) by omega]
   by_cases h7:w=7
   ·simp [h7]
    exact ZR K b1 (by omega) (by omega) fun d S2 hd b2 o2=>⟨by omega,q _ _ (.not hd) b2 (o1.trans o2)⟩
   ·simp [h7]
    exact ZR K b1 (by omega) (by omega) fun d S2 hd b2 o2=>ZR K b2 (by omega) (by omega) fun d2 S3 hd2 b3 o3=>⟨by omega,q _ _ (.both hd hd2) b3 ((o1.trans o2).trans o3)⟩
  ·have cmp:∀ {E':XP},2≤sizeLine∧Ev (m_q31 [.cel n,.int 2]) S1 E' fun y S2=>Ev (ixD (.lst [.str (Str.ofString "above"),.str (Str.ofString "same")]) y) S2 E' fun x S1=>Ev (m_q33 8 [.cel n,.tup [.tup (ns.map D.str),.tup (cs.map D.str),.tup (ps.map fun p=>D.tup [.str p.1,p.2])],.int 2]) S1 E' fun x_1 S1=>Ev (m_q33 8 [.cel n,.tup [.tup (ns.map D.str),.tup (cs.map D.str),.tup (ps.map fun p=>D.tup [.str p.1,p.2])],.int 2]) S1 E' fun x_2 S1=>3≤sizeLine∧Q (.tup [x,x_1,x_2]) S1:=by
    intro E'
    refine ⟨by omega,ZC b1 (by omega) (by omega) fun r S2 b2 o2 r0 r1=>?_⟩
    obtain ⟨s,hs,es⟩:∃ s:Str,(s = "above" ∨ s = "same")∧atI [D.str (Str.ofString "above"),D.str (Str.ofString "same")] r=some (.str s):=by
     have:r=0∨r=1:=by omega
     rcases this with rfl | rfl
     ·exact ⟨_,.inl rfl,rfl⟩
     ·exact ⟨_,.inr rfl,rfl⟩
    rw [YG]
    obtain ⟨m',rfl⟩:∃ m',m=m'+1:=⟨m - 1,by omega⟩
    exact ⟨_,es,ZH K b2 (m:=2) (by omega) (by omega) fun d1 S3 h3 b3 o3=>ZH K b3 (m:=2) (by omega) (by omega) fun d2 S4 h4 b4 o4=>⟨by omega,q _ _ (.cmp hs h3 h4) b4 (((o1.trans o2).trans o3).trans o4)⟩⟩
   have known:∀ {E':XP},Ev (m_q31 [.cel n,.int 3]) S1 E' fun y S2=>Ev (ixD (.tup (cs.map D.str)) y) S2 E' fun x S1=>2≤sizeLine∧Q (.tup [.str (Str.ofString "known"),x]) S1:=by
    intro E'
    refine ZC b1 (by omega) (by omega) fun r S3 b3 o3 r0 r1=>?_
    obtain ⟨x,hx,e⟩:=Xm (cs:=cs) r0 (by omega)
    rw [Yc]
    exact ⟨_,e,by omega,q _ _ ((TestD.known (n:=0) (cn x hx)).mono (by omega)) b3 (o1.trans o3)⟩
   have first:¬ (6 < w∧1 < (m:Int)):=by omega
   have tail:∀ {E':XP},(if w=4 then (Ev (m_q31 [.cel n,.int 3]) S1 E' fun y S2=>Ev (ixD (.tup (cs.map D.str)) y) S2 E' fun x S1=>2≤sizeLine∧Q (.tup [.str (Str.ofString "known"),x]) S1) else 2≤sizeLine∧Ev (m_q31 [.cel n,.int 2]) S1 E' fun y S2=>Ev (ixD (.lst [.str (Str.ofString "above"),.str (Str.ofString "same")]) y) S2 E' fun x S1=>Ev (m_q33 8 [.cel n,.tup [.tup (ns.map D.str),.tup (cs.map D.str),.tup (ps.map fun p=>D.tup [.str p.1,p.2])],.int 2]) S1 E' fun x_1 S1=>Ev (m_q33 8 [.cel n,.tup [.tup (ns.map D.str),.tup (cs.map D.str),.tup (ps.map fun p=>D.tup [.str p.1,p.2])],.int 2]) S1 E' fun x_2 S1=>3≤sizeLine∧Q (.tup [x,x_1,x_2]) S1):=by
    intro E'
    split
    ·exact known
    ·exact cmp
   by_cases h4:w < 4
   ·simp [h4,show ¬ 6 < w by omega]
    rw [Ka,Zm]
    by_cases hn:ns=[]
    ·rw [decide_eq_true hn]
     simp
     exact tail
    ·rw [decide_eq_false hn]
     simp
     have pp:0 < ns.length:=List.length_pos_iff.mpr hn
     refine ZC b1 (by omega) (by omega) fun r S2 b2 o2 r0 r1=>?_
     obtain ⟨x,hx,e⟩:=Xm (cs:=ns) r0 (by omega)
     rw [Yc]
     exact ⟨_,e,by omega,q _ _ ((TestD.news (n:=0) (nn x hx)).mono (by omega)) b2 (o1.trans o2)⟩
   ·by_cases h6:6 < w
    ·simp [h4,h6,show ¬ 1 < (m:Int) by omega]
     exact tail
    ·simp [h4,h6]
     exact tail
 | k,ns,cs,ps,n,m,0,S,E,Q,K,b,h1,hf,q=>by omega
def tailB:SM:=(sThen (sIf (mAsT (mBin ltD (mVar 4) (mC (.int 5)))) (sRet (mTup (mCons (mC (.str "set")) (mCons (mBin ixD (mBin ixD (mVar 1) (mC (.int 1))) (mCall (arity 2 m_q31) (mCons (mVar 0) (mCons (mC (.int 3)) mNil)))) (mCons (mCall (arity 3 (m_q33 8)) (mCons (mVar 0) (mCons (mVar 1) (mCons (mC (.int 3)) mNil)))) mNil))))) sSkip) (sThen (sIf (mTAnd (mAsT (mBin ltD (mVar 4) (mC (.int 7)))) (mAsT (mBin (eqvD true) (mBin ixD (mVar 1) (mC (.int 2))) (mTup mNil)))) (sThen (sSet 8 (mComp (mRng1 (mCons (mC (.int 2)) mNil)) [9] (.nm 9) tYesD (mBin ixD (mBin ixD (mBin ixD (mVar 1) (mC (.int 2))) (mCall (arity 2 m_q31) (mCons (mVar 0) (mCons (mCall lenSD (mCons (mBin ixD (mVar 1) (mC (.int 2))) mNil)) mNil)))) (mC (.int 0))))) (sRet (mTup (mCons (mC (.str "pay")) (mCons (mBin ixD (mVar 8) (mC (.int 0))) (mCons (mBin ixD (mVar 8) (mC (.int 1))) (mCons (mCall (arity 3 (m_q33 8)) (mCons (mVar 0) (mCons (mVar 1) (mCons (mC (.int 2)) mNil)))) mNil))))))) sSkip) (sRet (mTup (mCons (mC (.str "say")) (mCons (mCall (arity 3 (m_q33 8)) (mCons (mVar 0) (mCons (mVar 1) (mCons (mBin ixD (mLst (mCons (mC (.int 1)) (mCons (mC (.int 1)) (mCons (mC (.int 2)) (mCons (mC (.int 5)) mNil))))) (mCall (arity 2 m_q31) (mCons (mVar 0) (mCons (mC (.int 4)) mNil)))) mNil)))) mNil))))))
def whlB (r:List D→M D):SM:=(sThen (sPut (mVar 2) (mC (.int 0)) (mBin subD (mBin ixD (mVar 2) (mC (.int 0))) (mC (.int 1)))) (sThen (sSet 6 (mCall (arity 4 r) (mCons (mVar 0) (mCons (mVar 1) (mCons (mVar 2) (mCons (mBin addD (mVar 3) (mC (.int 1))) mNil)))))) (sThen (sIf (mAsT (mBin (eqvD false) (mCall (arity 2 m_q31) (mCons (mVar 0) (mCons (mC (.int 6)) mNil))) (mC (.int 0)))) (sRet (mTup (mCons (mC (.str "while")) (mCons (mCall (arity 3 (m_q27 8)) (mCons (mVar 0) (mCons (mVar 1) (mCons (mC (.int 2)) mNil)))) (mCons (mVar 6) mNil))))) sSkip) (sThen (sSet 7 (mBin ixD (mBin ixD (mVar 1) (mC (.int 1))) (mCall (arity 2 m_q31) (mCons (mVar 0) (mCons (mC (.int 3)) mNil))))) (sThen (sSet 5 (mTup (mCons (mC (.str "above")) (mCons (mCall (arity 2 m_q31) (mCons (mVar 0) (mCons (mC (.int 5)) mNil))) (mCons (mVar 7) mNil))))) (sThen (sIf (mAsT (mBin (eqvD false) (mCall (arity 2 m_q31) (mCons (mVar 0) (mCons (mC (.int 3)) mNil))) (mC (.int 0)))) (sSet 5 (mTup (mCons (mC (.str "both")) (mCons (mCall (arity 3 (m_q27 8)) (mCons (mVar 0) (mCons (mVar 1) (mCons (mC (.int 1)) mNil)))) (mCons (mVar 5) mNil))))) sSkip) (sRet (mTup (mCons (mC (.str "while")) (mCons (mVar 5) (mCons (mBin addD (mVar 6) (mTup (mCons (mTup (mCons (mC (.str "set")) (mCons (mVar 7) (mCons (mTup (mCons (mC (.str "+")) (mCons (mVar 7) (mCons (mC (.int 1)) mNil)))) mNil)))) mNil))) mNil)))))))))))
def ifB (r:List D→M D):SM:=(sThen (sSet 5 (mCall (arity 3 (m_q27 8)) (mCons (mVar 0) (mCons (mVar 1) (mCons (mC (.int 3)) mNil))))) (sRet (mTup (mCons (mC (.str "if")) (mCons (mVar 5) (mCons (mCall (arity 4 r) (mCons (mVar 0) (mCons (mVar 1) (mCons (mVar 2) (mCons (mBin addD (mVar 3) (mC (.int 1))) mNil))))) (mCons (mCall (arity 4 r) (mCons (mVar 0) (mCons (mVar 1) (mCons (mVar 2) (mCons (mBin addD (mVar 3) (mC (.int 1))) mNil))))) mNil)))))))
theorem Ue (r:List D→M D):b_q36 r=(sThen (sPut (mVar 2) (mC (.int 0)) (mBin subD (mBin ixD (mVar 2) (mC (.int 0))) (mC (.int 1)))) (sThen (sSet 4 (mCall (arity 2 m_q31) (mCons (mVar 0) (mCons (mC (.int 10)) mNil)))) (sThen (sIf (mTAnd (mAsT (mBin ltD (mVar 4) (mC (.int 2)))) (mAsT (mBin ltD (mVar 3) (mC (.int 4))))) (ifB r) sSkip) (sThen (sIf (mTAnd (mAsT (mBin (eqvD false) (mVar 4) (mC (.int 2)))) (mTAnd (mAsT (mBin ltD (mVar 3) (mC (.int 4)))) (mAsT (mBin gtD (mBin ixD (mVar 2) (mC (.int 0))) (mC (.int 0)))))) (whlB r) sSkip) tailB)))):=rfl
abbrev rowM (r:List D→M D):List D→M D:=mFn ["_law_bag_here", "_law_kit_here", "_law_left", "_law_deeper", "_law_way", "_law_test_here", "_law_rows_here", "_law_cell", "_law_labels", "_law_turn"] (b_q36 r)
def Ex2 (n l:Nat) (S S':Za):Prop:=S.length≤S'.length∧∀ m,m < S.length→m ≠ n→m ≠ l→S'[m]? = S[m]?
theorem Ex2.refl {n l:Nat} {S:Za}:Ex2 n l S S:=⟨Nat.le_refl _,fun _ _ _ _=>rfl⟩
theorem Ex2.trans {n l:Nat} {S S1 S2:Za} (a:Ex2 n l S S1) (b:Ex2 n l S1 S2):Ex2 n l S S2:=⟨Nat.le_trans a.1 b.1,fun m h q p=>(b.2 m (Nat.lt_of_lt_of_le h a.1) q p).trans (a.2 m h q p)⟩
theorem Onl.ex2 {n l:Nat} {S S':Za} (o:Onl n S S'):Ex2 n l S S':=⟨Nat.le_of_eq o.1.symm,fun m _ q _=>o.2 m q⟩
theorem JT {n l:Nat} {S:Za} (x:Cell):Ex2 n l S (S.set l x):=⟨by simp,fun m _ _ h=>List.getElem?_set_ne (Ne.symm h)⟩
theorem ZbG {n l:Nat} {S:Za} (T:Za):Ex2 n l S (S++T):=⟨by simp,fun m h _ _=>List.getElem?_append_left h⟩
def Lf (S:Za) (l:Nat) (x:Int):Prop:=S[l]? = some (.lst [.int x])
theorem Lf.onl {n l:Nat} {S S':Za} {x:Int} (h:Lf S l x) (o:Onl n S S') (ne:l ≠ n):Lf S' l x:=by unfold Lf at *; rw [o.2 l ne]; exact h
theorem Lf.put {S:Za} {l:Nat} {x y:Int} (h:Lf S l x):Lf (S.set l (.lst [.int y])) l y:=List.getElem?_set_self (List.getElem?_eq_some_iff.mp h).1
theorem RowsD.app {n a b:Nat}:∀ {as bs:List D},RowsD n a as→RowsD n b bs→RowsD n (a+b) (as++bs)
 | [],_,h,t=>by cases h; rw [Nat.zero_add]; exact t
 | d :: as,bs,h,t=>by
  cases h with
  | @cons _ x y _ _ h1 h2=>
   rw [Nat.add_assoc]
   exact .cons h1 (RowsD.app h2 t)
def Jq (r:List D→M D) (k:D) (n l dp:Nat):Prop:=∀ (S:Za) (E:XP) (Q:D→Za→Prop) (x e:Int),Bag S n→Lf S l x→0≤x→e+dp=4 →
 (∀ ds c S' x',RowsD dp c ds→ds.length≤4→(c:Int)+x'≤x→0≤x'→Bag S' n→Lf S' l x'→Ex2 n l S S'→Q (.tup ds) S')→Ev (r [.cel n,k,.cel l,.int e]) S E Q
section
variable {S:Za} {n l dp:Nat} {k:D} {ns cs:List Str} {ps:List (Str × D)} {ER:Str→List (Str × D)→DSt→Za→Prop} {PR:ND.Flow→Za→Prop} {e w x:Int} {a5 a6 a7 a8 a9:Option D}
theorem Zcr (K:Kit k ns cs ps) (b:Bag S n) (w0:0≤w) (q:∀ d S',RowD dp 1 d→Bag S' n→Onl n S S'→PR (.rt d) S'):EvR (tailB [some (.cel n),some k,some (.cel l),some (.int e),some (.int w),a5,a6,a7,a8,a9] S) ER PR:=by
 have z:=zs
 have K':=K
 obtain ⟨rfl,nn,nl,cn,cl,pn,pl⟩:=K'
 unfold tailB
 simp
 have say:∀ {E':XP},4≤sizeLine∧Ev (m_q31 [.cel n,.int 4]) S E' fun y S2=>Ev (ixD (.lst [.int 1,.int 1,.int 2,.int 5]) y) S2 E' fun x S1=>Ev (m_q33 8 [.cel n,.tup [.tup (ns.map D.str),.tup (cs.map D.str),.tup (ps.map fun p=>D.tup [.str p.1,p.2])],x]) S1 E' fun x S1=>2≤sizeLine∧PR (.rt (.tup [.str (Str.ofString "say"),x])) S1:=by
  intro E'
  refine ⟨by omega,ZC b (by omega) (by omega) fun r S2 b2 o2 r0 r1=>?_⟩
  obtain ⟨m,m1,m2,em⟩:∃ m:Nat,1≤m∧m≤5∧atI [D.int 1,D.int 1,D.int 2,D.int 5] r=some (.int m):=by
   have:r=0∨r=1∨r=2∨r=3:=by omega
   rcases this with rfl | rfl | rfl | rfl
   ·exact ⟨1,by omega,by omega,rfl⟩
   ·exact ⟨1,by omega,by omega,rfl⟩
   ·exact ⟨2,by omega,by omega,rfl⟩
   ·exact ⟨5,by omega,by omega,rfl⟩
  rw [YG]
  exact ⟨_,em,ZH K b2 m1 (by omega) fun d S3 hd b3 o3=>⟨by omega,q _ _ (.say (hd.mono m2)) b3 (o2.trans o3)⟩⟩
 by_cases h5:w < 5
 ·simp [h5]
  refine ZC b (by omega) (by omega) fun r S2 b2 o2 r0 r1=>?_
  obtain ⟨c,hc,ec⟩:=Xm (cs:=cs) r0 (by omega)
  rw [Yc]
  exact ⟨_,ec,ZH K b2 (m:=3) (by omega) (by omega) fun d S3 hd b3 o3=>⟨by omega,q _ _ (.set (cn c hc) (hd.mono (by omega))) b3 (o2.trans o3)⟩⟩
 ·by_cases h7:w < 7
  ·simp [h5,h7]
   rw [JM K.purses (by omega),Zm]
   by_cases hp:ps=[]
   ·have e:(if true=true then !decide (ps.map (fun p=>D.tup [.str p.1,p.2])=[]) else decide (ps.map (fun p=>D.tup [.str p.1,p.2])=[]))=false:=by simp [hp]
    rw [e,if_neg Bool.false_ne_true]
    exact say
   ·have e:(if true=true then !decide (ps.map (fun p=>D.tup [.str p.1,p.2])=[]) else decide (ps.map (fun p=>D.tup [.str p.1,p.2])=[]))=true:=by simp [hp]
    rw [e,if_pos rfl]
    have pp:0 < ps.length:=List.length_pos_iff.mpr hp
    have ei:intsD 0 2=[.int 0,.int 1]:=rfl
    refine ev_noErr ?_
    simp [ei,wipeD]
    refine ZC b (by omega) (by omega) fun r S2 b2 o2 r0 r1=>?_
    obtain ⟨p,hp,ep⟩:=Ke (ps:=ps) r0 (by omega)
    rw [Yc]
    refine ⟨_,ep,?_⟩
    simp
    refine ⟨by omega,ZC b2 (by omega) (by omega) fun r' S3 b3 o3 r'0 r'1=>?_⟩
    obtain ⟨p',hp',ep'⟩:=Ke (ps:=ps) r'0 (by omega)
    rw [Yc]
    refine ⟨_,ep',?_⟩
    simp
    exact ⟨by omega,ZH K b3 (m:=2) (by omega) (by omega) fun d S4 hd b4 o4=>⟨by omega,q _ _ (.pay (pn p hp).1 (pn p' hp').1 (hd.mono (by omega))) b4 ((o2.trans o3).trans o4)⟩⟩
  ·simp [h5,h7]
   exact say
theorem ZgI {r:List D→M D} (K:Kit k ns cs ps) (R:Jq r k n l dp) (ne:l ≠ n) (b:Bag S n) (hx:Lf S l x) (x0:0≤x) (he:e+(dp+1:Nat)=4)
  (q:∀ d c S' x',RowD (dp+1) c d→(c:Int)+x'≤x+1→0≤x'→Bag S' n→Lf S' l x'→Ex2 n l S S'→PR (.rt d) S'):EvR (ifB r [some (.cel n),some k,some (.cel l),some (.int e),some (.int w),a5,a6,a7,a8,a9] S) ER PR:=by
 have z:=zs
 unfold ifB
 simp
 refine ZR K b (m:=3) (by omega) (by omega) fun t S2 ht b2 o2=>?_
 refine R _ _ _ _ _ b2 (hx.onl o2 ne) x0 (by omega) fun as a S3 x3 ha la ca x30 b3 l3 e3=>?_
 refine R _ _ _ _ _ b3 l3 x30 (by omega) fun bs c S4 x4 hb lb cb x40 b4 l4 e4=>?_
 exact ⟨by omega,q _ _ _ x4 (.ifs ht ha hb (by omega) (by omega)) (by omega) x40 b4 l4 ((o2.ex2.trans e3).trans e4)⟩
theorem ZeE {r:List D→M D} (K:Kit k ns cs ps) (R:Jq r k n l dp) (ne:l ≠ n) (b:Bag S n) (hx:Lf S l x) (x0:0 < x) (he:e+(dp+1:Nat)=4)
  (q:∀ d c S' x',RowD (dp+1) c d→(c:Int)+x'≤x+1→0≤x'→Bag S' n→Lf S' l x'→Ex2 n l S S'→PR (.rt d) S'):EvR (whlB r [some (.cel n),some k,some (.cel l),some (.int e),some (.int w),a5,a6,a7,a8,a9] S) ER PR:=by
 have z:=zs
 have K':=K
 obtain ⟨rfl,nn,nl,cn,cl,pn,pl⟩:=K'
 unfold whlB
 have hx':S[l]? = some (.lst [.int x]):=hx
 simp [hx']
 have lx:Lf (S.set l (.lst [.int (x - 1)])) l (x - 1):=hx.put
 have bx:Bag (S.set l (.lst [.int (x - 1)])) n:=b.set _ (Ne.symm ne)
 have ex:Ex2 n l S (S.set l (.lst [.int (x - 1)])):=JT _
 generalize S.set l (.lst [.int (x - 1)])=S1 at lx bx ex ⊢
 refine R _ _ _ _ _ bx lx (by omega) (by omega) fun as a S2 x2 ha la ca x20 b2 l2 e2=>?_
 refine ZC b2 (by omega) (by omega) fun r0 S3 b3 o3 _ _=>?_
 simp
 by_cases h0:r0=0
 ·simp [h0]
  exact ZR K b3 (m:=2) (by omega) (by omega) fun t S4 ht b4 o4=>⟨by omega,q _ _ _ x2 (.whl (ht.mono (by omega)) ha (by omega)) (by omega) x20 b4 ((l2.onl o3 ne).onl o4 ne) (((ex.trans e2).trans o3.ex2).trans o4.ex2)⟩
 ·simp [h0]
  refine ZC b3 (by omega) (by omega) fun r1 S4 b4 o4 r10 r11=>?_
  obtain ⟨c,hc,ec⟩:=Xm (cs:=cs) r10 (by omega)
  rw [Yc]
  refine ⟨_,ec,?_⟩
  refine ZC b4 (by omega) (by omega) fun r2 S5 b5 o5 r20 r21=>?_
  refine ⟨by omega,ZC b5 (by omega) (by omega) fun r3 S6 b6 o6 r30 r31=>?_⟩
  have tst:TestD 1 (.tup [.str (Str.ofString "above"),.int r2,.str c]):=.cmp (.inl rfl) (.num (by omega) (by omega)) (.cell (cn c hc))
  have row:RowD dp 1 (.tup [.str (Str.ofString "set"),.str c,.tup [.str (Str.ofString "+"),.str c,.int 1]]):=.set (cn c hc) ((SumD.op (n:=1) (.inl rfl) (.cell (cn c hc)) (.num (by omega) (by omega))).mono (by omega))
  have all:RowsD dp (a+1) (as++[.tup [.str (Str.ofString "set"),.str c,.tup [.str (Str.ofString "+"),.str c,.int 1]]]):=RowsD.app ha (.cons row .nil)
  have l6:Lf S6 l x2:=(((l2.onl o3 ne).onl o4 ne).onl o5 ne).onl o6 ne
  have e6:Ex2 n l S S6:=(((((ex.trans e2).trans o3.ex2).trans o4.ex2).trans o5.ex2)).trans o6.ex2
  simp
  by_cases h3:r3=0
  ·simp [h3]
   refine ZR K b6 (m:=1) (by omega) (by omega) fun t S7 ht b7 o7=>?_
   refine ⟨by omega,by omega,by omega,by omega,q _ _ _ x2 (.whl (TestD.mono (.both ht tst) (by omega)) all (by simp; omega)) (by omega) x20 b7 (l6.onl o7 ne) (e6.trans o7.ex2)⟩
  ·simp [h3]
   refine ⟨by omega,by omega,by omega,by omega,q _ _ _ x2 (.whl (tst.mono (by omega)) all (by simp; omega)) (by omega) x20 b6 l6 e6⟩
end
section
variable {S:Za} {n l dp:Nat} {k:D} {ns cs:List Str} {ps:List (Str × D)} {E:XP} {Q:D→Za→Prop} {e w x:Int}
theorem Zd8 {r:List D→M D} (K:Kit k ns cs ps) (R:∀ dp',dp=dp'+1→Jq r k n l dp') (ne:l ≠ n) (b:Bag S n) (hx:Lf S l x) (x0:0 < x) (he:e+dp=4) (hd:dp≤4)
  (q:∀ d c S' x',RowD dp c d→(c:Int)+x'≤x→0≤x'→Bag S' n→Lf S' l x'→Ex2 n l S S'→Q d S'):Ev (rowM r [.cel n,k,.cel l,.int e]) S E Q:=by
 have z:=zs
 unfold rowM
 rw [Zl,Ue]
 have hx':S[l]? = some (.lst [.int x]):=hx
 simp [startD,hx']
 have lx:Lf (S.set l (.lst [.int (x - 1)])) l (x - 1):=hx.put
 have bx:Bag (S.set l (.lst [.int (x - 1)])) n:=b.set _ (Ne.symm ne)
 have ex:Ex2 n l S (S.set l (.lst [.int (x - 1)])):=JT _
 generalize S.set l (.lst [.int (x - 1)])=S1 at lx bx ex ⊢
 refine ZC bx (by omega) (by omega) fun w S2 b2 o2 w0 w1=>?_
 have l2:=lx.onl o2 ne
 have e2:Ex2 n l S S2:=ex.trans o2.ex2
 have tail:∀ {ER:Str→List (Str × D)→DSt→Za→Prop} {a5 a6 a7 a8 a9:Option D},EvR (tailB [some (.cel n),some k,some (.cel l),some (.int e),some (.int w),a5,a6,a7,a8,a9] S2) ER (retP Q):=fun {ER a5 a6 a7 a8 a9}=>
  Zcr (dp:=dp) K b2 w0 fun d S3 hr b3 o3=>q _ _ _ (x - 1) hr (by omega) (by omega) b3 (l2.onl o3 ne) (e2.trans o3.ex2)
 cases dp with
 | zero=>
  have h4:¬ e < 4:=by omega
  simp [h4]
  exact tail
 | succ dp=>
  have h4:e < 4:=by omega
  by_cases h2:w < 2
  ·simp [h4,h2]
   exact ZgI K (R dp rfl) ne b2 l2 (by omega) he fun d c S3 x3 hr hc hx3 b3 l3 e3=>q _ _ _ x3 hr (by omega) hx3 b3 l3 (e2.trans e3)
  ·by_cases h22:w=2
   ·have l2':S2[l]? = some (.lst [.int (x - 1)]):=l2
    by_cases hx1:0 < x - 1
    ·simp [h4,h22,l2',show 1 < x by omega]
     exact ZeE K (R dp rfl) ne b2 l2 hx1 he fun d c S3 x3 hr hc hx3 b3 l3 e3=>q _ _ _ x3 hr (by omega) hx3 b3 l3 (e2.trans e3)
    ·simp [h4,h22,l2',show ¬ 1 < x by omega]
     have:=tail (ER:=fun C fs _ S'=>E C fs S') (a5:=none) (a6:=none) (a7:=none) (a8:=none) (a9:=none)
     rw [h22] at this
     exact this
   ·simp [h4,h2,h22]
    exact tail
def ZfI (n l k':Nat) (k:D) (S:Za) (x e:Int) (dp:Nat) (i:Nat) (τ:DSt) (S':Za):Prop:=∃ ds c x' a5,RowsD dp c ds∧ds.length≤i∧(c:Int)+x'≤x∧0≤x'∧Bag S' n∧Lf S' l x'∧Ex2 n l S S'∧S'[k']? = some (.lst ds)∧τ=[some (.cel n),some k,some (.cel l),some (.int e),some (.cel k'),a5]
theorem Kk (K:Kit k ns cs ps) (ne:l ≠ n):∀ {f dp:Nat},dp < f→dp≤4→Jq (m_q29 f) k n l dp
 | f+1,dp,hf,hd=>fun S E Q x e b hx x0 he q=>by
  have z:=zs
  have sub:∀ dp',dp=dp'+1→Jq (m_q29 f) k n l dp':=fun dp' h=>Kk K ne (by omega) (by omega)
  have ll:=(List.getElem?_eq_some_iff.mp (show S[l]? = some (.lst [.int x]) from hx)).1
  have nl:=b.lt
  show Ev (mFn _ (b_q29 (rowM (m_q29 f))) _) S E Q
  rw [Zl]
  unfold b_q29
  simp [startD]
  have b0:Bag (S++[.lst []]) n:=b.snoc _
  have l0:Lf (S++[.lst []]) l x:=by unfold Lf; rw [List.getElem?_append_left ll]; exact hx
  have k0:(S++[Cell.lst []])[S.length]? = some (.lst []):=by simp
  have e0:Ex2 n l S (S++[.lst []]):=ZbG _
  generalize S++[Cell.lst []]=S0 at b0 l0 k0 e0 ⊢
  have k0l:=(List.getElem?_eq_some_iff.mp k0).1
  refine ZC b0 (by omega) (by omega) fun r S1 b1 o1 r0 r1=>?_
  rw [ZS]
  refine ⟨by omega,?_⟩
  refine ZT (ZfI n l S.length k S x e dp) (k:=0) ⟨[],0,x,none,.nil,by simp,by omega,x0,b1,l0.onl o1 ne,e0.trans o1.ex2,by rw [o1.2 _ (by omega)]; exact k0,rfl⟩ (fun i d0 τ S' h0 hi=>?_) (fun τ S' hi=>?_)
  ·obtain ⟨ds,c,x',a5,hr,hl,hc,hx',b2,l2,e2,k2,rfl⟩:=hi
   have hi2:=(intsD_at h0).2
   refine ⟨_,Zz,?_⟩
   have l2':S'[l]? = some (.lst [.int x']):=l2
   have tn:=Y6 k2
   simp [l2']
   by_cases hp:0 < x'
   ·simp [hp,tn]
    refine Zd8 K sub ne b2 l2 hp he hd fun d c2 S3 x3 hrd hc2 hx3 b3 l3 e3=>?_
    have k3:S3[S.length]? = some (.lst ds):=by rw [e3.2 _ (List.getElem?_eq_some_iff.mp k2).1 (by omega) (by omega)]; exact k2
    have kl3:=(List.getElem?_eq_some_iff.mp k3).1
    refine ⟨_,k3,by omega,ds++[d],c+c2,x3,_,RowsD.app hr (by have:=RowsD.cons hrd .nil; simpa using this),by simp; omega,by omega,hx3,b3.set _ (by omega),?_,?_,?_,rfl⟩
    ·unfold Lf
     rw [List.getElem?_set_ne (by omega)]
     exact l3
    ·refine ⟨by have:=(e2.trans e3).1; simpa using this,fun m hm h1 h2=>?_⟩
     rw [List.getElem?_set_ne (by omega)]
     exact (e2.trans e3).2 m hm h1 h2
    ·rw [List.getElem?_set_self kl3]
   ·simp [hp]
    exact ⟨ds,c,x',_,hr,by omega,hc,hx',b2,l2,e2,k2,rfl⟩
  ·obtain ⟨ds,c,x',a5,hr,hl,hc,hx',b2,l2,e2,k2,rfl⟩:=hi
   rw [YM] at hl
   simp
   rw [Um k2]
   exact q _ _ _ _ hr (by omega) hc hx' b2 l2 e2
 | 0,dp,hf,_=>by omega
end
section
variable {S:Za} {n:Nat} {k:D} {ns cs:List Str} {ps:List (Str × D)} {E:XP} {Q:D→Za→Prop}
theorem Zbq (K:Kit k ns cs ps) (b:Bag S n) (q:∀ ds c S',RowsD 4 c ds→c≤29→ds.length≤8→Bag S' n→Q (.tup ds) S'):Ev (m_q30 [.cel n,k]) S E Q:=by
 have z:=zs
 unfold m_q30
 rw [Zl]
 unfold Zc3
 simp [startD]
 refine ⟨by omega,ZC b (by omega) (by omega) fun r S1 b1 o1 r0 r1=>?_⟩
 simp
 obtain ⟨y,y0,y1,ey⟩:∃ y:Int,0≤y - 1∧y - 1≤29∧atI [D.int 8,D.int 30] (if r=0 then 1 else 0)=some (.int y):=by
  by_cases h:r=0
  ·rw [if_pos h]; exact ⟨30,by omega,by omega,rfl⟩
  ·rw [if_neg h]; exact ⟨8,by omega,by omega,rfl⟩
 refine ⟨_,ey,?_⟩
 simp
 refine ⟨by omega,?_⟩
 have b2:Bag (S1++[.lst [.int (y - 1)]]) n:=b1.snoc _
 have l2:Lf (S1++[.lst [.int (y - 1)]]) S1.length (y - 1):=by unfold Lf; simp
 have ne:S1.length ≠ n:=by have:=b1.lt; omega
 generalize S1++[Cell.lst [.int (y - 1)]]=S2 at b2 l2 ⊢
 have R:=Kk (l:=S1.length) K ne (f:=8) (dp:=4) (by omega) (by omega)
 refine R _ _ _ _ _ b2 l2 y0 (by omega) fun as a S3 x3 ha la ca x30 b3 l3 e3=>?_
 refine R _ _ _ _ _ b3 l3 x30 (by omega) fun bs c S4 x4 hb lb cb x40 b4 l4 e4=>?_
 have hab:=RowsD.app ha hb
 rw [Zbu]
 refine ⟨by omega,?_⟩
 rw [JM (k:=14) hab.pk (by omega),Zm]
 have fin:∀ S',Bag S' n→Q (.tup (as++bs)) S':=fun S' b'=>q _ _ _ hab (by omega) (by simp; omega) b'
 by_cases h:as++bs=[]
 ·have e:(if false=true then !decide (as++bs=[]) else decide (as++bs=[]))=true:=by rw [decide_eq_true h]; rfl
  rw [e,if_pos rfl]
  refine ZC b4 (by omega) (by omega) fun r4 S5 b5 o5 r40 r41=>?_
  simp
  by_cases h4:0 < r4
  ·simp [h4]
   exact ZH K b5 (m:=3) (by omega) (by omega) fun d S6 hd b6 o6=>⟨by omega,by omega,q _ 1 _ (by have:=RowsD.cons (n:=4) (RowD.say (hd.mono (by omega))) .nil; simpa using this) (by omega) (by simp) b6⟩
  ·simp [h4]
   exact fin _ b5
 ·have e:(if false=true then !decide (as++bs=[]) else decide (as++bs=[]))=false:=by rw [decide_eq_false h]; rfl
  rw [e,if_neg Bool.false_ne_true]
  exact fin _ b4
end
end NA
namespace ND
open PySem L2
section
variable {S:Za} {E:XP} {τ:DSt} {Q:D→Za→Prop}
@[simp] theorem Zdw {ms:AM}:Ev (mDictZ ms τ) S E Q=Ev (ms τ) S E fun x S1=>Ev (dictZD x) S1 E Q:=by unfold mDictZ; rw [Ze]
end
end ND
namespace NA
open PySem L2 ND NM
abbrev kvD (p:Str × D):Key × D:=(.inr p.1,p.2)
theorem KC (x:Str):∀ ps:List (Str × D),valD (ps.map kvD) (.inr x)=ps.lookup x
 | []=>rfl
 | p :: ps=>by
  have ih:=KC x ps
  unfold valD at ih ⊢
  rw [List.map_cons,List.find?_cons,List.lookup_cons]
  by_cases h:p.1=x
  ·have e1:decide ((kvD p).1=Sum.inr x)=true:=decide_eq_true (show (Sum.inr p.1:Key)=Sum.inr x by rw [h])
   have e2:(x == p.1)=true:=beq_iff_eq.mpr h.symm
   rw [e1,e2]; rfl
  ·have e1:decide ((kvD p).1=Sum.inr x)=false:=decide_eq_false (fun z=>h (by injection z))
   have e2:(x == p.1)=false:=beq_eq_false_iff_ne.mpr (Ne.symm h)
   rw [e1,e2]; exact ih
inductive Ent where
 | deed (w:Str) (rows:List D) (dn:Bool) (kn:List (Str × Bool)) | news (x:Str) (b:Bool) | tie (ps:List (Str × Bool)) | heard (e:Str) (said:List D) (left:List (List Bool))
def entD:Ent→D
 | .deed w rows dn kn=>.tup [.str "deed",.str w,.tup rows,.bl dn,ZaZ kn]
 | .news x b=>.tup [.str "news",.str x,.bl b]
 | .tie ps=>.tup [.str "tie",ZaZ ps]
 | .heard e said left=>.tup [.str "heard",.str e,.tup said,.tup (left.map ZdL)]
abbrev Qe:=List (Str × List Str)
def Zh2 (e:Str × List Str):Str × D:=(e.1,.tup (e.2.map D.str))
abbrev earsD (es:Qe):D:=.tup ((es.map Zh2).map fun p=>D.tup [.str p.1,p.2])
def pick (ns:List Str) (f:List Bool) (so:List Str):List Bool:=so.map fun x=>((ns.zip f).lookup x).getD false
def keepE (ns:List Str) (es:Qe) (f:List Bool):Ent→Bool
 | .deed _ _ _ _=>true
 | .news x b=>(ns.zip f).lookup x == some b
 | .tie ps=>!ZgF ns f ps
 | .heard e _ left=>decide (pick ns f ((es.lookup e).getD []) ∈ left)
section
variable {ns:List Str} {es:Qe} {f:List Bool}
def keepAll (ns:List Str) (es:Qe) (bk:List Ent) (f:List Bool):Bool:=bk.all (keepE ns es f)
end
end NA
namespace NM
end NM
namespace ND
open PySem L2
section
variable {S:Za} {E:XP} {τ:DSt}
@[simp] theorem Zdx {ms:AM} {PL:List D→Za→Prop}:Ev (mEnumL ms τ) S E PL=Ev (ms τ) S E fun x S1=>Ev (enumLD x) S1 E PL:=by unfold mEnumL; rw [Ze]
@[simp] theorem Zdq {xs:List D} {PL:List D→Za→Prop}:Ev (enumLD [.lst xs]) S E PL=PL (enumL 0 xs) S:=rfl
end
end ND
namespace NA
open PySem L2 ND NM
theorem Jk (xs:List Str):(NDS.sortT xs).Nodup:=(List.mergeSort_perm _ _).nodup_iff.mpr (NDS.allT_nodup xs)
theorem Ex2.ext {n l:Nat} {S1 S':Za} {x:Cell} (h:Ex2 n S1.length (S1++[x]) S'):Ext n S1 S':=⟨by have:=h.1; simp at this; omega,fun m hm hn=>by rw [h.2 m (by simp; omega) hn (by omega),List.getElem?_append_left hm]⟩
end NA
namespace ND
open PySem L2
section
variable {S:Za} {E:XP} {τ:DSt} {Q:D→Za→Prop} {ER:Str→List (Str × D)→DSt→Za→Prop} {PR:Flow→Za→Prop}
@[simp] theorem ZeR:Ev (mDNewC τ) S E Q=Q (.cel S.length) (S++[.dct []]):=rfl
@[simp] theorem ZfW:Ev (mDNew τ) S E Q=Q (.dct []) S:=rfl
@[simp] theorem ZeW {mo me mf:EM}:Ev (mDGet mo me mf τ) S E Q=Ev (mo τ) S E fun x S1=>Ev (isDct x) S1 E fun _ S2=>Ev (me τ) S2 E fun y S3=>Ev (mf τ) S3 E fun z S4=>Ev (dgetD x y z) S4 E Q:=by unfold mDGet; simp only [Ze]
theorem Qp {x:D} {kvs:List (Key × D)} {PU:Unit→Za→Prop} (h:dr S x = .dct kvs):Ev (isDct x) S E PU=PU () S:=by
 unfold Ev isDct; simp only [h]
theorem Gq {x:D} {z:Str} {w:D} {kvs:List (Key × D)} (h:dr S x = .dct kvs):Ev (dgetD x (.str z) w) S E Q=Q ((valD kvs (.inr z)).getD w) S:=by
 unfold Ev dgetD; simp only [h]; rfl
theorem WK {x:D} {z:Str} {d:D} {kvs:List (Key × D)} (h:dr S x = .dct kvs) (hv:valD kvs (.inr z)=some d):Ev (ixD x (.str z)) S E Q=Q d S:=by
 have e:ixD x (.str z) S = .ok d S:=by
  unfold ixD
  rw [h]
  show (match valD kvs (.inr z) with | some d=>Res.ok d S | none=>.bad)=_
  rw [hv]
 unfold Ev; rw [e]
@[simp] theorem Zff {mo mi mv:EM}:EvR (sDPutD mo mi mv τ S) ER PR=Ev (mv τ) S (fun C fs S'=>ER C fs τ S') fun z S1=>Ev (mo τ) S1 (fun C fs S'=>ER C fs τ S') fun x S2=>Ev (mi τ) S2 (fun C fs S'=>ER C fs τ S') fun y S3=>Ev (setKD x y z) S3 (fun C fs S'=>ER C fs τ S') fun _ S4=>PR (.nx τ) S4:=by
 unfold sDPutD; simp only [Yn,Ze,X0]
theorem ZbF {n:Nat} {x:Str} {z:D} {kvs:List (Key × D)} {PU:Unit→Za→Prop} (h:S[n]? = some (.dct kvs)) (hl:kvs.length < sizeLine):Ev (setKD (.cel n) (.str x) z) S E PU=PU () (S.set n (.dct (putD kvs (.inr x) z))):=by
 have e:setKD (.cel n) (.str x) z S = .ok () (S.set n (.dct (putD kvs (.inr x) z))):=by
  show (match S[n]? with | some (.dct kvs)=>if kvs.length < sizeLine then Res.ok () (S.set n (.dct (putD kvs (.inr x) z))) else .bad | _=>.bad)=_
  rw [h]
  show (if kvs.length < sizeLine then _ else _)=_
  rw [if_pos hl]
 unfold Ev; rw [e]
@[simp] theorem ZeX {mo me:EM}:Ev (mDPop mo me τ) S E Q=Ev (mo τ) S E fun x S1=>Ev (isDct x) S1 E fun _ S2=>Ev (me τ) S2 E fun y S3=>Ev (popKD x y) S3 E Q:=by unfold mDPop; simp only [Ze]
theorem ZbE {n:Nat} {x:Str} {d:D} {kvs:List (Key × D)} (h:S[n]? = some (.dct kvs)) (hv:valD kvs (.inr x)=some d):Ev (popKD (.cel n) (.str x)) S E Q=Q d (S.set n (.dct (dropD kvs (.inr x)))):=by
 have e:popKD (.cel n) (.str x) S = .ok d (S.set n (.dct (dropD kvs (.inr x)))):=by
  show (match S[n]? with | some (.dct kvs)=>(match valD kvs (.inr x) with | some d=>Res.ok d (S.set n (.dct (dropD kvs (.inr x)))) | none=>.bad) | _=>.bad)=_
  rw [h]
  show (match valD kvs (.inr x) with | some d=>Res.ok d (S.set n (.dct (dropD kvs (.inr x)))) | none=>.bad)=_
  rw [hv]
 unfold Ev; rw [e]
@[simp] theorem ZcC {Cs:List Str} {fl:Str} {f:D→D→M D} {mo mv:EM}:EvR (sFldAugD Cs fl f mo mv τ S) ER PR=Ev (mo τ) S (fun C fs S'=>ER C fs τ S') fun x S1=>Ev (getFD Cs fl x) S1 (fun C fs S'=>ER C fs τ S') fun v S2=>Ev (mv τ) S2 (fun C fs S'=>ER C fs τ S') fun w S3=>Ev (f v w) S3 (fun C fs S'=>ER C fs τ S') fun z S4=>Ev (setFD Cs fl x z) S4 (fun C fs S'=>ER C fs τ S') fun _ S5=>PR (.nx τ) S5:=by
 unfold sFldAugD; simp only [Yn,Ze,X0]
theorem VH {C fl:Str} {n:Nat} {fs:List (Str × D)} {d:D} (h:S[n]? = some (.ins C fs)) (hf:fs.lookup fl=some d):Ev (getFD [C] fl (.cel n)) S E Q=Q d S:=by
 have e:getFD [C] fl (.cel n) S = .ok d S:=by
  show (match S[n]? with | some (.ins C' fs)=>if C' ∈ [C] then (match fs.lookup fl with | some d=>Res.ok d S | none=>.bad) else .bad | _=>.bad)=_
  rw [h]
  show (if C ∈ [C] then (match fs.lookup fl with | some d=>Res.ok d S | none=>.bad) else .bad)=_
  rw [if_pos (by simp),hf]
 unfold Ev; rw [e]
@[simp] theorem Zfd {ts:List Tg} {m:EM}:EvR (sAsgL ts m τ S) ER PR=Ev (m τ) S (fun C fs S'=>ER C fs τ S') fun d S'=>EvR (lstK ts d τ S') ER PR:=by unfold sAsgL; simp
@[simp] theorem Zfl {ts:List Tg} {xs:List D}:EvR (lstK ts (.lst xs) τ S) ER PR=Zbh (Tg.binds ts xs τ) S PR:=by
 unfold lstK Zbh; simp only [dr]
 cases Tg.binds ts xs τ <;> rfl
@[simp] theorem Zf9 {tbl:List (Str × Str)} {mi:EM}:Ev (mTab tbl mi τ) S E Q=Ev (mi τ) S E fun y S1=>Ev (tabD tbl y) S1 E Q:=by unfold mTab; rw [Ze]
theorem JR {tbl:List (Str × Str)} {x f:Str} (h:tbl.lookup x=some f):Ev (tabD tbl (.str x)) S E Q=Q (.fn f) S:=by
 unfold tabD; simp only [h,ZI]
theorem Qm {i:Nat} {tbl:FTb} {ms:AM} {x:Str} {n:Nat} {fm:List D→M D} (hi:τ[i]? = some (some (.fn x))) (hl:tbl.lookup x=some (n,fm)):Ev (mCallF i tbl ms τ) S E Q=Ev (ms τ) S E fun ds S1=>(ds.length=n∧Ev (fm ds) S1 E Q):=by
 unfold mCallF; simp only [hi,hl,Zbv,Gn]
@[simp] theorem ZeT {i:Int} {neg:Bool}:Ev (isD neg (.int i) .non) S E Q=Q (.bl neg) S:=rfl
@[simp] theorem ZdA {neg:Bool}:Ev (isD neg .non .non) S E Q=Q (.bl (!neg)) S:=rfl
end
end ND
namespace NA
open PySem L2 ND NM
structure SumCl (cs:List Str) (ps:List (Str × D)) (P:Nat→D→Prop):Prop where
 cell:∀ {n:Nat} {x:Str},x ∈ cs→P (n+1) (.str x)
 num:∀ {n:Nat} {i:Int},-1000000000≤i→i≤1000000000→P (n+1) (.int i)
 purse:∀ {n:Nat} {p:Str × D},p ∈ ps→P (n+1) (.tup [.str "purse",.str p.1])
 op:∀ {n:Nat} {s:Str} {a b:D},s = "+" ∨ s = "-" ∨ s = "*" → P n a→P n b→P (n+1) (.tup [.str s,a,b])
 mono:∀ {n m:Nat} {d:D},P n d→n≤m→P m d
inductive Sm where
 | cell (x:Str) | num (i:Int) | purse (x:Str) | op (s:Str) (a b:Sm)
def smD:Sm→D
 | .cell x=>.str x
 | .num i=>.int i
 | .purse x=>.tup [.str "purse",.str x]
 | .op s a b=>.tup [.str s,smD a,smD b]
def Sm.dep:Sm→Nat
 | .op _ a b=>max a.dep b.dep+1
 | _=>1
def Vg (cs ps:List Str):Sm→Prop
 | .cell x=>x ∈ cs
 | .num i=>-1000000000≤i∧i≤1000000000
 | .purse x=>x ∈ ps
 | .op s a b=>(s = "+" ∨ s = "-" ∨ s = "*")∧Vg cs ps a∧Vg cs ps b
abbrev Asc:=List (Str × Int)
abbrev kvI (p:Str × Int):Key × D:=(.inr p.1,.int p.2)
def opI (s:Str) (i j:Int):Int:=if s = "+" then i+j else if s = "-" then i - j else i * j
def evS (cs ps:Asc):Sm→Option Int
 | .cell x=>some ((cs.lookup x).getD 0)
 | .num i=>some i
 | .purse x=>ps.lookup x
 | .op s a b=>match evS cs ps a,evS cs ps b with
  | some i,some j=>if (opI s i j).natAbs≤1000000000 then some (opI s i j) else none
  | _,_=>none
theorem Qb (x:Str) (a:Asc):valD (a.map kvI) (.inr x)=(a.lookup x).map D.int:=by
 have e:a.map kvI=(a.map fun p=>(p.1,D.int p.2)).map kvD:=by rw [List.map_map]; rfl
 rw [e,KC]
 induction a with
 | nil=>rfl
 | cons p a ih=>
  rw [List.map_cons,List.lookup_cons,List.lookup_cons]
  cases q:(x == p.1) with
  | true=>rfl
  | false=>exact ih (by rw [List.map_map]; rfl)
structure St where
 cells:Asc
 purses:Asc
 tape:List Int
structure Rn where
 r:Nat
 s:Nat
 a:Nat
 b:Nat
 t:Nat
abbrev runF (s:Nat) (rd kn:D) (k:Nat):List (Str × D):=[("state",.cel s),("reads",rd),("known",kn),("steps",.int (k:Nat))]
abbrev stdF (a b t:Nat):List (Str × D):=[("cells",.cel a),("purses",.cel b),("tape",.cel t)]
structure StdAt (S:Za) (s a b t:Nat) (σ:St):Prop where
 st:S[s]? = some (.ins "Stand" (stdF a b t))
 ce:S[a]? = some (.dct (σ.cells.map kvI))
 pu:S[b]? = some (.dct (σ.purses.map kvI))
 ta:S[t]? = some (.lst (σ.tape.map D.int))
 ab:a ≠ b
structure RunAt (S:Za) (p:Rn) (rd kn:D) (kv:List (Str × Bool)) (k:Nat) (σ:St):Prop where
 rn:S[p.r]? = some (.ins "Run" (runF p.s rd kn k))
 sd:StdAt S p.s p.a p.b p.t σ
 kw:∃ n,kn = .cel n∧S[n]? = some (.dct (kv.map kvP))∧n ≠ p.a∧n ≠ p.b
theorem ne_of_at {S:Za} {i j:Nat} {x y:Cell} (h1:S[i]? = some x) (h2:S[j]? = some y) (ne:x ≠ y):i ≠ j:=by
 intro e; subst e; rw [h1] at h2; exact ne (Option.some.inj h2)
theorem Xs {S:Za} {i:Nat} {x y:Cell} (h:S[i]? = some x):(S.set i y)[i]? = some y:=by
 have:i < S.length:=by
  rcases Nat.lt_or_ge i S.length with h' | h'
  ·exact h'
  ·rw [List.getElem?_eq_none h'] at h; cases h
 rw [List.getElem?_set_self this]
theorem Zp {S:Za} {i j:Nat} {x:Cell} {y:Option Cell} (h:S[i]? = y) (ne:j ≠ i):(S.set j x)[i]? = y:=by
 rw [List.getElem?_set_ne ne]; exact h
def Lim (i:Int):Prop:=-(2 ^ 64) < i∧i < 2 ^ 64
def Zam (a:Asc):Prop:=∀ p ∈ a,Lim p.2
theorem evS_lim {cs ps:Asc} {cn pn:List Str} (hc:Zam cs) (hp:Zam ps) {s:Sm} {v:Int} (o:Vg cn pn s) (h:evS cs ps s=some v):Lim v:=by
 cases s with
 | cell x=>
  simp only [evS,Option.some.injEq] at h
  subst h
  cases q:cs.lookup x with
  | none=>simp [Lim]
  | some i=>simpa using hc _ (lookup_mem q)
 | num i=>
  simp only [evS,Option.some.injEq] at h
  subst h
  simp only [Vg] at o
  unfold Lim; omega
 | purse x=>
  simp only [evS] at h
  exact hp _ (lookup_mem h)
 | op s a b=>
  simp only [evS] at h
  split at h
  ·split at h
   ·simp only [Option.some.injEq] at h; subst h; unfold Lim; omega
   ·cases h
  ·cases h
theorem Zab {i j:Int} (h:Lim i):mulC i j=true:=by unfold mulC; simp; exact .inl ⟨by have:=h.1; omega,by have:=h.2; omega⟩
section
variable {S:Za} {p:Rn} {rd kn:D} {kv:List (Str × Bool)} {k:Nat} {σ:St} {cn pn:List Str}
theorem Sm.hd (s:Sm) (cs ps:List Str) (h:Vg cs ps s):Hd (smD s):=by
 cases s with
 | cell x=>exact .inl ⟨_,rfl⟩
 | num i=>exact .inr (.inl ⟨_,rfl⟩)
 | purse x=>exact X1
 | op s a b=>exact X1
theorem YT (R:RunAt S p rd kn kv k σ) (lc:Zam σ.cells) (lp:Zam σ.purses) (hp:∀ x ∈ pn,∃ v,σ.purses.lookup x=some v):∀ {s:Sm} {f:Nat} {E:XP} {Q:D→Za→Prop},Vg cn pn s→s.dep≤f→(∀ v,evS σ.cells σ.purses s=some v→Q (.int v) S)→(evS σ.cells σ.purses s=none→E "Fault" [("word",.str "great")] S)→Ev (m_Run__number f [.cel p.r,smD s]) S E Q
 | s,0,E,Q,o,d,q,e=>by cases s <;> simp [Sm.dep] at d
 | .num i,f+1,E,Q,o,d,q,e=>by
  unfold m_Run__number
  rw [Zl]
  unfold b_Run__number
  simp [startD,smD]
  refine ZF (.inr (.inl ⟨_,rfl⟩)) ?_
  simp
  exact q i rfl
 | .cell x,f+1,E,Q,o,d,q,e=>by
  unfold m_Run__number
  rw [Zl]
  unfold b_Run__number
  simp [startD,smD]
  refine ZF (.inl ⟨_,rfl⟩) ?_
  simp [dr,tyNm]
  rw [Zw R.rn rfl,Zw R.sd.st rfl,Qp (kvs:=σ.cells.map kvI) (by simp only [dr,R.sd.ce])]
  rw [Gq (kvs:=σ.cells.map kvI) (by simp only [dr,R.sd.ce]),Qb]
  have:=q _ rfl
  cases h:σ.cells.lookup x with
  | none=>rw [h] at this; simpa using this
  | some v=>rw [h] at this; simpa using this
 | .purse x,f+1,E,Q,o,d,q,e=>by
  obtain ⟨v,hv⟩:=hp x o
  unfold m_Run__number
  rw [Zl]
  unfold b_Run__number
  simp [startD,smD]
  refine ZF X1 ?_
  simp [dr,tyNm]
  rw [Zw R.rn rfl,Zw R.sd.st rfl,WK (kvs:=σ.purses.map kvI) (d:=.int v) (by simp only [dr,R.sd.pu]) (by rw [Qb,hv]; rfl)]
  exact q v hv
 | .op s a b,f+1,E,Q,o,d,q,e=>by
  unfold m_Run__number
  rw [Zl]
  unfold b_Run__number
  simp [startD,smD]
  refine ZF X1 ?_
  simp [dr,tyNm]
  have hs:=o.1
  have hne:s ≠ Str.ofString "purse" := by rcases hs with rfl | rfl | rfl <;> decide
  rw [if_neg hne,ZE (n:=p.r)]
  simp
  rw [ZD R.rn rfl]
  simp only [Sm.dep] at d
  have qq:∀ {i j},evS σ.cells σ.purses a=some i→evS σ.cells σ.purses b=some j→evS σ.cells σ.purses (.op s a b)=if (opI s i j).natAbs≤1000000000 then some (opI s i j) else none:=fun h1 h2=>by simp only [evS,h1,h2]
  refine YT R lc lp hp o.2.1 (by omega) (fun i hi=>?_) (fun hi=>e (by simp only [evS,hi]))
  rw [ZE (n:=p.r)]
  simp
  rw [ZD R.rn rfl]
  refine YT R lc lp hp o.2.2 (by omega) (fun j hj=>?_) (fun hj=>e (by simp only [evS,hi,hj]))
  have key:∀ {g:Str} {m:List D→M D},List.lookup s [(Str.ofString "+",Str.ofString "added"),(Str.ofString "-",Str.ofString "lessened"),(Str.ofString "*",Str.ofString "multiplied")]=some g→List.lookup g [(Str.ofString "added",2,WU),(Str.ofString "lessened",2,Yw),(Str.ofString "multiplied",2,ZW)]=some (2,m)→(∀ {E':XP} {Q':D→Za→Prop},Q' (.int (opI s i j)) S→Ev (m [.int i,.int j]) S E' Q')→Ev
    (tabD
     [(Str.ofString "+",Str.ofString "added"),(Str.ofString "-",Str.ofString "lessened"),
      (Str.ofString "*",Str.ofString "multiplied")]
     (D.str s))
    S (fun C fs S'=>E C fs S') fun d_2 S'=>
    Ev
     (mCallF 4
      [(Str.ofString "added",2,WU),(Str.ofString "lessened",2,Yw),
       (Str.ofString "multiplied",2,ZW)]
      (mCons (mVar 2) (mCons (mVar 3) mNil))
      [some (D.cel p.r),some (D.tup [D.str s,smD a,smD b]),some (.int i),some (.int j),some d_2,none,some (D.str s),
       some (smD a),some (smD b)])
     S' (fun C fs S'=>E C fs S') fun d S'=>
     Ev (absD [d]) S' (fun C fs S'=>E C fs S') fun x S1=>
      Ev (gtD x (D.int 1000000000)) S1 (fun C fs S'=>E C fs S') fun x S1=>
       Ev (asB x) S1 (fun C fs S'=>E C fs S') fun b S'=>
        if b=true then E (Str.ofString "Fault") [(Str.ofString "word",D.str (Str.ofString "great"))] S'
        else Q d S':=by
   intro g m h1 h2 h3
   rw [JR h1,Qm (x:=g) rfl h2]
   simp
   refine h3 ?_
   simp
   have q2:=qq hi hj
   by_cases hb:(opI s i j).natAbs≤1000000000
   ·rw [if_pos hb] at q2
    rw [if_neg (by split <;> omega)]
    exact q _ q2
   ·rw [if_neg hb] at q2
    rw [if_pos (by split <;> omega)]
    exact e q2
  rcases hs with rfl | rfl | rfl
  ·refine key (g:=Str.ofString "added") (m:=WU) (by decide) (by simp [List.lookup]) fun h=>?_
   unfold WU
   rw [Zl]
   unfold Jt
   simpa [startD,opI] using h
  ·refine key (g:=Str.ofString "lessened") (m:=Yw) (by decide) (by rfl) fun h=>?_
   unfold Yw
   rw [Zl]
   unfold Vi
   simpa [startD,opI] using h
  ·refine key (g:=Str.ofString "multiplied") (m:=ZW) (by decide) (by rfl) fun h=>?_
   unfold ZW
   rw [Zl]
   unfold XW
   have:=evS_lim lc lp o.2.1 hi
   simp [startD]
   exact ⟨Zab this,h⟩
end
def putA (a:Asc) (x:Str) (v:Int):Asc:=if a.any (fun p=>decide (p.1=x))=true then a.map (fun p=>if p.1=x then (p.1,v) else p) else a++[(x,v)]
def dropA (a:Asc) (x:Str):Asc:=a.filter fun p=>decide (p.1 ≠ x)
def putC (a:Asc) (x:Str) (v:Int):Asc:=if v=0 then dropA a x else putA a x v
theorem Zca (a:Asc) (x:Str) (v:Int):putD (a.map kvI) (.inr x) (.int v)=(putA a x v).map kvI:=by
 unfold putD putA
 have e:((a.map kvI).any fun kv=>decide (kv.1=(.inr x:Key)))=a.any (fun p=>decide (p.1=x)):=by
  rw [List.any_map]; congr 1; funext p; simp [kvI]
 rw [e]
 split
 ·rw [List.map_map,List.map_map]
  apply List.map_congr_left
  intro p _
  by_cases h:p.1=x
  ·simp [kvI,h]
  ·simp [kvI,h]
 ·rw [List.map_append]; rfl
theorem Gi (a:Asc) (x:Str):dropD (a.map kvI) (.inr x)=(dropA a x).map kvI:=by
 unfold dropD dropA
 rw [List.filter_map]
 congr 1
 apply List.filter_congr
 intro p _
 simp [kvI]
theorem Gj (a:Asc) (x:Str) (v:Int):dropA (putA a x v) x=dropA a x:=by
 unfold putA dropA
 split
 ·induction a with
  | nil=>rfl
  | cons p a ih=>
   have ih':∀ a:Asc,(a.map (fun p=>if p.1=x then (p.1,v) else p)).filter (fun p=>decide (p.1 ≠ x))=a.filter fun p=>decide (p.1 ≠ x):=by
    intro a
    induction a with
    | nil=>rfl
    | cons q a ih=>
     rw [List.map_cons,List.filter_cons,List.filter_cons,ih]
     by_cases h:q.1=x
     ·simp [h]
     ·simp [h]
   exact ih' _
 ·rw [List.filter_append]; simp
theorem Ws (a:Asc) (x:Str) (v:Int):(putA a x v).lookup x=some v:=by
 have h1:∀ a:Asc,a.any (fun p=>decide (p.1=x))=true→(a.map (fun p=>if p.1=x then (p.1,v) else p)).lookup x=some v:=by
  intro a
  induction a with
  | nil=>intro h; simp at h
  | cons q a ih=>
   intro h
   rw [List.map_cons,List.lookup_cons]
   by_cases hq:q.1=x
   ·simp [hq]
   ·rw [List.any_cons] at h
    simp [hq] at h
    have:(x == (if q.1=x then (q.1,v) else q).1)=false:=by rw [if_neg hq]; simp; exact fun e=>hq e.symm
    rw [this]
    exact ih (by simpa using h)
 have h2:∀ a:Asc,a.any (fun p=>decide (p.1=x))=false→(a++[(x,v)]).lookup x=some v:=by
  intro a
  induction a with
  | nil=>intro _; simp [List.lookup]
  | cons q a ih=>
   intro h
   rw [List.any_cons,Bool.or_eq_false_iff] at h
   have hq:q.1 ≠ x:=by simpa using h.1
   rw [List.cons_append,List.lookup_cons]
   have:(x == q.1)=false:=by simp; exact fun e=>hq e.symm
   rw [this]
   exact ih h.2
 unfold putA
 split
 ·exact h1 _ (by assumption)
 ·rename_i hn; exact h2 _ (Bool.eq_false_iff.mpr hn)
theorem Wu {a:Asc} {x:Str} {v:Int} {q:Str × Int} (h:q ∈ putA a x v):q=(x,v)∨q ∈ a:=by
 unfold putA at h
 split at h
 ·obtain ⟨p,hp,rfl⟩:=List.mem_map.mp h
  by_cases e:p.1=x
  ·rw [if_pos e,e]; exact .inl rfl
  ·rw [if_neg e]; exact .inr hp
 ·rcases List.mem_append.mp h with h | h
  ·exact .inr h
  ·exact .inl (by simpa using h)
theorem Qw {a:Asc} {x:Str} {v:Int}:(a.map (fun p=>if p.1=x then (p.1,v) else p)).map (·.1)=a.map (·.1):=by
 rw [List.map_map]
 apply List.map_congr_left
 intro p _
 by_cases e:p.1=x
 ·simp [e]
 ·simp [e]
theorem ZbY {a:Asc} {x:Str} {v:Int} (h:(a.map (·.1)).Nodup):((putA a x v).map (·.1)).Nodup:=by
 unfold putA
 split
 ·rw [Qw]; exact h
 ·rename_i hn
  rw [List.map_append,List.nodup_append]
  refine ⟨h,by simp,fun y hy z hz=>?_⟩
  simp at hz
  subst hz
  intro e
  subst e
  obtain ⟨p,hp,e⟩:=List.mem_map.mp hy
  exact hn (List.any_eq_true.mpr ⟨p,hp,by simpa using e⟩)
theorem VR {a:Asc} {x:Str} {v:Int} {q:Str × Int} (h:q ∈ putC a x v):q=(x,v)∨q ∈ a:=by
 unfold putC at h
 split at h
 ·exact .inr (List.mem_filter.mp h).1
 ·exact Wu h
theorem ZbZ {a:Asc} {x:Str} {v:Int} (h:(a.map (·.1)).Nodup):((putC a x v).map (·.1)).Nodup:=by
 unfold putC
 split
 ·exact h.sublist (List.Sublist.map _ List.filter_sublist)
 ·exact ZbY h
theorem UE {l m:List Str} (nd:l.Nodup) (h:∀ x ∈ l,x ∈ m):l.length≤m.length:=by
 induction l generalizing m with
 | nil=>simp
 | cons x l ih=>
  rw [List.nodup_cons] at nd
  have hx:=h x List.mem_cons_self
  have:=ih (m:=m.erase x) nd.2 fun y hy=>(List.mem_erase_of_ne (a:=y) (b:=x) (fun e=>nd.1 (by rw [← e]; exact hy))).mpr (h y (List.mem_cons_of_mem _ hy))
  rw [List.length_erase_of_mem hx] at this
  have:=List.length_pos_of_mem hx
  rw [List.length_cons]
  omega
structure OkSt (cn pn:List Str) (σ:St):Prop where
 cl:Zam σ.cells
 ck:∀ p ∈ σ.cells,p.1 ∈ cn
 cd:(σ.cells.map (·.1)).Nodup
 pk:σ.purses.map (·.1)=pn
 p0:∀ p ∈ σ.purses,0≤p.2
 ps:(σ.purses.map (·.2)).sum≤2 ^ 40
 tl:σ.tape.length≤100
 c9:cn.length≤1000
 cz:∀ p ∈ σ.cells,p.2 ≠ 0
theorem sum_ge:∀ {l:List Int},(∀ i ∈ l,0≤i)→0≤l.sum∧∀ i ∈ l,i≤l.sum
 | [],_=>by simp
 | j :: l,h=>by
  have:=sum_ge (l:=l) fun i hi=>h i (List.mem_cons_of_mem _ hi)
  have hj:=h j List.mem_cons_self
  rw [List.sum_cons]
  refine ⟨by omega,fun i hi=>?_⟩
  rcases List.mem_cons.mp hi with rfl | hi
  ·omega
  ·have:=this.2 i hi; omega
theorem OkSt.pl {cn pn:List Str} {σ:St} (o:OkSt cn pn σ):Zam σ.purses:=by
 intro p hp
 have:=(sum_ge (l:=σ.purses.map (·.2)) (by intro i hi; obtain ⟨q,hq,rfl⟩:=List.mem_map.mp hi; exact o.p0 q hq)).2 _ (List.mem_map_of_mem hp)
 have:=o.p0 p hp
 have:=o.ps
 unfold Lim; omega
theorem Wr:∀ {a:Asc} {x:Str},x ∈ a.map (·.1)→∃ v,a.lookup x=some v
 | [],_,h=>by simp at h
 | q :: a,x,h=>by
  rw [List.lookup_cons]
  by_cases e:x=q.1
  ·simp [e]
  ·have:(x == q.1)=false:=by simpa using e
   rw [this]
   rw [List.map_cons,List.mem_cons] at h
   exact Wr (h.resolve_left e)
theorem OkSt.hp {cn pn:List Str} {σ:St} (o:OkSt cn pn σ):∀ x ∈ pn,∃ v,σ.purses.lookup x=some v:=fun x hx=>Wr (o.pk ▸ hx)
theorem OkSt.clen {cn pn:List Str} {σ:St} (o:OkSt cn pn σ):σ.cells.length≤1000:=by
 have:=UE o.cd (m:=cn) (by intro x hx; obtain ⟨p,hp,rfl⟩:=List.mem_map.mp hx; exact o.ck p hp)
 rw [List.length_map] at this
 exact Nat.le_trans this o.c9
theorem OkSt.put {cn pn:List Str} {σ:St} (o:OkSt cn pn σ) {x:Str} {v:Int} (hx:x ∈ cn) (hv:Lim v):OkSt cn pn { σ with cells:=putC σ.cells x v } where
 cl:=fun p hp=>by rcases VR hp with rfl | h; exact hv; exact o.cl p h
 ck:=fun p hp=>by rcases VR hp with rfl | h; exact hx; exact o.ck p h
 cd:=ZbZ o.cd
 pk:=o.pk
 p0:=o.p0
 ps:=o.ps
 tl:=o.tl
 c9:=o.c9
 cz:=fun p hp=>by
  have hp:p ∈ putC σ.cells x v:=hp
  unfold putC at hp
  split at hp
  ·exact o.cz p (List.mem_filter.mp hp).1
  ·rcases Wu hp with rfl | hp
   ·assumption
   ·exact o.cz p hp
theorem OkSt.say {cn pn:List Str} {σ:St} (o:OkSt cn pn σ) {v:Int} (h:¬ 100≤σ.tape.length):OkSt cn pn { σ with tape:=σ.tape++[v] } where
 cl:=o.cl
 ck:=o.ck
 cd:=o.cd
 pk:=o.pk
 p0:=o.p0
 ps:=o.ps
 tl:=by simp; omega
 c9:=o.c9
 cz:=o.cz
def Fr (p:Rn) (S S':Za):Prop:=S'.length=S.length∧∀ i,i ≠ p.r→i ≠ p.a→i ≠ p.b→i ≠ p.t→S'[i]? = S[i]?
theorem Fr.refl {p:Rn} {S:Za}:Fr p S S:=⟨rfl,fun _ _ _ _ _=>rfl⟩
theorem Fr.trans {p:Rn} {S S1 S2:Za} (x:Fr p S S1) (y:Fr p S1 S2):Fr p S S2:=⟨y.1.trans x.1,fun i h1 h2 h3 h4=>(y.2 i h1 h2 h3 h4).trans (x.2 i h1 h2 h3 h4)⟩
section
variable {S:Za} {p:Rn} {rd kn:D} {kv:List (Str × Bool)} {k:Nat} {σ:St} {E:XP} {Q:D→Za→Prop}
theorem RunAt.ra (R:RunAt S p rd kn kv k σ):p.r ≠ p.a:=ne_of_at R.rn R.sd.ce (by simp)
theorem RunAt.rb (R:RunAt S p rd kn kv k σ):p.r ≠ p.b:=ne_of_at R.rn R.sd.pu (by simp)
theorem RunAt.rt (R:RunAt S p rd kn kv k σ):p.r ≠ p.t:=ne_of_at R.rn R.sd.ta (by simp)
theorem RunAt.rs (R:RunAt S p rd kn kv k σ):p.r ≠ p.s:=ne_of_at R.rn R.sd.st (by intro h; injection h with h1 _; revert h1; decide)
theorem RunAt.sa (R:RunAt S p rd kn kv k σ):p.s ≠ p.a:=ne_of_at R.sd.st R.sd.ce (by simp)
theorem RunAt.sb (R:RunAt S p rd kn kv k σ):p.s ≠ p.b:=ne_of_at R.sd.st R.sd.pu (by simp)
theorem RunAt.st (R:RunAt S p rd kn kv k σ):p.s ≠ p.t:=ne_of_at R.sd.st R.sd.ta (by simp)
theorem RunAt.at (R:RunAt S p rd kn kv k σ):p.a ≠ p.t:=ne_of_at R.sd.ce R.sd.ta (by simp)
theorem RunAt.bt (R:RunAt S p rd kn kv k σ):p.b ≠ p.t:=ne_of_at R.sd.pu R.sd.ta (by simp)
theorem RunAt.kset (R:RunAt S p rd kn kv k σ) {i:Nat} {x:Cell} (h:i=p.a∨i=p.b∨i=p.t∨i=p.r):∃ n,kn = .cel n∧(S.set i x)[n]? = some (.dct (kv.map kvP))∧n ≠ p.a∧n ≠ p.b:=by
 obtain ⟨n,e,at_,na,nb⟩:=R.kw
 have nt:n ≠ p.t:=ne_of_at at_ R.sd.ta (by simp)
 have nr:n ≠ p.r:=ne_of_at at_ R.rn (by simp)
 exact ⟨n,e,Zp at_ (by rcases h with rfl | rfl | rfl | rfl; exact na.symm; exact nb.symm; exact nt.symm; exact nr.symm),na,nb⟩
theorem RunAt.cells (R:RunAt S p rd kn kv k σ) (c:Asc):RunAt (S.set p.a (.dct (c.map kvI))) p rd kn kv k { σ with cells:=c }:=
 ⟨Zp R.rn R.ra.symm,⟨Zp R.sd.st R.sa.symm,Xs R.sd.ce,Zp R.sd.pu R.sd.ab,Zp R.sd.ta R.at,R.sd.ab⟩,R.kset (.inl rfl)⟩
theorem RunAt.purses (R:RunAt S p rd kn kv k σ) (c:Asc):RunAt (S.set p.b (.dct (c.map kvI))) p rd kn kv k { σ with purses:=c }:=
 ⟨Zp R.rn R.rb.symm,⟨Zp R.sd.st R.sb.symm,Zp R.sd.ce R.sd.ab.symm,Xs R.sd.pu,Zp R.sd.ta R.bt,R.sd.ab⟩,R.kset (.inr (.inl rfl))⟩
theorem RunAt.tape (R:RunAt S p rd kn kv k σ) (c:List Int):RunAt (S.set p.t (.lst (c.map D.int))) p rd kn kv k { σ with tape:=c }:=
 ⟨Zp R.rn R.rt.symm,⟨Zp R.sd.st R.st.symm,Zp R.sd.ce R.at.symm,Zp R.sd.pu R.bt.symm,Xs R.sd.ta,R.sd.ab⟩,R.kset (.inr (.inr (.inl rfl)))⟩
theorem RunAt.steps (R:RunAt S p rd kn kv k σ) (k':Nat):RunAt (S.set p.r (.ins "Run" (runF p.s rd kn k'))) p rd kn kv k' σ:=
 ⟨Xs R.rn,⟨Zp R.sd.st R.rs,Zp R.sd.ce R.ra,Zp R.sd.pu R.rb,Zp R.sd.ta R.rt,R.sd.ab⟩,R.kset (.inr (.inr (.inr rfl)))⟩
theorem Zih {x:Cell}:Fr p S (S.set p.a x):=⟨by simp,fun i _ h _ _=>List.getElem?_set_ne (Ne.symm h)⟩
theorem Zii {x:Cell}:Fr p S (S.set p.r x):=⟨by simp,fun i h _ _ _=>List.getElem?_set_ne (Ne.symm h)⟩
theorem Zd1 {s a b t:Nat} {x:Str} {v:Int} (A:StdAt S s a b t σ) (l:σ.cells.length≤1000) (q:Q .non (S.set a (.dct ((putC σ.cells x v).map kvI)))):Ev (m_Stand__put [.cel s,.str x,.int v]) S E Q:=by
 have z:=zs
 have sa:s ≠ a:=ne_of_at A.st A.ce (by simp)
 unfold m_Stand__put
 rw [Zl]
 unfold XU
 simp [startD]
 rw [Zw A.st rfl,ZbF A.ce (by rw [List.length_map]; omega),Zca]
 by_cases h:v=0
 ·simp [h]
  have st2:(S.set a (.dct ((putA σ.cells x 0).map kvI)))[s]? = some (.ins "Stand" (stdF a b t)):=Zp A.st sa.symm
  have ce2:(S.set a (.dct ((putA σ.cells x 0).map kvI)))[a]? = some (.dct ((putA σ.cells x 0).map kvI)):=Xs A.ce
  rw [Zw st2 rfl,Qp (kvs:=(putA σ.cells x 0).map kvI) (by simp only [dr,ce2])]
  rw [ZbE ce2 (d:=.int 0) (by rw [Qb,Ws]; rfl),Gi,Gj,List.set_set]
  rw [h,putC,if_pos rfl] at q
  exact q
 ·simp [h]
  rw [putC,if_neg h] at q
  exact q
theorem Zco (R:RunAt S p rd kn kv k σ) (q:k ≠ 80→Q .non (S.set p.r (.ins "Run" (runF p.s rd kn (k+1))))) (e:k=80→E "Fault" [("word",.str "long")] S):Ev (m_Run__step [.cel p.r]) S E Q:=by
 unfold m_Run__step
 rw [Zl]
 unfold WC
 simp [startD]
 rw [Zw R.rn rfl]
 simp
 by_cases h:k=80
 ·simp [h]
  exact e h
 ·have:¬ (k:Int)=80:=by omega
  simp [this]
  rw [VH R.rn rfl]
  simp
  refine ⟨_,_,R.rn,⟨by simp,by simp⟩,?_⟩
  exact q h
end
inductive Out where
 | ok (k:Nat) (σ:St) | fault (w:Str) | unread (x:Str)
structure RunP (o:Out) (S:Za) (p:Rn) (rd kn:D) (kv:List (Str × Bool)) (cn pn:List Str) (E:XP) (Q:Za→Prop):Prop where
 ok:∀ S' k' σ',o = .ok k' σ'→RunAt S' p rd kn kv k' σ'→OkSt cn pn σ'→Fr p S S'→Q S'
 fault:∀ S' w,o = .fault w→Fr p S S'→E "Fault" [("word",.str w)] S'
 unread:∀ S' x,o = .unread x→Fr p S S'→E "Unread" [("name",.str x)] S'
def ZcI (rd kn:D) (kv:List (Str × Bool)) (cn pn:List Str) (m:List D→M D) (parts:List D) (o:Nat→St→Out):Prop:=∀ (S:Za) (p:Rn) (k:Nat) (σ:St) (E:XP) (Q:Za→Prop),k≤80→RunAt S p rd kn kv k σ→OkSt cn pn σ→RunP (o k σ) S p rd kn kv cn pn E Q→Ev (m [.cel p.r,.lst parts]) S E fun _ S'=>Q S'
def setO (x:Str) (s:Sm) (k:Nat) (σ:St):Out:=match evS σ.cells σ.purses s with
 | some v=>.ok k { σ with cells:=putC σ.cells x v }
 | none=>.fault "great"
def sayO (s:Sm) (k:Nat) (σ:St):Out:=match evS σ.cells σ.purses s with
 | some v=>if 100≤σ.tape.length then .fault "full" else .ok k { σ with tape:=σ.tape++[v] }
 | none=>.fault "great"
theorem Gh {rd kn:D} {kv:List (Str × Bool)} {cn pn:List Str} {x:Str} {s:Sm} (hx:x ∈ cn) (hs:Vg cn pn s) (hd:s.dep≤8):ZcI rd kn kv cn pn Wt [.str x,smD s] (setO x s):=by
 intro S p k σ E Q k80 R O h
 unfold Wt
 rw [Zl]
 unfold Qi
 simp [startD,Zbh]
 rw [ZE (n:=p.s)]
 simp
 rw [Zw R.rn rfl,ZD R.sd.st rfl,ZE (n:=p.r)]
 simp
 rw [ZD R.rn rfl]
 refine YT R O.cl O.pl O.hp hs hd (fun v hv=>?_) (fun hv=>?_)
 ·refine Zd1 R.sd O.clen ?_
  exact h.ok _ _ _ (by simp only [setO,hv]) (R.cells _) (O.put hx (evS_lim O.cl O.pl hs hv)) Zih
 ·exact h.fault _ _ (by simp only [setO,hv]) Fr.refl
abbrev Zhl:List (Str × Str):=[("set", "do_set"),("say", "do_say"),("pay", "do_pay"),("if", "do_if"),("while", "do_while")]
abbrev dFun (n:Nat):FTb:=[("do_set",2,Wt),("do_say",2,QD),("do_pay",2,QC),("do_if",2,mFn ["run", "parts", "test", "rows", "others"] (b_do_if (m_Run__do n))),("do_while",2,mFn ["run", "parts", "test", "rows"] (b_do_while (m_Run__do n)))]
def W8 (o:Nat→St→Out):Prop:=∀ k σ k' σ',k≤80→o k σ = .ok k' σ'→k≤k'∧k'≤80
theorem G9 {x:Str} {s:Sm}:W8 (setO x s):=by
 intro k σ k' σ' h e
 unfold setO at e
 split at e
 ·cases e; exact ⟨Nat.le_refl _,h⟩
 ·cases e
def Jp (n:Nat) (rd kn:D) (kv:List (Str × Bool)) (cn pn:List Str) (d:D) (o:Nat→St→Out):Prop:=∃ wd fn m parts,d = .tup (.str wd :: parts)∧parts.length≤100∧Zhl.lookup wd=some fn∧(dFun n).lookup fn=some (2,m)∧W8 o∧ZcI rd kn kv cn pn m parts o
def runRows:List (Nat→St→Out)→Nat→St→Out
 | [],k,σ=>.ok k σ
 | o :: os,k,σ=>if k=80 then .fault "long" else match o (k+1) σ with
  | .ok k' σ'=>runRows os k' σ'
  | x=>x
def Z5 (n:Nat) (rd kn:D) (kv:List (Str × Bool)) (cn pn:List Str) (ds:List D) (os:List (Nat→St→Out)):Prop:=ds.length=os.length∧∀ (i:Nat) d o,ds[i]? = some d→os[i]? = some o→Jp n rd kn kv cn pn d o
theorem WW:∀ {os:List (Nat→St→Out)},(∀ o ∈ os,W8 o)→W8 (runRows os)
 | [],_,k,σ,k',σ',h,e=>by
  rw [runRows] at e
  cases e
  exact ⟨Nat.le_refl _,h⟩
 | o :: os,hm,k,σ,k',σ',h,e=>by
  rw [runRows] at e
  split at e
  ·cases e
  ·rename_i hk
   cases e1:o (k+1) σ with
   | ok k1 σ1=>
    rw [e1] at e
    have h1:=hm o List.mem_cons_self (k+1) σ k1 σ1 (by omega) e1
    have h2:=WW (fun o' ho=>hm o' (List.mem_cons_of_mem _ ho)) k1 σ1 k' σ' h1.2 e
    exact ⟨by omega,h2.2⟩
   | fault w=>rw [e1] at e; cases e
   | unread w=>rw [e1] at e; cases e
theorem Z5.mono {n:Nat} {rd kn:D} {kv:List (Str × Bool)} {cn pn:List Str} {ds:List D} {os:List (Nat→St→Out)} (h:Z5 n rd kn kv cn pn ds os):∀ o ∈ os,W8 o:=fun o ho=>by
 obtain ⟨i,hi,e⟩:=List.getElem_of_mem ho
 obtain ⟨_,_,_,_,_,_,_,_,hm,_⟩:=h.2 i (ds[i]'(h.1 ▸ hi)) o (List.getElem?_eq_getElem (h.1 ▸ hi)) (by rw [List.getElem?_eq_getElem hi,e])
 exact hm
theorem Zdk {n:Nat} {rd kn:D} {kv:List (Str × Bool)} {cn pn:List Str} {ds:List D} {os:List (Nat→St→Out)} {S:Za} {p:Rn} {k:Nat} {σ:St} {E:XP} {Q:Za→Prop} (h:Z5 n rd kn kv cn pn ds os) (k80:k≤80) (R:RunAt S p rd kn kv k σ) (O:OkSt cn pn σ) (q:RunP (runRows os k σ) S p rd kn kv cn pn E Q):Ev (m_Run__do (n+1) [.cel p.r,.tup ds]) S E fun _ S'=>Q S':=by
 unfold m_Run__do
 rw [Zl]
 unfold b_Run__do
 simp [startD]
 refine ZT (fun i τ S'=>∃ k' σ' v2 v3 v4 v5,k'≤80∧RunAt S' p rd kn kv k' σ'∧OkSt cn pn σ'∧Fr p S S'∧runRows (os.drop i) k' σ'=runRows os k σ∧τ=[some (.cel p.r),some (.tup ds),v2,v3,v4,v5]) (k:=0) ⟨k,σ,none,none,none,none,k80,R,O,Fr.refl,by simp,rfl⟩ (fun i d τ S' hx hi=>?_) (fun τ S' hi=>?_)
 ·obtain ⟨k',σ',v2,v3,v4,v5,hk80,R',O',F',e',rfl⟩:=hi
  refine ⟨_,Zz,?_⟩
  simp
  have hi:i < os.length:=by
   rw [← h.1]
   rcases Nat.lt_or_ge i ds.length with h' | h'
   ·exact h'
   ·rw [List.getElem?_eq_none h'] at hx; cases hx
  obtain ⟨wd,fn,m,parts,rfl,pl,h1,h2,mo,dz⟩:=h.2 i d _ hx (List.getElem?_eq_getElem hi)
  have ed:os.drop i=os[i] :: os.drop (i+1):=List.drop_eq_getElem_cons hi
  rw [Nat.zero_add,ed] at e'
  rw [ZE (n:=p.r)]
  simp
  rw [ZD R'.rn rfl]
  refine Zco R' (fun hk=>?_) (fun hk=>?_)
  ·have R2:=R'.steps (k'+1)
   rw [runRows,if_neg hk] at e'
   refine ⟨by omega,?_⟩
   rw [JR h1,Qm (x:=fn) rfl h2]
   simp
   have F2:Fr p S (List.set S' p.r (Cell.ins "Run" (runF p.s rd kn (k'+1)))):=F'.trans Zii
   refine dz _ p (k'+1) σ' _ _ (by omega) R2 O' ⟨fun S3 k3 σ3 e3 R3 O3 F3=>?_,fun S3 w e3 F3=>?_,fun S3 x e3 F3=>?_⟩
   ·rw [e3] at e'
    exact ⟨k3,(mo (k'+1) σ' k3 σ3 (by omega) e3).2,σ3,R3,O3,F2.trans F3,e'⟩
   ·rw [e3] at e'
    exact q.fault _ _ e'.symm (F2.trans F3)
   ·rw [e3] at e'
    exact q.unread _ _ e'.symm (F2.trans F3)
  ·rw [runRows,if_pos hk] at e'
   exact q.fault _ _ e'.symm F'
 ·obtain ⟨k',σ',v2,v3,v4,v5,hk80,R',O',F',e',rfl⟩:=hi
  rw [Nat.zero_add,h.1,List.drop_length] at e'
  exact q.ok _ _ _ e'.symm R' O' F'
def Gr (S S':Za):Prop:=S.length≤S'.length∧∀ m,m < S.length→S'[m]? = S[m]?
theorem Gr.refl {S:Za}:Gr S S:=⟨Nat.le_refl _,fun _ _=>rfl⟩
theorem Gr.trans {S S1 S2:Za} (a:Gr S S1) (b:Gr S1 S2):Gr S S2:=⟨Nat.le_trans a.1 b.1,fun m h=>(b.2 m (Nat.lt_of_lt_of_le h a.1)).trans (a.2 m h)⟩
theorem Gr.add {S:Za} (x:List Cell):Gr S (S++x):=⟨by simp,fun m h=>List.getElem?_append_left h⟩
theorem Gr.at {S S':Za} {i:Nat} {x:Cell} (g:Gr S S') (h:S[i]? = some x):S'[i]? = some x:=by
 rw [g.2 i,h]
 rcases Nat.lt_or_ge i S.length with h' | h'
 ·exact h'
 ·rw [List.getElem?_eq_none h'] at h; cases h
theorem Gr.bag {S S':Za} {n:Nat} (g:Gr S S') (b:Bag S n):Bag S' n:=by
 obtain ⟨x,y,h,r⟩:=b
 exact ⟨x,y,g.at h,r⟩
theorem StdAt.gr {S S':Za} {s a b t:Nat} {σ:St} (g:Gr S S') (A:StdAt S s a b t σ):StdAt S' s a b t σ:=⟨g.at A.st,g.at A.ce,g.at A.pu,g.at A.ta,A.ab⟩
section
variable {S:Za} {σ:St} {E:XP} {Q:D→Za→Prop}
theorem lt1:1 < 1000:=by decide
theorem lt2:2 < 1000:=by decide
theorem Gy {n:Nat} {xs:List D} (h:S[n]? = some (.lst xs)):Ev (listD [.cel n]) S E Q=Q (.lst xs) S:=by
 unfold Ev listD
 simp only [dr,h]
def deedO (os:List (Nat→St→Out)) (σ:St):Out:=runRows os 0 σ
end
abbrev Z4:=List (Nat→St→Out)
def after1 (o:Option Z4) (σ:St):St:=match o with
 | none=>σ
 | some os=>match deedO os σ with
  | .ok _ σ'=>σ'
  | _=>σ
def after (os:List (Option Z4)) (σ:St):St:=os.foldl (fun σ o=>after1 o σ) σ
abbrev VW (ps:Asc):D:=.tup (ps.map fun p=>D.tup [.str p.1,.int p.2])
section
variable {S:Za} {E:XP}
@[simp] theorem Ze0 {m:EM} {τ:DSt} {PL:List D→Za→Prop}:Ev (mKeys m τ) S E PL=Ev (m τ) S E fun x S1=>Ev (lockD x) S1 E fun y S2=>Ev (keysD y) S2 E PL:=by unfold mKeys ZaW; simp only [Ze]
end
theorem YL {cs cs' ps:Asc} (h:∀ x,(cs.lookup x).getD 0=(cs'.lookup x).getD 0):∀ s,evS cs ps s=evS cs' ps s
 | .cell x=>by simp only [evS,h x]
 | .num i=>rfl
 | .purse x=>rfl
 | .op s a b=>by simp only [evS,YL h a,YL h b]
structure TestCl (ns cs:List Str) (P R:Nat→D→Prop):Prop where
 news:∀ {n:Nat} {x:Str},x ∈ ns→R (n+1) (.tup [.str "news",.str x])
 knw:∀ {n:Nat} {x:Str},x ∈ cs→R (n+1) (.tup [.str "known",.str x])
 nt:∀ {n:Nat} {d:D},R n d→R (n+1) (.tup [.str "not",d])
 both:∀ {n:Nat} {a b:D},R n a→R n b→R (n+1) (.tup [.str "both",a,b])
 cmp:∀ {n:Nat} {w:Str} {a b:D},w = "above" ∨ w = "same" → P 2 a→P 2 b→R (n+1) (.tup [.str w,a,b])
 mono:∀ {n m:Nat} {d:D},R n d→n≤m→R m d
theorem SumCl.and {cs:List Str} {ps:List (Str × D)} {P P':Nat→D→Prop} (a:SumCl cs ps P) (b:SumCl cs ps P'):SumCl cs ps fun n d=>P n d∧P' n d where
 cell:=fun h=>⟨a.cell h,b.cell h⟩
 num:=fun h1 h2=>⟨a.num h1 h2,b.num h1 h2⟩
 purse:=fun h=>⟨a.purse h,b.purse h⟩
 op:=fun hs x y=>⟨a.op hs x.1 y.1,b.op hs x.2 y.2⟩
 mono:=fun h l=>⟨a.mono h.1 l,b.mono h.2 l⟩
theorem TestCl.and {ns cs:List Str} {P P' R R':Nat→D→Prop} (a:TestCl ns cs P R) (b:TestCl ns cs P' R'):TestCl ns cs (fun n d=>P n d∧P' n d) fun n d=>R n d∧R' n d where
 news:=fun h=>⟨a.news h,b.news h⟩
 knw:=fun h=>⟨a.knw h,b.knw h⟩
 nt:=fun h=>⟨a.nt h.1,b.nt h.2⟩
 both:=fun x y=>⟨a.both x.1 y.1,b.both x.2 y.2⟩
 cmp:=fun hw x y=>⟨a.cmp hw x.1 y.1,b.cmp hw x.2 y.2⟩
 mono:=fun h l=>⟨a.mono h.1 l,b.mono h.2 l⟩
inductive Ts where
 | news (x:Str) | knw (x:Str) | nt (t:Ts) | both (a b:Ts) | cmp (w:Str) (a b:Sm)
def tsD:Ts→D
 | .news x=>.tup [.str "news",.str x]
 | .knw x=>.tup [.str "known",.str x]
 | .nt t=>.tup [.str "not",tsD t]
 | .both a b=>.tup [.str "both",tsD a,tsD b]
 | .cmp w a b=>.tup [.str w,smD a,smD b]
def Ts.dep:Ts→Nat
 | .nt t=>t.dep+1
 | .both a b=>max a.dep b.dep+1
 | _=>1
def Vh (ns ks cs ps:List Str):Ts→Prop
 | .news x=>x ∈ ns
 | .knw x=>x ∈ ks
 | .nt t=>Vh ns ks cs ps t
 | .both a b=>Vh ns ks cs ps a∧Vh ns ks cs ps b
 | .cmp w a b=>(w = "above" ∨ w = "same")∧(Vg cs ps a∧a.dep≤8)∧Vg cs ps b∧b.dep≤8
abbrev Bsc:=List (Str × Bool)
def evT (rv kv:Bsc) (cs ps:Asc):Ts→Option Bool
 | .news x=>rv.lookup x
 | .knw x=>kv.lookup x
 | .nt t=>(evT rv kv cs ps t).map not
 | .both a b=>match evT rv kv cs ps a with
  | some true=>evT rv kv cs ps b
  | x=>x
 | .cmp w a b=>match evS cs ps a,evS cs ps b with
  | some i,some j=>some (if w = "above" then decide (j < i) else i == j)
  | _,_=>none
theorem WP:∀ {a:Bsc} {x:Str},x ∈ a.map (·.1)→∃ v,a.lookup x=some v
 | [],_,h=>by simp at h
 | q :: a,x,h=>by
  rw [List.lookup_cons]
  by_cases e:x=q.1
  ·simp [e]
  ·have:(x == q.1)=false:=by simpa using e
   rw [this]
   rw [List.map_cons,List.mem_cons] at h
   exact WP (h.resolve_left e)
abbrev rvD (rv:Bsc):D:=.dct (rv.map kvP)
section
variable {S:Za} {p:Rn} {kn:D} {rv kv:Bsc} {k:Nat} {σ:St} {cn pn:List Str}
theorem Wp (R:RunAt S p (rvD rv) kn kv k σ) (O:OkSt cn pn σ):∀ {t:Ts} {f:Nat} {E:XP} {Q:D→Za→Prop},Vh (rv.map (·.1)) (kv.map (·.1)) cn pn t→t.dep≤f→(∀ v,evT rv kv σ.cells σ.purses t=some v→Q (.bl v) S)→(evT rv kv σ.cells σ.purses t=none→E "Fault" [("word",.str "great")] S)→Ev (m_Run__holds f [.cel p.r,tsD t]) S E Q
 | t,0,E,Q,o,d,q,e=>by cases t <;> simp [Ts.dep] at d
 | .news x,f+1,E,Q,o,d,q,e=>by
  obtain ⟨v,hv⟩:=WP o
  unfold m_Run__holds
  rw [Zl]
  unfold b_Run__holds
  simp [startD,tsD]
  rw [Zw R.rn rfl,Gv,Xu,hv]
  simp
  rw [Zw R.rn rfl,WK (kvs:=rv.map kvP) (d:=.bl v) rfl (by rw [Xu,hv]; rfl)]
  exact q v hv
 | .knw x,f+1,E,Q,o,d,q,e=>by
  obtain ⟨v,hv⟩:=WP o
  obtain ⟨n,rfl,hn,_⟩:=R.kw
  unfold m_Run__holds
  rw [Zl]
  unfold b_Run__holds
  simp [startD,tsD]
  rw [Zw R.rn rfl,WK (kvs:=kv.map kvP) (d:=.bl v) (by simp only [dr,hn]) (by rw [Xu,hv]; rfl)]
  exact q v hv
 | .nt t,f+1,E,Q,o,d,q,e=>by
  simp only [Ts.dep] at d
  unfold m_Run__holds
  rw [Zl]
  unfold b_Run__holds
  simp [startD,tsD]
  rw [ZE (n:=p.r)]
  simp
  rw [ZD R.rn rfl]
  refine Wp R O (t:=t) o (by omega) (fun v hv=>?_) (fun hv=>e (by simp only [evT,hv]; rfl))
  simp
  exact q _ (by simp only [evT,hv]; rfl)
 | .both a b,f+1,E,Q,o,d,q,e=>by
  simp only [Ts.dep] at d
  unfold m_Run__holds
  rw [Zl]
  unfold b_Run__holds
  simp [startD,tsD]
  rw [ZE (n:=p.r)]
  simp
  rw [ZD R.rn rfl]
  refine Wp R O (t:=a) o.1 (by omega) (fun v hv=>?_) (fun hv=>e (by simp only [evT,hv]))
  rw [Zm]
  cases v with
  | false=>
   rw [if_neg Bool.false_ne_true]
   exact q false (by simp only [evT,hv])
  | true=>
   rw [if_pos rfl,ZE (n:=p.r)]
   simp
   rw [ZD R.rn rfl]
   have e2:evT rv kv σ.cells σ.purses (.both a b)=evT rv kv σ.cells σ.purses b:=by simp only [evT,hv]
   exact Wp R O (t:=b) o.2 (by omega) (fun u hu=>q u (e2.trans hu)) (fun hu=>e (e2.trans hu))
 | .cmp w a b,f+1,E,Q,o,d,q,e=>by
  unfold m_Run__holds
  rw [Zl]
  unfold b_Run__holds
  simp [startD,tsD]
  have nw:∀ {x:Str},x ∈ (["news", "known", "not", "both"]:List Str)→w ≠ x:=by
   intro x hx
   rcases o.1 with rfl | rfl <;> (simp only [List.mem_cons,List.not_mem_nil,or_false] at hx; rcases hx with rfl | rfl | rfl | rfl <;> decide)
  rw [if_neg (nw (by simp)),if_neg (nw (by simp)),if_neg (nw (by simp)),if_neg (nw (by simp)),ZE (n:=p.r)]
  simp
  rw [ZD R.rn rfl]
  refine YT R O.cl O.pl O.hp o.2.1.1 o.2.1.2 (fun i hi=>?_) (fun hi=>e (by simp only [evT,hi]))
  rw [ZE (n:=p.r)]
  simp
  rw [ZD R.rn rfl]
  refine YT R O.cl O.pl O.hp o.2.2.1 o.2.2.2 (fun j hj=>?_) (fun hj=>e (by simp only [evT,hi,hj]))
  have q2:=q _ (by simp only [evT,hi,hj]; rfl)
  rcases o.1 with rfl | rfl
  ·simp
   exact q2
  ·simp [show ¬ (Str.ofString "same" = Str.ofString "above") by decide]
   exact q2
end
def ifO (rv kv:Bsc) (t:Ts) (os1 os2:Z4) (k:Nat) (σ:St):Out:=match evT rv kv σ.cells σ.purses t with
 | some true=>runRows os1 k σ
 | some false=>runRows os2 k σ
 | none=>.fault "great"
theorem ZbV {rv kv:Bsc} {t:Ts} {os1 os2:Z4} (h1:∀ o ∈ os1,W8 o) (h2:∀ o ∈ os2,W8 o):W8 (ifO rv kv t os1 os2):=by
 intro k σ k' σ' h e
 unfold ifO at e
 split at e
 ·exact WW h1 k σ k' σ' h e
 ·exact WW h2 k σ k' σ' h e
 ·cases e
theorem Zbs {rv kv:Bsc} {kn:D} {cn pn:List Str} {n:Nat} {t:Ts} {ds1 ds2:List D} {os1 os2:Z4} (ht:Vh (rv.map (·.1)) (kv.map (·.1)) cn pn t) (hd:t.dep≤8) (h1:Z5 n (rvD rv) kn kv cn pn ds1 os1) (h2:Z5 n (rvD rv) kn kv cn pn ds2 os2) :
  ZcI (rvD rv) kn kv cn pn (mFn ["run", "parts", "test", "rows", "others"] (b_do_if (m_Run__do (n+1)))) [tsD t,.tup ds1,.tup ds2] (ifO rv kv t os1 os2):=by
 intro S p k σ E Q k80 R O h
 rw [Zl]
 unfold b_do_if
 simp [startD,Zbh]
 rw [ZE (n:=p.r)]
 simp
 rw [ZD R.rn rfl,ZE (n:=p.r)]
 simp
 rw [ZD R.rn rfl]
 refine Wp R O ht hd (fun v hv=>?_) (fun hv=>?_)
 ·have e0:∀ {E:XP} {PB:Bool→Za→Prop},Ev (truD (.bl v)) S E PB=PB v S:=fun {E PB}=>by cases v <;> rfl
  rw [e0]
  cases v with
  | true=>
   rw [if_pos rfl]
   have e1:ifO rv kv t os1 os2 k σ=runRows os1 k σ:=by simp only [ifO,hv]
   rw [e1] at h
   exact Zdk h1 k80 R O h
  | false=>
   rw [if_neg Bool.false_ne_true]
   have e1:ifO rv kv t os1 os2 k σ=runRows os2 k σ:=by simp only [ifO,hv]
   rw [e1] at h
   exact Zdk h2 k80 R O h
 ·exact h.fault _ _ (by simp only [ifO,hv]) Fr.refl
theorem Zd9 {rv kv:Bsc} {kn:D} {cn pn:List Str} {n:Nat} {t:Ts} {ds1 ds2:List D} {os1 os2:Z4} (ht:Vh (rv.map (·.1)) (kv.map (·.1)) cn pn t) (hd:t.dep≤8) (h1:Z5 n (rvD rv) kn kv cn pn ds1 os1) (h2:Z5 n (rvD rv) kn kv cn pn ds2 os2) :
 Jp (n+1) (rvD rv) kn kv cn pn (.tup [.str "if",tsD t,.tup ds1,.tup ds2]) (ifO rv kv t os1 os2):=⟨_,_,_,_,rfl,by simp,rfl,rfl,ZbV h1.mono h2.mono,Zbs ht hd h1 h2⟩
theorem Zcg {rd kn:D} {kv:Bsc} {cn pn:List Str} {n:Nat} {x:Str} {s:Sm} (hx:x ∈ cn) (hs:Vg cn pn s) (hd:s.dep≤8):Jp n rd kn kv cn pn (.tup [.str "set",.str x,smD s]) (setO x s):=⟨_,_,_,_,rfl,by simp,rfl,rfl,G9,Gh hx hs hd⟩
end NA
namespace ND
open PySem L2
section
variable {S:Za} {E:XP} {τ:DSt} {Q:D→Za→Prop}
@[simp] theorem ZeQ {ms:AM}:Ev (mDispC ms τ) S E Q=Ev (ms τ) (S++[.dct []]) E fun ds S1=>Ev (fillD (.cel S.length) ds) S1 E Q:=by
 have e:Ev (newCell (.dct [])) S E (fun a S'=>Ev (ms τ >>= fun ds=>fillD a ds) S' E Q)=Ev (ms τ >>= fun ds=>fillD (.cel S.length) ds) (S++[.dct []]) E Q:=rfl
 unfold mDispC
 rw [Ze,e,Ze]
theorem Qo {n:Nat} {ds:List D} {kvs:List (Key × D)} (h:S[n]? = some (.dct [])) (hp:Vr ds=some kvs) (hl:kvs.length≤15):Ev (fillD (.cel n) ds) S E Q=Q (.cel n) (S.set n (.dct (mergeD [] kvs))):=by
 have e:fillD (.cel n) ds S = .ok (.cel n) (S.set n (.dct (mergeD [] kvs))):=by
  unfold fillD
  rw [hp]
  show (match S[n]? with
   | some (.dct [])=>if kvs.length≤15 then Res.ok (D.cel n) (S.set n (.dct (mergeD [] kvs))) else .bad
   | _=>.bad)=_
  rw [h]
  show (if kvs.length≤15 then _ else _)=_
  rw [if_pos hl]
 unfold Ev; rw [e]
end
end ND
namespace NA
open PySem L2 ND NM
def DictAt (S:Za) (sn:Nat) (c:D) (kvs:List (Key × D)):Prop:=c = .dct kvs∨∃ n,c = .cel n∧n ≠ sn∧S[n]? = some (.dct kvs)
theorem Ext.at {sn n:Nat} {S S':Za} {x:Cell} (e:Ext sn S S') (h:S[n]? = some x) (ne:n ≠ sn):S'[n]? = some x:=by
 rw [e.2 n _ ne,h]
 rcases Nat.lt_or_ge n S.length with h' | h'
 ·exact h'
 ·rw [List.getElem?_eq_none h'] at h; cases h
theorem DictAt.ext {S S':Za} {sn:Nat} {c:D} {kvs:List (Key × D)} (h:DictAt S sn c kvs) (e:Ext sn S S'):DictAt S' sn c kvs:=by
 rcases h with rfl | ⟨n,rfl,ne,h⟩
 ·exact .inl rfl
 ·exact .inr ⟨n,rfl,ne,e.at h ne⟩
structure Src where
 c:D
 p:D
 r:D
 k:D
 cs:Asc
 ps:Asc
 rv:Bsc
 kv:Bsc
abbrev lawF (x:Src) (fw:Str):List (Key × D):=[(.inr "cells",x.c),(.inr "purses",x.p),(.inr "reads",x.r),(.inr "known",x.k),(.inr "fault",.str fw)]
structure LawSt (S:Za) (sn:Nat) (x:Src) (fw:Str):Prop where
 at_:S[sn]? = some (.dct (lawF x fw))
 hc:DictAt S sn x.c (x.cs.map kvI)
 hp:DictAt S sn x.p (x.ps.map kvI)
 hr:DictAt S sn x.r (x.rv.map kvP)
 hk:DictAt S sn x.k (x.kv.map kvP)
theorem LawSt.ext {S S':Za} {sn:Nat} {x:Src} {fw fw':Str} (h:LawSt S sn x fw) (e:Ext sn S S') (a:S'[sn]? = some (.dct (lawF x fw'))):LawSt S' sn x fw':=⟨a,h.hc.ext e,h.hp.ext e,h.hr.ext e,h.hk.ext e⟩
theorem LawSt.snoc {S:Za} {sn:Nat} {x:Src} {fw:Str} (h:LawSt S sn x fw) (c:Cell):LawSt (S++[c]) sn x fw:=h.ext (Ext.snoc c) (by
 rw [List.getElem?_append_left]
 ·exact h.at_
 ·exact (List.getElem?_eq_some_iff.mp h.at_).1)
theorem WQ:∀ {a:Asc} {x:Str},x ∉ a.map (·.1)→a.lookup x=none
 | [],_,_=>rfl
 | q :: a,x,h=>by
  rw [List.map_cons,List.mem_cons,not_or] at h
  rw [List.lookup_cons,show (x == q.1)=false by simpa using h.1]
  exact WQ h.2
theorem Xd {rv kv:Bsc} {cs cs' ps:Asc} (h:∀ x,(cs.lookup x).getD 0=(cs'.lookup x).getD 0):∀ t,evT rv kv cs ps t=evT rv kv cs' ps t
 | .news x=>rfl
 | .knw x=>rfl
 | .nt t=>by simp only [evT,Xd h t]
 | .both a b=>by simp only [evT,Xd h a,Xd h b]
 | .cmp w a b=>by simp only [evT,YL h a,YL h b]
end NA
namespace ND
open PySem L2
theorem Q4 {S:Za} {τ:DSt} {ER:Str→List (Str × D)→DSt→Za→Prop} {PR:Flow→Za→Prop} {t:TM} {b:SM} {n:Nat}:EvR (whileL t b (n+1) τ S) ER PR=Ev (t τ) S (fun C fs S'=>ER C fs τ S') fun c S1=>if c=true then EvR (b τ S1) ER (fun f S2=>match f with
  | .nx τ2=>EvR (whileL t b n τ2 S2) ER PR
  | .ct τ2=>EvR (whileL t b n τ2 S2) ER PR
  | .bk τ2=>PR (.nx τ2) S2
  | .rt d=>PR (.rt d) S2) else PR (.nx τ) S1:=by
 rw [whileL,Yn]
 congr 1
 funext c S1
 cases c with
 | false=>rfl
 | true=>
  simp only [if_true]
  cases e:b τ S1 with
  | ok f S2=>cases f <;> rfl
  | err C fs τ2 S2=>rfl
  | bad=>rfl
end ND
namespace NA
open PySem L2 ND NM
def whileO (rv kv:Bsc) (t:Ts) (os:Z4):Nat→Nat→St→Out
 | 0,_,_=>.fault "long"
 | n+1,k,σ=>match evT rv kv σ.cells σ.purses t with
  | none=>.fault "great"
  | some false=>.ok k σ
  | some true=>match runRows os k σ with
   | .ok k' σ'=>if k'=80 then .fault "long" else whileO rv kv t os n (k'+1) σ'
   | x=>x
end NA
namespace ND
open PySem L2
section
variable {S:Za} {τ:DSt} {ER:Str→List (Str × D)→DSt→Za→Prop} {PR:Flow→Za→Prop}
@[simp] theorem Zfe {f:D→D→M D} {mo mi mv:EM}:EvR (sDAugD f mo mi mv τ S) ER PR=Ev (mo τ) S (fun C fs S'=>ER C fs τ S') fun x S1=>Ev (mi τ) S1 (fun C fs S'=>ER C fs τ S') fun y S2=>Ev (getKD x y) S2 (fun C fs S'=>ER C fs τ S') fun v S3=>Ev (mv τ) S3 (fun C fs S'=>ER C fs τ S') fun w S4=>Ev (f v w) S4 (fun C fs S'=>ER C fs τ S') fun z S5=>Ev (setKD x y z) S5 (fun C fs S'=>ER C fs τ S') fun _ S6=>PR (.nx τ) S6:=by
 unfold sDAugD; simp only [Yn,Ze,X0]
end
end ND
namespace NA
open PySem L2 ND NM
theorem Xf {a:Asc} {x:Str} {v:Int} (h:x ∈ a.map (·.1)):(putA a x v).map (·.1)=a.map (·.1):=by
 unfold putA
 rw [if_pos]
 ·exact Qw
 ·obtain ⟨p,hp,e⟩:=List.mem_map.mp h
  exact List.any_eq_true.mpr ⟨p,hp,by simpa using e⟩
theorem YY {x:Str} {v:Int}:∀ {a:Asc} {w:Int},(a.map (·.1)).Nodup→a.lookup x=some w→((putA a x v).map (·.2)).sum=(a.map (·.2)).sum - w+v:=by
 have no:∀ {a:Asc},x ∉ a.map (·.1)→a.map (fun p=>if p.1=x then (p.1,v) else p)=a:=by
  intro a h
  induction a with
  | nil=>rfl
  | cons p a ih=>
   rw [List.map_cons,List.mem_cons,not_or] at h
   rw [List.map_cons,if_neg (Ne.symm h.1),ih h.2]
 have key:∀ {a:Asc} {w:Int},(a.map (·.1)).Nodup→a.lookup x=some w→((a.map (fun p=>if p.1=x then (p.1,v) else p)).map (·.2)).sum=(a.map (·.2)).sum - w+v:=by
  intro a
  induction a with
  | nil=>intro w _ h; cases h
  | cons p a ih=>
   intro w nd h
   rw [List.map_cons,List.nodup_cons] at nd
   rw [List.lookup_cons] at h
   by_cases e:x=p.1
   ·subst e
    simp at h
    rw [List.map_cons,if_pos rfl,no nd.1]
    simp only [List.map_cons,List.sum_cons]
    omega
   ·rw [show (x == p.1)=false by simpa using e] at h
    have:=ih nd.2 h
    rw [List.map_cons,if_neg (Ne.symm e)]
    simp only [List.map_cons,List.sum_cons]
    omega
 intro a w nd h
 unfold putA
 rw [if_pos]
 ·exact key nd h
 ·exact List.any_eq_true.mpr ⟨(x,w),lookup_mem h,by simp⟩
def payO (g t:Str) (s:Sm) (k:Nat) (σ:St):Out:=match evS σ.cells σ.purses s with
 | some v=>if 0≤v∧v≤(σ.purses.lookup g).getD 0 then .ok k { σ with purses:=putA (putA σ.purses g ((σ.purses.lookup g).getD 0 - v)) t (((putA σ.purses g ((σ.purses.lookup g).getD 0 - v)).lookup t).getD 0+v) } else .fault "short"
 | none=>.fault "great"
theorem OkSt.pay {cn pn:List Str} {σ:St} (O:OkSt cn pn σ) (nd:pn.Nodup) {g t:Str} (hg:g ∈ pn) (ht:t ∈ pn) {v pg w:Int} (eg:σ.purses.lookup g=some pg) (h0:0≤v) (h1:v≤pg) (ew:(putA σ.purses g (pg - v)).lookup t=some w):OkSt cn pn { σ with purses:=putA (putA σ.purses g (pg - v)) t (w+v) }:=by
 have k1:(putA σ.purses g (pg - v)).map (·.1)=pn:=by rw [Xf (by rw [O.pk]; exact hg),O.pk]
 have k2:(putA (putA σ.purses g (pg - v)) t (w+v)).map (·.1)=pn:=by rw [Xf (by rw [k1]; exact ht),k1]
 have p1:∀ q ∈ putA σ.purses g (pg - v),0≤q.2:=fun q hq=>by
  rcases Wu hq with rfl | h
  ·show 0≤pg - v; omega
  ·exact O.p0 q h
 have w0:0≤w:=p1 (t,w) (lookup_mem ew)
 refine ⟨O.cl,O.ck,O.cd,k2,fun q hq=>?_,?_,O.tl,O.c9,O.cz⟩
 ·rcases Wu hq with rfl | h
  ·show 0≤w+v; omega
  ·exact p1 q h
 ·show ((putA (putA σ.purses g (pg - v)) t (w+v)).map (·.2)).sum≤2 ^ 40
  rw [YY (by rw [k1]; exact nd) ew,YY (by rw [O.pk]; exact nd) eg]
  have:=O.ps
  omega
theorem ZV:∀ {os1 os2:Z4} {k:Nat} {σ:St},runRows (os1++os2) k σ=match runRows os1 k σ with
  | .ok k' σ'=>runRows os2 k' σ'
  | x=>x
 | [],os2,k,σ=>by simp [runRows]
 | o :: os1,os2,k,σ=>by
  rw [List.cons_append,runRows,runRows]
  by_cases h:k=80
  ·rw [if_pos h,if_pos h]
  ·rw [if_neg h,if_neg h]
   cases e:o (k+1) σ with
   | ok k' σ'=>exact ZV
   | fault w=>rfl
   | unread x=>rfl
structure SpendsAt (o:Nat→St→Out) (c k:Nat) (σ:St) (P':Asc→Prop):Prop where
 ok:k+c≤80→∃ cs',P' cs'∧o k σ = .ok (k+c) { σ with cells:=cs' }
 no:80 < k+c→o k σ = .fault "long"
def ZQ (o:Nat→St→Out) (c:Nat) (P P':Asc→Prop):Prop:=∀ k σ,k≤80→P σ.cells→SpendsAt o c k σ P'
theorem ZQ.append {os1 os2:Z4} {c1 c2:Nat} {P P' P'':Asc→Prop} (h1:ZQ (runRows os1) c1 P P') (h2:ZQ (runRows os2) c2 P' P''):ZQ (runRows (os1++os2)) (c1+c2) P P'':=by
 intro k σ hk hp
 have a:=h1 k σ hk hp
 refine ⟨fun h=>?_,fun h=>?_⟩
 ·obtain ⟨cs,p1,e1⟩:=a.ok (by omega)
  obtain ⟨cs2,p2,e2⟩:=(h2 (k+c1) { σ with cells:=cs } (by omega) p1).ok (by omega)
  exact ⟨cs2,p2,by rw [ZV,e1]; simp only; rw [e2,Nat.add_assoc]⟩
 ·by_cases h':k+c1≤80
  ·obtain ⟨cs,p1,e1⟩:=a.ok h'
   have e2:=(h2 (k+c1) { σ with cells:=cs } h' p1).no (by omega)
   rw [ZV,e1]
   exact e2
  ·rw [ZV,a.no (by omega)]
theorem ZQ.nil {P:Asc→Prop}:ZQ (runRows []) 0 P P:=fun k σ hk hp=>⟨fun _=>⟨σ.cells,hp,rfl⟩,fun h=>by omega⟩
theorem ZQ.row {o:Nat→St→Out} {c:Nat} {P P':Asc→Prop} (h:ZQ o c P P'):ZQ (runRows [o]) (1+c) P P':=by
 intro k σ hk hp
 refine ⟨fun hc=>?_,fun hc=>?_⟩
 ·obtain ⟨cs,p1,e1⟩:=(h (k+1) σ (by omega) hp).ok (by omega)
  exact ⟨cs,p1,by rw [runRows,if_neg (by omega),e1]; simp only [runRows]; rw [Nat.add_assoc]⟩
 ·by_cases h80:k=80
  ·rw [runRows,if_pos h80]
  ·rw [runRows,if_neg h80,(h (k+1) σ (by omega) hp).no (by omega)]
theorem spends_set {x:Str} {v:Int} {P:Asc→Prop}:ZQ (setO x (.num v)) 0 P fun cs'=>∃ cs,P cs∧cs'=putC cs x v:=fun k σ hk hp=>⟨fun _=>⟨_,⟨σ.cells,hp,rfl⟩,rfl⟩,fun h=>by omega⟩
theorem spends_if {rv kv:Bsc} {t:Ts} {os1 os2:Z4} {c:Nat} {P P':Asc→Prop} {b:Bool} (ht:∀ cs ps,P cs→evT rv kv cs ps t=some b) (h:ZQ (runRows (if b then os1 else os2)) c P P'):ZQ (ifO rv kv t os1 os2) c P P':=by
 intro k σ hk hp
 have e:ifO rv kv t os1 os2 k σ=runRows (if b then os1 else os2) k σ:=by
  simp only [ifO,ht _ σ.purses hp]
  cases b <;> rfl
 have a:=h k σ hk hp
 exact ⟨fun hc=>by rw [e]; exact a.ok hc,fun hc=>by rw [e]; exact a.no hc⟩
abbrev upS:Sm:=.op "+" (.cell "c") (.num 1)
abbrev Zha:D:=.tup [.str "set",.str "c",smD upS]
abbrev turnT (often:Nat):Ts:=.cmp "above" (.num (often:Nat)) (.cell "c")
theorem QN {S:Za} {E:XP} {Q:D→Za→Prop} {often:Nat} {ds:List D} (hl:ds.length≤1000) (q:Q (.tup [.str "while",tsD (turnT often),.tup (ds++[Zha])]) S):Ev (m_law_round [.int (often:Nat),.tup ds]) S E Q:=by
 have z:=zs
 unfold m_law_round
 rw [Zl]
 unfold WD
 simp [startD]
 exact ⟨by omega,by omega,by omega,by omega,q⟩
abbrev ZfJ:List Str:=["a", "b", "c"]
theorem U8 {n:Nat} {rd kn:D} {kv:Bsc} {cn pn:List Str} {ds1 ds2:List D} {os1 os2:Z4} (h1:Z5 n rd kn kv cn pn ds1 os1) (h2:Z5 n rd kn kv cn pn ds2 os2):Z5 n rd kn kv cn pn (ds1++ds2) (os1++os2):=by
 refine ⟨by rw [List.length_append,List.length_append,h1.1,h2.1],fun i d o hd ho=>?_⟩
 by_cases hi:i < ds1.length
 ·rw [List.getElem?_append_left hi] at hd
  rw [List.getElem?_append_left (h1.1 ▸ hi)] at ho
  exact h1.2 i d o hd ho
 ·rw [List.getElem?_append_right (by omega)] at hd
  rw [List.getElem?_append_right (by have:=h1.1; omega),← h1.1] at ho
  exact h2.2 _ d o hd ho
def YF (n:Nat) (ds:List D) (c:Nat):Prop:=∀ (rv:Bsc),∃ os:Z4,(∀ m,Z5 n (rvD rv) (.cel m) [] ZfJ [] ds os)∧ZQ (runRows os) c (fun _=>True) (fun _=>True)
theorem ZQ.any {o:Nat→St→Out} {c:Nat} {P P':Asc→Prop} (h:ZQ o c P P') (hp:∀ cs,P cs):ZQ o c (fun _=>True) (fun _=>True):=fun k σ hk _=>by
 have a:=h k σ hk (hp _)
 exact ⟨fun hc=>let ⟨cs,_,e⟩:=a.ok hc; ⟨cs,trivial,e⟩,a.no⟩
theorem YF.append {n:Nat} {ds1 ds2:List D} {c1 c2:Nat} (h1:YF n ds1 c1) (h2:YF n ds2 c2):YF n (ds1++ds2) (c1+c2):=fun rv=>by
 obtain ⟨os1,r1,s1⟩:=h1 rv
 obtain ⟨os2,r2,s2⟩:=h2 rv
 exact ⟨os1++os2,fun m=>U8 (r1 m) (r2 m),s1.append s2⟩
theorem YF.nil {n:Nat}:YF n [] 0:=fun rv=>⟨[],fun m=>⟨rfl,fun i d o hd=>by simp at hd⟩,ZQ.nil⟩
theorem YF.set {n:Nat} {x:Str} {v:Int} (hx:x ∈ ZfJ) (h0:-1000000000≤v) (h1:v≤1000000000):YF n [.tup [.str "set",.str x,.int v]] 1:=fun rv=>by
 refine ⟨[setO x (.num v)],fun m=>⟨rfl,fun i d o hd ho=>?_⟩,(spends_set (P:=fun _=>True)).row.any fun _=>trivial⟩
 match i,hd,ho with
 | 0,hd,ho=>
  cases hd; cases ho
  exact Zcg (s:=.num v) hx ⟨h0,h1⟩ (by simp [Sm.dep])
theorem YF.ifs {n:Nat} {ds1 ds2:List D} {c1 c2:Nat} {t:Ts} {b:Bool} (ht:∀ rv cs ps,evT rv [] cs ps t=some b) (tok:∀ rv:Bsc,Vh (rv.map (·.1)) (([]:Bsc).map (·.1)) ZfJ [] t) (hd:t.dep≤8) (h1:YF n ds1 c1) (h2:YF n ds2 c2):YF (n+1) [.tup [.str "if",tsD t,.tup ds1,.tup ds2]] (1+if b then c1 else c2):=fun rv=>by
 obtain ⟨os1,r1,s1⟩:=h1 rv
 obtain ⟨os2,r2,s2⟩:=h2 rv
 refine ⟨[ifO rv [] t os1 os2],fun m=>⟨rfl,fun i d o hd' ho=>?_⟩,ZQ.row (spends_if (b:=b) (fun cs ps _=>ht rv cs ps) ?_)⟩
 ·match i,hd',ho with
  | 0,hd',ho=>
   cases hd'; cases ho
   exact Zd9 (tok rv) hd (r1 m) (r2 m)
 ·cases b
  ·exact s2
  ·exact s1
theorem X3 {x y:Str} (h:y ≠ x):∀ {a:Asc},(dropA a x).lookup y=a.lookup y
 | []=>rfl
 | p :: a=>by
  have ih:=X3 h (a:=a)
  unfold dropA at ih ⊢
  rw [List.filter_cons,List.lookup_cons]
  by_cases e:p.1=x
  ·rw [if_neg (by simp [e]),ih,show (y == p.1)=false by rw [e]; simpa using h]
  ·rw [if_pos (by simp [e]),List.lookup_cons,ih]
theorem WR {x y:Str} {v:Int} (h:y ≠ x) {a:Asc}:(putA a x v).lookup y=a.lookup y:=by
 have h1:∀ a:Asc,(a.map (fun p=>if p.1=x then (p.1,v) else p)).lookup y=a.lookup y:=by
  intro a
  induction a with
  | nil=>rfl
  | cons p a ih=>
   rw [List.map_cons,List.lookup_cons,List.lookup_cons,ih]
   by_cases e:p.1=x
   ·rw [if_pos e,show (y == p.1)=false by rw [e]; simpa using h]
   ·rw [if_neg e]
 have h2:∀ a:Asc,(a++[(x,v)]).lookup y=a.lookup y:=by
  intro a
  induction a with
  | nil=>show List.lookup y [(x,v)]=none; rw [List.lookup_cons,show (y == x)=false by simpa using h]; rfl
  | cons p a ih=>rw [List.cons_append,List.lookup_cons,List.lookup_cons,ih]
 unfold putA
 split
 ·exact h1 a
 ·exact h2 a
theorem X4 {x y:Str} {v:Int} (h:y ≠ x) {a:Asc}:(putC a x v).lookup y=a.lookup y:=by
 unfold putC
 split
 ·exact X3 h
 ·exact WR h
mutual
inductive Rw where
 | set (x:Str) (s:Sm) | say (s:Sm) | pay (g t:Str) (s:Sm) | ifs (t:Ts) (a b:Rws) | whl (t:Ts) (a:Rws)
inductive Rws where
 | nil | cons (r:Rw) (rs:Rws)
end
mutual
def rwD:Rw→D
 | .set x s=>.tup [.str "set",.str x,smD s]
 | .say s=>.tup [.str "say",smD s]
 | .pay g t s=>.tup [.str "pay",.str g,.str t,smD s]
 | .ifs t a b=>.tup [.str "if",tsD t,.tup (rwsD a),.tup (rwsD b)]
 | .whl t a=>.tup [.str "while",tsD t,.tup (rwsD a)]
def rwsD:Rws→List D
 | .nil=>[]
 | .cons r rs=>rwD r :: rwsD rs
end
mutual
def rwO (rv kv:Bsc):Rw→Nat→St→Out
 | .set x s=>setO x s
 | .say s=>sayO s
 | .pay g t s=>payO g t s
 | .ifs t a b=>ifO rv kv t (rwsO rv kv a) (rwsO rv kv b)
 | .whl t a=>whileO rv kv t (rwsO rv kv a) 1000
def rwsO (rv kv:Bsc):Rws→Z4
 | .nil=>[]
 | .cons r rs=>rwO rv kv r :: rwsO rv kv rs
end
mutual
def ZK (ns ks cn pn:List Str):Nat→Rw→Prop
 | _,.set x s=>x ∈ cn∧Vg cn pn s∧s.dep≤8
 | _,.say s=>Vg cn pn s∧s.dep≤8
 | _,.pay g t s=>g ∈ pn∧t ∈ pn∧Vg cn pn s∧s.dep≤8
 | 0,.ifs _ _ _=>False
 | n+1,.ifs t a b=>Vh ns ks cn pn t∧t.dep≤8∧RwsOk ns ks cn pn n a∧RwsOk ns ks cn pn n b
 | 0,.whl _ _=>False
 | n+1,.whl t a=>Vh ns ks cn pn t∧t.dep≤8∧RwsOk ns ks cn pn n a
def RwsOk (ns ks cn pn:List Str):Nat→Rws→Prop
 | _,.nil=>True
 | n,.cons r rs=>ZK ns ks cn pn n r∧RwsOk ns ks cn pn n rs
end
def Rws.app:Rws→Rws→Rws
 | .nil,b=>b
 | .cons r a,b=>.cons r (a.app b)
inductive TO where
 | val (b:Bool) | great | unread (x:Str)
structure RdAt (S:Za) (p:Rn) (n:Nat) (rv:Bsc):Prop where
 rd:S[n]? = some (.dct (rv.map kvP))
 na:n ≠ p.a
 nb:n ≠ p.b
def ZcJ (nr:Nat) (rv:Bsc) (kn:D) (kv:Bsc) (cn pn:List Str) (m:List D→M D) (parts:List D) (o:Nat→St→Out):Prop:=∀ (S:Za) (p:Rn) (k:Nat) (σ:St) (E:XP) (Q:Za→Prop),k≤80→RunAt S p (.cel nr) kn kv k σ→RdAt S p nr rv→OkSt cn pn σ→RunP (o k σ) S p (.cel nr) kn kv cn pn E Q→Ev (m [.cel p.r,.lst parts]) S E fun _ S'=>Q S'
theorem ZcI.u {nr:Nat} {rv:Bsc} {kn:D} {kv:Bsc} {cn pn:List Str} {m:List D→M D} {parts:List D} {o:Nat→St→Out} (h:ZcI (.cel nr) kn kv cn pn m parts o):ZcJ nr rv kn kv cn pn m parts o:=fun S p k σ E Q k80 R _ O q=>h S p k σ E Q k80 R O q
def Zao (n nr:Nat) (rv:Bsc) (kn:D) (kv:Bsc) (cn pn:List Str) (d:D) (o:Nat→St→Out):Prop:=∃ wd fn m parts,d = .tup (.str wd :: parts)∧parts.length≤100∧Zhl.lookup wd=some fn∧(dFun n).lookup fn=some (2,m)∧W8 o∧ZcJ nr rv kn kv cn pn m parts o
theorem Jp.u {n nr:Nat} {rv:Bsc} {kn:D} {kv:Bsc} {cn pn:List Str} {d:D} {o:Nat→St→Out} (h:Jp n (.cel nr) kn kv cn pn d o):Zao n nr rv kn kv cn pn d o:=by
 obtain ⟨a,b,c,e,h1,h2,h3,h4,h5,h6⟩:=h
 exact ⟨a,b,c,e,h1,h2,h3,h4,h5,h6.u⟩
def Qf (n nr:Nat) (rv:Bsc) (kn:D) (kv:Bsc) (cn pn:List Str) (ds:List D) (os:List (Nat→St→Out)):Prop:=ds.length=os.length∧∀ (i:Nat) d o,ds[i]? = some d→os[i]? = some o→Zao n nr rv kn kv cn pn d o
theorem Qf.mono {n nr:Nat} {rv:Bsc} {kn:D} {kv:Bsc} {cn pn:List Str} {ds:List D} {os:List (Nat→St→Out)} (h:Qf n nr rv kn kv cn pn ds os):∀ o ∈ os,W8 o:=fun o ho=>by
 obtain ⟨i,hi,e⟩:=List.getElem_of_mem ho
 obtain ⟨_,_,_,_,_,_,_,_,hm,_⟩:=h.2 i (ds[i]'(h.1 ▸ hi)) o (List.getElem?_eq_getElem (h.1 ▸ hi)) (by rw [List.getElem?_eq_getElem hi,e])
 exact hm
def Sub (rv fv:Bsc):Prop:=∀ x b,rv.lookup x=some b→fv.lookup x=some b
structure Fk where
 mask:Nat
 word:Str
 s:Nat
 a:Nat
 b:Nat
 t:Nat
 σ:St
structure Ly where
 mask:Nat
 nr:Nat
 rv:Bsc
abbrev fkD (r:Fk):D:=.tup [.int (r.mask:Nat),.str r.word,.cel r.s]
abbrev lfD (l:Ly):D:=.tup [.int (l.mask:Nat),.cel l.nr]
def endW (o:Out) (σ:St):Str × St:=match o with
 | .ok _ σ'=>("",σ')
 | .fault w=>(w,σ)
 | .unread _=>("",σ)
def fkE (ns:List Str) (kv:Bsc) (a:Rws) (σ:St) (f:List Bool):Str × St:=endW (deedO (rwsO (ns.zip f) kv a) σ) σ
structure FkOk (cn pn ns:List Str) (kv:Bsc) (a:Rws) (σ:St) (m:Nat) (w:Fk→Prop) (S:Za) (r:Fk):Prop where
 at_:StdAt S r.s r.a r.b r.t r.σ
 ok:OkSt cn pn r.σ
 ne:r.mask ≠ 0
 low:Low ns.length r.mask
 sub:∀ f ∈ lot ns.length r.mask,f ∈ lot ns.length m
 so:∀ f ∈ lot ns.length r.mask,fkE ns kv a σ f=(r.word,r.σ)
 wh:w r
structure LfOk (ns:List Str) (m:Nat) (S:Za) (l:Ly):Prop where
 rd:S[l.nr]? = some (.dct (l.rv.map kvP))
 nd:(l.rv.map (·.1)).Nodup
 mem:∀ x ∈ l.rv.map (·.1),x ∈ ns
 ne:l.mask ≠ 0
 low:Low ns.length l.mask
 sub:∀ f ∈ lot ns.length l.mask,f ∈ lot ns.length m
 so:∀ f ∈ lot ns.length l.mask,Sub l.rv (ns.zip f)
section
variable {cn pn ns:List Str} {kv:Bsc} {a:Rws} {σ:St} {m:Nat} {w:Fk→Prop} {S S':Za}
theorem FkOk.gr {r:Fk} (h:FkOk cn pn ns kv a σ m w S r) (g:Gr S S'):FkOk cn pn ns kv a σ m w S' r:={ h with at_:=h.at_.gr g }
theorem LfOk.gr {l:Ly} (h:LfOk ns m S l) (g:Gr S S'):LfOk ns m S' l:={ h with rd:=g.at h.rd }
theorem LfOk.set {l:Ly} (h:LfOk ns m S l) {c:Nat} {xs ys:List D} (hc:S[c]? = some (.lst xs)):LfOk ns m (S.set c (.lst ys)) l:=
 { h with rd:=Zp h.rd (ne_of_at hc h.rd (by simp)) }
theorem FkOk.set {r:Fk} (h:FkOk cn pn ns kv a σ m w S r) {c:Nat} {xs ys:List D} (hc:S[c]? = some (.lst xs)) (ne:c ≠ r.t):FkOk cn pn ns kv a σ m w (S.set c (.lst ys)) r:=
 { h with at_:=⟨Zp h.at_.st (ne_of_at hc h.at_.st (by simp)),Zp h.at_.ce (ne_of_at hc h.at_.ce (by simp)),Zp h.at_.pu (ne_of_at hc h.at_.pu (by simp)),Zp h.at_.ta ne,h.at_.ab⟩ }
end
def Dj (n a b:Nat):Prop:=∀ f,f ∈ lot n a→f ∈ lot n b→False
theorem Dj.symm {n a b:Nat} (h:Dj n a b):Dj n b a:=fun f x y=>h f y x
theorem Zdj {n:Nat} {A:List Nat} (h:A.Pairwise (Dj n)) (ne:∀ a ∈ A,∃ f,f ∈ lot n a):A.length≤2 ^ n:=by
 obtain ⟨W,hl,hw,hn⟩:∃ W:List (List Bool),W.length=A.length∧(∀ f ∈ W,∃ a ∈ A,f ∈ lot n a)∧W.Nodup:=by
  induction A with
  | nil=>exact ⟨[],rfl,by simp,List.nodup_nil⟩
  | cons a A ih=>
   rw [List.pairwise_cons] at h
   obtain ⟨W,hl,hw,hn⟩:=ih h.2 fun b hb=>ne b (List.mem_cons_of_mem _ hb)
   obtain ⟨f,hf⟩:=ne a List.mem_cons_self
   refine ⟨f :: W,by simp [hl],fun g hg=>?_,List.nodup_cons.mpr ⟨fun hm=>?_,hn⟩⟩
   ·rcases List.mem_cons.mp hg with rfl | hg
    ·exact ⟨a,List.mem_cons_self,hf⟩
    ·obtain ⟨b,hb,hm⟩:=hw g hg
     exact ⟨b,List.mem_cons_of_mem _ hb,hm⟩
   ·obtain ⟨b,hb,hm⟩:=hw f hm
    exact h.1 b hb f hf hm
 have sub:∀ f ∈ W,f ∈ fills n:=fun f hf=>by
  obtain ⟨a,_,hm⟩:=hw f hf
  rw [VI]
  unfold lot at hm
  obtain ⟨k,hk,rfl⟩:=List.mem_map.mp hm
  exact List.mem_map.mpr ⟨k,(List.mem_filter.mp hk).1,rfl⟩
 have ln:∀ {W F:List (List Bool)},W.Nodup→(∀ f ∈ W,f ∈ F)→W.length≤F.length:=by
  intro W
  induction W with
  | nil=>intro F _ _; simp
  | cons f W ih=>
   intro F hn hs
   rw [List.nodup_cons] at hn
   have:=ih (F:=F.erase f) hn.2 fun g hg=>(List.mem_erase_of_ne (fun e=>hn.1 (by rw [← e]; exact hg))).mpr (hs g (List.mem_cons_of_mem _ hg))
   have hf:=hs f List.mem_cons_self
   rw [List.length_erase_of_mem hf] at this
   have:=List.length_pos_of_mem hf
   rw [List.length_cons]; omega
 have:=ln hn sub
 rw [VI,List.length_map,List.length_range] at this
 omega
theorem Uu {n m:Nat} (ne:m ≠ 0) (low:Low n m):∃ f,f ∈ lot n m:=by
 rcases hl:lot n m with _ | ⟨f,r⟩
 ·exact absurd ((lot_nil low).mpr hl) ne
 ·exact ⟨f,List.mem_cons_self⟩
section
variable {cn pn ns:List Str} {kv:Bsc} {a:Rws} {σ:St} {m:Nat} {w:Fk→Prop} {S:Za} {E:XP} {Q:D→Za→Prop}
theorem ZaA {neg:Bool} {x y:D} {xs:List D} (h:dr S x = .lst xs) (h2:dr S y = .lst []):Ev (eq0D neg x y) S E Q=Q (.bl (xs.isEmpty != neg)) S:=by
 have e:eq0D neg x y S = .ok (.bl (xs.isEmpty != neg)) S:=by
  unfold eq0D
  simp only [h,h2]
 unfold Ev; rw [e]
structure FkSt (cn pn ns:List Str) (kv:Bsc) (a:Rws) (σ:St) (m:Nat) (w:Fk→Prop) (S:Za) (l:Ly) (F:List Fk) (L:List Ly) (S':Za):Prop where
 g:Gr S S'
 hL:S'[S.length+1]? = some (.lst (L.map lfD))
 hF:S'[S.length+2]? = some (.lst (F.map fkD))
 okL:∀ l ∈ L,LfOk ns m S' l
 okF:∀ r ∈ F,FkOk cn pn ns kv a σ m w S' r∧S.length+1 ≠ r.t∧S.length+2 ≠ r.t
 ol:LfOk ns m S' l
theorem FkSt.gr {l:Ly} {F:List Fk} {L:List Ly} {S1 S2:Za} (h:FkSt cn pn ns kv a σ m w S l F L S1) (g:Gr S1 S2):FkSt cn pn ns kv a σ m w S l F L S2:=
 ⟨h.g.trans g,g.at h.hL,g.at h.hF,fun l hl=>(h.okL l hl).gr g,fun r hr=>⟨(h.okF r hr).1.gr g,(h.okF r hr).2⟩,h.ol.gr g⟩
end
def Eqs (σ τ:St):Prop:=(∀ x,(σ.cells.lookup x).getD 0=(τ.cells.lookup x).getD 0)∧σ.purses=τ.purses∧σ.tape=τ.tape
theorem Eqs.refl (σ:St):Eqs σ σ:=⟨fun _=>rfl,rfl,rfl⟩
theorem Eqs.symm {σ τ:St} (h:Eqs σ τ):Eqs τ σ:=⟨fun x=>(h.1 x).symm,h.2.1.symm,h.2.2.symm⟩
theorem Eqs.trans {σ τ υ:St} (h:Eqs σ τ) (k:Eqs τ υ):Eqs σ υ:=⟨fun x=>(h.1 x).trans (k.1 x),h.2.1.trans k.2.1,h.2.2.trans k.2.2⟩
end NA
namespace ND
open PySem L2
section
variable {S:Za} {E:XP} {Q:D→Za→Prop} {τ:DSt}
@[simp] theorem Zcz {ms:AM} {vs:List Nat} {t:Tg} {tt:TM} {te:EM}:Ev (mCompWE ms vs t tt te τ) S E Q=Ev (ms τ) S E fun ds S1=>∃ x,ds=[x]∧Ev (compW x fun xs=>noErr (compL t tt te (wipeD τ vs) (enumL 0 xs) [])) S1 E Q:=by
 unfold mCompWE
 rw [Ze]
 congr 1
 funext ds S1
 match ds with
 | []=>exact propext ⟨fun h=>h.elim,fun ⟨x,h,_⟩=>by cases h⟩
 | [x]=>exact propext ⟨fun h=>⟨x,rfl,h⟩,fun ⟨y,h,q⟩=>by cases h; exact q⟩
 | x :: y :: r=>exact propext ⟨fun h=>h.elim,fun ⟨z,h,_⟩=>by cases h⟩
end
end ND
namespace NA
open PySem L2 ND NM
structure Gp where
 mask:Nat
 s:Nat
 a:Nat
 b:Nat
 t:Nat
 σ:St
abbrev gpD (g:Gp):D:=.tup [.int (g.mask:Nat),.cel g.s]
structure GpOk (cn pn:List Str) (n:Nat) (S:Za) (g:Gp):Prop where
 at_:StdAt S g.s g.a g.b g.t g.σ
 ok:OkSt cn pn g.σ
 ne:g.mask ≠ 0
 low:Low n g.mask
theorem GpOk.gr {cn pn:List Str} {n:Nat} {S S':Za} {g:Gp} (h:GpOk cn pn n S g) (e:Gr S S'):GpOk cn pn n S' g:={ h with at_:=h.at_.gr e }
theorem Uv {n m m':Nat} {f:List Bool}:f ∈ lot n (m ||| m')↔f ∈ lot n m∨f ∈ lot n m':=by
 unfold lot
 simp only [List.mem_map,List.mem_filter,Nat.testBit_or,Bool.or_eq_true]
 constructor
 ·rintro ⟨k,⟨h1,h2 | h2⟩,rfl⟩
  ·exact .inl ⟨k,⟨h1,h2⟩,rfl⟩
  ·exact .inr ⟨k,⟨h1,h2⟩,rfl⟩
 ·rintro (⟨k,⟨h1,h2⟩,rfl⟩ | ⟨k,⟨h1,h2⟩,rfl⟩)
  ·exact ⟨k,⟨h1,.inl h2⟩,rfl⟩
  ·exact ⟨k,⟨h1,.inr h2⟩,rfl⟩
theorem ZdT {n m m':Nat} (h:Low n m) (h':Low n m'):Low n (m ||| m'):=fun k hk=>by
 rw [Nat.testBit_or,Bool.or_eq_true] at hk
 exact hk.elim (h k) (h' k)
structure Put (n:Nat) (L F:List Gp):Prop where
 from_:∀ r ∈ F,∃ g ∈ L,r={ g with mask:=r.mask }
 len:F.length≤L.length
 ne:∀ r ∈ F,r.mask ≠ 0∧Low n r.mask
 cov:∀ g ∈ L,∀ f ∈ lot n g.mask,∃ r ∈ F,f ∈ lot n r.mask
 so:∀ r ∈ F,∀ f ∈ lot n r.mask,∃ g ∈ L,f ∈ lot n g.mask∧Eqs r.σ g.σ
 dis:(L.map (·.mask)).Pairwise (Dj n)→(F.map (·.mask)).Pairwise (Dj n)
section
variable {n:Nat}
theorem Put.nil:Put n [] []:=⟨by simp,by simp,by simp,by simp,by simp,fun h=>h⟩
theorem Put.off {L F:List Gp} {g:Gp} (h:Put n L F) (d:((L++[g]).map (·.mask)).Pairwise (Dj n)):∀ r ∈ F,Dj n r.mask g.mask:=fun r hr f h1 h2=>by
 obtain ⟨g',hg,hm,_⟩:=h.so r hr f h1
 rw [List.map_append,List.pairwise_append] at d
 exact d.2.2 _ (List.mem_map_of_mem hg) _ (by simp) f hm h2
theorem Put.join {L F:List Gp} {g r:Gp} {i:Nat} (h:Put n L F) (low:Low n g.mask) (hi:F[i]? = some r) (e:Eqs r.σ g.σ):Put n (L++[g]) (F.set i { g with mask:=r.mask ||| g.mask }):=by
 have hl:=(List.getElem?_eq_some_iff.mp hi).1
 have hr:=List.mem_of_getElem? hi
 have mem:∀ {x:Gp},x ∈ F.set i { g with mask:=r.mask ||| g.mask }→x={ g with mask:=r.mask ||| g.mask }∨x ∈ F:=fun hx=>by
  rcases List.mem_or_eq_of_mem_set hx with h | h
  ·exact .inr h
  ·exact .inl h
 have new:{ g with mask:=r.mask ||| g.mask } ∈ F.set i { g with mask:=r.mask ||| g.mask }:=List.mem_set hl _
 refine ⟨fun x hx=>?_,by rw [List.length_set,List.length_append,List.length_singleton]; have:=h.len; omega,fun x hx=>?_,fun g' hg f hf=>?_,fun x hx f hf=>?_,fun d=>?_⟩
 ·rcases mem hx with rfl | hx
  ·exact ⟨g,List.mem_append_right _ (List.mem_singleton_self _),rfl⟩
  ·obtain ⟨g',hg,e⟩:=h.from_ x hx
   exact ⟨g',List.mem_append_left _ hg,e⟩
 ·rcases mem hx with rfl | hx
  ·refine ⟨fun z=>(h.ne r hr).1 ?_,ZdT (h.ne r hr).2 low⟩
   exact (Nat.or_eq_zero_iff.mp z).1
  ·exact h.ne x hx
 ·rcases List.mem_append.mp hg with hg | hg
  ·obtain ⟨x,hx,hm⟩:=h.cov g' hg f hf
   obtain ⟨j,hj⟩:=List.mem_iff_getElem?.mp hx
   by_cases q:j=i
   ·subst q
    rw [hi] at hj; cases hj
    exact ⟨_,new,Uv.mpr (.inl hm)⟩
   ·exact ⟨x,List.mem_of_getElem? ((List.getElem?_set_ne (Ne.symm q)).trans hj),hm⟩
  ·obtain rfl:=List.mem_singleton.mp hg
   exact ⟨_,new,Uv.mpr (.inr hf)⟩
 ·rcases mem hx with rfl | hx
  ·rcases Uv.mp hf with hf | hf
   ·obtain ⟨g',hg,hm,e2⟩:=h.so r hr f hf
    exact ⟨g',List.mem_append_left _ hg,hm,e.symm.trans e2⟩
   ·exact ⟨g,List.mem_append_right _ (List.mem_singleton_self _),hf,Eqs.refl _⟩
  ·obtain ⟨g',hg,hm,e2⟩:=h.so x hx f hf
   exact ⟨g',List.mem_append_left _ hg,hm,e2⟩
 ·have o:=h.off d
  have d1:(F.map (·.mask)).Pairwise (Dj n):=by
   rw [List.map_append,List.pairwise_append] at d
   exact h.dis d.1
  rw [List.map_set,List.pairwise_iff_getElem]
  rw [List.pairwise_iff_getElem] at d1
  intro j k hj hk hjk
  rw [List.length_set,List.length_map] at hj hk
  have ri:F[i]=r:=by
   rw [List.getElem?_eq_getElem hl] at hi
   exact Option.some.inj hi
  rw [List.getElem_set,List.getElem_set]
  by_cases e1:i=j
  ·subst e1
   rw [if_pos rfl,if_neg (by omega)]
   intro f h1 h2
   rcases Uv.mp h1 with h1 | h1
   ·have:=d1 i k (by simpa using hj) (by simpa using hk) hjk f
    simp only [List.getElem_map,ri] at this
    exact this h1 (by simpa using h2)
   ·exact o F[k] (List.getElem_mem _) f (by simpa using h2) h1
  ·rw [if_neg e1]
   by_cases e2:i=k
   ·subst e2
    rw [if_pos rfl]
    intro f h1 h2
    rcases Uv.mp h2 with h2 | h2
    ·have:=d1 j i (by simpa using hj) (by simpa using hk) hjk f
     simp only [List.getElem_map,ri] at this
     exact this (by simpa using h1) h2
    ·exact o F[j] (List.getElem_mem _) f (by simpa using h1) h2
   ·rw [if_neg e2]
    exact d1 j k (by simpa using hj) (by simpa using hk) hjk
end
def nmS:Sm→List (Str × Str)
 | .cell x=>[("cell",x)]
 | .num _=>[]
 | .purse x=>[("purse",x)]
 | .op _ a b=>nmS a++nmS b
def nmT:Ts→List (Str × Str)
 | .news x=>[("news",x)]
 | .knw x=>[("known",x)]
 | .nt t=>nmT t
 | .both a b=>nmT a++nmT b
 | .cmp _ a b=>nmS a++nmS b
mutual
def nmR:Rw→List (Str × Str)
 | .set x s=>("cell",x) :: nmS s
 | .say s=>nmS s
 | .pay g t s=>("purse",g) :: ("purse",t) :: nmS s
 | .ifs t a b=>nmT t++nmL a++nmL b
 | .whl t a=>nmT t++nmL a
def nmL:Rws→List (Str × Str)
 | .nil=>[]
 | .cons r rs=>nmR r++nmL rs
end
def Jr:Ts→Prop
 | .nt t=>Jr t
 | .both a b=>Jr a∧Jr b
 | .cmp _ a b=>a.dep≤2∧b.dep≤2
 | _=>True
mutual
def Zap:Rw→Prop
 | .set _ s=>s.dep≤5
 | .say s=>s.dep≤5
 | .pay _ _ s=>s.dep≤5
 | .ifs t a b=>Jr t∧t.dep≤3∧RwsSm a∧RwsSm b
 | .whl t a=>Jr t∧t.dep≤3∧RwsSm a
def RwsSm:Rws→Prop
 | .nil=>True
 | .cons r rs=>Zap r∧RwsSm rs
end
mutual
def Rw.cnt:Rw→Nat
 | .ifs _ a b=>1+a.cnt+b.cnt
 | .whl _ a=>1+a.cnt
 | _=>1
def Rws.cnt:Rws→Nat
 | .nil=>0
 | .cons r rs=>r.cnt+rs.cnt
end
def ZeH (ns ks cn pn:List Str) (p:Str × Str):Prop:=(p.1 = "purse" → p.2 ∈ pn)∧(p.1 = "news" → p.2 ∈ ns)∧(p.1 = "known" → p.2 ∈ ks)∧(p.1 = "cell" → p.2 ∈ cn)
theorem WY {ns ks cn pn:List Str}:∀ {s:Sm},Vg cn pn s→∀ p ∈ nmS s,ZeH ns ks cn pn p
 | .cell x,o,p,h=>by
  obtain rfl:=List.mem_singleton.mp h
  exact ⟨fun e=>by simp at e,fun e=>by simp at e,fun e=>by simp at e,fun _=>o⟩
 | .num i,o,p,h=>by cases h
 | .purse x,o,p,h=>by
  obtain rfl:=List.mem_singleton.mp h
  exact ⟨fun _=>o,fun e=>by simp at e,fun e=>by simp at e,fun e=>by simp at e⟩
 | .op s a b,o,p,h=>by
  rcases List.mem_append.mp h with h | h
  ·exact WY (s:=a) o.2.1 p h
  ·exact WY (s:=b) o.2.2 p h
theorem UD {ns ks cn pn:List Str}:∀ {t:Ts},Vh ns ks cn pn t→∀ p ∈ nmT t,ZeH ns ks cn pn p
 | .news x,o,p,h=>by
  obtain rfl:=List.mem_singleton.mp h
  exact ⟨fun e=>by simp at e,fun _=>o,fun e=>by simp at e,fun e=>by simp at e⟩
 | .knw x,o,p,h=>by
  obtain rfl:=List.mem_singleton.mp h
  exact ⟨fun e=>by simp at e,fun e=>by simp at e,fun _=>o,fun e=>by simp at e⟩
 | .nt t,o,p,h=>UD (t:=t) o p h
 | .both a b,o,p,h=>by
  rcases List.mem_append.mp h with h | h
  ·exact UD (t:=a) o.1 p h
  ·exact UD (t:=b) o.2 p h
 | .cmp w a b,o,p,h=>by
  rcases List.mem_append.mp h with h | h
  ·exact WY o.2.1.1 p h
  ·exact WY o.2.2.1 p h
mutual
theorem ZdU {ns ks cn pn:List Str}:∀ {n:Nat} {r:Rw},ZK ns ks cn pn n r→∀ p ∈ nmR r,ZeH ns ks cn pn p
 | n,.set x s,o,p,h=>by
  rw [ZK] at o
  rw [nmR] at h
  rcases List.mem_cons.mp h with rfl | h
  ·exact ⟨fun e=>by simp at e,fun e=>by simp at e,fun e=>by simp at e,fun _=>o.1⟩
  ·exact WY o.2.1 p h
 | n,.say s,o,p,h=>by
  rw [ZK] at o
  rw [nmR] at h
  exact WY o.1 p h
 | n,.pay g t s,o,p,h=>by
  rw [ZK] at o
  rw [nmR] at h
  rcases List.mem_cons.mp h with rfl | h
  ·exact ⟨fun _=>o.1,fun e=>by simp at e,fun e=>by simp at e,fun e=>by simp at e⟩
  ·rcases List.mem_cons.mp h with rfl | h
   ·exact ⟨fun _=>o.2.1,fun e=>by simp at e,fun e=>by simp at e,fun e=>by simp at e⟩
   ·exact WY o.2.2.1 p h
 | 0,.ifs _ _ _,o,p,h=>by rw [ZK] at o; exact o.elim
 | n+1,.ifs t a b,o,p,h=>by
  rw [ZK] at o
  rw [nmR] at h
  rcases List.mem_append.mp h with h | h
  ·rcases List.mem_append.mp h with h | h
   ·exact UD o.1 p h
   ·exact nmL_in o.2.2.1 p h
  ·exact nmL_in o.2.2.2 p h
 | 0,.whl _ _,o,p,h=>by rw [ZK] at o; exact o.elim
 | n+1,.whl t a,o,p,h=>by
  rw [ZK] at o
  rw [nmR] at h
  rcases List.mem_append.mp h with h | h
  ·exact UD o.1 p h
  ·exact nmL_in o.2.2 p h
theorem nmL_in {ns ks cn pn:List Str}:∀ {n:Nat} {a:Rws},RwsOk ns ks cn pn n a→∀ p ∈ nmL a,ZeH ns ks cn pn p
 | n,.nil,o,p,h=>by rw [nmL] at h; cases h
 | n,.cons r a,o,p,h=>by
  rw [RwsOk] at o
  rw [nmL] at h
  rcases List.mem_append.mp h with h | h
  ·exact ZdU o.1 p h
  ·exact nmL_in o.2 p h
end
abbrev houseF (ns es:D) (ps:Asc) (ec pc nc:Nat):List (Str × D):=[("names",ns),("purses",VW ps),("ears",es),("hand",.non),("shut",.bl false),("entries",.cel ec),("past",.cel pc),("now",.cel nc)]
def Qg (S:Za) (own:Nat→Prop) (sD:D) (is:List Int):Prop:=sD = .lst (is.map D.int)∨∃ c,sD = .cel c∧own c∧S[c]? = some (.lst (is.map D.int))∧is=[]
structure Mom where
 n:Nat
 G:List Gp
 sD:D
 is:List Int
structure MomAt (cn pn:List Str) (k:Nat) (own:Nat→Prop) (S:Za) (p:Mom):Prop where
 at_:S[p.n]? = some (.ins "Moment" [("groups",.lst (p.G.map gpD)),("said",p.sD)])
 own_:own p.n
 said:Qg S own p.sD p.is
 gs:∀ g ∈ p.G,GpOk cn pn k S g∧own g.s∧own g.a∧own g.b∧own g.t
 ne:p.G ≠ []
 dis:(p.G.map (·.mask)).Pairwise (Dj k)
structure HouseAt (cn pn ns:List Str) (es:D) (ps:Asc) (own:Nat→Prop) (S:Za) (h ec pc:Nat) (bk:List D) (P:List Mom) (now:Mom):Prop where
 at_:S[h]? = some (.ins "House" (houseF (.tup (ns.map D.str)) es ps ec pc now.n))
 en:S[ec]? = some (.lst bk)
 pa:S[pc]? = some (.lst (P.map fun p=>D.cel p.n))
 oh:own h
 oe:own ec
 op:own pc
 ne:ec ≠ pc
 mo:MomAt cn pn ns.length own S now
 ms:∀ p ∈ P,MomAt cn pn ns.length own S p
 sep:∀ p,p=now∨p ∈ P→(∀ g ∈ p.G,g.t ≠ ec∧g.t ≠ pc)∧∀ c,p.sD = .cel c→c ≠ ec∧c ≠ pc
section
variable {cn pn ns:List Str} {es:D} {ps:Asc} {own:Nat→Prop} {S S':Za} {h ec pc:Nat} {bk:List D} {P:List Mom} {now:Mom}
theorem Qg.keep {sD:D} {is:List Int} (x:Qg S own sD is) (k:∀ i,own i→S'[i]? = S[i]?):Qg S' own sD is:=by
 rcases x with x | ⟨c,e,o,z⟩
 ·exact .inl x
 ·exact .inr ⟨c,e,o,(k c o).trans z.1,z.2⟩
theorem MomAt.keep {n:Nat} {p:Mom} (x:MomAt cn pn n own S p) (k:∀ i,own i→S'[i]? = S[i]?):MomAt cn pn n own S' p:=
 ⟨(k _ x.own_).trans x.at_,x.own_,x.said.keep k,fun g hg=>by
  obtain ⟨o,a,b,c,d⟩:=x.gs g hg
  exact ⟨⟨⟨(k _ a).trans o.at_.st,(k _ b).trans o.at_.ce,(k _ c).trans o.at_.pu,(k _ d).trans o.at_.ta,o.at_.ab⟩,o.ok,o.ne,o.low⟩,a,b,c,d⟩,x.ne,x.dis⟩
theorem MomAt.few {n:Nat} {p:Mom} (x:MomAt cn pn n own S p):p.G.length≤2 ^ n:=by
 have:=Zdj x.dis fun m hm=>by
  obtain ⟨g,hg,rfl⟩:=List.mem_map.mp hm
  have o:=(x.gs g hg).1
  exact Uu o.ne o.low
 simpa using this
theorem HouseAt.keep (x:HouseAt cn pn ns es ps own S h ec pc bk P now) (k:∀ i,own i→S'[i]? = S[i]?):HouseAt cn pn ns es ps own S' h ec pc bk P now:=
 ⟨(k _ x.oh).trans x.at_,(k _ x.oe).trans x.en,(k _ x.op).trans x.pa,x.oh,x.oe,x.op,x.ne,x.mo.keep k,fun p hp=>(x.ms p hp).keep k,x.sep⟩
end
end NA
namespace ND
open PySem L2
theorem VG {S:Za} {t:Tg} {te:EM} {τ:DSt} {E:XP} {PL:List D→Za→Prop} {xs ys:List D} (hl:xs.length=ys.length) (hs:xs.length≤sizeLine) (h:∀ (i:Nat) x y,xs[i]? = some x→ys[i]? = some y→∃ τ1,t.bind x τ=some τ1∧∀ (Q:D→Za→Prop),Q y S→Ev (te τ1) S (fun _ _ _=>False) Q) (q:PL ys S) :
  Ev (noErr (compL t tYesD te τ xs [])) S E PL:=by
 refine ev_noErr (ev_compL (fun k acc S'=>acc=ys.take k∧S'=S) (k:=0) ⟨rfl,rfl⟩ (fun i x acc S' hx hi=>?_) (fun acc S' hi=>?_))
 ·obtain ⟨rfl,rfl⟩:=hi
  have hlt:=(List.getElem?_eq_some_iff.mp hx).1
  have hy:ys[i]? = some ys[i]:=List.getElem?_eq_getElem (by omega)
  obtain ⟨τ1,e1,h1⟩:=h i x _ hx hy
  refine ⟨τ1,e1,?_⟩
  simp only [ZaH,if_true]
  refine h1 _ ⟨?_,?_,rfl⟩
  ·rw [List.length_take]; omega
  ·rw [show 0+i+1=i+1 by omega,List.take_add_one,Nat.zero_add,hy]; rfl
 ·obtain ⟨rfl,rfl⟩:=hi
  rw [Nat.zero_add,hl,List.take_length]
  exact q
end ND
namespace NA
open PySem L2 ND NM
section
def numsG (c:Str) (G:List Gp):List Int:=G.map fun g=>(g.σ.cells.lookup c).getD 0
def Zfq (c:Str) (G:List Gp):Bool:=decide ((sortU (numsG c G)).length=1)
end
end NA
namespace ND
open PySem L2
@[simp] theorem ZdJ {is:List Nat} {j:Nat} {m:EM} {S:Za} {τ:DSt} {ER:Str→List (Str × D)→DSt→Za→Prop} {PR:ND.Flow→Za→Prop}:EvR (sStarL is j m τ S) ER PR=Ev (m τ) S (fun C fs S'=>ER C fs τ S') fun d S'=>EvR (starKL is j d τ S') ER PR:=by unfold sStarL; simp
theorem Vn {i j:Nat} {x:D} {xs:List D} {S:Za} {τ:DSt} {ER:Str→List (Str × D)→DSt→Za→Prop} {PR:ND.Flow→Za→Prop} (h:xs.length≤16000) (q:PR (.nx ((τ.set i (some x)).set j (some (.lst xs)))) S):EvR (starKL [i] j (.lst (x :: xs)) τ S) ER PR:=by
 unfold starKL
 simp only [dr]
 rw [if_pos ⟨by simp,by simp; omega⟩]
 exact q
end ND
namespace NA
open PySem L2 ND NM
structure Lcp (L:List (List Int)) (p:List Int):Prop where
 pre:∀ l ∈ L,p <+: l
 most:∀ q,(∀ l ∈ L,q <+: l)→q <+: p
end NA
namespace ND
open PySem L2
@[simp] theorem Zf8 {m:EM} {ml mh:OM} {τ:DSt} {S:Za} {E:XP} {Q:D→Za→Prop}:Ev (mSlC m ml mh τ) S E Q=Ev (m τ) S E fun x S1=>Ev (ml τ) S1 E fun lo S2=>Ev (mh τ) S2 E fun hi S3=>Ev (slDC x lo hi) S3 E Q:=by unfold mSlC; simp only [Ze]
end ND
namespace NA
open PySem L2 ND NM
end NA
namespace ND
open PySem L2
section
variable {S:Za} {E:XP} {Q:D→Za→Prop} {τ:DSt}
@[simp] theorem Zdu {it:IM} {vs:List Nat} {t:Tg} {tt:TM} {tk tv:EM}:Ev (mCompD it vs t tt tk tv τ) S E Q=Ev (it τ) S E fun xs S1=>Ev (noErr (compDL t tt tk tv (wipeD τ vs) xs [])) S1 E fun kvs S2=>Q (.cel S2.length) (S2++[.dct kvs]):=by
 unfold mCompD
 simp only [Ze]
 rfl
end
end ND
namespace NA
open PySem L2 ND NM
def Fk.gp (r:Fk):Gp:=⟨r.mask,r.s,r.a,r.b,r.t,r.σ⟩
structure DoRel (ns:List Str) (kv:Bsc) (a:Rws) (way:Str) (G L:List Gp) (b:Bool):Prop where
 cov:∀ g ∈ G,∀ f ∈ lot ns.length g.mask,∃ l ∈ L,f ∈ lot ns.length l.mask
 so:∀ l ∈ L,∀ f ∈ lot ns.length l.mask,∃ g ∈ G,f ∈ lot ns.length g.mask∧l.σ=(fkE ns kv a g.σ f).2
 don:b=true↔(way = "may" ∨ ∀ g ∈ G,∀ f ∈ lot ns.length g.mask,(fkE ns kv a g.σ f).1 = "")
 dis:(G.map (·.mask)).Pairwise (Dj ns.length)→(L.map (·.mask)).Pairwise (Dj ns.length)
theorem DoRel.nil {ns:List Str} {kv:Bsc} {a:Rws} {way:Str}:DoRel ns kv a way [] [] true:=⟨by simp,by simp,⟨fun _=>.inr (by simp),fun _=>rfl⟩,fun h=>h⟩
theorem DoRel.step {cn pn ns:List Str} {kv:Bsc} {a:Rws} {way:Str} {G L:List Gp} {b:Bool} {g:Gp} {F:List Fk} {S:Za} {w:Fk→Prop} (h:DoRel ns kv a way G L b) (ok:∀ r ∈ F,FkOk cn pn ns kv a g.σ g.mask w S r) (cov:∀ f ∈ lot ns.length g.mask,∃ r ∈ F,f ∈ lot ns.length r.mask) (dis:(F.map (·.mask)).Pairwise (Dj ns.length)) :
  DoRel ns kv a way (G++[g]) (L++F.map Fk.gp) (b && (decide (way = "may") || F.all fun r=>decide (r.word = ""))):=by
 refine ⟨fun g' hg f hf=>?_,fun l hl f hf=>?_,?_,fun d=>?_⟩
 ·rcases List.mem_append.mp hg with hg | hg
  ·obtain ⟨l,hl,hm⟩:=h.cov g' hg f hf
   exact ⟨l,List.mem_append_left _ hl,hm⟩
  ·obtain rfl:=List.mem_singleton.mp hg
   obtain ⟨r,hr,hm⟩:=cov f hf
   exact ⟨r.gp,List.mem_append_right _ (List.mem_map_of_mem hr),hm⟩
 ·rcases List.mem_append.mp hl with hl | hl
  ·obtain ⟨g',hg,hm,e⟩:=h.so l hl f hf
   exact ⟨g',List.mem_append_left _ hg,hm,e⟩
  ·obtain ⟨r,hr,rfl⟩:=List.mem_map.mp hl
   have o:=ok r hr
   exact ⟨g,List.mem_append_right _ (List.mem_singleton_self _),o.sub f hf,by rw [o.so f hf]; rfl⟩
 ·rw [Bool.and_eq_true,Bool.or_eq_true,decide_eq_true_eq,h.don,List.all_eq_true]
  have key:(∀ r ∈ F,decide (r.word = "")=true)↔∀ f ∈ lot ns.length g.mask,(fkE ns kv a g.σ f).1 = "" := by
   constructor
   ·intro k f hf
    obtain ⟨r,hr,hm⟩:=cov f hf
    rw [(ok r hr).so f hm]
    exact of_decide_eq_true (k r hr)
   ·intro k r hr
    have o:=ok r hr
    obtain ⟨f,hf⟩:=Uu o.ne o.low
    have:=k f (o.sub f hf)
    rw [o.so f hf] at this
    exact decide_eq_true this
  rw [key]
  constructor
  ·rintro ⟨h1,h2⟩
   rcases h1 with h1 | h1
   ·exact .inl h1
   ·rcases h2 with h2 | h2
    ·exact .inl h2
    ·refine .inr fun g' hg=>?_
     rcases List.mem_append.mp hg with hg | hg
     ·exact h1 g' hg
     ·obtain rfl:=List.mem_singleton.mp hg; exact h2
  ·rintro (h1 | h1)
   ·exact ⟨.inl h1,.inl h1⟩
   ·exact ⟨.inr fun g' hg=>h1 g' (List.mem_append_left _ hg),.inr (h1 g (List.mem_append_right _ (List.mem_singleton_self _)))⟩
 ·rw [List.map_append,List.pairwise_append] at d ⊢
  refine ⟨h.dis d.1,by rw [List.map_map]; exact dis,fun x hx y hy f h1 h2=>?_⟩
  obtain ⟨l,hl,rfl⟩:=List.mem_map.mp hx
  obtain ⟨r',hr',rfl⟩:=List.mem_map.mp hy
  obtain ⟨r,hr,rfl⟩:=List.mem_map.mp hr'
  obtain ⟨g',hg,hm,_⟩:=h.so l hl f h1
  exact d.2.2 _ (List.mem_map_of_mem hg) _ (List.mem_singleton_self _) f hm ((ok r hr).sub f h2)
mutual
theorem Jh {ns ks ks' cn pn:List Str}:∀ {n:Nat} {r:Rw},ZK ns ks cn pn n r→(∀ p ∈ nmR r,p.1 = "known" → p.2 ∈ ks')→ZK ns ks' cn pn n r
 | n,.set x s,o,h=>by rw [ZK] at o ⊢; exact o
 | n,.say s,o,h=>by rw [ZK] at o ⊢; exact o
 | n,.pay g t s,o,h=>by rw [ZK] at o ⊢; exact o
 | 0,.ifs _ _ _,o,h=>by rw [ZK] at o; exact o.elim
 | n+1,.ifs t a b,o,h=>by
  rw [ZK] at o ⊢
  rw [nmR] at h
  exact ⟨tsOk_known o.1 fun p hp=>h p (List.mem_append_left _ (List.mem_append_left _ hp)),o.2.1,rwsOk_known o.2.2.1 fun p hp=>h p (List.mem_append_left _ (List.mem_append_right _ hp)),rwsOk_known o.2.2.2 fun p hp=>h p (List.mem_append_right _ hp)⟩
 | 0,.whl _ _,o,h=>by rw [ZK] at o; exact o.elim
 | n+1,.whl t a,o,h=>by
  rw [ZK] at o ⊢
  rw [nmR] at h
  exact ⟨tsOk_known o.1 fun p hp=>h p (List.mem_append_left _ hp),o.2.1,rwsOk_known o.2.2 fun p hp=>h p (List.mem_append_right _ hp)⟩
theorem rwsOk_known {ns ks ks' cn pn:List Str}:∀ {n:Nat} {a:Rws},RwsOk ns ks cn pn n a→(∀ p ∈ nmL a,p.1 = "known" → p.2 ∈ ks')→RwsOk ns ks' cn pn n a
 | n,.nil,o,h=>by rw [RwsOk]; trivial
 | n,.cons r a,o,h=>by
  rw [RwsOk] at o ⊢
  rw [nmL] at h
  exact ⟨Jh o.1 fun p hp=>h p (List.mem_append_left _ hp),rwsOk_known o.2 fun p hp=>h p (List.mem_append_right _ hp)⟩
theorem tsOk_known {ns ks ks' cn pn:List Str}:∀ {t:Ts},Vh ns ks cn pn t→(∀ p ∈ nmT t,p.1 = "known" → p.2 ∈ ks')→Vh ns ks' cn pn t
 | .news x,o,h=>o
 | .knw x,o,h=>h ("known",x) (List.mem_singleton_self _) rfl
 | .nt t,o,h=>tsOk_known (t:=t) o h
 | .both a b,o,h=>⟨tsOk_known (t:=a) o.1 fun p hp=>h p (List.mem_append_left _ hp),tsOk_known (t:=b) o.2 fun p hp=>h p (List.mem_append_right _ hp)⟩
 | .cmp w a b,o,h=>o
end
def knC (a:Rws):List Str:=NDS.sortT (selW ["known"] (nmL a))
abbrev ZfP (way:Str) (a:Rws) (b:Bool) (kv:Bsc):D:=.tup [.str "deed",.str way,.tup (rwsD a),.bl b,.tup (kv.map ZdY)]
abbrev kitD (ns cs:List Str) (ps:Asc):D:=.tup [.tup (ns.map D.str),.tup (cs.map D.str),VW ps]
structure LaKit (ns cs:List Str) (ps:Asc):Prop where
 nn:Names ns
 cn:Names cs
 cl:3≤cs.length∧cs.length≤4
 pn:Names (ps.map (·.1))
 p0:∀ p ∈ ps,0≤p.2∧p.2≤1000000
 pl:ps.length≤3
section
structure LaEars (ns:List Str) (ea:List (Str × List Str)):Prop where
 ok:∀ p ∈ ea,isN (.str p.1)=true∧p.2=(ns.filter fun x=>decide (x ∈ p.2))∧1≤p.2.length∧p.2.length≤3
 nd:(ea.map (·.1)).Nodup
 len:ea.length≤3
 nm:Names (ea.map (·.1))
 sh:∀ p ∈ ea,∀ x ∈ p.2,x ∈ ns
end
structure RowCl (cs:List Str) (ps:List (Str × D)) (P T:Nat→D→Prop) (R:Nat→Nat→D→Prop) (RS:Nat→Nat→List D→Prop):Prop where
 set:∀ {n:Nat} {x:Str} {s:D},x ∈ cs→P 5 s→R n 1 (.tup [.str "set",.str x,s])
 say:∀ {n:Nat} {s:D},P 5 s→R n 1 (.tup [.str "say",s])
 pay:∀ {n:Nat} {p q:Str × D} {s:D},p ∈ ps→q ∈ ps→P 5 s→R n 1 (.tup [.str "pay",.str p.1,.str q.1,s])
 ifs:∀ {n a b:Nat} {t:D} {as bs:List D},T 3 t→RS n a as→RS n b bs→as.length≤10→bs.length≤10→R (n+1) (1+a+b) (.tup [.str "if",t,.tup as,.tup bs])
 whl:∀ {n a:Nat} {t:D} {as:List D},T 3 t→RS n a as→as.length≤10→R (n+1) (1+a) (.tup [.str "while",t,.tup as])
 nil:∀ {n:Nat},RS n 0 []
 cons:∀ {n a b:Nat} {d:D} {ds:List D},R n a d→RS n b ds→RS n (a+b) (d :: ds)
 app:∀ {n a b:Nat} {as bs:List D},RS n a as→RS n b bs→RS n (a+b) (as++bs)
theorem RowCl.and {cs:List Str} {ps:List (Str × D)} {P P' T T':Nat→D→Prop} {R R':Nat→Nat→D→Prop} {RS RS':Nat→Nat→List D→Prop} (a:RowCl cs ps P T R RS) (b:RowCl cs ps P' T' R' RS'):RowCl cs ps (fun n d=>P n d∧P' n d) (fun n d=>T n d∧T' n d) (fun n c d=>R n c d∧R' n c d) (fun n c ds=>RS n c ds∧RS' n c ds) where
 set:=fun h s=>⟨a.set h s.1,b.set h s.2⟩
 say:=fun s=>⟨a.say s.1,b.say s.2⟩
 pay:=fun h1 h2 s=>⟨a.pay h1 h2 s.1,b.pay h1 h2 s.2⟩
 ifs:=fun t x y l1 l2=>⟨a.ifs t.1 x.1 y.1 l1 l2,b.ifs t.2 x.2 y.2 l1 l2⟩
 whl:=fun t x l1=>⟨a.whl t.1 x.1 l1,b.whl t.2 x.2 l1⟩
 nil:=⟨a.nil,b.nil⟩
 cons:=fun x y=>⟨a.cons x.1 y.1,b.cons x.2 y.2⟩
 app:=fun x y=>⟨a.app x.1 y.1,b.app x.2 y.2⟩
theorem RwsSm.app:∀ {a b:Rws},RwsSm a→RwsSm b→RwsSm (a.app b)
 | .nil,b,_,h=>by rw [Rws.app]; exact h
 | .cons r a,b,h,h2=>by
  rw [RwsSm] at h
  rw [Rws.app,RwsSm]
  exact ⟨h.1,RwsSm.app h.2 h2⟩
section
variable {ns cs:List Str} {ps:Asc}
theorem LaKit.kit (K:LaKit ns cs ps) (nl:ns.length≤10):Kit (kitD ns cs ps) ns cs (ps.map fun p=>(p.1,D.int p.2)):=by
 exact {
  eq:=by simp [kitD]
  nn:=names_isN K.nn
  nl:=by omega
  cn:=names_isN K.cn
  cl:=K.cl
  pn:=fun p hp=>by
   obtain ⟨x,hx,rfl⟩:=List.mem_map.mp hp
   exact ⟨names_isN K.pn _ (List.mem_map_of_mem hx),Za1⟩
  pl:=by have:=K.pl; simp; omega }
end
abbrev Kv (a b t:Nat):D:=.tup [.cel a,.cel b,.cel t]
structure Lw where
 a:Nat
 b:Nat
 t:Nat
 l:Nat
structure LwAt (S:Za) (p:Lw) (k:Nat) (A ps:Asc) (tp:List Int):Prop where
 ce:S[p.a]? = some (.dct (A.map kvI))
 pu:S[p.b]? = some (.dct (ps.map kvI))
 ta:S[p.t]? = some (.lst (tp.map D.int))
 le:S[p.l]? = some (.lst [.int (80 - (k:Nat))])
 ab:p.a ≠ p.b
 at_:p.a ≠ p.t
 al:p.a ≠ p.l
 bt:p.b ≠ p.t
 bl:p.b ≠ p.l
 tl:p.t ≠ p.l
def XtF (p:Lw) (S S':Za):Prop:=S.length≤S'.length∧∀ m,m < S.length→m ≠ p.a→m ≠ p.b→m ≠ p.t→m ≠ p.l→S'[m]? = S[m]?
theorem XtF.refl {p:Lw} {S:Za}:XtF p S S:=⟨Nat.le_refl _,fun _ _ _ _ _ _=>rfl⟩
theorem XtF.trans {p:Lw} {S S1 S2:Za} (x:XtF p S S1) (y:XtF p S1 S2):XtF p S S2:=⟨Nat.le_trans x.1 y.1,fun m h h1 h2 h3 h4=>(y.2 m (Nat.lt_of_lt_of_le h x.1) h1 h2 h3 h4).trans (x.2 m h h1 h2 h3 h4)⟩
theorem ZnG {p:Lw} {S:Za} {x:Cell}:XtF p S (S.set p.l x):=⟨by simp,fun m _ _ _ _ h=>List.getElem?_set_ne (Ne.symm h)⟩
section
variable {S:Za} {p:Lw} {k:Nat} {A ps:Asc} {tp:List Int}
theorem LwAt.gr {S':Za} (L:LwAt S p k A ps tp) (g:Gr S S'):LwAt S' p k A ps tp:={ L with ce:=g.at L.ce,pu:=g.at L.pu,ta:=g.at L.ta,le:=g.at L.le }
theorem LwAt.cells (L:LwAt S p k A ps tp) (B:Asc):LwAt (S.set p.a (.dct (B.map kvI))) p k B ps tp:={ L with ce:=Xs L.ce,pu:=Zp L.pu L.ab,ta:=Zp L.ta L.at_,le:=Zp L.le L.al }
theorem LwAt.purses (L:LwAt S p k A ps tp) (B:Asc):LwAt (S.set p.b (.dct (B.map kvI))) p k A B tp:={ L with ce:=Zp L.ce L.ab.symm,pu:=Xs L.pu,ta:=Zp L.ta L.bt,le:=Zp L.le L.bl }
theorem LwAt.tape (L:LwAt S p k A ps tp) (B:List Int):LwAt (S.set p.t (.lst (B.map D.int))) p k A ps B:={ L with ce:=Zp L.ce L.at_.symm,pu:=Zp L.pu L.bt.symm,ta:=Xs L.ta,le:=Zp L.le L.tl }
theorem LwAt.left (L:LwAt S p k A ps tp) {j:Nat} {i:Int} (h:i=80 - (j:Nat)):LwAt (S.set p.l (.lst [.int i])) p j A ps tp:=by
 subst h
 exact { L with ce:=Zp L.ce L.al.symm,pu:=Zp L.pu L.bl.symm,ta:=Zp L.ta L.tl.symm,le:=Xs L.le }
end
def AlE (cs A:Asc):Prop:=∀ x,(A.lookup x).getD 0=(cs.lookup x).getD 0
theorem AlE.put {cs A:Asc} (h:AlE cs A) (x:Str) (v:Int):AlE (putC cs x v) (putA A x v):=by
 intro y
 by_cases e:y=x
 ·subst e
  rw [Ws]
  unfold putC
  by_cases hv:v=0
  ·subst hv
   rw [if_pos rfl]
   have:(dropA cs y).lookup y=none:=WQ fun hm=>by
    obtain ⟨p,hp,e⟩:=List.mem_map.mp hm
    have:=(List.mem_filter.mp hp).2
    simp at this
    exact this e
   rw [this]
   rfl
  ·rw [if_neg hv,Ws]
 ·rw [X4 e,WR e]
  exact h y
structure LGA (S:Za) (p:Lw) (cn pn:List Str) (k:Nat) (σ:St) (A:Asc):Prop where
 l:LwAt S p k A σ.purses σ.tape
 al:AlE σ.cells A
 nd:(A.map (·.1)).Nodup
 lm:Zam A
 ky:∀ q ∈ A,q.1 ∈ cn
 o:OkSt cn pn σ
def LG (S:Za) (p:Lw) (cn pn:List Str) (k:Nat) (σ:St):Prop:=∃ A,LGA S p cn pn k σ A
structure LRes (o:Out) (S:Za) (p:Lw) (cn pn:List Str) (Q:Za→Prop) (F:Str→Za→Prop):Prop where
 ok:∀ S' k' σ',o = .ok k' σ'→LG S' p cn pn k' σ'→XtF p S S'→Q S'
 no:∀ S' w,o = .fault w→w ≠ "" → XtF p S S'→F w S'
theorem LRes.mono {o:Out} {S S1:Za} {p:Lw} {cn pn:List Str} {Q:Za→Prop} {F:Str→Za→Prop} (h:LRes o S p cn pn Q F) (x:XtF p S S1):LRes o S1 p cn pn Q F:=⟨fun S' k' σ' e G x'=>h.ok S' k' σ' e G (x.trans x'),fun S' w e n x'=>h.no S' w e n (x.trans x')⟩
section
variable {S:Za} {p:Lw} {cn pn:List Str} {k:Nat} {σ:St} {A:Asc}
theorem LGA.gr {S':Za} (G:LGA S p cn pn k σ A) (g:Gr S S'):LGA S' p cn pn k σ A:={ G with l:=G.l.gr g }
abbrev lnO (o:Nat→St→Out) (k:Nat) (σ:St):Out:=if k=80 then .fault "long" else o (k+1) σ
end
section
variable {S:Za} {p:Lw} {cn pn:List Str} {k:Nat} {σ:St} {A:Asc} {Q:D→Za→Prop}
theorem LGA.step (G:LGA S p cn pn k σ A):LGA (S.set p.l (.lst [.int (80 - (k:Nat) - 1)])) p cn pn (k+1) σ A:={ G with l:=G.l.left (by omega) }
theorem LRes.step {o:Nat→St→Out} (q:LRes (lnO o k σ) S p cn pn (Q (.str "")) (fun w=>Q (.str w))) (h:k ≠ 80) {x:Cell}:LRes (o (k+1) σ) (S.set p.l x) p cn pn (Q (.str "")) (fun w=>Q (.str w)):=by
 unfold lnO at q
 rw [if_neg h] at q
 exact q.mono ZnG
end
structure SdA (S:Za) (a b t:Nat) (cn pn:List Str) (σ:St) (A:Asc):Prop where
 ce:S[a]? = some (.dct (A.map kvI))
 pu:S[b]? = some (.dct (σ.purses.map kvI))
 ta:S[t]? = some (.lst (σ.tape.map D.int))
 al:AlE σ.cells A
 nd:(A.map (·.1)).Nodup
 lm:Zam A
 ky:∀ q ∈ A,q.1 ∈ cn
 o:OkSt cn pn σ
def LSd (S:Za) (cn pn:List Str) (σ:St) (d:D):Prop:=∃ a b t A,d=Kv a b t∧SdA S a b t cn pn σ A
theorem LSd.gr {S S':Za} {cn pn:List Str} {σ:St} {d:D} (h:LSd S cn pn σ d) (g:Gr S S'):LSd S' cn pn σ d:=by
 obtain ⟨a,b,t,A,e,h⟩:=h
 exact ⟨a,b,t,A,e,{ h with ce:=g.at h.ce,pu:=g.at h.pu,ta:=g.at h.ta }⟩
def Sg (x:Str):Prop:=∀ c ∈ x.cps,c < 0x110000
theorem sg_iff {x:Str}:PyData.strOk x=true↔Sg x:=by
 unfold PyData.strOk Sg
 rw [Array.all_eq_true']
 exact ⟨fun h c hc=>of_decide_eq_true (h c hc),fun h c hc=>decide_eq_true (h c hc)⟩
theorem sg_app {x y:Str} (a:Sg x) (b:Sg y):Sg (x++y):=fun c hc=>by
 rw [show (x++y).cps=x.cps++y.cps from rfl,Array.mem_append] at hc
 exact hc.elim (a c) (b c)
theorem Zde (c:Char):c.toNat < 0x110000:=by
 have:=c.valid
 unfold UInt32.isValidChar Nat.isValidChar at this
 show c.val.toNat < _
 omega
theorem sg_of (s:String):Sg (Str.ofString s):=fun c hc=>by
 rw [Str.ofString_eq_toList] at hc
 simp only [List.mem_toArray,List.mem_map] at hc
 obtain ⟨ch,_,rfl⟩:=hc
 exact Zde ch
theorem ZdN (c:Nat):∀ d ∈ (Nat.toDigits 16 c).map Char.toNat,d < 0x110000:=fun d hd=>by
 obtain ⟨ch,_,rfl⟩:=List.mem_map.mp hd
 exact Zde ch
theorem U7 {q c:Nat} (hc:c < 0x110000):∀ d ∈ Builtin.Str.reprChar q c,d < 0x110000:=fun d hd=>by
 unfold Builtin.Str.reprChar at hd
 have rep:∀ n,d ∈ List.replicate n 48→d < 0x110000:=fun n h=>by rw [List.eq_of_mem_replicate h]; omega
 have hx:=ZdN c d
 dsimp only at hd
 split at hd
 ·simp only [List.mem_cons,List.not_mem_nil,or_false] at hd; omega
 split at hd
 ·simp only [List.mem_cons,List.not_mem_nil,or_false] at hd; omega
 split at hd
 ·simp only [List.mem_cons,List.not_mem_nil,or_false] at hd; omega
 split at hd
 ·simp only [List.mem_cons,List.not_mem_nil,or_false] at hd; omega
 split at hd
 ·simp only [List.mem_cons,List.not_mem_nil,or_false] at hd; omega
 split at hd
 ·simp only [List.mem_append,List.mem_cons,List.not_mem_nil,or_false] at hd
  rcases hd with (h | h) | h | h
  ·omega
  ·omega
  ·exact rep _ h
  ·exact hx h
 split at hd
 ·simp only [List.mem_append,List.mem_cons,List.not_mem_nil,or_false] at hd
  rcases hd with (h | h) | h | h
  ·omega
  ·omega
  ·exact rep _ h
  ·exact hx h
 ·simp only [List.mem_append,List.mem_cons,List.not_mem_nil,or_false] at hd
  rcases hd with (h | h) | h | h
  ·omega
  ·omega
  ·exact rep _ h
  ·exact hx h
theorem JW (q:Nat):∀ (l:List Nat) (acc:Array Nat),(∀ c ∈ l,c < 0x110000)→(∀ c ∈ acc,c < 0x110000)→∀ c ∈ l.foldl (fun out c=>out++(Builtin.Str.reprChar q c).toArray) acc,c < 0x110000
 | [],acc,_,h=>h
 | x :: l,acc,hl,h=>JW q l _ (fun c hc=>hl c (List.mem_cons_of_mem _ hc)) fun c hc=>by
  rw [Array.mem_append] at hc
  rcases hc with hc | hc
  ·exact h c hc
  ·exact U7 (hl x List.mem_cons_self) c (by simpa using hc)
theorem QK (x:Str):reprQuote x < 0x110000:=by unfold reprQuote; split <;> omega
theorem Zck {x:Str} (h:Sg x):Sg (reprText x):=fun c hc=>by
 unfold reprText at hc
 simp only [Array.mem_push] at hc
 rcases hc with hc | rfl
 ·rw [← Array.foldl_toList] at hc
  exact JW _ _ _ (fun c hc=>h c (by simpa using hc)) (fun c hc=>by simp at hc; rw [hc]; exact QK x) c hc
 ·exact QK x
theorem sg_from:∀ (ts:List Str) (k:Nat) (acc:Str),(∀ t ∈ ts,Sg t)→Sg acc→Sg (textFrom k acc ts)
 | [],_,_,_,h=>h
 | t :: ts,k,acc,ht,h=>sg_from ts _ _ (fun t m=>ht t (List.mem_cons_of_mem _ m)) (sg_app (sg_app h (sg_of _)) (ht t List.mem_cons_self))
theorem sg_join:∀ (ts:List Str),(∀ t ∈ ts,Sg t)→Sg (Str.join ", " ts)
 | [],_=>fun c hc=>by simp [Str.join,Str.empty] at hc
 | [x],h=>h x List.mem_cons_self
 | x :: y :: r,h=>sg_app (sg_app (h x List.mem_cons_self) (sg_of _)) (sg_join (y :: r) fun t m=>h t (List.mem_cons_of_mem _ m))
mutual
theorem sg_shown:∀ d:PyData,d.canLay0=true→d.hasDict=false→Sg d.shown
 | .none,_,_=>sg_of _
 | .bool b,_,_=>by cases b <;> exact sg_of _
 | .int i,_,_=>sg_of _
 | .str x,h,_=>Zck (sg_iff.mp (by simpa [PyData.canLay0] using h))
 | .list xs,h,n=>sg_app (sg_from _ _ _ (sg_all xs (by simpa [PyData.canLay0] using h) (by simpa [PyData.hasDict] using n)) (sg_of _)) (sg_of _)
 | .tuple xs,h,n=>sg_app (sg_app (sg_of _) (sg_join _ (sg_all xs (by simpa [PyData.canLay0] using h) (by simpa [PyData.hasDict] using n)))) (by split <;> exact sg_of _)
 | .dict kvs,_,n=>by simp [PyData.hasDict] at n
theorem sg_all:∀ xs:List PyData,PyData.canLayAll0 xs=true→PyData.hasDictAll xs=false→∀ t ∈ PyData.shownAll xs,Sg t
 | [],_,_=>fun t h=>by cases h
 | x :: xs,h,n=>fun t m=>by
  simp only [PyData.canLayAll0,Bool.and_eq_true] at h
  simp only [PyData.hasDictAll,Bool.or_eq_false_iff] at n
  rcases List.mem_cons.mp m with rfl | m
  ·exact sg_shown x h.1 n.1
  ·exact sg_all xs h.2 n.2 t m
end
structure Ry (k n:Nat) (z:PyData):Prop where
 lay:z.canLay0=true
 shw:z.showable=true
 nod:z.hasDict=false
 lvs:z.leavesShort 13=true
 wt:z.weight≤n
 dp:z.depth≤k
structure RyA (k n:Nat) (zs:List PyData):Prop where
 lay:PyData.canLayAll0 zs=true
 shw:PyData.showableAll zs=true
 nod:PyData.hasDictAll zs=false
 lvs:PyData.leavesShortAll 13 zs=true
 wt:PyData.weightAll zs≤n
 dp:PyData.depthAll zs≤k
def Sh (k n:Nat) (d:D):Prop:=∃ z,py d=some z∧Ry k n z
def ShL (k n:Nat) (ds:List D):Prop:=∃ zs,pys ds=some zs∧RyA k n zs
theorem Sh.mono {k n k' n':Nat} {d:D} (h:Sh k n d) (a:k≤k') (b:n≤n'):Sh k' n' d:=by
 obtain ⟨z,e,r⟩:=h
 exact ⟨z,e,⟨r.lay,r.shw,r.nod,r.lvs,Nat.le_trans r.wt b,Nat.le_trans r.dp a⟩⟩
theorem ShL.mono {k n k' n':Nat} {d:List D} (h:ShL k n d) (a:k≤k') (b:n≤n'):ShL k' n' d:=by
 obtain ⟨z,e,r⟩:=h
 exact ⟨z,e,⟨r.lay,r.shw,r.nod,r.lvs,Nat.le_trans r.wt b,Nat.le_trans r.dp a⟩⟩
theorem sh_str {k:Nat} {x:Str} (h:Sg x):Sh k x.length (.str x):=⟨.str x,rfl,⟨sg_iff.mpr h,rfl,rfl,by
 rw [PyData.leavesShort,List.all_eq_true]
 exact fun c hc=>decide_eq_true (Nat.lt_trans (h c (by simpa using hc)) (by decide)),Nat.le_refl _,Nat.zero_le _⟩⟩
theorem sh_int {k:Nat} {i:Int} (h:i.natAbs≤1000000000):Sh k 30 (.int i):=⟨.int i,rfl,⟨rfl,by
 rw [PyData.showable]
 have h1:i.natAbs < 2 ^ 40:=Nat.lt_of_le_of_lt h (by decide)
 have:i.natAbs.log2 < 40:=by
  by_cases h0:i.natAbs=0
  ·rw [h0]; decide
  ·exact (Nat.log2_lt h0).mpr h1
 exact decide_eq_true (by omega),rfl,by
 rw [PyData.leavesShort]
 exact decide_eq_true (PyData.shown_int_le (Nat.lt_of_le_of_lt h (by decide))),by
 have h1:i.natAbs < 2 ^ 30:=Nat.lt_of_le_of_lt h (by decide)
 by_cases h0:i=0
 ·subst h0; simp [PyData.weight]
 ·have hn:i.natAbs ≠ 0:=by omega
  have h2:i.natAbs.log2 < 30:=(Nat.log2_lt hn).mpr h1
  simp [PyData.weight,h0]
  omega,Nat.zero_le _⟩⟩
theorem shl_nil {k:Nat}:ShL k 0 []:=⟨[],rfl,⟨rfl,rfl,rfl,rfl,Nat.le_refl _,Nat.zero_le _⟩⟩
theorem shl_cons {k a b:Nat} {x:D} {xs:List D} (h:Sh k a x) (t:ShL k b xs):ShL k (a+1+b) (x :: xs):=by
 obtain ⟨z,e,r⟩:=h
 obtain ⟨zs,es,rs⟩:=t
 refine ⟨z :: zs,by rw [pys,e,es],⟨?_,?_,?_,?_,?_,?_⟩⟩
 ·rw [PyData.canLayAll0,r.lay,rs.lay]; rfl
 ·rw [PyData.showableAll,r.shw,rs.shw]; rfl
 ·rw [PyData.hasDictAll,r.nod,rs.nod]; rfl
 ·rw [PyData.leavesShortAll,r.lvs,rs.lvs]; rfl
 ·rw [PyData.weightAll]
  have:=r.wt; have:=rs.wt; omega
 ·rw [PyData.depthAll]
  have:=r.dp; have:=rs.dp; omega
theorem sh_tup {k n:Nat} {xs:List D} (h:ShL k n xs):Sh (k+1) n (.tup xs):=by
 obtain ⟨zs,e,r⟩:=h
 refine ⟨.tuple zs,by rw [py,e]; rfl,⟨r.lay,r.shw,r.nod,r.lvs,r.wt,?_⟩⟩
 rw [PyData.depth]; have:=r.dp; omega
theorem sg_isN {x:Str} (h:isN (.str x)=true):Sg x∧x.length≤8:=by
 rw [VL,Bool.and_eq_true,decide_eq_true_eq,List.all_eq_true] at h
 refine ⟨fun c hc=>?_,h.1.2⟩
 have:=h.2 c (by simpa using hc)
 unfold isL at this
 simp at this
 omega
theorem sh_nm {k:Nat} {x:Str} (h:isN (.str x)=true):Sh k 8 (.str x):=(sh_str (sg_isN h).1).mono (Nat.le_refl _) (sg_isN h).2
theorem sh_wd {k:Nat} (s:String) (h:(Str.ofString s).length≤8):Sh k 8 (.str (Str.ofString s)):=(sh_str (sg_of s)).mono (Nat.le_refl _) h
def wS:Nat→Nat
 | 0=>0
 | n+1=>2 * wS n+32
theorem SumD.sh {n:Nat} {d:D} (h:SumD n d):Sh n (wS n) d:=by
 induction h with
 | @cell n x hx=>exact (sh_nm hx).mono (Nat.le_refl _) (by simp only [wS]; omega)
 | @num n i h1 h2=>exact (sh_int (by omega)).mono (Nat.le_refl _) (by simp only [wS]; omega)
 | @purse n x hx=>exact (sh_tup (k:=n) (shl_cons (sh_wd "purse" (by decide)) (shl_cons (sh_nm hx) shl_nil))).mono (Nat.le_refl _) (by simp only [wS]; omega)
 | @op n s a b hs _ _ i1 i2=>
  have hw:Sh n 8 (.str s):=by rcases hs with rfl | rfl | rfl <;> exact sh_wd _ (by decide)
  exact (sh_tup (k:=n) (shl_cons hw (shl_cons i1 (shl_cons i2 shl_nil)))).mono (Nat.le_refl _) (by simp only [wS]; omega)
def wT:Nat→Nat
 | 0=>0
 | n+1=>2 * wT n+210
theorem TestD.sh {n:Nat} {d:D} (h:TestD n d):Sh (n+2) (wT n) d:=by
 induction h with
 | @news n x hx=>exact (sh_tup (k:=n+2) (shl_cons (sh_wd "news" (by decide)) (shl_cons (sh_nm hx) shl_nil))).mono (by omega) (by simp only [wT]; omega)
 | @known n x hx=>exact (sh_tup (k:=n+2) (shl_cons (sh_wd "known" (by decide)) (shl_cons (sh_nm hx) shl_nil))).mono (by omega) (by simp only [wT]; omega)
 | @cmp n w a b hs h1 h2=>
  have hw:Sh (n+2) 8 (.str w):=by rcases hs with rfl | rfl <;> exact sh_wd _ (by decide)
  exact (sh_tup (k:=n+2) (shl_cons hw (shl_cons (h1.sh.mono (by omega) (Nat.le_refl _)) (shl_cons (h2.sh.mono (by omega) (Nat.le_refl _)) shl_nil)))).mono (by omega) (by simp only [wT,wS]; omega)
 | @not n a _ i1=>exact (sh_tup (k:=n+2) (shl_cons (sh_wd "not" (by decide)) (shl_cons i1 shl_nil))).mono (by omega) (by simp only [wT]; omega)
 | @both n a b _ _ i1 i2=>exact (sh_tup (k:=n+2) (shl_cons (sh_wd "both" (by decide)) (shl_cons i1 (shl_cons i2 shl_nil)))).mono (by omega) (by simp only [wT]; omega)
theorem Zag {n c:Nat} {d:D} (h:RowD n c d):1≤c:=by cases h <;> omega
mutual
theorem RowD.sh:∀ {n c:Nat} {d:D},RowD n c d→Sh (2 * n+6) (1600 * c - 1) d
 | n,_,_,.set hx hs=>(sh_tup (k:=5) (shl_cons (sh_wd "set" (by decide)) (shl_cons (sh_nm hx) (shl_cons hs.sh shl_nil)))).mono (by omega) (by simp only [wS]; omega)
 | n,_,_,.say hs=>(sh_tup (k:=5) (shl_cons (sh_wd "say" (by decide)) (shl_cons hs.sh shl_nil))).mono (by omega) (by simp only [wS]; omega)
 | n,_,_,.pay hx hy hs=>(sh_tup (k:=5) (shl_cons (sh_wd "pay" (by decide)) (shl_cons (sh_nm hx) (shl_cons (sh_nm hy) (shl_cons hs.sh shl_nil))))).mono (by omega) (by simp only [wS]; omega)
 | _,_,_,.ifs (n:=n) (a:=a) (b:=b) ht ha hb _ _=>(sh_tup (k:=2 * n+7) (shl_cons (sh_wd "if" (by decide)) (shl_cons (ht.sh.mono (by omega) (Nat.le_refl _)) (shl_cons (sh_tup (RowsD.sh ha)) (shl_cons (sh_tup (RowsD.sh hb)) shl_nil))))).mono (by omega) (by simp only [wT]; omega)
 | _,_,_,.whl (n:=n) (a:=a) ht ha _=>(sh_tup (k:=2 * n+7) (shl_cons (sh_wd "while" (by decide)) (shl_cons (ht.sh.mono (by omega) (Nat.le_refl _)) (shl_cons (sh_tup (RowsD.sh ha)) shl_nil)))).mono (by omega) (by simp only [wT]; omega)
theorem RowsD.sh:∀ {n c:Nat} {ds:List D},RowsD n c ds→ShL (2 * n+6) (1600 * c) ds
 | _,_,_,.nil=>(shl_nil (k:=0)).mono (Nat.zero_le _) (Nat.zero_le _)
 | n,_,_,.cons (a:=a) (b:=b) h t=>(shl_cons (RowD.sh h) (RowsD.sh t)).mono (by omega) (by
  have:1≤a:=Zag h
  omega)
end
def shownD (d:D):Str:=match py d with
 | some z=>z.shown
 | none => ""
theorem Zdm {S:Za} {d:D} {z:PyData} (h:py d=some z):dr S d=d:=by
 cases d with
 | cel n=>simp [py] at h
 | _=>rfl
section
variable {S:Za} {E:XP} {Q:D→Za→Prop} {d:D}
theorem QM {k n:Nat} (h:Sh k n d) (hk:k≤60) (hn:n≤1000000):Ev (reprD [d]) S E Q=Q (.str (shownD d)) S:=by
 obtain ⟨z,e,r⟩:=h
 have hp:pyD S d=some z:=by
  unfold pyD
  rw [Zdm e,e]
  exact if_pos (by have:=r.dp; omega)
 have hl:z.shown.length≤sizeLine:=by
  have h1:=PyData.shown_le 13 (by omega) z r.lvs
  have h2:=r.wt
  have h3:(13+2) * z.weight≤15 * 1000000:=Nat.mul_le_mul (by omega) (by omega)
  rw [sizeLine_eq]; omega
 have hc:Zd7 z=true:=VS.mpr ⟨r.shw,r.nod,by have:=r.dp; omega,hl,sg_iff.mpr (sg_shown z r.lay r.nod),hl⟩
 have es:shownD d=z.shown:=by unfold shownD; rw [e]
 have er:reprD [d] S = .ok (.str z.shown) S:=by
  show Zaf d S=_
  unfold Zaf
  rw [hp]
  exact if_pos hc
 unfold Ev
 rw [er,es]
end
def Lk (S:Za) (x y:D):Prop:=∀ n,pyS n S x=pyS n S y
theorem Lk.refl {S:Za} {x:D}:Lk S x x:=fun _=>rfl
theorem Lk.trans {S:Za} {x y z:D} (a:Lk S x y) (b:Lk S y z):Lk S x z:=fun n=>(a n).trans (b n)
section
variable {S:Za} {cn pn:List Str}
def Y3 (S:Za) (cn pn:List Str) (fs:List (List Bool)) (U:List Bool→St) (st:List Bool→D):Prop:=∀ f ∈ fs,LSd S cn pn (U f) (st f)
theorem Y3.gr {S':Za} {fs:List (List Bool)} {U:List Bool→St} {st:List Bool→D} (h:Y3 S cn pn fs U st) (g:Gr S S'):Y3 S' cn pn fs U st:=fun f hf=>(h f hf).gr g
abbrev Za8 (fs:List (List Bool)) (st:List Bool→D):D:=.lst (fs.map fun f=>D.tup [ZdL f,st f])
end
abbrev cl (x:Str):List Nat:=x.cps.toList
abbrev tx (d:PyData):List Nat:=cl d.shown
def joinL:List (List Nat)→List Nat
 | []=>[]
 | [x]=>x
 | x :: y :: r=>x++([44,32]++joinL (y :: r))
theorem all_map:∀ xs:List PyData,(PyData.shownAll xs).map cl=xs.map tx
 | []=>by rw [PyData.shownAll_nil]; rfl
 | x :: xs=>by rw [PyData.shownAll_cons,List.map_cons,List.map_cons,all_map xs]
section
theorem Ww:∀ xs:List Str,pys (xs.map D.str)=some (xs.map PyData.str)
 | []=>rfl
 | x :: xs=>by rw [List.map_cons,pys,Ww xs]; rfl
end
def lawNs (c:Str) (fs:List (List Bool)) (U:List Bool→St):List Int:=fs.map fun f=>((U f).cells.lookup c).getD 0
def ZdQ (c:Str) (fs:List (List Bool)) (U:List Bool→St):Bool:=decide ((sortU (lawNs c fs U)).length=1)
def lawV (a:Rws) (fs:List (List Bool)) (U:List Bool→St):Bsc:=(knC a).map fun c=>(c,ZdQ c fs U)
def lawB (ns:List Str) (a:Rws) (way:Str) (fs:List (List Bool)) (U:List Bool→St):Bool:=decide (way = "may") || fs.all fun f=>decide ((fkE ns (lawV a fs U) a (U f) f).1 = "")
def lawU (ns:List Str) (a:Rws) (way:Str) (fs:List (List Bool)) (U:List Bool→St) (f:List Bool):St:=if lawB ns a way fs U=true then (fkE ns (lawV a fs U) a (U f) f).2 else U f
section
variable {S:Za}
def Off (n:Nat) (d:D):Prop:=∀ a b t,d=Kv a b t→(a < n∨n+2 < a)∧(b < n∨n+2 < b)∧(t < n∨n+2 < t)
theorem LSd.keep {S S':Za} {cn pn:List Str} {σ:St} {d:D} {n:Nat} (h:LSd S cn pn σ d) (o:Off n d) (k:∀ i,(i < n∨n+2 < i)→i < S.length→S'[i]? = S[i]?):LSd S' cn pn σ d:=by
 obtain ⟨a,b,t,A,e,h⟩:=h
 obtain ⟨h1,h2,h3⟩:=o a b t e
 exact ⟨a,b,t,A,e,{ h with ce:=(k a h1 (List.getElem?_eq_some_iff.mp h.ce).1).trans h.ce,pu:=(k b h2 (List.getElem?_eq_some_iff.mp h.pu).1).trans h.pu,ta:=(k t h3 (List.getElem?_eq_some_iff.mp h.ta).1).trans h.ta }⟩
def Frs (n:Nat) (d:D):Prop:=∃ a b t,d=Kv a b t∧n≤a∧n≤b∧n≤t
end
inductive OutE:Out→Out→Prop
 | ok {k:Nat} {σ τ:St}:Eqs σ τ→OutE (.ok k σ) (.ok k τ)
 | fault {w:Str}:OutE (.fault w) (.fault w)
 | unread {x:Str}:OutE (.unread x) (.unread x)
theorem UX {σ τ:St} (h:Eqs σ τ) (s:Sm):evS σ.cells σ.purses s=evS τ.cells τ.purses s:=by rw [h.2.1]; exact YL h.1 s
theorem JK {rv kv:Bsc} {σ τ:St} (h:Eqs σ τ) (t:Ts):evT rv kv σ.cells σ.purses t=evT rv kv τ.cells τ.purses t:=by rw [h.2.1]; exact Xd h.1 t
theorem Qu {cs:Asc} {x y:Str} {v:Int}:((putC cs x v).lookup y).getD 0=if y=x then v else (cs.lookup y).getD 0:=by
 by_cases e:y=x
 ·subst e
  rw [if_pos rfl]
  unfold putC
  by_cases hv:v=0
  ·subst hv
   rw [if_pos rfl]
   have:(dropA cs y).lookup y=none:=WQ fun hm=>by
    obtain ⟨p,hp,e⟩:=List.mem_map.mp hm
    have:=(List.mem_filter.mp hp).2
    simp at this
    exact this e
   rw [this]
   rfl
  ·rw [if_neg hv,Ws]
   rfl
 ·rw [if_neg e,X4 e]
abbrev QW (o:Nat→St→Out):Prop:=∀ k σ τ,Eqs σ τ→OutE (o k σ) (o k τ)
theorem YK:∀ {os:Z4},(∀ o ∈ os,QW o)→QW (runRows os)
 | [],_,k,σ,τ,h=>by rw [runRows,runRows]; exact .ok h
 | o :: os,H,k,σ,τ,h=>by
  rw [runRows,runRows]
  by_cases hk:k=80
  ·rw [if_pos hk,if_pos hk]; exact .fault
  ·rw [if_neg hk,if_neg hk]
   have h1:=H o List.mem_cons_self (k+1) σ τ h
   generalize o (k+1) σ=x at h1 ⊢
   generalize o (k+1) τ=y at h1 ⊢
   cases h1 with
   | ok h2=>exact YK (fun o ho=>H o (List.mem_cons_of_mem _ ho)) _ _ _ h2
   | fault=>exact .fault
   | unread=>exact .unread
theorem Vj {rv kv:Bsc} {t:Ts} {os:Z4} (H:∀ o ∈ os,QW o):∀ n,QW (whileO rv kv t os n)
 | 0,k,σ,τ,h=>by rw [whileO,whileO]; exact .fault
 | n+1,k,σ,τ,h=>by
  simp only [whileO]
  rw [JK h]
  cases evT rv kv τ.cells τ.purses t with
  | none=>exact .fault
  | some b=>
   cases b with
   | false=>exact .ok h
   | true=>
    have h1:=YK H k σ τ h
    dsimp only
    generalize runRows os k σ=x at h1 ⊢
    generalize runRows os k τ=y at h1 ⊢
    cases h1 with
    | @ok k' _ _ h2=>
     dsimp only
     by_cases hk:k'=80
     ·rw [if_pos hk,if_pos hk]; exact .fault
     ·rw [if_neg hk,if_neg hk]; exact Vj H n _ _ _ h2
    | fault=>exact .fault
    | unread=>exact .unread
mutual
theorem Zbo {rv kv:Bsc}:∀ r:Rw,QW (rwO rv kv r)
 | .set x s,k,σ,τ,h=>by
  rw [rwO]
  simp only [setO]
  rw [UX h]
  cases evS τ.cells τ.purses s with
  | none=>exact .fault
  | some v=>exact .ok ⟨fun y=>by dsimp only; rw [Qu,Qu,h.1 y],h.2.1,h.2.2⟩
 | .say s,k,σ,τ,h=>by
  rw [rwO]
  simp only [sayO]
  rw [UX h,h.2.2]
  cases evS τ.cells τ.purses s with
  | none=>exact .fault
  | some v=>
   dsimp only
   by_cases hl:100≤τ.tape.length
   ·rw [if_pos hl,if_pos hl]; exact .fault
   ·rw [if_neg hl,if_neg hl]; exact .ok ⟨h.1,h.2.1,rfl⟩
 | .pay g t s,k,σ,τ,h=>by
  rw [rwO]
  simp only [payO]
  rw [UX h,h.2.1]
  cases evS τ.cells τ.purses s with
  | none=>exact .fault
  | some v=>
   dsimp only
   by_cases hl:0≤v∧v≤(τ.purses.lookup g).getD 0
   ·rw [if_pos hl,if_pos hl]; exact .ok ⟨h.1,rfl,h.2.2⟩
   ·rw [if_neg hl,if_neg hl]; exact .fault
 | .ifs t a b,k,σ,τ,h=>by
  rw [rwO]
  simp only [ifO]
  rw [JK h]
  cases evT rv kv τ.cells τ.purses t with
  | none=>exact .fault
  | some b'=>
   cases b' with
   | false=>exact YK (cong_rws b) k σ τ h
   | true=>exact YK (cong_rws a) k σ τ h
 | .whl t a,k,σ,τ,h=>by
  rw [rwO]
  exact Vj (cong_rws a) _ k σ τ h
theorem cong_rws {rv kv:Bsc}:∀ a:Rws,∀ o ∈ rwsO rv kv a,QW o
 | .nil,o,h=>by rw [rwsO] at h; cases h
 | .cons r a,o,h=>by
  rw [rwsO] at h
  rcases List.mem_cons.mp h with rfl | h
  ·exact Zbo r
  ·exact cong_rws a o h
end
theorem fkE_eqs {ns:List Str} {kv:Bsc} {a:Rws} {σ τ:St} {f:List Bool} (h:Eqs σ τ):(fkE ns kv a σ f).1=(fkE ns kv a τ f).1∧Eqs (fkE ns kv a σ f).2 (fkE ns kv a τ f).2:=by
 unfold fkE deedO
 have h1:=YK (cong_rws (rv:=ns.zip f) (kv:=kv) a) 0 σ τ h
 generalize runRows (rwsO (ns.zip f) kv a) 0 σ=x at h1 ⊢
 generalize runRows (rwsO (ns.zip f) kv a) 0 τ=y at h1 ⊢
 cases h1 with
 | ok h2=>exact ⟨rfl,h2⟩
 | fault=>exact ⟨rfl,h⟩
 | unread=>exact ⟨rfl,h⟩
structure Sml (σ:St):Prop where
 c:∀ p ∈ σ.cells,p.2.natAbs≤1000000000
 p:(σ.purses.map (·.2)).sum≤1000000000
 t:∀ i ∈ σ.tape,i.natAbs≤1000000000
def QX (cn pn:List Str) (o:Nat→St→Out):Prop:=∀ k σ k' σ',OkSt cn pn σ→Sml σ→o k σ = .ok k' σ'→OkSt cn pn σ'∧Sml σ'
theorem Yp {cn pn:List Str}:∀ {os:Z4},(∀ o ∈ os,QX cn pn o)→QX cn pn (runRows os)
 | [],_,k,σ,k',σ',O,H,e=>by
  rw [runRows] at e; cases e; exact ⟨O,H⟩
 | o :: os,h,k,σ,k',σ',O,H,e=>by
  rw [runRows] at e
  split at e
  ·cases e
  ·cases e1:o (k+1) σ with
   | ok k1 σ1=>
    rw [e1] at e
    have h1:=h o List.mem_cons_self _ _ _ _ O H e1
    exact Yp (fun o' ho=>h o' (List.mem_cons_of_mem _ ho)) k1 σ1 k' σ' h1.1 h1.2 e
   | fault w=>rw [e1] at e; cases e
   | unread w=>rw [e1] at e; cases e
theorem WN {cn pn:List Str} {rv kv:Bsc} {t:Ts} {os:Z4} (h:∀ o ∈ os,QX cn pn o):∀ n,QX cn pn (whileO rv kv t os n)
 | 0,k,σ,k',σ',O,H,e=>by rw [whileO] at e; cases e
 | n+1,k,σ,k',σ',O,H,e=>by
  rw [whileO] at e
  split at e
  ·cases e
  ·cases e; exact ⟨O,H⟩
  ·cases e1:runRows os k σ with
   | ok k1 σ1=>
    rw [e1] at e
    have h1:=Yp h _ _ _ _ O H e1
    dsimp only at e
    split at e
    ·cases e
    ·exact WN h n _ _ _ _ h1.1 h1.2 e
   | fault w=>rw [e1] at e; cases e
   | unread w=>rw [e1] at e; cases e
theorem JJ {cn pn:List Str} {σ:St} (O:OkSt cn pn σ) (H:Sml σ):∀ {s:Sm} {v:Int},Vg cn pn s→evS σ.cells σ.purses s=some v→v.natAbs≤1000000000
 | .cell x,v,o,e=>by
  simp only [evS] at e
  cases e1:σ.cells.lookup x with
  | none=>rw [e1] at e; cases e; decide
  | some w=>
   rw [e1] at e
   cases e
   exact H.c _ (lookup_mem e1)
 | .num i,v,o,e=>by
  simp only [evS] at e
  cases e
  have:=o.1
  have:=o.2
  omega
 | .purse x,v,o,e=>by
  simp only [evS] at e
  have m:=lookup_mem e
  have p0:=O.p0 _ m
  have s:=(sum_ge (l:=σ.purses.map (·.2)) fun i hi=>by
   obtain ⟨q,hq,rfl⟩:=List.mem_map.mp hi
   exact O.p0 q hq).2 v (List.mem_map.mpr ⟨_,m,rfl⟩)
  have:=H.p
  dsimp only at p0
  omega
 | .op w a b,v,o,e=>by
  simp only [evS] at e
  split at e
  ·split at e
   ·cases e; assumption
   ·cases e
  ·cases e
mutual
theorem Zah {rv kv:Bsc} {ns ks cn pn:List Str} (nd:pn.Nodup):∀ {n:Nat} {r:Rw},ZK ns ks cn pn n r→QX cn pn (rwO rv kv r)
 | n,.set x s,h=>by
  rw [ZK] at h
  rw [rwO]
  intro k σ k' σ' O H e
  unfold setO at e
  split at e
  ·rename_i v hv
   cases e
   refine ⟨O.put h.1 (evS_lim O.cl O.pl h.2.1 hv),fun p hp=>?_,H.p,H.t⟩
   rcases VR hp with rfl | hp
   ·exact JJ O H h.2.1 hv
   ·exact H.c p hp
  ·cases e
 | n,.say s,h=>by
  rw [ZK] at h
  rw [rwO]
  intro k σ k' σ' O H e
  unfold sayO at e
  split at e
  ·rename_i v hv
   split at e
   ·cases e
   ·rename_i h1
    cases e
    refine ⟨O.say h1,H.c,H.p,fun i hi=>?_⟩
    rcases List.mem_append.mp hi with hi | hi
    ·exact H.t i hi
    ·obtain rfl:=List.mem_singleton.mp hi
     exact JJ O H h.1 hv
  ·cases e
 | n,.pay g t s,h=>by
  rw [ZK] at h
  rw [rwO]
  intro k σ k' σ' O H e
  unfold payO at e
  split at e
  ·rename_i v hv
   split at e
   ·rename_i hc
    cases e
    obtain ⟨pg,eg⟩:=O.hp g h.1
    rw [eg,Option.getD_some] at hc ⊢
    have k1:(putA σ.purses g (pg - v)).map (·.1)=pn:=by rw [Xf (by rw [O.pk]; exact h.1),O.pk]
    obtain ⟨w,ew⟩:=Wr (a:=putA σ.purses g (pg - v)) (x:=t) (by rw [k1]; exact h.2.1)
    rw [ew,Option.getD_some]
    refine ⟨O.pay nd h.1 h.2.1 eg hc.1 hc.2 ew,H.c,?_,H.t⟩
    show ((putA (putA σ.purses g (pg - v)) t (w+v)).map (·.2)).sum≤_
    rw [YY (by rw [k1]; exact nd) ew,YY (by rw [O.pk]; exact nd) eg]
    have:=H.p
    omega
   ·cases e
  ·cases e
 | 0,.ifs _ _ _,h=>by rw [ZK] at h; exact h.elim
 | n+1,.ifs t a b,h=>by
  rw [ZK] at h
  rw [rwO]
  intro k σ k' σ' O H e
  unfold ifO at e
  split at e
  ·exact Yp (rws_keepS nd h.2.2.1) _ _ _ _ O H e
  ·exact Yp (rws_keepS nd h.2.2.2) _ _ _ _ O H e
  ·cases e
 | 0,.whl _ _,h=>by rw [ZK] at h; exact h.elim
 | n+1,.whl t a,h=>by
  rw [ZK] at h
  rw [rwO]
  exact WN (rws_keepS nd h.2.2) _
theorem rws_keepS {rv kv:Bsc} {ns ks cn pn:List Str} (nd:pn.Nodup):∀ {n:Nat} {a:Rws},RwsOk ns ks cn pn n a→∀ o ∈ rwsO rv kv a,QX cn pn o
 | n,.nil,_=>fun o ho=>by rw [rwsO] at ho; cases ho
 | n,.cons r a,h=>fun o ho=>by
  rw [RwsOk] at h
  rw [rwsO] at ho
  rcases List.mem_cons.mp ho with rfl | ho
  ·exact Zah nd h.1
  ·exact rws_keepS nd h.2 o ho
end
theorem JV {ns ns' ks cn pn:List Str} {kv:Bsc} {a:Rws} {n:Nat} {σ:St} {f:List Bool} (nd:pn.Nodup) (o:RwsOk ns' ks cn pn n a) (O:OkSt cn pn σ) (H:Sml σ):OkSt cn pn (fkE ns kv a σ f).2∧Sml (fkE ns kv a σ f).2:=by
 unfold fkE deedO
 cases e:runRows (rwsO (ns.zip f) kv a) 0 σ with
 | ok k' σ'=>exact Yp (rws_keepS nd o) _ _ _ _ O H e
 | fault w=>exact ⟨O,H⟩
 | unread w=>exact ⟨O,H⟩
structure Link (n:Nat) (G:List Gp) (U:List Bool→St):Prop where
 cov:∀ f ∈ fills n,∃ g ∈ G,f ∈ lot n g.mask
 eq:∀ g ∈ G,∀ f ∈ lot n g.mask,Eqs g.σ (U f)
theorem lot_fill {n m:Nat} {f:List Bool} (h:f ∈ lot n m):f ∈ fills n:=by
 rw [VI]
 unfold lot at h
 obtain ⟨k,hk,rfl⟩:=List.mem_map.mp h
 exact List.mem_map.mpr ⟨k,(List.mem_filter.mp hk).1,rfl⟩
section
variable {ns:List Str} {G:List Gp} {U:List Bool→St} {a:Rws} {way:Str}
theorem Link.some {n:Nat} (L:Link n G U) {g:Gp} (hg:g ∈ G) (ne:g.mask ≠ 0) (low:Low n g.mask):∃ f ∈ fills n,Eqs g.σ (U f):=by
 obtain ⟨f,hf⟩:=Uu ne low
 exact ⟨f,lot_fill hf,L.eq g hg f hf⟩
theorem Link.knw {n:Nat} (L:Link n G U) (ok:∀ g ∈ G,g.mask ≠ 0∧Low n g.mask) (c:Str):Zfq c G=ZdQ c (fills n) U:=by
 unfold Zfq ZdQ
 have:sortU (numsG c G)=sortU (lawNs c (fills n) U):=by
  refine W3 (sortU_sorted _) (sortU_sorted _) fun x=>?_
  rw [YQ,YQ]
  unfold numsG lawNs
  rw [List.mem_map,List.mem_map]
  constructor
  ·rintro ⟨g,hg,rfl⟩
   obtain ⟨f,hf,e⟩:=L.some hg (ok g hg).1 (ok g hg).2
   exact ⟨f,hf,(e.1 c).symm⟩
  ·rintro ⟨f,hf,rfl⟩
   obtain ⟨g,hg,hm⟩:=L.cov f hf
   exact ⟨g,hg,(L.eq g hg f hm).1 c⟩
 rw [this]
theorem Link.done {L':List Gp} {b:Bool} (L:Link ns.length G U) (R:DoRel ns (lawV a (fills ns.length) U) a way G L' b):b=lawB ns a way (fills ns.length) U:=by
 rw [Bool.eq_iff_iff,R.don]
 unfold lawB
 rw [Bool.or_eq_true,decide_eq_true_eq,List.all_eq_true]
 constructor
 ·rintro (h | h)
  ·exact .inl h
  ·refine .inr fun f hf=>?_
   obtain ⟨g,hg,hm⟩:=L.cov f hf
   have:=h g hg f hm
   rw [(fkE_eqs (L.eq g hg f hm)).1] at this
   exact decide_eq_true this
 ·rintro (h | h)
  ·exact .inl h
  ·refine .inr fun g hg f hm=>?_
   rw [(fkE_eqs (L.eq g hg f hm)).1]
   exact of_decide_eq_true (h f (lot_fill hm))
theorem Link.next {L' F:List Gp} {b:Bool} (L:Link ns.length G U) (R:DoRel ns (lawV a (fills ns.length) U) a way G L' b) (P:b=true→Put ns.length L' F) (N:b=false→F=G):Link ns.length F (lawU ns a way (fills ns.length) U):=by
 have hb:=L.done R
 cases b with
 | false=>
  rw [N rfl]
  have e:lawU ns a way (fills ns.length) U=U:=by
   funext f
   unfold lawU
   rw [← hb,if_neg Bool.false_ne_true]
  rw [e]
  exact L
 | true=>
  have P:=P rfl
  refine ⟨fun f hf=>?_,fun r hr f hf=>?_⟩
  ·obtain ⟨g,hg,hm⟩:=L.cov f hf
   obtain ⟨l,hl,hm⟩:=R.cov g hg f hm
   exact P.cov l hl f hm
  ·obtain ⟨l,hl,hm,e⟩:=P.so r hr f hf
   obtain ⟨g,hg,hm,e2⟩:=R.so l hl f hm
   unfold lawU
   rw [← hb,if_pos rfl]
   rw [e2] at e
   exact e.trans (fkE_eqs (L.eq g hg f hm)).2
theorem J4 {A B:List (List Int)} {p:List Int} (h:Lcp A p) (e:∀ x,x ∈ A↔x ∈ B):Lcp B p:=⟨fun l hl=>h.pre l ((e l).mpr hl),fun q hq=>h.most q fun l hl=>hq l ((e l).mp hl)⟩
theorem Link.lcp {n:Nat} {is:List Int} (L:Link n G U) (ok:∀ g ∈ G,g.mask ≠ 0∧Low n g.mask) (h:Lcp (G.map fun g=>g.σ.tape) is):Lcp ((fills n).map fun f=>(U f).tape) is:=J4 h fun x=>by
 rw [List.mem_map,List.mem_map]
 constructor
 ·rintro ⟨g,hg,rfl⟩
  obtain ⟨f,hf,e⟩:=L.some hg (ok g hg).1 (ok g hg).2
  exact ⟨f,hf,e.2.2.symm⟩
 ·rintro ⟨f,hf,rfl⟩
  obtain ⟨g,hg,hm⟩:=L.cov f hf
  exact ⟨g,hg,(L.eq g hg f hm).2.2⟩
end
def Zbb (cn pn:List Str) (n:Nat) (U:List Bool→St):Prop:=∀ f ∈ fills n,OkSt cn pn (U f)∧Sml (U f)
theorem Zbb.next {cn pn ns ks:List Str} {a:Rws} {way:Str} {U:List Bool→St} {m:Nat} (h:Zbb cn pn ns.length U) (nd:pn.Nodup) (o:RwsOk ns ks cn pn m a):Zbb cn pn ns.length (lawU ns a way (fills ns.length) U):=fun f hf=>by
 unfold lawU
 split
 ·exact JV nd o (h f hf).1 (h f hf).2
 ·exact h f hf
end NA
namespace ND
open PySem L2
end ND
namespace NA
open PySem L2 ND NM
mutual
theorem Zci {ns ks cn pn:List Str}:∀ {n m:Nat} {r:Rw},ZK ns ks cn pn n r→n≤m→ZK ns ks cn pn m r
 | n,m,.set x s,h,le=>by rw [ZK] at h ⊢; exact h
 | n,m,.say s,h,le=>by rw [ZK] at h ⊢; exact h
 | n,m,.pay g t s,h,le=>by rw [ZK] at h ⊢; exact h
 | 0,m,.ifs _ _ _,h,le=>by rw [ZK] at h; exact h.elim
 | n+1,0,.ifs t a b,h,le=>by omega
 | n+1,m+1,.ifs t a b,h,le=>by
  rw [ZK] at h ⊢
  exact ⟨h.1,h.2.1,rwsOk_up h.2.2.1 (by omega),rwsOk_up h.2.2.2 (by omega)⟩
 | 0,m,.whl _ _,h,le=>by rw [ZK] at h; exact h.elim
 | n+1,0,.whl t a,h,le=>by omega
 | n+1,m+1,.whl t a,h,le=>by
  rw [ZK] at h ⊢
  exact ⟨h.1,h.2.1,rwsOk_up h.2.2 (by omega)⟩
theorem rwsOk_up {ns ks cn pn:List Str}:∀ {n m:Nat} {a:Rws},RwsOk ns ks cn pn n a→n≤m→RwsOk ns ks cn pn m a
 | n,m,.nil,h,le=>by rw [RwsOk]; trivial
 | n,m,.cons r a,h,le=>by
  rw [RwsOk] at h ⊢
  exact ⟨Zci h.1 le,rwsOk_up h.2 le⟩
end
def On (X:Nat→Prop) (d:D):Prop:=∀ a b t,d=Kv a b t→X a∧X b∧X t
theorem Frs.on {n:Nat} {d:D} {X:Nat→Prop} (h:Frs n d) (x:∀ i,n≤i→X i):On X d:=fun a b t e=>by
 obtain ⟨a',b',t',e',h1,h2,h3⟩:=h
 rw [e'] at e
 cases e
 exact ⟨x _ h1,x _ h2,x _ h3⟩
theorem On.mono {X Y:Nat→Prop} {d:D} (h:On X d) (k:∀ i,X i→Y i):On Y d:=fun a b t e=>by
 obtain ⟨h1,h2,h3⟩:=h a b t e
 exact ⟨k _ h1,k _ h2,k _ h3⟩
section
variable {cn pn:List Str} {S S':Za} {fs:List (List Bool)} {U:List Bool→St} {st:List Bool→D} {X:Nat→Prop}
theorem LSd.on {σ:St} {d:D} (h:LSd S cn pn σ d) (x:On X d) (k:∀ i,X i→i < S.length→S'[i]? = S[i]?):LSd S' cn pn σ d:=by
 obtain ⟨a,b,t,A,rfl,s⟩:=h
 obtain ⟨xa,xb,xt⟩:=x a b t rfl
 have lt:∀ {i:Nat} {c:Cell},S[i]? = some c→i < S.length:=fun e=>(List.getElem?_eq_some_iff.mp e).1
 exact ⟨a,b,t,A,rfl,⟨(k _ xa (lt s.ce)).trans s.ce,(k _ xb (lt s.pu)).trans s.pu,(k _ xt (lt s.ta)).trans s.ta,s.al,s.nd,s.lm,s.ky,s.o⟩⟩
theorem Y3.keep (h:Y3 S cn pn fs U st) (x:∀ f ∈ fs,On X (st f)) (k:∀ i,X i→i < S.length→S'[i]? = S[i]?):Y3 S' cn pn fs U st:=fun f hf=>(h f hf).on (x f hf) k
theorem Y3.lt (h:Y3 S cn pn fs U st) (x:∀ f ∈ fs,On X (st f)):∀ f ∈ fs,On (fun i=>X i∧i < S.length) (st f):=fun f hf a b t e=>by
 obtain ⟨a',b',t',A,e',s⟩:=h f hf
 obtain ⟨x1,x2,x3⟩:=x f hf a b t e
 rw [e'] at e
 cases e
 have lt:∀ {i:Nat} {c:Cell},S[i]? = some c→i < S.length:=fun e=>(List.getElem?_eq_some_iff.mp e).1
 exact ⟨⟨x1,lt s.ce⟩,⟨x2,lt s.pu⟩,⟨x3,lt s.ta⟩⟩
end
end NA
namespace ND
open PySem L2
@[simp] theorem ZcD {nm:Str} {τ:DSt} {S:Za} {ER:Str→List (Str × D)→DSt→Za→Prop} {PR:Flow→Za→Prop}:EvR (sRaise0 nm τ S) ER PR=ER nm [] τ S:=rfl
end ND
namespace NA
open PySem L2 ND NM
def wiG (m:Nat) (G:List Gp):List Gp:=(G.filter fun g=>(g.mask &&& m) != 0).map fun g=>{ g with mask:=g.mask &&& m }
theorem QV {m:Nat} {G:List Gp} {r:Gp}:r ∈ wiG m G↔∃ g ∈ G,(g.mask &&& m) ≠ 0∧r={ g with mask:=g.mask &&& m }:=by
 unfold wiG
 rw [List.mem_map]
 constructor
 ·rintro ⟨g,hg,rfl⟩
  obtain ⟨h1,h2⟩:=List.mem_filter.mp hg
  exact ⟨g,h1,by simpa using h2,rfl⟩
 ·rintro ⟨g,h1,h2,rfl⟩
  exact ⟨g,List.mem_filter.mpr ⟨h1,by simpa using h2⟩,rfl⟩
theorem lot_and {n m m':Nat} {f:List Bool}:f ∈ lot n (m &&& m')↔f ∈ lot n m∧f ∈ lot n m':=by
 constructor
 ·intro h
  have l:=NM.lot_fill h
  rw [lot_mem l,Nat.testBit_and,Bool.and_eq_true] at h
  exact ⟨(lot_mem l).mpr h.1,(lot_mem l).mpr h.2⟩
 ·rintro ⟨h1,h2⟩
  have l:=NM.lot_fill h1
  rw [lot_mem l] at h1 h2 ⊢
  rw [Nat.testBit_and,h1,h2]; rfl
structure LinkW (n:Nat) (W:List (List Bool)) (G:List Gp) (U:List Bool→NA.St):Prop where
 cov:∀ f ∈ W,∃ g ∈ G,f ∈ lot n g.mask
 sub:∀ g ∈ G,∀ f ∈ lot n g.mask,f ∈ W
 eq:∀ g ∈ G,∀ f ∈ lot n g.mask,Eqs g.σ (U f)
section
variable {ns:List Str} {G:List Gp} {U:List Bool→NA.St} {a:Rws} {way:Str} {W:List (List Bool)}
theorem LinkW.some {n:Nat} (L:LinkW n W G U) {g:Gp} (hg:g ∈ G) (ne:g.mask ≠ 0) (low:Low n g.mask):∃ f ∈ W,Eqs g.σ (U f):=by
 obtain ⟨f,hf⟩:=Uu ne low
 exact ⟨f,L.sub g hg f hf,L.eq g hg f hf⟩
theorem LinkW.knw {n:Nat} (L:LinkW n W G U) (ok:∀ g ∈ G,g.mask ≠ 0∧Low n g.mask) (c:Str):Zfq c G=ZdQ c W U:=by
 unfold Zfq ZdQ
 have:sortU (numsG c G)=sortU (lawNs c W U):=by
  refine W3 (sortU_sorted _) (sortU_sorted _) fun x=>?_
  rw [YQ,YQ]
  unfold numsG lawNs
  rw [List.mem_map,List.mem_map]
  constructor
  ·rintro ⟨g,hg,rfl⟩
   obtain ⟨f,hf,e⟩:=L.some hg (ok g hg).1 (ok g hg).2
   exact ⟨f,hf,(e.1 c).symm⟩
  ·rintro ⟨f,hf,rfl⟩
   obtain ⟨g,hg,hm⟩:=L.cov f hf
   exact ⟨g,hg,(L.eq g hg f hm).1 c⟩
 rw [this]
theorem LinkW.done {L':List Gp} {b:Bool} (L:LinkW ns.length W G U) (R:DoRel ns (lawV a W U) a way G L' b):b=lawB ns a way W U:=by
 rw [Bool.eq_iff_iff,R.don]
 unfold lawB
 rw [Bool.or_eq_true,decide_eq_true_eq,List.all_eq_true]
 constructor
 ·rintro (h | h)
  ·exact .inl h
  ·refine .inr fun f hf=>?_
   obtain ⟨g,hg,hm⟩:=L.cov f hf
   have:=h g hg f hm
   rw [(fkE_eqs (L.eq g hg f hm)).1] at this
   exact decide_eq_true this
 ·rintro (h | h)
  ·exact .inl h
  ·refine .inr fun g hg f hm=>?_
   rw [(fkE_eqs (L.eq g hg f hm)).1]
   exact of_decide_eq_true (h f (L.sub g hg f hm))
theorem LinkW.next {L' F:List Gp} {b:Bool} (L:LinkW ns.length W G U) (R:DoRel ns (lawV a W U) a way G L' b) (P:b=true→Put ns.length L' F) (N:b=false→F=G):LinkW ns.length W F (lawU ns a way W U):=by
 have hb:=L.done R
 cases b with
 | false=>
  rw [N rfl]
  have e:lawU ns a way W U=U:=by
   funext f
   unfold lawU
   rw [← hb,if_neg Bool.false_ne_true]
  rw [e]
  exact L
 | true=>
  have P:=P rfl
  refine ⟨fun f hf=>?_,fun r hr f hf=>?_,fun r hr f hf=>?_⟩
  ·obtain ⟨g,hg,hm⟩:=L.cov f hf
   obtain ⟨l,hl,hm⟩:=R.cov g hg f hm
   exact P.cov l hl f hm
  ·obtain ⟨l,hl,hm,e⟩:=P.so r hr f hf
   obtain ⟨g,hg,hm,e2⟩:=R.so l hl f hm
   exact L.sub g hg f hm
  ·obtain ⟨l,hl,hm,e⟩:=P.so r hr f hf
   obtain ⟨g,hg,hm,e2⟩:=R.so l hl f hm
   unfold lawU
   rw [← hb,if_pos rfl]
   rw [e2] at e
   exact e.trans (fkE_eqs (L.eq g hg f hm)).2
theorem LinkW.lcp {n:Nat} {is:List Int} (L:LinkW n W G U) (ok:∀ g ∈ G,g.mask ≠ 0∧Low n g.mask) (h:Lcp (G.map fun g=>g.σ.tape) is):Lcp (W.map fun f=>(U f).tape) is:=J4 h fun x=>by
 rw [List.mem_map,List.mem_map]
 constructor
 ·rintro ⟨g,hg,rfl⟩
  obtain ⟨f,hf,e⟩:=L.some hg (ok g hg).1 (ok g hg).2
  exact ⟨f,hf,e.2.2.symm⟩
 ·rintro ⟨f,hf,rfl⟩
  obtain ⟨g,hg,hm⟩:=L.cov f hf
  exact ⟨g,hg,(L.eq g hg f hm).2.2⟩
theorem LinkW.less {n m:Nat} {p:List Bool→Bool} (L:LinkW n W G U) (hp:∀ f ∈ W,p f=true↔f ∈ lot n m):LinkW n (W.filter p) (wiG m G) U:=by
 refine ⟨fun f hf=>?_,fun r hr f hf=>?_,fun r hr f hf=>?_⟩
 ·obtain ⟨h1,h2⟩:=List.mem_filter.mp hf
  obtain ⟨g,hg,hm⟩:=L.cov f h1
  have hl:f ∈ lot n (g.mask &&& m):=lot_and.mpr ⟨hm,(hp f h1).mp h2⟩
  refine ⟨_,QV.mpr ⟨g,hg,fun e=>?_,rfl⟩,hl⟩
  rw [e,VN] at hl
  cases hl
 ·obtain ⟨g,hg,ne,rfl⟩:=QV.mp hr
  obtain ⟨h1,h2⟩:=lot_and.mp hf
  have h3:=L.sub g hg f h1
  exact List.mem_filter.mpr ⟨h3,(hp f h3).mpr h2⟩
 ·obtain ⟨g,hg,ne,rfl⟩:=QV.mp hr
  exact L.eq g hg f (lot_and.mp hf).1
theorem LinkW.none {n m:Nat} {p:List Bool→Bool} (L:LinkW n W G U) (ok:∀ g ∈ G,g.mask ≠ 0∧Low n g.mask) (hp:∀ f ∈ W,p f=true↔f ∈ lot n m):wiG m G=[]↔W.filter p=[]:=by
 have L2:=L.less hp
 constructor
 ·intro h
  rw [List.eq_nil_iff_forall_not_mem]
  intro f hf
  obtain ⟨g,hg,_⟩:=L2.cov f hf
  rw [h] at hg
  cases hg
 ·intro h
  rw [List.eq_nil_iff_forall_not_mem]
  intro r hr
  obtain ⟨g,hg,ne,rfl⟩:=QV.mp hr
  obtain ⟨f,hf⟩:=Uu ne (low_fitted (ok g hg).2 m)
  have:=L2.sub _ hr f hf
  rw [h] at this
  cases this
end
def Y1 (cn pn:List Str) (W:List (List Bool)) (U:List Bool→NA.St):Prop:=∀ f ∈ W,OkSt cn pn (U f)∧Sml (U f)
theorem Y1.next {cn pn ns ks:List Str} {a:Rws} {way:Str} {U:List Bool→NA.St} {m:Nat} {W:List (List Bool)} (h:Y1 cn pn W U) (nd:pn.Nodup) (o:RwsOk ns ks cn pn m a):Y1 cn pn W (lawU ns a way W U):=fun f hf=>by
 unfold lawU
 split
 ·exact JV nd o (h f hf).1 (h f hf).2
 ·exact h f hf
theorem Y1.less {cn pn:List Str} {U:List Bool→NA.St} {W:List (List Bool)} {p:List Bool→Bool} (h:Y1 cn pn W U):Y1 cn pn (W.filter p) U:=fun f hf=>h f (List.mem_filter.mp hf).1
section
variable {ns cs:List Str}
inductive Wish where
 | deed (way:Str) (a:Rws) | news (y:Str) (b:Bool) | tie (qs:List (Str × Bool))
def V6 (ns cs pn:List Str):Wish→Prop
 | .deed way a=>(way = "must" ∨ way = "may")∧∃ c,RowsD 4 c (rwsD a)∧RwsOk ns cs cs pn 4 a∧RwsSm a∧a.cnt≤50∧c≤29
 | .news y b=>y ∈ ns
 | .tie qs=>List.Sublist (qs.map (·.1)) ns∧qs ≠ []∧qs.length≤4
end
end NA
namespace ND
open PySem L2
@[simp] theorem Zf0 {e:List D} {S:Za} {E:XP} {Q:D→Za→Prop}:Ev (isD false (.tup e) .non) S E Q=Q (.bl false) S:=rfl
@[simp] theorem ZfZ {n:Nat} {S:Za} {E:XP} {Q:D→Za→Prop}:Ev (isD false (.cel n) .non) S E Q=Q (.bl false) S:=rfl
@[simp] theorem JN {S:Za} {E:XP} {Q:D→Za→Prop}:Ev (isD false .non .non) S E Q=Q (.bl true) S:=rfl
end ND
namespace NA
open PySem L2 ND NM
structure InvW (ns cs:List Str) (ps:Asc) (ea:List (Str × List Str)) (n h en i:Nat) (own:Nat→Prop) (ec pc:Nat) (bk:List D) (P:List Mom) (now:Mom) (W:List (List Bool)) (U:List Bool→NA.St) (st:List Bool→D) (S:Za):Prop where
 H:HouseAt cs (ps.map (·.1)) ns (earsD ea) ps own S h ec pc bk P now
 ol:∀ j,own j→j < S.length
 bag:Bag S n
 no:¬ own n
 eo:¬ own en
 ne:en ≠ n
 ent:S[en]? = some (.lst bk)
 wne:W ≠ []
 wsub:List.Sublist W (fills ns.length)
 sts:Y3 S cs (ps.map (·.1)) W U st
 sx:∀ f ∈ W,On (fun j=>¬ own j∧j ≠ n∧j ≠ en) (st f)
 link:LinkW ns.length W now.G U
 ok:Y1 cs (ps.map (·.1)) W U
 lcp:Lcp (W.map fun f=>(U f).tape) now.is
 bl:bk.length=i
 pl:P.length=i
 sh:∀ e ∈ bk,Sh 20 47000 e
def ZhU:List Int→List Int→List Int
 | a :: as,b :: bs=>if a=b then a :: ZhU as bs else []
 | _,_=>[]
def lcpL:List (List Int)→List Int
 | []=>[]
 | [a]=>a
 | a :: b :: l=>ZhU a (lcpL (b :: l))
def ofF (ns few:List Str) (f:List Bool):List Bool:=few.map fun y=>((ns.zip f).lookup y).getD false
def inW (ns few:List Str) (W:List (List Bool)) (g:List Bool):List (List Bool):=W.filter fun f=>decide (ofF ns few f=g)
def tbW (ns few:List Str) (W:List (List Bool)) (U:List Bool→NA.St) (g:List Bool):List Int:=lcpL ((inW ns few W g).map fun f=>(U f).tape)
def gsW (ns few:List Str) (W:List (List Bool)):List (List Bool):=(fills few.length).filter fun g=>decide (inW ns few W g ≠ [])
def ZgW (ns few:List Str) (W:List (List Bool)) (U:List Bool→NA.St) (is:List Int):List (List Bool):=(gsW ns few W).filter fun g=>decide (tbW ns few W U g=is)
def Jm (o:Nat→St→Out):Prop:=∀ k σ k' σ',o k σ = .ok k' σ'→σ.tape <+: σ'.tape
theorem Zcv {x:Str} {s:Sm}:Jm (setO x s):=by
 intro k σ k' σ' e
 unfold setO at e
 split at e
 ·cases e; exact List.prefix_refl _
 ·cases e
theorem Zcu {s:Sm}:Jm (sayO s):=by
 intro k σ k' σ' e
 unfold sayO at e
 split at e
 ·split at e
  ·cases e
  ·cases e; exact List.prefix_append _ _
 ·cases e
theorem Zct {g t:Str} {s:Sm}:Jm (payO g t s):=by
 intro k σ k' σ' e
 unfold payO at e
 split at e
 ·split at e
  ·cases e; exact List.prefix_refl _
  ·cases e
 ·cases e
theorem tap_rows:∀ {os:List (Nat→St→Out)},(∀ o ∈ os,Jm o)→Jm (runRows os)
 | [],_,k,σ,k',σ',e=>by
  rw [runRows] at e
  cases e
  exact List.prefix_refl _
 | o :: os,h,k,σ,k',σ',e=>by
  rw [runRows] at e
  split at e
  ·cases e
  ·cases e1:o (k+1) σ with
   | ok k1 σ1=>
    rw [e1] at e
    exact (h o List.mem_cons_self _ _ _ _ e1).trans (tap_rows (fun o ho=>h o (List.mem_cons_of_mem _ ho)) k1 σ1 k' σ' e)
   | fault w=>rw [e1] at e; cases e
   | unread w=>rw [e1] at e; cases e
theorem Zeu {rv kv:Bsc} {t:Ts} {os1 os2:Z4} (h1:∀ o ∈ os1,Jm o) (h2:∀ o ∈ os2,Jm o):Jm (ifO rv kv t os1 os2):=by
 intro k σ k' σ' e
 unfold ifO at e
 split at e
 ·exact tap_rows h1 k σ k' σ' e
 ·exact tap_rows h2 k σ k' σ' e
 ·cases e
theorem tap_while {rv kv:Bsc} {t:Ts} {os:Z4} (h:∀ o ∈ os,Jm o):∀ n,Jm (whileO rv kv t os n)
 | 0,k,σ,k',σ',e=>by rw [whileO] at e; cases e
 | n+1,k,σ,k',σ',e=>by
  rw [whileO] at e
  split at e
  ·cases e
  ·cases e; exact List.prefix_refl _
  ·cases e1:runRows os k σ with
   | ok k1 σ1=>
    rw [e1] at e
    have h1:=tap_rows h k σ k1 σ1 e1
    dsimp only at e
    split at e
    ·cases e
    ·exact h1.trans (tap_while h n (k1+1) σ1 k' σ' e)
   | fault w=>rw [e1] at e; cases e
   | unread w=>rw [e1] at e; cases e
mutual
theorem Zev {rv kv:Bsc}:∀ r:Rw,Jm (rwO rv kv r)
 | .set _ _=>by rw [rwO]; exact Zcv
 | .say _=>by rw [rwO]; exact Zcu
 | .pay _ _ _=>by rw [rwO]; exact Zct
 | .ifs _ a b=>by rw [rwO]; exact Zeu (tap_rws a) (tap_rws b)
 | .whl _ a=>by rw [rwO]; exact tap_while (tap_rws a) _
theorem tap_rws {rv kv:Bsc}:∀ a:Rws,∀ o ∈ rwsO rv kv a,Jm o
 | .nil=>fun o h=>by rw [rwsO] at h; cases h
 | .cons r a=>fun o h=>by
  rw [rwsO] at h
  rcases List.mem_cons.mp h with rfl | h
  ·exact Zev r
  ·exact tap_rws a o h
end
abbrev Za0 (σ:St):Int:=(σ.purses.map (·.2)).sum
def KpO (cn pn:List Str) (o:Nat→St→Out):Prop:=∀ k σ k' σ',OkSt cn pn σ→o k σ = .ok k' σ'→OkSt cn pn σ'∧Za0 σ'=Za0 σ
theorem kp_rows {cn pn:List Str}:∀ {os:Z4},(∀ o ∈ os,KpO cn pn o)→KpO cn pn (runRows os)
 | [],_,k,σ,k',σ',O,e=>by
  rw [runRows] at e; cases e; exact ⟨O,rfl⟩
 | o :: os,h,k,σ,k',σ',O,e=>by
  rw [runRows] at e
  split at e
  ·cases e
  ·cases e1:o (k+1) σ with
   | ok k1 σ1=>
    rw [e1] at e
    have h1:=h o List.mem_cons_self _ _ _ _ O e1
    have h2:=kp_rows (fun o' ho=>h o' (List.mem_cons_of_mem _ ho)) k1 σ1 k' σ' h1.1 e
    exact ⟨h2.1,h2.2.trans h1.2⟩
   | fault w=>rw [e1] at e; cases e
   | unread w=>rw [e1] at e; cases e
theorem Qy {cn pn:List Str} {rv kv:Bsc} {t:Ts} {os:Z4} (h:∀ o ∈ os,KpO cn pn o):∀ n,KpO cn pn (whileO rv kv t os n)
 | 0,k,σ,k',σ',O,e=>by rw [whileO] at e; cases e
 | n+1,k,σ,k',σ',O,e=>by
  rw [whileO] at e
  split at e
  ·cases e
  ·cases e; exact ⟨O,rfl⟩
  ·cases e1:runRows os k σ with
   | ok k1 σ1=>
    rw [e1] at e
    have h1:=kp_rows h _ _ _ _ O e1
    dsimp only at e
    split at e
    ·cases e
    ·have h2:=Qy h n _ _ _ _ h1.1 e
     exact ⟨h2.1,h2.2.trans h1.2⟩
   | fault w=>rw [e1] at e; cases e
   | unread w=>rw [e1] at e; cases e
mutual
theorem ZgK {rv kv:Bsc} {ns ks cn pn:List Str} (nd:pn.Nodup):∀ {n:Nat} {r:Rw},ZK ns ks cn pn n r→KpO cn pn (rwO rv kv r)
 | n,.set x s,h=>by
  rw [ZK] at h
  rw [rwO]
  intro k σ k' σ' O e
  unfold setO at e
  split at e
  ·rename_i v hv
   cases e
   exact ⟨O.put h.1 (evS_lim O.cl O.pl h.2.1 hv),rfl⟩
  ·cases e
 | n,.say s,h=>by
  rw [rwO]
  intro k σ k' σ' O e
  unfold sayO at e
  split at e
  ·split at e
   ·cases e
   ·rename_i h1
    cases e
    exact ⟨O.say h1,rfl⟩
  ·cases e
 | n,.pay g t s,h=>by
  rw [ZK] at h
  rw [rwO]
  intro k σ k' σ' O e
  unfold payO at e
  split at e
  ·rename_i v hv
   split at e
   ·rename_i hc
    cases e
    obtain ⟨pg,eg⟩:=O.hp g h.1
    rw [eg,Option.getD_some] at hc ⊢
    have k1:(putA σ.purses g (pg - v)).map (·.1)=pn:=by rw [Xf (by rw [O.pk]; exact h.1),O.pk]
    obtain ⟨w,ew⟩:=Wr (a:=putA σ.purses g (pg - v)) (x:=t) (by rw [k1]; exact h.2.1)
    rw [ew,Option.getD_some]
    refine ⟨O.pay nd h.1 h.2.1 eg hc.1 hc.2 ew,?_⟩
    show ((putA (putA σ.purses g (pg - v)) t (w+v)).map (·.2)).sum=_
    rw [YY (by rw [k1]; exact nd) ew,YY (by rw [O.pk]; exact nd) eg]
    show _=(σ.purses.map (·.2)).sum
    omega
   ·cases e
  ·cases e
 | 0,.ifs _ _ _,h=>by rw [ZK] at h; exact h.elim
 | n+1,.ifs t a b,h=>by
  rw [ZK] at h
  rw [rwO]
  intro k σ k' σ' O e
  unfold ifO at e
  split at e
  ·exact kp_rows (kp_rws nd h.2.2.1) _ _ _ _ O e
  ·exact kp_rows (kp_rws nd h.2.2.2) _ _ _ _ O e
  ·cases e
 | 0,.whl _ _,h=>by rw [ZK] at h; exact h.elim
 | n+1,.whl t a,h=>by
  rw [ZK] at h
  rw [rwO]
  exact Qy (kp_rws nd h.2.2) _
theorem kp_rws {rv kv:Bsc} {ns ks cn pn:List Str} (nd:pn.Nodup):∀ {n:Nat} {a:Rws},RwsOk ns ks cn pn n a→∀ o ∈ rwsO rv kv a,KpO cn pn o
 | n,.nil,_=>fun o ho=>by rw [rwsO] at ho; cases ho
 | n,.cons r a,h=>fun o ho=>by
  rw [RwsOk] at h
  rw [rwsO] at ho
  rcases List.mem_cons.mp ho with rfl | ho
  ·exact ZgK nd h.1
  ·exact kp_rws nd h.2 o ho
end
theorem Qt {ns:List Str} {kv:Bsc} {a:Rws} {σ:St} {f:List Bool}:σ.tape <+: (fkE ns kv a σ f).2.tape:=by
 unfold fkE
 cases e:deedO (rwsO (ns.zip f) kv a) σ with
 | ok k' σ'=>exact tap_rows (tap_rws a) _ _ _ _ e
 | fault w=>exact List.prefix_refl _
 | unread x=>exact List.prefix_refl _
theorem Ur {ns:List Str} {a:Rws} {way:Str} {W:List (List Bool)} {U:List Bool→St} {f:List Bool}:(U f).tape <+: (lawU ns a way W U f).tape:=by
 unfold lawU
 split
 ·exact Qt
 ·exact List.prefix_refl _
theorem JU {ns ks cn pn:List Str} {kv:Bsc} {a:Rws} {σ:St} {f:List Bool} {m:Nat} (nd:pn.Nodup) (o:RwsOk ns ks cn pn m a) (O:OkSt cn pn σ):Za0 (fkE ns kv a σ f).2=Za0 σ:=by
 unfold fkE
 cases e:deedO (rwsO (ns.zip f) kv a) σ with
 | ok k' σ'=>exact (kp_rows (kp_rws nd o) _ _ _ _ O e).2
 | fault w=>rfl
 | unread x=>rfl
theorem Jb {ns ks cn pn:List Str} {a:Rws} {way:Str} {W:List (List Bool)} {U:List Bool→St} {f:List Bool} {m:Nat} (nd:pn.Nodup) (o:RwsOk ns ks cn pn m a) (O:OkSt cn pn (U f)):Za0 (lawU ns a way W U f)=Za0 (U f):=by
 unfold lawU
 split
 ·exact JU nd o O
 ·rfl
def KH (W:List (List Bool)) (U:List Bool→St) (W':List (List Bool)) (U':List Bool→St):Prop:=∀ f ∈ W',f ∈ W∧(U f).tape <+: (U' f).tape∧Za0 (U' f)=Za0 (U f)
theorem KH.rfl {W:List (List Bool)} {U:List Bool→St}:KH W U W U:=fun f hf=>⟨hf,List.prefix_refl _,Eq.refl _⟩
theorem KH.filter {W:List (List Bool)} {U:List Bool→St} {p:List Bool→Bool}:KH W U (W.filter p) U:=fun f hf=>⟨(List.mem_filter.mp hf).1,List.prefix_refl _,Eq.refl _⟩
theorem KH.deed {ns ks cn pn:List Str} {a:Rws} {way:Str} {W:List (List Bool)} {U:List Bool→St} {m:Nat} (nd:pn.Nodup) (o:RwsOk ns ks cn pn m a) (ok:Y1 cn pn W U):KH W U W (lawU ns a way W U):=fun f hf=>⟨hf,Ur,Jb nd o (ok f hf).1⟩
theorem KH.trans {W W1 W2:List (List Bool)} {U U1 U2:List Bool→St} (h:KH W U W1 U1) (h':KH W1 U1 W2 U2):KH W U W2 U2:=fun f hf=>⟨(h f (h' f hf).1).1,(h f (h' f hf).1).2.1.trans (h' f hf).2.1,(h' f hf).2.2.trans (h f (h' f hf).1).2.2⟩
inductive Eh where
 | deed (way:Str) (a:Rws) (dn:Bool) (kn:Bsc) | news (x:Str) (b:Bool) | tie (qs:List (Str × Bool)) | heard (x:Str) (is:List Int) (gs:List (List Bool))
def ehD:Eh→Ent
 | .deed w a dn kn=>.deed w (rwsD a) dn kn
 | .news x b=>.news x b
 | .tie qs=>.tie qs
 | .heard x is gs=>.heard x (is.map D.int) gs
def ehO (rv:Bsc):Eh→Option Z4
 | .deed _ a true kn=>some (rwsO rv kn a)
 | _=>none
def Zcx (ns cn pn:List Str) (ea:Qe):Eh→Prop
 | .deed way a _ kn=>(way = "must" ∨ way = "may")∧(kn.map (·.1)).Nodup∧(∀ x ∈ kn.map (·.1),x ∈ cn)∧RwsOk ns (kn.map (·.1)) cn pn 4 a
 | .news x _=>x ∈ ns
 | .tie qs=>List.Sublist (qs.map (·.1)) ns∧qs.length≤4
 | .heard x _ gs=>(∃ few,ea.lookup x=some few∧few.length≤3∧(∀ y ∈ few,y ∈ ns)∧∀ g ∈ gs,g.length=few.length)
def ZcL (ns cn pn:List Str) (ea:Qe) (W:List (List Bool)) (U:List Bool→St):Eh→Prop
 | .deed way a true kn=>lawB ns a way W U=true∧kn=lawV a W U∧V6 ns cn pn (.deed way a)
 | .heard x is gs=>∀ few,ea.lookup x=some few→gs=ZgW ns few W U is
 | _=>True
def ZcK (ns cn pn:List Str) (ea:Qe) (d:D) (p:List Bool→Bool) (W:List (List Bool)) (U:List Bool→St):Prop:=∃ e,d=entD (ehD e)∧Zcx ns cn pn ea e∧(∀ rv,ehO rv e=none)∧(∀ f ∈ W,p f=keepE ns ea f (ehD e))∧ZcL ns cn pn ea W U e
inductive Stp (ns cn pn:List Str) (ea:Qe) (bk:List D) (P:List Mom) (now:Mom) (W:List (List Bool)) (U:List Bool→St):List D→List Mom→Mom→List (List Bool)→(List Bool→St)→Prop
 | none:Stp ns cn pn ea bk P now W U bk P now W U
 | some {e:Eh} {now':Mom} {U':List Bool→St}:Zcx ns cn pn ea e→(∀ f ∈ W,U' f=after1 (ehO (ns.zip f) e) (U f))→ZcL ns cn pn ea W U e→Stp ns cn pn ea bk P now W U (bk++[entD (ehD e)]) (P++[now]) now' (W.filter fun f=>keepE ns ea f (ehD e)) U'
theorem Stp.less {ns cn pn:List Str} {ea:Qe} {bk:List D} {P:List Mom} {now now':Mom} {W:List (List Bool)} {U:List Bool→St} {d:D} {p:List Bool→Bool} (h:ZcK ns cn pn ea d p W U):Stp ns cn pn ea bk P now W U (bk++[d]) (P++[now]) now' (W.filter p) U:=by
 obtain ⟨e,rfl,ok,no,hp,hn⟩:=h
 rw [List.filter_congr hp]
 exact .some ok (fun f _=>by rw [no]; rfl) hn
theorem Stp.deed {ns cn pn:List Str} {ea:Qe} {bk:List D} {P:List Mom} {now now':Mom} {W:List (List Bool)} {U:List Bool→St} {way:Str} {a:Rws} {m:Nat} (hw:way = "must" ∨ way = "may") (o:RwsOk ns cn cn pn m a) (hm:m≤4) (wo:V6 ns cn pn (.deed way a)) :
  Stp ns cn pn ea bk P now W U (bk++[ZfP way a (lawB ns a way W U) (lawV a W U)]) (P++[now]) now' W (lawU ns a way W U):=by
 have ks:(lawV a W U).map (·.1)=knC a:=by
  unfold lawV
  rw [List.map_map]
  exact List.map_id _
 have ok2:RwsOk ns ((lawV a W U).map (·.1)) cn pn m a:=rwsOk_known o fun p hp e=>by
  rw [ks]
  refine NDS.mem_sortT.mpr (mem_selW.mpr ⟨_,List.mem_singleton.mpr rfl,?_⟩)
  rw [← e]
  exact hp
 have km:∀ x ∈ knC a,x ∈ cn:=fun x hx=>by
  obtain ⟨w,hw,h⟩:=mem_selW.mp (NDS.mem_sortT.mp hx)
  obtain rfl:=List.mem_singleton.mp hw
  exact (nmL_in o _ h).2.2.1 rfl
 have h:=Stp.some (ns:=ns) (cn:=cn) (pn:=pn) (ea:=ea) (bk:=bk) (P:=P) (now:=now) (now':=now') (W:=W) (U:=U) (e:=.deed way a (lawB ns a way W U) (lawV a W U)) (U':=lawU ns a way W U) ⟨hw,by rw [ks]; exact Jk _,by rw [ks]; exact km,rwsOk_up ok2 hm⟩ fun f _=>by
  unfold lawU
  cases hb:lawB ns a way W U with
  | false=>rfl
  | true=>
   rw [if_pos rfl]
   unfold fkE
   show (endW _ _).2=after1 (Option.some (rwsO (ns.zip f) (lawV a W U) a)) (U f)
   unfold endW after1
   dsimp only
   cases deedO (rwsO (ns.zip f) (lawV a W U) a) (U f) <;> rfl
 have e:(W.filter fun f=>keepE ns ea f (ehD (.deed way a (lawB ns a way W U) (lawV a W U))))=W:=List.filter_eq_self.mpr fun f _=>rfl
 rw [e] at h
 refine h ?_
 cases hb:lawB ns a way W U with
 | false=>trivial
 | true=>exact ⟨hb,rfl,wo⟩
section
variable {ns cs:List Str} {ps:Asc} {ea:List (Str × List Str)} {n h en i:Nat} {own:Nat→Prop} {ec pc:Nat} {bk:List D} {P:List Mom} {now:Mom} {W:List (List Bool)} {U:List Bool→NA.St} {st:List Bool→D} {S:Za}
theorem InvW.gr {S':Za} (I:InvW ns cs ps ea n h en i own ec pc bk P now W U st S) (g:Gr S S'):InvW ns cs ps ea n h en i own ec pc bk P now W U st S':=
 ⟨I.H.keep fun j hj=>g.2 j (I.ol j hj),fun j hj=>Nat.lt_of_lt_of_le (I.ol j hj) g.1,by
  obtain ⟨g0,y0,hx,h1⟩:=I.bag
  exact ⟨g0,y0,g.at hx,h1⟩,I.no,I.eo,I.ne,g.at I.ent,I.wne,I.wsub,I.sts.gr g,I.sx,I.link,I.ok,I.lcp,I.bl,I.pl,I.sh⟩
end
theorem Y5 {cn pn pn':List Str} (h:∀ x ∈ pn,x ∈ pn'):∀ {s:Sm},Vg cn pn s→Vg cn pn' s
 | .cell x,o=>o
 | .num i,o=>o
 | .purse x,o=>h x o
 | .op s a b,o=>⟨o.1,Y5 h o.2.1,Y5 h o.2.2⟩
theorem W6 {ns ks cn pn pn':List Str} (h:∀ x ∈ pn,x ∈ pn'):∀ {t:Ts},Vh ns ks cn pn t→Vh ns ks cn pn' t
 | .news x,o=>o
 | .knw x,o=>o
 | .cmp w a b,o=>⟨o.1,⟨Y5 h o.2.1.1,o.2.1.2⟩,Y5 h o.2.2.1,o.2.2.2⟩
 | .nt t,o=>W6 (t:=t) h o
 | .both t u,o=>⟨W6 h o.1,W6 h o.2⟩
mutual
theorem Zch {ns ks cn pn pn':List Str} (hp:∀ x ∈ pn,x ∈ pn'):∀ {n:Nat} {r:Rw},ZK ns ks cn pn n r→ZK ns ks cn pn' n r
 | n,.set x s,h=>by rw [ZK] at h ⊢; exact ⟨h.1,Y5 hp h.2.1,h.2.2⟩
 | n,.say s,h=>by rw [ZK] at h ⊢; exact ⟨Y5 hp h.1,h.2⟩
 | n,.pay g t s,h=>by rw [ZK] at h ⊢; exact ⟨hp _ h.1,hp _ h.2.1,Y5 hp h.2.2.1,h.2.2.2⟩
 | 0,.ifs _ _ _,h=>by rw [ZK] at h; exact h.elim
 | n+1,.ifs t a b,h=>by
  rw [ZK] at h ⊢
  exact ⟨W6 hp h.1,h.2.1,rwsOk_pn hp h.2.2.1,rwsOk_pn hp h.2.2.2⟩
 | 0,.whl _ _,h=>by rw [ZK] at h; exact h.elim
 | n+1,.whl t a,h=>by
  rw [ZK] at h ⊢
  exact ⟨W6 hp h.1,h.2.1,rwsOk_pn hp h.2.2⟩
theorem rwsOk_pn {ns ks cn pn pn':List Str} (hp:∀ x ∈ pn,x ∈ pn'):∀ {n:Nat} {a:Rws},RwsOk ns ks cn pn n a→RwsOk ns ks cn pn' n a
 | n,.nil,h=>by rw [RwsOk]; trivial
 | n,.cons r a,h=>by
  rw [RwsOk] at h ⊢
  exact ⟨Zch hp h.1,rwsOk_pn hp h.2⟩
end
theorem V6.pn {ns cs pn pn':List Str} (hp:∀ x ∈ pn,x ∈ pn'):∀ {w:Wish},V6 ns cs pn w→V6 ns cs pn' w
 | .deed way a,h=>by
  obtain ⟨hw,c,hd,ok,r⟩:=h
  exact ⟨hw,c,hd,rwsOk_pn hp ok,r⟩
 | .news y b,h=>h
 | .tie qs,h=>h
theorem InvW.ext {ns cs:List Str} {ps:Asc} {ea:List (Str × List Str)} {n h en i:Nat} {own:Nat→Prop} {ec pc:Nat} {bk:List D} {P:List Mom} {now:Mom} {W:List (List Bool)} {U:List Bool→NA.St} {st:List Bool→D} {S S':Za} (I:InvW ns cs ps ea n h en i own ec pc bk P now W U st S) (x:Ext n S S') (b:Bag S' n):InvW ns cs ps ea n h en i own ec pc bk P now W U st S':=
 ⟨I.H.keep fun j hj=>x.2 j (I.ol j hj) fun e=>I.no (e ▸ hj),fun j hj=>Nat.lt_of_lt_of_le (I.ol j hj) x.1,b,I.no,I.eo,I.ne,(x.2 _ (List.getElem?_eq_some_iff.mp I.ent).1 I.ne).trans I.ent,I.wne,I.wsub,I.sts.keep I.sx fun j hj hl=>x.2 j hl hj.2.1,I.sx,I.link,I.ok,I.lcp,I.bl,I.pl,I.sh⟩
section
theorem Qj {α β:Type} {f:α→β} {xs:List α} {lo hi:Option Int}:cut (xs.map f) lo hi=(cut xs lo hi).map f:=by
 unfold cut
 rw [List.length_map,List.map_take,List.map_drop]
end
@[simp] theorem ZdI {m mo:EM} {ml mh:OM} {τ:DSt} {S:Za} {ER:Str→List (Str × D)→DSt→Za→Prop} {PR:ND.Flow→Za→Prop}:EvR (sSlPut m mo ml mh τ S) ER PR=Ev (m τ) S (fun C fs S'=>ER C fs τ S') fun z S1=>Ev (mo τ) S1 (fun C fs S'=>ER C fs τ S') fun x S2=>Ev (ml τ) S2 (fun C fs S'=>ER C fs τ S') fun lo S3=>Ev (mh τ) S3 (fun C fs S'=>ER C fs τ S') fun hi S4=>Ev (slPut z x lo hi) S4 (fun C fs S'=>ER C fs τ S') fun _ S5=>PR (.nx τ) S5:=by
 unfold sSlPut; simp only [Yn,Ze,X0]
theorem Qq {S:Za} {E:XP} {Q:D→Za→Prop} {a:Str} {ys:List Str} (h:(ys.map (·.length)).sum+ys.length * a.length≤16777216) (q:Q (.str (Txt.join a ys)) S):Ev (joinD (.str a) [.lst (ys.map D.str)]) S E Q:=by
 have e:strsOf (ys.map D.str)=some ys:=by
  clear h q
  induction ys with
  | nil=>rfl
  | cons y ys ih=>
   rw [List.map_cons,strsOf,ih]
   rfl
 unfold Ev joinD
 simp only [dr,e]
 rw [if_pos h]
 exact q
inductive Li1 (cs:List Str):Rw→Prop
 | setN {x:Str} {i:Int}:x ∈ cs→0≤i→i < 4→Li1 cs (.set x (.num i))
 | sayN {i:Int}:0≤i→i < 4→Li1 cs (.say (.num i))
 | sayC {x:Str}:x ∈ cs→Li1 cs (.say (.cell x))
 | inc {x:Str}:x ∈ cs→Li1 cs (.set x (.op "+" (.cell x) (.num 1)))
 | pay {i:Int}:0≤i→i < 4→Li1 cs (.pay "p" "q" (.num i))
inductive LiT (ns cs ks:List Str):Ts→Prop
 | known {x:Str}:x ∈ ks→x ∈ cs→LiT ns cs ks (.knw x)
 | same {x:Str} {i:Int}:x ∈ cs→0≤i→i < 4→LiT ns cs ks (.cmp "same" (.cell x) (.num i))
 | purse:LiT ns cs ks (.cmp "above" (.purse "p") (.num 2))
 | above {x:Str}:x ∈ cs→LiT ns cs ks (.cmp "above" (.cell x) (.num 0))
 | news {y:Str}:y ∈ ns→LiT ns cs ks (.news y)
inductive Lin (ns cs ks:List Str):Nat→Rws→Prop
 | one {n:Nat} {r:Rw}:Li1 cs r→Lin ns cs ks n (.cons r .nil)
 | ifs {n:Nat} {t:Ts} {r:Rw} {b:Rws}:LiT ns cs ks t→Li1 cs r→Lin ns cs ks n b→Lin ns cs ks (n+1) (.cons (.ifs t (.cons r .nil) b) .nil)
structure PQ (pn:List Str):Prop where
 p:("p" : Str) ∈ pn
 q:("q" : Str) ∈ pn
 np:isN (.str "p")=true
 nq:isN (.str "q")=true
section
variable {ns cs ks pn:List Str}
theorem Li1.row {r:Rw} (h:Li1 cs r) (cN:∀ x ∈ cs,isN (.str x)=true) (P:PQ pn) (n:Nat):RowD n 1 (rwD r):=by
 cases h with
 | setN hx h0 h1=>exact .set (cN _ hx) (.num (by omega) (by omega))
 | sayN h0 h1=>exact .say (.num (by omega) (by omega))
 | sayC hx=>exact .say (.cell (cN _ hx))
 | inc hx=>exact .set (cN _ hx) (.op (.inl rfl) (.cell (cN _ hx)) (.num (by omega) (by omega)))
 | pay h0 h1=>exact .pay P.np P.nq (.num (by omega) (by omega))
theorem Li1.ok {r:Rw} (h:Li1 cs r) (P:PQ pn) (ks:List Str) (n:Nat):ZK ns ks cs pn n r:=by
 cases h with
 | setN hx h0 h1=>rw [ZK]; exact ⟨hx,⟨by omega,by omega⟩,by simp [Sm.dep]⟩
 | sayN h0 h1=>rw [ZK]; exact ⟨⟨by omega,by omega⟩,by simp [Sm.dep]⟩
 | sayC hx=>rw [ZK]; exact ⟨hx,by simp [Sm.dep]⟩
 | inc hx=>rw [ZK]; exact ⟨hx,⟨.inl rfl,hx,by omega,by omega⟩,by simp [Sm.dep]⟩
 | pay h0 h1=>rw [ZK]; exact ⟨P.p,P.q,⟨by omega,by omega⟩,by simp [Sm.dep]⟩
theorem LiT.test {t:Ts} (h:LiT ns cs ks t) (nN:∀ x ∈ ns,isN (.str x)=true) (cN:∀ x ∈ cs,isN (.str x)=true) (P:PQ pn):TestD 3 (tsD t):=by
 cases h with
 | known _ hx=>exact .known (cN _ hx)
 | above hx=>exact .cmp (.inl rfl) (.cell (cN _ hx)) (.num (by omega) (by omega))
 | same hx h0 h1=>exact .cmp (.inr rfl) (.cell (cN _ hx)) (.num (by omega) (by omega))
 | purse=>exact .cmp (.inl rfl) (.purse P.np) (.num (by omega) (by omega))
 | news hy=>exact .news (nN _ hy)
theorem LiT.ok {t:Ts} (h:LiT ns cs ks t) (P:PQ pn):Vh ns ks cs pn t∧t.dep≤8∧Jr t∧t.dep≤3:=by
 cases h with
 | known hk hx=>simp [Vh,Ts.dep,Jr,hk]
 | above hx=>simp [Vh,Ts.dep,Jr,Vg,Sm.dep,hx]
 | same hx h0 h1=>refine ⟨?_,?_⟩ <;> simp [Vh,Ts.dep,Jr,Vg,Sm.dep,hx]; omega
 | purse=>simp [Vh,Ts.dep,Jr,Vg,Sm.dep,P.p]
 | news hy=>simp [Vh,Ts.dep,Jr,hy]
theorem Lin.len {n:Nat} {a:Rws} (h:Lin ns cs ks n a):(rwsD a).length=1:=by cases h <;> simp [rwsD]
theorem Lin.rows {n:Nat} {a:Rws} (h:Lin ns cs ks n a) (nN:∀ x ∈ ns,isN (.str x)=true) (cN:∀ x ∈ cs,isN (.str x)=true) (P:PQ pn):∀ {k:Nat},n≤k→∃ c,c≤1+2 * n∧RowsD k c (rwsD a):=by
 induction h with
 | one h=>exact fun _=>⟨1,by omega,.cons (a:=1) (b:=0) (h.row cN P _) .nil⟩
 | @ifs n t r b ht hr hb ih=>
  intro k hk
  obtain ⟨k,rfl⟩:∃ j,k=j+1:=⟨k - 1,by omega⟩
  obtain ⟨c,hc,hd⟩:=ih (k:=k) (by omega)
  have h1:RowsD k 1 [rwD r]:=.cons (a:=1) (b:=0) (hr.row cN P _) .nil
  exact ⟨1+1+c+0,by omega,.cons (.ifs (ht.test nN cN P) (by rw [rwsD,rwsD]; exact h1) hd (by simp [rwsD]) (by rw [hb.len]; omega)) .nil⟩
theorem Lin.ok {n:Nat} {a:Rws} (h:Lin ns cs ks n a) (P:PQ pn):∀ {k:Nat},n≤k→RwsOk ns ks cs pn k a:=by
 induction h with
 | one h=>exact fun _=>by rw [RwsOk,RwsOk]; exact ⟨h.ok P _ _,trivial⟩
 | @ifs n t r b ht hr hb ih=>
  intro k hk
  obtain ⟨k,rfl⟩:∃ j,k=j+1:=⟨k - 1,by omega⟩
  obtain ⟨h1,h2,_⟩:=ht.ok P
  rw [RwsOk,RwsOk,ZK,RwsOk,RwsOk]
  exact ⟨⟨h1,h2,⟨hr.ok P _ _,trivial⟩,ih (by omega)⟩,trivial⟩
end
section
variable {S:Za} {E:XP} {Q:D→Za→Prop} {τ:DSt}
@[simp] theorem ZcB {m:EM}:Ev (mSortIt m τ) S E Q=Ev (m τ) S E fun x S1=>Ev (isK "dict" x) S1 E fun _ S2=>Ev (sortItD x) S2 E Q:=by
 unfold mSortIt; simp only [Ze]
end
def BkH (S:Za) (d:D) (bk:List Ent):Prop:=d = .lst (bk.map entD)∨∃ n,d = .cel n∧S[n]? = some (.lst (bk.map entD))
theorem BkH.gr {S S':Za} {d:D} {bk:List Ent} (h:BkH S d bk) (g:Gr S S'):BkH S' d bk:=by
 rcases h with rfl | ⟨n,rfl,h⟩
 ·exact .inl rfl
 ·exact .inr ⟨n,rfl,g.at h⟩
def ZfE (ns cn pn:List Str) (ps:Asc) (ea:Qe) (bk:List D) (W:List (List Bool)) (U:List Bool→NA.St):Prop:=∃ es:List Eh,bk=(es.map ehD).map entD∧(∀ e ∈ es,Zcx ns cn pn ea e)∧∀ f ∈ W,after (es.map (ehO (ns.zip f))) ⟨[],ps,[]⟩=U f
theorem ZfE.step {ns cn pn:List Str} {ps:Asc} {ea:Qe} {bk bk':List D} {P P':List Mom} {now now':Mom} {W W':List (List Bool)} {U U':List Bool→NA.St} (I:ZfE ns cn pn ps ea bk W U) (s:Stp ns cn pn ea bk P now W U bk' P' now' W' U'):ZfE ns cn pn ps ea bk' W' U':=by
 cases s with
 | none=>exact I
 | some ok hu hn=>
  rename_i e
  obtain ⟨es,rfl,h1,h2⟩:=I
  refine ⟨es++[e],by simp,fun x hx=>?_,fun f hf=>?_⟩
  ·rcases List.mem_append.mp hx with hx | hx
   ·exact h1 x hx
   ·rw [List.mem_singleton.mp hx]; exact ok
  ·have hf:=(List.mem_filter.mp hf).1
   rw [hu f hf,← h2 f hf,List.map_append]
   unfold after
   rw [List.foldl_append]
   rfl
section
variable {S:Za} {E:XP} {Q:D→Za→Prop} {τ:DSt}
@[simp] theorem ZcA {m:EM}:Ev (mListVa m τ) S E Q=Ev (m τ) S E fun x S1=>Ev (isK "dict" x) S1 E fun _ S2=>Ev (listVaD x) S2 E Q:=by
 unfold mListVa; simp only [Ze]
end
def ZfF (ns cn pn:List Str) (ps:Asc) (ea:Qe) (bk:List D) (W:List (List Bool)) (U:List Bool→NA.St):Prop:=∃ es:List Eh,bk=(es.map ehD).map entD∧(∀ e ∈ es,Zcx ns cn pn ea e)∧(∀ f ∈ W,after (es.map (ehO (ns.zip f))) ⟨[],ps,[]⟩=U f)∧W=(fills ns.length).filter (keepAll ns ea (es.map ehD))
theorem ZfF.step {ns cn pn:List Str} {ps:Asc} {ea:Qe} {bk bk':List D} {P P':List Mom} {now now':Mom} {W W':List (List Bool)} {U U':List Bool→NA.St} (I:ZfF ns cn pn ps ea bk W U) (s:Stp ns cn pn ea bk P now W U bk' P' now' W' U'):ZfF ns cn pn ps ea bk' W' U':=by
 cases s with
 | none=>exact I
 | some ok hu hn=>
  rename_i e
  obtain ⟨es,rfl,h1,h2,h3⟩:=I
  refine ⟨es++[e],by simp,fun x hx=>?_,fun f hf=>?_,?_⟩
  ·rcases List.mem_append.mp hx with hx | hx
   ·exact h1 x hx
   ·rw [List.mem_singleton.mp hx]; exact ok
  ·have hf:=(List.mem_filter.mp hf).1
   rw [hu f hf,← h2 f hf,List.map_append]
   unfold after
   rw [List.foldl_append]
   rfl
  ·rw [h3,List.filter_filter]
   refine List.filter_congr fun f _=>?_
   unfold keepAll
   rw [List.map_append,List.all_append]
   simp [Bool.and_comm]
theorem pqN:Names ["p", "q"]:=⟨by
 intro x hx
 have:x = "p" ∨ x = "q" := by simpa using hx
 rcases this with rfl | rfl
 ·exact ⟨by unfold ZfH; decide,by decide,by decide⟩
 ·exact ⟨by unfold ZfH; decide,by decide,by decide⟩,by decide⟩
theorem PQ.ps {j:Int}:PQ (([("p",3),("q",j)]:Asc).map (·.1)):=⟨List.mem_cons_self,List.mem_cons_of_mem _ List.mem_cons_self,names_isN pqN _ List.mem_cons_self,names_isN pqN _ (List.mem_cons_of_mem _ List.mem_cons_self)⟩
theorem LaEars.cut {ns:List Str} {ea:List (Str × List Str)} (A:LaEars ns ea) (k:Nat):LaEars ns (ea.take k):=by
 have s:List.Sublist ((ea.take k).map (·.1)) (ea.map (·.1)):=(List.take_sublist _ _).map _
 exact ⟨fun p hp=>A.ok p (List.mem_of_mem_take hp),A.nd.sublist s,by have:=A.len; rw [List.length_take]; omega,⟨fun x hx=>A.nm.nm x (s.subset hx),A.nd.sublist s⟩,fun p hp=>A.sh p (List.mem_of_mem_take hp)⟩
section
variable {cn pn ns:List Str} {es:D} {ps:Asc} {own:Nat→Prop} {S:Za} {h ec pc:Nat} {bk:List D} {P:List Mom} {now:Mom}
def ZhZ (own:Nat→Prop) (h ec pc:Nat) (i:Nat):Prop:=own i∧i ≠ h∧i ≠ ec∧i ≠ pc
theorem MomAt.less {k:Nat} {p:Mom} (x:HouseAt cn pn ns es ps own S h ec pc bk P now) (hp:p=now∨p ∈ P) (m:MomAt cn pn k own S p) {own':Nat→Prop} (ho:∀ i,ZhZ own h ec pc i→own' i):MomAt cn pn k own' S p:=by
 have sp:=x.sep p hp
 refine ⟨m.at_,ho _ ⟨m.own_,ne_of_at m.at_ x.at_ (by intro e; injection e with e1; revert e1; decide),ne_of_at m.at_ x.en (by simp),ne_of_at m.at_ x.pa (by simp)⟩,?_,fun g hg=>?_,m.ne,m.dis⟩
 ·rcases m.said with e | ⟨c,e,o,y,y0⟩
  ·exact .inl e
  ·have:=sp.2 c e
   exact .inr ⟨c,e,ho _ ⟨o,ne_of_at y x.at_ (by simp),this.1,this.2⟩,y,y0⟩
 ·obtain ⟨o,a1,a2,a3,a4⟩:=m.gs g hg
  have A:=o.at_
  have nt:=sp.1 g hg
  exact ⟨o,ho _ ⟨a1,ne_of_at A.st x.at_ (by intro e; injection e with e1; revert e1; decide),ne_of_at A.st x.en (by simp),ne_of_at A.st x.pa (by simp)⟩,ho _ ⟨a2,ne_of_at A.ce x.at_ (by simp),ne_of_at A.ce x.en (by simp),ne_of_at A.ce x.pa (by simp)⟩,ho _ ⟨a3,ne_of_at A.pu x.at_ (by simp),ne_of_at A.pu x.en (by simp),ne_of_at A.pu x.pa (by simp)⟩,ho _ ⟨a4,ne_of_at A.ta x.at_ (by simp),nt.1,nt.2⟩⟩
end
inductive OutK:Out→Out→Prop
 | ok {k k':Nat} {σ:NA.St}:OutK (.ok k σ) (.ok k' σ)
 | fault {w:Str}:OutK (.fault w) (.fault w)
 | unread {x:Str}:OutK (.unread x) (.unread x)
theorem XT {rv kv:Bsc} {r:Rw} {k:Nat} {σ:NA.St} (hk:k < 80):runRows (rwsO rv kv (.cons r .nil)) k σ=rwO rv kv r (k+1) σ:=by
 rw [rwsO,rwsO,runRows,if_neg (by omega)]
 cases rwO rv kv r (k+1) σ <;> rfl
theorem Li1.steps {cs:List Str} {r:Rw} (h:Li1 cs r) (rv kv:Bsc) (k k':Nat) (σ:NA.St):OutK (rwO rv kv r k σ) (rwO rv kv r k' σ):=by
 cases h with
 | setN hx h0 h1=>rw [rwO,setO,setO]; split <;> constructor
 | sayN h0 h1=>
  rw [rwO,sayO,sayO]; split; · split <;> constructor
  ·constructor
 | sayC hx=>
  rw [rwO,sayO,sayO]; split; · split <;> constructor
  ·constructor
 | inc hx=>rw [rwO,setO,setO]; split <;> constructor
 | pay h0 h1=>
  rw [rwO,payO,payO]; split; · split <;> constructor
  ·constructor
theorem Lin.steps {ns cs ks:List Str} {n:Nat} {a:Rws} (h:Lin ns cs ks n a) (rv kv:Bsc):∀ {k k':Nat} {σ:NA.St},k+n < 79→k'+n < 79→OutK (runRows (rwsO rv kv a) k σ) (runRows (rwsO rv kv a) k' σ):=by
 induction h with
 | one h=>intro k k' σ h1 h2; rw [XT (by omega),XT (by omega)]; exact h.steps _ _ _ _ _
 | @ifs n t r b ht hr hb ih=>
  intro k k' σ h1 h2
  rw [XT (by omega),XT (by omega),rwO,ifO,ifO]
  split
  ·rw [XT (by omega),XT (by omega)]; exact hr.steps _ _ _ _ _
  ·exact ih (by omega) (by omega)
  ·constructor
def plT:Ts→Ts
 | .knw x=>.cmp "above" (.cell x) (.num 0)
 | t=>t
theorem LiT.plain {ns cs ks:List Str} {t:Ts} (h:LiT ns cs ks t):LiT ns cs [] (plT t):=by
 cases h with
 | known hk hx=>exact .above hx
 | above hx=>exact .above hx
 | same hx h0 h1=>exact .same hx h0 h1
 | purse=>exact .purse
 | news hy=>exact .news hy
section
variable {cs:List Str}
theorem Li1.head {r:Rw} (h:Li1 cs r):∃ w x,rwD r = .tup (.str w :: x)∧w ≠ "if" ∧ w ≠ Str.ofString "if" := by
 cases h <;> exact ⟨_,_,rfl,by decide,by decide⟩
end
structure HInv (ns cs:List Str) (ps:Asc) (ea:List (Str × List Str)) (m:Nat) (own:Nat→Prop) (h ec pc:Nat) (bk:List D) (P:List Mom) (now:Mom) (W:List (List Bool)) (U:List Bool→NA.St) (S:Za):Prop where
 H:HouseAt cs (ps.map (·.1)) ns (earsD ea) ps own S h ec pc bk P now
 ol:∀ j,own j→j < S.length
 wne:W ≠ []
 wsub:List.Sublist W (fills ns.length)
 link:LinkW ns.length W now.G U
 ok:Y1 cs (ps.map (·.1)) W U
 lcp:Lcp (W.map fun f=>(U f).tape) now.is
 bl:bk.length≤m
 pl:P.length≤m
def Frm (h ec pc:Nat) (S S':Za):Prop:=S.length≤S'.length∧∀ i,i < S.length→i ≠ h→i ≠ ec→i ≠ pc→S'[i]? = S[i]?
theorem Frm.gr {h ec pc:Nat} {S S':Za} (g:Gr S S'):Frm h ec pc S S':=⟨g.1,fun i hi _ _ _=>g.2 i hi⟩
section
variable {ns cs:List Str} {ps:Asc} {ea:List (Str × List Str)} {m:Nat} {own:Nat→Prop} {h ec pc:Nat} {bk:List D} {P:List Mom} {now:Mom} {W:List (List Bool)} {U:List Bool→NA.St} {S S':Za}
theorem HInv.keep (I:HInv ns cs ps ea m own h ec pc bk P now W U S) (l:S.length≤S'.length) (k:∀ i,own i→S'[i]? = S[i]?):HInv ns cs ps ea m own h ec pc bk P now W U S':=⟨I.H.keep k,fun j hj=>Nat.lt_of_lt_of_le (I.ol j hj) l,I.wne,I.wsub,I.link,I.ok,I.lcp,I.bl,I.pl⟩
theorem HInv.gr (I:HInv ns cs ps ea m own h ec pc bk P now W U S) (g:Gr S S'):HInv ns cs ps ea m own h ec pc bk P now W U S':=I.keep g.1 fun i hi=>g.2 i (I.ol i hi)
theorem HInv.okG (I:HInv ns cs ps ea m own h ec pc bk P now W U S):∀ g ∈ now.G,g.mask ≠ 0∧Low ns.length g.mask:=fun g hg=>by
 have o:=(I.H.mo.gs g hg).1
 exact ⟨o.ne,o.low⟩
end
section
variable {τ:DSt} {S:Za} {ER:Str→List (Str × D)→DSt→Za→Prop} {PR:ND.Flow→Za→Prop}
@[simp] theorem Zfi {m:EM} {t:Tg} {b:SM}:EvR (sForW m t b τ S) ER PR=Ev (m τ) S (fun C fs S'=>ER C fs τ S') fun d S'=>EvR (forW0 t b d τ S') ER PR:=by unfold sForW; simp
end
structure MomW (ns cs:List Str) (ps:Asc) (A:Mom) (W:List (List Bool)) (U:List Bool→NA.St):Prop where
 wne:W ≠ []
 wsub:List.Sublist W (fills ns.length)
 link:LinkW ns.length W A.G U
 ok:Y1 cs (ps.map (·.1)) W U
 lcp:Lcp (W.map fun f=>(U f).tape) A.is
section
variable {own:Nat→Prop} {S:Za}
theorem MomAt.okG {cn pn:List Str} {n:Nat} {A:Mom} (x:MomAt cn pn n own S A):∀ g ∈ A.G,g.mask ≠ 0∧Low n g.mask:=fun g hg=>by
 have o:=(x.gs g hg).1
 exact ⟨o.ne,o.low⟩
end
section
variable {S:Za} {E:XP} {Q:D→Za→Prop}
theorem JQ {xs:List D} {k:Nat} (hk:k≤1000) (hx:xs.length≤10):Ev (mulLD (.lst xs) (.int (k:Nat))) S E Q=Q (.lst (List.replicate k xs).flatten) S:=by
 unfold mulLD
 rw [ZN]
 simp
 intro h
 omega
end
inductive Pst (ns cs:List Str) (ps:Asc) (ea:List (Str × List Str)):List Eh→List Mom→List (List Bool)→(List Bool→NA.St)→Prop
 | nil:Pst ns cs ps ea [] [] (fills ns.length) fun _=>⟨[],ps,[]⟩
 | snoc {es:List Eh} {P:List Mom} {W W':List (List Bool)} {U U':List Bool→NA.St} {A:Mom} {e:Eh}:Pst ns cs ps ea es P W U→MomW ns cs ps A W U→Zcx ns cs (ps.map (·.1)) ea e→(∀ f ∈ W',U' f=after1 (ehO (ns.zip f) e) (U f))→W'=W.filter (fun f=>keepE ns ea f (ehD e))→Pst ns cs ps ea (es++[e]) (P++[A]) W' U'
abbrev bkE (es:List Eh):List D:=(es.map ehD).map entD
section
variable {ns cs:List Str} {ps:Asc} {ea:List (Str × List Str)} {m:Nat} {own:Nat→Prop} {h ec pc:Nat} {es:List Eh} {P:List Mom} {now:Mom} {W:List (List Bool)} {U:List Bool→NA.St} {S S':Za}
theorem Pst.ok (p:Pst ns cs ps ea es P W U):(∀ e ∈ es,Zcx ns cs (ps.map (·.1)) ea e)∧(∀ f ∈ W,after (es.map (ehO (ns.zip f))) ⟨[],ps,[]⟩=U f)∧W=(fills ns.length).filter (keepAll ns ea (es.map ehD))∧P.length=es.length:=by
 induction p with
 | nil=>exact ⟨by simp,fun f _=>rfl,(List.filter_eq_self.mpr fun f _=>rfl).symm,rfl⟩
 | @snoc es P W W' U U' A e p M ok hu hw ih=>
  obtain ⟨i1,i2,i3,i4⟩:=ih
  refine ⟨fun x hx=>?_,fun f hf=>?_,?_,by simp [i4]⟩
  ·rcases List.mem_append.mp hx with hx | hx
   ·exact i1 x hx
   ·obtain rfl:=List.mem_singleton.mp hx; exact ok
  ·have hf':f ∈ W:=by rw [hw] at hf; exact (List.mem_filter.mp hf).1
   rw [hu f hf,List.map_append,List.map_singleton]
   unfold after
   rw [List.foldl_append]
   show after1 _ (after _ _)=_
   rw [i2 f hf']
  ·rw [hw,i3,List.filter_filter]
   refine List.filter_congr fun f _=>?_
   unfold keepAll
   rw [List.map_append,List.all_append,Bool.and_comm]
   simp
structure HG (ns cs:List Str) (ps:Asc) (ea:List (Str × List Str)) (m:Nat) (own:Nat→Prop) (h ec pc:Nat) (es:List Eh) (P:List Mom) (now:Mom) (W:List (List Bool)) (U:List Bool→NA.St) (S:Za):Prop where
 I:HInv ns cs ps ea m own h ec pc (bkE es) P now W U S
 p:Pst ns cs ps ea es P W U
theorem HG.keep (G:HG ns cs ps ea m own h ec pc es P now W U S) (l:S.length≤S'.length) (k:∀ i,own i→S'[i]? = S[i]?):HG ns cs ps ea m own h ec pc es P now W U S':=⟨G.I.keep l k,G.p⟩
theorem HG.gr (G:HG ns cs ps ea m own h ec pc es P now W U S) (g:Gr S S'):HG ns cs ps ea m own h ec pc es P now W U S':=⟨G.I.gr g,G.p⟩
end
section
variable {S:Za} {E:XP} {Q:D→Za→Prop} {τ:DSt}
def Jl (o:Option (Option D)) (S:Za) (Q:D→Za→Prop):Prop:=match o with
 | some (some .raw)=>False
 | some (some d)=>Q d S
 | _=>False
@[simp] theorem Zgq {i:Nat}:Ev (mVarR i τ) S E Q=Jl τ[i]? S Q:=by
 unfold Ev mVarR Jl
 generalize τ[i]? = o
 cases o with
 | none=>rfl
 | some o=>
  cases o with
  | none=>rfl
  | some d=>cases d <;> rfl
@[simp] theorem Zez {n:Nat}:Jl (some (some (.cel n))) S Q=Q (.cel n) S:=rfl
@[simp] theorem ZeA {n:Int}:Jl (some (some (.int n))) S Q=Q (.int n) S:=rfl
@[simp] theorem ZeC {xs:List D}:Jl (some (some (.tup xs))) S Q=Q (.tup xs) S:=rfl
@[simp] theorem ZeB {xs:List D}:Jl (some (some (.lst xs))) S Q=Q (.lst xs) S:=rfl
def ZgT (o:Option (Option D)) (p:Prop):Prop:=match o with
 | some (some .raw)=>p
 | _=>False
@[simp] theorem Zfv {p:Prop}:ZgT (some (some .raw)) p=p:=rfl
@[simp] theorem ZeL {i n:Nat} {fm:List D→M D} {ms:AM}:Ev (mCallR i n fm ms τ) S E Q=ZgT τ[i]? (Ev (ms τ) S E fun ds S1=>Ev (noErr (arity n fm ds)) S1 E Q):=by
 unfold mCallR ZgT
 generalize τ[i]? = o
 cases o with
 | none=>rfl
 | some o=>
  cases o with
  | none=>rfl
  | some d=>
   cases d <;> first | rfl | exact Ze _ _
def Zhk (o:Option (List D)) (p:List D→Prop):Prop:=match o with
 | some cs=>p cs
 | none=>False
@[simp] theorem Zdd {cs:List D} {p:List D→Prop}:Zhk (some cs) p=p cs:=rfl
@[simp] theorem Ze4 {C m:Str} {fq:(List D→M D)→List D→M D} {N:List Str} {js:List Nat} {me mo:EM}:Ev (mMethL C m fq N js me mo τ) S E Q=Ev (mo τ) S E fun x S1=>Ev (isObj C m x) S1 E fun _ S2=>Zhk (capD τ js) fun cs=>Ev (noErr (fq (fun ds=>noErr (me (startL N cs ds))) [x,.raw])) S2 E Q:=by
 unfold mMethL
 rw [Ze]
 refine congrArg _ ?_
 funext x S1
 rw [Ze]
 refine congrArg _ ?_
 funext _ S2
 generalize capD τ js=o
 cases o <;> rfl
end
theorem XG {n:Nat} {S:Za} {k:Int} {E:XP} {Q:D→Za→Prop} (h:Bag S n) (h0:0≤k) (h1:k≤11)
  (q:∀ ns S',Bag S' n→Onl n S S'→Names ns→(ns.length:Int)=k→Q (.tup (ns.map D.str)) S'):Ev (m_q26 [.cel n,.int k]) S E Q:=by
 unfold m_q26
 rw [Zl]
 unfold Zc1
 have z5:(5:Nat)≤sizeLine:=by rw [sizeLine_eq]; decide
 simp [startD,z5,tyNm,dr]
 refine ZC h (by decide) (by decide) fun r S1 b1 o1 r0 r1=>?_
 rw [YG]
 obtain ⟨d,hd,hm⟩:=YI (xs:=[D.int 0,D.int 0,D.int 1,D.int 2,D.int 7]) r0 (by show r < 5; omega)
 obtain ⟨m,rfl,hm7⟩:∃ m:Nat,d = .int (m:Int)∧m≤7:=by
  simp at hm
  rcases hm with rfl | rfl | rfl | rfl
  ·exact ⟨0,rfl,by decide⟩
  ·exact ⟨1,rfl,by decide⟩
  ·exact ⟨2,rfl,by decide⟩
  ·exact ⟨7,rfl,by decide⟩
 refine ⟨_,hd,?_⟩
 rw [ZS]
 refine ⟨by omega,?_⟩
 have z:0 < sizeLine∧11 < sizeLine∧100 < sizeLine:=by rw [sizeLine_eq]; decide
 refine ev_noErr (ev_compL (fun i acc S'=>Bag S' n∧Onl n S S'∧∃ cs:List Nat,acc=cs.map (fun c=>D.str ⟨#[c]⟩)∧cs.length=i∧∀ c ∈ cs,97≤c∧c≤122) (k:=0) ⟨b1,o1,[],rfl,rfl,by simp⟩ (fun i x acc S2 hx hi=>?_) (fun acc S2 hi=>?_))
 ·obtain ⟨b2,o2,cs,rfl,hcl,hcs⟩:=hi
  refine ⟨_,Zz,?_⟩
  have hi7:i < 7:=by
   have:=(List.getElem?_eq_some_iff.mp hx).1
   unfold intsD at this
   simp at this
   omega
  simp [wipeD]
  refine ZC b2 (by decide) (by decide) fun r S3 b3 o3 r0 r1=>?_
  rw [ZaD]
  obtain ⟨c,hc,hm⟩:=YI (xs:=(("abcdefghijklmnopqrstuvwxyz" : Str)).cps.toList) r0 (by rw [Zh0]; exact r1)
  refine ⟨c,hc,by omega,b3,o2.trans o3,cs++[c],by simp,by simp; omega,fun x hx=>?_⟩
  rcases List.mem_append.mp hx with hx | hx
  ·exact hcs x hx
  ·rw [List.mem_singleton.mp hx]; exact abc c hm
 ·obtain ⟨b2,o2,cs,rfl,hcl,hcs⟩:=hi
  have hl7:cs.length≤7:=by
   unfold intsD at hcl
   simp at hcl
   omega
  refine ZbL (by omega) ?_
  simp
  refine ZC b2 (by omega) (by omega) fun sp S3 b3 o3 sp0 sp1=>?_
  refine ZC b3 (by omega) (by omega) fun fi S4 b4 o4 fi0 fi1=>?_
  refine ⟨by omega,?_⟩
  refine ZC b4 (by omega) (by omega) fun y S5 b5 o5 y0 y1=>?_
  rw [YG]
  obtain ⟨d,hd,hm⟩:=YI (xs:=[D.int 1,D.int 3,D.int 5,D.int 25]) y0 (by show y < 4; omega)
  obtain ⟨pc,rfl,hpc⟩:∃ pc:Int,d = .int pc∧(pc=1∨pc=3∨pc=5∨pc=25):=by
   simp at hm
   rcases hm with rfl | rfl | rfl | rfl <;> exact ⟨_,rfl,by decide⟩
  refine ⟨_,hd,by omega,by omega,?_⟩
  have o:=((o2.trans o3).trans o4).trans o5
  have hsp:sp.toNat≤cs.length:=by omega
  have li:∀ k,(intsD 0 k).length=k:=fun k=>by unfold intsD; simp
  refine VG (ys:=(List.range k.toNat).map fun j:Nat=>D.str ⟨#[97+((fi+pc * (j:Int)) % 26).toNat]⟩) (by rw [li]; simp) (by rw [li]; omega) (fun i x y hx hy=>?_) ?_
  ·obtain ⟨rfl,hik⟩:=intsD_at hx
   rw [List.getElem?_map,List.getElem?_range hik] at hy
   cases hy
   have mu:mulC pc (0+(i:Int))=true:=by
    unfold mulC
    simp
    rcases hpc with rfl | rfl | rfl | rfl <;> omega
   have ff:0≤(fi+pc * (0+(i:Int))) % 26∧(fi+pc * (0+(i:Int))) % 26 < 26:=⟨Int.emod_nonneg _ (by decide),Int.emod_lt_of_pos _ (by decide)⟩
   have hc:=Wy (i:=(fi+pc * (0+(i:Int))) % 26) (n:=((fi+pc * (0+(i:Int))) % 26).toNat) (by omega) (abc_at _ (by omega))
   refine ⟨_,Zz,fun Q hq=>?_⟩
   simp at mu hc
   simp [wipeD,mu,hc]
   simpa using hq
  ·refine VG (ys:=(List.range k.toNat).map fun j=>D.str (nameJ cs sp.toNat fi pc j)) (by simp) (by simp; omega) (fun i x y hx hy=>?_) ?_
   ·rw [List.getElem?_map] at hx hy
    have hik:i < k.toNat:=by
     cases e:(List.range k.toNat)[i]? with
     | none=>rw [e] at hx; cases hx
     | some j=>have:=(List.getElem?_eq_some_iff.mp e).1; simpa using this
    rw [List.getElem?_range hik] at hx hy
    cases hx; cases hy
    refine ⟨_,Zz,fun Q hq=>?_⟩
    generalize hz:((fi+pc * (i:Int)) % 26).toNat=z
    have w1:({ cps:=#[97+z] }:Str)=⟨[97+z].toArray⟩:=rfl
    simp [wipeD,w1,Zdg sp0 (xs:=cs) (by omega),Zav sp0 (xs:=cs) (by omega)]
    refine ⟨by omega,by omega,?_⟩
    simp [nameJ] at hq
    first | exact hq | (rw [hz] at *; exact hq) | (rw [← hz]; exact hq) | (rw [hz]; exact hq)
   ·rw [show (List.range k.toNat).map (fun j=>D.str (nameJ cs sp.toNat fi pc j))=((List.range k.toNat).map (nameJ cs sp.toNat fi pc)).map D.str by rw [List.map_map]; rfl]
    refine q _ _ b5 o ⟨fun x hx=>?_,?_⟩ (by simp; omega)
    ·obtain ⟨j,_,rfl⟩:=List.mem_map.mp hx
     have hb:0≤(fi+pc * j) % 26∧(fi+pc * j) % 26 < 26:=⟨Int.emod_nonneg _ (by decide),Int.emod_lt_of_pos _ (by decide)⟩
     refine ⟨fun c hc=>?_,by simp [nameJ]; omega,by simp [nameJ]; omega⟩
     simp [nameJ] at hc
     rcases hc with hc | rfl | hc
     ·exact hcs c (List.mem_of_mem_take hc)
     ·omega
     ·exact hcs c (List.mem_of_mem_drop hc)
    ·exact YS fun i j hi hj e=>J9 hsp hpc (by omega) (by omega) e
section
variable {S:Za} {E:XP} {Q:D→Za→Prop} {n:Nat}
theorem G4 {m:Int} (b:Bag S n) (m0:0≤m) (m1:m≤10) (q:∀ ns cs ps S',LaKit ns cs ps→(ns.length:Int)≤m→cs.length=3→Bag S' n→Ext n S S'→Q (kitD ns cs ps) S'):Ev (m_q37 [.cel n,.int m]) S E Q:=by
 have z:=zs
 unfold m_q37
 rw [Zl]
 unfold Zc8
 simp [startD]
 refine ZC b (by omega) (by omega) fun w S1 b1 o1 w0 w1=>?_
 refine XG b1 w0 (by omega) fun ns S2 b2 o2 hns hnl=>?_
 refine XG b2 (by omega) (by omega) fun cs S3 b3 o3 hcs hcl=>?_
 refine ZC b3 (by omega) (by omega) fun w2 S4 b4 o4 w20 w21=>?_
 refine XG b4 w20 (by omega) fun pn S5 b5 o5 hpn hpl=>?_
 have o05:=(((o1.trans o2).trans o3).trans o4).trans o5
 have hpl3:pn.length≤3:=by omega
 simp
 refine ev_noErr (ev_compL (fun i acc S'=>∃ vs:List Int,acc=vs.map D.int∧Bag S' n∧Onl n S5 S'∧vs.length=i∧∀ v ∈ vs,0≤v∧v≤1000000) (k:=0) ⟨[],rfl,b5,Onl.refl,rfl,by simp⟩ (fun i x acc S' hx hi=>?_) (fun acc S' hi=>?_))
 ·obtain ⟨vs,rfl,b',ex,hl,hv⟩:=hi
  rw [Nat.zero_add] at hl ⊢
  have hil:=(List.getElem?_eq_some_iff.mp hx).1
  rw [List.length_map] at hil
  refine ⟨_,Zz,?_⟩
  simp
  refine ZC b' (by omega) (by omega) fun r1 T1 c1 p1 r10 r11=>ZC c1 (by omega) (by omega) fun r2 T2 c2 p2 r20 r21=>⟨by omega,?_⟩
  refine ZC c2 (by omega) (by omega) fun r3 T3 c3 p3 r30 r31=>?_
  rw [YG]
  obtain ⟨d,hd,hm⟩:=YI (xs:=[D.int r1,D.int r2,D.int 0,D.int 1000000]) r30 (by show r3 < 4; omega)
  obtain ⟨v,rfl,v0,v1⟩:∃ v:Int,d = .int v∧0≤v∧v≤1000000:=by
   simp at hm
   rcases hm with rfl | rfl | rfl | rfl <;> exact ⟨_,rfl,by omega,by omega⟩
  refine ⟨_,hd,by omega,vs++[v],by simp,c3,((ex.trans p1).trans p2).trans p3,by simp; omega,fun w hw=>?_⟩
  rcases List.mem_append.mp hw with hw | hw
  ·exact hv w hw
  ·obtain rfl:=List.mem_singleton.mp hw; exact ⟨v0,v1⟩
 ·obtain ⟨vs,rfl,b',ex,hl,hv⟩:=hi
  rw [Nat.zero_add,List.length_map] at hl
  have ez:List.zipWith (fun a b=>Wj (D.str a) (D.int b)) pn vs=(pn.zip vs).map fun p=>Wj (.str p.1) (.int p.2):=by
   rw [List.zip,List.map_zipWith]
  simp
  rw [ez]
  refine VG (ys:=(pn.zip vs).map fun p=>D.tup [.str p.1,.int p.2]) (by simp) (by rw [List.length_map,List.length_zip]; omega) (fun i x y hx hy=>?_) ?_
  ·rw [List.getElem?_map] at hx hy
   cases e:(pn.zip vs)[i]? with
   | none=>rw [e] at hx; cases hx
   | some p=>
    rw [e] at hx hy
    cases hx; cases hy
    refine ⟨_,Jv,fun Q hq=>?_⟩
    simp [wipeD]
    exact ⟨by omega,hq⟩
  have e1:(pn.zip vs).map (·.1)=pn:=List.map_fst_zip (by omega)
  exact ⟨by omega,q ns cs (pn.zip vs) _ ⟨hns,hcs,by omega,by rw [e1]; exact hpn,fun p hp=>hv _ (List.of_mem_zip hp).2,by rw [List.length_zip]; omega⟩ (by omega) (by omega) b' (o05.trans ex).ext⟩
end
mutual
def FwR (ns cs pn:List Str):Nat→Rw→Prop
 | _,.set x (.num i)=>x ∈ cs∧0≤i∧i≤10
 | _,.say (.num i)=>0≤i∧i≤10
 | _,.say (.cell x)=>x ∈ cs
 | _,.pay g t (.num i)=>g ∈ pn∧t ∈ pn∧0≤i∧i≤10
 | n+1,.ifs (.news y) a b=>y ∈ ns∧FwS ns cs pn n a∧FwS ns cs pn n b∧(rwsD a).length≤3∧(rwsD b).length≤3
 | n+1,.ifs (.knw x) a b=>x ∈ cs∧FwS ns cs pn n a∧FwS ns cs pn n b∧(rwsD a).length≤3∧(rwsD b).length≤3
 | _,_=>False
def FwS (ns cs pn:List Str):Nat→Rws→Prop
 | _,.nil=>True
 | n,.cons r a=>FwR ns cs pn n r∧FwS ns cs pn n a
end
mutual
theorem FwR.ok {ns cs:List Str} {ps:Asc} (K:LaKit ns cs ps):∀ {n:Nat} {r:Rw},FwR ns cs (ps.map (·.1)) n r→ZK ns cs cs (ps.map (·.1)) n r∧Zap r∧RowD n r.cnt (rwD r)
 | n,.set x (.num i),h=>by
  rw [FwR] at h
  rw [ZK,Zap]
  exact ⟨⟨h.1,⟨by omega,by omega⟩,by simp [Sm.dep]⟩,by simp [Sm.dep],.set (names_isN K.cn _ h.1) (.num (by omega) (by omega))⟩
 | n,.set x (.cell y),h=>by rw [FwR] at h; exact h.elim; all_goals simp
 | n,.set x (.purse y),h=>by rw [FwR] at h; exact h.elim; all_goals simp
 | n,.set x (.op s a b),h=>by rw [FwR] at h; exact h.elim; all_goals simp
 | n,.say (.num i),h=>by
  rw [FwR] at h
  rw [ZK,Zap]
  exact ⟨⟨⟨by omega,by omega⟩,by simp [Sm.dep]⟩,by simp [Sm.dep],.say (.num (by omega) (by omega))⟩
 | n,.say (.cell x),h=>by
  rw [FwR] at h
  rw [ZK,Zap]
  exact ⟨⟨h,by simp [Sm.dep]⟩,by simp [Sm.dep],.say (.cell (names_isN K.cn _ h))⟩
 | n,.say (.purse y),h=>by rw [FwR] at h; exact h.elim; all_goals simp
 | n,.say (.op s a b),h=>by rw [FwR] at h; exact h.elim; all_goals simp
 | n,.pay g t (.num i),h=>by
  rw [FwR] at h
  rw [ZK,Zap]
  exact ⟨⟨h.1,h.2.1,⟨by omega,by omega⟩,by simp [Sm.dep]⟩,by simp [Sm.dep],.pay (names_isN K.pn _ h.1) (names_isN K.pn _ h.2.1) (.num (by omega) (by omega))⟩
 | n,.pay g t (.cell y),h=>by rw [FwR] at h; exact h.elim; all_goals simp
 | n,.pay g t (.purse y),h=>by rw [FwR] at h; exact h.elim; all_goals simp
 | n,.pay g t (.op s a b),h=>by rw [FwR] at h; exact h.elim; all_goals simp
 | n+1,.ifs (.news y) a b,h=>by
  rw [FwR] at h
  obtain ⟨h1,h2,h3,l1,l2⟩:=h
  obtain ⟨o1,s1,d1⟩:=FwS.ok K h2
  obtain ⟨o2,s2,d2⟩:=FwS.ok K h3
  rw [ZK,Zap]
  exact ⟨⟨h1,by simp [Ts.dep],o1,o2⟩,⟨trivial,by simp [Ts.dep],s1,s2⟩,.ifs (.news (names_isN K.nn _ h1)) d1 d2 (by omega) (by omega)⟩
 | n+1,.ifs (.knw x) a b,h=>by
  rw [FwR] at h
  obtain ⟨h1,h2,h3,l1,l2⟩:=h
  obtain ⟨o1,s1,d1⟩:=FwS.ok K h2
  obtain ⟨o2,s2,d2⟩:=FwS.ok K h3
  rw [ZK,Zap]
  exact ⟨⟨h1,by simp [Ts.dep],o1,o2⟩,⟨trivial,by simp [Ts.dep],s1,s2⟩,.ifs (.known (names_isN K.cn _ h1)) d1 d2 (by omega) (by omega)⟩
 | 0,.ifs t a b,h=>by cases t <;> simp [FwR] at h
 | n+1,.ifs (.nt t) a b,h=>by simp [FwR] at h
 | n+1,.ifs (.both t u) a b,h=>by simp [FwR] at h
 | n+1,.ifs (.cmp w t u) a b,h=>by simp [FwR] at h
 | n,.whl t a,h=>by simp [FwR] at h
theorem FwS.ok {ns cs:List Str} {ps:Asc} (K:LaKit ns cs ps):∀ {n:Nat} {a:Rws},FwS ns cs (ps.map (·.1)) n a→RwsOk ns cs cs (ps.map (·.1)) n a∧RwsSm a∧RowsD n a.cnt (rwsD a)
 | n,.nil,h=>⟨by rw [RwsOk]; trivial,by rw [RwsSm]; trivial,.nil⟩
 | n,.cons r a,h=>by
  rw [FwS] at h
  obtain ⟨o1,s1,d1⟩:=FwR.ok K h.1
  obtain ⟨o2,s2,d2⟩:=FwS.ok K h.2
  rw [RwsOk,RwsSm]
  exact ⟨⟨o1,o2⟩,⟨s1,s2⟩,.cons d1 d2⟩
end
section
variable {S S':Za} {n l:Nat} {x:Int}
theorem Lf.ex {S S':Za} {n l:Nat} {x:Int} (h:Lf S l x) (ne:l ≠ n) (o:Onl n S S'):Lf S' l x:=(o.2 l ne).trans h
end
def K1 (f:Nat→Out) (c:Nat):Prop:=(∃ w:Str,w ≠ "" ∧ ∀ k,k+c≤80→f k = .fault w)∨∃ σ' j,j≤c∧∀ k,k+c≤80→f k = .ok (k+j) σ'
theorem K1.cons {o:Nat→NA.St→Out} {os:Z4} {σ:NA.St} {c1 c2:Nat} (h1:1≤c1) (a:K1 (fun k=>o (k+1) σ) c1) (b:∀ σ',K1 (fun k=>runRows os k σ') c2):K1 (fun k=>runRows (o :: os) k σ) (c1+c2):=by
 rcases a with ⟨w,hw,a⟩ | ⟨σ1,j,hj,a⟩
 ·refine .inl ⟨w,hw,fun k hk=>?_⟩
  show runRows (o :: os) k σ=_
  have ek:=a k (by omega)
  dsimp only at ek
  rw [runRows,if_neg (by omega),ek]
 ·rcases b σ1 with ⟨w,hw,b⟩ | ⟨σ2,j2,hj2,b⟩
  ·refine .inl ⟨w,hw,fun k hk=>?_⟩
   show runRows (o :: os) k σ=_
   have ek:=a k (by omega)
   dsimp only at ek
   rw [runRows,if_neg (by omega),ek]
   exact b (k+j) (by omega)
  ·refine .inr ⟨σ2,j+j2,by omega,fun k hk=>?_⟩
   show runRows (o :: os) k σ=_
   have ek:=a k (by omega)
   dsimp only at ek
   rw [runRows,if_neg (by omega),ek]
   have:=b (k+j) (by omega)
   dsimp only at this ⊢
   rw [this]
   congr 1
   omega
section
variable {S S':Za} {cs pn:List Str} {a b t:Nat} {σ:NA.St} {A:Asc} {E:XP} {Q:D→Za→Prop}
theorem SdA.keep (h:SdA S a b t cs pn σ A) (k:∀ j,j=a∨j=b∨j=t→S'[j]? = S[j]?):SdA S' a b t cs pn σ A:={ h with ce:=(k a (.inl rfl)).trans h.ce,pu:=(k b (.inr (.inl rfl))).trans h.pu,ta:=(k t (.inr (.inr rfl))).trans h.ta }
theorem Gm {x y:D} {xs ys:List D} (hx:dr S x = .lst xs) (hy:dr S y = .lst ys) (hl:xs.length+ys.length≤100000):Ev (addLC x y) S E Q=Q (.cel S.length) (S++[.lst (xs++ys)]):=by
 have z:=zs
 unfold Ev addLC
 simp only [hx,hy]
 rw [if_pos (by omega)]
 rfl
end
section
variable {cs pn ns:List Str}
def Frt (n:Nat) (d:D):Prop:=∃ a,n≤a∧d=Kv a (a+1) (a+2)
theorem Frt.mono {n m:Nat} {d:D} (h:Frt m d) (le:n≤m):Frt n d:=by
 obtain ⟨a,h1,h2⟩:=h
 exact ⟨a,by omega,h2⟩
def Zhd (ns cs pn:List Str):Eh→Prop
 | .deed _ a _ _=>(∃ n,FwS ns cs pn n a)∧a.cnt≤79
 | _=>True
end
def W7 (ns:List Str) (W:List (List Bool)) (U:List Bool→NA.St) (f0:List Bool) (p:List Str × List Int):Prop:=∀ f ∈ W,ofF ns p.1 f=ofF ns p.1 f0→p.2 <+: (U f).tape
section
variable {ns:List Str} {W W':List (List Bool)} {U:List Bool→NA.St} {f0:List Bool} {p:List Str × List Int}
theorem W7.less (h:W7 ns W U f0 p) (sub:∀ f ∈ W',f ∈ W):W7 ns W' U f0 p:=fun f hf e=>h f (sub f hf) e
theorem W7.deed {a:Rws} {way:Str} (h:W7 ns W U f0 p):W7 ns W (lawU ns a way W U) f0 p:=fun f hf e=>(h f hf e).trans Ur
theorem UQ {f:List Bool} {e:Eh} {σ:NA.St}:σ.tape <+: (after1 (ehO (ns.zip f) e) σ).tape:=by
 cases e with
 | news x b=>exact List.prefix_refl _
 | tie qs=>exact List.prefix_refl _
 | heard x is gs=>exact List.prefix_refl _
 | deed w a dn kn=>
  cases dn with
  | false=>exact List.prefix_refl _
  | true=>
   have h:=Qt (ns:=ns) (kv:=kn) (a:=a) (σ:=σ) (f:=f)
   unfold fkE at h
   unfold endW at h
   unfold ehO after1
   dsimp only at h ⊢
   revert h
   cases deedO (rwsO (ns.zip f) kn a) σ <;> exact id
end
end NA
namespace ND
open PySem L2
end ND
namespace NA
open PySem L2 ND NM
section
variable {ns cs few:List Str} {ps:Asc} {ea:List (Str × List Str)} {m n:Nat} {own:Nat→Prop} {h ec pc:Nat} {es:List Eh} {P:List Mom} {now:Mom} {W:List (List Bool)} {U:List Bool→NA.St} {S S':Za} {f0:List Bool} {hs:List (List Str × List Int)}
structure KI (ns cs:List Str) (ps:Asc) (ea:List (Str × List Str)) (f0:List Bool) (n m:Nat) (own:Nat→Prop) (h ec pc:Nat) (es:List Eh) (P:List Mom) (now:Mom) (W:List (List Bool)) (U:List Bool→NA.St) (hs:List (List Str × List Int)) (S:Za):Prop where
 G:HG ns cs ps ea m own h ec pc es P now W U S
 bag:Bag S n
 no:¬ own n
 few:∀ e ∈ es,Zhd ns cs (ps.map (·.1)) e
 sh:∀ e ∈ es,(∃ w a d k,e = .deed w a d k)→Sh 20 47000 (entD (ehD e))
 w0:f0 ∈ W
 hd:∀ p ∈ hs,W7 ns W U f0 p
 hk:∀ p ∈ hs,p.1 ∈ [] :: ea.map (·.2)
theorem Bag.keep {x:Nat} (b:Bag S x) (k:∀ c,S[x]? = some c→S'[x]? = some c):Bag S' x:=by
 obtain ⟨g,y,e,r⟩:=b
 exact ⟨g,y,k _ e,r⟩
theorem Frm.bag {x:Nat} (F:Frm h ec pc S S') (H:HouseAt cs (ps.map (·.1)) ns (earsD ea) ps own S h ec pc (bkE es) P now) (no:¬ own x) (b:Bag S x):Bag S' x:=
 b.keep fun c e=>by
  rw [F.2 x b.lt (fun e=>no (e ▸ H.oh)) (fun e=>no (e ▸ H.oe)) (fun e=>no (e ▸ H.op))]
  exact e
theorem KI.gr (T:KI ns cs ps ea f0 n m own h ec pc es P now W U hs S) (g:Gr S S'):KI ns cs ps ea f0 n m own h ec pc es P now W U hs S':=
 { T with G:=T.G.gr g,bag:=T.bag.keep fun c e=>g.at e }
theorem KI.ext (T:KI ns cs ps ea f0 n m own h ec pc es P now W U hs S) (b:Bag S' n) (o:Ext n S S'):KI ns cs ps ea f0 n m own h ec pc es P now W U hs S':=
 { T with G:=T.G.keep o.1 fun j hj=>o.2 j (T.G.I.ol j hj) fun e=>T.no (e ▸ hj),bag:=b }
theorem Wl {α:Type} {p:α→Prop} {l:List α} {a:α} (h:∀ x ∈ l,p x) (ha:p a):∀ x ∈ l++[a],p x:=fun x hx=>by
 rcases List.mem_append.mp hx with hx | hx
 ·exact h x hx
 ·obtain rfl:=List.mem_singleton.mp hx; exact ha
theorem KI.more {p:List Str × List Int} (T:KI ns cs ps ea f0 n m own h ec pc es P now W U hs S) (hp:W7 ns W U f0 p) (hk:p.1 ∈ [] :: ea.map (·.2)):KI ns cs ps ea f0 n m own h ec pc es P now W U (hs++[p]) S:=
 { T with hd:=Wl T.hd hp,hk:=Wl T.hk hk }
theorem KI.next {e:Eh} {own':Nat→Prop} {now':Mom} {W':List (List Bool)} {U':List Bool→NA.St} (T:KI ns cs ps ea f0 n m own h ec pc es P now W U hs S) (G':HG ns cs ps ea (m+1) own' h ec pc (es++[e]) (P++[now]) now' W' U' S') (F:Frm h ec pc S S') (k:∀ i,own' i→own i∨S.length≤i) (fw:Zhd ns cs (ps.map (·.1)) e) (sh:(∃ w a d k,e = .deed w a d k)→Sh 20 47000 (entD (ehD e))) (w0:f0 ∈ W') (hh:∀ p,W7 ns W U f0 p→W7 ns W' U' f0 p):KI ns cs ps ea f0 n (m+1) own' h ec pc (es++[e]) (P++[now]) now' W' U' hs S':=
 { G:=G',bag:=F.bag T.G.I.H T.no T.bag,no:=fun o=>(k _ o).elim T.no fun l=>by have:=T.bag.lt; omega, few:=Wl T.few fw,sh:=Wl T.sh sh,w0:=w0,hd:=fun p hp=>hh p (T.hd p hp),hk:=T.hk }
end
section
variable {ns cs:List Str} {ps:Asc} {ea:List (Str × List Str)} {m n:Nat} {own:Nat→Prop} {h ec pc:Nat} {es:List Eh} {P:List Mom} {now:Mom} {W:List (List Bool)} {U:List Bool→NA.St} {S:Za} {f0:List Bool} {hs:List (List Str × List Int)}
theorem KI.put {x:Cell} {a:Nat} (T:KI ns cs ps ea f0 n m own h ec pc es P now W U hs S) (ha:¬ own a) (hn:a ≠ n):KI ns cs ps ea f0 n m own h ec pc es P now W U hs (S.set a x):=
 { T with G:=T.G.keep (by simp) (fun j hj=>List.getElem?_set_ne (fun e=>ha (by rw [e]; exact hj))),bag:=T.bag.keep fun c e=>by rw [List.getElem?_set_ne hn]; exact e }
end
structure HL (ns cs:List Str) (ps:Asc) (ea:List (Str × List Str)) (n m:Nat) (own:Nat→Prop) (h ec pc:Nat) (es:List Eh) (P:List Mom) (now:Mom) (W:List (List Bool)) (U:List Bool→NA.St) (st:List Bool→D) (S:Za):Prop where
 G:HG ns cs ps ea m own h ec pc es P now W U S
 bag:Bag S n
 no:¬ own n
 sts:Y3 S cs (ps.map (·.1)) W U st
 sx:∀ f ∈ W,On (fun j=>¬ own j∧j ≠ n) (st f)
def Fra (own:Nat→Prop) (S S':Za):Prop:=S.length≤S'.length∧∀ j,j < S.length→¬ own j→S'[j]? = S[j]?
theorem Fra.gr {own:Nat→Prop} {S S':Za} (g:Gr S S'):Fra own S S':=⟨g.1,fun j hj _=>g.2 j hj⟩
theorem Fra.trans {own own':Nat→Prop} {S S1 S2:Za} (a:Fra own S S1) (b:Fra own' S1 S2) (k:∀ j,own' j→own j∨S.length≤j):Fra own S S2:=
 ⟨Nat.le_trans a.1 b.1,fun j hj ho=>(b.2 j (Nat.lt_of_lt_of_le hj a.1) fun z=>(k j z).elim ho fun z=>absurd hj (by omega)).trans (a.2 j hj ho)⟩
section
variable {ns cs:List Str} {ps:Asc} {ea:List (Str × List Str)} {n m:Nat} {own:Nat→Prop} {h ec pc:Nat} {es:List Eh} {P:List Mom} {now:Mom} {W:List (List Bool)} {U:List Bool→NA.St} {st:List Bool→D} {S S':Za}
theorem HL.gr (L:HL ns cs ps ea n m own h ec pc es P now W U st S) (g:Gr S S'):HL ns cs ps ea n m own h ec pc es P now W U st S':=⟨L.G.gr g,g.bag L.bag,L.no,L.sts.gr g,L.sx⟩
theorem HL.ext (L:HL ns cs ps ea n m own h ec pc es P now W U st S) (x:Ext n S S') (b:Bag S' n):HL ns cs ps ea n m own h ec pc es P now W U st S':=
 ⟨L.G.keep x.1 fun i hi=>x.2 i (L.G.I.ol i hi) fun e=>L.no (e ▸ hi),b,L.no,L.sts.keep L.sx fun i hi hl=>x.2 i hl hi.2,L.sx⟩
theorem HL.fra {own2:Nat→Prop} (L:HL ns cs ps ea n m own h ec pc es P now W U st S) (f:Fra own2 S S') (d:∀ j,own j→¬ own2 j) (nn:¬ own2 n) (dx:∀ w ∈ W,On (fun j=>¬ own2 j) (st w)):HL ns cs ps ea n m own h ec pc es P now W U st S':=
 ⟨L.G.keep f.1 fun i hi=>f.2 i (L.G.I.ol i hi) (d i hi),L.bag.keep fun c e=>by rw [f.2 n L.bag.lt nn]; exact e,L.no,L.sts.keep (X:=fun j=>¬ own2 j) dx fun i hi hl=>f.2 i hl hi,L.sx⟩
theorem HL.next {e:Eh} {W':List (List Bool)} {U':List Bool→NA.St} {st':List Bool→D} {S3 S4:Za} {own':Nat→Prop} {now':Mom} (L:HL ns cs ps ea n m own h ec pc es P now W U st S) (g:Gr S S3) (s3:Y3 S3 cs (ps.map (·.1)) W' U' st') (fr:∀ f ∈ W',(f ∈ W∧st' f=st f)∨Frs S.length (st' f))
  (G':HG ns cs ps ea (m+1) own' h ec pc (es++[e]) (P++[now]) now' W' U' S4) (F:Frm h ec pc S3 S4) (k:∀ i,own' i→own i∨S3.length≤i):HL ns cs ps ea n (m+1) own' h ec pc (es++[e]) (P++[now]) now' W' U' st' S4∧Fra own S3 S4:=by
 have H:=L.G.I.H
 have nlt:=L.bag.lt
 have ol:=L.G.I.ol
 have fra:Fra own S3 S4:=⟨F.1,fun j hj ho=>F.2 j hj (fun e=>ho (by rw [e]; exact H.oh)) (fun e=>ho (by rw [e]; exact H.oe)) (fun e=>ho (by rw [e]; exact H.op))⟩
 have sx:∀ f ∈ W',On (fun j=>¬ own j∧j ≠ n) (st' f):=fun f hf=>by
  rcases fr f hf with ⟨hw,e⟩ | ⟨a,b,t,e,ha,hb,ht⟩
  ·rw [e]; exact L.sx f hw
  ·intro a' b' t' e'
   rw [e] at e'
   cases e'
   exact ⟨⟨fun z=>absurd (ol _ z) (by omega),by omega⟩,⟨fun z=>absurd (ol _ z) (by omega),by omega⟩,⟨fun z=>absurd (ol _ z) (by omega),by omega⟩⟩
 have sl:=s3.lt sx
 refine ⟨⟨G',(g.bag L.bag).keep fun c e=>by rw [fra.2 n (Nat.lt_of_lt_of_le nlt g.1) L.no]; exact e,fun z=>(k n z).elim L.no fun z=>?_,s3.keep sx fun i hi hl=>fra.2 i hl hi.1,fun f hf=>(sl f hf).mono fun j hj=>⟨fun z=>(k j z).elim hj.1.1 fun z=>?_,hj.1.2⟩⟩,fra⟩
 ·have:=g.1; omega
 ·omega
end
section
variable {h:Nat} {W:List (List Bool)} {U:List Bool→NA.St} {S S':Za}
def Zq (S:Za) (U:List Bool→NA.St):List (List Bool)→List D→Prop
 | [],[]=>True
 | f :: W,d :: ds=>(∃ t,d = .cel t∧S[t]? = some (.lst ((U f).tape.map D.int)))∧Zq S U W ds
 | _,_=>False
theorem Zq.gr {W:List (List Bool)} (g:Gr S S'):∀ {W:List (List Bool)} {ds:List D},Zq S U W ds→Zq S' U W ds
 | [],[],_=>trivial
 | f :: W,d :: ds,⟨⟨t,e,a⟩,r⟩=>⟨⟨t,e,g.at a⟩,Zq.gr (W:=W) g r⟩
 | [],_ :: _,h=>h.elim
 | _ :: _,[],h=>h.elim
theorem Zq.snoc {f:List Bool} {t:Nat} (a:S[t]? = some (.lst ((U f).tape.map D.int))):∀ {W:List (List Bool)} {ds:List D},Zq S U W ds→Zq S U (W++[f]) (ds++[.cel t])
 | [],[],_=>⟨⟨t,rfl,a⟩,trivial⟩
 | g :: W,d :: ds,⟨q,r⟩=>⟨q,Zq.snoc a r⟩
 | [],_ :: _,h=>h.elim
 | _ :: _,[],h=>h.elim
theorem Zq.len:∀ {W:List (List Bool)} {ds:List D},Zq S U W ds→ds.length=W.length
 | [],[],_=>rfl
 | g :: W,d :: ds,⟨q,r⟩=>by rw [List.length_cons,List.length_cons,Zq.len r]
 | [],_ :: _,h=>h.elim
 | _ :: _,[],h=>h.elim
end
structure OffS (n:Nat) (own:Nat→Prop) (W:List (List Bool)) (st:List Bool→D) (S:Za) (s:Nat):Prop where
 lt:s < S.length
 no:¬ own s
 nn:n ≠ s
 sx:∀ f ∈ W,On (fun j=>j ≠ s) (st f)
section
variable {ns cs:List Str} {ps:Asc} {ea:List (Str × List Str)} {n m:Nat} {own:Nat→Prop} {h ec pc:Nat} {es:List Eh} {P:List Mom} {now:Mom} {W:List (List Bool)} {U:List Bool→NA.St} {st:List Bool→D} {S S':Za} {s:Nat}
theorem HL.off {S2 S3:Za} (L:HL ns cs ps ea n m own h ec pc es P now W U st S) (o:OffS n own W st S s) (g:Gr S S2) (x:Ext s S2 S3):HL ns cs ps ea n m own h ec pc es P now W U st S3:=
 (L.gr g).fra (own2:=fun j=>j=s) ⟨x.1,fun j hj e=>x.2 j hj e⟩ (fun j hj e=>o.no (e ▸ hj)) (fun e=>o.nn e) fun f hf=>(o.sx f hf).mono fun j hj e=>hj e
theorem OffS.ext (o:OffS n own W st S s) {S':Za} {k:Nat} (x:Ext k S S'):OffS n own W st S' s:=⟨Nat.lt_of_lt_of_le o.lt x.1,o.no,o.nn,o.sx⟩
end
section
variable {S:Za} {τ:DSt} {E:XP} {Q:D→Za→Prop} {ER:Str→List (Str × D)→DSt→Za→Prop} {PR:ND.Flow→Za→Prop}
@[simp] theorem Zf2 {mo me mf:EM}:Ev (mKGet mo me mf τ) S E Q=Ev (mo τ) S E fun x S1=>Ev (isKct x) S1 E fun _ S2=>Ev (me τ) S2 E fun y S3=>Ev (mf τ) S3 E fun z S4=>Ev (kgetD x y z) S4 E Q:=by
 unfold mKGet
 simp only [Ze]
@[simp] theorem Zfk {mo mi mv:EM}:EvR (sKPutD mo mi mv τ S) ER PR=Ev (mv τ) S (fun C fs S'=>ER C fs τ S') fun z S1=>Ev (mo τ) S1 (fun C fs S'=>ER C fs τ S') fun x S2=>Ev (mi τ) S2 (fun C fs S'=>ER C fs τ S') fun y S3=>Ev (setKt x y z) S3 (fun C fs S'=>ER C fs τ S') fun _ S4=>PR (.nx τ) S4:=by
 unfold sKPutD
 simp only [Yn,Ze]
 rfl
@[simp] theorem Zdp:Ev (mDNewKd τ) S E Q=Q (.cel S.length) (S++[.kct []]):=rfl
end
theorem Vp {k j:List Bool} {z:D}:∀ {kvs:List (List Bool × D)},lookK (kvs.map fun p=>if p.1=k then (p.1,z) else p) j=if j=k then (lookK kvs k).map (fun _=>z) else lookK kvs j
 | []=>by
  by_cases e:j=k
  ·rw [if_pos e]; rfl
  ·rw [if_neg e]; rfl
 | p :: r=>by
  have ih:=Vp (k:=k) (j:=j) (z:=z) (kvs:=r)
  unfold lookK at ih ⊢
  rw [List.map_cons]
  by_cases e:j=k
  ·subst e
   rw [if_pos rfl] at ih ⊢
   by_cases ep:p.1=j
   ·rw [if_pos ep,List.find?_cons_of_pos (by simp [ep]),List.find?_cons_of_pos (by simp [ep])]
    rfl
   ·rw [if_neg ep,List.find?_cons_of_neg (by simp [ep]),List.find?_cons_of_neg (by simp [ep])]
    exact ih
  ·rw [if_neg e] at ih ⊢
   by_cases ep:p.1=k
   ·have nj:¬ p.1=j:=fun q=>e (q.symm.trans ep)
    rw [if_pos ep,List.find?_cons_of_neg (by simp [nj]),List.find?_cons_of_neg (by simp [nj])]
    exact ih
   ·rw [if_neg ep]
    by_cases ej:p.1=j
    ·rw [List.find?_cons_of_pos (by simp [ej]),List.find?_cons_of_pos (by simp [ej])]
    ·rw [List.find?_cons_of_neg (by simp [ej]),List.find?_cons_of_neg (by simp [ej])]
     exact ih
theorem Vq {kvs:List (List Bool × D)} {k j:List Bool} {z:D}:lookK (putKd kvs k z) j=if j=k then some z else lookK kvs j:=by
 unfold putKd
 cases hk:lookK kvs k with
 | none=>
  rw [if_neg (by simp)]
  unfold lookK at hk ⊢
  rw [List.find?_append]
  by_cases e:j=k
  ·subst e
   rw [Option.map_eq_none_iff] at hk
   rw [hk,if_pos rfl]
   simp
  ·rw [if_neg e]
   cases hj:kvs.find? fun x=>decide (x.1=j) with
   | some v=>simp
   | none=>simp [Ne.symm e]
 | some d=>
  rw [if_pos (by simp),Vp,hk]
  rfl
def K2 (S:Za) (ns few:List Str) (U:List Bool→NA.St) (W:List (List Bool)) (tv:List (List Bool × D)):Prop:=∀ g,match lookK tv g with
 | none=>inW ns few W g=[]
 | some d=>∃ ds,d = .lst ds∧inW ns few W g ≠ []∧Zq S U (inW ns few W g) ds
section
variable {ns few:List Str} {h ct:Nat} {W:List (List Bool)} {U:List Bool→NA.St} {S S':Za} {f:List Bool} {tv:List (List Bool × D)}
theorem K2.gr (T:K2 S ns few U W tv) (g:Gr S S'):K2 S' ns few U W tv:=fun j=>by
 have t:=T j
 cases e:lookK tv j with
 | none=>rw [e] at t; exact t
 | some d=>
  rw [e] at t
  obtain ⟨ds,h1,h2,h3⟩:=t
  exact ⟨ds,h1,h2,h3.gr (W:=W) g⟩
theorem Zq.set {ct:Nat} {c:Cell} {tv:List (List Bool × D)} (hc:S[ct]? = some (.kct tv)):∀ {W:List (List Bool)} {ds:List D},Zq S U W ds→Zq (S.set ct c) U W ds
 | [],[],_=>trivial
 | f :: W,d :: ds,⟨⟨t,e,a⟩,r⟩=>⟨⟨t,e,by
  rw [List.getElem?_set_ne (fun e=>by rw [e,a] at hc; cases hc)]
  exact a⟩,Zq.set hc r⟩
 | [],_ :: _,h=>h.elim
 | _ :: _,[],h=>h.elim
theorem K2.set {ct:Nat} {c:Cell} {tv2:List (List Bool × D)} (hc:S[ct]? = some (.kct tv2)) (T:K2 S ns few U W tv):K2 (S.set ct c) ns few U W tv:=fun j=>by
 have t:=T j
 cases e:lookK tv j with
 | none=>rw [e] at t; exact t
 | some d=>
  rw [e] at t
  obtain ⟨ds,h1,h2,h3⟩:=t
  exact ⟨ds,h1,h2,h3.set hc⟩
theorem GE {g:List Bool}:inW ns few (W++[f]) g=inW ns few W g++if ofF ns few f=g then [f] else []:=by
 unfold inW
 rw [List.filter_append]
 congr 1
 by_cases e:ofF ns few f=g
 ·rw [if_pos e,List.filter_cons_of_pos (by simp [e])]; rfl
 ·rw [if_neg e,List.filter_cons_of_neg (by simp [e])]; rfl
theorem K2.put {t:Nat} (T:K2 S ns few U W tv) (ht:S[t]? = some (.lst ((U f).tape.map D.int))):∃ ds,(lookK tv (ofF ns few f)).getD (.lst []) = .lst ds∧ds.length≤W.length∧K2 S ns few U (W++[f]) (putKd tv (ofF ns few f) (.lst (ds++[.cel t]))):=by
 have t0:=T (ofF ns few f)
 have key:∃ ds,(lookK tv (ofF ns few f)).getD (.lst []) = .lst ds∧Zq S U (inW ns few W (ofF ns few f)) ds:=by
  cases e:lookK tv (ofF ns few f) with
  | none=>
   rw [e] at t0
   exact ⟨[],rfl,by rw [t0]; trivial⟩
  | some d=>
   rw [e] at t0
   obtain ⟨ds,rfl,_,h3⟩:=t0
   exact ⟨ds,rfl,h3⟩
 obtain ⟨ds,e1,ta⟩:=key
 refine ⟨ds,e1,by rw [ta.len]; exact List.length_filter_le _ _,fun j=>?_⟩
 rw [Vq,GE]
 by_cases e:j=ofF ns few f
 ·subst e
  rw [if_pos rfl,if_pos rfl]
  exact ⟨_,rfl,by simp,ta.snoc ht⟩
 ·rw [if_neg e,if_neg (Ne.symm e),List.append_nil]
  exact T j
end
def Zba (ns few:List Str) (W:List (List Bool)) (U:List Bool→NA.St) (av:List (List Bool × D)):Prop:=∀ g d,lookK av g=some d→∃ is:List Int,d = .lst (is.map D.int)∧∀ f ∈ W,ofF ns few f=g→is <+: (U f).tape
section
variable {ns few:List Str} {h:Nat} {W:List (List Bool)} {U:List Bool→NA.St} {S:Za} {g:List Bool} {x:Str} {av:List (List Bool × D)}
theorem Zba.put (A:Zba ns few W U av) {is:List Int} (h:∀ f ∈ W,ofF ns few f=g→is <+: (U f).tape):Zba ns few W U (putKd av g (.lst (is.map D.int))):=fun j d e=>by
 rw [Vq] at e
 by_cases q:j=g
 ·rw [if_pos q] at e
  cases e
  exact ⟨is,rfl,fun f hf hj=>h f hf (hj.trans q)⟩
 ·rw [if_neg q] at e
  exact A j d e
theorem Zq.at {V:List (List Bool)}:∀ {W:List (List Bool)} {ds:List D} {k:Nat} {d:D},Zq S U W ds→ds[k]? = some d→∃ f t,W[k]? = some f∧d = .cel t∧S[t]? = some (.lst ((U f).tape.map D.int))
 | g :: W,d :: ds,0,x,⟨⟨t,e,a⟩,r⟩,hx=>by
  cases hx
  exact ⟨g,t,rfl,e,a⟩
 | g :: W,d :: ds,k+1,x,⟨q,r⟩,hx=>by
  rw [List.getElem?_cons_succ] at hx ⊢
  exact Zq.at (V:=V) r hx
 | [],_ :: _,_,_,h,_=>h.elim
 | _ :: _,[],_,_,h,_=>h.elim
 | [],[],_,_,_,hx=>by simp at hx
end
section
variable {ns cs:List Str} {ps:Asc} {ea:List (Str × List Str)} {m:Nat} {own:Nat→Prop} {h ec pc:Nat} {es:List Eh} {P:List Mom} {now:Mom} {W:List (List Bool)} {U:List Bool→NA.St} {S S':Za} {x:Str}
theorem HG.ext {k:Nat} (G:HG ns cs ps ea m own h ec pc es P now W U S) (x:Ext k S S') (n:¬ own k):HG ns cs ps ea m own h ec pc es P now W U S':=G.keep x.1 fun i hi=>x.2 i (G.I.ol i hi) fun e=>n (e ▸ hi)
theorem Zq.ext {k:Nat} {tv:List (List Bool × D)} (hc:S[k]? = some (.kct tv)) (b:Ext k S S'):∀ {W:List (List Bool)} {ds:List D},Zq S U W ds→Zq S' U W ds
 | [],[],_=>trivial
 | f :: W,d :: ds,⟨⟨t,e,a⟩,r⟩=>⟨⟨t,e,by
  rw [b.2 t (List.getElem?_eq_some_iff.mp a).1 (fun e=>by rw [e,hc] at a; cases a)]
  exact a⟩,Zq.ext hc b r⟩
 | [],_ :: _,h=>h.elim
 | _ :: _,[],h=>h.elim
end
abbrev wofE (ns:List Str) (ea:List (Str × List Str)) (es:List Eh):List (List Bool):=(fills ns.length).filter (keepAll ns ea (es.map ehD))
abbrev uofE (ns:List Str) (ps:Asc) (es:List Eh) (f:List Bool):NA.St:=after (es.map (ehO (ns.zip f))) ⟨[],ps,[]⟩
inductive Stk (ns cs:List Str) (ps:Asc) (ea:List (Str × List Str)) (X:Nat→Prop) (S:Za):List Eh→List D→Prop
 | nil {st:List Bool→D}:Y3 S cs (ps.map (·.1)) (wofE ns ea []) (uofE ns ps []) st→(∀ f ∈ wofE ns ea [],On X (st f))→Stk ns cs ps ea X S [] [Za8 (wofE ns ea []) st]
 | snoc {es:List Eh} {e:Eh} {ds:List D} {st:List Bool→D}:Stk ns cs ps ea X S es ds→Y3 S cs (ps.map (·.1)) (wofE ns ea (es++[e])) (uofE ns ps (es++[e])) st→(∀ f ∈ wofE ns ea (es++[e]),On X (st f))→Stk ns cs ps ea X S (es++[e]) (ds++[Za8 (wofE ns ea (es++[e])) st])
section
variable {ns cs:List Str} {ps:Asc} {ea:List (Str × List Str)} {X Y:Nat→Prop} {S S':Za} {es:List Eh} {e:Eh} {ds:List D}
theorem Stk.keep (k:Stk ns cs ps ea X S es ds) (h:∀ i,X i→i < S.length→S'[i]? = S[i]?):Stk ns cs ps ea X S' es ds:=by
 induction k with
 | nil s x=>exact .nil (s.keep x h) x
 | snoc _ s x ih=>exact .snoc ih (s.keep x h) x
theorem Stk.mono (k:Stk ns cs ps ea X S es ds) (h:∀ i,X i→i < S.length→Y i):Stk ns cs ps ea Y S es ds:=by
 induction k with
 | nil s x=>exact .nil s fun f hf=>(s.lt x f hf).mono fun i hi=>h i hi.1 hi.2
 | snoc _ s x ih=>exact .snoc ih s fun f hf=>(s.lt x f hf).mono fun i hi=>h i hi.1 hi.2
theorem Stk.len (k:Stk ns cs ps ea X S es ds):ds.length=es.length+1:=by
 induction k with
 | nil s x=>rfl
 | snoc _ s x ih=>rw [List.length_append,List.length_append,ih]; rfl
theorem Pst.wof {P:List Mom} {W:List (List Bool)} {U:List Bool→NA.St} (p:Pst ns cs ps ea es P W U):W=wofE ns ea es∧∀ f ∈ W,uofE ns ps es f=U f:=by
 obtain ⟨_,a2,a3,_⟩:=p.ok
 exact ⟨a3,a2⟩
theorem Pst.next {P P':List Mom} {W W':List (List Bool)} {U U':List Bool→NA.St} (p:Pst ns cs ps ea es P W U) (p':Pst ns cs ps ea (es++[e]) P' W' U'):∀ f ∈ W',f ∈ W∧(U f).tape <+: (U' f).tape:=fun f hf=>by
 obtain ⟨_,a2,a3,_⟩:=p.ok
 obtain ⟨_,b2,b3,_⟩:=p'.ok
 have hw:f ∈ W:=by
  rw [b3] at hf
  obtain ⟨h1,h2⟩:=List.mem_filter.mp hf
  rw [a3]
  refine List.mem_filter.mpr ⟨h1,?_⟩
  unfold keepAll at h2 ⊢
  rw [List.map_append,List.all_append,Bool.and_eq_true] at h2
  exact h2.1
 have e1:=b2 f hf
 rw [List.map_append,List.map_singleton] at e1
 unfold after at e1
 rw [List.foldl_append] at e1
 have e2:=a2 f hw
 unfold after at e2
 rw [e2] at e1
 exact ⟨hw,by rw [← e1]; exact UQ⟩
theorem Zba.less {few:List Str} {W W':List (List Bool)} {U U':List Bool→NA.St} {av:List (List Bool × D)} (A:Zba ns few W U av) (h:∀ f ∈ W',f ∈ W∧(U f).tape <+: (U' f).tape):Zba ns few W' U' av:=fun g d e=>by
 obtain ⟨is,hd,hp⟩:=A g d e
 exact ⟨is,hd,fun f hf ef=>(hp f (h f hf).1 ef).trans (h f hf).2⟩
end
def offX (own:Nat→Prop) (n sc:Nat) (hs:List Nat) (j:Nat):Prop:=¬ own j∧j ≠ n∧j ≠ sc∧j ∉ hs
structure SL (ns cs:List Str) (ps:Asc) (ea:List (Str × List Str)) (n sc:Nat) (hs:List Nat) (m h ec pc:Nat) (own:Nat→Prop) (es:List Eh) (P:List Mom) (now:Mom) (W:List (List Bool)) (U:List Bool→NA.St) (ds:List D) (S:Za):Prop where
 G:HG ns cs ps ea m own h ec pc es P now W U S
 bag:Bag S n
 no:¬ own n
 so:¬ own sc
 sn:n ≠ sc
 hn:∀ c ∈ hs,¬ own c∧c ≠ n∧c ≠ sc∧c < S.length
 sa:S[sc]? = some (.lst ds)
 k:Stk ns cs ps ea (offX own n sc hs) S es ds
def ZfD (ns:List Str) (ea:List (Str × List Str)) (hs:List Nat) (b:Nat→Nat) (W:List (List Bool)) (U:List Bool→NA.St) (S:Za):Prop:=∀ (k:Nat) (x:Str) (few:List Str),ea[k]? = some (x,few)→∃ c av,hs[k]? = some c∧S[c]? = some (.kct av)∧av.length≤b k∧Zba ns few W U av
section
variable {ns cs:List Str} {ps:Asc} {ea:List (Str × List Str)} {n sc m h ec pc:Nat} {hs:List Nat} {own:Nat→Prop} {es:List Eh} {P:List Mom} {now:Mom} {W:List (List Bool)} {U:List Bool→NA.St} {ds:List D} {S S':Za} {b:Nat→Nat}
theorem ZfD.keep (H:ZfD ns ea hs b W U S) (k:∀ c ∈ hs,c < S.length→S'[c]? = S[c]?):ZfD ns ea hs b W U S':=fun j x few e=>by
 obtain ⟨c,av,h1,h2,h3⟩:=H j x few e
 exact ⟨c,av,h1,by rw [k c (List.mem_of_getElem? h1) (List.getElem?_eq_some_iff.mp h2).1]; exact h2,h3⟩
theorem SL.slt (L:SL ns cs ps ea n sc hs m h ec pc own es P now W U ds S):sc < S.length:=(List.getElem?_eq_some_iff.mp L.sa).1
theorem SL.gr (L:SL ns cs ps ea n sc hs m h ec pc own es P now W U ds S) (g:Gr S S'):SL ns cs ps ea n sc hs m h ec pc own es P now W U ds S':=
 { G:=L.G.gr g,bag:=g.bag L.bag,no:=L.no,so:=L.so,sn:=L.sn,hn:=fun c hc=>⟨(L.hn c hc).1,(L.hn c hc).2.1,(L.hn c hc).2.2.1,Nat.lt_of_lt_of_le (L.hn c hc).2.2.2 g.1⟩,sa:=g.at L.sa,k:=L.k.keep fun i _ hi=>g.2 i hi }
theorem SL.ext (L:SL ns cs ps ea n sc hs m h ec pc own es P now W U ds S) (x:Ext n S S') (bg:Bag S' n):SL ns cs ps ea n sc hs m h ec pc own es P now W U ds S':=
 { G:=L.G.keep x.1 fun i hi=>x.2 i (L.G.I.ol i hi) fun e=>L.no (e ▸ hi),bag:=bg,no:=L.no,so:=L.so,sn:=L.sn,hn:=fun c hc=>⟨(L.hn c hc).1,(L.hn c hc).2.1,(L.hn c hc).2.2.1,Nat.lt_of_lt_of_le (L.hn c hc).2.2.2 x.1⟩,sa:=by rw [x.2 sc L.slt (Ne.symm L.sn)]; exact L.sa,k:=L.k.keep fun i hi hl=>x.2 i hl hi.2.1 }
theorem On.and {X Y:Nat→Prop} {d:D} (a:On X d) (b:On Y d):On (fun j=>X j∧Y j) d:=fun x y t e=>by
 obtain ⟨a1,a2,a3⟩:=a x y t e
 obtain ⟨b1,b2,b3⟩:=b x y t e
 exact ⟨⟨a1,b1⟩,⟨a2,b2⟩,⟨a3,b3⟩⟩
theorem SL.next {e:Eh} {own':Nat→Prop} {now':Mom} {W':List (List Bool)} {U':List Bool→NA.St} {st st':List Bool→D} {S1 S3 S4:Za} (L:SL ns cs ps ea n sc hs m h ec pc own es P now W U ds S1) (g:Gr S1 S3) (x:∀ f ∈ W,On (offX own n sc hs) (st f)) (sts:Y3 S1 cs (ps.map (·.1)) W U st)
  (L4:HL ns cs ps ea n (m+1) own' h ec pc (es++[e]) (P++[now]) now' W' U' st' S4) (fra:Fra own S3 S4) (k:∀ j,own' j→own j∨S3.length≤j) (fr:∀ f ∈ W',(f ∈ W∧st' f=st f)∨Frs S1.length (st' f)) :
  SL ns cs ps ea n sc hs (m+1) h ec pc own' (es++[e]) (P++[now]) now' W' U' (ds++[Za8 W' st']) (S4.set sc (.lst (ds++[Za8 W' st']))):=by
 obtain ⟨eW,eU⟩:=L4.G.p.wof
 have gl:=g.1
 have sl:=L.slt
 have fl:=fra.1
 have nw:∀ {j:Nat},j < S3.length→¬ own j→¬ own' j:=fun hj ho z=>(k _ z).elim ho fun z=>by omega
 have so':¬ own' sc:=nw (by omega) L.so
 have at4:∀ {j:Nat},j < S3.length→¬ own j→j ≠ sc→(S4.set sc (.lst (ds++[Za8 W' st'])))[j]? = S3[j]?:=fun hj ho hs=>by
  rw [List.getElem?_set_ne (Ne.symm hs)]
  exact fra.2 _ hj ho
 have rx:∀ f ∈ W',On (offX own' n sc hs) (st' f):=fun f hf=>by
  have h1:On (fun j=>j ≠ sc∧j ∉ hs) (st' f):=by
   rcases fr f hf with ⟨hw,e⟩ | fr
   ·rw [e]; exact (x f hw).mono fun j hj=>hj.2.2
   ·exact fr.on fun i hi=>⟨by omega,fun z=>by have:=(L.hn i z).2.2.2; omega⟩
  exact ((L4.sx f hf).and h1).mono fun j hj=>⟨hj.1.1,hj.1.2,hj.2⟩
 have s4:Y3 (S4.set sc (.lst (ds++[Za8 W' st']))) cs (ps.map (·.1)) W' U' st':=L4.sts.keep rx fun i hi _=>List.getElem?_set_ne (Ne.symm hi.2.2.1)
 have k3:Stk ns cs ps ea (fun i=>offX own n sc hs i∧offX own' n sc hs i∧i < S3.length) S3 es ds:=(L.gr g).k.mono fun i hi hl=>⟨hi,⟨nw hl hi.1,hi.2⟩,hl⟩
 have k4:Stk ns cs ps ea (offX own' n sc hs) (S4.set sc (.lst (ds++[Za8 W' st']))) es ds:=(k3.keep fun i hi _=>at4 hi.2.2 hi.1.1 hi.1.2.2.1).mono fun i hi _=>hi.2.1
 refine ⟨L4.G.keep (by rw [List.length_set]; exact Nat.le_refl _) fun i hi=>List.getElem?_set_ne fun (z:sc=i)=>so' (z ▸ hi),L4.bag.keep fun d hd=>by rw [List.getElem?_set_ne (Ne.symm L.sn)]; exact hd,L4.no,so',L.sn,fun c hc=>?_,List.getElem?_set_self (by omega),?_⟩
 ·obtain ⟨c1,c2,c3,c4⟩:=L.hn c hc
  exact ⟨nw (by omega) c1,c2,c3,by rw [List.length_set]; omega⟩
 ·generalize S4.set sc (.lst (ds++[Za8 W' st']))=S5 at s4 k4 ⊢
  rw [eW] at s4 rx ⊢
  exact .snoc k4 (fun f hf=>by
   have:=s4 f hf
   rw [← eU f (by rw [eW]; exact hf)] at this
   exact this) rx
end
section
variable {S:Za} {E:XP} {Q:D→Za→Prop} {τ:DSt} {k:Nat} {C:Str}
@[simp] theorem Zf7 {tab:Str→Option Bool} {m:EM}:Ev (mExk tab k C m τ) S E Q=Ev (m τ) S E fun x S1=>Ev (exkD tab k C x) S1 E Q:=by unfold mExk; rw [Ze]
end
def rowB (f:D→Bool):D→Bool
 | .tup [a,b]=>isN a && f b
 | _=>false
section
def Fw:D→Prop
 | .tup xs=>∃ ss:List Str,xs=ss.map D.str
 | _=>True
def FwW:D→Prop
 | .tup [a,b]=>isN a=true→Fw b
 | _=>True
end
end NA
namespace NA
open PySem L2 ND NM PyProof.Rows
section
def So:D→Prop
 | .str x=>PyData.strOk x=true
 | _=>True
end
end NA
namespace NA
open PySem L2 ND NM
section
def Its (P:D→Prop):D→Prop
 | .tup xs=>∀ x ∈ xs,P x
 | _=>True
def Fst (P:D→Prop):D→Prop
 | .tup (a :: _)=>P a
 | _=>True
end
structure El (d:D):Prop where
 sd:Sd d
 so:So d
 fs:Fst So d
 fw:FwW d
structure Pt (d:D):Prop where
 sd:Sd d
 it:Its El d
theorem Pt.so {d:D} (h:Pt d):Its So d:=by
 have:=h.it
 cases d with
 | tup xs=>exact fun x hx=>(this x hx).so
 | _=>trivial
theorem Pt.fs {d:D} (h:Pt d):Its (Fst So) d:=by
 have:=h.it
 cases d with
 | tup xs=>exact fun x hx=>(this x hx).fs
 | _=>trivial
inductive Sz:Nat→D→Prop
 | non {n:Nat}:Sz n .non
 | bl {n:Nat} (b:Bool):Sz n (.bl b)
 | int {n:Nat} (i:Int):Sz n (.int i)
 | str {n:Nat} {x:Str}:Sg x→Sz n (.str x)
 | lst {n:Nat} {xs:List D}:(∀ x ∈ xs,Sz n x)→xs.length≤1000→Sz (n+1) (.lst xs)
 | tup {n:Nat} {xs:List D}:(∀ x ∈ xs,Sz n x)→xs.length≤1000→Sz (n+1) (.tup xs)
theorem Sz.sd {n:Nat} {d:D} (h:Sz n d):Sd d:=by
 induction h with
 | non=>exact .non
 | bl b=>exact .bl b
 | int i=>exact .int i
 | str _=>exact .str _
 | lst _ hl ih=>exact .lst ih hl
 | tup _ hl ih=>exact .tup ih hl
theorem Sz.so {n:Nat} {d:D} (h:Sz n d):So d:=by
 cases h with
 | str h=>exact sg_iff.mpr h
 | _=>trivial
section
variable {d:D} {n:Nat}
theorem Sz.mono:∀ {n k:Nat} {d:D},Sz n d→n≤k→Sz k d
 | _,_,_,.non,_=>.non
 | _,_,_,.bl b,_=>.bl b
 | _,_,_,.int i,_=>.int i
 | _,_,_,.str h,_=>.str h
 | n+1,k+1,_,.lst h hl,le=>.lst (fun x hx=>Sz.mono (h x hx) (by omega)) hl
 | n+1,k+1,_,.tup h hl,le=>.tup (fun x hx=>Sz.mono (h x hx) (by omega)) hl
theorem ZdO {c1 c2:Prop} [Decidable c1] [Decidable c2] {X Y:Prop} (h:c1→¬ c2) (y:Y):if c1 then (if c2 then X else Y) else Y:=by
 by_cases a:c1
 ·rw [if_pos a,if_neg (h a)]; exact y
 ·rw [if_neg a]; exact y
end
mutual
def hv (o:Bool):D→Nat
 | .int i=>if o then (PyData.int i).weight else 0
 | .str x=>if o then (PyData.str x).weight else 0
 | .lst xs=>hvs o xs
 | .tup xs=>hvs o xs
 | _=>0
def hvs (o:Bool):List D→Nat
 | []=>0
 | x :: xs=>hv o x+1+hvs o xs
end
inductive Sx (k:Nat):Nat→D→Prop
 | non {n:Nat}:Sx k n .non
 | bl {n:Nat} (b:Bool):Sx k n (.bl b)
 | int {n:Nat} {i:Int}:i.natAbs < 10 ^ 60→Sx k n (.int i)
 | str {n:Nat} {x:Str}:Sg x→Sx k n (.str x)
 | lst {n:Nat} {xs:List D}:(∀ x ∈ xs,Sx k n x)→xs.length≤k→Sx k (n+1) (.lst xs)
 | tup {n:Nat} {xs:List D}:(∀ x ∈ xs,Sx k n x)→xs.length≤k→Sx k (n+1) (.tup xs)
theorem Sx.mono:∀ {k j n m:Nat} {d:D},Sx k n d→k≤j→n≤m→Sx j m d
 | _,_,_,_,_,.non,_,_=>.non
 | _,_,_,_,_,.bl b,_,_=>.bl b
 | _,_,_,_,_,.int h,_,_=>.int h
 | _,_,_,_,_,.str h,_,_=>.str h
 | k,j,n+1,m+1,_,.lst h hl,h1,h2=>.lst (fun x hx=>Sx.mono (h x hx) h1 (by omega)) (by omega)
 | k,j,n+1,m+1,_,.tup h hl,h1,h2=>.tup (fun x hx=>Sx.mono (h x hx) h1 (by omega)) (by omega)
structure Rx (n w:Nat) (z:PyData):Prop where
 lay:z.canLay0=true
 shw:z.showable=true
 nod:z.hasDict=false
 lvs:z.leavesShort 62=true
 wt:z.weight=w
 dp:z.depth≤n
structure RxA (n w:Nat) (zs:List PyData):Prop where
 lay:PyData.canLayAll0 zs=true
 shw:PyData.showableAll zs=true
 nod:PyData.hasDictAll zs=false
 lvs:PyData.leavesShortAll 62 zs=true
 wt:PyData.weightAll zs=w
 dp:PyData.depthAll zs≤n
mutual
theorem Sx.rw:∀ {k n:Nat} {d:D},Sx k n d→∃ z,py d=some z∧Rx n (hv true d) z
 | _,_,_,.non=>⟨_,rfl,⟨rfl,rfl,rfl,rfl,rfl,Nat.zero_le _⟩⟩
 | _,_,_,.bl b=>⟨_,rfl,⟨rfl,rfl,rfl,rfl,rfl,Nat.zero_le _⟩⟩
 | _,_,_,.int (i:=i) h=>⟨_,rfl,⟨rfl,by
  rw [PyData.showable]
  refine decide_eq_true ?_
  by_cases h0:i.natAbs=0
  ·rw [h0]; decide
  ·have h1:i.natAbs < 2 ^ 200:=Nat.lt_of_lt_of_le h (by decide)
   exact Nat.lt_trans ((Nat.log2_lt h0).mpr h1) (by decide),rfl,by
  rw [PyData.leavesShort]
  refine decide_eq_true ?_
  have e:=int_text_length_le10 (k:=60) (by decide) h
  show (Str.ofString (toString i)).length≤62
  rw [ofString_length]
  omega,rfl,Nat.zero_le _⟩⟩
 | _,_,_,.str (x:=x) h=>⟨_,rfl,⟨sg_iff.mpr h,rfl,rfl,by
  rw [PyData.leavesShort,List.all_eq_true]
  exact fun c hc=>decide_eq_true (Nat.lt_trans (h c (by simpa using hc)) (by decide)),rfl,Nat.zero_le _⟩⟩
 | _,_,_,.lst h _=>by
  obtain ⟨zs,e,r⟩:=Sx.rws h
  refine ⟨.list zs,by rw [ND.py,e]; rfl,⟨r.lay,r.shw,r.nod,r.lvs,by rw [PyData.weight,r.wt,hv],?_⟩⟩
  rw [PyData.depth]; have:=r.dp; omega
 | _,_,_,.tup h _=>by
  obtain ⟨zs,e,r⟩:=Sx.rws h
  refine ⟨.tuple zs,by rw [ND.py,e]; rfl,⟨r.lay,r.shw,r.nod,r.lvs,by rw [PyData.weight,r.wt,hv],?_⟩⟩
  rw [PyData.depth]; have:=r.dp; omega
theorem Sx.rws:∀ {k n:Nat} {xs:List D},(∀ x ∈ xs,Sx k n x)→∃ zs,pys xs=some zs∧RxA n (hvs true xs) zs
 | _,_,[],_=>⟨[],rfl,⟨rfl,rfl,rfl,rfl,rfl,Nat.zero_le _⟩⟩
 | k,n,x :: xs,h=>by
  obtain ⟨z,e,r⟩:=Sx.rw (h x List.mem_cons_self)
  obtain ⟨zs,es,rs⟩:=Sx.rws fun y hy=>h y (List.mem_cons_of_mem _ hy)
  refine ⟨z :: zs,by rw [ND.pys,e,es],⟨?_,?_,?_,?_,?_,?_⟩⟩
  ·rw [PyData.canLayAll0,r.lay,rs.lay]; rfl
  ·rw [PyData.showableAll,r.shw,rs.shw]; rfl
  ·rw [PyData.hasDictAll,r.nod,rs.nod]; rfl
  ·rw [PyData.leavesShortAll,r.lvs,rs.lvs]; rfl
  ·rw [PyData.weightAll,r.wt,rs.wt,hvs]
  ·rw [PyData.depthAll]
   have:=r.dp; have:=rs.dp; omega
end
theorem sx_cons {k n:Nat} {x:D} {xs:List D} (h:Sx k n x) (t:∀ y ∈ xs,Sx k n y):∀ y ∈ x :: xs,Sx k n y:=fun y hy=>by
 cases hy with
 | head=>exact h
 | tail _ hy=>exact t y hy
theorem Yy {k n:Nat}:∀ y ∈ ([]:List D),Sx k n y:=fun y hy=>by cases hy
theorem sx_nm {k n:Nat} {x:Str} (h:isN (.str x)=true):Sx k n (.str x):=.str (sg_isN h).1
theorem sx_wd {k n:Nat} (s:String):Sx k n (.str (Str.ofString s)):=.str (sg_of s)
theorem SumD.sx {k n:Nat} {d:D} (hk:10≤k) (h:SumD n d):Sx k n d:=by
 induction h with
 | @cell n x hx=>exact sx_nm hx
 | @num n i h1 h2=>exact .int (Nat.lt_of_le_of_lt (show i.natAbs≤1000000000 by omega) (by decide))
 | @purse n x hx=>exact .tup (sx_cons (sx_wd "purse") (sx_cons (sx_nm hx) Yy)) (by simp only [List.length_cons,List.length_nil]; omega)
 | @op n s a b hs _ _ i1 i2=>
  have hw:Sx k n (.str s):=by rcases hs with rfl | rfl | rfl <;> exact sx_wd _
  exact .tup (sx_cons hw (sx_cons i1 (sx_cons i2 Yy))) (by simp only [List.length_cons,List.length_nil]; omega)
theorem TestD.sx {k n:Nat} {d:D} (hk:10≤k) (h:TestD n d):Sx k (n+2) d:=by
 induction h with
 | @news n x hx=>exact .tup (sx_cons (sx_wd "news") (sx_cons (sx_nm hx) Yy)) (by simp only [List.length_cons,List.length_nil]; omega)
 | @known n x hx=>exact .tup (sx_cons (sx_wd "known") (sx_cons (sx_nm hx) Yy)) (by simp only [List.length_cons,List.length_nil]; omega)
 | @cmp n w a b hs h1 h2=>
  have hw:Sx k (n+2) (.str w):=by rcases hs with rfl | rfl <;> exact sx_wd _
  exact .tup (sx_cons hw (sx_cons ((h1.sx hk).mono (Nat.le_refl _) (by omega)) (sx_cons ((h2.sx hk).mono (Nat.le_refl _) (by omega)) Yy))) (by simp only [List.length_cons,List.length_nil]; omega)
 | @not n a _ i1=>exact .tup (sx_cons (sx_wd "not") (sx_cons i1 Yy)) (by simp only [List.length_cons,List.length_nil]; omega)
 | @both n a b _ _ i1 i2=>exact .tup (sx_cons (sx_wd "both") (sx_cons i1 (sx_cons i2 Yy))) (by simp only [List.length_cons,List.length_nil]; omega)
mutual
theorem RowD.sx:∀ {k n c:Nat} {d:D},10≤k→RowD n c d→Sx k (2 * n+6) d
 | k,n,_,_,hk,.set hx hs=>.tup (n:=2 * n+5) (sx_cons (sx_wd "set") (sx_cons (sx_nm hx) (sx_cons ((hs.sx hk).mono (Nat.le_refl _) (by omega)) Yy))) (by simp only [List.length_cons,List.length_nil]; omega)
 | k,n,_,_,hk,.say hs=>.tup (n:=2 * n+5) (sx_cons (sx_wd "say") (sx_cons ((hs.sx hk).mono (Nat.le_refl _) (by omega)) Yy)) (by simp only [List.length_cons,List.length_nil]; omega)
 | k,n,_,_,hk,.pay hx hy hs=>.tup (n:=2 * n+5) (sx_cons (sx_wd "pay") (sx_cons (sx_nm hx) (sx_cons (sx_nm hy) (sx_cons ((hs.sx hk).mono (Nat.le_refl _) (by omega)) Yy)))) (by simp only [List.length_cons,List.length_nil]; omega)
 | k,_,_,_,hk,.ifs (n:=n) ht ha hb la lb=>.tup (n:=2 * n+7) (sx_cons (sx_wd "if") (sx_cons ((ht.sx hk).mono (Nat.le_refl _) (by omega)) (sx_cons (.tup (RowsD.sx hk ha) (by omega)) (sx_cons (.tup (RowsD.sx hk hb) (by omega)) Yy)))) (by simp only [List.length_cons,List.length_nil]; omega)
 | k,_,_,_,hk,.whl (n:=n) ht ha la=>.tup (n:=2 * n+7) (sx_cons (sx_wd "while") (sx_cons ((ht.sx hk).mono (Nat.le_refl _) (by omega)) (sx_cons (.tup (RowsD.sx hk ha) (by omega)) Yy))) (by simp only [List.length_cons,List.length_nil]; omega)
theorem RowsD.sx:∀ {k n c:Nat} {ds:List D},10≤k→RowsD n c ds→∀ d ∈ ds,Sx k (2 * n+6) d
 | _,_,_,_,_,.nil=>Yy
 | k,n,_,_,hk,.cons h t=>sx_cons (RowD.sx hk h) (RowsD.sx hk t)
end
def pS:Nat→Nat
 | 0=>0
 | n+1=>2 * pS n+3
theorem SumD.pt {n:Nat} {d:D} (h:SumD n d):hv false d≤pS n:=by
 induction h with
 | @cell n x hx=>exact Nat.zero_le _
 | @num n i h1 h2=>exact Nat.zero_le _
 | @purse n x hx=>simp [hv,hvs,pS] <;> omega
 | @op n s a b hs _ _ i1 i2=>simp [hv,hvs,pS] <;> omega
def pT:Nat→Nat
 | 0=>0
 | n+1=>2 * pT n+21
theorem TestD.pt {n:Nat} {d:D} (h:TestD n d):hv false d≤pT n:=by
 induction h with
 | @news n x hx=>simp [hv,hvs,pT] <;> omega
 | @known n x hx=>simp [hv,hvs,pT] <;> omega
 | @cmp n w a b hs h1 h2=>
  have e1:=h1.pt
  have e2:=h2.pt
  have e:pS 2=9:=rfl
  simp [hv,hvs,pT] <;> omega
 | @not n a _ i1=>simp [hv,hvs,pT] <;> omega
 | @both n a b _ _ i1 i2=>simp [hv,hvs,pT] <;> omega
mutual
theorem RowD.pt:∀ {n c:Nat} {d:D},RowD n c d→hv false d+1≤200 * c
 | n,_,_,.set hx hs=>by
  have e1:=hs.pt
  have e:pS 5=93:=rfl
  simp [hv,hvs]; omega
 | n,_,_,.say hs=>by
  have e1:=hs.pt
  have e:pS 5=93:=rfl
  simp [hv,hvs]; omega
 | n,_,_,.pay hx hy hs=>by
  have e1:=hs.pt
  have e:pS 5=93:=rfl
  simp [hv,hvs]; omega
 | _,_,_,.ifs ht ha hb _ _=>by
  have e1:=ht.pt
  have e:pT 3=147:=rfl
  have e2:=RowsD.pt ha
  have e3:=RowsD.pt hb
  simp [hv,hvs]; omega
 | _,_,_,.whl ht ha _=>by
  have e1:=ht.pt
  have e:pT 3=147:=rfl
  have e2:=RowsD.pt ha
  simp [hv,hvs]; omega
theorem RowsD.pt:∀ {n c:Nat} {ds:List D},RowsD n c ds→hvs false ds≤200 * c
 | _,_,_,.nil=>Nat.zero_le _
 | n,_,_,.cons h t=>by
  have e1:=RowD.pt h
  have e2:=RowsD.pt t
  rw [hvs]; omega
end
def Tm (k n w:Nat) (d:D):Prop:=Sx k n d∧∀ o,hv o d≤w
theorem Tm.mono {k n w k' n' w':Nat} {d:D} (h:Tm k n w d) (a:k≤k') (b:n≤n') (c:w≤w'):Tm k' n' w' d:=⟨h.1.mono a b,fun o=>Nat.le_trans (h.2 o) c⟩
def TmL (k n w:Nat) (xs:List D):Prop:=(∀ x ∈ xs,Sx k n x)∧∀ o,hvs o xs≤w
section
variable {S:Za} {E:XP} {d:D}
theorem TmL.mono {k n w k' n' w':Nat} {d:List D} (h:TmL k n w d) (a:k≤k') (b:n≤n') (c:w≤w'):TmL k' n' w' d:=⟨fun x hx=>(h.1 x hx).mono a b,fun o=>Nat.le_trans (h.2 o) c⟩
theorem Zac {xs:List D} {i:Int} {R P:D→Prop} (i0:0≤i) (i1:i < xs.length) (h:∀ x ∈ xs,P x) (q:∀ d,P d→R d):∃ d,atI xs i=some d∧R d:=by
 obtain ⟨d,h1,h2⟩:=YI i0 i1
 exact ⟨d,h1,q d (h d h2)⟩
theorem al_cons {P:D→Prop} {x:D} {xs:List D} (h:P x) (t:∀ y ∈ xs,P y):∀ y ∈ x :: xs,P y:=fun y hy=>by
 cases hy with
 | head=>exact h
 | tail _ hy=>exact t y hy
theorem Qh {P:D→Prop}:∀ y ∈ ([]:List D),P y:=fun y hy=>by cases hy
@[simp] theorem Zfa {m:EM} {τ:DSt} {PL:List D→Za→Prop}:Ev (mWalkX m τ) S E PL=Ev (m τ) S E fun x S1=>Ev (walkXD x) S1 E PL:=by unfold mWalkX; rw [Ze]
@[simp] theorem ZdG {xs:List D} {PL:List D→Za→Prop}:Ev (walkXD (.tup xs)) S E PL=PL xs S:=rfl
@[simp] theorem ZdF {xs:List D} {PL:List D→Za→Prop}:Ev (walkXD (.lst xs)) S E PL=PL xs S:=rfl
end
abbrev Rdr (α:Type):=Except Nat (α × Nat)
def bindW {α β:Type} (r:Rdr α) (f:α→Nat→Rdr β):Rdr β:=match r with
 | .ok (a,p)=>f a p
 | .error p=>.error p
def Ot {α:Type} (r:Rdr α) (ok:α→Nat→Prop) (er:Nat→Prop):Prop:=match r with
 | .ok (a,p)=>ok a p
 | .error p=>er p
theorem ZX {α β:Type} {r:Rdr α} {f:α→Nat→Rdr β} {ok:β→Nat→Prop} {er:Nat→Prop}:Ot (bindW r f) ok er=Ot r (fun a p=>Ot (f a p) ok er) er:=by
 cases r <;> rfl
theorem ZY {α:Type} {r:Rdr α} {ok ok':α→Nat→Prop} {er:Nat→Prop} (h:Ot r ok er) (k:∀ a p,r = .ok (a,p)→ok a p→ok' a p):Ot r ok' er:=by
 cases r with
 | error p=>exact h
 | ok x=>exact k x.1 x.2 rfl h
def wordD (ws:List Str) (p:Nat):D:=match ws[p]? with
 | some w=>.str w
 | none=>.non
def takeW (ws:List Str) (p:Nat) (w:Str):Rdr Unit:=if ws[p]? = some w then .ok ((),p+1) else .error p
def nameW (ws:List Str) (p:Nat):Rdr Str:=match ws[p]? with
 | some w=>if isN (.str w) then .ok (w,p+1) else .error p
 | none=>.error p
def oneW (ws:List Str) (p:Nat) (some_:List Str):Rdr Str:=match ws[p]? with
 | some w=>if w ∈ some_ then .ok (w,p+1) else .error p
 | none=>.error p
def rdC (ws:List Str) (p k:Nat):Cell:=.ins "Reader" [("words",.lst (ws.map D.str)),("place",.int (p:Nat)),("many",.int (k:Nat))]
def rdS (S0:Za) (h:Nat) (ws:List Str) (p k:Nat):Za:=S0.set h (rdC ws p k)
section
variable {S0:Za} {h p k:Nat} {ws:List Str} {E:XP} {Q:D→Za→Prop}
theorem rd_at (hl:h < S0.length):(rdS S0 h ws p k)[h]? = some (rdC ws p k):=List.getElem?_set_self hl
theorem Ki {p' k':Nat}:(rdS S0 h ws p k).set h (rdC ws p' k')=rdS S0 h ws p' k':=by unfold rdS; rw [List.set_set]
theorem YU (hl:h < S0.length) (q:Q (wordD ws p) (rdS S0 h ws p k)):Ev (m_q13 [.cel h]) (rdS S0 h ws p k) E Q:=by
 have ha:=rd_at (ws:=ws) (p:=p) (k:=k) hl
 unfold m_q13
 rw [Zl]
 unfold ZcU
 simp [startD,-YG]
 rw [Zw (C := "Reader") ha rfl,Zw (C := "Reader") ha rfl]
 unfold wordD at q
 simp [-YG]
 by_cases c:p < ws.length
 ·rw [if_pos (by omega),Zw (C := "Reader") ha rfl,Zw (C := "Reader") ha rfl,YG]
  rw [List.getElem?_eq_getElem c] at q
  exact ⟨_,Wy rfl (by rw [List.getElem?_map,List.getElem?_eq_getElem c]; rfl),q⟩
 ·rw [if_neg (by omega)]
  rw [List.getElem?_eq_none (by omega)] at q
  exact q
theorem Kh (hl:h < S0.length) (q:E "NoText" [("place",.int (p:Nat))] (rdS S0 h ws p k)):Ev (m_q8 [.cel h]) (rdS S0 h ws p k) E Q:=by
 have ha:=rd_at (ws:=ws) (p:=p) (k:=k) hl
 unfold m_q8
 rw [Zl]
 unfold Zhj
 simp [startD]
 rw [Zw (C := "Reader") ha rfl]
 exact q
theorem Zk {m:Str} {n:Nat} {f:List D→M D} {ms:AM} {τ:DSt} (hl:h < S0.length) (hτ:τ[0]? = some (some (.cel h))) (hm:([("words",.lst (ws.map D.str)),("place",.int (p:Nat)),("many",.int (k:Nat))]:List (Str × D)).lookup m=none) :
  Ev (mMethI "Reader" m n f (mVar 0) ms τ) (rdS S0 h ws p k) E Q=Ev (ms τ) (rdS S0 h ws p k) E fun ds S3=>Ev (methD "Reader" m n f (.cel h) ds) S3 E Q:=by
 rw [ZE (n:=h),XZ,hτ,Z9,ZD (C := "Reader") (rd_at hl) hm]
theorem Za2 {R:Za→Prop} (hl:h < S0.length) (q:R (rdS S0 h ws (p+1) k)):Ev (getFD ["Reader"] "place" (.cel h)) (rdS S0 h ws p k) E fun v S2=>Ev (addID v (.int 1)) S2 E fun z S4=>∃ C fs,S4[h]? = some (Cell.ins C fs)∧(C = "Reader" ∧ fs.length < 1000)∧R (S4.set h (.ins C (putFD "place" z fs))):=by
 have ha:=rd_at (ws:=ws) (p:=p) (k:=k) hl
 rw [VH (C := "Reader") ha rfl,Yb]
 refine ⟨_,_,ha,⟨rfl,show 3 < 1000 by decide⟩,?_⟩
 have e:(Cell.ins "Reader" (putFD "place" (.int ((p:Int)+1)) [("words",.lst (ws.map D.str)),("place",.int (p:Nat)),("many",.int (k:Nat))]))=rdC ws (p+1) k:=by
  unfold rdC
  have e1:((p:Int)+1)=((p+1:Nat):Int):=by omega
  rw [e1]
  rfl
 have e2:(rdS S0 h ws p k).set h (.ins "Reader" (putFD "place" (.int ((p:Int)+1)) [("words",.lst (ws.map D.str)),("place",.int (p:Nat)),("many",.int (k:Nat))]))=rdS S0 h ws (p+1) k:=by rw [e,Ki]
 exact e2 ▸ q
theorem XQ (hl:h < S0.length):Ev (getFD ["Reader"] "place" (.cel h)) (rdS S0 h ws p k) E Q=Q (.int (p:Nat)) (rdS S0 h ws p k):=VH (C := "Reader") (rd_at hl) rfl
theorem Zcc (hl:h < S0.length):Ev (getFD ["Reader"] "many" (.cel h)) (rdS S0 h ws p k) E Q=Q (.int (k:Nat)) (rdS S0 h ws p k):=VH (C := "Reader") (rd_at hl) rfl
theorem XR:(rdS S0 h ws p k).set h (.ins "Reader" (putFD "place" (.int ((p:Int)+1)) [("words",.lst (ws.map D.str)),("place",.int (p:Nat)),("many",.int (k:Nat))]))=rdS S0 h ws (p+1) k:=by
 have e:(Cell.ins "Reader" (putFD "place" (.int ((p:Int)+1)) [("words",.lst (ws.map D.str)),("place",.int (p:Nat)),("many",.int (k:Nat))]))=rdC ws (p+1) k:=by
  unfold rdC
  have e1:((p:Int)+1)=((p+1:Nat):Int):=by omega
  rw [e1]
  rfl
 rw [e,Ki]
theorem Zcd:(rdS S0 h ws p k).set h (.ins "Reader" (putFD "many" (.int ((k:Int)+1)) [("words",.lst (ws.map D.str)),("place",.int (p:Nat)),("many",.int (k:Nat))]))=rdS S0 h ws p (k+1):=by
 have e:(Cell.ins "Reader" (putFD "many" (.int ((k:Int)+1)) [("words",.lst (ws.map D.str)),("place",.int (p:Nat)),("many",.int (k:Nat))]))=rdC ws p (k+1):=by
  unfold rdC
  have e1:((k:Int)+1)=((k+1:Nat):Int):=by omega
  rw [e1]
  rfl
 rw [e,Ki]
theorem Xn {τ:DSt} (hl:h < S0.length) (hτ:τ[0]? = some (some (.cel h))) (q:E "NoText" [("place",.int (p:Nat))] (rdS S0 h ws p k)):Ev (mMethI "Reader" "refuse" 1 m_q8 (mVar 0) mNil τ) (rdS S0 h ws p k) E Q:=by
 rw [Zk hl hτ rfl,Zdy,Gz]
 exact ⟨rfl,Kh hl q⟩
theorem Kj (hl:h < S0.length) (q:∀ w,ws[p]? = some w→Q (.str w) (rdS S0 h ws (p+1) k)) (qe:ws[p]? = none→E "NoText" [("place",.int (p:Nat))] (rdS S0 h ws p k)):Ev (m_q12 [.cel h]) (rdS S0 h ws p k) E Q:=by
 unfold m_q12
 rw [Zl]
 unfold ZcT
 simp [startD]
 rw [Zk hl rfl rfl]
 simp
 refine YU hl ?_
 unfold wordD
 cases hw:ws[p]? with
 | none=>
  simp
  exact Xn hl rfl (qe hw)
 | some w=>
  simp
  exact Za2 hl (q w hw)
theorem WI {neg:Bool} {S:Za} {w:Str}:Ev (eqvD neg (wordD ws p) (.str w)) S E Q=Q (.bl (if neg then !decide (ws[p]? = some w) else decide (ws[p]? = some w))) S:=by
 unfold wordD
 cases hw:ws[p]? with
 | none=>
  rw [WH (show pyD S .non=some .none from rfl) (show pyD S (.str w)=some (.str w) from rfl)]
  simp [PyData.eqv]
 | some x=>
  have e:(x == w)=decide (x=w):=rfl
  simp [e]
theorem XS {w:Str} (hl:h < S0.length) (q:Ot (takeW ws p w) (fun _ p'=>Q .non (rdS S0 h ws p' k)) fun p'=>E "NoText" [("place",.int (p':Nat))] (rdS S0 h ws p' k)):Ev (m_q15 [.cel h,.str w]) (rdS S0 h ws p k) E Q:=by
 unfold m_q15
 rw [Zl]
 unfold ZcV
 simp [startD]
 rw [Zk hl rfl rfl]
 simp
 refine YU hl ?_
 rw [WI]
 unfold takeW at q
 by_cases c:ws[p]? = some w
 ·rw [if_pos c] at q
  simp [c]
  exact Za2 hl q
 ·rw [if_neg c] at q
  simp [c]
  exact Xn hl rfl q
theorem VY (hl:h < S0.length) (q:Ot (nameW ws p) (fun x p'=>Q (.str x) (rdS S0 h ws p' k)) fun p'=>E "NoText" [("place",.int (p':Nat))] (rdS S0 h ws p' k)):Ev (m_q1 [.cel h]) (rdS S0 h ws p k) E Q:=by
 unfold m_q1
 rw [Zl]
 unfold Zhg
 simp [startD]
 rw [Zk hl rfl rfl]
 simp
 refine YU hl ?_
 unfold nameW at q
 unfold wordD
 cases hw:ws[p]? with
 | none=>
  rw [hw] at q
  simp
  refine XF .non ?_
  simp [isN]
  exact Xn hl rfl q
 | some w=>
  rw [hw] at q
  simp
  refine XF (.str w) ?_
  dsimp only at q
  by_cases c:isN (.str w)=true
  ·rw [if_pos c] at q
   rw [c,Zm]
   simp
   rw [Zk hl rfl rfl]
   simp
   exact Kj hl (fun x hx=>by rw [hw] at hx; cases hx; exact q) (fun hx=>by rw [hw] at hx; cases hx)
  ·rw [if_neg c] at q
   have c:isN (.str w)=false:=by simpa using c
   rw [c,Zm]
   simp
   exact Xn hl rfl q
def memW (some_:List Str):D→Bool
 | .str w=>decide (w ∈ some_)
 | _=>false
def ZfC (x:D) (some_:List Str):Prop:=∀ {neg:Bool} {ws:List Str} {p:Nat} {S:Za} {E:XP} {Q:D→Za→Prop},Q (.bl (if neg then !memW some_ (wordD ws p) else memW some_ (wordD ws p))) S→Ev (inD neg (wordD ws p) x) S E Q
theorem Za3 {some_:List Str} {x:D} (hx:ZfC x some_) (hl:h < S0.length) (q:Ot (oneW ws p some_) (fun x p'=>Q (.str x) (rdS S0 h ws p' k)) fun p'=>E "NoText" [("place",.int (p':Nat))] (rdS S0 h ws p' k)):Ev (m_q7 [.cel h,x]) (rdS S0 h ws p k) E Q:=by
 unfold m_q7
 rw [Zl]
 unfold Zhi
 simp [startD]
 rw [Zk hl rfl rfl]
 simp
 refine YU hl ?_
 refine hx ?_
 unfold oneW at q
 unfold wordD
 cases hw:ws[p]? with
 | none=>
  rw [hw] at q
  simp [memW]
  exact Xn hl rfl q
 | some w=>
  rw [hw] at q
  dsimp only at q ⊢
  by_cases c:w ∈ some_
  ·rw [if_pos c] at q
   simp [memW,c]
   rw [Zk hl rfl rfl]
   simp
   exact Kj hl (fun x hx=>by rw [hw] at hx; cases hx; exact q) (fun hx=>by rw [hw] at hx; cases hx)
  ·rw [if_neg c] at q
   simp [memW,c]
   exact Xn hl rfl q
theorem K7 {ws:List Str} {x:Str}:(ws.map PyData.str).any (fun z=>PyData.eqv z (.str x))=decide (x ∈ ws):=by
 induction ws with
 | nil=>rfl
 | cons w ws ih=>
  rw [List.map_cons,List.any_cons,ih]
  have e:PyData.eqv (.str w) (.str x)=decide (w=x):=rfl
  rw [e]
  by_cases h:w=x
  ·subst h; simp
  ·have h':¬ x=w:=fun z=>h z.symm
   simp [h,h']
theorem Zbg {ws:List Str}:(ws.map PyData.str).any (fun z=>PyData.eqv z .none)=false:=by
 induction ws with
 | nil=>rfl
 | cons w ws ih=>rw [List.map_cons,List.any_cons,ih]; rfl
theorem JX {L:List Str} {S:Za}:(∀ a,pyD S (wordD ws p)=some a→(L.map PyData.str).any (fun z=>PyData.eqv z a)=memW L (wordD ws p))∧∃ a,pyD S (wordD ws p)=some a∧flatP a=true:=by
 unfold wordD
 cases hw:ws[p]? with
 | none=>exact ⟨fun a ha=>by cases ha; exact Zbg,_,rfl,rfl⟩
 | some w=>exact ⟨fun a ha=>by cases ha; exact K7,_,rfl,rfl⟩
theorem K6 {L:List Str}:(L.map PyData.str).all flatP=true:=by rw [List.all_map,List.all_eq_true]; exact fun _ _=>rfl
theorem asks_tup {L:List Str}:ZfC (.tup (L.map D.str)) L:=fun {neg ws p S E Q} q=>by
 have h2:pyD S (.tup (L.map D.str))=some (.tuple (L.map PyData.str)):=by
  have:=Z6 L
  unfold pyD
  show (match py (.tup (L.map D.str)) with | some z=>if z.depth≤64 then some z else none | none=>none)=_
  rw [py,Ww]
  exact if_pos (by show PyData.depth _≤64; rw [PyData.depth]; omega)
 obtain ⟨h3,a,ha,fa⟩:=JX (ws:=ws) (p:=p) (L:=L) (S:=S)
 have e:inB (wordD ws p) (.tup (L.map D.str)) S=some (memW L (wordD ws p)):=by
  unfold inB
  simp only [dr,ha,h2]
  rw [fa,K6,← h3 a ha]
  rfl
 unfold Ev inD
 rw [e]
 exact q
theorem asks_lst {L:List Str}:ZfC (.lst (L.map D.str)) L:=fun {neg ws p S E Q} q=>by
 have h2:pyD S (.lst (L.map D.str))=some (.list (L.map PyData.str)):=by
  have:=Z6 L
  unfold pyD
  show (match py (.lst (L.map D.str)) with | some z=>if z.depth≤64 then some z else none | none=>none)=_
  rw [py,Ww]
  exact if_pos (by show PyData.depth _≤64; rw [PyData.depth]; omega)
 obtain ⟨h3,a,ha,fa⟩:=JX (ws:=ws) (p:=p) (L:=L) (S:=S)
 have e:inB (wordD ws p) (.lst (L.map D.str)) S=some (memW L (wordD ws p)):=by
  unfold inB
  simp only [dr,ha,h2]
  rw [← h3 a ha]
 unfold Ev inD
 rw [e]
 exact q
end
def KL (c:Nat):Bool:=decide (48≤c∧c≤57)
def figsOf (w:Str):List Nat:=match w.cps.toList with
 | 45 :: r=>r
 | l=>l
theorem Jg {w:Str}:Txt.removeprefix w "-" = ⟨(figsOf w).toArray⟩:=by
 rw [StrLaws.removeprefix_eq,StrLaws.subAt_eq]
 have h1:(("-" : Str)).length=1:=rfl
 have h2:(("-" : Str)).cps.toList=[45]:=rfl
 have hl:w.length=w.cps.toList.length:=by rw [Y2]
 rw [h1,h2,hl]
 unfold figsOf
 cases e:w.cps.toList with
 | nil=>simp; exact str_lit w ▸ by rw [e]
 | cons c r=>
  by_cases hc:c=45
  ·subst hc
   simp
  ·have e2:((c == 45):Bool)=false:=by simpa using hc
   simp [e2,hc]
   exact (str_lit w).trans (by rw [e])
def ZcE (w:Str):Option Int:=
 if !(decide (1≤(figsOf w).length∧(figsOf w).length≤10) && (figsOf w).all KL) then none
 else if decide ((figsOf w)[0]? = some 48) && !decide (w = "0") then none
 else match intText? w with
  | some n=>if -1000000000≤n∧n≤1000000000 then some n else none
  | none=>none
theorem GH {w:Str} (h1:1≤(figsOf w).length) (h2:w.length≤4300) (h:(figsOf w).all KL=true):∃ n,intText? w=some n:=by
 have ha:NumText.AllDigits (figsOf w):=fun c hc=>by
  have:=List.all_eq_true.mp h c hc
  unfold KL at this
  exact of_decide_eq_true this
 have ne:figsOf w ≠ []:=fun e=>by rw [e] at h1; exact absurd h1 (by decide)
 unfold figsOf at ha ne
 split at ha
 ·rename_i r e
  rw [e] at ne
  exact ⟨_,PySem.intText_neg e ha ne h2⟩
 ·rename_i l e
  exact ⟨_,PySem.intText_digits ha (by
   split at ne
   ·rename_i r hr; exact absurd hr (e r)
   ·exact ne) h2⟩
section
variable {S:Za} {E:XP} {Q:D→Za→Prop}
theorem ZbH (c:Nat):strIn ⟨#[c]⟩ "0123456789" = KL c:=by
 have h1:strIn ⟨#[c]⟩ "0123456789" = decide (c ∈ (("0123456789" : Str)).cps.toList):=rfl
 rw [h1]
 unfold KL
 by_cases h:48≤c∧c≤57
 ·have h2:c ∈ (("0123456789" : Str)).cps.toList:=by
   have:∀ c ∈ List.range 58,48≤c→c ∈ (("0123456789" : Str)).cps.toList:=by decide +kernel
   exact this c (List.mem_range.mpr (by omega)) h.1
  rw [decide_eq_true h2,decide_eq_true h]
 ·rw [decide_eq_false h,decide_eq_false (fun z=>by
   have:∀ c ∈ (("0123456789" : Str)).cps.toList,48≤c∧c≤57:=by decide +kernel
   exact h (this c z))]
theorem Kt (P:Nat→Bool) {t:Tg} {te:EM} {τ:DSt} {x:Str} {PL:List D→Za→Prop} (hl:x.length≤1000) (h:∀ c:Nat,∃ τ1,t.bind (.str ⟨#[c]⟩) τ=some τ1∧∀ (Q:D→Za→Prop),Q (.bl (P c)) S→Ev (te τ1) S (fun _ _ _=>False) Q)
  (q:PL ((x.cps.toList.map P).map D.bl) S):Ev (noErr (compL t tYesD te τ (chS x) [])) S E PL:=by
 have e:(chS x).map (fun d=>D.bl (match d with
  | .str y=>P (y.cps.getD 0 0)
  | _=>false))=(x.cps.toList.map P).map D.bl:=by
  unfold chS
  rw [List.map_map,List.map_map]
  rfl
 refine Qn (fun d=>D.bl (match d with
  | .str y=>P (y.cps.getD 0 0)
  | _=>false)) ?_ (fun d hd=>?_) (by rw [e]; exact q)
 ·unfold chS
  rw [List.length_map,← Y2]
  exact Nat.le_trans hl (by rw [sizeLine_eq]; decide)
 ·obtain ⟨c,_,rfl⟩:=List.mem_map.mp hd
  exact h c
def numD (w:Str):D:=match ZcE w with
 | some i=>.int i
 | none=>.non
theorem Ve {w:Str} (sg:Sg w) (hl:w.length≤4000) (q:Q (numD w) S):Ev (m_q16 [.str w]) S E Q:=by
 have z:=zs
 unfold m_q16
 rw [Zl]
 unfold ZcW
 simp [startD,wipeD]
 have er:∀ {Q:D→Za→Prop},Q (.str ⟨(figsOf w).toArray⟩) S→Ev (rmpreD (.str w) [.str "-"]) S E Q:=fun {Q} q=>by
  unfold rmpreD
  rw [ZN,Jg]
  refine ⟨?_,q⟩
  have fl:(figsOf w).length≤w.length:=by
   rw [Y2]
   unfold figsOf
   split
   ·rename_i r e; rw [e,List.length_cons]; omega
   ·rename_i l e; exact Nat.le_refl _
  have sub:∀ c ∈ figsOf w,c ∈ w.cps.toList:=fun c hc=>by
   unfold figsOf at hc
   split at hc
   ·rename_i r e; rw [e]; exact List.mem_cons_of_mem _ hc
   ·exact hc
  rw [Bool.and_eq_true]
  refine ⟨decide_eq_true (by omega),?_⟩
  unfold KS
  rw [Bool.and_eq_true]
  refine ⟨sg_iff.mpr fun c hc=>sg c (by simpa using sub c (by simpa using hc)),decide_eq_true ?_⟩
  show (figsOf w).toArray.size≤sizeLine
  rw [List.size_toArray]
  omega
 refine ⟨rfl,er ?_⟩
 have le:∀ {S:Za} {E:XP} {Q:D→Za→Prop},Ev (lenSD [D.str ⟨(figsOf w).toArray⟩]) S E Q=Q (.int (figsOf w).length) S:=fun {S E Q}=>by rw [JO,Kx]
 rw [le]
 unfold numD ZcE at q
 simp only [ZaE,Zm]
 by_cases h1:1≤(figsOf w).length
 case neg=>
  rw [if_neg (by simp; omega)]
  rw [decide_eq_false (fun z=>h1 z.1)] at q
  simpa using q
 rw [if_pos (decide_eq_true (by omega))]
 by_cases h2:(figsOf w).length≤10
 case neg=>
  rw [if_neg (by simp; omega)]
  rw [decide_eq_false (fun z=>h2 z.2)] at q
  simpa using q
 rw [if_pos (decide_eq_true (by omega))]
 rw [decide_eq_true ⟨h1,h2⟩,Bool.true_and] at q
 simp only [GA]
 refine Kt KL (x:=⟨(figsOf w).toArray⟩) (by rw [Kx]; omega) (fun c=>⟨_,Zz,fun Q q=>?_⟩) ?_
 ·simp
  rw [ZaC,ZbH]
  exact q
 rw [JL]
 have ea:(((⟨(figsOf w).toArray⟩:Str).cps.toList.map KL).all id)=(figsOf w).all KL:=by rw [List.all_map]; simp
 rw [ea]
 cases h3:(figsOf w).all KL with
 | false=>
  rw [h3] at q
  simpa using q
 | true=>
  rw [h3] at q
  rw [Zm,if_pos rfl]
  simp only [Bool.not_true,Bool.false_eq_true,if_false] at q
  cases ef:figsOf w with
  | nil=>rw [ef] at h1; exact absurd h1 (by decide)
  | cons c r=>
   rw [ef] at q
   rw [ZaD]
   refine ⟨c,by simp,?_⟩
   have wl:w.length≤11:=by
    rw [Y2]
    unfold figsOf at h2
    split at h2
    ·rename_i r e; rw [e,List.length_cons]; omega
    ·omega
   obtain ⟨n,hn⟩:=GH h1 (by omega) h3
   have ei:∀ {Q:D→Za→Prop},Q (.int n) S→Ev (intSD [.str w]) S E Q:=fun {Q} q=>by
    unfold intSD
    simp only [hn]
    rw [ZN]
    exact ⟨decide_eq_true (by omega),q⟩
   have ec:((⟨#[c]⟩:Str) == "0")=decide (c=48):=by
    have e1:((⟨#[c]⟩:Str) == "0")=decide ((⟨#[c]⟩:Str) = "0"):=rfl
    rw [e1]
    by_cases h:c=48
    ·subst h; rfl
    ·rw [decide_eq_false h]
     exact decide_eq_false fun z=>h (by
      have e2:=congrArg (fun x:Str=>x.cps.toList) z
      have e3:(("0" : Str)).cps.toList=[48]:=rfl
      simp only [e3] at e2
      simpa using e2)
   have last:Q (match (if -1000000000≤n∧n≤1000000000 then some n else none) with
    | some i=>.int i
    | none=>.non) S→(if decide ((-1000000000:Int)≤n)=true then if decide (n≤(1000000000:Int))=true then Q (.int n) S else Q .non S else Q .non S):=fun q=>by
    by_cases a:(-1000000000:Int)≤n
    ·by_cases b:n≤(1000000000:Int)
     ·rw [if_pos ⟨a,b⟩] at q
      rw [if_pos (decide_eq_true a),if_pos (decide_eq_true b)]; exact q
     ·rw [if_neg (fun z=>b z.2)] at q
      rw [if_pos (decide_eq_true a),if_neg (by simpa using b)]; exact q
    ·rw [if_neg (fun z=>a z.1)] at q
     rw [if_neg (by simpa using a)]; exact q
   rw [hn] at q
   rw [Vk]
   rw [if_neg Bool.false_ne_true,ec,Zm]
   have fin:Ev (intSD [D.str w]) S (fun C fs S'=>E C fs S') (fun d S'=>
     Ev (leD (D.int (-1000000000)) d) S' (fun C fs S'=>E C fs S') fun z S3=>
      Ev (asB z) S3 (fun C fs S'=>E C fs S') fun t S4=>
       if t=true then
        Ev (leD d (D.int 1000000000)) S4 (fun C fs S'=>E C fs S') fun x S1=>
         Ev (asB x) S1 (fun C fs S'=>E C fs S') fun x S1=>if x=true then Q d S1 else Q D.non S1
       else Q D.non S4)∨¬ Q (match (if -1000000000≤n∧n≤1000000000 then some n else none) with
    | some i=>.int i
    | none=>.non) S:=by
    by_cases h:Q (match (if -1000000000≤n∧n≤1000000000 then some n else none) with
     | some i=>.int i
     | none=>.non) S
    ·left
     refine ei ?_
     simp only [ZaE,Zm]
     exact last h
    ·exact .inr h
   by_cases hc:c=48
   ·rw [decide_eq_true hc,if_pos rfl]
    by_cases hw:w = "0"
    ·rw [if_pos hw]
     rw [decide_eq_true hw,Bool.not_true,Bool.and_false,if_neg Bool.false_ne_true] at q
     exact fin.resolve_right fun z=>z q
    ·rw [if_neg hw]
     subst hc
     rw [decide_eq_false hw] at q
     simpa using q
   ·rw [decide_eq_false hc,if_neg Bool.false_ne_true]
    have e0:decide ((c :: r)[0]? = some 48)=false:=decide_eq_false (by simpa using hc)
    rw [e0,Bool.false_and,if_neg Bool.false_ne_true] at q
    exact fin.resolve_right fun z=>z q
end
def hdW (w:Str):Str:=⟨(w.cps.toList.take 1).toArray⟩
def tlW (w:Str):Str:=⟨(w.cps.toList.drop 1).toArray⟩
def sumH:Nat→List Str→Nat→Rdr D
 | 0,_,p=>.error p
 | n+1,ws,p=>match ws[p]? with
  | none=>.error p
  | some w=>if w = "(" ∧ 1≤n then bindW (sumH n ws (p+1)) fun a p1=>bindW (oneW ws p1 ["+", "-", "*"]) fun s p2=>bindW (sumH n ws p2) fun b p3=>bindW (takeW ws p3 ")") fun _ p4=>.ok (.tup [.str s,a,b],p4)
   else if (hdW w = "@" ∨ hdW w = "$")∧isN (.str (tlW w))=true then .ok (if hdW w = "@" then .str (tlW w) else .tup [.str "purse",.str (tlW w)],p+1)
   else match ZcE w with
    | some i=>.ok (.int i,p+1)
    | none=>.error p
def Wds (ws:List Str):Prop:=(∀ w ∈ ws,Sg w∧w.length≤4000)∧ws.length≤100000
theorem ZbA {neg:Bool} {w:Str} {S:Za} {E:XP} {Q:D→Za→Prop}:Ev (isD neg (.str w) .non) S E Q=Q (.bl neg) S:=by cases neg <;> rfl
theorem Zbz {neg:Bool} {i:Int} {S:Za} {E:XP} {Q:D→Za→Prop}:Ev (isD neg (.int i) .non) S E Q=Q (.bl neg) S:=by cases neg <;> rfl
theorem JN {neg:Bool} {S:Za} {E:XP} {Q:D→Za→Prop}:Ev (isD neg .non .non) S E Q=Q (.bl (!neg)) S:=by cases neg <;> rfl
theorem ZdP {c1 c2:Prop} [Decidable c1] [Decidable c2] {X Y:Prop} (h:c1→¬ c2) (y:Y):if c1 then (if c2 then X else Y) else Y:=ZdO h y
section
variable {S0:Za} {h p k:Nat} {ws:List Str} {E:XP} {Q:D→Za→Prop}
theorem W0 (wd:Wds ws) (hl:h < S0.length):∀ {n f p k:Nat} {E:XP} {Q:D→Za→Prop},1≤n→n≤f→Ot (sumH n ws p) (fun d p'=>Q d (rdS S0 h ws p' k)) (fun p'=>E "NoText" [("place",.int (p':Nat))] (rdS S0 h ws p' k))→Ev (m_q4 f [.cel h,.int (n:Nat)]) (rdS S0 h ws p k) E Q
 | n,0,p,k,E,Q,n1,nf,q=>by omega
 | 0,f+1,p,k,E,Q,n1,nf,q=>by omega
 | n+1,f+1,p,k,E,Q,n1,nf,q=>by
  have z:=zs
  rw [m_q4,Zl]
  unfold b_q4
  simp [startD]
  rw [Zk hl rfl rfl]
  simp
  refine YU hl ?_
  rw [sumH] at q
  unfold wordD
  cases hw:ws[p]? with
  | none=>
   rw [hw] at q
   simp
   exact Xn hl rfl q
  | some w=>
   rw [hw] at q
   dsimp only at q
   simp
   rw [ZbA,Zm,if_neg Bool.false_ne_true]
   by_cases c1:w = "(" ∧ 1≤n
   ·rw [if_pos c1,ZX] at q
    rw [if_pos c1.1,if_pos (by omega)]
    rw [XQ hl,Yb]
    refine ⟨_,_,rd_at hl,⟨rfl,show 3 < 1000 by decide⟩,?_⟩
    rw [XR]
    rw [Zk hl rfl rfl]
    simp
    refine W0 (n:=n) wd hl c1.2 (by omega) ?_
    refine ZY q fun a p1 _ q=>?_
    rw [ZX] at q
    rw [Zk hl rfl rfl]
    simp
    refine Za3 (some_:=["+", "-", "*"]) (asks_tup (L:=["+", "-", "*"])) hl ?_
    refine ZY q fun s p2 _ q=>?_
    rw [ZX] at q
    rw [Zk hl rfl rfl]
    simp
    refine W0 (n:=n) wd hl c1.2 (by omega) ?_
    refine ZY q fun b p3 _ q=>?_
    rw [ZX] at q
    rw [Zk hl rfl rfl]
    simp
    refine XS hl ?_
    refine ZY q fun u p4 _ q=>?_
    exact ⟨by omega,q⟩
   ·rw [if_neg c1] at q
    refine ZdP (fun a b=>c1 ⟨a,by omega⟩) ?_
    have hm:=wd.1 w (List.mem_of_getElem? hw)
    have cL:cut w.cps.toList none (some 1)=w.cps.toList.take 1:=by
     unfold cut HT.sIx
     simp
    have cR:cut w.cps.toList (some 1) none=w.cps.toList.drop 1:=by
     cases hh:w.cps.toList with
     | nil=>rfl
     | cons c r=>rw [Zav (by omega) (by simp; omega)]; rfl
    have e1:(⟨(cut w.cps.toList none (some 1)).toArray⟩:Str)=hdW w:=by rw [cL]; rfl
    have e2:(⟨(cut w.cps.toList (some 1) none).toArray⟩:Str)=tlW w:=by rw [cR]; rfl
    rw [e1,e2]
    refine ⟨by omega,?_⟩
    have num:∀ {S1:Za},S1=rdS S0 h ws p k→((hdW w = "@" ∨ hdW w = "$")∧isN (.str (tlW w))=true→False)→Ev (m_q16 [.str w]) S1 (fun C fs S'=>E C fs S') fun d S'=>
      Ev (isD false d D.non) S' (fun C fs S'=>E C fs S') fun x S1=>
       Ev (asB x) S1 (fun C fs S'=>E C fs S') fun b S'=>
        if b=true then
         Ev (mMethI "Reader" "refuse" 1 m_q8 (mVar 0) mNil [some (.cel h),some (.int ((n:Int)+1)),some (.str w),some d,none,none,none]) S' (fun C fs S'=>E C fs S') fun d_1 S'=>
          Ev (getFD ["Reader"] "place" (.cel h)) S' (fun C fs S'=>E C fs S') fun v S2=>
           Ev (addID v (.int 1)) S2 (fun C fs S'=>E C fs S') fun z S4=>
            ∃ C fs,S4[h]? = some (Cell.ins C fs)∧(C = "Reader" ∧ fs.length < 1000)∧Q d (List.set S4 h (Cell.ins C (putFD "place" z fs)))
        else
         Ev (getFD ["Reader"] "place" (.cel h)) S' (fun C fs S'=>E C fs S') fun v S2=>
          Ev (addID v (.int 1)) S2 (fun C fs S'=>E C fs S') fun z S4=>
           ∃ C fs,S4[h]? = some (Cell.ins C fs)∧(C = "Reader" ∧ fs.length < 1000)∧Q d (List.set S4 h (Cell.ins C (putFD "place" z fs))):=fun {S1} eS c2=>by
     subst eS
     rw [if_neg c2] at q
     refine Ve hm.1 hm.2 ?_
     unfold numD
     cases hn:ZcE w with
     | none=>
      rw [hn] at q
      dsimp only
      rw [JN,Zm,Bool.not_false,if_pos rfl]
      exact Xn hl rfl q
     | some i=>
      rw [hn] at q
      dsimp only
      rw [Zbz,Zm,if_neg Bool.false_ne_true,XQ hl,Yb]
      refine ⟨_,_,rd_at hl,⟨rfl,show 3 < 1000 by decide⟩,?_⟩
      rw [XR]
      exact q
    by_cases c2:hdW w = "@" ∨ hdW w = "$"
    ·rw [if_pos c2]
     refine XF (.str _) ?_
     rw [Zm]
     cases c3:isN (.str (tlW w)) with
     | true=>
      rw [if_pos ⟨c2,c3⟩] at q
      rw [if_pos rfl,XQ hl,Yb]
      refine ⟨_,_,rd_at hl,⟨rfl,show 3 < 1000 by decide⟩,?_⟩
      rw [XR]
      by_cases c4:hdW w = "@"
      ·rw [if_pos c4] at q
       rw [if_pos c4]
       exact q
      ·rw [if_neg c4] at q
       rw [if_neg c4]
       exact ⟨by omega,q⟩
     | false=>
      rw [if_neg Bool.false_ne_true]
      exact num rfl fun z=>by rw [c3] at z; exact absurd z.2 (by decide)
    ·rw [if_neg c2]
     exact num rfl fun z=>c2 z.1
end
def wayW (s:Str):Str:=if s = ">" then "above" else "same"
def cmpH (ws:List Str) (p:Nat):Rdr D:=bindW (sumH 5 ws p) fun a p1=>bindW (oneW ws p1 [">", "="]) fun s p2=>bindW (sumH 5 ws p2) fun b p3=>.ok (.tup [.str (wayW s),a,b],p3)
def testH:Nat→List Str→Nat→Rdr D
 | 0,_,p=>.error p
 | n+1,ws,p=>match ws[p]? with
  | none=>cmpH ws p
  | some w=>if w ∈ (["news", "known"]:List Str) then bindW (nameW ws (p+1)) fun x p1=>.ok (.tup [.str w,.str x],p1)
   else if w ∈ (["not", "{"]:List Str) then (if n=0 then .error p else bindW (testH n ws (p+1)) fun a p1=>if w = "not" then .ok (.tup [.str w,a],p1) else
    bindW (takeW ws p1 "&") fun _ p2=>bindW (testH n ws p2) fun b p3=>bindW (takeW ws p3 "}") fun _ p4=>.ok (.tup [.str "both",a,b],p4))
   else cmpH ws p
theorem oneW_mem {ws L:List Str} {p p':Nat} {s:Str} (h:oneW ws p L = .ok (s,p')):s ∈ L:=by
 unfold oneW at h
 split at h
 ·rename_i w _
  by_cases c:w ∈ L
  ·rw [if_pos c] at h; cases h; exact c
  ·rw [if_neg c] at h; cases h
 ·cases h
section
variable {S0:Za} {h p k:Nat} {ws:List Str} {E:XP} {Q:D→Za→Prop}
theorem JP {tbl:List (Str × Str)} {τ:DSt} {S:Za}:Ev (mListC tbl τ) S E Q=Q (.lst (tbl.map fun p=>.str p.2)) S:=rfl
theorem Q3 {tbl:List (Str × Str)} {τ:DSt} {S:Za} {PL:List D→Za→Prop}:Ev (mItemsC tbl τ) S E PL=PL (tbl.map fun p=>.tpo [.str p.1,.str p.2]) S:=rfl
theorem ZeD {s:Str} {x0 x1 x2 x3 x5:Option D} {S:Za} {PL:List D→Za→Prop} (hs:s ∈ ([">", "="]:List Str)) (q:PL [.str (wayW s)] S) :
  Ev (noErr (compL (.tp [.nm 6,.nm 7]) (mAsT (mBin (eqvD false) (mVar 7) (mVar 4))) (mVar 6) [x0,x1,x2,x3,some (.str s),x5,none,none] [.tpo [.str "above",.str ">"],.tpo [.str "same",.str "="]] [])) S E PL:=by
 have z:=zs
 refine ev_noErr ?_
 unfold compL
 simp
 unfold compL
 simp
 unfold compL
 have e1:((">" : Str) == (">" : Str))=true:=by decide +kernel
 have e2:(("=" : Str) == (">" : Str))=false:=by decide +kernel
 have e3:((">" : Str) == ("=" : Str))=false:=by decide +kernel
 have e4:(("=" : Str) == ("=" : Str))=true:=by decide +kernel
 simp only [List.mem_cons,List.not_mem_nil,or_false] at hs
 rcases hs with rfl | rfl
 ·have e:wayW ">" = "above" := by decide +kernel
  rw [e] at q
  simp only [Ze,Zay,Zaz,XZ,Vk,Zm,Z9,List.getElem?_cons_succ,List.getElem?_cons_zero,e1,e2,if_true,if_false,Bool.false_eq_true,ZN,ZI]
  exact ⟨decide_eq_true (by omega),q⟩
 ·have e:wayW "=" = "same" := by decide +kernel
  rw [e] at q
  simp only [Ze,Zay,Zaz,XZ,Vk,Zm,Z9,List.getElem?_cons_succ,List.getElem?_cons_zero,e3,e4,if_true,if_false,Bool.false_eq_true,ZN,ZI]
  exact ⟨decide_eq_true (by omega),q⟩
theorem Zau (wd:Wds ws) (hl:h < S0.length) {d:Int} {v3 v4 v5:Option D} (q:Ot (cmpH ws p) (fun d p'=>Q d (rdS S0 h ws p' k)) (fun p'=>E "NoText" [("place",.int (p':Nat))] (rdS S0 h ws p' k))) :
  EvR (sThen (sSet 3 (mMethI "Reader" "sum_here" 2 (m_q4 8) (mVar 0) (mCons (mC (.int 5)) mNil))) (sThen (sSet 4 (mMethI "Reader" "one_of" 2 m_q7 (mVar 0) (mCons (mListC [("above", ">"),("same", "=")]) mNil))) (sRet (mTup (mCons (mBin ixD (mComp (mItemsC [("above", ">"),("same", "=")]) [6,7] (.tp [(.nm 6),(.nm 7)]) (mAsT (mBin (eqvD false) (mVar 7) (mVar 4))) (mVar 6)) (mC (.int 0))) (mCons (mVar 3) (mCons (mMethI "Reader" "sum_here" 2 (m_q4 8) (mVar 0) (mCons (mC (.int 5)) mNil)) mNil)))))) [some (.cel h),some (.int d),some (wordD ws p),v3,v4,v5,none,none] (rdS S0 h ws p k)) (fun C fs _ S'=>E C fs S') (retP Q):=by
 have z:=zs
 unfold cmpH at q
 rw [ZX] at q
 simp
 rw [Zk hl rfl rfl]
 simp
 refine W0 (n:=5) wd hl (by omega) (by omega) ?_
 refine ZY q fun a p1 _ q=>?_
 rw [ZX] at q
 rw [Zk hl rfl rfl]
 simp
 rw [JP]
 refine Za3 (some_:=[">", "="]) (asks_lst (L:=[">", "="])) hl ?_
 refine ZY q fun s p2 hs q=>?_
 rw [ZX] at q
 rw [Q3]
 refine ZeD (oneW_mem hs) ?_
 refine ⟨_,rfl,?_⟩
 rw [Zk hl rfl rfl]
 simp
 refine W0 (n:=5) wd hl (by omega) (by omega) ?_
 refine ZY q fun b p3 _ q=>?_
 exact ⟨by omega,q⟩
theorem U6 (wd:Wds ws) (hl:h < S0.length):∀ {n f p k:Nat} {E:XP} {Q:D→Za→Prop},1≤n→n≤f→Ot (testH n ws p) (fun d p'=>Q d (rdS S0 h ws p' k)) (fun p'=>E "NoText" [("place",.int (p':Nat))] (rdS S0 h ws p' k))→Ev (m_q0 f [.cel h,.int (n:Nat)]) (rdS S0 h ws p k) E Q
 | n,0,p,k,E,Q,n1,nf,q=>by omega
 | 0,f+1,p,k,E,Q,n1,nf,q=>by omega
 | n+1,f+1,p,k,E,Q,n1,nf,q=>by
  have z:=zs
  rw [m_q0,Zl]
  unfold b_q0
  rw [Zv]
  simp [startD,-Zv]
  rw [Zk hl rfl rfl]
  simp [-Zv]
  refine YU hl ?_
  rw [testH] at q
  rw [Zv]
  simp [-Zv]
  refine ⟨by omega,asks_tup (L:=["news", "known"]) ?_⟩
  cases hw:ws[p]? with
  | none=>
   rw [hw] at q
   dsimp only at q
   have e:wordD ws p = .non:=by unfold wordD; rw [hw]
   have m1:∀ L,memW L (wordD ws p)=false:=fun L=>by rw [e]; rfl
   rw [m1,if_neg Bool.false_ne_true,Zm,if_neg Bool.false_ne_true]
   rw [Zv]
   simp [-Zv]
   refine ⟨by omega,asks_tup (L:=["not", "{"]) ?_⟩
   rw [m1,if_neg Bool.false_ne_true,Zm,if_neg Bool.false_ne_true]
   exact Zau wd hl q
  | some w=>
   rw [hw] at q
   dsimp only at q
   have e:wordD ws p = .str w:=by unfold wordD; rw [hw]
   have m1:∀ L,memW L (wordD ws p)=decide (w ∈ L):=fun L=>by rw [e]; rfl
   rw [m1,if_neg Bool.false_ne_true,Zm]
   by_cases c1:w ∈ (["news", "known"]:List Str)
   ·rw [if_pos c1] at q
    rw [if_pos (decide_eq_true c1)]
    simp
    rw [XQ hl,Yb]
    refine ⟨_,_,rd_at hl,⟨rfl,show 3 < 1000 by decide⟩,?_⟩
    rw [XR]
    rw [Zk hl rfl rfl]
    simp
    refine VY hl ?_
    rw [ZX] at q
    refine ZY q fun x p1 _ q=>?_
    rw [e]
    exact ⟨by omega,q⟩
   ·rw [if_neg c1] at q
    rw [if_neg (by rw [decide_eq_false c1]; exact Bool.false_ne_true)]
    rw [Zv]
    simp [-Zv]
    refine ⟨by omega,asks_tup (L:=["not", "{"]) ?_⟩
    rw [m1,if_neg Bool.false_ne_true,Zm]
    by_cases c2:w ∈ (["not", "{"]:List Str)
    ·rw [if_pos c2] at q
     rw [if_pos (decide_eq_true c2)]
     simp
     by_cases n0:n=0
     ·rw [if_pos n0] at q
      rw [if_pos (by omega)]
      exact Xn hl rfl q
     ·rw [if_neg n0,ZX] at q
      rw [if_neg (by omega),XQ hl,Yb]
      refine ⟨_,_,rd_at hl,⟨rfl,show 3 < 1000 by decide⟩,?_⟩
      rw [XR]
      rw [Zk hl rfl rfl]
      simp
      refine U6 (n:=n) wd hl (by omega) (by omega) ?_
      refine ZY q fun a p1 _ q=>?_
      rw [WI,if_neg Bool.false_ne_true,Zm]
      by_cases c3:w = "not"
      ·rw [if_pos c3] at q
       rw [if_pos (decide_eq_true (by rw [hw,c3])),e]
       exact ⟨by omega,q⟩
      ·rw [if_neg c3,ZX] at q
       rw [if_neg (by rw [decide_eq_false (fun z=>c3 (by rw [hw] at z; exact Option.some.inj z))]; exact Bool.false_ne_true)]
       rw [Zk hl rfl rfl]
       simp
       refine XS hl ?_
       refine ZY q fun u p2 _ q=>?_
       rw [ZX] at q
       rw [Zk hl rfl rfl]
       simp
       refine U6 (n:=n) wd hl (by omega) (by omega) ?_
       refine ZY q fun b p3 _ q=>?_
       rw [ZX] at q
       rw [Zk hl rfl rfl]
       simp
       refine XS hl ?_
       refine ZY q fun u p4 _ q=>?_
       exact ⟨by omega,q⟩
    ·rw [if_neg c2] at q
     rw [if_neg (by rw [decide_eq_false c2]; exact Bool.false_ne_true)]
     exact Zau wd hl q
end
abbrev Rds (α:Type):=Except (Option Nat) (α × Nat × Nat)
def bindS {α β:Type} (r:Rds α) (f:α→Nat→Nat→Rds β):Rds β:=match r with
 | .ok (a,p,k)=>f a p k
 | .error p=>.error p
def liftS {α:Type} (r:Rdr α) (k:Nat):Rds α:=match r with
 | .ok (a,p)=>.ok (a,p,k)
 | .error p=>.error (some p)
def Os {α:Type} (r:Rds α) (ok:α→Nat→Nat→Prop) (er:Nat→Prop):Prop:=match r with
 | .ok (a,p,k)=>ok a p k
 | .error (some p)=>er p
 | .error none=>False
theorem ZO {α β:Type} {r:Rds α} {f:α→Nat→Nat→Rds β} {ok:β→Nat→Nat→Prop} {er:Nat→Prop}:Os (bindS r f) ok er=Os r (fun a p k=>Os (f a p k) ok er) er:=by
 cases r with
 | ok x=>rfl
 | error p=>cases p <;> rfl
theorem Yk {α:Type} {r:Rdr α} {k:Nat} {ok:α→Nat→Nat→Prop} {er:Nat→Prop}:Os (liftS r k) ok er=Ot r (fun a p=>ok a p k) er:=by
 cases r <;> rfl
theorem XN {α:Type} {r:Rds α} {ok ok':α→Nat→Nat→Prop} {er er':Nat→Prop} (h:Os r ok er) (k:∀ a p k,r = .ok (a,p,k)→ok a p k→ok' a p k) (k2:∀ p,er p→er' p):Os r ok' er':=by
 cases r with
 | error p=>cases p with
  | none=>exact h
  | some p=>exact k2 p h
 | ok x=>exact k x.1 x.2.1 x.2.2 rfl h
theorem ZU {α:Type} {r:Rdr α} {ok ok':α→Nat→Prop} {er er':Nat→Prop} (h:Ot r ok er) (k:∀ a p,r = .ok (a,p)→ok a p→ok' a p) (k2:∀ p,er p→er' p):Ot r ok' er':=by
 cases r with
 | error p=>exact k2 p h
 | ok x=>exact k x.1 x.2 rfl h
def clD:Option Str→D
 | none=>.non
 | some w=>.str w
def Xo:List Str:=["set", "say", "pay", "if", "while"]
def UZ:List Str:=["if", "while"]
def innerH (rows:Nat→Option Str→Nat→Nat→Rds (List D)) (within:Nat) (ws:List Str) (p k:Nat):Rds (List D):=
 bindS (liftS (takeW ws p "[") k) fun _ p1 k1=>bindS (rows within (some "]") p1 k1) fun rs p2 k2=>bindS (liftS (takeW ws p2 "]") k2) fun _ p3 k3=>.ok (rs,p3,k3)
def rowH (rows:Nat→Option Str→Nat→Nat→Rds (List D)) (within:Nat) (ws:List Str) (p k:Nat):Rds D:=match ws[p]? with
 | none=>.error (some p)
 | some w=>if k=30∨(w ∉ Xo∨(w ∈ UZ∧within=4)) then .error (some p)
  else if w = "say" then bindS (liftS (sumH 5 ws (p+1)) (k+1)) fun d p1 k1=>.ok (.tup [.str w,d],p1,k1)
  else if w = "set" then bindS (liftS (nameW ws (p+1)) (k+1)) fun x p1 k1=>bindS (liftS (sumH 5 ws p1) k1) fun d p2 k2=>.ok (.tup [.str w,.str x,d],p2,k2)
  else if w = "pay" then bindS (liftS (nameW ws (p+1)) (k+1)) fun x p1 k1=>bindS (liftS (nameW ws p1) k1) fun y p2 k2=>bindS (liftS (sumH 5 ws p2) k2) fun d p3 k3=>.ok (.tup [.str w,.str x,.str y,d],p3,k3)
  else bindS (liftS (testH 4 ws (p+1)) (k+1)) fun t p1 k1=>bindS (innerH rows (within+1) ws p1 k1) fun a p2 k2=>if w = "while" then .ok (.tup [.str w,t,.tup a],p2,k2) else
   bindS (innerH rows (within+1) ws p2 k2) fun b p3 k3=>.ok (.tup [.str w,t,.tup a,.tup b],p3,k3)
def loopH (rows:Nat→Option Str→Nat→Nat→Rds (List D)) (within:Nat) (cl:Option Str) (ws:List Str):Nat→List D→Nat→Nat→Rds (List D)
 | 0,_,_,_=>.error none
 | g+1,acc,p,k=>if ws[p]? = cl then .ok (acc,p,k)
  else if acc=[] then bindS (rowH rows within ws p k) fun r p2 k2=>loopH rows within cl ws g (acc++[r]) p2 k2
  else if k=30 then .error (some p) else bindS (liftS (takeW ws p ";") k) fun _ p1 k1=>bindS (rowH rows within ws p1 k1) fun r p2 k2=>loopH rows within cl ws g (acc++[r]) p2 k2
def rowsH (ws:List Str):Nat→Nat→Option Str→Nat→Nat→Rds (List D)
 | 0,_,_,_,_=>.error none
 | f+1,within,cl,p,k=>loopH (fun within cl p k=>rowsH ws f within cl p k) within cl ws 1000 [] p k
section
variable {S0:Za} {h p k:Nat} {ws:List Str} {E:XP} {Q:D→Za→Prop}
theorem Zd5 {c:Cell} (hl:h < S0.length):rdS S0 h ws p k++[c]=rdS (S0++[c]) h ws p k:=by
 unfold rdS
 rw [List.set_append_left _ _ hl]
theorem Zdo {neg:Bool} {S:Za} {cl:Option Str}:Ev (eqvD neg (wordD ws p) (clD cl)) S E Q=Q (.bl (if neg then !decide (ws[p]? = cl) else decide (ws[p]? = cl))) S:=by
 cases cl with
 | some w=>exact WI
 | none=>
  show Ev (eqvD neg (wordD ws p) .non) S E Q=_
  unfold wordD
  cases hw:ws[p]? with
  | none=>rw [WH (show pyD S .non=some .none from rfl) (show pyD S .non=some .none from rfl)]; simp [PyData.eqv]
  | some x=>rw [WH (show pyD S (.str x)=some (.str x) from rfl) (show pyD S .non=some .none from rfl)]; simp [PyData.eqv]
def V5 (ws:List Str) (h:Nat) (r:List D→M D) (rows:Nat→Option Str→Nat→Nat→Rds (List D)):Prop:=∀ (within:Nat) (cl:Option Str) (p k:Nat) (S0:Za) (E:XP) (Q:D→Za→Prop),h < S0.length →
 Os (rows within cl p k) (fun rs p' k'=>∀ S1,Gr S0 S1→Q (.tup rs) (rdS S1 h ws p' k')) (fun p'=>∀ S1 k',Gr S0 S1→E "NoText" [("place",.int (p':Nat))] (rdS S1 h ws p' k')) →
 Ev (r [.cel h,.int (within:Nat),clD cl]) (rdS S0 h ws p k) E Q
theorem QL {r:List D→M D} {rows:Nat→Option Str→Nat→Nat→Rds (List D)} (R:V5 ws h r rows) {within:Nat} (hl:h < S0.length)
  (q:Os (innerH rows within ws p k) (fun rs p' k'=>∀ S1,Gr S0 S1→Q (.tup rs) (rdS S1 h ws p' k')) (fun p'=>∀ S1 k',Gr S0 S1→E "NoText" [("place",.int (p':Nat))] (rdS S1 h ws p' k'))) :
  Ev (mFn ["self", "within", "rows"] (b_q11 r) [.cel h,.int (within:Nat)]) (rdS S0 h ws p k) E Q:=by
 rw [Zl]
 unfold b_q11
 simp [startD]
 unfold innerH at q
 rw [ZO,Yk] at q
 rw [Zk hl rfl rfl]
 simp
 refine XS hl ?_
 refine ZU q (fun u p1 _ q=>?_) (fun p' e=>e S0 k Gr.refl)
 rw [ZO] at q
 rw [Zk hl rfl rfl]
 simp
 refine R within (some "]") p1 k S0 _ _ hl ?_
 refine XN q (fun rs p2 k2 _ q S1 g1=>?_) (fun p' e=>e)
 have hl1:h < S1.length:=Nat.lt_of_lt_of_le hl g1.1
 rw [ZO,Yk] at q
 rw [Zk hl1 rfl rfl]
 simp
 refine XS hl1 ?_
 refine ZU q (fun u p3 _ q=>?_) (fun p' e=>e S1 k2 g1)
 exact q S1 g1
theorem Zd6 {r:List D→M D} {rows:Nat→Option Str→Nat→Nat→Rds (List D)} (wd:Wds ws) (R:V5 ws h r rows) {within:Nat} (hl:h < S0.length)
  (q:Os (rowH rows within ws p k) (fun d p' k'=>∀ S1,Gr S0 S1→Q d (rdS S1 h ws p' k')) (fun p'=>∀ S1 k',Gr S0 S1→E "NoText" [("place",.int (p':Nat))] (rdS S1 h ws p' k'))) :
  Ev (mFn ["self", "within", "word", "test", "first", "cell", "purse", "other"] (b_q5 (mFn ["self", "within", "rows"] (b_q11 r))) [.cel h,.int (within:Nat)]) (rdS S0 h ws p k) E Q:=by
 have z:=zs
 rw [Zl]
 unfold b_q5
 rw [Zv]
 simp [startD,-Zv]
 rw [Zk hl rfl rfl]
 simp [-Zv]
 refine YU hl ?_
 rw [Zv]
 simp [-Zv]
 rw [Zw (C := "Reader") (rd_at hl) rfl]
 simp [-Zv]
 unfold rowH at q
 by_cases k30:k=30
 ·rw [if_pos (by omega)]
  refine Xn hl rfl ?_
  cases hw:ws[p]? with
  | none=>rw [hw] at q; exact q S0 k Gr.refl
  | some w=>
   rw [hw] at q
   dsimp only at q
   rw [if_pos (.inl k30)] at q
   exact q S0 k Gr.refl
 rw [if_neg (by omega)]
 refine asks_tup (L:=Xo) ?_
 cases hw2:ws[p]? with
 | none=>
  rw [hw2] at q
  have e:wordD ws p = .non:=by unfold wordD; rw [hw2]
  have m1:∀ L,memW L (wordD ws p)=false:=fun L=>by rw [e]; rfl
  rw [m1,if_pos rfl,Zm,Bool.not_false,if_pos rfl]
  exact Xn hl rfl (q S0 k Gr.refl)
 | some w=>
  rw [hw2] at q
  dsimp only at q
  have e:wordD ws p = .str w:=by unfold wordD; rw [hw2]
  have m1:∀ L,memW L (wordD ws p)=decide (w ∈ L):=fun L=>by rw [e]; rfl
  rw [m1,if_pos rfl,Zm]
  by_cases c1:w ∈ Xo
  case neg=>
   rw [if_pos (.inr (.inl c1))] at q
   rw [if_pos (by rw [decide_eq_false c1]; rfl)]
   exact Xn hl rfl (q S0 k Gr.refl)
  rw [if_neg (by rw [decide_eq_true c1]; exact Bool.false_ne_true)]
  refine asks_tup (L:=UZ) ?_
  rw [m1,if_neg Bool.false_ne_true,Zm]
  by_cases c2:w ∈ UZ∧within=4
  ·rw [if_pos (.inr (.inr c2))] at q
   rw [if_pos (decide_eq_true c2.1),if_pos (by omega)]
   exact Xn hl rfl (q S0 k Gr.refl)
  rw [if_neg (fun z=>by
   rcases z with z | z | z
   ·exact k30 z
   ·exact z c1
   ·exact c2 z)] at q
  refine ZdO (fun a b=>c2 ⟨of_decide_eq_true a,by omega⟩) ?_
  simp
  rw [Zcc hl,Yb]
  refine ⟨_,_,rd_at hl,⟨rfl,show 3 < 1000 by decide⟩,?_⟩
  rw [Zcd,XQ hl,Yb]
  refine ⟨_,_,rd_at hl,⟨rfl,show 3 < 1000 by decide⟩,?_⟩
  rw [XR,WI,if_neg Bool.false_ne_true,Zm]
  have ew:∀ x:Str,decide (ws[p]? = some x)=decide (w=x):=fun x=>by rw [hw2]; simp
  rw [ew]
  by_cases c3:w = "say"
  ·rw [if_pos c3,ZO,Yk] at q
   rw [if_pos (decide_eq_true c3)]
   rw [Zk hl rfl rfl]
   simp
   refine W0 (n:=5) wd hl (by omega) (by omega) ?_
   refine ZU q (fun d p1 _ q=>?_) (fun p' e=>e S0 _ Gr.refl)
   rw [e]
   exact ⟨by omega,q S0 Gr.refl⟩
  rw [if_neg c3] at q
  rw [if_neg (by rw [decide_eq_false c3]; exact Bool.false_ne_true),WI,if_neg Bool.false_ne_true,Zm,ew]
  by_cases c4:w = "set"
  ·rw [if_pos c4,ZO,Yk] at q
   rw [if_pos (decide_eq_true c4)]
   rw [Zk hl rfl rfl]
   simp
   refine VY hl ?_
   refine ZU q (fun x p1 _ q=>?_) (fun p' e=>e S0 _ Gr.refl)
   rw [ZO,Yk] at q
   rw [Zk hl rfl rfl]
   simp
   refine W0 (n:=5) wd hl (by omega) (by omega) ?_
   refine ZU q (fun d p2 _ q=>?_) (fun p' e=>e S0 _ Gr.refl)
   rw [e]
   exact ⟨by omega,q S0 Gr.refl⟩
  rw [if_neg c4] at q
  rw [if_neg (by rw [decide_eq_false c4]; exact Bool.false_ne_true),WI,if_neg Bool.false_ne_true,Zm,ew]
  by_cases c5:w = "pay"
  ·rw [if_pos c5,ZO,Yk] at q
   rw [if_pos (decide_eq_true c5)]
   rw [Zk hl rfl rfl]
   simp
   refine VY hl ?_
   refine ZU q (fun x p1 _ q=>?_) (fun p' e=>e S0 _ Gr.refl)
   rw [ZO,Yk] at q
   rw [Zk hl rfl rfl]
   simp
   refine VY hl ?_
   refine ZU q (fun y p2 _ q=>?_) (fun p' e=>e S0 _ Gr.refl)
   rw [ZO,Yk] at q
   rw [Zk hl rfl rfl]
   simp
   refine W0 (n:=5) wd hl (by omega) (by omega) ?_
   refine ZU q (fun d p3 _ q=>?_) (fun p' e=>e S0 _ Gr.refl)
   rw [e]
   exact ⟨by omega,q S0 Gr.refl⟩
  rw [if_neg c5,ZO,Yk] at q
  rw [if_neg (by rw [decide_eq_false c5]; exact Bool.false_ne_true)]
  rw [Zk hl rfl rfl]
  simp
  refine U6 (n:=4) wd hl (by omega) (by omega) ?_
  refine ZU q (fun t p1 _ q=>?_) (fun p' e=>e S0 _ Gr.refl)
  rw [ZO] at q
  rw [Zk hl rfl rfl]
  simp
  have ei:((within:Int)+1)=((within+1:Nat):Int):=by omega
  rw [ei]
  refine QL R hl ?_
  refine XN q (fun a p2 k2 _ q S1 g1=>?_) (fun p' e=>e)
  have hl1:h < S1.length:=Nat.lt_of_lt_of_le hl g1.1
  rw [WI,if_neg Bool.false_ne_true,Zm,ew]
  by_cases c6:w = "while"
  ·rw [if_pos c6] at q
   rw [if_pos (decide_eq_true c6),e]
   exact ⟨by omega,q S1 g1⟩
  rw [if_neg c6,ZO] at q
  rw [if_neg (by rw [decide_eq_false c6]; exact Bool.false_ne_true)]
  rw [Zk hl1 rfl rfl]
  simp
  rw [ei]
  refine QL R hl1 ?_
  refine XN q (fun b p3 k3 _ q S2 g2=>?_) (fun p' e S2 k' g2=>e S2 k' (g1.trans g2))
  rw [e]
  exact ⟨by omega,q S2 (g1.trans g2)⟩
end
section
variable {S0:Za} {h p k c:Nat} {ws:List Str} {E:XP} {Q:D→Za→Prop}
theorem gr_setN {S0 S1:Za} {c:Nat} {x:Cell} (g:Gr S0 S1) (h:S0.length≤c):Gr S0 (S1.set c x):=⟨by rw [List.length_set]; exact g.1,fun j hj=>by rw [List.getElem?_set_ne (by omega)]; exact g.2 j hj⟩
theorem Zad {S1:Za} (hc:h ≠ c):(rdS S1 h ws p k)[c]? = S1[c]?:=List.getElem?_set_ne hc
theorem Zcf {S1:Za} {x:Cell} (hc:h ≠ c):(rdS S1 h ws p k).set c x=rdS (S1.set c x) h ws p k:=by
 unfold rdS
 rw [List.set_comm _ _ hc]
def J6:TM:=(mAsT (mBin (eqvD true) (mMethI "Reader" "here" 1 m_q13 (mVar 0) mNil) (mVar 2)))
def loopM (r:List D→M D):SM:=(sThen (sIf (mAsT (mBin (eq0D true) (mVar 3) (mLst mNil))) (sThen (sIf (mAsT (mBin (eqvD false) (mUn (fldD ["Reader"] "many") (mVar 0)) (mC (.int 30)))) (sExpr (mMethI "Reader" "refuse" 1 m_q8 (mVar 0) mNil)) sSkip) (sExpr (mMethI "Reader" "take" 2 m_q15 (mVar 0) (mCons (mC (.str ";")) mNil)))) sSkip) (sExpr (mMeth "list" appendD (mVar 3) (mCons (mMethI "Reader" "row_here" 2 r (mVar 0) (mCons (mVar 1) mNil)) mNil))))
theorem Vb (r:List D→M D):b_q2 r=(sThen (sSet 3 (mLstC mNil)) (sThen (whileL J6 (loopM r) 1000) (sRet (mCall tupleD (mCons (mVar 3) mNil))))):=rfl
abbrev rowF (r:List D→M D):List D→M D:=mFn ["self", "within", "word", "test", "first", "cell", "purse", "other"] (b_q5 (mFn ["self", "within", "rows"] (b_q11 r)))
theorem Kg {r:List D→M D} {rows:Nat→Option Str→Nat→Nat→Rds (List D)} {within:Nat} {cl:Option Str} (wd:Wds ws) (R:V5 ws h r rows) (hl:h < S0.length) (hc:S0.length≤c) :
  ∀ {g p k:Nat} {acc:List D} {S1:Za} {ER:Str→List (Str × D)→DSt→Za→Prop} {PR:ND.Flow→Za→Prop},Gr S0 S1→S1[c]? = some (.lst acc)→acc.length+g≤5000 →
  Os (loopH rows within cl ws g acc p k) (fun rs p' k'=>∀ S2,Gr S0 S2→S2[c]? = some (.lst rs)→PR (.nx [some (.cel h),some (.int (within:Nat)),some (clD cl),some (.cel c)]) (rdS S2 h ws p' k')) (fun p'=>∀ S2 k' τ,Gr S0 S2→ER "NoText" [("place",.int (p':Nat))] τ (rdS S2 h ws p' k')) →
  EvR (whileL J6 (loopM (rowF r)) g [some (.cel h),some (.int (within:Nat)),some (clD cl),some (.cel c)] (rdS S1 h ws p k)) ER PR
 | 0,p,k,acc,S1,ER,PR,g1,h1,la,q=>q.elim
 | g+1,p,k,acc,S1,ER,PR,g1,h1,la,q=>by
  have z:=zs
  have ne:h ≠ c:=by omega
  have hl1:h < S1.length:=Nat.lt_of_lt_of_le hl g1.1
  have cl1:c < S1.length:=(List.getElem?_eq_some_iff.mp h1).1
  rw [Q4]
  unfold J6
  simp
  rw [Zk hl1 rfl rfl]
  simp
  refine YU hl1 ?_
  rw [loopH] at q
  rw [Zdo,if_pos rfl,Zm]
  by_cases c1:ws[p]? = cl
  ·rw [if_pos c1] at q
   rw [if_neg (by rw [decide_eq_true c1]; exact Bool.false_ne_true)]
   exact q S1 g1 h1
  rw [if_neg c1] at q
  rw [if_pos (by rw [decide_eq_false c1]; rfl)]
  have row:∀ {p k:Nat},Os (bindS (rowH rows within ws p k) fun r p2 k2=>loopH rows within cl ws g (acc++[r]) p2 k2) (fun rs p' k'=>∀ S2,Gr S0 S2→S2[c]? = some (.lst rs)→PR (.nx [some (.cel h),some (.int (within:Nat)),some (clD cl),some (.cel c)]) (rdS S2 h ws p' k')) (fun p'=>∀ S2 k' τ,Gr S0 S2→ER "NoText" [("place",.int (p':Nat))] τ (rdS S2 h ws p' k')) →
    EvR (sExpr (mMeth "list" appendD (mVar 3) (mCons (mMethI "Reader" "row_here" 2 (rowF r) (mVar 0) (mCons (mVar 1) mNil)) mNil)) [some (.cel h),some (.int (within:Nat)),some (clD cl),some (.cel c)] (rdS S1 h ws p k)) ER fun f S2=>match f with
     | .nx τ2=>EvR (whileL J6 (loopM (rowF r)) g τ2 S2) ER PR
     | .ct τ2=>EvR (whileL J6 (loopM (rowF r)) g τ2 S2) ER PR
     | .bk τ2=>PR (.nx τ2) S2
     | .rt d=>PR (.rt d) S2:=fun {p k} q=>by
   rw [ZO] at q
   simp
   refine ⟨Y6 (by rw [Zad ne]; exact h1),?_⟩
   rw [Zk hl1 rfl rfl]
   simp
   refine Zd6 wd R hl1 ?_
   refine XN q (fun d p2 k2 _ q S2 g2=>?_) (fun p' e S2 k' g2=>e S2 k' _ (g1.trans g2))
   have h2:=g2.at h1
   refine ⟨acc,by rw [Zad ne]; exact h2,by omega,?_⟩
   rw [Zcf ne]
   have g3:Gr S0 (S2.set c (.lst (acc++[d]))):=by
    have:=g1.trans g2
    exact ⟨by rw [List.length_set]; exact this.1,fun j hj=>by rw [List.getElem?_set_ne (by omega)]; exact this.2 j hj⟩
   exact Kg (g:=g) wd R hl hc g3 (List.getElem?_set_self (Nat.lt_of_lt_of_le cl1 g2.1)) (by simp; omega) q
  unfold loopM
  rw [Zv]
  simp [-Wo]
  rw [ZaA (xs:=acc) (by simp only [dr,Zad ne,h1]) rfl,Zm]
  by_cases c2:acc=[]
  ·rw [if_pos c2] at q
   rw [if_neg (by rw [c2]; decide)]
   exact row q
  ·rw [if_neg c2] at q
   rw [if_pos (by cases acc with
    | nil=>exact absurd rfl c2
    | cons a b=>rfl)]
   rw [Zw (C := "Reader") (rd_at hl1) rfl]
   simp only [ZaB,Zm]
   by_cases k30:k=30
   ·rw [if_pos k30] at q
    rw [if_pos (by subst k30; rfl),Wo]
    exact Xn hl1 rfl (q S1 k _ g1)
   ·rw [if_neg k30,ZO,Yk] at q
    rw [if_neg (by simp; omega)]
    rw [Wo]
    rw [Zk hl1 rfl rfl]
    simp [-Wo]
    refine XS hl1 ?_
    refine ZU q (fun u p1 _ q=>?_) (fun p' e=>e S1 k _ g1)
    exact row q
theorem Zce {r:List D→M D} {rows:Nat→Option Str→Nat→Nat→Rds (List D)} (wd:Wds ws) (R:V5 ws h r rows):∀ (within:Nat) (cl:Option Str) (p k:Nat) (S0:Za) (E:XP) (Q:D→Za→Prop),h < S0.length →
  Os (loopH rows within cl ws 1000 [] p k) (fun rs p' k'=>∀ S1,Gr S0 S1→Q (.tup rs) (rdS S1 h ws p' k')) (fun p'=>∀ S1 k',Gr S0 S1→E "NoText" [("place",.int (p':Nat))] (rdS S1 h ws p' k')) →
  Ev (mFn ["self", "within", "closing", "found"] (b_q2 (rowF r)) [.cel h,.int (within:Nat),clD cl]) (rdS S0 h ws p k) E Q:=fun within cl p k S0 E Q hl q=>by
 have z:=zs
 rw [Zl,Vb]
 simp [startD]
 rw [Zd5 hl]
 have g0:Gr S0 (S0++[Cell.lst []]):=Gr.add _
 have c0:(S0++[Cell.lst []])[S0.length]? = some (.lst []):=by rw [List.getElem?_append_right (Nat.le_refl _),Nat.sub_self]; rfl
 have el:(rdS S0 h ws p k).length=S0.length:=by unfold rdS; rw [List.length_set]
 rw [el]
 refine Kg wd R hl (Nat.le_refl _) g0 c0 (by simp) ?_
 refine XN q (fun rs p' k' _ q S2 g2 h2=>?_) (fun p' e S2 k' _ g2=>e S2 k' g2)
 simp
 rw [Um (xs:=rs) (by rw [Zad (by omega)]; exact h2)]
 exact q S2 g2
theorem rd_rowsH (wd:Wds ws):∀ {f:Nat},V5 ws h (m_q2 f) (fun within cl p k=>rowsH ws f within cl p k)
 | 0=>fun within cl p k S0 E Q hl q=>q.elim
 | f+1=>fun within cl p k S0 E Q hl q=>by
  rw [m_q2]
  exact Zce wd (rd_rowsH (f:=f) wd) within cl p k S0 E Q hl q
theorem VZ (wd:Wds ws) {S:Za} (q:Os (rowsH ws 8 0 none 0 0) (fun rs _ _=>∀ S',Gr S S'→Q (.tup rs) S') (fun p'=>∀ S',Gr S S'→E "NoText" [("place",.int (p':Nat))] S')):Ev (m_q20 [.lst (ws.map D.str)]) S E Q:=by
 have z:=zs
 unfold m_q20
 rw [Zl]
 unfold ZcY
 simp [startD]
 rw [ZE (n:=S.length)]
 simp
 rw [ZbC]
 refine ⟨rfl,?_⟩
 unfold ZgO
 rw [Zl]
 unfold Zhh
 simp [startD]
 refine ⟨_,_,⟨rfl,rfl⟩,⟨rfl,show 0 < 1000 by decide⟩,_,_,⟨rfl,rfl⟩,⟨rfl,show 1 < 1000 by decide⟩,_,_,⟨rfl,rfl⟩,⟨rfl,show 2 < 1000 by decide⟩,?_⟩
 have e:S++[Cell.ins "Reader" (putFD "many" (.int 0) (putFD "place" (.int 0) (putFD "words" (.lst (ws.map D.str)) [])))]=rdS (S++[rdC ws 0 0]) S.length ws 0 0:=by
  have e1:Cell.ins "Reader" (putFD "many" (.int 0) (putFD "place" (.int 0) (putFD "words" (.lst (ws.map D.str)) [])))=rdC ws 0 0:=rfl
  rw [e1]
  unfold rdS
  simp
 rw [e]
 have hl:S.length < (S++[rdC ws 0 0]).length:=by simp
 rw [ZD (C := "Reader") (rd_at hl) rfl]
 refine rd_rowsH wd (f:=8) 0 none 0 0 (S++[rdC ws 0 0]) _ _ hl ?_
 refine XN q (fun rs p k _ q S1 g1=>q _ (gr_setN ((Gr.add _).trans g1) (Nat.le_refl _))) (fun p' e S1 k' g1=>e _ (gr_setN ((Gr.add _).trans g1) (Nat.le_refl _)))
theorem Qc {t:Str} (hl:t.length≤10000000) {S:Za} (q:Q (.lst ((if t = "" then [] else Txt.split t " ").map D.str)) S) (hw:t ≠ "" → (Txt.split t " ").all KS=true):Ev (m_q28 [.str t]) S E Q:=by
 have z:=zs
 unfold m_q28
 rw [Zl]
 unfold Zc2
 simp [startD]
 by_cases c:t = ""
 ·rw [if_pos c] at q ⊢
  exact q
 ·rw [if_neg c] at q ⊢
  refine ⟨rfl,?_⟩
  unfold QP
  rw [ZN,hw c]
  exact ⟨by rw [Bool.and_true,decide_eq_true (by rw [sizeLine_eq]; omega)]; rfl,q⟩
theorem UJ {t:Str} (hl:t.length≤10000000) {S:Za} (e:(if t = "" then [] else Txt.split t " ")=ws) (wd:Wds ws) (q:Os (rowsH ws 8 0 none 0 0) (fun rs _ _=>∀ S',Gr S S'→Q (.tup rs) S') (fun p'=>∀ S',Gr S S'→E "NoText" [("place",.int (p':Nat))] S')):Ev (m_q21 [.str t]) S E Q:=by
 have z:=zs
 unfold m_q21
 rw [Zl]
 unfold ZcZ
 simp [startD,dr,tyNm]
 refine Qc hl ?_ (fun ne=>?_)
 ·rw [e]
  exact VZ wd q
 ·rw [if_neg ne] at e
  rw [e,List.all_eq_true]
  intro w hw
  have:=wd.1 w hw
  unfold KS
  rw [sg_iff.mpr this.1,decide_eq_true (by omega)]
  rfl
end
def intT (i:Int):Str:=Str.ofString (toString i)
inductive SW:Nat→D→List Str→Prop
 | cell {n:Nat} {x:Str}:isN (.str x)=true→SW (n+1) (.str x) [("@" : Str)++x]
 | num {n:Nat} {i:Int}:-1000000000≤i→i≤1000000000→SW (n+1) (.int i) [intT i]
 | purse {n:Nat} {x:Str}:isN (.str x)=true→SW (n+1) (.tup [.str "purse",.str x]) [("$" : Str)++x]
 | op {n:Nat} {s:Str} {a b:D} {u v:List Str}:s ∈ (["+", "-", "*"]:List Str)→SW n a u→SW n b v→SW (n+1) (.tup [.str s,a,b]) (("(" : Str) :: (u++s :: (v++[(")" : Str)])))
inductive TW:Nat→D→List Str→Prop
 | nm {n:Nat} {w x:Str}:w ∈ (["news", "known"]:List Str)→isN (.str x)=true→TW (n+1) (.tup [.str w,.str x]) [w,x]
 | cmp {n:Nat} {s:Str} {a b:D} {u v:List Str}:s ∈ ([">", "="]:List Str)→SW 5 a u→SW 5 b v→TW (n+1) (.tup [.str (wayW s),a,b]) (u++s :: v)
 | not {n:Nat} {a:D} {u:List Str}:TW n a u→TW (n+1) (.tup [.str "not",a]) ("not" :: u)
 | both {n:Nat} {a b:D} {u v:List Str}:TW n a u→TW n b v→TW (n+1) (.tup [.str "both",a,b]) (("{" : Str) :: (u++("&" : Str) :: (v++[("}" : Str)])))
def joinW:List (List Str)→List Str
 | []=>[]
 | [u]=>u
 | u :: v :: r=>u++(";" : Str) :: joinW (v :: r)
mutual
inductive RW:Nat→Nat→D→List Str→Prop
 | set {n:Nat} {x:Str} {s:D} {u:List Str}:isN (.str x)=true→SW 5 s u→RW n 1 (.tup [.str "set",.str x,s]) ("set" :: x :: u)
 | say {n:Nat} {s:D} {u:List Str}:SW 5 s u→RW n 1 (.tup [.str "say",s]) ("say" :: u)
 | pay {n:Nat} {x y:Str} {s:D} {u:List Str}:isN (.str x)=true→isN (.str y)=true→SW 5 s u→RW n 1 (.tup [.str "pay",.str x,.str y,s]) ("pay" :: x :: y :: u)
 | ifs {n a b:Nat} {t:D} {as bs:List D} {u:List Str} {us vs:List (List Str)}:TW 4 t u→RsW n a as us→RsW n b bs vs→RW (n+1) (1+a+b) (.tup [.str "if",t,.tup as,.tup bs]) ("if" :: (u++("[" : Str) :: (joinW us++("]" : Str) :: ("[" : Str) :: (joinW vs++[("]" : Str)]))))
 | whl {n a:Nat} {t:D} {as:List D} {u:List Str} {us:List (List Str)}:TW 4 t u→RsW n a as us→RW (n+1) (1+a) (.tup [.str "while",t,.tup as]) ("while" :: (u++("[" : Str) :: (joinW us++[("]" : Str)])))
inductive RsW:Nat→Nat→List D→List (List Str)→Prop
 | nil {n:Nat}:RsW n 0 [] []
 | cons {n a b:Nat} {d:D} {ds:List D} {u:List Str} {us:List (List Str)}:RW n a d u→RsW n b ds us→RsW n (a+b) (d :: ds) (u :: us)
end
theorem SW.mono {n m:Nat} {d:D} {u:List Str} (h:SW n d u):n≤m→SW m d u:=by
 induction h generalizing m with
 | cell hx=>intro le; obtain ⟨k,rfl⟩:∃ k,m=k+1:=⟨m - 1,by omega⟩; exact .cell hx
 | num h1 h2=>intro le; obtain ⟨k,rfl⟩:∃ k,m=k+1:=⟨m - 1,by omega⟩; exact .num h1 h2
 | purse hx=>intro le; obtain ⟨k,rfl⟩:∃ k,m=k+1:=⟨m - 1,by omega⟩; exact .purse hx
 | op hs _ _ i1 i2=>intro le; obtain ⟨k,rfl⟩:∃ k,m=k+1:=⟨m - 1,by omega⟩; exact .op hs (i1 (by omega)) (i2 (by omega))
theorem TW.mono {n m:Nat} {d:D} {u:List Str} (h:TW n d u):n≤m→TW m d u:=by
 induction h generalizing m with
 | nm hw hx=>intro le; obtain ⟨k,rfl⟩:∃ k,m=k+1:=⟨m - 1,by omega⟩; exact .nm hw hx
 | cmp hs a b=>intro le; obtain ⟨k,rfl⟩:∃ k,m=k+1:=⟨m - 1,by omega⟩; exact .cmp hs a b
 | not _ i1=>intro le; obtain ⟨k,rfl⟩:∃ k,m=k+1:=⟨m - 1,by omega⟩; exact .not (i1 (by omega))
 | both _ _ i1 i2=>intro le; obtain ⟨k,rfl⟩:∃ k,m=k+1:=⟨m - 1,by omega⟩; exact .both (i1 (by omega)) (i2 (by omega))
theorem SumD.sw {n:Nat} {d:D} (h:SumD n d):∃ u,SW n d u:=by
 induction h with
 | cell hx=>exact ⟨_,.cell hx⟩
 | num h1 h2=>exact ⟨_,.num h1 h2⟩
 | purse hx=>exact ⟨_,.purse hx⟩
 | op hs _ _ i1 i2=>
  obtain ⟨u,hu⟩:=i1
  obtain ⟨v,hv⟩:=i2
  exact ⟨_,.op (by rcases hs with rfl | rfl | rfl <;> decide) hu hv⟩
theorem TestD.tw {n:Nat} {d:D} (h:TestD n d):∃ u,TW n d u:=by
 induction h with
 | news hx=>exact ⟨_,.nm (by decide) hx⟩
 | known hx=>exact ⟨_,.nm (by decide) hx⟩
 | @cmp n w a b hs h1 h2=>
  obtain ⟨u,hu⟩:=h1.sw
  obtain ⟨v,hv⟩:=h2.sw
  rcases hs with rfl | rfl
  ·have e:wayW ">" = "above" := by decide +kernel
   exact ⟨_,e ▸ TW.cmp (by decide) (hu.mono (by omega)) (hv.mono (by omega))⟩
  ·have e:wayW "=" = "same" := by decide +kernel
   exact ⟨_,e ▸ TW.cmp (by decide) (hu.mono (by omega)) (hv.mono (by omega))⟩
 | not _ i1=>obtain ⟨u,hu⟩:=i1; exact ⟨_,.not hu⟩
 | both _ _ i1 i2=>
  obtain ⟨u,hu⟩:=i1
  obtain ⟨v,hv⟩:=i2
  exact ⟨_,.both hu hv⟩
mutual
theorem RowD.rw:∀ {n c:Nat} {d:D},RowD n c d→∃ u,RW n c d u
 | _,_,_,.set hx hs=>by obtain ⟨u,hu⟩:=hs.sw; exact ⟨_,.set hx hu⟩
 | _,_,_,.say hs=>by obtain ⟨u,hu⟩:=hs.sw; exact ⟨_,.say hu⟩
 | _,_,_,.pay hx hy hs=>by obtain ⟨u,hu⟩:=hs.sw; exact ⟨_,.pay hx hy hu⟩
 | _,_,_,.ifs ht ha hb _ _=>by
  obtain ⟨u,hu⟩:=ht.tw
  obtain ⟨us,h1⟩:=RowsD.rw ha
  obtain ⟨vs,h2⟩:=RowsD.rw hb
  exact ⟨_,.ifs (hu.mono (by omega)) h1 h2⟩
 | _,_,_,.whl ht ha _=>by
  obtain ⟨u,hu⟩:=ht.tw
  obtain ⟨us,h1⟩:=RowsD.rw ha
  exact ⟨_,.whl (hu.mono (by omega)) h1⟩
theorem RowsD.rw:∀ {n c:Nat} {ds:List D},RowsD n c ds→∃ us,RsW n c ds us
 | _,_,_,.nil=>⟨_,.nil⟩
 | _,_,_,.cons h t=>by
  obtain ⟨u,hu⟩:=RowD.rw h
  obtain ⟨us,h2⟩:=RowsD.rw t
  exact ⟨_,.cons hu h2⟩
end
def wl:Nat→Nat
 | 0=>0
 | n+1=>2 * wl n+3
theorem SW.len {n:Nat} {d:D} {u:List Str} (h:SW n d u):u.length≤wl n:=by
 induction h with
 | cell _=>simp [wl]
 | num _ _=>simp [wl]
 | purse _=>simp [wl]
 | op _ _ _ i1 i2=>simp [wl]; omega
def wtl:Nat→Nat
 | 0=>0
 | n+1=>2 * wtl n+190
theorem TW.len {n:Nat} {d:D} {u:List Str} (h:TW n d u):u.length≤wtl n:=by
 induction h with
 | nm _ _=>simp [wtl] <;> omega
 | cmp _ a b=>have:=a.len; have:=b.len; have e:wl 5=93:=rfl; simp [wtl]; omega
 | not _ i1=>simp [wtl]; omega
 | both _ _ i1 i2=>simp [wtl]; omega
theorem RW.pos {n c:Nat} {d:D} {u:List Str} (h:RW n c d u):1≤c:=by cases h <;> omega
theorem RW.ne {n c:Nat} {d:D} {u:List Str} (h:RW n c d u):u ≠ []:=by cases h <;> simp
mutual
theorem RW.len:∀ {n c:Nat} {d:D} {u:List Str},RW n c d u→u.length+1≤3000 * c
 | _,_,_,_,.set _ hs=>by have:=hs.len; have e:wl 5=93:=rfl; simp; omega
 | _,_,_,_,.say hs=>by have:=hs.len; have e:wl 5=93:=rfl; simp; omega
 | _,_,_,_,.pay _ _ hs=>by have:=hs.len; have e:wl 5=93:=rfl; simp; omega
 | _,_,_,_,.ifs ht ha hb=>by have:=ht.len; have e:wtl 4=2850:=rfl; have:=RsW.len ha; have:=RsW.len hb; simp; omega
 | _,_,_,_,.whl ht ha=>by have:=ht.len; have e:wtl 4=2850:=rfl; have:=RsW.len ha; simp; omega
theorem RsW.len:∀ {n c:Nat} {ds:List D} {us:List (List Str)},RsW n c ds us→(joinW us).length≤3000 * c
 | _,_,_,_,.nil=>Nat.zero_le _
 | _,_,_,_,.cons (us:=[]) h t=>by
  have:=RW.len h
  simp only [joinW]; omega
 | _,_,_,_,.cons (us:=v :: r) h t=>by
  have h1:=RW.len h
  have h2:=RsW.len t
  simp only [joinW,List.length_append,List.length_cons] at h2 ⊢; omega
end
theorem Vv (a b:Str):(a++b).cps.toList=a.cps.toList++b.cps.toList:=by
 show (a.cps++b.cps).toList=_
 simp
theorem YC (i:Int):(intT i).cps.toList=(if i < 0 then [45] else [])++TL.numL i.natAbs:=by
 unfold intT
 cases i with
 | ofNat m=>
  rw [if_neg (by simp)]
  exact TL.tl_num m
 | negSucc m=>
  rw [if_pos (by omega)]
  have e:toString (Int.negSucc m) = "-" ++ Nat.repr (m+1):=rfl
  have h:=TL.tl_num (m+1)
  rw [e]
  have h1:(Str.ofString ("-" ++ Nat.repr (m+1))).cps.toList=("-" ++ Nat.repr (m+1)).toList.map Char.toNat:=TL.tl_ofString _
  rw [h1,String.toList_append,List.map_append]
  have h2:(Str.ofString (Nat.repr (m+1))).cps.toList=(Nat.repr (m+1)).toList.map Char.toNat:=TL.tl_ofString _
  have h3:(Str.ofString (toString ((m+1:Nat):Int)))=Str.ofString (Nat.repr (m+1)):=rfl
  rw [h3] at h
  have h4:(Str.ofString (Nat.repr (m+1))).cps.toList=TL.numL (m+1):=h
  rw [← h2,h4]
  rfl
theorem Kb {n:Nat}:(TL.numL n)[0]? = some 48→n=0:=by
 induction n using Nat.strongRecOn with
 | _ n ih=>
  intro h
  by_cases c:n < 10
  ·rw [TL.numL_lt c] at h
   simp at h
   omega
  ·rw [TL.numL_step (by omega)] at h
   have ne:=TL.numL_ne (n / 10)
   have hp:0 < (TL.numL (n / 10)).length:=List.length_pos_iff.mpr ne
   rw [List.getElem?_append_left hp] at h
   have:=ih (n / 10) (by omega) h
   omega
theorem JZ (i:Int):figsOf (intT i)=TL.numL i.natAbs:=by
 unfold figsOf
 rw [YC]
 by_cases h:i < 0
 ·rw [if_pos h]
  rfl
 ·rw [if_neg h,List.nil_append]
  split
  ·rename_i r e
   have:=TL.numL_digits i.natAbs 45 (by rw [e]; exact List.mem_cons_self)
   omega
  ·rfl
theorem GG {i:Int} (h1:-1000000000≤i) (h2:i≤1000000000):ZcE (intT i)=some i:=by
 have hl:(TL.numL i.natAbs).length≤10:=TL.numL_len (by decide) (by omega)
 have ne:=TL.numL_ne i.natAbs
 have hp:0 < (TL.numL i.natAbs).length:=List.length_pos_iff.mpr ne
 have dg:=TL.numL_digits i.natAbs
 have ha:(TL.numL i.natAbs).all KL=true:=List.all_eq_true.mpr fun c hc=>decide_eq_true (dg c hc)
 have len:(intT i).length≤11:=by
  rw [Y2,YC,List.length_append]
  split <;> simp <;> omega
 have hi:intText? (intT i)=some i:=by
  by_cases h:i < 0
  ·have e:=intText_neg (x:=intT i) (cs:=TL.numL i.natAbs) (by rw [YC,if_pos h]; rfl) dg ne (by omega)
   rw [e,TL.numL_val]
   congr 1
   omega
  ·have e:=intText_digits (x:=intT i) (by rw [YC,if_neg h,List.nil_append]; exact dg) (by rw [YC,if_neg h,List.nil_append]; exact ne) (by omega)
   rw [e,YC,if_neg h,List.nil_append,TL.numL_val]
   congr 1
   omega
 unfold ZcE
 rw [JZ,ha,decide_eq_true ⟨by omega,hl⟩]
 rw [if_neg (by decide),hi]
 have hz:¬ (decide ((TL.numL i.natAbs)[0]? = some 48) && !decide (intT i = "0"))=true:=fun z=>by
  rw [Bool.and_eq_true,decide_eq_true_iff] at z
  have:=Kb z.1
  have i0:i=0:=by omega
  subst i0
  have:intT 0 = "0" := by decide +kernel
  rw [this] at z
  simp at z
 rw [if_neg hz]
 dsimp only
 rw [if_pos ⟨h1,h2⟩]
def At (ws:List Str):Nat→List Str→Prop
 | _,[]=>True
 | p,w :: u=>ws[p]? = some w∧At ws (p+1) u
theorem Ym {ws:List Str}:∀ {u v:List Str} {p:Nat},At ws p (u++v)↔At ws p u∧At ws (p+u.length) v
 | [],v,p=>by simp [At]
 | w :: u,v,p=>by
  rw [List.cons_append,At,At,Ym,List.length_cons,and_assoc]
  have e:p+1+u.length=p+(u.length+1):=by omega
  rw [e]
theorem Js {ws:List Str}:∀ {u:List Str} {p:Nat},ws.drop p=u→At ws p u
 | [],_,_=>trivial
 | w :: u,p,h=>by
  have h1:ws[p]? = some w:=by
   have:=congrArg (fun l=>l[0]?) h
   simpa using this
  refine ⟨h1,Js ?_⟩
  rw [← List.drop_drop,h]
  rfl
theorem ZcQ {ws:List Str}:At ws 0 ws:=Js (by simp)
def Zbd (w:Str):Prop:=∃ c,w.cps.toList[0]? = some c∧(c=64∨c=36∨c=40∨c=45∨(48≤c∧c≤57))
theorem Zbd.ne {w x:Str} {c:Nat} (h:Zbd w) (hx:x.cps.toList[0]? = some c) (n:¬ (c=64∨c=36∨c=40∨c=45∨(48≤c∧c≤57))):w ≠ x:=fun e=>by
 obtain ⟨d,h1,h2⟩:=h
 rw [e,hx] at h1
 cases h1
 exact n h2
theorem Uq (i:Int):∃ c,(intT i).cps.toList[0]? = some c∧(c=45∨(48≤c∧c≤57)):=by
 rw [YC]
 by_cases h:i < 0
 ·rw [if_pos h]; exact ⟨45,rfl,.inl rfl⟩
 ·rw [if_neg h,List.nil_append]
  cases e:TL.numL i.natAbs with
  | nil=>exact absurd e (TL.numL_ne _)
  | cons c r=>exact ⟨c,rfl,.inr (TL.numL_digits i.natAbs c (by rw [e]; exact List.mem_cons_self))⟩
theorem SW.head {n:Nat} {d:D} {u:List Str} (h:SW n d u):∃ w r,u=w :: r∧Zbd w:=by
 cases h with
 | @cell n x hx=>exact ⟨_,_,rfl,64,by rw [Vv]; rfl,.inl rfl⟩
 | @num n i h1 h2=>
  obtain ⟨c,hc,h⟩:=Uq i
  exact ⟨_,_,rfl,c,hc,by omega⟩
 | @purse n x hx=>exact ⟨_,_,rfl,36,by rw [Vv]; rfl,by omega⟩
 | op _ _ _=>exact ⟨_,_,rfl,40,rfl,by omega⟩
theorem ZaI {x:Str} {c:Nat} {s:Str} (hs:s.cps.toList=[c]):hdW (s++x)=s∧tlW (s++x)=x:=by
 unfold hdW tlW
 rw [Vv,hs]
 constructor
 ·rw [str_lit s,hs]; rfl
 ·show (⟨x.cps.toList.toArray⟩:Str)=x
  exact (str_lit x).symm
theorem ZaY {x s t:Str} {c d:Nat} {r:List Nat} (hs:s.cps.toList=[c]) (ht:t.cps.toList=d :: r) (n:c ≠ d):s++x ≠ t:=fun e=>by
 have:=congrArg (fun z:Str=>z.cps.toList) e
 simp only [Vv,hs,ht] at this
 simp at this
 exact n this.1
theorem W4 {ws:List Str} {n:Nat} {d:D} {u:List Str} (h:SW n d u):∀ {m p:Nat},n≤m→At ws p u→sumH m ws p = .ok (d,p+u.length):=by
 induction h with
 | @cell n x hx=>
  intro m p le ha
  obtain ⟨k,rfl⟩:∃ k,m=k+1:=⟨m - 1,by omega⟩
  have hc:=ZaI (x:=x) (s := "@") (c:=64) rfl
  rw [sumH,ha.1]
  dsimp only
  rw [if_neg (fun z=>ZaY (x:=x) (s := "@") (t := "(") rfl rfl (by decide) z.1),if_pos ⟨.inl hc.1,by rw [hc.2]; exact hx⟩,if_pos hc.1,hc.2]
  rfl
 | @num n i h1 h2=>
  intro m p le ha
  obtain ⟨k,rfl⟩:∃ k,m=k+1:=⟨m - 1,by omega⟩
  obtain ⟨c,hc,hcs⟩:=Uq i
  rw [sumH,ha.1]
  dsimp only
  have ne:∀ {t:Str} {d:Nat},t.cps.toList[0]? = some d→¬ (d=45∨(48≤d∧d≤57))→intT i ≠ t:=fun {t d} ht n e=>by
   rw [e,ht] at hc
   cases hc
   exact n hcs
  have hd:∀ {t:Str} {d:Nat},t.cps.toList=[d]→¬ (d=45∨(48≤d∧d≤57))→hdW (intT i) ≠ t:=fun {t d} ht n e=>by
   have:=congrArg (fun z:Str=>z.cps.toList[0]?) e
   unfold hdW at this
   simp only [ht] at this
   cases hh:(intT i).cps.toList with
   | nil=>rw [hh] at hc; cases hc
   | cons a b=>
    rw [hh] at hc this
    simp at hc this
    omega
  rw [if_neg (fun z=>ne (t := "(") (d:=40) rfl (by omega) z.1),if_neg (fun z=>by
   rcases z.1 with z | z
   ·exact hd (t := "@") (d:=64) rfl (by omega) z
   ·exact hd (t := "$") (d:=36) rfl (by omega) z),GG h1 h2]
  rfl
 | @purse n x hx=>
  intro m p le ha
  obtain ⟨k,rfl⟩:∃ k,m=k+1:=⟨m - 1,by omega⟩
  have hc:=ZaI (x:=x) (s := "$") (c:=36) rfl
  rw [sumH,ha.1]
  dsimp only
  have n2:¬ hdW (("$" : Str)++x) = "@" := by rw [hc.1]; decide
  rw [if_neg (fun z=>ZaY (x:=x) (s := "$") (t := "(") rfl rfl (by decide) z.1),if_pos ⟨.inr hc.1,by rw [hc.2]; exact hx⟩,if_neg n2,hc.2]
  rfl
 | @op n s a b u v hs hu hv i1 i2=>
  intro m p le ha
  obtain ⟨k,rfl⟩:∃ k,m=k+1:=⟨m - 1,by omega⟩
  rw [At,Ym,At,Ym,At] at ha
  obtain ⟨a0,a1,a2,a3,a4,_⟩:=ha
  have k1:1≤k:=by cases hu <;> omega
  rw [sumH,a0]
  dsimp only
  rw [if_pos ⟨rfl,k1⟩,i1 (by omega) a1]
  unfold bindW
  dsimp only
  unfold oneW
  rw [a2]
  dsimp only
  rw [if_pos hs]
  dsimp only
  rw [i2 (by omega) a3]
  dsimp only
  unfold takeW
  rw [if_pos a4]
  dsimp only
  simp only [List.length_cons,List.length_append,List.length_nil]
  congr 2
  omega
theorem QT {ws:List Str} {n:Nat} {d:D} {u:List Str} (h:TW n d u):∀ {m p:Nat},n≤m→At ws p u→testH m ws p = .ok (d,p+u.length):=by
 induction h with
 | @nm n w x hw hx=>
  intro m p le ha
  obtain ⟨k,rfl⟩:∃ k,m=k+1:=⟨m - 1,by omega⟩
  obtain ⟨a0,a1,_⟩:=ha
  rw [testH,a0]
  dsimp only
  rw [if_pos hw]
  unfold nameW
  rw [a1]
  dsimp only
  rw [if_pos hx]
  rfl
 | @cmp n s a b u v hs hu hv=>
  intro m p le ha
  obtain ⟨k,rfl⟩:∃ k,m=k+1:=⟨m - 1,by omega⟩
  rw [Ym,At] at ha
  obtain ⟨a1,a2,a3⟩:=ha
  obtain ⟨w,r,eu,hh⟩:=hu.head
  have a0:ws[p]? = some w:=by rw [eu] at a1; exact a1.1
  rw [testH,a0]
  dsimp only
  have n1:w ∉ (["news", "known"]:List Str):=by
   simp only [List.mem_cons,List.not_mem_nil,or_false,not_or]
   exact ⟨hh.ne (c:=110) rfl (by omega),hh.ne (c:=107) rfl (by omega)⟩
  have n2:w ∉ (["not", "{"]:List Str):=by
   simp only [List.mem_cons,List.not_mem_nil,or_false,not_or]
   exact ⟨hh.ne (c:=110) rfl (by omega),hh.ne (c:=123) rfl (by omega)⟩
  rw [if_neg n1,if_neg n2]
  unfold cmpH
  rw [W4 hu (Nat.le_refl _) a1]
  unfold bindW
  dsimp only
  unfold oneW
  rw [a2]
  dsimp only
  rw [if_pos hs]
  dsimp only
  rw [W4 hv (Nat.le_refl _) a3]
  dsimp only
  simp only [List.length_cons,List.length_append]
  congr 2
  omega
 | @not n a u hu i1=>
  intro m p le ha
  obtain ⟨k,rfl⟩:∃ k,m=k+1:=⟨m - 1,by omega⟩
  obtain ⟨a0,a1⟩:=ha
  have k1:k ≠ 0:=by cases hu <;> omega
  rw [testH,a0]
  dsimp only
  rw [if_neg (by decide),if_pos (by decide),if_neg k1,i1 (by omega) a1]
  unfold bindW
  dsimp only
  rw [if_pos rfl]
  simp only [List.length_cons]
  congr 2
  omega
 | @both n a b u v hu hv i1 i2=>
  intro m p le ha
  obtain ⟨k,rfl⟩:∃ k,m=k+1:=⟨m - 1,by omega⟩
  rw [At,Ym,At,Ym,At] at ha
  obtain ⟨a0,a1,a2,a3,a4,_⟩:=ha
  have k1:k ≠ 0:=by cases hu <;> omega
  rw [testH,a0]
  dsimp only
  rw [if_neg (by decide),if_pos (by decide),if_neg k1,i1 (by omega) a1]
  unfold bindW
  dsimp only
  rw [if_neg (by decide)]
  unfold takeW
  rw [if_pos a2]
  dsimp only
  rw [i2 (by omega) a3]
  dsimp only
  rw [if_pos a4]
  dsimp only
  simp only [List.length_cons,List.length_append,List.length_nil]
  congr 2
  omega
def tlJ:List (List Str)→List Str
 | []=>[]
 | u :: r=>(";" : Str) :: joinW (u :: r)
theorem ZG {u:List Str} {us:List (List Str)}:joinW (u :: us)=u++tlJ us:=by
 cases us with
 | nil=>simp [joinW,tlJ]
 | cons v r=>rfl
theorem RW.head {n c:Nat} {d:D} {u:List Str} (h:RW n c d u):∃ w r,u=w :: r∧w ∈ Xo:=by
 cases h with
 | set _ _=>exact ⟨_,_,rfl,by decide⟩
 | say _=>exact ⟨_,_,rfl,by decide⟩
 | pay _ _ _=>exact ⟨_,_,rfl,by decide⟩
 | ifs _ _ _=>exact ⟨_,_,rfl,by decide⟩
 | whl _ _=>exact ⟨_,_,rfl,by decide⟩
theorem RsW.few:∀ {n c:Nat} {ds:List D} {us:List (List Str)},RsW n c ds us→us.length≤c∧ds.length=us.length
 | _,_,_,_,.nil=>⟨Nat.le_refl _,rfl⟩
 | _,_,_,_,.cons h t=>by
  have h1:=h.pos
  have h2:=RsW.few t
  simp only [List.length_cons]; omega
def ZeG (cl:Option Str):Prop:=cl=none∨cl=some "]"
theorem ZeG.ne {cl:Option Str} {w:Str} (h:ZeG cl) (n:w ≠ "]"):some w ≠ cl:=fun e=>by
 rcases h with rfl | rfl
 ·cases e
 ·exact n (Option.some.inj e)
theorem row_ne {w:Str} (h:w ∈ Xo):w ≠ "]" := fun e=>by subst e; revert h; decide
theorem VJ {ws:List Str} {rows:Nat→Option Str→Nat→Nat→Rds (List D)} {within p k c:Nat} {ds:List D} {v:List Str} (h1:ws[p]? = some ("[" : Str)) (h2:rows within (some "]") (p+1) k = .ok (ds,p+1+v.length,k+c)) (h3:ws[p+1+v.length]? = some ("]" : Str)):innerH rows within ws p k = .ok (ds,p+1+v.length+1,k+c):=by
 unfold innerH
 have e1:takeW ws p "[" = .ok ((),p+1):=by unfold takeW; rw [if_pos h1]
 have e3:takeW ws (p+1+v.length) "]" = .ok ((),p+1+v.length+1):=by unfold takeW; rw [if_pos h3]
 rw [e1]
 unfold liftS bindS
 dsimp only
 rw [h2]
 dsimp only
 rw [e3]
mutual
theorem RW.ok {ws:List Str}:∀ {n c:Nat} {d:D} {u:List Str},RW n c d u→∀ {f within p k:Nat},n≤f→within+n≤4→k+c≤30→At ws p u→rowH (fun within cl p k=>rowsH ws f within cl p k) within ws p k = .ok (d,p+u.length,k+c)
 | _,_,_,_,.set (x:=x) (s:=s) (u:=u) hx hs,f,within,p,k,hf,hw,hk,ha=>by
  obtain ⟨a0,a1,a2⟩:=ha
  unfold rowH
  rw [a0]
  dsimp only
  rw [if_neg (by
   rintro (z | z | z)
   ·omega
   ·exact z (by decide)
   ·exact absurd z.1 (by decide)),if_neg (by decide),if_pos rfl]
  have e1:nameW ws (p+1) = .ok (x,p+2):=by unfold nameW; rw [a1]; dsimp only; rw [if_pos hx]
  rw [e1]
  unfold liftS bindS
  dsimp only
  rw [W4 hs (Nat.le_refl _) a2]
  dsimp only
  simp only [List.length_cons]
  congr 3
  omega
 | _,_,_,_,.say (s:=s) (u:=u) hs,f,within,p,k,hf,hw,hk,ha=>by
  obtain ⟨a0,a1⟩:=ha
  unfold rowH
  rw [a0]
  dsimp only
  rw [if_neg (by
   rintro (z | z | z)
   ·omega
   ·exact z (by decide)
   ·exact absurd z.1 (by decide)),if_pos rfl]
  rw [W4 hs (Nat.le_refl _) a1]
  unfold liftS bindS
  dsimp only
  simp only [List.length_cons]
  congr 3
  omega
 | _,_,_,_,.pay (x:=x) (y:=y) (s:=s) (u:=u) hx hy hs,f,within,p,k,hf,hw,hk,ha=>by
  obtain ⟨a0,a1,a2,a3⟩:=ha
  unfold rowH
  rw [a0]
  dsimp only
  rw [if_neg (by
   rintro (z | z | z)
   ·omega
   ·exact z (by decide)
   ·exact absurd z.1 (by decide)),if_neg (by decide),if_neg (by decide),if_pos rfl]
  have e1:nameW ws (p+1) = .ok (x,p+2):=by unfold nameW; rw [a1]; dsimp only; rw [if_pos hx]
  have e2:nameW ws (p+2) = .ok (y,p+3):=by unfold nameW; rw [a2]; dsimp only; rw [if_pos hy]
  rw [e1]
  unfold liftS bindS
  dsimp only
  rw [e2]
  dsimp only
  rw [W4 hs (Nat.le_refl _) a3]
  dsimp only
  simp only [List.length_cons]
  congr 3
  omega
 | _,_,_,_,.ifs (n:=n) (a:=a) (b:=b) (t:=t) (u:=u) (us:=us) (vs:=vs) ht h1 h2,f,within,p,k,hf,hw,hk,ha=>by
  rw [At,Ym,At,Ym,At,At,Ym,At] at ha
  obtain ⟨a0,a1,a2,a3,a4,a5,a6,a7,_⟩:=ha
  unfold rowH
  rw [a0]
  dsimp only
  rw [if_neg (by
   rintro (z | z | z)
   ·omega
   ·exact z (by decide)
   ·omega),if_neg (by decide),if_neg (by decide),if_neg (by decide)]
  rw [QT ht (Nat.le_refl _) a1]
  unfold liftS
  dsimp only
  have i1:=VJ (rows:=fun within cl p k=>rowsH ws f within cl p k) (within:=within+1) (k:=k+1) (v:=joinW us) a2 (RsW.ok h1 (f:=f) (within:=within+1) (cl:=some ("]" : Str)) (p:=p+1+u.length+1) (k:=k+1) (by omega) (by omega) (by omega) (.inr rfl) a3 a4) a4
  have i2:=VJ (rows:=fun within cl p k=>rowsH ws f within cl p k) (within:=within+1) (k:=k+1+a) (v:=joinW vs) a5 (RsW.ok h2 (f:=f) (within:=within+1) (cl:=some ("]" : Str)) (p:=p+1+u.length+1+(joinW us).length+1+1) (k:=k+1+a) (by omega) (by omega) (by omega) (.inr rfl) a6 a7) a7
  unfold bindS
  dsimp only
  rw [i1]
  dsimp only
  rw [if_neg (by decide),i2]
  dsimp only
  simp only [List.length_cons,List.length_append,List.length_nil]
  congr 3 <;> omega
 | _,_,_,_,.whl (n:=n) (a:=a) (t:=t) (u:=u) (us:=us) ht h1,f,within,p,k,hf,hw,hk,ha=>by
  rw [At,Ym,At,Ym,At] at ha
  obtain ⟨a0,a1,a2,a3,a4,_⟩:=ha
  unfold rowH
  rw [a0]
  dsimp only
  rw [if_neg (by
   rintro (z | z | z)
   ·omega
   ·exact z (by decide)
   ·omega),if_neg (by decide),if_neg (by decide),if_neg (by decide)]
  rw [QT ht (Nat.le_refl _) a1]
  unfold liftS
  dsimp only
  have i1:=VJ (rows:=fun within cl p k=>rowsH ws f within cl p k) (within:=within+1) (k:=k+1) (v:=joinW us) a2 (RsW.ok h1 (f:=f) (within:=within+1) (cl:=some ("]" : Str)) (p:=p+1+u.length+1) (k:=k+1) (by omega) (by omega) (by omega) (.inr rfl) a3 a4) a4
  unfold bindS
  dsimp only
  rw [i1]
  dsimp only
  rw [if_pos rfl]
  simp only [List.length_cons,List.length_append,List.length_nil]
  congr 3 <;> omega
theorem RsW.okL {ws:List Str}:∀ {n c:Nat} {ds:List D} {us:List (List Str)},RsW n c ds us→∀ {f within p k g:Nat} {cl:Option Str} {acc:List D},n≤f→within+n≤4→k+c≤30→ZeG cl→us.length < g→acc ≠ []→At ws p (tlJ us)→ws[p+(tlJ us).length]? = cl→loopH (fun within cl p k=>rowsH ws f within cl p k) within cl ws g acc p k = .ok (acc++ds,p+(tlJ us).length,k+c)
 | _,_,_,_,.nil,f,within,p,k,g+1,cl,acc,hf,hw,hk,hc,hg,hn,ha,he=>by
  have he:ws[p]? = cl:=he
  rw [loopH,if_pos he]
  simp [tlJ]
 | _,_,_,_,.cons (a:=a) (b:=b) (d:=d) (ds:=ds) (u:=u) (us:=us) h t,f,within,p,k,g+1,cl,acc,hf,hw,hk,hc,hg,hn,ha,he=>by
  have ej:tlJ (u :: us)=(";" : Str) :: (u++tlJ us):=by rw [tlJ,ZG]
  rw [ej] at ha he ⊢
  rw [At,Ym] at ha
  obtain ⟨a0,a1,a2⟩:=ha
  have hp:=h.pos
  rw [loopH,if_neg (by rw [a0]; exact hc.ne (by decide)),if_neg hn,if_neg (by omega)]
  have e1:takeW ws p ";" = .ok ((),p+1):=by unfold takeW; rw [if_pos a0]
  rw [e1]
  unfold liftS bindS
  dsimp only
  rw [RW.ok h hf hw (by omega) a1]
  dsimp only
  rw [List.length_cons] at hg
  rw [RsW.okL t hf hw (by omega) hc (by omega) (by simp) a2 (by rw [← he]; simp only [List.length_cons,List.length_append]; congr 1; omega)]
  simp only [List.length_cons,List.length_append,List.append_assoc,List.cons_append,List.nil_append]
  congr 3 <;> omega
theorem RsW.ok {ws:List Str}:∀ {n c:Nat} {ds:List D} {us:List (List Str)},RsW n c ds us→∀ {f within p k:Nat} {cl:Option Str},n < f→within+n≤4→k+c≤30→ZeG cl→At ws p (joinW us)→ws[p+(joinW us).length]? = cl→rowsH ws f within cl p k = .ok (ds,p+(joinW us).length,k+c)
 | _,_,_,_,.nil,f+1,within,p,k,cl,hf,hw,hk,hc,ha,he=>by
  have he:ws[p]? = cl:=he
  rw [rowsH,loopH,if_pos he]
  simp [joinW]
 | _,_,_,_,.cons (a:=a) (b:=b) (d:=d) (ds:=ds) (u:=u) (us:=us) h t,f+1,within,p,k,cl,hf,hw,hk,hc,ha,he=>by
  rw [ZG] at ha he ⊢
  rw [Ym] at ha
  obtain ⟨a1,a2⟩:=ha
  obtain ⟨w,r,eu,hrw⟩:=h.head
  have a0:ws[p]? = some w:=by rw [eu] at a1; exact a1.1
  have few:=(RsW.few t).1
  rw [rowsH,loopH,if_neg (by rw [a0]; exact hc.ne (row_ne hrw)),if_pos rfl,RW.ok h (by omega) hw (by omega) a1]
  unfold bindS
  dsimp only
  rw [RsW.okL t (by omega) hw (by omega) hc (by omega) (by simp) a2 (by rw [← he]; simp only [List.length_append]; congr 1; omega)]
  simp only [List.length_append,List.cons_append,List.nil_append]
  congr 3 <;> omega
end
def WOk (w:Str):Prop:=(∀ c ∈ w.cps.toList,c < 0x110000∧c ≠ 32)∧w.length≤20
theorem wok_isN {x:Str} (h:isN (.str x)=true):(∀ c ∈ x.cps.toList,97≤c∧c≤122)∧x.length≤8:=by
 rw [VL,Bool.and_eq_true,decide_eq_true_iff,List.all_eq_true] at h
 exact ⟨fun c hc=>of_decide_eq_true (h.2 c hc),h.1.2⟩
theorem wok_nm {x:Str} (h:isN (.str x)=true):WOk x:=by
 obtain ⟨h1,h2⟩:=wok_isN h
 exact ⟨fun c hc=>by have:=h1 c hc; omega,by omega⟩
theorem wok_cat {x s:Str} (h:isN (.str x)=true) (hs:WOk s) (hl:s.length≤1):WOk (s++x):=by
 obtain ⟨h1,h2⟩:=wok_isN h
 refine ⟨fun c hc=>?_,?_⟩
 ·rw [Vv] at hc
  rcases List.mem_append.mp hc with hc | hc
  ·exact hs.1 c hc
  ·have:=h1 c hc; omega
 ·rw [Y2,Vv,List.length_append,← Y2,← Y2]; omega
theorem GF {i:Int} (h1:-1000000000≤i) (h2:i≤1000000000):(intT i).length≤11:=by
 have hl:(TL.numL i.natAbs).length≤10:=TL.numL_len (by decide) (by omega)
 rw [Y2,YC,List.length_append]
 split <;> simp <;> omega
theorem wok_int {i:Int} (h1:-1000000000≤i) (h2:i≤1000000000):WOk (intT i):=by
 refine ⟨fun c hc=>?_,by have:=GF h1 h2; omega⟩
 rw [YC] at hc
 rcases List.mem_append.mp hc with hc | hc
 ·split at hc
  ·have:c=45:=by simpa using hc
   omega
  ·cases hc
 ·have:=TL.numL_digits i.natAbs c hc
  omega
theorem wok_lit (w:Str) (h:w ∈ (["(", ")", "+", "-", "*", "news", "known", ">", "=", "not", "{", "&", "}", "set", "say", "pay", "if", "while", "[", "]", ";", "@", "$"]:List Str)):WOk w:=by
 have:∀ w ∈ (["(", ")", "+", "-", "*", "news", "known", ">", "=", "not", "{", "&", "}", "set", "say", "pay", "if", "while", "[", "]", ";", "@", "$"]:List Str),(∀ c ∈ w.cps.toList,c < 0x110000∧c ≠ 32)∧w.length≤20:=by decide +kernel
 exact this w h
def QY (u:List Str):Prop:=∀ w ∈ u,WOk w
theorem Yl:QY []:=fun _ h=>by cases h
theorem wks_cons {w:Str} {u:List Str} (h:WOk w) (t:QY u):QY (w :: u):=fun x hx=>by
 cases hx with
 | head=>exact h
 | tail _ hx=>exact t x hx
theorem wks_app {u v:List Str} (h:QY u) (t:QY v):QY (u++v):=fun x hx=>by
 rcases List.mem_append.mp hx with hx | hx
 ·exact h x hx
 ·exact t x hx
theorem SW.wks {n:Nat} {d:D} {u:List Str} (h:SW n d u):QY u:=by
 induction h with
 | cell hx=>exact wks_cons (wok_cat hx (wok_lit _ (by decide)) (by decide)) Yl
 | num h1 h2=>exact wks_cons (wok_int h1 h2) Yl
 | purse hx=>exact wks_cons (wok_cat hx (wok_lit _ (by decide)) (by decide)) Yl
 | @op n s a b u v hs _ _ i1 i2=>
  have h1:WOk s:=by
   simp only [List.mem_cons,List.not_mem_nil,or_false] at hs
   rcases hs with rfl | rfl | rfl <;> exact wok_lit _ (by decide)
  exact wks_cons (wok_lit _ (by decide)) (wks_app i1 (wks_cons h1 (wks_app i2 (wks_cons (wok_lit _ (by decide)) Yl))))
theorem TW.wks {n:Nat} {d:D} {u:List Str} (h:TW n d u):QY u:=by
 induction h with
 | @nm n w x hw hx=>
  have h1:WOk w:=by
   simp only [List.mem_cons,List.not_mem_nil,or_false] at hw
   rcases hw with rfl | rfl <;> exact wok_lit _ (by decide)
  exact wks_cons h1 (wks_cons (wok_nm hx) Yl)
 | @cmp n s a b u v hs ha hb=>
  have h1:WOk s:=by
   simp only [List.mem_cons,List.not_mem_nil,or_false] at hs
   rcases hs with rfl | rfl <;> exact wok_lit _ (by decide)
  exact wks_app ha.wks (wks_cons h1 hb.wks)
 | not _ i1=>exact wks_cons (wok_lit _ (by decide)) i1
 | both _ _ i1 i2=>exact wks_cons (wok_lit _ (by decide)) (wks_app i1 (wks_cons (wok_lit _ (by decide)) (wks_app i2 (wks_cons (wok_lit _ (by decide)) Yl))))
mutual
theorem RW.wks:∀ {n c:Nat} {d:D} {u:List Str},RW n c d u→QY u
 | _,_,_,_,.set hx hs=>wks_cons (wok_lit _ (by decide)) (wks_cons (wok_nm hx) hs.wks)
 | _,_,_,_,.say hs=>wks_cons (wok_lit _ (by decide)) hs.wks
 | _,_,_,_,.pay hx hy hs=>wks_cons (wok_lit _ (by decide)) (wks_cons (wok_nm hx) (wks_cons (wok_nm hy) hs.wks))
 | _,_,_,_,.ifs ht h1 h2=>wks_cons (wok_lit _ (by decide)) (wks_app ht.wks (wks_cons (wok_lit _ (by decide)) (wks_app (RsW.wks h1) (wks_cons (wok_lit _ (by decide)) (wks_cons (wok_lit _ (by decide)) (wks_app (RsW.wks h2) (wks_cons (wok_lit _ (by decide)) Yl)))))))
 | _,_,_,_,.whl ht h1=>wks_cons (wok_lit _ (by decide)) (wks_app ht.wks (wks_cons (wok_lit _ (by decide)) (wks_app (RsW.wks h1) (wks_cons (wok_lit _ (by decide)) Yl))))
theorem RsW.wks:∀ {n c:Nat} {ds:List D} {us:List (List Str)},RsW n c ds us→QY (joinW us)
 | _,_,_,_,.nil=>Yl
 | _,_,_,_,.cons (us:=us) h t=>by
  rw [ZG]
  refine wks_app (RW.wks h) ?_
  cases us with
  | nil=>exact Yl
  | cons v r=>exact wks_cons (wok_lit _ (by decide)) (RsW.wks t)
end
theorem SW.len8 {n:Nat} {d:D} {u:List Str} (h:SW n d u) (h8:n≤8):u.length≤765:=by
 have h1:∀ n < 9,wl n≤765:=by decide
 exact Nat.le_trans h.len (h1 n (by omega))
section
variable {S:Za} {E:XP} {Q:D→Za→Prop}
theorem Kw {i:Int} (h1:-1000000000≤i) (h2:i≤1000000000) (q:Q (.str (intT i)) S):Ev (strID [.int i]) S E Q:=by
 unfold strID
 rw [ZN]
 refine ⟨VS.mpr ⟨?_,?_⟩,q⟩
 ·by_cases h:i.natAbs=0
  ·rw [h]; decide
  ·exact Nat.lt_trans ((Nat.log2_lt h).mpr (show i.natAbs < 2 ^ 40 from Nat.lt_of_le_of_lt (show i.natAbs≤1000000000 by omega) (by decide))) (by decide)
 ·have w:=wok_int h1 h2
  have z:=zs
  exact sOk_of (by
   rw [Bool.and_eq_true]
   exact ⟨sg_iff.mpr fun c hc=>(w.1 c (show c ∈ (intT i).cps.toList from Array.mem_toList_iff.mpr hc)).1,decide_eq_true (by have:=w.2; show (intT i).length≤sizeLine; omega)⟩)
theorem Zs {n:Nat} {d:D} {u:List Str} (h:SW n d u):∀ {f:Nat} {E:XP} {Q:D→Za→Prop},n≤f→n≤8→Q (.lst (u.map D.str)) S→Ev (m_q14 f [d]) S E Q:=by
 have z:=zs
 induction h with
 | @cell n x hx=>
  intro f E Q hf h8 q
  obtain ⟨k,rfl⟩:∃ k,f=k+1:=⟨f - 1,by omega⟩
  rw [m_q14,Zl]
  unfold b_q14
  simp [startD]
  refine ZF (.inl ⟨_,rfl⟩) ?_
  simp
  have hx:=(wok_isN hx).2
  have e1:(("@" : Str)).length=1:=rfl
  exact ⟨"str",rfl,.inr ⟨rfl,by omega,by omega,q⟩⟩
 | @num n i h1 h2=>
  intro f E Q hf h8 q
  obtain ⟨k,rfl⟩:∃ k,f=k+1:=⟨f - 1,by omega⟩
  rw [m_q14,Zl]
  unfold b_q14
  simp [startD]
  refine ZF (.inr (.inl ⟨_,rfl⟩)) ?_
  simp
  exact Kw h1 h2 ⟨by omega,q⟩
 | @purse n x hx=>
  intro f E Q hf h8 q
  obtain ⟨k,rfl⟩:∃ k,f=k+1:=⟨f - 1,by omega⟩
  rw [m_q14,Zl]
  unfold b_q14
  simp [startD]
  refine ZF X1 ?_
  simp
  refine ⟨"tuple",rfl,.inl ⟨rfl,?_⟩⟩
  have hx:=(wok_isN hx).2
  have e1:(("$" : Str)).length=1:=rfl
  exact ⟨by omega,by omega,q⟩
 | @op n s a b u v hs hu hv i1 i2=>
  intro f E Q hf h8 q
  obtain ⟨k,rfl⟩:∃ k,f=k+1:=⟨f - 1,by omega⟩
  rw [m_q14,Zl]
  unfold b_q14
  simp [startD]
  refine ZF X1 ?_
  simp
  refine ⟨"tuple",rfl,.inl ⟨rfl,?_⟩⟩
  have np:s ≠ "purse" := by rintro rfl; revert hs; decide
  simp [np]
  have lu:=hu.len8 (by omega)
  have lv:=hv.len8 (by omega)
  refine ⟨by omega,i1 (by omega) (by omega) ?_⟩
  rw [Zg]
  refine ⟨by simp; omega,by omega,?_⟩
  rw [Zg]
  refine ⟨by simp; omega,i2 (by omega) (by omega) ?_⟩
  rw [Zg]
  refine ⟨by simp; omega,by omega,?_⟩
  rw [Zg]
  refine ⟨by simp; omega,?_⟩
  simpa using q
theorem Zr {n:Nat} {d:D} {u:List Str} (h:SW n d u):∀ {f:Nat} {E:XP} {Q:D→Za→Prop},n≤f→n≤8→Q (.lst (u.map D.str)) S→Ev (m_q9 f [d]) S E Q:=by
 have z:=zs
 induction h with
 | @cell n x hx=>
  intro f E Q hf h8 q
  obtain ⟨k,rfl⟩:∃ k,f=k+1:=⟨f - 1,by omega⟩
  rw [m_q9,Zl]
  unfold b_q9
  simp [startD]
  have hx:=(wok_isN hx).2
  have e1:(("@" : Str)).length=1:=rfl
  refine ⟨"str",rfl,.inl ⟨rfl, "str",rfl,.inr ⟨rfl,?_⟩⟩⟩
  exact ⟨by omega,by omega,q⟩
 | @num n i h1 h2=>
  intro f E Q hf h8 q
  obtain ⟨k,rfl⟩:∃ k,f=k+1:=⟨f - 1,by omega⟩
  rw [m_q9,Zl]
  unfold b_q9
  simp [startD]
  refine ⟨"int",rfl,.inr ⟨rfl,?_⟩⟩
  exact Kw h1 h2 ⟨by omega,q⟩
 | @purse n x hx=>
  intro f E Q hf h8 q
  obtain ⟨k,rfl⟩:∃ k,f=k+1:=⟨f - 1,by omega⟩
  rw [m_q9,Zl]
  unfold b_q9
  simp [startD]
  have hx:=(wok_isN hx).2
  have e1:(("$" : Str)).length=1:=rfl
  refine ⟨"tuple",rfl,.inl ⟨rfl, "tuple",rfl,.inl ⟨rfl,?_⟩⟩⟩
  exact ⟨by omega,by omega,q⟩
 | @op n s a b u v hs hu hv i1 i2=>
  intro f E Q hf h8 q
  obtain ⟨k,rfl⟩:∃ k,f=k+1:=⟨f - 1,by omega⟩
  rw [m_q9,Zl]
  unfold b_q9
  have np:s ≠ "purse" := by rintro rfl; revert hs; decide
  simp [startD,np]
  have lu:=hu.len8 (by omega)
  have lv:=hv.len8 (by omega)
  refine ⟨"tuple",rfl,.inl ⟨rfl, "tuple",rfl,.inl ⟨rfl,?_⟩⟩⟩
  refine ⟨by omega,i1 (by omega) (by omega) ?_⟩
  rw [Zg]
  refine ⟨by simp; omega,by omega,?_⟩
  rw [Zg]
  refine ⟨by simp; omega,i2 (by omega) (by omega) ?_⟩
  rw [Zg]
  refine ⟨by simp; omega,by omega,?_⟩
  rw [Zg]
  refine ⟨by simp; omega,?_⟩
  simpa using q
theorem JS {tbl:List (Str × Str)} {m:EM} {τ:DSt}:Ev (mTabS tbl m τ) S E Q=Ev (m τ) S E fun x S1=>Ev (tabSD tbl x) S1 E Q:=by unfold mTabS; rw [Ze]
theorem Qr {tbl:List (Str × Str)} {x y:Str} (h:tbl.lookup x=some y):Ev (tabSD tbl (.str x)) S E Q=Q (.str y) S:=by unfold Ev tabSD; simp only [h]; rfl
theorem TW.len4 {n:Nat} {d:D} {u:List Str} (h:TW n d u) (h8:n≤4):u.length≤2850:=by
 have h1:∀ n < 5,wtl n≤2850:=by decide
 exact Nat.le_trans h.len (h1 n (by omega))
theorem Xt {n:Nat} {d:D} {u:List Str} (h:TW n d u):∀ {f:Nat} {E:XP} {Q:D→Za→Prop},n≤f→n≤4→Q (.lst (u.map D.str)) S→Ev (m_q19 f [d]) S E Q:=by
 have z:=zs
 induction h with
 | @nm n w x hw hx=>
  intro f E Q hf h8 q
  obtain ⟨k,rfl⟩:∃ k,f=k+1:=⟨f - 1,by omega⟩
  rw [m_q19,Zl]
  unfold b_q19
  simp only [List.mem_cons,List.not_mem_nil,or_false] at hw
  rcases hw with rfl | rfl <;> (simp [startD]; exact ⟨by omega,q⟩)
 | @cmp n s a b u v hs ha hb=>
  intro f E Q hf h8 q
  obtain ⟨k,rfl⟩:∃ k,f=k+1:=⟨f - 1,by omega⟩
  rw [m_q19,Zl]
  unfold b_q19
  have lu:=ha.len8 (by omega)
  have lv:=hb.len8 (by omega)
  have e1:wayW ">" = "above" := by decide +kernel
  have e2:wayW "=" = "same" := by decide +kernel
  simp only [List.mem_cons,List.not_mem_nil,or_false] at hs
  rcases hs with rfl | rfl
  ·rw [e1]
   simp [startD]
   refine ⟨by omega,Zs ha (by omega) (by omega) ?_⟩
   rw [JS,XZ]
   simp only [List.getElem?_cons_succ,List.getElem?_cons_zero,Z9]
   rw [Qr (y := ">") (by decide +kernel)]
   refine ⟨by omega,?_⟩
   rw [Zg]
   refine ⟨by simp; omega,Zs hb (by omega) (by omega) ?_⟩
   rw [Zg]
   exact ⟨by simp; omega,by simpa using q⟩
  ·rw [e2]
   simp [startD]
   refine ⟨by omega,Zs ha (by omega) (by omega) ?_⟩
   rw [JS,XZ]
   simp only [List.getElem?_cons_succ,List.getElem?_cons_zero,Z9]
   rw [Qr (y := "=") (by decide +kernel)]
   refine ⟨by omega,?_⟩
   rw [Zg]
   refine ⟨by simp; omega,Zs hb (by omega) (by omega) ?_⟩
   rw [Zg]
   exact ⟨by simp; omega,by simpa using q⟩
 | @not n a u hu i1=>
  intro f E Q hf h8 q
  obtain ⟨k,rfl⟩:∃ k,f=k+1:=⟨f - 1,by omega⟩
  rw [m_q19,Zl]
  unfold b_q19
  have lu:=hu.len4 (by omega)
  simp [startD]
  refine ⟨by omega,by omega,i1 (by omega) (by omega) ?_⟩
  rw [Zg]
  exact ⟨by simp; omega,by simpa using q⟩
 | @both n a b u v hu hv i1 i2=>
  intro f E Q hf h8 q
  obtain ⟨k,rfl⟩:∃ k,f=k+1:=⟨f - 1,by omega⟩
  rw [m_q19,Zl]
  unfold b_q19
  have lu:=hu.len4 (by omega)
  have lv:=hv.len4 (by omega)
  simp [startD]
  refine ⟨by omega,by omega,i1 (by omega) (by omega) ?_⟩
  rw [Zg]
  refine ⟨by simp; omega,by omega,?_⟩
  rw [Zg]
  refine ⟨by simp; omega,i2 (by omega) (by omega) ?_⟩
  rw [Zg]
  refine ⟨by simp; omega,by omega,?_⟩
  rw [Zg]
  refine ⟨by simp; omega,?_⟩
  simpa using q
theorem Yq {n:Nat} {d:D} {u:List Str} (h:TW n d u):∀ {f:Nat} {S:Za} {E:XP} {Q:D→Za→Prop},n≤f→n≤4→(∀ S',Gr S S'→Q (.lst (u.map D.str)) S')→Ev (m_q6 f [d]) S E Q:=by
 have z:=zs
 induction h with
 | @nm n w x hw hx=>
  intro f S E Q hf h8 q
  obtain ⟨k,rfl⟩:∃ k,f=k+1:=⟨f - 1,by omega⟩
  rw [m_q6,Zl]
  unfold b_q6
  simp only [List.mem_cons,List.not_mem_nil,or_false] at hw
  rcases hw with rfl | rfl <;> (simp [startD]; exact ⟨by omega,q _ Gr.refl⟩)
 | @cmp n s a b u v hs ha hb=>
  intro f S E Q hf h8 q
  obtain ⟨k,rfl⟩:∃ k,f=k+1:=⟨f - 1,by omega⟩
  rw [m_q6,Zl]
  unfold b_q6
  have lu:=ha.len8 (by omega)
  have lv:=hb.len8 (by omega)
  have e1:wayW ">" = "above" := by decide +kernel
  have e2:wayW "=" = "same" := by decide +kernel
  simp only [List.mem_cons,List.not_mem_nil,or_false] at hs
  rcases hs with rfl | rfl
  ·rw [e1]
   simp [startD]
   refine ⟨by omega,Zr ha (by omega) (by omega) ?_⟩
   rw [Qo (kvs:=[(.inr "above",.str ">"),(.inr "same",.str "=")]) (by simp) rfl (by simp)]
   rw [WK (kvs:=[(.inr "above",.str ">"),(.inr "same",.str "=")]) (d:=.str ">") (by simp [dr]; rfl) rfl]
   have g1:Gr S ((S++[Cell.dct []]).set S.length (.dct (mergeD [] [(.inr "above",.str ">"),(.inr "same",.str "=")]))):=⟨by simp,fun j hj=>by rw [List.getElem?_set_ne (by omega),List.getElem?_append_left hj]⟩
   refine ⟨by omega,?_⟩
   rw [Zg]
   refine ⟨by simp; omega,Zr hb (by omega) (by omega) ?_⟩
   rw [Zg]
   exact ⟨by simp; omega,by simpa using q _ g1⟩
  ·rw [e2]
   simp [startD]
   refine ⟨by omega,Zr ha (by omega) (by omega) ?_⟩
   rw [Qo (kvs:=[(.inr "above",.str ">"),(.inr "same",.str "=")]) (by simp) rfl (by simp)]
   rw [WK (kvs:=[(.inr "above",.str ">"),(.inr "same",.str "=")]) (d:=.str "=") (by simp [dr]; rfl) rfl]
   have g1:Gr S ((S++[Cell.dct []]).set S.length (.dct (mergeD [] [(.inr "above",.str ">"),(.inr "same",.str "=")]))):=⟨by simp,fun j hj=>by rw [List.getElem?_set_ne (by omega),List.getElem?_append_left hj]⟩
   refine ⟨by omega,?_⟩
   rw [Zg]
   refine ⟨by simp; omega,Zr hb (by omega) (by omega) ?_⟩
   rw [Zg]
   exact ⟨by simp; omega,by simpa using q _ g1⟩
 | @not n a u hu i1=>
  intro f S E Q hf h8 q
  obtain ⟨k,rfl⟩:∃ k,f=k+1:=⟨f - 1,by omega⟩
  rw [m_q6,Zl]
  unfold b_q6
  have lu:=hu.len4 (by omega)
  simp [startD]
  refine ⟨by omega,by omega,i1 (by omega) (by omega) fun S1 g1=>?_⟩
  rw [Zg]
  exact ⟨by simp; omega,by simpa using q S1 g1⟩
 | @both n a b u v hu hv i1 i2=>
  intro f S E Q hf h8 q
  obtain ⟨k,rfl⟩:∃ k,f=k+1:=⟨f - 1,by omega⟩
  rw [m_q6,Zl]
  unfold b_q6
  have lu:=hu.len4 (by omega)
  have lv:=hv.len4 (by omega)
  simp [startD]
  refine ⟨by omega,by omega,i1 (by omega) (by omega) fun S1 g1=>?_⟩
  rw [Zg]
  refine ⟨by simp; omega,by omega,?_⟩
  rw [Zg]
  refine ⟨by simp; omega,i2 (by omega) (by omega) fun S2 g2=>?_⟩
  rw [Zg]
  refine ⟨by simp; omega,by omega,?_⟩
  rw [Zg]
  refine ⟨by simp; omega,?_⟩
  simpa using q S2 (g1.trans g2)
end
theorem Ul {it:IM} {i j:Nat} {m:EM} {τ:DSt} {S:Za} {E:XP} {Q:D→Za→Prop}:Ev (mComp2 it i j m τ) S E Q=((i < τ.length∧j < τ.length)∧Ev (it τ) S E fun xs S1=>Ev (noErr (flat2L i m (wipeD τ [i,j]) xs [])) S1 E fun ys S2=>Q (.lst ys) S2):=by
 unfold mComp2
 simp only [ZN,Ze,decide_eq_true_eq,ZI]
theorem Uk {i:Nat} {m:EM} {τ:DSt} {acc:List D} {S:Za} {E:XP} {PL:List D→Za→Prop}:Ev (flat2L i m τ [] acc) S E PL=PL acc S:=rfl
theorem WJ {i:Nat} {m:EM} {τ:DSt} {d:D} {ds acc:List D} {S:Za} {E:XP} {PL:List D→Za→Prop}:Ev (flat2L i m τ (d :: ds) acc) S E PL=Ev (m (τ.set i (some d))) S E fun y S1=>Ev (lstV y) S1 E fun ys S2=>(acc++ys).length≤sizeLine∧Ev (flat2L i m τ ds (acc++ys)) S2 E PL:=by
 rw [flat2L]
 simp only [Ze,ZN,decide_eq_true_eq]
theorem UY {xs:List D} {S:Za} {E:XP} {PL:List D→Za→Prop}:Ev (lstV (.lst xs)) S E PL=PL xs S:=rfl
def K3 (f:Nat) (r:List D→M D):Prop:=∀ (n c:Nat) (ds:List D) (us:List (List Str)) (S:Za) (E:XP) (Q:D→Za→Prop),RsW n c ds us→n < f→c≤30→(∀ S',Gr S S'→Q (.lst ((joinW us).map D.str)) S')→Ev (r [.tup ds]) S E Q
theorem VU {f n c:Nat} {r:List D→M D} (hr:K3 f r) {as:List D} {us:List (List Str)} (h:RsW n c as us) (hn:n < f) (hc:c≤30) {τ:DSt} (h5:τ[5]? = some (some (.tup as))) {S:Za} {E:XP} {Q:D→Za→Prop} (q:∀ S',Gr S S'→Q (.lst ((("[" : Str) :: (joinW us++[("]" : Str)])).map D.str)) S') :
  Ev (mBin addD (mBin addD (mLst (mCons (mC (.str "[")) mNil)) (mCall (arity 1 r) (mCons (mVar 5) mNil))) (mLst (mCons (mC (.str "]")) mNil)) τ) S E Q:=by
 have z:=zs
 have l1:=h.len
 simp [h5]
 refine ⟨by omega,hr _ _ _ _ _ _ _ h hn hc fun S1 g1=>?_⟩
 rw [Zg]
 refine ⟨by simp; omega,by omega,?_⟩
 rw [Zg]
 exact ⟨by simp; omega,by simpa using q S1 g1⟩
section
variable {S:Za} {E:XP} {Q:D→Za→Prop}
theorem UL {f:Nat} {r:List D→M D} (hr:K3 f r) {n c:Nat} {d:D} {u:List Str} (h:RW n c d u) (hn:n≤f) (hc:c≤30) (q:∀ S',Gr S S'→Q (.lst (u.map D.str)) S'):Ev (mFn ["row", "word", "parts", "test", "inner", "rows", "one"] (b_q23 r) [d]) S E Q:=by
 have z:=zs
 have hlen:=h.len
 rw [Zl]
 unfold b_q23
 cases h with
 | @set n x s u hx hs=>
  simp [startD]
  have ec:cut [D.str x,s] none (some (-1))=[D.str x]:=rfl
  rw [ec]
  refine ⟨by omega,by simp; omega,_,rfl,Zs hs (by omega) (by omega) ?_⟩
  have lu:=hs.len8 (by omega)
  rw [Zg]
  exact ⟨by simp; omega,by simpa using q S Gr.refl⟩
 | @say n s u hs=>
  simp [startD]
  have ec:cut [s] none (some (-1))=[]:=rfl
  rw [ec]
  refine ⟨by omega,by simp; omega,_,rfl,Zs hs (by omega) (by omega) ?_⟩
  have lu:=hs.len8 (by omega)
  rw [Zg]
  exact ⟨by simp; omega,by simpa using q S Gr.refl⟩
 | @pay n x y s u hx hy hs=>
  simp [startD]
  have ec:cut [D.str x,D.str y,s] none (some (-1))=[D.str x,D.str y]:=rfl
  rw [ec]
  refine ⟨by omega,by simp; omega,_,rfl,Zs hs (by omega) (by omega) ?_⟩
  have lu:=hs.len8 (by omega)
  rw [Zg]
  exact ⟨by simp; omega,by simpa using q S Gr.refl⟩
 | @ifs n a b t as bs u us vs ht h1 h2=>
  have lu:=ht.len4 (by omega)
  have l1:=h1.len
  have l2:=h2.len
  simp [startD]
  refine Vn (by simp) ?_
  simp
  refine ⟨by omega,Xt ht (by omega) (by omega) ?_⟩
  rw [Zg]
  refine ⟨by simp; omega,?_⟩
  rw [Ul]
  simp only [ZdE,XZ,wipeD,List.getElem?_cons_succ,List.getElem?_cons_zero,Z9,List.set_cons_succ,List.set_cons_zero]
  refine ⟨⟨by simp,by simp⟩,?_⟩
  rw [Qs]
  refine ev_noErr ?_
  rw [WJ]
  refine VU hr h1 (by omega) (by omega) rfl fun S1 g1=>?_
  rw [UY]
  refine ⟨by simp; omega,?_⟩
  rw [WJ]
  refine VU hr h2 (by omega) (by omega) rfl fun S2 g2=>?_
  rw [UY]
  refine ⟨by simp; omega,?_⟩
  rw [Uk,Zg]
  refine ⟨by simp; omega,?_⟩
  simpa using q S2 (g1.trans g2)
 | @whl n a t as u us ht h1=>
  have lu:=ht.len4 (by omega)
  have l1:=h1.len
  simp [startD]
  refine Vn (by simp) ?_
  simp
  refine ⟨by omega,Xt ht (by omega) (by omega) ?_⟩
  rw [Zg]
  refine ⟨by simp; omega,?_⟩
  rw [Ul]
  simp only [ZdE,XZ,wipeD,List.getElem?_cons_succ,List.getElem?_cons_zero,Z9,List.set_cons_succ,List.set_cons_zero]
  refine ⟨⟨by simp,by simp⟩,?_⟩
  rw [Qs]
  refine ev_noErr ?_
  rw [WJ]
  refine VU hr h1 (by omega) (by omega) rfl fun S1 g1=>?_
  rw [UY]
  refine ⟨by simp; omega,?_⟩
  rw [Uk,Zg]
  refine ⟨by simp; omega,?_⟩
  simpa using q S1 g1
theorem Yo:∀ {us:List (List Str)} {u:List Str},joinW (us++[u])=if us=[] then u else joinW us++(";" : Str) :: u
 | [],u=>rfl
 | [v],u=>rfl
 | v :: w :: r,u=>by
  have h:=Yo (us:=w :: r) (u:=u)
  rw [if_neg (by simp)] at h ⊢
  show v++(";" : Str) :: joinW (w :: r++[u])=(v++(";" : Str) :: joinW (w :: r))++(";" : Str) :: u
  rw [h]
  simp
theorem QU:∀ (us:List (List Str)) (i:Nat),(tlJ (us.take i)).length≤(tlJ us).length
 | [],i=>by simp [tlJ]
 | v :: r,0=>by simp [tlJ]
 | v :: r,i+1=>by
  have h:=QU r i
  rw [List.take_succ_cons,tlJ,tlJ,List.length_cons,List.length_cons,ZG,ZG,List.length_append,List.length_append]
  omega
theorem YX (us:List (List Str)) (i:Nat):(joinW (us.take i)).length≤(joinW us).length:=by
 cases us with
 | nil=>simp
 | cons v r=>
  cases i with
  | zero=>simp [joinW]
  | succ i=>
   have h:=QU r i
   rw [List.take_succ_cons,ZG,ZG,List.length_append,List.length_append]
   omega
theorem RsW.get:∀ {n c:Nat} {ds:List D} {us:List (List Str)},RsW n c ds us→∀ {i:Nat} {d:D},ds[i]? = some d→∃ u c',us[i]? = some u∧RW n c' d u∧c'≤c
 | _,_,_,_,.nil,i,d,h=>by simp at h
 | _,_,_,_,.cons (a:=a) (b:=b) h t,0,d,hd=>by
  simp at hd
  subst hd
  exact ⟨_,a,rfl,h,by omega⟩
 | _,_,_,_,.cons (a:=a) (b:=b) h t,i+1,d,hd=>by
  obtain ⟨u,c',h1,h2,h3⟩:=RsW.get t (i:=i) (d:=d) (by simpa using hd)
  exact ⟨u,c',by simpa using h1,h2,by omega⟩
theorem WM {n c:Nat} {ds:List D} {us:List (List Str)} (h:RsW n c ds us) {i:Nat} (hi:i≤us.length):(joinW (us.take i)).isEmpty=decide (i=0):=by
 cases h with
 | nil=>simp at hi; subst hi; rfl
 | cons h t=>
  cases i with
  | zero=>rfl
  | succ i=>
   rw [List.take_succ_cons,ZG]
   obtain ⟨w,r,e,_⟩:=h.head
   rw [e]
   rfl
theorem Xp:∀ {f:Nat},K3 f (m_q18 f)
 | 0=>fun n c ds us S E Q h hn hc q=>by omega
 | f+1=>fun n c ds us S E Q h hn hc q=>by
  have z:=zs
  have hl:=h.len
  obtain ⟨few,dl⟩:=h.few
  rw [m_q18,Zl]
  unfold b_q18
  simp [startD,-List.map_map]
  have g0:Gr S (S++[Cell.lst []]):=Gr.add _
  have c0:(S++[Cell.lst []])[S.length]? = some (.lst []):=by rw [List.getElem?_append_right (Nat.le_refl _),Nat.sub_self]; rfl
  refine ZT (fun i τ S'=>Gr S S'∧∃ v2,τ=[some (.tup ds),some (.cel S.length),v2]∧S'[S.length]? = some (.lst ((joinW (us.take i)).map D.str))∧i≤ds.length) (k:=0) ⟨g0,none,rfl,c0,Nat.zero_le _⟩ (fun i d τ S' hx hi=>?_) (fun τ S' hi=>?_)
  ·obtain ⟨g1,v2,rfl,hc1,li⟩:=hi
   rw [Nat.zero_add] at hc1 li ⊢
   have il:=(List.getElem?_eq_some_iff.mp hx).1
   obtain ⟨u,c',hu,hr,hc'⟩:=h.get hx
   have lu:=hr.len
   have lt:=YX us i
   have lt1:=YX us (i+1)
   have es:us.take (i+1)=us.take i++[u]:=by rw [List.take_add_one,hu]; rfl
   have em:=WM h (i:=i) (by omega)
   refine ⟨_,Zz,?_⟩
   simp [-List.map_map]
   rw [ZaA (xs:=(joinW (us.take i)).map D.str) (by simp only [dr,hc1]) rfl,Zm]
   have ei:(List.map D.str (joinW (us.take i))).isEmpty=decide (i=0):=by rw [List.isEmpty_map,em]
   rw [ei]
   have ext:∀ {S1:Za} {acc:List Str},Gr S S1→S1[S.length]? = some (.lst (acc.map D.str))→acc++u=joinW (us.take (i+1))→Ev (mFn ["row", "word", "parts", "test", "inner", "rows", "one"] (b_q23 (m_q18 f)) [d]) S1 (fun C fs S'=>E C fs S') fun x S1=>
     Ev (extendD (.cel S.length) [x]) S1 (fun C fs S'=>E C fs S') fun d S'=>Gr S S'∧S'[S.length]? = some (.lst ((joinW (us.take (i+1))).map D.str))∧i+1≤ds.length:=fun {S1 acc} g2 h2 ea=>by
    refine UL Xp hr (by omega) (by omega) fun S2 g3=>?_
    have h3:=g3.at h2
    have la:acc.length+u.length=(joinW (us.take (i+1))).length:=by rw [← ea,List.length_append]
    rw [Zbw]
    refine ⟨_,h3,by rw [List.length_map,List.length_map]; omega,gr_setN (g2.trans g3) (Nat.le_refl _),?_,by omega⟩
    rw [List.getElem?_set_self ((List.getElem?_eq_some_iff.mp h3).1),← List.map_append,ea]
   by_cases i0:i=0
   ·subst i0
    rw [if_neg (by decide)]
    refine ⟨Y6 hc1,ext g1 hc1 ?_⟩
    rw [es,Yo]
    simp [joinW]
   ·rw [if_pos (by rw [decide_eq_false i0]; rfl)]
    have c1:S.length < S'.length:=(List.getElem?_eq_some_iff.mp hc1).1
    have hs:(S'.set S.length (.lst ((joinW (us.take i)).map D.str++[D.str ";"])))[S.length]? = some (.lst ((joinW (us.take i)++[(";" : Str)]).map D.str)):=by rw [List.getElem?_set_self c1,List.map_append]; rfl
    refine ⟨Y6 hc1,_,hc1,by rw [List.length_map]; omega,Y6 hs,ext (gr_setN g1 (Nat.le_refl _)) hs ?_⟩
    rw [es,Yo,if_neg (by
     intro e
     have:=congrArg List.length e
     rw [List.length_take,List.length_nil] at this
     omega)]
    simp
  ·obtain ⟨g1,v2,rfl,hc1,li⟩:=hi
   rw [Nat.zero_add,dl,List.take_length] at hc1
   simp
   rw [Zbx hc1]
   exact q _ (gr_setN g1 (Nat.le_refl _))
end
theorem ZbD {ws:List Str} {S:Za} {E:XP} {Q:D→Za→Prop}:Ev (eqvD true (.lst (ws.map D.str)) (.lst [])) S E Q=Q (.bl (!ws.isEmpty)) S:=by
 have h1:pyD S (.lst (ws.map D.str))=some (.list (ws.map PyData.str)):=by
  have:=Z6 ws
  unfold pyD
  show (match py (.lst (ws.map D.str)) with | some z=>if z.depth≤64 then some z else none | none=>none)=_
  rw [py,Ww]
  exact if_pos (by show PyData.depth _≤64; rw [PyData.depth]; omega)
 rw [WH h1 (show pyD S (.lst [])=some (.list []) from rfl),if_pos rfl,PyData.eqv]
 cases ws <;> rfl
theorem Yd:∀ {f:Nat},K3 f (m_q24 f)
 | 0=>fun n c ds us S E Q h hn hc q=>by omega
 | f+1=>fun n c ds us S E Q h hn hc q=>by
  have z:=zs
  have hl:=h.len
  obtain ⟨few,dl⟩:=h.few
  rw [m_q24,Zl]
  unfold b_q24
  simp [startD,-List.map_map]
  refine ZT (fun i τ S'=>Gr S S'∧∃ v2 v3,τ=[some (.tup ds),some (.lst ((joinW (us.take i)).map D.str)),v2,v3]∧i≤ds.length) (k:=0) ⟨Gr.refl,none,none,rfl,Nat.zero_le _⟩ (fun i d τ S' hx hi=>?_) (fun τ S' hi=>?_)
  ·obtain ⟨g1,v2,v3,rfl,li⟩:=hi
   rw [Nat.zero_add] at li ⊢
   have il:=(List.getElem?_eq_some_iff.mp hx).1
   obtain ⟨u,c',hu,hr,hc'⟩:=h.get hx
   have lu:=hr.len
   have lt:=YX us i
   have lt1:=YX us (i+1)
   have es:us.take (i+1)=us.take i++[u]:=by rw [List.take_add_one,hu]; rfl
   have em:=WM h (i:=i) (by omega)
   refine ⟨_,Zz,?_⟩
   simp [-List.map_map]
   refine ⟨by omega,?_⟩
   rw [ZbD,em,Zby]
   obtain ⟨pre,lp,ep,eu⟩:∃ pre:List Str,pre.length≤90002∧(∀ {E:XP} {Q:D→Za→Prop},Q (.lst (pre.map D.str)) S'→Ev (mulLD (.lst [.str ";"]) (.int (if (!decide (i=0))=true then 1 else 0))) S' E fun y S2=>Ev (addD (.lst ((joinW (us.take i)).map D.str)) y) S2 E Q)∧pre++u=joinW (us.take (i+1)):=by
    by_cases i0:i=0
    ·refine ⟨[],by simp,fun {E Q} q=>?_,?_⟩
     ·subst i0
      rw [if_neg (by decide),show (0:Int)=((0:Nat):Int) from rfl,JQ (by omega) (by simp),Zg]
      exact ⟨by simp [joinW],by simpa [joinW] using q⟩
     ·subst i0
      rw [es,Yo]
      simp
    ·refine ⟨joinW (us.take i)++[(";" : Str)],by simp; omega,fun {E Q} q=>?_,?_⟩
     ·rw [if_pos (by rw [decide_eq_false i0]; rfl),show (1:Int)=((1:Nat):Int) from rfl,JQ (by omega) (by simp),Zg]
      exact ⟨by simp; omega,by simpa using q⟩
     ·rw [es,Yo,if_neg (by
       intro e
       have:=congrArg List.length e
       rw [List.length_take,List.length_nil] at this
       omega)]
      simp
   refine ep ?_
   have lpu:pre.length+u.length=(joinW (us.take (i+1))).length:=by rw [← eu,List.length_append]
   rw [← eu]
   cases hr with
   | @set n x s u hx hs=>
    have lq:=hs.len8 (by omega)
    simp
    rw [show cut [D.str "set",D.str x,s] (some 1) (some (-1))=[D.str x] from rfl]
    refine ⟨by omega,by omega,by omega,by simp; omega,_,rfl,Zr hs (by omega) (by omega) ?_⟩
    rw [Zg]
    exact ⟨by simp; omega,g1,by simp,by omega⟩
   | @say n s u hs=>
    have lq:=hs.len8 (by omega)
    simp
    rw [show cut [D.str "say",s] (some 1) (some (-1))=[] from rfl]
    refine ⟨by omega,by omega,by omega,by simp; omega,_,rfl,Zr hs (by omega) (by omega) ?_⟩
    rw [Zg]
    exact ⟨by simp; omega,g1,by simp,by omega⟩
   | @pay n x y s u hx hy hs=>
    have lq:=hs.len8 (by omega)
    simp
    rw [show cut [D.str "pay",D.str x,D.str y,s] (some 1) (some (-1))=[D.str x,D.str y] from rfl]
    refine ⟨by omega,by omega,by omega,by simp; omega,_,rfl,Zr hs (by omega) (by omega) ?_⟩
    rw [Zg]
    exact ⟨by simp; omega,g1,by simp,by omega⟩
   | @ifs n a b t as bs u us vs ht h1 h2=>
    have lq:=ht.len4 (by omega)
    have l1:=h1.len
    have l2:=h2.len
    simp only [List.length_cons,List.length_append,List.length_nil] at lpu
    simp
    rw [show cut [D.str "if",t,D.tup as,D.tup bs] (some 2) none=[D.tup as,D.tup bs] from rfl]
    refine ⟨by omega,by omega,by omega,Yq ht (by omega) (by omega) fun S2 g2=>?_⟩
    rw [Zg]
    refine ⟨by simp; omega,?_⟩
    simp
    refine ⟨by omega,by omega,Yd _ _ _ _ _ _ _ h1 (by omega) (by omega) fun S3 g3=>?_⟩
    rw [Zg]
    refine ⟨by simp; omega,by omega,?_⟩
    rw [Zg]
    refine ⟨by simp; omega,by omega,?_⟩
    rw [Zg]
    refine ⟨by simp; omega,Yd _ _ _ _ _ _ _ h2 (by omega) (by omega) fun S4 g4=>?_⟩
    rw [Zg]
    refine ⟨by simp; omega,by omega,?_⟩
    rw [Zg]
    exact ⟨by simp; omega,((g1.trans g2).trans g3).trans g4,by simp,by omega⟩
   | @whl n a t as u us ht h1=>
    have lq:=ht.len4 (by omega)
    have l1:=h1.len
    simp only [List.length_cons,List.length_append,List.length_nil] at lpu
    simp
    rw [show cut [D.str "while",t,D.tup as] (some 2) none=[D.tup as] from rfl]
    refine ⟨by omega,by omega,by omega,Yq ht (by omega) (by omega) fun S2 g2=>?_⟩
    rw [Zg]
    refine ⟨by simp; omega,?_⟩
    simp
    refine ⟨by omega,by omega,Yd _ _ _ _ _ _ _ h1 (by omega) (by omega) fun S3 g3=>?_⟩
    rw [Zg]
    refine ⟨by simp; omega,by omega,?_⟩
    rw [Zg]
    exact ⟨by simp; omega,(g1.trans g2).trans g3,by simp,by omega⟩
  ·obtain ⟨g1,v2,v3,rfl,li⟩:=hi
   rw [Nat.zero_add,dl,List.take_length]
   simp
   exact q _ g1
theorem SW.sh {n:Nat} {d:D} {u:List Str} (h:SW n d u):Sh n (wS n) d:=by
 induction h with
 | @cell n x hx=>exact (sh_nm hx).mono (Nat.le_refl _) (by simp only [wS]; omega)
 | @num n i h1 h2=>exact (sh_int (by omega)).mono (Nat.le_refl _) (by simp only [wS]; omega)
 | @purse n x hx=>exact (sh_tup (k:=n) (shl_cons (sh_wd "purse" (by decide)) (shl_cons (sh_nm hx) shl_nil))).mono (Nat.le_refl _) (by simp only [wS]; omega)
 | @op n s a b u v hs _ _ i1 i2=>
  have hw:Sh n 8 (.str s):=by
   simp only [List.mem_cons,List.not_mem_nil,or_false] at hs
   rcases hs with rfl | rfl | rfl <;> exact sh_wd _ (by decide)
  exact (sh_tup (k:=n) (shl_cons hw (shl_cons i1 (shl_cons i2 shl_nil)))).mono (Nat.le_refl _) (by simp only [wS]; omega)
def wTT:Nat→Nat
 | 0=>0
 | n+1=>2 * wTT n+2100
theorem TW.sh {n:Nat} {d:D} {u:List Str} (h:TW n d u):Sh (n+5) (wTT n) d:=by
 induction h with
 | @nm n w x hw hx=>
  have hw:Sh (n+5) 8 (.str w):=by
   simp only [List.mem_cons,List.not_mem_nil,or_false] at hw
   rcases hw with rfl | rfl <;> exact sh_wd _ (by decide)
  exact (sh_tup (shl_cons hw (shl_cons (sh_nm hx) shl_nil))).mono (by omega) (by simp only [wTT]; omega)
 | @cmp n s a b u v hs ha hb=>
  have hw:Sh (n+5) 8 (.str (wayW s)):=by
   unfold wayW
   split <;> exact sh_wd _ (by decide)
  have e:wS 5=992:=rfl
  exact (sh_tup (shl_cons hw (shl_cons (ha.sh.mono (by omega) (Nat.le_refl _)) (shl_cons (hb.sh.mono (by omega) (Nat.le_refl _)) shl_nil)))).mono (by omega) (by simp only [wTT]; omega)
 | @not n a u _ i1=>exact (sh_tup (shl_cons (sh_wd "not" (by decide)) (shl_cons i1 shl_nil))).mono (by omega) (by simp only [wTT]; omega)
 | @both n a b u v _ _ i1 i2=>exact (sh_tup (shl_cons (sh_wd "both" (by decide)) (shl_cons i1 (shl_cons i2 shl_nil)))).mono (by omega) (by simp only [wTT]; omega)
mutual
theorem RW.sh:∀ {n c:Nat} {d:D} {u:List Str},RW n c d u→Sh (2 * n+10) (32500 * c - 1) d
 | n,_,_,_,.set hx hs=>(sh_tup (k:=5) (shl_cons (sh_wd "set" (by decide)) (shl_cons (sh_nm hx) (shl_cons hs.sh shl_nil)))).mono (by omega) (by have e:wS 5=992:=rfl; omega)
 | n,_,_,_,.say hs=>(sh_tup (k:=5) (shl_cons (sh_wd "say" (by decide)) (shl_cons hs.sh shl_nil))).mono (by omega) (by have e:wS 5=992:=rfl; omega)
 | n,_,_,_,.pay hx hy hs=>(sh_tup (k:=5) (shl_cons (sh_wd "pay" (by decide)) (shl_cons (sh_nm hx) (shl_cons (sh_nm hy) (shl_cons hs.sh shl_nil))))).mono (by omega) (by have e:wS 5=992:=rfl; omega)
 | _,_,_,_,.ifs (n:=n) ht ha hb=>(sh_tup (k:=2 * n+11) (shl_cons (sh_wd "if" (by decide)) (shl_cons (ht.sh.mono (by omega) (Nat.le_refl _)) (shl_cons (sh_tup (RsW.sh ha)) (shl_cons (sh_tup (RsW.sh hb)) shl_nil))))).mono (by omega) (by have e:wTT 4=31500:=rfl; omega)
 | _,_,_,_,.whl (n:=n) ht ha=>(sh_tup (k:=2 * n+11) (shl_cons (sh_wd "while" (by decide)) (shl_cons (ht.sh.mono (by omega) (Nat.le_refl _)) (shl_cons (sh_tup (RsW.sh ha)) shl_nil)))).mono (by omega) (by have e:wTT 4=31500:=rfl; omega)
theorem RsW.sh:∀ {n c:Nat} {ds:List D} {us:List (List Str)},RsW n c ds us→ShL (2 * n+10) (32500 * c) ds
 | _,_,_,_,.nil=>(shl_nil (k:=0)).mono (Nat.zero_le _) (Nat.zero_le _)
 | n,_,_,_,.cons (a:=a) (b:=b) h t=>(shl_cons (RW.sh h) (RsW.sh t)).mono (by omega) (by
  have:1≤a:=h.pos
  omega)
end
def txtW (ws:List Str):Str:=Txt.join " " ws
theorem split_txt {n c:Nat} {ds:List D} {us:List (List Str)} (h:RsW n c ds us):(if txtW (joinW us) = "" then [] else Txt.split (txtW (joinW us)) " ")=joinW us:=by
 cases e:joinW us with
 | nil=>rw [if_pos (by decide +kernel)]
 | cons w r=>
  have hw:=h.wks
  rw [e] at hw
  have sp:Txt.split (txtW (w :: r)) " " = w :: r:=TL.split_join (y := " ") (s:=32) (S:=[]) rfl (by decide +kernel) (by simp) fun p hp z=>(hw p hp).1 32 z |>.2 rfl
  have nw:w ≠ "" := by
   cases h with
   | nil=>cases e
   | cons hr t=>
    rw [ZG] at e
    obtain ⟨w2,r2,e2,hm⟩:=hr.head
    rw [e2] at e
    cases e
    rintro rfl
    revert hm
    decide
  rw [if_neg ?_,sp]
  intro z
  rw [z] at sp
  have e0:Txt.split ("" : Str) " " = [("" : Str)]:=by decide +kernel
  rw [e0] at sp
  cases sp
  exact nw rfl
theorem Zhb {ws:List Str} (h:QY ws):(ws.map (·.length)).sum≤20 * ws.length:=by
 induction ws with
 | nil=>simp
 | cons w r ih=>
  have h1:=(h w List.mem_cons_self).2
  have h2:=ih fun x hx=>h x (List.mem_cons_of_mem _ hx)
  rw [List.map_cons,List.sum_cons,List.length_cons]
  omega
theorem Zcw {ws:List Str} (h:QY ws):(txtW ws).length≤22 * ws.length:=by
 unfold txtW
 rw [TL.join_eq]
 have h1:=StrLaws.join_length_le " " ws
 have h2:=Zhb h
 have e:((" " : Str)).length=1:=rfl
 rw [e,Nat.mul_one] at h1
 omega
theorem wds_of {ws:List Str} (h:QY ws) (hl:ws.length≤90000):Wds ws:=⟨fun w hw=>⟨fun c hc=>((h w hw).1 c (Array.mem_toList_iff.mpr hc)).1,by have:=(h w hw).2; omega⟩,by omega⟩
section
variable {S:Za} {E:XP} {Q:D→Za→Prop}
theorem YW {n c:Nat} {ds:List D} {us:List (List Str)} (h:RsW n c ds us) (hn:n < 8) (hc:c≤30) (q:∀ S',Gr S S'→Q (.str (txtW (joinW us))) S'):Ev (m_q25 [.tup ds]) S E Q:=by
 unfold m_q25
 rw [Zl]
 unfold Zc0
 have hw:=Zhb h.wks
 have hl:=h.len
 simp [startD]
 refine ⟨rfl,Xp _ _ _ _ _ _ _ h hn hc fun S1 g1=>?_⟩
 have e:((" " : Str)).length=1:=rfl
 exact Qq (by rw [e]; omega) (q S1 g1)
theorem X7 {n c:Nat} {ds:List D} {us:List (List Str)} (h:RsW n c ds us) (hn:n≤4) (hc:c≤30) (q:∀ S',Gr S S'→Q (.tup ds) S'):Ev (m_q21 [.str (txtW (joinW us))]) S E Q:=by
 have hl:=h.len
 have ok:=h.wks
 have tl:=Zcw ok
 refine UJ (ws:=joinW us) (by omega) (split_txt h) (wds_of ok (by omega)) ?_
 rw [h.ok (f:=8) (within:=0) (p:=0) (k:=0) (cl:=none) (by omega) (by omega) (by omega) (.inl rfl) ZcQ (by simp)]
 exact q
end
def wordsW:List Str:=["news", "known", "not", "set", "say", "pay", "if", "while", "yes", "no", "news", "known", "not", "set", "say", "pay", "if", "while", "yes", "no"]
theorem KF:∀ a ∈ List.range 10,(cut wordsW (some ((a:Nat):Int)) (some (((a:Nat):Int)+3))).all (fun x=>isN (.str x))=true∧(cut wordsW (some ((a:Nat):Int)) (some (((a:Nat):Int)+3))).length≤3∧(cut wordsW (some (((a:Nat):Int)+2)) (some (((a:Nat):Int)+5))).all (fun x=>isN (.str x))=true∧(cut wordsW (some (((a:Nat):Int)+2)) (some (((a:Nat):Int)+5))).length=3:=by decide +kernel
section
variable {S:Za} {E:XP} {Q:D→Za→Prop} {n:Nat} {k:D} {ns cs:List Str} {ps:List (Str × D)}
theorem Vc (b:Bag S n) (q:∀ k ns cs ps S',Kit k ns cs ps→Bag S' n→Q k S'):Ev (m_q17 [.cel n]) S E Q:=by
 have z:=zs
 unfold m_q17
 rw [Zl]
 unfold ZcX
 simp [startD]
 refine ⟨by omega,G4 b (by omega) (by omega) fun ns cs ps S1 K nl cl b1 x1=>?_⟩
 have K':=K.kit (by omega)
 refine ZC b1 (by omega) (by omega) fun r S2 b2 o2 r0 r1=>?_
 simp only [ZaB,Zm]
 by_cases r3:r=0
 ·subst r3
  rw [if_neg Bool.false_ne_true,if_pos (by decide)]
  refine ZC b2 (by omega) (by omega) fun a S3 b3 o3 a0 a1=>?_
  obtain ⟨a,rfl⟩:=Int.eq_ofNat_of_zero_le a0
  have fact:=KF a (by rw [List.mem_range]; omega)
  simp
  refine ⟨by omega,by omega,?_⟩
  have epz:VW ps = .tup ((ps.map fun p=>(p.1,D.int p.2)).map fun p=>D.tup [.str p.1,p.2]):=by unfold VW; rw [List.map_map]; rfl
  rw [epz]
  have e1:cut (wordsW.map D.str) (some (a:Int)) (some ((a:Int)+3))=(cut wordsW (some (a:Int)) (some ((a:Int)+3))).map D.str:=Qj
  have e2:cut (wordsW.map D.str) (some ((a:Int)+2)) (some ((a:Int)+5))=(cut wordsW (some ((a:Int)+2)) (some ((a:Int)+5))).map D.str:=Qj
  have h:=q (.tup [.tup ((cut wordsW (some (a:Int)) (some ((a:Int)+3))).map D.str),.tup ((cut wordsW (some ((a:Int)+2)) (some ((a:Int)+5))).map D.str),.tup ((ps.map fun p=>(p.1,D.int p.2)).map fun p=>D.tup [.str p.1,p.2])]) _ _ _ S3 ⟨rfl,fun x hx=>List.all_eq_true.mp fact.1 x hx,by have:=fact.2.1; omega,fun x hx=>List.all_eq_true.mp fact.2.2.1 x hx,by have:=fact.2.2.2; omega,K'.pn,K'.pl⟩ b3
  rw [← e1,← e2] at h
  exact h
 ·rw [if_neg Bool.false_ne_true,if_neg (by simpa using r3)]
  exact q _ _ _ _ _ K' b2
theorem Wg (K:Kit k ns cs ps) (b:Bag S n) (q:∀ ds us c S',RsW 4 c ds us→c≤6→Bag S' n→Q (.tup ds) S'):Ev (m_q10 [.cel n,k]) S E Q:=by
 have z:=zs
 unfold m_q10
 rw [Zl]
 unfold ZcS
 simp [startD,-ZS]
 refine ZH K b (m:=2) (by omega) (by omega) fun d S1 hd b1 o1=>?_
 rw [show (3:Int)=((3:Nat):Int) from rfl,XD (by omega)]
 obtain ⟨u0,hu0⟩:=hd.sw
 have one:∀ {m:Nat},SW (m+1) (.int 1) [intT 1]:=.num (by omega) (by omega)
 have two:∀ {m:Nat},SW (m+1) (.int 2) [intT 2]:=.num (by omega) (by omega)
 have nul:∀ {m:Nat},SW (m+1) (.int 0) [intT 0]:=.num (by omega) (by omega)
 refine ZT (fun i τ S'=>Bag S' n∧∃ v3 x u,τ=[some (.cel n),some k,some x,v3,none,none,none]∧SW (2+i) x u) (k:=0) ⟨b1,none,d,u0,rfl,hu0⟩ (fun i y τ S' hy hi=>?_) (fun τ S' hi=>?_)
 ·obtain ⟨b4,v3,x,u,rfl,hx⟩:=hi
  rw [Nat.zero_add] at hx ⊢
  refine ⟨_,Zz,?_⟩
  simp
  repeat refine ⟨by omega,?_⟩
  refine ZC b4 (by omega) (by omega) fun q1 S5 b5 o5 q10 q11=>?_
  rw [YG]
  have e1:2+i=(1+i)+1:=by omega
  refine Zac (P:=fun d=>∃ u,SW (2+(i+1)) d u) q10 q11 (al_cons ?_ (al_cons ?_ (al_cons ?_ Qh))) fun d hd=>?_
  ·exact ⟨_,SW.op (n:=2+i) (by decide) hx (e1 ▸ one)⟩
  ·exact ⟨_,SW.op (n:=2+i) (by decide) (e1 ▸ two) hx⟩
  ·exact ⟨_,SW.op (n:=2+i) (by decide) hx hx⟩
  ·obtain ⟨u,hu⟩:=hd
   exact ⟨b5,_,_,⟨rfl,rfl⟩,_,hu⟩
 ·obtain ⟨b4,v3,x,u,rfl,hx⟩:=hi
  rw [YM,Nat.zero_add] at hx
  simp [-ZS,-Yc]
  have cl:=K.cl
  obtain ⟨y,hy,hm⟩:=YI (xs:=cs.map D.str) (i:=1) (by omega) (by rw [List.length_map]; omega)
  obtain ⟨w,hw,rfl⟩:=List.mem_map.mp hm
  have ek:∀ {E:XP} {Q:D→Za→Prop},Q (.tup (cs.map D.str)) S'→Ev (ixD k (.int 1)) S' E Q:=fun {E Q} q=>by
   rw [K.eq,Yc]
   exact ⟨_,rfl,q⟩
  refine ek ?_
  rw [Yc]
  refine ⟨_,hy,by omega,?_⟩
  have hwn:=K.cn w hw
  rw [show (3:Int)=((3:Nat):Int) from rfl,XD (by omega)]
  have t1:∀ {m:Nat},TW (m+1) (.tup [.str "above",.int 1,x]) ([intT 1]++(">" : Str) :: u):=by
   have e:wayW ">" = "above" := by decide +kernel
   intro m
   exact e ▸ TW.cmp (n:=m) (s := ">") (by decide) (SW.num (i:=1) (by omega) (by omega)) hx
  have t2:∀ {m:Nat},TW (m+1) (.tup [.str "same",x,.int 0]) (u++("=" : Str) :: [intT 0]):=by
   have e:wayW "=" = "same" := by decide +kernel
   intro m
   exact e ▸ TW.cmp (n:=m) (s := "=") (by decide) hx (SW.num (i:=0) (by omega) (by omega))
  refine ZT (fun i τ S'=>Bag S' n∧∃ v3 v6 t v,τ=[some (.cel n),some k,some x,v3,some t,none,v6]∧TW (1+i) t v) (k:=0) ⟨b4,v3,none,_,_,rfl,.nm (by decide) hwn⟩ (fun i y τ S' hy hi=>?_) (fun τ S' hi=>?_)
  ·obtain ⟨b4,v3,v6,t,v,rfl,ht⟩:=hi
   rw [Nat.zero_add] at ht ⊢
   refine ⟨_,Zz,?_⟩
   simp
   repeat refine ⟨by omega,?_⟩
   refine ZC b4 (by omega) (by omega) fun q1 S5 b5 o5 q10 q11=>?_
   rw [YG]
   have e1:1+i=i+1:=by omega
   refine Zac (P:=fun d=>∃ u,TW (1+(i+1)) d u) q10 q11 (al_cons ?_ (al_cons ?_ (al_cons ?_ Qh))) fun d hd=>?_
   ·exact ⟨_,TW.not (n:=1+i) ht⟩
   ·exact ⟨_,TW.both (n:=1+i) ht (e1 ▸ t1)⟩
   ·exact ⟨_,TW.both (n:=1+i) (e1 ▸ t2) ht⟩
   ·obtain ⟨u,hu⟩:=hd
    exact ⟨b5,_,_,_,⟨rfl,rfl,rfl⟩,_,hu⟩
  ·obtain ⟨b5,v3,v6,t,v,rfl,ht⟩:=hi
   rw [YM,Nat.zero_add] at ht
   simp [-ZS]
   refine ⟨by omega,by omega,ZC b5 (by omega) (by omega) fun w S6 b6 o6 w0 w1=>?_⟩
   have mul:∀ {E:XP} {Q:D→Za→Prop},(∀ ds us,RsW 0 w.toNat ds us→Q (.tup ds) S6)→Ev (mulTZD (.tup [.tup [.str "say",x]]) (.int w)) S6 E Q:=fun {E Q} q=>by
    show Ev (M.chk (decide ((0:Int)≤w∧w≤1000∧[D.tup [.str "say",x]].length≤1000∧[D.tup [.str "say",x]].length ≠ 0)) (pure (.tup (List.replicate w.toNat [D.tup [.str "say",x]]).flatten))) S6 E Q
    rw [ZN]
    refine ⟨decide_eq_true ⟨w0,by omega,by simp,by simp⟩,?_⟩
    have ws:∀ m:Nat,∃ us,RsW 0 m (List.replicate m [D.tup [.str "say",x]]).flatten us:=fun m=>by
     induction m with
     | zero=>exact ⟨_,.nil⟩
     | succ m ih=>
      obtain ⟨us,hus⟩:=ih
      refine ⟨("say" :: u) :: us,?_⟩
      rw [List.replicate_succ,List.flatten_cons,Nat.add_comm]
      exact .cons (.say hx) hus
    obtain ⟨us,hus⟩:=ws w.toNat
    exact q _ _ hus
   refine mul fun ds us hus=>?_
   rw [show (4:Int)=((4:Nat):Int) from rfl,XD (by omega)]
   refine ZT (fun i τ S'=>Bag S' n∧∃ v3 v6 ds us c,τ=[some (.cel n),some k,some x,v3,some t,some (.tup ds),v6]∧RsW i c ds us∧c≤2+i) (k:=0) ⟨b6,v3,v6,ds,us,w.toNat,rfl,hus,by omega⟩ (fun i y τ S' hy hi=>?_) (fun τ S' hi=>?_)
   ·obtain ⟨b7,v3,v6,ds,us,c,rfl,hr,hc⟩:=hi
    rw [Nat.zero_add] at hr hc ⊢
    refine ⟨_,Zz,?_⟩
    simp
    repeat refine ⟨by omega,?_⟩
    refine ZC b7 (by omega) (by omega) fun q1 S8 b8 o8 q10 q11=>?_
    rw [YG]
    refine Zac (P:=fun d=>∃ ds us c,d = .tup ds∧RsW (i+1) c ds us∧c≤2+(i+1)) q10 q11 (al_cons ?_ (al_cons ?_ (al_cons ?_ Qh))) fun d hd=>?_
    ·exact ⟨_,_,_,rfl,.cons (.whl ht hr) .nil,by omega⟩
    ·exact ⟨_,_,_,rfl,.cons (.ifs ht hr .nil) .nil,by omega⟩
    ·exact ⟨_,_,_,rfl,.cons (.ifs ht .nil hr) .nil,by omega⟩
    ·obtain ⟨ds,us,c,rfl,h1,h2⟩:=hd
     exact ⟨b8,_,_,_,⟨rfl,rfl,rfl⟩,_,_,h1,h2⟩
   ·obtain ⟨b7,v3,v6,ds,us,c,rfl,hr,hc⟩:=hi
    rw [YM,Nat.zero_add] at hr hc
    simp
    exact q _ _ _ _ hr (by omega) b7
end
end NA
namespace K61
open PySem L2 ND NA NM
def againM:SM:=(sThen (sSet 3 (mCall (arity 1 m_q25) (mCons (mVar 0) mNil))) (sThen (sIf (mTOr (mTNot (mAsT (mCall isiD (mCons (mVar 3) (mCons (mC (.ty "str")) mNil))))) (mAsT (mBin (eqvD true) (mVar 3) (mVar 1)))) (sRet (mC (.bl false))) sSkip) (sThen (sSet 4 (mCall (arity 1 m_q21) (mCons (mVar 3) mNil))) (sIf (mTOr (mAsT (mBin (eqvD true) (mVar 4) (mVar 0))) (mTOr (mAsT (mBin (eqvD true) (mCall reprD (mCons (mVar 4) mNil)) (mCall reprD (mCons (mVar 0) mNil)))) (mAsT (mBin (eqvD true) (mCall (arity 1 m_q25) (mCons (mVar 4) mNil)) (mVar 1))))) (sRet (mC (.bl false))) sSkip))))
theorem Va:Gc=(sThen (sSet 1 (mMeth "str" joinD (mC (.str " ")) (mCons (mCall (arity 1 (m_q24 8)) (mCons (mVar 0) mNil)) mNil))) (sThen (sFor (mRng1 (mCons (mC (.int 2)) mNil)) (.nm 2) againM) (sRet (mC (.bl true))))):=rfl
def roundM:SM:=(sThen (sSet 2 (mCall (arity 2 m_q35) (mCons (mVar 0) (mCons (mVar 1) mNil)))) (sThen (sSet 3 (mCall (arity 1 m_q17) (mCons (mVar 2) mNil))) (sThen (sSet 4 (mBin addLC (mComp (mRng1 (mCons (mC (.int 3)) mNil)) [5] (.nm 5) tYesD (mCall (arity 2 m_q30) (mCons (mVar 2) (mCons (mVar 3) mNil)))) (mLst (mCons (mCall (arity 2 m_q10) (mCons (mVar 2) (mCons (mVar 3) mNil))) (mCons (mTup mNil) mNil))))) (sThen (sExpr (mMeth "list" appendD (mVar 4) (mCons (mTup (mCons (mTup (mCons (mC (.str "set")) (mCons (mBin ixD (mBin ixD (mVar 3) (mC (.int 1))) (mC (.int 0))) (mCons (mBin powD (mC (.int 10)) (mC (.int 9))) mNil)))) (mCons (mTup (mCons (mC (.str "say")) (mCons (mUn negD (mBin powD (mC (.int 10)) (mC (.int 9)))) mNil))) (mCons (mTup (mCons (mC (.str "say")) (mCons (mC (.int 0)) mNil))) (mCons (mTup (mCons (mC (.str "say")) (mCons (mUn negD (mC (.int 7))) mNil))) mNil))))) mNil))) (sThen (sExpr (mMeth "list" appendD (mVar 4) (mCons (mBin mulTZD (mTup (mCons (mTup (mCons (mC (.str "say")) (mCons (mC (.int 1)) mNil))) mNil)) (mC (.int 30))) mNil))) (sIf (mTNot (mAsT (mCall allD (mCons (mCompW (mVar 4) [6] (.nm 6) tYesD (mCall (arity 1 m_q22) (mCons (mVar 6) mNil))) mNil)))) (sRet (mC (.bl false))) sSkip))))))
theorem Ga:ZcR=(sThen (sFor (mRng1 (mCons (mCall (twoD fun i j=>if j > i then j else i) (mCons (mC (.int 2)) (mCons (mCall (twoD fun i j=>if j < i then j else i) (mCons (mCall lenSD (mCons (mVar 0) mNil)) (mCons (mC (.int 4)) mNil))) mNil))) mNil)) (.nm 1) roundM) (sRet (mAnd (mBin (eqvD false) (mCall (arity 1 m_q25) (mCons (mTup mNil) mNil)) (mC (.str ""))) (mBin (eqvD false) (mCall (arity 1 m_q21) (mCons (mC (.str "")) mNil)) (mTup mNil))))):=rfl
section
variable {S:Za} {E:XP} {Q:D→Za→Prop}
theorem Q2 {n:Nat} {xs:List D} {k:List D→M (List D)} (h:S[n]? = some (.lst xs)) (hk:Ev (k xs) (S.set n .dead) (fun _ _ _=>False) fun ys S'=>S'[n]? = some .dead∧Q (.lst ys) (S'.set n (.lst xs))):Ev (compW (.cel n) k) S E Q:=by
 unfold Ev at hk ⊢
 unfold compW
 simp only [h]
 cases e:k xs (S.set n .dead) with
 | ok ys S'=>
  rw [e] at hk
  simp only [hk.1]
  exact hk.2
 | err C fs S'=>rw [e] at hk; exact hk.elim
 | bad=>rw [e] at hk; exact hk.elim
end
section
variable {S:Za} {E:XP} {Q:D→Za→Prop} {n c:Nat} {ds:List D} {us:List (List Str)}
theorem Zbt {k m:Nat} {d:D} (h:Sh k m d) (hk:k≤60) (q:Q (.bl false) S):Ev (eqvD true d d) S E Q:=by
 obtain ⟨z,e,r⟩:=h
 have dp:=r.dp
 have e1:pyD S d=some z:=by
  unfold pyD
  rw [Zdm e,e]
  dsimp only
  rw [if_pos (by omega)]
 rw [WH e1 e1,if_pos rfl,PySem.SeqAt.eqv_refl z r.lay]
 exact q
theorem K5 {ER:Str→List (Str × D)→DSt→Za→Prop} {PR:ND.Flow→Za→Prop} (h:RsW n c ds us) (hn:n≤4) (hc:c≤30) {v2 v3 v4:Option D} (q:∀ S' v3 v4,Gr S S'→PR (.nx [some (.tup ds),some (.str (txtW (joinW us))),v2,v3,v4]) S') :
  EvR (againM [some (.tup ds),some (.str (txtW (joinW us))),v2,v3,v4] S) ER PR:=by
 have sh:Sh (2 * n+11) (32500 * c) (.tup ds):=sh_tup h.sh
 have tt:∀ {S:Za} {E:XP} {Q:D→Za→Prop} {w:Str},Q (.bl false) S→Ev (eqvD true (.str w) (.str w)) S E Q:=fun {S E Q w} q=>by
  rw [Vk,if_pos rfl,beq_self_eq_true]
  exact q
 unfold againM
 simp [-Vk]
 refine YW h (by omega) hc fun S1 g1=>?_
 refine ⟨"str",rfl,.inr ⟨rfl,tt ?_⟩⟩
 rw [Zm,if_neg Bool.false_ne_true]
 refine X7 h hn hc fun S2 g2=>?_
 refine Zbt sh (by omega) ?_
 rw [Zm,if_neg Bool.false_ne_true,QM sh (by omega) (by omega),QM sh (by omega) (by omega)]
 refine tt ?_
 rw [Zm,if_neg Bool.false_ne_true]
 refine YW h (by omega) hc fun S3 g3=>?_
 refine tt ?_
 rw [Zm,if_neg Bool.false_ne_true]
 exact q _ _ _ ((g1.trans g2).trans g3)
theorem Us (h:RsW n c ds us) (hn:n≤4) (hc:c≤30) (q:∀ S',Gr S S'→Q (.bl true) S'):Ev (m_q22 [.tup ds]) S E Q:=by
 have hw:=Zhb h.wks
 have hl:=h.len
 unfold m_q22
 rw [Zl,Va]
 simp [startD,-ZS]
 refine ⟨rfl,Yd _ _ _ _ _ _ _ h (by omega) hc fun S1 g1=>?_⟩
 have e:((" " : Str)).length=1:=rfl
 refine Qq (by rw [e]; omega) ?_
 rw [show (2:Int)=((2:Nat):Int) from rfl,XD (by omega)]
 refine ZT (fun i τ S'=>Gr S S'∧∃ v2 v3 v4,τ=[some (.tup ds),some (.str (txtW (joinW us))),v2,v3,v4]) (k:=0) ⟨g1,none,none,none,rfl⟩ (fun i y τ S' hy hi=>?_) (fun τ S' hi=>?_)
 ·obtain ⟨g2,v2,v3,v4,rfl⟩:=hi
  refine ⟨_,Zz,?_⟩
  exact K5 h hn hc fun S3 v3 v4 g3=>⟨g2.trans g3,_,_,_,rfl⟩
 ·obtain ⟨g2,v2,v3,v4,rfl⟩:=hi
  simp
  exact q S' g2
def Ask (d:D):Prop:=∃ n c ds us,d = .tup ds∧RsW n c ds us∧n≤4∧c≤30
def fourW (w:Str):List D:=[.tup [.str "set",.str w,.int 1000000000],.tup [.str "say",.int (-1000000000)],.tup [.str "say",.int 0],.tup [.str "say",.int (-7)]]
theorem GD {w:Str} (h:isN (.str w)=true):RsW 0 4 (fourW w) [["set",w,intT 1000000000],["say",intT (-1000000000)],["say",intT 0],["say",intT (-7)]]:=
 .cons (a:=1) (b:=3) (.set h (.num (by omega) (by omega))) (.cons (a:=1) (b:=2) (.say (.num (by omega) (by omega))) (.cons (a:=1) (b:=1) (.say (.num (by omega) (by omega))) (.cons (a:=1) (b:=0) (.say (.num (by omega) (by omega))) .nil)))
theorem ZgP (q:∀ ds us,RsW 0 30 ds us→Q (.tup ds) S):Ev (mulTZD (.tup [.tup [.str "say",.int 1]]) (.int 30)) S E Q:=by
 show Ev (M.chk (decide ((0:Int)≤30∧(30:Int)≤1000∧[D.tup [.str "say",.int 1]].length≤1000∧[D.tup [.str "say",.int 1]].length ≠ 0)) (pure (.tup (List.replicate (30:Int).toNat [D.tup [.str "say",.int 1]]).flatten))) S E Q
 rw [ZN]
 refine ⟨by simp,?_⟩
 have ws:∀ m:Nat,∃ us,RsW 0 m (List.replicate m [D.tup [.str "say",.int 1]]).flatten us:=fun m=>by
  induction m with
  | zero=>exact ⟨_,.nil⟩
  | succ m ih=>
   obtain ⟨us,hus⟩:=ih
   refine ⟨("say" :: [intT 1]) :: us,?_⟩
   rw [List.replicate_succ,List.flatten_cons,Nat.add_comm]
   exact .cons (.say (.num (by omega) (by omega))) hus
 obtain ⟨us,hus⟩:=ws 30
 exact q _ _ hus
theorem set_hit {α:Type} {S:List α} {c:Nat} {y:α} (h:c < S.length):(S.set c y)[c]? = some y:=by
 rw [List.getElem?_set_self h]
theorem V7 {c3:Nat} {L:List D} {v0 v1 v2 v3 v4 v5:Option D} (h6:S[c3]? = some (.lst L)) (asks:∀ d ∈ L,Ask d) (l7:L.length=7) (q:∀ (bs:List Bool) S',bs.all id=true→Q (.lst (bs.map D.bl)) S') :
  Ev (compW (.cel c3) fun xs=>noErr (compL (.nm 6) tYesD (mCall (arity 1 m_q22) (mCons (mVar 6) mNil)) [v0,v1,v2,v3,v4,v5,none] xs [])) S E Q:=by
 have z:=zs
 refine Q2 h6 (ev_noErr (ev_compL (fun i acc S'=>S'[c3]? = some .dead∧∃ bs:List Bool,acc=bs.map D.bl∧bs.length=i∧bs.all id=true) (k:=0) ⟨set_hit (List.getElem?_eq_some_iff.mp h6).1,[],rfl,rfl,rfl⟩ (fun i y acc S' hy hi=>?_) (fun acc S' hi=>?_)))
 ·obtain ⟨h8,bs,rfl,hbl,hba⟩:=hi
  obtain ⟨m,cm,dm,um,rfl,hm,hm4,hcm⟩:=asks y (List.mem_of_getElem? hy)
  have hil:=(List.getElem?_eq_some_iff.mp hy).1
  refine ⟨_,Zz,?_⟩
  simp
  refine Us hm hm4 hcm fun S9 g9=>?_
  refine ⟨by omega,g9.at h8,bs++[true],by simp,by simp [hbl],fun hm=>?_⟩
  rcases List.mem_append.mp hm with h | h
  ·exact absurd (List.all_eq_true.mp hba _ h) (by simp)
  ·simp at h
 ·obtain ⟨h8,bs,rfl,hbl,hba⟩:=hi
  exact ⟨h8,q bs _ hba⟩
theorem QN {xs:List Int} {at_:Nat} {S:Za} {ER:Str→List (Str × D)→DSt→Za→Prop} {PR:ND.Flow→Za→Prop} {v2 v3 v4 v5 v6:Option D} (ha:at_ < 64) (q:∀ v2 v3 v4 v5 v6 S',PR (.nx [some (.rol (xs.map D.int)),some (.int (at_:Nat)),v2,v3,v4,v5,v6]) S'):EvR (roundM [some (.rol (xs.map D.int)),some (.int (at_:Nat)),v2,v3,v4,v5,v6] S) ER PR:=by
 have z:=zs
 unfold roundM
 simp [-ZS]
 refine Zbi (by omega) (by omega) fun g x g0 x0 x1=>?_
 have b0:Bag (S++[.lst [.int g,.int x]]) S.length:=⟨g,x,by rw [List.getElem?_append_right (Nat.le_refl _),Nat.sub_self]; rfl,g0,x0,x1⟩
 generalize hn:S.length=n at *
 generalize (S++[Cell.lst [.int g,.int x]])=S1 at *
 refine Vc b0 fun k ns cs ps S2 K b1=>?_
 rw [show (3:Int)=((3:Nat):Int) from rfl,XD (by omega)]
 simp [wipeD,-List.map_map]
 refine ev_noErr (ev_compL (fun i acc S'=>Bag S' n∧acc.length=i∧∀ d ∈ acc,Ask d) (k:=0) ⟨b1,rfl,Qh⟩ (fun i y acc S' hy hi=>?_) (fun acc S' hi=>?_))
 ·obtain ⟨b2,la,hq⟩:=hi
  have hil:=(intsD_at hy).2
  refine ⟨_,Zz,?_⟩
  simp
  refine Zbq K b2 fun ds c S3 hd hc hl b3=>?_
  obtain ⟨us,hus⟩:=hd.rw
  refine ⟨by omega,b3,by omega,fun d hd=>?_⟩
  rcases hd with hd | rfl
  ·exact hq d hd
  ·exact ⟨4,c,ds,us,rfl,hus,by omega,by omega⟩
 ·obtain ⟨b2,la,hq⟩:=hi
  rw [YM] at la
  refine Wg K b2 fun ds us c S3 hrw hc b3=>?_
  have l2:(acc++[D.tup ds,D.tup []]).length=5:=by rw [List.length_append,la]; rfl
  rw [Gm (xs:=acc) (ys:=[D.tup ds,D.tup []]) rfl rfl (by simp; omega)]
  generalize hc3:S3.length=c3
  have h4:(S3++[Cell.lst (acc++[D.tup ds,D.tup []])])[c3]? = some (.lst (acc++[D.tup ds,D.tup []])):=by rw [← hc3,List.getElem?_append_right (Nat.le_refl _),Nat.sub_self]; rfl
  generalize (S3++[Cell.lst (acc++[D.tup ds,D.tup []])])=S4 at h4 ⊢
  have lc:=(List.getElem?_eq_some_iff.mp h4).1
  have cl:=K.cl
  obtain ⟨y,hy,hm⟩:=YI (xs:=cs.map D.str) (i:=0) (by omega) (by rw [List.length_map]; omega)
  obtain ⟨w,hw,rfl⟩:=List.mem_map.mp hm
  have hwn:=K.cn w hw
  have ek:∀ {E:XP} {Q:D→Za→Prop},Q (.tup (cs.map D.str)) S4→Ev (ixD k (.int 1)) S4 E Q:=fun {E Q} q=>by
   rw [K.eq,Yc]
   exact ⟨_,rfl,q⟩
  refine ⟨by omega,Y6 h4,ek ?_⟩
  rw [Yc]
  refine ⟨_,hy,by omega,by omega,by omega,?_⟩
  simp [-ZS]
  have l5:(acc++[D.tup ds,D.tup []]).length < sizeLine:=by rw [l2]; omega
  refine ⟨_,h4,l5,Y6 (set_hit lc),by omega,by omega,ZgP fun ds30 us30 h30=>?_⟩
  have h5:=set_hit (y:=Cell.lst (acc++[D.tup ds,D.tup []]++[D.tup (fourW w)])) lc
  refine ⟨_,h5,by rw [List.length_append,l2]; simp; omega,?_⟩
  have h6:=set_hit (y:=Cell.lst (acc++[D.tup ds,D.tup []]++[D.tup (fourW w)]++[D.tup ds30])) (List.getElem?_eq_some_iff.mp h5).1
  have asks:∀ d ∈ acc++[D.tup ds,D.tup []]++[D.tup (fourW w)]++[D.tup ds30],Ask d:=by
   intro d hd
   simp only [List.mem_append,List.mem_cons,List.not_mem_nil,or_false] at hd
   rcases hd with ((hd | hd | hd) | hd) | hd
   ·exact hq d hd
   ·exact ⟨_,_,_,_,hd,hrw,by omega,by omega⟩
   ·exact ⟨0,0,[],[],hd,.nil,by omega,by omega⟩
   ·exact ⟨0,_,_,_,hd,GD hwn,by omega,by omega⟩
   ·exact ⟨0,30,_,_,hd,h30,by omega,by omega⟩
  have l7:(acc++[D.tup ds,D.tup []]++[D.tup (fourW w)]++[D.tup ds30]).length=7:=by rw [List.length_append,List.length_append,l2]; rfl
  refine V7 h6 asks l7 fun bs S' hb=>?_
  rw [JL,hb]
  simp
  exact q _ _ _ _ _ _
theorem ZdR {xs:List Int} {S:Za} {E:XP} {Q:D→Za→Prop} (q:∀ S',Q (.bl true) S'):Ev (m_law [.rol (xs.map D.int)]) S E Q:=by
 have z:=zs
 unfold m_law
 rw [Zl,Ga]
 simp [startD,-ZS]
 obtain ⟨m,hm5,em⟩:∃ m:Nat,m≤4∧(if (2:Int) < (if (4:Int) < (xs.length:Int) then 4 else (xs.length:Int)) then (if (4:Int) < (xs.length:Int) then 4 else (xs.length:Int)) else 2)=(m:Int):=by
  refine ⟨(if (2:Int) < (if (4:Int) < (xs.length:Int) then 4 else (xs.length:Int)) then (if (4:Int) < (xs.length:Int) then 4 else (xs.length:Int)) else 2).toNat,?_,?_⟩ <;> (split <;> split <;> omega)
 rw [em,XD (by omega)]
 refine ZT (fun i τ S'=>∃ v1 v2 v3 v4 v5 v6,τ=[some (.rol (xs.map D.int)),v1,v2,v3,v4,v5,v6]) (k:=0) ⟨_,_,_,_,_,_,rfl⟩ (fun i x τ S' hx hi=>?_) (fun τ S' hi=>?_)
 ·obtain ⟨v1,v2,v3,v4,v5,v6,rfl⟩:=hi
  obtain ⟨rfl,hil⟩:=intsD_at hx
  refine ⟨_,Zz,?_⟩
  rw [Int.zero_add]
  show EvR (roundM [some (.rol (xs.map D.int)),some (.int (i:Nat)),v2,v3,v4,v5,v6] S') _ _
  exact QN (at_:=i) (by omega) fun v2 v3 v4 v5 v6 S'=>⟨_,_,_,_,_,_,rfl⟩
 ·obtain ⟨v1,v2,v3,v4,v5,v6,rfl⟩:=hi
  simp
  refine YW (n:=0) .nil (by omega) (by omega) fun S1 g1=>?_
  rw [show txtW (joinW [])=Str.ofString "" from rfl,Vk,Zm]
  rw [if_pos (by decide)]
  refine X7 (n:=0) .nil (by omega) (by omega) fun S2 g2=>?_
  rw [WH (a:=.tuple .nil) (b:=.tuple .nil) rfl rfl]
  exact q _
theorem law_true (S0:Za) (ns:List Int) (_:ns.length≤63):∃ S,m_law [.rol (ns.map D.int)] S0 = .ok (.bl true) S:=by
 have h:=ZdR (S:=S0) (E:=fun _ _ _=>False) (Q:=fun d _=>d = .bl true) (xs:=ns) fun _=>rfl
 unfold Ev at h
 cases e:m_law [.rol (ns.map D.int)] S0 with
 | ok d S=>rw [e] at h; exact ⟨S,by rw [h]⟩
 | err C fs S=>rw [e] at h; exact h.elim
 | bad=>rw [e] at h; exact h.elim
end
end K61
namespace K61
open PySem PySem.Spec PyProof.Rows L2 ND
theorem facts {K:PySem.W.Frag} {h:Heap} {mg:Str→Option Value} {f:Addr} (X:K.In h) (G:h.Ns mainGlobals mg) (hfa:mg ("law" : Str)=some (.ref f)) (w:World) (st:He.SaysT fa fn Zet w K) (c:He.SaysD fa fn K) (e:ex K=true):∃ T:Txt K mg w,T.a_law=f:=by
 obtain ⟨fd_q32,F_q32⟩:=c.def_ 0 rfl
 obtain ⟨fd_q34,F_q34⟩:=c.def_ 1 rfl
 obtain ⟨fd_q14,F_q14⟩:=c.def_ 2 rfl
 obtain ⟨fd_q19,F_q19⟩:=c.def_ 3 rfl
 obtain ⟨fd_q23,F_q23⟩:=c.def_ 4 rfl
 obtain ⟨fd_q18,F_q18⟩:=c.def_ 5 rfl
 obtain ⟨fd_q25,F_q25⟩:=c.def_ 6 rfl
 obtain ⟨fd_q28,F_q28⟩:=c.def_ 7 rfl
 obtain ⟨fd_q16,F_q16⟩:=c.def_ 8 rfl
 obtain ⟨fd_q3,F_q3⟩:=c.def_ 9 rfl
 obtain ⟨fd_q13,F_q13⟩:=c.def_ 10 rfl
 obtain ⟨fd_q8,F_q8⟩:=c.def_ 11 rfl
 obtain ⟨fd_q12,F_q12⟩:=c.def_ 12 rfl
 obtain ⟨fd_q15,F_q15⟩:=c.def_ 13 rfl
 obtain ⟨fd_q1,F_q1⟩:=c.def_ 14 rfl
 obtain ⟨fd_q7,F_q7⟩:=c.def_ 15 rfl
 obtain ⟨fd_q4,F_q4⟩:=c.def_ 16 rfl
 obtain ⟨fd_q0,F_q0⟩:=c.def_ 17 rfl
 obtain ⟨fd_q5,F_q5⟩:=c.def_ 18 rfl
 obtain ⟨fd_q11,F_q11⟩:=c.def_ 19 rfl
 obtain ⟨fd_q2,F_q2⟩:=c.def_ 20 rfl
 obtain ⟨fd_q20,F_q20⟩:=c.def_ 21 rfl
 obtain ⟨fd_q21,F_q21⟩:=c.def_ 22 rfl
 obtain ⟨fd_q35,F_q35⟩:=c.def_ 23 rfl
 obtain ⟨fd_q31,F_q31⟩:=c.def_ 24 rfl
 obtain ⟨fd_q26,F_q26⟩:=c.def_ 25 rfl
 obtain ⟨fd_q37,F_q37⟩:=c.def_ 26 rfl
 obtain ⟨fd_q33,F_q33⟩:=c.def_ 27 rfl
 obtain ⟨fd_q27,F_q27⟩:=c.def_ 28 rfl
 obtain ⟨fd_q36,F_q36⟩:=c.def_ 29 rfl
 obtain ⟨fd_q29,F_q29⟩:=c.def_ 30 rfl
 obtain ⟨fd_q30,F_q30⟩:=c.def_ 31 rfl
 obtain ⟨fd_q9,F_q9⟩:=c.def_ 32 rfl
 obtain ⟨fd_q6,F_q6⟩:=c.def_ 33 rfl
 obtain ⟨fd_q24,F_q24⟩:=c.def_ 34 rfl
 obtain ⟨fd_q17,F_q17⟩:=c.def_ 35 rfl
 obtain ⟨fd_q10,F_q10⟩:=c.def_ 36 rfl
 obtain ⟨fd_q22,F_q22⟩:=c.def_ 37 rfl
 obtain ⟨fd_law,F_law⟩:=c.def_ 38 rfl
 obtain ⟨fd_NoText,F_NoText⟩:=c.def_ 39 rfl
 refine ⟨{ a_q32:=_,fd_q32,F_q32,B_q32:=F_q32.bindsN (fun _ _ _ _ _ _ us hl=>match us,hl with | [_],_=>rfl),g_q32:=He.glo_ok X G (c.fact 0 rfl),a_q34:=_,fd_q34,F_q34,B_q34:=F_q34.bindsN (fun _ _ _ _ _ _ us hl=>match us,hl with | [_],_=>rfl),g_q34:=He.glo_ok X G (c.fact 1 rfl),a_q14:=_,fd_q14,F_q14,B_q14:=F_q14.bindsN (fun _ _ _ _ _ _ us hl=>match us,hl with | [_],_=>rfl),g_q14:=He.glo_ok X G (c.fact 2 rfl),a_q19:=_,fd_q19,F_q19,B_q19:=F_q19.bindsN (fun _ _ _ _ _ _ us hl=>match us,hl with | [_],_=>rfl),g_q19:=He.glo_ok X G (c.fact 3 rfl),a_q23:=_,fd_q23,F_q23,B_q23:=F_q23.bindsN (fun _ _ _ _ _ _ us hl=>match us,hl with | [_],_=>rfl),g_q23:=He.glo_ok X G (c.fact 4 rfl),a_q18:=_,fd_q18,F_q18,B_q18:=F_q18.bindsN (fun _ _ _ _ _ _ us hl=>match us,hl with | [_],_=>rfl),g_q18:=He.glo_ok X G (c.fact 5 rfl),a_q25:=_,fd_q25,F_q25,B_q25:=F_q25.bindsN (fun _ _ _ _ _ _ us hl=>match us,hl with | [_],_=>rfl),g_q25:=He.glo_ok X G (c.fact 6 rfl),a_q28:=_,fd_q28,F_q28,B_q28:=F_q28.bindsN (fun _ _ _ _ _ _ us hl=>match us,hl with | [_],_=>rfl),g_q28:=He.glo_ok X G (c.fact 7 rfl),a_q16:=_,fd_q16,F_q16,B_q16:=F_q16.bindsN (fun _ _ _ _ _ _ us hl=>match us,hl with | [_],_=>rfl),g_q16:=He.glo_ok X G (c.fact 8 rfl),a_q3:=_,fd_q3,F_q3,B_q3:=F_q3.bindsN (fun _ _ _ _ _ _ us hl=>match us,hl with | [_,_],_=>rfl),a_q13:=_,fd_q13,F_q13,B_q13:=F_q13.bindsN (fun _ _ _ _ _ _ us hl=>match us,hl with | [_],_=>rfl),a_q8:=_,fd_q8,F_q8,B_q8:=F_q8.bindsN (fun _ _ _ _ _ _ us hl=>match us,hl with | [_],_=>rfl),a_q12:=_,fd_q12,F_q12,B_q12:=F_q12.bindsN (fun _ _ _ _ _ _ us hl=>match us,hl with | [_],_=>rfl),a_q15:=_,fd_q15,F_q15,B_q15:=F_q15.bindsN (fun _ _ _ _ _ _ us hl=>match us,hl with | [_,_],_=>rfl),a_q1:=_,fd_q1,F_q1,B_q1:=F_q1.bindsN (fun _ _ _ _ _ _ us hl=>match us,hl with | [_],_=>rfl),a_q7:=_,fd_q7,F_q7,B_q7:=F_q7.bindsN (fun _ _ _ _ _ _ us hl=>match us,hl with | [_,_],_=>rfl),a_q4:=_,fd_q4,F_q4,B_q4:=F_q4.bindsN (fun _ _ _ _ _ _ us hl=>match us,hl with | [_,_],_=>rfl),a_q0:=_,fd_q0,F_q0,B_q0:=F_q0.bindsN (fun _ _ _ _ _ _ us hl=>match us,hl with | [_,_],_=>rfl),a_q5:=_,fd_q5,F_q5,B_q5:=F_q5.bindsN (fun _ _ _ _ _ _ us hl=>match us,hl with | [_,_],_=>rfl),a_q11:=_,fd_q11,F_q11,B_q11:=F_q11.bindsN (fun _ _ _ _ _ _ us hl=>match us,hl with | [_,_],_=>rfl),a_q2:=_,fd_q2,F_q2,B_q2:=F_q2.bindsN (fun _ _ _ _ _ _ us hl=>match us,hl with | [_,_,_],_=>rfl),a_q20:=_,fd_q20,F_q20,B_q20:=F_q20.bindsN (fun _ _ _ _ _ _ us hl=>match us,hl with | [_],_=>rfl),g_q20:=He.glo_ok X G (c.fact 9 rfl),a_q21:=_,fd_q21,F_q21,B_q21:=F_q21.bindsN (fun _ _ _ _ _ _ us hl=>match us,hl with | [_],_=>rfl),g_q21:=He.glo_ok X G (c.fact 10 rfl),a_q35:=_,fd_q35,F_q35,B_q35:=F_q35.bindsN (fun _ _ _ _ _ _ us hl=>match us,hl with | [_,_],_=>rfl),g_q35:=He.glo_ok X G (c.fact 11 rfl),a_q31:=_,fd_q31,F_q31,B_q31:=F_q31.bindsN (fun _ _ _ _ _ _ us hl=>match us,hl with | [_,_],_=>rfl),g_q31:=He.glo_ok X G (c.fact 12 rfl),a_q26:=_,fd_q26,F_q26,B_q26:=F_q26.bindsN (fun _ _ _ _ _ _ us hl=>match us,hl with | [_,_],_=>rfl),g_q26:=He.glo_ok X G (c.fact 13 rfl),a_q37:=_,fd_q37,F_q37,B_q37:=F_q37.bindsN (fun _ _ _ _ _ _ us hl=>match us,hl with | [_,_],_=>rfl),g_q37:=He.glo_ok X G (c.fact 14 rfl),a_q33:=_,fd_q33,F_q33,B_q33:=F_q33.bindsN (fun _ _ _ _ _ _ us hl=>match us,hl with | [_,_,_],_=>rfl),g_q33:=He.glo_ok X G (c.fact 15 rfl),a_q27:=_,fd_q27,F_q27,B_q27:=F_q27.bindsN (fun _ _ _ _ _ _ us hl=>match us,hl with | [_,_,_],_=>rfl),g_q27:=He.glo_ok X G (c.fact 16 rfl),a_q36:=_,fd_q36,F_q36,B_q36:=F_q36.bindsN (fun _ _ _ _ _ _ us hl=>match us,hl with | [_,_,_,_],_=>rfl),g_q36:=He.glo_ok X G (c.fact 17 rfl),a_q29:=_,fd_q29,F_q29,B_q29:=F_q29.bindsN (fun _ _ _ _ _ _ us hl=>match us,hl with | [_,_,_,_],_=>rfl),g_q29:=He.glo_ok X G (c.fact 18 rfl),a_q30:=_,fd_q30,F_q30,B_q30:=F_q30.bindsN (fun _ _ _ _ _ _ us hl=>match us,hl with | [_,_],_=>rfl),g_q30:=He.glo_ok X G (c.fact 19 rfl),a_q9:=_,fd_q9,F_q9,B_q9:=F_q9.bindsN (fun _ _ _ _ _ _ us hl=>match us,hl with | [_],_=>rfl),g_q9:=He.glo_ok X G (c.fact 20 rfl),a_q6:=_,fd_q6,F_q6,B_q6:=F_q6.bindsN (fun _ _ _ _ _ _ us hl=>match us,hl with | [_],_=>rfl),g_q6:=He.glo_ok X G (c.fact 21 rfl),a_q24:=_,fd_q24,F_q24,B_q24:=F_q24.bindsN (fun _ _ _ _ _ _ us hl=>match us,hl with | [_],_=>rfl),g_q24:=He.glo_ok X G (c.fact 22 rfl),a_q17:=_,fd_q17,F_q17,B_q17:=F_q17.bindsN (fun _ _ _ _ _ _ us hl=>match us,hl with | [_],_=>rfl),g_q17:=He.glo_ok X G (c.fact 23 rfl),a_q10:=_,fd_q10,F_q10,B_q10:=F_q10.bindsN (fun _ _ _ _ _ _ us hl=>match us,hl with | [_,_],_=>rfl),g_q10:=He.glo_ok X G (c.fact 24 rfl),a_q22:=_,fd_q22,F_q22,B_q22:=F_q22.bindsN (fun _ _ _ _ _ _ us hl=>match us,hl with | [_],_=>rfl),g_q22:=He.glo_ok X G (c.fact 25 rfl),a_law:=_,fd_law,F_law,B_law:=F_law.bindsN (fun _ _ _ _ _ _ us hl=>match us,hl with | [_],_=>rfl),g_law:=He.glo_ok X G (c.fact 26 rfl),C_NoText:=_,f_NoText:=_,e_NoText:=HX.err_of X G (c.fact 27 rfl) (He.ba e).1 F_NoText ⟨_,_,rfl⟩ ⟨_,_,_,_,rfl⟩ rfl (by decide) (by decide) (fun _ _ _ _ _ _ _ _ _ _ _ _ _ _=>rfl),C_Reader:=He.ga K "Reader",gC_Reader:=He.glo_ok X G (c.fact 28 rfl),cls_Reader:=He.cls_ok (c.fact 29 (f:=.cls "Reader") rfl),mk_Reader:=He.mkr_ok (c.fact 30 (f:=.mkr "Reader") rfl),na_Reader_many:=He.noat_ok (c.fact 31 (f:=.noat "Reader" "many") rfl),na_Reader_place:=He.noat_ok (c.fact 32 (f:=.noat "Reader" "place") rfl),na_Reader_words:=He.noat_ok (c.fact 33 (f:=.noat "Reader" "words") rfl),mt_q13:=He.meth_ok (c.fact 34 (f:=.meth "Reader" "here") rfl),mt_q11:=He.meth_ok (c.fact 35 (f:=.meth "Reader" "inner") rfl),mt_q7:=He.meth_ok (c.fact 36 (f:=.meth "Reader" "one_of") rfl),mt_q8:=He.meth_ok (c.fact 37 (f:=.meth "Reader" "refuse") rfl),mt_q5:=He.meth_ok (c.fact 38 (f:=.meth "Reader" "row_here") rfl),mt_q2:=He.meth_ok (c.fact 39 (f:=.meth "Reader" "rows_here") rfl),mt_q12:=He.meth_ok (c.fact 40 (f:=.meth "Reader" "step") rfl),mt_q4:=He.meth_ok (c.fact 41 (f:=.meth "Reader" "sum_here") rfl),mt_q15:=He.meth_ok (c.fact 42 (f:=.meth "Reader" "take") rfl),mt_q1:=He.meth_ok (c.fact 43 (f:=.meth "Reader" "take_name") rfl),mt_q0:=He.meth_ok (c.fact 44 (f:=.meth "Reader" "test_here") rfl),n_abs:=He.free_ok X G (c.fact 45 (f:=.free "abs") rfl),n_all:=He.free_ok X G (c.fact 46 (f:=.free "all") rfl),n_bool:=He.free_ok X G (c.fact 47 (f:=.free "bool") rfl),n_int:=He.free_ok X G (c.fact 48 (f:=.free "int") rfl),n_isinstance:=He.free_ok X G (c.fact 49 (f:=.free "isinstance") rfl),n_len:=He.free_ok X G (c.fact 50 (f:=.free "len") rfl),n_list:=He.free_ok X G (c.fact 51 (f:=.free "list") rfl),n_max:=He.free_ok X G (c.fact 52 (f:=.free "max") rfl),n_min:=He.free_ok X G (c.fact 53 (f:=.free "min") rfl),n_range:=He.free_ok X G (c.fact 54 (f:=.free "range") rfl),n_repr:=He.free_ok X G (c.fact 55 (f:=.free "repr") rfl),n_str:=He.free_ok X G (c.fact 56 (f:=.free "str") rfl),n_tuple:=He.free_ok X G (c.fact 57 (f:=.free "tuple") rfl),n_zip:=He.free_ok X G (c.fact 58 (f:=.free "zip") rfl),c_CELL_SIGN:=He.str_ok X G (c.fact 59 rfl),c_COMPARED:=Gg (He.glo_ok X G (c.fact 60 rfl)) (st.tab 0 (t:=_) rfl) (He.ba (He.ba e).2).1 (by decide +kernel) (by decide),c_FIGURES:=He.str_ok X G (c.fact 61 rfl),c_LETTERS:=He.str_ok X G (c.fact 62 rfl),c_MOST_FIGURES:=He.int_ok X G (c.fact 63 rfl),c_MOST_NUMBER:=He.int_ok X G (c.fact 64 rfl),c_MOST_ROWS:=He.int_ok X G (c.fact 65 rfl),c_MOST_SIGNS:=He.int_ok X G (c.fact 66 rfl),c_MOST_SUMS:=He.int_ok X G (c.fact 67 rfl),c_MOST_TESTS:=He.int_ok X G (c.fact 68 rfl),c_MOST_WITHIN:=He.int_ok X G (c.fact 69 rfl),c_PURSE_SIGN:=He.str_ok X G (c.fact 70 rfl),c_ROW_WORDS:=VD (He.glo_ok X G (c.fact 71 rfl)) (He.ba (He.ba (He.ba e).2).2).1,c_SIGNS:=VD (He.glo_ok X G (c.fact 72 rfl)) (He.ba (He.ba (He.ba (He.ba e).2).2).2).1,c_WITHIN_WORDS:=VD (He.glo_ok X G (c.fact 73 rfl)) (He.ba (He.ba (He.ba (He.ba e).2).2).2).2 },?_⟩
 have z:=hfa.symm.trans (He.glo_ok X G (c.fact 26 rfl))
 cases z
 rfl
end K61
open PySem PySem.W PySem.Calls PyProof.Rows
theorem PySem.Challenge.cw_newsahead_k61_rows_written_and_read_holds : PySem.Challenge.rw_newsahead_k61_rows_written_and_read.Holds := by
 refine K61.enter ?hc
 case hc=>
  refine ND.walkGT (l:=PySem.Challenge.rw_newsahead_k61_rows_written_and_read) (n:=63) (k:=47) (x := "_law_script") (CX:=L2.CX0) rfl (by decide) (by kernel_rfl) ⟨⟨rfl,by decide,by decide⟩,rfl⟩ ?F (fun _ _ _ _ z=>z)
  intro w mg fa h Y G hmg0
  obtain ⟨K,KX,sl⟩:=Y
  have says:=sl.s
  have c:=says.t.d
  have e:=says.more
  have hmg:mg ("law" : PySem.Str)=some (.ref fa):=by
   have e:(HandSHeadRun.topDef (OpenLaw.row PySem.Challenge.rw_newsahead_k61_rows_written_and_read).prog 48).name=("law" : PySem.Str):=by kernel_rfl
   rw [← e]
   exact hmg0
  obtain ⟨T,rfl⟩:=K61.facts KX G hmg w says.t c e
  refine ⟨K,T.fd_law,_,KX,sl.tab,fun s u=>L2.FunD.bindsA (ps:=["_law_script"]) T.F_law (fun _ _ _ _ _ _ us hl=>match us,hl with | [_],_=>rfl) s [u] rfl,?_,fun base _ _=>HX.calm (K61.ok_law (P:=(PySem.Challenge.rw_newsahead_k61_rows_written_and_read).prog) (w:=w) (base:=base) T)⟩
  intro H a ns hl hS0 hS
  exact ND.law_spT sl.nd K61.law_true H a ns hl hS0 hS