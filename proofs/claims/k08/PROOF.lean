import PyProof.Rows.All
import Wide.All
import OpenK.AllK
import Wide.FinOn
import HandS.HeadHook4
import HandS.Head2
import HandS.Base
import HandS.Call
import HandS.List
import HandS.Comp
import HandS.Exc
import HandS.ExcCtx
import HandS.Words
import HandS.Lambda
import KE.KeyNested
import KE.KDictDisplayH
import HandS.Defaults
import HandS.ExcOwn
import HandS.CallSlots
import HandS.Iter
import HandS.IsInst
import HandS.Wide
import HandS.Style
import HandS.NoneIn
import HandS.TupAny
import KE.GoesEnumKw
import KE.GoesMore
import HandS.Zip
import HandS.SortKw
import HandS.Text
import HandS.WordsExc
import HandS.EndTab
import HandS.HeadWalk
import HandS.ExcInit
import HandS.ExcField
import HandS.ExcIs
import HandS.Deep
import KE.KSortKeySt
import HandS.Nested
import KE.SortData
import KE.DataMinMax
import HandS.Small
import HandS.More
import HandS.WordsDict
import HandS.RevRange
import KE.KMinKey
import PyProof.InstNe
import HandS.OwnEq
import HandS.DictComp
import HandS.Rev
import HandS.Remove
import HandS.Flow
import PyProof.DictUpdate
import HandS.FStr
import PyProof.WalkInts
import KE.KEqNest
import HandS.NamedTupGet
import HandS.Finally
import KE.KCallOwn
import PyProof.CallFns
import PyProof.Conv_bool
import HandS.Records
import PyProof.EqKinds
import HandS.Hot
import HandS.HotCalls
import KE.KExcIs
import KE.IntTextLaws
import PySem.Challenge.RW_farmesh_k08_patterns_refused
set_option Elab.async false
set_option linter.all false
set_option maxRecDepth 100000
set_option maxHeartbeats 3900000
open List renaming length_map -> yC0, getElem?_eq_some_iff -> yC1, mem_cons_self -> yC2, getElem?_eq_getElem -> yC6, getElem?_set_self -> yC7, mem_cons_of_mem -> yC8, getElem?_set_ne -> yC9, length_cons -> yDa, getElem?_map -> yDb, length_set -> yDe, replicate -> yDg, nodup_cons -> yDh, mem_map -> yDi, getElem?_append_left -> yDj, take_of_length_le -> yDk, length_append -> yDl, all_eq_true -> yDm, mem_of_getElem? -> yDn, mem_cons -> yDo, length_take -> yDq, mem_singleton -> yDr, nodup_nil -> yDu, drop_eq_getElem_cons -> yDv, map_append -> yDw, getElem?_eq_none_iff -> yDx, length_drop -> yDy, set_set -> yDz, mem_of_mem_take -> yD1, map_cons -> yD2, append_nil -> yD3, getElem?_append_right -> yD4, all_cons -> yD6, drop_eq_nil_iff -> yD7, mem_append -> yEa, lookup -> yEb, lookup_cons -> yEc, getElem_mem -> yEd, drop_of_length_le -> yEf, length_replicate -> yEg, set_comm -> yEj, take_add_one -> yEk, length -> yEl, replicate_succ -> yEm, ext_getElem? -> yEq, nodup_append -> yEr, not_mem_nil -> yEs, any_cons -> yEu
open Classical renaming byContradiction -> yC3
open Option renaming map_eq_some_iff -> yC4, some -> yDc, bind_eq_some_iff -> yDf, isSome_iff_exists -> yD0
open Bool renaming and_eq_true -> yC5, noConfusion -> yDd, not_eq_true' -> yDt, false_ne_true -> yD5, and_eq_true_iff -> yD8
open Nat renaming le_refl -> yDp, zero_le -> yDs, le_succ -> yEh, ne_of_lt -> yEi, le_trans -> yEn, not_lt_zero -> yEp, min_eq_right -> yEt
open Int renaming toNat_natCast -> yD9, fmod_nonneg_of_pos -> yEe, fmod_lt_of_pos -> yEo
namespace Hk
open PySem PySem.Spec PyProof.Rows L2 He
def outs:Option Obj->List Addr
 | some ⟨_,_,.func fd,_⟩=>refV fd.code++(refV fd.defaults++refV fd.kwdefaults)
 | some ⟨_,_,.cls cd,_⟩=>cd.ns::cd.mro.flatMap refV
 | _=>[]
def vals:Option Obj->List Addr
 | some ⟨_,_,.dict es _,_⟩=>es.toList.flatMap fun e=>refV e.val
 | _=>[]
def one (g:Addr->Option Obj):List Addr:=vals (g mainGlobals)
def two (g:Addr->Option Obj):List Addr:=(one g).flatMap fun a=>outs (g a)
def three (g:Addr->Option Obj):List Addr:=(two g).flatMap fun a=>vals (g a)
def four (g:Addr->Option Obj):List Addr:=(three g).flatMap fun a=>outs (g a)
def names (g:Addr->Option Obj):List Addr:=mainGlobals::(one g++(two g++(three g++four g)))
abbrev frag (g:Addr->Option Obj):PySem.W.Frag:=frT g (names g)
def look (fa:List Fa)(fn:List DefD)(tf:List Defn)(ex:PySem.W.Frag->Bool)(g:Addr->Option Obj):AlX:=
 ((obsD fa fn (frag g),[]),ex (frag g)&&tabsB g tf (frag g))
theorem said {fa:List Fa}{fn:List DefD}{tf:List Defn}{ex:PySem.W.Frag->Bool}{w:World}{h:Heap}(e:look fa fn tf ex h.get? =valX fn [] w):SaysX fa fn [] tf ex w h (frag h.get?):=by
 have e1:(obsD fa fn (frag h.get?),([]:List (Option (List (Option (Str×Int))))))=(valD fn,[]):=(Prod.mk.inj e).1
 obtain ⟨h1,h2⟩:=ba (Prod.mk.inj e).2
 have each: ∀ p∈tf,PySem.W.codeHdIn (frag h.get?) (cT (frag h.get?) p).1 (cT (frag h.get?) p).2=true/\ ∃ o,h.get? (cT (frag h.get?) p).2=some o/\emptyTab o=true:=by
  intro p hp
  have both:=ba (yDm.mp h2 p hp)
  obtain ⟨h3,h4⟩:=both
  revert h4
  cases q:h.get? (cT (frag h.get?) p).2 with
  | none=>exact fun h4=>by cases h4
  | some o=>exact fun h4=>⟨h3,o,rfl,h4⟩
 refine ⟨e1,h1,fun p hp=>(each p hp).1,fun p hp=> ?_,fun p hp=> ?_⟩
 ·obtain ⟨_,o,q,z⟩:=each p hp
  exact frT_none q z
 ·obtain ⟨_,o,q,z⟩:=each p hp
  rw [q,emptyTab_eq z]
def hook (fa:List Fa)(fn:List DefD)(tf:List Defn)(ex:PySem.W.Frag->Bool):PySem.W.Hook where
 α:=AlX
 obs:=fun s=>look fa fn tf ex s.heap.get?
 val:=fun w=>valX fn [] w
 says:=fun w h=> ∃ K:PySem.W.Frag,K.In h/\SaysX fa fn [] tf ex w h K
 of:=fun _ _ e=>⟨_,frT_in,said e⟩
 keeps:=fun _ _ _ ⟨K,i,c⟩ k=>⟨K,PySem.W.Frag.In.keeps i k,⟨c.t,c.more,c.hd,c.out,fun p hp=>k _ _ (c.empty p hp)⟩⟩
theorem look_eq {fa:List Fa}{fn:List DefD}{tf:List Defn}{ex:PySem.W.Frag->Bool}(s:PySem.W.SharedT):look fa fn tf ex (HandSHeadRun.getT s)=(hook fa fn tf ex).obs s.abs:=by
 have e:HandSHeadRun.getT s=s.abs.heap.get? :=funext (HandSHeadRun.getT_eq s)
 show look fa fn tf ex (HandSHeadRun.getT s)=look fa fn tf ex s.abs.heap.get?
 rw [e]
end Hk
namespace HandSHeadRun
open PySem.W PySem.Calls PyProof.Rows PySem
def RunP {β:Type}(r:OpenRow)(M:Nat)(f:SharedT->β)(v:β)(w:World):Prop:=
 ∀ os:OsState,(endF (stepQ (denQ tabQ) r.prog w) M r.prog w os).map f=some v
noncomputable abbrev runA (r:OpenRow) (q:Program) (loose:List PySem.Str) (w:World) (s:SharedT):=
 (looksF r.prog (boot_heap w.params) s.abs,seenQ q loose (importedModules r.prog.main.body) (fun s=>xlAt q [] s&&recOk r.toRowW.records s) s.abs)
end HandSHeadRun
namespace Hk
open PySem PySem.Spec PyProof.Rows L2 He HandSHeadRun PySem.W
abbrev K (s:PySem.W.SharedT):PySem.W.Frag:=frag (getT s)
abbrev pF (fa:List Fa)(s:PySem.W.SharedT):Bool:=fa.all fun f=>f.ok (K s)
abbrev pX (tf:List Defn)(ex:PySem.W.Frag->Bool)(s:PySem.W.SharedT):Bool:=ex (K s)&&tabsB (getT s) tf (K s)
abbrev pN (fn:List DefD)(s:PySem.W.SharedT):AlD:=(fn.all fun d=>d.ok (K s),fn.map fun d=>fnW (K s) d.at_)
theorem run_of {r:PySem.W.OpenRow}{q:Program}{loose:List PySem.Str}{M:Nat}{fa:List Fa}{fn:List DefD}{tf:List Defn}{ex:PySem.W.Frag->Bool}{w:World}
  (h0:RunP r M (runA r q loose w) (true,PySem.W.openGood q loose) w) (h1:RunP r M (fun s=>pF fa s&&pX tf ex s) true w) (h2:RunP r M (pN fn) (valD fn) w):
  RunEq r q (hook fa fn tf ex) (fun s=>look fa fn tf ex (getT s)) M loose w:=by
 intro os
 cases e:endF (stepQ (denQ tabQ) r.prog w) M r.prog w os with
 | none=>
  have z:=h0 os
  rw [e] at z
  cases z
 | some s=>
  have z0:=h0 os
  have z1:=h1 os
  have z2:=h2 os
  rw [e] at z0 z1 z2
  have z0:=yDc.inj z0
  have z1:=yDc.inj z1
  have z2:=yDc.inj z2
  obtain ⟨a1,a2⟩:=ba z1
  show some (_,_,((((fa.all fun f=>f.ok (K s))&&fn.all fun d=>d.ok (K s),fn.map fun d=>fnW (K s) d.at_),_),_))=_
  have b0:=congrArg Prod.fst z0
  have b1:=congrArg Prod.snd z0
  have c0:=congrArg Prod.fst z2
  have c1:=congrArg Prod.snd z2
  have a1:(fa.all fun f=>f.ok (K s))=true:=a1
  have a2:(ex (K s)&&tabsB (getT s) tf (K s))=true:=a2
  have c0:(fn.all fun d=>d.ok (K s))=true:=c0
  have c1:(fn.map fun d=>fnW (K s) d.at_)=fn.map DefD.val:=c1
  have b0:looksF r.prog (boot_heap w.params) s.abs=true:=b0
  show some (looksF r.prog (boot_heap w.params) s.abs,_,((((fa.all fun f=>f.ok (K s))&&fn.all fun d=>d.ok (K s),fn.map fun d=>fnW (K s) d.at_),_),(ex (K s)&&tabsB (getT s) tf (K s))))=_
  rw [a1,a2,c0,c1,b0]
  exact congrArg (fun y=>some (true,y,((true,fn.map DefD.val),[]),true)) b1
end Hk
namespace Fm
open L2 PySem PySem.Spec PyProof.Rows
def xN8 (C:Addr)(o:Obj):Bool:=match o with
 | ⟨.type m,_,.cls cd,⟨[_,_,_,_,some (.builtin n),_]⟩⟩=>m=="type"&&(n=="ValueError.__new__"&&(cd.hasDict&&(!cd.hasDel&&(match cd.mro with
  | .ref D::bm=>D==C&&PySem.HandSPX.refsVE bm
  | _=>false))))
 | _=>false
def oexB (K:PySem.W.Frag)(C:Addr):Bool:=(K.lookup C).any (xN8 C)&&(decide (PySem.W.findIn K (.ref C) "__setattr__"=some (some (.builtin "object.__setattr__")))&&(decide (PySem.W.subIn K (.ref C) (.type "BaseException")=some true)&&
 (decide (PySem.W.typeIn K (.ref C)=some (.type "type"))&&PySem.W.keepIn K (.ref C))))
def excB (K:PySem.W.Frag)(C fI:Addr)(f:Str):Bool:=oexB K C&&(decide (PySem.W.findIn K (.ref C) f=some none)&&(decide (PySem.W.findIn K (.ref C) "__init__"=some (some (.ref fI)))&&decide (PySem.W.typeIn K (.ref fI)=some (.type "function"))))
def catB (K:PySem.W.Frag)(CM CK C:Addr)(f:Str):Bool:=(match PySem.W.exmOne K (.ref C) (.ref CM) with
 | some true=>true
 | some false=>decide (PySem.W.exmOne K (.ref C) (.ref CK)=some true)
 | none=>false)&&(xfB K C&&decide (PySem.W.findIn K (.ref C) f=some none))
def xA7:Stmt->List Stmt
 | .ClassDef _ _ _ b _ _ _ _ _ _ _=>b
 | _=>[]
def cat1B (K:PySem.W.Frag)(CM C:Addr)(f:Str):Bool:=decide (PySem.W.exmOne K (.ref C) (.ref CM)=some true)&&(xfB K C&&decide (PySem.W.findIn K (.ref C) f=some none))
abbrev xKt:List Value:=[.type "KeyError",.type "LookupError",.type "Exception",.type "BaseException",.type "object"]
def xB5:List Value->Bool
 | .ref _::m=>xB5 m
 | m=>m==xKt
def xN6 (C:Addr)(o:Obj):Bool:=match o with
 | ⟨.type m,_,.cls cd,⟨[_,_,_,_,some (.builtin n),_]⟩⟩=>m=="type"&&(n=="LookupError.__new__"&&(cd.hasDict&&(!cd.hasDel&&(match cd.mro with
  | .ref D::bm=>D==C&&xB5 bm
  | _=>false))))
 | _=>false
def yCk (K:PySem.W.Frag)(C:Addr):Bool:=(K.lookup C).any (xN6 C)&&(decide (PySem.W.findIn K (.ref C) "__setattr__"=some (some (.builtin "object.__setattr__")))&&(decide (PySem.W.subIn K (.ref C) (.type "BaseException")=some true)&&
 (decide (PySem.W.typeIn K (.ref C)=some (.type "type"))&&PySem.W.keepIn K (.ref C))))
def exKB (K:PySem.W.Frag)(C fI:Addr)(f:Str):Bool:=yCk K C&&(decide (PySem.W.findIn K (.ref C) f=some none)&&(decide (PySem.W.findIn K (.ref C) "__init__"=some (some (.ref fI)))&&decide (PySem.W.typeIn K (.ref fI)=some (.type "function"))))
inductive Pt where
 | fld (f:Str)
 | neg (k:Int)
deriving DecidableEq
abbrev Cp:=Addr×Pt×Pt
def xZn (K:PySem.W.Frag)(cls:Value):List Cp->Option (Pt×Pt)
 | []=>none
 | q::r=>match PySem.W.exmOne K cls (.ref q.1) with
  | some true=>some q.2
  | some false=>xZn K cls r
  | none=>none
def ptF (K:PySem.W.Frag)(C:Addr):Pt->Bool
 | .fld f=>xfB K C&&decide (PySem.W.findIn K (.ref C) f=some none)
 | .neg _=>true
def tryPB (K:PySem.W.Frag)(l:List Cp)(C:Addr)(w:Pt×Pt):Bool:=decide (xZn K (.ref C) l=some w)&&(ptF K C w.1&&ptF K C w.2)
def insB (K:PySem.W.Frag)(C:Addr):Bool:=(decide (PySem.W.findIn K (.ref C) "__class__"=some (some (.builtin "object.__class__")))&&decide (PySem.W.specialIn K (.builtin "object.__class__") "__get__"=some (some (.builtin "getset_descriptor.__get__"))))&&
 ((decide (PySem.W.takesIn K (.builtin "object.__class__")=some true)&&decide (PySem.W.mroIn K C (.type "object")=some true))&&
 (decide (PySem.W.kitOne K (.ref C) (.ref C)=some true)&&["NoneType","bool","int","str","tuple","list","dict"].all fun t=>decide (PySem.W.kitOne K (.type t) (.ref C)=some false)))
def offB (K:PySem.W.Frag)(C:Addr):Bool:=["str","int","tuple"].all fun t=>decide (PySem.W.mroIn K C (.type t)=some false)
def xQc (K:PySem.W.Frag)(C:Addr):Bool:=(PySem.W.clsIn K C).isSome&&(decide (PySem.W.findIn K (.ref C) "__getattribute__"=some (some (.builtin "BaseException.__getattribute__")))&&(decide (PySem.W.findIn K (.ref C) "__getattr__"=some none)&&
 (decide (PySem.W.subIn K (.ref C) (.type "BaseException")=some true)&&(decide (PySem.W.findIn K (.ref C) "__class__"=some (some (.builtin "object.__class__")))&&(decide (PySem.W.specialIn K (.builtin "object.__class__") "__get__"=some (some (.builtin "getset_descriptor.__get__")))&&
 (decide (PySem.W.takesIn K (.builtin "object.__class__")=some true)&&decide (PySem.W.mroIn K C (.type "object")=some true)))))))
structure Cq where
 cm:Value
 sets:List (Nat×Str)
 tests:List (Bool×Value)
def xVo (K:PySem.W.Frag)(cls:Value):List Cq->Option Cq
 | []=>none
 | q::r=>match PySem.W.exmOne K cls q.cm with
  | some true=>some q
  | some false=>xVo K cls r
  | none=>none
def xH1 (K:PySem.W.Frag)(l:List Cq)(C:Addr)(ss:List (Nat×Str)):Bool:=xQc K C&&(xfB K C&&((ss.all fun p=>decide (PySem.W.findIn K (.ref C) p.2=some none))&&match xVo K (.ref C) l with
 | some q=>decide (q.sets=ss)&&q.tests.all fun t=>decide (PySem.W.kitOne K (.ref C) t.2=some t.1)
 | none=>false))
end Fm
namespace Lw
open L2 PySem PySem.Spec PyProof.Rows Fm
def top (i:Nat):Stmt:=PySem.Challenge.pw_farmesh_k08_patterns_refused.main.body.getD i (.Pass ⟨0,0,0,0⟩)
abbrev xH0:Stmt:=(xA7 (top 5)).getD 0 (.Pass ⟨0,0,0,0⟩)
abbrev xIw:Stmt:=(xA7 (top 6)).getD 0 (.Pass ⟨0,0,0,0⟩)
abbrev xHq:Stmt:=(xA7 (top 4)).getD 0 (.Pass ⟨0,0,0,0⟩)
abbrev xOl:Stmt:=(xA7 (top 11)).getD 0 (.Pass ⟨0,0,0,0⟩)
abbrev xSw:Stmt:=(xA7 (top 8)).getD 0 (.Pass ⟨0,0,0,0⟩)
abbrev xI8:Stmt:=(xA7 (top 9)).getD 0 (.Pass ⟨0,0,0,0⟩)
abbrev xLk:Stmt:=(xA7 (top 10)).getD 0 (.Pass ⟨0,0,0,0⟩)
abbrev xJf:Stmt:=(xA7 (top 12)).getD 0 (.Pass ⟨0,0,0,0⟩)
abbrev xGl:Stmt:=(xA7 (top 7)).getD 0 (.Pass ⟨0,0,0,0⟩)
abbrev xL4:Stmt:=top 21
abbrev xHo:Stmt:=top 24
abbrev xJe:Stmt:=top 25
abbrev xN1:Stmt:=top 22
abbrev xEr:Stmt:=(xA7 (top 26)).getD 2 (.Pass ⟨0,0,0,0⟩)
abbrev xOa:Stmt:=top 23
abbrev xEx:Stmt:=(xA7 (top 26)).getD 10 (.Pass ⟨0,0,0,0⟩)
abbrev xCl:Stmt:=(xA7 (top 26)).getD 11 (.Pass ⟨0,0,0,0⟩)
abbrev xDi:Stmt:=(xA7 (top 26)).getD 1 (.Pass ⟨0,0,0,0⟩)
abbrev xD7:Stmt:=(xA7 (top 26)).getD 8 (.Pass ⟨0,0,0,0⟩)
abbrev xC9:Stmt:=(xA7 (top 26)).getD 0 (.Pass ⟨0,0,0,0⟩)
abbrev xHt:Stmt:=top 28
abbrev xGi:Stmt:=top 33
abbrev xJd:Stmt:=top 29
abbrev xEz:Stmt:=top 30
abbrev xFq:Stmt:=top 32
abbrev xFo:Stmt:=top 34
abbrev xIx:Stmt:=top 35
abbrev xGo:Stmt:=top 36
abbrev xGk:Stmt:=top 37
abbrev xE0:Stmt:=top 38
abbrev xEs:Stmt:=top 39
abbrev xEw:Stmt:=top 40
abbrev xJh:Stmt:=top 41
abbrev xD8:Stmt:=top 31
abbrev xG7:Stmt:=top 42
abbrev xH5:Stmt:=top 43
abbrev yAu:Stmt:=top 44
abbrev hdN (n:Str)(t:Stmt):He.DefD:=⟨(n,none),n,n,defArgs t,defBody t,defScope t,[],[]⟩
abbrev hdM (c m q:Str)(t:Stmt):He.DefD:=⟨(c,some m),m,q,defArgs t,defBody t,defScope t,[],[]⟩
def xP6:He.DefD:=hdN "is_name" xL4
def xLs:He.DefD:=hdN "need_name" xHo
def xNr:He.DefD:=hdN "need_dye" xJe
def xRf:He.DefD:=hdN "turned" xN1
def xHw:He.DefD:=hdM "Pattern" "ends" "Pattern.ends" xEr
def xQ2:He.DefD:=hdN "lesser" xOa
def xG5:He.DefD:=hdM "Pattern" "need" "Pattern.need" xEx
def xD5:He.DefD:=hdM "Pattern" "need_shift" "Pattern.need_shift" xCl
def xFj:He.DefD:=hdM "Pattern" "fitting" "Pattern.fitting" xDi
def xGp:He.DefD:=hdM "Pattern" "names" "Pattern.names" xD7
def xFa:He.DefD:=hdM "Pattern" "__init__" "Pattern.__init__" xC9
def xK9:He.DefD:=hdN "_law_pick" xHt
def xJo:He.DefD:=hdN "_law_begin" xGi
def xMk:He.DefD:=hdN "_law_one" xJd
def xH4:He.DefD:=hdN "_law_numbers" xEz
def xIp:He.DefD:=hdN "_law_turned" xFq
def xIe:He.DefD:=hdN "_law_lesser" xFo
def xNq:He.DefD:=hdN "_law_put" xIx
def xKg:He.DefD:=hdN "_law_loose" xGo
def xJw:He.DefD:=hdN "_law_names" xGk
def xG9:He.DefD:=hdN "_law_is_name" xE0
def xH8:He.DefD:=hdN "_law_noughts" xEs
def xHb:He.DefD:=hdN "_law_tie_due" xEw
def xNh:He.DefD:=hdN "_law_due" xJh
def xGs:He.DefD:=hdN "_law_odd_word" xD8
def xK6:He.DefD:=hdN "_law_bent" xG7
def xLu:He.DefD:=hdN "_law_lost" xH5
def xWd:He.DefD:=hdN "law" yAu
def xMp:He.DefD:=hdM "BadDye" "__init__" "BadDye.__init__" xIw
def xLe:He.DefD:=hdM "BadName" "__init__" "BadName.__init__" xH0
def xJm:He.DefD:=hdM "BadShift" "__init__" "BadShift.__init__" xGl
def xNv:He.DefD:=hdM "BadTie" "__init__" "BadTie.__init__" xI8
def xLf:He.DefD:=hdM "BadWays" "__init__" "BadWays.__init__" xHq
def xUs:He.DefD:=hdM "Far" "__init__" "Far.__init__" xSw
def xRv:He.DefD:=hdM "Full" "__init__" "Full.__init__" xOl
def xNd:He.DefD:=hdM "NoKnot" "__init__" "NoKnot.__init__" xJf
def xPp:He.DefD:=hdM "Twice" "__init__" "Twice.__init__" xLk
def fnZ_:List He.DefD:=[xP6,xLs,xNr,xRf,xHw,xQ2,xG5,xD5,xFj,xGp,xFa,xK9,xJo,xMk,xH4,xIp,xIe,xNq,xKg,xJw,xG9,xH8,xHb,xNh,xGs,xK6,xLu,xWd,xMp,xLe,xJm,xNv,xLf,xUs,xRv,xNd,xPp]
def xMs (K:PySem.W.Frag):String->Addr:=fun c=>He.ga K (Str.ofString c)
def xW4 (K:PySem.W.Frag):List (Addr×Str):=[]
abbrev tfZ_:List He.Defn:=[]
def faZ_:List He.Fa:=[.glo "is_name",.glo "need_name",.glo "need_dye",.glo "turned",.glo "lesser",.glo "_law_pick",.glo "_law_begin",.glo "_law_one",.glo "_law_numbers",.glo "_law_turned",.glo "_law_lesser",.glo "_law_put",.glo "_law_loose",.glo "_law_names",.glo "_law_is_name",.glo "_law_noughts",.glo "_law_tie_due",.glo "_law_due",.glo "_law_odd_word",.glo "_law_bent",.glo "_law_lost",.glo "law",.free "KeyError",.free "ValueError",.free "abs",.free "all",.free "any",.free "dict",.free "isinstance",.free "len",.free "list",.free "max",.free "min",.free "range",.free "sorted",.free "tuple",.glo "BadDye",.glo "BadName",.glo "BadShift",.glo "BadTie",.glo "BadWays",.glo "Far",.glo "Full",.glo "MeshError",.glo "Missing",.glo "NoKnot",.glo "Pattern",.glo "Twice",.int "FARTHEST" 1000000,.str "LETTERS" "abcdefghijklmnopqrstuvwxyz",.int "LONGEST" 8,.int "MOST_DYE" 9,.int "MOST_KNOTS" 12,.int "MOST_TIES" 24,.int "MOST_WAYS" 3,.cls "Pattern",.noat "Pattern" "at",.noat "Pattern" "bonds",.noat "Pattern" "dyes",.noat "Pattern" "ways",.meth "Pattern" "ends",.meth "Pattern" "need",.meth "Pattern" "need_shift",.meth "Pattern" "fitting",.meth "Pattern" "names",.mkr "Pattern"]
def xZg (K:PySem.W.Frag):List Bool:=[excB K (He.ga K "BadDye") (He.fAd K ("BadDye",some "__init__")) "called",excB K (He.ga K "BadName") (He.fAd K ("BadName",some "__init__")) "called",excB K (He.ga K "BadShift") (He.fAd K ("BadShift",some "__init__")) "called",excB K (He.ga K "BadTie") (He.fAd K ("BadTie",some "__init__")) "called",excB K (He.ga K "BadWays") (He.fAd K ("BadWays",some "__init__")) "called",excB K (He.ga K "Far") (He.fAd K ("Far",some "__init__")) "called",excB K (He.ga K "Full") (He.fAd K ("Full",some "__init__")) "called",exKB K (He.ga K "NoKnot") (He.fAd K ("NoKnot",some "__init__")) "called",excB K (He.ga K "Twice") (He.fAd K ("Twice",some "__init__")) "called",decide (PySem.W.findIn K (.ref (He.ga K "NoKnot")) "name"=some none),xH1 K [⟨.ref (He.ga K "NoKnot" ),[(6,"name"),(7,"called")],[(true,.type "KeyError"),(true,.ref (He.ga K "Missing" )),(false,.type "ValueError")]⟩,⟨.ref (He.ga K "MeshError" ),[(7,"called")],[(true,.type "ValueError"),(false,.type "KeyError")]⟩] (He.ga K "BadName") [(7,"called")],xH1 K [⟨.ref (He.ga K "NoKnot" ),[(6,"name"),(7,"called")],[(true,.type "KeyError"),(true,.ref (He.ga K "Missing" )),(false,.type "ValueError")]⟩,⟨.ref (He.ga K "MeshError" ),[(7,"called")],[(true,.type "ValueError"),(false,.type "KeyError")]⟩] (He.ga K "BadDye") [(7,"called")],xH1 K [⟨.ref (He.ga K "NoKnot" ),[(6,"name"),(7,"called")],[(true,.type "KeyError"),(true,.ref (He.ga K "Missing" )),(false,.type "ValueError")]⟩,⟨.ref (He.ga K "MeshError" ),[(7,"called")],[(true,.type "ValueError"),(false,.type "KeyError")]⟩] (He.ga K "BadWays") [(7,"called")],xH1 K [⟨.ref (He.ga K "NoKnot" ),[(6,"name"),(7,"called")],[(true,.type "KeyError"),(true,.ref (He.ga K "Missing" )),(false,.type "ValueError")]⟩,⟨.ref (He.ga K "MeshError" ),[(7,"called")],[(true,.type "ValueError"),(false,.type "KeyError")]⟩] (He.ga K "Full") [(7,"called")],xH1 K [⟨.ref (He.ga K "NoKnot" ),[(6,"name"),(7,"called")],[(true,.type "KeyError"),(true,.ref (He.ga K "Missing" )),(false,.type "ValueError")]⟩,⟨.ref (He.ga K "MeshError" ),[(7,"called")],[(true,.type "ValueError"),(false,.type "KeyError")]⟩] (He.ga K "Far") [(7,"called")],xH1 K [⟨.ref (He.ga K "NoKnot" ),[(6,"name"),(7,"called")],[(true,.type "KeyError"),(true,.ref (He.ga K "Missing" )),(false,.type "ValueError")]⟩,⟨.ref (He.ga K "MeshError" ),[(7,"called")],[(true,.type "ValueError"),(false,.type "KeyError")]⟩] (He.ga K "BadTie") [(7,"called")],xH1 K [⟨.ref (He.ga K "NoKnot" ),[(6,"name"),(7,"called")],[(true,.type "KeyError"),(true,.ref (He.ga K "Missing" )),(false,.type "ValueError")]⟩,⟨.ref (He.ga K "MeshError" ),[(7,"called")],[(true,.type "ValueError"),(false,.type "KeyError")]⟩] (He.ga K "Twice") [(7,"called")],xH1 K [⟨.ref (He.ga K "NoKnot" ),[(6,"name"),(7,"called")],[(true,.type "KeyError"),(true,.ref (He.ga K "Missing" )),(false,.type "ValueError")]⟩,⟨.ref (He.ga K "MeshError" ),[(7,"called")],[(true,.type "ValueError"),(false,.type "KeyError")]⟩] (He.ga K "NoKnot") [(6,"name"),(7,"called")],xH1 K [⟨.ref (He.ga K "NoKnot" ),[(6,"name"),(7,"called")],[(true,.type "KeyError"),(true,.ref (He.ga K "Missing" )),(false,.type "ValueError")]⟩,⟨.ref (He.ga K "MeshError" ),[(7,"called")],[(true,.type "ValueError"),(false,.type "KeyError")]⟩] (He.ga K "BadShift") [(7,"called")]]
def exZ_ (K:PySem.W.Frag):Bool:=(xZg K).all id
def looseZ_:List Str:=(["_wall","MeshError","Missing","BadWays","BadName","BadDye","BadShift","Far","BadTie","Twice","Full","NoKnot","MOST_WAYS","MOST_KNOTS","MOST_TIES","MOST_DYE","FARTHEST","LONGEST","LETTERS","is_name","turned","lesser","need_name","need_dye","Pattern","_law_pick","_law_one","_law_numbers","_law_odd_word","_law_turned"]:List Str)++(["_law_begin","_law_lesser","_law_put","_law_loose","_law_names","_law_is_name","_law_noughts","_law_tie_due","_law_due","_law_bent","_law_lost"]:List Str)
abbrev RZ_:PySem.W.OpenRow:=PySem.W.OpenLaw.row PySem.Challenge.rw_farmesh_k08_patterns_refused
abbrev hkZ_:PySem.W.Hook:=Hk.hook faZ_ fnZ_ tfZ_ exZ_
def obZ_ (s:PySem.W.SharedT):He.AlX:=Hk.look faZ_ fnZ_ tfZ_ exZ_ (HandSHeadRun.getT s)
theorem ob_eqZ_ (s:PySem.W.SharedT):obZ_ s=hkZ_.obs s.abs:=Hk.look_eq s
theorem xZu (w:World):HandSHeadRun.RunP RZ_ 12000 (HandSHeadRun.runA RZ_ (PySem.W.view RZ_.prog [44]) looseZ_ w) (true,PySem.W.openGood (PySem.W.view RZ_.prog [44]) looseZ_) w:=by
 intro os
 kernel_rfl
theorem yAm (w:World):HandSHeadRun.RunP RZ_ 12000 (fun s=>Hk.pF faZ_ s&&Hk.pX tfZ_ exZ_ s) true w:=by
 intro os
 kernel_rfl
theorem yCw (w:World):HandSHeadRun.RunP RZ_ 12000 (Hk.pN fnZ_) (He.valD fnZ_) w:=by
 intro os
 kernel_rfl
theorem runZ_ (w:World):HandSHeadRun.RunEq RZ_ (PySem.W.view RZ_.prog [44]) hkZ_ obZ_ 12000 looseZ_ w:=Hk.run_of (xZu w) (yAm w) (yCw w)
end Lw
open PyProof.Rows PySem PySem.W PySem.Calls in
theorem Lw.preZ_ (hc:WalkO (view (OpenLaw.row PySem.Challenge.rw_farmesh_k08_patterns_refused).prog [44]) Lw.looseZ_ (XL (view (OpenLaw.row PySem.Challenge.rw_farmesh_k08_patterns_refused).prog [44]) []) Lw.hkZ_.says (OpenLaw.row PySem.Challenge.rw_farmesh_k08_patterns_refused).toRowW (HandSHeadRun.topDef (OpenLaw.row PySem.Challenge.rw_farmesh_k08_patterns_refused).prog 44) [] fun f vs=>PySem.call f vs):PySem.Challenge.rw_farmesh_k08_patterns_refused.Holds:=by
 w_on;o_law
 refine HandSHeadRun.head_any (r:=OpenLaw.row PySem.Challenge.rw_farmesh_k08_patterns_refused) (q:=view (OpenLaw.row PySem.Challenge.rw_farmesh_k08_patterns_refused).prog [44]) (H:=Lw.hkZ_) (ob:=Lw.obZ_) (M:=12000) (loose:=Lw.looseZ_) (d:=HandSHeadRun.topDef (OpenLaw.row PySem.Challenge.rw_farmesh_k08_patterns_refused).prog 44) (kwd:=[]) Lw.ob_eqZ_
  (by kernel_rfl) (fun s=>by kernel_rfl) Lw.runZ_ (by kernel_rfl) (by kernel_rfl) (by kernel_rfl) (by rfl) (by first|assumption|decide +kernel) (by decide +kernel) ⟨rfl,rfl,rfl,rfl,rfl,by decide +kernel⟩ ?hw hc
 case hw=>w_witness2
namespace Lw
open L2 PySem PySem.Spec PyProof.Rows Fm
end Lw
namespace Fm
open L2 PySem PySem.Spec PyProof.Rows
inductive D where
 | non|bl (b:Bool)|int (i:Int)|str (s:Str)
 | tup (l:List D)|lst (b:Bool) (l:List D)|dk (b:Bool) (l:List (Key×D))
 | ins (b:Bool) (c:String) (l:List (Str×D))|ty (n:String)|adr (a:Addr)|scr (l:List D)
 | nv (b:Bool) (l:List D) (ss:List Str)
structure Ctx where
 K:PySem.W.Frag
 cl:String->Addr
 tabs:List (Addr×Str)
 w:World
abbrev Pd:=Addr->Prop
def Ld (T:Pd)(a:Addr)(b:Bool):Prop:=T a ↔ b=true
def KT (K:PySem.W.Frag)(a:Addr)(xs:List V):Prop:=
 ∃ (ob:Obj) (us:Array Value) (m:Nat),K.lookup a=some ob/\ob.cls= .type "tuple"/\ob.data= .seq us m/\us.size<=sizeLine/\Vals xs us.toList
def xFw (K:PySem.W.Frag)(G:Hp)(a:Addr)(xs:List V):Prop:=G a=some (.tup xs)\/KT K a xs
theorem xFw.sq {K:PySem.W.Frag}{G H:Hp}{a:Addr}{xs:List V}(h:xFw K G a xs)(s:Same G H):SqT K H a xs:=by
 rcases h with h|h
 ·exact .inl (.inl (s _ _ h))
 ·exact .inr h
theorem xFw.mono {K:PySem.W.Frag}{G H:Hp}{a:Addr}{xs:List V}(s:Same G H)(h:xFw K G a xs):xFw K H a xs:=by
 rcases h with h|h
 ·exact .inl (s _ _ h)
 ·exact .inr h
def xJ7 (K:PySem.W.Frag)(G:Hp)(a:Addr)(xs:List V):Prop:=(∃ o,G a=some (.frz o (.lst xs)))\/
 ∃ (ob:Obj) (us:Array Value) (m:Nat),K.lookup a=some ob/\ob.cls= .type "list"/\ob.dict=none/\ob.data= .seq us m/\us.size<=sizeLine/\Vals xs us.toList
def mkL:List D->Bool
 | .non::_=>true
 | _=>false
theorem xJ7.sq {K:PySem.W.Frag}{G H:Hp}{a:Addr}{xs:List V}(h:xJ7 K G a xs)(s:Same G H):SqL K H a xs:=by
 rcases h with ⟨o,h⟩|h
 ·exact .inl (.inr ⟨o,s _ _ h⟩)
 ·exact .inr h
theorem xJ7.mono {K:PySem.W.Frag}{G H:Hp}{a:Addr}{xs:List V}(s:Same G H)(h:xJ7 K G a xs):xJ7 K H a xs:=by
 rcases h with ⟨o,h⟩|h
 ·exact .inl ⟨o,s _ _ h⟩
 ·exact .inr h
def DkAt (G:Hp)(a:Addr)(vs:List (Key×V))(b:Bool):Prop:=G a=some (.dK vs)\/(b=false/\ ∃ o,G a=some (.frz o (.dK vs)))
theorem DkAt.mono {G G':Hp}(e:Same G G'){a:Addr}{vs:List (Key×V)}{b:Bool}(h:DkAt G a vs b):DkAt G' a vs b:=by
 rcases h with h|⟨hb,o,h⟩
 ·exact .inl (e _ _ h)
 ·exact .inr ⟨hb,o,e _ _ h⟩
theorem DkAt.own (h:DkAt G a vs true):G a=yDc (.dK vs):=h.elim id fun z=>by cases z.1
theorem DkAt.rd (h:DkAt G a vs b):Rd G a (.dK vs):=by
 rcases h with h|⟨_,o,h⟩
 ·exact .inl h
 ·exact .inr ⟨o,h⟩
theorem DkAt.some {G:Hp}{a:Addr}{vs:List (Key×V)}{b:Bool}(h:DkAt G a vs b): ∃ o,G a=some o/\(∀ ps,o≠ .tbl ps):=by
 rcases h with h|⟨_,o,h⟩
 ·exact ⟨_,h,fun ps z=>by cases z⟩
 ·exact ⟨_,h,fun ps z=>by cases z⟩
mutual
def nk:D->NestedKey
 | .int i=> .num i
 | .str s=> .text s
 | .tup l=> .tup (nkS l)
 | _=> .none
def nkS:List D->List NestedKey
 | []=>[]
 | d::l=>nk d::nkS l
end
mutual
def keyN:Nat->D->Bool
 | _,.int _=>true
 | _,.str _=>true
 | n+1,.tup l=>xIr n l
 | _,_=>false
def xIr:Nat->List D->Bool
 | _,[]=>true
 | n,d::l=>keyN n d&&xIr n l
end
def xYd:D->Bool
 | .tup _=>true
 | _=>false
def NvO (w:World)(p:Addr)(ks:List (NestedKey×Addr))(ss:List Str)(h:Heap):Prop:=
 (p==sysModules)=false/\ks.length<=sizeLine/\ ∃ xs:List (NestedKey×Addr×Value),xs.map (fun x=>(x.1,x.2.1))=ks/\Vals (ss.map V.str) (xs.map fun x=>x.2.2)/\
  ∃ o es ep,h.get? p=some o/\o.ExactDict/\o.data= .dict es ep/\es.toList=xs.map (fun x=>(⟨x.1.hash w,.ref x.2.1,x.2.2⟩:DictEntry))/\(xs.map (·.1)).Nodup
def NvAt (w:World)(H:Hp)(p:Addr)(l:List D)(ss:List Str)(vs:List V):Prop:=
 ∃ ks:List (NestedKey×Addr),H p=some (.ext (NvO w p ks ss))/\(∃ h,NvO w p ks ss h)/\vs=ks.map (fun x=>V.ref x.2)/\l.map nk=ks.map (·.1)/\(l.all fun d=>xYd d&&keyN 8 d)=true
theorem NvAt.at (h:NvAt w H p l ss vs)(k:H p=H' p):NvAt w H' p l ss vs:=by
 obtain ⟨ks,h1,h2⟩:=h
 exact ⟨ks,k.symm.trans h1,h2⟩
theorem NvAt.mono {w:World}{H H':Hp}{p:Addr}{l:List D}{ss:List Str}{vs:List V}(h:NvAt w H p l ss vs)(k:Same H H'):NvAt w H' p l ss vs:=by
 obtain ⟨ks,h1,h2⟩:=h
 exact ⟨ks,k _ _ h1,h2⟩
theorem NvAt.some {w:World}{H:Hp}{p:Addr}{l:List D}{ss:List Str}{vs:List V}(h:NvAt w H p l ss vs): ∃ φ,H p=yDc (.ext φ):=by
 obtain ⟨ks,h1,h2⟩:=h
 exact ⟨_,h1⟩
theorem NvO.ne_code (hw: ∃ h,NvO w p ks ss h):HO.ext (NvO w p ks ss)≠LamX.CodeO p x:=fun z=>by
 obtain ⟨h0,hw⟩:=hw
 have e:NvO w p ks ss=_:=HO.ext.inj z
 have hw2:(fun h:Heap=> ∃ (oc:Obj) (vs:Array Value) (t:Tok),h.get? p=some oc/\oc.data= .fields vs/\vs[1]? =some (.str x t)) h0:=by
  rw [<- e]
  exact hw
 obtain ⟨oc,us,_,q1,q2,_⟩:=hw2
 obtain ⟨_,_,xs,_,_,o,es,ep,w1,_,w2,_⟩:=hw
 rw [q1] at w1
 cases w1
 rw [q2] at w2
 cases w2
mutual
def Rep (κ:Ctx)(T:Pd)(G:Hp):D->V->Prop
 | .non,v=>v= .non
 | .bl b,v=>v= .bl b
 | .int i,v=>v= .int i
 | .str s,v=>v= .str s
 | .tup l,v=> ∃ a vs,v= .ref a/\xFw κ.K G a vs/\RepL κ T G l vs
 | .lst b l,v=> ∃ a vs,v= .ref a/\(G a=some (.lst vs)/\Ld T a b)/\RepL κ T G l vs
 | .scr l,v=> ∃ a vs,v= .ref a/\(xJ7 κ.K G a vs\/mkL l=true)/\RepL κ T G l vs
 | .nv b l ss,v=> ∃ a vs,v= .ref a/\(NvAt κ.w G a l ss vs/\Ld T a b)/\RepL κ T G l vs
 | .dk b l,v=> ∃ a vs,v= .ref a/\(DkAt G a vs b/\Ld T a b)/\RepK κ T G l vs
 | .ins b c l,v=> ∃ a dx vs,v= .ref a/\(G a=some (.ins (κ.cl c) dx vs)/\Ld T a b)/\RepF κ T G l vs
 | .ty n,v=>v= .ty n
 | .adr a,v=>v= .ref a
def RepL (κ:Ctx)(T:Pd)(G:Hp):List D->List V->Prop
 | [],vs=>vs=[]
 | d::l,vs=> ∃ v ws,vs=v::ws/\Rep κ T G d v/\RepL κ T G l ws
def RepK (κ:Ctx)(T:Pd)(G:Hp):List (Key×D)->List (Key×V)->Prop
 | [],vs=>vs=[]
 | (k,d)::l,vs=> ∃ v ws,vs=(k,v)::ws/\Rep κ T G d v/\RepK κ T G l ws
def RepF (κ:Ctx)(T:Pd)(G:Hp):List (Str×D)->List (Str×V)->Prop
 | [],vs=>vs=[]
 | (k,d)::l,vs=> ∃ v ws,vs=(k,v)::ws/\Rep κ T G d v/\RepF κ T G l ws
end
theorem Rd.mono {G G':Hp}(e:Same G G'){a:Addr}{u:HO}(h:Rd G a u):Rd G' a u:=by
 rcases h with h|⟨o,h⟩
 ·exact .inl (e _ _ h)
 ·exact .inr ⟨o,e _ _ h⟩
theorem SqT.mono {K:PySem.W.Frag}{G G':Hp}(e:Same G G'){a:Addr}{xs:List V}(h:SqT K G a xs):SqT K G' a xs:=by
 rcases h with h|h
 ·exact .inl (Rd.mono e h)
 ·exact .inr h
theorem xOi {K:PySem.W.Frag}{G H:Hp}(s:Same G H){a:Addr}{vs:List V}(h:SqL K G a vs):SqL K H a vs:=by
 rcases h with h|h
 ·exact .inl (Rd.mono s h)
 ·exact .inr h
structure Mono (T:Pd)(G:Hp)(T':Pd)(G':Hp):Prop where
 same:Same G G'
 ld: ∀ a o b,G a=some o->Ld T a b->Ld T' a b
theorem Mono.of (e:Same G G'):Mono T G T G':=⟨e,fun _ _ _ _ h=>h⟩
section
variable {κ:Ctx}{T T':Pd}{G G':Hp}
mutual
theorem Rep.mono (e:Mono T G T' G'): ∀ (d:D) {v:V},Rep κ T G d v->Rep κ T' G' d v
 | .non,_,h=>h
 | .bl _,_,h=>h
 | .int _,_,h=>h
 | .str _,_,h=>h
 | .tup l,v,h=>by
  obtain ⟨a,vs,h1,h2,h3⟩:=h
  exact ⟨a,vs,h1,xFw.mono e.same h2,RepL.mono e l h3⟩
 | .lst b l,v,h=>by
  obtain ⟨a,vs,h1,⟨h2,h4⟩,h3⟩:=h
  exact ⟨a,vs,h1,⟨e.same _ _ h2,e.ld _ _ _ h2 h4⟩,RepL.mono e l h3⟩
 | .scr l,v,h=>by
  obtain ⟨a,vs,h1,h2,h3⟩:=h
  exact ⟨a,vs,h1,h2.imp (fun z=>xJ7.mono e.same z) id,RepL.mono e l h3⟩
 | .nv b l ss,v,h=>by
  obtain ⟨a,vs,h1,⟨h2,h4⟩,h3⟩:=h
  obtain ⟨_,h5⟩:=h2.some
  exact ⟨a,vs,h1,⟨h2.mono e.same,e.ld _ _ _ h5 h4⟩,RepL.mono e l h3⟩
 | .dk b l,v,h=>by
  obtain ⟨a,vs,h1,⟨h2,h4⟩,h3⟩:=h
  obtain ⟨_,h5,_⟩:=h2.some
  exact ⟨a,vs,h1,⟨h2.mono e.same,e.ld _ _ _ h5 h4⟩,RepK.mono e l h3⟩
 | .ins b c l,v,h=>by
  obtain ⟨a,dx,vs,h1,⟨h2,h4⟩,h3⟩:=h
  exact ⟨a,dx,vs,h1,⟨e.same _ _ h2,e.ld _ _ _ h2 h4⟩,RepF.mono e l h3⟩
 | .ty _,_,h=>h
 | .adr _,_,h=>h
theorem RepL.mono (e:Mono T G T' G'): ∀ (l:List D) {vs:List V},RepL κ T G l vs->RepL κ T' G' l vs
 | [],_,h=>h
 | d::l,vs,h=>by
  obtain ⟨v,ws,h1,h2,h3⟩:=h
  exact ⟨v,ws,h1,Rep.mono e d h2,RepL.mono e l h3⟩
theorem RepK.mono (e:Mono T G T' G'): ∀ (l:List (Key×D)) {vs:List (Key×V)},RepK κ T G l vs->RepK κ T' G' l vs
 | [],_,h=>h
 | (k,d)::l,vs,h=>by
  obtain ⟨v,ws,h1,h2,h3⟩:=h
  exact ⟨v,ws,h1,Rep.mono e d h2,RepK.mono e l h3⟩
theorem RepF.mono (e:Mono T G T' G'): ∀ (l:List (Str×D)) {vs:List (Str×V)},RepF κ T G l vs->RepF κ T' G' l vs
 | [],_,h=>h
 | (k,d)::l,vs,h=>by
  obtain ⟨v,ws,h1,h2,h3⟩:=h
  exact ⟨v,ws,h1,Rep.mono e d h2,RepF.mono e l h3⟩
end
theorem RepL.length: ∀ {l:List D} {vs:List V},RepL κ T G l vs->vs.length=l.length
 | [],vs,h=>by rw [show vs=[] from h] <;> rfl
 | d::l,vs,h=>by
  obtain ⟨v,ws,h1,h2,h3⟩:=h
  rw [h1,yDa,yDa,h3.length]
theorem RepL.append: ∀ {l m:List D} {vs ws:List V},RepL κ T G l vs->RepL κ T G m ws->RepL κ T G (l++m) (vs++ws)
 | [],m,vs,ws,h,k=>by rw [show vs=[] from h];exact k
 | d::l,m,vs,ws,h,k=>by
  obtain ⟨v,us,h1,h2,h3⟩:=h
  rw [h1]
  exact ⟨v,us++ws,rfl,h2,h3.append k⟩
theorem RepL.get: ∀ {l:List D} {vs:List V} {i:Nat} {d:D},RepL κ T G l vs->l[i]? =some d-> ∃ v,vs[i]? =some v/\Rep κ T G d v
 | [],_,_,_,_,e=>by simp at e
 | d::l,vs,0,e,h,q=>by
  obtain ⟨v,us,h1,h2,h3⟩:=h
  rw [h1]
  simp at q
  subst q
  exact ⟨v,rfl,h2⟩
 | d::l,vs,i+1,e,h,q=>by
  obtain ⟨v,us,h1,h2,h3⟩:=h
  rw [h1]
  exact RepL.get (i:=i) h3 (by simpa using q)
theorem RepL.set: ∀ {l:List D} {vs:List V} (i:Nat) {d:D} {v:V},RepL κ T G l vs->Rep κ T G d v->RepL κ T G (l.set i d) (vs.set i v)
 | [],vs,i,d,v,h,k=>by rw [show vs=[] from h];exact rfl
 | e::l,vs,0,d,v,h,k=>by
  obtain ⟨w,us,h1,h2,h3⟩:=h
  rw [h1]
  exact ⟨v,us,rfl,k,h3⟩
 | e::l,vs,i+1,d,v,h,k=>by
  obtain ⟨w,us,h1,h2,h3⟩:=h
  rw [h1]
  exact ⟨w,_,rfl,h2,h3.set i k⟩
theorem RepL.take: ∀ {l:List D} {vs:List V} (n:Nat),RepL κ T G l vs->RepL κ T G (l.take n) (vs.take n)
 | l,vs,0,h=>by rw [List.take_zero,List.take_zero];exact rfl
 | [],vs,n+1,h=>by rw [show vs=[] from h];exact rfl
 | e::l,vs,n+1,h=>by
  obtain ⟨w,us,h1,h2,h3⟩:=h
  rw [h1]
  exact ⟨w,_,rfl,h2,h3.take n⟩
theorem RepL.drop: ∀ {l:List D} {vs:List V} (n:Nat),RepL κ T G l vs->RepL κ T G (l.drop n) (vs.drop n)
 | l,vs,0,h=>h
 | [],vs,n+1,h=>by rw [show vs=[] from h];exact rfl
 | e::l,vs,n+1,h=>by
  obtain ⟨w,us,h1,h2,h3⟩:=h
  rw [h1]
  exact h3.drop n
theorem RepL.one (h:Rep κ T G d v):RepL κ T G [d] [v]:=⟨v,[],rfl,h,rfl⟩
end
def NdO (w:World)(p:Addr)(ks:List (NestedKey×Addr))(h:Heap):Prop:=
 (p==sysModules)=false/\ks.length<=sizeLine/\ ∃ xs:List (NestedKey×Addr×Value),xs.map (fun x=>(x.1,x.2.1))=ks/\
  ∃ o es ep,h.get? p=some o/\o.ExactDict/\o.data= .dict es ep/\es.toList=xs.map (fun x=>(⟨x.1.hash w,.ref x.2.1,x.2.2⟩:DictEntry))/\(xs.map (·.1)).Nodup
def NdAt (w:World)(H:Hp)(p:Addr)(l:List D)(vs:List V):Prop:=
 ∃ ks:List (NestedKey×Addr),H p=some (.ext (NdO w p ks))/\(∃ h,NdO w p ks h)/\vs=ks.map (fun x=>V.ref x.2)/\l.map nk=ks.map (·.1)/\(l.all fun d=>xYd d&&keyN 8 d)=true
theorem NdAt.at (h:NdAt w H p l vs)(k:H' p=H p):NdAt w H' p l vs:=by
 obtain ⟨ks,h1,h2⟩:=h
 exact ⟨ks,k.trans h1,h2⟩
theorem NdAt.nofields {φ:Heap->Prop}(h:NdAt w H p l vs)(f: ∀ h,φ h-> ∃ (oc:Obj) (us:Array Value),h.get? p=some oc/\oc.data= .fields us):H p≠some (.ext φ):=fun z=>by
 obtain ⟨ks,h1,⟨h0,hw⟩,_⟩:=h
 rw [h1] at z
 have e:NdO w p ks=φ:=HO.ext.inj (yDc.inj z)
 rw [e] at hw
 obtain ⟨oc,us,q1,q2⟩:=f h0 hw
 rw [<- e] at hw
 obtain ⟨_,_,xs,_,o,es,ep,w1,_,w2,_⟩:=hw
 rw [q1] at w1
 cases w1
 rw [q2] at w2
 cases w2
theorem NdAt.ncode (h:NdAt w H p l vs):H p≠some (LamX.CodeO p q):=
 h.nofields fun h0 ⟨oc,us,_,e1,e2,_⟩=>⟨oc,us,e1,e2⟩
inductive SD where
 | un|va (d:D)|ow (d:D)
def xA9 (κ:Ctx)(T:Pd)(G H:Hp)(p:Addr):D->Prop
 | .lst _ l=> ∃ vs,H p=some (.lst vs)/\RepL κ T G l vs
 | .dk _ l=> ∃ vs,H p=some (.dK vs)/\RepK κ T G l vs
 | .ins _ c l=> ∃ dx vs,H p=some (.ins (κ.cl c) dx vs)/\RepF κ T G l vs
 | .scr l=> ∃ vs,NdAt κ.w H p l vs/\RepL κ T G l vs
 | _=>False
theorem xA9.mono (h:xA9 κ T G H p d)(e:Same G G')(k:H' p=H p):xA9 κ T G' H' p d:=by
 cases d <;> first
  | exact h.elim
  | (obtain ⟨vs,h1,h2⟩:=h;first|exact ⟨vs,k.trans h1,RepL.mono (.of e) _ h2⟩|exact ⟨vs,k.trans h1,RepK.mono (.of e) _ h2⟩|exact ⟨vs,h1.at k,RepL.mono (.of e) _ h2⟩)
  | (obtain ⟨dx,vs,h1,h2⟩:=h;exact ⟨dx,vs,k.trans h1,RepF.mono (.of e) _ h2⟩)
theorem xA9.obj (h:xA9 κ T G H p d): ∃ o:HO,H p=some o/\(∀ ps,o≠ .tbl ps)/\Mut (some o):=by
 cases d with
 | lst b l=>
  obtain ⟨vs,h1,h2⟩:=h
  exact ⟨.lst vs,h1,(fun ps z=>by cases z),True.intro⟩
 | dk b l=>
  obtain ⟨vs,h1,h2⟩:=h
  exact ⟨.dK vs,h1,(fun ps z=>by cases z),True.intro⟩
 | ins b c l=>
  obtain ⟨dx,vs,h1,h2⟩:=h
  exact ⟨.ins (κ.cl c) dx vs,h1,(fun ps z=>by cases z),True.intro⟩
 | scr l=>
  obtain ⟨vs,⟨ks,h1,_⟩,h2⟩:=h
  exact ⟨_,h1,(fun ps z=>by cases z),True.intro⟩
 | _=>exact h.elim
structure Bas where
 H:Hp
 G:Hp
 T:Pd
 an:List (Nat×Addr)
def noT (H:Hp):Hp:=fun a=>match H a with
 | some (.tbl _)=>none
 | o=>o
theorem xG1 (h:noT H a=some o):H a=some o/\ ∀ ps,o≠ .tbl ps:=by
 unfold noT at h
 cases e:H a with
 | none=>
  rw [e] at h
  cases h
 | some u=>
  rw [e] at h
  cases u <;> first
   | (cases h;done)
   | (cases h;exact ⟨rfl,fun ps z=>by cases z⟩)
theorem xDm (h:H a=some o)(n: ∀ ps,o≠ .tbl ps):noT H a=some o:=by
 unfold noT
 rw [h]
 cases o <;> first
  | rfl
  | exact absurd rfl (n _)
theorem xRo:noT H a≠some (.tbl ps):=fun h=>(xG1 h).2 ps rfl
structure Frame (κ:Ctx)(B:Bas)(H G:Hp):Prop where
 keep: ∀ a o,B.H a=some o->(∀ ps,o≠ .tbl ps)->H a=some o
 nt: ∀ a ps,B.H a≠some (.tbl ps)
 frz: ∀ a,B.H a≠none->G a=B.G a
 sub:Same B.G G
 gh:Same G H
 notb: ∀ a ps,G a≠some (.tbl ps)
 tabs:LamX.Tabs κ.tabs H
 lent: ∀ a,B.T a->B.H a≠none
structure Ok (κ:Ctx)(B:Bas)(ρ:List SD)(σ:L2.St)(H G:Hp):Prop where
 fr:Frame κ B H G
 len:σ.length=ρ.length
 val: ∀ (i:Nat) d,ρ[i]? =some (SD.va d)-> ∃ v,σ[i]? =some (some v)/\Rep κ B.T G d v
 own: ∀ (i:Nat) d,ρ[i]? =some (SD.ow d)-> ∃ p,σ[i]? =some (some (V.ref p))/\G p=none/\B.H p=none/\xA9 κ B.T G H p d
 sep: ∀ (i j:Nat) p d e,i≠j->ρ[i]? =some (SD.ow d)->ρ[j]? =some (SD.ow e)->σ[i]? =some (some (V.ref p))->σ[j]? =some (some (V.ref p))->False
 anch: ∀ i p,(i,p)∈B.an->σ[i]? =some (some (V.ref p))
theorem Frame.obj (k:Frame κ B H G)(h:B.H a≠none): ∃ o,B.H a=some o/\(∀ ps,o≠ .tbl ps)/\H a=some o:=by
 cases e:B.H a with
 | none=>exact absurd e h
 | some o=>
  have n: ∀ ps,o≠ .tbl ps:=fun ps z=>k.nt a ps (by rw [e,z])
  exact ⟨o,rfl,n,k.keep a o e n⟩
theorem Frame.there (k:Frame κ B H G)(a:Addr)(h:B.H a≠none):H a≠none:=by
 obtain ⟨o,_,_,e⟩:=k.obj h
 rw [e]
 exact fun z=>nomatch z
def RepR (κ:Ctx)(B:Bas)(ρ:List SD)(σ:L2.St)(H G:Hp):SD->V->Prop
 | .va d,v=>Rep κ B.T G d v
 | .ow d,v=> ∃ p,v= .ref p/\G p=none/\B.H p=none/\xA9 κ B.T G H p d/\ ∀ (j:Nat) e,ρ[j]? =some (SD.ow e)->σ[j]? ≠some (some (V.ref p))
 | .un,_=>False
structure Exn where
 c:String
 fs:List (Str×D)
def RepX (κ:Ctx)(T:Pd)(H G:Hp)(x:Exn)(cls:Value)(d:Option Addr):Prop:=
 cls= .ref (κ.cl x.c)/\ ∃ dx vs,d=some dx/\H dx=some (.xd vs)/\RepF κ T G x.fs vs
inductive Rs (α:Type) where
 | ok (a:α) (ρ:List SD)|ex (x:Exn) (ρ:List SD)|no
abbrev M (α:Type):=List SD->Rs α
def M.bind {α β:Type}(m:M α)(k:α->M β):M β:=fun ρ=>match m ρ with
 | .ok a ρ'=>k a ρ'
 | .ex x ρ'=> .ex x ρ'
 | .no=> .no
def M.ret {α:Type}(a:α):M α:=fun ρ=> .ok a ρ
def M.no {α:Type}:M α:=fun _=> .no
def M.opt {α:Type}:Option α->M α
 | some a=> .ret a
 | none=> .no
def Pst {α:Type}(κ:Ctx)(W:WX)(B:Bas)(σ:L2.St)(G:Hp)(r:Rs α)(k:α->List SD->Hp->Hp->Prop):Prop:=match r with
 | .ok a ρ'=> ∀ H' G',Ok κ B ρ' σ H' G'->Same G G'->k a ρ' H' G'
 | .ex x ρ'=> ∀ cls d H' G',Ok κ B ρ' σ H' G'->Same G G'->RepX κ B.T H' G' x cls d->W cls d σ H'
 | .no=>False
theorem Pst.bind {α β:Type}{m:M α}{f:α->M β}{ρ:List SD}{k:β->List SD->Hp->Hp->Prop}(h:Pst κ W B σ G (m.bind f ρ) k):
  Pst κ W B σ G (m ρ) fun a ρ' H' G'=>Pst κ W B σ G' (f a ρ') k:=by
 unfold M.bind at h
 cases e:m ρ with
 | ok a ρ'=>
  rw [e] at h
  intro H' G' ok s
  show Pst κ W B σ G' (f a ρ') k
  have h2:Pst κ W B σ G (f a ρ') k:=h
  cases e2:f a ρ' with
  | ok b ρ2=>
   rw [e2] at h2
   exact fun H2 G2 ok2 s2=>h2 H2 G2 ok2 (s.trans s2)
  | ex x ρ2=>
   rw [e2] at h2
   exact fun cls d H2 G2 ok2 s2 r=>h2 cls d H2 G2 ok2 (s.trans s2) r
  | no=>
   rw [e2] at h2
   exact h2
 | ex x ρ'=>
  rw [e] at h
  exact h
 | no=>
  rw [e] at h
  exact h
theorem Pst.mono {α:Type}{κ:Ctx}{W:WX}{B:Bas}{σ:L2.St}{G:Hp}{r:Rs α}{k k':α->List SD->Hp->Hp->Prop}(h:Pst κ W B σ G r k)(f: ∀ a ρ' H' G',Ok κ B ρ' σ H' G'->Same G G'->k a ρ' H' G'->k' a ρ' H' G'):Pst κ W B σ G r k':=by
 cases r with
 | ok a ρ'=>exact fun H' G' ok s=>f _ _ _ _ ok s (h H' G' ok s)
 | ex x ρ'=>exact h
 | no=>exact h
mutual
def D.nb:D->Bool
 | .tup l=>nbL l
 | .lst b l=> !b&&nbL l
 | .scr l=>nbL l
 | .nv b l _=> !b&&nbL l
 | .dk b l=> !b&&nbK l
 | .ins b _ l=> !b&&nbF l
 | _=>true
def nbL:List D->Bool
 | []=>true
 | d::l=>D.nb d&&nbL l
def nbK:List (Key×D)->Bool
 | []=>true
 | (_,d)::l=>D.nb d&&nbK l
def nbF:List (Str×D)->Bool
 | []=>true
 | (_,d)::l=>D.nb d&&nbF l
end
def D.nbO:D->Bool
 | .lst _ l=>nbL l
 | .dk _ l=>nbK l
 | .ins _ _ l=>nbF l
 | .scr l=>nbL l
 | _=>false
def D.fz:D->D
 | .lst _ l=> .lst false l
 | .dk _ l=> .dk false l
 | .ins _ c l=> .ins false c l
 | .scr l=> .scr (.non::l)
 | .nv _ l ss=> .nv false l ss
 | d=>d
def D.ln:D->D
 | .lst _ l=> .lst true l
 | .dk _ l=> .dk true l
 | .ins _ c l=> .ins true c l
 | .scr l=> .scr (.non::l)
 | d=>d
def er (G:Hp)(p:Addr):Hp:=fun a=>if a=p then none else G a
theorem xDp (h:a≠p):er G p a=G a:=if_neg h
theorem xMv:er G p p=none:=if_pos rfl
theorem DkAt.er (h:DkAt G a vs b)(na:a≠p):DkAt (Fm.er G p) a vs b:=by
 rcases h with h|⟨hb,o,h⟩
 ·exact .inl ((xDp na).trans h)
 ·exact .inr ⟨hb,o,(xDp na).trans h⟩
section
variable {κ:Ctx}{T T':Pd}{G:Hp}{p:Addr}{o:HO}
theorem xVk {K:PySem.W.Frag}{a:Addr}{xs:List V}(ho:G p=some o)(mu:Mut (some o))(h:xFw K G a xs):xFw K (er G p) a xs:=by
 rcases h with h|h
 ·refine .inl ?_
  rw [xDp]
  ·exact h
  ·intro z
   rw [z,ho] at h
   cases h
   exact mu
 ·exact .inr h
mutual
theorem Rep.er (ho:G p=some o)(mu:Mut (some o))(ht:T' p)(hT: ∀ a,a≠p->(T' a ↔ T a)): ∀ (d:D) {v:V},d.nb=true->Rep κ T' G d v->Rep κ T (er G p) d v
 | .non,_,_,h=>h
 | .bl _,_,_,h=>h
 | .int _,_,_,h=>h
 | .str _,_,_,h=>h
 | .tup l,v,n,h=>by
  obtain ⟨a,vs,h1,h2,h3⟩:=h
  exact ⟨a,vs,h1,xVk ho mu h2,RepL.er ho mu ht hT l n h3⟩
 | .lst b l,v,n,h=>by
  have n':(!b&&nbL l)=true:=n
  rw [yC5,yDt] at n'
  obtain ⟨rfl,n2⟩:=n'
  obtain ⟨a,vs,h1,⟨h2,h4⟩,h3⟩:=h
  have na:a≠p:=fun z=>by
   rw [z] at h4
   exact yDd (h4.mp ht)
  exact ⟨a,vs,h1,⟨(xDp na).trans h2,(hT a na).symm.trans h4⟩,RepL.er ho mu ht hT l n2 h3⟩
 | .scr l,v,n,h=>by
  obtain ⟨a,vs,h1,h2,h3⟩:=h
  refine ⟨a,vs,h1,?_,RepL.er ho mu ht hT l n h3⟩
  rcases h2 with (⟨ob,h2⟩|h2)|h2
  ·have na:a≠p:=fun z=>by
    rw [z,ho] at h2
    cases h2
    exact mu
   exact .inl (.inl ⟨ob,(xDp na).trans h2⟩)
  ·exact .inl (.inr h2)
  ·exact .inr h2
 | .nv b l ss,v,n,h=>by
  have n':(!b&&nbL l)=true:=n
  rw [yC5,yDt] at n'
  obtain ⟨rfl,n2⟩:=n'
  obtain ⟨a,vs,h1,⟨h2,h4⟩,h3⟩:=h
  have na:a≠p:=fun z=>by
   rw [z] at h4
   exact yDd (h4.mp ht)
  exact ⟨a,vs,h1,⟨h2.at (xDp na).symm,(hT a na).symm.trans h4⟩,RepL.er ho mu ht hT l n2 h3⟩
 | .dk b l,v,n,h=>by
  have n':(!b&&nbK l)=true:=n
  rw [yC5,yDt] at n'
  obtain ⟨rfl,n2⟩:=n'
  obtain ⟨a,vs,h1,⟨h2,h4⟩,h3⟩:=h
  have na:a≠p:=fun z=>by
   rw [z] at h4
   exact yDd (h4.mp ht)
  exact ⟨a,vs,h1,⟨h2.er na,(hT a na).symm.trans h4⟩,RepK.er ho mu ht hT l n2 h3⟩
 | .ins b c l,v,n,h=>by
  have n':(!b&&nbF l)=true:=n
  rw [yC5,yDt] at n'
  obtain ⟨rfl,n2⟩:=n'
  obtain ⟨a,dx,vs,h1,⟨h2,h4⟩,h3⟩:=h
  have na:a≠p:=fun z=>by
   rw [z] at h4
   exact yDd (h4.mp ht)
  exact ⟨a,dx,vs,h1,⟨(xDp na).trans h2,(hT a na).symm.trans h4⟩,RepF.er ho mu ht hT l n2 h3⟩
 | .ty _,_,_,h=>h
 | .adr _,_,_,h=>h
theorem RepL.er (ho:G p=some o)(mu:Mut (some o))(ht:T' p)(hT: ∀ a,a≠p->(T' a ↔ T a)): ∀ (l:List D) {vs:List V},nbL l=true->RepL κ T' G l vs->RepL κ T (er G p) l vs
 | [],_,_,h=>h
 | d::l,vs,n,h=>by
  have n':(D.nb d&&nbL l)=true:=n
  rw [yC5] at n'
  obtain ⟨v,ws,h1,h2,h3⟩:=h
  exact ⟨v,ws,h1,Rep.er ho mu ht hT d n'.1 h2,RepL.er ho mu ht hT l n'.2 h3⟩
theorem RepK.er (ho:G p=some o)(mu:Mut (some o))(ht:T' p)(hT: ∀ a,a≠p->(T' a ↔ T a)): ∀ (l:List (Key×D)) {vs:List (Key×V)},nbK l=true->RepK κ T' G l vs->RepK κ T (er G p) l vs
 | [],_,_,h=>h
 | (k,d)::l,vs,n,h=>by
  have n':(D.nb d&&nbK l)=true:=n
  rw [yC5] at n'
  obtain ⟨v,ws,h1,h2,h3⟩:=h
  exact ⟨v,ws,h1,Rep.er ho mu ht hT d n'.1 h2,RepK.er ho mu ht hT l n'.2 h3⟩
theorem RepF.er (ho:G p=some o)(mu:Mut (some o))(ht:T' p)(hT: ∀ a,a≠p->(T' a ↔ T a)): ∀ (l:List (Str×D)) {vs:List (Str×V)},nbF l=true->RepF κ T' G l vs->RepF κ T (er G p) l vs
 | [],_,_,h=>h
 | (k,d)::l,vs,n,h=>by
  have n':(D.nb d&&nbF l)=true:=n
  rw [yC5] at n'
  obtain ⟨v,ws,h1,h2,h3⟩:=h
  exact ⟨v,ws,h1,Rep.er ho mu ht hT d n'.1 h2,RepF.er ho mu ht hT l n'.2 h3⟩
end
end
section
variable {κ:Ctx}{B:Bas}{ρ:List SD}{σ:L2.St}{H G:Hp}
theorem Same.upd (h:G p=none):Same G (upd G p o):=fun a u e=>by
 rw [upd_ne (ne_of_none e h)]
 exact e
theorem Ok.gnone (k:Ok κ B ρ σ H G)(h:H p=none):G p=none:=k.fr.gh.free h
theorem Ok.bnone (k:Ok κ B ρ σ H G)(h:H p=none):B.H p=none:=by
 cases e:B.H p with
 | none=>rfl
 | some o=>exact absurd h (k.fr.there p (by rw [e];simp))
theorem Ok.nolend (k:Ok κ B ρ σ H G)(h:B.H p=none): ¬ B.T p:=fun z=>k.fr.lent p z h
theorem Frame.grow (k:Frame κ B H G)(h:H p=none):Frame κ B (upd H p o) G where
 keep:=fun a u e n=>by
  have e2:=k.keep a u e n
  rw [upd_ne (ne_of_none e2 h)]
  exact e2
 nt:=k.nt
 frz:=k.frz
 sub:=k.sub
 gh:=fun a u e=>by
  have e2:=k.gh a u e
  rw [upd_ne (ne_of_none e2 h)]
  exact e2
 notb:=k.notb
 tabs:=k.tabs.ext fun a u e=>by
  rw [upd_ne (ne_of_none e h)]
  exact e
 lent:=k.lent
theorem Frame.freeze (k:Frame κ B H G)(h:H p=some o)(hb:B.H p=none)(hg:G p=none)(no: ∀ ps,o≠ .tbl ps):Frame κ B H (upd G p o) where
 keep:=k.keep
 nt:=k.nt
 frz:=fun a e=>by
  have na:a≠p:=fun z=>e (by rw [z];exact hb)
  rw [upd_ne na]
  exact k.frz a e
 sub:=k.sub.trans (Same.upd hg)
 gh:=fun a u e=>by
  by_cases na:a=p
  ·rw [na,upd_same] at e
   rw [na,h]
   exact e
  ·rw [upd_ne na] at e
   exact k.gh a u e
 notb:=fun a ps e=>by
  by_cases na:a=p
  ·rw [na,upd_same] at e
   exact no ps (yDc.inj e)
  ·rw [upd_ne na] at e
   exact k.notb a ps e
 tabs:=k.tabs
 lent:=k.lent
theorem Ok.alloc (k:Ok κ B ρ σ H G)(h:H p=none)(no: ∀ ps,o≠ .tbl ps):Ok κ B ρ σ (upd H p o) (upd G p o):=by
 have hg:=k.gnone h
 refine ⟨(k.fr.grow h).freeze upd_same (k.bnone h) hg no,k.len,fun i d e=> ?_,fun i d e=> ?_,k.sep,k.anch⟩
 ·obtain ⟨v,h1,h2⟩:=k.val i d e
  exact ⟨v,h1,Rep.mono (.of (Same.upd hg)) d h2⟩
 ·obtain ⟨q,h1,h2,h3,h4⟩:=k.own i d e
  obtain ⟨u,h5,_⟩:=h4.obj
  have nq:q≠p:=ne_of_none h5 h
  exact ⟨q,h1,by rw [upd_ne nq];exact h2,h3,h4.mono (Same.upd hg) (upd_ne nq)⟩
theorem Ok.allocOwn (k:Ok κ B ρ σ H G)(h:H p=none):Ok κ B ρ σ (upd H p o) G:=by
 refine ⟨k.fr.grow h,k.len,k.val,fun i d e=> ?_,k.sep,k.anch⟩
 obtain ⟨q,h1,h2,h3,h4⟩:=k.own i d e
 obtain ⟨u,h5,_⟩:=h4.obj
 exact ⟨q,h1,h2,h3,h4.mono (Same.refl _) (upd_ne (ne_of_none h5 h))⟩
theorem Ok.apart (k:Ok κ B ρ σ H G)(h:H p=none)(j:Nat)(e:D)(hj:ρ[j]? =some (SD.ow e)):σ[j]? ≠some (some (V.ref p)):=fun z=>by
 obtain ⟨q,h1,_,_,h4⟩:=k.own j e hj
 rw [z] at h1
 cases h1
 obtain ⟨u,h5,_⟩:=h4.obj
 rw [h] at h5
 cases h5
theorem xA9.rep (h:xA9 κ B.T G H p d)(hp:H p=some o)(hg:G p=none)(nt: ¬ B.T p):Rep κ B.T (upd G p o) d.fz (.ref p):=by
 have l:Ld B.T p false:=⟨fun z=>(nt z).elim,fun z=>yDd z⟩
 cases d with
 | lst b l'=>
  obtain ⟨vs,h1,h2⟩:=h
  rw [hp] at h1
  cases h1
  exact ⟨p,vs,rfl,⟨upd_same,l⟩,RepL.mono (.of (Same.upd hg)) l' h2⟩
 | dk b l'=>
  obtain ⟨vs,h1,h2⟩:=h
  rw [hp] at h1
  cases h1
  exact ⟨p,vs,rfl,⟨.inl upd_same,l⟩,RepK.mono (.of (Same.upd hg)) l' h2⟩
 | ins b c l'=>
  obtain ⟨dx,vs,h1,h2⟩:=h
  rw [hp] at h1
  cases h1
  exact ⟨p,dx,vs,rfl,⟨upd_same,l⟩,RepF.mono (.of (Same.upd hg)) l' h2⟩
 | scr l'=>
  obtain ⟨vs,h1,h2⟩:=h
  exact ⟨p,.non::vs,rfl,.inr rfl,⟨.non,vs,rfl,rfl,RepL.mono (.of (Same.upd hg)) l' h2⟩⟩
 | _=>exact h.elim
theorem Ok.frzR (k:Ok κ B ρ σ H G)(r:RepR κ B ρ σ H G (.ow d) v): ∃ G',Same G G'/\Ok κ B ρ σ H G'/\Rep κ B.T G' d.fz v:=by
 obtain ⟨p,rfl,hg,hb,ho,na⟩:=r
 obtain ⟨o,h1,h2,_⟩:=ho.obj
 refine ⟨upd G p o,Same.upd hg,⟨k.fr.freeze h1 hb hg h2,k.len,fun i d e=> ?_,fun i e q=> ?_,k.sep,k.anch⟩,ho.rep h1 hg (k.nolend hb)⟩
 ·obtain ⟨v,e1,e2⟩:=k.val i d e
  exact ⟨v,e1,Rep.mono (.of (Same.upd hg)) d e2⟩
 ·obtain ⟨q',e1,e2,e3,e4⟩:=k.own i e q
  have nq:q'≠p:=fun z=>na i e q (by rw [e1,z])
  exact ⟨q',e1,by rw [upd_ne nq];exact e2,e3,e4.mono (Same.upd hg) rfl⟩
theorem Ok.set (k:Ok κ B ρ σ H G)(i:Nat)(hr:RepR κ B ρ σ H G r v)(na: ∀ p,(i,p)∉B.an):Ok κ B (ρ.set i r) (σ.set i (some v)) H G:=by
 have lt: ∀ {j:Nat} {x:SD},ρ[j]? =some x->j<σ.length:=fun {j x} e=>by
  exact k.len ▸ (yC1.mp e).1
 have here: ∀ {j:Nat} {x:SD},(ρ.set i r)[j]? =some x->(j=i/\x=r/\(σ.set i (some v))[j]? =some (some v))\/(j≠i/\ρ[j]? =some x/\(σ.set i (some v))[j]? =σ[j]?):=fun {j x} e=>by
  by_cases hj:j=i
  ·subst hj
   have hl:j<ρ.length:=by
    have z:=(yC1.mp e).1
    rw [yDe] at z
    exact z
   rw [yC7 hl] at e
   exact .inl ⟨rfl,(yDc.inj e).symm,yC7 (by rw [k.len];exact hl)⟩
  ·rw [yC9 (Ne.symm hj)] at e
   exact .inr ⟨hj,e,yC9 (Ne.symm hj)⟩
 refine ⟨k.fr,by rw [yDe,yDe,k.len],fun j d e=> ?_,fun j d e=> ?_,fun j l p d e hjl h1 h2 h3 h4=> ?_,fun j p hp=> ?_⟩
 ·rcases here e with ⟨_,e1,e2⟩|⟨_,e1,e2⟩
  ·rw [<- e1] at hr
   exact ⟨v,e2,hr⟩
  ·rw [e2]
   exact k.val j d e1
 ·rcases here e with ⟨_,e1,e2⟩|⟨_,e1,e2⟩
  ·rw [<- e1] at hr
   obtain ⟨p,rfl,q1,q2,q3,_⟩:=hr
   exact ⟨p,e2,q1,q2,q3⟩
  ·rw [e2]
   exact k.own j d e1
 ·rcases here h1 with ⟨a1,a2,a3⟩|⟨a1,a2,a3⟩ <;> rcases here h2 with ⟨b1,b2,b3⟩|⟨b1,b2,b3⟩
  ·exact hjl (a1.trans b1.symm)
  ·rw [<- a2] at hr
   obtain ⟨q,rfl,_,_,_,na⟩:=hr
   rw [a3] at h3
   cases h3
   rw [b3] at h4
   exact na l e b2 h4
  ·rw [<- b2] at hr
   obtain ⟨q,rfl,_,_,_,na⟩:=hr
   rw [b3] at h4
   cases h4
   rw [a3] at h3
   exact na j d a2 h3
  ·rw [a3] at h3
   rw [b3] at h4
   exact k.sep j l p d e hjl a2 b2 h3 h4
 ·have hj:j≠i:=fun z=>na p (by rw [<- z];exact hp)
  rw [yC9 (Ne.symm hj)]
  exact k.anch j p hp
theorem Ok.write (k:Ok κ B ρ σ H G)(e:ρ[i]? =some (SD.ow d))(hs:σ[i]? =some (some (V.ref p)))(no: ∀ ps,o≠ .tbl ps)(h:xA9 κ B.T G (upd H p o) p d'):Ok κ B (ρ.set i (.ow d')) σ (upd H p o) G:=by
 obtain ⟨q,h1,h2,h3,h4⟩:=k.own i d e
 rw [hs] at h1
 cases h1
 obtain ⟨u,h5,h6,_⟩:=h4.obj
 have hl:=(yC1.mp e).1
 have nb: ∀ a,B.H a≠none->a≠p:=fun a z y=>z (by rw [y];exact h3)
 have fr:Frame κ B (upd H p o) G:={
  keep:=fun a w z n=>by rw [upd_ne (nb a (by rw [z];simp))];exact k.fr.keep a w z n
  nt:=k.fr.nt
  frz:=k.fr.frz
  sub:=k.fr.sub
  gh:=fun a w z=>by
   have na:a≠p:=fun y=>by
    rw [y,h2] at z
    cases z
   rw [upd_ne na]
   exact k.fr.gh a w z
  notb:=k.fr.notb
  tabs:=fun t ht=>by
   obtain ⟨ps,t1,t2,t3⟩:=k.fr.tabs t ht
   have n1:t.1≠p:=fun y=>by
    rw [y,h5] at t1
    exact h6 ps (yDc.inj t1)
   refine ⟨ps,by rw [upd_ne n1];exact t1,t2,fun pos cv hc=> ?_⟩
   obtain ⟨c,c1,c2⟩:=t3 pos cv hc
   refine ⟨c,c1,?_⟩
   have n2:c≠p:=fun y=>by
    rw [y] at c2
    cases d with
    | lst b l=>
     obtain ⟨vs,z,_⟩:=h4
     rw [z] at c2
     unfold LamX.CodeO at c2
     cases c2
    | dk b l=>
     obtain ⟨vs,z,_⟩:=h4
     rw [z] at c2
     unfold LamX.CodeO at c2
     cases c2
    | ins b c' l=>
     obtain ⟨dx,vs,z,_⟩:=h4
     rw [z] at c2
     unfold LamX.CodeO at c2
     cases c2
    | scr l=>
     obtain ⟨vs,z,_⟩:=h4
     exact z.ncode c2
    | _=>exact h4.elim
   rw [upd_ne n2]
   exact c2
  lent:=k.fr.lent }
 refine ⟨fr,by rw [yDe];exact k.len,fun j c z=> ?_,fun j c z=> ?_,fun j l q c c' hjl z1 z2 z3 z4=> ?_,k.anch⟩
 ·by_cases hj:j=i
  ·subst hj
   rw [yC7 hl] at z
   cases z
  ·rw [yC9 (Ne.symm hj)] at z
   exact k.val j c z
 ·by_cases hj:j=i
  ·subst hj
   rw [yC7 hl] at z
   cases z
   exact ⟨p,hs,h2,h3,h⟩
  ·rw [yC9 (Ne.symm hj)] at z
   obtain ⟨q,q1,q2,q3,q4⟩:=k.own j c z
   have nq:q≠p:=fun y=>k.sep j i p c d hj z e (by rw [q1,y]) hs
   exact ⟨q,q1,q2,q3,q4.mono (Same.refl _) (upd_ne nq)⟩
 ·have old: ∀ {m:Nat} {x:D},(ρ.set i (.ow d'))[m]? =some (SD.ow x)-> ∃ y,ρ[m]? =some (SD.ow y):=fun {m x} z=>by
   by_cases hm:m=i
   ·rw [hm]
    exact ⟨d,e⟩
   ·rw [yC9 (Ne.symm hm)] at z
    exact ⟨x,z⟩
  obtain ⟨y1,w1⟩:=old z1
  obtain ⟨y2,w2⟩:=old z2
  exact k.sep j l q y1 y2 hjl w1 w2 z3 z4
theorem Ok.frzS (k:Ok κ B ρ σ H G)(e:ρ[i]? =some (SD.ow d)): ∃ p G',σ[i]? =some (some (V.ref p))/\Same G G'/\Ok κ B (ρ.set i (.va d.fz)) σ H G'/\Rep κ B.T G' d.fz (.ref p):=by
 obtain ⟨p,h1,h2,h3,h4⟩:=k.own i d e
 obtain ⟨o,h5,h6,_⟩:=h4.obj
 have hl:=(yC1.mp e).1
 have rp:=h4.rep h5 h2 (k.nolend h3)
 refine ⟨p,upd G p o,h1,Same.upd h2,⟨k.fr.freeze h5 h3 h2 h6,by rw [yDe];exact k.len,fun j c z=> ?_,fun j c z=> ?_,fun j l q c c' hjl z1 z2 z3 z4=> ?_,k.anch⟩,rp⟩
 ·by_cases hj:j=i
  ·subst hj
   rw [yC7 hl] at z
   cases z
   exact ⟨_,h1,rp⟩
  ·rw [yC9 (Ne.symm hj)] at z
   obtain ⟨v,e1,e2⟩:=k.val j c z
   exact ⟨v,e1,Rep.mono (.of (Same.upd h2)) c e2⟩
 ·by_cases hj:j=i
  ·subst hj
   rw [yC7 hl] at z
   cases z
  ·rw [yC9 (Ne.symm hj)] at z
   obtain ⟨q,q1,q2,q3,q4⟩:=k.own j c z
   have nq:q≠p:=fun y=>k.sep j i p c d hj z e (by rw [q1,y]) h1
   exact ⟨q,q1,by rw [upd_ne nq];exact q2,q3,q4.mono (Same.upd h2) rfl⟩
 ·have old: ∀ {m:Nat} {x:D},(ρ.set i (.va d.fz))[m]? =some (SD.ow x)->ρ[m]? =some (SD.ow x):=fun {m x} z=>by
   by_cases hm:m=i
   ·subst hm
    rw [yC7 hl] at z
    cases z
   ·rw [yC9 (Ne.symm hm)] at z
    exact z
  exact k.sep j l q c c' hjl (old z1) (old z2) z3 z4
end
def tE (κ:Ctx)(W:WX)(m:M SD):TE:=fun σ H Q=> ∃ B ρ G,Ok κ B ρ σ H G/\Pst κ W B σ G (m ρ) fun r ρ' H' G'=> ∀ v,RepR κ B ρ' σ H' G' r v->Q v H'
def tT (κ:Ctx)(W:WX)(m:M Bool):TT:=fun σ H Q=> ∃ B ρ G,Ok κ B ρ σ H G/\Pst κ W B σ G (m ρ) fun b ρ' H' G'=>Q b H'
inductive Ar where
 | va (d:D)|sl (i:Nat)
def RepA (κ:Ctx)(T:Pd)(σ:L2.St)(G:Hp):Ar->V->Prop
 | .va d,v=>Rep κ T G d v
 | .sl i,v=>σ[i]? =some (some v)
def xFc (κ:Ctx)(T:Pd)(σ:L2.St)(G:Hp):List Ar->List V->Prop
 | [],vs=>vs=[]
 | a::l,vs=> ∃ v ws,vs=v::ws/\RepA κ T σ G a v/\xFc κ T σ G l ws
theorem xFc.mono (e:Same G G'): ∀ {l:List Ar} {vs:List V},xFc κ T σ G l vs->xFc κ T σ G' l vs
 | [],_,h=>h
 | .va d::l,vs,h=>by
  obtain ⟨v,ws,h1,h2,h3⟩:=h
  exact ⟨v,ws,h1,Rep.mono (.of e) d h2,xFc.mono e h3⟩
 | .sl i::l,vs,h=>by
  obtain ⟨v,ws,h1,h2,h3⟩:=h
  exact ⟨v,ws,h1,h2,xFc.mono e h3⟩
def tAr (κ:Ctx)(W:WX)(m:M (List Ar)):TA:=fun σ H Q=> ∃ B ρ G,Ok κ B ρ σ H G/\Pst κ W B σ G (m ρ) fun as ρ' H' G'=> ∀ vs,xFc κ B.T σ G' as vs->Q vs H'
def tA (κ:Ctx)(W:WX)(m:M (List D)):TA:=fun σ H Q=> ∃ B ρ G,Ok κ B ρ σ H G/\Pst κ W B σ G (m ρ) fun ds ρ' H' G'=> ∀ vs,RepL κ B.T G' ds vs->Q vs H'
theorem PE.imp {X:Cx}{e:Expr}{t t':TE}(h:PE X e t)(f: ∀ σ H Q,t' σ H Q->t σ H Q):PE X e t':=⟨fun pins s σ H Q I q=>h.run pins s σ H Q I (f σ H Q q)⟩
theorem PT.imp {X:Cx}{e:Expr}{t t':TT}(h:PT X e t)(f: ∀ σ H Q,t' σ H Q->t σ H Q):PT X e t':=⟨fun pins s σ H Q I q=>h.run pins s σ H Q I (f σ H Q q)⟩
theorem PW.imp {X:Cx}{e:Expr}{t t':TT}(h:PW X e t)(f: ∀ σ H Q,t' σ H Q->t σ H Q):PW X e t':=⟨fun wh pins s σ H Q I q=>h.run wh pins s σ H Q I (f σ H Q q)⟩
theorem PA.imp {X:Cx}{e:List Expr}{t t':TA}(h:PA X e t)(f: ∀ σ H Q,t' σ H Q->t σ H Q):PA X e t':=⟨fun pos pins s σ H Q I q=>h.run pos pins s σ H Q I (f σ H Q q)⟩
theorem PS.imp {X:Cx}{e:Stmt}{t t':TS}(h:PS X e t)(f: ∀ D σ H,t' D σ H->t D σ H):PS X e t':=⟨fun pins s σ H D I q=>h.run pins s σ H D I (f D σ H q)⟩
theorem PSs.imp {X:Cx}{e:List Stmt}{t t':TS}(h:PSs X e t)(f: ∀ D σ H,t' D σ H->t D σ H):PSs X e t':=⟨fun pins s σ H D I q=>h.run pins s σ H D I (f D σ H q)⟩
def fzM:SD->M D
 | .va d=>M.ret d
 | .ow d=>M.ret d.fz
 | .un=>M.no
def fE (m:M SD):M D:=m.bind fzM
section
variable {κ:Ctx}{W:WX}{B:Bas}{σ:L2.St}{H G:Hp}{ρ:List SD}
theorem Pst.ret {α:Type}{a:α}{k:α->List SD->Hp->Hp->Prop}(h:Pst κ W B σ G (M.ret a ρ) k)(o:Ok κ B ρ σ H G):k a ρ H G:=h H G o (Same.refl G)
theorem xBs {m:M SD}{Q:VK}{k:D->List SD->Hp->Hp->Prop}(o:Ok κ B ρ σ H G)(h:Pst κ W B σ G (fE m ρ) k)
  (f: ∀ d ρ' H' G',Ok κ B ρ' σ H' G'->Same G G'->k d ρ' H' G'-> ∀ v,Rep κ B.T G' d v->Q v H'):tE κ W m σ H Q:=by
 refine ⟨B,ρ,G,o,Pst.mono (Pst.bind h) fun r ρ' H' G' o' s h' v rv=> ?_⟩
 cases r with
 | va d=>exact f d ρ' H' G' o' s (Pst.ret h' o') v rv
 | ow d=>
  obtain ⟨G2,s2,o2,r2⟩:=o'.frzR rv
  exact f _ ρ' H' G2 o2 (s.trans s2) (h' H' G2 o2 s2) v r2
 | un=>exact rv.elim
end
def mC (d:D):M SD:=M.ret (.va d)
section
variable {X:Cx}{κ:Ctx}{W:WX}
theorem e_c {e:Expr}{v:V}{d:D}(h:PE X e (tC v))(r: ∀ T G,Rep κ T G d v):PE X e (tE κ W (mC d)):=PE.imp h fun σ H Q ⟨B,ρ,G,o,q⟩=>Pst.ret q o v (r _ _)
theorem xAb:PE X (.Constant (.int i) j pos) (tE κ W (mC (.int i))):=e_c pe_int fun _ _=>rfl
theorem e_bl:PE X (.Constant (.bool b) j pos) (tE κ W (mC (.bl b))):=e_c pe_bl fun _ _=>rfl
theorem xB9:PE X (.Constant (.str x) j pos) (tE κ W (mC (.str x))):=e_c pe_str fun _ _=>rfl
def mVar (i:Nat):M SD:=fun ρ=>match ρ[i]? with
 | some (.va d)=> .ok (.va d) ρ
 | some (.ow d)=> .ok (.va d.fz) (ρ.set i (.va d.fz))
 | _=> .no
def mMov (i:Nat):M SD:=fun ρ=>match ρ[i]? with
 | some (.va d)=> .ok (.va d) ρ
 | some (.ow d)=> .ok (.ow d) (ρ.set i .un)
 | _=> .no
theorem yBm (h:tE κ W (mVar i) σ H Q):tVar i σ H Q:=by
 obtain ⟨B,ρ,G,o,q⟩:=h
 unfold mVar at q
 cases e:ρ[i]? with
 | none=>
  rw [e] at q
  exact q.elim
 | some x=>
  rw [e] at q
  cases x with
  | un=>exact q.elim
  | va d=>
   obtain ⟨v,h1,h2⟩:=o.val i d e
   exact ⟨v,h1,q H G o (Same.refl G) v h2⟩
  | ow d=>
   obtain ⟨p,G',h1,s,o',r⟩:=o.frzS e
   exact ⟨_,h1,q H G' o' s _ r⟩
theorem Ok.drop (o:Ok κ B ρ σ H G)(i:Nat):Ok κ B (ρ.set i .un) σ H G:=by
 have back: ∀ {j:Nat} {x:SD},(ρ.set i .un)[j]? =some x->x≠ .un->j≠i/\ρ[j]? =some x:=fun {j x} z n=>by
  by_cases hj:j=i
  ·subst hj
   have hl:j<ρ.length:=by
    have y:=(yC1.mp z).1
    rw [yDe] at y
    exact y
   rw [yC7 hl] at z
   exact absurd (yDc.inj z).symm n
  ·rw [yC9 (Ne.symm hj)] at z
   exact ⟨hj,z⟩
 exact ⟨o.fr,by rw [yDe];exact o.len,fun j d z=>o.val j d (back z (by simp)).2,fun j d z=>o.own j d (back z (by simp)).2,fun j l p d e hjl z1 z2=>o.sep j l p d e hjl (back z1 (by simp)).2 (back z2 (by simp)).2,o.anch⟩
theorem yAe (h:tE κ W (mMov i) σ H Q):tVar i σ H Q:=by
 obtain ⟨B,ρ,G,o,q⟩:=h
 unfold mMov at q
 cases e:ρ[i]? with
 | none=>
  rw [e] at q
  exact q.elim
 | some x=>
  rw [e] at q
  cases x with
  | un=>exact q.elim
  | va d=>
   obtain ⟨v,h1,h2⟩:=o.val i d e
   exact ⟨v,h1,q H G o (Same.refl G) v h2⟩
  | ow d=>
   obtain ⟨p,h1,h2,h3,h4⟩:=o.own i d e
   refine ⟨_,h1,q H G (o.drop i) (Same.refl G) _ ⟨p,rfl,h2,h3,h4,fun j e' z1 z2=> ?_⟩⟩
   have hj:j≠i:=fun y=>by
    subst y
    rw [yC7 ((yC1.mp e).1)] at z1
    cases z1
   rw [yC9 (Ne.symm hj)] at z1
   exact o.sep j i p e' d hj z1 e z2 h1
theorem e_var (h:PE X (.Name x pos) (tVar i)):PE X (.Name x pos) (tE κ W (mVar i)):=PE.imp h fun _ _ _=>yBm
theorem xUj (h:PE X (.Name x pos) (tVar i)):PE X (.Name x pos) (tE κ W (mMov i)):=PE.imp h fun _ _ _=>yAe
end
def OpD (κ:Ctx)(r:R2)(g:D->D->Option SD):Prop:= ∀ (B:Bas) (ρ:List SD) (σ:L2.St) (H G:Hp) (d e:D) (x y:V) (z:SD) (Q:VK),Ok κ B ρ σ H G->Rep κ B.T G d x->Rep κ B.T G e y->g d e=some z->
 (∀ v H' G',Ok κ B ρ σ H' G'->Same G G'->RepR κ B ρ σ H' G' z v->Q v H')->r x y H Q
def UnD (κ:Ctx)(r:V->Hp->VK->Prop)(g:D->Option SD):Prop:= ∀ (B:Bas) (ρ:List SD) (σ:L2.St) (H G:Hp) (d:D) (x:V) (z:SD) (Q:VK),Ok κ B ρ σ H G->Rep κ B.T G d x->g d=some z->
 (∀ v H' G',Ok κ B ρ σ H' G'->Same G G'->RepR κ B ρ σ H' G' z v->Q v H')->r x H Q
def xDx (κ:Ctx)(r:List V->Hp->VK->Prop)(g:List D->Option SD):Prop:= ∀ (B:Bas) (ρ:List SD) (σ:L2.St) (H G:Hp) (ds:List D) (xs:List V) (z:SD) (Q:VK),Ok κ B ρ σ H G->RepL κ B.T G ds xs->g ds=some z->
 (∀ v H' G',Ok κ B ρ σ H' G'->Same G G'->RepR κ B ρ σ H' G' z v->Q v H')->r xs H Q
def mOp (g:D->D->Option SD)(ma mb:M SD):M SD:=(fE ma).bind fun d=>(fE mb).bind fun e=>M.opt (g d e)
def mUn (g:D->Option SD)(ma:M SD):M SD:=(fE ma).bind fun d=>M.opt (g d)
section
variable {κ:Ctx}{W:WX}{σ:L2.St}{H:Hp}{Q:VK}
theorem Pst.opt {α:Type}{B:Bas}{G:Hp}{ρ:List SD}{a:Option α}{k:α->List SD->Hp->Hp->Prop}(h:Pst κ W B σ G (M.opt a ρ) k): ∃ z,a=some z/\ ∀ H' G',Ok κ B ρ σ H' G'->Same G G'->k z ρ H' G':=by
 cases a with
 | none=>exact h.elim
 | some z=>exact ⟨z,rfl,h⟩
theorem xVs {r:R2}{g:D->D->Option SD}{ma mb:M SD}(hr:OpD κ r g)(h:tE κ W (mOp g ma mb) σ H Q):tOp r (tE κ W ma) (tE κ W mb) σ H Q:=by
 obtain ⟨B,ρ,G,o,q⟩:=h
 refine xBs o (Pst.bind q) fun d ρ1 H1 G1 o1 s1 q1 v1 r1=> ?_
 refine xBs o1 (Pst.bind q1) fun e ρ2 H2 G2 o2 s2 q2 v2 r2=> ?_
 obtain ⟨z,hz,q3⟩:=Pst.opt q2
 exact hr B ρ2 σ H2 G2 d e v1 v2 z Q o2 (Rep.mono (.of s2) d r1) r2 hz fun v H' G' o' s' rv=>q3 H' G' o' s' v rv
theorem un_ok {r:V->Hp->VK->Prop}{g:D->Option SD}{ma:M SD}(hr:UnD κ r g)(h:tE κ W (mUn g ma) σ H Q):tUn r (tE κ W ma) σ H Q:=by
 obtain ⟨B,ρ,G,o,q⟩:=h
 refine xBs o (Pst.bind q) fun d ρ1 H1 G1 o1 s1 q1 v1 r1=> ?_
 obtain ⟨z,hz,q3⟩:=Pst.opt q1
 exact hr B ρ1 σ H1 G1 d v1 z Q o1 r1 hz fun v H' G' o' s' rv=>q3 H' G' o' s' v rv
end
section
variable {X:Cx}{κ:Ctx}{W:WX}{a b:Expr}{ma mb:M SD}{pos:Pos}
theorem e_op {g:D->D->Option SD}(ho:OpR X (binaryOp op) r)(hr:OpD κ r g)(ha:PE X a (tE κ W ma))(hb:PE X b (tE κ W mb)):PE X (.BinOp a op b pos) (tE κ W (mOp g ma mb)):=
 PE.imp (pe_op ho ha hb) fun _ _ _=>xVs hr
theorem e_un {r:V->Hp->VK->Prop}{g:D->Option SD}(ho:UnR X (unaryOp op) r)(hr:UnD κ r g)(ha:PE X a (tE κ W ma)):PE X (.UnaryOp op a pos) (tE κ W (mUn g ma)):=
 PE.imp (pe_un ho ha) fun _ _ _=>un_ok hr
theorem xVn {g:D->D->Option SD}(ho:OpR X (compareOp op) r)(hr:OpD κ r g)(ha:PE X a (tE κ W ma))(hb:PE X b (tE κ W mb))(hm:behindInMarks op b=false):PE X (.Compare a [op] [b] pos) (tE κ W (mOp g ma mb)):=
 PE.imp (pe_cmpR ho ha hb hm) fun _ _ _=>xVs hr
end
def boolM:D->M Bool
 | .bl b=>M.ret b
 | _=>M.no
def mTst (m:M SD):M Bool:=(fE m).bind boolM
section
variable {X:Cx}{κ:Ctx}{W:WX}{a b:Expr}{pos:Pos}{σ:L2.St}{H:Hp}
theorem xSd {m:M SD}{Q:Bool->Hp->Prop}(h:tT κ W (mTst m) σ H Q):tTest (tE κ W m) σ H Q:=by
 obtain ⟨B,ρ,G,o,q⟩:=h
 refine xBs o (Pst.bind q) fun d ρ1 H1 G1 o1 s1 q1 v1 r1=> ?_
 cases d with
 | bl b=>exact ⟨b,r1,Pst.ret q1 o1⟩
 | _=>exact q1.elim
theorem xRh (h:PE X a (tE κ W m))(he: ∀ whole,isTrue a X.env whole=(do let v <- whole;standAt a.pos;holding [v] (truthy v)):=by intro _;rfl):PT X a (tT κ W (mTst m)):=
 PT.imp (pt_val h he) fun _ _ _ q=>xSd q
theorem xBj {g:D->D->Option SD}(ho:OpR X (compareOp op) r)(hr:OpD κ r g)(ha:PE X a (tE κ W ma))(hb:PE X b (tE κ W mb))(hm:behindInMarks op b=false):PT X (.Compare a [op] [b] pos) (tT κ W (mTst (mOp g ma mb))):=by
 refine PT.imp (pt_cmpR ho ha hb hm) fun σ H Q q=>xVs hr ?_
 exact xSd q
def mNot (m:M Bool):M Bool:=m.bind fun b=>M.ret (!b)
def mAnd (m n:M Bool):M Bool:=m.bind fun b=>if b then n else M.ret false
def mOr (m n:M Bool):M Bool:=m.bind fun b=>if b then M.ret true else n
theorem xPs {m:M Bool}(h:PT X a (tT κ W m)):PT X (.UnaryOp .Not a pos) (tT κ W (mNot m)):=by
 refine PT.imp (pt_not h) fun σ H Q ⟨B,ρ,G,o,q⟩=>⟨B,ρ,G,o,Pst.mono (Pst.bind q) fun b ρ' H' G' o' s q'=> ?_⟩
 exact Pst.ret q' o'
theorem xJz (h:PT X a (tT κ W m)):PW X (.BoolOp op [a] pos) (tT κ W m):=by
 cases op with
 | And=>exact pw_and1 h
 | Or=>exact pw_or1 h
theorem xPk {m n:M Bool}{rest:List Expr}(h:PT X a (tT κ W m))(h2:PW X (.BoolOp .And (b::rest) pos) (tT κ W n)):PW X (.BoolOp .And (a::b::rest) pos) (tT κ W (mAnd m n)):=by
 refine PW.imp (pw_and h h2) fun σ H Q ⟨B,ρ,G,o,q⟩=>⟨B,ρ,G,o,Pst.mono (Pst.bind q) fun c ρ' H' G' o' s q'=> ?_⟩
 cases c with
 | true=>exact iteT ⟨B,ρ',G',o',q'⟩
 | false=>exact iteF (Pst.ret q' o')
theorem w_or {m n:M Bool}{rest:List Expr}(h:PT X a (tT κ W m))(h2:PW X (.BoolOp .Or (b::rest) pos) (tT κ W n)):PW X (.BoolOp .Or (a::b::rest) pos) (tT κ W (mOr m n)):=by
 refine PW.imp (pw_or h h2) fun σ H Q ⟨B,ρ,G,o,q⟩=>⟨B,ρ,G,o,Pst.mono (Pst.bind q) fun c ρ' H' G' o' s q'=> ?_⟩
 cases c with
 | true=>exact iteT (Pst.ret q' o')
 | false=>exact iteF ⟨B,ρ',G',o',q'⟩
def xU4 (m n:M SD):M SD:=(mTst m).bind fun b=>if b then n else M.ret (.va (.bl false))
def mOrV (m n:M SD):M SD:=(mTst m).bind fun b=>if b then M.ret (.va (.bl true)) else n
def xX2 (m:M SD):M SD:=(mTst m).bind fun b=>M.ret (.va (.bl (!b)))
theorem tstV {m:M SD}{B:Bas}{ρ:List SD}{G:Hp}{Q:VK}{k:Bool->List SD->Hp->Hp->Prop}(o:Ok κ B ρ σ H G)(h:Pst κ W B σ G (mTst m ρ) k)
  (f: ∀ b ρ' H' G',Ok κ B ρ' σ H' G'->k b ρ' H' G'->Q (.bl b) H'):tE κ W m σ H Q:=by
 refine xBs o (Pst.bind h) fun d ρ1 H1 G1 o1 s1 q1 v1 r1=> ?_
 cases d with
 | bl b=>
  cases (show v1=V.bl b from r1)
  exact f b ρ1 H1 G1 o1 (Pst.ret q1 o1)
 | _=>exact q1.elim
theorem yAp {m n:M SD}{rest:List Expr}(h:PE X a (tE κ W m))(h2:PE X (.BoolOp .And (b::rest) pos) (tE κ W n)):PE X (.BoolOp .And (a::b::rest) pos) (tE κ W (xU4 m n)):=by
 refine PE.imp (pe_and h h2) fun σ H Q ⟨B,ρ,G,o,q⟩=> ?_
 refine tstV o (Pst.bind q) fun c ρ' H' G' o' q'=>⟨c,rfl,?_⟩
 cases c with
 | true=>exact iteT ⟨B,ρ',G',o',q'⟩
 | false=>exact iteF (Pst.ret q' o' _ rfl)
theorem e_not {m:M SD}(h:PE X a (tE κ W m)):PE X (.UnaryOp .Not a pos) (tE κ W (xX2 m)):=by
 refine PE.imp (pe_not h) fun σ H Q ⟨B,ρ,G,o,q⟩=> ?_
 exact tstV o (Pst.bind q) fun c ρ' H' G' o' q'=>⟨c,rfl,Pst.ret q' o' _ rfl⟩
def mIfE (c:M Bool)(m n:M SD):M SD:=c.bind fun b=>if b then m else n
theorem yAy (hc:PT X c (tT κ W t))(ha:PE X a (tE κ W m))(hb:PE X b (tE κ W n)):PE X (.IfExp c a b pos) (tE κ W (mIfE t m n)):=by
 refine PE.imp (pe_ifExp hc ha hb) fun σ H Q ⟨B,ρ,G,o,q⟩=>⟨B,ρ,G,o,Pst.mono (Pst.bind q) fun c ρ' H' G' o' s q'=> ?_⟩
 cases c with
 | true=>exact iteT ⟨B,ρ',G',o',q'⟩
 | false=>exact iteF ⟨B,ρ',G',o',q'⟩
end
def mNil:M (List D):=M.ret []
def xAc (m:M SD)(n:M (List D)):M (List D):=(fE m).bind fun d=>n.bind fun ds=>M.ret (d::ds)
def aNil:M (List Ar):=M.ret []
def aVa (m:M SD)(n:M (List Ar)):M (List Ar):=(fE m).bind fun d=>n.bind fun ds=>M.ret (.va d::ds)
def xFr:Option SD->Bool
 | some (.va _)=>true
 | some (.ow _)=>true
 | _=>false
def aSl (i:Nat)(n:M (List Ar)):M (List Ar):=fun ρ=>if xFr ρ[i]? then (n.bind fun ds=>M.ret (.sl i::ds)) ρ else .no
section
variable {X:Cx}{κ:Ctx}{W:WX}{e:Expr}{es:List Expr}{pos:Pos}
theorem xAi:PA X [] (tA κ W mNil):=PA.imp pa_nil fun σ H Q ⟨B,ρ,G,o,q⟩=>Pst.ret q o [] rfl
theorem xAa {m:M SD}{n:M (List D)}(h:PE X e (tE κ W m))(h2:PA X es (tA κ W n))(hs:starEach (e::es) X.env=(false,eval e X.env)::starEach es X.env:=by rfl):PA X (e::es) (tA κ W (xAc m n)):=by
 refine PA.imp (pa_cons h h2 hs) fun σ H Q ⟨B,ρ,G,o,q⟩=> ?_
 refine xBs o (Pst.bind q) fun d ρ1 H1 G1 o1 s1 q1 v1 r1=> ?_
 refine ⟨B,ρ1,G1,o1,Pst.mono (Pst.bind q1) fun ds ρ2 H2 G2 o2 s2 q2 vs rs=> ?_⟩
 exact Pst.ret q2 o2 _ ⟨v1,vs,rfl,Rep.mono (.of s2) d r1,rs⟩
theorem xAn:PA X [] (tAr κ W aNil):=PA.imp pa_nil fun σ H Q ⟨B,ρ,G,o,q⟩=>Pst.ret q o [] rfl
theorem xAw {m:M SD}{n:M (List Ar)}(h:PE X e (tE κ W m))(h2:PA X es (tAr κ W n))(hs:starEach (e::es) X.env=(false,eval e X.env)::starEach es X.env:=by rfl):PA X (e::es) (tAr κ W (aVa m n)):=by
 refine PA.imp (pa_cons h h2 hs) fun σ H Q ⟨B,ρ,G,o,q⟩=> ?_
 refine xBs o (Pst.bind q) fun d ρ1 H1 G1 o1 s1 q1 v1 r1=> ?_
 refine ⟨B,ρ1,G1,o1,Pst.mono (Pst.bind q1) fun ds ρ2 H2 G2 o2 s2 q2 vs rs=> ?_⟩
 exact Pst.ret q2 o2 _ ⟨v1,vs,rfl,Rep.mono (.of s2) d r1,rs⟩
theorem Ok.there (o:Ok κ B ρ σ H G){i:Nat}{x:SD}(e:ρ[i]? =some x)(n:x≠ .un): ∃ v,σ[i]? =some (some v):=by
 cases x with
 | un=>exact (n rfl).elim
 | va d=>
  obtain ⟨v,h,_⟩:=o.val i d e
  exact ⟨v,h⟩
 | ow d=>
  obtain ⟨p,h,_⟩:=o.own i d e
  exact ⟨_,h⟩
theorem xBu {i:Nat}{x:Str}{p:Pos}{n:M (List Ar)}(h:PE X (.Name x p) (tVar i))(h2:PA X es (tAr κ W n))(hs:starEach (.Name x p::es) X.env=(false,eval (.Name x p) X.env)::starEach es X.env:=by rfl):PA X (.Name x p::es) (tAr κ W (aSl i n)):=by
 refine PA.imp (pa_cons h h2 hs) fun σ H Q ⟨B,ρ,G,o,q⟩=> ?_
 unfold aSl at q
 cases hi:xFr ρ[i]? with
 | false=>
  rw [hi,if_neg yD5] at q
  exact q.elim
 | true=>
  rw [hi,if_pos rfl] at q
  obtain ⟨v,hv⟩: ∃ v,σ[i]? =some (some v):=by
   cases e:ρ[i]? with
   | none=>
    rw [e] at hi
    cases hi
   | some x=>
    refine o.there e fun z=> ?_
    rw [e,z] at hi
    cases hi
  refine ⟨v,hv,B,ρ,G,o,Pst.mono (Pst.bind q) fun ds ρ2 H2 G2 o2 s2 q2 vs rs=> ?_⟩
  exact Pst.ret q2 o2 _ ⟨v,vs,rfl,hv,rs⟩
end
inductive Fl where
 | nx|rt (r:SD)|bk|ct
abbrev S:=M Fl
def PstS (κ:Ctx)(W:WX)(B:Bas)(G:Hp)(r:Rs Fl)(D:Ends):Prop:=match r with
 | .ok .nx ρ'=> ∀ σ' H' G',Ok κ B ρ' σ' H' G'->Same G G'->D.nx σ' H'
 | .ok (.rt r) ρ'=> ∀ v σ' H' G',Ok κ B ρ' σ' H' G'->Same G G'->RepR κ B ρ' σ' H' G' r v->D.rt v H'
 | .ok .bk ρ'=> ∀ σ' H' G',Ok κ B ρ' σ' H' G'->Same G G'->D.bk σ' H'
 | .ok .ct ρ'=> ∀ σ' H' G',Ok κ B ρ' σ' H' G'->Same G G'->D.ct σ' H'
 | .ex x ρ'=> ∀ cls d σ' H' G',Ok κ B ρ' σ' H' G'->Same G G'->RepX κ B.T H' G' x cls d->W cls d σ' H'
 | .no=>False
def InA (B:Bas)(A:List Nat):Prop:= ∀ q∈B.an,q.1∈A
def tS (κ:Ctx)(A:List Nat)(W:WX)(s:S):TS:=fun D σ H=> ∃ B ρ G,InA B A/\Ok κ B ρ σ H G/\PstS κ W B G (s ρ) D
def sSeq (s t:S):S:=fun ρ=>match s ρ with
 | .ok .nx ρ'=>t ρ'
 | r=>r
def sNx:S:=M.ret .nx
def sRet (m:M SD):S:=m.bind fun r=>M.ret (.rt r)
def sRetN:S:=M.ret (.rt (.va .non))
def sSet (i:Nat)(m:M SD):S:=m.bind fun r=>fun ρ=> .ok .nx (ρ.set i r)
def xHz (m:M SD):S:=m.bind fun _=>M.ret .nx
def sIf (c:M Bool)(s t:S):S:=c.bind fun b=>if b then s else t
theorem PstS.mono {D D':Ends}(h:PstS κ W B G r D)(s:Same G G1)(hn: ∀ σ H,D.nx σ H->D'.nx σ H)(hr:D.rt=D'.rt)(hb:D.bk=D'.bk)(hc:D.ct=D'.ct):PstS κ W B G1 r D':=by
 cases r with
 | ok f ρ'=>
  cases f with
  | nx=>exact fun σ' H' G' o e=>hn _ _ (h σ' H' G' o (s.trans e))
  | rt r=>exact fun v σ' H' G' o e q=>hr ▸ h v σ' H' G' o (s.trans e) q
  | bk=>exact fun σ' H' G' o e=>hb ▸ h σ' H' G' o (s.trans e)
  | ct=>exact fun σ' H' G' o e=>hc ▸ h σ' H' G' o (s.trans e)
 | ex x ρ'=>exact fun cls d σ' H' G' o e q=>h cls d σ' H' G' o (s.trans e) q
 | no=>exact h
theorem PstS.bind {α:Type}{m:M α}{f:α->S}{ρ:List SD}{D:Ends}(h:PstS κ W B G (m.bind f ρ) D):
  Pst κ W B σ G (m ρ) fun a ρ' H' G'=>PstS κ W B G' (f a ρ') D:=by
 unfold M.bind at h
 cases e:m ρ with
 | ok a ρ'=>
  rw [e] at h
  exact fun H' G' o s=>PstS.mono h s (fun _ _ q=>q) rfl rfl rfl
 | ex x ρ'=>
  rw [e] at h
  exact fun cls d H' G' o s r=>h cls d σ H' G' o s r
 | no=>
  rw [e] at h
  exact h
section
variable {X:Cx}{κ:Ctx}{A:List Nat}{W:WX}{pos:Pos}
theorem xBv:PSs X [] (tS κ A W sNx):=PSs.imp pss_nil fun D σ H ⟨B,ρ,G,_,o,q⟩=>q σ H G o (Same.refl G)
theorem xAe {st:Stmt}{rest:List Stmt}{s t:S}(h:PS X st (tS κ A W s))(h2:PSs X rest (tS κ A W t)):PSs X (st::rest) (tS κ A W (sSeq s t)):=by
 refine PSs.imp (pss_cons h h2) fun D σ H ⟨B,ρ,G,a,o,q⟩=>⟨B,ρ,G,a,o,?_⟩
 have q':PstS κ W B G (match s ρ with| .ok .nx ρ'=>t ρ'|r=>r) D:=q
 cases e:s ρ with
 | ok f ρ'=>
  rw [e] at q'
  cases f with
  | nx=>exact fun σ' H' G' o' s'=>⟨B,ρ',G',a,o',PstS.mono q' s' (fun _ _ z=>z) rfl rfl rfl⟩
  | rt r=>exact q'
  | bk=>exact q'
  | ct=>exact q'
 | ex x ρ'=>
  rw [e] at q'
  exact q'
 | no=>
  rw [e] at q'
  exact q'
theorem xAq {st:Stmt}{s:S}(h:PS X st (tS κ A W s)):PSs X [st] (tS κ A W s):=pss_one h
theorem xBp (h:PE X e (tE κ W m)):PS X (.Return (some e) pos) (tS κ A W (sRet m)):=
 PS.imp (ps_ret h) fun D σ H ⟨B,ρ,G,a,o,q⟩=>⟨B,ρ,G,o,Pst.mono (PstS.bind q) fun r ρ' H' G' o' s q' v rv=>q' v σ H' G' o' (Same.refl G') rv⟩
theorem xG4 (h:PE X e (tE κ W m))(hs:swapsWith e none pos.line X.env=pure false:=by rfl):PS X (.Expr e pos) (tS κ A W (xHz m)):=
 PS.imp (ps_expr h hs) fun D σ H ⟨B,ρ,G,a,o,q⟩=>⟨B,ρ,G,o,Pst.mono (PstS.bind q) fun r ρ' H' G' o' s q' v rv=>q' σ H' G' o' (Same.refl G')⟩
theorem s_if (hc:PT X c (tT κ W t))(h1:PSs X b1 (tS κ A W s1))(h2:PSs X b2 (tS κ A W s2)):PS X (.If c b1 b2 pos) (tS κ A W (sIf t s1 s2)):=by
 refine PS.imp (ps_if hc h1 h2) fun D σ H ⟨B,ρ,G,a,o,q⟩=>⟨B,ρ,G,o,Pst.mono (PstS.bind q) fun b ρ' H' G' o' s q'=> ?_⟩
 cases b with
 | true=>exact iteT ⟨B,ρ',G',a,o',q'⟩
 | false=>exact iteF ⟨B,ρ',G',a,o',q'⟩
theorem xC3 (h:InA B A)(n:(A.contains i)=false): ∀ p,(i,p)∉B.an:=fun p hp=>by
 have z2:A.contains i=true:=List.contains_iff_mem.mpr (h _ hp)
 rw [n] at z2
 cases z2
def tG (κ:Ctx)(A:List Nat)(vs:List Nat)(tg:D->List SD->Option (List SD)):TG:=fun v σ H Q=> ∃ B ρ G d ρ',InA B A/\Ok κ B ρ σ H G/\Rep κ B.T G d v/\tg d ρ=some ρ'/\
 ∀ σ' H' G',Ok κ B ρ' σ' H' G'->Same G G'->wipe σ' vs=wipe σ vs->Q σ' H'
theorem s_set (hN:X.N.Nodup)(hi:X.N[i]? =some x)(hx:Loc X.env.scope x)(h:PE X e (tE κ W m))(n:A.contains i=false:=by rfl)(hs:swapsWith e (some (.Name x p')) pos.line X.env=pure false:=by rfl)
  (hf:X.fn x=true\/X.env.scope.names.lookup x=some .local:=by first|exact .inl rfl|exact .inr rfl|assumption):PS X (.Assign [.Name x p'] e pos) (tS κ A W (sSet i m)):=by
 refine PS.imp (ps_set hN hi hx h hs hf) fun D σ H ⟨B,ρ,G,a,o,q⟩=>⟨B,ρ,G,o,Pst.mono (PstS.bind q) fun r ρ' H' G' o' s q' v rv=> ?_⟩
 exact q' _ H' G' (o'.set i rv (xC3 a n)) (Same.refl G')
end
def gN (i:Nat):D->List SD->Option (List SD):=fun d ρ=>some (ρ.set i (.va d))
def gNi:List D->List SD->Option (List SD)
 | [],ρ=>some ρ
 | _::_,_=>none
def gCo (g:D->List SD->Option (List SD))(r:List D->List SD->Option (List SD)):List D->List SD->Option (List SD)
 | d::l,ρ=>(g d ρ).bind fun ρ'=>r l ρ'
 | [],_=>none
def gTu (n:Nat)(r:List D->List SD->Option (List SD)):D->List SD->Option (List SD)
 | .tup l,ρ=>if l.length=n then r l ρ else none
 | _,_=>none
def tGs (κ:Ctx)(A:List Nat)(vs:List Nat)(tg:List D->List SD->Option (List SD)):TGs:=fun ws σ H Q=> ∃ B ρ G ds ρ',InA B A/\Ok κ B ρ σ H G/\RepL κ B.T G ds ws/\tg ds ρ=some ρ'/\
 ∀ σ' H' G',Ok κ B ρ' σ' H' G'->Same G G'->wipe σ' vs=wipe σ vs->Q σ' H'
theorem PG.imp (h:PG X e t)(f: ∀ v σ H Q,t' v σ H Q->t v σ H Q):PG X e t':=⟨fun pins s σ H v u Q I r q=>h.run pins s σ H v u Q I r (f _ _ _ _ q)⟩
theorem PGs.imp (h:PGs X e t)(f: ∀ v σ H Q,t' v σ H Q->t v σ H Q):PGs X e t':=⟨fun pins s σ H v u Q I r q=>h.run pins s σ H v u Q I r (f _ _ _ _ q)⟩
theorem xOj: ∀ {vs:List Nat},i∈vs->wipe (σ.set i w) vs=wipe σ vs
 | v::vs,h=>by
  unfold wipe
  by_cases hv:i∈vs
  ·rw [xOj hv]
  ·have e:v=i:=by
    have in_or:=yDo.mp h;rcases in_or with z|z
    ·exact z.symm
    ·exact (hv z).elim
   subst e
   have go: ∀ us:List Nat,v∉us->(wipe (σ.set v w) us).set v none=(wipe σ us).set v none:=by
    intro us
    induction us with
    | nil=>intro _;exact yDz ..
    | cons u us ih=>
     intro hu
     have n1:v≠u:=fun z=>hu (by rw [z];exact yC2 ..)
     have n2:v∉us:=fun z=>hu (yC8 _ z)
     show ((wipe (σ.set v w) us).set u none).set v none=((wipe σ us).set u none).set v none
     rw [yEj _ _ (Ne.symm n1),ih n2,yEj _ _ n1]
   exact go vs hv
section
variable {X:Cx}{κ:Ctx}{A vs:List Nat}
theorem yCy (h:PG X (.Name x pos) (gName i))(n:A.contains i=false:=by rfl)(hv:vs.contains i=true:=by rfl):PG X (.Name x pos) (tG κ A vs (gN i)):=by
 refine PG.imp h fun v σ H Q ⟨B,ρ,G,d,ρ',a,o,r,e,q⟩=> ?_
 cases e
 exact q _ H G (o.set i (show RepR κ B ρ σ H G (.va d) v from r) (xC3 a n)) (Same.refl G) (xOj (List.contains_iff_mem.mp hv))
theorem xIy:PGs X [] (tGs κ A vs gNi):=by
 refine PGs.imp pgs_nil fun ws σ H Q ⟨B,ρ,G,ds,ρ',a,o,r,e,q⟩=> ?_
 cases ds with
 | nil=>
  cases e
  exact ⟨r,q σ H G o (Same.refl G) rfl⟩
 | cons d l=>cases e
theorem xBm {g:D->List SD->Option (List SD)}{gr:List D->List SD->Option (List SD)}(h:PG X e (tG κ A vs g))(h2:PGs X es (tGs κ A vs gr))
  (hs:(assignEach (e::es) X.env).map (·.2)=assign e X.env::(assignEach es X.env).map (·.2):=by rfl):PGs X (e::es) (tGs κ A vs (gCo g gr)):=by
 refine PGs.imp (pgs_cons h h2 hs) fun ws σ H Q ⟨B,ρ,G,ds,ρ',a,o,r,e,q⟩=> ?_
 cases ds with
 | nil=>cases e
 | cons d l=>
  obtain ⟨v,us,rfl,r1,r2⟩:=r
  obtain ⟨ρ1,e1,e2⟩:=yDf.mp e
  refine ⟨v,us,rfl,B,ρ,G,d,ρ1,a,o,r1,e1,fun σ1 H1 G1 o1 s1 w1=> ?_⟩
  exact ⟨B,ρ1,G1,l,ρ',a,o1,RepL.mono (.of s1) l r2,e2,fun σ2 H2 G2 o2 s2 w2=>q σ2 H2 G2 o2 (s1.trans s2) (w2.trans w1)⟩
def sAsg (tg:D->List SD->Option (List SD))(m:M SD):S:=(fE m).bind fun d=>fun ρ=>match tg d ρ with
 | some ρ'=> .ok .nx ρ'
 | none=> .no
theorem xX6 {g:D->List SD->Option (List SD)}(h:PE X e (tE κ W m))(hg:PG X tg (tG κ A vs g))(hs:swapsWithSole [tg] e pos.line X.env=pure false:=by rfl)(hw:swappedStores [tg] e X.env=pure none:=by rfl)
  (h1:(assignEach [tg] X.env).map (·.2)=[assign tg X.env]:=by rfl):PS X (.Assign [tg] e pos) (tS κ A W (sAsg g m)):=by
 refine PS.imp (ps_asg h hg hs hw h1) fun D σ H ⟨B,ρ,G,a,o,q⟩=> ?_
 refine xBs o (PstS.bind q) fun d ρ1 H1 G1 o1 s1 q1 v1 r1=> ?_
 cases e2:g d ρ1 with
 | none=>
  rw [e2] at q1
  exact q1.elim
 | some ρ2=>
  rw [e2] at q1
  exact ⟨B,ρ1,G1,d,ρ2,a,o1,r1,e2,fun σ2 H2 G2 o2 s2 _=>q1 σ2 H2 G2 o2 s2⟩
def sPar (i j:Nat)(m n:M SD):S:=(fE m).bind fun d=>(fE n).bind fun e=>fun ρ=> .ok .nx ((ρ.set i (.va d)).set j (.va e))
end
def mTup (n:M (List D)):M SD:=n.bind fun ds=>if ds.length<=1000 then M.ret (.va (.tup ds)) else M.no
def mLst (n:M (List D)):M SD:=n.bind fun ds=>if ds.length<=1000 then M.ret (.ow (.lst false ds)) else M.no
theorem xQg (h:n<=1000):n<=sizeLine:=Nat.le_of_lt (small1000 h)
section
variable {X:Cx}{κ:Ctx}{W:WX}{es:List Expr}{n:M (List D)}{pos:Pos}
theorem xBz (h:PA X es (tA κ W n)):PE X (.Tuple es k pos) (tE κ W (mTup n)):=by
 refine PE.imp (pe_tup h) fun σ H Q ⟨B,ρ,G,o,q⟩=>⟨B,ρ,G,o,Pst.mono (Pst.bind q) fun ds ρ' H' G' o' s q' vs rs=> ?_⟩
 by_cases hl:ds.length<=1000
 ·rw [if_pos hl] at q'
  refine ⟨by rw [rs.length];exact xQg hl,fun p hp=> ?_⟩
  have hg:=o'.gnone hp
  exact q' _ _ (o'.alloc (o:= .tup vs) hp fun _ z=>by cases z) (Same.upd hg) _ ⟨p,vs,rfl,.inl upd_same,RepL.mono (.of (Same.upd hg)) ds rs⟩
 ·rw [if_neg hl] at q'
  exact q'.elim
theorem Ok.newOwn (o:Ok κ B ρ σ H G)(hp:H p=none)(h:xA9 κ B.T G (upd H p u) p d):RepR κ B ρ σ (upd H p u) G (.ow d) (.ref p):=
 ⟨p,rfl,o.gnone hp,o.bnone hp,h,fun j e hj=>o.apart hp j e hj⟩
theorem xH6 (h:PA X es (tA κ W n)):PE X (.List es pos) (tE κ W (mLst n)):=by
 refine PE.imp (pe_lst h) fun σ H Q ⟨B,ρ,G,o,q⟩=>⟨B,ρ,G,o,Pst.mono (Pst.bind q) fun ds ρ' H' G' o' s q' vs rs=> ?_⟩
 by_cases hl:ds.length<=1000
 ·rw [if_pos hl] at q'
  refine ⟨by rw [rs.length];exact xQg hl,fun p hp=> ?_⟩
  exact q' _ _ (o'.allocOwn hp) (Same.refl _) _ (o'.newOwn hp ⟨vs,upd_same,rs⟩)
 ·rw [if_neg hl] at q'
  exact q'.elim
end
def mCB (g:List D->Option SD)(n:M (List D)):M SD:=n.bind fun ds=>M.opt (g ds)
section
variable {X:Cx}{κ:Ctx}{W:WX}{e:Expr}{es:List Expr}{n:M (List D)}{pos p:Pos}{x:Str}
theorem yCh {r:List V->Hp->VK->Prop}{g:List D->Option SD}(hr:xDx κ r g)(h:tE κ W (mCB g n) σ H Q):tCB r (tA κ W n) σ H Q:=by
 obtain ⟨B,ρ,G,o,q⟩:=h
 refine ⟨B,ρ,G,o,Pst.mono (Pst.bind q) fun ds ρ' H' G' o' s q' vs rs=> ?_⟩
 obtain ⟨z,hz,q3⟩:=Pst.opt q'
 exact hr B ρ' σ H' G' ds vs z Q o' rs hz fun v H2 G2 o2 s2 rv=>q3 H2 G2 o2 s2 v rv
theorem xBq {id:String}{r:List V->Hp->VK->Prop}{g:List D->Option SD}(hc:CallR X (.builtin id) r)(hr:xDx κ r g)(hg:Gl X x)(hm:X.mg x=none)(hv:bootBuiltins x=some (.builtin id))(ha:PA X (e::es) (tA κ W n))(hn:x≠"__name__":=by decide)(hdb:(x==("__debug__":Str))=false:=by decide)
  (he:starEach (e::es) X.env=(false,eval e X.env)::starEach es X.env:=by rfl) (hpl:(backTo pos (starEach es X.env)).any (·.1)=false:=by rfl):PE X (.Call (.Name x p) (e::es) [] pos) (tE κ W (mCB g n)):=
 PE.imp (pe_callB hc hg hm hv ha hn hdb he hpl) fun _ _ _=>yCh hr
theorem xOp {r:List V->Hp->VK->Prop}{g:List D->Option SD}(hc:CallR X (.type T) r)(hr:xDx κ r g)(hg:Gl X x)(hm:X.mg x=none)(hv:bootBuiltins x=some (.type T))(ha:PA X (e::es) (tA κ W n))(hn:x≠"__name__":=by decide)(hdb:(x==("__debug__":Str))=false:=by decide)
  (he:starEach (e::es) X.env=(false,eval e X.env)::starEach es X.env:=by rfl) (hpl:(backTo pos (starEach es X.env)).any (·.1)=false:=by rfl):PE X (.Call (.Name x p) (e::es) [] pos) (tE κ W (mCB g n)):=
 PE.imp (pe_callTy hc hg hm hv ha hn hdb he hpl) fun _ _ _=>yCh hr
theorem xGj (hg:Gl X x)(hm:X.mg x=some u)(r:RelV v u)(rd: ∀ T G,Rep κ T G d v)(hd:(x==("__debug__":Str))=false:=by decide):PE X (.Name x pos) (tE κ W (mC d)):=
 e_c (pe_glob hg hm r hd) rd
end
inductive FR where
 | ok (r:SD) (outs:List SD)|ex (x:Exn) (outs:List SD)|no
def ownP:List SD->List V->List Addr
 | .ow _::l,.ref p::ws=>p::ownP l ws
 | _::l,_::ws=>ownP l ws
 | _,_=>[]
def xBx (κ:Ctx)(T:Pd)(G H:Hp):List SD->List V->Prop
 | [],vs=>vs=[]
 | .va d::l,vs=> ∃ v ws,vs=v::ws/\Rep κ T G d v/\xBx κ T G H l ws
 | .ow d::l,vs=> ∃ p ws,vs= .ref p::ws/\G p=none/\xA9 κ T G H p d/\xBx κ T G H l ws
 | .un::_,_=>False
structure Pre (κ:Ctx)(T:Pd)(G H:Hp)(as:List SD)(vs:List V):Prop where
 args:xBx κ T G H as vs
 nd:(ownP as vs).Nodup
 gh:Same G H
 notb: ∀ a ps,G a≠some (.tbl ps)
 tabs:LamX.Tabs κ.tabs H
 lent: ∀ a,T a->noT H a≠none/\a∉ownP as vs
def OutAt (κ:Ctx)(T:Pd)(G H:Hp)(p:Addr):Option SD->Prop
 | some (.ow d)=>G p=none/\xA9 κ T G H p d
 | some (.va d)=>Rep κ T G d (.ref p)
 | _=>True
structure After (κ:Ctx)(T:Pd)(G H:Hp)(as:List SD)(vs:List V)(outs:List SD)(H' G':Hp):Prop where
 keep: ∀ a o,H a=some o->a∉ownP as vs->(∀ ps,o≠ .tbl ps)->H' a=some o
 frz: ∀ a,noT H a≠none->a∉ownP as vs->G' a=G a
 sub:Same G G'
 gh:Same G' H'
 notb: ∀ a ps,G' a≠some (.tbl ps)
 tabs:LamX.Tabs κ.tabs H'
 outs: ∀ (i:Nat) d p,as[i]? =some (SD.ow d)->vs[i]? =some (V.ref p)->OutAt κ T G' H' p outs[i]?
def xQa (κ:Ctx)(T:Pd)(H:Hp)(as:List SD)(vs:List V)(outs:List SD)(H' G':Hp):SD->V->Prop
 | .va d,v=>Rep κ T G' d v
 | .ow d,v=> ∃ q,v= .ref q/\G' q=none/\xA9 κ T G' H' q d/\(noT H q=none\/q∈ownP as vs)/\
   ∀ (i:Nat) c p c',as[i]? =some (SD.ow c)->vs[i]? =some (V.ref p)->outs[i]? =some (SD.ow c')->p≠q
 | .un,_=>False
def spF (κ:Ctx)(n:Nat)(f:List SD->FR):Sp:=fun vs H Q E=> ∃ T G as,as.length=n/\Pre κ T G H as vs/\match f as with
 | .ok r outs=> ∀ v H' G',After κ T G H as vs outs H' G'->xQa κ T H as vs outs H' G' r v->Q v H'
 | .ex x outs=> ∀ cls d H' G',After κ T G H as vs outs H' G'->RepX κ T H' G' x cls d->E cls d H'
 | .no=>False
theorem xBx.length: ∀ {as:List SD} {vs:List V},xBx κ T G H as vs->vs.length=as.length
 | [],vs,h=>by rw [show vs=[] from h] <;> rfl
 | .va d::l,vs,h=>by
  obtain ⟨v,ws,rfl,_,h2⟩:=h
  rw [yDa,yDa,h2.length]
 | .ow d::l,vs,h=>by
  obtain ⟨p,ws,rfl,_,_,h2⟩:=h
  rw [yDa,yDa,h2.length]
 | .un::l,vs,h=>h.elim
theorem xBx.val: ∀ {as:List SD} {vs:List V} {i:Nat} {d:D},xBx κ T G H as vs->as[i]? =some (SD.va d)-> ∃ v,vs[i]? =some v/\Rep κ T G d v
 | [],vs,i,d,h,e=>by simp at e
 | .va c::l,vs,0,d,h,e=>by
  obtain ⟨v,ws,rfl,h1,h2⟩:=h
  cases e
  exact ⟨v,rfl,h1⟩
 | .va c::l,vs,i+1,d,h,e=>by
  obtain ⟨v,ws,rfl,h1,h2⟩:=h
  exact xBx.val (i:=i) h2 e
 | .ow c::l,vs,0,d,h,e=>by cases e
 | .ow c::l,vs,i+1,d,h,e=>by
  obtain ⟨p,ws,rfl,_,_,h2⟩:=h
  exact xBx.val (i:=i) h2 e
 | .un::l,vs,i,d,h,e=>h.elim
theorem xBx.own: ∀ {as:List SD} {vs:List V} {i:Nat} {d:D},xBx κ T G H as vs->as[i]? =some (SD.ow d)-> ∃ p,vs[i]? =some (V.ref p)/\G p=none/\xA9 κ T G H p d/\p∈ownP as vs
 | [],vs,i,d,h,e=>by simp at e
 | .va c::l,vs,0,d,h,e=>by cases e
 | .va c::l,vs,i+1,d,h,e=>by
  obtain ⟨v,ws,rfl,h1,h2⟩:=h
  obtain ⟨p,e1,e2,e3,e4⟩:=xBx.own (i:=i) h2 e
  exact ⟨p,e1,e2,e3,by simpa only [ownP] using e4⟩
 | .ow c::l,vs,0,d,h,e=>by
  obtain ⟨p,ws,rfl,h1,h3,h2⟩:=h
  cases e
  exact ⟨p,rfl,h1,h3,yC2 ..⟩
 | .ow c::l,vs,i+1,d,h,e=>by
  obtain ⟨p,ws,rfl,h1,h3,h2⟩:=h
  obtain ⟨q,e1,e2,e3,e4⟩:=xBx.own (i:=i) h2 e
  exact ⟨q,e1,e2,e3,yC8 _ e4⟩
 | .un::l,vs,i,d,h,e=>h.elim
theorem xBw: ∀ {as:List SD} {vs:List V} {p:Addr},p∈ownP as vs-> ∃ (i:Nat) (d:D),as[i]? =some (SD.ow d)/\vs[i]? =some (V.ref p)
 | [],_,_,h=>by cases h
 | _::_,[],_,h=>by
  simp [ownP] at h
 | .ow d::l,.ref q::ws,p,h=>by
  have in_or:=yDo.mp h;rcases in_or with rfl|h
  ·exact ⟨0,d,rfl,rfl⟩
  ·obtain ⟨i,d,e1,e2⟩:=xBw h
   exact ⟨i+1,d,e1,e2⟩
 | .va d::l,v::ws,p,h=>by
  obtain ⟨i,d,e1,e2⟩:=xBw (as:=l) (vs:=ws) (by simpa only [ownP] using h)
  exact ⟨i+1,d,e1,e2⟩
 | .un::l,v::ws,p,h=>by
  obtain ⟨i,d,e1,e2⟩:=xBw (as:=l) (vs:=ws) (by simpa only [ownP] using h)
  exact ⟨i+1,d,e1,e2⟩
 | .ow d::l,.non::ws,p,h=>by
  obtain ⟨i,d,e1,e2⟩:=xBw (as:=l) (vs:=ws) (by simpa only [ownP] using h)
  exact ⟨i+1,d,e1,e2⟩
 | .ow d::l,.bl _::ws,p,h=>by
  obtain ⟨i,d,e1,e2⟩:=xBw (as:=l) (vs:=ws) (by simpa only [ownP] using h)
  exact ⟨i+1,d,e1,e2⟩
 | .ow d::l,.int _::ws,p,h=>by
  obtain ⟨i,d,e1,e2⟩:=xBw (as:=l) (vs:=ws) (by simpa only [ownP] using h)
  exact ⟨i+1,d,e1,e2⟩
 | .ow d::l,.str _::ws,p,h=>by
  obtain ⟨i,d,e1,e2⟩:=xBw (as:=l) (vs:=ws) (by simpa only [ownP] using h)
  exact ⟨i+1,d,e1,e2⟩
 | .ow d::l,.byt _::ws,p,h=>by
  obtain ⟨i,d,e1,e2⟩:=xBw (as:=l) (vs:=ws) (by simpa only [ownP] using h)
  exact ⟨i+1,d,e1,e2⟩
 | .ow d::l,.flt _::ws,p,h=>by
  obtain ⟨i,d,e1,e2⟩:=xBw (as:=l) (vs:=ws) (by simpa only [ownP] using h)
  exact ⟨i+1,d,e1,e2⟩
 | .ow d::l,.ty _::ws,p,h=>by
  obtain ⟨i,d,e1,e2⟩:=xBw (as:=l) (vs:=ws) (by simpa only [ownP] using h)
  exact ⟨i+1,d,e1,e2⟩
theorem xZm: ∀ {as:List SD} {vs:List V} {i j:Nat} {d e:D} {p:Addr},(ownP as vs).Nodup->as[i]? =some (SD.ow d)->as[j]? =some (SD.ow e)->vs[i]? =some (V.ref p)->vs[j]? =some (V.ref p)->i=j:=by
 have mem: ∀ {as:List SD} {vs:List V} {i:Nat} {d:D} {p:Addr},as[i]? =some (SD.ow d)->vs[i]? =some (V.ref p)->p∈ownP as vs:=by
  intro as
  induction as with
  | nil=>intro vs i d p h;simp at h
  | cons a l ih=>
   intro vs i d p h1 h2
   cases vs with
   | nil=>simp at h2
   | cons v ws=>
    cases i with
    | zero=>
     cases h1
     cases h2
     exact yC2 ..
    | succ i=>
     have q:=ih (vs:=ws) (i:=i) h1 h2
     cases a with
     | ow c=>cases v <;> first|exact q|exact yC8 _ q
     | va c=>exact (by simpa only [ownP] using q)
     | un=>exact (by simpa only [ownP] using q)
 intro as
 induction as with
 | nil=>intro vs i j d e p _ h;simp at h
 | cons a l ih=>
  intro vs i j d e p nd h1 h2 h3 h4
  cases vs with
  | nil=>simp at h3
  | cons v ws=>
   have nd':(ownP l ws).Nodup:=by
    cases a with
    | ow c=>cases v <;> first|exact nd|exact (yDh.mp nd).2
    | va c=>simpa only [ownP] using nd
    | un=>simpa only [ownP] using nd
   cases i with
   | zero=>
    cases j with
    | zero=>rfl
    | succ j=>
     cases h1
     cases h3
     exact absurd (mem (as:=l) (vs:=ws) (i:=j) h2 h4) (yDh.mp nd).1
   | succ i=>
    cases j with
    | zero=>
     cases h2
     cases h4
     exact absurd (mem (as:=l) (vs:=ws) (i:=i) h1 h3) (yDh.mp nd).1
    | succ j=>rw [ih (vs:=ws) (i:=i) (j:=j) nd' h1 h2 h3 h4]
def xP4:Nat->List SD->List Nat
 | _,[]=>[]
 | n,.ow _::l=>n::xP4 (n+1) l
 | n,_::l=>xP4 (n+1) l
def runF (A:List Nat)(N:Nat)(s:S)(as:List SD):FR:=
 if (xP4 0 as).all (A.contains ·) then match s (as++yDg (N-as.length) SD.un) with
  | .ok (.rt r) ρ'=> .ok r (ρ'.take as.length)
  | .ok .nx ρ'=> .ok (.va .non) (ρ'.take as.length)
  | .ex x ρ'=> .ex x (ρ'.take as.length)
  | _=> .no
 else .no
theorem xFy: ∀ {as:List SD} {n i:Nat} {d:D},as[i]? =some (SD.ow d)->n+i∈xP4 n as
 | [],_,_,_,h=>absurd h (by simp)
 | .ow c::l,n,0,d,h=>by rw [Nat.add_zero];exact yC2 ..
 | .ow c::l,n,i+1,d,h=>by
  have q:=xFy (as:=l) (n:=n+1) (i:=i) h
  rw [show n+(i+1)=n+1+i from by omega]
  exact yC8 _ q
 | .va c::l,n,0,d,h=>by cases h
 | .va c::l,n,i+1,d,h=>by
  have q:=xFy (as:=l) (n:=n+1) (i:=i) h
  rw [show n+(i+1)=n+1+i from by omega]
  exact q
 | .un::l,n,0,d,h=>by cases h
 | .un::l,n,i+1,d,h=>by
  have q:=xFy (as:=l) (n:=n+1) (i:=i) h
  rw [show n+(i+1)=n+1+i from by omega]
  exact q
def anOf:Nat->List SD->List V->List (Nat×Addr)
 | n,.ow _::l,.ref p::ws=>(n,p)::anOf (n+1) l ws
 | n,_::l,_::ws=>anOf (n+1) l ws
 | _,_,_=>[]
theorem xOo: ∀ {as:List SD} {vs:List V} {n i:Nat} {p:Addr},(i,p)∈anOf n as vs-> ∃ j d,i=n+j/\as[j]? =some (SD.ow d)/\vs[j]? =some (V.ref p):=by
 intro as
 induction as with
 | nil=>intro vs n i p h;cases h
 | cons a l ih=>
  intro vs n i p h
  cases vs with
  | nil=>
   cases a <;> cases h
  | cons v ws=>
   have next:(i,p)∈anOf (n+1) l ws-> ∃ j d,i=n+j/\(a::l)[j]? =some (SD.ow d)/\(v::ws)[j]? =some (V.ref p):=fun q=>by
    obtain ⟨j,d,e1,e2,e3⟩:=ih q
    exact ⟨j+1,d,by omega,e2,e3⟩
   cases a with
   | ow c=>
    cases v with
    | ref q=>
     have in_or:=yDo.mp h;rcases in_or with e|h
     ·cases e
      exact ⟨0,c,rfl,rfl,rfl⟩
     ·exact next h
    | _=>exact next h
   | va c=>exact next (by simpa only [anOf] using h)
   | un=>exact next (by simpa only [anOf] using h)
theorem xN0: ∀ {as:List SD} {vs:List V} {n j:Nat} {p:Addr} {d:D},as[j]? =some (SD.ow d)->vs[j]? =some (V.ref p)->(n+j,p)∈anOf n as vs:=by
 intro as
 induction as with
 | nil=>intro vs n j p d h;simp at h
 | cons a l ih=>
  intro vs n j p d h1 h2
  cases vs with
  | nil=>simp at h2
  | cons v ws=>
   cases j with
   | zero=>
    cases h1
    cases h2
    exact yC2 ..
   | succ j=>
    have q:=ih (vs:=ws) (n:=n+1) (j:=j) h1 h2
    rw [show n+1+j=n+(j+1) from by omega] at q
    cases a with
    | ow c=>cases v <;> first|exact q|exact yC8 _ q
    | va c=>exact (by simpa only [anOf] using q)
    | un=>exact (by simpa only [anOf] using q)
theorem Pre.ok {N:List Str}(p:Pre κ T G H as vs)(hn:as.length<=N.length):
  Ok κ ⟨fun a=>if a∈ownP as vs then none else noT H a,G,T,anOf 0 as vs⟩ (as++yDg (N.length-as.length) SD.un) (L2.start N vs) H G:=by
 have hl:=p.args.length
 have at_: ∀ {i:Nat} {x:SD},(as++yDg (N.length-as.length) SD.un)[i]? =some x->x≠ .un->as[i]? =some x/\i<as.length:=fun {i x} e n=>by
  by_cases hi:i<as.length
  ·rw [yDj hi] at e
   exact ⟨e,hi⟩
  ·rw [yD4 (by omega),List.getElem?_replicate] at e
   split at e
   ·exact absurd (yDc.inj e).symm n
   ·cases e
 have sl: ∀ {i:Nat} {v:V},vs[i]? =some v->(L2.start N vs)[i]? =some (some v):=fun {i v} e=>by
  have hi:=(yC1.mp e).1
  unfold L2.start
  rw [yDj (by rw [yC0];exact hi),yDb,e]
  rfl
 have ls: ∀ {i:Nat} {v:V},i<as.length->(L2.start N vs)[i]? =some (some v)->vs[i]? =some v:=fun {i v} hi e=>by
  have h2:i<vs.length:=by omega
  unfold L2.start at e
  rw [yDj (by rw [yC0];exact h2),yDb,yC6 h2] at e
  rw [yC6 h2]
  have e':=yDc.inj e
  rw [<- yDc.inj e']
 refine ⟨⟨fun a o e _=> ?_,fun a ps e=> ?_,fun a _=>rfl,Same.refl G,p.gh,p.notb,p.tabs,fun a h=> ?_⟩,?_,fun i d e=> ?_,fun i d e=> ?_,fun i j q d e hij h1 h2 h3 h4=> ?_,fun i q hq=> ?_⟩
 ·have e':(if a∈ownP as vs then none else noT H a)=some o:=e
  by_cases ha:a∈ownP as vs
  ·rw [if_pos ha] at e'
   cases e'
  ·rw [if_neg ha] at e'
   exact (xG1 e').1
 ·have e':(if a∈ownP as vs then none else noT H a)=some (.tbl ps):=e
  by_cases ha:a∈ownP as vs
  ·rw [if_pos ha] at e'
   cases e'
  ·rw [if_neg ha] at e'
   exact xRo e'
 ·obtain ⟨h1,h2⟩:=p.lent a h
  show (if a∈ownP as vs then none else noT H a)≠none
  rw [if_neg h2]
  exact h1
 ·unfold L2.start
  rw [yDl,yDl,yC0,yEg,yEg,hl]
 ·obtain ⟨e1,_⟩:=at_ e (by simp)
  obtain ⟨v,e2,e3⟩:=p.args.val e1
  exact ⟨v,sl e2,e3⟩
 ·obtain ⟨e1,_⟩:=at_ e (by simp)
  obtain ⟨q,e2,e3,e4,e5⟩:=p.args.own e1
  exact ⟨q,sl e2,e3,if_pos e5,e4⟩
 ·obtain ⟨e1,l1⟩:=at_ h1 (by simp)
  obtain ⟨e2,l2⟩:=at_ h2 (by simp)
  exact hij (xZm p.nd e1 e2 (ls l1 h3) (ls l2 h4))
 ·obtain ⟨j,d,e1,e2,e3⟩:=xOo hq
  rw [e1,Nat.zero_add]
  exact sl e3
theorem Pre.after {N:List Str}(p:Pre κ T G H as vs){ρ':List SD}{σ':L2.St}{H' G':Hp}
  (o:Ok κ ⟨fun a=>if a∈ownP as vs then none else noT H a,G,T,anOf 0 as vs⟩ ρ' σ' H' G'):After κ T G H as vs (ρ'.take as.length) H' G':=by
 have hb: ∀ {a:Addr},a∉ownP as vs->(if a∈ownP as vs then none else noT H a)=noT H a:=fun {a} h=>if_neg h
 refine ⟨fun a u e n nt=>o.fr.keep a u ((hb n).trans (xDm e nt)) nt,fun a e n=>o.fr.frz a (by show (if a∈ownP as vs then none else noT H a)≠none;rw [hb n];exact e),o.fr.sub,o.fr.gh,o.fr.notb,o.fr.tabs,fun i d q e1 e2=> ?_⟩
 have hi:i<as.length:=(yC1.mp e1).1
 have an:σ'[i]? =some (some (V.ref q)):=by
  have z:=o.anch (0+i) q (xN0 (n:=0) e1 e2)
  rw [Nat.zero_add] at z
  exact z
 rw [List.getElem?_take_of_lt hi]
 cases e3:ρ'[i]? with
 | none=>exact True.intro
 | some x=>
  cases x with
  | un=>exact True.intro
  | va c=>
   obtain ⟨v,h1,h2⟩:=o.val i c e3
   rw [an] at h1
   cases h1
   exact h2
  | ow c=>
   obtain ⟨r,h1,h2,h3,h4⟩:=o.own i c e3
   rw [an] at h1
   cases h1
   exact ⟨h2,h4⟩
theorem Pre.res (p:Pre κ T G H as vs){ρ':List SD}{σ':L2.St}{H' G':Hp}
  (o:Ok κ ⟨fun a=>if a∈ownP as vs then none else noT H a,G,T,anOf 0 as vs⟩ ρ' σ' H' G') (h:RepR κ ⟨fun a=>if a∈ownP as vs then none else noT H a,G,T,anOf 0 as vs⟩ ρ' σ' H' G' r v):xQa κ T H as vs (ρ'.take as.length) H' G' r v:=by
 cases r with
 | un=>exact h.elim
 | va d=>exact h
 | ow d=>
  obtain ⟨q,rfl,h1,h2,h3,h4⟩:=h
  refine ⟨q,rfl,h1,h3,?_,fun i c x c' e1 e2 e3 z=> ?_⟩
  ·by_cases hq:q∈ownP as vs
   ·exact .inr hq
   ·exact .inl ((if_neg hq).symm.trans h2)
  ·have hi:i<as.length:=(yC1.mp e1).1
   rw [List.getElem?_take_of_lt hi] at e3
   refine h4 i c' e3 ?_
   have y:=o.anch (0+i) x (xN0 (n:=0) e1 e2)
   rw [Nat.zero_add] at y
   rw [y,z]
section
variable {P:Program}{w:World}{K:PySem.W.Frag}{f:Addr}{fd:FuncData}{mg:Str->Option Value}{base:Heap}{x qual:Str}{params:Arguments}{body:List Stmt}{scope:Scope}{dvs:List V}{kws:List (Str×V)}
theorem FunD.okC {CX:CXT}{N ps:List Str}{k:Nat}{sp:Sp}(F:FunD K x qual params body scope dvs kws f fd)(S:FnScope N ps scope)(len: ∀ vs H Q E,sp vs H Q E->vs.length=ps.length)
  (hbody: ∀ (cdv:Value) (A:Around) (outer:List Env) (s:Shared) (H:Hp) (vs:List V) (Q:VK) (E:XK),fd.code=cdv->Room k (A.deeper (envOfC qual scope s.heap.objs.size f cdv))->sp vs H Q E->
   ∃ t,PSs (cxOf CX P w K mg base N qual scope f cdv A outer s H E) body t/\t { nx:=fun _ H'=>Q .non H',rt:=Q } (L2.start N vs) H):FnOk P w K mg base CX (k+1) f fd ps sp:=by
 obtain ⟨_,_,_,_,_,_,_,cdv,_,_,rfl,lk,cd,_⟩:=F.ex
 exact fn_of lk cd S len fun A outer s H vs Q E hr q=>hbody cdv A outer s H vs Q E rfl hr q
theorem xYu {κ:Ctx}{A:List Nat}{N ps:List Str}{k:Nat}{s:S}(F:FunD K x qual params body scope dvs kws f fd)(Sc:FnScope N ps scope)
  (hbody: ∀ (cdv:Value) (Ar:Around) (outer:List Env) (s0:Shared) (H:Hp) (E:XK),fd.code=cdv->Room k (Ar.deeper (envOfC qual scope s0.heap.objs.size f cdv))->
   PSs (cxOf (L2N.CX P w) P w K mg base N qual scope f cdv Ar outer s0 H E) body (tS κ A (fun cls d _ H=>E cls d H) s)):FnOk P w K mg base (L2N.CX P w) (k+1) f fd ps (spF κ ps.length (runF A N.length s)):=by
 refine FunD.okC F Sc (fun vs H Q E h=> ?_) (fun cdv Ar outer s0 H vs Q E hcd hr h=>⟨_,hbody cdv Ar outer s0 H E hcd hr,?_⟩)
 ·obtain ⟨T,G,as,hl,p,_⟩:=h
  rw [p.args.length,hl]
 ·obtain ⟨T,G,as,hl,p,q⟩:=h
  have hn:as.length<=N.length:=by
   have z:=congrArg yEl Sc.pre
   rw [yDq] at z
   omega
  unfold runF at q
  by_cases hA:(xP4 0 as).all (A.contains ·)=true
  ·rw [if_pos hA] at q
   refine ⟨⟨fun a=>if a∈ownP as vs then none else noT H a,G,T,anOf 0 as vs⟩,as++yDg (N.length-as.length) SD.un,G,fun z hz=> ?_,p.ok hn,?_⟩
   ·obtain ⟨i,a⟩:=z
    obtain ⟨j,d,e1,e2,e3⟩:=xOo hz
    have m:=xFy (n:=0) e2
    have y:=yDm.mp hA _ m
    rw [e1]
    exact List.contains_iff_mem.mp y
   ·cases e:s (as++yDg (N.length-as.length) SD.un) with
    | ok fl ρ'=>
     rw [e] at q
     cases fl with
     | nx=>exact fun σ' H' G' o s=>q .non H' G' (p.after (N:=N) o) rfl
     | rt r=>exact fun v σ' H' G' o s rv=>q v H' G' (p.after (N:=N) o) (p.res o rv)
     | bk=>exact q.elim
     | ct=>exact q.elim
    | ex x ρ'=>
     rw [e] at q
     exact fun cls d σ' H' G' o s rx=>q cls d H' G' (p.after (N:=N) o) rx
    | no=>
     rw [e] at q
     exact q.elim
  ·rw [if_neg hA] at q
   exact q.elim
theorem yCq (F:FunD K x qual params body scope dvs kws f fd)(Sc:FnScope N ps scope)
  (hbody: ∀ (cdv:Value) (Ar:Around) (outer:List Env) (s0:Shared) (H:Hp) (E:XK),Room k (Ar.deeper (envOfC qual scope s0.heap.objs.size f cdv))->
   PSs (cxOf (L2N.CX P w) P w K mg base N qual scope f cdv Ar outer s0 H E) body (tS κ A (fun cls d _ H=>E cls d H) s)):FnOk P w K mg base (L2N.CX P w) (k+1) f fd ps (spF κ ps.length (runF A N.length s)):=
 xYu F Sc fun cdv Ar outer s0 H E _ hr=>hbody cdv Ar outer s0 H E hr
end
def slots:List Ar->List Nat
 | []=>[]
 | .sl i::l=>i::slots l
 | .va _::l=>slots l
def getA (ρ:List SD):Ar->Option SD
 | .va d=>some (.va d)
 | .sl i=>match ρ[i]? with
  | some (.va d)=>some (.va d)
  | some (.ow d)=>some (.ow d)
  | _=>none
def xFp (ρ:List SD):List Ar->Option (List SD)
 | []=>some []
 | a::l=>(getA ρ a).bind fun x=>(xFp ρ l).bind fun xs=>some (x::xs)
def isOw:Option SD->Bool
 | some (.ow _)=>true
 | _=>false
def xE5:List SD->List Ar->List SD->List SD
 | ρ,.sl i::l,os=>xE5 (if isOw ρ[i]? then ρ.set i (os.headD .un) else ρ) l os.tail
 | ρ,.va _::l,os=>xE5 ρ l os.tail
 | ρ,[],_=>ρ
def xAx (f:List SD->FR)(dd:List D)(n:M (List Ar)):M SD:=n.bind fun as=>fun ρ=>if (slots as).Nodup then match xFp ρ as with
 | none=> .no
 | some xs=>match f (xs++dd.map SD.va) with
  | .ok r outs=> .ok r (xE5 ρ as outs)
  | .ex x outs=> .ex x (xE5 ρ as outs)
  | .no=> .no
 else .no
theorem xD6: ∀ {as:List Ar} {m i:Nat},as[m]? =some (Ar.sl i)->i∈slots as
 | [],_,_,h=>by simp at h
 | .sl j::l,0,i,h=>by cases h;exact yC2 ..
 | .sl j::l,m+1,i,h=>yC8 _ (xD6 (as:=l) (m:=m) h)
 | .va d::l,0,i,h=>by cases h
 | .va d::l,m+1,i,h=>xD6 (as:=l) (m:=m) h
theorem xOt: ∀ {as:List Ar} {ρ outs:List SD} {j:Nat} {x:SD},(slots as).Nodup->(xE5 ρ as outs)[j]? =some x->
  (∃ (m:Nat) (c:D),as[m]? =some (Ar.sl j)/\ρ[j]? =some (SD.ow c)/\x=outs[m]?.getD .un)\/((∀ (m:Nat) (c:D),as[m]? =some (Ar.sl j)->ρ[j]? ≠some (SD.ow c))/\ρ[j]? =some x):=by
 intro as
 induction as with
 | nil=>intro ρ outs j x _ h;exact .inr ⟨fun m c h=>by simp at h,h⟩
 | cons a l ih=>
  intro ρ outs j x nd h
  have tl: ∀ (m:Nat),outs.tail[m]? =outs[m+1]? :=fun m=>by cases outs <;> simp
  cases a with
  | va d=>
   rcases ih (ρ:=ρ) (outs:=outs.tail) nd h with ⟨m,c,e1,e2,e3⟩|⟨e1,e2⟩
   ·exact .inl ⟨m+1,c,e1,e2,by rw [e3,tl]⟩
   ·refine .inr ⟨fun m c h=> ?_,e2⟩
    cases m with
    | zero=>cases h
    | succ m=>exact e1 m c h
  | sl i=>
   have nd':=yDh.mp (show (i::slots l).Nodup from nd)
   have h':(xE5 (if isOw ρ[i]? =true then ρ.set i (outs.headD .un) else ρ) l outs.tail)[j]? =some x:=h
   by_cases hj:j=i
   ·subst hj
    have noj: ∀ (m:Nat),l[m]? ≠some (Ar.sl j):=fun m z=>nd'.1 (xD6 z)
    rcases ih nd'.2 h' with ⟨m,c,e1,_,_⟩|⟨_,e2⟩
    ·exact absurd e1 (noj m)
    ·by_cases ho:isOw ρ[j]? =true
     ·rw [if_pos ho] at e2
      obtain ⟨c,hc⟩: ∃ c,ρ[j]? =some (SD.ow c):=by
       cases e:ρ[j]? with
       | none=>rw [e] at ho;cases ho
       | some y=>
        cases y with
        | ow c=>exact ⟨c,rfl⟩
        | va c=>rw [e] at ho;cases ho
        | un=>rw [e] at ho;cases ho
      rw [yC7 ((yC1.mp hc).1)] at e2
      refine .inl ⟨0,c,rfl,hc,?_⟩
      rw [<- yDc.inj e2]
      cases outs <;> rfl
     ·rw [if_neg ho] at e2
      refine .inr ⟨fun m c _ z=>ho (by rw [z];rfl),e2⟩
   ·have same:(if isOw ρ[i]? =true then ρ.set i (outs.headD .un) else ρ)[j]? =ρ[j]? :=by
     by_cases ho:isOw ρ[i]? =true
     ·rw [if_pos ho,yC9 (Ne.symm hj)]
     ·rw [if_neg ho]
    rcases ih nd'.2 h' with ⟨m,c,e1,e2,e3⟩|⟨e1,e2⟩
    ·exact .inl ⟨m+1,c,e1,same.symm.trans e2,by rw [e3,tl]⟩
    ·refine .inr ⟨fun m c hm=> ?_,same.symm.trans e2⟩
     cases m with
     | zero=>
      cases hm
      exact (hj rfl).elim
     | succ m=>rw [<- same];exact e1 m c hm
theorem xX3: ∀ {as:List Ar} {ρ outs:List SD},(xE5 ρ as outs).length=ρ.length:=by
 intro as
 induction as with
 | nil=>intros;rfl
 | cons a l ih=>
  intro ρ outs
  cases a with
  | va d=>exact ih
  | sl i=>
   refine (ih (ρ:=if isOw ρ[i]? =true then ρ.set i (outs.headD .un) else ρ)).trans ?_
   by_cases ho:isOw ρ[i]? =true
   ·rw [if_pos ho,yDe]
   ·rw [if_neg ho]
section
variable {κ:Ctx}{B:Bas}{ρ:List SD}{σ:L2.St}{H G:Hp}
theorem xI2 (o:Ok κ B ρ σ H G): ∀ {as:List Ar} {xs:List SD} {vs:List V},xFp ρ as=some xs->xFc κ B.T σ G as vs->xBx κ B.T G H xs vs
 | [],xs,vs,h,r=>by
  cases h
  exact r
 | a::l,xs,vs,h,r=>by
  obtain ⟨x,e1,h2⟩:=yDf.mp h
  obtain ⟨ys,e2,e3⟩:=yDf.mp h2
  cases e3
  obtain ⟨v,ws,rfl,r1,r2⟩:=r
  have ih:=xI2 o e2 r2
  cases a with
  | va d=>
   cases e1
   exact ⟨v,ws,rfl,r1,ih⟩
  | sl i=>
   have r1:σ[i]? =some (some v):=r1
   dsimp only [getA] at e1
   cases e:ρ[i]? with
   | none=>rw [e] at e1;cases e1
   | some y=>
    rw [e] at e1
    cases y with
    | un=>cases e1
    | va d=>
     cases e1
     obtain ⟨w',h1,h2⟩:=o.val i d e
     rw [r1] at h1
     cases h1
     exact ⟨v,ws,rfl,h2,ih⟩
    | ow d=>
     cases e1
     obtain ⟨p,h1,h2,h3,h4⟩:=o.own i d e
     rw [r1] at h1
     cases h1
     exact ⟨p,ws,rfl,h2,h4,ih⟩
theorem xLv: ∀ {as:List Ar} {xs:List SD} {m:Nat} {d:D},xFp ρ as=some xs->xs[m]? =some (SD.ow d)-> ∃ i,as[m]? =some (Ar.sl i)/\ρ[i]? =some (SD.ow d)
 | [],xs,m,d,h,e=>by
  cases h
  simp at e
 | a::l,xs,m,d,h,e=>by
  obtain ⟨x,e1,h2⟩:=yDf.mp h
  obtain ⟨ys,e2,e3⟩:=yDf.mp h2
  cases e3
  cases m with
  | succ m=>exact xLv (as:=l) (m:=m) e2 e
  | zero=>
   cases e
   cases a with
   | va c=>cases e1
   | sl i=>
    refine ⟨i,rfl,?_⟩
    dsimp only [getA] at e1
    cases e:ρ[i]? with
    | none=>rw [e] at e1;cases e1
    | some y=>
     rw [e] at e1
     cases y with
     | un=>cases e1
     | va c=>cases e1
     | ow c=>cases e1;rfl
theorem xJ4: ∀ {as:List Ar} {xs:List SD} {m i:Nat} {d:D},xFp ρ as=some xs->as[m]? =some (Ar.sl i)->ρ[i]? =some (SD.ow d)->xs[m]? =some (SD.ow d)
 | [],xs,m,i,d,h,e,_=>by simp at e
 | a::l,xs,m,i,d,h,e,q=>by
  obtain ⟨x,e1,h2⟩:=yDf.mp h
  obtain ⟨ys,e2,e3⟩:=yDf.mp h2
  cases e3
  cases m with
  | succ m=>exact xJ4 (as:=l) (m:=m) e2 e q
  | zero=>
   cases e
   dsimp only [getA] at e1
   rw [q] at e1
   cases e1
   rfl
theorem xGy: ∀ {as:List Ar} {vs:List V} {m i:Nat} {v:V},xFc κ B.T σ G as vs->as[m]? =some (Ar.sl i)->vs[m]? =some v->σ[i]? =some (some v)
 | [],vs,m,i,v,r,e,_=>by simp at e
 | a::l,vs,m,i,v,r,e,q=>by
  obtain ⟨u,ws,rfl,r1,r2⟩:=r
  cases m with
  | succ m=>exact xGy (as:=l) (m:=m) r2 e q
  | zero=>
   cases e
   cases q
   exact r1
theorem xLc: ∀ {as:List Ar} {vs:List V},xFc κ B.T σ G as vs->vs.length=as.length
 | [],vs,r=>by rw [show vs=[] from r] <;> rfl
 | a::l,vs,r=>by
  obtain ⟨u,ws,rfl,r1,r2⟩:=r
  rw [yDa,yDa,xLc r2]
theorem xHv: ∀ {as:List Ar} {xs:List SD},xFp ρ as=some xs->xs.length=as.length
 | [],xs,h=>by cases h;rfl
 | a::l,xs,h=>by
  obtain ⟨x,e1,h2⟩:=yDf.mp h
  obtain ⟨ys,e2,e3⟩:=yDf.mp h2
  cases e3
  rw [yDa,yDa,xHv e2]
theorem xRa (nd:(slots as).Nodup): ∀ {m m' i:Nat},as[m]? =some (Ar.sl i)->as[m']? =some (Ar.sl i)->m=m':=by
 induction as with
 | nil=>intro m m' i h;simp at h
 | cons a l ih=>
  intro m m' i h h'
  have nd2:(slots l).Nodup:=by
   cases a with
   | va d=>exact nd
   | sl j=>exact (yDh.mp (show (j::slots l).Nodup from nd)).2
  cases m with
  | zero=>
   cases m' with
   | zero=>rfl
   | succ m'=>
    cases h
    exact absurd (xD6 (as:=l) (m:=m') h') (yDh.mp (show (i::slots l).Nodup from nd)).1
  | succ m=>
   cases m' with
   | zero=>
    cases h'
    exact absurd (xD6 (as:=l) (m:=m) h) (yDh.mp (show (i::slots l).Nodup from nd)).1
   | succ m'=>rw [ih nd2 (m:=m) (m':=m') h h']
theorem xP1: ∀ {as:List SD} {vs:List V},(∀ (i j:Nat) d e p,i≠j->as[i]? =some (SD.ow d)->as[j]? =some (SD.ow e)->vs[i]? =some (V.ref p)->vs[j]? =some (V.ref p)->False)->(ownP as vs).Nodup:=by
 intro as
 induction as with
 | nil=>intro vs _;exact yDu
 | cons a l ih=>
  intro vs h
  cases vs with
  | nil=>cases a <;> exact yDu
  | cons v ws=>
   have ih':=ih (vs:=ws) fun i j d e p hij h1 h2 h3 h4=>h (i+1) (j+1) d e p (by omega) h1 h2 h3 h4
   cases a with
   | va c=>simpa only [ownP] using ih'
   | un=>simpa only [ownP] using ih'
   | ow c=>
    cases v with
    | ref p=>
     refine yDh.mpr ⟨fun hm=> ?_,ih'⟩
     obtain ⟨i,d,e1,e2⟩:=xBw hm
     exact h 0 (i+1) c d p (by omega) rfl e1 rfl e2
    | _=>exact ih'
theorem xBx.append (hd:RepL κ T G dd dvs): ∀ {as:List SD} {vs:List V},xBx κ T G H as vs->xBx κ T G H (as++dd.map SD.va) (vs++dvs)
 | [],vs,h=>by
  rw [show vs=[] from h]
  have go: ∀ {dd:List D} {dvs:List V},RepL κ T G dd dvs->xBx κ T G H (dd.map SD.va) dvs:=by
   intro dd
   induction dd with
   | nil=>intro dvs r;exact r
   | cons d l ih=>
    intro dvs r
    obtain ⟨v,ws,e,r1,r2⟩:=r
    exact ⟨v,ws,e,r1,ih r2⟩
  exact go hd
 | .va d::l,vs,h=>by
  obtain ⟨v,ws,rfl,h1,h2⟩:=h
  exact ⟨v,ws++dvs,rfl,h1,xBx.append hd h2⟩
 | .ow d::l,vs,h=>by
  obtain ⟨p,ws,rfl,h1,h3,h2⟩:=h
  exact ⟨p,ws++dvs,rfl,h1,h3,xBx.append hd h2⟩
 | .un::l,vs,h=>h.elim
theorem xL3 (o:Ok κ B ρ σ H G)(nd:(slots as).Nodup)(hx:xFp ρ as=some xs)(r:xFc κ B.T σ G as vs)(hd:RepL κ B.T G dd dvs):
  Pre κ B.T G H (xs++dd.map SD.va) (vs++dvs)/\(∀ {outs:List SD} {H' G':Hp},After κ B.T G H (xs++dd.map SD.va) (vs++dvs) outs H' G'->Ok κ B (xE5 ρ as outs) σ H' G'/\
   ∀ {z:SD} {v:V},xQa κ B.T H (xs++dd.map SD.va) (vs++dvs) outs H' G' z v->RepR κ B (xE5 ρ as outs) σ H' G' z v):=by
 have a0:=xI2 o hx r
 have lx:=xHv hx
 have lv:=xLc r
 have noD: ∀ {m:Nat} {d:D},(xs++dd.map SD.va)[m]? =some (SD.ow d)->xs[m]? =some (SD.ow d)/\m<xs.length:=fun {m d} e=>by
  by_cases hm:m<xs.length
  ·rw [yDj hm] at e
   exact ⟨e,hm⟩
  ·rw [yD4 (by omega),yDb] at e
   cases e2:dd[m-xs.length]? with
   | none=>rw [e2] at e;cases e
   | some y=>rw [e2] at e;cases e
 have vat: ∀ {m:Nat} {v:V},m<xs.length->(vs++dvs)[m]? =some v->vs[m]? =some v:=fun {m v} hm e=>by
  rw [yDj (by omega)] at e
  exact e
 have arg: ∀ {m:Nat} {d:D} {p:Addr},(xs++dd.map SD.va)[m]? =some (SD.ow d)->(vs++dvs)[m]? =some (V.ref p)-> ∃ i,as[m]? =some (Ar.sl i)/\ρ[i]? =some (SD.ow d)/\σ[i]? =some (some (V.ref p)):=fun {m d p} e1 e2=>by
  obtain ⟨e3,hm⟩:=noD e1
  obtain ⟨i,e4,e5⟩:=xLv hx e3
  exact ⟨i,e4,e5,xGy r e4 (vat hm e2)⟩
 have slot: ∀ {p:Addr},p∈ownP (xs++dd.map SD.va) (vs++dvs)-> ∃ (m i:Nat) (d:D),as[m]? =some (Ar.sl i)/\ρ[i]? =some (SD.ow d)/\σ[i]? =some (some (V.ref p)):=fun {p} hp=>by
  obtain ⟨m,d,e1,e2⟩:=xBw hp
  obtain ⟨i,h1,h2,h3⟩:=arg e1 e2
  exact ⟨m,i,d,h1,h2,h3⟩
 have pb: ∀ {p:Addr},p∈ownP (xs++dd.map SD.va) (vs++dvs)->B.H p=none:=fun {p} hp=>by
  obtain ⟨m,i,d,h1,h2,h3⟩:=slot hp
  obtain ⟨q,e1,_,e3,_⟩:=o.own i d h2
  rw [h3] at e1
  cases e1
  exact e3
 have nb: ∀ {a:Addr},B.H a≠none->a∉ownP (xs++dd.map SD.va) (vs++dvs):=fun {a} h z=>h (pb z)
 have seen: ∀ {a:Addr},B.H a≠none->noT H a≠none:=fun {a} h=>by
  obtain ⟨u,_,n,e⟩:=o.fr.obj h
  rw [xDm e n]
  exact fun z=>nomatch z
 refine ⟨⟨a0.append hd,xP1 fun i j d e p hij h1 h2 h3 h4=> ?_,o.fr.gh,o.fr.notb,o.fr.tabs,fun a h=>⟨seen (o.fr.lent a h),nb (o.fr.lent a h)⟩⟩,fun {outs H' G'} af=>⟨?_,fun {z v} rz=> ?_⟩⟩
 ·obtain ⟨i',q1,q2,q3⟩:=arg h1 h3
  obtain ⟨j',w1,w2,w3⟩:=arg h2 h4
  have ne:i'≠j':=fun z=>by
   subst z
   exact hij (xRa nd q1 w1)
  exact o.sep i' j' p d e ne q2 w2 q3 w3
 ·-- the state behind it
  have own_in: ∀ {j:Nat} {d:D} {q:Addr},ρ[j]? =some (SD.ow d)->σ[j]? =some (some (V.ref q))->(∀ (m:Nat),as[m]? ≠some (Ar.sl j))->q∉ownP (xs++dd.map SD.va) (vs++dvs):=fun {j d q} h1 h2 h3 hq=>by
   obtain ⟨m,i,c,e1,e2,e3⟩:=slot hq
   have ne:j≠i:=fun z=>h3 m (by rw [z];exact e1)
   exact o.sep j i q d c ne h1 e2 h2 e3
  have vj: ∀ {m j:Nat} {c:D} {p:Addr},as[m]? =some (Ar.sl j)->ρ[j]? =some (SD.ow c)->σ[j]? =some (some (V.ref p))->(xs++dd.map SD.va)[m]? =some (SD.ow c)/\(vs++dvs)[m]? =some (V.ref p):=fun {m j c p} e1 e2 e3=>by
   have h1:=xJ4 hx e1 e2
   have hm:=(yC1.mp h1).1
   refine ⟨by rw [yDj hm];exact h1,?_⟩
   rw [yDj (by omega)]
   have hv:m<vs.length:=by omega
   have y:=xGy r e1 (yC6 hv)
   rw [e3] at y
   rw [yC6 hv,<- yDc.inj (yDc.inj y)]
  refine ⟨⟨fun a u e n=>af.keep a u (o.fr.keep a u e n) (nb (by rw [e];simp)) n,o.fr.nt,fun a e=>(af.frz a (seen e) (nb e)).trans (o.fr.frz a e),o.fr.sub.trans af.sub,af.gh,af.notb,af.tabs,o.fr.lent⟩,by rw [xX3];exact o.len,fun j d e=> ?_,fun j d e=> ?_,fun i j p d e hij h1 h2 h3 h4=> ?_,o.anch⟩
  ·rcases xOt nd e with ⟨m,c,e1,e2,e3⟩|⟨_,e2⟩
   ·obtain ⟨p,q1,_,_,_⟩:=o.own j c e2
    obtain ⟨h1,h2⟩:=vj e1 e2 q1
    have y:=af.outs m c p h1 h2
    cases e4:outs[m]? with
    | none=>simp only [e4] at e3;cases e3
    | some x=>
     rw [e4] at e3 y
     cases (show SD.va d=x from e3)
     exact ⟨_,q1,y⟩
   ·obtain ⟨v,h1,h2⟩:=o.val j d e2
    exact ⟨v,h1,Rep.mono (.of af.sub) d h2⟩
  ·rcases xOt nd e with ⟨m,c,e1,e2,e3⟩|⟨e1,e2⟩
   ·obtain ⟨p,q1,_,q3,_⟩:=o.own j c e2
    obtain ⟨h1,h2⟩:=vj e1 e2 q1
    have y:=af.outs m c p h1 h2
    cases e4:outs[m]? with
    | none=>simp only [e4] at e3;cases e3
    | some x=>
     rw [e4] at e3 y
     cases (show SD.ow d=x from e3)
     exact ⟨p,q1,y.1,q3,y.2⟩
   ·obtain ⟨q,q1,q2,q3,q4⟩:=o.own j d e2
    have hn:=own_in e2 q1 fun m z=>e1 m d z e2
    obtain ⟨u,u1,u2,_⟩:=q4.obj
    exact ⟨q,q1,(af.frz q (by rw [xDm u1 u2];simp) hn).trans q2,q3,q4.mono af.sub ((af.keep q u u1 hn u2).trans u1.symm)⟩
  ·have old: ∀ {m:Nat} {x:D},(xE5 ρ as outs)[m]? =some (SD.ow x)-> ∃ y,ρ[m]? =some (SD.ow y):=fun {m x} z=>by
    rcases xOt nd z with ⟨_,c,_,e2,_⟩|⟨_,e2⟩
    ·exact ⟨c,e2⟩
    ·exact ⟨x,e2⟩
   obtain ⟨y1,w1⟩:=old h1
   obtain ⟨y2,w2⟩:=old h2
   exact o.sep i j p y1 y2 hij w1 w2 h3 h4
 ·cases z with
  | un=>exact rz.elim
  | va d=>exact rz
  | ow d=>
   obtain ⟨q,rfl,h1,h2,h3,h4⟩:=rz
   refine ⟨q,rfl,h1,?_,h2,fun j e hj hs=> ?_⟩
   ·rcases h3 with h3|h3
    ·cases eb:B.H q with
     | none=>rfl
     | some u=>exact absurd h3 (seen (by rw [eb];simp))
    ·exact pb h3
   ·rcases xOt nd hj with ⟨m,c,e1,e2,e3⟩|⟨e1,e2⟩
    ·have h5:=xJ4 hx e1 e2
     have hm:=(yC1.mp h5).1
     have hv:m<vs.length:=by omega
     have y:=xGy r e1 (yC6 hv)
     rw [hs] at y
     have e6:(vs++dvs)[m]? =some (V.ref q):=by
      rw [yDj hv,yC6 hv,<- yDc.inj (yDc.inj y)]
     have e5:(xs++dd.map SD.va)[m]? =some (SD.ow c):=by
      rw [yDj hm]
      exact h5
     cases e4:outs[m]? with
     | none=>simp only [e4] at e3;cases e3
     | some x=>
      rw [e4] at e3
      cases (show SD.ow e=x from e3)
      exact h4 m c q e e5 e6 e4 rfl
    ·obtain ⟨p,q1,q2,q3,q4⟩:=o.own j e e2
     rw [hs] at q1
     cases q1
     rcases h3 with h3|h3
     ·obtain ⟨u,u1,u2,_⟩:=q4.obj
      rw [xDm u1 u2] at h3
      cases h3
     ·obtain ⟨m,i,c,w1,w2,w3⟩:=slot h3
      have ne:j≠i:=fun z=>e1 m e (by rw [z];exact w1) e2
      exact o.sep j i q e c ne e2 w2 hs w3
end
def xKk (X:Cx)(W:WX):Prop:= ∀ σ,PassesAt (L2N.CX X.prog X.w) X σ (fun cls d H=>W cls d σ H)
theorem xC6 (tk:L2N.Takes X W):xKk X W:=fun σ=>L2N.passAt tk σ
theorem xVu:xKk X (fun _ _ _ _=>False):=fun σ _ _ _ _ _ _ c=>by
 obtain ⟨_,_,_,_,_,_,_,_,_,_,_,_,z⟩:=c
 exact z.elim
section
variable {X:Cx}{κ:Ctx}{W:WX}{k N:Nat}{f:Addr}{fd:FuncData}{ps:List Str}{fn:List SD->FR}{dvs:List V}{dd:List D}{ds:List Value}{x:Str}{p pos:Pos}{e:Expr}{es:List Expr}{n:M (List Ar)}{σ:L2.St}{H:Hp}{Q:VK}
theorem xXg (hN:ps.length=N)(hd: ∀ T G,RepL κ T G dd dvs)(hl: ∀ ρ as ρ' xs,n ρ= .ok as ρ'->xFp ρ' as=some xs->xs.length+dd.length=N)(h:tE κ W (xAx fn dd n) σ H Q):
  tCallSD (spF κ N fn) dvs (fun σ cls d H=>W cls d σ H) (tAr κ W n) σ H Q:=by
 obtain ⟨B,ρ,G,o,q⟩:=h
 refine ⟨B,ρ,G,o,?_⟩
 have q1:=Pst.bind q
 cases en:n ρ with
 | ex x ρ'=>
  rw [en] at q1
  exact q1
 | no=>
  rw [en] at q1
  exact q1
 | ok as ρ'=>
  rw [en] at q1
  refine fun H1 G1 o1 s1 vs rs=> ?_
  have q2:=q1 H1 G1 o1 s1
  dsimp only at q2
  by_cases nd:(slots as).Nodup
  ·rw [if_pos nd] at q2
   cases hx:xFp ρ' as with
   | none=>
    rw [hx] at q2
    exact q2.elim
   | some xs=>
    rw [hx] at q2
    dsimp only at q2
    obtain ⟨pre,back⟩:=xL3 o1 nd hx rs (hd B.T G1)
    refine ⟨B.T,G1,xs++dd.map SD.va,?_,pre,?_⟩
    ·rw [yDl,yC0]
     exact hl ρ as ρ' xs en hx
    ·cases ef:fn (xs++dd.map SD.va) with
     | ok r outs=>
      rw [ef] at q2
      exact fun v H2 G2 af rv=>q2 H2 G2 (back af).1 af.sub v ((back af).2 rv)
     | ex x outs=>
      rw [ef] at q2
      exact fun cls d H2 G2 af rx=>q2 cls d H2 G2 (back af).1 af.sub rx
     | no=>
      rw [ef] at q2
      exact q2.elim
  ·rw [if_neg nd] at q2
   exact q2.elim
theorem yBi (F:FnOk X.prog X.w X.K X.mg X.base (L2N.CX X.prog X.w) k f fd ps (spF κ N fn))(hN:ps.length=N)(hr:Room k X.A)(hg:Gl X x)(hm:X.mg x=some (.ref f))(hk:PySem.W.keepIn X.K (.ref f)=true)(hb:Binds X.K fd ps ds)(hv:Vals dvs ds)(hd: ∀ T G,RepL κ T G dd dvs)
  (hx:xKk X W) (ha:PA X (e::es) (tAr κ W n)) (hl: ∀ ρ as ρ' xs,n ρ= .ok as ρ'->xFp ρ' as=some xs->xs.length+dd.length=N) (hdb:(x==("__debug__":Str))=false:=by decide) (he:starEach (e::es) X.env=(false,eval e X.env)::starEach es X.env:=by rfl) (hpl:(backTo pos (starEach es X.env)).any (·.1)=false:=by rfl):
  PE X (.Call (.Name x p) (e::es) [] pos) (tE κ W (xAx fn dd n)):=PE.imp (pe_callSD F hr hg hm hk hb hv hx ha hdb he hpl) fun _ _ _=>xXg hN hd hl
end
def ALen (n:M (List Ar))(k:Nat):Prop:= ∀ ρ as ρ',n ρ= .ok as ρ'->as.length=k
theorem xVp:ALen aNil 0:=fun ρ as ρ' h=>by cases h;rfl
theorem xKh (h:ALen n k):ALen (aVa m n) (k+1):=fun ρ as ρ' e=>by
 unfold aVa M.bind at e
 cases e1:fE m ρ with
 | ok d ρ1=>
  rw [e1] at e
  cases e2:n ρ1 with
  | ok ds ρ2=>
   simp only [e2] at e
   cases e
   rw [yDa,h _ _ _ e2]
  | ex x ρ2=>simp only [e2] at e;cases e
  | no=>simp only [e2] at e;cases e
 | ex x ρ1=>rw [e1] at e;cases e
 | no=>rw [e1] at e;cases e
theorem xAt (h:ALen n k):ALen (aSl i n) (k+1):=fun ρ as ρ' e=>by
 unfold aSl at e
 by_cases hi:xFr ρ[i]? =true
 ·rw [if_pos hi] at e
  unfold M.bind at e
  cases e2:n ρ with
  | ok ds ρ2=>
   simp only [e2] at e
   cases e
   rw [yDa,h _ _ _ e2]
  | ex x ρ2=>simp only [e2] at e;cases e
  | no=>simp only [e2] at e;cases e
 ·rw [if_neg hi] at e
  cases e
theorem xYo {k N:Nat}{dd:List D}(h:ALen n k)(hk:k+dd.length=N): ∀ ρ as ρ' xs,n ρ= .ok as ρ'->xFp ρ' as=some xs->xs.length+dd.length=N:=fun ρ as ρ' xs e hx=>by
 rw [xHv hx,h _ _ _ e]
 exact hk
def ItD (κ:Ctx)(T:Pd)(G0:Hp)(J:It)(l:List D):Prop:= ∀ (i:Nat) (B:Bas) (ρ:List SD) (σ:L2.St) (H G:Hp),B.T=T->Ok κ B ρ σ H G->Same G0 G->
 (i<l.length->J.go i H)/\(l.length<=i->J.stop i H)/\ ∀ d,l[i]? =some d-> ∀ x H',J.yld i H x H'-> ∃ G',Ok κ B ρ σ H' G'/\Same G G'/\Same H H'/\Rep κ T G' d x
def tI (κ:Ctx)(W:WX)(m:M (List D)):TI:=fun σ H R=> ∃ B ρ G,Ok κ B ρ σ H G/\Pst κ W B σ G (m ρ) fun l ρ' H' G'=> ∀ J,ItD κ B.T G' J l->R J H'
theorem PI.imp (h:PI X tg e t)(f: ∀ σ H R,t' σ H R->t σ H R):PI X tg e t':=⟨fun pins s σ H R I q=>h.run pins s σ H R I (f _ _ _ q)⟩
theorem PI.or (h:PI X tg e t)(h':PI X tg e t'):PI X tg e (fun σ H R=>t σ H R\/t' σ H R):=⟨fun pins s σ H R I q=>by
 rcases q with q|q
 ·exact h.run pins s σ H R I q
 ·exact h'.run pins s σ H R I q⟩
def seqM:D->M (List D)
 | .lst _ l=>M.ret l
 | .tup l=>M.ret l
 | .str s=>M.ret (s.cps.toList.map fun c=>D.str ⟨#[c]⟩)
 | _=>M.no
def iSeq (m:M SD):M (List D):=(fE m).bind seqM
theorem Rep.seqL (s:Same G H)(h:Rep κ T G (.lst b l) v): ∃ a vs,v= .ref a/\SqL κ.K G a vs/\SqL κ.K H a vs/\RepL κ T G l vs:=by
 obtain ⟨a,vs,rfl,⟨h1,_⟩,h2⟩:=h
 exact ⟨a,vs,rfl,SqL.of h1,SqL.of (s _ _ h1),h2⟩
theorem xOz (hs:SqL κ.K G0 a vs)(r:RepL κ T G0 l vs):ItD κ T G0 (Itl κ.K a) l:=by
 intro i B ρ σ H G hT o s
 have hH:SqL κ.K H a vs:=xOi (s.trans o.fr.gh) hs
 refine ⟨fun hi=> ?_,fun hi=>⟨vs,hH,by rw [r.length];exact hi⟩,fun d hd x H' y=> ?_⟩
 ·obtain ⟨v,h1,h2⟩:=r.get (yC6 hi)
  exact ⟨vs,v,hH,h1⟩
 ·obtain ⟨rfl,y⟩:=y
  obtain ⟨v,h1,h2⟩:=r.get hd
  have z:=y vs hH
  rw [h1] at z
  cases z
  exact ⟨G,o,Same.refl G,Same.refl _,Rep.mono (.of s) d h2⟩
theorem xTv (hs:xFw κ.K G0 a vs)(r:RepL κ T G0 l vs):ItD κ T G0 (Itt κ.K a) l:=by
 intro i B ρ σ H G hT o s
 have hH:SqT κ.K H a vs:=hs.sq (s.trans o.fr.gh)
 refine ⟨fun hi=> ?_,fun hi=>⟨vs,hH,by rw [r.length];exact hi⟩,fun d hd x H' y=> ?_⟩
 ·obtain ⟨v,h1,h2⟩:=r.get (yC6 hi)
  exact ⟨vs,v,hH,h1⟩
 ·obtain ⟨rfl,y⟩:=y
  obtain ⟨v,h1,h2⟩:=r.get hd
  have z:=y vs hH
  rw [h1] at z
  cases z
  exact ⟨G,o,Same.refl G,Same.refl _,Rep.mono (.of s) d h2⟩
def rngD (lo:Int)(n:Nat):List D:=(List.range n).map fun i=> .int (lo+(i:Nat))
theorem xXn {κ:Ctx}{T:Pd}{G0:Hp}{lo:Int}{n:Nat}:ItD κ T G0 (Itr lo n) (rngD lo n):=by
 intro i B ρ σ H G hT o s
 have hl:(rngD lo n).length=n:=by simp [rngD]
 refine ⟨fun hi=>by rw [hl] at hi;exact hi,fun hi=>by rw [hl] at hi;exact hi,fun d hd x H' y=> ?_⟩
 obtain ⟨rfl,rfl⟩:=y
 unfold rngD at hd
 rw [yDb] at hd
 obtain ⟨j,e1,e2⟩:=yC4.mp hd
 have hj:j=i:=by
  have q:=yC1.mp e1
  obtain ⟨q1,q2⟩:=q
  rw [List.getElem_range] at q2
  exact q2.symm
 subst hj
 subst e2
 exact ⟨G,o,Same.refl G,Same.refl _,rfl⟩
section
variable {X:Cx}{κ:Ctx}{W:WX}{e:Expr}{m:M SD}{tg:Expr}
theorem xS7:ItD κ T G0 (Its s) (s.cps.toList.map fun c=>D.str ⟨#[c]⟩):=by
 intro i B ρ σ H G hT o k
 have len:(s.cps.toList.map fun c=>D.str ⟨#[c]⟩).length=s.cps.size:=by simp
 refine ⟨fun hi=>by rw [len] at hi;exact hi,fun hi=>by rw [len] at hi;exact hi,fun d hd x H' y=> ?_⟩
 obtain ⟨rfl,c,hc,rfl⟩:=y
 rw [yDb,Array.getElem?_toList,hc] at hd
 cases hd
 exact ⟨G,o,Same.refl G,Same.refl _,rfl⟩
theorem xDy (hK:X.K=κ.K)(h:PE X e (tE κ W m)):PI X tg e (tI κ W (iSeq m)):=by
 refine PI.imp (PI.or (pi_list h) (PI.or (pi_tup h) (pi_str h))) fun σ H R ⟨B,ρ,G,o,q⟩=> ?_
 have q1:=Pst.bind q
 cases em:fE m ρ with
 | ex x ρ'=>
  refine .inl (xBs (k:=fun _ _ _ _=>False) o ?_ fun _ _ _ _ _ _ z=>z.elim)
  rw [em]
  rw [em] at q1
  exact q1
 | no=>
  rw [em] at q1
  exact q1.elim
 | ok d ρ'=>
  cases d with
  | lst b l=>
   refine .inl (xBs (k:=fun d ρ' H' G'=>d= .lst b l/\Pst κ W B σ G' (seqM d ρ') fun l ρ' H' G'=> ∀ J,ItD κ B.T G' J l->R J H') o ?_ fun d ρ1 H1 G1 o1 s1 z v r=> ?_)
   ·rw [em] at q1 ⊢
    exact fun H' G' o' s'=>⟨rfl,q1 H' G' o' s'⟩
   ·obtain ⟨rfl,z⟩:=z
    obtain ⟨a,vs,rfl,h1,h2,h3⟩:=r.seqL o1.fr.gh
    refine ⟨a,rfl,⟨vs,hK ▸ h2⟩,?_⟩
    rw [hK]
    exact Pst.ret z o1 _ (xOz h1 h3)
  | tup l=>
   refine .inr (.inl (xBs (k:=fun d ρ' H' G'=>d= .tup l/\Pst κ W B σ G' (seqM d ρ') fun l ρ' H' G'=> ∀ J,ItD κ B.T G' J l->R J H') o ?_ fun d ρ1 H1 G1 o1 s1 z v r=> ?_))
   ·rw [em] at q1 ⊢
    exact fun H' G' o' s'=>⟨rfl,q1 H' G' o' s'⟩
   ·obtain ⟨rfl,z⟩:=z
    obtain ⟨a,vs,rfl,h1,h3⟩:=r
    refine ⟨a,rfl,⟨vs,hK ▸ h1.sq o1.fr.gh⟩,?_⟩
    rw [hK]
    exact Pst.ret z o1 _ (xTv h1 h3)
  | str x=>
   refine .inr (.inr (xBs (k:=fun d ρ' H' G'=>d= .str x/\Pst κ W B σ G' (seqM d ρ') fun l ρ' H' G'=> ∀ J,ItD κ B.T G' J l->R J H') o ?_ fun d ρ1 H1 G1 o1 s1 z v r=> ?_))
   ·rw [em] at q1 ⊢
    exact fun H' G' o' s'=>⟨rfl,q1 H' G' o' s'⟩
   ·obtain ⟨rfl,z⟩:=z
    cases (show v=V.str x from r)
    exact ⟨x,rfl,Pst.ret z o1 _ xS7⟩
  | _=>
   refine .inl (xBs (k:=fun _ _ _ _=>False) o ?_ fun _ _ _ _ _ _ z=>z.elim)
   rw [em] at q1 ⊢
   exact fun H' G' o' s'=>q1 H' G' o' s'
def rng1M:List D->M (List D)
 | [.int j]=>if -(2 ^ 62)<=j/\j<2 ^ 62 then M.ret (rngD 0 j.toNat) else M.no
 | _=>M.no
def rng2M:List D->M (List D)
 | [.int i,.int j]=>if -(2 ^ 62)<=i/\i<2 ^ 62/\ -(2 ^ 62)<=j/\j<2 ^ 62 then M.ret (rngD i (j-i).toNat) else M.no
 | _=>M.no
def iRg1 (n:M (List D)):M (List D):=n.bind rng1M
def iRg2 (n:M (List D)):M (List D):=n.bind rng2M
theorem xI1 (hg:Gl X "range")(hm:X.mg "range"=none)(ha:PA X [a] (tA κ W n))(hs:starEach [a] X.env=[(false,eval a X.env)]:=by rfl):PI X tg (.Call (.Name "range" p) [a] [] pos) (tI κ W (iRg1 n)):=by
 refine PI.imp (pi_range1 hg hm ha hs) fun σ H R ⟨B,ρ,G,o,q⟩=>⟨B,ρ,G,o,Pst.mono (Pst.bind q) fun ds ρ' H' G' o' s q' vs rs=> ?_⟩
 match ds,q',rs with
 | [.int j],q',rs=>
  obtain ⟨v,ws,rfl,rfl,rfl⟩:=rs
  have q2:Pst κ W B σ G' ((if -(2 ^ 62)<=j/\j<2 ^ 62 then M.ret (rngD 0 j.toNat) else M.no) ρ') fun l ρ' H' G'=> ∀ J,ItD κ B.T G' J l->R J H':=q'
  by_cases hj: -(2 ^ 62)<=j/\j<2 ^ 62
  ·rw [if_pos hj] at q2
   exact ⟨j,rfl,hj.1,hj.2,Pst.ret q2 o' _ xXn⟩
  ·rw [if_neg hj] at q2
   exact q2.elim
end
def forL (tg:D->List SD->Option (List SD))(b:S):List D->S
 | [],ρ=> .ok .nx ρ
 | d::l,ρ=>match tg d ρ with
  | none=> .no
  | some ρ1=>match b ρ1 with
   | .ok .nx ρ2=>forL tg b l ρ2
   | .ok .ct ρ2=>forL tg b l ρ2
   | .ok .bk ρ2=> .ok .nx ρ2
   | r=>r
def sFor (m:M (List D))(tg:D->List SD->Option (List SD))(b:S):S:=m.bind fun l=>forL tg b l
section
variable {X:Cx}{κ:Ctx}{A vs:List Nat}{W:WX}{e:Expr}{tg:Expr}{pos:Pos}
theorem xMe {g:D->List SD->Option (List SD)}(hp:PassesOwn (model X.prog X.w) X.A X.env X.xe)(hc:X.calm=true)(hi:PI X tg e (tI κ W m))(hg:PG X tg (tG κ A vs g))(hb:PSs X body (tS κ A W b))
  (hs: ∀ x,foldedSetIterable e X.env x=pure x:=by intro _;rfl):PS X (.For tg e body [] pos) (tS κ A W (sFor m g b)):=by
 refine PS.imp (ps_for hp hc hi hg hb hs) fun D σ H ⟨B,ρ,G,a,o,q⟩=>⟨B,ρ,G,o,Pst.mono (PstS.bind q) fun l ρ0 H0 G0 o0 s0 q0 J hJ=> ?_⟩
 refine ⟨fun i n σ' H'=>n=l.length-i/\i<=l.length/\ ∃ ρ' G',Ok κ B ρ' σ' H' G'/\Same G0 G'/\PstS κ W B G' (forL g b (l.drop i) ρ') D,⟨l.length,by simp,yDs _,ρ0,G0,o0,Same.refl _,q0⟩,?_⟩
 rintro i n σ1 H1 ⟨rfl,hi,ρ1,G1,o1,s1,q1⟩
 obtain ⟨j1,j2,j3⟩:=hJ i B ρ1 σ1 H1 G1 rfl o1 s1
 by_cases hlt:i<l.length
 ·refine .inr ⟨j1 hlt,fun σ' H'=>i+1<=l.length/\ ∃ ρ' G',Ok κ B ρ' σ' H' G'/\Same G0 G'/\PstS κ W B G' (forL g b (l.drop (i+1)) ρ') D,fun σ' H' ⟨h1,h2⟩=>⟨l.length-(i+1),by omega,rfl,h1,h2⟩,fun x H2 y=> ?_⟩
  obtain ⟨G2,o2,s2,_,r2⟩:=j3 l[i] (yC6 hlt) x H2 y
  rw [yDv hlt] at q1
  have q1':PstS κ W B G1 (match g l[i] ρ1 with
   | none=> .no
   | some ρ1=>match b ρ1 with
    | .ok .nx ρ2=>forL g b (l.drop (i+1)) ρ2
    | .ok .ct ρ2=>forL g b (l.drop (i+1)) ρ2
    | .ok .bk ρ2=> .ok .nx ρ2
    | r=>r) D:=q1
  cases eg:g l[i] ρ1 with
  | none=>
   rw [eg] at q1'
   exact q1'.elim
  | some ρ2=>
   rw [eg] at q1'
   dsimp only at q1'
   refine ⟨B,ρ1,G2,l[i],ρ2,a,o2,r2,eg,fun σ3 H3 G3 o3 s3 _=>⟨B,ρ2,G3,a,o3,?_⟩⟩
   have s13:=s2.trans s3
   cases eb:b ρ2 with
   | ok f ρ3=>
    rw [eb] at q1'
    cases f with
    | nx=>exact fun σ4 H4 G4 o4 s4=>⟨hlt,ρ3,G4,o4,(s1.trans s13).trans s4,PstS.mono q1' (s13.trans s4) (fun _ _ z=>z) rfl rfl rfl⟩
    | ct=>exact fun σ4 H4 G4 o4 s4=>⟨hlt,ρ3,G4,o4,(s1.trans s13).trans s4,PstS.mono q1' (s13.trans s4) (fun _ _ z=>z) rfl rfl rfl⟩
    | bk=>exact fun σ4 H4 G4 o4 s4=>q1' σ4 H4 G4 o4 (s13.trans s4)
    | rt r=>exact fun v σ4 H4 G4 o4 s4 rv=>q1' v σ4 H4 G4 o4 (s13.trans s4) rv
   | ex x ρ3=>
    rw [eb] at q1'
    exact fun cls d σ4 H4 G4 o4 s4 rx=>q1' cls d σ4 H4 G4 o4 (s13.trans s4) rx
   | no=>
    rw [eb] at q1'
    exact q1'.elim
 ·have ei:l.drop i=[]:=yD7.mpr (by omega)
  rw [ei] at q1
  exact .inl ⟨j2 (by omega),q1 σ1 H1 G1 o1 (Same.refl _)⟩
def xTo (c:M Bool)(b:S):Nat->S
 | 0,_=> .no
 | n+1,ρ=>match c ρ with
  | .ok true ρ1=>match b ρ1 with
   | .ok .nx ρ2=>xTo c b n ρ2
   | .ok .ct ρ2=>xTo c b n ρ2
   | .ok .bk ρ2=> .ok .nx ρ2
   | r=>r
  | .ok false ρ1=> .ok .nx ρ1
  | .ex x ρ1=> .ex x ρ1
  | .no=> .no
def sWhile (fuel:List SD->Nat)(c:M Bool)(b:S):S:=fun ρ=>xTo c b (fuel ρ) ρ
end
def xA3 (ρ:List SD):List Nat->List SD
 | []=>ρ
 | v::vs=>(xA3 ρ vs).set v .un
def unw (ρ ρ':List SD):List Nat->List SD
 | []=>ρ'
 | v::vs=>(unw ρ ρ' vs).set v (ρ.getD v .un)
theorem xMd (ρ:List SD): ∀ vs:List Nat,(xA3 ρ vs).length=ρ.length
 | []=>rfl
 | v::vs=>by
  show ((xA3 ρ vs).set v .un).length=ρ.length
  rw [yDe,xMd ρ vs]
theorem xJs (ρ ρ':List SD): ∀ vs:List Nat,(unw ρ ρ' vs).length=ρ'.length
 | []=>rfl
 | v::vs=>by
  show ((unw ρ ρ' vs).set v _).length=ρ'.length
  rw [yDe,xJs ρ ρ' vs]
theorem xCe {ρ:List SD}{j:Nat}{x:SD}: ∀ {vs:List Nat},(xA3 ρ vs)[j]? =some x->x≠ .un->j∉vs/\ρ[j]? =some x
 | [],h,_=>⟨by simp,h⟩
 | v::vs,h,n=>by
  have h':((xA3 ρ vs).set v .un)[j]? =some x:=h
  by_cases hj:v=j
  ·subst hj
   have hl:v<(xA3 ρ vs).length:=by
    have y:=(yC1.mp h').1
    rw [yDe] at y
    exact y
   rw [yC7 hl] at h'
   exact absurd (yDc.inj h').symm n
  ·rw [yC9 hj] at h'
   obtain ⟨a,b⟩:=xCe h' n
   refine ⟨fun z=> ?_,b⟩
   have in_or:=yDo.mp z;rcases in_or with z|z
   ·exact hj z.symm
   ·exact a z
theorem xKz {ρ:List SD}{j:Nat}: ∀ {vs:List Nat},j∉vs->(xA3 ρ vs)[j]? =ρ[j]?
 | [],_=>rfl
 | v::vs,h=>by
  show ((xA3 ρ vs).set v .un)[j]? =ρ[j]?
  rw [yC9 (fun z=>h (by rw [z];exact yC2 ..)),xKz fun z=>h (yC8 _ z)]
theorem xGn (hl:ρ'.length=ρ.length): ∀ {vs:List Nat},j∈vs->(unw ρ ρ' vs)[j]? =ρ[j]?
 | v::vs,h=>by
  show ((unw ρ ρ' vs).set v (ρ.getD v .un))[j]? =ρ[j]?
  by_cases hj:v=j
  ·subst hj
   by_cases hv:v<ρ.length
   ·rw [yC7 (by rw [xJs,hl];exact hv),List.getD_eq_getElem?_getD,yC6 hv]
    rfl
   ·rw [yDx.mpr (by rw [yDe,xJs,hl];omega),yDx.mpr (by omega)]
  ·rw [yC9 hj]
   refine xGn hl ?_
   have in_or:=yDo.mp h;rcases in_or with z|z
   ·exact absurd z.symm hj
   ·exact z
theorem xEb: ∀ {vs:List Nat},j∉vs->(unw ρ ρ' vs)[j]? =ρ'[j]?
 | [],_=>rfl
 | v::vs,h=>by
  show ((unw ρ ρ' vs).set v _)[j]? =ρ'[j]?
  rw [yC9 (fun z=>h (by rw [z];exact yC2 ..)),xEb fun z=>h (yC8 _ z)]
def lcL (vs:List Nat)(tg:D->List SD->Option (List SD))(tt:M Bool)(te:M SD):List D->List D->M (List D)
 | [],acc,ρ=> .ok acc ρ
 | d::l,acc,ρ=>match tg d (xA3 ρ vs) with
  | none=> .no
  | some ρ1=>match tt ρ1 with
   | .ok false ρ2=>lcL vs tg tt te l acc (unw ρ ρ2 vs)
   | .ok true ρ2=>match fE te ρ2 with
    | .ok y ρ3=>if acc.length<1000000 then lcL vs tg tt te l (acc++[y]) (unw ρ ρ3 vs) else .no
    | _=> .no
   | _=> .no
def mLc (it:M (List D))(vs:List Nat)(tg:D->List SD->Option (List SD))(tt:M Bool)(te:M SD):M SD:=it.bind fun l=>(lcL vs tg tt te l []).bind fun acc=>M.ret (.ow (.lst false acc))
open Classical in
noncomputable def hidS (ρ:List SD) (σ:L2.St) (H:Hp):Hp:=fun a=>if ∃ (j:Nat) (d:D),ρ[j]? =some (SD.ow d)/\σ[j]? =some (some (V.ref a)) then none else noT H a
section
variable {κ:Ctx}{B:Bas}{ρ ρ':List SD}{σ σ':L2.St}{H G H' G':Hp}
theorem xSm {j:Nat}(h1:ρ[j]? =some (SD.ow d))(h2:σ[j]? =some (some (V.ref a))):hidS ρ σ H a=none:=if_pos ⟨j,d,h1,h2⟩
theorem xDr (h: ∀ (j:Nat) (d:D),ρ[j]? =some (SD.ow d)->σ[j]? ≠some (some (V.ref a))):hidS ρ σ H a=noT H a:=if_neg fun ⟨j,d,h1,h2⟩=>h j d h1 h2
theorem xKu (h:hidS ρ σ H a=none):(∃ (j:Nat) (d:D),ρ[j]? =some (SD.ow d)/\σ[j]? =some (some (V.ref a)))\/noT H a=none:=by
 by_cases z: ∃ (j:Nat) (d:D),ρ[j]? =some (SD.ow d)/\σ[j]? =some (some (V.ref a))
 ·exact .inl z
 ·refine .inr ?_
  have e:hidS ρ σ H a=noT H a:=if_neg z
  rw [<- e,h]
theorem xFh {a:Addr}{u:HO}(h:hidS ρ σ H a=some u):H a=some u/\ ∀ ps,u≠ .tbl ps:=by
 unfold hidS at h
 split at h
 ·cases h
 ·exact xG1 h
noncomputable def Bas.at_ (B:Bas) (ρ:List SD) (σ:L2.St) (H G:Hp) (vs:List Nat):Bas:=⟨hidS (xA3 ρ vs) σ H,G,B.T,[]⟩
theorem xGt (k:Frame κ B H G)(h:B.H a≠none):noT H a≠none:=by
 obtain ⟨u,_,n,e⟩:=k.obj h
 rw [xDm e n]
 exact fun z=>nomatch z
theorem xS4 (k:Frame κ B H G)(h:B.H a≠none):noT H a=H a:=by
 obtain ⟨u,_,n,e⟩:=k.obj h
 rw [xDm e n,e]
theorem Ok.rebase (o:Ok κ B ρ σ H G)(vs:List Nat):Ok κ (B.at_ ρ σ H G vs) (xA3 ρ vs) (wipe σ vs) H G:=by
 have sl: ∀ {j:Nat},j∉vs->(wipe σ vs)[j]? =σ[j]? :=fun h=>wipe_out h
 refine ⟨⟨fun a u e _=>(xFh e).1,fun a ps e=>(xFh e).2 ps rfl,fun a _=>rfl,Same.refl G,o.fr.gh,o.fr.notb,o.fr.tabs,fun a h=> ?_⟩,by rw [wipe_length,xMd];exact o.len,fun j d e=> ?_,fun j d e=> ?_,fun i j p d e hij h1 h2 h3 h4=> ?_,fun i p h=>nomatch h⟩
 ·show hidS (xA3 ρ vs) σ H a≠none
  have hb:=o.fr.lent a h
  rw [xDr fun j d e1 e2=> ?_]
  ·exact xGt o.fr hb
  ·obtain ⟨_,e3⟩:=xCe e1 (by simp)
   obtain ⟨q,q1,_,q3,_⟩:=o.own j d e3
   rw [e2] at q1
   cases q1
   exact hb q3
 ·obtain ⟨n,e1⟩:=xCe e (by simp)
  rw [sl n]
  exact o.val j d e1
 ·obtain ⟨n,e1⟩:=xCe e (by simp)
  obtain ⟨p,h1,h2,h3,h4⟩:=o.own j d e1
  exact ⟨p,(sl n).trans h1,h2,xSm (by rw [xKz n];exact e1) h1,h4⟩
 ·obtain ⟨n1,e1⟩:=xCe h1 (by simp)
  obtain ⟨n2,e2⟩:=xCe h2 (by simp)
  rw [sl n1] at h3
  rw [sl n2] at h4
  exact o.sep i j p d e hij e1 e2 h3 h4
theorem Ok.back (o:Ok κ B ρ σ H G)(o2:Ok κ (B.at_ ρ σ H G vs) ρ' σ' H' G')(hw:wipe σ' vs=wipe σ vs):Ok κ B (unw ρ ρ' vs) σ H' G':=by
 have sl: ∀ {j:Nat},j∉vs->σ'[j]? =σ[j]? :=fun {j} h=>by
  have z:(wipe σ' vs)[j]? =(wipe σ vs)[j]? :=by rw [hw]
  rwa [wipe_out h,wipe_out h] at z
 have hlen:ρ'.length=ρ.length:=by
  have a:=congrArg yEl hw
  rw [wipe_length,wipe_length] at a
  rw [<- o2.len,<- o.len,a]
 have seen: ∀ {a:Addr},B.H a≠none->hidS (xA3 ρ vs) σ H a=H a:=fun {a} h=>(xS4 o.fr h) ▸ xDr fun j d e1 e2=>by
  obtain ⟨_,e3⟩:=xCe e1 (by simp)
  obtain ⟨q,q1,_,q3,_⟩:=o.own j d e3
  rw [e2] at q1
  cases q1
  exact h q3
 have bnone: ∀ {a:Addr},hidS (xA3 ρ vs) σ H a=none->B.H a=none:=fun {a} h=>by
  rcases xKu h with ⟨j,d,e1,e2⟩|h
  ·obtain ⟨_,e3⟩:=xCe e1 (by simp)
   obtain ⟨q,q1,_,q3,_⟩:=o.own j d e3
   rw [e2] at q1
   cases q1
   exact q3
  ·exact yC3 fun z=>xGt o.fr z h
 have hid: ∀ {j:Nat} {d:D} {p:Addr},j∈vs->ρ[j]? =some (SD.ow d)->σ[j]? =some (some (V.ref p))->hidS (xA3 ρ vs) σ H p=H p:=fun {j d p} hj e1 e2=>by
  have z:hidS (xA3 ρ vs) σ H p=noT H p:=xDr fun i c z1 z2=>by
   obtain ⟨n,z3⟩:=xCe z1 (by simp)
   have ne:i≠j:=fun q=>n (by rw [q];exact hj)
   exact o.sep i j p c d ne z3 e1 z2 e2
  obtain ⟨q,q1,_,_,q4⟩:=o.own j d e1
  rw [e2] at q1
  cases q1
  obtain ⟨u,u1,u2,_⟩:=q4.obj
  rw [z,xDm u1 u2,u1]
 refine ⟨⟨fun a u e n=> ?_,o.fr.nt,fun a e=> ?_,o.fr.sub.trans o2.fr.sub,o2.fr.gh,o2.fr.notb,o2.fr.tabs,o.fr.lent⟩,by rw [xJs,hlen];exact o.len,fun j d e=> ?_,fun j d e=> ?_,fun i j p d e hij h1 h2 h3 h4=> ?_,o.anch⟩
 ·have h1:=o.fr.keep a u e n
  exact o2.fr.keep a u ((seen (by rw [e];simp)).trans h1) n
 ·refine (o2.fr.frz a ?_).trans (o.fr.frz a e)
  show hidS (xA3 ρ vs) σ H a≠none
  rw [seen e]
  exact o.fr.there a e
 ·by_cases hj:j∈vs
  ·rw [xGn hlen hj] at e
   obtain ⟨v,h1,h2⟩:=o.val j d e
   exact ⟨v,h1,Rep.mono (.of o2.fr.sub) d h2⟩
  ·rw [xEb hj] at e
   obtain ⟨v,h1,h2⟩:=o2.val j d e
   exact ⟨v,(sl hj).symm.trans h1,h2⟩
 ·by_cases hj:j∈vs
  ·rw [xGn hlen hj] at e
   obtain ⟨p,h1,h2,h3,h4⟩:=o.own j d e
   obtain ⟨u,u1,u2,_⟩:=h4.obj
   have hs:=hid hj e h1
   have k:=o2.fr.keep p u (hs.trans u1) u2
   have g:=o2.fr.frz p (by show hidS (xA3 ρ vs) σ H p≠none;rw [hs,u1];simp)
   exact ⟨p,h1,g.trans h2,h3,h4.mono o2.fr.sub (k.trans u1.symm)⟩
  ·rw [xEb hj] at e
   obtain ⟨p,h1,h2,h3,h4⟩:=o2.own j d e
   exact ⟨p,(sl hj).symm.trans h1,h2,bnone h3,h4⟩
 ·have cross: ∀ {i j:Nat} {d e:D} {p:Addr},i∈vs->j∉vs->ρ[i]? =some (SD.ow d)->ρ'[j]? =some (SD.ow e)->σ[i]? =some (some (V.ref p))->σ[j]? =some (some (V.ref p))->False:=fun {i j d e p} hi hj e1 e2 e3 e4=>by
   obtain ⟨q,q1,_,q3,_⟩:=o2.own j e e2
   rw [sl hj,e4] at q1
   cases q1
   have hs:=hid hi e1 e3
   obtain ⟨q',w1,_,_,w4⟩:=o.own i d e1
   rw [e3] at w1
   cases w1
   obtain ⟨u,u1,_⟩:=w4.obj
   have q3:hidS (xA3 ρ vs) σ H p=none:=q3
   rw [hs,u1] at q3
   cases q3
  by_cases hi:i∈vs <;> by_cases hj:j∈vs
  ·rw [xGn hlen hi] at h1
   rw [xGn hlen hj] at h2
   exact o.sep i j p d e hij h1 h2 h3 h4
  ·rw [xGn hlen hi] at h1
   rw [xEb hj] at h2
   exact cross hi hj h1 h2 h3 h4
  ·rw [xEb hi] at h1
   rw [xGn hlen hj] at h2
   exact cross hj hi h2 h1 h4 h3
  ·rw [xEb hi] at h1
   rw [xEb hj] at h2
   exact o2.sep i j p d e hij h1 h2 ((sl hi).trans h3) ((sl hj).trans h4)
theorem Ok.grow (o:Ok κ B ρ σ H G)(hp:H p=some (.lst xs))(hg:G p=none)(hb:B.H p=none)(na: ∀ (j:Nat) (d:D),ρ[j]? =some (SD.ow d)->σ[j]? ≠some (some (V.ref p))):Ok κ B ρ σ (upd H p (.lst ys)) G:=by
 have nb: ∀ a,B.H a≠none->a≠p:=fun a z y=>z (by rw [y];exact hb)
 refine ⟨⟨fun a u e n=>by rw [upd_ne (nb a (by rw [e];simp))];exact o.fr.keep a u e n,o.fr.nt,o.fr.frz,o.fr.sub,fun a u e=> ?_,o.fr.notb,fun t ht=> ?_,o.fr.lent⟩,o.len,o.val,fun j d e=> ?_,o.sep,o.anch⟩
 ·have n:a≠p:=fun y=>by
   rw [y,hg] at e
   cases e
  rw [upd_ne n]
  exact o.fr.gh a u e
 ·obtain ⟨ps,t1,t2,t3⟩:=o.fr.tabs t ht
  have n1:t.1≠p:=fun y=>by
   rw [y,hp] at t1
   cases t1
  refine ⟨ps,by rw [upd_ne n1];exact t1,t2,fun pos cv hc=> ?_⟩
  obtain ⟨c,c1,c2⟩:=t3 pos cv hc
  have n2:c≠p:=fun y=>by
   rw [y,hp] at c2
   unfold LamX.CodeO at c2
   cases c2
  exact ⟨c,c1,by rw [upd_ne n2];exact c2⟩
 ·obtain ⟨q,q1,q2,q3,q4⟩:=o.own j d e
  have nq:q≠p:=fun y=>na j d e (by rw [q1,y])
  exact ⟨q,q1,q2,q3,q4.mono (Same.refl _) (upd_ne nq)⟩
theorem Pst.sub {α:Type}{W:WX}{B:Bas}{σ:L2.St}{G G2:Hp}{r:Rs α}{k:α->List SD->Hp->Hp->Prop}(h:Pst κ W B σ G r k)(s:Same G G2):Pst κ W B σ G2 r k:=by
 cases r with
 | ok a ρ'=>exact fun H' G' o e=>h H' G' o (s.trans e)
 | ex x ρ'=>exact fun cls d H' G' o e q=>h cls d H' G' o (s.trans e) q
 | no=>exact h
theorem xNn: ∀ {us:List Nat},j∈us->(wipe τ us)[j]? =if j<τ.length then some none else none
 | u::us,hm=>by
  show ((wipe τ us).set u none)[j]? =_
  by_cases hu:u=j
  ·subst hu
   by_cases hl:u<τ.length
   ·rw [yC7 (by rw [wipe_length];exact hl),if_pos hl]
   ·rw [yDx.mpr (by rw [yDe,wipe_length];omega),if_neg hl]
  ·rw [yC9 hu]
   refine xNn ?_
   have in_or:=yDo.mp hm;rcases in_or with q|q
   ·exact absurd q.symm hu
   ·exact q
theorem xL1 (τ:L2.St)(vs:List Nat):wipe (wipe τ vs) vs=wipe τ vs:=by
 apply yEq
 intro j
 by_cases hj:j∈vs
 ·rw [xNn hj,xNn hj,wipe_length]
 ·rw [wipe_out hj]
def lcE (acc:List D):M SD:=M.ret (SD.ow (.lst false acc))
structure LcI (κ:Ctx)(W:WX)(B:Bas)(σ:L2.St)(G0:Hp)(p:Addr)(vs:List Nat)(g:D->List SD->Option (List SD))(tt:M Bool)(te:M SD)(Q:VK)(l acc:List D)(ρ:List SD)(H G:Hp)(ws:List V):Prop where
 ok:Ok κ B ρ σ H G
 sub:Same G0 G
 gn:G p=none
 bn:B.H p=none
 at_:H p=some (.lst ws)
 rep:RepL κ B.T G acc ws
 na: ∀ (j:Nat) (d:D),ρ[j]? =some (SD.ow d)->σ[j]? ≠some (some (V.ref p))
 go:Pst κ W B σ G ((lcL vs g tt te l acc).bind lcE ρ) fun r ρ' H' G'=> ∀ v,RepR κ B ρ' σ H' G' r v->Q v H'
section
variable {W:WX}{G0:Hp}{p:Addr}{vs:List Nat}{g:D->List SD->Option (List SD)}{tt:M Bool}{te:M SD}{Q:VK}{l acc:List D}{ws:List V}
theorem LcI.seen (I:LcI κ W B σ G0 p vs g tt te Q l acc ρ H G ws):hidS (xA3 ρ vs) σ H p=some (.lst ws):=by
 rw [xDr fun j d e1 e2=>I.na j d (xCe e1 (by simp)).2 e2]
 exact xDm I.at_ fun ps z=>by cases z
theorem LcI.turned (I:LcI κ W B σ G0 p vs g tt te Q l acc ρ H G ws)(o4:Ok κ (B.at_ ρ σ H G vs) ρ3 σ3 H4 G4)(hw:wipe σ3 vs=wipe σ vs):
  Ok κ B (unw ρ ρ3 vs) σ H4 G4/\Same G G4/\G4 p=none/\H4 p=some (.lst ws)/\ ∀ (j:Nat) (d:D),(unw ρ ρ3 vs)[j]? =some (SD.ow d)->σ[j]? ≠some (some (V.ref p)):=by
 have hD:=I.seen
 have hlen:ρ3.length=ρ.length:=by
  have a:=congrArg yEl hw
  rw [wipe_length,wipe_length] at a
  rw [<- o4.len,<- I.ok.len,a]
 refine ⟨I.ok.back o4 hw,o4.fr.sub,(o4.fr.frz p (by show hidS (xA3 ρ vs) σ H p≠none;rw [hD];simp)).trans I.gn,o4.fr.keep p _ hD (fun ps z=>by cases z),fun j d e1 e2=> ?_⟩
 by_cases hj:j∈vs
 ·rw [xGn hlen hj] at e1
  exact I.na j d e1 e2
 ·rw [xEb hj] at e1
  obtain ⟨p',w1,w2,w3,w4⟩:=o4.own j d e1
  have sl:σ3[j]? =σ[j]? :=by
   have a:(wipe σ3 vs)[j]? =(wipe σ vs)[j]? :=by rw [hw]
   rwa [wipe_out hj,wipe_out hj] at a
  rw [sl,e2] at w1
  cases w1
  have w3:hidS (xA3 ρ vs) σ H p=none:=w3
  rw [hD] at w3
  cases w3
end
theorem yB2 {W W0:WX}{A vs:List Nat}{it:M (List D)}{g:D->List SD->Option (List SD)}{tt:M Bool}{te:M SD}{Q:VK}(h:tE κ W (mLc it vs g tt te) σ H Q):tLc (tI κ W it) (tG κ A vs g) (tT κ W0 tt) (tE κ W0 te) vs σ H Q:=by
 obtain ⟨B,ρ,G,o,q⟩:=h
 refine ⟨B,ρ,G,o,Pst.mono (Pst.bind q) fun l ρ0 H0 G0 o0 s0 q0 J hJ p hp=> ?_⟩
 refine ⟨fun i n H1=>n=l.length-i/\i<=l.length/\ ∃ acc ρ1 G1 ws,LcI κ W B σ G0 p vs g tt te Q (l.drop i) acc ρ1 H1 G1 ws,
  ⟨l.length,by simp,yDs _,[],ρ0,G0,[],⟨o0.allocOwn hp,Same.refl _,o0.gnone hp,o0.bnone hp,upd_same,rfl,fun j d e=>o0.apart hp j d e,q0⟩⟩,?_⟩
 rintro i n H1 ⟨rfl,hi,acc,ρ1,G1,ws,I⟩
 obtain ⟨j1,j2,_⟩:=hJ i B ρ1 σ H1 G1 rfl I.ok I.sub
 by_cases hlt:i<l.length
 ·refine .inr ⟨j1 hlt,fun H'=>i+1<=l.length/\ ∃ acc ρ1 G1 ws,LcI κ W B σ G0 p vs g tt te Q (l.drop (i+1)) acc ρ1 H' G1 ws,fun H' ⟨h1,h2⟩=>⟨l.length-(i+1),by omega,rfl,h1,h2⟩,fun x H2 y=> ?_⟩
  have ob:=I.ok.rebase vs
  obtain ⟨_,_,jb⟩:=hJ i _ _ _ H1 G1 (show (B.at_ ρ1 σ H1 G1 vs).T=B.T from rfl) ob I.sub
  obtain ⟨G2,o2,s2,sH,r2⟩:=jb l[i] (yC6 hlt) x H2 y
  have q1:=I.go
  rw [yDv hlt] at q1
  have fail:lcL vs g tt te (l[i]::l.drop (i+1)) acc ρ1= .no->False:=fun z=>by
   unfold M.bind at q1
   rw [z] at q1
   exact q1.elim
  cases eg:g l[i] (xA3 ρ1 vs) with
  | none=>exact (fail (by rw [lcL];simp only [eg])).elim
  | some ρ2=>
   refine ⟨B.at_ ρ1 σ H1 G1 vs,xA3 ρ1 vs,G2,l[i],ρ2,(fun z (hz:z∈([]:List (Nat×Addr)))=>by cases hz),o2,r2,eg,fun σ3 H3 G3 o3 s3 hw=> ?_⟩
   refine ⟨hw.trans (xL1 σ vs),?_⟩
   have hw':wipe σ3 vs=wipe σ vs:=hw.trans (xL1 σ vs)
   cases et:tt ρ2 with
   | ex x0 ρ3=>exact (fail (by rw [lcL];simp only [eg,et])).elim
   | no=>exact (fail (by rw [lcL];simp only [eg,et])).elim
   | ok k ρ3=>
    refine ⟨_,ρ2,G3,o3,?_⟩
    rw [et]
    intro H4 G4 o4 s4
    cases k with
    | false=>
     obtain ⟨t1,t2,t3,t4,t5⟩:=I.turned o4 hw'
     refine iteF ⟨hlt,acc,unw ρ1 ρ3 vs,G4,ws,⟨t1,I.sub.trans t2,t3,I.bn,t4,RepL.mono (.of t2) acc I.rep,t5,Pst.sub ?_ t2⟩⟩
     have z:lcL vs g tt te (l[i]::l.drop (i+1)) acc ρ1=lcL vs g tt te (l.drop (i+1)) acc (unw ρ1 ρ3 vs):=by
      rw [lcL]
      simp only [eg,et]
     unfold M.bind at q1 ⊢
     rw [z] at q1
     exact q1
    | true=>
     refine iteT ?_
     cases ee:fE te ρ3 with
     | ex x0 ρ5=>exact (fail (by rw [lcL];simp only [eg,et,ee])).elim
     | no=>exact (fail (by rw [lcL];simp only [eg,et,ee])).elim
     | ok d ρ5=>
      by_cases hl:acc.length<1000000
      ·refine xBs (k:=fun d' ρ' _ _=>d'=d/\ρ'=ρ5) o4 (by rw [ee];exact fun _ _ _ _=>⟨rfl,rfl⟩) fun d' ρ' H6 G6 o6 s6 e6 v rv=> ?_
       obtain ⟨rfl,rfl⟩:=e6
       obtain ⟨t1,t2,t3,t4,t5⟩:=I.turned o6 hw'
       have rA:=RepL.mono (.of t2) acc I.rep
       refine ⟨ws,t4,by rw [rA.length];exact Nat.lt_of_lt_of_le hl (by rw [sizeLine_eq];decide),hlt,acc++[d'],unw ρ1 ρ' vs,G6,ws++[v],⟨t1.grow t4 t3 I.bn t5,I.sub.trans t2,t3,I.bn,upd_same,rA.append (RepL.one rv),t5,Pst.sub ?_ t2⟩⟩
       have z:lcL vs g tt te (l[i]::l.drop (i+1)) acc ρ1=lcL vs g tt te (l.drop (i+1)) (acc++[d']) (unw ρ1 ρ' vs):=by
        rw [lcL]
        simp only [eg,et,ee,if_pos hl]
       unfold M.bind at q1 ⊢
       rw [z] at q1
       exact q1
      ·exact (fail (by rw [lcL];simp only [eg,et,ee,if_neg hl])).elim
 ·have ei:l.drop i=[]:=yD7.mpr (by omega)
  refine .inl ⟨j2 (by omega),?_⟩
  have q1:=I.go
  rw [ei] at q1
  have q2:Pst κ W B σ G1 (Rs.ok (SD.ow (.lst false acc)) ρ1) fun r ρ' H' G'=> ∀ v,RepR κ B ρ' σ H' G' r v->Q v H':=q1
  exact q2 H1 G1 I.ok (Same.refl _) _ ⟨p,rfl,I.gn,I.bn,⟨ws,I.at_,I.rep⟩,I.na⟩
end
abbrev Wno:WX:=fun _ _ _ _=>False
section
variable {X:Cx}{κ:Ctx}{A:List Nat}{W:WX}{iter elt tg:Expr}{ifs:List Expr}{scope:Scope}{own:List (Str×Nat)}{pos:Pos}{it:M (List D)}{g:D->List SD->Option (List SD)}{tt:M Bool}{te:M SD}
theorem xDv:PTs X [] (tT κ W (M.ret true)):=⟨fun pins s σ H Q I ⟨B,ρ,G,o,q⟩=>pts_nil.run pins s σ H Q I (Pst.ret q o)⟩
theorem xWe (h:PT X c (tT κ W t)):PTs X [c] (tT κ W t):=pts_one h
theorem e_lc (hc:X.calm=true)(hN:X.N.Nodup)(hi:PI X tg iter (tI κ W it))(ok:BlkOk X.N X.env.scope scope own)
  (hg: ∀ (s:Shared) (H:Hp) (C:Addr) (cl:List (Str×Addr)) (fp:List Addr),PG (X.blk s H scope (compEnvC scope cl C X.env) fp) tg (tG κ A (own.map (·.2)) g))
  (ht: ∀ (s:Shared) (H:Hp) (C:Addr) (cl:List (Str×Addr)) (fp:List Addr),PTs (X.blk s H scope (compEnvC scope cl C X.env) fp) ifs (tT κ Wno tt))
  (he: ∀ (s:Shared) (H:Hp) (C:Addr) (cl:List (Str×Addr)) (fp:List Addr),PE (X.blk s H scope (compEnvC scope cl C X.env) fp) elt (tE κ Wno te)) (hs: ∀ x,foldedSetIterable iter X.env x=pure x:=by intro _;rfl):
  PE X (.ListComp elt [⟨tg,iter,ifs,0⟩] scope pos) (tE κ W (mLc it (own.map (·.2)) g tt te)):=PE.imp (pe_lc hc hN hi ok hg ht he hs) fun _ _ _=>yB2
theorem xQ5 (hc:X.calm=true)(hN:X.N.Nodup)(hy:X.N[i]? =some y)(hyl:X.env.scope.names.lookup y=some .local)
  (hsw:swapsWith (.ListComp elt [⟨tg,iter,ifs,0⟩] scope pos) (some (.Name y py)) spos.line X.env=pure true) (hi:PI X tg iter (tI κ W it)) (ok:BlkOk X.N X.env.scope scope own)
  (hg: ∀ (s:Shared) (H:Hp) (C:Addr) (cl:List (Str×Addr)) (fp:List Addr),PG (X.blk s H scope (compEnvC scope cl C X.env) fp) tg (tG κ A (own.map (·.2)) g))
  (ht: ∀ (s:Shared) (H:Hp) (C:Addr) (cl:List (Str×Addr)) (fp:List Addr),PTs (X.blk s H scope (compEnvC scope cl C X.env) fp) ifs (tT κ Wno tt))
  (he: ∀ (s:Shared) (H:Hp) (C:Addr) (cl:List (Str×Addr)) (fp:List Addr),PE (X.blk s H scope (compEnvC scope cl C X.env) fp) elt (tE κ Wno te)) (n:A.contains i=false:=by rfl) (hs: ∀ x,foldedSetIterable iter X.env x=pure x:=by intro _;rfl):
  PS X (.Assign [.Name y py] (.ListComp elt [⟨tg,iter,ifs,0⟩] scope pos) spos) (tS κ A W (sSet i (mLc it (own.map (·.2)) g tt te))):=by
 refine PS.imp (ps_setLc hc hN hy hyl hsw hi ok hg ht he hs) fun D σ H ⟨B,ρ,G,a,o,q⟩=> ?_
 refine yB2 ⟨B,ρ,G,o,Pst.mono (PstS.bind q) fun r ρ' H' G' o' s q' v rv=> ?_⟩
 exact q' _ H' G' (o'.set i rv (xC3 a n)) (Same.refl G')
end
def mulG (i j:Int):Prop:=i.natAbs.log2+j.natAbs.log2<1000000
instance (i j:Int):Decidable (mulG i j):=by unfold mulG;exact inferInstance
def divG (i j:Int):Prop:=j≠0/\(j.natAbs.log2<9000\/i.natAbs.log2<=j.natAbs.log2+4000)
instance (i j:Int):Decidable (divG i j):=by unfold divG;exact inferInstance
def powG (i j:Int):Prop:=0<=j/\j<=1000000/\i.natAbs<2 ^ 64
instance (i j:Int):Decidable (powG i j):=by unfold powG;exact inferInstance
theorem divG.slow (h:divG i j):Builtin.divisionGoesByPylong i j=false:=by
 rcases h.2 with h2|h2
 ·exact PyProof.noPylong_of_log2 h2
 ·show (decide ((if j==0 then 0 else j.natAbs.log2 / 30+1) > 300)&&decide ((if i==0 then 0 else i.natAbs.log2 / 30+1) > (if j==0 then 0 else j.natAbs.log2 / 30+1)+150))=false
  have hj:(j==0)=false:=by simpa using h.1
  rw [hj]
  have z:(if i==0 then 0 else i.natAbs.log2 / 30+1)<=i.natAbs.log2 / 30+1:=by split <;> omega
  have y:(if false=true then 0 else j.natAbs.log2 / 30+1)=j.natAbs.log2 / 30+1:=rfl
  rw [y,Bool.and_eq_false_iff]
  right
  refine decide_eq_false ?_
  have:i.natAbs.log2 / 30<=(j.natAbs.log2+4000) / 30:=Nat.div_le_div_right h2
  omega
def subD:D->D->Option SD
 | .int i,.int j=>some (.va (.int (i-j)))
 | _,_=>none
def mulD:D->D->Option SD
 | .int i,.int j=>if mulG i j then some (.va (.int (i*j))) else none
 | _,_=>none
def modD:D->D->Option SD
 | .int i,.int j=>if j=0 then none else some (.va (.int (i.fmod j)))
 | _,_=>none
def divD:D->D->Option SD
 | .int i,.int j=>if divG i j then some (.va (.int (i.fdiv j))) else none
 | _,_=>none
def powD:D->D->Option SD
 | .int i,.int j=>if powG i j then some (.va (.int (i ^ j.toNat))) else none
 | _,_=>none
def ltD:D->D->Option SD
 | .int i,.int j=>some (.va (.bl (decide (i<j))))
 | _,_=>none
def leD:D->D->Option SD
 | .int i,.int j=>some (.va (.bl (decide (i<=j))))
 | _,_=>none
def gtD:D->D->Option SD
 | .int i,.int j=>some (.va (.bl (decide (j<i))))
 | _,_=>none
def geD:D->D->Option SD
 | .int i,.int j=>some (.va (.bl (decide (j<=i))))
 | _,_=>none
section
variable {κ:Ctx}{X:Cx}
theorem xX7 {C:Int->Int->Prop}{gv:Int->Int->V}{g:D->D->Option SD}{gd:Int->Int->D}(hc: ∀ d e z,g d e=some z-> ∃ i j,d= .int i/\e= .int j/\C i j/\z= .va (gd i j))(hr: ∀ i j T G,Rep κ T G (gd i j) (gv i j)):OpD κ (rI C gv) g:=by
 intro B ρ σ H G d e x y z Q o r1 r2 hz q
 obtain ⟨i,j,rfl,rfl,c,rfl⟩:=hc d e z hz
 exact ⟨i,j,r1,r2,c,q _ H G o (Same.refl G) (hr i j _ _)⟩
theorem xLq {gv:Int->Int->V}{g:D->D->Option SD}{gd:Int->Int->D}(hc: ∀ d e z,g d e=some z-> ∃ i j,d= .int i/\e= .int j/\z= .va (gd i j))(hr: ∀ i j T G,Rep κ T G (gd i j) (gv i j)):OpD κ (rI0 gv) g:=by
 intro B ρ σ H G d e x y z Q o r1 r2 hz q
 obtain ⟨i,j,rfl,rfl,rfl⟩:=hc d e z hz
 exact ⟨i,j,r1,r2,q _ H G o (Same.refl G) (hr i j _ _)⟩
theorem xL7:OpD κ (rI0 fun i j=> .int (i-j)) subD:=xLq (gd:=fun i j=> .int (i-j)) (fun d e z h=>by
 cases d <;> cases e <;> first|(cases h;exact ⟨_,_,rfl,rfl,rfl⟩)|cases h) fun _ _ _ _=>rfl
theorem xSx:OpD κ (rI0 fun i j=> .bl (decide (i<j))) ltD:=xLq (gd:=fun i j=> .bl (decide (i<j))) (fun d e z h=>by
 cases d <;> cases e <;> first|(cases h;exact ⟨_,_,rfl,rfl,rfl⟩)|cases h) fun _ _ _ _=>rfl
theorem xHa:OpD κ (rI0 fun i j=> .bl (decide (i<=j))) leD:=xLq (gd:=fun i j=> .bl (decide (i<=j))) (fun d e z h=>by
 cases d <;> cases e <;> first|(cases h;exact ⟨_,_,rfl,rfl,rfl⟩)|cases h) fun _ _ _ _=>rfl
theorem xPo:OpD κ (rI0 fun i j=> .bl (decide (j<i))) gtD:=xLq (gd:=fun i j=> .bl (decide (j<i))) (fun d e z h=>by
 cases d <;> cases e <;> first|(cases h;exact ⟨_,_,rfl,rfl,rfl⟩)|cases h) fun _ _ _ _=>rfl
theorem yCs:OpD κ (rI0 fun i j=> .bl (decide (j<=i))) geD:=xLq (gd:=fun i j=> .bl (decide (j<=i))) (fun d e z h=>by
 cases d <;> cases e <;> first|(cases h;exact ⟨_,_,rfl,rfl,rfl⟩)|cases h) fun _ _ _ _=>rfl
theorem xLw:OpD κ (rI (fun _ j=>j≠0) fun i j=> .int (i.fmod j)) modD:=xX7 (gd:=fun i j=> .int (i.fmod j)) (fun d e z h=>by
 cases d <;> cases e <;> first|(unfold modD at h;dsimp only at h;split at h;cases h;(cases h;exact ⟨_,_,rfl,rfl,by assumption,rfl⟩))|cases h) fun _ _ _ _=>rfl
theorem xTp:OpR X (binaryOp .FloorDiv) (rI divG fun i j=> .int (i.fdiv j)):=opI fun _ _ _ _ _ _ _ hc q=>floordiv_int hc.1 q (.inl hc.slow)
theorem xW3:OpD κ (rI divG fun i j=> .int (i.fdiv j)) divD:=xX7 (gd:=fun i j=> .int (i.fdiv j)) (fun d e z h=>by
 cases d <;> cases e <;> first|(unfold divD at h;dsimp only at h;split at h;(cases h;exact ⟨_,_,rfl,rfl,by assumption,rfl⟩);cases h)|cases h) fun _ _ _ _=>rfl
theorem xE1:OpD κ (rI CPow fun i j=> .int (i ^ j.toNat)) powD:=xX7 (gd:=fun i j=> .int (i ^ j.toNat)) (fun d e z h=>by
 cases d <;> cases e <;> first|(unfold powD at h;dsimp only at h;split at h;(cases h;exact ⟨_,_,rfl,rfl,by assumption,rfl⟩);cases h)|cases h) fun _ _ _ _=>rfl
def negD:D->Option SD
 | .int i=>some (.va (.int (-i)))
 | _=>none
theorem xOd:UnD κ (rU fun i=> .int (-i)) negD:=by
 intro B ρ σ H G d x z Q o r hz q
 cases d with
 | int i=>
  cases hz
  exact ⟨i,r,q _ H G o (Same.refl G) rfl⟩
 | _=>cases hz
def addD:D->D->Option SD
 | .int i,.int j=>some (.va (.int (i+j)))
 | .str x,.str y=>if x.length+y.length<=1000000 then some (.va (.str (x++y))) else none
 | .tup [],.tup _=>none
 | .tup (a::l),.tup m=>if (a::l).length+m.length<=1000000 then some (.va (.tup (a::l++m))) else none
 | .lst _ l,.lst _ m=>if l.length+m.length<=1000000 then some (.ow (.lst false (l++m))) else none
 | _,_=>none
theorem xEc (h:n<=1000000):n<=sizeLine:=by rw [sizeLine_eq];omega
theorem yBr:OpD κ (fun x y H Q=>rI0 (fun i j=> .int (i+j)) x y H Q\/((fun x y H Q=> ∃ i j,x= .str i/\y= .str j/\i.length+j.length<=sizeLine/\Q (.str (i++j)) H) x y H Q\/(rCatT κ.K x y H Q\/rCat x y H Q))) addD:=by
 intro B ρ σ H G d e x y z Q o r1 r2 hz q
 cases d with
 | int i=>
  cases e with
  | int j=>
   cases hz
   exact .inl ⟨i,j,r1,r2,q _ H G o (Same.refl G) rfl⟩
  | _=>cases hz
 | str a=>
  cases e with
  | str b=>
   have hz':(if a.length+b.length<=1000000 then some (SD.va (.str (a++b))) else none)=some z:=hz
   split at hz'
   ·cases hz'
    exact .inr (.inl ⟨a,b,r1,r2,xEc (by assumption),q _ H G o (Same.refl G) rfl⟩)
   ·cases hz'
  | _=>cases hz
 | tup l=>
  cases e with
  | tup m=>
   cases l with
   | nil=>cases hz
   | cons a l=>
    have hz':(if (a::l).length+m.length<=1000000 then some (SD.va (.tup (a::l++m))) else none)=some z:=hz
    split at hz'
    ·cases hz'
     obtain ⟨p,vs,rfl,h1,h2⟩:=r1
     obtain ⟨p',ws,rfl,h3,h4⟩:=r2
     have l1:=h2.length
     have l2:=h4.length
     refine .inr (.inr (.inl ⟨p,p',vs,ws,rfl,rfl,h1.sq o.fr.gh,h3.sq o.fr.gh,(fun n=>by (rw [n] at l1;cases l1)),xEc (by rw [l1,l2];assumption),fun n=> ?_,fun n t ht=> ?_⟩))
     ·have em:m=[]:=by
       cases m with
       | nil=>rfl
       | cons b m=>rw [n] at l2;cases l2
      subst em
      refine q _ H G o (Same.refl G) ?_
      rw [yD3]
      exact ⟨p,vs,rfl,h1,h2⟩
     ·have hg:=o.gnone ht
      exact q _ _ _ (o.alloc ht fun _ z=>by cases z) (Same.upd hg) ⟨t,vs++ws,rfl,.inl upd_same,RepL.append (RepL.mono (.of (Same.upd hg)) _ h2) (RepL.mono (.of (Same.upd hg)) _ h4)⟩
    ·cases hz'
  | _=>cases l <;> cases hz
 | lst b l=>
  cases e with
  | lst c m=>
   have hz':(if l.length+m.length<=1000000 then some (SD.ow (.lst false (l++m))) else none)=some z:=hz
   split at hz'
   ·cases hz'
    obtain ⟨p,vs,rfl,⟨h1,_⟩,h2⟩:=r1
    obtain ⟨p',ws,rfl,⟨h3,_⟩,h4⟩:=r2
    refine .inr (.inr (.inr ⟨p,p',vs,ws,rfl,rfl,o.fr.gh _ _ h1,o.fr.gh _ _ h3,xEc (by rw [h2.length,h4.length];assumption),fun t ht=> ?_⟩))
    exact q _ _ _ (o.allocOwn ht) (Same.refl G) (o.newOwn ht ⟨_,upd_same,h2.append h4⟩)
   ·cases hz'
  | _=>cases hz
 | _=>cases hz
theorem xXt:OpR X (binaryOp .Add) (fun x y H Q=>rI0 (fun i j=> .int (i+j)) x y H Q\/((fun x y H Q=> ∃ i j,x= .str i/\y= .str j/\i.length+j.length<=sizeLine/\Q (.str (i++j)) H) x y H Q\/(rCatT X.K x y H Q\/rCat x y H Q))):=
 op_add.or (op_add_str.or (op_catT.or op_cat))
mutual
def D.py:D->PyData
 | .bl b=> .bool b
 | .int i=> .int i
 | .str s=> .str s
 | .tup l=> .tuple (pyL l)
 | .lst _ l=> .list (pyL l)
 | _=> .none
def pyL:List D->List PyData
 | []=>[]
 | d::l=>D.py d::pyL l
end
mutual
def D.pl:Nat->D->Bool
 | _,.non=>true
 | _,.bl _=>true
 | _,.int _=>true
 | _,.str s=>PyData.strOk s
 | 0,.tup _=>false
 | n+1,.tup l=>plL n l
 | 0,.lst _ _=>false
 | n+1,.lst _ l=>plL n l
 | _,_=>false
def plL:Nat->List D->Bool
 | _,[]=>true
 | n,d::l=>D.pl n d&&plL n l
end
def peq (d e:D):Bool:=PyData.eqv d.py e.py
end
set_option maxHeartbeats 200000
section
variable {κ:Ctx}{X:Cx}
mutual
theorem xMc: ∀ (d:D) {n:Nat},d.pl n=true->d.py.canLay0=true/\d.py.depth<=n
 | .non,n,_=>⟨rfl,yDs _⟩
 | .bl b,n,_=>⟨rfl,yDs _⟩
 | .int i,n,_=>⟨rfl,yDs _⟩
 | .str s,n,h=>⟨by cases n <;> exact h,yDs _⟩
 | .tup l,0,h=>by cases h
 | .tup l,n+1,h=>by
  obtain ⟨h1,h2⟩:=xM5 l (n:=n) h
  exact ⟨h1,Nat.succ_le_succ h2⟩
 | .lst b l,0,h=>by cases h
 | .lst b l,n+1,h=>by
  obtain ⟨h1,h2⟩:=xM5 l (n:=n) h
  exact ⟨h1,Nat.succ_le_succ h2⟩
 | .dk b l,n,h=>by cases n <;> cases h
 | .ins b c l,n,h=>by cases n <;> cases h
 | .ty s,n,h=>by cases n <;> cases h
 | .adr a,n,h=>by cases n <;> cases h
 | .scr l,n,h=>by cases n <;> cases h
 | .nv _ _ _,n,h=>by cases n <;> cases h
theorem xM5: ∀ (l:List D) {n:Nat},plL n l=true->PyData.canLayAll0 (pyL l)=true/\PyData.depthAll (pyL l)<=n
 | [],n,_=>⟨rfl,yDs _⟩
 | d::l,n,h=>by
  have h':(D.pl n d&&plL n l)=true:=h
  rw [yC5] at h'
  obtain ⟨a1,a2⟩:=xMc d h'.1
  obtain ⟨b1,b2⟩:=xM5 l h'.2
  refine ⟨?_,Nat.max_le.mpr ⟨a2,b2⟩⟩
  show (d.py.canLay0&&PyData.canLayAll0 (pyL l))=true
  rw [a1,b1] <;> rfl
end
mutual
theorem xGh (s:Same G H): ∀ (d:D) {n:Nat} {v:V},d.pl n=true->Rep κ T G d v->Dp κ.K H v d.py
 | .non,n,v,_,h=>by cases (show v=V.non from h);exact .non
 | .bl b,n,v,_,h=>by cases (show v=V.bl b from h);exact .bl b
 | .int i,n,v,_,h=>by cases (show v=V.int i from h);exact .int i
 | .str x,n,v,_,h=>by cases (show v=V.str x from h);exact .str x
 | .tup l,0,v,q,h=>by cases q
 | .tup l,n+1,v,q,h=>by
  obtain ⟨a,vs,rfl,h1,h2⟩:=h
  exact .tup (h1.sq s) (xMg s l (n:=n) q h2)
 | .lst b l,0,v,q,h=>by cases q
 | .lst b l,n+1,v,q,h=>by
  obtain ⟨a,vs,rfl,⟨h1,_⟩,h2⟩:=h
  exact .lst (SqL.of (s _ _ h1)) (xMg s l (n:=n) q h2)
 | .dk b l,n,v,q,h=>by cases n <;> cases q
 | .ins b c l,n,v,q,h=>by cases n <;> cases q
 | .ty x,n,v,q,h=>by cases n <;> cases q
 | .adr a,n,v,q,h=>by cases n <;> cases q
 | .scr l,n,v,q,h=>by cases n <;> cases q
 | .nv _ _ _,n,v,q,h=>by cases n <;> cases q
theorem xMg (s:Same G H): ∀ (l:List D) {n:Nat} {vs:List V},plL n l=true->RepL κ T G l vs->DpAll κ.K H vs (pyL l)
 | [],n,vs,_,h=>by rw [show vs=[] from h];exact .nil
 | d::l,n,vs,q,h=>by
  have q':(D.pl n d&&plL n l)=true:=q
  rw [yC5] at q'
  obtain ⟨v,ws,rfl,h1,h2⟩:=h
  exact .cons (xGh s d q'.1 h1) (xMg s l q'.2 h2)
end
def eqD (d e:D):Option SD:=if d.pl 60&&e.pl 60 then some (.va (.bl (peq d e))) else none
def neD (d e:D):Option SD:=if d.pl 60&&e.pl 60 then some (.va (.bl (!peq d e))) else none
theorem xDn {d:D}(h:d.pl 60=true):SeqAt.shaped d.py=true:=by
 obtain ⟨h1,h2⟩:=xMc d h
 unfold SeqAt.shaped
 rw [h1,decide_eq_true (by omega)]
 rfl
theorem xD0:OpD κ (rEqD κ.K) eqD:=by
 intro B ρ σ H G d e x y z Q o r1 r2 hz q
 unfold eqD at hz
 split at hz
 ·rename_i hp
  cases hz
  rw [yC5] at hp
  exact ⟨d.py,e.py,xGh o.fr.gh d hp.1 r1,xGh o.fr.gh e hp.2 r2,xDn hp.1,xDn hp.2,q _ H G o (Same.refl G) rfl⟩
 ·cases hz
theorem xQd:OpD κ (rNeD κ.K) neD:=by
 intro B ρ σ H G d e x y z Q o r1 r2 hz q
 unfold neD at hz
 split at hz
 ·rename_i hp
  cases hz
  rw [yC5] at hp
  exact ⟨d.py,e.py,xGh o.fr.gh d hp.1 r1,xGh o.fr.gh e hp.2 r2,xDn hp.1,xDn hp.2,q _ H G o (Same.refl G) rfl⟩
 ·cases hz
def isnD:D->D->Option SD
 | .non,.non=>some (.va (.bl true))
 | .adr _,.non=>none
 | _,.non=>some (.va (.bl false))
 | _,_=>none
def ntnD:D->D->Option SD
 | .non,.non=>some (.va (.bl false))
 | .adr _,.non=>none
 | _,.non=>some (.va (.bl true))
 | _,_=>none
def ixD:D->D->Option SD
 | .tup l,.int i=>(atI l i).map SD.va
 | .lst _ l,.int i=>(atI l i).map SD.va
 | .str s,.int i=>if s.length<=1000000 then (atI s.cps.toList i).map fun c=>SD.va (.str ⟨#[c]⟩) else none
 | _,_=>none
theorem xM1 (r:RepL κ T G l vs)(h:atI l i=some d): ∃ v,atI vs i=some v/\Rep κ T G d v:=by
 unfold atI at h ⊢
 obtain ⟨j,h1,h2⟩:=yDf.mp h
 obtain ⟨v,h3,h4⟩:=r.get h2
 rw [r.length,h1]
 exact ⟨v,h3,h4⟩
theorem od_ix:OpD κ (rIx κ.K) ixD:=by
 intro B ρ σ H G d e x y z Q o r1 r2 hz q
 cases d with
 | tup l=>
  cases e with
  | int i=>
   obtain ⟨c,h1,rfl⟩:=yC4.mp (show (atI l i).map SD.va=some z from hz)
   obtain ⟨p,vs,rfl,h2,h3⟩:=r1
   obtain ⟨v,h4,h5⟩:=xM1 h3 h1
   exact .inr (.inl ⟨p,vs,i,v,rfl,r2,h2.sq o.fr.gh,h4,q v H G o (Same.refl G) h5⟩)
  | _=>cases hz
 | lst b l=>
  cases e with
  | int i=>
   obtain ⟨c,h1,rfl⟩:=yC4.mp (show (atI l i).map SD.va=some z from hz)
   obtain ⟨p,vs,rfl,⟨h2,_⟩,h3⟩:=r1
   obtain ⟨v,h4,h5⟩:=xM1 h3 h1
   exact .inl ⟨p,vs,i,v,rfl,r2,SqL.of (o.fr.gh _ _ h2),h4,q v H G o (Same.refl G) h5⟩
  | _=>cases hz
 | str s=>
  cases e with
  | int i=>
   have hz':(if s.length<=1000000 then (atI s.cps.toList i).map fun c=>SD.va (.str ⟨#[c]⟩) else none)=some z:=hz
   split at hz'
   ·obtain ⟨c,h1,rfl⟩:=yC4.mp hz'
    exact .inr (.inr ⟨s,i,c,r1,r2,xEc (by assumption),h1,q _ H G o (Same.refl G) rfl⟩)
   ·cases hz'
  | _=>cases hz
 | _=>cases e <;> cases hz
def lenD:List D->Option SD
 | [.tup l]=>some (.va (.int l.length))
 | [.lst _ l]=>some (.va (.int l.length))
 | [.str s]=>if s.length<=1000000 then some (.va (.int s.length)) else none
 | _=>none
theorem yAk:xDx κ (fun xs H Q=> ∃ x n,xs=[x]/\LenV κ.K x H n/\Q (.int n) H) lenD:=by
 intro B ρ σ H G ds xs z Q o r hz q
 unfold lenD at hz
 split at hz
 ·rename_i l
  obtain ⟨v,ws,rfl,⟨p,vs,rfl,h1,h2⟩,rfl⟩:=r
  have e:=(yDc.inj hz).symm
  subst e
  exact ⟨_,l.length,rfl,.inr ⟨vs,h1.sq o.fr.gh,h2.length.symm⟩,q _ H G o (Same.refl G) rfl⟩
 ·rename_i b l
  obtain ⟨v,ws,rfl,⟨p,vs,rfl,⟨h1,_⟩,h2⟩,rfl⟩:=r
  have e:=(yDc.inj hz).symm
  subst e
  exact ⟨_,l.length,rfl,.inl ⟨vs,SqL.of (o.fr.gh _ _ h1),h2.length.symm⟩,q _ H G o (Same.refl G) rfl⟩
 ·rename_i s
  obtain ⟨v,ws,rfl,h,rfl⟩:=r
  have h:v=V.str s:=h
  subst h
  split at hz
  ·have e:=(yDc.inj hz).symm
   subst e
   exact ⟨_,s.length,rfl,⟨xEc (by assumption),rfl⟩,q _ H G o (Same.refl G) rfl⟩
  ·cases hz
 ·cases hz
def absD:List D->Option SD
 | [.int i]=>some (.va (.int (if i<0 then -i else i)))
 | _=>none
theorem yBt:xDx κ (fun xs H Q=> ∃ i,xs=[.int i]/\Q (.int (if i<0 then -i else i)) H) absD:=by
 intro B ρ σ H G ds xs z Q o r hz q
 unfold absD at hz
 split at hz
 ·obtain ⟨v,ws,rfl,rfl,rfl⟩:=r
  have e:=(yDc.inj hz).symm
  subst e
  exact ⟨_,rfl,q _ H G o (Same.refl G) rfl⟩
 ·cases hz
def intD:List D->Option SD
 | [.int i]=>some (.va (.int i))
 | [.bl b]=>some (.va (.int (if b then 1 else 0)))
 | _=>none
def xRe:List D->Option SD
 | [.tup l]=>some (.ow (.lst false l))
 | [.lst _ l]=>some (.ow (.lst false l))
 | _=>none
theorem xRr:xDx κ (fun xs H Q=> ∃ p ys,xs=[.ref p]/\(SqL κ.K H p ys\/SqT κ.K H p ys)/\ ∀ l,H l=none->Q (.ref l) (upd H l (.lst ys))) xRe:=by
 intro B ρ σ H G ds xs z Q o r hz q
 unfold xRe at hz
 split at hz
 ·obtain ⟨v,ws,rfl,⟨p,vs,rfl,h1,h2⟩,rfl⟩:=r
  have e:=(yDc.inj hz).symm
  subst e
  exact ⟨p,vs,rfl,.inr (h1.sq o.fr.gh),fun t ht=>q _ _ _ (o.allocOwn ht) (Same.refl G) (o.newOwn ht ⟨vs,upd_same,h2⟩)⟩
 ·obtain ⟨v,ws,rfl,⟨p,vs,rfl,⟨h1,_⟩,h2⟩,rfl⟩:=r
  have e:=(yDc.inj hz).symm
  subst e
  exact ⟨p,vs,rfl,.inl (SqL.of (o.fr.gh _ _ h1)),fun t ht=>q _ _ _ (o.allocOwn ht) (Same.refl G) (o.newOwn ht ⟨vs,upd_same,h2⟩)⟩
 ·cases hz
def tupD:List D->Option SD
 | [.tup l]=>some (.va (.tup l))
 | [.lst _ l]=>some (.va (.tup l))
 | _=>none
theorem xOs:xDx κ (fun xs H Q=> ∃ p ys,xs=[.ref p]/\((SqL κ.K H p ys/\ ∀ l,H l=none->Q (.ref l) (upd H l (.tup ys)))\/(SqT κ.K H p ys/\Q (.ref p) H))) tupD:=by
 intro B ρ σ H G ds xs z Q o r hz q
 unfold tupD at hz
 split at hz
 ·obtain ⟨v,ws,rfl,⟨p,vs,rfl,h1,h2⟩,rfl⟩:=r
  have e:=(yDc.inj hz).symm
  subst e
  exact ⟨p,vs,rfl,.inr ⟨h1.sq o.fr.gh,q _ H G o (Same.refl G) ⟨p,vs,rfl,h1,h2⟩⟩⟩
 ·rename_i b l
  obtain ⟨v,ws,rfl,⟨p,vs,rfl,⟨h1,_⟩,h2⟩,rfl⟩:=r
  have e:=(yDc.inj hz).symm
  subst e
  refine ⟨p,vs,rfl,.inl ⟨SqL.of (o.fr.gh _ _ h1),fun t ht=> ?_⟩⟩
  have hg:=o.gnone ht
  exact q _ _ _ (o.alloc ht fun _ z=>by cases z) (Same.upd hg) ⟨t,vs,rfl,.inl upd_same,RepL.mono (.of (Same.upd hg)) l h2⟩
 ·cases hz
def xH2:List D->Option (List Bool)
 | []=>some []
 | .bl b::l=>(xH2 l).map (b:: ·)
 | _::_=>none
theorem xG6: ∀ {l:List D} {bs:List Bool} {vs:List V},xH2 l=some bs->RepL κ T G l vs->vs=bs.map V.bl
 | [],bs,vs,h,r=>by cases h;exact r
 | .bl b::l,bs,vs,h,r=>by
  obtain ⟨cs,h1,rfl⟩:=yC4.mp (show (xH2 l).map (b:: ·)=some bs from h)
  obtain ⟨v,ws,rfl,rfl,h2⟩:=r
  rw [xG6 h1 h2]
  rfl
def allD:List D->Option SD
 | [.lst _ l]=>(xH2 l).map fun bs=> .va (.bl (bs.all id))
 | _=>none
def anyD:List D->Option SD
 | [.lst _ l]=>(xH2 l).map fun bs=> .va (.bl (bs.any id))
 | _=>none
theorem xOc:xDx κ (rAll κ.K) allD:=by
 intro B ρ σ H G ds xs z Q o r hz q
 unfold allD at hz
 split at hz
 ·obtain ⟨bs,h1,e⟩:=yC4.mp hz
  subst e
  obtain ⟨v,ws,rfl,⟨p,vs,rfl,⟨h2,_⟩,h3⟩,rfl⟩:=r
  rw [xG6 h1 h3] at h2
  exact ⟨p,bs,rfl,SqL.of (o.fr.gh _ _ h2),q _ H G o (Same.refl G) rfl⟩
 ·cases hz
theorem yAx:xDx κ (rAny κ.K) anyD:=by
 intro B ρ σ H G ds xs z Q o r hz q
 unfold anyD at hz
 split at hz
 ·obtain ⟨bs,h1,e⟩:=yC4.mp hz
  subst e
  obtain ⟨v,ws,rfl,⟨p,vs,rfl,⟨h2,_⟩,h3⟩,rfl⟩:=r
  rw [xG6 h1 h3] at h2
  exact ⟨p,bs,rfl,SqL.of (o.fr.gh _ _ h2),q _ H G o (Same.refl G) rfl⟩
 ·cases hz
def D.kind:D->Option String
 | .non=>some "NoneType"
 | .bl _=>some "bool"
 | .int _=>some "int"
 | .str _=>some "str"
 | .tup _=>some "tuple"
 | .lst _ _=>some "list"
 | .dk _ _=>some "dict"
 | _=>none
def kitT (a n:String):Option Bool:=if n="int" then some (a="int" || a="bool") else if n="bool"\/n="str"\/n="list"\/n="tuple"\/n="dict" then some (a=n) else none
def isiD:List D->Option SD
 | [d,.ty n]=>d.kind.bind fun a=>(kitT a n).map fun r=> .va (.bl r)
 | _=>none
def yAd (a:String):List D->Option Bool
 | []=>some false
 | .ty n::l=>(kitT a n).bind fun b=>(yAd a l).map fun c=>b || c
 | _::_=>none
def isitD:List D->Option SD
 | [d,.tup l]=>d.kind.bind fun a=>(yAd a l).map fun r=> .va (.bl r)
 | _=>none
end
set_option maxHeartbeats 390000
def SD.nbS:SD->Bool
 | .va d=>d.nb
 | .ow d=>d.nbO
 | .un=>true
def mixL:List SD->List SD->Option (List SD)
 | [],_=>some []
 | .ow _::l,x::r=>if x.nbS then (mixL l r).map (x:: ·) else none
 | y::l,_::r=>(mixL l r).map (y:: ·)
 | _::_,[]=>none
def xKe (i:Nat)(d:D)(ρ ρ1:List SD):Option (List SD):=(mixL (ρ.set i .un) ρ1).map fun l=>l.set i (.ow d)
def xIn (i:Nat)(m:M SD):M SD:=fun ρ=>match ρ[i]? with
 | some (.ow d)=>match m (ρ.set i (.va d.ln)) with
  | .ok r ρ1=>if r.nbS then match xKe i d ρ ρ1 with
   | some ρ2=> .ok r ρ2
   | none=> .no
   else .no
  | .ex x ρ1=>if nbF x.fs then match xKe i d ρ ρ1 with
   | some ρ2=> .ex x ρ2
   | none=> .no
   else .no
  | .no=> .no
 | _=>m ρ
theorem xKc: ∀ {l r o:List SD} {j:Nat} {x:SD},mixL l r=some o->o[j]? =some x->(∃ c,l[j]? =some (SD.ow c)/\r[j]? =some x/\x.nbS=true)\/((∀ c,l[j]? ≠some (SD.ow c))/\l[j]? =some x)
 | [],r,o,j,x,h,e=>by
  cases h
  simp at e
 | y::l,[],o,j,x,h,e=>by cases y <;> cases h
 | .ow c::l,y::r,o,j,x,h,e=>by
  have h':(if y.nbS then (mixL l r).map (y:: ·) else none)=some o:=h
  split at h'
  ·obtain ⟨o',h1,rfl⟩:=yC4.mp h'
   cases j with
   | zero=>
    cases e
    exact .inl ⟨c,rfl,rfl,by assumption⟩
   | succ j=>exact xKc (j:=j) h1 e
  ·cases h'
 | .va c::l,y::r,o,j,x,h,e=>by
  obtain ⟨o',h1,rfl⟩:=yC4.mp (show (mixL l r).map (SD.va c:: ·)=some o from h)
  cases j with
  | zero=>
   cases e
   exact .inr ⟨(fun c' z=>by cases z),rfl⟩
  | succ j=>exact xKc (j:=j) h1 e
 | .un::l,y::r,o,j,x,h,e=>by
  obtain ⟨o',h1,rfl⟩:=yC4.mp (show (mixL l r).map (SD.un:: ·)=some o from h)
  cases j with
  | zero=>
   cases e
   exact .inr ⟨(fun c' z=>by cases z),rfl⟩
  | succ j=>exact xKc (j:=j) h1 e
theorem xGw: ∀ {l r o:List SD},mixL l r=some o->o.length=l.length
 | [],r,o,h=>by cases h;rfl
 | y::l,[],o,h=>by cases y <;> cases h
 | .ow c::l,y::r,o,h=>by
  have h':(if y.nbS then (mixL l r).map (y:: ·) else none)=some o:=h
  split at h'
  ·obtain ⟨o',h1,rfl⟩:=yC4.mp h'
   rw [yDa,yDa,xGw h1]
  ·cases h'
 | .va c::l,y::r,o,h=>by
  obtain ⟨o',h1,rfl⟩:=yC4.mp (show (mixL l r).map (SD.va c:: ·)=some o from h)
  rw [yDa,yDa,xGw h1]
 | .un::l,y::r,o,h=>by
  obtain ⟨o',h1,rfl⟩:=yC4.mp (show (mixL l r).map (SD.un:: ·)=some o from h)
  rw [yDa,yDa,xGw h1]
section
variable {κ:Ctx}{B:Bas}{ρ ρ1:List SD}{σ:L2.St}{H G H' G':Hp}
theorem xA9.mono2 (h:xA9 κ T G H p d)(e:Mono T G T' G'):xA9 κ T' G' H p d:=by
 cases d with
 | lst b l=>
  obtain ⟨vs,h1,h2⟩:=h
  exact ⟨vs,h1,RepL.mono e l h2⟩
 | dk b l=>
  obtain ⟨vs,h1,h2⟩:=h
  exact ⟨vs,h1,RepK.mono e l h2⟩
 | ins b c l=>
  obtain ⟨dx,vs,h1,h2⟩:=h
  exact ⟨dx,vs,h1,RepF.mono e l h2⟩
 | scr l=>
  obtain ⟨vs,h1,h2⟩:=h
  exact ⟨vs,h1,RepL.mono e l h2⟩
 | _=>exact h.elim
theorem xA9.er (ho:G p=some o)(mu:Mut (some o))(ht:T' p)(hT: ∀ a,a≠p->(T' a ↔ T a))(n:d.nbO=true)(h:xA9 κ T' G H q d):xA9 κ T (er G p) H q d:=by
 cases d with
 | lst b l=>
  obtain ⟨vs,h1,h2⟩:=h
  exact ⟨vs,h1,RepL.er ho mu ht hT l n h2⟩
 | dk b l=>
  obtain ⟨vs,h1,h2⟩:=h
  exact ⟨vs,h1,RepK.er ho mu ht hT l n h2⟩
 | ins b c l=>
  obtain ⟨dx,vs,h1,h2⟩:=h
  exact ⟨dx,vs,h1,RepF.er ho mu ht hT l n h2⟩
 | scr l=>
  obtain ⟨vs,h1,h2⟩:=h
  exact ⟨vs,h1,RepL.er ho mu ht hT l n h2⟩
 | _=>exact h.elim
theorem xA9.lent (h:xA9 κ T G H p d)(hp:H p=some o)(hg:G p=none):Rep κ (fun a=>T a\/a=p) (upd G p o) d.ln (.ref p):=by
 have l:Ld (fun a=>T a\/a=p) p true:=⟨fun _=>rfl,fun _=> .inr rfl⟩
 have m:Mono T G (fun a=>T a\/a=p) (upd G p o):=⟨Same.upd hg,fun a u b e k=>⟨(fun z=>by
  rcases z with z|z
  ·exact k.mp z
  ·rw [z,hg] at e
   cases e),fun z=> .inl (k.mpr z)⟩⟩
 cases d with
 | lst b l'=>
  obtain ⟨vs,h1,h2⟩:=h
  rw [hp] at h1
  cases h1
  exact ⟨p,vs,rfl,⟨upd_same,l⟩,RepL.mono m l' h2⟩
 | dk b l'=>
  obtain ⟨vs,h1,h2⟩:=h
  rw [hp] at h1
  cases h1
  exact ⟨p,vs,rfl,⟨.inl upd_same,l⟩,RepK.mono m l' h2⟩
 | ins b c l'=>
  obtain ⟨dx,vs,h1,h2⟩:=h
  rw [hp] at h1
  cases h1
  exact ⟨p,dx,vs,rfl,⟨upd_same,l⟩,RepF.mono m l' h2⟩
 | scr l'=>
  obtain ⟨vs,h1,h2⟩:=h
  exact ⟨p,.non::vs,rfl,.inr rfl,⟨.non,vs,rfl,rfl,RepL.mono m l' h2⟩⟩
 | _=>exact h.elim
noncomputable def Bas.ln (B:Bas) (i:Nat) (p:Addr) (u:HO) (ρ:List SD) (σ:L2.St) (H G:Hp):Bas:=⟨hidS (ρ.set i .un) σ H,upd G p u,fun a=>B.T a\/a=p,[]⟩
structure Lent (κ:Ctx)(B:Bas)(i:Nat)(p:Addr)(u:HO)(d:D)(ρ:List SD)(σ:L2.St)(H G:Hp):Prop where
 ok:Ok κ B ρ σ H G
 sl:ρ[i]? =some (SD.ow d)
 at_:σ[i]? =some (some (V.ref p))
 gn:G p=none
 bn:B.H p=none
 own:xA9 κ B.T G H p d
 hp:H p=some u
 mu:Mut (some u)
theorem Ok.lend (o:Ok κ B ρ σ H G)(e:ρ[i]? =some (SD.ow d)): ∃ p u,Lent κ B i p u d ρ σ H G:=by
 obtain ⟨p,h1,h2,h3,h4⟩:=o.own i d e
 obtain ⟨u,h5,_,h6⟩:=h4.obj
 exact ⟨p,u,o,e,h1,h2,h3,h4,h5,h6⟩
section
variable {i:Nat}{p:Addr}{u:HO}{d:D}
theorem xO6 (h:(ρ.set i .un)[j]? =some (SD.ow c)):j≠i/\ρ[j]? =some (SD.ow c):=by
 by_cases hj:j=i
 ·subst hj
  have hl:j<ρ.length:=by
   have y:=(yC1.mp h).1
   rw [yDe] at y
   exact y
  rw [yC7 hl] at h
  cases h
 ·rw [yC9 (Ne.symm hj)] at h
  exact ⟨hj,h⟩
theorem Lent.mono (L:Lent κ B i p u d ρ σ H G):Mono B.T G (fun a=>B.T a\/a=p) (upd G p u):=⟨Same.upd L.gn,fun a u b e k=>⟨(fun z=>by
  rcases z with z|z
  ·exact k.mp z
  ·rw [z,L.gn] at e
   cases e),fun z=> .inl (k.mpr z)⟩⟩
theorem Lent.seen (L:Lent κ B i p u d ρ σ H G):hidS (ρ.set i .un) σ H p=some u:=by
 rw [xDr fun j c e1 e2=> ?_]
 ·exact xDm L.hp fun ps z=>by
   have m:=L.mu
   rw [z] at m
   exact m
 ·obtain ⟨n,e3⟩:=xO6 e1
  exact L.ok.sep j i p c d n e3 L.sl e2 L.at_
theorem Lent.enter (L:Lent κ B i p u d ρ σ H G):Ok κ (B.ln i p u ρ σ H G) (ρ.set i (.va d.ln)) σ H (upd G p u):=by
 have o:=L.ok
 have hl:=(yC1.mp L.sl).1
 have not_ow: ∀ {j:Nat} {x:SD},(ρ.set i (.va d.ln))[j]? =some x->(j=i/\x= .va d.ln)\/(j≠i/\ρ[j]? =some x):=fun {j x} e=>by
  by_cases hj:j=i
  ·subst hj
   rw [yC7 hl] at e
   exact .inl ⟨rfl,(yDc.inj e).symm⟩
  ·rw [yC9 (Ne.symm hj)] at e
   exact .inr ⟨hj,e⟩
 refine ⟨⟨fun a w e _=>(xFh e).1,fun a ps e=>(xFh e).2 ps rfl,fun a _=>rfl,Same.refl _,fun a w e=> ?_,fun a ps e=> ?_,o.fr.tabs,fun a h=> ?_⟩,by rw [yDe];exact o.len,fun j c e=> ?_,fun j c e=> ?_,fun j k q c c' hjk h1 h2 h3 h4=> ?_,fun _ _ h=>nomatch h⟩
 ·by_cases na:a=p
  ·rw [na,upd_same] at e
   rw [na,L.hp]
   exact e
  ·rw [upd_ne na] at e
   exact o.fr.gh a w e
 ·by_cases na:a=p
  ·rw [na,upd_same] at e
   have mu:=L.mu
   rw [yDc.inj e] at mu
   exact mu
  ·rw [upd_ne na] at e
   exact o.fr.notb a ps e
 ·show hidS (ρ.set i .un) σ H a≠none
  rcases h with h|h
  ·have hb:=o.fr.lent a h
   rw [xDr fun j c e1 e2=> ?_]
   ·exact xGt o.fr hb
   ·obtain ⟨_,e3⟩:=xO6 e1
    obtain ⟨q,q1,_,q3,_⟩:=o.own j c e3
    rw [e2] at q1
    cases q1
    exact hb q3
  ·rw [h,L.seen]
   simp
 ·rcases not_ow e with ⟨rfl,e1⟩|⟨_,e1⟩
  ·cases e1
   exact ⟨_,L.at_,L.own.lent L.hp L.gn⟩
  ·obtain ⟨v,h1,h2⟩:=o.val j c e1
   exact ⟨v,h1,Rep.mono L.mono c h2⟩
 ·rcases not_ow e with ⟨_,e1⟩|⟨n,e1⟩
  ·cases e1
  ·obtain ⟨q,q1,q2,q3,q4⟩:=o.own j c e1
   have nq:q≠p:=fun y=>o.sep j i p c d n e1 L.sl (by rw [q1,y]) L.at_
   exact ⟨q,q1,by rw [upd_ne nq];exact q2,xSm (by rw [yC9 (Ne.symm n)];exact e1) q1,q4.mono2 L.mono⟩
 ·rcases not_ow h1 with ⟨_,e1⟩|⟨n1,e1⟩
  ·cases e1
  ·rcases not_ow h2 with ⟨_,e2⟩|⟨n2,e2⟩
   ·cases e2
   ·exact o.sep j k q c c' hjk e1 e2 h3 h4
theorem Lent.bnone (L:Lent κ B i p u d ρ σ H G)(h:hidS (ρ.set i .un) σ H a=none):B.H a=none:=by
 rcases xKu h with ⟨j,c,e1,e2⟩|h
 ·obtain ⟨_,e3⟩:=xO6 e1
  obtain ⟨q,q1,_,q3,_⟩:=L.ok.own j c e3
  rw [e2] at q1
  cases q1
  exact q3
 ·exact yC3 fun z=>xGt L.ok.fr z h
theorem Lent.vis (L:Lent κ B i p u d ρ σ H G)(h:B.H a≠none):hidS (ρ.set i .un) σ H a=H a:=(xS4 L.ok.fr h) ▸ xDr fun j c e1 e2=>by
 obtain ⟨_,e3⟩:=xO6 e1
 obtain ⟨q,q1,_,q3,_⟩:=L.ok.own j c e3
 rw [e2] at q1
 cases q1
 exact h q3
theorem Lent.leave (L:Lent κ B i p u d ρ σ H G)(o1:Ok κ (B.ln i p u ρ σ H G) ρ1 σ H' G')(hm:xKe i d ρ ρ1=some ρ2):
  Ok κ B ρ2 σ H' (er G' p)/\Same G (er G' p)/\G' p=some u/\(∀ (j:Nat) (c:D),ρ2[j]? =some (SD.ow c)->j=i\/ρ1[j]? =some (SD.ow c)):=by
 have o:=L.ok
 have hl:=(yC1.mp L.sl).1
 obtain ⟨l,hl1,rfl⟩:=yC4.mp hm
 have ll:l.length=ρ.length:=by rw [xGw hl1,yDe]
 have gp:G' p=some u:=o1.fr.sub p u (show upd G p u p=some u from upd_same)
 have np:p∉([]:List Addr):=by simp
 have sG:Same G (er G' p):=fun a w e=>by
  have na:a≠p:=fun y=>by
   rw [y,L.gn] at e
   cases e
  rw [xDp na]
  exact o1.fr.sub a w ((upd_ne na).trans e)
 have hT: ∀ a,a≠p->((B.T a\/a=p) ↔ B.T a):=fun a n=>⟨fun z=>z.elim id fun y=>absurd y n,.inl⟩
 have ht:(fun a=>B.T a\/a=p) p:= .inr rfl
 have cs: ∀ {j:Nat} {x:SD},(l.set i (.ow d))[j]? =some x->(j=i/\x= .ow d)\/(j≠i/\((∃ c,ρ[j]? =some (SD.ow c)/\ρ1[j]? =some x/\x.nbS=true)\/((∀ c,ρ[j]? ≠some (SD.ow c))/\ρ[j]? =some x))):=fun {j x} e=>by
  by_cases hj:j=i
  ·subst hj
   rw [yC7 (by omega)] at e
   exact .inl ⟨rfl,(yDc.inj e).symm⟩
  ·rw [yC9 (Ne.symm hj)] at e
   refine .inr ⟨hj,?_⟩
   have y:=xKc hl1 e
   rw [yC9 (Ne.symm hj)] at y
   exact y
 have hP:H' p=H p:=(o1.fr.keep p u L.seen fun ps z=>by
  have mu:=L.mu
  rw [z] at mu
  exact mu).trans L.hp.symm
 refine ⟨⟨⟨fun a w e n=> ?_,o.fr.nt,fun a e=> ?_,o.fr.sub.trans sG,fun a w e=> ?_,fun a ps e=> ?_,o1.fr.tabs,o.fr.lent⟩,by rw [yDe,ll];exact o.len,fun j c e=> ?_,fun j c e=> ?_,fun j k q c c' hjk h1 h2 h3 h4=> ?_,o.anch⟩,sG,gp,fun j c e=> ?_⟩
 ·exact o1.fr.keep a w ((L.vis (by rw [e];simp)).trans (o.fr.keep a w e n)) n
 ·have na:a≠p:=fun y=>e (by rw [y];exact L.bn)
  rw [xDp na]
  refine (o1.fr.frz a ?_).trans ((upd_ne na).trans (o.fr.frz a e))
  show hidS (ρ.set i .un) σ H a≠none
  rw [L.vis e]
  exact o.fr.there a e
 ·by_cases na:a=p
  ·rw [na,xMv] at e
   cases e
  ·rw [xDp na] at e
   exact o1.fr.gh a w e
 ·by_cases na:a=p
  ·rw [na,xMv] at e
   cases e
  ·rw [xDp na] at e
   exact o1.fr.notb a ps e
 ·rcases cs e with ⟨_,e1⟩|⟨n,⟨c',e1,e2,e3⟩|⟨_,e1⟩⟩
  ·cases e1
  ·obtain ⟨v,h1,h2⟩:=o1.val j c e2
   exact ⟨v,h1,Rep.er gp L.mu ht hT c e3 h2⟩
  ·obtain ⟨v,h1,h2⟩:=o.val j c e1
   exact ⟨v,h1,Rep.mono (.of sG) c h2⟩
 ·rcases cs e with ⟨rfl,e1⟩|⟨n,⟨c',e1,e2,e3⟩|⟨e1,e2⟩⟩
  ·cases e1
   exact ⟨p,L.at_,xMv,L.bn,L.own.mono sG hP⟩
  ·obtain ⟨q,q1,q2,q3,q4⟩:=o1.own j c e2
   have nq:q≠p:=fun y=>by
    rw [y,gp] at q2
    cases q2
   exact ⟨q,q1,by rw [xDp nq];exact q2,L.bnone q3,xA9.er gp L.mu ht hT e3 q4⟩
  ·exact absurd e2 (e1 c)
 ·have pick: ∀ {j:Nat} {c:D},(l.set i (.ow d))[j]? =some (SD.ow c)->(j=i)\/(j≠i/\ρ1[j]? =some (SD.ow c)):=fun {j c} e=>by
   rcases cs e with ⟨e1,_⟩|⟨n,⟨c',e1,e2,e3⟩|⟨e1,e2⟩⟩
   ·exact .inl e1
   ·exact .inr ⟨n,e2⟩
   ·exact absurd e2 (e1 c)
  have apart: ∀ {j:Nat} {c:D},ρ1[j]? =some (SD.ow c)->σ[j]? =some (some (V.ref p))->False:=fun {j c} e1 e2=>by
   obtain ⟨q,q1,q2,_,_⟩:=o1.own j c e1
   rw [e2] at q1
   cases q1
   rw [gp] at q2
   cases q2
  rcases pick h1 with e1|⟨n1,e1⟩ <;> rcases pick h2 with e2|⟨n2,e2⟩
  ·exact hjk (e1.trans e2.symm)
  ·rw [e1,L.at_] at h3
   cases h3
   exact apart e2 h4
  ·rw [e2,L.at_] at h4
   cases h4
   exact apart e1 h3
  ·exact o1.sep j k q c c' hjk e1 e2 h3 h4
 ·rcases cs e with ⟨e1,_⟩|⟨n,⟨c',e1,e2,e3⟩|⟨e1,e2⟩⟩
  ·exact .inl e1
  ·exact .inr e2
  ·exact absurd e2 (e1 c)
end
theorem xY4 (h:tE κ W (xIn i m) σ H Q):tE κ W m σ H Q:=by
 obtain ⟨B,ρ,G,o,q⟩:=h
 unfold xIn at q
 cases e:ρ[i]? with
 | none=>
  rw [e] at q
  exact ⟨B,ρ,G,o,q⟩
 | some x=>
  rw [e] at q
  cases x with
  | un=>exact ⟨B,ρ,G,o,q⟩
  | va c=>exact ⟨B,ρ,G,o,q⟩
  | ow d=>
   dsimp only at q
   obtain ⟨p,u,L⟩:=o.lend e
   refine ⟨_,_,_,L.enter,?_⟩
   have hT: ∀ a,a≠p->((B.T a\/a=p) ↔ B.T a):=fun a n=>⟨fun z=>z.elim id fun y=>absurd y n,.inl⟩
   cases em:m (ρ.set i (.va d.ln)) with
   | no=>
    rw [em] at q
    exact q.elim
   | ex x ρ1=>
    rw [em] at q
    dsimp only at q
    by_cases hn:nbF x.fs=true
    ·rw [if_pos hn] at q
     cases hm:xKe i d ρ ρ1 with
     | none=>
      rw [hm] at q
      exact q.elim
     | some ρ2=>
      rw [hm] at q
      intro cls dd H' G' o1 s1 rx
      obtain ⟨k1,k2,k3,k4⟩:=L.leave o1 hm
      refine q cls dd H' (er G' p) k1 k2 ?_
      obtain ⟨x1,dx,vs,x2,x3,x4⟩:=rx
      exact ⟨x1,dx,vs,x2,x3,RepF.er k3 L.mu (.inr rfl) hT _ hn x4⟩
    ·rw [if_neg hn] at q
     exact q.elim
   | ok r ρ1=>
    rw [em] at q
    dsimp only at q
    by_cases hn:r.nbS=true
    ·rw [if_pos hn] at q
     cases hm:xKe i d ρ ρ1 with
     | none=>
      rw [hm] at q
      exact q.elim
     | some ρ2=>
      rw [hm] at q
      intro H' G' o1 s1 v rv
      obtain ⟨k1,k2,k3,k4⟩:=L.leave o1 hm
      refine q H' (er G' p) k1 k2 v ?_
      cases r with
      | un=>exact rv.elim
      | va c=>exact Rep.er k3 L.mu (.inr rfl) hT c hn rv
      | ow c=>
       obtain ⟨t,rfl,t1,t2,t3,t4⟩:=rv
       have nt:t≠p:=fun y=>by
        rw [y,k3] at t1
        cases t1
       refine ⟨t,rfl,by rw [xDp nt];exact t1,L.bnone t2,xA9.er k3 L.mu (.inr rfl) hT hn t3,fun j c' e1 e2=> ?_⟩
       rcases k4 j c' e1 with z|z
       ·rw [z,L.at_] at e2
        cases e2
        exact nt rfl
       ·exact t4 j c' z e2
    ·rw [if_neg hn] at q
     exact q.elim
theorem xRx (i:Nat)(h:PE X e (tE κ W m)):PE X e (tE κ W (xIn i m)):=PE.imp h fun _ _ _=>xY4
end
def slD:SD->Option D
 | .va d=>some d
 | .ow d=>some d
 | .un=>none
section
variable {κ:Ctx}{B:Bas}{ρ:List SD}{σ:L2.St}{H G:Hp}
theorem Ok.set_is (o:Ok κ B ρ σ H G){i:Nat}(h:xFr ρ[i]? =true): ∃ v,σ[i]? =some (some v):=by
 cases e:ρ[i]? with
 | none=>
  rw [e] at h
  cases h
 | some x=>
  refine o.there e fun z=> ?_
  rw [e,z] at h
  cases h
end
def xB6 {α:Type}(i:Nat)(m:M α):M α:=fun ρ=>if xFr ρ[i]? then m ρ else .no
theorem xVv {α:Type}{i:Nat}{m:M α}{k:α->List SD->Hp->Hp->Prop}(o:Ok κ B ρ σ H G)(h:Pst κ W B σ G (xB6 i m ρ) k):(∃ v,σ[i]? =some (some v))/\Pst κ W B σ G (m ρ) k:=by
 unfold xB6 at h
 by_cases hi:xFr ρ[i]? =true
 ·rw [if_pos hi] at h
  exact ⟨o.set_is hi,h⟩
 ·rw [if_neg hi] at h
  exact h.elim
theorem xSi {i:Nat}{m:S}{D:Ends}(o:Ok κ B ρ σ H G)(h:PstS κ W B G (xB6 i m ρ) D):(∃ v,σ[i]? =some (some v))/\PstS κ W B G (m ρ) D:=by
 unfold xB6 at h
 by_cases hi:xFr ρ[i]? =true
 ·rw [if_pos hi] at h
  exact ⟨o.set_is hi,h⟩
 ·rw [if_neg hi] at h
  exact h.elim
def atS (i:Nat)(e:D):M SD:=fun ρ=>match ρ[i]? with
 | some (.va d)=>match ixD d e with
  | some z=> .ok z ρ
  | none=> .no
 | some (.ow (.lst b l))=>match ixD (.lst b l) e with
  | some z=> .ok z ρ
  | none=> .no
 | _=> .no
def mSub (i:Nat)(m:M SD):M SD:=xB6 i ((fE m).bind (atS i))
section
variable {κ:Ctx}{X:Cx}{W:WX}{σ:L2.St}{H:Hp}{Q:VK}
def putS (i:Nat)(v k:D):S:=fun ρ=>match ρ[i]?,k with
 | some (.ow (.lst b l)),.int j=>match ixN l.length j with
  | some n=> .ok .nx (ρ.set i (.ow (.lst b (l.set n v))))
  | none=> .no
 | _,_=> .no
def sPut (i:Nat)(mk me:M SD):S:=(fE me).bind fun v=>xB6 i ((fE mk).bind fun k=>putS i v k)
def appS (i:Nat)(ds:List D):M SD:=fun ρ=>match ρ[i]?,ds with
 | some (.ow (.lst b l)),[v]=>if l.length<1000000 then .ok (.va .non) (ρ.set i (.ow (.lst b (l++[v])))) else .no
 | _,_=> .no
def xS1:Option SD->Bool
 | some (.ow (.lst _ _))=>true
 | _=>false
def mApp (i:Nat)(n:M (List D)):M SD:=fun ρ=>if xS1 ρ[i]? then (n.bind (appS i)) ρ else .no
theorem yCe (h:tE κ W (mApp i n) σ H Q):tBM κ.K "list" rAppend (tVar i) (tA κ W n) σ H Q:=by
 obtain ⟨B,ρ,G,o,q⟩:=h
 unfold mApp at q
 cases hi:xS1 ρ[i]? with
 | false=>
  rw [hi,if_neg yD5] at q
  exact q.elim
 | true=>
  rw [hi,if_pos rfl] at q
  cases e:ρ[i]? with
  | none=>
   rw [e] at hi
   cases hi
  | some x=>
   cases x with
   | un=>
    rw [e] at hi
    cases hi
   | va d=>
    rw [e] at hi
    cases hi
   | ow d=>
    cases d with
    | lst b l=>
     obtain ⟨p,e1,e2,e3,vs,e4,e5⟩:=o.own i _ e
     refine ⟨_,e1,.inl ⟨rfl,vs,SqL.of e4⟩,B,ρ,G,o,Pst.mono (Pst.bind q) fun ds ρ' H' G' o' s q' xs rs=> ?_⟩
     unfold appS at q'
     cases h2:ρ'[i]? with
     | none=>
      rw [h2] at q'
      exact q'.elim
     | some x=>
      rw [h2] at q'
      cases x with
      | un=>exact q'.elim
      | va d=>exact q'.elim
      | ow d=>
       cases d with
       | lst b' l'=>
        cases ds with
        | nil=>exact q'.elim
        | cons v r=>
         cases r with
         | cons _ _=>exact q'.elim
         | nil=>
          dsimp only at q'
          by_cases hl:l'.length<1000000
          ·rw [if_pos hl] at q'
           obtain ⟨p',f1,f2,f3,ws,f4,f5⟩:=o'.own i _ h2
           rw [e1] at f1
           cases f1
           obtain ⟨y,us,rfl,r1,r2⟩:=rs
           have r2:us=[]:=r2
           subst r2
           refine ⟨p,ws,y,rfl,rfl,f4,by rw [f5.length,sizeLine_eq];omega,?_⟩
           exact q' _ G' (o'.write h2 e1 (fun ps z=>by cases z) ⟨_,upd_same,f5.append (RepL.one r1)⟩) (Same.refl G') _ rfl
          ·rw [if_neg hl] at q'
           exact q'.elim
       | _=>exact q'.elim
    | _=>
     rw [e] at hi
     cases hi
theorem e_app (hK:X.K=κ.K)(h:PE X (.Name x p) (tVar i))(ha:PA X [e] (tA κ W n))
  (hbase:attributeBase (.Name x p) "append" X.env (eval (.Name x p) X.env)=eval (.Name x p) X.env:=by rfl)
  (hfew:((backTo cpos (starEach [e] X.env)).all (fun x=> !x.1)&&(backToKw cpos (keywordEach [] X.env)).all (fun x=>x.1.isSome)&&decide (([e]:List Expr).length+([]:List Keyword).length+(if ([]:List Keyword).isEmpty then 0 else 1)<30))=true:=by rfl)
  (hline:(apos.endLine==cpos.line)=true:=by rfl) (hs:starEach [e] X.env=(false,eval e X.env)::starEach [] X.env:=by rfl) (hplain:(backTo cpos (starEach ([]:List Expr) X.env)).any (·.1)=false:=by rfl):PE X (.Call (.Attribute (.Name x p) "append" apos) [e] [] cpos) (tE κ W (mApp i n)):=
 PE.imp (pe_bm PySem.F.plainAttrs_list PySem.F.slot_list_append PySem.F.type_list_append mt_append h ha hbase hfew hline hs hplain) fun _ _ _ q=>by
  rw [hK]
  exact yCe q
end
end Fm
set_option maxHeartbeats 990000
namespace Zs
open PySem L2
abbrev two (x y:Value):Obj:={ cls:= .type "tuple",data:= .seq #[x,y] }
abbrev zob (ti to:Addr)(own:Value):Obj:={ cls:= .type "zip",dict:=none,data:= .fields #[own,.bool false,.bool true,.ref ti,.ref to],slots:= #[] }
def Sd (b:Bool)(h:Heap)(l:Addr)(xs:Array Value):Prop:=if b then h.IsTuple l xs else h.IsList l xs
def At (b:Bool)(h:Heap)(p l:Addr)(n:Nat):Prop:=if b then h.IsTupleIter p l n else h.IsListIter p l n
section
variable {b c:Bool}{h g:Heap}{l p:Addr}{xs:Array Value}{n:Nat}
end
structure Zip2 (b c:Bool)(z ti to p q a d:Addr)(n:Nat)(own u v:Value)(h:Heap):Prop where
 z:h.get? z=some (zob ti to own)
 i:h.get? ti=some (two (.ref p) (.ref q))
 o:h.get? to=some (two u v)
 p:At b h p a n
 q:At c h q d n
def Stay (z to p q:Addr)(h g:Heap):Prop:= ∀ e o,e≠z->e≠to->e≠p->e≠q->h.get? e=some o->g.get? e=some o
section
variable {P:Program}{w:World}{s:Shared}{A:Around}{E:Value->Shared->Prop}
def Two (p to:Addr)(h g:Heap):Prop:=(∀ e,e≠p->e≠to->g.get? e=h.get? e)/\g.objs.size=h.objs.size
end
section
variable {P:Program}{w:World}{s:Shared}{A:Around}{E:Value->Shared->Prop}
end
def laid (h:Heap)(os:List Obj):Heap:=os.foldl Heap.push h
def itO (b:Bool)(l:Addr):Obj:={ cls:= .type (if b then "tuple_iterator" else "list_iterator"),data:= .fields #[.ref l,.int 0 0] }
abbrev five (b c:Bool)(a d:Addr)(n:Nat):List Obj:=[itO b a,itO c d,two (.ref n) (.ref (n+1)),two .none .none,zob (n+2) (n+3) .none]
abbrev kwS:List (Str×Value):=[(Str.ofString "strict",.bool true)]
section
variable {b c:Bool}{z ti to p q a d:Addr}{n:Nat}{own u v:Value}{h g:Heap}
abbrev cells (z ti to p q:Addr):List Addr:=[z,ti,to,p,q]
theorem Stay.out (k:Stay z to p q h g): ∀ e o,e∉cells z ti to p q->h.get? e=some o->g.get? e=some o:=fun e o m f=>by
 simp only [cells,yDo,yEs,or_false,not_or] at m
 exact k e o m.1 m.2.2.1 m.2.2.2.1 m.2.2.2.2 f
end
section
variable {P:Program}{w:World}{s:Shared}{A:Around}{E:Value->Shared->Prop}
end
end Zs
namespace Fm
open L2 PySem PySem.Spec PyProof.Rows Zs
def SqB (k:Bool)(K:PySem.W.Frag)(H:Hp)(a:Addr)(xs:List V):Prop:=match k with
 | true=>SqT K H a xs
 | false=>SqL K H a xs
section
variable {X:Cx}{pins:List (Addr×Obj)}{σ:L2.St}{H:Hp}{s:Shared}{k:Bool}{a:Addr}{xs ys:List V}
theorem SqB.inj (I:Inv X pins σ H s)(h:SqB k X.K H a xs)(h':SqB k X.K H a ys):xs=ys:=by
 cases k with
 | false=>exact I.list_inj (show SqL X.K H a xs from h) h'
 | true=>exact I.tuple_inj (show SqT X.K H a xs from h) h'
end
def ItS (K:PySem.W.Frag)(k k':Bool)(a b:Addr):It where
 go i H:= ∃ xs ys,SqB k K H a xs/\SqB k' K H b ys/\i<xs.length/\i<ys.length
 yld i H v H':= ∃ T x y,v= .ref T/\H T=none/\H'=upd H T (.tup [x,y])/\(∀ xs,SqB k K H a xs->xs[i]? =some x)/\ ∀ ys,SqB k' K H b ys->ys[i]? =some y
 stop i H:= ∃ xs ys,SqB k K H a xs/\SqB k' K H b ys/\xs.length<=i/\ys.length<=i
def iZipS (K:PySem.W.Frag)(ta:TA):TI:=fun σ H R=>ta σ H fun vs H1=> ∃ (k k':Bool) (a b:Addr) (xs ys:List V),vs=[.ref a,.ref b]/\SqB k K H1 a xs/\SqB k' K H1 b ys/\R (ItS K k k' a b) H1
end Fm
set_option maxHeartbeats 390000
namespace Fm
open L2 PySem PySem.Spec PyProof.Rows
def D.seq:D->Option (Bool×List D)
 | .lst _ l=>some (false,l)
 | .tup l=>some (true,l)
 | _=>none
def zipP:List D->List D->List D
 | a::l,b::m=> .tup [a,b]::zipP l m
 | _,_=>[]
def zipM:List D->M (List D)
 | [d,e]=>match d.seq,e.seq with
  | some (_,l),some (_,m)=>if l.length=m.length then M.ret (zipP l m) else M.no
  | _,_=>M.no
 | _=>M.no
def iZp (n:M (List D)):M (List D):=n.bind zipM
theorem SqB.mono {k:Bool}{K:PySem.W.Frag}{G H:Hp}(s:Same G H){a:Addr}{vs:List V}(h:SqB k K G a vs):SqB k K H a vs:=by
 cases k with
 | true=>exact SqT.mono s h
 | false=>exact xOi s h
section
variable {X:Cx}{κ:Ctx}{W:WX}
def tO (κ:Ctx)(W:WX)(m:M (Option Int)):TO:=fun σ H Q=> ∃ B ρ G,Ok κ B ρ σ H G/\Pst κ W B σ G (m ρ) fun o _ H' _=>Q o H'
theorem PO.imp (h:PO X e t)(f: ∀ σ H Q,t' σ H Q->t σ H Q):PO X e t':=⟨fun pins s σ H Q I q=>h.run pins s σ H Q I (f _ _ _ q)⟩
def mPN:M (Option Int):=M.ret none
def intM:D->M (Option Int)
 | .int i=>M.ret (some i)
 | _=>M.no
def mPS (m:M SD):M (Option Int):=(fE m).bind intM
theorem xD2:PO X none (tO κ W mPN):=PO.imp po_none fun σ H Q ⟨B,ρ,G,o,q⟩=>Pst.ret q o
theorem xEd (h:PE X e (tE κ W m)):PO X (some e) (tO κ W (mPS m)):=by
 refine PO.imp (po_some h) fun σ H Q ⟨B,ρ,G,o,q⟩=> ?_
 refine xBs o (Pst.bind q) fun d ρ1 H1 G1 o1 s1 q1 v1 r1=> ?_
 cases d with
 | int i=>exact ⟨i,r1,Pst.ret q1 o1⟩
 | _=>exact q1.elim
def cutD (l:List D)(lo hi:Option Int):List D:=(l.drop (HT.sIx l.length 0 lo)).take (HT.sIx l.length l.length hi-HT.sIx l.length 0 lo)
def slcD:D->Option Int->Option Int->Option SD
 | .lst _ l,lo,hi=>some (.ow (.lst false (cutD l lo hi)))
 | .scr l,lo,hi=>if mkL l then none else some (.ow (.lst false (cutD l lo hi)))
 | .tup l,lo,hi=>some (.va (.tup (cutD l lo hi)))
 | .str s,lo,hi=>if s.length<=1000000 then some (.va (.str (cutS s lo hi))) else none
 | _,_,_=>none
theorem xJx (r:RepL κ T G l vs)(lo hi:Option Int):RepL κ T G (cutD l lo hi) (cutV vs lo hi):=by
 unfold cutD cutV
 rw [r.length]
 exact (r.drop _).take _
def mSl (m:M SD)(ml mh:M (Option Int)):M SD:=(fE m).bind fun d=>ml.bind fun lo=>mh.bind fun hi=>M.opt (slcD d lo hi)
theorem xC0 {e:Expr}{lo hi:Option Expr}{m:M SD}{ml mh:M (Option Int)}{p2 pos:Pos}(hK:X.K=κ.K)(he:PE X e (tE κ W m))(hl:PO X lo (tO κ W ml))(hh:PO X hi (tO κ W mh)):PE X (.Subscript e (.Slice lo hi none p2) pos) (tE κ W (mSl m ml mh)):=by
 refine PE.imp (pe_slice (sl_list.or (sl_tupA.or sl_str)) he hl hh) fun σ H Q ⟨B,ρ,G,o,q⟩=> ?_
 refine xBs o (Pst.bind q) fun d ρ1 H1 G1 o1 s1 q1 v1 r1=> ?_
 refine ⟨B,ρ1,G1,o1,Pst.mono (Pst.bind q1) fun lo ρ2 H2 G2 o2 s2 q2=> ?_⟩
 refine ⟨B,ρ2,G2,o2,Pst.mono (Pst.bind q2) fun hi ρ3 H3 G3 o3 s3 q3=> ?_⟩
 have r3:=Rep.mono (.of (s2.trans s3)) d r1
 obtain ⟨z,hz,q4⟩:=Pst.opt q3
 rw [hK]
 cases d with
 | lst b l=>
  cases hz
  obtain ⟨a,vs,rfl,⟨h1,_⟩,h2⟩:=r3
  exact .inl ⟨a,vs,rfl,SqL.of (o3.fr.gh _ _ h1),fun p hp=>q4 _ _ (o3.allocOwn hp) (Same.refl _) _ (o3.newOwn hp ⟨_,upd_same,xJx h2 lo hi⟩)⟩
 | scr l=>
  have hz':(if mkL l=true then none else some (SD.ow (.lst false (cutD l lo hi))))=some z:=hz
  by_cases hm:mkL l=true
  ·rw [if_pos hm] at hz'
   cases hz'
  rw [if_neg hm] at hz'
  cases hz'
  obtain ⟨a,vs,rfl,h1,h2⟩:=r3
  exact .inl ⟨a,vs,rfl,(h1.resolve_right hm).sq o3.fr.gh,fun p hp=>q4 _ _ (o3.allocOwn hp) (Same.refl _) _ (o3.newOwn hp ⟨_,upd_same,xJx h2 lo hi⟩)⟩
 | tup l=>
  cases hz
  obtain ⟨a,vs,rfl,h1,h2⟩:=r3
  refine .inr (.inl ⟨a,vs,rfl,h1.sq o3.fr.gh,fun hw=> ?_,fun hw p hp=> ?_⟩)
  ·refine q4 _ _ o3 (Same.refl _) _ ⟨a,vs,rfl,h1,?_⟩
   have c:=xJx h2 lo hi
   have e:cutV vs lo hi=vs:=by
    unfold cutV
    rw [hw.1,hw.2]
    simp
   rw [e] at c
   exact c
  ·have hg:=o3.gnone hp
   exact q4 _ _ (o3.alloc hp fun _ z=>by cases z) (Same.upd hg) _ ⟨p,_,rfl,.inl upd_same,RepL.mono (.of (Same.upd hg)) _ (xJx h2 lo hi)⟩
 | str s=>
  have hz':(if s.length<=1000000 then some (SD.va (.str (cutS s lo hi))) else none)=some z:=hz
  split at hz'
  ·cases hz'
   exact .inr (.inr ⟨s,r3,xEc (by assumption),q4 _ _ o3 (Same.refl _) _ rfl⟩)
  ·cases hz'
 | _=>cases hz
def repD:D->D->Option SD
 | .int i,.int j=>if mulG i j then some (.va (.int (i*j))) else none
 | .lst _ l,.int k=>if -(2 ^ 62)<=k/\k<2 ^ 62/\l.length*k.toNat<=1000000 then some (.ow (.lst false (yDg k.toNat l).flatten)) else none
 | .str s,.int k=>if 2<=k/\k<2 ^ 62/\s.length≠0/\s.length*k.toNat<=1000000 then some (.va (.str ⟨(yDg k.toNat s.cps).foldl (· ++ ·) #[]⟩)) else none
 | _,_=>none
def xYq:R2:=fun x y H Q=> ∃ (s:Str) (k:Int),x= .str s/\y= .int k/\2<=k/\k<2 ^ 62/\s.length≠0/\s.length*k.toNat<=1000000/\Q (.str ⟨(yDg k.toNat s.cps).foldl (· ++ ·) #[]⟩) H
theorem xXz:OpR X (binaryOp .Mult) xYq:=by
 rintro pins s σ H x y v u Q I rx ry ⟨z,k,rfl,rfl,h1,h2,h3,h4,q⟩
 obtain ⟨t,rfl⟩:=rx
 obtain ⟨t',rfl⟩:=ry
 obtain ⟨n,rfl⟩: ∃ n:Nat,k=n:=⟨k.toNat,by omega⟩
 rw [yD9] at h4 q
 have one: ¬ ((n:Int)<1):=by omega
 have two:((n:Int)==1 || z.length==0)=false:=by
  rw [Bool.or_eq_false_iff]
  exact ⟨beq_eq_false_iff_ne.mpr (by omega),beq_eq_false_iff_ne.mpr h3⟩
 have fold: ∀ (m:Nat) (a:Array Nat),((yDg m z.cps).foldl (· ++ ·) a).size=a.size+m*z.cps.size:=by
  intro m
  induction m with
  | zero=>intro a;simp
  | succ m ih=>
   intro a
   rw [yEm,List.foldl_cons,ih,Array.size_append,Nat.succ_mul]
   omega
 have sz:(⟨(yDg n z.cps).foldl (· ++ ·) #[]⟩:Str).length<=1000000:=by
  show ((yDg n z.cps).foldl (· ++ ·) #[]).size<=1000000
  rw [fold]
  have e:z.length=z.cps.size:=rfl
  rw [e,Nat.mul_comm] at h4
  simp only [List.size_toArray,List.length_nil,Nat.zero_add]
  exact h4
 refine PySem.P.mul_str ?_ (fun _ _=> ?_) (fun _ _=> ?_) ?_
 ·rw [decide_eq_false (by omega),decide_eq_false (by omega)]
  rfl
 ·have hz:(z.length:Int)<=1000000:=by
   have hp:1<=n:=by omega
   have:=yEn (Nat.le_mul_of_pos_right z.length hp) h4
   omega
  have hm:z.length*n<=1000000:=h4
  have:(1000000:Int)<=2 ^ 63-1:=by decide
  rw [Int.not_lt]
  refine (Int.le_ediv_iff_mul_le (by omega)).mpr ?_
  have:((z.length*n:Nat):Int)<=((1000000:Nat):Int):=Int.ofNat_le.mpr hm
  rw [Int.natCast_mul] at this
  omega
 ·rw [yD9]
  exact PyProof.Rows.short24 (by omega)
 ·rw [if_neg one,if_neg (by rw [two];exact yD5),yD9]
  exact ⟨xEc sz,.str _,H,I.tok _,⟨_,rfl⟩,q⟩
theorem RepL.flat (r:RepL κ T G l vs): ∀ n:Nat,RepL κ T G (yDg n l).flatten (yDg n vs).flatten
 | 0=>rfl
 | n+1=>by
  simp only [yEm,List.flatten_cons]
  exact r.append (r.flat n)
theorem xOy:OpD κ (fun x y H Q=>rI CMulW (fun i j=> .int (i*j)) x y H Q\/(rRep x y H Q\/xYq x y H Q)) repD:=by
 intro B ρ σ H G d e x y z Q o r1 r2 hz q
 cases d with
 | int i=>
  cases e with
  | int j=>
   have hz':(if mulG i j then some (SD.va (.int (i*j))) else none)=some z:=hz
   split at hz'
   ·cases hz'
    exact .inl ⟨i,j,r1,r2,by assumption,q _ H G o (Same.refl G) rfl⟩
   ·cases hz'
  | _=>cases hz
 | lst b l=>
  cases e with
  | int k=>
   have hz':(if -(2 ^ 62)<=k/\k<2 ^ 62/\l.length*k.toNat<=1000000 then some (SD.ow (.lst false (yDg k.toNat l).flatten)) else none)=some z:=hz
   split at hz'
   ·rename_i hk
    cases hz'
    obtain ⟨p,vs,rfl,⟨h1,_⟩,h2⟩:=r1
    refine .inr (.inl ⟨p,k,vs,rfl,r2,o.fr.gh _ _ h1,by omega,by omega,xEc (by rw [h2.length];exact hk.2.2),fun t ht=> ?_⟩)
    exact q _ _ _ (o.allocOwn ht) (Same.refl G) (o.newOwn ht ⟨_,upd_same,h2.flat _⟩)
   ·cases hz'
  | _=>cases hz
 | str a=>
  cases e with
  | int k=>
   have hz':(if 2<=k/\k<2 ^ 62/\a.length≠0/\a.length*k.toNat<=1000000 then some (SD.va (.str ⟨(yDg k.toNat a.cps).foldl (· ++ ·) #[]⟩)) else none)=some z:=hz
   split at hz'
   ·rename_i hk
    cases hz'
    exact .inr (.inr ⟨a,k,r1,r2,hk.1,hk.2.1,hk.2.2.1,hk.2.2.2,q _ H G o (Same.refl G) rfl⟩)
   ·cases hz'
  | _=>cases hz
 | _=>cases e <;> cases hz
theorem xJk:OpR X (binaryOp .Mult) (fun x y H Q=>rI CMulW (fun i j=> .int (i*j)) x y H Q\/(rRep x y H Q\/xYq x y H Q)):=op_mulW.or (op_rep.or xXz)
def sPar3 (i j l:Nat)(m n k:M SD):S:=(fE m).bind fun d=>(fE n).bind fun e=>(fE k).bind fun f=>fun ρ=> .ok .nx (((ρ.set i (.va d)).set j (.va e)).set l (.va f))
theorem PG.or (h:PG X e t)(h':PG X e t'):PG X e (fun v σ H Q=>t v σ H Q\/t' v σ H Q):=⟨fun pins s σ H v u Q I r q=>by
 rcases q with q|q
 ·exact h.run pins s σ H v u Q I r q
 ·exact h'.run pins s σ H v u Q I r q⟩
def gSq (n:Nat)(r:List D->List SD->Option (List SD)):D->List SD->Option (List SD)
 | .tup l,ρ=>if l.length=n then r l ρ else none
 | .lst _ l,ρ=>if l.length=n then r l ρ else none
 | _,_=>none
theorem xPy {gr:List D->List SD->Option (List SD)}(hK:X.K=κ.K)(hc:X.calm=true)(h:PGs X es (tGs κ A vs gr))(hn:(assignEach es X.env).length=n:=by rfl)(hst:(assignEach es X.env).findIdx? (·.1)=none:=by rfl):
  PG X (.Tuple es k pos) (tG κ A vs (gSq n gr)):=by
 refine PG.imp (PG.or (pg_tup hc h hn hst) (pg_unl hc h hn hst)) fun v σ H Q ⟨B,ρ,G,d,ρ',a,o,r,e,q⟩=> ?_
 cases d with
 | tup l=>
  unfold gSq at e
  dsimp only at e
  by_cases hl:l.length=n
  ·rw [if_pos hl] at e
   obtain ⟨p,ws,rfl,r1,r2⟩:=r
   exact .inl ⟨p,ws,rfl,by rw [hK];exact r1.sq o.fr.gh,by rw [r2.length];exact hl,B,ρ,G,l,ρ',a,o,r2,e,q⟩
  ·rw [if_neg hl] at e
   cases e
 | lst b l=>
  unfold gSq at e
  dsimp only at e
  by_cases hl:l.length=n
  ·rw [if_pos hl] at e
   obtain ⟨p,ws,rfl,⟨r1,_⟩,r2⟩:=r
   exact .inr ⟨p,ws,rfl,SqL.of (o.fr.gh _ _ r1),by rw [r2.length];exact hl,B,ρ,G,l,ρ',a,o,r2,e,q⟩
  ·rw [if_neg hl] at e
   cases e
 | _=>cases e
def xO7 (g':D->D->Option SD)(b:D)(mc:M SD):SD->M SD
 | .va (.bl true)=>(fE mc).bind fun c=>M.opt (g' b c)
 | .va (.bl false)=>M.ret (.va (.bl false))
 | _=>M.no
def xDz (g g':D->D->Option SD)(ma mb mc:M SD):M SD:=(fE ma).bind fun a=>(fE mb).bind fun b=>(M.opt (g a b)).bind (xO7 g' b mc)
theorem xO9 {g g':D->D->Option SD}(hr:OpD κ r g)(hr':OpD κ r' g')(h:tE κ W (xDz g g' ma mb mc) σ H Q):tChain r r' (tE κ W ma) (tE κ W mb) (tE κ W mc) σ H Q:=by
 obtain ⟨B,ρ,G,o,q⟩:=h
 refine xBs o (Pst.bind q) fun d ρ1 H1 G1 o1 s1 q1 v1 r1=> ?_
 refine xBs o1 (Pst.bind q1) fun e ρ2 H2 G2 o2 s2 q2 v2 r2=> ?_
 obtain ⟨z,hz,q3⟩:=Pst.opt (Pst.bind q2)
 refine hr B ρ2 σ H2 G2 d e v1 v2 z _ o2 (Rep.mono (.of s2) d r1) r2 hz fun v H' G' o' s' rv=> ?_
 have q4:=q3 H' G' o' s'
 unfold xO7 at q4
 split at q4
 ·have rv:v=V.bl true:=rv
  subst rv
  refine ⟨true,rfl,iteT ?_⟩
  refine xBs o' (Pst.bind q4) fun f ρ3 H3 G3 o3 s3 q5 v3 r3=> ?_
  obtain ⟨z',hz',q6⟩:=Pst.opt q5
  exact hr' B ρ3 σ H3 G3 e f v2 v3 z' Q o3 (Rep.mono (.of (s'.trans s3)) e r2) r3 hz' fun v H4 G4 o4 s4 rv=>q6 H4 G4 o4 s4 v rv
 ·have rv:v=V.bl false:=rv
  subst rv
  exact ⟨false,rfl,iteF (Pst.ret q4 o' _ rfl)⟩
 ·exact q4.elim
theorem xMo {g g':D->D->Option SD}(ho:OpR X (compareOp op) r)(hr:OpD κ r g)(ho':OpR X (compareOp op') r')(hr':OpD κ r' g')(ha:PE X a (tE κ W ma))(hb:PE X b (tE κ W mb))(hc:PE X c (tE κ W mc))
  (hm:lastMarks [op,op'] [b,c]=false:=by with_unfolding_all rfl):PE X (.Compare a [op,op'] [b,c] pos) (tE κ W (xDz g g' ma mb mc)):=PE.imp (pe_chain ho ho' ha hb hc hm) fun _ _ _=>xO9 hr hr'
theorem xJ5 {g g':D->D->Option SD}(ho:OpR X (compareOp op) r)(hr:OpD κ r g)(ho':OpR X (compareOp op') r')(hr':OpD κ r' g')(ha:PE X a (tE κ W ma))(hb:PE X b (tE κ W mb))(hc:PE X c (tE κ W mc))
  (hm:lastMarks [op,op'] [b,c]=false:=by with_unfolding_all rfl):PT X (.Compare a [op,op'] [b,c] pos) (tT κ W (mTst (xDz g g' ma mb mc))):=PT.imp (pt_chain ho ho' ha hb hc hm) fun _ _ _ q=>xO9 hr hr' (xSd q)
end
def nrm:List SD->List SD->List SD
 | .ow _::as,o::os=>o::nrm as os
 | _::as,_::os=> .un::nrm as os
 | _,_=>[]
def nrmF (as:List SD):FR->FR
 | .ok r os=> .ok r (nrm as os)
 | .ex x os=> .ex x (nrm as os)
 | .no=> .no
theorem xQ9: ∀ {as os:List SD} {i:Nat} {d:D},as[i]? =some (SD.ow d)->(nrm as os)[i]? =os[i]?
 | [],os,i,d,h=>by simp at h
 | a::as,[],i,d,h=>by
  cases a <;> unfold nrm <;> simp
 | .ow c::as,o::os,0,d,h=>by
  unfold nrm
  rfl
 | .va c::as,o::os,0,d,h=>by cases h
 | .un::as,o::os,0,d,h=>by cases h
 | a::as,o::os,i+1,d,h=>by
  have ih:=xQ9 (as:=as) (os:=os) (i:=i) (d:=d) h
  cases a <;> (unfold nrm;exact ih)
theorem After.nrm {κ:Ctx}{T:Pd}{G H:Hp}{as:List SD}{vs:List V}{os:List SD}{H' G':Hp}(a:After κ T G H as vs os H' G'):After κ T G H as vs (nrm as os) H' G':=
 ⟨a.keep,a.frz,a.sub,a.gh,a.notb,a.tabs,fun i d p e1 e2=>by
  rw [xQ9 e1]
  exact a.outs i d p e1 e2⟩
theorem xQa.nrm {κ:Ctx}{T:Pd}{H:Hp}{as:List SD}{vs:List V}{os:List SD}{H' G':Hp}{r:SD}{v:V}(a:xQa κ T H as vs os H' G' r v):xQa κ T H as vs (nrm as os) H' G' r v:=by
 cases r with
 | un=>exact a
 | va d=>exact a
 | ow d=>
  obtain ⟨q,e,h1,h2,h3,h4⟩:=a
  exact ⟨q,e,h1,h2,h3,fun i c p c' e1 e2 e3=>h4 i c p c' e1 e2 (by rw [<- xQ9 e1];exact e3)⟩
theorem xZo {f:List SD->FR}(q:spF κ n (fun as=>nrmF as (f as)) vs H Q E):spF κ n f vs H Q E:=by
 obtain ⟨T,G,as,hl,p,q⟩:=q
 refine ⟨T,G,as,hl,p,?_⟩
 cases e:f as with
 | ok r os=>
  simp only [e,nrmF] at q
  exact fun v H' G' a b=>q v H' G' a.nrm b.nrm
 | ex x os=>
  simp only [e,nrmF] at q
  exact fun cls d H' G' a b=>q cls d H' G' a.nrm b
 | no=>
  simp only [e,nrmF] at q
def runN (A:List Nat)(N:Nat)(s:S)(as:List SD):FR:=nrmF as (runF A N s as)
section
variable {P:Program}{w:World}{K:PySem.W.Frag}{f:Addr}{fd:FuncData}{mg:Str->Option Value}{base:Heap}{x qual:Str}{params:Arguments}{body:List Stmt}{scope:Scope}{dvs:List V}{kws:List (Str×V)}
theorem FnOk.weak {CX:CXT}{k:Nat}{ps:List Str}{sp sp':Sp}(F:FnOk P w K mg base CX k f fd ps sp)(h: ∀ vs H Q E,sp' vs H Q E->sp vs H Q E):FnOk P w K mg base CX k f fd ps sp':=
 { F with
  len:=fun vs H Q E q=>F.len vs H Q E (h vs H Q E q)
  run:=fun A outer s H args us vs Q E a b c d e=>F.run A outer s H args us vs Q E a b c d (h vs H Q E e) }
theorem xTx (F:FunD K x qual params body scope dvs kws f fd)(Sc:FnScope N ps scope)
  (hbody: ∀ (cdv:Value) (Ar:Around) (outer:List Env) (s0:Shared) (H:Hp) (E:XK),Room k (Ar.deeper (envOfC qual scope s0.heap.objs.size f cdv))->
   PSs (cxOf (L2N.CX P w) P w K mg base N qual scope f cdv Ar outer s0 H E) body (tS κ A (fun cls d _ H=>E cls d H) s)):FnOk P w K mg base (L2N.CX P w) (k+1) f fd ps (spF κ ps.length (runN A N.length s)):=
 FnOk.weak (yCq F Sc hbody) fun _ _ _ _ q=>xZo q
end
structure Callee (P:Program)(w:World)(K:PySem.W.Frag)(mg:Str->Option Value)(base:Heap)(κ:Ctx)(x:Str)(k:Nat)(ps:List Str)(fn:List SD->FR)(f:Addr)(fd:FuncData):Prop where
 ok:FnOk P w K mg base (L2N.CX P w) k f fd ps (spF κ ps.length fn)
 gl:mg x=some (.ref f)
 kp:PySem.W.keepIn K (Value.ref f)=true
section
variable {X:Cx}{κ:Ctx}{W:WX}{k k':Nat}{f:Addr}{fd:FuncData}{ps:List Str}{fn:List SD->FR}{x:Str}{p pos:Pos}{e:Expr}{es:List Expr}{n:M (List Ar)}
theorem xX8 (C:Callee X.prog X.w X.K X.mg X.base κ x k ps fn f fd)(hb:Binds X.K fd ps [])(hr:Room k' X.A)(hk:k<=k')(hg:Gl X x)(hx:xKk X W)(ha:PA X (e::es) (tAr κ W n))(hl:ALen n ps.length)(hdb:(x==("__debug__":Str))=false:=by decide)(he:starEach (e::es) X.env=(false,eval e X.env)::starEach es X.env:=by rfl)(hpl:(backTo pos (starEach es X.env)).any (·.1)=false:=by rfl):
  PE X (.Call (.Name x p) (e::es) [] pos) (tE κ W (xAx fn [] n)):=
 yBi C.ok rfl (hr.mono hk) hg C.gl C.kp hb .nil (fun _ _=>rfl) hx ha (xYo hl (Nat.add_zero _)) hdb he hpl
theorem xZ0 (h:PE X a (tE κ W m)):PE X (.BoolOp op [a] pos) (tE κ W m):=pe_one h
end
theorem xGz: ∀ ns:List Int,RepL κ T G (ns.map D.int) (ns.map V.int)
 | []=>rfl
 | n::ns=>⟨.int n,ns.map V.int,rfl,rfl,xGz ns⟩
def Truth (f:List SD->FR):Prop:= ∀ ns:List Int,ns.length<=63->(∀ z∈ns,Builtin.Int.intBits z<=1048576)-> ∀ d:D,d= .scr (ns.map D.int)\/d= .lst false (ns.map D.int)-> ∃ outs,f [.va d]= .ok (.va (.bl true)) outs
theorem yCz {l:PySem.W.OpenLaw}{K:PySem.W.Frag}{cl:String->Addr}{tabs:List (Addr×Str)}{cs:List (Addr×Addr)}{k:Nat}{x:Str}{mg:Str->Option Value}{fa:Addr}{h:Heap}{f:List SD->FR}
  (ht: ∀ p∈tabs,∃ c,(c,p.1)∈cs) (h1: ∀ p∈cs,h.get? p.2=some { cls:= .none,data:= .fields #[] }) (h2: ∀ p∈cs,K.lookup p.2=none) (h3: ∀ p∈cs,PySem.W.CodeHd h p.1 p.2)
  (hb: ∀ (s:Shared) (u:Value),BindsTo s fd ⟨[u],[]⟩ [(x,u)]) (hf:Truth f)
  (F: ∀ base:Heap,K.In base->base.Ns mainGlobals mg->(∀ p∈cs,LamX.TabB base mg p.1 p.2)->FnOk l.prog w K mg base (L2N.CX l.prog w) k fa fd [x] (spF ⟨K,cl,tabs,w⟩ 1 f)):
  LamX.LawAtS l w K (L2N.CX l.prog w) k 63 x mg fa h:=by
 refine ⟨fd,cs,_,h1,h2,h3,hb,fun H a ns hl hbits hH hS=> ?_,F⟩
 have tb:LamX.Tabs tabs H:=fun p hp=>by
  obtain ⟨c,hc⟩:=ht p hp
  exact LamX.TabS.nil (hH _ hc)
 have fin: ∀ (G:Hp) (d:D),(d= .scr (ns.map D.int)\/d= .lst false (ns.map D.int))->Same G H->(∀ a ps,G a≠some (.tbl ps))->Rep ⟨K,cl,tabs,w⟩ (fun _=>False) G d (.ref a)->spF ⟨K,cl,tabs,w⟩ 1 f [.ref a] H (fun v _=>v= .bl true) fun _ _ _=>False:=fun G d hd s nb r=>by
  obtain ⟨outs,e⟩:=hf ns hl hbits d hd
  refine ⟨fun _=>False,G,[.va d],rfl,⟨⟨_,[],rfl,r,rfl⟩,yDu,s,nb,tb,fun _ z=>z.elim⟩,?_⟩
  rw [e]
  exact fun v H' G' _ rv=>rv
 have one: ∀ o:HO,H a=some o->(∀ ps,o≠ .tbl ps)->Same (fun b=>if b=a then some o else none) H/\ ∀ b ps,(fun b=>if b=a then some o else none:Hp) b≠some (.tbl ps):=fun o ho n=>by
  refine ⟨fun b u e=> ?_,fun b ps e=> ?_⟩
  ·by_cases hb:b=a
   ·simp only [hb,if_true] at e
    rw [hb,ho,e]
   ·simp only [if_neg hb] at e
    cases e
  ·by_cases hb:b=a
   ·simp only [hb,if_true] at e
    exact n ps (yDc.inj e)
   ·simp only [if_neg hb] at e
    cases e
 rcases hS with (hS|⟨o,hS⟩)|hS
 ·obtain ⟨q1,q2⟩:=one _ hS fun _ z=>by cases z
  exact fin _ _ (.inr rfl) q1 q2 ⟨a,ns.map V.int,rfl,⟨if_pos rfl,fun z=>z.elim,fun z=>by cases z⟩,xGz ns⟩
 ·obtain ⟨q1,q2⟩:=one _ hS fun _ z=>by cases z
  exact fin _ _ (.inl rfl) q1 q2 ⟨a,ns.map V.int,rfl,.inl (.inl ⟨o,if_pos rfl⟩),xGz ns⟩
 ·exact fin (fun _=>none) _ (.inl rfl) (fun _ _ e=>by cases e) (fun _ _ e=>by cases e) ⟨a,ns.map V.int,rfl,.inl (.inr hS),xGz ns⟩
theorem cx_no (h:L2N.CX P w [] H s (fun _ _ _=>False) e s'):False:=by
 exact h.elim fun _ ⟨_,_,_,_,_,_,_,_,_,_,_,z⟩=>z
def lcT (vs:List Nat)(tg:D->List SD->Option (List SD))(tt:M Bool)(te:M SD)(d:D)(ρ:List SD):Rs (Option D):=match tg d (xA3 ρ vs) with
 | none=> .no
 | some ρ1=>match tt ρ1 with
  | .ok false ρ2=> .ok none (unw ρ ρ2 vs)
  | .ok true ρ2=>match fE te ρ2 with
   | .ok y ρ3=> .ok (some y) (unw ρ ρ3 vs)
   | _=> .no
  | _=> .no
section
variable {vs:List Nat}{tg:D->List SD->Option (List SD)}{tt:M Bool}{te:M SD}
theorem xVd:lcL vs tg tt te (d::l) acc ρ=match tg d (xA3 ρ vs) with
  | none=> .no
  | some ρ1=>match tt ρ1 with
   | .ok false ρ2=>lcL vs tg tt te l acc (unw ρ ρ2 vs)
   | .ok true ρ2=>match fE te ρ2 with
    | .ok y ρ3=>if acc.length<1000000 then lcL vs tg tt te l (acc++[y]) (unw ρ ρ3 vs) else .no
    | _=> .no
   | _=> .no:=rfl
theorem xVf (h:lcT vs tg tt te d ρ= .ok (some y) ρ')(ha:acc.length<1000000):lcL vs tg tt te (d::l) acc ρ=lcL vs tg tt te l (acc++[y]) ρ':=by
 rw [xVd]
 unfold lcT at h
 revert h
 cases tg d (xA3 ρ vs) with
 | none=>intro h;cases h
 | some ρ1=>
  dsimp only
  cases tt ρ1 with
  | ok k ρ2=>
   cases k with
   | false=>intro h;cases h
   | true=>
    dsimp only
    cases fE te ρ2 with
    | ok z ρ3=>
     intro h
     cases h
     exact if_pos ha
    | ex x ρ3=>intro h;cases h
    | no=>intro h;cases h
  | ex x ρ2=>intro h;cases h
  | no=>intro h;cases h
theorem lc_ex (I:Nat->List SD->Prop)(P:Nat->D->Prop)(step: ∀ (i:Nat) (d:D) (ρ:List SD),l[i]? =some d->I i ρ-> ∃ y ρ',lcT vs tg tt te d ρ= .ok (some y) ρ'/\P i y/\I (i+1) ρ')(h0:I 0 ρ)(hl:l.length<=1000000):
  ∃ ys ρ',lcL vs tg tt te l [] ρ= .ok ys ρ'/\ys.length=l.length/\(∀ (i:Nat) (y:D),ys[i]? =some y->P i y)/\I l.length ρ':=by
 have go: ∀ (n:Nat) (m acc:List D) (i:Nat) (ρ:List SD),m.length=n->l.drop i=m->acc.length=i->i<=l.length->(∀ (i:Nat) (y:D),acc[i]? =some y->P i y)->I i ρ->
   ∃ ys ρ',lcL vs tg tt te m acc ρ= .ok ys ρ'/\ys.length=l.length/\(∀ (i:Nat) (y:D),ys[i]? =some y->P i y)/\I l.length ρ':=by
  intro n
  induction n with
  | zero=>
   intro m acc i ρ hn hd ha hi hp hI
   have hm:m=[]:=List.eq_nil_of_length_eq_zero hn
   subst hm
   have hi':i=l.length:=by
    have z:=yD7.mp hd
    omega
   subst hi'
   exact ⟨acc,ρ,by rw [lcL],ha,hp,hI⟩
  | succ n ih=>
   intro m acc i ρ hn hd ha hi hp hI
   cases m with
   | nil=>cases hn
   | cons d m=>
    have hlt:i<l.length:=by
     have z:=congrArg yEl hd
     rw [yDy,yDa] at z
     omega
    have hgd:l[i]? =some d:=by
     rw [yDv hlt] at hd
     rw [yC6 hlt]
     cases hd
     rfl
    have hm:l.drop (i+1)=m:=by
     rw [yDv hlt] at hd
     cases hd
     rfl
    obtain ⟨y,ρ',e1,e2,e3⟩:=step i d ρ hgd hI
    rw [xVf e1 (by omega)]
    refine ih m (acc++[y]) (i+1) ρ' (by simpa using hn) hm (by rw [yDl,ha];rfl) hlt (fun j z hz=> ?_) e3
    by_cases hj:j<acc.length
    ·rw [yDj hj] at hz
     exact hp j z hz
    ·rw [yD4 (by omega)] at hz
     have:j=i:=by
      have q:=(yC1.mp hz).1
      simp at q
      omega
     subst this
     rw [ha,Nat.sub_self] at hz
     cases hz
     exact e2
 exact go l.length l [] 0 ρ rfl rfl rfl (yDs _) (fun i y h=>by simp at h) h0
end
theorem xCn (lo:Int)(n:Nat):(rngD lo n).length=n:=by simp [rngD]
theorem xYz {lo:Int}{n i:Nat}(h:i<n):(rngD lo n)[i]? =some (.int (lo+(i:Nat))):=by
 unfold rngD
 rw [yDb,List.getElem?_range h]
 rfl
theorem xQx (a b:Int):peq (.int a) (.int b)=decide (a=b):=by
 show PyData.eqv (.int a) (.int b)=_
 unfold PyData.eqv
 rfl
theorem pl_int (n:Nat)(a:Int):D.pl n (.int a)=true:=by cases n <;> rfl
def Sz (k:Nat)(i:Int):Prop:=i.natAbs<2 ^ k
theorem Sz.mono (h:Sz j i)(l:j<=k):Sz k i:=Nat.lt_of_lt_of_le h (Nat.pow_le_pow_right (by decide) l)
theorem Sz.add (h:Sz j a)(l:Sz j b):Sz (j+1) (a+b):=by
 unfold Sz at*
 have z:=Int.natAbs_add_le a b
 rw [Nat.pow_succ]
 omega
theorem Sz.neg (h:Sz j a):Sz j (-a):=by
 unfold Sz at*
 rw [Int.natAbs_neg]
 exact h
theorem Sz.sub (h:Sz j a)(l:Sz j b):Sz (j+1) (a-b):=by
 rw [Int.sub_eq_add_neg]
 exact h.add l.neg
theorem xNm (h:n<2 ^ k):n.log2<=k:=by
 by_cases hn:n=0
 ·rw [hn]
  exact yDs _
 ·exact Nat.le_of_lt ((Nat.log2_lt hn).mpr h)
theorem xNl (h:Sz j a)(l:Sz k b)(s:j+k<1000000):mulG a b:=by
 have h1:=xNm h
 have h2:=xNm l
 unfold mulG
 omega
theorem xQ3 (hb:b≠0)(l:Sz k b)(s:k<9000):divG a b:=by
 have h2:=xNm l
 exact ⟨hb,.inl (by omega)⟩
def byG (a b:Int):Int:=if b<0 then 0-(Int.gcd a b:Int) else (Int.gcd a b:Int)
def lo (a b:Int):Int×Int:=(a.fdiv (byG a b),b.fdiv (byG a b))
theorem xZr (len n:Nat):ixN len (n:Int)=if n<len then some n else none:=by
 unfold ixN
 rw [if_pos (Int.natCast_nonneg n)]
 by_cases h:n<len
 ·rw [if_pos (show n<len from h),if_pos (by omega)]
  rfl
 ·rw [if_neg (show ¬ n<len from h),if_neg (by omega)]
theorem atI_nat {α:Type}(l:List α)(n:Nat):atI l (n:Int)=l[n]? :=by
 unfold atI
 rw [xZr]
 by_cases h:n<l.length
 ·rw [if_pos h]
  rfl
 ·rw [if_neg h,yDx.mpr (by omega)]
  rfl
def absFuel (i:Nat)(ρ:List SD):Nat:=match ρ[i]? with
 | some (.va (.int b))=>b.natAbs+2
 | _=>0
structure Wp {α:Type}(m:M α)(ρ:List SD)(p:α->List SD->Prop)(E:Exn->List SD->Prop):Prop where
 run:match m ρ with
  | .ok a ρ'=>p a ρ'
  | .ex x ρ'=>E x ρ'
  | .no=>False
structure Fw (r:FR)(p:SD->List SD->Prop)(E:Exn->List SD->Prop):Prop where
 run:match r with
  | .ok a o=>p a o
  | .ex x o=>E x o
  | .no=>False
abbrev NoX:Exn->List SD->Prop:=fun _ _=>False
def Ow (r:Option SD)(p:SD->Prop):Prop:= ∃ z,r=some z/\p z
theorem Wp.mono {α:Type}{m:M α}{ρ:List SD}{p q:α->List SD->Prop}{E F:Exn->List SD->Prop}(h:Wp m ρ p E)(f: ∀ a ρ',p a ρ'->q a ρ')(g: ∀ x ρ',E x ρ'->F x ρ'):Wp m ρ q F:=by
 refine ⟨?_⟩
 have h:=h.run
 split
 ·rename_i e
  rw [e] at h
  exact f _ _ h
 ·rename_i e
  rw [e] at h
  exact g _ _ h
 ·rename_i e
  rw [e] at h
  exact h
theorem Fw.ok {p:SD->List SD->Prop}(h:Fw f p NoX): ∃ r o,f= .ok r o/\p r o:=by
 have h:=h.run
 split at h
 ·exact ⟨_,_,rfl,h⟩
 ·exact h.elim
 ·exact h.elim
section
variable {α β:Type}{ρ:List SD}{E:Exn->List SD->Prop}
theorem xAm {k:α->M β}{p:β->List SD->Prop}(h:Wp m ρ (fun a ρ'=>Wp (k a) ρ' p E) E):Wp (m.bind k) ρ p E:=by
 refine ⟨?_⟩
 have h:=h.run
 unfold M.bind
 cases e:m ρ with
 | ok a ρ'=>
  rw [e] at h
  exact h.run
 | ex x ρ'=>
  rw [e] at h
  exact h
 | no=>
  rw [e] at h
  exact h
theorem xNy {o:Option α}{p:α->List SD->Prop}(h: ∃ z,o=some z/\p z ρ):Wp (M.opt o) ρ p E:=by
 obtain ⟨z,rfl,h⟩:=h
 exact ⟨h⟩
variable {p:SD->List SD->Prop}{q:D->List SD->Prop}{t:Bool->List SD->Prop}{s:Fl->List SD->Prop}{pl:List D->List SD->Prop}{pa:List Ar->List SD->Prop}
theorem w_c (h:p (.va d) ρ):Wp (mC d) ρ p E:=⟨h⟩
theorem w_fz (h:Wp m ρ (fun r ρ'=>Wp (fzM r) ρ' q E) E):Wp (fE m) ρ q E:=xAm h
theorem yA1 (h:q d ρ):Wp (fzM (.va d)) ρ q E:=⟨h⟩
theorem yBb (h:q (.lst false l) ρ):Wp (fzM (.ow (.lst b l))) ρ q E:=⟨h⟩
theorem yCn (e:ρ[i]? =some (.va d))(h:p (.va d) ρ):Wp (mVar i) ρ p E:=by
 refine ⟨?_⟩
 unfold mVar
 rw [e]
 exact h
theorem xW2 (e:ρ[i]? =some (.ow (.lst b l)))(h:p (.va (.lst false l)) (ρ.set i (.va (.lst false l)))):Wp (mVar i) ρ p E:=by
 refine ⟨?_⟩
 unfold mVar
 rw [e]
 exact h
theorem yA5 (e:ρ[i]? =some (.va d))(h:p (.va d) ρ):Wp (mMov i) ρ p E:=by
 refine ⟨?_⟩
 unfold mMov
 rw [e]
 exact h
theorem w_op {g:D->D->Option SD}{ma mb:M SD}(h:Wp (fE ma) ρ (fun d ρ1=>Wp (fE mb) ρ1 (fun e ρ2=>Ow (g d e) fun z=>p z ρ2) E) E):Wp (mOp g ma mb) ρ p E:=by
 refine xAm (h.mono (fun d ρ1 h=>xAm (h.mono (fun e ρ2 h=>xNy h) fun _ _ z=>z)) fun _ _ z=>z)
theorem w_un {g:D->Option SD}{ma:M SD}(h:Wp (fE ma) ρ (fun d ρ1=>Ow (g d) fun z=>p z ρ1) E):Wp (mUn g ma) ρ p E:=xAm (h.mono (fun d ρ1 h=>xNy h) fun _ _ z=>z)
theorem xTu {g g':D->D->Option SD}{ma mb mc:M SD}(h:Wp (fE ma) ρ (fun d ρ1=>Wp (fE mb) ρ1 (fun e ρ2=>Ow (g d e) fun z=>Wp (xO7 g' e mc z) ρ2 p E) E) E):Wp (xDz g g' ma mb mc) ρ p E:=
 xAm (h.mono (fun d ρ1 h=>xAm (h.mono (fun e ρ2 h=>xAm (xNy h)) fun _ _ z=>z)) fun _ _ z=>z)
theorem yAh {g':D->D->Option SD}{e:D}{mc:M SD}{b:Bool}(h:(b=true->Wp (fE mc) ρ (fun f ρ1=>Ow (g' e f) fun z=>p z ρ1) E)/\(b=false->p (.va (.bl false)) ρ)):Wp (xO7 g' e mc (.va (.bl b))) ρ p E:=by
 cases b with
 | true=>exact xAm ((h.1 rfl).mono (fun _ _ h=>xNy h) fun _ _ z=>z)
 | false=>exact ⟨h.2 rfl⟩
theorem yAs {m:M SD}(h:Wp (fE m) ρ (fun d ρ'=> ∃ b,d= .bl b/\t b ρ') E):Wp (mTst m) ρ t E:=xAm (h.mono (fun d ρ' h=>by
 obtain ⟨b,rfl,h⟩:=h
 exact ⟨h⟩) fun _ _ z=>z)
theorem yAn {m:M Bool}(h:Wp m ρ (fun b ρ'=>t (!b) ρ') E):Wp (mNot m) ρ t E:=xAm (h.mono (fun _ _ h=>⟨h⟩) fun _ _ z=>z)
theorem xWi {m n:M Bool}(h:Wp m ρ (fun b ρ'=>(b=true->Wp n ρ' t E)/\(b=false->t false ρ')) E):Wp (mAnd m n) ρ t E:=xAm (h.mono (fun b ρ' h=>by
 cases b with
 | true=>exact h.1 rfl
 | false=>exact ⟨h.2 rfl⟩) fun _ _ z=>z)
theorem yBq {m n:M Bool}(h:Wp m ρ (fun b ρ'=>(b=true->t true ρ')/\(b=false->Wp n ρ' t E)) E):Wp (mOr m n) ρ t E:=xAm (h.mono (fun b ρ' h=>by
 cases b with
 | true=>exact ⟨h.1 rfl⟩
 | false=>exact h.2 rfl) fun _ _ z=>z)
theorem xW7 {m n:M SD}(h:Wp (mTst m) ρ (fun b ρ'=>(b=true->Wp n ρ' p E)/\(b=false->p (.va (.bl false)) ρ')) E):Wp (xU4 m n) ρ p E:=xAm (h.mono (fun b ρ' h=>by
 cases b with
 | true=>exact h.1 rfl
 | false=>exact ⟨h.2 rfl⟩) fun _ _ z=>z)
theorem xW8 {m:M SD}(h:Wp (mTst m) ρ (fun b ρ'=>p (.va (.bl (!b))) ρ') E):Wp (xX2 m) ρ p E:=xAm (h.mono (fun _ _ h=>⟨h⟩) fun _ _ z=>z)
theorem yCv {c:M Bool}{m n:M SD}(h:Wp c ρ (fun b ρ'=>(b=true->Wp m ρ' p E)/\(b=false->Wp n ρ' p E)) E):Wp (mIfE c m n) ρ p E:=xAm (h.mono (fun b ρ' h=>by
 cases b with
 | true=>exact h.1 rfl
 | false=>exact h.2 rfl) fun _ _ z=>z)
theorem yA2 (h:pl [] ρ):Wp mNil ρ pl E:=⟨h⟩
theorem xWq {m:M SD}{n:M (List D)}(h:Wp (fE m) ρ (fun d ρ1=>Wp n ρ1 (fun ds ρ2=>pl (d::ds) ρ2) E) E):Wp (xAc m n) ρ pl E:=xAm (h.mono (fun _ _ h=>xAm (h.mono (fun _ _ h=>⟨h⟩) fun _ _ z=>z)) fun _ _ z=>z)
theorem xWf (h:pa [] ρ):Wp aNil ρ pa E:=⟨h⟩
theorem yBu {m:M SD}{n:M (List Ar)}(h:Wp (fE m) ρ (fun d ρ1=>Wp n ρ1 (fun ds ρ2=>pa (.va d::ds) ρ2) E) E):Wp (aVa m n) ρ pa E:=xAm (h.mono (fun _ _ h=>xAm (h.mono (fun _ _ h=>⟨h⟩) fun _ _ z=>z)) fun _ _ z=>z)
theorem yCb {i:Nat}{n:M (List Ar)}(g:xFr ρ[i]? =true)(h:Wp n ρ (fun ds ρ2=>pa (.sl i::ds) ρ2) E):Wp (aSl i n) ρ pa E:=by
 refine ⟨?_⟩
 unfold aSl
 rw [if_pos g]
 exact (xAm (p:=pa) (h.mono (fun _ _ h=>⟨h⟩) fun _ _ z=>z)).run
theorem yB5 {n:M (List D)}(h:Wp n ρ (fun ds ρ'=>ds.length<=1000/\p (.va (.tup ds)) ρ') E):Wp (mTup n) ρ p E:=xAm (h.mono (fun ds ρ' h=>by
 rw [if_pos h.1]
 exact ⟨h.2⟩) fun _ _ z=>z)
theorem yBd {n:M (List D)}(h:Wp n ρ (fun ds ρ'=>ds.length<=1000/\p (.ow (.lst false ds)) ρ') E):Wp (mLst n) ρ p E:=xAm (h.mono (fun ds ρ' h=>by
 rw [if_pos h.1]
 exact ⟨h.2⟩) fun _ _ z=>z)
theorem w_cb {g:List D->Option SD}{n:M (List D)}(h:Wp n ρ (fun ds ρ'=>Ow (g ds) fun z=>p z ρ') E):Wp (mCB g n) ρ p E:=xAm (h.mono (fun _ _ h=>xNy h) fun _ _ z=>z)
theorem xWk {f:List SD->FR}{dd:List D}{n:M (List Ar)}(h:Wp n ρ (fun as ρ'=>(slots as).Nodup/\ ∃ xs,xFp ρ' as=some xs/\Fw (f (xs++dd.map SD.va)) (fun r o=>p r (xE5 ρ' as o)) fun x o=>E x (xE5 ρ' as o)) E):Wp (xAx f dd n) ρ p E:=xAm (h.mono (fun as ρ' h=>by
 obtain ⟨h1,xs,h2,h3⟩:=h
 refine ⟨?_⟩
 simp only [if_pos h1,h2]
 have h3:=h3.run
 split at h3
 ·rename_i e
  simp only [e]
  exact h3
 ·rename_i e
  simp only [e]
  exact h3
 ·exact h3.elim) fun _ _ z=>z)
theorem fw_ok (e:f= .ok r o)(h:p r o):Fw f p E:=by
 rw [e]
 exact ⟨h⟩
theorem xZ6 {i:Nat}{n:M (List D)}{b:Bool}{l:List D}(e:ρ[i]? =some (.ow (.lst b l)))(h:Wp n ρ (fun ds ρ'=> ∃ b l v,ρ'[i]? =some (.ow (.lst b l))/\ds=[v]/\l.length<1000000/\p (.va .non) (ρ'.set i (.ow (.lst b (l++[v]))))) E):Wp (mApp i n) ρ p E:=by
 refine ⟨?_⟩
 unfold mApp
 rw [if_pos (by rw [e];rfl)]
 refine Wp.run (E:=E) (p:=p) ?_
 refine xAm (p:=p) (h.mono (fun ds ρ' h=> ?_) fun _ _ z=>z)
 obtain ⟨b,l,v,e1,rfl,hl,h⟩:=h
 refine ⟨?_⟩
 unfold appS
 simp only [e1,if_pos hl]
 exact h
theorem w_sl {m:M SD}{ml mh:M (Option Int)}(h:Wp (fE m) ρ (fun d ρ1=>Wp ml ρ1 (fun lo ρ2=>Wp mh ρ2 (fun hi ρ3=>Ow (slcD d lo hi) fun z=>p z ρ3) E) E) E):Wp (mSl m ml mh) ρ p E:=
 xAm (h.mono (fun _ _ h=>xAm (h.mono (fun _ _ h=>xAm (h.mono (fun _ _ h=>xNy h) fun _ _ z=>z)) fun _ _ z=>z)) fun _ _ z=>z)
variable {po:Option Int->List SD->Prop}
theorem w_pn (h:po none ρ):Wp mPN ρ po E:=⟨h⟩
theorem w_ps {m:M SD}(h:Wp (fE m) ρ (fun d ρ'=> ∃ i,d= .int i/\po (some i) ρ') E):Wp (mPS m) ρ po E:=xAm (h.mono (fun d ρ' h=>by
 obtain ⟨i,rfl,h⟩:=h
 exact ⟨h⟩) fun _ _ z=>z)
theorem w_lc {it:M (List D)}{vs:List Nat}{g:D->List SD->Option (List SD)}{tt:M Bool}{te:M SD}(h:Wp it ρ (fun l ρ1=>Wp (lcL vs g tt te l []) ρ1 (fun ys ρ2=>p (.ow (.lst false ys)) ρ2) E) E):Wp (mLc it vs g tt te) ρ p E:=xAm (h.mono (fun _ _ h=>xAm (h.mono (fun _ _ h=>⟨h⟩) fun _ _ z=>z)) fun _ _ z=>z)
theorem xWm {n:M (List D)}(h:Wp n ρ (fun ds ρ'=> ∃ j,ds=[.int j]/\(-(2 ^ 62)<=j/\j<2 ^ 62)/\pl (rngD 0 j.toNat) ρ') E):Wp (iRg1 n) ρ pl E:=xAm (h.mono (fun ds ρ' h=>by
 obtain ⟨j,rfl,hj,h⟩:=h
 show Wp (if -(2 ^ 62)<=j/\j<2 ^ 62 then M.ret (rngD 0 j.toNat) else M.no) ρ' pl E
 rw [if_pos hj]
 exact ⟨h⟩) fun _ _ z=>z)
theorem xAf (h:Wp a ρ (fun f ρ1=>match f with| .nx=>Wp b ρ1 s E|f=>s f ρ1) E):Wp (sSeq a b) ρ s E:=by
 refine ⟨?_⟩
 have h:=h.run
 unfold sSeq
 cases e:a ρ with
 | ok f ρ1=>
  rw [e] at h
  cases f <;> first|exact h.run|exact h
 | ex x ρ1=>
  rw [e] at h
  exact h
 | no=>
  rw [e] at h
  exact h
theorem w_nx (h:s .nx ρ):Wp sNx ρ s E:=⟨h⟩
theorem yA4 {m:M SD}(h:Wp m ρ (fun r ρ'=>s (.rt r) ρ') E):Wp (sRet m) ρ s E:=xAm (h.mono (fun _ _ h=>⟨h⟩) fun _ _ z=>z)
theorem yBf {i:Nat}{m:M SD}(h:Wp m ρ (fun r ρ'=>s .nx (ρ'.set i r)) E):Wp (sSet i m) ρ s E:=xAm (h.mono (fun _ _ h=>⟨h⟩) fun _ _ z=>z)
theorem xQ1 {m:M SD}(h:Wp m ρ (fun r ρ'=>s .nx ρ') E):Wp (xHz m) ρ s E:=xAm (h.mono (fun _ _ h=>⟨h⟩) fun _ _ z=>z)
theorem w_if {c:M Bool}{a b:S}(h:Wp c ρ (fun k ρ'=>(k=true->Wp a ρ' s E)/\(k=false->Wp b ρ' s E)) E):Wp (sIf c a b) ρ s E:=xAm (h.mono (fun b ρ' h=>by
 cases b with
 | true=>exact h.1 rfl
 | false=>exact h.2 rfl) fun _ _ z=>z)
theorem yAi {g:D->List SD->Option (List SD)}{m:M SD}(h:Wp (fE m) ρ (fun d ρ'=> ∃ ρ2,g d ρ'=some ρ2/\s .nx ρ2) E):Wp (sAsg g m) ρ s E:=xAm (h.mono (fun d ρ' h=>by
 obtain ⟨ρ2,e,h⟩:=h
 refine ⟨?_⟩
 simp only [e]
 exact h) fun _ _ z=>z)
theorem xHk {g:D->List SD->Option (List SD)}(h:Wp m ρ (fun l ρ'=>Wp (forL g b l) ρ' s E) E):Wp (sFor m g b) ρ s E:=xAm h
theorem xDw {g:D->List SD->Option (List SD)}(I:Nat->List SD->Prop)
  (step: ∀ (i:Nat) (d:D) (ρ:List SD),l[i]? =some d->I i ρ-> ∃ ρ1,g d ρ=some ρ1/\Wp b ρ1 (fun f ρ2=>match f with| .nx=>I (i+1) ρ2| .ct=>I (i+1) ρ2| .bk=>s .nx ρ2| .rt r=>s (.rt r) ρ2) E)
  (h0:I 0 ρ) (fin: ∀ ρ',I l.length ρ'->s .nx ρ'):Wp (forL g b l) ρ s E:=by
 have go: ∀ (m:List D) (i:Nat) (ρ:List SD),l.drop i=m->i<=l.length->I i ρ->Wp (forL g b m) ρ s E:=by
  intro m
  induction m with
  | nil=>
   intro i ρ hd hi hI
   have hi':i=l.length:=by
    have z:=yD7.mp hd
    omega
   subst hi'
   exact ⟨fin ρ hI⟩
  | cons d m ih=>
   intro i ρ hd hi hI
   have hlt:i<l.length:=by
    have z:=congrArg yEl hd
    rw [yDy,yDa] at z
    omega
   have hgd:l[i]? =some d:=by
    rw [yDv hlt] at hd
    rw [yC6 hlt]
    cases hd
    rfl
   have hm:l.drop (i+1)=m:=by
    rw [yDv hlt] at hd
    cases hd
    rfl
   obtain ⟨ρ1,e1,h⟩:=step i d ρ hgd hI
   refine ⟨?_⟩
   have h:=h.run
   unfold forL
   simp only [e1]
   cases eb:b ρ1 with
   | ok f ρ2=>
    rw [eb] at h
    cases f with
    | nx=>exact (ih (i+1) ρ2 hm hlt h).run
    | ct=>exact (ih (i+1) ρ2 hm hlt h).run
    | bk=>exact h
    | rt r=>exact h
   | ex x ρ2=>
    rw [eb] at h
    exact h
   | no=>
    rw [eb] at h
    exact h
 exact go l 0 ρ rfl (yDs _) h0
theorem xA6 {p:SD->List SD->Prop}(ho:(xP4 0 as).all (A.contains ·)=true)
  (h:Wp b (as++yDg (N-as.length) SD.un) (fun f ρ'=>match f with| .rt r=>p r (nrm as (ρ'.take as.length))| .nx=>p (.va .non) (nrm as (ρ'.take as.length))|_=>False) fun x ρ'=>E x (nrm as (ρ'.take as.length))):Fw (Fm.runN A N b as) p E:=by
 refine ⟨?_⟩
 unfold Fm.runN runF
 rw [if_pos ho]
 have h:=h.run
 cases e:b (as++yDg (N-as.length) SD.un) with
 | ok f ρ'=>
  rw [e] at h
  cases f with
  | rt r=>exact h
  | nx=>exact h
  | bk=>exact h.elim
  | ct=>exact h.elim
 | ex x ρ'=>
  rw [e] at h
  exact h
 | no=>
  rw [e] at h
  exact h.elim
theorem xXl {g:D->List SD->Option (List SD)}{P:D->List SD->Prop}(e:g d (xA3 ρ vs)=some ρ1)(h:Wp (fE te) ρ1 (fun y ρ3=>P y (unw ρ ρ3 vs)) NoX): ∃ y ρ',lcT vs g (M.ret true) te d ρ= .ok (some y) ρ'/\P y ρ':=by
 unfold lcT
 simp only [e,M.ret]
 have h:=h.run
 cases e2:fE te ρ1 with
 | ok y ρ3=>
  rw [e2] at h
  exact ⟨y,_,rfl,h⟩
 | ex x ρ3=>
  rw [e2] at h
  exact h.elim
 | no=>
  rw [e2] at h
  exact h.elim
theorem yCo {g:D->List SD->Option (List SD)}(I:Nat->List SD->Prop)(P:Nat->D->Prop)
  (step: ∀ (i:Nat) (d:D) (ρ:List SD),l[i]? =some d->I i ρ-> ∃ ρ1,g d (xA3 ρ vs)=some ρ1/\Wp (fE te) ρ1 (fun y ρ3=>P i y/\I (i+1) (unw ρ ρ3 vs)) NoX) (h0:I 0 ρ) (hl:l.length<=1000000)
  (fin: ∀ ys ρ',ys.length=l.length->(∀ (i:Nat) (y:D),ys[i]? =some y->P i y)->I l.length ρ'->pl ys ρ'):Wp (lcL vs g (M.ret true) te l []) ρ pl E:=by
 obtain ⟨ys,ρ',e,h1,h2,h3⟩:=lc_ex (vs:=vs) (tg:=g) (tt:=M.ret true) (te:=te) I P (fun i d ρ hd hI=>by
  obtain ⟨ρ1,e1,h⟩:=step i d ρ hd hI
  obtain ⟨y,ρ',e2,e3⟩:=xXl (P:=fun y ρ'=>P i y/\I (i+1) ρ') e1 h
  exact ⟨y,ρ',e2,e3⟩) h0 hl
 refine ⟨?_⟩
 rw [e]
 exact fin ys ρ' h1 h2 h3
end
section
variable {p:SD->Prop}{a b:Int}
theorem yCu (h:p (.va (.int (a-b)))):Ow (subD (.int a) (.int b)) p:=⟨_,rfl,h⟩
theorem xZw (h:p (.va (.int (a*b))))(g:mulG a b):Ow (repD (.int a) (.int b)) p:=⟨_,if_pos g,h⟩
theorem yBy (h:p (.va (.int (a.fmod b))))(g:b≠0):Ow (modD (.int a) (.int b)) p:=⟨_,if_neg g,h⟩
theorem yBc (h:p (.va (.int (a.fdiv b))))(g:divG a b):Ow (divD (.int a) (.int b)) p:=⟨_,if_pos g,h⟩
theorem yAc (h:p (.va (.int (a ^ b.toNat))))(g:powG a b):Ow (powD (.int a) (.int b)) p:=⟨_,if_pos g,h⟩
theorem o_lt (h:p (.va (.bl (decide (a<b))))):Ow (ltD (.int a) (.int b)) p:=⟨_,rfl,h⟩
theorem o_le (h:p (.va (.bl (decide (a<=b))))):Ow (leD (.int a) (.int b)) p:=⟨_,rfl,h⟩
theorem o_gt (h:p (.va (.bl (decide (b<a))))):Ow (gtD (.int a) (.int b)) p:=⟨_,rfl,h⟩
theorem o_ge (h:p (.va (.bl (decide (b<=a))))):Ow (geD (.int a) (.int b)) p:=⟨_,rfl,h⟩
theorem xZ1 (h:p (.va (.bl (decide (a=b))))):Ow (eqD (.int a) (.int b)) p:=⟨_,by
 unfold eqD
 rw [pl_int,pl_int,xQx]
 rfl,h⟩
theorem yAb (h:p (.va (.bl (!decide (a=b))))):Ow (neD (.int a) (.int b)) p:=⟨_,by
 unfold neD
 rw [pl_int,pl_int,xQx]
 rfl,h⟩
theorem o_eq (h:p (.va (.bl (peq d e))))(g:d.pl 60=true)(g':e.pl 60=true):Ow (eqD d e) p:=⟨_,by
 unfold eqD
 rw [g,g']
 rfl,h⟩
theorem o_ne (h:p (.va (.bl (!peq d e))))(g:d.pl 60=true)(g':e.pl 60=true):Ow (neD d e) p:=⟨_,by
 unfold neD
 rw [g,g']
 rfl,h⟩
theorem yBa (h:p (.va (.int (-a)))):Ow (negD (.int a)) p:=⟨_,rfl,h⟩
theorem xXf (e:atI l a=some d)(h:p (.va d)):Ow (ixD (.tup l) (.int a)) p:=⟨.va d,by
 show (atI l a).map SD.va=_
 rw [e]
 rfl,h⟩
theorem xY8 (e:atI l a=some d)(h:p (.va d)):Ow (ixD (.lst c l) (.int a)) p:=⟨.va d,by
 show (atI l a).map SD.va=_
 rw [e]
 rfl,h⟩
theorem o_rep (h:p (.ow (.lst false (yDg a.toNat l).flatten)))(g: -(2 ^ 62)<=a/\a<2 ^ 62/\l.length*a.toNat<=1000000):Ow (repD (.lst c l) (.int a)) p:=⟨_,if_pos g,h⟩
theorem yBh (h:p (.va (.int a.natAbs))):Ow (absD [.int a]) p:=⟨_,by
 have e:(if a<0 then -a else a)=(a.natAbs:Int):=by
  split <;> omega
 show some (SD.va (.int (if a<0 then -a else a)))=_
 rw [e],h⟩
end
theorem xAo {p q:SD->List SD->Prop}{E:Exn->List SD->Prop}(h:Fw f p NoX)(g: ∀ r o,p r o->q r o):Fw f q E:=by
 obtain ⟨r,o,e,h⟩:=h.ok
 exact fw_ok e (g r o h)
section
variable {γ:Type}{ρ:List SD}{E:Exn->List SD->Prop}{pl:List D->List SD->Prop}
theorem xYg {ys:List D}{L:List γ}{g:γ->D}(hl:ys.length=L.length)(h: ∀ (i:Nat) (y:D),ys[i]? =some y-> ∃ c,L[i]? =some c/\y=g c):ys=L.map g:=by
 apply yEq
 intro i
 by_cases hi:i<ys.length
 ·obtain ⟨c,e1,e2⟩:=h i ys[i] (yC6 hi)
  rw [yC6 hi,yDb,e1,e2]
  rfl
 ·rw [yDx.mpr (by omega),yDx.mpr (by rw [yC0];omega)]
theorem xYh {Q:γ->Prop}{g:γ->D}(h: ∀ y∈ys,∃ c,Q c/\y=g c): ∃ L:List γ,ys=L.map g/\ ∀ c∈L,Q c:=by
 induction ys with
 | nil=>exact ⟨[],rfl,fun c hc=>by cases hc⟩
 | cons y ys ih=>
  obtain ⟨c,h1,rfl⟩:=h y (yC2 ..)
  obtain ⟨L,rfl,h2⟩:=ih fun z hz=>h z (yC8 _ hz)
  refine ⟨c::L,rfl,fun d hd=> ?_⟩
  have in_or:=yDo.mp hd;rcases in_or with rfl|hd
  ·exact h1
  ·exact h2 d hd
theorem xJ2 {vs:List Nat}{g:D->List SD->Option (List SD)}{te:M SD}{l:List D}(L:List γ)(m:γ->D)(hL:L.length=l.length)
  (step: ∀ (i:Nat) (d:D) (c:γ),l[i]? =some d->L[i]? =some c-> ∃ ρ1,g d (xA3 ρ vs)=some ρ1/\Wp (fE te) ρ1 (fun y ρ3=>y=m c/\unw ρ ρ3 vs=ρ) NoX) (hl:l.length<=1000000) (fin:pl (L.map m) ρ):Wp (lcL vs g (M.ret true) te l []) ρ pl E:=by
 refine yCo (I:=fun _ ρ'=>ρ'=ρ) (P:=fun i y=> ∃ c,L[i]? =some c/\y=m c) (fun i d ρ' hd hρ=> ?_) rfl hl fun ys ρ' h1 h2 h3=> ?_
 ·subst hρ
  have hi:i<L.length:=by
   rw [hL]
   exact (yC1.mp hd).1
  obtain ⟨ρ1,e1,h⟩:=step i d L[i] hd (yC6 hi)
  exact ⟨ρ1,e1,h.mono (fun y ρ3 ⟨a,b⟩=>⟨⟨_,yC6 hi,a⟩,b⟩) fun _ _ z=>z⟩
 ·subst h3
  rw [xYg (h1.trans hL.symm) h2]
  exact fin
theorem xT6 {g:D->List SD->Option (List SD)}(I:Nat->List SD->Prop)(Q:γ->Prop)(m:γ->D)
  (step: ∀ (i:Nat) (d:D) (ρ:List SD),l[i]? =some d->I i ρ-> ∃ ρ1,g d (xA3 ρ vs)=some ρ1/\Wp (fE te) ρ1 (fun y ρ3=>(∃ c,Q c/\y=m c)/\I (i+1) (unw ρ ρ3 vs)) NoX) (h0:I 0 ρ) (hl:l.length<=1000000)
  (fin: ∀ (L:List γ) ρ',L.length=l.length->(∀ c∈L,Q c)->I l.length ρ'->pl (L.map m) ρ'):Wp (lcL vs g (M.ret true) te l []) ρ pl E:=by
 refine yCo (I:=I) (P:=fun i y=> ∃ c,Q c/\y=m c) step h0 hl fun ys ρ' h1 h2 h3=> ?_
 obtain ⟨L,rfl,hQ⟩:=xYh (ys:=ys) (Q:=Q) (g:=m) fun y hy=>by
  obtain ⟨i,hi,e⟩:=List.mem_iff_getElem.mp hy
  exact h2 i y (by rw [yC6 hi,e])
 exact fin L ρ' (by rw [<- h1,yC0]) hQ h3
end
theorem xWx {p:SD->Prop}(h:p (.va (.tup l))):Ow (tupD [.lst b l]) p:=⟨_,rfl,h⟩
theorem xQk {p:SD->Prop}(h:p (.ow (.lst false l))):Ow (xRe [.lst b l]) p:=⟨_,rfl,h⟩
theorem xJa (bs:List Bool):xH2 (bs.map D.bl)=some bs:=by
 induction bs with
 | nil=>rfl
 | cons b bs ih=>
  show (xH2 (bs.map D.bl)).map (b:: ·)=_
  rw [ih]
  rfl
theorem yA8 {p:SD->Prop}{b:Bool}{bs:List Bool}(h:p (.va (.bl (bs.all id)))):Ow (allD [.lst b (bs.map D.bl)]) p:=⟨_,by
 unfold allD
 dsimp only
 rw [xJa]
 rfl,h⟩
theorem xZ4 {p:SD->Prop}{b:Bool}{bs:List Bool}(h:p (.va (.bl (bs.any id)))):Ow (anyD [.lst b (bs.map D.bl)]) p:=⟨_,by
 unfold anyD
 dsimp only
 rw [xJa]
 rfl,h⟩
def OwI (d:D)(n:String)(p:SD->Prop):Prop:=Ow (isiD [d,.ty n]) p
def OwT (d:D)(l:List D)(p:SD->Prop):Prop:=Ow (isitD [d,.tup l]) p
theorem nd1 (i:Nat):[i].Nodup:=by simp
theorem yCc {α:Type}{P Q:α->Prop}{a:α}(h:P a)(q:Q a): ∃ a,P a/\Q a:=⟨a,h,q⟩
theorem yBs {α β:Type}{P Q:α->β->Prop}{a:α}{b:β}(h:P a b)(q:Q a b): ∃ a b,P a b/\Q a b:=⟨a,b,h,q⟩
theorem xJ3 {α:Type}{N:Prop}{P Q:α->Prop}{a:α}(n:N)(h:P a)(q:Q a):N/\ ∃ a,P a/\Q a:=⟨n,a,h,q⟩
theorem yBe {P:Prop}(h:n<=1000)(p:P):n<=1000/\P:=⟨h,p⟩
theorem br_t {P Q:Prop}(h:P):((true=true->P)/\(true=false->Q)):=⟨fun _=>h,fun z=>yDd z⟩
theorem br_f {P Q:Prop}(h:Q):((false=true->P)/\(false=false->Q)):=⟨fun z=>yDd z,fun _=>h⟩
theorem yB1 {P Q:Prop}(h:Q):(((!true)=true->P)/\((!true)=false->Q)):=⟨fun z=>yDd z,fun _=>h⟩
theorem yB4 {P Q:Prop}(h:P):(((!false)=true->P)/\((!false)=false->Q)):=⟨fun _=>h,fun z=>yDd z⟩
def okS:Nat->D->Bool
 | _,.non=>true
 | _,.bl _=>true
 | _,.int _=>true
 | n+1,.tup l=>decide (l.length<=1000)&&l.all (okS n)
 | n+1,.lst _ l=>decide (l.length<=1000)&&l.all (okS n)
 | _,_=>false
theorem br_d {α:Type}[DecidableEq α]{a:α}{P Q:Prop}(h:Q):(((!decide (a=a))=true->P)/\((!decide (a=a))=false->Q)):=⟨fun z=>by simp at z,fun _=>h⟩
theorem x_is {P:Prop}(h:xFr o=true)(p:P):xFr o=true/\P:=⟨h,p⟩
theorem yBg {o:Option SD}{k:D}{P:Bool->List D->Int->Nat->Prop}{b:Bool}{l:List D}{j:Int}{n:Nat}(e1:o=some (.ow (.lst b l)))(e2:k= .int j)(e3:ixN l.length j=some n)(h:P b l j n):
  ∃ b l j n,o=some (.ow (.lst b l))/\k= .int j/\ixN l.length j=some n/\P b l j n:=⟨b,l,j,n,e1,e2,e3,h⟩
theorem xAs {E:Exn->List SD->Prop}{p q:Fl->List SD->Prop}(h:Wp a ρ q E)(g: ∀ f ρ',q f ρ'->p f ρ'):Wp a ρ p E:=h.mono g fun _ _ z=>z
theorem yAr {cells:List Int}{i:Int}(h0:0<=i)(h1:i<((cells.map D.int).length:Nat)): ∃ z,atI (cells.map D.int) i=some (.int z):=by
 obtain ⟨n,rfl⟩: ∃ n:Nat,i=n:=Int.eq_ofNat_of_zero_le h0
 have hn:n<cells.length:=by
  rw [yC0] at h1
  omega
 refine ⟨cells[n],?_⟩
 rw [Fm.atI_nat,yDb,yC6 hn]
 rfl
theorem mkL_int (ns:List Int):mkL (ns.map D.int)=false:=by cases ns <;> rfl
theorem yAv {p:SD->Prop}{l:List D}{lo hi:Option Int}(h:p (.ow (.lst false (cutD l lo hi))))(e:mkL l=false:=by first|rfl|exact Fm.mkL_int _):Ow (slcD (.scr l) lo hi) p:=⟨_,if_neg (by rw [e];exact yD5),h⟩
theorem yAw {p:SD->Prop}{b:Bool}{l:List D}{lo hi:Option Int}(h:p (.ow (.lst false (cutD l lo hi)))):Ow (slcD (.lst b l) lo hi) p:=⟨_,rfl,h⟩
theorem yAf {p:SD->Prop}{l:List D}{lo hi:Option Int}(h:p (.va (.tup (cutD l lo hi)))):Ow (slcD (.tup l) lo hi) p:=⟨_,rfl,h⟩
theorem xUp {γ:Type}(l:List γ)(m:γ->D)(lo hi:Option Int): ∃ l':List γ,cutD (l.map m) lo hi=l'.map m:=by
 unfold cutD
 exact ⟨(l.drop _).take _,by rw [List.map_take,List.map_drop]⟩
theorem br_F {P Q:Prop}(e:b=false)(h:Q):(b=true->P)/\(b=false->Q):=⟨fun z=>(by rw [e] at z;cases z),fun _=>h⟩
theorem br_T {P Q:Prop}(e:b=true)(h:P):(b=true->P)/\(b=false->Q):=⟨fun _=>h,fun z=>by rw [e] at z;cases z⟩
section
variable {α:Type}{m:M α}{p:α->List SD->Prop}{E:Exn->List SD->Prop}
theorem xBd (e:xE5 ρ as o=ρ')(h:Wp m ρ' p E):Wp m (xE5 ρ as o) p E:=by
 rw [e]
 exact h
theorem xBf {ρ ρ':List SD}{i:Nat}{x:SD}(e:ρ.set i x=ρ')(h:Wp m ρ' p E):Wp m (ρ.set i x) p E:=by
 rw [e]
 exact h
theorem xBe (e:ρ++r=ρ')(h:Wp m ρ' p E):Wp m (ρ++r) p E:=by
 rw [e]
 exact h
end
def tMk0 (C:Addr)(sp:Sp):L2.St->Hp->XK->Prop:=fun σ H Q=> ∀ a,H a=none->
 sp [.ref a] (upd H a (exo a C none)) (fun v H2=>v= .non/\ ∃ (d:Addr) (fs:List (Str×V)),H2 a=some (exo a C (some d))/\H2 d=some (exd d fs)/\H d=none/\Q (.ref C) (some d) (upd (del H2 a) d (.xd fs))) fun _ _ _=>False
theorem xS0 {X:Cx}{pins:List (Addr×Obj)}{σ:L2.St}{H1 H2:Hp}{Q:XK}{hp hp2 h2:Heap}{g1 g2:Array GenState}{d1 d2:Drawn}{t1 t2:Nat}{os1 os2:OsState}{a C d:Addr}{fs:List (Str×V)}(T:Raises X (.ref C))(I1:L2.Inv X pins σ H1 ⟨hp,g1,d1,t1,os1⟩)
  (ha:hp.objs.size<=a) (k: ∀ b o,hp.get? b=some o->hp2.get? b=some o) (un:Un (frs X.stack) [] (upd H1 a (exo a C none)) H2 hp2 h2) (ok:HOk X.prog X.w H2 h2) (ho:os2=os1) (bare:AllBare g2)
  (ea:H2 a=some (exo a C (some d))) (ed:H2 d=some (exd d fs)) (hd:H1 d=none) (q:Q (.ref C) (some d) (upd (del H2 a) d (.xd fs))):L2N.MkP X pins σ Q (.ref a) ⟨h2,g2,d2,t2,os2⟩:=by
 have z:=mk_end0 (d2:=d2) (t2:=t2) I1 ha k un ok ho bare ea ed hd
 obtain ⟨t0,G,J,up,ge,at_,na⟩:=z
 refine ⟨a,_,_,⟨G,g2,d2,t2,os2⟩,_,.ref C,some d,rfl,J,up,ge,at_,⟨rfl,rfl,?_⟩,rfl,rfl,na,rfl,bare,T,q⟩
 intro vs e
 cases e
 rfl
section
variable {X:Cx}{C fI:Addr}{CX:CXT}{k:Nat}{fd:FuncData}{sp:Sp}{x:Str}{p pos:Pos}
theorem pmk0 (T:OexC X.K C)(iC:PySem.W.findIn X.K (.ref C) "__init__"=some (some (.ref fI)))(tI:PySem.W.typeIn X.K (.ref fI)=some (.type "function"))(F1:FnOk X.prog X.w X.K X.mg X.base CX k fI fd ["self"] sp)
  (hr:Room (k+1) X.A) (hb:Binds X.K fd ["self"] []) (hx:Passes CX X fun _ _ _=>False) (hg:Gl X x) (hm:X.mg x=some (.ref C)) (hdb:(x==("__debug__":Str))=false:=by decide):L2N.PMk X (.Call (.Name x p) [] [] pos) (tMk0 C sp):=by
 intro pins s σ H Q I h
 refine wpAny_Call_Name_kw (ld_glob I hg hm (PySem.W.callWith_K0 I.kIn T.kC ?_) hdb)
 obtain ⟨nm,q,N,bs,bm,sn,sub,ab,col,dd,k0,k1,k2,k3,k5,hC,own⟩:=T.cls
 obtain ⟨hp,gs,dw,tk,os⟩:=s
 have free:H (hp.objs.size+1)=none:=I.hok.fresh (yEh hp.objs.size)
 have grown: ∀ b o,hp.get? b=some o->((hp.push (PySem.W.kdv_tup [])).push (PySem.HandSPX.excO C hp.objs.size)).get? b=some o:=fun b o e=>Heap.get?_push_of_some _ (Heap.get?_push_of_some _ e)
 have I2:=I.laid (t':=tk) (a:=hp.objs.size+1) (o:=exo (hp.objs.size+1) C none) grown (yEh hp.objs.size) (exo_ok (t1:=hp.objs.size) (by heap_get))
 have run:=F1.run _ X.stack _ _ ⟨[.ref (hp.objs.size+1)],[]⟩ [.ref (hp.objs.size+1)] [.ref (hp.objs.size+1)] _ (fun _ _ _=>False) (hr.make C [] []) (I2.env0.make C [] []) (hb _ [.ref (hp.objs.size+1)] I2.kIn rfl) (.cons (show RelV (.ref _) _ from rfl) .nil) (h _ free)
 refine wpAny_call (PySem.HandSPX.call_own F.excBase_ValueError (fun Y=>PySem.HandSPX.refsVE_contains Y bm own) (I.kIn _ _ hC) (PySem.W.looks_findIn I.kIn iC) (fun self=>PySem.W.bind_fn I.kIn self tI) (yDs _) (codeAny_mono run fun r s' back=> ?_))
 match r,back with
 | .error e,z=>exact hx pins σ _ _ e s' I2 z
 | .ok .next,z=>exact z.elim
 | .ok .brk,z=>exact z.elim
 | .ok .cont,z=>exact z.elim
 | .ok (.ret u),⟨v,H2,o2,b2,un,ok2,rv,ev,d,fs,ea,ed,hd,q2⟩=>
  subst ev
  exact ⟨rv,xS0 (raises_own T.exC T.tyC) I (yEh _) grown un ok2 o2 b2 ea ed hd q2⟩
end
def spI (K:PySem.W.Frag)(f z:Str):Sp:=fun vs H Q E=> ∃ a C:Addr,vs=[.ref a]/\OexC K C/\PySem.W.findIn K (.ref C) f=some none/\H a=some (exo a C none)/\ ∀ dx,H dx=none->dx≠a->Q .non (upd (upd H dx (exd dx [(f,.str z)])) a (exo a C (some dx)))
theorem init_ok {P:Program}{w:World}{K:PySem.W.Frag}{mg:Str->Option Value}{base:Heap}{qual f z:Str}{params:Arguments}{scope:Scope}{fI:Addr}{fd:FuncData}{p1 p2 p3 p4:Pos}{j:Nat}
  (F:FunD K "__init__" qual params [.Assign [.Attribute (.Name "self" p1) f p2] (.Constant (.str z) j p3) p4] scope [] [] fI fd) (Sc:FnScope ["self"] ["self"] scope):FnOk P w K mg base (L2N.CX P w) 1 fI fd ["self"] (spI K f z):=by
 refine F.ok Sc (fun vs H Q E ⟨a,C,e,_⟩=>by rw [e];rfl) fun cdv A outer s H vs Q E hr ⟨a,C,e,T,no,ha,q⟩=> ?_
 subst e
 refine ⟨_,pss_one (ps_ost (pe_var (i:=0) rfl ((Sc.par _ (by simp)).imp id .inl)) pe_str),?_⟩
 exact ⟨.ref a,rfl,a,C,rfl,T,no,.inl ⟨ha,fun dx n ne=>q dx n ne⟩⟩
structure ExC (P:Program)(w:World)(K:PySem.W.Frag)(mg:Str->Option Value)(base:Heap)(κ:Ctx)(x:Str)(c:String)(f z:Str)(fI:Addr)(fd:FuncData):Prop where
 T:OexC K (κ.cl c)
 no:PySem.W.findIn K (.ref (κ.cl c)) f=some none
 iC:PySem.W.findIn K (.ref (κ.cl c)) "__init__"=some (some (.ref fI))
 tI:PySem.W.typeIn K (.ref fI)=some (.type "function")
 ok:FnOk P w K mg base (L2N.CX P w) 1 fI fd ["self"] (spI K f z)
 bd:Binds K fd ["self"] []
 gl:mg x=some (.ref (κ.cl c))
def sEx (x:Exn):S:=fun ρ=> .ex x ρ
theorem xQl (ha:H a=none)(ne:dx≠a):upd (del (upd (upd (upd H a (exo a C none)) dx (exd dx fs)) a (exo a C (some dx))) a) dx (.xd fs)=upd H dx (.xd fs):=by
 funext b
 by_cases h1:b=dx
 ·rw [h1,upd_same,upd_same]
 ·rw [upd_ne h1,upd_ne h1]
  by_cases h2:b=a
  ·rw [h2,del_same,ha]
  ·rw [del_ne h2,upd_ne h2,upd_ne h1,upd_ne h2]
section
variable {X:Cx}{κ:Ctx}{A:List Nat}{W:WX}{x:Str}{c:String}{f z:Str}{fI:Addr}{fd:FuncData}{p p2 pos:Pos}
theorem xDt (C:ExC X.prog X.w X.K X.mg X.base κ x c f z fI fd)(hc:X.calm=true)(tk:L2N.Takes X W)(hr:Room 2 X.A)(hx:Passes (L2N.CX X.prog X.w) X fun _ _ _=>False)(hg:Gl X x)(hdb:(x==("__debug__":Str))=false:=by decide):
  PS X (.Raise (some (.Call (.Name x p) [] [] p2)) none pos) (tS κ A W (sEx ⟨c,[(f,.str z)]⟩)):=by
 refine PS.imp (L2N.ps_raise hc tk (pmk0 C.T C.iC C.tI C.ok hr C.bd hx hg C.gl hdb)) fun D σ H ⟨B,ρ,G,_,o,q⟩ a ha=> ?_
 refine ⟨a,_,rfl,C.T,C.no,upd_same,fun dx hd ne=>⟨rfl,dx,[(f,.str z)],upd_same,?_,?_,?_⟩⟩
 ·rw [upd_ne ne,upd_same]
 ·rw [upd_ne ne] at hd
  exact hd
 ·rw [upd_ne ne] at hd
  rw [xQl ha ne]
  exact q _ _ σ _ G (o.allocOwn hd) (Same.refl G) ⟨rfl,dx,_,rfl,upd_same,.str z,[],rfl,rfl,rfl⟩
end
structure Hand (X:Cx)(pins:List (Addr×Obj))(σ:L2.St)(H:Hp)(cls:Value)(d:Option Addr)(a:Addr)(s:Shared):Prop where
 na:H a=none
 air: ∃ (B:Heap) (sI:Shared),L2.Inv X pins σ H sI/\(∀ b o,sI.heap.get? b=some o->b∉frs X.stack->B.get? b=some o)/\sI.heap.UpToSlots s.heap/\PySem.HandSPX.FlyingZ B X.stack a (L2N.Zn cls d) s.heap/\s.os=sI.os/\AllBare s.gens
section
variable {X:Cx}{pins:List (Addr×Obj)}{σ:L2.St}{H:Hp}{cls:Value}{d:Option Addr}{a:Addr}{s:Shared}
theorem Hand.inv (h:Hand X pins σ H cls d a s):L2.Inv X pins σ H s:=by
 obtain ⟨B,sI,I,nb,up,fl,os,ag⟩:=h.air
 exact I.landed nb fl.1 up os ag
theorem Hand.obj (h:Hand X pins σ H cls d a s): ∃ oe vs,s.heap.get? a=some oe/\L2N.Zn cls d oe/\oe.data= .fields vs:=by
 obtain ⟨B,sI,I,nb,up,fl,os,ag⟩:=h.air
 exact fl.there
theorem Hand.away (h:Hand X pins σ H cls d a s):a∉frs X.stack:=by
 obtain ⟨B,sI,I,nb,up,fl,os,ag⟩:=h.air
 obtain ⟨oe,vs,e,_,dt⟩:=fl.there
 intro m
 obtain ⟨_,o,eo,no⟩:=fl.2.2.1.mem m
 rw [e] at eo
 cases eo
 exact no _ dt
theorem Hand.within (h:Hand X pins σ H cls d a s)(hs:X.stack=X.env::X.outer)(hf:X.env.frame=some X.env.locals)(e:s.heap.get? a=some oe)(dt:oe.data= .fields vs):L2.Inv (X.suite a ((a,oe)::(X.pn++pins))) [] σ H s:=by
 have out:=h.away
 rw [hs] at out
 refine h.inv.suite e dt h.na (fun z=>out ?_) fun m=>out ?_
 ·exact List.mem_filterMap.mpr ⟨X.env,yC2 ..,by rw [hf,z]⟩
 ·obtain ⟨v,m1,m2⟩:=List.mem_filterMap.mp m
  exact List.mem_filterMap.mpr ⟨v,yC8 _ m1,m2⟩
end
structure Cl where
 c:Value
 i:Nat
 ts:Addr->Value->Option Addr->TS
def Ends.less (D:Ends)(i:Nat):Ends:={ nx:=fun σ H=>D.nx (σ.set i none) H,rt:=D.rt,bk:=fun σ H=>D.bk (σ.set i none) H,ct:=fun σ H=>D.ct (σ.set i none) H }
def wCls (K:PySem.W.Frag)(Wout:WX)(D:Ends):List Cl->WX
 | []=>Wout
 | q::r=>fun cls d σ H=> ∃ b,PySem.W.exmOne K cls q.c=some b/\(b=true-> ∀ a,H a=none->q.ts a cls d (Ends.less D q.i) (σ.set q.i (some (.ref a))) H)/\(b=false->wCls K Wout D r cls d σ H)
inductive ClsOk (X:Cx):List ExceptHandler->List Cl->Prop
 | nil:ClsOk X [] []
 | cons {x n:Str} {q:Cl} {b₀:Stmt} {suite:List Stmt} {np pos:Pos} {hds:List ExceptHandler} {l:List Cl} (hc:Names X x q.c) (hi:X.N[q.i]? =some n) (hl:X.env.kindOf n=some .local)
   (go: ∀ (a:Addr) (oe:Obj) (cls:Value) (d:Option Addr) (pn:List (Addr×Obj)),L2N.Zn cls d oe->(∃ vs,oe.data= .fields vs)->PSs (X.suite a ((a,oe)::pn)) (b₀::suite) (q.ts a cls d)) (r:ClsOk X hds l):
   ClsOk X (.ExceptHandler (some (.Name x np)) (some n) (b₀::suite) pos::hds) (q::l)
section
variable {X:Cx}{pins:List (Addr×Obj)}{Wout:WX}{D:Ends}
theorem Hand.on (h:Hand X pins σ H cls d a s)(hs:X.stack=X.env::X.outer)(hf:X.env.frame=some X.env.locals)(tk:L2N.Takes X Wout)(w:Wout cls d σ H):
  wpAny (model X.prog X.w) X.A (handleBy (.ref a) X.env []) (SP X pins D) X.xe s:=by
 obtain ⟨B,sI,I,nb,up,fl,os,ag⟩:=h.air
 have last:wpAny (model X.prog X.w) X.A (setFlight (.ref a) X.env.frame) (fun _ s2=>wpAny (model X.prog X.w) X.A (throw (.ref a):Sem Flow) (SP X pins D) X.xe s2) X.xe s:=by
  rw [hf]
  refine PySem.HandSPX.setFlight_upZ (hs ▸ fl) fun h2 held up2=>wpAny_throw (tk _ _ ?_)
  exact ⟨a,B,sI,pins,σ,H,cls,d,rfl,I,nb,up.trans up2,.inr (.inr (by rw [hs];exact held)),h.na,os,ag,w⟩
 obtain ⟨_,_,_,oe,vs,T,_,_,e,_,dt,tb,_⟩:=id fl
 refine wpAny_handleBy_nil (wpAny_bind (wpAny_field e dt tb ?_))
 rw [if_neg (show ¬ ((Value.ref T==Value.none)=true) from fun z=>nomatch z)]
 first
  | exact wpAny_bind last
  | exact wpAny_bind (wpAny_pure (wpAny_bind last))
theorem Hand.by_ (k:ClsOk X hds l)(h:Hand X pins σ H cls d a s)(hs:X.stack=X.env::X.outer)(hf:X.env.frame=some X.env.locals)
  (hN:X.N.Nodup) (ok:X.Ok) (tk:L2N.Takes X Wout) (w:wCls X.K Wout D l cls d σ H):wpAny (model X.prog X.w) X.A (handleBy (.ref a) X.env hds) (SP X pins D) X.xe s:=by
 induction k with
 | nil=>exact h.on hs hf tk w
 | @cons x n q b₀ suite np pos hds l hc hi hl go r ih=>
  obtain ⟨b,hb,yes,no⟩:=w
  obtain ⟨oe,vs,e,z,dt⟩:=h.obj
  have S:=h.within hs hf e dt
  have ty:PySem.W.Looks (model X.prog X.w) s.heap (typeOf (.ref a)) cls:=fun A Q E s1 k q=>wpAny_typeOf_ref (k _ _ e) (by rw [z.1];exact q)
  refine wpAny_handleBy_cons (codeAny_handlers_test ?_) fun q=>nomatch q
  have name: ∀ {Q:Value->Shared->Prop} {E:Value->Shared->Prop},Q q.c s->wpAny (model X.prog X.w) (X.A.mark (some (.ref a))) (eval (.Name x np) X.env) Q E s:=fun {Q E} y=>by
   obtain ⟨g,db,m|⟨m,v,nn⟩⟩:=hc
   ·exact ld_glob (X:=X.suite a ((a,oe)::(X.pn++pins))) S g m y db
   ·exact ld_blt (X:=X.suite a ((a,oe)::(X.pn++pins))) S g m v y nn db
  refine name ((PySem.W.exm_one (M:=model X.prog X.w) h.inv.kIn ty hb).here ?_)
  cases b with
  | false=>exact ih (no rfl)
  | true=>
   obtain ⟨B,sI,I,nb,up,fl,os,ag⟩:=h.air
   refine codeAny_handlers_suite_as (PySem.HandSPX.lands_againZ fl fun h2 fl2 up2=> ?_)
   have H2:Hand X pins σ H cls d a { s with heap:=h2 }:=⟨h.na,B,sI,I,nb,up.trans up2,fl2,os,ag⟩
   obtain ⟨oe2,vs2,e2,z2,dt2⟩:=H2.obj
   have S2:=H2.within hs hf e2 dt2
   refine store_ok (X:=X.suite a ((a,oe2)::(X.pn++pins))) (v:= .ref a) S2 hN hi (.inl hl) rfl (fun s3 S3=> ?_) (.inr hl)
   refine wpAny_mono ((go a oe2 cls d (X.pn++pins) z2 ⟨_,dt2⟩).run [] s3 _ H _ S3 (yes rfl a h.na)) (fun fl' s4 out=> ?_) fun _ _ z=>z.elim
   have leave: ∀ {σ4:L2.St} {H4:Hp} {Q:Shared->Prop},L2.Inv (X.suite a ((a,oe2)::(X.pn++pins))) [] σ4 H4 s4->(∀ s5,L2.Inv X pins (σ4.set q.i none) H4 s5->Q s5)->
     wpAny (model X.prog X.w) X.A (do bindName X.env n .none;unbindBehindTheSuite X.env n pos) (fun _ s5=>Q s5) X.xe s4:=fun J f=>gone_ok (J.unsuite ok) hN hi hl f
   match fl',out with
   | .next,⟨σ4,H4,J,y⟩=>exact leave J fun s5 J5=>⟨_,_,J5,y⟩
   | .brk,⟨σ4,H4,J,y⟩=>exact leave J fun s5 J5=>⟨_,_,J5,y⟩
   | .cont,⟨σ4,H4,J,y⟩=>exact leave J fun s5 J5=>⟨_,_,J5,y⟩
   | .ret u,⟨v,σ4,H4,J,r4,y⟩=>exact leave J fun s5 J5=>⟨_,_,_,J5,r4,y⟩
theorem xP8 {tb:WX->TS}(hs:X.stack=X.env::X.outer)(hf:X.env.frame=some X.env.locals)(hN:X.N.Nodup)(tk:L2N.Takes X Wout)
  (hb: ∀ (W:WX) (pn:List (Addr×Obj)) (xe:Value->Shared->Prop),L2N.Takes (X.tr pn xe) W->PassesOwn (model X.prog X.w) X.A X.env xe->PSs (X.tr pn xe) body (tb W)) (k:ClsOk X (hd::hds) l):
  PS X (.Try body (hd::hds) [] [] pos) (fun D σ H=>tb (wCls X.K Wout D l) D σ H):=by
 refine ⟨fun pins s σ H D I h=>wpAny_Try_except ?_⟩
 have ok:=I.ok
 have catches:L2N.Takes (X.tr (X.pn++pins) fun e s1=>wpAny (model X.prog X.w) X.A (noteFrame e X.env) (fun _ s2=>wpAny (model X.prog X.w) X.A (setFlight e none) (fun _ s3=>wpAny (model X.prog X.w) X.A (handleBy e X.env (hd::hds)) (SP X pins D) X.xe s3) X.xe s2) X.xe s1) (wCls X.K Wout D l):=by
  rintro u s1 ⟨a,B,sI,pn,σ1,H1,cls,d,rfl,J,nb,up,sky,na,os,ag,w⟩
  refine L2N.Sky.land L2N.Zn.steady (by rw [ok.frames,hs]) hf (by rw [<- hs];exact sky) fun h3 fl3 up3=> ?_
  exact Hand.by_ k ⟨na,B,sI,J.ofTry ok,nb,up.trans up3,by rw [hs];exact fl3,os,ag⟩ hs hf hN ok tk w
 refine wpAny_mono ((hb _ _ _ catches PassesOwn.looking).run [] s σ H D (I.toTry _) h) (fun fl s1 out=> ?_) fun _ _ z=>z
 match fl,out with
 | .next,⟨σ1,H1,J,y⟩=>exact wpAny_execs_nil ⟨σ1,H1,J.ofTry ok,y⟩
 | .brk,⟨σ1,H1,J,y⟩=>exact ⟨σ1,H1,J.ofTry ok,y⟩
 | .cont,⟨σ1,H1,J,y⟩=>exact ⟨σ1,H1,J.ofTry ok,y⟩
 | .ret u,⟨v,σ1,H1,J,r,y⟩=>exact ⟨v,σ1,H1,J.ofTry ok,r,y⟩
end
section
variable {X:Cx}{x a nf nw n xm xk f:Str}{g CM CK:Addr}{sg:Scope}{cdg:Value}{p1 p2 p3 p4 p5 p6 p7 p8 p9 q1 q2 q3 q4 q5 q6 q7 q8 q9 r1 r2 r3 r4 r5 o1 o2 o3 o4:Pos}{j1 j2 j3:Nat}
end
section
variable {X:Cx}{κ:Ctx}{W:WX}{x a nf nw n xm xk f:Str}{g CM CK:Addr}{sg scope:Scope}{pg params:Arguments}{fd:FuncData}{body:Expr}{m:M SD}{hit:String->Bool}{c P:Addr}{k:Nat}{p pos lpos p1 p2 p3 p4 p5 p6 p7 p8 p9 q1 q2 q3 q4 q5 q6 q7 q8 q9 r1 r2 r3 r4 r5 o1 o2 o3 o4:Pos}{j1 j2 j3:Nat}
end
def BindsV (K:PySem.W.Frag)(fd:FuncData)(ps:List Str)(dvs:List V):Prop:= ∃ ds,Vals dvs ds/\Binds K fd ps ds
def BindsKw (K:PySem.W.Frag)(fd:FuncData)(ps ks:List Str):Prop:= ∀ (s:Shared) (ws:List Value),K.In s.heap->ws.length=ps.length->BindsTo s fd ⟨[],ks.zip ws⟩ (ps.zip ws)
section
variable {X:Cx}{κ:Ctx}{W:WX}{k k':Nat}{f:Addr}{fd:FuncData}{ps ks:List Str}{fn:List SD->FR}{x:Str}{p pos kpos:Pos}{e:Expr}{es:List Expr}{n:M (List Ar)}{kws:List Keyword}{nm:Option Str}
theorem PK.imp (h:PK X kws t)(f: ∀ σ H Q,t' σ H Q->t σ H Q):PK X kws t':=⟨fun pos pins s σ H Q I q=>h.run pos pins s σ H Q I (f σ H Q q)⟩
end
theorem and2 (h:(a&&b)=true):a=true/\b=true:=yD8.mp h
theorem xSc (h:xN8 C o=true): ∃ nm q N bs bm sn sub ab col dd k0 k1 k2 k3 k5,o=excClassObj nm q C N bs bm true sn sub ab col dd k0 k1 k2 k3 k5 "ValueError.__new__"/\PySem.HandSPX.refsVE bm=true:=by
 unfold xN8 at h
 split at h
 ·rename_i m dd cd k0 k1 k2 k3 n k5
  obtain ⟨h1,g1⟩:=and2 h
  obtain ⟨h2,g2⟩:=and2 g1
  obtain ⟨h3,g3⟩:=and2 g2
  obtain ⟨h4,g4⟩:=and2 g3
  clear h g1 g2 g3
  obtain ⟨nm,bs,mro,ns,qn,hd,sn,sb,abs,col,del⟩:=cd
  dsimp only at g4 h3 h4
  split at g4
  ·rename_i D tail
   obtain ⟨h5,h6⟩:=and2 g4
   have e1:=eq_of_beq h1
   have e2:=eq_of_beq h2
   have e5:=eq_of_beq h5
   have e4:del=false:=by simpa using h4
   subst e1 e2 e4 e5 h3
   exact ⟨nm,qn,ns,bs,tail,sn,sb,abs,col,dd,k0,k1,k2,k3,k5,rfl,h6⟩
  ·cases g4
 ·cases h
theorem xYp {K:PySem.W.Frag}{C:Addr}(h:oexB K C=true):OexC K C:=by
 obtain ⟨h1,h⟩:=and2 h
 obtain ⟨h2,h⟩:=and2 h
 obtain ⟨h3,h⟩:=and2 h
 obtain ⟨h4,h5⟩:=and2 h
 refine ⟨?_,of_decide_eq_true h2,of_decide_eq_true h3,of_decide_eq_true h4,h5⟩
 cases e:K.lookup C with
 | none=>
  rw [e] at h1
  cases h1
 | some o=>
  rw [e] at h1
  obtain ⟨nm,q,N,bs,bm,sn,sub,ab,col,dd,k0,k1,k2,k3,k5,rfl,r⟩:=xSc (show xN8 C o=true from h1)
  exact ⟨nm,q,N,bs,bm,sn,sub,ab,col,dd,k0,k1,k2,k3,k5,rfl,r⟩
theorem xD1 {K:PySem.W.Frag}{mg:Str->Option Value}{κ:Ctx}{x:Str}{c:String}{f z:Str}{fI:Addr}{fd:FuncData}(h:excB K (κ.cl c) fI f=true)(gl:mg x=some (.ref (κ.cl c)))
  (ok:FnOk P w K mg base (L2N.CX P w) 1 fI fd ["self"] (spI K f z)) (bd:Binds K fd ["self"] []):ExC P w K mg base κ x c f z fI fd:=by
 obtain ⟨h1,h⟩:=and2 h
 obtain ⟨h2,h⟩:=and2 h
 obtain ⟨h3,h4⟩:=and2 h
 exact ⟨xYp h1,of_decide_eq_true h2,of_decide_eq_true h3,of_decide_eq_true h4,ok,bd,gl⟩
section
variable {ρ:List SD}{E:Exn->List SD->Prop}{p:SD->List SD->Prop}{s:Fl->List SD->Prop}
theorem w_ex (h:E x ρ):Wp (sEx x) ρ s E:=⟨h⟩
end
mutual
theorem xUz: ∀ (d:D) {n:Nat},d.pl n=true->PyData.eqv d.py d.py=true
 | .non,_,_=>rfl
 | .bl b,_,_=>by cases b <;> rfl
 | .int i,_,_=>by show (i==i)=true;simp
 | .str s,_,_=>by show (s==s)=true;simp
 | .tup l,0,h=>by cases h
 | .tup l,n+1,h=>xHr l (n:=n) h
 | .lst _ l,0,h=>by cases h
 | .lst _ l,n+1,h=>xHr l (n:=n) h
 | .dk _ _,n,h=>by cases n <;> cases h
 | .ins _ _ _,n,h=>by cases n <;> cases h
 | .ty _,n,h=>by cases n <;> cases h
 | .adr _,n,h=>by cases n <;> cases h
 | .scr _,n,h=>by cases n <;> cases h
 | .nv _ _ _,n,h=>by cases n <;> cases h
theorem xHr: ∀ (l:List D) {n:Nat},plL n l=true->PyData.eqvAll (pyL l) (pyL l)=true
 | [],_,_=>rfl
 | d::l,n,h=>by
  obtain ⟨h1,h2⟩:=and2 (show (D.pl n d&&plL n l)=true from by unfold plL at h;exact h)
  show (PyData.eqv d.py d.py&&PyData.eqvAll (pyL l) (pyL l))=true
  rw [xUz d h1,xHr l h2]
  rfl
end
def mM1 (g:Str->D->Option SD)(ma mb:M SD):M SD:=(fE ma).bind fun d=>match d with
 | .str s=>(fE mb).bind fun e=>M.opt (g s e)
 | _=>M.no
def MtD (κ:Ctx)(r:V->List V->Hp->VK->Prop)(g:Str->D->Option SD):Prop:= ∀ (B:Bas) (ρ:List SD) (σ:L2.St) (H G:Hp) (s:Str) (e:D) (y:V) (z:SD) (Q:VK),Ok κ B ρ σ H G->Rep κ B.T G e y->g s e=some z->
 (∀ v H' G',Ok κ B ρ σ H' G'->Same G G'->RepR κ B ρ σ H' G' z v->Q v H')->r (.str s) [y] H Q
section
variable {X:Cx}{κ:Ctx}{W:WX}
theorem e_m1 {id:String}{name:Str}{apos pos:Pos}{r:V->List V->Hp->VK->Prop}{g:Str->D->Option SD}(slot:Slot "str" name id)(ty:typeOf (.builtin id)=pure (.type "method_descriptor"))(rule:MtR X id r)(hr:MtD κ r g)
  (ho:PE X o (tE κ W ma)) (he:PE X e (tE κ W mb)) (hs:starEach [e] X.env=[(false,eval e X.env)]:=by rfl) (hbase:attributeBase o name X.env (eval o X.env)=eval o X.env:=by rfl) (hline:(apos.endLine==pos.line)=true:=by rfl):
  PE X (.Call (.Attribute o name apos) [e] [] pos) (tE κ W (mM1 g ma mb)):=by
 refine PE.imp (pe_m1 slot ty rule ho he hs hbase hline) fun σ H Q ⟨B,ρ,G,o,q⟩=> ?_
 refine xBs o (Pst.bind q) fun d ρ1 H1 G1 o1 s1 q1 v1 r1=> ?_
 cases d with
 | str s=>
  cases (show v1=V.str s from r1)
  refine ⟨⟨s,rfl⟩,xBs o1 (Pst.bind q1) fun e ρ2 H2 G2 o2 s2 q2 v2 r2=> ?_⟩
  obtain ⟨z,hz,q3⟩:=Pst.opt q2
  exact hr B ρ2 σ H2 G2 s e v2 z Q o2 r2 hz fun v H' G' o' s' rv=>q3 H' G' o' s' v rv
 | _=>exact q1.elim
def splitG (s:Str):D->Option SD
 | .str b=>if b.length≠0/\s.length<=1000000 then some (.ow (.lst false ((Txt.split s b).map D.str))) else none
 | _=>none
def partG (s:Str):D->Option SD
 | .str b=>if b.length≠0/\s.length<=1000000 then some (.va (.tup [.str (Txt.partition s b).1,.str (Txt.partition s b).2.1,.str (Txt.partition s b).2.2])) else none
 | _=>none
def xFs:List D->Option (List Str)
 | []=>some []
 | .str s::l=>(xFs l).map (s:: ·)
 | _::_=>none
def xXe (s:Str):D->Option SD
 | .lst _ l=>(xFs l).bind fun ys=>if (ys.map (·.length)).sum+ys.length*s.length<=1000000 then some (.va (.str (Txt.join s ys))) else none
 | .tup l=>(xFs l).bind fun ys=>if (ys.map (·.length)).sum+ys.length*s.length<=1000000 then some (.va (.str (Txt.join s ys))) else none
 | _=>none
theorem xK8: ∀ {l:List D} {ys:List Str},xFs l=some ys->l=ys.map D.str
 | [],ys,h=>by cases h;rfl
 | d::l,ys,h=>by
  cases d with
  | str s=>
   obtain ⟨zs,h1,rfl⟩:=yC4.mp (show (xFs l).map (s:: ·)=some ys from h)
   rw [xK8 h1]
   rfl
  | _=>cases h
theorem xI6: ∀ ys:List Str,xFs (ys.map D.str)=some ys
 | []=>rfl
 | y::ys=>by
  show (xFs (ys.map D.str)).map (y:: ·)=_
  rw [xI6 ys]
  rfl
theorem xTz: ∀ {ys:List Str} {vs:List V},RepL κ T G (ys.map D.str) vs->vs=ys.map V.str
 | [],_,h=>h
 | y::ys,vs,h=>by
  obtain ⟨v,ws,rfl,h1,h2⟩:=h
  rw [xTz h2,show v=V.str y from h1]
  rfl
where line_of2 {n:Nat} (h:n<=1000000):n+2<=sizeLine:=by rw [sizeLine_eq];omega
theorem yB9 (hK:X.K=κ.K){apos pos:Pos}(ho:PE X o (tE κ W ma))(he:PE X e (tE κ W mb))(hs:starEach [e] X.env=[(false,eval e X.env)]:=by rfl)(hbase:attributeBase o "join" X.env (eval o X.env)=eval o X.env:=by rfl)(hline:(apos.endLine==pos.line)=true:=by rfl):
  PE X (.Call (.Attribute o "join" apos) [e] [] pos) (tE κ W (mM1 xXe ma mb)):=
 e_m1 F.slot_str_join F.type_str_join mt_join (fun B ρ σ H G s e y z Q o r hz q=>by
  have fin: ∀ {l:List D} {p:Addr} {vs:List V},y= .ref p->RepL κ B.T G l vs->(SqL X.K H p vs\/SqT X.K H p vs)->((xFs l).bind fun ys=>if (ys.map (·.length)).sum+ys.length*s.length<=1000000 then some (SD.va (.str (Txt.join s ys))) else none)=some z->
    ∃ a p,∃ ys:List Str,V.str s= .str a/\[y]=[.ref p]/\(SqL X.K H p (ys.map V.str)\/SqT X.K H p (ys.map V.str))/\(ys.map (·.length)).sum+ys.length*a.length<=16777216/\Q (.str (Txt.join a ys)) H:=fun {l p vs} ey rl sq hz=>by
   obtain ⟨ys,h1,h2⟩:=yDf.mp hz
   have el:=xK8 h1
   subst el
   have ev:=xTz rl
   subst ev ey
   split at h2
   ·rename_i h
    cases h2
    exact ⟨s,p,ys,rfl,rfl,sq,by omega,q _ H G o (Same.refl G) rfl⟩
   ·cases h2
  cases e with
  | lst b l=>
   obtain ⟨a,vs,rfl,⟨h1,_⟩,h2⟩:=r
   exact fin rfl h2 (.inl (SqL.of (o.fr.gh _ _ h1))) hz
  | tup l=>
   obtain ⟨a,vs,rfl,h1,h2⟩:=r
   exact fin rfl h2 (.inr (hK ▸ h1.sq o.fr.gh)) hz
  | _=>cases hz) ho he hs hbase hline
end
def strD:List D->Option SD
 | [.int i]=>if i.natAbs.log2<1920 then some (.va (.str (toString i))) else none
 | _=>none
def intSD:List D->Option SD
 | [.str a]=>if a.length<=640 then (PySem.intText? a).map fun n=> .va (.int n) else none
 | ds=>intD ds
section
variable {X:Cx}{κ:Ctx}
end
def inB:D->D->Option Bool
 | .str x,.str z=>match x.cps.toList with
  | [c]=>some (decide (c∈z.cps.toList))
  | _=>none
 | d,.lst _ l=>if d.pl 60&&(D.lst false l).pl 60 then some (l.any fun e=>peq e d) else none
 | _,_=>none
def inD (d e:D):Option SD:=(inB d e).map fun b=> .va (.bl b)
def ninD (d e:D):Option SD:=(inB d e).map fun b=> .va (.bl (!b))
theorem xWb (d:D): ∀ l:List D,(pyL l).any (fun z=>PyData.eqv z d.py)=l.any fun e=>peq e d
 | []=>rfl
 | e::l=>by
  show (PyData.eqv e.py d.py || (pyL l).any fun z=>PyData.eqv z d.py)=_
  rw [xWb d l]
  rfl
section
variable {X:Cx}{κ:Ctx}
theorem xPc (s:Same G H)(r1:Rep κ T G d x)(r2:Rep κ T G e y)(h:inB d e=some b):
  (∃ (c:Nat) (z:Str),x= .str ⟨#[c]⟩/\y= .str z/\b=decide (c∈z.cps.toList))\/ ∃ (p:PyData) (ps:List PyData),Dp κ.K H x p/\Dp κ.K H y (.list ps)/\SeqAt.shaped p=true/\SeqAt.shaped (.list ps)=true/\b=ps.any fun z=>PyData.eqv z p:=by
 have deep: ∀ {bb:Bool} {l:List D},e= .lst bb l->(if d.pl 60&&(D.lst false l).pl 60 then some (l.any fun e=>peq e d) else none)=some b->
   ∃ (p:PyData) (ps:List PyData),Dp κ.K H x p/\Dp κ.K H y (.list ps)/\SeqAt.shaped p=true/\SeqAt.shaped (.list ps)=true/\b=ps.any fun z=>PyData.eqv z p:=fun {bb l} he g=>by
  subst he
  split at g
  ·rename_i hp
   cases g
   obtain ⟨p1,p2⟩:=and2 hp
   have p3:(D.lst bb l).pl 60=true:=p2
   exact ⟨d.py,pyL l,xGh s d p1 r1,xGh s (.lst bb l) p3 r2,xDn p1,xDn (d:= .lst bb l) p3,(xWb d l).symm⟩
  ·cases g
 cases e with
 | lst bb l=>
  refine .inr (deep rfl ?_)
  cases d <;> exact h
 | str z=>
  cases d with
  | str w=>
   left
   have h':(match w.cps.toList with
    | [c]=>some (decide (c∈z.cps.toList))
    | _=>none)=some b:=h
   split at h'
   ·rename_i c ec
    cases h'
    have ew:w=⟨#[c]⟩:=by
     obtain ⟨a⟩:=w
     have:a= #[c]:=by rw [<- Array.toArray_toList (xs:=a),ec]
     rw [this]
    subst ew
    exact ⟨c,z,r1,r2,rfl⟩
   ·cases h'
  | _=>cases h
 | _=>cases d <;> cases h
abbrev rIn2 (K:PySem.W.Frag):R2:=fun x y H Q=>(∃ (c:Nat) (z:Str),x= .str ⟨#[c]⟩/\y= .str z/\Q (.bl (decide (c∈z.cps.toList))) H)\/rInD K x y H Q
abbrev xY5 (K:PySem.W.Frag):R2:=fun x y H Q=>(∃ (c:Nat) (z:Str),x= .str ⟨#[c]⟩/\y= .str z/\Q (.bl (!decide (c∈z.cps.toList))) H)\/rNotInD K x y H Q
theorem yBo (hu:X.A.units+65<cLine):OpR X (compareOp .In) (rIn2 X.K):=op_in_sign.or (op_inD hu)
theorem xXh (hu:X.A.units+65<cLine):OpR X (compareOp .NotIn) (xY5 X.K):=op_notIn_sign.or (op_notInD hu)
theorem od_in:OpD κ (rIn2 κ.K) inD:=by
 intro B ρ σ H G d e x y z Q o r1 r2 hz q
 obtain ⟨b,hb,rfl⟩:=yC4.mp hz
 have fin:=q (.bl b) H G o (Same.refl G) rfl
 rcases xPc o.fr.gh r1 r2 hb with ⟨c,w,h1,h2,rfl⟩|⟨p,ps,h1,h2,h3,h4,rfl⟩
 ·exact .inl ⟨c,w,h1,h2,fin⟩
 ·exact .inr ⟨p,ps,h1,h2,h3,h4,fin⟩
theorem yAq:OpD κ (xY5 κ.K) ninD:=by
 intro B ρ σ H G d e x y z Q o r1 r2 hz q
 obtain ⟨b,hb,rfl⟩:=yC4.mp hz
 have fin:=q (.bl (!b)) H G o (Same.refl G) rfl
 rcases xPc o.fr.gh r1 r2 hb with ⟨c,w,h1,h2,rfl⟩|⟨p,ps,h1,h2,h3,h4,rfl⟩
 ·exact .inl ⟨c,w,h1,h2,fin⟩
 ·exact .inr ⟨p,ps,h1,h2,h3,h4,fin⟩
end
def BindsPK (K:PySem.W.Frag)(fd:FuncData)(ps:List Str)(n:Nat)(ks:List Str):Prop:= ∀ (s:Shared) (us ws:List Value),K.In s.heap->us.length=n->ws.length=ks.length->BindsTo s fd ⟨us,ks.zip ws⟩ (ps.zip (us++ws))
def aApp (n k:M (List Ar)):M (List Ar):=n.bind fun as=>k.bind fun bs=>M.ret (as++bs)
theorem xFc.len: ∀ {as:List Ar} {vs:List V},xFc κ T σ G as vs->vs.length=as.length
 | [],vs,h=>by rw [show vs=[] from h];rfl
 | a::as,vs,h=>by
  obtain ⟨v,us,rfl,_,h2⟩:=h
  rw [yDa,yDa,xFc.len h2]
section
variable {X:Cx}{κ:Ctx}{W:WX}{k k':Nat}{f:Addr}{fd:FuncData}{ps ks:List Str}{fn:List SD->FR}{x:Str}{p pos:Pos}{e:Expr}{es:List Expr}{n m:M (List Ar)}{kws:List Keyword}
end
def spI2 (K:PySem.W.Frag)(f z g:Str):Sp:=fun vs H Q E=> ∃ (a C:Addr) (y:V),vs=[.ref a,y]/\OexC K C/\PySem.W.findIn K (.ref C) f=some none/\PySem.W.findIn K (.ref C) g=some none/\H a=some (exo a C none)/\
 ∀ dx,H dx=none->dx≠a->Q .non (upd (upd (upd H dx (exd dx [(f,.str z)])) a (exo a C (some dx))) dx (exd dx [(g,y),(f,.str z)]))
structure ExC2 (P:Program)(w:World)(K:PySem.W.Frag)(mg:Str->Option Value)(base:Heap)(κ:Ctx)(x:Str)(c:String)(f z g n:Str)(fI:Addr)(fd:FuncData):Prop where
 T:OexC K (κ.cl c)
 no:PySem.W.findIn K (.ref (κ.cl c)) f=some none
 no2:PySem.W.findIn K (.ref (κ.cl c)) g=some none
 iC:PySem.W.findIn K (.ref (κ.cl c)) "__init__"=some (some (.ref fI))
 tI:PySem.W.typeIn K (.ref fI)=some (.type "function")
 ok:FnOk P w K mg base (L2N.CX P w) 1 fI fd ["self",n] (spI2 K f z g)
 bd:Binds K fd ["self",n] []
 gl:mg x=some (.ref (κ.cl c))
def sEx1 (c:String)(f z g:Str)(m:M SD):S:=(fE m).bind fun d=>sEx ⟨c,[(g,d),(f,.str z)]⟩
theorem xP3 (ha:H a=none)(ne:dx≠a):upd (del (upd (upd (upd (upd H a (exo a C none)) dx (exd dx fs)) a (exo a C (some dx))) dx (exd dx gs)) a) dx (.xd gs)=upd H dx (.xd gs):=by
 funext b
 by_cases h1:b=dx
 ·rw [h1,upd_same,upd_same]
 ·rw [upd_ne h1,upd_ne h1]
  by_cases h2:b=a
  ·rw [h2,del_same,ha]
  ·rw [del_ne h2,upd_ne h1,upd_ne h2,upd_ne h1,upd_ne h2]
section
variable {X:Cx}{κ:Ctx}{A:List Nat}{W:WX}{x:Str}{c:String}{f z g n:Str}{fI:Addr}{fd:FuncData}{e:Expr}{m:M SD}{p p2 pos:Pos}
end
theorem Ok.unset (o:Ok κ B ρ σ H G)(i:Nat)(na: ∀ p,(i,p)∉B.an):Ok κ B (ρ.set i .un) (σ.set i none) H G:=by
 have back: ∀ {j:Nat} {x:SD},(ρ.set i .un)[j]? =some x->x≠ .un->ρ[j]? =some x/\(σ.set i none)[j]? =σ[j]? :=fun {j x} z n=>by
  by_cases hj:i=j
  ·subst hj
   rw [List.getElem?_set] at z
   split at z
   ·split at z
    ·exact absurd (yDc.inj z).symm n
    ·cases z
   ·exact absurd rfl (by assumption)
  ·rw [yC9 hj] at z
   exact ⟨z,yC9 hj⟩
 refine ⟨o.fr,by rw [yDe,yDe,o.len],fun j d z=> ?_,fun j d z=> ?_,fun j l p d e hjl z1 z2 z3 z4=> ?_,fun j p hp=> ?_⟩
 ·obtain ⟨z1,z2⟩:=back z (by simp)
  rw [z2]
  exact o.val j d z1
 ·obtain ⟨z1,z2⟩:=back z (by simp)
  rw [z2]
  exact o.own j d z1
 ·obtain ⟨y1,y2⟩:=back z1 (by simp)
  obtain ⟨w1,w2⟩:=back z2 (by simp)
  rw [y2] at z3
  rw [w2] at z4
  exact o.sep j l p d e hjl y1 w1 z3 z4
 ·have hj:i≠j:=fun z=>na p (by rw [z];exact hp)
  rw [yC9 hj]
  exact o.anch j p hp
def sTryF (b:S)(hit:String->Bool)(i j:Nat)(f:Str):S:=fun ρ=>match b ρ with
 | .ex x ρ'=>if hit x.c=true/\i<ρ'.length then (match x.fs.lookup f with
  | some w=> .ok .nx (((ρ'.set i .un).set j (.va w)).set i .un)
  | none=> .no) else .no
 | r=>r
structure Try1K (K:PySem.W.Frag)(κ:Ctx)(CM:Value)(f:Str)(hit:String->Bool):Prop where
 on: ∀ c,hit c=true->PySem.W.exmOne K (.ref (κ.cl c)) CM=some true
 xf: ∀ c,hit c=true->XfC K (κ.cl c)/\PySem.W.findIn K (.ref (κ.cl c)) f=some none
def tField (K:PySem.W.Frag)(f:Str)(i j:Nat)(a:Addr)(cls:Value)(d:Option Addr):TS:=fun D σ H=> ∃ C,XfC K C/\PySem.W.findIn K (.ref C) f=some none/\tAsg (tXf a cls d C f (tVar i)) (gName j) D σ H
section
variable {X:Cx}{κ:Ctx}{A:List Nat}{Wout:WX}{i j:Nat}{f nw n xm:Str}{CM:Addr}{body:List Stmt}{b:S}{hit:String->Bool}{q1 q2 q3 q4 q5 q6 pos:Pos}
end
theorem xAr (r:Room k A):A.units+65<cLine:=by have:=r.un;omega
structure Tx (n:Nat)(s:Str):Prop where
 len:s.length<=n
 asc: ∀ c∈s.cps.toList,c<128
theorem Tx.ok (h:Tx n s):PyData.strOk s=true:=by
 unfold PyData.strOk
 rw [<- Array.all_toList]
 refine yDm.mpr fun c hc=> ?_
 have:=h.asc c hc
 simp only [decide_eq_true_eq]
 omega
theorem Tx.mono (h:Tx m s)(l:m<=n):Tx n s:=⟨yEn h.len l,h.asc⟩
def D.items:D->Option (List D)
 | .lst _ l=>some l
 | .tup l=>some l
 | .str s=>some (s.cps.toList.map fun c=>D.str ⟨#[c]⟩)
 | _=>none
section
variable {α:Type}{ρ:List SD}{E:Exn->List SD->Prop}{p:SD->List SD->Prop}{s:Fl->List SD->Prop}{pl:List D->List SD->Prop}{pa:List Ar->List SD->Prop}
theorem xVz (h:Wp (fE m) ρ (fun d ρ'=> ∃ l,d.items=some l/\pl l ρ') E):Wp (iSeq m) ρ pl E:=xAm (h.mono (fun d ρ' h=>by
 obtain ⟨l,e,h⟩:=h
 cases d <;> first
  | (cases e;exact ⟨h⟩)
  | cases e) fun _ _ z=>z)
theorem yBn (h:Wp (fE m) ρ (fun d ρ'=>E ⟨c,[(g,d),(f,.str z)]⟩ ρ') E):Wp (sEx1 c f z g m) ρ s E:=xAm (h.mono (fun _ _ h=>w_ex h) fun _ _ z=>z)
structure Mw (g:Str->D->Option SD)(mb:M SD)(d:D)(ρ:List SD)(p:SD->List SD->Prop)(E:Exn->List SD->Prop):Prop where
 run: ∃ z,d= .str z/\Wp (fE mb) ρ (fun e ρ2=>Ow (g z e) fun r=>p r ρ2) E
theorem w_m1 {g:Str->D->Option SD}(h:Wp (fE ma) ρ (fun d ρ1=>Mw g mb d ρ1 p E) E):Wp (mM1 g ma mb) ρ p E:=xAm (h.mono (fun d ρ1 h=>by
 obtain ⟨z,rfl,k⟩:=h.run
 exact xAm (k.mono (fun _ _ h=>xNy h) fun _ _ z=>z)) fun _ _ z=>z)
theorem w_mw {g:Str->D->Option SD}(h:Wp (fE mb) ρ (fun e ρ2=>Ow (g z e) fun r=>p r ρ2) E):Mw g mb (.str z) ρ p E:=⟨z,rfl,h⟩
end
section
variable {p:SD->Prop}{a b:Str}{l:List D}{lo hi:Option Int}{i:Int}
theorem xTa (a b:Str):peq (.str a) (.str b)=decide (a=b):=rfl
theorem xHu (h:PyData.strOk a=true):D.pl n (.str a)=true:=by cases n <;> exact h
theorem xR6 (h:p (.va (.bl (decide (a=b)))))(ha:PyData.strOk a=true)(hb:PyData.strOk b=true):Ow (eqD (.str a) (.str b)) p:=⟨_,by
 unfold eqD
 rw [xHu ha,xHu hb,xTa]
 rfl,h⟩
theorem xQy (h:p (.va (.bl (!decide (a=b)))))(ha:PyData.strOk a=true)(hb:PyData.strOk b=true):Ow (neD (.str a) (.str b)) p:=⟨_,by
 unfold neD
 rw [xHu ha,xHu hb,xTa]
 rfl,h⟩
theorem xTw (h:p (.va (.str (cutS a lo hi))))(g:a.length<=1000000):Ow (slcD (.str a) lo hi) p:=⟨_,if_pos g,h⟩
theorem xY1 (h:p (.va (.str ⟨#[c]⟩)))(e:atI a.cps.toList i=some c)(g:a.length<=1000000):Ow (ixD (.str a) (.int i)) p:=⟨_,by
 show (if a.length<=1000000 then (atI a.cps.toList i).map fun c=>SD.va (.str ⟨#[c]⟩) else none)=_
 rw [if_pos g,e]
 rfl,h⟩
theorem xXw (h:p (.va (.bl (decide (c∈a.cps.toList))))):Ow (inD (.str ⟨#[c]⟩) (.str a)) p:=⟨_,rfl,h⟩
theorem xWc (h:p (.va (.str (Txt.join a ys))))(g:(ys.map (·.length)).sum+ys.length*a.length<=1000000):Ow (xXe a (.lst x (ys.map D.str))) p:=⟨_,by
 show (xFs (ys.map D.str)).bind _=_
 rw [xI6]
 exact if_pos g,h⟩
end
def nbFl:Fl->Bool
 | .rt r=>r.nbS
 | _=>true
def sLend (i:Nat)(s:S):S:=fun ρ=>match ρ[i]? with
 | some (.ow (.lst b l))=>match s (ρ.set i (.va (.lst true l))) with
  | .ok f ρ'=>if ((ρ'.set i .un).all SD.nbS&&nbFl f)=true/\i<ρ'.length then .ok f (ρ'.set i (.ow (.lst b l))) else .no
  | _=> .no
 | _=> .no
section
variable {κ:Ctx}{B:Bas}{ρ ρ':List SD}{σ σ':L2.St}{H H' G G':Hp}{i:Nat}{p:Addr}{b:Bool}{l:List D}{vs:List V}
abbrev lendC (B:Bas)(i:Nat)(p:Addr)(vs:List V):Bas:=⟨upd B.H p (.lst vs),upd B.G p (.lst vs),fun a=>B.T a\/a=p,(i,p)::B.an⟩
theorem xA9.monoT (h:xA9 κ T G H q d)(e:Mono T G T' G')(k:H' q=H q):xA9 κ T' G' H' q d:=by
 cases d <;> first
  | exact h.elim
  | (obtain ⟨vs,h1,h2⟩:=h;first|exact ⟨vs,k.trans h1,RepL.mono e _ h2⟩|exact ⟨vs,k.trans h1,RepK.mono e _ h2⟩|exact ⟨vs,h1.at k,RepL.mono e _ h2⟩)
  | (obtain ⟨dx,vs,h1,h2⟩:=h;exact ⟨dx,vs,k.trans h1,RepF.mono e _ h2⟩)
structure LendO (κ:Ctx)(B:Bas)(i:Nat)(p:Addr)(vs:List V)(G:Hp)(l:List D):Prop where
 gp:G p=none
 bp:B.H p=none
 bg:B.G p=none
 hr:RepL κ B.T G l vs
 sub:Same B.G G
 lent: ∀ a,B.T a->B.H a≠none
theorem LendO.at (f:LendO κ B i p vs G l)(o:Ok κ (lendC B i p vs) ρ' σ' H' G'):G' p=some (.lst vs)/\H' p=some (.lst vs)/\σ'[i]? =some (some (V.ref p)):=by
 have h1:H' p=some (.lst vs):=o.fr.keep p _ upd_same fun ps z=>nomatch z
 have h2:G' p=some (.lst vs):=by
  have z:=o.fr.frz p (by show upd B.H p _ p≠none;rw [upd_same];exact fun z=>nomatch z)
  rw [z]
  exact upd_same
 exact ⟨h2,h1,o.anch i p (yC2 ..)⟩
theorem LendO.same (f:LendO κ B i p vs G l)(s:Same (upd G p (.lst vs)) G'):Same G (er G' p):=fun a u h=>by
 have na:a≠p:=fun z=>by rw [z,f.gp] at h;cases h
 rw [xDp na]
 exact s a u (by rw [upd_ne na];exact h)
end
end Fm
set_option maxHeartbeats 990000
namespace Zn
open PySem L2 Zs
abbrev zo0 (ti to:Addr)(own:Value):Obj:={ cls:= .type "zip",dict:=none,data:= .fields #[own,.bool false,.bool false,.ref ti,.ref to],slots:= #[] }
structure Zip0 (b c:Bool)(z ti to p q a d:Addr)(n:Nat)(own u v:Value)(h:Heap):Prop where
 z:h.get? z=some (zo0 ti to own)
 i:h.get? ti=some (two (.ref p) (.ref q))
 o:h.get? to=some (two u v)
 p:At b h p a n
 q:At c h q d n
section
variable {P:Program}{w:World}{s:Shared}{A:Around}{E:Value->Shared->Prop}
end
abbrev fiveN (b c:Bool)(a d:Addr)(n:Nat):List Obj:=[itO b a,itO c d,two (.ref n) (.ref (n+1)),two .none .none,zo0 (n+2) (n+3) .none]
section
variable {b c:Bool}{z ti to p q a d:Addr}{n:Nat}{own u v:Value}{h g:Heap}
end
section
variable {P:Program}{w:World}{s:Shared}{A:Around}{E:Value->Shared->Prop}
end
end Zn
set_option maxHeartbeats 390000
namespace Fm
open L2 PySem PySem.Spec PyProof.Rows Zs Zn
def enP:Nat->List D->List D
 | _,[]=>[]
 | k,d::l=> .tup [.int (k:Nat),d]::enP (k+1) l
def enM:D->M (List D)
 | .lst _ l=>M.ret (enP 0 l)
 | _=>M.no
def iEn (m:M SD):M (List D):=(fE m).bind enM
def dvmD:List D->Option SD
 | [.int i,.int j]=>if divG i j then some (.va (.tup [.int (i.fdiv j),.int (i.fmod j)])) else none
 | _=>none
def xLr:List D->Option (List Int)
 | []=>some []
 | .int i::l=>(xLr l).map (i:: ·)
 | _::_=>none
theorem xSn: ∀ {l:List D} {ns:List Int},xLr l=some ns->l=ns.map D.int
 | [],ns,h=>by cases h;rfl
 | d::l,ns,h=>by
  cases d with
  | int i=>
   obtain ⟨ms,h1,rfl⟩:=yC4.mp (show (xLr l).map (i:: ·)=some ns from h)
   rw [xSn h1]
   rfl
  | _=>cases h
theorem xL2: ∀ ns:List Int,xLr (ns.map D.int)=some ns
 | []=>rfl
 | n::ns=>by
  show (xLr (ns.map D.int)).map (n:: ·)=_
  rw [xL2 ns]
  rfl
theorem xQq: ∀ {ns:List Int} {vs:List V},RepL κ T G (ns.map D.int) vs->vs=ns.map V.int
 | [],vs,h=>h
 | n::ns,vs,h=>by
  obtain ⟨v,ws,rfl,rfl,h2⟩:=h
  rw [xQq h2]
  rfl
def sumD:List D->Option SD
 | [.lst _ l]=>(xLr l).map fun ns=> .va (.int ns.sum)
 | _=>none
section
variable {ρ:List SD}{E:Exn->List SD->Prop}{pl:List D->List SD->Prop}{p:SD->Prop}
end
end Fm
set_option maxHeartbeats 990000
namespace Sj
open PySem PyProof.Rows
structure SJ (z:Nat)(J:Shared->Prop):Prop where
 grow: ∀ {s:Shared} {h':Heap} {t':Nat},J s->(∀ b o,s.heap.get? b=some o->h'.get? b=some o)->J { s with heap:=h',toks:=t' }
 alt: ∀ {s:Shared} {h':Heap} {t':Nat} {b:Addr},J s->z<=b->Heap.SameBut b s.heap h'->J { s with heap:=h',toks:=t' }
section
variable {prog:Program}{w:World}{A:Around}{E:Value->Shared->Prop}{s:Shared}{a kS:Addr}{vs:List Value}{kz:List Int}{keys:Array Value}{e e1:Nat}{P:PySem.Fin->Shared->Prop}{z:Nat}{J:Shared->Prop}
end
end Sj
namespace Fm
open L2 PySem PySem.Spec PyProof.Rows NdefX LamX Sj
section
variable {α β:Type}
def insK (x:Int×α):List (Int×α)->List (Int×α)
 | []=>[x]
 | y::l=>if x.1<=y.1 then x::y::l else y::insK x l
def srtK:List (Int×α)->List (Int×α)
 | []=>[]
 | x::l=>insK x (srtK l)
end
def D.itm:D->Option (List D)
 | .tup l=>some l
 | .lst _ l=>some l
 | _=>none
def absK:D->Option Int
 | .int i=>some (if i<0 then -i else i)
 | _=>none
def keyD (n:Int)(d:D):Option Int:=d.itm.bind fun l=>(atI l 0).bind fun e=>e.itm.bind fun m=>(atI m n).bind absK
def yCt (n:Int):List D->Option (List Int)
 | []=>some []
 | d::l=>(keyD n d).bind fun k=>(yCt n l).map (k:: ·)
section
variable {κ:Ctx}{T:Pd}{G H:Hp}
abbrev tKey (K:PySem.W.Frag):TE:=tCB (fun xs H Q=> ∃ i,xs=[.int i]/\Q (.int (if i<0 then -i else i)) H) (tCons (tOp (rIx K) (tOp (rIx K) (tVar 0) (tC (.int 0))) (tVar 1)) tNil)
end
def mSrt (j:Nat)(m:M SD):M SD:=(fE m).bind fun d=>fun ρ=>match d,ρ[j]? with
 | .lst _ l,some (.va (.int n))=>match yCt n l with
  | some ks=> .ok (.ow (.lst false ((srtK (ks.zip l)).map Prod.snd))) ρ
  | none=> .no
 | _,_=> .no
section
variable {pins:List (Addr×Obj)}{X:Cx}{σ:L2.St}{H:Hp}{s:Shared}
variable {f c':Addr}{pm ctv u:Value}{v:V}{params:Arguments}{body:Expr}{scope:Scope}{p y:Str}{j k:Nat}{t:TE}{Q:VK}
end
end Fm
namespace Mn
open PySem PySem.W
section
variable {prog:Program}{w:World}{A:Around}{s:Shared}{E:Value->Shared->Prop}
abbrev two (h:Heap)(a b:Value):Heap:=h.push { cls:= .type "tuple",data:= .seq #[a,b] }
theorem min_pair {Q:Value->Shared->Prop}(hh:A.handled=none)(ra:Reads s.heap a x as)(rb:Reads s.heap b y bs)(hal:AlikeAll [x,y])(hu:A.units+1+PyData.depthAll [x,y]<cLine)
  (h: ∀ h' tk,(∀ c o,s.heap.get? c=some o->h'.get? c=some o)->Q (if dataLt y x then b else a) { s with heap:=h',toks:=tk }):wpAny (model prog w) A (call (.builtin "min") [a,b]) Q E s:=by
 have old: ∀ c o,s.heap.get? c=some o->(two s.heap a b).get? c=some o:=fun c o e=>Heap.get?_push_of_some _ e
 have tupAt:(two s.heap a b).IsTuple s.heap.objs.size #[a,b]:=⟨_,Heap.get?_push_size _ rfl,rfl,0,rfl⟩
 have rd:ReadsAll (two s.heap a b) #[a,b].toList [x,y] (as++(bs++[])):= .cons (reads_keeps old ra) (.cons (reads_keeps old rb) .nil)
 refine call_function_tree F.kind_min F.plain_min F.entry_min (F.args_min2 a b) (wpAny_bind (wpAny_of_eq (a:=[none,none]) rfl (wpAny_bind (wpAny_newObj_type (wpAny_bind (iter_tupleW (A:=A.in1) (s:={ s with heap:=two s.heap a b }) hh tupAt fun s₂ e W st hfp hw hkeep=>wpAny_bind (wpAny_newObj_type ?_)))))))
 have nm:"min.loop"=(toString "min"++toString ".loop":String):=by decide
 have hSf:s₂.heap.objs.size∉[(two s.heap a b).objs.size,s.heap.objs.size]:=fun hm=>absurd (hfp _ hm) (Nat.lt_irrefl _)
 rw [<- nm]
 have hcmp:=cmpIn_lt (prog:=prog) (w:=w) (A:=A.in1) (s:={ s with heap:=two s.heap a b }) rd hal (show A.units+1+_<_ from hu)
 refine wpAny_pure ⟨plainId_quiet F.plain_min_loop _,codeAny_min_loop_firstH W _ hw _ hcmp s₂.heap.objs.size hSf (fresh_in hkeep) _ (by show 0<2;omega) (fun b o e=>Heap.get?_push_of_some _ (hkeep b o e)) (W.frame 0 s₂ _ s₂.toks st (yDp _) fun b _ o e=>Heap.get?_push_of_some _ e) (Heap.get?_push_size _ rfl) fun v s' hP hm=> ?_⟩
 have hm2:=Moved.drop_new (tk:=s₂.toks) hm (yDp _)
 obtain ⟨h',tk,rfl,hk'⟩:=moved_old (s:={ s with heap:=s.heap.push { cls:= .type "tuple",data:= .seq #[a,b] } }) e rfl hm2
 have ev:v=if dataLt y x then b else a:=by
  have hP':(#[a,b]:Array Value)[argBest (fun i j=>dataLt ([x,y].getD i .none) ([x,y].getD j .none)) 1]? =some v:=hP
  have e1:argBest (fun i j=>dataLt ([x,y].getD i .none) ([x,y].getD j .none)) 1=if dataLt y x then 1 else 0:=rfl
  rw [e1] at hP'
  cases c:dataLt y x with
  | true=>
   rw [c,if_pos rfl] at hP'
   cases hP'
   exact (if_pos rfl).symm
  | false=>
   rw [c,if_neg yD5] at hP'
   cases hP'
   exact (if_neg yD5).symm
 subst ev
 exact h h' tk fun c o e=>hk' c o (old c o e)
end
end Mn
namespace Fm
open L2 PySem PySem.Spec PyProof.Rows PySem.W
theorem inC {α:Type}{a b:α}{l:List α}(h:a∈b::l):a=b\/a∈l:=yDo.mp h
theorem allC {α:Type}{p:α->Bool}{a:α}{l:List α}(h:(a::l).all p=true):p a=true/\l.all p=true:=yD8.mp h
def xF6 (l:List D):Bool:=plL 60 l&&(l.all fun a=>l.all fun b=>alike a.py b.py)&&((l.all fun a=>match a.py with| .tuple (_::_)=>true|_=>false) || l.all fun a=>match a.py with| .none=>false| .tuple _=>false|_=>true)
def srtD (l:List D):List D:=l.mergeSort (dataLe false D.py)
section
variable {κ:Ctx}{X:Cx}
theorem xMq: ∀ {l:List D} {n:Nat} {d:D},plL n l=true->d∈l->d.pl n=true
 | c::l,n,d,h,m=>by
  have h':(D.pl n c&&plL n l)=true:=by unfold plL at h;exact h
  rw [yC5] at h'
  rcases inC m with rfl|m
  ·exact h'.1
  ·exact xMq h'.2 m
theorem xUu (h:xF6 l=true):plL 60 l=true:=by
 unfold xF6 at h
 rw [yC5,yC5] at h
 exact h.1.1
theorem xNz (h:xF6 l=true):AllAlike (l.map D.py):=by
 unfold xF6 at h
 rw [yC5,yC5] at h
 have h2:=h.1.2
 intro d hd e he
 obtain ⟨a,ha,rfl⟩:=yDi.mp hd
 obtain ⟨b,hb,rfl⟩:=yDi.mp he
 exact yDm.mp (yDm.mp h2 a ha) b hb
theorem xPh (h:xF6 l=true):Sortable (l.map D.py):=by
 unfold xF6 at h
 rw [yC5] at h
 rcases Bool.or_eq_true_iff.mp h.2 with z|z
 ·refine .inl fun d hd=> ?_
  obtain ⟨a,ha,rfl⟩:=yDi.mp hd
  have y:=yDm.mp z a ha
  split at y
  ·rename_i u r e
   exact ⟨u,r,e⟩
  ·cases y
 ·refine .inr fun d hd=> ?_
  obtain ⟨a,ha,rfl⟩:=yDi.mp hd
  have y:=yDm.mp z a ha
  refine ⟨fun e=> ?_,fun xs e=> ?_⟩
  ·rw [e] at y
   cases y
  ·rw [e] at y
   cases y
def Std (κ:Ctx)(T:Pd)(G:Hp)(u:Value)(d:D):Prop:= ∃ v,RelV v u/\Rep κ T G d v
theorem xRm: ∀ {ds:List D} {vs:List V} {us:List Value},RepL κ T G ds vs->Vals vs us->EachIs (Std κ T G) us ds
 | [],vs,us,r,h=>by
  rw [show vs=[] from r] at h
  cases h
  exact .nil
 | d::ds,vs,us,r,h=>by
  obtain ⟨v,ws,rfl,r1,r2⟩:=r
  cases h with
  | cons a b=>exact .cons ⟨v,a,r1⟩ (xRm r2 b)
theorem xY6 (h:EachIs (Std κ T G) us ds): ∃ vs,Vals vs us/\RepL κ T G ds vs:=by
 induction h with
 | nil=>exact ⟨[],.nil,rfl⟩
 | cons a b ih=>
  obtain ⟨v,h1,h2⟩:=a
  obtain ⟨vs,h3,h4⟩:=ih
  exact ⟨v::vs,.cons h1 h3,v,vs,rfl,h2,h4⟩
theorem xJ9 (hK:X.K=κ.K)(I:L2.Inv X pins σ H s)(gh:Same G H)(hp:d.pl n=true)(h:Std κ T G u d): ∃ as,Reads s.heap u d.py as:=by
 obtain ⟨v,h1,h2⟩:=h
 exact Dp.reads I d.py v u (hK ▸ xGh gh d hp h2) h1
def xTg (κ:Ctx):List V->Hp->VK->Prop:=fun xs H Q=> ∃ a vs ds T G,xs=[.ref a]/\SqL κ.K H a vs/\RepL κ T G ds vs/\Same G H/\xF6 ds=true/\ ∀ ws p,RepL κ T G (srtD ds) ws->H p=none->Q (.ref p) (upd H p (.lst ws))
theorem xUd (hK:X.K=κ.K)(hu:X.A.units+65<cLine):CallR X (.builtin "sorted") (xTg κ):=by
 rintro pins s σ H xs us Q I r h
 obtain ⟨a,vs,ds,T,G,rfl,hs,hr,gh,hb,q⟩:=h
 obtain ⟨its,rv,hl,hz⟩:=I.list (hK ▸ hs)
 rw [Vals.ref1 r]
 have e:=xRm hr rv
 have pl:=xUu hb
 have lz:ds.length<=sizeLine:=by rw [<- hr.length];exact hz
 have er:EachIs (fun u d=> ∃ as,Reads s.heap u (D.py d) as) its ds:=by
  have go: ∀ {us:List Value} {l:List D},EachIs (Std κ T G) us l->(∀ d∈l,d.pl 60=true)->EachIs (fun u d=> ∃ as,Reads s.heap u (D.py d) as) us l:=by
   intro us l h
   induction h with
   | nil=>exact fun _=> .nil
   | cons a b ih=>exact fun hp=> .cons (xJ9 hK I gh (hp _ (yC2 ..)) a) (ih fun d hd=>hp d (yC8 _ hd))
  exact go e fun d hd=>xMq pl hd
 refine sorted_data hl.isList e er (xNz hb) (xPh hb) lz (fun d hd=> ?_) fun out ol ho=> ?_
 ·have:=(xMc d (xMq pl hd)).2
  omega
 ·obtain ⟨ws,w1,w2⟩:=xY6 ho
  obtain ⟨ep,he'⟩:=PyProof.Rows.sortedAll_at s.heap its (List.toArray out)
  have wl:ws.length<=sizeLine:=by
   have z:ws.length=(srtD ds).length:=w2.length
   have z2:(srtD ds).length=ds.length:=List.length_mergeSort _
   rw [z,z2]
   exact lz
  exact ⟨.ref _,upd H (s.heap.objs.size+1) (.lst ws),I.laid (t':=s.toks) (fun _ _=>PyProof.Rows.sortedAll_old) (yEh _) ⟨wl,out,ep,w1,he'⟩,rfl,q ws _ w2 (I.hok.fresh (yEh _))⟩
def minB (d e:D):Bool:=d.pl 60&&e.pl 60&&alike d.py d.py&&alike d.py e.py&&alike e.py d.py&&alike e.py e.py&&(match d.py with| .none=>false|_=>true)&&(match e.py with| .none=>false|_=>true)
theorem xT5 {d e:D}(h:minB d e=true):d.pl 60=true/\e.pl 60=true/\AlikeAll [d.py,e.py]:=by
 unfold minB at h
 obtain ⟨h,h8⟩:=and2 h
 obtain ⟨h,h7⟩:=and2 h
 obtain ⟨h,h6⟩:=and2 h
 obtain ⟨h,h5⟩:=and2 h
 obtain ⟨h,h4⟩:=and2 h
 obtain ⟨h,h3⟩:=and2 h
 obtain ⟨h1,h2⟩:=and2 h
 refine ⟨h1,h2,fun x hx y hy=> ?_,fun x hx=> ?_⟩
 ·rcases inC hx with rfl|hx
  ·rcases inC hy with rfl|hy
   ·exact h3
   ·rw [yDr.mp hy]
    exact h4
  ·rw [yDr.mp hx]
   rcases inC hy with rfl|hy
   ·exact h5
   ·rw [yDr.mp hy]
    exact h6
 ·rcases inC hx with rfl|hx
  ·intro z
   rw [z] at h7
   cases h7
  ·rw [yDr.mp hx]
   intro z
   rw [z] at h8
   cases h8
def xKp (d e:D):D:=if dataLt e.py d.py then e else d
def xWn (κ:Ctx):List V->Hp->VK->Prop:=fun xs H Q=> ∃ x y d e T G,xs=[x,y]/\Rep κ T G d x/\Rep κ T G e y/\Same G H/\minB d e=true/\Q (if dataLt e.py d.py then y else x) H
theorem xPb (hK:X.K=κ.K)(hc:X.calm=true)(hu:X.A.units+65<cLine):CallR X (.builtin "min") (xWn κ):=by
 rintro pins s σ H xs us Q I r h
 obtain ⟨x,y,d,e,T,G,rfl,r1,r2,gh,hb,q⟩:=h
 obtain ⟨u,u',rfl,h1,h2⟩:=vals2 r
 obtain ⟨p1,p2,al⟩:=xT5 hb
 obtain ⟨as,ra⟩:=xJ9 hK I gh p1 ⟨x,h1,r1⟩
 obtain ⟨bs,rb⟩:=xJ9 hK I gh p2 ⟨y,h2,r2⟩
 have d1:=(xMc d p1).2
 have d2:=(xMc e p2).2
 refine Mn.min_pair (I.ok.hd hc) ra rb al ?_ fun h' tk k=>⟨_,H,I.kept k,?_,q⟩
 ·show X.A.units+1+max d.py.depth (max e.py.depth 0)<cLine
  omega
 ·split
  ·exact h2
  ·exact h1
def xYk:List D->Option SD
 | [.lst _ l]=>if xF6 l then some (.ow (.lst false (srtD l))) else none
 | _=>none
theorem xUh:xDx κ (xTg κ) xYk:=by
 intro B ρ σ H G ds xs z Q o r hz q
 unfold xYk at hz
 split at hz
 ·rename_i b l
  split at hz
  ·rename_i hb
   cases hz
   obtain ⟨v,ws,rfl,r1,rfl⟩:=r
   obtain ⟨a,vs,rfl,h2,h3,h4⟩:=r1.seqL o.fr.gh
   exact ⟨a,vs,l,B.T,G,rfl,h3,h4,o.fr.gh,hb,fun ws p hw hp=>q _ _ G (o.allocOwn hp) (Same.refl G) (o.newOwn hp ⟨ws,upd_same,hw⟩)⟩
  ·cases hz
 ·cases hz
def xR4:List D->Option SD
 | [d,e]=>if minB d e then some (.va (xKp d e)) else none
 | _=>none
theorem xOn:xDx κ (xWn κ) xR4:=by
 intro B ρ σ H G ds xs z Q o r hz q
 unfold xR4 at hz
 split at hz
 ·rename_i d e
  split at hz
  ·rename_i hb
   cases hz
   obtain ⟨x,ws,rfl,r1,y,w2,rfl,r2,rfl⟩:=r
   refine ⟨x,y,d,e,B.T,G,rfl,r1,r2,o.fr.gh,hb,q _ H G o (Same.refl G) ?_⟩
   show Rep κ B.T G (xKp d e) _
   unfold xKp
   split
   ·exact r2
   ·exact r1
  ·cases hz
 ·cases hz
def maxIs:List Int->Int
 | []=>0
 | x::l=>l.foldl max x
def xPx:List D->Option SD
 | [.lst _ l]=>match xLr l with
  | some (x::ns)=>some (.va (.int (ns.foldl max x)))
  | _=>none
 | _=>none
theorem xRy (ns:List Int): ∀ x:Int,(ns.foldl max x=x\/ns.foldl max x∈ns)/\x<=ns.foldl max x/\ ∀ y∈ns,y<=ns.foldl max x:=by
 induction ns with
 | nil=>exact fun x=>⟨.inl rfl,Int.le_refl _,fun y h=>by cases h⟩
 | cons a ns ih=>
  intro x
  obtain ⟨h1,h2,h3⟩:=ih (max x a)
  refine ⟨?_,?_,fun y hy=> ?_⟩
  ·rcases h1 with h1|h1
   ·show ns.foldl max (max x a)=x\/ns.foldl max (max x a)∈a::ns
    rw [h1]
    rcases Int.le_total x a with l|l
    ·exact .inr (by rw [show max x a=a by omega];exact yC2 ..)
    ·exact .inl (by omega)
   ·exact .inr (yC8 _ h1)
  ·show x<=ns.foldl max (max x a)
   omega
  ·rcases inC hy with rfl|hy
   ·show y<=ns.foldl max (max x y)
    omega
   ·exact h3 y hy
theorem xZj:xDx κ (rMax κ.K) xPx:=by
 intro B ρ σ H G ds xs z Q o r hz q
 unfold xPx at hz
 split at hz
 ·rename_i b l
  split at hz
  ·rename_i x ns h1
   cases hz
   obtain ⟨v,ws,rfl,r1,rfl⟩:=r
   obtain ⟨a,vs,rfl,h2,h3,h4⟩:=r1.seqL o.fr.gh
   rw [xSn h1] at h4
   rw [xQq h4] at h3
   refine ⟨a,x::ns,rfl,h3,Nat.succ_pos _,fun m hm hle=>q _ H G o (Same.refl G) ?_⟩
   obtain ⟨f1,f2,f3⟩:=xRy ns x
   have e:m=ns.foldl max x:=by
    have l1:m<=ns.foldl max x:=by
     rcases inC hm with rfl|hm
     ·exact f2
     ·exact f3 m hm
    have l2:ns.foldl max x<=m:=by
     rcases f1 with f1|f1
     ·rw [f1]
      exact hle x (yC2 ..)
     ·exact hle _ (yC8 _ f1)
    omega
   show Rep κ B.T G (.int (ns.foldl max x)) (.int m)
   rw [e]
   rfl
  ·cases hz
 ·cases hz
end
section
variable {p:SD->Prop}
theorem xWs (h:p (.va (xKp d e)))(g:minB d e=true):Ow (xR4 [d,e]) p:=⟨_,if_pos g,h⟩
theorem xWl (h:p (.va (.int (ns.foldl max x)))):Ow (xPx [.lst b ((x::ns).map D.int)]) p:=⟨_,by
 unfold xPx
 dsimp only
 rw [xL2],h⟩
end
end Fm
namespace Fm
open L2 PySem PySem.Spec PyProof.Rows PySem.W
def xCy:D->Option Key
 | .int i=>some (.inl i)
 | .str s=>some (.inr s)
 | _=>none
def getK (l:List (Key×D))(k:Key):Option D:=(l.find? fun kv=>decide (kv.1=k)).map (·.2)
def xB3 (l:List (Key×D))(k:Key)(d:D):List (Key×D):=
 if (l.any fun kv=>decide (kv.1=k))=true then l.map (fun kv=>if kv.1=k then (kv.1,d) else kv) else l++[(k,d)]
def xV4 (l:List (Key×D))(k:Key):List (Key×D):=l.filter fun kv=>decide (kv.1≠k)
section
variable {κ:Ctx}{T:Pd}{G H:Hp}
theorem xGd (r:Rep κ T G d v)(h:xCy d=some k):v=kV k:=by
 cases d with
 | int i=>
  cases h
  exact r
 | str s=>
  cases h
  exact r
 | _=>cases h
theorem xB2 (p:Key×D)(l:List (Key×D))(k:Key):getK (p::l) k=if p.1=k then some p.2 else getK l k:=by
 unfold getK
 rw [List.find?_cons]
 by_cases h:p.1=k
 ·rw [if_pos h,decide_eq_true h] <;> rfl
 ·rw [if_neg h,decide_eq_false h]
theorem RepK.val: ∀ {l:List (Key×D)} {vs:List (Key×V)} (k:Key),RepK κ T G l vs->(∀ d,getK l k=some d-> ∃ v,valV vs k=some v/\Rep κ T G d v)/\(getK l k).isSome=(valV vs k).isSome
 | [],vs,k,h=>by
  rw [show vs=[] from h]
  exact ⟨(fun d z=>by cases z),rfl⟩
 | (c,d)::l,vs,k,h=>by
  obtain ⟨v,ws,rfl,h1,h2⟩:=h
  obtain ⟨i1,i2⟩:=RepK.val k h2
  rw [xB2]
  by_cases e:c=k
  ·rw [if_pos e,valV_pos (p:=(c,v)) e]
   exact ⟨fun d' z=>by cases z;exact ⟨v,rfl,h1⟩,rfl⟩
  ·rw [if_neg e,valV_neg (p:=(c,v)) e]
   exact ⟨i1,i2⟩
theorem RepK.any: ∀ {l:List (Key×D)} {vs:List (Key×V)} (k:Key),RepK κ T G l vs->(l.any fun kv=>decide (kv.1=k))=vs.any fun kv=>decide (kv.1=k)
 | [],vs,k,h=>by
  rw [show vs=[] from h]
  rfl
 | (c,d)::l,vs,k,h=>by
  obtain ⟨v,ws,rfl,h1,h2⟩:=h
  rw [yEu,yEu,RepK.any k h2]
theorem RepK.append: ∀ {l m:List (Key×D)} {vs ws:List (Key×V)},RepK κ T G l vs->RepK κ T G m ws->RepK κ T G (l++m) (vs++ws)
 | [],m,vs,ws,h,k=>by rw [show vs=[] from h];exact k
 | (c,d)::l,m,vs,ws,h,k=>by
  obtain ⟨v,us,h1,h2,h3⟩:=h
  rw [h1]
  exact ⟨v,us++ws,rfl,h2,h3.append k⟩
theorem RepK.put (k:Key)(h:RepK κ T G l vs)(r:Rep κ T G d v):RepK κ T G (xB3 l k d) (putK vs k v):=by
 have go: ∀ {l:List (Key×D)} {vs:List (Key×V)},RepK κ T G l vs->RepK κ T G (l.map fun kv=>if kv.1=k then (kv.1,d) else kv) (vs.map fun kv=>if kv.1=k then (kv.1,v) else kv):=by
  intro l
  induction l with
  | nil=>
   intro vs h
   rw [show vs=[] from h]
   exact rfl
  | cons p l ih=>
   intro vs h
   obtain ⟨c,e⟩:=p
   obtain ⟨w,ws,rfl,h1,h2⟩:=h
   rw [yD2]
   rw [yD2]
   by_cases z:c=k
   ·rw [if_pos z,if_pos z]
    exact ⟨v,_,rfl,r,ih h2⟩
   ·rw [if_neg z,if_neg z]
    exact ⟨w,_,rfl,h1,ih h2⟩
 unfold xB3 putK
 rw [h.any k]
 split
 ·exact go h
 ·exact h.append ⟨v,[],rfl,r,rfl⟩
theorem RepK.keys: ∀ {l:List (Key×D)} {vs:List (Key×V)},RepK κ T G l vs->vs.map (·.1)=l.map (·.1)
 | [],vs,h=>by rw [show vs=[] from h] <;> rfl
 | (c,d)::l,vs,h=>by
  obtain ⟨w,ws,rfl,h1,h2⟩:=h
  rw [yD2,yD2,h2.keys]
theorem RepK.length (h:RepK κ T G l vs):vs.length=l.length:=by
 have e:=congrArg yEl h.keys
 repeat rw [yC0] at e
 exact e
theorem Rep.dkR (s:Same G H)(h:Rep κ T G (.dk b l) v): ∃ a vs,v= .ref a/\Rd H a (.dK vs)/\RepK κ T G l vs:=by
 obtain ⟨a,vs,rfl,⟨h1,_⟩,h2⟩:=h
 exact ⟨a,vs,rfl,Rd.mono s h1.rd,h2⟩
end
def ix3D (d k:D):Option SD:=match d with
 | .dk _ l=>(xCy k).bind fun k=>(getK l k).map SD.va
 | d=>ixD d k
abbrev rIx3 (K:PySem.W.Frag):R2:=fun x y H Q=>rIx K x y H Q\/ ∃ a v,x= .ref a/\DGet H a y (some v)/\Q v H
section
variable {κ:Ctx}{X:Cx}
theorem xYi (hu:X.A.units+1<cLine):IxR X (fun x y H Q=> ∃ a v,x= .ref a/\DGet H a y (some v)/\Q v H):=by
 rintro value slice pins s σ H x y v u Q I rx ry h hs
 obtain ⟨a,z,rfl,g,q⟩:=h
 obtain rfl:v= .ref a:=rx
 exact tail_any (dict_typeIs I g) PySem.F.slot_dict_getitem.lookup (d_getItem hu I g ry fun w' s3 I3 rw'=>⟨z,H,I3,rw',q⟩) hs
theorem ix_3 (hu:X.A.units+1<cLine):IxR X (rIx3 X.K):=ix_seq.or (xYi hu)
theorem xW1:OpD κ (rIx3 κ.K) ix3D:=by
 intro B ρ σ H G d e x y z Q o r1 r2 hz q
 cases d with
 | dk b l=>
  obtain ⟨k,hk,hz⟩:=yDf.mp hz
  obtain ⟨c,hc,rfl⟩:=yC4.mp hz
  obtain ⟨a,vs,rfl,h1,h2⟩:=r1.dkR o.fr.gh
  obtain ⟨v,hv,rv⟩:=(h2.val k).1 c hc
  refine .inr ⟨a,v,rfl,?_,q v H G o (Same.refl G) rv⟩
  rw [xGd r2 hk,<- hv]
  exact .inl ⟨vs,k,h1,rfl,rfl⟩
 | _=>exact .inl (od_ix B ρ σ H G _ e x y z Q o r1 r2 hz q)
def at3S (i:Nat)(e:D):M SD:=fun ρ=>match ρ[i]? with
 | some (.va d)=>match ix3D d e with
  | some z=> .ok z ρ
  | none=> .no
 | some (.ow (.lst b l))=>match ixD (.lst b l) e with
  | some z=> .ok z ρ
  | none=> .no
 | some (.ow (.dk _ l))=>match (xCy e).bind (getK l) with
  | some d=> .ok (.va d) ρ
  | none=> .no
 | _=> .no
def xAy (i:Nat)(m:M SD):M SD:=xB6 i ((fE m).bind (at3S i))
variable {W:WX}{σ:L2.St}{H:Hp}{Q:VK}
theorem xYb (h:tE κ W (xAy i m) σ H Q):tOp (rIx3 κ.K) (tVar i) (tE κ W m) σ H Q:=by
 obtain ⟨B,ρ,G,o,q⟩:=h
 obtain ⟨⟨v,hv⟩,q⟩:=xVv o q
 refine ⟨v,hv,xBs o (Pst.bind q) fun e ρ1 H1 G1 o1 s1 q1 y r1=> ?_⟩
 unfold at3S at q1
 cases h1:ρ1[i]? with
 | none=>
  rw [h1] at q1
  exact q1.elim
 | some x=>
  rw [h1] at q1
  cases x with
  | un=>exact q1.elim
  | va d=>
   dsimp only at q1
   obtain ⟨w',e1,e2⟩:=o1.val i d h1
   rw [hv] at e1
   cases e1
   cases hz:ix3D d e with
   | none=>
    rw [hz] at q1
    exact q1.elim
   | some z=>
    rw [hz] at q1
    exact xW1 B ρ1 σ H1 G1 d e _ _ z Q o1 e2 r1 hz fun v' H' G' o' s' rv=>q1 H' G' o' s' v' rv
  | ow d=>
   obtain ⟨p,e1,e2,e3,e4⟩:=o1.own i d h1
   rw [hv] at e1
   cases e1
   cases d with
   | lst b l=>
    dsimp only at q1
    cases hz:ixD (.lst b l) e with
    | none=>
     rw [hz] at q1
     exact q1.elim
    | some z=>
     rw [hz] at q1
     cases e with
     | int j=>
      obtain ⟨c,h2,rfl⟩:=yC4.mp (show (atI l j).map SD.va=some z from hz)
      obtain ⟨vs,h3,h4⟩:=e4
      obtain ⟨v',h5,h6⟩:=xM1 h4 h2
      exact .inl (.inl ⟨p,vs,j,v',rfl,r1,SqL.of h3,h5,q1 H1 G1 o1 (Same.refl G1) v' h6⟩)
     | _=>cases hz
   | dk b l=>
    dsimp only at q1
    cases hz:(xCy e).bind (getK l) with
    | none=>
     rw [hz] at q1
     exact q1.elim
    | some c=>
     rw [hz] at q1
     obtain ⟨k,hk,hc⟩:=yDf.mp hz
     obtain ⟨vs,h3,h4⟩:=e4
     obtain ⟨v',hv',rv⟩:=(h4.val k).1 c hc
     refine .inr ⟨p,v',rfl,?_,q1 H1 G1 o1 (Same.refl G1) v' rv⟩
     rw [xGd r1 hk,<- hv']
     exact DGet.k h3
   | _=>exact q1.elim
theorem xT0 (hK:X.K=κ.K)(hu:X.A.units+65<cLine)(h:PE X (.Name x p) (tVar i))(hb:PE X b (tE κ W m))(hs:PlainIx b):PE X (.Subscript (.Name x p) b pos) (tE κ W (xAy i m)):=
 PE.imp (pe_ix (ix_3 (by omega)) h hb hs) fun _ _ _ q=>by
  rw [hK]
  exact xYb q
theorem xGq (hK:X.K=κ.K)(hu:X.A.units+65<cLine)(h:PE X a (tE κ W ma))(hb:PE X b (tE κ W mb))(hs:PlainIx b):PE X (.Subscript a b pos) (tE κ W (mOp ix3D ma mb)):=
 PE.imp (pe_ix (ix_3 (by omega)) h hb hs) fun _ _ _ q=>xVs (hK ▸ xW1) q
end
def xHs:D->Bool
 | .non=>true
 | .bl _=>true
 | .int _=>true
 | .str _=>true
 | _=>false
def eqF:D->D->Bool
 | .non,.non=>true
 | .bl a,.bl b=>a==b
 | .bl p,.int q=>(if p then 1 else 0)==q
 | .int p,.bl q=>p==(if q then 1 else 0)
 | .int a,.int b=>a==b
 | .str a,.str b=>a==b
 | _,_=>false
def in3B (d e:D):Option Bool:=match e with
 | .dk _ l=>(xCy d).map fun k=>(getK l k).isSome
 | .tup l=>if xHs d&&l.all xHs then some (l.any fun y=>eqF y d) else none
 | e=>inB d e
def in3D (d e:D):Option SD:=(in3B d e).map fun b=> .va (.bl b)
def xNa (d e:D):Option SD:=(in3B d e).map fun b=> .va (.bl (!b))
abbrev rIn3 (K:PySem.W.Frag):R2:=fun x y H Q=>rIn2 K x y H Q\/rIn K false x y H Q\/ ∃ a o,y= .ref a/\DGet H a x o/\Q (.bl o.isSome) H
abbrev yCp (K:PySem.W.Frag):R2:=fun x y H Q=>xY5 K x y H Q\/rIn K true x y H Q\/ ∃ a o,y= .ref a/\DGet H a x o/\Q (.bl (!o.isSome)) H
section
variable {κ:Ctx}{X:Cx}
theorem xZb (hu:X.A.units+1<cLine):OpR X (compareOp .In) (fun x y H Q=> ∃ a o,y= .ref a/\DGet H a x o/\Q (.bl o.isSome) H):=by
 rintro pins s σ H x y v u Q I rx ry h
 obtain ⟨a,o,rfl,g,q⟩:=h
 obtain rfl:u= .ref a:=ry
 exact d_in hu I g rx fun s3 I3=>⟨.bl o.isSome,H,I3,rfl,q⟩
theorem xU2 (hu:X.A.units+1<cLine):OpR X (compareOp .NotIn) (fun x y H Q=> ∃ a o,y= .ref a/\DGet H a x o/\Q (.bl (!o.isSome)) H):=by
 rintro pins s σ H x y v u Q I rx ry h
 obtain ⟨a,o,rfl,g,q⟩:=h
 obtain rfl:u= .ref a:=ry
 exact d_notIn hu I g rx fun s3 I3=>⟨.bl (!o.isSome),H,I3,rfl,q⟩
theorem xL6 (hu:X.A.units+65<cLine):OpR X (compareOp .In) (rIn3 X.K):=(yBo hu).or (op_in_seq.or (xZb (by omega)))
theorem xJn (hu:X.A.units+65<cLine):OpR X (compareOp .NotIn) (yCp X.K):=(xXh hu).or (op_notIn_seq.or (xU2 (by omega)))
theorem xPf (h:xHs d=true)(r:Rep κ T G d v):flatV v=true:=by
 cases d with
 | non=>cases (show v=V.non from r);rfl
 | bl b=>cases (show v=V.bl b from r);rfl
 | int b=>cases (show v=V.int b from r);rfl
 | str b=>cases (show v=V.str b from r);rfl
 | _=>cases h
theorem xY3 (h:xHs d=true)(g:xHs e=true)(r:Rep κ T G d v)(q:Rep κ T G e w):eqV v w=eqF d e:=by
 cases d with
 | non=>
  cases (show v=V.non from r)
  cases e with
  | non=>cases (show w=V.non from q);rfl
  | bl b=>cases (show w=V.bl b from q);rfl
  | int b=>cases (show w=V.int b from q);rfl
  | str b=>cases (show w=V.str b from q);rfl
  | _=>cases g
 | bl b=>
  cases (show v=V.bl b from r)
  cases e with
  | non=>cases (show w=V.non from q);rfl
  | bl b=>cases (show w=V.bl b from q);rfl
  | int b=>cases (show w=V.int b from q);rfl
  | str b=>cases (show w=V.str b from q);rfl
  | _=>cases g
 | int b=>
  cases (show v=V.int b from r)
  cases e with
  | non=>cases (show w=V.non from q);rfl
  | bl b=>cases (show w=V.bl b from q);rfl
  | int b=>cases (show w=V.int b from q);rfl
  | str b=>cases (show w=V.str b from q);rfl
  | _=>cases g
 | str b=>
  cases (show v=V.str b from r)
  cases e with
  | non=>cases (show w=V.non from q);rfl
  | bl b=>cases (show w=V.bl b from q);rfl
  | int b=>cases (show w=V.int b from q);rfl
  | str b=>cases (show w=V.str b from q);rfl
  | _=>cases g
 | _=>cases h
theorem xK2 (h:xHs d=true)(r:Rep κ T G d v): ∀ {l:List D} {vs:List V},l.all xHs=true->RepL κ T G l vs->vs.all flatV=true/\inV v vs=l.any fun y=>eqF y d
 | [],vs,_,q=>by
  rw [show vs=[] from q]
  exact ⟨rfl,rfl⟩
 | e::l,vs,g,q=>by
  obtain ⟨w,ws,rfl,q1,q2⟩:=q
  rw [yD6,yC5] at g
  obtain ⟨i1,i2⟩:=xK2 h r g.2 q2
  refine ⟨by rw [yD6,xPf g.1 q1,i1] <;> rfl,?_⟩
  show (eqV w v || inV v ws)=_
  rw [yEu,i2,xY3 g.1 h q1 r]
theorem xLx (o:Ok κ B ρ σ H G)(r1:Rep κ B.T G d x)(r2:Rep κ B.T G e y)(hb:in3B d e=some b):
  inB d e=some b\/(∃ p xs,y= .ref p/\(SqL κ.K H p xs\/SqT κ.K H p xs)/\flatV x=true/\xs.all flatV=true/\b=inV x xs)\/ ∃ a ov,y= .ref a/\DGet H a x ov/\b=ov.isSome:=by
 cases e with
 | dk c l=>
  obtain ⟨k,hk,rfl⟩:=yC4.mp hb
  obtain ⟨a,vs,rfl,h1,h2⟩:=r2.dkR o.fr.gh
  refine .inr (.inr ⟨a,valV vs k,rfl,?_,(h2.val k).2⟩)
  rw [xGd r1 hk]
  exact .inl ⟨vs,k,h1,rfl,rfl⟩
 | tup l=>
  have hb:(if xHs d&&l.all xHs then some (l.any fun y=>eqF y d) else none)=some b:=hb
  split at hb
  ·rename_i c
   cases hb
   rw [yC5] at c
   obtain ⟨a,vs,rfl,h1,h2⟩:=r2
   obtain ⟨f1,f2⟩:=xK2 c.1 r1 c.2 h2
   exact .inr (.inl ⟨a,vs,rfl,.inr (h1.sq o.fr.gh),xPf c.1 r1,f1,f2.symm⟩)
  ·cases hb
 | _=>exact .inl hb
theorem xKr:OpD κ (rIn3 κ.K) in3D:=by
 intro B ρ σ H G d e x y z Q o r1 r2 hz q
 obtain ⟨b,hb,rfl⟩:=yC4.mp hz
 have fin:=q (.bl b) H G o (Same.refl G) rfl
 rcases xLx o r1 r2 hb with h|⟨p,xs,rfl,h1,h2,h3,rfl⟩|⟨a,ov,rfl,g,rfl⟩
 ·exact .inl (od_in B ρ σ H G d e x y _ Q o r1 r2 (by unfold inD;rw [h] <;> rfl) q)
 ·exact .inr (.inl ⟨p,xs,rfl,h1,h2,h3,fin⟩)
 ·exact .inr (.inr ⟨a,ov,rfl,g,fin⟩)
theorem xKl:OpD κ (yCp κ.K) xNa:=by
 intro B ρ σ H G d e x y z Q o r1 r2 hz q
 obtain ⟨b,hb,rfl⟩:=yC4.mp hz
 have fin:=q (.bl (!b)) H G o (Same.refl G) rfl
 rcases xLx o r1 r2 hb with h|⟨p,xs,rfl,h1,h2,h3,rfl⟩|⟨a,ov,rfl,g,rfl⟩
 ·exact .inl (yAq B ρ σ H G d e x y _ Q o r1 r2 (by unfold ninD;rw [h] <;> rfl) q)
 ·exact .inr (.inl ⟨p,xs,rfl,h1,h2,h3,fin⟩)
 ·exact .inr (.inr ⟨a,ov,rfl,g,fin⟩)
end
def xQs:M SD:=M.ret (.ow (.dk false []))
def xVr (i:Nat)(v k:D):S:=fun ρ=>match ρ[i]? with
 | some (.ow (.lst b l))=>match k with
  | .int j=>match ixN l.length j with
   | some n=> .ok .nx (ρ.set i (.ow (.lst b (l.set n v))))
   | none=> .no
  | _=> .no
 | some (.ow (.dk b l))=>match xCy k with
  | some j=>if l.length<1000000 then .ok .nx (ρ.set i (.ow (.dk b (xB3 l j v)))) else .no
  | none=> .no
 | _=> .no
def xF9 (i:Nat)(mk me:M SD):S:=(fE me).bind fun v=>xB6 i ((fE mk).bind fun k=>xVr i v k)
def xDe:List D->Option SD
 | [.dk _ l]=>some (.va (.int l.length))
 | l=>lenD l
def xZh:List D->Option SD
 | [.dk _ l]=>some (.ow (.dk false l))
 | _=>none
def xEa:List (Key×D)->Option (List Str)
 | []=>some []
 | (.inr s,_)::l=>(xEa l).map (s:: ·)
 | (.inl _,_)::_=>none
def ssort (l:List Str):List Str:=l.mergeSort fun a b=>decide (a.cps.toList<=b.cps.toList)
def xCz:List D->Option SD
 | [.dk _ l]=>(xEa l).bind fun ks=>if ks.length<64 then some (.ow (.lst false ((ssort ks).map D.str))) else none
 | l=>xYk l
section
variable {κ:Ctx}{X:Cx}{W:WX}{A:List Nat}
theorem xSf:PE X (.Dict [] [] pos) (tE κ W xQs):=PE.imp pe_dnewK fun σ H Q ⟨B,ρ,G,o,q⟩ p hp=>q _ G (o.allocOwn hp) (Same.refl G) _ (o.newOwn hp ⟨[],upd_same,rfl⟩)
abbrev rSet3:TSet:=fun o i v H Q=>rSetL o i v H Q\/rSetD o i v H Q
theorem xZ3 (hu:X.A.units+1<cLine):PSet X rSet3:=by
 rintro pins s σ H o i v ov iv u Q I ro ri rv h
 rcases h with h|h
 ·exact set_list pins s σ H o i v ov iv u Q I ro ri rv h
 ·exact set_dict hu pins s σ H o i v ov iv u Q I ro ri rv h
theorem xEo (hu:X.A.units+65<cLine)(h:PE X (.Name x p) (tVar i))(hk:PE X k (tE κ W mk))(he:PE X e (tE κ W me))
  (ha: ∀ v,assign (.Subscript (.Name x p) k p2) X.env v=(do
   let ov <- holding [v] (eval (.Name x p) X.env)
   let iv <- holding [v,ov] (eval k X.env)
   standAt p2;holding [v,ov,iv] (setItem ov iv v);release [v,ov,iv] []):=by intro _;rfl)
  (hs:swapsWithSole [.Subscript (.Name x p) k p2] e pos.line X.env=pure false:=by rfl) (hw:swappedStores [.Subscript (.Name x p) k p2] e X.env=pure none:=by rfl)
  (h1:(assignEach [.Subscript (.Name x p) k p2] X.env).map (·.2)=[assign (.Subscript (.Name x p) k p2) X.env]:=by rfl):PS X (.Assign [.Subscript (.Name x p) k p2] e pos) (tS κ A W (xF9 i mk me)):=by
 refine PS.imp (ps_asg he (pg_sub h hk (xZ3 (by omega)) ha) hs hw h1) fun D σ H ⟨B,ρ,G,a,o,q⟩=> ?_
 refine xBs o (PstS.bind q) fun v ρ1 H1 G1 o1 s1 q1 v1 r1=> ?_
 obtain ⟨⟨u,hu⟩,q1⟩:=xSi o1 q1
 refine ⟨u,hu,xBs o1 (PstS.bind q1) fun k ρ2 H2 G2 o2 s2 q2 v2 r2=> ?_⟩
 unfold xVr at q2
 cases h2:ρ2[i]? with
 | none=>
  rw [h2] at q2
  exact q2.elim
 | some x=>
  rw [h2] at q2
  cases x with
  | un=>exact q2.elim
  | va d=>exact q2.elim
  | ow d=>
   cases d with
   | lst b l=>
    cases k with
    | int j=>
     dsimp only at q2
     cases hj:ixN l.length j with
     | none=>
      rw [hj] at q2
      exact q2.elim
     | some n=>
      rw [hj] at q2
      obtain ⟨p,e1,e2,e3,vs,e4,e5⟩:=o2.own i _ h2
      rw [hu] at e1
      cases e1
      refine .inl ⟨p,vs,j,n,rfl,r2,e4,by rw [e5.length];exact hj,?_⟩
      refine q2 σ _ G2 (o2.write h2 hu (fun ps z=>by cases z) ⟨_,upd_same,e5.set n (Rep.mono (.of s2) v r1)⟩) (Same.refl G2)
    | _=>exact q2.elim
   | dk b l=>
    dsimp only at q2
    cases hj:xCy k with
    | none=>
     rw [hj] at q2
     exact q2.elim
    | some j=>
     rw [hj] at q2
     dsimp only at q2
     by_cases hl:l.length<1000000
     ·rw [if_pos hl] at q2
      obtain ⟨p,e1,e2,e3,vs,e4,e5⟩:=o2.own i _ h2
      rw [hu] at e1
      cases e1
      refine .inr ⟨p,upd H2 p (.dK (putK vs j v1)),rfl,?_,?_⟩
      ·rw [xGd r2 hj]
       exact DPut.k e4 (by rw [e5.length,sizeLine_eq];omega)
      ·exact q2 σ _ G2 (o2.write h2 hu (fun ps z=>by cases z) ⟨_,upd_same,e5.put j (Rep.mono (.of s2) v r1)⟩) (Same.refl G2)
     ·rw [if_neg hl] at q2
      exact q2.elim
   | _=>exact q2.elim
abbrev yB0 (K:PySem.W.Frag):List V->Hp->VK->Prop:=fun xs H Q=>(∃ x n,xs=[x]/\LenV K x H n/\Q (.int n) H)\/ ∃ a kvs,xs=[V.ref a]/\Rd H a (.dK kvs)/\Q (.int kvs.length) H
theorem xR7:CallR X (.builtin "len") (fun xs H Q=> ∃ a kvs,xs=[V.ref a]/\Rd H a (.dK kvs)/\Q (.int kvs.length) H):=by
 rintro pins s σ H xs us Q I r h
 obtain ⟨a,kvs,rfl,ha,q⟩:=(h)
 obtain ⟨u,rfl,ru⟩:=(vals1 r)
 cases ru
 exact d_len I ha fun t s' I'=>⟨.int kvs.length,H,I',⟨t,rfl⟩,q⟩
theorem xBb:CallR X (.builtin "len") (yB0 X.K):=by
 rintro pins s σ H xs us Q I r q
 rcases q with q|q
 ·exact call_len pins s σ H xs us Q I r q
 ·exact xR7 pins s σ H xs us Q I r q
theorem xCa:xDx κ (yB0 κ.K) xDe:=by
 intro B ρ σ H G ds xs z Q o r hz q
 unfold xDe at hz
 split at hz
 ·rename_i b l
  cases hz
  obtain ⟨v,ws,rfl,r1,rfl⟩:=r
  obtain ⟨a,vs,rfl,h1,h2⟩:=r1.dkR o.fr.gh
  refine .inr ⟨a,vs,rfl,h1,?_⟩
  rw [h2.length]
  exact q _ H G o (Same.refl G) rfl
 ·exact .inl (yAk B ρ σ H G ds xs z Q o r hz q)
theorem xXq:xDx κ (fun xs H Q=> ∃ (a:Addr) (kvs:List (Key×V)),xs=[.ref a]/\Rd H a (.dK kvs)/\ ∀ p,H p=none->Q (.ref p) (upd H p (.dK kvs))) xZh:=by
 intro B ρ σ H G ds xs z Q o r hz q
 unfold xZh at hz
 split at hz
 ·rename_i b l
  cases hz
  obtain ⟨v,ws,rfl,r1,rfl⟩:=r
  obtain ⟨a,vs,rfl,h1,h2⟩:=r1.dkR o.fr.gh
  exact ⟨a,vs,rfl,h1,fun p hp=>q _ _ G (o.allocOwn hp) (Same.refl G) (o.newOwn hp ⟨vs,upd_same,h2⟩)⟩
 ·cases hz
theorem xOm: ∀ {l:List (Key×D)} {ks:List Str},xEa l=some ks->l.map (·.1)=ks.map Sum.inr
 | [],ks,h=>by cases h;rfl
 | (.inr s,d)::l,ks,h=>by
  obtain ⟨ms,h1,rfl⟩:=yC4.mp (show (xEa l).map (s:: ·)=some ks from h)
  rw [yD2,yD2,xOm h1]
 | (.inl _,d)::l,ks,h=>by cases h
end
theorem xK3 (a b:List Nat):a<=b\/b<=a:=List.le_total a b
theorem xF7 (l:List Str):(ssort l).Perm l:=List.mergeSort_perm ..
theorem xTl (l:List Str):(ssort l).Pairwise fun a b=>a.cps.toList<=b.cps.toList:=by
 have h:=List.pairwise_mergeSort (le:=fun a b:Str=>decide (a.cps.toList<=b.cps.toList)) (fun a b c h1 h2=>by
  simp only [decide_eq_true_eq] at h1 h2 ⊢
  exact List.le_trans h1 h2) (fun a b=>by
  rcases xK3 a.cps.toList b.cps.toList with h|h
  ·simp [h]
  ·simp [h]) l
 exact h.imp fun {a b} z=>of_decide_eq_true z
theorem yCr {a b:Str}(h:a.cps.toList=b.cps.toList):a=b:=by
 obtain ⟨a⟩:=a
 obtain ⟨b⟩:=b
 exact congrArg Str.mk (Array.toList_inj.mp h)
theorem xP0 {l m:List Str}(p:l.Perm m)(h1:l.Pairwise fun a b=>a.cps.toList<=b.cps.toList)(h2:m.Pairwise fun a b=>a.cps.toList<=b.cps.toList):l=m:=
 List.Perm.eq_of_pairwise (fun a b _ _ h1 h2=>yCr (List.le_antisymm h1 h2)) h1 h2 p
theorem xHy: ∀ {l:List Str} {p:Str},risingS p l=true->(p::l).Pairwise fun a b=>a.cps.toList<=b.cps.toList
 | [],p,_=>List.pairwise_singleton ..
 | x::l,p,h=>by
  have h':(!ltCps x.cps.toList p.cps.toList&&risingS x l)=true:=h
  rw [yC5,yDt,ltCps_eq] at h'
  obtain ⟨h1,h2⟩:=h'
  have h1:p.cps.toList<=x.cps.toList:=List.not_lt.mp (of_decide_eq_false h1)
  have ih:=xHy h2
  refine List.pairwise_cons.mpr ⟨fun y hy=> ?_,ih⟩
  rcases inC hy with rfl|hy
  ·exact h1
  ·exact List.le_trans h1 ((List.pairwise_cons.mp ih).1 y hy)
theorem xLn: ∀ {l:List Str},sortedS l=true->l.Pairwise fun a b=>a.cps.toList<=b.cps.toList
 | [],_=> .nil
 | x::l,h=>xHy h
section
variable {κ:Ctx}{X:Cx}
abbrev xW5 (κ:Ctx):List V->Hp->VK->Prop:=fun xs H Q=>xTg κ xs H Q\/ ∃ (a:Addr) (kvs:List (Key×V)) (ks:List Str),xs=[.ref a]/\Rd H a (.dK kvs)/\kvs.map (·.1)=ks.map Sum.inr/\ks.length<64/\ ∀ ys p,ys.Perm ks->sortedS ys=true->H p=none->Q (.ref p) (upd H p (.lst (ys.map V.str)))
theorem xDa (hK:X.K=κ.K)(hc:X.calm=true)(hu:X.A.units+65<cLine):CallR X (.builtin "sorted") (xW5 κ):=by
 rintro pins s σ H xs us Q I r q
 rcases q with q|q
 ·exact xUd hK hu pins s σ H xs us Q I r q
 ·exact call_sortedD hc pins s σ H xs us Q I r q
theorem xOq: ∀ l:List Str,RepL κ T G (l.map D.str) (l.map V.str)
 | []=>rfl
 | s::l=>⟨.str s,_,rfl,rfl,xOq l⟩
theorem xC4:xDx κ (xW5 κ) xCz:=by
 intro B ρ σ H G ds xs z Q o r hz q
 unfold xCz at hz
 split at hz
 ·rename_i b l
  obtain ⟨ks,h1,hz⟩:=yDf.mp hz
  split at hz
  ·rename_i hl
   cases hz
   obtain ⟨v,ws,rfl,r1,rfl⟩:=r
   obtain ⟨a,vs,rfl,h2,h3⟩:=r1.dkR o.fr.gh
   refine .inr ⟨a,vs,ks,rfl,h2,by rw [h3.keys,xOm h1],hl,fun ys p hy hs hp=> ?_⟩
   rw [xP0 (hy.trans (xF7 ks).symm) (xLn hs) (xTl ks)]
   exact q _ _ G (o.allocOwn hp) (Same.refl G) (o.newOwn hp ⟨_,upd_same,xOq _⟩)
  ·cases hz
 ·exact .inl (xUh B ρ σ H G ds xs z Q o r hz q)
end
section
variable {ρ:List SD}{E:Exn->List SD->Prop}{p:SD->List SD->Prop}{s:Fl->List SD->Prop}{q:SD->Prop}
theorem xWo (h:p (.ow (.dk false [])) ρ):Wp xQs ρ p E:=⟨h⟩
theorem xR8 (e:ρ[i]? =some (.va d0))(h:Wp (fE m) ρ (fun k ρ'=> ∃ d,ρ'[i]? =some (.va d)/\Ow (ix3D d k) fun z=>p z ρ') E):Wp (xAy i m) ρ p E:=by
 have g:xFr ρ[i]? =true:=by
  rw [e]
  rfl
 show Wp (xB6 i ((fE m).bind (at3S i))) ρ p E
 refine ⟨?_⟩
 unfold xB6
 rw [if_pos g]
 refine Wp.run (E:=E) (p:=p) ?_
 refine xAm (p:=p) (h.mono (fun k ρ' h=> ?_) fun _ _ z=>z)
 obtain ⟨d,e1,z,e2,h⟩:=h
 refine ⟨?_⟩
 unfold at3S
 simp only [e1,e2]
 exact h
theorem xS3 (e:ρ[i]? =some (.ow (.lst b0 l0)))(h:Wp (fE m) ρ (fun k ρ'=> ∃ b l,ρ'[i]? =some (.ow (.lst b l))/\Ow (ix3D (.lst b l) k) fun z=>p z ρ') E):Wp (xAy i m) ρ p E:=by
 have g:xFr ρ[i]? =true:=by
  rw [e]
  rfl
 show Wp (xB6 i ((fE m).bind (at3S i))) ρ p E
 refine ⟨?_⟩
 unfold xB6
 rw [if_pos g]
 refine Wp.run (E:=E) (p:=p) ?_
 refine xAm (p:=p) (h.mono (fun k ρ' h=> ?_) fun _ _ z=>z)
 obtain ⟨b,l,e1,z,e2,h⟩:=h
 refine ⟨?_⟩
 unfold at3S
 have e2:ixD (.lst b l) k=some z:=e2
 simp only [e1,e2]
 exact h
theorem xRq (h:Wp (fE me) ρ (fun v ρ1=>xFr ρ1[i]? =true/\Wp (fE mk) ρ1 (fun k ρ2=> ∃ b l j n,ρ2[i]? =some (.ow (.lst b l))/\k= .int j/\ixN l.length j=some n/\s .nx (ρ2.set i (.ow (.lst b (l.set n v))))) E) E):Wp (xF9 i mk me) ρ s E:=xAm (h.mono (fun v ρ1 h=>by
 refine ⟨?_⟩
 unfold xB6
 rw [if_pos h.1]
 refine Wp.run (E:=E) (p:=s) ?_
 refine xAm (p:=s) (h.2.mono (fun k ρ2 h=> ?_) fun _ _ z=>z)
 obtain ⟨b,l,j,n,e1,rfl,e2,h⟩:=h
 refine ⟨?_⟩
 unfold xVr
 simp only [e1,e2]
 exact h) fun _ _ z=>z)
theorem xMm (h:Wp (fE me) ρ (fun v ρ1=>xFr ρ1[i]? =true/\Wp (fE mk) ρ1 (fun k ρ2=> ∃ b l j,ρ2[i]? =some (.ow (.dk b l))/\xCy k=some j/\l.length<1000000/\s .nx (ρ2.set i (.ow (.dk b (xB3 l j v))))) E) E):Wp (xF9 i mk me) ρ s E:=xAm (h.mono (fun v ρ1 h=>by
 refine ⟨?_⟩
 unfold xB6
 rw [if_pos h.1]
 refine Wp.run (E:=E) (p:=s) ?_
 refine xAm (p:=s) (h.2.mono (fun k ρ2 h=> ?_) fun _ _ z=>z)
 obtain ⟨b,l,j,e1,e2,hl,h⟩:=h
 refine ⟨?_⟩
 unfold xVr
 simp only [e1,e2,if_pos hl]
 exact h) fun _ _ z=>z)
theorem xLp (e:(xCy k).bind (getK l)=some d)(h:q (.va d)):Ow (ix3D (.dk b l) k) q:=⟨.va d,by
 show (xCy k).bind (fun k=>(getK l k).map SD.va)=_
 obtain ⟨j,e1,e2⟩:=yDf.mp e
 rw [e1]
 show (getK l j).map SD.va=_
 rw [e2]
 rfl,h⟩
theorem xC7 (e:atI l a=some d)(h:q (.va d)):Ow (ix3D (.tup l) (.int a)) q:=xXf e h
theorem xKs (e:atI l a=some d)(h:q (.va d)):Ow (ix3D (.lst c l) (.int a)) q:=xY8 (c:=c) e h
theorem xQw (h:q (.va (.str ⟨#[c]⟩)))(e:atI a.cps.toList i=some c)(g:a.length<=1000000):Ow (ix3D (.str a) (.int i)) q:=xY1 h e g
theorem xHn (e:xCy d=some k)(h:q (.va (.bl (!(getK l k).isSome)))):Ow (xNa d (.dk b l)) q:=⟨_,by
 unfold xNa in3B
 dsimp only
 rw [e]
 rfl,h⟩
theorem xV2 (h:q (.va (.bl (decide (c∈a.cps.toList))))):Ow (in3D (.str ⟨#[c]⟩) (.str a)) q:=xXw h
theorem xY9 (g:(d.pl 60&&(D.lst false l).pl 60)=true):in3B d (.lst x l)=some (l.any fun e=>peq e d):=by
 cases d <;> exact if_pos g
theorem xQr (h:q (.va (.bl (l.any fun e=>peq e d))))(g:(d.pl 60&&(D.lst false l).pl 60)=true):Ow (in3D d (.lst x l)) q:=⟨_,by
 unfold in3D
 rw [xY9 g]
 rfl,h⟩
theorem xSv (h:q (.va (.int l.length))):Ow (xDe [.dk b l]) q:=⟨_,rfl,h⟩
theorem xRt (h:q (.va (.int l.length))):Ow (xDe [.tup l]) q:=⟨_,rfl,h⟩
theorem xSs (h:q (.va (.int l.length))):Ow (xDe [.lst b l]) q:=⟨_,rfl,h⟩
theorem xQj (h:q (.va (.int a.length)))(g:a.length<=1000000):Ow (xDe [.str a]) q:=⟨_,if_pos g,h⟩
theorem xEh (e:xEa l=some ks)(g:ks.length<64)(h:q (.ow (.lst false ((ssort ks).map D.str)))):Ow (xCz [.dk b l]) q:=⟨_,by
 unfold xCz
 dsimp only
 rw [e]
 exact if_pos g,h⟩
theorem xJp (h:q (.ow (.lst false (srtD l))))(g:xF6 l=true):Ow (xCz [.lst b l]) q:=⟨_,if_pos g,h⟩
end
end Fm
namespace Fm
open L2 PySem PySem.Spec PyProof.Rows
def plus (G N:Hp):Hp:=fun a=>match N a with
 | some o=>some o
 | none=>G a
def less_ (G N:Hp):Hp:=fun a=>match N a with
 | some _=>none
 | none=>G a
abbrev plT (T:Pd)(N:Hp):Pd:=fun a=>T a\/N a≠none
def OwK:HO->Prop
 | .lst _=>True
 | .dK _=>True
 | .ins _ _ _=>True
 | .ext _=>True
 | _=>False
theorem xAg (h:N a=some o):plus G N a=some o:=by
 unfold plus
 rw [h]
theorem xAd (h:N a=none):plus G N a=G a:=by
 unfold plus
 rw [h]
theorem xJu (h:N a≠none):less_ G N a=none:=by
 unfold less_
 cases e:N a with
 | none=>exact absurd e h
 | some o=>rfl
theorem xDq (h:N a=none):less_ G N a=G a:=by
 unfold less_
 rw [h]
theorem OwK.tbl (h:OwK o): ∀ ps,o≠ .tbl ps:=fun ps z=>by
 rw [z] at h
 exact h
section
variable {κ:Ctx}{T:Pd}{G N:Hp}
theorem xE3 (gf: ∀ a,N a≠none->G a=none):Mono T G (plT T N) (plus G N):=⟨fun a o e=>by
 have n:N a=none:=yC3 fun z=>by
  rw [gf a z] at e
  cases e
 rw [xAd n]
 exact e,fun a o b e l=>by
 have n:N a=none:=yC3 fun z=>by
  rw [gf a z] at e
  cases e
 exact ⟨fun z=>l.mp (z.elim id fun y=>absurd n y),fun z=> .inl (l.mpr z)⟩⟩
theorem xJc (e:plus G N a=some o)(n:N a=none):G a=some o:=by
 rw [xAd n] at e
 exact e
theorem DkAt.out (h:DkAt (plus G N) a vs b)(n:N a=none):DkAt G a vs b:=by
 rcases h with h|⟨hb,o,h⟩
 ·exact .inl (xJc h n)
 ·exact .inr ⟨hb,o,xJc h n⟩
mutual
theorem Rep.out (mu: ∀ a o,N a=some o->OwK o): ∀ (d:D) {v:V},d.nb=true->Rep κ (plT T N) (plus G N) d v->Rep κ T G d v
 | .non,_,_,h=>h
 | .bl _,_,_,h=>h
 | .int _,_,_,h=>h
 | .str _,_,_,h=>h
 | .tup l,v,n,h=>by
  obtain ⟨a,vs,h1,h2,h3⟩:=h
  refine ⟨a,vs,h1,?_,RepL.out mu l n h3⟩
  rcases h2 with h2|h2
  ·refine .inl (xJc h2 ?_)
   cases e:N a with
   | none=>rfl
   | some o=>
    rw [xAg e] at h2
    cases h2
    exact (mu a _ e).elim
  ·exact .inr h2
 | .lst b l,v,n,h=>by
  have n':(!b&&nbL l)=true:=n
  rw [yC5,yDt] at n'
  obtain ⟨rfl,n2⟩:=n'
  obtain ⟨a,vs,h1,⟨h2,h4⟩,h3⟩:=h
  have na:N a=none:=yC3 fun z=>yDd (h4.mp (.inr z))
  exact ⟨a,vs,h1,⟨xJc h2 na,⟨fun z=>h4.mp (.inl z),fun z=>yDd z⟩⟩,RepL.out mu l n2 h3⟩
 | .scr l,v,n,h=>by
  obtain ⟨a,vs,h1,h2,h3⟩:=h
  refine ⟨a,vs,h1,?_,RepL.out mu l n h3⟩
  rcases h2 with (⟨ob,h2⟩|h2)|h2
  ·refine .inl (.inl ⟨ob,xJc h2 ?_⟩)
   cases e:N a with
   | none=>rfl
   | some o=>
    rw [xAg e] at h2
    cases h2
    exact (mu a _ e).elim
  ·exact .inl (.inr h2)
  ·exact .inr h2
 | .nv b l ss,v,n,h=>by
  have n':(!b&&nbL l)=true:=n
  rw [yC5,yDt] at n'
  obtain ⟨rfl,n2⟩:=n'
  obtain ⟨a,vs,h1,⟨h2,h4⟩,h3⟩:=h
  have na:N a=none:=yC3 fun z=>yDd (h4.mp (.inr z))
  exact ⟨a,vs,h1,⟨h2.at (xAd na),⟨fun z=>h4.mp (.inl z),fun z=>yDd z⟩⟩,RepL.out mu l n2 h3⟩
 | .dk b l,v,n,h=>by
  have n':(!b&&nbK l)=true:=n
  rw [yC5,yDt] at n'
  obtain ⟨rfl,n2⟩:=n'
  obtain ⟨a,vs,h1,⟨h2,h4⟩,h3⟩:=h
  have na:N a=none:=yC3 fun z=>yDd (h4.mp (.inr z))
  exact ⟨a,vs,h1,⟨h2.out na,⟨fun z=>h4.mp (.inl z),fun z=>yDd z⟩⟩,RepK.out mu l n2 h3⟩
 | .ins b c l,v,n,h=>by
  have n':(!b&&nbF l)=true:=n
  rw [yC5,yDt] at n'
  obtain ⟨rfl,n2⟩:=n'
  obtain ⟨a,dx,vs,h1,⟨h2,h4⟩,h3⟩:=h
  have na:N a=none:=yC3 fun z=>yDd (h4.mp (.inr z))
  exact ⟨a,dx,vs,h1,⟨xJc h2 na,⟨fun z=>h4.mp (.inl z),fun z=>yDd z⟩⟩,RepF.out mu l n2 h3⟩
 | .ty _,_,_,h=>h
 | .adr _,_,_,h=>h
theorem RepL.out (mu: ∀ a o,N a=some o->OwK o): ∀ (l:List D) {vs:List V},nbL l=true->RepL κ (plT T N) (plus G N) l vs->RepL κ T G l vs
 | [],_,_,h=>h
 | d::l,vs,n,h=>by
  have n':(D.nb d&&nbL l)=true:=n
  rw [yC5] at n'
  obtain ⟨v,ws,h1,h2,h3⟩:=h
  exact ⟨v,ws,h1,Rep.out mu d n'.1 h2,RepL.out mu l n'.2 h3⟩
theorem RepK.out (mu: ∀ a o,N a=some o->OwK o): ∀ (l:List (Key×D)) {vs:List (Key×V)},nbK l=true->RepK κ (plT T N) (plus G N) l vs->RepK κ T G l vs
 | [],_,_,h=>h
 | (k,d)::l,vs,n,h=>by
  have n':(D.nb d&&nbK l)=true:=n
  rw [yC5] at n'
  obtain ⟨v,ws,h1,h2,h3⟩:=h
  exact ⟨v,ws,h1,Rep.out mu d n'.1 h2,RepK.out mu l n'.2 h3⟩
theorem RepF.out (mu: ∀ a o,N a=some o->OwK o): ∀ (l:List (Str×D)) {vs:List (Str×V)},nbF l=true->RepF κ (plT T N) (plus G N) l vs->RepF κ T G l vs
 | [],_,_,h=>h
 | (k,d)::l,vs,n,h=>by
  have n':(D.nb d&&nbF l)=true:=n
  rw [yC5] at n'
  obtain ⟨v,ws,h1,h2,h3⟩:=h
  exact ⟨v,ws,h1,Rep.out mu d n'.1 h2,RepF.out mu l n'.2 h3⟩
end
theorem xA9.out (mu: ∀ a o,N a=some o->OwK o)(n:d.nbO=true)(h:xA9 κ (plT T N) (plus G N) H p d):xA9 κ T G H p d:=by
 cases d with
 | lst b l=>
  obtain ⟨vs,h1,h2⟩:=h
  exact ⟨vs,h1,RepL.out mu l n h2⟩
 | dk b l=>
  obtain ⟨vs,h1,h2⟩:=h
  exact ⟨vs,h1,RepK.out mu l n h2⟩
 | ins b c l=>
  obtain ⟨dx,vs,h1,h2⟩:=h
  exact ⟨dx,vs,h1,RepF.out mu l n h2⟩
 | scr l=>
  obtain ⟨vs,h1,h2⟩:=h
  exact ⟨vs,h1,RepL.out mu l n h2⟩
 | _=>exact h.elim
end
def ownF:D->Bool
 | .lst true l=>nbL l
 | .dk true l=>nbK l
 | .nv true l _=>nbL l
 | _=>false
def fldB (l:List (Str×D)):Bool:=l.all fun f=>f.2.nb || ownF f.2
def xAv:List (Str×D)->List (Str×V)->List Addr
 | (_,d)::l,(_,.ref a)::vs=>if ownF d then a::xAv l vs else xAv l vs
 | _::l,_::vs=>xAv l vs
 | _,_=>[]
def opB (B:Bas)(i:Nat)(p:Addr)(N:Hp):Bas:=⟨plus B.H N,B.G,B.T,(i,p)::B.an⟩
def lnB (B:Bas)(i:Nat)(p:Addr)(N:Hp):Bas:=⟨plus B.H N,plus B.G N,plT B.T N,(i,p)::B.an⟩
structure NOk (κ:Ctx)(B:Bas)(G:Hp)(p:Addr)(N:Hp)(c:String)(l:List (Str×D))(dx:Addr)(vs:List (Str×V)):Prop where
 free: ∀ a,N a≠none->B.H a=none
 gfree: ∀ a,N a≠none->G a=none
 bg: ∀ a,N a≠none->B.G a=none
 nt: ∀ a,N a≠none-> ¬ B.T a
 mu: ∀ a o,N a=some o->OwK o
 here:N p=some (.ins (κ.cl c) dx vs)
 fld:RepF κ (plT B.T N) (plus G N) l vs
 okF:fldB l=true
 nd:(p::xAv l vs).Nodup
 inN: ∀ a∈xAv l vs,N a≠none
def OOk (κ:Ctx)(B:Bas)(i:Nat)(ρ:List SD)(σ:L2.St)(H G:Hp):Prop:= ∃ p N b c l dx vs,NOk κ B G p N c l dx vs/\ρ[i]? =some (.ow (.ins b c l))/\Ok κ (opB B i p N) (ρ.set i .un) σ H G
section
variable {κ:Ctx}{B:Bas}{i:Nat}{ρ:List SD}{σ:L2.St}{H G:Hp}{p:Addr}{N:Hp}{c:String}{l:List (Str×D)}{dx:Addr}{vs:List (Str×V)}
theorem NOk.mono (n:NOk κ B G p N c l dx vs)(s:Same G G2)(gf: ∀ a,N a≠none->G2 a=none):NOk κ B G2 p N c l dx vs:=
 ⟨n.free,gf,n.bg,n.nt,n.mu,n.here,RepF.mono (.of fun a o e=>by
  cases h:N a with
  | some u=>
   rw [xAg h] at e ⊢
   exact e
  | none=>
   rw [xAd h] at e ⊢
   exact s a o e) l n.fld,n.okF,n.nd,n.inN⟩
theorem xB8 (o:Ok κ (opB B i p N) ρ σ H G)(mu: ∀ a u,N a=some u->OwK u)(h:N a=some u):H a=some u:=o.fr.keep a u (show plus B.H N a=some u from xAg h) (mu a u h).tbl
theorem xN5 (o:Ok κ (opB B i p N) ρ σ H G)(n:NOk κ B G p N c l dx vs)(o':Ok κ (opB B i p N) ρ' σ' H' G'): ∀ a,N a≠none->G' a=none:=fun a h=>by
 have h1:plus B.H N a≠none:=by
  cases e:N a with
  | none=>exact absurd e h
  | some u=>
   rw [xAg e]
   exact fun z=>nomatch z
 have e1:=o.fr.frz a h1
 have e2:=o'.fr.frz a h1
 rw [n.gfree a h] at e1
 rw [e2,<- e1]
theorem NOk.lend (n:NOk κ B G p N c l dx vs)(hi:i<ρ.length)(o:Ok κ (opB B i p N) (ρ.set i .un) σ H G):Ok κ (lnB B i p N) (ρ.set i (.va (.ins true c l))) σ H (plus G N):=by
 have mo:Mono B.T G (plT B.T N) (plus G N):=xE3 n.gfree
 have old: ∀ {j:Nat} {x:SD},j≠i->(ρ.set i (.va (.ins true c l)))[j]? =some x->(ρ.set i .un)[j]? =some x:=fun {j x} hj z=>by
  rw [yC9 (Ne.symm hj)] at z ⊢
  exact z
 have hp:σ[i]? =some (some (V.ref p)):=o.anch i p (yC2 ..)
 refine ⟨⟨o.fr.keep,o.fr.nt,fun a h=> ?_,fun a u h=> ?_,fun a u h=> ?_,fun a ps h=> ?_,o.fr.tabs,fun a h=> ?_⟩,by rw [yDe];have:=o.len;rw [yDe] at this;exact this,fun j d z=> ?_,fun j d z=> ?_,fun j m q d e hjm z1 z2 z3 z4=> ?_,o.anch⟩
 ·show plus G N a=plus B.G N a
  cases e:N a with
  | some u=>rw [xAg e,xAg e]
  | none=>
   rw [xAd e,xAd e]
   exact o.fr.frz a h
 ·have h:plus B.G N a=some u:=h
  show plus G N a=some u
  cases e:N a with
  | some w=>
   rw [xAg e] at h ⊢
   exact h
  | none=>
   rw [xAd e] at h ⊢
   exact o.fr.sub a u h
 ·have h:plus G N a=some u:=h
  cases e:N a with
  | some w=>
   rw [xAg e] at h
   cases h
   exact xB8 o n.mu e
  | none=>
   rw [xAd e] at h
   exact o.fr.gh a u h
 ·have h:plus G N a=some (.tbl ps):=h
  cases e:N a with
  | some w=>
   rw [xAg e] at h
   cases h
   exact n.mu a _ e
  | none=>
   rw [xAd e] at h
   exact o.fr.notb a ps h
 ·rcases h with h|h
  ·exact o.fr.lent a h
  ·show plus B.H N a≠none
   cases e:N a with
   | some w=>
    rw [xAg e]
    exact fun z=>nomatch z
   | none=>exact absurd e h
 ·by_cases hj:j=i
  ·subst hj
   rw [yC7 hi] at z
   cases z
   exact ⟨.ref p,hp,p,dx,vs,rfl,⟨xAg n.here,⟨fun _=>rfl,fun _=> .inr (by rw [n.here];exact fun z=>nomatch z)⟩⟩,n.fld⟩
  ·obtain ⟨v,h1,h2⟩:=o.val j d (old hj z)
   exact ⟨v,h1,Rep.mono mo d h2⟩
 ·have hj:j≠i:=fun y=>by
   rw [y,yC7 hi] at z
   cases z
  obtain ⟨q,h1,h2,h3,h4⟩:=o.own j d (old hj z)
  have nq:N q=none:=by
   cases e:N q with
   | none=>rfl
   | some w=>
    have h3:plus B.H N q=none:=h3
    rw [xAg e] at h3
    cases h3
  exact ⟨q,h1,by rw [xAd nq];exact h2,h3,h4.monoT mo rfl⟩
 ·have hj:j≠i:=fun y=>by
   rw [y,yC7 hi] at z1
   cases z1
  have hm:m≠i:=fun y=>by
   rw [y,yC7 hi] at z2
   cases z2
  exact o.sep j m q d e hjm (old hj z1) (old hm z2) z3 z4
theorem NOk.back (n:NOk κ B G p N c l dx vs)(o1:Ok κ (lnB B i p N) ρ1 σ1 H1 G1)(s:Same (plus G N) G1)(nb:(ρ1.set i .un).all SD.nbS=true):
  ∃ G2,G1=plus G2 N/\Same G G2/\NOk κ B G2 p N c l dx vs/\Ok κ (opB B i p N) (ρ1.set i .un) σ1 H1 G2:=by
 have hN: ∀ a u,N a=some u->G1 a=some u:=fun a u h=>s a u (xAg h)
 have e:G1=plus (less_ G1 N) N:=by
  funext a
  cases h:N a with
  | none=>rw [xAd h,xDq h]
  | some u=>rw [xAg h,hN a u h]
 have gs:Same G (less_ G1 N):=fun a u h=>by
  have na:N a=none:=yC3 fun z=>by
   rw [n.gfree a z] at h
   cases h
  rw [xDq na]
  exact s a u (by rw [xAd na];exact h)
 have nbj: ∀ {j:Nat} {x:SD},j≠i->ρ1[j]? =some x->x.nbS=true:=fun {j x} hj z=>by
  refine yDm.mp nb x (yDn (i:=j) ?_)
  rw [yC9 (Ne.symm hj)]
  exact z
 have old: ∀ {j:Nat} {x:SD},(ρ1.set i .un)[j]? =some x->x≠ .un->j≠i/\ρ1[j]? =some x:=fun {j x} z nx=>by
  by_cases hj:j=i
  ·subst hj
   have hl:j<ρ1.length:=by
    have y:=(yC1.mp z).1
    rw [yDe] at y
    exact y
   rw [yC7 hl] at z
   exact absurd (yDc.inj z).symm nx
  ·rw [yC9 (Ne.symm hj)] at z
   exact ⟨hj,z⟩
 have out1: ∀ {d:D} {v:V},d.nb=true->Rep κ (plT B.T N) G1 d v->Rep κ B.T (less_ G1 N) d v:=fun {d v} hn r=>by
  rw [e] at r
  exact Rep.out n.mu d hn r
 refine ⟨less_ G1 N,e,gs,n.mono gs fun a h=>xJu h,⟨o1.fr.keep,o1.fr.nt,fun a h=> ?_,fun a u h=> ?_,fun a u h=> ?_,fun a ps h=> ?_,o1.fr.tabs,fun a h=> ?_⟩,by rw [yDe];exact o1.len,fun j d z=> ?_,fun j d z=> ?_,fun j m q d e' hjm z1 z2 z3 z4=> ?_,o1.anch⟩
 ·have h:plus B.H N a≠none:=h
  show less_ G1 N a=B.G a
  have z:G1 a=plus B.G N a:=o1.fr.frz a h
  cases e2:N a with
  | none=>
   rw [xDq e2,z,xAd e2]
  | some u=>
   rw [xJu (by rw [e2];exact fun z=>nomatch z)]
   exact (n.bg a (by rw [e2];exact fun z=>nomatch z)).symm
 ·have h:B.G a=some u:=h
  have na:N a=none:=yC3 fun z=>by
   rw [n.bg a z] at h
   cases h
  rw [xDq na]
  exact o1.fr.sub a u (show plus B.G N a=some u by rw [xAd na];exact h)
 ·have na:N a=none:=yC3 fun z=>by
   rw [xJu z] at h
   cases h
  rw [xDq na] at h
  exact o1.fr.gh a u h
 ·have na:N a=none:=yC3 fun z=>by
   rw [xJu z] at h
   cases h
  rw [xDq na] at h
  exact o1.fr.notb a ps h
 ·exact o1.fr.lent a (.inl h)
 ·obtain ⟨hj,z⟩:=old z (by simp)
  obtain ⟨v,h1,h2⟩:=o1.val j d z
  exact ⟨v,h1,out1 (nbj hj z) h2⟩
 ·obtain ⟨hj,z⟩:=old z (by simp)
  obtain ⟨q,h1,h2,h3,h4⟩:=o1.own j d z
  have nq:N q=none:=by
   cases e2:N q with
   | none=>rfl
   | some w=>
    rw [hN q w e2] at h2
    cases h2
  have h4:xA9 κ (plT B.T N) G1 H1 q d:=h4
  rw [e] at h4
  exact ⟨q,h1,by rw [xDq nq];exact h2,h3,xA9.out n.mu (nbj hj z) h4⟩
 ·obtain ⟨hj,z1⟩:=old z1 (by simp)
  obtain ⟨hm,z2⟩:=old z2 (by simp)
  exact o1.sep j m q d e' hjm z1 z2 z3 z4
end
def OOkP (κ:Ctx)(B:Bas)(i:Nat)(p:Addr)(N:Hp)(ρ:List SD)(σ:L2.St)(H G:Hp):Prop:= ∃ b c l dx vs,NOk κ B G p N c l dx vs/\ρ[i]? =some (.ow (.ins b c l))/\Ok κ (opB B i p N) (ρ.set i .un) σ H G
def PstG {α:Type}(κ:Ctx)(W:WX)(B:Bas)(i:Nat)(σ:L2.St)(G:Hp)(r:Rs α)(k:α->List SD->Addr->Hp->Hp->Hp->Prop):Prop:=match r with
 | .ok a ρ'=> ∀ p N H' G',OOkP κ B i p N ρ' σ H' G'->Same G G'->k a ρ' p N H' G'
 | .ex x ρ'=> ∀ cls d p N H' G',OOkP κ B i p N ρ' σ H' G'->Same G G'->RepX κ B.T H' G' x cls d->W cls d σ H'
 | .no=>False
def tEO (κ:Ctx)(W:WX)(i:Nat)(m:M SD):TE:=fun σ H Q=> ∃ B p N ρ G,OOkP κ B i p N ρ σ H G/\PstG κ W B i σ G (m ρ) fun r ρ' p N H' G'=> ∀ v,RepR κ (opB B i p N) (ρ'.set i .un) σ H' G' r v->Q v H'
def tTO (κ:Ctx)(W:WX)(i:Nat)(m:M Bool):TT:=fun σ H Q=> ∃ B p N ρ G,OOkP κ B i p N ρ σ H G/\PstG κ W B i σ G (m ρ) fun b ρ' p N H' G'=>Q b H'
def tAO (κ:Ctx)(W:WX)(i:Nat)(m:M (List D)):TA:=fun σ H Q=> ∃ B p N ρ G,OOkP κ B i p N ρ σ H G/\PstG κ W B i σ G (m ρ) fun ds ρ' p N H' G'=> ∀ vs,RepL κ B.T G' ds vs->Q vs H'
def xC1 {α:Type}(i:Nat)(m:M α):M α:=fun ρ=>match ρ[i]? with
 | some (.ow (.ins b c l))=>match m (ρ.set i .un) with
  | .ok a ρ1=> .ok a (ρ1.set i (.ow (.ins b c l)))
  | .ex x ρ1=> .ex x (ρ1.set i (.ow (.ins b c l)))
  | .no=> .no
 | _=> .no
def xF1 {α:Type}(i:Nat)(nb:α->Bool)(m:M α):M α:=fun ρ=>match ρ[i]? with
 | some (.ow (.ins b c l))=>match m (ρ.set i (.va (.ins true c l))) with
  | .ok a ρ1=>if ((ρ1.set i .un).all SD.nbS&&nb a)=true then .ok a (ρ1.set i (.ow (.ins b c l))) else .no
  | .ex x ρ1=>if ((ρ1.set i .un).all SD.nbS&&nbF x.fs)=true then .ex x (ρ1.set i (.ow (.ins b c l))) else .no
  | .no=> .no
 | _=> .no
section
variable {κ:Ctx}{W:WX}{B:Bas}{i:Nat}{ρ ρ1:List SD}{σ σ1:L2.St}{H H1 G G1:Hp}{p:Addr}{N:Hp}{b:Bool}{c:String}{l:List (Str×D)}{dx:Addr}{vs:List (Str×V)}
theorem xJy (o:Ok κ B' ρ σ H G)(h:(i,p)∈B'.an):i<ρ.length:=by
 have e:=o.anch i p h
 rw [<- o.len]
 obtain ⟨z,_⟩:=yC1.mp e
 exact z
theorem xNk (e:ρ[i]? =some x):i<ρ.length:=(yC1.mp e).1
theorem OOkP.op (n:NOk κ B G p N c l dx vs)(o:Ok κ (opB B i p N) ρ σ H G)(o1:Ok κ (opB B i p N) ρ1 σ1 H1 G1)(s:Same G G1):OOkP κ B i p N (ρ1.set i (.ow (.ins b c l))) σ1 H1 G1:=by
 have hi:i<ρ1.length:=xJy o1 (yC2 ..)
 refine ⟨b,c,l,dx,vs,n.mono s (xN5 o n o1),yC7 hi,?_⟩
 rw [yDz]
 exact o1.drop i
theorem OOkP.ln (n:NOk κ B G p N c l dx vs)(o1:Ok κ (lnB B i p N) ρ1 σ1 H1 G1)(s:Same (plus G N) G1)(nb:(ρ1.set i .un).all SD.nbS=true): ∃ G2,G1=plus G2 N/\Same G G2/\OOkP κ B i p N (ρ1.set i (.ow (.ins b c l))) σ1 H1 G2/\
  (∀ {d:D} {v:V},d.nb=true->Rep κ (plT B.T N) G1 d v->Rep κ B.T G2 d v)/\(∀ {d:List D} {v:List V},nbL d=true->RepL κ (plT B.T N) G1 d v->RepL κ B.T G2 d v)/\(∀ {d:List (Str×D)} {v:List (Str×V)},nbF d=true->RepF κ (plT B.T N) G1 d v->RepF κ B.T G2 d v)/\
  (∀ {r:SD} {v:V},r.nbS=true->RepR κ (lnB B i p N) ρ1 σ1 H1 G1 r v->RepR κ (opB B i p N) ((ρ1.set i (.ow (.ins b c l))).set i .un) σ1 H1 G2 r v):=by
 have hi:i<ρ1.length:=xJy o1 (yC2 ..)
 obtain ⟨G2,e,gs,n2,o2⟩:=n.back o1 s nb
 subst e
 refine ⟨G2,rfl,gs,⟨b,c,l,dx,vs,n2,yC7 hi,by rw [yDz];exact o2⟩,fun hn r=>Rep.out n.mu _ hn r,fun hn r=>RepL.out n.mu _ hn r,fun hn r=>RepF.out n.mu _ hn r,fun {r v} hn rr=> ?_⟩
 cases r with
 | un=>exact rr.elim
 | va d=>exact Rep.out n.mu d hn rr
 | ow d=>
  obtain ⟨q,rfl,q1,q2,q3,q4⟩:=rr
  have nq:N q=none:=by
   cases e2:N q with
   | none=>rfl
   | some w=>
    rw [xAg e2] at q1
    cases q1
  refine ⟨q,rfl,by rw [xAd nq] at q1;exact q1,q2,xA9.out n.mu hn q3,fun j e z=> ?_⟩
  rw [yDz] at z
  by_cases hj:j=i
  ·rw [hj,yC7 hi] at z
   cases z
  ·rw [yC9 (Ne.symm hj)] at z
   exact q4 j e z
theorem PstG.op {α:Type}{m:M α}{k:α->List SD->Addr->Hp->Hp->Hp->Prop}(n:NOk κ B G p N c l dx vs)(e:ρ[i]? =some (.ow (.ins b c l)))(o:Ok κ (opB B i p N) (ρ.set i .un) σ H G)(q:PstG κ W B i σ G (xC1 i m ρ) k):
  Pst κ W (opB B i p N) σ G (m (ρ.set i .un)) fun a ρ1 H1 G1=>k a (ρ1.set i (.ow (.ins b c l))) p N H1 G1/\Same G G1:=by
 unfold xC1 at q
 rw [e] at q
 dsimp only at q
 cases em:m (ρ.set i .un) with
 | ok a ρ1=>
  rw [em] at q
  exact fun H1 G1 o1 s1=>⟨q p N H1 G1 (OOkP.op n o o1 s1) s1,s1⟩
 | ex x ρ1=>
  rw [em] at q
  exact fun cls d H1 G1 o1 s1 rx=>q cls d p N H1 G1 (OOkP.op n o o1 s1) s1 rx
 | no=>
  rw [em] at q
  exact q
theorem PstG.ln {α:Type}{m:M α}{nb:α->Bool}{k:α->List SD->Addr->Hp->Hp->Hp->Prop}(n:NOk κ B G p N c l dx vs)(e:ρ[i]? =some (.ow (.ins b c l)))(o:Ok κ (opB B i p N) (ρ.set i .un) σ H G)(q:PstG κ W B i σ G (xF1 i nb m ρ) k):
  Pst κ W (lnB B i p N) σ (plus G N) (m (ρ.set i (.va (.ins true c l)))) fun a ρ1 H1 G1=>nb a=true/\ ∃ G2,G1=plus G2 N/\Same G G2/\k a (ρ1.set i (.ow (.ins b c l))) p N H1 G2/\OOkP κ B i p N (ρ1.set i (.ow (.ins b c l))) σ H1 G2/\
   (∀ {d:D} {v:V},d.nb=true->Rep κ (plT B.T N) G1 d v->Rep κ B.T G2 d v)/\(∀ {d:List D} {v:List V},nbL d=true->RepL κ (plT B.T N) G1 d v->RepL κ B.T G2 d v)/\
   (∀ {r:SD} {v:V},r.nbS=true->RepR κ (lnB B i p N) ρ1 σ H1 G1 r v->RepR κ (opB B i p N) ((ρ1.set i (.ow (.ins b c l))).set i .un) σ H1 G2 r v):=by
 unfold xF1 at q
 rw [e] at q
 dsimp only at q
 cases em:m (ρ.set i (.va (.ins true c l))) with
 | ok a ρ1=>
  rw [em] at q
  intro H1 G1 o1 s1
  dsimp only at q
  by_cases z:((ρ1.set i .un).all SD.nbS&&nb a)=true
  ·rw [if_pos z] at q
   rw [yC5] at z
   obtain ⟨G2,e2,gs,ok2,r1,r2,r3,r4⟩:=OOkP.ln (b:=b) n o1 s1 z.1
   exact ⟨z.2,G2,e2,gs,q p N H1 G2 ok2 gs,ok2,r1,r2,r4⟩
  ·rw [if_neg z] at q
   exact q.elim
 | ex x ρ1=>
  rw [em] at q
  intro cls d H1 G1 o1 s1 rx
  dsimp only at q
  by_cases z:((ρ1.set i .un).all SD.nbS&&nbF x.fs)=true
  ·rw [if_pos z] at q
   rw [yC5] at z
   obtain ⟨G2,e2,gs,ok2,r1,r2,r3,r4⟩:=OOkP.ln (b:=b) n o1 s1 z.1
   obtain ⟨x1,dx',vs',x2,x3,x4⟩:=rx
   exact q cls d p N H1 G2 ok2 gs ⟨x1,dx',vs',x2,x3,r3 z.2 x4⟩
  ·rw [if_neg z] at q
   exact q.elim
 | no=>
  rw [em] at q
  exact q
end
section
variable {κ:Ctx}{X:Cx}{W:WX}{i:Nat}{e:Expr}{es:List Expr}
theorem xTt (h:PE X e (tE κ W m)):PE X e (tEO κ W i (xC1 i m)):=PE.imp h fun σ H Q ⟨B,p,N,ρ,G,⟨b,c,l,dx,vs,n,e,o⟩,q⟩=>
 ⟨opB B i p N,ρ.set i .un,G,o,Pst.mono (PstG.op n e o q) fun r ρ1 H1 G1 o1 s1 z v rv=>z.1 v (by
  rw [yDz]
  cases r with
  | un=>exact rv.elim
  | va d=>exact rv
  | ow d=>
   obtain ⟨a,q1,q2,q3,q4,q5⟩:=rv
   refine ⟨a,q1,q2,q3,q4,fun j e' z'=>q5 j e' ?_⟩
   by_cases hj:j=i
   ·rw [hj] at z'
    have hl:=(yC1.mp z').1
    rw [yDe] at hl
    rw [yC7 hl] at z'
    cases z'
   ·rw [yC9 (Ne.symm hj)] at z'
    exact z')⟩
theorem yAl (h:PE X e (tE κ W m)):PE X e (tEO κ W i (xF1 i SD.nbS m)):=PE.imp h fun σ H Q ⟨B,p,N,ρ,G,⟨b,c,l,dx,vs,n,e,o⟩,q⟩=>
 ⟨lnB B i p N,ρ.set i (.va (.ins true c l)),plus G N,n.lend (xNk e) o,Pst.mono (PstG.ln n e o q) fun r ρ1 H1 G1 o1 s1 ⟨nb,G2,e2,gs,z,ok2,r1,r2,r4⟩ v rv=>z v (r4 nb rv)⟩
theorem to_ln (h:PT X e (tT κ W m)):PT X e (tTO κ W i (xF1 i (fun _=>true) m)):=PT.imp h fun σ H Q ⟨B,p,N,ρ,G,⟨b,c,l,dx,vs,n,e,o⟩,q⟩=>
 ⟨lnB B i p N,ρ.set i (.va (.ins true c l)),plus G N,n.lend (xNk e) o,Pst.mono (PstG.ln n e o q) fun r ρ1 H1 G1 o1 s1 ⟨nb,G2,e2,gs,z,_⟩=>z⟩
end
def PstO (κ:Ctx)(W:WX)(B:Bas)(i:Nat)(G:Hp)(r:Rs Fl)(D:Ends):Prop:=match r with
 | .ok .nx ρ'=> ∀ p N σ' H' G',OOkP κ B i p N ρ' σ' H' G'->Same G G'->D.nx σ' H'
 | .ok (.rt r) ρ'=> ∀ v p N σ' H' G',OOkP κ B i p N ρ' σ' H' G'->Same G G'->RepR κ (opB B i p N) (ρ'.set i .un) σ' H' G' r v->D.rt v H'
 | .ok .bk ρ'=> ∀ p N σ' H' G',OOkP κ B i p N ρ' σ' H' G'->Same G G'->D.bk σ' H'
 | .ok .ct ρ'=> ∀ p N σ' H' G',OOkP κ B i p N ρ' σ' H' G'->Same G G'->D.ct σ' H'
 | .ex x ρ'=> ∀ cls d p N σ' H' G',OOkP κ B i p N ρ' σ' H' G'->Same G G'->RepX κ B.T H' G' x cls d->W cls d σ' H'
 | .no=>False
def tOb (κ:Ctx)(A:List Nat)(W:WX)(i:Nat)(s:S):TS:=fun D σ H=> ∃ B p N ρ G,InA B A/\OOkP κ B i p N ρ σ H G/\PstO κ W B i G (s ρ) D
theorem PstO.mono {D D':Ends}(h:PstO κ W B i G r D)(s:Same G G1)(hn: ∀ σ H,D.nx σ H->D'.nx σ H)(hr:D.rt=D'.rt)(hb:D.bk=D'.bk)(hc:D.ct=D'.ct):PstO κ W B i G1 r D':=by
 cases r with
 | ok f ρ'=>
  cases f with
  | nx=>exact fun p N σ' H' G' o e=>hn _ _ (h p N σ' H' G' o (s.trans e))
  | rt r=>exact fun v p N σ' H' G' o e q=>hr ▸ h v p N σ' H' G' o (s.trans e) q
  | bk=>exact fun p N σ' H' G' o e=>hb ▸ h p N σ' H' G' o (s.trans e)
  | ct=>exact fun p N σ' H' G' o e=>hc ▸ h p N σ' H' G' o (s.trans e)
 | ex x ρ'=>exact fun cls d p N σ' H' G' o e q=>h cls d p N σ' H' G' o (s.trans e) q
 | no=>exact h
theorem PstO.bind {α:Type}{m:M α}{f:α->S}{ρ:List SD}{D:Ends}(h:PstO κ W B i G (m.bind f ρ) D):
  PstG κ W B i σ G (m ρ) fun a ρ' p N H' G'=>PstO κ W B i G' (f a ρ') D:=by
 unfold M.bind at h
 cases e:m ρ with
 | ok a ρ'=>
  rw [e] at h
  exact fun p N H' G' o s=>PstO.mono h s (fun _ _ q=>q) rfl rfl rfl
 | ex x ρ'=>
  rw [e] at h
  exact fun cls d p N H' G' o s r=>h cls d p N σ H' G' o s r
 | no=>
  rw [e] at h
  exact h
theorem PstG.mono {α:Type}{κ:Ctx}{W:WX}{B:Bas}{i:Nat}{σ:L2.St}{G:Hp}{r:Rs α}{k k':α->List SD->Addr->Hp->Hp->Hp->Prop}(h:PstG κ W B i σ G r k)(f: ∀ a ρ' p N H' G',OOkP κ B i p N ρ' σ H' G'->Same G G'->k a ρ' p N H' G'->k' a ρ' p N H' G'):PstG κ W B i σ G r k':=by
 cases r with
 | ok a ρ'=>exact fun p N H' G' o s=>f _ _ _ _ _ _ o s (h p N H' G' o s)
 | ex x ρ'=>exact h
 | no=>exact h
theorem PstG.bind {α β:Type}{m:M α}{f:α->M β}{ρ:List SD}{k:β->List SD->Addr->Hp->Hp->Hp->Prop}(h:PstG κ W B i σ G (m.bind f ρ) k):
  PstG κ W B i σ G (m ρ) fun a ρ' p N H' G'=>PstG κ W B i σ G' (f a ρ') k:=by
 unfold M.bind at h
 cases e:m ρ with
 | ok a ρ'=>
  rw [e] at h
  intro p N H' G' o s
  have h2:PstG κ W B i σ G (f a ρ') k:=h
  show PstG κ W B i σ G' (f a ρ') k
  cases e2:f a ρ' with
  | ok b ρ2=>
   rw [e2] at h2
   exact fun p2 N2 H2 G2 ok2 s2=>h2 p2 N2 H2 G2 ok2 (s.trans s2)
  | ex x ρ2=>
   rw [e2] at h2
   exact fun cls d p2 N2 H2 G2 ok2 s2 r=>h2 cls d p2 N2 H2 G2 ok2 (s.trans s2) r
  | no=>
   rw [e2] at h2
   exact h2
 | ex x ρ'=>
  rw [e] at h
  exact h
 | no=>
  rw [e] at h
  exact h
section
variable {κ:Ctx}{X:Cx}{A:List Nat}{W:WX}{i:Nat}{st:Stmt}{s:S}{pos:Pos}
theorem xV0 (h:InA B A):InA (opB B i p N) (i::A):=fun q hq=>by
 rcases yDo.mp hq with z|z
 ·rw [z]
  exact yC2 ..
 ·exact yC8 _ (h q z)
theorem o_op (h:PS X st (tS κ (i::A) W s)):PS X st (tOb κ A W i (xC1 i s)):=by
 refine PS.imp h fun D σ H ⟨B,p,N,ρ,G,ia,⟨b,c,l,dx,vs,n,e,o⟩,q⟩=>⟨opB B i p N,ρ.set i .un,G,xV0 ia,o,?_⟩
 unfold xC1 at q
 rw [e] at q
 dsimp only at q
 cases em:s (ρ.set i .un) with
 | ok f ρ1=>
  rw [em] at q
  cases f with
  | nx=>exact fun σ' H' G' o' s'=>q p N σ' H' G' (OOkP.op n o o' s') s'
  | bk=>exact fun σ' H' G' o' s'=>q p N σ' H' G' (OOkP.op n o o' s') s'
  | ct=>exact fun σ' H' G' o' s'=>q p N σ' H' G' (OOkP.op n o o' s') s'
  | rt r=>
   refine fun v σ' H' G' o' s' rv=>q v p N σ' H' G' (OOkP.op n o o' s') s' ?_
   rw [yDz]
   cases r with
   | un=>exact rv.elim
   | va d=>exact rv
   | ow d=>
    obtain ⟨a,q1,q2,q3,q4,q5⟩:=rv
    refine ⟨a,q1,q2,q3,q4,fun j e' z'=>q5 j e' ?_⟩
    by_cases hj:j=i
    ·rw [hj] at z'
     have hl:=(yC1.mp z').1
     rw [yDe] at hl
     rw [yC7 hl] at z'
     cases z'
    ·rw [yC9 (Ne.symm hj)] at z'
     exact z'
 | ex x ρ1=>
  rw [em] at q
  exact fun cls d σ' H' G' o' s' rx=>q cls d p N σ' H' G' (OOkP.op n o o' s') s' rx
 | no=>
  rw [em] at q
  exact q
theorem o_nil:PSs X [] (tOb κ A W i sNx):=PSs.imp pss_nil fun D σ H ⟨B,p,N,ρ,G,_,o,q⟩=>q p N σ H G o (Same.refl G)
theorem xRn (h:PS X st (tOb κ A W i s)):PSs X [st] (tOb κ A W i s):=pss_one h
theorem xDu {rest:List Stmt}{t:S}(h:PS X st (tOb κ A W i s))(h2:PSs X rest (tOb κ A W i t)):PSs X (st::rest) (tOb κ A W i (sSeq s t)):=by
 refine PSs.imp (pss_cons h h2) fun D σ H ⟨B,p,N,ρ,G,a,o,q⟩=>⟨B,p,N,ρ,G,a,o,?_⟩
 have q':PstO κ W B i G (match s ρ with| .ok .nx ρ'=>t ρ'|r=>r) D:=q
 cases e:s ρ with
 | ok f ρ'=>
  rw [e] at q'
  cases f with
  | nx=>exact fun p' N' σ' H' G' o' s'=>⟨B,p',N',ρ',G',a,o',PstO.mono q' s' (fun _ _ z=>z) rfl rfl rfl⟩
  | rt r=>exact q'
  | bk=>exact q'
  | ct=>exact q'
 | ex x ρ'=>
  rw [e] at q'
  exact q'
 | no=>
  rw [e] at q'
  exact q'
theorem o_if {c:Expr}{b1 b2:List Stmt}{t:M Bool}{s1 s2:S}(hc:PT X c (tTO κ W i t))(h1:PSs X b1 (tOb κ A W i s1))(h2:PSs X b2 (tOb κ A W i s2)):PS X (.If c b1 b2 pos) (tOb κ A W i (sIf t s1 s2)):=by
 refine PS.imp (ps_if hc h1 h2) fun D σ H ⟨B,p,N,ρ,G,a,o,q⟩=>⟨B,p,N,ρ,G,o,PstG.mono (PstO.bind q) fun b ρ' p' N' H' G' o' s q'=> ?_⟩
 cases b with
 | true=>exact iteT ⟨B,p',N',ρ',G',a,o',q'⟩
 | false=>exact iteF ⟨B,p',N',ρ',G',a,o',q'⟩
end
def xBy (f:Str)(d:D):List (Str×D)->List (Str×D)
 | []=>[(f,d)]
 | (g,x)::r=>if g=f then (g,d)::r else (g,x)::xBy f d r
section
variable {κ:Ctx}{T:Pd}{G N N2:Hp}
theorem RepF.length: ∀ {l:List (Str×D)} {vs:List (Str×V)},RepF κ T G l vs->vs.length=l.length
 | [],vs,h=>by rw [show vs=[] from h] <;> rfl
 | (k,d)::l,vs,h=>by
  obtain ⟨v,ws,rfl,h1,h2⟩:=h
  rw [yDa,yDa,h2.length]
theorem RepF.put (f:Str)(r:Rep κ T G d y): ∀ {l:List (Str×D)} {vs:List (Str×V)},RepF κ T G l vs->RepF κ T G (xBy f d l) (putF f y vs)
 | [],vs,h=>by
  rw [show vs=[] from h]
  exact ⟨y,[],rfl,r,rfl⟩
 | (k,e)::l,vs,h=>by
  obtain ⟨v,ws,rfl,h1,h2⟩:=h
  unfold xBy putF
  by_cases z:k=f
  ·rw [if_pos z,if_pos z]
   exact ⟨y,ws,rfl,r,h2⟩
  ·rw [if_neg z,if_neg z]
   exact ⟨v,_,rfl,h1,RepF.put f r h2⟩
theorem RepF.lkF: ∀ {l:List (Str×D)} {vs:List (Str×V)} {d:D},RepF κ T G l vs->l.lookup f=some d-> ∃ v,vs.lookup f=some v/\Rep κ T G d v
 | [],vs,d,h,e=>by cases e
 | (k,c)::l,vs,d,h,e=>by
  obtain ⟨v,ws,rfl,h1,h2⟩:=h
  by_cases z:f=k
  ·have hb:(f==k)=true:=beq_iff_eq.mpr z
   simp only [yEb,hb] at e ⊢
   cases e
   exact ⟨v,rfl,h1⟩
  ·have hb:(f==k)=false:=beq_eq_false_iff_ne.mpr z
   simp only [yEb,hb] at e ⊢
   exact RepF.lkF h2 e
theorem RepF.lkNone: ∀ {l:List (Str×D)} {vs:List (Str×V)},RepF κ T G l vs->l.lookup f=none->vs.lookup f=none
 | [],vs,h,e=>by
  rw [show vs=[] from h]
  rfl
 | (k,c)::l,vs,h,e=>by
  obtain ⟨v,ws,rfl,h1,h2⟩:=h
  by_cases z:f=k
  ·have hb:(f==k)=true:=beq_iff_eq.mpr z
   simp only [yEb,hb] at e
   cases e
  ·have hb:(f==k)=false:=beq_eq_false_iff_ne.mpr z
   simp only [yEb,hb] at e ⊢
   exact RepF.lkNone h2 e
theorem xXk (h:ownF d=true):d.nb=false:=by
 cases d with
 | lst b l=>
  cases b with
  | true=>rfl
  | false=>cases h
 | dk b l=>
  cases b with
  | true=>rfl
  | false=>cases h
 | nv b l ss=>
  cases b with
  | true=>rfl
  | false=>cases h
 | _=>cases h
theorem xNu (h:ownF d=true)(r:Rep κ (plT T N) (plus G N) d v): ∃ q,v= .ref q:=by
 cases d with
 | lst b l=>
  obtain ⟨a,vs,rfl,_⟩:=r
  exact ⟨a,rfl⟩
 | dk b l=>
  obtain ⟨a,vs,rfl,_⟩:=r
  exact ⟨a,rfl⟩
 | nv b l ss=>
  obtain ⟨a,vs,rfl,_⟩:=r
  exact ⟨a,rfl⟩
 | _=>cases h
theorem xFz: ∀ {l:List (Str×D)} {vs:List (Str×V)} {d:D} {q:Addr},RepF κ (plT T N) (plus G N) l vs->l.lookup f=some d->ownF d=true->vs.lookup f=some (.ref q)->q∈xAv l vs
 | [],vs,d,q,h,e,_,_=>by cases e
 | (k,c)::l,vs,d,q,h,e,od,ev=>by
  obtain ⟨v,ws,rfl,h1,h2⟩:=h
  by_cases z:f=k
  ·have hb:(f==k)=true:=beq_iff_eq.mpr z
   simp only [yEb,hb] at e ev
   cases e
   cases ev
   unfold xAv
   rw [if_pos od]
   exact yC2 ..
  ·have hb:(f==k)=false:=beq_eq_false_iff_ne.mpr z
   simp only [yEb,hb] at e ev
   have ih:=xFz h2 e od ev
   cases v with
   | ref a=>
    unfold xAv
    split
    ·exact yC8 _ ih
    ·exact ih
   | _=>
    unfold xAv
    exact ih
theorem Rep.moveF (gf: ∀ a,N a≠none->G a=none)(gf2: ∀ a,N2 a≠none->G a=none)(mu: ∀ a o,N a=some o->OwK o)(hd:(d.nb || ownF d)=true)(hT: ∀ q,v= .ref q->ownF d=true->N2 q=N q)(ht: ∀ q,ownF d=true->v= .ref q->T q->False)(r:Rep κ (plT T N) (plus G N) d v):Rep κ (plT T N2) (plus G N2) d v:=by
 rcases Bool.or_eq_true_iff.mp hd with h|h
 ·exact Rep.mono (xE3 gf2) d (Rep.out mu d h r)
 ·cases d with
  | lst b l=>
   cases b with
   | false=>cases h
   | true=>
    obtain ⟨a,vs,rfl,⟨h1,h2⟩,h3⟩:=r
    have na:N a≠none:=(h2.mpr rfl).elim (fun z=>(ht a h rfl z).elim) id
    obtain ⟨o,eo⟩: ∃ o,N a=some o:=by
     cases e:N a with
     | none=>exact absurd e na
     | some o=>exact ⟨o,rfl⟩
    have e1:=hT a rfl h
    rw [xAg eo] at h1
    rw [eo] at e1
    exact ⟨a,vs,rfl,⟨(xAg e1).trans h1,⟨fun _=>rfl,fun _=> .inr (by rw [e1];exact fun z=>nomatch z)⟩⟩,RepL.mono (xE3 gf2) l (RepL.out mu l h h3)⟩
  | dk b l=>
   cases b with
   | false=>cases h
   | true=>
    obtain ⟨a,vs,rfl,⟨h1,h2⟩,h3⟩:=r
    have h1:=h1.own
    have na:N a≠none:=(h2.mpr rfl).elim (fun z=>(ht a h rfl z).elim) id
    obtain ⟨o,eo⟩: ∃ o,N a=some o:=by
     cases e:N a with
     | none=>exact absurd e na
     | some o=>exact ⟨o,rfl⟩
    have e1:=hT a rfl h
    rw [xAg eo] at h1
    rw [eo] at e1
    exact ⟨a,vs,rfl,⟨.inl ((xAg e1).trans h1),⟨fun _=>rfl,fun _=> .inr (by rw [e1];exact fun z=>nomatch z)⟩⟩,RepK.mono (xE3 gf2) l (RepK.out mu l h h3)⟩
  | nv b l ss=>
   cases b with
   | false=>cases h
   | true=>
    obtain ⟨a,vs,rfl,⟨h1,h2⟩,h3⟩:=r
    have na:N a≠none:=(h2.mpr rfl).elim (fun z=>(ht a h rfl z).elim) id
    obtain ⟨o,eo⟩: ∃ o,N a=some o:=by
     cases e:N a with
     | none=>exact absurd e na
     | some o=>exact ⟨o,rfl⟩
    have e1:=hT a rfl h
    rw [eo] at e1
    exact ⟨a,vs,rfl,⟨h1.at ((xAg eo).trans (xAg e1).symm),⟨fun _=>rfl,fun _=> .inr (by rw [e1];exact fun z=>nomatch z)⟩⟩,RepL.mono (xE3 gf2) l (RepL.out mu l h h3)⟩
  | _=>cases h
theorem RepF.move (gf: ∀ a,N a≠none->G a=none)(gf2: ∀ a,N2 a≠none->G a=none)(mu: ∀ a o,N a=some o->OwK o)(ht: ∀ a,N a≠none-> ¬ T a): ∀ {l:List (Str×D)} {vs:List (Str×V)},fldB l=true->(∀ a∈xAv l vs,N2 a=N a/\N a≠none)->RepF κ (plT T N) (plus G N) l vs->RepF κ (plT T N2) (plus G N2) l vs
 | [],vs,_,_,r=>r
 | (k,d)::l,vs,hf,hq,r=>by
  obtain ⟨v,ws,rfl,h1,h2⟩:=r
  unfold fldB at hf
  replace hf:=allC hf
  have tail: ∀ a∈xAv l ws,N2 a=N a/\N a≠none:=fun a ha=>hq a (by
   cases v with
   | ref q=>
    unfold xAv
    split
    ·exact yC8 _ ha
    ·exact ha
   | _=>
    unfold xAv
    exact ha)
  have here: ∀ q,v= .ref q->ownF d=true->N2 q=N q/\N q≠none:=fun q e od=>by
   subst e
   refine hq q ?_
   unfold xAv
   rw [if_pos od]
   exact yC2 ..
  exact ⟨v,ws,rfl,Rep.moveF gf gf2 mu hf.1 (fun q e od=>(here q e od).1) (fun q od e t=>ht q (here q e od).2 t) h1,RepF.move gf gf2 mu ht hf.2 tail h2⟩
theorem xCu: ∀ {l:List (Str×D)} {vs:List (Str×V)},RepF κ (plT T N) (plus G N) l vs-> ∀ a∈xAv (xBy f d l) (putF f y vs),a∈xAv l vs\/(ownF d=true/\y= .ref a)
 | [],vs,r,a,h=>by
  rw [show vs=[] from r] at h
  have h:a∈xAv [(f,d)] [(f,y)]:=h
  cases y with
  | ref q=>
   unfold xAv at h
   split at h
   ·rename_i od
    rcases inC h with rfl|h
    ·exact .inr ⟨od,rfl⟩
    ·cases h
   ·cases h
  | _=>
   unfold xAv at h
   cases h
 | (k,c)::l,vs,r,a,h=>by
  obtain ⟨v,ws,rfl,h1,h2⟩:=r
  unfold xBy putF at h
  have cons_in:a∈xAv l ws->a∈xAv ((k,c)::l) ((k,v)::ws):=fun ha=>by
   cases v with
   | ref q=>
    unfold xAv
    split
    ·exact yC8 _ ha
    ·exact ha
   | _=>
    unfold xAv
    exact ha
  by_cases z:k=f
  ·rw [if_pos z,if_pos z] at h
   cases y with
   | ref q=>
    unfold xAv at h
    split at h
    ·rename_i od
     rcases inC h with rfl|h
     ·exact .inr ⟨od,rfl⟩
     ·exact .inl (cons_in h)
    ·exact .inl (cons_in h)
   | _=>
    unfold xAv at h
    exact .inl (cons_in h)
  ·rw [if_neg z,if_neg z] at h
   cases v with
   | ref q=>
    unfold xAv at h ⊢
    split at h
    ·rename_i od
     rw [if_pos od]
     rcases inC h with rfl|h
     ·exact .inl (yC2 ..)
     ·exact (xCu h2 a h).elim (fun z=> .inl (yC8 _ z)) .inr
    ·rename_i od
     rw [if_neg od]
     exact xCu h2 a h
   | _=>
    unfold xAv at h ⊢
    exact xCu h2 a h
theorem xO2 (hy: ∀ q,ownF d=true->y= .ref q->True): ∀ {l:List (Str×D)} {vs:List (Str×V)},RepF κ (plT T N) (plus G N) l vs->(xAv l vs).Nodup->(∀ q,ownF d=true->y= .ref q->q∉xAv l vs)->(xAv (xBy f d l) (putF f y vs)).Nodup
 | [],vs,r,nd,hq=>by
  rw [show vs=[] from r]
  show (xAv [(f,d)] [(f,y)]).Nodup
  cases y with
  | ref q=>
   unfold xAv
   split
   ·exact yDh.mpr ⟨(fun z=>by cases z),yDu⟩
   ·exact yDu
  | _=>
   unfold xAv
   exact yDu
 | (k,c)::l,vs,r,nd,hq=>by
  obtain ⟨v,ws,rfl,h1,h2⟩:=r
  have sub:(xAv l ws).Sublist (xAv ((k,c)::l) ((k,v)::ws)):=by
   cases v with
   | ref q=>
    have e:xAv ((k,c)::l) ((k,V.ref q)::ws)=if ownF c then q::xAv l ws else xAv l ws:=rfl
    rw [e]
    split
    ·exact List.sublist_cons_self ..
    ·exact List.Sublist.refl _
   | _=>exact List.Sublist.refl (xAv l ws)
  have ndt:=nd.sublist sub
  unfold xBy putF
  by_cases z:k=f
  ·rw [if_pos z,if_pos z]
   cases y with
   | ref q=>
    unfold xAv
    split
    ·rename_i od
     exact yDh.mpr ⟨fun m=>hq q od rfl (sub.subset m),ndt⟩
    ·exact ndt
   | _=>
    unfold xAv
    exact ndt
  ·rw [if_neg z,if_neg z]
   have ih:=xO2 (f:=f) (y:=y) hy h2 ndt fun q od e m=>hq q od e (sub.subset m)
   cases v with
   | ref q=>
    unfold xAv at nd hq ⊢
    split
    ·rename_i oc
     rw [if_pos oc] at nd hq
     refine yDh.mpr ⟨fun m=> ?_,ih⟩
     rcases xCu h2 q m with m|⟨od,e⟩
     ·exact (yDh.mp nd).1 m
     ·exact hq q od e (yC2 ..)
    ·exact ih
   | _=>
    unfold xAv
    exact ih
theorem xG2 (hd:(d.nb || ownF d)=true): ∀ {l:List (Str×D)},fldB l=true->fldB (xBy f d l)=true
 | [],_=>by
  show ((d.nb || ownF d)&&true)=true
  rw [hd] <;> rfl
 | (k,c)::l,h=>by
  unfold fldB at h
  replace h:=allC h
  unfold xBy
  by_cases z:k=f
  ·rw [if_pos z]
   show ((d.nb || ownF d)&&_)=true
   rw [hd,Bool.true_and]
   exact h.2
  ·rw [if_neg z]
   show ((c.nb || ownF c)&&fldB (xBy f d l))=true
   rw [xG2 hd h.2,Bool.and_true]
   exact h.1
end
section
variable {κ:Ctx}{B:Bas}{i:Nat}{ρ:List SD}{σ:L2.St}{H H2 G:Hp}{p:Addr}{N N2:Hp}{c:String}{l:List (Str×D)}{dx:Addr}{vs:List (Str×V)}
theorem Ok.swap (o:Ok κ (opB B i p N) ρ σ H G)(h1: ∀ a,N2 a≠none->B.H a=none/\G a=none)(h2: ∀ a u,N2 a=some u->H2 a=some u/\OwK u)(h3: ∀ a u,H a=some u->N2 a=none->H2 a=some u)(h4: ∀ (j:Nat) d q,ρ[j]? =some (SD.ow d)->σ[j]? =some (some (V.ref q))->N2 q=none)
  (h5: ∀ a,N a≠none->N2 a≠none) (h6:LamX.Tabs κ.tabs H2):Ok κ (opB B i p N2) ρ σ H2 G:=by
 have bN: ∀ {a:Addr} {u:HO},B.H a=some u->N2 a=none:=fun {a u} e=>yC3 fun z=>by
  rw [(h1 a z).1] at e
  cases e
 have bO: ∀ {a:Addr} {u:HO},B.H a=some u->plus B.H N a=some u:=fun {a u} e=>by
  have n2:=bN e
  have n:N a=none:=yC3 fun z=>h5 a z n2
  rw [xAd n]
  exact e
 refine ⟨⟨fun a u e nt=> ?_,fun a ps e=> ?_,fun a e=> ?_,o.fr.sub,fun a u e=> ?_,o.fr.notb,h6,fun a e=> ?_⟩,o.len,o.val,fun j d e=> ?_,o.sep,o.anch⟩
 ·have e:plus B.H N2 a=some u:=e
  cases z:N2 a with
  | some w=>
   rw [xAg z] at e
   cases e
   exact (h2 a _ z).1
  | none=>
   rw [xAd z] at e
   exact h3 a u (o.fr.keep a u (bO e) nt) z
 ·have e:plus B.H N2 a=some (.tbl ps):=e
  cases z:N2 a with
  | some w=>
   rw [xAg z] at e
   cases e
   exact (h2 a _ z).2
  | none=>
   rw [xAd z] at e
   exact o.fr.nt a ps (bO e)
 ·have e:plus B.H N2 a≠none:=e
  show G a=B.G a
  cases z:N2 a with
  | some w=>
   have g:=(h1 a (by rw [z];exact fun y=>nomatch y)).2
   cases y:B.G a with
   | none=>exact g
   | some u=>
    have:=o.fr.sub a u y
    rw [g] at this
    cases this
  | none=>
   rw [xAd z] at e
   cases y:B.H a with
   | none=>exact absurd y e
   | some u=>exact o.fr.frz a (by show plus B.H N a≠none;rw [bO y];exact fun q=>nomatch q)
 ·refine h3 a u (o.fr.gh a u e) ?_
  exact yC3 fun z=>by
   rw [(h1 a z).2] at e
   cases e
 ·have y:plus B.H N a≠none:=o.fr.lent a e
  show plus B.H N2 a≠none
  cases z:N2 a with
  | some w=>
   rw [xAg z]
   exact fun q=>nomatch q
  | none=>
   have n:N a=none:=yC3 fun q=>h5 a q z
   rw [xAd n] at y
   rw [xAd z]
   exact y
 ·obtain ⟨q,q1,q2,q3,q4⟩:=o.own j d e
  have nq:=h4 j d q e q1
  have n:N q=none:=yC3 fun y=>h5 q y nq
  obtain ⟨u,u1,_⟩:=q4.obj
  refine ⟨q,q1,q2,?_,q4.mono (Same.refl _) ((h3 q u u1 nq).trans u1.symm)⟩
  have q3:plus B.H N q=none:=q3
  rw [xAd n] at q3
  show plus B.H N2 q=none
  rw [xAd nq]
  exact q3
theorem xL0 (h:LamX.Tabs tabs H)(hp:H p=some u)(hu:OwK u)(hc: ∀ x,u≠LamX.CodeO p x):LamX.Tabs tabs (upd H p o):=fun t ht=>by
 obtain ⟨ps,t1,t2,t3⟩:=h t ht
 have n1:t.1≠p:=fun y=>by
  rw [y,hp] at t1
  exact hu.tbl ps (yDc.inj t1)
 refine ⟨ps,by rw [upd_ne n1];exact t1,t2,fun pos cv hc=> ?_⟩
 obtain ⟨c,c1,c2⟩:=t3 pos cv hc
 refine ⟨c,c1,?_⟩
 have n2:c≠p:=fun y=>by
  rw [y,hp] at c2
  subst y
  exact hc _ (yDc.inj c2)
 rw [upd_ne n2]
 exact c2
def OwJ:HO->Prop
 | .lst _=>True
 | .dK _=>True
 | .ins _ _ _=>True
 | _=>False
theorem OwJ.k (h:OwJ o):OwK o:=by cases o <;> first|exact True.intro|exact h.elim
theorem OwJ.nc (h:OwJ o):o≠LamX.CodeO p x:=fun z=>by
 unfold LamX.CodeO at z
 rw [z] at h
 exact h
theorem xOf (h:LamX.Tabs tabs H)(hp:H p=some u)(hu:OwJ u):LamX.Tabs tabs (upd H p o):=xL0 h hp hu.k fun _=>hu.nc
theorem xSt (h:ownF d=true)(r:Rep κ (plT T N) (plus G N) d (.ref q))(hw:N q=some w)(x:Str):w≠LamX.CodeO q x:=by
 cases d with
 | lst b l=>
  obtain ⟨a,vs,e,⟨h1,h2⟩,h3⟩:=r
  cases e
  rw [xAg hw] at h1
  cases h1
  exact OwJ.nc (o:= .lst vs) True.intro
 | dk b l=>
  cases b with
  | false=>cases h
  | true=>
   obtain ⟨a,vs,e,⟨h1,h2⟩,h3⟩:=r
   cases e
   have h1:=h1.own
   rw [xAg hw] at h1
   cases h1
   exact OwJ.nc (o:= .dK vs) True.intro
 | nv b l ss=>
  obtain ⟨a,vs,e,⟨⟨ks,h1,h5,_⟩,h2⟩,h3⟩:=r
  cases e
  rw [xAg hw] at h1
  cases h1
  exact NvO.ne_code h5
 | _=>cases h
end
def ownD:SD->Option D
 | .va d=>if d.nb then some d else none
 | .ow (.lst _ m)=>if nbL m then some (.lst true m) else none
 | .ow (.dk _ m)=>if nbK m then some (.dk true m) else none
 | _=>none
def xZd (i:Nat)(c0:String)(f:Str)(r:SD):S:=fun ρ=>match ρ[i]? with
 | some (.ow (.ins b c l))=>if c=c0/\l.length<1000 then match ownD r with
  | some d=> .ok .nx (ρ.set i (.ow (.ins b c (xBy f d l))))
  | none=> .no
  else .no
 | _=> .no
def oSet (i:Nat)(c0:String)(f:Str)(m:M SD):S:=m.bind (xZd i c0 f)
section
variable {κ:Ctx}{B:Bas}{i:Nat}{ρ:List SD}{σ:L2.St}{H G:Hp}{p:Addr}{N:Hp}{b:Bool}{c:String}{l:List (Str×D)}{dx:Addr}{vs:List (Str×V)}{f:Str}{d:D}{y:V}
theorem nd_p {f:Str}(n:NOk κ B G p N c l dx vs)(hy: ∀ q,ownF d=true->y= .ref q->q≠p/\q∉xAv l vs):(p::xAv (xBy f d l) (putF f y vs)).Nodup:=by
 obtain ⟨h1,h2⟩:=yDh.mp n.nd
 refine yDh.mpr ⟨fun m=> ?_,xO2 (fun _ _ _=>trivial) n.fld h2 fun q a b=>(hy q a b).2⟩
 rcases xCu n.fld p m with m|⟨a,b⟩
 ·exact h1 m
 ·exact (hy p a b).1 rfl
theorem xRk {j:Nat}(o:Ok κ (opB B i p N) ρ σ H G)(hj:ρ[j]? =some (SD.ow e))(hs:σ[j]? =some (some (V.ref q))):N q=none:=by
 obtain ⟨q',q1,_,q3,_⟩:=o.own j e hj
 rw [hs] at q1
 cases q1
 have q3:plus B.H N q=none:=q3
 cases z:N q with
 | none=>rfl
 | some w=>
  rw [xAg z] at q3
  cases q3
theorem NOk.ne_p (n:NOk κ B G p N c l dx vs){q:Addr}(h:N q=none):q≠p:=fun z=>by
 rw [z,n.here] at h
 cases h
theorem yBv (n:NOk κ B G p N c l dx vs)(hi:i<ρ.length)(o:Ok κ (opB B i p N) (ρ.set i .un) σ H G)(hd:d.nb=true)(r:Rep κ B.T G d y):
  OOkP κ B i p (upd N p (.ins (κ.cl c) dx (putF f y vs))) (ρ.set i (.ow (.ins b c (xBy f d l)))) σ (upd H p (.ins (κ.cl c) dx (putF f y vs))) G:=by
 have n0:N p≠none:=by rw [n.here];exact fun z=>nomatch z
 have of_: ∀ {a:Addr},upd N p (.ins (κ.cl c) dx (putF f y vs)) a≠none->N a≠none:=fun {a} h=>by
  by_cases ha:a=p
  ·rw [ha]
   exact n0
  ·rw [upd_ne ha] at h
   exact h
 have nf:ownF d=false:=by
  cases z:ownF d with
  | false=>rfl
  | true=>
   rw [xXk z] at hd
   cases hd
 have hp:H p=some (.ins (κ.cl c) dx vs):=xB8 o n.mu n.here
 have mu2: ∀ a u,upd N p (.ins (κ.cl c) dx (putF f y vs)) a=some u->OwK u:=fun a u h=>by
  by_cases ha:a=p
  ·rw [ha,upd_same] at h
   cases h
   exact True.intro
  ·rw [upd_ne ha] at h
   exact n.mu a u h
 have pn:p∉xAv l vs:=(yDh.mp n.nd).1
 refine ⟨b,c,xBy f d l,dx,putF f y vs,⟨fun a h=>n.free a (of_ h),fun a h=>n.gfree a (of_ h),fun a h=>n.bg a (of_ h),fun a h=>n.nt a (of_ h),mu2,upd_same,?_,xG2 (by rw [hd] <;> rfl) n.okF,nd_p n fun q a=>(by rw [nf] at a;cases a),fun a h=> ?_⟩,yC7 hi,?_⟩
 ·refine RepF.put f (Rep.mono (xE3 fun a h=>n.gfree a (of_ h)) d r) (RepF.move n.gfree (fun a h=>n.gfree a (of_ h)) n.mu n.nt n.okF (fun a h=>⟨upd_ne fun z=>pn (by rw [<- z];exact h),n.inN a h⟩) n.fld)
 ·rcases xCu n.fld a h with h|⟨h,_⟩
  ·rw [upd_ne fun z=>pn (by rw [<- z];exact h)]
   exact n.inN a h
  ·rw [nf] at h
   cases h
 ·rw [yDz]
  refine o.swap (fun a h=>⟨n.free a (of_ h),n.gfree a (of_ h)⟩) (fun a u h=>⟨?_,mu2 a u h⟩) (fun a u h h2=> ?_) (fun j e q hj hs=> ?_) (fun a h=> ?_) (xOf o.fr.tabs hp True.intro)
  ·by_cases ha:a=p
   ·rw [ha,upd_same] at h ⊢
    exact h
   ·rw [upd_ne ha] at h ⊢
    exact xB8 o n.mu h
  ·have ha:a≠p:=fun z=>by
    rw [z,upd_same] at h2
    cases h2
   rw [upd_ne ha]
   exact h
  ·have nq:=xRk o hj hs
   rw [upd_ne (n.ne_p nq)]
   exact nq
  ·by_cases ha:a=p
   ·rw [ha,upd_same]
    exact fun z=>nomatch z
   ·rw [upd_ne ha]
    exact h
theorem xWv (n:NOk κ B G p N c l dx vs)(hi:i<ρ.length)(o:Ok κ (opB B i p N) (ρ.set i .un) σ H G){q:Addr}{u:HO}(od:ownF d=true)(hg:G q=none)(hb:plus B.H N q=none)(hq:H q=some u)(ou:OwK u)
  (na: ∀ (j:Nat) e,(ρ.set i .un)[j]? =some (SD.ow e)->σ[j]? ≠some (some (V.ref q))) (r:Rep κ (fun a=>B.T a\/a=q) (upd G q u) d (.ref q)):
  OOkP κ B i p (upd (upd N q u) p (.ins (κ.cl c) dx (putF f (.ref q) vs))) (ρ.set i (.ow (.ins b c (xBy f d l)))) σ (upd H p (.ins (κ.cl c) dx (putF f (.ref q) vs))) G:=by
 have nq:N q=none:=by
  cases z:N q with
  | none=>rfl
  | some w=>
   rw [xAg z] at hb
   cases hb
 rw [xAd nq] at hb
 have qp:q≠p:=n.ne_p nq
 have n0:N p≠none:=by rw [n.here];exact fun z=>nomatch z
 have tq: ¬ B.T q:=o.nolend (show plus B.H N q=none by rw [xAd nq];exact hb)
 have bgq:B.G q=none:=by
  cases z:B.G q with
  | none=>rfl
  | some w=>
   have:=o.fr.sub q w z
   rw [hg] at this
   cases this
 have of_: ∀ {a:Addr},upd (upd N q u) p (.ins (κ.cl c) dx (putF f (.ref q) vs)) a≠none->N a≠none\/a=q:=fun {a} h=>by
  by_cases ha:a=p
  ·rw [ha]
   exact .inl n0
  ·rw [upd_ne ha] at h
   by_cases hq:a=q
   ·exact .inr hq
   ·rw [upd_ne hq] at h
    exact .inl h
 have to_: ∀ {a:Addr} {w:HO},N a=some w->a≠p->upd (upd N q u) p (.ins (κ.cl c) dx (putF f (.ref q) vs)) a=some w:=fun {a w} h ha=>by
  have hq:a≠q:=fun z=>by
   rw [z,nq] at h
   cases h
  rw [upd_ne ha,upd_ne hq]
  exact h
 have atq:upd (upd N q u) p (.ins (κ.cl c) dx (putF f (.ref q) vs)) q=some u:=by rw [upd_ne qp,upd_same]
 have hp:H p=some (.ins (κ.cl c) dx vs):=xB8 o n.mu n.here
 have mu2: ∀ a w,upd (upd N q u) p (.ins (κ.cl c) dx (putF f (.ref q) vs)) a=some w->OwK w:=fun a w h=>by
  by_cases ha:a=p
  ·rw [ha,upd_same] at h
   cases h
   exact True.intro
  ·rw [upd_ne ha] at h
   by_cases hq:a=q
   ·rw [hq,upd_same] at h
    cases h
    exact ou
   ·rw [upd_ne hq] at h
    exact n.mu a w h
 have pn:p∉xAv l vs:=(yDh.mp n.nd).1
 have gf2: ∀ a,upd (upd N q u) p (.ins (κ.cl c) dx (putF f (.ref q) vs)) a≠none->G a=none:=fun a h=>by
  rcases of_ h with h|rfl
  ·exact n.gfree a h
  ·exact hg
 refine ⟨b,c,xBy f d l,dx,putF f (.ref q) vs,⟨fun a h=> ?_,gf2,fun a h=> ?_,fun a h=> ?_,mu2,upd_same,?_,xG2 (by rw [od,Bool.or_true]) n.okF,nd_p n fun q' a e=> ?_,fun a h=> ?_⟩,yC7 hi,?_⟩
 ·rcases of_ h with h|rfl
  ·exact n.free a h
  ·exact hb
 ·rcases of_ h with h|rfl
  ·exact n.bg a h
  ·exact bgq
 ·rcases of_ h with h|rfl
  ·exact n.nt a h
  ·exact tq
 ·refine RepF.put f (Rep.mono ⟨fun a w h=> ?_,fun a w k h ld=> ?_⟩ d r) (RepF.move n.gfree gf2 n.mu n.nt n.okF (fun a h=> ?_) n.fld)
  ·by_cases ha:a=q
   ·rw [ha,upd_same] at h
    cases h
    rw [ha]
    exact xAg atq
   ·rw [upd_ne ha] at h
    rw [xAd]
    ·exact h
    ·exact yC3 fun z=>by
      rw [gf2 a z] at h
      cases h
  ·by_cases ha:a=q
   ·subst ha
    exact ⟨fun _=>ld.mp (.inr rfl),fun _=> .inr (by rw [atq];exact fun z=>nomatch z)⟩
   ·rw [upd_ne ha] at h
    have nn:upd (upd N q u) p (.ins (κ.cl c) dx (putF f (.ref q) vs)) a=none:=yC3 fun z=>by
     rw [gf2 a z] at h
     cases h
    exact ⟨fun z=>ld.mp (.inl (z.elim id fun y=>absurd nn y)),fun z=>(ld.mpr z).elim .inl fun y=>absurd y ha⟩
  ·obtain ⟨w,hw⟩: ∃ w,N a=some w:=by
    cases z:N a with
    | none=>exact absurd z (n.inN a h)
    | some w=>exact ⟨w,rfl⟩
   exact ⟨(to_ hw fun z=>pn (by rw [<- z];exact h)).trans hw.symm,n.inN a h⟩
 ·cases e
  exact ⟨qp,fun m=>n.inN q m nq⟩
 ·rcases xCu n.fld a h with h|⟨_,e⟩
  ·obtain ⟨w,hw⟩: ∃ w,N a=some w:=by
    cases z:N a with
    | none=>exact absurd z (n.inN a h)
    | some w=>exact ⟨w,rfl⟩
   rw [to_ hw fun z=>pn (by rw [<- z];exact h)]
   exact fun z=>nomatch z
  ·cases e
   rw [atq]
   exact fun z=>nomatch z
 ·rw [yDz]
  refine o.swap (fun a h=> ?_) (fun a w h=>⟨?_,mu2 a w h⟩) (fun a w h h2=> ?_) (fun j e q' hj hs=> ?_) (fun a h=> ?_) (xOf o.fr.tabs hp True.intro)
  ·rcases of_ h with h|rfl
   ·exact ⟨n.free a h,n.gfree a h⟩
   ·exact ⟨hb,hg⟩
  ·by_cases ha:a=p
   ·rw [ha,upd_same] at h ⊢
    exact h
   ·rw [upd_ne ha] at h ⊢
    by_cases haq:a=q
    ·rw [haq,upd_same] at h
     cases h
     rw [haq]
     exact hq
    ·rw [upd_ne haq] at h
     exact xB8 o n.mu h
  ·have ha:a≠p:=fun z=>by
    rw [z,upd_same] at h2
    cases h2
   rw [upd_ne ha]
   exact h
  ·have n2:=xRk o hj hs
   have e2:q'≠q:=fun z=>na j e hj (by rw [<- z];exact hs)
   rw [upd_ne (n.ne_p n2),upd_ne e2]
   exact n2
  ·obtain ⟨w,hw⟩: ∃ w,N a=some w:=by
    cases z:N a with
    | none=>exact absurd z h
    | some w=>exact ⟨w,rfl⟩
   by_cases ha:a=p
   ·rw [ha,upd_same]
    exact fun z=>nomatch z
   ·rw [to_ hw ha]
    exact fun z=>nomatch z
end
section
variable {κ:Ctx}{X:Cx}{A:List Nat}{W:WX}{i:Nat}{x:Str}{e:Expr}{f:Str}{m:M SD}{c0:String}{p1 p2 pos:Pos}
theorem xR5 (hK:X.K=κ.K)(hc:Cls κ.K (κ.cl c0))(hn:NoAttr κ.K (κ.cl c0) f)(hv:PE X (.Name x p1) (tVar i))(h:PE X e (tEO κ W i m))
  (hs:swapsWith e (some (.Attribute (.Name x p1) f p2)) pos.line X.env=pure false:=by rfl):PS X (.Assign [.Attribute (.Name x p1) f p2] e pos) (tOb κ A W i (oSet i c0 f m)):=by
 refine PS.imp (ps_fld hv h hs) fun D σ H ⟨B,p,N,ρ,G,a,o,q⟩=>⟨B,p,N,ρ,G,o,PstG.mono (PstO.bind q) fun r ρ' p' N' H' G' o' s q' v rv=> ?_⟩
 obtain ⟨b,c,l,dx,vs,n,e1,ok⟩:=o'
 unfold xZd at q'
 rw [e1] at q'
 dsimp only at q'
 by_cases hcl:c=c0/\l.length<1000
 ·rw [if_pos hcl] at q'
  obtain ⟨rfl,hl⟩:=hcl
  cases hd:ownD r with
  | none=>
   rw [hd] at q'
   exact q'.elim
  | some d=>
   rw [hd] at q'
   have hi:=xNk e1
   have hp:H' p'=some (.ins (κ.cl c) dx vs):=xB8 ok n.mu n.here
   refine ⟨.ref p',ok.anch i p' (yC2 ..),p',κ.cl c,dx,vs,rfl,hp,hK ▸ hc,hK ▸ hn,by rw [n.fld.length];exact hl,?_⟩
   cases r with
   | un=>cases hd
   | va d'=>
    have hd:(if d'.nb then some d' else none)=some d:=hd
    split at hd
    ·rename_i nb
     cases hd
     exact q' _ _ σ _ G' (yBv n hi ok nb rv) (Same.refl G')
    ·cases hd
   | ow d'=>
    obtain ⟨qa,rfl,q1,q2,q3,q4⟩:=rv
    cases d' with
    | lst b' m'=>
     have hd:(if nbL m' then some (Fm.D.lst true m') else none)=some d:=hd
     split at hd
     ·rename_i nb
      cases hd
      obtain ⟨ws,w1,w2⟩:=q3
      refine q' _ _ σ _ G' (xWv n hi ok (d:=_root_.Fm.D.lst true m') nb q1 q2 w1 True.intro q4 ?_) (Same.refl G')
      exact ⟨qa,ws,rfl,⟨upd_same,⟨fun _=>rfl,fun _=> .inr rfl⟩⟩,RepL.mono ⟨Same.upd q1,fun a u k ga ld=>⟨fun z=>ld.mp (z.elim id fun y=>by rw [y,q1] at ga;cases ga),fun z=> .inl (ld.mpr z)⟩⟩ m' w2⟩
     ·cases hd
    | dk b' m'=>
     have hd:(if nbK m' then some (Fm.D.dk true m') else none)=some d:=hd
     split at hd
     ·rename_i nb
      cases hd
      obtain ⟨ws,w1,w2⟩:=q3
      refine q' _ _ σ _ G' (xWv n hi ok (d:=_root_.Fm.D.dk true m') nb q1 q2 w1 True.intro q4 ?_) (Same.refl G')
      exact ⟨qa,ws,rfl,⟨.inl upd_same,⟨fun _=>rfl,fun _=> .inr rfl⟩⟩,RepK.mono ⟨Same.upd q1,fun a u k ga ld=>⟨fun z=>ld.mp (z.elim id fun y=>by rw [y,q1] at ga;cases ga),fun z=> .inl (ld.mpr z)⟩⟩ m' w2⟩
     ·cases hd
    | _=>cases hd
 ·rw [if_neg hcl] at q'
  exact q'.elim
end
section
variable {κ:Ctx}{T:Pd}{G N N2:Hp}{f:Str}{d d2:D}{q:Addr}
theorem xBk:xAv ((k,c)::l) ((k',.ref a)::vs)=if ownF c then a::xAv l vs else xAv l vs:=rfl
theorem xI7: ∀ {l:List (Str×D)} {vs:List (Str×V)},RepF κ (plT T N) (plus G N) l vs->l.lookup f=some d->ownF d=true->ownF d2=true->xAv (xBy f d2 l) vs=xAv l vs
 | [],vs,r,h,_,_=>by cases h
 | (k,c)::l,vs,r,h,od,o2=>by
  obtain ⟨v,ws,rfl,h1,h2⟩:=r
  unfold xBy
  by_cases z:f=k
  ·have hb:(f==k)=true:=beq_iff_eq.mpr z
   simp only [yEb,hb] at h
   cases h
   rw [if_pos z.symm]
   obtain ⟨a,rfl⟩:=xNu od h1
   rw [xBk,xBk,if_pos od,if_pos o2]
  ·have hb:(f==k)=false:=beq_eq_false_iff_ne.mpr z
   simp only [yEb,hb] at h
   rw [if_neg (fun y=>z y.symm)]
   have ih:=xI7 h2 h od o2
   cases v with
   | ref a=>rw [xBk,xBk,ih]
   | _=>exact ih
theorem RepF.chg (gf: ∀ a,N a≠none->G a=none)(gf2: ∀ a,N2 a≠none->G a=none)(mu: ∀ a o,N a=some o->OwK o)(ht: ∀ a,N a≠none-> ¬ T a)(o2:ownF d2=true)(r2:Rep κ (plT T N2) (plus G N2) d2 (.ref q)): ∀ {l:List (Str×D)} {vs:List (Str×V)},fldB l=true->(xAv l vs).Nodup->(∀ a∈xAv l vs,(a≠q->N2 a=N a)/\N a≠none)->
  l.lookup f=some d->ownF d=true->vs.lookup f=some (.ref q)->RepF κ (plT T N) (plus G N) l vs->RepF κ (plT T N2) (plus G N2) (xBy f d2 l) vs
 | [],vs,_,_,_,h,_,_,_=>by cases h
 | (k,c)::l,vs,hf,nd,hq,h,od,hv,r=>by
  obtain ⟨v,ws,rfl,h1,h2⟩:=r
  unfold fldB at hf
  replace hf:=allC hf
  have sub:(xAv l ws).Sublist (xAv ((k,c)::l) ((k,v)::ws)):=by
   cases v with
   | ref a=>
    rw [xBk]
    split
    ·exact List.sublist_cons_self ..
    ·exact List.Sublist.refl _
   | _=>exact List.Sublist.refl (xAv l ws)
  have ndt:=nd.sublist sub
  unfold xBy
  by_cases z:f=k
  ·have hb:(f==k)=true:=beq_iff_eq.mpr z
   simp only [yEb,hb] at h hv
   cases h
   cases hv
   rw [if_pos z.symm]
   rw [xBk,if_pos od] at nd
   have nq:=(yDh.mp nd).1
   exact ⟨.ref q,ws,rfl,r2,RepF.move gf gf2 mu ht hf.2 (fun a ha=>⟨(hq a (sub.subset ha)).1 fun y=>nq (by rw [<- y];exact ha),(hq a (sub.subset ha)).2⟩) h2⟩
  ·have hb:(f==k)=false:=beq_eq_false_iff_ne.mpr z
   simp only [yEb,hb] at h hv
   rw [if_neg (fun y=>z y.symm)]
   have mq:q∈xAv l ws:=xFz h2 h od hv
   refine ⟨v,ws,rfl,Rep.moveF gf gf2 mu hf.1 (fun a e oc=> ?_) (fun a oc e t=> ?_) h1,RepF.chg gf gf2 mu ht o2 r2 hf.2 ndt (fun a ha=>hq a (sub.subset ha)) h od hv h2⟩
   ·subst e
    rw [xBk,if_pos oc] at nd hq
    exact (hq a (yC2 ..)).1 fun y=>(yDh.mp nd).1 (by rw [y];exact mq)
   ·subst e
    rw [xBk,if_pos oc] at hq
    exact ht a (hq a (yC2 ..)).2 t
end
section
variable {κ:Ctx}{B:Bas}{i:Nat}{ρ:List SD}{σ:L2.St}{H G:Hp}{p:Addr}{N:Hp}{b:Bool}{c:String}{l:List (Str×D)}{dx:Addr}{vs:List (Str×V)}{f:Str}{d d2:D}{q:Addr}{u:HO}
theorem xWu (n:NOk κ B G p N c l dx vs)(hi:i<ρ.length)(o:Ok κ (opB B i p N) (ρ.set i .un) σ H G)(hl:l.lookup f=some d)(od:ownF d=true)(hv:vs.lookup f=some (.ref q))(o2:ownF d2=true)(ou:OwK u)
  (r:Rep κ (fun a=>B.T a\/a=q) (upd G q u) d2 (.ref q)):OOkP κ B i p (upd N q u) (ρ.set i (.ow (.ins b c (xBy f d2 l)))) σ (upd H q u) G:=by
 have mq:q∈xAv l vs:=xFz n.fld hl od hv
 have nq:N q≠none:=n.inN q mq
 obtain ⟨w,hw⟩: ∃ w,N q=some w:=by
  cases z:N q with
  | none=>exact absurd z nq
  | some w=>exact ⟨w,rfl⟩
 have nd2:=(yDh.mp n.nd).2
 have pn:p∉xAv l vs:=(yDh.mp n.nd).1
 have pq:p≠q:=fun z=>pn (by rw [z];exact mq)
 have of_: ∀ {a:Addr},upd N q u a≠none->N a≠none:=fun {a} h=>by
  by_cases ha:a=q
  ·rw [ha]
   exact nq
  ·rw [upd_ne ha] at h
   exact h
 have gf2: ∀ a,upd N q u a≠none->G a=none:=fun a h=>n.gfree a (of_ h)
 have mu2: ∀ a w,upd N q u a=some w->OwK w:=fun a w h=>by
  by_cases ha:a=q
  ·rw [ha,upd_same] at h
   cases h
   exact ou
  ·rw [upd_ne ha] at h
   exact n.mu a w h
 have hq:H q=some w:=xB8 o n.mu hw
 have fld0:Rep κ (plT B.T N) (plus G N) d (.ref q):=by
  obtain ⟨v,h1,h2⟩:=RepF.lkF n.fld hl
  rw [hv] at h1
  cases h1
  exact h2
 have e:=xI7 (d2:=d2) n.fld hl od o2
 refine ⟨b,c,xBy f d2 l,dx,vs,⟨fun a h=>n.free a (of_ h),gf2,fun a h=>n.bg a (of_ h),fun a h=>n.nt a (of_ h),mu2,by rw [upd_ne pq];exact n.here,?_,xG2 (by rw [o2,Bool.or_true]) n.okF,by rw [e];exact n.nd,fun a h=> ?_⟩,yC7 hi,?_⟩
 ·refine RepF.chg n.gfree gf2 n.mu n.nt o2 (Rep.mono ⟨fun a w' h=> ?_,fun a w' k h ld=> ?_⟩ d2 r) n.okF nd2 (fun a h=>⟨fun ha=>upd_ne ha,n.inN a h⟩) hl od hv n.fld
  ·by_cases ha:a=q
   ·rw [ha,upd_same] at h
    cases h
    rw [ha]
    exact xAg upd_same
   ·rw [upd_ne ha] at h
    rw [xAd]
    ·exact h
    ·exact yC3 fun z=>by
      rw [gf2 a z] at h
      cases h
  ·by_cases ha:a=q
   ·subst ha
    exact ⟨fun _=>ld.mp (.inr rfl),fun _=> .inr (by rw [upd_same];exact fun z=>nomatch z)⟩
   ·rw [upd_ne ha] at h
    have nn:upd N q u a=none:=yC3 fun z=>by
     rw [gf2 a z] at h
     cases h
    exact ⟨fun z=>ld.mp (.inl (z.elim id fun y=>absurd nn y)),fun z=>(ld.mpr z).elim .inl fun y=>absurd y ha⟩
 ·rw [e] at h
  by_cases ha:a=q
  ·rw [ha,upd_same]
   exact fun z=>nomatch z
  ·rw [upd_ne ha]
   exact n.inN a h
 ·rw [yDz]
  refine o.swap (fun a h=>⟨n.free a (of_ h),gf2 a h⟩) (fun a w' h=>⟨?_,mu2 a w' h⟩) (fun a w' h h2=> ?_) (fun j e' q' hj hs=> ?_) (fun a h=> ?_) (xL0 o.fr.tabs hq (n.mu q w hw) (xSt od fld0 hw))
  ·by_cases ha:a=q
   ·rw [ha,upd_same] at h ⊢
    exact h
   ·rw [upd_ne ha] at h ⊢
    exact xB8 o n.mu h
  ·have ha:a≠q:=fun z=>by
    rw [z,upd_same] at h2
    cases h2
   rw [upd_ne ha]
   exact h
  ·have n2:=xRk o hj hs
   have e2:q'≠q:=fun z=>nq (by rw [<- z];exact n2)
   rw [upd_ne e2]
   exact n2
  ·by_cases ha:a=q
   ·rw [ha,upd_same]
    exact fun z=>nomatch z
   ·rw [upd_ne ha]
    exact h
theorem NOk.fldObj (n:NOk κ B G p N c l dx vs)(hl:l.lookup f=some d)(od:ownF d=true): ∃ q,vs.lookup f=some (.ref q)/\N q≠none/\Rep κ (plT B.T N) (plus G N) d (.ref q):=by
 obtain ⟨v,h1,h2⟩:=RepF.lkF n.fld hl
 obtain ⟨q,rfl⟩:=xNu od h2
 exact ⟨q,h1,n.inN q (xFz n.fld hl od h1),h2⟩
end
def xU1 (i:Nat)(c0:String)(f:Str)(ds:List D):M SD:=fun ρ=>match ρ[i]? with
 | some (.ow (.ins b c l))=>match l.lookup f,ds with
  | some (.lst true m),[d]=>if m.length<1000000/\nbL m=true/\d.nb=true then .ok (.va .non) (ρ.set i (.ow (.ins b c (xBy f (.lst true (m++[d])) l)))) else .no
  | _,_=> .no
 | _=> .no
def xFe {α:Type}(i:Nat)(c0:String)(f:Str)(k:D->Bool)(m:M α):M α:=fun ρ=>match ρ[i]? with
 | some (.ow (.ins b c l))=>match l.lookup f with
  | some d=>if c=c0/\k d=true then m ρ else .no
  | none=> .no
 | _=> .no
def isLt:D->Bool
 | .lst true l=>nbL l
 | _=>false
def isDt:D->Bool
 | .dk true l=>nbK l
 | _=>false
def oApp (i:Nat)(c0:String)(f:Str)(n:M (List D)):M SD:=xFe i c0 f isLt (n.bind (xU1 i c0 f))
def xYx (i:Nat)(c0:String)(f:Str)(d k:D):S:=fun ρ=>match ρ[i]? with
 | some (.ow (.ins b c l))=>match l.lookup f,xCy k with
  | some (.dk true m),some j=>if m.length<1000000/\nbK m=true/\d.nb=true then .ok .nx (ρ.set i (.ow (.ins b c (xBy f (.dk true (xB3 m j d)) l)))) else .no
  | _,_=> .no
 | _=> .no
def fO (m:M SD):M D:=m.bind fzM
def oPut (i:Nat)(c0:String)(f:Str)(mk me:M SD):S:=(fO me).bind fun d=>xFe i c0 f isDt ((xC1 i (fE mk)).bind fun k=>xYx i c0 f d k)
theorem xR9: ∀ {m:List D} {d:D},nbL m=true->d.nb=true->nbL (m++[d])=true
 | [],d,_,h=>by
  show (d.nb&&true)=true
  rw [h] <;> rfl
 | e::m,d,hm,h=>by
  have hm':(e.nb&&nbL m)=true:=hm
  rw [yC5] at hm'
  show (e.nb&&nbL (m++[d]))=true
  rw [hm'.1,xR9 hm'.2 h] <;> rfl
theorem xYn: ∀ {m:List (Key×D)} {k:Key} {d:D},nbK m=true->d.nb=true->nbK (xB3 m k d)=true:=by
 have ap: ∀ {m:List (Key×D)} {k:Key} {d:D},nbK m=true->d.nb=true->nbK (m++[(k,d)])=true:=by
  intro m
  induction m with
  | nil=>
   intro k d _ h
   show (d.nb&&true)=true
   rw [h] <;> rfl
  | cons e m ih=>
   intro k d hm h
   have hm':(e.2.nb&&nbK m)=true:=hm
   rw [yC5] at hm'
   show (e.2.nb&&nbK (m++[(k,d)]))=true
   rw [hm'.1,ih hm'.2 h] <;> rfl
 have mp: ∀ {m:List (Key×D)} {k:Key} {d:D},nbK m=true->d.nb=true->nbK (m.map fun kv=>if kv.1=k then (kv.1,d) else kv)=true:=by
  intro m
  induction m with
  | nil=>
   intro k d _ h
   rfl
  | cons e m ih=>
   intro k d hm h
   have hm':(e.2.nb&&nbK m)=true:=hm
   rw [yC5] at hm'
   rw [yD2]
   by_cases z:e.1=k
   ·rw [if_pos z]
    show (d.nb&&nbK (m.map fun kv=>if kv.1=k then (kv.1,d) else kv))=true
    rw [h,ih hm'.2 h] <;> rfl
   ·rw [if_neg z]
    show (e.2.nb&&nbK (m.map fun kv=>if kv.1=k then (kv.1,d) else kv))=true
    rw [hm'.1,ih hm'.2 h] <;> rfl
 intro m k d hm h
 unfold xB3
 split
 ·exact mp hm h
 ·exact ap hm h
section
variable {κ:Ctx}{W:WX}{B:Bas}{i:Nat}{ρ:List SD}{σ:L2.St}{H G:Hp}{p:Addr}{N:Hp}
theorem xRw {α:Type}{c0:String}{f:Str}{kk:D->Bool}{m:M α}{k:α->List SD->Addr->Hp->Hp->Hp->Prop}{b:Bool}{c:String}{l:List (Str×D)}(e:ρ[i]? =some (.ow (.ins b c l)))(q:PstG κ W B i σ G (xFe i c0 f kk m ρ) k): ∃ d,l.lookup f=some d/\c=c0/\kk d=true/\PstG κ W B i σ G (m ρ) k:=by
 unfold xFe at q
 rw [e] at q
 dsimp only at q
 cases h:l.lookup f with
 | none=>
  rw [h] at q
  exact q.elim
 | some d=>
  rw [h] at q
  dsimp only at q
  by_cases z:c=c0/\kk d=true
  ·rw [if_pos z] at q
   exact ⟨d,rfl,z.1,z.2,q⟩
  ·rw [if_neg z] at q
   exact q.elim
theorem xPm {kk:D->Bool}(e:ρ[i]? =some (.ow (.ins b c l)))(q:PstO κ W B i G (xFe i c0 f kk m ρ) E): ∃ d,l.lookup f=some d/\c=c0/\kk d=true/\PstO κ W B i G (m ρ) E:=by
 unfold xFe at q
 rw [e] at q
 dsimp only at q
 cases h:l.lookup f with
 | none=>
  rw [h] at q
  exact q.elim
 | some d=>
  rw [h] at q
  dsimp only at q
  by_cases z:c=c0/\kk d=true
  ·rw [if_pos z] at q
   exact ⟨d,rfl,z.1,z.2,q⟩
  ·rw [if_neg z] at q
   exact q.elim
theorem yBl {k:D->List SD->Addr->Hp->Hp->Hp->Prop}(o:OOkP κ B i p N ρ σ H G)(h:PstG κ W B i σ G (fO m ρ) k)
  (f: ∀ d ρ' p' N' H' G',OOkP κ B i p' N' ρ' σ H' G'->Same G G'->k d ρ' p' N' H' G'-> ∀ v,Rep κ B.T G' d v->Q v H'):tEO κ W i m σ H Q:=by
 refine ⟨B,p,N,ρ,G,o,PstG.mono (PstG.bind h) fun r ρ' p' N' H' G' o' s h' v rv=> ?_⟩
 cases r with
 | va d=>exact f d ρ' p' N' H' G' o' s (h' p' N' H' G' o' (Same.refl G')) v rv
 | ow d=>
  obtain ⟨b,c,l,dx,vs,n,e,ok⟩:=o'
  obtain ⟨G2,s2,o2,r2⟩:=ok.frzR rv
  have o3:OOkP κ B i p' N' ρ' σ H' G2:=⟨b,c,l,dx,vs,n.mono s2 (xN5 ok n o2),e,o2⟩
  exact f _ ρ' p' N' H' G2 o3 (s.trans s2) (h' p' N' H' G2 o3 s2) v r2
 | un=>exact rv.elim
theorem xZt (n0:N p=some (.ins (κ.cl c) dx vs))(o:OOkP κ B i p N ρ σ H G)(e:ρ[i]? =some (.ow (.ins b c l)))(hv:vs.lookup f=some (.ref q))(r:RepL κ B.T G ds xs)
  (k:PstG κ W B i σ G (xU1 i c0 f ds ρ) fun r ρ' p N H' G'=> ∀ v,RepR κ (opB B i p N) (ρ'.set i .un) σ H' G' r v->Q v H'):rAppend (.ref q) xs H Q:=by
 obtain ⟨b',c',l',dx',vs',n,e',ok⟩:=o
 rw [e] at e'
 cases e'
 have n1:=n.here
 rw [n0] at n1
 cases n1
 unfold xU1 at k
 rw [e] at k
 dsimp only at k
 split at k
 ·rename_i m d hl
  split at k
  ·rename_i z
   obtain ⟨z1,z2,z3⟩:=z
   obtain ⟨y,ys,rfl,r1,rfl⟩:=r
   obtain ⟨q',g1,g2,g3⟩:=n.fldObj hl (show nbL m=true from z2)
   rw [hv] at g1
   cases g1
   obtain ⟨a,ws,ea,⟨g4,g5⟩,g6⟩:=g3
   cases ea
   obtain ⟨w,hw⟩: ∃ w,N q=some w:=by
    cases z:N q with
    | none=>exact absurd z g2
    | some w=>exact ⟨w,rfl⟩
   rw [xAg hw] at g4
   cases g4
   have g7:RepL κ B.T G m ws:=RepL.out n.mu m z2 g6
   have gq:=n.gfree q g2
   have mo:Mono B.T G (fun a=>B.T a\/a=q) (upd G q (.lst (ws++[y]))):=⟨Same.upd gq,fun a u k ga ld=>⟨fun z=>ld.mp (z.elim id fun y=>by rw [y,gq] at ga;cases ga),fun z=> .inl (ld.mpr z)⟩⟩
   refine ⟨q,ws,y,rfl,rfl,xB8 ok n.mu hw,by rw [g7.length,sizeLine_eq];omega,?_⟩
   refine k p _ _ G (xWu n (xNk e) ok hl (show nbL m=true from z2) hv (d2:= .lst true (m++[d])) (xR9 z2 z3) (u:= .lst (ws++[y])) True.intro ?_) (Same.refl G) .non rfl
   exact ⟨q,_,rfl,⟨upd_same,⟨fun _=>rfl,fun _=> .inr rfl⟩⟩,RepL.mono mo _ (g7.append (RepL.one r1))⟩
  ·exact k.elim
 ·exact k.elim
end
section
variable {κ:Ctx}{X:Cx}{A:List Nat}{W:WX}{i:Nat}{x:Str}{e:Expr}{f:Str}{c0:String}{p1 p2 apos cpos pos:Pos}
theorem xRj {ρ:List SD}{σ:L2.St}{H G:Hp}{Q:VK}(n:NOk κ B G p N c l dx vs)(ok:Ok κ (opB B i p N) (ρ.set i .un) σ H G)(hc:Cls κ.K (κ.cl c))(hn:NoAttr κ.K (κ.cl c) f)
  {q:Addr} (hv:vs.lookup f=some (.ref q)) (h:Q (.ref q) H):tFld κ.K (tVar i) f σ H Q:=
 ⟨.ref p,ok.anch i p (yC2 ..),p,κ.cl c,dx,vs,.ref q,rfl,xB8 ok n.mu n.here,hc,hn,hv,h⟩
theorem xO1 (h:isLt d=true): ∃ m,d= .lst true m/\nbL m=true:=by
 cases d with
 | lst b m=>
  cases b with
  | true=>exact ⟨m,rfl,h⟩
  | false=>cases h
 | _=>cases h
theorem xUk (h:isDt d=true): ∃ m,d= .dk true m/\nbK m=true:=by
 cases d with
 | dk b m=>
  cases b with
  | true=>exact ⟨m,rfl,h⟩
  | false=>cases h
 | _=>cases h
theorem yAg (hK:X.K=κ.K)(hc:Cls κ.K (κ.cl c0))(hn:NoAttr κ.K (κ.cl c0) f)(hv:PE X (.Name x p1) (tVar i))(ha:PA X [e] (tA κ W n))(hb:attributeBase (.Name x p1) f X.env (eval (.Name x p1) X.env)=eval (.Name x p1) X.env:=by rfl)
  (hbase:attributeBase (.Attribute (.Name x p1) f p2) "append" X.env (eval (.Attribute (.Name x p1) f p2) X.env)=eval (.Attribute (.Name x p1) f p2) X.env:=by rfl)
  (hfew:((backTo cpos (starEach [e] X.env)).all (fun x=> !x.1)&&(backToKw cpos (keywordEach [] X.env)).all (fun x=>x.1.isSome)&&decide (([e]:List Expr).length+([]:List Keyword).length+(if ([]:List Keyword).isEmpty then 0 else 1)<30))=true:=by rfl)
  (hline:(apos.endLine==cpos.line)=true:=by rfl) (hs:starEach [e] X.env=(false,eval e X.env)::starEach [] X.env:=by rfl) (hplain:(backTo cpos (starEach ([]:List Expr) X.env)).any (·.1)=false:=by rfl)
  (hw:swapsWith (.Call (.Attribute (.Attribute (.Name x p1) f p2) "append" apos) [e] [] cpos) none pos.line X.env=pure false:=by rfl):
  PS X (.Expr (.Call (.Attribute (.Attribute (.Name x p1) f p2) "append" apos) [e] [] cpos) pos) (tOb κ A W i (xHz (oApp i c0 f (xF1 i nbL n)))):=by
 refine PS.imp (ps_expr (pe_bm PySem.F.plainAttrs_list PySem.F.slot_list_append PySem.F.type_list_append mt_append (pe_fld hv hb) ha hbase hfew hline hs hplain) hw) fun D σ H ⟨B,p,N,ρ,G,a,⟨b,c,l,dx,vs,nk,e1,ok⟩,q⟩=> ?_
 obtain ⟨d,h1,rfl,h2,q2⟩:=xRw e1 (PstO.bind (σ:=σ) q)
 obtain ⟨m,rfl,h3⟩:=xO1 h2
 obtain ⟨qa,g1,g2,g3⟩:=nk.fldObj h1 (show nbL m=true from h3)
 obtain ⟨aa,ws,ea,⟨g4,g5⟩,g6⟩:=g3
 cases ea
 obtain ⟨w,hw⟩: ∃ w,N qa=some w:=by
  cases z:N qa with
  | none=>exact absurd z g2
  | some w=>exact ⟨w,rfl⟩
 rw [xAg hw] at g4
 cases g4
 rw [hK]
 refine xRj (Q:=fun x H1=>tyV κ.K "list" x H1/\tA κ W n σ H1 fun xs H2=>rAppend x xs H2 fun _ H'=>D.nx σ H') nk ok hc hn g1 ?_
 refine ⟨.inl ⟨rfl,ws,SqL.of (xB8 ok nk.mu hw)⟩,?_⟩
 refine ⟨lnB B i p N,ρ.set i (.va (.ins true c l)),plus G N,nk.lend (xNk e1) ok,Pst.mono (PstG.ln nk e1 ok (PstG.bind q2)) fun ds ρ1 H1 G1 o1 s1 ⟨nb,G2,e2,gs,z,ok2,r1,r2,r4⟩ xs rs=> ?_⟩
 exact xZt nk.here ok2 (yC7 (xJy o1 (yC2 ..))) g1 (r2 nb rs) (PstG.mono z fun r ρ' p' N' H' G' o' s' k v rv=>k p' N' σ H' G' o' (Same.refl G'))
theorem xZz (hK:X.K=κ.K)(hu:X.A.units+65<cLine)(hc:Cls κ.K (κ.cl c0))(hn:NoAttr κ.K (κ.cl c0) f)(hv:PE X (.Name x p1) (tVar i))(hk:PE X k (tE κ W mk))(he:PE X e (tEO κ W i me))(hb:attributeBase (.Name x p1) f X.env (eval (.Name x p1) X.env)=eval (.Name x p1) X.env:=by rfl)
  (ha: ∀ v,assign (.Subscript (.Attribute (.Name x p1) f p2) k p3) X.env v=(do
   let ov <- holding [v] (eval (.Attribute (.Name x p1) f p2) X.env)
   let iv <- holding [v,ov] (eval k X.env)
   standAt p3;holding [v,ov,iv] (setItem ov iv v);release [v,ov,iv] []):=by intro _;rfl)
  (hs:swapsWithSole [.Subscript (.Attribute (.Name x p1) f p2) k p3] e pos.line X.env=pure false:=by rfl) (hw:swappedStores [.Subscript (.Attribute (.Name x p1) f p2) k p3] e X.env=pure none:=by rfl)
  (h1:(assignEach [.Subscript (.Attribute (.Name x p1) f p2) k p3] X.env).map (·.2)=[assign (.Subscript (.Attribute (.Name x p1) f p2) k p3) X.env]:=by rfl):
  PS X (.Assign [.Subscript (.Attribute (.Name x p1) f p2) k p3] e pos) (tOb κ A W i (oPut i c0 f mk me)):=by
 refine PS.imp (ps_asg he (pg_sub (pe_fld hv hb) hk (xZ3 (by omega)) ha) hs hw h1) fun D σ H ⟨B,p,N,ρ,G,a,o,q⟩=> ?_
 refine yBl o (PstO.bind q) fun d ρ1 p1' N1 H1 G1 o1 s1 q1 v1 r1=> ?_
 obtain ⟨b,c,l,dx,vs,nk,e1,ok⟩:=o1
 obtain ⟨dd,hl,rfl,h2,q2⟩:=xPm e1 q1
 obtain ⟨m,rfl,h3⟩:=xUk h2
 obtain ⟨qa,g1,g2,g3⟩:=nk.fldObj hl (show nbK m=true from h3)
 obtain ⟨w,hw⟩: ∃ w,N1 qa=some w:=by
  cases z:N1 qa with
  | none=>exact absurd z g2
  | some w=>exact ⟨w,rfl⟩
 obtain ⟨aa,ws,ea,⟨g4,g5⟩,g6⟩:=g3
 cases ea
 have g4:=g4.own
 rw [xAg hw] at g4
 cases g4
 rw [hK]
 refine xRj nk ok hc hn g1 ?_
 refine xBs ok (PstG.op nk e1 ok (PstO.bind q2)) fun kd ρ2 H2 G2 o2 s2 ⟨z,gs⟩ v2 r2=> ?_
 have ok2:=OOkP.op (b:=b) nk ok o2 s2
 have e2:(ρ2.set i (.ow (.ins b c l)))[i]? =some (.ow (.ins b c l)):=yC7 (xJy o2 (yC2 ..))
 obtain ⟨b',c',l',dx',vs',n,e',okk⟩:=ok2
 rw [e2] at e'
 cases e'
 have n1:=n.here
 rw [nk.here] at n1
 cases n1
 unfold xYx at z
 rw [e2] at z
 dsimp only at z
 rw [hl] at z
 cases hj:xCy kd with
 | none=>
  rw [hj] at z
  exact z.elim
 | some j=>
  rw [hj] at z
  dsimp only at z
  by_cases y:m.length<1000000/\nbK m=true/\d.nb=true
  ·rw [if_pos y] at z
   obtain ⟨y1,y2,y3⟩:=y
   have g7:RepK κ B.T G2 m ws:=RepK.mono (.of s2) m (RepK.out nk.mu m y2 g6)
   have gq:=n.gfree qa g2
   have mo:Mono B.T G2 (fun a=>B.T a\/a=qa) (upd G2 qa (.dK (putK ws j v1))):=⟨Same.upd gq,fun a u k ga ld=>⟨fun z=>ld.mp (z.elim id fun y=>by rw [y,gq] at ga;cases ga),fun z=> .inl (ld.mpr z)⟩⟩
   refine .inr ⟨qa,upd H2 qa (.dK (putK ws j v1)),rfl,?_,?_⟩
   ·rw [xGd r2 hj]
    exact DPut.k (xB8 okk n.mu hw) (by rw [g7.length,sizeLine_eq];omega)
   ·refine z p1' _ σ _ G2 (xWu n (xNk e2) okk hl (show nbK m=true from y2) g1 (d2:= .dk true (xB3 m j d)) (xYn y2 y3) (u:= .dK (putK ws j v1)) True.intro ?_) (Same.refl G2)
    exact ⟨qa,_,rfl,⟨.inl upd_same,⟨fun _=>rfl,fun _=> .inr rfl⟩⟩,RepK.mono mo _ (g7.put j (Rep.mono (.of s2) d r1))⟩
  ·rw [if_neg y] at z
   exact z.elim
end
def goI (i:Nat)(g:D->List SD->Option (List SD)):D->List SD->Option (List SD):=fun d ρ=>match ρ[i]? with
 | some x=>(g d (ρ.set i .un)).map fun ρ'=>ρ'.set i x
 | none=>none
def tIO (κ:Ctx)(W:WX)(i:Nat)(m:M (List D)):TI:=fun σ H R=> ∃ B p N ρ G,OOkP κ B i p N ρ σ H G/\PstG κ W B i σ G (m ρ) fun l ρ' p N H' G'=> ∀ J,ItD κ B.T G' J l->R J H'
def xYa (i:Nat)(m:M SD):M (List D):=(xF1 i D.nb (fE m)).bind seqM
section
variable {κ:Ctx}{X:Cx}{A vs:List Nat}{W:WX}{i:Nat}{e tg:Expr}{pos:Pos}
theorem xZ9 (h:PI X tg e (tI κ W m)):PI X tg e (tIO κ W i (xC1 i m)):=PI.imp h fun σ H R ⟨B,p,N,ρ,G,⟨b,c,l,dx,ws,n,e,o⟩,q⟩=>
 ⟨opB B i p N,ρ.set i .un,G,o,Pst.mono (PstG.op n e o q) fun l ρ1 H1 G1 o1 s1 ⟨z,_⟩ J hJ=>z J hJ⟩
theorem yCx (hK:X.K=κ.K)(h:PE X e (tE κ W m)):PI X tg e (tIO κ W i (xYa i m)):=by
 refine PI.imp (PI.or (pi_list h) (PI.or (pi_tup h) (pi_str h))) fun σ H R ⟨B,p,N,ρ,G,⟨b,c,l,dx,ws,n,e1,o⟩,q⟩=> ?_
 have q1:=PstG.ln n e1 o (PstG.bind q)
 have o1:=n.lend (xNk e1) o
 cases em:fE m (ρ.set i (.va (.ins true c l))) with
 | ex x ρ'=>
  refine .inl (xBs (k:=fun _ _ _ _=>False) o1 ?_ fun _ _ _ _ _ _ z=>z.elim)
  rw [em]
  rw [em] at q1
  exact q1
 | no=>
  rw [em] at q1
  exact q1.elim
 | ok d ρ'=>
  rw [em] at q1
  cases d with
  | lst b' m'=>
   refine .inl (xBs (k:=fun d ρ1 H1 G1=>d= .lst b' m'/\ ∃ G2,nbL m'=true/\b'=false/\G1=plus G2 N/\(∀ J,ItD κ B.T G2 J m'->R J H1)/\OOkP κ B i p N (ρ1.set i (.ow (.ins b c l))) σ H1 G2/\ ∀ {d:D} {v:V},d.nb=true->Rep κ (plT B.T N) G1 d v->Rep κ B.T G2 d v) o1 ?_ fun d ρ1 H1 G1 o1 s1 z v r=> ?_)
   ·rw [em]
    intro H1 G1 o2 s2
    obtain ⟨nb,G2,e2,gs,z,ok2,r1,r2,r4⟩:=q1 H1 G1 o2 s2
    have nb':(!b'&&nbL m')=true:=nb
    rw [yC5,yDt] at nb'
    exact ⟨rfl,G2,nb'.2,nb'.1,e2,fun J hJ=>z p N H1 G2 ok2 (Same.refl G2) J hJ,ok2,r1⟩
   ·obtain ⟨rfl,G2,nb,rfl,rfl,z,ok2,r1⟩:=z
    have r3:=r1 (d:= .lst false m') (by show (!false&&nbL m')=true;rw [nb] <;> rfl) r
    obtain ⟨b2,c2,l2,dx2,vs2,n2,e3,ok3⟩:=ok2
    obtain ⟨a,us,rfl,h1,h2,h3⟩:=r3.seqL ok3.fr.gh
    refine ⟨a,rfl,⟨us,hK ▸ h2⟩,?_⟩
    rw [hK]
    exact z _ (xOz h1 h3)
  | tup m'=>
   refine .inr (.inl (xBs (k:=fun d ρ1 H1 G1=>d= .tup m'/\ ∃ G2,nbL m'=true/\G1=plus G2 N/\(∀ J,ItD κ B.T G2 J m'->R J H1)/\OOkP κ B i p N (ρ1.set i (.ow (.ins b c l))) σ H1 G2/\ ∀ {d:D} {v:V},d.nb=true->Rep κ (plT B.T N) G1 d v->Rep κ B.T G2 d v) o1 ?_ fun d ρ1 H1 G1 o1 s1 z v r=> ?_))
   ·rw [em]
    intro H1 G1 o2 s2
    obtain ⟨nb,G2,e2,gs,z,ok2,r1,r2,r4⟩:=q1 H1 G1 o2 s2
    exact ⟨rfl,G2,nb,e2,fun J hJ=>z p N H1 G2 ok2 (Same.refl G2) J hJ,ok2,r1⟩
   ·obtain ⟨rfl,G2,nb,rfl,z,ok2,r1⟩:=z
    have r3:=r1 (d:= .tup m') nb r
    obtain ⟨b2,c2,l2,dx2,vs2,n2,e3,ok3⟩:=ok2
    obtain ⟨a,us,rfl,h1,h3⟩:=r3
    refine ⟨a,rfl,⟨us,hK ▸ h1.sq ok3.fr.gh⟩,?_⟩
    rw [hK]
    exact z _ (xTv h1 h3)
  | str x=>
   refine .inr (.inr (xBs (k:=fun d ρ1 H1 G1=>d= .str x/\ ∃ G2,∀ J,ItD κ B.T G2 J (x.cps.toList.map fun c=>D.str ⟨#[c]⟩)->R J H1) o1 ?_ fun d ρ1 H1 G1 o1 s1 z v r=> ?_))
   ·rw [em]
    intro H1 G1 o2 s2
    obtain ⟨nb,G2,e2,gs,z,ok2,r1,r2,r4⟩:=q1 H1 G1 o2 s2
    exact ⟨rfl,G2,fun J hJ=>z p N H1 G2 ok2 (Same.refl G2) J hJ⟩
   ·obtain ⟨rfl,G2,z⟩:=z
    cases (show v=V.str x from r)
    exact ⟨x,rfl,z _ xS7⟩
  | _=>
   refine .inl (xBs (k:=fun _ _ _ _=>False) o1 ?_ fun _ _ _ _ _ _ z=>z.elim)
   rw [em]
   intro H1 G1 o2 s2
   obtain ⟨nb,G2,e2,gs,z,ok2,r1,r2,r4⟩:=q1 H1 G1 o2 s2
   exact z.elim
theorem xZl {g:D->List SD->Option (List SD)}(hp:PassesOwn (model X.prog X.w) X.A X.env X.xe)(hc:X.calm=true)(hi:PI X tg e (tIO κ W i m))(hg:PG X tg (tG κ (i::A) vs g))(hb:PSs X body (tOb κ A W i b))
  (hs: ∀ x,foldedSetIterable e X.env x=pure x:=by intro _;rfl):PS X (.For tg e body [] pos) (tOb κ A W i (sFor m (goI i g) b)):=by
 refine PS.imp (ps_for hp hc hi hg hb hs) fun D σ H ⟨B,p,N,ρ,G,a,o,q⟩=>⟨B,p,N,ρ,G,o,PstG.mono (PstO.bind q) fun l ρ0 p0 N0 H0 G0 o0 s0 q0 J hJ=> ?_⟩
 refine ⟨fun j n σ' H'=>n=l.length-j/\j<=l.length/\ ∃ p' N' ρ' G',OOkP κ B i p' N' ρ' σ' H' G'/\Same G0 G'/\PstO κ W B i G' (forL (goI i g) b (l.drop j) ρ') D,⟨l.length,by simp,yDs _,p0,N0,ρ0,G0,o0,Same.refl _,q0⟩,?_⟩
 rintro j n σ1 H1 ⟨rfl,hj,p1,N1,ρ1,G1,o1,s1,q1⟩
 obtain ⟨bb,c,fl,dx,ws,nk,e1,ok⟩:=o1
 obtain ⟨j1,j2,j3⟩:=hJ j (opB B i p1 N1) (ρ1.set i .un) σ1 H1 G1 rfl ok s1
 by_cases hlt:j<l.length
 ·refine .inr ⟨j1 hlt,fun σ' H'=>j+1<=l.length/\ ∃ p' N' ρ' G',OOkP κ B i p' N' ρ' σ' H' G'/\Same G0 G'/\PstO κ W B i G' (forL (goI i g) b (l.drop (j+1)) ρ') D,fun σ' H' ⟨h1,h2⟩=>⟨l.length-(j+1),by omega,rfl,h1,h2⟩,fun x H2 y=> ?_⟩
  obtain ⟨G2,o2,s2,_,r2⟩:=j3 l[j] (yC6 hlt) x H2 y
  rw [yDv hlt] at q1
  have q1':PstO κ W B i G1 (match goI i g l[j] ρ1 with
   | none=> .no
   | some ρ1=>match b ρ1 with
    | .ok .nx ρ2=>forL (goI i g) b (l.drop (j+1)) ρ2
    | .ok .ct ρ2=>forL (goI i g) b (l.drop (j+1)) ρ2
    | .ok .bk ρ2=> .ok .nx ρ2
    | r=>r) D:=q1
  have ego:goI i g l[j] ρ1=(g l[j] (ρ1.set i .un)).map fun ρ'=>ρ'.set i (.ow (.ins bb c fl)):=by
   unfold goI
   rw [e1]
  cases eg:g l[j] (ρ1.set i .un) with
  | none=>
   rw [ego,eg] at q1'
   exact q1'.elim
  | some ρ2=>
   rw [ego,eg] at q1'
   dsimp only [Option.map_some] at q1'
   refine ⟨opB B i p1 N1,ρ1.set i .un,G2,l[j],ρ2,xV0 a,o2,r2,eg,fun σ3 H3 G3 o3 s3 _=> ?_⟩
   have s13:=s2.trans s3
   refine ⟨B,p1,N1,ρ2.set i (.ow (.ins bb c fl)),G3,a,OOkP.op nk ok o3 s13,?_⟩
   cases eb:b (ρ2.set i (.ow (.ins bb c fl))) with
   | ok f ρ3=>
    rw [eb] at q1'
    cases f with
    | nx=>exact fun p4 N4 σ4 H4 G4 o4 s4=>⟨hlt,p4,N4,ρ3,G4,o4,(s1.trans s13).trans s4,PstO.mono q1' (s13.trans s4) (fun _ _ z=>z) rfl rfl rfl⟩
    | ct=>exact fun p4 N4 σ4 H4 G4 o4 s4=>⟨hlt,p4,N4,ρ3,G4,o4,(s1.trans s13).trans s4,PstO.mono q1' (s13.trans s4) (fun _ _ z=>z) rfl rfl rfl⟩
    | bk=>exact fun p4 N4 σ4 H4 G4 o4 s4=>q1' p4 N4 σ4 H4 G4 o4 (s13.trans s4)
    | rt r=>exact fun v p4 N4 σ4 H4 G4 o4 s4 rv=>q1' v p4 N4 σ4 H4 G4 o4 (s13.trans s4) rv
   | ex x ρ3=>
    rw [eb] at q1'
    exact fun cls d p4 N4 σ4 H4 G4 o4 s4 rx=>q1' cls d p4 N4 σ4 H4 G4 o4 (s13.trans s4) rx
   | no=>
    rw [eb] at q1'
    exact q1'.elim
 ·have ei:l.drop j=[]:=yD7.mpr (by omega)
  rw [ei] at q1
  exact .inl ⟨j2 (by omega),q1 p1 N1 σ1 H1 G1 ⟨bb,c,fl,dx,ws,nk,e1,ok⟩ (Same.refl _)⟩
end
def fzFl (l:List (Str×D)):List (Str×D):=l.map fun f=>(f.1,f.2.fz)
structure AftI (κ:Ctx)(G H:Hp)(x:Addr)(H' G':Hp):Prop where
 keep: ∀ a o,H a=some o->a≠x->(∀ ps,o≠ .tbl ps)->H' a=some o
 frz: ∀ a,noT H a≠none->a≠x->G' a=G a
 sub:Same G G'
 gh:Same G' H'
 notb: ∀ a ps,G' a≠some (.tbl ps)
 tabs:LamX.Tabs κ.tabs H'
def spIn (κ:Ctx)(c:String)(n:Nat)(f:List D->FR):Sp:=fun vs H Q E=> ∃ x dx ws T G as,vs= .ref x::ws/\as.length=n/\RepL κ T G as ws/\H x=some (.ins (κ.cl c) dx [])/\G x=none/\ ¬ T x/\Same G H/\(∀ a ps,G a≠some (.tbl ps))/\LamX.Tabs κ.tabs H/\(∀ a,T a->noT H a≠none)/\match f as with
 | .ok (.va d) _=> ∀ H' G',AftI κ G H x H' G'->Rep κ T G' d (.ref x)->Q .non H'
 | .ex y _=> ∀ cls dd H' G',AftI κ G H x H' G'->RepX κ T H' G' y cls dd->E cls dd H'
 | _=>False
def endI (ρ':List SD):FR:=match ρ'[0]? with
 | some (SD.ow (D.ins _ c l))=>FR.ok (SD.va (D.ins false c (fzFl l))) []
 | _=> .no
def runI (c:String)(N:Nat)(s:S)(as:List D):FR:=match s (.ow (.ins false c [])::(as.map SD.va++yDg (N-1-as.length) SD.un)) with
 | .ok .nx ρ'=>endI ρ'
 | .ok (.rt (.va .non)) ρ'=>endI ρ'
 | .ex x _=> .ex x []
 | _=> .no
section
variable {κ:Ctx}{T:Pd}{G N:Hp}
theorem RepF.frz (gf: ∀ a,N a≠none->G a=none)(mu: ∀ a o,N a=some o->OwK o)(nt: ∀ a,N a≠none-> ¬ T a): ∀ {l:List (Str×D)} {vs:List (Str×V)},fldB l=true->(∀ a∈xAv l vs,N a≠none)->RepF κ (plT T N) (plus G N) l vs->RepF κ T (plus G N) (fzFl l) vs
 | [],vs,_,_,r=>r
 | (k,d)::l,vs,hf,hq,r=>by
  obtain ⟨v,ws,rfl,h1,h2⟩:=r
  unfold fldB at hf
  replace hf:=allC hf
  have sg:Same G (plus G N):=fun a o e=>by
   have n:N a=none:=yC3 fun z=>by
    rw [gf a z] at e
    cases e
   rw [xAd n]
   exact e
  have tail: ∀ a∈xAv l ws,N a≠none:=fun a ha=>hq a (by
   cases v with
   | ref q=>
    rw [xBk]
    split
    ·exact yC8 _ ha
    ·exact ha
   | _=>exact ha)
  refine ⟨v,ws,rfl,?_,RepF.frz gf mu nt hf.2 tail h2⟩
  rcases Bool.or_eq_true_iff.mp hf.1 with h|h
  ·by_cases hs: ∃ m,d= .scr m
   ·obtain ⟨m,rfl⟩:=hs
    obtain ⟨a,us,e,_,g3⟩:=h1
    exact ⟨a,.non::us,e,.inr rfl,⟨.non,us,rfl,rfl,RepL.mono (.of sg) m (RepL.out mu m h g3)⟩⟩
   have e:d.fz=d:=by
    cases d with
    | scr m=>exact absurd ⟨m,rfl⟩ hs
    | lst b m=>
     cases b with
     | false=>rfl
     | true=>cases (show (!true&&nbL m)=true from h)
    | dk b m=>
     cases b with
     | false=>rfl
     | true=>cases (show (!true&&nbK m)=true from h)
    | nv b m ss=>
     cases b with
     | false=>rfl
     | true=>cases (show (!true&&nbL m)=true from h)
    | ins b c m=>
     cases b with
     | false=>rfl
     | true=>cases (show (!true&&nbF m)=true from h)
    | _=>rfl
   show Rep κ T (plus G N) d.fz v
   rw [e]
   exact Rep.mono (.of sg) d (Rep.out mu d h h1)
  ·obtain ⟨q,rfl⟩:=xNu h h1
   rw [xBk,if_pos h] at hq
   have nq:=hq q (yC2 ..)
   cases d with
   | lst b m=>
    cases b with
    | false=>cases h
    | true=>
     obtain ⟨a,us,e,⟨g1,g2⟩,g3⟩:=h1
     cases e
     exact ⟨q,us,rfl,⟨g1,⟨fun z=>(nt q nq z).elim,fun z=>yDd z⟩⟩,RepL.mono (.of sg) m (RepL.out mu m h g3)⟩
   | dk b m=>
    cases b with
    | false=>cases h
    | true=>
     obtain ⟨a,us,e,⟨g1,g2⟩,g3⟩:=h1
     cases e
     exact ⟨q,us,rfl,⟨.inl g1.own,⟨fun z=>(nt q nq z).elim,fun z=>yDd z⟩⟩,RepK.mono (.of sg) m (RepK.out mu m h g3)⟩
   | nv b m ss=>
    cases b with
    | false=>cases h
    | true=>
     obtain ⟨a,us,e,⟨g1,g2⟩,g3⟩:=h1
     cases e
     exact ⟨q,us,rfl,⟨g1,⟨fun z=>(nt q nq z).elim,fun z=>yDd z⟩⟩,RepL.mono (.of sg) m (RepL.out mu m h g3)⟩
   | _=>cases h
end
def basI (G H:Hp)(T:Pd)(x:Addr):Bas:=⟨fun a=>if a=x then none else noT H a,G,T,[(0,x)]⟩
section
variable {κ:Ctx}{T:Pd}{G H:Hp}{x dx:Addr}{c:String}{as:List D}{ws:List V}{N:List Str}
theorem xY2 (hn:as.length+1<=N.length)(r:RepL κ T G as ws)(hx:H x=some (.ins (κ.cl c) dx []))(gx:G x=none)(tx: ¬ T x)(gh:Same G H)(nb: ∀ a ps,G a≠some (.tbl ps))(tb:LamX.Tabs κ.tabs H)(tl: ∀ a,T a->noT H a≠none):
  OOkP κ (basI G H T x) 0 x (upd (fun _=>none) x (.ins (κ.cl c) dx [])) (.ow (.ins false c [])::(as.map SD.va++yDg (N.length-1-as.length) SD.un)) (L2.start N (.ref x::ws)) H G:=by
 have hN: ∀ {a:Addr},upd (fun _=>none:Hp) x (.ins (κ.cl c) dx []) a≠none->a=x:=fun {a} h=>yC3 fun z=>h (by rw [upd_ne z])
 have lw:=r.length
 have sl0:(L2.start N (.ref x::ws))[0]? =some (some (V.ref x)):=by
  unfold L2.start
  rw [yDj (by simp)]
  rfl
 have at_: ∀ {i:Nat} {y:SD},((.ow (.ins false c [])::(as.map SD.va++yDg (N.length-1-as.length) SD.un):List SD).set 0 .un)[i]? =some y->y≠ .un-> ∃ j d,i=j+1/\as[j]? =some d/\y= .va d:=fun {i y} e ny=>by
  cases i with
  | zero=>
   rw [List.set_cons_zero] at e
   exact absurd (yDc.inj e).symm ny
  | succ j=>
   rw [List.set_cons_zero,List.getElem?_cons_succ] at e
   by_cases hj:j<as.length
   ·rw [yDj (by rw [yC0];exact hj),yDb,yC6 hj] at e
    exact ⟨j,as[j],rfl,yC6 hj,(yDc.inj e).symm⟩
   ·rw [yD4 (by rw [yC0];omega),List.getElem?_replicate] at e
    split at e
    ·exact absurd (yDc.inj e).symm ny
    ·cases e
 refine ⟨false,c,[],dx,[],⟨fun a h=>if_pos (hN h),fun a h=>by rw [hN h];exact gx,fun a h=>by rw [hN h];exact gx,fun a h=>by rw [hN h];exact tx,fun a o h=> ?_,upd_same,rfl,rfl,yDh.mpr ⟨(fun z=>by cases z),yDu⟩,fun a h=>by cases h⟩,rfl,?_⟩
 ·by_cases ha:a=x
  ·rw [ha,upd_same] at h
   cases h
   exact True.intro
  ·rw [upd_ne ha] at h
   cases h
 ·refine ⟨⟨fun a o e n=> ?_,fun a ps e=> ?_,fun a e=>rfl,Same.refl G,gh,nb,tb,fun a e=> ?_⟩,?_,fun i d e=> ?_,fun i d e=> ?_,fun i j q d e hij h1 h2 h3 h4=> ?_,fun i q hq=> ?_⟩
  ·have e:plus (fun a=>if a=x then none else noT H a) (upd (fun _=>none) x (.ins (κ.cl c) dx [])) a=some o:=e
   by_cases ha:a=x
   ·rw [ha,xAg upd_same] at e
    cases e
    rw [ha]
    exact hx
   ·rw [xAd (upd_ne ha),if_neg ha] at e
    exact (xG1 e).1
  ·have e:plus (fun a=>if a=x then none else noT H a) (upd (fun _=>none) x (.ins (κ.cl c) dx [])) a=some (.tbl ps):=e
   by_cases ha:a=x
   ·rw [ha,xAg upd_same] at e
    cases e
   ·rw [xAd (upd_ne ha),if_neg ha] at e
    exact xRo e
  ·show plus (fun a=>if a=x then none else noT H a) (upd (fun _=>none) x (.ins (κ.cl c) dx [])) a≠none
   by_cases ha:a=x
   ·rw [ha,xAg upd_same]
    exact fun z=>nomatch z
   ·rw [xAd (upd_ne ha),if_neg ha]
    exact tl a e
  ·unfold L2.start
   simp only [yDl,yC0,yEg,yDa,yDe]
   omega
  ·obtain ⟨j,d',rfl,e1,e2⟩:=at_ e (by simp)
   cases e2
   obtain ⟨v,h1,h2⟩:=r.get e1
   refine ⟨v,?_,h2⟩
   have hj:=(yC1.mp h1).1
   unfold L2.start
   rw [yDj (by simp;exact hj)]
   simp [h1]
  ·obtain ⟨j,d',rfl,e1,e2⟩:=at_ e (by simp)
   cases e2
  ·obtain ⟨j,d',rfl,e1,e2⟩:=at_ h1 (by simp)
   cases e2
  ·have hq:(i,q)∈[(0,x),(0,x)]:=hq
   have hq:(i,q)=(0,x):=by
    rcases inC hq with z|z
    ·exact z
    ·exact yDr.mp z
   cases hq
   exact sl0
theorem xOe {p:Addr}{M:Hp}(gx:G x=none)(nb: ∀ a ps,G a≠some (.tbl ps))(o:OOkP κ (basI G H T x) 0 p M ρ' σ' H' G')(s:Same G G'):p=x/\AftI κ G H x H' (plus G' M)/\AftI κ G H x H' G'/\
  ∀ b c l,ρ'[0]? =some (.ow (.ins b c l))->Rep κ T (plus G' M) (.ins false c (fzFl l)) (.ref x):=by
 obtain ⟨b,c,l,dx,vs,n,e,ok⟩:=o
 have px:p=x:=by
  have h1:=ok.anch 0 p (yC2 ..)
  have h2:=ok.anch 0 x (yC8 _ (yC2 ..))
  rw [h1] at h2
  cases h2
  rfl
 subst px
 have bH: ∀ {a:Addr},noT H a≠none->a≠p->M a=none/\plus (basI G H T p).H M a=noT H a:=fun {a} h na=>by
  have e1:(basI G H T p).H a=noT H a:=if_neg na
  have m:M a=none:=yC3 fun z=>by
   have:=n.free a z
   rw [e1] at this
   exact h this
  exact ⟨m,by rw [xAd m,e1]⟩
 have sg:Same G' (plus G' M):=fun a o e=>by
  have m:M a=none:=yC3 fun z=>by
   rw [n.gfree a z] at e
   cases e
  rw [xAd m]
  exact e
 have keep: ∀ a o,H a=some o->a≠p->(∀ ps,o≠ .tbl ps)->H' a=some o:=fun a o h na nt=>by
  have h1:=xDm h nt
  obtain ⟨m,e1⟩:=bH (a:=a) (by rw [h1];exact fun z=>nomatch z) na
  exact ok.fr.keep a o (e1.trans h1) nt
 have frz: ∀ a,noT H a≠none->a≠p->G' a=G a:=fun a h na=>by
  obtain ⟨m,e1⟩:=bH h na
  exact ok.fr.frz a (by show plus (basI G H T p).H M a≠none;rw [e1];exact h)
 refine ⟨rfl,⟨keep,fun a h na=> ?_,s.trans sg,fun a o h=> ?_,fun a ps h=> ?_,ok.fr.tabs⟩,⟨keep,frz,s,ok.fr.gh,ok.fr.notb,ok.fr.tabs⟩,fun b' c' l' e'=> ?_⟩
 ·rw [xAd (bH h na).1]
  exact frz a h na
 ·cases m:M a with
  | some w=>
   rw [xAg m] at h
   cases h
   exact xB8 ok n.mu m
  | none=>
   rw [xAd m] at h
   exact ok.fr.gh a o h
 ·cases m:M a with
  | some w=>
   rw [xAg m] at h
   cases h
   exact n.mu a _ m
  | none=>
   rw [xAd m] at h
   exact ok.fr.notb a ps h
 ·rw [e] at e'
  cases e'
  have tp: ¬ T p:=n.nt p (by rw [n.here];exact fun z=>nomatch z)
  exact ⟨p,dx,vs,rfl,⟨xAg n.here,⟨fun z=>(tp z).elim,fun z=>yDd z⟩⟩,RepF.frz n.gfree n.mu n.nt n.okF n.inN n.fld⟩
end
section
variable {P:Program}{w:World}{K:PySem.W.Frag}{f:Addr}{fd:FuncData}{mg:Str->Option Value}{base:Heap}{x qual:Str}{params:Arguments}{body:List Stmt}{scope:Scope}{dvs:List V}{kws:List (Str×V)}
theorem xUv (F:FunD K x qual params body scope dvs kws f fd)(Sc:FnScope N ps scope)(hn:ps.length=n+1)
  (hbody: ∀ (cdv:Value) (Ar:Around) (outer:List Env) (s0:Shared) (H:Hp) (E:XK),Room k (Ar.deeper (envOfC qual scope s0.heap.objs.size f cdv))->
   PSs (cxOf (L2N.CX P w) P w K mg base N qual scope f cdv Ar outer s0 H E) body (tOb κ [0] (fun cls d _ H=>E cls d H) 0 s)):FnOk P w K mg base (L2N.CX P w) (k+1) f fd ps (spIn κ c n (runI c N.length s)):=by
 refine FunD.okC F Sc (fun vs H Q E h=> ?_) (fun cdv Ar outer s0 H vs Q E hcd hr h=>⟨_,hbody cdv Ar outer s0 H E hr,?_⟩)
 ·obtain ⟨x,dx,ws,T,G,as,rfl,hl,r,_⟩:=h
  rw [yDa,r.length,hl,hn]
 ·obtain ⟨x,dx,ws,T,G,as,rfl,hl,r,hx,gx,tx,gh,nb,tb,tl,q⟩:=h
  have hN:as.length+1<=N.length:=by
   have z:=congrArg yEl Sc.pre
   rw [yDq] at z
   omega
  refine ⟨basI G H T x,x,_,_,G,fun z hz=> ?_,xY2 hN r hx gx tx gh nb tb tl,?_⟩
  ·obtain rfl:z=(0,x):=yDr.mp hz
   exact .head _
  ·unfold runI at q
   have fin: ∀ {ρ':List SD} {p:Addr} {M:Hp} {σ':L2.St} {H' G':Hp},(match endI ρ' with
     | .ok (.va d) _=> ∀ H' G',AftI κ G H x H' G'->Rep κ T G' d (.ref x)->Q .non H'
     | .ex y _=> ∀ cls dd H' G',AftI κ G H x H' G'->RepX κ T H' G' y cls dd->E cls dd H'
     | _=>False)->OOkP κ (basI G H T x) 0 p M ρ' σ' H' G'->Same G G'->Q .non H':=fun {ρ' p M σ' H' G'} q o s=>by
    obtain ⟨rfl,a1,a2,a3⟩:=xOe gx nb o s
    obtain ⟨b,c',l,dx',vs',n',e,ok⟩:=o
    unfold endI at q
    rw [e] at q
    exact q H' _ a1 (a3 b c' l e)
   cases e:s (.ow (.ins false c [])::(as.map SD.va++yDg (N.length-1-as.length) SD.un)) with
   | ok fl ρ'=>
    rw [e] at q
    cases fl with
    | nx=>exact fun p M σ' H' G' o s=>fin q o s
    | rt r=>
     cases r with
     | va d=>
      cases d with
      | non=>
       intro v p M σ' H' G' o s rv
       cases (show v=V.non from rv)
       exact fin q o s
      | _=>exact q.elim
     | _=>exact q.elim
    | bk=>exact q.elim
    | ct=>exact q.elim
   | ex y ρ'=>
    rw [e] at q
    intro cls d p M σ' H' G' o s rx
    obtain ⟨rfl,a1,a2,a3⟩:=xOe gx nb o s
    exact q cls d H' G' a2 rx
   | no=>
    rw [e] at q
    exact q.elim
end
def xZs (f:List D->FR)(n:M (List D)):M SD:=n.bind fun ds=>fun ρ=>match f ds with
 | .ok (.va d) _=> .ok (.va d) ρ
 | .ex x _=> .ex x ρ
 | _=> .no
def mFld (c0:String)(f:Str)(m:M SD):M SD:=(fE m).bind fun d=>match d with
 | .ins _ c l=>if c=c0 then M.opt ((l.lookup f).map SD.va) else M.no
 | _=>M.no
def xYv (c0:String)(mt:Str)(fn:List SD->FR)(n:M (List D))(d:D):M SD:=match d with
 | .ins b c l=>if c=c0/\l.lookup mt=none then n.bind fun ds=>fun ρ=>match fn (.va (.ins b c l)::ds.map SD.va) with
  | .ok r _=> .ok r ρ
  | .ex x _=> .ex x ρ
  | .no=> .no
  else M.no
 | _=>M.no
def xIm (c0:String)(mt:Str)(fn:List SD->FR)(m:M SD)(n:M (List D)):M SD:=(fE m).bind (xYv c0 mt fn n)
section
variable {X:Cx}{CX:CXT}{k:Nat}{f C:Addr}{fd:FuncData}{ps:List Str}{sp:Sp}{dvs:List V}{ds:List Value}{E:L2.St->XK}{x m:Str}{p pos apos:Pos}{e o:Expr}{es:List Expr}{ta:TE}{t:TA}
def yCf (C:Addr)(sp:Sp)(E:L2.St->XK)(t:TA):TE:=fun σ H Q=>t σ H fun vs H1=> ∀ x dx,H1 x=none->H1 dx=none->dx≠x->
 sp (.ref x::vs) (upd (upd H1 dx (.own x)) x (.ins C dx [])) (fun v H2=>v= .non/\Q (.ref x) H2) (E σ)
abbrev xQ0 (X:Cx)(pl:Sem Bool)(o:Expr)(m:Str)(apos pos:Pos)(es:List Expr):Sem Value:=do
 let ov <- eval o X.env;standAt apos.atName;let (f,first) <- holding [ov] (getMethod ov m pl);callWith pos f first (backTo pos (starEach es X.env)) (backToKw pos (keywordEach [] X.env))
abbrev Pln (X:Cx)(e:Expr)(es:List Expr):Prop:=starEach (e::es) X.env=(false,eval e X.env)::starEach es X.env
abbrev PlnR (X:Cx)(pos:Pos)(es:List Expr):Prop:=(backTo pos (starEach es X.env)).any (·.1)=false
theorem xRb (M:Mk X.K C f)(F:FnOk X.prog X.w X.K X.mg X.base CX k f fd ps sp)(hr:Room (k+1) X.A)(hb:Binds X.K fd ps [])
  (hx:PassesAt CX X σ (E σ)) (I:L2.Inv X pins σ H s) (r:Vals vs us)
  (h: ∀ x dx,H x=none->H dx=none->dx≠x->sp (.ref x::vs) (upd (upd H dx (.own x)) x (.ins C dx [])) (fun v H2=>v= .non/\Q (.ref x) H2) (E σ)):wpAny (model X.prog X.w) X.A (call (.ref C) us) (EP X pins σ Q) X.xe s:=by
 have fr: ∀ j,s.heap.objs.size<=j->H j=none:=fun j hj=>I.hok.fresh hj
 have want:=h (s.heap.objs.size+1) s.heap.objs.size (fr _ (yEh _)) (fr _ (yDp _)) (yEi (Nat.lt_succ_self _))
 have I2:=L2.Inv.made (C:=C) I
 have vals:Vals (.ref (s.heap.objs.size+1)::vs) (Value.ref (s.heap.objs.size+1)::us):= .cons rfl r
 have hl:(Value.ref (s.heap.objs.size+1)::us).length=ps.length:=vals.length.symm.trans (F.len _ _ _ _ want)
 have b:=hb _ (Value.ref (s.heap.objs.size+1)::us) I2.kIn (by rw [yD3];exact hl)
 rw [yD3] at b
 have body:=F.run _ X.stack _ _ ⟨Value.ref (s.heap.objs.size+1)::us,[]⟩ (Value.ref (s.heap.objs.size+1)::us) _ _ (E σ) (hr.make C us []) (I2.env0.make C us []) b vals want
 refine wpAny_call (make_map (f:=f) I.kIn M.makes M.init (beq_iff_eq.mp M.fn) (codeAny_mono body fun res s' out=> ?_))
 match res,out with
 | .error e,out=>exact hx pins _ _ e s' I2 out
 | .ok (.ret u),out=>
  obtain ⟨v,H',I3,rv,rfl,q3⟩:=I2.after out
  exact ⟨rv,.ref (s.heap.objs.size+1),H',I3,rfl,q3⟩
 | .ok .next,out=>exact out.elim
 | .ok .brk,out=>exact out.elim
 | .ok .cont,out=>exact out.elim
theorem xVi (M:Mk X.K C f)(F:FnOk X.prog X.w X.K X.mg X.base CX k f fd ps sp)(hr:Room (k+1) X.A)(hg:Gl X x)(hm:X.mg x=some (.ref C))(hb:Binds X.K fd ps [])(hx: ∀ σ,PassesAt CX X σ (E σ))
  (ha:PA X (e::es) t) (hdb:(x==("__debug__":Str))=false:=by decide) (he:Pln X e es:=by rfl) (hpl:PlnR X pos es:=by rfl):PE X (.Call (.Name x p) (e::es) [] pos) (yCf C sp E t):=
 ⟨fun pins s σ H Q I h=>wpAny_Call_Name_kw (ld_glob I hg hm (PySem.W.callWith_K (h₀:=X.base) I.ok.mod.kin M.kp (thn (ha.run pos pins s σ H _ I h) fun us s1 ⟨vs,H1,I1,r,q⟩=>⟨I1.kIn,xRb M F hr hb (hx σ) I1 r q⟩) he hpl) hdb)⟩
def xV6 (C:Addr)(m:Str)(sp:Sp)(E:L2.St->XK)(ta:TE)(t:TA):TE:=fun σ H Q=>ta σ H fun x H1=> ∃ a dx fs,x= .ref a/\H1 a=some (.ins C dx fs)/\fs.lookup m=none/\
 t σ H1 fun vs H2=>sp (x::vs) H2 Q (E σ)
theorem xUf (he:PE X o ta)(c:Cls X.K C)(hm:Meth X.K C m f)(F:FnOk X.prog X.w X.K X.mg X.base CX k f fd ps sp)(hr:Room k X.A)(hb:Binds X.K fd ps [])(hx: ∀ σ,PassesAt CX X σ (E σ))(ha:PA X (e::es) t)
  (hst:Pln X e es:=by rfl) (hpl:PlnR X pos es:=by rfl) (ht:eval (.Call (.Attribute o m apos) (e::es) [] pos) X.env=xQ0 X pl o m apos pos (e::es):=by rfl):PE X (.Call (.Attribute o m apos) (e::es) [] pos) (xV6 C m sp E ta t):=by
 constructor
 intro pins s σ H Q I h
 refine PySem.W.methodCall_KW (pl:=pl) (thn (he.run pins s σ H _ I h) fun u s1 got=> ?_) ht
 obtain ⟨_,H1,I1,rx,a,dx,fs,rfl,ea,l,q⟩:=got
 obtain rfl:u= .ref a:=rx
 exact getmeth_ok I1 ea c hm l (PySem.W.callWith_K (first:=[.ref a]) (h₀:=X.base) I.ok.mod.kin hm.kp (thn (ha.run pos pins s1 σ H1 _ I1 q) fun us s2 ⟨vs,H2,I2,r,q2⟩=>⟨I2.kIn,run_fnS (us:= .ref a::us) (vs:= .ref a::vs) F hr hb (hx σ) I2 (.cons rfl r) q2⟩) hst hpl)
theorem xTj (he:PE X o ta)(c:Cls X.K C)(hm:Meth X.K C m f)(F:FnOk X.prog X.w X.K X.mg X.base CX k f fd ps sp)(hr:Room k X.A)(hb:Binds X.K fd ps [])(hx: ∀ σ,PassesAt CX X σ (E σ))
  (ht:eval (.Call (.Attribute o m apos) [] [] pos) X.env=xQ0 X pl o m apos pos []:=by rfl):PE X (.Call (.Attribute o m apos) [] [] pos) (xV6 C m sp E ta tNil):=by
 constructor
 intro pins s σ H Q I h
 refine PySem.W.methodCall_KW (pl:=pl) (thn (he.run pins s σ H _ I h) fun u s1 got=> ?_) ht
 obtain ⟨_,H1,I1,rx,a,dx,fs,rfl,ea,l,q⟩:=got
 obtain rfl:u= .ref a:=rx
 exact getmeth_ok I1 ea c hm l (PySem.W.callWith_K0 (first:=[.ref a]) I1.kIn hm.kp (run_fnS (us:=[.ref a]) (vs:=[.ref a]) F hr hb (hx σ) I1 (.cons rfl .nil) q))
end
structure ClsD (K:PySem.W.Frag)(κ:Ctx)(c:String):Prop where
 cls:Cls K (κ.cl c)
structure InitD (P:Program)(w:World)(K:PySem.W.Frag)(mg:Str->Option Value)(base:Heap)(κ:Ctx)(c:String)(x:Str)(k n:Nat)(ps:List Str)(fn:List D->FR)(f:Addr)(fd:FuncData):Prop where
 ok:FnOk P w K mg base (L2N.CX P w) k f fd ps (spIn κ c n fn)
 gl:mg x=some (.ref (κ.cl c))
 mak:Mk K (κ.cl c) f
structure MethD (P:Program)(w:World)(K:PySem.W.Frag)(mg:Str->Option Value)(base:Heap)(κ:Ctx)(c:String)(m:Str)(k:Nat)(ps:List Str)(fn:List SD->FR)(f:Addr)(fd:FuncData):Prop where
 ok:FnOk P w K mg base (L2N.CX P w) k f fd ps (spF κ ps.length fn)
 cls:Cls K (κ.cl c)
 at_:Meth K (κ.cl c) m f
section
variable {κ:Ctx}{B:Bas}{ρ:List SD}{σ:L2.St}{H G:Hp}{x dx:Addr}{c:String}
theorem xLz (o:Ok κ B ρ σ H G)(hx:H x=none)(hd:H dx=none)(ne:dx≠x)(af:AftI κ G (upd (upd H dx (.own x)) x (.ins (κ.cl c) dx [])) x H' G'):Ok κ B ρ σ H' G':=by
 have old: ∀ {a:Addr} {u:HO},H a=some u->upd (upd H dx (.own x)) x (.ins (κ.cl c) dx []) a=some u/\a≠x:=fun {a u} e=>by
  have h1:a≠x:=ne_of_none e hx
  have h2:a≠dx:=ne_of_none e hd
  exact ⟨by rw [upd_ne h1,upd_ne h2];exact e,h1⟩
 refine ⟨⟨fun a u e n=> ?_,o.fr.nt,fun a e=> ?_,o.fr.sub.trans af.sub,af.gh,af.notb,af.tabs,o.fr.lent⟩,o.len,fun j d e=> ?_,fun j d e=> ?_,o.sep,o.anch⟩
 ·obtain ⟨h1,h2⟩:=old (o.fr.keep a u e n)
  exact af.keep a u h1 h2 n
 ·obtain ⟨u,_,n,e2⟩:=o.fr.obj e
  obtain ⟨h1,h2⟩:=old e2
  exact (af.frz a (by rw [xDm h1 n];exact fun z=>nomatch z) h2).trans (o.fr.frz a e)
 ·obtain ⟨v,h1,h2⟩:=o.val j d e
  exact ⟨v,h1,Rep.mono (.of af.sub) d h2⟩
 ·obtain ⟨q,q1,q2,q3,q4⟩:=o.own j d e
  obtain ⟨u,u1,u2,_⟩:=q4.obj
  obtain ⟨h1,h2⟩:=old u1
  exact ⟨q,q1,(af.frz q (by rw [xDm h1 u2];exact fun z=>nomatch z) h2).trans q2,q3,q4.mono af.sub ((af.keep q u h1 h2 u2).trans u1.symm)⟩
end
section
variable {X:Cx}{κ:Ctx}{W:WX}{k k' n:Nat}{f:Addr}{fd:FuncData}{ps:List Str}{fn:List D->FR}{fs:List SD->FR}{x m fl:Str}{p pos apos:Pos}{e o:Expr}{es:List Expr}{a:M (List D)}{mo:M SD}{c:String}
theorem yBw (I:InitD X.prog X.w X.K X.mg X.base κ c x k n ps fn f fd)(hb:Binds X.K fd ps [])(hr:Room k' X.A)(hk:k+1<=k')(hg:Gl X x)(hx:xKk X W)(ha:PA X (e::es) (tA κ W a))(hl: ∀ ρ ds ρ',a ρ= .ok ds ρ'->ds.length=n)(hdb:(x==("__debug__":Str))=false:=by decide)
  (he:starEach (e::es) X.env=(false,eval e X.env)::starEach es X.env:=by rfl) (hpl:(backTo pos (starEach es X.env)).any (·.1)=false:=by rfl):PE X (.Call (.Name x p) (e::es) [] pos) (tE κ W (xZs fn a)):=by
 refine PE.imp (xVi (E:=fun σ cls d H=>W cls d σ H) I.mak I.ok (hr.mono hk) hg I.gl hb hx ha hdb he hpl) fun σ H Q ⟨B,ρ,G,ok,q⟩=>⟨B,ρ,G,ok,?_⟩
 have q1:=Pst.bind q
 cases en:a ρ with
 | ex y ρ'=>
  rw [en] at q1
  exact q1
 | no=>
  rw [en] at q1
  exact q1
 | ok ds ρ'=>
  rw [en] at q1
  intro H1 G1 o1 s1 vs rs x dx hx hd ne
  have q2:Pst κ W B σ G1 (match fn ds with
   | .ok (.va d) _=> .ok (.va d) ρ'
   | .ex x _=> .ex x ρ'
   | _=> .no:Rs SD) fun r ρ' H' G'=> ∀ (v:V),RepR κ B ρ' σ H' G' r v->Q v H':=q1 H1 G1 o1 s1
  have gx:=o1.gnone hx
  have gd:=o1.gnone hd
  have sg:Same G1 (upd (upd H1 dx (.own x)) x (.ins (κ.cl c) dx [])):=fun b u e=>by
   have h1:b≠x:=ne_of_none e gx
   have h2:b≠dx:=ne_of_none e gd
   rw [upd_ne h1,upd_ne h2]
   exact o1.fr.gh b u e
  have old: ∀ {b:Addr} {u:HO},H1 b=some u->upd (upd H1 dx (.own x)) x (.ins (κ.cl c) dx []) b=some u:=fun {b u} e=>by
   rw [upd_ne (ne_of_none e hx),upd_ne (ne_of_none e hd)]
   exact e
  refine ⟨x,dx,vs,B.T,G1,ds,rfl,hl ρ ds ρ' en,rs,upd_same,gx,o1.nolend (o1.bnone hx),sg,o1.fr.notb,fun t ht=> ?_,fun b hb=> ?_,?_⟩
  ·obtain ⟨pp,t1,t2,t3⟩:=o1.fr.tabs t ht
   refine ⟨pp,old t1,t2,fun pos cv hc=> ?_⟩
   obtain ⟨cc,c1,c2⟩:=t3 pos cv hc
   exact ⟨cc,c1,old c2⟩
  ·obtain ⟨u,_,n,e2⟩:=o1.fr.obj (o1.fr.lent b hb)
   rw [xDm (old e2) n]
   exact fun z=>nomatch z
  ·cases ef:fn ds with
   | ok r outs=>
    rw [ef] at q2
    cases r with
    | va d=>exact fun H' G' af rv=>⟨rfl,q2 H' G' (xLz o1 hx hd ne af) af.sub _ rv⟩
    | _=>exact q2.elim
   | ex y outs=>
    rw [ef] at q2
    exact fun cls dd H' G' af rx=>q2 cls dd H' G' (xLz o1 hx hd ne af) af.sub rx
   | no=>
    rw [ef] at q2
    exact q2.elim
theorem xLb (hK:X.K=κ.K)(hc:Cls κ.K (κ.cl c))(hn:NoAttr κ.K (κ.cl c) fl)(h:PE X o (tE κ W mo))(hb:attributeBase o fl X.env (eval o X.env)=eval o X.env:=by rfl):PE X (.Attribute o fl pos) (tE κ W (mFld c fl mo)):=by
 refine PE.imp (pe_fld h hb) fun σ H Q ⟨B,ρ,G,ok,q⟩=> ?_
 refine xBs ok (Pst.bind q) fun d ρ1 H1 G1 o1 s1 q1 v r=> ?_
 cases d with
 | ins b c' l=>
  dsimp only at q1
  by_cases hcc:c'=c
  ·rw [if_pos hcc] at q1
   subst hcc
   obtain ⟨z,hz,q2⟩:=Pst.opt q1
   obtain ⟨d,hd,rfl⟩:=yC4.mp hz
   obtain ⟨a,dx,vs,rfl,⟨h1,_⟩,h2⟩:=r
   obtain ⟨w,w1,w2⟩:=RepF.lkF h2 hd
   exact ⟨a,κ.cl c',dx,vs,w,rfl,o1.fr.gh _ _ h1,hK ▸ hc,hK ▸ hn,w1,q2 H1 G1 o1 (Same.refl G1) w w2⟩
  ·rw [if_neg hcc] at q1
   exact q1.elim
 | _=>exact q1.elim
theorem xSr: ∀ {ds:List D} {vs:List V},RepL κ T G ds vs->xFc κ T σ G (ds.map Ar.va) vs
 | [],vs,r=>r
 | d::ds,vs,r=>by
  obtain ⟨v,ws,e,r1,r2⟩:=r
  exact ⟨v,ws,e,r1,xSr r2⟩
theorem xO8 (ρ:List SD): ∀ ds:List D,xFp ρ (ds.map Ar.va)=some (ds.map SD.va)
 | []=>rfl
 | d::ds=>by
  show (getA ρ (.va d)).bind (fun x=>(xFp ρ (ds.map Ar.va)).bind fun xs=>some (x::xs))=_
  rw [xO8 ρ ds]
  rfl
theorem xOr: ∀ ds:List D,slots (ds.map Ar.va)=[]
 | []=>rfl
 | d::ds=>xOr ds
theorem xGv (ρ:List SD): ∀ (ds:List D) (os:List SD),xE5 ρ (ds.map Ar.va) os=ρ
 | [],os=>rfl
 | d::ds,os=>xGv ρ ds os.tail
theorem xTm (o:Ok κ B ρ σ H G)(r:RepL κ B.T G ds vs)(hl:ds.length=N)
  (q:Pst κ W B σ G ((fun ρ=>match fs (ds.map SD.va) with
   | .ok r _=> .ok r ρ
   | .ex x _=> .ex x ρ
   | .no=> .no:M SD) ρ) fun r ρ' H' G'=> ∀ v,RepR κ B ρ' σ H' G' r v->Q v H'):spF κ N fs vs H Q (fun cls d H=>W cls d σ H):=by
 obtain ⟨pre,back⟩:=xL3 o (as:=ds.map Ar.va) (dd:=[]) (by rw [xOr];exact yDu) (xO8 ρ ds) (xSr r) (show RepL κ B.T G [] [] from rfl)
 simp only [List.map_nil,yD3] at pre back
 refine ⟨B.T,G,ds.map SD.va,by rw [yC0];exact hl,pre,?_⟩
 cases ef:fs (ds.map SD.va) with
 | ok r outs=>
  simp only [ef] at q
  intro v H' G' af rv
  obtain ⟨b1,b2⟩:=back af
  rw [xGv] at b1
  have b3:=b2 rv
  rw [xGv] at b3
  exact q H' G' b1 af.sub v b3
 | ex y outs=>
  simp only [ef] at q
  intro cls d H' G' af rx
  obtain ⟨b1,b2⟩:=back af
  rw [xGv] at b1
  exact q cls d H' G' b1 af.sub rx
 | no=>
  simp only [ef] at q
  exact q.elim
theorem yCm (I:MethD X.prog X.w X.K X.mg X.base κ c m k ps fs f fd)(hb:Binds X.K fd ps [])(hr:Room k' X.A)(hk:k<=k')(hx:xKk X W)(h:PE X o (tE κ W mo))(ha:PA X (e::es) (tA κ W a))(hl: ∀ ρ ds ρ',a ρ= .ok ds ρ'->ds.length+1=ps.length)
  (hst:Pln X e es:=by rfl) (hpl:PlnR X pos es:=by rfl)
  (ht:eval (.Call (.Attribute o m apos) (e::es) [] pos) X.env=xQ0 X pl o m apos pos (e::es):=by rfl):PE X (.Call (.Attribute o m apos) (e::es) [] pos) (tE κ W (xIm c m fs mo a)):=by
 refine PE.imp (xUf (E:=fun σ cls d H=>W cls d σ H) h I.cls I.at_ I.ok (hr.mono hk) hb hx ha hst hpl ht) fun σ H Q ⟨B,ρ,G,ok,q⟩=> ?_
 refine xBs ok (Pst.bind q) fun d ρ1 H1 G1 o1 s1 q1 v r=> ?_
 unfold xYv at q1
 cases d with
 | ins b c' l=>
  dsimp only at q1
  by_cases hcc:c'=c/\l.lookup m=none
  ·rw [if_pos hcc] at q1
   obtain ⟨rfl,hno⟩:=hcc
   obtain ⟨ad,dx,vs,rfl,⟨h1,h0⟩,h2⟩:=r
   refine ⟨ad,dx,vs,rfl,o1.fr.gh _ _ h1,RepF.lkNone h2 hno,B,ρ1,G1,o1,?_⟩
   have q2:=Pst.bind q1
   cases ea:a ρ1 with
   | ex y ρ'=>
    rw [ea] at q2
    exact q2
   | no=>
    rw [ea] at q2
    exact q2
   | ok ds ρ2=>
    rw [ea] at q2
    intro H2 G2 o2 s2 ws rs
    exact xTm (ds:= .ins b c' l::ds) o2 ⟨_,ws,rfl,Rep.mono (.of s2) (.ins b c' l) ⟨ad,dx,vs,rfl,⟨h1,h0⟩,h2⟩,rs⟩ (by rw [yDa];exact hl ρ1 ds ρ2 ea) (q2 H2 G2 o2 s2)
  ·rw [if_neg hcc] at q1
   exact q1.elim
 | _=>exact q1.elim
theorem xXp (I:MethD X.prog X.w X.K X.mg X.base κ c m k ps fs f fd)(hb:Binds X.K fd ps [])(hr:Room k' X.A)(hk:k<=k')(hx:xKk X W)(h:PE X o (tE κ W mo))(hl:ps.length=1)
  (ht:eval (.Call (.Attribute o m apos) [] [] pos) X.env=xQ0 X pl o m apos pos []:=by rfl):PE X (.Call (.Attribute o m apos) [] [] pos) (tE κ W (xIm c m fs mo mNil)):=by
 refine PE.imp (xTj (E:=fun σ cls d H=>W cls d σ H) h I.cls I.at_ I.ok (hr.mono hk) hb hx ht) fun σ H Q ⟨B,ρ,G,ok,q⟩=> ?_
 refine xBs ok (Pst.bind q) fun d ρ1 H1 G1 o1 s1 q1 v r=> ?_
 unfold xYv at q1
 cases d with
 | ins b c' l=>
  dsimp only at q1
  by_cases hcc:c'=c/\l.lookup m=none
  ·rw [if_pos hcc] at q1
   obtain ⟨rfl,hno⟩:=hcc
   obtain ⟨ad,dx,vs,rfl,⟨h1,h0⟩,h2⟩:=r
   refine ⟨ad,dx,vs,rfl,o1.fr.gh _ _ h1,RepF.lkNone h2 hno,?_⟩
   exact xTm (ds:=[.ins b c' l]) o1 ⟨_,[],rfl,⟨ad,dx,vs,rfl,⟨h1,h0⟩,h2⟩,rfl⟩ hl.symm q1
  ·rw [if_neg hcc] at q1
   exact q1.elim
 | _=>exact q1.elim
def DLen (n:M (List D))(k:Nat):Prop:= ∀ ρ ds ρ',n ρ= .ok ds ρ'->ds.length=k
theorem xEi:DLen mNil 0:=fun ρ as ρ' h=>by cases h;rfl
theorem xCi {m:M SD}{n:M (List D)}{k:Nat}(h:DLen n k):DLen (xAc m n) (k+1):=fun ρ as ρ' e=>by
 unfold xAc M.bind at e
 cases e1:fE m ρ with
 | ok d ρ1=>
  rw [e1] at e
  cases e2:n ρ1 with
  | ok ds ρ2=>
   simp only [e2] at e
   cases e
   rw [yDa,h _ _ _ e2]
  | ex x ρ2=>simp only [e2] at e;cases e
  | no=>simp only [e2] at e;cases e
 | ex x ρ1=>rw [e1] at e;cases e
 | no=>rw [e1] at e;cases e
end
end Fm
namespace PySem
open Sem (wp)
section
variable {prog:Program}{w:World}{A:Around}{s:Shared}{E:Value->Shared->Prop}
end
end PySem
namespace Fm
open L2 PySem PySem.Spec PyProof.Rows
def rSumS (K:PySem.W.Frag):List V->List V->Hp->VK->Prop:=fun vs zs H Q=> ∃ (a:Addr) (ns:List Int),vs=[V.ref a]/\zs=[V.int 0]/\SqL K H a (ns.map V.int)/\Q (.int ns.sum) H
def mSumS (n m:M (List D)):M SD:=n.bind fun ds=>m.bind fun zs=>M.opt (match zs with
 | [.int 0]=>sumD ds
 | _=>none)
def rvrM:List D->M (List D)
 | [.int j]=>if -(2 ^ 62)<=j/\j<2 ^ 62 then M.ret (rngD 0 j.toNat).reverse else M.no
 | _=>M.no
def iRvr (n:M (List D)):M (List D):=n.bind rvrM
def clsB (K:PySem.W.Frag)(C:Addr):Bool:=PySem.W.plainGet K C Str.empty&&(PySem.W.hasDictIn K C&&(PySem.W.plainOver K C&&decide (PySem.W.findIn K (.ref C) "__setattr__"=some (some (.builtin "object.__setattr__")))))
def noaB (K:PySem.W.Frag)(C:Addr)(f:Str):Bool:=decide (PySem.W.findIn K (.ref C) f=some none)
def metB (K:PySem.W.Frag)(C:Addr)(m:Str)(f:Addr):Bool:=decide (PySem.W.findIn K (.ref C) m=some (some (.ref f)))
def makB (K:PySem.W.Frag)(C f:Addr):Bool:=PySem.W.makesIn K C&&(decide (PySem.W.findIn K (.ref C) "__init__"=some (some (.ref f)))&&PySem.W.keepIn K (.ref C))
def xZ8 (K:PySem.W.Frag):R2:=fun x y H Q=> ∃ a b ys,x= .ref a/\y= .ref b/\SqT K H a []/\SqT K H b ys/\Q (.ref b) H
theorem xW9:OpR X (binaryOp .Add) (xZ8 X.K):=by
 rintro pins s σ H x y v u Q I rx ry ⟨a,b,ys,rfl,rfl,ha,hb,q⟩
 cases rx
 cases ry
 obtain ⟨its,r1,ht,_⟩:=I.tuple ha
 obtain ⟨its2,r2,hb2,_⟩:=I.tuple hb
 obtain rfl:=r1.nil_iff.mpr rfl
 obtain ⟨⟨_,d1,_,l1⟩,o1,rfl,n1,rfl⟩:=ht
 obtain ⟨⟨_,d2,_,l2⟩,o2,rfl,n2,rfl⟩:=hb2
 have same:=tuple_addW0 a b #[] its2.toArray n1 n2 d1 d2 l1 l2 (by simp)
 exact concat_meets ⟨_,o1,rfl⟩ ⟨_,o2,rfl⟩ noFill_tuple_add seq_tuple_add F.slot_tuple_add F.entry_tuple_add (F.args_tuple_add_2 _ _) same ⟨o1,o2,.ref b,H,I,rfl,q⟩
def xBo:D->D->Option SD
 | .tup [],.tup m=>some (.va (.tup m))
 | d,e=>addD d e
abbrev yB8 (K:PySem.W.Frag):R2:=fun x y H Q=>(rI0 (fun i j=> .int (i+j)) x y H Q\/((fun x y H Q=> ∃ i j,x= .str i/\y= .str j/\i.length+j.length<=sizeLine/\Q (.str (i++j)) H) x y H Q\/(rCatT K x y H Q\/rCat x y H Q)))\/xZ8 K x y H Q
theorem xA1:OpR X (binaryOp .Add) (yB8 X.K):=xXt.or xW9
theorem xA2:OpD κ (yB8 κ.K) xBo:=by
 intro B ρ σ H G d e x y z Q o r1 r2 hz q
 unfold xBo at hz
 split at hz
 ·rename_i m
  cases hz
  obtain ⟨p,vs,rfl,h1,h2⟩:=r1
  obtain ⟨p',ws,rfl,h3,h4⟩:=r2
  cases (show vs=[] from h2)
  exact .inr ⟨p,p',ws,rfl,rfl,h1.sq o.fr.gh,h3.sq o.fr.gh,q _ H G o (Same.refl G) ⟨p',ws,rfl,h3,h4⟩⟩
 ·exact .inl (yBr B ρ σ H G d e x y z Q o r1 r2 hz q)
section
variable {p:SD->Prop}
theorem xQo (h:p (.va (.int (a+b)))):Ow (xBo (.int a) (.int b)) p:=⟨_,rfl,h⟩
theorem xSb (h:p (.va (.str (a++b))))(g:a.length+b.length<=1000000):Ow (xBo (.str a) (.str b)) p:=⟨_,if_pos g,h⟩
theorem xSk (h:p (.ow (.lst false (l++m))))(g:l.length+m.length<=1000000):Ow (xBo (.lst x l) (.lst y m)) p:=⟨_,if_pos g,h⟩
theorem xQ8 (h:p (.va (.tup (l++m))))(g:l.length+m.length<=1000000):Ow (xBo (.tup l) (.tup m)) p:=by
 cases l with
 | nil=>exact ⟨_,rfl,h⟩
 | cons a l=>exact ⟨_,if_pos g,h⟩
end
section
variable {X:Cx}{κ:Ctx}{W:WX}{k k' n:Nat}{f:Addr}{fd:FuncData}{ps:List Str}{fn:List D->FR}{fs:List SD->FR}{x m fl:Str}{p pos apos:Pos}{e o:Expr}{es:List Expr}{a:M (List D)}{mo:M SD}{c:String}
theorem xG8 (I:MethD X.prog X.w X.K X.mg X.base κ c m k ps fs f fd)(hb:Binds X.K fd ps [])(hr:Room k' X.A)(hk:k<=k')(hx:xKk X W)(h:PE X o (tE κ W mo))(ha:PA X (e::es) (tA κ W a))(hl:DLen a n)(hn:n+1=ps.length)
  (hst:Pln X e es:=by rfl) (hpl:PlnR X pos es:=by rfl)
  (ht:eval (.Call (.Attribute o m apos) (e::es) [] pos) X.env=xQ0 X pl o m apos pos (e::es):=by rfl):PE X (.Call (.Attribute o m apos) (e::es) [] pos) (tE κ W (xIm c m fs mo a)):=
 yCm I hb hr hk hx h ha (fun ρ ds ρ' e=>by rw [hl ρ ds ρ' e];exact hn) hst hpl ht
end
section
variable {α β γ:Type}{ρ:List SD}{E:Exn->List SD->Prop}{p:SD->List SD->Prop}{pl:List D->List SD->Prop}{s:Fl->List SD->Prop}{c0:String}{f mt:Str}{i:Nat}
theorem xWh {fn:List D->FR}(h:Wp n ρ (fun ds ρ'=>Fw (fn ds) (fun r _=> ∃ d,r= .va d/\p (.va d) ρ') fun x _=>E x ρ') E):Wp (xZs fn n) ρ p E:=xAm (h.mono (fun ds ρ' h=>by
 refine ⟨?_⟩
 have h:=h.run
 cases e:fn ds with
 | ok r o=>
  rw [e] at h
  obtain ⟨d,rfl,h⟩:=h
  exact h
 | ex x o=>
  rw [e] at h
  exact h
 | no=>
  rw [e] at h
  exact h) fun _ _ z=>z)
theorem yAt (h:Wp (fE m) ρ (fun d ρ'=> ∃ b l z,d= .ins b c0 l/\l.lookup f=some z/\p (.va z) ρ') E):Wp (mFld c0 f m) ρ p E:=xAm (h.mono (fun d ρ' h=>by
 obtain ⟨b,l,z,rfl,e,h⟩:=h
 refine ⟨?_⟩
 simp only [if_true,e]
 exact h) fun _ _ z=>z)
theorem xV9 {fn:List SD->FR}(h:Wp (fE m) ρ (fun d ρ1=> ∃ b l,d= .ins b c0 l/\l.lookup mt=none/\Wp n ρ1 (fun ds ρ2=>Fw (fn (.va (.ins b c0 l)::ds.map SD.va)) (fun r _=>p r ρ2) fun x _=>E x ρ2) E) E):Wp (xIm c0 mt fn m n) ρ p E:=xAm (h.mono (fun d ρ' h=>by
 obtain ⟨b,l,rfl,e,h⟩:=h
 show Wp (if c0=c0/\l.lookup mt=none then _ else _) ρ' p E
 rw [if_pos ⟨rfl,e⟩]
 refine xAm (h.mono (fun ds ρ2 h=> ?_) fun _ _ z=>z)
 refine ⟨?_⟩
 have h:=h.run
 cases e:fn (.va (.ins b c0 l)::ds.map SD.va) with
 | ok r o=>
  rw [e] at h
  exact h
 | ex x o=>
  rw [e] at h
  exact h
 | no=>
  rw [e] at h
  exact h) fun _ _ z=>z)
theorem xA8 {q:α->List SD->Prop}(e:ρ[i]? =some (.ow (.ins b c l)))(h:Wp m (ρ.set i .un) (fun a ρ'=>q a (ρ'.set i (.ow (.ins b c l)))) fun x ρ'=>E x (ρ'.set i (.ow (.ins b c l)))):Wp (xC1 i m) ρ q E:=by
 refine ⟨?_⟩
 unfold xC1
 rw [e]
 dsimp only
 have h:=h.run
 cases e2:m (ρ.set i .un) with
 | ok a ρ'=>
  rw [e2] at h
  exact h
 | ex x ρ'=>
  rw [e2] at h
  exact h
 | no=>
  rw [e2] at h
  exact h
theorem xHx {nb:α->Bool}{q:α->List SD->Prop}(e:ρ[i]? =some (.ow (.ins b c l)))(h:Wp m (ρ.set i (.va (.ins true c l))) (fun a ρ'=>((ρ'.set i .un).all SD.nbS&&nb a)=true/\q a (ρ'.set i (.ow (.ins b c l)))) fun x ρ'=>((ρ'.set i .un).all SD.nbS&&nbF x.fs)=true/\E x (ρ'.set i (.ow (.ins b c l)))):Wp (xF1 i nb m) ρ q E:=by
 refine ⟨?_⟩
 unfold xF1
 rw [e]
 dsimp only
 have h:=h.run
 cases e2:m (ρ.set i (.va (.ins true c l))) with
 | ok a ρ'=>
  rw [e2] at h
  simp only [if_pos h.1]
  exact h.2
 | ex x ρ'=>
  rw [e2] at h
  simp only [if_pos h.1]
  exact h.2
 | no=>
  rw [e2] at h
  exact h
theorem xHf (h:Wp m ρ (fun r ρ'=> ∃ b l d,ρ'[i]? =some (.ow (.ins b c0 l))/\l.length<1000/\ownD r=some d/\s .nx (ρ'.set i (.ow (.ins b c0 (xBy f d l))))) E):Wp (oSet i c0 f m) ρ s E:=xAm (h.mono (fun r ρ' h=>by
 obtain ⟨b,l,d,e1,hl,e2,h⟩:=h
 refine ⟨?_⟩
 unfold xZd
 simp only [e1,true_and,if_pos hl,e2]
 exact h) fun _ _ z=>z)
theorem yCg (e:ρ[i]? =some (.ow (.ins b c0 l)))(e2:l.lookup f=some (.lst true m0))(e3:nbL m0=true)(h:Wp n ρ (fun ds ρ'=> ∃ b l m d,ρ'[i]? =some (.ow (.ins b c0 l))/\l.lookup f=some (.lst true m)/\ds=[d]/\(m.length<1000000/\nbL m=true/\d.nb=true)/\p (.va .non) (ρ'.set i (.ow (.ins b c0 (xBy f (.lst true (m++[d])) l))))) E):Wp (oApp i c0 f n) ρ p E:=by
 refine ⟨?_⟩
 unfold oApp xFe
 simp only [e,e2]
 rw [if_pos ⟨trivial,e3⟩]
 refine Wp.run (E:=E) (p:=p) ?_
 refine xAm (p:=p) (h.mono (fun ds ρ' h=> ?_) fun _ _ z=>z)
 obtain ⟨b,l,m,d,h1,h2,rfl,h3,h⟩:=h
 refine ⟨?_⟩
 unfold xU1
 simp only [h1,h2,if_pos h3]
 exact h
theorem xSj (h:Wp (fE me) ρ (fun d ρ1=> ∃ b l m,ρ1[i]? =some (.ow (.ins b c0 l))/\l.lookup f=some (.dk true m)/\nbK m=true/\Wp (xC1 i (fE mk)) ρ1 (fun k ρ2=> ∃ b l m j,ρ2[i]? =some (.ow (.ins b c0 l))/\l.lookup f=some (.dk true m)/\xCy k=some j/\(m.length<1000000/\nbK m=true/\d.nb=true)/\s .nx (ρ2.set i (.ow (.ins b c0 (xBy f (.dk true (xB3 m j d)) l))))) E) E):Wp (oPut i c0 f mk me) ρ s E:=by
 unfold oPut fO
 refine xAm (p:=s) (Wp.mono (show Wp (me.bind fzM) ρ _ E from h) (fun d ρ1 h=> ?_) fun _ _ z=>z)
 obtain ⟨b,l,m,h1,h2,h3,h⟩:=h
 refine ⟨?_⟩
 unfold xFe
 simp only [h1,h2]
 rw [if_pos ⟨trivial,h3⟩]
 refine Wp.run (E:=E) (p:=s) ?_
 refine xAm (p:=s) (h.mono (fun k ρ2 h=> ?_) fun _ _ z=>z)
 obtain ⟨b,l,m,j,g1,g2,g3,g4,h⟩:=h
 refine ⟨?_⟩
 unfold xYx
 simp only [g1,g2,g3,if_pos g4]
 exact h
theorem xXr (h:Wp (xF1 i D.nb (fE m)) ρ (fun d ρ'=> ∃ b l,d.seq=some (b,l)/\pl l ρ') E):Wp (xYa i m) ρ pl E:=xAm (h.mono (fun d ρ' h=>by
 obtain ⟨b,l,e,h⟩:=h
 cases d with
 | lst b' l'=>
  cases e
  exact ⟨h⟩
 | tup l'=>
  cases e
  exact ⟨h⟩
 | _=>cases e) fun _ _ z=>z)
theorem xMw {q:SD->List SD->Prop}{Ex:Exn->List SD->Prop}(h:Wp b (.ow (.ins false c [])::(as.map SD.va++yDg (N-1-as.length) SD.un)) (fun f ρ'=>(f= .nx\/f= .rt (.va .non))/\ ∃ b c l,ρ'[0]? =some (.ow (.ins b c l))/\q (.va (.ins false c (fzFl l))) []) fun x _=>Ex x []):Fw (runI c N b as) q Ex:=by
 refine ⟨?_⟩
 unfold runI
 have h:=h.run
 cases e:b (.ow (.ins false c [])::(as.map SD.va++yDg (N-1-as.length) SD.un)) with
 | ok f ρ'=>
  rw [e] at h
  obtain ⟨hf,b',c',l,e1,hq⟩:=h
  have ee:endI ρ'= .ok (.va (.ins false c' (fzFl l))) []:=by
   unfold endI
   rw [e1]
  rcases hf with rfl|rfl
  ·dsimp only
   rw [ee]
   exact hq
  ·dsimp only
   rw [ee]
   exact hq
 | ex x ρ'=>
  rw [e] at h
  exact h
 | no=>
  rw [e] at h
  exact h.elim
end
section
variable {ρ:List SD}{E:Exn->List SD->Prop}{p:SD->List SD->Prop}{q:D->List SD->Prop}
theorem xWr (e:ρ[i]? =some (.ow (.dk b l)))(h:p (.va (.dk false l)) (ρ.set i (.va (.dk false l)))):Wp (mVar i) ρ p E:=by
 refine ⟨?_⟩
 unfold mVar
 rw [e]
 exact h
theorem yB7 (h:q (.dk false l) ρ):Wp (fzM (.ow (.dk b l))) ρ q E:=⟨h⟩
end
theorem xUr (l:List (Key×D))(k:Key)(d:D)(k':Key):getK (l.map fun kv=>if kv.1=k then (kv.1,d) else kv) k'=if k'=k then (if (l.any fun kv=>decide (kv.1=k))=true then some d else none) else getK l k':=by
 induction l with
 | nil=>
  split
  ·rfl
  ·rfl
 | cons p l ih=>
  rw [yD2,xB2,ih,yEu,xB2]
  by_cases h:p.1=k
  ·rw [if_pos h]
   by_cases g:k'=k
   ·rw [if_pos g,if_pos g,if_pos (by rw [h,g]),if_pos (by rw [decide_eq_true h];rfl)]
   ·rw [if_neg g,if_neg g,if_neg (fun z:p.1=k'=>g (z ▸ h)),if_neg (fun z:p.1=k'=>g (z ▸ h))]
  ·rw [if_neg h,decide_eq_false h,Bool.false_or]
   by_cases g:k'=k
   ·rw [if_pos g,if_neg (fun z:p.1=k'=>h (z.trans g)),if_pos g]
   ·rw [if_neg g,if_neg g]
theorem xUe (l:List (Key×D))(k:Key)(d:D)(k':Key)(h:(l.any fun kv=>decide (kv.1=k))=false):getK (l++[(k,d)]) k'=if k'=k then some d else getK l k':=by
 induction l with
 | nil=>
  rw [List.nil_append,xB2]
  by_cases g:k'=k
  ·rw [if_pos g,if_pos g.symm]
  ·rw [if_neg g,if_neg fun z=>g z.symm]
 | cons p l ih=>
  rw [yEu,Bool.or_eq_false_iff] at h
  rw [List.cons_append,xB2,ih h.2,xB2]
  by_cases g:k'=k
  ·rw [if_pos g,if_pos g,if_neg (by rw [g];exact of_decide_eq_false h.1)]
  ·rw [if_neg g,if_neg g]
theorem xN7 (l:List (Key×D))(k:Key)(d:D)(k':Key):getK (xB3 l k d) k'=if k'=k then some d else getK l k':=by
 unfold xB3
 split
 ·rename_i h
  rw [xUr,if_pos h]
 ·rename_i h
  exact xUe l k d k' (Bool.eq_false_iff.mpr h)
theorem xDj (l:List (Key×D))(k:Key)(d:D):(xB3 l k d).length<=l.length+1:=by
 unfold xB3
 split
 ·rw [yC0]
  omega
 ·rw [yDl]
  exact yDp _
theorem xFk (h:p∈xB3 l k d):p∈l\/p=(k,d):=by
 unfold xB3 at h
 split at h
 ·obtain ⟨q,h1,h2⟩:=yDi.mp h
  by_cases z:q.1=k
  ·rw [if_pos z] at h2
   rw [<- h2,z]
   exact .inr rfl
  ·rw [if_neg z] at h2
   rw [<- h2]
   exact .inl h1
 ·rcases yEa.mp h with z|z
  ·exact .inl z
  ·exact .inr (yDr.mp z)
theorem xFi (h:getK l k=some d):(k,d)∈l:=by
 induction l with
 | nil=>cases h
 | cons p l ih=>
  rw [xB2] at h
  by_cases z:p.1=k
  ·rw [if_pos z] at h
   cases h
   rw [<- z]
   exact yC2 ..
  ·rw [if_neg z] at h
   exact .tail _ (ih h)
theorem xKb (h:(k,d)∈l):(getK l k).isSome=true:=by
 induction l with
 | nil=>cases h
 | cons p l ih=>
  rw [xB2]
  by_cases z:p.1=k
  ·rw [if_pos z]
   rfl
  ·rw [if_neg z]
   rcases inC h with e|h
   ·rw [<- e] at z
    exact absurd rfl z
   ·exact ih h
theorem xJt: ∀ {l:List (Key×D)},(∀ p∈l,∃ s,p.1= .inr s)-> ∃ ks,xEa l=some ks/\ks.length=l.length/\ ∀ s,s∈ks ↔ ∃ d,((.inr s:Key),d)∈l
 | [],_=>⟨[],rfl,rfl,fun s=>⟨(fun h=>by cases h),fun ⟨d,h⟩=>by cases h⟩⟩
 | (k,d)::l,h=>by
  obtain ⟨s,e⟩:=h (k,d) (yC2 ..)
  cases (show k= .inr s from e)
  obtain ⟨ks,h1,h2,h3⟩:=xJt fun p hp=>h p (yC8 _ hp)
  refine ⟨s::ks,?_,by rw [yDa,yDa,h2],fun s'=> ?_⟩
  ·show (xEa l).map (s:: ·)=_
   rw [h1]
   rfl
  ·rw [yDo,h3]
   constructor
   ·rintro (rfl|⟨d',h⟩)
    ·exact ⟨d,yC2 ..⟩
    ·exact ⟨d',yC8 _ h⟩
   ·rintro ⟨d',h⟩
    rcases inC h with e|h
    ·cases e
     exact .inl rfl
    ·exact .inr ⟨d',h⟩
theorem xCg:s∈ssort l ↔ s∈l:=(xF7 l).mem_iff
theorem xCv (l:List Str):(ssort l).length=l.length:=(xF7 l).length_eq
end Fm
set_option maxHeartbeats 390000
namespace Fm
open PySem PySem.W PySem.Calls PyProof.Rows PySem.HandSPX
theorem xGg: ∀ m:List Value,xB5 m=true->(∃ c n,m= .ref c::n/\xB5 n=true)\/m=xKt:=by
 intro m h
 cases m with
 | nil=>exact absurd h (by decide)
 | cons a n=>cases a <;> first|exact .inl ⟨_,_,rfl,h⟩|exact .inr (beq_iff_eq.mp h)
theorem xM2 (me:Value):refuseLoop me "__setattr__" xKt=pure ():=by kernel_rfl
theorem xH3 (me:Value): ∀ m:List Value,xB5 m=true->refuseLoop me "__setattr__" m=pure ()
 | [],h=>absurd h (by decide)
 | a::n,h=>by
  rcases xGg _ h with ⟨c,n',w,h'⟩|w
  ·injection w with w1 w2
   subst w1 w2
   exact (refuseLoop_ref _ _ _ _).trans (xH3 me _ h')
  ·rw [w]
   exact xM2 me
theorem xGa (Y:String): ∀ m:List Value,xB5 m=true->m.contains (.type Y)=xKt.contains (.type Y)
 | [],h=>absurd h (by decide)
 | a::n,h=>by
  rcases xGg _ h with ⟨c,n',w,h'⟩|w
  ·injection w with w1 w2
   subst w1 w2
   rw [List.contains_cons,xGa Y _ h']
   rfl
  ·rw [w]
theorem xN9 (h:xB5 m=true)(e:xKt.contains (.type Y)=b):(Value.ref C::m).contains (.type Y)=b:=by
 rw [List.contains_cons,xGa Y m h,e]
 rfl
theorem xMi (h:xB5 m=true):m.isEmpty=false:=by
 cases m with
 | nil=>exact absurd h (by decide)
 | cons _ _=>rfl
section
open Builtin.ObjectAttr Builtin
variable {prog:Program}{w:World}{Ar:Around}{Er:Value->Shared->Prop}{Re:Result->Shared->Prop}{hp:Heap}{gs:Array GenState}{dr:Drawn}{tk:Nat}{os:OsState}
variable {nm qn:Str}{C NS:Addr}{bs bm:List Value}{hd:Bool}{sn:List Str}{sub:List Value}{ab:Bool}{col:Option Bool}{dd:Option Addr}{k0 k1 k2 k3 k5:Option Value}
abbrev xS5 (nm qn:Str)(C NS:Addr)(bs bm:List Value)(hd:Bool)(sn:List Str)(sub:List Value)(ab:Bool)(col:Option Bool)(dd:Option Addr)(k0 k1 k2 k3 k5:Option Value):Obj:=
 excClassObj nm qn C NS bs bm hd sn sub ab col dd k0 k1 k2 k3 k5 "LookupError.__new__"
theorem xUl {M:Model}{rest:List Value}{Q:Unit->Shared->Prop}(hm:xB5 bm=true)(hC:hp.get? C=some (xS5 nm qn C NS bs bm hd sn sub ab col dd k0 k1 k2 k3 k5))
  (q:Q () ⟨hp,gs,dr,tk,os⟩):wpAny M Ar (checkBuiltinCall "LookupError.__new__" ⟨.ref C::rest,[]⟩) Q Er ⟨hp,gs,dr,tk,os⟩:=by
 have has:(Value.ref C::bm).contains (.type "LookupError")=true:=xN9 hm (by decide +kernel)
 have star:=F.excBase_LookupError.noStar
 simp only [checkBuiltinCall,F.excBase_LookupError.newKind,F.excBase_LookupError.newSplit,F.excBase_LookupError.newRow]
 repeat (first
  | refine wpAny_loadPart_at hC ?_
  | (refine wpAny_isSubtype_exc hC ?_;rw [has])
  | refine wpAny_staticBase_exc hC ?_
  | refine wpAny_madeBy_exc hC ?_
  | simp only [bne_self_eq_false,Bool.false_eq_true,if_false]
  | wp_step)
 exact q
theorem yAj (hm:xB5 bm=true)(hC:hp.get? C=some (xS5 nm qn C NS bs bm hd sn sub ab col dd k0 k1 k2 k3 k5))(fit:rest.length<=sizeLine)
  (q:Re (.ok (.ret (.ref (hp.objs.size+1)))) ⟨(hp.push (kdv_tup rest)).push (excO C hp.objs.size),gs,dr,tk,os⟩):
  codeAny (model prog w) Ar (.builtin "LookupError.__new__" ⟨.ref C::rest,[]⟩) Re ⟨hp,gs,dr,tk,os⟩:=by
 have ends:=F.excBase_LookupError.ends
 have c1:(Value.ref C::bm).contains (.type "LookupError")=true:=xN9 hm (by decide +kernel)
 have c2:(Value.ref C::bm).contains (.type "AttributeError")=false:=xN9 hm (by decide +kernel)
 have c3:(Value.ref C::bm).contains (.type "NameError")=false:=xN9 hm (by decide +kernel)
 refine codeAny_builtinAt F.excBase_LookupError.entry ?_
 unfold PySem.Builtin.«BaseException.__new__»
 refine PySem.wpAt_bind ?_
 show PySem.wpAt _ _ _ (stack >>= _) _ _ _
 refine PySem.wpAt_bind (PySem.wpAt_stack fun p below=>PySem.wpAt_of_wpAny ?_)
 wp_walk
 refine PySem.wpAt_of_wpAny ?_
 rw [F.excBase_LookupError.owner]
 repeat (first
  | with_reducible refine wpAny_madeHere_exc F.excBase_LookupError.canon hC ?_
  | with_reducible refine wpAny_loadPart_at hC ?_
  | (with_reducible refine wpAny_isSubtype_exc hC ?_;first|rw [c1]|rw [c2]|rw [c3])
  | wp_step)
 show Re _ _
 rw [Heap.size_push]
 exact q
theorem xZi {rest:List Value}{fI:Addr}(hm:xB5 bm=true)(hC:hp.get? C=some (xS5 nm qn C NS bs bm hd sn sub ab col dd k0 k1 k2 k3 k5))(fit:rest.length<=sizeLine)
  (li:Looks (model prog w) hp (typeLookup (.ref C) "__init__") (some (.ref fI))) (bi: ∀ me,Looks (model prog w) hp (bindSpecial (.ref fI) me) (.ref fI,[me]))
  (q:codeAny (model prog w) (Ar.under (.builtin "type.__call__" ⟨.ref C::rest,[]⟩)) (.call (.ref fI) ⟨.ref (hp.objs.size+1)::rest,[]⟩) (InitBack (hp.objs.size+1) Re)
   ⟨(hp.push (kdv_tup rest)).push (excO C hp.objs.size),gs,dr,tk,os⟩):
  codeAny (model prog w) Ar (.call (.ref C) ⟨rest,[]⟩) Re ⟨hp,gs,dr,tk,os⟩:=by
 have t1:=tc_lookup
 have t2:=tc_bind (.ref C)
 have ty:(⟨hp,gs,dr,tk,os⟩:Shared).TypeIs (.ref C) "type":=⟨_,hC,rfl⟩
 refine codeAny_of_tree ?_
 show wpAny (model prog w) _ (callAny (.ref C) _) _ _ _
 repeat (any_goals (first|assumption|(with_reducible refine wpAny_loadPart_at hC ?_)|wp_step))
 refine ⟨rfl,?_⟩
 refine codeAny_call_builtin_at (Code.quiet_builtin _ (by decide +kernel)) entry_typeCall (wpAny_check_type_call_sub hC ?_)
 show wpAny _ _ (Builtin.«type.__call__» ⟨.ref C::rest,[]⟩) _ _ _
 repeat (first|with_reducible refine wpAny_madeBy_exc hC ?_|with_reducible refine wpAny_loadPart_at hC ?_|wp_step)
 refine codeAny_call_builtin_code (Code.quiet_builtin _ F.excBase_LookupError.quiet) (xUl hm hC ?_)
 refine yAj hm hC fit ?_
 show wpAny _ _ _ _ _ _
 have grown: ∀ b o,hp.get? b=some o->((hp.push (kdv_tup rest)).push (excO C hp.objs.size)).get? b=some o:=fun b o e=>Heap.get?_push_of_some _ (Heap.get?_push_of_some _ e)
 have hC2:=grown _ _ hC
 have me:((hp.push (kdv_tup rest)).push (excO C hp.objs.size)).get? (hp.objs.size+1)=some (excO C hp.objs.size):=by heap_get
 have own:(Value.ref C::bm).contains (.ref C)=true:=by simp
 have li2:=li.keeps grown
 have bi2:=(bi (.ref (hp.objs.size+1))).keeps grown
 unfold isInstance
 repeat (first|with_reducible refine wpAny_loadPart_at me ?_|(with_reducible refine wpAny_isSubtype_exc hC2 ?_;rw [own])|wp_step)
 show wpAny (model prog w) _ (typeLookup (.ref C) _) _ _ _
 refine li2.at (wpAny_holding (wpAny_bind (bi2.at (wpAny_bind (wpAny_call (codeAny_mono q fun r s' z=> ?_))))))
 rcases r with er|(v|_|_|_) <;> first|exact z|exact z.elim|skip
 obtain ⟨rfl,z⟩:=z
 first
  | (refine wpAny_pure ?_;exact wpAny_pure z)
  | (wp_walk;exact z)
end
end Fm
namespace Fm
open PySem PySem.W PySem.Calls PyProof.Rows PySem.HandSPX
section
open Builtin.ObjectAttr Builtin
variable {prog:Program}{w:World}{Ar:Around}{Er:Value->Shared->Prop}{Re:Result->Shared->Prop}{hp:Heap}{gs:Array GenState}{dr:Drawn}{tk:Nat}{os:OsState}
theorem xPd {K:Frag}{f:Str}{tf:Tok}{v:Value}{x C:Addr}{od:Option Addr}{fv:Array Value}{cd:ClassData}
  (X:K.In hp) (hx:hp.get? x=some { cls:= .ref C,dict:=od,data:= .fields fv }) (I:InstAt hp x { cls:= .ref C,dict:=od,data:= .fields fv } C ob) (hcd:clsIn K C=some cd) (hm:xB5 cd.mro=true) (ha:findIn K (.ref C) f=some none)
  (q:wpAny (model prog w) (Ar.under (.builtin "object.__setattr__" ⟨[.ref x,.str f tf,v],[]⟩)) (storeInOwnDict (.ref x) (.ref C) (.str f tf) f v false)
   (fun fin s'=>match fin with
    | Fin.done r=>Re (Except.ok r) s'
    | Fin.again c'=>c'.quiet=true/\codeAny (model prog w) Ar c' Re s') (fun e s'=>Re (Except.error e) s') ⟨hp,gs,dr,tk,os⟩):
  codeAny (model prog w) Ar (.call (.builtin "object.__setattr__") ⟨[.ref x,.str f tf,v],[]⟩) Re ⟨hp,gs,dr,tk,os⟩:=by
 have obj:cd.mro.contains (.type "object")=true:=(xGa "object" _ hm).trans (by decide +kernel)
 have is:Looks (model prog w) hp (isInstance (.ref x) (.type "object")) true:=
  I.type.andThen (looks_mroIn X (by unfold mroIn;rw [hcd,Option.bind_some,if_neg (by rw [xMi hm];decide),obj]))
 have mr:Looks (model prog w) hp (mroOf (.ref C)) cd.mro:=(looks_clsIn X hcd).andThen .now
 have nt:Looks (model prog w) hp (storeTaker? none) none:= .now
 have Z:=F.store_object
 refine codeAny_call_builtin Z.slot.plain Z.entry (@check_slot (model prog w) _ _ ⟨hp,gs,dr,tk,os⟩ "object.__setattr__" "object" "__setattr__" (.ref x) [.str f tf,v] [] _ Z.kind Z.split is (Z.args (.ref x) (.str f tf) v) ?_)
 rw [osa_eq,refuse_eq]
 refine wpAny_bind (wpAny_bind (I.type.at (wpAny_bind (mr.at ?_))))
 rw [xH3 _ _ hm]
 exact wpAny_pure (wpAny_bind (I.type.at (wpAny_bind ((looks_findIn X ha).at (wpAny_bind (nt.at q))))))
theorem xPn {M:Model}{dx:Addr}{f:Str}{tf:Tok}{v:Value}{Q:PySem.Fin->Shared->Prop}(e:hp.Ns dx (fun _=>none))
  (q: ∀ h' tk',Heap.SameBut dx hp h'->h'.Ns1 dx (fun y=>if y=f then some v else none)->Q (.done (.ret .none)) ⟨h',gs,dr,tk',os⟩):wpAny M Ar (storeInDict dx (.str f tf) f v) Q Er ⟨hp,gs,dr,tk,os⟩:=
 PySem.HandSPX.store_in_new e fun h' tk' n s=>q h' tk' s n
theorem xUc {K:Frag}{f:Str}{tf:Tok}{v:Value}{x C:Addr}{fv:Array Value}{cd:ClassData}
  (X:K.In hp) (hx:hp.get? x=some { cls:= .ref C,data:= .fields fv }) (hcd:clsIn K C=some cd) (hm:xB5 cd.mro=true) (hh:cd.hasDict=true) (ha:findIn K (.ref C) f=some none)
  (q: ∀ h' tk' dx,hp.objs.size<=dx->dx≠x->(∀ b o,b≠x->hp.get? b=some o->h'.get? b=some o)->h'.get? x=some { cls:= .ref C,dict:=some dx,data:= .fields fv }->
   h'.Ns1 dx (fun y=>if y=f then some v else none)->Re (.ok (.ret .none)) ⟨h',gs,dr,tk',os⟩):
  codeAny (model prog w) Ar (.call (.builtin "object.__setattr__") ⟨[.ref x,.str f tf,v],[]⟩) Re ⟨hp,gs,dr,tk,os⟩:=by
 have cl:Looks (model prog w) hp (classData C) cd:=looks_clsIn X hcd
 have ne:x≠hp.objs.size:=yEi (Heap.lt_size hx)
 refine xPd (ob:=none) X hx ⟨hx,rfl,rfl,trivial⟩ hcd hm ha ?_
 cases cd with
 | mk nm bs mro ns qn hd sn sb ab col del=>
 dsimp only at hh
 subst hh
 unfold storeInOwnDict
 unfold ownDictForStores
 repeat (first|with_reducible refine xPn ?_ ?_|with_reducible refine wpAny_loadPart_at hx ?_|with_reducible refine cl.at ?_|wp_step)
 ·exact ⟨_,#[],_,(Heap.get?_update_ne _ _ _ _ ne.symm).trans (Heap.get?_push_at rfl rfl),rfl,fun e he=>absurd he (by simp),fun _=>rfl⟩
 ·intro h' tk' hs hn
  have hx2:(hp.push { cls:= .type "dict",data:= .dict #[] }).get? x=some { cls:= .ref C,data:= .fields fv }:=Heap.get?_push_of_some _ hx
  refine q h' tk' hp.objs.size (yDp _) ne.symm (fun b o hb ho=> ?_) ((hs.2 x ne).trans (Heap.get?_update_self _ hx2 rfl)) hn
  rw [hs.2 b (yEi (Heap.lt_size ho)),Heap.get?_update_ne _ _ _ _ hb]
  exact id (Heap.get?_push_of_some _ ho)
theorem xPq {M:Model}{dx:Addr}{f:Str}{tf:Tok}{v:Value}{m0:Str->Option Value}{Q:PySem.Fin->Shared->Prop}(hn:hp.Ns1 dx m0)(hw:Within m0 ns)(hz:ns.length<=1000)
  (q: ∀ h' tk',Heap.SameBut dx hp h'->h'.Ns1 dx (fun y=>if y=f then some v else m0 y)->Q (.done (.ret .none)) ⟨h',gs,dr,tk',os⟩):wpAny M Ar (storeInDict dx (.str f tf) f v) Q Er ⟨hp,gs,dr,tk,os⟩:=
 PySem.OEX.store_in_old hn hw hz fun h' tk' n s=>q h' tk' s n
theorem xXx {K:Frag}{f:Str}{tf:Tok}{v:Value}{x C dx:Addr}{fv:Array Value}{cd:ClassData}{m0:Str->Option Value}
  (X:K.In hp) (hx:hp.get? x=some { cls:= .ref C,dict:=some dx,data:= .fields fv }) (hns:hp.Ns1 dx m0) (hw:Within m0 nl) (hz:nl.length<=1000) (hcd:clsIn K C=some cd) (hm:xB5 cd.mro=true) (hh:cd.hasDict=true) (ha:findIn K (.ref C) f=some none)
  (q: ∀ h' tk',(∀ b o,b≠dx->hp.get? b=some o->h'.get? b=some o)->h'.Ns1 dx (fun y=>if y=f then some v else m0 y)->Re (.ok (.ret .none)) ⟨h',gs,dr,tk',os⟩):
  codeAny (model prog w) Ar (.call (.builtin "object.__setattr__") ⟨[.ref x,.str f tf,v],[]⟩) Re ⟨hp,gs,dr,tk,os⟩:=by
 have cl:Looks (model prog w) hp (classData C) cd:=looks_clsIn X hcd
 obtain ⟨oD,_,_,hD,_,_⟩:=hns.count hw
 refine xPd (ob:=some oD) X hx ⟨hx,rfl,rfl,hD⟩ hcd hm ha ?_
 cases cd with
 | mk nm bs mro ns qn hd sn sb ab col del=>
 dsimp only at hh
 subst hh
 unfold storeInOwnDict
 unfold ownDictForStores
 repeat (first|with_reducible refine xPq hns hw hz ?_|with_reducible refine wpAny_loadPart_at hx ?_|with_reducible refine cl.at ?_|wp_step)
 exact fun h' tk' hs hn=>q h' tk' (fun b o hb ho=>(hs.2 b hb).trans ho) hn
end
end Fm
namespace Fm
open L2 PySem PySem.Spec PyProof.Rows
structure OexK (K:PySem.W.Frag)(C:Addr):Prop where
 cls: ∃ nm q N bs bm sn sub ab col dd k0 k1 k2 k3 k5,K.lookup C=some (xS5 nm q C N bs bm true sn sub ab col dd k0 k1 k2 k3 k5)/\xB5 bm=true
 (sa:PySem.W.findIn K (.ref C) "__setattr__"=some (some (.builtin "object.__setattr__"))) (exC:PySem.W.subIn K (.ref C) (.type "BaseException")=some true) (tyC:PySem.W.typeIn K (.ref C)=some (.type "type")) (kC:PySem.W.keepIn K (.ref C)=true)
def yCl (nm q:Str)(C N:Addr)(bs bm:List Value)(sn:List Str)(sub:List Value)(ab:Bool)(col:Option Bool):ClassData:={ name:=nm,bases:=bs,mro:= .ref C::bm,ns:=N,qualname:=q,hasDict:=true,slotNames:=sn,subclasses:=sub,abstract:=ab,collection:=col,hasDel:=false }
theorem OexK.dat {K:PySem.W.Frag}{C:Addr}(T:OexK K C): ∃ cd,PySem.W.clsIn K C=some cd/\xB5 cd.mro=true/\cd.hasDict=true:=by
 obtain ⟨nm,qn,N,bs,bm,sn,sub,ab,col,dd,k0,k1,k2,k3,k5,hC,hbm⟩:=T.cls
 refine ⟨yCl nm qn C N bs bm sn sub ab col,?_,show xB5 (.ref C::bm)=true from hbm,rfl⟩
 unfold PySem.W.clsIn
 rw [hC]
 rfl
section
variable {X:Cx}{pins:List (Addr×Obj)}{σ:L2.St}{H:Hp}{s:Shared}{a C dx:Addr}{f:Str}{y:V}{u:Value}{fs:List (Str×V)}{Q:Unit->Shared->Prop}{E:Value->Shared->Prop}{Ar:Around}
theorem xVw (T:OexK X.K C)(I:Inv X pins σ H s)(e:H a=some (exo a C none))(no:PySem.W.findIn X.K (.ref C) f=some none)(ry:RelV y u)
  (q: ∀ d s',H d=none->d≠a->Inv X pins σ (upd (upd H d (exd d [(f,y)])) a (exo a C (some d))) s'->Q () s'):wpAny (model X.prog X.w) Ar (setAttr (.ref a) f u) Q E s:=by
 obtain ⟨cd,h1,h2,h3⟩:=T.dat
 obtain ⟨t0,ho⟩:=exo_at I.hok e
 obtain ⟨hp,gs,dr,tk,os⟩:=s
 refine PySem.W.set_plain I.kIn (ox:={ cls:= .ref C,dict:=none,data:= .fields #[.ref t0,.none,.none,.none,.bool false,.none] }) (od:=none) ⟨ho,rfl,rfl,trivial⟩ T.sa ?_
 refine xUc I.kIn ho h1 h2 h3 no fun h' tk' d dn dne k hx hn=> ?_
 have hnd:H d=none:=I.hok.fresh dn
 have nd: ∀ {b:Addr} {o:Obj},hp.get? b=some o->b≠d:=fun {b o} z=>yEi (Nat.lt_of_lt_of_le (Heap.lt_size z) dn)
 have nA: ∀ {b:Addr},H b=none->b≠a:=fun {b} n z=>by
  rw [z,e] at n
  exact nomatch n
 have keepU: ∀ {b:Addr} {o:HO},H b=some o->o≠exo a C none->upd (upd H d (exd d [(f,y)])) a (exo a C (some d)) b=some o:=fun {b o} z n=>by
  rw [upd_ne fun w=>n (yDc.inj (by rw [<- z,w,e])),upd_ne (ne_of_none z hnd),z]
 have U:Un X.fs [] H (upd (upd H d (exd d [(f,y)])) a (exo a C (some d))) hp h':={
  keep:=fun b o z n _ _=>k b o (nA n) z
  slot:=fun b o z n _ _=>⟨o.slots,k b o (nA n) z⟩
  free:=fun b o z n _=>(upd_ne (nA n)).trans ((upd_ne (nd z)).trans n)
  there:=fun b o z _=>by
   rcases Nat.decEq b a with hb|hb
   ·exact ⟨o,k b o hb z⟩
   ·exact ⟨_,hb ▸ hx⟩
  tups:=fun b xs z=>keepU z (Ne.symm exo_tup)
  frzs:=fun b o v z=>keepU z (Ne.symm exo_frz)
  tbls:=fun b ps z=>⟨#[],(keepU z (Ne.symm exo_tbl)).trans (by simp)⟩ }
 refine q d _ hnd dne (I.un (t':=tk') U fun b o z=> ?_)
 rcases Nat.decEq b a with hb|hb
 ·rw [upd_ne hb] at z
  rcases Nat.decEq b d with hd|hd
  ·rw [upd_ne hd] at z
   exact (I.hok b o z).stay (fun c v hc w=>k c v (by
     rcases hc with hc|hc
     ·exact hc ▸ hb
     ·exact at_ne e hc exo_own) w)
    (fun c hc=>keepU hc (Ne.symm exo_own)) (fun c xs hc=>keepU hc (Ne.symm exo_tup))
  ·subst hd
   rw [upd_same] at z
   cases z
   exact exd_ok hn (relO_put (fs:=[]) ry fun _=>True.intro)
 ·subst hb
  rw [upd_same] at z
  cases z
  exact exo_ok hx
theorem xUw (T:OexK X.K C)(I:Inv X pins σ H s)(e:H a=some (exo a C (some dx)))(ed:H dx=some (exd dx fs))(hl:fs.length<=900)(no:PySem.W.findIn X.K (.ref C) f=some none)(ry:RelV y u)
  (q: ∀ s',Inv X pins σ (upd H dx (exd dx ((f,y)::fs))) s'->Q () s'):wpAny (model X.prog X.w) Ar (setAttr (.ref a) f u) Q E s:=by
 obtain ⟨cd,h1,h2,h3⟩:=T.dat
 obtain ⟨t0,ho⟩:=exo_at I.hok e
 obtain ⟨mD,hns,rel⟩:=exd_at I.hok ed
 have hw:=within_of rel
 obtain ⟨hp,gs,dr,tk,os⟩:=s
 obtain ⟨oD,_,_,hD,_,_⟩:=hns.count hw
 refine PySem.W.set_plain I.kIn (ox:={ cls:= .ref C,dict:=some dx,data:= .fields #[.ref t0,.none,.none,.none,.bool false,.none] }) (od:=some oD) ⟨ho,rfl,rfl,hD⟩ T.sa ?_
 refine xXx I.kIn ho hns hw (by rw [yC0];omega) h1 h2 h3 no fun h' tk' k hn=> ?_
 have there: ∃ o,h'.get? dx=some o:=by
  obtain ⟨o,_,_,z,_⟩:=hn
  exact ⟨o,z⟩
 exact q _ (I.write (t':=tk') (x:=dx) (e:=dx) (o:=exd dx ((f,y)::fs)) (by rw [ed];exact True.intro) (.inl rfl) k there (exd_ok hn (relO_put ry rel)))
end
def tOsK (K:PySem.W.Frag)(f:Str)(to te:TE):TS:=fun D σ H=>te σ H fun y H1=>to σ H1 fun x H2=> ∃ a C:Addr,x= .ref a/\OexK K C/\PySem.W.findIn K (.ref C) f=some none/\
 ((H2 a=some (exo a C none)/\ ∀ d,H2 d=none->d≠a->D.nx σ (upd (upd H2 d (exd d [(f,y)])) a (exo a C (some d))))\/
  ∃ (dx:Addr) (fs:List (Str×V)),(H2 a=some (exo a C (some dx))/\H2 dx=some (exd dx fs))/\fs.length<=900/\D.nx σ (upd H2 dx (exd dx ((f,y)::fs))))
section
variable {X:Cx}{o e:Expr}{es:List Expr}{to te:TE}{ta:TA}{f:Str}{p p' pos:Pos}
theorem xWz (ho:PE X o to)(he:PE X e te)(hs:swapsWith e (some (.Attribute o f p')) pos.line X.env=pure false:=by rfl):PS X (.Assign [.Attribute o f p'] e pos) (tOsK X.K f to te):=by
 refine ⟨fun pins s σ H D I h=>plainObj_wpAny_Assign_Attribute (thn (he.run pins s σ H _ I h) fun v s1 ⟨y,H1,I1,r1,q1⟩=>thn (ho.run pins s1 σ H1 _ I1 q1) fun u s2 ⟨x,H2,I2,r2,a,C,ex,T,no,q⟩=> ?_) hs⟩
 subst ex
 have ru:u=Value.ref a:=r2
 subst ru
 rcases q with ⟨ea,q⟩|⟨dx,fs,⟨ea,ed⟩,hl,q⟩
 ·exact xVw T I2 ea no r1 fun dx s' n ne J=>⟨σ,_,J,q dx n ne⟩
 ·exact xUw T I2 ea ed hl no r1 fun s' J=>⟨σ,_,J,q⟩
theorem xZc {CX:CXT}{x:Str}{C fI:Addr}{k:Nat}{fd:FuncData}{ps:List Str}{sp:Sp}(T:OexK X.K C)(iC:PySem.W.findIn X.K (.ref C) "__init__"=some (some (.ref fI)))(tI:PySem.W.typeIn X.K (.ref fI)=some (.type "function"))
  (F1:FnOk X.prog X.w X.K X.mg X.base CX k fI fd ps sp) (hr:Room (k+1) X.A) (hb:Binds X.K fd ps []) (hx:Passes CX X (fun _ _ _=>False)) (hg:Gl X x) (hm:X.mg x=some (.ref C)) (ha:PA X (e::es) ta) (hdb:(x==("__debug__":Str))=false:=by decide)
  (he:starEach (e::es) X.env=(false,eval e X.env)::starEach es X.env:=by rfl)
  (hpl:(backTo pos (starEach es X.env)).any (·.1)=false:=by rfl):L2N.PMk X (.Call (.Name x p) (e::es) [] pos) (tMkO C sp [] ta):=by
 intro pins s σ H Q I h
 refine wpAny_Call_Name_kw (ld_glob I hg hm (PySem.W.callWith_K (h₀:=X.base) I.ok.mod.kin T.kC (thn (ha.run pos pins s σ H _ I h) fun us s1 ⟨vs,H1,I1,r1,hz,q1⟩=>⟨I1.kIn,?_⟩) he hpl) hdb)
 obtain ⟨nm,qn,N,bs,bm,sn,sub,ab,col,dd,k0,k1,k2,k3,k5,hC,hbm⟩:=T.cls
 obtain ⟨hp,gs,dr,tk,os⟩:=s1
 have free:H1 (hp.objs.size+1)=none:=I1.hok.fresh (yEh hp.objs.size)
 have ask:=q1 _ free
 have grown: ∀ b o,hp.get? b=some o->((hp.push (PySem.W.kdv_tup us)).push (PySem.HandSPX.excO C hp.objs.size)).get? b=some o:=fun b o e=>Heap.get?_push_of_some _ (Heap.get?_push_of_some _ e)
 have I2:=I1.laid (t':=tk) (a:=hp.objs.size+1) (o:=exo (hp.objs.size+1) C none) grown (yEh hp.objs.size) (exo_ok (t1:=hp.objs.size) (by heap_get))
 have both:Vals (V.ref (hp.objs.size+1)::(vs++[])) (Value.ref (hp.objs.size+1)::us):= .cons rfl (by rw [yD3];exact r1)
 have count:(Value.ref (hp.objs.size+1)::us).length=ps.length:=both.length.symm.trans (F1.len _ _ _ _ ask)
 have fit:us.length<=sizeLine:=by
  rw [sizeLine_eq,<- Paired.length r1]
  omega
 have run:=F1.run _ X.stack _ _ ⟨Value.ref (hp.objs.size+1)::us,[]⟩ (Value.ref (hp.objs.size+1)::us) _ _ (fun _ _ _=>False) (hr.make C us []) (I2.env0.make C us []) (by have z:=hb _ (Value.ref (hp.objs.size+1)::us) I2.kIn (by rw [yD3];exact count);rwa [yD3] at z) both ask
 refine wpAny_call (xZi hbm (I1.kIn _ _ hC) fit (PySem.W.looks_findIn I1.kIn iC) (fun me=>PySem.W.bind_fn I1.kIn me tI) (codeAny_mono run fun r s' back=> ?_))
 match r,back with
 | .error e,z=>exact hx pins σ _ _ e s' I2 z
 | .ok .next,z=>exact z.elim
 | .ok .brk,z=>exact z.elim
 | .ok .cont,z=>exact z.elim
 | .ok (.ret u),⟨v,H2,o2,b2,un,ok2,rv,ev,d,fs,ea,ed,hd,q2⟩=>
  subst ev
  exact ⟨rv,xS0 (raises_own T.exC T.tyC) I1 (yEh _) grown un ok2 o2 b2 ea ed hd q2⟩
end
def spK2 (K:PySem.W.Frag)(f z g:Str):Sp:=fun vs H Q E=> ∃ (a C:Addr) (y:V),vs=[.ref a,y]/\OexK K C/\PySem.W.findIn K (.ref C) f=some none/\PySem.W.findIn K (.ref C) g=some none/\H a=some (exo a C none)/\
 ∀ dx,H dx=none->dx≠a->Q .non (upd (upd (upd H dx (exd dx [(f,.str z)])) a (exo a C (some dx))) dx (exd dx [(g,y),(f,.str z)]))
theorem initK_ok {P:Program}{w:World}{K:PySem.W.Frag}{mg:Str->Option Value}{base:Heap}{qual f z g n:Str}{params:Arguments}{scope:Scope}{fI:Addr}{fd:FuncData}{p1 p2 p3 p4 p5 p6 p7 p8:Pos}{j:Nat}
  (F:FunD K "__init__" qual params [.Assign [.Attribute (.Name "self" p1) f p2] (.Constant (.str z) j p3) p4,.Assign [.Attribute (.Name "self" p5) g p6] (.Name n p7) p8] scope [] [] fI fd) (Sc:FnScope ["self",n] ["self",n] scope)
  (dn:(n==("__debug__":Str))=false:=by decide) (cn:(n==("__classdict__":Str))=false:=by decide):FnOk P w K mg base (L2N.CX P w) 1 fI fd ["self",n] (spK2 K f z g):=by
 refine F.ok Sc (fun vs H Q E ⟨a,C,y,e,_⟩=>by rw [e];rfl) fun cdv A outer s H vs Q E hr ⟨a,C,y,e,T,no,no2,ha,q⟩=> ?_
 subst e
 have v0:Vis scope "self":=(Sc.par _ (by simp)).imp id .inl
 have v1:Vis scope n:=(Sc.par _ (by simp)).imp id .inl
 refine ⟨_,pss_cons (xWz (pe_var (i:=0) rfl v0) pe_str) (pss_one (xWz (pe_var (i:=0) rfl v0) (pe_var (i:=1) rfl v1 dn cn))),?_⟩
 refine ⟨.ref a,rfl,a,C,rfl,T,no,.inl ⟨ha,fun dx hd ne=> ?_⟩⟩
 exact ⟨y,rfl,.ref a,rfl,a,C,rfl,T,no2,.inr ⟨dx,_,⟨upd_same,by rw [upd_ne ne,upd_same]⟩,by simp,q dx hd ne⟩⟩
structure ExK2 (P:Program)(w:World)(K:PySem.W.Frag)(mg:Str->Option Value)(base:Heap)(κ:Ctx)(x:Str)(c:String)(f z g n:Str)(fI:Addr)(fd:FuncData):Prop where
 T:OexK K (κ.cl c)
 no:PySem.W.findIn K (.ref (κ.cl c)) f=some none
 no2:PySem.W.findIn K (.ref (κ.cl c)) g=some none
 iC:PySem.W.findIn K (.ref (κ.cl c)) "__init__"=some (some (.ref fI))
 tI:PySem.W.typeIn K (.ref fI)=some (.type "function")
 ok:FnOk P w K mg base (L2N.CX P w) 1 fI fd ["self",n] (spK2 K f z g)
 bd:Binds K fd ["self",n] []
 gl:mg x=some (.ref (κ.cl c))
theorem xRi (h:xN6 C o=true): ∃ nm q N bs bm sn sub ab col dd k0 k1 k2 k3 k5,o=xS5 nm q C N bs bm true sn sub ab col dd k0 k1 k2 k3 k5/\xB5 bm=true:=by
 unfold xN6 at h
 split at h
 ·rename_i m dd cd k0 k1 k2 k3 n k5
  obtain ⟨h1,g1⟩:=and2 h
  obtain ⟨h2,g2⟩:=and2 g1
  obtain ⟨h3,g3⟩:=and2 g2
  obtain ⟨h4,g4⟩:=and2 g3
  clear h g1 g2 g3
  obtain ⟨nm,bs,mro,ns,qn,hd,sn,sb,abs,col,del⟩:=cd
  dsimp only at g4 h3 h4
  split at g4
  ·rename_i D tail
   obtain ⟨h5,h6⟩:=and2 g4
   have e1:=eq_of_beq h1
   have e2:=eq_of_beq h2
   have e5:=eq_of_beq h5
   have e4:del=false:=by simpa using h4
   subst e1 e2 e4 e5 h3
   exact ⟨nm,qn,ns,bs,tail,sn,sb,abs,col,dd,k0,k1,k2,k3,k5,rfl,h6⟩
  ·cases g4
 ·cases h
theorem xU5 {K:PySem.W.Frag}{C:Addr}(h:yCk K C=true):OexK K C:=by
 obtain ⟨h1,h⟩:=and2 h
 obtain ⟨h2,h⟩:=and2 h
 obtain ⟨h3,h⟩:=and2 h
 obtain ⟨h4,h5⟩:=and2 h
 refine ⟨?_,of_decide_eq_true h2,of_decide_eq_true h3,of_decide_eq_true h4,h5⟩
 cases e:K.lookup C with
 | none=>
  rw [e] at h1
  cases h1
 | some o=>
  rw [e] at h1
  obtain ⟨nm,q,N,bs,bm,sn,sub,ab,col,dd,k0,k1,k2,k3,k5,rfl,r⟩:=xRi (show xN6 C o=true from h1)
  exact ⟨nm,q,N,bs,bm,sn,sub,ab,col,dd,k0,k1,k2,k3,k5,rfl,r⟩
theorem xZk {K:PySem.W.Frag}{mg:Str->Option Value}{κ:Ctx}{x:Str}{c:String}{f z g n:Str}{fI:Addr}{fd:FuncData}(h:exKB K (κ.cl c) fI f=true)(h2:PySem.W.findIn K (.ref (κ.cl c)) g=some none)(gl:mg x=some (.ref (κ.cl c)))
  (ok:FnOk P w K mg base (L2N.CX P w) 1 fI fd ["self",n] (spK2 K f z g)) (bd:Binds K fd ["self",n] []):ExK2 P w K mg base κ x c f z g n fI fd:=by
 obtain ⟨g1,h⟩:=and2 h
 obtain ⟨g2,h⟩:=and2 h
 obtain ⟨g3,g4⟩:=and2 h
 exact ⟨xU5 g1,of_decide_eq_true g2,h2,of_decide_eq_true g3,of_decide_eq_true g4,ok,bd,gl⟩
section
variable {X:Cx}{κ:Ctx}{A:List Nat}{W:WX}{x:Str}{c:String}{f z g n:Str}{fI:Addr}{fd:FuncData}{e:Expr}{m:M SD}{p p2 pos:Pos}
theorem xUi (C:ExK2 X.prog X.w X.K X.mg X.base κ x c f z g n fI fd)(hc:X.calm=true)(tk:L2N.Takes X W)(hr:Room 2 X.A)(hx:Passes (L2N.CX X.prog X.w) X fun _ _ _=>False)(hg:Gl X x)(he:PE X e (tE κ W m))(hdb:(x==("__debug__":Str))=false:=by decide)
  (hs:starEach [e] X.env=(false,eval e X.env)::starEach [] X.env:=by rfl) (hpl:(backTo p2 (starEach [] X.env)).any (·.1)=false:=by rfl):PS X (.Raise (some (.Call (.Name x p) [e] [] p2)) none pos) (tS κ A W (sEx1 c f z g m)):=by
 refine PS.imp (L2N.ps_raise hc tk (xZc C.T C.iC C.tI C.ok hr C.bd hx hg C.gl (pa_cons he pa_nil hs) hdb hs hpl)) fun D σ H ⟨B,ρ,G,_,o,q⟩=> ?_
 refine xBs o (PstS.bind q) fun d ρ1 H1 G1 o1 s1 q1 y r1=> ?_
 refine ⟨by simp,fun a ha=>⟨a,_,y,rfl,C.T,C.no,C.no2,upd_same,fun dx hd ne=>⟨rfl,dx,[(g,y),(f,.str z)],?_,upd_same,?_,?_⟩⟩⟩
 ·rw [upd_ne (Ne.symm ne),upd_same]
 ·rw [upd_ne ne] at hd
  exact hd
 ·rw [upd_ne ne] at hd
  rw [xP3 ha ne]
  exact q1 _ _ σ _ G1 (o1.allocOwn hd) (Same.refl G1) ⟨rfl,dx,_,rfl,upd_same,y,_,rfl,r1,.str z,[],rfl,rfl,rfl⟩
end
def ptD (x:Exn):Pt->Option D
 | .fld f=>x.fs.lookup f
 | .neg k=>some (.int (-k))
def sTryP (b:S)(i j:Nat)(pick:String->Option (Pt×Pt)):S:=fun ρ=>match b ρ with
 | .ex x ρ'=>match pick x.c with
  | some w=>if i<ρ'.length then match ptD x w.1,ptD x w.2 with
   | some d,some e=> .ok .nx (((ρ'.set i .un).set j (.va (.tup [d,e]))).set i .un)
   | _,_=> .no
   else .no
  | none=> .no
 | r=>r
def tPt (K:PySem.W.Frag)(i:Nat)(a:Addr)(cls:Value)(d:Option Addr):Pt->TE
 | .fld f=>fun σ H Q=> ∃ C,XfC K C/\PySem.W.findIn K (.ref C) f=some none/\tXf a cls d C f (tVar i) σ H Q
 | .neg k=>tUn (rU fun i=> .int (-i)) (tC (.int k))
inductive PtEx (X:Cx)(n:Str):Expr->Pt->Prop
 | fld {f:Str} {p q:Pos} (h:attributeBase (.Name n p) f X.env (eval (.Name n p) X.env)=eval (.Name n p) X.env):PtEx X n (.Attribute (.Name n p) f q) (.fld f)
 | neg {k:Int} {jn:Nat} {p q:Pos}:PtEx X n (.UnaryOp .USub (.Constant (.int k) jn p) q) (.neg k)
def xZy (K:PySem.W.Frag)(i j:Nat)(w:Pt×Pt)(a:Addr)(cls:Value)(d:Option Addr):TS:=tAsg (tTup (tCons (tPt K i a cls d w.1) (tCons (tPt K i a cls d w.2) tNil))) (gName j)
def Cp.cl (K:PySem.W.Frag)(i j:Nat)(q:Cp):Cl:=⟨.ref q.1,i,xZy K i j q.2⟩
inductive ClPs (X:Cx)(i j:Nat)(n nw:Str):List ExceptHandler->List Cp->Prop
 | nil:ClPs X i j n nw [] []
 | cons {xm:Str} {CM:Addr} {e1 e2:Expr} {w1 w2:Pt} {jt:Nat} {q1 q2 q3 q4 q5:Pos} {hds:List ExceptHandler} {l:List Cp} (gm:Gl X xm) (dm:(xm==("__debug__":Str))=false) (hm:X.mg xm=some (.ref CM))
   (h1:PtEx X n e1 w1) (h2:PtEx X n e2 w2) (hsw:swapsWith (.Tuple [e1,e2] jt q4) (some (.Name nw q3)) q5.line X.env=pure false) (r:ClPs X i j n nw hds l):
   ClPs X i j n nw (.ExceptHandler (some (.Name xm q1)) (some n) [.Assign [.Name nw q3] (.Tuple [e1,e2] jt q4) q5] q2::hds) ((CM,w1,w2)::l)
structure TryPK (K:PySem.W.Frag)(κ:Ctx)(l:List Cp)(pick:String->Option (Pt×Pt)):Prop where
 on: ∀ c w,pick c=some w->xZn K (.ref (κ.cl c)) l=some w/\ptF K (κ.cl c) w.1=true/\ptF K (κ.cl c) w.2=true
section
variable {X:Cx}{κ:Ctx}{A:List Nat}{Wout:WX}{i j:Nat}{nw n:Str}{body:List Stmt}{b:S}{pick:String->Option (Pt×Pt)}{pos:Pos}{l:List Cp}{hds:List ExceptHandler}
theorem xZ5 (h:PtEx X n e w)(i1:X.N[i]? =some n)(l1:X.env.kindOf n=some .local)(dn:(n==("__debug__":Str))=false)(cn:(n==("__classdict__":Str))=false)(z:L2N.Zn cls d oe)(dt: ∃ vs,oe.data= .fields vs):
  PE (X.suite y ((y,oe)::pn)) e (tPt X.K i y cls d w):=by
 cases h with
 | fld hat=>exact ⟨fun pins s σ H Q I ⟨C,xc,no,q⟩=>(pe_xf (X:=X) xc no z.zc dt (pe_var (X:=X.suite y ((y,oe)::pn)) (i:=i) i1 (.inl l1) dn cn) hat).run pins s σ H Q I q⟩
 | @neg k jn p q=>exact pe_un (r:=rU fun i=> .int (-i)) (ta:=tC (.int k)) un_neg pe_int
theorem ClPs.ok (k:ClPs X i j n nw hds l)(hN:X.N.Nodup)(i1:X.N[i]? =some n)(i2:X.N[j]? =some nw)(l1:X.env.kindOf n=some .local)(l2:X.env.scope.names.lookup nw=some .local)(dn:(n==("__debug__":Str))=false)(cn:(n==("__classdict__":Str))=false):ClsOk X hds (l.map (Cp.cl X.K i j)):=by
 induction k with
 | nil=>exact .nil
 | cons gm dm hm h1 h2 hsw r ih=>
  exact .cons ⟨gm,dm,.inl hm⟩ i1 l1 (fun y oe cls d pn z dt=>pss_one (ps_set (X:=X.suite y ((y,oe)::pn)) (i:=j) hN i2 (.inl l2) (pe_tup (pa_cons (xZ5 h1 i1 l1 dn cn z dt) (pa_cons (xZ5 h2 i1 l1 dn cn z dt) pa_nil (by cases h2 <;> rfl)) (by cases h1 <;> rfl))) hsw (.inr l2))) ih
end
def pickL (l:List (String×Pt×Pt)):String->Option (Pt×Pt):=fun c=>l.lookup c
def upD:D->Option SD
 | .str a=>if a.length<=1000000 then some (.va (.str (Txt.upper a))) else none
 | _=>none
section
variable {X:Cx}{κ:Ctx}{W:WX}
theorem xX1 (ho:PE X o (tE κ W m))(hbase:attributeBase o "upper" X.env (eval o X.env)=eval o X.env:=by rfl)(hline:(apos.endLine==pos.line)=true:=by rfl):
  PE X (.Call (.Attribute o "upper" apos) [] [] pos) (tE κ W (mUn upD m)):=by
 refine PE.imp (pe_upper ho hbase hline) fun σ H Q ⟨B,ρ,G,o,q⟩=> ?_
 refine xBs o (Pst.bind q) fun d ρ1 H1 G1 o1 s1 q1 v1 r1=> ?_
 obtain ⟨z,hz,q2⟩:=Pst.opt q1
 cases d with
 | str a=>
  cases (show v1=V.str a from r1)
  unfold upD at hz
  dsimp only at hz
  split at hz
  ·rename_i hl
   cases hz
   exact ⟨⟨a,rfl⟩,a,rfl,rfl,by omega,q2 _ _ o1 (Same.refl _) _ rfl⟩
  ·cases hz
 | _=>cases hz
end
theorem xTy {p:SD->Prop}(h:p (.va (.str (Txt.upper a))))(g:a.length<=1000000):Ow (upD (.str a)) p:=⟨_,if_pos g,h⟩
theorem xCb {p q:SD->List SD->Prop}{E F:Exn->List SD->Prop}(h:Fw f p E)(g: ∀ r o,p r o->q r o)(g2: ∀ x o,E x o->F x o):Fw f q F:=by
 refine ⟨?_⟩
 have h:=h.run
 cases f with
 | ok r o=>exact g r o h
 | ex x o=>exact g2 x o h
 | no=>exact h
set_option maxHeartbeats 990000
set_option maxHeartbeats 1990000
def runT (g:D->List SD->Option (List SD))(N:Nat)(s:S)(t:D)(ds:List D):FR:=match g t (SD.un::(ds.map SD.va++yDg (N-ds.length) SD.un)) with
 | some ρ=>match s ρ with
  | .ok .nx _=> .ok (.va .non) []
  | .ok (.rt (.va d)) _=> .ok (.va d) []
  | .ex x _=> .ex x []
  | _=> .no
 | none=> .no
def toldK (fn:D->List D->FR)(ds:List D)(r:SD):M SD:=fun ρ=>match r with
 | .va t=>match fn t ds with
  | .ok (.va d) _=> .ok (.va d) ρ
  | .ex x _=> .ex x ρ
  | _=> .no
 | _=> .no
section
variable {κ:Ctx}{W:WX}{B:Bas}{ρ:List SD}{σ:L2.St}{H G:Hp}{g:D->List SD->Option (List SD)}{s:S}{t:D}{ds:List D}{v fl:V}{vs:List V}{N:List Str}{a:Str}{Q:VK}{l:List Nat}
end
end Fm
set_option maxHeartbeats 990000
namespace Fm
open PySem.W PyProof.Rows PySem
section
variable {prog:Program}{w:World}{Ar:Around}{Er:Value->Shared->Prop}{s:Shared}{K:Frag}{x C L f:Addr}{h₀:Heap}{m:Str->Option Value}{ox:Obj}{od:Option Obj}{b tb:Value}
end
end Fm
namespace Fm
open L2 PySem PySem.Spec PyProof.Rows
structure InsF (K:PySem.W.Frag)(C:Addr):Prop where
 ha:(PySem.W.findIn K (.ref C) "__class__"=some (some (.builtin "object.__class__")))
 hn:(PySem.W.specialIn K (.builtin "object.__class__") "__get__"=some (some (.builtin "getset_descriptor.__get__")))
 htk:(PySem.W.takesIn K (.builtin "object.__class__")=some true)
 hm:(PySem.W.mroIn K C (.type "object")=some true)
 own:PySem.W.kitOne K (.ref C) (.ref C)=some true
 no: ∀ t∈["NoneType","bool","int","str","tuple","list","dict"],PySem.W.kitOne K (.type t) (.ref C)=some false
def isCD (c:String)(d:D):Option SD:=match d with
 | .ins _ c1 _=>if c1=c then some (.va (.bl true)) else none
 | d=>if d.kind.isSome then some (.va (.bl false)) else none
section
variable {X:Cx}{κ:Ctx}{W:WX}{c:String}
end
def eqID (c:String)(pol:Bool->Bool)(fs:List SD->FR)(d e:D):Option SD:=match d,e with
 | .ins b c1 l,.ins b2 c2 l2=>if c1=c/\c2=c then match fs [.va (.ins b c1 l),.va (.ins b2 c2 l2)] with
  | .ok (.va (.bl r)) _=>some (.va (.bl (pol r)))
  | _=>none
  else none
 | _,_=>none
def rEqI (C:Addr)(sp:Sp)(pol:Bool->Bool):R2:=fun x y H Q=> ∃ a b dx dy fs gs,x= .ref a/\y= .ref b/\H a=some (.ins C dx fs)/\H b=some (.ins C dy gs)/\sp [x,y] H (fun v H'=> ∃ r,v= .bl r/\Q (.bl (pol r)) H') fun _ _ _=>False
section
variable {X:Cx}{κ:Ctx}{c:String}{k:Nat}{ps:List Str}{fs:List SD->FR}{f:Addr}{fd:FuncData}
end
def sameF:D->D->Bool
 | .int a,.int b=>a==b
 | .bl a,.bl b=>a==b
 | .str a,.str b=>a==b
 | _,_=>false
def eqKB (l m:List (Key×D)):Bool:=decide (l.length=m.length)&&l.all fun p=>match getK m p.1 with
 | some d=>sameF p.2 d
 | none=>false
def eq3D (d e:D):Option SD:=match d,e with
 | .dk _ l,.dk _ m=>if eqKB l m then some (.va (.bl true)) else none
 | d,e=>eqD d e
section
variable {X:Cx}{κ:Ctx}
def rEqDR:R2:=fun x y H Q=> ∃ a b ks ls,x= .ref a/\y= .ref b/\Rd H a (.dK ks)/\Rd H b (.dK ls)/\ks.length=ls.length/\(∀ p∈ks,valV ls p.1=some p.2/\flatB p.2=true)/\Q (.bl true) H
end
set_option maxHeartbeats 1990000
def sameB (fn:List SD->FR)(d e:D):Option Bool:=match fn [.va d,.va e] with
 | .ok (.va (.bl r)) _=>some r
 | _=>none
def allS (fn:List SD->FR)(l m:List (Key×D)):List (Key×D)->Option (List Bool)
 | []=>some []
 | p::r=>match getK l p.1,getK m p.1 with
  | some d,some e=>if (xHs d&&xHs e)=true then (sameB fn d e).bind fun b=>(allS fn l m r).map (b:: ·) else none
  | _,_=>none
def mAllS (fn:List SD->FR)(i j:Nat):M SD:=fun ρ=>match ρ[i]?,ρ[j]? with
 | some (.va (.dk _ l)),some (.va (.dk _ m))=>if m.length<=1000000 then match allS fn l m m with
  | some bs=> .ok (.va (.bl (bs.all id))) ρ
  | none=> .no
  else .no
 | _,_=> .no
abbrev tEltS (K:PySem.W.Frag)(sp:Sp)(i j p:Nat):TE:=tCallS sp (fun _ _ _ _=>False) (tCons (tOp (rIx3 K) (tVar i) (tVar p)) (tCons (tOp (rIx3 K) (tVar j) (tVar p)) tNil))
section
variable {X:Cx}{κ:Ctx}{W:WX}{f_ x1 x2 xp:Str}{k k' i j p:Nat}{fn:List SD->FR}{fa:Addr}{fd:FuncData}{ps:List Str}{q1 q2 q3 q4 q5 q6 q7 q8 q9 pos:Pos}
end
set_option maxHeartbeats 390000
structure Cm where
 c:Value
 i:Option Nat
 ts:Addr->Value->Option Addr->TS
def endsM (D:Ends):Option Nat->Ends
 | none=>D
 | some i=>Ends.less D i
def slotM (σ:L2.St)(a:Addr):Option Nat->L2.St
 | none=>σ
 | some i=>σ.set i (some (.ref a))
def wMix (K:PySem.W.Frag)(Wout:WX)(D:Ends):List Cm->WX
 | []=>Wout
 | q::r=>fun cls d σ H=> ∃ b,PySem.W.exmOne K cls q.c=some b/\(b=true-> ∀ a,H a=none->q.ts a cls d (endsM D q.i) (slotM σ a q.i) H)/\(b=false->wMix K Wout D r cls d σ H)
inductive MixOk (X:Cx):List ExceptHandler->List Cm->Prop
 | nil:MixOk X [] []
 | named {x n:Str} {c:Value} {i:Nat} {ts:Addr->Value->Option Addr->TS} {b₀:Stmt} {suite:List Stmt} {np pos:Pos} {hds:List ExceptHandler} {l:List Cm} (hc:Names X x c) (hi:X.N[i]? =some n) (hl:X.env.kindOf n=some .local)
   (go: ∀ (a:Addr) (oe:Obj) (cls:Value) (d:Option Addr) (pn:List (Addr×Obj)),L2N.Zn cls d oe->(∃ vs,oe.data= .fields vs)->PSs (X.suite a ((a,oe)::pn)) (b₀::suite) (ts a cls d)) (r:MixOk X hds l):
   MixOk X (.ExceptHandler (some (.Name x np)) (some n) (b₀::suite) pos::hds) (⟨c,some i,ts⟩::l)
 | plain {x:Str} {c:Value} {ts:Addr->Value->Option Addr->TS} {b₀:Stmt} {suite:List Stmt} {np pos:Pos} {hds:List ExceptHandler} {l:List Cm} (hc:Names X x c)
   (go: ∀ (a:Addr) (oe:Obj) (cls:Value) (d:Option Addr) (pn:List (Addr×Obj)),L2N.Zn cls d oe->(∃ vs,oe.data= .fields vs)->PSs (X.suite a ((a,oe)::pn)) (b₀::suite) (ts a cls d)) (r:MixOk X hds l):
   MixOk X (.ExceptHandler (some (.Name x np)) none (b₀::suite) pos::hds) (⟨c,none,ts⟩::l)
section
variable {X:Cx}{pins:List (Addr×Obj)}{Wout:WX}{D:Ends}
end
def gPut (i:Nat)(mk:M SD):D->List SD->Option (List SD):=fun v ρ=>match ρ[i]? with
 | some (.ow _)=>match fE mk ρ with
  | .ok (.int j) ρ2=>match ρ2[i]? with
   | some (.ow (.lst b l))=>(ixN l.length j).map fun n=>ρ2.set i (.ow (.lst b (l.set n v)))
   | _=>none
  | _=>none
 | _=>none
section
variable {X:Cx}{κ:Ctx}{W:WX}{A vs:List Nat}{i:Nat}{x:Str}{k:Expr}{mk:M SD}{p p2:Pos}
end
def SD.nOw:SD->Bool
 | .ow _=>false
 | _=>true
theorem xHh: ∀ {l r:List SD},l.all SD.nOw=true->l.length=r.length->mixL l r=some l
 | [],_,_,_=>rfl
 | .un::l,y::r,h,e=>by
  show (mixL l r).map (SD.un:: ·)=_
  rw [xHh (l:=l) (r:=r) h (by simpa using e)]
  rfl
 | .va c::l,y::r,h,e=>by
  show (mixL l r).map (SD.va c:: ·)=_
  rw [xHh (l:=l) (r:=r) h (by simpa using e)]
  rfl
 | .ow c::l,y::r,h,e=>yDd (show false=true from h)
end Fm
set_option maxHeartbeats 1990000
namespace Fm
open L2 PySem PySem.Spec PyProof.Rows NdefX LamX Sj
section
variable {pins:List (Addr×Obj)}{X:Cx}{σ:L2.St}{H:Hp}{s:Shared}
def KeyJ (X:Cx)(pins:List (Addr×Obj))(σ:L2.St)(H:Hp)(f:Addr)(o:Obj):Shared->Prop:=fun s'=>L2.Inv X pins σ H s'/\s'.heap.get? f=some o
end
section
variable {X:Cx}{κ:Ctx}{W:WX}{e body:Expr}{m:M SD}{c P:Addr}{params:Arguments}{scope:Scope}{pn y:Str}{j k:Nat}{p pos lpos kpos:Pos}
end
end Fm
set_option maxHeartbeats 990000
namespace Fm
open L2 PySem PySem.Spec PyProof.Rows
def insS (i:Nat)(ds:List D):M SD:=fun ρ=>match ρ[i]?,ds with
 | some (.ow (.lst b l)),[.int k,v]=>if l.length<1000000/\0<=k/\k<2 ^ 62 then .ok (.va .non) (ρ.set i (.ow (.lst b (l.take k.toNat++[v]++l.drop k.toNat)))) else .no
 | _,_=> .no
def mIns (i:Nat)(n:M (List D)):M SD:=fun ρ=>if xS1 ρ[i]? then (n.bind (insS i)) ρ else .no
section
variable {X:Cx}{κ:Ctx}{W:WX}{σ:L2.St}{H:Hp}{Q:VK}
abbrev rInsert:V->List V->Hp->VK->Prop:=fun x vs H Q=> ∃ (l:Addr) (xs:List V) (i:Int) (y:V),x= .ref l/\vs=[.int i,y]/\H l=some (.lst xs)/\xs.length<sizeLine/\0<=i/\i<2 ^ 63/\
  Q .non (upd H l (.lst (xs.take i.toNat++[y]++xs.drop i.toNat)))
end
end Fm
set_option maxHeartbeats 390000
namespace Fm
open L2 PySem PySem.Spec PyProof.Rows Zs Zn
def IteT (K:PySem.W.Frag)(a:Addr):It:=
 ⟨fun i H=> ∃ xs x,SqT K H a xs/\xs[i]? =some x,fun i H v H'=> ∃ t u,v= .ref t/\H t=none/\H'=upd H t (.tup [.int (i:Nat),u])/\ ∀ ys,SqT K H a ys->ys[i]? =some u,fun i H=> ∃ xs,SqT K H a xs/\xs.length<=i⟩
def iEnuT (K:PySem.W.Frag)(ta:TA):TI:=fun σ H R=>ta σ H fun vs H1=> ∃ a xs,vs=[.ref a]/\SqT K H1 a xs/\R (IteT K a) H1
def enM2:D->M (List D)
 | .lst _ l=>M.ret (enP 0 l)
 | .tup l=>M.ret (enP 0 l)
 | _=>M.no
def iEn2 (m:M SD):M (List D):=(fE m).bind enM2
def rvlM:D->M (List D)
 | .lst _ l=>M.ret l.reverse
 | _=>M.no
def iRvl (m:M SD):M (List D):=(fE m).bind rvlM
section
variable {ρ:List SD}{E:Exn->List SD->Prop}{pl:List D->List SD->Prop}
end
end Fm
namespace Fm
open L2 PySem PySem.Spec PyProof.Rows Zs Zn
end Fm
namespace Fm
open L2 PySem PySem.Spec PyProof.Rows Zs Zn
def EnP (d:D)(p:List D->Prop):Prop:= ∃ l,((∃ b,d= .lst b l)\/d= .tup l)/\p (enP 0 l)
def RvP (d:D)(p:List D->Prop):Prop:= ∃ b l,d= .lst b l/\p l.reverse
section
variable {ρ:List SD}{E:Exn->List SD->Prop}{pl:List D->List SD->Prop}{p:List D->Prop}{l:List D}{b:Bool}
end
end Fm
namespace Fm
open L2 PySem PySem.Spec PyProof.Rows
theorem xXi {E:Exn->List SD->Prop}{p:SD->List SD->Prop}(e:ρ[i]? =some (.ow (.lst b l)))(hs:(ρ.set i .un).all SD.nOw=true)
  (h:Wp m (ρ.set i (.va (.lst true l))) (fun r ρ1=>ρ1=ρ.set i (.va (.lst true l))/\r.nbS=true/\p r ρ) NoX):Wp (xIn i m) ρ p E:=by
 have hi:=(yC1.mp e).1
 obtain ⟨h⟩:=h
 refine ⟨?_⟩
 have el:xKe i (.lst b l) ρ (ρ.set i (.va (.lst true l)))=some ρ:=by
  unfold xKe
  rw [xHh hs (by rw [yDe,yDe])]
  show some ((ρ.set i .un).set i (.ow (.lst b l)))=_
  rw [yDz]
  congr 1
  refine (yEq fun j=> ?_)
  by_cases hj:i=j
  ·subst hj
   rw [yC7 hi,e]
  ·rw [yC9 hj]
 unfold xIn
 rw [e]
 dsimp only
 rw [show (D.lst b l).ln= .lst true l from rfl]
 cases em:m (ρ.set i (.va (.lst true l))) with
 | ok r ρ1=>
  rw [em] at h
  obtain ⟨h1,h2,h3⟩:=h
  subst h1
  dsimp only
  rw [if_pos h2,el]
  exact h3
 | ex x ρ1=>
  rw [em] at h
  exact h.elim
 | no=>
  rw [em] at h
  exact h.elim
def max2D:List D->Option SD
 | [.int i,.int j]=>some (.va (.int (if j > i then j else i)))
 | _=>none
def tIdx (K:PySem.W.Frag)(to te:TE):TE:=fun σ H Q=>to σ H fun x H1=>tyV K "list" x H1/\te σ H1 fun y H2=>rIndexD K x [y] H2 Q
def idxD (b:Bool)(l:List D)(e:D):Option SD:=if e.pl 60&&(D.lst b l).pl 60 then (l.findIdx? fun x=>peq x e).map fun (j:Nat)=>SD.va (.int (j:Int)) else none
def mIdx (ma mb:M SD):M SD:=(fE ma).bind fun d=>match d with
 | .lst b l=>(fE mb).bind fun e=>M.opt (idxD b l e)
 | _=>M.no
section
variable {ρ:List SD}{E:Exn->List SD->Prop}{p:SD->List SD->Prop}
end
set_option maxHeartbeats 990000
def mD1 (mk mv:M SD):M SD:=(fE mk).bind fun k=>(fE mv).bind fun v=>M.opt ((xCy k).map fun j=> .ow (.dk false [(j,v)]))
section
variable {κ:Ctx}{W:WX}{B:Bas}{ρ:List SD}{σ:L2.St}{H G:Hp}{p:Addr}
abbrev sideB (B:Bas)(p:Addr):Bas:=⟨upd B.H p (.dK []),B.G,B.T,B.an⟩
end
section
variable {X:Cx}{κ:Ctx}{W:WX}{a b k v e f:Expr}{ma mb mk mv:M SD}{pos:Pos}
def truD:D->Option Bool
 | .non=>some false
 | .bl b=>some b
 | .int i=>some (i != 0)
 | .str s=>if s.length<=1000000 then some ((s.length:Int) != 0) else none
 | .lst _ l=>some (!l.isEmpty)
 | .tup l=>some (!l.isEmpty)
 | .dk true l=>some (!l.isEmpty)
 | _=>none
def mOrD (m n:M SD):M SD:=(fE m).bind fun d=>(M.opt (truD d)).bind fun b=>if b then M.ret (.va d) else n
end
def popS (i:Nat)(ds:List D):M SD:=fun ρ=>match ρ[i]?,ds with
 | some (.ow (.lst b l)),[.int k]=>match l[k.toNat]? with
  | some d=>if 0<=k/\k<2 ^ 62 then .ok (.va d) (ρ.set i (.ow (.lst b (l.eraseIdx k.toNat)))) else .no
  | none=> .no
 | _,_=> .no
def mPop (i:Nat)(n:M (List D)):M SD:=fun ρ=>if xS1 ρ[i]? then (n.bind (popS i)) ρ else .no
def extS (i:Nat)(ds:List D):M SD:=fun ρ=>match ρ[i]?,ds with
 | some (.ow (.lst b l)),[.lst _ m]=>if l.length+m.length<=1000000 then .ok (.va .non) (ρ.set i (.ow (.lst b (l++m)))) else .no
 | _,_=> .no
def mExt (i:Nat)(n:M (List D)):M SD:=fun ρ=>if xS1 ρ[i]? then (n.bind (extS i)) ρ else .no
def xM7 (l m:List (Key×D)):List (Key×D):=m.foldl (fun acc kv=>xB3 acc kv.1 kv.2) l
def updS (i:Nat)(d:D):M SD:=fun ρ=>match ρ[i]?,d with
 | some (.ow (.dk b l)),.dk _ m=>if l.length+m.length<=1000000 then .ok (.va .non) (ρ.set i (.ow (.dk b (xM7 l m)))) else .no
 | _,_=> .no
def xX5:Option SD->Bool
 | some (.ow (.dk _ _))=>true
 | _=>false
def mUpd (i:Nat)(m:M SD):M SD:=fun ρ=>if xX5 ρ[i]? then ((fE m).bind (updS i)) ρ else .no
theorem RepK.merge: ∀ {m:List (Key×D)} {ws:List (Key×V)} {l:List (Key×D)} {vs:List (Key×V)},RepK κ T G l vs->RepK κ T G m ws->RepK κ T G (xM7 l m) (mergeK vs ws)
 | [],ws,l,vs,h,g=>by
  rw [show ws=[] from g]
  exact h
 | (k,d)::m,ws,l,vs,h,g=>by
  obtain ⟨v,us,rfl,g1,g2⟩:=g
  exact RepK.merge (l:=xB3 l k d) (vs:=putK vs k v) (RepK.put k h g1) g2
section
variable {X:Cx}{td ty:TE}{e o:Expr}{apos cpos:Pos}
def tDUpd (td ty:TE):TE:=fun σ H Q=>td σ H fun x H1=> ∃ a,x= .ref a/\IsD H1 a/\ty σ H1 fun y H2=> ∃ (kvs:List (Key×V)) (b:Addr) (more:List (Key×V)),y= .ref b/\a≠b/\H2 a=some (.dK kvs)/\Rd H2 b (.dK more)/\kvs.length+more.length<=1000000/\Q .non (upd H2 a (.dK (mergeK kvs more)))
end
section
variable {X:Cx}{κ:Ctx}{W:WX}{σ:L2.St}{H:Hp}{Q:VK}
end
section
variable {ρ:List SD}{E:Exn->List SD->Prop}{p:SD->List SD->Prop}
theorem xF0: ∀ {l:List SD},(l.all fun x=>match x with| .ow c=>c.nbO|_=>true)=true->mixL l l=some l
 | [],_=>rfl
 | .ow c::l,h=>by
  (rw [yD6,yC5] at h)
  show (if SD.nbS (.ow c) then (mixL l l).map (SD.ow c:: ·) else none)=_
  rw [xF0 h.2,if_pos (show SD.nbS (.ow c)=true from h.1)]
  rfl
 | .va c::l,h=>by
  (rw [yD6,yC5] at h)
  show (mixL l l).map (SD.va c:: ·)=_
  rw [xF0 h.2]
  rfl
 | .un::l,h=>by
  (rw [yD6,yC5] at h)
  show (mixL l l).map (SD.un:: ·)=_
  rw [xF0 h.2]
  rfl
theorem xSl (e:ρ[i]? =some (.ow d))(hs:((ρ.set i .un).all fun x=>match x with| .ow c=>c.nbO|_=>true)=true)
  (h:Wp m (ρ.set i (.va d.ln)) (fun r ρ1=>ρ1=ρ.set i (.va d.ln)/\r.nbS=true/\p r ρ) NoX):Wp (xIn i m) ρ p E:=by
 have hi:=(yC1.mp e).1
 obtain ⟨h⟩:=h
 refine ⟨?_⟩
 have el:xKe i d ρ (ρ.set i (.va d.ln))=some ρ:=by
  have gen: ∀ (l:List SD) (k:Nat) (x:SD),mixL (l.set k .un) (l.set k .un)=some (l.set k .un)->mixL (l.set k .un) (l.set k x)=some (l.set k .un):=by
   intro l
   induction l with
   | nil=>intro k x h;exact h
   | cons y l ih=>
    intro k x h
    cases k with
    | zero=>
     have h':(mixL l l).map (SD.un:: ·)=some (SD.un::l):=h
     exact h'
    | succ k=>
     cases y with
     | ow c=>
      have h':(if SD.nbS (.ow c) then (mixL (l.set k .un) (l.set k .un)).map (SD.ow c:: ·) else none)=some (SD.ow c::l.set k .un):=h
      show (if SD.nbS (.ow c) then (mixL (l.set k .un) (l.set k x)).map (SD.ow c:: ·) else none)=some (SD.ow c::l.set k .un)
      split at h'
      ·rename_i hc
       rw [if_pos hc]
       obtain ⟨o,o1,o2⟩:=yC4.mp h'
       cases o2
       rw [ih k x o1]
       rfl
      ·cases h'
     | va c=>
      have h':(mixL (l.set k .un) (l.set k .un)).map (SD.va c:: ·)=some (SD.va c::l.set k .un):=h
      show (mixL (l.set k .un) (l.set k x)).map (SD.va c:: ·)=some (SD.va c::l.set k .un)
      obtain ⟨o,o1,o2⟩:=yC4.mp h'
      cases o2
      rw [ih k x o1]
      rfl
     | un=>
      have h':(mixL (l.set k .un) (l.set k .un)).map (SD.un:: ·)=some (SD.un::l.set k .un):=h
      show (mixL (l.set k .un) (l.set k x)).map (SD.un:: ·)=some (SD.un::l.set k .un)
      obtain ⟨o,o1,o2⟩:=yC4.mp h'
      cases o2
      rw [ih k x o1]
      rfl
  unfold xKe
  rw [gen ρ i _ (xF0 hs)]
  show some ((ρ.set i .un).set i (.ow d))=_
  rw [yDz]
  congr 1
  refine (yEq fun j=> ?_)
  by_cases hj:i=j
  ·subst hj
   rw [yC7 hi,e]
  ·rw [yC9 hj]
 unfold xIn
 rw [e]
 dsimp only
 cases em:m (ρ.set i (.va d.ln)) with
 | ok r ρ1=>
  rw [em] at h
  obtain ⟨h1,h2,h3⟩:=h
  subst h1
  dsimp only
  rw [if_pos h2,el]
  exact h3
 | ex x ρ1=>
  rw [em] at h
  exact h.elim
 | no=>
  rw [em] at h
  exact h.elim
end
def rngN (i:Int)(n:Nat):List D:=(List.range n).map fun k:Nat=>D.int (i-(k:Int))
def rng3M:List D->M (List D)
 | [.int i,.int j,.int c]=>if c= -1/\ -(2 ^ 62)<=i/\i<2 ^ 62/\ -(2 ^ 62)<=j/\j<2 ^ 62 then M.ret (rngN i (i-j).toNat) else M.no
 | _=>M.no
def iRg3 (n:M (List D)):M (List D):=n.bind rng3M
section
variable {X:Cx}{κ:Ctx}{W:WX}{tg a b c:Expr}
end
set_option maxHeartbeats 1990000
def eqKP (l m:List (Key×D)):Bool:=decide (l.length=m.length)&&l.all fun p=>match getK m p.1 with
 | some d=>(p.2.pl 60&&d.pl 60)&&peq p.2 d
 | none=>false
def ne4D (d e:D):Option SD:=match d,e with
 | .dk _ l,.dk _ m=>if eqKP l m then some (.va (.bl false)) else none
 | d,e=>neD d e
section
variable {X:Cx}{κ:Ctx}
def rNeDP (K:PySem.W.Frag):R2:=fun x y H Q=> ∃ a b ks ls,x= .ref a/\y= .ref b/\Rd H a (.dK ks)/\Rd H b (.dK ls)/\ks.length=ls.length/\
 (∀ p∈ks,∃ u d e,valV ls p.1=some u/\Dp K H p.2 d/\Dp K H u e/\SeqAt.shaped d=true/\SeqAt.shaped e=true/\PyData.eqv d e=true)/\Q (.bl false) H
end
def dif:List (Key×D)->List (Key×D)->Bool
 | [],_::_=>true
 | _::_,[]=>true
 | (_,.int _)::_,(_,.tup _)::_=>true
 | _,_=>false
mutual
def D.nk (l:List (Key×D)):D->Bool
 | .non=>true
 | .bl _=>true
 | .int _=>true
 | .str _=>true
 | .ty _=>true
 | .tup xs=>nkL l xs
 | .lst _ xs=>nkL l xs
 | .dk _ m=>dif m l&&nkK l m
 | _=>false
def nkL (l:List (Key×D)):List D->Bool
 | []=>true
 | d::r=>D.nk l d&&nkL l r
def nkK (l:List (Key×D)):List (Key×D)->Bool
 | []=>true
 | (_,d)::r=>D.nk l d&&nkK l r
end
def SD.nk (l:List (Key×D)):SD->Bool
 | .un=>true
 | .va d=>d.nk l
 | .ow (.lst _ xs)=>nkL l xs
 | .ow (.dk _ m)=>nkK l m
 | .ow _=>false
section
variable {κ:Ctx}{T:Pd}{G:Hp}{p:Addr}{od:Obj}{ws:List (Key×V)}
theorem xLm (gp:G p=some u)(n: ∀ ys,u≠ .tup ys)(h:xFw κ.K G a xs):xFw κ.K (upd G p u') a xs:=by
 rcases h with h|h
 ·have na:a≠p:=fun z=>by
   rw [z,gp] at h
   exact n xs (yDc.inj h)
  exact .inl (by rw [upd_ne na];exact h)
 ·exact .inr h
theorem xL9 (gp:G p=some u)(n: ∀ o ys,u≠ .frz o (.lst ys))(h:xJ7 κ.K G a xs):xJ7 κ.K (upd G p u') a xs:=by
 rcases h with ⟨o,h⟩|h
 ·have na:a≠p:=fun z=>by
   rw [z,gp] at h
   exact n o xs (yDc.inj h)
  exact .inl ⟨o,by rw [upd_ne na];exact h⟩
 ·exact .inr h
mutual
theorem Rep.lk (gp:G p=some (.dK ws))(nt: ¬ T p): ∀ (d:D) {v:V},Rep κ T G d v->Rep κ T (upd G p (.frz od (.dK ws))) d v
 | .non,_,h=>h
 | .bl _,_,h=>h
 | .int _,_,h=>h
 | .str _,_,h=>h
 | .ty _,_,h=>h
 | .adr _,_,h=>h
 | .tup xs,v,h=>by
  obtain ⟨a,vs,h1,h2,h3⟩:=h
  exact ⟨a,vs,h1,xLm gp (fun _ z=>nomatch z) h2,RepL.lk gp nt xs h3⟩
 | .lst b xs,v,h=>by
  obtain ⟨a,vs,h1,⟨h2,h4⟩,h3⟩:=h
  have na:a≠p:=fun z=>by
   rw [z,gp] at h2
   cases h2
  exact ⟨a,vs,h1,⟨(upd_ne na).trans h2,h4⟩,RepL.lk gp nt xs h3⟩
 | .scr xs,v,h=>by
  obtain ⟨a,vs,h1,h2,h3⟩:=h
  exact ⟨a,vs,h1,h2.imp (fun y=>xL9 gp (fun _ _ z=>nomatch z) y) id,RepL.lk gp nt xs h3⟩
 | .nv b xs ss,v,h=>by
  obtain ⟨a,vs,h1,⟨h2,h4⟩,h3⟩:=h
  have na:a≠p:=fun z=>by
   obtain ⟨φ,h5⟩:=h2.some
   rw [z,gp] at h5
   cases h5
  exact ⟨a,vs,h1,⟨h2.at (upd_ne na).symm,h4⟩,RepL.lk gp nt xs h3⟩
 | .dk b m,v,h=>by
  obtain ⟨a,vs,h1,⟨h2,h4⟩,h3⟩:=h
  refine ⟨a,vs,h1,⟨?_,h4⟩,RepK.lk gp nt m h3⟩
  by_cases na:a=p
  ·subst na
   have hb:b=false:=by
    cases b with
    | false=>rfl
    | true=>exact absurd (h4.mpr rfl) nt
   rcases h2 with h2|⟨_,o,h2⟩
   ·rw [gp] at h2
    cases h2
    exact .inr ⟨hb,od,upd_same⟩
   ·rw [gp] at h2
    cases h2
  ·rcases h2 with h2|⟨hb,o,h2⟩
   ·exact .inl ((upd_ne na).trans h2)
   ·exact .inr ⟨hb,o,(upd_ne na).trans h2⟩
 | .ins b c m,v,h=>by
  obtain ⟨a,dx,vs,h1,⟨h2,h4⟩,h3⟩:=h
  have na:a≠p:=fun z=>by
   rw [z,gp] at h2
   cases h2
  exact ⟨a,dx,vs,h1,⟨(upd_ne na).trans h2,h4⟩,RepF.lk gp nt m h3⟩
theorem RepL.lk (gp:G p=some (.dK ws))(nt: ¬ T p): ∀ (xs:List D) {vs:List V},RepL κ T G xs vs->RepL κ T (upd G p (.frz od (.dK ws))) xs vs
 | [],_,h=>h
 | d::r,vs,h=>by
  obtain ⟨v,us,e,h1,h2⟩:=h
  exact ⟨v,us,e,Rep.lk gp nt d h1,RepL.lk gp nt r h2⟩
theorem RepK.lk (gp:G p=some (.dK ws))(nt: ¬ T p): ∀ (m:List (Key×D)) {vs:List (Key×V)},RepK κ T G m vs->RepK κ T (upd G p (.frz od (.dK ws))) m vs
 | [],_,h=>h
 | (k,d)::r,vs,h=>by
  obtain ⟨v,us,e,h1,h2⟩:=h
  exact ⟨v,us,e,Rep.lk gp nt d h1,RepK.lk gp nt r h2⟩
theorem RepF.lk (gp:G p=some (.dK ws))(nt: ¬ T p): ∀ (m:List (Str×D)) {vs:List (Str×V)},RepF κ T G m vs->RepF κ T (upd G p (.frz od (.dK ws))) m vs
 | [],_,h=>h
 | (k,d)::r,vs,h=>by
  obtain ⟨v,us,e,h1,h2⟩:=h
  exact ⟨v,us,e,Rep.lk gp nt d h1,RepF.lk gp nt r h2⟩
end
mutual
theorem Rep.ulk (gp:G p=some (.frz od (.dK ws))): ∀ (d:D) {v:V},Rep κ T G d v->Rep κ T (upd G p (.dK ws)) d v
 | .non,_,h=>h
 | .bl _,_,h=>h
 | .int _,_,h=>h
 | .str _,_,h=>h
 | .ty _,_,h=>h
 | .adr _,_,h=>h
 | .tup xs,v,h=>by
  obtain ⟨a,vs,h1,h2,h3⟩:=h
  exact ⟨a,vs,h1,xLm gp (fun _ z=>nomatch z) h2,RepL.ulk gp xs h3⟩
 | .lst b xs,v,h=>by
  obtain ⟨a,vs,h1,⟨h2,h4⟩,h3⟩:=h
  have na:a≠p:=fun z=>by
   rw [z,gp] at h2
   cases h2
  exact ⟨a,vs,h1,⟨(upd_ne na).trans h2,h4⟩,RepL.ulk gp xs h3⟩
 | .scr xs,v,h=>by
  obtain ⟨a,vs,h1,h2,h3⟩:=h
  exact ⟨a,vs,h1,h2.imp (fun y=>xL9 gp (fun o ys z=>by cases z) y) id,RepL.ulk gp xs h3⟩
 | .nv b xs ss,v,h=>by
  obtain ⟨a,vs,h1,⟨h2,h4⟩,h3⟩:=h
  have na:a≠p:=fun z=>by
   obtain ⟨φ,h5⟩:=h2.some
   rw [z,gp] at h5
   cases h5
  exact ⟨a,vs,h1,⟨h2.at (upd_ne na).symm,h4⟩,RepL.ulk gp xs h3⟩
 | .dk b m,v,h=>by
  obtain ⟨a,vs,h1,⟨h2,h4⟩,h3⟩:=h
  refine ⟨a,vs,h1,⟨?_,h4⟩,RepK.ulk gp m h3⟩
  by_cases na:a=p
  ·subst na
   rcases h2 with h2|⟨_,o,h2⟩
   ·rw [gp] at h2
    cases h2
   ·rw [gp] at h2
    cases h2
    exact .inl upd_same
  ·rcases h2 with h2|⟨hb,o,h2⟩
   ·exact .inl ((upd_ne na).trans h2)
   ·exact .inr ⟨hb,o,(upd_ne na).trans h2⟩
 | .ins b c m,v,h=>by
  obtain ⟨a,dx,vs,h1,⟨h2,h4⟩,h3⟩:=h
  have na:a≠p:=fun z=>by
   rw [z,gp] at h2
   cases h2
  exact ⟨a,dx,vs,h1,⟨(upd_ne na).trans h2,h4⟩,RepF.ulk gp m h3⟩
theorem RepL.ulk (gp:G p=some (.frz od (.dK ws))): ∀ (xs:List D) {vs:List V},RepL κ T G xs vs->RepL κ T (upd G p (.dK ws)) xs vs
 | [],_,h=>h
 | d::r,vs,h=>by
  obtain ⟨v,us,e,h1,h2⟩:=h
  exact ⟨v,us,e,Rep.ulk gp d h1,RepL.ulk gp r h2⟩
theorem RepK.ulk (gp:G p=some (.frz od (.dK ws))): ∀ (m:List (Key×D)) {vs:List (Key×V)},RepK κ T G m vs->RepK κ T (upd G p (.dK ws)) m vs
 | [],_,h=>h
 | (k,d)::r,vs,h=>by
  obtain ⟨v,us,e,h1,h2⟩:=h
  exact ⟨v,us,e,Rep.ulk gp d h1,RepK.ulk gp r h2⟩
theorem RepF.ulk (gp:G p=some (.frz od (.dK ws))): ∀ (m:List (Str×D)) {vs:List (Str×V)},RepF κ T G m vs->RepF κ T (upd G p (.dK ws)) m vs
 | [],_,h=>h
 | (k,d)::r,vs,h=>by
  obtain ⟨v,us,e,h1,h2⟩:=h
  exact ⟨v,us,e,Rep.ulk gp d h1,RepF.ulk gp r h2⟩
end
theorem xA9.lk (gp:G p=some (.dK ws))(nt: ¬ T p)(e:H' q=H q)(h:xA9 κ T G H q d):xA9 κ T (upd G p (.frz od (.dK ws))) H' q d:=by
 cases d with
 | lst b xs=>
  obtain ⟨vs,h1,h2⟩:=h
  exact ⟨vs,e.trans h1,RepL.lk gp nt xs h2⟩
 | dk b m=>
  obtain ⟨vs,h1,h2⟩:=h
  exact ⟨vs,e.trans h1,RepK.lk gp nt m h2⟩
 | ins b c m=>
  obtain ⟨dx,vs,h1,h2⟩:=h
  exact ⟨dx,vs,e.trans h1,RepF.lk gp nt m h2⟩
 | scr m=>
  obtain ⟨vs,h1,h2⟩:=h
  exact ⟨vs,h1.at e,RepL.lk gp nt m h2⟩
 | _=>exact h.elim
theorem xA9.ulk (gp:G p=some (.frz od (.dK ws)))(e:H' q=H q)(h:xA9 κ T G H q d):xA9 κ T (upd G p (.dK ws)) H' q d:=by
 cases d with
 | lst b xs=>
  obtain ⟨vs,h1,h2⟩:=h
  exact ⟨vs,e.trans h1,RepL.ulk gp xs h2⟩
 | dk b m=>
  obtain ⟨vs,h1,h2⟩:=h
  exact ⟨vs,e.trans h1,RepK.ulk gp m h2⟩
 | ins b c m=>
  obtain ⟨dx,vs,h1,h2⟩:=h
  exact ⟨dx,vs,e.trans h1,RepF.ulk gp m h2⟩
 | scr m=>
  obtain ⟨vs,h1,h2⟩:=h
  exact ⟨vs,h1.at e,RepL.ulk gp m h2⟩
 | _=>exact h.elim
end
def kyD:Key->D
 | .inl a=> .int a
 | .inr s=> .str s
abbrev kysD (l:List (Key×D)):List D:=l.map fun kv=>kyD kv.1
section
variable {κ:Ctx}{B:Bas}{ρ ρ':List SD}{σ σ':L2.St}{H H' G G':Hp}{i:Nat}{p:Addr}{c:Bool}{l:List (Key×D)}{ws:List (Key×V)}{od:Obj}
abbrev lkB (B:Bas)(p:Addr)(od:Obj)(ws:List (Key×V)):Bas:=⟨upd B.H p (.frz od (.dK ws)),upd B.G p (.frz od (.dK ws)),B.T,B.an⟩
structure LockO (κ:Ctx)(B:Bas)(p:Addr)(ws:List (Key×V))(G:Hp):Prop where
 gp:G p=some (.dK ws)
 nt: ¬ B.T p
 bh: ∀ u,B.H p=some u->u= .dK ws
 fz:B.H p≠none->B.G p=some (.dK ws)
 sb: ∀ u,B.G p=some u->u= .dK ws
 lent: ∀ a,B.T a->B.H a≠none
theorem LockO.of (o:Ok κ B ρ σ H G)(gp:G p=some (.dK ws))(nt: ¬ B.T p):LockO κ B p ws G:=by
 have hp:=o.fr.gh _ _ gp
 refine ⟨gp,nt,fun u e=> ?_,fun e=> ?_,fun u e=> ?_,o.fr.lent⟩
 ·have n: ∀ ps,u≠ .tbl ps:=fun ps z=>o.fr.nt p ps (by rw [e,z])
  have:=o.fr.keep p u e n
  rw [hp] at this
  exact Eq.symm (yDc.inj this)
 ·rw [<- o.fr.frz p e]
  exact gp
 ·have:=o.fr.sub p u e
  rw [gp] at this
  exact Eq.symm (yDc.inj this)
theorem LockO.same (f:LockO κ B p ws G)(s:Same (upd G p (.frz od (.dK ws))) G'):Same G (upd G' p (.dK ws)):=fun a u h=>by
 by_cases na:a=p
 ·rw [na,f.gp] at h
  rw [na,upd_same]
  exact h
 ·rw [upd_ne na]
  exact s a u (by rw [upd_ne na];exact h)
def iKy (i:Nat):M (List D):=fun ρ=>match ρ[i]? with
 | some (.va (.dk false l))=> .ok (kysD l) ρ
 | _=> .no
def mLk (i:Nat)(m:M SD):M SD:=fun ρ=>match ρ[i]? with
 | some (.va (.dk false _))=>match m ρ with
  | .ok r ρ'=> .ok r ρ'
  | _=> .no
 | _=> .no
end
section
variable {X:Cx}{κ:Ctx}{A:List Nat}{W:WX}{elt tg:Expr}{xd:Str}{q1:Pos}{ifs:List Expr}{scope:Scope}{own:List (Str×Nat)}{pos:Pos}{i:Nat}{g:D->List SD->Option (List SD)}{tt:M Bool}{te:M SD}
end
section
variable {X:Cx}{κ:Ctx}{A vs:List Nat}{W:WX}{tg e:Expr}{pos:Pos}
def sLk (i:Nat)(s:S):S:=fun ρ=>match ρ[i]? with
 | some (.va (.dk false _))=>match s ρ with
  | .ok f ρ'=> .ok f ρ'
  | _=> .no
 | _=> .no
end
section
variable {ρ:List SD}{E:Exn->List SD->Prop}
end
section
variable {ρ:List SD}{E:Exn->List SD->Prop}
theorem kS {p:Fl->List SD->Prop}(h:Wp m ρ p E):Wp m ρ p E:=h
theorem kE {p:SD->List SD->Prop}(h:Wp m ρ p E):Wp m ρ p E:=h
theorem kD {p:D->List SD->Prop}(h:Wp m ρ p E):Wp m ρ p E:=h
theorem kL {p:List D->List SD->Prop}(h:Wp m ρ p E):Wp m ρ p E:=h
theorem kA {p:List Ar->List SD->Prop}(h:Wp m ρ p E):Wp m ρ p E:=h
theorem kB {p:Bool->List SD->Prop}(h:Wp m ρ p E):Wp m ρ p E:=h
end
section
variable {p:SD->Prop}{a b:D}
theorem kO (h:Ow o p):Ow o p:=h
theorem kEq (h:Ow (eqD a b) p):Ow (eqD a b) p:=h
theorem kNe (h:Ow (neD a b) p):Ow (neD a b) p:=h
theorem kIs (h:Ow (isnD a b) p):Ow (isnD a b) p:=h
theorem kNt (h:Ow (ntnD a b) p):Ow (ntnD a b) p:=h
theorem kAd (h:Ow (xBo a b) p):Ow (xBo a b) p:=h
theorem kLn (h:Ow (xDe l) p):Ow (xDe l) p:=h
theorem kAn {a b:Prop}(h:a/\b):a/\b:=h
theorem kEx {α:Type}{q:α->Prop}(h: ∃ a,q a): ∃ a,q a:=h
end
def dpopS (i:Nat)(d:D):M SD:=fun ρ=>match ρ[i]?,xCy d with
 | some (.ow (.dk b l)),some k=>match getK l k with
  | some v=> .ok (.va v) (ρ.set i (.ow (.dk b (xV4 l k))))
  | none=> .ok (.va .non) ρ
 | _,_=> .no
def mDPop (i:Nat)(m:M SD):M SD:=fun ρ=>if xX5 ρ[i]? then ((fE m).bind (dpopS i)) ρ else .no
def isDk:D->Bool
 | .dk _ _=>true
 | _=>false
def getD2 (d k v:D):Option SD:=match d with
 | .dk _ l=>(xCy k).map fun j=> .va ((getK l j).getD v)
 | _=>none
def mGet2 (ma mk mv:M SD):M SD:=(fE ma).bind fun d=>if isDk d then (fE mk).bind fun k=>(fE mv).bind fun v=>M.opt (getD2 d k v) else M.no
section
variable {X:Cx}{κ:Ctx}{W:WX}{σ:L2.St}{H:Hp}{Q:VK}
end
section
variable {ρ:List SD}{E:Exn->List SD->Prop}{p:SD->List SD->Prop}
end
def prK:D->Option (Key×D)
 | .tup [k,v]=>(xCy k).map fun j=>(j,v)
 | _=>none
def prsK:List D->Option (List (Key×D))
 | []=>some []
 | d::l=>(prK d).bind fun p=>(prsK l).map (p:: ·)
def xN3:List D->Option SD
 | [.lst _ l]=>(prsK l).map fun m=> .ow (.dk false (xM7 [] m))
 | l=>xZh l
def xW0 (κ:Ctx):List V->Hp->VK->Prop:=fun xs H Q=>(∃ (a:Addr) (kvs:List (Key×V)),xs=[.ref a]/\Rd H a (.dK kvs)/\ ∀ p,H p=none->Q (.ref p) (upd H p (.dK kvs)))\/
 ∃ (a:Addr) (ps:List Addr) (kvs:List (Key×V)),xs=[.ref a]/\SqL κ.K H a (ps.map V.ref)/\Paired (fun p kv=>SqT κ.K H p [kV kv.1,kv.2]) ps kvs/\ ∀ p,H p=none->Q (.ref p) (upd H p (.dK (mergeK [] kvs)))
theorem xO0 (hK:X.K=κ.K)(hc:X.calm=true):CallR X (.type "dict") (xW0 κ):=by
 rintro pins s σ H xs us Q I r q
 rcases q with q|q
 ·exact call_dictD pins s σ H xs us Q I r q
 ·rw [<- hK] at q
  exact call_dictP hc pins s σ H xs us Q I r q
theorem xTb (s:Same G H): ∀ {l:List D} {m:List (Key×D)} {vs:List V},prsK l=some m->RepL κ T G l vs-> ∃ (ps:List Addr) (kvs:List (Key×V)),vs=ps.map V.ref/\Paired (fun p kv=>SqT κ.K H p [kV kv.1,kv.2]) ps kvs/\RepK κ T G m kvs
 | [],m,vs,e,r=>by
  cases e
  exact ⟨[],[],r,.nil,rfl⟩
 | d::l,m,vs,e,r=>by
  obtain ⟨v,ws,rfl,r1,r2⟩:=r
  obtain ⟨q,e1,e2⟩:=yDf.mp (show (prK d).bind _=some m from e)
  obtain ⟨m',e3,rfl⟩:=yC4.mp e2
  obtain ⟨ps,kvs,rfl,h2,h3⟩:=xTb s e3 r2
  unfold prK at e1
  split at e1
  ·rename_i k x
   obtain ⟨j,hj,rfl⟩:=yC4.mp e1
   obtain ⟨a,us,rfl,t1,u,us2,rfl,t2,x',us3,rfl,t3,rfl⟩:=r1
   have ek:u=kV j:=xGd t2 hj
   subst ek
   exact ⟨a::ps,(j,x')::kvs,rfl,.cons (t1.sq s) h2,x',kvs,rfl,t3,h3⟩
  ·cases e1
theorem xUy:xDx κ (xW0 κ) xN3:=by
 intro B ρ σ H G ds xs z Q o r hz q
 unfold xN3 at hz
 split at hz
 ·rename_i b l
  obtain ⟨m,e,rfl⟩:=yC4.mp hz
  obtain ⟨v,ws,rfl,⟨a,vs,rfl,⟨h1,_⟩,h2⟩,rfl⟩:=r
  obtain ⟨ps,kvs,rfl,p2,p3⟩:=xTb o.fr.gh e h2
  exact .inr ⟨a,ps,kvs,rfl,SqL.of (o.fr.gh _ _ h1),p2,fun p hp=>q _ _ G (o.allocOwn hp) (Same.refl G) (o.newOwn hp ⟨_,upd_same,RepK.merge (l:=[]) (vs:=[]) rfl p3⟩)⟩
 ·exact .inl (xXq B ρ σ H G ds xs z Q o r hz q)
theorem xOv {q:SD->Prop}(h:q (.ow (.dk false l))):Ow (xN3 [.dk b l]) q:=⟨_,rfl,h⟩
def yAo (i:Nat)(d:D):M SD:=fun ρ=>match ρ[i]?,xCy d with
 | some (.ow (.dk b l)),some k=>match getK l k with
  | some v=> .ok (.va v) (ρ.set i (.ow (.dk b (xV4 l k))))
  | none=> .no
 | _,_=> .no
def mDPop1 (i:Nat)(m:M SD):M SD:=fun ρ=>if xX5 ρ[i]? then ((fE m).bind (yAo i)) ρ else .no
section
variable {X:Cx}{κ:Ctx}{W:WX}{σ:L2.St}{H:Hp}{Q:VK}
end
def fmtD:D->Option Str
 | .str s=>if s.length<=1000000 then some s else none
 | .int i=>if i.natAbs.log2<1920/\(Str.ofString (toString i)).length<=1000000 then some (Str.ofString (toString i)) else none
 | _=>none
def fmt1D (d:D)(c:Str):Option Str:=(fmtD d).bind fun x=>if c.length<=1000 then some x else none
def fs3D (x c:Str)(b:D):Option SD:=(fmtD b).map fun y=> .va (.str (x++c++y))
def mFs3 (m1:M SD)(c:Str)(m3:M SD):M SD:=(fE m1).bind fun a=>(M.opt (fmt1D a c)).bind fun x=>(fE m3).bind fun b=>M.opt (fs3D x c b)
section
variable {X:Cx}{κ:Ctx}{W:WX}{σ:L2.St}{H:Hp}{Q:VK}
end
section
variable {X:Cx}
def rMinS:List V->Hp->VK->Prop:=fun xs H Q=> ∃ (a:Addr) (kvs:List (Key×V)) (ks:List Str),xs=[.ref a]/\Rd H a (.dK kvs)/\kvs.map (·.1)=ks.map Sum.inr/\ks≠[]/\ ∀ m,m∈ks->(∀ j∈ks,m.cps.toList<=j.cps.toList)->Q (.str m) H
def rMaxS:List V->Hp->VK->Prop:=fun xs H Q=> ∃ (a:Addr) (kvs:List (Key×V)) (ks:List Str),xs=[.ref a]/\Rd H a (.dK kvs)/\kvs.map (·.1)=ks.map Sum.inr/\ks≠[]/\ ∀ m,m∈ks->(∀ j∈ks,j.cps.toList<=m.cps.toList)->Q (.str m) H
end
def minKD:List D->Option SD
 | [.dk _ l]=>(xEa l).bind fun ks=>(ssort ks).head?.map fun s=> .va (.str s)
 | _=>none
def maxKD:List D->Option SD
 | [.dk _ l]=>(xEa l).bind fun ks=>(ssort ks).getLast?.map fun s=> .va (.str s)
 | _=>none
section
variable {κ:Ctx}
end
section
variable {ρ:List SD}{E:Exn->List SD->Prop}{p:SD->List SD->Prop}{q:SD->Prop}
end
def isbD:D->D->Option SD
 | .bl a,.bl b=>some (.va (.bl (decide (a=b))))
 | _,_=>none
def ntbD:D->D->Option SD
 | .bl a,.bl b=>some (.va (.bl (!decide (a=b))))
 | _,_=>none
section
variable {X:Cx}{κ:Ctx}
end
set_option maxHeartbeats 3900000
def Ky (X:Cx)(H:Hp)(k:NestedKey)(v:V):Prop:= ∀ (pins:List (Addr×Obj)) (σ:L2.St) (s:Shared) (u:Value),Inv X pins σ H s->RelV v u->NestedIs s.heap k u
section
variable {X:Cx}{κ:Ctx}{T:Pd}{G H:Hp}
mutual
theorem yBk (hK:X.K=κ.K)(sm:Same G H): ∀ (d:D) {n:Nat} {v:V},keyN n d=true->Rep κ T G d v->Ky X H (nk d) v
 | .int i,_,_,_,r=>fun _ _ _ u _ q=>by
  rw [show _=V.int i from r] at q
  obtain ⟨t,rfl⟩:=q
  exact .int _ _
 | .str x,_,_,_,r=>fun _ _ _ u _ q=>by
  rw [show _=V.str x from r] at q
  obtain ⟨t,rfl⟩:=q
  exact .text _ _
 | .tup l,n+1,v,h,r=>fun pins σ s u I q=>by
  obtain ⟨a,vs,rfl,h1,h2⟩:=r
  obtain rfl:u= .ref a:=q
  obtain ⟨its,r1,⟨o,e1,e2,m,e3⟩,_⟩:=I.tuple (hK ▸ h1.sq sm)
  exact .tup e1 e2 e3 (by simpa using xOg hK sm l (n:=n) h h2 pins σ s its I r1)
 | .tup _,0,_,h,_=>by cases h
 | .non,n,_,h,_=>by cases n <;> cases h
 | .bl _,n,_,h,_=>by cases n <;> cases h
 | .lst _ _,n,_,h,_=>by cases n <;> cases h
 | .dk _ _,n,_,h,_=>by cases n <;> cases h
 | .ins _ _ _,n,_,h,_=>by cases n <;> cases h
 | .ty _,n,_,h,_=>by cases n <;> cases h
 | .adr _,n,_,h,_=>by cases n <;> cases h
 | .scr _,n,_,h,_=>by cases n <;> cases h
 | .nv _ _ _,n,_,h,_=>by cases n <;> cases h
theorem xOg (hK:X.K=κ.K)(sm:Same G H): ∀ (l:List D) {n:Nat} {vs:List V},xIr n l=true->RepL κ T G l vs->
  ∀ (pins:List (Addr×Obj)) (σ:L2.St) (s:Shared) (us:List Value),Inv X pins σ H s->Vals vs us->NestedAll s.heap (nkS l) us
 | [],_,_,_,r,_,_,_,_,_,q=>by
  rw [show _=[] from r] at q
  cases q
  exact .nil
 | d::l,n,_,h,r,pins,σ,s,us,I,q=>by
  obtain ⟨v,ws,rfl,h1,h2⟩:=r
  have h':(keyN n d&&xIr n l)=true:=h
  rw [yC5] at h'
  cases q with
  | cons q1 q2=>exact .cons (yBk hK sm d (n:=n) h'.1 h1 pins σ s _ I q1) (xOg hK sm l (n:=n) h'.2 h2 pins σ s _ I q2)
end
end
mutual
theorem nk_dp: ∀ (d:D) {n:Nat},keyN n d=true->(nk d).depth<=n
 | .int i,_,_=>yDs _
 | .str x,_,_=>yDs _
 | .tup l,n+1,h=>Nat.succ_le_succ (xV7 l (n:=n) h)
 | .tup _,0,h=>by cases h
 | .non,n,h=>by cases n <;> cases h
 | .bl _,n,h=>by cases n <;> cases h
 | .lst _ _,n,h=>by cases n <;> cases h
 | .dk _ _,n,h=>by cases n <;> cases h
 | .ins _ _ _,n,h=>by cases n <;> cases h
 | .ty _,n,h=>by cases n <;> cases h
 | .adr _,n,h=>by cases n <;> cases h
 | .scr _,n,h=>by cases n <;> cases h
 | .nv _ _ _,n,h=>by cases n <;> cases h
theorem xV7: ∀ (l:List D) {n:Nat},xIr n l=true->NestedKey.depthAll (nkS l)<=n
 | [],_,_=>yDs _
 | d::l,n,h=>by
  have h':(keyN n d&&xIr n l)=true:=h
  rw [yC5] at h'
  exact Nat.max_le.mpr ⟨nk_dp d h'.1,xV7 l h'.2⟩
end
mutual
theorem xZ2: ∀ (d e:D) {n m:Nat},keyN n d=true->keyN m e=true->NestedKey.beq (nk d) (nk e)=PyData.eqv d.py e.py
 | .int i,.int j,_,_,_,_=>rfl
 | .int i,.str x,_,_,_,_=>rfl
 | .int i,.tup l,_,_,_,_=>rfl
 | .str x,.int j,_,_,_,_=>rfl
 | .str x,.str y,_,_,_,_=>rfl
 | .str x,.tup l,_,_,_,_=>rfl
 | .tup l,.int j,_,_,_,_=>rfl
 | .tup l,.str y,_,_,_,_=>rfl
 | .tup l,.tup k,n+1,m+1,h,g=>xQ4 l k (n:=n) (m:=m) h g
 | .tup _,.tup _,0,_,h,_=>by cases h
 | .tup _,.tup _,_+1,0,_,h=>by cases h
 | .non,_,n,_,h,_=>by cases n <;> cases h
 | .bl _,_,n,_,h,_=>by cases n <;> cases h
 | .lst _ _,_,n,_,h,_=>by cases n <;> cases h
 | .dk _ _,_,n,_,h,_=>by cases n <;> cases h
 | .ins _ _ _,_,n,_,h,_=>by cases n <;> cases h
 | .ty _,_,n,_,h,_=>by cases n <;> cases h
 | .adr _,_,n,_,h,_=>by cases n <;> cases h
 | .scr _,_,n,_,h,_=>by cases n <;> cases h
 | .nv _ _ _,_,n,_,h,_=>by cases n <;> cases h
 | .int _,.non,_,n,_,h=>by cases n <;> cases h
 | .int _,.bl _,_,n,_,h=>by cases n <;> cases h
 | .int _,.lst _ _,_,n,_,h=>by cases n <;> cases h
 | .int _,.dk _ _,_,n,_,h=>by cases n <;> cases h
 | .int _,.ins _ _ _,_,n,_,h=>by cases n <;> cases h
 | .int _,.ty _,_,n,_,h=>by cases n <;> cases h
 | .int _,.adr _,_,n,_,h=>by cases n <;> cases h
 | .int _,.scr _,_,n,_,h=>by cases n <;> cases h
 | .int _,.nv _ _ _,_,n,_,h=>by cases n <;> cases h
 | .str _,.non,_,n,_,h=>by cases n <;> cases h
 | .str _,.bl _,_,n,_,h=>by cases n <;> cases h
 | .str _,.lst _ _,_,n,_,h=>by cases n <;> cases h
 | .str _,.dk _ _,_,n,_,h=>by cases n <;> cases h
 | .str _,.ins _ _ _,_,n,_,h=>by cases n <;> cases h
 | .str _,.ty _,_,n,_,h=>by cases n <;> cases h
 | .str _,.adr _,_,n,_,h=>by cases n <;> cases h
 | .str _,.scr _,_,n,_,h=>by cases n <;> cases h
 | .str _,.nv _ _ _,_,n,_,h=>by cases n <;> cases h
 | .tup _,.non,_,n,_,h=>by cases n <;> cases h
 | .tup _,.bl _,_,n,_,h=>by cases n <;> cases h
 | .tup _,.lst _ _,_,n,_,h=>by cases n <;> cases h
 | .tup _,.dk _ _,_,n,_,h=>by cases n <;> cases h
 | .tup _,.ins _ _ _,_,n,_,h=>by cases n <;> cases h
 | .tup _,.ty _,_,n,_,h=>by cases n <;> cases h
 | .tup _,.adr _,_,n,_,h=>by cases n <;> cases h
 | .tup _,.scr _,_,n,_,h=>by cases n <;> cases h
 | .tup _,.nv _ _ _,_,n,_,h=>by cases n <;> cases h
theorem xQ4: ∀ (l k:List D) {n m:Nat},xIr n l=true->xIr m k=true->NestedKey.beqAll (nkS l) (nkS k)=PyData.eqvAll (pyL l) (pyL k)
 | [],[],_,_,_,_=>rfl
 | [],_::_,_,_,_,_=>rfl
 | _::_,[],_,_,_,_=>rfl
 | d::l,e::k,n,m,h,g=>by
  have h':(keyN n d&&xIr n l)=true:=h
  have g':(keyN m e&&xIr m k)=true:=g
  rw [yC5] at h' g'
  show (NestedKey.beq (nk d) (nk e)&&NestedKey.beqAll (nkS l) (nkS k))=(PyData.eqv d.py e.py&&PyData.eqvAll (pyL l) (pyL k))
  rw [xZ2 d e h'.1 g'.1,xQ4 l k h'.2 g'.2]
end
def kyB (d:D):Bool:=xYd d&&keyN 8 d
section
variable {X:Cx}{κ:Ctx}{T:Pd}{G H:Hp}
end
def NdR (X:Cx)(H:Hp)(x y:V)(p a:Addr)(ks:List (NestedKey×Addr))(k:NestedKey):Prop:=
 y= .ref p/\x= .ref a/\H p=some (.ext (NdO X.w p ks))/\ ∀ (pins:List (Addr×Obj)) (σ:L2.St) (s:Shared),Inv X pins σ H s->(nestedKind X.prog X.w).is s.heap k a/\ ∀ z∈ks,(nestedKind X.prog X.w).is s.heap z.1 z.2
section
variable {X:Cx}{κ:Ctx}{W:WX}
abbrev rNdN (X:Cx):R2:=fun x y H Q=> ∃ p a ks k,NdR X H x y p a ks k/\Q (.bl (!(ks.any fun z=>decide (z.1=k)))) H
abbrev rNdP (X:Cx):TSet:=fun y x v H Q=> ∃ p a ks k,NdR X H x y p a ks k/\ks.length<sizeLine/\(ks.any fun z=>decide (z.1=k))=false/\((∃ h,NdO X.w p (ks++[(k,a)]) h)->Q (upd H p (.ext (NdO X.w p (ks++[(k,a)])))))
end
def mNd1 (mk mv:M SD):M SD:=(fE mk).bind fun k=>(fE mv).bind fun v=>if kyB k then M.ret (.ow (.scr [k])) else M.no
def ndT (i:Nat)(k:D):M Bool:=fun ρ=>match ρ[i]? with
 | some (.ow (.scr l))=>if kyB k then .ok (!l.any fun e=>peq e k) ρ else .no
 | _=> .no
def mNdN (i:Nat)(mk:M SD):M Bool:=xB6 i ((fE mk).bind (ndT i))
def ndP (i:Nat)(k:D):S:=fun ρ=>match ρ[i]? with
 | some (.ow (.scr l))=>if kyB k&&decide (l.length<1000000)&& !(l.any fun e=>peq e k) then .ok .nx (ρ.set i (.ow (.scr (l++[k])))) else .no
 | _=> .no
def sNdP (i:Nat)(mk me:M SD):S:=(fE me).bind fun _=>xB6 i ((fE mk).bind fun k=>ndP i k)
section
variable {X:Cx}{κ:Ctx}{W:WX}{A:List Nat}
end
def tNd1 (X:Cx)(tk tv:TE):TE:=fun σ H Q=> ∀ p,H p=none->tPairs [(tk,tv)] σ (upd H p (.dK [])) fun ps H2=>H2 p=some (.dK [])/\ ∃ x y a k,ps=[(x,y)]/\x= .ref a/\
 (∀ (pins:List (Addr×Obj)) (σ:L2.St) (s:Shared),Inv X pins σ H2 s->(nestedKind X.prog X.w).is s.heap k a)/\((∃ h,NdO X.w p [(k,a)] h)->Q (.ref p) (upd H2 p (.ext (NdO X.w p [(k,a)]))))
section
variable {κ:Ctx}{B:Bas}{ρ:List SD}{σ:L2.St}{H G:Hp}{p:Addr}
end
section
variable {X:Cx}{κ:Ctx}{W:WX}{k v:Expr}{mk mv:M SD}{pos:Pos}
end
section
variable {ρ:List SD}{E:Exn->List SD->Prop}{p:SD->List SD->Prop}{t:Bool->List SD->Prop}{s:Fl->List SD->Prop}
end
set_option maxHeartbeats 390000
set_option maxHeartbeats 1990000
def rEqE:R2:=fun x y H Q=> ∃ a b ks,x= .ref a/\y= .ref b/\Rd H a (.dK ks)/\Rd H b (.dK [])/\Q (.bl ks.isEmpty) H
def empT (i:Nat):M Bool:=fun ρ=>match ρ[i]? with
 | some (.ow (.dk _ l))=> .ok l.isEmpty ρ
 | _=> .no
def mEmp (i:Nat):M Bool:=xB6 i (empT i)
section
variable {X:Cx}{κ:Ctx}{W:WX}
end
section
open PySem.SeqAt (EqIn)
variable {w:World}{prog:Program}
end
section
open PySem.W (EqTree)
variable {X:Cx}{κ:Ctx}
def EqT (X:Cx)(H:Hp)(n:Nat)(x y:V):Prop:= ∀ (pins:List (Addr×Obj)) (σ:L2.St) (s:Shared) (v u:Value),Inv X pins σ H s->RelV x v->RelV y u->EqTree X.prog X.w s n v u true
def deqD:Nat->D->D->Bool
 | 0,_,_=>false
 | n+1,.tup l,.tup m=>decide (l.length=m.length)&&(List.zip l m).all fun p=>deqD n p.1 p.2
 | n+1,.dk _ l,.dk _ m=>decide (l.length=m.length)&&l.all fun p=>match getK m p.1 with
  | some d=>deqD n p.2 d
  | none=>false
 | _+1,d,e=>(d.pl 60&&e.pl 60)&&peq d e
def rNe5 (X:Cx):R2:=fun x y H Q=> ∃ a b xs ys n,n<=90/\x= .ref a/\y= .ref b/\SqT X.K H a xs/\SqT X.K H b ys/\Paired (EqT X H n) xs ys/\Q (.bl false) H
def ne5D (d e:D):Option SD:=match d,e with
 | .tup l,.tup m=>if decide (l.length=m.length)&&(List.zip l m).all (fun p=>deqD 20 p.1 p.2) then some (.va (.bl false)) else neD (.tup l) (.tup m)
 | d,e=>neD d e
end
def rLenI (C:Addr)(sp:Sp):List V->Hp->VK->Prop:=fun xs H Q=> ∃ a dx fs,xs=[.ref a]/\H a=some (.ins C dx fs)/\sp [.ref a] H (fun v H'=> ∃ n:Int,v= .int n/\(0<=n/\n<2 ^ 62)/\Q (.int n) H') fun _ _ _=>False
def lenID (c:String)(fs:List SD->FR):List D->Option SD
 | [.ins b c1 l]=>if c1=c then match fs [.va (.ins b c1 l)] with
  | .ok (.va (.int n)) _=>if 0<=n/\n<2 ^ 62 then some (.va (.int n)) else none
  | _=>none
  else none
 | _=>none
section
variable {X:Cx}{κ:Ctx}{c:String}{k:Nat}{ps:List Str}{fs:List SD->FR}{f:Addr}{fd:FuncData}
end
def sFz (i:Nat)(s:S):S:=fun ρ=>match ρ[i]? with
 | some (.ow d)=>s (ρ.set i (.va d.fz))
 | _=>s ρ
section
variable {X:Cx}{κ:Ctx}{W:WX}{A:List Nat}
end
def aug3S (i:Nat)(g:Int->Int)(k:D):S:=fun ρ=>match ρ[i]? with
 | some (.ow (.dk b l))=>match xCy k with
  | some j=>match getK l j with
   | some (.int v)=>if l.length<1000000 then .ok .nx (ρ.set i (.ow (.dk b (xB3 l j (.int (g v)))))) else .no
   | _=> .no
  | none=> .no
 | _=> .no
def sAug3 (i:Nat)(mk:M SD)(g:Int->Int):S:=xB6 i ((fE mk).bind fun k=>aug3S i g k)
section
variable {X:Cx}{κ:Ctx}{W:WX}{A:List Nat}
end
def mDClr (i:Nat):M SD:=fun ρ=>match ρ[i]? with
 | some (.ow (.dk b _))=> .ok (.va .non) (ρ.set i (.ow (.dk b [])))
 | _=> .no
section
variable {X:Cx}{κ:Ctx}{W:WX}{σ:L2.St}{H:Hp}{Q:VK}
end
def eq6D (d e:D):Option SD:=match d,e with
 | .dk _ l,.dk _ m=>if eqKP l m then some (.va (.bl true)) else none
 | d,e=>eqD d e
section
variable {X:Cx}{κ:Ctx}
def rEqDP (K:PySem.W.Frag):R2:=fun x y H Q=> ∃ a b ks ls,x= .ref a/\y= .ref b/\Rd H a (.dK ks)/\Rd H b (.dK ls)/\ks.length=ls.length/\
 (∀ p∈ks,∃ u d e,valV ls p.1=some u/\Dp K H p.2 d/\Dp K H u e/\SeqAt.shaped d=true/\SeqAt.shaped e=true/\PyData.eqv d e=true)/\Q (.bl true) H
end
mutual
def D.nd:D->Bool
 | .tup l=>ndL l
 | .lst _ l=>ndL l
 | .dk _ _=>false
 | .ins _ _ l=>ndF l
 | .scr l=>ndL l
 | .nv _ l _=>ndL l
 | _=>true
def ndL:List D->Bool
 | []=>true
 | d::l=>D.nd d&&ndL l
def ndF:List (Str×D)->Bool
 | []=>true
 | (_,d)::l=>D.nd d&&ndF l
end
def SD.ndS:SD->Bool
 | .va d=>d.nd
 | .ow d=>d.nd
 | .un=>true
def mixN:List SD->List SD->Option (List SD)
 | [],_=>some []
 | .ow _::l,x::r=>if x.ndS then (mixN l r).map (x:: ·) else none
 | y::l,_::r=>(mixN l r).map (y:: ·)
 | _::_,[]=>none
def lendN (i:Nat)(d:D)(ρ ρ1:List SD):Option (List SD):=(mixN (ρ.set i .un) ρ1).map fun l=>l.set i (.ow d)
def isDkF:D->Bool
 | .dk _ _=>true
 | _=>false
def mLendF (i:Nat)(m:M SD):M SD:=fun ρ=>match ρ[i]? with
 | some (.ow d)=>if isDkF d then match m (ρ.set i (.va d.fz)) with
  | .ok r ρ1=>if r.ndS then match lendN i d ρ ρ1 with
   | some ρ2=> .ok r ρ2
   | none=> .no
   else .no
  | _=> .no
  else .no
 | _=> .no
section
variable {κ:Ctx}{T:Pd}{G:Hp}{p:Addr}{ws:List (Key×V)}
theorem xUq {K:PySem.W.Frag}{a:Addr}{xs:List V}(ho:G p=some (.dK ws))(h:xFw K G a xs):xFw K (er G p) a xs:=by
 rcases h with h|h
 ·refine .inl ?_
  rw [xDp]
  ·exact h
  ·intro z
   rw [z,ho] at h
   cases h
 ·exact .inr h
mutual
theorem Rep.dr (ho:G p=some (.dK ws)): ∀ (d:D) {v:V},d.nd=true->Rep κ T G d v->Rep κ T (er G p) d v
 | .non,_,_,h=>h
 | .bl _,_,_,h=>h
 | .int _,_,_,h=>h
 | .str _,_,_,h=>h
 | .tup l,v,n,h=>by
  obtain ⟨a,vs,h1,h2,h3⟩:=h
  exact ⟨a,vs,h1,xUq ho h2,RepL.dr ho l n h3⟩
 | .lst b l,v,n,h=>by
  obtain ⟨a,vs,h1,⟨h2,h4⟩,h3⟩:=h
  have na:a≠p:=fun z=>by
   rw [z,ho] at h2
   cases h2
  exact ⟨a,vs,h1,⟨(xDp na).trans h2,h4⟩,RepL.dr ho l n h3⟩
 | .scr l,v,n,h=>by
  obtain ⟨a,vs,h1,h2,h3⟩:=h
  refine ⟨a,vs,h1,?_,RepL.dr ho l n h3⟩
  rcases h2 with (⟨ob,h2⟩|h2)|h2
  ·have na:a≠p:=fun z=>by
    rw [z,ho] at h2
    cases h2
   exact .inl (.inl ⟨ob,(xDp na).trans h2⟩)
  ·exact .inl (.inr h2)
  ·exact .inr h2
 | .nv b l ss,v,n,h=>by
  obtain ⟨a,vs,h1,⟨h2,h4⟩,h3⟩:=h
  have na:a≠p:=fun z=>by
   obtain ⟨φ,h5⟩:=h2.some
   rw [z,ho] at h5
   cases h5
  exact ⟨a,vs,h1,⟨h2.at (xDp na).symm,h4⟩,RepL.dr ho l n h3⟩
 | .dk b l,v,n,h=>yDd n
 | .ins b c l,v,n,h=>by
  obtain ⟨a,dx,vs,h1,⟨h2,h4⟩,h3⟩:=h
  have na:a≠p:=fun z=>by
   rw [z,ho] at h2
   cases h2
  exact ⟨a,dx,vs,h1,⟨(xDp na).trans h2,h4⟩,RepF.dr ho l n h3⟩
 | .ty _,_,_,h=>h
 | .adr _,_,_,h=>h
theorem RepL.dr (ho:G p=some (.dK ws)): ∀ (l:List D) {vs:List V},ndL l=true->RepL κ T G l vs->RepL κ T (er G p) l vs
 | [],_,_,h=>h
 | d::l,vs,n,h=>by
  have n':(D.nd d&&ndL l)=true:=n
  rw [yC5] at n'
  obtain ⟨v,ws',h1,h2,h3⟩:=h
  exact ⟨v,ws',h1,Rep.dr ho d n'.1 h2,RepL.dr ho l n'.2 h3⟩
theorem RepF.dr (ho:G p=some (.dK ws)): ∀ (l:List (Str×D)) {vs:List (Str×V)},ndF l=true->RepF κ T G l vs->RepF κ T (er G p) l vs
 | [],_,_,h=>h
 | (k,d)::l,vs,n,h=>by
  have n':(D.nd d&&ndF l)=true:=n
  rw [yC5] at n'
  obtain ⟨v,ws',h1,h2,h3⟩:=h
  exact ⟨v,ws',h1,Rep.dr ho d n'.1 h2,RepF.dr ho l n'.2 h3⟩
end
theorem xA9.dr (ho:G p=some (.dK ws))(n:d.nd=true)(h:xA9 κ T G H q d):xA9 κ T (Fm.er G p) H q d:=by
 cases d with
 | lst b l=>
  obtain ⟨vs,h1,h2⟩:=h
  exact ⟨vs,h1,RepL.dr ho l n h2⟩
 | dk b l=>exact yDd n
 | ins b c l=>
  obtain ⟨dx,vs,h1,h2⟩:=h
  exact ⟨dx,vs,h1,RepF.dr ho l n h2⟩
 | scr l=>
  obtain ⟨vs,h1,h2⟩:=h
  exact ⟨vs,h1,RepL.dr ho l n h2⟩
 | _=>exact h.elim
end
noncomputable def Bas.lnF (B:Bas) (i:Nat) (p:Addr) (u:HO) (ρ:List SD) (σ:L2.St) (H G:Hp):Bas:=⟨hidS (ρ.set i .un) σ H,upd G p u,B.T,[]⟩
section
variable {κ:Ctx}{B:Bas}{ρ ρ1:List SD}{σ:L2.St}{H G H' G':Hp}{i:Nat}{p:Addr}{u:HO}{d:D}
end
def ndX:SD->Bool
 | .ow c=>c.nd
 | _=>true
def mForget (i:Nat)(m:M SD):M SD:=fun ρ=>m (ρ.set i .un)
def noOw (vs:List Nat)(ρ:List SD):Bool:=vs.all fun j=>match ρ[j]? with
 | some (.ow _)=>false
 | _=>true
def lcV (vs vs1:List Nat)(g1:D->List SD->Option (List SD))(te:M SD):List D->List D->M (List D)
 | [],acc,ρ=> .ok acc ρ
 | x::l,acc,ρ=>if noOw vs ρ then match g1 x (xA3 ρ vs1) with
  | none=> .no
  | some ρ3=>match fE te ρ3 with
   | .ok y ρ4=>if acc.length<1000000 then lcV vs vs1 g1 te l (acc++[y]) (unw ρ ρ4 vs1) else .no
   | _=> .no
  else .no
def lcO (vs:List Nat)(g:D->List SD->Option (List SD))(it1:M (List D))(vs1:List Nat)(g1:D->List SD->Option (List SD))(te:M SD):List D->List D->M (List D)
 | [],acc,ρ=> .ok acc ρ
 | d::l,acc,ρ=>match g d (xA3 ρ vs) with
  | none=> .no
  | some ρ1=>match it1 ρ1 with
   | .ok l1 ρ2=>match lcV vs vs1 g1 te l1 acc ρ2 with
    | .ok acc' ρ3=>lcO vs g it1 vs1 g1 te l acc' (unw ρ ρ3 vs)
    | _=> .no
   | _=> .no
def mLc2 (it:M (List D))(vs:List Nat)(g:D->List SD->Option (List SD))(it1:M (List D))(vs1:List Nat)(g1:D->List SD->Option (List SD))(te:M SD):M SD:=
 it.bind fun l=>(lcO vs g it1 vs1 g1 te l []).bind fun acc=>M.ret (.ow (.lst false acc))
section
variable {κ:Ctx}{B:Bas}{ρ ρ':List SD}{σ σ':L2.St}{H G H' G':Hp}{vs:List Nat}
structure LcI2 (κ:Ctx)(W:WX)(B:Bas)(σ:L2.St)(G0:Hp)(p:Addr)(vs:List Nat)(f:List D->List D->M (List D))(Q:VK)(l acc:List D)(ρ:List SD)(H G:Hp)(ws:List V):Prop where
 ok:Ok κ B ρ σ H G
 sub:Same G0 G
 gn:G p=none
 bn:B.H p=none
 at_:H p=some (.lst ws)
 rep:RepL κ B.T G acc ws
 na: ∀ (j:Nat) (d:D),ρ[j]? =some (SD.ow d)->σ[j]? ≠some (some (V.ref p))
 go:Pst κ W B σ G ((f l acc).bind lcE ρ) fun r ρ' H' G'=> ∀ v,RepR κ B ρ' σ H' G' r v->Q v H'
structure LcJ2 (κ:Ctx)(W:WX)(B:Bas)(σ σ2:L2.St)(G0:Hp)(p:Addr)(vs vs1:List Nat)(g1:D->List SD->Option (List SD))(te:M SD)(f:List D->List D->M (List D))(Q:VK)(l l1 acc:List D)(ρ ρb:List SD)(H G:Hp)(ws:List V):Prop where
 ok:Ok κ B (unw ρ ρb vs) σ H G
 len:ρb.length=ρ.length
 blk: ∀ (j:Nat) (d:D),j∈vs->ρb[j]? =some (SD.va d)-> ∃ v,σ2[j]? =some (some v)/\Rep κ B.T G d v
 sub:Same G0 G
 gn:G p=none
 bn:B.H p=none
 at_:H p=some (.lst ws)
 rep:RepL κ B.T G acc ws
 na: ∀ (j:Nat) (d:D),(unw ρ ρb vs)[j]? =some (SD.ow d)->σ[j]? ≠some (some (V.ref p))
 go: ∃ acc' ρ3,lcV vs vs1 g1 te l1 acc ρb= .ok acc' ρ3/\Pst κ W B σ G ((f l acc').bind lcE (unw ρ ρ3 vs)) fun r ρ' H' G'=> ∀ v,RepR κ B ρ' σ H' G' r v->Q v H'
end
section
variable {X:Cx}{κ:Ctx}{A:List Nat}{W:WX}{iter elt tg iter1 tg1:Expr}{scope:Scope}{own:List (Str×Nat)}{vs1:List Nat}{pos:Pos}{it it1:M (List D)}{g g1:D->List SD->Option (List SD)}{te:M SD}
end
section
variable {ρ:List SD}{E:Exn->List SD->Prop}{p:SD->List SD->Prop}
end
def tpD (i j:Nat)(ρ:List SD):Option (List (Key×D)):=match ρ[i]? with
 | some (.va (.tup l))=>match l[j]? with
  | some (.dk false m)=>some m
  | _=>none
 | _=>none
def iKyT (i j:Nat):M (List D):=fun ρ=>match tpD i j ρ with
 | some m=> .ok (kysD m) ρ
 | none=> .no
def sLkT (i j:Nat)(s:S):S:=fun ρ=>match tpD i j ρ with
 | some _=>match s ρ with
  | .ok f ρ'=> .ok f ρ'
  | _=> .no
 | none=> .no
section
variable {κ:Ctx}{A vs:List Nat}{W:WX}
end
section
variable {ρ:List SD}{E:Exn->List SD->Prop}
end
end Fm
namespace PySem
open Sem (wp)
section
variable {prog:Program}{w:World}{A:Around}{s:Shared}{E:Value->Shared->Prop}
abbrev LsAt2 (h:Heap)(a:Addr)(its:Array Value):Prop:= ∃ n,IsL h a its n
end
end PySem
namespace Fm
open L2 PySem PySem.Spec PyProof.Rows
def rSumL (K:PySem.W.Frag):List V->Hp->VK->Prop:=fun vs H Q=> ∃ (a b:Addr) (ps:List Addr) (ls:List (List V)) (zs:List V),vs=[V.ref a,V.ref b]/\SqL K H a (ps.map V.ref)/\H b=some (.lst zs)/\ps.length=ls.length/\
 (∀ (j:Nat) p l,ps[j]? =some p->ls[j]? =some l->H p=some (.lst l))/\0<ps.length/\zs.length+ls.flatten.length<=sizeLine/\ ∀ p,H p=none->Q (.ref p) (upd H p (.lst (zs++ls.flatten)))
def yAz:List D->Option (List (List D))
 | []=>some []
 | .lst _ r::l=>(yAz l).map (r:: ·)
 | _=>none
def sumD3:List D->Option SD
 | [.lst _ l,.lst _ z]=>(yAz l).bind fun ls=>if 0<l.length/\z.length+ls.flatten.length<=1000000 then some (.ow (.lst false (z++ls.flatten))) else none
 | ds=>sumD ds
section
variable {κ:Ctx}{T:Pd}{G H:Hp}
end
structure Gr where
 i:Nat
 p:Addr
 l:List D
 qs:List Addr
def Gr.ads (g:Gr):List Addr:=g.p::g.qs
def grI (gs:List Gr):List Nat:=gs.map Gr.i
def grA (gs:List Gr):List Addr:=gs.flatMap Gr.ads
structure GrOk (κ:Ctx)(T:Pd)(G N:Hp)(g:Gr):Prop where
 here:N g.p=some (.lst (g.qs.map V.ref))
 rows:RepL κ (plT T N) (plus G N) g.l (g.qs.map V.ref)
 own:g.l.all isLt=true
structure NG (κ:Ctx)(B:Bas)(G N:Hp)(gs:List Gr):Prop where
 free: ∀ a,N a≠none->B.H a=none
 gfree: ∀ a,N a≠none->G a=none
 bg: ∀ a,N a≠none->B.G a=none
 nt: ∀ a,N a≠none-> ¬ B.T a
 mu: ∀ a o,N a=some o->OwK o
 at_: ∀ g∈gs,GrOk κ B.T G N g
 nd:(grA gs).Nodup
 inN: ∀ a∈grA gs,N a≠none
def opG (B:Bas)(N:Hp)(gs:List Gr):Bas:=⟨plus B.H N,B.G,B.T,gs.map (fun g=>(g.i,g.p))++B.an⟩
def lnG (B:Bas)(N:Hp)(gs:List Gr):Bas:=⟨plus B.H N,plus B.G N,plT B.T N,gs.map (fun g=>(g.i,g.p))++B.an⟩
def lendS:SD->SD
 | .ow d=> .va d
 | x=>x
def xYy (ρ:List SD):List Nat->List SD
 | []=>ρ
 | v::vs=>(xYy ρ vs).set v (lendS (ρ.getD v .un))
structure QOk (κ:Ctx)(B:Bas)(gs:List Gr)(N:Hp)(ρ:List SD)(σ:L2.St)(H G:Hp):Prop where
 ng:NG κ B G N gs
 sl: ∀ g∈gs,ρ[g.i]? =some (.ow (.lst true g.l))
 ok:Ok κ (opG B N gs) (xA3 ρ (grI gs)) σ H G
section
variable {κ:Ctx}{B:Bas}{ρ:List SD}{σ:L2.St}{H G:Hp}{N:Hp}{gs:List Gr}
theorem NG.mono (n:NG κ B G N gs)(s:Same G G2)(gf: ∀ a,N a≠none->G2 a=none):NG κ B G2 N gs:=
 ⟨n.free,gf,n.bg,n.nt,n.mu,fun g hg=>⟨(n.at_ g hg).here,RepL.mono (.of fun a o e=>by
  cases h:N a with
  | some u=>
   rw [xAg h] at e ⊢
   exact e
  | none=>
   rw [xAd h] at e ⊢
   exact s a o e) g.l (n.at_ g hg).rows,(n.at_ g hg).own⟩,n.nd,n.inN⟩
theorem xVb (o:Ok κ (opG B N gs) ρ σ H G)(mu: ∀ a u,N a=some u->OwK u)(h:N a=some u):H a=some u:=o.fr.keep a u (show plus B.H N a=some u from xAg h) (mu a u h).tbl
theorem xNp (h:g∈gs)(ha:a∈g.ads):a∈grA gs:=List.mem_flatMap.mpr ⟨g,h,ha⟩
theorem xQ6 (h:g∈gs):(g.i,g.p)∈(opG B N gs).an:=List.mem_append_left _ (yDi.mpr ⟨g,h,rfl⟩)
variable {ρ1:List SD}{σ1:L2.St}{H1 G1:Hp}
end
def PstQ {α:Type}(κ:Ctx)(W:WX)(B:Bas)(I:List Nat)(σ:L2.St)(G:Hp)(r:Rs α)(k:α->List SD->List Gr->Hp->Hp->Hp->Prop):Prop:=match r with
 | .ok a ρ'=> ∀ gs N H' G',grI gs=I->QOk κ B gs N ρ' σ H' G'->Same G G'->k a ρ' gs N H' G'
 | .ex x ρ'=> ∀ cls d H' G',Ok κ B (xA3 ρ' I) σ H' G'->Same G G'->RepX κ B.T H' G' x cls d->W cls d σ H'
 | .no=>False
def PstT (κ:Ctx)(W:WX)(B:Bas)(J:List Nat)(G:Hp)(r:Rs Fl)(D:Ends):Prop:=match r with
 | .ok .nx ρ'=> ∀ gs N σ' H' G',grI gs=J->QOk κ B gs N ρ' σ' H' G'->Same G G'->D.nx σ' H'
 | .ok (.rt r) ρ'=> ∀ v σ' H' G',Ok κ B ρ' σ' H' G'->Same G G'->RepR κ B ρ' σ' H' G' r v->D.rt v H'
 | .ok .bk _=>False
 | .ok .ct _=>False
 | .ex x ρ'=> ∀ cls d σ' H' G',Ok κ B ρ' σ' H' G'->Same G G'->RepX κ B.T H' G' x cls d->W cls d σ' H'
 | .no=>False
def tQ (κ:Ctx)(A:List Nat)(W:WX)(I J:List Nat)(s:S):TS:=fun D σ H=> ∃ B gs N ρ G,InA B A/\grI gs=I/\QOk κ B gs N ρ σ H G/\PstT κ W B J G (s ρ) D
def tTQ (κ:Ctx)(W:WX)(I:List Nat)(m:M Bool):TT:=fun σ H Q=> ∃ B gs N ρ G,grI gs=I/\QOk κ B gs N ρ σ H G/\PstQ κ W B I σ G (m ρ) fun b ρ' gs N H' G'=>Q b H'
def tIQ (κ:Ctx)(W:WX)(I:List Nat)(m:M (List D)):TI:=fun σ H R=> ∃ B gs N ρ G,grI gs=I/\QOk κ B gs N ρ σ H G/\PstQ κ W B I σ G (m ρ) fun l ρ' gs N H' G'=> ∀ J,ItD κ B.T G' J l->R J H'
theorem PstT.mono {D D':Ends}(h:PstT κ W B J G r D)(s:Same G G1)(hn: ∀ σ H,D.nx σ H->D'.nx σ H)(hr:D.rt=D'.rt):PstT κ W B J G1 r D':=by
 cases r with
 | ok f ρ'=>
  cases f with
  | nx=>exact fun gs N σ' H' G' i o e=>hn _ _ (h gs N σ' H' G' i o (s.trans e))
  | rt r=>exact fun v σ' H' G' o e q=>hr ▸ h v σ' H' G' o (s.trans e) q
  | bk=>exact h
  | ct=>exact h
 | ex x ρ'=>exact fun cls d σ' H' G' o e q=>h cls d σ' H' G' o (s.trans e) q
 | no=>exact h
theorem PstQ.mono {α:Type}{κ:Ctx}{W:WX}{B:Bas}{I:List Nat}{σ:L2.St}{G:Hp}{r:Rs α}{k k':α->List SD->List Gr->Hp->Hp->Hp->Prop}(h:PstQ κ W B I σ G r k)(f: ∀ a ρ' gs N H' G',grI gs=I->QOk κ B gs N ρ' σ H' G'->Same G G'->k a ρ' gs N H' G'->k' a ρ' gs N H' G'):PstQ κ W B I σ G r k':=by
 cases r with
 | ok a ρ'=>exact fun gs N H' G' i o s=>f _ _ _ _ _ _ i o s (h gs N H' G' i o s)
 | ex x ρ'=>exact h
 | no=>exact h
def mX {α:Type}(I:List Nat)(m:M α):M α:=fun ρ=>match m ρ with
 | .ex x ρ1=> .ex x (xA3 ρ1 I)
 | r=>r
def qO {α:Type}(I:List Nat)(m:M α):M α:=fun ρ=>match m (xA3 ρ I) with
 | .ok a ρ1=> .ok a (unw ρ ρ1 I)
 | .ex x ρ1=> .ex x (unw ρ ρ1 I)
 | .no=> .no
def qL {α:Type}(I:List Nat)(nb:α->Bool)(m:M α):M α:=fun ρ=>match m (xYy ρ I) with
 | .ok a ρ1=>if ((xA3 ρ1 I).all SD.nbS&&nb a)=true then .ok a (unw ρ ρ1 I) else .no
 | .ex x ρ1=>if ((xA3 ρ1 I).all SD.nbS&&nbF x.fs)=true then .ex x (unw ρ ρ1 I) else .no
 | .no=> .no
def fixQ (I:List Nat)(ρ ρ1:List SD):Fl->List SD
 | .nx=>unw ρ ρ1 I
 | _=>xA3 ρ1 I
def qsO (I:List Nat)(s:S):S:=fun ρ=>match s (xA3 ρ I) with
 | .ok f ρ1=> .ok f (fixQ I ρ ρ1 f)
 | .ex x ρ1=> .ex x (xA3 ρ1 I)
 | .no=> .no
def qsL (I:List Nat)(s:S):S:=fun ρ=>match s (xYy ρ I) with
 | .ok f ρ1=>if ((xA3 ρ1 I).all SD.nbS&&nbFl f)=true then .ok f (fixQ I ρ ρ1 f) else .no
 | .ex x ρ1=>if ((xA3 ρ1 I).all SD.nbS&&nbF x.fs)=true then .ex x (xA3 ρ1 I) else .no
 | .no=> .no
section
variable {κ:Ctx}{W:WX}{B:Bas}{I:List Nat}{ρ ρ1:List SD}{σ σ1:L2.St}{H H1 G G1:Hp}{N:Hp}{gs:List Gr}
end
section
variable {κ:Ctx}{X:Cx}{A:List Nat}{W:WX}{I J K:List Nat}{st:Stmt}{s t:S}{rest:List Stmt}{pos:Pos}
def qEnd (J:List Nat)(s:S):S:=fun ρ=>match s ρ with
 | .ok .nx ρ'=> .ok .nx (xA3 ρ' J)
 | .ok .bk _=> .no
 | .ok .ct _=> .no
 | r=>r
end
theorem xVa:(grA gs).Nodup-> ∀ {g x:Gr} {a:Addr},g∈gs->x∈gs->a∈g.ads->a∈x.ads->g=x:=by
 induction gs with
 | nil=>intro _ g x a hg;cases hg
 | cons y gs ih=>
  intro nd g x a hg hx ha hb
  have nd':(y.ads++grA gs).Nodup:=nd
  obtain ⟨_,n2,n3⟩:=yEr.mp nd'
  rcases yDo.mp hg with z|z <;> rcases yDo.mp hx with w|w
  ·rw [z,w]
  ·subst z
   exact absurd rfl (n3 a ha a (xNp w hb))
  ·subst w
   exact absurd rfl (n3 a hb a (xNp z ha))
  ·exact ih n2 z w ha hb
section
variable {κ:Ctx}{T:Pd}{G N N2:Hp}
theorem xTc (h:isLt d=true):ownF d=true:=by
 obtain ⟨r,rfl,h2⟩:=xO1 h
 exact h2
theorem xLa (gf: ∀ a,N a≠none->G a=none)(gf2: ∀ a,N2 a≠none->G a=none)(mu: ∀ a o,N a=some o->OwK o)(ht: ∀ a,N a≠none-> ¬ T a): ∀ {l:List D} {qs:List Addr},l.all isLt=true->(∀ a∈qs,N2 a=N a/\N a≠none)->RepL κ (plT T N) (plus G N) l (qs.map V.ref)->RepL κ (plT T N2) (plus G N2) l (qs.map V.ref)
 | [],qs,_,_,r=>r
 | d::l,[],_,_,r=>by
  obtain ⟨v,ws,e,_⟩:=r
  cases e
 | d::l,q::qs,hf,hq,r=>by
  obtain ⟨v,ws,e,h1,h2⟩:=r
  cases e
  (rw [yD6,yC5] at hf)
  refine ⟨.ref q,_,rfl,Rep.moveF gf gf2 mu (by rw [xTc hf.1,Bool.or_true]) (fun a e _=> ?_) (fun a _ e t=> ?_) h1,xLa gf gf2 mu ht hf.2 (fun a ha=>hq a (yC8 _ ha)) h2⟩
  ·cases e
   exact (hq q (yC2 ..)).1
  ·cases e
   exact ht q (hq q (yC2 ..)).2 t
end
section
variable {κ:Ctx}{B:Bas}{ρ:List SD}{σ:L2.St}{H H2 G:Hp}{N N2:Hp}{gs gs2:List Gr}
theorem Ok.swapG (o:Ok κ (opG B N gs) ρ σ H G)(h1: ∀ a,N2 a≠none->B.H a=none/\G a=none)(h2: ∀ a u,N2 a=some u->H2 a=some u/\OwK u)(h3: ∀ a u,H a=some u->N2 a=none->H2 a=some u)(h4: ∀ (j:Nat) d q,ρ[j]? =some (SD.ow d)->σ[j]? =some (some (V.ref q))->N2 q=none)
  (h5: ∀ a,N a≠none->N2 a≠none) (h6:LamX.Tabs κ.tabs H2) (h7: ∀ g∈gs2,σ[g.i]? =some (some (V.ref g.p))):Ok κ (opG B N2 gs2) ρ σ H2 G:=by
 have bN: ∀ {a:Addr} {u:HO},B.H a=some u->N2 a=none:=fun {a u} e=>yC3 fun z=>by
  rw [(h1 a z).1] at e
  cases e
 have bO: ∀ {a:Addr} {u:HO},B.H a=some u->plus B.H N a=some u:=fun {a u} e=>by
  have n2:=bN e
  have n:N a=none:=yC3 fun z=>h5 a z n2
  rw [xAd n]
  exact e
 refine ⟨⟨fun a u e nt=> ?_,fun a ps e=> ?_,fun a e=> ?_,o.fr.sub,fun a u e=> ?_,o.fr.notb,h6,fun a e=> ?_⟩,o.len,o.val,fun j d e=> ?_,o.sep,fun i p h=> ?_⟩
 ·have e:plus B.H N2 a=some u:=e
  cases z:N2 a with
  | some w=>
   rw [xAg z] at e
   cases e
   exact (h2 a _ z).1
  | none=>
   rw [xAd z] at e
   exact h3 a u (o.fr.keep a u (bO e) nt) z
 ·have e:plus B.H N2 a=some (.tbl ps):=e
  cases z:N2 a with
  | some w=>
   rw [xAg z] at e
   cases e
   exact (h2 a _ z).2
  | none=>
   rw [xAd z] at e
   exact o.fr.nt a ps (bO e)
 ·have e:plus B.H N2 a≠none:=e
  show G a=B.G a
  cases z:N2 a with
  | some w=>
   have g:=(h1 a (by rw [z];exact fun y=>nomatch y)).2
   cases y:B.G a with
   | none=>exact g
   | some u=>
    have:=o.fr.sub a u y
    rw [g] at this
    cases this
  | none=>
   rw [xAd z] at e
   cases y:B.H a with
   | none=>exact absurd y e
   | some u=>exact o.fr.frz a (by show plus B.H N a≠none;rw [bO y];exact fun q=>nomatch q)
 ·refine h3 a u (o.fr.gh a u e) ?_
  exact yC3 fun z=>by
   rw [(h1 a z).2] at e
   cases e
 ·have y:plus B.H N a≠none:=o.fr.lent a e
  show plus B.H N2 a≠none
  cases z:N2 a with
  | some w=>
   rw [xAg z]
   exact fun q=>nomatch q
  | none=>
   have n:N a=none:=yC3 fun q=>h5 a q z
   rw [xAd n] at y
   rw [xAd z]
   exact y
 ·obtain ⟨q,q1,q2,q3,q4⟩:=o.own j d e
  have nq:=h4 j d q e q1
  have n:N q=none:=yC3 fun y=>h5 q y nq
  obtain ⟨u,u1,_⟩:=q4.obj
  refine ⟨q,q1,q2,?_,q4.mono (Same.refl _) ((h3 q u u1 nq).trans u1.symm)⟩
  have q3:plus B.H N q=none:=q3
  rw [xAd n] at q3
  show plus B.H N2 q=none
  rw [xAd nq]
  exact q3
 ·rcases (yEa.mp h) with h|h
  ·obtain ⟨g,hg,e⟩:=yDi.mp h
   cases e
   exact h7 g hg
  ·exact o.anch i p (List.mem_append_right _ h)
theorem xZp {j:Nat}(o:Ok κ (opG B N gs) ρ σ H G)(hj:ρ[j]? =some (SD.ow e))(hs:σ[j]? =some (some (V.ref q))):N q=none:=by
 obtain ⟨q',q1,_,q3,_⟩:=o.own j e hj
 rw [hs] at q1
 cases q1
 have q3:plus B.H N q=none:=q3
 cases z:N q with
 | none=>rfl
 | some w=>
  rw [xAg z] at q3
  cases q3
def grPut (i n:Nat)(d:D)(gs:List Gr):List Gr:=gs.map fun x=>if x.i=i then { x with l:=x.l.set n d } else x
theorem QOk.same (q:QOk κ B gs N ρ σ H G)(hg:g∈gs)(hx:x∈gs)(e:x.i=g.i):x=g:=by
 have a:=q.ok.anch g.i g.p (xQ6 hg)
 have b:=q.ok.anch x.i x.p (xQ6 hx)
 rw [e,a] at b
 have e2:g.p=x.p:=by
  have z:=yDc.inj (yDc.inj b)
  injection z
 exact xVa q.ng.nd hx hg (a:=x.p) (yC2 ..) (by rw [<- e2];exact yC2 ..)
end
def rowQ (i:Nat)(a:D):M Nat:=fun ρ=>match ρ[i]?,a with
 | some (.ow (.lst true l)),.int j=>match ixN l.length j with
  | some n=> .ok n ρ
  | none=> .no
 | _,_=> .no
def putQ (i n:Nat)(b v:D):S:=fun ρ=>match ρ[i]?,b with
 | some (.ow (.lst true l)),.int m=>match l[n]? with
  | some (.lst true r)=>match ixN r.length m with
   | some k=>if v.nb=true then .ok .nx (ρ.set i (.ow (.lst true (l.set n (.lst true (r.set k v)))))) else .no
   | none=> .no
  | _=> .no
 | _,_=> .no
def sPutQ (I:List Nat)(i:Nat)(ma mb me:M SD):S:=(mX I (qL I D.nb (fE me))).bind fun v=>(mX I (qL I D.nb (fE ma))).bind fun a=>(rowQ i a).bind fun n=>(mX I (qL I D.nb (fE mb))).bind fun b=>putQ i n b v
section
variable {κ:Ctx}{X:Cx}{A:List Nat}{W:WX}{I:List Nat}{i:Nat}{x:Str}{a b e:Expr}{ma mb me:M SD}{p0 p1 p2 pos:Pos}
def sLeave (I:List Nat)(i:Nat)(m:M SD):S:=(mX I (qL I SD.nbS m)).bind fun r=>fun ρ=> .ok .nx (ρ.set i r)
end
def goQ (I:List Nat)(g:D->List SD->Option (List SD)):D->List SD->Option (List SD):=fun d ρ=>(g d (xA3 ρ I)).map fun ρ'=>unw ρ ρ' I
def forQ (g:D->List SD->Option (List SD))(b:S):List D->S
 | [],ρ=> .ok .nx ρ
 | d::l,ρ=>match g d ρ with
  | none=> .no
  | some ρ1=>match b ρ1 with
   | .ok .nx ρ2=>forQ g b l ρ2
   | .ok (.rt r) ρ2=> .ok (.rt r) ρ2
   | .ok _ _=> .no
   | .ex x ρ2=> .ex x ρ2
   | .no=> .no
def sForQ (m:M (List D))(g:D->List SD->Option (List SD))(b:S):S:=m.bind (forQ g b)
section
variable {κ:Ctx}{X:Cx}{A vs:List Nat}{W:WX}{I:List Nat}{e tg:Expr}{pos:Pos}
end
def lcN (vs:List Nat)(tg:D->List SD->Option (List SD))(te:M SD):List D->List D->M (List D)
 | [],acc,ρ=> .ok acc ρ
 | d::l,acc,ρ=>match tg d (xA3 ρ vs) with
  | none=> .no
  | some ρ1=>match te ρ1 with
   | .ok (.ow (.lst _ r)) ρ2=>if acc.length<1000000/\nbL r=true then lcN vs tg te l (acc++[.lst true r]) (unw ρ ρ2 vs) else .no
   | _=> .no
def xCx (κ:Ctx)(T:Pd)(H G:Hp):List D->List Addr->Prop
 | [],qs=>qs=[]
 | d::l,qs=> ∃ q ws r us,qs=q::ws/\d= .lst true r/\nbL r=true/\H q=some (.lst us)/\RepL κ T G r us/\xCx κ T H G l ws
section
variable {κ:Ctx}{T:Pd}{H H' G G':Hp}
theorem xCx.length: ∀ {l:List D} {qs:List Addr},xCx κ T H G l qs->qs.length=l.length
 | [],qs,h=>by rw [show qs=[] from h] <;> rfl
 | d::l,qs,h=>by
  obtain ⟨q,ws,r,us,rfl,_,_,_,_,h⟩:=h
  rw [yDa,yDa,h.length]
theorem xCx.own: ∀ {l:List D} {qs:List Addr},xCx κ T H G l qs->l.all isLt=true
 | [],qs,h=>rfl
 | d::l,qs,h=>by
  obtain ⟨q,ws,r,us,_,rfl,n,_,_,h⟩:=h
  rw [yD6,h.own,Bool.and_true]
  exact n
theorem xCx.mono (s:Same G G'): ∀ {l:List D} {qs:List Addr},(∀ a∈qs,∀ u,H a=some u->H' a=some u)->xCx κ T H G l qs->xCx κ T H' G' l qs
 | [],qs,_,h=>h
 | d::l,qs,k,h=>by
  obtain ⟨q,ws,r,us,rfl,e,n,h1,h2,h⟩:=h
  exact ⟨q,ws,r,us,rfl,e,n,k q (yC2 ..) _ h1,RepL.mono (.of s) r h2,h.mono s fun a ha=>k a (yC8 _ ha)⟩
theorem xCx.rep (gf: ∀ a,N a≠none->G a=none): ∀ {l:List D} {qs:List Addr},(∀ a∈qs,∀ u,H a=some u->N a=some u)->xCx κ T H G l qs->RepL κ (plT T N) (plus G N) l (qs.map V.ref)
 | [],qs,_,h=>by
  rw [show qs=[] from h]
  rfl
 | d::l,qs,k,h=>by
  obtain ⟨q,ws,r,us,rfl,rfl,n,h1,h2,h⟩:=h
  have hq:=k q (yC2 ..) _ h1
  exact ⟨.ref q,_,rfl,⟨q,us,rfl,⟨xAg hq,⟨fun _=>rfl,fun _=> .inr (by rw [hq];exact fun z=>nomatch z)⟩⟩,RepL.mono (xE3 gf) r h2⟩,xCx.rep gf (fun a ha=>k a (yC8 _ ha)) h⟩
theorem xCx.at_: ∀ {l:List D} {qs:List Addr},xCx κ T H G l qs-> ∀ a∈qs,∃ us,H a=some (.lst us)
 | [],qs,h,a,ha=>by
  rw [show qs=[] from h] at ha
  cases ha
 | d::l,qs,h,a,ha=>by
  obtain ⟨q,ws,r,us,rfl,rfl,n,h1,h2,h⟩:=h
  rcases yDo.mp ha with z|z
  ·exact ⟨us,by rw [z];exact h1⟩
  ·exact h.at_ a z
end
structure Fresh (κ:Ctx)(B:Bas)(ρ:List SD)(σ:L2.St)(G:Hp)(a:Addr):Prop where
 g:G a=none
 b:B.H a=none
 na: ∀ (j:Nat) (d:D),ρ[j]? =some (SD.ow d)->σ[j]? ≠some (some (V.ref a))
structure LcN (κ:Ctx)(B:Bas)(σ:L2.St)(G0:Hp)(p:Addr)(acc:List D)(qs:List Addr)(ρ:List SD)(H G:Hp):Prop where
 ok:Ok κ B ρ σ H G
 sub:Same G0 G
 fr: ∀ a∈p::qs,Fresh κ B ρ σ G a
 nd:(p::qs).Nodup
 at_:H p=some (.lst (qs.map V.ref))
 rows:xCx κ B.T H G acc qs
def PstN (κ:Ctx)(W:WX)(B:Bas)(σ:L2.St)(G0:Hp)(r:Rs (List D))(k:List D->List SD->Addr->List Addr->Hp->Hp->Prop):Prop:=match r with
 | .ok l ρ'=> ∀ p qs H' G',LcN κ B σ G0 p l qs ρ' H' G'->k l ρ' p qs H' G'
 | .ex _ _=>False
 | .no=>False
section
variable {κ:Ctx}{W:WX}{B:Bas}{ρ ρ1:List SD}{σ:L2.St}{H H1 G G1 G0:Hp}{p:Addr}{vs:List Nat}{g:D->List SD->Option (List SD)}{te:M SD}{l acc:List D}{qs:List Addr}
theorem LcN.obj (I:LcN κ B σ G0 p acc qs ρ H G)(ha:a∈p::qs): ∃ us,H a=some (.lst us):=by
 rcases yDo.mp ha with z|z
 ·exact ⟨_,by rw [z];exact I.at_⟩
 ·exact I.rows.at_ a z
end
def newN (H1 N:Hp)(as:List Addr):Hp:=fun a=>if a∈as then H1 a else N a
theorem xXj (h:a∈as):newN H1 N as a=H1 a:=if_pos h
theorem xT7 (h:a∉as):newN H1 N as a=N a:=if_neg h
def sEnter (I:List Nat)(i:Nat)(it:M (List D))(vs:List Nat)(g:D->List SD->Option (List SD))(te:M SD):S:=fun ρ=>match it (xA3 ρ I) with
 | .ok l ρ0=>match lcN vs g te l [] ρ0 with
  | .ok rows ρ1=>if i<ρ1.length then .ok .nx ((unw ρ ρ1 I).set i (.ow (.lst true rows))) else .no
  | _=> .no
 | .ex x ρ0=> .ex x (xA3 ρ0 I)
 | .no=> .no
section
variable {κ:Ctx}{B:Bas}{ρ ρ1:List SD}{σ:L2.St}{H H1 G G0 G1:Hp}{N:Hp}{gs:List Gr}{i:Nat}
end
section
variable {κ:Ctx}{X:Cx}{A:List Nat}{W:WX}{I:List Nat}{iter elt tg:Expr}{scope:Scope}{own:List (Str×Nat)}{pos:Pos}{it:M (List D)}{g:D->List SD->Option (List SD)}{te:M SD}
end
section
variable {α:Type}{ρ:List SD}{E:Exn->List SD->Prop}{I J:List Nat}{i:Nat}{p:α->List SD->Prop}{s:Fl->List SD->Prop}{q:SD->List SD->Prop}{t:Bool->List SD->Prop}
variable {pl:List D->List SD->Prop}
end
section
variable {κ:Ctx}{B:Bas}{ρ ρ1:List SD}{σ:L2.St}{H H1 G G0 G1:Hp}{N:Hp}{gs ks:List Gr}{i:Nat}
theorem NG.add (n:NG κ B G N ks)(o:Ok κ (opG B N gs) ρ σ H G)(s0:Same G G0)(c:LcN κ (opG B N gs) σ G0 p l qs ρ1 H1 G1)(i:Nat):
  NG κ B G1 (newN H1 N (p::qs)) (⟨i,p,l,qs⟩::ks)/\Ok κ (opG B (newN H1 N (p::qs)) gs) ρ1 σ H1 G1:=by
 have frN: ∀ a∈p::qs,N a=none/\B.H a=none:=fun a ha=>by
  have h:plus B.H N a=none:=(c.fr a ha).b
  cases z:N a with
  | some w=>
   rw [xAg z] at h
   cases h
  | none=>
   rw [xAd z] at h
   exact ⟨rfl,h⟩
 have hin: ∀ {a:Addr},a∈p::qs->(newN H1 N (p::qs)) a=H1 a:=fun ha=>xXj ha
 have hout: ∀ {a:Addr},a∉p::qs->(newN H1 N (p::qs)) a=N a:=fun ha=>xT7 ha
 have keepN: ∀ {a:Addr} {u:HO},N a=some u->(newN H1 N (p::qs)) a=some u:=fun {a u} h=>by
  rw [hout fun z=>by rw [(frN a z).1] at h;cases h]
  exact h
 have obj: ∀ a∈p::qs,∃ us,H1 a=some (.lst us):=fun a ha=>c.obj ha
 have gl: ∀ a,N a≠none->G1 a=none:=fun a h=>by
  have h1:plus B.H N a≠none:=by
   cases e:N a with
   | none=>exact absurd e h
   | some u=>
    rw [xAg e]
    exact fun z=>nomatch z
  have e1:=o.fr.frz a h1
  have e2:=c.ok.fr.frz a h1
  rw [n.gfree a h] at e1
  rw [e2,<- e1]
 have sG:Same G G1:=s0.trans c.sub
 have split: ∀ {a:Addr},(newN H1 N (p::qs)) a≠none->a∈p::qs\/(a∉p::qs/\N a≠none):=fun {a} h=>by
  by_cases z:a∈p::qs
  ·exact .inl z
  ·exact .inr ⟨z,by rw [<- hout z];exact h⟩
 have gf2: ∀ a,(newN H1 N (p::qs)) a≠none->G1 a=none:=fun a h=>(split h).elim (fun z=>(c.fr a z).g) fun z=>gl a z.2
 have mu2: ∀ a w,(newN H1 N (p::qs)) a=some w->OwK w:=fun a w h=>by
  by_cases z:a∈p::qs
  ·rw [hin z] at h
   obtain ⟨us,hu⟩:=obj a z
   rw [hu] at h
   cases h
   exact True.intro
  ·rw [hout z] at h
   exact n.mu a w h
 have free2: ∀ a,(newN H1 N (p::qs)) a≠none->B.H a=none:=fun a h=>(split h).elim (fun z=>(frN a z).2) fun z=>n.free a z.2
 have tf: ∀ a∈p::qs,¬ B.T a:=fun a ha t=>c.ok.fr.lent a t (c.fr a ha).b
 have bgf: ∀ a∈p::qs,B.G a=none:=fun a ha=>by
  cases z:B.G a with
  | none=>rfl
  | some u=>
   have:=c.ok.fr.sub a u z
   rw [(c.fr a ha).g] at this
   cases this
 have nA: ∀ a∈grA ks,a∉p::qs:=fun a ha z=>n.inN a ha (frN a z).1
 refine ⟨⟨free2,gf2,fun a h=>(split h).elim (fun z=>bgf a z) fun z=>n.bg a z.2,fun a h=>(split h).elim (fun z=>tf a z) fun z=>n.nt a z.2,mu2,fun g hg=> ?_,?_,fun a ha=> ?_⟩,?_⟩
 ·rcases yDo.mp hg with z|z
  ·subst z
   exact ⟨by rw [hin (yC2 ..)];exact c.at_,xCx.rep gf2 (fun a ha u hu=>by rw [hin (yC8 _ ha)];exact hu) c.rows,c.rows.own⟩
  ·have ga:=n.at_ g z
   refine ⟨keepN ga.here,xLa (N:=N) gl gf2 n.mu n.nt ga.own (fun a ha=> ?_) (RepL.mono (Mono.of ?_) g.l ga.rows),ga.own⟩
   ·have:=xNp z (yC8 g.p ha)
    exact ⟨hout (nA a this),n.inN a this⟩
   ·intro a u h
    cases z:N a with
    | some w=>
     rw [xAg z] at h ⊢
     exact h
    | none=>
     rw [xAd z] at h ⊢
     exact sG a u h
 ·show ((p::qs)++grA ks).Nodup
  exact yEr.mpr ⟨c.nd,n.nd,fun a ha b hb z=>nA b hb (by rw [<- z];exact ha)⟩
 ·have ha:a∈(p::qs)++grA ks:=ha
  rcases yEa.mp ha with z|z
  ·rw [hin z]
   obtain ⟨us,hu⟩:=obj a z
   rw [hu]
   exact fun y=>nomatch y
  ·rw [hout (nA a z)]
   exact n.inN a z
 ·refine c.ok.swapG (gs2:=gs) (fun a h=>⟨free2 a h,gf2 a h⟩) (fun a w h=>⟨?_,mu2 a w h⟩) (fun a w h _=>h) (fun j e q' hj hs=> ?_) (fun a h=> ?_) c.ok.fr.tabs (fun g hg=> ?_)
  ·by_cases z:a∈p::qs
   ·rw [hin z] at h
    exact h
   ·rw [hout z] at h
    exact xVb c.ok n.mu h
  ·have n1:=xZp c.ok hj hs
   have n2:q'∉p::qs:=fun z=>(c.fr q' z).na j e hj hs
   rw [hout n2]
   exact n1
  ·by_cases z:a∈p::qs
   ·exact absurd (frN a z).1 h
   ·rw [hout z]
    exact h
  ·exact c.ok.anch g.i g.p (xQ6 hg)
end
def sEnter2 (I:List Nat)(i j:Nat)(it:M (List D))(vs:List Nat)(g:D->List SD->Option (List SD))(te:M SD)(it2:M (List D))(vs2:List Nat)(g2:D->List SD->Option (List SD))(te2:M SD):S:=fun ρ=>match it (xA3 ρ I) with
 | .ok l ρ0=>match lcN vs g te l [] ρ0 with
  | .ok rows ρ1=>match it2 ρ1 with
   | .ok l2 ρ2=>match lcN vs2 g2 te2 l2 [] ρ2 with
    | .ok rows2 ρ3=>if i<ρ3.length/\j<ρ3.length then .ok .nx (((unw ρ ρ3 I).set i (.ow (.lst true rows))).set j (.ow (.lst true rows2))) else .no
    | _=> .no
   | .ex x ρ2=> .ex x (xA3 ρ2 I)
   | .no=> .no
  | _=> .no
 | .ex x ρ0=> .ex x (xA3 ρ0 I)
 | .no=> .no
section
variable {κ:Ctx}{X:Cx}{A:List Nat}{W:WX}{I:List Nat}{iter elt tg iter2 elt2 tg2:Expr}{scope scope2:Scope}{own own2:List (Str×Nat)}{cp cp2:Pos}{it it2:M (List D)}{g g2:D->List SD->Option (List SD)}{te te2:M SD}
end
section
variable {ρ:List SD}{E:Exn->List SD->Prop}{I:List Nat}{i j:Nat}{s:Fl->List SD->Prop}
end
def NvR (X:Cx)(H:Hp)(x y:V)(p a:Addr)(ks:List (NestedKey×Addr))(ss:List Str)(k:NestedKey):Prop:=
 y= .ref p/\x= .ref a/\H p=some (.ext (NvO X.w p ks ss))/\ ∀ (pins:List (Addr×Obj)) (σ:L2.St) (s:Shared),Inv X pins σ H s->(nestedKind X.prog X.w).is s.heap k a/\ ∀ z∈ks,(nestedKind X.prog X.w).is s.heap z.1 z.2
section
variable {X:Cx}{κ:Ctx}{W:WX}
abbrev rNvN (X:Cx):R2:=fun x y H Q=> ∃ p a ks ss k,NvR X H x y p a ks ss k/\Q (.bl (!(ks.any fun z=>decide (z.1=k)))) H
def ninvD:D->D->Option SD
 | d,.nv _ l _=>if kyB d then some (.va (.bl (!l.any fun e=>peq e d))) else none
 | _,_=>none
def nvV:List (NestedKey×Addr)->List Str->NestedKey->Option V
 | z::ks,s::ss,k=>if z.1=k then some (.str s) else nvV ks ss k
 | _,_,_=>none
def tNvG (X:Cx)(td ty tx:TE):TE:=fun σ H Q=>td σ H fun x H1=> ∃ p ks ss,x= .ref p/\H1 p=some (.ext (NvO X.w p ks ss))/\ty σ H1 fun y H2=>tx σ H2 fun z H3=> ∃ a k,NvR X H3 y x p a ks ss k/\Q ((nvV ks ss k).getD z) H3
def nvG:List D->List Str->D->Option Str
 | d::l,s::ss,k=>if peq d k then some s else nvG l ss k
 | _,_,_=>none
def isNvA:D->Bool
 | .nv _ _ _=>true
 | _=>false
def getNv (d k:D):Option SD:=match d with
 | .nv _ l ss=>if kyB k then some (.va (((nvG l ss k).map D.str).getD .non)) else none
 | _=>none
def mGetNv (ma mk:M SD):M SD:=(fE ma).bind fun d=>if isNvA d then (fE mk).bind fun k=>M.opt (getNv d k) else M.no
end
def tNv0 (X:Cx):TE:=fun σ H Q=> ∀ p,H p=none->((∃ h,NvO X.w p [] [] h)->Q (.ref p) (upd H p (.ext (NvO X.w p [] []))))
def oSetE (i:Nat)(c0:String)(f:Str):S:=fun ρ=>match ρ[i]? with
 | some (.ow (.ins b c l))=>if c=c0/\l.length<1000 then .ok .nx (ρ.set i (.ow (.ins b c (xBy f (.nv true [] []) l)))) else .no
 | _=> .no
section
variable {κ:Ctx}{X:Cx}{A:List Nat}{W:WX}{i:Nat}{x:Str}{e:Expr}{f:Str}{m:M SD}{c0:String}{p1 p2 p3 pos:Pos}
end
abbrev rNvP (X:Cx):TSet:=fun y x v H Q=> ∃ p a ks ss k s,NvR X H x y p a ks ss k/\v= .str s/\ks.length<sizeLine/\(ks.any fun z=>decide (z.1=k))=false/\((∃ h,NvO X.w p (ks++[(k,a)]) (ss++[s]) h)->Q (upd H p (.ext (NvO X.w p (ks++[(k,a)]) (ss++[s])))))
def isNv:D->Bool
 | .nv true l _=>nbL l
 | _=>false
def putNS (i:Nat)(f:Str)(d k:D):S:=fun ρ=>match ρ[i]? with
 | some (.ow (.ins b c l))=>match l.lookup f,d with
  | some (.nv true m ss),.str s=>if kyB k&&decide (m.length<1000000)&&(nbL m&&k.nb)&& !(m.any fun e=>peq e k) then .ok .nx (ρ.set i (.ow (.ins b c (xBy f (.nv true (m++[k]) (ss++[s])) l)))) else .no
  | _,_=> .no
 | _=> .no
def oPutN (i:Nat)(c0:String)(f:Str)(mk me:M SD):S:=(fO me).bind fun d=>xFe i c0 f isNv ((xC1 i (fE mk)).bind fun k=>putNS i f d k)
section
variable {κ:Ctx}{X:Cx}{A:List Nat}{W:WX}{i:Nat}{x:Str}{e:Expr}{f:Str}{c0:String}{p1 p2 pos:Pos}
end
section
variable {ρ:List SD}{E:Exn->List SD->Prop}{p:SD->List SD->Prop}{s:Fl->List SD->Prop}{i:Nat}{c0:String}{f:Str}
end
def minLD:List D->Option SD
 | [.lst _ l]=>match xLr l with
  | some (x::ns)=>some (.va (.int (ns.foldl min x)))
  | _=>none
 | _=>none
section
variable {κ:Ctx}
end
section
variable {X:Cx}{κ:Ctx}{A:List Nat}{W:WX}{iter elt tg iter1 tg1:Expr}{scope:Scope}{own:List (Str×Nat)}{vs1:List Nat}{pos:Pos}{it it1:M (List D)}{g g1:D->List SD->Option (List SD)}{te:M SD}
end
def sAug1 (i:Nat)(g:Int->Int):S:=fun ρ=>match ρ[i]? with
 | some (.va (.int v))=> .ok .nx (ρ.set i (.va (.int (g v))))
 | _=> .no
section
variable {X:Cx}{κ:Ctx}{W:WX}{A:List Nat}
end
def spI3 (K:PySem.W.Frag)(f z g k:Str):Sp:=fun vs H Q E=> ∃ (a C:Addr) (y u:V),vs=[.ref a,y,u]/\OexC K C/\(PySem.W.findIn K (.ref C) f=some none/\PySem.W.findIn K (.ref C) g=some none/\PySem.W.findIn K (.ref C) k=some none)/\H a=some (exo a C none)/\
 ∀ dx,H dx=none->dx≠a->Q .non (upd (upd (upd (upd H dx (exd dx [(f,.str z)])) a (exo a C (some dx))) dx (exd dx [(g,y),(f,.str z)])) dx (exd dx [(k,u),(g,y),(f,.str z)]))
structure ExC3 (P:Program)(w:World)(K:PySem.W.Frag)(mg:Str->Option Value)(base:Heap)(κ:Ctx)(x:Str)(c:String)(f z g k n n2:Str)(fI:Addr)(fd:FuncData):Prop where
 T:OexC K (κ.cl c)
 no:PySem.W.findIn K (.ref (κ.cl c)) f=some none/\PySem.W.findIn K (.ref (κ.cl c)) g=some none/\PySem.W.findIn K (.ref (κ.cl c)) k=some none
 iC:PySem.W.findIn K (.ref (κ.cl c)) "__init__"=some (some (.ref fI))
 tI:PySem.W.typeIn K (.ref fI)=some (.type "function")
 ok:FnOk P w K mg base (L2N.CX P w) 1 fI fd ["self",n,n2] (spI3 K f z g k)
 bd:Binds K fd ["self",n,n2] []
 gl:mg x=some (.ref (κ.cl c))
def sEx2 (c:String)(f z g k:Str)(m m2:M SD):S:=(fE m).bind fun d=>(fE m2).bind fun d2=>sEx ⟨c,[(k,d2),(g,d),(f,.str z)]⟩
section
variable {X:Cx}{κ:Ctx}{A:List Nat}{W:WX}{x:Str}{c:String}{f z g k n n2:Str}{fI:Addr}{fd:FuncData}{e e2:Expr}{m m2:M SD}{p p2 pos:Pos}
end
def ltSD:D->D->Option SD
 | .str i,.str j=>some (.va (.bl (decide (i.cps.toList<j.cps.toList))))
 | _,_=>none
set_option maxHeartbeats 990000
section
variable {X:Cx}{κ:Ctx}{W:WX}{p pos:Pos}
theorem vZ (i:Nat){x:Str}(hN:X.N[i]? =some x:=by rfl)(hv:Vis X.env.scope x:=by first|exact Or.inl rfl|exact Or.inr (Or.inl rfl)|exact Or.inr (Or.inr rfl))(hd:(x==("__debug__":Str))=false:=by decide)
  (hcd:(x==("__classdict__":Str))=false:=by decide):PE X (.Name x pos) (tE κ W (mVar i)):=e_var (pv i hN hv hd hcd)
theorem suZ {k:Nat}(hr:Room k X.A)(i:Nat){x:Str}{b:Expr}{m:M SD}(hb:PE X b (tE κ W m))(hN:X.N[i]? =some x:=by rfl)(hv:Vis X.env.scope x:=by first|exact Or.inl rfl|exact Or.inr (Or.inl rfl)|exact Or.inr (Or.inr rfl))(hd:(x==("__debug__":Str))=false:=by decide)
  (hcd:(x==("__classdict__":Str))=false:=by decide) (hK:X.K=κ.K:=by rfl) (hs:PlainIx b:=by exact fun _ _=>rfl):PE X (.Subscript (.Name x p) b pos) (tE κ W (xAy i m)):=
 xT0 hK (xAr hr) (pv i hN hv hd hcd) hb hs
theorem al1 {m:M SD}:ALen (aVa m aNil) 1:=xKh xVp
theorem al2 {m m1:M SD}:ALen (aVa m (aVa m1 aNil)) 2:=xKh al1
theorem al3 {m m1 m2:M SD}:ALen (aVa m (aVa m1 (aVa m2 aNil))) 3:=xKh al2
theorem al4 {m m1 m2 m3:M SD}:ALen (aVa m (aVa m1 (aVa m2 (aVa m3 aNil)))) 4:=xKh al3
end
section
variable {X:Cx}{A vs:List Nat}{pos:Pos}
theorem gnZ (nd:X.N.Nodup)(i:Nat){x:Str}(hi:X.N[i]? =some x:=by rfl)(hx:Loc X.env.scope x:=by first|exact Or.inl rfl|exact Or.inr rfl)(hf:X.fn x=true\/X.env.scope.names.lookup x=some .local:=by first|exact .inl rfl|exact .inr rfl|assumption)
  (n:A.contains i=false:=by rfl) (hv:vs.contains i=true:=by rfl):PG X (.Name x pos) (tG κ A vs (gN i)):=yCy (pg_name nd (i:=i) hi hx hf) n hv
end
section
variable {X:Cx}{κ:Ctx}{W:WX}{A:List Nat}{k k':Nat}{f:Addr}{fd:FuncData}{ps:List Str}{fn:List SD->FR}{x:Str}{p pos:Pos}{e:Expr}{es:List Expr}{n:M (List Ar)}
theorem stZ (hN:X.N.Nodup)(i:Nat){m:M SD}{p':Pos}(h:PE X e (tE κ W m))(hi:X.N[i]? =some x:=by rfl)(hx:Loc X.env.scope x:=by first|exact Or.inl rfl|exact Or.inr rfl)(n:A.contains i=false:=by rfl)(hs:swapsWith e (some (.Name x p')) pos.line X.env=pure false:=by rfl)
  (hf:X.fn x=true\/X.env.scope.names.lookup x=some .local:=by first|exact .inl rfl|exact .inr rfl|assumption):PS X (.Assign [.Name x p'] e pos) (tS κ A W (sSet i m)):=s_set hN (i:=i) hi hx h n hs hf
theorem ccZ (C:Callee X.prog X.w X.K X.mg X.base κ x k ps fn f fd)(hb:Binds X.K fd ps [])(hr:Room k' X.A)(ha:PA X (e::es) (tAr κ W n))(hl:ALen n ps.length)(hk:k<=k':=by decide)(hg:Gl X x:=by rfl)
  (hx:xKk X W:=by first|exact xC6 (L2N.takes_of rfl rfl rfl rfl)|exact xVu) (hdb:(x==("__debug__":Str))=false:=by decide) (he:starEach (e::es) X.env=(false,eval e X.env)::starEach es X.env:=by rfl) (hpl:(backTo pos (starEach es X.env)).any (·.1)=false:=by rfl):
  PE X (.Call (.Name x p) (e::es) [] pos) (tE κ W (xAx fn [] n)):=xX8 C hb hr hk hg hx ha hl hdb he hpl
theorem cbZ {id:String}{r:List V->Hp->VK->Prop}{g:List D->Option SD}{n:M (List D)}(hc:CallR X (.builtin id) r)(hr:xDx κ r g)(hm:X.mg x=none)(ha:PA X (e::es) (tA κ W n))(hg:Gl X x:=by rfl)(hv:bootBuiltins x=some (.builtin id):=by decide +kernel)(hn:x≠"__name__":=by decide)(hdb:(x==("__debug__":Str))=false:=by decide)
  (he:starEach (e::es) X.env=(false,eval e X.env)::starEach es X.env:=by rfl) (hpl:(backTo pos (starEach es X.env)).any (·.1)=false:=by rfl):
  PE X (.Call (.Name x p) (e::es) [] pos) (tE κ W (mCB g n)):=xBq hc hr hg hm hv ha hn hdb he hpl
theorem ctZ {T:String}{r:List V->Hp->VK->Prop}{g:List D->Option SD}{n:M (List D)}(hc:CallR X (.type T) r)(hr:xDx κ r g)(hm:X.mg x=none)(ha:PA X (e::es) (tA κ W n))(hg:Gl X x:=by rfl)(hv:bootBuiltins x=some (.type T):=by decide +kernel)(hn:x≠"__name__":=by decide)(hdb:(x==("__debug__":Str))=false:=by decide)
  (he:starEach (e::es) X.env=(false,eval e X.env)::starEach es X.env:=by rfl) (hpl:(backTo pos (starEach es X.env)).any (·.1)=false:=by rfl):
  PE X (.Call (.Name x p) (e::es) [] pos) (tE κ W (mCB g n)):=xOp hc hr hg hm hv ha hn hdb he hpl
end
section
variable {P:Program}{w:World}{K:PySem.W.Frag}{f:Addr}{fd:FuncData}{mg:Str->Option Value}{base:Heap}{x qual:Str}{params:Arguments}{body:List Stmt}{scope:Scope}{dvs:List V}{kws:List (Str×V)}
theorem dfZ {κ:Ctx}{A:List Nat}{N ps:List Str}{k n:Nat}{s:S}(F:FunD K x qual params body scope dvs kws f fd)(Sc:FnScope N ps scope)(hn:N.length=n)
  (hbody: ∀ (cdv:Value) (Ar:Around) (outer:List Env) (s0:Shared) (H:Hp) (E:XK),Room k (Ar.deeper (envOfC qual scope s0.heap.objs.size f cdv))->
   PSs (cxOf (L2N.CX P w) P w K mg base N qual scope f cdv Ar outer s0 H E) body (tS κ A (fun cls d _ H=>E cls d H) s)):FnOk P w K mg base (L2N.CX P w) (k+1) f fd ps (spF κ ps.length (runN A n s)):=by
 subst hn
 exact xTx F Sc hbody
theorem scZ {N P:List Str}{sc:Scope}(h:(decide (sc.kind= .function)&& !sc.isCoroutine&& !sc.isGenerator&&decide N.Nodup&&decide (N.take P.length=P)&&P.all (fun x=>decide (sc.names.lookup x=some .local\/sc.names.lookup x=some .cell))&&sc.names.all fun y=>decide (y.2≠ .free))=true):FnScope N P sc:=by
 simp only [yC5,decide_eq_true_eq,yDt,yDm] at h
 obtain ⟨⟨⟨⟨⟨⟨h1,h2⟩,h3⟩,h4⟩,h5⟩,h6⟩,h7⟩:=(h)
 exact (⟨h1,h2,h3,h4,h5,h6,h7⟩)
end
set_option maxHeartbeats 1990000
def rStrI (C:Addr)(sp:Sp):List V->Hp->VK->Prop:=fun xs H Q=> ∃ a dx fs,xs=[.ref a]/\H a=some (.ins C dx fs)/\sp [.ref a] H (fun v H'=> ∃ x:Str,v= .str x/\Q (.str x) H') fun _ _ _=>False
def rTruI (C:Addr)(sp:Sp):V->Hp->(Bool->Hp->Prop)->Prop:=fun x H Q=> ∃ a dx fs,x= .ref a/\H a=some (.ins C dx fs)/\sp [.ref a] H (fun v H'=> ∃ n:Int,v= .int n/\(0<=n/\n<2 ^ 62)/\Q (n != 0) H') fun _ _ _=>False
def rBoolI (C:Addr)(sp:Sp):List V->Hp->VK->Prop:=fun xs H Q=> ∃ x,xs=[x]/\rTruI C sp x H fun b H'=>Q (.bl b) H'
def strID (c:String)(fs:List SD->FR):List D->Option SD
 | [.ins b c1 l]=>if c1=c then match fs [.va (.ins b c1 l)] with
  | .ok (.va (.str x)) _=>some (.va (.str x))
  | _=>none
  else none
 | _=>none
def xXu (c:String)(fs:List SD->FR):D->Option Bool
 | .ins b c1 l=>if c1=c then match fs [.va (.ins b c1 l)] with
  | .ok (.va (.int n)) _=>if 0<=n/\n<2 ^ 62 then some (n != 0) else none
  | _=>none
  else none
 | _=>none
def boolID (c:String)(fs:List SD->FR):List D->Option SD
 | [d]=>(xXu c fs d).map fun b=> .va (.bl b)
 | _=>none
section
variable {X:Cx}{κ:Ctx}{c:String}{k:Nat}{ps:List Str}{fs:List SD->FR}{f:Addr}{fd:FuncData}{W:WX}
def mTruI (c:String)(fs:List SD->FR)(m:M SD):M Bool:=(fE m).bind fun d=>M.opt (xXu c fs d)
end
inductive FPt where
 | c (s:Str)|m (m:M SD)
def mJs:List FPt->Str->M SD
 | [],acc=>M.ret (.va (.str acc))
 | .c s::ps,acc=>if (acc++s).length<=1000000 then mJs ps (acc++s) else M.no
 | .m m::ps,acc=>(fE m).bind fun d=>(M.opt (fmtD d)).bind fun x=>if (acc++x).length<=1000000 then mJs ps (acc++x) else M.no
inductive FJ (X:Cx)(κ:Ctx)(W:WX):List Expr->List FPt->Prop where
 | nil:FJ X κ W [] []
 | c (h:PE X e (tC (.str s))) (r:FJ X κ W es ps):FJ X κ W (e::es) (.c s::ps)
 | m (h:PE X e (tE κ W m)) (r:FJ X κ W es ps):FJ X κ W (.FormattedValue e (-1) none p::es) (.m m::ps)
def FPt.te (κ:Ctx)(W:WX):FPt->TE
 | .c s=>tC (.str s)
 | .m z=>tFmt (tE κ W z)
section
variable {X:Cx}{κ:Ctx}{W:WX}{σ:L2.St}{H:Hp}{Q:VK}
end
def mLClr (i:Nat):M SD:=fun ρ=>match ρ[i]? with
 | some (.ow (.lst b _))=> .ok (.va .non) (ρ.set i (.ow (.lst b [])))
 | _=> .no
def appT:SD->M SD
 | .ow (.lst _ l)=>if l.length<1000000 then M.ret (.va .non) else M.no
 | _=>M.no
def mAppT (m:M SD):M SD:=m.bind appT
section
variable {X:Cx}{κ:Ctx}{W:WX}{σ:L2.St}{H:Hp}{Q:VK}
end
end Fm
namespace Fm
section
open PySem PySem.Spec
section
variable {prog:Program}{w:World}{A:Around}{E:Value->Shared->Prop}{s:Shared}{K:PySem.W.Frag}{a C f:Addr}{ox:Obj}{od:Option Obj}{v:Value}{T id:String}
end
structure Chn (prog:Program)(w:World)(A:Around)(E:Value->Shared->Prop)(l:Addr)(N:Nat)(x:Value)(F:Shared->Prop)(P:Nat->Shared->Prop):Prop where
 go: ∀ i s,P i s-> ∃ (items:Array Value) (n:Nat) (dd:Option Addr) (sl:Array (Option Value)),s.heap.get? l=some { cls:= .type "list",dict:=dd,data:= .seq items n,slots:=sl }/\items.size=N/\(∀ h:i<items.size,wpAny (model prog w) A (eqBool items[i] x) (fun b s'=>b=false/\P (i+1) s') E s)
 fin: ∀ s,P N s->F s
open MeetsSeq MeetsSeq2 MeetsSeq3 SeqRoads2 in
open MeetsSeq MeetsSeq2 MeetsSeq3 SeqRoads2 in
end
open L2 PySem PySem.Spec PyProof.Rows
def itOk (K:PySem.W.Frag)(H:Hp)(y:V):Prop:=(∃ s,y= .str s)\/(∃ i,y= .int i)\/ ∃ b zs,y= .ref b/\SqT K H b zs
def chS (K:PySem.W.Frag)(C:Addr)(sp:Sp)(a l:Addr)(xs:List V):List V->Hp->(Hp->Prop)->Prop
 | [],H,Q=>H l=some (.lst xs)/\Q H
 | y::ys,H,Q=>H l=some (.lst xs)/\(∃ dx fs,H a=some (.ins C dx fs))/\itOk K H y/\sp [.ref a,y] H (fun v H'=>v= .bl false/\chS K C sp a l xs ys H' Q) fun _ _ _=>False
def rInI (K:PySem.W.Frag)(C:Addr)(sp:Sp):R2:=fun x y H Q=> ∃ a l xs,x= .ref a/\y= .ref l/\chS K C sp a l xs xs H fun H'=>Q (.bl false) H'
section
variable {X:Cx}{κ:Ctx}{c:String}{k:Nat}{ps:List Str}{fs:List SD->FR}{f:Addr}{fd:FuncData}
end
def itD:D->Bool
 | .str _| .int _| .tup _=>true
 | _=>false
def inIL (fs:List SD->FR)(d:D):List D->Bool
 | []=>true
 | e::l=>itD e&&(match fs [.va d,.va e] with
  | .ok (.va (.bl false)) _=>inIL fs d l
  | _=>false)
def inID (c:String)(fs:List SD->FR)(d e:D):Option SD:=match d,e with
 | .ins b c1 m,.lst _ l=>if c1=c then (if inIL fs (.ins b c1 m) l then some (.va (.bl false)) else none) else none
 | _,_=>none
section
variable {X:Cx}{κ:Ctx}{c:String}{k:Nat}{ps:List Str}{fs:List SD->FR}{B:Bas}{ρ:List SD}{σ:L2.St}
end
end Fm
namespace Fm
open L2 PySem PySem.Spec PyProof.Rows
open PySem.W (EqTree)
def eAt (l m:List (Key×D))(k:Key):Bool:=match getK l k,getK m k with
 | some (.int i),some (.int j)=>i==j
 | _,_=>false
def dkEq (l m:List (Key×D)):Bool:=l.length==m.length&&(l.map (·.1)).all fun k=>(getK m k).isSome&&eAt l m k
def isI:D->Bool
 | .int _=>true
 | _=>false
def intK (l:List (Key×D)):Bool:=(l.all fun p=>isI p.2)&&decide (l.map (·.1)).Nodup
def cmp7 (d e:D):Option Bool:=match d,e with
 | .dk _ l,.dk _ m=>if intK l&&intK m then some (dkEq l m) else none
 | d,e=>if d.pl 60&&e.pl 60 then some (peq d e) else none
def eq7L:List D->List D->Option (List Bool)
 | [],[]=>some []
 | d::l,e::m=>(cmp7 d e).bind fun b=>(eq7L l m).map (b:: ·)
 | _,_=>none
def eq7D (d e:D):Option SD:=match d,e with
 | .tup l,.tup m=>(eq7L l m).map fun bs=> .va (.bl (bs.all id))
 | _,_=>none
section
variable {X:Cx}{κ:Ctx}
def EqB (X:Cx)(H:Hp)(n:Nat)(x y:V)(b:Bool):Prop:= ∀ (pins:List (Addr×Obj)) (σ:L2.St) (s:Shared) (v u:Value),Inv X pins σ H s->RelV x v->RelV y u->EqTree X.prog X.w s n v u b
def rEq7 (X:Cx):R2:=fun x y H Q=> ∃ a b xs ys bs,x= .ref a/\y= .ref b/\SqT X.K H a xs/\SqT X.K H b ys/\yEl (α:=Bool) bs=xs.length/\bs.length=ys.length/\(∀ (pins:List (Addr×Obj)) (σ:L2.St) (s:Shared) (us ws:List Value),Inv X pins σ H s->Vals xs us->Vals ys ws->
  ∀ j (h1:j<us.length) (h2:j<ws.length) (h3:j<bs.length),EqTree X.prog X.w s 65 us[j] ws[j] bs[j])/\Q (.bl (bs.all id)) H
def rEq8 (X:Cx):R2:=fun x y H Q=> ∃ (a b:Addr) (ks ls:List (Key×V)) (e:Key->Bool) (r:Bool),x= .ref a/\y= .ref b/\Rd H a (.dK ks)/\Rd H b (.dK ls)/\(∀ (s:Shared) (va vb:List (Key×Value)),KV ks va->KV ls vb->(∀ k v y,(k,v)∈va->valueAt vb k=some y->EqTree X.prog X.w s 64 v y (e k))/\
  (va.length==vb.length&&va.all fun p=>(valueAt vb p.1).isSome&&e p.1)=r)/\Q (.bl r) H
def eq8D (d e:D):Option SD:=match d,e with
 | .dk _ l,.dk _ m=>if intK l&&intK m then some (.va (.bl (dkEq l m))) else none
 | _,_=>none
end
section
variable {X:Cx}{κ:Ctx}{W:WX}
def mNotI (c:String)(fs:List SD->FR)(m:M SD):M SD:=(fE m).bind fun d=>M.opt ((xXu c fs d).map fun b=> .va (.bl (!b)))
def revD:D->Option SD
 | .lst _ l=>some (.ow (.lst false l.reverse))
 | _=>none
end
def isRf:D->Bool
 | .lst _ _| .dk _ _=>true
 | _=>false
def sKeep (j:Nat)(s:S):S:=fun ρ=>match ρ[j]? with
 | some (.va d)=>if isRf d then (match s (ρ.set j .un) with
  | .ok f ρ'=> .ok f (ρ'.set j (.va d))
  | .ex x ρ'=> .ex x (ρ'.set j (.va d))
  | .no=> .no) else .no
 | _=> .no
section
variable {κ:Ctx}{B:Bas}{ρ ρ':List SD}{σ σ':L2.St}{H H' G G' N:Hp}{i j:Nat}{p q:Addr}{X:Cx}{W:WX}
theorem Ok.an (o:Ok κ B ρ σ H G){an:List (Nat×Addr)}(h: ∀ i p,(i,p)∈an->σ[i]? =some (some (V.ref p))):Ok κ ⟨B.H,B.G,B.T,an⟩ ρ σ H G:=
 ⟨⟨o.fr.keep,o.fr.nt,o.fr.frz,o.fr.sub,o.fr.gh,o.fr.notb,o.fr.tabs,o.fr.lent⟩,o.len,o.val,o.own,o.sep,h⟩
abbrev anB (B:Bas)(j:Nat)(q:Addr):Bas:=⟨B.H,B.G,B.T,(j,q)::B.an⟩
end
end Fm
set_option maxHeartbeats 990000
namespace Fm
open L2 PySem PySem.Spec PyProof.Rows HotX
section
variable {prog:Program}{w:World}{A:Around}{E:Value->Shared->Prop}{s:Shared}
theorem xRp {x1 b:Addr}{h h':Heap}(hot:HotAt A x1 h)(ne:x1≠b)(sb:Heap.SameBut b h h'):HotAt A x1 h':=by
 obtain ⟨hh,o,vs,h1,h2,h3⟩:=hot
 exact ⟨hh,o,vs,(sb.2 x1 ne).trans h1,h2,h3⟩
theorem xLl {it t x1:Addr}{i:Nat}{items:Array Value}{Q:Option Value->Shared->Prop}(hot:HotAt A x1 s.heap)(hit:IsTupIter s.heap it t i)(ht:IsTup s.heap t items)(out:items[i]? =none)
  (q: ∀ h',Heap.ExtBut it s.heap h'->Q none { s with heap:=h' }):wpAny (model prog w) A (pyNext (.ref it)) Q E s:=by
 obtain ⟨oi,gi,ci,di⟩:=id hit
 obtain ⟨ot,gt,_,nt,dt⟩:=ht
 have ne:x1≠it:=fun z=>by
  obtain ⟨_,o1,vs1,h1,d1,c1⟩:=hot
  rw [z,gi] at h1
  cases h1
  rw [di] at d1
  cases d1
  cases c1
 unfold pyNext
 refine wpAny_bind (wpAny_attempt (wpAny_callSpecial?_slot (name:=Str.ofString "__next__") hit.typeIs slot_tupleiter_next (wpAny_call_entry slot_tupleiter_next hit.typeIs entry_tupleiter_next ?_ (args_tupleiter_next _))))
 show (wpAny _ _ (field (.ref it) 0 >>= _) _ _ s)
 refine wpAny_bind (wpAny_field gi di (x:= .ref t) rfl ?_)
 show wpAny _ _ (if (Value.ref t==Value.none)=true then _ else _) _ _ s
 rw [if_neg (show ¬ ((Value.ref t==Value.none)=true) from fun z=>nomatch z)]
 show (wpAny _ _ (field (.ref it) 1 >>= _) _ _ s)
 refine wpAny_bind (wpAny_field gi di (x:= .int i 0) rfl ?_)
 show (wpAny _ _ (seqItems? (.ref t) >>= _) _ _ s)
 refine wpAny_bind (wpAny_seqItems gt dt ?_)
 simp only [yD9,out]
 refine wpAny_bind (wpAny_rule (wpAny_bind (wpAny_setField gi di (by simp) ?_)))
 show (wpAny _ _ (newExc (.type "StopIteration") [] >>= _) _ _ _)
 refine wpAny_bind ?_
 simp only [newExc,newTuple]
 refine (wpAny_bind (wpAny_newObj_type ?_ (by size_fits)))
 refine (wpAny_bind (m:=firstArgMember _ _) (wpAny_of_eq (a:=Value.none) (by first|rfl|(simp only [firstArgMember];rfl)) ?_))
 refine (wpAny_newObj_type ?_ (by size_fits))
 have hot1:HotAt A x1 (s.heap.update it (Obj.mapFields (·.setIfInBounds 0 Value.none))):=xRp hot ne (Heap.SameBut.update ..)
 obtain ⟨hh,o1,vs1,h1,d1,c1⟩:=hot1
 refine raiseNew_hot (x1:=x1) ⟨hh,o1,vs1,Heap.get?_push_of_some _ (Heap.get?_push_of_some _ h1),d1,c1⟩ (yEi (Heap.lt_size (Heap.get?_push_of_some _ h1))) (Heap.get?_push_size _ rfl) rfl (by first|(simp;done)|(simp;omega)) ?_
 refine (wpAny_bind (wpAny_isInstance (T:="StopIteration") (b:=true) ⟨_,Heap.get?_update_self _ (Heap.get?_push_size _ rfl) rfl,rfl⟩ isSubtype_stop ?_))
 refine wpAny_pure (q _ fun b o hb e=> ?_)
 have e1:(s.heap.update it (Obj.mapFields (·.setIfInBounds 0 Value.none))).get? b=some o:=(Heap.get?_update_other _ _ (Ne.symm hb)).trans e
 rw [Heap.get?_update_other _ _ (Nat.ne_of_gt (Heap.lt_size (Heap.get?_push_of_some _ e1)))]
 exact Heap.get?_push_of_some _ (Heap.get?_push_of_some _ e1)
theorem xPi {t x1:Addr}{items:Array Value}{Q:List Value->Shared->Prop}(hot:HotAt A x1 s.heap)(ht:IsTup s.heap t items)
  (q: ∀ h',Heap.ExtBut s.heap.objs.size s.heap h'->Q items.toList { s with heap:=h' }):wpAny (model prog w) A (unpackItems (.ref t) items.size none) Q E s:=by
 have far:t≠s.heap.objs.size:=by
  obtain ⟨o,e,_⟩:=ht
  exact yEi (Heap.lt_size e)
 unfold unpackItems
 refine wpAny_bind ?_
 unfold notIterableAtAll
 refine wpAny_bind (wpAny_specialOf ht.typeIs slot_tuple_iter.lookup (wpAny_pure ?_))
 (simp only [Bool.false_eq_true,if_false])
 refine (wpAny_bind (wpAny_holding (iter_tuple ht ?_)))
 refine wpAny_bind (wpAny_holding (draw_tuple far items.size 0 _ _ ⟨_,Heap.get?_push_size _ rfl,rfl,rfl⟩ (ht.push _) (by omega) fun h1 it1 sb=> ?_))
 rw [List.drop_zero,show List.take items.size items.toList=items.toList from yDk (by simp),if_neg (by simp)]
 have hot1:HotAt A x1 h1:=by
  obtain ⟨hh,o1,vs1,e1,d1,c1⟩:=hot
  exact xRp ⟨hh,o1,vs1,Heap.get?_push_of_some _ e1,d1,c1⟩ (yEi (Heap.lt_size e1)) sb
 refine wpAny_bind (wpAny_holding (xLl hot1 it1 ((ht.push _).extBut sb.extBut far) (by simp) fun h2 x2=> ?_))
 (simp only [Option.isSome_none,Bool.false_eq_true,if_false])
 exact wpAny_pure (q h2 fun b o hb e=>x2 b o hb (sb.extBut b o hb (Heap.get?_push_of_some _ e)))
end
theorem xXc {X:Cx}{i j:Nat}{x y:Str}{a b:Expr}{ta:TA}{px py pt pos:Pos}{kt k2 pt2}(hc:L2H.HotC X)(hN:X.N.Nodup)(hi:X.N[i]? =some x)(hj:X.N[j]? =some y)(hij:i≠j)
  (hx:X.env.scope.names.lookup x=some .local) (hy:X.env.scope.names.lookup y=some .local) (ha:PA X [a,b] ta)
  (hw:swappedStores [.Tuple [.Name x px,.Name y py] kt pt] (.Tuple [a,b] k2 pt2) X.env=pure (some [x,y]))
  (hs:swapsWithSole [.Tuple [.Name x px,.Name y py] kt pt] (.Tuple [a,b] k2 pt2) pos.line X.env=pure false:=by rfl):
  PS X (.Assign [.Tuple [.Name x px,.Name y py] kt pt] (.Tuple [a,b] k2 pt2) pos) (tPar i j ta):=by
 refine (⟨fun pins s σ H D I h=> ?_⟩)
 rw [exec_Assign_arm]
 refine (wpAny_bind (wpAny_standAt ?_))
 rw [hs]
 refine (wpAny_bind (wpAny_pure ?_))
 rw [if_neg (by decide)]
 refine (wpAny_bind (Tuple_ (thn (ha.run _ pins s σ H _ I h) fun us s1 ⟨vs,H1,I1,r1,q1⟩=> ?_)))
 obtain ⟨v,w,rfl,q1⟩:=q1
 obtain ⟨u1,u2,rfl,rv,rw'⟩:=vals2 r1
 refine (wpAny_newObj_type ?_ (by show 2<=sizeLine;decide))
 have I2:L2.Inv X pins σ H1 { s1 with heap:=s1.heap.push { cls:= .type "tuple",data:= .seq [u1,u2].toArray } }:=I1.kept (t':=s1.toks) fun b o e=>Heap.get?_push_of_some _ e
 rw [hw]
 refine (wpAny_bind (wpAny_pure ?_))
 show wpAny (model X.prog X.w) X.A (do rule "assign.swapped-stores";let items <- unpackItems (.ref s1.heap.objs.size) 2 none;assignInOrder [fun v=>bindName X.env y v,fun v=>bindName X.env x v] items.reverse;pure Flow.next) _ _ _
 obtain ⟨x1,hot⟩:=hc.at I2
 refine wpAny_bind (wpAny_rule (wpAny_bind (xPi (items:= #[u1,u2]) hot (IsTup.new s1.heap _) fun h' hx'=> ?_)))
 have I3:=I2.kept (h':=h') (t':=s1.toks) fun b o e=>hx' b o (yEi (Heap.lt_size e)) e
 show wpAny _ _ (assignInOrder [fun v=>bindName X.env y v,fun v=>bindName X.env x v] [u2,u1] >>= fun _=>pure Flow.next) _ _ _
 refine (wpAny_bind (assignInOrder_cons (wpAny_bindName (store_ok I3 hN hj (.inl hy) rw' (fun s2 I4=> ?_) (.inr hy)))))
 refine (assignInOrder_cons (wpAny_bindName (store_ok I4 hN hi (.inl hx) rv (fun s3 I5=>assignInOrder_nil (wpAny_pure ?_)) (.inr hx))))
 (rw [yEj _ _ (Ne.symm hij)] at I5)
 exact ⟨_,H1,I5,q1⟩
theorem xRc {X:Cx}{a:Addr}{oe:Obj}{cls:Value}{d:Option Addr}{pn:List (Addr×Obj)}(z:L2N.Zn cls d oe)(dt: ∃ vs,oe.data= .fields vs):L2H.HotC (X.suite a ((a,oe)::pn)):=by
 obtain ⟨vs,e⟩:=dt
 exact ⟨(a,oe),⟨rfl,vs,e,z.2.2 vs e⟩,yC2⟩
theorem xVc {K:PySem.W.Frag}{C x:Addr}{ox:Obj}{od:Option Obj}(h:xQc K C=true):PySem.W.KitX K (.ref x) (.ref C) (fun h=>PySem.W.InstAt h x ox C od):=by
 obtain ⟨h1,h⟩:=and2 h
 obtain ⟨h2,h⟩:=and2 h
 obtain ⟨h3,h⟩:=and2 h
 obtain ⟨h4,h⟩:=and2 h
 obtain ⟨h5,h⟩:=and2 h
 obtain ⟨h6,h⟩:=and2 h
 obtain ⟨h7,h8⟩:=and2 h
 exact PySem.W.kitx_exc h1 (of_decide_eq_true h2) (of_decide_eq_true h3) (of_decide_eq_true h4) (of_decide_eq_true h5) (of_decide_eq_true h6) (of_decide_eq_true h7) (of_decide_eq_true h8)
def rIsX (K:PySem.W.Frag)(a:Addr)(cls:Value)(d:Option Addr):List V->Hp->VK->Prop:=fun xs H Q=> ∃ (c:V) (cv:Value) (b:Bool) (D dx:Addr) (fs:List (Str×V)),xs=[.ref a,c]/\(∀ u,RelV c u->u=cv)/\cls= .ref D/\d=some dx/\H dx=some (.xd fs)/\xQc K D=true/\PySem.W.kitOne K (.ref D) cv=some b/\Q (.bl b) H
theorem xVe {X:Cx}{a:Addr}{cls:Value}{d:Option Addr}{oe:Obj}{pn:List (Addr×Obj)}(hz:Zc cls d oe)(hf: ∃ vs,oe.data= .fields vs):CallR (X.suite a ((a,oe)::pn)) (.builtin "isinstance") (rIsX X.K a cls d):=by
 intro pins s σ H xs us Q;intro I r h
 obtain ⟨c,cv,b,D,dx,fs,rfl,hcv,ec,ed,hd,T,e,q⟩:=h
 obtain ⟨u1,u2,rfl,r1,r2⟩:=(vals2 r)
 obtain rfl:u1=Value.ref a:=r1
 obtain rfl:=hcv _ r2
 subst ec ed
 obtain ⟨hget,_⟩:=I.pin (a,oe) (List.mem_append_left _ yC2)
 obtain ⟨vs,hv⟩:=hf
 have hx:ObjOk X.prog X.w H s.heap dx (.xd fs):=I.hok dx _ hd
 obtain ⟨mA,hns,hr⟩:=hx
 obtain ⟨od,ho,_⟩:=lookIn_ns hns
 have J:PySem.W.InstAt s.heap a oe D (some od):=⟨hget,hz.1,by unfold PySem.W.notCls;rw [hv] <;> rfl,by rw [hz.2];exact ho⟩
 exact PySem.W.kia_one (xVc T) I.kIn J e (fun z=>nomatch z) fun tk=>⟨.bl b,H,I.kept (t':=tk) fun _ _ z=>z,rfl,q⟩
inductive IsEx (X:Cx)(n:Str):Expr->Bool->Value->Prop
 | pos {x:Str} {v:V} {cv:Value} {p1 p2 p3 p4:Pos} (hx:Names X x cv) (r:RelV v cv) (hr: ∀ u,RelV v u->u=cv):IsEx X n (.Call (.Name "isinstance" p1) [.Name n p2,.Name x p3] [] p4) false cv
 | neg {e:Expr} {cv:Value} {p:Pos} (h:IsEx X n e false cv):IsEx X n (.UnaryOp .Not e p) true cv
inductive IsAll (X:Cx)(n:Str):List Expr->List (Bool×Value)->Prop
 | one {e:Expr} {g:Bool} {cv:Value} (h:IsEx X n e g cv):IsAll X n [e] [(g,cv)]
 | cons {e e2:Expr} {es:List Expr} {q:List (Bool×Value)} {g:Bool} {cv:Value} (h:IsEx X n e g cv) (r:IsAll X n (e2::es) q):IsAll X n (e::e2::es) ((g,cv)::q)
def tIsX (K:PySem.W.Frag)(i:Nat)(a:Addr)(cls:Value)(d:Option Addr)(neg:Bool)(cv:Value):TT:=fun σ H Q=>σ[i]? =some (some (.ref a))/\ ∃ (b:Bool) (D dx:Addr) (fs:List (Str×V)),cls= .ref D/\d=some dx/\H dx=some (.xd fs)/\xQc K D=true/\PySem.W.kitOne K (.ref D) cv=some b/\Q (b != neg) H
def xJg (K:PySem.W.Frag)(i:Nat)(a:Addr)(cls:Value)(d:Option Addr):List (Bool×Value)->TT
 | []=>fun _ _ _=>False
 | [q]=>tIsX K i a cls d q.1 q.2
 | q::r=>tOr (tIsX K i a cls d q.1 q.2) (xJg K i a cls d r)
def tXfn (K:PySem.W.Frag)(i:Nat)(a:Addr)(cls:Value)(d:Option Addr)(f:Str):TE:=fun σ H Q=> ∃ C,XfC K C/\PySem.W.findIn K (.ref C) f=some none/\tXf a cls d C f (tVar i) σ H Q
inductive AsgX (X:Cx)(n:Str):Stmt->List (Nat×Str)->Prop
 | one {x f:Str} {j:Nat} {p3 p4 p5 p6:Pos} (i2:X.N[j]? =some x) (l2:X.env.scope.names.lookup x=some .local) (hat:attributeBase (.Name n p4) f X.env (eval (.Name n p4) X.env)=eval (.Name n p4) X.env)
   (hsw:swapsWith (.Attribute (.Name n p4) f p5) (some (.Name x p3)) p6.line X.env=pure false):AsgX X n (.Assign [.Name x p3] (.Attribute (.Name n p4) f p5) p6) [(j,f)]
 | two {x y f g:Str} {j k:Nat} {px py pt p1 p2 p3 p4 pt2 pos:Pos} {kt k2} (i2:X.N[j]? =some x) (i3:X.N[k]? =some y) (ne:j≠k) (l2:X.env.scope.names.lookup x=some .local) (l3:X.env.scope.names.lookup y=some .local)
   (ha:attributeBase (.Name n p1) f X.env (eval (.Name n p1) X.env)=eval (.Name n p1) X.env) (hb:attributeBase (.Name n p3) g X.env (eval (.Name n p3) X.env)=eval (.Name n p3) X.env)
   (hw:swappedStores [.Tuple [.Name x px,.Name y py] kt pt] (.Tuple [.Attribute (.Name n p1) f p2,.Attribute (.Name n p3) g p4] k2 pt2) X.env=pure (some [x,y]))
   (hs:swapsWithSole [.Tuple [.Name x px,.Name y py] kt pt] (.Tuple [.Attribute (.Name n p1) f p2,.Attribute (.Name n p3) g p4] k2 pt2) pos.line X.env=pure false):
   AsgX X n (.Assign [.Tuple [.Name x px,.Name y py] kt pt] (.Tuple [.Attribute (.Name n p1) f p2,.Attribute (.Name n p3) g p4] k2 pt2) pos) [(j,f),(k,g)]
def tAsX (K:PySem.W.Frag)(i:Nat)(a:Addr)(cls:Value)(d:Option Addr):List (Nat×Str)->TS
 | [q]=>tAsg (tXfn K i a cls d q.2) (gName q.1)
 | [q,r]=>tPar q.1 r.1 (tCons (tXfn K i a cls d q.2) (tCons (tXfn K i a cls d r.2) tNil))
 | _=>tNever
def Cq.ts (K:PySem.W.Frag)(i:Nat)(q:Cq)(a:Addr)(cls:Value)(d:Option Addr):TS:=tSeq (tAsX K i a cls d q.sets) (tIfS (xJg K i a cls d q.tests) tNever tNext)
def Cq.cl (K:PySem.W.Frag)(i:Nat)(q:Cq):Cl:=⟨q.cm,i,q.ts K i⟩
inductive ClQs (X:Cx)(n:Str):List ExceptHandler->List Cq->Prop
 | nil:ClQs X n [] []
 | cons {xm:Str} {cm:Value} {st:Stmt} {es:List Expr} {body:List Stmt} {sets:List (Nat×Str)} {tests:List (Bool×Value)} {q1 q2 q3 q4:Pos} {hds:List ExceptHandler} {l:List Cq} (gm:Names X xm cm) (ha:AsgX X n st sets) (ht:IsAll X n es tests) (r:ClQs X n hds l):
   ClQs X n (.ExceptHandler (some (.Name xm q1)) (some n) [st,.If (.BoolOp .Or es q4) body [] q3] q2::hds) (⟨cm,sets,tests⟩::l)
section
variable {X:Cx}{y:Addr}{oe:Obj}{cls:Value}{d:Option Addr}{pn:List (Addr×Obj)}{n:Str}{i:Nat}{e:Expr}{es:List Expr}{g:Bool}{cv:Value}{q:List (Bool×Value)}{st:Stmt}{sets:List (Nat×Str)}
theorem xWa (h:IsEx X n e g cv)(gI:Gl X "isinstance")(mI:X.mg "isinstance"=none)(i1:X.N[i]? =some n)(l1:X.env.kindOf n=some .local)(dn:(n==("__debug__":Str))=false)(cn:(n==("__classdict__":Str))=false)(z:L2N.Zn cls d oe)(dt: ∃ vs,oe.data= .fields vs):
  PT (X.suite y ((y,oe)::pn)) e (tIsX X.K i y cls d g cv):=by
 induction h with
 | @pos x v cv p1 p2 p3 p4 hx r hr=>
  have name:PE (X.suite y ((y,oe)::pn)) (.Name x p3) (tC v):=by
   obtain ⟨g1,db,m|⟨m,bv,nn⟩⟩:=hx
   ·exact pe_glob (X:=X.suite y ((y,oe)::pn)) g1 m r db
   ·exact pe_bltn (X:=X.suite y ((y,oe)::pn)) g1 m bv r nn db
  refine PT.imp (pt_val (pe_callB (X:=X.suite y ((y,oe)::pn)) (xVe z.zc dt) gI mI rfl (pa_cons (pe_var (X:=X.suite y ((y,oe)::pn)) (i:=i) i1 (.inl l1) dn cn) (pa_cons name pa_nil rfl) rfl))) ?_
  rintro σ H Q ⟨h1,b,D,dx,fs,h2,h3,h4,h5,h6,h7⟩
  exact ⟨_,h1,v,cv,b,D,dx,fs,rfl,hr,h2,h3,h4,h5,h6,_,rfl,by simpa using h7⟩
 | neg h ih=>
  refine PT.imp (pt_not ih) ?_
  rintro σ H Q ⟨h1,b,D,dx,fs,h2,h3,h4,h5,h6,h7⟩
  exact ⟨h1,b,D,dx,fs,h2,h3,h4,h5,h6,by cases b <;> simpa using h7⟩
theorem xUm (h:IsAll X n es q)(gI:Gl X "isinstance")(mI:X.mg "isinstance"=none)(i1:X.N[i]? =some n)(l1:X.env.kindOf n=some .local)(dn:(n==("__debug__":Str))=false)(cn:(n==("__classdict__":Str))=false)(z:L2N.Zn cls d oe)(dt: ∃ vs,oe.data= .fields vs){pos:Pos}:
  PW (X.suite y ((y,oe)::pn)) (.BoolOp .Or es pos) (xJg X.K i y cls d q):=by
 induction h with
 | one h=>exact pw_or1 (xWa h gI mI i1 l1 dn cn z dt)
 | @cons e e2 es q g cv h r ih=>
  have t:=pw_or (xWa h gI mI i1 l1 dn cn z dt) ih
  cases r <;> exact t
theorem xTr {f:Str}{p4 p5:Pos}(i1:X.N[i]? =some n)(l1:X.env.kindOf n=some .local)(dn:(n==("__debug__":Str))=false)(cn:(n==("__classdict__":Str))=false)(z:L2N.Zn cls d oe)(dt: ∃ vs,oe.data= .fields vs)
  (hat:attributeBase (.Name n p4) f X.env (eval (.Name n p4) X.env)=eval (.Name n p4) X.env):PE (X.suite y ((y,oe)::pn)) (.Attribute (.Name n p4) f p5) (tXfn X.K i y cls d f):=
 ⟨fun pins s σ H Q I ⟨C,xc,no,q⟩=>(pe_xf (X:=X) xc no z.zc dt (pe_var (X:=X.suite y ((y,oe)::pn)) (i:=i) i1 (.inl l1) dn cn) hat).run pins s σ H Q I q⟩
theorem xY7 (h:AsgX X n st sets)(hN:X.N.Nodup)(i1:X.N[i]? =some n)(l1:X.env.kindOf n=some .local)(dn:(n==("__debug__":Str))=false)(cn:(n==("__classdict__":Str))=false)(z:L2N.Zn cls d oe)(dt: ∃ vs,oe.data= .fields vs):
  PS (X.suite y ((y,oe)::pn)) st (tAsX X.K i y cls d sets):=by
 cases h with
 | one i2 l2 hat hsw=>exact ps_set (X:=X.suite y ((y,oe)::pn)) hN i2 (.inl l2) (xTr i1 l1 dn cn z dt hat) hsw (.inr l2)
 | two i2 i3 ne l2 l3 ha hb hw hs=>
  exact xXc (X:=X.suite y ((y,oe)::pn)) (xRc z dt) hN i2 i3 ne l2 l3 (pa_cons (xTr i1 l1 dn cn z dt ha) (pa_cons (xTr i1 l1 dn cn z dt hb) pa_nil rfl) rfl) hw hs
theorem ClQs.ok {hds:List ExceptHandler}{l:List Cq}(k:ClQs X n hds l)(gI:Gl X "isinstance")(mI:X.mg "isinstance"=none)(hN:X.N.Nodup)(i1:X.N[i]? =some n)(l1:X.env.kindOf n=some .local)(dn:(n==("__debug__":Str))=false)(cn:(n==("__classdict__":Str))=false):ClsOk X hds (l.map (Cq.cl X.K i)):=by
 induction k with
 | nil=>exact .nil
 | cons gm ha ht r ih=>
  refine .cons gm i1 l1 (fun y oe cls d pn z dt=> ?_) ih
  show PSs _ _ (tSeq (tAsX X.K i y cls d _) (tIfS (xJg X.K i y cls d _) tNever tNext))
  exact pss_cons (xY7 ha hN i1 l1 dn cn z dt) (pss_one (ps_if (X:=X.suite y ((y,oe)::pn)) (xUm ht gI mI i1 l1 dn cn z dt).pt pss_never pss_nil))
end
def xKf (x:Exn):List (Nat×Str)->List SD->Option (List SD)
 | [],ρ=>some ρ
 | (j,f)::r,ρ=>match x.fs.lookup f with
  | some w=>xKf x r (ρ.set j (.va w))
  | none=>none
def xRu (b:S)(i:Nat)(pick:String->Option (List (Nat×Str))):S:=fun ρ=>match b ρ with
 | .ex x ρ'=>match pick x.c with
  | some ss=>if i<ρ'.length then match xKf x ss (ρ'.set i .un) with
   | some ρ2=> .ok .nx (ρ2.set i .un)
   | none=> .no
   else .no
  | none=> .no
 | r=>r
structure TryQK (K:PySem.W.Frag)(κ:Ctx)(l:List Cq)(pick:String->Option (List (Nat×Str))):Prop where
 on: ∀ c ss,pick c=some ss->xH1 K l (κ.cl c) ss=true
theorem xVl {K:PySem.W.Frag}{κ:Ctx}{l:List Cq}{cs:List (String×List (Nat×Str))}(h: ∀ c∈cs,xH1 K l (κ.cl c.1) c.2=true):TryQK K κ l (fun c=>cs.lookup c) where
 on:=fun c w e=>by
  have m:(c,w)∈cs:=by
   clear h
   induction cs with
   | nil=>exact nomatch e
   | cons p r ih=>
    obtain ⟨k,v⟩:=p
    by_cases hk:(c==k)=true
    ·rw [yEc,hk] at e
     cases e
     cases eq_of_beq hk
     exact .head _
    ·have hk':(c==k)=false:=by simpa using hk
     rw [yEc,hk'] at e
     exact .tail _ (ih e)
  exact h _ m
theorem xU3 {K:PySem.W.Frag}{i:Nat}{a D dx:Addr}{fs:List (Str×V)}{σ:L2.St}{H:Hp}{Q:Bool->Hp->Prop}{q:List (Bool×Value)}(ne:q≠[])(hi:σ[i]? =some (some (.ref a)))(hd:H dx=some (.xd fs))(T:xQc K D=true)
  (k: ∀ t∈q,PySem.W.kitOne K (.ref D) t.2=some t.1) (h:Q false H):xJg K i a (.ref D) (some dx) q σ H Q:=by
 have one: ∀ t∈q,∀ {Q':Bool->Hp->Prop},Q' false H->tIsX K i a (.ref D) (some dx) t.1 t.2 σ H Q':=fun t m Q' h=>⟨hi,t.1,D,dx,fs,rfl,rfl,hd,T,k t m,by simpa using h⟩
 clear k
 induction q with
 | nil=>exact absurd rfl ne
 | cons t r ih=>
  cases r with
  | nil=>exact one t (.head _) h
  | cons t2 r=>
   show tOr _ _ σ H Q
   refine one t (.head _) ?_
   rw [if_neg (by decide)]
   exact ih (by simp) fun u m=>one u (.tail _ m)
theorem IsAll.ne {X:Cx}{n:Str}{es:List Expr}{q:List (Bool×Value)}(h:IsAll X n es q):q≠[]:=by
 cases h <;> simp
def ClQs.Ne:List Cq->Prop:=fun l=> ∀ q∈l,q.tests≠[]
theorem ClQs.ne {X:Cx}{n:Str}{hds:List ExceptHandler}{l:List Cq}(k:ClQs X n hds l): ∀ q∈l,q.tests≠[]:=by
 induction k with
 | nil=>exact fun q m=>nomatch m
 | cons gm ha ht r ih=>
  intro q m
  cases m with
  | head=>exact ht.ne
  | tail _ m=>exact ih q m
theorem ClQs.len {X:Cx}{n:Str}{hds:List ExceptHandler}{l:List Cq}(k:ClQs X n hds l): ∀ q∈l,(∃ p,q.sets=[p])\/ ∃ p r,q.sets=[p,r]/\p.1≠r.1:=by
 induction k with
 | nil=>exact fun q m=>nomatch m
 | cons gm ha ht r ih=>
  intro q m
  cases m with
  | head=>
   cases ha with
   | one=>exact .inl ⟨_,rfl⟩
   | two i2 i3 ne=>exact .inr ⟨_,_,rfl,ne⟩
  | tail _ m=>exact ih q m
theorem xYw {κ:Ctx}{T:Pd}{G:Hp}{f:Str}{w:D}: ∀ {l:List (Str×D)} {vs:List (Str×V)},RepF κ T G l vs->l.lookup f=some w-> ∃ y,vs.lookup f=some y/\Rep κ T G w y:=fun {l}=>by
 induction l with
 | nil=>exact fun _ e=>nomatch e
 | cons kd r ih=>
  obtain ⟨k,d⟩:=kd
  intro vs h e
  obtain ⟨v,ws,rfl,h1,h2⟩:=h
  by_cases hk:f==k
  ·rw [yEc,hk] at e
   cases e
   exact ⟨v,by rw [yEc,hk],h1⟩
  ·have hk':(f==k)=false:=by simpa using hk
   rw [yEc,hk'] at e
   obtain ⟨y,y1,y2⟩:=ih h2 e
   exact ⟨y,by rw [yEc,hk'];exact y1,y2⟩
theorem xN2 {α:Type}{l:List α}{i j:Nat}{x y u v:α}(h:j≠i):(((l.set i x).set j y).set i u)=(((l.set i v).set j y).set i u):=by
 rw [yEj _ _ h,yDz,yEj (l:=l.set i v) _ _ h,yDz]
theorem xS8 {α:Type}{l:List α}{i j k:Nat}{x y z u v:α}(h:j≠i)(g:k≠i):((((l.set i x).set j y).set k z).set i u)=((((l.set i v).set j y).set k z).set i u):=by
 rw [yEj _ _ g,xN2 (v:=v) h,<- yEj _ _ g]
section
variable {X:Cx}{κ:Ctx}{A:List Nat}{Wout:WX}{i:Nat}{n:Str}{body:List Stmt}{b:S}{pick:String->Option (List (Nat×Str))}{pos:Pos}{l:List Cq}{hd:ExceptHandler}{hds:List ExceptHandler}{cls:Value}{d:Option Addr}
theorem xJ0 {B:Bas}{a:Addr}{σ:L2.St}{Q:VK}{f:Str}{w:D}{T:Pd}{x:Exn}{H G:Hp}{K:PySem.W.Frag}(rx:RepX κ T H G x cls d)(h1:xfB K (κ.cl x.c)=true)(h2:PySem.W.findIn K (.ref (κ.cl x.c)) f=some none)(hi:σ[i]? =some (some (.ref a)))(he:x.fs.lookup f=some w)
  (q: ∀ v,Rep κ T G w v->Q v H):tXfn K i a cls d f σ H Q:=by
 obtain ⟨ec,dx,vs,ed,hd,rf⟩:=rx
 subst ec ed
 obtain ⟨y,y1,y2⟩:=xYw rf he
 exact ⟨κ.cl x.c,xfB_ok h1,h2,.ref a,hi,rfl,rfl,dx,vs,y,rfl,hd,y1,q y y2⟩
theorem yBj {B:Bas}{q:Cq}{a:Addr}{σ:L2.St}{H G:Hp}{D:Ends}{x:Exn}{ρ ρ2:List SD}{K:PySem.W.Frag}(o:Ok κ B ρ σ H G)(rx:RepX κ B.T H G x cls d)(T:xQc K (κ.cl x.c)=true)(h1:xfB K (κ.cl x.c)=true)(h2: ∀ p∈q.sets,PySem.W.findIn K (.ref (κ.cl x.c)) p.2=some none)
  (tn:q.tests≠[]) (tk: ∀ t∈q.tests,PySem.W.kitOne K (.ref (κ.cl x.c)) t.2=some t.1) (len:(∃ p,q.sets=[p])\/ ∃ p r,q.sets=[p,r]/\p.1≠r.1) (hl:i<ρ.length) (ni: ∀ p,(i,p)∉B.an) (nj: ∀ p∈q.sets,p.1≠i/\ ∀ w,(p.1,w)∉B.an)
  (hs:xKf x q.sets (ρ.set i .un)=some ρ2) (k: ∀ σ2,Ok κ B (ρ2.set i .un) σ2 H G->D.nx σ2 H):q.ts K i a cls d (Ends.less D i) (σ.set i (some (.ref a))) H:=by
 have hi:(σ.set i (some (.ref a)))[i]? =some (some (.ref a)):=yC7 (by rw [o.len];exact hl)
 obtain ⟨ec,dx,vs,ed,hd,rf⟩:=id rx
 obtain ⟨cm,sets,tests⟩:=q
 dsimp only at h2 tn tk len nj hs
 have fin: ∀ σ2:L2.St,σ2[i]? =some (some (.ref a))->Ok κ B (ρ2.set i .un) (σ2.set i none) H G->tIfS (xJg K i a cls d tests) tNever tNext (Ends.less D i) σ2 H:=fun σ2 h3 o2=>by
  subst ec ed
  refine xU3 tn h3 hd T tk ?_
  rw [if_neg (by decide)]
  exact k _ o2
 have o1:=o.unset i ni
 rcases len with ⟨p,rfl⟩|⟨p,r,rfl,npr⟩
 ·obtain ⟨n1,n2⟩:=nj p (.head _)
  simp only [xKf] at hs
  cases ew:x.fs.lookup p.2 with
  | none=>
   rw [ew] at hs
   cases hs
  | some w=>
   rw [ew] at hs
   cases hs
   refine xJ0 (B:=B) rx h1 (h2 p (.head _)) hi ew fun v rv=> ?_
   refine fin _ (by rw [yC9 n1];exact hi) ?_
   rw [xN2 (v:=none) n1]
   exact (o1.set p.1 (show RepR κ B _ _ H G (.va w) v from rv) n2).unset i ni
 ·obtain ⟨n1,n2⟩:=nj p (.head _)
  obtain ⟨m1,m2⟩:=nj r (.tail _ (.head _))
  simp only [xKf] at hs
  cases ew:x.fs.lookup p.2 with
  | none=>
   rw [ew] at hs
   cases hs
  | some w=>
   cases ew2:x.fs.lookup r.2 with
   | none=>
    rw [ew,ew2] at hs
    cases hs
   | some w2=>
    rw [ew,ew2] at hs
    cases hs
    refine xJ0 (B:=B) rx h1 (h2 p (.head _)) hi ew fun v rv=> ?_
    refine xJ0 (B:=B) rx h1 (h2 r (.tail _ (.head _))) hi ew2 fun v2 rv2=> ?_
    refine ⟨v,v2,rfl,?_⟩
    refine fin _ (by rw [yC9 m1,yC9 n1];exact hi) ?_
    rw [xS8 (v:=none) n1 m1]
    exact ((o1.set p.1 (show RepR κ B _ _ H G (.va w) v from rv) n2).set r.1 (show RepR κ B _ _ H G (.va w2) v2 from rv2) m2).unset i ni
theorem xZ7 (T:TryQK X.K κ l pick)(k:ClQs X n (hd::hds) l)(hs:X.stack=X.env::X.outer)(hf:X.env.frame=some X.env.locals)(hN:X.N.Nodup)(tk:L2N.Takes X Wout)(i1:X.N[i]? =some n)(l1:X.env.kindOf n=some .local)(gI:Gl X "isinstance")(mI:X.mg "isinstance"=none)
  (ni:A.contains i=false) (nj:(l.all fun q=>q.sets.all fun p=>decide (p.1≠i)&& !A.contains p.1)=true) (hb: ∀ (W:WX) (pn:List (Addr×Obj)) (xe:Value->Shared->Prop),L2N.Takes (X.tr pn xe) W->PassesOwn (model X.prog X.w) X.A X.env xe->PSs (X.tr pn xe) body (tS κ A W b))
  (dn:(n==("__debug__":Str))=false:=by decide) (cn:(n==("__classdict__":Str))=false:=by decide):
  PS X (.Try body (hd::hds) [] [] pos) (tS κ A Wout (xRu b i pick)):=by
 refine PS.imp (xP8 hs hf hN tk hb (k.ok gI mI hN i1 l1 dn cn)) fun D σ H ⟨B,ρ,G,an,o,q⟩=>⟨B,ρ,G,an,o,?_⟩
 unfold xRu at q
 cases e:b ρ with
 | no=>
  rw [e] at q
  exact q
 | ok fl ρ'=>
  rw [e] at q
  cases fl <;> exact q
 | ex x ρ'=>
  rw [e] at q
  intro cls d σ' H' G' o' s rx
  dsimp only at q
  cases ep:pick x.c with
  | none=>
   rw [ep] at q
   exact q.elim
  | some ss=>
   rw [ep] at q
   dsimp only at q
   by_cases hl:i<ρ'.length
   ·rw [if_pos hl] at q
    cases es:xKf x ss (ρ'.set i .un) with
    | none=>
     rw [es] at q
     exact q.elim
    | some ρ2=>
     rw [es] at q
     obtain ⟨t1,t⟩:=and2 (T.on x.c ss ep)
     obtain ⟨t2,t⟩:=and2 t
     obtain ⟨t3,t4⟩:=and2 t
     have ec:cls= .ref (κ.cl x.c):=rx.1
     have ne:=k.ne
     have len:=k.len
     clear k
     have go: ∀ m:List Cq,(∀ u∈m,u∈l)->(match xVo X.K (.ref (κ.cl x.c)) m with
       | some q=>decide (q.sets=ss)&&q.tests.all fun t=>decide (PySem.W.kitOne X.K (.ref (κ.cl x.c)) t.2=some t.1)
       | none=>false)=true->wCls X.K Wout D (m.map (Cq.cl X.K i)) cls d σ' H':=by
      intro m
      induction m with
      | nil=>exact fun _ z=>nomatch z
      | cons c r ih=>
       intro sub z
       unfold xVo at z
       cases em:PySem.W.exmOne X.K (.ref (κ.cl x.c)) c.cm with
       | none=>
        rw [em] at z
        exact nomatch z
       | some bb=>
        rw [em] at z
        cases bb with
        | false=>exact ⟨false,by rw [ec];exact em,fun z=>yDd z,fun _=>ih (fun u hu=>sub u (.tail _ hu)) z⟩
        | true=>
         dsimp only at z
         obtain ⟨z1,z2⟩:=and2 z
         have z1:=of_decide_eq_true z1
         subst z1
         have mc:=sub c (.head _)
         have njc:=yDm.mp (yDm.mp nj c mc)
         refine ⟨true,by rw [ec];exact em,fun _ a ha=> ?_,fun z=>yDd z⟩
         refine yBj o' rx t1 t2 (fun p hp=>of_decide_eq_true (yDm.mp t3 p hp)) (ne c mc) (fun t ht=>of_decide_eq_true (yDm.mp z2 t ht)) (len c mc) hl (xC3 an ni) (fun p hp=> ?_) es fun σ2 o2=>q σ2 H' G' o2 s
         obtain ⟨w1,w2⟩:=and2 (njc p hp)
         exact ⟨of_decide_eq_true w1,xC3 an (by simpa using w2)⟩
     exact go l (fun _ h=>h) t4
   ·rw [if_neg hl] at q
    exact q.elim
end
theorem yA9 {E:Exn->List SD->Prop}{p:Fl->List SD->Prop}{pick:String->Option (List (Nat×Str))}{b:S}{ρ:List SD}{i:Nat}
  (h:Wp b ρ p fun x ρ'=> ∃ ss ρ2,pick x.c=some ss/\i<ρ'.length/\xKf x ss (ρ'.set i .un)=some ρ2/\p .nx (ρ2.set i .un)):Wp (xRu b i pick) ρ p E:=by
 refine ⟨?_⟩
 have h:=h.run
 unfold xRu
 cases e:b ρ with
 | ok fl ρ'=>
  rw [e] at h
  exact h
 | no=>
  rw [e] at h
  exact h
 | ex x ρ'=>
  rw [e] at h
  obtain ⟨ss,ρ2,h1,h2,h3,h4⟩:=h
  simp only [h1,if_pos h2,h3]
  exact h4
end Fm
namespace Fm
open L2 PySem PySem.Spec PyProof.Rows
def sCp3 (src i j l:Nat):S:=fun ρ=>match ρ[src]? with
 | some (.va (.tup [d,.dk _ m,.lst _ L]))=> .ok .nx (((ρ.set i (.va d)).set j (.ow (.dk false m))).set l (.ow (.lst false L)))
 | _=> .no
theorem Ok.ownNew {κ:Ctx}{B:Bas}{ρ:List SD}{σ:L2.St}{H G:Hp}{p:Addr}{o:HO}{d:D}(k:Ok κ B ρ σ H G)(hp:H p=none)(w:xA9 κ B.T G (upd H p o) p d)(j:Nat)(na: ∀ q,(j,q)∉B.an):
  Ok κ B (ρ.set j (.ow d)) (σ.set j (some (.ref p))) (upd H p o) G:=(k.allocOwn hp).set j (k.newOwn hp w) na
section
variable {X:Cx}{κ:Ctx}{A:List Nat}{W:WX}{src i j l:Nat}{s x y z:Str}{p1 p2 p3 p4 p5 p6 p7 p8 p9 q1 q2 q3 q4 q5 q6 px py pz pt pt2 pos:Pos}{j1 j2 j3:Nat}{kt k2}
theorem s_cp3 (hK:X.K=κ.K)(hc:X.calm=true)(hN:X.N.Nodup)(h0:X.N[src]? =some s)(hv:Vis X.env.scope s)(hi:X.N[i]? =some x)(hj:X.N[j]? =some y)(hl:X.N[l]? =some z)(hij:i≠j)(hil:i≠l)(hjl:j≠l)
  (hx:X.env.scope.names.lookup x=some .local) (hy:X.env.scope.names.lookup y=some .local) (hz:X.env.scope.names.lookup z=some .local) (gD:Gl X "dict") (mD:X.mg "dict"=none) (gL:Gl X "list") (mL:X.mg "list"=none)
  (hw:swappedStores [.Tuple [.Name x px,.Name y py,.Name z pz] kt pt] (.Tuple [.Subscript (.Name s p1) (.Constant (.int 0) j1 p2) p3,.Call (.Name "dict" q1) [.Subscript (.Name s p4) (.Constant (.int 1) j2 p5) p6] [] q2,.Call (.Name "list" q3) [.Subscript (.Name s p7) (.Constant (.int 2) j3 p8) p9] [] q4] k2 pt2) X.env=pure (some [x,y,z]))
  (n1:A.contains i=false) (n2:A.contains j=false) (n3:A.contains l=false)
  (hs:swapsWithSole [.Tuple [.Name x px,.Name y py,.Name z pz] kt pt] (.Tuple [.Subscript (.Name s p1) (.Constant (.int 0) j1 p2) p3,.Call (.Name "dict" q1) [.Subscript (.Name s p4) (.Constant (.int 1) j2 p5) p6] [] q2,.Call (.Name "list" q3) [.Subscript (.Name s p7) (.Constant (.int 2) j3 p8) p9] [] q4] k2 pt2) pos.line X.env=pure false)
  (dn:(s==("__debug__":Str))=false:=by decide) (cn:(s==("__classdict__":Str))=false:=by decide):
  PS X (.Assign [.Tuple [.Name x px,.Name y py,.Name z pz] kt pt] (.Tuple [.Subscript (.Name s p1) (.Constant (.int 0) j1 p2) p3,.Call (.Name "dict" q1) [.Subscript (.Name s p4) (.Constant (.int 1) j2 p5) p6] [] q2,.Call (.Name "list" q3) [.Subscript (.Name s p7) (.Constant (.int 2) j3 p8) p9] [] q4] k2 pt2) pos) (tS κ A W (sCp3 src i j l)):=by
 have one: ∀ {c:Int} {j:Nat} {a b e:Pos},PE X (.Subscript (.Name s a) (.Constant (.int c) j b) e) (tOp (rIxT X.K) (tVar src) (tC (.int c))):=fun {c j a b e}=>pe_ix ix_tup (pe_var h0 hv dn cn) pe_int (fun _ _=>rfl)
 refine PS.imp (ps_par3 hc hN hi hj hl hij hil hjl hx hy hz (pa_cons one (pa_cons (pe_callTy (xO0 hK hc) gD mD rfl (pa_cons one pa_nil rfl)) (pa_cons (pe_callTy call_list_of gL mL rfl (pa_cons one pa_nil rfl)) pa_nil rfl) rfl) rfl) hw hs) fun D σ H ⟨B,ρ,G,an,o,q⟩=> ?_
 unfold sCp3 at q
 split at q
 ·rename_i d b m b2 L e0
  obtain ⟨v,ev,a,vs,rfl,ta,r⟩:=o.val _ _ e0
  obtain ⟨v1,w1,rfl,r1,r⟩:=r
  obtain ⟨v2,w2,rfl,⟨a2,kvs,rfl,⟨dk,ld2⟩,r2⟩,r⟩:=r
  obtain ⟨v3,w3,rfl,⟨a3,xs,rfl,⟨ls,ld3⟩,r3⟩,r⟩:=r
  cases r
  have gh:=o.fr.gh
  have sq: ∀ {H':Hp},Same G H'->SqT X.K H' a [v1,.ref a2,.ref a3]:=fun {H'} k=>by
   rw [hK]
   exact ta.sq k
  refine ⟨.ref a,ev,a,_,0,v1,rfl,rfl,sq gh,rfl,?_⟩
  refine ⟨.ref a,ev,a,_,1,.ref a2,rfl,rfl,sq gh,rfl,?_⟩
  refine .inl ⟨a2,kvs,rfl,Rd.mono gh dk.rd,fun p hp=> ?_⟩
  have k1:Same G (upd H p (.dK kvs)):=gh.trans (Same.upd hp)
  refine ⟨.ref a,ev,a,_,2,.ref a3,rfl,rfl,sq k1,rfl,?_⟩
  refine ⟨a3,xs,rfl,.inl (.inl (.inl (k1 _ _ ls))),fun p2 hp2=> ?_⟩
  refine ⟨v1,.ref p,.ref p2,rfl,?_⟩
  have t1:=o.set i (show RepR κ B _ _ _ G (.va d) v1 from r1) (xC3 an n1)
  have t2:=t1.ownNew (o:= .dK kvs) (d:= .dk false m) hp ⟨kvs,upd_same,r2⟩ j (xC3 an n2)
  have t3:=t2.ownNew (o:= .lst xs) (d:= .lst false L) hp2 ⟨xs,upd_same,r3⟩ l (xC3 an n3)
  exact q _ _ G t3 (Same.refl G)
 ·exact q.elim
end
theorem w_cp3 {src i j l:Nat}{ρ:List SD}{d:D}{b b2:Bool}{m:List (Key×D)}{L:List D}{p:Fl->List SD->Prop}{E:Exn->List SD->Prop}(e:ρ[src]? =some (.va (.tup [d,.dk b m,.lst b2 L])))(h:p .nx (((ρ.set i (.va d)).set j (.ow (.dk false m))).set l (.ow (.lst false L)))):Wp (sCp3 src i j l) ρ p E:=by
 refine ⟨?_⟩
 unfold sCp3
 rw [e]
 exact h
theorem xEu {X:Cx}:L2.Passes (L2N.CX X.prog X.w) X L2.E0:=fun _ _ _ _ _ _ _ h=>by
 obtain ⟨_,_,_,_,_,_,_,_,_,_,_,_,z⟩:=(h)
 exact z.elim
theorem isxR {X:Cx}{n x:Str}{a:Addr}{p1 p2 p3 p4:Pos}(hx:Names X x (.ref a)):IsEx X n (.Call (.Name "isinstance" p1) [.Name n p2,.Name x p3] [] p4) false (.ref a):= .pos (v:= .ref a) hx rfl fun _ z=>z
theorem isxT {X:Cx}{n x:Str}{c:String}{p1 p2 p3 p4:Pos}(hx:Names X x (.type c)):IsEx X n (.Call (.Name "isinstance" p1) [.Name n p2,.Name x p3] [] p4) false (.type c):= .pos (v:= .ty c) hx rfl fun _ z=>z
end Fm
set_option maxHeartbeats 4000007
namespace Lw
open L2 PySem PySem.Spec PyProof.Rows Fm
abbrev kx (w:World)(K:PySem.W.Frag)(cl:String->Addr)(tabs:List (Addr×Str)):Fm.Ctx:=⟨K,cl,tabs,w⟩
@[reducible] def xNi:D:= .int 3
@[reducible] def xLd:D:= .int 12
@[reducible] def xM8:D:= .int 24
@[reducible] def xP9:D:= .int 9
@[reducible] def xI4:D:= .int 1000000
@[reducible] def xS2:D:= .int 8
@[reducible] def xSa:D:= .str "abcdefghijklmnopqrstuvwxyz"
def xT1:String->Bool:=fun c=>["BadName","BadDye","BadWays","Full","Far","BadTie","Twice","BadShift"].contains c
def xXm:String->Bool:=fun c=>["NoKnot"].contains c
def xMa:String->Option (List (Nat×Str)):=fun c=>([("BadName",[(7,"called")]),("BadDye",[(7,"called")]),("BadWays",[(7,"called")]),("Full",[(7,"called")]),("Far",[(7,"called")]),("BadTie",[(7,"called")]),("Twice",[(7,"called")]),("NoKnot",[(6,"name"),(7,"called")]),("BadShift",[(7,"called")])]:List (String×List (Nat×Str))).lookup c
theorem xMf:FnScope ["self"] ["self"] (defScope xH0):=scZ (by decide +kernel)
theorem xMn:FnScope ["self"] ["self"] (defScope xIw):=scZ (by decide +kernel)
theorem xKm:FnScope ["self"] ["self"] (defScope xHq):=scZ (by decide +kernel)
theorem xQ7:FnScope ["self"] ["self"] (defScope xOl):=scZ (by decide +kernel)
theorem xT9:FnScope ["self"] ["self"] (defScope xSw):=scZ (by decide +kernel)
theorem xM3:FnScope ["self"] ["self"] (defScope xI8):=scZ (by decide +kernel)
theorem xPj:FnScope ["self"] ["self"] (defScope xLk):=scZ (by decide +kernel)
theorem xNc:FnScope ["self","name"] ["self","name"] (defScope xJf):=scZ (by decide +kernel)
theorem xJl:FnScope ["self"] ["self"] (defScope xGl):=scZ (by decide +kernel)
theorem xF4:FnScope ["text","sign"] ["text"] (defScope xL4):=scZ (by decide +kernel)
@[reducible] def xQh:S:=sRet (xU4 (xDz ltD leD (mC (.int 0)) (mCB xDe (xAc (mVar 0) (mNil))) (mC xS2)) (mCB allD (xAc (mLc (iSeq (mVar 0)) [1] (gN 1) (M.ret true) (mOp in3D (mVar 1) (mC xSa))) (mNil))))
@[reducible] def xFt:List SD->FR:=Fm.runN [] 2 xQh
theorem xKw:FnScope ["name"] ["name"] (defScope xHo):=scZ (by decide +kernel)
@[reducible] def xM0:S:=sIf (mNot (mTst (xAx xFt [] (aVa (mVar 0) (aNil))))) (sEx ⟨"BadName",[("called",.str "badname")]⟩) (sNx)
@[reducible] def xDo:List SD->FR:=Fm.runN [] 1 xM0
theorem xM6:FnScope ["dye"] ["dye"] (defScope xJe):=scZ (by decide +kernel)
@[reducible] def xPg:S:=sIf (mNot (mTst (xDz leD leD (mC (.int 0)) (mVar 0) (mC xP9)))) (sEx ⟨"BadDye",[("called",.str "baddye")]⟩) (sNx)
@[reducible] def xEk:List SD->FR:=Fm.runN [] 1 xPg
theorem xHi:FnScope ["shift","number"] ["shift"] (defScope xN1):=scZ (by decide +kernel)
@[reducible] def xUa:S:=sRet (mCB tupD (xAc (mLc (iSeq (mVar 0)) [1] (gN 1) (M.ret true) (mOp subD (mC (.int 0)) (mVar 1))) (mNil)))
@[reducible] def xGu:List SD->FR:=Fm.runN [] 2 xUa
theorem xAz:FnScope ["self","name","found","u","v","shift"] ["self","name"] (defScope xEr):=scZ (by decide +kernel)
@[reducible] def xH9:S:=sSeq (sSet 2 (mLc (iSeq (mFld "Pattern" "bonds" (mVar 0))) [3,4,5] (gSq 3 (gCo (gN 3) (gCo (gN 4) (gCo (gN 5) (gNi))))) (mTst (mOp eqD (mVar 3) (mVar 1))) (mTup (xAc (mVar 4) (xAc (mVar 5) (mNil)))))) (sRet (mOp xBo (mVar 2) (mLc (iSeq (mFld "Pattern" "bonds" (mVar 0))) [3,4,5] (gSq 3 (gCo (gN 3) (gCo (gN 4) (gCo (gN 5) (gNi))))) (mTst (mOp eqD (mVar 4) (mVar 1))) (mTup (xAc (mVar 3) (xAc (xAx xGu [] (aVa (mVar 5) (aNil))) (mNil)))))))
@[reducible] def xDf:List SD->FR:=Fm.runN [] 6 xH9
theorem xFd:FnScope ["tie","u","v","shift"] ["tie"] (defScope xOa):=scZ (by decide +kernel)
@[reducible] def xU6:S:=sSeq (sAsg (gSq 3 (gCo (gN 1) (gCo (gN 2) (gCo (gN 3) (gNi))))) (mVar 0)) (sRet (mCB xR4 (xAc (mTup (xAc (mVar 1) (xAc (mVar 2) (xAc (mVar 3) (mNil))))) (xAc (mTup (xAc (mVar 2) (xAc (mVar 1) (xAc (xAx xGu [] (aVa (mVar 3) (aNil))) (mNil))))) (mNil)))))
@[reducible] def xG0:List SD->FR:=Fm.runN [] 4 xU6
theorem xHj:FnScope ["self","name"] ["self","name"] (defScope xEx):=scZ (by decide +kernel)
@[reducible] def xIh:S:=sIf (mTst (mOp xNa (mVar 1) (mFld "Pattern" "dyes" (mVar 0)))) (sEx1 "NoKnot" "called" "noknot" "name" (mVar 1)) (sNx)
@[reducible] def xCc:List SD->FR:=Fm.runN [] 2 xIh
theorem xD9:FnScope ["self","shift"] ["self","shift"] (defScope xCl):=scZ (by decide +kernel)
@[reducible] def xEm:S:=sIf (mTst (mOp neD (mCB xDe (xAc (mVar 1) (mNil))) (mFld "Pattern" "ways" (mVar 0)))) (sEx ⟨"BadShift",[("called",.str "badshift")]⟩) (sNx)
@[reducible] def xBt:List SD->FR:=Fm.runN [] 2 xEm
theorem xBa:FnScope ["self","tie","number"] ["self","tie"] (defScope xDi):=scZ (by decide +kernel)
@[reducible] def xGf:S:=sSeq (xHz (xIm "Pattern" "need" xCc (mVar 0) (xAc (xAy 1 (mC (.int 0))) (mNil)))) (sSeq (xHz (xIm "Pattern" "need" xCc (mVar 0) (xAc (xAy 1 (mC (.int 1))) (mNil)))) (sSeq (xHz (xIm "Pattern" "need_shift" xBt (mVar 0) (xAc (xAy 1 (mC (.int 2))) (mNil)))) (sSeq (sIf (mTst (mCB anyD (xAc (mLc (iSeq (xAy 1 (mC (.int 2)))) [2] (gN 2) (M.ret true) (xX2 (xDz leD leD (mOp subD (mC (.int 0)) (mC xI4)) (mVar 2) (mC xI4)))) (mNil)))) (sEx ⟨"Far",[("called",.str "far")]⟩) (sNx)) (sSeq (sIf (mAnd (mTst (mOp eqD (xAy 1 (mC (.int 0))) (xAy 1 (mC (.int 1))))) (mTst (mCB allD (xAc (mLc (iSeq (xAy 1 (mC (.int 2)))) [2] (gN 2) (M.ret true) (mOp eqD (mVar 2) (mC (.int 0)))) (mNil))))) (sEx ⟨"BadTie",[("called",.str "badtie")]⟩) (sNx)) (sSeq (sIf (mTst (mOp in3D (xAx xG0 [] (aVa (mVar 1) (aNil))) (mFld "Pattern" "bonds" (mVar 0)))) (sEx ⟨"Twice",[("called",.str "twice")]⟩) (sNx)) (sRet (xAx xG0 [] (aVa (mVar 1) (aNil)))))))))
@[reducible] def xB7:List SD->FR:=Fm.runN [] 3 xGf
theorem xGr:FnScope ["self"] ["self"] (defScope xD7):=scZ (by decide +kernel)
@[reducible] def xHl:S:=sRet (mCB xCz (xAc (mFld "Pattern" "dyes" (mVar 0)) (mNil)))
@[reducible] def xC2:List SD->FR:=Fm.runN [] 1 xHl
theorem xBg:FnScope ["self","ways","knots","ties","name","tie"] ["self","ways","knots","ties"] (defScope xC9):=scZ (by decide +kernel)
@[reducible] def xFf:S:=sSeq (xC1 0 (sIf (mNot (mTst (xDz leD leD (mC (.int 0)) (mVar 1) (mC xNi)))) (sEx ⟨"BadWays",[("called",.str "badways")]⟩) (sNx))) (sSeq (oSet 0 "Pattern" "ways" (xC1 0 (mVar 1))) (sSeq (oSet 0 "Pattern" "dyes" (xC1 0 (xQs))) (sSeq (sFor (xC1 0 (iSeq (mCB xCz (xAc (mVar 2) (mNil))))) (goI 0 (gN 4)) (sSeq (xC1 0 (xHz (xAx xDo [] (aVa (mVar 4) (aNil))))) (sSeq (xC1 0 (xHz (xAx xEk [] (aVa (xAy 2 (mVar 4)) (aNil))))) (oPut 0 "Pattern" "dyes" (mVar 4) (xC1 0 (xAy 2 (mVar 4))))))) (sSeq (xC1 0 (sIf (mTst (mOp gtD (mCB xDe (xAc (mVar 2) (mNil))) (mC xLd))) (sEx ⟨"Full",[("called",.str "full")]⟩) (sNx))) (sSeq (oSet 0 "Pattern" "bonds" (xC1 0 (mLst (mNil)))) (sSeq (sFor (xC1 0 (iSeq (mVar 3))) (goI 0 (gN 5)) (xHz (oApp 0 "Pattern" "bonds" (xF1 0 nbL (xAc (xIm "Pattern" "fitting" xB7 (mVar 0) (xAc (mVar 5) (mNil))) (mNil)))))) (sSeq (sIf (xF1 0 (fun _=>true) (mTst (mOp gtD (mCB xDe (xAc (mFld "Pattern" "bonds" (mVar 0)) (mNil))) (mC xM8)))) (xC1 0 (sEx ⟨"Full",[("called",.str "full")]⟩)) (sNx)) (sSeq (oSet 0 "Pattern" "bonds" (xF1 0 SD.nbS (mCB xCz (xAc (mFld "Pattern" "bonds" (mVar 0)) (mNil))))) (sSeq (oSet 0 "Pattern" "at" (xC1 0 (xQs))) (sFor (xYa 0 (xIm "Pattern" "names" xC2 (mVar 0) mNil)) (goI 0 (gN 4)) (oPut 0 "Pattern" "at" (mVar 4) (xF1 0 SD.nbS (mCB xCz (xAc (xIm "Pattern" "ends" xDf (mVar 0) (xAc (mVar 4) (mNil))) (mNil)))))))))))))))
@[reducible] def xA4:List D->FR:=Fm.runI "Pattern" 6 xFf
theorem xD4:FnScope ["_law_draw","_law_many","_law_cell","_law_got"] ["_law_draw","_law_many"] (defScope xHt):=scZ (by decide +kernel)
@[reducible] def xNg:S:=sSeq (sIf (mAnd (mTst (mOp ltD (xAy 0 (mC (.int 2))) (mVar 1))) (mTst (mOp ltD (xAy 0 (mC (.int 1))) (mCB xDe (xAc (xAy 0 (mC (.int 0))) (mNil)))))) (sSeq (sSet 2 (mOp ix3D (xAy 0 (mC (.int 0))) (xAy 0 (mC (.int 1))))) (sSeq (xF9 0 (mC (.int 1)) (mOp xBo (xAy 0 (mC (.int 1))) (mC (.int 1)))) (sSeq (xF9 0 (mC (.int 2)) (mC (.int 0))) (sIf (mTst (mOp geD (mVar 2) (mOp powD (mC (.int 10)) (mC (.int 18))))) (xF9 0 (mC (.int 2)) (mVar 2)) (xF9 0 (mC (.int 3)) (mOp modD (mOp xBo (xAy 0 (mC (.int 3))) (mVar 2)) (mC (.int 1000000007)))))))) (sNx)) (sSeq (sIf (mTst (mOp geD (xAy 0 (mC (.int 2))) (mVar 1))) (sSeq (sSet 3 (mOp modD (xAy 0 (mC (.int 2))) (mVar 1))) (sSeq (xF9 0 (mC (.int 2)) (mOp divD (xAy 0 (mC (.int 2))) (mVar 1))) (sRet (mMov 3)))) (sNx)) (sSeq (xF9 0 (mC (.int 4)) (mOp xBo (xAy 0 (mC (.int 4))) (mC (.int 1)))) (sSeq (xF9 0 (mC (.int 3)) (mOp modD (mOp xBo (mOp xBo (mOp powD (xAy 0 (mC (.int 3))) (mC (.int 3))) (mOp repD (mC (.int 40503)) (xAy 0 (mC (.int 4))))) (mC (.int 17))) (mC (.int 1000000007)))) (sRet (mOp modD (mOp divD (xAy 0 (mC (.int 3))) (mC (.int 5))) (mVar 1))))))
@[reducible] def xAh:List SD->FR:=Fm.runN [0] 4 xNg
theorem xJv:FnScope ["_law_script"] ["_law_script"] (defScope xGi):=scZ (by decide +kernel)
@[reducible] def xLy:S:=sRet (mLst (xAc (mCB xRe (xAc (mSl (mVar 0) (mPN) (mPS (mC (.int 63)))) (mNil))) (xAc (mC (.int 0)) (xAc (mC (.int 0)) (xAc (mC (.int 1)) (xAc (mC (.int 0)) (mNil)))))))
@[reducible] def xD3:List SD->FR:=Fm.runN [] 1 xLy
theorem xNw:FnScope ["_law_draw","_law_some"] ["_law_draw","_law_some"] (defScope xJd):=scZ (by decide +kernel)
@[reducible] def xQe:S:=sRet (xAy 1 (xAx xAh [] (aSl 0 (aVa (mCB xDe (xAc (mVar 1) (mNil))) (aNil)))))
@[reducible] def xBl:List SD->FR:=Fm.runN [0] 2 xQe
theorem xCs:FnScope ["_law_draw","_law_ways","_law_limit","_law_k"] ["_law_draw","_law_ways","_law_limit"] (defScope xEz):=scZ (by decide +kernel)
@[reducible] def xIo:S:=sRet (mCB tupD (xAc (mLc (iRg1 (xAc (mVar 1) (mNil))) [3] (gN 3) (M.ret true) (mOp subD (xAx xAh [] (aSl 0 (aVa (mOp xBo (mOp repD (mC (.int 2)) (mVar 2)) (mC (.int 1))) (aNil)))) (mVar 2))) (mNil)))
@[reducible] def xCd:List SD->FR:=Fm.runN [0] 4 xIo
theorem xDd:FnScope ["_law_shift","_law_number"] ["_law_shift"] (defScope xFq):=scZ (by decide +kernel)
@[reducible] def xKa:S:=sRet (mCB tupD (xAc (mLc (iSeq (mVar 0)) [1] (gN 1) (M.ret true) (mOp subD (mC (.int 0)) (mVar 1))) (mNil)))
@[reducible] def xCo:List SD->FR:=Fm.runN [] 2 xKa
theorem xIl:FnScope ["_law_tie"] ["_law_tie"] (defScope xFo):=scZ (by decide +kernel)
@[reducible] def xJq:S:=sRet (mCB xR4 (xAc (mTup (xAc (xAy 0 (mC (.int 0))) (xAc (xAy 0 (mC (.int 1))) (xAc (xAy 0 (mC (.int 2))) (mNil))))) (xAc (mTup (xAc (xAy 0 (mC (.int 1))) (xAc (xAy 0 (mC (.int 0))) (xAc (xAx xCo [] (aVa (xAy 0 (mC (.int 2))) (aNil))) (mNil))))) (mNil))))
@[reducible] def xBh:List SD->FR:=Fm.runN [] 1 xJq
theorem xE4:FnScope ["_law_ties","_law_tie","_law_number"] ["_law_ties","_law_tie"] (defScope xIx):=scZ (by decide +kernel)
@[reducible] def xPr:S:=sSeq (sIf (mOr (mAnd (mTst (mOp eqD (xAy 1 (mC (.int 0))) (xAy 1 (mC (.int 1))))) (mTst (mCB allD (xAc (mLc (iSeq (xAy 1 (mC (.int 2)))) [2] (gN 2) (M.ret true) (mOp eqD (mVar 2) (mC (.int 0)))) (mNil))))) (mTst (mOp in3D (xAx xBh [] (aVa (mVar 1) (aNil))) (mVar 0)))) (sRet (mMov 0)) (sNx)) (sRet (mCB xCz (xAc (mOp xBo (mVar 0) (mLst (xAc (xAx xBh [] (aVa (mVar 1) (aNil))) (mNil)))) (mNil))))
@[reducible] def xEj:List SD->FR:=Fm.runN [] 3 xPr
theorem xBi:FnScope ["_law_draw","_law_ways","_law_names_here","_law_limit","_law_knots","_law_name","_law_ties","_law_k","_law_size"] ["_law_draw","_law_ways","_law_names_here","_law_limit"] (defScope xGo):=scZ (by decide +kernel)
@[reducible] def xK4:S:=sSeq (sSet 4 (xQs)) (sSeq (sFor (iSeq (mVar 2)) (gN 5) (xF9 4 (mVar 5) (mOp ix3D (mTup (xAc (mC (.int 0)) (xAc (mC (.int 0)) (xAc (xAx xAh [] (aSl 0 (aVa (mC (.int 10)) (aNil)))) (mNil))))) (xAx xAh [] (aSl 0 (aVa (mC (.int 3)) (aNil))))))) (sSeq (sSet 6 (mLst (mNil))) (sSeq (sFor (iRg1 (xAc (xAx xAh [] (aSl 0 (aVa (mOp xBo (mVar 3) (mC (.int 1))) (aNil)))) (mNil))) (gN 7) (sSeq (sSet 8 (mOp ix3D (mTup (xAc (mC (.int 1)) (xAc (mC (.int 2)) (xAc (mC (.int 2)) (xAc (mC (.int 9)) (xAc (mOp powD (mC (.int 10)) (mC (.int 6))) (mNil))))))) (xAx xAh [] (aSl 0 (aVa (mC (.int 5)) (aNil)))))) (sSet 6 (xAx xEj [] (aVa (mVar 6) (aVa (mTup (xAc (xAx xBl [] (aSl 0 (aVa (mVar 2) (aNil)))) (xAc (xAx xBl [] (aSl 0 (aVa (mVar 2) (aNil)))) (xAc (xAx xCd [] (aSl 0 (aVa (mVar 1) (aVa (mVar 8) (aNil))))) (mNil))))) (aNil))))))) (sRet (mTup (xAc (mVar 1) (xAc (mVar 4) (xAc (mVar 6) (mNil)))))))))
@[reducible] def xEe:List SD->FR:=Fm.runN [0] 9 xK4
theorem xAu:FnScope ["_law_draw","_law_many","_law_letters","_law_word","_law_at","_law_first","_law_step","_law_signs","_law_k","_law_sign"] ["_law_draw","_law_many"] (defScope xGk):=scZ (by decide +kernel)
@[reducible] def xLh:S:=sSeq (sSet 2 (mC (.str "abcdefghijklmnopqrstuvwxyz"))) (sSeq (sSet 3 (mM1 xXe (mC (.str "")) (mLc (iRg1 (xAc (xAx xAh [] (aSl 0 (aVa (mC (.int 6)) (aNil)))) (mNil))) [8] (gN 8) (M.ret true) (xAx xBl [] (aSl 0 (aVa (mVar 2) (aNil))))))) (sSeq (sSet 4 (xAx xAh [] (aSl 0 (aVa (mOp xBo (mCB xDe (xAc (mVar 3) (mNil))) (mC (.int 1))) (aNil))))) (sSeq (sSet 5 (xAx xAh [] (aSl 0 (aVa (mC (.int 26)) (aNil))))) (sSeq (sSet 6 (mOp ix3D (mTup (xAc (mC (.int 1)) (xAc (mC (.int 3)) (xAc (mC (.int 5)) (xAc (mC (.int 7)) (xAc (mC (.int 11)) (xAc (mC (.int 25)) (mNil)))))))) (xAx xAh [] (aSl 0 (aVa (mC (.int 6)) (aNil)))))) (sSeq (sSet 7 (mLc (iRg1 (xAc (mVar 1) (mNil))) [8] (gN 8) (M.ret true) (xAy 2 (mOp modD (mOp xBo (mVar 5) (mOp repD (mVar 6) (mVar 8))) (mC (.int 26)))))) (sRet (mLc (iSeq (mVar 7)) [9] (gN 9) (M.ret true) (mOp xBo (mOp xBo (mSl (mVar 3) (mPN) (mPS (mVar 4))) (mVar 9)) (mSl (mVar 3) (mPS (mVar 4)) (mPN))))))))))
@[reducible] def xDb:List SD->FR:=Fm.runN [0] 10 xLh
theorem xB1:FnScope ["_law_word","_law_letters","_law_sign"] ["_law_word"] (defScope xE0):=scZ (by decide +kernel)
@[reducible] def xIt:S:=sSeq (sSet 1 (mC (.str "abcdefghijklmnopqrstuvwxyz"))) (sRet (xU4 (xDz ltD ltD (mC (.int 0)) (mCB xDe (xAc (mVar 0) (mNil))) (mC (.int 9))) (mCB allD (xAc (mLc (iSeq (mVar 0)) [2] (gN 2) (M.ret true) (mOp in3D (mVar 2) (mVar 1))) (mNil)))))
@[reducible] def xDc:List SD->FR:=Fm.runN [] 3 xIt
theorem xHm:FnScope ["_law_ways"] ["_law_ways"] (defScope xEs):=scZ (by decide +kernel)
@[reducible] def xIc:S:=sRet (mCB tupD (xAc (mOp repD (mLst (xAc (mC (.int 0)) (mNil))) (mVar 0)) (mNil)))
@[reducible] def xDg:List SD->FR:=Fm.runN [] 1 xIc
theorem xBc:FnScope ["_law_ways","_law_knots","_law_stood","_law_tie","_law_u","_law_v","_law_shift","_law_number"] ["_law_ways","_law_knots","_law_stood","_law_tie"] (defScope xEw):=scZ (by decide +kernel)
@[reducible] def xIj:S:=sSeq (sAsg (gSq 3 (gCo (gN 4) (gCo (gN 5) (gCo (gN 6) (gNi))))) (mVar 3)) (sSeq (sIf (mOr (mTst (mOp xNa (mVar 4) (mVar 1))) (mTst (mOp xNa (mVar 5) (mVar 1)))) (sRet (mC (.str "noknot"))) (sNx)) (sSeq (sIf (mTst (mOp neD (mCB xDe (xAc (mVar 6) (mNil))) (mVar 0))) (sRet (mC (.str "badshift"))) (sNx)) (sSeq (sIf (mTst (mOp gtD (mCB xPx (xAc (mOp xBo (mLc (iSeq (mVar 6)) [7] (gN 7) (M.ret true) (mCB absD (xAc (mVar 7) (mNil)))) (mLst (xAc (mC (.int 0)) (mNil)))) (mNil))) (mOp powD (mC (.int 10)) (mC (.int 6))))) (sRet (mC (.str "far"))) (sNx)) (sSeq (sIf (mAnd (mTst (mOp eqD (mVar 4) (mVar 5))) (mTst (mOp eqD (mVar 6) (xAx xDg [] (aVa (mVar 0) (aNil)))))) (sRet (mC (.str "badtie"))) (sNx)) (sRet (mIfE (mTst (mOp in3D (xAx xBh [] (aVa (mVar 3) (aNil))) (mVar 2))) (mC (.str "twice")) (mC (.str ""))))))))
@[reducible] def xDh:List SD->FR:=Fm.runN [] 8 xIj
theorem xBr:FnScope ["_law_mesh","_law_ways","_law_knots","_law_ties","_law_name","_law_stood","_law_tie","_law_word"] ["_law_mesh"] (defScope xJh):=scZ (by decide +kernel)
@[reducible] def xPt:S:=sSeq (sAsg (gSq 3 (gCo (gN 1) (gCo (gN 2) (gCo (gN 3) (gNi))))) (mVar 0)) (sSeq (sIf (mNot (mTst (xDz leD leD (mC (.int 0)) (mVar 1) (mC (.int 3))))) (sRet (mC (.str "badways"))) (sNx)) (sSeq (sFor (iSeq (mCB xCz (xAc (mVar 2) (mNil)))) (gN 4) (sSeq (sIf (mNot (mTst (xAx xDc [] (aVa (mVar 4) (aNil))))) (sRet (mC (.str "badname"))) (sNx)) (sIf (mNot (mTst (xDz leD leD (mC (.int 0)) (xAy 2 (mVar 4)) (mC (.int 9))))) (sRet (mC (.str "baddye"))) (sNx)))) (sSeq (sIf (mTst (mOp gtD (mCB xDe (xAc (mVar 2) (mNil))) (mC (.int 12)))) (sRet (mC (.str "full"))) (sNx)) (sSeq (sSet 5 (mLst (mNil))) (sSeq (sFor (iSeq (mVar 3)) (gN 6) (sSeq (sSet 7 (xIn 5 (xAx xDh [] (aVa (mVar 1) (aVa (mVar 2) (aVa (mVar 5) (aVa (mVar 6) (aNil)))))))) (sSeq (sIf (mTst (mOp neD (mVar 7) (mC (.str "")))) (sRet (mMov 7)) (sNx)) (xHz (mApp 5 (xAc (xAx xBh [] (aVa (mVar 6) (aNil))) (mNil))))))) (sRet (mIfE (mTst (mOp gtD (mCB xDe (xAc (mVar 5) (mNil))) (mC (.int 24)))) (mC (.str "full")) (mC (.str "")))))))))
@[reducible] def xGe:List SD->FR:=Fm.runN [] 8 xPt
theorem xCk:FnScope ["_law_draw","_law_word","_law_at","_law_sign"] ["_law_draw","_law_word"] (defScope xD8):=scZ (by decide +kernel)
@[reducible] def xG3:S:=sSeq (sSet 2 (xAx xAh [] (aSl 0 (aVa (mOp xBo (mCB xDe (xAc (mVar 1) (mNil))) (mC (.int 1))) (aNil))))) (sSeq (sSet 3 (xAx xBl [] (aSl 0 (aVa (mC (.str "AZ09 _-.a{")) (aNil))))) (sRet (mOp ix3D (mTup (xAc (mOp xBo (mOp xBo (mSl (mVar 1) (mPN) (mPS (mVar 2))) (mVar 3)) (mSl (mVar 1) (mPS (mVar 2)) (mPN))) (xAc (mC (.str "")) (xAc (mOp xBo (mVar 1) (mC (.str "abcdefgh"))) (xAc (mOp xBo (mSl (mVar 1) (mPN) (mPS (mVar 2))) (mUn upD (mSl (mVar 1) (mPS (mVar 2)) (mPN)))) (mNil)))))) (xAx xAh [] (aSl 0 (aVa (mC (.int 4)) (aNil)))))))
@[reducible] def xCt:List SD->FR:=Fm.runN [0] 4 xG3
theorem xAp:FnScope ["_law_draw","_law_mesh","_law_ways","_law_knots","_law_ties","_law_way","_law_name","_law_tie","_law_far","_law_at"] ["_law_draw","_law_mesh"] (defScope xG7):=scZ (by decide +kernel)
@[reducible] def xMr:S:=sSeq (sCp3 1 2 3 4) (sSeq (sSet 5 (xAx xAh [] (aSl 0 (aVa (mC (.int 8)) (aNil))))) (sSeq (sSet 6 (mOp ix3D (mOp xBo (xIn 3 (mCB xCz (xAc (mVar 3) (mNil)))) (mLst (xAc (mC (.str "n")) (mNil)))) (mC (.int 0)))) (sSeq (sSet 7 (mTup (xAc (mVar 6) (xAc (xAx xBl [] (aSl 0 (aVa (mOp xBo (xIn 3 (mCB xCz (xAc (mVar 3) (mNil)))) (mLst (xAc (mVar 6) (mNil)))) (aNil)))) (xAc (xAx xCd [] (aSl 0 (aVa (mC (.int 2)) (aVa (mC (.int 3)) (aNil))))) (mNil)))))) (sSeq (sIf (mTst (mOp eqD (mVar 5) (mC (.int 0)))) (sSet 2 (mOp ix3D (mTup (xAc (mUn negD (mC (.int 1))) (xAc (mC (.int 4)) (xAc (mOp powD (mC (.int 10)) (mC (.int 20))) (xAc (mC (.int 1)) (xAc (mC (.int 3)) (mNil))))))) (xAx xAh [] (aSl 0 (aVa (mC (.int 5)) (aNil)))))) (sNx)) (sSeq (sIf (mTst (mOp eqD (mVar 5) (mC (.int 1)))) (xF9 3 (xAx xCt [] (aSl 0 (aVa (mVar 6) (aNil)))) (mC (.int 0))) (sNx)) (sSeq (sIf (mTst (mOp eqD (mVar 5) (mC (.int 2)))) (xF9 3 (mVar 6) (mOp ix3D (mTup (xAc (mUn negD (mC (.int 1))) (xAc (mC (.int 10)) (xAc (mC (.int 9)) (xAc (mOp powD (mC (.int 10)) (mC (.int 20))) (mNil)))))) (xAx xAh [] (aSl 0 (aVa (mC (.int 4)) (aNil)))))) (sNx)) (sSeq (sIf (mTst (mOp eqD (mVar 5) (mC (.int 3)))) (sSet 7 (mTup (xAc (xAy 7 (mC (.int 0))) (xAc (mOp ix3D (mTup (xAc (mC (.str "")) (xAc (mC (.str "Z")) (xAc (mOp xBo (mVar 6) (mC (.str "z"))) (mNil))))) (xAx xAh [] (aSl 0 (aVa (mC (.int 3)) (aNil))))) (xAc (xAy 7 (mC (.int 2))) (mNil)))))) (sNx)) (sSeq (sIf (mTst (mOp eqD (mVar 5) (mC (.int 4)))) (sSet 7 (mTup (xAc (xAy 7 (mC (.int 0))) (xAc (xAy 7 (mC (.int 1))) (xAc (mOp ix3D (mTup (xAc (mOp xBo (xAy 7 (mC (.int 2))) (mTup (xAc (mC (.int 1)) (mNil)))) (xAc (mSl (xAy 7 (mC (.int 2))) (mPN) (mPS (mC (.int 1)))) (xAc (mTup (mNil)) (mNil))))) (xAx xAh [] (aSl 0 (aVa (mC (.int 3)) (aNil))))) (mNil)))))) (sNx)) (sSeq (sIf (mTst (mOp eqD (mVar 5) (mC (.int 5)))) (sSeq (sSet 8 (mOp ix3D (mTup (xAc (mOp powD (mC (.int 10)) (mC (.int 6))) (xAc (mOp xBo (mOp powD (mC (.int 10)) (mC (.int 6))) (mC (.int 1))) (xAc (mUn negD (mOp powD (mC (.int 10)) (mC (.int 6)))) (xAc (mOp subD (mUn negD (mOp powD (mC (.int 10)) (mC (.int 6)))) (mC (.int 1))) (mNil)))))) (xAx xAh [] (aSl 0 (aVa (mC (.int 4)) (aNil)))))) (sSet 7 (mTup (xAc (xAy 7 (mC (.int 0))) (xAc (xAy 7 (mC (.int 1))) (xAc (mTup (xAc (mVar 8) (xAc (mOp ix3D (xAy 7 (mC (.int 2))) (mC (.int 1))) (mNil)))) (mNil))))))) (sNx)) (sSeq (sIf (mTst (mOp eqD (mVar 5) (mC (.int 6)))) (sSet 7 (mTup (xAc (xAy 7 (mC (.int 0))) (xAc (xAy 7 (mC (.int 0))) (xAc (mTup (xAc (mC (.int 0)) (xAc (mC (.int 0)) (mNil)))) (mNil)))))) (sNx)) (sSeq (sIf (mAnd (mTst (mOp eqD (mVar 5) (mC (.int 7)))) (mTst (mOp neD (mVar 4) (mLst (mNil))))) (sSeq (sSet 7 (xAx xBl [] (aSl 0 (aVa (mVar 4) (aNil))))) (sSet 7 (mTup (xAc (xAy 7 (mC (.int 1))) (xAc (xAy 7 (mC (.int 0))) (xAc (xAx xCo [] (aVa (xAy 7 (mC (.int 2))) (aNil))) (mNil))))))) (sNx)) (sSeq (sIf (mTst (mOp gtD (mVar 5) (mC (.int 2)))) (sSeq (sSet 9 (xAx xAh [] (aSl 0 (aVa (mOp xBo (mCB xDe (xAc (mVar 4) (mNil))) (mC (.int 1))) (aNil))))) (sSet 4 (mOp xBo (mOp xBo (mSl (mVar 4) (mPN) (mPS (mVar 9))) (mLst (xAc (mVar 7) (mNil)))) (mSl (mVar 4) (mPS (mVar 9)) (mPN))))) (sNx)) (sRet (mTup (xAc (mVar 2) (xAc (mVar 3) (xAc (mVar 4) (mNil))))))))))))))))))
@[reducible] def xE6:List SD->FR:=Fm.runN [0] 10 xMr
theorem xCh:FnScope ["_law_mesh","_law_u","_law_v","_law_shift","_law_name"] ["_law_mesh"] (defScope xH5):=scZ (by decide +kernel)
@[reducible] def xM9:S:=sSeq (sFor (iSeq (xAy 0 (mC (.int 2)))) (gSq 3 (gCo (gN 1) (gCo (gN 2) (gCo (gN 3) (gNi))))) (sFor (iSeq (mTup (xAc (mVar 1) (xAc (mVar 2) (mNil))))) (gN 4) (sIf (mTst (mOp xNa (mVar 4) (xAy 0 (mC (.int 1))))) (sRet (mMov 4)) (sNx)))) (sRet (mC (.str "")))
@[reducible] def xFb:List SD->FR:=Fm.runN [] 5 xM9
theorem xEy:FnScope ["_law_script","_law_draw","_law_turn","_law_mesh","_law_bend","_law_due_here","_law_name","_law_word","e"] ["_law_script"] (defScope yAu):=scZ (by decide +kernel)
@[reducible] def s_law:S:=sSeq (sSet 1 (xAx xD3 [] (aVa (mVar 0) (aNil)))) (sSeq (sFor (iRg1 (xAc (mC (.int 4)) (mNil))) (gN 2) (sSeq (sSet 3 (xAx xEe [] (aSl 1 (aVa (mC (.int 2)) (aVa (mSl (xAx xDb [] (aSl 1 (aVa (mC (.int 4)) (aNil)))) (mPN) (mPS (mOp xBo (mC (.int 1)) (xAx xAh [] (aSl 1 (aVa (mC (.int 4)) (aNil))))))) (aVa (mC (.int 5)) (aNil))))))) (sSeq (sFor (iRg1 (xAc (xAx xAh [] (aSl 1 (aVa (mC (.int 4)) (aNil)))) (mNil))) (gN 4) (sSet 3 (xAx xE6 [] (aSl 1 (aVa (mVar 3) (aNil)))))) (sSeq (sSet 5 (xAx xGe [] (aVa (mVar 3) (aNil)))) (sSeq (sSet 6 (mC (.str ""))) (sSeq (sSet 7 (mC (.str ""))) (sSeq (xRu (xHz (xZs xA4 (xAc (xAy 3 (mC (.int 0))) (xAc (mCB xN3 (xAc (xAy 3 (mC (.int 1))) (mNil))) (xAc (mCB xRe (xAc (xAy 3 (mC (.int 2))) (mNil))) (mNil)))))) 8 xMa) (sIf (mOr (mTst (mOp neD (mVar 7) (mVar 5))) (mAnd (mTst (mOp eqD (mVar 5) (mC (.str "noknot")))) (mTst (mOp neD (mVar 6) (xAx xFb [] (aVa (mVar 3) (aNil))))))) (sRet (mC (.bl false))) (sNx))))))))) (sRet (mC (.bl true))))
@[reducible] def xXy:List SD->FR:=Fm.runN [] 9 s_law
end Lw
set_option maxHeartbeats 990000
open L2 PySem PySem.Spec PyProof.Rows Fm
namespace Fm
theorem kC {α:Type}{m:M α}{a:SD}{ρ:List SD}{p:α->List SD->Prop}{E:Exn->List SD->Prop}(h:Wp m (a :: ρ) p E):Wp m (a :: ρ) p E:=h
end Fm
local macro_rules | `(tactic| walk_at $s:str) => do
 let t := s.getString
 if t.startsWith "own" then
  let h ← `(_)
  let hs := Array.replicate ((t.drop 3).toNat?.getD 0) h
  let q ← `([$hs,*])
  `(tactic| with_reducible (repeat (first | (refine kD ?_; first | (refine kC ?_; first | refine yA1 ?_ | refine w_fz ?_ | refine yBb ?_ | refine yB7 ?_) | apply xBd; · with_unfolding_all exact (rfl : _ = $q) | apply xBf; · with_unfolding_all exact (rfl : _ = $q) | apply xBe; · with_unfolding_all exact (rfl : _ = $q) | refine yA1 ?_ | refine w_fz ?_ | refine yBb ?_ | refine yB7 ?_) | (refine kO ?_; first | apply xC7; · with_unfolding_all exact rfl | (refine kAd ?_; first | refine xQo ?_ | refine xSk ?_ ?_ | refine xSb ?_ ?_ | refine xQ8 ?_ ?_) | (refine kLn ?_; first | refine xSs ?_ | refine xRt ?_ | refine xSv ?_ | refine xQj ?_ ?_) | (refine kNe ?_; first | refine yAb ?_ | refine xQy ?_ ?_ ?_ | refine o_neB ?_) | apply xKs; · with_unfolding_all exact rfl | (refine kEq ?_; first | refine xZ1 ?_ | refine xR6 ?_ ?_ ?_ | refine o_eqB ?_) | (refine o_isi0 ?_; first | with_unfolding_all refine o_isI kit_int_int rfl ?_ | with_unfolding_all refine o_isI kit_int_bool rfl ?_ | with_unfolding_all refine o_isI kit_int_tuple rfl ?_ | with_unfolding_all refine o_isI kit_int_list rfl ?_ | with_unfolding_all refine o_isI kit_int_dict rfl ?_ | with_unfolding_all refine o_isI kit_bool_bool rfl ?_ | with_unfolding_all refine o_isI kit_bool_int rfl ?_ | with_unfolding_all refine o_isI kit_bool_tuple rfl ?_ | with_unfolding_all refine o_isI kit_bool_list rfl ?_ | with_unfolding_all refine o_isI kit_str_bool rfl ?_ | with_unfolding_all refine o_isI kit_str_int rfl ?_ | with_unfolding_all refine o_isI kit_tuple_bool rfl ?_ | with_unfolding_all refine o_isI kit_tuple_int rfl ?_ | with_unfolding_all refine o_isI kit_tuple_tuple rfl ?_ | with_unfolding_all refine o_isI kit_tuple_list rfl ?_ | with_unfolding_all refine o_isI kit_tuple_dict rfl ?_ | with_unfolding_all refine o_isI kit_list_bool rfl ?_ | with_unfolding_all refine o_isI kit_list_int rfl ?_ | with_unfolding_all refine o_isI kit_list_tuple rfl ?_ | with_unfolding_all refine o_isI kit_list_list rfl ?_ | with_unfolding_all refine o_isI kit_list_dict rfl ?_ | with_unfolding_all refine o_isI kit_non_bool rfl ?_ | with_unfolding_all refine o_isI kit_non_tuple rfl ?_ | with_unfolding_all refine o_isI kit_non_int rfl ?_ | with_unfolding_all refine o_isI kit_non_list rfl ?_ | with_unfolding_all refine o_isI kit_non_dict rfl ?_ | with_unfolding_all refine o_isI kit_dict_bool rfl ?_ | with_unfolding_all refine o_isI kit_dict_int rfl ?_ | with_unfolding_all refine o_isI kit_dict_tuple rfl ?_ | with_unfolding_all refine o_isI kit_dict_list rfl ?_ | with_unfolding_all refine o_isI kit_dict_dict rfl ?_) | refine yBy ?_ ?_ | refine yA8 ?_ | refine o_le ?_ | refine xWc ?_ ?_ | (refine kIs ?_; first | refine o_isnN ?_ | refine o_isnK ?_ | refine o_isnS2 ?_ | refine o_isnI ?_ | refine o_isnB ?_ | refine o_isnS ?_ | refine o_isnT ?_ | refine o_isnL ?_) | (refine o_isit0 ?_; first | with_unfolding_all refine o_isT kits_int rfl ?_ | with_unfolding_all refine o_isT kits_str rfl ?_ | with_unfolding_all refine o_isT kits_tuple rfl ?_ | with_unfolding_all refine o_isT kits_list rfl ?_ | with_unfolding_all refine o_isT kits_dict rfl ?_ | with_unfolding_all refine o_isT kits_non rfl ?_) | refine xQk ?_ | refine o_strI ?_ ?_ | refine xOv ?_ | refine yCu ?_ | refine yAc ?_ ?_ | refine o_lt ?_ | refine xZw ?_ ?_ | refine o_ge ?_ | refine o_gt ?_ | refine yBc ?_ ?_ | (refine kNt ?_; first | refine o_ntnN ?_ | refine o_ntnI ?_ | refine o_ntnT ?_ | refine o_ntnL ?_) | refine o_tupT ?_ | refine xWx ?_ | refine yBa ?_ | refine yBh ?_ | refine o_listT ?_ | refine xZ4 ?_ | apply xXf; · with_unfolding_all exact rfl | apply xY8; · with_unfolding_all exact rfl | refine yAv ?_ | refine yAw ?_ | refine yAf ?_ | refine xTw ?_ ?_ | refine o_nin3S ?_ | refine xV2 ?_ | refine o_intB ?_ | refine o_add ?_ | refine o_addStr ?_ ?_ | refine o_addL ?_ ?_ | refine xXw ?_ | refine o_ninS ?_ | refine o_inL ?_ ?_ | refine o_split ?_ ?_ ?_ | refine o_part ?_ ?_ ?_ | refine o_len ?_ | refine o_lenL ?_ | refine o_lenStr ?_ ?_ | refine xTy ?_ ?_ | refine o_isC1 ?_) | (refine kE ?_; first | apply yCn; · with_unfolding_all exact rfl | refine w_c ?_ | refine w_op ?_ | refine xWk ?_ | refine w_cb ?_ | apply xR8; · with_unfolding_all exact rfl | refine yB5 ?_ | refine w_lc ?_ | refine yAt ?_ | refine yBd ?_ | refine xV9 ?_ | apply xS3; · with_unfolding_all exact rfl | refine xW7 ?_ | apply xW2; · with_unfolding_all exact rfl | refine w_m1 ?_ | refine xWo ?_ | refine w_sl ?_ | refine xWh ?_ | apply xWr; · with_unfolding_all exact rfl | refine w_un ?_ | refine yAh ?_ | apply xZ6; · with_unfolding_all exact rfl | refine xTu ?_ | apply yA5; · with_unfolding_all exact rfl | apply w_movO; · with_unfolding_all exact rfl | refine w_orV ?_ | refine xW8 ?_ | refine yCv ?_ | apply w_subV; · with_unfolding_all exact rfl | apply w_subO; · with_unfolding_all exact rfl | apply w_mLk; · with_unfolding_all exact rfl | apply w_dpop; · with_unfolding_all exact rfl | apply w_dpop1; · with_unfolding_all exact rfl | apply xBd; · with_unfolding_all exact (rfl : _ = $q) | apply xBf; · with_unfolding_all exact (rfl : _ = $q) | apply xBe; · with_unfolding_all exact (rfl : _ = $q)) | (refine kS ?_; first | (refine kC ?_; first | refine xAf ?_ | refine yA4 ?_ | refine yBf ?_ | refine w_if ?_ | refine w_nx ?_ | refine xQ1 ?_ | refine xHk ?_ | refine xRq ?_ | refine yAi ?_ | refine w_par ?_ | refine w_retN ?_ | refine w_par3 ?_ | refine w_put ?_ | refine w_ex ?_ | refine yBn ?_ | refine w_tryF ?_ | apply w_sLk; · with_unfolding_all exact rfl) | apply xBd; · with_unfolding_all exact (rfl : _ = $q) | apply xBf; · with_unfolding_all exact (rfl : _ = $q) | apply xBe; · with_unfolding_all exact (rfl : _ = $q) | refine xAf ?_ | refine yA4 ?_ | refine yBf ?_ | refine w_if ?_ | refine w_nx ?_ | refine xQ1 ?_ | refine xHk ?_ | refine xRq ?_ | refine yAi ?_ | refine w_par ?_ | refine w_retN ?_ | refine w_par3 ?_ | refine w_put ?_ | refine w_ex ?_ | refine yBn ?_ | refine w_tryF ?_ | apply w_sLk; · with_unfolding_all exact rfl) | (refine kAn ?_; first | apply yBe; · with_unfolding_all exact Nat.le_of_ble_eq_true rfl | refine br_f ?_ | apply xJ3; (· with_unfolding_all exact nd1 _); · with_unfolding_all exact rfl | apply xJ3; (· with_unfolding_all exact yDu); · with_unfolding_all exact rfl | apply x_is; · with_unfolding_all exact rfl | refine yB1 ?_ | refine br_d ?_ | refine br_t ?_ | refine yB4 ?_ | refine br_e ?_ | apply br_T; · with_unfolding_all exact rfl | apply br_F; · with_unfolding_all exact rfl) | (refine kL ?_; first | refine yA2 ?_ | refine xWq ?_ | refine xVz ?_ | refine xWm ?_ | refine w_zip ?_ | refine w_rng2 ?_ | refine w_en ?_ | refine w_rvr ?_ | refine w_en3 ?_ | refine w_rvl3 ?_ | apply w_iKy; · with_unfolding_all exact rfl | apply xBd; · with_unfolding_all exact (rfl : _ = $q) | apply xBf; · with_unfolding_all exact (rfl : _ = $q) | apply xBe; · with_unfolding_all exact (rfl : _ = $q)) | (refine kEx ?_; first | apply yCc; · with_unfolding_all exact rfl | apply yBs; · with_unfolding_all exact rfl | apply yBg; (· with_unfolding_all exact rfl); (· with_unfolding_all exact rfl); · with_unfolding_all exact rfl) | (refine kA ?_; first | (refine kC ?_; first | refine xWf ?_ | refine yBu ?_ | apply yCb; · with_unfolding_all exact rfl | refine w_aapp ?_) | apply xBd; · with_unfolding_all exact (rfl : _ = $q) | apply xBf; · with_unfolding_all exact (rfl : _ = $q) | apply xBe; · with_unfolding_all exact (rfl : _ = $q) | refine xWf ?_ | refine yBu ?_ | apply yCb; · with_unfolding_all exact rfl | refine w_aapp ?_) | (refine kB ?_; first | refine yAs ?_ | refine yAn ?_ | refine xWi ?_ | refine yBq ?_) | refine w_pn ?_ | refine w_ps ?_ | refine w_mw ?_ | refine o_enL ?_ | refine o_enT ?_ | refine o_rvL ?_)))
 else Lean.Macro.throwUnsupported
local macro_rules | `(tactic| walk_at "b1") => `(tactic| exact fun _ _ _ _ _ _ us hl => match us, hl with | [_], _ => rfl)
local macro_rules | `(tactic| walk_at "b2") => `(tactic| exact fun _ _ _ _ _ _ us hl => match us, hl with | [_, _], _ => rfl)
local macro_rules | `(tactic| walk_at "b3") => `(tactic| exact fun _ _ _ _ _ _ us hl => match us, hl with | [_, _, _], _ => rfl)
local macro_rules | `(tactic| walk_at "b4") => `(tactic| exact fun _ _ _ _ _ _ us hl => match us, hl with | [_, _, _, _], _ => rfl)
local macro_rules | `(tactic| walk_at "b5") => `(tactic| exact fun _ _ _ _ _ _ us hl => match us, hl with | [_, _, _, _, _], _ => rfl)
local macro_rules | `(tactic| walk_at "b6") => `(tactic| exact fun _ _ _ _ _ _ us hl => match us, hl with | [_, _, _, _, _, _], _ => rfl)
local macro_rules | `(tactic| walk_at "b7") => `(tactic| exact fun _ _ _ _ _ _ us hl => match us, hl with | [_, _, _, _, _, _, _], _ => rfl)
local macro_rules | `(tactic| walk_at "b8") => `(tactic| exact fun _ _ _ _ _ _ us hl => match us, hl with | [_, _, _, _, _, _, _, _], _ => rfl)
local macro_rules | `(tactic| walk_at "b9") => `(tactic| exact fun _ _ _ _ _ _ us hl => match us, hl with | [_, _, _, _, _, _, _, _, _], _ => rfl)
namespace Lw
open L2 PySem PySem.Spec PyProof.Rows Fm
theorem xKq {n i:Nat}{d:D}(h:(rngD 0 n)[i]? =some d):i<n/\d= .int (i:Int):=by
 have hi:i<n:=by
  have z:=(yC1.mp h).1
  rw [xCn] at z
  exact z
 rw [xYz hi] at h
 cases h
 refine ⟨hi,?_⟩
 rw [Int.zero_add]
theorem xVq {n:Nat}:(yDg n true).all id=true:=by
 induction n with
 | zero=>rfl
 | succ n ih=>rw [yEm,yD6,ih];rfl
def okT:Nat->D->Bool
 | _,.non=>true
 | _,.bl _=>true
 | _,.int _=>true
 | _,.str s=>PyData.strOk s
 | n+1,.tup l=>decide (l.length<=100000)&&l.all (okT n)
 | n+1,.lst _ l=>decide (l.length<=100000)&&l.all (okT n)
 | _,_=>false
structure Drw (n:Nat)(d:D):Prop where
 ex: ∃ (b:Bool) (cells:List Int) (at_ big seed cnt:Int),d= .lst b [.lst false (cells.map D.int),.int at_,.int big,.int seed,.int cnt]/\0<=at_/\0<=big/\(0<=seed/\seed<1000000007)/\0<=cnt/\cnt<=n
theorem modM (a:Int):0<=a.fmod 1000000007/\a.fmod 1000000007<1000000007:=⟨yEe a (by decide),yEo a (by decide)⟩
theorem xQu {a b:Int}(ha:0<=a)(hb:0<b):0<=a.fdiv b:=by
 rw [Int.fdiv_eq_ediv_of_nonneg a (Int.le_of_lt hb)]
 exact Int.ediv_nonneg ha (Int.le_of_lt hb)
theorem xA5 {n:Nat}{d:D}{many:Int}(h:Drw n d)(h1:1<=many)(h2:Sz 8000 many)(hn:n<=1000000000):Fw (xAh [.ow d,.va (.int many)]) (fun r o=> ∃ q,r= .va (.int q)/\(0<=q/\q<many)/\ ∃ d',o=[.ow d',.un]/\Drw (n+1) d') NoX:=by
 obtain ⟨b,cells,at_,big,seed,cnt,rfl,g1,g2,g3,g4,g5⟩:=h.ex
 have hm:many≠0:=by omega
 refine xA6 rfl ?_
 refine xAf ?_
 refine xAs (q:=fun f ρ=>f= .nx/\ ∃ (at_ big seed:Int) (s2:SD),ρ=[.ow (.lst b [.lst false (cells.map D.int),.int at_,.int big,.int seed,.int cnt]),.va (.int many),s2,.un]/\0<=at_/\0<=big/\(0<=seed/\seed<1000000007)) ?_ ?_
 ·walk_at "own"
  refine ⟨fun _=> ?_,fun _=> ?_⟩
  ·walk_at "own"
   refine ⟨fun z=> ?_,fun _=> ?_⟩
   ·obtain ⟨cell,hc⟩:=yAr g1 (of_decide_eq_true z)
    walk_at "own"
    refine xKs hc ?_
    walk_at "own"
    ·refine ⟨fun y=> ?_,fun _=> ?_⟩
     ·have y:=of_decide_eq_true y
      walk_at "own"
      exact ⟨rfl,at_+1,cell,seed,_,rfl,by omega,Int.le_trans (by decide) y,g3⟩
     ·walk_at "own"
      ·exact ⟨rfl,at_+1,0,(seed+cell).fmod 1000000007,_,rfl,by omega,by decide,modM _⟩
      ·decide
    ·decide
   ·walk_at "own"
    exact ⟨rfl,at_,big,seed,_,rfl,g1,g2,g3⟩
  ·walk_at "own"
   exact ⟨rfl,at_,big,seed,_,rfl,g1,g2,g3⟩
 ·rintro _ _ ⟨rfl,at_,big,seed,s2,rfl,g1,g2,g3⟩
  walk_at "own"
  refine ⟨fun y=> ?_,fun _=> ?_⟩
  ·walk_at "own"
   ·exact ⟨⟨yEe _ (by omega),yEo _ (by omega)⟩,_,rfl,b,cells,at_,big.fdiv many,seed,cnt,rfl,g1,xQu g2 (by omega),g3,g4,by omega⟩
   ·exact xQ3 hm h2 (by decide)
   ·exact hm
  ·walk_at "own"
   ·have q:=xQu (b:=5) (modM (seed ^ Int.toNat 3+40503*(cnt+1)+17)).1 (by decide)
    exact ⟨⟨yEe _ (by omega),yEo _ (by omega)⟩,_,rfl,b,cells,at_,big,_,cnt+1,rfl,g1,g2,modM _,by omega,by omega⟩
   ·exact hm
   ·exact xQ3 (k:=8) (by decide) (by unfold Sz;decide) (by decide)
   ·decide
   ·exact xNl (j:=17) (k:=40) (by unfold Sz;decide) (by unfold Sz;omega) (by decide)
   ·exact ⟨by decide,by decide,by omega⟩
theorem xBn {f:FR}{P:Int->Prop}{n:Nat}{u:List SD}(h:Fw f (fun r o=> ∃ q,r= .va (.int q)/\P q/\ ∃ d',o= .ow d'::u/\Drw n d') NoX){p:SD->List SD->Prop}{E:Exn->List SD->Prop}(g: ∀ q d',P q->Drw n d'->p (.va (.int q)) (.ow d'::u)):Fw f p E:=by
 refine xAo h ?_
 rintro r o ⟨q,rfl,hq,d',rfl,hd⟩
 exact g q d' hq hd
theorem Drw.mono {m n:Nat}{d:D}(h:Drw m d)(l:m<=n):Drw n d:=by
 obtain ⟨b,cells,a1,a2,a3,a4,e,g1,g2,g3,g4,g5⟩:=h.ex
 exact ⟨b,cells,a1,a2,a3,a4,e,g1,g2,g3,g4,by omega⟩
theorem xVt {ns:List Int}{d:D}(hd:d= .scr (ns.map D.int)\/d= .lst false (ns.map D.int)):Fw (xD3 [.va d]) (fun r o=> ∃ D0,r= .ow D0/\(o=[.un]/\Drw 0 D0)) NoX:=by
 obtain ⟨cells,e⟩:=xUp ns D.int none (some 63)
 rcases hd with rfl|rfl
 all_goals
  refine xA6 rfl ?_
  walk_at "own"
  rw [e]
  exact ⟨rfl,false,cells,0,0,1,0,rfl,by decide,by decide,⟨by decide,by decide⟩,by decide,by decide⟩
theorem szS {a:Int}(h:a.natAbs<1000000000):Sz 8000 a:=Sz.mono (j:=30) (show a.natAbs<2 ^ 30 by omega) (by decide)
end Lw
namespace Lw
open L2 PySem PySem.Spec PyProof.Rows Fm PySem.W
abbrev Vec:=List Int
abbrev Tie:=Str×Str×Vec
abbrev Stp:=Str×Vec
abbrev dV (s:Vec):D:= .tup (s.map D.int)
abbrev dT (t:Tie):D:= .tup [.str t.1,.str t.2.1,dV t.2.2]
abbrev dP (p:Stp):D:= .tup [.str p.1,dV p.2]
def neg (s:Vec):Vec:=s.map fun a=>0-a
def about (t:Tie):Tie:=(t.2.1,t.1,neg t.2.2)
theorem xXd (s:Vec):neg (neg s)=s:=by
 unfold neg
 rw [List.map_map]
 conv=>rhs;rw [<- List.map_id s]
 refine List.map_congr_left fun a _=> ?_
 show 0-(0-a)=a
 omega
theorem xKd (s:Vec):(neg s).length=s.length:=yC0 ..
theorem xMy (t:Tie):about (about t)=t:=by
 obtain ⟨u,v,s⟩:=t
 show (u,v,neg (neg s))=_
 rw [xXd]
theorem xHd: ∀ s:Vec,pyL (s.map D.int)=s.map PyData.int
 | []=>rfl
 | a::s=>by
  show PyData.int a::pyL (s.map D.int)=_
  rw [xHd s]
  rfl
theorem xN4: ∀ a b:Vec,PyData.eqvAll (a.map PyData.int) (b.map PyData.int)=decide (a=b)
 | [],[]=>(decide_eq_true rfl).symm
 | [],y::b=>by simp [PyData.eqvAll]
 | x::a,[]=>by simp [PyData.eqvAll]
 | x::a,y::b=>by
  show (PyData.eqv (.int x) (.int y)&&PyData.eqvAll (a.map PyData.int) (b.map PyData.int))=_
  rw [xN4 a b]
  show ((x==y)&&decide (a=b))=_
  by_cases h:x=y
  ·subst h
   simp
  ·simp [h]
theorem yCd (a b:Vec):peq (dV a) (dV b)=decide (a=b):=by
 show PyData.eqvAll (pyL (a.map D.int)) (pyL (b.map D.int))=_
 rw [xHd,xHd,xN4]
theorem xQm (p q:Tie):peq (dT p) (dT q)=decide (p=q):=by
 obtain ⟨a,a',s⟩:=p
 obtain ⟨b,b',t⟩:=q
 show ((a==b)&&((a'==b')&&(peq (dV s) (dV t)&&true)))=_
 rw [yCd]
 by_cases h:a=b
 ·subst h
  by_cases h2:a'=b'
  ·subst h2
   simp
  ·simp [h2]
 ·simp [h]
theorem any_map {α:Type}[DecidableEq α](f:α->D)(hf: ∀ a b,peq (f a) (f b)=decide (a=b))(x:α)(l:List α): ∃ b:Bool,((l.map f).any fun e=>peq e (f x))=b/\(b=true ↔ x∈l):=by
 refine ⟨_,rfl,?_⟩
 rw [List.any_map,List.any_eq_true]
 constructor
 ·rintro ⟨y,h1,h2⟩
  have h2:peq (f y) (f x)=true:=h2
  rw [hf] at h2
  rw [<- of_decide_eq_true h2]
  exact h1
 ·intro h
  exact ⟨x,h,by show peq (f x) (f x)=true;rw [hf];exact decide_eq_true rfl⟩
theorem xI5 {n:Nat}: ∀ {l:List D},(∀ d∈l,D.pl n d=true)->plL n l=true
 | [],_=>by unfold plL;rfl
 | d::l,h=>by
  unfold plL
  rw [h d (yC2 ..),xI5 fun e he=>h e (yC8 _ he)]
  rfl
theorem pl_int {n:Nat}{a:Int}:D.pl n (.int a)=true:=by cases n <;> rfl
theorem pl_V {n:Nat}(s:Vec):D.pl (n+1) (dV s)=true:=by
 show plL n (s.map D.int)=true
 refine xI5 fun d hd=> ?_
 obtain ⟨a,_,rfl⟩:=yDi.mp hd
 exact pl_int
theorem pl_P {n:Nat}{p:Stp}(h:PyData.strOk p.1=true):D.pl (n+2) (dP p)=true:=by
 show plL (n+1) [.str p.1,dV p.2]=true
 refine xI5 fun d hd=> ?_
 rcases inC hd with rfl|hd
 ·exact xHu h
 ·rw [yDr.mp hd]
  exact pl_V _
theorem pl_T {n:Nat}{t:Tie}(h:PyData.strOk t.1=true)(h2:PyData.strOk t.2.1=true):D.pl (n+2) (dT t)=true:=by
 show plL (n+1) [.str t.1,.str t.2.1,dV t.2.2]=true
 refine xI5 fun d hd=> ?_
 rcases inC hd with rfl|hd
 ·exact xHu h
 rcases inC hd with rfl|hd
 ·exact xHu h2
 ·rw [yDr.mp hd]
  exact pl_V _
theorem xPa {n:Nat}{b:Bool}{l:List D}(h: ∀ d∈l,D.pl n d=true):D.pl (n+1) (.lst b l)=true:=xI5 h
theorem xIz: ∀ a b:Vec,alikeAll (a.map PyData.int) (b.map PyData.int)=true
 | [],b=>by unfold alikeAll;cases b <;> rfl
 | x::a,[]=>by rfl
 | x::a,y::b=>by
  show (alike (.int x) (.int y)&&alikeAll (a.map PyData.int) (b.map PyData.int))=true
  rw [xIz a b]
  rfl
theorem xTk (a b:Vec):alike (dV a).py (dV b).py=true:=by
 show alikeAll (pyL (a.map D.int)) (pyL (b.map D.int))=true
 rw [xHd,xHd]
 exact xIz a b
theorem xYl (p q:Stp):alike (dP p).py (dP q).py=true:=by
 show (alike (.str p.1) (.str q.1)&&(alike (dV p.2).py (dV q.2).py&&true))=true
 rw [xTk]
 rfl
theorem xE7 (p q:Tie):alike (dT p).py (dT q).py=true:=by
 show (alike (.str p.1) (.str q.1)&&(alike (.str p.2.1) (.str q.2.1)&&(alike (dV p.2.2).py (dV q.2.2).py&&true)))=true
 rw [xTk]
 rfl
theorem xR2 {x y:PyData}(al:alike x y=true)(h1:dataLt x y=false)(h2:dataLt y x=false):PyData.eqv x y=true:=by
 have e:=lex_total (O:=itemOrd) _ _ h1 h2
 cases c:PyData.eqv x y with
 | true=>rfl
 | false=>
  have q:=(toks_eqv x y al).2 c
  have q1:=q [] []
  have q2:=q [] [.inl 0]
  rw [e] at q1 q2
  rw [lex_pre] at q1 q2
  rw [<- q1] at q2
  cases q2
theorem xTd (a b c:D):dataLe false D.py a b=true->dataLe false D.py b c=true->dataLe false D.py a c=true:=(sortLe_total _ _ _).trans a b c
theorem xTi (a b:D):(dataLe false D.py a b || dataLe false D.py b a)=true:=by
 rcases (sortLe_total (listOrd itemOrd) false fun b:D=>keyToks b.py).total a b with h|h
 ·show (sortLe _ _ _ a b || _)=true
  rw [h]
  rfl
 ·show (_ || sortLe _ _ _ b a)=true
  rw [h,Bool.or_true]
def srtF {α:Type}(f:α->D)(l:List α):List α:=l.mergeSort fun a b=>dataLe false D.py (f a) (f b)
theorem xJ8 {α:Type}(f:α->D)(l:List α):srtD (l.map f)=(srtF f l).map f:=(List.map_mergeSort (r:=fun a b=>dataLe false D.py (f a) (f b)) (s:=dataLe false D.py) (f:=f) (l:=l) fun _ _ _ _=>rfl).symm
theorem xDk {α:Type}(f:α->D)(l:List α):(srtF f l).Perm l:=List.mergeSort_perm ..
theorem xT2 {α:Type}[DecidableEq α](f:α->D)(hf: ∀ a b,peq (f a) (f b)=decide (a=b))(ha: ∀ a b,alike (f a).py (f b).py=true){l m:List α}(h:l.Perm m):srtF f l=srtF f m:=by
 have srt: ∀ l:List α,(srtF f l).Pairwise fun a b=>dataLe false D.py (f a) (f b)=true:=fun l=>List.pairwise_mergeSort (le:=fun a b=>dataLe false D.py (f a) (f b)) (fun a b c=>xTd (f a) (f b) (f c)) (fun a b=>xTi (f a) (f b)) l
 refine List.Perm.eq_of_pairwise (fun a b _ _ h1 h2=> ?_) (srt l) (srt m) ((xDk f l).trans (h.trans (xDk f m).symm))
 have h1:(!dataLt (f b).py (f a).py)=true:=h1
 have h2:(!dataLt (f a).py (f b).py)=true:=h2
 have e:=xR2 (ha a b) (by simpa using h2) (by simpa using h1)
 have e2:peq (f a) (f b)=true:=e
 rw [hf] at e2
 exact of_decide_eq_true e2
theorem xTq {α:Type}[DecidableEq α](f:α->D)(hf: ∀ a b,peq (f a) (f b)=decide (a=b))(ha: ∀ a b,alike (f a).py (f b).py=true)(l:List α):srtF f (srtF f l)=srtF f l:=xT2 f hf ha (xDk f l)
def les (t:Tie):Tie:=if dataLt (dT (about t)).py (dT t).py then about t else t
theorem xTe (t:Tie):xKp (dT t) (dT (about t))=dT (les t):=by
 unfold xKp les
 split <;> rfl
theorem xRz (t:Tie):les (about t)=les t:=by
 unfold les
 rw [xMy]
 cases h:dataLt (dT (about t)).py (dT t).py with
 | true=>
  have z:dataLt (dT t).py (dT (about t)).py=false:=by
   cases c:dataLt (dT t).py (dT (about t)).py with
   | false=>rfl
   | true=>
    have:=lex_trans (O:=itemOrd) _ _ _ h c
    rw [lex_irrefl] at this
    cases this
  rw [z]
  rfl
 | false=>
  cases c:dataLt (dT t).py (dT (about t)).py with
  | true=>rfl
  | false=>
   have e:peq (dT t) (dT (about t))=true:=xR2 (xE7 _ _) c h
   rw [xQm] at e
   exact (of_decide_eq_true e).symm
theorem xI0 (t:Tie):les t=t\/les t=about t:=by
 unfold les
 split
 ·exact .inr rfl
 ·exact .inl rfl
theorem xZe (t:Tie):les (les t)=les t:=by
 rcases xI0 t with h|h
 ·rw [h,h]
 ·rw [h,xRz,h]
theorem xE9 {α:Type}{l:List α}{p:α->Bool}(h: ∀ a∈l,p a=true):l.all p=true:=yDm.mpr h
theorem xO5 {α:Type}(f:α->D)(l:List α)(hp: ∀ a∈l,D.pl 60 (f a)=true)(ha: ∀ a b,alike (f a).py (f b).py=true)(ht: ∀ a,∃ x xs,(f a).py= .tuple (x::xs)):xF6 (l.map f)=true:=by
 unfold xF6
 rw [yC5,yC5,Bool.or_eq_true]
 refine ⟨⟨xI5 fun d hd=> ?_,xE9 fun d hd=>xE9 fun e he=> ?_⟩,.inl (xE9 fun d hd=> ?_)⟩
 ·obtain ⟨a,h,rfl⟩:=yDi.mp hd
  exact hp a h
 ·obtain ⟨a,_,rfl⟩:=yDi.mp hd
  obtain ⟨b,_,rfl⟩:=yDi.mp he
  exact ha a b
 ·obtain ⟨a,_,rfl⟩:=yDi.mp hd
  obtain ⟨x,xs,e⟩:=ht a
  rw [e]
theorem xRs {l:List Tie}(h: ∀ t∈l,PyData.strOk t.1=true/\PyData.strOk t.2.1=true):xF6 (l.map dT)=true:=xO5 dT l (fun t ht=>pl_T (h t ht).1 (h t ht).2) xE7 fun _=>⟨_,_,rfl⟩
theorem xYe {l:List Stp}(h: ∀ t∈l,PyData.strOk t.1=true):xF6 (l.map dP)=true:=xO5 dP l (fun t ht=>pl_P (h t ht)) xYl fun _=>⟨_,_,rfl⟩
theorem xWt {t:Tie}(h:PyData.strOk t.1=true)(h2:PyData.strOk t.2.1=true):minB (dT t) (dT (about t))=true:=by
 have h3:D.pl 60 (dT t)=true:=pl_T h h2
 have h4:D.pl 60 (dT (about t))=true:=pl_T (t:=about t) h2 h
 unfold minB
 rw [h3,h4,xE7,xE7,xE7,xE7]
 rfl
def xVy (ts:List Tie)(n:Str):List Stp:=((ts.filter fun t=>decide (t.1=n)).map fun t=>(t.2.1,t.2.2))++(ts.filter fun t=>decide (t.2.1=n)).map fun t=>(t.1,neg t.2.2)
def near (ts:List Tie)(n:Str):List Stp:=srtF dP (xVy ts n)
end Lw
open L2 PySem PySem.Spec PyProof.Rows Fm
namespace Lw
open L2 PySem PySem.Spec PyProof.Rows Fm
theorem xF3 {α:Type}{a b:α}{l:List α}(h:a∈b::l):a=b\/a∈l:=yDo.mp h
theorem xCf {α:Type}{a b:α}(h:a∈[b]):a=b:=yDr.mp h
theorem xC8 {α:Type}{a:α}{l m:List α}(h:a∈l++m):a∈l\/a∈m:=yEa.mp h
abbrev sl (s:Str):List Nat:=s.cps.toList
theorem xFv (w:Str)(k:Nat):sl (cutS w none (some (k:Int)))=(sl w).take k:=by
 have hl:w.length=(sl w).length:=Array.length_toList.symm
 show (((sl w).drop (HT.sIx w.length 0 none)).take (HT.sIx w.length w.length (some (k:Int))-HT.sIx w.length 0 none))=_
 rw [HT.sIx_nat,HT.sIx_none,List.drop_zero,Nat.sub_zero,hl]
 by_cases h:k<=(sl w).length
 ·rw [Nat.min_eq_left h]
 ·rw [yEt (by omega)]
  rw [yDk (yDp _),yDk (by omega)]
theorem xFl (w:Str)(k:Nat):sl (cutS w (some (k:Int)) none)=(sl w).drop k:=by
 have hl:w.length=(sl w).length:=Array.length_toList.symm
 show (((sl w).drop (HT.sIx w.length 0 (some (k:Int)))).take (HT.sIx w.length w.length none-HT.sIx w.length 0 (some (k:Int))))=_
 rw [HT.sIx_nat,HT.sIx_none,hl]
 rw [yDk (by rw [yDy];exact yDp _)]
 by_cases h:k<=(sl w).length
 ·rw [Nat.min_eq_left h]
 ·rw [yEt (by omega)]
  rw [yEf (yDp _),yEf (by omega)]
theorem xB4 (s:Str):s.length=(sl s).length:=Array.length_toList.symm
theorem xQz (a b:Str):sl (a++b)=sl a++sl b:=TL.tl_append a b
abbrev abc:Str:="abcdefghijklmnopqrstuvwxyz"
theorem xE8:abc.length=26:=by decide +kernel
theorem xV1: ∀ c∈sl abc,c<128:=by decide +kernel
structure Nx (n:Nat)(s:Str):Prop where
 len:s.length<=n
 abc: ∀ c∈sl s,c∈sl abc
theorem Nx.ok {n:Nat}{s:Str}(h:Nx n s):PyData.strOk s=true:=by
 unfold PyData.strOk
 rw [Array.all_eq_true']
 intro c hc
 have:=xV1 c (h.abc c (Array.mem_toList_iff.mpr hc))
 exact decide_eq_true (Nat.lt_trans this (by decide))
theorem xYf {n:Nat}{s:Str}(h:Nx n s)(k:Nat):Nx n (cutS s none (some (k:Int))):=⟨by
 rw [xB4,xFv,yDq,<- xB4]
 have:=h.len
 omega,fun c hc=>h.abc c (yD1 (by rw [<- xFv];exact hc))⟩
theorem xX0 {n:Nat}{s:Str}(h:Nx n s)(k:Nat):Nx n (cutS s (some (k:Int)) none):=⟨by
 rw [xB4,xFl,yDy,<- xB4]
 have:=h.len
 omega,fun c hc=>h.abc c (List.mem_of_mem_drop (by rw [<- xFl];exact hc))⟩
theorem xSh {m n:Nat}{a b:Str}(ha:Nx m a)(hb:Nx n b):Nx (m+n) (a++b):=⟨by
 have:=ha.len
 have:=hb.len
 have e:(a++b).length=a.length+b.length:=Str.length_append a b
 omega,fun c hc=>by
 have hc:c∈sl (a++b):=hc
 rw [xQz] at hc
 rcases xC8 hc with z|z
 ·exact ha.abc c z
 ·exact hb.abc c z⟩
theorem xK1 {S:List Nat}: ∀ {ps:List (List Nat)} {c:Nat},c∈TL.joinL S ps->c∈S\/ ∃ p∈ps,c∈p
 | [],_,h=>by cases h
 | [p],_,h=> .inr ⟨p,yC2 ..,h⟩
 | p::q::r,c,h=>by
  rcases xC8 (show c∈p++(S++TL.joinL S (q::r)) from h) with z|z
  ·exact .inr ⟨p,yC2 ..,z⟩
  ·rcases xC8 z with z|z
   ·exact .inl z
   ·rcases xK1 z with y|⟨x,y1,y2⟩
    ·exact .inl y
    ·exact .inr ⟨x,yC8 _ y1,y2⟩
theorem yCj {l:List Nat}{n:Nat}(h: ∀ a∈l,a<=n):l.sum<=l.length*n:=by
 induction l with
 | nil=>exact yDs _
 | cons a l ih=>
  rw [List.sum_cons,yDa,Nat.succ_mul]
  have:=h a (yC2 ..)
  have:=ih fun b hb=>h b (yC8 _ hb)
  omega
theorem joined {ps:List Str}{m:Nat}(hp: ∀ p∈ps,Nx 1 p)(hm:ps.length<=m):Nx m (Txt.join "" ps)/\(ps.map (·.length)).sum+ps.length*("":Str).length<=m:=by
 have z:=yCj (l:=ps.map (·.length)) (n:=1) fun a ha=>by
  obtain ⟨p,h1,rfl⟩:=yDi.mp ha
  exact (hp p h1).len
 rw [yC0] at z
 have e0:("":Str).length=0:=by decide +kernel
 have e:Txt.join "" ps=Str.join "" ps:=StrLaws.glued_eq_join "" ps
 refine ⟨⟨?_,fun c hc=> ?_⟩,by rw [e0];omega⟩
 ·rw [e]
  cases ps with
  | nil=>exact yDs _
  | cons a l=>
   rw [len_join_cons,e0]
   omega
 ·rw [e] at hc
  have hc:c∈TL.tl (Str.join "" ps):=hc
  rw [TL.tl_join] at hc
  rcases xK1 hc with z|⟨q,z1,z2⟩
  ·have z:c∈sl "":=z
   rw [show sl ""=[] by decide +kernel] at z
   cases z
  ·obtain ⟨p,hp1,rfl⟩:=yDi.mp z1
   exact (hp p hp1).abc c z2
theorem xJb {l:List Int}{q:Int}(h:0<=q/\q<(l.length:Nat)): ∃ z∈l,atI (l.map D.int) q=some (.int z):=by
 obtain ⟨k,rfl⟩: ∃ k:Nat,q=k:=⟨q.toNat,by omega⟩
 have hk:k<l.length:=by omega
 refine ⟨l[k],yEd hk,?_⟩
 rw [Fm.atI_nat,yDb,yC6 hk]
 rfl
theorem xWw (i:Int)(hi:0<=i/\i<26): ∃ c,atI (sl abc) i=some c/\c∈sl abc:=by
 obtain ⟨k,rfl⟩: ∃ k:Nat,i=k:=⟨i.toNat,by omega⟩
 have e:(sl abc).length=26:=by rw [<- xB4,xE8]
 have hk:k<(sl abc).length:=by omega
 exact ⟨(sl abc)[k],by rw [Fm.atI_nat,yC6 hk],yEd hk⟩
theorem xJ6 {n:Nat}{d:D}{x:Bool}{α:Type}{f:α->D}{l:List α}(h:Drw n d)(h0:0<l.length)(h1:l.length<=100000)(hn:n<=1000000):Fw (xBl [.ow d,.va (.lst x (l.map f))]) (fun r o=> ∃ w,r= .va (f w)/\w∈l/\ ∃ d',o=[.ow d',.un]/\Drw (n+1) d') NoX:=by
 refine xA6 rfl ?_
 walk_at "own2"
 refine xBn (xA5 h (by rw [yC0];omega) (szS (by rw [yC0];omega)) (by omega)) fun q d' hq hd=> ?_
 rw [yC0] at hq
 obtain ⟨k,rfl⟩: ∃ k:Nat,q=k:=⟨q.toNat,by omega⟩
 have hk:k<l.length:=by omega
 walk_at "own2"
 refine xKs (show atI _ _=some (f l[k]) by rw [Fm.atI_nat,yDb,yC6 hk];rfl) ?_
 walk_at "own2"
 exact ⟨yEd hk,d',rfl,hd⟩
theorem xYs {n:Nat}{d:D}(h:Drw n d)(hn:n<=1000000):Fw (xBl [.ow d,.va (.str abc)]) (fun r o=> ∃ w,r= .va (.str w)/\Nx 1 w/\ ∃ d',o=[.ow d',.un]/\Drw (n+1) d') NoX:=by
 refine xA6 rfl ?_
 walk_at "own2"
 ·refine xBn (xA5 h (by rw [xE8];decide) (szS (by rw [xE8];decide)) (by omega)) fun q d' hq hd=> ?_
  rw [xE8] at hq
  obtain ⟨c,ec,hc⟩:=xWw q hq
  walk_at "own2"
  refine xQw ?_ ec (by rw [xE8];decide)
  walk_at "own2"
  exact ⟨⟨yDp 1,fun x hx=>by rw [xCf (show x∈[c] from hx)];exact hc⟩,d',rfl,hd⟩
 ·rw [xE8]
  decide
structure Nm (s:Str):Prop where
 nx:Nx 8 s
 pos:1<=s.length
structure Nm6 (s:Str):Prop where
 nx:Nx 6 s
 pos:1<=s.length
theorem Nm6.nm {s:Str}(h:Nm6 s):Nm s:=⟨⟨yEn h.nx.len (by decide),h.nx.abc⟩,h.pos⟩
theorem xSu {n:Nat}{d:D}{many:Int}(hm:1<=many/\many<=12)(h:Drw n d)(hn:n<=100000):Fw (xDb [.ow d,.va (.int many)]) (fun r o=> ∃ l:List Str,r= .ow (.lst false (l.map D.str))/\(l.length=many.toNat/\ ∀ w∈l,Nm6 w)/\ ∃ d',o=[.ow d',.un]/\Drw (n+20) d') NoX:=by
 refine xA6 rfl ?_
 refine xAf ?_
 refine xAs (q:=fun f ρ=>f= .nx/\ρ=[.ow d,.va (.int many),.va (.str abc),.un,.un,.un,.un,.un,.un,.un]) ?_ ?_
 ·walk_at "own10"
  exact ⟨rfl,rfl⟩
 rintro _ _ ⟨rfl,rfl⟩
 refine xAf ?_
 refine xAs (q:=fun f ρ=>f= .nx/\ ∃ w d' s8,ρ=[.ow d',.va (.int many),.va (.str abc),.va (.str w),.un,.un,.un,.un,s8,.un]/\Nx 5 w/\Drw (n+7) d') ?_ ?_
 ·walk_at "own10"
  refine xBn (xA5 h (by decide) (szS (by decide)) (by omega)) fun q d1 hq k1=> ?_
  walk_at "own10"
  refine ⟨by omega,?_⟩
  refine xT6 (I:=fun i ρ=> ∃ d' s8,ρ=[.ow d',.va (.int many),.va (.str abc),.un,.un,.un,.un,.un,s8,.un]/\Drw (n+1+i) d') (Q:=Nx 1) (m:=D.str) ?_ ⟨d1,_,rfl,k1⟩ (by rw [xCn];omega) ?_
  ·rintro i e ρ hi ⟨d2,s8,rfl,k2⟩
   obtain ⟨hi2,rfl⟩:=xKq hi
   refine ⟨_,rfl,?_⟩
   walk_at "own10"
   refine xAo (xYs k2 (by omega)) ?_
   rintro r o ⟨w,rfl,hw,d3,rfl,k3⟩
   walk_at "own10"
   exact ⟨⟨w,hw,rfl⟩,d3,_,rfl,k3⟩
  ·rintro L ρ hL hQ ⟨d2,s8,rfl,k2⟩
   rw [xCn] at hL k2
   have j:=joined (m:=5) hQ (by omega)
   walk_at "own10"
   ·exact ⟨rfl,_,d2,_,rfl,j.1,k2.mono (by omega)⟩
   ·have:=j.2
    omega
 rintro _ _ ⟨rfl,w,d1,s8,rfl,hw,k1⟩
 have lw:=hw.len
 walk_at "own10"
 ·refine xBn (xA5 k1 (by omega) (szS (by omega)) (by omega)) fun at_ d2 ha k2=> ?_
  walk_at "own10"
  refine xBn (xA5 k2 (by decide) (szS (by decide)) (by omega)) fun first d3 hf k3=> ?_
  walk_at "own10"
  refine xBn (xA5 k3 (by decide) (szS (by decide)) (by omega)) fun sp d4 hs k4=> ?_
  obtain ⟨step,hm2,es⟩:=xJb (l:=[1,3,5,7,11,25]) hs
  have hstep:step.natAbs<26:=by
   simp only [yDo,or_false,yEs] at hm2
   omega
  walk_at "own10"
  refine xC7 es ?_
  walk_at "own10"
  refine ⟨by omega,?_⟩
  refine xT6 (I:=fun i ρ=> ∃ s8,ρ=[.ow d4,.va (.int many),.va (.str abc),.va (.str w),.va (.int at_),.va (.int first),.va (.int step),.un,s8,.un]) (Q:=fun s=>Nx 1 s/\s.length=1) (m:=D.str) ?_ ⟨_,rfl⟩ (by rw [xCn];omega) ?_
  ·rintro i e ρ hi ⟨s8,rfl⟩
   obtain ⟨hi2,rfl⟩:=xKq hi
   refine ⟨_,rfl,?_⟩
   walk_at "own10"
   ·obtain ⟨c,ec,hc⟩:=xWw ((first+step*i).fmod 26) ⟨yEe _ (by decide),yEo _ (by decide)⟩
    refine xQw ?_ ec (by rw [xE8];decide)
    walk_at "own10"
    exact ⟨⟨⟨#[c]⟩,⟨⟨yDp 1,fun x hx=>by
     have hx:x∈[c]:=hx
     rw [xCf hx]
     exact hc⟩,rfl⟩,rfl⟩,_,rfl⟩
   ·decide
   ·exact xNl (j:=5) (k:=5) (by unfold Sz;omega) (by unfold Sz;omega) (by decide)
  ·rintro L ρ hL hQ ⟨s8,rfl⟩
   rw [xCn] at hL
   obtain ⟨at',rfl⟩: ∃ k:Nat,at_=k:=⟨at_.toNat,by omega⟩
   walk_at "own10"
   refine xT6 (I:=fun i ρ=> ∃ s9,ρ=[.ow d4,.va (.int many),.va (.str abc),.va (.str w),.va (.int at'),.va (.int first),.va (.int step),.va (.lst false (L.map D.str)),s8,s9]) (Q:=Nm6) (m:=D.str) ?_ ⟨_,rfl⟩ (by rw [yC0];omega) ?_
   ·rintro i e ρ hi ⟨s9,rfl⟩
    rw [yDb] at hi
    obtain ⟨x,hx,rfl⟩:=yC4.mp hi
    obtain ⟨tx,lx⟩:=hQ x (yDn hx)
    have t1:=xYf hw at'
    have t2:=xX0 hw at'
    have e3:(cutS w none (some (at':Int))++x++cutS w (some (at':Int)) none).length=w.length+x.length:=by
     rw [Str.length_append,Str.length_append,xB4,xFv,xB4 (cutS _ _ _),xFl,xB4 w,yDq,yDy]
     omega
    have tt:=xSh (xSh t1 tx) t2
    have e4:(cutS w none (some (at':Int))++x).length<=10:=yEn (xSh t1 tx).len (by decide)
    have e5:=t1.len
    have e6:=t2.len
    refine ⟨_,rfl,?_⟩
    walk_at "own10"
    ·exact ⟨⟨_,⟨⟨by rw [e3];omega,tt.abc⟩,by rw [e3];omega⟩,rfl⟩,_,rfl⟩
    ·omega
    ·omega
    ·omega
    ·omega
   ·rintro L2 ρ hL2 hQ2 ⟨s9,rfl⟩
    rw [yC0] at hL2
    walk_at "own10"
    exact ⟨⟨by omega,hQ2⟩,d4,rfl,k4.mono (by omega)⟩
 ·omega
theorem xT4 {n:Nat}{d:D}{many:Int}(hm:1<=many/\many<=12)(h:Drw n d)(hn:n<=100000):Fw (xDb [.ow d,.va (.int many)]) (fun r o=> ∃ l:List Str,r= .ow (.lst false (l.map D.str))/\(l.length=many.toNat/\ ∀ w∈l,Nm w)/\ ∃ d',o=[.ow d',.un]/\Drw (n+20) d') NoX:=by
 refine xAo (xSu hm h hn) ?_
 rintro r o ⟨l,rfl,⟨h1,h2⟩,d',rfl,h3⟩
 exact ⟨l,rfl,⟨h1,fun w hw=>(h2 w hw).nm⟩,d',rfl,h3⟩
end Lw
open L2 PySem PySem.Spec PyProof.Rows Fm
namespace Lw
open L2 PySem PySem.Spec PyProof.Rows Fm
def Bd (k:Nat)(s:Vec):Prop:= ∀ a∈s,a.natAbs<=k
theorem xJi {n:Nat}{d:D}{w:Nat}{lim:Int}(hw:w<=3)(hl:0<=lim/\lim<=1000000000)(h:Drw n d)(hn:n<=100000):Fw (xCd [.ow d,.va (.int w),.va (.int lim)]) (fun r o=> ∃ s:Vec,r= .va (dV s)/\(s.length=w/\Bd lim.toNat s)/\ ∃ d',o=[.ow d',.un,.un]/\Drw (n+3) d') NoX:=by
 refine xA6 rfl ?_
 walk_at "own4"
 refine ⟨by omega,?_⟩
 refine xT6 (I:=fun i ρ=> ∃ d' s3,ρ=[.ow d',.va (.int w),.va (.int lim),s3]/\Drw (n+i) d') (Q:=fun a:Int=>a.natAbs<=lim.toNat) (m:=D.int) ?_ ⟨d,_,rfl,h⟩ (by rw [xCn];omega) ?_
 ·rintro i e ρ hi ⟨d2,s3,rfl,k2⟩
  refine ⟨_,rfl,?_⟩
  walk_at "own4"
  ·refine xBn (xA5 k2 (by omega) (Sz.mono (j:=40) (show (2*lim+1).natAbs<2 ^ 40 by omega) (by decide)) (by
    obtain ⟨this,_⟩:=yC1.mp hi
    rw [xCn] at this
    omega)) fun q d3 hq k3=> ?_
   walk_at "own4"
   exact ⟨⟨_,by omega,rfl⟩,d3,_,rfl,k3⟩
  ·exact xNl (j:=5) (k:=40) (by unfold Sz;decide) (by unfold Sz;omega) (by decide)
 ·rintro L ρ hL hQ ⟨d2,s3,rfl,k2⟩
  rw [xCn] at hL k2
  walk_at "own4"
  exact ⟨⟨by omega,hQ⟩,d2,rfl,k2.mono (by omega)⟩
theorem xIu {s:Vec}(hs:s.length<=1000):Fw (xCo [.va (dV s)]) (fun r o=>r= .va (dV (neg s))/\o=[.un]) NoX:=by
 refine xA6 rfl ?_
 walk_at "own2"
 refine xJ2 (L:=neg s) (m:=D.int) (by rw [xKd,yC0]) (fun i d c hd hc=> ?_) (by rw [yC0];omega) ?_
 ·rw [yDb] at hd
  obtain ⟨a,ha,rfl⟩:=yC4.mp hd
  unfold neg at hc
  rw [yDb,ha] at hc
  cases hc
  refine ⟨_,rfl,?_⟩
  walk_at "own2"
  exact ⟨rfl,rfl⟩
 ·walk_at "own2"
  exact ⟨rfl,rfl⟩
structure TOk (w:Nat)(N:List Str)(t:Tie):Prop where
 u:t.1∈N
 v:t.2.1∈N
 len:t.2.2.length=w
 bd:Bd 1000000 t.2.2
 ne: ¬ (t.1=t.2.1/\ ∀ a∈t.2.2,a=0)
theorem xUx {s:Vec}(h: ∀ a∈neg s,a=0): ∀ a∈s,a=0:=fun a ha=>by
 have:=h (0-a) (yDi.mpr ⟨a,ha,rfl⟩)
 omega
theorem xZx {k:Nat}{s:Vec}(h:Bd k s):Bd k (neg s):=fun a ha=>by
 obtain ⟨b,hb,rfl⟩:=yDi.mp ha
 have:=h b hb
 omega
theorem TOk.about {w:Nat}{N:List Str}{t:Tie}(h:TOk w N t):TOk w N (about t):=⟨h.v,h.u,(xKd _).trans h.len,xZx h.bd,fun z=>h.ne ⟨z.1.symm,xUx z.2⟩⟩
theorem TOk.les {w:Nat}{N:List Str}{t:Tie}(h:TOk w N t):TOk w N (les t):=by
 rcases xI0 t with e|e
 ·rw [e]
  exact h
 ·rw [e]
  exact h.about
abbrev NmL (N:List Str):Prop:= ∀ s∈N,Nm s
theorem Nm.ok {s:Str}(h:Nm s):PyData.strOk s=true:=h.nx.ok
theorem xEg {t:Tie}(h1:PyData.strOk t.1=true)(h2:PyData.strOk t.2.1=true)(hs:t.2.2.length<=1000):Fw (xBh [.va (dT t)]) (fun r o=>r= .va (dT (les t))/\o=[.un]) NoX:=by
 obtain ⟨u,v,s⟩:=t
 refine xA6 rfl ?_
 walk_at "own1"
 refine xAo (xIu hs) ?_
 rintro r o ⟨rfl,rfl⟩
 walk_at "own1"
 refine xWs ?_ (xWt (t:=(u,v,s)) h1 h2)
 rw [show xKp (D.tup [.str u,.str v,dV s]) (D.tup [.str v,.str u,dV (neg s)])=dT (les (u,v,s)) from xTe (u,v,s)]
 exact ⟨rfl,rfl⟩
structure TsOk (w:Nat)(N:List Str)(ts:List Tie):Prop where
 tie: ∀ t∈ts,TOk w N t/\les t=t
 nd:ts.Nodup
 srt:srtF dT ts=ts
theorem pl_Ts {w:Nat}{N:List Str}{ts:List Tie}{b:Bool}(hN:NmL N)(h: ∀ t∈ts,TOk w N t):D.pl 60 (.lst b (ts.map dT))=true:=xPa fun d hd=>by
 obtain ⟨t,ht,rfl⟩:=yDi.mp hd
 exact pl_T (hN _ (h t ht).u).ok (hN _ (h t ht).v).ok
theorem xGx (s:Vec):((s.map fun a=>decide (a=0)).all id=true) ↔ ∀ a∈s,a=0:=by
 rw [List.all_map,yDm]
 constructor
 ·intro h a ha
  exact of_decide_eq_true (h a ha)
 ·intro h a ha
  exact decide_eq_true (h a ha)
theorem xDl {γ:Type}{s:Vec}{i:Nat}{d:D}{f:Int->γ}{c:γ}(hd:(s.map D.int)[i]? =some d)(hc:(s.map f)[i]? =some c): ∃ a,d= .int a/\c=f a:=by
 rw [yDb] at hd hc
 obtain ⟨a,ha,rfl⟩:=yC4.mp hd
 rw [ha] at hc
 cases hc
 exact ⟨a,rfl,rfl⟩
structure PutR (ts:List Tie)(t:Tie)(ts':List Tie):Prop where
 old: ∀ x∈ts,x∈ts'
 new:(¬ (t.1=t.2.1/\ ∀ a∈t.2.2,a=0))->les t∈ts'
 src: ∀ x∈ts',x∈ts\/x=les t
theorem xT8 {w:Nat}{N:List Str}{ts:List Tie}{t:Tie}{b:Bool}(hN:NmL N)(h:TsOk w N ts)(hw:w<=3)(hu:t.1∈N)(hv:t.2.1∈N)(hl:t.2.2.length=w)(hb:Bd 1000000 t.2.2)(hn:ts.length<=1000):Fw (xEj [.va (.lst b (ts.map dT)),.va (dT t)]) (fun r o=> ∃ ts',(r= .va (.lst b (ts'.map dT))\/r= .ow (.lst false (ts'.map dT)))/\(TsOk w N ts'/\ts'.length<=ts.length+1)/\PutR ts t ts'/\o=[.un,.un]) NoX:=by
 obtain ⟨u,v,s⟩:=t
 have ou:=(hN _ hu).ok
 have ov:=(hN _ hv).ok
 have stay:TsOk w N ts/\ts.length<=ts.length+1:=⟨h,by omega⟩
 have key:(¬ (u=v/\ ∀ a∈s,a=0))->les (u,v,s)∉ts->TsOk w N (srtF dT (ts++[les (u,v,s)]))/\(srtF dT (ts++[les (u,v,s)])).length<=ts.length+1:=fun h1 h2=>by
  have k:TOk w N (u,v,s):=⟨hu,hv,hl,hb,h1⟩
  have pm:=xDk dT (ts++[les (u,v,s)])
  refine ⟨⟨fun t ht=> ?_,pm.nodup_iff.mpr ?_,xTq dT xQm xE7 _⟩,by rw [pm.length_eq,yDl];exact yDp _⟩
  ·rcases xC8 (pm.mem_iff.mp ht) with z|z
   ·exact h.tie t z
   ·rw [xCf z]
    exact ⟨k.les,xZe _⟩
  ·rw [yEr]
   exact ⟨h.nd,yDh.mpr ⟨(fun z=>by cases z),yDu⟩,fun a ha b hb e=>h2 (by rw [xCf hb] at e;rw [<- e];exact ha)⟩
 have hall: ∀ {ρ:List SD} {p:D->List SD->Prop},True:=fun {_ _}=>trivial
 refine xA6 rfl ?_
 refine xAf ?_
 refine xAs (q:=fun f ρ=>(f= .rt (.va (.lst b (ts.map dT)))/\ρ=[.va (.lst b (ts.map dT)),.va (dT (u,v,s)),.un]/\PutR ts (u,v,s) ts)\/(f= .nx/\ρ=[.va (.lst b (ts.map dT)),.va (dT (u,v,s)),.un]/\(¬ (u=v/\ ∀ a∈s,a=0))/\les (u,v,s)∉ts)) ?_ ?_
 ·have second:(¬ (u=v/\ ∀ a∈s,a=0))->Wp (mTst (mOp in3D (xAx xBh [] (aVa (mVar 1) (aNil))) (mVar 0))) [.va (.lst b (ts.map dT)),.va (dT (u,v,s)),.un] (fun k ρ'=>(k=true->Wp (sRet (mMov 0)) ρ' (fun f ρ=>(f= .rt (.va (.lst b (ts.map dT)))/\ρ=[.va (.lst b (ts.map dT)),.va (dT (u,v,s)),.un]/\PutR ts (u,v,s) ts)\/(f= .nx/\ρ=[.va (.lst b (ts.map dT)),.va (dT (u,v,s)),.un]/\(¬ (u=v/\ ∀ a∈s,a=0))/\les (u,v,s)∉ts)) NoX)/\(k=false->Wp sNx ρ' (fun f ρ=>(f= .rt (.va (.lst b (ts.map dT)))/\ρ=[.va (.lst b (ts.map dT)),.va (dT (u,v,s)),.un]/\PutR ts (u,v,s) ts)\/(f= .nx/\ρ=[.va (.lst b (ts.map dT)),.va (dT (u,v,s)),.un]/\(¬ (u=v/\ ∀ a∈s,a=0))/\les (u,v,s)∉ts)) NoX)) NoX:=fun nz=>by
   walk_at "own3"
   refine xAo (xEg (t:=(u,v,s)) ou ov (by show s.length<=1000;have:s.length=w:=hl;omega)) ?_
   rintro r o ⟨rfl,rfl⟩
   walk_at "own3"
   refine xQr ?_ ?_
   ·obtain ⟨bb,eb,hb⟩:=any_map dT xQm (les (u,v,s)) ts
    rw [eb]
    walk_at "own3"
    refine ⟨fun g0=> ?_,fun z=> ?_⟩
    ·walk_at "own3"
     exact .inl ⟨rfl,rfl,fun x hx=>hx,fun _=>hb.mp g0,fun x hx=> .inl hx⟩
    ·walk_at "own3"
     exact .inr ⟨rfl,rfl,nz,fun y=>by rw [hb.mpr y] at z;cases z⟩
   ·have kl:TOk w N (les (u,v,s)):=(TOk.mk hu hv hl hb nz).les
    rw [pl_T (hN _ kl.u).ok (hN _ kl.v).ok,pl_Ts hN fun t ht=>(h.tie t ht).1]
    rfl
  walk_at "own3"
  ·refine ⟨fun z=> ?_,fun z=> ?_⟩
   ·walk_at "own3"
    refine xJ2 (L:=s.map fun a=>decide (a=0)) (m:=D.bl) (by rw [yC0,yC0]) (fun i d c hd hc=> ?_) (by rw [yC0];have:s.length=w:=hl;omega) ?_
    ·obtain ⟨a,rfl,rfl⟩:=xDl hd hc
     refine ⟨_,rfl,?_⟩
     walk_at "own3"
     exact ⟨rfl,rfl⟩
    ·walk_at "own3"
     refine ⟨fun y=> ?_,fun y=> ?_⟩
     ·walk_at "own3"
      exact .inl ⟨rfl,rfl,fun x hx=>hx,fun g=>absurd ⟨of_decide_eq_true z,(xGx s).mp y⟩ g,fun x hx=> .inl hx⟩
     ·exact second fun q=>by
       rw [(xGx s).mpr q.2] at y
       cases y
   ·refine ⟨(fun y=>by cases y),fun _=> ?_⟩
    exact second fun q=>of_decide_eq_false z q.1
  ·exact ou
  ·exact ov
 ·rintro f ρ (⟨rfl,rfl,pr⟩|⟨rfl,rfl,nz,ni⟩)
  ·exact ⟨ts,.inl rfl,stay,pr,rfl⟩
  ·unfold dT
   walk_at "own3"
   refine xAo (xEg (t:=(u,v,s)) ou ov (by show s.length<=1000;have:s.length=w:=hl;omega)) ?_
   rintro r o ⟨rfl,rfl⟩
   walk_at "own3"
   ·refine xJp ?_ ?_
    ·rw [show ts.map dT++[dT (les (u,v,s))]=(ts++[les (u,v,s)]).map dT by rw [yDw];rfl,xJ8]
     have pm:=xDk dT (ts++[les (u,v,s)])
     exact ⟨_,.inr rfl,key nz ni,⟨fun x hx=>pm.mem_iff.mpr (List.mem_append_left _ hx),fun _=>pm.mem_iff.mpr (List.mem_append_right _ (yDr.mpr rfl)),fun x hx=>(xC8 (pm.mem_iff.mp hx)).imp id xCf⟩,rfl⟩
    ·rw [show ts.map dT++[dT (les (u,v,s))]=(ts++[les (u,v,s)]).map dT by rw [yDw];rfl]
     refine xRs fun t ht=> ?_
     have k:TOk w N t:=by
      rcases xC8 ht with z|z
      ·exact (h.tie t z).1
      ·rw [xCf z]
       exact (TOk.mk hu hv hl hb nz).les
     exact ⟨(hN _ k.u).ok,(hN _ k.v).ok⟩
   ·rw [yC0,List.length_singleton]
    omega
theorem xYc {w:Nat}{N:List Str}{ts:List Tie}{t:Tie}{b:Bool}(hN:NmL N)(h:TsOk w N ts)(hw:w<=3)(hu:t.1∈N)(hv:t.2.1∈N)(hl:t.2.2.length=w)(hb:Bd 1000000 t.2.2)(hn:ts.length<=1000):Fw (xEj [.va (.lst b (ts.map dT)),.va (dT t)]) (fun r o=> ∃ ts',(r= .va (.lst b (ts'.map dT))\/r= .ow (.lst false (ts'.map dT)))/\(TsOk w N ts'/\ts'.length<=ts.length+1)/\o=[.un,.un]) NoX:=
 xAo (xT8 hN h hw hu hv hl hb hn) fun _ _ ⟨ts',h1,h2,_,h3⟩=>⟨ts',h1,h2,h3⟩
end Lw
open L2 PySem PySem.Spec PyProof.Rows Fm
namespace Lw
open L2 PySem PySem.Spec PyProof.Rows Fm
structure KOk (N:List Str)(m:List (Key×D)):Prop where
 mem: ∀ p∈m,∃ s y,p=((.inr s:Key),D.int y)/\s∈N/\0<=y/\y<=9
 nd:(m.map Prod.fst).Nodup
theorem KOk.nil {N:List Str}:KOk N []:=⟨fun p h=>by (cases h),yDu⟩
theorem xWg {m:List (Key×D)}{k:Key}{d:D}(h:(m.map Prod.fst).Nodup):((xB3 m k d).map Prod.fst).Nodup:=by
 unfold xB3
 split
 ·rw [List.map_map,show (Prod.fst∘fun kv:Key×D=>if kv.1=k then (kv.1,d) else kv)=Prod.fst from funext fun kv=>by
   show (if kv.1=k then (kv.1,d) else kv).1=kv.1
   split <;> rfl]
  exact h
 ·rename_i g
  (rw [yDw,yEr])
  refine ⟨h,yDh.mpr ⟨(fun z=>by cases z),yDu⟩,fun a ha b hb e=> ?_⟩
  have hb:b=k:=xCf hb
  obtain ⟨q,hq,rfl⟩:=yDi.mp ha
  exact g (List.any_eq_true.mpr ⟨q,hq,decide_eq_true (e.trans hb)⟩)
theorem KOk.put {N:List Str}{m:List (Key×D)}{s:Str}{y:Int}(h:KOk N m)(hs:s∈N)(h0:0<=y)(h1:y<=9):KOk N (xB3 m (.inr s) (.int y)):=⟨fun p hp=>by
 rcases xFk hp with z|z
 ·exact h.mem p z
 ·exact ⟨s,y,z,hs,h0,h1⟩,xWg h.nd⟩
theorem KOk.get {N:List Str}{m:List (Key×D)}{s:Str}(h:KOk N m)(hs:(getK m (.inr s)).isSome=true): ∃ y,getK m (.inr s)=some (.int y)/\s∈N/\0<=y/\y<=9:=by
 obtain ⟨d,e⟩:=yD0.mp hs
 obtain ⟨s',y,h1,h2,h3,h4⟩:=h.mem _ (xFi e)
 cases h1
 exact ⟨y,e,h2,h3,h4⟩
theorem KOk.keys {N:List Str}{m:List (Key×D)}(h:KOk N m): ∃ ks,xEa m=some ks/\ks.length=m.length/\(∀ s∈ks,s∈N/\(getK m (.inr s)).isSome=true)/\ ∀ s,(getK m (.inr s)).isSome=true->s∈ks:=by
 obtain ⟨ks,h1,h2,h3⟩:=xJt (l:=m) fun p hp=>by
  obtain ⟨s,y,e,_⟩:=h.mem p hp
  exact ⟨s,by rw [e]⟩
 refine ⟨ks,h1,h2,fun s hs=> ?_,fun s hs=> ?_⟩
 ·obtain ⟨d,hd⟩:=(h3 s).mp hs
  obtain ⟨s',y,e,h4,_⟩:=h.mem _ hd
  cases e
  exact ⟨h4,xKb hd⟩
 ·obtain ⟨d,e⟩:=yD0.mp hs
  exact (h3 s).mpr ⟨d,xFi e⟩
theorem xEt {m:List (Key×D)}{k k':Key}{d:D}(h:(getK m k').isSome=true\/k'=k):(getK (xB3 m k d) k').isSome=true:=by
 rw [xN7]
 by_cases z:k'=k
 ·rw [if_pos z]
  rfl
 ·rw [if_neg z]
  exact h.resolve_right z
theorem xDs {α:Type}{l:List α}{i:Nat}{x y:α}(hx:l[i]? =some x)(h:y∈l.take (i+1)):y∈l.take i\/y=x:=by
 rw [yEk,hx] at h
 rcases xC8 h with z|z
 ·exact .inl z
 ·exact .inr (xCf z)
theorem TsOk.nil {w:Nat}{N:List Str}:TsOk w N []:=⟨fun t ht=>by (cases ht),yDu,by unfold srtF;exact List.mergeSort_nil⟩
abbrev dM (w:Nat)(m:List (Key×D))(b:Bool)(ts:List Tie):D:= .tup [.int w,.dk false m,.lst b (ts.map dT)]
structure MOk (w:Nat)(N:List Str)(m:List (Key×D))(ts:List Tie):Prop where
 wl:w<=3
 nm:NmL N
 pos:0<N.length
 few:N.length<=12
 knots:KOk N m
 klen:m.length<=12
 has: ∀ s∈N,(getK m (.inr s)).isSome=true
 ties:TsOk w N ts
 tlen:ts.length<=24
theorem xKo {N:List Str}{i:Nat}{d:D}(h:(N.map D.str)[i]? =some d): ∃ s,N[i]? =some s/\d= .str s:=by
 rw [yDb] at h
 obtain ⟨s,e,rfl⟩:=yC4.mp h
 exact ⟨s,e,rfl⟩
theorem xSy {lim:Nat}(hlim:lim<=24){n:Nat}{d:D}{w:Nat}{N:List Str}{x:Bool}(hw:w<=3)(hN:NmL N)(h0:0<N.length)(h3:N.length<=12)(h:Drw n d)(hn:n<=90000):Fw (xEe [.ow d,.va (.int w),.va (.lst x (N.map D.str)),.va (.int lim)]) (fun r o=> ∃ m ts,r= .va (dM w m false ts)/\(MOk w N m ts/\ts.length<=lim)/\ ∃ d',o=[.ow d',.un,.un,.un]/\Drw (n+200) d') NoX:=by
 refine xA6 rfl ?_
 refine xAf ?_
 refine xAs (q:=fun f ρ=>f= .nx/\ρ=[.ow d,.va (.int w),.va (.lst x (N.map D.str)),.va (.int lim),.ow (.dk false []),.un,.un,.un,.un]) ?_ ?_
 ·walk_at "own9"
  exact ⟨rfl,rfl⟩
 rintro _ _ ⟨rfl,rfl⟩
 refine xAf ?_
 refine xAs (q:=fun f ρ=>f= .nx/\ ∃ d' m s5,ρ=[.ow d',.va (.int w),.va (.lst x (N.map D.str)),.va (.int lim),.ow (.dk false m),s5,.un,.un,.un]/\(KOk N m/\m.length<=12/\ ∀ s∈N,(getK m (.inr s)).isSome=true)/\Drw (n+24) d') ?_ ?_
 ·refine xHk ?_
  walk_at "own9"
  refine xDw (I:=fun i ρ=> ∃ d' m s5,ρ=[.ow d',.va (.int w),.va (.lst x (N.map D.str)),.va (.int lim),.ow (.dk false m),s5,.un,.un,.un]/\(KOk N m/\m.length<=i/\ ∀ s∈N.take i,(getK m (.inr s)).isSome=true)/\Drw (n+2*i) d') ?_ ⟨d,[],_,rfl,⟨KOk.nil,yDp _,fun s hs=>by cases hs⟩,h⟩ ?_
  ·rintro i e ρ hi ⟨d1,m,s5,rfl,⟨k1,k2,k3⟩,k4⟩
   obtain ⟨s,hs,rfl⟩:=xKo hi
   have hi3:i<N.length:=(yC1.mp hs).1
   refine ⟨_,rfl,?_⟩
   refine xMm ?_
   walk_at "own9"
   refine xBn (xA5 k4 (by decide) (szS (by decide)) (by omega)) fun y d2 hy k5=> ?_
   walk_at "own9"
   refine xBn (xA5 k5 (by decide) (szS (by decide)) (by omega)) fun q d3 hq k6=> ?_
   obtain ⟨z,hm,ez⟩:=xJb (l:=[0,0,y]) hq
   have hz:0<=z/\z<=9:=by
    simp only [yDo,or_false,yEs] at hm
    omega
   walk_at "own9"
   refine xC7 ez ?_
   walk_at "own9"
   refine ⟨_,_,_,rfl,rfl,by omega,?_⟩
   have pl:=xDj m (.inr s) (.int z)
   refine ⟨d3,xB3 m (.inr s) (.int z),_,rfl,⟨k1.put (yDn hs) hz.1 hz.2,by omega,fun t ht=> ?_⟩,k6.mono (by omega)⟩
   refine xEt ?_
   rcases xDs hs ht with g|g
   ·exact .inl (k3 t g)
   ·exact .inr (by rw [g])
  ·rintro ρ ⟨d1,m,s5,rfl,⟨k1,k2,k3⟩,k4⟩
   rw [yC0] at k2 k3 k4
   rw [yDk (yDp _)] at k3
   exact ⟨rfl,d1,m,s5,rfl,⟨k1,by omega,k3⟩,k4.mono (by omega)⟩
 rintro _ _ ⟨rfl,d1,m,s5,rfl,⟨k1,k2,k3⟩,k4⟩
 refine xAf ?_
 refine xAs (q:=fun f ρ=>f= .nx/\ρ=[.ow d1,.va (.int w),.va (.lst x (N.map D.str)),.va (.int lim),.ow (.dk false m),s5,.ow (.lst false []),.un,.un]) ?_ ?_
 ·walk_at "own9"
  exact ⟨rfl,rfl⟩
 rintro _ _ ⟨rfl,rfl⟩
 refine xAf ?_
 refine xAs (q:=fun f ρ=>f= .nx/\ ∃ d' ts s6 s7 s8,ρ=[.ow d',.va (.int w),.va (.lst x (N.map D.str)),.va (.int lim),.ow (.dk false m),s5,s6,s7,s8]/\(s6= .va (.lst false (ts.map dT))\/s6= .ow (.lst false (ts.map dT)))/\(TsOk w N ts/\ts.length<=lim)/\Drw (n+200) d') ?_ ?_
 ·walk_at "own9"
  refine xBn (xA5 k4 (by omega) (szS (by omega)) (by omega)) fun c d2 hc k5=> ?_
  walk_at "own9"
  refine ⟨by omega,?_⟩
  refine xDw (I:=fun i ρ=> ∃ d' ts s6 s7 s8,ρ=[.ow d',.va (.int w),.va (.lst x (N.map D.str)),.va (.int lim),.ow (.dk false m),s5,s6,s7,s8]/\(s6= .va (.lst false (ts.map dT))\/s6= .ow (.lst false (ts.map dT)))/\(TsOk w N ts/\ts.length<=i)/\Drw (n+25+6*i) d') ?_ ⟨d2,[],_,_,_,rfl,.inr rfl,⟨TsOk.nil,yDp _⟩,k5.mono (by omega)⟩ ?_
  ·rintro i e ρ hi ⟨d3,ts,s6,s7,s8,rfl,hs6,⟨g1,g2⟩,g3⟩
   obtain ⟨hi2,rfl⟩:=xKq hi
   refine ⟨_,rfl,?_⟩
   rcases hs6 with rfl|rfl
   all_goals
    walk_at "own9"
    ·refine xBn (xA5 g3 (by decide) (szS (by decide)) (by omega)) fun q d4 hq k6=> ?_
     obtain ⟨z,hm,ez⟩:=xJb (l:=[1,2,2,9,10 ^ Int.toNat 6]) hq
     have hz:0<=z/\z<=1000000:=by
      simp only [yDo,or_false,yEs] at hm
      rcases hm with rfl|rfl|rfl|rfl|rfl <;> decide
     walk_at "own9"
     refine xC7 ez ?_
     walk_at "own9"
     refine xAo (xJ6 k6 h0 (by omega) (by omega)) ?_
     rintro r o ⟨u,rfl,hu,d5,rfl,k7⟩
     walk_at "own9"
     refine xAo (xJ6 k7 h0 (by omega) (by omega)) ?_
     rintro r o ⟨v,rfl,hv,d6,rfl,k8⟩
     walk_at "own9"
     refine xAo (xJi hw ⟨hz.1,by omega⟩ k8 (by omega)) ?_
     rintro r o ⟨s,rfl,⟨hl,hb⟩,d7,rfl,k9⟩
     walk_at "own9"
     refine xAo (xYc (t:=(u,v,s)) hN g1 hw hu hv hl (fun a ha=>by have:=hb a ha;omega) (by omega)) ?_
     rintro r o ⟨ts',hr,⟨t1,t2⟩,rfl⟩
     rcases hr with rfl|rfl
     ·walk_at "own9"
      exact ⟨d7,ts',_,_,_,rfl,.inl rfl,⟨t1,by omega⟩,k9.mono (by omega)⟩
     ·walk_at "own9"
      exact ⟨d7,ts',_,_,_,rfl,.inr rfl,⟨t1,by omega⟩,k9.mono (by omega)⟩
    ·exact ⟨by decide,by decide,by omega⟩
  ·rintro ρ ⟨d3,ts,s6,s7,s8,rfl,hs6,⟨g1,g2⟩,g3⟩
   rw [xCn] at g2 g3
   exact ⟨rfl,d3,ts,s6,s7,s8,rfl,hs6,⟨g1,by omega⟩,g3.mono (by omega)⟩
 rintro _ _ ⟨rfl,d3,ts,s6,s7,s8,rfl,hs6,⟨g1,g2⟩,g3⟩
 rcases hs6 with rfl|rfl
 ·walk_at "own9"
  exact ⟨⟨⟨hw,hN,h0,h3,k1,k2,k3,g1,by omega⟩,g2⟩,d3,rfl,g3⟩
 ·walk_at "own9"
  exact ⟨⟨⟨hw,hN,h0,h3,k1,k2,k3,g1,by omega⟩,g2⟩,d3,rfl,g3⟩
end Lw
open L2 PySem PySem.Spec PyProof.Rows Fm
namespace Lw
open L2 PySem PySem.Spec PyProof.Rows Fm
theorem xK0 {s:Vec}(hs:s.length<=1000):Fw (xGu [.va (dV s)]) (fun r o=>r= .va (dV (neg s))/\o=[.un]) NoX:=by
 refine xA6 rfl ?_
 walk_at "own2"
 refine xJ2 (L:=neg s) (m:=D.int) (by rw [xKd,yC0]) (fun i d c hd hc=> ?_) (by rw [yC0];omega) ?_
 ·obtain ⟨a,rfl,rfl⟩:=xDl hd hc
  refine ⟨_,rfl,?_⟩
  walk_at "own2"
  exact ⟨rfl,rfl⟩
 ·walk_at "own2"
  exact ⟨rfl,rfl⟩
def plus (a b:Vec):Vec:=List.zipWith (· + ·) a b
theorem xL5 {t:Tie}(h1:PyData.strOk t.1=true)(h2:PyData.strOk t.2.1=true)(hs:t.2.2.length<=1000):Fw (xG0 [.va (dT t)]) (fun r o=>r= .va (dT (les t))/\o=[.un]) NoX:=by
 obtain ⟨u,v,s⟩:=t
 refine xA6 rfl ?_
 walk_at "own4"
 refine xAo (xK0 hs) ?_
 rintro r o ⟨rfl,rfl⟩
 walk_at "own4"
 refine xWs ?_ (xWt (t:=(u,v,s)) h1 h2)
 rw [show xKp (D.tup [.str u,.str v,dV s]) (D.tup [.str v,.str u,dV (neg s)])=dT (les (u,v,s)) from xTe (u,v,s)]
 exact ⟨rfl,rfl⟩
theorem xY0 {l:List Nat}{i:Nat}{d:D}(h:(l.map fun c=>D.str ⟨#[c]⟩)[i]? =some d): ∃ c,l[i]? =some c/\d= .str ⟨#[c]⟩:=by
 rw [yDb] at h
 obtain ⟨c,e,rfl⟩:=yC4.mp h
 exact ⟨c,e,rfl⟩
theorem xP5 {s:Str}(h:Nm s):Fw (xFt [.va (.str s)]) (fun r o=>r= .va (.bl true)/\o=[.un]) NoX:=by
 have h1:=h.nx.len
 have h2:=h.pos
 refine xA6 rfl ?_
 walk_at "own2"
 ·refine ⟨fun _=> ?_,fun z=> ?_⟩
  ·walk_at "own2"
   refine ⟨fun _=> ?_,fun z=> ?_⟩
   ·walk_at "own2"
    refine xJ2 (L:=yDg (sl s).length true) (m:=D.bl) (by rw [yEg,yC0]) (fun i d c hd hc=> ?_) (by rw [yC0,<- xB4];omega) ?_
    ·obtain ⟨x,hx,rfl⟩:=xY0 hd
     have hc2:=List.eq_of_mem_replicate (yDn hc)
     subst hc2
     refine ⟨_,rfl,?_⟩
     walk_at "own2"
     refine ⟨?_,rfl⟩
     rw [decide_eq_true (h.nx.abc x (yDn hx))]
    ·walk_at "own2"
     rw [xVq]
     exact ⟨rfl,rfl⟩
   ·have z:=of_decide_eq_false z
    omega
  ·have z:=of_decide_eq_false z
   omega
 ·omega
theorem xKy {s:Str}(h:Nm s):Fw (xDo [.va (.str s)]) (fun r o=>r= .va .non/\o=[.un]) NoX:=by
 refine xA6 rfl ?_
 walk_at "own1"
 refine xAo (xP5 h) ?_
 rintro r o ⟨rfl,rfl⟩
 walk_at "own1"
 exact ⟨rfl,rfl⟩
theorem xMh {y:Int}(h0:0<=y)(h9:y<=9):Fw (xEk [.va (.int y)]) (fun r o=>r= .va .non/\o=[.un]) NoX:=by
 refine xA6 rfl ?_
 walk_at "own1"
 refine ⟨fun _=> ?_,fun z=> ?_⟩
 ·walk_at "own1"
  rw [decide_eq_true h9]
  walk_at "own1"
  exact ⟨rfl,rfl⟩
 ·have z:=of_decide_eq_false z
  omega
section
variable {b b1 b2:Bool}{l:List (Str×D)}{m:List (Key×D)}{w:Nat}{N:List Str}{bs:List Tie}
end
end Lw
open L2 PySem PySem.Spec PyProof.Rows Fm
namespace Lw
open L2 PySem PySem.Spec PyProof.Rows Fm
theorem xOu {γ:Type}{ρ:List SD}{E:Exn->List SD->Prop}{pl:List D->List SD->Prop}{vs:List Nat}{g:D->List SD->Option (List SD)}{tt:M Bool}{te:M SD}(m:γ->D)(q:γ->Bool)(h:γ->D): ∀ {L:List γ} {acc:List D},
  (∀ c∈L,∃ ρ1,g (m c) (xA3 ρ vs)=some ρ1/\Wp tt ρ1 (fun b ρ2=>b=q c/\(b=true->Wp (fE te) ρ2 (fun y ρ3=>y=h c/\unw ρ ρ3 vs=ρ) NoX)/\(b=false->unw ρ ρ2 vs=ρ)) NoX)->acc.length+L.length<=1000000->pl (acc++(L.filter q).map h) ρ->Wp (lcL vs g tt te (L.map m) acc) ρ pl E
 | [],acc,_,_,fin=>⟨by rw [List.filter_nil,List.map_nil,yD3] at fin;exact fin⟩
 | d::l,acc,step,hl,fin=>by
  obtain ⟨ρ1,e1,hw⟩:=step d (yC2 ..)
  rw [yDa] at hl
  refine ⟨?_⟩
  rw [yD2]
  unfold lcL
  simp only [e1]
  have hw:=hw.run
  cases et:tt ρ1 with
  | ok b ρ2=>
   rw [et] at hw
   obtain ⟨hb,h1,h2⟩:=hw
   cases b with
   | false=>
    dsimp only
    rw [h2 rfl]
    refine (xOu m q h (fun d hd=>step d (yC8 _ hd)) (by omega) ?_:Wp (lcL vs g tt te (l.map m) acc) ρ pl E).run
    rw [List.filter_cons,<- hb] at fin
    exact fin
   | true=>
    dsimp only
    have hw:=(h1 rfl).run
    cases ee:fE te ρ2 with
    | ok y ρ3=>
     rw [ee] at hw
     obtain ⟨rfl,hu⟩:=hw
     dsimp only
     rw [if_pos (by omega),hu]
     refine (xOu m q h (fun d hd=>step d (yC8 _ hd)) (by rw [yDl,List.length_singleton];omega) ?_:Wp (lcL vs g tt te (l.map m) (acc++[h d])) ρ pl E).run
     rw [List.filter_cons,<- hb] at fin
     rw [List.append_assoc]
     exact fin
    | ex x ρ3=>
     rw [ee] at hw
     exact hw.elim
    | no=>
     rw [ee] at hw
     exact hw.elim
  | ex x ρ2=>
   rw [et] at hw
   exact hw.elim
  | no=>
   rw [et] at hw
   exact hw.elim
theorem xMu: ∀ s:Vec,nbL (s.map D.int)=true
 | []=>rfl
 | a::s=>by
  show (D.nb (.int a)&&nbL (s.map D.int))=true
  rw [xMu s]
  rfl
theorem nb_T (t:Tie):(dT t).nb=true:=by
 show (true&&(true&&(nbL (t.2.2.map D.int)&&true)))=true
 rw [xMu]
 rfl
theorem nb_P (t:Stp):(dP t).nb=true:=by
 show (true&&(nbL (t.2.map D.int)&&true))=true
 rw [xMu]
 rfl
theorem xSz: ∀ {l:List D},(∀ d∈l,d.nb=true)->nbL l=true
 | [],_=>rfl
 | d::l,h=>by
  show (D.nb d&&nbL l)=true
  rw [h d (yC2 ..),xSz fun e he=>h e (yC8 _ he)]
  rfl
theorem xCj {γ:Type}{f:γ->D}(hf: ∀ c,(f c).nb=true)(l:List γ):nbL (l.map f)=true:=xSz fun d hd=>by
 obtain ⟨c,_,rfl⟩:=yDi.mp hd
 exact hf c
theorem xLo: ∀ {l:List (Key×D)},(∀ p∈l,p.2.nb=true)->nbK l=true
 | [],_=>rfl
 | (k,d)::l,h=>by
  show (D.nb d&&nbK l)=true
  rw [h (k,d) (yC2 ..),xLo fun e he=>h e (yC8 _ he)]
  rfl
theorem KOk.nb {N:List Str}{m:List (Key×D)}(h:KOk N m):nbK m=true:=xLo fun p hp=>by
 obtain ⟨s,y,rfl,_⟩:=h.mem p hp
 rfl
section
variable {b b1 b2:Bool}{l:List (Str×D)}{m:List (Key×D)}{w:Nat}{N:List Str}{bs:List Tie}
theorem xX4 {n:Str}(hb:l.lookup ("bonds":Str)=some (.lst b2 (bs.map dT)))(hN:NmL N)(hbs: ∀ t∈bs,TOk w N t)(hn:n∈N)(h3:w<=3)(hl:bs.length<=1000):Fw (xDf [.va (.ins b "Pattern" l),.va (.str n)]) (fun r o=>r= .ow (.lst false ((xVy bs n).map dP))) NoX:=by
 have on:=(hN _ hn).ok
 refine xA6 rfl ?_
 refine xAf ?_
 refine xAs (q:=fun f ρ=>f= .nx/\ρ=[.va (.ins b "Pattern" l),.va (.str n),.ow (.lst false (((bs.filter fun t=>decide (t.1=n)).map fun t=>(t.2.1,t.2.2)).map dP)),.un,.un,.un]) ?_ ?_
 ·walk_at "own6"
  refine ⟨_,_,_,rfl,hb,?_⟩
  walk_at "own6"
  refine xOu dT (fun t=>decide (t.1=n)) (fun t=>dP (t.2.1,t.2.2)) (fun t ht=> ?_) (by simpa using (show bs.length<=1000000 by omega)) ?_
  ·refine ⟨_,rfl,?_⟩
   walk_at "own6"
   ·refine ⟨rfl,fun _=> ?_,fun _=>rfl⟩
    walk_at "own6"
    exact ⟨rfl,rfl⟩
   ·exact (hN _ (hbs t ht).u).ok
   ·exact on
  ·walk_at "own6"
   refine ⟨rfl,?_⟩
   rw [List.nil_append,List.map_map]
   rfl
 rintro _ _ ⟨rfl,rfl⟩
 walk_at "own6"
 refine ⟨_,_,_,rfl,hb,?_⟩
 walk_at "own6"
 refine xOu dT (fun t=>decide (t.2.1=n)) (fun t=>dP (t.1,neg t.2.2)) (fun t ht=> ?_) (by simpa using (show bs.length<=1000000 by omega)) ?_
 ·have hk:=hbs t ht
  refine ⟨_,rfl,?_⟩
  walk_at "own6"
  ·refine ⟨rfl,fun _=> ?_,fun _=>rfl⟩
   walk_at "own6"
   refine xAo (xK0 (by rw [hk.len];omega)) ?_
   rintro r o ⟨rfl,rfl⟩
   walk_at "own6"
   exact ⟨rfl,rfl⟩
  ·exact (hN _ hk.v).ok
  ·exact on
 ·walk_at "own6"
  ·rw [List.nil_append]
   show SD.ow _=SD.ow _
   congr 2
   unfold xVy
   rw [yDw,List.map_map,List.map_map]
   rfl
  ·rw [List.nil_append,yC0,yC0,yC0]
   have a:=List.length_filter_le (fun t:Tie=>decide (t.1=n)) bs
   have c:=List.length_filter_le (fun t:Tie=>decide (t.2.1=n)) bs
   omega
theorem xS9 {ks:List Str}(hd:l.lookup ("dyes":Str)=some (.dk b1 m))(e:xEa m=some ks)(hk:ks.length<64):Fw (xC2 [.va (.ins b "Pattern" l)]) (fun r o=>r= .ow (.lst false ((ssort ks).map D.str))) NoX:=by
 refine xA6 rfl ?_
 walk_at "own1"
 refine ⟨_,_,_,rfl,hd,?_⟩
 walk_at "own1"
 refine xEh e hk ?_
 walk_at "own1"
 rfl
end
end Lw
open L2 PySem PySem.Spec PyProof.Rows Fm
namespace Lw
open L2 PySem PySem.Spec PyProof.Rows Fm
def dPat (w:Nat)(dy:List (Key×D))(ts:List Tie)(at_:List (Key×D)):D:= .ins false "Pattern" [("ways",.int w),("dyes",.dk false dy),("bonds",.lst false (ts.map dT)),("at",.dk false at_)]
abbrev Ob (l:List (Str×D)):SD:= .ow (.ins false "Pattern" l)
abbrev F1 (w:Nat):List (Str×D):=[("ways",.int w)]
abbrev F2 (w:Nat)(dy:List (Key×D)):List (Str×D):=[("ways",.int w),("dyes",.dk true dy)]
abbrev F3 (w:Nat)(dy:List (Key×D))(bs:List Tie):List (Str×D):=[("ways",.int w),("dyes",.dk true dy),("bonds",.lst true (bs.map dT))]
abbrev F4 (w:Nat)(dy:List (Key×D))(bs:List Tie)(at_:List (Key×D)):List (Str×D):=[("ways",.int w),("dyes",.dk true dy),("bonds",.lst true (bs.map dT)),("at",.dk true at_)]
structure DyOk (N:List Str)(m0 dy:List (Key×D)):Prop where
 knots:KOk N dy
 len:dy.length<=12
 val: ∀ s,getK dy (.inr s)=getK m0 (.inr s)
structure KIn (w:Nat)(N:List Str)(m0:List (Key×D)):Prop where
 wl:w<=3
 nm:NmL N
 knots:KOk N m0
 klen:m0.length<=12
 has: ∀ s∈N,(getK m0 (.inr s)).isSome=true
theorem xUb {dy:List (Key×D)}{s t:Str}{y:D}:getK (xB3 dy (.inr s) y) (.inr t)=if t=s then some y else getK dy (.inr t):=by
 rw [xN7]
 by_cases h:t=s
 ·rw [if_pos h,if_pos (by rw [h])]
 ·rw [if_neg h,if_neg fun z=>h (Sum.inr.inj z)]
structure MOk0 (w:Nat)(N:List Str)(m:List (Key×D))(ts:List Tie):Prop where
 wl:w<=3
 nm:NmL N
 few:N.length<=12
 knots:KOk N m
 klen:m.length<=12
 has: ∀ s∈N,(getK m (.inr s)).isSome=true
 ties:TsOk w N ts
 tlen:ts.length<=24
end Lw
open L2 PySem PySem.Spec PyProof.Rows Fm
namespace Lw
open L2 PySem PySem.Spec PyProof.Rows Fm
abbrev exNK (s:Str):Exn:=⟨"NoKnot",[("name",.str s),("called",.str "noknot")]⟩
abbrev exBS:Exn:=⟨"BadShift",[("called",.str "badshift")]⟩
abbrev exBT:Exn:=⟨"BadTie",[("called",.str "badtie")]⟩
abbrev exTw:Exn:=⟨"Twice",[("called",.str "twice")]⟩
abbrev exFar:Exn:=⟨"Far",[("called",.str "far")]⟩
theorem xSp (s:Vec):((s.map fun a=> !decide (a.natAbs<=1000000)).any id=true) ↔ ¬ Bd 1000000 s:=by
 rw [List.any_map,List.any_eq_true]
 constructor
 ·rintro ⟨a,ha,h⟩ hb
  have h:(!decide (a.natAbs<=1000000))=true:=h
  rw [decide_eq_true (hb a ha)] at h
  cases h
 ·intro h
  refine yC3 fun z=>h fun a ha=>yC3 fun y=>z ⟨a,ha,?_⟩
  show (!decide (a.natAbs<=1000000))=true
  rw [decide_eq_false y]
  rfl
structure TG (w:Nat)(g:Str->Bool)(bs:List Tie)(t:Tie):Prop where
 u:g t.1=true
 v:g t.2.1=true
 len:t.2.2.length=w
 bd:Bd 1000000 t.2.2
 ne: ¬ (t.1=t.2.1/\ ∀ a∈t.2.2,a=0)
 new:les t∉bs
inductive TX (w:Nat)(g:Str->Bool)(bs:List Tie)(t:Tie):Exn->Prop
 | nk1:g t.1=false->TX w g bs t (exNK t.1)
 | nk2:g t.1=true->g t.2.1=false->TX w g bs t (exNK t.2.1)
 | bs:g t.1=true->g t.2.1=true->t.2.2.length≠w->TX w g bs t exBS
 | far:g t.1=true->g t.2.1=true->t.2.2.length=w-> ¬ Bd 1000000 t.2.2->TX w g bs t exFar
 | bt:g t.1=true->g t.2.1=true->t.2.2.length=w->Bd 1000000 t.2.2->(t.1=t.2.1/\ ∀ a∈t.2.2,a=0)->TX w g bs t exBT
 | tw:g t.1=true->g t.2.1=true->t.2.2.length=w->Bd 1000000 t.2.2-> ¬ (t.1=t.2.1/\ ∀ a∈t.2.2,a=0)->les t∈bs->TX w g bs t exTw
theorem TG.no {w:Nat}{g:Str->Bool}{bs:List Tie}{t:Tie}{x:Exn}(h:TG w g bs t)(z:TX w g bs t x):False:=by
 cases z with
 | nk1 a=>
  rw [h.u] at a
  cases a
 | nk2 _ a=>
  rw [h.v] at a
  cases a
 | bs _ _ a=>exact a h.len
 | far _ _ _ a=>exact a h.bd
 | bt _ _ _ _ a=>exact h.ne a
 | tw _ _ _ _ _ a=>exact h.new a
theorem TX.nb {w:Nat}{g:Str->Bool}{bs:List Tie}{t:Tie}{x:Exn}(z:TX w g bs t x):nbF x.fs=true:=by
 cases z <;> rfl
def GTo (w:Nat)(m:List (Key×D))(ts:List Tie)(i:Nat):Prop:= ∀ j t,j<i->ts[j]? =some t->TG w (fun s=>(getK m (.inr s)).isSome) ((ts.map les).take j) t
theorem GTo.ok {w:Nat}{m:List (Key×D)}{N:List Str}{ts:List Tie}(M:KIn w N m)(h:GTo w m ts ts.length): ∀ t∈ts,TOk w N t:=fun t ht=>by
 obtain ⟨j,hj,e⟩:=List.mem_iff_getElem.mp ht
 have k:=h j t hj (by rw [yC6 hj,e])
 obtain ⟨_,_,a,_⟩:=M.knots.get k.u
 obtain ⟨_,_,c,_⟩:=M.knots.get k.v
 exact ⟨a,c,k.len,k.bd,k.ne⟩
section
variable {b b1 b2:Bool}{l:List (Str×D)}{m:List (Key×D)}{w:Nat}{N:List Str}{bs:List Tie}
theorem xOk {s:Str}(hd:l.lookup ("dyes":Str)=some (.dk b1 m)):Fw (xCc [.va (.ins b "Pattern" l),.va (.str s)]) (fun r o=>(getK m (.inr s)).isSome=true/\r= .va .non) (fun x o=>(getK m (.inr s)).isSome=false/\x=exNK s):=by
 refine xA6 rfl ?_
 walk_at "own2"
 refine ⟨_,_,_,rfl,hd,?_⟩
 walk_at "own2"
 refine xHn rfl ?_
 cases hs:(getK m (.inr s)).isSome with
 | true=>
  walk_at "own2"
  exact ⟨rfl,rfl⟩
 | false=>
  walk_at "own2"
  exact ⟨rfl,rfl⟩
theorem xIa {s:Vec}(hw:l.lookup ("ways":Str)=some (.int w)):Fw (xBt [.va (.ins b "Pattern" l),.va (dV s)]) (fun r o=>s.length=w/\r= .va .non) (fun x o=>s.length≠w/\x=exBS):=by
 refine xA6 rfl ?_
 walk_at "own2"
 refine ⟨_,_,_,rfl,hw,?_⟩
 walk_at "own2"
 rw [yC0]
 refine ⟨fun y=> ?_,fun y=> ?_⟩
 ·walk_at "own2"
  refine ⟨fun e=> ?_,rfl⟩
  rw [e,decide_eq_true rfl] at y
  cases y
 ·walk_at "own2"
  refine ⟨?_,rfl⟩
  by_cases e:(s.length:Int)=(w:Int)
  ·omega
  ·rw [decide_eq_false e] at y
   cases y
theorem xKv {t:Tie}(hw:l.lookup ("ways":Str)=some (.int w))(hd:l.lookup ("dyes":Str)=some (.dk b1 m))(hb:l.lookup ("bonds":Str)=some (.lst b2 (bs.map dT)))(n1:l.lookup ("need":Str)=none)(n2:l.lookup ("need_shift":Str)=none)(ou:PyData.strOk t.1=true)(ov:PyData.strOk t.2.1=true)(hl':t.2.2.length<=1000)
  (hbs: ∀ t∈bs,PyData.strOk t.1=true/\PyData.strOk t.2.1=true):Fw (xB7 [.va (.ins b "Pattern" l),.va (dT t)]) (fun r o=>TG w (fun s=>(getK m (.inr s)).isSome) bs t/\r= .va (dT (les t))) (fun x o=>TX w (fun s=>(getK m (.inr s)).isSome) bs t x):=by
 obtain ⟨u,v,s⟩:=t
 have hl':s.length<=1000:=hl'
 refine xA6 rfl ?_
 refine xAf ?_
 refine xAs (q:=fun f ρ=>f= .nx/\((getK m (.inr u)).isSome=true)/\ρ=[.va (.ins b "Pattern" l),.va (dT (u,v,s)),.un]) ?_ ?_
 ·walk_at "own3"
  refine ⟨n1,?_⟩
  walk_at "own3"
  refine xCb (xOk (s:=u) hd) ?_ ?_
  ·rintro r o ⟨z,rfl⟩
   exact ⟨rfl,z,rfl⟩
  ·rintro x o ⟨z,rfl⟩
   exact .nk1 z
 rintro _ _ ⟨rfl,g1,rfl⟩
 refine xAf ?_
 refine xAs (q:=fun f ρ=>f= .nx/\((getK m (.inr v)).isSome=true)/\ρ=[.va (.ins b "Pattern" l),.va (dT (u,v,s)),.un]) ?_ ?_
 ·walk_at "own3"
  refine ⟨n1,?_⟩
  walk_at "own3"
  refine xCb (xOk (s:=v) hd) ?_ ?_
  ·rintro r o ⟨z,rfl⟩
   exact ⟨rfl,z,rfl⟩
  ·rintro x o ⟨z,rfl⟩
   exact .nk2 g1 z
 rintro _ _ ⟨rfl,g2,rfl⟩
 refine xAf ?_
 refine xAs (q:=fun f ρ=>f= .nx/\(s.length=w)/\ρ=[.va (.ins b "Pattern" l),.va (dT (u,v,s)),.un]) ?_ ?_
 ·walk_at "own3"
  refine ⟨n2,?_⟩
  walk_at "own3"
  refine xCb (xIa (s:=s) hw) ?_ ?_
  ·rintro r o ⟨z,rfl⟩
   exact ⟨rfl,z,rfl⟩
  ·rintro x o ⟨z,rfl⟩
   exact .bs g1 g2 z
 rintro _ _ ⟨rfl,hl,rfl⟩
 refine xAf ?_
 refine xAs (q:=fun f ρ=>f= .nx/\Bd 1000000 s/\ρ=[.va (.ins b "Pattern" l),.va (dT (u,v,s)),.un]) ?_ ?_
 ·walk_at "own3"
  refine xJ2 (L:=s.map fun a=> !decide (a.natAbs<=1000000)) (m:=D.bl) (by rw [yC0,yC0]) (fun i d c hd hc=> ?_) (by rw [yC0];exact (show s.length<=1000000 by omega)) ?_
  ·obtain ⟨a,rfl,rfl⟩:=xDl hd hc
   refine ⟨_,rfl,?_⟩
   walk_at "own3"
   refine (⟨fun z=> ?_,fun z=> ?_⟩)
   ·have z:=of_decide_eq_true z
    walk_at "own3"
    rw [show decide (a<=1000000)=decide (a.natAbs<=1000000) from decide_eq_decide.mpr (by omega)]
    exact ⟨rfl,rfl⟩
   ·have z:=of_decide_eq_false z
    walk_at "own3"
    rw [decide_eq_false (show ¬ a.natAbs<=1000000 by omega)]
    exact ⟨rfl,rfl⟩
  ·walk_at "own3"
   refine (⟨fun z=> ?_,fun z=> ?_⟩)
   ·walk_at "own3"
    exact .far g1 g2 hl ((xSp s).mp z)
   ·walk_at "own3"
    refine ⟨rfl,yC3 fun y=> ?_,rfl⟩
    rw [(xSp s).mpr y] at z
    cases z
 rintro _ _ ⟨rfl,hbd,rfl⟩
 refine xAf ?_
 refine xAs (q:=fun f ρ=>f= .nx/\(¬ (u=v/\ ∀ a∈s,a=0))/\ρ=[.va (.ins b "Pattern" l),.va (dT (u,v,s)),.un]) ?_ ?_
 ·walk_at "own3"
  ·refine ⟨fun z=> ?_,fun z=> ?_⟩
   ·walk_at "own3"
    refine xJ2 (L:=s.map fun a=>decide (a=0)) (m:=D.bl) (by rw [yC0,yC0]) (fun i d c hd hc=> ?_) (by rw [yC0];exact (show s.length<=1000000 by omega)) ?_
    ·obtain ⟨a,rfl,rfl⟩:=xDl hd hc
     refine ⟨_,rfl,?_⟩
     walk_at "own3"
     exact ⟨rfl,rfl⟩
    ·walk_at "own3"
     refine ⟨fun y=> ?_,fun y=> ?_⟩
     ·walk_at "own3"
      exact .bt g1 g2 hl hbd ⟨of_decide_eq_true z,(xGx s).mp y⟩
     ·walk_at "own3"
      refine ⟨rfl,fun q=> ?_,rfl⟩
      rw [(xGx s).mpr q.2] at y
      cases y
   ·walk_at "own3"
    exact ⟨rfl,(fun q=>of_decide_eq_false z q.1),rfl⟩
  ·exact ou
  ·exact ov
 rintro _ _ ⟨rfl,hne,rfl⟩
 walk_at "own3"
 refine xAo (xL5 (t:=(u,v,s)) ou ov hl') ?_
 rintro r o ⟨rfl,rfl⟩
 walk_at "own3"
 refine ⟨_,_,_,rfl,hb,?_⟩
 walk_at "own3"
 refine xQr ?_ ?_
 ·obtain ⟨bb,eb,hbb⟩:=any_map dT xQm (les (u,v,s)) bs
  rw [eb]
  walk_at "own3"
  refine (⟨fun z=> ?_,fun z=> ?_⟩)
  ·walk_at "own3"
   exact .tw g1 g2 hl hbd hne (hbb.mp z)
  ·walk_at "own3"
   refine xAo (xL5 (t:=(u,v,s)) ou ov hl') ?_
   rintro r o ⟨rfl,rfl⟩
   walk_at "own3"
   refine ⟨⟨g1,g2,hl,hbd,hne,fun y=> ?_⟩,rfl⟩
   rw [hbb.mpr y] at z
   cases z
 ·have pt:D.pl 60 (dT (les (u,v,s)))=true:=by
   rcases xI0 (u,v,s) with e|e
   ·rw [e]
    exact pl_T ou ov
   ·rw [e]
    exact pl_T (t:=about (u,v,s)) ov ou
  have pb: ∀ c,D.pl 60 (.lst c (bs.map dT))=true:=fun c=>xPa fun d hd=>by
   obtain ⟨t,ht,rfl⟩:=yDi.mp hd
   exact pl_T (hbs t ht).1 (hbs t ht).2
  rw [pt,pb]
  rfl
end
theorem xVm {w:Nat}{m0:List (Key×D)}{N:List Str}{ts':List Tie}(M:KIn w N m0)(ht: ∀ t∈ts',PyData.strOk t.1=true/\PyData.strOk t.2.1=true/\t.2.2.length<=1000)(lt:ts'.length<=24):
  Fw (xA4 [.int w,.dk false m0,.lst false (ts'.map dT)]) (fun r _=>GTo w m0 ts' ts'.length/\ ∃ dy at_,r= .va (dPat w dy (srtF dT (ts'.map les)) at_)/\DyOk N m0 dy/\ ∀ s∈N,getK at_ (.inr s)=some (.lst false ((near (srtF dT (ts'.map les)) s).map dP)))
   (fun x _=> ∃ i t,ts'[i]? =some t/\GTo w m0 ts' i/\TX w (fun s=>(getK m0 (.inr s)).isSome) ((ts'.map les).take i) t x):=by
 obtain ⟨ks,e,hkl,hks,hks2⟩:=M.knots.keys
 have kl:=M.klen
 have w3:=M.wl
 have nbt:nbL (ts'.map dT)=true:=xCj nb_T _
 have nbm:nbK m0=true:=M.knots.nb
 have nbs: ∀ {s4 s5:SD},s4.nbS=true->s5.nbS=true->[SD.un,.va (.int w),.va (.dk false m0),.va (.lst false (ts'.map dT)),s4,s5].all SD.nbS=true:=fun {s4 s5} h4 h5=>by
  show (true&&(true&&((!false&&nbK m0)&&((!false&&nbL (ts'.map dT))&&(s4.nbS&&(s5.nbS&&true))))))=true
  rw [nbm,nbt,h4,h5]
  rfl
 refine xMw ?_
 show Wp _ [Ob [],.va (.int w),.va (.dk false m0),.va (.lst false (ts'.map dT)),.un,.un] _ _
 refine xAf ?_
 refine xAs (q:=fun f ρ=>f= .nx/\ρ=[Ob [],.va (.int w),.va (.dk false m0),.va (.lst false (ts'.map dT)),.un,.un]) ?_ ?_
 ·refine xA8 rfl ?_
  walk_at "own6"
  refine ⟨fun z=> ?_,fun _=> ?_⟩
  ·rw [decide_eq_true (show (w:Int)<=3 by omega)] at z
   cases z
  ·walk_at "own6"
   exact ⟨rfl,rfl⟩
 rintro _ _ ⟨rfl,rfl⟩
 refine xAf ?_
 refine xAs (q:=fun f ρ=>f= .nx/\ρ=[Ob (F1 w),.va (.int w),.va (.dk false m0),.va (.lst false (ts'.map dT)),.un,.un]) ?_ ?_
 ·refine xHf ?_
  refine xA8 rfl ?_
  walk_at "own6"
  exact ⟨_,_,_,rfl,by (show (0:Nat)<1000;decide),rfl,rfl,rfl⟩
 rintro _ _ ⟨rfl,rfl⟩
 refine xAf ?_
 refine xAs (q:=fun f ρ=>f= .nx/\ρ=[Ob (F2 w []),.va (.int w),.va (.dk false m0),.va (.lst false (ts'.map dT)),.un,.un]) ?_ ?_
 ·refine xHf ?_
  refine xA8 rfl ?_
  walk_at "own6"
  exact ⟨_,_,_,rfl,by (show (1:Nat)<1000;decide),rfl,rfl,rfl⟩
 rintro _ _ ⟨rfl,rfl⟩
 refine xAf ?_
 refine xAs (q:=fun f ρ=>f= .nx/\ ∃ dy s4,ρ=[Ob (F2 w dy),.va (.int w),.va (.dk false m0),.va (.lst false (ts'.map dT)),s4,.un]/\s4.nbS=true/\DyOk N m0 dy) ?_ ?_
 ·refine xHk ?_
  refine xA8 rfl ?_
  walk_at "own6"
  refine xEh e (by omega) ?_
  walk_at "own6"
  refine xDw (I:=fun i ρ=> ∃ dy s4,ρ=[Ob (F2 w dy),.va (.int w),.va (.dk false m0),.va (.lst false (ts'.map dT)),s4,.un]/\s4.nbS=true/\KOk N dy/\dy.length<=i/\ ∀ s,getK dy (.inr s)=if s∈(ssort ks).take i then getK m0 (.inr s) else none) ?_ ⟨[],_,rfl,rfl,KOk.nil,yDp _,fun s=>by rw [if_neg (by simp)];rfl⟩ ?_
  ·rintro i d ρ hi ⟨dy,s4,rfl,_,k1,k2,k3⟩
   obtain ⟨s,hs,rfl⟩:=xKo hi
   have hi3:i<ks.length:=by
    have:=(yC1.mp hs).1
    rw [xCv] at this
    exact this
   obtain ⟨sN,sm⟩:=hks s (xCg.mp (yDn hs))
   obtain ⟨y,ey,_,y0,y9⟩:=M.knots.get sm
   have ey':(xCy (.str s)).bind (getK m0)=some (.int y):=ey
   refine ⟨_,rfl,?_⟩
   refine xAf ?_
   refine xAs (q:=fun f ρ=>f= .nx/\ρ=[Ob (F2 w dy),.va (.int w),.va (.dk false m0),.va (.lst false (ts'.map dT)),.va (.str s),.un]) ?_ ?_
   ·refine xA8 rfl ?_
    walk_at "own6"
    refine xAo (xKy (M.nm s sN)) ?_
    rintro r o ⟨rfl,rfl⟩
    exact ⟨rfl,rfl⟩
   rintro _ _ ⟨rfl,rfl⟩
   refine xAf ?_
   refine xAs (q:=fun f ρ=>f= .nx/\ρ=[Ob (F2 w dy),.va (.int w),.va (.dk false m0),.va (.lst false (ts'.map dT)),.va (.str s),.un]) ?_ ?_
   ·refine xA8 rfl ?_
    walk_at "own6"
    refine xLp ey' ?_
    walk_at "own6"
    refine xAo (xMh y0 y9) ?_
    rintro r o ⟨rfl,rfl⟩
    exact ⟨rfl,rfl⟩
   rintro _ _ ⟨rfl,rfl⟩
   refine xSj ?_
   refine w_fz ?_
   refine xA8 rfl ?_
   walk_at "own6"
   refine xLp ey' ?_
   walk_at "own6"
   refine ⟨_,_,_,rfl,rfl,k1.nb,?_⟩
   refine xA8 rfl ?_
   walk_at "own6"
   have pl:=xDj dy (.inr s) (.int y)
   refine ⟨_,_,_,_,rfl,rfl,rfl,⟨by omega,k1.nb,rfl⟩,?_⟩
   refine ⟨xB3 dy (.inr s) (.int y),_,rfl,rfl,k1.put sN y0 y9,by omega,fun t=> ?_⟩
   rw [xUb]
   by_cases z:t=s
   ·rw [if_pos z,z,if_pos (by rw [yEk,hs];simp)]
    exact ey.symm
   ·rw [if_neg z,k3 t]
    by_cases g:t∈(ssort ks).take i
    ·rw [if_pos g,if_pos (by rw [yEk,yEa];exact .inl g)]
    ·rw [if_neg g,if_neg fun q=>(xDs hs q).elim g z]
  ·rintro ρ ⟨dy,s4,rfl,h4,k1,k2,k3⟩
   rw [yC0,xCv] at k2
   rw [yC0,yDk (yDp _)] at k3
   refine ⟨rfl,dy,s4,rfl,h4,k1,by omega,fun s=> ?_⟩
   rw [k3 s]
   by_cases g:s∈ssort ks
   ·rw [if_pos g]
   ·rw [if_neg g]
    cases eg:getK m0 (.inr s) with
    | none=>rfl
    | some z=>exact absurd (xCg.mpr (hks2 s (by rw [eg];rfl))) g
 rintro _ _ ⟨rfl,dy,s4,rfl,h4,dyk⟩
 have k1:=dyk.knots
 have k2:=dyk.len
 have k3: ∀ s∈N,(getK dy (.inr s)).isSome=true:=fun s hs=>by rw [dyk.val];exact M.has s hs
 have nbd:nbK dy=true:=k1.nb
 have ehas:(fun s=>(getK dy (.inr s)).isSome)=fun s=>(getK m0 (.inr s)).isSome:=funext fun s=>by rw [dyk.val]
 refine xAf ?_
 refine xAs (q:=fun f ρ=>f= .nx/\ρ=[Ob (F2 w dy),.va (.int w),.va (.dk false m0),.va (.lst false (ts'.map dT)),s4,.un]) ?_ ?_
 ·refine xA8 rfl ?_
  walk_at "own6"
  refine ⟨fun z=> ?_,fun _=> ?_⟩
  ·have z:=of_decide_eq_true z
   omega
  ·walk_at "own6"
   exact ⟨rfl,rfl⟩
 rintro _ _ ⟨rfl,rfl⟩
 refine xAf ?_
 refine xAs (q:=fun f ρ=>f= .nx/\ρ=[Ob (F3 w dy []),.va (.int w),.va (.dk false m0),.va (.lst false (ts'.map dT)),s4,.un]) ?_ ?_
 ·refine xHf ?_
  refine xA8 rfl ?_
  walk_at "own6"
  exact ⟨_,_,_,rfl,by (show (2:Nat)<1000;decide),rfl,rfl,rfl⟩
 rintro _ _ ⟨rfl,rfl⟩
 refine xAf ?_
 refine xAs (q:=fun f ρ=>f= .nx/\GTo w m0 ts' ts'.length/\ ∃ s5,ρ=[Ob (F3 w dy (ts'.map les)),.va (.int w),.va (.dk false m0),.va (.lst false (ts'.map dT)),s4,s5]/\s5.nbS=true) ?_ ?_
 ·refine xHk ?_
  refine xA8 rfl ?_
  walk_at "own6"
  refine xDw (I:=fun i ρ=>GTo w m0 ts' i/\ ∃ s5,ρ=[Ob (F3 w dy ((ts'.map les).take i)),.va (.int w),.va (.dk false m0),.va (.lst false (ts'.map dT)),s4,s5]/\s5.nbS=true) ?_ ⟨(fun j t hj=>absurd hj (yEp j)),_,rfl,rfl⟩ ?_
  ·rintro i d ρ hi ⟨bdp,s5,rfl,_⟩
   rw [yDb] at hi
   obtain ⟨t,ht1,rfl⟩:=yC4.mp hi
   have tk:=ht t (yDn ht1)
   have nbb:nbL (((ts'.map les).take i).map dT)=true:=xCj nb_T _
   have hil:i<(ts'.map les).length:=by
    rw [yC0]
    exact (yC1.mp ht1).1
   have ei:(ts'.map les)[i]? =some (les t):=by
    rw [yDb,ht1]
    rfl
   refine ⟨_,rfl,?_⟩
   refine xQ1 ?_
   refine yCg rfl rfl nbb ?_
   refine xHx rfl ?_
   walk_at "own6"
   refine ⟨rfl,?_⟩
   walk_at "own6"
   have sb: ∀ t∈(ts'.map les).take i,PyData.strOk t.1=true/\PyData.strOk t.2.1=true:=fun t h=>by
    obtain ⟨t0,h0,rfl⟩:=yDi.mp (yD1 h)
    obtain ⟨s1,s2,_⟩:=ht t0 h0
    rcases xI0 t0 with e|e
    ·rw [e]
     exact ⟨s1,s2⟩
    ·rw [e]
     exact ⟨s2,s1⟩
   refine xCb (xKv (bs:=(ts'.map les).take i) (w:=w) rfl rfl rfl rfl rfl tk.1 tk.2.1 tk.2.2 sb) ?_ ?_
   rotate_left
   ·rintro x o hb
    rw [ehas] at hb
    refine ⟨?_,i,t,ht1,bdp,hb⟩
    rw [yC5]
    exact ⟨nbs h4 (nb_T t),hb.nb⟩
   rintro r o ⟨hbd,rfl⟩
   rw [ehas] at hbd
   walk_at "own6"
   refine ⟨?_,_,_,_,_,rfl,rfl,rfl,⟨?_,nbb,nb_T _⟩,?_⟩
   ·rw [yC5]
    exact ⟨nbs h4 (nb_T t),xSz fun d hd=>by rw [xCf hd];exact nb_T _⟩
   ·rw [yC0,yDq,yC0]
    omega
   ·refine ⟨fun j t2 hj h2=> ?_,.va (dT t),?_,nb_T t⟩
    ·by_cases z:j<i
     ·exact bdp j t2 z h2
     ·obtain rfl:j=i:=by omega
      rw [ht1] at h2
      cases h2
      exact hbd
    have e2:(ts'.map les).take (i+1)=(ts'.map les).take i++[les t]:=by
     rw [yEk,ei]
     rfl
    rw [e2]
    show _=[Ob (F3 w dy _),_,_,_,_,_]
    unfold F3
    rw [yDw]
    rfl
  ·rintro ρ ⟨bdp,s5,rfl,h5⟩
   rw [yC0] at bdp
   rw [yC0,yDk (by rw [yC0];exact yDp _)]
   exact ⟨rfl,bdp,s5,rfl,h5⟩
 rintro _ _ ⟨rfl,allb,s5,rfl,h5⟩
 have htk: ∀ t∈ts',TOk w N t:=GTo.ok M allb
 obtain ⟨ts,ets⟩: ∃ ts,ts=srtF dT (ts'.map les):=⟨_,rfl⟩
 have pm:ts.Perm (ts'.map les):=by
  rw [ets]
  exact xDk dT _
 have tk2: ∀ t∈ts,TOk w N t:=fun t h=>by
  obtain ⟨t0,h0,rfl⟩:=yDi.mp (pm.mem_iff.mp h)
  exact (htk t0 h0).les
 have tl2:ts.length<=24:=by
  rw [pm.length_eq,yC0]
  exact lt
 rw [<- ets]
 have lb:((ts'.map les).map dT).length<=24:=by
  rw [yC0,yC0]
  exact lt
 have nbb:nbL ((ts'.map les).map dT)=true:=xCj nb_T _
 refine xAf ?_
 refine xAs (q:=fun f ρ=>f= .nx/\ρ=[Ob (F3 w dy (ts'.map les)),.va (.int w),.va (.dk false m0),.va (.lst false (ts'.map dT)),s4,s5]) ?_ ?_
 ·refine w_if ?_
  refine xHx rfl ?_
  walk_at "own6"
  refine ⟨_,_,_,rfl,rfl,?_⟩
  walk_at "own6"
  refine ⟨?_,fun z=> ?_,fun _=> ?_⟩
  ·rw [yC5]
   exact ⟨nbs h4 h5,rfl⟩
  ·have z:=of_decide_eq_true z
   omega
  ·walk_at "own6"
   exact ⟨rfl,rfl⟩
 rintro _ _ ⟨rfl,rfl⟩
 have es:srtD ((ts'.map les).map dT)=ts.map dT:=by
  rw [xJ8,<- ets]
 have nbt2:nbL (ts.map dT)=true:=xCj nb_T _
 refine xAf ?_
 refine xAs (q:=fun f ρ=>f= .nx/\ρ=[Ob (F3 w dy ts),.va (.int w),.va (.dk false m0),.va (.lst false (ts'.map dT)),s4,s5]) ?_ ?_
 ·refine xHf ?_
  refine xHx rfl ?_
  walk_at "own6"
  refine ⟨_,_,_,rfl,rfl,?_⟩
  walk_at "own6"
  refine xJp ?_ ?_
  ·rw [es]
   refine ⟨?_,_,_,_,rfl,by (show (3:Nat)<1000;decide),if_pos nbt2,rfl,rfl⟩
   rw [yC5]
   exact ⟨nbs h4 h5,nbt2⟩
  ·refine xRs fun t h=> ?_
   obtain ⟨t0,h0,rfl⟩:=yDi.mp h
   have k:=(htk t0 h0).les
   exact ⟨(M.nm _ k.u).ok,(M.nm _ k.v).ok⟩
 rintro _ _ ⟨rfl,rfl⟩
 refine xAf ?_
 refine xAs (q:=fun f ρ=>f= .nx/\ρ=[Ob (F4 w dy ts []),.va (.int w),.va (.dk false m0),.va (.lst false (ts'.map dT)),s4,s5]) ?_ ?_
 ·refine xHf ?_
  refine xA8 rfl ?_
  walk_at "own6"
  exact ⟨_,_,_,rfl,by (show (3:Nat)<1000;decide),rfl,rfl,rfl⟩
 rintro _ _ ⟨rfl,rfl⟩
 obtain ⟨ks2,e2,hkl2,hka,hkb⟩:=k1.keys
 have nba: ∀ {m:List (Key×D)},(∀ p∈m,∃ s,p=((.inr s:Key),D.lst false ((near ts s).map dP)))->nbK m=true:=fun {m} h=>xLo fun p hp=>by
  obtain ⟨s,rfl⟩:=h p hp
  show (!false&&nbL ((near ts s).map dP))=true
  rw [xCj nb_P]
  rfl
 refine xHk ?_
 refine xXr ?_
 refine xHx rfl ?_
 refine w_fz ?_
 walk_at "own6"
 refine ⟨rfl,?_⟩
 walk_at "own6"
 refine xAo (xS9 rfl e2 (by omega)) ?_
 rintro r o rfl
 walk_at "own6"
 refine ⟨?_,_,_,rfl,?_⟩
 ·rw [yC5]
  refine ⟨nbs h4 h5,?_⟩
  show (!false&&nbL ((ssort ks2).map D.str))=true
  rw [xCj fun _=>rfl]
  rfl
 walk_at "own6"
 refine xDw (I:=fun i ρ=> ∃ at_ s4,ρ=[Ob (F4 w dy ts at_),.va (.int w),.va (.dk false m0),.va (.lst false (ts'.map dT)),s4,s5]/\s4.nbS=true/\at_.length<=i/\(∀ p∈at_,∃ s,p=((.inr s:Key),D.lst false ((near ts s).map dP)))/\ ∀ s∈(ssort ks2).take i,(getK at_ (.inr s)).isSome=true) ?_ ⟨[],_,rfl,h4,yDp _,(fun p hp=>by cases hp),fun s hs=>by cases hs⟩ ?_
 ·rintro i d ρ hi ⟨at_,s4,rfl,h4,a1,a2,a3⟩
  obtain ⟨s,hs,rfl⟩:=xKo hi
  have hi3:i<ks2.length:=by
   have:=(yC1.mp hs).1
   rw [xCv] at this
   exact this
  have sN:=(hka s (xCg.mp (yDn hs))).1
  have hk:=tk2
  refine ⟨_,rfl,?_⟩
  refine xSj ?_
  refine w_fz ?_
  refine xHx rfl ?_
  walk_at "own6"
  refine ⟨rfl,?_⟩
  walk_at "own6"
  refine xAo (xX4 (bs:=ts) (b2:=true) rfl M.nm hk sN w3 (by omega)) ?_
  rintro r o rfl
  walk_at "own6"
  refine xJp ?_ ?_
  ·rw [xJ8]
   have nbn:nbL ((near ts s).map dP)=true:=xCj nb_P _
   refine ⟨?_,?_⟩
   ·rw [yC5]
    exact ⟨nbs rfl h5,nbn⟩
   ·walk_at "own6"
    refine ⟨_,_,_,rfl,rfl,nba a2,?_⟩
    refine xA8 rfl ?_
    walk_at "own6"
    refine ⟨_,_,_,_,rfl,rfl,rfl,⟨by omega,nba a2,?_⟩,?_⟩
    ·show (!false&&nbL ((near ts s).map dP))=true
     rw [nbn]
     rfl
    ·have pl:=xDj at_ (.inr s) (D.lst false ((near ts s).map dP))
     refine ⟨xB3 at_ (.inr s) (.lst false ((near ts s).map dP)),_,rfl,rfl,by omega,fun p hp=> ?_,fun t ht=> ?_⟩
     ·rcases xFk hp with z|z
      ·exact a2 p z
      ·exact ⟨s,z⟩
     ·refine xEt ?_
      rcases xDs hs ht with g|g
      ·exact .inl (a3 t g)
      ·exact .inr (by rw [g])
  ·refine xYe fun t h=> ?_
   unfold xVy at h
   rcases xC8 h with z|z
   ·obtain ⟨t0,h0,rfl⟩:=yDi.mp z
    exact (M.nm _ (hk t0 (List.mem_filter.mp h0).1).v).ok
   ·obtain ⟨t0,h0,rfl⟩:=yDi.mp z
    exact (M.nm _ (hk t0 (List.mem_filter.mp h0).1).u).ok
 ·rintro ρ ⟨at_,s4,rfl,h4,a1,a2,a3⟩
  rw [yC0,yDk (yDp _)] at a3
  refine ⟨.inl rfl,_,_,_,rfl,allb,dy,at_,rfl,dyk,fun s hs=> ?_⟩
  obtain ⟨d,ed⟩:=yD0.mp (a3 s (xCg.mpr (hkb s (k3 s hs))))
  obtain ⟨s',e'⟩:=a2 _ (xFi ed)
  cases e'
  exact ed
end Lw
open L2 PySem PySem.Spec PyProof.Rows Fm
namespace Lw
open L2 PySem PySem.Spec PyProof.Rows Fm
def noughts (w:Nat):Vec:=yDg w 0
theorem xNt {w:Nat}(w3:w<=3):Fw (xDg [.va (.int w)]) (fun r o=>r= .va (dV (noughts w))/\o=[.un]) NoX:=by
 refine xA6 rfl ?_
 walk_at "own1"
 refine o_rep ?_ ⟨by omega,by omega,by simp;omega⟩
 walk_at "own1"
 refine ⟨?_,rfl⟩
 rw [yD9]
 show SD.va (.tup _)=SD.va (.tup ((yDg w 0).map D.int))
 rw [List.map_replicate]
 congr 2
 induction w with
 | zero=>rfl
 | succ n ih=>
  rw [yEm,List.flatten_cons,ih (by omega)]
  rfl
def mx:List Int->Int
 | []=>0
 | x::l=>l.foldl max x
theorem xOw (c:Int): ∀ (l:List Int) (x:Int),c<l.foldl max x ↔ c<x\/ ∃ y∈l,c<y
 | [],x=>⟨.inl,fun h=>h.elim id fun ⟨_,h,_⟩=>by cases h⟩
 | y::l,x=>by
  show c<l.foldl max (max x y) ↔ _
  rw [xOw c l]
  constructor
  ·rintro (h|⟨z,h1,h2⟩)
   ·by_cases g:c<x
    ·exact .inl g
    ·exact .inr ⟨y,yC2 ..,by omega⟩
   ·exact .inr ⟨z,yC8 _ h1,h2⟩
  ·rintro (h|⟨z,h1,h2⟩)
   ·exact .inl (by omega)
   ·rcases xF3 h1 with rfl|h1
    ·exact .inl (by omega)
    ·exact .inr ⟨z,h1,h2⟩
theorem mx_lt {c:Int}(hc:0<=c)(ns:List Int):c<mx (ns++[0]) ↔ ∃ x∈ns,c<x:=by
 have e:c<mx (ns++[0]) ↔ ∃ x∈ns++[0],c<x:=by
  cases ns with
  | nil=>exact ⟨fun h=>⟨0,yC2 ..,h⟩,fun ⟨x,h1,h2⟩=>by rw [xCf h1] at h2;exact h2⟩
  | cons a l=>
   show c<(l++[0]).foldl max a ↔ _
   rw [xOw]
   constructor
   ·rintro (h|⟨x,h1,h2⟩)
    ·exact ⟨a,yC2 ..,h⟩
    ·exact ⟨x,yC8 _ h1,h2⟩
   ·rintro ⟨x,h1,h2⟩
    rcases xF3 h1 with rfl|h1
    ·exact .inl h2
    ·exact .inr ⟨x,h1,h2⟩
 rw [e]
 constructor
 ·rintro ⟨x,h1,h2⟩
  rcases xC8 h1 with z|z
  ·exact ⟨x,z,h2⟩
  ·rw [xCf z] at h2
   omega
 ·rintro ⟨x,h1,h2⟩
  exact ⟨x,yEa.mpr (.inl h1),h2⟩
theorem yB6 {b:Bool}{ns:List Int}{p:SD->Prop}(h:p (.va (.int (mx (ns++[0]))))):Ow (xPx [.lst b (ns.map D.int++[D.int 0])]) p:=by
 rw [show ns.map D.int++[D.int 0]=(ns++[0]).map D.int by rw [yDw];rfl]
 cases ns with
 | nil=>exact xWl h
 | cons a l=>exact xWl h
theorem xW6 (s:Vec):(1000000:Int)<mx ((s.map fun a=>(a.natAbs:Int))++[0]) ↔ ¬ Bd 1000000 s:=by
 rw [mx_lt (by decide)]
 constructor
 ·rintro ⟨x,h1,h2⟩ hb
  obtain ⟨a,ha,rfl⟩:=yDi.mp h1
  have:=hb a ha
  omega
 ·intro h
  refine yC3 fun z=>h fun a ha=>yC3 fun y=>z ⟨_,yDi.mpr ⟨a,ha,rfl⟩,by omega⟩
theorem xIv {w:Nat}{s:Vec}(h:s.length=w):s=noughts w ↔ ∀ a∈s,a=0:=by
 unfold noughts
 constructor
 ·intro e a ha
  rw [e] at ha
  exact List.eq_of_mem_replicate ha
 ·intro e
  exact List.eq_replicate_iff.mpr ⟨h,e⟩
theorem xSq {s:Str}(h: ∀ c∈sl s,c<128):(Txt.upper s).length=s.length:=by
 rw [PyProof.Rows.upper_ascii h]
 exact Array.size_map ..
structure Wd (n:Nat)(s:Str):Prop where
 len:s.length<=n
 low: ∀ c∈sl s,c<128
theorem Wd.ok {n:Nat}{s:Str}(h:Wd n s):PyData.strOk s=true:=by
 unfold PyData.strOk
 rw [Array.all_eq_true']
 intro c hc
 have:=h.low c (Array.mem_toList_iff.mpr hc)
 exact decide_eq_true (Nat.lt_trans this (by decide))
theorem Nm.wd {s:Str}(h:Nm s):Wd 8 s:=⟨h.nx.len,fun c hc=>xV1 c (h.nx.abc c hc)⟩
theorem xKj {n:Nat}{s:Str}(h:Wd n s)(k:Nat):Wd n (cutS s none (some (k:Int))):=by
 have hl:=h.len
 rw [xB4] at hl
 refine ⟨?_,fun c hc=>h.low c ?_⟩
 ·rw [xB4,xFv,yDq]
  omega
 ·rw [xFv] at hc
  exact yD1 hc
theorem xKi {n:Nat}{s:Str}(h:Wd n s)(k:Nat):Wd n (cutS s (some (k:Int)) none):=by
 have hl:=h.len
 rw [xB4] at hl
 refine ⟨?_,fun c hc=>h.low c ?_⟩
 ·rw [xB4,xFl,yDy]
  omega
 ·rw [xFl] at hc
  exact List.mem_of_mem_drop hc
theorem xI9 {k n:Nat}{a b:Str}(ha:Wd k a)(hb:Wd n b):Wd (k+n) (a++b):=by
 have h1:=ha.len
 have h2:=hb.len
 rw [xB4] at h1 h2
 refine ⟨?_,fun c hc=> ?_⟩
 ·rw [xB4,xQz,yDl]
  omega
 ·rw [xQz] at hc
  rcases xC8 hc with z|z
  ·exact ha.low c z
  ·exact hb.low c z
theorem Wd.mono {k n:Nat}{s:Str}(h:Wd k s)(l:k<=n):Wd n s:=⟨yEn h.len l,h.low⟩
theorem yBx {n:Nat}{s:Str}(h:Wd n s):Wd n (Txt.upper s):=by
 refine ⟨by rw [xSq h.low];exact h.len,fun c hc=> ?_⟩
 have lt: ∀ c∈s.cps.toList,c<128:=h.low
 rw [PyProof.Rows.upper_ascii lt] at hc
 obtain ⟨a,ha,rfl⟩:=Array.mem_map.mp (Array.mem_toList_iff.mp hc)
 have:=lt a (Array.mem_toList_iff.mpr ha)
 unfold PyProof.Rows.up1
 split <;> omega
abbrev oddS:Str:="AZ09 _-.a{"
theorem xF8:oddS.length=10:=by decide +kernel
theorem xXb: ∀ c∈sl oddS,c<128:=by decide +kernel
theorem xXa {n:Nat}{d:D}(h:Drw n d)(hn:n<=1000000):Fw (xBl [.ow d,.va (.str oddS)]) (fun r o=> ∃ w,r= .va (.str w)/\Wd 1 w/\ ∃ d',o=[.ow d',.un]/\Drw (n+1) d') NoX:=by
 refine xA6 rfl ?_
 walk_at "own2"
 ·refine xBn (xA5 h (by rw [xF8];decide) (szS (by rw [xF8];decide)) (by omega)) fun q d' hq hd=> ?_
  rw [xF8] at hq
  obtain ⟨k,rfl⟩: ∃ k:Nat,q=k:=⟨q.toNat,by omega⟩
  have hk:k<(sl oddS).length:=by
   rw [<- xB4,xF8]
   omega
  walk_at "own2"
  refine xQw ?_ (show atI (sl oddS) k=some (sl oddS)[k] by rw [Fm.atI_nat,yC6 hk]) (by rw [xF8];decide)
  walk_at "own2"
  exact ⟨⟨yDp 1,fun x hx=>by rw [xCf (show x∈[(sl oddS)[k]] from hx)];exact xXb _ (yEd hk)⟩,d',rfl,hd⟩
 ·rw [xF8]
  decide
theorem wd_0:Wd 0 "":=⟨by decide +kernel,by decide +kernel⟩
theorem wd_8:Wd 8 "abcdefgh":=⟨by decide +kernel,by decide +kernel⟩
theorem xKx:(Str.ofString "abcdefgh").length=8:=by decide +kernel
theorem xYt {n:Nat}{d:D}{s:Str}{k0:Nat}(ws:Wd k0 s)(hk:k0<=1000)(h:Drw n d)(hn:n<=100000):Fw (xCt [.ow d,.va (.str s)]) (fun r o=> ∃ w,r= .va (.str w)/\Wd (2*k0+8) w/\ ∃ d',o=[.ow d',.un]/\Drw (n+3) d') NoX:=by
 have hl:=ws.len
 have l8:=xKx
 refine xA6 rfl ?_
 refine xAf ?_
 refine xAs (q:=fun f ρ=>f= .nx/\ ∃ (d':D) (k:Nat),ρ=[.ow d',.va (.str s),.va (.int k),.un]/\Drw (n+1) d') ?_ ?_
 ·walk_at "own4"
  ·refine xBn (xA5 h (by omega) (szS (by omega)) (by omega)) fun q d1 hq k1=> ?_
   obtain ⟨k,rfl⟩: ∃ k:Nat,q=k:=⟨q.toNat,by omega⟩
   walk_at "own4"
   exact ⟨rfl,d1,k,rfl,k1⟩
  ·omega
 rintro _ _ ⟨rfl,d1,k,rfl,k1⟩
 refine xAf ?_
 refine xAs (q:=fun f ρ=>f= .nx/\ ∃ (d':D) (x:Str),ρ=[.ow d',.va (.str s),.va (.int k),.va (.str x)]/\Wd 1 x/\Drw (n+2) d') ?_ ?_
 ·walk_at "own4"
  refine xAo (xXa k1 (by omega)) ?_
  rintro r o ⟨x,rfl,hx,d2,rfl,k2⟩
  walk_at "own4"
  exact ⟨rfl,d2,x,rfl,hx,k2⟩
 rintro _ _ ⟨rfl,d2,x,rfl,hx,k2⟩
 have w1:Wd (2*k0+8) (cutS s none (some (k:Int))++x++cutS s (some (k:Int)) none):=(xI9 (xI9 (xKj ws k) hx) (xKi ws k)).mono (by omega)
 have w3:Wd (2*k0+8) (s++"abcdefgh"):=(xI9 ws wd_8).mono (by omega)
 have w4:Wd (2*k0+8) (cutS s none (some (k:Int))++Txt.upper (cutS s (some (k:Int)) none)):=(xI9 (xKj ws k) (yBx (xKi ws k))).mono (by omega)
 have l1:=(xKj ws k).len
 have l2:=(xKi ws k).len
 have l3:=(yBx (xKi ws k)).len
 have l4:=(xI9 (xKj ws k) hx).len
 have l5:=hx.len
 walk_at "own4"
 ·refine xBn (xA5 k2 (by decide) (szS (by decide)) (by omega)) fun q d3 hq k3=> ?_
  walk_at "own4"
  have hq4:q=0\/q=1\/q=2\/q=3:=by omega
  rcases hq4 with rfl|rfl|rfl|rfl
  ·refine xC7 rfl ?_
   walk_at "own4"
   exact ⟨w1,d3,rfl,k3⟩
  ·refine xC7 rfl ?_
   walk_at "own4"
   exact ⟨wd_0.mono (by omega),d3,rfl,k3⟩
  ·refine xC7 rfl ?_
   walk_at "own4"
   exact ⟨w3,d3,rfl,k3⟩
  ·refine xC7 rfl ?_
   walk_at "own4"
   exact ⟨w4,d3,rfl,k3⟩
 all_goals omega
def nmB (s:Str):Bool:=(decide (0<s.length)&&decide (s.length<=8))&&(sl s).all fun c=>decide (c∈sl abc)
theorem nm_of {s:Str}(h:nmB s=true):Nm s:=by
 unfold nmB at h
 obtain ⟨h1,h2⟩:=yD8.mp h
 obtain ⟨h3,h4⟩:=yD8.mp h1
 exact ⟨⟨of_decide_eq_true h4,fun c hc=>of_decide_eq_true (yDm.mp h2 c hc)⟩,of_decide_eq_true h3⟩
theorem xRg {s:Str}(h: ¬ 0<s.length):nmB s=false:=by
 unfold nmB
 rw [decide_eq_false h]
 rfl
theorem xR1 {s:Str}(h: ¬ s.length<=8):nmB s=false:=by
 unfold nmB
 rw [decide_eq_false h,Bool.and_false]
 rfl
theorem xV5 {s:Str}(h1:0<s.length)(h2:s.length<=8):nmB s=(sl s).all fun c=>decide (c∈sl abc):=by
 unfold nmB
 rw [decide_eq_true h1,decide_eq_true h2]
 rfl
theorem xMx {s:Str}(hl:s.length<=1000):Fw (xFt [.va (.str s)]) (fun r o=>r= .va (.bl (nmB s))/\o=[.un]) NoX:=by
 refine xA6 rfl ?_
 walk_at "own2"
 ·refine ⟨fun z1=> ?_,fun z1=> ?_⟩
  ·have z1:=of_decide_eq_true z1
   walk_at "own2"
   refine ⟨fun z2=> ?_,fun z2=> ?_⟩
   ·have z2:=of_decide_eq_true z2
    rw [xV5 (by omega) (by omega)]
    walk_at "own2"
    refine xJ2 (L:=(sl s).map fun c=>decide (c∈sl abc)) (m:=D.bl) (by rw [yC0,yC0]) (fun i d c hd hc=> ?_) (by rw [yC0,<- xB4];omega) ?_
    ·obtain ⟨x,hx,rfl⟩:=xY0 hd
     rw [yDb,hx] at hc
     cases hc
     refine ⟨_,rfl,?_⟩
     walk_at "own2"
     exact ⟨rfl,rfl⟩
    ·walk_at "own2"
     rw [List.all_map]
     exact ⟨rfl,rfl⟩
   ·have z2:=of_decide_eq_false z2
    rw [xR1 (by omega)]
    walk_at "own2"
    exact ⟨rfl,rfl⟩
  ·have z1:=of_decide_eq_false z1
   rw [xRg (by omega)]
   walk_at "own2"
   exact ⟨rfl,rfl⟩
 ·omega
abbrev exBN:Exn:=⟨"BadName",[("called",.str "badname")]⟩
abbrev exBD:Exn:=⟨"BadDye",[("called",.str "baddye")]⟩
theorem xJr {s:Str}(hl:s.length<=1000):Fw (xDo [.va (.str s)]) (fun r o=>nmB s=true/\r= .va .non) (fun x o=>nmB s=false/\x=exBN):=by
 refine xA6 rfl ?_
 walk_at "own1"
 refine xAo (xMx hl) ?_
 rintro r o ⟨rfl,rfl⟩
 cases hn:nmB s with
 | true=>
  walk_at "own1"
  exact ⟨rfl,rfl⟩
 | false=>
  walk_at "own1"
  exact ⟨rfl,rfl⟩
def dyB (y:Int):Bool:=decide (0<=y)&&decide (y<=9)
theorem xLi {y:Int}:Fw (xEk [.va (.int y)]) (fun r o=>dyB y=true/\r= .va .non) (fun x o=>dyB y=false/\x=exBD):=by
 unfold dyB
 refine xA6 rfl ?_
 walk_at "own1"
 refine (⟨fun z=> ?_,fun z=> ?_⟩)
 ·walk_at "own1"
  rw [z,Bool.true_and]
  cases h9:decide (y<=9) with
  | true=>
   walk_at "own1"
   exact ⟨rfl,rfl⟩
  | false=>
   walk_at "own1"
   exact ⟨rfl,rfl⟩
 ·walk_at "own1"
  rw [z,Bool.false_and]
  exact ⟨rfl,rfl⟩
theorem xM4 {s:Str}(hl:s.length<=1000):Fw (xDc [.va (.str s)]) (fun r o=>r= .va (.bl (nmB s))/\o=[.un]) NoX:=by
 refine xA6 rfl ?_
 walk_at "own3"
 ·refine ⟨fun z1=> ?_,fun z1=> ?_⟩
  ·have z1:=of_decide_eq_true z1
   walk_at "own3"
   refine ⟨fun z2=> ?_,fun z2=> ?_⟩
   ·have z2:=of_decide_eq_true z2
    rw [xV5 (by omega) (by omega)]
    walk_at "own3"
    refine xJ2 (L:=(sl s).map fun c=>decide (c∈sl abc)) (m:=D.bl) (by rw [yC0,yC0]) (fun i d c hd hc=> ?_) (by rw [yC0,<- xB4];omega) ?_
    ·obtain ⟨x,hx,rfl⟩:=xY0 hd
     rw [yDb,hx] at hc
     cases hc
     refine ⟨_,rfl,?_⟩
     walk_at "own3"
     exact ⟨rfl,rfl⟩
    ·walk_at "own3"
     rw [List.all_map]
     exact ⟨rfl,rfl⟩
   ·have z2:=of_decide_eq_false z2
    rw [xR1 (by omega)]
    walk_at "own3"
    exact ⟨rfl,rfl⟩
  ·have z1:=of_decide_eq_false z1
   rw [xRg (by omega)]
   walk_at "own3"
   exact ⟨rfl,rfl⟩
 ·omega
end Lw
open L2 PySem PySem.Spec PyProof.Rows Fm
namespace Lw
open L2 PySem PySem.Spec PyProof.Rows Fm
abbrev exBW:Exn:=⟨"BadWays",[("called",.str "badways")]⟩
abbrev hasK (m:List (Key×D)):Str->Bool:=fun s=>(getK m (.inr s)).isSome
structure KA (k:Nat)(m:List (Key×D)):Prop where
 mem: ∀ p∈m,∃ s y,p=((.inr s:Key),D.int y)/\Wd k s
 nd:(m.map Prod.fst).Nodup
section
variable {k n w:Nat}{m m0:List (Key×D)}{s:Str}{y:Int}{ks:List Str}{W:Int}{ts':List Tie}
theorem KA.mono (h:KA k m)(l:k<=n):KA n m:=⟨fun p hp=>by
 obtain ⟨s,y,e,z⟩:=h.mem p hp
 exact ⟨s,y,e,z.mono l⟩,h.nd⟩
theorem KA.put (h:KA k m)(hs:Wd k s):KA k (xB3 m (.inr s) (.int y)):=⟨fun p hp=>by
 rcases xFk hp with z|z
 ·exact h.mem p z
 ·exact ⟨s,y,z,hs⟩,xWg h.nd⟩
theorem KA.get (h:KA k m)(hs:hasK m s=true): ∃ y,getK m (.inr s)=some (.int y)/\Wd k s:=by
 obtain ⟨d,e⟩:=yD0.mp hs
 obtain ⟨s',y,h1,h2⟩:=h.mem _ (xFi e)
 cases h1
 exact ⟨y,e,h2⟩
theorem KA.keys (h:KA k m): ∃ ks,xEa m=some ks/\ks.length=m.length/\(∀ s∈ks,Wd k s/\hasK m s=true)/\ ∀ s,hasK m s=true->s∈ks:=by
 obtain ⟨ks,h1,h2,h3⟩:=xJt (l:=m) fun p hp=>by
  obtain ⟨s,y,e,_⟩:=h.mem p hp
  exact ⟨s,by rw [e]⟩
 refine ⟨ks,h1,h2,fun s hs=> ?_,fun s hs=> ?_⟩
 ·obtain ⟨d,hd⟩:=(h3 s).mp hs
  obtain ⟨s',y,e,h4⟩:=h.mem _ hd
  cases e
  exact ⟨h4,by
   show (getK m (.inr s)).isSome=true
   exact xKb hd⟩
 ·obtain ⟨d,e⟩:=yD0.mp hs
  exact (h3 s).mpr ⟨d,xFi e⟩
theorem KA.nb (h:KA k m):nbK m=true:=xLo fun p hp=>by
 obtain ⟨s,y,rfl,_⟩:=h.mem p hp
 rfl
def kw (m:List (Key×D))(s:Str):Str:=if nmB s=true then (match getK m (.inr s) with
 | some (.int y)=>if dyB y=true then "" else "baddye"
 | _=>"") else "badname"
theorem xNb (h:nmB s=false):kw m s="badname":=by
 unfold kw
 rw [if_neg (by rw [h];decide)]
theorem xV8 (h:nmB s=true)(e:getK m (.inr s)=some (.int y))(d:dyB y=true):kw m s="":=by
 unfold kw
 rw [if_pos h,e]
 exact if_pos d
theorem xO4 (h:nmB s=true)(e:getK m (.inr s)=some (.int y))(d:dyB y=false):kw m s="baddye":=by
 unfold kw
 rw [if_pos h,e]
 exact if_neg (by rw [d];decide)
theorem xS6: ∀ {m:List (Key×D)} {s:Key} {d:D},(m.map Prod.fst).Nodup->(s,d)∈m->getK m s=some d
 | [],_,_,_,h=>by cases h
 | p::l,s,d,nd,h=>by
  (rw [yD2,yDh] at nd)
  rw [xB2]
  rcases (yDo.mp h) with z|z
  ·rw [<- z,if_pos rfl]
  ·rw [if_neg fun q=>nd.1 (by rw [q];exact yDi.mpr ⟨_,z,rfl⟩)]
   exact xS6 nd.2 z
def KG (m:List (Key×D))(L:List Str)(i:Nat):Prop:= ∀ j s,j<i->L[j]? =some s->kw m s=""
theorem xNo (h:kw m s="")(e:getK m (.inr s)=some (.int y)):nmB s=true/\dyB y=true:=by
 cases hn:nmB s with
 | false=>
  rw [xNb hn] at h
  exact absurd h (by decide +kernel)
 | true=>
  refine ⟨rfl,?_⟩
  cases hd:dyB y with
  | true=>rfl
  | false=>
   rw [xO4 hn e hd] at h
   exact absurd h (by decide +kernel)
theorem yBp (h:dyB y=true):0<=y/\y<=9:=by
 unfold dyB at h
 obtain ⟨a,b⟩:=(yD8.mp h)
 exact ⟨of_decide_eq_true a,of_decide_eq_true b⟩
theorem KA.kin (h:KA k m)(e:xEa m=some ks)(kl:m.length<=12)(w3:w<=3)(g:KG m (ssort ks) (ssort ks).length):KIn w ks m:=by
 obtain ⟨ks1,e1,_,h1,h2⟩:=h.keys
 rw [e] at e1
 cases e1
 have all: ∀ s∈ks,kw m s="":=fun s hs=>by
  obtain ⟨j,hj,ej⟩:=List.mem_iff_getElem.mp (xCg.mpr hs)
  exact g j s hj (by rw [yC6 hj,ej])
 refine ⟨w3,fun s hs=> ?_,⟨fun p hp=> ?_,h.nd⟩,kl,fun s hs=>(h1 s hs).2⟩
 ·obtain ⟨y,ey,_⟩:=h.get (h1 s hs).2
  exact nm_of (xNo (all s hs) ey).1
 ·obtain ⟨s,y,rfl,_⟩:=h.mem p hp
  have hk:hasK m s=true:=by
   show (getK m (.inr s)).isSome=true
   exact xKb hp
  obtain ⟨y2,ey,_⟩:=h.get hk
  have e3:y2=y:=by
   have z:=xS6 h.nd hp
   rw [ey] at z
   cases z
   rfl
  subst e3
  have d:=yBp (xNo (all s (h2 s hk)) ey).2
  exact ⟨s,y2,rfl,h2 s hk,d.1,d.2⟩
theorem xTf {L:List Str}(h: ¬ KG m L L.length): ∃ i s,L[i]? =some s/\KG m L i/\kw m s≠"":=by
 have step: ∀ n,n<=L.length-> ¬ KG m L n-> ∃ i s,L[i]? =some s/\KG m L i/\kw m s≠"":=by
  intro n
  induction n with
  | zero=>exact fun _ z=>absurd (fun j s hj=>absurd hj (yEp j)) z
  | succ n ih=>
   intro hn z
   by_cases g:KG m L n
   ·have hs:L[n]? =some L[n]:=yC6 (by omega)
    refine ⟨n,L[n],hs,g,fun e=>z fun j s hj hs2=> ?_⟩
    by_cases q:j<n
    ·exact g j s q hs2
    ·obtain rfl:j=n:=by omega
     rw [hs] at hs2
     cases hs2
     exact e
   ·exact ih (by omega) g
 exact step _ (yDp _) h
theorem xQi: ∀ {l:List (Key×D)},nbK l=true-> ∀ p∈l,p.2.nb=true
 | [],_,p,h=>by cases h
 | q::l,e,p,h=>by
  obtain ⟨e1,e2⟩:=and2 (show (q.2.nb&&nbK l)=true from e)
  rcases (yDo.mp h) with z|z
  ·rw [z]
   exact e1
  ·exact xQi e2 p z
theorem xSo {x y:D}(h: ¬ (0<=W/\W<=3)):Fw (xA4 [.int W,x,y]) (fun _ _=>False) (fun e _=>e=exBW):=by
 refine xMw ?_
 show Wp _ [Ob [],.va (.int W),.va x,.va y,.un,.un] _ _
 refine xAf ?_
 refine xAs (q:=fun _ _=>False) ?_ (fun _ _ z=>z.elim)
 refine xA8 rfl ?_
 walk_at "own6"
 refine ⟨fun z0=> ?_,fun z0=> ?_⟩
 ·have z0:=of_decide_eq_true z0
  walk_at "own6"
  refine (⟨fun z=> ?_,fun z=> ?_⟩)
  ·walk_at "own6"
   rfl
  ·have z:W<=3:=by simpa using z
   omega
 ·walk_at "own6"
  rfl
theorem xUt {nt:Nat}(w3:w<=3)(K:KA k m0)(hk:k<=1000)(e:xEa m0=some ks)(kl:m0.length<=12){i0:Nat}{s0:Str}(h0:(ssort ks)[i0]? =some s0)(g0:KG m0 (ssort ks) i0)(b0:kw m0 s0≠""):
  Fw (xA4 [.int w,.dk false m0,.lst false (ts'.map dT)]) (fun _ _=>False) (fun x _=>(nmB s0=false/\x=exBN)\/(nmB s0=true/\kw m0 s0="baddye"/\x=exBD)):=by
 obtain ⟨ks1,e1,hkl,hks,hks2⟩:=K.keys
 rw [e] at e1
 cases e1
 have nbt:nbL (ts'.map dT)=true:=xCj nb_T _
 have nbm:nbK m0=true:=K.nb
 refine xMw ?_
 show Wp _ [Ob [],.va (.int w),.va (.dk false m0),.va (.lst false (ts'.map dT)),.un,.un] _ _
 refine xAf ?_
 refine xAs (q:=fun f ρ=>f= .nx/\ρ=[Ob [],.va (.int w),.va (.dk false m0),.va (.lst false (ts'.map dT)),.un,.un]) ?_ ?_
 ·refine xA8 rfl ?_
  walk_at "own6"
  refine ⟨fun z=> ?_,fun _=> ?_⟩
  ·rw [decide_eq_true (show (w:Int)<=3 by omega)] at z
   cases z
  ·walk_at "own6"
   exact ⟨rfl,rfl⟩
 rintro _ _ ⟨rfl,rfl⟩
 refine xAf ?_
 refine xAs (q:=fun f ρ=>f= .nx/\ρ=[Ob (F1 w),.va (.int w),.va (.dk false m0),.va (.lst false (ts'.map dT)),.un,.un]) ?_ ?_
 ·refine xHf ?_
  refine xA8 rfl ?_
  walk_at "own6"
  exact ⟨_,_,_,rfl,by (show (0:Nat)<1000;decide),rfl,rfl,rfl⟩
 rintro _ _ ⟨rfl,rfl⟩
 refine xAf ?_
 refine xAs (q:=fun f ρ=>f= .nx/\ρ=[Ob (F2 w []),.va (.int w),.va (.dk false m0),.va (.lst false (ts'.map dT)),.un,.un]) ?_ ?_
 ·refine xHf ?_
  refine xA8 rfl ?_
  walk_at "own6"
  exact ⟨_,_,_,rfl,by (show (1:Nat)<1000;decide),rfl,rfl,rfl⟩
 rintro _ _ ⟨rfl,rfl⟩
 refine xAf ?_
 refine xAs (q:=fun _ _=>False) ?_ (fun _ _ z=>z.elim)
 refine xHk ?_
 refine xA8 rfl ?_
 walk_at "own6"
 refine xEh e (by omega) ?_
 walk_at "own6"
 refine xDw (I:=fun i ρ=>i<=i0/\ ∃ dy s4,ρ=[Ob (F2 w dy),.va (.int w),.va (.dk false m0),.va (.lst false (ts'.map dT)),s4,.un]/\s4.nbS=true/\nbK dy=true/\dy.length<=i) ?_ ⟨yDs _,[],_,rfl,rfl,rfl,yDp _⟩ ?_
 ·rintro i d ρ hi ⟨le,dy,s4,rfl,_,k1,k2⟩
  obtain ⟨s,hs,rfl⟩:=xKo hi
  have hi3:i<ks.length:=by
   have:=(yC1.mp hs).1
   rw [xCv] at this
   exact this
  obtain ⟨ws,sm⟩:=hks s (xCg.mp (yDn hs))
  obtain ⟨y,ey,_⟩:=K.get sm
  have ey':(xCy (.str s)).bind (getK m0)=some (.int y):=ey
  have sl:=ws.len
  have one:i=i0->s=s0:=fun z=>by
   subst z
   rw [h0] at hs
   cases hs
   rfl
  have less:i<i0->nmB s=true/\dyB y=true:=fun z=>xNo (g0 i s z hs) ey
  refine ⟨_,rfl,?_⟩
  refine xAf ?_
  refine xAs (q:=fun f ρ=>f= .nx/\nmB s=true/\ρ=[Ob (F2 w dy),.va (.int w),.va (.dk false m0),.va (.lst false (ts'.map dT)),.va (.str s),.un]) ?_ ?_
  ·refine xA8 rfl ?_
   walk_at "own6"
   refine xCb (xJr (by omega)) ?_ ?_
   ·rintro r o ⟨z,rfl⟩
    exact ⟨rfl,z,rfl⟩
   ·rintro x o ⟨z,rfl⟩
    have:i=i0:=by
     rcases Nat.lt_or_eq_of_le le with q|q
     ·rw [(less q).1] at z
      cases z
     ·exact q
    rw [<- one this]
    exact .inl ⟨z,rfl⟩
  rintro _ _ ⟨rfl,nb,rfl⟩
  refine xAf ?_
  refine xAs (q:=fun f ρ=>f= .nx/\dyB y=true/\ρ=[Ob (F2 w dy),.va (.int w),.va (.dk false m0),.va (.lst false (ts'.map dT)),.va (.str s),.un]) ?_ ?_
  ·refine xA8 rfl ?_
   walk_at "own6"
   refine xLp ey' ?_
   walk_at "own6"
   refine xCb xLi ?_ ?_
   ·rintro r o ⟨z,rfl⟩
    exact ⟨rfl,z,rfl⟩
   ·rintro x o ⟨z,rfl⟩
    have:i=i0:=by
     rcases Nat.lt_or_eq_of_le le with q|q
     ·rw [(less q).2] at z
      cases z
     ·exact q
    rw [<- one this]
    exact .inr ⟨nb,xO4 nb ey z,rfl⟩
  rintro _ _ ⟨rfl,db,rfl⟩
  have lt:i<i0:=by
   rcases Nat.lt_or_eq_of_le le with q|q
   ·exact q
   ·exact absurd (by rw [<- one q];exact xV8 nb ey db) b0
  refine xSj ?_
  refine w_fz ?_
  refine xA8 rfl ?_
  walk_at "own6"
  refine xLp ey' ?_
  walk_at "own6"
  refine ⟨_,_,_,rfl,rfl,k1,?_⟩
  refine xA8 rfl ?_
  walk_at "own6"
  have pl:=xDj dy (.inr s) (.int y)
  refine ⟨_,_,_,_,rfl,rfl,rfl,⟨by omega,k1,rfl⟩,?_⟩
  refine ⟨lt,xB3 dy (.inr s) (.int y),_,rfl,rfl,xLo fun p hp=> ?_,by omega⟩
  rcases xFk hp with z|z
  ·exact xQi k1 p z
  ·rw [z]
   rfl
 ·rintro ρ ⟨le,dy,s4,rfl,_⟩
  have:=(yC1.mp h0).1
  rw [yC0] at le
  omega
inductive Bad (W:Int)(m:List (Key×D))(L:List Str)(ts:List Tie):Exn->Prop
 | ways: ¬ (0<=W/\W<=3)->Bad W m L ts exBW
 | name {i:Nat} {s:Str}:(0<=W/\W<=3)->L[i]? =some s->KG m L i->kw m s="badname"->Bad W m L ts exBN
 | dye {i:Nat} {s:Str}:(0<=W/\W<=3)->L[i]? =some s->KG m L i->kw m s="baddye"->Bad W m L ts exBD
 | tie {i:Nat} {t:Tie} {x:Exn}:(0<=W/\W<=3)->KG m L L.length->ts[i]? =some t->GTo W.toNat m ts i->TX W.toNat (hasK m) ((ts.map les).take i) t x->Bad W m L ts x
theorem xVx (K:KA k m0)(hk:k<=1000)(e:xEa m0=some ks)(kl:m0.length<=12)(ht: ∀ t∈ts',PyData.strOk t.1=true/\PyData.strOk t.2.1=true/\t.2.2.length<=1000)(lt:ts'.length<=24):
  Fw (xA4 [.int W,.dk false m0,.lst false (ts'.map dT)]) (fun r _=>(∃ d,r= .va d)/\(0<=W/\W<=3)/\KG m0 (ssort ks) (ssort ks).length/\GTo W.toNat m0 ts' ts'.length) (fun x _=>Bad W m0 (ssort ks) ts' x):=by
 by_cases hw:0<=W/\W<=3
 ·obtain ⟨w,rfl⟩: ∃ w:Nat,W=w:=⟨W.toNat,by omega⟩
  by_cases g:KG m0 (ssort ks) (ssort ks).length
  ·refine xCb (xVm (K.kin e kl (w:=w) (by omega) g) ht lt) ?_ ?_
   ·rintro r o ⟨h1,dy,at_,rfl,_⟩
    exact ⟨⟨_,rfl⟩,hw,g,h1⟩
   ·rintro x o ⟨i,t,h1,h2,h3⟩
    exact .tie hw g h1 h2 h3
  ·obtain ⟨i,s,h1,h2,h3⟩:=xTf g
   refine xCb (xUt (w:=w) (nt:=0) (by omega) K hk e kl h1 h2 h3) ?_ ?_
   ·exact fun _ _ z=>z.elim
   ·rintro x o (⟨z,rfl⟩|⟨_,z,rfl⟩)
    ·exact .name hw h1 h2 (xNb z)
    ·exact .dye hw h1 h2 z
 ·exact xCb (xSo hw) (fun _ _ z=>z.elim) fun x o z=>by rw [z];exact .ways hw
end
end Lw
open L2 PySem PySem.Spec PyProof.Rows Fm
namespace Lw
open L2 PySem PySem.Spec PyProof.Rows Fm
inductive DW (w:Nat)(g:Str->Bool)(bs:List Tie)(t:Tie):Str->Prop
 | nk:(g t.1&&g t.2.1)=false->DW w g bs t "noknot"
 | bs:g t.1=true->g t.2.1=true->t.2.2.length≠w->DW w g bs t "badshift"
 | far:g t.1=true->g t.2.1=true->t.2.2.length=w-> ¬ Bd 1000000 t.2.2->DW w g bs t "far"
 | bt:g t.1=true->g t.2.1=true->t.2.2.length=w->Bd 1000000 t.2.2->(t.1=t.2.1/\ ∀ a∈t.2.2,a=0)->DW w g bs t "badtie"
 | tw:g t.1=true->g t.2.1=true->t.2.2.length=w->Bd 1000000 t.2.2-> ¬ (t.1=t.2.1/\ ∀ a∈t.2.2,a=0)->les t∈bs->DW w g bs t "twice"
 | ok:TG w g bs t->DW w g bs t ""
section
variable {w:Nat}{N:List Str}{ts:List Tie}{m:List (Key×D)}{p:D}{b b2:Bool}{t:Tie}
theorem xYj (w3:w<=3)(sb: ∀ t∈ts,PyData.strOk t.1=true/\PyData.strOk t.2.1=true)(h1:PyData.strOk t.1=true)(h2:PyData.strOk t.2.1=true)(h3:t.2.2.length<=1000):
  Fw (xDh [.va (.int w),.va (.dk b m),.va (.lst b2 (ts.map dT)),.va (dT t)]) (fun r o=> ∃ a,r= .va (.str a)/\DW w (hasK m) ts t a/\o=[.un,.un,.un,.un]) NoX:=by
 obtain ⟨u,v,s⟩:=t
 refine xA6 rfl ?_
 refine xAf ?_
 refine xAs (q:=fun f ρ=>f= .nx/\ρ=[.va (.int w),.va (.dk b m),.va (.lst b2 (ts.map dT)),.va (dT (u,v,s)),.va (.str u),.va (.str v),.va (dV s),.un]) ?_ ?_
 ·walk_at "own8"
  exact ⟨rfl,rfl⟩
 rintro _ _ ⟨rfl,rfl⟩
 refine xAf ?_
 refine xAs (q:=fun f ρ=>ρ=[.va (.int w),.va (.dk b m),.va (.lst b2 (ts.map dT)),.va (dT (u,v,s)),.va (.str u),.va (.str v),.va (dV s),.un]/\((f= .rt (.va (.str "noknot"))/\(hasK m u&&hasK m v)=false)\/(f= .nx/\hasK m u=true/\hasK m v=true))) ?_ ?_
 ·walk_at "own8"
  refine xHn rfl ?_
  cases hu:(getK m (.inr u)).isSome with
  | false=>
   walk_at "own8"
   exact ⟨rfl,.inl ⟨rfl,by show ((getK m (.inr u)).isSome&&_)=false;rw [hu];rfl⟩⟩
  | true=>
   walk_at "own8"
   refine xHn rfl ?_
   cases hv:(getK m (.inr v)).isSome with
   | false=>
    walk_at "own8"
    exact ⟨rfl,.inl ⟨rfl,by show ((getK m (.inr u)).isSome&&(getK m (.inr v)).isSome)=false;rw [hu,hv];rfl⟩⟩
   | true=>
    walk_at "own8"
    exact ⟨rfl,.inr ⟨rfl,hu,hv⟩⟩
 rintro f _ ⟨rfl,⟨rfl,no⟩|⟨rfl,hu,hv⟩⟩
 ·exact ⟨_,rfl,.nk no,rfl⟩
 refine xAf ?_
 refine xAs (q:=fun f ρ=>ρ=[.va (.int w),.va (.dk b m),.va (.lst b2 (ts.map dT)),.va (dT (u,v,s)),.va (.str u),.va (.str v),.va (dV s),.un]/\((f= .rt (.va (.str "badshift"))/\s.length≠w)\/(f= .nx/\s.length=w))) ?_ ?_
 ·walk_at "own8"
  rw [yC0]
  refine ⟨fun y=> ?_,fun y=> ?_⟩
  ·walk_at "own8"
   refine ⟨rfl,.inl ⟨rfl,fun e=> ?_⟩⟩
   rw [e,decide_eq_true rfl] at y
   cases y
  ·walk_at "own8"
   refine ⟨rfl,.inr ⟨rfl,?_⟩⟩
   by_cases e:(s.length:Int)=(w:Int)
   ·omega
   ·rw [decide_eq_false e] at y
    cases y
 rintro f _ ⟨rfl,⟨rfl,no⟩|⟨rfl,hl⟩⟩
 ·exact ⟨_,rfl,.bs hu hv no,rfl⟩
 refine xAf ?_
 refine xAs (q:=fun f ρ=>ρ=[.va (.int w),.va (.dk b m),.va (.lst b2 (ts.map dT)),.va (dT (u,v,s)),.va (.str u),.va (.str v),.va (dV s),.un]/\((f= .rt (.va (.str "far"))/\ ¬ Bd 1000000 s)\/(f= .nx/\Bd 1000000 s))) ?_ ?_
 ·walk_at "own8"
  refine xJ2 (L:=s.map fun a=>(a.natAbs:Int)) (m:=D.int) (by rw [yC0,yC0]) (fun i d c hd hc=> ?_) (by rw [yC0];exact (show s.length<=1000000 by omega)) ?_
  ·obtain ⟨a,rfl,rfl⟩:=xDl hd hc
   refine ⟨_,rfl,?_⟩
   walk_at "own8"
   exact ⟨rfl,rfl⟩
  ·walk_at "own8"
   ·refine yB6 ?_
    walk_at "own8"
    ·refine ⟨fun z=> ?_,fun z=> ?_⟩
     ·walk_at "own8"
      exact ⟨rfl,.inl ⟨rfl,(xW6 s).mp (of_decide_eq_true z)⟩⟩
     ·walk_at "own8"
      exact ⟨rfl,.inr ⟨rfl,yC3 fun y=>of_decide_eq_false z ((xW6 s).mpr y)⟩⟩
    ·exact ⟨by decide,by decide,by omega⟩
   ·simp
    omega
 rintro f _ ⟨rfl,⟨rfl,no⟩|⟨rfl,hb⟩⟩
 ·exact ⟨_,rfl,.far hu hv hl no,rfl⟩
 refine xAf ?_
 refine xAs (q:=fun f ρ=>ρ=[.va (.int w),.va (.dk b m),.va (.lst b2 (ts.map dT)),.va (dT (u,v,s)),.va (.str u),.va (.str v),.va (dV s),.un]/\((f= .rt (.va (.str "badtie"))/\(u=v/\ ∀ a∈s,a=0))\/(f= .nx/\ ¬ (u=v/\ ∀ a∈s,a=0)))) ?_ ?_
 ·walk_at "own8"
  ·refine ⟨fun z=> ?_,fun z=> ?_⟩
   ·walk_at "own8"
    refine xAo (xNt w3) ?_
    rintro r o ⟨rfl,rfl⟩
    walk_at "own8"
    refine o_eq ?_ (pl_V s) (pl_V _)
    rw [yCd]
    walk_at "own8"
    refine ⟨fun y=> ?_,fun y=> ?_⟩
    ·walk_at "own8"
     exact ⟨rfl,.inl ⟨rfl,of_decide_eq_true z,(xIv hl).mp (of_decide_eq_true y)⟩⟩
    ·walk_at "own8"
     exact ⟨rfl,.inr ⟨rfl,fun q=>of_decide_eq_false y ((xIv hl).mpr q.2)⟩⟩
   ·walk_at "own8"
    exact ⟨rfl,.inr ⟨rfl,fun q=>of_decide_eq_false z q.1⟩⟩
  ·exact h1
  ·exact h2
 rintro f _ ⟨rfl,⟨rfl,yes⟩|⟨rfl,hne⟩⟩
 ·exact ⟨_,rfl,.bt hu hv hl hb yes,rfl⟩
 walk_at "own8"
 refine xAo (xEg (t:=(u,v,s)) h1 h2 h3) ?_
 rintro r o ⟨rfl,rfl⟩
 walk_at "own8"
 refine xQr ?_ ?_
 ·obtain ⟨bb,eb,hbb⟩:=any_map dT xQm (les (u,v,s)) ts
  rw [eb]
  cases bb with
  | true=>
   walk_at "own8"
   exact ⟨.tw hu hv hl hb hne (hbb.mp rfl),rfl⟩
  | false=>
   walk_at "own8"
   exact ⟨.ok ⟨hu,hv,hl,hb,hne,fun z=>by
    have:=hbb.mpr z
    cases this⟩,rfl⟩
 ·have ptl:D.pl 60 (dT (les (u,v,s)))=true:=by
   rcases xI0 (u,v,s) with e|e
   ·rw [e]
    exact pl_T h1 h2
   ·rw [e]
    exact pl_T (t:=about (u,v,s)) h2 h1
  rw [ptl,show ∀ c,D.pl 60 (.lst c (ts.map dT))=true from fun c=>xPa fun d hd=>by
   obtain ⟨t,ht,rfl⟩:=yDi.mp hd
   exact pl_T (sb t ht).1 (sb t ht).2]
  rfl
end
end Lw
set_option maxHeartbeats 1990000
open L2 PySem PySem.Spec PyProof.Rows Fm
namespace Lw
open L2 PySem PySem.Spec PyProof.Rows Fm
inductive Due (W:Int)(m:List (Key×D))(L:List Str)(ts:List Tie):Str->Prop
 | ways: ¬ (0<=W/\W<=3)->Due W m L ts "badways"
 | name {i:Nat} {s:Str}:(0<=W/\W<=3)->L[i]? =some s->KG m L i->kw m s="badname"->Due W m L ts "badname"
 | dye {i:Nat} {s:Str}:(0<=W/\W<=3)->L[i]? =some s->KG m L i->kw m s="baddye"->Due W m L ts "baddye"
 | tie {i:Nat} {t:Tie} {a:Str}:(0<=W/\W<=3)->KG m L L.length->ts[i]? =some t->GTo W.toNat m ts i->DW W.toNat (hasK m) ((ts.map les).take i) t a->a≠""->Due W m L ts a
 | ok:(0<=W/\W<=3)->KG m L L.length->GTo W.toNat m ts ts.length->Due W m L ts ""
theorem xXo {t:Tie}(h:PyData.strOk t.1=true/\PyData.strOk t.2.1=true):PyData.strOk (les t).1=true/\PyData.strOk (les t).2.1=true:=by
 rcases xI0 t with e|e
 ·rw [e]
  exact h
 ·rw [e]
  exact ⟨h.2,h.1⟩
theorem DW.good {w:Nat}{g:Str->Bool}{bs:List Tie}{t:Tie}(h:DW w g bs t ""):TG w g bs t:=by
 have go: ∀ a,DW w g bs t a->a=""->TG w g bs t:=fun a h e=>by
  cases h with
  | ok h=>exact h
  | _=>exact absurd e (by decide +kernel)
 exact go _ h rfl
theorem DW.sok {w:Nat}{g:Str->Bool}{bs:List Tie}{t:Tie}{a:Str}(h:DW w g bs t a):PyData.strOk a=true:=by
 cases h <;> decide +kernel
section
variable {k:Nat}{m:List (Key×D)}{ks:List Str}{W:Int}{ts:List Tie}{b b2:Bool}
theorem yCi (K:KA k m)(hk:k<=1000)(e:xEa m=some ks)(kl:m.length<=12)(ht: ∀ t∈ts,PyData.strOk t.1=true/\PyData.strOk t.2.1=true/\t.2.2.length<=1000)(lt:ts.length<=24):
  Fw (xGe [.va (.tup [.int W,.dk b m,.lst b2 (ts.map dT)])]) (fun r o=> ∃ a,r= .va (.str a)/\Due W m (ssort ks) ts a/\o=[.un]) NoX:=by
 obtain ⟨ks1,e1,hkl,hks,hks2⟩:=K.keys
 rw [e] at e1
 cases e1
 refine xA6 rfl ?_
 refine xAf ?_
 refine xAs (q:=fun f ρ=>f= .nx/\ρ=[.va (.tup [.int W,.dk b m,.lst b2 (ts.map dT)]),.va (.int W),.va (.dk b m),.va (.lst b2 (ts.map dT)),.un,.un,.un,.un]) ?_ ?_
 ·walk_at "own8"
  exact ⟨rfl,rfl⟩
 rintro _ _ ⟨rfl,rfl⟩
 refine xAf ?_
 refine xAs (q:=fun f ρ=>ρ=[.va (.tup [.int W,.dk b m,.lst b2 (ts.map dT)]),.va (.int W),.va (.dk b m),.va (.lst b2 (ts.map dT)),.un,.un,.un,.un]/\((f= .rt (.va (.str "badways"))/\ ¬ (0<=W/\W<=3))\/(f= .nx/\(0<=W/\W<=3)))) ?_ ?_
 ·walk_at "own8"
  refine ⟨fun z0=> ?_,fun z0=> ?_⟩
  ·have z0:=of_decide_eq_true z0
   walk_at "own8"
   refine (⟨fun z=> ?_,fun z=> ?_⟩)
   ·have z: ¬ W<=3:=by simpa using z
    walk_at "own8"
    exact ⟨rfl,.inl ⟨rfl,by omega⟩⟩
   ·have z:W<=3:=by simpa using z
    walk_at "own8"
    exact ⟨rfl,.inr ⟨rfl,by omega⟩⟩
  ·have z0:=of_decide_eq_false z0
   walk_at "own8"
   exact ⟨rfl,.inl ⟨rfl,by omega⟩⟩
 rintro f _ ⟨rfl,⟨rfl,no⟩|⟨rfl,hw⟩⟩
 ·exact ⟨_,rfl,.ways no,rfl⟩
 obtain ⟨w,rfl⟩: ∃ w:Nat,W=w:=⟨W.toNat,by omega⟩
 refine xAf ?_
 refine xAs (q:=fun f ρ=> ∃ s4,ρ=[.va (.tup [.int w,.dk b m,.lst b2 (ts.map dT)]),.va (.int w),.va (.dk b m),.va (.lst b2 (ts.map dT)),s4,.un,.un,.un]/\s4.nOw=true/\((∃ a,f= .rt (.va (.str a))/\Due w m (ssort ks) ts a)\/(f= .nx/\KG m (ssort ks) (ssort ks).length))) ?_ ?_
 ·refine xHk ?_
  walk_at "own8"
  refine xEh e (by omega) ?_
  walk_at "own8"
  refine xDw (I:=fun i ρ=>KG m (ssort ks) i/\ ∃ s4,ρ=[.va (.tup [.int w,.dk b m,.lst b2 (ts.map dT)]),.va (.int w),.va (.dk b m),.va (.lst b2 (ts.map dT)),s4,.un,.un,.un]/\s4.nOw=true) ?_ ⟨fun j s hj=>absurd hj (yEp j),_,rfl,rfl⟩ ?_
  ·rintro i d ρ hi ⟨kg,s4,rfl,_⟩
   obtain ⟨s,hs,rfl⟩:=xKo hi
   obtain ⟨ws,sm⟩:=hks s (xCg.mp (yDn hs))
   obtain ⟨y,ey,_⟩:=K.get sm
   have ey':(xCy (.str s)).bind (getK m)=some (.int y):=ey
   have sl:=ws.len
   have next:kw m s=""->KG m (ssort ks) (i+1):=fun g j s2 hj h2=>by
    by_cases q:j<i
    ·exact kg j s2 q h2
    ·obtain rfl:j=i:=by omega
     rw [hs] at h2
     cases h2
     exact g
   refine ⟨_,rfl,?_⟩
   refine xAf ?_
   refine xAs (q:=fun f ρ=>ρ=[.va (.tup [.int w,.dk b m,.lst b2 (ts.map dT)]),.va (.int w),.va (.dk b m),.va (.lst b2 (ts.map dT)),.va (.str s),.un,.un,.un]/\((f= .rt (.va (.str "badname"))/\nmB s=false)\/(f= .nx/\nmB s=true))) ?_ ?_
   ·walk_at "own8"
    refine xAo (xM4 (by omega)) ?_
    rintro r o ⟨rfl,rfl⟩
    cases hn:nmB s with
    | true=>
     walk_at "own8"
     exact ⟨rfl,.inr ⟨rfl,rfl⟩⟩
    | false=>
     walk_at "own8"
     exact ⟨rfl,.inl ⟨rfl,rfl⟩⟩
   rintro f _ ⟨rfl,⟨rfl,no⟩|⟨rfl,nb⟩⟩
   ·exact ⟨_,rfl,rfl,.inl ⟨_,rfl,.name hw hs kg (xNb no)⟩⟩
   walk_at "own8"
   refine xLp ey' ?_
   walk_at "own8"
   refine ⟨fun z0=> ?_,fun z0=> ?_⟩
   ·have z0:=of_decide_eq_true z0
    walk_at "own8"
    refine (⟨fun z=> ?_,fun z=> ?_⟩)
    ·have z: ¬ y<=9:=by simpa using z
     have d0:dyB y=false:=by
      unfold dyB
      rw [decide_eq_false z,Bool.and_false]
     walk_at "own8"
     exact ⟨rfl,.inl ⟨_,rfl,.dye hw hs kg (xO4 nb ey d0)⟩⟩
    ·have z:y<=9:=by simpa using z
     have d0:dyB y=true:=by
      unfold dyB
      rw [decide_eq_true z,decide_eq_true z0]
      rfl
     walk_at "own8"
     exact ⟨next (xV8 nb ey d0),_,rfl,rfl⟩
   ·have z0:=of_decide_eq_false z0
    have d0:dyB y=false:=by
     unfold dyB
     rw [decide_eq_false z0,Bool.false_and]
    walk_at "own8"
    exact ⟨rfl,.inl ⟨_,rfl,.dye hw hs kg (xO4 nb ey d0)⟩⟩
  ·rintro ρ ⟨kg,s4,rfl,h4⟩
   rw [yC0] at kg
   exact ⟨_,rfl,h4,.inr ⟨rfl,kg⟩⟩
 rintro f _ ⟨s4,rfl,h4,⟨a,rfl,da⟩|⟨rfl,kg⟩⟩
 ·exact ⟨_,rfl,da,rfl⟩
 refine xAf ?_
 refine xAs (q:=fun f ρ=>f= .nx/\ρ=[.va (.tup [.int w,.dk b m,.lst b2 (ts.map dT)]),.va (.int w),.va (.dk b m),.va (.lst b2 (ts.map dT)),s4,.un,.un,.un]) ?_ ?_
 ·walk_at "own8"
  refine (⟨fun z=> ?_,fun z=> ?_⟩)
  ·have z:=of_decide_eq_true z
   omega
  ·walk_at "own8"
   exact ⟨rfl,rfl⟩
 rintro _ _ ⟨rfl,rfl⟩
 refine xAf ?_
 refine xAs (q:=fun f ρ=>f= .nx/\ρ=[.va (.tup [.int w,.dk b m,.lst b2 (ts.map dT)]),.va (.int w),.va (.dk b m),.va (.lst b2 (ts.map dT)),s4,.ow (.lst false []),.un,.un]) ?_ ?_
 ·walk_at "own8"
  exact ⟨rfl,rfl⟩
 rintro _ _ ⟨rfl,rfl⟩
 refine xAf ?_
 refine xAs (q:=fun f ρ=> ∃ s5 s6 s7,ρ=[.va (.tup [.int w,.dk b m,.lst b2 (ts.map dT)]),.va (.int w),.va (.dk b m),.va (.lst b2 (ts.map dT)),s4,s5,s6,s7]/\((∃ a,f= .rt (.va (.str a))/\Due w m (ssort ks) ts a)\/(f= .nx/\s5= .ow (.lst false ((ts.map les).map dT))/\GTo w m ts ts.length))) ?_ ?_
 ·refine xHk ?_
  walk_at "own8"
  refine xDw (I:=fun i ρ=>GTo w m ts i/\ ∃ s6 s7,ρ=[.va (.tup [.int w,.dk b m,.lst b2 (ts.map dT)]),.va (.int w),.va (.dk b m),.va (.lst b2 (ts.map dT)),s4,.ow (.lst false (((ts.map les).take i).map dT)),s6,s7]/\s6.nOw=true/\s7.nOw=true) ?_ ⟨fun j s hj=>absurd hj (yEp j),_,_,rfl,rfl,rfl⟩ ?_
  ·rintro i d ρ hi ⟨gt,s6,s7,rfl,n6,n7⟩
   rw [yDb] at hi
   obtain ⟨t,ht1,rfl⟩:=yC4.mp hi
   obtain ⟨o1,o2,o3⟩:=ht t (yDn ht1)
   have sb: ∀ t∈(ts.map les).take i,PyData.strOk t.1=true/\PyData.strOk t.2.1=true:=fun t h=>by
    obtain ⟨t0,h0,rfl⟩:=yDi.mp (yD1 h)
    exact xXo ⟨(ht t0 h0).1,(ht t0 h0).2.1⟩
   refine ⟨_,rfl,?_⟩
   walk_at "own8"
   refine xXi rfl (show (_&&(_&&(_&&(_&&(SD.nOw s4&&(_&&(_&&(SD.nOw s7&&true))))))))=true by rw [h4,n7];rfl) ?_
   walk_at "own8"
   refine xAo (xYj (w:=w) (m:=m) (b:=b) (b2:=true) (ts:=(ts.map les).take i) (by omega) sb o1 o2 o3) ?_
   rintro r o ⟨a,rfl,dw,rfl⟩
   walk_at "own8"
   refine ⟨rfl,rfl,?_⟩
   have sa:=dw.sok
   by_cases ha:a=""
   ·subst ha
    walk_at "own8"
    ·refine xAo (xEg (t:=t) o1 o2 o3) ?_
     rintro r o ⟨rfl,rfl⟩
     walk_at "own8"
     have et:((ts.map les).take (i+1)).map dT=((ts.map les).take i).map dT++[dT (les t)]:=by
      rw [yEk,yDb,ht1,yDw]
      rfl
     refine ⟨_,_,_,rfl,rfl,by rw [yC0,yDq,yC0];omega,?_⟩
     refine ⟨fun j t2 hj h2=> ?_,.va (dT t),.va (.str ""),?_,rfl,rfl⟩
     ·by_cases q:j<i
      ·exact gt j t2 q h2
      ·obtain rfl:j=i:=by omega
       rw [ht1] at h2
       cases h2
       exact dw.good
     ·rw [et]
      rfl
    ·decide +kernel
    ·decide +kernel
   ·walk_at "own8"
    ·rw [decide_eq_false ha]
     walk_at "own8"
     exact ⟨_,_,_,rfl,.inl ⟨a,rfl,.tie hw kg ht1 gt dw ha⟩⟩
    ·exact sa
    ·decide +kernel
  ·rintro ρ ⟨gt,s6,s7,rfl,_⟩
   rw [yC0] at gt
   rw [yC0,yDk (by rw [yC0];exact yDp _)]
   exact ⟨_,_,_,rfl,.inr ⟨rfl,rfl,gt⟩⟩
 rintro f _ ⟨s5,s6,s7,rfl,⟨a,rfl,da⟩|⟨rfl,rfl,gt⟩⟩
 ·exact ⟨_,rfl,da,rfl⟩
 walk_at "own8"
 refine (⟨fun z=> ?_,fun z=> ?_⟩)
 ·have z:=of_decide_eq_true z
  simp at z
  omega
 ·walk_at "own8"
  exact ⟨.ok hw kg gt,rfl⟩
end
end Lw
open L2 PySem PySem.Spec PyProof.Rows Fm
namespace Lw
open L2 PySem PySem.Spec PyProof.Rows Fm
inductive Lost (m:List (Key×D))(ts:List Tie):Str->Prop
 | hit {i:Nat} {t:Tie}:(∀ j t',j<i->ts[j]? =some t'->hasK m t'.1=true/\hasK m t'.2.1=true)->ts[i]? =some t->(hasK m t.1&&hasK m t.2.1)=false->Lost m ts (if hasK m t.1=true then t.2.1 else t.1)
 | none:(∀ j t',j<ts.length->ts[j]? =some t'->hasK m t'.1=true/\hasK m t'.2.1=true)->Lost m ts ""
section
variable {k:Nat}{m:List (Key×D)}{ks:List Str}{W:Int}{ts:List Tie}{b b2:Bool}
theorem xZa (lt:ts.length<=24):Fw (xFb [.va (.tup [.int W,.dk b m,.lst b2 (ts.map dT)])]) (fun r o=> ∃ a,r= .va (.str a)/\Lost m ts a/\o=[.un]) NoX:=by
 refine xA6 rfl ?_
 refine xAf ?_
 refine xAs (q:=fun f ρ=> ∃ s1 s2 s3 s4,ρ=[.va (.tup [.int W,.dk b m,.lst b2 (ts.map dT)]),s1,s2,s3,s4]/\((∃ a,f= .rt (.va (.str a))/\Lost m ts a)\/(f= .nx/\Lost m ts ""))) ?_ ?_
 ·refine xHk ?_
  walk_at "own8"
  refine xDw (I:=fun i ρ=>(∀ j t',j<i->ts[j]? =some t'->hasK m t'.1=true/\hasK m t'.2.1=true)/\ ∃ s1 s2 s3 s4,ρ=[.va (.tup [.int W,.dk b m,.lst b2 (ts.map dT)]),s1,s2,s3,s4]) ?_ ⟨fun j s hj=>absurd hj (yEp j),_,_,_,_,rfl⟩ ?_
  ·rintro i d ρ hi ⟨ok,s1,s2,s3,s4,rfl⟩
   rw [yDb] at hi
   obtain ⟨t,ht,rfl⟩:=yC4.mp hi
   refine ⟨_,rfl,?_⟩
   refine xHk ?_
   walk_at "own8"
   refine xDw (I:=fun q ρ=>(q=0\/(q=1/\hasK m t.1=true)\/(q=2/\hasK m t.1=true/\hasK m t.2.1=true))/\ ∃ s4,ρ=[.va (.tup [.int W,.dk b m,.lst b2 (ts.map dT)]),.va (.str t.1),.va (.str t.2.1),.va (dV t.2.2),s4]) ?_ ⟨.inl rfl,_,rfl⟩ ?_
   ·rintro q d ρ hq ⟨cs,s4,rfl⟩
    refine ⟨_,rfl,?_⟩
    rcases cs with rfl|⟨rfl,h1⟩|⟨rfl,_⟩
    ·cases hq
     walk_at "own8"
     refine xHn rfl ?_
     cases hu:(getK m (.inr t.1)).isSome with
     | true=>
      walk_at "own8"
      exact ⟨.inr (.inl ⟨rfl,hu⟩),_,rfl⟩
     | false=>
      walk_at "own8"
      refine ⟨_,_,_,_,rfl,.inl ⟨_,rfl,?_⟩⟩
      have z:=Lost.hit ok ht (by rw [show hasK m t.1=false from hu];rfl)
      rw [if_neg (by rw [show hasK m t.1=false from hu];decide)] at z
      exact z
    ·cases hq
     walk_at "own8"
     refine xHn rfl ?_
     cases hu:(getK m (.inr t.2.1)).isSome with
     | true=>
      walk_at "own8"
      exact ⟨.inr (.inr ⟨rfl,h1,hu⟩),_,rfl⟩
     | false=>
      walk_at "own8"
      refine ⟨_,_,_,_,rfl,.inl ⟨_,rfl,?_⟩⟩
      have z:=Lost.hit ok ht (by rw [h1,show hasK m t.2.1=false from hu];rfl)
      rw [if_pos h1] at z
      exact z
    ·cases hq
   ·rintro ρ ⟨cs,s4,rfl⟩
    rcases cs with cs|⟨cs,_⟩|⟨_,h1,h2⟩
    ·cases cs
    ·cases cs
    ·refine ⟨fun j t' hj e=> ?_,_,_,_,_,rfl⟩
     by_cases q:j<i
     ·exact ok j t' q e
     ·obtain rfl:j=i:=by omega
      rw [ht] at e
      cases e
      exact ⟨h1,h2⟩
  ·rintro ρ ⟨ok,s1,s2,s3,s4,rfl⟩
   rw [yC0] at ok
   exact ⟨_,_,_,_,rfl,.inr ⟨rfl,.none ok⟩⟩
 rintro f _ ⟨s1,s2,s3,s4,rfl,⟨a,rfl,h⟩|⟨rfl,h⟩⟩
 ·exact ⟨_,rfl,h,rfl⟩
 walk_at "own8"
 exact ⟨h,rfl⟩
theorem xYm {w:Nat}{g:Str->Bool}{bs:List Tie}{t:Tie}{x:Exn}{a:Str}(h:TX w g bs t x)(d:DW w g bs t a):a≠""/\
  ((a="noknot"/\(g t.1&&g t.2.1)=false/\x=exNK (if g t.1=true then t.2.1 else t.1))\/(a≠"noknot"/\x.fs=[(("called":Str),D.str a)]/\xMa x.c=some [(7,("called":Str))])):=by
 cases d with
 | ok k=>exact (k.no h).elim
 | nk q=>
  refine ⟨by decide +kernel,.inl ⟨rfl,q,?_⟩⟩
  cases h with
  | nk1 z=>
   rw [if_neg (by rw [z];decide)]
  | nk2 z y=>
   rw [if_pos z]
  | bs z y _=>rw [z,y] at q;cases q
  | far z y _ _=>rw [z,y] at q;cases q
  | bt z y _ _ _=>rw [z,y] at q;cases q
  | tw z y _ _ _ _=>rw [z,y] at q;cases q
 | bs q1 q2 q3=>
  refine ⟨by decide +kernel,.inr ⟨by decide +kernel,?_⟩⟩
  cases h with
  | nk1 z=>rw [q1] at z;cases z
  | nk2 z y=>rw [q2] at y;cases y
  | bs z y _=>exact ⟨rfl,rfl⟩
  | far z y l _=>exact absurd l q3
  | bt z y l _ _=>exact absurd l q3
  | tw z y l _ _ _=>exact absurd l q3
 | far q1 q2 q3 q4=>
  refine ⟨by decide +kernel,.inr ⟨by decide +kernel,?_⟩⟩
  cases h with
  | nk1 z=>rw [q1] at z;cases z
  | nk2 z y=>rw [q2] at y;cases y
  | bs z y l=>exact absurd q3 l
  | far z y l _=>exact ⟨rfl,rfl⟩
  | bt z y l k _=>exact absurd k q4
  | tw z y l k _ _=>exact absurd k q4
 | bt q1 q2 q3 q4 q5=>
  refine ⟨by decide +kernel,.inr ⟨by decide +kernel,?_⟩⟩
  cases h with
  | nk1 z=>rw [q1] at z;cases z
  | nk2 z y=>rw [q2] at y;cases y
  | bs z y l=>exact absurd q3 l
  | far z y l k=>exact absurd q4 k
  | bt z y l k _=>exact ⟨rfl,rfl⟩
  | tw z y l k e _=>exact absurd q5 e
 | tw q1 q2 q3 q4 q5 q6=>
  refine ⟨by decide +kernel,.inr ⟨by decide +kernel,?_⟩⟩
  cases h with
  | nk1 z=>rw [q1] at z;cases z
  | nk2 z y=>rw [q2] at y;cases y
  | bs z y l=>exact absurd q3 l
  | far z y l k=>exact absurd q4 k
  | bt z y l k e=>exact absurd e q5
  | tw z y l k e _=>exact ⟨rfl,rfl⟩
theorem DW.det {w:Nat}{g:Str->Bool}{bs:List Tie}{t:Tie}(h:TG w g bs t){a:Str}(d:DW w g bs t a):a="":=by
 cases d with
 | ok _=>rfl
 | nk q=>rw [h.u,h.v] at q;cases q
 | bs _ _ q=>exact absurd h.len q
 | far _ _ _ q=>exact absurd h.bd q
 | bt _ _ _ _ q=>exact absurd q h.ne
 | tw _ _ _ _ _ q=>exact absurd q h.new
def Told (x:Exn)(m:List (Key×D))(ts:List Tie)(a:Str):Prop:=a≠""/\((a="noknot"/\ ∃ s,x=exNK s/\Lost m ts s)\/(a≠"noknot"/\x.fs=[(("called":Str),D.str a)]/\xMa x.c=some [(7,("called":Str))]))
theorem Lost.det {s s2:Str}(h:Lost m ts s)(h2:Lost m ts s2):s=s2:=by
 cases h with
 | @hit i t o e q=>
  cases h2 with
  | @hit j t2 o2 e2 q2=>
   rcases Nat.lt_trichotomy i j with z|z|z
   ·obtain ⟨y1,y2⟩:=o2 i t z e
    rw [y1,y2] at q
    cases q
   ·subst z
    rw [e] at e2
    cases e2
    rfl
   ·obtain ⟨y1,y2⟩:=o j t2 z e2
    rw [y1,y2] at q2
    cases q2
  | none o2=>
   obtain ⟨y1,y2⟩:=o2 i t (yC1.mp e).1 e
   rw [y1,y2] at q
   cases q
 | none o=>
  cases h2 with
  | @hit j t2 o2 e2 q2=>
   obtain ⟨y1,y2⟩:=o j t2 (yC1.mp e2).1 e2
   rw [y1,y2] at q2
   cases q2
  | none _=>rfl
theorem yBz {L:List Str}{i j:Nat}{s s2:Str}(g:KG m L i)(e:L[i]? =some s)(q:kw m s≠"")(g2:KG m L j)(e2:L[j]? =some s2)(q2:kw m s2≠""):s=s2:=by
 rcases Nat.lt_trichotomy i j with z|z|z
 ·exact absurd (g2 i s z e) q
 ·subst z
  rw [e] at e2
  cases e2
  rfl
 ·exact absurd (g j s2 z e2) q2
theorem gt_eq {w:Nat}{i j:Nat}{t t2:Tie}{x:Exn}{a:Str}(g:GTo w m ts i)(e:ts[i]? =some t)(q:TX w (hasK m) ((ts.map les).take i) t x)(g2:GTo w m ts j)(e2:ts[j]? =some t2)(q2:DW w (hasK m) ((ts.map les).take j) t2 a)(na:a≠""):i=j:=by
 rcases Nat.lt_trichotomy i j with z|z|z
 ·exact ((g2 i t z e).no q).elim
 ·exact z
 ·exact absurd (q2.det (g j t2 z e2)) na
theorem xUo:("badname":Str)≠"":=by decide +kernel
theorem xUn:("baddye":Str)≠"":=by decide +kernel
theorem yA6:("badname":Str)≠"baddye":=by decide +kernel
theorem xU0 {L:List Str}{x:Exn}{a:Str}(h:Bad W m L ts x)(d:Due W m L ts a):Told x m ts a:=by
 cases h with
 | ways n=>
  cases d with
  | ways _=>exact ⟨by decide +kernel,.inr ⟨by decide +kernel,rfl,rfl⟩⟩
  | name y=>exact absurd y n
  | dye y=>exact absurd y n
  | tie y=>exact absurd y n
  | ok y=>exact absurd y n
 | @name i s y e g q=>
  have qe:kw m s≠"":=by rw [q];exact xUo
  cases d with
  | ways n=>exact absurd y n
  | name _ _ _ _=>exact ⟨by decide +kernel,.inr ⟨by decide +kernel,rfl,rfl⟩⟩
  | @dye j s2 _ e2 g2 q2=>
   have z:=yBz g e qe g2 e2 (by rw [q2];exact xUn)
   rw [z,q2] at q
   exact absurd q.symm yA6
  | tie _ g2 _ _ _ _=>exact absurd (g2 i s (yC1.mp e).1 e) qe
  | ok _ g2 _=>exact absurd (g2 i s (yC1.mp e).1 e) qe
 | @dye i s y e g q=>
  have qe:kw m s≠"":=by rw [q];exact xUn
  cases d with
  | ways n=>exact absurd y n
  | @name j s2 _ e2 g2 q2=>
   have z:=yBz g e qe g2 e2 (by rw [q2];exact xUo)
   rw [z,q2] at q
   exact absurd q yA6
  | dye _ _ _ _=>exact ⟨by decide +kernel,.inr ⟨by decide +kernel,rfl,rfl⟩⟩
  | tie _ g2 _ _ _ _=>exact absurd (g2 i s (yC1.mp e).1 e) qe
  | ok _ g2 _=>exact absurd (g2 i s (yC1.mp e).1 e) qe
 | @tie i t x y kg e g tx=>
  cases d with
  | ways n=>exact absurd y n
  | @name j s2 _ e2 g2 q2=>exact absurd (kg j s2 (yC1.mp e2).1 e2) (by rw [q2];exact xUo)
  | @dye j s2 _ e2 g2 q2=>exact absurd (kg j s2 (yC1.mp e2).1 e2) (by rw [q2];exact xUn)
  | @tie j t2 a _ _ e2 g2 dw na=>
   obtain rfl:=gt_eq g e tx g2 e2 dw na
   rw [e] at e2
   cases e2
   obtain ⟨_,⟨rfl,q,rfl⟩|⟨n1,n2,n3⟩⟩:=xYm tx dw
   ·exact ⟨na,.inl ⟨rfl,_,rfl,.hit (fun j t' hj e'=>⟨(g j t' hj e').u,(g j t' hj e').v⟩) e q⟩⟩
   ·exact ⟨na,.inr ⟨n1,n2,n3⟩⟩
  | ok _ _ g2=>exact ((g2 i t (yC1.mp e).1 e).no tx).elim
theorem xQn {L:List Str}{a:Str}(hw:0<=W/\W<=3)(kg:KG m L L.length)(g:GTo W.toNat m ts ts.length)(d:Due W m L ts a):a="":=by
 cases d with
 | ways n=>exact absurd hw n
 | @name j s2 _ e2 g2 q2=>exact absurd (kg j s2 (yC1.mp e2).1 e2) (by rw [q2];exact xUo)
 | @dye j s2 _ e2 g2 q2=>exact absurd (kg j s2 (yC1.mp e2).1 e2) (by rw [q2];exact xUn)
 | @tie j t2 a _ _ e2 g2 dw na=>exact absurd (dw.det (g j t2 (yC1.mp e2).1 e2)) na
 | ok _ _ _=>rfl
end
end Lw
open L2 PySem PySem.Spec PyProof.Rows Fm
namespace Lw
open L2 PySem PySem.Spec PyProof.Rows Fm
theorem xZf {n:Nat}{d:D}(h:Drw n d):d.nbO=true:=by
 obtain ⟨b,cells,a1,a2,a3,a4,rfl,_⟩:=h.ex
 show (D.nb (.lst false (cells.map D.int))&&_)=true
 have:D.nb (.lst false (cells.map D.int))=true:=by
  show (!false&&nbL (cells.map D.int))=true
  rw [xCj fun _=>rfl]
  rfl
 rw [this]
 rfl
def TA (k:Nat)(ts:List Tie):Prop:= ∀ x∈ts,Wd k x.1/\Wd k x.2.1/\x.2.2.length<=3
theorem TA.mono {k n:Nat}{ts:List Tie}(h:TA k ts)(l:k<=n):TA n ts:=fun x hx=>⟨(h x hx).1.mono l,(h x hx).2.1.mono l,(h x hx).2.2⟩
theorem wd_n:Wd 1 "n":=⟨by decide +kernel,by decide +kernel⟩
theorem wd_Z:Wd 1 "Z":=⟨by decide +kernel,by decide +kernel⟩
theorem wd_z:Wd 1 "z":=⟨by decide +kernel,by decide +kernel⟩
theorem xCw (l:List D)(k:Nat):Fm.cutD l none (some (k:Int))=l.take k:=by
 unfold Fm.cutD
 rw [HT.sIx_nat,HT.sIx_none,List.drop_zero,Nat.sub_zero]
 by_cases h:k<=l.length
 ·rw [Nat.min_eq_left h]
 ·rw [yEt (by omega),yDk (by omega),yDk (by omega)]
theorem xHc (l:List D)(k:Nat):Fm.cutD l (some (k:Int)) none=l.drop k:=by
 unfold Fm.cutD
 rw [HT.sIx_nat,HT.sIx_none]
 rw [yDk (by rw [yDy];exact yDp _)]
 by_cases h:k<=l.length
 ·rw [Nat.min_eq_left h]
 ·rw [yEt (by omega),yEf (by omega),yEf (by omega)]
theorem at_0 (a:D)(l:List D):atI (a::l) 0=some a:=by
 rw [show (0:Int)=((0:Nat):Int) from rfl,Fm.atI_nat]
 rfl
theorem xYr {q:Int}{l:List Str}(h:0<=q/\q<l.length): ∃ z,z∈l/\atI (l.map D.str) q=some (.str z):=by
 obtain ⟨k,rfl⟩: ∃ k:Nat,q=k:=⟨q.toNat,by omega⟩
 have hk:k<l.length:=by omega
 refine ⟨l[k],yEd hk,?_⟩
 rw [Fm.atI_nat,yDb,yC6 hk]
 rfl
theorem xZq {q:Int}{l:List Vec}(h:0<=q/\q<l.length): ∃ z,z∈l/\atI (l.map dV) q=some (dV z):=by
 obtain ⟨k,rfl⟩: ∃ k:Nat,q=k:=⟨q.toNat,by omega⟩
 have hk:k<l.length:=by omega
 refine ⟨l[k],yEd hk,?_⟩
 rw [Fm.atI_nat,yDb,yC6 hk]
 rfl
theorem xZv (ts:List Tie)(t:Tie)(c:Nat):Fm.cutD (ts.map dT) none (some (c:Int))++[dT t]++Fm.cutD (ts.map dT) (some (c:Int)) none=(ts.take c++[t]++ts.drop c).map dT:=by
 rw [xCw,xHc,yDw,yDw,List.map_take,List.map_drop]
 rfl
theorem xQp (ts:List Tie)(t:Tie)(c:Nat):(ts.take c++[t]++ts.drop c).length<=ts.length+1:=by
 rw [yDl,yDl,yDq,yDy]
 show _+1+_<=_
 omega
theorem xWy {k c:Nat}{ts:List Tie}{t:Tie}(h:TA k ts)(ht:Wd k t.1/\Wd k t.2.1/\t.2.2.length<=3):TA k (ts.take c++[t]++ts.drop c):=fun x hx=>by
 rcases xC8 hx with z|z
 ·rcases xC8 z with z|z
  ·exact h x (yD1 z)
  ·rw [xCf z]
   exact ht
 ·exact h x (List.mem_of_mem_drop z)
section
variable {k n:Nat}{m:List (Key×D)}{W:Int}{ts:List Tie}{b b2:Bool}{d:D}
abbrev SB (d:D)(mesh:D)(W:Int)(m:List (Key×D))(s4:SD)(s5 s6 s7 s8 s9:SD):List SD:=[.ow d,.va mesh,.va (.int W),.ow (.dk false m),s4,s5,s6,s7,s8,s9]
theorem own3 (h:Drw n d){mesh:D}{s5 s6 s7 s8 s9:SD}(h5:s5.nOw=true)(h6:s6.nOw=true)(h7:s7.nOw=true)(h8:s8.nOw=true)(h9:s9.nOw=true):
  (((SB d mesh W m (.ow (.lst false (ts.map dT))) s5 s6 s7 s8 s9).set 3 .un).all fun x=>match x with| .ow c=>c.nbO|_=>true)=true:=by
 have e: ∀ {s:SD},s.nOw=true->(match s with| .ow c=>c.nbO|_=>true)=true:=fun {s} h=>by
  cases s with
  | ow c=>cases h
  | _=>rfl
 have nt:nbL (ts.map dT)=true:=xCj nb_T _
 simp only [List.set,yD6,List.all_nil,xZf h,e h5,e h6,e h7,e h8,e h9,Bool.and_true,Bool.true_and]
 exact nt
theorem xU7 (K:KA k m)(h1:1<=k): ∃ ks,xEa m=some ks/\ks.length=m.length/\(∀ s∈ssort ks++[("n":Str)],Wd k s):=by
 obtain ⟨ks,e,l,a,_⟩:=K.keys
 refine ⟨ks,e,l,fun s hs=> ?_⟩
 rcases xC8 hs with z|z
 ·exact (a s (xCg.mp z)).1
 ·rw [xCf z]
  exact wd_n.mono h1
def L4 (ts:List Tie)(x:SD):Prop:=x= .ow (.lst false (ts.map dT))\/x= .va (.lst false (ts.map dT))
theorem xXv (K:KA k m)(h1:1<=k)(hk:k<=400)(ml:m.length<=50)(tl:ts.length<=100)(hT:TA (k+1) ts)(h:Drw n d)(hn:n<=90000):
  Fw (xE6 [.ow d,.va (.tup [.int W,.dk b m,.lst b2 (ts.map dT)])]) (fun r o=> ∃ W' m' ts',r= .va (.tup [.int W',.dk false m',.lst false (ts'.map dT)])/\KA (2*k+8) m'/\m'.length<=m.length+1/\ts'.length<=ts.length+1/\TA (2*k+9) ts'/\ ∃ d',o=[.ow d',.un]/\Drw (n+20) d') NoX:=by
 obtain ⟨ks,e,kl,kn⟩:=xU7 K h1
 obtain ⟨mesh,em⟩: ∃ mesh,mesh=D.tup [.int W,.dk b m,.lst b2 (ts.map dT)]:=⟨_,rfl⟩
 refine xA6 rfl ?_
 refine xAf ?_
 refine xAs (q:=fun f ρ=>f= .nx/\ρ=SB d mesh W m (.ow (.lst false (ts.map dT))) .un .un .un .un .un) ?_ ?_
 ·refine w_cp3 rfl ?_
  rw [<- em]
  exact ⟨rfl,rfl⟩
 rintro _ _ ⟨rfl,rfl⟩
 refine xAf ?_
 refine xAs (q:=fun f ρ=>f= .nx/\ ∃ (d':D) (q:Int),ρ=SB d' mesh W m (.ow (.lst false (ts.map dT))) (.va (.int q)) .un .un .un .un/\(0<=q/\q<8)/\Drw (n+1) d') ?_ ?_
 ·walk_at "own10"
  refine xBn (xA5 h (by decide) (szS (by decide)) (by omega)) fun q d1 hq k1=> ?_
  walk_at "own10"
  exact ⟨rfl,d1,q,rfl,hq,k1⟩
 rintro _ _ ⟨rfl,d1,q,rfl,hq,k1⟩
 refine xAf ?_
 refine xAs (q:=fun f ρ=>f= .nx/\ ∃ s,Wd k s/\ρ=SB d1 mesh W m (.ow (.lst false (ts.map dT))) (.va (.int q)) (.va (.str s)) .un .un .un) ?_ ?_
 ·walk_at "own10"
  refine xSl rfl (own3 k1 rfl rfl rfl rfl rfl) ?_
  walk_at "own10"
  show Ow (xCz [.dk true m]) _
  refine xEh e (by omega) ⟨rfl,xCj (fun _=>rfl) _,?_⟩
  walk_at "own10"
  ·obtain ⟨s,r,er⟩: ∃ s r,ssort ks++[("n":Str)]=s::r:=by
    cases ssort ks with
    | nil=>exact ⟨_,_,rfl⟩
    | cons a l=>exact ⟨_,_,rfl⟩
   rw [show (ssort ks).map D.str++[D.str (Str.ofString "n")]=(ssort ks++[("n":Str)]).map D.str by rw [yDw];rfl,er]
   refine xKs (at_0 _ _) ?_
   exact ⟨rfl,s,kn s (by rw [er];exact yC2 ..),rfl⟩
  ·rw [yC0,xCv]
   show ks.length+1<=_
   omega
 rintro _ _ ⟨rfl,s,hs,rfl⟩
 refine xAf ?_
 refine xAs (q:=fun f ρ=>f= .nx/\ ∃ (d':D) (t:Tie),Wd k t.1/\Wd k t.2.1/\t.2.2.length=2/\Drw (n+5) d'/\ρ=SB d' mesh W m (.ow (.lst false (ts.map dT))) (.va (.int q)) (.va (.str s)) (.va (dT t)) .un .un) ?_ ?_
 ·walk_at "own10"
  refine xSl rfl (own3 k1 rfl rfl rfl rfl rfl) ?_
  walk_at "own10"
  show Ow (xCz [.dk true m]) _
  refine xEh e (by omega) ⟨rfl,xCj (fun _=>rfl) _,?_⟩
  walk_at "own10"
  ·rw [show (ssort ks).map D.str++[D.str s]=(ssort ks++[s]).map D.str by rw [yDw];rfl]
   have hlen:(ssort ks++[s]).length=ks.length+1:=by
    rw [yDl,xCv]
    rfl
   refine xAo (xJ6 (f:=D.str) k1 (by omega) (by omega) (by omega)) ?_
   rintro r o ⟨s2,rfl,hs2,d2,rfl,k2⟩
   have w2:Wd k s2:=by
    rcases xC8 hs2 with z|z
    ·exact kn s2 (yEa.mpr (.inl z))
    ·rw [xCf z]
     exact hs
   walk_at "own10"
   refine xAo (xJi (w:=2) (lim:=3) (by decide) (by decide) k2 (by omega)) ?_
   rintro r o ⟨v,rfl,⟨hv,_⟩,d3,rfl,k3⟩
   walk_at "own10"
   exact ⟨rfl,d3,(s,s2,v),hs,w2,hv,k3,rfl⟩
  ·rw [yC0,xCv]
   show ks.length+1<=_
   omega
 rintro _ _ ⟨rfl,d2,t,t1,t2,t3,k2,rfl⟩
 refine xAf ?_
 refine xAs (q:=fun f ρ=>f= .nx/\ ∃ (d':D) (W':Int),Drw (n+6) d'/\ρ=SB d' mesh W' m (.ow (.lst false (ts.map dT))) (.va (.int q)) (.va (.str s)) (.va (dT t)) .un .un) ?_ ?_
 ·walk_at "own10"
  refine ⟨fun y=> ?_,fun y=> ?_⟩
  ·walk_at "own10"
   refine xBn (xA5 k2 (by decide) (szS (by decide)) (by omega)) fun p d3 hp k3=> ?_
   obtain ⟨z,_,ez⟩:=xJb (l:=[-1,4,100000000000000000000,1,3]) hp
   walk_at "own10"
   ·refine xC7 ez ?_
    walk_at "own10"
    exact ⟨rfl,d3,z,k3,rfl⟩
   ·decide
  ·exact ⟨rfl,d2,W,k2.mono (by omega),rfl⟩
 rintro _ _ ⟨rfl,d3,W',k3,rfl⟩
 refine xAf ?_
 refine xAs (q:=fun f ρ=>f= .nx/\ ∃ (d':D) (m':List (Key×D)),KA (2*k+8) m'/\m'.length<=m.length+(if q=1 then 1 else 0)/\Drw (n+9) d'/\ρ=SB d' mesh W' m' (.ow (.lst false (ts.map dT))) (.va (.int q)) (.va (.str s)) (.va (dT t)) .un .un) ?_ ?_
 ·walk_at "own10"
  refine ⟨fun y=> ?_,fun y=> ?_⟩
  ·have hq1:q=1:=of_decide_eq_true y
   refine xMm ?_
   walk_at "own10"
   refine xAo (xYt hs (by omega) k3 (by omega)) ?_
   rintro r o ⟨x,rfl,hx,d4,rfl,k4⟩
   walk_at "own10"
   refine ⟨_,_,_,rfl,rfl,by omega,?_⟩
   have pl:=xDj m (.inr x) (.int 0)
   exact ⟨rfl,d4,_,(K.mono (by omega)).put hx,by rw [if_pos hq1];exact pl,k4.mono (by omega),rfl⟩
  ·exact ⟨rfl,d3,m,K.mono (by omega),Nat.le_add_right _ _,k3.mono (by omega),rfl⟩
 rintro _ _ ⟨rfl,d4,m1,K1,l1,k4,rfl⟩
 refine xAf ?_
 refine xAs (q:=fun f ρ=>f= .nx/\ ∃ (d':D) (m':List (Key×D)),KA (2*k+8) m'/\m'.length<=m.length+1/\Drw (n+10) d'/\ρ=SB d' mesh W' m' (.ow (.lst false (ts.map dT))) (.va (.int q)) (.va (.str s)) (.va (dT t)) .un .un) ?_ ?_
 ·walk_at "own10"
  refine ⟨fun y=> ?_,fun y=> ?_⟩
  ·have hq1:q=2:=of_decide_eq_true y
   rw [if_neg (by omega)] at l1
   refine xMm ?_
   walk_at "own10"
   refine xBn (xA5 k4 (by decide) (szS (by decide)) (by omega)) fun p d5 hp k5=> ?_
   obtain ⟨z,_,ez⟩:=xJb (l:=[-1,10,9,100000000000000000000]) hp
   walk_at "own10"
   ·refine xC7 ez ?_
    walk_at "own10"
    refine ⟨_,_,_,rfl,rfl,by omega,?_⟩
    have pl:=xDj m1 (.inr s) (.int z)
    exact ⟨rfl,d5,_,K1.put (hs.mono (by omega)),by omega,k5,rfl⟩
   ·decide
  ·refine ⟨rfl,d4,m1,K1,?_,k4.mono (by omega),rfl⟩
   split at l1 <;> omega
 rintro _ _ ⟨rfl,d5,m2,K2,l2,k5,rfl⟩
 refine xAf ?_
 refine xAs (q:=fun f ρ=>f= .nx/\ ∃ (d':D) (t:Tie),Wd (k+1) t.1/\Wd (k+1) t.2.1/\t.2.2.length=2/\Drw (n+11) d'/\ρ=SB d' mesh W' m2 (.ow (.lst false (ts.map dT))) (.va (.int q)) (.va (.str s)) (.va (dT t)) .un .un) ?_ ?_
 ·walk_at "own10"
  refine ⟨fun y=> ?_,fun y=> ?_⟩
  ·walk_at "own10"
   ·refine xBn (xA5 k5 (by decide) (szS (by decide)) (by omega)) fun p d6 hp k6=> ?_
    obtain ⟨z,hz,ez⟩:=xYr (l:=[("":Str),"Z",s++"z"]) hp
    walk_at "own10"
    refine xC7 ez ?_
    walk_at "own10"
    refine ⟨rfl,d6,(t.1,z,t.2.2),t1.mono (by omega),?_,t3,k6,rfl⟩
    rcases xF3 hz with rfl|hz
    ·exact wd_0.mono (by omega)
    rcases xF3 hz with rfl|hz
    ·exact wd_Z.mono (by omega)
    rw [xCf hz]
    exact xI9 hs wd_z
   ·have:=hs.len
    show s.length+1<=_
    omega
  ·exact ⟨rfl,d5,t,t1.mono (by omega),t2.mono (by omega),t3,k5.mono (by omega),rfl⟩
 rintro _ _ ⟨rfl,d6,t',t1',t2',t3',k6,rfl⟩
 clear t1 t2 t3
 refine xAf ?_
 refine xAs (q:=fun f ρ=>f= .nx/\ ∃ (d':D) (t:Tie),Wd (k+1) t.1/\Wd (k+1) t.2.1/\t.2.2.length<=3/\(q≠4->t.2.2.length=2)/\Drw (n+12) d'/\ρ=SB d' mesh W' m2 (.ow (.lst false (ts.map dT))) (.va (.int q)) (.va (.str s)) (.va (dT t)) .un .un) ?_ ?_
 ·walk_at "own10"
  refine ⟨fun y=> ?_,fun y=> ?_⟩
  ·have hq1:q=4:=of_decide_eq_true y
   obtain ⟨u,v,sh⟩:=t'
   have t3':sh.length=2:=t3'
   walk_at "own10"
   ·refine xBn (xA5 k6 (by decide) (szS (by decide)) (by omega)) fun p d7 hp k7=> ?_
    obtain ⟨z,hz,ez⟩:=xZq (l:=[sh++[1],sh.take 1,[]]) hp
    walk_at "own10"
    have e1:D.tup (sh.map D.int++[D.int 1])=dV (sh++[1]):=by
     show D.tup _=D.tup _
     rw [yDw]
     rfl
    have e2:D.tup (Fm.cutD (sh.map D.int) none (some 1))=dV (sh.take 1):=by
     rw [show (1:Int)=((1:Nat):Int) from rfl,xCw,<- List.map_take]
    show Ow (ix3D (.tup [D.tup (sh.map D.int++[D.int 1]),D.tup (Fm.cutD (sh.map D.int) none (some 1)),D.tup []]) (.int p)) _
    rw [e1,e2]
    refine xC7 ez ?_
    walk_at "own10"
    refine ⟨rfl,d7,(u,v,z),t1',t2',?_,fun h=>absurd hq1 h,k7,rfl⟩
    rcases xF3 hz with rfl|hz
    ·show (sh++[1]).length<=3
     rw [yDl,t3']
     decide
    rcases xF3 hz with rfl|hz
    ·show (sh.take 1).length<=3
     rw [yDq]
     omega
    rw [xCf hz]
    exact yDs _
   ·show (sh.map D.int).length+1<=_
    rw [yC0,t3']
    decide
  ·exact ⟨rfl,d6,t',t1',t2',by omega,fun _=>t3',k6.mono (by omega),rfl⟩
 rintro _ _ ⟨rfl,d7,t4,a1,a2,a3,a4,k7,rfl⟩
 refine xAf ?_
 refine xAs (q:=fun f ρ=>f= .nx/\ ∃ (d':D) (t:Tie) (s8:SD),Wd (k+1) t.1/\Wd (k+1) t.2.1/\t.2.2.length<=3/\(s8= .un\/ ∃ z,s8= .va (.int z))/\Drw (n+13) d'/\ρ=SB d' mesh W' m2 (.ow (.lst false (ts.map dT))) (.va (.int q)) (.va (.str s)) (.va (dT t)) s8 .un) ?_ ?_
 ·walk_at "own10"
  refine ⟨fun y=> ?_,fun y=> ?_⟩
  ·have hq1:q=5:=of_decide_eq_true y
   obtain ⟨u,v,sh⟩:=t4
   have a4:sh.length=2:=a4 (by omega)
   obtain ⟨x0,x1,rfl⟩: ∃ x0 x1,sh=[x0,x1]:=by
    match sh,a4 with
    | [x0,x1],_=>exact ⟨_,_,rfl⟩
   walk_at "own10"
   ·refine xBn (xA5 k7 (by decide) (szS (by decide)) (by omega)) fun p d8 hp k8=> ?_
    obtain ⟨z,_,ez⟩:=xJb (l:=[1000000,1000001,-1000000,-1000001]) hp
    walk_at "own10"
    refine xC7 ez ?_
    walk_at "own10"
    exact ⟨rfl,d8,(u,v,[z,x1]),_,a1,a2,(show (2:Nat)<=3 by decide),.inr ⟨z,rfl⟩,k8,rfl⟩
   all_goals decide
  ·exact ⟨rfl,d7,t4,_,a1,a2,a3,.inl rfl,k7.mono (by omega),rfl⟩
 rintro _ _ ⟨rfl,d8,t5,s8,c1,c2,c3,h8,k8,rfl⟩
 refine xAf ?_
 refine xAs (q:=fun f ρ=>f= .nx/\ ∃ (t:Tie),Wd (k+1) t.1/\Wd (k+1) t.2.1/\t.2.2.length<=3/\ρ=SB d8 mesh W' m2 (.ow (.lst false (ts.map dT))) (.va (.int q)) (.va (.str s)) (.va (dT t)) s8 .un) ?_ ?_
 ·walk_at "own10"
  refine ⟨fun y=> ?_,fun y=> ?_⟩
  ·walk_at "own10"
   exact ⟨rfl,(t5.1,t5.1,[0,0]),c1,c1,(show (2:Nat)<=3 by decide),rfl⟩
  ·exact ⟨rfl,t5,c1,c2,c3,rfl⟩
 rintro _ _ ⟨rfl,t6,e1,e2,e3,rfl⟩
 refine xAf ?_
 refine xAs (q:=fun f ρ=>f= .nx/\ ∃ (d':D) (t:Tie) (s4:SD),Wd (k+1) t.1/\Wd (k+1) t.2.1/\t.2.2.length<=3/\L4 ts s4/\Drw (n+14) d'/\ρ=SB d' mesh W' m2 s4 (.va (.int q)) (.va (.str s)) (.va (dT t)) s8 .un) ?_ ?_
 ·walk_at "own10"
  refine ⟨fun y=> ?_,fun y=> ?_⟩
  ·walk_at "own10"
   have pts:D.pl 60 (.lst false (ts.map dT))=true:=xPa fun d hd=>by
    obtain ⟨t,ht,rfl⟩:=yDi.mp hd
    exact pl_T (hT t ht).1.ok (hT t ht).2.1.ok
   refine o_ne ?_ pts rfl
   cases hts:ts with
   | nil=>
    walk_at "own10"
    exact ⟨rfl,d8,t6,_,e1,e2,e3,.inr rfl,k8.mono (by omega),rfl⟩
   | cons a0 l0=>
    rw [<- hts]
    rw [show peq (.lst false (ts.map dT)) (.lst false [])=false by rw [hts];rfl]
    walk_at "own10"
    refine xAo (xJ6 (f:=dT) k8 (by rw [hts];exact Nat.succ_pos _) (by omega) (by omega)) ?_
    rintro r o ⟨t,rfl,ht,d9,rfl,k9⟩
    obtain ⟨u,v,sh⟩:=t
    obtain ⟨w1,w2,w3⟩:=hT _ ht
    walk_at "own10"
    refine xAo (xIu (s:=sh) (yEn w3 (by decide))) ?_
    rintro r o ⟨rfl,rfl⟩
    walk_at "own10"
    exact ⟨rfl,d9,(v,u,neg sh),_,w2,w1,by show (neg sh).length<=3;rw [xKd];exact w3,.inr rfl,k9,rfl⟩
  ·exact ⟨(fun h=>nomatch h),fun _=>⟨rfl,d8,t6,_,e1,e2,e3,.inl rfl,k8.mono (by omega),rfl⟩⟩
 rintro _ _ ⟨rfl,d9,t7,s4,g1,g2,g3,h4,k9,rfl⟩
 refine xAf ?_
 refine xAs (q:=fun f ρ=>f= .nx/\ ∃ (d':D) (ts':List Tie) (s4 s9:SD),ts'.length<=ts.length+1/\TA (k+1) ts'/\L4 ts' s4/\Drw (n+15) d'/\ρ=SB d' mesh W' m2 s4 (.va (.int q)) (.va (.str s)) (.va (dT t7)) s8 s9) ?_ ?_
 ·walk_at "own10"
  refine ⟨fun y=> ?_,fun y=> ?_⟩
  ·rcases h4 with rfl|rfl
   ·walk_at "own10"
    refine xBn (xA5 k9 (by rw [yC0];omega) (szS (by rw [yC0];omega)) (by omega)) fun p d10 hp k10=> ?_
    rw [yC0] at hp
    obtain ⟨c,rfl⟩: ∃ c:Nat,p=c:=⟨p.toNat,by omega⟩
    walk_at "own10"
    ·rw [xZv]
     exact ⟨rfl,d10,ts.take c++[t7]++ts.drop c,_,_,xQp ts t7 c,xWy hT ⟨g1,g2,g3⟩,.inl rfl,k10,rfl⟩
    ·rw [yDl,xCw,xHc,yDq,yDy,yC0]
     show _+1+_<=_
     omega
    ·rw [xCw,yDq,yC0]
     show _+1<=_
     omega
   ·walk_at "own10"
    refine xBn (xA5 k9 (by rw [yC0];omega) (szS (by rw [yC0];omega)) (by omega)) fun p d10 hp k10=> ?_
    rw [yC0] at hp
    obtain ⟨c,rfl⟩: ∃ c:Nat,p=c:=⟨p.toNat,by omega⟩
    walk_at "own10"
    ·rw [xZv]
     exact ⟨rfl,d10,ts.take c++[t7]++ts.drop c,_,_,xQp ts t7 c,xWy hT ⟨g1,g2,g3⟩,.inl rfl,k10,rfl⟩
    ·rw [yDl,xCw,xHc,yDq,yDy,yC0]
     show _+1+_<=_
     omega
    ·rw [xCw,yDq,yC0]
     show _+1<=_
     omega
  ·exact ⟨rfl,d9,ts,s4,.un,by omega,hT,h4,k9.mono (by omega),rfl⟩
 rintro _ _ ⟨rfl,d10,ts',s4',s9,tl',hT',h4',k10,rfl⟩
 rcases h4' with rfl|rfl
 ·walk_at "own10"
  exact ⟨W',m2,ts',rfl,K2,l2,tl',hT'.mono (by omega),d10,rfl,k10.mono (by omega)⟩
 ·walk_at "own10"
  exact ⟨W',m2,ts',rfl,K2,l2,tl',hT'.mono (by omega),d10,rfl,k10.mono (by omega)⟩
end
end Lw
set_option maxHeartbeats 3990000
open L2 PySem PySem.Spec PyProof.Rows Fm
namespace Lw
open L2 PySem PySem.Spec PyProof.Rows Fm
theorem yAa {α:Type}[DecidableEq α]: ∀ {l m:List α},l.Nodup->(∀ a∈l,a∈m)->l.length<=m.length
 | [],_,_,_=>(yDs _)
 | a::l,m,nd,h=>by
  obtain ⟨n1,n2⟩:=(yDh.mp nd)
  have:=yAa (l:=l) (m:=m.erase a) n2 fun b hb=>(List.mem_erase_of_ne (fun z=>n1 (by rw [<- z];exact hb))).mpr (h b (yC8 _ hb))
  rw [List.length_erase_of_mem (h a (yC2 ..))] at this
  have:=List.length_pos_of_mem (h a (yC2 ..))
  rw [yDa]
  omega
theorem KOk.few {N:List Str}{m:List (Key×D)}(h:KOk N m):m.length<=N.length:=by
 have:=yAa (l:=m.map Prod.fst) (m:=N.map Sum.inr) h.nd fun a ha=>by
  obtain ⟨p,hp,rfl⟩:=yDi.mp ha
  obtain ⟨s,y,rfl,hs,_⟩:=h.mem p hp
  exact yDi.mpr ⟨s,hs,rfl⟩
 rw [yC0,yC0] at this
 exact this
theorem KOk.any {N:List Str}{m:List (Key×D)}(h:KOk N m)(hN:NmL N):KA 8 m:=⟨fun p hp=>by
 obtain ⟨s,y,rfl,hs,_⟩:=h.mem p hp
 exact ⟨s,y,rfl,(hN s hs).wd⟩,h.nd⟩
def kq:Nat->Nat
 | 0=>8
 | j+1=>2*kq j+8
theorem yB3: ∀ {j:Nat},j<=3->1<=kq j/\kq j<=120
 | 0,_=>by decide
 | 1,_=>by decide
 | 2,_=>by decide
 | 3,_=>by decide
 | n+4,h=>by omega
theorem TA.sok {k:Nat}{ts:List Tie}(h:TA k ts): ∀ t∈ts,PyData.strOk t.1=true/\PyData.strOk t.2.1=true/\t.2.2.length<=1000:=fun t ht=>⟨(h t ht).1.ok,(h t ht).2.1.ok,yEn (h t ht).2.2 (by decide)⟩
theorem Due.sok {W:Int}{m:List (Key×D)}{L:List Str}{ts:List Tie}{a:Str}(h:Due W m L ts a):PyData.strOk a=true:=by
 cases h with
 | tie _ _ _ _ d _=>exact d.sok
 | _=>decide +kernel
theorem Lost.sok {m:List (Key×D)}{ts:List Tie}{a:Str}(ht: ∀ t∈ts,PyData.strOk t.1=true/\PyData.strOk t.2.1=true/\t.2.2.length<=1000)(h:Lost m ts a):PyData.strOk a=true:=by
 cases h with
 | @hit i t _ e _=>
  have z:=ht t (yDn e)
  split
  ·exact z.2.1
  ·exact z.1
 | none=>decide +kernel
theorem Told.cl {x:Exn}{m:List (Key×D)}{ts:List Tie}{a:Str}(h:Told x m ts a){x0 x1 x2 x3 x4 x5 x7:SD}{p:List SD->Prop}
  (q: ∀ u,PyData.strOk u=true->(a="noknot"->Lost m ts u)->p [x0,x1,x2,x3,x4,x5,.va (.str u),.va (.str a),.un]) (hs: ∀ s,Lost m ts s->PyData.strOk s=true):
  ∃ ss ρ2,xMa x.c=some ss/\8<[x0,x1,x2,x3,x4,x5,SD.va (.str ""),x7,SD.un].length/\xKf x ss ([x0,x1,x2,x3,x4,x5,SD.va (.str ""),x7,SD.un].set 8 .un)=some ρ2/\p (ρ2.set 8 .un):=by
 obtain ⟨_,⟨rfl,s,rfl,h2⟩|⟨n,e,pe⟩⟩:=h
 ·exact ⟨_,_,rfl,Nat.lt_succ_self 8,rfl,q s (hs s h2) fun _=>h2⟩
 ·refine ⟨_,[x0,x1,x2,x3,x4,x5,SD.va (.str ""),.va (.str a),SD.un],pe,Nat.lt_succ_self 8,?_,q "" (by decide +kernel) fun h=>absurd h n⟩
  show (match x.fs.lookup ("called":Str) with|some w=>xKf x [] (([x0,x1,x2,x3,x4,x5,SD.va (.str ""),x7,SD.un].set 8 .un).set 7 (.va w))|none=>none)=_
  rw [e]
  rfl
theorem yA7 {ns:List Int}{d:D}(hd:d= .scr (ns.map D.int)\/d= .lst false (ns.map D.int)):Fw (xXy [.va d]) (fun r _=>r= .va (.bl true)) NoX:=by
 refine xA6 rfl ?_
 refine xAf ?_
 refine xAs (q:=fun f ρ=>f= .nx/\ ∃ d',ρ=[.va d,.ow d',.un,.un,.un,.un,.un,.un,.un]/\Drw 0 d') ?_ ?_
 ·walk_at "own9"
  refine xAo (xVt hd) ?_
  rintro r o ⟨D0,rfl,rfl,k0⟩
  walk_at "own9"
  exact ⟨rfl,D0,rfl,k0⟩
 rintro _ _ ⟨rfl,D0,rfl,k0⟩
 refine xAf ?_
 refine xAs (q:=fun f ρ=>f= .nx) ?_ ?_
 ·walk_at "own9"
  refine ⟨by decide,?_⟩
  refine xDw (I:=fun i ρ=>i<=4/\ ∃ d' s2 s3 s4 s5 s6 s7,ρ=[.va d,.ow d',s2,s3,s4,s5,s6,s7,.un]/\Drw (300*i) d') ?_ ⟨by omega,D0,.un,.un,.un,.un,.un,.un,rfl,k0⟩ ?_
  ·rintro i e ρ hi ⟨i4,d1,s2,s3,s4,s5,s6,s7,rfl,k1⟩
   obtain ⟨hi2,rfl⟩:=xKq hi
   have hi2:i<4:=hi2
   refine ⟨_,rfl,?_⟩
   refine xAf ?_
   refine xAs (q:=fun f ρ=>f= .nx/\ ∃ d' m ts,KA 8 m/\m.length<=4/\TA 9 ts/\ts.length<=5/\Drw (300*i+222) d'/\ρ=[.va d,.ow d',.va (.int (i:Int)),.va (.tup [.int 2,.dk false m,.lst false (ts.map dT)]),s4,s5,s6,s7,.un]) ?_ ?_
   ·walk_at "own9"
    refine xAo (xT4 (by decide) k1 (by omega)) ?_
    rintro r o ⟨L,rfl,⟨hL,hN⟩,d3,rfl,k3⟩
    walk_at "own9"
    refine xBn (xA5 k3 (by decide) (szS (by decide)) (by omega)) fun q d4 hq k4=> ?_
    walk_at "own9"
    obtain ⟨c,rfl⟩: ∃ c:Nat,q=c:=⟨q.toNat,by omega⟩
    rw [show (1:Int)+(c:Int)=((1+c:Nat):Int) by omega,xCw,<- List.map_take]
    have hN2:NmL (L.take (1+c)):=fun x hx=>hN x (yD1 hx)
    have hl2:(L.take (1+c)).length=1+c:=by
     rw [yDq,hL]
     show min _ 4=_
     omega
    refine xAo (xSy (lim:=5) (w:=2) (by decide) (by decide) hN2 (by omega) (by omega) k4 (by omega)) ?_
    rintro r o ⟨m,ts,rfl,⟨M,t5⟩,d5,rfl,k5⟩
    have:=M.knots.few
    exact ⟨rfl,d5,m,ts,M.knots.any hN2,by omega,fun t ht=>⟨((hN2 _ (M.ties.tie t ht).1.u).wd).mono (by decide),((hN2 _ (M.ties.tie t ht).1.v).wd).mono (by decide),by rw [(M.ties.tie t ht).1.len];decide⟩,t5,k5.mono (by omega),rfl⟩
   rintro _ _ ⟨rfl,d2,m,ts,K,ml,T,tl,k2,rfl⟩
   refine xAf ?_
   refine xAs (q:=fun f ρ=>f= .nx/\ ∃ d' W m ts s4,KA 120 m/\m.length<=7/\TA 121 ts/\ts.length<=8/\Drw (300*i+283) d'/\ρ=[.va d,.ow d',.va (.int (i:Int)),.va (.tup [.int W,.dk false m,.lst false (ts.map dT)]),s4,s5,s6,s7,.un]) ?_ ?_
   ·walk_at "own9"
    refine xBn (xA5 k2 (by decide) (szS (by decide)) (by omega)) fun q d3 hq k3=> ?_
    obtain ⟨c,rfl⟩: ∃ c:Nat,q=c:=⟨q.toNat,by omega⟩
    walk_at "own9"
    refine ⟨by omega,?_⟩
    refine xDw (I:=fun j ρ=>j<=c/\ ∃ d' W m ts s4,KA (kq j) m/\m.length<=4+j/\TA (kq j+1) ts/\ts.length<=5+j/\Drw (300*i+223+20*j) d'/\ρ=[.va d,.ow d',.va (.int (i:Int)),.va (.tup [.int W,.dk false m,.lst false (ts.map dT)]),s4,s5,s6,s7,.un]) ?_ ⟨by omega,d3,_,m,ts,_,K,ml,T,tl,k3,rfl⟩ ?_
    ·rintro j e ρ hj ⟨j3,d4,W,m,ts,s4,K,ml,T,tl,k4,rfl⟩
     obtain ⟨hj2,rfl⟩:=xKq hj
     have hj2:j<c:=by omega
     have hk:=yB3 (j:=j) (by omega)
     refine ⟨_,rfl,?_⟩
     walk_at "own9"
     refine xAo (xXv K hk.1 (by omega) (by omega) (by omega) T k4 (by omega)) ?_
     rintro r o ⟨W',m',ts',rfl,K',ml',tl',T',d5,rfl,k5⟩
     exact ⟨by omega,d5,W',m',ts',_,K',by omega,T',by omega,k5.mono (by omega),rfl⟩
    ·rintro ρ ⟨j3,d4,W,m,ts,s4,K,ml,T,tl,k4,rfl⟩
     have jc:(rngD 0 (c:Int).toNat).length=c:=by
      rw [yD9]
      exact (yC0 ..).trans List.length_range
     rw [jc] at K ml T tl k4
     have hk:=yB3 (j:=c) (by omega)
     exact ⟨rfl,d4,W,m,ts,s4,K.mono hk.2,by omega,T.mono (by omega),by omega,k4.mono (by omega),rfl⟩
   rintro _ _ ⟨rfl,d3,W,m,ts,s4,K,ml,T,tl,k3,rfl⟩
   obtain ⟨ks,e1,hkl,hks,_⟩:=K.keys
   refine xAf ?_
   refine xAs (q:=fun f ρ=>f= .nx/\ ∃ a,Due W m (ssort ks) ts a/\ρ=[.va d,.ow d3,.va (.int (i:Int)),.va (.tup [.int W,.dk false m,.lst false (ts.map dT)]),s4,.va (.str a),s6,s7,.un]) ?_ ?_
   ·walk_at "own9"
    refine xAo (yCi K (by decide) e1 (by omega) T.sok (by omega)) ?_
    rintro r o ⟨a,rfl,ha,rfl⟩
    exact ⟨rfl,a,ha,rfl⟩
   rintro _ _ ⟨rfl,a,ha,rfl⟩
   refine xAf ?_
   refine xAs (q:=fun f ρ=>f= .nx/\ρ=[.va d,.ow d3,.va (.int (i:Int)),.va (.tup [.int W,.dk false m,.lst false (ts.map dT)]),s4,.va (.str a),.va (.str ""),s7,.un]) ?_ ?_
   ·walk_at "own9"
    exact ⟨rfl,rfl⟩
   rintro _ _ ⟨rfl,rfl⟩
   refine xAf ?_
   refine xAs (q:=fun f ρ=>f= .nx/\ρ=[.va d,.ow d3,.va (.int (i:Int)),.va (.tup [.int W,.dk false m,.lst false (ts.map dT)]),s4,.va (.str a),.va (.str ""),.va (.str ""),.un]) ?_ ?_
   ·walk_at "own9"
    exact ⟨rfl,rfl⟩
   rintro _ _ ⟨rfl,rfl⟩
   refine xAf ?_
   refine xAs (q:=fun f ρ=>f= .nx/\ ∃ u,PyData.strOk u=true/\(a="noknot"->Lost m ts u)/\ρ=[.va d,.ow d3,.va (.int (i:Int)),.va (.tup [.int W,.dk false m,.lst false (ts.map dT)]),s4,.va (.str a),.va (.str u),.va (.str a),.un]) ?_ ?_
   ·refine yA9 ?_
    walk_at "own9"
    refine xCb (xVx K (by decide) e1 (by omega) T.sok (by omega)) ?_ ?_
    ·rintro r o ⟨⟨dd,rfl⟩,hw,kg,g⟩
     obtain rfl:=xQn hw kg g ha
     exact ⟨dd,rfl,rfl,"",by decide +kernel,fun h=>absurd h (by decide +kernel),rfl⟩
    ·intro x o hb
     exact Told.cl (xU0 hb ha) (p:=fun ρ=>Fl.nx=Fl.nx/\ ∃ u,PyData.strOk u=true/\(a="noknot"->Lost m ts u)/\ρ=[.va d,.ow d3,.va (.int (i:Int)),.va (.tup [.int W,.dk false m,.lst false (ts.map dT)]),s4,.va (.str a),.va (.str u),.va (.str a),.un]) (fun u h1 h2=>⟨rfl,u,h1,h2,rfl⟩) fun s hs=>hs.sok T.sok
   rintro _ _ ⟨rfl,u,hu,hl,rfl⟩
   have ha2:=ha.sok
   walk_at "own9"
   ·refine ⟨fun y=> ?_,fun y=> ?_⟩
    ·have hn:=of_decide_eq_true y
     walk_at "own9"
     refine xAo (xZa (by omega)) ?_
     rintro r o ⟨v,rfl,hv,rfl⟩
     obtain rfl:=hv.det (hl hn)
     walk_at "own9"
     ·exact ⟨by omega,d3,_,_,_,_,_,_,rfl,k3.mono (by omega)⟩
     all_goals exact hu
    ·refine ⟨(fun h=>nomatch h),fun _=> ?_⟩
     walk_at "own9"
     exact ⟨by omega,d3,_,_,_,_,_,_,rfl,k3.mono (by omega)⟩
   all_goals first|exact ha2|decide +kernel
  ·rintro ρ _
   exact rfl
 rintro _ _ rfl
 walk_at "own9"
 rfl
theorem truth:Truth xXy:=fun ns _ _ d hd=>by
 obtain ⟨r,o,e,h⟩:=(yA7 hd).ok
 rw [e,h]
 exact ⟨o,rfl⟩
set_option maxHeartbeats 4000007
structure EvZ where
 w:World
 K:PySem.W.Frag
 mg:Str->Option Value
 base:Heap
abbrev Pg:Program:=PySem.Challenge.rw_farmesh_k08_patterns_refused.prog
abbrev κK (w:World)(K:PySem.W.Frag):Fm.Ctx:=kx w K (xMs K) (xW4 K)
abbrev EvZ.κ (E:EvZ):Fm.Ctx:=κK E.w E.K
class Zx (E:EvZ):Prop where
 z: ∃ h,E.K.In h/\h.Ns mainGlobals E.mg/\He.SaysX faZ_ fnZ_ [] tfZ_ exZ_ E.w h E.K
 tb: ∀ p∈tfZ_.map (He.cT E.K),LamX.TabB E.base E.mg p.1 p.2
open Classical in
noncomputable def dxZ (K:PySem.W.Frag) (i:Nat):FuncData:=if e: ∃ fd,∀ d,fnZ_[i]? =some d->L2.FunD K d.name d.qual d.params d.body d.scope (d.dvs K) (d.kws K) (He.fAd K d.at_) fd then choose e else default
theorem xV3 {w:World}{K:PySem.W.Frag}{h:Heap}(c:He.SaysX faZ_ fnZ_ [] tfZ_ exZ_ w h K)(i:Nat){d:He.DefD}(e:fnZ_[i]? =some d):L2.FunD K d.name d.qual d.params d.body d.scope (d.dvs K) (d.kws K) (He.fAd K d.at_) (dxZ K i):=by
 obtain ⟨fd,F⟩:=c.t.d.def_ i e
 have q: ∃ fd,∀ d,fnZ_[i]? =some d->L2.FunD K d.name d.qual d.params d.body d.scope (d.dvs K) (d.kws K) (He.fAd K d.at_) fd:=⟨fd,fun d' e'=>by cases e.symm.trans e';exact F⟩
 unfold dxZ
 rw [dif_pos q]
 exact Classical.choose_spec q d e
def tkZ (mg:Str->Option Value)(x:Str):Tok:=match mg x with
 | some (.int _ t)=>t
 | some (.str _ t)=>t
 | _=>default
section
variable {E:EvZ}[Z:Zx E]
theorem fqZ (i:Nat){d:He.DefD}(e:fnZ_[i]? =some d):L2.FunD E.K d.name d.qual d.params d.body d.scope (d.dvs E.K) (d.kws E.K) (He.fAd E.K d.at_) (dxZ E.K i):=by
 obtain ⟨h,X,G,c⟩:=Z.z
 exact xV3 c i e
theorem faZ (i:Nat){f:He.Fa}(e:faZ_[i]? =some f):f.ok E.K=true:=by
 obtain ⟨h,X,G,c⟩:=Z.z
 exact c.t.d.fact i e
theorem glZ {x:Str}(i:Nat)(e:faZ_[i]? =some (.glo x)):E.mg x=some (.ref (He.ga E.K x)):=by
 have z:=faZ (E:=E) i e
 obtain ⟨h,X,G,c⟩:=Z.z
 exact He.glo_ok X G z
theorem frZ {x:Str}(i:Nat)(e:faZ_[i]? =some (.free x)):E.mg x=none:=by
 have z:=faZ (E:=E) i e
 obtain ⟨h,X,G,c⟩:=Z.z
 exact He.free_ok X G z
theorem giZ {x:Str}{v:Int}(i:Nat)(e:faZ_[i]? =some (.int x v)):E.mg x=some (.int v (tkZ E.mg x)):=by
 have z:=faZ (E:=E) i e
 obtain ⟨h,X,G,c⟩:=Z.z
 obtain ⟨t,q⟩:=He.int_ok X G z
 unfold tkZ
 rw [q]
theorem gsZ {x v:Str}(i:Nat)(e:faZ_[i]? =some (.str x v)):E.mg x=some (.str v (tkZ E.mg x)):=by
 have z:=faZ (E:=E) i e
 obtain ⟨h,X,G,c⟩:=Z.z
 obtain ⟨t,q⟩:=He.str_ok X G z
 unfold tkZ
 rw [q]
abbrev CaZ (E:EvZ)(i:Nat)(x:Str)(k:Nat)(ps:List Str)(f:List SD->FR):Prop:=Callee Pg E.w E.K E.mg E.base E.κ x k ps f (He.fAd E.K (x,none)) (dxZ E.K i)
abbrev MaZ (E:EvZ)(i:Nat)(c:String)(d m:Str)(k:Nat)(ps:List Str)(f:List SD->FR):Prop:=MethD Pg E.w E.K E.mg E.base E.κ c m k ps f (He.fAd E.K (d,some m)) (dxZ E.K i)
abbrev IaZ (E:EvZ)(i:Nat)(c:String)(d:Str)(k n:Nat)(ps:List Str)(f:List D->FR):Prop:=InitD Pg E.w E.K E.mg E.base E.κ c d k n ps f (He.fAd E.K (d,some "__init__")) (dxZ E.K i)
abbrev BdZ (E:EvZ)(i:Nat)(ps:List Str):Prop:=Binds E.K (dxZ E.K i) ps []
abbrev OaZ (E:EvZ)(i:Nat)(a:Str×Option Str)(k:Nat)(ps:List Str)(s:L2.Sp):Prop:=FnOk Pg E.w E.K E.mg E.base (L2N.CX Pg E.w) k (He.fAd E.K a) (dxZ E.K i) ps s
theorem mkZ {x:Str}{k:Nat}{ps:List Str}{f:List SD->FR}{t:Stmt}(i j:Nat)(e:faZ_[j]? =some (.glo x))(d:fnZ_[i]? =some (hdN x t))(o:OaZ E i (x,none) k ps (spF E.κ ps.length f)):CaZ E i x k ps f:=⟨o,glZ j e,(fqZ (E:=E) i d).kp⟩
theorem mdZ {x:Str}{k m:Nat}{A:List Nat}{N ps:List Str}{s:Fm.S}{t:Stmt}(i j:Nat)(e:faZ_[j]? =some (.glo x))(d:fnZ_[i]? =some (hdN x t))(Sc:FnScope N ps (defScope t))(hn:N.length=m)
  (b: ∀ (cdv:Value) (Ar:Around) (outer:List Env) (s0:Shared) (H:Hp) (E_:XK),Room k (Ar.deeper (envOfC x (defScope t) s0.heap.objs.size (He.fAd E.K (x,none)) cdv))->
   PSs (cxOf (L2N.CX Pg E.w) Pg E.w E.K E.mg E.base N x (defScope t) (He.fAd E.K (x,none)) cdv Ar outer s0 H E_) (defBody t) (tS E.κ A (fun cls d _ H=>E_ cls d H) s)):CaZ E i x (k+1) ps (runN A m s):=mkZ i j e d (dfZ (fqZ (E:=E) i d) Sc hn b)
theorem xJj:E.mg "KeyError"=none:=frZ 22 rfl
theorem xGm:E.mg "ValueError"=none:=frZ 23 rfl
theorem m_abs:E.mg "abs"=none:=frZ 24 rfl
theorem xVg:E.mg "all"=none:=frZ 25 rfl
theorem m_any:E.mg "any"=none:=frZ 26 rfl
theorem xWj:E.mg "dict"=none:=frZ 27 rfl
theorem xK5:E.mg "isinstance"=none:=frZ 28 rfl
theorem xF2:E.mg "len"=none:=frZ 29 rfl
theorem xRl:E.mg "list"=none:=frZ 30 rfl
theorem m_max:E.mg "max"=none:=frZ 31 rfl
theorem yA0:E.mg "min"=none:=frZ 32 rfl
theorem xGc:E.mg "range"=none:=frZ 33 rfl
theorem xC5:E.mg "sorted"=none:=frZ 34 rfl
theorem xJ1:E.mg "tuple"=none:=frZ 35 rfl
theorem xT3:E.mg "BadDye"=some (.ref (He.ga E.K "BadDye")):=glZ 36 rfl
theorem xQt:E.mg "BadName"=some (.ref (He.ga E.K "BadName")):=glZ 37 rfl
theorem xPz:E.mg "BadShift"=some (.ref (He.ga E.K "BadShift")):=glZ 38 rfl
theorem xU8:E.mg "BadTie"=some (.ref (He.ga E.K "BadTie")):=glZ 39 rfl
theorem xQv:E.mg "BadWays"=some (.ref (He.ga E.K "BadWays")):=glZ 40 rfl
theorem g_Far:E.mg "Far"=some (.ref (He.ga E.K "Far")):=glZ 41 rfl
theorem yCa:E.mg "Full"=some (.ref (He.ga E.K "Full")):=glZ 42 rfl
theorem xNf:E.mg "MeshError"=some (.ref (He.ga E.K "MeshError")):=glZ 43 rfl
theorem xTn:E.mg "Missing"=some (.ref (He.ga E.K "Missing")):=glZ 44 rfl
theorem xOb:E.mg "NoKnot"=some (.ref (He.ga E.K "NoKnot")):=glZ 45 rfl
theorem xR0:E.mg "Pattern"=some (.ref (He.ga E.K "Pattern")):=glZ 46 rfl
theorem xX9:E.mg "Twice"=some (.ref (He.ga E.K "Twice")):=glZ 47 rfl
theorem xcZ:(xZg E.K).all id=true:=by
 obtain ⟨h,X,G,c⟩:=Z.z
 exact c.more
theorem xaZ {b:Bool}(i:Nat)(e:(xZg E.K)[i]? =some b):b=true:=yDm.mp xcZ b (yDn e)
theorem xI3:E.mg "FARTHEST"=some (.int 1000000 (tkZ E.mg "FARTHEST")):=giZ 48 rfl
theorem xR3:E.mg "LETTERS"=some (.str "abcdefghijklmnopqrstuvwxyz" (tkZ E.mg "LETTERS")):=gsZ 49 rfl
theorem xSe:E.mg "LONGEST"=some (.int 8 (tkZ E.mg "LONGEST")):=giZ 50 rfl
theorem xP7:E.mg "MOST_DYE"=some (.int 9 (tkZ E.mg "MOST_DYE")):=giZ 51 rfl
theorem xMb:E.mg "MOST_KNOTS"=some (.int 12 (tkZ E.mg "MOST_KNOTS")):=giZ 52 rfl
theorem xNe:E.mg "MOST_TIES"=some (.int 24 (tkZ E.mg "MOST_TIES")):=giZ 53 rfl
theorem xMt:E.mg "MOST_WAYS"=some (.int 3 (tkZ E.mg "MOST_WAYS")):=giZ 54 rfl
theorem xAk:L2.Cls E.K (xMs E.K "Pattern"):=He.cls_ok (faZ 55 (f:= .cls "Pattern") rfl)
theorem xFg:L2.NoAttr E.K (xMs E.K "Pattern") "at":=He.noat_ok (faZ 56 (f:= .noat "Pattern" "at") rfl)
theorem xA0:L2.NoAttr E.K (xMs E.K "Pattern") "bonds":=He.noat_ok (faZ 57 (f:= .noat "Pattern" "bonds") rfl)
theorem xB0:L2.NoAttr E.K (xMs E.K "Pattern") "dyes":=He.noat_ok (faZ 58 (f:= .noat "Pattern" "dyes") rfl)
theorem xEf:L2.NoAttr E.K (xMs E.K "Pattern") "ways":=He.noat_ok (faZ 59 (f:= .noat "Pattern" "ways") rfl)
theorem xU9:TryQK E.K E.κ [⟨.ref (He.ga E.K "NoKnot" ),[(6,"name"),(7,"called")],[(true,.type "KeyError"),(true,.ref (He.ga E.K "Missing" )),(false,.type "ValueError")]⟩,⟨.ref (He.ga E.K "MeshError" ),[(7,"called")],[(true,.type "ValueError"),(false,.type "KeyError")]⟩] xMa:=xVl (κ:=E.κ) (cs:=[("BadName",[(7,"called")]),("BadDye",[(7,"called")]),("BadWays",[(7,"called")]),("Full",[(7,"called")]),("Far",[(7,"called")]),("BadTie",[(7,"called")]),("Twice",[(7,"called")]),("NoKnot",[(6,"name"),(7,"called")]),("BadShift",[(7,"called")])]) (by
  simp only [List.forall_mem_cons]
  exact ⟨(xaZ 10 rfl),(xaZ 11 rfl),(xaZ 12 rfl),(xaZ 13 rfl),(xaZ 14 rfl),(xaZ 15 rfl),(xaZ 16 rfl),(xaZ 17 rfl),(xaZ 18 rfl),fun _ z=>nomatch z⟩)
theorem xTs:BdZ E 0 ["text"]:=L2.FunD.bindsN (fqZ 0 rfl) (by walk_at "b1")
theorem xMj:BdZ E 1 ["name"]:=L2.FunD.bindsN (fqZ 1 rfl) (by walk_at "b1")
theorem xPv:BdZ E 2 ["dye"]:=L2.FunD.bindsN (fqZ 2 rfl) (by walk_at "b1")
theorem xPe:BdZ E 3 ["shift"]:=L2.FunD.bindsN (fqZ 3 rfl) (by walk_at "b1")
theorem xIb:BdZ E 4 ["self","name"]:=L2.FunD.bindsN (fqZ 4 rfl) (by walk_at "b2")
theorem xOx:BdZ E 5 ["tie"]:=L2.FunD.bindsN (fqZ 5 rfl) (by walk_at "b1")
theorem xEq:BdZ E 6 ["self","name"]:=L2.FunD.bindsN (fqZ 6 rfl) (by walk_at "b2")
theorem xEl:BdZ E 7 ["self","shift"]:=L2.FunD.bindsN (fqZ 7 rfl) (by walk_at "b2")
theorem xF5:BdZ E 8 ["self","tie"]:=L2.FunD.bindsN (fqZ 8 rfl) (by walk_at "b2")
theorem xHe:BdZ E 9 ["self"]:=L2.FunD.bindsN (fqZ 9 rfl) (by walk_at "b1")
theorem xFu:BdZ E 10 ["self","ways","knots","ties"]:=L2.FunD.bindsN (fqZ 10 rfl) (by walk_at "b4")
theorem xAl:BdZ E 11 ["_law_draw","_law_many"]:=L2.FunD.bindsN (fqZ 11 rfl) (by walk_at "b2")
theorem xLg:BdZ E 12 ["_law_script"]:=L2.FunD.bindsN (fqZ 12 rfl) (by walk_at "b1")
theorem xCr:BdZ E 13 ["_law_draw","_law_some"]:=L2.FunD.bindsN (fqZ 13 rfl) (by walk_at "b2")
theorem xEv:BdZ E 14 ["_law_draw","_law_ways","_law_limit"]:=L2.FunD.bindsN (fqZ 14 rfl) (by walk_at "b3")
theorem xFx:BdZ E 15 ["_law_shift"]:=L2.FunD.bindsN (fqZ 15 rfl) (by walk_at "b1")
theorem xCm:BdZ E 16 ["_law_tie"]:=L2.FunD.bindsN (fqZ 16 rfl) (by walk_at "b1")
theorem xPl:BdZ E 17 ["_law_ties","_law_tie"]:=L2.FunD.bindsN (fqZ 17 rfl) (by walk_at "b2")
theorem xLj:BdZ E 18 ["_law_draw","_law_ways","_law_names_here","_law_limit"]:=L2.FunD.bindsN (fqZ 18 rfl) (by walk_at "b4")
theorem xL8:BdZ E 19 ["_law_draw","_law_many"]:=L2.FunD.bindsN (fqZ 19 rfl) (by walk_at "b2")
theorem xIk:BdZ E 20 ["_law_word"]:=L2.FunD.bindsN (fqZ 20 rfl) (by walk_at "b1")
theorem xIf:BdZ E 21 ["_law_ways"]:=L2.FunD.bindsN (fqZ 21 rfl) (by walk_at "b1")
theorem xIs:BdZ E 22 ["_law_ways","_law_knots","_law_stood","_law_tie"]:=L2.FunD.bindsN (fqZ 22 rfl) (by walk_at "b4")
theorem xQb:BdZ E 23 ["_law_mesh"]:=L2.FunD.bindsN (fqZ 23 rfl) (by walk_at "b1")
theorem xH7:BdZ E 24 ["_law_draw","_law_word"]:=L2.FunD.bindsN (fqZ 24 rfl) (by walk_at "b2")
theorem xMz:BdZ E 25 ["_law_draw","_law_mesh"]:=L2.FunD.bindsN (fqZ 25 rfl) (by walk_at "b2")
theorem xNx:BdZ E 26 ["_law_mesh"]:=L2.FunD.bindsN (fqZ 26 rfl) (by walk_at "b1")
theorem xVh:ExC Pg E.w E.K E.mg E.base E.κ "BadDye" "BadDye" "called" "baddye" (He.fAd E.K ("BadDye",some "__init__")) (dxZ E.K 28):=xD1 (κ:=E.κ) (c:="BadDye") (xaZ 0 rfl) xT3 (Fm.init_ok (fqZ 28 rfl) xMn) (L2.FunD.bindsN (fqZ 28 rfl) (by walk_at "b1"))
theorem xSg:ExC Pg E.w E.K E.mg E.base E.κ "BadName" "BadName" "called" "badname" (He.fAd E.K ("BadName",some "__init__")) (dxZ E.K 29):=xD1 (κ:=E.κ) (c:="BadName") (xaZ 1 rfl) xQt (Fm.init_ok (fqZ 29 rfl) xMf) (L2.FunD.bindsN (fqZ 29 rfl) (by walk_at "b1"))
theorem xPw:ExC Pg E.w E.K E.mg E.base E.κ "BadShift" "BadShift" "called" "badshift" (He.fAd E.K ("BadShift",some "__init__")) (dxZ E.K 30):=xD1 (κ:=E.κ) (c:="BadShift") (xaZ 2 rfl) xPz (Fm.init_ok (fqZ 30 rfl) xJl) (L2.FunD.bindsN (fqZ 30 rfl) (by walk_at "b1"))
theorem xUg:ExC Pg E.w E.K E.mg E.base E.κ "BadTie" "BadTie" "called" "badtie" (He.fAd E.K ("BadTie",some "__init__")) (dxZ E.K 31):=xD1 (κ:=E.κ) (c:="BadTie") (xaZ 3 rfl) xU8 (Fm.init_ok (fqZ 31 rfl) xM3) (L2.FunD.bindsN (fqZ 31 rfl) (by walk_at "b1"))
theorem xRd:ExC Pg E.w E.K E.mg E.base E.κ "BadWays" "BadWays" "called" "badways" (He.fAd E.K ("BadWays",some "__init__")) (dxZ E.K 32):=xD1 (κ:=E.κ) (c:="BadWays") (xaZ 4 rfl) xQv (Fm.init_ok (fqZ 32 rfl) xKm) (L2.FunD.bindsN (fqZ 32 rfl) (by walk_at "b1"))
theorem X_Far:ExC Pg E.w E.K E.mg E.base E.κ "Far" "Far" "called" "far" (He.fAd E.K ("Far",some "__init__")) (dxZ E.K 33):=xD1 (κ:=E.κ) (c:="Far") (xaZ 5 rfl) g_Far (Fm.init_ok (fqZ 33 rfl) xT9) (L2.FunD.bindsN (fqZ 33 rfl) (by walk_at "b1"))
theorem xWp:ExC Pg E.w E.K E.mg E.base E.κ "Full" "Full" "called" "full" (He.fAd E.K ("Full",some "__init__")) (dxZ E.K 34):=xD1 (κ:=E.κ) (c:="Full") (xaZ 6 rfl) yCa (Fm.init_ok (fqZ 34 rfl) xQ7) (L2.FunD.bindsN (fqZ 34 rfl) (by walk_at "b1"))
theorem xVj:ExK2 Pg E.w E.K E.mg E.base E.κ "NoKnot" "NoKnot" "called" "noknot" "name" "name" (He.fAd E.K ("NoKnot",some "__init__")) (dxZ E.K 35):=xZk (κ:=E.κ) (c:="NoKnot") (xaZ 7 rfl) (of_decide_eq_true (xaZ 9 rfl)) xOb (Fm.initK_ok (fqZ 35 rfl) xNc) (L2.FunD.bindsN (fqZ 35 rfl) (by walk_at "b2"))
theorem xXs:ExC Pg E.w E.K E.mg E.base E.κ "Twice" "Twice" "called" "twice" (He.fAd E.K ("Twice",some "__init__")) (dxZ E.K 36):=xD1 (κ:=E.κ) (c:="Twice") (xaZ 8 rfl) xX9 (Fm.init_ok (fqZ 36 rfl) xPj) (L2.FunD.bindsN (fqZ 36 rfl) (by walk_at "b1"))
theorem xTh:CaZ E 0 "is_name" 1 ["text"] xFt:=mdZ 0 0 rfl rfl xF4 rfl fun _ _ _ _ _ _ hr=>by
  exact (xAq (xBp (yAp (xMo op_lt xSx op_le xHa xAb (cbZ xBb xCa xF2 (xAa (vZ 0) xAi)) (xGj (v:= .int 8) rfl xSe ⟨_,rfl⟩ (fun _ _=>rfl))) (xZ0 (xBq (cr_all rfl) xOc rfl xVg (by decide +kernel) (xAa (e_lc (A:=[]) (own:=[("sign",1)]) rfl xF4.nd (xDy rfl (vZ 0)) (blkOk_by (by kernel_rfl)) (fun _ _ _ _ _=>(gnZ xF4.nd 1)) (fun _ _ _ _ _=>xDv) (fun _ _ _ _ _=>(xVn (xL6 (xAr hr)) xKr (vZ 1) (xGj (v:= .str "abcdefghijklmnopqrstuvwxyz") rfl xR3 ⟨_,rfl⟩ (fun _ _=>rfl)) rfl))) xAi))))))
theorem xNj:CaZ E 1 "need_name" 3 ["name"] xDo:=mdZ 1 1 rfl rfl xKw rfl fun _ _ _ _ _ _ hr=>by
  exact (xAq (s_if (xPs (xRh (ccZ xTh xTs hr (xAw (vZ 0) xAn) al1))) (xAq (xDt xSg rfl (L2N.takes_of rfl rfl rfl rfl) (hr.mono (show 2<=2 from by decide)) xEu rfl)) xBv))
theorem xQf:CaZ E 2 "need_dye" 3 ["dye"] xEk:=mdZ 2 2 rfl rfl xM6 rfl fun _ _ _ _ _ _ hr=>by
  exact (xAq (s_if (xPs (xJ5 op_le xHa op_le xHa xAb (vZ 0) (xGj (v:= .int 9) rfl xP7 ⟨_,rfl⟩ (fun _ _=>rfl)))) (xAq (xDt xVh rfl (L2N.takes_of rfl rfl rfl rfl) (hr.mono (show 2<=2 from by decide)) xEu rfl)) xBv))
theorem xOh:CaZ E 3 "turned" 1 ["shift"] xGu:=mdZ 3 3 rfl rfl xHi rfl fun _ _ _ _ _ _ hr=>by
  exact (xAq (xBp (ctZ call_tuple_of xOs xJ1 (xAa (e_lc (A:=[]) (own:=[("number",1)]) rfl xHi.nd (xDy rfl (vZ 0)) (blkOk_by (by kernel_rfl)) (fun _ _ _ _ _=>(gnZ xHi.nd 1)) (fun _ _ _ _ _=>xDv) (fun _ _ _ _ _=>(e_op op_sub xL7 xAb (vZ 1)))) xAi))))
theorem xIg:MaZ E 4 "Pattern" "Pattern" "ends" 2 ["self","name"] xDf:=⟨dfZ (fqZ 4 rfl) xAz rfl fun _ _ _ _ _ _ hr=>by
  exact (xAe (xQ5 (A:=[]) (own:=[("u",3),("v",4),("shift",5)]) (i:=2) rfl xAz.nd rfl rfl rfl (xDy rfl (xLb rfl xAk xA0 (vZ 0))) (blkOk_by (by kernel_rfl)) (fun _ _ _ _ _=>(xPy (n:=3) rfl rfl (xBm (gnZ xAz.nd 3) (xBm (gnZ xAz.nd 4) (xBm (gnZ xAz.nd 5) xIy))))) (fun _ _ _ _ _=>(xWe (xBj (op_eqD hr.units) xD0 (vZ 3) (vZ 1) (nomark _)))) (fun _ _ _ _ _=>(xBz (xAa (vZ 4) (xAa (vZ 5) xAi))))) (xAq (xBp (e_op xA1 xA2 (vZ 2) (e_lc (A:=[]) (own:=[("u",3),("v",4),("shift",5)]) rfl xAz.nd (xDy rfl (xLb rfl xAk xA0 (vZ 0))) (blkOk_by (by kernel_rfl)) (fun _ _ _ _ _=>(xPy (n:=3) rfl rfl (xBm (gnZ xAz.nd 3) (xBm (gnZ xAz.nd 4) (xBm (gnZ xAz.nd 5) xIy))))) (fun _ _ _ _ _=>(xWe (xBj (op_eqD hr.units) xD0 (vZ 4) (vZ 1) (nomark _)))) (fun _ _ _ _ _=>(xBz (xAa (vZ 3) (xAa (ccZ xOh xPe hr (xAw (vZ 5) xAn) al1) xAi))))))))),xAk,He.meth_ok (faZ 60 (f:= .meth "Pattern" "ends") rfl)⟩
theorem xO3:CaZ E 5 "lesser" 2 ["tie"] xG0:=mdZ 5 4 rfl rfl xFd rfl fun _ _ _ _ _ _ hr=>by
  exact (xAe (xX6 (vs:=[1,2,3]) (vZ 0) (xPy (n:=3) rfl rfl (xBm (gnZ xFd.nd 1) (xBm (gnZ xFd.nd 2) (xBm (gnZ xFd.nd 3) xIy))))) (xAq (xBp (xBq (xPb rfl rfl (xAr hr)) xOn rfl yA0 (by decide +kernel) (xAa (xBz (xAa (vZ 1) (xAa (vZ 2) (xAa (vZ 3) xAi)))) (xAa (xBz (xAa (vZ 2) (xAa (vZ 1) (xAa (ccZ xOh xPe hr (xAw (vZ 3) xAn) al1) xAi)))) xAi))))))
theorem xEp:MaZ E 6 "Pattern" "Pattern" "need" 3 ["self","name"] xCc:=⟨dfZ (fqZ 6 rfl) xHj rfl fun _ _ _ _ _ _ hr=>by
  exact (xAq (s_if (xBj (xJn (xAr hr)) xKl (vZ 1) (xLb rfl xAk xB0 (vZ 0)) rfl) (xAq (xUi xVj rfl (L2N.takes_of rfl rfl rfl rfl) (hr.mono (show 2<=2 from by decide)) xEu rfl (vZ 1))) xBv)),xAk,He.meth_ok (faZ 61 (f:= .meth "Pattern" "need") rfl)⟩
theorem xEn:MaZ E 7 "Pattern" "Pattern" "need_shift" 3 ["self","shift"] xBt:=⟨dfZ (fqZ 7 rfl) xD9 rfl fun _ _ _ _ _ _ hr=>by
  exact (xAq (s_if (xBj (op_neD hr.units) xQd (cbZ xBb xCa xF2 (xAa (vZ 1) xAi)) (xLb rfl xAk xEf (vZ 0)) (nomark _)) (xAq (xDt xPw rfl (L2N.takes_of rfl rfl rfl rfl) (hr.mono (show 2<=2 from by decide)) xEu rfl)) xBv)),xAk,He.meth_ok (faZ 62 (f:= .meth "Pattern" "need_shift") rfl)⟩
theorem xGb:MaZ E 8 "Pattern" "Pattern" "fitting" 4 ["self","tie"] xB7:=⟨dfZ (fqZ 8 rfl) xBa rfl fun _ _ _ _ _ _ hr=>by
  exact (xAe (xG4 (xG8 xEp xEq hr (show 3<=3 from by decide) (xC6 (L2N.takes_of rfl rfl rfl rfl)) (vZ 0) (xAa (suZ hr 1 xAb) xAi) (xCi xEi) rfl)) (xAe (xG4 (xG8 xEp xEq hr (show 3<=3 from by decide) (xC6 (L2N.takes_of rfl rfl rfl rfl)) (vZ 0) (xAa (suZ hr 1 xAb) xAi) (xCi xEi) rfl)) (xAe (xG4 (xG8 xEn xEl hr (show 3<=3 from by decide) (xC6 (L2N.takes_of rfl rfl rfl rfl)) (vZ 0) (xAa (suZ hr 1 xAb) xAi) (xCi xEi) rfl)) (xAe (s_if (xRh (xBq (cr_any rfl) yAx rfl m_any (by decide +kernel) (xAa (e_lc (A:=[]) (own:=[("number",2)]) rfl xBa.nd (xDy rfl (suZ hr 1 xAb)) (blkOk_by (by kernel_rfl)) (fun _ _ _ _ _=>(gnZ xBa.nd 2)) (fun _ _ _ _ _=>xDv) (fun _ _ _ _ _=>(e_not (xMo op_le xHa op_le xHa (e_op op_sub xL7 xAb (xGj (v:= .int 1000000) rfl xI3 ⟨_,rfl⟩ (fun _ _=>rfl))) (vZ 2) (xGj (v:= .int 1000000) rfl xI3 ⟨_,rfl⟩ (fun _ _=>rfl)))))) xAi))) (xAq (xDt X_Far rfl (L2N.takes_of rfl rfl rfl rfl) (hr.mono (show 2<=3 from by decide)) xEu rfl)) xBv) (xAe (s_if (PW.pt (xPk (xBj (op_eqD hr.units) xD0 (suZ hr 1 xAb) (suZ hr 1 xAb) (nomark _)) (xJz (xRh (xBq (cr_all rfl) xOc rfl xVg (by decide +kernel) (xAa (e_lc (A:=[]) (own:=[("number",2)]) rfl xBa.nd (xDy rfl (suZ hr 1 xAb)) (blkOk_by (by kernel_rfl)) (fun _ _ _ _ _=>(gnZ xBa.nd 2)) (fun _ _ _ _ _=>xDv) (fun _ _ _ _ _=>(xVn (op_eqD hr.units) xD0 (vZ 2) xAb (nomark _)))) xAi)))))) (xAq (xDt xUg rfl (L2N.takes_of rfl rfl rfl rfl) (hr.mono (show 2<=3 from by decide)) xEu rfl)) xBv) (xAe (s_if (xBj (xL6 (xAr hr)) xKr (ccZ xO3 xOx hr (xAw (vZ 1) xAn) al1) (xLb rfl xAk xA0 (vZ 0)) rfl) (xAq (xDt xXs rfl (L2N.takes_of rfl rfl rfl rfl) (hr.mono (show 2<=3 from by decide)) xEu rfl)) xBv) (xAq (xBp (ccZ xO3 xOx hr (xAw (vZ 1) xAn) al1))))))))),xAk,He.meth_ok (faZ 63 (f:= .meth "Pattern" "fitting") rfl)⟩
theorem xHg:MaZ E 9 "Pattern" "Pattern" "names" 1 ["self"] xC2:=⟨dfZ (fqZ 9 rfl) xGr rfl fun _ _ _ _ _ _ hr=>by
  exact (xAq (xBp (xBq (xDa rfl rfl (xAr hr)) xC4 rfl xC5 (by decide +kernel) (xAa (xLb rfl xAk xB0 (vZ 0)) xAi)))),xAk,He.meth_ok (faZ 64 (f:= .meth "Pattern" "names") rfl)⟩
theorem xFm:IaZ E 10 "Pattern" "Pattern" 5 3 ["self","ways","knots","ties"] xA4:=⟨xUv (k:=4) (N:=["self","ways","knots","ties","name","tie"]) (fqZ 10 rfl) xBg rfl fun cdv Ar outer s0 H E_ hr=>by
  exact (xDu (o_op (s_if (xPs (xJ5 op_le xHa op_le xHa xAb (vZ 1) (xGj (v:= .int 3) rfl xMt ⟨_,rfl⟩ (fun _ _=>rfl)))) (xAq (xDt xRd rfl (L2N.takes_of rfl rfl rfl rfl) (hr.mono (show 2<=4 from by decide)) xEu rfl)) xBv)) (xDu (xR5 rfl xAk xEf (pv 0) (xTt (vZ 1))) (xDu (xR5 rfl xAk xB0 (pv 0) (xTt xSf)) (xDu (xZl (vs:=[4]) (passes_of rfl) rfl (xZ9 (xDy rfl (xBq (xDa rfl rfl (xAr hr)) xC4 rfl xC5 (by decide +kernel) (xAa (vZ 2) xAi)))) (gnZ xBg.nd 4) (xDu (o_op (xG4 (ccZ xNj xMj hr (xAw (vZ 4) xAn) al1))) (xDu (o_op (xG4 (ccZ xQf xPv hr (xAw (suZ hr 2 (vZ 4)) xAn) al1))) (xRn (xZz rfl (xAr hr) xAk xB0 (pv 0) (vZ 4) (xTt (suZ hr 2 (vZ 4)))))))) (xDu (o_op (s_if (xBj op_gt xPo (cbZ xBb xCa xF2 (xAa (vZ 2) xAi)) (xGj (v:= .int 12) rfl xMb ⟨_,rfl⟩ (fun _ _=>rfl)) (nomark _)) (xAq (xDt xWp rfl (L2N.takes_of rfl rfl rfl rfl) (hr.mono (show 2<=4 from by decide)) xEu rfl)) xBv)) (xDu (xR5 rfl xAk xA0 (pv 0) (xTt (xH6 xAi))) (xDu (xZl (vs:=[5]) (passes_of rfl) rfl (xZ9 (xDy rfl (vZ 3))) (gnZ xBg.nd 5) (xRn (yAg rfl xAk xA0 (pv 0) (xAa (xG8 xGb xF5 hr (show 4<=4 from by decide) (xC6 (L2N.takes_of rfl rfl rfl rfl)) (vZ 0) (xAa (vZ 5) xAi) (xCi xEi) rfl) xAi)))) (xDu (o_if (to_ln (xBj op_gt xPo (cbZ xBb xCa xF2 (xAa (xLb rfl xAk xA0 (vZ 0)) xAi)) (xGj (v:= .int 24) rfl xNe ⟨_,rfl⟩ (fun _ _=>rfl)) (nomark _))) (xRn (o_op (xDt xWp rfl (L2N.takes_of rfl rfl rfl rfl) (hr.mono (show 2<=4 from by decide)) xEu rfl))) o_nil) (xDu (xR5 rfl xAk xA0 (pv 0) (yAl (xBq (xDa rfl rfl (xAr hr)) xC4 rfl xC5 (by decide +kernel) (xAa (xLb rfl xAk xA0 (vZ 0)) xAi)))) (xDu (xR5 rfl xAk xFg (pv 0) (xTt xSf)) (xRn (xZl (vs:=[4]) (passes_of rfl) rfl (yCx rfl (xXp xHg xHe hr (show 1<=4 from by decide) (xC6 (L2N.takes_of rfl rfl rfl rfl)) (vZ 0) rfl)) (gnZ xBg.nd 4) (xRn (xZz rfl (xAr hr) xAk xFg (pv 0) (vZ 4) (yAl (xBq (xDa rfl rfl (xAr hr)) xC4 rfl xC5 (by decide +kernel) (xAa (xG8 xIg xIb hr (show 2<=4 from by decide) (xC6 (L2N.takes_of rfl rfl rfl rfl)) (vZ 0) (xAa (vZ 4) xAi) (xCi xEi) rfl) xAi))))))))))))))))),xR0,He.mkr_ok (faZ 65 (f:= .mkr "Pattern") rfl)⟩
theorem xAj:CaZ E 11 "_law_pick" 1 ["_law_draw","_law_many"] xAh:=mdZ 11 5 rfl rfl xD4 rfl fun _ _ _ _ _ _ hr=>by
  exact (xAe (s_if (PW.pt (xPk (xBj op_lt xSx (suZ hr 0 xAb) (vZ 1) (nomark _)) (xJz (xBj op_lt xSx (suZ hr 0 xAb) (cbZ xBb xCa xF2 (xAa (suZ hr 0 xAb) xAi)) (nomark _))))) (xAe (stZ xD4.nd 2 (xGq rfl (xAr hr) (suZ hr 0 xAb) (suZ hr 0 xAb) (fun _ _=>rfl))) (xAe (xEo (xAr hr) (pv 0) xAb (e_op xA1 xA2 (suZ hr 0 xAb) xAb)) (xAe (xEo (xAr hr) (pv 0) xAb xAb) (xAq (s_if (xBj op_ge yCs (vZ 2) (e_op op_pow xE1 xAb xAb) (nomark _)) (xAq (xEo (xAr hr) (pv 0) xAb (vZ 2))) (xAq (xEo (xAr hr) (pv 0) xAb (e_op op_modN xLw (e_op xA1 xA2 (suZ hr 0 xAb) (vZ 2)) xAb)))))))) xBv) (xAe (s_if (xBj op_ge yCs (suZ hr 0 xAb) (vZ 1) (nomark _)) (xAe (stZ xD4.nd 3 (e_op op_modN xLw (suZ hr 0 xAb) (vZ 1))) (xAe (xEo (xAr hr) (pv 0) xAb (e_op xTp xW3 (suZ hr 0 xAb) (vZ 1))) (xAq (xBp (xUj (pv 3)))))) xBv) (xAe (xEo (xAr hr) (pv 0) xAb (e_op xA1 xA2 (suZ hr 0 xAb) xAb)) (xAe (xEo (xAr hr) (pv 0) xAb (e_op op_modN xLw (e_op xA1 xA2 (e_op xA1 xA2 (e_op op_pow xE1 (suZ hr 0 xAb) xAb) (e_op xJk xOy xAb (suZ hr 0 xAb))) xAb) xAb)) (xAq (xBp (e_op op_modN xLw (e_op xTp xW3 (suZ hr 0 xAb) xAb) (vZ 1))))))))
theorem xLt:CaZ E 12 "_law_begin" 1 ["_law_script"] xD3:=mdZ 12 6 rfl rfl xJv rfl fun _ _ _ _ _ _ hr=>by
  exact (xAq (xBp (xH6 (xAa (ctZ call_list_of xRr xRl (xAa (xC0 rfl (vZ 0) xD2 (xEd xAb)) xAi)) (xAa xAb (xAa xAb (xAa xAb (xAa xAb xAi))))))))
theorem xCq:CaZ E 13 "_law_one" 2 ["_law_draw","_law_some"] xBl:=mdZ 13 7 rfl rfl xNw rfl fun _ _ _ _ _ _ hr=>by
  exact (xAq (xBp (xT0 rfl (xAr hr) (pv 1) (ccZ xAj xAl hr (xBu (pv 0) (xAw (cbZ xBb xCa xF2 (xAa (vZ 1) xAi)) xAn)) (xAt al1)) (fun _ _=>rfl))))
theorem xE2:CaZ E 14 "_law_numbers" 2 ["_law_draw","_law_ways","_law_limit"] xCd:=mdZ 14 8 rfl rfl xCs rfl fun _ _ _ _ _ _ hr=>by
  exact (xAq (xBp (ctZ call_tuple_of xOs xJ1 (xAa (e_lc (A:=[]) (own:=[("_law_k",3)]) rfl xCs.nd (xI1 rfl xGc (xAa (vZ 1) xAi)) (blkOk_by (by kernel_rfl)) (fun _ _ _ _ _=>(gnZ xCs.nd 3)) (fun _ _ _ _ _=>xDv) (fun _ _ _ _ _=>(e_op op_sub xL7 (ccZ xAj xAl hr (xBu (pv 0) (xAw (e_op xA1 xA2 (e_op xJk xOy xAb (vZ 2)) xAb) xAn)) (xAt al1)) (vZ 2)))) xAi))))
theorem xFn:CaZ E 15 "_law_turned" 1 ["_law_shift"] xCo:=mdZ 15 9 rfl rfl xDd rfl fun _ _ _ _ _ _ hr=>by
  exact (xAq (xBp (ctZ call_tuple_of xOs xJ1 (xAa (e_lc (A:=[]) (own:=[("_law_number",1)]) rfl xDd.nd (xDy rfl (vZ 0)) (blkOk_by (by kernel_rfl)) (fun _ _ _ _ _=>(gnZ xDd.nd 1)) (fun _ _ _ _ _=>xDv) (fun _ _ _ _ _=>(e_op op_sub xL7 xAb (vZ 1)))) xAi))))
theorem xCp:CaZ E 16 "_law_lesser" 2 ["_law_tie"] xBh:=mdZ 16 10 rfl rfl xIl rfl fun _ _ _ _ _ _ hr=>by
  exact (xAq (xBp (xBq (xPb rfl rfl (xAr hr)) xOn rfl yA0 (by decide +kernel) (xAa (xBz (xAa (suZ hr 0 xAb) (xAa (suZ hr 0 xAb) (xAa (suZ hr 0 xAb) xAi)))) (xAa (xBz (xAa (suZ hr 0 xAb) (xAa (suZ hr 0 xAb) (xAa (ccZ xFn xFx hr (xAw (suZ hr 0 xAb) xAn) al1) xAi)))) xAi)))))
theorem xPu:CaZ E 17 "_law_put" 3 ["_law_ties","_law_tie"] xEj:=mdZ 17 11 rfl rfl xE4 rfl fun _ _ _ _ _ _ hr=>by
  exact (xAe (s_if (PW.pt (w_or (PW.pt (xPk (xBj (op_eqD hr.units) xD0 (suZ hr 1 xAb) (suZ hr 1 xAb) (nomark _)) (xJz (xRh (xBq (cr_all rfl) xOc rfl xVg (by decide +kernel) (xAa (e_lc (A:=[]) (own:=[("_law_number",2)]) rfl xE4.nd (xDy rfl (suZ hr 1 xAb)) (blkOk_by (by kernel_rfl)) (fun _ _ _ _ _=>(gnZ xE4.nd 2)) (fun _ _ _ _ _=>xDv) (fun _ _ _ _ _=>(xVn (op_eqD hr.units) xD0 (vZ 2) xAb (nomark _)))) xAi)))))) (xJz (xBj (xL6 (xAr hr)) xKr (ccZ xCp xCm hr (xAw (vZ 1) xAn) al1) (vZ 0) rfl)))) (xAq (xBp (xUj (pv 0)))) xBv) (xAq (xBp (xBq (xDa rfl rfl (xAr hr)) xC4 rfl xC5 (by decide +kernel) (xAa (e_op xA1 xA2 (vZ 0) (xH6 (xAa (ccZ xCp xCm hr (xAw (vZ 1) xAn) al1) xAi))) xAi)))))
theorem xK7:CaZ E 18 "_law_loose" 4 ["_law_draw","_law_ways","_law_names_here","_law_limit"] xEe:=mdZ 18 12 rfl rfl xBi rfl fun _ _ _ _ _ _ hr=>by
  exact (xAe (stZ xBi.nd 4 xSf) (xAe (xMe (vs:=[5]) (passes_of rfl) rfl (xDy rfl (vZ 2)) (gnZ xBi.nd 5) (xAq (xEo (xAr hr) (pv 4) (vZ 5) (xGq rfl (xAr hr) (xBz (xAa xAb (xAa xAb (xAa (ccZ xAj xAl hr (xBu (pv 0) (xAw xAb xAn)) (xAt al1)) xAi)))) (ccZ xAj xAl hr (xBu (pv 0) (xAw xAb xAn)) (xAt al1)) (fun _ _=>rfl))))) (xAe (stZ xBi.nd 6 (xH6 xAi)) (xAe (xMe (vs:=[7]) (passes_of rfl) rfl (xI1 rfl xGc (xAa (ccZ xAj xAl hr (xBu (pv 0) (xAw (e_op xA1 xA2 (vZ 3) xAb) xAn)) (xAt al1)) xAi)) (gnZ xBi.nd 7) (xAe (stZ xBi.nd 8 (xGq rfl (xAr hr) (xBz (xAa xAb (xAa xAb (xAa xAb (xAa xAb (xAa (e_op op_pow xE1 xAb xAb) xAi)))))) (ccZ xAj xAl hr (xBu (pv 0) (xAw xAb xAn)) (xAt al1)) (fun _ _=>rfl))) (xAq (stZ xBi.nd 6 (ccZ xPu xPl hr (xAw (vZ 6) (xAw (xBz (xAa (ccZ xCq xCr hr (xBu (pv 0) (xAw (vZ 2) xAn)) (xAt al1)) (xAa (ccZ xCq xCr hr (xBu (pv 0) (xAw (vZ 2) xAn)) (xAt al1)) (xAa (ccZ xE2 xEv hr (xBu (pv 0) (xAw (vZ 1) (xAw (vZ 8) xAn))) (xAt al2)) xAi)))) xAn)) al2))))) (xAq (xBp (xBz (xAa (vZ 1) (xAa (vZ 4) (xAa (vZ 6) xAi))))))))))
theorem xKn:CaZ E 19 "_law_names" 3 ["_law_draw","_law_many"] xDb:=mdZ 19 13 rfl rfl xAu rfl fun _ _ _ _ _ _ hr=>by
  exact (xAe (stZ xAu.nd 2 xB9) (xAe (stZ xAu.nd 3 (yB9 rfl xB9 (e_lc (A:=[]) (own:=[("_law_k",8)]) rfl xAu.nd (xI1 rfl xGc (xAa (ccZ xAj xAl hr (xBu (pv 0) (xAw xAb xAn)) (xAt al1)) xAi)) (blkOk_by (by kernel_rfl)) (fun _ _ _ _ _=>(gnZ xAu.nd 8)) (fun _ _ _ _ _=>xDv) (fun _ _ _ _ _=>(ccZ xCq xCr hr (xBu (pv 0) (xAw (vZ 2) xAn)) (xAt al1)))))) (xAe (stZ xAu.nd 4 (ccZ xAj xAl hr (xBu (pv 0) (xAw (e_op xA1 xA2 (cbZ xBb xCa xF2 (xAa (vZ 3) xAi)) xAb) xAn)) (xAt al1))) (xAe (stZ xAu.nd 5 (ccZ xAj xAl hr (xBu (pv 0) (xAw xAb xAn)) (xAt al1))) (xAe (stZ xAu.nd 6 (xGq rfl (xAr hr) (xBz (xAa xAb (xAa xAb (xAa xAb (xAa xAb (xAa xAb (xAa xAb xAi))))))) (ccZ xAj xAl hr (xBu (pv 0) (xAw xAb xAn)) (xAt al1)) (fun _ _=>rfl))) (xAe (xQ5 (A:=[0]) (own:=[("_law_k",8)]) (i:=7) rfl xAu.nd rfl rfl rfl (xI1 rfl xGc (xAa (vZ 1) xAi)) (blkOk_by (by kernel_rfl)) (fun _ _ _ _ _=>(gnZ xAu.nd 8)) (fun _ _ _ _ _=>xDv) (fun _ _ _ _ _=>(xT0 rfl (xAr hr) (pv 2) (e_op op_modN xLw (e_op xA1 xA2 (vZ 5) (e_op xJk xOy (vZ 6) (vZ 8))) xAb) (fun _ _=>rfl)))) (xAq (xBp (e_lc (A:=[]) (own:=[("_law_sign",9)]) rfl xAu.nd (xDy rfl (vZ 7)) (blkOk_by (by kernel_rfl)) (fun _ _ _ _ _=>(gnZ xAu.nd 9)) (fun _ _ _ _ _=>xDv) (fun _ _ _ _ _=>(e_op xA1 xA2 (e_op xA1 xA2 (xC0 rfl (vZ 3) xD2 (xEd (vZ 4))) (vZ 9)) (xC0 rfl (vZ 3) (xEd (vZ 4)) xD2))))))))))))
theorem xIi:CaZ E 20 "_law_is_name" 1 ["_law_word"] xDc:=mdZ 20 14 rfl rfl xB1 rfl fun _ _ _ _ _ _ hr=>by
  exact (xAe (stZ xB1.nd 1 xB9) (xAq (xBp (yAp (xMo op_lt xSx op_lt xSx xAb (cbZ xBb xCa xF2 (xAa (vZ 0) xAi)) xAb) (xZ0 (xBq (cr_all rfl) xOc rfl xVg (by decide +kernel) (xAa (e_lc (A:=[]) (own:=[("_law_sign",2)]) rfl xB1.nd (xDy rfl (vZ 0)) (blkOk_by (by kernel_rfl)) (fun _ _ _ _ _=>(gnZ xB1.nd 2)) (fun _ _ _ _ _=>xDv) (fun _ _ _ _ _=>(xVn (xL6 (xAr hr)) xKr (vZ 2) (vZ 1) rfl))) xAi)))))))
theorem xId:CaZ E 21 "_law_noughts" 1 ["_law_ways"] xDg:=mdZ 21 15 rfl rfl xHm rfl fun _ _ _ _ _ _ hr=>by
  exact (xAq (xBp (ctZ call_tuple_of xOs xJ1 (xAa (e_op xJk xOy (xH6 (xAa xAb xAi)) (vZ 0)) xAi))))
theorem xIq:CaZ E 22 "_law_tie_due" 3 ["_law_ways","_law_knots","_law_stood","_law_tie"] xDh:=mdZ 22 16 rfl rfl xBc rfl fun _ _ _ _ _ _ hr=>by
  exact (xAe (xX6 (vs:=[4,5,6]) (vZ 3) (xPy (n:=3) rfl rfl (xBm (gnZ xBc.nd 4) (xBm (gnZ xBc.nd 5) (xBm (gnZ xBc.nd 6) xIy))))) (xAe (s_if (PW.pt (w_or (xBj (xJn (xAr hr)) xKl (vZ 4) (vZ 1) rfl) (xJz (xBj (xJn (xAr hr)) xKl (vZ 5) (vZ 1) rfl)))) (xAq (xBp xB9)) xBv) (xAe (s_if (xBj (op_neD hr.units) xQd (cbZ xBb xCa xF2 (xAa (vZ 6) xAi)) (vZ 0) (nomark _)) (xAq (xBp xB9)) xBv) (xAe (s_if (xBj op_gt xPo (xBq (cr_max rfl) xZj rfl m_max (by decide +kernel) (xAa (e_op xA1 xA2 (e_lc (A:=[]) (own:=[("_law_number",7)]) rfl xBc.nd (xDy rfl (vZ 6)) (blkOk_by (by kernel_rfl)) (fun _ _ _ _ _=>(gnZ xBc.nd 7)) (fun _ _ _ _ _=>xDv) (fun _ _ _ _ _=>(cbZ call_abs yBt m_abs (xAa (vZ 7) xAi)))) (xH6 (xAa xAb xAi))) xAi)) (e_op op_pow xE1 xAb xAb) (nomark _)) (xAq (xBp xB9)) xBv) (xAe (s_if (PW.pt (xPk (xBj (op_eqD hr.units) xD0 (vZ 4) (vZ 5) (nomark _)) (xJz (xBj (op_eqD hr.units) xD0 (vZ 6) (ccZ xId xIf hr (xAw (vZ 0) xAn) al1) (nomark _))))) (xAq (xBp xB9)) xBv) (xAq (xBp (yAy (xBj (xL6 (xAr hr)) xKr (ccZ xCp xCm hr (xAw (vZ 3) xAn) al1) (vZ 2) rfl) xB9 xB9))))))))
theorem xP2:CaZ E 23 "_law_due" 4 ["_law_mesh"] xGe:=mdZ 23 17 rfl rfl xBr rfl fun _ _ _ _ _ _ hr=>by
  exact (xAe (xX6 (vs:=[1,2,3]) (vZ 0) (xPy (n:=3) rfl rfl (xBm (gnZ xBr.nd 1) (xBm (gnZ xBr.nd 2) (xBm (gnZ xBr.nd 3) xIy))))) (xAe (s_if (xPs (xJ5 op_le xHa op_le xHa xAb (vZ 1) xAb)) (xAq (xBp xB9)) xBv) (xAe (xMe (vs:=[4]) (passes_of rfl) rfl (xDy rfl (xBq (xDa rfl rfl (xAr hr)) xC4 rfl xC5 (by decide +kernel) (xAa (vZ 2) xAi))) (gnZ xBr.nd 4) (xAe (s_if (xPs (xRh (ccZ xIi xIk hr (xAw (vZ 4) xAn) al1))) (xAq (xBp xB9)) xBv) (xAq (s_if (xPs (xJ5 op_le xHa op_le xHa xAb (suZ hr 2 (vZ 4)) xAb)) (xAq (xBp xB9)) xBv)))) (xAe (s_if (xBj op_gt xPo (cbZ xBb xCa xF2 (xAa (vZ 2) xAi)) xAb (nomark _)) (xAq (xBp xB9)) xBv) (xAe (stZ xBr.nd 5 (xH6 xAi)) (xAe (xMe (vs:=[6]) (passes_of rfl) rfl (xDy rfl (vZ 3)) (gnZ xBr.nd 6) (xAe (stZ xBr.nd 7 (xRx 5 (ccZ xIq xIs hr (xAw (vZ 1) (xAw (vZ 2) (xAw (vZ 5) (xAw (vZ 6) xAn)))) al4))) (xAe (s_if (xBj (op_neD hr.units) xQd (vZ 7) xB9 (nomark _)) (xAq (xBp (xUj (pv 7)))) xBv) (xAq (xG4 (e_app rfl (pv 5) (xAa (ccZ xCp xCm hr (xAw (vZ 6) xAn) al1) xAi))))))) (xAq (xBp (yAy (xBj op_gt xPo (cbZ xBb xCa xF2 (xAa (vZ 5) xAi)) xAb (nomark _)) xB9 xB9)))))))))
theorem xHp:CaZ E 24 "_law_odd_word" 3 ["_law_draw","_law_word"] xCt:=mdZ 24 18 rfl rfl xCk rfl fun _ _ _ _ _ _ hr=>by
  exact (xAe (stZ xCk.nd 2 (ccZ xAj xAl hr (xBu (pv 0) (xAw (e_op xA1 xA2 (cbZ xBb xCa xF2 (xAa (vZ 1) xAi)) xAb) xAn)) (xAt al1))) (xAe (stZ xCk.nd 3 (ccZ xCq xCr hr (xBu (pv 0) (xAw xB9 xAn)) (xAt al1))) (xAq (xBp (xGq rfl (xAr hr) (xBz (xAa (e_op xA1 xA2 (e_op xA1 xA2 (xC0 rfl (vZ 1) xD2 (xEd (vZ 2))) (vZ 3)) (xC0 rfl (vZ 1) (xEd (vZ 2)) xD2)) (xAa xB9 (xAa (e_op xA1 xA2 (vZ 1) xB9) (xAa (e_op xA1 xA2 (xC0 rfl (vZ 1) xD2 (xEd (vZ 2))) (xX1 (xC0 rfl (vZ 1) (xEd (vZ 2)) xD2))) xAi))))) (ccZ xAj xAl hr (xBu (pv 0) (xAw xAb xAn)) (xAt al1)) (fun _ _=>rfl))))))
theorem xNs:CaZ E 25 "_law_bent" 4 ["_law_draw","_law_mesh"] xE6:=mdZ 25 19 rfl rfl xAp rfl fun _ _ _ _ _ _ hr=>by
  exact (xAe (s_cp3 (src:=1) (i:=2) (j:=3) (l:=4) rfl rfl xAp.nd rfl (.inl rfl) rfl rfl rfl (by decide) (by decide) (by decide) rfl rfl rfl rfl xWj rfl xRl rfl rfl rfl rfl rfl) (xAe (stZ xAp.nd 5 (ccZ xAj xAl hr (xBu (pv 0) (xAw xAb xAn)) (xAt al1))) (xAe (stZ xAp.nd 6 (xGq rfl (xAr hr) (e_op xA1 xA2 (xRx 3 (xBq (xDa rfl rfl (xAr hr)) xC4 rfl xC5 (by decide +kernel) (xAa (vZ 3) xAi))) (xH6 (xAa xB9 xAi))) xAb (fun _ _=>rfl))) (xAe (stZ xAp.nd 7 (xBz (xAa (vZ 6) (xAa (ccZ xCq xCr hr (xBu (pv 0) (xAw (e_op xA1 xA2 (xRx 3 (xBq (xDa rfl rfl (xAr hr)) xC4 rfl xC5 (by decide +kernel) (xAa (vZ 3) xAi))) (xH6 (xAa (vZ 6) xAi))) xAn)) (xAt al1)) (xAa (ccZ xE2 xEv hr (xBu (pv 0) (xAw xAb (xAw xAb xAn))) (xAt al2)) xAi))))) (xAe (s_if (xBj (op_eqD hr.units) xD0 (vZ 5) xAb (nomark _)) (xAq (stZ xAp.nd 2 (xGq rfl (xAr hr) (xBz (xAa (e_un un_neg xOd xAb) (xAa xAb (xAa (e_op op_pow xE1 xAb xAb) (xAa xAb (xAa xAb xAi)))))) (ccZ xAj xAl hr (xBu (pv 0) (xAw xAb xAn)) (xAt al1)) (fun _ _=>rfl)))) xBv) (xAe (s_if (xBj (op_eqD hr.units) xD0 (vZ 5) xAb (nomark _)) (xAq (xEo (xAr hr) (pv 3) (ccZ xHp xH7 hr (xBu (pv 0) (xAw (vZ 6) xAn)) (xAt al1)) xAb)) xBv) (xAe (s_if (xBj (op_eqD hr.units) xD0 (vZ 5) xAb (nomark _)) (xAq (xEo (xAr hr) (pv 3) (vZ 6) (xGq rfl (xAr hr) (xBz (xAa (e_un un_neg xOd xAb) (xAa xAb (xAa xAb (xAa (e_op op_pow xE1 xAb xAb) xAi))))) (ccZ xAj xAl hr (xBu (pv 0) (xAw xAb xAn)) (xAt al1)) (fun _ _=>rfl)))) xBv) (xAe (s_if (xBj (op_eqD hr.units) xD0 (vZ 5) xAb (nomark _)) (xAq (stZ xAp.nd 7 (xBz (xAa (suZ hr 7 xAb) (xAa (xGq rfl (xAr hr) (xBz (xAa xB9 (xAa xB9 (xAa (e_op xA1 xA2 (vZ 6) xB9) xAi)))) (ccZ xAj xAl hr (xBu (pv 0) (xAw xAb xAn)) (xAt al1)) (fun _ _=>rfl)) (xAa (suZ hr 7 xAb) xAi)))))) xBv) (xAe (s_if (xBj (op_eqD hr.units) xD0 (vZ 5) xAb (nomark _)) (xAq (stZ xAp.nd 7 (xBz (xAa (suZ hr 7 xAb) (xAa (suZ hr 7 xAb) (xAa (xGq rfl (xAr hr) (xBz (xAa (e_op xA1 xA2 (suZ hr 7 xAb) (xBz (xAa xAb xAi))) (xAa (xC0 rfl (suZ hr 7 xAb) xD2 (xEd xAb)) (xAa (xBz xAi) xAi)))) (ccZ xAj xAl hr (xBu (pv 0) (xAw xAb xAn)) (xAt al1)) (fun _ _=>rfl)) xAi)))))) xBv) (xAe (s_if (xBj (op_eqD hr.units) xD0 (vZ 5) xAb (nomark _)) (xAe (stZ xAp.nd 8 (xGq rfl (xAr hr) (xBz (xAa (e_op op_pow xE1 xAb xAb) (xAa (e_op xA1 xA2 (e_op op_pow xE1 xAb xAb) xAb) (xAa (e_un un_neg xOd (e_op op_pow xE1 xAb xAb)) (xAa (e_op op_sub xL7 (e_un un_neg xOd (e_op op_pow xE1 xAb xAb)) xAb) xAi))))) (ccZ xAj xAl hr (xBu (pv 0) (xAw xAb xAn)) (xAt al1)) (fun _ _=>rfl))) (xAq (stZ xAp.nd 7 (xBz (xAa (suZ hr 7 xAb) (xAa (suZ hr 7 xAb) (xAa (xBz (xAa (vZ 8) (xAa (xGq rfl (xAr hr) (suZ hr 7 xAb) xAb (fun _ _=>rfl)) xAi))) xAi))))))) xBv) (xAe (s_if (xBj (op_eqD hr.units) xD0 (vZ 5) xAb (nomark _)) (xAq (stZ xAp.nd 7 (xBz (xAa (suZ hr 7 xAb) (xAa (suZ hr 7 xAb) (xAa (xBz (xAa xAb (xAa xAb xAi))) xAi)))))) xBv) (xAe (s_if (PW.pt (xPk (xBj (op_eqD hr.units) xD0 (vZ 5) xAb (nomark _)) (xJz (xBj (op_neD hr.units) xQd (vZ 4) (xH6 xAi) (nomark _))))) (xAe (stZ xAp.nd 7 (ccZ xCq xCr hr (xBu (pv 0) (xAw (vZ 4) xAn)) (xAt al1))) (xAq (stZ xAp.nd 7 (xBz (xAa (suZ hr 7 xAb) (xAa (suZ hr 7 xAb) (xAa (ccZ xFn xFx hr (xAw (suZ hr 7 xAb) xAn) al1) xAi))))))) xBv) (xAe (s_if (xBj op_gt xPo (vZ 5) xAb (nomark _)) (xAe (stZ xAp.nd 9 (ccZ xAj xAl hr (xBu (pv 0) (xAw (e_op xA1 xA2 (cbZ xBb xCa xF2 (xAa (vZ 4) xAi)) xAb) xAn)) (xAt al1))) (xAq (stZ xAp.nd 4 (e_op xA1 xA2 (e_op xA1 xA2 (xC0 rfl (vZ 4) xD2 (xEd (vZ 9))) (xH6 (xAa (vZ 7) xAi))) (xC0 rfl (vZ 4) (xEd (vZ 9)) xD2))))) xBv) (xAq (xBp (xBz (xAa (vZ 2) (xAa (vZ 3) (xAa (vZ 4) xAi)))))))))))))))))))
theorem xMl:CaZ E 26 "_law_lost" 1 ["_law_mesh"] xFb:=mdZ 26 20 rfl rfl xCh rfl fun _ _ _ _ _ _ hr=>by
  exact (xAe (xMe (vs:=[1,2,3]) (passes_of rfl) rfl (xDy rfl (suZ hr 0 xAb)) (xPy (n:=3) rfl rfl (xBm (gnZ xCh.nd 1) (xBm (gnZ xCh.nd 2) (xBm (gnZ xCh.nd 3) xIy)))) (xAq (xMe (vs:=[4]) (passes_of rfl) rfl (xDy rfl (xBz (xAa (vZ 1) (xAa (vZ 2) xAi)))) (gnZ xCh.nd 4) (xAq (s_if (xBj (xJn (xAr hr)) xKl (vZ 4) (suZ hr 0 xAb) rfl) (xAq (xBp (xUj (pv 4)))) xBv))))) (xAq (xBp xB9)))
theorem yA3:OaZ E 27 ("law",none) 7 ["_law_script"] (spF E.κ 1 xXy):=xTx (k:=6) (A:=[]) (N:=["_law_script","_law_draw","_law_turn","_law_mesh","_law_bend","_law_due_here","_law_name","_law_word","e"]) (fqZ 27 rfl) xEy fun cdv Ar outer s0 H E_ hr=>by
  exact (xAe (stZ xEy.nd 1 (ccZ xLt xLg hr (xAw (vZ 0) xAn) al1)) (xAe (xMe (vs:=[2]) (passes_of rfl) rfl (xI1 rfl xGc (xAa xAb xAi)) (gnZ xEy.nd 2) (xAe (stZ xEy.nd 3 (ccZ xK7 xLj hr (xBu (pv 1) (xAw xAb (xAw (xC0 rfl (ccZ xKn xL8 hr (xBu (pv 1) (xAw xAb xAn)) (xAt al1)) xD2 (xEd (e_op xA1 xA2 xAb (ccZ xAj xAl hr (xBu (pv 1) (xAw xAb xAn)) (xAt al1))))) (xAw xAb xAn)))) (xAt al3))) (xAe (xMe (vs:=[4]) (passes_of rfl) rfl (xI1 rfl xGc (xAa (ccZ xAj xAl hr (xBu (pv 1) (xAw xAb xAn)) (xAt al1)) xAi)) (gnZ xEy.nd 4) (xAq (stZ xEy.nd 3 (ccZ xNs xMz hr (xBu (pv 1) (xAw (vZ 3) xAn)) (xAt al1))))) (xAe (stZ xEy.nd 5 (ccZ xP2 xQb hr (xAw (vZ 3) xAn) al1)) (xAe (stZ xEy.nd 6 xB9) (xAe (stZ xEy.nd 7 xB9) (xAe (xZ7 (i:=8) xU9 (.cons ⟨rfl,by decide,.inl xOb⟩ (.two rfl rfl (by decide) rfl rfl rfl rfl rfl rfl) (.cons (.neg (isxT ⟨rfl,by decide,.inr ⟨xJj,rfl,by decide⟩⟩)) (.cons (.neg (isxR ⟨rfl,by decide,.inl xTn⟩)) (.one (isxT ⟨rfl,by decide,.inr ⟨xGm,rfl,by decide⟩⟩)))) (.cons ⟨rfl,by decide,.inl xNf⟩ (.one rfl rfl rfl rfl) (.cons (.neg (isxT ⟨rfl,by decide,.inr ⟨xGm,rfl,by decide⟩⟩)) (.one (isxT ⟨rfl,by decide,.inr ⟨xJj,rfl,by decide⟩⟩))) .nil)) rfl rfl xEy.nd (L2N.takes_of rfl rfl rfl rfl) rfl rfl rfl xK5 rfl rfl (fun W pn xe tk _=>(xAq (xG4 (yBw xFm xFu hr (show 5+1<=6 from by decide) rfl (xC6 tk) (xAa (suZ hr 3 xAb) (xAa (xOp (xO0 rfl rfl) xUy rfl xWj (by decide +kernel) (xAa (suZ hr 3 xAb) xAi)) (xAa (ctZ call_list_of xRr xRl (xAa (suZ hr 3 xAb) xAi)) xAi))) (xCi (xCi (xCi xEi)))))))) (xAq (s_if (PW.pt (w_or (xBj (op_neD hr.units) xQd (vZ 7) (vZ 5) (nomark _)) (xJz (PW.pt (xPk (xBj (op_eqD hr.units) xD0 (vZ 5) xB9 (nomark _)) (xJz (xBj (op_neD hr.units) xQd (vZ 6) (ccZ xMl xNx hr (xAw (vZ 3) xAn) al1) (nomark _)))))))) (xAq (xBp e_bl)) xBv))))))))) (xAq (xBp e_bl))))
end
theorem factsZ_ {w:World}{K:PySem.W.Frag}{h:Heap}{mg:Str->Option Value}{a:Addr}(X:K.In h)(G:h.Ns mainGlobals mg)(hfa:mg ("law":Str)=some (.ref a))(c:He.SaysX faZ_ fnZ_ [] tfZ_ exZ_ w h K):LamX.LawAtS PySem.Challenge.rw_farmesh_k08_patterns_refused w K (L2N.CX Pg w) 7 63 "_law_script" mg a h:=by
 cases hfa.symm.trans (He.glo_ok X G (c.t.d.fact 21 (f:= .glo "law") rfl))
 refine yCz (cl:=xMs K) (tabs:=xW4 K) (cs:=[]) (fun p h=>by cases h) (fun p h=>by cases h) (fun p h=>by cases h) (fun p h=>by cases h) (fun s u=>L2.FunD.bindsA (ps:=["_law_script"]) (xV3 c 27 (d:=xWd) rfl) (by walk_at "b1") s [u] rfl) truth fun base kb gb tbs=> ?_
 have Z:Zx ⟨w,K,mg,base⟩:=⟨⟨h,X,G,c⟩,fun _ z=>nomatch z⟩
 exact yA3 (E:=⟨w,K,mg,base⟩)
end Lw
open PyProof.Rows PySem PySem.W PySem.Calls
theorem PySem.Challenge.cw_farmesh_k08_patterns_refused_holds : PySem.Challenge.rw_farmesh_k08_patterns_refused.Holds := by
 refine Lw.preZ_ ?_
 refine LamX.walk_ofTsE (l:=PySem.Challenge.rw_farmesh_k08_patterns_refused) (n:=63) (k:=7) (x:="_law_script") (CX:=fun w=>L2N.CX PySem.Challenge.rw_farmesh_k08_patterns_refused.prog w) rfl (by decide) (by kernel_rfl) ⟨rfl,by decide,by decide⟩ ?F (fun w H s e s' z=>Fm.cx_no z)
 intro w mg faZ_ h Y G hmg0
 obtain ⟨K,KX,c⟩:=Y
 have hmg:mg ("law":PySem.Str)=some (PySem.Value.ref faZ_):=by
  have e:(HandSHeadRun.topDef (OpenLaw.row PySem.Challenge.rw_farmesh_k08_patterns_refused).prog 44).name=("law":PySem.Str):=by kernel_rfl
  rw [<- e]
  exact hmg0
 exact ⟨K,KX,Lw.factsZ_ KX G hmg c⟩
