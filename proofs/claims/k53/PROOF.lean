import PyProof.Rows.All
import Wide.All
import OpenK.AllK
import Wide.FinOn
import HandS.HeadHook4
import HandS.Head2
import HandS.Base
import HandS.Call
import HandS.List
import HandS.Comp
import HandS.Exc
import HandS.Words
import HandS.Lambda
import KE.KeyNested
import KE.KDictDisplayH
import HandS.Defaults
import HandS.ExcOwn
import HandS.CallSlots
import HandS.Iter
import HandS.IsInst
import HandS.Wide
import HandS.Style
import HandS.NoneIn
import HandS.TupAny
import KE.GoesEnumKw
import KE.GoesMore
import HandS.Zip
import HandS.SortKw
import HandS.Text
import HandS.WordsExc
import HandS.EndTab
import HandS.HeadWalk
import HandS.ExcInit
import HandS.ExcField
import HandS.ExcIs
import HandS.Deep
import KE.KSortKeySt
import HandS.Nested
import KE.SortData
import KE.DataMinMax
import HandS.Small
import HandS.More
import HandS.WordsDict
import HandS.RevRange
import KE.KMinKey
import PyProof.InstNe
import HandS.OwnEq
import HandS.DictComp
import HandS.Rev
import HandS.Remove
import HandS.Flow
import PyProof.DictUpdate
import HandS.FStr
import PyProof.WalkInts
import KE.KEqNest
import HandS.NamedTupGet
import HandS.Finally
import KE.KCallOwn
import PyProof.CallFns
import PyProof.Conv_bool
import HandS.Records
import PyProof.EqKinds
import KE.KUnpack
import PyProof.CollectIter
import KE.IntTextLaws
import PySem.Challenge.RW_farmesh_k53_patterns_written_and_read
set_option Elab.async false
set_option linter.all false
set_option maxRecDepth 100000
set_option maxHeartbeats 3900000
open List renaming length_map -> yK2, mem_cons_self -> yK3, getElem?_eq_some_iff -> yK5, mem_cons_of_mem -> yK7, getElem?_set_self -> yK8, length_cons -> yK9, getElem?_set_ne -> yLa, getElem?_eq_getElem -> yLb, take_of_length_le -> yLd, getElem?_map -> yLe, mem_of_getElem? -> yLf, mem_map -> yLg, replicate -> yLi, getElem?_append_left -> yLk, mem_singleton -> yLl, length_set -> yLm, length_append -> yLn, nodup_cons -> yLo, mem_cons -> yLp, map_append -> yLs, all_eq_true -> yLu, length_take -> yLv, nodup_nil -> yLw, map_cons -> yLx, map_map -> yLz, length_drop -> yL0, drop_eq_getElem_cons -> yL1, getElem?_append_right -> yL2, take_add_one -> yL4, drop_of_length_le -> yL5, length_replicate -> yL6, append_assoc -> yL7, getElem?_eq_none_iff -> yL8, append_nil -> yL9, set_set -> yMa, eq_of_mem_replicate -> yMf, getElem?_cons_succ -> yMh, nodup_append -> yMi, mem_append -> yMj, length_singleton -> yMk, take_append_drop -> yMl, take_zero -> yMm, drop_eq_nil_iff -> yMn, all_cons -> yMp, lookup -> yMq, drop_zero -> yMs, length -> yMu, map_nil -> yMx, ext_getElem? -> yMy, size_toArray -> yMz, not_mem_nil -> yM0, getElem?_take_of_lt -> yM2, getElem?_replicate -> yM3, Perm -> yM5, set_cons_zero -> yM6, any_cons -> yM9
open Option renaming map_eq_some_iff -> yK4, some -> yLh, bind_eq_some_iff -> yLj, isSome_iff_exists -> yMe
open Classical renaming byContradiction -> yK6
open Bool renaming and_eq_true -> yLc, noConfusion -> yLr, not_eq_true' -> yL3, false_ne_true -> yMd, and_eq_true_iff -> yMo, or_eq_true_iff -> yM1, false_eq_true -> yM7
open Nat renaming le_refl -> yLq, le_trans -> yLt, zero_le -> yLy, min_eq_left -> yMc, min_eq_right -> yMg, le_succ -> yMv, ne_of_lt -> yMw, lt_of_lt_of_le -> yM4
open Int renaming toNat_natCast -> yMb, negSucc -> yMr, fmod_nonneg_of_pos -> yMt, fmod_lt_of_pos -> yM8
namespace Hk
open PySem PySem.Spec PyProof.Rows L2 He
def outs:Option Obj->List Addr
 | some ⟨_,_,.func fd,_⟩=>refV fd.code++(refV fd.defaults++refV fd.kwdefaults)
 | some ⟨_,_,.cls cd,_⟩=>cd.ns::cd.mro.flatMap refV
 | _=>[]
def vals:Option Obj->List Addr
 | some ⟨_,_,.dict es _,_⟩=>es.toList.flatMap fun e=>refV e.val
 | _=>[]
def one (g:Addr->Option Obj):List Addr:=vals (g mainGlobals)
def two (g:Addr->Option Obj):List Addr:=(one g).flatMap fun a=>outs (g a)
def three (g:Addr->Option Obj):List Addr:=(two g).flatMap fun a=>vals (g a)
def four (g:Addr->Option Obj):List Addr:=(three g).flatMap fun a=>outs (g a)
def names (g:Addr->Option Obj):List Addr:=mainGlobals::(one g++(two g++(three g++four g)))
abbrev frag (g:Addr->Option Obj):PySem.W.Frag:=frT g (names g)
def look (fa:List Fa)(fn:List DefD)(tf:List Defn)(ex:PySem.W.Frag->Bool)(g:Addr->Option Obj):AlX:=
 ((obsD fa fn (frag g),[]),ex (frag g)&&tabsB g tf (frag g))
theorem said {fa:List Fa}{fn:List DefD}{tf:List Defn}{ex:PySem.W.Frag->Bool}{w:World}{h:Heap}(e:look fa fn tf ex h.get? =valX fn [] w):SaysX fa fn [] tf ex w h (frag h.get?):=by
 have e1:(obsD fa fn (frag h.get?),([]:List (Option (List (Option (Str×Int))))))=(valD fn,[]):=(Prod.mk.inj e).1
 obtain ⟨h1,h2⟩:=ba (Prod.mk.inj e).2
 have each: ∀ p∈tf,PySem.W.codeHdIn (frag h.get?) (cT (frag h.get?) p).1 (cT (frag h.get?) p).2=true/\ ∃ o,h.get? (cT (frag h.get?) p).2=some o/\emptyTab o=true:=by
  intro p hp
  have both:=ba (yLu.mp h2 p hp)
  obtain ⟨h3,h4⟩:=both
  revert h4
  cases q:h.get? (cT (frag h.get?) p).2 with
  | none=>exact fun h4=>by cases h4
  | some o=>exact fun h4=>⟨h3,o,rfl,h4⟩
 refine ⟨e1,h1,fun p hp=>(each p hp).1,fun p hp=> ?_,fun p hp=> ?_⟩
 ·obtain ⟨_,o,q,z⟩:=each p hp
  exact frT_none q z
 ·obtain ⟨_,o,q,z⟩:=each p hp
  rw [q,emptyTab_eq z]
def hook (fa:List Fa)(fn:List DefD)(tf:List Defn)(ex:PySem.W.Frag->Bool):PySem.W.Hook where
 α:=AlX
 obs:=fun s=>look fa fn tf ex s.heap.get?
 val:=fun w=>valX fn [] w
 says:=fun w h=> ∃ K:PySem.W.Frag,K.In h/\SaysX fa fn [] tf ex w h K
 of:=fun _ _ e=>⟨_,frT_in,said e⟩
 keeps:=fun _ _ _ ⟨K,i,c⟩ k=>⟨K,PySem.W.Frag.In.keeps i k,⟨c.t,c.more,c.hd,c.out,fun p hp=>k _ _ (c.empty p hp)⟩⟩
theorem look_eq {fa:List Fa}{fn:List DefD}{tf:List Defn}{ex:PySem.W.Frag->Bool}(s:PySem.W.SharedT):look fa fn tf ex (HandSHeadRun.getT s)=(hook fa fn tf ex).obs s.abs:=by
 have e:HandSHeadRun.getT s=s.abs.heap.get? :=funext (HandSHeadRun.getT_eq s)
 show look fa fn tf ex (HandSHeadRun.getT s)=look fa fn tf ex s.abs.heap.get?
 rw [e]
end Hk
namespace HandSHeadRun
open PySem.W PySem.Calls PyProof.Rows PySem
def RunP {β:Type}(r:OpenRow)(M:Nat)(f:SharedT->β)(v:β)(w:World):Prop:=
 ∀ os:OsState,(endF (stepQ (denQ tabQ) r.prog w) M r.prog w os).map f=some v
noncomputable abbrev runA (r:OpenRow) (q:Program) (loose:List PySem.Str) (w:World) (s:SharedT):=
 (looksF r.prog (boot_heap w.params) s.abs,seenQ q loose (importedModules r.prog.main.body) (fun s=>xlAt q [] s&&recOk r.toRowW.records s) s.abs)
end HandSHeadRun
namespace Hk
open PySem PySem.Spec PyProof.Rows L2 He HandSHeadRun PySem.W
abbrev K (s:PySem.W.SharedT):PySem.W.Frag:=frag (getT s)
abbrev pF (fa:List Fa)(s:PySem.W.SharedT):Bool:=fa.all fun f=>f.ok (K s)
abbrev pX (tf:List Defn)(ex:PySem.W.Frag->Bool)(s:PySem.W.SharedT):Bool:=ex (K s)&&tabsB (getT s) tf (K s)
abbrev pN (fn:List DefD)(s:PySem.W.SharedT):AlD:=(fn.all fun d=>d.ok (K s),fn.map fun d=>fnW (K s) d.at_)
theorem run_of {r:PySem.W.OpenRow}{q:Program}{loose:List PySem.Str}{M:Nat}{fa:List Fa}{fn:List DefD}{tf:List Defn}{ex:PySem.W.Frag->Bool}{w:World}
  (h0:RunP r M (runA r q loose w) (true,PySem.W.openGood q loose) w) (h1:RunP r M (fun s=>pF fa s&&pX tf ex s) true w) (h2:RunP r M (pN fn) (valD fn) w):
  RunEq r q (hook fa fn tf ex) (fun s=>look fa fn tf ex (getT s)) M loose w:=by
 intro os
 cases e:endF (stepQ (denQ tabQ) r.prog w) M r.prog w os with
 | none=>
  have z:=h0 os
  rw [e] at z
  cases z
 | some s=>
  have z0:=h0 os
  have z1:=h1 os
  have z2:=h2 os
  rw [e] at z0 z1 z2
  have z0:=yLh.inj z0
  have z1:=yLh.inj z1
  have z2:=yLh.inj z2
  obtain ⟨a1,a2⟩:=ba z1
  show some (_,_,((((fa.all fun f=>f.ok (K s))&&fn.all fun d=>d.ok (K s),fn.map fun d=>fnW (K s) d.at_),_),_))=_
  have b0:=congrArg Prod.fst z0
  have b1:=congrArg Prod.snd z0
  have c0:=congrArg Prod.fst z2
  have c1:=congrArg Prod.snd z2
  have a1:(fa.all fun f=>f.ok (K s))=true:=a1
  have a2:(ex (K s)&&tabsB (getT s) tf (K s))=true:=a2
  have c0:(fn.all fun d=>d.ok (K s))=true:=c0
  have c1:(fn.map fun d=>fnW (K s) d.at_)=fn.map DefD.val:=c1
  have b0:looksF r.prog (boot_heap w.params) s.abs=true:=b0
  show some (looksF r.prog (boot_heap w.params) s.abs,_,((((fa.all fun f=>f.ok (K s))&&fn.all fun d=>d.ok (K s),fn.map fun d=>fnW (K s) d.at_),_),(ex (K s)&&tabsB (getT s) tf (K s))))=_
  rw [a1,a2,c0,c1,b0]
  exact congrArg (fun y=>some (true,y,((true,fn.map DefD.val),[]),true)) b1
end Hk
namespace Fm
open L2 PySem PySem.Spec PyProof.Rows
def xTl (C:Addr)(o:Obj):Bool:=match o with
 | ⟨.type m,_,.cls cd,⟨[_,_,_,_,some (.builtin n),_]⟩⟩=>m=="type"&&(n=="ValueError.__new__"&&(cd.hasDict&&(!cd.hasDel&&(match cd.mro with
  | .ref D::bm=>D==C&&PySem.HandSPX.refsVE bm
  | _=>false))))
 | _=>false
def oexB (K:PySem.W.Frag)(C:Addr):Bool:=(K.lookup C).any (xTl C)&&(decide (PySem.W.findIn K (.ref C) "__setattr__"=some (some (.builtin "object.__setattr__")))&&(decide (PySem.W.subIn K (.ref C) (.type "BaseException")=some true)&&
 (decide (PySem.W.typeIn K (.ref C)=some (.type "type"))&&PySem.W.keepIn K (.ref C))))
def excB (K:PySem.W.Frag)(C fI:Addr)(f:Str):Bool:=oexB K C&&(decide (PySem.W.findIn K (.ref C) f=some none)&&(decide (PySem.W.findIn K (.ref C) "__init__"=some (some (.ref fI)))&&decide (PySem.W.typeIn K (.ref fI)=some (.type "function"))))
def catB (K:PySem.W.Frag)(CM CK C:Addr)(f:Str):Bool:=(match PySem.W.exmOne K (.ref C) (.ref CM) with
 | some true=>true
 | some false=>decide (PySem.W.exmOne K (.ref C) (.ref CK)=some true)
 | none=>false)&&(xfB K C&&decide (PySem.W.findIn K (.ref C) f=some none))
def xAs:Stmt->List Stmt
 | .ClassDef _ _ _ b _ _ _ _ _ _ _=>b
 | _=>[]
def cat1B (K:PySem.W.Frag)(CM C:Addr)(f:Str):Bool:=decide (PySem.W.exmOne K (.ref C) (.ref CM)=some true)&&(xfB K C&&decide (PySem.W.findIn K (.ref C) f=some none))
abbrev xPv:List Value:=[.type "KeyError",.type "LookupError",.type "Exception",.type "BaseException",.type "object"]
def xCw:List Value->Bool
 | .ref _::m=>xCw m
 | m=>m==xPv
def xSu (C:Addr)(o:Obj):Bool:=match o with
 | ⟨.type m,_,.cls cd,⟨[_,_,_,_,some (.builtin n),_]⟩⟩=>m=="type"&&(n=="LookupError.__new__"&&(cd.hasDict&&(!cd.hasDel&&(match cd.mro with
  | .ref D::bm=>D==C&&xCw bm
  | _=>false))))
 | _=>false
def yKm (K:PySem.W.Frag)(C:Addr):Bool:=(K.lookup C).any (xSu C)&&(decide (PySem.W.findIn K (.ref C) "__setattr__"=some (some (.builtin "object.__setattr__")))&&(decide (PySem.W.subIn K (.ref C) (.type "BaseException")=some true)&&
 (decide (PySem.W.typeIn K (.ref C)=some (.type "type"))&&PySem.W.keepIn K (.ref C))))
def exKB (K:PySem.W.Frag)(C fI:Addr)(f:Str):Bool:=yKm K C&&(decide (PySem.W.findIn K (.ref C) f=some none)&&(decide (PySem.W.findIn K (.ref C) "__init__"=some (some (.ref fI)))&&decide (PySem.W.typeIn K (.ref fI)=some (.type "function"))))
inductive Pt where
 | fld (f:Str)
 | neg (k:Int)
deriving DecidableEq
abbrev Cp:=Addr×Pt×Pt
def yG9 (K:PySem.W.Frag)(cls:Value):List Cp->Option (Pt×Pt)
 | []=>none
 | q::r=>match PySem.W.exmOne K cls (.ref q.1) with
  | some true=>some q.2
  | some false=>yG9 K cls r
  | none=>none
def ptF (K:PySem.W.Frag)(C:Addr):Pt->Bool
 | .fld f=>xfB K C&&decide (PySem.W.findIn K (.ref C) f=some none)
 | .neg _=>true
def tryPB (K:PySem.W.Frag)(l:List Cp)(C:Addr)(w:Pt×Pt):Bool:=decide (yG9 K (.ref C) l=some w)&&(ptF K C w.1&&ptF K C w.2)
def insB (K:PySem.W.Frag)(C:Addr):Bool:=(decide (PySem.W.findIn K (.ref C) "__class__"=some (some (.builtin "object.__class__")))&&decide (PySem.W.specialIn K (.builtin "object.__class__") "__get__"=some (some (.builtin "getset_descriptor.__get__"))))&&
 ((decide (PySem.W.takesIn K (.builtin "object.__class__")=some true)&&decide (PySem.W.mroIn K C (.type "object")=some true))&&
 (decide (PySem.W.kitOne K (.ref C) (.ref C)=some true)&&["NoneType","bool","int","str","tuple","list","dict"].all fun t=>decide (PySem.W.kitOne K (.type t) (.ref C)=some false)))
def lostB (K:PySem.W.Frag)(CM CK:Addr)(C:Addr)(f:Str)(b:Bool):Bool:=decide (PySem.W.exmOne K (.ref C) (.ref CM)=some b)&&(b || (decide (PySem.W.exmOne K (.ref C) (.ref CK)=some true)&&(xfB K C&&decide (PySem.W.findIn K (.ref C) f=some none))))
def offB (K:PySem.W.Frag)(C:Addr):Bool:=["str","int","tuple"].all fun t=>decide (PySem.W.mroIn K C (.type t)=some false)
end Fm
namespace Lw
open L2 PySem PySem.Spec PyProof.Rows Fm
def top (i:Nat):Stmt:=PySem.Challenge.pw_farmesh_k53_patterns_written_and_read.main.body.getD i (.Pass ⟨0,0,0,0⟩)
abbrev xKf:Stmt:=(xAs (top 5)).getD 0 (.Pass ⟨0,0,0,0⟩)
abbrev xLz:Stmt:=(xAs (top 6)).getD 0 (.Pass ⟨0,0,0,0⟩)
abbrev xKi:Stmt:=(xAs (top 4)).getD 0 (.Pass ⟨0,0,0,0⟩)
abbrev xSh:Stmt:=(xAs (top 11)).getD 0 (.Pass ⟨0,0,0,0⟩)
abbrev xXq:Stmt:=(xAs (top 8)).getD 0 (.Pass ⟨0,0,0,0⟩)
abbrev xLm:Stmt:=(xAs (top 9)).getD 0 (.Pass ⟨0,0,0,0⟩)
abbrev xOu:Stmt:=(xAs (top 10)).getD 0 (.Pass ⟨0,0,0,0⟩)
abbrev xLt:Stmt:=(xAs (top 13)).getD 0 (.Pass ⟨0,0,0,0⟩)
abbrev xIv:Stmt:=(xAs (top 7)).getD 0 (.Pass ⟨0,0,0,0⟩)
abbrev xJn:Stmt:=(xAs (top 12)).getD 0 (.Pass ⟨0,0,0,0⟩)
abbrev xE2:Stmt:=(xAs (top 27)).getD 3 (.Pass ⟨0,0,0,0⟩)
abbrev xP2:Stmt:=top 22
abbrev xJ3:Stmt:=top 25
abbrev xLo:Stmt:=top 26
abbrev xS8:Stmt:=top 23
abbrev xFy:Stmt:=(xAs (top 27)).getD 2 (.Pass ⟨0,0,0,0⟩)
abbrev xSa:Stmt:=top 24
abbrev xF3:Stmt:=(xAs (top 27)).getD 10 (.Pass ⟨0,0,0,0⟩)
abbrev xDg:Stmt:=(xAs (top 27)).getD 11 (.Pass ⟨0,0,0,0⟩)
abbrev xEg:Stmt:=(xAs (top 27)).getD 1 (.Pass ⟨0,0,0,0⟩)
abbrev xFe:Stmt:=(xAs (top 27)).getD 8 (.Pass ⟨0,0,0,0⟩)
abbrev xD5:Stmt:=(xAs (top 27)).getD 0 (.Pass ⟨0,0,0,0⟩)
abbrev xF0:Stmt:=(xAs (top 27)).getD 5 (.Pass ⟨0,0,0,0⟩)
abbrev xEj:Stmt:=(xAs (top 27)).getD 6 (.Pass ⟨0,0,0,0⟩)
abbrev yBx:Stmt:=top 31
abbrev xEt:Stmt:=top 32
abbrev xYj:Stmt:=top 36
abbrev xEm:Stmt:=(xAs (top 37)).getD 0 (.Pass ⟨0,0,0,0⟩)
abbrev xIu:Stmt:=top 33
abbrev xR2:Stmt:=top 34
abbrev xPj:Stmt:=top 35
abbrev xHd:Stmt:=(xAs (top 37)).getD 1 (.Pass ⟨0,0,0,0⟩)
abbrev yCl:Stmt:=top 38
abbrev xJx:Stmt:=top 40
abbrev xIq:Stmt:=top 41
abbrev xG9:Stmt:=top 42
abbrev xGo:Stmt:=top 43
abbrev xL3:Stmt:=top 44
abbrev xLy:Stmt:=top 45
abbrev xF2:Stmt:=top 46
abbrev xIh:Stmt:=top 47
abbrev xIc:Stmt:=top 48
abbrev xJk:Stmt:=top 49
abbrev xJq:Stmt:=top 50
abbrev xJ8:Stmt:=top 51
abbrev xG5:Stmt:=(xAs (top 27)).getD 13 (.Pass ⟨0,0,0,0⟩)
abbrev xFz:Stmt:=(xAs (top 27)).getD 9 (.Pass ⟨0,0,0,0⟩)
abbrev xJ6:Stmt:=top 52
abbrev xEl:Stmt:=top 53
abbrev xId:Stmt:=top 54
abbrev yKn:Stmt:=top 55
abbrev hdN (n:Str)(t:Stmt):He.DefD:=⟨(n,none),n,n,defArgs t,defBody t,defScope t,[],[]⟩
abbrev hdM (c m q:Str)(t:Stmt):He.DefD:=⟨(c,some m),m,q,defArgs t,defBody t,defScope t,[],[]⟩
def xH2:He.DefD:=hdM "Pattern" "__eq__" "Pattern.__eq__" xE2
def xUo:He.DefD:=hdN "is_name" xP2
def xP3:He.DefD:=hdN "need_name" xJ3
def xRy:He.DefD:=hdN "need_dye" xLo
def xXv:He.DefD:=hdN "turned" xS8
def xKa:He.DefD:=hdM "Pattern" "ends" "Pattern.ends" xFy
def xWv:He.DefD:=hdN "lesser" xSa
def xJ0:He.DefD:=hdM "Pattern" "need" "Pattern.need" xF3
def xFo:He.DefD:=hdM "Pattern" "need_shift" "Pattern.need_shift" xDg
def xGq:He.DefD:=hdM "Pattern" "fitting" "Pattern.fitting" xEg
def xI1:He.DefD:=hdM "Pattern" "names" "Pattern.names" xFe
def xGj:He.DefD:=hdM "Pattern" "__init__" "Pattern.__init__" xD5
def xJl:He.DefD:=hdM "Pattern" "rows" "Pattern.rows" xF0
def xGp:He.DefD:=hdM "Pattern" "__str__" "Pattern.__str__" xEj
def yFb:He.DefD:=hdN "text" yBx
def xIt:He.DefD:=⟨("number_in",none),"number_in","number_in",defArgs xEt,defBody xEt,defScope xEt,[],[("figures",.int 7)]⟩
def yBt:He.DefD:=hdN "built" xYj
def xGv:He.DefD:=hdM "Reader" "__init__" "Reader.__init__" xEm
def xNm:He.DefD:=hdN "numbers_in" xIu
def xXd:He.DefD:=hdN "tie_in" xR2
def xUp:He.DefD:=hdN "knot_in" xPj
def xK3:He.DefD:=hdM "Reader" "take" "Reader.take" xHd
def yFi:He.DefD:=hdN "read" yCl
def xOm:He.DefD:=hdN "_law_pick" xJx
def xMw:He.DefD:=hdN "_law_begin" xIq
def xLg:He.DefD:=hdN "_law_turned" xG9
def xK6:He.DefD:=hdN "_law_lesser" xGo
def xRf:He.DefD:=hdN "_law_put" xL3
def xR0:He.DefD:=hdN "_law_one" xLy
def xKl:He.DefD:=hdN "_law_numbers" xF2
def xNf:He.DefD:=hdN "_law_loose" xIh
def xMa:He.DefD:=hdN "_law_names" xIc
def xP4:He.DefD:=hdN "_law_made" xJk
def xPp:He.DefD:=hdN "_law_rows" xJq
def xOl:He.DefD:=hdN "_law_same" xJ8
def xKt:He.DefD:=hdM "Pattern" "dye" "Pattern.dye" xG5
def xKm:He.DefD:=hdM "Pattern" "ties" "Pattern.ties" xFz
def xPc:He.DefD:=hdN "_law_seen" xJ6
def xG6:He.DefD:=hdN "_law_turned_row" xEl
def xMf:He.DefD:=hdN "_law_mixed" xId
def yDm:He.DefD:=hdN "law" yKn
def xRd:He.DefD:=hdM "BadDye" "__init__" "BadDye.__init__" xLz
def xPn:He.DefD:=hdM "BadName" "__init__" "BadName.__init__" xKf
def xMm:He.DefD:=hdM "BadShift" "__init__" "BadShift.__init__" xIv
def xPk:He.DefD:=hdM "BadText" "__init__" "BadText.__init__" xJn
def xQ1:He.DefD:=hdM "BadTie" "__init__" "BadTie.__init__" xLm
def xNs:He.DefD:=hdM "BadWays" "__init__" "BadWays.__init__" xKi
def xZ2:He.DefD:=hdM "Far" "__init__" "Far.__init__" xXq
def xV0:He.DefD:=hdM "Full" "__init__" "Full.__init__" xSh
def xQq:He.DefD:=hdM "NoKnot" "__init__" "NoKnot.__init__" xLt
def xUc:He.DefD:=hdM "Twice" "__init__" "Twice.__init__" xOu
def fnZ_:List He.DefD:=[xH2,xUo,xP3,xRy,xXv,xKa,xWv,xJ0,xFo,xGq,xI1,xGj,xJl,xGp,yFb,xIt,yBt,xGv,xNm,xXd,xUp,xK3,yFi,xOm,xMw,xLg,xK6,xRf,xR0,xKl,xNf,xMa,xP4,xPp,xOl,xKt,xKm,xPc,xG6,xMf,yDm,xRd,xPn,xMm,xPk,xQ1,xNs,xZ2,xV0,xQq,xUc]
def xHh (K:PySem.W.Frag):String->Addr:=fun c=>He.ga K (Str.ofString c)
def yDh (K:PySem.W.Frag):List (Addr×Str):=[]
abbrev tfZ_:List He.Defn:=[]
def faZ_:List He.Fa:=[.glo "is_name",.glo "need_name",.glo "need_dye",.glo "turned",.glo "lesser",.glo "text",.glo "number_in",.glo "built",.glo "numbers_in",.glo "tie_in",.glo "knot_in",.glo "read",.glo "_law_pick",.glo "_law_begin",.glo "_law_turned",.glo "_law_lesser",.glo "_law_put",.glo "_law_one",.glo "_law_numbers",.glo "_law_loose",.glo "_law_names",.glo "_law_made",.glo "_law_rows",.glo "_law_same",.glo "_law_seen",.glo "_law_turned_row",.glo "_law_mixed",.glo "law",.free "all",.free "any",.free "bool",.free "dict",.free "enumerate",.free "int",.free "isinstance",.free "len",.free "list",.free "min",.free "range",.free "sorted",.free "str",.free "tuple",.glo "BadDye",.glo "BadName",.glo "BadShift",.glo "BadText",.glo "BadTie",.glo "BadWays",.glo "Far",.glo "Full",.glo "MeshError",.glo "Missing",.glo "NoKnot",.glo "Pattern",.glo "Reader",.glo "Twice",.int "FARTHEST" 1000000,.str "FIGURES" "0123456789",.str "LETTERS" "abcdefghijklmnopqrstuvwxyz",.int "LONGEST" 8,.int "MOST_DYE" 9,.int "MOST_KNOTS" 12,.int "MOST_TIES" 24,.int "MOST_WAYS" 3,.cls "Pattern",.cls "Reader",.noat "Pattern" "at",.noat "Pattern" "bonds",.noat "Pattern" "dyes",.noat "Pattern" "ways",.noat "Reader" "bonds",.noat "Reader" "knots",.noat "Reader" "so_far",.noat "Reader" "ways",.meth "Pattern" "__eq__",.meth "Pattern" "ends",.meth "Pattern" "need",.meth "Pattern" "need_shift",.meth "Pattern" "fitting",.meth "Pattern" "names",.meth "Pattern" "rows",.meth "Pattern" "__str__",.meth "Reader" "take",.meth "Pattern" "dye",.meth "Pattern" "ties",.mkr "Pattern",.mkr "Reader"]
def yF0 (K:PySem.W.Frag):List Bool:=[excB K (He.ga K "BadDye") (He.fAd K ("BadDye",some "__init__")) "called",excB K (He.ga K "BadName") (He.fAd K ("BadName",some "__init__")) "called",excB K (He.ga K "BadShift") (He.fAd K ("BadShift",some "__init__")) "called",excB K (He.ga K "BadText") (He.fAd K ("BadText",some "__init__")) "called",excB K (He.ga K "BadTie") (He.fAd K ("BadTie",some "__init__")) "called",excB K (He.ga K "BadWays") (He.fAd K ("BadWays",some "__init__")) "called",excB K (He.ga K "Far") (He.fAd K ("Far",some "__init__")) "called",excB K (He.ga K "Full") (He.fAd K ("Full",some "__init__")) "called",exKB K (He.ga K "NoKnot") (He.fAd K ("NoKnot",some "__init__")) "called",excB K (He.ga K "Twice") (He.fAd K ("Twice",some "__init__")) "called",decide (PySem.W.findIn K (.ref (He.ga K "BadText")) "row"=some none),decide (PySem.W.findIn K (.ref (He.ga K "NoKnot")) "name"=some none),insB K (He.ga K "Pattern"),decide (PySem.W.findIn K (.ref (He.ga K "Pattern")) "__ne__"=some (some (.builtin "object.__ne__")))]
def exZ_ (K:PySem.W.Frag):Bool:=(yF0 K).all id
def looseZ_:List Str:=(["_wall","MeshError","Missing","BadWays","BadName","BadDye","BadShift","Far","BadTie","Twice","Full","BadText","NoKnot","MOST_WAYS","MOST_KNOTS","MOST_TIES","MOST_DYE","FARTHEST","LONGEST","LETTERS","is_name","turned","lesser","need_name","need_dye","Pattern","MOST_FIGURES","FIGURES","text","number_in"]:List Str)++(["numbers_in","tie_in","knot_in","built","Reader","read","_law_pick","_law_begin","_law_turned","_law_lesser","_law_put","_law_one","_law_numbers","_law_loose","_law_names","_law_made","_law_rows","_law_same","_law_seen","_law_turned_row","_law_mixed"]:List Str)
abbrev RZ_:PySem.W.OpenRow:=PySem.W.OpenLaw.row PySem.Challenge.rw_farmesh_k53_patterns_written_and_read
abbrev hkZ_:PySem.W.Hook:=Hk.hook faZ_ fnZ_ tfZ_ exZ_
def obZ_ (s:PySem.W.SharedT):He.AlX:=Hk.look faZ_ fnZ_ tfZ_ exZ_ (HandSHeadRun.getT s)
theorem ob_eqZ_ (s:PySem.W.SharedT):obZ_ s=hkZ_.obs s.abs:=Hk.look_eq s
theorem yH1 (w:World):HandSHeadRun.RunP RZ_ 12000 (HandSHeadRun.runA RZ_ (PySem.W.view RZ_.prog [55]) looseZ_ w) (true,PySem.W.openGood (PySem.W.view RZ_.prog [55]) looseZ_) w:=by
 intro os
 kernel_rfl
theorem yJv (w:World):HandSHeadRun.RunP RZ_ 12000 (fun s=>Hk.pF faZ_ s&&Hk.pX tfZ_ exZ_ s) true w:=by
 intro os
 kernel_rfl
theorem yJq (w:World):HandSHeadRun.RunP RZ_ 12000 (Hk.pN fnZ_) (He.valD fnZ_) w:=by
 intro os
 kernel_rfl
theorem runZ_ (w:World):HandSHeadRun.RunEq RZ_ (PySem.W.view RZ_.prog [55]) hkZ_ obZ_ 12000 looseZ_ w:=Hk.run_of (yH1 w) (yJv w) (yJq w)
end Lw
open PyProof.Rows PySem PySem.W PySem.Calls in
theorem Lw.preZ_ (hc:WalkO (view (OpenLaw.row PySem.Challenge.rw_farmesh_k53_patterns_written_and_read).prog [55]) Lw.looseZ_ (XL (view (OpenLaw.row PySem.Challenge.rw_farmesh_k53_patterns_written_and_read).prog [55]) []) Lw.hkZ_.says (OpenLaw.row PySem.Challenge.rw_farmesh_k53_patterns_written_and_read).toRowW (HandSHeadRun.topDef (OpenLaw.row PySem.Challenge.rw_farmesh_k53_patterns_written_and_read).prog 55) [] fun f vs=>PySem.call f vs):PySem.Challenge.rw_farmesh_k53_patterns_written_and_read.Holds:=by
 w_on;o_law
 refine HandSHeadRun.head_any (r:=OpenLaw.row PySem.Challenge.rw_farmesh_k53_patterns_written_and_read) (q:=view (OpenLaw.row PySem.Challenge.rw_farmesh_k53_patterns_written_and_read).prog [55]) (H:=Lw.hkZ_) (ob:=Lw.obZ_) (M:=12000) (loose:=Lw.looseZ_) (d:=HandSHeadRun.topDef (OpenLaw.row PySem.Challenge.rw_farmesh_k53_patterns_written_and_read).prog 55) (kwd:=[]) Lw.ob_eqZ_
  (by kernel_rfl) (fun s=>by kernel_rfl) Lw.runZ_ (by kernel_rfl) (by kernel_rfl) (by kernel_rfl) (by rfl) (by first|assumption|decide +kernel) (by decide +kernel) ⟨rfl,rfl,rfl,rfl,rfl,by decide +kernel⟩ ?hw hc
 case hw=>w_witness2
namespace Lw
open L2 PySem PySem.Spec PyProof.Rows Fm
end Lw
namespace Fm
open L2 PySem PySem.Spec PyProof.Rows
inductive D where
 | non|bl (b:Bool)|int (i:Int)|str (s:Str)
 | tup (l:List D)|lst (b:Bool) (l:List D)|dk (b:Bool) (l:List (Key×D))
 | ins (b:Bool) (c:String) (l:List (Str×D))|ty (n:String)|adr (a:Addr)|scr (l:List D)
 | nv (b:Bool) (l:List D) (ss:List Str)
structure Ctx where
 K:PySem.W.Frag
 cl:String->Addr
 tabs:List (Addr×Str)
 w:World
abbrev Pd:=Addr->Prop
def Ld (T:Pd)(a:Addr)(b:Bool):Prop:=T a ↔ b=true
def KT (K:PySem.W.Frag)(a:Addr)(xs:List V):Prop:=
 ∃ (ob:Obj) (us:Array Value) (m:Nat),K.lookup a=some ob/\ob.cls= .type "tuple"/\ob.data= .seq us m/\us.size<=sizeLine/\Vals xs us.toList
def xGy (K:PySem.W.Frag)(G:Hp)(a:Addr)(xs:List V):Prop:=G a=some (.tup xs)\/KT K a xs
theorem xGy.sq {K:PySem.W.Frag}{G H:Hp}{a:Addr}{xs:List V}(h:xGy K G a xs)(s:Same G H):SqT K H a xs:=by
 rcases h with h|h
 ·exact .inl (.inl (s _ _ h))
 ·exact .inr h
theorem xGy.mono {K:PySem.W.Frag}{G H:Hp}{a:Addr}{xs:List V}(s:Same G H)(h:xGy K G a xs):xGy K H a xs:=by
 rcases h with h|h
 ·exact .inl (s _ _ h)
 ·exact .inr h
def xM4 (K:PySem.W.Frag)(G:Hp)(a:Addr)(xs:List V):Prop:=(∃ o,G a=some (.frz o (.lst xs)))\/
 ∃ (ob:Obj) (us:Array Value) (m:Nat),K.lookup a=some ob/\ob.cls= .type "list"/\ob.dict=none/\ob.data= .seq us m/\us.size<=sizeLine/\Vals xs us.toList
def mkL:List D->Bool
 | .non::_=>true
 | _=>false
theorem xM4.sq {K:PySem.W.Frag}{G H:Hp}{a:Addr}{xs:List V}(h:xM4 K G a xs)(s:Same G H):SqL K H a xs:=by
 rcases h with ⟨o,h⟩|h
 ·exact .inl (.inr ⟨o,s _ _ h⟩)
 ·exact .inr h
theorem xM4.mono {K:PySem.W.Frag}{G H:Hp}{a:Addr}{xs:List V}(s:Same G H)(h:xM4 K G a xs):xM4 K H a xs:=by
 rcases h with ⟨o,h⟩|h
 ·exact .inl ⟨o,s _ _ h⟩
 ·exact .inr h
def DkAt (G:Hp)(a:Addr)(vs:List (Key×V))(b:Bool):Prop:=G a=some (.dK vs)\/(b=false/\ ∃ o,G a=some (.frz o (.dK vs)))
theorem DkAt.mono {G G':Hp}(e:Same G G'){a:Addr}{vs:List (Key×V)}{b:Bool}(h:DkAt G a vs b):DkAt G' a vs b:=by
 rcases h with h|⟨hb,o,h⟩
 ·exact .inl (e _ _ h)
 ·exact .inr ⟨hb,o,e _ _ h⟩
theorem DkAt.own (h:DkAt G a vs true):G a=yLh (.dK vs):=h.elim id fun z=>by cases z.1
theorem DkAt.rd (h:DkAt G a vs b):Rd G a (.dK vs):=by
 rcases h with h|⟨_,o,h⟩
 ·exact .inl h
 ·exact .inr ⟨o,h⟩
theorem DkAt.some {G:Hp}{a:Addr}{vs:List (Key×V)}{b:Bool}(h:DkAt G a vs b): ∃ o,G a=some o/\(∀ ps,o≠ .tbl ps):=by
 rcases h with h|⟨_,o,h⟩
 ·exact ⟨_,h,fun ps z=>by cases z⟩
 ·exact ⟨_,h,fun ps z=>by cases z⟩
mutual
def nk:D->NestedKey
 | .int i=> .num i
 | .str s=> .text s
 | .tup l=> .tup (nkS l)
 | _=> .none
def nkS:List D->List NestedKey
 | []=>[]
 | d::l=>nk d::nkS l
end
mutual
def keyN:Nat->D->Bool
 | _,.int _=>true
 | _,.str _=>true
 | n+1,.tup l=>xK7 n l
 | _,_=>false
def xK7:Nat->List D->Bool
 | _,[]=>true
 | n,d::l=>keyN n d&&xK7 n l
end
def yF2:D->Bool
 | .tup _=>true
 | _=>false
def NvO (w:World)(p:Addr)(ks:List (NestedKey×Addr))(ss:List Str)(h:Heap):Prop:=
 (p==sysModules)=false/\ks.length<=sizeLine/\ ∃ xs:List (NestedKey×Addr×Value),xs.map (fun x=>(x.1,x.2.1))=ks/\Vals (ss.map V.str) (xs.map fun x=>x.2.2)/\
  ∃ o es ep,h.get? p=some o/\o.ExactDict/\o.data= .dict es ep/\es.toList=xs.map (fun x=>(⟨x.1.hash w,.ref x.2.1,x.2.2⟩:DictEntry))/\(xs.map (·.1)).Nodup
def NvAt (w:World)(H:Hp)(p:Addr)(l:List D)(ss:List Str)(vs:List V):Prop:=
 ∃ ks:List (NestedKey×Addr),H p=some (.ext (NvO w p ks ss))/\(∃ h,NvO w p ks ss h)/\vs=ks.map (fun x=>V.ref x.2)/\l.map nk=ks.map (·.1)/\(l.all fun d=>yF2 d&&keyN 8 d)=true
theorem NvAt.at (h:NvAt w H p l ss vs)(k:H p=H' p):NvAt w H' p l ss vs:=by
 obtain ⟨ks,h1,h2⟩:=h
 exact ⟨ks,k.symm.trans h1,h2⟩
theorem NvAt.mono {w:World}{H H':Hp}{p:Addr}{l:List D}{ss:List Str}{vs:List V}(h:NvAt w H p l ss vs)(k:Same H H'):NvAt w H' p l ss vs:=by
 obtain ⟨ks,h1,h2⟩:=h
 exact ⟨ks,k _ _ h1,h2⟩
theorem NvAt.some {w:World}{H:Hp}{p:Addr}{l:List D}{ss:List Str}{vs:List V}(h:NvAt w H p l ss vs): ∃ φ,H p=yLh (.ext φ):=by
 obtain ⟨ks,h1,h2⟩:=h
 exact ⟨_,h1⟩
theorem NvO.ne_code (hw: ∃ h,NvO w p ks ss h):HO.ext (NvO w p ks ss)≠LamX.CodeO p x:=fun z=>by
 obtain ⟨h0,hw⟩:=hw
 have e:NvO w p ks ss=_:=HO.ext.inj z
 have hw2:(fun h:Heap=> ∃ (oc:Obj) (vs:Array Value) (t:Tok),h.get? p=some oc/\oc.data= .fields vs/\vs[1]? =some (.str x t)) h0:=by
  rw [<- e]
  exact hw
 obtain ⟨oc,us,_,q1,q2,_⟩:=hw2
 obtain ⟨_,_,xs,_,_,o,es,ep,w1,_,w2,_⟩:=hw
 rw [q1] at w1
 cases w1
 rw [q2] at w2
 cases w2
mutual
def Rep (κ:Ctx)(T:Pd)(G:Hp):D->V->Prop
 | .non,v=>v= .non
 | .bl b,v=>v= .bl b
 | .int i,v=>v= .int i
 | .str s,v=>v= .str s
 | .tup l,v=> ∃ a vs,v= .ref a/\xGy κ.K G a vs/\RepL κ T G l vs
 | .lst b l,v=> ∃ a vs,v= .ref a/\(G a=some (.lst vs)/\Ld T a b)/\RepL κ T G l vs
 | .scr l,v=> ∃ a vs,v= .ref a/\(xM4 κ.K G a vs\/mkL l=true)/\RepL κ T G l vs
 | .nv b l ss,v=> ∃ a vs,v= .ref a/\(NvAt κ.w G a l ss vs/\Ld T a b)/\RepL κ T G l vs
 | .dk b l,v=> ∃ a vs,v= .ref a/\(DkAt G a vs b/\Ld T a b)/\RepK κ T G l vs
 | .ins b c l,v=> ∃ a dx vs,v= .ref a/\(G a=some (.ins (κ.cl c) dx vs)/\Ld T a b)/\RepF κ T G l vs
 | .ty n,v=>v= .ty n
 | .adr a,v=>v= .ref a
def RepL (κ:Ctx)(T:Pd)(G:Hp):List D->List V->Prop
 | [],vs=>vs=[]
 | d::l,vs=> ∃ v ws,vs=v::ws/\Rep κ T G d v/\RepL κ T G l ws
def RepK (κ:Ctx)(T:Pd)(G:Hp):List (Key×D)->List (Key×V)->Prop
 | [],vs=>vs=[]
 | (k,d)::l,vs=> ∃ v ws,vs=(k,v)::ws/\Rep κ T G d v/\RepK κ T G l ws
def RepF (κ:Ctx)(T:Pd)(G:Hp):List (Str×D)->List (Str×V)->Prop
 | [],vs=>vs=[]
 | (k,d)::l,vs=> ∃ v ws,vs=(k,v)::ws/\Rep κ T G d v/\RepF κ T G l ws
end
theorem Rd.mono {G G':Hp}(e:Same G G'){a:Addr}{u:HO}(h:Rd G a u):Rd G' a u:=by
 rcases h with h|⟨o,h⟩
 ·exact .inl (e _ _ h)
 ·exact .inr ⟨o,e _ _ h⟩
theorem SqT.mono {K:PySem.W.Frag}{G G':Hp}(e:Same G G'){a:Addr}{xs:List V}(h:SqT K G a xs):SqT K G' a xs:=by
 rcases h with h|h
 ·exact .inl (Rd.mono e h)
 ·exact .inr h
theorem xMk {K:PySem.W.Frag}{G H:Hp}(s:Same G H){a:Addr}{vs:List V}(h:SqL K G a vs):SqL K H a vs:=by
 rcases h with h|h
 ·exact .inl (Rd.mono s h)
 ·exact .inr h
structure Mono (T:Pd)(G:Hp)(T':Pd)(G':Hp):Prop where
 same:Same G G'
 ld: ∀ a o b,G a=some o->Ld T a b->Ld T' a b
theorem Mono.of (e:Same G G'):Mono T G T G':=⟨e,fun _ _ _ _ h=>h⟩
section
variable {κ:Ctx}{T T':Pd}{G G':Hp}
mutual
theorem Rep.mono (e:Mono T G T' G'): ∀ (d:D) {v:V},Rep κ T G d v->Rep κ T' G' d v
 | .non,_,h=>h
 | .bl _,_,h=>h
 | .int _,_,h=>h
 | .str _,_,h=>h
 | .tup l,v,h=>by
  obtain ⟨a,vs,h1,h2,h3⟩:=h
  exact ⟨a,vs,h1,xGy.mono e.same h2,RepL.mono e l h3⟩
 | .lst b l,v,h=>by
  obtain ⟨a,vs,h1,⟨h2,h4⟩,h3⟩:=h
  exact ⟨a,vs,h1,⟨e.same _ _ h2,e.ld _ _ _ h2 h4⟩,RepL.mono e l h3⟩
 | .scr l,v,h=>by
  obtain ⟨a,vs,h1,h2,h3⟩:=h
  exact ⟨a,vs,h1,h2.imp (fun z=>xM4.mono e.same z) id,RepL.mono e l h3⟩
 | .nv b l ss,v,h=>by
  obtain ⟨a,vs,h1,⟨h2,h4⟩,h3⟩:=h
  obtain ⟨_,h5⟩:=h2.some
  exact ⟨a,vs,h1,⟨h2.mono e.same,e.ld _ _ _ h5 h4⟩,RepL.mono e l h3⟩
 | .dk b l,v,h=>by
  obtain ⟨a,vs,h1,⟨h2,h4⟩,h3⟩:=h
  obtain ⟨_,h5,_⟩:=h2.some
  exact ⟨a,vs,h1,⟨h2.mono e.same,e.ld _ _ _ h5 h4⟩,RepK.mono e l h3⟩
 | .ins b c l,v,h=>by
  obtain ⟨a,dx,vs,h1,⟨h2,h4⟩,h3⟩:=h
  exact ⟨a,dx,vs,h1,⟨e.same _ _ h2,e.ld _ _ _ h2 h4⟩,RepF.mono e l h3⟩
 | .ty _,_,h=>h
 | .adr _,_,h=>h
theorem RepL.mono (e:Mono T G T' G'): ∀ (l:List D) {vs:List V},RepL κ T G l vs->RepL κ T' G' l vs
 | [],_,h=>h
 | d::l,vs,h=>by
  obtain ⟨v,ws,h1,h2,h3⟩:=h
  exact ⟨v,ws,h1,Rep.mono e d h2,RepL.mono e l h3⟩
theorem RepK.mono (e:Mono T G T' G'): ∀ (l:List (Key×D)) {vs:List (Key×V)},RepK κ T G l vs->RepK κ T' G' l vs
 | [],_,h=>h
 | (k,d)::l,vs,h=>by
  obtain ⟨v,ws,h1,h2,h3⟩:=h
  exact ⟨v,ws,h1,Rep.mono e d h2,RepK.mono e l h3⟩
theorem RepF.mono (e:Mono T G T' G'): ∀ (l:List (Str×D)) {vs:List (Str×V)},RepF κ T G l vs->RepF κ T' G' l vs
 | [],_,h=>h
 | (k,d)::l,vs,h=>by
  obtain ⟨v,ws,h1,h2,h3⟩:=h
  exact ⟨v,ws,h1,Rep.mono e d h2,RepF.mono e l h3⟩
end
theorem RepL.length: ∀ {l:List D} {vs:List V},RepL κ T G l vs->vs.length=l.length
 | [],vs,h=>by rw [show vs=[] from h] <;> rfl
 | d::l,vs,h=>by
  obtain ⟨v,ws,h1,h2,h3⟩:=h
  rw [h1,yK9,yK9,h3.length]
theorem RepL.append: ∀ {l m:List D} {vs ws:List V},RepL κ T G l vs->RepL κ T G m ws->RepL κ T G (l++m) (vs++ws)
 | [],m,vs,ws,h,k=>by rw [show vs=[] from h];exact k
 | d::l,m,vs,ws,h,k=>by
  obtain ⟨v,us,h1,h2,h3⟩:=h
  rw [h1]
  exact ⟨v,us++ws,rfl,h2,h3.append k⟩
theorem RepL.get: ∀ {l:List D} {vs:List V} {i:Nat} {d:D},RepL κ T G l vs->l[i]? =some d-> ∃ v,vs[i]? =some v/\Rep κ T G d v
 | [],_,_,_,_,e=>by simp at e
 | d::l,vs,0,e,h,q=>by
  obtain ⟨v,us,h1,h2,h3⟩:=h
  rw [h1]
  simp at q
  subst q
  exact ⟨v,rfl,h2⟩
 | d::l,vs,i+1,e,h,q=>by
  obtain ⟨v,us,h1,h2,h3⟩:=h
  rw [h1]
  exact RepL.get (i:=i) h3 (by simpa using q)
theorem RepL.set: ∀ {l:List D} {vs:List V} (i:Nat) {d:D} {v:V},RepL κ T G l vs->Rep κ T G d v->RepL κ T G (l.set i d) (vs.set i v)
 | [],vs,i,d,v,h,k=>by rw [show vs=[] from h];exact rfl
 | e::l,vs,0,d,v,h,k=>by
  obtain ⟨w,us,h1,h2,h3⟩:=h
  rw [h1]
  exact ⟨v,us,rfl,k,h3⟩
 | e::l,vs,i+1,d,v,h,k=>by
  obtain ⟨w,us,h1,h2,h3⟩:=h
  rw [h1]
  exact ⟨w,_,rfl,h2,h3.set i k⟩
theorem RepL.take: ∀ {l:List D} {vs:List V} (n:Nat),RepL κ T G l vs->RepL κ T G (l.take n) (vs.take n)
 | l,vs,0,h=>by rw [yMm,yMm];exact rfl
 | [],vs,n+1,h=>by rw [show vs=[] from h];exact rfl
 | e::l,vs,n+1,h=>by
  obtain ⟨w,us,h1,h2,h3⟩:=h
  rw [h1]
  exact ⟨w,_,rfl,h2,h3.take n⟩
theorem RepL.drop: ∀ {l:List D} {vs:List V} (n:Nat),RepL κ T G l vs->RepL κ T G (l.drop n) (vs.drop n)
 | l,vs,0,h=>h
 | [],vs,n+1,h=>by rw [show vs=[] from h];exact rfl
 | e::l,vs,n+1,h=>by
  obtain ⟨w,us,h1,h2,h3⟩:=h
  rw [h1]
  exact h3.drop n
theorem RepL.one (h:Rep κ T G d v):RepL κ T G [d] [v]:=⟨v,[],rfl,h,rfl⟩
end
def NdO (w:World)(p:Addr)(ks:List (NestedKey×Addr))(h:Heap):Prop:=
 (p==sysModules)=false/\ks.length<=sizeLine/\ ∃ xs:List (NestedKey×Addr×Value),xs.map (fun x=>(x.1,x.2.1))=ks/\
  ∃ o es ep,h.get? p=some o/\o.ExactDict/\o.data= .dict es ep/\es.toList=xs.map (fun x=>(⟨x.1.hash w,.ref x.2.1,x.2.2⟩:DictEntry))/\(xs.map (·.1)).Nodup
def NdAt (w:World)(H:Hp)(p:Addr)(l:List D)(vs:List V):Prop:=
 ∃ ks:List (NestedKey×Addr),H p=some (.ext (NdO w p ks))/\(∃ h,NdO w p ks h)/\vs=ks.map (fun x=>V.ref x.2)/\l.map nk=ks.map (·.1)/\(l.all fun d=>yF2 d&&keyN 8 d)=true
theorem NdAt.at (h:NdAt w H p l vs)(k:H' p=H p):NdAt w H' p l vs:=by
 obtain ⟨ks,h1,h2⟩:=h
 exact ⟨ks,k.trans h1,h2⟩
theorem NdAt.nofields {φ:Heap->Prop}(h:NdAt w H p l vs)(f: ∀ h,φ h-> ∃ (oc:Obj) (us:Array Value),h.get? p=some oc/\oc.data= .fields us):H p≠some (.ext φ):=fun z=>by
 obtain ⟨ks,h1,⟨h0,hw⟩,_⟩:=h
 rw [h1] at z
 have e:NdO w p ks=φ:=HO.ext.inj (yLh.inj z)
 rw [e] at hw
 obtain ⟨oc,us,q1,q2⟩:=f h0 hw
 rw [<- e] at hw
 obtain ⟨_,_,xs,_,o,es,ep,w1,_,w2,_⟩:=hw
 rw [q1] at w1
 cases w1
 rw [q2] at w2
 cases w2
theorem NdAt.ncode (h:NdAt w H p l vs):H p≠some (LamX.CodeO p q):=
 h.nofields fun h0 ⟨oc,us,_,e1,e2,_⟩=>⟨oc,us,e1,e2⟩
inductive SD where
 | un|va (d:D)|ow (d:D)
def xBm (κ:Ctx)(T:Pd)(G H:Hp)(p:Addr):D->Prop
 | .lst _ l=> ∃ vs,H p=some (.lst vs)/\RepL κ T G l vs
 | .dk _ l=> ∃ vs,H p=some (.dK vs)/\RepK κ T G l vs
 | .ins _ c l=> ∃ dx vs,H p=some (.ins (κ.cl c) dx vs)/\RepF κ T G l vs
 | .scr l=> ∃ vs,NdAt κ.w H p l vs/\RepL κ T G l vs
 | _=>False
theorem xBm.mono (h:xBm κ T G H p d)(e:Same G G')(k:H' p=H p):xBm κ T G' H' p d:=by
 cases d <;> first
  | exact h.elim
  | (obtain ⟨vs,h1,h2⟩:=h;first|exact ⟨vs,k.trans h1,RepL.mono (.of e) _ h2⟩|exact ⟨vs,k.trans h1,RepK.mono (.of e) _ h2⟩|exact ⟨vs,h1.at k,RepL.mono (.of e) _ h2⟩)
  | (obtain ⟨dx,vs,h1,h2⟩:=h;exact ⟨dx,vs,k.trans h1,RepF.mono (.of e) _ h2⟩)
theorem xBm.obj (h:xBm κ T G H p d): ∃ o:HO,H p=some o/\(∀ ps,o≠ .tbl ps)/\Mut (some o):=by
 cases d with
 | lst b l=>
  obtain ⟨vs,h1,h2⟩:=h
  exact ⟨.lst vs,h1,(fun ps z=>by cases z),True.intro⟩
 | dk b l=>
  obtain ⟨vs,h1,h2⟩:=h
  exact ⟨.dK vs,h1,(fun ps z=>by cases z),True.intro⟩
 | ins b c l=>
  obtain ⟨dx,vs,h1,h2⟩:=h
  exact ⟨.ins (κ.cl c) dx vs,h1,(fun ps z=>by cases z),True.intro⟩
 | scr l=>
  obtain ⟨vs,⟨ks,h1,_⟩,h2⟩:=h
  exact ⟨_,h1,(fun ps z=>by cases z),True.intro⟩
 | _=>exact h.elim
structure Bas where
 H:Hp
 G:Hp
 T:Pd
 an:List (Nat×Addr)
def noT (H:Hp):Hp:=fun a=>match H a with
 | some (.tbl _)=>none
 | o=>o
theorem xHb (h:noT H a=some o):H a=some o/\ ∀ ps,o≠ .tbl ps:=by
 unfold noT at h
 cases e:H a with
 | none=>
  rw [e] at h
  cases h
 | some u=>
  rw [e] at h
  cases u <;> first
   | (cases h;done)
   | (cases h;exact ⟨rfl,fun ps z=>by cases z⟩)
theorem xCj (h:H a=some o)(n: ∀ ps,o≠ .tbl ps):noT H a=some o:=by
 unfold noT
 rw [h]
 cases o <;> first
  | rfl
  | exact absurd rfl (n _)
theorem xQ7:noT H a≠some (.tbl ps):=fun h=>(xHb h).2 ps rfl
structure Frame (κ:Ctx)(B:Bas)(H G:Hp):Prop where
 keep: ∀ a o,B.H a=some o->(∀ ps,o≠ .tbl ps)->H a=some o
 nt: ∀ a ps,B.H a≠some (.tbl ps)
 frz: ∀ a,B.H a≠none->G a=B.G a
 sub:Same B.G G
 gh:Same G H
 notb: ∀ a ps,G a≠some (.tbl ps)
 tabs:LamX.Tabs κ.tabs H
 lent: ∀ a,B.T a->B.H a≠none
structure Ok (κ:Ctx)(B:Bas)(ρ:List SD)(σ:L2.St)(H G:Hp):Prop where
 fr:Frame κ B H G
 len:σ.length=ρ.length
 val: ∀ (i:Nat) d,ρ[i]? =some (SD.va d)-> ∃ v,σ[i]? =some (some v)/\Rep κ B.T G d v
 own: ∀ (i:Nat) d,ρ[i]? =some (SD.ow d)-> ∃ p,σ[i]? =some (some (V.ref p))/\G p=none/\B.H p=none/\xBm κ B.T G H p d
 sep: ∀ (i j:Nat) p d e,i≠j->ρ[i]? =some (SD.ow d)->ρ[j]? =some (SD.ow e)->σ[i]? =some (some (V.ref p))->σ[j]? =some (some (V.ref p))->False
 anch: ∀ i p,(i,p)∈B.an->σ[i]? =some (some (V.ref p))
theorem Frame.obj (k:Frame κ B H G)(h:B.H a≠none): ∃ o,B.H a=some o/\(∀ ps,o≠ .tbl ps)/\H a=some o:=by
 cases e:B.H a with
 | none=>exact absurd e h
 | some o=>
  have n: ∀ ps,o≠ .tbl ps:=fun ps z=>k.nt a ps (by rw [e,z])
  exact ⟨o,rfl,n,k.keep a o e n⟩
theorem Frame.there (k:Frame κ B H G)(a:Addr)(h:B.H a≠none):H a≠none:=by
 obtain ⟨o,_,_,e⟩:=k.obj h
 rw [e]
 exact fun z=>nomatch z
def RepR (κ:Ctx)(B:Bas)(ρ:List SD)(σ:L2.St)(H G:Hp):SD->V->Prop
 | .va d,v=>Rep κ B.T G d v
 | .ow d,v=> ∃ p,v= .ref p/\G p=none/\B.H p=none/\xBm κ B.T G H p d/\ ∀ (j:Nat) e,ρ[j]? =some (SD.ow e)->σ[j]? ≠some (some (V.ref p))
 | .un,_=>False
structure Exn where
 c:String
 fs:List (Str×D)
def RepX (κ:Ctx)(T:Pd)(H G:Hp)(x:Exn)(cls:Value)(d:Option Addr):Prop:=
 cls= .ref (κ.cl x.c)/\ ∃ dx vs,d=some dx/\H dx=some (.xd vs)/\RepF κ T G x.fs vs
inductive Rs (α:Type) where
 | ok (a:α) (ρ:List SD)|ex (x:Exn) (ρ:List SD)|no
abbrev M (α:Type):=List SD->Rs α
def M.bind {α β:Type}(m:M α)(k:α->M β):M β:=fun ρ=>match m ρ with
 | .ok a ρ'=>k a ρ'
 | .ex x ρ'=> .ex x ρ'
 | .no=> .no
def M.ret {α:Type}(a:α):M α:=fun ρ=> .ok a ρ
def M.no {α:Type}:M α:=fun _=> .no
def M.opt {α:Type}:Option α->M α
 | some a=> .ret a
 | none=> .no
def Pst {α:Type}(κ:Ctx)(W:WX)(B:Bas)(σ:L2.St)(G:Hp)(r:Rs α)(k:α->List SD->Hp->Hp->Prop):Prop:=match r with
 | .ok a ρ'=> ∀ H' G',Ok κ B ρ' σ H' G'->Same G G'->k a ρ' H' G'
 | .ex x ρ'=> ∀ cls d H' G',Ok κ B ρ' σ H' G'->Same G G'->RepX κ B.T H' G' x cls d->W cls d σ H'
 | .no=>False
theorem Pst.bind {α β:Type}{m:M α}{f:α->M β}{ρ:List SD}{k:β->List SD->Hp->Hp->Prop}(h:Pst κ W B σ G (m.bind f ρ) k):
  Pst κ W B σ G (m ρ) fun a ρ' H' G'=>Pst κ W B σ G' (f a ρ') k:=by
 unfold M.bind at h
 cases e:m ρ with
 | ok a ρ'=>
  rw [e] at h
  intro H' G' ok s
  show Pst κ W B σ G' (f a ρ') k
  have h2:Pst κ W B σ G (f a ρ') k:=h
  cases e2:f a ρ' with
  | ok b ρ2=>
   rw [e2] at h2
   exact fun H2 G2 ok2 s2=>h2 H2 G2 ok2 (s.trans s2)
  | ex x ρ2=>
   rw [e2] at h2
   exact fun cls d H2 G2 ok2 s2 r=>h2 cls d H2 G2 ok2 (s.trans s2) r
  | no=>
   rw [e2] at h2
   exact h2
 | ex x ρ'=>
  rw [e] at h
  exact h
 | no=>
  rw [e] at h
  exact h
theorem Pst.mono {α:Type}{κ:Ctx}{W:WX}{B:Bas}{σ:L2.St}{G:Hp}{r:Rs α}{k k':α->List SD->Hp->Hp->Prop}(h:Pst κ W B σ G r k)(f: ∀ a ρ' H' G',Ok κ B ρ' σ H' G'->Same G G'->k a ρ' H' G'->k' a ρ' H' G'):Pst κ W B σ G r k':=by
 cases r with
 | ok a ρ'=>exact fun H' G' ok s=>f _ _ _ _ ok s (h H' G' ok s)
 | ex x ρ'=>exact h
 | no=>exact h
mutual
def D.nb:D->Bool
 | .tup l=>nbL l
 | .lst b l=> !b&&nbL l
 | .scr l=>nbL l
 | .nv b l _=> !b&&nbL l
 | .dk b l=> !b&&nbK l
 | .ins b _ l=> !b&&nbF l
 | _=>true
def nbL:List D->Bool
 | []=>true
 | d::l=>D.nb d&&nbL l
def nbK:List (Key×D)->Bool
 | []=>true
 | (_,d)::l=>D.nb d&&nbK l
def nbF:List (Str×D)->Bool
 | []=>true
 | (_,d)::l=>D.nb d&&nbF l
end
def D.nbO:D->Bool
 | .lst _ l=>nbL l
 | .dk _ l=>nbK l
 | .ins _ _ l=>nbF l
 | .scr l=>nbL l
 | _=>false
def D.fz:D->D
 | .lst _ l=> .lst false l
 | .dk _ l=> .dk false l
 | .ins _ c l=> .ins false c l
 | .scr l=> .scr (.non::l)
 | .nv _ l ss=> .nv false l ss
 | d=>d
def D.ln:D->D
 | .lst _ l=> .lst true l
 | .dk _ l=> .dk true l
 | .ins _ c l=> .ins true c l
 | .scr l=> .scr (.non::l)
 | d=>d
def er (G:Hp)(p:Addr):Hp:=fun a=>if a=p then none else G a
theorem xEv (h:a≠p):er G p a=G a:=if_neg h
theorem xQ5:er G p p=none:=if_pos rfl
theorem DkAt.er (h:DkAt G a vs b)(na:a≠p):DkAt (Fm.er G p) a vs b:=by
 rcases h with h|⟨hb,o,h⟩
 ·exact .inl ((xEv na).trans h)
 ·exact .inr ⟨hb,o,(xEv na).trans h⟩
section
variable {κ:Ctx}{T T':Pd}{G:Hp}{p:Addr}{o:HO}
theorem yAo {K:PySem.W.Frag}{a:Addr}{xs:List V}(ho:G p=some o)(mu:Mut (some o))(h:xGy K G a xs):xGy K (er G p) a xs:=by
 rcases h with h|h
 ·refine .inl ?_
  rw [xEv]
  ·exact h
  ·intro z
   rw [z,ho] at h
   cases h
   exact mu
 ·exact .inr h
mutual
theorem Rep.er (ho:G p=some o)(mu:Mut (some o))(ht:T' p)(hT: ∀ a,a≠p->(T' a ↔ T a)): ∀ (d:D) {v:V},d.nb=true->Rep κ T' G d v->Rep κ T (er G p) d v
 | .non,_,_,h=>h
 | .bl _,_,_,h=>h
 | .int _,_,_,h=>h
 | .str _,_,_,h=>h
 | .tup l,v,n,h=>by
  obtain ⟨a,vs,h1,h2,h3⟩:=h
  exact ⟨a,vs,h1,yAo ho mu h2,RepL.er ho mu ht hT l n h3⟩
 | .lst b l,v,n,h=>by
  have n':(!b&&nbL l)=true:=n
  rw [yLc,yL3] at n'
  obtain ⟨rfl,n2⟩:=n'
  obtain ⟨a,vs,h1,⟨h2,h4⟩,h3⟩:=h
  have na:a≠p:=fun z=>by
   rw [z] at h4
   exact yLr (h4.mp ht)
  exact ⟨a,vs,h1,⟨(xEv na).trans h2,(hT a na).symm.trans h4⟩,RepL.er ho mu ht hT l n2 h3⟩
 | .scr l,v,n,h=>by
  obtain ⟨a,vs,h1,h2,h3⟩:=h
  refine ⟨a,vs,h1,?_,RepL.er ho mu ht hT l n h3⟩
  rcases h2 with (⟨ob,h2⟩|h2)|h2
  ·have na:a≠p:=fun z=>by
    rw [z,ho] at h2
    cases h2
    exact mu
   exact .inl (.inl ⟨ob,(xEv na).trans h2⟩)
  ·exact .inl (.inr h2)
  ·exact .inr h2
 | .nv b l ss,v,n,h=>by
  have n':(!b&&nbL l)=true:=n
  rw [yLc,yL3] at n'
  obtain ⟨rfl,n2⟩:=n'
  obtain ⟨a,vs,h1,⟨h2,h4⟩,h3⟩:=h
  have na:a≠p:=fun z=>by
   rw [z] at h4
   exact yLr (h4.mp ht)
  exact ⟨a,vs,h1,⟨h2.at (xEv na).symm,(hT a na).symm.trans h4⟩,RepL.er ho mu ht hT l n2 h3⟩
 | .dk b l,v,n,h=>by
  have n':(!b&&nbK l)=true:=n
  rw [yLc,yL3] at n'
  obtain ⟨rfl,n2⟩:=n'
  obtain ⟨a,vs,h1,⟨h2,h4⟩,h3⟩:=h
  have na:a≠p:=fun z=>by
   rw [z] at h4
   exact yLr (h4.mp ht)
  exact ⟨a,vs,h1,⟨h2.er na,(hT a na).symm.trans h4⟩,RepK.er ho mu ht hT l n2 h3⟩
 | .ins b c l,v,n,h=>by
  have n':(!b&&nbF l)=true:=n
  rw [yLc,yL3] at n'
  obtain ⟨rfl,n2⟩:=n'
  obtain ⟨a,dx,vs,h1,⟨h2,h4⟩,h3⟩:=h
  have na:a≠p:=fun z=>by
   rw [z] at h4
   exact yLr (h4.mp ht)
  exact ⟨a,dx,vs,h1,⟨(xEv na).trans h2,(hT a na).symm.trans h4⟩,RepF.er ho mu ht hT l n2 h3⟩
 | .ty _,_,_,h=>h
 | .adr _,_,_,h=>h
theorem RepL.er (ho:G p=some o)(mu:Mut (some o))(ht:T' p)(hT: ∀ a,a≠p->(T' a ↔ T a)): ∀ (l:List D) {vs:List V},nbL l=true->RepL κ T' G l vs->RepL κ T (er G p) l vs
 | [],_,_,h=>h
 | d::l,vs,n,h=>by
  have n':(D.nb d&&nbL l)=true:=n
  rw [yLc] at n'
  obtain ⟨v,ws,h1,h2,h3⟩:=h
  exact ⟨v,ws,h1,Rep.er ho mu ht hT d n'.1 h2,RepL.er ho mu ht hT l n'.2 h3⟩
theorem RepK.er (ho:G p=some o)(mu:Mut (some o))(ht:T' p)(hT: ∀ a,a≠p->(T' a ↔ T a)): ∀ (l:List (Key×D)) {vs:List (Key×V)},nbK l=true->RepK κ T' G l vs->RepK κ T (er G p) l vs
 | [],_,_,h=>h
 | (k,d)::l,vs,n,h=>by
  have n':(D.nb d&&nbK l)=true:=n
  rw [yLc] at n'
  obtain ⟨v,ws,h1,h2,h3⟩:=h
  exact ⟨v,ws,h1,Rep.er ho mu ht hT d n'.1 h2,RepK.er ho mu ht hT l n'.2 h3⟩
theorem RepF.er (ho:G p=some o)(mu:Mut (some o))(ht:T' p)(hT: ∀ a,a≠p->(T' a ↔ T a)): ∀ (l:List (Str×D)) {vs:List (Str×V)},nbF l=true->RepF κ T' G l vs->RepF κ T (er G p) l vs
 | [],_,_,h=>h
 | (k,d)::l,vs,n,h=>by
  have n':(D.nb d&&nbF l)=true:=n
  rw [yLc] at n'
  obtain ⟨v,ws,h1,h2,h3⟩:=h
  exact ⟨v,ws,h1,Rep.er ho mu ht hT d n'.1 h2,RepF.er ho mu ht hT l n'.2 h3⟩
end
end
section
variable {κ:Ctx}{B:Bas}{ρ:List SD}{σ:L2.St}{H G:Hp}
theorem Same.upd (h:G p=none):Same G (upd G p o):=fun a u e=>by
 rw [upd_ne (ne_of_none e h)]
 exact e
theorem Ok.gnone (k:Ok κ B ρ σ H G)(h:H p=none):G p=none:=k.fr.gh.free h
theorem Ok.bnone (k:Ok κ B ρ σ H G)(h:H p=none):B.H p=none:=by
 cases e:B.H p with
 | none=>rfl
 | some o=>exact absurd h (k.fr.there p (by rw [e];simp))
theorem Ok.nolend (k:Ok κ B ρ σ H G)(h:B.H p=none): ¬ B.T p:=fun z=>k.fr.lent p z h
theorem Frame.grow (k:Frame κ B H G)(h:H p=none):Frame κ B (upd H p o) G where
 keep:=fun a u e n=>by
  have e2:=k.keep a u e n
  rw [upd_ne (ne_of_none e2 h)]
  exact e2
 nt:=k.nt
 frz:=k.frz
 sub:=k.sub
 gh:=fun a u e=>by
  have e2:=k.gh a u e
  rw [upd_ne (ne_of_none e2 h)]
  exact e2
 notb:=k.notb
 tabs:=k.tabs.ext fun a u e=>by
  rw [upd_ne (ne_of_none e h)]
  exact e
 lent:=k.lent
theorem Frame.freeze (k:Frame κ B H G)(h:H p=some o)(hb:B.H p=none)(hg:G p=none)(no: ∀ ps,o≠ .tbl ps):Frame κ B H (upd G p o) where
 keep:=k.keep
 nt:=k.nt
 frz:=fun a e=>by
  have na:a≠p:=fun z=>e (by rw [z];exact hb)
  rw [upd_ne na]
  exact k.frz a e
 sub:=k.sub.trans (Same.upd hg)
 gh:=fun a u e=>by
  by_cases na:a=p
  ·rw [na,upd_same] at e
   rw [na,h]
   exact e
  ·rw [upd_ne na] at e
   exact k.gh a u e
 notb:=fun a ps e=>by
  by_cases na:a=p
  ·rw [na,upd_same] at e
   exact no ps (yLh.inj e)
  ·rw [upd_ne na] at e
   exact k.notb a ps e
 tabs:=k.tabs
 lent:=k.lent
theorem Ok.alloc (k:Ok κ B ρ σ H G)(h:H p=none)(no: ∀ ps,o≠ .tbl ps):Ok κ B ρ σ (upd H p o) (upd G p o):=by
 have hg:=k.gnone h
 refine ⟨(k.fr.grow h).freeze upd_same (k.bnone h) hg no,k.len,fun i d e=> ?_,fun i d e=> ?_,k.sep,k.anch⟩
 ·obtain ⟨v,h1,h2⟩:=k.val i d e
  exact ⟨v,h1,Rep.mono (.of (Same.upd hg)) d h2⟩
 ·obtain ⟨q,h1,h2,h3,h4⟩:=k.own i d e
  obtain ⟨u,h5,_⟩:=h4.obj
  have nq:q≠p:=ne_of_none h5 h
  exact ⟨q,h1,by rw [upd_ne nq];exact h2,h3,h4.mono (Same.upd hg) (upd_ne nq)⟩
theorem Ok.allocOwn (k:Ok κ B ρ σ H G)(h:H p=none):Ok κ B ρ σ (upd H p o) G:=by
 refine ⟨k.fr.grow h,k.len,k.val,fun i d e=> ?_,k.sep,k.anch⟩
 obtain ⟨q,h1,h2,h3,h4⟩:=k.own i d e
 obtain ⟨u,h5,_⟩:=h4.obj
 exact ⟨q,h1,h2,h3,h4.mono (Same.refl _) (upd_ne (ne_of_none h5 h))⟩
theorem Ok.apart (k:Ok κ B ρ σ H G)(h:H p=none)(j:Nat)(e:D)(hj:ρ[j]? =some (SD.ow e)):σ[j]? ≠some (some (V.ref p)):=fun z=>by
 obtain ⟨q,h1,_,_,h4⟩:=k.own j e hj
 rw [z] at h1
 cases h1
 obtain ⟨u,h5,_⟩:=h4.obj
 rw [h] at h5
 cases h5
theorem xBm.rep (h:xBm κ B.T G H p d)(hp:H p=some o)(hg:G p=none)(nt: ¬ B.T p):Rep κ B.T (upd G p o) d.fz (.ref p):=by
 have l:Ld B.T p false:=⟨fun z=>(nt z).elim,fun z=>yLr z⟩
 cases d with
 | lst b l'=>
  obtain ⟨vs,h1,h2⟩:=h
  rw [hp] at h1
  cases h1
  exact ⟨p,vs,rfl,⟨upd_same,l⟩,RepL.mono (.of (Same.upd hg)) l' h2⟩
 | dk b l'=>
  obtain ⟨vs,h1,h2⟩:=h
  rw [hp] at h1
  cases h1
  exact ⟨p,vs,rfl,⟨.inl upd_same,l⟩,RepK.mono (.of (Same.upd hg)) l' h2⟩
 | ins b c l'=>
  obtain ⟨dx,vs,h1,h2⟩:=h
  rw [hp] at h1
  cases h1
  exact ⟨p,dx,vs,rfl,⟨upd_same,l⟩,RepF.mono (.of (Same.upd hg)) l' h2⟩
 | scr l'=>
  obtain ⟨vs,h1,h2⟩:=h
  exact ⟨p,.non::vs,rfl,.inr rfl,⟨.non,vs,rfl,rfl,RepL.mono (.of (Same.upd hg)) l' h2⟩⟩
 | _=>exact h.elim
theorem Ok.frzR (k:Ok κ B ρ σ H G)(r:RepR κ B ρ σ H G (.ow d) v): ∃ G',Same G G'/\Ok κ B ρ σ H G'/\Rep κ B.T G' d.fz v:=by
 obtain ⟨p,rfl,hg,hb,ho,na⟩:=r
 obtain ⟨o,h1,h2,_⟩:=ho.obj
 refine ⟨upd G p o,Same.upd hg,⟨k.fr.freeze h1 hb hg h2,k.len,fun i d e=> ?_,fun i e q=> ?_,k.sep,k.anch⟩,ho.rep h1 hg (k.nolend hb)⟩
 ·obtain ⟨v,e1,e2⟩:=k.val i d e
  exact ⟨v,e1,Rep.mono (.of (Same.upd hg)) d e2⟩
 ·obtain ⟨q',e1,e2,e3,e4⟩:=k.own i e q
  have nq:q'≠p:=fun z=>na i e q (by rw [e1,z])
  exact ⟨q',e1,by rw [upd_ne nq];exact e2,e3,e4.mono (Same.upd hg) rfl⟩
theorem Ok.set (k:Ok κ B ρ σ H G)(i:Nat)(hr:RepR κ B ρ σ H G r v)(na: ∀ p,(i,p)∉B.an):Ok κ B (ρ.set i r) (σ.set i (some v)) H G:=by
 have lt: ∀ {j:Nat} {x:SD},ρ[j]? =some x->j<σ.length:=fun {j x} e=>by
  exact k.len ▸ (yK5.mp e).1
 have here: ∀ {j:Nat} {x:SD},(ρ.set i r)[j]? =some x->(j=i/\x=r/\(σ.set i (some v))[j]? =some (some v))\/(j≠i/\ρ[j]? =some x/\(σ.set i (some v))[j]? =σ[j]?):=fun {j x} e=>by
  by_cases hj:j=i
  ·subst hj
   have hl:j<ρ.length:=by
    have z:=(yK5.mp e).1
    rw [yLm] at z
    exact z
   rw [yK8 hl] at e
   exact .inl ⟨rfl,(yLh.inj e).symm,yK8 (by rw [k.len];exact hl)⟩
  ·rw [yLa (Ne.symm hj)] at e
   exact .inr ⟨hj,e,yLa (Ne.symm hj)⟩
 refine ⟨k.fr,by rw [yLm,yLm,k.len],fun j d e=> ?_,fun j d e=> ?_,fun j l p d e hjl h1 h2 h3 h4=> ?_,fun j p hp=> ?_⟩
 ·rcases here e with ⟨_,e1,e2⟩|⟨_,e1,e2⟩
  ·rw [<- e1] at hr
   exact ⟨v,e2,hr⟩
  ·rw [e2]
   exact k.val j d e1
 ·rcases here e with ⟨_,e1,e2⟩|⟨_,e1,e2⟩
  ·rw [<- e1] at hr
   obtain ⟨p,rfl,q1,q2,q3,_⟩:=hr
   exact ⟨p,e2,q1,q2,q3⟩
  ·rw [e2]
   exact k.own j d e1
 ·rcases here h1 with ⟨a1,a2,a3⟩|⟨a1,a2,a3⟩ <;> rcases here h2 with ⟨b1,b2,b3⟩|⟨b1,b2,b3⟩
  ·exact hjl (a1.trans b1.symm)
  ·rw [<- a2] at hr
   obtain ⟨q,rfl,_,_,_,na⟩:=hr
   rw [a3] at h3
   cases h3
   rw [b3] at h4
   exact na l e b2 h4
  ·rw [<- b2] at hr
   obtain ⟨q,rfl,_,_,_,na⟩:=hr
   rw [b3] at h4
   cases h4
   rw [a3] at h3
   exact na j d a2 h3
  ·rw [a3] at h3
   rw [b3] at h4
   exact k.sep j l p d e hjl a2 b2 h3 h4
 ·have hj:j≠i:=fun z=>na p (by rw [<- z];exact hp)
  rw [yLa (Ne.symm hj)]
  exact k.anch j p hp
theorem Ok.write (k:Ok κ B ρ σ H G)(e:ρ[i]? =some (SD.ow d))(hs:σ[i]? =some (some (V.ref p)))(no: ∀ ps,o≠ .tbl ps)(h:xBm κ B.T G (upd H p o) p d'):Ok κ B (ρ.set i (.ow d')) σ (upd H p o) G:=by
 obtain ⟨q,h1,h2,h3,h4⟩:=k.own i d e
 rw [hs] at h1
 cases h1
 obtain ⟨u,h5,h6,_⟩:=h4.obj
 have hl:=(yK5.mp e).1
 have nb: ∀ a,B.H a≠none->a≠p:=fun a z y=>z (by rw [y];exact h3)
 have fr:Frame κ B (upd H p o) G:={
  keep:=fun a w z n=>by rw [upd_ne (nb a (by rw [z];simp))];exact k.fr.keep a w z n
  nt:=k.fr.nt
  frz:=k.fr.frz
  sub:=k.fr.sub
  gh:=fun a w z=>by
   have na:a≠p:=fun y=>by
    rw [y,h2] at z
    cases z
   rw [upd_ne na]
   exact k.fr.gh a w z
  notb:=k.fr.notb
  tabs:=fun t ht=>by
   obtain ⟨ps,t1,t2,t3⟩:=k.fr.tabs t ht
   have n1:t.1≠p:=fun y=>by
    rw [y,h5] at t1
    exact h6 ps (yLh.inj t1)
   refine ⟨ps,by rw [upd_ne n1];exact t1,t2,fun pos cv hc=> ?_⟩
   obtain ⟨c,c1,c2⟩:=t3 pos cv hc
   refine ⟨c,c1,?_⟩
   have n2:c≠p:=fun y=>by
    rw [y] at c2
    cases d with
    | lst b l=>
     obtain ⟨vs,z,_⟩:=h4
     rw [z] at c2
     unfold LamX.CodeO at c2
     cases c2
    | dk b l=>
     obtain ⟨vs,z,_⟩:=h4
     rw [z] at c2
     unfold LamX.CodeO at c2
     cases c2
    | ins b c' l=>
     obtain ⟨dx,vs,z,_⟩:=h4
     rw [z] at c2
     unfold LamX.CodeO at c2
     cases c2
    | scr l=>
     obtain ⟨vs,z,_⟩:=h4
     exact z.ncode c2
    | _=>exact h4.elim
   rw [upd_ne n2]
   exact c2
  lent:=k.fr.lent }
 refine ⟨fr,by rw [yLm];exact k.len,fun j c z=> ?_,fun j c z=> ?_,fun j l q c c' hjl z1 z2 z3 z4=> ?_,k.anch⟩
 ·by_cases hj:j=i
  ·subst hj
   rw [yK8 hl] at z
   cases z
  ·rw [yLa (Ne.symm hj)] at z
   exact k.val j c z
 ·by_cases hj:j=i
  ·subst hj
   rw [yK8 hl] at z
   cases z
   exact ⟨p,hs,h2,h3,h⟩
  ·rw [yLa (Ne.symm hj)] at z
   obtain ⟨q,q1,q2,q3,q4⟩:=k.own j c z
   have nq:q≠p:=fun y=>k.sep j i p c d hj z e (by rw [q1,y]) hs
   exact ⟨q,q1,q2,q3,q4.mono (Same.refl _) (upd_ne nq)⟩
 ·have old: ∀ {m:Nat} {x:D},(ρ.set i (.ow d'))[m]? =some (SD.ow x)-> ∃ y,ρ[m]? =some (SD.ow y):=fun {m x} z=>by
   by_cases hm:m=i
   ·rw [hm]
    exact ⟨d,e⟩
   ·rw [yLa (Ne.symm hm)] at z
    exact ⟨x,z⟩
  obtain ⟨y1,w1⟩:=old z1
  obtain ⟨y2,w2⟩:=old z2
  exact k.sep j l q y1 y2 hjl w1 w2 z3 z4
theorem Ok.frzS (k:Ok κ B ρ σ H G)(e:ρ[i]? =some (SD.ow d)): ∃ p G',σ[i]? =some (some (V.ref p))/\Same G G'/\Ok κ B (ρ.set i (.va d.fz)) σ H G'/\Rep κ B.T G' d.fz (.ref p):=by
 obtain ⟨p,h1,h2,h3,h4⟩:=k.own i d e
 obtain ⟨o,h5,h6,_⟩:=h4.obj
 have hl:=(yK5.mp e).1
 have rp:=h4.rep h5 h2 (k.nolend h3)
 refine ⟨p,upd G p o,h1,Same.upd h2,⟨k.fr.freeze h5 h3 h2 h6,by rw [yLm];exact k.len,fun j c z=> ?_,fun j c z=> ?_,fun j l q c c' hjl z1 z2 z3 z4=> ?_,k.anch⟩,rp⟩
 ·by_cases hj:j=i
  ·subst hj
   rw [yK8 hl] at z
   cases z
   exact ⟨_,h1,rp⟩
  ·rw [yLa (Ne.symm hj)] at z
   obtain ⟨v,e1,e2⟩:=k.val j c z
   exact ⟨v,e1,Rep.mono (.of (Same.upd h2)) c e2⟩
 ·by_cases hj:j=i
  ·subst hj
   rw [yK8 hl] at z
   cases z
  ·rw [yLa (Ne.symm hj)] at z
   obtain ⟨q,q1,q2,q3,q4⟩:=k.own j c z
   have nq:q≠p:=fun y=>k.sep j i p c d hj z e (by rw [q1,y]) h1
   exact ⟨q,q1,by rw [upd_ne nq];exact q2,q3,q4.mono (Same.upd h2) rfl⟩
 ·have old: ∀ {m:Nat} {x:D},(ρ.set i (.va d.fz))[m]? =some (SD.ow x)->ρ[m]? =some (SD.ow x):=fun {m x} z=>by
   by_cases hm:m=i
   ·subst hm
    rw [yK8 hl] at z
    cases z
   ·rw [yLa (Ne.symm hm)] at z
    exact z
  exact k.sep j l q c c' hjl (old z1) (old z2) z3 z4
end
def tE (κ:Ctx)(W:WX)(m:M SD):TE:=fun σ H Q=> ∃ B ρ G,Ok κ B ρ σ H G/\Pst κ W B σ G (m ρ) fun r ρ' H' G'=> ∀ v,RepR κ B ρ' σ H' G' r v->Q v H'
def tT (κ:Ctx)(W:WX)(m:M Bool):TT:=fun σ H Q=> ∃ B ρ G,Ok κ B ρ σ H G/\Pst κ W B σ G (m ρ) fun b ρ' H' G'=>Q b H'
inductive Ar where
 | va (d:D)|sl (i:Nat)
def RepA (κ:Ctx)(T:Pd)(σ:L2.St)(G:Hp):Ar->V->Prop
 | .va d,v=>Rep κ T G d v
 | .sl i,v=>σ[i]? =some (some v)
def xGh (κ:Ctx)(T:Pd)(σ:L2.St)(G:Hp):List Ar->List V->Prop
 | [],vs=>vs=[]
 | a::l,vs=> ∃ v ws,vs=v::ws/\RepA κ T σ G a v/\xGh κ T σ G l ws
theorem xGh.mono (e:Same G G'): ∀ {l:List Ar} {vs:List V},xGh κ T σ G l vs->xGh κ T σ G' l vs
 | [],_,h=>h
 | .va d::l,vs,h=>by
  obtain ⟨v,ws,h1,h2,h3⟩:=h
  exact ⟨v,ws,h1,Rep.mono (.of e) d h2,xGh.mono e h3⟩
 | .sl i::l,vs,h=>by
  obtain ⟨v,ws,h1,h2,h3⟩:=h
  exact ⟨v,ws,h1,h2,xGh.mono e h3⟩
def tAr (κ:Ctx)(W:WX)(m:M (List Ar)):TA:=fun σ H Q=> ∃ B ρ G,Ok κ B ρ σ H G/\Pst κ W B σ G (m ρ) fun as ρ' H' G'=> ∀ vs,xGh κ B.T σ G' as vs->Q vs H'
def tA (κ:Ctx)(W:WX)(m:M (List D)):TA:=fun σ H Q=> ∃ B ρ G,Ok κ B ρ σ H G/\Pst κ W B σ G (m ρ) fun ds ρ' H' G'=> ∀ vs,RepL κ B.T G' ds vs->Q vs H'
theorem PE.imp {X:Cx}{e:Expr}{t t':TE}(h:PE X e t)(f: ∀ σ H Q,t' σ H Q->t σ H Q):PE X e t':=⟨fun pins s σ H Q I q=>h.run pins s σ H Q I (f σ H Q q)⟩
theorem PT.imp {X:Cx}{e:Expr}{t t':TT}(h:PT X e t)(f: ∀ σ H Q,t' σ H Q->t σ H Q):PT X e t':=⟨fun pins s σ H Q I q=>h.run pins s σ H Q I (f σ H Q q)⟩
theorem PW.imp {X:Cx}{e:Expr}{t t':TT}(h:PW X e t)(f: ∀ σ H Q,t' σ H Q->t σ H Q):PW X e t':=⟨fun wh pins s σ H Q I q=>h.run wh pins s σ H Q I (f σ H Q q)⟩
theorem PA.imp {X:Cx}{e:List Expr}{t t':TA}(h:PA X e t)(f: ∀ σ H Q,t' σ H Q->t σ H Q):PA X e t':=⟨fun pos pins s σ H Q I q=>h.run pos pins s σ H Q I (f σ H Q q)⟩
theorem PS.imp {X:Cx}{e:Stmt}{t t':TS}(h:PS X e t)(f: ∀ D σ H,t' D σ H->t D σ H):PS X e t':=⟨fun pins s σ H D I q=>h.run pins s σ H D I (f D σ H q)⟩
theorem PSs.imp {X:Cx}{e:List Stmt}{t t':TS}(h:PSs X e t)(f: ∀ D σ H,t' D σ H->t D σ H):PSs X e t':=⟨fun pins s σ H D I q=>h.run pins s σ H D I (f D σ H q)⟩
def fzM:SD->M D
 | .va d=>M.ret d
 | .ow d=>M.ret d.fz
 | .un=>M.no
def fE (m:M SD):M D:=m.bind fzM
section
variable {κ:Ctx}{W:WX}{B:Bas}{σ:L2.St}{H G:Hp}{ρ:List SD}
theorem Pst.ret {α:Type}{a:α}{k:α->List SD->Hp->Hp->Prop}(h:Pst κ W B σ G (M.ret a ρ) k)(o:Ok κ B ρ σ H G):k a ρ H G:=h H G o (Same.refl G)
theorem xB1 {m:M SD}{Q:VK}{k:D->List SD->Hp->Hp->Prop}(o:Ok κ B ρ σ H G)(h:Pst κ W B σ G (fE m ρ) k)
  (f: ∀ d ρ' H' G',Ok κ B ρ' σ H' G'->Same G G'->k d ρ' H' G'-> ∀ v,Rep κ B.T G' d v->Q v H'):tE κ W m σ H Q:=by
 refine ⟨B,ρ,G,o,Pst.mono (Pst.bind h) fun r ρ' H' G' o' s h' v rv=> ?_⟩
 cases r with
 | va d=>exact f d ρ' H' G' o' s (Pst.ret h' o') v rv
 | ow d=>
  obtain ⟨G2,s2,o2,r2⟩:=o'.frzR rv
  exact f _ ρ' H' G2 o2 (s.trans s2) (h' H' G2 o2 s2) v r2
 | un=>exact rv.elim
end
def mC (d:D):M SD:=M.ret (.va d)
section
variable {X:Cx}{κ:Ctx}{W:WX}
theorem e_c {e:Expr}{v:V}{d:D}(h:PE X e (tC v))(r: ∀ T G,Rep κ T G d v):PE X e (tE κ W (mC d)):=PE.imp h fun σ H Q ⟨B,ρ,G,o,q⟩=>Pst.ret q o v (r _ _)
theorem xAe:PE X (.Constant (.int i) j pos) (tE κ W (mC (.int i))):=e_c pe_int fun _ _=>rfl
theorem e_bl:PE X (.Constant (.bool b) j pos) (tE κ W (mC (.bl b))):=e_c pe_bl fun _ _=>rfl
theorem xFs:PE X (.Constant .none j pos) (tE κ W (mC .non)):=e_c pe_non fun _ _=>rfl
theorem xCy:PE X (.Constant (.str x) j pos) (tE κ W (mC (.str x))):=e_c pe_str fun _ _=>rfl
def mVar (i:Nat):M SD:=fun ρ=>match ρ[i]? with
 | some (.va d)=> .ok (.va d) ρ
 | some (.ow d)=> .ok (.va d.fz) (ρ.set i (.va d.fz))
 | _=> .no
def mMov (i:Nat):M SD:=fun ρ=>match ρ[i]? with
 | some (.va d)=> .ok (.va d) ρ
 | some (.ow d)=> .ok (.ow d) (ρ.set i .un)
 | _=> .no
theorem yJ5 (h:tE κ W (mVar i) σ H Q):tVar i σ H Q:=by
 obtain ⟨B,ρ,G,o,q⟩:=h
 unfold mVar at q
 cases e:ρ[i]? with
 | none=>
  rw [e] at q
  exact q.elim
 | some x=>
  rw [e] at q
  cases x with
  | un=>exact q.elim
  | va d=>
   obtain ⟨v,h1,h2⟩:=o.val i d e
   exact ⟨v,h1,q H G o (Same.refl G) v h2⟩
  | ow d=>
   obtain ⟨p,G',h1,s,o',r⟩:=o.frzS e
   exact ⟨_,h1,q H G' o' s _ r⟩
theorem Ok.drop (o:Ok κ B ρ σ H G)(i:Nat):Ok κ B (ρ.set i .un) σ H G:=by
 have back: ∀ {j:Nat} {x:SD},(ρ.set i .un)[j]? =some x->x≠ .un->j≠i/\ρ[j]? =some x:=fun {j x} z n=>by
  by_cases hj:j=i
  ·subst hj
   have hl:j<ρ.length:=by
    have y:=(yK5.mp z).1
    rw [yLm] at y
    exact y
   rw [yK8 hl] at z
   exact absurd (yLh.inj z).symm n
  ·rw [yLa (Ne.symm hj)] at z
   exact ⟨hj,z⟩
 exact ⟨o.fr,by rw [yLm];exact o.len,fun j d z=>o.val j d (back z (by simp)).2,fun j d z=>o.own j d (back z (by simp)).2,fun j l p d e hjl z1 z2=>o.sep j l p d e hjl (back z1 (by simp)).2 (back z2 (by simp)).2,o.anch⟩
theorem yKy (h:tE κ W (mMov i) σ H Q):tVar i σ H Q:=by
 obtain ⟨B,ρ,G,o,q⟩:=h
 unfold mMov at q
 cases e:ρ[i]? with
 | none=>
  rw [e] at q
  exact q.elim
 | some x=>
  rw [e] at q
  cases x with
  | un=>exact q.elim
  | va d=>
   obtain ⟨v,h1,h2⟩:=o.val i d e
   exact ⟨v,h1,q H G o (Same.refl G) v h2⟩
  | ow d=>
   obtain ⟨p,h1,h2,h3,h4⟩:=o.own i d e
   refine ⟨_,h1,q H G (o.drop i) (Same.refl G) _ ⟨p,rfl,h2,h3,h4,fun j e' z1 z2=> ?_⟩⟩
   have hj:j≠i:=fun y=>by
    subst y
    rw [yK8 ((yK5.mp e).1)] at z1
    cases z1
   rw [yLa (Ne.symm hj)] at z1
   exact o.sep j i p e' d hj z1 e z2 h1
theorem e_var (h:PE X (.Name x pos) (tVar i)):PE X (.Name x pos) (tE κ W (mVar i)):=PE.imp h fun _ _ _=>yJ5
theorem xQc (h:PE X (.Name x pos) (tVar i)):PE X (.Name x pos) (tE κ W (mMov i)):=PE.imp h fun _ _ _=>yKy
end
def OpD (κ:Ctx)(r:R2)(g:D->D->Option SD):Prop:= ∀ (B:Bas) (ρ:List SD) (σ:L2.St) (H G:Hp) (d e:D) (x y:V) (z:SD) (Q:VK),Ok κ B ρ σ H G->Rep κ B.T G d x->Rep κ B.T G e y->g d e=some z->
 (∀ v H' G',Ok κ B ρ σ H' G'->Same G G'->RepR κ B ρ σ H' G' z v->Q v H')->r x y H Q
def UnD (κ:Ctx)(r:V->Hp->VK->Prop)(g:D->Option SD):Prop:= ∀ (B:Bas) (ρ:List SD) (σ:L2.St) (H G:Hp) (d:D) (x:V) (z:SD) (Q:VK),Ok κ B ρ σ H G->Rep κ B.T G d x->g d=some z->
 (∀ v H' G',Ok κ B ρ σ H' G'->Same G G'->RepR κ B ρ σ H' G' z v->Q v H')->r x H Q
def xDw (κ:Ctx)(r:List V->Hp->VK->Prop)(g:List D->Option SD):Prop:= ∀ (B:Bas) (ρ:List SD) (σ:L2.St) (H G:Hp) (ds:List D) (xs:List V) (z:SD) (Q:VK),Ok κ B ρ σ H G->RepL κ B.T G ds xs->g ds=some z->
 (∀ v H' G',Ok κ B ρ σ H' G'->Same G G'->RepR κ B ρ σ H' G' z v->Q v H')->r xs H Q
def mOp (g:D->D->Option SD)(ma mb:M SD):M SD:=(fE ma).bind fun d=>(fE mb).bind fun e=>M.opt (g d e)
def mUn (g:D->Option SD)(ma:M SD):M SD:=(fE ma).bind fun d=>M.opt (g d)
section
variable {κ:Ctx}{W:WX}{σ:L2.St}{H:Hp}{Q:VK}
theorem Pst.opt {α:Type}{B:Bas}{G:Hp}{ρ:List SD}{a:Option α}{k:α->List SD->Hp->Hp->Prop}(h:Pst κ W B σ G (M.opt a ρ) k): ∃ z,a=some z/\ ∀ H' G',Ok κ B ρ σ H' G'->Same G G'->k z ρ H' G':=by
 cases a with
 | none=>exact h.elim
 | some z=>exact ⟨z,rfl,h⟩
theorem yAp {r:R2}{g:D->D->Option SD}{ma mb:M SD}(hr:OpD κ r g)(h:tE κ W (mOp g ma mb) σ H Q):tOp r (tE κ W ma) (tE κ W mb) σ H Q:=by
 obtain ⟨B,ρ,G,o,q⟩:=h
 refine xB1 o (Pst.bind q) fun d ρ1 H1 G1 o1 s1 q1 v1 r1=> ?_
 refine xB1 o1 (Pst.bind q1) fun e ρ2 H2 G2 o2 s2 q2 v2 r2=> ?_
 obtain ⟨z,hz,q3⟩:=Pst.opt q2
 exact hr B ρ2 σ H2 G2 d e v1 v2 z Q o2 (Rep.mono (.of s2) d r1) r2 hz fun v H' G' o' s' rv=>q3 H' G' o' s' v rv
end
section
variable {X:Cx}{κ:Ctx}{W:WX}{a b:Expr}{ma mb:M SD}{pos:Pos}
theorem e_op {g:D->D->Option SD}(ho:OpR X (binaryOp op) r)(hr:OpD κ r g)(ha:PE X a (tE κ W ma))(hb:PE X b (tE κ W mb)):PE X (.BinOp a op b pos) (tE κ W (mOp g ma mb)):=
 PE.imp (pe_op ho ha hb) fun _ _ _=>yAp hr
theorem xH3 {g:D->D->Option SD}(ho:OpR X (compareOp op) r)(hr:OpD κ r g)(ha:PE X a (tE κ W ma))(hb:PE X b (tE κ W mb))(hm:behindInMarks op b=false):PE X (.Compare a [op] [b] pos) (tE κ W (mOp g ma mb)):=
 PE.imp (pe_cmpR ho ha hb hm) fun _ _ _=>yAp hr
end
def boolM:D->M Bool
 | .bl b=>M.ret b
 | _=>M.no
def mTst (m:M SD):M Bool:=(fE m).bind boolM
section
variable {X:Cx}{κ:Ctx}{W:WX}{a b:Expr}{pos:Pos}{σ:L2.St}{H:Hp}
theorem xVq {m:M SD}{Q:Bool->Hp->Prop}(h:tT κ W (mTst m) σ H Q):tTest (tE κ W m) σ H Q:=by
 obtain ⟨B,ρ,G,o,q⟩:=h
 refine xB1 o (Pst.bind q) fun d ρ1 H1 G1 o1 s1 q1 v1 r1=> ?_
 cases d with
 | bl b=>exact ⟨b,r1,Pst.ret q1 o1⟩
 | _=>exact q1.elim
theorem xIb (h:PE X a (tE κ W m))(he: ∀ whole,isTrue a X.env whole=(do let v <- whole;standAt a.pos;holding [v] (truthy v)):=by intro _;rfl):PT X a (tT κ W (mTst m)):=
 PT.imp (pt_val h he) fun _ _ _ q=>xVq q
theorem xBs {g:D->D->Option SD}(ho:OpR X (compareOp op) r)(hr:OpD κ r g)(ha:PE X a (tE κ W ma))(hb:PE X b (tE κ W mb))(hm:behindInMarks op b=false):PT X (.Compare a [op] [b] pos) (tT κ W (mTst (mOp g ma mb))):=by
 refine PT.imp (pt_cmpR ho ha hb hm) fun σ H Q q=>yAp hr ?_
 exact xVq q
def mNot (m:M Bool):M Bool:=m.bind fun b=>M.ret (!b)
def mAnd (m n:M Bool):M Bool:=m.bind fun b=>if b then n else M.ret false
def mOr (m n:M Bool):M Bool:=m.bind fun b=>if b then M.ret true else n
theorem xPu {m:M Bool}(h:PT X a (tT κ W m)):PT X (.UnaryOp .Not a pos) (tT κ W (mNot m)):=by
 refine PT.imp (pt_not h) fun σ H Q ⟨B,ρ,G,o,q⟩=>⟨B,ρ,G,o,Pst.mono (Pst.bind q) fun b ρ' H' G' o' s q'=> ?_⟩
 exact Pst.ret q' o'
theorem xFv (h:PT X a (tT κ W m)):PW X (.BoolOp op [a] pos) (tT κ W m):=by
 cases op with
 | And=>exact pw_and1 h
 | Or=>exact pw_or1 h
theorem xX6 {m n:M Bool}{rest:List Expr}(h:PT X a (tT κ W m))(h2:PW X (.BoolOp .And (b::rest) pos) (tT κ W n)):PW X (.BoolOp .And (a::b::rest) pos) (tT κ W (mAnd m n)):=by
 refine PW.imp (pw_and h h2) fun σ H Q ⟨B,ρ,G,o,q⟩=>⟨B,ρ,G,o,Pst.mono (Pst.bind q) fun c ρ' H' G' o' s q'=> ?_⟩
 cases c with
 | true=>exact iteT ⟨B,ρ',G',o',q'⟩
 | false=>exact iteF (Pst.ret q' o')
theorem w_or {m n:M Bool}{rest:List Expr}(h:PT X a (tT κ W m))(h2:PW X (.BoolOp .Or (b::rest) pos) (tT κ W n)):PW X (.BoolOp .Or (a::b::rest) pos) (tT κ W (mOr m n)):=by
 refine PW.imp (pw_or h h2) fun σ H Q ⟨B,ρ,G,o,q⟩=>⟨B,ρ,G,o,Pst.mono (Pst.bind q) fun c ρ' H' G' o' s q'=> ?_⟩
 cases c with
 | true=>exact iteT (Pst.ret q' o')
 | false=>exact iteF ⟨B,ρ',G',o',q'⟩
def xKx (m n:M SD):M SD:=(mTst m).bind fun b=>if b then n else M.ret (.va (.bl false))
def mOrV (m n:M SD):M SD:=(mTst m).bind fun b=>if b then M.ret (.va (.bl true)) else n
def yEq (m:M SD):M SD:=(mTst m).bind fun b=>M.ret (.va (.bl (!b)))
theorem tstV {m:M SD}{B:Bas}{ρ:List SD}{G:Hp}{Q:VK}{k:Bool->List SD->Hp->Hp->Prop}(o:Ok κ B ρ σ H G)(h:Pst κ W B σ G (mTst m ρ) k)
  (f: ∀ b ρ' H' G',Ok κ B ρ' σ H' G'->k b ρ' H' G'->Q (.bl b) H'):tE κ W m σ H Q:=by
 refine xB1 o (Pst.bind h) fun d ρ1 H1 G1 o1 s1 q1 v1 r1=> ?_
 cases d with
 | bl b=>
  cases (show v1=V.bl b from r1)
  exact f b ρ1 H1 G1 o1 (Pst.ret q1 o1)
 | _=>exact q1.elim
theorem xNu {m n:M SD}{rest:List Expr}(h:PE X a (tE κ W m))(h2:PE X (.BoolOp .And (b::rest) pos) (tE κ W n)):PE X (.BoolOp .And (a::b::rest) pos) (tE κ W (xKx m n)):=by
 refine PE.imp (pe_and h h2) fun σ H Q ⟨B,ρ,G,o,q⟩=> ?_
 refine tstV o (Pst.bind q) fun c ρ' H' G' o' q'=>⟨c,rfl,?_⟩
 cases c with
 | true=>exact iteT ⟨B,ρ',G',o',q'⟩
 | false=>exact iteF (Pst.ret q' o' _ rfl)
theorem e_not {m:M SD}(h:PE X a (tE κ W m)):PE X (.UnaryOp .Not a pos) (tE κ W (yEq m)):=by
 refine PE.imp (pe_not h) fun σ H Q ⟨B,ρ,G,o,q⟩=> ?_
 exact tstV o (Pst.bind q) fun c ρ' H' G' o' q'=>⟨c,rfl,Pst.ret q' o' _ rfl⟩
def mIfE (c:M Bool)(m n:M SD):M SD:=c.bind fun b=>if b then m else n
theorem yG0 (hc:PT X c (tT κ W t))(ha:PE X a (tE κ W m))(hb:PE X b (tE κ W n)):PE X (.IfExp c a b pos) (tE κ W (mIfE t m n)):=by
 refine PE.imp (pe_ifExp hc ha hb) fun σ H Q ⟨B,ρ,G,o,q⟩=>⟨B,ρ,G,o,Pst.mono (Pst.bind q) fun c ρ' H' G' o' s q'=> ?_⟩
 cases c with
 | true=>exact iteT ⟨B,ρ',G',o',q'⟩
 | false=>exact iteF ⟨B,ρ',G',o',q'⟩
end
def mNil:M (List D):=M.ret []
def xAb (m:M SD)(n:M (List D)):M (List D):=(fE m).bind fun d=>n.bind fun ds=>M.ret (d::ds)
def aNil:M (List Ar):=M.ret []
def aVa (m:M SD)(n:M (List Ar)):M (List Ar):=(fE m).bind fun d=>n.bind fun ds=>M.ret (.va d::ds)
def xGu:Option SD->Bool
 | some (.va _)=>true
 | some (.ow _)=>true
 | _=>false
def aSl (i:Nat)(n:M (List Ar)):M (List Ar):=fun ρ=>if xGu ρ[i]? then (n.bind fun ds=>M.ret (.sl i::ds)) ρ else .no
section
variable {X:Cx}{κ:Ctx}{W:WX}{e:Expr}{es:List Expr}{pos:Pos}
theorem xAh:PA X [] (tA κ W mNil):=PA.imp pa_nil fun σ H Q ⟨B,ρ,G,o,q⟩=>Pst.ret q o [] rfl
theorem xAa {m:M SD}{n:M (List D)}(h:PE X e (tE κ W m))(h2:PA X es (tA κ W n))(hs:starEach (e::es) X.env=(false,eval e X.env)::starEach es X.env:=by rfl):PA X (e::es) (tA κ W (xAb m n)):=by
 refine PA.imp (pa_cons h h2 hs) fun σ H Q ⟨B,ρ,G,o,q⟩=> ?_
 refine xB1 o (Pst.bind q) fun d ρ1 H1 G1 o1 s1 q1 v1 r1=> ?_
 refine ⟨B,ρ1,G1,o1,Pst.mono (Pst.bind q1) fun ds ρ2 H2 G2 o2 s2 q2 vs rs=> ?_⟩
 exact Pst.ret q2 o2 _ ⟨v1,vs,rfl,Rep.mono (.of s2) d r1,rs⟩
theorem xAl:PA X [] (tAr κ W aNil):=PA.imp pa_nil fun σ H Q ⟨B,ρ,G,o,q⟩=>Pst.ret q o [] rfl
theorem xAr {m:M SD}{n:M (List Ar)}(h:PE X e (tE κ W m))(h2:PA X es (tAr κ W n))(hs:starEach (e::es) X.env=(false,eval e X.env)::starEach es X.env:=by rfl):PA X (e::es) (tAr κ W (aVa m n)):=by
 refine PA.imp (pa_cons h h2 hs) fun σ H Q ⟨B,ρ,G,o,q⟩=> ?_
 refine xB1 o (Pst.bind q) fun d ρ1 H1 G1 o1 s1 q1 v1 r1=> ?_
 refine ⟨B,ρ1,G1,o1,Pst.mono (Pst.bind q1) fun ds ρ2 H2 G2 o2 s2 q2 vs rs=> ?_⟩
 exact Pst.ret q2 o2 _ ⟨v1,vs,rfl,Rep.mono (.of s2) d r1,rs⟩
theorem Ok.there (o:Ok κ B ρ σ H G){i:Nat}{x:SD}(e:ρ[i]? =some x)(n:x≠ .un): ∃ v,σ[i]? =some (some v):=by
 cases x with
 | un=>exact (n rfl).elim
 | va d=>
  obtain ⟨v,h,_⟩:=o.val i d e
  exact ⟨v,h⟩
 | ow d=>
  obtain ⟨p,h,_⟩:=o.own i d e
  exact ⟨_,h⟩
theorem xC9 {i:Nat}{x:Str}{p:Pos}{n:M (List Ar)}(h:PE X (.Name x p) (tVar i))(h2:PA X es (tAr κ W n))(hs:starEach (.Name x p::es) X.env=(false,eval (.Name x p) X.env)::starEach es X.env:=by rfl):PA X (.Name x p::es) (tAr κ W (aSl i n)):=by
 refine PA.imp (pa_cons h h2 hs) fun σ H Q ⟨B,ρ,G,o,q⟩=> ?_
 unfold aSl at q
 cases hi:xGu ρ[i]? with
 | false=>
  rw [hi,if_neg yMd] at q
  exact q.elim
 | true=>
  rw [hi,if_pos rfl] at q
  obtain ⟨v,hv⟩: ∃ v,σ[i]? =some (some v):=by
   cases e:ρ[i]? with
   | none=>
    rw [e] at hi
    cases hi
   | some x=>
    refine o.there e fun z=> ?_
    rw [e,z] at hi
    cases hi
  refine ⟨v,hv,B,ρ,G,o,Pst.mono (Pst.bind q) fun ds ρ2 H2 G2 o2 s2 q2 vs rs=> ?_⟩
  exact Pst.ret q2 o2 _ ⟨v,vs,rfl,hv,rs⟩
end
inductive Fl where
 | nx|rt (r:SD)|bk|ct
abbrev S:=M Fl
def PstS (κ:Ctx)(W:WX)(B:Bas)(G:Hp)(r:Rs Fl)(D:Ends):Prop:=match r with
 | .ok .nx ρ'=> ∀ σ' H' G',Ok κ B ρ' σ' H' G'->Same G G'->D.nx σ' H'
 | .ok (.rt r) ρ'=> ∀ v σ' H' G',Ok κ B ρ' σ' H' G'->Same G G'->RepR κ B ρ' σ' H' G' r v->D.rt v H'
 | .ok .bk ρ'=> ∀ σ' H' G',Ok κ B ρ' σ' H' G'->Same G G'->D.bk σ' H'
 | .ok .ct ρ'=> ∀ σ' H' G',Ok κ B ρ' σ' H' G'->Same G G'->D.ct σ' H'
 | .ex x ρ'=> ∀ cls d σ' H' G',Ok κ B ρ' σ' H' G'->Same G G'->RepX κ B.T H' G' x cls d->W cls d σ' H'
 | .no=>False
def InA (B:Bas)(A:List Nat):Prop:= ∀ q∈B.an,q.1∈A
def tS (κ:Ctx)(A:List Nat)(W:WX)(s:S):TS:=fun D σ H=> ∃ B ρ G,InA B A/\Ok κ B ρ σ H G/\PstS κ W B G (s ρ) D
def sSeq (s t:S):S:=fun ρ=>match s ρ with
 | .ok .nx ρ'=>t ρ'
 | r=>r
def sNx:S:=M.ret .nx
def sRet (m:M SD):S:=m.bind fun r=>M.ret (.rt r)
def sRetN:S:=M.ret (.rt (.va .non))
def sSet (i:Nat)(m:M SD):S:=m.bind fun r=>fun ρ=> .ok .nx (ρ.set i r)
def xEs (m:M SD):S:=m.bind fun _=>M.ret .nx
def sIf (c:M Bool)(s t:S):S:=c.bind fun b=>if b then s else t
theorem PstS.mono {D D':Ends}(h:PstS κ W B G r D)(s:Same G G1)(hn: ∀ σ H,D.nx σ H->D'.nx σ H)(hr:D.rt=D'.rt)(hb:D.bk=D'.bk)(hc:D.ct=D'.ct):PstS κ W B G1 r D':=by
 cases r with
 | ok f ρ'=>
  cases f with
  | nx=>exact fun σ' H' G' o e=>hn _ _ (h σ' H' G' o (s.trans e))
  | rt r=>exact fun v σ' H' G' o e q=>hr ▸ h v σ' H' G' o (s.trans e) q
  | bk=>exact fun σ' H' G' o e=>hb ▸ h σ' H' G' o (s.trans e)
  | ct=>exact fun σ' H' G' o e=>hc ▸ h σ' H' G' o (s.trans e)
 | ex x ρ'=>exact fun cls d σ' H' G' o e q=>h cls d σ' H' G' o (s.trans e) q
 | no=>exact h
theorem PstS.bind {α:Type}{m:M α}{f:α->S}{ρ:List SD}{D:Ends}(h:PstS κ W B G (m.bind f ρ) D):
  Pst κ W B σ G (m ρ) fun a ρ' H' G'=>PstS κ W B G' (f a ρ') D:=by
 unfold M.bind at h
 cases e:m ρ with
 | ok a ρ'=>
  rw [e] at h
  exact fun H' G' o s=>PstS.mono h s (fun _ _ q=>q) rfl rfl rfl
 | ex x ρ'=>
  rw [e] at h
  exact fun cls d H' G' o s r=>h cls d σ H' G' o s r
 | no=>
  rw [e] at h
  exact h
section
variable {X:Cx}{κ:Ctx}{A:List Nat}{W:WX}{pos:Pos}
theorem xCt:PSs X [] (tS κ A W sNx):=PSs.imp pss_nil fun D σ H ⟨B,ρ,G,_,o,q⟩=>q σ H G o (Same.refl G)
theorem xAi {st:Stmt}{rest:List Stmt}{s t:S}(h:PS X st (tS κ A W s))(h2:PSs X rest (tS κ A W t)):PSs X (st::rest) (tS κ A W (sSeq s t)):=by
 refine PSs.imp (pss_cons h h2) fun D σ H ⟨B,ρ,G,a,o,q⟩=>⟨B,ρ,G,a,o,?_⟩
 have q':PstS κ W B G (match s ρ with| .ok .nx ρ'=>t ρ'|r=>r) D:=q
 cases e:s ρ with
 | ok f ρ'=>
  rw [e] at q'
  cases f with
  | nx=>exact fun σ' H' G' o' s'=>⟨B,ρ',G',a,o',PstS.mono q' s' (fun _ _ z=>z) rfl rfl rfl⟩
  | rt r=>exact q'
  | bk=>exact q'
  | ct=>exact q'
 | ex x ρ'=>
  rw [e] at q'
  exact q'
 | no=>
  rw [e] at q'
  exact q'
theorem xAo {st:Stmt}{s:S}(h:PS X st (tS κ A W s)):PSs X [st] (tS κ A W s):=pss_one h
theorem xBh (h:PE X e (tE κ W m)):PS X (.Return (some e) pos) (tS κ A W (sRet m)):=
 PS.imp (ps_ret h) fun D σ H ⟨B,ρ,G,a,o,q⟩=>⟨B,ρ,G,o,Pst.mono (PstS.bind q) fun r ρ' H' G' o' s q' v rv=>q' v σ H' G' o' (Same.refl G') rv⟩
theorem xFk (h:PE X e (tE κ W m))(hs:swapsWith e none pos.line X.env=pure false:=by rfl):PS X (.Expr e pos) (tS κ A W (xEs m)):=
 PS.imp (ps_expr h hs) fun D σ H ⟨B,ρ,G,a,o,q⟩=>⟨B,ρ,G,o,Pst.mono (PstS.bind q) fun r ρ' H' G' o' s q' v rv=>q' σ H' G' o' (Same.refl G')⟩
theorem s_if (hc:PT X c (tT κ W t))(h1:PSs X b1 (tS κ A W s1))(h2:PSs X b2 (tS κ A W s2)):PS X (.If c b1 b2 pos) (tS κ A W (sIf t s1 s2)):=by
 refine PS.imp (ps_if hc h1 h2) fun D σ H ⟨B,ρ,G,a,o,q⟩=>⟨B,ρ,G,o,Pst.mono (PstS.bind q) fun b ρ' H' G' o' s q'=> ?_⟩
 cases b with
 | true=>exact iteT ⟨B,ρ',G',a,o',q'⟩
 | false=>exact iteF ⟨B,ρ',G',a,o',q'⟩
theorem xJf (h:InA B A)(n:(A.contains i)=false): ∀ p,(i,p)∉B.an:=fun p hp=>by
 have z2:A.contains i=true:=List.contains_iff_mem.mpr (h _ hp)
 rw [n] at z2
 cases z2
def tG (κ:Ctx)(A:List Nat)(vs:List Nat)(tg:D->List SD->Option (List SD)):TG:=fun v σ H Q=> ∃ B ρ G d ρ',InA B A/\Ok κ B ρ σ H G/\Rep κ B.T G d v/\tg d ρ=some ρ'/\
 ∀ σ' H' G',Ok κ B ρ' σ' H' G'->Same G G'->wipe σ' vs=wipe σ vs->Q σ' H'
theorem s_set (hN:X.N.Nodup)(hi:X.N[i]? =some x)(hx:Loc X.env.scope x)(h:PE X e (tE κ W m))(n:A.contains i=false:=by rfl)(hs:swapsWith e (some (.Name x p')) pos.line X.env=pure false:=by rfl)
  (hf:X.fn x=true\/X.env.scope.names.lookup x=some .local:=by first|exact .inl rfl|exact .inr rfl|assumption):PS X (.Assign [.Name x p'] e pos) (tS κ A W (sSet i m)):=by
 refine PS.imp (ps_set hN hi hx h hs hf) fun D σ H ⟨B,ρ,G,a,o,q⟩=>⟨B,ρ,G,o,Pst.mono (PstS.bind q) fun r ρ' H' G' o' s q' v rv=> ?_⟩
 exact q' _ H' G' (o'.set i rv (xJf a n)) (Same.refl G')
end
def gN (i:Nat):D->List SD->Option (List SD):=fun d ρ=>some (ρ.set i (.va d))
def gNi:List D->List SD->Option (List SD)
 | [],ρ=>some ρ
 | _::_,_=>none
def gCo (g:D->List SD->Option (List SD))(r:List D->List SD->Option (List SD)):List D->List SD->Option (List SD)
 | d::l,ρ=>(g d ρ).bind fun ρ'=>r l ρ'
 | [],_=>none
def gTu (n:Nat)(r:List D->List SD->Option (List SD)):D->List SD->Option (List SD)
 | .tup l,ρ=>if l.length=n then r l ρ else none
 | _,_=>none
def tGs (κ:Ctx)(A:List Nat)(vs:List Nat)(tg:List D->List SD->Option (List SD)):TGs:=fun ws σ H Q=> ∃ B ρ G ds ρ',InA B A/\Ok κ B ρ σ H G/\RepL κ B.T G ds ws/\tg ds ρ=some ρ'/\
 ∀ σ' H' G',Ok κ B ρ' σ' H' G'->Same G G'->wipe σ' vs=wipe σ vs->Q σ' H'
theorem PG.imp (h:PG X e t)(f: ∀ v σ H Q,t' v σ H Q->t v σ H Q):PG X e t':=⟨fun pins s σ H v u Q I r q=>h.run pins s σ H v u Q I r (f _ _ _ _ q)⟩
theorem PGs.imp (h:PGs X e t)(f: ∀ v σ H Q,t' v σ H Q->t v σ H Q):PGs X e t':=⟨fun pins s σ H v u Q I r q=>h.run pins s σ H v u Q I r (f _ _ _ _ q)⟩
theorem xMz: ∀ {vs:List Nat},i∈vs->wipe (σ.set i w) vs=wipe σ vs
 | v::vs,h=>by
  unfold wipe
  by_cases hv:i∈vs
  ·rw [xMz hv]
  ·have e:v=i:=by
    have in_or:=yLp.mp h;rcases in_or with z|z
    ·exact z.symm
    ·exact (hv z).elim
   subst e
   have go: ∀ us:List Nat,v∉us->(wipe (σ.set v w) us).set v none=(wipe σ us).set v none:=by
    intro us
    induction us with
    | nil=>intro _;exact yMa ..
    | cons u us ih=>
     intro hu
     have n1:v≠u:=fun z=>hu (by rw [z];exact yK3 ..)
     have n2:v∉us:=fun z=>hu (yK7 _ z)
     show ((wipe (σ.set v w) us).set u none).set v none=((wipe σ us).set u none).set v none
     rw [List.set_comm _ _ (Ne.symm n1),ih n2,List.set_comm _ _ n1]
   exact go vs hv
section
variable {X:Cx}{κ:Ctx}{A vs:List Nat}
theorem yKk (h:PG X (.Name x pos) (gName i))(n:A.contains i=false:=by rfl)(hv:vs.contains i=true:=by rfl):PG X (.Name x pos) (tG κ A vs (gN i)):=by
 refine PG.imp h fun v σ H Q ⟨B,ρ,G,d,ρ',a,o,r,e,q⟩=> ?_
 cases e
 exact q _ H G (o.set i (show RepR κ B ρ σ H G (.va d) v from r) (xJf a n)) (Same.refl G) (xMz (List.contains_iff_mem.mp hv))
theorem xIe:PGs X [] (tGs κ A vs gNi):=by
 refine PGs.imp pgs_nil fun ws σ H Q ⟨B,ρ,G,ds,ρ',a,o,r,e,q⟩=> ?_
 cases ds with
 | nil=>
  cases e
  exact ⟨r,q σ H G o (Same.refl G) rfl⟩
 | cons d l=>cases e
theorem xBi {g:D->List SD->Option (List SD)}{gr:List D->List SD->Option (List SD)}(h:PG X e (tG κ A vs g))(h2:PGs X es (tGs κ A vs gr))
  (hs:(assignEach (e::es) X.env).map (·.2)=assign e X.env::(assignEach es X.env).map (·.2):=by rfl):PGs X (e::es) (tGs κ A vs (gCo g gr)):=by
 refine PGs.imp (pgs_cons h h2 hs) fun ws σ H Q ⟨B,ρ,G,ds,ρ',a,o,r,e,q⟩=> ?_
 cases ds with
 | nil=>cases e
 | cons d l=>
  obtain ⟨v,us,rfl,r1,r2⟩:=r
  obtain ⟨ρ1,e1,e2⟩:=yLj.mp e
  refine ⟨v,us,rfl,B,ρ,G,d,ρ1,a,o,r1,e1,fun σ1 H1 G1 o1 s1 w1=> ?_⟩
  exact ⟨B,ρ1,G1,l,ρ',a,o1,RepL.mono (.of s1) l r2,e2,fun σ2 H2 G2 o2 s2 w2=>q σ2 H2 G2 o2 (s1.trans s2) (w2.trans w1)⟩
def sAsg (tg:D->List SD->Option (List SD))(m:M SD):S:=(fE m).bind fun d=>fun ρ=>match tg d ρ with
 | some ρ'=> .ok .nx ρ'
 | none=> .no
theorem yHa {g:D->List SD->Option (List SD)}(h:PE X e (tE κ W m))(hg:PG X tg (tG κ A vs g))(hs:swapsWithSole [tg] e pos.line X.env=pure false:=by rfl)(hw:swappedStores [tg] e X.env=pure none:=by rfl)
  (h1:(assignEach [tg] X.env).map (·.2)=[assign tg X.env]:=by rfl):PS X (.Assign [tg] e pos) (tS κ A W (sAsg g m)):=by
 refine PS.imp (ps_asg h hg hs hw h1) fun D σ H ⟨B,ρ,G,a,o,q⟩=> ?_
 refine xB1 o (PstS.bind q) fun d ρ1 H1 G1 o1 s1 q1 v1 r1=> ?_
 cases e2:g d ρ1 with
 | none=>
  rw [e2] at q1
  exact q1.elim
 | some ρ2=>
  rw [e2] at q1
  exact ⟨B,ρ1,G1,d,ρ2,a,o1,r1,e2,fun σ2 H2 G2 o2 s2 _=>q1 σ2 H2 G2 o2 s2⟩
def sPar (i j:Nat)(m n:M SD):S:=(fE m).bind fun d=>(fE n).bind fun e=>fun ρ=> .ok .nx ((ρ.set i (.va d)).set j (.va e))
end
def mTup (n:M (List D)):M SD:=n.bind fun ds=>if ds.length<=1000 then M.ret (.va (.tup ds)) else M.no
def mLst (n:M (List D)):M SD:=n.bind fun ds=>if ds.length<=1000 then M.ret (.ow (.lst false ds)) else M.no
theorem xWi (h:n<=1000):n<=sizeLine:=Nat.le_of_lt (small1000 h)
section
variable {X:Cx}{κ:Ctx}{W:WX}{es:List Expr}{n:M (List D)}{pos:Pos}
theorem xE6 (h:PA X es (tA κ W n)):PE X (.Tuple es k pos) (tE κ W (mTup n)):=by
 refine PE.imp (pe_tup h) fun σ H Q ⟨B,ρ,G,o,q⟩=>⟨B,ρ,G,o,Pst.mono (Pst.bind q) fun ds ρ' H' G' o' s q' vs rs=> ?_⟩
 by_cases hl:ds.length<=1000
 ·rw [if_pos hl] at q'
  refine ⟨by rw [rs.length];exact xWi hl,fun p hp=> ?_⟩
  have hg:=o'.gnone hp
  exact q' _ _ (o'.alloc (o:= .tup vs) hp fun _ z=>by cases z) (Same.upd hg) _ ⟨p,vs,rfl,.inl upd_same,RepL.mono (.of (Same.upd hg)) ds rs⟩
 ·rw [if_neg hl] at q'
  exact q'.elim
theorem Ok.newOwn (o:Ok κ B ρ σ H G)(hp:H p=none)(h:xBm κ B.T G (upd H p u) p d):RepR κ B ρ σ (upd H p u) G (.ow d) (.ref p):=
 ⟨p,rfl,o.gnone hp,o.bnone hp,h,fun j e hj=>o.apart hp j e hj⟩
theorem xFx (h:PA X es (tA κ W n)):PE X (.List es pos) (tE κ W (mLst n)):=by
 refine PE.imp (pe_lst h) fun σ H Q ⟨B,ρ,G,o,q⟩=>⟨B,ρ,G,o,Pst.mono (Pst.bind q) fun ds ρ' H' G' o' s q' vs rs=> ?_⟩
 by_cases hl:ds.length<=1000
 ·rw [if_pos hl] at q'
  refine ⟨by rw [rs.length];exact xWi hl,fun p hp=> ?_⟩
  exact q' _ _ (o'.allocOwn hp) (Same.refl _) _ (o'.newOwn hp ⟨vs,upd_same,rs⟩)
 ·rw [if_neg hl] at q'
  exact q'.elim
end
def mCB (g:List D->Option SD)(n:M (List D)):M SD:=n.bind fun ds=>M.opt (g ds)
section
variable {X:Cx}{κ:Ctx}{W:WX}{e:Expr}{es:List Expr}{n:M (List D)}{pos p:Pos}{x:Str}
theorem yHm {r:List V->Hp->VK->Prop}{g:List D->Option SD}(hr:xDw κ r g)(h:tE κ W (mCB g n) σ H Q):tCB r (tA κ W n) σ H Q:=by
 obtain ⟨B,ρ,G,o,q⟩:=h
 refine ⟨B,ρ,G,o,Pst.mono (Pst.bind q) fun ds ρ' H' G' o' s q' vs rs=> ?_⟩
 obtain ⟨z,hz,q3⟩:=Pst.opt q'
 exact hr B ρ' σ H' G' ds vs z Q o' rs hz fun v H2 G2 o2 s2 rv=>q3 H2 G2 o2 s2 v rv
theorem xB4 {id:String}{r:List V->Hp->VK->Prop}{g:List D->Option SD}(hc:CallR X (.builtin id) r)(hr:xDw κ r g)(hg:Gl X x)(hm:X.mg x=none)(hv:bootBuiltins x=some (.builtin id))(ha:PA X (e::es) (tA κ W n))(hn:x≠"__name__":=by decide)(hdb:(x==("__debug__":Str))=false:=by decide)
  (he:starEach (e::es) X.env=(false,eval e X.env)::starEach es X.env:=by rfl) (hpl:(backTo pos (starEach es X.env)).any (·.1)=false:=by rfl):PE X (.Call (.Name x p) (e::es) [] pos) (tE κ W (mCB g n)):=
 PE.imp (pe_callB hc hg hm hv ha hn hdb he hpl) fun _ _ _=>yHm hr
theorem xMi {r:List V->Hp->VK->Prop}{g:List D->Option SD}(hc:CallR X (.type T) r)(hr:xDw κ r g)(hg:Gl X x)(hm:X.mg x=none)(hv:bootBuiltins x=some (.type T))(ha:PA X (e::es) (tA κ W n))(hn:x≠"__name__":=by decide)(hdb:(x==("__debug__":Str))=false:=by decide)
  (he:starEach (e::es) X.env=(false,eval e X.env)::starEach es X.env:=by rfl) (hpl:(backTo pos (starEach es X.env)).any (·.1)=false:=by rfl):PE X (.Call (.Name x p) (e::es) [] pos) (tE κ W (mCB g n)):=
 PE.imp (pe_callTy hc hg hm hv ha hn hdb he hpl) fun _ _ _=>yHm hr
theorem e_ty (hg:Gl X x)(hm:X.mg x=none)(hv:bootBuiltins x=some (.type T))(hn:x≠"__name__":=by decide)(hdb:(x==("__debug__":Str))=false:=by decide):PE X (.Name x pos) (tE κ W (mC (.ty T))):=
 e_c (pe_bltn (v:= .ty T) hg hm hv rfl hn hdb) fun _ _=>rfl
theorem xHe (hg:Gl X x)(hm:X.mg x=some u)(r:RelV v u)(rd: ∀ T G,Rep κ T G d v)(hd:(x==("__debug__":Str))=false:=by decide):PE X (.Name x pos) (tE κ W (mC d)):=
 e_c (pe_glob hg hm r hd) rd
end
inductive FR where
 | ok (r:SD) (outs:List SD)|ex (x:Exn) (outs:List SD)|no
def ownP:List SD->List V->List Addr
 | .ow _::l,.ref p::ws=>p::ownP l ws
 | _::l,_::ws=>ownP l ws
 | _,_=>[]
def xCh (κ:Ctx)(T:Pd)(G H:Hp):List SD->List V->Prop
 | [],vs=>vs=[]
 | .va d::l,vs=> ∃ v ws,vs=v::ws/\Rep κ T G d v/\xCh κ T G H l ws
 | .ow d::l,vs=> ∃ p ws,vs= .ref p::ws/\G p=none/\xBm κ T G H p d/\xCh κ T G H l ws
 | .un::_,_=>False
structure Pre (κ:Ctx)(T:Pd)(G H:Hp)(as:List SD)(vs:List V):Prop where
 args:xCh κ T G H as vs
 nd:(ownP as vs).Nodup
 gh:Same G H
 notb: ∀ a ps,G a≠some (.tbl ps)
 tabs:LamX.Tabs κ.tabs H
 lent: ∀ a,T a->noT H a≠none/\a∉ownP as vs
def OutAt (κ:Ctx)(T:Pd)(G H:Hp)(p:Addr):Option SD->Prop
 | some (.ow d)=>G p=none/\xBm κ T G H p d
 | some (.va d)=>Rep κ T G d (.ref p)
 | _=>True
structure After (κ:Ctx)(T:Pd)(G H:Hp)(as:List SD)(vs:List V)(outs:List SD)(H' G':Hp):Prop where
 keep: ∀ a o,H a=some o->a∉ownP as vs->(∀ ps,o≠ .tbl ps)->H' a=some o
 frz: ∀ a,noT H a≠none->a∉ownP as vs->G' a=G a
 sub:Same G G'
 gh:Same G' H'
 notb: ∀ a ps,G' a≠some (.tbl ps)
 tabs:LamX.Tabs κ.tabs H'
 outs: ∀ (i:Nat) d p,as[i]? =some (SD.ow d)->vs[i]? =some (V.ref p)->OutAt κ T G' H' p outs[i]?
def xUz (κ:Ctx)(T:Pd)(H:Hp)(as:List SD)(vs:List V)(outs:List SD)(H' G':Hp):SD->V->Prop
 | .va d,v=>Rep κ T G' d v
 | .ow d,v=> ∃ q,v= .ref q/\G' q=none/\xBm κ T G' H' q d/\(noT H q=none\/q∈ownP as vs)/\
   ∀ (i:Nat) c p c',as[i]? =some (SD.ow c)->vs[i]? =some (V.ref p)->outs[i]? =some (SD.ow c')->p≠q
 | .un,_=>False
def spF (κ:Ctx)(n:Nat)(f:List SD->FR):Sp:=fun vs H Q E=> ∃ T G as,as.length=n/\Pre κ T G H as vs/\match f as with
 | .ok r outs=> ∀ v H' G',After κ T G H as vs outs H' G'->xUz κ T H as vs outs H' G' r v->Q v H'
 | .ex x outs=> ∀ cls d H' G',After κ T G H as vs outs H' G'->RepX κ T H' G' x cls d->E cls d H'
 | .no=>False
theorem xCh.length: ∀ {as:List SD} {vs:List V},xCh κ T G H as vs->vs.length=as.length
 | [],vs,h=>by rw [show vs=[] from h] <;> rfl
 | .va d::l,vs,h=>by
  obtain ⟨v,ws,rfl,_,h2⟩:=h
  rw [yK9,yK9,h2.length]
 | .ow d::l,vs,h=>by
  obtain ⟨p,ws,rfl,_,_,h2⟩:=h
  rw [yK9,yK9,h2.length]
 | .un::l,vs,h=>h.elim
theorem xCh.val: ∀ {as:List SD} {vs:List V} {i:Nat} {d:D},xCh κ T G H as vs->as[i]? =some (SD.va d)-> ∃ v,vs[i]? =some v/\Rep κ T G d v
 | [],vs,i,d,h,e=>by simp at e
 | .va c::l,vs,0,d,h,e=>by
  obtain ⟨v,ws,rfl,h1,h2⟩:=h
  cases e
  exact ⟨v,rfl,h1⟩
 | .va c::l,vs,i+1,d,h,e=>by
  obtain ⟨v,ws,rfl,h1,h2⟩:=h
  exact xCh.val (i:=i) h2 e
 | .ow c::l,vs,0,d,h,e=>by cases e
 | .ow c::l,vs,i+1,d,h,e=>by
  obtain ⟨p,ws,rfl,_,_,h2⟩:=h
  exact xCh.val (i:=i) h2 e
 | .un::l,vs,i,d,h,e=>h.elim
theorem xCh.own: ∀ {as:List SD} {vs:List V} {i:Nat} {d:D},xCh κ T G H as vs->as[i]? =some (SD.ow d)-> ∃ p,vs[i]? =some (V.ref p)/\G p=none/\xBm κ T G H p d/\p∈ownP as vs
 | [],vs,i,d,h,e=>by simp at e
 | .va c::l,vs,0,d,h,e=>by cases e
 | .va c::l,vs,i+1,d,h,e=>by
  obtain ⟨v,ws,rfl,h1,h2⟩:=h
  obtain ⟨p,e1,e2,e3,e4⟩:=xCh.own (i:=i) h2 e
  exact ⟨p,e1,e2,e3,by simpa only [ownP] using e4⟩
 | .ow c::l,vs,0,d,h,e=>by
  obtain ⟨p,ws,rfl,h1,h3,h2⟩:=h
  cases e
  exact ⟨p,rfl,h1,h3,yK3 ..⟩
 | .ow c::l,vs,i+1,d,h,e=>by
  obtain ⟨p,ws,rfl,h1,h3,h2⟩:=h
  obtain ⟨q,e1,e2,e3,e4⟩:=xCh.own (i:=i) h2 e
  exact ⟨q,e1,e2,e3,yK7 _ e4⟩
 | .un::l,vs,i,d,h,e=>h.elim
theorem xCf: ∀ {as:List SD} {vs:List V} {p:Addr},p∈ownP as vs-> ∃ (i:Nat) (d:D),as[i]? =some (SD.ow d)/\vs[i]? =some (V.ref p)
 | [],_,_,h=>by cases h
 | _::_,[],_,h=>by
  simp [ownP] at h
 | .ow d::l,.ref q::ws,p,h=>by
  have in_or:=yLp.mp h;rcases in_or with rfl|h
  ·exact ⟨0,d,rfl,rfl⟩
  ·obtain ⟨i,d,e1,e2⟩:=xCf h
   exact ⟨i+1,d,e1,e2⟩
 | .va d::l,v::ws,p,h=>by
  obtain ⟨i,d,e1,e2⟩:=xCf (as:=l) (vs:=ws) (by simpa only [ownP] using h)
  exact ⟨i+1,d,e1,e2⟩
 | .un::l,v::ws,p,h=>by
  obtain ⟨i,d,e1,e2⟩:=xCf (as:=l) (vs:=ws) (by simpa only [ownP] using h)
  exact ⟨i+1,d,e1,e2⟩
 | .ow d::l,.non::ws,p,h=>by
  obtain ⟨i,d,e1,e2⟩:=xCf (as:=l) (vs:=ws) (by simpa only [ownP] using h)
  exact ⟨i+1,d,e1,e2⟩
 | .ow d::l,.bl _::ws,p,h=>by
  obtain ⟨i,d,e1,e2⟩:=xCf (as:=l) (vs:=ws) (by simpa only [ownP] using h)
  exact ⟨i+1,d,e1,e2⟩
 | .ow d::l,.int _::ws,p,h=>by
  obtain ⟨i,d,e1,e2⟩:=xCf (as:=l) (vs:=ws) (by simpa only [ownP] using h)
  exact ⟨i+1,d,e1,e2⟩
 | .ow d::l,.str _::ws,p,h=>by
  obtain ⟨i,d,e1,e2⟩:=xCf (as:=l) (vs:=ws) (by simpa only [ownP] using h)
  exact ⟨i+1,d,e1,e2⟩
 | .ow d::l,.byt _::ws,p,h=>by
  obtain ⟨i,d,e1,e2⟩:=xCf (as:=l) (vs:=ws) (by simpa only [ownP] using h)
  exact ⟨i+1,d,e1,e2⟩
 | .ow d::l,.flt _::ws,p,h=>by
  obtain ⟨i,d,e1,e2⟩:=xCf (as:=l) (vs:=ws) (by simpa only [ownP] using h)
  exact ⟨i+1,d,e1,e2⟩
 | .ow d::l,.ty _::ws,p,h=>by
  obtain ⟨i,d,e1,e2⟩:=xCf (as:=l) (vs:=ws) (by simpa only [ownP] using h)
  exact ⟨i+1,d,e1,e2⟩
theorem yFc: ∀ {as:List SD} {vs:List V} {i j:Nat} {d e:D} {p:Addr},(ownP as vs).Nodup->as[i]? =some (SD.ow d)->as[j]? =some (SD.ow e)->vs[i]? =some (V.ref p)->vs[j]? =some (V.ref p)->i=j:=by
 have mem: ∀ {as:List SD} {vs:List V} {i:Nat} {d:D} {p:Addr},as[i]? =some (SD.ow d)->vs[i]? =some (V.ref p)->p∈ownP as vs:=by
  intro as
  induction as with
  | nil=>intro vs i d p h;simp at h
  | cons a l ih=>
   intro vs i d p h1 h2
   cases vs with
   | nil=>simp at h2
   | cons v ws=>
    cases i with
    | zero=>
     cases h1
     cases h2
     exact yK3 ..
    | succ i=>
     have q:=ih (vs:=ws) (i:=i) h1 h2
     cases a with
     | ow c=>cases v <;> first|exact q|exact yK7 _ q
     | va c=>exact (by simpa only [ownP] using q)
     | un=>exact (by simpa only [ownP] using q)
 intro as
 induction as with
 | nil=>intro vs i j d e p _ h;simp at h
 | cons a l ih=>
  intro vs i j d e p nd h1 h2 h3 h4
  cases vs with
  | nil=>simp at h3
  | cons v ws=>
   have nd':(ownP l ws).Nodup:=by
    cases a with
    | ow c=>cases v <;> first|exact nd|exact (yLo.mp nd).2
    | va c=>simpa only [ownP] using nd
    | un=>simpa only [ownP] using nd
   cases i with
   | zero=>
    cases j with
    | zero=>rfl
    | succ j=>
     cases h1
     cases h3
     exact absurd (mem (as:=l) (vs:=ws) (i:=j) h2 h4) (yLo.mp nd).1
   | succ i=>
    cases j with
    | zero=>
     cases h2
     cases h4
     exact absurd (mem (as:=l) (vs:=ws) (i:=i) h1 h3) (yLo.mp nd).1
    | succ j=>rw [ih (vs:=ws) (i:=i) (j:=j) nd' h1 h2 h3 h4]
def xUk:Nat->List SD->List Nat
 | _,[]=>[]
 | n,.ow _::l=>n::xUk (n+1) l
 | n,_::l=>xUk (n+1) l
def runF (A:List Nat)(N:Nat)(s:S)(as:List SD):FR:=
 if (xUk 0 as).all (A.contains ·) then match s (as++yLi (N-as.length) SD.un) with
  | .ok (.rt r) ρ'=> .ok r (ρ'.take as.length)
  | .ok .nx ρ'=> .ok (.va .non) (ρ'.take as.length)
  | .ex x ρ'=> .ex x (ρ'.take as.length)
  | _=> .no
 else .no
theorem xHj: ∀ {as:List SD} {n i:Nat} {d:D},as[i]? =some (SD.ow d)->n+i∈xUk n as
 | [],_,_,_,h=>absurd h (by simp)
 | .ow c::l,n,0,d,h=>by rw [Nat.add_zero];exact yK3 ..
 | .ow c::l,n,i+1,d,h=>by
  have q:=xHj (as:=l) (n:=n+1) (i:=i) h
  rw [show n+(i+1)=n+1+i from by omega]
  exact yK7 _ q
 | .va c::l,n,0,d,h=>by cases h
 | .va c::l,n,i+1,d,h=>by
  have q:=xHj (as:=l) (n:=n+1) (i:=i) h
  rw [show n+(i+1)=n+1+i from by omega]
  exact q
 | .un::l,n,0,d,h=>by cases h
 | .un::l,n,i+1,d,h=>by
  have q:=xHj (as:=l) (n:=n+1) (i:=i) h
  rw [show n+(i+1)=n+1+i from by omega]
  exact q
def anOf:Nat->List SD->List V->List (Nat×Addr)
 | n,.ow _::l,.ref p::ws=>(n,p)::anOf (n+1) l ws
 | n,_::l,_::ws=>anOf (n+1) l ws
 | _,_,_=>[]
theorem xTm: ∀ {as:List SD} {vs:List V} {n i:Nat} {p:Addr},(i,p)∈anOf n as vs-> ∃ j d,i=n+j/\as[j]? =some (SD.ow d)/\vs[j]? =some (V.ref p):=by
 intro as
 induction as with
 | nil=>intro vs n i p h;cases h
 | cons a l ih=>
  intro vs n i p h
  cases vs with
  | nil=>
   cases a <;> cases h
  | cons v ws=>
   have next:(i,p)∈anOf (n+1) l ws-> ∃ j d,i=n+j/\(a::l)[j]? =some (SD.ow d)/\(v::ws)[j]? =some (V.ref p):=fun q=>by
    obtain ⟨j,d,e1,e2,e3⟩:=ih q
    exact ⟨j+1,d,by omega,e2,e3⟩
   cases a with
   | ow c=>
    cases v with
    | ref q=>
     have in_or:=yLp.mp h;rcases in_or with e|h
     ·cases e
      exact ⟨0,c,rfl,rfl,rfl⟩
     ·exact next h
    | _=>exact next h
   | va c=>exact next (by simpa only [anOf] using h)
   | un=>exact next (by simpa only [anOf] using h)
theorem xSn: ∀ {as:List SD} {vs:List V} {n j:Nat} {p:Addr} {d:D},as[j]? =some (SD.ow d)->vs[j]? =some (V.ref p)->(n+j,p)∈anOf n as vs:=by
 intro as
 induction as with
 | nil=>intro vs n j p d h;simp at h
 | cons a l ih=>
  intro vs n j p d h1 h2
  cases vs with
  | nil=>simp at h2
  | cons v ws=>
   cases j with
   | zero=>
    cases h1
    cases h2
    exact yK3 ..
   | succ j=>
    have q:=ih (vs:=ws) (n:=n+1) (j:=j) h1 h2
    rw [show n+1+j=n+(j+1) from by omega] at q
    cases a with
    | ow c=>cases v <;> first|exact q|exact yK7 _ q
    | va c=>exact (by simpa only [anOf] using q)
    | un=>exact (by simpa only [anOf] using q)
theorem Pre.ok {N:List Str}(p:Pre κ T G H as vs)(hn:as.length<=N.length):
  Ok κ ⟨fun a=>if a∈ownP as vs then none else noT H a,G,T,anOf 0 as vs⟩ (as++yLi (N.length-as.length) SD.un) (L2.start N vs) H G:=by
 have hl:=p.args.length
 have at_: ∀ {i:Nat} {x:SD},(as++yLi (N.length-as.length) SD.un)[i]? =some x->x≠ .un->as[i]? =some x/\i<as.length:=fun {i x} e n=>by
  by_cases hi:i<as.length
  ·rw [yLk hi] at e
   exact ⟨e,hi⟩
  ·rw [yL2 (by omega),yM3] at e
   split at e
   ·exact absurd (yLh.inj e).symm n
   ·cases e
 have sl: ∀ {i:Nat} {v:V},vs[i]? =some v->(L2.start N vs)[i]? =some (some v):=fun {i v} e=>by
  have hi:=(yK5.mp e).1
  unfold L2.start
  rw [yLk (by rw [yK2];exact hi),yLe,e]
  rfl
 have ls: ∀ {i:Nat} {v:V},i<as.length->(L2.start N vs)[i]? =some (some v)->vs[i]? =some v:=fun {i v} hi e=>by
  have h2:i<vs.length:=by omega
  unfold L2.start at e
  rw [yLk (by rw [yK2];exact h2),yLe,yLb h2] at e
  rw [yLb h2]
  have e':=yLh.inj e
  rw [<- yLh.inj e']
 refine ⟨⟨fun a o e _=> ?_,fun a ps e=> ?_,fun a _=>rfl,Same.refl G,p.gh,p.notb,p.tabs,fun a h=> ?_⟩,?_,fun i d e=> ?_,fun i d e=> ?_,fun i j q d e hij h1 h2 h3 h4=> ?_,fun i q hq=> ?_⟩
 ·have e':(if a∈ownP as vs then none else noT H a)=some o:=e
  by_cases ha:a∈ownP as vs
  ·rw [if_pos ha] at e'
   cases e'
  ·rw [if_neg ha] at e'
   exact (xHb e').1
 ·have e':(if a∈ownP as vs then none else noT H a)=some (.tbl ps):=e
  by_cases ha:a∈ownP as vs
  ·rw [if_pos ha] at e'
   cases e'
  ·rw [if_neg ha] at e'
   exact xQ7 e'
 ·obtain ⟨h1,h2⟩:=p.lent a h
  show (if a∈ownP as vs then none else noT H a)≠none
  rw [if_neg h2]
  exact h1
 ·unfold L2.start
  rw [yLn,yLn,yK2,yL6,yL6,hl]
 ·obtain ⟨e1,_⟩:=at_ e (by simp)
  obtain ⟨v,e2,e3⟩:=p.args.val e1
  exact ⟨v,sl e2,e3⟩
 ·obtain ⟨e1,_⟩:=at_ e (by simp)
  obtain ⟨q,e2,e3,e4,e5⟩:=p.args.own e1
  exact ⟨q,sl e2,e3,if_pos e5,e4⟩
 ·obtain ⟨e1,l1⟩:=at_ h1 (by simp)
  obtain ⟨e2,l2⟩:=at_ h2 (by simp)
  exact hij (yFc p.nd e1 e2 (ls l1 h3) (ls l2 h4))
 ·obtain ⟨j,d,e1,e2,e3⟩:=xTm hq
  rw [e1,Nat.zero_add]
  exact sl e3
theorem Pre.after {N:List Str}(p:Pre κ T G H as vs){ρ':List SD}{σ':L2.St}{H' G':Hp}
  (o:Ok κ ⟨fun a=>if a∈ownP as vs then none else noT H a,G,T,anOf 0 as vs⟩ ρ' σ' H' G'):After κ T G H as vs (ρ'.take as.length) H' G':=by
 have hb: ∀ {a:Addr},a∉ownP as vs->(if a∈ownP as vs then none else noT H a)=noT H a:=fun {a} h=>if_neg h
 refine ⟨fun a u e n nt=>o.fr.keep a u ((hb n).trans (xCj e nt)) nt,fun a e n=>o.fr.frz a (by show (if a∈ownP as vs then none else noT H a)≠none;rw [hb n];exact e),o.fr.sub,o.fr.gh,o.fr.notb,o.fr.tabs,fun i d q e1 e2=> ?_⟩
 have hi:i<as.length:=(yK5.mp e1).1
 have an:σ'[i]? =some (some (V.ref q)):=by
  have z:=o.anch (0+i) q (xSn (n:=0) e1 e2)
  rw [Nat.zero_add] at z
  exact z
 rw [yM2 hi]
 cases e3:ρ'[i]? with
 | none=>exact True.intro
 | some x=>
  cases x with
  | un=>exact True.intro
  | va c=>
   obtain ⟨v,h1,h2⟩:=o.val i c e3
   rw [an] at h1
   cases h1
   exact h2
  | ow c=>
   obtain ⟨r,h1,h2,h3,h4⟩:=o.own i c e3
   rw [an] at h1
   cases h1
   exact ⟨h2,h4⟩
theorem Pre.res (p:Pre κ T G H as vs){ρ':List SD}{σ':L2.St}{H' G':Hp}
  (o:Ok κ ⟨fun a=>if a∈ownP as vs then none else noT H a,G,T,anOf 0 as vs⟩ ρ' σ' H' G') (h:RepR κ ⟨fun a=>if a∈ownP as vs then none else noT H a,G,T,anOf 0 as vs⟩ ρ' σ' H' G' r v):xUz κ T H as vs (ρ'.take as.length) H' G' r v:=by
 cases r with
 | un=>exact h.elim
 | va d=>exact h
 | ow d=>
  obtain ⟨q,rfl,h1,h2,h3,h4⟩:=h
  refine ⟨q,rfl,h1,h3,?_,fun i c x c' e1 e2 e3 z=> ?_⟩
  ·by_cases hq:q∈ownP as vs
   ·exact .inr hq
   ·exact .inl ((if_neg hq).symm.trans h2)
  ·have hi:i<as.length:=(yK5.mp e1).1
   rw [yM2 hi] at e3
   refine h4 i c' e3 ?_
   have y:=o.anch (0+i) x (xSn (n:=0) e1 e2)
   rw [Nat.zero_add] at y
   rw [y,z]
section
variable {P:Program}{w:World}{K:PySem.W.Frag}{f:Addr}{fd:FuncData}{mg:Str->Option Value}{base:Heap}{x qual:Str}{params:Arguments}{body:List Stmt}{scope:Scope}{dvs:List V}{kws:List (Str×V)}
theorem FunD.okC {CX:CXT}{N ps:List Str}{k:Nat}{sp:Sp}(F:FunD K x qual params body scope dvs kws f fd)(S:FnScope N ps scope)(len: ∀ vs H Q E,sp vs H Q E->vs.length=ps.length)
  (hbody: ∀ (cdv:Value) (A:Around) (outer:List Env) (s:Shared) (H:Hp) (vs:List V) (Q:VK) (E:XK),fd.code=cdv->Room k (A.deeper (envOfC qual scope s.heap.objs.size f cdv))->sp vs H Q E->
   ∃ t,PSs (cxOf CX P w K mg base N qual scope f cdv A outer s H E) body t/\t { nx:=fun _ H'=>Q .non H',rt:=Q } (L2.start N vs) H):FnOk P w K mg base CX (k+1) f fd ps sp:=by
 obtain ⟨_,_,_,_,_,_,_,cdv,_,_,rfl,lk,cd,_⟩:=F.ex
 exact fn_of lk cd S len fun A outer s H vs Q E hr q=>hbody cdv A outer s H vs Q E rfl hr q
theorem yGy {κ:Ctx}{A:List Nat}{N ps:List Str}{k:Nat}{s:S}(F:FunD K x qual params body scope dvs kws f fd)(Sc:FnScope N ps scope)
  (hbody: ∀ (cdv:Value) (Ar:Around) (outer:List Env) (s0:Shared) (H:Hp) (E:XK),fd.code=cdv->Room k (Ar.deeper (envOfC qual scope s0.heap.objs.size f cdv))->
   PSs (cxOf (L2.CX P w) P w K mg base N qual scope f cdv Ar outer s0 H E) body (tS κ A (fun cls d _ H=>E cls d H) s)):FnOk P w K mg base (L2.CX P w) (k+1) f fd ps (spF κ ps.length (runF A N.length s)):=by
 refine FunD.okC F Sc (fun vs H Q E h=> ?_) (fun cdv Ar outer s0 H vs Q E hcd hr h=>⟨_,hbody cdv Ar outer s0 H E hcd hr,?_⟩)
 ·obtain ⟨T,G,as,hl,p,_⟩:=h
  rw [p.args.length,hl]
 ·obtain ⟨T,G,as,hl,p,q⟩:=h
  have hn:as.length<=N.length:=by
   have z:=congrArg yMu Sc.pre
   rw [yLv] at z
   omega
  unfold runF at q
  by_cases hA:(xUk 0 as).all (A.contains ·)=true
  ·rw [if_pos hA] at q
   refine ⟨⟨fun a=>if a∈ownP as vs then none else noT H a,G,T,anOf 0 as vs⟩,as++yLi (N.length-as.length) SD.un,G,fun z hz=> ?_,p.ok hn,?_⟩
   ·obtain ⟨i,a⟩:=z
    obtain ⟨j,d,e1,e2,e3⟩:=xTm hz
    have m:=xHj (n:=0) e2
    have y:=yLu.mp hA _ m
    rw [e1]
    exact List.contains_iff_mem.mp y
   ·cases e:s (as++yLi (N.length-as.length) SD.un) with
    | ok fl ρ'=>
     rw [e] at q
     cases fl with
     | nx=>exact fun σ' H' G' o s=>q .non H' G' (p.after (N:=N) o) rfl
     | rt r=>exact fun v σ' H' G' o s rv=>q v H' G' (p.after (N:=N) o) (p.res o rv)
     | bk=>exact q.elim
     | ct=>exact q.elim
    | ex x ρ'=>
     rw [e] at q
     exact fun cls d σ' H' G' o s rx=>q cls d H' G' (p.after (N:=N) o) rx
    | no=>
     rw [e] at q
     exact q.elim
  ·rw [if_neg hA] at q
   exact q.elim
theorem yKp (F:FunD K x qual params body scope dvs kws f fd)(Sc:FnScope N ps scope)
  (hbody: ∀ (cdv:Value) (Ar:Around) (outer:List Env) (s0:Shared) (H:Hp) (E:XK),Room k (Ar.deeper (envOfC qual scope s0.heap.objs.size f cdv))->
   PSs (cxOf (L2.CX P w) P w K mg base N qual scope f cdv Ar outer s0 H E) body (tS κ A (fun cls d _ H=>E cls d H) s)):FnOk P w K mg base (L2.CX P w) (k+1) f fd ps (spF κ ps.length (runF A N.length s)):=
 yGy F Sc fun cdv Ar outer s0 H E _ hr=>hbody cdv Ar outer s0 H E hr
end
def slots:List Ar->List Nat
 | []=>[]
 | .sl i::l=>i::slots l
 | .va _::l=>slots l
def getA (ρ:List SD):Ar->Option SD
 | .va d=>some (.va d)
 | .sl i=>match ρ[i]? with
  | some (.va d)=>some (.va d)
  | some (.ow d)=>some (.ow d)
  | _=>none
def xHf (ρ:List SD):List Ar->Option (List SD)
 | []=>some []
 | a::l=>(getA ρ a).bind fun x=>(xHf ρ l).bind fun xs=>some (x::xs)
def isOw:Option SD->Bool
 | some (.ow _)=>true
 | _=>false
def xF8:List SD->List Ar->List SD->List SD
 | ρ,.sl i::l,os=>xF8 (if isOw ρ[i]? then ρ.set i (os.headD .un) else ρ) l os.tail
 | ρ,.va _::l,os=>xF8 ρ l os.tail
 | ρ,[],_=>ρ
def xAy (f:List SD->FR)(dd:List D)(n:M (List Ar)):M SD:=n.bind fun as=>fun ρ=>if (slots as).Nodup then match xHf ρ as with
 | none=> .no
 | some xs=>match f (xs++dd.map SD.va) with
  | .ok r outs=> .ok r (xF8 ρ as outs)
  | .ex x outs=> .ex x (xF8 ρ as outs)
  | .no=> .no
 else .no
theorem xFg: ∀ {as:List Ar} {m i:Nat},as[m]? =some (Ar.sl i)->i∈slots as
 | [],_,_,h=>by simp at h
 | .sl j::l,0,i,h=>by cases h;exact yK3 ..
 | .sl j::l,m+1,i,h=>yK7 _ (xFg (as:=l) (m:=m) h)
 | .va d::l,0,i,h=>by cases h
 | .va d::l,m+1,i,h=>xFg (as:=l) (m:=m) h
theorem xS3: ∀ {as:List Ar} {ρ outs:List SD} {j:Nat} {x:SD},(slots as).Nodup->(xF8 ρ as outs)[j]? =some x->
  (∃ (m:Nat) (c:D),as[m]? =some (Ar.sl j)/\ρ[j]? =some (SD.ow c)/\x=outs[m]?.getD .un)\/((∀ (m:Nat) (c:D),as[m]? =some (Ar.sl j)->ρ[j]? ≠some (SD.ow c))/\ρ[j]? =some x):=by
 intro as
 induction as with
 | nil=>intro ρ outs j x _ h;exact .inr ⟨fun m c h=>by simp at h,h⟩
 | cons a l ih=>
  intro ρ outs j x nd h
  have tl: ∀ (m:Nat),outs.tail[m]? =outs[m+1]? :=fun m=>by cases outs <;> simp
  cases a with
  | va d=>
   rcases ih (ρ:=ρ) (outs:=outs.tail) nd h with ⟨m,c,e1,e2,e3⟩|⟨e1,e2⟩
   ·exact .inl ⟨m+1,c,e1,e2,by rw [e3,tl]⟩
   ·refine .inr ⟨fun m c h=> ?_,e2⟩
    cases m with
    | zero=>cases h
    | succ m=>exact e1 m c h
  | sl i=>
   have nd':=yLo.mp (show (i::slots l).Nodup from nd)
   have h':(xF8 (if isOw ρ[i]? =true then ρ.set i (outs.headD .un) else ρ) l outs.tail)[j]? =some x:=h
   by_cases hj:j=i
   ·subst hj
    have noj: ∀ (m:Nat),l[m]? ≠some (Ar.sl j):=fun m z=>nd'.1 (xFg z)
    rcases ih nd'.2 h' with ⟨m,c,e1,_,_⟩|⟨_,e2⟩
    ·exact absurd e1 (noj m)
    ·by_cases ho:isOw ρ[j]? =true
     ·rw [if_pos ho] at e2
      obtain ⟨c,hc⟩: ∃ c,ρ[j]? =some (SD.ow c):=by
       cases e:ρ[j]? with
       | none=>rw [e] at ho;cases ho
       | some y=>
        cases y with
        | ow c=>exact ⟨c,rfl⟩
        | va c=>rw [e] at ho;cases ho
        | un=>rw [e] at ho;cases ho
      rw [yK8 ((yK5.mp hc).1)] at e2
      refine .inl ⟨0,c,rfl,hc,?_⟩
      rw [<- yLh.inj e2]
      cases outs <;> rfl
     ·rw [if_neg ho] at e2
      refine .inr ⟨fun m c _ z=>ho (by rw [z];rfl),e2⟩
   ·have same:(if isOw ρ[i]? =true then ρ.set i (outs.headD .un) else ρ)[j]? =ρ[j]? :=by
     by_cases ho:isOw ρ[i]? =true
     ·rw [if_pos ho,yLa (Ne.symm hj)]
     ·rw [if_neg ho]
    rcases ih nd'.2 h' with ⟨m,c,e1,e2,e3⟩|⟨e1,e2⟩
    ·exact .inl ⟨m+1,c,e1,same.symm.trans e2,by rw [e3,tl]⟩
    ·refine .inr ⟨fun m c hm=> ?_,same.symm.trans e2⟩
     cases m with
     | zero=>
      cases hm
      exact (hj rfl).elim
     | succ m=>rw [<- same];exact e1 m c hm
theorem yEb: ∀ {as:List Ar} {ρ outs:List SD},(xF8 ρ as outs).length=ρ.length:=by
 intro as
 induction as with
 | nil=>intros;rfl
 | cons a l ih=>
  intro ρ outs
  cases a with
  | va d=>exact ih
  | sl i=>
   refine (ih (ρ:=if isOw ρ[i]? =true then ρ.set i (outs.headD .un) else ρ)).trans ?_
   by_cases ho:isOw ρ[i]? =true
   ·rw [if_pos ho,yLm]
   ·rw [if_neg ho]
section
variable {κ:Ctx}{B:Bas}{ρ:List SD}{σ:L2.St}{H G:Hp}
theorem xL5 (o:Ok κ B ρ σ H G): ∀ {as:List Ar} {xs:List SD} {vs:List V},xHf ρ as=some xs->xGh κ B.T σ G as vs->xCh κ B.T G H xs vs
 | [],xs,vs,h,r=>by
  cases h
  exact r
 | a::l,xs,vs,h,r=>by
  obtain ⟨x,e1,h2⟩:=yLj.mp h
  obtain ⟨ys,e2,e3⟩:=yLj.mp h2
  cases e3
  obtain ⟨v,ws,rfl,r1,r2⟩:=r
  have ih:=xL5 o e2 r2
  cases a with
  | va d=>
   cases e1
   exact ⟨v,ws,rfl,r1,ih⟩
  | sl i=>
   have r1:σ[i]? =some (some v):=r1
   dsimp only [getA] at e1
   cases e:ρ[i]? with
   | none=>rw [e] at e1;cases e1
   | some y=>
    rw [e] at e1
    cases y with
    | un=>cases e1
    | va d=>
     cases e1
     obtain ⟨w',h1,h2⟩:=o.val i d e
     rw [r1] at h1
     cases h1
     exact ⟨v,ws,rfl,h2,ih⟩
    | ow d=>
     cases e1
     obtain ⟨p,h1,h2,h3,h4⟩:=o.own i d e
     rw [r1] at h1
     cases h1
     exact ⟨p,ws,rfl,h2,h4,ih⟩
theorem xPq: ∀ {as:List Ar} {xs:List SD} {m:Nat} {d:D},xHf ρ as=some xs->xs[m]? =some (SD.ow d)-> ∃ i,as[m]? =some (Ar.sl i)/\ρ[i]? =some (SD.ow d)
 | [],xs,m,d,h,e=>by
  cases h
  simp at e
 | a::l,xs,m,d,h,e=>by
  obtain ⟨x,e1,h2⟩:=yLj.mp h
  obtain ⟨ys,e2,e3⟩:=yLj.mp h2
  cases e3
  cases m with
  | succ m=>exact xPq (as:=l) (m:=m) e2 e
  | zero=>
   cases e
   cases a with
   | va c=>cases e1
   | sl i=>
    refine ⟨i,rfl,?_⟩
    dsimp only [getA] at e1
    cases e:ρ[i]? with
    | none=>rw [e] at e1;cases e1
    | some y=>
     rw [e] at e1
     cases y with
     | un=>cases e1
     | va c=>cases e1
     | ow c=>cases e1;rfl
theorem xM3: ∀ {as:List Ar} {xs:List SD} {m i:Nat} {d:D},xHf ρ as=some xs->as[m]? =some (Ar.sl i)->ρ[i]? =some (SD.ow d)->xs[m]? =some (SD.ow d)
 | [],xs,m,i,d,h,e,_=>by simp at e
 | a::l,xs,m,i,d,h,e,q=>by
  obtain ⟨x,e1,h2⟩:=yLj.mp h
  obtain ⟨ys,e2,e3⟩:=yLj.mp h2
  cases e3
  cases m with
  | succ m=>exact xM3 (as:=l) (m:=m) e2 e q
  | zero=>
   cases e
   dsimp only [getA] at e1
   rw [q] at e1
   cases e1
   rfl
theorem xJa: ∀ {as:List Ar} {vs:List V} {m i:Nat} {v:V},xGh κ B.T σ G as vs->as[m]? =some (Ar.sl i)->vs[m]? =some v->σ[i]? =some (some v)
 | [],vs,m,i,v,r,e,_=>by simp at e
 | a::l,vs,m,i,v,r,e,q=>by
  obtain ⟨u,ws,rfl,r1,r2⟩:=r
  cases m with
  | succ m=>exact xJa (as:=l) (m:=m) r2 e q
  | zero=>
   cases e
   cases q
   exact r1
theorem xOw: ∀ {as:List Ar} {vs:List V},xGh κ B.T σ G as vs->vs.length=as.length
 | [],vs,r=>by rw [show vs=[] from r] <;> rfl
 | a::l,vs,r=>by
  obtain ⟨u,ws,rfl,r1,r2⟩:=r
  rw [yK9,yK9,xOw r2]
theorem xKn: ∀ {as:List Ar} {xs:List SD},xHf ρ as=some xs->xs.length=as.length
 | [],xs,h=>by cases h;rfl
 | a::l,xs,h=>by
  obtain ⟨x,e1,h2⟩:=yLj.mp h
  obtain ⟨ys,e2,e3⟩:=yLj.mp h2
  cases e3
  rw [yK9,yK9,xKn e2]
theorem xZb (nd:(slots as).Nodup): ∀ {m m' i:Nat},as[m]? =some (Ar.sl i)->as[m']? =some (Ar.sl i)->m=m':=by
 induction as with
 | nil=>intro m m' i h;simp at h
 | cons a l ih=>
  intro m m' i h h'
  have nd2:(slots l).Nodup:=by
   cases a with
   | va d=>exact nd
   | sl j=>exact (yLo.mp (show (j::slots l).Nodup from nd)).2
  cases m with
  | zero=>
   cases m' with
   | zero=>rfl
   | succ m'=>
    cases h
    exact absurd (xFg (as:=l) (m:=m') h') (yLo.mp (show (i::slots l).Nodup from nd)).1
  | succ m=>
   cases m' with
   | zero=>
    cases h'
    exact absurd (xFg (as:=l) (m:=m) h) (yLo.mp (show (i::slots l).Nodup from nd)).1
   | succ m'=>rw [ih nd2 (m:=m) (m':=m') h h']
theorem xT1: ∀ {as:List SD} {vs:List V},(∀ (i j:Nat) d e p,i≠j->as[i]? =some (SD.ow d)->as[j]? =some (SD.ow e)->vs[i]? =some (V.ref p)->vs[j]? =some (V.ref p)->False)->(ownP as vs).Nodup:=by
 intro as
 induction as with
 | nil=>intro vs _;exact yLw
 | cons a l ih=>
  intro vs h
  cases vs with
  | nil=>cases a <;> exact yLw
  | cons v ws=>
   have ih':=ih (vs:=ws) fun i j d e p hij h1 h2 h3 h4=>h (i+1) (j+1) d e p (by omega) h1 h2 h3 h4
   cases a with
   | va c=>simpa only [ownP] using ih'
   | un=>simpa only [ownP] using ih'
   | ow c=>
    cases v with
    | ref p=>
     refine yLo.mpr ⟨fun hm=> ?_,ih'⟩
     obtain ⟨i,d,e1,e2⟩:=xCf hm
     exact h 0 (i+1) c d p (by omega) rfl e1 rfl e2
    | _=>exact ih'
theorem xCh.append (hd:RepL κ T G dd dvs): ∀ {as:List SD} {vs:List V},xCh κ T G H as vs->xCh κ T G H (as++dd.map SD.va) (vs++dvs)
 | [],vs,h=>by
  rw [show vs=[] from h]
  have go: ∀ {dd:List D} {dvs:List V},RepL κ T G dd dvs->xCh κ T G H (dd.map SD.va) dvs:=by
   intro dd
   induction dd with
   | nil=>intro dvs r;exact r
   | cons d l ih=>
    intro dvs r
    obtain ⟨v,ws,e,r1,r2⟩:=r
    exact ⟨v,ws,e,r1,ih r2⟩
  exact go hd
 | .va d::l,vs,h=>by
  obtain ⟨v,ws,rfl,h1,h2⟩:=h
  exact ⟨v,ws++dvs,rfl,h1,xCh.append hd h2⟩
 | .ow d::l,vs,h=>by
  obtain ⟨p,ws,rfl,h1,h3,h2⟩:=h
  exact ⟨p,ws++dvs,rfl,h1,h3,xCh.append hd h2⟩
 | .un::l,vs,h=>h.elim
theorem xPt (o:Ok κ B ρ σ H G)(nd:(slots as).Nodup)(hx:xHf ρ as=some xs)(r:xGh κ B.T σ G as vs)(hd:RepL κ B.T G dd dvs):
  Pre κ B.T G H (xs++dd.map SD.va) (vs++dvs)/\(∀ {outs:List SD} {H' G':Hp},After κ B.T G H (xs++dd.map SD.va) (vs++dvs) outs H' G'->Ok κ B (xF8 ρ as outs) σ H' G'/\
   ∀ {z:SD} {v:V},xUz κ B.T H (xs++dd.map SD.va) (vs++dvs) outs H' G' z v->RepR κ B (xF8 ρ as outs) σ H' G' z v):=by
 have a0:=xL5 o hx r
 have lx:=xKn hx
 have lv:=xOw r
 have noD: ∀ {m:Nat} {d:D},(xs++dd.map SD.va)[m]? =some (SD.ow d)->xs[m]? =some (SD.ow d)/\m<xs.length:=fun {m d} e=>by
  by_cases hm:m<xs.length
  ·rw [yLk hm] at e
   exact ⟨e,hm⟩
  ·rw [yL2 (by omega),yLe] at e
   cases e2:dd[m-xs.length]? with
   | none=>rw [e2] at e;cases e
   | some y=>rw [e2] at e;cases e
 have vat: ∀ {m:Nat} {v:V},m<xs.length->(vs++dvs)[m]? =some v->vs[m]? =some v:=fun {m v} hm e=>by
  rw [yLk (by omega)] at e
  exact e
 have arg: ∀ {m:Nat} {d:D} {p:Addr},(xs++dd.map SD.va)[m]? =some (SD.ow d)->(vs++dvs)[m]? =some (V.ref p)-> ∃ i,as[m]? =some (Ar.sl i)/\ρ[i]? =some (SD.ow d)/\σ[i]? =some (some (V.ref p)):=fun {m d p} e1 e2=>by
  obtain ⟨e3,hm⟩:=noD e1
  obtain ⟨i,e4,e5⟩:=xPq hx e3
  exact ⟨i,e4,e5,xJa r e4 (vat hm e2)⟩
 have slot: ∀ {p:Addr},p∈ownP (xs++dd.map SD.va) (vs++dvs)-> ∃ (m i:Nat) (d:D),as[m]? =some (Ar.sl i)/\ρ[i]? =some (SD.ow d)/\σ[i]? =some (some (V.ref p)):=fun {p} hp=>by
  obtain ⟨m,d,e1,e2⟩:=xCf hp
  obtain ⟨i,h1,h2,h3⟩:=arg e1 e2
  exact ⟨m,i,d,h1,h2,h3⟩
 have pb: ∀ {p:Addr},p∈ownP (xs++dd.map SD.va) (vs++dvs)->B.H p=none:=fun {p} hp=>by
  obtain ⟨m,i,d,h1,h2,h3⟩:=slot hp
  obtain ⟨q,e1,_,e3,_⟩:=o.own i d h2
  rw [h3] at e1
  cases e1
  exact e3
 have nb: ∀ {a:Addr},B.H a≠none->a∉ownP (xs++dd.map SD.va) (vs++dvs):=fun {a} h z=>h (pb z)
 have seen: ∀ {a:Addr},B.H a≠none->noT H a≠none:=fun {a} h=>by
  obtain ⟨u,_,n,e⟩:=o.fr.obj h
  rw [xCj e n]
  exact fun z=>nomatch z
 refine ⟨⟨a0.append hd,xT1 fun i j d e p hij h1 h2 h3 h4=> ?_,o.fr.gh,o.fr.notb,o.fr.tabs,fun a h=>⟨seen (o.fr.lent a h),nb (o.fr.lent a h)⟩⟩,fun {outs H' G'} af=>⟨?_,fun {z v} rz=> ?_⟩⟩
 ·obtain ⟨i',q1,q2,q3⟩:=arg h1 h3
  obtain ⟨j',w1,w2,w3⟩:=arg h2 h4
  have ne:i'≠j':=fun z=>by
   subst z
   exact hij (xZb nd q1 w1)
  exact o.sep i' j' p d e ne q2 w2 q3 w3
 ·-- the state behind it
  have own_in: ∀ {j:Nat} {d:D} {q:Addr},ρ[j]? =some (SD.ow d)->σ[j]? =some (some (V.ref q))->(∀ (m:Nat),as[m]? ≠some (Ar.sl j))->q∉ownP (xs++dd.map SD.va) (vs++dvs):=fun {j d q} h1 h2 h3 hq=>by
   obtain ⟨m,i,c,e1,e2,e3⟩:=slot hq
   have ne:j≠i:=fun z=>h3 m (by rw [z];exact e1)
   exact o.sep j i q d c ne h1 e2 h2 e3
  have vj: ∀ {m j:Nat} {c:D} {p:Addr},as[m]? =some (Ar.sl j)->ρ[j]? =some (SD.ow c)->σ[j]? =some (some (V.ref p))->(xs++dd.map SD.va)[m]? =some (SD.ow c)/\(vs++dvs)[m]? =some (V.ref p):=fun {m j c p} e1 e2 e3=>by
   have h1:=xM3 hx e1 e2
   have hm:=(yK5.mp h1).1
   refine ⟨by rw [yLk hm];exact h1,?_⟩
   rw [yLk (by omega)]
   have hv:m<vs.length:=by omega
   have y:=xJa r e1 (yLb hv)
   rw [e3] at y
   rw [yLb hv,<- yLh.inj (yLh.inj y)]
  refine ⟨⟨fun a u e n=>af.keep a u (o.fr.keep a u e n) (nb (by rw [e];simp)) n,o.fr.nt,fun a e=>(af.frz a (seen e) (nb e)).trans (o.fr.frz a e),o.fr.sub.trans af.sub,af.gh,af.notb,af.tabs,o.fr.lent⟩,by rw [yEb];exact o.len,fun j d e=> ?_,fun j d e=> ?_,fun i j p d e hij h1 h2 h3 h4=> ?_,o.anch⟩
  ·rcases xS3 nd e with ⟨m,c,e1,e2,e3⟩|⟨_,e2⟩
   ·obtain ⟨p,q1,_,_,_⟩:=o.own j c e2
    obtain ⟨h1,h2⟩:=vj e1 e2 q1
    have y:=af.outs m c p h1 h2
    cases e4:outs[m]? with
    | none=>simp only [e4] at e3;cases e3
    | some x=>
     rw [e4] at e3 y
     cases (show SD.va d=x from e3)
     exact ⟨_,q1,y⟩
   ·obtain ⟨v,h1,h2⟩:=o.val j d e2
    exact ⟨v,h1,Rep.mono (.of af.sub) d h2⟩
  ·rcases xS3 nd e with ⟨m,c,e1,e2,e3⟩|⟨e1,e2⟩
   ·obtain ⟨p,q1,_,q3,_⟩:=o.own j c e2
    obtain ⟨h1,h2⟩:=vj e1 e2 q1
    have y:=af.outs m c p h1 h2
    cases e4:outs[m]? with
    | none=>simp only [e4] at e3;cases e3
    | some x=>
     rw [e4] at e3 y
     cases (show SD.ow d=x from e3)
     exact ⟨p,q1,y.1,q3,y.2⟩
   ·obtain ⟨q,q1,q2,q3,q4⟩:=o.own j d e2
    have hn:=own_in e2 q1 fun m z=>e1 m d z e2
    obtain ⟨u,u1,u2,_⟩:=q4.obj
    exact ⟨q,q1,(af.frz q (by rw [xCj u1 u2];simp) hn).trans q2,q3,q4.mono af.sub ((af.keep q u u1 hn u2).trans u1.symm)⟩
  ·have old: ∀ {m:Nat} {x:D},(xF8 ρ as outs)[m]? =some (SD.ow x)-> ∃ y,ρ[m]? =some (SD.ow y):=fun {m x} z=>by
    rcases xS3 nd z with ⟨_,c,_,e2,_⟩|⟨_,e2⟩
    ·exact ⟨c,e2⟩
    ·exact ⟨x,e2⟩
   obtain ⟨y1,w1⟩:=old h1
   obtain ⟨y2,w2⟩:=old h2
   exact o.sep i j p y1 y2 hij w1 w2 h3 h4
 ·cases z with
  | un=>exact rz.elim
  | va d=>exact rz
  | ow d=>
   obtain ⟨q,rfl,h1,h2,h3,h4⟩:=rz
   refine ⟨q,rfl,h1,?_,h2,fun j e hj hs=> ?_⟩
   ·rcases h3 with h3|h3
    ·cases eb:B.H q with
     | none=>rfl
     | some u=>exact absurd h3 (seen (by rw [eb];simp))
    ·exact pb h3
   ·rcases xS3 nd hj with ⟨m,c,e1,e2,e3⟩|⟨e1,e2⟩
    ·have h5:=xM3 hx e1 e2
     have hm:=(yK5.mp h5).1
     have hv:m<vs.length:=by omega
     have y:=xJa r e1 (yLb hv)
     rw [hs] at y
     have e6:(vs++dvs)[m]? =some (V.ref q):=by
      rw [yLk hv,yLb hv,<- yLh.inj (yLh.inj y)]
     have e5:(xs++dd.map SD.va)[m]? =some (SD.ow c):=by
      rw [yLk hm]
      exact h5
     cases e4:outs[m]? with
     | none=>simp only [e4] at e3;cases e3
     | some x=>
      rw [e4] at e3
      cases (show SD.ow e=x from e3)
      exact h4 m c q e e5 e6 e4 rfl
    ·obtain ⟨p,q1,q2,q3,q4⟩:=o.own j e e2
     rw [hs] at q1
     cases q1
     rcases h3 with h3|h3
     ·obtain ⟨u,u1,u2,_⟩:=q4.obj
      rw [xCj u1 u2] at h3
      cases h3
     ·obtain ⟨m,i,c,w1,w2,w3⟩:=slot h3
      have ne:j≠i:=fun z=>e1 m e (by rw [z];exact w1) e2
      exact o.sep j i q e c ne e2 w2 hs w3
end
def xIa (X:Cx)(W:WX):Prop:= ∀ σ,PassesAt (L2.CX X.prog X.w) X σ (fun cls d H=>W cls d σ H)
theorem xA9 (tk:Takes X W):xIa X W:=fun σ=>passAt tk σ
theorem xMt:xIa X (fun _ _ _ _=>False):=fun σ _ _ _ _ _ _ c=>by
 obtain ⟨_,_,_,_,_,_,_,_,_,_,_,_,z⟩:=c
 exact z.elim
section
variable {X:Cx}{κ:Ctx}{W:WX}{k N:Nat}{f:Addr}{fd:FuncData}{ps:List Str}{fn:List SD->FR}{dvs:List V}{dd:List D}{ds:List Value}{x:Str}{p pos:Pos}{e:Expr}{es:List Expr}{n:M (List Ar)}{σ:L2.St}{H:Hp}{Q:VK}
theorem yG8 (hN:ps.length=N)(hd: ∀ T G,RepL κ T G dd dvs)(hl: ∀ ρ as ρ' xs,n ρ= .ok as ρ'->xHf ρ' as=some xs->xs.length+dd.length=N)(h:tE κ W (xAy fn dd n) σ H Q):
  tCallSD (spF κ N fn) dvs (fun σ cls d H=>W cls d σ H) (tAr κ W n) σ H Q:=by
 obtain ⟨B,ρ,G,o,q⟩:=h
 refine ⟨B,ρ,G,o,?_⟩
 have q1:=Pst.bind q
 cases en:n ρ with
 | ex x ρ'=>
  rw [en] at q1
  exact q1
 | no=>
  rw [en] at q1
  exact q1
 | ok as ρ'=>
  rw [en] at q1
  refine fun H1 G1 o1 s1 vs rs=> ?_
  have q2:=q1 H1 G1 o1 s1
  dsimp only at q2
  by_cases nd:(slots as).Nodup
  ·rw [if_pos nd] at q2
   cases hx:xHf ρ' as with
   | none=>
    rw [hx] at q2
    exact q2.elim
   | some xs=>
    rw [hx] at q2
    dsimp only at q2
    obtain ⟨pre,back⟩:=xPt o1 nd hx rs (hd B.T G1)
    refine ⟨B.T,G1,xs++dd.map SD.va,?_,pre,?_⟩
    ·rw [yLn,yK2]
     exact hl ρ as ρ' xs en hx
    ·cases ef:fn (xs++dd.map SD.va) with
     | ok r outs=>
      rw [ef] at q2
      exact fun v H2 G2 af rv=>q2 H2 G2 (back af).1 af.sub v ((back af).2 rv)
     | ex x outs=>
      rw [ef] at q2
      exact fun cls d H2 G2 af rx=>q2 cls d H2 G2 (back af).1 af.sub rx
     | no=>
      rw [ef] at q2
      exact q2.elim
  ·rw [if_neg nd] at q2
   exact q2.elim
theorem yDb (F:FnOk X.prog X.w X.K X.mg X.base (L2.CX X.prog X.w) k f fd ps (spF κ N fn))(hN:ps.length=N)(hr:Room k X.A)(hg:Gl X x)(hm:X.mg x=some (.ref f))(hk:PySem.W.keepIn X.K (.ref f)=true)(hb:Binds X.K fd ps ds)(hv:Vals dvs ds)(hd: ∀ T G,RepL κ T G dd dvs)
  (hx:xIa X W) (ha:PA X (e::es) (tAr κ W n)) (hl: ∀ ρ as ρ' xs,n ρ= .ok as ρ'->xHf ρ' as=some xs->xs.length+dd.length=N) (hdb:(x==("__debug__":Str))=false:=by decide) (he:starEach (e::es) X.env=(false,eval e X.env)::starEach es X.env:=by rfl) (hpl:(backTo pos (starEach es X.env)).any (·.1)=false:=by rfl):
  PE X (.Call (.Name x p) (e::es) [] pos) (tE κ W (xAy fn dd n)):=PE.imp (pe_callSD F hr hg hm hk hb hv hx ha hdb he hpl) fun _ _ _=>yG8 hN hd hl
end
def ALen (n:M (List Ar))(k:Nat):Prop:= ∀ ρ as ρ',n ρ= .ok as ρ'->as.length=k
theorem yBg:ALen aNil 0:=fun ρ as ρ' h=>by cases h;rfl
theorem xNg (h:ALen n k):ALen (aVa m n) (k+1):=fun ρ as ρ' e=>by
 unfold aVa M.bind at e
 cases e1:fE m ρ with
 | ok d ρ1=>
  rw [e1] at e
  cases e2:n ρ1 with
  | ok ds ρ2=>
   simp only [e2] at e
   cases e
   rw [yK9,h _ _ _ e2]
  | ex x ρ2=>simp only [e2] at e;cases e
  | no=>simp only [e2] at e;cases e
 | ex x ρ1=>rw [e1] at e;cases e
 | no=>rw [e1] at e;cases e
theorem xBc (h:ALen n k):ALen (aSl i n) (k+1):=fun ρ as ρ' e=>by
 unfold aSl at e
 by_cases hi:xGu ρ[i]? =true
 ·rw [if_pos hi] at e
  unfold M.bind at e
  cases e2:n ρ with
  | ok ds ρ2=>
   simp only [e2] at e
   cases e
   rw [yK9,h _ _ _ e2]
  | ex x ρ2=>simp only [e2] at e;cases e
  | no=>simp only [e2] at e;cases e
 ·rw [if_neg hi] at e
  cases e
theorem xW0 {k N:Nat}{dd:List D}(h:ALen n k)(hk:k+dd.length=N): ∀ ρ as ρ' xs,n ρ= .ok as ρ'->xHf ρ' as=some xs->xs.length+dd.length=N:=fun ρ as ρ' xs e hx=>by
 rw [xKn hx,h _ _ _ e]
 exact hk
def ItD (κ:Ctx)(T:Pd)(G0:Hp)(J:It)(l:List D):Prop:= ∀ (i:Nat) (B:Bas) (ρ:List SD) (σ:L2.St) (H G:Hp),B.T=T->Ok κ B ρ σ H G->Same G0 G->
 (i<l.length->J.go i H)/\(l.length<=i->J.stop i H)/\ ∀ d,l[i]? =some d-> ∀ x H',J.yld i H x H'-> ∃ G',Ok κ B ρ σ H' G'/\Same G G'/\Same H H'/\Rep κ T G' d x
def tI (κ:Ctx)(W:WX)(m:M (List D)):TI:=fun σ H R=> ∃ B ρ G,Ok κ B ρ σ H G/\Pst κ W B σ G (m ρ) fun l ρ' H' G'=> ∀ J,ItD κ B.T G' J l->R J H'
theorem PI.imp (h:PI X tg e t)(f: ∀ σ H R,t' σ H R->t σ H R):PI X tg e t':=⟨fun pins s σ H R I q=>h.run pins s σ H R I (f _ _ _ q)⟩
theorem PI.or (h:PI X tg e t)(h':PI X tg e t'):PI X tg e (fun σ H R=>t σ H R\/t' σ H R):=⟨fun pins s σ H R I q=>by
 rcases q with q|q
 ·exact h.run pins s σ H R I q
 ·exact h'.run pins s σ H R I q⟩
def seqM:D->M (List D)
 | .lst _ l=>M.ret l
 | .tup l=>M.ret l
 | .str s=>M.ret (s.cps.toList.map fun c=>D.str ⟨#[c]⟩)
 | _=>M.no
def iSeq (m:M SD):M (List D):=(fE m).bind seqM
theorem Rep.seqL (s:Same G H)(h:Rep κ T G (.lst b l) v): ∃ a vs,v= .ref a/\SqL κ.K G a vs/\SqL κ.K H a vs/\RepL κ T G l vs:=by
 obtain ⟨a,vs,rfl,⟨h1,_⟩,h2⟩:=h
 exact ⟨a,vs,rfl,SqL.of h1,SqL.of (s _ _ h1),h2⟩
theorem xS1 (hs:SqL κ.K G0 a vs)(r:RepL κ T G0 l vs):ItD κ T G0 (Itl κ.K a) l:=by
 intro i B ρ σ H G hT o s
 have hH:SqL κ.K H a vs:=xMk (s.trans o.fr.gh) hs
 refine ⟨fun hi=> ?_,fun hi=>⟨vs,hH,by rw [r.length];exact hi⟩,fun d hd x H' y=> ?_⟩
 ·obtain ⟨v,h1,h2⟩:=r.get (yLb hi)
  exact ⟨vs,v,hH,h1⟩
 ·obtain ⟨rfl,y⟩:=y
  obtain ⟨v,h1,h2⟩:=r.get hd
  have z:=y vs hH
  rw [h1] at z
  cases z
  exact ⟨G,o,Same.refl G,Same.refl _,Rep.mono (.of s) d h2⟩
theorem xV4 (hs:xGy κ.K G0 a vs)(r:RepL κ T G0 l vs):ItD κ T G0 (Itt κ.K a) l:=by
 intro i B ρ σ H G hT o s
 have hH:SqT κ.K H a vs:=hs.sq (s.trans o.fr.gh)
 refine ⟨fun hi=> ?_,fun hi=>⟨vs,hH,by rw [r.length];exact hi⟩,fun d hd x H' y=> ?_⟩
 ·obtain ⟨v,h1,h2⟩:=r.get (yLb hi)
  exact ⟨vs,v,hH,h1⟩
 ·obtain ⟨rfl,y⟩:=y
  obtain ⟨v,h1,h2⟩:=r.get hd
  have z:=y vs hH
  rw [h1] at z
  cases z
  exact ⟨G,o,Same.refl G,Same.refl _,Rep.mono (.of s) d h2⟩
def rngD (lo:Int)(n:Nat):List D:=(List.range n).map fun i=> .int (lo+(i:Nat))
theorem yGl {κ:Ctx}{T:Pd}{G0:Hp}{lo:Int}{n:Nat}:ItD κ T G0 (Itr lo n) (rngD lo n):=by
 intro i B ρ σ H G hT o s
 have hl:(rngD lo n).length=n:=by simp [rngD]
 refine ⟨fun hi=>by rw [hl] at hi;exact hi,fun hi=>by rw [hl] at hi;exact hi,fun d hd x H' y=> ?_⟩
 obtain ⟨rfl,rfl⟩:=y
 unfold rngD at hd
 rw [yLe] at hd
 obtain ⟨j,e1,e2⟩:=yK4.mp hd
 have hj:j=i:=by
  have q:=yK5.mp e1
  obtain ⟨q1,q2⟩:=q
  rw [List.getElem_range] at q2
  exact q2.symm
 subst hj
 subst e2
 exact ⟨G,o,Same.refl G,Same.refl _,rfl⟩
section
variable {X:Cx}{κ:Ctx}{W:WX}{e:Expr}{m:M SD}{tg:Expr}
theorem xWh:ItD κ T G0 (Its s) (s.cps.toList.map fun c=>D.str ⟨#[c]⟩):=by
 intro i B ρ σ H G hT o k
 have len:(s.cps.toList.map fun c=>D.str ⟨#[c]⟩).length=s.cps.size:=by simp
 refine ⟨fun hi=>by rw [len] at hi;exact hi,fun hi=>by rw [len] at hi;exact hi,fun d hd x H' y=> ?_⟩
 obtain ⟨rfl,c,hc,rfl⟩:=y
 rw [yLe,Array.getElem?_toList,hc] at hd
 cases hd
 exact ⟨G,o,Same.refl G,Same.refl _,rfl⟩
theorem xDc (hK:X.K=κ.K)(h:PE X e (tE κ W m)):PI X tg e (tI κ W (iSeq m)):=by
 refine PI.imp (PI.or (pi_list h) (PI.or (pi_tup h) (pi_str h))) fun σ H R ⟨B,ρ,G,o,q⟩=> ?_
 have q1:=Pst.bind q
 cases em:fE m ρ with
 | ex x ρ'=>
  refine .inl (xB1 (k:=fun _ _ _ _=>False) o ?_ fun _ _ _ _ _ _ z=>z.elim)
  rw [em]
  rw [em] at q1
  exact q1
 | no=>
  rw [em] at q1
  exact q1.elim
 | ok d ρ'=>
  cases d with
  | lst b l=>
   refine .inl (xB1 (k:=fun d ρ' H' G'=>d= .lst b l/\Pst κ W B σ G' (seqM d ρ') fun l ρ' H' G'=> ∀ J,ItD κ B.T G' J l->R J H') o ?_ fun d ρ1 H1 G1 o1 s1 z v r=> ?_)
   ·rw [em] at q1 ⊢
    exact fun H' G' o' s'=>⟨rfl,q1 H' G' o' s'⟩
   ·obtain ⟨rfl,z⟩:=z
    obtain ⟨a,vs,rfl,h1,h2,h3⟩:=r.seqL o1.fr.gh
    refine ⟨a,rfl,⟨vs,hK ▸ h2⟩,?_⟩
    rw [hK]
    exact Pst.ret z o1 _ (xS1 h1 h3)
  | tup l=>
   refine .inr (.inl (xB1 (k:=fun d ρ' H' G'=>d= .tup l/\Pst κ W B σ G' (seqM d ρ') fun l ρ' H' G'=> ∀ J,ItD κ B.T G' J l->R J H') o ?_ fun d ρ1 H1 G1 o1 s1 z v r=> ?_))
   ·rw [em] at q1 ⊢
    exact fun H' G' o' s'=>⟨rfl,q1 H' G' o' s'⟩
   ·obtain ⟨rfl,z⟩:=z
    obtain ⟨a,vs,rfl,h1,h3⟩:=r
    refine ⟨a,rfl,⟨vs,hK ▸ h1.sq o1.fr.gh⟩,?_⟩
    rw [hK]
    exact Pst.ret z o1 _ (xV4 h1 h3)
  | str x=>
   refine .inr (.inr (xB1 (k:=fun d ρ' H' G'=>d= .str x/\Pst κ W B σ G' (seqM d ρ') fun l ρ' H' G'=> ∀ J,ItD κ B.T G' J l->R J H') o ?_ fun d ρ1 H1 G1 o1 s1 z v r=> ?_))
   ·rw [em] at q1 ⊢
    exact fun H' G' o' s'=>⟨rfl,q1 H' G' o' s'⟩
   ·obtain ⟨rfl,z⟩:=z
    cases (show v=V.str x from r)
    exact ⟨x,rfl,Pst.ret z o1 _ xWh⟩
  | _=>
   refine .inl (xB1 (k:=fun _ _ _ _=>False) o ?_ fun _ _ _ _ _ _ z=>z.elim)
   rw [em] at q1 ⊢
   exact fun H' G' o' s'=>q1 H' G' o' s'
def rng1M:List D->M (List D)
 | [.int j]=>if -(2 ^ 62)<=j/\j<2 ^ 62 then M.ret (rngD 0 j.toNat) else M.no
 | _=>M.no
def rng2M:List D->M (List D)
 | [.int i,.int j]=>if -(2 ^ 62)<=i/\i<2 ^ 62/\ -(2 ^ 62)<=j/\j<2 ^ 62 then M.ret (rngD i (j-i).toNat) else M.no
 | _=>M.no
def iRg1 (n:M (List D)):M (List D):=n.bind rng1M
def iRg2 (n:M (List D)):M (List D):=n.bind rng2M
theorem xLq (hg:Gl X "range")(hm:X.mg "range"=none)(ha:PA X [a] (tA κ W n))(hs:starEach [a] X.env=[(false,eval a X.env)]:=by rfl):PI X tg (.Call (.Name "range" p) [a] [] pos) (tI κ W (iRg1 n)):=by
 refine PI.imp (pi_range1 hg hm ha hs) fun σ H R ⟨B,ρ,G,o,q⟩=>⟨B,ρ,G,o,Pst.mono (Pst.bind q) fun ds ρ' H' G' o' s q' vs rs=> ?_⟩
 match ds,q',rs with
 | [.int j],q',rs=>
  obtain ⟨v,ws,rfl,rfl,rfl⟩:=rs
  have q2:Pst κ W B σ G' ((if -(2 ^ 62)<=j/\j<2 ^ 62 then M.ret (rngD 0 j.toNat) else M.no) ρ') fun l ρ' H' G'=> ∀ J,ItD κ B.T G' J l->R J H':=q'
  by_cases hj: -(2 ^ 62)<=j/\j<2 ^ 62
  ·rw [if_pos hj] at q2
   exact ⟨j,rfl,hj.1,hj.2,Pst.ret q2 o' _ yGl⟩
  ·rw [if_neg hj] at q2
   exact q2.elim
end
def forL (tg:D->List SD->Option (List SD))(b:S):List D->S
 | [],ρ=> .ok .nx ρ
 | d::l,ρ=>match tg d ρ with
  | none=> .no
  | some ρ1=>match b ρ1 with
   | .ok .nx ρ2=>forL tg b l ρ2
   | .ok .ct ρ2=>forL tg b l ρ2
   | .ok .bk ρ2=> .ok .nx ρ2
   | r=>r
def sFor (m:M (List D))(tg:D->List SD->Option (List SD))(b:S):S:=m.bind fun l=>forL tg b l
section
variable {X:Cx}{κ:Ctx}{A vs:List Nat}{W:WX}{e:Expr}{tg:Expr}{pos:Pos}
theorem xKw {g:D->List SD->Option (List SD)}(hp:PassesOwn (model X.prog X.w) X.A X.env X.xe)(hc:X.calm=true)(hi:PI X tg e (tI κ W m))(hg:PG X tg (tG κ A vs g))(hb:PSs X body (tS κ A W b))
  (hs: ∀ x,foldedSetIterable e X.env x=pure x:=by intro _;rfl):PS X (.For tg e body [] pos) (tS κ A W (sFor m g b)):=by
 refine PS.imp (ps_for hp hc hi hg hb hs) fun D σ H ⟨B,ρ,G,a,o,q⟩=>⟨B,ρ,G,o,Pst.mono (PstS.bind q) fun l ρ0 H0 G0 o0 s0 q0 J hJ=> ?_⟩
 refine ⟨fun i n σ' H'=>n=l.length-i/\i<=l.length/\ ∃ ρ' G',Ok κ B ρ' σ' H' G'/\Same G0 G'/\PstS κ W B G' (forL g b (l.drop i) ρ') D,⟨l.length,by simp,yLy _,ρ0,G0,o0,Same.refl _,q0⟩,?_⟩
 rintro i n σ1 H1 ⟨rfl,hi,ρ1,G1,o1,s1,q1⟩
 obtain ⟨j1,j2,j3⟩:=hJ i B ρ1 σ1 H1 G1 rfl o1 s1
 by_cases hlt:i<l.length
 ·refine .inr ⟨j1 hlt,fun σ' H'=>i+1<=l.length/\ ∃ ρ' G',Ok κ B ρ' σ' H' G'/\Same G0 G'/\PstS κ W B G' (forL g b (l.drop (i+1)) ρ') D,fun σ' H' ⟨h1,h2⟩=>⟨l.length-(i+1),by omega,rfl,h1,h2⟩,fun x H2 y=> ?_⟩
  obtain ⟨G2,o2,s2,_,r2⟩:=j3 l[i] (yLb hlt) x H2 y
  rw [yL1 hlt] at q1
  have q1':PstS κ W B G1 (match g l[i] ρ1 with
   | none=> .no
   | some ρ1=>match b ρ1 with
    | .ok .nx ρ2=>forL g b (l.drop (i+1)) ρ2
    | .ok .ct ρ2=>forL g b (l.drop (i+1)) ρ2
    | .ok .bk ρ2=> .ok .nx ρ2
    | r=>r) D:=q1
  cases eg:g l[i] ρ1 with
  | none=>
   rw [eg] at q1'
   exact q1'.elim
  | some ρ2=>
   rw [eg] at q1'
   dsimp only at q1'
   refine ⟨B,ρ1,G2,l[i],ρ2,a,o2,r2,eg,fun σ3 H3 G3 o3 s3 _=>⟨B,ρ2,G3,a,o3,?_⟩⟩
   have s13:=s2.trans s3
   cases eb:b ρ2 with
   | ok f ρ3=>
    rw [eb] at q1'
    cases f with
    | nx=>exact fun σ4 H4 G4 o4 s4=>⟨hlt,ρ3,G4,o4,(s1.trans s13).trans s4,PstS.mono q1' (s13.trans s4) (fun _ _ z=>z) rfl rfl rfl⟩
    | ct=>exact fun σ4 H4 G4 o4 s4=>⟨hlt,ρ3,G4,o4,(s1.trans s13).trans s4,PstS.mono q1' (s13.trans s4) (fun _ _ z=>z) rfl rfl rfl⟩
    | bk=>exact fun σ4 H4 G4 o4 s4=>q1' σ4 H4 G4 o4 (s13.trans s4)
    | rt r=>exact fun v σ4 H4 G4 o4 s4 rv=>q1' v σ4 H4 G4 o4 (s13.trans s4) rv
   | ex x ρ3=>
    rw [eb] at q1'
    exact fun cls d σ4 H4 G4 o4 s4 rx=>q1' cls d σ4 H4 G4 o4 (s13.trans s4) rx
   | no=>
    rw [eb] at q1'
    exact q1'.elim
 ·have ei:l.drop i=[]:=yMn.mpr (by omega)
  rw [ei] at q1
  exact .inl ⟨j2 (by omega),q1 σ1 H1 G1 o1 (Same.refl _)⟩
def xW5 (c:M Bool)(b:S):Nat->S
 | 0,_=> .no
 | n+1,ρ=>match c ρ with
  | .ok true ρ1=>match b ρ1 with
   | .ok .nx ρ2=>xW5 c b n ρ2
   | .ok .ct ρ2=>xW5 c b n ρ2
   | .ok .bk ρ2=> .ok .nx ρ2
   | r=>r
  | .ok false ρ1=> .ok .nx ρ1
  | .ex x ρ1=> .ex x ρ1
  | .no=> .no
def sWhile (fuel:List SD->Nat)(c:M Bool)(b:S):S:=fun ρ=>xW5 c b (fuel ρ) ρ
end
def xBa (ρ:List SD):List Nat->List SD
 | []=>ρ
 | v::vs=>(xBa ρ vs).set v .un
def unw (ρ ρ':List SD):List Nat->List SD
 | []=>ρ'
 | v::vs=>(unw ρ ρ' vs).set v (ρ.getD v .un)
theorem xOb (ρ:List SD): ∀ vs:List Nat,(xBa ρ vs).length=ρ.length
 | []=>rfl
 | v::vs=>by
  show ((xBa ρ vs).set v .un).length=ρ.length
  rw [yLm,xOb ρ vs]
theorem xMs (ρ ρ':List SD): ∀ vs:List Nat,(unw ρ ρ' vs).length=ρ'.length
 | []=>rfl
 | v::vs=>by
  show ((unw ρ ρ' vs).set v _).length=ρ'.length
  rw [yLm,xMs ρ ρ' vs]
theorem xC4 {ρ:List SD}{j:Nat}{x:SD}: ∀ {vs:List Nat},(xBa ρ vs)[j]? =some x->x≠ .un->j∉vs/\ρ[j]? =some x
 | [],h,_=>⟨by simp,h⟩
 | v::vs,h,n=>by
  have h':((xBa ρ vs).set v .un)[j]? =some x:=h
  by_cases hj:v=j
  ·subst hj
   have hl:v<(xBa ρ vs).length:=by
    have y:=(yK5.mp h').1
    rw [yLm] at y
    exact y
   rw [yK8 hl] at h'
   exact absurd (yLh.inj h').symm n
  ·rw [yLa hj] at h'
   obtain ⟨a,b⟩:=xC4 h' n
   refine ⟨fun z=> ?_,b⟩
   have in_or:=yLp.mp z;rcases in_or with z|z
   ·exact hj z.symm
   ·exact a z
theorem xO6 {ρ:List SD}{j:Nat}: ∀ {vs:List Nat},j∉vs->(xBa ρ vs)[j]? =ρ[j]?
 | [],_=>rfl
 | v::vs,h=>by
  show ((xBa ρ vs).set v .un)[j]? =ρ[j]?
  rw [yLa (fun z=>h (by rw [z];exact yK3 ..)),xO6 fun z=>h (yK7 _ z)]
theorem xIm (hl:ρ'.length=ρ.length): ∀ {vs:List Nat},j∈vs->(unw ρ ρ' vs)[j]? =ρ[j]?
 | v::vs,h=>by
  show ((unw ρ ρ' vs).set v (ρ.getD v .un))[j]? =ρ[j]?
  by_cases hj:v=j
  ·subst hj
   by_cases hv:v<ρ.length
   ·rw [yK8 (by rw [xMs,hl];exact hv),List.getD_eq_getElem?_getD,yLb hv]
    rfl
   ·rw [yL8.mpr (by rw [yLm,xMs,hl];omega),yL8.mpr (by omega)]
  ·rw [yLa hj]
   refine xIm hl ?_
   have in_or:=yLp.mp h;rcases in_or with z|z
   ·exact absurd z.symm hj
   ·exact z
theorem xFi: ∀ {vs:List Nat},j∉vs->(unw ρ ρ' vs)[j]? =ρ'[j]?
 | [],_=>rfl
 | v::vs,h=>by
  show ((unw ρ ρ' vs).set v _)[j]? =ρ'[j]?
  rw [yLa (fun z=>h (by rw [z];exact yK3 ..)),xFi fun z=>h (yK7 _ z)]
def lcL (vs:List Nat)(tg:D->List SD->Option (List SD))(tt:M Bool)(te:M SD):List D->List D->M (List D)
 | [],acc,ρ=> .ok acc ρ
 | d::l,acc,ρ=>match tg d (xBa ρ vs) with
  | none=> .no
  | some ρ1=>match tt ρ1 with
   | .ok false ρ2=>lcL vs tg tt te l acc (unw ρ ρ2 vs)
   | .ok true ρ2=>match fE te ρ2 with
    | .ok y ρ3=>if acc.length<1000000 then lcL vs tg tt te l (acc++[y]) (unw ρ ρ3 vs) else .no
    | _=> .no
   | _=> .no
def mLc (it:M (List D))(vs:List Nat)(tg:D->List SD->Option (List SD))(tt:M Bool)(te:M SD):M SD:=it.bind fun l=>(lcL vs tg tt te l []).bind fun acc=>M.ret (.ow (.lst false acc))
open Classical in
noncomputable def hidS (ρ:List SD) (σ:L2.St) (H:Hp):Hp:=fun a=>if ∃ (j:Nat) (d:D),ρ[j]? =some (SD.ow d)/\σ[j]? =some (some (V.ref a)) then none else noT H a
section
variable {κ:Ctx}{B:Bas}{ρ ρ':List SD}{σ σ':L2.St}{H G H' G':Hp}
theorem xYl {j:Nat}(h1:ρ[j]? =some (SD.ow d))(h2:σ[j]? =some (some (V.ref a))):hidS ρ σ H a=none:=if_pos ⟨j,d,h1,h2⟩
theorem xEy (h: ∀ (j:Nat) (d:D),ρ[j]? =some (SD.ow d)->σ[j]? ≠some (some (V.ref a))):hidS ρ σ H a=noT H a:=if_neg fun ⟨j,d,h1,h2⟩=>h j d h1 h2
theorem xPb (h:hidS ρ σ H a=none):(∃ (j:Nat) (d:D),ρ[j]? =some (SD.ow d)/\σ[j]? =some (some (V.ref a)))\/noT H a=none:=by
 by_cases z: ∃ (j:Nat) (d:D),ρ[j]? =some (SD.ow d)/\σ[j]? =some (some (V.ref a))
 ·exact .inl z
 ·refine .inr ?_
  have e:hidS ρ σ H a=noT H a:=if_neg z
  rw [<- e,h]
theorem xGz {a:Addr}{u:HO}(h:hidS ρ σ H a=some u):H a=some u/\ ∀ ps,u≠ .tbl ps:=by
 unfold hidS at h
 split at h
 ·cases h
 ·exact xHb h
noncomputable def Bas.at_ (B:Bas) (ρ:List SD) (σ:L2.St) (H G:Hp) (vs:List Nat):Bas:=⟨hidS (xBa ρ vs) σ H,G,B.T,[]⟩
theorem xI5 (k:Frame κ B H G)(h:B.H a≠none):noT H a≠none:=by
 obtain ⟨u,_,n,e⟩:=k.obj h
 rw [xCj e n]
 exact fun z=>nomatch z
theorem xY0 (k:Frame κ B H G)(h:B.H a≠none):noT H a=H a:=by
 obtain ⟨u,_,n,e⟩:=k.obj h
 rw [xCj e n,e]
theorem Ok.rebase (o:Ok κ B ρ σ H G)(vs:List Nat):Ok κ (B.at_ ρ σ H G vs) (xBa ρ vs) (wipe σ vs) H G:=by
 have sl: ∀ {j:Nat},j∉vs->(wipe σ vs)[j]? =σ[j]? :=fun h=>wipe_out h
 refine ⟨⟨fun a u e _=>(xGz e).1,fun a ps e=>(xGz e).2 ps rfl,fun a _=>rfl,Same.refl G,o.fr.gh,o.fr.notb,o.fr.tabs,fun a h=> ?_⟩,by rw [wipe_length,xOb];exact o.len,fun j d e=> ?_,fun j d e=> ?_,fun i j p d e hij h1 h2 h3 h4=> ?_,fun i p h=>nomatch h⟩
 ·show hidS (xBa ρ vs) σ H a≠none
  have hb:=o.fr.lent a h
  rw [xEy fun j d e1 e2=> ?_]
  ·exact xI5 o.fr hb
  ·obtain ⟨_,e3⟩:=xC4 e1 (by simp)
   obtain ⟨q,q1,_,q3,_⟩:=o.own j d e3
   rw [e2] at q1
   cases q1
   exact hb q3
 ·obtain ⟨n,e1⟩:=xC4 e (by simp)
  rw [sl n]
  exact o.val j d e1
 ·obtain ⟨n,e1⟩:=xC4 e (by simp)
  obtain ⟨p,h1,h2,h3,h4⟩:=o.own j d e1
  exact ⟨p,(sl n).trans h1,h2,xYl (by rw [xO6 n];exact e1) h1,h4⟩
 ·obtain ⟨n1,e1⟩:=xC4 h1 (by simp)
  obtain ⟨n2,e2⟩:=xC4 h2 (by simp)
  rw [sl n1] at h3
  rw [sl n2] at h4
  exact o.sep i j p d e hij e1 e2 h3 h4
theorem Ok.back (o:Ok κ B ρ σ H G)(o2:Ok κ (B.at_ ρ σ H G vs) ρ' σ' H' G')(hw:wipe σ' vs=wipe σ vs):Ok κ B (unw ρ ρ' vs) σ H' G':=by
 have sl: ∀ {j:Nat},j∉vs->σ'[j]? =σ[j]? :=fun {j} h=>by
  have z:(wipe σ' vs)[j]? =(wipe σ vs)[j]? :=by rw [hw]
  rwa [wipe_out h,wipe_out h] at z
 have hlen:ρ'.length=ρ.length:=by
  have a:=congrArg yMu hw
  rw [wipe_length,wipe_length] at a
  rw [<- o2.len,<- o.len,a]
 have seen: ∀ {a:Addr},B.H a≠none->hidS (xBa ρ vs) σ H a=H a:=fun {a} h=>(xY0 o.fr h) ▸ xEy fun j d e1 e2=>by
  obtain ⟨_,e3⟩:=xC4 e1 (by simp)
  obtain ⟨q,q1,_,q3,_⟩:=o.own j d e3
  rw [e2] at q1
  cases q1
  exact h q3
 have bnone: ∀ {a:Addr},hidS (xBa ρ vs) σ H a=none->B.H a=none:=fun {a} h=>by
  rcases xPb h with ⟨j,d,e1,e2⟩|h
  ·obtain ⟨_,e3⟩:=xC4 e1 (by simp)
   obtain ⟨q,q1,_,q3,_⟩:=o.own j d e3
   rw [e2] at q1
   cases q1
   exact q3
  ·exact yK6 fun z=>xI5 o.fr z h
 have hid: ∀ {j:Nat} {d:D} {p:Addr},j∈vs->ρ[j]? =some (SD.ow d)->σ[j]? =some (some (V.ref p))->hidS (xBa ρ vs) σ H p=H p:=fun {j d p} hj e1 e2=>by
  have z:hidS (xBa ρ vs) σ H p=noT H p:=xEy fun i c z1 z2=>by
   obtain ⟨n,z3⟩:=xC4 z1 (by simp)
   have ne:i≠j:=fun q=>n (by rw [q];exact hj)
   exact o.sep i j p c d ne z3 e1 z2 e2
  obtain ⟨q,q1,_,_,q4⟩:=o.own j d e1
  rw [e2] at q1
  cases q1
  obtain ⟨u,u1,u2,_⟩:=q4.obj
  rw [z,xCj u1 u2,u1]
 refine ⟨⟨fun a u e n=> ?_,o.fr.nt,fun a e=> ?_,o.fr.sub.trans o2.fr.sub,o2.fr.gh,o2.fr.notb,o2.fr.tabs,o.fr.lent⟩,by rw [xMs,hlen];exact o.len,fun j d e=> ?_,fun j d e=> ?_,fun i j p d e hij h1 h2 h3 h4=> ?_,o.anch⟩
 ·have h1:=o.fr.keep a u e n
  exact o2.fr.keep a u ((seen (by rw [e];simp)).trans h1) n
 ·refine (o2.fr.frz a ?_).trans (o.fr.frz a e)
  show hidS (xBa ρ vs) σ H a≠none
  rw [seen e]
  exact o.fr.there a e
 ·by_cases hj:j∈vs
  ·rw [xIm hlen hj] at e
   obtain ⟨v,h1,h2⟩:=o.val j d e
   exact ⟨v,h1,Rep.mono (.of o2.fr.sub) d h2⟩
  ·rw [xFi hj] at e
   obtain ⟨v,h1,h2⟩:=o2.val j d e
   exact ⟨v,(sl hj).symm.trans h1,h2⟩
 ·by_cases hj:j∈vs
  ·rw [xIm hlen hj] at e
   obtain ⟨p,h1,h2,h3,h4⟩:=o.own j d e
   obtain ⟨u,u1,u2,_⟩:=h4.obj
   have hs:=hid hj e h1
   have k:=o2.fr.keep p u (hs.trans u1) u2
   have g:=o2.fr.frz p (by show hidS (xBa ρ vs) σ H p≠none;rw [hs,u1];simp)
   exact ⟨p,h1,g.trans h2,h3,h4.mono o2.fr.sub (k.trans u1.symm)⟩
  ·rw [xFi hj] at e
   obtain ⟨p,h1,h2,h3,h4⟩:=o2.own j d e
   exact ⟨p,(sl hj).symm.trans h1,h2,bnone h3,h4⟩
 ·have cross: ∀ {i j:Nat} {d e:D} {p:Addr},i∈vs->j∉vs->ρ[i]? =some (SD.ow d)->ρ'[j]? =some (SD.ow e)->σ[i]? =some (some (V.ref p))->σ[j]? =some (some (V.ref p))->False:=fun {i j d e p} hi hj e1 e2 e3 e4=>by
   obtain ⟨q,q1,_,q3,_⟩:=o2.own j e e2
   rw [sl hj,e4] at q1
   cases q1
   have hs:=hid hi e1 e3
   obtain ⟨q',w1,_,_,w4⟩:=o.own i d e1
   rw [e3] at w1
   cases w1
   obtain ⟨u,u1,_⟩:=w4.obj
   have q3:hidS (xBa ρ vs) σ H p=none:=q3
   rw [hs,u1] at q3
   cases q3
  by_cases hi:i∈vs <;> by_cases hj:j∈vs
  ·rw [xIm hlen hi] at h1
   rw [xIm hlen hj] at h2
   exact o.sep i j p d e hij h1 h2 h3 h4
  ·rw [xIm hlen hi] at h1
   rw [xFi hj] at h2
   exact cross hi hj h1 h2 h3 h4
  ·rw [xFi hi] at h1
   rw [xIm hlen hj] at h2
   exact cross hj hi h2 h1 h4 h3
  ·rw [xFi hi] at h1
   rw [xFi hj] at h2
   exact o2.sep i j p d e hij h1 h2 ((sl hi).trans h3) ((sl hj).trans h4)
theorem Ok.grow (o:Ok κ B ρ σ H G)(hp:H p=some (.lst xs))(hg:G p=none)(hb:B.H p=none)(na: ∀ (j:Nat) (d:D),ρ[j]? =some (SD.ow d)->σ[j]? ≠some (some (V.ref p))):Ok κ B ρ σ (upd H p (.lst ys)) G:=by
 have nb: ∀ a,B.H a≠none->a≠p:=fun a z y=>z (by rw [y];exact hb)
 refine ⟨⟨fun a u e n=>by rw [upd_ne (nb a (by rw [e];simp))];exact o.fr.keep a u e n,o.fr.nt,o.fr.frz,o.fr.sub,fun a u e=> ?_,o.fr.notb,fun t ht=> ?_,o.fr.lent⟩,o.len,o.val,fun j d e=> ?_,o.sep,o.anch⟩
 ·have n:a≠p:=fun y=>by
   rw [y,hg] at e
   cases e
  rw [upd_ne n]
  exact o.fr.gh a u e
 ·obtain ⟨ps,t1,t2,t3⟩:=o.fr.tabs t ht
  have n1:t.1≠p:=fun y=>by
   rw [y,hp] at t1
   cases t1
  refine ⟨ps,by rw [upd_ne n1];exact t1,t2,fun pos cv hc=> ?_⟩
  obtain ⟨c,c1,c2⟩:=t3 pos cv hc
  have n2:c≠p:=fun y=>by
   rw [y,hp] at c2
   unfold LamX.CodeO at c2
   cases c2
  exact ⟨c,c1,by rw [upd_ne n2];exact c2⟩
 ·obtain ⟨q,q1,q2,q3,q4⟩:=o.own j d e
  have nq:q≠p:=fun y=>na j d e (by rw [q1,y])
  exact ⟨q,q1,q2,q3,q4.mono (Same.refl _) (upd_ne nq)⟩
theorem Pst.sub {α:Type}{W:WX}{B:Bas}{σ:L2.St}{G G2:Hp}{r:Rs α}{k:α->List SD->Hp->Hp->Prop}(h:Pst κ W B σ G r k)(s:Same G G2):Pst κ W B σ G2 r k:=by
 cases r with
 | ok a ρ'=>exact fun H' G' o e=>h H' G' o (s.trans e)
 | ex x ρ'=>exact fun cls d H' G' o e q=>h cls d H' G' o (s.trans e) q
 | no=>exact h
theorem xQu: ∀ {us:List Nat},j∈us->(wipe τ us)[j]? =if j<τ.length then some none else none
 | u::us,hm=>by
  show ((wipe τ us).set u none)[j]? =_
  by_cases hu:u=j
  ·subst hu
   by_cases hl:u<τ.length
   ·rw [yK8 (by rw [wipe_length];exact hl),if_pos hl]
   ·rw [yL8.mpr (by rw [yLm,wipe_length];omega),if_neg hl]
  ·rw [yLa hu]
   refine xQu ?_
   have in_or:=yLp.mp hm;rcases in_or with q|q
   ·exact absurd q.symm hu
   ·exact q
theorem xJ4 (τ:L2.St)(vs:List Nat):wipe (wipe τ vs) vs=wipe τ vs:=by
 apply yMy
 intro j
 by_cases hj:j∈vs
 ·rw [xQu hj,xQu hj,wipe_length]
 ·rw [wipe_out hj]
def lcE (acc:List D):M SD:=M.ret (SD.ow (.lst false acc))
structure LcI (κ:Ctx)(W:WX)(B:Bas)(σ:L2.St)(G0:Hp)(p:Addr)(vs:List Nat)(g:D->List SD->Option (List SD))(tt:M Bool)(te:M SD)(Q:VK)(l acc:List D)(ρ:List SD)(H G:Hp)(ws:List V):Prop where
 ok:Ok κ B ρ σ H G
 sub:Same G0 G
 gn:G p=none
 bn:B.H p=none
 at_:H p=some (.lst ws)
 rep:RepL κ B.T G acc ws
 na: ∀ (j:Nat) (d:D),ρ[j]? =some (SD.ow d)->σ[j]? ≠some (some (V.ref p))
 go:Pst κ W B σ G ((lcL vs g tt te l acc).bind lcE ρ) fun r ρ' H' G'=> ∀ v,RepR κ B ρ' σ H' G' r v->Q v H'
section
variable {W:WX}{G0:Hp}{p:Addr}{vs:List Nat}{g:D->List SD->Option (List SD)}{tt:M Bool}{te:M SD}{Q:VK}{l acc:List D}{ws:List V}
theorem LcI.seen (I:LcI κ W B σ G0 p vs g tt te Q l acc ρ H G ws):hidS (xBa ρ vs) σ H p=some (.lst ws):=by
 rw [xEy fun j d e1 e2=>I.na j d (xC4 e1 (by simp)).2 e2]
 exact xCj I.at_ fun ps z=>by cases z
theorem LcI.turned (I:LcI κ W B σ G0 p vs g tt te Q l acc ρ H G ws)(o4:Ok κ (B.at_ ρ σ H G vs) ρ3 σ3 H4 G4)(hw:wipe σ3 vs=wipe σ vs):
  Ok κ B (unw ρ ρ3 vs) σ H4 G4/\Same G G4/\G4 p=none/\H4 p=some (.lst ws)/\ ∀ (j:Nat) (d:D),(unw ρ ρ3 vs)[j]? =some (SD.ow d)->σ[j]? ≠some (some (V.ref p)):=by
 have hD:=I.seen
 have hlen:ρ3.length=ρ.length:=by
  have a:=congrArg yMu hw
  rw [wipe_length,wipe_length] at a
  rw [<- o4.len,<- I.ok.len,a]
 refine ⟨I.ok.back o4 hw,o4.fr.sub,(o4.fr.frz p (by show hidS (xBa ρ vs) σ H p≠none;rw [hD];simp)).trans I.gn,o4.fr.keep p _ hD (fun ps z=>by cases z),fun j d e1 e2=> ?_⟩
 by_cases hj:j∈vs
 ·rw [xIm hlen hj] at e1
  exact I.na j d e1 e2
 ·rw [xFi hj] at e1
  obtain ⟨p',w1,w2,w3,w4⟩:=o4.own j d e1
  have sl:σ3[j]? =σ[j]? :=by
   have a:(wipe σ3 vs)[j]? =(wipe σ vs)[j]? :=by rw [hw]
   rwa [wipe_out hj,wipe_out hj] at a
  rw [sl,e2] at w1
  cases w1
  have w3:hidS (xBa ρ vs) σ H p=none:=w3
  rw [hD] at w3
  cases w3
end
theorem yIr {W W0:WX}{A vs:List Nat}{it:M (List D)}{g:D->List SD->Option (List SD)}{tt:M Bool}{te:M SD}{Q:VK}(h:tE κ W (mLc it vs g tt te) σ H Q):tLc (tI κ W it) (tG κ A vs g) (tT κ W0 tt) (tE κ W0 te) vs σ H Q:=by
 obtain ⟨B,ρ,G,o,q⟩:=h
 refine ⟨B,ρ,G,o,Pst.mono (Pst.bind q) fun l ρ0 H0 G0 o0 s0 q0 J hJ p hp=> ?_⟩
 refine ⟨fun i n H1=>n=l.length-i/\i<=l.length/\ ∃ acc ρ1 G1 ws,LcI κ W B σ G0 p vs g tt te Q (l.drop i) acc ρ1 H1 G1 ws,
  ⟨l.length,by simp,yLy _,[],ρ0,G0,[],⟨o0.allocOwn hp,Same.refl _,o0.gnone hp,o0.bnone hp,upd_same,rfl,fun j d e=>o0.apart hp j d e,q0⟩⟩,?_⟩
 rintro i n H1 ⟨rfl,hi,acc,ρ1,G1,ws,I⟩
 obtain ⟨j1,j2,_⟩:=hJ i B ρ1 σ H1 G1 rfl I.ok I.sub
 by_cases hlt:i<l.length
 ·refine .inr ⟨j1 hlt,fun H'=>i+1<=l.length/\ ∃ acc ρ1 G1 ws,LcI κ W B σ G0 p vs g tt te Q (l.drop (i+1)) acc ρ1 H' G1 ws,fun H' ⟨h1,h2⟩=>⟨l.length-(i+1),by omega,rfl,h1,h2⟩,fun x H2 y=> ?_⟩
  have ob:=I.ok.rebase vs
  obtain ⟨_,_,jb⟩:=hJ i _ _ _ H1 G1 (show (B.at_ ρ1 σ H1 G1 vs).T=B.T from rfl) ob I.sub
  obtain ⟨G2,o2,s2,sH,r2⟩:=jb l[i] (yLb hlt) x H2 y
  have q1:=I.go
  rw [yL1 hlt] at q1
  have fail:lcL vs g tt te (l[i]::l.drop (i+1)) acc ρ1= .no->False:=fun z=>by
   unfold M.bind at q1
   rw [z] at q1
   exact q1.elim
  cases eg:g l[i] (xBa ρ1 vs) with
  | none=>exact (fail (by rw [lcL];simp only [eg])).elim
  | some ρ2=>
   refine ⟨B.at_ ρ1 σ H1 G1 vs,xBa ρ1 vs,G2,l[i],ρ2,(fun z (hz:z∈([]:List (Nat×Addr)))=>by cases hz),o2,r2,eg,fun σ3 H3 G3 o3 s3 hw=> ?_⟩
   refine ⟨hw.trans (xJ4 σ vs),?_⟩
   have hw':wipe σ3 vs=wipe σ vs:=hw.trans (xJ4 σ vs)
   cases et:tt ρ2 with
   | ex x0 ρ3=>exact (fail (by rw [lcL];simp only [eg,et])).elim
   | no=>exact (fail (by rw [lcL];simp only [eg,et])).elim
   | ok k ρ3=>
    refine ⟨_,ρ2,G3,o3,?_⟩
    rw [et]
    intro H4 G4 o4 s4
    cases k with
    | false=>
     obtain ⟨t1,t2,t3,t4,t5⟩:=I.turned o4 hw'
     refine iteF ⟨hlt,acc,unw ρ1 ρ3 vs,G4,ws,⟨t1,I.sub.trans t2,t3,I.bn,t4,RepL.mono (.of t2) acc I.rep,t5,Pst.sub ?_ t2⟩⟩
     have z:lcL vs g tt te (l[i]::l.drop (i+1)) acc ρ1=lcL vs g tt te (l.drop (i+1)) acc (unw ρ1 ρ3 vs):=by
      rw [lcL]
      simp only [eg,et]
     unfold M.bind at q1 ⊢
     rw [z] at q1
     exact q1
    | true=>
     refine iteT ?_
     cases ee:fE te ρ3 with
     | ex x0 ρ5=>exact (fail (by rw [lcL];simp only [eg,et,ee])).elim
     | no=>exact (fail (by rw [lcL];simp only [eg,et,ee])).elim
     | ok d ρ5=>
      by_cases hl:acc.length<1000000
      ·refine xB1 (k:=fun d' ρ' _ _=>d'=d/\ρ'=ρ5) o4 (by rw [ee];exact fun _ _ _ _=>⟨rfl,rfl⟩) fun d' ρ' H6 G6 o6 s6 e6 v rv=> ?_
       obtain ⟨rfl,rfl⟩:=e6
       obtain ⟨t1,t2,t3,t4,t5⟩:=I.turned o6 hw'
       have rA:=RepL.mono (.of t2) acc I.rep
       refine ⟨ws,t4,by rw [rA.length];exact yM4 hl (by rw [sizeLine_eq];decide),hlt,acc++[d'],unw ρ1 ρ' vs,G6,ws++[v],⟨t1.grow t4 t3 I.bn t5,I.sub.trans t2,t3,I.bn,upd_same,rA.append (RepL.one rv),t5,Pst.sub ?_ t2⟩⟩
       have z:lcL vs g tt te (l[i]::l.drop (i+1)) acc ρ1=lcL vs g tt te (l.drop (i+1)) (acc++[d']) (unw ρ1 ρ' vs):=by
        rw [lcL]
        simp only [eg,et,ee,if_pos hl]
       unfold M.bind at q1 ⊢
       rw [z] at q1
       exact q1
      ·exact (fail (by rw [lcL];simp only [eg,et,ee,if_neg hl])).elim
 ·have ei:l.drop i=[]:=yMn.mpr (by omega)
  refine .inl ⟨j2 (by omega),?_⟩
  have q1:=I.go
  rw [ei] at q1
  have q2:Pst κ W B σ G1 (Rs.ok (SD.ow (.lst false acc)) ρ1) fun r ρ' H' G'=> ∀ v,RepR κ B ρ' σ H' G' r v->Q v H':=q1
  exact q2 H1 G1 I.ok (Same.refl _) _ ⟨p,rfl,I.gn,I.bn,⟨ws,I.at_,I.rep⟩,I.na⟩
end
abbrev Wno:WX:=fun _ _ _ _=>False
section
variable {X:Cx}{κ:Ctx}{A:List Nat}{W:WX}{iter elt tg:Expr}{ifs:List Expr}{scope:Scope}{own:List (Str×Nat)}{pos:Pos}{it:M (List D)}{g:D->List SD->Option (List SD)}{tt:M Bool}{te:M SD}
theorem xDa:PTs X [] (tT κ W (M.ret true)):=⟨fun pins s σ H Q I ⟨B,ρ,G,o,q⟩=>pts_nil.run pins s σ H Q I (Pst.ret q o)⟩
theorem yDn (h:PT X c (tT κ W t)):PTs X [c] (tT κ W t):=pts_one h
theorem e_lc (hc:X.calm=true)(hN:X.N.Nodup)(hi:PI X tg iter (tI κ W it))(ok:BlkOk X.N X.env.scope scope own)
  (hg: ∀ (s:Shared) (H:Hp) (C:Addr) (cl:List (Str×Addr)) (fp:List Addr),PG (X.blk s H scope (compEnvC scope cl C X.env) fp) tg (tG κ A (own.map (·.2)) g))
  (ht: ∀ (s:Shared) (H:Hp) (C:Addr) (cl:List (Str×Addr)) (fp:List Addr),PTs (X.blk s H scope (compEnvC scope cl C X.env) fp) ifs (tT κ Wno tt))
  (he: ∀ (s:Shared) (H:Hp) (C:Addr) (cl:List (Str×Addr)) (fp:List Addr),PE (X.blk s H scope (compEnvC scope cl C X.env) fp) elt (tE κ Wno te)) (hs: ∀ x,foldedSetIterable iter X.env x=pure x:=by intro _;rfl):
  PE X (.ListComp elt [⟨tg,iter,ifs,0⟩] scope pos) (tE κ W (mLc it (own.map (·.2)) g tt te)):=PE.imp (pe_lc hc hN hi ok hg ht he hs) fun _ _ _=>yIr
theorem xRn (hc:X.calm=true)(hN:X.N.Nodup)(hy:X.N[i]? =some y)(hyl:X.env.scope.names.lookup y=some .local)
  (hsw:swapsWith (.ListComp elt [⟨tg,iter,ifs,0⟩] scope pos) (some (.Name y py)) spos.line X.env=pure true) (hi:PI X tg iter (tI κ W it)) (ok:BlkOk X.N X.env.scope scope own)
  (hg: ∀ (s:Shared) (H:Hp) (C:Addr) (cl:List (Str×Addr)) (fp:List Addr),PG (X.blk s H scope (compEnvC scope cl C X.env) fp) tg (tG κ A (own.map (·.2)) g))
  (ht: ∀ (s:Shared) (H:Hp) (C:Addr) (cl:List (Str×Addr)) (fp:List Addr),PTs (X.blk s H scope (compEnvC scope cl C X.env) fp) ifs (tT κ Wno tt))
  (he: ∀ (s:Shared) (H:Hp) (C:Addr) (cl:List (Str×Addr)) (fp:List Addr),PE (X.blk s H scope (compEnvC scope cl C X.env) fp) elt (tE κ Wno te)) (n:A.contains i=false:=by rfl) (hs: ∀ x,foldedSetIterable iter X.env x=pure x:=by intro _;rfl):
  PS X (.Assign [.Name y py] (.ListComp elt [⟨tg,iter,ifs,0⟩] scope pos) spos) (tS κ A W (sSet i (mLc it (own.map (·.2)) g tt te))):=by
 refine PS.imp (ps_setLc hc hN hy hyl hsw hi ok hg ht he hs) fun D σ H ⟨B,ρ,G,a,o,q⟩=> ?_
 refine yIr ⟨B,ρ,G,o,Pst.mono (PstS.bind q) fun r ρ' H' G' o' s q' v rv=> ?_⟩
 exact q' _ H' G' (o'.set i rv (xJf a n)) (Same.refl G')
end
def mulG (i j:Int):Prop:=i.natAbs.log2+j.natAbs.log2<1000000
instance (i j:Int):Decidable (mulG i j):=by unfold mulG;exact inferInstance
def divG (i j:Int):Prop:=j≠0/\(j.natAbs.log2<9000\/i.natAbs.log2<=j.natAbs.log2+4000)
instance (i j:Int):Decidable (divG i j):=by unfold divG;exact inferInstance
def powG (i j:Int):Prop:=0<=j/\j<=1000000/\i.natAbs<2 ^ 64
instance (i j:Int):Decidable (powG i j):=by unfold powG;exact inferInstance
theorem divG.slow (h:divG i j):Builtin.divisionGoesByPylong i j=false:=by
 rcases h.2 with h2|h2
 ·exact PyProof.noPylong_of_log2 h2
 ·show (decide ((if j==0 then 0 else j.natAbs.log2 / 30+1) > 300)&&decide ((if i==0 then 0 else i.natAbs.log2 / 30+1) > (if j==0 then 0 else j.natAbs.log2 / 30+1)+150))=false
  have hj:(j==0)=false:=by simpa using h.1
  rw [hj]
  have z:(if i==0 then 0 else i.natAbs.log2 / 30+1)<=i.natAbs.log2 / 30+1:=by split <;> omega
  have y:(if false=true then 0 else j.natAbs.log2 / 30+1)=j.natAbs.log2 / 30+1:=rfl
  rw [y,Bool.and_eq_false_iff]
  right
  refine decide_eq_false ?_
  have:i.natAbs.log2 / 30<=(j.natAbs.log2+4000) / 30:=Nat.div_le_div_right h2
  omega
def subD:D->D->Option SD
 | .int i,.int j=>some (.va (.int (i-j)))
 | _,_=>none
def mulD:D->D->Option SD
 | .int i,.int j=>if mulG i j then some (.va (.int (i*j))) else none
 | _,_=>none
def modD:D->D->Option SD
 | .int i,.int j=>if j=0 then none else some (.va (.int (i.fmod j)))
 | _,_=>none
def divD:D->D->Option SD
 | .int i,.int j=>if divG i j then some (.va (.int (i.fdiv j))) else none
 | _,_=>none
def powD:D->D->Option SD
 | .int i,.int j=>if powG i j then some (.va (.int (i ^ j.toNat))) else none
 | _,_=>none
def ltD:D->D->Option SD
 | .int i,.int j=>some (.va (.bl (decide (i<j))))
 | _,_=>none
def leD:D->D->Option SD
 | .int i,.int j=>some (.va (.bl (decide (i<=j))))
 | _,_=>none
def gtD:D->D->Option SD
 | .int i,.int j=>some (.va (.bl (decide (j<i))))
 | _,_=>none
def geD:D->D->Option SD
 | .int i,.int j=>some (.va (.bl (decide (j<=i))))
 | _,_=>none
section
variable {κ:Ctx}{X:Cx}
theorem yEn {C:Int->Int->Prop}{gv:Int->Int->V}{g:D->D->Option SD}{gd:Int->Int->D}(hc: ∀ d e z,g d e=some z-> ∃ i j,d= .int i/\e= .int j/\C i j/\z= .va (gd i j))(hr: ∀ i j T G,Rep κ T G (gd i j) (gv i j)):OpD κ (rI C gv) g:=by
 intro B ρ σ H G d e x y z Q o r1 r2 hz q
 obtain ⟨i,j,rfl,rfl,c,rfl⟩:=hc d e z hz
 exact ⟨i,j,r1,r2,c,q _ H G o (Same.refl G) (hr i j _ _)⟩
theorem xPi {gv:Int->Int->V}{g:D->D->Option SD}{gd:Int->Int->D}(hc: ∀ d e z,g d e=some z-> ∃ i j,d= .int i/\e= .int j/\z= .va (gd i j))(hr: ∀ i j T G,Rep κ T G (gd i j) (gv i j)):OpD κ (rI0 gv) g:=by
 intro B ρ σ H G d e x y z Q o r1 r2 hz q
 obtain ⟨i,j,rfl,rfl,rfl⟩:=hc d e z hz
 exact ⟨i,j,r1,r2,q _ H G o (Same.refl G) (hr i j _ _)⟩
theorem xN4:OpD κ (rI0 fun i j=> .int (i-j)) subD:=xPi (gd:=fun i j=> .int (i-j)) (fun d e z h=>by
 cases d <;> cases e <;> first|(cases h;exact ⟨_,_,rfl,rfl,rfl⟩)|cases h) fun _ _ _ _=>rfl
theorem xX2:OpD κ (rI0 fun i j=> .bl (decide (i<j))) ltD:=xPi (gd:=fun i j=> .bl (decide (i<j))) (fun d e z h=>by
 cases d <;> cases e <;> first|(cases h;exact ⟨_,_,rfl,rfl,rfl⟩)|cases h) fun _ _ _ _=>rfl
theorem xOv:OpD κ (rI0 fun i j=> .bl (decide (i<=j))) leD:=xPi (gd:=fun i j=> .bl (decide (i<=j))) (fun d e z h=>by
 cases d <;> cases e <;> first|(cases h;exact ⟨_,_,rfl,rfl,rfl⟩)|cases h) fun _ _ _ _=>rfl
theorem yFx:OpD κ (rI0 fun i j=> .bl (decide (j<i))) gtD:=xPi (gd:=fun i j=> .bl (decide (j<i))) (fun d e z h=>by
 cases d <;> cases e <;> first|(cases h;exact ⟨_,_,rfl,rfl,rfl⟩)|cases h) fun _ _ _ _=>rfl
theorem yIj:OpD κ (rI0 fun i j=> .bl (decide (j<=i))) geD:=xPi (gd:=fun i j=> .bl (decide (j<=i))) (fun d e z h=>by
 cases d <;> cases e <;> first|(cases h;exact ⟨_,_,rfl,rfl,rfl⟩)|cases h) fun _ _ _ _=>rfl
theorem xOp:OpD κ (rI (fun _ j=>j≠0) fun i j=> .int (i.fmod j)) modD:=yEn (gd:=fun i j=> .int (i.fmod j)) (fun d e z h=>by
 cases d <;> cases e <;> first|(unfold modD at h;dsimp only at h;split at h;cases h;(cases h;exact ⟨_,_,rfl,rfl,by assumption,rfl⟩))|cases h) fun _ _ _ _=>rfl
theorem xYm:OpR X (binaryOp .FloorDiv) (rI divG fun i j=> .int (i.fdiv j)):=opI fun _ _ _ _ _ _ _ hc q=>floordiv_int hc.1 q (.inl hc.slow)
theorem yCj:OpD κ (rI divG fun i j=> .int (i.fdiv j)) divD:=yEn (gd:=fun i j=> .int (i.fdiv j)) (fun d e z h=>by
 cases d <;> cases e <;> first|(unfold divD at h;dsimp only at h;split at h;(cases h;exact ⟨_,_,rfl,rfl,by assumption,rfl⟩);cases h)|cases h) fun _ _ _ _=>rfl
theorem xYc:OpD κ (rI CPow fun i j=> .int (i ^ j.toNat)) powD:=yEn (gd:=fun i j=> .int (i ^ j.toNat)) (fun d e z h=>by
 cases d <;> cases e <;> first|(unfold powD at h;dsimp only at h;split at h;(cases h;exact ⟨_,_,rfl,rfl,by assumption,rfl⟩);cases h)|cases h) fun _ _ _ _=>rfl
def negD:D->Option SD
 | .int i=>some (.va (.int (-i)))
 | _=>none
def addD:D->D->Option SD
 | .int i,.int j=>some (.va (.int (i+j)))
 | .str x,.str y=>if x.length+y.length<=1000000 then some (.va (.str (x++y))) else none
 | .tup [],.tup _=>none
 | .tup (a::l),.tup m=>if (a::l).length+m.length<=1000000 then some (.va (.tup (a::l++m))) else none
 | .lst _ l,.lst _ m=>if l.length+m.length<=1000000 then some (.ow (.lst false (l++m))) else none
 | _,_=>none
theorem xFm (h:n<=1000000):n<=sizeLine:=by rw [sizeLine_eq];omega
theorem yHl:OpD κ (fun x y H Q=>rI0 (fun i j=> .int (i+j)) x y H Q\/((fun x y H Q=> ∃ i j,x= .str i/\y= .str j/\i.length+j.length<=sizeLine/\Q (.str (i++j)) H) x y H Q\/(rCatT κ.K x y H Q\/rCat x y H Q))) addD:=by
 intro B ρ σ H G d e x y z Q o r1 r2 hz q
 cases d with
 | int i=>
  cases e with
  | int j=>
   cases hz
   exact .inl ⟨i,j,r1,r2,q _ H G o (Same.refl G) rfl⟩
  | _=>cases hz
 | str a=>
  cases e with
  | str b=>
   have hz':(if a.length+b.length<=1000000 then some (SD.va (.str (a++b))) else none)=some z:=hz
   split at hz'
   ·cases hz'
    exact .inr (.inl ⟨a,b,r1,r2,xFm (by assumption),q _ H G o (Same.refl G) rfl⟩)
   ·cases hz'
  | _=>cases hz
 | tup l=>
  cases e with
  | tup m=>
   cases l with
   | nil=>cases hz
   | cons a l=>
    have hz':(if (a::l).length+m.length<=1000000 then some (SD.va (.tup (a::l++m))) else none)=some z:=hz
    split at hz'
    ·cases hz'
     obtain ⟨p,vs,rfl,h1,h2⟩:=r1
     obtain ⟨p',ws,rfl,h3,h4⟩:=r2
     have l1:=h2.length
     have l2:=h4.length
     refine .inr (.inr (.inl ⟨p,p',vs,ws,rfl,rfl,h1.sq o.fr.gh,h3.sq o.fr.gh,(fun n=>by (rw [n] at l1;cases l1)),xFm (by rw [l1,l2];assumption),fun n=> ?_,fun n t ht=> ?_⟩))
     ·have em:m=[]:=by
       cases m with
       | nil=>rfl
       | cons b m=>rw [n] at l2;cases l2
      subst em
      refine q _ H G o (Same.refl G) ?_
      rw [yL9]
      exact ⟨p,vs,rfl,h1,h2⟩
     ·have hg:=o.gnone ht
      exact q _ _ _ (o.alloc ht fun _ z=>by cases z) (Same.upd hg) ⟨t,vs++ws,rfl,.inl upd_same,RepL.append (RepL.mono (.of (Same.upd hg)) _ h2) (RepL.mono (.of (Same.upd hg)) _ h4)⟩
    ·cases hz'
  | _=>cases l <;> cases hz
 | lst b l=>
  cases e with
  | lst c m=>
   have hz':(if l.length+m.length<=1000000 then some (SD.ow (.lst false (l++m))) else none)=some z:=hz
   split at hz'
   ·cases hz'
    obtain ⟨p,vs,rfl,⟨h1,_⟩,h2⟩:=r1
    obtain ⟨p',ws,rfl,⟨h3,_⟩,h4⟩:=r2
    refine .inr (.inr (.inr ⟨p,p',vs,ws,rfl,rfl,o.fr.gh _ _ h1,o.fr.gh _ _ h3,xFm (by rw [h2.length,h4.length];assumption),fun t ht=> ?_⟩))
    exact q _ _ _ (o.allocOwn ht) (Same.refl G) (o.newOwn ht ⟨_,upd_same,h2.append h4⟩)
   ·cases hz'
  | _=>cases hz
 | _=>cases hz
theorem yF5:OpR X (binaryOp .Add) (fun x y H Q=>rI0 (fun i j=> .int (i+j)) x y H Q\/((fun x y H Q=> ∃ i j,x= .str i/\y= .str j/\i.length+j.length<=sizeLine/\Q (.str (i++j)) H) x y H Q\/(rCatT X.K x y H Q\/rCat x y H Q))):=
 op_add.or (op_add_str.or (op_catT.or op_cat))
mutual
def D.py:D->PyData
 | .bl b=> .bool b
 | .int i=> .int i
 | .str s=> .str s
 | .tup l=> .tuple (pyL l)
 | .lst _ l=> .list (pyL l)
 | _=> .none
def pyL:List D->List PyData
 | []=>[]
 | d::l=>D.py d::pyL l
end
mutual
def D.pl:Nat->D->Bool
 | _,.non=>true
 | _,.bl _=>true
 | _,.int _=>true
 | _,.str s=>PyData.strOk s
 | 0,.tup _=>false
 | n+1,.tup l=>plL n l
 | 0,.lst _ _=>false
 | n+1,.lst _ l=>plL n l
 | _,_=>false
def plL:Nat->List D->Bool
 | _,[]=>true
 | n,d::l=>D.pl n d&&plL n l
end
def peq (d e:D):Bool:=PyData.eqv d.py e.py
end
set_option maxHeartbeats 200000
section
variable {κ:Ctx}{X:Cx}
mutual
theorem xPw: ∀ (d:D) {n:Nat},d.pl n=true->d.py.canLay0=true/\d.py.depth<=n
 | .non,n,_=>⟨rfl,yLy _⟩
 | .bl b,n,_=>⟨rfl,yLy _⟩
 | .int i,n,_=>⟨rfl,yLy _⟩
 | .str s,n,h=>⟨by cases n <;> exact h,yLy _⟩
 | .tup l,0,h=>by cases h
 | .tup l,n+1,h=>by
  obtain ⟨h1,h2⟩:=xQg l (n:=n) h
  exact ⟨h1,Nat.succ_le_succ h2⟩
 | .lst b l,0,h=>by cases h
 | .lst b l,n+1,h=>by
  obtain ⟨h1,h2⟩:=xQg l (n:=n) h
  exact ⟨h1,Nat.succ_le_succ h2⟩
 | .dk b l,n,h=>by cases n <;> cases h
 | .ins b c l,n,h=>by cases n <;> cases h
 | .ty s,n,h=>by cases n <;> cases h
 | .adr a,n,h=>by cases n <;> cases h
 | .scr l,n,h=>by cases n <;> cases h
 | .nv _ _ _,n,h=>by cases n <;> cases h
theorem xQg: ∀ (l:List D) {n:Nat},plL n l=true->PyData.canLayAll0 (pyL l)=true/\PyData.depthAll (pyL l)<=n
 | [],n,_=>⟨rfl,yLy _⟩
 | d::l,n,h=>by
  have h':(D.pl n d&&plL n l)=true:=h
  rw [yLc] at h'
  obtain ⟨a1,a2⟩:=xPw d h'.1
  obtain ⟨b1,b2⟩:=xQg l h'.2
  refine ⟨?_,Nat.max_le.mpr ⟨a2,b2⟩⟩
  show (d.py.canLay0&&PyData.canLayAll0 (pyL l))=true
  rw [a1,b1] <;> rfl
end
mutual
theorem xIk (s:Same G H): ∀ (d:D) {n:Nat} {v:V},d.pl n=true->Rep κ T G d v->Dp κ.K H v d.py
 | .non,n,v,_,h=>by cases (show v=V.non from h);exact .non
 | .bl b,n,v,_,h=>by cases (show v=V.bl b from h);exact .bl b
 | .int i,n,v,_,h=>by cases (show v=V.int i from h);exact .int i
 | .str x,n,v,_,h=>by cases (show v=V.str x from h);exact .str x
 | .tup l,0,v,q,h=>by cases q
 | .tup l,n+1,v,q,h=>by
  obtain ⟨a,vs,rfl,h1,h2⟩:=h
  exact .tup (h1.sq s) (xQj s l (n:=n) q h2)
 | .lst b l,0,v,q,h=>by cases q
 | .lst b l,n+1,v,q,h=>by
  obtain ⟨a,vs,rfl,⟨h1,_⟩,h2⟩:=h
  exact .lst (SqL.of (s _ _ h1)) (xQj s l (n:=n) q h2)
 | .dk b l,n,v,q,h=>by cases n <;> cases q
 | .ins b c l,n,v,q,h=>by cases n <;> cases q
 | .ty x,n,v,q,h=>by cases n <;> cases q
 | .adr a,n,v,q,h=>by cases n <;> cases q
 | .scr l,n,v,q,h=>by cases n <;> cases q
 | .nv _ _ _,n,v,q,h=>by cases n <;> cases q
theorem xQj (s:Same G H): ∀ (l:List D) {n:Nat} {vs:List V},plL n l=true->RepL κ T G l vs->DpAll κ.K H vs (pyL l)
 | [],n,vs,_,h=>by rw [show vs=[] from h];exact .nil
 | d::l,n,vs,q,h=>by
  have q':(D.pl n d&&plL n l)=true:=q
  rw [yLc] at q'
  obtain ⟨v,ws,rfl,h1,h2⟩:=h
  exact .cons (xIk s d q'.1 h1) (xQj s l q'.2 h2)
end
def eqD (d e:D):Option SD:=if d.pl 60&&e.pl 60 then some (.va (.bl (peq d e))) else none
def neD (d e:D):Option SD:=if d.pl 60&&e.pl 60 then some (.va (.bl (!peq d e))) else none
theorem xEi {d:D}(h:d.pl 60=true):SeqAt.shaped d.py=true:=by
 obtain ⟨h1,h2⟩:=xPw d h
 unfold SeqAt.shaped
 rw [h1,decide_eq_true (by omega)]
 rfl
theorem xE4:OpD κ (rEqD κ.K) eqD:=by
 intro B ρ σ H G d e x y z Q o r1 r2 hz q
 unfold eqD at hz
 split at hz
 ·rename_i hp
  cases hz
  rw [yLc] at hp
  exact ⟨d.py,e.py,xIk o.fr.gh d hp.1 r1,xIk o.fr.gh e hp.2 r2,xEi hp.1,xEi hp.2,q _ H G o (Same.refl G) rfl⟩
 ·cases hz
theorem xK1:OpD κ (rNeD κ.K) neD:=by
 intro B ρ σ H G d e x y z Q o r1 r2 hz q
 unfold neD at hz
 split at hz
 ·rename_i hp
  cases hz
  rw [yLc] at hp
  exact ⟨d.py,e.py,xIk o.fr.gh d hp.1 r1,xIk o.fr.gh e hp.2 r2,xEi hp.1,xEi hp.2,q _ H G o (Same.refl G) rfl⟩
 ·cases hz
def isnD:D->D->Option SD
 | .non,.non=>some (.va (.bl true))
 | .adr _,.non=>none
 | _,.non=>some (.va (.bl false))
 | _,_=>none
def ntnD:D->D->Option SD
 | .non,.non=>some (.va (.bl false))
 | .adr _,.non=>none
 | _,.non=>some (.va (.bl true))
 | _,_=>none
theorem yF9 (h:Rep κ T G d v)(n:d≠ .non):v≠ .non:=fun z=>by
 subst z
 cases d with
 | non=>exact n rfl
 | bl b=>cases (show V.non=V.bl b from h)
 | int b=>cases (show V.non=V.int b from h)
 | str b=>cases (show V.non=V.str b from h)
 | tup l=>obtain ⟨a,vs,e,_⟩:=h;cases e
 | lst b l=>obtain ⟨a,vs,e,_⟩:=h;cases e
 | dk b l=>obtain ⟨a,vs,e,_⟩:=h;cases e
 | ins b c l=>obtain ⟨a,dx,vs,e,_⟩:=h;cases e
 | ty s=>cases (show V.non=V.ty s from h)
 | adr a=>cases (show V.non=V.ref a from h)
 | scr l=>obtain ⟨a,vs,e,_⟩:=h;cases e
 | nv b l ss=>obtain ⟨a,vs,e,_⟩:=h;cases e
theorem xIi:OpD κ (fun x y H Q=>y= .non/\Q (.bl (decide (x= .non))) H) isnD:=by
 intro B ρ σ H G d e x y z Q o r1 r2 hz q
 cases e with
 | non=>
  refine ⟨r2,?_⟩
  by_cases n:d= .non
  ·subst n
   cases hz
   cases (show x=V.non from r1)
   exact q _ H G o (Same.refl G) rfl
  ·rw [decide_eq_false (yF9 r1 n)]
   cases d <;> first|exact (n rfl).elim|(cases hz;exact q _ H G o (Same.refl G) rfl)|cases hz
 | _=>cases d <;> cases hz
def ixD:D->D->Option SD
 | .tup l,.int i=>(atI l i).map SD.va
 | .lst _ l,.int i=>(atI l i).map SD.va
 | .str s,.int i=>if s.length<=1000000 then (atI s.cps.toList i).map fun c=>SD.va (.str ⟨#[c]⟩) else none
 | _,_=>none
theorem xQr (r:RepL κ T G l vs)(h:atI l i=some d): ∃ v,atI vs i=some v/\Rep κ T G d v:=by
 unfold atI at h ⊢
 obtain ⟨j,h1,h2⟩:=yLj.mp h
 obtain ⟨v,h3,h4⟩:=r.get h2
 rw [r.length,h1]
 exact ⟨v,h3,h4⟩
theorem od_ix:OpD κ (rIx κ.K) ixD:=by
 intro B ρ σ H G d e x y z Q o r1 r2 hz q
 cases d with
 | tup l=>
  cases e with
  | int i=>
   obtain ⟨c,h1,rfl⟩:=yK4.mp (show (atI l i).map SD.va=some z from hz)
   obtain ⟨p,vs,rfl,h2,h3⟩:=r1
   obtain ⟨v,h4,h5⟩:=xQr h3 h1
   exact .inr (.inl ⟨p,vs,i,v,rfl,r2,h2.sq o.fr.gh,h4,q v H G o (Same.refl G) h5⟩)
  | _=>cases hz
 | lst b l=>
  cases e with
  | int i=>
   obtain ⟨c,h1,rfl⟩:=yK4.mp (show (atI l i).map SD.va=some z from hz)
   obtain ⟨p,vs,rfl,⟨h2,_⟩,h3⟩:=r1
   obtain ⟨v,h4,h5⟩:=xQr h3 h1
   exact .inl ⟨p,vs,i,v,rfl,r2,SqL.of (o.fr.gh _ _ h2),h4,q v H G o (Same.refl G) h5⟩
  | _=>cases hz
 | str s=>
  cases e with
  | int i=>
   have hz':(if s.length<=1000000 then (atI s.cps.toList i).map fun c=>SD.va (.str ⟨#[c]⟩) else none)=some z:=hz
   split at hz'
   ·obtain ⟨c,h1,rfl⟩:=yK4.mp hz'
    exact .inr (.inr ⟨s,i,c,r1,r2,xFm (by assumption),h1,q _ H G o (Same.refl G) rfl⟩)
   ·cases hz'
  | _=>cases hz
 | _=>cases e <;> cases hz
def lenD:List D->Option SD
 | [.tup l]=>some (.va (.int l.length))
 | [.lst _ l]=>some (.va (.int l.length))
 | [.str s]=>if s.length<=1000000 then some (.va (.int s.length)) else none
 | _=>none
theorem yIx:xDw κ (fun xs H Q=> ∃ x n,xs=[x]/\LenV κ.K x H n/\Q (.int n) H) lenD:=by
 intro B ρ σ H G ds xs z Q o r hz q
 unfold lenD at hz
 split at hz
 ·rename_i l
  obtain ⟨v,ws,rfl,⟨p,vs,rfl,h1,h2⟩,rfl⟩:=r
  have e:=(yLh.inj hz).symm
  subst e
  exact ⟨_,l.length,rfl,.inr ⟨vs,h1.sq o.fr.gh,h2.length.symm⟩,q _ H G o (Same.refl G) rfl⟩
 ·rename_i b l
  obtain ⟨v,ws,rfl,⟨p,vs,rfl,⟨h1,_⟩,h2⟩,rfl⟩:=r
  have e:=(yLh.inj hz).symm
  subst e
  exact ⟨_,l.length,rfl,.inl ⟨vs,SqL.of (o.fr.gh _ _ h1),h2.length.symm⟩,q _ H G o (Same.refl G) rfl⟩
 ·rename_i s
  obtain ⟨v,ws,rfl,h,rfl⟩:=r
  have h:v=V.str s:=h
  subst h
  split at hz
  ·have e:=(yLh.inj hz).symm
   subst e
   exact ⟨_,s.length,rfl,⟨xFm (by assumption),rfl⟩,q _ H G o (Same.refl G) rfl⟩
  ·cases hz
 ·cases hz
def absD:List D->Option SD
 | [.int i]=>some (.va (.int (if i<0 then -i else i)))
 | _=>none
def intD:List D->Option SD
 | [.int i]=>some (.va (.int i))
 | [.bl b]=>some (.va (.int (if b then 1 else 0)))
 | _=>none
theorem yKe:xDw κ (fun xs H Q=>(∃ i,xs=[.int i]/\Q (.int i) H)\/ ∃ k,xs=[.bl k]/\Q (.int (if k then 1 else 0)) H) intD:=by
 intro B ρ σ H G ds xs z Q o r hz q
 unfold intD at hz
 split at hz
 ·obtain ⟨v,ws,rfl,rfl,rfl⟩:=r
  have e:=(yLh.inj hz).symm
  subst e
  exact .inl ⟨_,rfl,q _ H G o (Same.refl G) rfl⟩
 ·obtain ⟨v,ws,rfl,rfl,rfl⟩:=r
  have e:=(yLh.inj hz).symm
  subst e
  exact .inr ⟨_,rfl,q _ H G o (Same.refl G) rfl⟩
 ·cases hz
def xXo:List D->Option SD
 | [.tup l]=>some (.ow (.lst false l))
 | [.lst _ l]=>some (.ow (.lst false l))
 | _=>none
theorem xU9:xDw κ (fun xs H Q=> ∃ p ys,xs=[.ref p]/\(SqL κ.K H p ys\/SqT κ.K H p ys)/\ ∀ l,H l=none->Q (.ref l) (upd H l (.lst ys))) xXo:=by
 intro B ρ σ H G ds xs z Q o r hz q
 unfold xXo at hz
 split at hz
 ·obtain ⟨v,ws,rfl,⟨p,vs,rfl,h1,h2⟩,rfl⟩:=r
  have e:=(yLh.inj hz).symm
  subst e
  exact ⟨p,vs,rfl,.inr (h1.sq o.fr.gh),fun t ht=>q _ _ _ (o.allocOwn ht) (Same.refl G) (o.newOwn ht ⟨vs,upd_same,h2⟩)⟩
 ·obtain ⟨v,ws,rfl,⟨p,vs,rfl,⟨h1,_⟩,h2⟩,rfl⟩:=r
  have e:=(yLh.inj hz).symm
  subst e
  exact ⟨p,vs,rfl,.inl (SqL.of (o.fr.gh _ _ h1)),fun t ht=>q _ _ _ (o.allocOwn ht) (Same.refl G) (o.newOwn ht ⟨vs,upd_same,h2⟩)⟩
 ·cases hz
def tupD:List D->Option SD
 | [.tup l]=>some (.va (.tup l))
 | [.lst _ l]=>some (.va (.tup l))
 | _=>none
theorem xSo:xDw κ (fun xs H Q=> ∃ p ys,xs=[.ref p]/\((SqL κ.K H p ys/\ ∀ l,H l=none->Q (.ref l) (upd H l (.tup ys)))\/(SqT κ.K H p ys/\Q (.ref p) H))) tupD:=by
 intro B ρ σ H G ds xs z Q o r hz q
 unfold tupD at hz
 split at hz
 ·obtain ⟨v,ws,rfl,⟨p,vs,rfl,h1,h2⟩,rfl⟩:=r
  have e:=(yLh.inj hz).symm
  subst e
  exact ⟨p,vs,rfl,.inr ⟨h1.sq o.fr.gh,q _ H G o (Same.refl G) ⟨p,vs,rfl,h1,h2⟩⟩⟩
 ·rename_i b l
  obtain ⟨v,ws,rfl,⟨p,vs,rfl,⟨h1,_⟩,h2⟩,rfl⟩:=r
  have e:=(yLh.inj hz).symm
  subst e
  refine ⟨p,vs,rfl,.inl ⟨SqL.of (o.fr.gh _ _ h1),fun t ht=> ?_⟩⟩
  have hg:=o.gnone ht
  exact q _ _ _ (o.alloc ht fun _ z=>by cases z) (Same.upd hg) ⟨t,vs,rfl,.inl upd_same,RepL.mono (.of (Same.upd hg)) l h2⟩
 ·cases hz
def xKg:List D->Option (List Bool)
 | []=>some []
 | .bl b::l=>(xKg l).map (b:: ·)
 | _::_=>none
theorem xJp: ∀ {l:List D} {bs:List Bool} {vs:List V},xKg l=some bs->RepL κ T G l vs->vs=bs.map V.bl
 | [],bs,vs,h,r=>by cases h;exact r
 | .bl b::l,bs,vs,h,r=>by
  obtain ⟨cs,h1,rfl⟩:=yK4.mp (show (xKg l).map (b:: ·)=some bs from h)
  obtain ⟨v,ws,rfl,rfl,h2⟩:=r
  rw [xJp h1 h2]
  rfl
def allD:List D->Option SD
 | [.lst _ l]=>(xKg l).map fun bs=> .va (.bl (bs.all id))
 | _=>none
def anyD:List D->Option SD
 | [.lst _ l]=>(xKg l).map fun bs=> .va (.bl (bs.any id))
 | _=>none
theorem xSg:xDw κ (rAll κ.K) allD:=by
 intro B ρ σ H G ds xs z Q o r hz q
 unfold allD at hz
 split at hz
 ·obtain ⟨bs,h1,e⟩:=yK4.mp hz
  subst e
  obtain ⟨v,ws,rfl,⟨p,vs,rfl,⟨h2,_⟩,h3⟩,rfl⟩:=r
  rw [xJp h1 h3] at h2
  exact ⟨p,bs,rfl,SqL.of (o.fr.gh _ _ h2),q _ H G o (Same.refl G) rfl⟩
 ·cases hz
theorem yCc:xDw κ (rAny κ.K) anyD:=by
 intro B ρ σ H G ds xs z Q o r hz q
 unfold anyD at hz
 split at hz
 ·obtain ⟨bs,h1,e⟩:=yK4.mp hz
  subst e
  obtain ⟨v,ws,rfl,⟨p,vs,rfl,⟨h2,_⟩,h3⟩,rfl⟩:=r
  rw [xJp h1 h3] at h2
  exact ⟨p,bs,rfl,SqL.of (o.fr.gh _ _ h2),q _ H G o (Same.refl G) rfl⟩
 ·cases hz
def D.kind:D->Option String
 | .non=>some "NoneType"
 | .bl _=>some "bool"
 | .int _=>some "int"
 | .str _=>some "str"
 | .tup _=>some "tuple"
 | .lst _ _=>some "list"
 | .dk _ _=>some "dict"
 | _=>none
def kitT (a n:String):Option Bool:=if n="int" then some (a="int" || a="bool") else if n="bool"\/n="str"\/n="list"\/n="tuple"\/n="dict" then some (a=n) else none
theorem xYg {d:D}{a n:String}{r:Bool}(h:d.kind=some a)(k:kitT a n=some r):kitB a n=some r:=by
 have ha:a="NoneType"\/a="bool"\/a="int"\/a="str"\/a="tuple"\/a="list"\/a="dict":=by
  cases d <;> cases h <;> simp
 have hn:n="int"\/n="bool"\/n="str"\/n="list"\/n="tuple"\/n="dict":=by
  unfold kitT at k
  split at k
  ·exact .inl (by assumption)
  ·split at k
   ·exact .inr (by assumption)
   ·cases k
 have go:kitB a n=kitT a n:=by
  rcases ha with rfl|rfl|rfl|rfl|rfl|rfl|rfl <;> rcases hn with rfl|rfl|rfl|rfl|rfl|rfl <;> decide +kernel
 rw [go,k]
theorem xNa (s:Same G H)(h:d.kind=some a)(r:Rep κ T G d v):TyX κ.K H v (.type a):=by
 cases d with
 | non=>cases h;cases (show v=V.non from r);exact .base .non
 | bl b=>cases h;cases (show v=V.bl b from r);exact .base (.bl b)
 | int b=>cases h;cases (show v=V.int b from r);exact .base (.int b)
 | str b=>cases h;cases (show v=V.str b from r);exact .base (.str b)
 | tup l=>
  cases h
  obtain ⟨p,vs,rfl,h1,_⟩:=r
  rcases h1 with h1|⟨o,its,n,e1,e2,_⟩
  ·exact .base (.tup (s _ _ h1))
  ·exact .kTuple e1 e2
 | lst b l=>
  cases h
  obtain ⟨p,vs,rfl,⟨h1,_⟩,_⟩:=r
  exact .base (.lst (s _ _ h1))
 | dk b l=>
  cases h
  obtain ⟨p,vs,rfl,⟨h1,_⟩,_⟩:=r
  rcases h1 with h1|⟨_,o,h1⟩
  ·exact .base (.dK (s _ _ h1))
  ·exact .fDict (s _ _ h1)
 | _=>cases h
def isiD:List D->Option SD
 | [d,.ty n]=>d.kind.bind fun a=>(kitT a n).map fun r=> .va (.bl r)
 | _=>none
theorem xEp:xDw κ (rIsi κ.K) isiD:=by
 intro B ρ σ H G ds xs z Q o r hz q
 unfold isiD at hz
 split at hz
 ·rename_i d n
  obtain ⟨a,h1,h2⟩:=yLj.mp hz
  obtain ⟨b,h3,e⟩:=yK4.mp h2
  subst e
  obtain ⟨v,ws,rfl,r1,w',us,rfl,rfl,rfl⟩:=r
  exact ⟨v,_,_,_,b,rfl,.ty n,xNa o.fr.gh h1 r1,kit_ty (xYg h1 h3),q _ H G o (Same.refl G) rfl⟩
 ·cases hz
def xJg (a:String):List D->Option Bool
 | []=>some false
 | .ty n::l=>(kitT a n).bind fun b=>(xJg a l).map fun c=>b || c
 | _::_=>none
def xO3:List D->Option SD
 | [d,.tup l]=>d.kind.bind fun a=>(xJg a l).map fun r=> .va (.bl r)
 | _=>none
theorem xW9 {d:D}{a:String}(h:d.kind=some a): ∀ {l:List D} {vs:List V} {b:Bool},xJg a l=some b->RepL κ T G l vs-> ∃ us,Paired ClsV vs us/\PySem.W.kitAny κ.K (.type a) us=some b
 | [],vs,b,e,r=>by
  cases e
  rw [show vs=[] from r]
  exact ⟨[],.nil,kitAny_nil⟩
 | .ty n::l,vs,b,e,r=>by
  obtain ⟨c,h1,h2⟩:=yLj.mp (show ((kitT a n).bind fun b=>(xJg a l).map fun c=>b || c)=some b from e)
  obtain ⟨c',h3,rfl⟩:=yK4.mp h2
  obtain ⟨v,ws,rfl,rfl,r2⟩:=r
  obtain ⟨us,p,k⟩:=xW9 h h3 r2
  refine ⟨.type n::us,.cons (.ty n) p,kitAny_cons (kit_ty (xYg h h1)) (fun z=> ?_) fun z=> ?_⟩
  ·rw [z,Bool.false_or]
   exact k
  ·rw [z,Bool.true_or]
theorem xVx:CallR X (.builtin "isinstance") (fun xs H Q=>rIsiT X.K xs H Q\/rIsiK X.K xs H Q):=CallR.or call_isiT call_isiK
theorem xU2: ∀ {vs:List V} {us ws:List Value},Paired ClsV vs us->Vals vs ws->ws=us:=fun {vs us ws} a b=>ClsV.all a b
theorem xZc:xDw κ (fun xs H Q=>rIsiT κ.K xs H Q\/rIsiK κ.K xs H Q) xO3:=by
 intro B ρ σ H G ds xs z Q o r hz q
 unfold xO3 at hz
 split at hz
 ·rename_i d l
  obtain ⟨a,h1,h2⟩:=yLj.mp hz
  obtain ⟨b,h3,e⟩:=yK4.mp h2
  subst e
  obtain ⟨v,ws,rfl,r1,w',us,rfl,⟨p,cs,rfl,r2,r3⟩,rfl⟩:=r
  obtain ⟨us',k1,k2⟩:=xW9 (κ:=κ) h1 h3 r3
  rcases r2 with r2|⟨ob,its,n,e1,e2,e3,e4,e5⟩
  ·exact .inl ⟨v,p,cs,_,us',b,rfl,o.fr.gh _ _ r2,k1,xNa o.fr.gh h1 r1,k2,q _ H G o (Same.refl G) rfl⟩
  ·obtain ⟨oc,od,dt,sl⟩:=ob
   cases e2
   cases e3
   have e6:=xU2 k1 e5
   refine .inr ⟨v,p,od,us',n,sl,_,b,rfl,?_,xNa o.fr.gh h1 r1,k2,q _ H G o (Same.refl G) rfl⟩
   rw [e1,<- e6]
 ·cases hz
end
set_option maxHeartbeats 390000
def SD.nbS:SD->Bool
 | .va d=>d.nb
 | .ow d=>d.nbO
 | .un=>true
def mixL:List SD->List SD->Option (List SD)
 | [],_=>some []
 | .ow _::l,x::r=>if x.nbS then (mixL l r).map (x:: ·) else none
 | y::l,_::r=>(mixL l r).map (y:: ·)
 | _::_,[]=>none
def xRc (i:Nat)(d:D)(ρ ρ1:List SD):Option (List SD):=(mixL (ρ.set i .un) ρ1).map fun l=>l.set i (.ow d)
def xT6 (i:Nat)(m:M SD):M SD:=fun ρ=>match ρ[i]? with
 | some (.ow d)=>match m (ρ.set i (.va d.ln)) with
  | .ok r ρ1=>if r.nbS then match xRc i d ρ ρ1 with
   | some ρ2=> .ok r ρ2
   | none=> .no
   else .no
  | .ex x ρ1=>if nbF x.fs then match xRc i d ρ ρ1 with
   | some ρ2=> .ex x ρ2
   | none=> .no
   else .no
  | .no=> .no
 | _=>m ρ
theorem xNr: ∀ {l r o:List SD} {j:Nat} {x:SD},mixL l r=some o->o[j]? =some x->(∃ c,l[j]? =some (SD.ow c)/\r[j]? =some x/\x.nbS=true)\/((∀ c,l[j]? ≠some (SD.ow c))/\l[j]? =some x)
 | [],r,o,j,x,h,e=>by
  cases h
  simp at e
 | y::l,[],o,j,x,h,e=>by cases y <;> cases h
 | .ow c::l,y::r,o,j,x,h,e=>by
  have h':(if y.nbS then (mixL l r).map (y:: ·) else none)=some o:=h
  split at h'
  ·obtain ⟨o',h1,rfl⟩:=yK4.mp h'
   cases j with
   | zero=>
    cases e
    exact .inl ⟨c,rfl,rfl,by assumption⟩
   | succ j=>exact xNr (j:=j) h1 e
  ·cases h'
 | .va c::l,y::r,o,j,x,h,e=>by
  obtain ⟨o',h1,rfl⟩:=yK4.mp (show (mixL l r).map (SD.va c:: ·)=some o from h)
  cases j with
  | zero=>
   cases e
   exact .inr ⟨(fun c' z=>by cases z),rfl⟩
  | succ j=>exact xNr (j:=j) h1 e
 | .un::l,y::r,o,j,x,h,e=>by
  obtain ⟨o',h1,rfl⟩:=yK4.mp (show (mixL l r).map (SD.un:: ·)=some o from h)
  cases j with
  | zero=>
   cases e
   exact .inr ⟨(fun c' z=>by cases z),rfl⟩
  | succ j=>exact xNr (j:=j) h1 e
theorem xI3: ∀ {l r o:List SD},mixL l r=some o->o.length=l.length
 | [],r,o,h=>by cases h;rfl
 | y::l,[],o,h=>by cases y <;> cases h
 | .ow c::l,y::r,o,h=>by
  have h':(if y.nbS then (mixL l r).map (y:: ·) else none)=some o:=h
  split at h'
  ·obtain ⟨o',h1,rfl⟩:=yK4.mp h'
   rw [yK9,yK9,xI3 h1]
  ·cases h'
 | .va c::l,y::r,o,h=>by
  obtain ⟨o',h1,rfl⟩:=yK4.mp (show (mixL l r).map (SD.va c:: ·)=some o from h)
  rw [yK9,yK9,xI3 h1]
 | .un::l,y::r,o,h=>by
  obtain ⟨o',h1,rfl⟩:=yK4.mp (show (mixL l r).map (SD.un:: ·)=some o from h)
  rw [yK9,yK9,xI3 h1]
section
variable {κ:Ctx}{B:Bas}{ρ ρ1:List SD}{σ:L2.St}{H G H' G':Hp}
theorem xBm.mono2 (h:xBm κ T G H p d)(e:Mono T G T' G'):xBm κ T' G' H p d:=by
 cases d with
 | lst b l=>
  obtain ⟨vs,h1,h2⟩:=h
  exact ⟨vs,h1,RepL.mono e l h2⟩
 | dk b l=>
  obtain ⟨vs,h1,h2⟩:=h
  exact ⟨vs,h1,RepK.mono e l h2⟩
 | ins b c l=>
  obtain ⟨dx,vs,h1,h2⟩:=h
  exact ⟨dx,vs,h1,RepF.mono e l h2⟩
 | scr l=>
  obtain ⟨vs,h1,h2⟩:=h
  exact ⟨vs,h1,RepL.mono e l h2⟩
 | _=>exact h.elim
theorem xBm.er (ho:G p=some o)(mu:Mut (some o))(ht:T' p)(hT: ∀ a,a≠p->(T' a ↔ T a))(n:d.nbO=true)(h:xBm κ T' G H q d):xBm κ T (er G p) H q d:=by
 cases d with
 | lst b l=>
  obtain ⟨vs,h1,h2⟩:=h
  exact ⟨vs,h1,RepL.er ho mu ht hT l n h2⟩
 | dk b l=>
  obtain ⟨vs,h1,h2⟩:=h
  exact ⟨vs,h1,RepK.er ho mu ht hT l n h2⟩
 | ins b c l=>
  obtain ⟨dx,vs,h1,h2⟩:=h
  exact ⟨dx,vs,h1,RepF.er ho mu ht hT l n h2⟩
 | scr l=>
  obtain ⟨vs,h1,h2⟩:=h
  exact ⟨vs,h1,RepL.er ho mu ht hT l n h2⟩
 | _=>exact h.elim
theorem xBm.lent (h:xBm κ T G H p d)(hp:H p=some o)(hg:G p=none):Rep κ (fun a=>T a\/a=p) (upd G p o) d.ln (.ref p):=by
 have l:Ld (fun a=>T a\/a=p) p true:=⟨fun _=>rfl,fun _=> .inr rfl⟩
 have m:Mono T G (fun a=>T a\/a=p) (upd G p o):=⟨Same.upd hg,fun a u b e k=>⟨(fun z=>by
  rcases z with z|z
  ·exact k.mp z
  ·rw [z,hg] at e
   cases e),fun z=> .inl (k.mpr z)⟩⟩
 cases d with
 | lst b l'=>
  obtain ⟨vs,h1,h2⟩:=h
  rw [hp] at h1
  cases h1
  exact ⟨p,vs,rfl,⟨upd_same,l⟩,RepL.mono m l' h2⟩
 | dk b l'=>
  obtain ⟨vs,h1,h2⟩:=h
  rw [hp] at h1
  cases h1
  exact ⟨p,vs,rfl,⟨.inl upd_same,l⟩,RepK.mono m l' h2⟩
 | ins b c l'=>
  obtain ⟨dx,vs,h1,h2⟩:=h
  rw [hp] at h1
  cases h1
  exact ⟨p,dx,vs,rfl,⟨upd_same,l⟩,RepF.mono m l' h2⟩
 | scr l'=>
  obtain ⟨vs,h1,h2⟩:=h
  exact ⟨p,.non::vs,rfl,.inr rfl,⟨.non,vs,rfl,rfl,RepL.mono m l' h2⟩⟩
 | _=>exact h.elim
noncomputable def Bas.ln (B:Bas) (i:Nat) (p:Addr) (u:HO) (ρ:List SD) (σ:L2.St) (H G:Hp):Bas:=⟨hidS (ρ.set i .un) σ H,upd G p u,fun a=>B.T a\/a=p,[]⟩
structure Lent (κ:Ctx)(B:Bas)(i:Nat)(p:Addr)(u:HO)(d:D)(ρ:List SD)(σ:L2.St)(H G:Hp):Prop where
 ok:Ok κ B ρ σ H G
 sl:ρ[i]? =some (SD.ow d)
 at_:σ[i]? =some (some (V.ref p))
 gn:G p=none
 bn:B.H p=none
 own:xBm κ B.T G H p d
 hp:H p=some u
 mu:Mut (some u)
theorem Ok.lend (o:Ok κ B ρ σ H G)(e:ρ[i]? =some (SD.ow d)): ∃ p u,Lent κ B i p u d ρ σ H G:=by
 obtain ⟨p,h1,h2,h3,h4⟩:=o.own i d e
 obtain ⟨u,h5,_,h6⟩:=h4.obj
 exact ⟨p,u,o,e,h1,h2,h3,h4,h5,h6⟩
section
variable {i:Nat}{p:Addr}{u:HO}{d:D}
theorem xTi (h:(ρ.set i .un)[j]? =some (SD.ow c)):j≠i/\ρ[j]? =some (SD.ow c):=by
 by_cases hj:j=i
 ·subst hj
  have hl:j<ρ.length:=by
   have y:=(yK5.mp h).1
   rw [yLm] at y
   exact y
  rw [yK8 hl] at h
  cases h
 ·rw [yLa (Ne.symm hj)] at h
  exact ⟨hj,h⟩
theorem Lent.mono (L:Lent κ B i p u d ρ σ H G):Mono B.T G (fun a=>B.T a\/a=p) (upd G p u):=⟨Same.upd L.gn,fun a u b e k=>⟨(fun z=>by
  rcases z with z|z
  ·exact k.mp z
  ·rw [z,L.gn] at e
   cases e),fun z=> .inl (k.mpr z)⟩⟩
theorem Lent.seen (L:Lent κ B i p u d ρ σ H G):hidS (ρ.set i .un) σ H p=some u:=by
 rw [xEy fun j c e1 e2=> ?_]
 ·exact xCj L.hp fun ps z=>by
   have m:=L.mu
   rw [z] at m
   exact m
 ·obtain ⟨n,e3⟩:=xTi e1
  exact L.ok.sep j i p c d n e3 L.sl e2 L.at_
theorem Lent.enter (L:Lent κ B i p u d ρ σ H G):Ok κ (B.ln i p u ρ σ H G) (ρ.set i (.va d.ln)) σ H (upd G p u):=by
 have o:=L.ok
 have hl:=(yK5.mp L.sl).1
 have not_ow: ∀ {j:Nat} {x:SD},(ρ.set i (.va d.ln))[j]? =some x->(j=i/\x= .va d.ln)\/(j≠i/\ρ[j]? =some x):=fun {j x} e=>by
  by_cases hj:j=i
  ·subst hj
   rw [yK8 hl] at e
   exact .inl ⟨rfl,(yLh.inj e).symm⟩
  ·rw [yLa (Ne.symm hj)] at e
   exact .inr ⟨hj,e⟩
 refine ⟨⟨fun a w e _=>(xGz e).1,fun a ps e=>(xGz e).2 ps rfl,fun a _=>rfl,Same.refl _,fun a w e=> ?_,fun a ps e=> ?_,o.fr.tabs,fun a h=> ?_⟩,by rw [yLm];exact o.len,fun j c e=> ?_,fun j c e=> ?_,fun j k q c c' hjk h1 h2 h3 h4=> ?_,fun _ _ h=>nomatch h⟩
 ·by_cases na:a=p
  ·rw [na,upd_same] at e
   rw [na,L.hp]
   exact e
  ·rw [upd_ne na] at e
   exact o.fr.gh a w e
 ·by_cases na:a=p
  ·rw [na,upd_same] at e
   have mu:=L.mu
   rw [yLh.inj e] at mu
   exact mu
  ·rw [upd_ne na] at e
   exact o.fr.notb a ps e
 ·show hidS (ρ.set i .un) σ H a≠none
  rcases h with h|h
  ·have hb:=o.fr.lent a h
   rw [xEy fun j c e1 e2=> ?_]
   ·exact xI5 o.fr hb
   ·obtain ⟨_,e3⟩:=xTi e1
    obtain ⟨q,q1,_,q3,_⟩:=o.own j c e3
    rw [e2] at q1
    cases q1
    exact hb q3
  ·rw [h,L.seen]
   simp
 ·rcases not_ow e with ⟨rfl,e1⟩|⟨_,e1⟩
  ·cases e1
   exact ⟨_,L.at_,L.own.lent L.hp L.gn⟩
  ·obtain ⟨v,h1,h2⟩:=o.val j c e1
   exact ⟨v,h1,Rep.mono L.mono c h2⟩
 ·rcases not_ow e with ⟨_,e1⟩|⟨n,e1⟩
  ·cases e1
  ·obtain ⟨q,q1,q2,q3,q4⟩:=o.own j c e1
   have nq:q≠p:=fun y=>o.sep j i p c d n e1 L.sl (by rw [q1,y]) L.at_
   exact ⟨q,q1,by rw [upd_ne nq];exact q2,xYl (by rw [yLa (Ne.symm n)];exact e1) q1,q4.mono2 L.mono⟩
 ·rcases not_ow h1 with ⟨_,e1⟩|⟨n1,e1⟩
  ·cases e1
  ·rcases not_ow h2 with ⟨_,e2⟩|⟨n2,e2⟩
   ·cases e2
   ·exact o.sep j k q c c' hjk e1 e2 h3 h4
theorem Lent.bnone (L:Lent κ B i p u d ρ σ H G)(h:hidS (ρ.set i .un) σ H a=none):B.H a=none:=by
 rcases xPb h with ⟨j,c,e1,e2⟩|h
 ·obtain ⟨_,e3⟩:=xTi e1
  obtain ⟨q,q1,_,q3,_⟩:=L.ok.own j c e3
  rw [e2] at q1
  cases q1
  exact q3
 ·exact yK6 fun z=>xI5 L.ok.fr z h
theorem Lent.vis (L:Lent κ B i p u d ρ σ H G)(h:B.H a≠none):hidS (ρ.set i .un) σ H a=H a:=(xY0 L.ok.fr h) ▸ xEy fun j c e1 e2=>by
 obtain ⟨_,e3⟩:=xTi e1
 obtain ⟨q,q1,_,q3,_⟩:=L.ok.own j c e3
 rw [e2] at q1
 cases q1
 exact h q3
theorem Lent.leave (L:Lent κ B i p u d ρ σ H G)(o1:Ok κ (B.ln i p u ρ σ H G) ρ1 σ H' G')(hm:xRc i d ρ ρ1=some ρ2):
  Ok κ B ρ2 σ H' (er G' p)/\Same G (er G' p)/\G' p=some u/\(∀ (j:Nat) (c:D),ρ2[j]? =some (SD.ow c)->j=i\/ρ1[j]? =some (SD.ow c)):=by
 have o:=L.ok
 have hl:=(yK5.mp L.sl).1
 obtain ⟨l,hl1,rfl⟩:=yK4.mp hm
 have ll:l.length=ρ.length:=by rw [xI3 hl1,yLm]
 have gp:G' p=some u:=o1.fr.sub p u (show upd G p u p=some u from upd_same)
 have np:p∉([]:List Addr):=by simp
 have sG:Same G (er G' p):=fun a w e=>by
  have na:a≠p:=fun y=>by
   rw [y,L.gn] at e
   cases e
  rw [xEv na]
  exact o1.fr.sub a w ((upd_ne na).trans e)
 have hT: ∀ a,a≠p->((B.T a\/a=p) ↔ B.T a):=fun a n=>⟨fun z=>z.elim id fun y=>absurd y n,.inl⟩
 have ht:(fun a=>B.T a\/a=p) p:= .inr rfl
 have cs: ∀ {j:Nat} {x:SD},(l.set i (.ow d))[j]? =some x->(j=i/\x= .ow d)\/(j≠i/\((∃ c,ρ[j]? =some (SD.ow c)/\ρ1[j]? =some x/\x.nbS=true)\/((∀ c,ρ[j]? ≠some (SD.ow c))/\ρ[j]? =some x))):=fun {j x} e=>by
  by_cases hj:j=i
  ·subst hj
   rw [yK8 (by omega)] at e
   exact .inl ⟨rfl,(yLh.inj e).symm⟩
  ·rw [yLa (Ne.symm hj)] at e
   refine .inr ⟨hj,?_⟩
   have y:=xNr hl1 e
   rw [yLa (Ne.symm hj)] at y
   exact y
 have hP:H' p=H p:=(o1.fr.keep p u L.seen fun ps z=>by
  have mu:=L.mu
  rw [z] at mu
  exact mu).trans L.hp.symm
 refine ⟨⟨⟨fun a w e n=> ?_,o.fr.nt,fun a e=> ?_,o.fr.sub.trans sG,fun a w e=> ?_,fun a ps e=> ?_,o1.fr.tabs,o.fr.lent⟩,by rw [yLm,ll];exact o.len,fun j c e=> ?_,fun j c e=> ?_,fun j k q c c' hjk h1 h2 h3 h4=> ?_,o.anch⟩,sG,gp,fun j c e=> ?_⟩
 ·exact o1.fr.keep a w ((L.vis (by rw [e];simp)).trans (o.fr.keep a w e n)) n
 ·have na:a≠p:=fun y=>e (by rw [y];exact L.bn)
  rw [xEv na]
  refine (o1.fr.frz a ?_).trans ((upd_ne na).trans (o.fr.frz a e))
  show hidS (ρ.set i .un) σ H a≠none
  rw [L.vis e]
  exact o.fr.there a e
 ·by_cases na:a=p
  ·rw [na,xQ5] at e
   cases e
  ·rw [xEv na] at e
   exact o1.fr.gh a w e
 ·by_cases na:a=p
  ·rw [na,xQ5] at e
   cases e
  ·rw [xEv na] at e
   exact o1.fr.notb a ps e
 ·rcases cs e with ⟨_,e1⟩|⟨n,⟨c',e1,e2,e3⟩|⟨_,e1⟩⟩
  ·cases e1
  ·obtain ⟨v,h1,h2⟩:=o1.val j c e2
   exact ⟨v,h1,Rep.er gp L.mu ht hT c e3 h2⟩
  ·obtain ⟨v,h1,h2⟩:=o.val j c e1
   exact ⟨v,h1,Rep.mono (.of sG) c h2⟩
 ·rcases cs e with ⟨rfl,e1⟩|⟨n,⟨c',e1,e2,e3⟩|⟨e1,e2⟩⟩
  ·cases e1
   exact ⟨p,L.at_,xQ5,L.bn,L.own.mono sG hP⟩
  ·obtain ⟨q,q1,q2,q3,q4⟩:=o1.own j c e2
   have nq:q≠p:=fun y=>by
    rw [y,gp] at q2
    cases q2
   exact ⟨q,q1,by rw [xEv nq];exact q2,L.bnone q3,xBm.er gp L.mu ht hT e3 q4⟩
  ·exact absurd e2 (e1 c)
 ·have pick: ∀ {j:Nat} {c:D},(l.set i (.ow d))[j]? =some (SD.ow c)->(j=i)\/(j≠i/\ρ1[j]? =some (SD.ow c)):=fun {j c} e=>by
   rcases cs e with ⟨e1,_⟩|⟨n,⟨c',e1,e2,e3⟩|⟨e1,e2⟩⟩
   ·exact .inl e1
   ·exact .inr ⟨n,e2⟩
   ·exact absurd e2 (e1 c)
  have apart: ∀ {j:Nat} {c:D},ρ1[j]? =some (SD.ow c)->σ[j]? =some (some (V.ref p))->False:=fun {j c} e1 e2=>by
   obtain ⟨q,q1,q2,_,_⟩:=o1.own j c e1
   rw [e2] at q1
   cases q1
   rw [gp] at q2
   cases q2
  rcases pick h1 with e1|⟨n1,e1⟩ <;> rcases pick h2 with e2|⟨n2,e2⟩
  ·exact hjk (e1.trans e2.symm)
  ·rw [e1,L.at_] at h3
   cases h3
   exact apart e2 h4
  ·rw [e2,L.at_] at h4
   cases h4
   exact apart e1 h3
  ·exact o1.sep j k q c c' hjk e1 e2 h3 h4
 ·rcases cs e with ⟨e1,_⟩|⟨n,⟨c',e1,e2,e3⟩|⟨e1,e2⟩⟩
  ·exact .inl e1
  ·exact .inr e2
  ·exact absurd e2 (e1 c)
end
theorem yFn (h:tE κ W (xT6 i m) σ H Q):tE κ W m σ H Q:=by
 obtain ⟨B,ρ,G,o,q⟩:=h
 unfold xT6 at q
 cases e:ρ[i]? with
 | none=>
  rw [e] at q
  exact ⟨B,ρ,G,o,q⟩
 | some x=>
  rw [e] at q
  cases x with
  | un=>exact ⟨B,ρ,G,o,q⟩
  | va c=>exact ⟨B,ρ,G,o,q⟩
  | ow d=>
   dsimp only at q
   obtain ⟨p,u,L⟩:=o.lend e
   refine ⟨_,_,_,L.enter,?_⟩
   have hT: ∀ a,a≠p->((B.T a\/a=p) ↔ B.T a):=fun a n=>⟨fun z=>z.elim id fun y=>absurd y n,.inl⟩
   cases em:m (ρ.set i (.va d.ln)) with
   | no=>
    rw [em] at q
    exact q.elim
   | ex x ρ1=>
    rw [em] at q
    dsimp only at q
    by_cases hn:nbF x.fs=true
    ·rw [if_pos hn] at q
     cases hm:xRc i d ρ ρ1 with
     | none=>
      rw [hm] at q
      exact q.elim
     | some ρ2=>
      rw [hm] at q
      intro cls dd H' G' o1 s1 rx
      obtain ⟨k1,k2,k3,k4⟩:=L.leave o1 hm
      refine q cls dd H' (er G' p) k1 k2 ?_
      obtain ⟨x1,dx,vs,x2,x3,x4⟩:=rx
      exact ⟨x1,dx,vs,x2,x3,RepF.er k3 L.mu (.inr rfl) hT _ hn x4⟩
    ·rw [if_neg hn] at q
     exact q.elim
   | ok r ρ1=>
    rw [em] at q
    dsimp only at q
    by_cases hn:r.nbS=true
    ·rw [if_pos hn] at q
     cases hm:xRc i d ρ ρ1 with
     | none=>
      rw [hm] at q
      exact q.elim
     | some ρ2=>
      rw [hm] at q
      intro H' G' o1 s1 v rv
      obtain ⟨k1,k2,k3,k4⟩:=L.leave o1 hm
      refine q H' (er G' p) k1 k2 v ?_
      cases r with
      | un=>exact rv.elim
      | va c=>exact Rep.er k3 L.mu (.inr rfl) hT c hn rv
      | ow c=>
       obtain ⟨t,rfl,t1,t2,t3,t4⟩:=rv
       have nt:t≠p:=fun y=>by
        rw [y,k3] at t1
        cases t1
       refine ⟨t,rfl,by rw [xEv nt];exact t1,L.bnone t2,xBm.er k3 L.mu (.inr rfl) hT hn t3,fun j c' e1 e2=> ?_⟩
       rcases k4 j c' e1 with z|z
       ·rw [z,L.at_] at e2
        cases e2
        exact nt rfl
       ·exact t4 j c' z e2
    ·rw [if_neg hn] at q
     exact q.elim
theorem yHg (i:Nat)(h:PE X e (tE κ W m)):PE X e (tE κ W (xT6 i m)):=PE.imp h fun _ _ _=>yFn
end
def slD:SD->Option D
 | .va d=>some d
 | .ow d=>some d
 | .un=>none
section
variable {κ:Ctx}{B:Bas}{ρ:List SD}{σ:L2.St}{H G:Hp}
theorem Ok.set_is (o:Ok κ B ρ σ H G){i:Nat}(h:xGu ρ[i]? =true): ∃ v,σ[i]? =some (some v):=by
 cases e:ρ[i]? with
 | none=>
  rw [e] at h
  cases h
 | some x=>
  refine o.there e fun z=> ?_
  rw [e,z] at h
  cases h
end
def xCv {α:Type}(i:Nat)(m:M α):M α:=fun ρ=>if xGu ρ[i]? then m ρ else .no
theorem xZ7 {α:Type}{i:Nat}{m:M α}{k:α->List SD->Hp->Hp->Prop}(o:Ok κ B ρ σ H G)(h:Pst κ W B σ G (xCv i m ρ) k):(∃ v,σ[i]? =some (some v))/\Pst κ W B σ G (m ρ) k:=by
 unfold xCv at h
 by_cases hi:xGu ρ[i]? =true
 ·rw [if_pos hi] at h
  exact ⟨o.set_is hi,h⟩
 ·rw [if_neg hi] at h
  exact h.elim
theorem xW7 {i:Nat}{m:S}{D:Ends}(o:Ok κ B ρ σ H G)(h:PstS κ W B G (xCv i m ρ) D):(∃ v,σ[i]? =some (some v))/\PstS κ W B G (m ρ) D:=by
 unfold xCv at h
 by_cases hi:xGu ρ[i]? =true
 ·rw [if_pos hi] at h
  exact ⟨o.set_is hi,h⟩
 ·rw [if_neg hi] at h
  exact h.elim
def atS (i:Nat)(e:D):M SD:=fun ρ=>match ρ[i]? with
 | some (.va d)=>match ixD d e with
  | some z=> .ok z ρ
  | none=> .no
 | some (.ow (.lst b l))=>match ixD (.lst b l) e with
  | some z=> .ok z ρ
  | none=> .no
 | _=> .no
def mSub (i:Nat)(m:M SD):M SD:=xCv i ((fE m).bind (atS i))
section
variable {κ:Ctx}{X:Cx}{W:WX}{σ:L2.St}{H:Hp}{Q:VK}
def putS (i:Nat)(v k:D):S:=fun ρ=>match ρ[i]?,k with
 | some (.ow (.lst b l)),.int j=>match ixN l.length j with
  | some n=> .ok .nx (ρ.set i (.ow (.lst b (l.set n v))))
  | none=> .no
 | _,_=> .no
def sPut (i:Nat)(mk me:M SD):S:=(fE me).bind fun v=>xCv i ((fE mk).bind fun k=>putS i v k)
def appS (i:Nat)(ds:List D):M SD:=fun ρ=>match ρ[i]?,ds with
 | some (.ow (.lst b l)),[v]=>if l.length<1000000 then .ok (.va .non) (ρ.set i (.ow (.lst b (l++[v])))) else .no
 | _,_=> .no
def xOr:Option SD->Bool
 | some (.ow (.lst _ _))=>true
 | _=>false
def mApp (i:Nat)(n:M (List D)):M SD:=fun ρ=>if xOr ρ[i]? then (n.bind (appS i)) ρ else .no
theorem yKu (h:tE κ W (mApp i n) σ H Q):tBM κ.K "list" rAppend (tVar i) (tA κ W n) σ H Q:=by
 obtain ⟨B,ρ,G,o,q⟩:=h
 unfold mApp at q
 cases hi:xOr ρ[i]? with
 | false=>
  rw [hi,if_neg yMd] at q
  exact q.elim
 | true=>
  rw [hi,if_pos rfl] at q
  cases e:ρ[i]? with
  | none=>
   rw [e] at hi
   cases hi
  | some x=>
   cases x with
   | un=>
    rw [e] at hi
    cases hi
   | va d=>
    rw [e] at hi
    cases hi
   | ow d=>
    cases d with
    | lst b l=>
     obtain ⟨p,e1,e2,e3,vs,e4,e5⟩:=o.own i _ e
     refine ⟨_,e1,.inl ⟨rfl,vs,SqL.of e4⟩,B,ρ,G,o,Pst.mono (Pst.bind q) fun ds ρ' H' G' o' s q' xs rs=> ?_⟩
     unfold appS at q'
     cases h2:ρ'[i]? with
     | none=>
      rw [h2] at q'
      exact q'.elim
     | some x=>
      rw [h2] at q'
      cases x with
      | un=>exact q'.elim
      | va d=>exact q'.elim
      | ow d=>
       cases d with
       | lst b' l'=>
        cases ds with
        | nil=>exact q'.elim
        | cons v r=>
         cases r with
         | cons _ _=>exact q'.elim
         | nil=>
          dsimp only at q'
          by_cases hl:l'.length<1000000
          ·rw [if_pos hl] at q'
           obtain ⟨p',f1,f2,f3,ws,f4,f5⟩:=o'.own i _ h2
           rw [e1] at f1
           cases f1
           obtain ⟨y,us,rfl,r1,r2⟩:=rs
           have r2:us=[]:=r2
           subst r2
           refine ⟨p,ws,y,rfl,rfl,f4,by rw [f5.length,sizeLine_eq];omega,?_⟩
           exact q' _ G' (o'.write h2 e1 (fun ps z=>by cases z) ⟨_,upd_same,f5.append (RepL.one r1)⟩) (Same.refl G') _ rfl
          ·rw [if_neg hl] at q'
           exact q'.elim
       | _=>exact q'.elim
    | _=>
     rw [e] at hi
     cases hi
theorem yAc (hK:X.K=κ.K)(h:PE X (.Name x p) (tVar i))(ha:PA X [e] (tA κ W n))
  (hbase:attributeBase (.Name x p) "append" X.env (eval (.Name x p) X.env)=eval (.Name x p) X.env:=by rfl)
  (hfew:((backTo cpos (starEach [e] X.env)).all (fun x=> !x.1)&&(backToKw cpos (keywordEach [] X.env)).all (fun x=>x.1.isSome)&&decide (([e]:List Expr).length+([]:List Keyword).length+(if ([]:List Keyword).isEmpty then 0 else 1)<30))=true:=by rfl)
  (hline:(apos.endLine==cpos.line)=true:=by rfl) (hs:starEach [e] X.env=(false,eval e X.env)::starEach [] X.env:=by rfl) (hplain:(backTo cpos (starEach ([]:List Expr) X.env)).any (·.1)=false:=by rfl):PE X (.Call (.Attribute (.Name x p) "append" apos) [e] [] cpos) (tE κ W (mApp i n)):=
 PE.imp (pe_bm PySem.F.plainAttrs_list PySem.F.slot_list_append PySem.F.type_list_append mt_append h ha hbase hfew hline hs hplain) fun _ _ _ q=>by
  rw [hK]
  exact yKu q
end
end Fm
set_option maxHeartbeats 990000
namespace Zs
open PySem L2
abbrev two (x y:Value):Obj:={ cls:= .type "tuple",data:= .seq #[x,y] }
abbrev zob (ti to:Addr)(own:Value):Obj:={ cls:= .type "zip",dict:=none,data:= .fields #[own,.bool false,.bool true,.ref ti,.ref to],slots:= #[] }
def Sd (b:Bool)(h:Heap)(l:Addr)(xs:Array Value):Prop:=if b then h.IsTuple l xs else h.IsList l xs
def At (b:Bool)(h:Heap)(p l:Addr)(n:Nat):Prop:=if b then h.IsTupleIter p l n else h.IsListIter p l n
section
variable {b c:Bool}{h g:Heap}{l p:Addr}{xs:Array Value}{n:Nat}
end
structure Zip2 (b c:Bool)(z ti to p q a d:Addr)(n:Nat)(own u v:Value)(h:Heap):Prop where
 z:h.get? z=some (zob ti to own)
 i:h.get? ti=some (two (.ref p) (.ref q))
 o:h.get? to=some (two u v)
 p:At b h p a n
 q:At c h q d n
def Stay (z to p q:Addr)(h g:Heap):Prop:= ∀ e o,e≠z->e≠to->e≠p->e≠q->h.get? e=some o->g.get? e=some o
section
variable {P:Program}{w:World}{s:Shared}{A:Around}{E:Value->Shared->Prop}
def Two (p to:Addr)(h g:Heap):Prop:=(∀ e,e≠p->e≠to->g.get? e=h.get? e)/\g.objs.size=h.objs.size
end
section
variable {P:Program}{w:World}{s:Shared}{A:Around}{E:Value->Shared->Prop}
end
def laid (h:Heap)(os:List Obj):Heap:=os.foldl Heap.push h
def itO (b:Bool)(l:Addr):Obj:={ cls:= .type (if b then "tuple_iterator" else "list_iterator"),data:= .fields #[.ref l,.int 0 0] }
abbrev five (b c:Bool)(a d:Addr)(n:Nat):List Obj:=[itO b a,itO c d,two (.ref n) (.ref (n+1)),two .none .none,zob (n+2) (n+3) .none]
abbrev kwS:List (Str×Value):=[(Str.ofString "strict",.bool true)]
section
variable {b c:Bool}{z ti to p q a d:Addr}{n:Nat}{own u v:Value}{h g:Heap}
abbrev cells (z ti to p q:Addr):List Addr:=[z,ti,to,p,q]
theorem Stay.out (k:Stay z to p q h g): ∀ e o,e∉cells z ti to p q->h.get? e=some o->g.get? e=some o:=fun e o m f=>by
 simp only [cells,yLp,yM0,or_false,not_or] at m
 exact k e o m.1 m.2.2.1 m.2.2.2.1 m.2.2.2.2 f
end
section
variable {P:Program}{w:World}{s:Shared}{A:Around}{E:Value->Shared->Prop}
end
end Zs
namespace Fm
open L2 PySem PySem.Spec PyProof.Rows Zs
def SqB (k:Bool)(K:PySem.W.Frag)(H:Hp)(a:Addr)(xs:List V):Prop:=match k with
 | true=>SqT K H a xs
 | false=>SqL K H a xs
section
variable {X:Cx}{pins:List (Addr×Obj)}{σ:L2.St}{H:Hp}{s:Shared}{k:Bool}{a:Addr}{xs ys:List V}
theorem SqB.inj (I:Inv X pins σ H s)(h:SqB k X.K H a xs)(h':SqB k X.K H a ys):xs=ys:=by
 cases k with
 | false=>exact I.list_inj (show SqL X.K H a xs from h) h'
 | true=>exact I.tuple_inj (show SqT X.K H a xs from h) h'
end
def ItS (K:PySem.W.Frag)(k k':Bool)(a b:Addr):It where
 go i H:= ∃ xs ys,SqB k K H a xs/\SqB k' K H b ys/\i<xs.length/\i<ys.length
 yld i H v H':= ∃ T x y,v= .ref T/\H T=none/\H'=upd H T (.tup [x,y])/\(∀ xs,SqB k K H a xs->xs[i]? =some x)/\ ∀ ys,SqB k' K H b ys->ys[i]? =some y
 stop i H:= ∃ xs ys,SqB k K H a xs/\SqB k' K H b ys/\xs.length<=i/\ys.length<=i
def iZipS (K:PySem.W.Frag)(ta:TA):TI:=fun σ H R=>ta σ H fun vs H1=> ∃ (k k':Bool) (a b:Addr) (xs ys:List V),vs=[.ref a,.ref b]/\SqB k K H1 a xs/\SqB k' K H1 b ys/\R (ItS K k k' a b) H1
end Fm
set_option maxHeartbeats 390000
namespace Fm
open L2 PySem PySem.Spec PyProof.Rows
def D.seq:D->Option (Bool×List D)
 | .lst _ l=>some (false,l)
 | .tup l=>some (true,l)
 | _=>none
def zipP:List D->List D->List D
 | a::l,b::m=> .tup [a,b]::zipP l m
 | _,_=>[]
def zipM:List D->M (List D)
 | [d,e]=>match d.seq,e.seq with
  | some (_,l),some (_,m)=>if l.length=m.length then M.ret (zipP l m) else M.no
  | _,_=>M.no
 | _=>M.no
def iZp (n:M (List D)):M (List D):=n.bind zipM
theorem SqB.mono {k:Bool}{K:PySem.W.Frag}{G H:Hp}(s:Same G H){a:Addr}{vs:List V}(h:SqB k K G a vs):SqB k K H a vs:=by
 cases k with
 | true=>exact SqT.mono s h
 | false=>exact xMk s h
section
variable {X:Cx}{κ:Ctx}{W:WX}
def tO (κ:Ctx)(W:WX)(m:M (Option Int)):TO:=fun σ H Q=> ∃ B ρ G,Ok κ B ρ σ H G/\Pst κ W B σ G (m ρ) fun o _ H' _=>Q o H'
theorem PO.imp (h:PO X e t)(f: ∀ σ H Q,t' σ H Q->t σ H Q):PO X e t':=⟨fun pins s σ H Q I q=>h.run pins s σ H Q I (f _ _ _ q)⟩
def mPN:M (Option Int):=M.ret none
def intM:D->M (Option Int)
 | .int i=>M.ret (some i)
 | _=>M.no
def mPS (m:M SD):M (Option Int):=(fE m).bind intM
theorem xFb:PO X none (tO κ W mPN):=PO.imp po_none fun σ H Q ⟨B,ρ,G,o,q⟩=>Pst.ret q o
theorem xEr (h:PE X e (tE κ W m)):PO X (some e) (tO κ W (mPS m)):=by
 refine PO.imp (po_some h) fun σ H Q ⟨B,ρ,G,o,q⟩=> ?_
 refine xB1 o (Pst.bind q) fun d ρ1 H1 G1 o1 s1 q1 v1 r1=> ?_
 cases d with
 | int i=>exact ⟨i,r1,Pst.ret q1 o1⟩
 | _=>exact q1.elim
def cutD (l:List D)(lo hi:Option Int):List D:=(l.drop (HT.sIx l.length 0 lo)).take (HT.sIx l.length l.length hi-HT.sIx l.length 0 lo)
def slcD:D->Option Int->Option Int->Option SD
 | .lst _ l,lo,hi=>some (.ow (.lst false (cutD l lo hi)))
 | .scr l,lo,hi=>if mkL l then none else some (.ow (.lst false (cutD l lo hi)))
 | .tup l,lo,hi=>some (.va (.tup (cutD l lo hi)))
 | .str s,lo,hi=>if s.length<=1000000 then some (.va (.str (cutS s lo hi))) else none
 | _,_,_=>none
theorem xMg (r:RepL κ T G l vs)(lo hi:Option Int):RepL κ T G (cutD l lo hi) (cutV vs lo hi):=by
 unfold cutD cutV
 rw [r.length]
 exact (r.drop _).take _
def mSl (m:M SD)(ml mh:M (Option Int)):M SD:=(fE m).bind fun d=>ml.bind fun lo=>mh.bind fun hi=>M.opt (slcD d lo hi)
theorem xDe {e:Expr}{lo hi:Option Expr}{m:M SD}{ml mh:M (Option Int)}{p2 pos:Pos}(hK:X.K=κ.K)(he:PE X e (tE κ W m))(hl:PO X lo (tO κ W ml))(hh:PO X hi (tO κ W mh)):PE X (.Subscript e (.Slice lo hi none p2) pos) (tE κ W (mSl m ml mh)):=by
 refine PE.imp (pe_slice (sl_list.or (sl_tupA.or sl_str)) he hl hh) fun σ H Q ⟨B,ρ,G,o,q⟩=> ?_
 refine xB1 o (Pst.bind q) fun d ρ1 H1 G1 o1 s1 q1 v1 r1=> ?_
 refine ⟨B,ρ1,G1,o1,Pst.mono (Pst.bind q1) fun lo ρ2 H2 G2 o2 s2 q2=> ?_⟩
 refine ⟨B,ρ2,G2,o2,Pst.mono (Pst.bind q2) fun hi ρ3 H3 G3 o3 s3 q3=> ?_⟩
 have r3:=Rep.mono (.of (s2.trans s3)) d r1
 obtain ⟨z,hz,q4⟩:=Pst.opt q3
 rw [hK]
 cases d with
 | lst b l=>
  cases hz
  obtain ⟨a,vs,rfl,⟨h1,_⟩,h2⟩:=r3
  exact .inl ⟨a,vs,rfl,SqL.of (o3.fr.gh _ _ h1),fun p hp=>q4 _ _ (o3.allocOwn hp) (Same.refl _) _ (o3.newOwn hp ⟨_,upd_same,xMg h2 lo hi⟩)⟩
 | scr l=>
  have hz':(if mkL l=true then none else some (SD.ow (.lst false (cutD l lo hi))))=some z:=hz
  by_cases hm:mkL l=true
  ·rw [if_pos hm] at hz'
   cases hz'
  rw [if_neg hm] at hz'
  cases hz'
  obtain ⟨a,vs,rfl,h1,h2⟩:=r3
  exact .inl ⟨a,vs,rfl,(h1.resolve_right hm).sq o3.fr.gh,fun p hp=>q4 _ _ (o3.allocOwn hp) (Same.refl _) _ (o3.newOwn hp ⟨_,upd_same,xMg h2 lo hi⟩)⟩
 | tup l=>
  cases hz
  obtain ⟨a,vs,rfl,h1,h2⟩:=r3
  refine .inr (.inl ⟨a,vs,rfl,h1.sq o3.fr.gh,fun hw=> ?_,fun hw p hp=> ?_⟩)
  ·refine q4 _ _ o3 (Same.refl _) _ ⟨a,vs,rfl,h1,?_⟩
   have c:=xMg h2 lo hi
   have e:cutV vs lo hi=vs:=by
    unfold cutV
    rw [hw.1,hw.2]
    simp
   rw [e] at c
   exact c
  ·have hg:=o3.gnone hp
   exact q4 _ _ (o3.alloc hp fun _ z=>by cases z) (Same.upd hg) _ ⟨p,_,rfl,.inl upd_same,RepL.mono (.of (Same.upd hg)) _ (xMg h2 lo hi)⟩
 | str s=>
  have hz':(if s.length<=1000000 then some (SD.va (.str (cutS s lo hi))) else none)=some z:=hz
  split at hz'
  ·cases hz'
   exact .inr (.inr ⟨s,r3,xFm (by assumption),q4 _ _ o3 (Same.refl _) _ rfl⟩)
  ·cases hz'
 | _=>cases hz
def repD:D->D->Option SD
 | .int i,.int j=>if mulG i j then some (.va (.int (i*j))) else none
 | .lst _ l,.int k=>if -(2 ^ 62)<=k/\k<2 ^ 62/\l.length*k.toNat<=1000000 then some (.ow (.lst false (yLi k.toNat l).flatten)) else none
 | .str s,.int k=>if 2<=k/\k<2 ^ 62/\s.length≠0/\s.length*k.toNat<=1000000 then some (.va (.str ⟨(yLi k.toNat s.cps).foldl (· ++ ·) #[]⟩)) else none
 | _,_=>none
def yGz:R2:=fun x y H Q=> ∃ (s:Str) (k:Int),x= .str s/\y= .int k/\2<=k/\k<2 ^ 62/\s.length≠0/\s.length*k.toNat<=1000000/\Q (.str ⟨(yLi k.toNat s.cps).foldl (· ++ ·) #[]⟩) H
theorem yGw:OpR X (binaryOp .Mult) yGz:=by
 rintro pins s σ H x y v u Q I rx ry ⟨z,k,rfl,rfl,h1,h2,h3,h4,q⟩
 obtain ⟨t,rfl⟩:=rx
 obtain ⟨t',rfl⟩:=ry
 obtain ⟨n,rfl⟩: ∃ n:Nat,k=n:=⟨k.toNat,by omega⟩
 rw [yMb] at h4 q
 have one: ¬ ((n:Int)<1):=by omega
 have two:((n:Int)==1 || z.length==0)=false:=by
  rw [Bool.or_eq_false_iff]
  exact ⟨beq_eq_false_iff_ne.mpr (by omega),beq_eq_false_iff_ne.mpr h3⟩
 have fold: ∀ (m:Nat) (a:Array Nat),((yLi m z.cps).foldl (· ++ ·) a).size=a.size+m*z.cps.size:=by
  intro m
  induction m with
  | zero=>intro a;simp
  | succ m ih=>
   intro a
   rw [List.replicate_succ,List.foldl_cons,ih,Array.size_append,Nat.succ_mul]
   omega
 have sz:(⟨(yLi n z.cps).foldl (· ++ ·) #[]⟩:Str).length<=1000000:=by
  show ((yLi n z.cps).foldl (· ++ ·) #[]).size<=1000000
  rw [fold]
  have e:z.length=z.cps.size:=rfl
  rw [e,Nat.mul_comm] at h4
  simp only [yMz,List.length_nil,Nat.zero_add]
  exact h4
 refine PySem.P.mul_str ?_ (fun _ _=> ?_) (fun _ _=> ?_) ?_
 ·rw [decide_eq_false (by omega),decide_eq_false (by omega)]
  rfl
 ·have hz:(z.length:Int)<=1000000:=by
   have hp:1<=n:=by omega
   have:=yLt (Nat.le_mul_of_pos_right z.length hp) h4
   omega
  have hm:z.length*n<=1000000:=h4
  have:(1000000:Int)<=2 ^ 63-1:=by decide
  rw [Int.not_lt]
  refine (Int.le_ediv_iff_mul_le (by omega)).mpr ?_
  have:((z.length*n:Nat):Int)<=((1000000:Nat):Int):=Int.ofNat_le.mpr hm
  rw [Int.natCast_mul] at this
  omega
 ·rw [yMb]
  exact PyProof.Rows.short24 (by omega)
 ·rw [if_neg one,if_neg (by rw [two];exact yMd),yMb]
  exact ⟨xFm sz,.str _,H,I.tok _,⟨_,rfl⟩,q⟩
theorem RepL.flat (r:RepL κ T G l vs): ∀ n:Nat,RepL κ T G (yLi n l).flatten (yLi n vs).flatten
 | 0=>rfl
 | n+1=>by
  simp only [List.replicate_succ,List.flatten_cons]
  exact r.append (r.flat n)
theorem xXr:OpD κ (fun x y H Q=>rI CMulW (fun i j=> .int (i*j)) x y H Q\/(rRep x y H Q\/yGz x y H Q)) repD:=by
 intro B ρ σ H G d e x y z Q o r1 r2 hz q
 cases d with
 | int i=>
  cases e with
  | int j=>
   have hz':(if mulG i j then some (SD.va (.int (i*j))) else none)=some z:=hz
   split at hz'
   ·cases hz'
    exact .inl ⟨i,j,r1,r2,by assumption,q _ H G o (Same.refl G) rfl⟩
   ·cases hz'
  | _=>cases hz
 | lst b l=>
  cases e with
  | int k=>
   have hz':(if -(2 ^ 62)<=k/\k<2 ^ 62/\l.length*k.toNat<=1000000 then some (SD.ow (.lst false (yLi k.toNat l).flatten)) else none)=some z:=hz
   split at hz'
   ·rename_i hk
    cases hz'
    obtain ⟨p,vs,rfl,⟨h1,_⟩,h2⟩:=r1
    refine .inr (.inl ⟨p,k,vs,rfl,r2,o.fr.gh _ _ h1,by omega,by omega,xFm (by rw [h2.length];exact hk.2.2),fun t ht=> ?_⟩)
    exact q _ _ _ (o.allocOwn ht) (Same.refl G) (o.newOwn ht ⟨_,upd_same,h2.flat _⟩)
   ·cases hz'
  | _=>cases hz
 | str a=>
  cases e with
  | int k=>
   have hz':(if 2<=k/\k<2 ^ 62/\a.length≠0/\a.length*k.toNat<=1000000 then some (SD.va (.str ⟨(yLi k.toNat a.cps).foldl (· ++ ·) #[]⟩)) else none)=some z:=hz
   split at hz'
   ·rename_i hk
    cases hz'
    exact .inr (.inr ⟨a,k,r1,r2,hk.1,hk.2.1,hk.2.2.1,hk.2.2.2,q _ H G o (Same.refl G) rfl⟩)
   ·cases hz'
  | _=>cases hz
 | _=>cases e <;> cases hz
theorem xQl:OpR X (binaryOp .Mult) (fun x y H Q=>rI CMulW (fun i j=> .int (i*j)) x y H Q\/(rRep x y H Q\/yGz x y H Q)):=op_mulW.or (op_rep.or yGw)
def sPar3 (i j l:Nat)(m n k:M SD):S:=(fE m).bind fun d=>(fE n).bind fun e=>(fE k).bind fun f=>fun ρ=> .ok .nx (((ρ.set i (.va d)).set j (.va e)).set l (.va f))
theorem PG.or (h:PG X e t)(h':PG X e t'):PG X e (fun v σ H Q=>t v σ H Q\/t' v σ H Q):=⟨fun pins s σ H v u Q I r q=>by
 rcases q with q|q
 ·exact h.run pins s σ H v u Q I r q
 ·exact h'.run pins s σ H v u Q I r q⟩
def gSq (n:Nat)(r:List D->List SD->Option (List SD)):D->List SD->Option (List SD)
 | .tup l,ρ=>if l.length=n then r l ρ else none
 | .lst _ l,ρ=>if l.length=n then r l ρ else none
 | _,_=>none
theorem xT4 {gr:List D->List SD->Option (List SD)}(hK:X.K=κ.K)(hc:X.calm=true)(h:PGs X es (tGs κ A vs gr))(hn:(assignEach es X.env).length=n:=by rfl)(hst:(assignEach es X.env).findIdx? (·.1)=none:=by rfl):
  PG X (.Tuple es k pos) (tG κ A vs (gSq n gr)):=by
 refine PG.imp (PG.or (pg_tup hc h hn hst) (pg_unl hc h hn hst)) fun v σ H Q ⟨B,ρ,G,d,ρ',a,o,r,e,q⟩=> ?_
 cases d with
 | tup l=>
  unfold gSq at e
  dsimp only at e
  by_cases hl:l.length=n
  ·rw [if_pos hl] at e
   obtain ⟨p,ws,rfl,r1,r2⟩:=r
   exact .inl ⟨p,ws,rfl,by rw [hK];exact r1.sq o.fr.gh,by rw [r2.length];exact hl,B,ρ,G,l,ρ',a,o,r2,e,q⟩
  ·rw [if_neg hl] at e
   cases e
 | lst b l=>
  unfold gSq at e
  dsimp only at e
  by_cases hl:l.length=n
  ·rw [if_pos hl] at e
   obtain ⟨p,ws,rfl,⟨r1,_⟩,r2⟩:=r
   exact .inr ⟨p,ws,rfl,SqL.of (o.fr.gh _ _ r1),by rw [r2.length];exact hl,B,ρ,G,l,ρ',a,o,r2,e,q⟩
  ·rw [if_neg hl] at e
   cases e
 | _=>cases e
def xSp (g':D->D->Option SD)(b:D)(mc:M SD):SD->M SD
 | .va (.bl true)=>(fE mc).bind fun c=>M.opt (g' b c)
 | .va (.bl false)=>M.ret (.va (.bl false))
 | _=>M.no
def xG3 (g g':D->D->Option SD)(ma mb mc:M SD):M SD:=(fE ma).bind fun a=>(fE mb).bind fun b=>(M.opt (g a b)).bind (xSp g' b mc)
theorem xTv {g g':D->D->Option SD}(hr:OpD κ r g)(hr':OpD κ r' g')(h:tE κ W (xG3 g g' ma mb mc) σ H Q):tChain r r' (tE κ W ma) (tE κ W mb) (tE κ W mc) σ H Q:=by
 obtain ⟨B,ρ,G,o,q⟩:=h
 refine xB1 o (Pst.bind q) fun d ρ1 H1 G1 o1 s1 q1 v1 r1=> ?_
 refine xB1 o1 (Pst.bind q1) fun e ρ2 H2 G2 o2 s2 q2 v2 r2=> ?_
 obtain ⟨z,hz,q3⟩:=Pst.opt (Pst.bind q2)
 refine hr B ρ2 σ H2 G2 d e v1 v2 z _ o2 (Rep.mono (.of s2) d r1) r2 hz fun v H' G' o' s' rv=> ?_
 have q4:=q3 H' G' o' s'
 unfold xSp at q4
 split at q4
 ·have rv:v=V.bl true:=rv
  subst rv
  refine ⟨true,rfl,iteT ?_⟩
  refine xB1 o' (Pst.bind q4) fun f ρ3 H3 G3 o3 s3 q5 v3 r3=> ?_
  obtain ⟨z',hz',q6⟩:=Pst.opt q5
  exact hr' B ρ3 σ H3 G3 e f v2 v3 z' Q o3 (Rep.mono (.of (s'.trans s3)) e r2) r3 hz' fun v H4 G4 o4 s4 rv=>q6 H4 G4 o4 s4 v rv
 ·have rv:v=V.bl false:=rv
  subst rv
  exact ⟨false,rfl,iteF (Pst.ret q4 o' _ rfl)⟩
 ·exact q4.elim
theorem xXw {g g':D->D->Option SD}(ho:OpR X (compareOp op) r)(hr:OpD κ r g)(ho':OpR X (compareOp op') r')(hr':OpD κ r' g')(ha:PE X a (tE κ W ma))(hb:PE X b (tE κ W mb))(hc:PE X c (tE κ W mc))
  (hm:lastMarks [op,op'] [b,c]=false:=by with_unfolding_all rfl):PE X (.Compare a [op,op'] [b,c] pos) (tE κ W (xG3 g g' ma mb mc)):=PE.imp (pe_chain ho ho' ha hb hc hm) fun _ _ _=>xTv hr hr'
theorem xRj {g g':D->D->Option SD}(ho:OpR X (compareOp op) r)(hr:OpD κ r g)(ho':OpR X (compareOp op') r')(hr':OpD κ r' g')(ha:PE X a (tE κ W ma))(hb:PE X b (tE κ W mb))(hc:PE X c (tE κ W mc))
  (hm:lastMarks [op,op'] [b,c]=false:=by with_unfolding_all rfl):PT X (.Compare a [op,op'] [b,c] pos) (tT κ W (mTst (xG3 g g' ma mb mc))):=PT.imp (pt_chain ho ho' ha hb hc hm) fun _ _ _ q=>xTv hr hr' (xVq q)
end
def nrm:List SD->List SD->List SD
 | .ow _::as,o::os=>o::nrm as os
 | _::as,_::os=> .un::nrm as os
 | _,_=>[]
def nrmF (as:List SD):FR->FR
 | .ok r os=> .ok r (nrm as os)
 | .ex x os=> .ex x (nrm as os)
 | .no=> .no
theorem xU5: ∀ {as os:List SD} {i:Nat} {d:D},as[i]? =some (SD.ow d)->(nrm as os)[i]? =os[i]?
 | [],os,i,d,h=>by simp at h
 | a::as,[],i,d,h=>by
  cases a <;> unfold nrm <;> simp
 | .ow c::as,o::os,0,d,h=>by
  unfold nrm
  rfl
 | .va c::as,o::os,0,d,h=>by cases h
 | .un::as,o::os,0,d,h=>by cases h
 | a::as,o::os,i+1,d,h=>by
  have ih:=xU5 (as:=as) (os:=os) (i:=i) (d:=d) h
  cases a <;> (unfold nrm;exact ih)
theorem After.nrm {κ:Ctx}{T:Pd}{G H:Hp}{as:List SD}{vs:List V}{os:List SD}{H' G':Hp}(a:After κ T G H as vs os H' G'):After κ T G H as vs (nrm as os) H' G':=
 ⟨a.keep,a.frz,a.sub,a.gh,a.notb,a.tabs,fun i d p e1 e2=>by
  rw [xU5 e1]
  exact a.outs i d p e1 e2⟩
theorem xUz.nrm {κ:Ctx}{T:Pd}{H:Hp}{as:List SD}{vs:List V}{os:List SD}{H' G':Hp}{r:SD}{v:V}(a:xUz κ T H as vs os H' G' r v):xUz κ T H as vs (nrm as os) H' G' r v:=by
 cases r with
 | un=>exact a
 | va d=>exact a
 | ow d=>
  obtain ⟨q,e,h1,h2,h3,h4⟩:=a
  exact ⟨q,e,h1,h2,h3,fun i c p c' e1 e2 e3=>h4 i c p c' e1 e2 (by rw [<- xU5 e1];exact e3)⟩
theorem yEy {f:List SD->FR}(q:spF κ n (fun as=>nrmF as (f as)) vs H Q E):spF κ n f vs H Q E:=by
 obtain ⟨T,G,as,hl,p,q⟩:=q
 refine ⟨T,G,as,hl,p,?_⟩
 cases e:f as with
 | ok r os=>
  simp only [e,nrmF] at q
  exact fun v H' G' a b=>q v H' G' a.nrm b.nrm
 | ex x os=>
  simp only [e,nrmF] at q
  exact fun cls d H' G' a b=>q cls d H' G' a.nrm b
 | no=>
  simp only [e,nrmF] at q
def runN (A:List Nat)(N:Nat)(s:S)(as:List SD):FR:=nrmF as (runF A N s as)
section
variable {P:Program}{w:World}{K:PySem.W.Frag}{f:Addr}{fd:FuncData}{mg:Str->Option Value}{base:Heap}{x qual:Str}{params:Arguments}{body:List Stmt}{scope:Scope}{dvs:List V}{kws:List (Str×V)}
theorem FnOk.weak {CX:CXT}{k:Nat}{ps:List Str}{sp sp':Sp}(F:FnOk P w K mg base CX k f fd ps sp)(h: ∀ vs H Q E,sp' vs H Q E->sp vs H Q E):FnOk P w K mg base CX k f fd ps sp':=
 { F with
  len:=fun vs H Q E q=>F.len vs H Q E (h vs H Q E q)
  run:=fun A outer s H args us vs Q E a b c d e=>F.run A outer s H args us vs Q E a b c d (h vs H Q E e) }
theorem xMj (F:FunD K x qual params body scope dvs kws f fd)(Sc:FnScope N ps scope)
  (hbody: ∀ (cdv:Value) (Ar:Around) (outer:List Env) (s0:Shared) (H:Hp) (E:XK),Room k (Ar.deeper (envOfC qual scope s0.heap.objs.size f cdv))->
   PSs (cxOf (L2.CX P w) P w K mg base N qual scope f cdv Ar outer s0 H E) body (tS κ A (fun cls d _ H=>E cls d H) s)):FnOk P w K mg base (L2.CX P w) (k+1) f fd ps (spF κ ps.length (runN A N.length s)):=
 FnOk.weak (yKp F Sc hbody) fun _ _ _ _ q=>yEy q
end
structure Callee (P:Program)(w:World)(K:PySem.W.Frag)(mg:Str->Option Value)(base:Heap)(κ:Ctx)(x:Str)(k:Nat)(ps:List Str)(fn:List SD->FR)(f:Addr)(fd:FuncData):Prop where
 ok:FnOk P w K mg base (L2.CX P w) k f fd ps (spF κ ps.length fn)
 gl:mg x=some (.ref f)
 kp:PySem.W.keepIn K (Value.ref f)=true
section
variable {X:Cx}{κ:Ctx}{W:WX}{k k':Nat}{f:Addr}{fd:FuncData}{ps:List Str}{fn:List SD->FR}{x:Str}{p pos:Pos}{e:Expr}{es:List Expr}{n:M (List Ar)}
theorem xYt (C:Callee X.prog X.w X.K X.mg X.base κ x k ps fn f fd)(hb:Binds X.K fd ps [])(hr:Room k' X.A)(hk:k<=k')(hg:Gl X x)(hx:xIa X W)(ha:PA X (e::es) (tAr κ W n))(hl:ALen n ps.length)(hdb:(x==("__debug__":Str))=false:=by decide)(he:starEach (e::es) X.env=(false,eval e X.env)::starEach es X.env:=by rfl)(hpl:(backTo pos (starEach es X.env)).any (·.1)=false:=by rfl):
  PE X (.Call (.Name x p) (e::es) [] pos) (tE κ W (xAy fn [] n)):=
 yDb C.ok rfl (hr.mono hk) hg C.gl C.kp hb .nil (fun _ _=>rfl) hx ha (xW0 hl (Nat.add_zero _)) hdb he hpl
theorem xT2 (h:PE X a (tE κ W m)):PE X (.BoolOp op [a] pos) (tE κ W m):=pe_one h
end
theorem xJc: ∀ ns:List Int,RepL κ T G (ns.map D.int) (ns.map V.int)
 | []=>rfl
 | n::ns=>⟨.int n,ns.map V.int,rfl,rfl,xJc ns⟩
def Truth (f:List SD->FR):Prop:= ∀ ns:List Int,ns.length<=63->(∀ z∈ns,Builtin.Int.intBits z<=1048576)-> ∀ d:D,d= .scr (ns.map D.int)\/d= .lst false (ns.map D.int)-> ∃ outs,f [.va d]= .ok (.va (.bl true)) outs
theorem yKv {l:PySem.W.OpenLaw}{K:PySem.W.Frag}{cl:String->Addr}{tabs:List (Addr×Str)}{cs:List (Addr×Addr)}{k:Nat}{x:Str}{mg:Str->Option Value}{fa:Addr}{h:Heap}{f:List SD->FR}
  (ht: ∀ p∈tabs,∃ c,(c,p.1)∈cs) (h1: ∀ p∈cs,h.get? p.2=some { cls:= .none,data:= .fields #[] }) (h2: ∀ p∈cs,K.lookup p.2=none) (h3: ∀ p∈cs,PySem.W.CodeHd h p.1 p.2)
  (hb: ∀ (s:Shared) (u:Value),BindsTo s fd ⟨[u],[]⟩ [(x,u)]) (hf:Truth f)
  (F: ∀ base:Heap,K.In base->base.Ns mainGlobals mg->(∀ p∈cs,LamX.TabB base mg p.1 p.2)->FnOk l.prog w K mg base (L2.CX l.prog w) k fa fd [x] (spF ⟨K,cl,tabs,w⟩ 1 f)):
  LamX.LawAtS l w K (L2.CX l.prog w) k 63 x mg fa h:=by
 refine ⟨fd,cs,_,h1,h2,h3,hb,fun H a ns hl hbits hH hS=> ?_,F⟩
 have tb:LamX.Tabs tabs H:=fun p hp=>by
  obtain ⟨c,hc⟩:=ht p hp
  exact LamX.TabS.nil (hH _ hc)
 have fin: ∀ (G:Hp) (d:D),(d= .scr (ns.map D.int)\/d= .lst false (ns.map D.int))->Same G H->(∀ a ps,G a≠some (.tbl ps))->Rep ⟨K,cl,tabs,w⟩ (fun _=>False) G d (.ref a)->spF ⟨K,cl,tabs,w⟩ 1 f [.ref a] H (fun v _=>v= .bl true) fun _ _ _=>False:=fun G d hd s nb r=>by
  obtain ⟨outs,e⟩:=hf ns hl hbits d hd
  refine ⟨fun _=>False,G,[.va d],rfl,⟨⟨_,[],rfl,r,rfl⟩,yLw,s,nb,tb,fun _ z=>z.elim⟩,?_⟩
  rw [e]
  exact fun v H' G' _ rv=>rv
 have one: ∀ o:HO,H a=some o->(∀ ps,o≠ .tbl ps)->Same (fun b=>if b=a then some o else none) H/\ ∀ b ps,(fun b=>if b=a then some o else none:Hp) b≠some (.tbl ps):=fun o ho n=>by
  refine ⟨fun b u e=> ?_,fun b ps e=> ?_⟩
  ·by_cases hb:b=a
   ·simp only [hb,if_true] at e
    rw [hb,ho,e]
   ·simp only [if_neg hb] at e
    cases e
  ·by_cases hb:b=a
   ·simp only [hb,if_true] at e
    exact n ps (yLh.inj e)
   ·simp only [if_neg hb] at e
    cases e
 rcases hS with (hS|⟨o,hS⟩)|hS
 ·obtain ⟨q1,q2⟩:=one _ hS fun _ z=>by cases z
  exact fin _ _ (.inr rfl) q1 q2 ⟨a,ns.map V.int,rfl,⟨if_pos rfl,fun z=>z.elim,fun z=>by cases z⟩,xJc ns⟩
 ·obtain ⟨q1,q2⟩:=one _ hS fun _ z=>by cases z
  exact fin _ _ (.inl rfl) q1 q2 ⟨a,ns.map V.int,rfl,.inl (.inl ⟨o,if_pos rfl⟩),xJc ns⟩
 ·exact fin (fun _=>none) _ (.inl rfl) (fun _ _ e=>by cases e) (fun _ _ e=>by cases e) ⟨a,ns.map V.int,rfl,.inl (.inr hS),xJc ns⟩
theorem cx_no (h:L2.CX P w [] H s (fun _ _ _=>False) e s'):False:=by
 exact h.elim fun _ ⟨_,_,_,_,_,_,_,_,_,_,_,z⟩=>z
def lcT (vs:List Nat)(tg:D->List SD->Option (List SD))(tt:M Bool)(te:M SD)(d:D)(ρ:List SD):Rs (Option D):=match tg d (xBa ρ vs) with
 | none=> .no
 | some ρ1=>match tt ρ1 with
  | .ok false ρ2=> .ok none (unw ρ ρ2 vs)
  | .ok true ρ2=>match fE te ρ2 with
   | .ok y ρ3=> .ok (some y) (unw ρ ρ3 vs)
   | _=> .no
  | _=> .no
section
variable {vs:List Nat}{tg:D->List SD->Option (List SD)}{tt:M Bool}{te:M SD}
theorem yAb:lcL vs tg tt te (d::l) acc ρ=match tg d (xBa ρ vs) with
  | none=> .no
  | some ρ1=>match tt ρ1 with
   | .ok false ρ2=>lcL vs tg tt te l acc (unw ρ ρ2 vs)
   | .ok true ρ2=>match fE te ρ2 with
    | .ok y ρ3=>if acc.length<1000000 then lcL vs tg tt te l (acc++[y]) (unw ρ ρ3 vs) else .no
    | _=> .no
   | _=> .no:=rfl
theorem xTe (h:lcT vs tg tt te d ρ= .ok (some y) ρ')(ha:acc.length<1000000):lcL vs tg tt te (d::l) acc ρ=lcL vs tg tt te l (acc++[y]) ρ':=by
 rw [yAb]
 unfold lcT at h
 revert h
 cases tg d (xBa ρ vs) with
 | none=>intro h;cases h
 | some ρ1=>
  dsimp only
  cases tt ρ1 with
  | ok k ρ2=>
   cases k with
   | false=>intro h;cases h
   | true=>
    dsimp only
    cases fE te ρ2 with
    | ok z ρ3=>
     intro h
     cases h
     exact if_pos ha
    | ex x ρ3=>intro h;cases h
    | no=>intro h;cases h
  | ex x ρ2=>intro h;cases h
  | no=>intro h;cases h
theorem lc_ex (I:Nat->List SD->Prop)(P:Nat->D->Prop)(step: ∀ (i:Nat) (d:D) (ρ:List SD),l[i]? =some d->I i ρ-> ∃ y ρ',lcT vs tg tt te d ρ= .ok (some y) ρ'/\P i y/\I (i+1) ρ')(h0:I 0 ρ)(hl:l.length<=1000000):
  ∃ ys ρ',lcL vs tg tt te l [] ρ= .ok ys ρ'/\ys.length=l.length/\(∀ (i:Nat) (y:D),ys[i]? =some y->P i y)/\I l.length ρ':=by
 have go: ∀ (n:Nat) (m acc:List D) (i:Nat) (ρ:List SD),m.length=n->l.drop i=m->acc.length=i->i<=l.length->(∀ (i:Nat) (y:D),acc[i]? =some y->P i y)->I i ρ->
   ∃ ys ρ',lcL vs tg tt te m acc ρ= .ok ys ρ'/\ys.length=l.length/\(∀ (i:Nat) (y:D),ys[i]? =some y->P i y)/\I l.length ρ':=by
  intro n
  induction n with
  | zero=>
   intro m acc i ρ hn hd ha hi hp hI
   have hm:m=[]:=List.eq_nil_of_length_eq_zero hn
   subst hm
   have hi':i=l.length:=by
    have z:=yMn.mp hd
    omega
   subst hi'
   exact ⟨acc,ρ,by rw [lcL],ha,hp,hI⟩
  | succ n ih=>
   intro m acc i ρ hn hd ha hi hp hI
   cases m with
   | nil=>cases hn
   | cons d m=>
    have hlt:i<l.length:=by
     have z:=congrArg yMu hd
     rw [yL0,yK9] at z
     omega
    have hgd:l[i]? =some d:=by
     rw [yL1 hlt] at hd
     rw [yLb hlt]
     cases hd
     rfl
    have hm:l.drop (i+1)=m:=by
     rw [yL1 hlt] at hd
     cases hd
     rfl
    obtain ⟨y,ρ',e1,e2,e3⟩:=step i d ρ hgd hI
    rw [xTe e1 (by omega)]
    refine ih m (acc++[y]) (i+1) ρ' (by simpa using hn) hm (by rw [yLn,ha];rfl) hlt (fun j z hz=> ?_) e3
    by_cases hj:j<acc.length
    ·rw [yLk hj] at hz
     exact hp j z hz
    ·rw [yL2 (by omega)] at hz
     have:j=i:=by
      have q:=(yK5.mp hz).1
      simp at q
      omega
     subst this
     rw [ha,Nat.sub_self] at hz
     cases hz
     exact e2
 exact go l.length l [] 0 ρ rfl rfl rfl (yLy _) (fun i y h=>by simp at h) h0
theorem yKx (f:D->D)(step: ∀ d∈l,lcT vs tg tt te d ρ= .ok (some (f d)) ρ)(hl:l.length<=1000000):lcL vs tg tt te l [] ρ= .ok (l.map f) ρ:=by
 have go: ∀ (m acc:List D),(∀ d∈m,lcT vs tg tt te d ρ= .ok (some (f d)) ρ)->acc.length+m.length<=1000000->lcL vs tg tt te m acc ρ= .ok (acc++m.map f) ρ:=by
  intro m
  induction m with
  | nil=>
   intro acc _ _
   rw [lcL]
   simp
  | cons d m ih=>
   intro acc h hz
   rw [yK9] at hz
   rw [xTe (h d (yK3 ..)) (by omega),ih _ (fun e he=>h e (yK7 _ he)) (by rw [yLn,yMk];omega)]
   simp
 have z:=go l [] step (by simpa using hl)
 simpa using z
end
theorem xB7 (lo:Int)(n:Nat):(rngD lo n).length=n:=by simp [rngD]
theorem yGe {lo:Int}{n i:Nat}(h:i<n):(rngD lo n)[i]? =some (.int (lo+(i:Nat))):=by
 unfold rngD
 rw [yLe,List.getElem?_range h]
 rfl
theorem xX1 (a b:Int):peq (.int a) (.int b)=decide (a=b):=by
 show PyData.eqv (.int a) (.int b)=_
 unfold PyData.eqv
 rfl
theorem pl_int (n:Nat)(a:Int):D.pl n (.int a)=true:=by cases n <;> rfl
def Sz (k:Nat)(i:Int):Prop:=i.natAbs<2 ^ k
theorem Sz.mono (h:Sz j i)(l:j<=k):Sz k i:=yM4 h (Nat.pow_le_pow_right (by decide) l)
theorem Sz.add (h:Sz j a)(l:Sz j b):Sz (j+1) (a+b):=by
 unfold Sz at*
 have z:=Int.natAbs_add_le a b
 rw [Nat.pow_succ]
 omega
theorem Sz.neg (h:Sz j a):Sz j (-a):=by
 unfold Sz at*
 rw [Int.natAbs_neg]
 exact h
theorem Sz.sub (h:Sz j a)(l:Sz j b):Sz (j+1) (a-b):=by
 rw [Int.sub_eq_add_neg]
 exact h.add l.neg
theorem xQ0 (h:n<2 ^ k):n.log2<=k:=by
 by_cases hn:n=0
 ·rw [hn]
  exact yLy _
 ·exact Nat.le_of_lt ((Nat.log2_lt hn).mpr h)
theorem xRu (h:Sz j a)(l:Sz k b)(s:j+k<1000000):mulG a b:=by
 have h1:=xQ0 h
 have h2:=xQ0 l
 unfold mulG
 omega
theorem xW2 (hb:b≠0)(l:Sz k b)(s:k<9000):divG a b:=by
 have h2:=xQ0 l
 exact ⟨hb,.inl (by omega)⟩
def byG (a b:Int):Int:=if b<0 then 0-(Int.gcd a b:Int) else (Int.gcd a b:Int)
def lo (a b:Int):Int×Int:=(a.fdiv (byG a b),b.fdiv (byG a b))
theorem xW1 (len n:Nat):ixN len (n:Int)=if n<len then some n else none:=by
 unfold ixN
 rw [if_pos (Int.natCast_nonneg n)]
 by_cases h:n<len
 ·rw [if_pos (show n<len from h),if_pos (by omega)]
  rfl
 ·rw [if_neg (show ¬ n<len from h),if_neg (by omega)]
theorem ixN_0 (len:Nat):ixN len 0=if 0<len then some 0 else none:=xW1 len 0
theorem atI_nat {α:Type}(l:List α)(n:Nat):atI l (n:Int)=l[n]? :=by
 unfold atI
 rw [xW1]
 by_cases h:n<l.length
 ·rw [if_pos h]
  rfl
 ·rw [if_neg h,yL8.mpr (by omega)]
  rfl
def absFuel (i:Nat)(ρ:List SD):Nat:=match ρ[i]? with
 | some (.va (.int b))=>b.natAbs+2
 | _=>0
structure Wp {α:Type}(m:M α)(ρ:List SD)(p:α->List SD->Prop)(E:Exn->List SD->Prop):Prop where
 run:match m ρ with
  | .ok a ρ'=>p a ρ'
  | .ex x ρ'=>E x ρ'
  | .no=>False
structure Fw (r:FR)(p:SD->List SD->Prop)(E:Exn->List SD->Prop):Prop where
 run:match r with
  | .ok a o=>p a o
  | .ex x o=>E x o
  | .no=>False
abbrev NoX:Exn->List SD->Prop:=fun _ _=>False
def Ow (r:Option SD)(p:SD->Prop):Prop:= ∃ z,r=some z/\p z
theorem Wp.mono {α:Type}{m:M α}{ρ:List SD}{p q:α->List SD->Prop}{E F:Exn->List SD->Prop}(h:Wp m ρ p E)(f: ∀ a ρ',p a ρ'->q a ρ')(g: ∀ x ρ',E x ρ'->F x ρ'):Wp m ρ q F:=by
 refine ⟨?_⟩
 have h:=h.run
 split
 ·rename_i e
  rw [e] at h
  exact f _ _ h
 ·rename_i e
  rw [e] at h
  exact g _ _ h
 ·rename_i e
  rw [e] at h
  exact h
theorem Fw.ok {p:SD->List SD->Prop}(h:Fw f p NoX): ∃ r o,f= .ok r o/\p r o:=by
 have h:=h.run
 split at h
 ·exact ⟨_,_,rfl,h⟩
 ·exact h.elim
 ·exact h.elim
section
variable {α β:Type}{ρ:List SD}{E:Exn->List SD->Prop}
theorem xAk {k:α->M β}{p:β->List SD->Prop}(h:Wp m ρ (fun a ρ'=>Wp (k a) ρ' p E) E):Wp (m.bind k) ρ p E:=by
 refine ⟨?_⟩
 have h:=h.run
 unfold M.bind
 cases e:m ρ with
 | ok a ρ'=>
  rw [e] at h
  exact h.run
 | ex x ρ'=>
  rw [e] at h
  exact h
 | no=>
  rw [e] at h
  exact h
theorem yH5 {p:α->List SD->Prop}(h:p a ρ):Wp (M.ret a) ρ p E:=⟨h⟩
theorem xPd {o:Option α}{p:α->List SD->Prop}(h: ∃ z,o=some z/\p z ρ):Wp (M.opt o) ρ p E:=by
 obtain ⟨z,rfl,h⟩:=h
 exact ⟨h⟩
variable {p:SD->List SD->Prop}{q:D->List SD->Prop}{t:Bool->List SD->Prop}{s:Fl->List SD->Prop}{pl:List D->List SD->Prop}{pa:List Ar->List SD->Prop}
theorem w_c (h:p (.va d) ρ):Wp (mC d) ρ p E:=⟨h⟩
theorem w_fz (h:Wp m ρ (fun r ρ'=>Wp (fzM r) ρ' q E) E):Wp (fE m) ρ q E:=xAk h
theorem yIk (h:q d ρ):Wp (fzM (.va d)) ρ q E:=⟨h⟩
theorem yH8 (h:q (.lst false l) ρ):Wp (fzM (.ow (.lst b l))) ρ q E:=⟨h⟩
theorem yKi (e:ρ[i]? =some (.va d))(h:p (.va d) ρ):Wp (mVar i) ρ p E:=by
 refine ⟨?_⟩
 unfold mVar
 rw [e]
 exact h
theorem yB6 (e:ρ[i]? =some (.ow (.lst b l)))(h:p (.va (.lst false l)) (ρ.set i (.va (.lst false l)))):Wp (mVar i) ρ p E:=by
 refine ⟨?_⟩
 unfold mVar
 rw [e]
 exact h
theorem yJd (e:ρ[i]? =some (.va d))(h:p (.va d) ρ):Wp (mMov i) ρ p E:=by
 refine ⟨?_⟩
 unfold mMov
 rw [e]
 exact h
theorem yDw (e:ρ[i]? =some (.ow d))(h:p (.ow d) (ρ.set i .un)):Wp (mMov i) ρ p E:=by
 refine ⟨?_⟩
 unfold mMov
 rw [e]
 exact h
theorem w_op {g:D->D->Option SD}{ma mb:M SD}(h:Wp (fE ma) ρ (fun d ρ1=>Wp (fE mb) ρ1 (fun e ρ2=>Ow (g d e) fun z=>p z ρ2) E) E):Wp (mOp g ma mb) ρ p E:=by
 refine xAk (h.mono (fun d ρ1 h=>xAk (h.mono (fun e ρ2 h=>xPd h) fun _ _ z=>z)) fun _ _ z=>z)
theorem w_un {g:D->Option SD}{ma:M SD}(h:Wp (fE ma) ρ (fun d ρ1=>Ow (g d) fun z=>p z ρ1) E):Wp (mUn g ma) ρ p E:=xAk (h.mono (fun d ρ1 h=>xPd h) fun _ _ z=>z)
theorem xVo {g g':D->D->Option SD}{ma mb mc:M SD}(h:Wp (fE ma) ρ (fun d ρ1=>Wp (fE mb) ρ1 (fun e ρ2=>Ow (g d e) fun z=>Wp (xSp g' e mc z) ρ2 p E) E) E):Wp (xG3 g g' ma mb mc) ρ p E:=
 xAk (h.mono (fun d ρ1 h=>xAk (h.mono (fun e ρ2 h=>xAk (xPd h)) fun _ _ z=>z)) fun _ _ z=>z)
theorem yHw {g':D->D->Option SD}{e:D}{mc:M SD}{b:Bool}(h:(b=true->Wp (fE mc) ρ (fun f ρ1=>Ow (g' e f) fun z=>p z ρ1) E)/\(b=false->p (.va (.bl false)) ρ)):Wp (xSp g' e mc (.va (.bl b))) ρ p E:=by
 cases b with
 | true=>exact xAk ((h.1 rfl).mono (fun _ _ h=>xPd h) fun _ _ z=>z)
 | false=>exact ⟨h.2 rfl⟩
theorem yKo {m:M SD}(h:Wp (fE m) ρ (fun d ρ'=> ∃ b,d= .bl b/\t b ρ') E):Wp (mTst m) ρ t E:=xAk (h.mono (fun d ρ' h=>by
 obtain ⟨b,rfl,h⟩:=h
 exact ⟨h⟩) fun _ _ z=>z)
theorem yIa {m:M Bool}(h:Wp m ρ (fun b ρ'=>t (!b) ρ') E):Wp (mNot m) ρ t E:=xAk (h.mono (fun _ _ h=>⟨h⟩) fun _ _ z=>z)
theorem yCx {m n:M Bool}(h:Wp m ρ (fun b ρ'=>(b=true->Wp n ρ' t E)/\(b=false->t false ρ')) E):Wp (mAnd m n) ρ t E:=xAk (h.mono (fun b ρ' h=>by
 cases b with
 | true=>exact h.1 rfl
 | false=>exact ⟨h.2 rfl⟩) fun _ _ z=>z)
theorem yIy {m n:M Bool}(h:Wp m ρ (fun b ρ'=>(b=true->t true ρ')/\(b=false->Wp n ρ' t E)) E):Wp (mOr m n) ρ t E:=xAk (h.mono (fun b ρ' h=>by
 cases b with
 | true=>exact ⟨h.1 rfl⟩
 | false=>exact h.2 rfl) fun _ _ z=>z)
theorem yDt {m n:M SD}(h:Wp (mTst m) ρ (fun b ρ'=>(b=true->Wp n ρ' p E)/\(b=false->p (.va (.bl false)) ρ')) E):Wp (xKx m n) ρ p E:=xAk (h.mono (fun b ρ' h=>by
 cases b with
 | true=>exact h.1 rfl
 | false=>exact ⟨h.2 rfl⟩) fun _ _ z=>z)
theorem yC5 {m:M SD}(h:Wp (mTst m) ρ (fun b ρ'=>p (.va (.bl (!b))) ρ') E):Wp (yEq m) ρ p E:=xAk (h.mono (fun _ _ h=>⟨h⟩) fun _ _ z=>z)
theorem yIl {c:M Bool}{m n:M SD}(h:Wp c ρ (fun b ρ'=>(b=true->Wp m ρ' p E)/\(b=false->Wp n ρ' p E)) E):Wp (mIfE c m n) ρ p E:=xAk (h.mono (fun b ρ' h=>by
 cases b with
 | true=>exact h.1 rfl
 | false=>exact h.2 rfl) fun _ _ z=>z)
theorem yJa (h:pl [] ρ):Wp mNil ρ pl E:=⟨h⟩
theorem yCb {m:M SD}{n:M (List D)}(h:Wp (fE m) ρ (fun d ρ1=>Wp n ρ1 (fun ds ρ2=>pl (d::ds) ρ2) E) E):Wp (xAb m n) ρ pl E:=xAk (h.mono (fun _ _ h=>xAk (h.mono (fun _ _ h=>⟨h⟩) fun _ _ z=>z)) fun _ _ z=>z)
theorem yDk (h:pa [] ρ):Wp aNil ρ pa E:=⟨h⟩
theorem yI6 {m:M SD}{n:M (List Ar)}(h:Wp (fE m) ρ (fun d ρ1=>Wp n ρ1 (fun ds ρ2=>pa (.va d::ds) ρ2) E) E):Wp (aVa m n) ρ pa E:=xAk (h.mono (fun _ _ h=>xAk (h.mono (fun _ _ h=>⟨h⟩) fun _ _ z=>z)) fun _ _ z=>z)
theorem yKj {i:Nat}{n:M (List Ar)}(g:xGu ρ[i]? =true)(h:Wp n ρ (fun ds ρ2=>pa (.sl i::ds) ρ2) E):Wp (aSl i n) ρ pa E:=by
 refine ⟨?_⟩
 unfold aSl
 rw [if_pos g]
 exact (xAk (p:=pa) (h.mono (fun _ _ h=>⟨h⟩) fun _ _ z=>z)).run
theorem yJw {n:M (List D)}(h:Wp n ρ (fun ds ρ'=>ds.length<=1000/\p (.va (.tup ds)) ρ') E):Wp (mTup n) ρ p E:=xAk (h.mono (fun ds ρ' h=>by
 rw [if_pos h.1]
 exact ⟨h.2⟩) fun _ _ z=>z)
theorem yHf {n:M (List D)}(h:Wp n ρ (fun ds ρ'=>ds.length<=1000/\p (.ow (.lst false ds)) ρ') E):Wp (mLst n) ρ p E:=xAk (h.mono (fun ds ρ' h=>by
 rw [if_pos h.1]
 exact ⟨h.2⟩) fun _ _ z=>z)
theorem w_cb {g:List D->Option SD}{n:M (List D)}(h:Wp n ρ (fun ds ρ'=>Ow (g ds) fun z=>p z ρ') E):Wp (mCB g n) ρ p E:=xAk (h.mono (fun _ _ h=>xPd h) fun _ _ z=>z)
theorem yBu {f:List SD->FR}{dd:List D}{n:M (List Ar)}(h:Wp n ρ (fun as ρ'=>(slots as).Nodup/\ ∃ xs,xHf ρ' as=some xs/\Fw (f (xs++dd.map SD.va)) (fun r o=>p r (xF8 ρ' as o)) fun x o=>E x (xF8 ρ' as o)) E):Wp (xAy f dd n) ρ p E:=xAk (h.mono (fun as ρ' h=>by
 obtain ⟨h1,xs,h2,h3⟩:=h
 refine ⟨?_⟩
 simp only [if_pos h1,h2]
 have h3:=h3.run
 split at h3
 ·rename_i e
  simp only [e]
  exact h3
 ·rename_i e
  simp only [e]
  exact h3
 ·exact h3.elim) fun _ _ z=>z)
theorem fw_ok (e:f= .ok r o)(h:p r o):Fw f p E:=by
 rw [e]
 exact ⟨h⟩
theorem yJ3 {i:Nat}{n:M (List D)}{b:Bool}{l:List D}(e:ρ[i]? =some (.ow (.lst b l)))(h:Wp n ρ (fun ds ρ'=> ∃ b l v,ρ'[i]? =some (.ow (.lst b l))/\ds=[v]/\l.length<1000000/\p (.va .non) (ρ'.set i (.ow (.lst b (l++[v]))))) E):Wp (mApp i n) ρ p E:=by
 refine ⟨?_⟩
 unfold mApp
 rw [if_pos (by rw [e];rfl)]
 refine Wp.run (E:=E) (p:=p) ?_
 refine xAk (p:=p) (h.mono (fun ds ρ' h=> ?_) fun _ _ z=>z)
 obtain ⟨b,l,v,e1,rfl,hl,h⟩:=h
 refine ⟨?_⟩
 unfold appS
 simp only [e1,if_pos hl]
 exact h
theorem w_sl {m:M SD}{ml mh:M (Option Int)}(h:Wp (fE m) ρ (fun d ρ1=>Wp ml ρ1 (fun lo ρ2=>Wp mh ρ2 (fun hi ρ3=>Ow (slcD d lo hi) fun z=>p z ρ3) E) E) E):Wp (mSl m ml mh) ρ p E:=
 xAk (h.mono (fun _ _ h=>xAk (h.mono (fun _ _ h=>xAk (h.mono (fun _ _ h=>xPd h) fun _ _ z=>z)) fun _ _ z=>z)) fun _ _ z=>z)
variable {po:Option Int->List SD->Prop}
theorem w_pn (h:po none ρ):Wp mPN ρ po E:=⟨h⟩
theorem w_ps {m:M SD}(h:Wp (fE m) ρ (fun d ρ'=> ∃ i,d= .int i/\po (some i) ρ') E):Wp (mPS m) ρ po E:=xAk (h.mono (fun d ρ' h=>by
 obtain ⟨i,rfl,h⟩:=h
 exact ⟨h⟩) fun _ _ z=>z)
theorem w_lc {it:M (List D)}{vs:List Nat}{g:D->List SD->Option (List SD)}{tt:M Bool}{te:M SD}(h:Wp it ρ (fun l ρ1=>Wp (lcL vs g tt te l []) ρ1 (fun ys ρ2=>p (.ow (.lst false ys)) ρ2) E) E):Wp (mLc it vs g tt te) ρ p E:=xAk (h.mono (fun _ _ h=>xAk (h.mono (fun _ _ h=>⟨h⟩) fun _ _ z=>z)) fun _ _ z=>z)
theorem yDc {n:M (List D)}(h:Wp n ρ (fun ds ρ'=> ∃ j,ds=[.int j]/\(-(2 ^ 62)<=j/\j<2 ^ 62)/\pl (rngD 0 j.toNat) ρ') E):Wp (iRg1 n) ρ pl E:=xAk (h.mono (fun ds ρ' h=>by
 obtain ⟨j,rfl,hj,h⟩:=h
 show Wp (if -(2 ^ 62)<=j/\j<2 ^ 62 then M.ret (rngD 0 j.toNat) else M.no) ρ' pl E
 rw [if_pos hj]
 exact ⟨h⟩) fun _ _ z=>z)
theorem xAj (h:Wp a ρ (fun f ρ1=>match f with| .nx=>Wp b ρ1 s E|f=>s f ρ1) E):Wp (sSeq a b) ρ s E:=by
 refine ⟨?_⟩
 have h:=h.run
 unfold sSeq
 cases e:a ρ with
 | ok f ρ1=>
  rw [e] at h
  cases f <;> first|exact h.run|exact h
 | ex x ρ1=>
  rw [e] at h
  exact h
 | no=>
  rw [e] at h
  exact h
theorem w_nx (h:s .nx ρ):Wp sNx ρ s E:=⟨h⟩
theorem yHq {m:M SD}(h:Wp m ρ (fun r ρ'=>s (.rt r) ρ') E):Wp (sRet m) ρ s E:=xAk (h.mono (fun _ _ h=>⟨h⟩) fun _ _ z=>z)
theorem yH2 {i:Nat}{m:M SD}(h:Wp m ρ (fun r ρ'=>s .nx (ρ'.set i r)) E):Wp (sSet i m) ρ s E:=xAk (h.mono (fun _ _ h=>⟨h⟩) fun _ _ z=>z)
theorem xOy {m:M SD}(h:Wp m ρ (fun r ρ'=>s .nx ρ') E):Wp (xEs m) ρ s E:=xAk (h.mono (fun _ _ h=>⟨h⟩) fun _ _ z=>z)
theorem w_if {c:M Bool}{a b:S}(h:Wp c ρ (fun k ρ'=>(k=true->Wp a ρ' s E)/\(k=false->Wp b ρ' s E)) E):Wp (sIf c a b) ρ s E:=xAk (h.mono (fun b ρ' h=>by
 cases b with
 | true=>exact h.1 rfl
 | false=>exact h.2 rfl) fun _ _ z=>z)
theorem yH4 {g:D->List SD->Option (List SD)}{m:M SD}(h:Wp (fE m) ρ (fun d ρ'=> ∃ ρ2,g d ρ'=some ρ2/\s .nx ρ2) E):Wp (sAsg g m) ρ s E:=xAk (h.mono (fun d ρ' h=>by
 obtain ⟨ρ2,e,h⟩:=h
 refine ⟨?_⟩
 simp only [e]
 exact h) fun _ _ z=>z)
theorem xI2 {g:D->List SD->Option (List SD)}(h:Wp m ρ (fun l ρ'=>Wp (forL g b l) ρ' s E) E):Wp (sFor m g b) ρ s E:=xAk h
theorem xD2 {g:D->List SD->Option (List SD)}(I:Nat->List SD->Prop)
  (step: ∀ (i:Nat) (d:D) (ρ:List SD),l[i]? =some d->I i ρ-> ∃ ρ1,g d ρ=some ρ1/\Wp b ρ1 (fun f ρ2=>match f with| .nx=>I (i+1) ρ2| .ct=>I (i+1) ρ2| .bk=>s .nx ρ2| .rt r=>s (.rt r) ρ2) E)
  (h0:I 0 ρ) (fin: ∀ ρ',I l.length ρ'->s .nx ρ'):Wp (forL g b l) ρ s E:=by
 have go: ∀ (m:List D) (i:Nat) (ρ:List SD),l.drop i=m->i<=l.length->I i ρ->Wp (forL g b m) ρ s E:=by
  intro m
  induction m with
  | nil=>
   intro i ρ hd hi hI
   have hi':i=l.length:=by
    have z:=yMn.mp hd
    omega
   subst hi'
   exact ⟨fin ρ hI⟩
  | cons d m ih=>
   intro i ρ hd hi hI
   have hlt:i<l.length:=by
    have z:=congrArg yMu hd
    rw [yL0,yK9] at z
    omega
   have hgd:l[i]? =some d:=by
    rw [yL1 hlt] at hd
    rw [yLb hlt]
    cases hd
    rfl
   have hm:l.drop (i+1)=m:=by
    rw [yL1 hlt] at hd
    cases hd
    rfl
   obtain ⟨ρ1,e1,h⟩:=step i d ρ hgd hI
   refine ⟨?_⟩
   have h:=h.run
   unfold forL
   simp only [e1]
   cases eb:b ρ1 with
   | ok f ρ2=>
    rw [eb] at h
    cases f with
    | nx=>exact (ih (i+1) ρ2 hm hlt h).run
    | ct=>exact (ih (i+1) ρ2 hm hlt h).run
    | bk=>exact h
    | rt r=>exact h
   | ex x ρ2=>
    rw [eb] at h
    exact h
   | no=>
    rw [eb] at h
    exact h
 exact go l 0 ρ rfl (yLy _) h0
theorem xAt {p:SD->List SD->Prop}(ho:(xUk 0 as).all (A.contains ·)=true)
  (h:Wp b (as++yLi (N-as.length) SD.un) (fun f ρ'=>match f with| .rt r=>p r (nrm as (ρ'.take as.length))| .nx=>p (.va .non) (nrm as (ρ'.take as.length))|_=>False) fun x ρ'=>E x (nrm as (ρ'.take as.length))):Fw (Fm.runN A N b as) p E:=by
 refine ⟨?_⟩
 unfold Fm.runN runF
 rw [if_pos ho]
 have h:=h.run
 cases e:b (as++yLi (N-as.length) SD.un) with
 | ok f ρ'=>
  rw [e] at h
  cases f with
  | rt r=>exact h
  | nx=>exact h
  | bk=>exact h.elim
  | ct=>exact h.elim
 | ex x ρ'=>
  rw [e] at h
  exact h
 | no=>
  rw [e] at h
  exact h.elim
theorem xY5 {g:D->List SD->Option (List SD)}{P:D->List SD->Prop}(e:g d (xBa ρ vs)=some ρ1)(h:Wp (fE te) ρ1 (fun y ρ3=>P y (unw ρ ρ3 vs)) NoX): ∃ y ρ',lcT vs g (M.ret true) te d ρ= .ok (some y) ρ'/\P y ρ':=by
 unfold lcT
 simp only [e,M.ret]
 have h:=h.run
 cases e2:fE te ρ1 with
 | ok y ρ3=>
  rw [e2] at h
  exact ⟨y,_,rfl,h⟩
 | ex x ρ3=>
  rw [e2] at h
  exact h.elim
 | no=>
  rw [e2] at h
  exact h.elim
theorem yFe {g:D->List SD->Option (List SD)}(I:Nat->List SD->Prop)(P:Nat->D->Prop)
  (step: ∀ (i:Nat) (d:D) (ρ:List SD),l[i]? =some d->I i ρ-> ∃ ρ1,g d (xBa ρ vs)=some ρ1/\Wp (fE te) ρ1 (fun y ρ3=>P i y/\I (i+1) (unw ρ ρ3 vs)) NoX) (h0:I 0 ρ) (hl:l.length<=1000000)
  (fin: ∀ ys ρ',ys.length=l.length->(∀ (i:Nat) (y:D),ys[i]? =some y->P i y)->I l.length ρ'->pl ys ρ'):Wp (lcL vs g (M.ret true) te l []) ρ pl E:=by
 obtain ⟨ys,ρ',e,h1,h2,h3⟩:=lc_ex (vs:=vs) (tg:=g) (tt:=M.ret true) (te:=te) I P (fun i d ρ hd hI=>by
  obtain ⟨ρ1,e1,h⟩:=step i d ρ hd hI
  obtain ⟨y,ρ',e2,e3⟩:=xY5 (P:=fun y ρ'=>P i y/\I (i+1) ρ') e1 h
  exact ⟨y,ρ',e2,e3⟩) h0 hl
 refine ⟨?_⟩
 rw [e]
 exact fin ys ρ' h1 h2 h3
theorem yFv {g:D->List SD->Option (List SD)}(f:D->D)
  (step: ∀ d∈l,∃ ρ1,g d (xBa ρ vs)=some ρ1/\Wp (fE te) ρ1 (fun y ρ3=>y=f d/\unw ρ ρ3 vs=ρ) NoX) (hl:l.length<=1000000) (fin:pl (l.map f) ρ):Wp (lcL vs g (M.ret true) te l []) ρ pl E:=by
 have e:=yKx (vs:=vs) (tg:=g) (tt:=M.ret true) (te:=te) (l:=l) (ρ:=ρ) f (fun d hd=>by
  obtain ⟨ρ1,e1,h⟩:=step d hd
  obtain ⟨y,ρ',e2,e3,e4⟩:=xY5 (P:=fun y ρ'=>y=f d/\ρ'=ρ) e1 h
  rw [e2,e3,e4]) hl
 refine ⟨?_⟩
 rw [e]
 exact fin
end
section
variable {p:SD->Prop}{a b:Int}
theorem yIq (h:p (.va (.int (a-b)))):Ow (subD (.int a) (.int b)) p:=⟨_,rfl,h⟩
theorem yJ9 (h:p (.va (.int (a*b))))(g:mulG a b):Ow (repD (.int a) (.int b)) p:=⟨_,if_pos g,h⟩
theorem yIs (h:p (.va (.int (a.fmod b))))(g:b≠0):Ow (modD (.int a) (.int b)) p:=⟨_,if_neg g,h⟩
theorem yJe (h:p (.va (.int (a.fdiv b))))(g:divG a b):Ow (divD (.int a) (.int b)) p:=⟨_,if_pos g,h⟩
theorem yIw (h:p (.va (.int (a ^ b.toNat))))(g:powG a b):Ow (powD (.int a) (.int b)) p:=⟨_,if_pos g,h⟩
theorem o_lt (h:p (.va (.bl (decide (a<b))))):Ow (ltD (.int a) (.int b)) p:=⟨_,rfl,h⟩
theorem o_le (h:p (.va (.bl (decide (a<=b))))):Ow (leD (.int a) (.int b)) p:=⟨_,rfl,h⟩
theorem o_gt (h:p (.va (.bl (decide (b<a))))):Ow (gtD (.int a) (.int b)) p:=⟨_,rfl,h⟩
theorem o_ge (h:p (.va (.bl (decide (b<=a))))):Ow (geD (.int a) (.int b)) p:=⟨_,rfl,h⟩
theorem yI1 (h:p (.va (.bl (decide (a=b))))):Ow (eqD (.int a) (.int b)) p:=⟨_,by
 unfold eqD
 rw [pl_int,pl_int,xX1]
 rfl,h⟩
theorem yHv (h:p (.va (.bl (!decide (a=b))))):Ow (neD (.int a) (.int b)) p:=⟨_,by
 unfold neD
 rw [pl_int,pl_int,xX1]
 rfl,h⟩
theorem o_eq (h:p (.va (.bl (peq d e))))(g:d.pl 60=true)(g':e.pl 60=true):Ow (eqD d e) p:=⟨_,by
 unfold eqD
 rw [g,g']
 rfl,h⟩
theorem yEt (e:atI l a=some d)(h:p (.va d)):Ow (ixD (.tup l) (.int a)) p:=⟨.va d,by
 show (atI l a).map SD.va=_
 rw [e]
 rfl,h⟩
theorem yEf (e:atI l a=some d)(h:p (.va d)):Ow (ixD (.lst c l) (.int a)) p:=⟨.va d,by
 show (atI l a).map SD.va=_
 rw [e]
 rfl,h⟩
end
theorem xAf {p q:SD->List SD->Prop}{E:Exn->List SD->Prop}(h:Fw f p NoX)(g: ∀ r o,p r o->q r o):Fw f q E:=by
 obtain ⟨r,o,e,h⟩:=h.ok
 exact fw_ok e (g r o h)
section
variable {γ:Type}{ρ:List SD}{E:Exn->List SD->Prop}{pl:List D->List SD->Prop}
theorem yD7 {ys:List D}{L:List γ}{g:γ->D}(hl:ys.length=L.length)(h: ∀ (i:Nat) (y:D),ys[i]? =some y-> ∃ c,L[i]? =some c/\y=g c):ys=L.map g:=by
 apply yMy
 intro i
 by_cases hi:i<ys.length
 ·obtain ⟨c,e1,e2⟩:=h i ys[i] (yLb hi)
  rw [yLb hi,yLe,e1,e2]
  rfl
 ·rw [yL8.mpr (by omega),yL8.mpr (by rw [yK2];omega)]
theorem yEi {Q:γ->Prop}{g:γ->D}(h: ∀ y∈ys,∃ c,Q c/\y=g c): ∃ L:List γ,ys=L.map g/\ ∀ c∈L,Q c:=by
 induction ys with
 | nil=>exact ⟨[],rfl,fun c hc=>by cases hc⟩
 | cons y ys ih=>
  obtain ⟨c,h1,rfl⟩:=h y (yK3 ..)
  obtain ⟨L,rfl,h2⟩:=ih fun z hz=>h z (yK7 _ hz)
  refine ⟨c::L,rfl,fun d hd=> ?_⟩
  have in_or:=yLp.mp hd;rcases in_or with rfl|hd
  ·exact h1
  ·exact h2 d hd
theorem xK8 {vs:List Nat}{g:D->List SD->Option (List SD)}{te:M SD}{l:List D}(L:List γ)(m:γ->D)(hL:L.length=l.length)
  (step: ∀ (i:Nat) (d:D) (c:γ),l[i]? =some d->L[i]? =some c-> ∃ ρ1,g d (xBa ρ vs)=some ρ1/\Wp (fE te) ρ1 (fun y ρ3=>y=m c/\unw ρ ρ3 vs=ρ) NoX) (hl:l.length<=1000000) (fin:pl (L.map m) ρ):Wp (lcL vs g (M.ret true) te l []) ρ pl E:=by
 refine yFe (I:=fun _ ρ'=>ρ'=ρ) (P:=fun i y=> ∃ c,L[i]? =some c/\y=m c) (fun i d ρ' hd hρ=> ?_) rfl hl fun ys ρ' h1 h2 h3=> ?_
 ·subst hρ
  have hi:i<L.length:=by
   rw [hL]
   exact (yK5.mp hd).1
  obtain ⟨ρ1,e1,h⟩:=step i d L[i] hd (yLb hi)
  exact ⟨ρ1,e1,h.mono (fun y ρ3 ⟨a,b⟩=>⟨⟨_,yLb hi,a⟩,b⟩) fun _ _ z=>z⟩
 ·subst h3
  rw [yD7 (h1.trans hL.symm) h2]
  exact fin
theorem yA2 {g:D->List SD->Option (List SD)}(I:Nat->List SD->Prop)(Q:γ->Prop)(m:γ->D)
  (step: ∀ (i:Nat) (d:D) (ρ:List SD),l[i]? =some d->I i ρ-> ∃ ρ1,g d (xBa ρ vs)=some ρ1/\Wp (fE te) ρ1 (fun y ρ3=>(∃ c,Q c/\y=m c)/\I (i+1) (unw ρ ρ3 vs)) NoX) (h0:I 0 ρ) (hl:l.length<=1000000)
  (fin: ∀ (L:List γ) ρ',L.length=l.length->(∀ c∈L,Q c)->I l.length ρ'->pl (L.map m) ρ'):Wp (lcL vs g (M.ret true) te l []) ρ pl E:=by
 refine yFe (I:=I) (P:=fun i y=> ∃ c,Q c/\y=m c) step h0 hl fun ys ρ' h1 h2 h3=> ?_
 obtain ⟨L,rfl,hQ⟩:=yEi (ys:=ys) (Q:=Q) (g:=m) fun y hy=>by
  obtain ⟨i,hi,e⟩:=List.mem_iff_getElem.mp hy
  exact h2 i y (by rw [yLb hi,e])
 exact fin L ρ' (by rw [<- h1,yK2]) hQ h3
end
theorem yBv {p:SD->Prop}(h:p (.va (.tup l))):Ow (tupD [.lst b l]) p:=⟨_,rfl,h⟩
theorem xVl {p:SD->Prop}(h:p (.ow (.lst false l))):Ow (xXo [.lst b l]) p:=⟨_,rfl,h⟩
theorem o_isi {p:SD->Prop}(h1:d.kind=some a)(h2:kitT a n=some r)(h:p (.va (.bl r))):Ow (isiD [d,.ty n]) p:=⟨.va (.bl r),by
 unfold isiD
 simp only [h1,h2,Option.bind_some,Option.map_some],h⟩
theorem yIh {p:SD->Prop}(h1:d.kind=some a)(h2:xJg a l=some r)(h:p (.va (.bl r))):Ow (xO3 [d,.tup l]) p:=⟨.va (.bl r),by
 unfold xO3
 simp only [h1,h2,Option.bind_some,Option.map_some],h⟩
theorem xLr (bs:List Bool):xKg (bs.map D.bl)=some bs:=by
 induction bs with
 | nil=>rfl
 | cons b bs ih=>
  show (xKg (bs.map D.bl)).map (b:: ·)=_
  rw [ih]
  rfl
theorem yIg {p:SD->Prop}{b:Bool}{bs:List Bool}(h:p (.va (.bl (bs.all id)))):Ow (allD [.lst b (bs.map D.bl)]) p:=⟨_,by
 unfold allD
 dsimp only
 rw [xLr]
 rfl,h⟩
theorem yKa {p:SD->Prop}{b:Bool}{bs:List Bool}(h:p (.va (.bl (bs.any id)))):Ow (anyD [.lst b (bs.map D.bl)]) p:=⟨_,by
 unfold anyD
 dsimp only
 rw [xLr]
 rfl,h⟩
theorem xJw:kitT "int" "int"=some true:=by decide +kernel
theorem xIl:kitT "int" "bool"=some false:=by decide +kernel
theorem xGr:kitT "int" "tuple"=some false:=by decide +kernel
theorem xTo:xJg "int" [.ty "int",.ty "str"]=some true:=by decide +kernel
theorem xR7:xJg "str" [.ty "int",.ty "str"]=some true:=by decide +kernel
theorem xL0:xJg "tuple" [.ty "int",.ty "str"]=some false:=by decide +kernel
theorem xN5:xJg "list" [.ty "int",.ty "str"]=some false:=by decide +kernel
def OwI (d:D)(n:String)(p:SD->Prop):Prop:=Ow (isiD [d,.ty n]) p
def OwT (d:D)(l:List D)(p:SD->Prop):Prop:=Ow (xO3 [d,.tup l]) p
theorem yC1 {p:SD->Prop}(h:OwI d n p):Ow (isiD [d,.ty n]) p:=h
theorem xVj {p:SD->Prop}(h:OwT d l p):Ow (xO3 [d,.tup l]) p:=h
theorem xA2 {p:SD->Prop}(h2:kitT a n=some r)(h1:d.kind=some a)(h:p (.va (.bl r))):OwI d n p:=o_isi h1 h2 h
theorem xIx {p:SD->Prop}(h2:xJg a l=some r)(h1:d.kind=some a)(h:p (.va (.bl r))):OwT d l p:=yIh h1 h2 h
theorem nd1 (i:Nat):[i].Nodup:=by simp
theorem yJy {α:Type}{P Q:α->Prop}{a:α}(h:P a)(q:Q a): ∃ a,P a/\Q a:=⟨a,h,q⟩
theorem yKd {α β:Type}{P Q:α->β->Prop}{a:α}{b:β}(h:P a b)(q:Q a b): ∃ a b,P a b/\Q a b:=⟨a,b,h,q⟩
theorem xM6 {α:Type}{N:Prop}{P Q:α->Prop}{a:α}(n:N)(h:P a)(q:Q a):N/\ ∃ a,P a/\Q a:=⟨n,a,h,q⟩
theorem yIn {P:Prop}(h:n<=1000)(p:P):n<=1000/\P:=⟨h,p⟩
theorem yDu (a b:Bool):peq (.bl a) (.bl b)=decide (a=b):=by cases a <;> cases b <;> rfl
theorem yAt (n:Nat)(a:Bool):D.pl n (.bl a)=true:=by cases n <;> rfl
theorem yJp {p:SD->Prop}(h:p (.va (.bl (decide (a=b))))):Ow (eqD (.bl a) (.bl b)) p:=⟨_,by
 unfold eqD
 rw [yAt,yAt,yDu]
 rfl,h⟩
theorem yHi {p:SD->Prop}(h:p (.va (.bl (!decide (a=b))))):Ow (neD (.bl a) (.bl b)) p:=⟨_,by
 unfold neD
 rw [yAt,yAt,yDu]
 rfl,h⟩
theorem yCr {p:SD->Prop}(h:p (.va (.bl true))):Ow (isnD .non .non) p:=⟨_,rfl,h⟩
theorem yCa {p:SD->Prop}(h:p (.va (.bl false))):Ow (isnD (.int a) .non) p:=⟨_,rfl,h⟩
theorem yB8 {p:SD->Prop}(h:p (.va (.bl false))):Ow (isnD (.bl a) .non) p:=⟨_,rfl,h⟩
theorem yC6 {p:SD->Prop}(h:p (.va (.bl false))):Ow (isnD (.str a) .non) p:=⟨_,rfl,h⟩
theorem yDg {p:SD->Prop}(h:p (.va (.bl false))):Ow (isnD (.tup a) .non) p:=⟨_,rfl,h⟩
theorem yC9 {p:SD->Prop}(h:p (.va (.bl false))):Ow (isnD (.lst b a) .non) p:=⟨_,rfl,h⟩
theorem br_t {P Q:Prop}(h:P):((true=true->P)/\(true=false->Q)):=⟨fun _=>h,fun z=>yLr z⟩
theorem br_f {P Q:Prop}(h:Q):((false=true->P)/\(false=false->Q)):=⟨fun z=>yLr z,fun _=>h⟩
theorem yHk {P Q:Prop}(h:Q):(((!true)=true->P)/\((!true)=false->Q)):=⟨fun z=>yLr z,fun _=>h⟩
theorem yJj {P Q:Prop}(h:P):(((!false)=true->P)/\((!false)=false->Q)):=⟨fun _=>h,fun z=>yLr z⟩
def okS:Nat->D->Bool
 | _,.non=>true
 | _,.bl _=>true
 | _,.int _=>true
 | n+1,.tup l=>decide (l.length<=1000)&&l.all (okS n)
 | n+1,.lst _ l=>decide (l.length<=1000)&&l.all (okS n)
 | _,_=>false
theorem br_d {α:Type}[DecidableEq α]{a:α}{P Q:Prop}(h:Q):(((!decide (a=a))=true->P)/\((!decide (a=a))=false->Q)):=⟨fun z=>by simp at z,fun _=>h⟩
theorem br_e {α:Type}[DecidableEq α]{a:α}{P Q:Prop}(h:P):((decide (a=a)=true->P)/\(decide (a=a)=false->Q)):=⟨fun _=>h,fun z=>by simp at z⟩
theorem x_is {P:Prop}(h:xGu o=true)(p:P):xGu o=true/\P:=⟨h,p⟩
theorem yK0 {o:Option SD}{k:D}{P:Bool->List D->Int->Nat->Prop}{b:Bool}{l:List D}{j:Int}{n:Nat}(e1:o=some (.ow (.lst b l)))(e2:k= .int j)(e3:ixN l.length j=some n)(h:P b l j n):
  ∃ b l j n,o=some (.ow (.lst b l))/\k= .int j/\ixN l.length j=some n/\P b l j n:=⟨b,l,j,n,e1,e2,e3,h⟩
theorem xAx {E:Exn->List SD->Prop}{p q:Fl->List SD->Prop}(h:Wp a ρ q E)(g: ∀ f ρ',q f ρ'->p f ρ'):Wp a ρ p E:=h.mono g fun _ _ z=>z
theorem yIc {cells:List Int}{i:Int}(h0:0<=i)(h1:i<((cells.map D.int).length:Nat)): ∃ z,atI (cells.map D.int) i=some (.int z):=by
 obtain ⟨n,rfl⟩: ∃ n:Nat,i=n:=Int.eq_ofNat_of_zero_le h0
 have hn:n<cells.length:=by
  rw [yK2] at h1
  omega
 refine ⟨cells[n],?_⟩
 rw [Fm.atI_nat,yLe,yLb hn]
 rfl
theorem mkL_int (ns:List Int):mkL (ns.map D.int)=false:=by cases ns <;> rfl
theorem yJm {p:SD->Prop}{l:List D}{lo hi:Option Int}(h:p (.ow (.lst false (cutD l lo hi))))(e:mkL l=false:=by first|rfl|exact Fm.mkL_int _):Ow (slcD (.scr l) lo hi) p:=⟨_,if_neg (by rw [e];exact yMd),h⟩
theorem yJ8 {p:SD->Prop}{b:Bool}{l:List D}{lo hi:Option Int}(h:p (.ow (.lst false (cutD l lo hi)))):Ow (slcD (.lst b l) lo hi) p:=⟨_,rfl,h⟩
theorem yAy {γ:Type}(l:List γ)(m:γ->D)(lo hi:Option Int): ∃ l':List γ,cutD (l.map m) lo hi=l'.map m:=by
 unfold cutD
 exact ⟨(l.drop _).take _,by rw [List.map_take,List.map_drop]⟩
theorem br_F {P Q:Prop}(e:b=false)(h:Q):(b=true->P)/\(b=false->Q):=⟨fun z=>(by rw [e] at z;cases z),fun _=>h⟩
theorem br_T {P Q:Prop}(e:b=true)(h:P):(b=true->P)/\(b=false->Q):=⟨fun _=>h,fun z=>by rw [e] at z;cases z⟩
section
variable {α:Type}{m:M α}{p:α->List SD->Prop}{E:Exn->List SD->Prop}
theorem xBl (e:xF8 ρ as o=ρ')(h:Wp m ρ' p E):Wp m (xF8 ρ as o) p E:=by
 rw [e]
 exact h
theorem xBj {ρ ρ':List SD}{i:Nat}{x:SD}(e:ρ.set i x=ρ')(h:Wp m ρ' p E):Wp m (ρ.set i x) p E:=by
 rw [e]
 exact h
theorem xBn (e:ρ++r=ρ')(h:Wp m ρ' p E):Wp m (ρ++r) p E:=by
 rw [e]
 exact h
end
def tMk0 (C:Addr)(sp:Sp):L2.St->Hp->XK->Prop:=fun σ H Q=> ∀ a,H a=none->
 sp [.ref a] (upd H a (exo a C none)) (fun v H2=>v= .non/\ ∃ (d:Addr) (fs:List (Str×V)),H2 a=some (exo a C (some d))/\H2 d=some (exd d fs)/\H d=none/\Q (.ref C) (some d) (upd (del H2 a) d (.xd fs))) fun _ _ _=>False
section
variable {X:Cx}{C fI:Addr}{CX:CXT}{k:Nat}{fd:FuncData}{sp:Sp}{x:Str}{p pos:Pos}
theorem pmk0 (T:OexC X.K C)(iC:PySem.W.findIn X.K (.ref C) "__init__"=some (some (.ref fI)))(tI:PySem.W.typeIn X.K (.ref fI)=some (.type "function"))(F1:FnOk X.prog X.w X.K X.mg X.base CX k fI fd ["self"] sp)
  (hr:Room (k+1) X.A) (hb:Binds X.K fd ["self"] []) (hx:Passes CX X fun _ _ _=>False) (hg:Gl X x) (hm:X.mg x=some (.ref C)) (hdb:(x==("__debug__":Str))=false:=by decide):PMk X (.Call (.Name x p) [] [] pos) (tMk0 C sp):=by
 intro pins s σ H Q I h
 refine wpAny_Call_Name_kw (ld_glob I hg hm (PySem.W.callWith_K0 I.kIn T.kC ?_) hdb)
 obtain ⟨nm,q,N,bs,bm,sn,sub,ab,col,dd,k0,k1,k2,k3,k5,hC,own⟩:=T.cls
 obtain ⟨hp,gs,dw,tk,os⟩:=s
 have free:H (hp.objs.size+1)=none:=I.hok.fresh (yMv hp.objs.size)
 have grown: ∀ b o,hp.get? b=some o->((hp.push (PySem.W.kdv_tup [])).push (PySem.HandSPX.excO C hp.objs.size)).get? b=some o:=fun b o e=>Heap.get?_push_of_some _ (Heap.get?_push_of_some _ e)
 have I2:=I.laid (t':=tk) (a:=hp.objs.size+1) (o:=exo (hp.objs.size+1) C none) grown (yMv hp.objs.size) (exo_ok (t1:=hp.objs.size) (by heap_get))
 have run:=F1.run _ X.stack _ _ ⟨[.ref (hp.objs.size+1)],[]⟩ [.ref (hp.objs.size+1)] [.ref (hp.objs.size+1)] _ (fun _ _ _=>False) (hr.make C [] []) (I2.env0.make C [] []) (hb _ [.ref (hp.objs.size+1)] I2.kIn rfl) (.cons (show RelV (.ref _) _ from rfl) .nil) (h _ free)
 refine wpAny_call (PySem.HandSPX.call_own F.excBase_ValueError (fun Y=>PySem.HandSPX.refsVE_contains Y bm own) (I.kIn _ _ hC) (PySem.W.looks_findIn I.kIn iC) (fun self=>PySem.W.bind_fn I.kIn self tI) (yLy _) (codeAny_mono run fun r s' back=> ?_))
 match r,back with
 | .error e,z=>exact hx pins σ _ _ e s' I2 z
 | .ok .next,z=>exact z.elim
 | .ok .brk,z=>exact z.elim
 | .ok .cont,z=>exact z.elim
 | .ok (.ret u),⟨v,H2,o2,b2,un,ok2,rv,ev,d,fs,ea,ed,hd,q2⟩=>
  subst ev
  exact ⟨rv,mk_end (raises_own T.exC T.tyC) I (yMv _) grown un ok2 o2 b2 ea ed hd q2⟩
end
def spI (K:PySem.W.Frag)(f z:Str):Sp:=fun vs H Q E=> ∃ a C:Addr,vs=[.ref a]/\OexC K C/\PySem.W.findIn K (.ref C) f=some none/\H a=some (exo a C none)/\ ∀ dx,H dx=none->dx≠a->Q .non (upd (upd H dx (exd dx [(f,.str z)])) a (exo a C (some dx)))
theorem init_ok {P:Program}{w:World}{K:PySem.W.Frag}{mg:Str->Option Value}{base:Heap}{qual f z:Str}{params:Arguments}{scope:Scope}{fI:Addr}{fd:FuncData}{p1 p2 p3 p4:Pos}{j:Nat}
  (F:FunD K "__init__" qual params [.Assign [.Attribute (.Name "self" p1) f p2] (.Constant (.str z) j p3) p4] scope [] [] fI fd) (Sc:FnScope ["self"] ["self"] scope):FnOk P w K mg base (L2.CX P w) 1 fI fd ["self"] (spI K f z):=by
 refine F.ok Sc (fun vs H Q E ⟨a,C,e,_⟩=>by rw [e];rfl) fun cdv A outer s H vs Q E hr ⟨a,C,e,T,no,ha,q⟩=> ?_
 subst e
 refine ⟨_,pss_one (ps_ost (pe_var (i:=0) rfl ((Sc.par _ (by simp)).imp id .inl)) pe_str),?_⟩
 exact ⟨.ref a,rfl,a,C,rfl,T,no,.inl ⟨ha,fun dx n ne=>q dx n ne⟩⟩
structure ExC (P:Program)(w:World)(K:PySem.W.Frag)(mg:Str->Option Value)(base:Heap)(κ:Ctx)(x:Str)(c:String)(f z:Str)(fI:Addr)(fd:FuncData):Prop where
 T:OexC K (κ.cl c)
 no:PySem.W.findIn K (.ref (κ.cl c)) f=some none
 iC:PySem.W.findIn K (.ref (κ.cl c)) "__init__"=some (some (.ref fI))
 tI:PySem.W.typeIn K (.ref fI)=some (.type "function")
 ok:FnOk P w K mg base (L2.CX P w) 1 fI fd ["self"] (spI K f z)
 bd:Binds K fd ["self"] []
 gl:mg x=some (.ref (κ.cl c))
def sEx (x:Exn):S:=fun ρ=> .ex x ρ
theorem xVt (ha:H a=none)(ne:dx≠a):upd (del (upd (upd (upd H a (exo a C none)) dx (exd dx fs)) a (exo a C (some dx))) a) dx (.xd fs)=upd H dx (.xd fs):=by
 funext b
 by_cases h1:b=dx
 ·rw [h1,upd_same,upd_same]
 ·rw [upd_ne h1,upd_ne h1]
  by_cases h2:b=a
  ·rw [h2,del_same,ha]
  ·rw [del_ne h2,upd_ne h2,upd_ne h1,upd_ne h2]
section
variable {X:Cx}{κ:Ctx}{A:List Nat}{W:WX}{x:Str}{c:String}{f z:Str}{fI:Addr}{fd:FuncData}{p p2 pos:Pos}
theorem xE1 (C:ExC X.prog X.w X.K X.mg X.base κ x c f z fI fd)(hc:X.calm=true)(tk:Takes X W)(hr:Room 2 X.A)(hx:Passes (L2.CX X.prog X.w) X fun _ _ _=>False)(hg:Gl X x)(hdb:(x==("__debug__":Str))=false:=by decide):
  PS X (.Raise (some (.Call (.Name x p) [] [] p2)) none pos) (tS κ A W (sEx ⟨c,[(f,.str z)]⟩)):=by
 refine PS.imp (ps_raise hc tk (pmk0 C.T C.iC C.tI C.ok hr C.bd hx hg C.gl hdb)) fun D σ H ⟨B,ρ,G,_,o,q⟩ a ha=> ?_
 refine ⟨a,_,rfl,C.T,C.no,upd_same,fun dx hd ne=>⟨rfl,dx,[(f,.str z)],upd_same,?_,?_,?_⟩⟩
 ·rw [upd_ne ne,upd_same]
 ·rw [upd_ne ne] at hd
  exact hd
 ·rw [upd_ne ne] at hd
  rw [xVt ha ne]
  exact q _ _ σ _ G (o.allocOwn hd) (Same.refl G) ⟨rfl,dx,_,rfl,upd_same,.str z,[],rfl,rfl,rfl⟩
end
structure Hand (X:Cx)(pins:List (Addr×Obj))(σ:L2.St)(H:Hp)(cls:Value)(d:Option Addr)(a:Addr)(s:Shared):Prop where
 na:H a=none
 air: ∃ (B:Heap) (sI:Shared),L2.Inv X pins σ H sI/\(∀ b o,sI.heap.get? b=some o->b∉frs X.stack->B.get? b=some o)/\sI.heap.UpToSlots s.heap/\PySem.HandSPX.FlyingZ B X.stack a (Zc cls d) s.heap/\s.os=sI.os/\AllBare s.gens
section
variable {X:Cx}{pins:List (Addr×Obj)}{σ:L2.St}{H:Hp}{cls:Value}{d:Option Addr}{a:Addr}{s:Shared}
theorem Hand.inv (h:Hand X pins σ H cls d a s):L2.Inv X pins σ H s:=by
 obtain ⟨B,sI,I,nb,up,fl,os,ag⟩:=h.air
 exact I.landed nb fl.1 up os ag
theorem Hand.obj (h:Hand X pins σ H cls d a s): ∃ oe vs,s.heap.get? a=some oe/\Zc cls d oe/\oe.data= .fields vs:=by
 obtain ⟨B,sI,I,nb,up,fl,os,ag⟩:=h.air
 exact fl.there
theorem Hand.away (h:Hand X pins σ H cls d a s):a∉frs X.stack:=by
 obtain ⟨B,sI,I,nb,up,fl,os,ag⟩:=h.air
 obtain ⟨oe,vs,e,_,dt⟩:=fl.there
 intro m
 obtain ⟨_,o,eo,no⟩:=fl.2.2.1.mem m
 rw [e] at eo
 cases eo
 exact no _ dt
theorem Hand.within (h:Hand X pins σ H cls d a s)(hs:X.stack=X.env::X.outer)(hf:X.env.frame=some X.env.locals)(e:s.heap.get? a=some oe)(dt:oe.data= .fields vs):L2.Inv (X.suite a ((a,oe)::(X.pn++pins))) [] σ H s:=by
 have out:=h.away
 rw [hs] at out
 refine h.inv.suite e dt h.na (fun z=>out ?_) fun m=>out ?_
 ·exact List.mem_filterMap.mpr ⟨X.env,yK3 ..,by rw [hf,z]⟩
 ·obtain ⟨v,m1,m2⟩:=List.mem_filterMap.mp m
  exact List.mem_filterMap.mpr ⟨v,yK7 _ m1,m2⟩
end
structure Cl where
 c:Value
 i:Nat
 ts:Addr->Value->Option Addr->TS
def Ends.less (D:Ends)(i:Nat):Ends:={ nx:=fun σ H=>D.nx (σ.set i none) H,rt:=D.rt,bk:=fun σ H=>D.bk (σ.set i none) H,ct:=fun σ H=>D.ct (σ.set i none) H }
def wCls (K:PySem.W.Frag)(Wout:WX)(D:Ends):List Cl->WX
 | []=>Wout
 | q::r=>fun cls d σ H=> ∃ b,PySem.W.exmOne K cls q.c=some b/\(b=true-> ∀ a,H a=none->q.ts a cls d (Ends.less D q.i) (σ.set q.i (some (.ref a))) H)/\(b=false->wCls K Wout D r cls d σ H)
inductive ClsOk (X:Cx):List ExceptHandler->List Cl->Prop
 | nil:ClsOk X [] []
 | cons {x n:Str} {q:Cl} {b₀:Stmt} {suite:List Stmt} {np pos:Pos} {hds:List ExceptHandler} {l:List Cl} (hc:Names X x q.c) (hi:X.N[q.i]? =some n) (hl:X.env.kindOf n=some .local)
   (go: ∀ (a:Addr) (oe:Obj) (cls:Value) (d:Option Addr) (pn:List (Addr×Obj)),Zc cls d oe->(∃ vs,oe.data= .fields vs)->PSs (X.suite a ((a,oe)::pn)) (b₀::suite) (q.ts a cls d)) (r:ClsOk X hds l):
   ClsOk X (.ExceptHandler (some (.Name x np)) (some n) (b₀::suite) pos::hds) (q::l)
section
variable {X:Cx}{pins:List (Addr×Obj)}{Wout:WX}{D:Ends}
theorem Hand.on (h:Hand X pins σ H cls d a s)(hs:X.stack=X.env::X.outer)(hf:X.env.frame=some X.env.locals)(tk:Takes X Wout)(w:Wout cls d σ H):
  wpAny (model X.prog X.w) X.A (handleBy (.ref a) X.env []) (SP X pins D) X.xe s:=by
 obtain ⟨B,sI,I,nb,up,fl,os,ag⟩:=h.air
 have last:wpAny (model X.prog X.w) X.A (setFlight (.ref a) X.env.frame) (fun _ s2=>wpAny (model X.prog X.w) X.A (throw (.ref a):Sem Flow) (SP X pins D) X.xe s2) X.xe s:=by
  rw [hf]
  refine PySem.HandSPX.setFlight_upZ (hs ▸ fl) fun h2 held up2=>wpAny_throw (tk _ _ ?_)
  exact ⟨a,B,sI,pins,σ,H,cls,d,rfl,I,nb,up.trans up2,.inr (.inr (by rw [hs];exact held)),h.na,os,ag,w⟩
 obtain ⟨_,_,_,oe,vs,T,_,_,e,_,dt,tb,_⟩:=id fl
 refine wpAny_handleBy_nil (wpAny_bind (wpAny_field e dt tb ?_))
 rw [if_neg (show ¬ ((Value.ref T==Value.none)=true) from fun z=>nomatch z)]
 first
  | exact wpAny_bind last
  | exact wpAny_bind (wpAny_pure (wpAny_bind last))
theorem Hand.by_ (k:ClsOk X hds l)(h:Hand X pins σ H cls d a s)(hs:X.stack=X.env::X.outer)(hf:X.env.frame=some X.env.locals)
  (hN:X.N.Nodup) (ok:X.Ok) (tk:Takes X Wout) (w:wCls X.K Wout D l cls d σ H):wpAny (model X.prog X.w) X.A (handleBy (.ref a) X.env hds) (SP X pins D) X.xe s:=by
 induction k with
 | nil=>exact h.on hs hf tk w
 | @cons x n q b₀ suite np pos hds l hc hi hl go r ih=>
  obtain ⟨b,hb,yes,no⟩:=w
  obtain ⟨oe,vs,e,z,dt⟩:=h.obj
  have S:=h.within hs hf e dt
  have ty:PySem.W.Looks (model X.prog X.w) s.heap (typeOf (.ref a)) cls:=fun A Q E s1 k q=>wpAny_typeOf_ref (k _ _ e) (by rw [z.1];exact q)
  refine wpAny_handleBy_cons (codeAny_handlers_test ?_) fun q=>nomatch q
  have name: ∀ {Q:Value->Shared->Prop} {E:Value->Shared->Prop},Q q.c s->wpAny (model X.prog X.w) (X.A.mark (some (.ref a))) (eval (.Name x np) X.env) Q E s:=fun {Q E} y=>by
   obtain ⟨g,db,m|⟨m,v,nn⟩⟩:=hc
   ·exact ld_glob (X:=X.suite a ((a,oe)::(X.pn++pins))) S g m y db
   ·exact ld_blt (X:=X.suite a ((a,oe)::(X.pn++pins))) S g m v y nn db
  refine name ((PySem.W.exm_one (M:=model X.prog X.w) h.inv.kIn ty hb).here ?_)
  cases b with
  | false=>exact ih (no rfl)
  | true=>
   obtain ⟨B,sI,I,nb,up,fl,os,ag⟩:=h.air
   refine codeAny_handlers_suite_as (PySem.HandSPX.lands_againZ fl fun h2 fl2 up2=> ?_)
   have H2:Hand X pins σ H cls d a { s with heap:=h2 }:=⟨h.na,B,sI,I,nb,up.trans up2,fl2,os,ag⟩
   obtain ⟨oe2,vs2,e2,z2,dt2⟩:=H2.obj
   have S2:=H2.within hs hf e2 dt2
   refine store_ok (X:=X.suite a ((a,oe2)::(X.pn++pins))) (v:= .ref a) S2 hN hi (.inl hl) rfl (fun s3 S3=> ?_) (.inr hl)
   refine wpAny_mono ((go a oe2 cls d (X.pn++pins) z2 ⟨_,dt2⟩).run [] s3 _ H _ S3 (yes rfl a h.na)) (fun fl' s4 out=> ?_) fun _ _ z=>z.elim
   have leave: ∀ {σ4:L2.St} {H4:Hp} {Q:Shared->Prop},L2.Inv (X.suite a ((a,oe2)::(X.pn++pins))) [] σ4 H4 s4->(∀ s5,L2.Inv X pins (σ4.set q.i none) H4 s5->Q s5)->
     wpAny (model X.prog X.w) X.A (do bindName X.env n .none;unbindBehindTheSuite X.env n pos) (fun _ s5=>Q s5) X.xe s4:=fun J f=>gone_ok (J.unsuite ok) hN hi hl f
   match fl',out with
   | .next,⟨σ4,H4,J,y⟩=>exact leave J fun s5 J5=>⟨_,_,J5,y⟩
   | .brk,⟨σ4,H4,J,y⟩=>exact leave J fun s5 J5=>⟨_,_,J5,y⟩
   | .cont,⟨σ4,H4,J,y⟩=>exact leave J fun s5 J5=>⟨_,_,J5,y⟩
   | .ret u,⟨v,σ4,H4,J,r4,y⟩=>exact leave J fun s5 J5=>⟨_,_,_,J5,r4,y⟩
theorem xTy {tb:WX->TS}(hs:X.stack=X.env::X.outer)(hf:X.env.frame=some X.env.locals)(hN:X.N.Nodup)(tk:Takes X Wout)
  (hb: ∀ (W:WX) (pn:List (Addr×Obj)) (xe:Value->Shared->Prop),Takes (X.tr pn xe) W->PassesOwn (model X.prog X.w) X.A X.env xe->PSs (X.tr pn xe) body (tb W)) (k:ClsOk X (hd::hds) l):
  PS X (.Try body (hd::hds) [] [] pos) (fun D σ H=>tb (wCls X.K Wout D l) D σ H):=by
 refine ⟨fun pins s σ H D I h=>wpAny_Try_except ?_⟩
 have ok:=I.ok
 have catches:Takes (X.tr (X.pn++pins) fun e s1=>wpAny (model X.prog X.w) X.A (noteFrame e X.env) (fun _ s2=>wpAny (model X.prog X.w) X.A (setFlight e none) (fun _ s3=>wpAny (model X.prog X.w) X.A (handleBy e X.env (hd::hds)) (SP X pins D) X.xe s3) X.xe s2) X.xe s1) (wCls X.K Wout D l):=by
  rintro u s1 ⟨a,B,sI,pn,σ1,H1,cls,d,rfl,J,nb,up,sky,na,os,ag,w⟩
  refine Sky.land Zc.steady (by rw [ok.frames,hs]) hf (by rw [<- hs];exact sky) fun h3 fl3 up3=> ?_
  exact Hand.by_ k ⟨na,B,sI,J.ofTry ok,nb,up.trans up3,by rw [hs];exact fl3,os,ag⟩ hs hf hN ok tk w
 refine wpAny_mono ((hb _ _ _ catches PassesOwn.looking).run [] s σ H D (I.toTry _) h) (fun fl s1 out=> ?_) fun _ _ z=>z
 match fl,out with
 | .next,⟨σ1,H1,J,y⟩=>exact wpAny_execs_nil ⟨σ1,H1,J.ofTry ok,y⟩
 | .brk,⟨σ1,H1,J,y⟩=>exact ⟨σ1,H1,J.ofTry ok,y⟩
 | .cont,⟨σ1,H1,J,y⟩=>exact ⟨σ1,H1,J.ofTry ok,y⟩
 | .ret u,⟨v,σ1,H1,J,r,y⟩=>exact ⟨v,σ1,H1,J.ofTry ok,r,y⟩
end
section
variable {X:Cx}{pins pinsZ pn:List (Addr×Obj)}{σ σZ:L2.St}{H HZ:Hp}{s sZ:Shared}{CXg:CXT}{E Eg:XK}{Ng:List Str}{qg:Str}{sg scope:Scope}{g f c':Addr}{cdg pm ctv:Value}{params:Arguments}{body:Expr}{k:Nat}{xe:Value->Shared->Prop}{tb:TE}{tc:XK->TE}{Q:VK}
abbrev cxG (X:Cx)(CXg:CXT)(Ng:List Str)(qg:Str)(sg:Scope)(g:Addr)(cdg:Value)(s:Shared)(H:Hp)(Eg:XK)(pn:List (Addr×Obj))(xe:Value->Shared->Prop):Cx:=(cxOf CXg X.prog X.w X.K X.mg X.base Ng qg sg g cdg X.A X.stack s H Eg).tr pn xe
end
def yJr (hit:String->Bool)(f:Str)(m:M SD):M SD:=fun ρ=>match fE m ρ with
 | .ok d ρ'=> .ok (.va (.tup [d,.str ""])) ρ'
 | .ex x ρ'=>if hit x.c then (match x.fs.lookup f with
  | some w=> .ok (.va (.tup [.non,w])) ρ'
  | none=> .no) else .no
 | .no=> .no
structure TryK (K:PySem.W.Frag)(κ:Ctx)(CM CK:Value)(f:Str)(hit:String->Bool):Prop where
 on: ∀ c,hit c=true-> ∃ b,PySem.W.exmOne K (.ref (κ.cl c)) CM=some b/\(b=false->PySem.W.exmOne K (.ref (κ.cl c)) CK=some true)
 xf: ∀ c,hit c=true->XfC K (κ.cl c)/\PySem.W.findIn K (.ref (κ.cl c)) f=some none
def yKr (u v:V):Hp->VK->Prop:=fun H Q=> ∀ p,H p=none->Q (.ref p) (upd H p (.tup [u,v]))
def TTried (K:PySem.W.Frag)(CM CK:Value)(f:Str):(XK->Hp->VK->Prop)->Hp->VK->Prop:=fun tl H Q=>
 tl (fun cls d H'=> ∃ b,PySem.W.exmOne K cls CM=some b/\(b=false->PySem.W.exmOne K cls CK=some true)/\
  ∃ (C dd:Addr) (fs:List (Str×V)) (w:V),cls= .ref C/\XfC K C/\PySem.W.findIn K (.ref C) f=some none/\d=some dd/\H' dd=some (.xd fs)/\fs.lookup f=some w/\yKr .non w H' Q) H fun v H'=>yKr v (.str "") H' Q
def tWord (K:PySem.W.Frag)(f:Str)(a:Addr)(cls:Value)(d:Option Addr):TS:=fun D σ H=> ∃ C,XfC K C/\PySem.W.findIn K (.ref C) f=some none/\tAsg (tXf a cls d C f (tVar 3)) (gName 2) D σ H
section
variable {X:Cx}{x a nf nw n xm xk f:Str}{g CM CK:Addr}{sg:Scope}{cdg:Value}{p1 p2 p3 p4 p5 p6 p7 p8 p9 q1 q2 q3 q4 q5 q6 q7 q8 q9 r1 r2 r3 r4 r5 o1 o2 o3 o4:Pos}{j1 j2 j3:Nat}
end
theorem Ok.ext (o:Ok κ B ρ σ H G)(e:LamX.ExtN H H1)(t:LamX.Tabs κ.tabs H1):Ok κ B ρ σ H1 G where
 fr:=⟨fun a u h n=>e a u (o.fr.keep a u h n) n,o.fr.nt,o.fr.frz,o.fr.sub,fun a u h=>e a u (o.fr.gh a u h) fun ps z=>o.fr.notb a ps (by rw [h,z]),o.fr.notb,t,o.fr.lent⟩
 len:=o.len
 val:=o.val
 own:=fun i d h=>by
  obtain ⟨p,h1,h2,h3,h4⟩:=o.own i d h
  obtain ⟨u,u1,u2,_⟩:=h4.obj
  exact ⟨p,h1,h2,h3,h4.mono (Same.refl G) ((e p u u1 u2).trans u1.symm)⟩
 sep:=o.sep
 anch:=o.anch
section
variable {X:Cx}{κ:Ctx}{W:WX}{x a nf nw n xm xk f:Str}{g CM CK:Addr}{sg scope:Scope}{pg params:Arguments}{fd:FuncData}{body:Expr}{m:M SD}{hit:String->Bool}{c P:Addr}{k:Nat}{p pos lpos p1 p2 p3 p4 p5 p6 p7 p8 p9 q1 q2 q3 q4 q5 q6 q7 q8 q9 r1 r2 r3 r4 r5 o1 o2 o3 o4:Pos}{j1 j2 j3:Nat}
end
def yDi (K:PySem.W.Frag)(fd:FuncData)(ps:List Str)(dvs:List V):Prop:= ∃ ds,Vals dvs ds/\Binds K fd ps ds
def BindsKw (K:PySem.W.Frag)(fd:FuncData)(ps ks:List Str):Prop:= ∀ (s:Shared) (ws:List Value),K.In s.heap->ws.length=ps.length->BindsTo s fd ⟨[],ks.zip ws⟩ (ps.zip ws)
section
variable {X:Cx}{κ:Ctx}{W:WX}{k k':Nat}{f:Addr}{fd:FuncData}{ps ks:List Str}{fn:List SD->FR}{x:Str}{p pos kpos:Pos}{e:Expr}{es:List Expr}{n:M (List Ar)}{kws:List Keyword}{nm:Option Str}
theorem xNe (C:Callee X.prog X.w X.K X.mg X.base κ x k ps fn f fd)(hb:yDi X.K fd ps dvs)(hd: ∀ T G,RepL κ T G dd dvs)(hr:Room k' X.A)(hk:k<=k')(hg:Gl X x)(hx:xIa X W)(ha:PA X (e::es) (tAr κ W n))(hl:ALen n j)(hj:j+dd.length=ps.length)
  (hdb:(x==("__debug__":Str))=false:=by decide) (he:starEach (e::es) X.env=(false,eval e X.env)::starEach es X.env:=by rfl) (hpl:(backTo pos (starEach es X.env)).any (·.1)=false:=by rfl):PE X (.Call (.Name x p) (e::es) [] pos) (tE κ W (xAy fn dd n)):=by
 obtain ⟨ds,hv,hb⟩:=hb
 exact yDb C.ok rfl (hr.mono hk) hg C.gl C.kp hb hv hd hx ha (xW0 hl hj) hdb he hpl
theorem PK.imp (h:PK X kws t)(f: ∀ σ H Q,t' σ H Q->t σ H Q):PK X kws t':=⟨fun pos pins s σ H Q I q=>h.run pos pins s σ H Q I (f σ H Q q)⟩
end
theorem and2 (h:(a&&b)=true):a=true/\b=true:=yMo.mp h
theorem xVz (h:xTl C o=true): ∃ nm q N bs bm sn sub ab col dd k0 k1 k2 k3 k5,o=excClassObj nm q C N bs bm true sn sub ab col dd k0 k1 k2 k3 k5 "ValueError.__new__"/\PySem.HandSPX.refsVE bm=true:=by
 unfold xTl at h
 split at h
 ·rename_i m dd cd k0 k1 k2 k3 n k5
  obtain ⟨h1,g1⟩:=and2 h
  obtain ⟨h2,g2⟩:=and2 g1
  obtain ⟨h3,g3⟩:=and2 g2
  obtain ⟨h4,g4⟩:=and2 g3
  clear h g1 g2 g3
  obtain ⟨nm,bs,mro,ns,qn,hd,sn,sb,abs,col,del⟩:=cd
  dsimp only at g4 h3 h4
  split at g4
  ·rename_i D tail
   obtain ⟨h5,h6⟩:=and2 g4
   have e1:=eq_of_beq h1
   have e2:=eq_of_beq h2
   have e5:=eq_of_beq h5
   have e4:del=false:=by simpa using h4
   subst e1 e2 e4 e5 h3
   exact ⟨nm,qn,ns,bs,tail,sn,sb,abs,col,dd,k0,k1,k2,k3,k5,rfl,h6⟩
  ·cases g4
 ·cases h
theorem xWt {K:PySem.W.Frag}{C:Addr}(h:oexB K C=true):OexC K C:=by
 obtain ⟨h1,h⟩:=and2 h
 obtain ⟨h2,h⟩:=and2 h
 obtain ⟨h3,h⟩:=and2 h
 obtain ⟨h4,h5⟩:=and2 h
 refine ⟨?_,of_decide_eq_true h2,of_decide_eq_true h3,of_decide_eq_true h4,h5⟩
 cases e:K.lookup C with
 | none=>
  rw [e] at h1
  cases h1
 | some o=>
  rw [e] at h1
  obtain ⟨nm,q,N,bs,bm,sn,sub,ab,col,dd,k0,k1,k2,k3,k5,rfl,r⟩:=xVz (show xTl C o=true from h1)
  exact ⟨nm,q,N,bs,bm,sn,sub,ab,col,dd,k0,k1,k2,k3,k5,rfl,r⟩
theorem xFn {K:PySem.W.Frag}{mg:Str->Option Value}{κ:Ctx}{x:Str}{c:String}{f z:Str}{fI:Addr}{fd:FuncData}(h:excB K (κ.cl c) fI f=true)(gl:mg x=some (.ref (κ.cl c)))
  (ok:FnOk P w K mg base (L2.CX P w) 1 fI fd ["self"] (spI K f z)) (bd:Binds K fd ["self"] []):ExC P w K mg base κ x c f z fI fd:=by
 obtain ⟨h1,h⟩:=and2 h
 obtain ⟨h2,h⟩:=and2 h
 obtain ⟨h3,h4⟩:=and2 h
 exact ⟨xWt h1,of_decide_eq_true h2,of_decide_eq_true h3,of_decide_eq_true h4,ok,bd,gl⟩
section
variable {ρ:List SD}{E:Exn->List SD->Prop}{p:SD->List SD->Prop}{s:Fl->List SD->Prop}
theorem o_eqS {q:SD->Prop}(h1:d.pl 60=true)(h2:peq d d=true)(h:q (.va (.bl true))):Ow (eqD d d) q:=⟨_,by
 unfold eqD
 rw [h1,h2]
 rfl,h⟩
end
mutual
theorem xSx: ∀ (d:D) {n:Nat},d.pl n=true->PyData.eqv d.py d.py=true
 | .non,_,_=>rfl
 | .bl b,_,_=>by cases b <;> rfl
 | .int i,_,_=>by show (i==i)=true;simp
 | .str s,_,_=>by show (s==s)=true;simp
 | .tup l,0,h=>by cases h
 | .tup l,n+1,h=>xKd l (n:=n) h
 | .lst _ l,0,h=>by cases h
 | .lst _ l,n+1,h=>xKd l (n:=n) h
 | .dk _ _,n,h=>by cases n <;> cases h
 | .ins _ _ _,n,h=>by cases n <;> cases h
 | .ty _,n,h=>by cases n <;> cases h
 | .adr _,n,h=>by cases n <;> cases h
 | .scr _,n,h=>by cases n <;> cases h
 | .nv _ _ _,n,h=>by cases n <;> cases h
theorem xKd: ∀ (l:List D) {n:Nat},plL n l=true->PyData.eqvAll (pyL l) (pyL l)=true
 | [],_,_=>rfl
 | d::l,n,h=>by
  obtain ⟨h1,h2⟩:=and2 (show (D.pl n d&&plL n l)=true from by unfold plL at h;exact h)
  show (PyData.eqv d.py d.py&&PyData.eqvAll (pyL l) (pyL l))=true
  rw [xSx d h1,xKd l h2]
  rfl
end
theorem yAz (h:d.pl n=true):peq d d=true:=xSx d h
theorem o_eqR {q:SD->Prop}(h1:d.pl 60=true)(h:q (.va (.bl true))):Ow (eqD d d) q:=o_eqS h1 (yAz h1) h
def mM1 (g:Str->D->Option SD)(ma mb:M SD):M SD:=(fE ma).bind fun d=>match d with
 | .str s=>(fE mb).bind fun e=>M.opt (g s e)
 | _=>M.no
def MtD (κ:Ctx)(r:V->List V->Hp->VK->Prop)(g:Str->D->Option SD):Prop:= ∀ (B:Bas) (ρ:List SD) (σ:L2.St) (H G:Hp) (s:Str) (e:D) (y:V) (z:SD) (Q:VK),Ok κ B ρ σ H G->Rep κ B.T G e y->g s e=some z->
 (∀ v H' G',Ok κ B ρ σ H' G'->Same G G'->RepR κ B ρ σ H' G' z v->Q v H')->r (.str s) [y] H Q
section
variable {X:Cx}{κ:Ctx}{W:WX}
theorem e_m1 {id:String}{name:Str}{apos pos:Pos}{r:V->List V->Hp->VK->Prop}{g:Str->D->Option SD}(slot:Slot "str" name id)(ty:typeOf (.builtin id)=pure (.type "method_descriptor"))(rule:MtR X id r)(hr:MtD κ r g)
  (ho:PE X o (tE κ W ma)) (he:PE X e (tE κ W mb)) (hs:starEach [e] X.env=[(false,eval e X.env)]:=by rfl) (hbase:attributeBase o name X.env (eval o X.env)=eval o X.env:=by rfl) (hline:(apos.endLine==pos.line)=true:=by rfl):
  PE X (.Call (.Attribute o name apos) [e] [] pos) (tE κ W (mM1 g ma mb)):=by
 refine PE.imp (pe_m1 slot ty rule ho he hs hbase hline) fun σ H Q ⟨B,ρ,G,o,q⟩=> ?_
 refine xB1 o (Pst.bind q) fun d ρ1 H1 G1 o1 s1 q1 v1 r1=> ?_
 cases d with
 | str s=>
  cases (show v1=V.str s from r1)
  refine ⟨⟨s,rfl⟩,xB1 o1 (Pst.bind q1) fun e ρ2 H2 G2 o2 s2 q2 v2 r2=> ?_⟩
  obtain ⟨z,hz,q3⟩:=Pst.opt q2
  exact hr B ρ2 σ H2 G2 s e v2 z Q o2 r2 hz fun v H' G' o' s' rv=>q3 H' G' o' s' v rv
 | _=>exact q1.elim
def xLu (s:Str):D->Option SD
 | .str b=>if b.length≠0/\s.length<=1000000 then some (.ow (.lst false ((Txt.split s b).map D.str))) else none
 | _=>none
def partG (s:Str):D->Option SD
 | .str b=>if b.length≠0/\s.length<=1000000 then some (.va (.tup [.str (Txt.partition s b).1,.str (Txt.partition s b).2.1,.str (Txt.partition s b).2.2])) else none
 | _=>none
def xGs:List D->Option (List Str)
 | []=>some []
 | .str s::l=>(xGs l).map (s:: ·)
 | _::_=>none
def xJm (s:Str):D->Option SD
 | .lst _ l=>(xGs l).bind fun ys=>if (ys.map (·.length)).sum+ys.length*s.length<=1000000 then some (.va (.str (Txt.join s ys))) else none
 | .tup l=>(xGs l).bind fun ys=>if (ys.map (·.length)).sum+ys.length*s.length<=1000000 then some (.va (.str (Txt.join s ys))) else none
 | _=>none
theorem xOa: ∀ {l:List D} {ys:List Str},xGs l=some ys->l=ys.map D.str
 | [],ys,h=>by cases h;rfl
 | d::l,ys,h=>by
  cases d with
  | str s=>
   obtain ⟨zs,h1,rfl⟩:=yK4.mp (show (xGs l).map (s:: ·)=some ys from h)
   rw [xOa h1]
   rfl
  | _=>cases h
theorem xLx: ∀ ys:List Str,xGs (ys.map D.str)=some ys
 | []=>rfl
 | y::ys=>by
  show (xGs (ys.map D.str)).map (y:: ·)=_
  rw [xLx ys]
  rfl
theorem xS4: ∀ (ys:List Str),RepL κ T G (ys.map D.str) (ys.map V.str)
 | []=>rfl
 | y::ys=>⟨.str y,ys.map V.str,rfl,rfl,xS4 ys⟩
theorem xXh: ∀ {ys:List Str} {vs:List V},RepL κ T G (ys.map D.str) vs->vs=ys.map V.str
 | [],_,h=>h
 | y::ys,vs,h=>by
  obtain ⟨v,ws,rfl,h1,h2⟩:=h
  rw [xXh h2,show v=V.str y from h1]
  rfl
theorem beq0 {b:Str}(h:b.length≠0):(b.length==0)=false:=beq_eq_false_iff_ne.mpr h
theorem xM0 {apos pos:Pos}(ho:PE X o (tE κ W ma))(he:PE X e (tE κ W mb))(hs:starEach [e] X.env=[(false,eval e X.env)]:=by rfl)(hbase:attributeBase o "split" X.env (eval o X.env)=eval o X.env:=by rfl)(hline:(apos.endLine==pos.line)=true:=by rfl):
  PE X (.Call (.Attribute o "split" apos) [e] [] pos) (tE κ W (mM1 xLu ma mb)):=
 e_m1 F.slot_str_split F.type_str_split mt_split (fun B ρ σ H G s e y z Q o r hz q=>by
  cases e with
  | str b=>
   have hz':(if b.length≠0/\s.length<=1000000 then some (SD.ow (.lst false ((Txt.split s b).map D.str))) else none)=some z:=hz
   split at hz'
   ·rename_i h
    cases hz'
    cases (show y=V.str b from r)
    exact ⟨s,b,rfl,rfl,beq0 h.1,line_of2 h.2,fun p hp=>q _ _ _ (o.allocOwn hp) (Same.refl G) (o.newOwn hp ⟨_,upd_same,xS4 _⟩)⟩
   ·cases hz'
  | _=>cases hz) ho he hs hbase hline
where line_of2 {n:Nat} (h:n<=1000000):n+2<=sizeLine:=by rw [sizeLine_eq];omega
theorem xKh (hK:X.K=κ.K){apos pos:Pos}(ho:PE X o (tE κ W ma))(he:PE X e (tE κ W mb))(hs:starEach [e] X.env=[(false,eval e X.env)]:=by rfl)(hbase:attributeBase o "join" X.env (eval o X.env)=eval o X.env:=by rfl)(hline:(apos.endLine==pos.line)=true:=by rfl):
  PE X (.Call (.Attribute o "join" apos) [e] [] pos) (tE κ W (mM1 xJm ma mb)):=
 e_m1 F.slot_str_join F.type_str_join mt_join (fun B ρ σ H G s e y z Q o r hz q=>by
  have fin: ∀ {l:List D} {p:Addr} {vs:List V},y= .ref p->RepL κ B.T G l vs->(SqL X.K H p vs\/SqT X.K H p vs)->((xGs l).bind fun ys=>if (ys.map (·.length)).sum+ys.length*s.length<=1000000 then some (SD.va (.str (Txt.join s ys))) else none)=some z->
    ∃ a p,∃ ys:List Str,V.str s= .str a/\[y]=[.ref p]/\(SqL X.K H p (ys.map V.str)\/SqT X.K H p (ys.map V.str))/\(ys.map (·.length)).sum+ys.length*a.length<=16777216/\Q (.str (Txt.join a ys)) H:=fun {l p vs} ey rl sq hz=>by
   obtain ⟨ys,h1,h2⟩:=yLj.mp hz
   have el:=xOa h1
   subst el
   have ev:=xXh rl
   subst ev ey
   split at h2
   ·rename_i h
    cases h2
    exact ⟨s,p,ys,rfl,rfl,sq,by omega,q _ H G o (Same.refl G) rfl⟩
   ·cases h2
  cases e with
  | lst b l=>
   obtain ⟨a,vs,rfl,⟨h1,_⟩,h2⟩:=r
   exact fin rfl h2 (.inl (SqL.of (o.fr.gh _ _ h1))) hz
  | tup l=>
   obtain ⟨a,vs,rfl,h1,h2⟩:=r
   exact fin rfl h2 (.inr (hK ▸ h1.sq o.fr.gh)) hz
  | _=>cases hz) ho he hs hbase hline
end
def strD:List D->Option SD
 | [.int i]=>if i.natAbs.log2<1920 then some (.va (.str (toString i))) else none
 | _=>none
def xW4:List D->Option SD
 | [.str a]=>if a.length<=640 then (PySem.intText? a).map fun n=> .va (.int n) else none
 | ds=>intD ds
section
variable {X:Cx}{κ:Ctx}
theorem xN0:xDw κ (fun xs H Q=> ∃ i,xs=[.int i]/\i.natAbs.log2<1920/\Q (.str (toString i)) H) strD:=by
 intro B ρ σ H G ds xs z Q o r hz q
 unfold strD at hz
 split at hz
 ·rename_i i
  split at hz
  ·rename_i hi
   obtain ⟨v,ws,rfl,h,rfl⟩:=r
   cases (show v=V.int i from h)
   cases hz
   exact ⟨i,rfl,hi,q _ H G o (Same.refl G) rfl⟩
  ·cases hz
 ·cases hz
theorem xL6:CallR X (.type "int") (fun xs H Q=>((∃ i,xs=[.int i]/\Q (.int i) H)\/ ∃ k,xs=[.bl k]/\Q (.int (if k then 1 else 0)) H)\/ ∃ a n,xs=[.str a]/\PySem.intText? a=some n/\a.length<=640/\Q (.int n) H):=by
 rintro pins s σ H xs us Q I rs (h|h)
 ·exact call_int1 pins s σ H xs us Q I rs h
 ·exact call_int_str pins s σ H xs us Q I rs h
theorem xXu:xDw κ (fun xs H Q=>((∃ i,xs=[.int i]/\Q (.int i) H)\/ ∃ k,xs=[.bl k]/\Q (.int (if k then 1 else 0)) H)\/ ∃ a n,xs=[.str a]/\PySem.intText? a=some n/\a.length<=640/\Q (.int n) H) xW4:=by
 intro B ρ σ H G ds xs z Q o r hz q
 unfold xW4 at hz
 split at hz
 ·rename_i a
  split at hz
  ·rename_i ha
   obtain ⟨n,hn,rfl⟩:=yK4.mp hz
   obtain ⟨v,ws,rfl,h,rfl⟩:=r
   cases (show v=V.str a from h)
   exact .inr ⟨a,n,rfl,hn,ha,q _ H G o (Same.refl G) rfl⟩
  ·cases hz
 ·exact .inl (yKe B ρ σ H G ds xs z Q o r hz q)
end
def inB:D->D->Option Bool
 | .str x,.str z=>match x.cps.toList with
  | [c]=>some (decide (c∈z.cps.toList))
  | _=>none
 | d,.lst _ l=>if d.pl 60&&(D.lst false l).pl 60 then some (l.any fun e=>peq e d) else none
 | _,_=>none
def inD (d e:D):Option SD:=(inB d e).map fun b=> .va (.bl b)
def ninD (d e:D):Option SD:=(inB d e).map fun b=> .va (.bl (!b))
theorem yBw (d:D): ∀ l:List D,(pyL l).any (fun z=>PyData.eqv z d.py)=l.any fun e=>peq e d
 | []=>rfl
 | e::l=>by
  show (PyData.eqv e.py d.py || (pyL l).any fun z=>PyData.eqv z d.py)=_
  rw [yBw d l]
  rfl
section
variable {X:Cx}{κ:Ctx}
theorem xTd (s:Same G H)(r1:Rep κ T G d x)(r2:Rep κ T G e y)(h:inB d e=some b):
  (∃ (c:Nat) (z:Str),x= .str ⟨#[c]⟩/\y= .str z/\b=decide (c∈z.cps.toList))\/ ∃ (p:PyData) (ps:List PyData),Dp κ.K H x p/\Dp κ.K H y (.list ps)/\SeqAt.shaped p=true/\SeqAt.shaped (.list ps)=true/\b=ps.any fun z=>PyData.eqv z p:=by
 have deep: ∀ {bb:Bool} {l:List D},e= .lst bb l->(if d.pl 60&&(D.lst false l).pl 60 then some (l.any fun e=>peq e d) else none)=some b->
   ∃ (p:PyData) (ps:List PyData),Dp κ.K H x p/\Dp κ.K H y (.list ps)/\SeqAt.shaped p=true/\SeqAt.shaped (.list ps)=true/\b=ps.any fun z=>PyData.eqv z p:=fun {bb l} he g=>by
  subst he
  split at g
  ·rename_i hp
   cases g
   obtain ⟨p1,p2⟩:=and2 hp
   have p3:(D.lst bb l).pl 60=true:=p2
   exact ⟨d.py,pyL l,xIk s d p1 r1,xIk s (.lst bb l) p3 r2,xEi p1,xEi (d:= .lst bb l) p3,(yBw d l).symm⟩
  ·cases g
 cases e with
 | lst bb l=>
  refine .inr (deep rfl ?_)
  cases d <;> exact h
 | str z=>
  cases d with
  | str w=>
   left
   have h':(match w.cps.toList with
    | [c]=>some (decide (c∈z.cps.toList))
    | _=>none)=some b:=h
   split at h'
   ·rename_i c ec
    cases h'
    have ew:w=⟨#[c]⟩:=by
     obtain ⟨a⟩:=w
     have:a= #[c]:=by rw [<- Array.toArray_toList (xs:=a),ec]
     rw [this]
    subst ew
    exact ⟨c,z,r1,r2,rfl⟩
   ·cases h'
  | _=>cases h
 | _=>cases d <;> cases h
abbrev rIn2 (K:PySem.W.Frag):R2:=fun x y H Q=>(∃ (c:Nat) (z:Str),x= .str ⟨#[c]⟩/\y= .str z/\Q (.bl (decide (c∈z.cps.toList))) H)\/rInD K x y H Q
abbrev yFg (K:PySem.W.Frag):R2:=fun x y H Q=>(∃ (c:Nat) (z:Str),x= .str ⟨#[c]⟩/\y= .str z/\Q (.bl (!decide (c∈z.cps.toList))) H)\/rNotInD K x y H Q
theorem yI2 (hu:X.A.units+65<cLine):OpR X (compareOp .In) (rIn2 X.K):=op_in_sign.or (op_inD hu)
theorem yFp (hu:X.A.units+65<cLine):OpR X (compareOp .NotIn) (yFg X.K):=op_notIn_sign.or (op_notInD hu)
theorem od_in:OpD κ (rIn2 κ.K) inD:=by
 intro B ρ σ H G d e x y z Q o r1 r2 hz q
 obtain ⟨b,hb,rfl⟩:=yK4.mp hz
 have fin:=q (.bl b) H G o (Same.refl G) rfl
 rcases xTd o.fr.gh r1 r2 hb with ⟨c,w,h1,h2,rfl⟩|⟨p,ps,h1,h2,h3,h4,rfl⟩
 ·exact .inl ⟨c,w,h1,h2,fin⟩
 ·exact .inr ⟨p,ps,h1,h2,h3,h4,fin⟩
theorem yJh:OpD κ (yFg κ.K) ninD:=by
 intro B ρ σ H G d e x y z Q o r1 r2 hz q
 obtain ⟨b,hb,rfl⟩:=yK4.mp hz
 have fin:=q (.bl (!b)) H G o (Same.refl G) rfl
 rcases xTd o.fr.gh r1 r2 hb with ⟨c,w,h1,h2,rfl⟩|⟨p,ps,h1,h2,h3,h4,rfl⟩
 ·exact .inl ⟨c,w,h1,h2,fin⟩
 ·exact .inr ⟨p,ps,h1,h2,h3,h4,fin⟩
end
def BindsPK (K:PySem.W.Frag)(fd:FuncData)(ps:List Str)(n:Nat)(ks:List Str):Prop:= ∀ (s:Shared) (us ws:List Value),K.In s.heap->us.length=n->ws.length=ks.length->BindsTo s fd ⟨us,ks.zip ws⟩ (ps.zip (us++ws))
def aApp (n k:M (List Ar)):M (List Ar):=n.bind fun as=>k.bind fun bs=>M.ret (as++bs)
theorem xGh.len: ∀ {as:List Ar} {vs:List V},xGh κ T σ G as vs->vs.length=as.length
 | [],vs,h=>by rw [show vs=[] from h];rfl
 | a::as,vs,h=>by
  obtain ⟨v,us,rfl,_,h2⟩:=h
  rw [yK9,yK9,xGh.len h2]
section
variable {X:Cx}{κ:Ctx}{W:WX}{k k':Nat}{f:Addr}{fd:FuncData}{ps ks:List Str}{fn:List SD->FR}{x:Str}{p pos:Pos}{e:Expr}{es:List Expr}{n m:M (List Ar)}{kws:List Keyword}
end
def spI2 (K:PySem.W.Frag)(f z g:Str):Sp:=fun vs H Q E=> ∃ (a C:Addr) (y:V),vs=[.ref a,y]/\OexC K C/\PySem.W.findIn K (.ref C) f=some none/\PySem.W.findIn K (.ref C) g=some none/\H a=some (exo a C none)/\
 ∀ dx,H dx=none->dx≠a->Q .non (upd (upd (upd H dx (exd dx [(f,.str z)])) a (exo a C (some dx))) dx (exd dx [(g,y),(f,.str z)]))
theorem init2_ok {P:Program}{w:World}{K:PySem.W.Frag}{mg:Str->Option Value}{base:Heap}{qual f z g n:Str}{params:Arguments}{scope:Scope}{fI:Addr}{fd:FuncData}{p1 p2 p3 p4 p5 p6 p7 p8:Pos}{j:Nat}
  (F:FunD K "__init__" qual params [.Assign [.Attribute (.Name "self" p1) f p2] (.Constant (.str z) j p3) p4,.Assign [.Attribute (.Name "self" p5) g p6] (.Name n p7) p8] scope [] [] fI fd) (Sc:FnScope ["self",n] ["self",n] scope)
  (dn:(n==("__debug__":Str))=false:=by decide) (cn:(n==("__classdict__":Str))=false:=by decide):FnOk P w K mg base (L2.CX P w) 1 fI fd ["self",n] (spI2 K f z g):=by
 refine F.ok Sc (fun vs H Q E ⟨a,C,y,e,_⟩=>by rw [e];rfl) fun cdv A outer s H vs Q E hr ⟨a,C,y,e,T,no,no2,ha,q⟩=> ?_
 subst e
 have v0:Vis scope "self":=(Sc.par _ (by simp)).imp id .inl
 have v1:Vis scope n:=(Sc.par _ (by simp)).imp id .inl
 refine ⟨_,pss_cons (ps_ost (pe_var (i:=0) rfl v0) pe_str) (pss_one (ps_ost (pe_var (i:=0) rfl v0) (pe_var (i:=1) rfl v1 dn cn))),?_⟩
 refine ⟨.ref a,rfl,a,C,rfl,T,no,.inl ⟨ha,fun dx hd ne=> ?_⟩⟩
 refine ⟨y,rfl,.ref a,rfl,a,C,rfl,T,no2,.inr ⟨dx,_,upd_same,by rw [upd_ne ne,upd_same],by simp,q dx hd ne⟩⟩
structure ExC2 (P:Program)(w:World)(K:PySem.W.Frag)(mg:Str->Option Value)(base:Heap)(κ:Ctx)(x:Str)(c:String)(f z g n:Str)(fI:Addr)(fd:FuncData):Prop where
 T:OexC K (κ.cl c)
 no:PySem.W.findIn K (.ref (κ.cl c)) f=some none
 no2:PySem.W.findIn K (.ref (κ.cl c)) g=some none
 iC:PySem.W.findIn K (.ref (κ.cl c)) "__init__"=some (some (.ref fI))
 tI:PySem.W.typeIn K (.ref fI)=some (.type "function")
 ok:FnOk P w K mg base (L2.CX P w) 1 fI fd ["self",n] (spI2 K f z g)
 bd:Binds K fd ["self",n] []
 gl:mg x=some (.ref (κ.cl c))
theorem yA8 {K:PySem.W.Frag}{mg:Str->Option Value}{κ:Ctx}{x:Str}{c:String}{f z g n:Str}{fI:Addr}{fd:FuncData}(h:excB K (κ.cl c) fI f=true)(h2:PySem.W.findIn K (.ref (κ.cl c)) g=some none)(gl:mg x=some (.ref (κ.cl c)))
  (ok:FnOk P w K mg base (L2.CX P w) 1 fI fd ["self",n] (spI2 K f z g)) (bd:Binds K fd ["self",n] []):ExC2 P w K mg base κ x c f z g n fI fd:=by
 obtain ⟨g1,h⟩:=and2 h
 obtain ⟨g2,h⟩:=and2 h
 obtain ⟨g3,g4⟩:=and2 h
 exact ⟨xWt g1,of_decide_eq_true g2,h2,of_decide_eq_true g3,of_decide_eq_true g4,ok,bd,gl⟩
def sEx1 (c:String)(f z g:Str)(m:M SD):S:=(fE m).bind fun d=>sEx ⟨c,[(g,d),(f,.str z)]⟩
theorem xL1 (ha:H a=none)(ne:dx≠a):upd (del (upd (upd (upd (upd H a (exo a C none)) dx (exd dx fs)) a (exo a C (some dx))) dx (exd dx gs)) a) dx (.xd gs)=upd H dx (.xd gs):=by
 funext b
 by_cases h1:b=dx
 ·rw [h1,upd_same,upd_same]
 ·rw [upd_ne h1,upd_ne h1]
  by_cases h2:b=a
  ·rw [h2,del_same,ha]
  ·rw [del_ne h2,upd_ne h1,upd_ne h2,upd_ne h1,upd_ne h2]
section
variable {X:Cx}{κ:Ctx}{A:List Nat}{W:WX}{x:Str}{c:String}{f z g n:Str}{fI:Addr}{fd:FuncData}{e:Expr}{m:M SD}{p p2 pos:Pos}
theorem xMr (C:ExC2 X.prog X.w X.K X.mg X.base κ x c f z g n fI fd)(hc:X.calm=true)(tk:Takes X W)(hr:Room 2 X.A)(hx:Passes (L2.CX X.prog X.w) X fun _ _ _=>False)(hg:Gl X x)(he:PE X e (tE κ W m))(hdb:(x==("__debug__":Str))=false:=by decide)
  (hs:starEach [e] X.env=(false,eval e X.env)::starEach [] X.env:=by rfl) (hpl:(backTo p2 (starEach [] X.env)).any (·.1)=false:=by rfl):PS X (.Raise (some (.Call (.Name x p) [e] [] p2)) none pos) (tS κ A W (sEx1 c f z g m)):=by
 refine PS.imp (ps_raise hc tk (pmk_oex (dvs:=[]) C.T C.iC C.tI C.ok hr C.bd .nil hx hg C.gl (pa_cons he pa_nil hs) hdb hs hpl)) fun D σ H ⟨B,ρ,G,_,o,q⟩=> ?_
 refine xB1 o (PstS.bind q) fun d ρ1 H1 G1 o1 s1 q1 y r1=> ?_
 refine ⟨by simp,fun a ha=>⟨a,_,y,rfl,C.T,C.no,C.no2,upd_same,fun dx hd ne=>⟨rfl,dx,[(g,y),(f,.str z)],?_,upd_same,?_,?_⟩⟩⟩
 ·rw [upd_ne (Ne.symm ne),upd_same]
 ·rw [upd_ne ne] at hd
  exact hd
 ·rw [upd_ne ne] at hd
  rw [xL1 ha ne]
  exact q1 _ _ σ _ G1 (o1.allocOwn hd) (Same.refl G1) ⟨rfl,dx,_,rfl,upd_same,y,_,rfl,r1,.str z,[],rfl,rfl,rfl⟩
end
def sTryF (b:S)(hit:String->Bool)(i j:Nat)(f:Str):S:=fun ρ=>match b ρ with
 | .ex x ρ'=>if hit x.c=true/\i<ρ'.length then (match x.fs.lookup f with
  | some w=> .ok .nx (((ρ'.set i .un).set j (.va w)).set i .un)
  | none=> .no) else .no
 | r=>r
structure Try1K (K:PySem.W.Frag)(κ:Ctx)(CM:Value)(f:Str)(hit:String->Bool):Prop where
 on: ∀ c,hit c=true->PySem.W.exmOne K (.ref (κ.cl c)) CM=some true
 xf: ∀ c,hit c=true->XfC K (κ.cl c)/\PySem.W.findIn K (.ref (κ.cl c)) f=some none
def tField (K:PySem.W.Frag)(f:Str)(i j:Nat)(a:Addr)(cls:Value)(d:Option Addr):TS:=fun D σ H=> ∃ C,XfC K C/\PySem.W.findIn K (.ref C) f=some none/\tAsg (tXf a cls d C f (tVar i)) (gName j) D σ H
section
variable {X:Cx}{κ:Ctx}{A:List Nat}{Wout:WX}{i j:Nat}{f nw n xm:Str}{CM:Addr}{body:List Stmt}{b:S}{hit:String->Bool}{q1 q2 q3 q4 q5 q6 pos:Pos}
end
theorem xA4 (r:Room k A):A.units+65<cLine:=by have:=r.un;omega
structure Tx (n:Nat)(s:Str):Prop where
 len:s.length<=n
 asc: ∀ c∈s.cps.toList,c<128
theorem Tx.ok (h:Tx n s):PyData.strOk s=true:=by
 unfold PyData.strOk
 rw [<- Array.all_toList]
 refine yLu.mpr fun c hc=> ?_
 have:=h.asc c hc
 simp only [decide_eq_true_eq]
 omega
theorem Tx.mono (h:Tx m s)(l:m<=n):Tx n s:=⟨yLt h.len l,h.asc⟩
def D.items:D->Option (List D)
 | .lst _ l=>some l
 | .tup l=>some l
 | .str s=>some (s.cps.toList.map fun c=>D.str ⟨#[c]⟩)
 | _=>none
section
variable {α:Type}{ρ:List SD}{E:Exn->List SD->Prop}{p:SD->List SD->Prop}{s:Fl->List SD->Prop}{pl:List D->List SD->Prop}{pa:List Ar->List SD->Prop}
theorem yCh (h:Wp (fE m) ρ (fun d ρ'=> ∃ l,d.items=some l/\pl l ρ') E):Wp (iSeq m) ρ pl E:=xAk (h.mono (fun d ρ' h=>by
 obtain ⟨l,e,h⟩:=h
 cases d <;> first
  | (cases e;exact ⟨h⟩)
  | cases e) fun _ _ z=>z)
structure Mw (g:Str->D->Option SD)(mb:M SD)(d:D)(ρ:List SD)(p:SD->List SD->Prop)(E:Exn->List SD->Prop):Prop where
 run: ∃ z,d= .str z/\Wp (fE mb) ρ (fun e ρ2=>Ow (g z e) fun r=>p r ρ2) E
theorem w_m1 {g:Str->D->Option SD}(h:Wp (fE ma) ρ (fun d ρ1=>Mw g mb d ρ1 p E) E):Wp (mM1 g ma mb) ρ p E:=xAk (h.mono (fun d ρ1 h=>by
 obtain ⟨z,rfl,k⟩:=h.run
 exact xAk (k.mono (fun _ _ h=>xPd h) fun _ _ z=>z)) fun _ _ z=>z)
theorem w_mw {g:Str->D->Option SD}(h:Wp (fE mb) ρ (fun e ρ2=>Ow (g z e) fun r=>p r ρ2) E):Mw g mb (.str z) ρ p E:=⟨z,rfl,h⟩
end
section
variable {p:SD->Prop}{a b:Str}{l:List D}{lo hi:Option Int}{i:Int}
theorem xYk (a b:Str):peq (.str a) (.str b)=decide (a=b):=rfl
theorem xIj (h:PyData.strOk a=true):D.pl n (.str a)=true:=by cases n <;> exact h
theorem xYx (h:p (.va (.bl (decide (a=b)))))(ha:PyData.strOk a=true)(hb:PyData.strOk b=true):Ow (eqD (.str a) (.str b)) p:=⟨_,by
 unfold eqD
 rw [xIj ha,xIj hb,xYk]
 rfl,h⟩
theorem xZh (h:p (.va (.bl (!decide (a=b)))))(ha:PyData.strOk a=true)(hb:PyData.strOk b=true):Ow (neD (.str a) (.str b)) p:=⟨_,by
 unfold neD
 rw [xIj ha,xIj hb,xYk]
 rfl,h⟩
theorem xZf (h:p (.va (.str (cutS a lo hi))))(g:a.length<=1000000):Ow (slcD (.str a) lo hi) p:=⟨_,if_pos g,h⟩
theorem xWs (h:p (.va (.str ⟨#[c]⟩)))(e:atI a.cps.toList i=some c)(g:a.length<=1000000):Ow (ixD (.str a) (.int i)) p:=⟨_,by
 show (if a.length<=1000000 then (atI a.cps.toList i).map fun c=>SD.va (.str ⟨#[c]⟩) else none)=_
 rw [if_pos g,e]
 rfl,h⟩
theorem yG6 (h:p (.va (.bl (decide (c∈a.cps.toList))))):Ow (inD (.str ⟨#[c]⟩) (.str a)) p:=⟨_,rfl,h⟩
theorem xWk (h:p (.va (.bl (!decide (c∈a.cps.toList))))):Ow (ninD (.str ⟨#[c]⟩) (.str a)) p:=⟨_,rfl,h⟩
theorem xWg (h:p (.ow (.lst false ((Txt.split a b).map D.str))))(g:a.length<=1000000)(gb:b.length≠0):Ow (xLu a (.str b)) p:=⟨_,if_pos ⟨gb,g⟩,h⟩
theorem xOe (h:p (.va (.str (Txt.join a ys))))(g:(ys.map (·.length)).sum+ys.length*a.length<=1000000):Ow (xJm a (.lst x (ys.map D.str))) p:=⟨_,by
 show (xGs (ys.map D.str)).bind _=_
 rw [xLx]
 exact if_pos g,h⟩
theorem yC0 (h:p (.va (.str (toString i))))(g:i.natAbs.log2<1920):Ow (strD [.int i]) p:=⟨_,if_pos g,h⟩
theorem xYr (h:p (.va (.int n)))(e:PySem.intText? a=some n)(g:a.length<=640):Ow (xW4 [.str a]) p:=⟨_,by
 show (if a.length<=640 then (PySem.intText? a).map fun n=>SD.va (.int n) else none)=_
 rw [if_pos g,e]
 rfl,h⟩
end
def nbFl:Fl->Bool
 | .rt r=>r.nbS
 | _=>true
def sLend (i:Nat)(s:S):S:=fun ρ=>match ρ[i]? with
 | some (.ow (.lst b l))=>match s (ρ.set i (.va (.lst true l))) with
  | .ok f ρ'=>if ((ρ'.set i .un).all SD.nbS&&nbFl f)=true/\i<ρ'.length then .ok f (ρ'.set i (.ow (.lst b l))) else .no
  | _=> .no
 | _=> .no
section
variable {κ:Ctx}{B:Bas}{ρ ρ':List SD}{σ σ':L2.St}{H H' G G':Hp}{i:Nat}{p:Addr}{b:Bool}{l:List D}{vs:List V}
abbrev lendC (B:Bas)(i:Nat)(p:Addr)(vs:List V):Bas:=⟨upd B.H p (.lst vs),upd B.G p (.lst vs),fun a=>B.T a\/a=p,(i,p)::B.an⟩
theorem xBm.monoT (h:xBm κ T G H q d)(e:Mono T G T' G')(k:H' q=H q):xBm κ T' G' H' q d:=by
 cases d <;> first
  | exact h.elim
  | (obtain ⟨vs,h1,h2⟩:=h;first|exact ⟨vs,k.trans h1,RepL.mono e _ h2⟩|exact ⟨vs,k.trans h1,RepK.mono e _ h2⟩|exact ⟨vs,h1.at k,RepL.mono e _ h2⟩)
  | (obtain ⟨dx,vs,h1,h2⟩:=h;exact ⟨dx,vs,k.trans h1,RepF.mono e _ h2⟩)
structure LendO (κ:Ctx)(B:Bas)(i:Nat)(p:Addr)(vs:List V)(G:Hp)(l:List D):Prop where
 gp:G p=none
 bp:B.H p=none
 bg:B.G p=none
 hr:RepL κ B.T G l vs
 sub:Same B.G G
 lent: ∀ a,B.T a->B.H a≠none
theorem LendO.at (f:LendO κ B i p vs G l)(o:Ok κ (lendC B i p vs) ρ' σ' H' G'):G' p=some (.lst vs)/\H' p=some (.lst vs)/\σ'[i]? =some (some (V.ref p)):=by
 have h1:H' p=some (.lst vs):=o.fr.keep p _ upd_same fun ps z=>nomatch z
 have h2:G' p=some (.lst vs):=by
  have z:=o.fr.frz p (by show upd B.H p _ p≠none;rw [upd_same];exact fun z=>nomatch z)
  rw [z]
  exact upd_same
 exact ⟨h2,h1,o.anch i p (yK3 ..)⟩
theorem LendO.same (f:LendO κ B i p vs G l)(s:Same (upd G p (.lst vs)) G'):Same G (er G' p):=fun a u h=>by
 have na:a≠p:=fun z=>by rw [z,f.gp] at h;cases h
 rw [xEv na]
 exact s a u (by rw [upd_ne na];exact h)
end
end Fm
set_option maxHeartbeats 990000
namespace Zn
open PySem L2 Zs
abbrev zo0 (ti to:Addr)(own:Value):Obj:={ cls:= .type "zip",dict:=none,data:= .fields #[own,.bool false,.bool false,.ref ti,.ref to],slots:= #[] }
structure Zip0 (b c:Bool)(z ti to p q a d:Addr)(n:Nat)(own u v:Value)(h:Heap):Prop where
 z:h.get? z=some (zo0 ti to own)
 i:h.get? ti=some (two (.ref p) (.ref q))
 o:h.get? to=some (two u v)
 p:At b h p a n
 q:At c h q d n
section
variable {P:Program}{w:World}{s:Shared}{A:Around}{E:Value->Shared->Prop}
end
abbrev fiveN (b c:Bool)(a d:Addr)(n:Nat):List Obj:=[itO b a,itO c d,two (.ref n) (.ref (n+1)),two .none .none,zo0 (n+2) (n+3) .none]
section
variable {b c:Bool}{z ti to p q a d:Addr}{n:Nat}{own u v:Value}{h g:Heap}
end
section
variable {P:Program}{w:World}{s:Shared}{A:Around}{E:Value->Shared->Prop}
end
end Zn
set_option maxHeartbeats 390000
namespace Fm
open L2 PySem PySem.Spec PyProof.Rows Zs Zn
def enP:Nat->List D->List D
 | _,[]=>[]
 | k,d::l=> .tup [.int (k:Nat),d]::enP (k+1) l
theorem xWm: ∀ {l:List D} {k i:Nat},(enP k l)[i]? =l[i]?.map fun d=> .tup [.int ((k+i:Nat):Int),d]
 | [],_,_=>by simp [enP]
 | d::l,k,0=>rfl
 | d::l,k,i+1=>by
  show (enP (k+1) l)[i]? =_
  rw [xWm,yMh,show k+1+i=k+(i+1) by omega]
theorem xNp: ∀ {l:List D} {k:Nat},(enP k l).length=l.length
 | [],_=>rfl
 | d::l,k=>by
  show (enP (k+1) l).length+1=_
  rw [xNp]
  rfl
def enM:D->M (List D)
 | .lst _ l=>M.ret (enP 0 l)
 | _=>M.no
def iEn (m:M SD):M (List D):=(fE m).bind enM
def dvmD:List D->Option SD
 | [.int i,.int j]=>if divG i j then some (.va (.tup [.int (i.fdiv j),.int (i.fmod j)])) else none
 | _=>none
def yBr:List D->Option (List Int)
 | []=>some []
 | .int i::l=>(yBr l).map (i:: ·)
 | _::_=>none
def sumD:List D->Option SD
 | [.lst _ l]=>(yBr l).map fun ns=> .va (.int ns.sum)
 | _=>none
section
variable {ρ:List SD}{E:Exn->List SD->Prop}{pl:List D->List SD->Prop}{p:SD->Prop}
end
end Fm
set_option maxHeartbeats 990000
namespace Sj
open PySem PyProof.Rows
structure SJ (z:Nat)(J:Shared->Prop):Prop where
 grow: ∀ {s:Shared} {h':Heap} {t':Nat},J s->(∀ b o,s.heap.get? b=some o->h'.get? b=some o)->J { s with heap:=h',toks:=t' }
 alt: ∀ {s:Shared} {h':Heap} {t':Nat} {b:Addr},J s->z<=b->Heap.SameBut b s.heap h'->J { s with heap:=h',toks:=t' }
section
variable {prog:Program}{w:World}{A:Around}{E:Value->Shared->Prop}{s:Shared}{a kS:Addr}{vs:List Value}{kz:List Int}{keys:Array Value}{e e1:Nat}{P:PySem.Fin->Shared->Prop}{z:Nat}{J:Shared->Prop}
end
end Sj
namespace Fm
open L2 PySem PySem.Spec PyProof.Rows NdefX LamX Sj
section
variable {α β:Type}
def insK (x:Int×α):List (Int×α)->List (Int×α)
 | []=>[x]
 | y::l=>if x.1<=y.1 then x::y::l else y::insK x l
def srtK:List (Int×α)->List (Int×α)
 | []=>[]
 | x::l=>insK x (srtK l)
end
def D.itm:D->Option (List D)
 | .tup l=>some l
 | .lst _ l=>some l
 | _=>none
def absK:D->Option Int
 | .int i=>some (if i<0 then -i else i)
 | _=>none
def keyD (n:Int)(d:D):Option Int:=d.itm.bind fun l=>(atI l 0).bind fun e=>e.itm.bind fun m=>(atI m n).bind absK
def yIm (n:Int):List D->Option (List Int)
 | []=>some []
 | d::l=>(keyD n d).bind fun k=>(yIm n l).map (k:: ·)
section
variable {κ:Ctx}{T:Pd}{G H:Hp}
abbrev tKey (K:PySem.W.Frag):TE:=tCB (fun xs H Q=> ∃ i,xs=[.int i]/\Q (.int (if i<0 then -i else i)) H) (tCons (tOp (rIx K) (tOp (rIx K) (tVar 0) (tC (.int 0))) (tVar 1)) tNil)
end
def mSrt (j:Nat)(m:M SD):M SD:=(fE m).bind fun d=>fun ρ=>match d,ρ[j]? with
 | .lst _ l,some (.va (.int n))=>match yIm n l with
  | some ks=> .ok (.ow (.lst false ((srtK (ks.zip l)).map Prod.snd))) ρ
  | none=> .no
 | _,_=> .no
section
variable {pins:List (Addr×Obj)}{X:Cx}{σ:L2.St}{H:Hp}{s:Shared}
variable {f c':Addr}{pm ctv u:Value}{v:V}{params:Arguments}{body:Expr}{scope:Scope}{p y:Str}{j k:Nat}{t:TE}{Q:VK}
end
end Fm
namespace Mn
open PySem PySem.W
section
variable {prog:Program}{w:World}{A:Around}{s:Shared}{E:Value->Shared->Prop}
abbrev two (h:Heap)(a b:Value):Heap:=h.push { cls:= .type "tuple",data:= .seq #[a,b] }
theorem min_pair {Q:Value->Shared->Prop}(hh:A.handled=none)(ra:Reads s.heap a x as)(rb:Reads s.heap b y bs)(hal:AlikeAll [x,y])(hu:A.units+1+PyData.depthAll [x,y]<cLine)
  (h: ∀ h' tk,(∀ c o,s.heap.get? c=some o->h'.get? c=some o)->Q (if dataLt y x then b else a) { s with heap:=h',toks:=tk }):wpAny (model prog w) A (call (.builtin "min") [a,b]) Q E s:=by
 have old: ∀ c o,s.heap.get? c=some o->(two s.heap a b).get? c=some o:=fun c o e=>Heap.get?_push_of_some _ e
 have tupAt:(two s.heap a b).IsTuple s.heap.objs.size #[a,b]:=⟨_,Heap.get?_push_size _ rfl,rfl,0,rfl⟩
 have rd:ReadsAll (two s.heap a b) #[a,b].toList [x,y] (as++(bs++[])):= .cons (reads_keeps old ra) (.cons (reads_keeps old rb) .nil)
 refine call_function_tree F.kind_min F.plain_min F.entry_min (F.args_min2 a b) (wpAny_bind (wpAny_of_eq (a:=[none,none]) rfl (wpAny_bind (wpAny_newObj_type (wpAny_bind (iter_tupleW (A:=A.in1) (s:={ s with heap:=two s.heap a b }) hh tupAt fun s₂ e W st hfp hw hkeep=>wpAny_bind (wpAny_newObj_type ?_)))))))
 have nm:"min.loop"=(toString "min"++toString ".loop":String):=by decide
 have hSf:s₂.heap.objs.size∉[(two s.heap a b).objs.size,s.heap.objs.size]:=fun hm=>absurd (hfp _ hm) (Nat.lt_irrefl _)
 rw [<- nm]
 have hcmp:=cmpIn_lt (prog:=prog) (w:=w) (A:=A.in1) (s:={ s with heap:=two s.heap a b }) rd hal (show A.units+1+_<_ from hu)
 refine wpAny_pure ⟨plainId_quiet F.plain_min_loop _,codeAny_min_loop_firstH W _ hw _ hcmp s₂.heap.objs.size hSf (fresh_in hkeep) _ (by show 0<2;omega) (fun b o e=>Heap.get?_push_of_some _ (hkeep b o e)) (W.frame 0 s₂ _ s₂.toks st (yLq _) fun b _ o e=>Heap.get?_push_of_some _ e) (Heap.get?_push_size _ rfl) fun v s' hP hm=> ?_⟩
 have hm2:=Moved.drop_new (tk:=s₂.toks) hm (yLq _)
 obtain ⟨h',tk,rfl,hk'⟩:=moved_old (s:={ s with heap:=s.heap.push { cls:= .type "tuple",data:= .seq #[a,b] } }) e rfl hm2
 have ev:v=if dataLt y x then b else a:=by
  have hP':(#[a,b]:Array Value)[argBest (fun i j=>dataLt ([x,y].getD i .none) ([x,y].getD j .none)) 1]? =some v:=hP
  have e1:argBest (fun i j=>dataLt ([x,y].getD i .none) ([x,y].getD j .none)) 1=if dataLt y x then 1 else 0:=rfl
  rw [e1] at hP'
  cases c:dataLt y x with
  | true=>
   rw [c,if_pos rfl] at hP'
   cases hP'
   exact (if_pos rfl).symm
  | false=>
   rw [c,if_neg yMd] at hP'
   cases hP'
   exact (if_neg yMd).symm
 subst ev
 exact h h' tk fun c o e=>hk' c o (old c o e)
end
end Mn
namespace Fm
open L2 PySem PySem.Spec PyProof.Rows PySem.W
theorem inC {α:Type}{a b:α}{l:List α}(h:a∈b::l):a=b\/a∈l:=yLp.mp h
theorem allC {α:Type}{p:α->Bool}{a:α}{l:List α}(h:(a::l).all p=true):p a=true/\l.all p=true:=yMo.mp h
def xHp (l:List D):Bool:=plL 60 l&&(l.all fun a=>l.all fun b=>alike a.py b.py)&&((l.all fun a=>match a.py with| .tuple (_::_)=>true|_=>false) || l.all fun a=>match a.py with| .none=>false| .tuple _=>false|_=>true)
def srtD (l:List D):List D:=l.mergeSort (dataLe false D.py)
section
variable {κ:Ctx}{X:Cx}
theorem xQs: ∀ {l:List D} {n:Nat} {d:D},plL n l=true->d∈l->d.pl n=true
 | c::l,n,d,h,m=>by
  have h':(D.pl n c&&plL n l)=true:=by unfold plL at h;exact h
  rw [yLc] at h'
  rcases inC m with rfl|m
  ·exact h'.1
  ·exact xQs h'.2 m
theorem yAe (h:xHp l=true):plL 60 l=true:=by
 unfold xHp at h
 rw [yLc,yLc] at h
 exact h.1.1
theorem xRw (h:xHp l=true):AllAlike (l.map D.py):=by
 unfold xHp at h
 rw [yLc,yLc] at h
 have h2:=h.1.2
 intro d hd e he
 obtain ⟨a,ha,rfl⟩:=yLg.mp hd
 obtain ⟨b,hb,rfl⟩:=yLg.mp he
 exact yLu.mp (yLu.mp h2 a ha) b hb
theorem xUe (h:xHp l=true):Sortable (l.map D.py):=by
 unfold xHp at h
 rw [yLc] at h
 rcases yM1.mp h.2 with z|z
 ·refine .inl fun d hd=> ?_
  obtain ⟨a,ha,rfl⟩:=yLg.mp hd
  have y:=yLu.mp z a ha
  split at y
  ·rename_i u r e
   exact ⟨u,r,e⟩
  ·cases y
 ·refine .inr fun d hd=> ?_
  obtain ⟨a,ha,rfl⟩:=yLg.mp hd
  have y:=yLu.mp z a ha
  refine ⟨fun e=> ?_,fun xs e=> ?_⟩
  ·rw [e] at y
   cases y
  ·rw [e] at y
   cases y
def Std (κ:Ctx)(T:Pd)(G:Hp)(u:Value)(d:D):Prop:= ∃ v,RelV v u/\Rep κ T G d v
theorem xV8: ∀ {ds:List D} {vs:List V} {us:List Value},RepL κ T G ds vs->Vals vs us->EachIs (Std κ T G) us ds
 | [],vs,us,r,h=>by
  rw [show vs=[] from r] at h
  cases h
  exact .nil
 | d::ds,vs,us,r,h=>by
  obtain ⟨v,ws,rfl,r1,r2⟩:=r
  cases h with
  | cons a b=>exact .cons ⟨v,a,r1⟩ (xV8 r2 b)
theorem yFd (h:EachIs (Std κ T G) us ds): ∃ vs,Vals vs us/\RepL κ T G ds vs:=by
 induction h with
 | nil=>exact ⟨[],.nil,rfl⟩
 | cons a b ih=>
  obtain ⟨v,h1,h2⟩:=a
  obtain ⟨vs,h3,h4⟩:=ih
  exact ⟨v::vs,.cons h1 h3,v,vs,rfl,h2,h4⟩
theorem xNh (hK:X.K=κ.K)(I:L2.Inv X pins σ H s)(gh:Same G H)(hp:d.pl n=true)(h:Std κ T G u d): ∃ as,Reads s.heap u d.py as:=by
 obtain ⟨v,h1,h2⟩:=h
 exact Dp.reads I d.py v u (hK ▸ xIk gh d hp h2) h1
def xVn (κ:Ctx):List V->Hp->VK->Prop:=fun xs H Q=> ∃ a vs ds T G,xs=[.ref a]/\SqL κ.K H a vs/\RepL κ T G ds vs/\Same G H/\xHp ds=true/\ ∀ ws p,RepL κ T G (srtD ds) ws->H p=none->Q (.ref p) (upd H p (.lst ws))
theorem yAn (hK:X.K=κ.K)(hu:X.A.units+65<cLine):CallR X (.builtin "sorted") (xVn κ):=by
 rintro pins s σ H xs us Q I r h
 obtain ⟨a,vs,ds,T,G,rfl,hs,hr,gh,hb,q⟩:=h
 obtain ⟨its,rv,hl,hz⟩:=I.list (hK ▸ hs)
 rw [Vals.ref1 r]
 have e:=xV8 hr rv
 have pl:=yAe hb
 have lz:ds.length<=sizeLine:=by rw [<- hr.length];exact hz
 have er:EachIs (fun u d=> ∃ as,Reads s.heap u (D.py d) as) its ds:=by
  have go: ∀ {us:List Value} {l:List D},EachIs (Std κ T G) us l->(∀ d∈l,d.pl 60=true)->EachIs (fun u d=> ∃ as,Reads s.heap u (D.py d) as) us l:=by
   intro us l h
   induction h with
   | nil=>exact fun _=> .nil
   | cons a b ih=>exact fun hp=> .cons (xNh hK I gh (hp _ (yK3 ..)) a) (ih fun d hd=>hp d (yK7 _ hd))
  exact go e fun d hd=>xQs pl hd
 refine sorted_data hl.isList e er (xRw hb) (xUe hb) lz (fun d hd=> ?_) fun out ol ho=> ?_
 ·have:=(xPw d (xQs pl hd)).2
  omega
 ·obtain ⟨ws,w1,w2⟩:=yFd ho
  obtain ⟨ep,he'⟩:=PyProof.Rows.sortedAll_at s.heap its (List.toArray out)
  have wl:ws.length<=sizeLine:=by
   have z:ws.length=(srtD ds).length:=w2.length
   have z2:(srtD ds).length=ds.length:=List.length_mergeSort _
   rw [z,z2]
   exact lz
  exact ⟨.ref _,upd H (s.heap.objs.size+1) (.lst ws),I.laid (t':=s.toks) (fun _ _=>PyProof.Rows.sortedAll_old) (yMv _) ⟨wl,out,ep,w1,he'⟩,rfl,q ws _ w2 (I.hok.fresh (yMv _))⟩
def minB (d e:D):Bool:=d.pl 60&&e.pl 60&&alike d.py d.py&&alike d.py e.py&&alike e.py d.py&&alike e.py e.py&&(match d.py with| .none=>false|_=>true)&&(match e.py with| .none=>false|_=>true)
theorem xZ9 {d e:D}(h:minB d e=true):d.pl 60=true/\e.pl 60=true/\AlikeAll [d.py,e.py]:=by
 unfold minB at h
 obtain ⟨h,h8⟩:=and2 h
 obtain ⟨h,h7⟩:=and2 h
 obtain ⟨h,h6⟩:=and2 h
 obtain ⟨h,h5⟩:=and2 h
 obtain ⟨h,h4⟩:=and2 h
 obtain ⟨h,h3⟩:=and2 h
 obtain ⟨h1,h2⟩:=and2 h
 refine ⟨h1,h2,fun x hx y hy=> ?_,fun x hx=> ?_⟩
 ·rcases inC hx with rfl|hx
  ·rcases inC hy with rfl|hy
   ·exact h3
   ·rw [yLl.mp hy]
    exact h4
  ·rw [yLl.mp hx]
   rcases inC hy with rfl|hy
   ·exact h5
   ·rw [yLl.mp hy]
    exact h6
 ·rcases inC hx with rfl|hx
  ·intro z
   rw [z] at h7
   cases h7
  ·rw [yLl.mp hx]
   intro z
   rw [z] at h8
   cases h8
def xNy (d e:D):D:=if dataLt e.py d.py then e else d
def yB1 (κ:Ctx):List V->Hp->VK->Prop:=fun xs H Q=> ∃ x y d e T G,xs=[x,y]/\Rep κ T G d x/\Rep κ T G e y/\Same G H/\minB d e=true/\Q (if dataLt e.py d.py then y else x) H
theorem xS5 (hK:X.K=κ.K)(hc:X.calm=true)(hu:X.A.units+65<cLine):CallR X (.builtin "min") (yB1 κ):=by
 rintro pins s σ H xs us Q I r h
 obtain ⟨x,y,d,e,T,G,rfl,r1,r2,gh,hb,q⟩:=h
 obtain ⟨u,u',rfl,h1,h2⟩:=vals2 r
 obtain ⟨p1,p2,al⟩:=xZ9 hb
 obtain ⟨as,ra⟩:=xNh hK I gh p1 ⟨x,h1,r1⟩
 obtain ⟨bs,rb⟩:=xNh hK I gh p2 ⟨y,h2,r2⟩
 have d1:=(xPw d p1).2
 have d2:=(xPw e p2).2
 refine Mn.min_pair (I.ok.hd hc) ra rb al ?_ fun h' tk k=>⟨_,H,I.kept k,?_,q⟩
 ·show X.A.units+1+max d.py.depth (max e.py.depth 0)<cLine
  omega
 ·split
  ·exact h2
  ·exact h1
def yFk:List D->Option SD
 | [.lst _ l]=>if xHp l then some (.ow (.lst false (srtD l))) else none
 | _=>none
theorem xZr:xDw κ (xVn κ) yFk:=by
 intro B ρ σ H G ds xs z Q o r hz q
 unfold yFk at hz
 split at hz
 ·rename_i b l
  split at hz
  ·rename_i hb
   cases hz
   obtain ⟨v,ws,rfl,r1,rfl⟩:=r
   obtain ⟨a,vs,rfl,h2,h3,h4⟩:=r1.seqL o.fr.gh
   exact ⟨a,vs,l,B.T,G,rfl,h3,h4,o.fr.gh,hb,fun ws p hw hp=>q _ _ G (o.allocOwn hp) (Same.refl G) (o.newOwn hp ⟨ws,upd_same,hw⟩)⟩
  ·cases hz
 ·cases hz
def xVm:List D->Option SD
 | [d,e]=>if minB d e then some (.va (xNy d e)) else none
 | _=>none
theorem xTx:xDw κ (yB1 κ) xVm:=by
 intro B ρ σ H G ds xs z Q o r hz q
 unfold xVm at hz
 split at hz
 ·rename_i d e
  split at hz
  ·rename_i hb
   cases hz
   obtain ⟨x,ws,rfl,r1,y,w2,rfl,r2,rfl⟩:=r
   refine ⟨x,y,d,e,B.T,G,rfl,r1,r2,o.fr.gh,hb,q _ H G o (Same.refl G) ?_⟩
   show Rep κ B.T G (xNy d e) _
   unfold xNy
   split
   ·exact r2
   ·exact r1
  ·cases hz
 ·cases hz
def maxIs:List Int->Int
 | []=>0
 | x::l=>l.foldl max x
def maxLD:List D->Option SD
 | [.lst _ l]=>match yBr l with
  | some (x::ns)=>some (.va (.int (ns.foldl max x)))
  | _=>none
 | _=>none
end
section
variable {p:SD->Prop}
theorem yDs (h:p (.va (xNy d e)))(g:minB d e=true):Ow (xVm [d,e]) p:=⟨_,if_pos g,h⟩
end
end Fm
namespace Fm
open L2 PySem PySem.Spec PyProof.Rows PySem.W
def xDd:D->Option Key
 | .int i=>some (.inl i)
 | .str s=>some (.inr s)
 | _=>none
def getK (l:List (Key×D))(k:Key):Option D:=(l.find? fun kv=>decide (kv.1=k)).map (·.2)
def xB3 (l:List (Key×D))(k:Key)(d:D):List (Key×D):=
 if (l.any fun kv=>decide (kv.1=k))=true then l.map (fun kv=>if kv.1=k then (kv.1,d) else kv) else l++[(k,d)]
def yC2 (l:List (Key×D))(k:Key):List (Key×D):=l.filter fun kv=>decide (kv.1≠k)
section
variable {κ:Ctx}{T:Pd}{G H:Hp}
theorem xH1 (r:Rep κ T G d v)(h:xDd d=some k):v=kV k:=by
 cases d with
 | int i=>
  cases h
  exact r
 | str s=>
  cases h
  exact r
 | _=>cases h
theorem xCr (p:Key×D)(l:List (Key×D))(k:Key):getK (p::l) k=if p.1=k then some p.2 else getK l k:=by
 unfold getK
 rw [List.find?_cons]
 by_cases h:p.1=k
 ·rw [if_pos h,decide_eq_true h] <;> rfl
 ·rw [if_neg h,decide_eq_false h]
theorem RepK.val: ∀ {l:List (Key×D)} {vs:List (Key×V)} (k:Key),RepK κ T G l vs->(∀ d,getK l k=some d-> ∃ v,valV vs k=some v/\Rep κ T G d v)/\(getK l k).isSome=(valV vs k).isSome
 | [],vs,k,h=>by
  rw [show vs=[] from h]
  exact ⟨(fun d z=>by cases z),rfl⟩
 | (c,d)::l,vs,k,h=>by
  obtain ⟨v,ws,rfl,h1,h2⟩:=h
  obtain ⟨i1,i2⟩:=RepK.val k h2
  rw [xCr]
  by_cases e:c=k
  ·rw [if_pos e,valV_pos (p:=(c,v)) e]
   exact ⟨fun d' z=>by cases z;exact ⟨v,rfl,h1⟩,rfl⟩
  ·rw [if_neg e,valV_neg (p:=(c,v)) e]
   exact ⟨i1,i2⟩
theorem RepK.any: ∀ {l:List (Key×D)} {vs:List (Key×V)} (k:Key),RepK κ T G l vs->(l.any fun kv=>decide (kv.1=k))=vs.any fun kv=>decide (kv.1=k)
 | [],vs,k,h=>by
  rw [show vs=[] from h]
  rfl
 | (c,d)::l,vs,k,h=>by
  obtain ⟨v,ws,rfl,h1,h2⟩:=h
  rw [yM9,yM9,RepK.any k h2]
theorem RepK.append: ∀ {l m:List (Key×D)} {vs ws:List (Key×V)},RepK κ T G l vs->RepK κ T G m ws->RepK κ T G (l++m) (vs++ws)
 | [],m,vs,ws,h,k=>by rw [show vs=[] from h];exact k
 | (c,d)::l,m,vs,ws,h,k=>by
  obtain ⟨v,us,h1,h2,h3⟩:=h
  rw [h1]
  exact ⟨v,us++ws,rfl,h2,h3.append k⟩
theorem RepK.put (k:Key)(h:RepK κ T G l vs)(r:Rep κ T G d v):RepK κ T G (xB3 l k d) (putK vs k v):=by
 have go: ∀ {l:List (Key×D)} {vs:List (Key×V)},RepK κ T G l vs->RepK κ T G (l.map fun kv=>if kv.1=k then (kv.1,d) else kv) (vs.map fun kv=>if kv.1=k then (kv.1,v) else kv):=by
  intro l
  induction l with
  | nil=>
   intro vs h
   rw [show vs=[] from h]
   exact rfl
  | cons p l ih=>
   intro vs h
   obtain ⟨c,e⟩:=p
   obtain ⟨w,ws,rfl,h1,h2⟩:=h
   rw [yLx]
   rw [yLx]
   by_cases z:c=k
   ·rw [if_pos z,if_pos z]
    exact ⟨v,_,rfl,r,ih h2⟩
   ·rw [if_neg z,if_neg z]
    exact ⟨w,_,rfl,h1,ih h2⟩
 unfold xB3 putK
 rw [h.any k]
 split
 ·exact go h
 ·exact h.append ⟨v,[],rfl,r,rfl⟩
theorem RepK.keys: ∀ {l:List (Key×D)} {vs:List (Key×V)},RepK κ T G l vs->vs.map (·.1)=l.map (·.1)
 | [],vs,h=>by rw [show vs=[] from h] <;> rfl
 | (c,d)::l,vs,h=>by
  obtain ⟨w,ws,rfl,h1,h2⟩:=h
  rw [yLx,yLx,h2.keys]
theorem RepK.length (h:RepK κ T G l vs):vs.length=l.length:=by
 have e:=congrArg yMu h.keys
 repeat rw [yK2] at e
 exact e
theorem Rep.dkR (s:Same G H)(h:Rep κ T G (.dk b l) v): ∃ a vs,v= .ref a/\Rd H a (.dK vs)/\RepK κ T G l vs:=by
 obtain ⟨a,vs,rfl,⟨h1,_⟩,h2⟩:=h
 exact ⟨a,vs,rfl,Rd.mono s h1.rd,h2⟩
end
def ix3D (d k:D):Option SD:=match d with
 | .dk _ l=>(xDd k).bind fun k=>(getK l k).map SD.va
 | d=>ixD d k
abbrev rIx3 (K:PySem.W.Frag):R2:=fun x y H Q=>rIx K x y H Q\/ ∃ a v,x= .ref a/\DGet H a y (some v)/\Q v H
section
variable {κ:Ctx}{X:Cx}
theorem yGt (hu:X.A.units+1<cLine):IxR X (fun x y H Q=> ∃ a v,x= .ref a/\DGet H a y (some v)/\Q v H):=by
 rintro value slice pins s σ H x y v u Q I rx ry h hs
 obtain ⟨a,z,rfl,g,q⟩:=h
 obtain rfl:v= .ref a:=rx
 exact tail_any (dict_typeIs I g) PySem.F.slot_dict_getitem.lookup (d_getItem hu I g ry fun w' s3 I3 rw'=>⟨z,H,I3,rw',q⟩) hs
theorem ix_3 (hu:X.A.units+1<cLine):IxR X (rIx3 X.K):=ix_seq.or (yGt hu)
theorem yCd:OpD κ (rIx3 κ.K) ix3D:=by
 intro B ρ σ H G d e x y z Q o r1 r2 hz q
 cases d with
 | dk b l=>
  obtain ⟨k,hk,hz⟩:=yLj.mp hz
  obtain ⟨c,hc,rfl⟩:=yK4.mp hz
  obtain ⟨a,vs,rfl,h1,h2⟩:=r1.dkR o.fr.gh
  obtain ⟨v,hv,rv⟩:=(h2.val k).1 c hc
  refine .inr ⟨a,v,rfl,?_,q v H G o (Same.refl G) rv⟩
  rw [xH1 r2 hk,<- hv]
  exact .inl ⟨vs,k,h1,rfl,rfl⟩
 | _=>exact .inl (od_ix B ρ σ H G _ e x y z Q o r1 r2 hz q)
def at3S (i:Nat)(e:D):M SD:=fun ρ=>match ρ[i]? with
 | some (.va d)=>match ix3D d e with
  | some z=> .ok z ρ
  | none=> .no
 | some (.ow (.lst b l))=>match ixD (.lst b l) e with
  | some z=> .ok z ρ
  | none=> .no
 | some (.ow (.dk _ l))=>match (xDd e).bind (getK l) with
  | some d=> .ok (.va d) ρ
  | none=> .no
 | _=> .no
def xAw (i:Nat)(m:M SD):M SD:=xCv i ((fE m).bind (at3S i))
variable {W:WX}{σ:L2.St}{H:Hp}{Q:VK}
theorem yEv (h:tE κ W (xAw i m) σ H Q):tOp (rIx3 κ.K) (tVar i) (tE κ W m) σ H Q:=by
 obtain ⟨B,ρ,G,o,q⟩:=h
 obtain ⟨⟨v,hv⟩,q⟩:=xZ7 o q
 refine ⟨v,hv,xB1 o (Pst.bind q) fun e ρ1 H1 G1 o1 s1 q1 y r1=> ?_⟩
 unfold at3S at q1
 cases h1:ρ1[i]? with
 | none=>
  rw [h1] at q1
  exact q1.elim
 | some x=>
  rw [h1] at q1
  cases x with
  | un=>exact q1.elim
  | va d=>
   dsimp only at q1
   obtain ⟨w',e1,e2⟩:=o1.val i d h1
   rw [hv] at e1
   cases e1
   cases hz:ix3D d e with
   | none=>
    rw [hz] at q1
    exact q1.elim
   | some z=>
    rw [hz] at q1
    exact yCd B ρ1 σ H1 G1 d e _ _ z Q o1 e2 r1 hz fun v' H' G' o' s' rv=>q1 H' G' o' s' v' rv
  | ow d=>
   obtain ⟨p,e1,e2,e3,e4⟩:=o1.own i d h1
   rw [hv] at e1
   cases e1
   cases d with
   | lst b l=>
    dsimp only at q1
    cases hz:ixD (.lst b l) e with
    | none=>
     rw [hz] at q1
     exact q1.elim
    | some z=>
     rw [hz] at q1
     cases e with
     | int j=>
      obtain ⟨c,h2,rfl⟩:=yK4.mp (show (atI l j).map SD.va=some z from hz)
      obtain ⟨vs,h3,h4⟩:=e4
      obtain ⟨v',h5,h6⟩:=xQr h4 h2
      exact .inl (.inl ⟨p,vs,j,v',rfl,r1,SqL.of h3,h5,q1 H1 G1 o1 (Same.refl G1) v' h6⟩)
     | _=>cases hz
   | dk b l=>
    dsimp only at q1
    cases hz:(xDd e).bind (getK l) with
    | none=>
     rw [hz] at q1
     exact q1.elim
    | some c=>
     rw [hz] at q1
     obtain ⟨k,hk,hc⟩:=yLj.mp hz
     obtain ⟨vs,h3,h4⟩:=e4
     obtain ⟨v',hv',rv⟩:=(h4.val k).1 c hc
     refine .inr ⟨p,v',rfl,?_,q1 H1 G1 o1 (Same.refl G1) v' rv⟩
     rw [xH1 r1 hk,<- hv']
     exact DGet.k h3
   | _=>exact q1.elim
theorem xY7 (hK:X.K=κ.K)(hu:X.A.units+65<cLine)(h:PE X (.Name x p) (tVar i))(hb:PE X b (tE κ W m))(hs:PlainIx b):PE X (.Subscript (.Name x p) b pos) (tE κ W (xAw i m)):=
 PE.imp (pe_ix (ix_3 (by omega)) h hb hs) fun _ _ _ q=>by
  rw [hK]
  exact yEv q
theorem xP6 (hK:X.K=κ.K)(hu:X.A.units+65<cLine)(h:PE X a (tE κ W ma))(hb:PE X b (tE κ W mb))(hs:PlainIx b):PE X (.Subscript a b pos) (tE κ W (mOp ix3D ma mb)):=
 PE.imp (pe_ix (ix_3 (by omega)) h hb hs) fun _ _ _ q=>yAp (hK ▸ yCd) q
end
def xFr:D->Bool
 | .non=>true
 | .bl _=>true
 | .int _=>true
 | .str _=>true
 | _=>false
def eqF:D->D->Bool
 | .non,.non=>true
 | .bl a,.bl b=>a==b
 | .bl p,.int q=>(if p then 1 else 0)==q
 | .int p,.bl q=>p==(if q then 1 else 0)
 | .int a,.int b=>a==b
 | .str a,.str b=>a==b
 | _,_=>false
def in3B (d e:D):Option Bool:=match e with
 | .dk _ l=>(xDd d).map fun k=>(getK l k).isSome
 | .tup l=>if xFr d&&l.all xFr then some (l.any fun y=>eqF y d) else none
 | e=>inB d e
def in3D (d e:D):Option SD:=(in3B d e).map fun b=> .va (.bl b)
def xUq (d e:D):Option SD:=(in3B d e).map fun b=> .va (.bl (!b))
abbrev rIn3 (K:PySem.W.Frag):R2:=fun x y H Q=>rIn2 K x y H Q\/rIn K false x y H Q\/ ∃ a o,y= .ref a/\DGet H a x o/\Q (.bl o.isSome) H
abbrev yJ0 (K:PySem.W.Frag):R2:=fun x y H Q=>yFg K x y H Q\/rIn K true x y H Q\/ ∃ a o,y= .ref a/\DGet H a x o/\Q (.bl (!o.isSome)) H
section
variable {κ:Ctx}{X:Cx}
theorem yEz (hu:X.A.units+1<cLine):OpR X (compareOp .In) (fun x y H Q=> ∃ a o,y= .ref a/\DGet H a x o/\Q (.bl o.isSome) H):=by
 rintro pins s σ H x y v u Q I rx ry h
 obtain ⟨a,o,rfl,g,q⟩:=h
 obtain rfl:u= .ref a:=ry
 exact d_in hu I g rx fun s3 I3=>⟨.bl o.isSome,H,I3,rfl,q⟩
theorem yAu (hu:X.A.units+1<cLine):OpR X (compareOp .NotIn) (fun x y H Q=> ∃ a o,y= .ref a/\DGet H a x o/\Q (.bl (!o.isSome)) H):=by
 rintro pins s σ H x y v u Q I rx ry h
 obtain ⟨a,o,rfl,g,q⟩:=h
 obtain rfl:u= .ref a:=ry
 exact d_notIn hu I g rx fun s3 I3=>⟨.bl (!o.isSome),H,I3,rfl,q⟩
theorem xSd (hu:X.A.units+65<cLine):OpR X (compareOp .In) (rIn3 X.K):=(yI2 hu).or (op_in_seq.or (yEz (by omega)))
theorem xYp (hu:X.A.units+65<cLine):OpR X (compareOp .NotIn) (yJ0 X.K):=(yFp hu).or (op_notIn_seq.or (yAu (by omega)))
theorem xR6 (h:xFr d=true)(r:Rep κ T G d v):flatV v=true:=by
 cases d with
 | non=>cases (show v=V.non from r);rfl
 | bl b=>cases (show v=V.bl b from r);rfl
 | int b=>cases (show v=V.int b from r);rfl
 | str b=>cases (show v=V.str b from r);rfl
 | _=>cases h
theorem yD4 (h:xFr d=true)(g:xFr e=true)(r:Rep κ T G d v)(q:Rep κ T G e w):eqV v w=eqF d e:=by
 cases d with
 | non=>
  cases (show v=V.non from r)
  cases e with
  | non=>cases (show w=V.non from q);rfl
  | bl b=>cases (show w=V.bl b from q);rfl
  | int b=>cases (show w=V.int b from q);rfl
  | str b=>cases (show w=V.str b from q);rfl
  | _=>cases g
 | bl b=>
  cases (show v=V.bl b from r)
  cases e with
  | non=>cases (show w=V.non from q);rfl
  | bl b=>cases (show w=V.bl b from q);rfl
  | int b=>cases (show w=V.int b from q);rfl
  | str b=>cases (show w=V.str b from q);rfl
  | _=>cases g
 | int b=>
  cases (show v=V.int b from r)
  cases e with
  | non=>cases (show w=V.non from q);rfl
  | bl b=>cases (show w=V.bl b from q);rfl
  | int b=>cases (show w=V.int b from q);rfl
  | str b=>cases (show w=V.str b from q);rfl
  | _=>cases g
 | str b=>
  cases (show v=V.str b from r)
  cases e with
  | non=>cases (show w=V.non from q);rfl
  | bl b=>cases (show w=V.bl b from q);rfl
  | int b=>cases (show w=V.int b from q);rfl
  | str b=>cases (show w=V.str b from q);rfl
  | _=>cases g
 | _=>cases h
theorem xPa (h:xFr d=true)(r:Rep κ T G d v): ∀ {l:List D} {vs:List V},l.all xFr=true->RepL κ T G l vs->vs.all flatV=true/\inV v vs=l.any fun y=>eqF y d
 | [],vs,_,q=>by
  rw [show vs=[] from q]
  exact ⟨rfl,rfl⟩
 | e::l,vs,g,q=>by
  obtain ⟨w,ws,rfl,q1,q2⟩:=q
  rw [yMp,yLc] at g
  obtain ⟨i1,i2⟩:=xPa h r g.2 q2
  refine ⟨by rw [yMp,xR6 g.1 q1,i1] <;> rfl,?_⟩
  show (eqV w v || inV v ws)=_
  rw [yM9,i2,yD4 g.1 h q1 r]
theorem xOn (o:Ok κ B ρ σ H G)(r1:Rep κ B.T G d x)(r2:Rep κ B.T G e y)(hb:in3B d e=some b):
  inB d e=some b\/(∃ p xs,y= .ref p/\(SqL κ.K H p xs\/SqT κ.K H p xs)/\flatV x=true/\xs.all flatV=true/\b=inV x xs)\/ ∃ a ov,y= .ref a/\DGet H a x ov/\b=ov.isSome:=by
 cases e with
 | dk c l=>
  obtain ⟨k,hk,rfl⟩:=yK4.mp hb
  obtain ⟨a,vs,rfl,h1,h2⟩:=r2.dkR o.fr.gh
  refine .inr (.inr ⟨a,valV vs k,rfl,?_,(h2.val k).2⟩)
  rw [xH1 r1 hk]
  exact .inl ⟨vs,k,h1,rfl,rfl⟩
 | tup l=>
  have hb:(if xFr d&&l.all xFr then some (l.any fun y=>eqF y d) else none)=some b:=hb
  split at hb
  ·rename_i c
   cases hb
   rw [yLc] at c
   obtain ⟨a,vs,rfl,h1,h2⟩:=r2
   obtain ⟨f1,f2⟩:=xPa c.1 r1 c.2 h2
   exact .inr (.inl ⟨a,vs,rfl,.inr (h1.sq o.fr.gh),xR6 c.1 r1,f1,f2.symm⟩)
  ·cases hb
 | _=>exact .inl hb
theorem xTu:OpD κ (rIn3 κ.K) in3D:=by
 intro B ρ σ H G d e x y z Q o r1 r2 hz q
 obtain ⟨b,hb,rfl⟩:=yK4.mp hz
 have fin:=q (.bl b) H G o (Same.refl G) rfl
 rcases xOn o r1 r2 hb with h|⟨p,xs,rfl,h1,h2,h3,rfl⟩|⟨a,ov,rfl,g,rfl⟩
 ·exact .inl (od_in B ρ σ H G d e x y _ Q o r1 r2 (by unfold inD;rw [h] <;> rfl) q)
 ·exact .inr (.inl ⟨p,xs,rfl,h1,h2,h3,fin⟩)
 ·exact .inr (.inr ⟨a,ov,rfl,g,fin⟩)
theorem xVr:OpD κ (yJ0 κ.K) xUq:=by
 intro B ρ σ H G d e x y z Q o r1 r2 hz q
 obtain ⟨b,hb,rfl⟩:=yK4.mp hz
 have fin:=q (.bl (!b)) H G o (Same.refl G) rfl
 rcases xOn o r1 r2 hb with h|⟨p,xs,rfl,h1,h2,h3,rfl⟩|⟨a,ov,rfl,g,rfl⟩
 ·exact .inl (yJh B ρ σ H G d e x y _ Q o r1 r2 (by unfold ninD;rw [h] <;> rfl) q)
 ·exact .inr (.inl ⟨p,xs,rfl,h1,h2,h3,fin⟩)
 ·exact .inr (.inr ⟨a,ov,rfl,g,fin⟩)
end
def xNn:M SD:=M.ret (.ow (.dk false []))
def yBo (i:Nat)(v k:D):S:=fun ρ=>match ρ[i]? with
 | some (.ow (.lst b l))=>match k with
  | .int j=>match ixN l.length j with
   | some n=> .ok .nx (ρ.set i (.ow (.lst b (l.set n v))))
   | none=> .no
  | _=> .no
 | some (.ow (.dk b l))=>match xDd k with
  | some j=>if l.length<1000000 then .ok .nx (ρ.set i (.ow (.dk b (xB3 l j v)))) else .no
  | none=> .no
 | _=> .no
def xHo (i:Nat)(mk me:M SD):S:=(fE me).bind fun v=>xCv i ((fE mk).bind fun k=>yBo i v k)
def xC0:List D->Option SD
 | [.dk _ l]=>some (.va (.int l.length))
 | l=>lenD l
def yEc:List D->Option SD
 | [.dk _ l]=>some (.ow (.dk false l))
 | _=>none
def xDk:List (Key×D)->Option (List Str)
 | []=>some []
 | (.inr s,_)::l=>(xDk l).map (s:: ·)
 | (.inl _,_)::_=>none
def ssort (l:List Str):List Str:=l.mergeSort fun a b=>decide (a.cps.toList<=b.cps.toList)
def xEk:List D->Option SD
 | [.dk _ l]=>(xDk l).bind fun ks=>if ks.length<64 then some (.ow (.lst false ((ssort ks).map D.str))) else none
 | l=>yFk l
section
variable {κ:Ctx}{X:Cx}{W:WX}{A:List Nat}
theorem xJ5:PE X (.Dict [] [] pos) (tE κ W xNn):=PE.imp pe_dnewK fun σ H Q ⟨B,ρ,G,o,q⟩ p hp=>q _ G (o.allocOwn hp) (Same.refl G) _ (o.newOwn hp ⟨[],upd_same,rfl⟩)
abbrev rSet3:TSet:=fun o i v H Q=>rSetL o i v H Q\/rSetD o i v H Q
theorem yKz (hu:X.A.units+1<cLine):PSet X rSet3:=by
 rintro pins s σ H o i v ov iv u Q I ro ri rv h
 rcases h with h|h
 ·exact set_list pins s σ H o i v ov iv u Q I ro ri rv h
 ·exact set_dict hu pins s σ H o i v ov iv u Q I ro ri rv h
theorem xHi (hu:X.A.units+65<cLine)(h:PE X (.Name x p) (tVar i))(hk:PE X k (tE κ W mk))(he:PE X e (tE κ W me))
  (ha: ∀ v,assign (.Subscript (.Name x p) k p2) X.env v=(do
   let ov <- holding [v] (eval (.Name x p) X.env)
   let iv <- holding [v,ov] (eval k X.env)
   standAt p2;holding [v,ov,iv] (setItem ov iv v);release [v,ov,iv] []):=by intro _;rfl)
  (hs:swapsWithSole [.Subscript (.Name x p) k p2] e pos.line X.env=pure false:=by rfl) (hw:swappedStores [.Subscript (.Name x p) k p2] e X.env=pure none:=by rfl)
  (h1:(assignEach [.Subscript (.Name x p) k p2] X.env).map (·.2)=[assign (.Subscript (.Name x p) k p2) X.env]:=by rfl):PS X (.Assign [.Subscript (.Name x p) k p2] e pos) (tS κ A W (xHo i mk me)):=by
 refine PS.imp (ps_asg he (pg_sub h hk (yKz (by omega)) ha) hs hw h1) fun D σ H ⟨B,ρ,G,a,o,q⟩=> ?_
 refine xB1 o (PstS.bind q) fun v ρ1 H1 G1 o1 s1 q1 v1 r1=> ?_
 obtain ⟨⟨u,hu⟩,q1⟩:=xW7 o1 q1
 refine ⟨u,hu,xB1 o1 (PstS.bind q1) fun k ρ2 H2 G2 o2 s2 q2 v2 r2=> ?_⟩
 unfold yBo at q2
 cases h2:ρ2[i]? with
 | none=>
  rw [h2] at q2
  exact q2.elim
 | some x=>
  rw [h2] at q2
  cases x with
  | un=>exact q2.elim
  | va d=>exact q2.elim
  | ow d=>
   cases d with
   | lst b l=>
    cases k with
    | int j=>
     dsimp only at q2
     cases hj:ixN l.length j with
     | none=>
      rw [hj] at q2
      exact q2.elim
     | some n=>
      rw [hj] at q2
      obtain ⟨p,e1,e2,e3,vs,e4,e5⟩:=o2.own i _ h2
      rw [hu] at e1
      cases e1
      refine .inl ⟨p,vs,j,n,rfl,r2,e4,by rw [e5.length];exact hj,?_⟩
      refine q2 σ _ G2 (o2.write h2 hu (fun ps z=>by cases z) ⟨_,upd_same,e5.set n (Rep.mono (.of s2) v r1)⟩) (Same.refl G2)
    | _=>exact q2.elim
   | dk b l=>
    dsimp only at q2
    cases hj:xDd k with
    | none=>
     rw [hj] at q2
     exact q2.elim
    | some j=>
     rw [hj] at q2
     dsimp only at q2
     by_cases hl:l.length<1000000
     ·rw [if_pos hl] at q2
      obtain ⟨p,e1,e2,e3,vs,e4,e5⟩:=o2.own i _ h2
      rw [hu] at e1
      cases e1
      refine .inr ⟨p,upd H2 p (.dK (putK vs j v1)),rfl,?_,?_⟩
      ·rw [xH1 r2 hj]
       exact DPut.k e4 (by rw [e5.length,sizeLine_eq];omega)
      ·exact q2 σ _ G2 (o2.write h2 hu (fun ps z=>by cases z) ⟨_,upd_same,e5.put j (Rep.mono (.of s2) v r1)⟩) (Same.refl G2)
     ·rw [if_neg hl] at q2
      exact q2.elim
   | _=>exact q2.elim
abbrev yI9 (K:PySem.W.Frag):List V->Hp->VK->Prop:=fun xs H Q=>(∃ x n,xs=[x]/\LenV K x H n/\Q (.int n) H)\/ ∃ a kvs,xs=[V.ref a]/\Rd H a (.dK kvs)/\Q (.int kvs.length) H
theorem xY6:CallR X (.builtin "len") (fun xs H Q=> ∃ a kvs,xs=[V.ref a]/\Rd H a (.dK kvs)/\Q (.int kvs.length) H):=by
 rintro pins s σ H xs us Q I r h
 obtain ⟨a,kvs,rfl,ha,q⟩:=(h)
 obtain ⟨u,rfl,ru⟩:=(vals1 r)
 cases ru
 exact d_len I ha fun t s' I'=>⟨.int kvs.length,H,I',⟨t,rfl⟩,q⟩
theorem xBb:CallR X (.builtin "len") (yI9 X.K):=by
 rintro pins s σ H xs us Q I r q
 rcases q with q|q
 ·exact call_len pins s σ H xs us Q I r q
 ·exact xY6 pins s σ H xs us Q I r q
theorem xBx:xDw κ (yI9 κ.K) xC0:=by
 intro B ρ σ H G ds xs z Q o r hz q
 unfold xC0 at hz
 split at hz
 ·rename_i b l
  cases hz
  obtain ⟨v,ws,rfl,r1,rfl⟩:=r
  obtain ⟨a,vs,rfl,h1,h2⟩:=r1.dkR o.fr.gh
  refine .inr ⟨a,vs,rfl,h1,?_⟩
  rw [h2.length]
  exact q _ H G o (Same.refl G) rfl
 ·exact .inl (yIx B ρ σ H G ds xs z Q o r hz q)
theorem yHb:xDw κ (fun xs H Q=> ∃ (a:Addr) (kvs:List (Key×V)),xs=[.ref a]/\Rd H a (.dK kvs)/\ ∀ p,H p=none->Q (.ref p) (upd H p (.dK kvs))) yEc:=by
 intro B ρ σ H G ds xs z Q o r hz q
 unfold yEc at hz
 split at hz
 ·rename_i b l
  cases hz
  obtain ⟨v,ws,rfl,r1,rfl⟩:=r
  obtain ⟨a,vs,rfl,h1,h2⟩:=r1.dkR o.fr.gh
  exact ⟨a,vs,rfl,h1,fun p hp=>q _ _ G (o.allocOwn hp) (Same.refl G) (o.newOwn hp ⟨vs,upd_same,h2⟩)⟩
 ·cases hz
theorem xSk: ∀ {l:List (Key×D)} {ks:List Str},xDk l=some ks->l.map (·.1)=ks.map Sum.inr
 | [],ks,h=>by cases h;rfl
 | (.inr s,d)::l,ks,h=>by
  obtain ⟨ms,h1,rfl⟩:=yK4.mp (show (xDk l).map (s:: ·)=some ks from h)
  rw [yLx,yLx,xSk h1]
 | (.inl _,d)::l,ks,h=>by cases h
end
theorem xPo (a b:List Nat):a<=b\/b<=a:=List.le_total a b
theorem xDm (l:List Str):(ssort l).Perm l:=List.mergeSort_perm ..
theorem xKe (l:List Str):(ssort l).Pairwise fun a b=>a.cps.toList<=b.cps.toList:=by
 have h:=List.pairwise_mergeSort (le:=fun a b:Str=>decide (a.cps.toList<=b.cps.toList)) (fun a b c h1 h2=>by
  simp only [decide_eq_true_eq] at h1 h2 ⊢
  exact List.le_trans h1 h2) (fun a b=>by
  rcases xPo a.cps.toList b.cps.toList with h|h
  ·simp [h]
  ·simp [h]) l
 exact h.imp fun {a b} z=>of_decide_eq_true z
theorem yIu {a b:Str}(h:a.cps.toList=b.cps.toList):a=b:=by
 obtain ⟨a⟩:=a
 obtain ⟨b⟩:=b
 exact congrArg Str.mk (Array.toList_inj.mp h)
theorem xUd {l m:List Str}(p:l.Perm m)(h1:l.Pairwise fun a b=>a.cps.toList<=b.cps.toList)(h2:m.Pairwise fun a b=>a.cps.toList<=b.cps.toList):l=m:=
 yM5.eq_of_pairwise (fun a b _ _ h1 h2=>yIu (List.le_antisymm h1 h2)) h1 h2 p
theorem xJu: ∀ {l:List Str} {p:Str},risingS p l=true->(p::l).Pairwise fun a b=>a.cps.toList<=b.cps.toList
 | [],p,_=>List.pairwise_singleton ..
 | x::l,p,h=>by
  have h':(!ltCps x.cps.toList p.cps.toList&&risingS x l)=true:=h
  rw [yLc,yL3,ltCps_eq] at h'
  obtain ⟨h1,h2⟩:=h'
  have h1:p.cps.toList<=x.cps.toList:=List.not_lt.mp (of_decide_eq_false h1)
  have ih:=xJu h2
  refine List.pairwise_cons.mpr ⟨fun y hy=> ?_,ih⟩
  rcases inC hy with rfl|hy
  ·exact h1
  ·exact List.le_trans h1 ((List.pairwise_cons.mp ih).1 y hy)
theorem xOz: ∀ {l:List Str},sortedS l=true->l.Pairwise fun a b=>a.cps.toList<=b.cps.toList
 | [],_=> .nil
 | x::l,h=>xJu h
section
variable {κ:Ctx}{X:Cx}
abbrev yCk (κ:Ctx):List V->Hp->VK->Prop:=fun xs H Q=>xVn κ xs H Q\/ ∃ (a:Addr) (kvs:List (Key×V)) (ks:List Str),xs=[.ref a]/\Rd H a (.dK kvs)/\kvs.map (·.1)=ks.map Sum.inr/\ks.length<64/\ ∀ ys p,ys.Perm ks->sortedS ys=true->H p=none->Q (.ref p) (upd H p (.lst (ys.map V.str)))
theorem xD3 (hK:X.K=κ.K)(hc:X.calm=true)(hu:X.A.units+65<cLine):CallR X (.builtin "sorted") (yCk κ):=by
 rintro pins s σ H xs us Q I r q
 rcases q with q|q
 ·exact yAn hK hu pins s σ H xs us Q I r q
 ·exact call_sortedD hc pins s σ H xs us Q I r q
theorem xSf: ∀ l:List Str,RepL κ T G (l.map D.str) (l.map V.str)
 | []=>rfl
 | s::l=>⟨.str s,_,rfl,rfl,xSf l⟩
theorem xD6:xDw κ (yCk κ) xEk:=by
 intro B ρ σ H G ds xs z Q o r hz q
 unfold xEk at hz
 split at hz
 ·rename_i b l
  obtain ⟨ks,h1,hz⟩:=yLj.mp hz
  split at hz
  ·rename_i hl
   cases hz
   obtain ⟨v,ws,rfl,r1,rfl⟩:=r
   obtain ⟨a,vs,rfl,h2,h3⟩:=r1.dkR o.fr.gh
   refine .inr ⟨a,vs,ks,rfl,h2,by rw [h3.keys,xSk h1],hl,fun ys p hy hs hp=> ?_⟩
   rw [xUd (hy.trans (xDm ks).symm) (xOz hs) (xKe ks)]
   exact q _ _ G (o.allocOwn hp) (Same.refl G) (o.newOwn hp ⟨_,upd_same,xSf _⟩)
  ·cases hz
 ·exact .inl (xZr B ρ σ H G ds xs z Q o r hz q)
end
section
variable {ρ:List SD}{E:Exn->List SD->Prop}{p:SD->List SD->Prop}{s:Fl->List SD->Prop}{q:SD->Prop}
theorem yDa (h:p (.ow (.dk false [])) ρ):Wp xNn ρ p E:=⟨h⟩
theorem xZa (e:ρ[i]? =some (.va d0))(h:Wp (fE m) ρ (fun k ρ'=> ∃ d,ρ'[i]? =some (.va d)/\Ow (ix3D d k) fun z=>p z ρ') E):Wp (xAw i m) ρ p E:=by
 have g:xGu ρ[i]? =true:=by
  rw [e]
  rfl
 show Wp (xCv i ((fE m).bind (at3S i))) ρ p E
 refine ⟨?_⟩
 unfold xCv
 rw [if_pos g]
 refine Wp.run (E:=E) (p:=p) ?_
 refine xAk (p:=p) (h.mono (fun k ρ' h=> ?_) fun _ _ z=>z)
 obtain ⟨d,e1,z,e2,h⟩:=h
 refine ⟨?_⟩
 unfold at3S
 simp only [e1,e2]
 exact h
theorem xXa (e:ρ[i]? =some (.ow (.lst b0 l0)))(h:Wp (fE m) ρ (fun k ρ'=> ∃ b l,ρ'[i]? =some (.ow (.lst b l))/\Ow (ix3D (.lst b l) k) fun z=>p z ρ') E):Wp (xAw i m) ρ p E:=by
 have g:xGu ρ[i]? =true:=by
  rw [e]
  rfl
 show Wp (xCv i ((fE m).bind (at3S i))) ρ p E
 refine ⟨?_⟩
 unfold xCv
 rw [if_pos g]
 refine Wp.run (E:=E) (p:=p) ?_
 refine xAk (p:=p) (h.mono (fun k ρ' h=> ?_) fun _ _ z=>z)
 obtain ⟨b,l,e1,z,e2,h⟩:=h
 refine ⟨?_⟩
 unfold at3S
 have e2:ixD (.lst b l) k=some z:=e2
 simp only [e1,e2]
 exact h
theorem xXb (h:Wp (fE me) ρ (fun v ρ1=>xGu ρ1[i]? =true/\Wp (fE mk) ρ1 (fun k ρ2=> ∃ b l j n,ρ2[i]? =some (.ow (.lst b l))/\k= .int j/\ixN l.length j=some n/\s .nx (ρ2.set i (.ow (.lst b (l.set n v))))) E) E):Wp (xHo i mk me) ρ s E:=xAk (h.mono (fun v ρ1 h=>by
 refine ⟨?_⟩
 unfold xCv
 rw [if_pos h.1]
 refine Wp.run (E:=E) (p:=s) ?_
 refine xAk (p:=s) (h.2.mono (fun k ρ2 h=> ?_) fun _ _ z=>z)
 obtain ⟨b,l,j,n,e1,rfl,e2,h⟩:=h
 refine ⟨?_⟩
 unfold yBo
 simp only [e1,e2]
 exact h) fun _ _ z=>z)
theorem xWa (h:Wp (fE me) ρ (fun v ρ1=>xGu ρ1[i]? =true/\Wp (fE mk) ρ1 (fun k ρ2=> ∃ b l j,ρ2[i]? =some (.ow (.dk b l))/\xDd k=some j/\l.length<1000000/\s .nx (ρ2.set i (.ow (.dk b (xB3 l j v))))) E) E):Wp (xHo i mk me) ρ s E:=xAk (h.mono (fun v ρ1 h=>by
 refine ⟨?_⟩
 unfold xCv
 rw [if_pos h.1]
 refine Wp.run (E:=E) (p:=s) ?_
 refine xAk (p:=s) (h.2.mono (fun k ρ2 h=> ?_) fun _ _ z=>z)
 obtain ⟨b,l,j,e1,e2,hl,h⟩:=h
 refine ⟨?_⟩
 unfold yBo
 simp only [e1,e2,if_pos hl]
 exact h) fun _ _ z=>z)
theorem xOt (e:(xDd k).bind (getK l)=some d)(h:q (.va d)):Ow (ix3D (.dk b l) k) q:=⟨.va d,by
 show (xDd k).bind (fun k=>(getK l k).map SD.va)=_
 obtain ⟨j,e1,e2⟩:=yLj.mp e
 rw [e1]
 show (getK l j).map SD.va=_
 rw [e2]
 rfl,h⟩
theorem xF4 (e:atI l a=some d)(h:q (.va d)):Ow (ix3D (.tup l) (.int a)) q:=yEt e h
theorem xDx (e:atI l a=some d)(h:q (.va d)):Ow (ix3D (.lst c l) (.int a)) q:=yEf (c:=c) e h
theorem yCy (h:q (.va (.str ⟨#[c]⟩)))(e:atI a.cps.toList i=some c)(g:a.length<=1000000):Ow (ix3D (.str a) (.int i)) q:=xWs h e g
theorem yHp (e:xDd d=some k)(h:q (.va (.bl (getK l k).isSome))):Ow (in3D d (.dk b l)) q:=⟨_,by
 unfold in3D in3B
 dsimp only
 rw [e]
 rfl,h⟩
theorem yGa (e:xDd d=some k)(h:q (.va (.bl (!(getK l k).isSome)))):Ow (xUq d (.dk b l)) q:=⟨_,by
 unfold xUq in3B
 dsimp only
 rw [e]
 rfl,h⟩
theorem yCi (h:q (.va (.bl (decide (c∈a.cps.toList))))):Ow (in3D (.str ⟨#[c]⟩) (.str a)) q:=yG6 h
theorem xYa (h:q (.va (.bl (!decide (c∈a.cps.toList))))):Ow (xUq (.str ⟨#[c]⟩) (.str a)) q:=xWk h
theorem yEs (g:(d.pl 60&&(D.lst false l).pl 60)=true):in3B d (.lst x l)=some (l.any fun e=>peq e d):=by
 cases d <;> exact if_pos g
theorem yCg (h:q (.va (.bl (l.any fun e=>peq e d))))(g:(d.pl 60&&(D.lst false l).pl 60)=true):Ow (in3D d (.lst x l)) q:=⟨_,by
 unfold in3D
 rw [yEs g]
 rfl,h⟩
theorem xV9 (h:q (.va (.int l.length))):Ow (xC0 [.dk b l]) q:=⟨_,rfl,h⟩
theorem xYs (h:q (.va (.int l.length))):Ow (xC0 [.tup l]) q:=⟨_,rfl,h⟩
theorem xX9 (h:q (.va (.int l.length))):Ow (xC0 [.lst b l]) q:=⟨_,rfl,h⟩
theorem xWz (h:q (.va (.int a.length)))(g:a.length<=1000000):Ow (xC0 [.str a]) q:=⟨_,if_pos g,h⟩
theorem xG2 (e:xDk l=some ks)(g:ks.length<64)(h:q (.ow (.lst false ((ssort ks).map D.str)))):Ow (xEk [.dk b l]) q:=⟨_,by
 unfold xEk
 dsimp only
 rw [e]
 exact if_pos g,h⟩
theorem xMn (h:q (.ow (.lst false (srtD l))))(g:xHp l=true):Ow (xEk [.lst b l]) q:=⟨_,if_pos g,h⟩
end
end Fm
namespace Fm
open L2 PySem PySem.Spec PyProof.Rows
def plus (G N:Hp):Hp:=fun a=>match N a with
 | some o=>some o
 | none=>G a
def less_ (G N:Hp):Hp:=fun a=>match N a with
 | some _=>none
 | none=>G a
abbrev plT (T:Pd)(N:Hp):Pd:=fun a=>T a\/N a≠none
def OwK:HO->Prop
 | .lst _=>True
 | .dK _=>True
 | .ins _ _ _=>True
 | .ext _=>True
 | _=>False
theorem xAg (h:N a=some o):plus G N a=some o:=by
 unfold plus
 rw [h]
theorem xAc (h:N a=none):plus G N a=G a:=by
 unfold plus
 rw [h]
theorem xMc (h:N a≠none):less_ G N a=none:=by
 unfold less_
 cases e:N a with
 | none=>exact absurd e h
 | some o=>rfl
theorem xE0 (h:N a=none):less_ G N a=G a:=by
 unfold less_
 rw [h]
theorem OwK.tbl (h:OwK o): ∀ ps,o≠ .tbl ps:=fun ps z=>by
 rw [z] at h
 exact h
section
variable {κ:Ctx}{T:Pd}{G N:Hp}
theorem xF7 (gf: ∀ a,N a≠none->G a=none):Mono T G (plT T N) (plus G N):=⟨fun a o e=>by
 have n:N a=none:=yK6 fun z=>by
  rw [gf a z] at e
  cases e
 rw [xAc n]
 exact e,fun a o b e l=>by
 have n:N a=none:=yK6 fun z=>by
  rw [gf a z] at e
  cases e
 exact ⟨fun z=>l.mp (z.elim id fun y=>absurd n y),fun z=> .inl (l.mpr z)⟩⟩
theorem xLn (e:plus G N a=some o)(n:N a=none):G a=some o:=by
 rw [xAc n] at e
 exact e
theorem DkAt.out (h:DkAt (plus G N) a vs b)(n:N a=none):DkAt G a vs b:=by
 rcases h with h|⟨hb,o,h⟩
 ·exact .inl (xLn h n)
 ·exact .inr ⟨hb,o,xLn h n⟩
mutual
theorem Rep.out (mu: ∀ a o,N a=some o->OwK o): ∀ (d:D) {v:V},d.nb=true->Rep κ (plT T N) (plus G N) d v->Rep κ T G d v
 | .non,_,_,h=>h
 | .bl _,_,_,h=>h
 | .int _,_,_,h=>h
 | .str _,_,_,h=>h
 | .tup l,v,n,h=>by
  obtain ⟨a,vs,h1,h2,h3⟩:=h
  refine ⟨a,vs,h1,?_,RepL.out mu l n h3⟩
  rcases h2 with h2|h2
  ·refine .inl (xLn h2 ?_)
   cases e:N a with
   | none=>rfl
   | some o=>
    rw [xAg e] at h2
    cases h2
    exact (mu a _ e).elim
  ·exact .inr h2
 | .lst b l,v,n,h=>by
  have n':(!b&&nbL l)=true:=n
  rw [yLc,yL3] at n'
  obtain ⟨rfl,n2⟩:=n'
  obtain ⟨a,vs,h1,⟨h2,h4⟩,h3⟩:=h
  have na:N a=none:=yK6 fun z=>yLr (h4.mp (.inr z))
  exact ⟨a,vs,h1,⟨xLn h2 na,⟨fun z=>h4.mp (.inl z),fun z=>yLr z⟩⟩,RepL.out mu l n2 h3⟩
 | .scr l,v,n,h=>by
  obtain ⟨a,vs,h1,h2,h3⟩:=h
  refine ⟨a,vs,h1,?_,RepL.out mu l n h3⟩
  rcases h2 with (⟨ob,h2⟩|h2)|h2
  ·refine .inl (.inl ⟨ob,xLn h2 ?_⟩)
   cases e:N a with
   | none=>rfl
   | some o=>
    rw [xAg e] at h2
    cases h2
    exact (mu a _ e).elim
  ·exact .inl (.inr h2)
  ·exact .inr h2
 | .nv b l ss,v,n,h=>by
  have n':(!b&&nbL l)=true:=n
  rw [yLc,yL3] at n'
  obtain ⟨rfl,n2⟩:=n'
  obtain ⟨a,vs,h1,⟨h2,h4⟩,h3⟩:=h
  have na:N a=none:=yK6 fun z=>yLr (h4.mp (.inr z))
  exact ⟨a,vs,h1,⟨h2.at (xAc na),⟨fun z=>h4.mp (.inl z),fun z=>yLr z⟩⟩,RepL.out mu l n2 h3⟩
 | .dk b l,v,n,h=>by
  have n':(!b&&nbK l)=true:=n
  rw [yLc,yL3] at n'
  obtain ⟨rfl,n2⟩:=n'
  obtain ⟨a,vs,h1,⟨h2,h4⟩,h3⟩:=h
  have na:N a=none:=yK6 fun z=>yLr (h4.mp (.inr z))
  exact ⟨a,vs,h1,⟨h2.out na,⟨fun z=>h4.mp (.inl z),fun z=>yLr z⟩⟩,RepK.out mu l n2 h3⟩
 | .ins b c l,v,n,h=>by
  have n':(!b&&nbF l)=true:=n
  rw [yLc,yL3] at n'
  obtain ⟨rfl,n2⟩:=n'
  obtain ⟨a,dx,vs,h1,⟨h2,h4⟩,h3⟩:=h
  have na:N a=none:=yK6 fun z=>yLr (h4.mp (.inr z))
  exact ⟨a,dx,vs,h1,⟨xLn h2 na,⟨fun z=>h4.mp (.inl z),fun z=>yLr z⟩⟩,RepF.out mu l n2 h3⟩
 | .ty _,_,_,h=>h
 | .adr _,_,_,h=>h
theorem RepL.out (mu: ∀ a o,N a=some o->OwK o): ∀ (l:List D) {vs:List V},nbL l=true->RepL κ (plT T N) (plus G N) l vs->RepL κ T G l vs
 | [],_,_,h=>h
 | d::l,vs,n,h=>by
  have n':(D.nb d&&nbL l)=true:=n
  rw [yLc] at n'
  obtain ⟨v,ws,h1,h2,h3⟩:=h
  exact ⟨v,ws,h1,Rep.out mu d n'.1 h2,RepL.out mu l n'.2 h3⟩
theorem RepK.out (mu: ∀ a o,N a=some o->OwK o): ∀ (l:List (Key×D)) {vs:List (Key×V)},nbK l=true->RepK κ (plT T N) (plus G N) l vs->RepK κ T G l vs
 | [],_,_,h=>h
 | (k,d)::l,vs,n,h=>by
  have n':(D.nb d&&nbK l)=true:=n
  rw [yLc] at n'
  obtain ⟨v,ws,h1,h2,h3⟩:=h
  exact ⟨v,ws,h1,Rep.out mu d n'.1 h2,RepK.out mu l n'.2 h3⟩
theorem RepF.out (mu: ∀ a o,N a=some o->OwK o): ∀ (l:List (Str×D)) {vs:List (Str×V)},nbF l=true->RepF κ (plT T N) (plus G N) l vs->RepF κ T G l vs
 | [],_,_,h=>h
 | (k,d)::l,vs,n,h=>by
  have n':(D.nb d&&nbF l)=true:=n
  rw [yLc] at n'
  obtain ⟨v,ws,h1,h2,h3⟩:=h
  exact ⟨v,ws,h1,Rep.out mu d n'.1 h2,RepF.out mu l n'.2 h3⟩
end
theorem xBm.out (mu: ∀ a o,N a=some o->OwK o)(n:d.nbO=true)(h:xBm κ (plT T N) (plus G N) H p d):xBm κ T G H p d:=by
 cases d with
 | lst b l=>
  obtain ⟨vs,h1,h2⟩:=h
  exact ⟨vs,h1,RepL.out mu l n h2⟩
 | dk b l=>
  obtain ⟨vs,h1,h2⟩:=h
  exact ⟨vs,h1,RepK.out mu l n h2⟩
 | ins b c l=>
  obtain ⟨dx,vs,h1,h2⟩:=h
  exact ⟨dx,vs,h1,RepF.out mu l n h2⟩
 | scr l=>
  obtain ⟨vs,h1,h2⟩:=h
  exact ⟨vs,h1,RepL.out mu l n h2⟩
 | _=>exact h.elim
end
def ownF:D->Bool
 | .lst true l=>nbL l
 | .dk true l=>nbK l
 | .nv true l _=>nbL l
 | _=>false
def fldB (l:List (Str×D)):Bool:=l.all fun f=>f.2.nb || ownF f.2
def xA3:List (Str×D)->List (Str×V)->List Addr
 | (_,d)::l,(_,.ref a)::vs=>if ownF d then a::xA3 l vs else xA3 l vs
 | _::l,_::vs=>xA3 l vs
 | _,_=>[]
def opB (B:Bas)(i:Nat)(p:Addr)(N:Hp):Bas:=⟨plus B.H N,B.G,B.T,(i,p)::B.an⟩
def lnB (B:Bas)(i:Nat)(p:Addr)(N:Hp):Bas:=⟨plus B.H N,plus B.G N,plT B.T N,(i,p)::B.an⟩
structure NOk (κ:Ctx)(B:Bas)(G:Hp)(p:Addr)(N:Hp)(c:String)(l:List (Str×D))(dx:Addr)(vs:List (Str×V)):Prop where
 free: ∀ a,N a≠none->B.H a=none
 gfree: ∀ a,N a≠none->G a=none
 bg: ∀ a,N a≠none->B.G a=none
 nt: ∀ a,N a≠none-> ¬ B.T a
 mu: ∀ a o,N a=some o->OwK o
 here:N p=some (.ins (κ.cl c) dx vs)
 fld:RepF κ (plT B.T N) (plus G N) l vs
 okF:fldB l=true
 nd:(p::xA3 l vs).Nodup
 inN: ∀ a∈xA3 l vs,N a≠none
def OOk (κ:Ctx)(B:Bas)(i:Nat)(ρ:List SD)(σ:L2.St)(H G:Hp):Prop:= ∃ p N b c l dx vs,NOk κ B G p N c l dx vs/\ρ[i]? =some (.ow (.ins b c l))/\Ok κ (opB B i p N) (ρ.set i .un) σ H G
section
variable {κ:Ctx}{B:Bas}{i:Nat}{ρ:List SD}{σ:L2.St}{H G:Hp}{p:Addr}{N:Hp}{c:String}{l:List (Str×D)}{dx:Addr}{vs:List (Str×V)}
theorem NOk.mono (n:NOk κ B G p N c l dx vs)(s:Same G G2)(gf: ∀ a,N a≠none->G2 a=none):NOk κ B G2 p N c l dx vs:=
 ⟨n.free,gf,n.bg,n.nt,n.mu,n.here,RepF.mono (.of fun a o e=>by
  cases h:N a with
  | some u=>
   rw [xAg h] at e ⊢
   exact e
  | none=>
   rw [xAc h] at e ⊢
   exact s a o e) l n.fld,n.okF,n.nd,n.inN⟩
theorem xBy (o:Ok κ (opB B i p N) ρ σ H G)(mu: ∀ a u,N a=some u->OwK u)(h:N a=some u):H a=some u:=o.fr.keep a u (show plus B.H N a=some u from xAg h) (mu a u h).tbl
theorem xS0 (o:Ok κ (opB B i p N) ρ σ H G)(n:NOk κ B G p N c l dx vs)(o':Ok κ (opB B i p N) ρ' σ' H' G'): ∀ a,N a≠none->G' a=none:=fun a h=>by
 have h1:plus B.H N a≠none:=by
  cases e:N a with
  | none=>exact absurd e h
  | some u=>
   rw [xAg e]
   exact fun z=>nomatch z
 have e1:=o.fr.frz a h1
 have e2:=o'.fr.frz a h1
 rw [n.gfree a h] at e1
 rw [e2,<- e1]
theorem NOk.lend (n:NOk κ B G p N c l dx vs)(hi:i<ρ.length)(o:Ok κ (opB B i p N) (ρ.set i .un) σ H G):Ok κ (lnB B i p N) (ρ.set i (.va (.ins true c l))) σ H (plus G N):=by
 have mo:Mono B.T G (plT B.T N) (plus G N):=xF7 n.gfree
 have old: ∀ {j:Nat} {x:SD},j≠i->(ρ.set i (.va (.ins true c l)))[j]? =some x->(ρ.set i .un)[j]? =some x:=fun {j x} hj z=>by
  rw [yLa (Ne.symm hj)] at z ⊢
  exact z
 have hp:σ[i]? =some (some (V.ref p)):=o.anch i p (yK3 ..)
 refine ⟨⟨o.fr.keep,o.fr.nt,fun a h=> ?_,fun a u h=> ?_,fun a u h=> ?_,fun a ps h=> ?_,o.fr.tabs,fun a h=> ?_⟩,by rw [yLm];have:=o.len;rw [yLm] at this;exact this,fun j d z=> ?_,fun j d z=> ?_,fun j m q d e hjm z1 z2 z3 z4=> ?_,o.anch⟩
 ·show plus G N a=plus B.G N a
  cases e:N a with
  | some u=>rw [xAg e,xAg e]
  | none=>
   rw [xAc e,xAc e]
   exact o.fr.frz a h
 ·have h:plus B.G N a=some u:=h
  show plus G N a=some u
  cases e:N a with
  | some w=>
   rw [xAg e] at h ⊢
   exact h
  | none=>
   rw [xAc e] at h ⊢
   exact o.fr.sub a u h
 ·have h:plus G N a=some u:=h
  cases e:N a with
  | some w=>
   rw [xAg e] at h
   cases h
   exact xBy o n.mu e
  | none=>
   rw [xAc e] at h
   exact o.fr.gh a u h
 ·have h:plus G N a=some (.tbl ps):=h
  cases e:N a with
  | some w=>
   rw [xAg e] at h
   cases h
   exact n.mu a _ e
  | none=>
   rw [xAc e] at h
   exact o.fr.notb a ps h
 ·rcases h with h|h
  ·exact o.fr.lent a h
  ·show plus B.H N a≠none
   cases e:N a with
   | some w=>
    rw [xAg e]
    exact fun z=>nomatch z
   | none=>exact absurd e h
 ·by_cases hj:j=i
  ·subst hj
   rw [yK8 hi] at z
   cases z
   exact ⟨.ref p,hp,p,dx,vs,rfl,⟨xAg n.here,⟨fun _=>rfl,fun _=> .inr (by rw [n.here];exact fun z=>nomatch z)⟩⟩,n.fld⟩
  ·obtain ⟨v,h1,h2⟩:=o.val j d (old hj z)
   exact ⟨v,h1,Rep.mono mo d h2⟩
 ·have hj:j≠i:=fun y=>by
   rw [y,yK8 hi] at z
   cases z
  obtain ⟨q,h1,h2,h3,h4⟩:=o.own j d (old hj z)
  have nq:N q=none:=by
   cases e:N q with
   | none=>rfl
   | some w=>
    have h3:plus B.H N q=none:=h3
    rw [xAg e] at h3
    cases h3
  exact ⟨q,h1,by rw [xAc nq];exact h2,h3,h4.monoT mo rfl⟩
 ·have hj:j≠i:=fun y=>by
   rw [y,yK8 hi] at z1
   cases z1
  have hm:m≠i:=fun y=>by
   rw [y,yK8 hi] at z2
   cases z2
  exact o.sep j m q d e hjm (old hj z1) (old hm z2) z3 z4
theorem NOk.back (n:NOk κ B G p N c l dx vs)(o1:Ok κ (lnB B i p N) ρ1 σ1 H1 G1)(s:Same (plus G N) G1)(nb:(ρ1.set i .un).all SD.nbS=true):
  ∃ G2,G1=plus G2 N/\Same G G2/\NOk κ B G2 p N c l dx vs/\Ok κ (opB B i p N) (ρ1.set i .un) σ1 H1 G2:=by
 have hN: ∀ a u,N a=some u->G1 a=some u:=fun a u h=>s a u (xAg h)
 have e:G1=plus (less_ G1 N) N:=by
  funext a
  cases h:N a with
  | none=>rw [xAc h,xE0 h]
  | some u=>rw [xAg h,hN a u h]
 have gs:Same G (less_ G1 N):=fun a u h=>by
  have na:N a=none:=yK6 fun z=>by
   rw [n.gfree a z] at h
   cases h
  rw [xE0 na]
  exact s a u (by rw [xAc na];exact h)
 have nbj: ∀ {j:Nat} {x:SD},j≠i->ρ1[j]? =some x->x.nbS=true:=fun {j x} hj z=>by
  refine yLu.mp nb x (yLf (i:=j) ?_)
  rw [yLa (Ne.symm hj)]
  exact z
 have old: ∀ {j:Nat} {x:SD},(ρ1.set i .un)[j]? =some x->x≠ .un->j≠i/\ρ1[j]? =some x:=fun {j x} z nx=>by
  by_cases hj:j=i
  ·subst hj
   have hl:j<ρ1.length:=by
    have y:=(yK5.mp z).1
    rw [yLm] at y
    exact y
   rw [yK8 hl] at z
   exact absurd (yLh.inj z).symm nx
  ·rw [yLa (Ne.symm hj)] at z
   exact ⟨hj,z⟩
 have out1: ∀ {d:D} {v:V},d.nb=true->Rep κ (plT B.T N) G1 d v->Rep κ B.T (less_ G1 N) d v:=fun {d v} hn r=>by
  rw [e] at r
  exact Rep.out n.mu d hn r
 refine ⟨less_ G1 N,e,gs,n.mono gs fun a h=>xMc h,⟨o1.fr.keep,o1.fr.nt,fun a h=> ?_,fun a u h=> ?_,fun a u h=> ?_,fun a ps h=> ?_,o1.fr.tabs,fun a h=> ?_⟩,by rw [yLm];exact o1.len,fun j d z=> ?_,fun j d z=> ?_,fun j m q d e' hjm z1 z2 z3 z4=> ?_,o1.anch⟩
 ·have h:plus B.H N a≠none:=h
  show less_ G1 N a=B.G a
  have z:G1 a=plus B.G N a:=o1.fr.frz a h
  cases e2:N a with
  | none=>
   rw [xE0 e2,z,xAc e2]
  | some u=>
   rw [xMc (by rw [e2];exact fun z=>nomatch z)]
   exact (n.bg a (by rw [e2];exact fun z=>nomatch z)).symm
 ·have h:B.G a=some u:=h
  have na:N a=none:=yK6 fun z=>by
   rw [n.bg a z] at h
   cases h
  rw [xE0 na]
  exact o1.fr.sub a u (show plus B.G N a=some u by rw [xAc na];exact h)
 ·have na:N a=none:=yK6 fun z=>by
   rw [xMc z] at h
   cases h
  rw [xE0 na] at h
  exact o1.fr.gh a u h
 ·have na:N a=none:=yK6 fun z=>by
   rw [xMc z] at h
   cases h
  rw [xE0 na] at h
  exact o1.fr.notb a ps h
 ·exact o1.fr.lent a (.inl h)
 ·obtain ⟨hj,z⟩:=old z (by simp)
  obtain ⟨v,h1,h2⟩:=o1.val j d z
  exact ⟨v,h1,out1 (nbj hj z) h2⟩
 ·obtain ⟨hj,z⟩:=old z (by simp)
  obtain ⟨q,h1,h2,h3,h4⟩:=o1.own j d z
  have nq:N q=none:=by
   cases e2:N q with
   | none=>rfl
   | some w=>
    rw [hN q w e2] at h2
    cases h2
  have h4:xBm κ (plT B.T N) G1 H1 q d:=h4
  rw [e] at h4
  exact ⟨q,h1,by rw [xE0 nq];exact h2,h3,xBm.out n.mu (nbj hj z) h4⟩
 ·obtain ⟨hj,z1⟩:=old z1 (by simp)
  obtain ⟨hm,z2⟩:=old z2 (by simp)
  exact o1.sep j m q d e' hjm z1 z2 z3 z4
end
def OOkP (κ:Ctx)(B:Bas)(i:Nat)(p:Addr)(N:Hp)(ρ:List SD)(σ:L2.St)(H G:Hp):Prop:= ∃ b c l dx vs,NOk κ B G p N c l dx vs/\ρ[i]? =some (.ow (.ins b c l))/\Ok κ (opB B i p N) (ρ.set i .un) σ H G
def PstG {α:Type}(κ:Ctx)(W:WX)(B:Bas)(i:Nat)(σ:L2.St)(G:Hp)(r:Rs α)(k:α->List SD->Addr->Hp->Hp->Hp->Prop):Prop:=match r with
 | .ok a ρ'=> ∀ p N H' G',OOkP κ B i p N ρ' σ H' G'->Same G G'->k a ρ' p N H' G'
 | .ex x ρ'=> ∀ cls d p N H' G',OOkP κ B i p N ρ' σ H' G'->Same G G'->RepX κ B.T H' G' x cls d->W cls d σ H'
 | .no=>False
def tEO (κ:Ctx)(W:WX)(i:Nat)(m:M SD):TE:=fun σ H Q=> ∃ B p N ρ G,OOkP κ B i p N ρ σ H G/\PstG κ W B i σ G (m ρ) fun r ρ' p N H' G'=> ∀ v,RepR κ (opB B i p N) (ρ'.set i .un) σ H' G' r v->Q v H'
def tTO (κ:Ctx)(W:WX)(i:Nat)(m:M Bool):TT:=fun σ H Q=> ∃ B p N ρ G,OOkP κ B i p N ρ σ H G/\PstG κ W B i σ G (m ρ) fun b ρ' p N H' G'=>Q b H'
def tAO (κ:Ctx)(W:WX)(i:Nat)(m:M (List D)):TA:=fun σ H Q=> ∃ B p N ρ G,OOkP κ B i p N ρ σ H G/\PstG κ W B i σ G (m ρ) fun ds ρ' p N H' G'=> ∀ vs,RepL κ B.T G' ds vs->Q vs H'
def xBk {α:Type}(i:Nat)(m:M α):M α:=fun ρ=>match ρ[i]? with
 | some (.ow (.ins b c l))=>match m (ρ.set i .un) with
  | .ok a ρ1=> .ok a (ρ1.set i (.ow (.ins b c l)))
  | .ex x ρ1=> .ex x (ρ1.set i (.ow (.ins b c l)))
  | .no=> .no
 | _=> .no
def xF6 {α:Type}(i:Nat)(nb:α->Bool)(m:M α):M α:=fun ρ=>match ρ[i]? with
 | some (.ow (.ins b c l))=>match m (ρ.set i (.va (.ins true c l))) with
  | .ok a ρ1=>if ((ρ1.set i .un).all SD.nbS&&nb a)=true then .ok a (ρ1.set i (.ow (.ins b c l))) else .no
  | .ex x ρ1=>if ((ρ1.set i .un).all SD.nbS&&nbF x.fs)=true then .ex x (ρ1.set i (.ow (.ins b c l))) else .no
  | .no=> .no
 | _=> .no
section
variable {κ:Ctx}{W:WX}{B:Bas}{i:Nat}{ρ ρ1:List SD}{σ σ1:L2.St}{H H1 G G1:Hp}{p:Addr}{N:Hp}{b:Bool}{c:String}{l:List (Str×D)}{dx:Addr}{vs:List (Str×V)}
theorem xGf (o:Ok κ B' ρ σ H G)(h:(i,p)∈B'.an):i<ρ.length:=by
 have e:=o.anch i p h
 rw [<- o.len]
 obtain ⟨z,_⟩:=yK5.mp e
 exact z
theorem xNc (e:ρ[i]? =some x):i<ρ.length:=(yK5.mp e).1
theorem OOkP.op (n:NOk κ B G p N c l dx vs)(o:Ok κ (opB B i p N) ρ σ H G)(o1:Ok κ (opB B i p N) ρ1 σ1 H1 G1)(s:Same G G1):OOkP κ B i p N (ρ1.set i (.ow (.ins b c l))) σ1 H1 G1:=by
 have hi:i<ρ1.length:=xGf o1 (yK3 ..)
 refine ⟨b,c,l,dx,vs,n.mono s (xS0 o n o1),yK8 hi,?_⟩
 rw [yMa]
 exact o1.drop i
theorem OOkP.ln (n:NOk κ B G p N c l dx vs)(o1:Ok κ (lnB B i p N) ρ1 σ1 H1 G1)(s:Same (plus G N) G1)(nb:(ρ1.set i .un).all SD.nbS=true): ∃ G2,G1=plus G2 N/\Same G G2/\OOkP κ B i p N (ρ1.set i (.ow (.ins b c l))) σ1 H1 G2/\
  (∀ {d:D} {v:V},d.nb=true->Rep κ (plT B.T N) G1 d v->Rep κ B.T G2 d v)/\(∀ {d:List D} {v:List V},nbL d=true->RepL κ (plT B.T N) G1 d v->RepL κ B.T G2 d v)/\(∀ {d:List (Str×D)} {v:List (Str×V)},nbF d=true->RepF κ (plT B.T N) G1 d v->RepF κ B.T G2 d v)/\
  (∀ {r:SD} {v:V},r.nbS=true->RepR κ (lnB B i p N) ρ1 σ1 H1 G1 r v->RepR κ (opB B i p N) ((ρ1.set i (.ow (.ins b c l))).set i .un) σ1 H1 G2 r v):=by
 have hi:i<ρ1.length:=xGf o1 (yK3 ..)
 obtain ⟨G2,e,gs,n2,o2⟩:=n.back o1 s nb
 subst e
 refine ⟨G2,rfl,gs,⟨b,c,l,dx,vs,n2,yK8 hi,by rw [yMa];exact o2⟩,fun hn r=>Rep.out n.mu _ hn r,fun hn r=>RepL.out n.mu _ hn r,fun hn r=>RepF.out n.mu _ hn r,fun {r v} hn rr=> ?_⟩
 cases r with
 | un=>exact rr.elim
 | va d=>exact Rep.out n.mu d hn rr
 | ow d=>
  obtain ⟨q,rfl,q1,q2,q3,q4⟩:=rr
  have nq:N q=none:=by
   cases e2:N q with
   | none=>rfl
   | some w=>
    rw [xAg e2] at q1
    cases q1
  refine ⟨q,rfl,by rw [xAc nq] at q1;exact q1,q2,xBm.out n.mu hn q3,fun j e z=> ?_⟩
  rw [yMa] at z
  by_cases hj:j=i
  ·rw [hj,yK8 hi] at z
   cases z
  ·rw [yLa (Ne.symm hj)] at z
   exact q4 j e z
theorem PstG.op {α:Type}{m:M α}{k:α->List SD->Addr->Hp->Hp->Hp->Prop}(n:NOk κ B G p N c l dx vs)(e:ρ[i]? =some (.ow (.ins b c l)))(o:Ok κ (opB B i p N) (ρ.set i .un) σ H G)(q:PstG κ W B i σ G (xBk i m ρ) k):
  Pst κ W (opB B i p N) σ G (m (ρ.set i .un)) fun a ρ1 H1 G1=>k a (ρ1.set i (.ow (.ins b c l))) p N H1 G1/\Same G G1:=by
 unfold xBk at q
 rw [e] at q
 dsimp only at q
 cases em:m (ρ.set i .un) with
 | ok a ρ1=>
  rw [em] at q
  exact fun H1 G1 o1 s1=>⟨q p N H1 G1 (OOkP.op n o o1 s1) s1,s1⟩
 | ex x ρ1=>
  rw [em] at q
  exact fun cls d H1 G1 o1 s1 rx=>q cls d p N H1 G1 (OOkP.op n o o1 s1) s1 rx
 | no=>
  rw [em] at q
  exact q
theorem PstG.ln {α:Type}{m:M α}{nb:α->Bool}{k:α->List SD->Addr->Hp->Hp->Hp->Prop}(n:NOk κ B G p N c l dx vs)(e:ρ[i]? =some (.ow (.ins b c l)))(o:Ok κ (opB B i p N) (ρ.set i .un) σ H G)(q:PstG κ W B i σ G (xF6 i nb m ρ) k):
  Pst κ W (lnB B i p N) σ (plus G N) (m (ρ.set i (.va (.ins true c l)))) fun a ρ1 H1 G1=>nb a=true/\ ∃ G2,G1=plus G2 N/\Same G G2/\k a (ρ1.set i (.ow (.ins b c l))) p N H1 G2/\OOkP κ B i p N (ρ1.set i (.ow (.ins b c l))) σ H1 G2/\
   (∀ {d:D} {v:V},d.nb=true->Rep κ (plT B.T N) G1 d v->Rep κ B.T G2 d v)/\(∀ {d:List D} {v:List V},nbL d=true->RepL κ (plT B.T N) G1 d v->RepL κ B.T G2 d v)/\
   (∀ {r:SD} {v:V},r.nbS=true->RepR κ (lnB B i p N) ρ1 σ H1 G1 r v->RepR κ (opB B i p N) ((ρ1.set i (.ow (.ins b c l))).set i .un) σ H1 G2 r v):=by
 unfold xF6 at q
 rw [e] at q
 dsimp only at q
 cases em:m (ρ.set i (.va (.ins true c l))) with
 | ok a ρ1=>
  rw [em] at q
  intro H1 G1 o1 s1
  dsimp only at q
  by_cases z:((ρ1.set i .un).all SD.nbS&&nb a)=true
  ·rw [if_pos z] at q
   rw [yLc] at z
   obtain ⟨G2,e2,gs,ok2,r1,r2,r3,r4⟩:=OOkP.ln (b:=b) n o1 s1 z.1
   exact ⟨z.2,G2,e2,gs,q p N H1 G2 ok2 gs,ok2,r1,r2,r4⟩
  ·rw [if_neg z] at q
   exact q.elim
 | ex x ρ1=>
  rw [em] at q
  intro cls d H1 G1 o1 s1 rx
  dsimp only at q
  by_cases z:((ρ1.set i .un).all SD.nbS&&nbF x.fs)=true
  ·rw [if_pos z] at q
   rw [yLc] at z
   obtain ⟨G2,e2,gs,ok2,r1,r2,r3,r4⟩:=OOkP.ln (b:=b) n o1 s1 z.1
   obtain ⟨x1,dx',vs',x2,x3,x4⟩:=rx
   exact q cls d p N H1 G2 ok2 gs ⟨x1,dx',vs',x2,x3,r3 z.2 x4⟩
  ·rw [if_neg z] at q
   exact q.elim
 | no=>
  rw [em] at q
  exact q
end
section
variable {κ:Ctx}{X:Cx}{W:WX}{i:Nat}{e:Expr}{es:List Expr}
theorem xK2 (h:PE X e (tE κ W m)):PE X e (tEO κ W i (xBk i m)):=PE.imp h fun σ H Q ⟨B,p,N,ρ,G,⟨b,c,l,dx,vs,n,e,o⟩,q⟩=>
 ⟨opB B i p N,ρ.set i .un,G,o,Pst.mono (PstG.op n e o q) fun r ρ1 H1 G1 o1 s1 z v rv=>z.1 v (by
  rw [yMa]
  cases r with
  | un=>exact rv.elim
  | va d=>exact rv
  | ow d=>
   obtain ⟨a,q1,q2,q3,q4,q5⟩:=rv
   refine ⟨a,q1,q2,q3,q4,fun j e' z'=>q5 j e' ?_⟩
   by_cases hj:j=i
   ·rw [hj] at z'
    have hl:=(yK5.mp z').1
    rw [yLm] at hl
    rw [yK8 hl] at z'
    cases z'
   ·rw [yLa (Ne.symm hj)] at z'
    exact z')⟩
theorem yEe (h:PE X e (tE κ W m)):PE X e (tEO κ W i (xF6 i SD.nbS m)):=PE.imp h fun σ H Q ⟨B,p,N,ρ,G,⟨b,c,l,dx,vs,n,e,o⟩,q⟩=>
 ⟨lnB B i p N,ρ.set i (.va (.ins true c l)),plus G N,n.lend (xNc e) o,Pst.mono (PstG.ln n e o q) fun r ρ1 H1 G1 o1 s1 ⟨nb,G2,e2,gs,z,ok2,r1,r2,r4⟩ v rv=>z v (r4 nb rv)⟩
theorem to_op (h:PT X e (tT κ W m)):PT X e (tTO κ W i (xBk i m)):=PT.imp h fun σ H Q ⟨B,p,N,ρ,G,⟨b,c,l,dx,vs,n,e,o⟩,q⟩=>
 ⟨opB B i p N,ρ.set i .un,G,o,Pst.mono (PstG.op n e o q) fun r ρ1 H1 G1 o1 s1 z=>z.1⟩
theorem yJf (h:PT X e (tT κ W m)):PT X e (tTO κ W i (xF6 i (fun _=>true) m)):=PT.imp h fun σ H Q ⟨B,p,N,ρ,G,⟨b,c,l,dx,vs,n,e,o⟩,q⟩=>
 ⟨lnB B i p N,ρ.set i (.va (.ins true c l)),plus G N,n.lend (xNc e) o,Pst.mono (PstG.ln n e o q) fun r ρ1 H1 G1 o1 s1 ⟨nb,G2,e2,gs,z,_⟩=>z⟩
theorem ao_op (h:PA X es (tA κ W m)):PA X es (tAO κ W i (xBk i m)):=PA.imp h fun σ H Q ⟨B,p,N,ρ,G,⟨b,c,l,dx,vs,n,e,o⟩,q⟩=>
 ⟨opB B i p N,ρ.set i .un,G,o,Pst.mono (PstG.op n e o q) fun r ρ1 H1 G1 o1 s1 z vs rv=>z.1 vs rv⟩
end
def PstO (κ:Ctx)(W:WX)(B:Bas)(i:Nat)(G:Hp)(r:Rs Fl)(D:Ends):Prop:=match r with
 | .ok .nx ρ'=> ∀ p N σ' H' G',OOkP κ B i p N ρ' σ' H' G'->Same G G'->D.nx σ' H'
 | .ok (.rt r) ρ'=> ∀ v p N σ' H' G',OOkP κ B i p N ρ' σ' H' G'->Same G G'->RepR κ (opB B i p N) (ρ'.set i .un) σ' H' G' r v->D.rt v H'
 | .ok .bk ρ'=> ∀ p N σ' H' G',OOkP κ B i p N ρ' σ' H' G'->Same G G'->D.bk σ' H'
 | .ok .ct ρ'=> ∀ p N σ' H' G',OOkP κ B i p N ρ' σ' H' G'->Same G G'->D.ct σ' H'
 | .ex x ρ'=> ∀ cls d p N σ' H' G',OOkP κ B i p N ρ' σ' H' G'->Same G G'->RepX κ B.T H' G' x cls d->W cls d σ' H'
 | .no=>False
def tOb (κ:Ctx)(A:List Nat)(W:WX)(i:Nat)(s:S):TS:=fun D σ H=> ∃ B p N ρ G,InA B A/\OOkP κ B i p N ρ σ H G/\PstO κ W B i G (s ρ) D
theorem PstO.mono {D D':Ends}(h:PstO κ W B i G r D)(s:Same G G1)(hn: ∀ σ H,D.nx σ H->D'.nx σ H)(hr:D.rt=D'.rt)(hb:D.bk=D'.bk)(hc:D.ct=D'.ct):PstO κ W B i G1 r D':=by
 cases r with
 | ok f ρ'=>
  cases f with
  | nx=>exact fun p N σ' H' G' o e=>hn _ _ (h p N σ' H' G' o (s.trans e))
  | rt r=>exact fun v p N σ' H' G' o e q=>hr ▸ h v p N σ' H' G' o (s.trans e) q
  | bk=>exact fun p N σ' H' G' o e=>hb ▸ h p N σ' H' G' o (s.trans e)
  | ct=>exact fun p N σ' H' G' o e=>hc ▸ h p N σ' H' G' o (s.trans e)
 | ex x ρ'=>exact fun cls d p N σ' H' G' o e q=>h cls d p N σ' H' G' o (s.trans e) q
 | no=>exact h
theorem PstO.bind {α:Type}{m:M α}{f:α->S}{ρ:List SD}{D:Ends}(h:PstO κ W B i G (m.bind f ρ) D):
  PstG κ W B i σ G (m ρ) fun a ρ' p N H' G'=>PstO κ W B i G' (f a ρ') D:=by
 unfold M.bind at h
 cases e:m ρ with
 | ok a ρ'=>
  rw [e] at h
  exact fun p N H' G' o s=>PstO.mono h s (fun _ _ q=>q) rfl rfl rfl
 | ex x ρ'=>
  rw [e] at h
  exact fun cls d p N H' G' o s r=>h cls d p N σ H' G' o s r
 | no=>
  rw [e] at h
  exact h
theorem PstG.mono {α:Type}{κ:Ctx}{W:WX}{B:Bas}{i:Nat}{σ:L2.St}{G:Hp}{r:Rs α}{k k':α->List SD->Addr->Hp->Hp->Hp->Prop}(h:PstG κ W B i σ G r k)(f: ∀ a ρ' p N H' G',OOkP κ B i p N ρ' σ H' G'->Same G G'->k a ρ' p N H' G'->k' a ρ' p N H' G'):PstG κ W B i σ G r k':=by
 cases r with
 | ok a ρ'=>exact fun p N H' G' o s=>f _ _ _ _ _ _ o s (h p N H' G' o s)
 | ex x ρ'=>exact h
 | no=>exact h
theorem PstG.bind {α β:Type}{m:M α}{f:α->M β}{ρ:List SD}{k:β->List SD->Addr->Hp->Hp->Hp->Prop}(h:PstG κ W B i σ G (m.bind f ρ) k):
  PstG κ W B i σ G (m ρ) fun a ρ' p N H' G'=>PstG κ W B i σ G' (f a ρ') k:=by
 unfold M.bind at h
 cases e:m ρ with
 | ok a ρ'=>
  rw [e] at h
  intro p N H' G' o s
  have h2:PstG κ W B i σ G (f a ρ') k:=h
  show PstG κ W B i σ G' (f a ρ') k
  cases e2:f a ρ' with
  | ok b ρ2=>
   rw [e2] at h2
   exact fun p2 N2 H2 G2 ok2 s2=>h2 p2 N2 H2 G2 ok2 (s.trans s2)
  | ex x ρ2=>
   rw [e2] at h2
   exact fun cls d p2 N2 H2 G2 ok2 s2 r=>h2 cls d p2 N2 H2 G2 ok2 (s.trans s2) r
  | no=>
   rw [e2] at h2
   exact h2
 | ex x ρ'=>
  rw [e] at h
  exact h
 | no=>
  rw [e] at h
  exact h
section
variable {κ:Ctx}{X:Cx}{A:List Nat}{W:WX}{i:Nat}{st:Stmt}{s:S}{pos:Pos}
theorem yDr (h:InA B A):InA (opB B i p N) (i::A):=fun q hq=>by
 rcases yLp.mp hq with z|z
 ·rw [z]
  exact yK3 ..
 ·exact yK7 _ (h q z)
theorem o_op (h:PS X st (tS κ (i::A) W s)):PS X st (tOb κ A W i (xBk i s)):=by
 refine PS.imp h fun D σ H ⟨B,p,N,ρ,G,ia,⟨b,c,l,dx,vs,n,e,o⟩,q⟩=>⟨opB B i p N,ρ.set i .un,G,yDr ia,o,?_⟩
 unfold xBk at q
 rw [e] at q
 dsimp only at q
 cases em:s (ρ.set i .un) with
 | ok f ρ1=>
  rw [em] at q
  cases f with
  | nx=>exact fun σ' H' G' o' s'=>q p N σ' H' G' (OOkP.op n o o' s') s'
  | bk=>exact fun σ' H' G' o' s'=>q p N σ' H' G' (OOkP.op n o o' s') s'
  | ct=>exact fun σ' H' G' o' s'=>q p N σ' H' G' (OOkP.op n o o' s') s'
  | rt r=>
   refine fun v σ' H' G' o' s' rv=>q v p N σ' H' G' (OOkP.op n o o' s') s' ?_
   rw [yMa]
   cases r with
   | un=>exact rv.elim
   | va d=>exact rv
   | ow d=>
    obtain ⟨a,q1,q2,q3,q4,q5⟩:=rv
    refine ⟨a,q1,q2,q3,q4,fun j e' z'=>q5 j e' ?_⟩
    by_cases hj:j=i
    ·rw [hj] at z'
     have hl:=(yK5.mp z').1
     rw [yLm] at hl
     rw [yK8 hl] at z'
     cases z'
    ·rw [yLa (Ne.symm hj)] at z'
     exact z'
 | ex x ρ1=>
  rw [em] at q
  exact fun cls d σ' H' G' o' s' rx=>q cls d p N σ' H' G' (OOkP.op n o o' s') s' rx
 | no=>
  rw [em] at q
  exact q
theorem yHs:PSs X [] (tOb κ A W i sNx):=PSs.imp pss_nil fun D σ H ⟨B,p,N,ρ,G,_,o,q⟩=>q p N σ H G o (Same.refl G)
theorem xJ1 (h:PS X st (tOb κ A W i s)):PSs X [st] (tOb κ A W i s):=pss_one h
theorem xB0 {rest:List Stmt}{t:S}(h:PS X st (tOb κ A W i s))(h2:PSs X rest (tOb κ A W i t)):PSs X (st::rest) (tOb κ A W i (sSeq s t)):=by
 refine PSs.imp (pss_cons h h2) fun D σ H ⟨B,p,N,ρ,G,a,o,q⟩=>⟨B,p,N,ρ,G,a,o,?_⟩
 have q':PstO κ W B i G (match s ρ with| .ok .nx ρ'=>t ρ'|r=>r) D:=q
 cases e:s ρ with
 | ok f ρ'=>
  rw [e] at q'
  cases f with
  | nx=>exact fun p' N' σ' H' G' o' s'=>⟨B,p',N',ρ',G',a,o',PstO.mono q' s' (fun _ _ z=>z) rfl rfl rfl⟩
  | rt r=>exact q'
  | bk=>exact q'
  | ct=>exact q'
 | ex x ρ'=>
  rw [e] at q'
  exact q'
 | no=>
  rw [e] at q'
  exact q'
theorem o_if {c:Expr}{b1 b2:List Stmt}{t:M Bool}{s1 s2:S}(hc:PT X c (tTO κ W i t))(h1:PSs X b1 (tOb κ A W i s1))(h2:PSs X b2 (tOb κ A W i s2)):PS X (.If c b1 b2 pos) (tOb κ A W i (sIf t s1 s2)):=by
 refine PS.imp (ps_if hc h1 h2) fun D σ H ⟨B,p,N,ρ,G,a,o,q⟩=>⟨B,p,N,ρ,G,o,PstG.mono (PstO.bind q) fun b ρ' p' N' H' G' o' s q'=> ?_⟩
 cases b with
 | true=>exact iteT ⟨B,p',N',ρ',G',a,o',q'⟩
 | false=>exact iteF ⟨B,p',N',ρ',G',a,o',q'⟩
end
def xCk (f:Str)(d:D):List (Str×D)->List (Str×D)
 | []=>[(f,d)]
 | (g,x)::r=>if g=f then (g,d)::r else (g,x)::xCk f d r
section
variable {κ:Ctx}{T:Pd}{G N N2:Hp}
theorem RepF.length: ∀ {l:List (Str×D)} {vs:List (Str×V)},RepF κ T G l vs->vs.length=l.length
 | [],vs,h=>by rw [show vs=[] from h] <;> rfl
 | (k,d)::l,vs,h=>by
  obtain ⟨v,ws,rfl,h1,h2⟩:=h
  rw [yK9,yK9,h2.length]
theorem RepF.put (f:Str)(r:Rep κ T G d y): ∀ {l:List (Str×D)} {vs:List (Str×V)},RepF κ T G l vs->RepF κ T G (xCk f d l) (putF f y vs)
 | [],vs,h=>by
  rw [show vs=[] from h]
  exact ⟨y,[],rfl,r,rfl⟩
 | (k,e)::l,vs,h=>by
  obtain ⟨v,ws,rfl,h1,h2⟩:=h
  unfold xCk putF
  by_cases z:k=f
  ·rw [if_pos z,if_pos z]
   exact ⟨y,ws,rfl,r,h2⟩
  ·rw [if_neg z,if_neg z]
   exact ⟨v,_,rfl,h1,RepF.put f r h2⟩
theorem RepF.lkF: ∀ {l:List (Str×D)} {vs:List (Str×V)} {d:D},RepF κ T G l vs->l.lookup f=some d-> ∃ v,vs.lookup f=some v/\Rep κ T G d v
 | [],vs,d,h,e=>by cases e
 | (k,c)::l,vs,d,h,e=>by
  obtain ⟨v,ws,rfl,h1,h2⟩:=h
  by_cases z:f=k
  ·have hb:(f==k)=true:=beq_iff_eq.mpr z
   simp only [yMq,hb] at e ⊢
   cases e
   exact ⟨v,rfl,h1⟩
  ·have hb:(f==k)=false:=beq_eq_false_iff_ne.mpr z
   simp only [yMq,hb] at e ⊢
   exact RepF.lkF h2 e
theorem RepF.lkNone: ∀ {l:List (Str×D)} {vs:List (Str×V)},RepF κ T G l vs->l.lookup f=none->vs.lookup f=none
 | [],vs,h,e=>by
  rw [show vs=[] from h]
  rfl
 | (k,c)::l,vs,h,e=>by
  obtain ⟨v,ws,rfl,h1,h2⟩:=h
  by_cases z:f=k
  ·have hb:(f==k)=true:=beq_iff_eq.mpr z
   simp only [yMq,hb] at e
   cases e
  ·have hb:(f==k)=false:=beq_eq_false_iff_ne.mpr z
   simp only [yMq,hb] at e ⊢
   exact RepF.lkNone h2 e
theorem yD1 (h:ownF d=true):d.nb=false:=by
 cases d with
 | lst b l=>
  cases b with
  | true=>rfl
  | false=>cases h
 | dk b l=>
  cases b with
  | true=>rfl
  | false=>cases h
 | nv b l ss=>
  cases b with
  | true=>rfl
  | false=>cases h
 | _=>cases h
theorem xRa (h:ownF d=true)(r:Rep κ (plT T N) (plus G N) d v): ∃ q,v= .ref q:=by
 cases d with
 | lst b l=>
  obtain ⟨a,vs,rfl,_⟩:=r
  exact ⟨a,rfl⟩
 | dk b l=>
  obtain ⟨a,vs,rfl,_⟩:=r
  exact ⟨a,rfl⟩
 | nv b l ss=>
  obtain ⟨a,vs,rfl,_⟩:=r
  exact ⟨a,rfl⟩
 | _=>cases h
theorem xGl: ∀ {l:List (Str×D)} {vs:List (Str×V)} {d:D} {q:Addr},RepF κ (plT T N) (plus G N) l vs->l.lookup f=some d->ownF d=true->vs.lookup f=some (.ref q)->q∈xA3 l vs
 | [],vs,d,q,h,e,_,_=>by cases e
 | (k,c)::l,vs,d,q,h,e,od,ev=>by
  obtain ⟨v,ws,rfl,h1,h2⟩:=h
  by_cases z:f=k
  ·have hb:(f==k)=true:=beq_iff_eq.mpr z
   simp only [yMq,hb] at e ev
   cases e
   cases ev
   unfold xA3
   rw [if_pos od]
   exact yK3 ..
  ·have hb:(f==k)=false:=beq_eq_false_iff_ne.mpr z
   simp only [yMq,hb] at e ev
   have ih:=xGl h2 e od ev
   cases v with
   | ref a=>
    unfold xA3
    split
    ·exact yK7 _ ih
    ·exact ih
   | _=>
    unfold xA3
    exact ih
theorem Rep.moveF (gf: ∀ a,N a≠none->G a=none)(gf2: ∀ a,N2 a≠none->G a=none)(mu: ∀ a o,N a=some o->OwK o)(hd:(d.nb || ownF d)=true)(hT: ∀ q,v= .ref q->ownF d=true->N2 q=N q)(ht: ∀ q,ownF d=true->v= .ref q->T q->False)(r:Rep κ (plT T N) (plus G N) d v):Rep κ (plT T N2) (plus G N2) d v:=by
 rcases yM1.mp hd with h|h
 ·exact Rep.mono (xF7 gf2) d (Rep.out mu d h r)
 ·cases d with
  | lst b l=>
   cases b with
   | false=>cases h
   | true=>
    obtain ⟨a,vs,rfl,⟨h1,h2⟩,h3⟩:=r
    have na:N a≠none:=(h2.mpr rfl).elim (fun z=>(ht a h rfl z).elim) id
    obtain ⟨o,eo⟩: ∃ o,N a=some o:=by
     cases e:N a with
     | none=>exact absurd e na
     | some o=>exact ⟨o,rfl⟩
    have e1:=hT a rfl h
    rw [xAg eo] at h1
    rw [eo] at e1
    exact ⟨a,vs,rfl,⟨(xAg e1).trans h1,⟨fun _=>rfl,fun _=> .inr (by rw [e1];exact fun z=>nomatch z)⟩⟩,RepL.mono (xF7 gf2) l (RepL.out mu l h h3)⟩
  | dk b l=>
   cases b with
   | false=>cases h
   | true=>
    obtain ⟨a,vs,rfl,⟨h1,h2⟩,h3⟩:=r
    have h1:=h1.own
    have na:N a≠none:=(h2.mpr rfl).elim (fun z=>(ht a h rfl z).elim) id
    obtain ⟨o,eo⟩: ∃ o,N a=some o:=by
     cases e:N a with
     | none=>exact absurd e na
     | some o=>exact ⟨o,rfl⟩
    have e1:=hT a rfl h
    rw [xAg eo] at h1
    rw [eo] at e1
    exact ⟨a,vs,rfl,⟨.inl ((xAg e1).trans h1),⟨fun _=>rfl,fun _=> .inr (by rw [e1];exact fun z=>nomatch z)⟩⟩,RepK.mono (xF7 gf2) l (RepK.out mu l h h3)⟩
  | nv b l ss=>
   cases b with
   | false=>cases h
   | true=>
    obtain ⟨a,vs,rfl,⟨h1,h2⟩,h3⟩:=r
    have na:N a≠none:=(h2.mpr rfl).elim (fun z=>(ht a h rfl z).elim) id
    obtain ⟨o,eo⟩: ∃ o,N a=some o:=by
     cases e:N a with
     | none=>exact absurd e na
     | some o=>exact ⟨o,rfl⟩
    have e1:=hT a rfl h
    rw [eo] at e1
    exact ⟨a,vs,rfl,⟨h1.at ((xAg eo).trans (xAg e1).symm),⟨fun _=>rfl,fun _=> .inr (by rw [e1];exact fun z=>nomatch z)⟩⟩,RepL.mono (xF7 gf2) l (RepL.out mu l h h3)⟩
  | _=>cases h
theorem RepF.move (gf: ∀ a,N a≠none->G a=none)(gf2: ∀ a,N2 a≠none->G a=none)(mu: ∀ a o,N a=some o->OwK o)(ht: ∀ a,N a≠none-> ¬ T a): ∀ {l:List (Str×D)} {vs:List (Str×V)},fldB l=true->(∀ a∈xA3 l vs,N2 a=N a/\N a≠none)->RepF κ (plT T N) (plus G N) l vs->RepF κ (plT T N2) (plus G N2) l vs
 | [],vs,_,_,r=>r
 | (k,d)::l,vs,hf,hq,r=>by
  obtain ⟨v,ws,rfl,h1,h2⟩:=r
  unfold fldB at hf
  replace hf:=allC hf
  have tail: ∀ a∈xA3 l ws,N2 a=N a/\N a≠none:=fun a ha=>hq a (by
   cases v with
   | ref q=>
    unfold xA3
    split
    ·exact yK7 _ ha
    ·exact ha
   | _=>
    unfold xA3
    exact ha)
  have here: ∀ q,v= .ref q->ownF d=true->N2 q=N q/\N q≠none:=fun q e od=>by
   subst e
   refine hq q ?_
   unfold xA3
   rw [if_pos od]
   exact yK3 ..
  exact ⟨v,ws,rfl,Rep.moveF gf gf2 mu hf.1 (fun q e od=>(here q e od).1) (fun q od e t=>ht q (here q e od).2 t) h1,RepF.move gf gf2 mu ht hf.2 tail h2⟩
theorem xDq: ∀ {l:List (Str×D)} {vs:List (Str×V)},RepF κ (plT T N) (plus G N) l vs-> ∀ a∈xA3 (xCk f d l) (putF f y vs),a∈xA3 l vs\/(ownF d=true/\y= .ref a)
 | [],vs,r,a,h=>by
  rw [show vs=[] from r] at h
  have h:a∈xA3 [(f,d)] [(f,y)]:=h
  cases y with
  | ref q=>
   unfold xA3 at h
   split at h
   ·rename_i od
    rcases inC h with rfl|h
    ·exact .inr ⟨od,rfl⟩
    ·cases h
   ·cases h
  | _=>
   unfold xA3 at h
   cases h
 | (k,c)::l,vs,r,a,h=>by
  obtain ⟨v,ws,rfl,h1,h2⟩:=r
  unfold xCk putF at h
  have cons_in:a∈xA3 l ws->a∈xA3 ((k,c)::l) ((k,v)::ws):=fun ha=>by
   cases v with
   | ref q=>
    unfold xA3
    split
    ·exact yK7 _ ha
    ·exact ha
   | _=>
    unfold xA3
    exact ha
  by_cases z:k=f
  ·rw [if_pos z,if_pos z] at h
   cases y with
   | ref q=>
    unfold xA3 at h
    split at h
    ·rename_i od
     rcases inC h with rfl|h
     ·exact .inr ⟨od,rfl⟩
     ·exact .inl (cons_in h)
    ·exact .inl (cons_in h)
   | _=>
    unfold xA3 at h
    exact .inl (cons_in h)
  ·rw [if_neg z,if_neg z] at h
   cases v with
   | ref q=>
    unfold xA3 at h ⊢
    split at h
    ·rename_i od
     rw [if_pos od]
     rcases inC h with rfl|h
     ·exact .inl (yK3 ..)
     ·exact (xDq h2 a h).elim (fun z=> .inl (yK7 _ z)) .inr
    ·rename_i od
     rw [if_neg od]
     exact xDq h2 a h
   | _=>
    unfold xA3 at h ⊢
    exact xDq h2 a h
theorem xR9 (hy: ∀ q,ownF d=true->y= .ref q->True): ∀ {l:List (Str×D)} {vs:List (Str×V)},RepF κ (plT T N) (plus G N) l vs->(xA3 l vs).Nodup->(∀ q,ownF d=true->y= .ref q->q∉xA3 l vs)->(xA3 (xCk f d l) (putF f y vs)).Nodup
 | [],vs,r,nd,hq=>by
  rw [show vs=[] from r]
  show (xA3 [(f,d)] [(f,y)]).Nodup
  cases y with
  | ref q=>
   unfold xA3
   split
   ·exact yLo.mpr ⟨(fun z=>by cases z),yLw⟩
   ·exact yLw
  | _=>
   unfold xA3
   exact yLw
 | (k,c)::l,vs,r,nd,hq=>by
  obtain ⟨v,ws,rfl,h1,h2⟩:=r
  have sub:(xA3 l ws).Sublist (xA3 ((k,c)::l) ((k,v)::ws)):=by
   cases v with
   | ref q=>
    have e:xA3 ((k,c)::l) ((k,V.ref q)::ws)=if ownF c then q::xA3 l ws else xA3 l ws:=rfl
    rw [e]
    split
    ·exact List.sublist_cons_self ..
    ·exact List.Sublist.refl _
   | _=>exact List.Sublist.refl (xA3 l ws)
  have ndt:=nd.sublist sub
  unfold xCk putF
  by_cases z:k=f
  ·rw [if_pos z,if_pos z]
   cases y with
   | ref q=>
    unfold xA3
    split
    ·rename_i od
     exact yLo.mpr ⟨fun m=>hq q od rfl (sub.subset m),ndt⟩
    ·exact ndt
   | _=>
    unfold xA3
    exact ndt
  ·rw [if_neg z,if_neg z]
   have ih:=xR9 (f:=f) (y:=y) hy h2 ndt fun q od e m=>hq q od e (sub.subset m)
   cases v with
   | ref q=>
    unfold xA3 at nd hq ⊢
    split
    ·rename_i oc
     rw [if_pos oc] at nd hq
     refine yLo.mpr ⟨fun m=> ?_,ih⟩
     rcases xDq h2 q m with m|⟨od,e⟩
     ·exact (yLo.mp nd).1 m
     ·exact hq q od e (yK3 ..)
    ·exact ih
   | _=>
    unfold xA3
    exact ih
theorem xJb (hd:(d.nb || ownF d)=true): ∀ {l:List (Str×D)},fldB l=true->fldB (xCk f d l)=true
 | [],_=>by
  show ((d.nb || ownF d)&&true)=true
  rw [hd] <;> rfl
 | (k,c)::l,h=>by
  unfold fldB at h
  replace h:=allC h
  unfold xCk
  by_cases z:k=f
  ·rw [if_pos z]
   show ((d.nb || ownF d)&&_)=true
   rw [hd,Bool.true_and]
   exact h.2
  ·rw [if_neg z]
   show ((c.nb || ownF c)&&fldB (xCk f d l))=true
   rw [xJb hd h.2,Bool.and_true]
   exact h.1
end
section
variable {κ:Ctx}{B:Bas}{i:Nat}{ρ:List SD}{σ:L2.St}{H H2 G:Hp}{p:Addr}{N N2:Hp}{c:String}{l:List (Str×D)}{dx:Addr}{vs:List (Str×V)}
theorem Ok.swap (o:Ok κ (opB B i p N) ρ σ H G)(h1: ∀ a,N2 a≠none->B.H a=none/\G a=none)(h2: ∀ a u,N2 a=some u->H2 a=some u/\OwK u)(h3: ∀ a u,H a=some u->N2 a=none->H2 a=some u)(h4: ∀ (j:Nat) d q,ρ[j]? =some (SD.ow d)->σ[j]? =some (some (V.ref q))->N2 q=none)
  (h5: ∀ a,N a≠none->N2 a≠none) (h6:LamX.Tabs κ.tabs H2):Ok κ (opB B i p N2) ρ σ H2 G:=by
 have bN: ∀ {a:Addr} {u:HO},B.H a=some u->N2 a=none:=fun {a u} e=>yK6 fun z=>by
  rw [(h1 a z).1] at e
  cases e
 have bO: ∀ {a:Addr} {u:HO},B.H a=some u->plus B.H N a=some u:=fun {a u} e=>by
  have n2:=bN e
  have n:N a=none:=yK6 fun z=>h5 a z n2
  rw [xAc n]
  exact e
 refine ⟨⟨fun a u e nt=> ?_,fun a ps e=> ?_,fun a e=> ?_,o.fr.sub,fun a u e=> ?_,o.fr.notb,h6,fun a e=> ?_⟩,o.len,o.val,fun j d e=> ?_,o.sep,o.anch⟩
 ·have e:plus B.H N2 a=some u:=e
  cases z:N2 a with
  | some w=>
   rw [xAg z] at e
   cases e
   exact (h2 a _ z).1
  | none=>
   rw [xAc z] at e
   exact h3 a u (o.fr.keep a u (bO e) nt) z
 ·have e:plus B.H N2 a=some (.tbl ps):=e
  cases z:N2 a with
  | some w=>
   rw [xAg z] at e
   cases e
   exact (h2 a _ z).2
  | none=>
   rw [xAc z] at e
   exact o.fr.nt a ps (bO e)
 ·have e:plus B.H N2 a≠none:=e
  show G a=B.G a
  cases z:N2 a with
  | some w=>
   have g:=(h1 a (by rw [z];exact fun y=>nomatch y)).2
   cases y:B.G a with
   | none=>exact g
   | some u=>
    have:=o.fr.sub a u y
    rw [g] at this
    cases this
  | none=>
   rw [xAc z] at e
   cases y:B.H a with
   | none=>exact absurd y e
   | some u=>exact o.fr.frz a (by show plus B.H N a≠none;rw [bO y];exact fun q=>nomatch q)
 ·refine h3 a u (o.fr.gh a u e) ?_
  exact yK6 fun z=>by
   rw [(h1 a z).2] at e
   cases e
 ·have y:plus B.H N a≠none:=o.fr.lent a e
  show plus B.H N2 a≠none
  cases z:N2 a with
  | some w=>
   rw [xAg z]
   exact fun q=>nomatch q
  | none=>
   have n:N a=none:=yK6 fun q=>h5 a q z
   rw [xAc n] at y
   rw [xAc z]
   exact y
 ·obtain ⟨q,q1,q2,q3,q4⟩:=o.own j d e
  have nq:=h4 j d q e q1
  have n:N q=none:=yK6 fun y=>h5 q y nq
  obtain ⟨u,u1,_⟩:=q4.obj
  refine ⟨q,q1,q2,?_,q4.mono (Same.refl _) ((h3 q u u1 nq).trans u1.symm)⟩
  have q3:plus B.H N q=none:=q3
  rw [xAc n] at q3
  show plus B.H N2 q=none
  rw [xAc nq]
  exact q3
theorem xP5 (h:LamX.Tabs tabs H)(hp:H p=some u)(hu:OwK u)(hc: ∀ x,u≠LamX.CodeO p x):LamX.Tabs tabs (upd H p o):=fun t ht=>by
 obtain ⟨ps,t1,t2,t3⟩:=h t ht
 have n1:t.1≠p:=fun y=>by
  rw [y,hp] at t1
  exact hu.tbl ps (yLh.inj t1)
 refine ⟨ps,by rw [upd_ne n1];exact t1,t2,fun pos cv hc=> ?_⟩
 obtain ⟨c,c1,c2⟩:=t3 pos cv hc
 refine ⟨c,c1,?_⟩
 have n2:c≠p:=fun y=>by
  rw [y,hp] at c2
  subst y
  exact hc _ (yLh.inj c2)
 rw [upd_ne n2]
 exact c2
def OwJ:HO->Prop
 | .lst _=>True
 | .dK _=>True
 | .ins _ _ _=>True
 | _=>False
theorem OwJ.k (h:OwJ o):OwK o:=by cases o <;> first|exact True.intro|exact h.elim
theorem OwJ.nc (h:OwJ o):o≠LamX.CodeO p x:=fun z=>by
 unfold LamX.CodeO at z
 rw [z] at h
 exact h
theorem xSw (h:LamX.Tabs tabs H)(hp:H p=some u)(hu:OwJ u):LamX.Tabs tabs (upd H p o):=xP5 h hp hu.k fun _=>hu.nc
theorem xVc (h:ownF d=true)(r:Rep κ (plT T N) (plus G N) d (.ref q))(hw:N q=some w)(x:Str):w≠LamX.CodeO q x:=by
 cases d with
 | lst b l=>
  obtain ⟨a,vs,e,⟨h1,h2⟩,h3⟩:=r
  cases e
  rw [xAg hw] at h1
  cases h1
  exact OwJ.nc (o:= .lst vs) True.intro
 | dk b l=>
  cases b with
  | false=>cases h
  | true=>
   obtain ⟨a,vs,e,⟨h1,h2⟩,h3⟩:=r
   cases e
   have h1:=h1.own
   rw [xAg hw] at h1
   cases h1
   exact OwJ.nc (o:= .dK vs) True.intro
 | nv b l ss=>
  obtain ⟨a,vs,e,⟨⟨ks,h1,h5,_⟩,h2⟩,h3⟩:=r
  cases e
  rw [xAg hw] at h1
  cases h1
  exact NvO.ne_code h5
 | _=>cases h
end
def ownD:SD->Option D
 | .va d=>if d.nb then some d else none
 | .ow (.lst _ m)=>if nbL m then some (.lst true m) else none
 | .ow (.dk _ m)=>if nbK m then some (.dk true m) else none
 | _=>none
def yE7 (i:Nat)(c0:String)(f:Str)(r:SD):S:=fun ρ=>match ρ[i]? with
 | some (.ow (.ins b c l))=>if c=c0/\l.length<1000 then match ownD r with
  | some d=> .ok .nx (ρ.set i (.ow (.ins b c (xCk f d l))))
  | none=> .no
  else .no
 | _=> .no
def oSet (i:Nat)(c0:String)(f:Str)(m:M SD):S:=m.bind (yE7 i c0 f)
section
variable {κ:Ctx}{B:Bas}{i:Nat}{ρ:List SD}{σ:L2.St}{H G:Hp}{p:Addr}{N:Hp}{b:Bool}{c:String}{l:List (Str×D)}{dx:Addr}{vs:List (Str×V)}{f:Str}{d:D}{y:V}
theorem nd_p {f:Str}(n:NOk κ B G p N c l dx vs)(hy: ∀ q,ownF d=true->y= .ref q->q≠p/\q∉xA3 l vs):(p::xA3 (xCk f d l) (putF f y vs)).Nodup:=by
 obtain ⟨h1,h2⟩:=yLo.mp n.nd
 refine yLo.mpr ⟨fun m=> ?_,xR9 (fun _ _ _=>trivial) n.fld h2 fun q a b=>(hy q a b).2⟩
 rcases xDq n.fld p m with m|⟨a,b⟩
 ·exact h1 m
 ·exact (hy p a b).1 rfl
theorem xWb {j:Nat}(o:Ok κ (opB B i p N) ρ σ H G)(hj:ρ[j]? =some (SD.ow e))(hs:σ[j]? =some (some (V.ref q))):N q=none:=by
 obtain ⟨q',q1,_,q3,_⟩:=o.own j e hj
 rw [hs] at q1
 cases q1
 have q3:plus B.H N q=none:=q3
 cases z:N q with
 | none=>rfl
 | some w=>
  rw [xAg z] at q3
  cases q3
theorem NOk.ne_p (n:NOk κ B G p N c l dx vs){q:Addr}(h:N q=none):q≠p:=fun z=>by
 rw [z,n.here] at h
 cases h
theorem yJx (n:NOk κ B G p N c l dx vs)(hi:i<ρ.length)(o:Ok κ (opB B i p N) (ρ.set i .un) σ H G)(hd:d.nb=true)(r:Rep κ B.T G d y):
  OOkP κ B i p (upd N p (.ins (κ.cl c) dx (putF f y vs))) (ρ.set i (.ow (.ins b c (xCk f d l)))) σ (upd H p (.ins (κ.cl c) dx (putF f y vs))) G:=by
 have n0:N p≠none:=by rw [n.here];exact fun z=>nomatch z
 have of_: ∀ {a:Addr},upd N p (.ins (κ.cl c) dx (putF f y vs)) a≠none->N a≠none:=fun {a} h=>by
  by_cases ha:a=p
  ·rw [ha]
   exact n0
  ·rw [upd_ne ha] at h
   exact h
 have nf:ownF d=false:=by
  cases z:ownF d with
  | false=>rfl
  | true=>
   rw [yD1 z] at hd
   cases hd
 have hp:H p=some (.ins (κ.cl c) dx vs):=xBy o n.mu n.here
 have mu2: ∀ a u,upd N p (.ins (κ.cl c) dx (putF f y vs)) a=some u->OwK u:=fun a u h=>by
  by_cases ha:a=p
  ·rw [ha,upd_same] at h
   cases h
   exact True.intro
  ·rw [upd_ne ha] at h
   exact n.mu a u h
 have pn:p∉xA3 l vs:=(yLo.mp n.nd).1
 refine ⟨b,c,xCk f d l,dx,putF f y vs,⟨fun a h=>n.free a (of_ h),fun a h=>n.gfree a (of_ h),fun a h=>n.bg a (of_ h),fun a h=>n.nt a (of_ h),mu2,upd_same,?_,xJb (by rw [hd] <;> rfl) n.okF,nd_p n fun q a=>(by rw [nf] at a;cases a),fun a h=> ?_⟩,yK8 hi,?_⟩
 ·refine RepF.put f (Rep.mono (xF7 fun a h=>n.gfree a (of_ h)) d r) (RepF.move n.gfree (fun a h=>n.gfree a (of_ h)) n.mu n.nt n.okF (fun a h=>⟨upd_ne fun z=>pn (by rw [<- z];exact h),n.inN a h⟩) n.fld)
 ·rcases xDq n.fld a h with h|⟨h,_⟩
  ·rw [upd_ne fun z=>pn (by rw [<- z];exact h)]
   exact n.inN a h
  ·rw [nf] at h
   cases h
 ·rw [yMa]
  refine o.swap (fun a h=>⟨n.free a (of_ h),n.gfree a (of_ h)⟩) (fun a u h=>⟨?_,mu2 a u h⟩) (fun a u h h2=> ?_) (fun j e q hj hs=> ?_) (fun a h=> ?_) (xSw o.fr.tabs hp True.intro)
  ·by_cases ha:a=p
   ·rw [ha,upd_same] at h ⊢
    exact h
   ·rw [upd_ne ha] at h ⊢
    exact xBy o n.mu h
  ·have ha:a≠p:=fun z=>by
    rw [z,upd_same] at h2
    cases h2
   rw [upd_ne ha]
   exact h
  ·have nq:=xWb o hj hs
   rw [upd_ne (n.ne_p nq)]
   exact nq
  ·by_cases ha:a=p
   ·rw [ha,upd_same]
    exact fun z=>nomatch z
   ·rw [upd_ne ha]
    exact h
theorem yB3 (n:NOk κ B G p N c l dx vs)(hi:i<ρ.length)(o:Ok κ (opB B i p N) (ρ.set i .un) σ H G){q:Addr}{u:HO}(od:ownF d=true)(hg:G q=none)(hb:plus B.H N q=none)(hq:H q=some u)(ou:OwK u)
  (na: ∀ (j:Nat) e,(ρ.set i .un)[j]? =some (SD.ow e)->σ[j]? ≠some (some (V.ref q))) (r:Rep κ (fun a=>B.T a\/a=q) (upd G q u) d (.ref q)):
  OOkP κ B i p (upd (upd N q u) p (.ins (κ.cl c) dx (putF f (.ref q) vs))) (ρ.set i (.ow (.ins b c (xCk f d l)))) σ (upd H p (.ins (κ.cl c) dx (putF f (.ref q) vs))) G:=by
 have nq:N q=none:=by
  cases z:N q with
  | none=>rfl
  | some w=>
   rw [xAg z] at hb
   cases hb
 rw [xAc nq] at hb
 have qp:q≠p:=n.ne_p nq
 have n0:N p≠none:=by rw [n.here];exact fun z=>nomatch z
 have tq: ¬ B.T q:=o.nolend (show plus B.H N q=none by rw [xAc nq];exact hb)
 have bgq:B.G q=none:=by
  cases z:B.G q with
  | none=>rfl
  | some w=>
   have:=o.fr.sub q w z
   rw [hg] at this
   cases this
 have of_: ∀ {a:Addr},upd (upd N q u) p (.ins (κ.cl c) dx (putF f (.ref q) vs)) a≠none->N a≠none\/a=q:=fun {a} h=>by
  by_cases ha:a=p
  ·rw [ha]
   exact .inl n0
  ·rw [upd_ne ha] at h
   by_cases hq:a=q
   ·exact .inr hq
   ·rw [upd_ne hq] at h
    exact .inl h
 have to_: ∀ {a:Addr} {w:HO},N a=some w->a≠p->upd (upd N q u) p (.ins (κ.cl c) dx (putF f (.ref q) vs)) a=some w:=fun {a w} h ha=>by
  have hq:a≠q:=fun z=>by
   rw [z,nq] at h
   cases h
  rw [upd_ne ha,upd_ne hq]
  exact h
 have atq:upd (upd N q u) p (.ins (κ.cl c) dx (putF f (.ref q) vs)) q=some u:=by rw [upd_ne qp,upd_same]
 have hp:H p=some (.ins (κ.cl c) dx vs):=xBy o n.mu n.here
 have mu2: ∀ a w,upd (upd N q u) p (.ins (κ.cl c) dx (putF f (.ref q) vs)) a=some w->OwK w:=fun a w h=>by
  by_cases ha:a=p
  ·rw [ha,upd_same] at h
   cases h
   exact True.intro
  ·rw [upd_ne ha] at h
   by_cases hq:a=q
   ·rw [hq,upd_same] at h
    cases h
    exact ou
   ·rw [upd_ne hq] at h
    exact n.mu a w h
 have pn:p∉xA3 l vs:=(yLo.mp n.nd).1
 have gf2: ∀ a,upd (upd N q u) p (.ins (κ.cl c) dx (putF f (.ref q) vs)) a≠none->G a=none:=fun a h=>by
  rcases of_ h with h|rfl
  ·exact n.gfree a h
  ·exact hg
 refine ⟨b,c,xCk f d l,dx,putF f (.ref q) vs,⟨fun a h=> ?_,gf2,fun a h=> ?_,fun a h=> ?_,mu2,upd_same,?_,xJb (by rw [od,Bool.or_true]) n.okF,nd_p n fun q' a e=> ?_,fun a h=> ?_⟩,yK8 hi,?_⟩
 ·rcases of_ h with h|rfl
  ·exact n.free a h
  ·exact hb
 ·rcases of_ h with h|rfl
  ·exact n.bg a h
  ·exact bgq
 ·rcases of_ h with h|rfl
  ·exact n.nt a h
  ·exact tq
 ·refine RepF.put f (Rep.mono ⟨fun a w h=> ?_,fun a w k h ld=> ?_⟩ d r) (RepF.move n.gfree gf2 n.mu n.nt n.okF (fun a h=> ?_) n.fld)
  ·by_cases ha:a=q
   ·rw [ha,upd_same] at h
    cases h
    rw [ha]
    exact xAg atq
   ·rw [upd_ne ha] at h
    rw [xAc]
    ·exact h
    ·exact yK6 fun z=>by
      rw [gf2 a z] at h
      cases h
  ·by_cases ha:a=q
   ·subst ha
    exact ⟨fun _=>ld.mp (.inr rfl),fun _=> .inr (by rw [atq];exact fun z=>nomatch z)⟩
   ·rw [upd_ne ha] at h
    have nn:upd (upd N q u) p (.ins (κ.cl c) dx (putF f (.ref q) vs)) a=none:=yK6 fun z=>by
     rw [gf2 a z] at h
     cases h
    exact ⟨fun z=>ld.mp (.inl (z.elim id fun y=>absurd nn y)),fun z=>(ld.mpr z).elim .inl fun y=>absurd y ha⟩
  ·obtain ⟨w,hw⟩: ∃ w,N a=some w:=by
    cases z:N a with
    | none=>exact absurd z (n.inN a h)
    | some w=>exact ⟨w,rfl⟩
   exact ⟨(to_ hw fun z=>pn (by rw [<- z];exact h)).trans hw.symm,n.inN a h⟩
 ·cases e
  exact ⟨qp,fun m=>n.inN q m nq⟩
 ·rcases xDq n.fld a h with h|⟨_,e⟩
  ·obtain ⟨w,hw⟩: ∃ w,N a=some w:=by
    cases z:N a with
    | none=>exact absurd z (n.inN a h)
    | some w=>exact ⟨w,rfl⟩
   rw [to_ hw fun z=>pn (by rw [<- z];exact h)]
   exact fun z=>nomatch z
  ·cases e
   rw [atq]
   exact fun z=>nomatch z
 ·rw [yMa]
  refine o.swap (fun a h=> ?_) (fun a w h=>⟨?_,mu2 a w h⟩) (fun a w h h2=> ?_) (fun j e q' hj hs=> ?_) (fun a h=> ?_) (xSw o.fr.tabs hp True.intro)
  ·rcases of_ h with h|rfl
   ·exact ⟨n.free a h,n.gfree a h⟩
   ·exact ⟨hb,hg⟩
  ·by_cases ha:a=p
   ·rw [ha,upd_same] at h ⊢
    exact h
   ·rw [upd_ne ha] at h ⊢
    by_cases haq:a=q
    ·rw [haq,upd_same] at h
     cases h
     rw [haq]
     exact hq
    ·rw [upd_ne haq] at h
     exact xBy o n.mu h
  ·have ha:a≠p:=fun z=>by
    rw [z,upd_same] at h2
    cases h2
   rw [upd_ne ha]
   exact h
  ·have n2:=xWb o hj hs
   have e2:q'≠q:=fun z=>na j e hj (by rw [<- z];exact hs)
   rw [upd_ne (n.ne_p n2),upd_ne e2]
   exact n2
  ·obtain ⟨w,hw⟩: ∃ w,N a=some w:=by
    cases z:N a with
    | none=>exact absurd z h
    | some w=>exact ⟨w,rfl⟩
   by_cases ha:a=p
   ·rw [ha,upd_same]
    exact fun z=>nomatch z
   ·rw [to_ hw ha]
    exact fun z=>nomatch z
end
section
variable {κ:Ctx}{X:Cx}{A:List Nat}{W:WX}{i:Nat}{x:Str}{e:Expr}{f:Str}{m:M SD}{c0:String}{p1 p2 pos:Pos}
theorem xLf (hK:X.K=κ.K)(hc:Cls κ.K (κ.cl c0))(hn:NoAttr κ.K (κ.cl c0) f)(hv:PE X (.Name x p1) (tVar i))(h:PE X e (tEO κ W i m))
  (hs:swapsWith e (some (.Attribute (.Name x p1) f p2)) pos.line X.env=pure false:=by rfl):PS X (.Assign [.Attribute (.Name x p1) f p2] e pos) (tOb κ A W i (oSet i c0 f m)):=by
 refine PS.imp (ps_fld hv h hs) fun D σ H ⟨B,p,N,ρ,G,a,o,q⟩=>⟨B,p,N,ρ,G,o,PstG.mono (PstO.bind q) fun r ρ' p' N' H' G' o' s q' v rv=> ?_⟩
 obtain ⟨b,c,l,dx,vs,n,e1,ok⟩:=o'
 unfold yE7 at q'
 rw [e1] at q'
 dsimp only at q'
 by_cases hcl:c=c0/\l.length<1000
 ·rw [if_pos hcl] at q'
  obtain ⟨rfl,hl⟩:=hcl
  cases hd:ownD r with
  | none=>
   rw [hd] at q'
   exact q'.elim
  | some d=>
   rw [hd] at q'
   have hi:=xNc e1
   have hp:H' p'=some (.ins (κ.cl c) dx vs):=xBy ok n.mu n.here
   refine ⟨.ref p',ok.anch i p' (yK3 ..),p',κ.cl c,dx,vs,rfl,hp,hK ▸ hc,hK ▸ hn,by rw [n.fld.length];exact hl,?_⟩
   cases r with
   | un=>cases hd
   | va d'=>
    have hd:(if d'.nb then some d' else none)=some d:=hd
    split at hd
    ·rename_i nb
     cases hd
     exact q' _ _ σ _ G' (yJx n hi ok nb rv) (Same.refl G')
    ·cases hd
   | ow d'=>
    obtain ⟨qa,rfl,q1,q2,q3,q4⟩:=rv
    cases d' with
    | lst b' m'=>
     have hd:(if nbL m' then some (Fm.D.lst true m') else none)=some d:=hd
     split at hd
     ·rename_i nb
      cases hd
      obtain ⟨ws,w1,w2⟩:=q3
      refine q' _ _ σ _ G' (yB3 n hi ok (d:=_root_.Fm.D.lst true m') nb q1 q2 w1 True.intro q4 ?_) (Same.refl G')
      exact ⟨qa,ws,rfl,⟨upd_same,⟨fun _=>rfl,fun _=> .inr rfl⟩⟩,RepL.mono ⟨Same.upd q1,fun a u k ga ld=>⟨fun z=>ld.mp (z.elim id fun y=>by rw [y,q1] at ga;cases ga),fun z=> .inl (ld.mpr z)⟩⟩ m' w2⟩
     ·cases hd
    | dk b' m'=>
     have hd:(if nbK m' then some (Fm.D.dk true m') else none)=some d:=hd
     split at hd
     ·rename_i nb
      cases hd
      obtain ⟨ws,w1,w2⟩:=q3
      refine q' _ _ σ _ G' (yB3 n hi ok (d:=_root_.Fm.D.dk true m') nb q1 q2 w1 True.intro q4 ?_) (Same.refl G')
      exact ⟨qa,ws,rfl,⟨.inl upd_same,⟨fun _=>rfl,fun _=> .inr rfl⟩⟩,RepK.mono ⟨Same.upd q1,fun a u k ga ld=>⟨fun z=>ld.mp (z.elim id fun y=>by rw [y,q1] at ga;cases ga),fun z=> .inl (ld.mpr z)⟩⟩ m' w2⟩
     ·cases hd
    | _=>cases hd
 ·rw [if_neg hcl] at q'
  exact q'.elim
end
section
variable {κ:Ctx}{T:Pd}{G N N2:Hp}{f:Str}{d d2:D}{q:Addr}
theorem xBw:xA3 ((k,c)::l) ((k',.ref a)::vs)=if ownF c then a::xA3 l vs else xA3 l vs:=rfl
theorem xLs: ∀ {l:List (Str×D)} {vs:List (Str×V)},RepF κ (plT T N) (plus G N) l vs->l.lookup f=some d->ownF d=true->ownF d2=true->xA3 (xCk f d2 l) vs=xA3 l vs
 | [],vs,r,h,_,_=>by cases h
 | (k,c)::l,vs,r,h,od,o2=>by
  obtain ⟨v,ws,rfl,h1,h2⟩:=r
  unfold xCk
  by_cases z:f=k
  ·have hb:(f==k)=true:=beq_iff_eq.mpr z
   simp only [yMq,hb] at h
   cases h
   rw [if_pos z.symm]
   obtain ⟨a,rfl⟩:=xRa od h1
   rw [xBw,xBw,if_pos od,if_pos o2]
  ·have hb:(f==k)=false:=beq_eq_false_iff_ne.mpr z
   simp only [yMq,hb] at h
   rw [if_neg (fun y=>z y.symm)]
   have ih:=xLs h2 h od o2
   cases v with
   | ref a=>rw [xBw,xBw,ih]
   | _=>exact ih
theorem RepF.chg (gf: ∀ a,N a≠none->G a=none)(gf2: ∀ a,N2 a≠none->G a=none)(mu: ∀ a o,N a=some o->OwK o)(ht: ∀ a,N a≠none-> ¬ T a)(o2:ownF d2=true)(r2:Rep κ (plT T N2) (plus G N2) d2 (.ref q)): ∀ {l:List (Str×D)} {vs:List (Str×V)},fldB l=true->(xA3 l vs).Nodup->(∀ a∈xA3 l vs,(a≠q->N2 a=N a)/\N a≠none)->
  l.lookup f=some d->ownF d=true->vs.lookup f=some (.ref q)->RepF κ (plT T N) (plus G N) l vs->RepF κ (plT T N2) (plus G N2) (xCk f d2 l) vs
 | [],vs,_,_,_,h,_,_,_=>by cases h
 | (k,c)::l,vs,hf,nd,hq,h,od,hv,r=>by
  obtain ⟨v,ws,rfl,h1,h2⟩:=r
  unfold fldB at hf
  replace hf:=allC hf
  have sub:(xA3 l ws).Sublist (xA3 ((k,c)::l) ((k,v)::ws)):=by
   cases v with
   | ref a=>
    rw [xBw]
    split
    ·exact List.sublist_cons_self ..
    ·exact List.Sublist.refl _
   | _=>exact List.Sublist.refl (xA3 l ws)
  have ndt:=nd.sublist sub
  unfold xCk
  by_cases z:f=k
  ·have hb:(f==k)=true:=beq_iff_eq.mpr z
   simp only [yMq,hb] at h hv
   cases h
   cases hv
   rw [if_pos z.symm]
   rw [xBw,if_pos od] at nd
   have nq:=(yLo.mp nd).1
   exact ⟨.ref q,ws,rfl,r2,RepF.move gf gf2 mu ht hf.2 (fun a ha=>⟨(hq a (sub.subset ha)).1 fun y=>nq (by rw [<- y];exact ha),(hq a (sub.subset ha)).2⟩) h2⟩
  ·have hb:(f==k)=false:=beq_eq_false_iff_ne.mpr z
   simp only [yMq,hb] at h hv
   rw [if_neg (fun y=>z y.symm)]
   have mq:q∈xA3 l ws:=xGl h2 h od hv
   refine ⟨v,ws,rfl,Rep.moveF gf gf2 mu hf.1 (fun a e oc=> ?_) (fun a oc e t=> ?_) h1,RepF.chg gf gf2 mu ht o2 r2 hf.2 ndt (fun a ha=>hq a (sub.subset ha)) h od hv h2⟩
   ·subst e
    rw [xBw,if_pos oc] at nd hq
    exact (hq a (yK3 ..)).1 fun y=>(yLo.mp nd).1 (by rw [y];exact mq)
   ·subst e
    rw [xBw,if_pos oc] at hq
    exact ht a (hq a (yK3 ..)).2 t
end
section
variable {κ:Ctx}{B:Bas}{i:Nat}{ρ:List SD}{σ:L2.St}{H G:Hp}{p:Addr}{N:Hp}{b:Bool}{c:String}{l:List (Str×D)}{dx:Addr}{vs:List (Str×V)}{f:Str}{d d2:D}{q:Addr}{u:HO}
theorem yCu (n:NOk κ B G p N c l dx vs)(hi:i<ρ.length)(o:Ok κ (opB B i p N) (ρ.set i .un) σ H G)(hl:l.lookup f=some d)(od:ownF d=true)(hv:vs.lookup f=some (.ref q))(o2:ownF d2=true)(ou:OwK u)
  (r:Rep κ (fun a=>B.T a\/a=q) (upd G q u) d2 (.ref q)):OOkP κ B i p (upd N q u) (ρ.set i (.ow (.ins b c (xCk f d2 l)))) σ (upd H q u) G:=by
 have mq:q∈xA3 l vs:=xGl n.fld hl od hv
 have nq:N q≠none:=n.inN q mq
 obtain ⟨w,hw⟩: ∃ w,N q=some w:=by
  cases z:N q with
  | none=>exact absurd z nq
  | some w=>exact ⟨w,rfl⟩
 have nd2:=(yLo.mp n.nd).2
 have pn:p∉xA3 l vs:=(yLo.mp n.nd).1
 have pq:p≠q:=fun z=>pn (by rw [z];exact mq)
 have of_: ∀ {a:Addr},upd N q u a≠none->N a≠none:=fun {a} h=>by
  by_cases ha:a=q
  ·rw [ha]
   exact nq
  ·rw [upd_ne ha] at h
   exact h
 have gf2: ∀ a,upd N q u a≠none->G a=none:=fun a h=>n.gfree a (of_ h)
 have mu2: ∀ a w,upd N q u a=some w->OwK w:=fun a w h=>by
  by_cases ha:a=q
  ·rw [ha,upd_same] at h
   cases h
   exact ou
  ·rw [upd_ne ha] at h
   exact n.mu a w h
 have hq:H q=some w:=xBy o n.mu hw
 have fld0:Rep κ (plT B.T N) (plus G N) d (.ref q):=by
  obtain ⟨v,h1,h2⟩:=RepF.lkF n.fld hl
  rw [hv] at h1
  cases h1
  exact h2
 have e:=xLs (d2:=d2) n.fld hl od o2
 refine ⟨b,c,xCk f d2 l,dx,vs,⟨fun a h=>n.free a (of_ h),gf2,fun a h=>n.bg a (of_ h),fun a h=>n.nt a (of_ h),mu2,by rw [upd_ne pq];exact n.here,?_,xJb (by rw [o2,Bool.or_true]) n.okF,by rw [e];exact n.nd,fun a h=> ?_⟩,yK8 hi,?_⟩
 ·refine RepF.chg n.gfree gf2 n.mu n.nt o2 (Rep.mono ⟨fun a w' h=> ?_,fun a w' k h ld=> ?_⟩ d2 r) n.okF nd2 (fun a h=>⟨fun ha=>upd_ne ha,n.inN a h⟩) hl od hv n.fld
  ·by_cases ha:a=q
   ·rw [ha,upd_same] at h
    cases h
    rw [ha]
    exact xAg upd_same
   ·rw [upd_ne ha] at h
    rw [xAc]
    ·exact h
    ·exact yK6 fun z=>by
      rw [gf2 a z] at h
      cases h
  ·by_cases ha:a=q
   ·subst ha
    exact ⟨fun _=>ld.mp (.inr rfl),fun _=> .inr (by rw [upd_same];exact fun z=>nomatch z)⟩
   ·rw [upd_ne ha] at h
    have nn:upd N q u a=none:=yK6 fun z=>by
     rw [gf2 a z] at h
     cases h
    exact ⟨fun z=>ld.mp (.inl (z.elim id fun y=>absurd nn y)),fun z=>(ld.mpr z).elim .inl fun y=>absurd y ha⟩
 ·rw [e] at h
  by_cases ha:a=q
  ·rw [ha,upd_same]
   exact fun z=>nomatch z
  ·rw [upd_ne ha]
   exact n.inN a h
 ·rw [yMa]
  refine o.swap (fun a h=>⟨n.free a (of_ h),gf2 a h⟩) (fun a w' h=>⟨?_,mu2 a w' h⟩) (fun a w' h h2=> ?_) (fun j e' q' hj hs=> ?_) (fun a h=> ?_) (xP5 o.fr.tabs hq (n.mu q w hw) (xVc od fld0 hw))
  ·by_cases ha:a=q
   ·rw [ha,upd_same] at h ⊢
    exact h
   ·rw [upd_ne ha] at h ⊢
    exact xBy o n.mu h
  ·have ha:a≠q:=fun z=>by
    rw [z,upd_same] at h2
    cases h2
   rw [upd_ne ha]
   exact h
  ·have n2:=xWb o hj hs
   have e2:q'≠q:=fun z=>nq (by rw [<- z];exact n2)
   rw [upd_ne e2]
   exact n2
  ·by_cases ha:a=q
   ·rw [ha,upd_same]
    exact fun z=>nomatch z
   ·rw [upd_ne ha]
    exact h
theorem NOk.fldObj (n:NOk κ B G p N c l dx vs)(hl:l.lookup f=some d)(od:ownF d=true): ∃ q,vs.lookup f=some (.ref q)/\N q≠none/\Rep κ (plT B.T N) (plus G N) d (.ref q):=by
 obtain ⟨v,h1,h2⟩:=RepF.lkF n.fld hl
 obtain ⟨q,rfl⟩:=xRa od h2
 exact ⟨q,h1,n.inN q (xGl n.fld hl od h1),h2⟩
end
def xZ8 (i:Nat)(c0:String)(f:Str)(ds:List D):M SD:=fun ρ=>match ρ[i]? with
 | some (.ow (.ins b c l))=>match l.lookup f,ds with
  | some (.lst true m),[d]=>if m.length<1000000/\nbL m=true/\d.nb=true then .ok (.va .non) (ρ.set i (.ow (.ins b c (xCk f (.lst true (m++[d])) l)))) else .no
  | _,_=> .no
 | _=> .no
def xHg {α:Type}(i:Nat)(c0:String)(f:Str)(k:D->Bool)(m:M α):M α:=fun ρ=>match ρ[i]? with
 | some (.ow (.ins b c l))=>match l.lookup f with
  | some d=>if c=c0/\k d=true then m ρ else .no
  | none=> .no
 | _=> .no
def isLt:D->Bool
 | .lst true l=>nbL l
 | _=>false
def isDt:D->Bool
 | .dk true l=>nbK l
 | _=>false
def oApp (i:Nat)(c0:String)(f:Str)(n:M (List D)):M SD:=xHg i c0 f isLt (n.bind (xZ8 i c0 f))
def yFr (i:Nat)(c0:String)(f:Str)(d k:D):S:=fun ρ=>match ρ[i]? with
 | some (.ow (.ins b c l))=>match l.lookup f,xDd k with
  | some (.dk true m),some j=>if m.length<1000000/\nbK m=true/\d.nb=true then .ok .nx (ρ.set i (.ow (.ins b c (xCk f (.dk true (xB3 m j d)) l)))) else .no
  | _,_=> .no
 | _=> .no
def fO (m:M SD):M D:=m.bind fzM
def oPut (i:Nat)(c0:String)(f:Str)(mk me:M SD):S:=(fO me).bind fun d=>xHg i c0 f isDt ((xBk i (fE mk)).bind fun k=>yFr i c0 f d k)
theorem xYb: ∀ {m:List D} {d:D},nbL m=true->d.nb=true->nbL (m++[d])=true
 | [],d,_,h=>by
  show (d.nb&&true)=true
  rw [h] <;> rfl
 | e::m,d,hm,h=>by
  have hm':(e.nb&&nbL m)=true:=hm
  rw [yLc] at hm'
  show (e.nb&&nbL (m++[d]))=true
  rw [hm'.1,xYb hm'.2 h] <;> rfl
theorem yGr: ∀ {m:List (Key×D)} {k:Key} {d:D},nbK m=true->d.nb=true->nbK (xB3 m k d)=true:=by
 have ap: ∀ {m:List (Key×D)} {k:Key} {d:D},nbK m=true->d.nb=true->nbK (m++[(k,d)])=true:=by
  intro m
  induction m with
  | nil=>
   intro k d _ h
   show (d.nb&&true)=true
   rw [h] <;> rfl
  | cons e m ih=>
   intro k d hm h
   have hm':(e.2.nb&&nbK m)=true:=hm
   rw [yLc] at hm'
   show (e.2.nb&&nbK (m++[(k,d)]))=true
   rw [hm'.1,ih hm'.2 h] <;> rfl
 have mp: ∀ {m:List (Key×D)} {k:Key} {d:D},nbK m=true->d.nb=true->nbK (m.map fun kv=>if kv.1=k then (kv.1,d) else kv)=true:=by
  intro m
  induction m with
  | nil=>
   intro k d _ h
   rfl
  | cons e m ih=>
   intro k d hm h
   have hm':(e.2.nb&&nbK m)=true:=hm
   rw [yLc] at hm'
   rw [yLx]
   by_cases z:e.1=k
   ·rw [if_pos z]
    show (d.nb&&nbK (m.map fun kv=>if kv.1=k then (kv.1,d) else kv))=true
    rw [h,ih hm'.2 h] <;> rfl
   ·rw [if_neg z]
    show (e.2.nb&&nbK (m.map fun kv=>if kv.1=k then (kv.1,d) else kv))=true
    rw [hm'.1,ih hm'.2 h] <;> rfl
 intro m k d hm h
 unfold xB3
 split
 ·exact mp hm h
 ·exact ap hm h
section
variable {κ:Ctx}{W:WX}{B:Bas}{i:Nat}{ρ:List SD}{σ:L2.St}{H G:Hp}{p:Addr}{N:Hp}
theorem xNv {α:Type}{c0:String}{f:Str}{kk:D->Bool}{m:M α}{k:α->List SD->Addr->Hp->Hp->Hp->Prop}{b:Bool}{c:String}{l:List (Str×D)}(e:ρ[i]? =some (.ow (.ins b c l)))(q:PstG κ W B i σ G (xHg i c0 f kk m ρ) k): ∃ d,l.lookup f=some d/\c=c0/\kk d=true/\PstG κ W B i σ G (m ρ) k:=by
 unfold xHg at q
 rw [e] at q
 dsimp only at q
 cases h:l.lookup f with
 | none=>
  rw [h] at q
  exact q.elim
 | some d=>
  rw [h] at q
  dsimp only at q
  by_cases z:c=c0/\kk d=true
  ·rw [if_pos z] at q
   exact ⟨d,rfl,z.1,z.2,q⟩
  ·rw [if_neg z] at q
   exact q.elim
theorem xUi {kk:D->Bool}(e:ρ[i]? =some (.ow (.ins b c l)))(q:PstO κ W B i G (xHg i c0 f kk m ρ) E): ∃ d,l.lookup f=some d/\c=c0/\kk d=true/\PstO κ W B i G (m ρ) E:=by
 unfold xHg at q
 rw [e] at q
 dsimp only at q
 cases h:l.lookup f with
 | none=>
  rw [h] at q
  exact q.elim
 | some d=>
  rw [h] at q
  dsimp only at q
  by_cases z:c=c0/\kk d=true
  ·rw [if_pos z] at q
   exact ⟨d,rfl,z.1,z.2,q⟩
  ·rw [if_neg z] at q
   exact q.elim
theorem yId {k:D->List SD->Addr->Hp->Hp->Hp->Prop}(o:OOkP κ B i p N ρ σ H G)(h:PstG κ W B i σ G (fO m ρ) k)
  (f: ∀ d ρ' p' N' H' G',OOkP κ B i p' N' ρ' σ H' G'->Same G G'->k d ρ' p' N' H' G'-> ∀ v,Rep κ B.T G' d v->Q v H'):tEO κ W i m σ H Q:=by
 refine ⟨B,p,N,ρ,G,o,PstG.mono (PstG.bind h) fun r ρ' p' N' H' G' o' s h' v rv=> ?_⟩
 cases r with
 | va d=>exact f d ρ' p' N' H' G' o' s (h' p' N' H' G' o' (Same.refl G')) v rv
 | ow d=>
  obtain ⟨b,c,l,dx,vs,n,e,ok⟩:=o'
  obtain ⟨G2,s2,o2,r2⟩:=ok.frzR rv
  have o3:OOkP κ B i p' N' ρ' σ H' G2:=⟨b,c,l,dx,vs,n.mono s2 (xS0 ok n o2),e,o2⟩
  exact f _ ρ' p' N' H' G2 o3 (s.trans s2) (h' p' N' H' G2 o3 s2) v r2
 | un=>exact rv.elim
theorem yCs (n0:N p=some (.ins (κ.cl c) dx vs))(o:OOkP κ B i p N ρ σ H G)(e:ρ[i]? =some (.ow (.ins b c l)))(hv:vs.lookup f=some (.ref q))(r:RepL κ B.T G ds xs)
  (k:PstG κ W B i σ G (xZ8 i c0 f ds ρ) fun r ρ' p N H' G'=> ∀ v,RepR κ (opB B i p N) (ρ'.set i .un) σ H' G' r v->Q v H'):rAppend (.ref q) xs H Q:=by
 obtain ⟨b',c',l',dx',vs',n,e',ok⟩:=o
 rw [e] at e'
 cases e'
 have n1:=n.here
 rw [n0] at n1
 cases n1
 unfold xZ8 at k
 rw [e] at k
 dsimp only at k
 split at k
 ·rename_i m d hl
  split at k
  ·rename_i z
   obtain ⟨z1,z2,z3⟩:=z
   obtain ⟨y,ys,rfl,r1,rfl⟩:=r
   obtain ⟨q',g1,g2,g3⟩:=n.fldObj hl (show nbL m=true from z2)
   rw [hv] at g1
   cases g1
   obtain ⟨a,ws,ea,⟨g4,g5⟩,g6⟩:=g3
   cases ea
   obtain ⟨w,hw⟩: ∃ w,N q=some w:=by
    cases z:N q with
    | none=>exact absurd z g2
    | some w=>exact ⟨w,rfl⟩
   rw [xAg hw] at g4
   cases g4
   have g7:RepL κ B.T G m ws:=RepL.out n.mu m z2 g6
   have gq:=n.gfree q g2
   have mo:Mono B.T G (fun a=>B.T a\/a=q) (upd G q (.lst (ws++[y]))):=⟨Same.upd gq,fun a u k ga ld=>⟨fun z=>ld.mp (z.elim id fun y=>by rw [y,gq] at ga;cases ga),fun z=> .inl (ld.mpr z)⟩⟩
   refine ⟨q,ws,y,rfl,rfl,xBy ok n.mu hw,by rw [g7.length,sizeLine_eq];omega,?_⟩
   refine k p _ _ G (yCu n (xNc e) ok hl (show nbL m=true from z2) hv (d2:= .lst true (m++[d])) (xYb z2 z3) (u:= .lst (ws++[y])) True.intro ?_) (Same.refl G) .non rfl
   exact ⟨q,_,rfl,⟨upd_same,⟨fun _=>rfl,fun _=> .inr rfl⟩⟩,RepL.mono mo _ (g7.append (RepL.one r1))⟩
  ·exact k.elim
 ·exact k.elim
end
section
variable {κ:Ctx}{X:Cx}{A:List Nat}{W:WX}{i:Nat}{x:Str}{e:Expr}{f:Str}{c0:String}{p1 p2 apos cpos pos:Pos}
theorem xRi {ρ:List SD}{σ:L2.St}{H G:Hp}{Q:VK}(n:NOk κ B G p N c l dx vs)(ok:Ok κ (opB B i p N) (ρ.set i .un) σ H G)(hc:Cls κ.K (κ.cl c))(hn:NoAttr κ.K (κ.cl c) f)
  {q:Addr} (hv:vs.lookup f=some (.ref q)) (h:Q (.ref q) H):tFld κ.K (tVar i) f σ H Q:=
 ⟨.ref p,ok.anch i p (yK3 ..),p,κ.cl c,dx,vs,.ref q,rfl,xBy ok n.mu n.here,hc,hn,hv,h⟩
theorem xM5 (h:isLt d=true): ∃ m,d= .lst true m/\nbL m=true:=by
 cases d with
 | lst b m=>
  cases b with
  | true=>exact ⟨m,rfl,h⟩
  | false=>cases h
 | _=>cases h
theorem yA7 (h:isDt d=true): ∃ m,d= .dk true m/\nbK m=true:=by
 cases d with
 | dk b m=>
  cases b with
  | true=>exact ⟨m,rfl,h⟩
  | false=>cases h
 | _=>cases h
theorem yHj (hK:X.K=κ.K)(hc:Cls κ.K (κ.cl c0))(hn:NoAttr κ.K (κ.cl c0) f)(hv:PE X (.Name x p1) (tVar i))(ha:PA X [e] (tA κ W n))(hb:attributeBase (.Name x p1) f X.env (eval (.Name x p1) X.env)=eval (.Name x p1) X.env:=by rfl)
  (hbase:attributeBase (.Attribute (.Name x p1) f p2) "append" X.env (eval (.Attribute (.Name x p1) f p2) X.env)=eval (.Attribute (.Name x p1) f p2) X.env:=by rfl)
  (hfew:((backTo cpos (starEach [e] X.env)).all (fun x=> !x.1)&&(backToKw cpos (keywordEach [] X.env)).all (fun x=>x.1.isSome)&&decide (([e]:List Expr).length+([]:List Keyword).length+(if ([]:List Keyword).isEmpty then 0 else 1)<30))=true:=by rfl)
  (hline:(apos.endLine==cpos.line)=true:=by rfl) (hs:starEach [e] X.env=(false,eval e X.env)::starEach [] X.env:=by rfl) (hplain:(backTo cpos (starEach ([]:List Expr) X.env)).any (·.1)=false:=by rfl)
  (hw:swapsWith (.Call (.Attribute (.Attribute (.Name x p1) f p2) "append" apos) [e] [] cpos) none pos.line X.env=pure false:=by rfl):
  PS X (.Expr (.Call (.Attribute (.Attribute (.Name x p1) f p2) "append" apos) [e] [] cpos) pos) (tOb κ A W i (xEs (oApp i c0 f (xF6 i nbL n)))):=by
 refine PS.imp (ps_expr (pe_bm PySem.F.plainAttrs_list PySem.F.slot_list_append PySem.F.type_list_append mt_append (pe_fld hv hb) ha hbase hfew hline hs hplain) hw) fun D σ H ⟨B,p,N,ρ,G,a,⟨b,c,l,dx,vs,nk,e1,ok⟩,q⟩=> ?_
 obtain ⟨d,h1,rfl,h2,q2⟩:=xNv e1 (PstO.bind (σ:=σ) q)
 obtain ⟨m,rfl,h3⟩:=xM5 h2
 obtain ⟨qa,g1,g2,g3⟩:=nk.fldObj h1 (show nbL m=true from h3)
 obtain ⟨aa,ws,ea,⟨g4,g5⟩,g6⟩:=g3
 cases ea
 obtain ⟨w,hw⟩: ∃ w,N qa=some w:=by
  cases z:N qa with
  | none=>exact absurd z g2
  | some w=>exact ⟨w,rfl⟩
 rw [xAg hw] at g4
 cases g4
 rw [hK]
 refine xRi (Q:=fun x H1=>tyV κ.K "list" x H1/\tA κ W n σ H1 fun xs H2=>rAppend x xs H2 fun _ H'=>D.nx σ H') nk ok hc hn g1 ?_
 refine ⟨.inl ⟨rfl,ws,SqL.of (xBy ok nk.mu hw)⟩,?_⟩
 refine ⟨lnB B i p N,ρ.set i (.va (.ins true c l)),plus G N,nk.lend (xNc e1) ok,Pst.mono (PstG.ln nk e1 ok (PstG.bind q2)) fun ds ρ1 H1 G1 o1 s1 ⟨nb,G2,e2,gs,z,ok2,r1,r2,r4⟩ xs rs=> ?_⟩
 exact yCs nk.here ok2 (yK8 (xGf o1 (yK3 ..))) g1 (r2 nb rs) (PstG.mono z fun r ρ' p' N' H' G' o' s' k v rv=>k p' N' σ H' G' o' (Same.refl G'))
theorem yKf (hK:X.K=κ.K)(hc:Cls κ.K (κ.cl c0))(hn:NoAttr κ.K (κ.cl c0) f)(hv:PE X (.Name x p1) (tVar i))(ha:PA X [e] (tA κ W n))(hb:attributeBase (.Name x p1) f X.env (eval (.Name x p1) X.env)=eval (.Name x p1) X.env:=by rfl)
  (hbase:attributeBase (.Attribute (.Name x p1) f p2) "append" X.env (eval (.Attribute (.Name x p1) f p2) X.env)=eval (.Attribute (.Name x p1) f p2) X.env:=by rfl)
  (hfew:((backTo cpos (starEach [e] X.env)).all (fun x=> !x.1)&&(backToKw cpos (keywordEach [] X.env)).all (fun x=>x.1.isSome)&&decide (([e]:List Expr).length+([]:List Keyword).length+(if ([]:List Keyword).isEmpty then 0 else 1)<30))=true:=by rfl)
  (hline:(apos.endLine==cpos.line)=true:=by rfl) (hs:starEach [e] X.env=(false,eval e X.env)::starEach [] X.env:=by rfl) (hplain:(backTo cpos (starEach ([]:List Expr) X.env)).any (·.1)=false:=by rfl)
  (hw:swapsWith (.Call (.Attribute (.Attribute (.Name x p1) f p2) "append" apos) [e] [] cpos) none pos.line X.env=pure false:=by rfl):
  PS X (.Expr (.Call (.Attribute (.Attribute (.Name x p1) f p2) "append" apos) [e] [] cpos) pos) (tOb κ A W i (xEs (oApp i c0 f (xBk i n)))):=by
 refine PS.imp (ps_expr (pe_bm PySem.F.plainAttrs_list PySem.F.slot_list_append PySem.F.type_list_append mt_append (pe_fld hv hb) ha hbase hfew hline hs hplain) hw) fun D σ H ⟨B,p,N,ρ,G,a,⟨b,c,l,dx,vs,nk,e1,ok⟩,q⟩=> ?_
 obtain ⟨d,h1,rfl,h2,q2⟩:=xNv e1 (PstO.bind (σ:=σ) q)
 obtain ⟨m,rfl,h3⟩:=xM5 h2
 obtain ⟨qa,g1,g2,g3⟩:=nk.fldObj h1 (show nbL m=true from h3)
 obtain ⟨aa,ws,ea,⟨g4,g5⟩,g6⟩:=g3
 cases ea
 obtain ⟨w,hw⟩: ∃ w,N qa=some w:=by
  cases z:N qa with
  | none=>exact absurd z g2
  | some w=>exact ⟨w,rfl⟩
 rw [xAg hw] at g4
 cases g4
 rw [hK]
 refine xRi (Q:=fun x H1=>tyV κ.K "list" x H1/\tA κ W n σ H1 fun xs H2=>rAppend x xs H2 fun _ H'=>D.nx σ H') nk ok hc hn g1 ?_
 refine ⟨.inl ⟨rfl,ws,SqL.of (xBy ok nk.mu hw)⟩,?_⟩
 refine ⟨opB B i p N,ρ.set i .un,G,ok,Pst.mono (PstG.op nk e1 ok (PstG.bind q2)) fun ds ρ1 H1 G1 o1 s1 ⟨z,gs⟩ xs rs=> ?_⟩
 exact yCs nk.here (OOkP.op nk ok o1 s1) (yK8 (xGf o1 (yK3 ..))) g1 rs (PstG.mono z fun r ρ' p' N' H' G' o' s' k v rv=>k p' N' σ H' G' o' (Same.refl G'))
theorem yFs (hK:X.K=κ.K)(hu:X.A.units+65<cLine)(hc:Cls κ.K (κ.cl c0))(hn:NoAttr κ.K (κ.cl c0) f)(hv:PE X (.Name x p1) (tVar i))(hk:PE X k (tE κ W mk))(he:PE X e (tEO κ W i me))(hb:attributeBase (.Name x p1) f X.env (eval (.Name x p1) X.env)=eval (.Name x p1) X.env:=by rfl)
  (ha: ∀ v,assign (.Subscript (.Attribute (.Name x p1) f p2) k p3) X.env v=(do
   let ov <- holding [v] (eval (.Attribute (.Name x p1) f p2) X.env)
   let iv <- holding [v,ov] (eval k X.env)
   standAt p3;holding [v,ov,iv] (setItem ov iv v);release [v,ov,iv] []):=by intro _;rfl)
  (hs:swapsWithSole [.Subscript (.Attribute (.Name x p1) f p2) k p3] e pos.line X.env=pure false:=by rfl) (hw:swappedStores [.Subscript (.Attribute (.Name x p1) f p2) k p3] e X.env=pure none:=by rfl)
  (h1:(assignEach [.Subscript (.Attribute (.Name x p1) f p2) k p3] X.env).map (·.2)=[assign (.Subscript (.Attribute (.Name x p1) f p2) k p3) X.env]:=by rfl):
  PS X (.Assign [.Subscript (.Attribute (.Name x p1) f p2) k p3] e pos) (tOb κ A W i (oPut i c0 f mk me)):=by
 refine PS.imp (ps_asg he (pg_sub (pe_fld hv hb) hk (yKz (by omega)) ha) hs hw h1) fun D σ H ⟨B,p,N,ρ,G,a,o,q⟩=> ?_
 refine yId o (PstO.bind q) fun d ρ1 p1' N1 H1 G1 o1 s1 q1 v1 r1=> ?_
 obtain ⟨b,c,l,dx,vs,nk,e1,ok⟩:=o1
 obtain ⟨dd,hl,rfl,h2,q2⟩:=xUi e1 q1
 obtain ⟨m,rfl,h3⟩:=yA7 h2
 obtain ⟨qa,g1,g2,g3⟩:=nk.fldObj hl (show nbK m=true from h3)
 obtain ⟨w,hw⟩: ∃ w,N1 qa=some w:=by
  cases z:N1 qa with
  | none=>exact absurd z g2
  | some w=>exact ⟨w,rfl⟩
 obtain ⟨aa,ws,ea,⟨g4,g5⟩,g6⟩:=g3
 cases ea
 have g4:=g4.own
 rw [xAg hw] at g4
 cases g4
 rw [hK]
 refine xRi nk ok hc hn g1 ?_
 refine xB1 ok (PstG.op nk e1 ok (PstO.bind q2)) fun kd ρ2 H2 G2 o2 s2 ⟨z,gs⟩ v2 r2=> ?_
 have ok2:=OOkP.op (b:=b) nk ok o2 s2
 have e2:(ρ2.set i (.ow (.ins b c l)))[i]? =some (.ow (.ins b c l)):=yK8 (xGf o2 (yK3 ..))
 obtain ⟨b',c',l',dx',vs',n,e',okk⟩:=ok2
 rw [e2] at e'
 cases e'
 have n1:=n.here
 rw [nk.here] at n1
 cases n1
 unfold yFr at z
 rw [e2] at z
 dsimp only at z
 rw [hl] at z
 cases hj:xDd kd with
 | none=>
  rw [hj] at z
  exact z.elim
 | some j=>
  rw [hj] at z
  dsimp only at z
  by_cases y:m.length<1000000/\nbK m=true/\d.nb=true
  ·rw [if_pos y] at z
   obtain ⟨y1,y2,y3⟩:=y
   have g7:RepK κ B.T G2 m ws:=RepK.mono (.of s2) m (RepK.out nk.mu m y2 g6)
   have gq:=n.gfree qa g2
   have mo:Mono B.T G2 (fun a=>B.T a\/a=qa) (upd G2 qa (.dK (putK ws j v1))):=⟨Same.upd gq,fun a u k ga ld=>⟨fun z=>ld.mp (z.elim id fun y=>by rw [y,gq] at ga;cases ga),fun z=> .inl (ld.mpr z)⟩⟩
   refine .inr ⟨qa,upd H2 qa (.dK (putK ws j v1)),rfl,?_,?_⟩
   ·rw [xH1 r2 hj]
    exact DPut.k (xBy okk n.mu hw) (by rw [g7.length,sizeLine_eq];omega)
   ·refine z p1' _ σ _ G2 (yCu n (xNc e2) okk hl (show nbK m=true from y2) g1 (d2:= .dk true (xB3 m j d)) (yGr y2 y3) (u:= .dK (putK ws j v1)) True.intro ?_) (Same.refl G2)
    exact ⟨qa,_,rfl,⟨.inl upd_same,⟨fun _=>rfl,fun _=> .inr rfl⟩⟩,RepK.mono mo _ (g7.put j (Rep.mono (.of s2) d r1))⟩
  ·rw [if_neg y] at z
   exact z.elim
end
def goI (i:Nat)(g:D->List SD->Option (List SD)):D->List SD->Option (List SD):=fun d ρ=>match ρ[i]? with
 | some x=>(g d (ρ.set i .un)).map fun ρ'=>ρ'.set i x
 | none=>none
def tIO (κ:Ctx)(W:WX)(i:Nat)(m:M (List D)):TI:=fun σ H R=> ∃ B p N ρ G,OOkP κ B i p N ρ σ H G/\PstG κ W B i σ G (m ρ) fun l ρ' p N H' G'=> ∀ J,ItD κ B.T G' J l->R J H'
def yFt (i:Nat)(m:M SD):M (List D):=(xF6 i D.nb (fE m)).bind seqM
section
variable {κ:Ctx}{X:Cx}{A vs:List Nat}{W:WX}{i:Nat}{e tg:Expr}{pos:Pos}
theorem yGo (h:PI X tg e (tI κ W m)):PI X tg e (tIO κ W i (xBk i m)):=PI.imp h fun σ H R ⟨B,p,N,ρ,G,⟨b,c,l,dx,ws,n,e,o⟩,q⟩=>
 ⟨opB B i p N,ρ.set i .un,G,o,Pst.mono (PstG.op n e o q) fun l ρ1 H1 G1 o1 s1 ⟨z,_⟩ J hJ=>z J hJ⟩
theorem yKc (hK:X.K=κ.K)(h:PE X e (tE κ W m)):PI X tg e (tIO κ W i (yFt i m)):=by
 refine PI.imp (PI.or (pi_list h) (PI.or (pi_tup h) (pi_str h))) fun σ H R ⟨B,p,N,ρ,G,⟨b,c,l,dx,ws,n,e1,o⟩,q⟩=> ?_
 have q1:=PstG.ln n e1 o (PstG.bind q)
 have o1:=n.lend (xNc e1) o
 cases em:fE m (ρ.set i (.va (.ins true c l))) with
 | ex x ρ'=>
  refine .inl (xB1 (k:=fun _ _ _ _=>False) o1 ?_ fun _ _ _ _ _ _ z=>z.elim)
  rw [em]
  rw [em] at q1
  exact q1
 | no=>
  rw [em] at q1
  exact q1.elim
 | ok d ρ'=>
  rw [em] at q1
  cases d with
  | lst b' m'=>
   refine .inl (xB1 (k:=fun d ρ1 H1 G1=>d= .lst b' m'/\ ∃ G2,nbL m'=true/\b'=false/\G1=plus G2 N/\(∀ J,ItD κ B.T G2 J m'->R J H1)/\OOkP κ B i p N (ρ1.set i (.ow (.ins b c l))) σ H1 G2/\ ∀ {d:D} {v:V},d.nb=true->Rep κ (plT B.T N) G1 d v->Rep κ B.T G2 d v) o1 ?_ fun d ρ1 H1 G1 o1 s1 z v r=> ?_)
   ·rw [em]
    intro H1 G1 o2 s2
    obtain ⟨nb,G2,e2,gs,z,ok2,r1,r2,r4⟩:=q1 H1 G1 o2 s2
    have nb':(!b'&&nbL m')=true:=nb
    rw [yLc,yL3] at nb'
    exact ⟨rfl,G2,nb'.2,nb'.1,e2,fun J hJ=>z p N H1 G2 ok2 (Same.refl G2) J hJ,ok2,r1⟩
   ·obtain ⟨rfl,G2,nb,rfl,rfl,z,ok2,r1⟩:=z
    have r3:=r1 (d:= .lst false m') (by show (!false&&nbL m')=true;rw [nb] <;> rfl) r
    obtain ⟨b2,c2,l2,dx2,vs2,n2,e3,ok3⟩:=ok2
    obtain ⟨a,us,rfl,h1,h2,h3⟩:=r3.seqL ok3.fr.gh
    refine ⟨a,rfl,⟨us,hK ▸ h2⟩,?_⟩
    rw [hK]
    exact z _ (xS1 h1 h3)
  | tup m'=>
   refine .inr (.inl (xB1 (k:=fun d ρ1 H1 G1=>d= .tup m'/\ ∃ G2,nbL m'=true/\G1=plus G2 N/\(∀ J,ItD κ B.T G2 J m'->R J H1)/\OOkP κ B i p N (ρ1.set i (.ow (.ins b c l))) σ H1 G2/\ ∀ {d:D} {v:V},d.nb=true->Rep κ (plT B.T N) G1 d v->Rep κ B.T G2 d v) o1 ?_ fun d ρ1 H1 G1 o1 s1 z v r=> ?_))
   ·rw [em]
    intro H1 G1 o2 s2
    obtain ⟨nb,G2,e2,gs,z,ok2,r1,r2,r4⟩:=q1 H1 G1 o2 s2
    exact ⟨rfl,G2,nb,e2,fun J hJ=>z p N H1 G2 ok2 (Same.refl G2) J hJ,ok2,r1⟩
   ·obtain ⟨rfl,G2,nb,rfl,z,ok2,r1⟩:=z
    have r3:=r1 (d:= .tup m') nb r
    obtain ⟨b2,c2,l2,dx2,vs2,n2,e3,ok3⟩:=ok2
    obtain ⟨a,us,rfl,h1,h3⟩:=r3
    refine ⟨a,rfl,⟨us,hK ▸ h1.sq ok3.fr.gh⟩,?_⟩
    rw [hK]
    exact z _ (xV4 h1 h3)
  | str x=>
   refine .inr (.inr (xB1 (k:=fun d ρ1 H1 G1=>d= .str x/\ ∃ G2,∀ J,ItD κ B.T G2 J (x.cps.toList.map fun c=>D.str ⟨#[c]⟩)->R J H1) o1 ?_ fun d ρ1 H1 G1 o1 s1 z v r=> ?_))
   ·rw [em]
    intro H1 G1 o2 s2
    obtain ⟨nb,G2,e2,gs,z,ok2,r1,r2,r4⟩:=q1 H1 G1 o2 s2
    exact ⟨rfl,G2,fun J hJ=>z p N H1 G2 ok2 (Same.refl G2) J hJ⟩
   ·obtain ⟨rfl,G2,z⟩:=z
    cases (show v=V.str x from r)
    exact ⟨x,rfl,z _ xWh⟩
  | _=>
   refine .inl (xB1 (k:=fun _ _ _ _=>False) o1 ?_ fun _ _ _ _ _ _ z=>z.elim)
   rw [em]
   intro H1 G1 o2 s2
   obtain ⟨nb,G2,e2,gs,z,ok2,r1,r2,r4⟩:=q1 H1 G1 o2 s2
   exact z.elim
theorem yAd {g:D->List SD->Option (List SD)}(hp:PassesOwn (model X.prog X.w) X.A X.env X.xe)(hc:X.calm=true)(hi:PI X tg e (tIO κ W i m))(hg:PG X tg (tG κ (i::A) vs g))(hb:PSs X body (tOb κ A W i b))
  (hs: ∀ x,foldedSetIterable e X.env x=pure x:=by intro _;rfl):PS X (.For tg e body [] pos) (tOb κ A W i (sFor m (goI i g) b)):=by
 refine PS.imp (ps_for hp hc hi hg hb hs) fun D σ H ⟨B,p,N,ρ,G,a,o,q⟩=>⟨B,p,N,ρ,G,o,PstG.mono (PstO.bind q) fun l ρ0 p0 N0 H0 G0 o0 s0 q0 J hJ=> ?_⟩
 refine ⟨fun j n σ' H'=>n=l.length-j/\j<=l.length/\ ∃ p' N' ρ' G',OOkP κ B i p' N' ρ' σ' H' G'/\Same G0 G'/\PstO κ W B i G' (forL (goI i g) b (l.drop j) ρ') D,⟨l.length,by simp,yLy _,p0,N0,ρ0,G0,o0,Same.refl _,q0⟩,?_⟩
 rintro j n σ1 H1 ⟨rfl,hj,p1,N1,ρ1,G1,o1,s1,q1⟩
 obtain ⟨bb,c,fl,dx,ws,nk,e1,ok⟩:=o1
 obtain ⟨j1,j2,j3⟩:=hJ j (opB B i p1 N1) (ρ1.set i .un) σ1 H1 G1 rfl ok s1
 by_cases hlt:j<l.length
 ·refine .inr ⟨j1 hlt,fun σ' H'=>j+1<=l.length/\ ∃ p' N' ρ' G',OOkP κ B i p' N' ρ' σ' H' G'/\Same G0 G'/\PstO κ W B i G' (forL (goI i g) b (l.drop (j+1)) ρ') D,fun σ' H' ⟨h1,h2⟩=>⟨l.length-(j+1),by omega,rfl,h1,h2⟩,fun x H2 y=> ?_⟩
  obtain ⟨G2,o2,s2,_,r2⟩:=j3 l[j] (yLb hlt) x H2 y
  rw [yL1 hlt] at q1
  have q1':PstO κ W B i G1 (match goI i g l[j] ρ1 with
   | none=> .no
   | some ρ1=>match b ρ1 with
    | .ok .nx ρ2=>forL (goI i g) b (l.drop (j+1)) ρ2
    | .ok .ct ρ2=>forL (goI i g) b (l.drop (j+1)) ρ2
    | .ok .bk ρ2=> .ok .nx ρ2
    | r=>r) D:=q1
  have ego:goI i g l[j] ρ1=(g l[j] (ρ1.set i .un)).map fun ρ'=>ρ'.set i (.ow (.ins bb c fl)):=by
   unfold goI
   rw [e1]
  cases eg:g l[j] (ρ1.set i .un) with
  | none=>
   rw [ego,eg] at q1'
   exact q1'.elim
  | some ρ2=>
   rw [ego,eg] at q1'
   dsimp only [Option.map_some] at q1'
   refine ⟨opB B i p1 N1,ρ1.set i .un,G2,l[j],ρ2,yDr a,o2,r2,eg,fun σ3 H3 G3 o3 s3 _=> ?_⟩
   have s13:=s2.trans s3
   refine ⟨B,p1,N1,ρ2.set i (.ow (.ins bb c fl)),G3,a,OOkP.op nk ok o3 s13,?_⟩
   cases eb:b (ρ2.set i (.ow (.ins bb c fl))) with
   | ok f ρ3=>
    rw [eb] at q1'
    cases f with
    | nx=>exact fun p4 N4 σ4 H4 G4 o4 s4=>⟨hlt,p4,N4,ρ3,G4,o4,(s1.trans s13).trans s4,PstO.mono q1' (s13.trans s4) (fun _ _ z=>z) rfl rfl rfl⟩
    | ct=>exact fun p4 N4 σ4 H4 G4 o4 s4=>⟨hlt,p4,N4,ρ3,G4,o4,(s1.trans s13).trans s4,PstO.mono q1' (s13.trans s4) (fun _ _ z=>z) rfl rfl rfl⟩
    | bk=>exact fun p4 N4 σ4 H4 G4 o4 s4=>q1' p4 N4 σ4 H4 G4 o4 (s13.trans s4)
    | rt r=>exact fun v p4 N4 σ4 H4 G4 o4 s4 rv=>q1' v p4 N4 σ4 H4 G4 o4 (s13.trans s4) rv
   | ex x ρ3=>
    rw [eb] at q1'
    exact fun cls d p4 N4 σ4 H4 G4 o4 s4 rx=>q1' cls d p4 N4 σ4 H4 G4 o4 (s13.trans s4) rx
   | no=>
    rw [eb] at q1'
    exact q1'.elim
 ·have ei:l.drop j=[]:=yMn.mpr (by omega)
  rw [ei] at q1
  exact .inl ⟨j2 (by omega),q1 p1 N1 σ1 H1 G1 ⟨bb,c,fl,dx,ws,nk,e1,ok⟩ (Same.refl _)⟩
end
def fzFl (l:List (Str×D)):List (Str×D):=l.map fun f=>(f.1,f.2.fz)
structure AftI (κ:Ctx)(G H:Hp)(x:Addr)(H' G':Hp):Prop where
 keep: ∀ a o,H a=some o->a≠x->(∀ ps,o≠ .tbl ps)->H' a=some o
 frz: ∀ a,noT H a≠none->a≠x->G' a=G a
 sub:Same G G'
 gh:Same G' H'
 notb: ∀ a ps,G' a≠some (.tbl ps)
 tabs:LamX.Tabs κ.tabs H'
def spIn (κ:Ctx)(c:String)(n:Nat)(f:List D->FR):Sp:=fun vs H Q E=> ∃ x dx ws T G as,vs= .ref x::ws/\as.length=n/\RepL κ T G as ws/\H x=some (.ins (κ.cl c) dx [])/\G x=none/\ ¬ T x/\Same G H/\(∀ a ps,G a≠some (.tbl ps))/\LamX.Tabs κ.tabs H/\(∀ a,T a->noT H a≠none)/\match f as with
 | .ok (.va d) _=> ∀ H' G',AftI κ G H x H' G'->Rep κ T G' d (.ref x)->Q .non H'
 | .ex y _=> ∀ cls dd H' G',AftI κ G H x H' G'->RepX κ T H' G' y cls dd->E cls dd H'
 | _=>False
def endI (ρ':List SD):FR:=match ρ'[0]? with
 | some (SD.ow (D.ins _ c l))=>FR.ok (SD.va (D.ins false c (fzFl l))) []
 | _=> .no
def runI (c:String)(N:Nat)(s:S)(as:List D):FR:=match s (.ow (.ins false c [])::(as.map SD.va++yLi (N-1-as.length) SD.un)) with
 | .ok .nx ρ'=>endI ρ'
 | .ok (.rt (.va .non)) ρ'=>endI ρ'
 | .ex x _=> .ex x []
 | _=> .no
section
variable {κ:Ctx}{T:Pd}{G N:Hp}
theorem RepF.frz (gf: ∀ a,N a≠none->G a=none)(mu: ∀ a o,N a=some o->OwK o)(nt: ∀ a,N a≠none-> ¬ T a): ∀ {l:List (Str×D)} {vs:List (Str×V)},fldB l=true->(∀ a∈xA3 l vs,N a≠none)->RepF κ (plT T N) (plus G N) l vs->RepF κ T (plus G N) (fzFl l) vs
 | [],vs,_,_,r=>r
 | (k,d)::l,vs,hf,hq,r=>by
  obtain ⟨v,ws,rfl,h1,h2⟩:=r
  unfold fldB at hf
  replace hf:=allC hf
  have sg:Same G (plus G N):=fun a o e=>by
   have n:N a=none:=yK6 fun z=>by
    rw [gf a z] at e
    cases e
   rw [xAc n]
   exact e
  have tail: ∀ a∈xA3 l ws,N a≠none:=fun a ha=>hq a (by
   cases v with
   | ref q=>
    rw [xBw]
    split
    ·exact yK7 _ ha
    ·exact ha
   | _=>exact ha)
  refine ⟨v,ws,rfl,?_,RepF.frz gf mu nt hf.2 tail h2⟩
  rcases yM1.mp hf.1 with h|h
  ·by_cases hs: ∃ m,d= .scr m
   ·obtain ⟨m,rfl⟩:=hs
    obtain ⟨a,us,e,_,g3⟩:=h1
    exact ⟨a,.non::us,e,.inr rfl,⟨.non,us,rfl,rfl,RepL.mono (.of sg) m (RepL.out mu m h g3)⟩⟩
   have e:d.fz=d:=by
    cases d with
    | scr m=>exact absurd ⟨m,rfl⟩ hs
    | lst b m=>
     cases b with
     | false=>rfl
     | true=>cases (show (!true&&nbL m)=true from h)
    | dk b m=>
     cases b with
     | false=>rfl
     | true=>cases (show (!true&&nbK m)=true from h)
    | nv b m ss=>
     cases b with
     | false=>rfl
     | true=>cases (show (!true&&nbL m)=true from h)
    | ins b c m=>
     cases b with
     | false=>rfl
     | true=>cases (show (!true&&nbF m)=true from h)
    | _=>rfl
   show Rep κ T (plus G N) d.fz v
   rw [e]
   exact Rep.mono (.of sg) d (Rep.out mu d h h1)
  ·obtain ⟨q,rfl⟩:=xRa h h1
   rw [xBw,if_pos h] at hq
   have nq:=hq q (yK3 ..)
   cases d with
   | lst b m=>
    cases b with
    | false=>cases h
    | true=>
     obtain ⟨a,us,e,⟨g1,g2⟩,g3⟩:=h1
     cases e
     exact ⟨q,us,rfl,⟨g1,⟨fun z=>(nt q nq z).elim,fun z=>yLr z⟩⟩,RepL.mono (.of sg) m (RepL.out mu m h g3)⟩
   | dk b m=>
    cases b with
    | false=>cases h
    | true=>
     obtain ⟨a,us,e,⟨g1,g2⟩,g3⟩:=h1
     cases e
     exact ⟨q,us,rfl,⟨.inl g1.own,⟨fun z=>(nt q nq z).elim,fun z=>yLr z⟩⟩,RepK.mono (.of sg) m (RepK.out mu m h g3)⟩
   | nv b m ss=>
    cases b with
    | false=>cases h
    | true=>
     obtain ⟨a,us,e,⟨g1,g2⟩,g3⟩:=h1
     cases e
     exact ⟨q,us,rfl,⟨g1,⟨fun z=>(nt q nq z).elim,fun z=>yLr z⟩⟩,RepL.mono (.of sg) m (RepL.out mu m h g3)⟩
   | _=>cases h
end
def basI (G H:Hp)(T:Pd)(x:Addr):Bas:=⟨fun a=>if a=x then none else noT H a,G,T,[(0,x)]⟩
section
variable {κ:Ctx}{T:Pd}{G H:Hp}{x dx:Addr}{c:String}{as:List D}{ws:List V}{N:List Str}
theorem yD2 (hn:as.length+1<=N.length)(r:RepL κ T G as ws)(hx:H x=some (.ins (κ.cl c) dx []))(gx:G x=none)(tx: ¬ T x)(gh:Same G H)(nb: ∀ a ps,G a≠some (.tbl ps))(tb:LamX.Tabs κ.tabs H)(tl: ∀ a,T a->noT H a≠none):
  OOkP κ (basI G H T x) 0 x (upd (fun _=>none) x (.ins (κ.cl c) dx [])) (.ow (.ins false c [])::(as.map SD.va++yLi (N.length-1-as.length) SD.un)) (L2.start N (.ref x::ws)) H G:=by
 have hN: ∀ {a:Addr},upd (fun _=>none:Hp) x (.ins (κ.cl c) dx []) a≠none->a=x:=fun {a} h=>yK6 fun z=>h (by rw [upd_ne z])
 have lw:=r.length
 have sl0:(L2.start N (.ref x::ws))[0]? =some (some (V.ref x)):=by
  unfold L2.start
  rw [yLk (by simp)]
  rfl
 have at_: ∀ {i:Nat} {y:SD},((.ow (.ins false c [])::(as.map SD.va++yLi (N.length-1-as.length) SD.un):List SD).set 0 .un)[i]? =some y->y≠ .un-> ∃ j d,i=j+1/\as[j]? =some d/\y= .va d:=fun {i y} e ny=>by
  cases i with
  | zero=>
   rw [yM6] at e
   exact absurd (yLh.inj e).symm ny
  | succ j=>
   rw [yM6,yMh] at e
   by_cases hj:j<as.length
   ·rw [yLk (by rw [yK2];exact hj),yLe,yLb hj] at e
    exact ⟨j,as[j],rfl,yLb hj,(yLh.inj e).symm⟩
   ·rw [yL2 (by rw [yK2];omega),yM3] at e
    split at e
    ·exact absurd (yLh.inj e).symm ny
    ·cases e
 refine ⟨false,c,[],dx,[],⟨fun a h=>if_pos (hN h),fun a h=>by rw [hN h];exact gx,fun a h=>by rw [hN h];exact gx,fun a h=>by rw [hN h];exact tx,fun a o h=> ?_,upd_same,rfl,rfl,yLo.mpr ⟨(fun z=>by cases z),yLw⟩,fun a h=>by cases h⟩,rfl,?_⟩
 ·by_cases ha:a=x
  ·rw [ha,upd_same] at h
   cases h
   exact True.intro
  ·rw [upd_ne ha] at h
   cases h
 ·refine ⟨⟨fun a o e n=> ?_,fun a ps e=> ?_,fun a e=>rfl,Same.refl G,gh,nb,tb,fun a e=> ?_⟩,?_,fun i d e=> ?_,fun i d e=> ?_,fun i j q d e hij h1 h2 h3 h4=> ?_,fun i q hq=> ?_⟩
  ·have e:plus (fun a=>if a=x then none else noT H a) (upd (fun _=>none) x (.ins (κ.cl c) dx [])) a=some o:=e
   by_cases ha:a=x
   ·rw [ha,xAg upd_same] at e
    cases e
    rw [ha]
    exact hx
   ·rw [xAc (upd_ne ha),if_neg ha] at e
    exact (xHb e).1
  ·have e:plus (fun a=>if a=x then none else noT H a) (upd (fun _=>none) x (.ins (κ.cl c) dx [])) a=some (.tbl ps):=e
   by_cases ha:a=x
   ·rw [ha,xAg upd_same] at e
    cases e
   ·rw [xAc (upd_ne ha),if_neg ha] at e
    exact xQ7 e
  ·show plus (fun a=>if a=x then none else noT H a) (upd (fun _=>none) x (.ins (κ.cl c) dx [])) a≠none
   by_cases ha:a=x
   ·rw [ha,xAg upd_same]
    exact fun z=>nomatch z
   ·rw [xAc (upd_ne ha),if_neg ha]
    exact tl a e
  ·unfold L2.start
   simp only [yLn,yK2,yL6,yK9,yLm]
   omega
  ·obtain ⟨j,d',rfl,e1,e2⟩:=at_ e (by simp)
   cases e2
   obtain ⟨v,h1,h2⟩:=r.get e1
   refine ⟨v,?_,h2⟩
   have hj:=(yK5.mp h1).1
   unfold L2.start
   rw [yLk (by simp;exact hj)]
   simp [h1]
  ·obtain ⟨j,d',rfl,e1,e2⟩:=at_ e (by simp)
   cases e2
  ·obtain ⟨j,d',rfl,e1,e2⟩:=at_ h1 (by simp)
   cases e2
  ·have hq:(i,q)∈[(0,x),(0,x)]:=hq
   have hq:(i,q)=(0,x):=by
    rcases inC hq with z|z
    ·exact z
    ·exact yLl.mp z
   cases hq
   exact sl0
theorem xSs {p:Addr}{M:Hp}(gx:G x=none)(nb: ∀ a ps,G a≠some (.tbl ps))(o:OOkP κ (basI G H T x) 0 p M ρ' σ' H' G')(s:Same G G'):p=x/\AftI κ G H x H' (plus G' M)/\AftI κ G H x H' G'/\
  ∀ b c l,ρ'[0]? =some (.ow (.ins b c l))->Rep κ T (plus G' M) (.ins false c (fzFl l)) (.ref x):=by
 obtain ⟨b,c,l,dx,vs,n,e,ok⟩:=o
 have px:p=x:=by
  have h1:=ok.anch 0 p (yK3 ..)
  have h2:=ok.anch 0 x (yK7 _ (yK3 ..))
  rw [h1] at h2
  cases h2
  rfl
 subst px
 have bH: ∀ {a:Addr},noT H a≠none->a≠p->M a=none/\plus (basI G H T p).H M a=noT H a:=fun {a} h na=>by
  have e1:(basI G H T p).H a=noT H a:=if_neg na
  have m:M a=none:=yK6 fun z=>by
   have:=n.free a z
   rw [e1] at this
   exact h this
  exact ⟨m,by rw [xAc m,e1]⟩
 have sg:Same G' (plus G' M):=fun a o e=>by
  have m:M a=none:=yK6 fun z=>by
   rw [n.gfree a z] at e
   cases e
  rw [xAc m]
  exact e
 have keep: ∀ a o,H a=some o->a≠p->(∀ ps,o≠ .tbl ps)->H' a=some o:=fun a o h na nt=>by
  have h1:=xCj h nt
  obtain ⟨m,e1⟩:=bH (a:=a) (by rw [h1];exact fun z=>nomatch z) na
  exact ok.fr.keep a o (e1.trans h1) nt
 have frz: ∀ a,noT H a≠none->a≠p->G' a=G a:=fun a h na=>by
  obtain ⟨m,e1⟩:=bH h na
  exact ok.fr.frz a (by show plus (basI G H T p).H M a≠none;rw [e1];exact h)
 refine ⟨rfl,⟨keep,fun a h na=> ?_,s.trans sg,fun a o h=> ?_,fun a ps h=> ?_,ok.fr.tabs⟩,⟨keep,frz,s,ok.fr.gh,ok.fr.notb,ok.fr.tabs⟩,fun b' c' l' e'=> ?_⟩
 ·rw [xAc (bH h na).1]
  exact frz a h na
 ·cases m:M a with
  | some w=>
   rw [xAg m] at h
   cases h
   exact xBy ok n.mu m
  | none=>
   rw [xAc m] at h
   exact ok.fr.gh a o h
 ·cases m:M a with
  | some w=>
   rw [xAg m] at h
   cases h
   exact n.mu a _ m
  | none=>
   rw [xAc m] at h
   exact ok.fr.notb a ps h
 ·rw [e] at e'
  cases e'
  have tp: ¬ T p:=n.nt p (by rw [n.here];exact fun z=>nomatch z)
  exact ⟨p,dx,vs,rfl,⟨xAg n.here,⟨fun z=>(tp z).elim,fun z=>yLr z⟩⟩,RepF.frz n.gfree n.mu n.nt n.okF n.inN n.fld⟩
end
section
variable {P:Program}{w:World}{K:PySem.W.Frag}{f:Addr}{fd:FuncData}{mg:Str->Option Value}{base:Heap}{x qual:Str}{params:Arguments}{body:List Stmt}{scope:Scope}{dvs:List V}{kws:List (Str×V)}
theorem yBh (F:FunD K x qual params body scope dvs kws f fd)(Sc:FnScope N ps scope)(hn:ps.length=n+1)
  (hbody: ∀ (cdv:Value) (Ar:Around) (outer:List Env) (s0:Shared) (H:Hp) (E:XK),Room k (Ar.deeper (envOfC qual scope s0.heap.objs.size f cdv))->
   PSs (cxOf (L2.CX P w) P w K mg base N qual scope f cdv Ar outer s0 H E) body (tOb κ [0] (fun cls d _ H=>E cls d H) 0 s)):FnOk P w K mg base (L2.CX P w) (k+1) f fd ps (spIn κ c n (runI c N.length s)):=by
 refine FunD.okC F Sc (fun vs H Q E h=> ?_) (fun cdv Ar outer s0 H vs Q E hcd hr h=>⟨_,hbody cdv Ar outer s0 H E hr,?_⟩)
 ·obtain ⟨x,dx,ws,T,G,as,rfl,hl,r,_⟩:=h
  rw [yK9,r.length,hl,hn]
 ·obtain ⟨x,dx,ws,T,G,as,rfl,hl,r,hx,gx,tx,gh,nb,tb,tl,q⟩:=h
  have hN:as.length+1<=N.length:=by
   have z:=congrArg yMu Sc.pre
   rw [yLv] at z
   omega
  refine ⟨basI G H T x,x,_,_,G,fun z hz=> ?_,yD2 hN r hx gx tx gh nb tb tl,?_⟩
  ·obtain rfl:z=(0,x):=yLl.mp hz
   exact .head _
  ·unfold runI at q
   have fin: ∀ {ρ':List SD} {p:Addr} {M:Hp} {σ':L2.St} {H' G':Hp},(match endI ρ' with
     | .ok (.va d) _=> ∀ H' G',AftI κ G H x H' G'->Rep κ T G' d (.ref x)->Q .non H'
     | .ex y _=> ∀ cls dd H' G',AftI κ G H x H' G'->RepX κ T H' G' y cls dd->E cls dd H'
     | _=>False)->OOkP κ (basI G H T x) 0 p M ρ' σ' H' G'->Same G G'->Q .non H':=fun {ρ' p M σ' H' G'} q o s=>by
    obtain ⟨rfl,a1,a2,a3⟩:=xSs gx nb o s
    obtain ⟨b,c',l,dx',vs',n',e,ok⟩:=o
    unfold endI at q
    rw [e] at q
    exact q H' _ a1 (a3 b c' l e)
   cases e:s (.ow (.ins false c [])::(as.map SD.va++yLi (N.length-1-as.length) SD.un)) with
   | ok fl ρ'=>
    rw [e] at q
    cases fl with
    | nx=>exact fun p M σ' H' G' o s=>fin q o s
    | rt r=>
     cases r with
     | va d=>
      cases d with
      | non=>
       intro v p M σ' H' G' o s rv
       cases (show v=V.non from rv)
       exact fin q o s
      | _=>exact q.elim
     | _=>exact q.elim
    | bk=>exact q.elim
    | ct=>exact q.elim
   | ex y ρ'=>
    rw [e] at q
    intro cls d p M σ' H' G' o s rx
    obtain ⟨rfl,a1,a2,a3⟩:=xSs gx nb o s
    exact q cls d H' G' a2 rx
   | no=>
    rw [e] at q
    exact q.elim
end
def xWq (f:List D->FR)(n:M (List D)):M SD:=n.bind fun ds=>fun ρ=>match f ds with
 | .ok (.va d) _=> .ok (.va d) ρ
 | .ex x _=> .ex x ρ
 | _=> .no
def mFld (c0:String)(f:Str)(m:M SD):M SD:=(fE m).bind fun d=>match d with
 | .ins _ c l=>if c=c0 then M.opt ((l.lookup f).map SD.va) else M.no
 | _=>M.no
def yF4 (c0:String)(mt:Str)(fn:List SD->FR)(n:M (List D))(d:D):M SD:=match d with
 | .ins b c l=>if c=c0/\l.lookup mt=none then n.bind fun ds=>fun ρ=>match fn (.va (.ins b c l)::ds.map SD.va) with
  | .ok r _=> .ok r ρ
  | .ex x _=> .ex x ρ
  | .no=> .no
  else M.no
 | _=>M.no
def xE5 (c0:String)(mt:Str)(fn:List SD->FR)(m:M SD)(n:M (List D)):M SD:=(fE m).bind (yF4 c0 mt fn n)
section
variable {X:Cx}{CX:CXT}{k:Nat}{f C:Addr}{fd:FuncData}{ps:List Str}{sp:Sp}{dvs:List V}{ds:List Value}{E:L2.St->XK}{x m:Str}{p pos apos:Pos}{e o:Expr}{es:List Expr}{ta:TE}{t:TA}
def yJn (C:Addr)(sp:Sp)(E:L2.St->XK)(t:TA):TE:=fun σ H Q=>t σ H fun vs H1=> ∀ x dx,H1 x=none->H1 dx=none->dx≠x->
 sp (.ref x::vs) (upd (upd H1 dx (.own x)) x (.ins C dx [])) (fun v H2=>v= .non/\Q (.ref x) H2) (E σ)
abbrev xT0 (X:Cx)(pl:Sem Bool)(o:Expr)(m:Str)(apos pos:Pos)(es:List Expr):Sem Value:=do
 let ov <- eval o X.env;standAt apos.atName;let (f,first) <- holding [ov] (getMethod ov m pl);callWith pos f first (backTo pos (starEach es X.env)) (backToKw pos (keywordEach [] X.env))
abbrev Pln (X:Cx)(e:Expr)(es:List Expr):Prop:=starEach (e::es) X.env=(false,eval e X.env)::starEach es X.env
abbrev PlnR (X:Cx)(pos:Pos)(es:List Expr):Prop:=(backTo pos (starEach es X.env)).any (·.1)=false
theorem xWc (M:Mk X.K C f)(F:FnOk X.prog X.w X.K X.mg X.base CX k f fd ps sp)(hr:Room (k+1) X.A)(hb:Binds X.K fd ps [])
  (hx:PassesAt CX X σ (E σ)) (I:L2.Inv X pins σ H s) (r:Vals vs us)
  (h: ∀ x dx,H x=none->H dx=none->dx≠x->sp (.ref x::vs) (upd (upd H dx (.own x)) x (.ins C dx [])) (fun v H2=>v= .non/\Q (.ref x) H2) (E σ)):wpAny (model X.prog X.w) X.A (call (.ref C) us) (EP X pins σ Q) X.xe s:=by
 have fr: ∀ j,s.heap.objs.size<=j->H j=none:=fun j hj=>I.hok.fresh hj
 have want:=h (s.heap.objs.size+1) s.heap.objs.size (fr _ (yMv _)) (fr _ (yLq _)) (yMw (Nat.lt_succ_self _))
 have I2:=L2.Inv.made (C:=C) I
 have vals:Vals (.ref (s.heap.objs.size+1)::vs) (Value.ref (s.heap.objs.size+1)::us):= .cons rfl r
 have hl:(Value.ref (s.heap.objs.size+1)::us).length=ps.length:=vals.length.symm.trans (F.len _ _ _ _ want)
 have b:=hb _ (Value.ref (s.heap.objs.size+1)::us) I2.kIn (by rw [yL9];exact hl)
 rw [yL9] at b
 have body:=F.run _ X.stack _ _ ⟨Value.ref (s.heap.objs.size+1)::us,[]⟩ (Value.ref (s.heap.objs.size+1)::us) _ _ (E σ) (hr.make C us []) (I2.env0.make C us []) b vals want
 refine wpAny_call (make_map (f:=f) I.kIn M.makes M.init (beq_iff_eq.mp M.fn) (codeAny_mono body fun res s' out=> ?_))
 match res,out with
 | .error e,out=>exact hx pins _ _ e s' I2 out
 | .ok (.ret u),out=>
  obtain ⟨v,H',I3,rv,rfl,q3⟩:=I2.after out
  exact ⟨rv,.ref (s.heap.objs.size+1),H',I3,rfl,q3⟩
 | .ok .next,out=>exact out.elim
 | .ok .brk,out=>exact out.elim
 | .ok .cont,out=>exact out.elim
theorem xTa (M:Mk X.K C f)(F:FnOk X.prog X.w X.K X.mg X.base CX k f fd ps sp)(hr:Room (k+1) X.A)(hg:Gl X x)(hm:X.mg x=some (.ref C))(hb:Binds X.K fd ps [])(hx: ∀ σ,PassesAt CX X σ (E σ))
  (ha:PA X (e::es) t) (hdb:(x==("__debug__":Str))=false:=by decide) (he:Pln X e es:=by rfl) (hpl:PlnR X pos es:=by rfl):PE X (.Call (.Name x p) (e::es) [] pos) (yJn C sp E t):=
 ⟨fun pins s σ H Q I h=>wpAny_Call_Name_kw (ld_glob I hg hm (PySem.W.callWith_K (h₀:=X.base) I.ok.mod.kin M.kp (thn (ha.run pos pins s σ H _ I h) fun us s1 ⟨vs,H1,I1,r,q⟩=>⟨I1.kIn,xWc M F hr hb (hx σ) I1 r q⟩) he hpl) hdb)⟩
def yCm (C:Addr)(m:Str)(sp:Sp)(E:L2.St->XK)(ta:TE)(t:TA):TE:=fun σ H Q=>ta σ H fun x H1=> ∃ a dx fs,x= .ref a/\H1 a=some (.ins C dx fs)/\fs.lookup m=none/\
 t σ H1 fun vs H2=>sp (x::vs) H2 Q (E σ)
theorem xTw (he:PE X o ta)(c:Cls X.K C)(hm:Meth X.K C m f)(F:FnOk X.prog X.w X.K X.mg X.base CX k f fd ps sp)(hr:Room k X.A)(hb:Binds X.K fd ps [])(hx: ∀ σ,PassesAt CX X σ (E σ))(ha:PA X (e::es) t)
  (hst:Pln X e es:=by rfl) (hpl:PlnR X pos es:=by rfl) (ht:eval (.Call (.Attribute o m apos) (e::es) [] pos) X.env=xT0 X pl o m apos pos (e::es):=by rfl):PE X (.Call (.Attribute o m apos) (e::es) [] pos) (yCm C m sp E ta t):=by
 constructor
 intro pins s σ H Q I h
 refine PySem.W.methodCall_KW (pl:=pl) (thn (he.run pins s σ H _ I h) fun u s1 got=> ?_) ht
 obtain ⟨_,H1,I1,rx,a,dx,fs,rfl,ea,l,q⟩:=got
 obtain rfl:u= .ref a:=rx
 exact getmeth_ok I1 ea c hm l (PySem.W.callWith_K (first:=[.ref a]) (h₀:=X.base) I.ok.mod.kin hm.kp (thn (ha.run pos pins s1 σ H1 _ I1 q) fun us s2 ⟨vs,H2,I2,r,q2⟩=>⟨I2.kIn,run_fnS (us:= .ref a::us) (vs:= .ref a::vs) F hr hb (hx σ) I2 (.cons rfl r) q2⟩) hst hpl)
theorem xY1 (he:PE X o ta)(c:Cls X.K C)(hm:Meth X.K C m f)(F:FnOk X.prog X.w X.K X.mg X.base CX k f fd ps sp)(hr:Room k X.A)(hb:Binds X.K fd ps [])(hx: ∀ σ,PassesAt CX X σ (E σ))
  (ht:eval (.Call (.Attribute o m apos) [] [] pos) X.env=xT0 X pl o m apos pos []:=by rfl):PE X (.Call (.Attribute o m apos) [] [] pos) (yCm C m sp E ta tNil):=by
 constructor
 intro pins s σ H Q I h
 refine PySem.W.methodCall_KW (pl:=pl) (thn (he.run pins s σ H _ I h) fun u s1 got=> ?_) ht
 obtain ⟨_,H1,I1,rx,a,dx,fs,rfl,ea,l,q⟩:=got
 obtain rfl:u= .ref a:=rx
 exact getmeth_ok I1 ea c hm l (PySem.W.callWith_K0 (first:=[.ref a]) I1.kIn hm.kp (run_fnS (us:=[.ref a]) (vs:=[.ref a]) F hr hb (hx σ) I1 (.cons rfl .nil) q))
end
structure ClsD (K:PySem.W.Frag)(κ:Ctx)(c:String):Prop where
 cls:Cls K (κ.cl c)
structure InitD (P:Program)(w:World)(K:PySem.W.Frag)(mg:Str->Option Value)(base:Heap)(κ:Ctx)(c:String)(x:Str)(k n:Nat)(ps:List Str)(fn:List D->FR)(f:Addr)(fd:FuncData):Prop where
 ok:FnOk P w K mg base (L2.CX P w) k f fd ps (spIn κ c n fn)
 gl:mg x=some (.ref (κ.cl c))
 mak:Mk K (κ.cl c) f
structure MethD (P:Program)(w:World)(K:PySem.W.Frag)(mg:Str->Option Value)(base:Heap)(κ:Ctx)(c:String)(m:Str)(k:Nat)(ps:List Str)(fn:List SD->FR)(f:Addr)(fd:FuncData):Prop where
 ok:FnOk P w K mg base (L2.CX P w) k f fd ps (spF κ ps.length fn)
 cls:Cls K (κ.cl c)
 at_:Meth K (κ.cl c) m f
section
variable {κ:Ctx}{B:Bas}{ρ:List SD}{σ:L2.St}{H G:Hp}{x dx:Addr}{c:String}
theorem xPy (o:Ok κ B ρ σ H G)(hx:H x=none)(hd:H dx=none)(ne:dx≠x)(af:AftI κ G (upd (upd H dx (.own x)) x (.ins (κ.cl c) dx [])) x H' G'):Ok κ B ρ σ H' G':=by
 have old: ∀ {a:Addr} {u:HO},H a=some u->upd (upd H dx (.own x)) x (.ins (κ.cl c) dx []) a=some u/\a≠x:=fun {a u} e=>by
  have h1:a≠x:=ne_of_none e hx
  have h2:a≠dx:=ne_of_none e hd
  exact ⟨by rw [upd_ne h1,upd_ne h2];exact e,h1⟩
 refine ⟨⟨fun a u e n=> ?_,o.fr.nt,fun a e=> ?_,o.fr.sub.trans af.sub,af.gh,af.notb,af.tabs,o.fr.lent⟩,o.len,fun j d e=> ?_,fun j d e=> ?_,o.sep,o.anch⟩
 ·obtain ⟨h1,h2⟩:=old (o.fr.keep a u e n)
  exact af.keep a u h1 h2 n
 ·obtain ⟨u,_,n,e2⟩:=o.fr.obj e
  obtain ⟨h1,h2⟩:=old e2
  exact (af.frz a (by rw [xCj h1 n];exact fun z=>nomatch z) h2).trans (o.fr.frz a e)
 ·obtain ⟨v,h1,h2⟩:=o.val j d e
  exact ⟨v,h1,Rep.mono (.of af.sub) d h2⟩
 ·obtain ⟨q,q1,q2,q3,q4⟩:=o.own j d e
  obtain ⟨u,u1,u2,_⟩:=q4.obj
  obtain ⟨h1,h2⟩:=old u1
  exact ⟨q,q1,(af.frz q (by rw [xCj h1 u2];exact fun z=>nomatch z) h2).trans q2,q3,q4.mono af.sub ((af.keep q u h1 h2 u2).trans u1.symm)⟩
end
section
variable {X:Cx}{κ:Ctx}{W:WX}{k k' n:Nat}{f:Addr}{fd:FuncData}{ps:List Str}{fn:List D->FR}{fs:List SD->FR}{x m fl:Str}{p pos apos:Pos}{e o:Expr}{es:List Expr}{a:M (List D)}{mo:M SD}{c:String}
theorem xXi (I:InitD X.prog X.w X.K X.mg X.base κ c x k n ps fn f fd)(hb:Binds X.K fd ps [])(hr:Room k' X.A)(hk:k+1<=k')(hg:Gl X x)(hx:xIa X W)(ha:PA X (e::es) (tA κ W a))(hl: ∀ ρ ds ρ',a ρ= .ok ds ρ'->ds.length=n)(hdb:(x==("__debug__":Str))=false:=by decide)
  (he:starEach (e::es) X.env=(false,eval e X.env)::starEach es X.env:=by rfl) (hpl:(backTo pos (starEach es X.env)).any (·.1)=false:=by rfl):PE X (.Call (.Name x p) (e::es) [] pos) (tE κ W (xWq fn a)):=by
 refine PE.imp (xTa (E:=fun σ cls d H=>W cls d σ H) I.mak I.ok (hr.mono hk) hg I.gl hb hx ha hdb he hpl) fun σ H Q ⟨B,ρ,G,ok,q⟩=>⟨B,ρ,G,ok,?_⟩
 have q1:=Pst.bind q
 cases en:a ρ with
 | ex y ρ'=>
  rw [en] at q1
  exact q1
 | no=>
  rw [en] at q1
  exact q1
 | ok ds ρ'=>
  rw [en] at q1
  intro H1 G1 o1 s1 vs rs x dx hx hd ne
  have q2:Pst κ W B σ G1 (match fn ds with
   | .ok (.va d) _=> .ok (.va d) ρ'
   | .ex x _=> .ex x ρ'
   | _=> .no:Rs SD) fun r ρ' H' G'=> ∀ (v:V),RepR κ B ρ' σ H' G' r v->Q v H':=q1 H1 G1 o1 s1
  have gx:=o1.gnone hx
  have gd:=o1.gnone hd
  have sg:Same G1 (upd (upd H1 dx (.own x)) x (.ins (κ.cl c) dx [])):=fun b u e=>by
   have h1:b≠x:=ne_of_none e gx
   have h2:b≠dx:=ne_of_none e gd
   rw [upd_ne h1,upd_ne h2]
   exact o1.fr.gh b u e
  have old: ∀ {b:Addr} {u:HO},H1 b=some u->upd (upd H1 dx (.own x)) x (.ins (κ.cl c) dx []) b=some u:=fun {b u} e=>by
   rw [upd_ne (ne_of_none e hx),upd_ne (ne_of_none e hd)]
   exact e
  refine ⟨x,dx,vs,B.T,G1,ds,rfl,hl ρ ds ρ' en,rs,upd_same,gx,o1.nolend (o1.bnone hx),sg,o1.fr.notb,fun t ht=> ?_,fun b hb=> ?_,?_⟩
  ·obtain ⟨pp,t1,t2,t3⟩:=o1.fr.tabs t ht
   refine ⟨pp,old t1,t2,fun pos cv hc=> ?_⟩
   obtain ⟨cc,c1,c2⟩:=t3 pos cv hc
   exact ⟨cc,c1,old c2⟩
  ·obtain ⟨u,_,n,e2⟩:=o1.fr.obj (o1.fr.lent b hb)
   rw [xCj (old e2) n]
   exact fun z=>nomatch z
  ·cases ef:fn ds with
   | ok r outs=>
    rw [ef] at q2
    cases r with
    | va d=>exact fun H' G' af rv=>⟨rfl,q2 H' G' (xPy o1 hx hd ne af) af.sub _ rv⟩
    | _=>exact q2.elim
   | ex y outs=>
    rw [ef] at q2
    exact fun cls dd H' G' af rx=>q2 cls dd H' G' (xPy o1 hx hd ne af) af.sub rx
   | no=>
    rw [ef] at q2
    exact q2.elim
theorem xC5 (hK:X.K=κ.K)(hc:Cls κ.K (κ.cl c))(hn:NoAttr κ.K (κ.cl c) fl)(h:PE X o (tE κ W mo))(hb:attributeBase o fl X.env (eval o X.env)=eval o X.env:=by rfl):PE X (.Attribute o fl pos) (tE κ W (mFld c fl mo)):=by
 refine PE.imp (pe_fld h hb) fun σ H Q ⟨B,ρ,G,ok,q⟩=> ?_
 refine xB1 ok (Pst.bind q) fun d ρ1 H1 G1 o1 s1 q1 v r=> ?_
 cases d with
 | ins b c' l=>
  dsimp only at q1
  by_cases hcc:c'=c
  ·rw [if_pos hcc] at q1
   subst hcc
   obtain ⟨z,hz,q2⟩:=Pst.opt q1
   obtain ⟨d,hd,rfl⟩:=yK4.mp hz
   obtain ⟨a,dx,vs,rfl,⟨h1,_⟩,h2⟩:=r
   obtain ⟨w,w1,w2⟩:=RepF.lkF h2 hd
   exact ⟨a,κ.cl c',dx,vs,w,rfl,o1.fr.gh _ _ h1,hK ▸ hc,hK ▸ hn,w1,q2 H1 G1 o1 (Same.refl G1) w w2⟩
  ·rw [if_neg hcc] at q1
   exact q1.elim
 | _=>exact q1.elim
theorem xXm: ∀ {ds:List D} {vs:List V},RepL κ T G ds vs->xGh κ T σ G (ds.map Ar.va) vs
 | [],vs,r=>r
 | d::ds,vs,r=>by
  obtain ⟨v,ws,e,r1,r2⟩:=r
  exact ⟨v,ws,e,r1,xXm r2⟩
theorem xSy (ρ:List SD): ∀ ds:List D,xHf ρ (ds.map Ar.va)=some (ds.map SD.va)
 | []=>rfl
 | d::ds=>by
  show (getA ρ (.va d)).bind (fun x=>(xHf ρ (ds.map Ar.va)).bind fun xs=>some (x::xs))=_
  rw [xSy ρ ds]
  rfl
theorem xTt: ∀ ds:List D,slots (ds.map Ar.va)=[]
 | []=>rfl
 | d::ds=>xTt ds
theorem xJd (ρ:List SD): ∀ (ds:List D) (os:List SD),xF8 ρ (ds.map Ar.va) os=ρ
 | [],os=>rfl
 | d::ds,os=>xJd ρ ds os.tail
theorem xNq (o:Ok κ B ρ σ H G)(r:RepL κ B.T G ds vs)(hl:ds.length=N)
  (q:Pst κ W B σ G ((fun ρ=>match fs (ds.map SD.va) with
   | .ok r _=> .ok r ρ
   | .ex x _=> .ex x ρ
   | .no=> .no:M SD) ρ) fun r ρ' H' G'=> ∀ v,RepR κ B ρ' σ H' G' r v->Q v H'):spF κ N fs vs H Q (fun cls d H=>W cls d σ H):=by
 obtain ⟨pre,back⟩:=xPt o (as:=ds.map Ar.va) (dd:=[]) (by rw [xTt];exact yLw) (xSy ρ ds) (xXm r) (show RepL κ B.T G [] [] from rfl)
 simp only [yMx,yL9] at pre back
 refine ⟨B.T,G,ds.map SD.va,by rw [yK2];exact hl,pre,?_⟩
 cases ef:fs (ds.map SD.va) with
 | ok r outs=>
  simp only [ef] at q
  intro v H' G' af rv
  obtain ⟨b1,b2⟩:=back af
  rw [xJd] at b1
  have b3:=b2 rv
  rw [xJd] at b3
  exact q H' G' b1 af.sub v b3
 | ex y outs=>
  simp only [ef] at q
  intro cls d H' G' af rx
  obtain ⟨b1,b2⟩:=back af
  rw [xJd] at b1
  exact q cls d H' G' b1 af.sub rx
 | no=>
  simp only [ef] at q
  exact q.elim
theorem yH3 (I:MethD X.prog X.w X.K X.mg X.base κ c m k ps fs f fd)(hb:Binds X.K fd ps [])(hr:Room k' X.A)(hk:k<=k')(hx:xIa X W)(h:PE X o (tE κ W mo))(ha:PA X (e::es) (tA κ W a))(hl: ∀ ρ ds ρ',a ρ= .ok ds ρ'->ds.length+1=ps.length)
  (hst:Pln X e es:=by rfl) (hpl:PlnR X pos es:=by rfl)
  (ht:eval (.Call (.Attribute o m apos) (e::es) [] pos) X.env=xT0 X pl o m apos pos (e::es):=by rfl):PE X (.Call (.Attribute o m apos) (e::es) [] pos) (tE κ W (xE5 c m fs mo a)):=by
 refine PE.imp (xTw (E:=fun σ cls d H=>W cls d σ H) h I.cls I.at_ I.ok (hr.mono hk) hb hx ha hst hpl ht) fun σ H Q ⟨B,ρ,G,ok,q⟩=> ?_
 refine xB1 ok (Pst.bind q) fun d ρ1 H1 G1 o1 s1 q1 v r=> ?_
 unfold yF4 at q1
 cases d with
 | ins b c' l=>
  dsimp only at q1
  by_cases hcc:c'=c/\l.lookup m=none
  ·rw [if_pos hcc] at q1
   obtain ⟨rfl,hno⟩:=hcc
   obtain ⟨ad,dx,vs,rfl,⟨h1,h0⟩,h2⟩:=r
   refine ⟨ad,dx,vs,rfl,o1.fr.gh _ _ h1,RepF.lkNone h2 hno,B,ρ1,G1,o1,?_⟩
   have q2:=Pst.bind q1
   cases ea:a ρ1 with
   | ex y ρ'=>
    rw [ea] at q2
    exact q2
   | no=>
    rw [ea] at q2
    exact q2
   | ok ds ρ2=>
    rw [ea] at q2
    intro H2 G2 o2 s2 ws rs
    exact xNq (ds:= .ins b c' l::ds) o2 ⟨_,ws,rfl,Rep.mono (.of s2) (.ins b c' l) ⟨ad,dx,vs,rfl,⟨h1,h0⟩,h2⟩,rs⟩ (by rw [yK9];exact hl ρ1 ds ρ2 ea) (q2 H2 G2 o2 s2)
  ·rw [if_neg hcc] at q1
   exact q1.elim
 | _=>exact q1.elim
theorem xKb (I:MethD X.prog X.w X.K X.mg X.base κ c m k ps fs f fd)(hb:Binds X.K fd ps [])(hr:Room k' X.A)(hk:k<=k')(hx:xIa X W)(h:PE X o (tE κ W mo))(hl:ps.length=1)
  (ht:eval (.Call (.Attribute o m apos) [] [] pos) X.env=xT0 X pl o m apos pos []:=by rfl):PE X (.Call (.Attribute o m apos) [] [] pos) (tE κ W (xE5 c m fs mo mNil)):=by
 refine PE.imp (xY1 (E:=fun σ cls d H=>W cls d σ H) h I.cls I.at_ I.ok (hr.mono hk) hb hx ht) fun σ H Q ⟨B,ρ,G,ok,q⟩=> ?_
 refine xB1 ok (Pst.bind q) fun d ρ1 H1 G1 o1 s1 q1 v r=> ?_
 unfold yF4 at q1
 cases d with
 | ins b c' l=>
  dsimp only at q1
  by_cases hcc:c'=c/\l.lookup m=none
  ·rw [if_pos hcc] at q1
   obtain ⟨rfl,hno⟩:=hcc
   obtain ⟨ad,dx,vs,rfl,⟨h1,h0⟩,h2⟩:=r
   refine ⟨ad,dx,vs,rfl,o1.fr.gh _ _ h1,RepF.lkNone h2 hno,?_⟩
   exact xNq (ds:=[.ins b c' l]) o1 ⟨_,[],rfl,⟨ad,dx,vs,rfl,⟨h1,h0⟩,h2⟩,rfl⟩ hl.symm q1
  ·rw [if_neg hcc] at q1
   exact q1.elim
 | _=>exact q1.elim
def DLen (n:M (List D))(k:Nat):Prop:= ∀ ρ ds ρ',n ρ= .ok ds ρ'->ds.length=k
theorem xCc:DLen mNil 0:=fun ρ as ρ' h=>by cases h;rfl
theorem xA1 {m:M SD}{n:M (List D)}{k:Nat}(h:DLen n k):DLen (xAb m n) (k+1):=fun ρ as ρ' e=>by
 unfold xAb M.bind at e
 cases e1:fE m ρ with
 | ok d ρ1=>
  rw [e1] at e
  cases e2:n ρ1 with
  | ok ds ρ2=>
   simp only [e2] at e
   cases e
   rw [yK9,h _ _ _ e2]
  | ex x ρ2=>simp only [e2] at e;cases e
  | no=>simp only [e2] at e;cases e
 | ex x ρ1=>rw [e1] at e;cases e
 | no=>rw [e1] at e;cases e
end
end Fm
namespace PySem
open Sem (wp)
section
variable {prog:Program}{w:World}{A:Around}{s:Shared}{E:Value->Shared->Prop}
end
end PySem
namespace Fm
open L2 PySem PySem.Spec PyProof.Rows
def rSumS (K:PySem.W.Frag):List V->List V->Hp->VK->Prop:=fun vs zs H Q=> ∃ (a:Addr) (ns:List Int),vs=[V.ref a]/\zs=[V.int 0]/\SqL K H a (ns.map V.int)/\Q (.int ns.sum) H
def mSumS (n m:M (List D)):M SD:=n.bind fun ds=>m.bind fun zs=>M.opt (match zs with
 | [.int 0]=>sumD ds
 | _=>none)
def rvrM:List D->M (List D)
 | [.int j]=>if -(2 ^ 62)<=j/\j<2 ^ 62 then M.ret (rngD 0 j.toNat).reverse else M.no
 | _=>M.no
def iRvr (n:M (List D)):M (List D):=n.bind rvrM
def clsB (K:PySem.W.Frag)(C:Addr):Bool:=PySem.W.plainGet K C Str.empty&&(PySem.W.hasDictIn K C&&(PySem.W.plainOver K C&&decide (PySem.W.findIn K (.ref C) "__setattr__"=some (some (.builtin "object.__setattr__")))))
def noaB (K:PySem.W.Frag)(C:Addr)(f:Str):Bool:=decide (PySem.W.findIn K (.ref C) f=some none)
def metB (K:PySem.W.Frag)(C:Addr)(m:Str)(f:Addr):Bool:=decide (PySem.W.findIn K (.ref C) m=some (some (.ref f)))
def makB (K:PySem.W.Frag)(C f:Addr):Bool:=PySem.W.makesIn K C&&(decide (PySem.W.findIn K (.ref C) "__init__"=some (some (.ref f)))&&PySem.W.keepIn K (.ref C))
def yKl (K:PySem.W.Frag):R2:=fun x y H Q=> ∃ a b ys,x= .ref a/\y= .ref b/\SqT K H a []/\SqT K H b ys/\Q (.ref b) H
theorem yEd:OpR X (binaryOp .Add) (yKl X.K):=by
 rintro pins s σ H x y v u Q I rx ry ⟨a,b,ys,rfl,rfl,ha,hb,q⟩
 cases rx
 cases ry
 obtain ⟨its,r1,ht,_⟩:=I.tuple ha
 obtain ⟨its2,r2,hb2,_⟩:=I.tuple hb
 obtain rfl:=r1.nil_iff.mpr rfl
 obtain ⟨⟨_,d1,_,l1⟩,o1,rfl,n1,rfl⟩:=ht
 obtain ⟨⟨_,d2,_,l2⟩,o2,rfl,n2,rfl⟩:=hb2
 have same:=tuple_addW0 a b #[] its2.toArray n1 n2 d1 d2 l1 l2 (by simp)
 exact concat_meets ⟨_,o1,rfl⟩ ⟨_,o2,rfl⟩ noFill_tuple_add seq_tuple_add F.slot_tuple_add F.entry_tuple_add (F.args_tuple_add_2 _ _) same ⟨o1,o2,.ref b,H,I,rfl,q⟩
def xB2:D->D->Option SD
 | .tup [],.tup m=>some (.va (.tup m))
 | d,e=>addD d e
abbrev yIe (K:PySem.W.Frag):R2:=fun x y H Q=>(rI0 (fun i j=> .int (i+j)) x y H Q\/((fun x y H Q=> ∃ i j,x= .str i/\y= .str j/\i.length+j.length<=sizeLine/\Q (.str (i++j)) H) x y H Q\/(rCatT K x y H Q\/rCat x y H Q)))\/yKl K x y H Q
theorem xA8:OpR X (binaryOp .Add) (yIe X.K):=yF5.or yEd
theorem xA7:OpD κ (yIe κ.K) xB2:=by
 intro B ρ σ H G d e x y z Q o r1 r2 hz q
 unfold xB2 at hz
 split at hz
 ·rename_i m
  cases hz
  obtain ⟨p,vs,rfl,h1,h2⟩:=r1
  obtain ⟨p',ws,rfl,h3,h4⟩:=r2
  cases (show vs=[] from h2)
  exact .inr ⟨p,p',ws,rfl,rfl,h1.sq o.fr.gh,h3.sq o.fr.gh,q _ H G o (Same.refl G) ⟨p',ws,rfl,h3,h4⟩⟩
 ·exact .inl (yHl B ρ σ H G d e x y z Q o r1 r2 hz q)
section
variable {p:SD->Prop}
theorem xVu (h:p (.va (.int (a+b)))):Ow (xB2 (.int a) (.int b)) p:=⟨_,rfl,h⟩
theorem xXy (h:p (.va (.str (a++b))))(g:a.length+b.length<=1000000):Ow (xB2 (.str a) (.str b)) p:=⟨_,if_pos g,h⟩
theorem xXz (h:p (.ow (.lst false (l++m))))(g:l.length+m.length<=1000000):Ow (xB2 (.lst x l) (.lst y m)) p:=⟨_,if_pos g,h⟩
end
section
variable {X:Cx}{κ:Ctx}{W:WX}{k k' n:Nat}{f:Addr}{fd:FuncData}{ps:List Str}{fn:List D->FR}{fs:List SD->FR}{x m fl:Str}{p pos apos:Pos}{e o:Expr}{es:List Expr}{a:M (List D)}{mo:M SD}{c:String}
theorem xGd (I:MethD X.prog X.w X.K X.mg X.base κ c m k ps fs f fd)(hb:Binds X.K fd ps [])(hr:Room k' X.A)(hk:k<=k')(hx:xIa X W)(h:PE X o (tE κ W mo))(ha:PA X (e::es) (tA κ W a))(hl:DLen a n)(hn:n+1=ps.length)
  (hst:Pln X e es:=by rfl) (hpl:PlnR X pos es:=by rfl)
  (ht:eval (.Call (.Attribute o m apos) (e::es) [] pos) X.env=xT0 X pl o m apos pos (e::es):=by rfl):PE X (.Call (.Attribute o m apos) (e::es) [] pos) (tE κ W (xE5 c m fs mo a)):=
 yH3 I hb hr hk hx h ha (fun ρ ds ρ' e=>by rw [hl ρ ds ρ' e];exact hn) hst hpl ht
end
section
variable {α β γ:Type}{ρ:List SD}{E:Exn->List SD->Prop}{p:SD->List SD->Prop}{pl:List D->List SD->Prop}{s:Fl->List SD->Prop}{c0:String}{f mt:Str}{i:Nat}
theorem yCq {fn:List D->FR}(h:Wp n ρ (fun ds ρ'=>Fw (fn ds) (fun r _=> ∃ d,r= .va d/\p (.va d) ρ') fun x _=>E x ρ') E):Wp (xWq fn n) ρ p E:=xAk (h.mono (fun ds ρ' h=>by
 refine ⟨?_⟩
 have h:=h.run
 cases e:fn ds with
 | ok r o=>
  rw [e] at h
  obtain ⟨d,rfl,h⟩:=h
  exact h
 | ex x o=>
  rw [e] at h
  exact h
 | no=>
  rw [e] at h
  exact h) fun _ _ z=>z)
theorem yJk (h:Wp (fE m) ρ (fun d ρ'=> ∃ b l z,d= .ins b c0 l/\l.lookup f=some z/\p (.va z) ρ') E):Wp (mFld c0 f m) ρ p E:=xAk (h.mono (fun d ρ' h=>by
 obtain ⟨b,l,z,rfl,e,h⟩:=h
 refine ⟨?_⟩
 simp only [if_true,e]
 exact h) fun _ _ z=>z)
theorem yCn {fn:List SD->FR}(h:Wp (fE m) ρ (fun d ρ1=> ∃ b l,d= .ins b c0 l/\l.lookup mt=none/\Wp n ρ1 (fun ds ρ2=>Fw (fn (.va (.ins b c0 l)::ds.map SD.va)) (fun r _=>p r ρ2) fun x _=>E x ρ2) E) E):Wp (xE5 c0 mt fn m n) ρ p E:=xAk (h.mono (fun d ρ' h=>by
 obtain ⟨b,l,rfl,e,h⟩:=h
 show Wp (if c0=c0/\l.lookup mt=none then _ else _) ρ' p E
 rw [if_pos ⟨rfl,e⟩]
 refine xAk (h.mono (fun ds ρ2 h=> ?_) fun _ _ z=>z)
 refine ⟨?_⟩
 have h:=h.run
 cases e:fn (.va (.ins b c0 l)::ds.map SD.va) with
 | ok r o=>
  rw [e] at h
  exact h
 | ex x o=>
  rw [e] at h
  exact h
 | no=>
  rw [e] at h
  exact h) fun _ _ z=>z)
theorem xA0 {q:α->List SD->Prop}(e:ρ[i]? =some (.ow (.ins b c l)))(h:Wp m (ρ.set i .un) (fun a ρ'=>q a (ρ'.set i (.ow (.ins b c l)))) fun x ρ'=>E x (ρ'.set i (.ow (.ins b c l)))):Wp (xBk i m) ρ q E:=by
 refine ⟨?_⟩
 unfold xBk
 rw [e]
 dsimp only
 have h:=h.run
 cases e2:m (ρ.set i .un) with
 | ok a ρ'=>
  rw [e2] at h
  exact h
 | ex x ρ'=>
  rw [e2] at h
  exact h
 | no=>
  rw [e2] at h
  exact h
theorem xFf {nb:α->Bool}{q:α->List SD->Prop}(e:ρ[i]? =some (.ow (.ins b c l)))(h:Wp m (ρ.set i (.va (.ins true c l))) (fun a ρ'=>((ρ'.set i .un).all SD.nbS&&nb a)=true/\q a (ρ'.set i (.ow (.ins b c l)))) fun x ρ'=>((ρ'.set i .un).all SD.nbS&&nbF x.fs)=true/\E x (ρ'.set i (.ow (.ins b c l)))):Wp (xF6 i nb m) ρ q E:=by
 refine ⟨?_⟩
 unfold xF6
 rw [e]
 dsimp only
 have h:=h.run
 cases e2:m (ρ.set i (.va (.ins true c l))) with
 | ok a ρ'=>
  rw [e2] at h
  simp only [if_pos h.1]
  exact h.2
 | ex x ρ'=>
  rw [e2] at h
  simp only [if_pos h.1]
  exact h.2
 | no=>
  rw [e2] at h
  exact h
theorem xFc (h:Wp m ρ (fun r ρ'=> ∃ b l d,ρ'[i]? =some (.ow (.ins b c0 l))/\l.length<1000/\ownD r=some d/\s .nx (ρ'.set i (.ow (.ins b c0 (xCk f d l))))) E):Wp (oSet i c0 f m) ρ s E:=xAk (h.mono (fun r ρ' h=>by
 obtain ⟨b,l,d,e1,hl,e2,h⟩:=h
 refine ⟨?_⟩
 unfold yE7
 simp only [e1,true_and,if_pos hl,e2]
 exact h) fun _ _ z=>z)
theorem yCt (e:ρ[i]? =some (.ow (.ins b c0 l)))(e2:l.lookup f=some (.lst true m0))(e3:nbL m0=true)(h:Wp n ρ (fun ds ρ'=> ∃ b l m d,ρ'[i]? =some (.ow (.ins b c0 l))/\l.lookup f=some (.lst true m)/\ds=[d]/\(m.length<1000000/\nbL m=true/\d.nb=true)/\p (.va .non) (ρ'.set i (.ow (.ins b c0 (xCk f (.lst true (m++[d])) l))))) E):Wp (oApp i c0 f n) ρ p E:=by
 refine ⟨?_⟩
 unfold oApp xHg
 simp only [e,e2]
 rw [if_pos ⟨trivial,e3⟩]
 refine Wp.run (E:=E) (p:=p) ?_
 refine xAk (p:=p) (h.mono (fun ds ρ' h=> ?_) fun _ _ z=>z)
 obtain ⟨b,l,m,d,h1,h2,rfl,h3,h⟩:=h
 refine ⟨?_⟩
 unfold xZ8
 simp only [h1,h2,if_pos h3]
 exact h
theorem xXl (h:Wp (fE me) ρ (fun d ρ1=> ∃ b l m,ρ1[i]? =some (.ow (.ins b c0 l))/\l.lookup f=some (.dk true m)/\nbK m=true/\Wp (xBk i (fE mk)) ρ1 (fun k ρ2=> ∃ b l m j,ρ2[i]? =some (.ow (.ins b c0 l))/\l.lookup f=some (.dk true m)/\xDd k=some j/\(m.length<1000000/\nbK m=true/\d.nb=true)/\s .nx (ρ2.set i (.ow (.ins b c0 (xCk f (.dk true (xB3 m j d)) l))))) E) E):Wp (oPut i c0 f mk me) ρ s E:=by
 unfold oPut fO
 refine xAk (p:=s) (Wp.mono (show Wp (me.bind fzM) ρ _ E from h) (fun d ρ1 h=> ?_) fun _ _ z=>z)
 obtain ⟨b,l,m,h1,h2,h3,h⟩:=h
 refine ⟨?_⟩
 unfold xHg
 simp only [h1,h2]
 rw [if_pos ⟨trivial,h3⟩]
 refine Wp.run (E:=E) (p:=s) ?_
 refine xAk (p:=s) (h.mono (fun k ρ2 h=> ?_) fun _ _ z=>z)
 obtain ⟨b,l,m,j,g1,g2,g3,g4,h⟩:=h
 refine ⟨?_⟩
 unfold yFr
 simp only [g1,g2,g3,if_pos g4]
 exact h
theorem yG1 (h:Wp (xF6 i D.nb (fE m)) ρ (fun d ρ'=> ∃ b l,d.seq=some (b,l)/\pl l ρ') E):Wp (yFt i m) ρ pl E:=xAk (h.mono (fun d ρ' h=>by
 obtain ⟨b,l,e,h⟩:=h
 cases d with
 | lst b' l'=>
  cases e
  exact ⟨h⟩
 | tup l'=>
  cases e
  exact ⟨h⟩
 | _=>cases e) fun _ _ z=>z)
theorem yFl {q:SD->List SD->Prop}{Ex:Exn->List SD->Prop}(h:Wp b (.ow (.ins false c [])::(as.map SD.va++yLi (N-1-as.length) SD.un)) (fun f ρ'=>(f= .nx\/f= .rt (.va .non))/\ ∃ b c l,ρ'[0]? =some (.ow (.ins b c l))/\q (.va (.ins false c (fzFl l))) []) fun x _=>Ex x []):Fw (runI c N b as) q Ex:=by
 refine ⟨?_⟩
 unfold runI
 have h:=h.run
 cases e:b (.ow (.ins false c [])::(as.map SD.va++yLi (N-1-as.length) SD.un)) with
 | ok f ρ'=>
  rw [e] at h
  obtain ⟨hf,b',c',l,e1,hq⟩:=h
  have ee:endI ρ'= .ok (.va (.ins false c' (fzFl l))) []:=by
   unfold endI
   rw [e1]
  rcases hf with rfl|rfl
  ·dsimp only
   rw [ee]
   exact hq
  ·dsimp only
   rw [ee]
   exact hq
 | ex x ρ'=>
  rw [e] at h
  exact h
 | no=>
  rw [e] at h
  exact h.elim
end
section
variable {ρ:List SD}{E:Exn->List SD->Prop}{p:SD->List SD->Prop}{q:D->List SD->Prop}
theorem yDe (e:ρ[i]? =some (.ow (.dk b l)))(h:p (.va (.dk false l)) (ρ.set i (.va (.dk false l)))):Wp (mVar i) ρ p E:=by
 refine ⟨?_⟩
 unfold mVar
 rw [e]
 exact h
theorem yIp (h:q (.dk false l) ρ):Wp (fzM (.ow (.dk b l))) ρ q E:=⟨h⟩
end
theorem xZv (l:List (Key×D))(k:Key)(d:D)(k':Key):getK (l.map fun kv=>if kv.1=k then (kv.1,d) else kv) k'=if k'=k then (if (l.any fun kv=>decide (kv.1=k))=true then some d else none) else getK l k':=by
 induction l with
 | nil=>
  split
  ·rfl
  ·rfl
 | cons p l ih=>
  rw [yLx,xCr,ih,yM9,xCr]
  by_cases h:p.1=k
  ·rw [if_pos h]
   by_cases g:k'=k
   ·rw [if_pos g,if_pos g,if_pos (by rw [h,g]),if_pos (by rw [decide_eq_true h];rfl)]
   ·rw [if_neg g,if_neg g,if_neg (fun z:p.1=k'=>g (z ▸ h)),if_neg (fun z:p.1=k'=>g (z ▸ h))]
  ·rw [if_neg h,decide_eq_false h,Bool.false_or]
   by_cases g:k'=k
   ·rw [if_pos g,if_neg (fun z:p.1=k'=>h (z.trans g)),if_pos g]
   ·rw [if_neg g,if_neg g]
theorem yA4 (l:List (Key×D))(k:Key)(d:D)(k':Key)(h:(l.any fun kv=>decide (kv.1=k))=false):getK (l++[(k,d)]) k'=if k'=k then some d else getK l k':=by
 induction l with
 | nil=>
  rw [List.nil_append,xCr]
  by_cases g:k'=k
  ·rw [if_pos g,if_pos g.symm]
  ·rw [if_neg g,if_neg fun z=>g z.symm]
 | cons p l ih=>
  rw [yM9,Bool.or_eq_false_iff] at h
  rw [List.cons_append,xCr,ih h.2,xCr]
  by_cases g:k'=k
  ·rw [if_pos g,if_pos g,if_neg (by rw [g];exact of_decide_eq_false h.1)]
  ·rw [if_neg g,if_neg g]
theorem xR4 (l:List (Key×D))(k:Key)(d:D)(k':Key):getK (xB3 l k d) k'=if k'=k then some d else getK l k':=by
 unfold xB3
 split
 ·rename_i h
  rw [xZv,if_pos h]
 ·rename_i h
  exact yA4 l k d k' (Bool.eq_false_iff.mpr h)
theorem xEq (l:List (Key×D))(k:Key)(d:D):(xB3 l k d).length<=l.length+1:=by
 unfold xB3
 split
 ·rw [yK2]
  omega
 ·rw [yLn]
  exact yLq _
theorem xOh (h:p∈xB3 l k d):p∈l\/p=(k,d):=by
 unfold xB3 at h
 split at h
 ·obtain ⟨q,h1,h2⟩:=yLg.mp h
  by_cases z:q.1=k
  ·rw [if_pos z] at h2
   rw [<- h2,z]
   exact .inr rfl
  ·rw [if_neg z] at h2
   rw [<- h2]
   exact .inl h1
 ·rcases yMj.mp h with z|z
  ·exact .inl z
  ·exact .inr (yLl.mp z)
theorem xI6 (h:getK l k=some d):(k,d)∈l:=by
 induction l with
 | nil=>cases h
 | cons p l ih=>
  rw [xCr] at h
  by_cases z:p.1=k
  ·rw [if_pos z] at h
   cases h
   rw [<- z]
   exact yK3 ..
  ·rw [if_neg z] at h
   exact .tail _ (ih h)
theorem xSz (h:(k,d)∈l):(getK l k).isSome=true:=by
 induction l with
 | nil=>cases h
 | cons p l ih=>
  rw [xCr]
  by_cases z:p.1=k
  ·rw [if_pos z]
   rfl
  ·rw [if_neg z]
   rcases inC h with e|h
   ·rw [<- e] at z
    exact absurd rfl z
   ·exact ih h
theorem xSi: ∀ {l:List (Key×D)},(∀ p∈l,∃ s,p.1= .inr s)-> ∃ ks,xDk l=some ks/\ks.length=l.length/\ ∀ s,s∈ks ↔ ∃ d,((.inr s:Key),d)∈l
 | [],_=>⟨[],rfl,rfl,fun s=>⟨(fun h=>by cases h),fun ⟨d,h⟩=>by cases h⟩⟩
 | (k,d)::l,h=>by
  obtain ⟨s,e⟩:=h (k,d) (yK3 ..)
  cases (show k= .inr s from e)
  obtain ⟨ks,h1,h2,h3⟩:=xSi fun p hp=>h p (yK7 _ hp)
  refine ⟨s::ks,?_,by rw [yK9,yK9,h2],fun s'=> ?_⟩
  ·show (xDk l).map (s:: ·)=_
   rw [h1]
   rfl
  ·rw [yLp,h3]
   constructor
   ·rintro (rfl|⟨d',h⟩)
    ·exact ⟨d,yK3 ..⟩
    ·exact ⟨d',yK7 _ h⟩
   ·rintro ⟨d',h⟩
    rcases inC h with e|h
    ·cases e
     exact .inl rfl
    ·exact .inr ⟨d',h⟩
theorem xBv:s∈ssort l ↔ s∈l:=(xDm l).mem_iff
theorem xA5 (l:List Str):(ssort l).length=l.length:=(xDm l).length_eq
end Fm
set_option maxHeartbeats 390000
namespace Fm
open PySem PySem.W PySem.Calls PyProof.Rows PySem.HandSPX
theorem xIg: ∀ m:List Value,xCw m=true->(∃ c n,m= .ref c::n/\xCw n=true)\/m=xPv:=by
 intro m h
 cases m with
 | nil=>exact absurd h (by decide)
 | cons a n=>cases a <;> first|exact .inl ⟨_,_,rfl,h⟩|exact .inr (beq_iff_eq.mp h)
theorem xQe (me:Value):refuseLoop me "__setattr__" xPv=pure ():=by kernel_rfl
theorem xJr (me:Value): ∀ m:List Value,xCw m=true->refuseLoop me "__setattr__" m=pure ()
 | [],h=>absurd h (by decide)
 | a::n,h=>by
  rcases xIg _ h with ⟨c,n',w,h'⟩|w
  ·injection w with w1 w2
   subst w1 w2
   exact (refuseLoop_ref _ _ _ _).trans (xJr me _ h')
  ·rw [w]
   exact xQe me
theorem xHn (Y:String): ∀ m:List Value,xCw m=true->m.contains (.type Y)=xPv.contains (.type Y)
 | [],h=>absurd h (by decide)
 | a::n,h=>by
  rcases xIg _ h with ⟨c,n',w,h'⟩|w
  ·injection w with w1 w2
   subst w1 w2
   rw [List.contains_cons,xHn Y _ h']
   rfl
  ·rw [w]
theorem xS6 (h:xCw m=true)(e:xPv.contains (.type Y)=b):(Value.ref C::m).contains (.type Y)=b:=by
 rw [List.contains_cons,xHn Y m h,e]
 rfl
theorem xQ2 (h:xCw m=true):m.isEmpty=false:=by
 cases m with
 | nil=>exact absurd h (by decide)
 | cons _ _=>rfl
section
open Builtin.ObjectAttr Builtin
variable {prog:Program}{w:World}{Ar:Around}{Er:Value->Shared->Prop}{Re:Result->Shared->Prop}{hp:Heap}{gs:Array GenState}{dr:Drawn}{tk:Nat}{os:OsState}
variable {nm qn:Str}{C NS:Addr}{bs bm:List Value}{hd:Bool}{sn:List Str}{sub:List Value}{ab:Bool}{col:Option Bool}{dd:Option Addr}{k0 k1 k2 k3 k5:Option Value}
abbrev xV1 (nm qn:Str)(C NS:Addr)(bs bm:List Value)(hd:Bool)(sn:List Str)(sub:List Value)(ab:Bool)(col:Option Bool)(dd:Option Addr)(k0 k1 k2 k3 k5:Option Value):Obj:=
 excClassObj nm qn C NS bs bm hd sn sub ab col dd k0 k1 k2 k3 k5 "LookupError.__new__"
theorem yBm {M:Model}{rest:List Value}{Q:Unit->Shared->Prop}(hm:xCw bm=true)(hC:hp.get? C=some (xV1 nm qn C NS bs bm hd sn sub ab col dd k0 k1 k2 k3 k5))
  (q:Q () ⟨hp,gs,dr,tk,os⟩):wpAny M Ar (checkBuiltinCall "LookupError.__new__" ⟨.ref C::rest,[]⟩) Q Er ⟨hp,gs,dr,tk,os⟩:=by
 have has:(Value.ref C::bm).contains (.type "LookupError")=true:=xS6 hm (by decide +kernel)
 have star:=F.excBase_LookupError.noStar
 simp only [checkBuiltinCall,F.excBase_LookupError.newKind,F.excBase_LookupError.newSplit,F.excBase_LookupError.newRow]
 repeat (first
  | refine wpAny_loadPart_at hC ?_
  | (refine wpAny_isSubtype_exc hC ?_;rw [has])
  | refine wpAny_staticBase_exc hC ?_
  | refine wpAny_madeBy_exc hC ?_
  | simp only [bne_self_eq_false,yM7,if_false]
  | wp_step)
 exact q
theorem yKw (hm:xCw bm=true)(hC:hp.get? C=some (xV1 nm qn C NS bs bm hd sn sub ab col dd k0 k1 k2 k3 k5))(fit:rest.length<=sizeLine)
  (q:Re (.ok (.ret (.ref (hp.objs.size+1)))) ⟨(hp.push (kdv_tup rest)).push (excO C hp.objs.size),gs,dr,tk,os⟩):
  codeAny (model prog w) Ar (.builtin "LookupError.__new__" ⟨.ref C::rest,[]⟩) Re ⟨hp,gs,dr,tk,os⟩:=by
 have ends:=F.excBase_LookupError.ends
 have c1:(Value.ref C::bm).contains (.type "LookupError")=true:=xS6 hm (by decide +kernel)
 have c2:(Value.ref C::bm).contains (.type "AttributeError")=false:=xS6 hm (by decide +kernel)
 have c3:(Value.ref C::bm).contains (.type "NameError")=false:=xS6 hm (by decide +kernel)
 refine codeAny_builtinAt F.excBase_LookupError.entry ?_
 unfold PySem.Builtin.«BaseException.__new__»
 refine PySem.wpAt_bind ?_
 show PySem.wpAt _ _ _ (stack >>= _) _ _ _
 refine PySem.wpAt_bind (PySem.wpAt_stack fun p below=>PySem.wpAt_of_wpAny ?_)
 wp_walk
 refine PySem.wpAt_of_wpAny ?_
 rw [F.excBase_LookupError.owner]
 repeat (first
  | with_reducible refine wpAny_madeHere_exc F.excBase_LookupError.canon hC ?_
  | with_reducible refine wpAny_loadPart_at hC ?_
  | (with_reducible refine wpAny_isSubtype_exc hC ?_;first|rw [c1]|rw [c2]|rw [c3])
  | wp_step)
 show Re _ _
 rw [Heap.size_push]
 exact q
theorem yG7 {rest:List Value}{fI:Addr}(hm:xCw bm=true)(hC:hp.get? C=some (xV1 nm qn C NS bs bm hd sn sub ab col dd k0 k1 k2 k3 k5))(fit:rest.length<=sizeLine)
  (li:Looks (model prog w) hp (typeLookup (.ref C) "__init__") (some (.ref fI))) (bi: ∀ me,Looks (model prog w) hp (bindSpecial (.ref fI) me) (.ref fI,[me]))
  (q:codeAny (model prog w) (Ar.under (.builtin "type.__call__" ⟨.ref C::rest,[]⟩)) (.call (.ref fI) ⟨.ref (hp.objs.size+1)::rest,[]⟩) (InitBack (hp.objs.size+1) Re)
   ⟨(hp.push (kdv_tup rest)).push (excO C hp.objs.size),gs,dr,tk,os⟩):
  codeAny (model prog w) Ar (.call (.ref C) ⟨rest,[]⟩) Re ⟨hp,gs,dr,tk,os⟩:=by
 have t1:=tc_lookup
 have t2:=tc_bind (.ref C)
 have ty:(⟨hp,gs,dr,tk,os⟩:Shared).TypeIs (.ref C) "type":=⟨_,hC,rfl⟩
 refine codeAny_of_tree ?_
 show wpAny (model prog w) _ (callAny (.ref C) _) _ _ _
 repeat (any_goals (first|assumption|(with_reducible refine wpAny_loadPart_at hC ?_)|wp_step))
 refine ⟨rfl,?_⟩
 refine codeAny_call_builtin_at (Code.quiet_builtin _ (by decide +kernel)) entry_typeCall (wpAny_check_type_call_sub hC ?_)
 show wpAny _ _ (Builtin.«type.__call__» ⟨.ref C::rest,[]⟩) _ _ _
 repeat (first|with_reducible refine wpAny_madeBy_exc hC ?_|with_reducible refine wpAny_loadPart_at hC ?_|wp_step)
 refine codeAny_call_builtin_code (Code.quiet_builtin _ F.excBase_LookupError.quiet) (yBm hm hC ?_)
 refine yKw hm hC fit ?_
 show wpAny _ _ _ _ _ _
 have grown: ∀ b o,hp.get? b=some o->((hp.push (kdv_tup rest)).push (excO C hp.objs.size)).get? b=some o:=fun b o e=>Heap.get?_push_of_some _ (Heap.get?_push_of_some _ e)
 have hC2:=grown _ _ hC
 have me:((hp.push (kdv_tup rest)).push (excO C hp.objs.size)).get? (hp.objs.size+1)=some (excO C hp.objs.size):=by heap_get
 have own:(Value.ref C::bm).contains (.ref C)=true:=by simp
 have li2:=li.keeps grown
 have bi2:=(bi (.ref (hp.objs.size+1))).keeps grown
 unfold isInstance
 repeat (first|with_reducible refine wpAny_loadPart_at me ?_|(with_reducible refine wpAny_isSubtype_exc hC2 ?_;rw [own])|wp_step)
 show wpAny (model prog w) _ (typeLookup (.ref C) _) _ _ _
 refine li2.at (wpAny_holding (wpAny_bind (bi2.at (wpAny_bind (wpAny_call (codeAny_mono q fun r s' z=> ?_))))))
 rcases r with er|(v|_|_|_) <;> first|exact z|exact z.elim|skip
 obtain ⟨rfl,z⟩:=z
 first
  | (refine wpAny_pure ?_;exact wpAny_pure z)
  | (wp_walk;exact z)
end
end Fm
namespace Fm
open PySem PySem.W PySem.Calls PyProof.Rows PySem.HandSPX
section
open Builtin.ObjectAttr Builtin
variable {prog:Program}{w:World}{Ar:Around}{Er:Value->Shared->Prop}{Re:Result->Shared->Prop}{hp:Heap}{gs:Array GenState}{dr:Drawn}{tk:Nat}{os:OsState}
theorem xTc {K:Frag}{f:Str}{tf:Tok}{v:Value}{x C:Addr}{od:Option Addr}{fv:Array Value}{cd:ClassData}
  (X:K.In hp) (hx:hp.get? x=some { cls:= .ref C,dict:=od,data:= .fields fv }) (I:InstAt hp x { cls:= .ref C,dict:=od,data:= .fields fv } C ob) (hcd:clsIn K C=some cd) (hm:xCw cd.mro=true) (ha:findIn K (.ref C) f=some none)
  (q:wpAny (model prog w) (Ar.under (.builtin "object.__setattr__" ⟨[.ref x,.str f tf,v],[]⟩)) (storeInOwnDict (.ref x) (.ref C) (.str f tf) f v false)
   (fun fin s'=>match fin with
    | Fin.done r=>Re (Except.ok r) s'
    | Fin.again c'=>c'.quiet=true/\codeAny (model prog w) Ar c' Re s') (fun e s'=>Re (Except.error e) s') ⟨hp,gs,dr,tk,os⟩):
  codeAny (model prog w) Ar (.call (.builtin "object.__setattr__") ⟨[.ref x,.str f tf,v],[]⟩) Re ⟨hp,gs,dr,tk,os⟩:=by
 have obj:cd.mro.contains (.type "object")=true:=(xHn "object" _ hm).trans (by decide +kernel)
 have is:Looks (model prog w) hp (isInstance (.ref x) (.type "object")) true:=
  I.type.andThen (looks_mroIn X (by unfold mroIn;rw [hcd,Option.bind_some,if_neg (by rw [xQ2 hm];decide),obj]))
 have mr:Looks (model prog w) hp (mroOf (.ref C)) cd.mro:=(looks_clsIn X hcd).andThen .now
 have nt:Looks (model prog w) hp (storeTaker? none) none:= .now
 have Z:=F.store_object
 refine codeAny_call_builtin Z.slot.plain Z.entry (@check_slot (model prog w) _ _ ⟨hp,gs,dr,tk,os⟩ "object.__setattr__" "object" "__setattr__" (.ref x) [.str f tf,v] [] _ Z.kind Z.split is (Z.args (.ref x) (.str f tf) v) ?_)
 rw [osa_eq,refuse_eq]
 refine wpAny_bind (wpAny_bind (I.type.at (wpAny_bind (mr.at ?_))))
 rw [xJr _ _ hm]
 exact wpAny_pure (wpAny_bind (I.type.at (wpAny_bind ((looks_findIn X ha).at (wpAny_bind (nt.at q))))))
theorem xUv {M:Model}{dx:Addr}{f:Str}{tf:Tok}{v:Value}{Q:PySem.Fin->Shared->Prop}(e:hp.Ns dx (fun _=>none))
  (q: ∀ h' tk',Heap.SameBut dx hp h'->h'.Ns1 dx (fun y=>if y=f then some v else none)->Q (.done (.ret .none)) ⟨h',gs,dr,tk',os⟩):wpAny M Ar (storeInDict dx (.str f tf) f v) Q Er ⟨hp,gs,dr,tk,os⟩:=
 PySem.HandSPX.store_in_new e fun h' tk' n s=>q h' tk' s n
theorem xZt {K:Frag}{f:Str}{tf:Tok}{v:Value}{x C:Addr}{fv:Array Value}{cd:ClassData}
  (X:K.In hp) (hx:hp.get? x=some { cls:= .ref C,data:= .fields fv }) (hcd:clsIn K C=some cd) (hm:xCw cd.mro=true) (hh:cd.hasDict=true) (ha:findIn K (.ref C) f=some none)
  (q: ∀ h' tk' dx,hp.objs.size<=dx->dx≠x->(∀ b o,b≠x->hp.get? b=some o->h'.get? b=some o)->h'.get? x=some { cls:= .ref C,dict:=some dx,data:= .fields fv }->
   h'.Ns1 dx (fun y=>if y=f then some v else none)->Re (.ok (.ret .none)) ⟨h',gs,dr,tk',os⟩):
  codeAny (model prog w) Ar (.call (.builtin "object.__setattr__") ⟨[.ref x,.str f tf,v],[]⟩) Re ⟨hp,gs,dr,tk,os⟩:=by
 have cl:Looks (model prog w) hp (classData C) cd:=looks_clsIn X hcd
 have ne:x≠hp.objs.size:=yMw (Heap.lt_size hx)
 refine xTc (ob:=none) X hx ⟨hx,rfl,rfl,trivial⟩ hcd hm ha ?_
 cases cd with
 | mk nm bs mro ns qn hd sn sb ab col del=>
 dsimp only at hh
 subst hh
 unfold storeInOwnDict
 unfold ownDictForStores
 repeat (first|with_reducible refine xUv ?_ ?_|with_reducible refine wpAny_loadPart_at hx ?_|with_reducible refine cl.at ?_|wp_step)
 ·exact ⟨_,#[],_,(Heap.get?_update_ne _ _ _ _ ne.symm).trans (Heap.get?_push_at rfl rfl),rfl,fun e he=>absurd he (by simp),fun _=>rfl⟩
 ·intro h' tk' hs hn
  have hx2:(hp.push { cls:= .type "dict",data:= .dict #[] }).get? x=some { cls:= .ref C,data:= .fields fv }:=Heap.get?_push_of_some _ hx
  refine q h' tk' hp.objs.size (yLq _) ne.symm (fun b o hb ho=> ?_) ((hs.2 x ne).trans (Heap.get?_update_self _ hx2 rfl)) hn
  rw [hs.2 b (yMw (Heap.lt_size ho)),Heap.get?_update_ne _ _ _ _ hb]
  exact id (Heap.get?_push_of_some _ ho)
theorem xT5 {M:Model}{dx:Addr}{f:Str}{tf:Tok}{v:Value}{m0:Str->Option Value}{Q:PySem.Fin->Shared->Prop}(hn:hp.Ns1 dx m0)(hw:Within m0 ns)(hz:ns.length<=1000)
  (q: ∀ h' tk',Heap.SameBut dx hp h'->h'.Ns1 dx (fun y=>if y=f then some v else m0 y)->Q (.done (.ret .none)) ⟨h',gs,dr,tk',os⟩):wpAny M Ar (storeInDict dx (.str f tf) f v) Q Er ⟨hp,gs,dr,tk,os⟩:=
 PySem.OEX.store_in_old hn hw hz fun h' tk' n s=>q h' tk' s n
theorem yDx {K:Frag}{f:Str}{tf:Tok}{v:Value}{x C dx:Addr}{fv:Array Value}{cd:ClassData}{m0:Str->Option Value}
  (X:K.In hp) (hx:hp.get? x=some { cls:= .ref C,dict:=some dx,data:= .fields fv }) (hns:hp.Ns1 dx m0) (hw:Within m0 nl) (hz:nl.length<=1000) (hcd:clsIn K C=some cd) (hm:xCw cd.mro=true) (hh:cd.hasDict=true) (ha:findIn K (.ref C) f=some none)
  (q: ∀ h' tk',(∀ b o,b≠dx->hp.get? b=some o->h'.get? b=some o)->h'.Ns1 dx (fun y=>if y=f then some v else m0 y)->Re (.ok (.ret .none)) ⟨h',gs,dr,tk',os⟩):
  codeAny (model prog w) Ar (.call (.builtin "object.__setattr__") ⟨[.ref x,.str f tf,v],[]⟩) Re ⟨hp,gs,dr,tk,os⟩:=by
 have cl:Looks (model prog w) hp (classData C) cd:=looks_clsIn X hcd
 obtain ⟨oD,_,_,hD,_,_⟩:=hns.count hw
 refine xTc (ob:=some oD) X hx ⟨hx,rfl,rfl,hD⟩ hcd hm ha ?_
 cases cd with
 | mk nm bs mro ns qn hd sn sb ab col del=>
 dsimp only at hh
 subst hh
 unfold storeInOwnDict
 unfold ownDictForStores
 repeat (first|with_reducible refine xT5 hns hw hz ?_|with_reducible refine wpAny_loadPart_at hx ?_|with_reducible refine cl.at ?_|wp_step)
 exact fun h' tk' hs hn=>q h' tk' (fun b o hb ho=>(hs.2 b hb).trans ho) hn
end
end Fm
namespace Fm
open L2 PySem PySem.Spec PyProof.Rows
structure OexK (K:PySem.W.Frag)(C:Addr):Prop where
 cls: ∃ nm q N bs bm sn sub ab col dd k0 k1 k2 k3 k5,K.lookup C=some (xV1 nm q C N bs bm true sn sub ab col dd k0 k1 k2 k3 k5)/\xCw bm=true
 (sa:PySem.W.findIn K (.ref C) "__setattr__"=some (some (.builtin "object.__setattr__"))) (exC:PySem.W.subIn K (.ref C) (.type "BaseException")=some true) (tyC:PySem.W.typeIn K (.ref C)=some (.type "type")) (kC:PySem.W.keepIn K (.ref C)=true)
def yJi (nm q:Str)(C N:Addr)(bs bm:List Value)(sn:List Str)(sub:List Value)(ab:Bool)(col:Option Bool):ClassData:={ name:=nm,bases:=bs,mro:= .ref C::bm,ns:=N,qualname:=q,hasDict:=true,slotNames:=sn,subclasses:=sub,abstract:=ab,collection:=col,hasDel:=false }
theorem OexK.dat {K:PySem.W.Frag}{C:Addr}(T:OexK K C): ∃ cd,PySem.W.clsIn K C=some cd/\xCw cd.mro=true/\cd.hasDict=true:=by
 obtain ⟨nm,qn,N,bs,bm,sn,sub,ab,col,dd,k0,k1,k2,k3,k5,hC,hbm⟩:=T.cls
 refine ⟨yJi nm qn C N bs bm sn sub ab col,?_,show xCw (.ref C::bm)=true from hbm,rfl⟩
 unfold PySem.W.clsIn
 rw [hC]
 rfl
section
variable {X:Cx}{pins:List (Addr×Obj)}{σ:L2.St}{H:Hp}{s:Shared}{a C dx:Addr}{f:Str}{y:V}{u:Value}{fs:List (Str×V)}{Q:Unit->Shared->Prop}{E:Value->Shared->Prop}{Ar:Around}
theorem yA9 (T:OexK X.K C)(I:Inv X pins σ H s)(e:H a=some (exo a C none))(no:PySem.W.findIn X.K (.ref C) f=some none)(ry:RelV y u)
  (q: ∀ d s',H d=none->d≠a->Inv X pins σ (upd (upd H d (exd d [(f,y)])) a (exo a C (some d))) s'->Q () s'):wpAny (model X.prog X.w) Ar (setAttr (.ref a) f u) Q E s:=by
 obtain ⟨cd,h1,h2,h3⟩:=T.dat
 obtain ⟨t0,ho⟩:=exo_at I.hok e
 obtain ⟨hp,gs,dr,tk,os⟩:=s
 refine PySem.W.set_plain I.kIn (ox:={ cls:= .ref C,dict:=none,data:= .fields #[.ref t0,.none,.none,.none,.bool false,.none] }) (od:=none) ⟨ho,rfl,rfl,trivial⟩ T.sa ?_
 refine xZt I.kIn ho h1 h2 h3 no fun h' tk' d dn dne k hx hn=> ?_
 have hnd:H d=none:=I.hok.fresh dn
 have nd: ∀ {b:Addr} {o:Obj},hp.get? b=some o->b≠d:=fun {b o} z=>yMw (yM4 (Heap.lt_size z) dn)
 have nA: ∀ {b:Addr},H b=none->b≠a:=fun {b} n z=>by
  rw [z,e] at n
  exact nomatch n
 have keepU: ∀ {b:Addr} {o:HO},H b=some o->o≠exo a C none->upd (upd H d (exd d [(f,y)])) a (exo a C (some d)) b=some o:=fun {b o} z n=>by
  rw [upd_ne fun w=>n (yLh.inj (by rw [<- z,w,e])),upd_ne (ne_of_none z hnd),z]
 have U:Un X.fs [] H (upd (upd H d (exd d [(f,y)])) a (exo a C (some d))) hp h':={
  keep:=fun b o z n _ _=>k b o (nA n) z
  slot:=fun b o z n _ _=>⟨o.slots,k b o (nA n) z⟩
  free:=fun b o z n _=>(upd_ne (nA n)).trans ((upd_ne (nd z)).trans n)
  there:=fun b o z _=>by
   rcases Nat.decEq b a with hb|hb
   ·exact ⟨o,k b o hb z⟩
   ·exact ⟨_,hb ▸ hx⟩
  tups:=fun b xs z=>keepU z (Ne.symm exo_tup)
  frzs:=fun b o v z=>keepU z (Ne.symm exo_frz)
  tbls:=fun b ps z=>⟨#[],(keepU z (Ne.symm exo_tbl)).trans (by simp)⟩ }
 refine q d _ hnd dne (I.un (t':=tk') U fun b o z=> ?_)
 rcases Nat.decEq b a with hb|hb
 ·rw [upd_ne hb] at z
  rcases Nat.decEq b d with hd|hd
  ·rw [upd_ne hd] at z
   exact (I.hok b o z).stay (fun c v hc w=>k c v (by
     rcases hc with hc|hc
     ·exact hc ▸ hb
     ·exact at_ne e hc exo_own) w)
    (fun c hc=>keepU hc (Ne.symm exo_own)) (fun c xs hc=>keepU hc (Ne.symm exo_tup))
  ·subst hd
   rw [upd_same] at z
   cases z
   exact exd_ok hn (relO_put (fs:=[]) ry fun _=>True.intro)
 ·subst hb
  rw [upd_same] at z
  cases z
  exact exo_ok hx
theorem yAv (T:OexK X.K C)(I:Inv X pins σ H s)(e:H a=some (exo a C (some dx)))(ed:H dx=some (exd dx fs))(hl:fs.length<=900)(no:PySem.W.findIn X.K (.ref C) f=some none)(ry:RelV y u)
  (q: ∀ s',Inv X pins σ (upd H dx (exd dx ((f,y)::fs))) s'->Q () s'):wpAny (model X.prog X.w) Ar (setAttr (.ref a) f u) Q E s:=by
 obtain ⟨cd,h1,h2,h3⟩:=T.dat
 obtain ⟨t0,ho⟩:=exo_at I.hok e
 obtain ⟨mD,hns,rel⟩:=exd_at I.hok ed
 have hw:=within_of rel
 obtain ⟨hp,gs,dr,tk,os⟩:=s
 obtain ⟨oD,_,_,hD,_,_⟩:=hns.count hw
 refine PySem.W.set_plain I.kIn (ox:={ cls:= .ref C,dict:=some dx,data:= .fields #[.ref t0,.none,.none,.none,.bool false,.none] }) (od:=some oD) ⟨ho,rfl,rfl,hD⟩ T.sa ?_
 refine yDx I.kIn ho hns hw (by rw [yK2];omega) h1 h2 h3 no fun h' tk' k hn=> ?_
 have there: ∃ o,h'.get? dx=some o:=by
  obtain ⟨o,_,_,z,_⟩:=hn
  exact ⟨o,z⟩
 exact q _ (I.write (t':=tk') (x:=dx) (e:=dx) (o:=exd dx ((f,y)::fs)) (by rw [ed];exact True.intro) (.inl rfl) k there (exd_ok hn (relO_put ry rel)))
end
def tOsK (K:PySem.W.Frag)(f:Str)(to te:TE):TS:=fun D σ H=>te σ H fun y H1=>to σ H1 fun x H2=> ∃ a C:Addr,x= .ref a/\OexK K C/\PySem.W.findIn K (.ref C) f=some none/\
 ((H2 a=some (exo a C none)/\ ∀ d,H2 d=none->d≠a->D.nx σ (upd (upd H2 d (exd d [(f,y)])) a (exo a C (some d))))\/
  ∃ (dx:Addr) (fs:List (Str×V)),(H2 a=some (exo a C (some dx))/\H2 dx=some (exd dx fs))/\fs.length<=900/\D.nx σ (upd H2 dx (exd dx ((f,y)::fs))))
section
variable {X:Cx}{o e:Expr}{es:List Expr}{to te:TE}{ta:TA}{f:Str}{p p' pos:Pos}
theorem yDq (ho:PE X o to)(he:PE X e te)(hs:swapsWith e (some (.Attribute o f p')) pos.line X.env=pure false:=by rfl):PS X (.Assign [.Attribute o f p'] e pos) (tOsK X.K f to te):=by
 refine ⟨fun pins s σ H D I h=>plainObj_wpAny_Assign_Attribute (thn (he.run pins s σ H _ I h) fun v s1 ⟨y,H1,I1,r1,q1⟩=>thn (ho.run pins s1 σ H1 _ I1 q1) fun u s2 ⟨x,H2,I2,r2,a,C,ex,T,no,q⟩=> ?_) hs⟩
 subst ex
 have ru:u=Value.ref a:=r2
 subst ru
 rcases q with ⟨ea,q⟩|⟨dx,fs,⟨ea,ed⟩,hl,q⟩
 ·exact yA9 T I2 ea no r1 fun dx s' n ne J=>⟨σ,_,J,q dx n ne⟩
 ·exact yAv T I2 ea ed hl no r1 fun s' J=>⟨σ,_,J,q⟩
theorem yEr {CX:CXT}{x:Str}{C fI:Addr}{k:Nat}{fd:FuncData}{ps:List Str}{sp:Sp}(T:OexK X.K C)(iC:PySem.W.findIn X.K (.ref C) "__init__"=some (some (.ref fI)))(tI:PySem.W.typeIn X.K (.ref fI)=some (.type "function"))
  (F1:FnOk X.prog X.w X.K X.mg X.base CX k fI fd ps sp) (hr:Room (k+1) X.A) (hb:Binds X.K fd ps []) (hx:Passes CX X (fun _ _ _=>False)) (hg:Gl X x) (hm:X.mg x=some (.ref C)) (ha:PA X (e::es) ta) (hdb:(x==("__debug__":Str))=false:=by decide)
  (he:starEach (e::es) X.env=(false,eval e X.env)::starEach es X.env:=by rfl)
  (hpl:(backTo pos (starEach es X.env)).any (·.1)=false:=by rfl):PMk X (.Call (.Name x p) (e::es) [] pos) (tMkO C sp [] ta):=by
 intro pins s σ H Q I h
 refine wpAny_Call_Name_kw (ld_glob I hg hm (PySem.W.callWith_K (h₀:=X.base) I.ok.mod.kin T.kC (thn (ha.run pos pins s σ H _ I h) fun us s1 ⟨vs,H1,I1,r1,hz,q1⟩=>⟨I1.kIn,?_⟩) he hpl) hdb)
 obtain ⟨nm,qn,N,bs,bm,sn,sub,ab,col,dd,k0,k1,k2,k3,k5,hC,hbm⟩:=T.cls
 obtain ⟨hp,gs,dr,tk,os⟩:=s1
 have free:H1 (hp.objs.size+1)=none:=I1.hok.fresh (yMv hp.objs.size)
 have ask:=q1 _ free
 have grown: ∀ b o,hp.get? b=some o->((hp.push (PySem.W.kdv_tup us)).push (PySem.HandSPX.excO C hp.objs.size)).get? b=some o:=fun b o e=>Heap.get?_push_of_some _ (Heap.get?_push_of_some _ e)
 have I2:=I1.laid (t':=tk) (a:=hp.objs.size+1) (o:=exo (hp.objs.size+1) C none) grown (yMv hp.objs.size) (exo_ok (t1:=hp.objs.size) (by heap_get))
 have both:Vals (V.ref (hp.objs.size+1)::(vs++[])) (Value.ref (hp.objs.size+1)::us):= .cons rfl (by rw [yL9];exact r1)
 have count:(Value.ref (hp.objs.size+1)::us).length=ps.length:=both.length.symm.trans (F1.len _ _ _ _ ask)
 have fit:us.length<=sizeLine:=by
  rw [sizeLine_eq,<- Paired.length r1]
  omega
 have run:=F1.run _ X.stack _ _ ⟨Value.ref (hp.objs.size+1)::us,[]⟩ (Value.ref (hp.objs.size+1)::us) _ _ (fun _ _ _=>False) (hr.make C us []) (I2.env0.make C us []) (by have z:=hb _ (Value.ref (hp.objs.size+1)::us) I2.kIn (by rw [yL9];exact count);rwa [yL9] at z) both ask
 refine wpAny_call (yG7 hbm (I1.kIn _ _ hC) fit (PySem.W.looks_findIn I1.kIn iC) (fun me=>PySem.W.bind_fn I1.kIn me tI) (codeAny_mono run fun r s' back=> ?_))
 match r,back with
 | .error e,z=>exact hx pins σ _ _ e s' I2 z
 | .ok .next,z=>exact z.elim
 | .ok .brk,z=>exact z.elim
 | .ok .cont,z=>exact z.elim
 | .ok (.ret u),⟨v,H2,o2,b2,un,ok2,rv,ev,d,fs,ea,ed,hd,q2⟩=>
  subst ev
  exact ⟨rv,mk_end (raises_own T.exC T.tyC) I1 (yMv _) grown un ok2 o2 b2 ea ed hd q2⟩
end
def spK2 (K:PySem.W.Frag)(f z g:Str):Sp:=fun vs H Q E=> ∃ (a C:Addr) (y:V),vs=[.ref a,y]/\OexK K C/\PySem.W.findIn K (.ref C) f=some none/\PySem.W.findIn K (.ref C) g=some none/\H a=some (exo a C none)/\
 ∀ dx,H dx=none->dx≠a->Q .non (upd (upd (upd H dx (exd dx [(f,.str z)])) a (exo a C (some dx))) dx (exd dx [(g,y),(f,.str z)]))
theorem initK_ok {P:Program}{w:World}{K:PySem.W.Frag}{mg:Str->Option Value}{base:Heap}{qual f z g n:Str}{params:Arguments}{scope:Scope}{fI:Addr}{fd:FuncData}{p1 p2 p3 p4 p5 p6 p7 p8:Pos}{j:Nat}
  (F:FunD K "__init__" qual params [.Assign [.Attribute (.Name "self" p1) f p2] (.Constant (.str z) j p3) p4,.Assign [.Attribute (.Name "self" p5) g p6] (.Name n p7) p8] scope [] [] fI fd) (Sc:FnScope ["self",n] ["self",n] scope)
  (dn:(n==("__debug__":Str))=false:=by decide) (cn:(n==("__classdict__":Str))=false:=by decide):FnOk P w K mg base (L2.CX P w) 1 fI fd ["self",n] (spK2 K f z g):=by
 refine F.ok Sc (fun vs H Q E ⟨a,C,y,e,_⟩=>by rw [e];rfl) fun cdv A outer s H vs Q E hr ⟨a,C,y,e,T,no,no2,ha,q⟩=> ?_
 subst e
 have v0:Vis scope "self":=(Sc.par _ (by simp)).imp id .inl
 have v1:Vis scope n:=(Sc.par _ (by simp)).imp id .inl
 refine ⟨_,pss_cons (yDq (pe_var (i:=0) rfl v0) pe_str) (pss_one (yDq (pe_var (i:=0) rfl v0) (pe_var (i:=1) rfl v1 dn cn))),?_⟩
 refine ⟨.ref a,rfl,a,C,rfl,T,no,.inl ⟨ha,fun dx hd ne=> ?_⟩⟩
 exact ⟨y,rfl,.ref a,rfl,a,C,rfl,T,no2,.inr ⟨dx,_,⟨upd_same,by rw [upd_ne ne,upd_same]⟩,by simp,q dx hd ne⟩⟩
structure ExK2 (P:Program)(w:World)(K:PySem.W.Frag)(mg:Str->Option Value)(base:Heap)(κ:Ctx)(x:Str)(c:String)(f z g n:Str)(fI:Addr)(fd:FuncData):Prop where
 T:OexK K (κ.cl c)
 no:PySem.W.findIn K (.ref (κ.cl c)) f=some none
 no2:PySem.W.findIn K (.ref (κ.cl c)) g=some none
 iC:PySem.W.findIn K (.ref (κ.cl c)) "__init__"=some (some (.ref fI))
 tI:PySem.W.typeIn K (.ref fI)=some (.type "function")
 ok:FnOk P w K mg base (L2.CX P w) 1 fI fd ["self",n] (spK2 K f z g)
 bd:Binds K fd ["self",n] []
 gl:mg x=some (.ref (κ.cl c))
theorem xX3 (h:xSu C o=true): ∃ nm q N bs bm sn sub ab col dd k0 k1 k2 k3 k5,o=xV1 nm q C N bs bm true sn sub ab col dd k0 k1 k2 k3 k5/\xCw bm=true:=by
 unfold xSu at h
 split at h
 ·rename_i m dd cd k0 k1 k2 k3 n k5
  obtain ⟨h1,g1⟩:=and2 h
  obtain ⟨h2,g2⟩:=and2 g1
  obtain ⟨h3,g3⟩:=and2 g2
  obtain ⟨h4,g4⟩:=and2 g3
  clear h g1 g2 g3
  obtain ⟨nm,bs,mro,ns,qn,hd,sn,sb,abs,col,del⟩:=cd
  dsimp only at g4 h3 h4
  split at g4
  ·rename_i D tail
   obtain ⟨h5,h6⟩:=and2 g4
   have e1:=eq_of_beq h1
   have e2:=eq_of_beq h2
   have e5:=eq_of_beq h5
   have e4:del=false:=by simpa using h4
   subst e1 e2 e4 e5 h3
   exact ⟨nm,qn,ns,bs,tail,sn,sb,abs,col,dd,k0,k1,k2,k3,k5,rfl,h6⟩
  ·cases g4
 ·cases h
theorem yAi {K:PySem.W.Frag}{C:Addr}(h:yKm K C=true):OexK K C:=by
 obtain ⟨h1,h⟩:=and2 h
 obtain ⟨h2,h⟩:=and2 h
 obtain ⟨h3,h⟩:=and2 h
 obtain ⟨h4,h5⟩:=and2 h
 refine ⟨?_,of_decide_eq_true h2,of_decide_eq_true h3,of_decide_eq_true h4,h5⟩
 cases e:K.lookup C with
 | none=>
  rw [e] at h1
  cases h1
 | some o=>
  rw [e] at h1
  obtain ⟨nm,q,N,bs,bm,sn,sub,ab,col,dd,k0,k1,k2,k3,k5,rfl,r⟩:=xX3 (show xSu C o=true from h1)
  exact ⟨nm,q,N,bs,bm,sn,sub,ab,col,dd,k0,k1,k2,k3,k5,rfl,r⟩
theorem yG4 {K:PySem.W.Frag}{mg:Str->Option Value}{κ:Ctx}{x:Str}{c:String}{f z g n:Str}{fI:Addr}{fd:FuncData}(h:exKB K (κ.cl c) fI f=true)(h2:PySem.W.findIn K (.ref (κ.cl c)) g=some none)(gl:mg x=some (.ref (κ.cl c)))
  (ok:FnOk P w K mg base (L2.CX P w) 1 fI fd ["self",n] (spK2 K f z g)) (bd:Binds K fd ["self",n] []):ExK2 P w K mg base κ x c f z g n fI fd:=by
 obtain ⟨g1,h⟩:=and2 h
 obtain ⟨g2,h⟩:=and2 h
 obtain ⟨g3,g4⟩:=and2 h
 exact ⟨yAi g1,of_decide_eq_true g2,h2,of_decide_eq_true g3,of_decide_eq_true g4,ok,bd,gl⟩
section
variable {X:Cx}{κ:Ctx}{A:List Nat}{W:WX}{x:Str}{c:String}{f z g n:Str}{fI:Addr}{fd:FuncData}{e:Expr}{m:M SD}{p p2 pos:Pos}
theorem yBq (C:ExK2 X.prog X.w X.K X.mg X.base κ x c f z g n fI fd)(hc:X.calm=true)(tk:Takes X W)(hr:Room 2 X.A)(hx:Passes (L2.CX X.prog X.w) X fun _ _ _=>False)(hg:Gl X x)(he:PE X e (tE κ W m))(hdb:(x==("__debug__":Str))=false:=by decide)
  (hs:starEach [e] X.env=(false,eval e X.env)::starEach [] X.env:=by rfl) (hpl:(backTo p2 (starEach [] X.env)).any (·.1)=false:=by rfl):PS X (.Raise (some (.Call (.Name x p) [e] [] p2)) none pos) (tS κ A W (sEx1 c f z g m)):=by
 refine PS.imp (ps_raise hc tk (yEr C.T C.iC C.tI C.ok hr C.bd hx hg C.gl (pa_cons he pa_nil hs) hdb hs hpl)) fun D σ H ⟨B,ρ,G,_,o,q⟩=> ?_
 refine xB1 o (PstS.bind q) fun d ρ1 H1 G1 o1 s1 q1 y r1=> ?_
 refine ⟨by simp,fun a ha=>⟨a,_,y,rfl,C.T,C.no,C.no2,upd_same,fun dx hd ne=>⟨rfl,dx,[(g,y),(f,.str z)],?_,upd_same,?_,?_⟩⟩⟩
 ·rw [upd_ne (Ne.symm ne),upd_same]
 ·rw [upd_ne ne] at hd
  exact hd
 ·rw [upd_ne ne] at hd
  rw [xL1 ha ne]
  exact q1 _ _ σ _ G1 (o1.allocOwn hd) (Same.refl G1) ⟨rfl,dx,_,rfl,upd_same,y,_,rfl,r1,.str z,[],rfl,rfl,rfl⟩
end
def ptD (x:Exn):Pt->Option D
 | .fld f=>x.fs.lookup f
 | .neg k=>some (.int (-k))
def sTryP (b:S)(i j:Nat)(pick:String->Option (Pt×Pt)):S:=fun ρ=>match b ρ with
 | .ex x ρ'=>match pick x.c with
  | some w=>if i<ρ'.length then match ptD x w.1,ptD x w.2 with
   | some d,some e=> .ok .nx (((ρ'.set i .un).set j (.va (.tup [d,e]))).set i .un)
   | _,_=> .no
   else .no
  | none=> .no
 | r=>r
def tPt (K:PySem.W.Frag)(i:Nat)(a:Addr)(cls:Value)(d:Option Addr):Pt->TE
 | .fld f=>fun σ H Q=> ∃ C,XfC K C/\PySem.W.findIn K (.ref C) f=some none/\tXf a cls d C f (tVar i) σ H Q
 | .neg k=>tUn (rU fun i=> .int (-i)) (tC (.int k))
inductive PtEx (X:Cx)(n:Str):Expr->Pt->Prop
 | fld {f:Str} {p q:Pos} (h:attributeBase (.Name n p) f X.env (eval (.Name n p) X.env)=eval (.Name n p) X.env):PtEx X n (.Attribute (.Name n p) f q) (.fld f)
 | neg {k:Int} {jn:Nat} {p q:Pos}:PtEx X n (.UnaryOp .USub (.Constant (.int k) jn p) q) (.neg k)
def yK1 (K:PySem.W.Frag)(i j:Nat)(w:Pt×Pt)(a:Addr)(cls:Value)(d:Option Addr):TS:=tAsg (tTup (tCons (tPt K i a cls d w.1) (tCons (tPt K i a cls d w.2) tNil))) (gName j)
def Cp.cl (K:PySem.W.Frag)(i j:Nat)(q:Cp):Cl:=⟨.ref q.1,i,yK1 K i j q.2⟩
inductive ClPs (X:Cx)(i j:Nat)(n nw:Str):List ExceptHandler->List Cp->Prop
 | nil:ClPs X i j n nw [] []
 | cons {xm:Str} {CM:Addr} {e1 e2:Expr} {w1 w2:Pt} {jt:Nat} {q1 q2 q3 q4 q5:Pos} {hds:List ExceptHandler} {l:List Cp} (gm:Gl X xm) (dm:(xm==("__debug__":Str))=false) (hm:X.mg xm=some (.ref CM))
   (h1:PtEx X n e1 w1) (h2:PtEx X n e2 w2) (hsw:swapsWith (.Tuple [e1,e2] jt q4) (some (.Name nw q3)) q5.line X.env=pure false) (r:ClPs X i j n nw hds l):
   ClPs X i j n nw (.ExceptHandler (some (.Name xm q1)) (some n) [.Assign [.Name nw q3] (.Tuple [e1,e2] jt q4) q5] q2::hds) ((CM,w1,w2)::l)
structure TryPK (K:PySem.W.Frag)(κ:Ctx)(l:List Cp)(pick:String->Option (Pt×Pt)):Prop where
 on: ∀ c w,pick c=some w->yG9 K (.ref (κ.cl c)) l=some w/\ptF K (κ.cl c) w.1=true/\ptF K (κ.cl c) w.2=true
section
variable {X:Cx}{κ:Ctx}{A:List Nat}{Wout:WX}{i j:Nat}{nw n:Str}{body:List Stmt}{b:S}{pick:String->Option (Pt×Pt)}{pos:Pos}{l:List Cp}{hds:List ExceptHandler}
theorem yJc (h:PtEx X n e w)(i1:X.N[i]? =some n)(l1:X.env.kindOf n=some .local)(dn:(n==("__debug__":Str))=false)(cn:(n==("__classdict__":Str))=false)(z:Zc cls d oe)(dt: ∃ vs,oe.data= .fields vs):
  PE (X.suite y ((y,oe)::pn)) e (tPt X.K i y cls d w):=by
 cases h with
 | fld hat=>exact ⟨fun pins s σ H Q I ⟨C,xc,no,q⟩=>(pe_xf (X:=X) xc no z dt (pe_var (X:=X.suite y ((y,oe)::pn)) (i:=i) i1 (.inl l1) dn cn) hat).run pins s σ H Q I q⟩
 | @neg k jn p q=>exact pe_un (r:=rU fun i=> .int (-i)) (ta:=tC (.int k)) un_neg pe_int
theorem ClPs.ok (k:ClPs X i j n nw hds l)(hN:X.N.Nodup)(i1:X.N[i]? =some n)(i2:X.N[j]? =some nw)(l1:X.env.kindOf n=some .local)(l2:X.env.scope.names.lookup nw=some .local)(dn:(n==("__debug__":Str))=false)(cn:(n==("__classdict__":Str))=false):ClsOk X hds (l.map (Cp.cl X.K i j)):=by
 induction k with
 | nil=>exact .nil
 | cons gm dm hm h1 h2 hsw r ih=>
  exact .cons ⟨gm,dm,.inl hm⟩ i1 l1 (fun y oe cls d pn z dt=>pss_one (ps_set (X:=X.suite y ((y,oe)::pn)) (i:=j) hN i2 (.inl l2) (pe_tup (pa_cons (yJc h1 i1 l1 dn cn z dt) (pa_cons (yJc h2 i1 l1 dn cn z dt) pa_nil (by cases h2 <;> rfl)) (by cases h1 <;> rfl))) hsw (.inr l2))) ih
end
def pickL (l:List (String×Pt×Pt)):String->Option (Pt×Pt):=fun c=>l.lookup c
def upD:D->Option SD
 | .str a=>if a.length<=1000000 then some (.va (.str (Txt.upper a))) else none
 | _=>none
section
variable {X:Cx}{κ:Ctx}{W:WX}
end
set_option maxHeartbeats 990000
section
variable {X:Cx}{pins pinsZ pn:List (Addr×Obj)}{σ σZ:L2.St}{H H0 HZ:Hp}{s s0 sZ:Shared}{CXg:CXT}{E Eg:XK}{Ng:List Str}{qg:Str}{sg scope:Scope}{g f c':Addr}{cdg pm ctv:Value}{params:Arguments}{body:Expr}{k:Nat}{xe:Value->Shared->Prop}{tb:TE}{tc:XK->TE}{Q:VK}{Az:Around}{oz:List Env}
abbrev cxZ (X:Cx)(CXg:CXT)(Ng:List Str)(qg:Str)(sg:Scope)(g:Addr)(cdg:Value)(Az:Around)(oz:List Env)(s0:Shared)(H0:Hp)(Eg:XK)(pn:List (Addr×Obj))(xe:Value->Shared->Prop):Cx:=(cxOf CXg X.prog X.w X.K X.mg X.base Ng qg sg g cdg Az oz s0 H0 Eg).tr pn xe
end
def Bas.knows (B:Bas)(H G:Hp)(c:Addr):Bas:={ B with H:=fun a=>if a=c then H c else B.H a,G:=fun a=>if a=c then G c else B.G a }
section
variable {κ:Ctx}{B:Bas}{ρ ρ':List SD}{σ σ':L2.St}{H H' G G':Hp}{c:Addr}{u:HO}
end
set_option maxHeartbeats 1990000
def runT (g:D->List SD->Option (List SD))(N:Nat)(s:S)(t:D)(ds:List D):FR:=match g t (SD.un::(ds.map SD.va++yLi (N-ds.length) SD.un)) with
 | some ρ=>match s ρ with
  | .ok .nx _=> .ok (.va .non) []
  | .ok (.rt (.va d)) _=> .ok (.va d) []
  | .ex x _=> .ex x []
  | _=> .no
 | none=> .no
def toldK (fn:D->List D->FR)(ds:List D)(r:SD):M SD:=fun ρ=>match r with
 | .va t=>match fn t ds with
  | .ok (.va d) _=> .ok (.va d) ρ
  | .ex x _=> .ex x ρ
  | _=> .no
 | _=> .no
def mTold (hit:String->Bool)(f:Str)(fn:D->List D->FR)(m:M SD)(n:M (List D)):M SD:=n.bind fun ds=>(yJr hit f m).bind (toldK fn ds)
section
variable {κ:Ctx}{W:WX}{B:Bas}{ρ:List SD}{σ:L2.St}{H G:Hp}{g:D->List SD->Option (List SD)}{s:S}{t:D}{ds:List D}{v fl:V}{vs:List V}{N:List Str}{a:Str}{Q:VK}{l:List Nat}
end
def xVw (P:Program)(w:World)(K:PySem.W.Frag)(mg:Str->Option Value)(base:Heap)(κ:Ctx)(x:Str)(k:Nat)(N:List Str)(sc:Scope)(f:Addr)(fd:FuncData)(tg:Expr)(rest:List Stmt)(vs:List Nat)(g:D->List SD->Option (List SD))(s:S):Prop:=
 ∀ (cdv:Value) (Ar:Around) (outer:List Env) (s0:Shared) (H:Hp) (E:XK),fd.code=cdv->Room k (Ar.deeper (envOfC x sc s0.heap.objs.size f cdv))->
  PG (cxOf (L2.CX P w) P w K mg base N x sc f cdv Ar outer s0 H E) tg (tG κ [] vs g)/\PSs (cxOf (L2.CX P w) P w K mg base N x sc f cdv Ar outer s0 H E) rest (tS κ [] (fun cls d _ H=>E cls d H) s)
theorem xVw.mono {P:Program}{w:World}{K:PySem.W.Frag}{mg:Str->Option Value}{base:Heap}{κ:Ctx}{x:Str}{j k:Nat}{N:List Str}{sc:Scope}{f:Addr}{fd:FuncData}{tg:Expr}{rest:List Stmt}{vs:List Nat}{g:D->List SD->Option (List SD)}{s:S}
  (h:xVw P w K mg base κ x j N sc f fd tg rest vs g s) (l:j<=k):xVw P w K mg base κ x k N sc f fd tg rest vs g s:=fun cdv Ar outer s0 H E hc hr=>h cdv Ar outer s0 H E hc (hr.mono l)
def tgtOf:List Stmt->Expr
 | .Assign [t] _ _::_=>t
 | _=> .Constant .none 0 ⟨0,0,0,0⟩
section
variable {X:Cx}{κ:Ctx}{W:WX}{x xt a at_ nf nw n xm xk f:Str}{g gt CM CK:Addr}{sg sgt scope:Scope}{pg pgt params:Arguments}{fd fdt:FuncData}{body:Expr}{m:M SD}{ml:M (List D)}{hit:String->Bool}{c P:Addr}{k kt j:Nat}{es:List Expr}{tgT:Expr}{rest:List Stmt}{Nt pst:List Str}{sT:S}{gT:D->List SD->Option (List SD)}{vsT:List Nat}{p pt pos lpos p1 p2 p3 p4 p5 p6 p7 p8 p9 q1 q2 q3 q4 q5 q6 q7 q8 q9 r1 r2 r3 r4 r5 o1 o2 o3 o4 u1 u2 u3 u4:Pos}{j1 j2 j3:Nat}
end
end Fm
set_option maxHeartbeats 990000
namespace Fm
open PySem.W PyProof.Rows PySem
section
variable {prog:Program}{w:World}{Ar:Around}{Er:Value->Shared->Prop}{s:Shared}{K:Frag}{x C L f:Addr}{h₀:Heap}{m:Str->Option Value}{ox:Obj}{od:Option Obj}{b tb:Value}
theorem yHr {M:Model}{name:Str}{id:String}{args:List Value}{Q:Option Value->Shared->Prop}(X:K.In s.heap)(I:InstAt s.heap x ox C od)(hs:findIn K (.ref C) name=some (some (.builtin id)))(hb:bindSpecial (.builtin id) (.ref x)=pure (.builtin id,[.ref x]))
  (h:wpAny M Ar (call (.builtin id) (.ref x::args)) (fun v=>Q (some v)) Er s):wpAny M Ar (callSpecialIfBound? (.ref x) name args) Q Er s:=by
 (simp only [callSpecialIfBound?,bindSpecialIfBound?])
 refine wpAny_holding (wpAny_bind (wpAny_bind (wpAny_bind (I.type.here ((looks_findIn X hs).here (wpAny_bind (wpAny_askSetting (wpAny_ite ?_))))))))
 have fin:wpAny M Ar (call (.builtin id) ([.ref x]++args) >>= fun v=>pure (some v)) Q Er s:=wpAny_bind (wpAny_mono h (fun v s' z=>wpAny_pure z) fun _ _ z=>z)
 split
 ·exact (wpAny_bind (wpAny_of_eq hb (wpAny_pure (by exact fin))))
 ·exact (wpAny_tryCatch (wpAny_bind (wpAny_of_eq hb (wpAny_pure (by exact fin)))))
theorem ne_K {Q:Value->Shared->Prop}(hu:Ar.units+1<cLine)(F0:Fr h₀ L s.heap m)(X₀:K.In h₀)(I:InstAt s.heap x ox C od)(hb:Looks (model prog w) s.heap (typeOf b) tb)(hn:notFirst K C tb=true)
  (nb:findIn K (.ref C) "__ne__"=some (some (.builtin "object.__ne__"))) (hs:findIn K (.ref C) "__eq__"=some (some (.ref f))) (hf:isFn K (.ref f)=true) (hm:mroIn K C (.type "object")=some true)
  (h:wpAny (model prog w) Ar.in1 (call (.ref f) [.ref x,b]) (fun v s'=> ∃ r,v= .bool r/\Q (.bool (!r)) s') Er s):wpAny (model prog w) Ar (richCompare .NotEq (.ref x) b) Q Er s:=by
 have X:=X₀.keeps F0.keep
 have is:Looks (model prog w) s.heap (isInstance (.ref x) (.type "object")) true:=I.type.andThen (looks_mroIn X hm)
 have one:wpAny (model prog w) Ar (tryCompare (.ref x) (cmpInfo .NotEq).2.1 b) (fun r s'=> ∃ v,r=some v/\Q v s') Er s:=by
  show wpAny (model prog w) Ar (tryCompare (.ref x) "__ne__" b) (fun r s'=> ∃ v,r=some v/\Q v s') Er s
  unfold tryCompare
  refine wpAny_bind (yHr X I nb (F.cmp_object.ne.bind _) (wpAny_call (codeAny_call_builtin F.cmp_object.ne.plain F.cmpEntry_ne
   (@check_slot (model prog w) _ _ s "object.__ne__" "object" "__ne__" (.ref x) [b] [] _ F.cmpKind_ne F.cmpSplit_ne is (F.cmpArgs_ne _ _) ?_))))
  (unfold Builtin.«object.__ne__»)
  repeat (first
   | with_reducible refine (wpAny_cRoomFor hu ?_)
   | (refine wpAny_bind (m:=callSpecialIfBound? (.ref x) (Str.ofString "__eq__") [b]) (ifBound_K X I hs hf (wpAny_mono h (fun r s' z=>by
     obtain ⟨v,rfl,q⟩:=z
     repeat (first|exact ⟨_,rfl,q⟩|exact wpAny_pure ⟨_,rfl,q⟩|(refine wpAny_bind (m:=truthy (.bool _)) (wpAny_truthy_bool ?_))|wp_step)) fun _ _ e=>e)))
   | wp_step)
 unfold richCompare
 simp only [oneThing_ref]
 refine wpAny_holding (wpAny_bind (wpAny_cRoomFor (Nat.lt_of_succ_lt hu) (wpAny_bind (I.type.here (wpAny_bind (hb.here ?_))))))
 split
 ·rename_i q
  have e:(subIn K tb (.ref C)=some false):=by
   rcases (yM1.mp hn) with e|e
   ·exact absurd q (by rw [beq_iff_eq.mp e];simp)
   ·exact beq_iff_eq.mp e
  refine (wpAny_bind ((looks_subIn X e).here ?_))
  (simp only [yM7,if_false])
  refine wpAny_bind (wpAny_mono one (fun r s' z=> ?_) fun _ _ z=>z)
  obtain ⟨v,rfl,hq⟩:=z
  exact wpAny_pure hq
 ·refine (wpAny_bind (wpAny_pure ?_))
  (simp only [yM7,if_false])
  refine wpAny_bind (wpAny_mono one (fun r s' z=> ?_) fun _ _ z=>z)
  obtain ⟨v,rfl,hq⟩:=z
  exact wpAny_pure hq
end
end Fm
namespace Fm
open L2 PySem PySem.Spec PyProof.Rows
structure InsF (K:PySem.W.Frag)(C:Addr):Prop where
 ha:(PySem.W.findIn K (.ref C) "__class__"=some (some (.builtin "object.__class__")))
 hn:(PySem.W.specialIn K (.builtin "object.__class__") "__get__"=some (some (.builtin "getset_descriptor.__get__")))
 htk:(PySem.W.takesIn K (.builtin "object.__class__")=some true)
 hm:(PySem.W.mroIn K C (.type "object")=some true)
 own:PySem.W.kitOne K (.ref C) (.ref C)=some true
 no: ∀ t∈["NoneType","bool","int","str","tuple","list","dict"],PySem.W.kitOne K (.type t) (.ref C)=some false
theorem yFz {K:PySem.W.Frag}{C:Addr}(h:insB K C=true):InsF K C:=by
 obtain ⟨h1,h⟩:=and2 h
 obtain ⟨h1,h2⟩:=and2 h1
 obtain ⟨h3,h⟩:=and2 h
 obtain ⟨h3,h4⟩:=and2 h3
 obtain ⟨h5,h6⟩:=and2 h
 exact ⟨of_decide_eq_true h1,of_decide_eq_true h2,of_decide_eq_true h3,of_decide_eq_true h4,of_decide_eq_true h5,fun t ht=>of_decide_eq_true (yLu.mp h6 t ht)⟩
def isCD (c:String)(d:D):Option SD:=match d with
 | .ins _ c1 _=>if c1=c then some (.va (.bl true)) else none
 | d=>if d.kind.isSome then some (.va (.bl false)) else none
section
variable {X:Cx}{κ:Ctx}{W:WX}{c:String}
theorem yFj {d:D}{a:String}(h:d.kind=some a):a∈["NoneType","bool","int","str","tuple","list","dict"]:=by
 cases d <;> cases h <;> simp
theorem yJo (hK:X.K=κ.K)(cl:Cls X.K (κ.cl c))(I:InsF X.K (κ.cl c))(hg:Gl X "isinstance")(hm:X.mg "isinstance"=none)(hv:bootBuiltins "isinstance"=some (.builtin "isinstance"))(hx:Gl X x)(mx:X.mg x=some (.ref (κ.cl c)))(he:PE X e (tE κ W m))
  (hd:(x==("__debug__":Str))=false:=by decide) (hs:starEach [e,.Name x pc] X.env=(false,eval e X.env)::starEach [.Name x pc] X.env:=by rfl):
  PE X (.Call (.Name "isinstance" p) [e,.Name x pc] [] pos) (tE κ W (mUn (isCD c) m)):=by
 refine PE.imp (pe_callB (call_isi (X:=X)) hg hm hv (pa_cons he (pa_cons (pe_glob hx mx (v:= .ref (κ.cl c)) rfl hd) pa_nil) hs) (by decide) (by decide) hs rfl) fun σ H Q ⟨B,ρ,G,o,q⟩=> ?_
 refine xB1 o (Pst.bind q) fun d ρ1 H1 G1 o1 s1 q1 v1 r1=> ?_
 obtain ⟨z,hz,q2⟩:=Pst.opt q1
 have fin: ∀ y:Bool,z= .va (.bl y)->Q (.bl y) H1:=fun y e=>by
  subst e
  exact q2 H1 G1 o1 (Same.refl G1) _ rfl
 by_cases hk: ∃ b l,d= .ins b c l
 ·obtain ⟨b,l,rfl⟩:=hk
  unfold isCD at hz
  dsimp only at hz
  rw [if_pos rfl] at hz
  obtain ⟨a,dx,vs,rfl,⟨h1,_⟩,_⟩:=r1
  exact ⟨_,_,_,_,true,rfl,.own _,.base (.ins (o1.fr.gh _ _ h1) cl I.ha I.hn I.htk I.hm),I.own,fin true (yLh.inj hz).symm⟩
 ·have hkd: ∃ a,d.kind=some a/\z= .va (.bl false):=by
   unfold isCD at hz
   split at hz
   ·rename_i b c1 l
    split at hz
    ·rename_i e
     subst e
     exact absurd ⟨b,l,rfl⟩ hk
    ·cases hz
   ·split at hz
    ·rename_i h
     obtain ⟨a,e⟩:=yMe.mp h
     exact ⟨a,e,(yLh.inj hz).symm⟩
    ·cases hz
  obtain ⟨a,ek,ez⟩:=hkd
  exact ⟨_,_,_,_,false,rfl,.own _,hK ▸ xNa o1.fr.gh ek r1,I.no a (yFj ek),fin false ez⟩
end
theorem xS9 {p:SD->Prop}(h:p (.va (.bl true))):Ow (isCD c (.ins b c l)) p:=⟨_,if_pos rfl,h⟩
def eqID (c:String)(pol:Bool->Bool)(fs:List SD->FR)(d e:D):Option SD:=match d,e with
 | .ins b c1 l,.ins b2 c2 l2=>if c1=c/\c2=c then match fs [.va (.ins b c1 l),.va (.ins b2 c2 l2)] with
  | .ok (.va (.bl r)) _=>some (.va (.bl (pol r)))
  | _=>none
  else none
 | _,_=>none
def rEqI (C:Addr)(sp:Sp)(pol:Bool->Bool):R2:=fun x y H Q=> ∃ a b dx dy fs gs,x= .ref a/\y= .ref b/\H a=some (.ins C dx fs)/\H b=some (.ins C dy gs)/\sp [x,y] H (fun v H'=> ∃ r,v= .bl r/\Q (.bl (pol r)) H') fun _ _ _=>False
section
variable {X:Cx}{κ:Ctx}{c:String}{k:Nat}{ps:List Str}{fs:List SD->FR}{f:Addr}{fd:FuncData}
theorem xVb (F:FnOk X.prog X.w X.K X.mg X.base (L2.CX X.prog X.w) k f fd ps sp)(hb:Binds X.K fd ps [])(hx:Passes (L2.CX X.prog X.w) X fun _ _ _=>False)(rm:Room k A)(fr:A.frames=X.A.frames)
  (I:L2.Inv X pins σ H s) (h:sp [.ref a,.ref b] H Q fun _ _ _=>False):wpAny (model X.prog X.w) A (call (.ref f) [.ref a,.ref b]) (EP X pins σ Q) X.xe s:=by
 have e:=I.env0
 have e0:Env0 X.prog X.w X.K X.mg X.base A X.stack s H:=⟨by rw [fr];exact e.frames,e.mod,e.bs,e.bsz,e.funs,e.frf,e.hok,e.bare⟩
 have hl:=F.len _ _ _ _ h
 have vals:Vals [V.ref a,V.ref b] [Value.ref a,Value.ref b]:= .cons rfl (.cons rfl .nil)
 refine wpAny_call (codeAny_mono (F.run A X.stack s H ⟨[.ref a,.ref b],[]⟩ [.ref a,.ref b] [.ref a,.ref b] _ _ rm e0 (by
  have z:=hb s [.ref a,.ref b] I.kIn (by simpa using hl)
  simpa using z) vals h) fun r s' back=> ?_)
 match r,back with
 | .error e,z=>exact hx pins σ H s e s' I z
 | .ok .next,z=>exact z.elim
 | .ok .brk,z=>exact z.elim
 | .ok .cont,z=>exact z.elim
 | .ok (.ret u),z=>exact I.after z
theorem yHz (F:FnOk X.prog X.w X.K X.mg X.base (L2.CX X.prog X.w) k f fd ps sp)(M:Meth X.K (κ.cl c) "__eq__" f)(hb:Binds X.K fd ps [])(hx:Passes (L2.CX X.prog X.w) X fun _ _ _=>False)(hr:Room k X.A):OpR X (compareOp .Eq) (rEqI (κ.cl c) sp id):=by
 intro pins s σ H x y v u Q I rx ry ⟨a,b,dx,dy,g1,g2,ex,ey,ea,eb,h⟩
 subst ex ey
 cases rx
 cases ry
 obtain ⟨mA,J,_⟩:=ins_get I.hok ea
 obtain ⟨mB,J',_⟩:=ins_get I.hok eb
 obtain ⟨od,J,_⟩:=J.look
 obtain ⟨od',J',_⟩:=(J'.look)
 obtain ⟨m,hF⟩:=I.fr
 show wpAny (model X.prog X.w) X.A (richCompare .Eq (.ref a) (.ref b)) (EP X pins σ Q) X.xe s
 refine PySem.W.cmp_K (op:= .Eq) (tb:= .ref (κ.cl c)) hr.units0 hF I.ok.mod.kin J J'.type (by simp [PySem.W.notFirst]) M.at_ M.fn ?_
 refine wpAny_mono (xVb F hb hx hr rfl I h) (fun z s' ⟨v',H',I',rv,r,ev,q⟩=> ?_) fun _ _ z=>z
 subst ev
 cases (show z=Value.bool r from rv)
 exact ⟨.bl r,H',I',rfl,q⟩
theorem yJ6 (F:FnOk X.prog X.w X.K X.mg X.base (L2.CX X.prog X.w) k f fd ps sp)(M:Meth X.K (κ.cl c) "__eq__" f)(nb:PySem.W.findIn X.K (.ref (κ.cl c)) "__ne__"=some (some (.builtin "object.__ne__")))(J0:InsF X.K (κ.cl c))(hb:Binds X.K fd ps [])(hx:Passes (L2.CX X.prog X.w) X fun _ _ _=>False)(hr:Room (k+1) X.A):
  OpR X (compareOp .NotEq) (rEqI (κ.cl c) sp (!·)):=by
 intro pins s σ H x y v u Q I rx ry ⟨a,b,dx,dy,g1,g2,ex,ey,ea,eb,h⟩
 subst ex ey
 cases rx
 cases ry
 obtain ⟨mA,J,_⟩:=ins_get I.hok ea
 obtain ⟨mB,J',_⟩:=ins_get I.hok eb
 obtain ⟨od,J,_⟩:=J.look
 obtain ⟨od',J',_⟩:=(J'.look)
 obtain ⟨m,hF⟩:=I.fr
 show wpAny (model X.prog X.w) X.A (richCompare .NotEq (.ref a) (.ref b)) (EP X pins σ Q) X.xe s
 refine ne_K (tb:= .ref (κ.cl c)) (by have:=hr.un;omega) hF I.ok.mod.kin J J'.type (by simp [PySem.W.notFirst]) nb M.at_ M.fn J0.hm ?_
 refine wpAny_mono (xVb F hb hx hr.in1 rfl I h) (fun z s' ⟨v',H',I',rv,r,ev,q⟩=> ?_) fun _ _ z=>z
 subst ev
 cases (show z=Value.bool r from rv)
 exact ⟨r,rfl,.bl (!r),H',I',rfl,q⟩
theorem yCv (hn:2=ps.length)(pol:Bool->Bool):OpD κ (rEqI (κ.cl c) (spF κ ps.length fs) pol) (eqID c pol fs):=by
 intro B ρ σ H G d e x y z Q o r1 r2 hz q
 unfold eqID at hz
 split at hz
 ·rename_i b c1 l b2 c2 l2
  split at hz
  ·rename_i hc
   obtain ⟨rfl,rfl⟩:=hc
   split at hz
   ·rename_i r o2 ef
    cases hz
    obtain ⟨a,dx,vs,rfl,⟨h1,_⟩,_⟩:=id r1
    obtain ⟨a2,dy,ws,rfl,⟨h2,_⟩,_⟩:=id r2
    refine ⟨a,a2,dx,dy,vs,ws,rfl,rfl,o.fr.gh _ _ h1,o.fr.gh _ _ h2,?_⟩
    rename_i d0 e0
    refine xNq (W:=fun _ _ _ _=>False) (ds:=[_,_]) o ⟨_,_,rfl,r1,_,_,rfl,r2,rfl⟩ hn ?_
    show Pst κ _ B σ G (match fs [_,_] with
     | .ok r _=> .ok r ρ
     | .ex x _=> .ex x ρ
     | .no=> .no) _
    simp only [ef]
    intro H' G' o' s' v rv
    cases (show v=V.bl r from rv)
    exact ⟨r,rfl,q _ H' G' o' s' rfl⟩
   ·cases hz
  ·cases hz
 ·cases hz
end
theorem xVh {pol:Bool->Bool}{fs:List SD->FR}{p:SD->Prop}(h:Fw (fs [.va (.ins b c l),.va (.ins b2 c l2)]) (fun r _=> ∃ y,r= .va (.bl y)/\p (.va (.bl (pol y)))) NoX):Ow (eqID c pol fs (.ins b c l) (.ins b2 c l2)) p:=by
 obtain ⟨r,o,e,y,rfl,q⟩:=h.ok
 refine ⟨_,?_,q⟩
 unfold eqID
 dsimp only
 rw [if_pos ⟨rfl,rfl⟩,e]
def sameF:D->D->Bool
 | .int a,.int b=>a==b
 | .bl a,.bl b=>a==b
 | .str a,.str b=>a==b
 | _,_=>false
def eqKB (l m:List (Key×D)):Bool:=decide (l.length=m.length)&&l.all fun p=>match getK m p.1 with
 | some d=>sameF p.2 d
 | none=>false
def eq3D (d e:D):Option SD:=match d,e with
 | .dk _ l,.dk _ m=>if eqKB l m then some (.va (.bl true)) else none
 | d,e=>eqD d e
theorem xSq: ∀ {l:List (Key×D)} {vs:List (Key×V)} {p:Key×V},RepK κ T G l vs->p∈vs-> ∃ d,(p.1,d)∈l/\Rep κ T G d p.2
 | [],vs,p,h,hp=>by
  rw [show vs=[] from h] at hp
  cases hp
 | (k,d)::l,vs,p,h,hp=>by
  obtain ⟨v,ws,rfl,h1,h2⟩:=h
  rcases (yLp.mp hp) with rfl|hp
  ·exact ⟨d,yK3 ..,h1⟩
  ·obtain ⟨d2,m,r⟩:=xSq h2 hp
   exact ⟨d2,yK7 _ m,r⟩
section
variable {X:Cx}{κ:Ctx}
theorem xU7 (I:Inv X pins σ H s)(h:Rd H a (.dK kvs)):(a==sysModules)=false/\ ∃ va,KV kvs va/\s.heap.DictOf (mixKind X.prog X.w) a va:=by
 rcases h with h|⟨o,h⟩
 ·obtain ⟨_,y,va,r,d⟩:=(show ObjOk X.prog X.w H s.heap a (.dK kvs) from I.hok a _ h)
  exact ⟨y,va,r,d⟩
 ·obtain ⟨hs,_,_,_,_,vs,_,_,kv,hm⟩:=I.frzK h
  exact ⟨hs,vs,kv,hm.dictOf⟩
def rEqDR:R2:=fun x y H Q=> ∃ a b ks ls,x= .ref a/\y= .ref b/\Rd H a (.dK ks)/\Rd H b (.dK ls)/\ks.length=ls.length/\(∀ p∈ks,valV ls p.1=some p.2/\flatB p.2=true)/\Q (.bl true) H
end
set_option maxHeartbeats 1990000
def xU3 (fn:List SD->FR)(d e:D):Option Bool:=match fn [.va d,.va e] with
 | .ok (.va (.bl r)) _=>some r
 | _=>none
def allS (fn:List SD->FR)(l m:List (Key×D)):List (Key×D)->Option (List Bool)
 | []=>some []
 | p::r=>match getK l p.1,getK m p.1 with
  | some d,some e=>if (xFr d&&xFr e)=true then (xU3 fn d e).bind fun b=>(allS fn l m r).map (b:: ·) else none
  | _,_=>none
def yAs (fn:List SD->FR)(i j:Nat):M SD:=fun ρ=>match ρ[i]?,ρ[j]? with
 | some (.va (.dk _ l)),some (.va (.dk _ m))=>if m.length<=1000000 then match allS fn l m m with
  | some bs=> .ok (.va (.bl (bs.all id))) ρ
  | none=> .no
  else .no
 | _,_=> .no
theorem xTn {fn:List SD->FR}: ∀ {r:List (Key×D)} {bs:List Bool},allS fn l m r=some bs->bs.length=r.length
 | [],bs,h=>by cases h;rfl
 | p::r,bs,h=>by
  unfold allS at h
  split at h
  ·split at h
   ·obtain ⟨b,_,h⟩:=yLj.mp h
    obtain ⟨cs,h2,rfl⟩:=yK4.mp h
    rw [yK9,yK9,xTn h2]
   ·cases h
  ·cases h
theorem xY3 {fn:List SD->FR}: ∀ {r:List (Key×D)} {bs:List Bool} {i:Nat} {p:Key×D},allS fn l m r=some bs->r[i]? =some p-> ∃ d e b,getK l p.1=some d/\getK m p.1=some e/\xFr d=true/\xFr e=true/\xU3 fn d e=some b/\bs[i]? =some b
 | [],bs,i,p,h,hp=>by simp at hp
 | q::r,bs,i,p,h,hp=>by
  unfold allS at h
  split at h
  ·rename_i d e h1 h2
   split at h
   ·rename_i hf
    obtain ⟨f1,f2⟩:=and2 hf
    obtain ⟨b,hb,h⟩:=yLj.mp h
    obtain ⟨cs,h3,rfl⟩:=yK4.mp h
    cases i with
    | zero=>
     cases hp
     exact ⟨d,e,b,h1,h2,f1,f2,hb,rfl⟩
    | succ i=>
     have hp:r[i]? =some p:=hp
     exact xY3 (r:=r) (bs:=cs) (i:=i) h3 hp
   ·cases h
  ·cases h
theorem xR3 (h:xFr d=true)(r:Rep κ T G d v):Rep κ T' G' d v:=by
 cases d <;> first
  | exact r
  | exact yLr (show false=true from h)
theorem xXg: ∀ {l:List (Key×D)} {vs:List (Key×V)} {i:Nat} {k:Key} {v:V},RepK κ T G l vs->vs[i]? =some (k,v)-> ∃ d,l[i]? =some (k,d)
 | [],vs,i,k,v,h,e=>by
  rw [show vs=[] from h] at e
  simp at e
 | (k0,d)::l,vs,i,k,v,h,e=>by
  obtain ⟨v0,ws,rfl,h1,h2⟩:=h
  cases i with
  | zero=>
   cases e
   exact ⟨d,rfl⟩
  | succ i=>exact xXg (l:=l) h2 e
abbrev yHt (K:PySem.W.Frag)(sp:Sp)(i j p:Nat):TE:=tCallS sp (fun _ _ _ _=>False) (tCons (tOp (rIx3 K) (tVar i) (tVar p)) (tCons (tOp (rIx3 K) (tVar j) (tVar p)) tNil))
section
variable {X:Cx}{κ:Ctx}{W:WX}{f_ x1 x2 xp:Str}{k k' i j p:Nat}{fn:List SD->FR}{fa:Addr}{fd:FuncData}{ps:List Str}{q1 q2 q3 q4 q5 q6 q7 q8 q9 pos:Pos}
theorem elt_s (C:Callee X.prog X.w X.K X.mg X.base κ f_ k ps fn fa fd)(hb:Binds X.K fd ps [])(hl:ps.length=2)(hr:Room k' X.A)(hk:k<=k')(hu:X.A.units+65<cLine)(hg:Gl X f_)(hx:xIa X fun _ _ _ _=>False)(h1:PE X (.Name x1 q1) (tVar i))(h2:PE X (.Name x2 q2) (tVar j))(h3:PE X (.Name xp q3) (tVar p))(h4:PE X (.Name xp q4) (tVar p))
  (s1:PlainIx (.Name xp q3)) (s2:PlainIx (.Name xp q4)) (hdb:(f_==("__debug__":Str))=false:=by decide):PE X (.Call (.Name f_ q5) [.Subscript (.Name x1 q1) (.Name xp q3) q6,.Subscript (.Name x2 q2) (.Name xp q4) q7] [] q8) (yHt X.K (spF κ 2 fn) i j p):=
 pe_callS (E:=fun _ _ _ _=>False) (hl ▸ C.ok) (hr.mono hk) hg C.gl C.kp hb hx (pa_cons (pe_ix (ix_3 (by omega)) h1 h3 s1) (pa_cons (pe_ix (ix_3 (by omega)) h2 h4 s2) pa_nil)) hdb
theorem xXk (hK:X.K=κ.K)(hc:X.calm=true)(hN:X.N.Nodup)(hgl:Gl X "all")(hm:X.mg "all"=none)(hv:bootBuiltins "all"=some (.builtin "all"))(ok:BlkOk X.N X.env.scope scope [(xp,p)])
  (hy:PE X (.Name x2 q1) (tVar j)) (hg: ∀ (s:Shared) (H:Hp) (C:Addr) (cl:List (Str×Addr)) (fp:List Addr),PG (X.blk s H scope (compEnvC scope cl C X.env) fp) (.Name xp q2) (gName p))
  (he: ∀ (s:Shared) (H:Hp) (C:Addr) (cl:List (Str×Addr)) (fp:List Addr),PE (X.blk s H scope (compEnvC scope cl C X.env) fp) elt (yHt X.K (spF κ 2 fn) i j p)) (hip:i≠p) (hjp:j≠p)
  (hs: ∀ x,foldedSetIterable (.Name x2 q1) X.env x=pure x:=by intro _;rfl) (h1:starEach [.ListComp elt [⟨.Name xp q2,.Name x2 q1,[],0⟩] scope q3] X.env=(false,eval (.ListComp elt [⟨.Name xp q2,.Name x2 q1,[],0⟩] scope q3) X.env)::starEach [] X.env:=by rfl):
  PE X (.Call (.Name "all" pa) [.ListComp elt [⟨.Name xp q2,.Name x2 q1,[],0⟩] scope q3] [] pos) (tE κ W (yAs fn i j)):=by
 have inner:=pe_callB (p:=pa) (pos:=pos) (cr_all (X:=X) hc) hgl hm hv (pa_cons (pe_lc (pos:=q3) hc hN (pi_keys (tg:= .Name xp q2) hy) ok hg (fun _ _ _ _ _=>pts_nil) he hs) pa_nil h1) (by decide) (by decide) h1 rfl
 refine ⟨fun pins s σ H Q I ⟨B,ρ,G,o,q⟩=> ?_⟩
 have q0:Pst κ W B σ G (match ρ[i]?,ρ[j]? with
  | some (.va (.dk _ l)),some (.va (.dk _ m))=>if m.length<=1000000 then match allS fn l m m with
   | some bs=> .ok (.va (.bl (bs.all id))) ρ
   | none=> .no
   else .no
  | _,_=> .no:Rs SD) fun r ρ' H' G'=> ∀ (v:V),RepR κ B ρ' σ H' G' r v->Q v H':=q
 split at q0
 case h_2=>exact q0.elim
 rename_i b1 l b2 m ei ej
 split at q0
 case isFalse=>exact q0.elim
 rename_i hlen
 split at q0
 case h_2=>exact q0.elim
 rename_i bs hbs
 obtain ⟨v1,s1,r1⟩:=o.val i _ ei
 obtain ⟨v2,s2,r2⟩:=o.val j _ ej
 obtain ⟨a1,vs,rfl,⟨g1,_⟩,rl⟩:=r1
 obtain ⟨a2,ws,rfl,⟨g2,_⟩,rm⟩:=r2
 have H1:Rd H a1 (.dK vs):=Rd.mono o.fr.gh g1.rd
 have one:a1=a2->vs=ws:=fun z=>by
  subst z
  rcases g1 with g1|⟨_,o1,g1⟩ <;> rcases g2 with g2|⟨_,o2,g2⟩ <;> (rw [g1] at g2;cases g2;try rfl)
 obtain ⟨od,IL,h2t,h2c,ulk⟩: ∃ od,Inv X pins σ (upd H a2 (.frz od (.dK ws))) s/\(∀ ps,H a2≠some (.tbl ps))/\(∀ (c:Addr) (q:Str),H a2≠some (LamX.CodeO c q))/\
   ∀ {H':Hp} {s':Shared},Inv X pins σ H' s'->H' a2=some (.frz od (.dK ws))-> ∃ H'',Inv X pins σ H'' s'/\H'' a2=H a2/\ ∀ b,b≠a2->H'' b=H' b:=by
  rcases g2 with g2|⟨_,o2,g2⟩
  ·have H2:=o.fr.gh _ _ g2
   obtain ⟨od,IL⟩:=I.lock H2 True.intro
   have nf:=I.nofrz H2 True.intro
   refine ⟨od,IL,(fun ps z=>by rw [H2] at z;cases z),(fun c q z=>by rw [H2] at z;unfold LamX.CodeO at z;cases z),fun {H' s'} I' hl=>⟨upd H' a2 (.dK ws),I'.unlock hl nf,by rw [upd_same,H2],fun b hb=>upd_ne hb⟩⟩
  ·have H2:=o.fr.gh _ _ g2
   have e:upd H a2 (.frz o2 (.dK ws))=H:=funext fun b=>by
    by_cases z:b=a2
    ·rw [z,upd_same,H2]
    ·rw [upd_ne z]
   exact ⟨o2,(by rw [e];exact I),(fun ps z=>by rw [H2] at z;cases z),(fun c q z=>by rw [H2] at z;unfold LamX.CodeO at z;cases z),fun {H' s'} I' hl=>⟨H',I',by rw [hl,H2],fun b _=>rfl⟩⟩
 have wl:ws.length=m.length:=rm.length
 have bl:bs.length=ws.length:=by rw [xTn hbs,wl]
 have eL:LamX.ExtN H (upd H a2 (.frz od (.dK ws)))->True:=fun _=>trivial
 have ti:(tVar i:TE)=tVar i:=rfl
 refine wpAny_mono (inner.run pins s σ (upd H a2 (.frz od (.dK ws))) (fun v H'=>v= .bl (bs.all id)/\H' a2=some (.frz od (.dK ws))/\LamX.ExtN (upd H a2 (.frz od (.dK ws))) H'/\LamX.Tabs κ.tabs H') IL ?_) (fun v s' ⟨v',H',I',rv,ev,hl,ex,tb⟩=> ?_) fun _ _ z=>z
 ·have tabL:LamX.Tabs κ.tabs (upd H a2 (.frz od (.dK ws))):=fun t ht=>by
   obtain ⟨pp,t1,t2,t3⟩:=o.fr.tabs t ht
   have np:t.1≠a2:=fun z=>by
    rw [z] at t1
    exact h2t _ t1
   refine ⟨pp,by rw [upd_ne np];exact t1,t2,fun pos cv hc=> ?_⟩
   obtain ⟨cc,c1,c2⟩:=t3 pos cv hc
   have nc:cc≠a2:=fun z=>by
    rw [z] at c2
    exact h2c _ _ c2
   exact ⟨cc,c1,by rw [upd_ne nc];exact c2⟩
  refine ⟨.ref a2,s2,a2,od,rfl,.inl ⟨ws,upd_same,fun Dp hD=> ?_⟩⟩
  have nD:Dp≠a2:=fun z=>by
   rw [z,upd_same] at hD
   cases hD
  refine ⟨fun n c Hc=>c=ws.length-n/\n<=ws.length/\Hc Dp=some (.lst ((bs.take n).map V.bl))/\LamX.ExtN (upd H a2 (.frz od (.dK ws))) Hc/\LamX.Tabs κ.tabs Hc,⟨ws.length,rfl,yLy _,upd_same,fun b u e n=> ?_,?_⟩,?_⟩
  ·rw [upd_ne (ne_of_none e hD)]
   exact e
  ·intro t ht
   obtain ⟨pp,t1,t2,t3⟩:=tabL t ht
   refine ⟨pp,by rw [upd_ne (ne_of_none t1 hD)];exact t1,t2,fun pos cv hc=> ?_⟩
   obtain ⟨cc,c1,c2⟩:=t3 pos cv hc
   exact ⟨cc,c1,by rw [upd_ne (ne_of_none c2 hD)];exact c2⟩
  ·rintro n c Hc ⟨rfl,hn,hDc,ex,tb⟩
   have lock:Hc a2=some (.frz od (.dK ws)):=ex _ _ upd_same fun ps z=>by cases z
   rcases Nat.lt_or_ge n ws.length with hlt|hge
   ·refine .inr ⟨⟨lock,hlt⟩,fun H'=>H' Dp=some (.lst ((bs.take (n+1)).map V.bl))/\LamX.ExtN (upd H a2 (.frz od (.dK ws))) H'/\LamX.Tabs κ.tabs H',fun H' z=>⟨ws.length-(n+1),by omega,rfl,hlt,z⟩,?_⟩
    rintro x H' ⟨rfl,k0,v0,ek,rfl⟩
    refine ⟨(xMz (vs:=[p]) (yLl.mpr rfl)).trans (xJ4 σ [p]),?_⟩
    unfold tYes
    dsimp only
    rw [if_pos rfl]
    obtain ⟨d0,ed⟩:=xXg rm ek
    obtain ⟨d,e,b,k1,k2,f1,f2,sb,eb⟩:=xY3 hbs ed
    obtain ⟨w1,y1,r3⟩:=(rl.val k0).1 d k1
    obtain ⟨w2,y2,r4⟩:=(rm.val k0).1 e k2
    have sp:((wipe σ [p]).set p (some (kV k0)))[p]? =some (some (kV k0)):=by
     refine yK8 ?_
     rw [wipe_length]
     have z:=ok.ix _ (yLl.mpr rfl)
     have z2:=(yK5.mp z).1
     have z3:=I.len
     omega
    have so: ∀ {a:Nat} {v:V},a≠p->σ[a]? =some (some v)->((wipe σ [p]).set p (some (kV k0)))[a]? =some (some v):=fun {a v} na e=>by
     rw [yLa (Ne.symm na),wipe_out (by simpa using na)]
     exact e
    have rd1:Rd H' a1 (.dK vs):=by
     by_cases z:a1=a2
     ·rw [one z,z]
      exact .inr ⟨od,lock⟩
     ·rcases H1 with H1|⟨o1,H1⟩
      ·exact .inl (ex _ _ (by rw [upd_ne z];exact H1) fun ps z=>by cases z)
      ·exact .inr ⟨o1,ex _ _ (by rw [upd_ne z];exact H1) fun ps z=>by cases z⟩
    refine ⟨.ref a1,so hip s1,kV k0,sp,.inr ⟨a1,w1,rfl,.inl ⟨vs,k0,rd1,rfl,y1.symm⟩,?_⟩⟩
    refine ⟨.ref a2,so hjp s2,kV k0,sp,.inr ⟨a2,w2,rfl,.inl ⟨ws,k0,.inr ⟨od,lock⟩,rfl,y2.symm⟩,?_⟩⟩
    show spF κ 2 fn [w1,w2] H' _ _
    refine ⟨fun _=>False,fun _=>none,[.va d,.va e],rfl,⟨⟨w1,[w2],rfl,xR3 f1 r3,w2,[],rfl,xR3 f2 r4,rfl⟩,yLw,(fun _ _ z=>nomatch z),(fun _ _ z=>nomatch z),tb,fun _ z=>z.elim⟩,?_⟩
    unfold xU3 at sb
    split at sb
    ·rename_i r outs ef
     cases sb
     rw [ef]
     intro v Hn Gn af rv
     cases (show v=V.bl _ from rv)
     have keep:LamX.ExtN H' Hn:=fun a u e n=>af.keep a u e (by simp [ownP]) n
     refine ⟨(bs.take n).map V.bl,keep _ _ hDc fun ps z=>(by cases z),?_,?_,?_,?_⟩
     ·(rw [yK2,yLv])
      have:sizeLine=16777216:=sizeLine_eq
      omega
     ·rw [upd_same,yL4,eb,yLs]
      rfl
     ·intro a u e n2
      have na:a≠Dp:=ne_of_none e hD
      rw [upd_ne na]
      exact keep _ _ (ex _ _ e n2) n2
     ·intro t ht
      obtain ⟨pp,t1,t2,t3⟩:=af.tabs t ht
      have hDn:Hn Dp=some (.lst ((bs.take n).map V.bl)):=keep _ _ hDc fun ps z=>by cases z
      have np:t.1≠Dp:=fun z=>by
       rw [z,hDn] at t1
       cases t1
      refine ⟨pp,by rw [upd_ne np];exact t1,t2,fun pos cv hc=> ?_⟩
      obtain ⟨cc,c1,c2⟩:=t3 pos cv hc
      have nc:cc≠Dp:=fun z=>by
       rw [z,hDn] at c2
       unfold LamX.CodeO at c2
       cases c2
      exact ⟨cc,c1,by rw [upd_ne nc];exact c2⟩
    ·cases sb
   ·refine .inl ⟨⟨lock,hge⟩,⟨Dp,bs,rfl,.inl (.inl ?_),rfl,lock,ex,tb⟩⟩
    rw [hDc,yLd (by omega)]
 ·subst ev
  obtain ⟨H'',I'',u1,u2⟩:=ulk I' hl
  refine ⟨.bl (bs.all id),H'',I'',rv,?_⟩
  have ex2:LamX.ExtN H H'':=fun b u e n=>by
   by_cases z:b=a2
   ·rw [z,u1,<- z]
    exact e
   ·rw [u2 b z]
    exact ex b u (by rw [upd_ne z];exact e) n
  have tb2:LamX.Tabs κ.tabs H'':=fun t ht=>by
   obtain ⟨pp,t1,t2,t3⟩:=tb t ht
   have np:t.1≠a2:=fun z=>by
    rw [z,hl] at t1
    cases t1
   refine ⟨pp,by rw [u2 _ np];exact t1,t2,fun pos cv hc=> ?_⟩
   obtain ⟨cc,c1,c2⟩:=t3 pos cv hc
   have nc:cc≠a2:=fun z=>by
    rw [z,hl] at c2
    unfold LamX.CodeO at c2
    cases c2
   exact ⟨cc,c1,by rw [u2 _ nc];exact c2⟩
  exact q0 _ G (o.ext ex2 tb2) (Same.refl G) _ rfl
end
theorem yJ2 {fn:List SD->FR}{E:Exn->List SD->Prop}{p:SD->List SD->Prop}(ei:ρ[i]? =some (.va (.dk b1 l)))(ej:ρ[j]? =some (.va (.dk b2 m)))(hl:m.length<=1000000)(hb:allS fn l m m=some bs)
  (h:p (.va (.bl (bs.all id))) ρ):Wp (yAs fn i j) ρ p E:=by
 refine ⟨?_⟩
 unfold yAs
 simp only [ei,ej,if_pos hl,hb]
 exact h
theorem yDo {p:SD->Prop}(h:p (.va (.bl false))):Ow (isnD (.dk b a) .non) p:=⟨_,rfl,h⟩
theorem xN8:xJg "dict" [.ty "int",.ty "str"]=some false:=by decide +kernel
set_option maxHeartbeats 390000
structure Cm where
 c:Value
 i:Option Nat
 ts:Addr->Value->Option Addr->TS
def endsM (D:Ends):Option Nat->Ends
 | none=>D
 | some i=>Ends.less D i
def slotM (σ:L2.St)(a:Addr):Option Nat->L2.St
 | none=>σ
 | some i=>σ.set i (some (.ref a))
def wMix (K:PySem.W.Frag)(Wout:WX)(D:Ends):List Cm->WX
 | []=>Wout
 | q::r=>fun cls d σ H=> ∃ b,PySem.W.exmOne K cls q.c=some b/\(b=true-> ∀ a,H a=none->q.ts a cls d (endsM D q.i) (slotM σ a q.i) H)/\(b=false->wMix K Wout D r cls d σ H)
inductive MixOk (X:Cx):List ExceptHandler->List Cm->Prop
 | nil:MixOk X [] []
 | named {x n:Str} {c:Value} {i:Nat} {ts:Addr->Value->Option Addr->TS} {b₀:Stmt} {suite:List Stmt} {np pos:Pos} {hds:List ExceptHandler} {l:List Cm} (hc:Names X x c) (hi:X.N[i]? =some n) (hl:X.env.kindOf n=some .local)
   (go: ∀ (a:Addr) (oe:Obj) (cls:Value) (d:Option Addr) (pn:List (Addr×Obj)),Zc cls d oe->(∃ vs,oe.data= .fields vs)->PSs (X.suite a ((a,oe)::pn)) (b₀::suite) (ts a cls d)) (r:MixOk X hds l):
   MixOk X (.ExceptHandler (some (.Name x np)) (some n) (b₀::suite) pos::hds) (⟨c,some i,ts⟩::l)
 | plain {x:Str} {c:Value} {ts:Addr->Value->Option Addr->TS} {b₀:Stmt} {suite:List Stmt} {np pos:Pos} {hds:List ExceptHandler} {l:List Cm} (hc:Names X x c)
   (go: ∀ (a:Addr) (oe:Obj) (cls:Value) (d:Option Addr) (pn:List (Addr×Obj)),Zc cls d oe->(∃ vs,oe.data= .fields vs)->PSs (X.suite a ((a,oe)::pn)) (b₀::suite) (ts a cls d)) (r:MixOk X hds l):
   MixOk X (.ExceptHandler (some (.Name x np)) none (b₀::suite) pos::hds) (⟨c,none,ts⟩::l)
section
variable {X:Cx}{pins:List (Addr×Obj)}{Wout:WX}{D:Ends}
end
def mLost (pick:String->Option Bool)(f:Str)(m:M SD):M SD:=fun ρ=>match fE m ρ with
 | .ok _ ρ'=> .ok (.va (.str "")) ρ'
 | .ex x ρ'=>match pick x.c with
  | some true=> .ok (.va (.str "")) ρ'
  | some false=>match x.fs.lookup f with
   | some w=> .ok (.va w) ρ'
   | none=> .no
  | none=> .no
 | .no=> .no
structure LostK (K:PySem.W.Frag)(κ:Ctx)(CM CK:Value)(f:Str)(pick:String->Option Bool):Prop where
 on: ∀ c b,pick c=some b->PySem.W.exmOne K (.ref (κ.cl c)) CM=some b/\(b=false->PySem.W.exmOne K (.ref (κ.cl c)) CK=some true/\XfC K (κ.cl c)/\PySem.W.findIn K (.ref (κ.cl c)) f=some none)
def TLost (K:PySem.W.Frag)(CM CK:Value)(f:Str):(XK->Hp->VK->Prop)->Hp->VK->Prop:=fun tl H Q=>
 tl (fun cls d H'=> ∃ b,PySem.W.exmOne K cls CM=some b/\(b=true->Q (.str "") H')/\(b=false->PySem.W.exmOne K cls CK=some true/\
  ∃ (C dd:Addr) (fs:List (Str×V)) (w:V),cls= .ref C/\XfC K C/\PySem.W.findIn K (.ref C) f=some none/\d=some dd/\H' dd=some (.xd fs)/\fs.lookup f=some w/\Q w H')) H fun _ H'=>Q (.str "") H'
def tLWord (K:PySem.W.Frag)(f:Str)(a:Addr)(cls:Value)(d:Option Addr):TS:=fun D σ H=> ∃ C,XfC K C/\PySem.W.findIn K (.ref C) f=some none/\tAsg (tXf a cls d C f (tVar 2)) (gName 1) D σ H
def tLNone (a:Addr)(cls:Value)(d:Option Addr):TS:=tAsg (tC (.str "")) (gName 1)
section
variable {X:Cx}{x a nf n xm xk f:Str}{g CM CK:Addr}{sg:Scope}{cdg:Value}{p1 p2 p3 p4 p5 p6 p7 p8 p9 q1 q2 q3 q4 q5 q6 q7 q8 q9 r1 r2 r3 r4 r5 o1 o2:Pos}{j1 j2:Nat}
end
section
variable {X:Cx}{κ:Ctx}{W:WX}{x a nf n xm xk f:Str}{g CM CK:Addr}{sg scope:Scope}{pg params:Arguments}{fd:FuncData}{body:Expr}{m:M SD}{pick:String->Option Bool}{c P:Addr}{k:Nat}{p pos lpos p1 p2 p3 p4 p5 q1 q2 q3 q4 q6 q7 q8 q9 r1 r2 r3 r4 r5 o1 o2:Pos}{j1 j2:Nat}
end
def gPut (i:Nat)(mk:M SD):D->List SD->Option (List SD):=fun v ρ=>match ρ[i]? with
 | some (.ow _)=>match fE mk ρ with
  | .ok (.int j) ρ2=>match ρ2[i]? with
   | some (.ow (.lst b l))=>(ixN l.length j).map fun n=>ρ2.set i (.ow (.lst b (l.set n v)))
   | _=>none
  | _=>none
 | _=>none
section
variable {X:Cx}{κ:Ctx}{W:WX}{A vs:List Nat}{i:Nat}{x:Str}{k:Expr}{mk:M SD}{p p2:Pos}
end
def SD.nOw:SD->Bool
 | .ow _=>false
 | _=>true
end Fm
set_option maxHeartbeats 1990000
namespace Fm
open L2 PySem PySem.Spec PyProof.Rows NdefX LamX Sj
section
variable {pins:List (Addr×Obj)}{X:Cx}{σ:L2.St}{H:Hp}{s:Shared}
def KeyJ (X:Cx)(pins:List (Addr×Obj))(σ:L2.St)(H:Hp)(f:Addr)(o:Obj):Shared->Prop:=fun s'=>L2.Inv X pins σ H s'/\s'.heap.get? f=some o
end
section
variable {X:Cx}{κ:Ctx}{W:WX}{e body:Expr}{m:M SD}{c P:Addr}{params:Arguments}{scope:Scope}{pn y:Str}{j k:Nat}{p pos lpos kpos:Pos}
end
end Fm
set_option maxHeartbeats 990000
namespace Fm
open L2 PySem PySem.Spec PyProof.Rows
def insS (i:Nat)(ds:List D):M SD:=fun ρ=>match ρ[i]?,ds with
 | some (.ow (.lst b l)),[.int k,v]=>if l.length<1000000/\0<=k/\k<2 ^ 62 then .ok (.va .non) (ρ.set i (.ow (.lst b (l.take k.toNat++[v]++l.drop k.toNat)))) else .no
 | _,_=> .no
def mIns (i:Nat)(n:M (List D)):M SD:=fun ρ=>if xOr ρ[i]? then (n.bind (insS i)) ρ else .no
theorem xN9: ∀ (k:Nat) {l:List D} {vs:List V},RepL κ T G l vs->RepL κ T G (l.take k) (vs.take k)
 | 0,_,_,_=>by
  rw [yMm,yMm]
  exact rfl
 | k+1,[],vs,h=>by
  rw [show vs=[] from h]
  exact rfl
 | k+1,d::l,vs,h=>by
  obtain ⟨v,ws,rfl,h1,h2⟩:=h
  exact ⟨v,ws.take k,rfl,h1,xN9 k h2⟩
theorem xPh: ∀ (k:Nat) {l:List D} {vs:List V},RepL κ T G l vs->RepL κ T G (l.drop k) (vs.drop k)
 | 0,_,_,h=>by
  rw [yMs,yMs]
  exact h
 | k+1,[],vs,h=>by
  rw [show vs=[] from h]
  exact rfl
 | k+1,d::l,vs,h=>by
  obtain ⟨v,ws,rfl,h1,h2⟩:=h
  exact xPh k h2
section
variable {X:Cx}{κ:Ctx}{W:WX}{σ:L2.St}{H:Hp}{Q:VK}
abbrev yF3:V->List V->Hp->VK->Prop:=fun x vs H Q=> ∃ (l:Addr) (xs:List V) (i:Int) (y:V),x= .ref l/\vs=[.int i,y]/\H l=some (.lst xs)/\xs.length<sizeLine/\0<=i/\i<2 ^ 63/\
  Q .non (upd H l (.lst (xs.take i.toNat++[y]++xs.drop i.toNat)))
theorem yI8 (h:tE κ W (mIns i n) σ H Q):tBM κ.K "list" yF3 (tVar i) (tA κ W n) σ H Q:=by
 obtain ⟨B,ρ,G,o,q⟩:=h
 unfold mIns at q
 cases hi:xOr ρ[i]? with
 | false=>
  rw [hi,if_neg yMd] at q
  exact q.elim
 | true=>
  rw [hi,if_pos rfl] at q
  cases e:ρ[i]? with
  | none=>
   rw [e] at hi
   cases hi
  | some x=>
   cases x with
   | un=>
    rw [e] at hi
    cases hi
   | va d=>
    rw [e] at hi
    cases hi
   | ow d=>
    cases d with
    | lst b l=>
     obtain ⟨p,e1,e2,e3,vs,e4,e5⟩:=o.own i _ e
     refine ⟨_,e1,.inl ⟨rfl,vs,SqL.of e4⟩,B,ρ,G,o,Pst.mono (Pst.bind q) fun ds ρ' H' G' o' s q' xs rs=> ?_⟩
     unfold insS at q'
     split at q'
     ·rename_i b' l' k v h2
      split at q'
      ·rename_i hl
       obtain ⟨hl,k0,k1⟩:=hl
       obtain ⟨p',f1,f2,f3,ws,f4,f5⟩:=o'.own i _ h2
       rw [e1] at f1
       cases f1
       obtain ⟨y1,us1,rfl,r1,y,us,rfl,r2,r3⟩:=rs
       cases (show y1=V.int k from r1)
       have r3:us=[]:=r3
       subst r3
       refine ⟨p,ws,k,y,rfl,rfl,f4,by rw [f5.length,sizeLine_eq];omega,k0,by omega,?_⟩
       exact q' _ G' (o'.write h2 e1 (fun ps z=>by cases z) ⟨_,upd_same,((xN9 k.toNat f5).append (RepL.one r2)).append (xPh k.toNat f5)⟩) (Same.refl G') _ rfl
      ·exact q'.elim
     ·exact q'.elim
    | _=>
     rw [e] at hi
     cases hi
theorem e_ins (hK:X.K=κ.K)(h:PE X (.Name x p) (tVar i))(ha:PA X [e,f] (tA κ W n))
  (hbase:attributeBase (.Name x p) "insert" X.env (eval (.Name x p) X.env)=eval (.Name x p) X.env:=by rfl)
  (hfew:((backTo cpos (starEach [e,f] X.env)).all (fun x=> !x.1)&&(backToKw cpos (keywordEach [] X.env)).all (fun x=>x.1.isSome)&&decide (([e,f]:List Expr).length+([]:List Keyword).length+(if ([]:List Keyword).isEmpty then 0 else 1)<30))=true:=by rfl)
  (hline:(apos.endLine==cpos.line)=true:=by rfl) (hs:starEach [e,f] X.env=(false,eval e X.env)::starEach [f] X.env:=by rfl) (hplain:(backTo cpos (starEach ([f]:List Expr) X.env)).any (·.1)=false:=by rfl):PE X (.Call (.Attribute (.Name x p) "insert" apos) [e,f] [] cpos) (tE κ W (mIns i n)):=
 PE.imp (pe_bm PySem.F.plainAttrs_list PySem.F.slot_list_insert PySem.F.type_list_insert mt_insert h ha hbase hfew hline hs hplain) fun _ _ _ q=>by
  rw [hK]
  exact yI8 q
end
theorem w_ins {E:Exn->List SD->Prop}{p:SD->List SD->Prop}(e:ρ[i]? =some (.ow (.lst b0 l0)))(h:Wp n ρ (fun ds ρ'=> ∃ b l k v,ρ'[i]? =some (.ow (.lst b l))/\ds=[.int k,v]/\(l.length<1000000/\0<=k/\k<2 ^ 62)/\p (.va .non) (ρ'.set i (.ow (.lst b (l.take k.toNat++[v]++l.drop k.toNat))))) E):Wp (mIns i n) ρ p E:=by
 refine ⟨?_⟩
 unfold mIns
 rw [e,if_pos (show xOr (some (SD.ow (.lst b0 l0)))=true from rfl)]
 refine Wp.run (E:=E) (p:=p) ?_
 refine xAk (h.mono (fun ds ρ' h=> ?_) fun _ _ z=>z)
 obtain ⟨b,l,k,v,e1,rfl,hc,h⟩:=h
 refine ⟨?_⟩
 unfold insS
 simp only [e1,if_pos hc]
 exact h
end Fm
set_option maxHeartbeats 390000
namespace Fm
open L2 PySem PySem.Spec PyProof.Rows Zs Zn
def IteT (K:PySem.W.Frag)(a:Addr):It:=
 ⟨fun i H=> ∃ xs x,SqT K H a xs/\xs[i]? =some x,fun i H v H'=> ∃ t u,v= .ref t/\H t=none/\H'=upd H t (.tup [.int (i:Nat),u])/\ ∀ ys,SqT K H a ys->ys[i]? =some u,fun i H=> ∃ xs,SqT K H a xs/\xs.length<=i⟩
def iEnuT (K:PySem.W.Frag)(ta:TA):TI:=fun σ H R=>ta σ H fun vs H1=> ∃ a xs,vs=[.ref a]/\SqT K H1 a xs/\R (IteT K a) H1
def enM2:D->M (List D)
 | .lst _ l=>M.ret (enP 0 l)
 | .tup l=>M.ret (enP 0 l)
 | _=>M.no
def iEn2 (m:M SD):M (List D):=(fE m).bind enM2
def rvlM:D->M (List D)
 | .lst _ l=>M.ret l.reverse
 | _=>M.no
def iRvl (m:M SD):M (List D):=(fE m).bind rvlM
section
variable {ρ:List SD}{E:Exn->List SD->Prop}{pl:List D->List SD->Prop}
end
end Fm
namespace Fm
open L2 PySem PySem.Spec PyProof.Rows Zs Zn
end Fm
namespace Fm
open L2 PySem PySem.Spec PyProof.Rows Zs Zn
def EnP (d:D)(p:List D->Prop):Prop:= ∃ l,((∃ b,d= .lst b l)\/d= .tup l)/\p (enP 0 l)
def RvP (d:D)(p:List D->Prop):Prop:= ∃ b l,d= .lst b l/\p l.reverse
section
variable {ρ:List SD}{E:Exn->List SD->Prop}{pl:List D->List SD->Prop}{p:List D->Prop}{l:List D}{b:Bool}
end
end Fm
namespace Fm
open L2 PySem PySem.Spec PyProof.Rows
def max2D:List D->Option SD
 | [.int i,.int j]=>some (.va (.int (if j > i then j else i)))
 | _=>none
def tIdx (K:PySem.W.Frag)(to te:TE):TE:=fun σ H Q=>to σ H fun x H1=>tyV K "list" x H1/\te σ H1 fun y H2=>rIndexD K x [y] H2 Q
def idxD (b:Bool)(l:List D)(e:D):Option SD:=if e.pl 60&&(D.lst b l).pl 60 then (l.findIdx? fun x=>peq x e).map fun (j:Nat)=>SD.va (.int (j:Int)) else none
def mIdx (ma mb:M SD):M SD:=(fE ma).bind fun d=>match d with
 | .lst b l=>(fE mb).bind fun e=>M.opt (idxD b l e)
 | _=>M.no
section
variable {ρ:List SD}{E:Exn->List SD->Prop}{p:SD->List SD->Prop}
end
set_option maxHeartbeats 990000
def mD1 (mk mv:M SD):M SD:=(fE mk).bind fun k=>(fE mv).bind fun v=>M.opt ((xDd k).map fun j=> .ow (.dk false [(j,v)]))
section
variable {κ:Ctx}{W:WX}{B:Bas}{ρ:List SD}{σ:L2.St}{H G:Hp}{p:Addr}
abbrev sideB (B:Bas)(p:Addr):Bas:=⟨upd B.H p (.dK []),B.G,B.T,B.an⟩
end
section
variable {X:Cx}{κ:Ctx}{W:WX}{a b k v e f:Expr}{ma mb mk mv:M SD}{pos:Pos}
def truD:D->Option Bool
 | .non=>some false
 | .bl b=>some b
 | .int i=>some (i != 0)
 | .str s=>if s.length<=1000000 then some ((s.length:Int) != 0) else none
 | .lst _ l=>some (!l.isEmpty)
 | .tup l=>some (!l.isEmpty)
 | .dk true l=>some (!l.isEmpty)
 | _=>none
def mOrD (m n:M SD):M SD:=(fE m).bind fun d=>(M.opt (truD d)).bind fun b=>if b then M.ret (.va d) else n
end
def popS (i:Nat)(ds:List D):M SD:=fun ρ=>match ρ[i]?,ds with
 | some (.ow (.lst b l)),[.int k]=>match l[k.toNat]? with
  | some d=>if 0<=k/\k<2 ^ 62 then .ok (.va d) (ρ.set i (.ow (.lst b (l.eraseIdx k.toNat)))) else .no
  | none=> .no
 | _,_=> .no
def mPop (i:Nat)(n:M (List D)):M SD:=fun ρ=>if xOr ρ[i]? then (n.bind (popS i)) ρ else .no
def extS (i:Nat)(ds:List D):M SD:=fun ρ=>match ρ[i]?,ds with
 | some (.ow (.lst b l)),[.lst _ m]=>if l.length+m.length<=1000000 then .ok (.va .non) (ρ.set i (.ow (.lst b (l++m)))) else .no
 | _,_=> .no
def mExt (i:Nat)(n:M (List D)):M SD:=fun ρ=>if xOr ρ[i]? then (n.bind (extS i)) ρ else .no
def xQm (l m:List (Key×D)):List (Key×D):=m.foldl (fun acc kv=>xB3 acc kv.1 kv.2) l
def updS (i:Nat)(d:D):M SD:=fun ρ=>match ρ[i]?,d with
 | some (.ow (.dk b l)),.dk _ m=>if l.length+m.length<=1000000 then .ok (.va .non) (ρ.set i (.ow (.dk b (xQm l m)))) else .no
 | _,_=> .no
def yGk:Option SD->Bool
 | some (.ow (.dk _ _))=>true
 | _=>false
def mUpd (i:Nat)(m:M SD):M SD:=fun ρ=>if yGk ρ[i]? then ((fE m).bind (updS i)) ρ else .no
theorem RepK.merge: ∀ {m:List (Key×D)} {ws:List (Key×V)} {l:List (Key×D)} {vs:List (Key×V)},RepK κ T G l vs->RepK κ T G m ws->RepK κ T G (xQm l m) (mergeK vs ws)
 | [],ws,l,vs,h,g=>by
  rw [show ws=[] from g]
  exact h
 | (k,d)::m,ws,l,vs,h,g=>by
  obtain ⟨v,us,rfl,g1,g2⟩:=g
  exact RepK.merge (l:=xB3 l k d) (vs:=putK vs k v) (RepK.put k h g1) g2
section
variable {X:Cx}{td ty:TE}{e o:Expr}{apos cpos:Pos}
def tDUpd (td ty:TE):TE:=fun σ H Q=>td σ H fun x H1=> ∃ a,x= .ref a/\IsD H1 a/\ty σ H1 fun y H2=> ∃ (kvs:List (Key×V)) (b:Addr) (more:List (Key×V)),y= .ref b/\a≠b/\H2 a=some (.dK kvs)/\Rd H2 b (.dK more)/\kvs.length+more.length<=1000000/\Q .non (upd H2 a (.dK (mergeK kvs more)))
end
section
variable {X:Cx}{κ:Ctx}{W:WX}{σ:L2.St}{H:Hp}{Q:VK}
end
section
variable {ρ:List SD}{E:Exn->List SD->Prop}{p:SD->List SD->Prop}
theorem xG0: ∀ {l:List SD},(l.all fun x=>match x with| .ow c=>c.nbO|_=>true)=true->mixL l l=some l
 | [],_=>rfl
 | .ow c::l,h=>by
  (rw [yMp,yLc] at h)
  show (if SD.nbS (.ow c) then (mixL l l).map (SD.ow c:: ·) else none)=_
  rw [xG0 h.2,if_pos (show SD.nbS (.ow c)=true from h.1)]
  rfl
 | .va c::l,h=>by
  (rw [yMp,yLc] at h)
  show (mixL l l).map (SD.va c:: ·)=_
  rw [xG0 h.2]
  rfl
 | .un::l,h=>by
  (rw [yMp,yLc] at h)
  show (mixL l l).map (SD.un:: ·)=_
  rw [xG0 h.2]
  rfl
theorem yE3 (e:ρ[i]? =some (.ow d))(hs:((ρ.set i .un).all fun x=>match x with| .ow c=>c.nbO|_=>true)=true)
  (h:Wp m (ρ.set i (.va d.ln)) (fun r ρ1=>ρ1=ρ.set i (.va d.ln)/\r.nbS=true/\p r ρ) NoX):Wp (xT6 i m) ρ p E:=by
 have hi:=(yK5.mp e).1
 obtain ⟨h⟩:=h
 refine ⟨?_⟩
 have el:xRc i d ρ (ρ.set i (.va d.ln))=some ρ:=by
  have gen: ∀ (l:List SD) (k:Nat) (x:SD),mixL (l.set k .un) (l.set k .un)=some (l.set k .un)->mixL (l.set k .un) (l.set k x)=some (l.set k .un):=by
   intro l
   induction l with
   | nil=>intro k x h;exact h
   | cons y l ih=>
    intro k x h
    cases k with
    | zero=>
     have h':(mixL l l).map (SD.un:: ·)=some (SD.un::l):=h
     exact h'
    | succ k=>
     cases y with
     | ow c=>
      have h':(if SD.nbS (.ow c) then (mixL (l.set k .un) (l.set k .un)).map (SD.ow c:: ·) else none)=some (SD.ow c::l.set k .un):=h
      show (if SD.nbS (.ow c) then (mixL (l.set k .un) (l.set k x)).map (SD.ow c:: ·) else none)=some (SD.ow c::l.set k .un)
      split at h'
      ·rename_i hc
       rw [if_pos hc]
       obtain ⟨o,o1,o2⟩:=yK4.mp h'
       cases o2
       rw [ih k x o1]
       rfl
      ·cases h'
     | va c=>
      have h':(mixL (l.set k .un) (l.set k .un)).map (SD.va c:: ·)=some (SD.va c::l.set k .un):=h
      show (mixL (l.set k .un) (l.set k x)).map (SD.va c:: ·)=some (SD.va c::l.set k .un)
      obtain ⟨o,o1,o2⟩:=yK4.mp h'
      cases o2
      rw [ih k x o1]
      rfl
     | un=>
      have h':(mixL (l.set k .un) (l.set k .un)).map (SD.un:: ·)=some (SD.un::l.set k .un):=h
      show (mixL (l.set k .un) (l.set k x)).map (SD.un:: ·)=some (SD.un::l.set k .un)
      obtain ⟨o,o1,o2⟩:=yK4.mp h'
      cases o2
      rw [ih k x o1]
      rfl
  unfold xRc
  rw [gen ρ i _ (xG0 hs)]
  show some ((ρ.set i .un).set i (.ow d))=_
  rw [yMa]
  congr 1
  refine (yMy fun j=> ?_)
  by_cases hj:i=j
  ·subst hj
   rw [yK8 hi,e]
  ·rw [yLa hj]
 unfold xT6
 rw [e]
 dsimp only
 cases em:m (ρ.set i (.va d.ln)) with
 | ok r ρ1=>
  rw [em] at h
  obtain ⟨h1,h2,h3⟩:=h
  subst h1
  dsimp only
  rw [if_pos h2,el]
  exact h3
 | ex x ρ1=>
  rw [em] at h
  exact h.elim
 | no=>
  rw [em] at h
  exact h.elim
end
def rngN (i:Int)(n:Nat):List D:=(List.range n).map fun k:Nat=>D.int (i-(k:Int))
def rng3M:List D->M (List D)
 | [.int i,.int j,.int c]=>if c= -1/\ -(2 ^ 62)<=i/\i<2 ^ 62/\ -(2 ^ 62)<=j/\j<2 ^ 62 then M.ret (rngN i (i-j).toNat) else M.no
 | _=>M.no
def iRg3 (n:M (List D)):M (List D):=n.bind rng3M
section
variable {X:Cx}{κ:Ctx}{W:WX}{tg a b c:Expr}
end
set_option maxHeartbeats 1990000
def eqKP (l m:List (Key×D)):Bool:=decide (l.length=m.length)&&l.all fun p=>match getK m p.1 with
 | some d=>(p.2.pl 60&&d.pl 60)&&peq p.2 d
 | none=>false
def ne4D (d e:D):Option SD:=match d,e with
 | .dk _ l,.dk _ m=>if eqKP l m then some (.va (.bl false)) else none
 | d,e=>neD d e
section
variable {X:Cx}{κ:Ctx}
def rNeDP (K:PySem.W.Frag):R2:=fun x y H Q=> ∃ a b ks ls,x= .ref a/\y= .ref b/\Rd H a (.dK ks)/\Rd H b (.dK ls)/\ks.length=ls.length/\
 (∀ p∈ks,∃ u d e,valV ls p.1=some u/\Dp K H p.2 d/\Dp K H u e/\SeqAt.shaped d=true/\SeqAt.shaped e=true/\PyData.eqv d e=true)/\Q (.bl false) H
end
def dif:List (Key×D)->List (Key×D)->Bool
 | [],_::_=>true
 | _::_,[]=>true
 | (_,.int _)::_,(_,.tup _)::_=>true
 | _,_=>false
mutual
def D.nk (l:List (Key×D)):D->Bool
 | .non=>true
 | .bl _=>true
 | .int _=>true
 | .str _=>true
 | .ty _=>true
 | .tup xs=>nkL l xs
 | .lst _ xs=>nkL l xs
 | .dk _ m=>dif m l&&nkK l m
 | _=>false
def nkL (l:List (Key×D)):List D->Bool
 | []=>true
 | d::r=>D.nk l d&&nkL l r
def nkK (l:List (Key×D)):List (Key×D)->Bool
 | []=>true
 | (_,d)::r=>D.nk l d&&nkK l r
end
def SD.nk (l:List (Key×D)):SD->Bool
 | .un=>true
 | .va d=>d.nk l
 | .ow (.lst _ xs)=>nkL l xs
 | .ow (.dk _ m)=>nkK l m
 | .ow _=>false
section
variable {κ:Ctx}{T:Pd}{G:Hp}{p:Addr}{od:Obj}{ws:List (Key×V)}
theorem xOf (gp:G p=some u)(n: ∀ ys,u≠ .tup ys)(h:xGy κ.K G a xs):xGy κ.K (upd G p u') a xs:=by
 rcases h with h|h
 ·have na:a≠p:=fun z=>by
   rw [z,gp] at h
   exact n xs (yLh.inj h)
  exact .inl (by rw [upd_ne na];exact h)
 ·exact .inr h
theorem xOj (gp:G p=some u)(n: ∀ o ys,u≠ .frz o (.lst ys))(h:xM4 κ.K G a xs):xM4 κ.K (upd G p u') a xs:=by
 rcases h with ⟨o,h⟩|h
 ·have na:a≠p:=fun z=>by
   rw [z,gp] at h
   exact n o xs (yLh.inj h)
  exact .inl ⟨o,by rw [upd_ne na];exact h⟩
 ·exact .inr h
mutual
theorem Rep.lk (gp:G p=some (.dK ws))(nt: ¬ T p): ∀ (d:D) {v:V},Rep κ T G d v->Rep κ T (upd G p (.frz od (.dK ws))) d v
 | .non,_,h=>h
 | .bl _,_,h=>h
 | .int _,_,h=>h
 | .str _,_,h=>h
 | .ty _,_,h=>h
 | .adr _,_,h=>h
 | .tup xs,v,h=>by
  obtain ⟨a,vs,h1,h2,h3⟩:=h
  exact ⟨a,vs,h1,xOf gp (fun _ z=>nomatch z) h2,RepL.lk gp nt xs h3⟩
 | .lst b xs,v,h=>by
  obtain ⟨a,vs,h1,⟨h2,h4⟩,h3⟩:=h
  have na:a≠p:=fun z=>by
   rw [z,gp] at h2
   cases h2
  exact ⟨a,vs,h1,⟨(upd_ne na).trans h2,h4⟩,RepL.lk gp nt xs h3⟩
 | .scr xs,v,h=>by
  obtain ⟨a,vs,h1,h2,h3⟩:=h
  exact ⟨a,vs,h1,h2.imp (fun y=>xOj gp (fun _ _ z=>nomatch z) y) id,RepL.lk gp nt xs h3⟩
 | .nv b xs ss,v,h=>by
  obtain ⟨a,vs,h1,⟨h2,h4⟩,h3⟩:=h
  have na:a≠p:=fun z=>by
   obtain ⟨φ,h5⟩:=h2.some
   rw [z,gp] at h5
   cases h5
  exact ⟨a,vs,h1,⟨h2.at (upd_ne na).symm,h4⟩,RepL.lk gp nt xs h3⟩
 | .dk b m,v,h=>by
  obtain ⟨a,vs,h1,⟨h2,h4⟩,h3⟩:=h
  refine ⟨a,vs,h1,⟨?_,h4⟩,RepK.lk gp nt m h3⟩
  by_cases na:a=p
  ·subst na
   have hb:b=false:=by
    cases b with
    | false=>rfl
    | true=>exact absurd (h4.mpr rfl) nt
   rcases h2 with h2|⟨_,o,h2⟩
   ·rw [gp] at h2
    cases h2
    exact .inr ⟨hb,od,upd_same⟩
   ·rw [gp] at h2
    cases h2
  ·rcases h2 with h2|⟨hb,o,h2⟩
   ·exact .inl ((upd_ne na).trans h2)
   ·exact .inr ⟨hb,o,(upd_ne na).trans h2⟩
 | .ins b c m,v,h=>by
  obtain ⟨a,dx,vs,h1,⟨h2,h4⟩,h3⟩:=h
  have na:a≠p:=fun z=>by
   rw [z,gp] at h2
   cases h2
  exact ⟨a,dx,vs,h1,⟨(upd_ne na).trans h2,h4⟩,RepF.lk gp nt m h3⟩
theorem RepL.lk (gp:G p=some (.dK ws))(nt: ¬ T p): ∀ (xs:List D) {vs:List V},RepL κ T G xs vs->RepL κ T (upd G p (.frz od (.dK ws))) xs vs
 | [],_,h=>h
 | d::r,vs,h=>by
  obtain ⟨v,us,e,h1,h2⟩:=h
  exact ⟨v,us,e,Rep.lk gp nt d h1,RepL.lk gp nt r h2⟩
theorem RepK.lk (gp:G p=some (.dK ws))(nt: ¬ T p): ∀ (m:List (Key×D)) {vs:List (Key×V)},RepK κ T G m vs->RepK κ T (upd G p (.frz od (.dK ws))) m vs
 | [],_,h=>h
 | (k,d)::r,vs,h=>by
  obtain ⟨v,us,e,h1,h2⟩:=h
  exact ⟨v,us,e,Rep.lk gp nt d h1,RepK.lk gp nt r h2⟩
theorem RepF.lk (gp:G p=some (.dK ws))(nt: ¬ T p): ∀ (m:List (Str×D)) {vs:List (Str×V)},RepF κ T G m vs->RepF κ T (upd G p (.frz od (.dK ws))) m vs
 | [],_,h=>h
 | (k,d)::r,vs,h=>by
  obtain ⟨v,us,e,h1,h2⟩:=h
  exact ⟨v,us,e,Rep.lk gp nt d h1,RepF.lk gp nt r h2⟩
end
mutual
theorem Rep.ulk (gp:G p=some (.frz od (.dK ws))): ∀ (d:D) {v:V},Rep κ T G d v->Rep κ T (upd G p (.dK ws)) d v
 | .non,_,h=>h
 | .bl _,_,h=>h
 | .int _,_,h=>h
 | .str _,_,h=>h
 | .ty _,_,h=>h
 | .adr _,_,h=>h
 | .tup xs,v,h=>by
  obtain ⟨a,vs,h1,h2,h3⟩:=h
  exact ⟨a,vs,h1,xOf gp (fun _ z=>nomatch z) h2,RepL.ulk gp xs h3⟩
 | .lst b xs,v,h=>by
  obtain ⟨a,vs,h1,⟨h2,h4⟩,h3⟩:=h
  have na:a≠p:=fun z=>by
   rw [z,gp] at h2
   cases h2
  exact ⟨a,vs,h1,⟨(upd_ne na).trans h2,h4⟩,RepL.ulk gp xs h3⟩
 | .scr xs,v,h=>by
  obtain ⟨a,vs,h1,h2,h3⟩:=h
  exact ⟨a,vs,h1,h2.imp (fun y=>xOj gp (fun o ys z=>by cases z) y) id,RepL.ulk gp xs h3⟩
 | .nv b xs ss,v,h=>by
  obtain ⟨a,vs,h1,⟨h2,h4⟩,h3⟩:=h
  have na:a≠p:=fun z=>by
   obtain ⟨φ,h5⟩:=h2.some
   rw [z,gp] at h5
   cases h5
  exact ⟨a,vs,h1,⟨h2.at (upd_ne na).symm,h4⟩,RepL.ulk gp xs h3⟩
 | .dk b m,v,h=>by
  obtain ⟨a,vs,h1,⟨h2,h4⟩,h3⟩:=h
  refine ⟨a,vs,h1,⟨?_,h4⟩,RepK.ulk gp m h3⟩
  by_cases na:a=p
  ·subst na
   rcases h2 with h2|⟨_,o,h2⟩
   ·rw [gp] at h2
    cases h2
   ·rw [gp] at h2
    cases h2
    exact .inl upd_same
  ·rcases h2 with h2|⟨hb,o,h2⟩
   ·exact .inl ((upd_ne na).trans h2)
   ·exact .inr ⟨hb,o,(upd_ne na).trans h2⟩
 | .ins b c m,v,h=>by
  obtain ⟨a,dx,vs,h1,⟨h2,h4⟩,h3⟩:=h
  have na:a≠p:=fun z=>by
   rw [z,gp] at h2
   cases h2
  exact ⟨a,dx,vs,h1,⟨(upd_ne na).trans h2,h4⟩,RepF.ulk gp m h3⟩
theorem RepL.ulk (gp:G p=some (.frz od (.dK ws))): ∀ (xs:List D) {vs:List V},RepL κ T G xs vs->RepL κ T (upd G p (.dK ws)) xs vs
 | [],_,h=>h
 | d::r,vs,h=>by
  obtain ⟨v,us,e,h1,h2⟩:=h
  exact ⟨v,us,e,Rep.ulk gp d h1,RepL.ulk gp r h2⟩
theorem RepK.ulk (gp:G p=some (.frz od (.dK ws))): ∀ (m:List (Key×D)) {vs:List (Key×V)},RepK κ T G m vs->RepK κ T (upd G p (.dK ws)) m vs
 | [],_,h=>h
 | (k,d)::r,vs,h=>by
  obtain ⟨v,us,e,h1,h2⟩:=h
  exact ⟨v,us,e,Rep.ulk gp d h1,RepK.ulk gp r h2⟩
theorem RepF.ulk (gp:G p=some (.frz od (.dK ws))): ∀ (m:List (Str×D)) {vs:List (Str×V)},RepF κ T G m vs->RepF κ T (upd G p (.dK ws)) m vs
 | [],_,h=>h
 | (k,d)::r,vs,h=>by
  obtain ⟨v,us,e,h1,h2⟩:=h
  exact ⟨v,us,e,Rep.ulk gp d h1,RepF.ulk gp r h2⟩
end
theorem xBm.lk (gp:G p=some (.dK ws))(nt: ¬ T p)(e:H' q=H q)(h:xBm κ T G H q d):xBm κ T (upd G p (.frz od (.dK ws))) H' q d:=by
 cases d with
 | lst b xs=>
  obtain ⟨vs,h1,h2⟩:=h
  exact ⟨vs,e.trans h1,RepL.lk gp nt xs h2⟩
 | dk b m=>
  obtain ⟨vs,h1,h2⟩:=h
  exact ⟨vs,e.trans h1,RepK.lk gp nt m h2⟩
 | ins b c m=>
  obtain ⟨dx,vs,h1,h2⟩:=h
  exact ⟨dx,vs,e.trans h1,RepF.lk gp nt m h2⟩
 | scr m=>
  obtain ⟨vs,h1,h2⟩:=h
  exact ⟨vs,h1.at e,RepL.lk gp nt m h2⟩
 | _=>exact h.elim
theorem xBm.ulk (gp:G p=some (.frz od (.dK ws)))(e:H' q=H q)(h:xBm κ T G H q d):xBm κ T (upd G p (.dK ws)) H' q d:=by
 cases d with
 | lst b xs=>
  obtain ⟨vs,h1,h2⟩:=h
  exact ⟨vs,e.trans h1,RepL.ulk gp xs h2⟩
 | dk b m=>
  obtain ⟨vs,h1,h2⟩:=h
  exact ⟨vs,e.trans h1,RepK.ulk gp m h2⟩
 | ins b c m=>
  obtain ⟨dx,vs,h1,h2⟩:=h
  exact ⟨dx,vs,e.trans h1,RepF.ulk gp m h2⟩
 | scr m=>
  obtain ⟨vs,h1,h2⟩:=h
  exact ⟨vs,h1.at e,RepL.ulk gp m h2⟩
 | _=>exact h.elim
end
def kyD:Key->D
 | .inl a=> .int a
 | .inr s=> .str s
abbrev kysD (l:List (Key×D)):List D:=l.map fun kv=>kyD kv.1
section
variable {κ:Ctx}{B:Bas}{ρ ρ':List SD}{σ σ':L2.St}{H H' G G':Hp}{i:Nat}{p:Addr}{c:Bool}{l:List (Key×D)}{ws:List (Key×V)}{od:Obj}
abbrev lkB (B:Bas)(p:Addr)(od:Obj)(ws:List (Key×V)):Bas:=⟨upd B.H p (.frz od (.dK ws)),upd B.G p (.frz od (.dK ws)),B.T,B.an⟩
structure LockO (κ:Ctx)(B:Bas)(p:Addr)(ws:List (Key×V))(G:Hp):Prop where
 gp:G p=some (.dK ws)
 nt: ¬ B.T p
 bh: ∀ u,B.H p=some u->u= .dK ws
 fz:B.H p≠none->B.G p=some (.dK ws)
 sb: ∀ u,B.G p=some u->u= .dK ws
 lent: ∀ a,B.T a->B.H a≠none
theorem LockO.of (o:Ok κ B ρ σ H G)(gp:G p=some (.dK ws))(nt: ¬ B.T p):LockO κ B p ws G:=by
 have hp:=o.fr.gh _ _ gp
 refine ⟨gp,nt,fun u e=> ?_,fun e=> ?_,fun u e=> ?_,o.fr.lent⟩
 ·have n: ∀ ps,u≠ .tbl ps:=fun ps z=>o.fr.nt p ps (by rw [e,z])
  have:=o.fr.keep p u e n
  rw [hp] at this
  exact Eq.symm (yLh.inj this)
 ·rw [<- o.fr.frz p e]
  exact gp
 ·have:=o.fr.sub p u e
  rw [gp] at this
  exact Eq.symm (yLh.inj this)
theorem LockO.same (f:LockO κ B p ws G)(s:Same (upd G p (.frz od (.dK ws))) G'):Same G (upd G' p (.dK ws)):=fun a u h=>by
 by_cases na:a=p
 ·rw [na,f.gp] at h
  rw [na,upd_same]
  exact h
 ·rw [upd_ne na]
  exact s a u (by rw [upd_ne na];exact h)
def iKy (i:Nat):M (List D):=fun ρ=>match ρ[i]? with
 | some (.va (.dk false l))=> .ok (kysD l) ρ
 | _=> .no
def mLk (i:Nat)(m:M SD):M SD:=fun ρ=>match ρ[i]? with
 | some (.va (.dk false _))=>match m ρ with
  | .ok r ρ'=> .ok r ρ'
  | _=> .no
 | _=> .no
end
section
variable {X:Cx}{κ:Ctx}{A:List Nat}{W:WX}{elt tg:Expr}{xd:Str}{q1:Pos}{ifs:List Expr}{scope:Scope}{own:List (Str×Nat)}{pos:Pos}{i:Nat}{g:D->List SD->Option (List SD)}{tt:M Bool}{te:M SD}
end
section
variable {X:Cx}{κ:Ctx}{A vs:List Nat}{W:WX}{tg e:Expr}{pos:Pos}
def sLk (i:Nat)(s:S):S:=fun ρ=>match ρ[i]? with
 | some (.va (.dk false _))=>match s ρ with
  | .ok f ρ'=> .ok f ρ'
  | _=> .no
 | _=> .no
end
section
variable {ρ:List SD}{E:Exn->List SD->Prop}
end
section
variable {ρ:List SD}{E:Exn->List SD->Prop}
theorem kS {p:Fl->List SD->Prop}(h:Wp m ρ p E):Wp m ρ p E:=h
theorem kE {p:SD->List SD->Prop}(h:Wp m ρ p E):Wp m ρ p E:=h
theorem kD {p:D->List SD->Prop}(h:Wp m ρ p E):Wp m ρ p E:=h
theorem kL {p:List D->List SD->Prop}(h:Wp m ρ p E):Wp m ρ p E:=h
theorem kA {p:List Ar->List SD->Prop}(h:Wp m ρ p E):Wp m ρ p E:=h
theorem kB {p:Bool->List SD->Prop}(h:Wp m ρ p E):Wp m ρ p E:=h
end
section
variable {p:SD->Prop}{a b:D}
theorem kO (h:Ow o p):Ow o p:=h
theorem kEq (h:Ow (eqD a b) p):Ow (eqD a b) p:=h
theorem kNe (h:Ow (neD a b) p):Ow (neD a b) p:=h
theorem kIs (h:Ow (isnD a b) p):Ow (isnD a b) p:=h
theorem kNt (h:Ow (ntnD a b) p):Ow (ntnD a b) p:=h
theorem kAd (h:Ow (xB2 a b) p):Ow (xB2 a b) p:=h
theorem kLn (h:Ow (xC0 l) p):Ow (xC0 l) p:=h
theorem kAn {a b:Prop}(h:a/\b):a/\b:=h
theorem kEx {α:Type}{q:α->Prop}(h: ∃ a,q a): ∃ a,q a:=h
end
def dpopS (i:Nat)(d:D):M SD:=fun ρ=>match ρ[i]?,xDd d with
 | some (.ow (.dk b l)),some k=>match getK l k with
  | some v=> .ok (.va v) (ρ.set i (.ow (.dk b (yC2 l k))))
  | none=> .ok (.va .non) ρ
 | _,_=> .no
def mDPop (i:Nat)(m:M SD):M SD:=fun ρ=>if yGk ρ[i]? then ((fE m).bind (dpopS i)) ρ else .no
def isDk:D->Bool
 | .dk _ _=>true
 | _=>false
def getD2 (d k v:D):Option SD:=match d with
 | .dk _ l=>(xDd k).map fun j=> .va ((getK l j).getD v)
 | _=>none
def mGet2 (ma mk mv:M SD):M SD:=(fE ma).bind fun d=>if isDk d then (fE mk).bind fun k=>(fE mv).bind fun v=>M.opt (getD2 d k v) else M.no
section
variable {X:Cx}{κ:Ctx}{W:WX}{σ:L2.St}{H:Hp}{Q:VK}
end
section
variable {ρ:List SD}{E:Exn->List SD->Prop}{p:SD->List SD->Prop}
end
def prK:D->Option (Key×D)
 | .tup [k,v]=>(xDd k).map fun j=>(j,v)
 | _=>none
def prsK:List D->Option (List (Key×D))
 | []=>some []
 | d::l=>(prK d).bind fun p=>(prsK l).map (p:: ·)
def xS7:List D->Option SD
 | [.lst _ l]=>(prsK l).map fun m=> .ow (.dk false (xQm [] m))
 | l=>yEc l
def yBy (κ:Ctx):List V->Hp->VK->Prop:=fun xs H Q=>(∃ (a:Addr) (kvs:List (Key×V)),xs=[.ref a]/\Rd H a (.dK kvs)/\ ∀ p,H p=none->Q (.ref p) (upd H p (.dK kvs)))\/
 ∃ (a:Addr) (ps:List Addr) (kvs:List (Key×V)),xs=[.ref a]/\SqL κ.K H a (ps.map V.ref)/\Paired (fun p kv=>SqT κ.K H p [kV kv.1,kv.2]) ps kvs/\ ∀ p,H p=none->Q (.ref p) (upd H p (.dK (mergeK [] kvs)))
theorem yBs (hK:X.K=κ.K)(hc:X.calm=true):CallR X (.type "dict") (yBy κ):=by
 rintro pins s σ H xs us Q I r q
 rcases q with q|q
 ·exact call_dictD pins s σ H xs us Q I r q
 ·rw [<- hK] at q
  exact call_dictP hc pins s σ H xs us Q I r q
theorem xYe (s:Same G H): ∀ {l:List D} {m:List (Key×D)} {vs:List V},prsK l=some m->RepL κ T G l vs-> ∃ (ps:List Addr) (kvs:List (Key×V)),vs=ps.map V.ref/\Paired (fun p kv=>SqT κ.K H p [kV kv.1,kv.2]) ps kvs/\RepK κ T G m kvs
 | [],m,vs,e,r=>by
  cases e
  exact ⟨[],[],r,.nil,rfl⟩
 | d::l,m,vs,e,r=>by
  obtain ⟨v,ws,rfl,r1,r2⟩:=r
  obtain ⟨q,e1,e2⟩:=yLj.mp (show (prK d).bind _=some m from e)
  obtain ⟨m',e3,rfl⟩:=yK4.mp e2
  obtain ⟨ps,kvs,rfl,h2,h3⟩:=xYe s e3 r2
  unfold prK at e1
  split at e1
  ·rename_i k x
   obtain ⟨j,hj,rfl⟩:=yK4.mp e1
   obtain ⟨a,us,rfl,t1,u,us2,rfl,t2,x',us3,rfl,t3,rfl⟩:=r1
   have ek:u=kV j:=xH1 t2 hj
   subst ek
   exact ⟨a::ps,(j,x')::kvs,rfl,.cons (t1.sq s) h2,x',kvs,rfl,t3,h3⟩
  ·cases e1
theorem yBd:xDw κ (yBy κ) xS7:=by
 intro B ρ σ H G ds xs z Q o r hz q
 unfold xS7 at hz
 split at hz
 ·rename_i b l
  obtain ⟨m,e,rfl⟩:=yK4.mp hz
  obtain ⟨v,ws,rfl,⟨a,vs,rfl,⟨h1,_⟩,h2⟩,rfl⟩:=r
  obtain ⟨ps,kvs,rfl,p2,p3⟩:=xYe o.fr.gh e h2
  exact .inr ⟨a,ps,kvs,rfl,SqL.of (o.fr.gh _ _ h1),p2,fun p hp=>q _ _ G (o.allocOwn hp) (Same.refl G) (o.newOwn hp ⟨_,upd_same,RepK.merge (l:=[]) (vs:=[]) rfl p3⟩)⟩
 ·exact .inl (yHb B ρ σ H G ds xs z Q o r hz q)
theorem xSv {q:SD->Prop}(h:q (.ow (.dk false l))):Ow (xS7 [.dk b l]) q:=⟨_,rfl,h⟩
def yJu (i:Nat)(d:D):M SD:=fun ρ=>match ρ[i]?,xDd d with
 | some (.ow (.dk b l)),some k=>match getK l k with
  | some v=> .ok (.va v) (ρ.set i (.ow (.dk b (yC2 l k))))
  | none=> .no
 | _,_=> .no
def mDPop1 (i:Nat)(m:M SD):M SD:=fun ρ=>if yGk ρ[i]? then ((fE m).bind (yJu i)) ρ else .no
section
variable {X:Cx}{κ:Ctx}{W:WX}{σ:L2.St}{H:Hp}{Q:VK}
end
def fmtD:D->Option Str
 | .str s=>if s.length<=1000000 then some s else none
 | .int i=>if i.natAbs.log2<1920/\(Str.ofString (toString i)).length<=1000000 then some (Str.ofString (toString i)) else none
 | _=>none
def fmt1D (d:D)(c:Str):Option Str:=(fmtD d).bind fun x=>if c.length<=1000 then some x else none
def fs3D (x c:Str)(b:D):Option SD:=(fmtD b).map fun y=> .va (.str (x++c++y))
def mFs3 (m1:M SD)(c:Str)(m3:M SD):M SD:=(fE m1).bind fun a=>(M.opt (fmt1D a c)).bind fun x=>(fE m3).bind fun b=>M.opt (fs3D x c b)
section
variable {X:Cx}{κ:Ctx}{W:WX}{σ:L2.St}{H:Hp}{Q:VK}
theorem yGh (r:Rep κ T G d v)(e:fmtD d=some x):x.length<=1000000/\((∃ y:Str,v= .str y/\y.length<=sizeLine/\y=x)\/ ∃ i:Int,v= .int i/\i.natAbs.log2<1920/\(Str.ofString (toString i))=x):=by
 cases d with
 | str s=>
  unfold fmtD at e
  dsimp only at e
  split at e
  ·rename_i h
   cases e
   cases r
   exact ⟨h,.inl ⟨_,rfl,by rw [sizeLine_eq];omega,rfl⟩⟩
  ·cases e
 | int i=>
  unfold fmtD at e
  dsimp only at e
  split at e
  ·rename_i h
   cases e
   cases r
   exact ⟨h.2,.inr ⟨_,rfl,h.1,rfl⟩⟩
  ·cases e
 | _=>cases e
theorem xFp (a:Str):Str.empty++a=a:=by
 cases a
 show Str.mk (#[]++_)=_
 rw [Array.empty_append]
end
section
variable {X:Cx}
def rMinS:List V->Hp->VK->Prop:=fun xs H Q=> ∃ (a:Addr) (kvs:List (Key×V)) (ks:List Str),xs=[.ref a]/\Rd H a (.dK kvs)/\kvs.map (·.1)=ks.map Sum.inr/\ks≠[]/\ ∀ m,m∈ks->(∀ j∈ks,m.cps.toList<=j.cps.toList)->Q (.str m) H
def rMaxS:List V->Hp->VK->Prop:=fun xs H Q=> ∃ (a:Addr) (kvs:List (Key×V)) (ks:List Str),xs=[.ref a]/\Rd H a (.dK kvs)/\kvs.map (·.1)=ks.map Sum.inr/\ks≠[]/\ ∀ m,m∈ks->(∀ j∈ks,j.cps.toList<=m.cps.toList)->Q (.str m) H
end
def minKD:List D->Option SD
 | [.dk _ l]=>(xDk l).bind fun ks=>(ssort ks).head?.map fun s=> .va (.str s)
 | _=>none
def maxKD:List D->Option SD
 | [.dk _ l]=>(xDk l).bind fun ks=>(ssort ks).getLast?.map fun s=> .va (.str s)
 | _=>none
section
variable {κ:Ctx}
end
section
variable {ρ:List SD}{E:Exn->List SD->Prop}{p:SD->List SD->Prop}{q:SD->Prop}
end
def isbD:D->D->Option SD
 | .bl a,.bl b=>some (.va (.bl (decide (a=b))))
 | _,_=>none
def ntbD:D->D->Option SD
 | .bl a,.bl b=>some (.va (.bl (!decide (a=b))))
 | _,_=>none
section
variable {X:Cx}{κ:Ctx}
end
set_option maxHeartbeats 3900000
def Ky (X:Cx)(H:Hp)(k:NestedKey)(v:V):Prop:= ∀ (pins:List (Addr×Obj)) (σ:L2.St) (s:Shared) (u:Value),Inv X pins σ H s->RelV v u->NestedIs s.heap k u
section
variable {X:Cx}{κ:Ctx}{T:Pd}{G H:Hp}
mutual
theorem yKg (hK:X.K=κ.K)(sm:Same G H): ∀ (d:D) {n:Nat} {v:V},keyN n d=true->Rep κ T G d v->Ky X H (nk d) v
 | .int i,_,_,_,r=>fun _ _ _ u _ q=>by
  rw [show _=V.int i from r] at q
  obtain ⟨t,rfl⟩:=q
  exact .int _ _
 | .str x,_,_,_,r=>fun _ _ _ u _ q=>by
  rw [show _=V.str x from r] at q
  obtain ⟨t,rfl⟩:=q
  exact .text _ _
 | .tup l,n+1,v,h,r=>fun pins σ s u I q=>by
  obtain ⟨a,vs,rfl,h1,h2⟩:=r
  obtain rfl:u= .ref a:=q
  obtain ⟨its,r1,⟨o,e1,e2,m,e3⟩,_⟩:=I.tuple (hK ▸ h1.sq sm)
  exact .tup e1 e2 e3 (by simpa using xTs hK sm l (n:=n) h h2 pins σ s its I r1)
 | .tup _,0,_,h,_=>by cases h
 | .non,n,_,h,_=>by cases n <;> cases h
 | .bl _,n,_,h,_=>by cases n <;> cases h
 | .lst _ _,n,_,h,_=>by cases n <;> cases h
 | .dk _ _,n,_,h,_=>by cases n <;> cases h
 | .ins _ _ _,n,_,h,_=>by cases n <;> cases h
 | .ty _,n,_,h,_=>by cases n <;> cases h
 | .adr _,n,_,h,_=>by cases n <;> cases h
 | .scr _,n,_,h,_=>by cases n <;> cases h
 | .nv _ _ _,n,_,h,_=>by cases n <;> cases h
theorem xTs (hK:X.K=κ.K)(sm:Same G H): ∀ (l:List D) {n:Nat} {vs:List V},xK7 n l=true->RepL κ T G l vs->
  ∀ (pins:List (Addr×Obj)) (σ:L2.St) (s:Shared) (us:List Value),Inv X pins σ H s->Vals vs us->NestedAll s.heap (nkS l) us
 | [],_,_,_,r,_,_,_,_,_,q=>by
  rw [show _=[] from r] at q
  cases q
  exact .nil
 | d::l,n,_,h,r,pins,σ,s,us,I,q=>by
  obtain ⟨v,ws,rfl,h1,h2⟩:=r
  have h':(keyN n d&&xK7 n l)=true:=h
  rw [yLc] at h'
  cases q with
  | cons q1 q2=>exact .cons (yKg hK sm d (n:=n) h'.1 h1 pins σ s _ I q1) (xTs hK sm l (n:=n) h'.2 h2 pins σ s _ I q2)
end
end
mutual
theorem nk_dp: ∀ (d:D) {n:Nat},keyN n d=true->(nk d).depth<=n
 | .int i,_,_=>yLy _
 | .str x,_,_=>yLy _
 | .tup l,n+1,h=>Nat.succ_le_succ (yC8 l (n:=n) h)
 | .tup _,0,h=>by cases h
 | .non,n,h=>by cases n <;> cases h
 | .bl _,n,h=>by cases n <;> cases h
 | .lst _ _,n,h=>by cases n <;> cases h
 | .dk _ _,n,h=>by cases n <;> cases h
 | .ins _ _ _,n,h=>by cases n <;> cases h
 | .ty _,n,h=>by cases n <;> cases h
 | .adr _,n,h=>by cases n <;> cases h
 | .scr _,n,h=>by cases n <;> cases h
 | .nv _ _ _,n,h=>by cases n <;> cases h
theorem yC8: ∀ (l:List D) {n:Nat},xK7 n l=true->NestedKey.depthAll (nkS l)<=n
 | [],_,_=>yLy _
 | d::l,n,h=>by
  have h':(keyN n d&&xK7 n l)=true:=h
  rw [yLc] at h'
  exact Nat.max_le.mpr ⟨nk_dp d h'.1,yC8 l h'.2⟩
end
mutual
theorem yJg: ∀ (d e:D) {n m:Nat},keyN n d=true->keyN m e=true->NestedKey.beq (nk d) (nk e)=PyData.eqv d.py e.py
 | .int i,.int j,_,_,_,_=>rfl
 | .int i,.str x,_,_,_,_=>rfl
 | .int i,.tup l,_,_,_,_=>rfl
 | .str x,.int j,_,_,_,_=>rfl
 | .str x,.str y,_,_,_,_=>rfl
 | .str x,.tup l,_,_,_,_=>rfl
 | .tup l,.int j,_,_,_,_=>rfl
 | .tup l,.str y,_,_,_,_=>rfl
 | .tup l,.tup k,n+1,m+1,h,g=>xY9 l k (n:=n) (m:=m) h g
 | .tup _,.tup _,0,_,h,_=>by cases h
 | .tup _,.tup _,_+1,0,_,h=>by cases h
 | .non,_,n,_,h,_=>by cases n <;> cases h
 | .bl _,_,n,_,h,_=>by cases n <;> cases h
 | .lst _ _,_,n,_,h,_=>by cases n <;> cases h
 | .dk _ _,_,n,_,h,_=>by cases n <;> cases h
 | .ins _ _ _,_,n,_,h,_=>by cases n <;> cases h
 | .ty _,_,n,_,h,_=>by cases n <;> cases h
 | .adr _,_,n,_,h,_=>by cases n <;> cases h
 | .scr _,_,n,_,h,_=>by cases n <;> cases h
 | .nv _ _ _,_,n,_,h,_=>by cases n <;> cases h
 | .int _,.non,_,n,_,h=>by cases n <;> cases h
 | .int _,.bl _,_,n,_,h=>by cases n <;> cases h
 | .int _,.lst _ _,_,n,_,h=>by cases n <;> cases h
 | .int _,.dk _ _,_,n,_,h=>by cases n <;> cases h
 | .int _,.ins _ _ _,_,n,_,h=>by cases n <;> cases h
 | .int _,.ty _,_,n,_,h=>by cases n <;> cases h
 | .int _,.adr _,_,n,_,h=>by cases n <;> cases h
 | .int _,.scr _,_,n,_,h=>by cases n <;> cases h
 | .int _,.nv _ _ _,_,n,_,h=>by cases n <;> cases h
 | .str _,.non,_,n,_,h=>by cases n <;> cases h
 | .str _,.bl _,_,n,_,h=>by cases n <;> cases h
 | .str _,.lst _ _,_,n,_,h=>by cases n <;> cases h
 | .str _,.dk _ _,_,n,_,h=>by cases n <;> cases h
 | .str _,.ins _ _ _,_,n,_,h=>by cases n <;> cases h
 | .str _,.ty _,_,n,_,h=>by cases n <;> cases h
 | .str _,.adr _,_,n,_,h=>by cases n <;> cases h
 | .str _,.scr _,_,n,_,h=>by cases n <;> cases h
 | .str _,.nv _ _ _,_,n,_,h=>by cases n <;> cases h
 | .tup _,.non,_,n,_,h=>by cases n <;> cases h
 | .tup _,.bl _,_,n,_,h=>by cases n <;> cases h
 | .tup _,.lst _ _,_,n,_,h=>by cases n <;> cases h
 | .tup _,.dk _ _,_,n,_,h=>by cases n <;> cases h
 | .tup _,.ins _ _ _,_,n,_,h=>by cases n <;> cases h
 | .tup _,.ty _,_,n,_,h=>by cases n <;> cases h
 | .tup _,.adr _,_,n,_,h=>by cases n <;> cases h
 | .tup _,.scr _,_,n,_,h=>by cases n <;> cases h
 | .tup _,.nv _ _ _,_,n,_,h=>by cases n <;> cases h
theorem xY9: ∀ (l k:List D) {n m:Nat},xK7 n l=true->xK7 m k=true->NestedKey.beqAll (nkS l) (nkS k)=PyData.eqvAll (pyL l) (pyL k)
 | [],[],_,_,_,_=>rfl
 | [],_::_,_,_,_,_=>rfl
 | _::_,[],_,_,_,_=>rfl
 | d::l,e::k,n,m,h,g=>by
  have h':(keyN n d&&xK7 n l)=true:=h
  have g':(keyN m e&&xK7 m k)=true:=g
  rw [yLc] at h' g'
  show (NestedKey.beq (nk d) (nk e)&&NestedKey.beqAll (nkS l) (nkS k))=(PyData.eqv d.py e.py&&PyData.eqvAll (pyL l) (pyL k))
  rw [yJg d e h'.1 g'.1,xY9 l k h'.2 g'.2]
end
def kyB (d:D):Bool:=yF2 d&&keyN 8 d
section
variable {X:Cx}{κ:Ctx}{T:Pd}{G H:Hp}
end
def NdR (X:Cx)(H:Hp)(x y:V)(p a:Addr)(ks:List (NestedKey×Addr))(k:NestedKey):Prop:=
 y= .ref p/\x= .ref a/\H p=some (.ext (NdO X.w p ks))/\ ∀ (pins:List (Addr×Obj)) (σ:L2.St) (s:Shared),Inv X pins σ H s->(nestedKind X.prog X.w).is s.heap k a/\ ∀ z∈ks,(nestedKind X.prog X.w).is s.heap z.1 z.2
section
variable {X:Cx}{κ:Ctx}{W:WX}
abbrev rNdN (X:Cx):R2:=fun x y H Q=> ∃ p a ks k,NdR X H x y p a ks k/\Q (.bl (!(ks.any fun z=>decide (z.1=k)))) H
abbrev rNdP (X:Cx):TSet:=fun y x v H Q=> ∃ p a ks k,NdR X H x y p a ks k/\ks.length<sizeLine/\(ks.any fun z=>decide (z.1=k))=false/\((∃ h,NdO X.w p (ks++[(k,a)]) h)->Q (upd H p (.ext (NdO X.w p (ks++[(k,a)])))))
end
def mNd1 (mk mv:M SD):M SD:=(fE mk).bind fun k=>(fE mv).bind fun v=>if kyB k then M.ret (.ow (.scr [k])) else M.no
def ndT (i:Nat)(k:D):M Bool:=fun ρ=>match ρ[i]? with
 | some (.ow (.scr l))=>if kyB k then .ok (!l.any fun e=>peq e k) ρ else .no
 | _=> .no
def mNdN (i:Nat)(mk:M SD):M Bool:=xCv i ((fE mk).bind (ndT i))
def ndP (i:Nat)(k:D):S:=fun ρ=>match ρ[i]? with
 | some (.ow (.scr l))=>if kyB k&&decide (l.length<1000000)&& !(l.any fun e=>peq e k) then .ok .nx (ρ.set i (.ow (.scr (l++[k])))) else .no
 | _=> .no
def sNdP (i:Nat)(mk me:M SD):S:=(fE me).bind fun _=>xCv i ((fE mk).bind fun k=>ndP i k)
section
variable {X:Cx}{κ:Ctx}{W:WX}{A:List Nat}
end
def tNd1 (X:Cx)(tk tv:TE):TE:=fun σ H Q=> ∀ p,H p=none->tPairs [(tk,tv)] σ (upd H p (.dK [])) fun ps H2=>H2 p=some (.dK [])/\ ∃ x y a k,ps=[(x,y)]/\x= .ref a/\
 (∀ (pins:List (Addr×Obj)) (σ:L2.St) (s:Shared),Inv X pins σ H2 s->(nestedKind X.prog X.w).is s.heap k a)/\((∃ h,NdO X.w p [(k,a)] h)->Q (.ref p) (upd H2 p (.ext (NdO X.w p [(k,a)]))))
section
variable {κ:Ctx}{B:Bas}{ρ:List SD}{σ:L2.St}{H G:Hp}{p:Addr}
end
section
variable {X:Cx}{κ:Ctx}{W:WX}{k v:Expr}{mk mv:M SD}{pos:Pos}
end
section
variable {ρ:List SD}{E:Exn->List SD->Prop}{p:SD->List SD->Prop}{t:Bool->List SD->Prop}{s:Fl->List SD->Prop}
end
set_option maxHeartbeats 390000
def mHeard (pick:String->Option Bool)(f g:Str)(m:M SD):M SD:=fun ρ=>match fE m ρ with
 | .ok _ ρ'=> .ok (.va (.str "")) ρ'
 | .ex x ρ'=>match pick x.c,x.fs.lookup f with
  | some true,some w=> .ok (.va w) ρ'
  | some false,some (.str s)=>match x.fs.lookup g with
   | some (.str t)=>if s.length+t.length<=900000 then .ok (.va (.str (s++" "++t))) ρ' else .no
   | _=> .no
  | _,_=> .no
 | .no=> .no
abbrev rAd2:V->V->Hp->VK->Prop:=fun x y H Q=> ∃ i j,x= .str i/\y= .str j/\i.length+j.length<=sizeLine/\Q (.str (i++j)) H
def THeard (K:PySem.W.Frag)(CM CK:Value)(f g:Str):(XK->Hp->VK->Prop)->Hp->VK->Prop:=fun tl H Q=>
 tl (fun cls d H'=> ∃ b,PySem.W.exmOne K cls CM=some b/\(b=false->PySem.W.exmOne K cls CK=some true)/\
  ∃ (C dd:Addr) (fs:List (Str×V)) (w:V),cls= .ref C/\XfC K C/\PySem.W.findIn K (.ref C) f=some none/\d=some dd/\H' dd=some (.xd fs)/\fs.lookup f=some w/\
   (b=true->Q w H')/\(b=false->PySem.W.findIn K (.ref C) g=some none/\ ∃ s t:Str,w= .str s/\fs.lookup g=some (.str t)/\s.length+(" ":Str).length<=sizeLine/\(s++" ").length+t.length<=sizeLine/\Q (.str (s++" "++t)) H')) H fun _ H'=>Q (.str "") H'
def tHTwo (K:PySem.W.Frag)(f g:Str)(a:Addr)(cls:Value)(d:Option Addr):TS:=fun D σ H=> ∃ C,XfC K C/\PySem.W.findIn K (.ref C) f=some none/\PySem.W.findIn K (.ref C) g=some none/\
 tAsg (tOp rAd2 (tOp rAd2 (tXf a cls d C f (tVar 2)) (tC (.str " "))) (tXf a cls d C g (tVar 2))) (gName 1) D σ H
section
variable {X:Cx}{x a nf n xm xk f h:Str}{g CM CK:Addr}{sg:Scope}{cdg:Value}{p1 p2 p3 p4 p5 q1 q2 q3 q4 q5 q6 q7 q8 q9 r1 r2 r3 r4 r5 s1 s2 s3 s4 s5 o1 o2:Pos}{j1 j2:Nat}
end
section
variable {X:Cx}{κ:Ctx}{W:WX}{x a nf n xm xk f:Str}{g CM CK:Addr}{sg scope:Scope}{pg params:Arguments}{fd:FuncData}{body:Expr}{h:Str}{hit:String->Bool}{m:M SD}{pick:String->Option Bool}{c P:Addr}{k:Nat}{p pos lpos p1 p2 p3 p4 p5 q1 q2 q3 q4 q5 q6 q7 q8 q9 r1 r2 r3 r4 r5 s1 s2 s3 s4 s5 o1 o2:Pos}{j1 j2:Nat}
end
set_option maxHeartbeats 1990000
def rEqE:R2:=fun x y H Q=> ∃ a b ks,x= .ref a/\y= .ref b/\Rd H a (.dK ks)/\Rd H b (.dK [])/\Q (.bl ks.isEmpty) H
def empT (i:Nat):M Bool:=fun ρ=>match ρ[i]? with
 | some (.ow (.dk _ l))=> .ok l.isEmpty ρ
 | _=> .no
def mEmp (i:Nat):M Bool:=xCv i (empT i)
section
variable {X:Cx}{κ:Ctx}{W:WX}
end
section
open PySem.SeqAt (EqIn)
variable {w:World}{prog:Program}
end
section
open PySem.W (EqTree)
variable {X:Cx}{κ:Ctx}
def EqT (X:Cx)(H:Hp)(n:Nat)(x y:V):Prop:= ∀ (pins:List (Addr×Obj)) (σ:L2.St) (s:Shared) (v u:Value),Inv X pins σ H s->RelV x v->RelV y u->EqTree X.prog X.w s n v u true
def deqD:Nat->D->D->Bool
 | 0,_,_=>false
 | n+1,.tup l,.tup m=>decide (l.length=m.length)&&(List.zip l m).all fun p=>deqD n p.1 p.2
 | n+1,.dk _ l,.dk _ m=>decide (l.length=m.length)&&l.all fun p=>match getK m p.1 with
  | some d=>deqD n p.2 d
  | none=>false
 | _+1,d,e=>(d.pl 60&&e.pl 60)&&peq d e
theorem yIi (r:KV ks va): ∀ {k:Key} {v:Value},(k,v)∈va-> ∃ x,(k,x)∈ks/\RelV x v:=by
 unfold KV at r
 induction r with
 | nil=>exact fun h=>by cases h
 | @cons p q ps qs h t ih=>
  intro k v hm
  obtain ⟨h1,h2⟩:=h
  rcases (yLp.mp hm) with e|e
  ·obtain ⟨k0,x⟩:=p
   have h1:k0=q.1:=h1
   refine ⟨x,?_,by rw [<- e] at h2;exact h2⟩
   rw [<- e] at h1
   rw [h1]
   exact yK3 ..
  ·obtain ⟨x,m,rx⟩:=ih e
   exact ⟨x,yK7 _ m,rx⟩
def rNe5 (X:Cx):R2:=fun x y H Q=> ∃ a b xs ys n,n<=90/\x= .ref a/\y= .ref b/\SqT X.K H a xs/\SqT X.K H b ys/\Paired (EqT X H n) xs ys/\Q (.bl false) H
def ne5D (d e:D):Option SD:=match d,e with
 | .tup l,.tup m=>if decide (l.length=m.length)&&(List.zip l m).all (fun p=>deqD 20 p.1 p.2) then some (.va (.bl false)) else neD (.tup l) (.tup m)
 | d,e=>neD d e
end
theorem yH0 (r:Room k A):A.units+95<cLine:=by have:=r.un;omega
def rLenI (C:Addr)(sp:Sp):List V->Hp->VK->Prop:=fun xs H Q=> ∃ a dx fs,xs=[.ref a]/\H a=some (.ins C dx fs)/\sp [.ref a] H (fun v H'=> ∃ n:Int,v= .int n/\(0<=n/\n<2 ^ 62)/\Q (.int n) H') fun _ _ _=>False
def lenID (c:String)(fs:List SD->FR):List D->Option SD
 | [.ins b c1 l]=>if c1=c then match fs [.va (.ins b c1 l)] with
  | .ok (.va (.int n)) _=>if 0<=n/\n<2 ^ 62 then some (.va (.int n)) else none
  | _=>none
  else none
 | _=>none
section
variable {X:Cx}{κ:Ctx}{c:String}{k:Nat}{ps:List Str}{fs:List SD->FR}{f:Addr}{fd:FuncData}
theorem yAj (F:FnOk X.prog X.w X.K X.mg X.base (L2.CX X.prog X.w) k f fd ps sp)(hb:Binds X.K fd ps [])(hx:Passes (L2.CX X.prog X.w) X fun _ _ _=>False)(rm:Room k A)(fr:A.frames=X.A.frames)
  (I:L2.Inv X pins σ H s) (h:sp [.ref a] H Q fun _ _ _=>False):wpAny (model X.prog X.w) A (call (.ref f) [.ref a]) (EP X pins σ Q) X.xe s:=by
 have e:=I.env0
 have e0:Env0 X.prog X.w X.K X.mg X.base A X.stack s H:=⟨by rw [fr];exact e.frames,e.mod,e.bs,e.bsz,e.funs,e.frf,e.hok,e.bare⟩
 have hl:=F.len _ _ _ _ h
 have vals:Vals [V.ref a] [Value.ref a]:= .cons rfl .nil
 refine wpAny_call (codeAny_mono (F.run A X.stack s H ⟨[.ref a],[]⟩ [.ref a] [.ref a] _ _ rm e0 (by
  have z:=hb s [.ref a] I.kIn (by simpa using hl)
  simpa using z) vals h) fun r s' back=> ?_)
 match r,back with
 | .error e,z=>exact hx pins σ H s e s' I z
 | .ok .next,z=>exact z.elim
 | .ok .brk,z=>exact z.elim
 | .ok .cont,z=>exact z.elim
 | .ok (.ret u),z=>exact I.after z
end
def sFz (i:Nat)(s:S):S:=fun ρ=>match ρ[i]? with
 | some (.ow d)=>s (ρ.set i (.va d.fz))
 | _=>s ρ
section
variable {X:Cx}{κ:Ctx}{W:WX}{A:List Nat}
end
def aug3S (i:Nat)(g:Int->Int)(k:D):S:=fun ρ=>match ρ[i]? with
 | some (.ow (.dk b l))=>match xDd k with
  | some j=>match getK l j with
   | some (.int v)=>if l.length<1000000 then .ok .nx (ρ.set i (.ow (.dk b (xB3 l j (.int (g v)))))) else .no
   | _=> .no
  | none=> .no
 | _=> .no
def sAug3 (i:Nat)(mk:M SD)(g:Int->Int):S:=xCv i ((fE mk).bind fun k=>aug3S i g k)
section
variable {X:Cx}{κ:Ctx}{W:WX}{A:List Nat}
end
def mDClr (i:Nat):M SD:=fun ρ=>match ρ[i]? with
 | some (.ow (.dk b _))=> .ok (.va .non) (ρ.set i (.ow (.dk b [])))
 | _=> .no
section
variable {X:Cx}{κ:Ctx}{W:WX}{σ:L2.St}{H:Hp}{Q:VK}
end
def eq6D (d e:D):Option SD:=match d,e with
 | .dk _ l,.dk _ m=>if eqKP l m then some (.va (.bl true)) else none
 | d,e=>eqD d e
section
variable {X:Cx}{κ:Ctx}
def rEqDP (K:PySem.W.Frag):R2:=fun x y H Q=> ∃ a b ks ls,x= .ref a/\y= .ref b/\Rd H a (.dK ks)/\Rd H b (.dK ls)/\ks.length=ls.length/\
 (∀ p∈ks,∃ u d e,valV ls p.1=some u/\Dp K H p.2 d/\Dp K H u e/\SeqAt.shaped d=true/\SeqAt.shaped e=true/\PyData.eqv d e=true)/\Q (.bl true) H
end
mutual
def D.nd:D->Bool
 | .tup l=>ndL l
 | .lst _ l=>ndL l
 | .dk _ _=>false
 | .ins _ _ l=>ndF l
 | .scr l=>ndL l
 | .nv _ l _=>ndL l
 | _=>true
def ndL:List D->Bool
 | []=>true
 | d::l=>D.nd d&&ndL l
def ndF:List (Str×D)->Bool
 | []=>true
 | (_,d)::l=>D.nd d&&ndF l
end
def SD.ndS:SD->Bool
 | .va d=>d.nd
 | .ow d=>d.nd
 | .un=>true
def mixN:List SD->List SD->Option (List SD)
 | [],_=>some []
 | .ow _::l,x::r=>if x.ndS then (mixN l r).map (x:: ·) else none
 | y::l,_::r=>(mixN l r).map (y:: ·)
 | _::_,[]=>none
def lendN (i:Nat)(d:D)(ρ ρ1:List SD):Option (List SD):=(mixN (ρ.set i .un) ρ1).map fun l=>l.set i (.ow d)
def isDkF:D->Bool
 | .dk _ _=>true
 | _=>false
def mLendF (i:Nat)(m:M SD):M SD:=fun ρ=>match ρ[i]? with
 | some (.ow d)=>if isDkF d then match m (ρ.set i (.va d.fz)) with
  | .ok r ρ1=>if r.ndS then match lendN i d ρ ρ1 with
   | some ρ2=> .ok r ρ2
   | none=> .no
   else .no
  | _=> .no
  else .no
 | _=> .no
section
variable {κ:Ctx}{T:Pd}{G:Hp}{p:Addr}{ws:List (Key×V)}
theorem yA5 {K:PySem.W.Frag}{a:Addr}{xs:List V}(ho:G p=some (.dK ws))(h:xGy K G a xs):xGy K (er G p) a xs:=by
 rcases h with h|h
 ·refine .inl ?_
  rw [xEv]
  ·exact h
  ·intro z
   rw [z,ho] at h
   cases h
 ·exact .inr h
mutual
theorem Rep.dr (ho:G p=some (.dK ws)): ∀ (d:D) {v:V},d.nd=true->Rep κ T G d v->Rep κ T (er G p) d v
 | .non,_,_,h=>h
 | .bl _,_,_,h=>h
 | .int _,_,_,h=>h
 | .str _,_,_,h=>h
 | .tup l,v,n,h=>by
  obtain ⟨a,vs,h1,h2,h3⟩:=h
  exact ⟨a,vs,h1,yA5 ho h2,RepL.dr ho l n h3⟩
 | .lst b l,v,n,h=>by
  obtain ⟨a,vs,h1,⟨h2,h4⟩,h3⟩:=h
  have na:a≠p:=fun z=>by
   rw [z,ho] at h2
   cases h2
  exact ⟨a,vs,h1,⟨(xEv na).trans h2,h4⟩,RepL.dr ho l n h3⟩
 | .scr l,v,n,h=>by
  obtain ⟨a,vs,h1,h2,h3⟩:=h
  refine ⟨a,vs,h1,?_,RepL.dr ho l n h3⟩
  rcases h2 with (⟨ob,h2⟩|h2)|h2
  ·have na:a≠p:=fun z=>by
    rw [z,ho] at h2
    cases h2
   exact .inl (.inl ⟨ob,(xEv na).trans h2⟩)
  ·exact .inl (.inr h2)
  ·exact .inr h2
 | .nv b l ss,v,n,h=>by
  obtain ⟨a,vs,h1,⟨h2,h4⟩,h3⟩:=h
  have na:a≠p:=fun z=>by
   obtain ⟨φ,h5⟩:=h2.some
   rw [z,ho] at h5
   cases h5
  exact ⟨a,vs,h1,⟨h2.at (xEv na).symm,h4⟩,RepL.dr ho l n h3⟩
 | .dk b l,v,n,h=>yLr n
 | .ins b c l,v,n,h=>by
  obtain ⟨a,dx,vs,h1,⟨h2,h4⟩,h3⟩:=h
  have na:a≠p:=fun z=>by
   rw [z,ho] at h2
   cases h2
  exact ⟨a,dx,vs,h1,⟨(xEv na).trans h2,h4⟩,RepF.dr ho l n h3⟩
 | .ty _,_,_,h=>h
 | .adr _,_,_,h=>h
theorem RepL.dr (ho:G p=some (.dK ws)): ∀ (l:List D) {vs:List V},ndL l=true->RepL κ T G l vs->RepL κ T (er G p) l vs
 | [],_,_,h=>h
 | d::l,vs,n,h=>by
  have n':(D.nd d&&ndL l)=true:=n
  rw [yLc] at n'
  obtain ⟨v,ws',h1,h2,h3⟩:=h
  exact ⟨v,ws',h1,Rep.dr ho d n'.1 h2,RepL.dr ho l n'.2 h3⟩
theorem RepF.dr (ho:G p=some (.dK ws)): ∀ (l:List (Str×D)) {vs:List (Str×V)},ndF l=true->RepF κ T G l vs->RepF κ T (er G p) l vs
 | [],_,_,h=>h
 | (k,d)::l,vs,n,h=>by
  have n':(D.nd d&&ndF l)=true:=n
  rw [yLc] at n'
  obtain ⟨v,ws',h1,h2,h3⟩:=h
  exact ⟨v,ws',h1,Rep.dr ho d n'.1 h2,RepF.dr ho l n'.2 h3⟩
end
theorem xBm.dr (ho:G p=some (.dK ws))(n:d.nd=true)(h:xBm κ T G H q d):xBm κ T (Fm.er G p) H q d:=by
 cases d with
 | lst b l=>
  obtain ⟨vs,h1,h2⟩:=h
  exact ⟨vs,h1,RepL.dr ho l n h2⟩
 | dk b l=>exact yLr n
 | ins b c l=>
  obtain ⟨dx,vs,h1,h2⟩:=h
  exact ⟨dx,vs,h1,RepF.dr ho l n h2⟩
 | scr l=>
  obtain ⟨vs,h1,h2⟩:=h
  exact ⟨vs,h1,RepL.dr ho l n h2⟩
 | _=>exact h.elim
end
noncomputable def Bas.lnF (B:Bas) (i:Nat) (p:Addr) (u:HO) (ρ:List SD) (σ:L2.St) (H G:Hp):Bas:=⟨hidS (ρ.set i .un) σ H,upd G p u,B.T,[]⟩
section
variable {κ:Ctx}{B:Bas}{ρ ρ1:List SD}{σ:L2.St}{H G H' G':Hp}{i:Nat}{p:Addr}{u:HO}{d:D}
end
def ndX:SD->Bool
 | .ow c=>c.nd
 | _=>true
def mForget (i:Nat)(m:M SD):M SD:=fun ρ=>m (ρ.set i .un)
def noOw (vs:List Nat)(ρ:List SD):Bool:=vs.all fun j=>match ρ[j]? with
 | some (.ow _)=>false
 | _=>true
def lcV (vs vs1:List Nat)(g1:D->List SD->Option (List SD))(te:M SD):List D->List D->M (List D)
 | [],acc,ρ=> .ok acc ρ
 | x::l,acc,ρ=>if noOw vs ρ then match g1 x (xBa ρ vs1) with
  | none=> .no
  | some ρ3=>match fE te ρ3 with
   | .ok y ρ4=>if acc.length<1000000 then lcV vs vs1 g1 te l (acc++[y]) (unw ρ ρ4 vs1) else .no
   | _=> .no
  else .no
def lcO (vs:List Nat)(g:D->List SD->Option (List SD))(it1:M (List D))(vs1:List Nat)(g1:D->List SD->Option (List SD))(te:M SD):List D->List D->M (List D)
 | [],acc,ρ=> .ok acc ρ
 | d::l,acc,ρ=>match g d (xBa ρ vs) with
  | none=> .no
  | some ρ1=>match it1 ρ1 with
   | .ok l1 ρ2=>match lcV vs vs1 g1 te l1 acc ρ2 with
    | .ok acc' ρ3=>lcO vs g it1 vs1 g1 te l acc' (unw ρ ρ3 vs)
    | _=> .no
   | _=> .no
def mLc2 (it:M (List D))(vs:List Nat)(g:D->List SD->Option (List SD))(it1:M (List D))(vs1:List Nat)(g1:D->List SD->Option (List SD))(te:M SD):M SD:=
 it.bind fun l=>(lcO vs g it1 vs1 g1 te l []).bind fun acc=>M.ret (.ow (.lst false acc))
section
variable {κ:Ctx}{B:Bas}{ρ ρ':List SD}{σ σ':L2.St}{H G H' G':Hp}{vs:List Nat}
structure LcI2 (κ:Ctx)(W:WX)(B:Bas)(σ:L2.St)(G0:Hp)(p:Addr)(vs:List Nat)(f:List D->List D->M (List D))(Q:VK)(l acc:List D)(ρ:List SD)(H G:Hp)(ws:List V):Prop where
 ok:Ok κ B ρ σ H G
 sub:Same G0 G
 gn:G p=none
 bn:B.H p=none
 at_:H p=some (.lst ws)
 rep:RepL κ B.T G acc ws
 na: ∀ (j:Nat) (d:D),ρ[j]? =some (SD.ow d)->σ[j]? ≠some (some (V.ref p))
 go:Pst κ W B σ G ((f l acc).bind lcE ρ) fun r ρ' H' G'=> ∀ v,RepR κ B ρ' σ H' G' r v->Q v H'
structure LcJ2 (κ:Ctx)(W:WX)(B:Bas)(σ σ2:L2.St)(G0:Hp)(p:Addr)(vs vs1:List Nat)(g1:D->List SD->Option (List SD))(te:M SD)(f:List D->List D->M (List D))(Q:VK)(l l1 acc:List D)(ρ ρb:List SD)(H G:Hp)(ws:List V):Prop where
 ok:Ok κ B (unw ρ ρb vs) σ H G
 len:ρb.length=ρ.length
 blk: ∀ (j:Nat) (d:D),j∈vs->ρb[j]? =some (SD.va d)-> ∃ v,σ2[j]? =some (some v)/\Rep κ B.T G d v
 sub:Same G0 G
 gn:G p=none
 bn:B.H p=none
 at_:H p=some (.lst ws)
 rep:RepL κ B.T G acc ws
 na: ∀ (j:Nat) (d:D),(unw ρ ρb vs)[j]? =some (SD.ow d)->σ[j]? ≠some (some (V.ref p))
 go: ∃ acc' ρ3,lcV vs vs1 g1 te l1 acc ρb= .ok acc' ρ3/\Pst κ W B σ G ((f l acc').bind lcE (unw ρ ρ3 vs)) fun r ρ' H' G'=> ∀ v,RepR κ B ρ' σ H' G' r v->Q v H'
end
section
variable {X:Cx}{κ:Ctx}{A:List Nat}{W:WX}{iter elt tg iter1 tg1:Expr}{scope:Scope}{own:List (Str×Nat)}{vs1:List Nat}{pos:Pos}{it it1:M (List D)}{g g1:D->List SD->Option (List SD)}{te:M SD}
end
section
variable {ρ:List SD}{E:Exn->List SD->Prop}{p:SD->List SD->Prop}
end
def tpD (i j:Nat)(ρ:List SD):Option (List (Key×D)):=match ρ[i]? with
 | some (.va (.tup l))=>match l[j]? with
  | some (.dk false m)=>some m
  | _=>none
 | _=>none
def iKyT (i j:Nat):M (List D):=fun ρ=>match tpD i j ρ with
 | some m=> .ok (kysD m) ρ
 | none=> .no
def sLkT (i j:Nat)(s:S):S:=fun ρ=>match tpD i j ρ with
 | some _=>match s ρ with
  | .ok f ρ'=> .ok f ρ'
  | _=> .no
 | none=> .no
section
variable {κ:Ctx}{A vs:List Nat}{W:WX}
end
section
variable {ρ:List SD}{E:Exn->List SD->Prop}
end
end Fm
namespace PySem
open Sem (wp)
section
variable {prog:Program}{w:World}{A:Around}{s:Shared}{E:Value->Shared->Prop}
abbrev LsAt2 (h:Heap)(a:Addr)(its:Array Value):Prop:= ∃ n,IsL h a its n
end
end PySem
namespace Fm
open L2 PySem PySem.Spec PyProof.Rows
def rSumL (K:PySem.W.Frag):List V->Hp->VK->Prop:=fun vs H Q=> ∃ (a b:Addr) (ps:List Addr) (ls:List (List V)) (zs:List V),vs=[V.ref a,V.ref b]/\SqL K H a (ps.map V.ref)/\H b=some (.lst zs)/\ps.length=ls.length/\
 (∀ (j:Nat) p l,ps[j]? =some p->ls[j]? =some l->H p=some (.lst l))/\0<ps.length/\zs.length+ls.flatten.length<=sizeLine/\ ∀ p,H p=none->Q (.ref p) (upd H p (.lst (zs++ls.flatten)))
def yHu:List D->Option (List (List D))
 | []=>some []
 | .lst _ r::l=>(yHu l).map (r:: ·)
 | _=>none
def sumD3:List D->Option SD
 | [.lst _ l,.lst _ z]=>(yHu l).bind fun ls=>if 0<l.length/\z.length+ls.flatten.length<=1000000 then some (.ow (.lst false (z++ls.flatten))) else none
 | ds=>sumD ds
section
variable {κ:Ctx}{T:Pd}{G H:Hp}
end
structure Gr where
 i:Nat
 p:Addr
 l:List D
 qs:List Addr
def Gr.ads (g:Gr):List Addr:=g.p::g.qs
def grI (gs:List Gr):List Nat:=gs.map Gr.i
def grA (gs:List Gr):List Addr:=gs.flatMap Gr.ads
structure GrOk (κ:Ctx)(T:Pd)(G N:Hp)(g:Gr):Prop where
 here:N g.p=some (.lst (g.qs.map V.ref))
 rows:RepL κ (plT T N) (plus G N) g.l (g.qs.map V.ref)
 own:g.l.all isLt=true
structure NG (κ:Ctx)(B:Bas)(G N:Hp)(gs:List Gr):Prop where
 free: ∀ a,N a≠none->B.H a=none
 gfree: ∀ a,N a≠none->G a=none
 bg: ∀ a,N a≠none->B.G a=none
 nt: ∀ a,N a≠none-> ¬ B.T a
 mu: ∀ a o,N a=some o->OwK o
 at_: ∀ g∈gs,GrOk κ B.T G N g
 nd:(grA gs).Nodup
 inN: ∀ a∈grA gs,N a≠none
def opG (B:Bas)(N:Hp)(gs:List Gr):Bas:=⟨plus B.H N,B.G,B.T,gs.map (fun g=>(g.i,g.p))++B.an⟩
def lnG (B:Bas)(N:Hp)(gs:List Gr):Bas:=⟨plus B.H N,plus B.G N,plT B.T N,gs.map (fun g=>(g.i,g.p))++B.an⟩
def lendS:SD->SD
 | .ow d=> .va d
 | x=>x
def yGm (ρ:List SD):List Nat->List SD
 | []=>ρ
 | v::vs=>(yGm ρ vs).set v (lendS (ρ.getD v .un))
structure QOk (κ:Ctx)(B:Bas)(gs:List Gr)(N:Hp)(ρ:List SD)(σ:L2.St)(H G:Hp):Prop where
 ng:NG κ B G N gs
 sl: ∀ g∈gs,ρ[g.i]? =some (.ow (.lst true g.l))
 ok:Ok κ (opG B N gs) (xBa ρ (grI gs)) σ H G
section
variable {κ:Ctx}{B:Bas}{ρ:List SD}{σ:L2.St}{H G:Hp}{N:Hp}{gs:List Gr}
theorem NG.mono (n:NG κ B G N gs)(s:Same G G2)(gf: ∀ a,N a≠none->G2 a=none):NG κ B G2 N gs:=
 ⟨n.free,gf,n.bg,n.nt,n.mu,fun g hg=>⟨(n.at_ g hg).here,RepL.mono (.of fun a o e=>by
  cases h:N a with
  | some u=>
   rw [xAg h] at e ⊢
   exact e
  | none=>
   rw [xAc h] at e ⊢
   exact s a o e) g.l (n.at_ g hg).rows,(n.at_ g hg).own⟩,n.nd,n.inN⟩
theorem xZ5 (o:Ok κ (opG B N gs) ρ σ H G)(mu: ∀ a u,N a=some u->OwK u)(h:N a=some u):H a=some u:=o.fr.keep a u (show plus B.H N a=some u from xAg h) (mu a u h).tbl
theorem xRv (h:g∈gs)(ha:a∈g.ads):a∈grA gs:=List.mem_flatMap.mpr ⟨g,h,ha⟩
theorem xW3 (h:g∈gs):(g.i,g.p)∈(opG B N gs).an:=List.mem_append_left _ (yLg.mpr ⟨g,h,rfl⟩)
variable {ρ1:List SD}{σ1:L2.St}{H1 G1:Hp}
end
def PstQ {α:Type}(κ:Ctx)(W:WX)(B:Bas)(I:List Nat)(σ:L2.St)(G:Hp)(r:Rs α)(k:α->List SD->List Gr->Hp->Hp->Hp->Prop):Prop:=match r with
 | .ok a ρ'=> ∀ gs N H' G',grI gs=I->QOk κ B gs N ρ' σ H' G'->Same G G'->k a ρ' gs N H' G'
 | .ex x ρ'=> ∀ cls d H' G',Ok κ B (xBa ρ' I) σ H' G'->Same G G'->RepX κ B.T H' G' x cls d->W cls d σ H'
 | .no=>False
def PstT (κ:Ctx)(W:WX)(B:Bas)(J:List Nat)(G:Hp)(r:Rs Fl)(D:Ends):Prop:=match r with
 | .ok .nx ρ'=> ∀ gs N σ' H' G',grI gs=J->QOk κ B gs N ρ' σ' H' G'->Same G G'->D.nx σ' H'
 | .ok (.rt r) ρ'=> ∀ v σ' H' G',Ok κ B ρ' σ' H' G'->Same G G'->RepR κ B ρ' σ' H' G' r v->D.rt v H'
 | .ok .bk _=>False
 | .ok .ct _=>False
 | .ex x ρ'=> ∀ cls d σ' H' G',Ok κ B ρ' σ' H' G'->Same G G'->RepX κ B.T H' G' x cls d->W cls d σ' H'
 | .no=>False
def tQ (κ:Ctx)(A:List Nat)(W:WX)(I J:List Nat)(s:S):TS:=fun D σ H=> ∃ B gs N ρ G,InA B A/\grI gs=I/\QOk κ B gs N ρ σ H G/\PstT κ W B J G (s ρ) D
def tTQ (κ:Ctx)(W:WX)(I:List Nat)(m:M Bool):TT:=fun σ H Q=> ∃ B gs N ρ G,grI gs=I/\QOk κ B gs N ρ σ H G/\PstQ κ W B I σ G (m ρ) fun b ρ' gs N H' G'=>Q b H'
def tIQ (κ:Ctx)(W:WX)(I:List Nat)(m:M (List D)):TI:=fun σ H R=> ∃ B gs N ρ G,grI gs=I/\QOk κ B gs N ρ σ H G/\PstQ κ W B I σ G (m ρ) fun l ρ' gs N H' G'=> ∀ J,ItD κ B.T G' J l->R J H'
theorem PstT.mono {D D':Ends}(h:PstT κ W B J G r D)(s:Same G G1)(hn: ∀ σ H,D.nx σ H->D'.nx σ H)(hr:D.rt=D'.rt):PstT κ W B J G1 r D':=by
 cases r with
 | ok f ρ'=>
  cases f with
  | nx=>exact fun gs N σ' H' G' i o e=>hn _ _ (h gs N σ' H' G' i o (s.trans e))
  | rt r=>exact fun v σ' H' G' o e q=>hr ▸ h v σ' H' G' o (s.trans e) q
  | bk=>exact h
  | ct=>exact h
 | ex x ρ'=>exact fun cls d σ' H' G' o e q=>h cls d σ' H' G' o (s.trans e) q
 | no=>exact h
theorem PstQ.mono {α:Type}{κ:Ctx}{W:WX}{B:Bas}{I:List Nat}{σ:L2.St}{G:Hp}{r:Rs α}{k k':α->List SD->List Gr->Hp->Hp->Hp->Prop}(h:PstQ κ W B I σ G r k)(f: ∀ a ρ' gs N H' G',grI gs=I->QOk κ B gs N ρ' σ H' G'->Same G G'->k a ρ' gs N H' G'->k' a ρ' gs N H' G'):PstQ κ W B I σ G r k':=by
 cases r with
 | ok a ρ'=>exact fun gs N H' G' i o s=>f _ _ _ _ _ _ i o s (h gs N H' G' i o s)
 | ex x ρ'=>exact h
 | no=>exact h
def mX {α:Type}(I:List Nat)(m:M α):M α:=fun ρ=>match m ρ with
 | .ex x ρ1=> .ex x (xBa ρ1 I)
 | r=>r
def qO {α:Type}(I:List Nat)(m:M α):M α:=fun ρ=>match m (xBa ρ I) with
 | .ok a ρ1=> .ok a (unw ρ ρ1 I)
 | .ex x ρ1=> .ex x (unw ρ ρ1 I)
 | .no=> .no
def qL {α:Type}(I:List Nat)(nb:α->Bool)(m:M α):M α:=fun ρ=>match m (yGm ρ I) with
 | .ok a ρ1=>if ((xBa ρ1 I).all SD.nbS&&nb a)=true then .ok a (unw ρ ρ1 I) else .no
 | .ex x ρ1=>if ((xBa ρ1 I).all SD.nbS&&nbF x.fs)=true then .ex x (unw ρ ρ1 I) else .no
 | .no=> .no
def fixQ (I:List Nat)(ρ ρ1:List SD):Fl->List SD
 | .nx=>unw ρ ρ1 I
 | _=>xBa ρ1 I
def qsO (I:List Nat)(s:S):S:=fun ρ=>match s (xBa ρ I) with
 | .ok f ρ1=> .ok f (fixQ I ρ ρ1 f)
 | .ex x ρ1=> .ex x (xBa ρ1 I)
 | .no=> .no
def qsL (I:List Nat)(s:S):S:=fun ρ=>match s (yGm ρ I) with
 | .ok f ρ1=>if ((xBa ρ1 I).all SD.nbS&&nbFl f)=true then .ok f (fixQ I ρ ρ1 f) else .no
 | .ex x ρ1=>if ((xBa ρ1 I).all SD.nbS&&nbF x.fs)=true then .ex x (xBa ρ1 I) else .no
 | .no=> .no
section
variable {κ:Ctx}{W:WX}{B:Bas}{I:List Nat}{ρ ρ1:List SD}{σ σ1:L2.St}{H H1 G G1:Hp}{N:Hp}{gs:List Gr}
end
section
variable {κ:Ctx}{X:Cx}{A:List Nat}{W:WX}{I J K:List Nat}{st:Stmt}{s t:S}{rest:List Stmt}{pos:Pos}
def qEnd (J:List Nat)(s:S):S:=fun ρ=>match s ρ with
 | .ok .nx ρ'=> .ok .nx (xBa ρ' J)
 | .ok .bk _=> .no
 | .ok .ct _=> .no
 | r=>r
end
theorem xZw:(grA gs).Nodup-> ∀ {g x:Gr} {a:Addr},g∈gs->x∈gs->a∈g.ads->a∈x.ads->g=x:=by
 induction gs with
 | nil=>intro _ g x a hg;cases hg
 | cons y gs ih=>
  intro nd g x a hg hx ha hb
  have nd':(y.ads++grA gs).Nodup:=nd
  obtain ⟨_,n2,n3⟩:=yMi.mp nd'
  rcases yLp.mp hg with z|z <;> rcases yLp.mp hx with w|w
  ·rw [z,w]
  ·subst z
   exact absurd rfl (n3 a ha a (xRv w hb))
  ·subst w
   exact absurd rfl (n3 a hb a (xRv z ha))
  ·exact ih n2 z w ha hb
section
variable {κ:Ctx}{T:Pd}{G N N2:Hp}
theorem xVp (h:isLt d=true):ownF d=true:=by
 obtain ⟨r,rfl,h2⟩:=xM5 h
 exact h2
theorem xNz (gf: ∀ a,N a≠none->G a=none)(gf2: ∀ a,N2 a≠none->G a=none)(mu: ∀ a o,N a=some o->OwK o)(ht: ∀ a,N a≠none-> ¬ T a): ∀ {l:List D} {qs:List Addr},l.all isLt=true->(∀ a∈qs,N2 a=N a/\N a≠none)->RepL κ (plT T N) (plus G N) l (qs.map V.ref)->RepL κ (plT T N2) (plus G N2) l (qs.map V.ref)
 | [],qs,_,_,r=>r
 | d::l,[],_,_,r=>by
  obtain ⟨v,ws,e,_⟩:=r
  cases e
 | d::l,q::qs,hf,hq,r=>by
  obtain ⟨v,ws,e,h1,h2⟩:=r
  cases e
  (rw [yMp,yLc] at hf)
  refine ⟨.ref q,_,rfl,Rep.moveF gf gf2 mu (by rw [xVp hf.1,Bool.or_true]) (fun a e _=> ?_) (fun a _ e t=> ?_) h1,xNz gf gf2 mu ht hf.2 (fun a ha=>hq a (yK7 _ ha)) h2⟩
  ·cases e
   exact (hq q (yK3 ..)).1
  ·cases e
   exact ht q (hq q (yK3 ..)).2 t
end
section
variable {κ:Ctx}{B:Bas}{ρ:List SD}{σ:L2.St}{H H2 G:Hp}{N N2:Hp}{gs gs2:List Gr}
theorem Ok.swapG (o:Ok κ (opG B N gs) ρ σ H G)(h1: ∀ a,N2 a≠none->B.H a=none/\G a=none)(h2: ∀ a u,N2 a=some u->H2 a=some u/\OwK u)(h3: ∀ a u,H a=some u->N2 a=none->H2 a=some u)(h4: ∀ (j:Nat) d q,ρ[j]? =some (SD.ow d)->σ[j]? =some (some (V.ref q))->N2 q=none)
  (h5: ∀ a,N a≠none->N2 a≠none) (h6:LamX.Tabs κ.tabs H2) (h7: ∀ g∈gs2,σ[g.i]? =some (some (V.ref g.p))):Ok κ (opG B N2 gs2) ρ σ H2 G:=by
 have bN: ∀ {a:Addr} {u:HO},B.H a=some u->N2 a=none:=fun {a u} e=>yK6 fun z=>by
  rw [(h1 a z).1] at e
  cases e
 have bO: ∀ {a:Addr} {u:HO},B.H a=some u->plus B.H N a=some u:=fun {a u} e=>by
  have n2:=bN e
  have n:N a=none:=yK6 fun z=>h5 a z n2
  rw [xAc n]
  exact e
 refine ⟨⟨fun a u e nt=> ?_,fun a ps e=> ?_,fun a e=> ?_,o.fr.sub,fun a u e=> ?_,o.fr.notb,h6,fun a e=> ?_⟩,o.len,o.val,fun j d e=> ?_,o.sep,fun i p h=> ?_⟩
 ·have e:plus B.H N2 a=some u:=e
  cases z:N2 a with
  | some w=>
   rw [xAg z] at e
   cases e
   exact (h2 a _ z).1
  | none=>
   rw [xAc z] at e
   exact h3 a u (o.fr.keep a u (bO e) nt) z
 ·have e:plus B.H N2 a=some (.tbl ps):=e
  cases z:N2 a with
  | some w=>
   rw [xAg z] at e
   cases e
   exact (h2 a _ z).2
  | none=>
   rw [xAc z] at e
   exact o.fr.nt a ps (bO e)
 ·have e:plus B.H N2 a≠none:=e
  show G a=B.G a
  cases z:N2 a with
  | some w=>
   have g:=(h1 a (by rw [z];exact fun y=>nomatch y)).2
   cases y:B.G a with
   | none=>exact g
   | some u=>
    have:=o.fr.sub a u y
    rw [g] at this
    cases this
  | none=>
   rw [xAc z] at e
   cases y:B.H a with
   | none=>exact absurd y e
   | some u=>exact o.fr.frz a (by show plus B.H N a≠none;rw [bO y];exact fun q=>nomatch q)
 ·refine h3 a u (o.fr.gh a u e) ?_
  exact yK6 fun z=>by
   rw [(h1 a z).2] at e
   cases e
 ·have y:plus B.H N a≠none:=o.fr.lent a e
  show plus B.H N2 a≠none
  cases z:N2 a with
  | some w=>
   rw [xAg z]
   exact fun q=>nomatch q
  | none=>
   have n:N a=none:=yK6 fun q=>h5 a q z
   rw [xAc n] at y
   rw [xAc z]
   exact y
 ·obtain ⟨q,q1,q2,q3,q4⟩:=o.own j d e
  have nq:=h4 j d q e q1
  have n:N q=none:=yK6 fun y=>h5 q y nq
  obtain ⟨u,u1,_⟩:=q4.obj
  refine ⟨q,q1,q2,?_,q4.mono (Same.refl _) ((h3 q u u1 nq).trans u1.symm)⟩
  have q3:plus B.H N q=none:=q3
  rw [xAc n] at q3
  show plus B.H N2 q=none
  rw [xAc nq]
  exact q3
 ·rcases (yMj.mp h) with h|h
  ·obtain ⟨g,hg,e⟩:=yLg.mp h
   cases e
   exact h7 g hg
  ·exact o.anch i p (List.mem_append_right _ h)
theorem yHd {j:Nat}(o:Ok κ (opG B N gs) ρ σ H G)(hj:ρ[j]? =some (SD.ow e))(hs:σ[j]? =some (some (V.ref q))):N q=none:=by
 obtain ⟨q',q1,_,q3,_⟩:=o.own j e hj
 rw [hs] at q1
 cases q1
 have q3:plus B.H N q=none:=q3
 cases z:N q with
 | none=>rfl
 | some w=>
  rw [xAg z] at q3
  cases q3
def grPut (i n:Nat)(d:D)(gs:List Gr):List Gr:=gs.map fun x=>if x.i=i then { x with l:=x.l.set n d } else x
theorem QOk.same (q:QOk κ B gs N ρ σ H G)(hg:g∈gs)(hx:x∈gs)(e:x.i=g.i):x=g:=by
 have a:=q.ok.anch g.i g.p (xW3 hg)
 have b:=q.ok.anch x.i x.p (xW3 hx)
 rw [e,a] at b
 have e2:g.p=x.p:=by
  have z:=yLh.inj (yLh.inj b)
  injection z
 exact xZw q.ng.nd hx hg (a:=x.p) (yK3 ..) (by rw [<- e2];exact yK3 ..)
end
def rowQ (i:Nat)(a:D):M Nat:=fun ρ=>match ρ[i]?,a with
 | some (.ow (.lst true l)),.int j=>match ixN l.length j with
  | some n=> .ok n ρ
  | none=> .no
 | _,_=> .no
def putQ (i n:Nat)(b v:D):S:=fun ρ=>match ρ[i]?,b with
 | some (.ow (.lst true l)),.int m=>match l[n]? with
  | some (.lst true r)=>match ixN r.length m with
   | some k=>if v.nb=true then .ok .nx (ρ.set i (.ow (.lst true (l.set n (.lst true (r.set k v)))))) else .no
   | none=> .no
  | _=> .no
 | _,_=> .no
def sPutQ (I:List Nat)(i:Nat)(ma mb me:M SD):S:=(mX I (qL I D.nb (fE me))).bind fun v=>(mX I (qL I D.nb (fE ma))).bind fun a=>(rowQ i a).bind fun n=>(mX I (qL I D.nb (fE mb))).bind fun b=>putQ i n b v
section
variable {κ:Ctx}{X:Cx}{A:List Nat}{W:WX}{I:List Nat}{i:Nat}{x:Str}{a b e:Expr}{ma mb me:M SD}{p0 p1 p2 pos:Pos}
def sLeave (I:List Nat)(i:Nat)(m:M SD):S:=(mX I (qL I SD.nbS m)).bind fun r=>fun ρ=> .ok .nx (ρ.set i r)
end
def goQ (I:List Nat)(g:D->List SD->Option (List SD)):D->List SD->Option (List SD):=fun d ρ=>(g d (xBa ρ I)).map fun ρ'=>unw ρ ρ' I
def forQ (g:D->List SD->Option (List SD))(b:S):List D->S
 | [],ρ=> .ok .nx ρ
 | d::l,ρ=>match g d ρ with
  | none=> .no
  | some ρ1=>match b ρ1 with
   | .ok .nx ρ2=>forQ g b l ρ2
   | .ok (.rt r) ρ2=> .ok (.rt r) ρ2
   | .ok _ _=> .no
   | .ex x ρ2=> .ex x ρ2
   | .no=> .no
def sForQ (m:M (List D))(g:D->List SD->Option (List SD))(b:S):S:=m.bind (forQ g b)
section
variable {κ:Ctx}{X:Cx}{A vs:List Nat}{W:WX}{I:List Nat}{e tg:Expr}{pos:Pos}
end
def lcN (vs:List Nat)(tg:D->List SD->Option (List SD))(te:M SD):List D->List D->M (List D)
 | [],acc,ρ=> .ok acc ρ
 | d::l,acc,ρ=>match tg d (xBa ρ vs) with
  | none=> .no
  | some ρ1=>match te ρ1 with
   | .ok (.ow (.lst _ r)) ρ2=>if acc.length<1000000/\nbL r=true then lcN vs tg te l (acc++[.lst true r]) (unw ρ ρ2 vs) else .no
   | _=> .no
def xDt (κ:Ctx)(T:Pd)(H G:Hp):List D->List Addr->Prop
 | [],qs=>qs=[]
 | d::l,qs=> ∃ q ws r us,qs=q::ws/\d= .lst true r/\nbL r=true/\H q=some (.lst us)/\RepL κ T G r us/\xDt κ T H G l ws
section
variable {κ:Ctx}{T:Pd}{H H' G G':Hp}
theorem xDt.length: ∀ {l:List D} {qs:List Addr},xDt κ T H G l qs->qs.length=l.length
 | [],qs,h=>by rw [show qs=[] from h] <;> rfl
 | d::l,qs,h=>by
  obtain ⟨q,ws,r,us,rfl,_,_,_,_,h⟩:=h
  rw [yK9,yK9,h.length]
theorem xDt.own: ∀ {l:List D} {qs:List Addr},xDt κ T H G l qs->l.all isLt=true
 | [],qs,h=>rfl
 | d::l,qs,h=>by
  obtain ⟨q,ws,r,us,_,rfl,n,_,_,h⟩:=h
  rw [yMp,h.own,Bool.and_true]
  exact n
theorem xDt.mono (s:Same G G'): ∀ {l:List D} {qs:List Addr},(∀ a∈qs,∀ u,H a=some u->H' a=some u)->xDt κ T H G l qs->xDt κ T H' G' l qs
 | [],qs,_,h=>h
 | d::l,qs,k,h=>by
  obtain ⟨q,ws,r,us,rfl,e,n,h1,h2,h⟩:=h
  exact ⟨q,ws,r,us,rfl,e,n,k q (yK3 ..) _ h1,RepL.mono (.of s) r h2,h.mono s fun a ha=>k a (yK7 _ ha)⟩
theorem xDt.rep (gf: ∀ a,N a≠none->G a=none): ∀ {l:List D} {qs:List Addr},(∀ a∈qs,∀ u,H a=some u->N a=some u)->xDt κ T H G l qs->RepL κ (plT T N) (plus G N) l (qs.map V.ref)
 | [],qs,_,h=>by
  rw [show qs=[] from h]
  rfl
 | d::l,qs,k,h=>by
  obtain ⟨q,ws,r,us,rfl,rfl,n,h1,h2,h⟩:=h
  have hq:=k q (yK3 ..) _ h1
  exact ⟨.ref q,_,rfl,⟨q,us,rfl,⟨xAg hq,⟨fun _=>rfl,fun _=> .inr (by rw [hq];exact fun z=>nomatch z)⟩⟩,RepL.mono (xF7 gf) r h2⟩,xDt.rep gf (fun a ha=>k a (yK7 _ ha)) h⟩
theorem xDt.at_: ∀ {l:List D} {qs:List Addr},xDt κ T H G l qs-> ∀ a∈qs,∃ us,H a=some (.lst us)
 | [],qs,h,a,ha=>by
  rw [show qs=[] from h] at ha
  cases ha
 | d::l,qs,h,a,ha=>by
  obtain ⟨q,ws,r,us,rfl,rfl,n,h1,h2,h⟩:=h
  rcases yLp.mp ha with z|z
  ·exact ⟨us,by rw [z];exact h1⟩
  ·exact h.at_ a z
end
structure Fresh (κ:Ctx)(B:Bas)(ρ:List SD)(σ:L2.St)(G:Hp)(a:Addr):Prop where
 g:G a=none
 b:B.H a=none
 na: ∀ (j:Nat) (d:D),ρ[j]? =some (SD.ow d)->σ[j]? ≠some (some (V.ref a))
structure LcN (κ:Ctx)(B:Bas)(σ:L2.St)(G0:Hp)(p:Addr)(acc:List D)(qs:List Addr)(ρ:List SD)(H G:Hp):Prop where
 ok:Ok κ B ρ σ H G
 sub:Same G0 G
 fr: ∀ a∈p::qs,Fresh κ B ρ σ G a
 nd:(p::qs).Nodup
 at_:H p=some (.lst (qs.map V.ref))
 rows:xDt κ B.T H G acc qs
def PstN (κ:Ctx)(W:WX)(B:Bas)(σ:L2.St)(G0:Hp)(r:Rs (List D))(k:List D->List SD->Addr->List Addr->Hp->Hp->Prop):Prop:=match r with
 | .ok l ρ'=> ∀ p qs H' G',LcN κ B σ G0 p l qs ρ' H' G'->k l ρ' p qs H' G'
 | .ex _ _=>False
 | .no=>False
section
variable {κ:Ctx}{W:WX}{B:Bas}{ρ ρ1:List SD}{σ:L2.St}{H H1 G G1 G0:Hp}{p:Addr}{vs:List Nat}{g:D->List SD->Option (List SD)}{te:M SD}{l acc:List D}{qs:List Addr}
theorem LcN.obj (I:LcN κ B σ G0 p acc qs ρ H G)(ha:a∈p::qs): ∃ us,H a=some (.lst us):=by
 rcases yLp.mp ha with z|z
 ·exact ⟨_,by rw [z];exact I.at_⟩
 ·exact I.rows.at_ a z
end
def newN (H1 N:Hp)(as:List Addr):Hp:=fun a=>if a∈as then H1 a else N a
theorem yE5 (h:a∈as):newN H1 N as a=H1 a:=if_pos h
theorem yBj (h:a∉as):newN H1 N as a=N a:=if_neg h
def sEnter (I:List Nat)(i:Nat)(it:M (List D))(vs:List Nat)(g:D->List SD->Option (List SD))(te:M SD):S:=fun ρ=>match it (xBa ρ I) with
 | .ok l ρ0=>match lcN vs g te l [] ρ0 with
  | .ok rows ρ1=>if i<ρ1.length then .ok .nx ((unw ρ ρ1 I).set i (.ow (.lst true rows))) else .no
  | _=> .no
 | .ex x ρ0=> .ex x (xBa ρ0 I)
 | .no=> .no
section
variable {κ:Ctx}{B:Bas}{ρ ρ1:List SD}{σ:L2.St}{H H1 G G0 G1:Hp}{N:Hp}{gs:List Gr}{i:Nat}
end
section
variable {κ:Ctx}{X:Cx}{A:List Nat}{W:WX}{I:List Nat}{iter elt tg:Expr}{scope:Scope}{own:List (Str×Nat)}{pos:Pos}{it:M (List D)}{g:D->List SD->Option (List SD)}{te:M SD}
end
section
variable {α:Type}{ρ:List SD}{E:Exn->List SD->Prop}{I J:List Nat}{i:Nat}{p:α->List SD->Prop}{s:Fl->List SD->Prop}{q:SD->List SD->Prop}{t:Bool->List SD->Prop}
variable {pl:List D->List SD->Prop}
end
section
variable {κ:Ctx}{B:Bas}{ρ ρ1:List SD}{σ:L2.St}{H H1 G G0 G1:Hp}{N:Hp}{gs ks:List Gr}{i:Nat}
theorem NG.add (n:NG κ B G N ks)(o:Ok κ (opG B N gs) ρ σ H G)(s0:Same G G0)(c:LcN κ (opG B N gs) σ G0 p l qs ρ1 H1 G1)(i:Nat):
  NG κ B G1 (newN H1 N (p::qs)) (⟨i,p,l,qs⟩::ks)/\Ok κ (opG B (newN H1 N (p::qs)) gs) ρ1 σ H1 G1:=by
 have frN: ∀ a∈p::qs,N a=none/\B.H a=none:=fun a ha=>by
  have h:plus B.H N a=none:=(c.fr a ha).b
  cases z:N a with
  | some w=>
   rw [xAg z] at h
   cases h
  | none=>
   rw [xAc z] at h
   exact ⟨rfl,h⟩
 have hin: ∀ {a:Addr},a∈p::qs->(newN H1 N (p::qs)) a=H1 a:=fun ha=>yE5 ha
 have hout: ∀ {a:Addr},a∉p::qs->(newN H1 N (p::qs)) a=N a:=fun ha=>yBj ha
 have keepN: ∀ {a:Addr} {u:HO},N a=some u->(newN H1 N (p::qs)) a=some u:=fun {a u} h=>by
  rw [hout fun z=>by rw [(frN a z).1] at h;cases h]
  exact h
 have obj: ∀ a∈p::qs,∃ us,H1 a=some (.lst us):=fun a ha=>c.obj ha
 have gl: ∀ a,N a≠none->G1 a=none:=fun a h=>by
  have h1:plus B.H N a≠none:=by
   cases e:N a with
   | none=>exact absurd e h
   | some u=>
    rw [xAg e]
    exact fun z=>nomatch z
  have e1:=o.fr.frz a h1
  have e2:=c.ok.fr.frz a h1
  rw [n.gfree a h] at e1
  rw [e2,<- e1]
 have sG:Same G G1:=s0.trans c.sub
 have split: ∀ {a:Addr},(newN H1 N (p::qs)) a≠none->a∈p::qs\/(a∉p::qs/\N a≠none):=fun {a} h=>by
  by_cases z:a∈p::qs
  ·exact .inl z
  ·exact .inr ⟨z,by rw [<- hout z];exact h⟩
 have gf2: ∀ a,(newN H1 N (p::qs)) a≠none->G1 a=none:=fun a h=>(split h).elim (fun z=>(c.fr a z).g) fun z=>gl a z.2
 have mu2: ∀ a w,(newN H1 N (p::qs)) a=some w->OwK w:=fun a w h=>by
  by_cases z:a∈p::qs
  ·rw [hin z] at h
   obtain ⟨us,hu⟩:=obj a z
   rw [hu] at h
   cases h
   exact True.intro
  ·rw [hout z] at h
   exact n.mu a w h
 have free2: ∀ a,(newN H1 N (p::qs)) a≠none->B.H a=none:=fun a h=>(split h).elim (fun z=>(frN a z).2) fun z=>n.free a z.2
 have tf: ∀ a∈p::qs,¬ B.T a:=fun a ha t=>c.ok.fr.lent a t (c.fr a ha).b
 have bgf: ∀ a∈p::qs,B.G a=none:=fun a ha=>by
  cases z:B.G a with
  | none=>rfl
  | some u=>
   have:=c.ok.fr.sub a u z
   rw [(c.fr a ha).g] at this
   cases this
 have nA: ∀ a∈grA ks,a∉p::qs:=fun a ha z=>n.inN a ha (frN a z).1
 refine ⟨⟨free2,gf2,fun a h=>(split h).elim (fun z=>bgf a z) fun z=>n.bg a z.2,fun a h=>(split h).elim (fun z=>tf a z) fun z=>n.nt a z.2,mu2,fun g hg=> ?_,?_,fun a ha=> ?_⟩,?_⟩
 ·rcases yLp.mp hg with z|z
  ·subst z
   exact ⟨by rw [hin (yK3 ..)];exact c.at_,xDt.rep gf2 (fun a ha u hu=>by rw [hin (yK7 _ ha)];exact hu) c.rows,c.rows.own⟩
  ·have ga:=n.at_ g z
   refine ⟨keepN ga.here,xNz (N:=N) gl gf2 n.mu n.nt ga.own (fun a ha=> ?_) (RepL.mono (Mono.of ?_) g.l ga.rows),ga.own⟩
   ·have:=xRv z (yK7 g.p ha)
    exact ⟨hout (nA a this),n.inN a this⟩
   ·intro a u h
    cases z:N a with
    | some w=>
     rw [xAg z] at h ⊢
     exact h
    | none=>
     rw [xAc z] at h ⊢
     exact sG a u h
 ·show ((p::qs)++grA ks).Nodup
  exact yMi.mpr ⟨c.nd,n.nd,fun a ha b hb z=>nA b hb (by rw [<- z];exact ha)⟩
 ·have ha:a∈(p::qs)++grA ks:=ha
  rcases yMj.mp ha with z|z
  ·rw [hin z]
   obtain ⟨us,hu⟩:=obj a z
   rw [hu]
   exact fun y=>nomatch y
  ·rw [hout (nA a z)]
   exact n.inN a z
 ·refine c.ok.swapG (gs2:=gs) (fun a h=>⟨free2 a h,gf2 a h⟩) (fun a w h=>⟨?_,mu2 a w h⟩) (fun a w h _=>h) (fun j e q' hj hs=> ?_) (fun a h=> ?_) c.ok.fr.tabs (fun g hg=> ?_)
  ·by_cases z:a∈p::qs
   ·rw [hin z] at h
    exact h
   ·rw [hout z] at h
    exact xZ5 c.ok n.mu h
  ·have n1:=yHd c.ok hj hs
   have n2:q'∉p::qs:=fun z=>(c.fr q' z).na j e hj hs
   rw [hout n2]
   exact n1
  ·by_cases z:a∈p::qs
   ·exact absurd (frN a z).1 h
   ·rw [hout z]
    exact h
  ·exact c.ok.anch g.i g.p (xW3 hg)
end
def sEnter2 (I:List Nat)(i j:Nat)(it:M (List D))(vs:List Nat)(g:D->List SD->Option (List SD))(te:M SD)(it2:M (List D))(vs2:List Nat)(g2:D->List SD->Option (List SD))(te2:M SD):S:=fun ρ=>match it (xBa ρ I) with
 | .ok l ρ0=>match lcN vs g te l [] ρ0 with
  | .ok rows ρ1=>match it2 ρ1 with
   | .ok l2 ρ2=>match lcN vs2 g2 te2 l2 [] ρ2 with
    | .ok rows2 ρ3=>if i<ρ3.length/\j<ρ3.length then .ok .nx (((unw ρ ρ3 I).set i (.ow (.lst true rows))).set j (.ow (.lst true rows2))) else .no
    | _=> .no
   | .ex x ρ2=> .ex x (xBa ρ2 I)
   | .no=> .no
  | _=> .no
 | .ex x ρ0=> .ex x (xBa ρ0 I)
 | .no=> .no
section
variable {κ:Ctx}{X:Cx}{A:List Nat}{W:WX}{I:List Nat}{iter elt tg iter2 elt2 tg2:Expr}{scope scope2:Scope}{own own2:List (Str×Nat)}{cp cp2:Pos}{it it2:M (List D)}{g g2:D->List SD->Option (List SD)}{te te2:M SD}
end
section
variable {ρ:List SD}{E:Exn->List SD->Prop}{I:List Nat}{i j:Nat}{s:Fl->List SD->Prop}
end
def NvR (X:Cx)(H:Hp)(x y:V)(p a:Addr)(ks:List (NestedKey×Addr))(ss:List Str)(k:NestedKey):Prop:=
 y= .ref p/\x= .ref a/\H p=some (.ext (NvO X.w p ks ss))/\ ∀ (pins:List (Addr×Obj)) (σ:L2.St) (s:Shared),Inv X pins σ H s->(nestedKind X.prog X.w).is s.heap k a/\ ∀ z∈ks,(nestedKind X.prog X.w).is s.heap z.1 z.2
section
variable {X:Cx}{κ:Ctx}{W:WX}
abbrev rNvN (X:Cx):R2:=fun x y H Q=> ∃ p a ks ss k,NvR X H x y p a ks ss k/\Q (.bl (!(ks.any fun z=>decide (z.1=k)))) H
def ninvD:D->D->Option SD
 | d,.nv _ l _=>if kyB d then some (.va (.bl (!l.any fun e=>peq e d))) else none
 | _,_=>none
def nvV:List (NestedKey×Addr)->List Str->NestedKey->Option V
 | z::ks,s::ss,k=>if z.1=k then some (.str s) else nvV ks ss k
 | _,_,_=>none
def tNvG (X:Cx)(td ty tx:TE):TE:=fun σ H Q=>td σ H fun x H1=> ∃ p ks ss,x= .ref p/\H1 p=some (.ext (NvO X.w p ks ss))/\ty σ H1 fun y H2=>tx σ H2 fun z H3=> ∃ a k,NvR X H3 y x p a ks ss k/\Q ((nvV ks ss k).getD z) H3
def nvG:List D->List Str->D->Option Str
 | d::l,s::ss,k=>if peq d k then some s else nvG l ss k
 | _,_,_=>none
def isNvA:D->Bool
 | .nv _ _ _=>true
 | _=>false
def getNv (d k:D):Option SD:=match d with
 | .nv _ l ss=>if kyB k then some (.va (((nvG l ss k).map D.str).getD .non)) else none
 | _=>none
def mGetNv (ma mk:M SD):M SD:=(fE ma).bind fun d=>if isNvA d then (fE mk).bind fun k=>M.opt (getNv d k) else M.no
end
def tNv0 (X:Cx):TE:=fun σ H Q=> ∀ p,H p=none->((∃ h,NvO X.w p [] [] h)->Q (.ref p) (upd H p (.ext (NvO X.w p [] []))))
def oSetE (i:Nat)(c0:String)(f:Str):S:=fun ρ=>match ρ[i]? with
 | some (.ow (.ins b c l))=>if c=c0/\l.length<1000 then .ok .nx (ρ.set i (.ow (.ins b c (xCk f (.nv true [] []) l)))) else .no
 | _=> .no
section
variable {κ:Ctx}{X:Cx}{A:List Nat}{W:WX}{i:Nat}{x:Str}{e:Expr}{f:Str}{m:M SD}{c0:String}{p1 p2 p3 pos:Pos}
end
abbrev rNvP (X:Cx):TSet:=fun y x v H Q=> ∃ p a ks ss k s,NvR X H x y p a ks ss k/\v= .str s/\ks.length<sizeLine/\(ks.any fun z=>decide (z.1=k))=false/\((∃ h,NvO X.w p (ks++[(k,a)]) (ss++[s]) h)->Q (upd H p (.ext (NvO X.w p (ks++[(k,a)]) (ss++[s])))))
def isNv:D->Bool
 | .nv true l _=>nbL l
 | _=>false
def putNS (i:Nat)(f:Str)(d k:D):S:=fun ρ=>match ρ[i]? with
 | some (.ow (.ins b c l))=>match l.lookup f,d with
  | some (.nv true m ss),.str s=>if kyB k&&decide (m.length<1000000)&&(nbL m&&k.nb)&& !(m.any fun e=>peq e k) then .ok .nx (ρ.set i (.ow (.ins b c (xCk f (.nv true (m++[k]) (ss++[s])) l)))) else .no
  | _,_=> .no
 | _=> .no
def oPutN (i:Nat)(c0:String)(f:Str)(mk me:M SD):S:=(fO me).bind fun d=>xHg i c0 f isNv ((xBk i (fE mk)).bind fun k=>putNS i f d k)
section
variable {κ:Ctx}{X:Cx}{A:List Nat}{W:WX}{i:Nat}{x:Str}{e:Expr}{f:Str}{c0:String}{p1 p2 pos:Pos}
end
section
variable {ρ:List SD}{E:Exn->List SD->Prop}{p:SD->List SD->Prop}{s:Fl->List SD->Prop}{i:Nat}{c0:String}{f:Str}
end
def minLD:List D->Option SD
 | [.lst _ l]=>match yBr l with
  | some (x::ns)=>some (.va (.int (ns.foldl min x)))
  | _=>none
 | _=>none
section
variable {κ:Ctx}
end
section
variable {X:Cx}{κ:Ctx}{A:List Nat}{W:WX}{iter elt tg iter1 tg1:Expr}{scope:Scope}{own:List (Str×Nat)}{vs1:List Nat}{pos:Pos}{it it1:M (List D)}{g g1:D->List SD->Option (List SD)}{te:M SD}
end
def sAug1 (i:Nat)(g:Int->Int):S:=fun ρ=>match ρ[i]? with
 | some (.va (.int v))=> .ok .nx (ρ.set i (.va (.int (g v))))
 | _=> .no
section
variable {X:Cx}{κ:Ctx}{W:WX}{A:List Nat}
end
def spI3 (K:PySem.W.Frag)(f z g k:Str):Sp:=fun vs H Q E=> ∃ (a C:Addr) (y u:V),vs=[.ref a,y,u]/\OexC K C/\(PySem.W.findIn K (.ref C) f=some none/\PySem.W.findIn K (.ref C) g=some none/\PySem.W.findIn K (.ref C) k=some none)/\H a=some (exo a C none)/\
 ∀ dx,H dx=none->dx≠a->Q .non (upd (upd (upd (upd H dx (exd dx [(f,.str z)])) a (exo a C (some dx))) dx (exd dx [(g,y),(f,.str z)])) dx (exd dx [(k,u),(g,y),(f,.str z)]))
structure ExC3 (P:Program)(w:World)(K:PySem.W.Frag)(mg:Str->Option Value)(base:Heap)(κ:Ctx)(x:Str)(c:String)(f z g k n n2:Str)(fI:Addr)(fd:FuncData):Prop where
 T:OexC K (κ.cl c)
 no:PySem.W.findIn K (.ref (κ.cl c)) f=some none/\PySem.W.findIn K (.ref (κ.cl c)) g=some none/\PySem.W.findIn K (.ref (κ.cl c)) k=some none
 iC:PySem.W.findIn K (.ref (κ.cl c)) "__init__"=some (some (.ref fI))
 tI:PySem.W.typeIn K (.ref fI)=some (.type "function")
 ok:FnOk P w K mg base (L2.CX P w) 1 fI fd ["self",n,n2] (spI3 K f z g k)
 bd:Binds K fd ["self",n,n2] []
 gl:mg x=some (.ref (κ.cl c))
def sEx2 (c:String)(f z g k:Str)(m m2:M SD):S:=(fE m).bind fun d=>(fE m2).bind fun d2=>sEx ⟨c,[(k,d2),(g,d),(f,.str z)]⟩
section
variable {X:Cx}{κ:Ctx}{A:List Nat}{W:WX}{x:Str}{c:String}{f z g k n n2:Str}{fI:Addr}{fd:FuncData}{e e2:Expr}{m m2:M SD}{p p2 pos:Pos}
end
def ltSD:D->D->Option SD
 | .str i,.str j=>some (.va (.bl (decide (i.cps.toList<j.cps.toList))))
 | _,_=>none
inductive MR where
 | ok (d:D) (l:List (Str×D))|ex (x:Exn) (l:List (Str×D))|no
abbrev MF:=List (Str×D)->List D->MR
def basM (G H:Hp)(T:Pd)(N:Hp)(x:Addr)(i:Nat):Bas:=⟨fun a=>match N a with
 | some _=>none
 | none=>noT H a,G,T,[(i,x)]⟩
structure PreM (κ:Ctx)(T:Pd)(G H:Hp)(x:Addr)(N:Hp)(c:String)(l:List (Str×D))(dx:Addr)(fs:List (Str×V)):Prop where
 ok:NOk κ (basM G H T N x 0) G x N c l dx fs
 inH: ∀ a u,N a=some u->H a=some u
 gh:Same G H
 notb: ∀ a ps,G a≠some (.tbl ps)
 tabs:LamX.Tabs κ.tabs H
 lent: ∀ a,T a->noT H a≠none
structure AftM (κ:Ctx)(G H N H' G' N':Hp):Prop where
 keep: ∀ a o,H a=some o->N a=none->(∀ ps,o≠ .tbl ps)->H' a=some o
 frz: ∀ a,noT H a≠none->N a=none->G' a=G a
 sub:Same G G'
 gh:Same G' H'
 notb: ∀ a ps,G' a≠some (.tbl ps)
 tabs:LamX.Tabs κ.tabs H'
 inH: ∀ a u,N' a=some u->H' a=some u
def spM (κ:Ctx)(c:String)(n:Nat)(f:MF):Sp:=fun vs H Q E=> ∃ x ws T G N l dx fs as,vs= .ref x::ws/\as.length=n/\RepL κ T G as ws/\PreM κ T G H x N c l dx fs/\match f l as with
 | .ok d l'=> ∀ v H' G' N' dx' fs',AftM κ G H N H' G' N'->NOk κ (basM G H T N x 0) G' x N' c l' dx' fs'->Rep κ T G' d v->Q v H'
 | .ex y l'=> ∀ cls dd H' G' N' dx' fs',AftM κ G H N H' G' N'->NOk κ (basM G H T N x 0) G' x N' c l' dx' fs'->RepX κ T H' G' y cls dd->E cls dd H'
 | .no=>False
def endM (c:String)(ρ':List SD)(k:List (Str×D)->MR):MR:=match ρ'[0]? with
 | some (SD.ow (D.ins _ c' l))=>if c'=c then k l else .no
 | _=> .no
def runM (c:String)(N:Nat)(s:S):MF:=fun l as=>match s (.ow (.ins false c l)::(as.map SD.va++yLi (N-1-as.length) SD.un)) with
 | .ok .nx ρ'=>endM c ρ' fun l'=> .ok .non l'
 | .ok (.rt (.va d)) ρ'=>endM c ρ' fun l'=> .ok d l'
 | .ex x ρ'=>endM c ρ' fun l'=> .ex x l'
 | _=> .no
section
variable {κ:Ctx}{T:Pd}{G H N:Hp}{x dx:Addr}{c:String}{l:List (Str×D)}{fs:List (Str×V)}{i:Nat}
theorem xY8 {a:Addr}(h:N a≠none):(basM G H T N x i).H a=none:=by
 show (match N a with
  | some _=>none
  | none=>noT H a)=none
 cases e:N a with
 | none=>exact absurd e h
 | some u=>rfl
theorem xDz {a:Addr}(h:N a=none):(basM G H T N x i).H a=noT H a:=by
 show (match N a with
  | some _=>none
  | none=>noT H a)=noT H a
 rw [h]
theorem NOk.bas {B B':Bas}{p:Addr}(n:NOk κ B G p N c l dx fs)(h1: ∀ a,N a≠none->B'.H a=none)(h2: ∀ a,N a≠none->B'.G a=none)(h3:B'.T=B.T):NOk κ B' G p N c l dx fs:=
 ⟨h1,n.gfree,h2,by rw [h3];exact n.nt,n.mu,n.here,by rw [h3];exact n.fld,n.okF,n.nd,n.inN⟩
theorem frM (inH: ∀ a u,N a=some u->H a=some u)(mu: ∀ a u,N a=some u->OwK u)(gh:Same G H)(nb: ∀ a ps,G a≠some (.tbl ps))(tb:LamX.Tabs κ.tabs H)(tl: ∀ a,T a->noT H a≠none):Frame κ (opB (basM G H T N x i) i x N) H G:=by
 refine ⟨fun a o e n=> ?_,fun a ps e=> ?_,fun a e=>rfl,Same.refl G,gh,nb,tb,fun a e=> ?_⟩
 ·have e:plus (basM G H T N x i).H N a=some o:=e
  cases z:N a with
  | some w=>
   rw [xAg z] at e
   cases e
   exact inH a _ z
  | none=>
   rw [xAc z,xDz z] at e
   exact (xHb e).1
 ·have e:plus (basM G H T N x i).H N a=some (.tbl ps):=e
  cases z:N a with
  | some w=>
   rw [xAg z] at e
   cases e
   exact mu a _ z
  | none=>
   rw [xAc z,xDz z] at e
   exact xQ7 e
 ·show plus (basM G H T N x i).H N a≠none
  cases z:N a with
  | some w=>
   rw [xAg z]
   exact fun y=>nomatch y
  | none=>
   rw [xAc z,xDz z]
   exact tl a e
theorem yEu {as:List D}{ws:List V}{Ns:List Str}(hn:as.length+1<=Ns.length)(r:RepL κ T G as ws)(P:PreM κ T G H x N c l dx fs):
  OOkP κ (basM G H T N x 0) 0 x N (.ow (.ins false c l)::(as.map SD.va++yLi (Ns.length-1-as.length) SD.un)) (L2.start Ns (.ref x::ws)) H G:=by
 have lw:=r.length
 have sl0:(L2.start Ns (.ref x::ws))[0]? =some (some (V.ref x)):=by
  unfold L2.start
  rw [yLk (by simp)]
  rfl
 have at_: ∀ {i:Nat} {y:SD},((.ow (.ins false c l)::(as.map SD.va++yLi (Ns.length-1-as.length) SD.un):List SD).set 0 .un)[i]? =some y->y≠ .un-> ∃ j d,i=j+1/\as[j]? =some d/\y= .va d:=fun {i y} e ny=>by
  cases i with
  | zero=>
   rw [yM6] at e
   exact absurd (yLh.inj e).symm ny
  | succ j=>
   rw [yM6,yMh] at e
   by_cases hj:j<as.length
   ·rw [yLk (by rw [yK2];exact hj),yLe,yLb hj] at e
    exact ⟨j,as[j],rfl,yLb hj,(yLh.inj e).symm⟩
   ·rw [yL2 (by rw [yK2];omega),yM3] at e
    split at e
    ·exact absurd (yLh.inj e).symm ny
    ·cases e
 refine ⟨false,c,l,dx,fs,P.ok,rfl,frM P.inH P.ok.mu P.gh P.notb P.tabs P.lent,?_,fun i d e=> ?_,fun i d e=> ?_,fun i j q d e hij h1 h2 h3 h4=> ?_,fun i q hq=> ?_⟩
 ·unfold L2.start
  simp only [yLn,yK2,yL6,yK9,yLm]
  omega
 ·obtain ⟨j,d',rfl,e1,e2⟩:=at_ e (by simp)
  cases e2
  obtain ⟨v,h1,h2⟩:=r.get e1
  refine ⟨v,?_,h2⟩
  have hj:=(yK5.mp h1).1
  unfold L2.start
  rw [yLk (by simp;exact hj)]
  simp [h1]
 ·obtain ⟨j,d',rfl,e1,e2⟩:=at_ e (by simp)
  cases e2
 ·obtain ⟨j,d',rfl,e1,e2⟩:=at_ h1 (by simp)
  cases e2
 ·have hq:(i,q)∈[(0,x),(0,x)]:=hq
  have hq:(i,q)=(0,x):=by
   rcases inC hq with z|z
   ·exact z
   ·exact yLl.mp z
  cases hq
  exact sl0
theorem xM9 {p:Addr}{M H' G':Hp}{ρ':List SD}{σ':L2.St}(o:OOkP κ (basM G H T N x i) i p M ρ' σ' H' G')(s:Same G G'):p=x/\AftM κ G H N H' G' M/\ ∃ b c l dx fs,ρ'[i]? =some (.ow (.ins b c l))/\NOk κ (basM G H T N x i) G' x M c l dx fs:=by
 obtain ⟨b,c,l,dx,vs,n,e,ok⟩:=o
 have px:p=x:=by
  have h1:=ok.anch i p (yK3 ..)
  have h2:=ok.anch i x (yK7 _ (yK3 ..))
  rw [h1] at h2
  cases h2
  rfl
 subst px
 have bH: ∀ {a:Addr},noT H a≠none->N a=none->M a=none/\plus (basM G H T N p i).H M a=noT H a:=fun {a} h na=>by
  have e1:(basM G H T N p i).H a=noT H a:=xDz na
  have m:M a=none:=yK6 fun z=>by
   have:=n.free a z
   rw [e1] at this
   exact h this
  exact ⟨m,by rw [xAc m,e1]⟩
 refine ⟨rfl,⟨fun a o h na nt=> ?_,fun a h na=> ?_,s,ok.fr.gh,ok.fr.notb,ok.fr.tabs,fun a u h=>xBy ok n.mu h⟩,b,c,l,dx,vs,e,n⟩
 ·have h1:=xCj h nt
  obtain ⟨m,e1⟩:=bH (a:=a) (by rw [h1];exact fun z=>nomatch z) na
  exact ok.fr.keep a o (e1.trans h1) nt
 ·obtain ⟨m,e1⟩:=bH h na
  exact ok.fr.frz a (by show plus (basM G H T N p i).H M a≠none;rw [e1];exact h)
theorem yIz {B:Bas}{ρ:List SD}{σ:L2.St}{p:Addr}(o:Ok κ (opB B i p N) ρ σ H G)(n:NOk κ B G p N c l dx fs):PreM κ B.T G H p N c l dx fs:=by
 refine ⟨n.bas (fun a h=>xY8 h) n.gfree rfl,fun a u h=>xBy o n.mu h,o.fr.gh,o.fr.notb,o.fr.tabs,fun a h=> ?_⟩
 obtain ⟨u,_,nt,e⟩:=o.fr.obj (o.fr.lent a h)
 rw [xCj e nt]
 exact fun z=>nomatch z
theorem stat {B:Bas}{ρ:List SD}{σ:L2.St}{p:Addr}{c':String}{l':List (Str×D)}{dx':Addr}{fs':List (Str×V)}{H' G' N':Hp}(o:Ok κ (opB B i p N) ρ σ H G)(n:NOk κ B G p N c l dx fs)(a:AftM κ G H N H' G' N'){j:Nat}(n2:NOk κ (basM G H B.T N p j) G' p N' c' l' dx' fs'):
  NOk κ B G' p N' c' l' dx' fs'/\Ok κ (opB B i p N') ρ σ H' G':=by
 have bN: ∀ {b:Addr},B.H b≠none->N b=none/\noT H b≠none:=fun {b} h=>by
  have nb:N b=none:=yK6 fun z=>h (n.free b z)
  refine ⟨nb,?_⟩
  obtain ⟨u,_,nt,e⟩:=o.fr.obj (a:=b) (show plus B.H N b≠none by rw [xAc nb];exact h)
  rw [xCj e nt]
  exact fun z=>nomatch z
 have fr2: ∀ b,N' b≠none->B.H b=none:=fun b h=>yK6 fun z=>by
  obtain ⟨h1,h2⟩:=bN z
  have:=n2.free b h
  rw [xDz h1] at this
  exact h2 this
 have bg2: ∀ b,N' b≠none->B.G b=none:=fun b h=>by
  have g:G b=none:=n2.bg b h
  cases y:B.G b with
  | none=>rfl
  | some u=>
   rw [o.fr.sub b u y] at g
   cases g
 have n3:NOk κ B G' p N' c' l' dx' fs':=n2.bas fr2 bg2 rfl
 refine ⟨n3,⟨fun b u e nt=> ?_,fun b ps e=> ?_,fun b e=> ?_,o.fr.sub.trans a.sub,a.gh,a.notb,a.tabs,fun b e=> ?_⟩,o.len,fun j d e=> ?_,fun j d e=> ?_,o.sep,o.anch⟩
 ·have e:plus B.H N' b=some u:=e
  cases z:N' b with
  | some w=>
   rw [xAg z] at e
   cases e
   exact a.inH b _ z
  | none=>
   rw [xAc z] at e
   obtain ⟨h1,h2⟩:=bN (b:=b) (by rw [e];exact fun z=>nomatch z)
   exact a.keep b u (o.fr.keep b u (show plus B.H N b=some u by rw [xAc h1];exact e) nt) h1 nt
 ·have e:plus B.H N' b=some (.tbl ps):=e
  cases z:N' b with
  | some w=>
   rw [xAg z] at e
   cases e
   exact n2.mu b _ z
  | none=>
   rw [xAc z] at e
   obtain ⟨h1,h2⟩:=bN (b:=b) (by rw [e];exact fun z=>nomatch z)
   exact o.fr.nt b ps (show plus B.H N b=some (.tbl ps) by rw [xAc h1];exact e)
 ·have e:plus B.H N' b≠none:=e
  show G' b=B.G b
  cases z:N' b with
  | some w=>
   have h:N' b≠none:=by rw [z];exact fun y=>nomatch y
   rw [n2.gfree b h,bg2 b h]
  | none=>
   rw [xAc z] at e
   obtain ⟨h1,h2⟩:=bN e
   exact (a.frz b h2 h1).trans (o.fr.frz b (show plus B.H N b≠none by rw [xAc h1];exact e))
 ·show plus B.H N' b≠none
  have y:plus B.H N b≠none:=o.fr.lent b e
  have nb:N b=none:=yK6 fun z=>n.nt b z e
  rw [xAc nb] at y
  cases z:N' b with
  | some w=>
   rw [xAg z]
   exact fun q=>nomatch q
  | none=>
   rw [xAc z]
   exact y
 ·obtain ⟨v,h1,h2⟩:=o.val j d e
  exact ⟨v,h1,Rep.mono (.of a.sub) d h2⟩
 ·obtain ⟨q,q1,q2,q3,q4⟩:=o.own j d e
  obtain ⟨u,u1,u2,_⟩:=q4.obj
  have q3:plus B.H N q=none:=q3
  have nq:N q=none:=by
   cases z:N q with
   | none=>rfl
   | some w=>
    rw [xAg z] at q3
    cases q3
  have hq:noT H q≠none:=by
   rw [xCj u1 u2]
   exact fun z=>nomatch z
  have nq':N' q=none:=yK6 fun z=>by
   have:=n2.free q z
   rw [xDz nq] at this
   exact hq this
  rw [xAc nq] at q3
  exact ⟨q,q1,(a.frz q hq nq).trans q2,by show plus B.H N' q=none;rw [xAc nq'];exact q3,q4.mono a.sub ((a.keep q u u1 nq u2).trans u1.symm)⟩
end
structure MethM (P:Program)(w:World)(K:PySem.W.Frag)(mg:Str->Option Value)(base:Heap)(κ:Ctx)(c:String)(m:Str)(k:Nat)(ps:List Str)(n:Nat)(fn:MF)(f:Addr)(fd:FuncData):Prop where
 ok:FnOk P w K mg base (L2.CX P w) k f fd ps (spM κ c n fn)
 cls:Cls K (κ.cl c)
 at_:Meth K (κ.cl c) m f
structure InitM (P:Program)(w:World)(K:PySem.W.Frag)(mg:Str->Option Value)(base:Heap)(κ:Ctx)(c:String)(x:Str)(k n:Nat)(ps:List Str)(fn:MF)(f:Addr)(fd:FuncData):Prop where
 ok:FnOk P w K mg base (L2.CX P w) k f fd ps (spM κ c n fn)
 gl:mg x=some (.ref (κ.cl c))
 mak:Mk K (κ.cl c) f
section
variable {P:Program}{w:World}{K:PySem.W.Frag}{f:Addr}{fd:FuncData}{mg:Str->Option Value}{base:Heap}{x qual:Str}{params:Arguments}{body:List Stmt}{scope:Scope}{dvs:List V}{kws:List (Str×V)}
theorem xTp {κ:Ctx}{N ps:List Str}{k n:Nat}{s:S}{c:String}(F:FunD K x qual params body scope dvs kws f fd)(Sc:FnScope N ps scope)(hn:ps.length=n+1)
  (hbody: ∀ (cdv:Value) (Ar:Around) (outer:List Env) (s0:Shared) (H:Hp) (E:XK),Room k (Ar.deeper (envOfC qual scope s0.heap.objs.size f cdv))->
   PSs (cxOf (L2.CX P w) P w K mg base N qual scope f cdv Ar outer s0 H E) body (tOb κ [0] (fun cls d _ H=>E cls d H) 0 s)):FnOk P w K mg base (L2.CX P w) (k+1) f fd ps (spM κ c n (runM c N.length s)):=by
 refine FunD.okC F Sc (fun vs H Q E h=> ?_) (fun cdv Ar outer s0 H vs Q E hcd hr h=>⟨_,hbody cdv Ar outer s0 H E hr,?_⟩)
 ·obtain ⟨x,ws,T,G,N,l,dx,fs,as,rfl,hl,r,_⟩:=h
  rw [yK9,r.length,hl,hn]
 ·obtain ⟨x,ws,T,G,Nh,l,dx,fs,as,rfl,hl,r,Pm,q⟩:=h
  have hN:as.length+1<=N.length:=by
   have z:=congrArg yMu Sc.pre
   rw [yLv] at z
   omega
  refine ⟨basM G H T Nh x 0,x,Nh,_,G,fun z hz=> ?_,yEu hN r Pm,?_⟩
  ·obtain rfl:z=(0,x):=yLl.mp hz
   exact .head _
  ·unfold runM at q
   cases e:s (.ow (.ins false c l)::(as.map SD.va++yLi (N.length-1-as.length) SD.un)) with
   | ok fl ρ'=>
    rw [e] at q
    cases fl with
    | nx=>
     intro p M σ' H' G' o s
     obtain ⟨rfl,a,b,c',l',dx',fs',e1,n2⟩:=xM9 o s
     dsimp only at q
     unfold endM at q
     simp only [e1] at q
     by_cases hc:c'=c
     ·subst hc
      simp only [if_true] at q
      exact q .non H' G' M dx' fs' a n2 rfl
     ·simp only [if_neg hc] at q
    | rt r=>
     cases r with
     | va d=>
      intro v p M σ' H' G' o s rv
      obtain ⟨rfl,a,b,c',l',dx',fs',e1,n2⟩:=xM9 o s
      dsimp only at q
      unfold endM at q
      simp only [e1] at q
      by_cases hc:c'=c
      ·subst hc
       simp only [if_true] at q
       exact q v H' G' M dx' fs' a n2 rv
      ·simp only [if_neg hc] at q
     | _=>exact q.elim
    | bk=>exact q.elim
    | ct=>exact q.elim
   | ex y ρ'=>
    rw [e] at q
    intro cls d p M σ' H' G' o s rx
    obtain ⟨rfl,a,b,c',l',dx',fs',e1,n2⟩:=xM9 o s
    dsimp only at q
    unfold endM at q
    simp only [e1] at q
    by_cases hc:c'=c
    ·subst hc
     simp only [if_true] at q
     exact q cls d H' G' M dx' fs' a n2 rx
    ·simp only [if_neg hc] at q
   | no=>
    rw [e] at q
    exact q.elim
end
def xTh (i:Nat)(c0:String)(f:MF)(ds:List D):M SD:=fun ρ=>match ρ[i]? with
 | some (.ow (.ins b c l))=>if c=c0 then match f l ds with
  | .ok d l'=> .ok (.va d) (ρ.set i (.ow (.ins b c l')))
  | .ex x l'=> .ex x (ρ.set i (.ow (.ins b c l')))
  | .no=> .no
  else .no
 | _=> .no
def xTb {α:Type}(i:Nat)(c0:String)(mt:Str)(m:M α):M α:=fun ρ=>match ρ[i]? with
 | some (.ow (.ins _ c l))=>if c=c0/\l.lookup mt=none then m ρ else .no
 | _=> .no
def xZ0 (i:Nat)(c0:String)(mt:Str)(f:MF)(n:M (List D)):M SD:=xTb i c0 mt (n.bind (xTh i c0 f))
section
variable {κ:Ctx}{W:WX}{B:Bas}{i:Nat}{ρ:List SD}{σ:L2.St}{H G:Hp}{p:Addr}{N:Hp}
theorem xYv {α:Type}{c0:String}{mt:Str}{m:M α}{k:α->List SD->Addr->Hp->Hp->Hp->Prop}{b:Bool}{c:String}{l:List (Str×D)}(e:ρ[i]? =some (.ow (.ins b c l)))(q:PstG κ W B i σ G (xTb i c0 mt m ρ) k):c=c0/\l.lookup mt=none/\PstG κ W B i σ G (m ρ) k:=by
 unfold xTb at q
 rw [e] at q
 dsimp only at q
 by_cases z:c=c0/\l.lookup mt=none
 ·rw [if_pos z] at q
  exact ⟨z.1,z.2,q⟩
 ·rw [if_neg z] at q
  exact q.elim
theorem yFa {c0:String}{f:MF}{n:Nat}{ds:List D}{ws:List V}{Q:VK}(o:OOkP κ B i p N ρ σ H G)(r:RepL κ B.T G ds ws)(hl:ds.length=n)
  (q:PstG κ W B i σ G (xTh i c0 f ds ρ) fun r ρ' p N H' G'=> ∀ v,RepR κ (opB B i p N) (ρ'.set i .un) σ H' G' r v->Q v H'):spM κ c0 n f (.ref p::ws) H Q (fun cls d H=>W cls d σ H):=by
 obtain ⟨b,c,l,dx,vs,nk,e,ok⟩:=o
 unfold xTh at q
 rw [e] at q
 dsimp only at q
 by_cases hc:c=c0
 ·subst hc
  rw [if_pos rfl] at q
  refine ⟨p,ws,B.T,G,N,l,dx,vs,ds,rfl,hl,r,yIz ok nk,?_⟩
  have next: ∀ {l' H' G' N' dx' fs'},AftM κ G H N H' G' N'->NOk κ (basM G H B.T N p 0) G' p N' c l' dx' fs'->OOkP κ B i p N' (ρ.set i (.ow (.ins b c l'))) σ H' G':=fun {l' H' G' N' dx' fs'} a n2=>by
   obtain ⟨n3,o3⟩:=stat ok nk a n2
   exact ⟨b,c,l',dx',fs',n3,yK8 (xNc e),by rw [yMa];exact o3⟩
  cases ef:f l ds with
  | ok d l'=>
   rw [ef] at q
   exact fun v H' G' N' dx' fs' a n2 rv=>q p N' H' G' (next a n2) a.sub v rv
  | ex y l'=>
   rw [ef] at q
   exact fun cls dd H' G' N' dx' fs' a n2 rx=>q cls dd p N' H' G' (next a n2) a.sub rx
  | no=>
   rw [ef] at q
   exact q.elim
 ·rw [if_neg hc] at q
  exact q.elim
theorem OOkP.same {p':Addr}{N':Hp}{ρ':List SD}{H' G':Hp}(o:OOkP κ B i p N ρ σ H G)(o':OOkP κ B i p' N' ρ' σ H' G'):p'=p:=by
 obtain ⟨_,_,_,_,_,_,_,ok⟩:=o
 obtain ⟨_,_,_,_,_,_,_,ok'⟩:=o'
 have h1:=ok.anch i p (yK3 ..)
 have h2:=ok'.anch i p' (yK3 ..)
 rw [h1] at h2
 cases h2
 rfl
end
section
variable {X:Cx}{κ:Ctx}{A:List Nat}{W:WX}{k k' n:Nat}{f:Addr}{fd:FuncData}{ps:List Str}{fn:MF}{x m:Str}{p pos apos:Pos}{e o:Expr}{es:List Expr}{na:M (List D)}{mo:M SD}{c:String}{i j:Nat}{st:Stmt}{s:S}
theorem yEg {pl:Sem Bool}(I:MethM X.prog X.w X.K X.mg X.base κ c m k ps n fn f fd)(hK:X.K=κ.K)(hb:Binds X.K fd ps [])(hr:Room k' X.A)(hk:k<=k')(hx:xIa X W)(h:PE X o (tVar i))(ha:PA X (e::es) (tAO κ W i na))(hl: ∀ ρ ds ρ',na ρ= .ok ds ρ'->ds.length=n)
  (hst:Pln X e es:=by rfl) (hpl:PlnR X pos es:=by rfl)
  (ht:eval (.Call (.Attribute o m apos) (e::es) [] pos) X.env=xT0 X pl o m apos pos (e::es):=by rfl):PE X (.Call (.Attribute o m apos) (e::es) [] pos) (tEO κ W i (xZ0 i c m fn na)):=by
 refine PE.imp (xTw (E:=fun σ cls d H=>W cls d σ H) h I.cls I.at_ I.ok (hr.mono hk) hb hx ha hst hpl ht) fun σ H Q ⟨B,p,N,ρ,G,ok,q⟩=> ?_
 obtain ⟨b,c',l,dx,vs,nk,e1,ok1⟩:=id ok
 obtain ⟨rfl,hno,q⟩:=xYv e1 q
 refine ⟨.ref p,ok1.anch i p (yK3 ..),p,dx,vs,rfl,xBy ok1 nk.mu nk.here,RepF.lkNone nk.fld hno,B,p,N,ρ,G,ok,?_⟩
 have q2:=PstG.bind q
 cases en:na ρ with
 | ok ds ρ'=>
  rw [en] at q2
  intro p' N' H' G' o' s ws rs
  obtain rfl:=ok.same o'
  exact yFa o' rs (hl ρ ds ρ' en) (q2 p' N' H' G' o' s)
 | ex y ρ'=>
  rw [en] at q2
  exact q2
 | no=>
  rw [en] at q2
  exact q2
def oA1 (mo:M SD):M (List D):=(fO mo).bind fun d=>M.ret [d]
theorem yD3 (h:PE X e (tEO κ W i mo))(hs:swapsWith e none pos.line X.env=pure false:=by rfl):PS X (.Expr e pos) (tOb κ A W i (xEs mo)):=
 PS.imp (ps_expr h hs) fun D σ H ⟨B,p,N,ρ,G,a,o,q⟩=>⟨B,p,N,ρ,G,o,PstG.mono (PstO.bind q) fun r ρ' p' N' H' G' o' s q' v rv=>q' p' N' σ H' G' o' (Same.refl G')⟩
def sSetJ (i j:Nat)(m:M SD):S:=m.bind fun r=>fun ρ=>if j=i then .no else .ok .nx (ρ.set j r)
def mAppJ (i j:Nat)(mo:M SD):M SD:=fun ρ=>if j≠i/\xOr ρ[j]? =true then ((oA1 mo).bind (appS j)) ρ else .no
end
def hidS1:SD->SD
 | .ow _=> .un
 | x=>x
def hideO (ρ:List SD):List SD:=ρ.map hidS1
def lcM (i:Nat)(vs:List Nat)(g:D->List SD->Option (List SD))(te:M SD):List D->List D->M (List D)
 | [],acc,ρ=> .ok acc ρ
 | d::l,acc,ρ=>match ρ[i]? with
  | some (.ow (.ins b c fl))=>match g d (xBa (hideO ρ) vs) with
   | none=> .no
   | some ρ1=>match fO te (ρ1.set i (.ow (.ins b c fl))) with
    | .ok y ρ3=>match ρ3[i]? with
     | some (.ow (.ins _ c' fl'))=>if acc.length<1000000 then lcM i vs g te l (acc++[y]) (ρ.set i (.ow (.ins b c' fl'))) else .no
     | _=> .no
    | _=> .no
  | _=> .no
def mLcM (i:Nat)(it:M (List D))(vs:List Nat)(g:D->List SD->Option (List SD))(te:M SD):M SD:=it.bind fun l=>(lcM i vs g te l []).bind lcE
section
variable {κ:Ctx}{B:Bas}{i:Nat}{ρ:List SD}{σ:L2.St}{H G:Hp}{p:Addr}{N:Hp}{b:Bool}{c:String}{l:List (Str×D)}{dx:Addr}{fs:List (Str×V)}{vs:List Nat}
end
section
variable {κ:Ctx}{W:WX}{B:Bas}{i:Nat}{σ:L2.St}{G0:Hp}{D0:Addr}{vs:List Nat}{g:D->List SD->Option (List SD)}{te:M SD}{Q:VK}{l acc:List D}{ρ:List SD}{H G:Hp}{ws:List V}{p:Addr}{N:Hp}
structure LmI (κ:Ctx)(W:WX)(B:Bas)(i:Nat)(σ:L2.St)(G0:Hp)(D0:Addr)(vs:List Nat)(g:D->List SD->Option (List SD))(te:M SD)(Q:VK)(l acc:List D)(p:Addr)(N:Hp)(ρ:List SD)(H G:Hp)(ws:List V):Prop where
 ok:OOkP κ B i p N ρ σ H G
 sub:Same G0 G
 gn:G D0=none
 bn:B.H D0=none
 nn:N D0=none
 at_:H D0=some (.lst ws)
 rep:RepL κ B.T G acc ws
 na: ∀ (j:Nat) (d:D),j≠i->ρ[j]? =some (SD.ow d)->σ[j]? ≠some (some (V.ref D0))
 go:PstG κ W B i σ G ((lcM i vs g te l acc).bind lcE ρ) fun r ρ' p N H' G'=> ∀ v,RepR κ (opB B i p N) (ρ'.set i .un) σ H' G' r v->Q v H'
end
theorem PstG.sub {α:Type}{κ:Ctx}{W:WX}{B:Bas}{i:Nat}{σ:L2.St}{G G2:Hp}{r:Rs α}{k:α->List SD->Addr->Hp->Hp->Hp->Prop}(h:PstG κ W B i σ G r k)(s:Same G G2):PstG κ W B i σ G2 r k:=by
 cases r with
 | ok a ρ'=>exact fun p N H' G' o e=>h p N H' G' o (s.trans e)
 | ex x ρ'=>exact fun cls d p N H' G' o e q=>h cls d p N H' G' o (s.trans e) q
 | no=>exact h
section
variable {X:Cx}{κ:Ctx}{A:List Nat}{W:WX}{i:Nat}{iter elt tg:Expr}{scope:Scope}{own:List (Str×Nat)}{pos:Pos}{it:M (List D)}{g:D->List SD->Option (List SD)}{te:M SD}
end
section
variable {κ:Ctx}{B:Bas}{i:Nat}{ρ:List SD}{σ:L2.St}{H G:Hp}{p:Addr}{N:Hp}
theorem OOkP.leave (o:OOkP κ B i p N ρ σ H G): ∃ b c l,ρ[i]? =some (.ow (.ins b c l))/\Ok κ B (ρ.set i (.va (.ins false c (fzFl l)))) σ H (plus G N)/\Same G (plus G N):=by
 obtain ⟨b,c,l,dx,vs,n,e,ok⟩:=o
 have sg:Same G (plus G N):=fun a o e=>by
  have m:N a=none:=yK6 fun z=>by
   rw [n.gfree a z] at e
   cases e
  rw [xAc m]
  exact e
 have bN: ∀ {a:Addr},B.H a≠none->N a=none:=fun {a} h=>yK6 fun z=>h (n.free a z)
 have il:=xNc e
 have old: ∀ {j:Nat} {x:SD},j≠i->(ρ.set i (.va (.ins false c (fzFl l))))[j]? =some x->(ρ.set i .un)[j]? =some x:=fun {j x} hj z=>by
  rw [yLa (Ne.symm hj)] at z ⊢
  exact z
 have ne: ∀ {j:Nat} {d:D},(ρ.set i (.va (.ins false c (fzFl l))))[j]? =some (.ow d)->j≠i:=fun {j d} z y=>by
  rw [y,yK8 il] at z
  cases z
 refine ⟨b,c,l,e,⟨⟨fun a u h nt=> ?_,fun a ps h=> ?_,fun a h=> ?_,ok.fr.sub.trans sg,fun a u h=> ?_,fun a ps h=> ?_,ok.fr.tabs,fun a h=> ?_⟩,?_,fun j d z=> ?_,fun j d z=> ?_,fun j k q d d' hjk z1 z2 z3 z4=> ?_,fun j q h=>ok.anch j q (yK7 _ h)⟩,sg⟩
 ·have nb:=bN (a:=a) (by rw [h];exact fun z=>nomatch z)
  exact ok.fr.keep a u (show plus B.H N a=some u by rw [xAc nb];exact h) nt
 ·have nb:=bN (a:=a) (by rw [h];exact fun z=>nomatch z)
  exact ok.fr.nt a ps (show plus B.H N a=some (.tbl ps) by rw [xAc nb];exact h)
 ·have nb:=bN h
  rw [xAc nb]
  exact ok.fr.frz a (show plus B.H N a≠none by rw [xAc nb];exact h)
 ·cases m:N a with
  | some w=>
   rw [xAg m] at h
   cases h
   exact xBy ok n.mu m
  | none=>
   rw [xAc m] at h
   exact ok.fr.gh a u h
 ·cases m:N a with
  | some w=>
   rw [xAg m] at h
   cases h
   exact n.mu a _ m
  | none=>
   rw [xAc m] at h
   exact ok.fr.notb a ps h
 ·have y:plus B.H N a≠none:=ok.fr.lent a h
  have m:N a=none:=yK6 fun z=>n.nt a z h
  rw [xAc m] at y
  exact y
 ·rw [yLm]
  have:=ok.len
  rw [yLm] at this
  exact this
 ·by_cases hj:j=i
  ·subst hj
   rw [yK8 il] at z
   cases z
   have tp: ¬ B.T p:=n.nt p (by rw [n.here];exact fun z=>nomatch z)
   exact ⟨.ref p,ok.anch j p (yK3 ..),p,dx,vs,rfl,⟨xAg n.here,⟨fun z=>(tp z).elim,fun z=>yLr z⟩⟩,RepF.frz n.gfree n.mu n.nt n.okF n.inN n.fld⟩
  ·obtain ⟨v,h1,h2⟩:=ok.val j d (old hj z)
   exact ⟨v,h1,Rep.mono (.of sg) d h2⟩
 ·have hj:=ne z
  obtain ⟨q,q1,q2,q3,q4⟩:=ok.own j d (old hj z)
  have q3:plus B.H N q=none:=q3
  have m:N q=none:=by
   cases y:N q with
   | none=>rfl
   | some w=>
    rw [xAg y] at q3
    cases q3
  rw [xAc m] at q3
  exact ⟨q,q1,by rw [xAc m];exact q2,q3,q4.mono sg rfl⟩
 ·exact ok.sep j k q d d' hjk (old (ne z1) z1) (old (ne z2) z2) z3 z4
theorem xVi {x dx:Addr}{c:String}{N' H' G':Hp}(o:Ok κ B ρ σ H G)(hx:H x=none)(hd:H dx=none)(nx:dx≠x)(af:AftM κ G (upd (upd H dx (.own x)) x (.ins (κ.cl c) dx [])) (upd (fun _=>none) x (.ins (κ.cl c) dx [])) H' G' N'):Ok κ B ρ σ H' G'/\
  ∀ {c':String} {l':List (Str×D)} {dx':Addr} {fs':List (Str×V)} {i:Nat},NOk κ (basM G (upd (upd H dx (.own x)) x (.ins (κ.cl c) dx [])) B.T (upd (fun _=>none) x (.ins (κ.cl c) dx [])) x 0) G' x N' c' l' dx' fs'->i<ρ.length->(∀ q,(i,q)∉B.an)->OOkP κ B i x N' (ρ.set i (.ow (.ins false c' l'))) (σ.set i (some (.ref x))) H' G':=by
 have old: ∀ {a:Addr} {u:HO},H a=some u->upd (upd H dx (.own x)) x (.ins (κ.cl c) dx []) a=some u/\(upd (fun _=>none) x (.ins (κ.cl c) dx []):Hp) a=none:=fun {a u} e=>by
  have h1:a≠x:=ne_of_none e hx
  have h2:a≠dx:=ne_of_none e hd
  exact ⟨by rw [upd_ne h1,upd_ne h2];exact e,by rw [upd_ne h1]⟩
 have base: ∀ {a:Addr},B.H a≠none->noT (upd (upd H dx (.own x)) x (.ins (κ.cl c) dx [])) a≠none/\(upd (fun _=>none) x (.ins (κ.cl c) dx []):Hp) a=none:=fun {a} h=>by
  obtain ⟨u,_,n,e⟩:=o.fr.obj h
  obtain ⟨h1,h2⟩:=old e
  refine ⟨?_,h2⟩
  rw [xCj h1 n]
  exact fun z=>(nomatch z)
 have ownF: ∀ {j:Nat} {d:D},ρ[j]? =some (.ow d)-> ∃ q,σ[j]? =some (some (V.ref q))/\G' q=none/\B.H q=none/\xBm κ B.T G' H' q d/\noT (upd (upd H dx (.own x)) x (.ins (κ.cl c) dx [])) q≠none/\(upd (fun _=>none) x (.ins (κ.cl c) dx []):Hp) q=none:=fun {j d} e=>by
  obtain ⟨q,q1,q2,q3,q4⟩:=o.own j d e
  obtain ⟨u,u1,u2,_⟩:=q4.obj
  obtain ⟨h1,h2⟩:=old u1
  have h3:noT (upd (upd H dx (.own x)) x (.ins (κ.cl c) dx [])) q≠none:=by
   rw [xCj h1 u2]
   exact fun z=>nomatch z
  exact ⟨q,q1,(af.frz q h3 h2).trans q2,q3,q4.mono af.sub ((af.keep q u h1 h2 u2).trans u1.symm),h3,h2⟩
 have ok1:Ok κ B ρ σ H' G':=by
  refine ⟨⟨fun a u e n=> ?_,o.fr.nt,fun a e=> ?_,o.fr.sub.trans af.sub,af.gh,af.notb,af.tabs,o.fr.lent⟩,o.len,fun j d e=> ?_,fun j d e=> ?_,o.sep,o.anch⟩
  ·obtain ⟨h1,h2⟩:=old (o.fr.keep a u e n)
   exact af.keep a u h1 h2 n
  ·obtain ⟨h1,h2⟩:=base e
   exact (af.frz a h1 h2).trans (o.fr.frz a e)
  ·obtain ⟨v,h1,h2⟩:=o.val j d e
   exact ⟨v,h1,Rep.mono (.of af.sub) d h2⟩
  ·obtain ⟨q,q1,q2,q3,q4,_⟩:=ownF e
   exact ⟨q,q1,q2,q3,q4⟩
 refine ⟨ok1,fun {c' l' dx' fs' i} n hi ni=> ?_⟩
 have fr2: ∀ a,N' a≠none->B.H a=none:=fun a h=>yK6 fun z=>by
  obtain ⟨h1,h2⟩:=base z
  have:=n.free a h
  rw [xDz h2] at this
  exact h1 this
 have bg2: ∀ a,N' a≠none->B.G a=none:=fun a h=>by
  have g:G a=none:=n.bg a h
  cases y:B.G a with
  | none=>rfl
  | some u=>
   rw [o.fr.sub a u y] at g
   cases g
 have n3:NOk κ B G' x N' c' l' dx' fs':=n.bas fr2 bg2 rfl
 have il:i<σ.length:=by rw [o.len];exact hi
 have bN: ∀ {a:Addr},B.H a≠none->N' a=none:=fun {a} h=>yK6 fun z=>h (fr2 a z)
 have at_: ∀ {j:Nat} {y:SD},((ρ.set i (.ow (.ins false c' l'))).set i .un)[j]? =some y->y≠ .un->j≠i/\ρ[j]? =some y/\(σ.set i (some (V.ref x)))[j]? =σ[j]? :=fun {j y} e ny=>by
  rw [yMa] at e
  by_cases hj:j=i
  ·rw [hj,yK8 hi] at e
   exact absurd (yLh.inj e).symm ny
  ·rw [yLa (Ne.symm hj)] at e
   exact ⟨hj,e,yLa (Ne.symm hj)⟩
 refine ⟨false,c',l',dx',fs',n3,yK8 hi,⟨fun a u e nt=> ?_,fun a ps e=> ?_,fun a e=> ?_,ok1.fr.sub,ok1.fr.gh,ok1.fr.notb,ok1.fr.tabs,fun a e=> ?_⟩,?_,fun j d e=> ?_,fun j d e=> ?_,fun j k q d e' hjk z1 z2 z3 z4=> ?_,fun j q hq=> ?_⟩
 ·have e:plus B.H N' a=some u:=e
  cases z:N' a with
  | some w=>
   rw [xAg z] at e
   cases e
   exact af.inH a _ z
  | none=>
   rw [xAc z] at e
   exact ok1.fr.keep a u e nt
 ·have e:plus B.H N' a=some (.tbl ps):=e
  cases z:N' a with
  | some w=>
   rw [xAg z] at e
   cases e
   exact n.mu a _ z
  | none=>
   rw [xAc z] at e
   exact ok1.fr.nt a ps e
 ·have e:plus B.H N' a≠none:=e
  show G' a=B.G a
  cases z:N' a with
  | some w=>
   have h:N' a≠none:=by rw [z];exact fun y=>nomatch y
   rw [n.gfree a h,bg2 a h]
  | none=>
   rw [xAc z] at e
   exact ok1.fr.frz a e
 ·show plus B.H N' a≠none
  have y:=ok1.fr.lent a e
  rw [xAc (bN y)]
  exact y
 ·rw [yLm,yLm,yLm]
  exact o.len
 ·obtain ⟨hj,e2,e3⟩:=at_ e (by simp)
  rw [e3]
  exact ok1.val j d e2
 ·obtain ⟨hj,e2,e3⟩:=at_ e (by simp)
  obtain ⟨q,q1,q2,q3,q4,q5,q6⟩:=ownF e2
  have nq:N' q=none:=yK6 fun z=>by
   have:=n.free q z
   rw [xDz q6] at this
   exact q5 this
  exact ⟨q,by rw [e3];exact q1,q2,by show plus B.H N' q=none;rw [xAc nq];exact q3,q4⟩
 ·obtain ⟨hj,e2,e3⟩:=at_ z1 (by simp)
  obtain ⟨hk,e4,e5⟩:=at_ z2 (by simp)
  rw [e3] at z3
  rw [e5] at z4
  exact o.sep j k q d e' hjk e2 e4 z3 z4
 ·have hq:(j,q)∈(i,x)::B.an:=hq
  rcases yLp.mp hq with z|z
  ·cases z
   exact yK8 il
  ·have hj:j≠i:=fun y=>ni q (by rw [<- y];exact z)
   rw [yLa (Ne.symm hj)]
   exact o.anch j q z
end
def sOwn (i:Nat)(c0:String)(f:MF)(na:M (List D))(s1 s2:S):S:=na.bind fun ds ρ=>match f [] ds with
 | .ok .non l=>if i<ρ.length then match s1 (ρ.set i (.ow (.ins false c0 l))) with
  | .ok .nx ρ1=>match ρ1[i]? with
   | some (.ow (.ins _ c' l'))=>s2 (ρ1.set i (.va (.ins false c' (fzFl l'))))
   | _=> .no
  | .ex x ρ1=> .ex x (ρ1.set i .un)
  | _=> .no
  else .no
 | .ex x _=> .ex x ρ
 | _=> .no
section
variable {X:Cx}{κ:Ctx}{A:List Nat}{W:WX}{k k' n i:Nat}{f:Addr}{fd:FuncData}{ps:List Str}{fn:MF}{x y:Str}{p p' cpos pos:Pos}{e:Expr}{es:List Expr}{na:M (List D)}{c:String}{st:Stmt}{rest:List Stmt}{s1 s2:S}
theorem s_own (I:InitM X.prog X.w X.K X.mg X.base κ c x k n ps fn f fd)(hb:Binds X.K fd ps [])(hr:Room k' X.A)(hk:k+1<=k')(hg:Gl X x)(hx:xIa X W)(ha:PA X (e::es) (tA κ W na))(hl: ∀ ρ ds ρ',na ρ= .ok ds ρ'->ds.length=n)
  (hN:X.N.Nodup) (hi:X.N[i]? =some y) (hy:Loc X.env.scope y) (h1:PS X st (tOb κ A W i s1)) (h2:PSs X rest (tS κ A W s2))
  (nA:A.contains i=false:=by rfl) (hdb:(x==("__debug__":Str))=false:=by decide)
  (he:starEach (e::es) X.env=(false,eval e X.env)::starEach es X.env:=by rfl) (hpl:(backTo cpos (starEach es X.env)).any (·.1)=false:=by rfl)
  (hs:swapsWith (.Call (.Name x p) (e::es) [] cpos) (some (.Name y p')) pos.line X.env=pure false:=by rfl)
  (hf:X.fn y=true\/X.env.scope.names.lookup y=some .local:=by first|exact .inl rfl|exact .inr rfl|assumption):PSs X (.Assign [.Name y p'] (.Call (.Name x p) (e::es) [] cpos) pos::st::rest) (tS κ A W (sOwn i c fn na s1 s2)):=by
 refine PSs.imp (pss_cons (ps_set hN hi hy (xTa (E:=fun σ cls d H=>W cls d σ H) I.mak I.ok (hr.mono hk) hg I.gl hb hx ha hdb he hpl) hs hf) (pss_cons h1 h2)) fun D σ H ⟨B,ρ,G,a,ok,q⟩=>⟨B,ρ,G,ok,?_⟩
 have q1:Pst κ W B σ G (na ρ) _:=PstS.bind q
 cases en:na ρ with
 | ex z ρ'=>
  rw [en] at q1
  exact q1
 | no=>
  rw [en] at q1
  exact q1
 | ok ds ρ'=>
  rw [en] at q1
  intro H1 G1 o1 s1' vs rs xx dx hxx hd ne
  have q2:=q1 H1 G1 o1 s1'
  dsimp only at q2
  have gx:=o1.gnone hxx
  have gd:=o1.gnone hd
  have sg:Same G1 (upd (upd H1 dx (.own xx)) xx (.ins (κ.cl c) dx [])):=fun b u e=>by
   have h1:b≠xx:=ne_of_none e gx
   have h2:b≠dx:=ne_of_none e gd
   rw [upd_ne h1,upd_ne h2]
   exact o1.fr.gh b u e
  have old: ∀ {b:Addr} {u:HO},H1 b=some u->upd (upd H1 dx (.own xx)) xx (.ins (κ.cl c) dx []) b=some u:=fun {b u} e=>by
   rw [upd_ne (ne_of_none e hxx),upd_ne (ne_of_none e hd)]
   exact e
  have onlyX: ∀ {b:Addr},(upd (fun _=>none) xx (.ins (κ.cl c) dx []):Hp) b≠none->b=xx:=fun {b} h=>yK6 fun z=>h (by rw [upd_ne z])
  have tabs:LamX.Tabs κ.tabs (upd (upd H1 dx (.own xx)) xx (.ins (κ.cl c) dx [])):=fun t ht=>by
   obtain ⟨pp,t1,t2,t3⟩:=o1.fr.tabs t ht
   refine ⟨pp,old t1,t2,fun pos cv hc=> ?_⟩
   obtain ⟨cc,c1,c2⟩:=t3 pos cv hc
   exact ⟨cc,c1,old c2⟩
  have mu: ∀ (b:Addr) (u:HO),(upd (fun _=>none) xx (.ins (κ.cl c) dx []):Hp) b=some u->OwK u:=fun b u h=>by
   obtain rfl:=onlyX (b:=b) (by rw [h];exact fun z=>nomatch z)
   rw [upd_same] at h
   cases h
   exact True.intro
  have pre:PreM κ B.T G1 (upd (upd H1 dx (.own xx)) xx (.ins (κ.cl c) dx [])) xx (upd (fun _=>none) xx (.ins (κ.cl c) dx [])) c [] dx []:=by
   refine ⟨⟨fun b h=>xY8 h,fun b h=>by rw [onlyX h];exact gx,fun b h=>by rw [onlyX h];exact gx,fun b h=>by rw [onlyX h];exact o1.nolend (o1.bnone hxx),mu,upd_same,rfl,rfl,yLo.mpr ⟨(fun z=>by cases z),yLw⟩,fun b h=>by cases h⟩,fun b u h=> ?_,sg,o1.fr.notb,tabs,fun b hb=> ?_⟩
   ·obtain rfl:=onlyX (b:=b) (by rw [h];exact fun z=>nomatch z)
    rw [upd_same] at h
    cases h
    exact upd_same
   ·obtain ⟨u,_,n,e2⟩:=o1.fr.obj (o1.fr.lent b hb)
    rw [xCj (old e2) n]
    exact fun z=>nomatch z
  refine ⟨xx,vs,B.T,G1,_,[],dx,[],ds,rfl,hl ρ ds ρ' en,rs,pre,?_⟩
  cases ef:fn [] ds with
  | no=>
   rw [ef] at q2
   exact q2.elim
  | ex z l'=>
   rw [ef] at q2
   exact fun cls dd H' G' N' dx' fs' af n2 rx=>q2 cls dd σ H' G' (xVi o1 hxx hd ne af).1 af.sub rx
  | ok d l'=>
   rw [ef] at q2
   cases d with
   | non=>
    dsimp only at q2
    intro v H' G' N' dx' fs' af n2 rv
    refine ⟨rv,?_⟩
    by_cases hi2:i<ρ'.length
    ·rw [if_pos hi2] at q2
     have ob:=(xVi o1 hxx hd ne af).2 n2 hi2 (xJf a nA)
     refine ⟨B,xx,N',_,G',a,ob,?_⟩
     cases e1:s1 (ρ'.set i (.ow (.ins false c l'))) with
     | no=>
      rw [e1] at q2
      exact q2.elim
     | ex z ρ1=>
      rw [e1] at q2
      intro cls dd p5 N5 σ5 H5 G5 o5 s5 rx
      obtain ⟨b,c5,l5,e5,ok5,s6⟩:=o5.leave
      have ok6:=ok5.drop i
      rw [yMa] at ok6
      obtain ⟨x1,dx5,vs5,x2,x3,x4⟩:=rx
      exact q2 cls dd σ5 H5 _ ok6 (af.sub.trans (s5.trans s6)) ⟨x1,dx5,vs5,x2,x3,RepF.mono (.of s6) _ x4⟩
     | ok fl ρ1=>
      rw [e1] at q2
      cases fl with
      | nx=>
       intro p5 N5 σ5 H5 G5 o5 s5
       obtain ⟨b,c5,l5,e5,ok5,s6⟩:=o5.leave
       dsimp only at q2
       simp only [e5] at q2
       exact ⟨B,_,_,a,ok5,PstS.mono q2 (af.sub.trans (s5.trans s6)) (fun _ _ z=>z) rfl rfl rfl⟩
      | rt r=>exact q2.elim
      | bk=>exact q2.elim
      | ct=>exact q2.elim
    ·rw [if_neg hi2] at q2
     exact q2.elim
   | _=>exact q2.elim
end
abbrev ownN (N:List Str)(vs:List Nat):List (Str×Nat):=vs.map fun i=>(N.getD i "",i)
section
variable {X:Cx}{κ:Ctx}{A vs:List Nat}{W:WX}{iter elt tg:Expr}{ifs:List Expr}{scope:Scope}{pos:Pos}{it:M (List D)}{g:D->List SD->Option (List SD)}{tt:M Bool}{te:M SD}
end
structure Mq (r:MR)(p:D->List (Str×D)->Prop)(E:Exn->List (Str×D)->Prop):Prop where
 run:match r with
  | .ok d l=>p d l
  | .ex x l=>E x l
  | .no=>False
abbrev NoF:Exn->List (Str×D)->Prop:=fun _ _=>False
theorem Mq.mono {r:MR}{p q:D->List (Str×D)->Prop}{E F:Exn->List (Str×D)->Prop}(h:Mq r p E)(f: ∀ d l,p d l->q d l)(g: ∀ x l,E x l->F x l):Mq r q F:=by
 refine ⟨?_⟩
 have h:=h.run
 cases r with
 | ok d l=>exact f _ _ h
 | ex x l=>exact g _ _ h
 | no=>exact h
theorem Mq.ok {r:MR}{p:D->List (Str×D)->Prop}(h:Mq r p NoF): ∃ d l,r= .ok d l/\p d l:=by
 have h:=h.run
 cases r with
 | ok d l=>exact ⟨d,l,rfl,h⟩
 | ex x l=>exact h.elim
 | no=>exact h.elim
theorem xYi {c:String}{N:Nat}{b:S}{l:List (Str×D)}{as:List D}{p:D->List (Str×D)->Prop}{Ex:Exn->List (Str×D)->Prop}
  (h:Wp b (.ow (.ins false c l)::(as.map SD.va++yLi (N-1-as.length) SD.un)) (fun f ρ'=> ∃ d,(f= .rt (.va d)\/f= .nx/\d= .non)/\ ∃ b l',ρ'[0]? =some (.ow (.ins b c l'))/\p d l') fun x ρ'=> ∃ b l',ρ'[0]? =some (.ow (.ins b c l'))/\Ex x l'):Mq (runM c N b l as) p Ex:=by
 refine ⟨?_⟩
 unfold runM
 have h:=h.run
 have fin: ∀ {ρ':List SD} {bb:Bool} {l':List (Str×D)} {k:List (Str×D)->MR},ρ'[0]? =some (.ow (.ins bb c l'))->endM c ρ' k=k l':=fun {ρ' bb l' k} e=>by
  unfold endM
  simp only [e,if_true]
 cases e:b (.ow (.ins false c l)::(as.map SD.va++yLi (N-1-as.length) SD.un)) with
 | ok f ρ'=>
  rw [e] at h
  obtain ⟨d,hf,b',l',e1,hq⟩:=h
  rcases hf with rfl|⟨rfl,rfl⟩
  ·dsimp only
   rw [fin e1]
   exact hq
  ·dsimp only
   rw [fin e1]
   exact hq
 | ex x ρ'=>
  rw [e] at h
  obtain ⟨b',l',e1,hq⟩:=h
  dsimp only
  rw [fin e1]
  exact hq
 | no=>
  rw [e] at h
  exact h.elim
section
variable {ρ:List SD}{E:Exn->List SD->Prop}{i j:Nat}{p:SD->List SD->Prop}{pl:List D->List SD->Prop}{s:Fl->List SD->Prop}{c0:String}{mt:Str}{f:MF}{n:M (List D)}{m:M SD}
theorem yGj {b:Bool}{l:List (Str×D)}(e:ρ[i]? =some (.ow (.ins b c0 l)))(e2:l.lookup mt=none)
  (h:Wp n ρ (fun ds ρ'=> ∃ b l,ρ'[i]? =some (.ow (.ins b c0 l))/\Mq (f l ds) (fun d l'=>p (.va d) (ρ'.set i (.ow (.ins b c0 l')))) fun x l'=>E x (ρ'.set i (.ow (.ins b c0 l')))) E):Wp (xZ0 i c0 mt f n) ρ p E:=by
 refine ⟨?_⟩
 unfold xZ0 xTb
 simp only [e]
 rw [if_pos ⟨trivial,e2⟩]
 refine Wp.run (E:=E) (p:=p) ?_
 refine xAk (p:=p) (h.mono (fun ds ρ' h=> ?_) fun _ _ z=>z)
 obtain ⟨b,l,h1,h⟩:=h
 refine ⟨?_⟩
 unfold xTh
 simp only [h1,if_true]
 have h:=h.run
 cases ef:f l ds with
 | ok d l'=>
  rw [ef] at h
  exact h
 | ex x l'=>
  rw [ef] at h
  exact h
 | no=>
  rw [ef] at h
  exact h.elim
theorem w_own {na:M (List D)}{s1 s2:S}(h:Wp na ρ (fun ds ρ'=>Mq (f [] ds) (fun d l=>d= .non/\i<ρ'.length/\Wp s1 (ρ'.set i (.ow (.ins false c0 l))) (fun fl ρ1=>fl= .nx/\ ∃ b c l',ρ1[i]? =some (.ow (.ins b c l'))/\Wp s2 (ρ1.set i (.va (.ins false c (fzFl l')))) s E) fun x ρ1=>E x (ρ1.set i .un)) fun x _=>E x ρ') E):Wp (sOwn i c0 f na s1 s2) ρ s E:=by
 refine xAk (h.mono (fun ds ρ' h=> ?_) fun _ _ z=>z)
 refine ⟨?_⟩
 have h:=h.run
 cases ef:f [] ds with
 | no=>
  rw [ef] at h
  exact h.elim
 | ex x l=>
  rw [ef] at h
  exact h
 | ok d l=>
  rw [ef] at h
  obtain ⟨rfl,hi,h⟩:=h
  dsimp only
  rw [if_pos hi]
  have h:=h.run
  cases e1:s1 (ρ'.set i (.ow (.ins false c0 l))) with
  | no=>
   rw [e1] at h
   exact h.elim
  | ex x ρ1=>
   rw [e1] at h
   exact h
  | ok fl ρ1=>
   rw [e1] at h
   obtain ⟨rfl,b,c,l',e2,h⟩:=h
   simp only [e2]
   exact h.run
end
set_option maxHeartbeats 990000
section
variable {X:Cx}{κ:Ctx}{W:WX}{p pos:Pos}
theorem vZ (i:Nat){x:Str}(hN:X.N[i]? =some x:=by rfl)(hv:Vis X.env.scope x:=by first|exact Or.inl rfl|exact Or.inr (Or.inl rfl)|exact Or.inr (Or.inr rfl))(hd:(x==("__debug__":Str))=false:=by decide)
  (hcd:(x==("__classdict__":Str))=false:=by decide):PE X (.Name x pos) (tE κ W (mVar i)):=e_var (pv i hN hv hd hcd)
theorem suZ {k:Nat}(hr:Room k X.A)(i:Nat){x:Str}{b:Expr}{m:M SD}(hb:PE X b (tE κ W m))(hN:X.N[i]? =some x:=by rfl)(hv:Vis X.env.scope x:=by first|exact Or.inl rfl|exact Or.inr (Or.inl rfl)|exact Or.inr (Or.inr rfl))(hd:(x==("__debug__":Str))=false:=by decide)
  (hcd:(x==("__classdict__":Str))=false:=by decide) (hK:X.K=κ.K:=by rfl) (hs:PlainIx b:=by exact fun _ _=>rfl):PE X (.Subscript (.Name x p) b pos) (tE κ W (xAw i m)):=
 xY7 hK (xA4 hr) (pv i hN hv hd hcd) hb hs
theorem al1 {m:M SD}:ALen (aVa m aNil) 1:=xNg yBg
theorem al2 {m m1:M SD}:ALen (aVa m (aVa m1 aNil)) 2:=xNg al1
theorem al3 {m m1 m2:M SD}:ALen (aVa m (aVa m1 (aVa m2 aNil))) 3:=xNg al2
theorem al4 {m m1 m2 m3:M SD}:ALen (aVa m (aVa m1 (aVa m2 (aVa m3 aNil)))) 4:=xNg al3
end
section
variable {X:Cx}{A vs:List Nat}{pos:Pos}
theorem gnZ (nd:X.N.Nodup)(i:Nat){x:Str}(hi:X.N[i]? =some x:=by rfl)(hx:Loc X.env.scope x:=by first|exact Or.inl rfl|exact Or.inr rfl)(hf:X.fn x=true\/X.env.scope.names.lookup x=some .local:=by first|exact .inl rfl|exact .inr rfl|assumption)
  (n:A.contains i=false:=by rfl) (hv:vs.contains i=true:=by rfl):PG X (.Name x pos) (tG κ A vs (gN i)):=yKk (pg_name nd (i:=i) hi hx hf) n hv
end
section
variable {X:Cx}{κ:Ctx}{W:WX}{A:List Nat}{k k':Nat}{f:Addr}{fd:FuncData}{ps:List Str}{fn:List SD->FR}{x:Str}{p pos:Pos}{e:Expr}{es:List Expr}{n:M (List Ar)}
theorem stZ (hN:X.N.Nodup)(i:Nat){m:M SD}{p':Pos}(h:PE X e (tE κ W m))(hi:X.N[i]? =some x:=by rfl)(hx:Loc X.env.scope x:=by first|exact Or.inl rfl|exact Or.inr rfl)(n:A.contains i=false:=by rfl)(hs:swapsWith e (some (.Name x p')) pos.line X.env=pure false:=by rfl)
  (hf:X.fn x=true\/X.env.scope.names.lookup x=some .local:=by first|exact .inl rfl|exact .inr rfl|assumption):PS X (.Assign [.Name x p'] e pos) (tS κ A W (sSet i m)):=s_set hN (i:=i) hi hx h n hs hf
theorem ccZ (C:Callee X.prog X.w X.K X.mg X.base κ x k ps fn f fd)(hb:Binds X.K fd ps [])(hr:Room k' X.A)(ha:PA X (e::es) (tAr κ W n))(hl:ALen n ps.length)(hk:k<=k':=by decide)(hg:Gl X x:=by rfl)
  (hx:xIa X W:=by first|exact xA9 (takes_of rfl rfl rfl rfl)|exact xMt) (hdb:(x==("__debug__":Str))=false:=by decide) (he:starEach (e::es) X.env=(false,eval e X.env)::starEach es X.env:=by rfl) (hpl:(backTo pos (starEach es X.env)).any (·.1)=false:=by rfl):
  PE X (.Call (.Name x p) (e::es) [] pos) (tE κ W (xAy fn [] n)):=xYt C hb hr hk hg hx ha hl hdb he hpl
theorem cbZ {id:String}{r:List V->Hp->VK->Prop}{g:List D->Option SD}{n:M (List D)}(hc:CallR X (.builtin id) r)(hr:xDw κ r g)(hm:X.mg x=none)(ha:PA X (e::es) (tA κ W n))(hg:Gl X x:=by rfl)(hv:bootBuiltins x=some (.builtin id):=by decide +kernel)(hn:x≠"__name__":=by decide)(hdb:(x==("__debug__":Str))=false:=by decide)
  (he:starEach (e::es) X.env=(false,eval e X.env)::starEach es X.env:=by rfl) (hpl:(backTo pos (starEach es X.env)).any (·.1)=false:=by rfl):
  PE X (.Call (.Name x p) (e::es) [] pos) (tE κ W (mCB g n)):=xB4 hc hr hg hm hv ha hn hdb he hpl
theorem ctZ {T:String}{r:List V->Hp->VK->Prop}{g:List D->Option SD}{n:M (List D)}(hc:CallR X (.type T) r)(hr:xDw κ r g)(hm:X.mg x=none)(ha:PA X (e::es) (tA κ W n))(hg:Gl X x:=by rfl)(hv:bootBuiltins x=some (.type T):=by decide +kernel)(hn:x≠"__name__":=by decide)(hdb:(x==("__debug__":Str))=false:=by decide)
  (he:starEach (e::es) X.env=(false,eval e X.env)::starEach es X.env:=by rfl) (hpl:(backTo pos (starEach es X.env)).any (·.1)=false:=by rfl):
  PE X (.Call (.Name x p) (e::es) [] pos) (tE κ W (mCB g n)):=xMi hc hr hg hm hv ha hn hdb he hpl
end
section
variable {P:Program}{w:World}{K:PySem.W.Frag}{f:Addr}{fd:FuncData}{mg:Str->Option Value}{base:Heap}{x qual:Str}{params:Arguments}{body:List Stmt}{scope:Scope}{dvs:List V}{kws:List (Str×V)}
theorem dfZ {κ:Ctx}{A:List Nat}{N ps:List Str}{k n:Nat}{s:S}(F:FunD K x qual params body scope dvs kws f fd)(Sc:FnScope N ps scope)(hn:N.length=n)
  (hbody: ∀ (cdv:Value) (Ar:Around) (outer:List Env) (s0:Shared) (H:Hp) (E:XK),Room k (Ar.deeper (envOfC qual scope s0.heap.objs.size f cdv))->
   PSs (cxOf (L2.CX P w) P w K mg base N qual scope f cdv Ar outer s0 H E) body (tS κ A (fun cls d _ H=>E cls d H) s)):FnOk P w K mg base (L2.CX P w) (k+1) f fd ps (spF κ ps.length (runN A n s)):=by
 subst hn
 exact xMj F Sc hbody
theorem scZ {N P:List Str}{sc:Scope}(h:(decide (sc.kind= .function)&& !sc.isCoroutine&& !sc.isGenerator&&decide N.Nodup&&decide (N.take P.length=P)&&P.all (fun x=>decide (sc.names.lookup x=some .local\/sc.names.lookup x=some .cell))&&sc.names.all fun y=>decide (y.2≠ .free))=true):FnScope N P sc:=by
 simp only [yLc,decide_eq_true_eq,yL3,yLu] at h
 obtain ⟨⟨⟨⟨⟨⟨h1,h2⟩,h3⟩,h4⟩,h5⟩,h6⟩,h7⟩:=(h)
 exact (⟨h1,h2,h3,h4,h5,h6,h7⟩)
end
set_option maxHeartbeats 1990000
def yHo (C:Addr)(sp:Sp):List V->Hp->VK->Prop:=fun xs H Q=> ∃ a dx fs,xs=[.ref a]/\H a=some (.ins C dx fs)/\sp [.ref a] H (fun v H'=> ∃ x:Str,v= .str x/\Q (.str x) H') fun _ _ _=>False
def rTruI (C:Addr)(sp:Sp):V->Hp->(Bool->Hp->Prop)->Prop:=fun x H Q=> ∃ a dx fs,x= .ref a/\H a=some (.ins C dx fs)/\sp [.ref a] H (fun v H'=> ∃ n:Int,v= .int n/\(0<=n/\n<2 ^ 62)/\Q (n != 0) H') fun _ _ _=>False
def rBoolI (C:Addr)(sp:Sp):List V->Hp->VK->Prop:=fun xs H Q=> ∃ x,xs=[x]/\rTruI C sp x H fun b H'=>Q (.bl b) H'
def xY2 (c:String)(fs:List SD->FR):List D->Option SD
 | [.ins b c1 l]=>if c1=c then match fs [.va (.ins b c1 l)] with
  | .ok (.va (.str x)) _=>some (.va (.str x))
  | _=>none
  else none
 | _=>none
def yEw (c:String)(fs:List SD->FR):D->Option Bool
 | .ins b c1 l=>if c1=c then match fs [.va (.ins b c1 l)] with
  | .ok (.va (.int n)) _=>if 0<=n/\n<2 ^ 62 then some (n != 0) else none
  | _=>none
  else none
 | _=>none
def boolID (c:String)(fs:List SD->FR):List D->Option SD
 | [d]=>(yEw c fs d).map fun b=> .va (.bl b)
 | _=>none
section
variable {X:Cx}{κ:Ctx}{c:String}{k:Nat}{ps:List Str}{fs:List SD->FR}{f:Addr}{fd:FuncData}{W:WX}
theorem yE2 {A:Around}(r:Room k A):A.units+100<cLine:=by have:=r.un;omega
theorem xU4 (F:FnOk X.prog X.w X.K X.mg X.base (L2.CX X.prog X.w) k f fd ps sp)(M:Meth X.K (κ.cl c) "__str__" f)(hb:Binds X.K fd ps [])(hx:Passes (L2.CX X.prog X.w) X fun _ _ _=>False)(hr:Room (k+2) X.A):CallR X (.type "str") (yHo (κ.cl c) sp):=by
 intro pins s σ H xs us Q I rr h
 obtain ⟨a,dx,gs,rfl,ea,h⟩:=h
 obtain ⟨u,rfl,ru⟩:=(vals1 rr)
 obtain rfl:u=Value.ref a:=(ru)
 obtain ⟨mA,J,_⟩:=ins_get I.hok ea
 obtain ⟨od,J,_⟩:=J.look
 refine PySem.W.kso_call (by have:=yE2 hr;show X.A.units+1+1<cLine;omega) I.kIn J M.at_ M.fn ?_
 refine wpAny_mono (yAj F hb hx hr.in1.in1 rfl I h) (fun z s' ⟨v',H',I',rv,x,ev,q⟩=> ?_) fun _ _ z=>z
 subst ev
 obtain ⟨t,rfl⟩:=rv
 exact ⟨V.str x,H',I',⟨_,rfl⟩,q⟩
theorem yGg (hn:1=ps.length):xDw κ (yHo (κ.cl c) (spF κ ps.length fs)) (xY2 c fs):=by
 intro B ρ σ H G ds xs z Q o r hz q
 unfold xY2 at hz
 split at hz
 ·rename_i b c1 l
  split at hz
  ·rename_i hc
   subst hc
   split at hz
   ·rename_i n o2 ef
    cases hz
    obtain ⟨v,ws,rfl,r1,r2⟩:=r
    rw [show ws=[] from r2]
    obtain ⟨a,dx,vs,rfl,⟨h1,_⟩,_⟩:=id r1
    refine ⟨a,dx,vs,rfl,o.fr.gh _ _ h1,?_⟩
    refine xNq (W:=fun _ _ _ _=>False) (ds:=[_]) o ⟨_,_,rfl,r1,rfl⟩ hn ?_
    show Pst κ _ B σ G (match fs [_] with
     | .ok r _=> .ok r ρ
     | .ex x _=> .ex x ρ
     | .no=> .no) _
    simp only [ef]
    intro H' G' o' s' v rv
    cases (show v=V.str n from rv)
    exact ⟨n,rfl,q _ H' G' o' s' rfl⟩
   ·cases hz
  ·cases hz
 ·cases hz
def mTruI (c:String)(fs:List SD->FR)(m:M SD):M Bool:=(fE m).bind fun d=>M.opt (yEw c fs d)
end
theorem yEo {fs:List SD->FR}{p:SD->Prop}(h:Fw (fs [.va (.ins b c l)]) (fun r _=> ∃ x:Str,r= .va (.str x)/\p (.va (.str x))) NoX):Ow (xY2 c fs [.ins b c l]) p:=by
 obtain ⟨r,o,e,x,rfl,q⟩:=h.ok
 refine ⟨_,?_,q⟩
 unfold xY2
 simp only [e,if_true]
inductive FPt where
 | c (s:Str)|m (m:M SD)
def mJs:List FPt->Str->M SD
 | [],acc=>M.ret (.va (.str acc))
 | .c s::ps,acc=>if (acc++s).length<=1000000 then mJs ps (acc++s) else M.no
 | .m m::ps,acc=>(fE m).bind fun d=>(M.opt (fmtD d)).bind fun x=>if (acc++x).length<=1000000 then mJs ps (acc++x) else M.no
inductive FJ (X:Cx)(κ:Ctx)(W:WX):List Expr->List FPt->Prop where
 | nil:FJ X κ W [] []
 | c (h:PE X e (tC (.str s))) (r:FJ X κ W es ps):FJ X κ W (e::es) (.c s::ps)
 | m (h:PE X e (tE κ W m)) (r:FJ X κ W es ps):FJ X κ W (.FormattedValue e (-1) none p::es) (.m m::ps)
def FPt.te (κ:Ctx)(W:WX):FPt->TE
 | .c s=>tC (.str s)
 | .m z=>tFmt (tE κ W z)
section
variable {X:Cx}{κ:Ctx}{W:WX}{σ:L2.St}{H:Hp}{Q:VK}
theorem FJ.pj (h:FJ X κ W es ps):PJ X es (ps.map (FPt.te κ W)):=by
 induction h with
 | nil=>exact .nil
 | c h r ih=>exact .cons h ih
 | m h r ih=>exact .cons (pe_fmt h) ih
theorem yEk: ∀ {ps:List FPt} {acc:Str} {ρ:List SD} {H G:Hp},Ok κ B ρ σ H G->(Pst κ W B σ G (mJs ps acc ρ) fun r ρ' H' G'=> ∀ v,RepR κ B ρ' σ H' G' r v->Q v H')->tJs (ps.map (FPt.te κ W)) acc σ H fun out H1=>Q (.str out) H1
 | [],acc,ρ,H,G,o,q=>q H G o (Same.refl G) _ rfl
 | .c s::ps,acc,ρ,H,G,o,q=>by
  unfold mJs at q
  split at q
  ·rename_i hl
   exact ⟨s,rfl,by rw [sizeLine_eq];omega,yEk o q⟩
  ·exact q.elim
 | .m m::ps,acc,ρ,H,G,o,q=>by
  unfold mJs at q
  refine xB1 o (Pst.bind q) fun d ρ1 H1 G1 o1 s1 q1 v r1=> ?_
  obtain ⟨x,ed,q2⟩:=Pst.opt (Pst.bind q1)
  have q2:=q2 H1 G1 o1 (Same.refl G1)
  obtain ⟨hx,r1⟩:=yGh r1 ed
  split at q2
  ·rename_i hl
   have rest:=yEk o1 q2
   rcases r1 with ⟨y,rfl,h,rfl⟩|⟨i,rfl,h,rfl⟩
   ·exact .inl ⟨_,rfl,h,_,rfl,by rw [sizeLine_eq];omega,rest⟩
   ·exact .inr ⟨i,rfl,h,_,rfl,by rw [sizeLine_eq];omega,rest⟩
  ·exact q2.elim
theorem e_js (h:FJ X κ W (e1::e2::es) ps):PE X (.JoinedStr (e1::e2::es) pos) (tE κ W (mJs ps Str.empty)):=
 PE.imp (pe_joined h.pj) fun _ _ _ ⟨_,_,_,o,q⟩=>yEk o q
end
theorem yIo (h:p (.va (.str acc)) ρ):Wp (mJs [] acc) ρ p E:=yH5 h
theorem yFm (hl:(acc++s).length<=1000000)(h:Wp (mJs ps (acc++s)) ρ p E):Wp (mJs (.c s::ps) acc) ρ p E:=by
 unfold mJs
 rw [if_pos hl]
 exact h
theorem yE0 (h:Wp (fE m) ρ (fun d ρ1=> ∃ x,fmtD d=some x/\(acc++x).length<=1000000/\Wp (mJs ps (acc++x)) ρ1 p E) E):Wp (mJs (.m m::ps) acc) ρ p E:=by
 unfold mJs
 refine xAk (h.mono (fun a ρ1 h=> ?_) fun _ _ z=>z)
 obtain ⟨x,ex,hl,h⟩:=h
 refine xAk (xPd ⟨x,ex,?_⟩)
 rw [if_pos hl]
 exact h
def mLClr (i:Nat):M SD:=fun ρ=>match ρ[i]? with
 | some (.ow (.lst b _))=> .ok (.va .non) (ρ.set i (.ow (.lst b [])))
 | _=> .no
def appT:SD->M SD
 | .ow (.lst _ l)=>if l.length<1000000 then M.ret (.va .non) else M.no
 | _=>M.no
def mAppT (m:M SD):M SD:=m.bind appT
section
variable {X:Cx}{κ:Ctx}{W:WX}{σ:L2.St}{H:Hp}{Q:VK}
end
end Fm
namespace Fm
section
open PySem PySem.Spec
section
variable {prog:Program}{w:World}{A:Around}{E:Value->Shared->Prop}{s:Shared}{K:PySem.W.Frag}{a C f:Addr}{ox:Obj}{od:Option Obj}{v:Value}{T id:String}
end
structure Chn (prog:Program)(w:World)(A:Around)(E:Value->Shared->Prop)(l:Addr)(N:Nat)(x:Value)(F:Shared->Prop)(P:Nat->Shared->Prop):Prop where
 go: ∀ i s,P i s-> ∃ (items:Array Value) (n:Nat) (dd:Option Addr) (sl:Array (Option Value)),s.heap.get? l=some { cls:= .type "list",dict:=dd,data:= .seq items n,slots:=sl }/\items.size=N/\(∀ h:i<items.size,wpAny (model prog w) A (eqBool items[i] x) (fun b s'=>b=false/\P (i+1) s') E s)
 fin: ∀ s,P N s->F s
open MeetsSeq MeetsSeq2 MeetsSeq3 SeqRoads2 in
open MeetsSeq MeetsSeq2 MeetsSeq3 SeqRoads2 in
end
open L2 PySem PySem.Spec PyProof.Rows
def itOk (K:PySem.W.Frag)(H:Hp)(y:V):Prop:=(∃ s,y= .str s)\/(∃ i,y= .int i)\/ ∃ b zs,y= .ref b/\SqT K H b zs
def chS (K:PySem.W.Frag)(C:Addr)(sp:Sp)(a l:Addr)(xs:List V):List V->Hp->(Hp->Prop)->Prop
 | [],H,Q=>H l=some (.lst xs)/\Q H
 | y::ys,H,Q=>H l=some (.lst xs)/\(∃ dx fs,H a=some (.ins C dx fs))/\itOk K H y/\sp [.ref a,y] H (fun v H'=>v= .bl false/\chS K C sp a l xs ys H' Q) fun _ _ _=>False
def rInI (K:PySem.W.Frag)(C:Addr)(sp:Sp):R2:=fun x y H Q=> ∃ a l xs,x= .ref a/\y= .ref l/\chS K C sp a l xs xs H fun H'=>Q (.bl false) H'
section
variable {X:Cx}{κ:Ctx}{c:String}{k:Nat}{ps:List Str}{fs:List SD->FR}{f:Addr}{fd:FuncData}
end
def itD:D->Bool
 | .str _| .int _| .tup _=>true
 | _=>false
def inIL (fs:List SD->FR)(d:D):List D->Bool
 | []=>true
 | e::l=>itD e&&(match fs [.va d,.va e] with
  | .ok (.va (.bl false)) _=>inIL fs d l
  | _=>false)
def inID (c:String)(fs:List SD->FR)(d e:D):Option SD:=match d,e with
 | .ins b c1 m,.lst _ l=>if c1=c then (if inIL fs (.ins b c1 m) l then some (.va (.bl false)) else none) else none
 | _,_=>none
section
variable {X:Cx}{κ:Ctx}{c:String}{k:Nat}{ps:List Str}{fs:List SD->FR}{B:Bas}{ρ:List SD}{σ:L2.St}
end
end Fm
namespace Fm
open L2 PySem PySem.Spec PyProof.Rows
open PySem.W (EqTree)
def eAt (l m:List (Key×D))(k:Key):Bool:=match getK l k,getK m k with
 | some (.int i),some (.int j)=>i==j
 | _,_=>false
def dkEq (l m:List (Key×D)):Bool:=l.length==m.length&&(l.map (·.1)).all fun k=>(getK m k).isSome&&eAt l m k
def isI:D->Bool
 | .int _=>true
 | _=>false
def intK (l:List (Key×D)):Bool:=(l.all fun p=>isI p.2)&&decide (l.map (·.1)).Nodup
def cmp7 (d e:D):Option Bool:=match d,e with
 | .dk _ l,.dk _ m=>if intK l&&intK m then some (dkEq l m) else none
 | d,e=>if d.pl 60&&e.pl 60 then some (peq d e) else none
def eq7L:List D->List D->Option (List Bool)
 | [],[]=>some []
 | d::l,e::m=>(cmp7 d e).bind fun b=>(eq7L l m).map (b:: ·)
 | _,_=>none
def eq7D (d e:D):Option SD:=match d,e with
 | .tup l,.tup m=>(eq7L l m).map fun bs=> .va (.bl (bs.all id))
 | _,_=>none
section
variable {X:Cx}{κ:Ctx}
def EqB (X:Cx)(H:Hp)(n:Nat)(x y:V)(b:Bool):Prop:= ∀ (pins:List (Addr×Obj)) (σ:L2.St) (s:Shared) (v u:Value),Inv X pins σ H s->RelV x v->RelV y u->EqTree X.prog X.w s n v u b
theorem xN7: ∀ {l:List (Key×D)},(l.map (·.1)).Nodup->(k,d)∈l->getK l k=some d
 | (k0,d0)::l,h,m=>by
  rw [xCr]
  obtain ⟨h1,h2⟩:=(yLo.mp h)
  rcases (yLp.mp m) with e|e
  ·cases e
   exact if_pos rfl
  ·rw [if_neg fun z=>h1 (yLg.mpr ⟨_,e,z.symm⟩)]
   exact xN7 h2 e
theorem xR1 {l:List (Key×D)}(h:intK l=true)(m:(k,d)∈l):getK l k=some d/\ ∃ i,d= .int i:=by
 obtain ⟨h1,h2⟩:=and2 h
 have z:=yLu.mp h1 _ m
 refine ⟨xN7 (of_decide_eq_true h2) m,?_⟩
 cases d <;> first|exact ⟨_,rfl⟩|cases z
theorem xO9 {κ:Ctx}{T:Pd}{G:Hp}: ∀ {l:List (Key×D)} {vs:List (Key×V)},RepK κ T G l vs->vs.map (·.1)=l.map (·.1)
 | [],vs,r=>by rw [show vs=[] from r];rfl
 | (k,d)::l,vs,r=>by
  obtain ⟨v,ws,rfl,_,r⟩:=r
  rw [yLx,yLx,xO9 r]
theorem yE4 {ks:List (Key×V)}{va:List (Key×Value)}(r:KV ks va):va.map (·.1)=ks.map (·.1):=by
 unfold KV at r
 induction r with
 | nil=>rfl
 | cons h t ih=>rw [yLx,yLx,ih,h.1]
theorem yEx {s:Shared}{l m:List (Key×D)}{ks ls:List (Key×V)}{va vb:List (Key×Value)}(i1:intK l=true)(i2:intK m=true)(ra:RepK κ T G l ks)(rb:RepK κ T G m ls)(qa:KV ks va)(qb:KV ls vb):
  (∀ k v y,(k,v)∈va->valueAt vb k=some y->EqTree X.prog X.w s 64 v y (eAt l m k))/\(va.length==vb.length&&va.all fun p=>(valueAt vb p.1).isSome&&eAt l m p.1)=dkEq l m:=by
 have some_of: ∀ k,(valueAt vb k).isSome=(getK m k).isSome:=fun k=>by
  rw [(rb.val k).2]
  exact (RelO.isSome_eq (qb.val k)).symm
 refine ⟨fun k v y hm hv=> ?_,?_⟩
 ·obtain ⟨xv,xm,rv⟩:=yIi qa hm
  obtain ⟨d,dm,rd⟩:=xSq ra xm
  obtain ⟨e1,i,rfl⟩:=xR1 i1 dm
  have hs:(getK m k).isSome=true:=by
   rw [<- some_of,hv]
   rfl
  obtain ⟨d2,e2⟩:=yMe.mp hs
  obtain ⟨_,j,rfl⟩:=xR1 i2 (xI6 e2)
  obtain ⟨yv,e3,r3⟩:=(rb.val k).1 _ e2
  have rr:=qb.val k
  rw [e3,hv] at rr
  unfold eAt
  rw [e1,e2]
  cases (show xv=V.int i from rd)
  cases (show yv=V.int j from r3)
  obtain ⟨t1,rfl⟩:=rv
  obtain ⟨t2,rfl⟩:=(show RelV (V.int j) y from rr)
  exact .leaf fun A hu=>SeqAt.EqAt.int_int i t1 j t2
 ·unfold dkEq
  rw [<- xO9 ra,<- yE4 qa,List.all_map,<- qa.length,<- qb.length,ra.length,rb.length]
  refine congrArg _ (congrArg _ ?_)
  funext p
  show _=((getK m p.1).isSome&&eAt l m p.1)
  rw [some_of]
def rEq7 (X:Cx):R2:=fun x y H Q=> ∃ a b xs ys bs,x= .ref a/\y= .ref b/\SqT X.K H a xs/\SqT X.K H b ys/\yMu (α:=Bool) bs=xs.length/\bs.length=ys.length/\(∀ (pins:List (Addr×Obj)) (σ:L2.St) (s:Shared) (us ws:List Value),Inv X pins σ H s->Vals xs us->Vals ys ws->
  ∀ j (h1:j<us.length) (h2:j<ws.length) (h3:j<bs.length),EqTree X.prog X.w s 65 us[j] ws[j] bs[j])/\Q (.bl (bs.all id)) H
def rEq8 (X:Cx):R2:=fun x y H Q=> ∃ (a b:Addr) (ks ls:List (Key×V)) (e:Key->Bool) (r:Bool),x= .ref a/\y= .ref b/\Rd H a (.dK ks)/\Rd H b (.dK ls)/\(∀ (s:Shared) (va vb:List (Key×Value)),KV ks va->KV ls vb->(∀ k v y,(k,v)∈va->valueAt vb k=some y->EqTree X.prog X.w s 64 v y (e k))/\
  (va.length==vb.length&&va.all fun p=>(valueAt vb p.1).isSome&&e p.1)=r)/\Q (.bl r) H
def eq8D (d e:D):Option SD:=match d,e with
 | .dk _ l,.dk _ m=>if intK l&&intK m then some (.va (.bl (dkEq l m))) else none
 | _,_=>none
theorem yIv (hu:X.A.units+95<cLine):OpR X (compareOp .Eq) (rEq8 X):=by
 intro pins s σ H x y v u Q I rx ry hh
 obtain ⟨a,b,ks,ls,e,r,rfl,rfl,ha,hb,t,q⟩:=hh
 have ev:v=Value.ref a:=rx
 subst ev
 have eu:u=Value.ref b:=ry
 subst eu
 obtain ⟨ya,va,qa,da⟩:=xU7 I ha
 obtain ⟨yb,vb,qb,db⟩:=xU7 I hb
 obtain ⟨each,er⟩:=t s va vb qa qb
 refine PySem.W.eq_dictsT (n:=64) (e:=e) ya yb da db each (by omega) ?_
 rw [er]
 exact ⟨V.bl r,H,I,rfl,q⟩
theorem yI3:OpD κ (rEq8 X) eq8D:=by
 intro B ρ σ H G d e x y z Q o r1 r2 hz q
 unfold eq8D at hz
 split at hz
 ·rename_i b l b2 m
  split at hz
  ·rename_i hi
   cases hz
   obtain ⟨i1,i2⟩:=and2 hi
   obtain ⟨a,vs,rfl,⟨ha,_⟩,ra⟩:=r1
   obtain ⟨a2,ws,rfl,⟨hb,_⟩,rb⟩:=r2
   exact ⟨a,a2,vs,ws,eAt l m,dkEq l m,rfl,rfl,Rd.mono o.fr.gh ha.rd,Rd.mono o.fr.gh hb.rd,fun s va vb qa qb=>yEx i1 i2 ra rb qa qb,q _ H G o (Same.refl G) rfl⟩
  ·cases hz
 ·cases hz
end
theorem o_eq8 {p:SD->Prop}(i1:intK l=true)(i2:intK m=true)(h:p (.va (.bl (dkEq l m)))):Ow (eq8D (.dk b l) (.dk b2 m)) p:=⟨_,if_pos (by rw [i1,i2];rfl),h⟩
section
variable {X:Cx}{κ:Ctx}{W:WX}
def mNotI (c:String)(fs:List SD->FR)(m:M SD):M SD:=(fE m).bind fun d=>M.opt ((yEw c fs d).map fun b=> .va (.bl (!b)))
def revD:D->Option SD
 | .lst _ l=>some (.ow (.lst false l.reverse))
 | _=>none
end
def isRf:D->Bool
 | .lst _ _| .dk _ _=>true
 | _=>false
def xI0 (j:Nat)(s:S):S:=fun ρ=>match ρ[j]? with
 | some (.va d)=>if isRf d then (match s (ρ.set j .un) with
  | .ok f ρ'=> .ok f (ρ'.set j (.va d))
  | .ex x ρ'=> .ex x (ρ'.set j (.va d))
  | .no=> .no) else .no
 | _=> .no
section
variable {κ:Ctx}{B:Bas}{ρ ρ':List SD}{σ σ':L2.St}{H H' G G' N:Hp}{i j:Nat}{p q:Addr}{X:Cx}{W:WX}
theorem Ok.an (o:Ok κ B ρ σ H G){an:List (Nat×Addr)}(h: ∀ i p,(i,p)∈an->σ[i]? =some (some (V.ref p))):Ok κ ⟨B.H,B.G,B.T,an⟩ ρ σ H G:=
 ⟨⟨o.fr.keep,o.fr.nt,o.fr.frz,o.fr.sub,o.fr.gh,o.fr.notb,o.fr.tabs,o.fr.lent⟩,o.len,o.val,o.own,o.sep,h⟩
theorem Ok.fact (o:Ok κ B ρ σ H G)(hj:j<ρ.length)(e:σ[j]? =some (some v))(r:Rep κ B.T G d v):Ok κ B (ρ.set j (.va d)) σ H G:=by
 have ow: ∀ {k:Nat} {x:D},(ρ.set j (.va d))[k]? =some (.ow x)->ρ[k]? =some (.ow x):=fun {k x} z=>by
  by_cases hk:j=k
  ·rw [<- hk,yK8 hj] at z
   cases z
  ·rw [yLa hk] at z
   exact z
 refine ⟨o.fr,by rw [yLm];exact o.len,fun k x z=> ?_,fun k x z=>o.own k x (ow z),fun k l q x y hkl z1 z2=>o.sep k l q x y hkl (ow z1) (ow z2),o.anch⟩
 by_cases hk:j=k
 ·rw [<- hk,yK8 hj] at z
  cases z
  exact ⟨v,by rw [<- hk];exact e,r⟩
 ·rw [yLa hk] at z
  exact o.val k x z
abbrev anB (B:Bas)(j:Nat)(q:Addr):Bas:=⟨B.H,B.G,B.T,(j,q)::B.an⟩
theorem yGb (o:OOkP κ B i p N ρ σ H G)(hij:j≠i)(e:ρ[j]? =some (.va d))(hd:isRf d=true): ∃ q,Rep κ B.T G d (.ref q)/\OOkP κ (anB B j q) i p N (ρ.set j .un) σ H G:=by
 obtain ⟨b,c,l,dx,vs,n,e0,ok⟩:=o
 obtain ⟨v,e1,r⟩:=ok.val j d (by rw [yLa (Ne.symm hij)];exact e)
 obtain ⟨q,rfl⟩: ∃ q,v= .ref q:=by
  cases d with
  | lst _ _=>
   obtain ⟨a,_,e,_⟩:=r
   exact ⟨a,e⟩
  | dk _ _=>
   obtain ⟨a,_,e,_⟩:=r
   exact ⟨a,e⟩
  | _=>cases hd
 refine ⟨q,r,b,c,l,dx,vs,⟨n.free,n.gfree,n.bg,n.nt,n.mu,n.here,n.fld,n.okF,n.nd,n.inN⟩,by rw [yLa hij];exact e0,?_⟩
 have ok2:=ok.drop j
 rw [List.set_comm _ _ (Ne.symm hij)] at ok2
 refine ok2.an (an:=(i,p)::(j,q)::B.an) fun k a hk=> ?_
 rcases yLp.mp hk with z|hk
 ·cases z
  exact ok.anch i p (yK3 ..)
 ·rcases yLp.mp hk with z|hk
  ·cases z
   exact e1
  ·exact ok.anch k a (yK7 _ hk)
theorem xZs (o:OOkP κ (anB B j q) i p N ρ' σ' H' G')(hij:j≠i)(r:Rep κ B.T G' d (.ref q)):OOkP κ B i p N (ρ'.set j (.va d)) σ' H' G':=by
 obtain ⟨b,c,l,dx,vs,n,e0,ok⟩:=o
 have hj:j<(ρ'.set i .un).length:=xGf ok (show (j,q)∈(i,p)::(j,q)::B.an from yK7 _ (yK3 ..))
 refine ⟨b,c,l,dx,vs,⟨n.free,n.gfree,n.bg,n.nt,n.mu,n.here,n.fld,n.okF,n.nd,n.inN⟩,by rw [yLa hij];exact e0,?_⟩
 rw [List.set_comm _ _ hij]
 refine Ok.fact (Ok.an (an:=(i,p)::B.an) ok fun k a hk=> ?_) hj (ok.anch j q (show (j,q)∈(i,p)::(j,q)::B.an from yK7 _ (yK3 ..))) r
 rcases yLp.mp hk with z|hk
 ·cases z
  exact ok.anch i p (yK3 ..)
 ·exact ok.anch k a (show (k,a)∈(i,p)::(j,q)::B.an from yK7 _ (yK7 _ hk))
theorem yAm (o:OOkP κ (anB B j q) i p N ρ' σ' H' G')(rr:RepR κ (opB (anB B j q) i p N) (ρ'.set i .un) σ' H' G' r v):RepR κ (opB B i p N) ((ρ'.set j (.va d)).set i .un) σ' H' G' r v:=by
 obtain ⟨b,c,l,dx,vs,n,e0,ok⟩:=o
 have hj:j<(ρ'.set i .un).length:=xGf ok (show (j,q)∈(i,p)::(j,q)::B.an from yK7 _ (yK3 ..))
 rw [yLm] at hj
 cases r with
 | un=>exact rr.elim
 | va d=>exact rr
 | ow d=>
  obtain ⟨a,q1,q2,q3,q4,q5⟩:=rr
  refine ⟨a,q1,q2,q3,q4,fun k e z=>q5 k e ?_⟩
  by_cases hk:i=k
  ·rw [<- hk] at z
   have hl:=(yK5.mp z).1
   rw [yLm] at hl
   rw [yK8 hl] at z
   cases z
  ·rw [yLa hk] at z ⊢
   by_cases hk2:j=k
   ·rw [<- hk2,yK8 hj] at z
    cases z
   ·rw [yLa hk2] at z
    exact z
theorem xIn {st:Stmt}{s:S}(j:Nat)(h:PS X st (tOb κ (j::A) W i s))(hij:(j==i)=false:=by rfl):PS X st (tOb κ A W i (xI0 j s)):=by
 have hij:j≠i:=fun z=>by
  rw [z,beq_self_eq_true] at hij
  cases hij
 refine PS.imp h fun D σ H ⟨B,p,N,ρ,G,a,o,Q⟩=> ?_
 unfold xI0 at Q
 split at Q
 ·rename_i d e
  split at Q
  ·rename_i hd
   obtain ⟨q,r,o2⟩:=yGb o hij e hd
   refine ⟨anB B j q,p,N,ρ.set j .un,G,fun z hz=> ?_,o2,?_⟩
   ·rcases yLp.mp (show z∈(j,q)::B.an from hz) with y|y
    ·rw [y]
     exact yK3 ..
    ·exact yK7 _ (a z y)
   ·have back: ∀ {p':Addr} {N':Hp} {ρ':List SD} {σ':L2.St} {H' G':Hp},OOkP κ (anB B j q) i p' N' ρ' σ' H' G'->Same G G'->OOkP κ B i p' N' (ρ'.set j (.va d)) σ' H' G':=fun {p' N' ρ' σ' H' G'} o' s'=>xZs o' hij (Rep.mono (.of s') _ r)
    cases es:s (ρ.set j .un) with
    | no=>
     rw [es] at Q
     exact Q.elim
    | ex x ρ'=>
     rw [es] at Q
     exact fun cls dd p' N' σ' H' G' o' s' rx=>Q cls dd p' N' σ' H' G' (back o' s') s' rx
    | ok fl ρ'=>
     rw [es] at Q
     cases fl with
     | nx=>exact fun p' N' σ' H' G' o' s'=>Q p' N' σ' H' G' (back o' s') s'
     | bk=>exact fun p' N' σ' H' G' o' s'=>Q p' N' σ' H' G' (back o' s') s'
     | ct=>exact fun p' N' σ' H' G' o' s'=>Q p' N' σ' H' G' (back o' s') s'
     | rt r=>exact fun v p' N' σ' H' G' o' s' rv=>Q v p' N' σ' H' G' (back o' s') s' (yAm o' rv)
  ·exact Q.elim
 ·exact Q.elim
end
theorem xIs {d:D}{s:S}{E:Exn->List SD->Prop}{p:Fl->List SD->Prop}(e:ρ[j]? =some (.va d))(hd:isRf d=true)(h:Wp s (ρ.set j .un) (fun f ρ'=>p f (ρ'.set j (.va d))) fun x ρ'=>E x (ρ'.set j (.va d))):Wp (xI0 j s) ρ p E:=by
 refine ⟨?_⟩
 have h:=h.run
 unfold xI0
 simp only [e]
 rw [if_pos hd]
 cases es:s (ρ.set j .un) with
 | ok f ρ'=>
  rw [es] at h
  exact h
 | ex x ρ'=>
  rw [es] at h
  exact h
 | no=>
  rw [es] at h
  exact h
set_option maxHeartbeats 990000
section
variable {prog:Program}{w:World}{A:Around}{E:Value->Shared->Prop}{s:Shared}
theorem xUs (hh:A.handled=none)(I ax:Addr)(hne:ax≠I)(items:Array Value)(j:Nat)(hj:j<=items.size):
  Walks prog w A I [I,ax] [I] (items.size-j) (fun i v=>items[j+i]? =some v) (fun i h=>h.IsListIter I ax (j+i)/\h.IsList ax items) where
 sub:=fun b hb=>yLp.mpr (.inl (yLl.mp hb))
 frame:=fun i h h' st hk=>⟨st.1.at fun o e=>hk I (yK3 ..) o e,st.2.at fun o e=>hk ax (yK7 _ (yK3 ..)) o e⟩
 item:=fun i s Q E hi st hQ=>by
  have hlt:j+i<items.size:=by omega
  refine wpAny_pyNext_list_item st.1 st.2 (x:=items[j+i]) (Array.getElem?_eq_getElem hlt) fun h' hit' hs'=> ?_
  exact hQ _ h' s.toks (Array.getElem?_eq_getElem hlt) ⟨hit',st.2.extBut hs'.extBut hne⟩ fun b o hb e=>hs'.extBut b o (fun h=>hb (yLl.mpr h)) e
 done:=fun s Q E st hQ=>wpAny_pyNext_list_end hh st.1 st.2 (Array.getElem?_eq_none (by omega)) fun h' he'=>hQ h' s.toks fun b o hb e=>he' b o (fun h=>hb (yLl.mpr h)) e
 self:=fun i s Q E st hQ=>wpAny_pyIter_listiter st.1 hQ
theorem xTz {l:Addr}{items:Array Value}{k:Nat}{Q:List Value->Shared->Prop}(hh:A.handled=none)(hl:s.heap.IsList l items)(hk:k<=items.size)(hz:items.size<=sizeLine)
  (hQ: ∀ s':Shared,Moved [] (fun a b=>b=a) s s'->Q (items.toList.take k++[.ref s'.heap.objs.size]) { s' with heap:=s'.heap.push { cls:= .type "list",data:= .seq (items.toList.drop k).toArray } }):
  wpAny (model prog w) A (unpackItems (.ref l) (k+1) (some k)) Q E s:=by
 have hlt:l≠s.heap.objs.size:=by
  obtain ⟨o,ho,_⟩:=hl
  exact (yMw (Heap.lt_size ho))
 unfold unpackItems
 refine wpAny_bind ?_
 unfold notIterableAtAll
 refine (wpAny_bind (wpAny_specialOf hl.typeIs slot_list_iter.lookup ?_))
 refine wpAny_pure ?_
 (simp only [yM7,if_false])
 refine (wpAny_bind (wpAny_holding (wpAny_pyIter_list hl ?_)))
 refine wpAny_bind (wpAny_holding (PySem.W.kun_draw hlt k 0 _ _ ⟨_,Heap.get?_push_size _ rfl,rfl,rfl⟩ (hl.push _) (by omega) fun h₁ hit₁ hs₁=> ?_))
 have hl₁:h₁.IsList l items:=(hl.push _).extBut hs₁.extBut hlt
 have ft:(items.toList.drop 0).take k=items.toList.take k:=by rw [yMs]
 have fl:((items.toList.drop 0).take k).length=k:=by
  rw [ft,yLv,Array.length_toList]
  omega
 rw [if_neg (by rw [fl];exact Nat.lt_irrefl _)]
 have hs:s.heap.objs.size<h₁.objs.size:=Heap.lt_size hit₁.choose_spec.1
 have hls:l<h₁.objs.size:=by
  obtain ⟨o,ho,_⟩:=hl₁
  exact Heap.lt_size ho
 have hit2:h₁.IsListIter s.heap.objs.size l (k+0):=by
  rw [Nat.zero_add] at hit₁
  exact hit₁
 have kept: ∀ b o,s.heap.get? b=some o->h₁.get? b=some o:=fun b o e=>hs₁.extBut b o (yMw (Heap.lt_size e)) (Heap.get?_push_of_some _ e)
 refine wpAny_bind (wpAny_holding (wpAny_collect_iter (.inr (.inr (.inl rfl))) (xUs (A:=A.in1) hh _ l hlt items k hk).toS (fun i s' st=>st.1.typeIs) ⟨hit2,hl₁⟩ (fun b hb=> ?_) (yK3 ..) (fun s' acc mv ac=> ?_) (by omega)))
 ·rcases (yLp.mp hb) with rfl|hb
  ·exact hs
  ·(rw [yLl.mp hb])
   exact hls
 have er:acc.toList=items.toList.drop k:=by
  refine yMy fun i=> ?_
  (rw [List.getElem?_drop,Array.getElem?_toList,Array.getElem?_toList])
  by_cases hi:i<acc.size
  ·have:=ac.2 i acc[i] (Array.getElem?_eq_getElem hi)
   rw [Array.getElem?_eq_getElem hi,this]
  ·rw [Array.getElem?_eq_none (by omega),Array.getElem?_eq_none (by have:=ac.1;omega)]
 have z:k+1-1-k=0:=by omega
 rw [er,z,if_neg (Nat.not_lt_zero _),Nat.sub_zero,List.take_length,List.drop_length,ft]
 refine wpAny_bind (wpAny_newList ?_ (by rw [yL0,Array.length_toList];omega))
 refine wpAny_pure ?_
 rw [yL9]
 refine hQ s' ⟨fun b o _ e=>mv.heap b o (fun h=> ?_) (kept b o e),mv.gens,mv.drawn,mv.os,mv.toks⟩
 rw [yLl.mp h] at e
 exact absurd (Heap.lt_size e) (Nat.lt_irrefl _)
end
def gStL (K:PySem.W.Frag)(k:Nat)(t:TGs):TG:=fun v σ H Q=> ∃ a xs,v= .ref a/\SqL K H a xs/\k<=xs.length/\ ∀ p,H p=none->t (xs.take k++[.ref p]) σ (upd H p (.lst (xs.drop k))) Q
section
variable {X:Cx}{κ:Ctx}{A vs:List Nat}{pos:Pos}
theorem xKo: ∀ {xs:List V} {us:List Value} (k:Nat),Vals xs us->Vals (xs.take k) (us.take k)/\Vals (xs.drop k) (us.drop k)
 | _,_,0,r=>⟨.nil,r⟩
 | _,_,k+1,.nil=>⟨.nil,.nil⟩
 | _,_,k+1,.cons r rr=>⟨.cons r (xKo k rr).1,(xKo k rr).2⟩
theorem xSc: ∀ {xs ys:List V} {us vs:List Value},Vals xs us->Vals ys vs->Vals (xs++ys) (us++vs)
 | _,_,_,_,.nil,r=>r
 | _,_,_,_,.cons a b,r=> .cons a (xSc b r)
theorem yDy {es es2:List Expr}{k j:Nat}{t:TGs}(hc:X.calm=true)(h:PGs X es2 t)(ha:(assignEach es X.env).map (·.2)=(assignEach es2 X.env).map (·.2):=by rfl)
  (hn:(assignEach es X.env).length=k+1:=by rfl) (hst:(assignEach es X.env).findIdx? (·.1)=some k:=by rfl):PG X (.Tuple es j pos) (gStL X.K k t):=by
 refine (⟨fun pins s σ H v u Q I r hw=> ?_⟩)
 obtain ⟨a,xs,e1,hq,hl,hw⟩:=(hw)
 subst e1
 cases r
 obtain ⟨its,rv,pl,hz⟩:=(I.list hq)
 have hz2:its.toArray.size<=sizeLine:=by
  rw [yMz,<- rv.length]
  exact hz
 (rw [PyProof.Rows.assign_Tuple])
 refine (wpAny_bind (wpAny_standAt ?_))
 unfold unpack
 rw [hn,hst,ha]
 refine wpAny_bind (wpAny_holding (xTz (I.ok.hd hc) pl.isList (by rw [yMz,<- rv.length];exact hl) hz2 fun s' mv=> ?_))
 have I1:Inv X pins σ H { s with heap:=s'.heap,toks:=s'.toks }:=I.kept fun b o e=>mv.heap b o (fun z=>nomatch z) e
 have es':s'={ s with heap:=s'.heap,toks:=s'.toks }:=by
  obtain ⟨h1,h2,h3,h4,h5⟩:=s'
  have a1:=mv.gens
  have a2:=mv.drawn
  have a3:=mv.os
  dsimp only at a1 a2 a3
  rw [a1,a2,a3]
 have hf:H s'.heap.objs.size=none:=I1.hok.fresh (yLq _)
 have tk:=xKo k rv
 have I2:=I1.laid (t':=s'.toks) (h':=s'.heap.push { cls:= .type "list",data:= .seq (its.drop k).toArray }) (o:= .lst (xs.drop k)) (fun b u e=>Heap.get?_push_of_some _ e) (yLq _)
  (show ObjOk X.prog X.w _ _ _ (.lst (xs.drop k)) from ⟨by rw [yL0];exact yLt (Nat.sub_le ..) hz,its.drop k,0,tk.2,Heap.get?_push_size _ rfl⟩)
 rw [es']
 exact h.run pins _ σ _ (xs.take k++[.ref s'.heap.objs.size]) _ Q I2 (xSc tk.1 (.cons (show L2.RelV (V.ref s'.heap.objs.size) (.ref s'.heap.objs.size) from rfl) .nil)) (hw _ hf)
def xZp (k:Nat)(r:List D->List SD->Option (List SD)):D->List SD->Option (List SD)
 | .lst _ l,ρ=>if k<=l.length then r (l.take k++[.lst false (l.drop k)]) ρ else none
 | _,_=>none
theorem xMh {T:Pd}{G:Hp}: ∀ {ds:List D} {ws:List V} (k:Nat),RepL κ T G ds ws->RepL κ T G (ds.take k) (ws.take k)/\RepL κ T G (ds.drop k) (ws.drop k)
 | ds,ws,0,r=>⟨rfl,r⟩
 | [],ws,k+1,r=>by
  cases r
  exact ⟨rfl,rfl⟩
 | d::ds,ws,k+1,r=>by
  obtain ⟨v,us,rfl,r1,r2⟩:=r
  exact ⟨⟨v,us.take k,rfl,r1,(xMh k r2).1⟩,(xMh k r2).2⟩
theorem xTg {T:Pd}{G:Hp}: ∀ {ds es:List D} {ws us:List V},RepL κ T G ds ws->RepL κ T G es us->RepL κ T G (ds++es) (ws++us)
 | [],es,ws,us,r,q=>by
  cases r
  exact q
 | d::ds,es,ws,us,r,q=>by
  obtain ⟨v,vs,rfl,r1,r2⟩:=r
  exact ⟨v,vs++us,rfl,r1,xTg r2 q⟩
theorem yB4 {es es2:List Expr}{k j:Nat}{gr:List D->List SD->Option (List SD)}(hK:X.K=κ.K)(hc:X.calm=true)(h:PGs X es2 (tGs κ A vs gr))(ha:(assignEach es X.env).map (·.2)=(assignEach es2 X.env).map (·.2):=by rfl)
  (hn:(assignEach es X.env).length=k+1:=by rfl) (hst:(assignEach es X.env).findIdx? (·.1)=some k:=by rfl):PG X (.Tuple es j pos) (tG κ A vs (xZp k gr)):=by
 refine PG.imp (yDy hc h ha hn hst) fun v σ H Q ⟨B,ρ,G,d,ρ',a,o,r,e,q⟩=> ?_
 cases d with
 | lst b l=>
  unfold xZp at e
  dsimp only at e
  by_cases hl:k<=l.length
  ·rw [if_pos hl] at e
   obtain ⟨p,ws,rfl,⟨r1,_⟩,r2⟩:=r
   refine ⟨p,ws,rfl,SqL.of (o.fr.gh _ _ r1),by rw [r2.length];exact hl,fun p2 hp=> ?_⟩
   have tk:=xMh k r2
   have o1:=o.allocOwn (o:= .lst (ws.drop k)) hp
   obtain ⟨G',s,o2,r3⟩:=o1.frzR (o.newOwn hp (d:= .lst false (l.drop k)) ⟨ws.drop k,upd_same,tk.2⟩)
   refine ⟨B,ρ,G',_,ρ',a,o2,?_,e,fun σ' H' G2 o3 s3 w3=>q σ' H' G2 o3 (s.trans s3) w3⟩
   exact xTg (RepL.mono (.of s) _ tk.1) ⟨.ref p2,[],rfl,r3,rfl⟩
  ·rw [if_neg hl] at e
   cases e
 | _=>cases e
end
def xWr (b:S):S:=fun ρ=>match b ρ with
 | .ex _ _=> .no
 | r=>r
inductive ClNs (X:Cx)(i:Nat)(n:Str):List ExceptHandler->List Value->Prop
 | nil:ClNs X i n [] []
 | cons {x:Str} {cv:Value} {b0:Stmt} {b:List Stmt} {p q:Pos} {hds:List ExceptHandler} {l:List Value} (hx:Names X x cv) (r:ClNs X i n hds l):ClNs X i n (.ExceptHandler (some (.Name x p)) (some n) (b0::b) q::hds) (cv::l)
section
variable {X:Cx}{κ:Ctx}{A:List Nat}{Wout:WX}{i:Nat}{n:Str}{body:List Stmt}{b:S}{pos:Pos}{l:List Value}{hd:ExceptHandler}{hds:List ExceptHandler}
def clN (i:Nat)(cv:Value):Cl:=⟨cv,i,fun _ _ _ _ _ _=>False⟩
theorem ClNs.ok (k:ClNs X i n hds l)(i1:X.N[i]? =some n)(l1:X.env.kindOf n=some .local):ClsOk X hds (l.map (clN i)):=by
 induction k with
 | nil=>exact .nil
 | @cons x cv b0 b p q hds l hx r ih=>exact .cons (q:=clN i cv) hx i1 l1 (fun y oe cls d pn z dt=>⟨fun pins s σ H D I (q:False)=>q.elim⟩) ih
theorem yJz (k:ClNs X i n (hd::hds) l)(hs:X.stack=X.env::X.outer)(hf:X.env.frame=some X.env.locals)(hN:X.N.Nodup)(tk:Takes X Wout)(i1:X.N[i]? =some n)(l1:X.env.kindOf n=some .local)
  (hb: ∀ (W:WX) (pn:List (Addr×Obj)) (xe:Value->Shared->Prop),Takes (X.tr pn xe) W->PassesOwn (model X.prog X.w) X.A X.env xe->PSs (X.tr pn xe) body (tS κ A W b)):
  PS X (.Try body (hd::hds) [] [] pos) (tS κ A Wout (xWr b)):=by
 refine PS.imp (xTy hs hf hN tk hb (k.ok i1 l1)) fun D σ H ⟨B,ρ,G,an,o,q⟩=>⟨B,ρ,G,an,o,?_⟩
 unfold xWr at q
 cases e:b ρ with
 | no=>
  rw [e] at q
  exact q
 | ok fl ρ'=>
  rw [e] at q
  cases fl <;> exact q
 | ex x ρ'=>
  rw [e] at q
  exact q.elim
end
theorem yKq {E:Exn->List SD->Prop}{p:Fl->List SD->Prop}{b:S}{ρ:List SD}(h:Wp b ρ p fun _ _=>False):Wp (xWr b) ρ p E:=by
 refine ⟨?_⟩
 have h:=h.run
 unfold xWr
 cases e:b ρ with
 | ok fl ρ'=>
  rw [e] at h
  exact h
 | no=>
  rw [e] at h
  exact h
 | ex x ρ'=>
  rw [e] at h
  exact h.elim
def Ite1 (K:PySem.W.Frag)(a:Addr):It:=
 ⟨fun i H=> ∃ (xs:List V) (x:V),SqL K H a xs/\xs[i]? =some x,fun i H v H'=> ∃ T x,v= .ref T/\H T=none/\H'=upd H T (.tup [.int ((i:Nat)+1),x])/\ ∀ xs,SqL K H a xs->xs[i]? =some x,
  fun i H=> ∃ xs:List V,SqL K H a xs/\xs.length<=i⟩
theorem xUn {prog:Program}{w:World}{A:Around}(hh:A.handled=none)(it l:Addr)(items:Array Value)(i:Nat)(hi:items.size<=i):
  Draws prog w A it [it,l] i (fun _ _=>True) (fun j h=>j=i/\h.IsListIter it l i/\h.IsList l items) where
 live:=fun _ _ st=>⟨_,st.2.1.choose_spec.1⟩
 frame:=fun _ _ _ st hk=>⟨st.1,st.2.1.at fun o e=>hk it (yK3 ..) o e,st.2.2.at fun o e=>hk l (yK7 _ (yK3 ..)) o e⟩
 item:=fun j s Q E hj st hQ=>absurd st.1 (yMw hj)
 done:=fun s Q E st hE=>wpAny_nextOf_list_end hh st.2.1 st.2.2 (Array.getElem?_eq_none hi) hE
theorem xUg {P:Program}{w:World}{K:PySem.W.Frag}{elts:List Expr}{kk:Nat}{tpos:Pos}(a e it:Addr):
  Turn P w K (.Tuple elts kk tpos) (Ite1 K a) [e,it] e (fun i h=>(∃ old,IsEnum h e it (((i:Nat):Int)+1) old)/\h.IsListIter it a i/\e≠it) where
 mem:=yK3 ..
 obj:=fun i h st b hb=>by
  obtain ⟨⟨old,he⟩,⟨o,ho,hc,hd⟩,_⟩:=(st)
  rcases (yLp.mp hb) with z|z
  ·rw [z]
   exact ⟨_,he,fun v q=>nomatch q⟩
  ·(rw [yLl.mp z])
   exact ⟨o,ho,fun v q=>by rw [hd] at q;cases q⟩
 keep:=fun i h h' st k=>let ⟨⟨old,he⟩,hi,hne⟩:=st;⟨⟨old,k e (yK3 ..) _ he⟩,hi.at fun o q=>k it (yK7 _ (yK3 ..)) o q,hne⟩
 item:=by
  intro X hP hw hK hc i pins s σ H E; intro I hf st hg
  subst hP hw hK
  obtain ⟨⟨old,he⟩,hit,hne⟩:=(st)
  obtain ⟨xs,x,hq,hx⟩:=hg
  obtain ⟨its,rv,p,hz⟩:=(I.list hq)
  obtain ⟨u,hu,ru⟩:=(rv.get hx)
  have hi:i<its.toArray.size:=by
   rw [yMz]
   exact (yK5.mp hu).1
  have hel:e<s.heap.objs.size:=Heap.lt_size he
  have hil:it<s.heap.objs.size:=Heap.lt_size hit.choose_spec.1
  have nea:a≠it:=fun z=>by
   obtain ⟨o,ho,hc1,hd1⟩:=hit
   obtain ⟨o2,ho2,hc2,_⟩:=p.isList
   rw [z,ho] at ho2
   cases ho2
   rw [hc1] at hc2
   exact absurd hc2 (by decide)
  have nee:e≠a:=fun z=>by
   obtain ⟨o2,ho2,hc2,_⟩:=p.isList
   rw [<- z,show s.heap.get? e=_ from he] at ho2
   cases ho2
   exact absurd (show Value.type "enumerate"=Value.type "list" from hc2) (by decide)
  refine (wpAny_with_toks (yLq s.toks) ?_)
  refine wpAny_pyNext_enum_itemC (Draws.list (A:=X.A.in1) (I.ok.hd hc) it a nea its.toArray) he ⟨hit,p.isList⟩ hi hne (fun hm=> ?_) fun y h' tk py ho hit' hT hsz hk htk=> ?_
  ·rcases yLp.mp hm with z|z
   ·exact hne z
   ·exact nee (yLl.mp z)
  have eu:y=u:=by
   have h1:its.toArray[i]? =some y:=py
   rw [List.getElem?_toArray,hu] at h1
   exact ((yLh.inj h1).symm)
  subst eu
  refine ⟨_,rfl,wpAny_letOwnedTupleGo_enum (s:={ s with heap:=h',toks:=tk+1 }) ho fun h'' he' sb=> ?_⟩
  have hT2:h''.get? s.heap.objs.size=some { cls:= .type "tuple",data:= .seq #[.int ((i:Nat)+1) tk,y] }:=(sb.2 _ (Nat.ne_of_gt hel)).trans hT
  have htk:s.toks<=tk+1:=htk
  have new:ObjOk X.prog X.w (upd H s.heap.objs.size (.tup [.int ((i:Nat)+1),x])) h'' s.heap.objs.size (.tup [.int ((i:Nat)+1),x]):=
   ⟨by show 2<=sizeLine;decide,[.int ((i:Nat)+1) tk,y],.cons ⟨_,rfl⟩ (.cons ru .nil),⟨_,hT2,rfl,_,rfl⟩⟩
  have I1:Inv X pins σ (upd H s.heap.objs.size (.tup [.int ((i:Nat)+1),x])) { s with heap:=h'',toks:=tk+1 }:=
   I.turnedNew (ch:=[e,it]) (fun b ob hb q=>(sb.2 b (fun z=>hb (by rw [z];exact yK3 ..))).trans (hk b ob (fun z=>hb (by rw [z];exact yK3 ..)) (fun z=>hb (by rw [z];exact yK7 _ (yK3 ..))) q)) hf (yLq _) new
  refine ⟨.ref s.heap.objs.size,_,I1,rfl,⟨_,x,rfl,I.hok.fresh (yLq _),rfl,fun ys hy=>by rw [I.list_inj hy hq];exact hx⟩,⟨⟨y,?_⟩,hit'.1.at fun o q=>(sb.2 it (Ne.symm hne)).trans q,hne⟩,fun b hb=> ?_⟩
  ·have e1:((i+1:Nat):Int)+1=(i:Int)+1+1:=by omega
   rw [e1]
   exact he'
  ·have hb':b<s.heap.objs.size:=by
    rcases (yLp.mp hb) with z|z
    ·rw [z]
     exact hel
    ·(rw [yLl.mp z])
     exact hil
   (rw [upd_ne (yMw hb')])
   exact (hf b hb).1
 done:=by
  intro X hP hw hK hc i pins s σ H E; intro I hf st hg
  subst hP hw hK
  obtain ⟨⟨old,he⟩,hit,hne⟩:=(st)
  obtain ⟨xs,hq,hx⟩:=hg
  obtain ⟨its,rv,p,hz⟩:=(I.list hq)
  obtain ⟨f0,f1,f2,f3,f4,f5⟩:=hf it (yK7 _ (yK3 ..))
  have hl:=rv.length
  exact wpAny_pyNext_enum_endD (xUn (A:=X.A.in1) (I.ok.hd hc) it a its.toArray i (by rw [yMz];omega)) he ⟨rfl,hit,p.isList⟩ fun h' eb=>⟨rfl,I.turned (t':=s.toks) (fun b o hb q=>eb b o hb q) f0 f1 f3 f4 f5⟩
 self:=fun A i s Q E st h=>let ⟨⟨_,he⟩,_⟩:=st;wpAny_pyIter_enum he h
theorem xL9 {M:Model}{A:Around}{E:Value->Shared->Prop}{s:Shared}{env:Env}{pos:Pos}{T:String}{e:Expr}{rest:List Expr}{kws:List Keyword}{Q:Value->Shared->Prop}
  (h:wpAny M A (spliced (backTo pos (starEach (e::rest) env))) (fun vs s₁=>wpAny M A (evalAll ((backToKw pos (keywordEach kws env)).map (·.2)))
   (fun kvs s₂=>wpAny M A (call (.type T) vs (((backToKw pos (keywordEach kws env)).filterMap (·.1)).zip kvs)) Q E s₂) E s₁) E s)
  (he:backTo pos (starEach (e::rest) env)=(false,eval e env)::backTo pos (starEach rest env):=by rfl)
  (hplain:(backTo pos (starEach (e::rest) env)).any (·.1)=false:=by rfl)
  (hall:(backToKw pos (keywordEach kws env)).all (·.1.isSome)=true:=by rfl)
  (hkw:(backToKw pos (keywordEach kws env)).any (·.1.isNone)=false:=by rfl):
  wpAny M A (callWith pos (.type T) [] (backTo pos (starEach (e::rest) env)) (backToKw pos (keywordEach kws env))) Q E s:=by
 have h2:wpAny M A (evalArgs (.type T) true (backTo pos (starEach (e::rest) env)) (backToKw pos (keywordEach kws env))) (fun a s₁=>wpAny M A (call (.type T) ([]++a.pos) a.kw) Q E s₁) E s:=by
  rw [he] at h ⊢
  exact PyProof.Rows.evalArgs_kwB hall h
 unfold callWith
 refine wpAny_bind (wpAny_holding (wpAny_mono h2 (fun a s₁ h₁=>wpAny_bind (wpAny_standAt ?_)) fun _ _ x=>x))
 (simp only [hplain,hkw,Bool.or_false])
 refine (wpAny_bind (wpAny_pure ?_))
 exact (wpAny_bind (wpAny_mono h₁ (fun r s₂ hr=>wpAny_bind (wpAny_holding (wpAny_point (wpAny_pure hr)))) fun _ _ x=>x))
def yIf (K:PySem.W.Frag)(ta:TA):TI:=fun σ H R=>ta σ H fun vs H1=> ∃ a xs,vs=[.ref a]/\SqL K H1 a xs/\R (Ite1 K a) H1
theorem yAl {X:Cx}{e:Expr}{ta:TA}{p pos tpos p3 p4:Pos}{elts:List Expr}{kk j2:Nat}(hc:X.calm=true)(hg:Gl X "enumerate")(hm:X.mg "enumerate"=none)(ha:PA X [e] ta)(hs:starEach [e] X.env=[(false,eval e X.env)]:=by rfl):
  PI X (.Tuple elts kk tpos) (.Call (.Name "enumerate" p) [e] [⟨some "start",.Constant (.int 1) j2 p3,p4⟩] pos) (yIf X.K ta):=by
 refine (⟨fun pins s σ H R I h=> ?_⟩)
 have he:eval (.Call (.Name "enumerate" p) [e] [⟨some "start",.Constant (.int 1) j2 p3,p4⟩] pos) X.env=(do callWith pos (<- eval (.Name "enumerate" p) X.env) [] (backTo pos (starEach [e] X.env)) (backToKw pos (keywordEach [⟨some "start",.Constant (.int 1) j2 p3,p4⟩] X.env))):=rfl
 rw [he]
 refine wpAny_bind (ld_blt I hg hm boot_enumerate (xL9 (thn (ha.run pos pins s σ H _ I h) fun us s1 ⟨vs,H1,I1,r1,q1⟩=> ?_) (by rw [hs];rfl) (by rw [hs];rfl)))
 obtain ⟨a,xs,ex,hq,q⟩:=(q1)
 subst ex
 cases r1 with
 | cons r rr=>
  cases rr
  cases r
  obtain ⟨its,rv,p',hz⟩:=(I1.list hq)
  refine PyProof.Rows.kws_cons ?_
  refine wpAny_Constant_int ?_
  refine PyProof.Rows.kws_nil ?_
  have I3:=I1.tok (s1.toks+1)
  refine enum_begins_start (begins_list a its.toArray) p'.isList (by decide) (by decide) fun h' he2 hit hsz hk=>wpAny_pyIter_enum he2 ?_
  have I2:Inv X pins σ H1 { s1 with heap:=h',toks:=s1.toks+1 }:=I1.kept (t':=s1.toks+1) hk
  refine ⟨s1.heap.objs.size+1,[s1.heap.objs.size+1,s1.heap.objs.size],_,_,H1,rfl,I2,xUg a (s1.heap.objs.size+1) s1.heap.objs.size,⟨⟨.none,he2⟩,⟨_,hit,rfl,rfl⟩,Nat.succ_ne_self _⟩,fun b hb=> ?_,q⟩
  have hle:(s1.heap.objs.size<=b):=by
   rcases (yLp.mp hb) with z|z
   ·rw [z]
    exact Nat.le_add_right _ _
   ·(rw [yLl.mp z])
    exact yLq _
  exact (I1.fpOk hle (I1.hok.fresh hle))
def enM1:D->M (List D)
 | .lst _ l=>M.ret (enP 1 l)
 | _=>M.no
def iEn1 (m:M SD):M (List D):=(fE m).bind enM1
theorem xWy {κ:Ctx}{T:Pd}{G0:Hp}{a:Addr}{vs:List V}{l:List D}(hs:SqL κ.K G0 a vs)(r:RepL κ T G0 l vs):ItD κ T G0 (Ite1 κ.K a) (enP 1 l):=by
 intro i B ρ σ H G hT o s
 have q:=xMk (s.trans o.fr.gh) hs
 have hl:=r.length
 refine ⟨fun hi=> ?_,fun hi=>⟨vs,q,by rw [xNp] at hi;omega⟩,fun d hd x H' y=> ?_⟩
 ·rw [xNp] at hi
  exact ⟨vs,vs[i]'(by omega),q,yLb _⟩
 ·rw [xWm] at hd
  obtain ⟨c,hc,rfl⟩:=yK4.mp hd
  obtain ⟨t,u,rfl,ht,rfl,f⟩:=y
  obtain ⟨v,h1,h2⟩:=r.get hc
  have g1:=f _ q
  rw [h1] at g1
  cases g1
  have ei:((1+i:Nat):Int)=(i:Int)+1:=by omega
  rw [ei]
  have sU:Same G (upd G t (.tup [.int ((i:Nat)+1),u])):=Same.upd (o.gnone ht)
  exact ⟨upd G t (.tup [.int ((i:Nat)+1),u]),o.alloc ht (fun _ z=>by cases z),sU,Same.upd ht,t,[.int ((i:Nat)+1),u],rfl,.inl upd_same,.int ((i:Nat)+1),[u],rfl,rfl,u,[],rfl,Rep.mono (.of (s.trans sU)) c h2,rfl⟩
theorem yD8 {X:Cx}{κ:Ctx}{W:WX}{m:M SD}{e:Expr}{elts:List Expr}{kk j2:Nat}{p pos tpos p3 p4:Pos}(hK:X.K=κ.K)(hc:X.calm=true)(hg:Gl X "enumerate")(hm:X.mg "enumerate"=none)(ha:PE X e (tE κ W m))(hs:starEach [e] X.env=[(false,eval e X.env)]:=by rfl):
  PI X (.Tuple elts kk tpos) (.Call (.Name "enumerate" p) [e] [⟨some "start",.Constant (.int 1) j2 p3,p4⟩] pos) (tI κ W (iEn1 m)):=by
 refine PI.imp (yAl hc hg hm (xAa ha xAh hs) hs) fun σ H R ⟨B,ρ,G,o,q⟩=>⟨B,ρ,G,o,?_⟩
 have q1:Pst κ W B σ G (xAb m mNil ρ) fun ds ρ' H' G'=> ∃ d b l,ds=[d]/\d= .lst b l/\ ∀ J,ItD κ B.T G' J (enP 1 l)->R J H':=by
  have q:=Pst.bind q
  cases e1:fE m ρ with
  | ok d ρ'=>
   have e2:xAb m mNil ρ= .ok [d] ρ':=by
    unfold xAb M.bind
    rw [e1] <;> rfl
   rw [e1] at q
   rw [e2]
   intro H' G' o' s
   have q2:=q H' G' o' s
   cases d with
   | lst b l=>exact ⟨_,b,l,rfl,rfl,Pst.ret q2 o'⟩
   | _=>exact q2.elim
  | ex x ρ'=>
   have e2:xAb m mNil ρ= .ex x ρ':=by
    unfold xAb M.bind
    rw [e1] <;> rfl
   rw [e1] at q
   rw [e2]
   exact q
  | no=>
   rw [e1] at q
   exact q.elim
 refine Pst.mono q1 fun ds ρ' H' G' o' s ⟨d,b,l,e1,e2,z⟩ vs rs=> ?_
 subst e1 e2
 obtain ⟨v,us,rfl,r1,rfl⟩:=rs
 obtain ⟨a,ws,rfl,h1,h2,h3⟩:=r1.seqL o'.fr.gh
 refine ⟨a,ws,rfl,hK ▸ h2,?_⟩
 rw [hK]
 exact z _ (xWy h1 h3)
theorem w_en1 {m:M SD}{ρ:List SD}{E:Exn->List SD->Prop}{pl:List D->List SD->Prop}(h:Wp (fE m) ρ (fun d ρ'=> ∃ b l,d= .lst b l/\pl (enP 1 l) ρ') E):Wp (iEn1 m) ρ pl E:=xAk (h.mono (fun d ρ' h=>by
 obtain ⟨b,l,rfl,h⟩:=h
 exact ⟨h⟩) fun _ _ z=>z)
theorem yF7 {i n:Nat}{m:M (List D)}(h:DLen m n): ∀ ρ ds ρ',xBk i m ρ= .ok ds ρ'->ds.length=n:=fun ρ ds ρ' e=>by
 unfold xBk at e
 split at e
 ·cases e1:m (ρ.set i .un) with
  | ok a ρ1=>
   rw [e1] at e
   cases e
   exact h _ _ _ e1
  | ex x ρ1=>
   rw [e1] at e
   cases e
  | no=>
   rw [e1] at e
   cases e
 ·cases e
end Fm
set_option maxHeartbeats 4000007
namespace Lw
open L2 PySem PySem.Spec PyProof.Rows Fm
abbrev kx (w:World)(K:PySem.W.Frag)(cl:String->Addr)(tabs:List (Addr×Str)):Fm.Ctx:=⟨K,cl,tabs,w⟩
@[reducible] def xRh:D:= .int 3
@[reducible] def xO2:D:= .int 12
@[reducible] def xRx:D:= .int 24
@[reducible] def xUb:D:= .int 9
@[reducible] def xLk:D:= .int 1000000
@[reducible] def xU8:D:= .int 8
@[reducible] def xV3:D:= .str "abcdefghijklmnopqrstuvwxyz"
@[reducible] def xZn:D:= .int 7
@[reducible] def xYo:D:= .str "0123456789"
def xZo:String->Bool:=fun c=>["BadName","BadDye","BadWays","Full","Far","BadTie","Twice","BadShift","BadText"].contains c
def yCo:String->Bool:=fun c=>["NoKnot"].contains c
theorem xO4:FnScope ["self"] ["self"] (defScope xKf):=scZ (by decide +kernel)
theorem xQb:FnScope ["self"] ["self"] (defScope xLz):=scZ (by decide +kernel)
theorem xO0:FnScope ["self"] ["self"] (defScope xKi):=scZ (by decide +kernel)
theorem xWp:FnScope ["self"] ["self"] (defScope xSh):=scZ (by decide +kernel)
theorem yAx:FnScope ["self"] ["self"] (defScope xXq):=scZ (by decide +kernel)
theorem xQx:FnScope ["self"] ["self"] (defScope xLm):=scZ (by decide +kernel)
theorem xUa:FnScope ["self"] ["self"] (defScope xOu):=scZ (by decide +kernel)
theorem xQn:FnScope ["self","name"] ["self","name"] (defScope xLt):=scZ (by decide +kernel)
theorem xNj:FnScope ["self"] ["self"] (defScope xIv):=scZ (by decide +kernel)
theorem xP7:FnScope ["self","row"] ["self","row"] (defScope xJn):=scZ (by decide +kernel)
theorem xHy:FnScope ["self","other"] ["self","other"] (defScope xE2):=scZ (by decide +kernel)
@[reducible] def xIw:S:=sSeq (sIf (mOr (mNot (mTst (mUn (isCD "Pattern") (mVar 1)))) (mTst (mOp neD (mFld "Pattern" "ways" (mVar 0)) (mFld "Pattern" "ways" (mVar 1))))) (sRet (mC (.bl false))) (sNx)) (sRet (xKx (mOp eq8D (mFld "Pattern" "dyes" (mVar 0)) (mFld "Pattern" "dyes" (mVar 1))) (mOp eqD (mFld "Pattern" "bonds" (mVar 0)) (mFld "Pattern" "bonds" (mVar 1)))))
@[reducible] def xCd:List SD->FR:=Fm.runN [] 2 xIw
theorem xHv:FnScope ["text","sign"] ["text"] (defScope xP2):=scZ (by decide +kernel)
@[reducible] def xYq:S:=sRet (xKx (xG3 ltD leD (mC (.int 0)) (mCB xC0 (xAb (mVar 0) (mNil))) (mC xU8)) (mCB allD (xAb (mLc (iSeq (mVar 0)) [1] (gN 1) (M.ret true) (mOp in3D (mVar 1) (mC xV3))) (mNil))))
@[reducible] def xKq:List SD->FR:=Fm.runN [] 2 xYq
theorem xOk:FnScope ["name"] ["name"] (defScope xJ3):=scZ (by decide +kernel)
@[reducible] def xRz:S:=sIf (mNot (mTst (xAy xKq [] (aVa (mVar 0) (aNil))))) (sEx ⟨"BadName",[("called",.str "badname")]⟩) (sNx)
@[reducible] def xGe:List SD->FR:=Fm.runN [] 1 xRz
theorem xRe:FnScope ["dye"] ["dye"] (defScope xLo):=scZ (by decide +kernel)
@[reducible] def xT8:S:=sIf (mNot (mTst (xG3 leD leD (mC (.int 0)) (mVar 0) (mC xUb)))) (sEx ⟨"BadDye",[("called",.str "baddye")]⟩) (sNx)
@[reducible] def xHs:List SD->FR:=Fm.runN [] 1 xT8
theorem xJj:FnScope ["shift","number"] ["shift"] (defScope xS8):=scZ (by decide +kernel)
@[reducible] def yBc:S:=sRet (mCB tupD (xAb (mLc (iSeq (mVar 0)) [1] (gN 1) (M.ret true) (mOp subD (mC (.int 0)) (mVar 1))) (mNil)))
@[reducible] def xJe:List SD->FR:=Fm.runN [] 2 yBc
theorem xA6:FnScope ["self","name","found","u","v","shift"] ["self","name"] (defScope xFy):=scZ (by decide +kernel)
@[reducible] def xKz:S:=sSeq (sSet 2 (mLc (iSeq (mFld "Pattern" "bonds" (mVar 0))) [3,4,5] (gSq 3 (gCo (gN 3) (gCo (gN 4) (gCo (gN 5) (gNi))))) (mTst (mOp eqD (mVar 3) (mVar 1))) (mTup (xAb (mVar 4) (xAb (mVar 5) (mNil)))))) (sRet (mOp xB2 (mVar 2) (mLc (iSeq (mFld "Pattern" "bonds" (mVar 0))) [3,4,5] (gSq 3 (gCo (gN 3) (gCo (gN 4) (gCo (gN 5) (gNi))))) (mTst (mOp eqD (mVar 4) (mVar 1))) (mTup (xAb (mVar 3) (xAb (xAy xJe [] (aVa (mVar 5) (aNil))) (mNil)))))))
@[reducible] def xEb:List SD->FR:=Fm.runN [] 6 xKz
theorem xG4:FnScope ["tie","u","v","shift"] ["tie"] (defScope xSa):=scZ (by decide +kernel)
@[reducible] def yAq:S:=sSeq (sAsg (gSq 3 (gCo (gN 1) (gCo (gN 2) (gCo (gN 3) (gNi))))) (mVar 0)) (sRet (mCB xVm (xAb (mTup (xAb (mVar 1) (xAb (mVar 2) (xAb (mVar 3) (mNil))))) (xAb (mTup (xAb (mVar 2) (xAb (mVar 1) (xAb (xAy xJe [] (aVa (mVar 3) (aNil))) (mNil))))) (mNil)))))
@[reducible] def xI4:List SD->FR:=Fm.runN [] 4 yAq
theorem xJi:FnScope ["self","name"] ["self","name"] (defScope xF3):=scZ (by decide +kernel)
@[reducible] def xKv:S:=sIf (mTst (mOp xUq (mVar 1) (mFld "Pattern" "dyes" (mVar 0)))) (sEx1 "NoKnot" "called" "noknot" "name" (mVar 1)) (sNx)
@[reducible] def xCb:List SD->FR:=Fm.runN [] 2 xKv
theorem xFj:FnScope ["self","shift"] ["self","shift"] (defScope xDg):=scZ (by decide +kernel)
@[reducible] def xFu:S:=sIf (mTst (mOp neD (mCB xC0 (xAb (mVar 1) (mNil))) (mFld "Pattern" "ways" (mVar 0)))) (sEx ⟨"BadShift",[("called",.str "badshift")]⟩) (sNx)
@[reducible] def xB9:List SD->FR:=Fm.runN [] 2 xFu
theorem xBo:FnScope ["self","tie","number"] ["self","tie"] (defScope xEg):=scZ (by decide +kernel)
@[reducible] def xHw:S:=sSeq (xEs (xE5 "Pattern" "need" xCb (mVar 0) (xAb (xAw 1 (mC (.int 0))) (mNil)))) (sSeq (xEs (xE5 "Pattern" "need" xCb (mVar 0) (xAb (xAw 1 (mC (.int 1))) (mNil)))) (sSeq (xEs (xE5 "Pattern" "need_shift" xB9 (mVar 0) (xAb (xAw 1 (mC (.int 2))) (mNil)))) (sSeq (sIf (mTst (mCB anyD (xAb (mLc (iSeq (xAw 1 (mC (.int 2)))) [2] (gN 2) (M.ret true) (yEq (xG3 leD leD (mOp subD (mC (.int 0)) (mC xLk)) (mVar 2) (mC xLk)))) (mNil)))) (sEx ⟨"Far",[("called",.str "far")]⟩) (sNx)) (sSeq (sIf (mAnd (mTst (mOp eqD (xAw 1 (mC (.int 0))) (xAw 1 (mC (.int 1))))) (mTst (mCB allD (xAb (mLc (iSeq (xAw 1 (mC (.int 2)))) [2] (gN 2) (M.ret true) (mOp eqD (mVar 2) (mC (.int 0)))) (mNil))))) (sEx ⟨"BadTie",[("called",.str "badtie")]⟩) (sNx)) (sSeq (sIf (mTst (mOp in3D (xAy xI4 [] (aVa (mVar 1) (aNil))) (mFld "Pattern" "bonds" (mVar 0)))) (sEx ⟨"Twice",[("called",.str "twice")]⟩) (sNx)) (sRet (xAy xI4 [] (aVa (mVar 1) (aNil)))))))))
@[reducible] def xC1:List SD->FR:=Fm.runN [] 3 xHw
theorem xIz:FnScope ["self"] ["self"] (defScope xFe):=scZ (by decide +kernel)
@[reducible] def xKp:S:=sRet (mCB xEk (xAb (mFld "Pattern" "dyes" (mVar 0)) (mNil)))
@[reducible] def xBr:List SD->FR:=Fm.runN [] 1 xKp
theorem xBt:FnScope ["self","ways","knots","ties","name","tie"] ["self","ways","knots","ties"] (defScope xD5):=scZ (by decide +kernel)
@[reducible] def xGx:S:=sSeq (xBk 0 (sIf (mNot (mTst (xG3 leD leD (mC (.int 0)) (mVar 1) (mC xRh)))) (sEx ⟨"BadWays",[("called",.str "badways")]⟩) (sNx))) (sSeq (oSet 0 "Pattern" "ways" (xBk 0 (mVar 1))) (sSeq (oSet 0 "Pattern" "dyes" (xBk 0 (xNn))) (sSeq (sFor (xBk 0 (iSeq (mCB xEk (xAb (mVar 2) (mNil))))) (goI 0 (gN 4)) (sSeq (xBk 0 (xEs (xAy xGe [] (aVa (mVar 4) (aNil))))) (sSeq (xBk 0 (xEs (xAy xHs [] (aVa (xAw 2 (mVar 4)) (aNil))))) (oPut 0 "Pattern" "dyes" (mVar 4) (xBk 0 (xAw 2 (mVar 4))))))) (sSeq (xBk 0 (sIf (mTst (mOp gtD (mCB xC0 (xAb (mVar 2) (mNil))) (mC xO2))) (sEx ⟨"Full",[("called",.str "full")]⟩) (sNx))) (sSeq (oSet 0 "Pattern" "bonds" (xBk 0 (mLst (mNil)))) (sSeq (sFor (xBk 0 (iSeq (mVar 3))) (goI 0 (gN 5)) (xI0 3 (xI0 2 (xEs (oApp 0 "Pattern" "bonds" (xF6 0 nbL (xAb (xE5 "Pattern" "fitting" xC1 (mVar 0) (xAb (mVar 5) (mNil))) (mNil)))))))) (sSeq (xI0 3 (xI0 2 (sIf (xF6 0 (fun _=>true) (mTst (mOp gtD (mCB xC0 (xAb (mFld "Pattern" "bonds" (mVar 0)) (mNil))) (mC xRx)))) (xBk 0 (sEx ⟨"Full",[("called",.str "full")]⟩)) (sNx)))) (sSeq (xI0 3 (xI0 2 (oSet 0 "Pattern" "bonds" (xF6 0 SD.nbS (mCB xEk (xAb (mFld "Pattern" "bonds" (mVar 0)) (mNil))))))) (sSeq (oSet 0 "Pattern" "at" (xBk 0 (xNn))) (xI0 3 (xI0 2 (sFor (yFt 0 (xE5 "Pattern" "names" xBr (mVar 0) mNil)) (goI 0 (gN 4)) (oPut 0 "Pattern" "at" (mVar 4) (xF6 0 SD.nbS (mCB xEk (xAb (xE5 "Pattern" "ends" xEb (mVar 0) (xAb (mVar 4) (mNil))) (mNil)))))))))))))))))
@[reducible] def xBf:List D->FR:=Fm.runI "Pattern" 6 xGx
theorem xBe:FnScope ["self","found","name","u","v","shift","number"] ["self"] (defScope xF0):=scZ (by decide +kernel)
@[reducible] def xLi:S:=sSeq (sSet 1 (mLst (xAb (mJs [.c "mesh ",.m (mFld "Pattern" "ways" (mVar 0))] Str.empty) (mNil)))) (sSeq (sFor (iSeq (xE5 "Pattern" "names" xBr (mVar 0) mNil)) (gN 2) (xEs (mApp 1 (xAb (mJs [.c "knot ",.m (mVar 2),.c " ",.m (mOp ix3D (mFld "Pattern" "dyes" (mVar 0)) (mVar 2))] Str.empty) (mNil))))) (sSeq (sFor (iSeq (mFld "Pattern" "bonds" (mVar 0))) (gSq 3 (gCo (gN 3) (gCo (gN 4) (gCo (gN 5) (gNi))))) (xEs (mApp 1 (xAb (mM1 xJm (mC (.str " ")) (mOp xB2 (mLst (xAb (mC (.str "tie")) (xAb (mVar 3) (xAb (mVar 4) (mNil))))) (mLc (iSeq (mVar 5)) [6] (gN 6) (M.ret true) (mCB strD (xAb (mVar 6) (mNil)))))) (mNil))))) (sRet (mMov 1))))
@[reducible] def xEc:List SD->FR:=Fm.runN [] 7 xLi
theorem xHa:FnScope ["self"] ["self"] (defScope xEj):=scZ (by decide +kernel)
@[reducible] def xH7:S:=sRet (mM1 xJm (mC (.str "\n")) (xE5 "Pattern" "rows" xEc (mVar 0) mNil))
@[reducible] def xCz:List SD->FR:=Fm.runN [] 1 xH7
theorem yEh:FnScope ["pattern"] ["pattern"] (defScope yBx):=scZ (by decide +kernel)
@[reducible] def yI4:S:=sRet (mCB (xY2 "Pattern" xCz) (xAb (mVar 0) (mNil)))
@[reducible] def xTj:List SD->FR:=Fm.runN [] 1 yI4
theorem xD0:FnScope ["word","figures","bare","sign"] ["word","figures"] (defScope xEt):=scZ (by decide +kernel)
@[reducible] def xRt:S:=sSeq (sSet 2 (mIfE (mTst (mOp eqD (mSl (mVar 0) (mPN) (mPS (mC (.int 1)))) (mC (.str "-")))) (mSl (mVar 0) (mPS (mC (.int 1))) (mPN)) (mVar 0))) (sSeq (sIf (mOr (mNot (mTst (xG3 ltD leD (mC (.int 0)) (mCB xC0 (xAb (mVar 2) (mNil))) (mVar 1)))) (mTst (mCB anyD (xAb (mLc (iSeq (mVar 2)) [3] (gN 3) (M.ret true) (mOp xUq (mVar 3) (mC xYo))) (mNil))))) (sRet (mC .non)) (sNx)) (sSeq (sIf (mAnd (mTst (mOp eqD (xAw 2 (mC (.int 0))) (mC (.str "0")))) (mTst (mOp neD (mVar 0) (mC (.str "0"))))) (sRet (mC .non)) (sNx)) (sRet (mCB xW4 (xAb (mVar 0) (mNil))))))
@[reducible] def xCg:List SD->FR:=Fm.runN [] 4 xRt
theorem xI9:FnScope ["ways","knots","ties","at","made","e"] ["ways","knots","ties","at"] (defScope xYj):=scZ (by decide +kernel)
@[reducible] def yE8:S:=sSeq (sSet 4 (mC .non)) (sSeq (xWr (sSet 4 (xWq xBf (xAb (mVar 0) (xAb (mVar 1) (xAb (mVar 2) (mNil))))))) (sRet (mMov 4)))
@[reducible] def xNb:List SD->FR:=Fm.runN [] 6 yE8
theorem xCs:FnScope ["self","row","at","words","ways"] ["self","row","at"] (defScope xEm):=scZ (by decide +kernel)
@[reducible] def xHl:S:=sSeq (xBk 0 (sSet 3 (mM1 xLu (mVar 1) (mC (.str " "))))) (sSeq (xBk 0 (sSet 4 (mIfE (mAnd (mTst (mOp eqD (mCB xC0 (xAb (mVar 3) (mNil))) (mC (.int 2)))) (mTst (mOp eqD (xAw 3 (mC (.int 0))) (mC (.str "mesh"))))) (xAy xCg [.int 7] (aVa (xAw 3 (mC (.int 1))) (aNil))) (mC .non)))) (sSeq (xBk 0 (sIf (mTst (mOp isnD (mVar 4) (mC .non))) (sEx1 "BadText" "called" "badtext" "row" (mVar 2)) (sNx))) (sSeq (oSet 0 "Reader" "ways" (xBk 0 (mVar 4))) (sSeq (oSet 0 "Reader" "knots" (xBk 0 (xNn))) (sSeq (oSet 0 "Reader" "bonds" (xBk 0 (mLst (mNil)))) (oSet 0 "Reader" "so_far" (xBk 0 (xAy xNb [] (aVa (mVar 4) (aVa (xNn) (aVa (mLst (mNil)) (aVa (mVar 2) (aNil)))))))))))))
@[reducible] def xC2:MF:=Fm.runM "Reader" 5 xHl
theorem xDl:FnScope ["words","found","word","number"] ["words"] (defScope xIu):=scZ (by decide +kernel)
@[reducible] def xPl:S:=sSeq (sSet 1 (mLst (mNil))) (sSeq (sFor (iSeq (mVar 0)) (gN 2) (sSeq (sSet 3 (xAy xCg [.int 7] (aVa (mVar 2) (aNil)))) (sSeq (sIf (mTst (mOp isnD (mVar 3) (mC .non))) (sRet (mC .non)) (sNx)) (xEs (mApp 1 (xAb (mVar 3) (mNil))))))) (sRet (mCB tupD (xAb (mVar 1) (mNil)))))
@[reducible] def xC7:List SD->FR:=Fm.runN [] 4 xPl
theorem xDr:FnScope ["words","first","rest","u","v","numbers","shift"] ["words"] (defScope xR2):=scZ (by decide +kernel)
@[reducible] def yAr:S:=sSeq (sAsg (xZp 1 (gCo (gN 1) (gCo (gN 2) (gNi)))) (mVar 0)) (sSeq (sIf (mOr (mTst (mOp neD (mVar 1) (mC (.str "tie")))) (mTst (mOp ltD (mCB xC0 (xAb (mVar 2) (mNil))) (mC (.int 2))))) (sRet (mC .non)) (sNx)) (sSeq (sAsg (xZp 2 (gCo (gN 3) (gCo (gN 4) (gCo (gN 5) (gNi))))) (mVar 2)) (sSeq (sSet 6 (xAy xC7 [] (aVa (mVar 5) (aNil)))) (sRet (mIfE (mTst (mOp isnD (mVar 6) (mC .non))) (mC .non) (mTup (xAb (mVar 3) (xAb (mVar 4) (xAb (mVar 6) (mNil))))))))))
@[reducible] def xM1:List SD->FR:=Fm.runN [] 7 yAr
theorem xUh:FnScope ["words"] ["words"] (defScope xPj):=scZ (by decide +kernel)
@[reducible] def xXn:S:=sSeq (sIf (mOr (mTst (mOp neD (mCB xC0 (xAb (mVar 0) (mNil))) (mC (.int 3)))) (mOr (mTst (mOp neD (xAw 0 (mC (.int 0))) (mC (.str "knot")))) (mTst (mOp isnD (xAy xCg [.int 7] (aVa (xAw 0 (mC (.int 2))) (aNil))) (mC .non))))) (sRet (mC .non)) (sNx)) (sRet (mTup (xAb (xAw 0 (mC (.int 1))) (xAb (xAy xCg [.int 7] (aVa (xAw 0 (mC (.int 2))) (aNil))) (mNil)))))
@[reducible] def xKj:List SD->FR:=Fm.runN [] 1 xXn
theorem xC3:FnScope ["self","row","at","words","tie","pair"] ["self","row","at"] (defScope xHd):=scZ (by decide +kernel)
@[reducible] def xNi:S:=sSeq (xBk 0 (sSet 3 (mM1 xLu (mVar 1) (mC (.str " "))))) (sSeq (sIf (xBk 0 (mTst (mOp eqD (xAw 3 (mC (.int 0))) (mC (.str "tie"))))) (sSeq (xBk 0 (sSet 4 (xAy xM1 [] (aVa (mVar 3) (aNil))))) (sSeq (xBk 0 (sIf (mTst (mOp isnD (mVar 4) (mC .non))) (sEx1 "BadText" "called" "badtext" "row" (mVar 2)) (sNx))) (xEs (oApp 0 "Reader" "bonds" (xBk 0 (xAb (mVar 4) (mNil))))))) (sSeq (xBk 0 (sSet 5 (xAy xKj [] (aVa (mVar 3) (aNil))))) (sSeq (sIf (xF6 0 (fun _=>true) (mOr (mTst (mOp isnD (mVar 5) (mC .non))) (mOr (mTst (mOp in3D (xAw 5 (mC (.int 0))) (mFld "Reader" "knots" (mVar 0)))) (mTst (mOp gtD (mCB xC0 (xAb (mFld "Reader" "bonds" (mVar 0)) (mNil))) (mC (.int 0))))))) (xBk 0 (sEx1 "BadText" "called" "badtext" "row" (mVar 2))) (sNx)) (oPut 0 "Reader" "knots" (xAw 5 (mC (.int 0))) (xBk 0 (xAw 5 (mC (.int 1)))))))) (oSet 0 "Reader" "so_far" (xF6 0 SD.nbS (xAy xNb [] (aVa (mFld "Reader" "ways" (mVar 0)) (aVa (mFld "Reader" "knots" (mVar 0)) (aVa (mFld "Reader" "bonds" (mVar 0)) (aVa (mVar 2) (aNil)))))))))
@[reducible] def xCl:MF:=Fm.runM "Reader" 6 xNi
theorem xJ9:FnScope ["text","rows","reader","at","row"] ["text"] (defScope yCl):=scZ (by decide +kernel)
@[reducible] def yJ1:S:=sSeq (sSet 1 (mM1 xLu (mVar 0) (mC (.str "\n")))) (sOwn 2 "Reader" xC2 (xAb (xAw 1 (mC (.int 0))) (xAb (mC (.int 0)) (mNil))) (sFor (xBk 2 (iEn1 (mSl (mVar 1) (mPS (mC (.int 1))) (mPN)))) (goI 2 (gSq 2 (gCo (gN 3) (gCo (gN 4) (gNi))))) (xEs (xZ0 2 "Reader" "take" xCl (xBk 2 (xAb (mVar 4) (xAb (mVar 3) (mNil))))))) (sRet (mFld "Reader" "so_far" (mVar 2))))
@[reducible] def xLl:List SD->FR:=Fm.runN [] 5 yJ1
theorem xE8:FnScope ["_law_draw","_law_many","_law_cell","_law_got"] ["_law_draw","_law_many"] (defScope xJx):=scZ (by decide +kernel)
@[reducible] def xQf:S:=sSeq (sIf (mAnd (mTst (mOp ltD (xAw 0 (mC (.int 2))) (mVar 1))) (mTst (mOp ltD (xAw 0 (mC (.int 1))) (mCB xC0 (xAb (xAw 0 (mC (.int 0))) (mNil)))))) (sSeq (sSet 2 (mOp ix3D (xAw 0 (mC (.int 0))) (xAw 0 (mC (.int 1))))) (sSeq (xHo 0 (mC (.int 1)) (mOp xB2 (xAw 0 (mC (.int 1))) (mC (.int 1)))) (sSeq (xHo 0 (mC (.int 2)) (mC (.int 0))) (sIf (mTst (mOp geD (mVar 2) (mOp powD (mC (.int 10)) (mC (.int 18))))) (xHo 0 (mC (.int 2)) (mVar 2)) (xHo 0 (mC (.int 3)) (mOp modD (mOp xB2 (xAw 0 (mC (.int 3))) (mVar 2)) (mC (.int 1000000007)))))))) (sNx)) (sSeq (sIf (mTst (mOp geD (xAw 0 (mC (.int 2))) (mVar 1))) (sSeq (sSet 3 (mOp modD (xAw 0 (mC (.int 2))) (mVar 1))) (sSeq (xHo 0 (mC (.int 2)) (mOp divD (xAw 0 (mC (.int 2))) (mVar 1))) (sRet (mMov 3)))) (sNx)) (sSeq (xHo 0 (mC (.int 4)) (mOp xB2 (xAw 0 (mC (.int 4))) (mC (.int 1)))) (sSeq (xHo 0 (mC (.int 3)) (mOp modD (mOp xB2 (mOp xB2 (mOp powD (xAw 0 (mC (.int 3))) (mC (.int 3))) (mOp repD (mC (.int 40503)) (xAw 0 (mC (.int 4))))) (mC (.int 17))) (mC (.int 1000000007)))) (sRet (mOp modD (mOp divD (xAw 0 (mC (.int 3))) (mC (.int 5))) (mVar 1))))))
@[reducible] def xAp:List SD->FR:=Fm.runN [0] 4 xQf
theorem xNk:FnScope ["_law_script"] ["_law_script"] (defScope xIq):=scZ (by decide +kernel)
@[reducible] def xPg:S:=sRet (mLst (xAb (mCB xXo (xAb (mSl (mVar 0) (mPN) (mPS (mC (.int 63)))) (mNil))) (xAb (mC (.int 0)) (xAb (mC (.int 0)) (xAb (mC (.int 1)) (xAb (mC (.int 0)) (mNil)))))))
@[reducible] def xFl:List SD->FR:=Fm.runN [] 1 xPg
theorem xD9:FnScope ["_law_shift","_law_number"] ["_law_shift"] (defScope xG9):=scZ (by decide +kernel)
@[reducible] def xMy:S:=sRet (mCB tupD (xAb (mLc (iSeq (mVar 0)) [1] (gN 1) (M.ret true) (mOp subD (mC (.int 0)) (mVar 1))) (mNil)))
@[reducible] def xDi:List SD->FR:=Fm.runN [] 2 xMy
theorem xK0:FnScope ["_law_tie"] ["_law_tie"] (defScope xGo):=scZ (by decide +kernel)
@[reducible] def xNo:S:=sRet (mCB xVm (xAb (mTup (xAb (xAw 0 (mC (.int 0))) (xAb (xAw 0 (mC (.int 1))) (xAb (xAw 0 (mC (.int 2))) (mNil))))) (xAb (mTup (xAb (xAw 0 (mC (.int 1))) (xAb (xAw 0 (mC (.int 0))) (xAb (xAy xDi [] (aVa (xAw 0 (mC (.int 2))) (aNil))) (mNil))))) (mNil))))
@[reducible] def xCu:List SD->FR:=Fm.runN [] 1 xNo
theorem xF5:FnScope ["_law_ties","_law_tie","_law_number"] ["_law_ties","_law_tie"] (defScope xL3):=scZ (by decide +kernel)
@[reducible] def xUf:S:=sSeq (sIf (mOr (mAnd (mTst (mOp eqD (xAw 1 (mC (.int 0))) (xAw 1 (mC (.int 1))))) (mTst (mCB allD (xAb (mLc (iSeq (xAw 1 (mC (.int 2)))) [2] (gN 2) (M.ret true) (mOp eqD (mVar 2) (mC (.int 0)))) (mNil))))) (mTst (mOp in3D (xAy xCu [] (aVa (mVar 1) (aNil))) (mVar 0)))) (sRet (mMov 0)) (sNx)) (sRet (mCB xEk (xAb (mOp xB2 (mVar 0) (mLst (xAb (xAy xCu [] (aVa (mVar 1) (aNil))) (mNil)))) (mNil))))
@[reducible] def xFq:List SD->FR:=Fm.runN [] 3 xUf
theorem xQp:FnScope ["_law_draw","_law_some"] ["_law_draw","_law_some"] (defScope xLy):=scZ (by decide +kernel)
@[reducible] def xUm:S:=sRet (xAw 1 (xAy xAp [] (aSl 0 (aVa (mCB xC0 (xAb (mVar 1) (mNil))) (aNil)))))
@[reducible] def xDn:List SD->FR:=Fm.runN [0] 2 xUm
theorem xDv:FnScope ["_law_draw","_law_ways","_law_limit","_law_k"] ["_law_draw","_law_ways","_law_limit"] (defScope xF2):=scZ (by decide +kernel)
@[reducible] def xLc:S:=sRet (mCB tupD (xAb (mLc (iRg1 (xAb (mVar 1) (mNil))) [3] (gN 3) (M.ret true) (mOp subD (xAy xAp [] (aSl 0 (aVa (mOp xB2 (mOp repD (mC (.int 2)) (mVar 2)) (mC (.int 1))) (aNil)))) (mVar 2))) (mNil)))
@[reducible] def xEa:List SD->FR:=Fm.runN [0] 4 xLc
theorem xBu:FnScope ["_law_draw","_law_ways","_law_names_here","_law_limit","_law_knots","_law_name","_law_ties","_law_k","_law_size"] ["_law_draw","_law_ways","_law_names_here","_law_limit"] (defScope xIh):=scZ (by decide +kernel)
@[reducible] def xQa:S:=sSeq (sSet 4 (xNn)) (sSeq (sFor (iSeq (mVar 2)) (gN 5) (xHo 4 (mVar 5) (mOp ix3D (mTup (xAb (mC (.int 0)) (xAb (mC (.int 0)) (xAb (xAy xAp [] (aSl 0 (aVa (mC (.int 10)) (aNil)))) (mNil))))) (xAy xAp [] (aSl 0 (aVa (mC (.int 3)) (aNil))))))) (sSeq (sSet 6 (mLst (mNil))) (sSeq (sFor (iRg1 (xAb (xAy xAp [] (aSl 0 (aVa (mOp xB2 (mVar 3) (mC (.int 1))) (aNil)))) (mNil))) (gN 7) (sSeq (sSet 8 (mOp ix3D (mTup (xAb (mC (.int 1)) (xAb (mC (.int 2)) (xAb (mC (.int 2)) (xAb (mC (.int 9)) (xAb (mOp powD (mC (.int 10)) (mC (.int 6))) (mNil))))))) (xAy xAp [] (aSl 0 (aVa (mC (.int 5)) (aNil)))))) (sSet 6 (xAy xFq [] (aVa (mVar 6) (aVa (mTup (xAb (xAy xDn [] (aSl 0 (aVa (mVar 2) (aNil)))) (xAb (xAy xDn [] (aSl 0 (aVa (mVar 2) (aNil)))) (xAb (xAy xEa [] (aSl 0 (aVa (mVar 1) (aVa (mVar 8) (aNil))))) (mNil))))) (aNil))))))) (sRet (mTup (xAb (mVar 1) (xAb (mVar 4) (xAb (mVar 6) (mNil)))))))))
@[reducible] def xFh:List SD->FR:=Fm.runN [0] 9 xQa
theorem xAz:FnScope ["_law_draw","_law_many","_law_letters","_law_word","_law_at","_law_first","_law_step","_law_signs","_law_k","_law_sign"] ["_law_draw","_law_many"] (defScope xIc):=scZ (by decide +kernel)
@[reducible] def xOg:S:=sSeq (sSet 2 (mC (.str "abcdefghijklmnopqrstuvwxyz"))) (sSeq (sSet 3 (mM1 xJm (mC (.str "")) (mLc (iRg1 (xAb (xAy xAp [] (aSl 0 (aVa (mC (.int 6)) (aNil)))) (mNil))) [8] (gN 8) (M.ret true) (xAy xDn [] (aSl 0 (aVa (mVar 2) (aNil))))))) (sSeq (sSet 4 (xAy xAp [] (aSl 0 (aVa (mOp xB2 (mCB xC0 (xAb (mVar 3) (mNil))) (mC (.int 1))) (aNil))))) (sSeq (sSet 5 (xAy xAp [] (aSl 0 (aVa (mC (.int 26)) (aNil))))) (sSeq (sSet 6 (mOp ix3D (mTup (xAb (mC (.int 1)) (xAb (mC (.int 3)) (xAb (mC (.int 5)) (xAb (mC (.int 7)) (xAb (mC (.int 11)) (xAb (mC (.int 25)) (mNil)))))))) (xAy xAp [] (aSl 0 (aVa (mC (.int 6)) (aNil)))))) (sSeq (sSet 7 (mLc (iRg1 (xAb (mVar 1) (mNil))) [8] (gN 8) (M.ret true) (xAw 2 (mOp modD (mOp xB2 (mVar 5) (mOp repD (mVar 6) (mVar 8))) (mC (.int 26)))))) (sRet (mLc (iSeq (mVar 7)) [9] (gN 9) (M.ret true) (mOp xB2 (mOp xB2 (mSl (mVar 3) (mPN) (mPS (mVar 4))) (mVar 9)) (mSl (mVar 3) (mPS (mVar 4)) (mPN))))))))))
@[reducible] def xD4:List SD->FR:=Fm.runN [0] 10 xOg
theorem xCi:FnScope ["_law_draw","_law_mesh","_law_ties","_law_tie","_law_at","_law_about"] ["_law_draw","_law_mesh"] (defScope xJk):=scZ (by decide +kernel)
@[reducible] def xQ6:S:=sSeq (sSet 2 (mLst (mNil))) (sSeq (sFor (iSeq (xAw 1 (mC (.int 2)))) (gN 3) (sSeq (sSet 4 (xAy xAp [] (aSl 0 (aVa (mOp xB2 (mCB xC0 (xAb (mVar 2) (mNil))) (mC (.int 1))) (aNil))))) (sSeq (sSet 5 (mTup (xAb (xAw 3 (mC (.int 1))) (xAb (xAw 3 (mC (.int 0))) (xAb (xAy xDi [] (aVa (xAw 3 (mC (.int 2))) (aNil))) (mNil)))))) (sSet 2 (mOp xB2 (mOp xB2 (mSl (mVar 2) (mPN) (mPS (mVar 4))) (mLst (xAb (mOp ix3D (mTup (xAb (mVar 3) (xAb (mVar 5) (mNil)))) (xAy xAp [] (aSl 0 (aVa (mC (.int 2)) (aNil))))) (mNil)))) (mSl (mVar 2) (mPS (mVar 4)) (mPN))))))) (sRet (xWq xBf (xAb (xAw 1 (mC (.int 0))) (xAb (mCB xS7 (xAb (xAw 1 (mC (.int 1))) (mNil))) (xAb (mVar 2) (mNil)))))))
@[reducible] def xGc:List SD->FR:=Fm.runN [0] 6 xQ6
theorem xBp:FnScope ["_law_mesh","_law_rows_here","_law_u","_law_v","_law_shift","_law_name","_law_number"] ["_law_mesh"] (defScope xJq):=scZ (by decide +kernel)
@[reducible] def xQh:S:=sSeq (sSet 1 (mOp xB2 (mLst (xAb (mOp xB2 (mC (.str "mesh ")) (mCB strD (xAb (xAw 0 (mC (.int 0))) (mNil)))) (mNil))) (mLc (iSeq (mCB xEk (xAb (xAw 0 (mC (.int 1))) (mNil)))) [5] (gN 5) (M.ret true) (mOp xB2 (mOp xB2 (mOp xB2 (mC (.str "knot ")) (mVar 5)) (mC (.str " "))) (mCB strD (xAb (mOp ix3D (xAw 0 (mC (.int 1))) (mVar 5)) (mNil))))))) (sSeq (sFor (iSeq (xAw 0 (mC (.int 2)))) (gSq 3 (gCo (gN 2) (gCo (gN 3) (gCo (gN 4) (gNi))))) (xEs (mApp 1 (xAb (mM1 xJm (mC (.str " ")) (mOp xB2 (mLst (xAb (mC (.str "tie")) (xAb (mVar 2) (xAb (mVar 3) (mNil))))) (mLc (iSeq (mVar 4)) [6] (gN 6) (M.ret true) (mCB strD (xAb (mVar 6) (mNil)))))) (mNil))))) (sRet (mMov 1)))
@[reducible] def xGk:List SD->FR:=Fm.runN [] 7 xQh
theorem xC8:FnScope ["_law_found","_law_due","_law_part","_law_k"] ["_law_found","_law_due"] (defScope xJ8):=scZ (by decide +kernel)
@[reducible] def xQi (xAq:List SD->FR):S:=sSeq (sIf (mTst (mOp isnD (mVar 1) (mC .non))) (sRet (mOp isnD (mVar 0) (mC .non))) (sNx)) (sSeq (sIf (mOr (mTst (mCB isiD (xAb (mVar 1) (xAb (mC (.ty "bool")) (mNil))))) (mTst (mCB isiD (xAb (mVar 0) (xAb (mC (.ty "bool")) (mNil)))))) (sRet (xKx (mCB isiD (xAb (mVar 1) (xAb (mC (.ty "bool")) (mNil)))) (xKx (mCB isiD (xAb (mVar 0) (xAb (mC (.ty "bool")) (mNil)))) (mOp eqD (mVar 0) (mVar 1))))) (sNx)) (sSeq (sIf (mTst (mCB xO3 (xAb (mVar 1) (xAb (mTup (xAb (mC (.ty "int")) (xAb (mC (.ty "str")) (mNil)))) (mNil))))) (sRet (xKx (mOp eqD (mCB isiD (xAb (mVar 0) (xAb (mC (.ty "int")) (mNil)))) (mCB isiD (xAb (mVar 1) (xAb (mC (.ty "int")) (mNil))))) (xKx (mCB xO3 (xAb (mVar 0) (xAb (mTup (xAb (mC (.ty "int")) (xAb (mC (.ty "str")) (mNil)))) (mNil)))) (mOp eqD (mVar 0) (mVar 1))))) (sNx)) (sSeq (sIf (mOr (mTst (mOp neD (mCB isiD (xAb (mVar 0) (xAb (mC (.ty "list")) (mNil)))) (mCB isiD (xAb (mVar 1) (xAb (mC (.ty "list")) (mNil)))))) (mTst (mOp neD (mCB isiD (xAb (mVar 0) (xAb (mC (.ty "tuple")) (mNil)))) (mCB isiD (xAb (mVar 1) (xAb (mC (.ty "tuple")) (mNil))))))) (sRet (mC (.bl false))) (sNx)) (sSeq (sIf (mTst (mOp neD (mCB isiD (xAb (mVar 0) (xAb (mC (.ty "dict")) (mNil)))) (mCB isiD (xAb (mVar 1) (xAb (mC (.ty "dict")) (mNil)))))) (sRet (mC (.bl false))) (sNx)) (sSeq (sIf (mTst (mCB isiD (xAb (mVar 1) (xAb (mC (.ty "dict")) (mNil))))) (sRet (xKx (mOp eqD (mCB xEk (xAb (mVar 0) (mNil))) (mCB xEk (xAb (mVar 1) (mNil)))) (yAs xAq 0 1))) (sNx)) (sRet (xKx (mOp eqD (mCB xC0 (xAb (mVar 0) (mNil))) (mCB xC0 (xAb (mVar 1) (mNil)))) (mCB allD (xAb (mLc (iRg1 (xAb (mCB xC0 (xAb (mVar 1) (mNil))) (mNil))) [3] (gN 3) (M.ret true) (xAy xAq [] (aVa (xAw 0 (mVar 3)) (aVa (xAw 1 (mVar 3)) (aNil))))) (mNil))))))))))
def xAq:Nat->List SD->FR
 | 0=>fun _=> .no
 | n+1=>Fm.runN [] 4 (xQi (xAq n))
theorem xKy:FnScope ["self","name"] ["self","name"] (defScope xG5):=scZ (by decide +kernel)
@[reducible] def xNl:S:=sSeq (xEs (xE5 "Pattern" "need" xCb (mVar 0) (xAb (mVar 1) (mNil)))) (sRet (mOp ix3D (mFld "Pattern" "dyes" (mVar 0)) (mVar 1)))
@[reducible] def xDj:List SD->FR:=Fm.runN [] 2 xNl
theorem xJy:FnScope ["self"] ["self"] (defScope xFz):=scZ (by decide +kernel)
@[reducible] def xK9:S:=sRet (mCB xXo (xAb (mFld "Pattern" "bonds" (mVar 0)) (mNil)))
@[reducible] def xEf:List SD->FR:=Fm.runN [] 1 xK9
theorem xFd:FnScope ["_law_pattern","_law_knots","_law_name"] ["_law_pattern"] (defScope xJ6):=scZ (by decide +kernel)
@[reducible] def xQo:S:=sSeq (sSet 1 (xNn)) (sSeq (sFor (iSeq (xE5 "Pattern" "names" xBr (mVar 0) mNil)) (gN 2) (xHo 1 (mVar 2) (xE5 "Pattern" "dye" xDj (mVar 0) (xAb (mVar 2) (mNil))))) (sRet (mTup (xAb (mFld "Pattern" "ways" (mVar 0)) (xAb (mVar 1) (xAb (xE5 "Pattern" "ties" xEf (mVar 0) mNil) (mNil)))))))
@[reducible] def xGb:List SD->FR:=Fm.runN [] 3 xQo
theorem xBz:FnScope ["_law_draw","_law_row","_law_words","_law_about","_law_word"] ["_law_draw","_law_row"] (defScope xEl):=scZ (by decide +kernel)
@[reducible] def xHr:S:=sSeq (sSet 2 (mM1 xLu (mVar 1) (mC (.str " ")))) (sSeq (sIf (mOr (mTst (mOp neD (xAw 2 (mC (.int 0))) (mC (.str "tie")))) (mTst (mOp eqD (xAy xAp [] (aSl 0 (aVa (mC (.int 2)) (aNil)))) (mC (.int 0))))) (sRet (mMov 1)) (sNx)) (sSeq (sSet 3 (mLc (iSeq (mSl (mVar 2) (mPS (mC (.int 3))) (mPN))) [4] (gN 4) (M.ret true) (mCB strD (xAb (mOp subD (mC (.int 0)) (mCB xW4 (xAb (mVar 4) (mNil)))) (mNil))))) (sRet (mM1 xJm (mC (.str " ")) (mOp xB2 (mLst (xAb (mC (.str "tie")) (xAb (xAw 2 (mC (.int 2))) (xAb (xAw 2 (mC (.int 1))) (mNil))))) (mVar 3))))))
@[reducible] def xB6:List SD->FR:=Fm.runN [0] 5 xHr
theorem xEu:FnScope ["_law_draw","_law_rows_here","_law_found","_law_row"] ["_law_draw","_law_rows_here"] (defScope xId):=scZ (by decide +kernel)
@[reducible] def xN1:S:=sSeq (sSet 2 (mLst (mNil))) (sSeq (sFor (iSeq (mVar 1)) (gN 3) (xEs (mIns 2 (xAb (xAy xAp [] (aSl 0 (aVa (mOp xB2 (xT6 2 (mCB xC0 (xAb (mVar 2) (mNil)))) (mC (.int 1))) (aNil)))) (xAb (mVar 3) (mNil)))))) (sRet (mMov 2)))
@[reducible] def xD1:List SD->FR:=Fm.runN [0] 4 xN1
theorem xFa:FnScope ["_law_script","_law_draw","_law_turn","_law_mesh","_law_pat","_law_rows_here","_law_many","_law_other","_law_found","_law_row"] ["_law_script"] (defScope yKn):=scZ (by decide +kernel)
@[reducible] def s_law:S:=sSeq (sSet 1 (xAy xFl [] (aVa (mVar 0) (aNil)))) (sSeq (sFor (iRg1 (xAb (mC (.int 3)) (mNil))) (gN 2) (sSeq (sSet 3 (xAy xFh [] (aSl 1 (aVa (xAy xAp [] (aSl 1 (aVa (mC (.int 4)) (aNil)))) (aVa (xAy xD4 [] (aSl 1 (aVa (mOp xB2 (mC (.int 1)) (xAy xAp [] (aSl 1 (aVa (mC (.int 4)) (aNil))))) (aNil)))) (aVa (mC (.int 6)) (aNil))))))) (sSeq (sSet 4 (xAy xGc [] (aSl 1 (aVa (mVar 3) (aNil))))) (sSeq (sSet 5 (xAy xGk [] (aVa (mVar 3) (aNil)))) (sSeq (sIf (mOr (mNot (mTst (xAy (xAq 60) [] (aVa (xAy xTj [] (aVa (mVar 4) (aNil))) (aVa (mM1 xJm (mC (.str "\n")) (mVar 5)) (aNil)))))) (mTst (mOp (eqID "Pattern" (!·) xCd) (xAy xLl [] (aVa (xAy xTj [] (aVa (mVar 4) (aNil))) (aNil))) (mVar 4)))) (sRet (mC (.bl false))) (sNx)) (sSeq (sSet 6 (mOp xB2 (mC (.int 1)) (mCB xC0 (xAb (xAw 3 (mC (.int 1))) (mNil))))) (sSeq (sSet 7 (mOp xB2 (mOp xB2 (mSl (mVar 5) (mPN) (mPS (mC (.int 1)))) (xAy xD1 [] (aSl 1 (aVa (mSl (mVar 5) (mPS (mC (.int 1))) (mPS (mVar 6))) (aNil))))) (xAy xD1 [] (aSl 1 (aVa (mSl (mVar 5) (mPS (mVar 6)) (mPN)) (aNil)))))) (sSeq (sSet 8 (xAy xLl [] (aVa (mM1 xJm (mC (.str "\n")) (mLc (iSeq (mVar 7)) [9] (gN 9) (M.ret true) (xAy xB6 [] (aSl 1 (aVa (mVar 9) (aNil)))))) (aNil)))) (sIf (mOr (mNot (mTst (mUn (isCD "Pattern") (mVar 8)))) (mNot (mTst (xAy (xAq 60) [] (aVa (xAy xGb [] (aVa (mVar 8) (aNil))) (aVa (mVar 3) (aNil))))))) (sRet (mC (.bl false))) (sNx)))))))))) (sRet (mOp (eqID "Pattern" id xCd) (xAy xLl [] (aVa (mC (.str "mesh 2")) (aNil))) (xWq xBf (xAb (mC (.int 2)) (xAb (xNn) (xAb (mLst (mNil)) (mNil))))))))
@[reducible] def yG2:List SD->FR:=Fm.runN [] 10 s_law
end Lw
set_option maxHeartbeats 1990000
open L2 PySem PySem.Spec PyProof.Rows Fm
namespace Fm
theorem kC {α:Type}{m:M α}{a:SD}{ρ:List SD}{p:α->List SD->Prop}{E:Exn->List SD->Prop}(h:Wp m (a :: ρ) p E):Wp m (a :: ρ) p E:=h
end Fm
local macro_rules | `(tactic| walk_at $s:str) => do
 let t := s.getString
 if t.startsWith "own" then
  let h ← `(_)
  let hs := Array.replicate ((t.drop 3).toNat?.getD 0) h
  let q ← `([$hs,*])
  `(tactic| with_reducible (repeat (first | (refine kD ?_; first | (refine kC ?_; first | refine yIk ?_ | refine w_fz ?_ | refine yH8 ?_ | refine yIp ?_) | apply xBl; · with_unfolding_all exact (rfl : _ = $q) | apply xBj; · with_unfolding_all exact (rfl : _ = $q) | apply xBn; · with_unfolding_all exact (rfl : _ = $q) | refine yIk ?_ | refine w_fz ?_ | refine yH8 ?_ | refine yIp ?_) | (refine kO ?_; first | apply xF4; · with_unfolding_all exact rfl | (refine kAd ?_; first | refine xVu ?_ | refine xXz ?_ ?_ | refine xXy ?_ ?_ | refine o_add3T ?_ ?_) | (refine kLn ?_; first | refine xX9 ?_ | refine xYs ?_ | refine xV9 ?_ | refine xWz ?_ ?_) | (refine kNe ?_; first | refine yHv ?_ | refine xZh ?_ ?_ ?_ | refine yHi ?_) | apply xDx; · with_unfolding_all exact rfl | (refine kEq ?_; first | refine yI1 ?_ | refine xYx ?_ ?_ ?_ | refine yJp ?_) | (refine yC1 ?_; first | with_unfolding_all refine xA2 xJw rfl ?_ | with_unfolding_all refine xA2 xIl rfl ?_ | with_unfolding_all refine xA2 xGr rfl ?_ | with_unfolding_all refine xA2 kit_int_list rfl ?_ | with_unfolding_all refine xA2 kit_int_dict rfl ?_ | with_unfolding_all refine xA2 kit_bool_bool rfl ?_ | with_unfolding_all refine xA2 kit_bool_int rfl ?_ | with_unfolding_all refine xA2 kit_bool_tuple rfl ?_ | with_unfolding_all refine xA2 kit_bool_list rfl ?_ | with_unfolding_all refine xA2 kit_str_bool rfl ?_ | with_unfolding_all refine xA2 kit_str_int rfl ?_ | with_unfolding_all refine xA2 kit_tuple_bool rfl ?_ | with_unfolding_all refine xA2 kit_tuple_int rfl ?_ | with_unfolding_all refine xA2 kit_tuple_tuple rfl ?_ | with_unfolding_all refine xA2 kit_tuple_list rfl ?_ | with_unfolding_all refine xA2 kit_tuple_dict rfl ?_ | with_unfolding_all refine xA2 kit_list_bool rfl ?_ | with_unfolding_all refine xA2 kit_list_int rfl ?_ | with_unfolding_all refine xA2 kit_list_tuple rfl ?_ | with_unfolding_all refine xA2 kit_list_list rfl ?_ | with_unfolding_all refine xA2 kit_list_dict rfl ?_ | with_unfolding_all refine xA2 kit_non_bool rfl ?_ | with_unfolding_all refine xA2 kit_non_tuple rfl ?_ | with_unfolding_all refine xA2 kit_non_int rfl ?_ | with_unfolding_all refine xA2 kit_non_list rfl ?_ | with_unfolding_all refine xA2 kit_non_dict rfl ?_ | with_unfolding_all refine xA2 kit_dict_bool rfl ?_ | with_unfolding_all refine xA2 kit_dict_int rfl ?_ | with_unfolding_all refine xA2 kit_dict_tuple rfl ?_ | with_unfolding_all refine xA2 kit_dict_list rfl ?_ | with_unfolding_all refine xA2 kit_dict_dict rfl ?_) | refine yIs ?_ ?_ | refine yIg ?_ | refine o_le ?_ | refine xOe ?_ ?_ | (refine kIs ?_; first | refine yCr ?_ | refine yDo ?_ | refine o_isnS2 ?_ | refine yCa ?_ | refine yB8 ?_ | refine yC6 ?_ | refine yDg ?_ | refine yC9 ?_) | (refine xVj ?_; first | with_unfolding_all refine xIx xTo rfl ?_ | with_unfolding_all refine xIx xR7 rfl ?_ | with_unfolding_all refine xIx xL0 rfl ?_ | with_unfolding_all refine xIx xN5 rfl ?_ | with_unfolding_all refine xIx xN8 rfl ?_ | with_unfolding_all refine xIx kits_non rfl ?_) | refine xVl ?_ | refine yC0 ?_ ?_ | refine xSv ?_ | refine yIq ?_ | refine yIw ?_ ?_ | refine o_lt ?_ | refine yJ9 ?_ ?_ | refine o_ge ?_ | refine o_gt ?_ | refine yJe ?_ ?_ | (refine kNt ?_; first | refine o_ntnN ?_ | refine o_ntnI ?_ | refine o_ntnT ?_ | refine o_ntnL ?_) | refine o_tupT ?_ | refine yBv ?_ | refine o_neg ?_ | refine o_abs ?_ | refine o_listT ?_ | refine yKa ?_ | apply yEt; · with_unfolding_all exact rfl | apply yEf; · with_unfolding_all exact rfl | refine yJm ?_ | refine yJ8 ?_ | refine o_slT ?_ | refine xZf ?_ ?_ | refine xYa ?_ | refine yCi ?_ | refine o_intB ?_ | refine o_add ?_ | refine o_addStr ?_ ?_ | refine o_addL ?_ ?_ | refine yG6 ?_ | refine xWk ?_ | refine o_inL ?_ ?_ | refine xWg ?_ ?_ ?_ | refine o_part ?_ ?_ ?_ | refine o_len ?_ | refine o_lenL ?_ | refine o_lenStr ?_ ?_ | refine o_upper ?_ ?_ | refine xS9 ?_) | (refine kE ?_; first | apply yKi; · with_unfolding_all exact rfl | refine w_c ?_ | refine w_op ?_ | refine yBu ?_ | refine w_cb ?_ | apply xZa; · with_unfolding_all exact rfl | refine yJw ?_ | refine w_lc ?_ | refine yJk ?_ | refine yHf ?_ | refine yCn ?_ | apply xXa; · with_unfolding_all exact rfl | refine yDt ?_ | apply yB6; · with_unfolding_all exact rfl | refine w_m1 ?_ | refine yDa ?_ | refine w_sl ?_ | refine yCq ?_ | apply yDe; · with_unfolding_all exact rfl | refine w_un ?_ | refine yHw ?_ | apply yJ3; · with_unfolding_all exact rfl | refine xVo ?_ | apply yJd; · with_unfolding_all exact rfl | apply yDw; · with_unfolding_all exact rfl | refine w_orV ?_ | refine yC5 ?_ | refine yIl ?_ | apply w_subV; · with_unfolding_all exact rfl | apply w_subO; · with_unfolding_all exact rfl | apply w_mLk; · with_unfolding_all exact rfl | apply w_dpop; · with_unfolding_all exact rfl | apply w_dpop1; · with_unfolding_all exact rfl | apply xBl; · with_unfolding_all exact (rfl : _ = $q) | apply xBj; · with_unfolding_all exact (rfl : _ = $q) | apply xBn; · with_unfolding_all exact (rfl : _ = $q)) | (refine kS ?_; first | (refine kC ?_; first | refine xAj ?_ | refine yHq ?_ | refine yH2 ?_ | refine w_if ?_ | refine w_nx ?_ | refine xOy ?_ | refine xI2 ?_ | refine xXb ?_ | refine yH4 ?_ | refine w_par ?_ | refine w_retN ?_ | refine w_par3 ?_ | refine w_put ?_ | refine w_ex ?_ | refine w_ex1 ?_ | refine w_tryF ?_ | apply w_sLk; · with_unfolding_all exact rfl) | apply xBl; · with_unfolding_all exact (rfl : _ = $q) | apply xBj; · with_unfolding_all exact (rfl : _ = $q) | apply xBn; · with_unfolding_all exact (rfl : _ = $q) | refine xAj ?_ | refine yHq ?_ | refine yH2 ?_ | refine w_if ?_ | refine w_nx ?_ | refine xOy ?_ | refine xI2 ?_ | refine xXb ?_ | refine yH4 ?_ | refine w_par ?_ | refine w_retN ?_ | refine w_par3 ?_ | refine w_put ?_ | refine w_ex ?_ | refine w_ex1 ?_ | refine w_tryF ?_ | apply w_sLk; · with_unfolding_all exact rfl) | (refine kAn ?_; first | apply yIn; · with_unfolding_all exact Nat.le_of_ble_eq_true rfl | refine br_f ?_ | apply xM6; (· with_unfolding_all exact nd1 _); · with_unfolding_all exact rfl | apply xM6; (· with_unfolding_all exact yLw); · with_unfolding_all exact rfl | apply x_is; · with_unfolding_all exact rfl | refine yHk ?_ | refine br_d ?_ | refine br_t ?_ | refine yJj ?_ | refine br_e ?_ | apply br_T; · with_unfolding_all exact rfl | apply br_F; · with_unfolding_all exact rfl) | (refine kL ?_; first | refine yJa ?_ | refine yCb ?_ | refine yCh ?_ | refine yDc ?_ | refine w_zip ?_ | refine w_rng2 ?_ | refine w_en ?_ | refine w_rvr ?_ | refine w_en3 ?_ | refine w_rvl3 ?_ | apply w_iKy; · with_unfolding_all exact rfl | apply xBl; · with_unfolding_all exact (rfl : _ = $q) | apply xBj; · with_unfolding_all exact (rfl : _ = $q) | apply xBn; · with_unfolding_all exact (rfl : _ = $q)) | (refine kEx ?_; first | apply yJy; · with_unfolding_all exact rfl | apply yKd; · with_unfolding_all exact rfl | apply yK0; (· with_unfolding_all exact rfl); (· with_unfolding_all exact rfl); · with_unfolding_all exact rfl) | (refine kA ?_; first | (refine kC ?_; first | refine yDk ?_ | refine yI6 ?_ | apply yKj; · with_unfolding_all exact rfl | refine w_aapp ?_) | apply xBl; · with_unfolding_all exact (rfl : _ = $q) | apply xBj; · with_unfolding_all exact (rfl : _ = $q) | apply xBn; · with_unfolding_all exact (rfl : _ = $q) | refine yDk ?_ | refine yI6 ?_ | apply yKj; · with_unfolding_all exact rfl | refine w_aapp ?_) | (refine kB ?_; first | refine yKo ?_ | refine yIa ?_ | refine yCx ?_ | refine yIy ?_) | refine w_pn ?_ | refine w_ps ?_ | refine w_mw ?_ | refine o_enL ?_ | refine o_enT ?_ | refine o_rvL ?_)))
 else Lean.Macro.throwUnsupported
local macro_rules | `(tactic| walk_at "b1") => `(tactic| exact fun _ _ _ _ _ _ us hl => match us, hl with | [_], _ => rfl)
local macro_rules | `(tactic| walk_at "b2") => `(tactic| exact fun _ _ _ _ _ _ us hl => match us, hl with | [_, _], _ => rfl)
local macro_rules | `(tactic| walk_at "b3") => `(tactic| exact fun _ _ _ _ _ _ us hl => match us, hl with | [_, _, _], _ => rfl)
local macro_rules | `(tactic| walk_at "b4") => `(tactic| exact fun _ _ _ _ _ _ us hl => match us, hl with | [_, _, _, _], _ => rfl)
local macro_rules | `(tactic| walk_at "b5") => `(tactic| exact fun _ _ _ _ _ _ us hl => match us, hl with | [_, _, _, _, _], _ => rfl)
local macro_rules | `(tactic| walk_at "b6") => `(tactic| exact fun _ _ _ _ _ _ us hl => match us, hl with | [_, _, _, _, _, _], _ => rfl)
local macro_rules | `(tactic| walk_at "b7") => `(tactic| exact fun _ _ _ _ _ _ us hl => match us, hl with | [_, _, _, _, _, _, _], _ => rfl)
local macro_rules | `(tactic| walk_at "b8") => `(tactic| exact fun _ _ _ _ _ _ us hl => match us, hl with | [_, _, _, _, _, _, _, _], _ => rfl)
local macro_rules | `(tactic| walk_at "b9") => `(tactic| exact fun _ _ _ _ _ _ us hl => match us, hl with | [_, _, _, _, _, _, _, _, _], _ => rfl)
namespace Lw
open L2 PySem PySem.Spec PyProof.Rows Fm
namespace T
theorem in_cons {α:Type}{a b:α}{l:List α}(h:a∈b::l):a=b\/a∈l:=yLp.mp h
abbrev sl (s:Str):List Nat:=s.cps.toList
theorem str_ext {a b:Str}(h:sl a=sl b):a=b:=by
 obtain ⟨a⟩:=a
 obtain ⟨b⟩:=b
 exact congrArg Str.mk (Array.toList_inj.mp h)
theorem cut_none (w:Str)(k:Nat):sl (cutS w none (some (k:Int)))=(sl w).take k:=by
 have hl:w.length=(sl w).length:=Array.length_toList.symm
 show (((sl w).drop (HT.sIx w.length 0 none)).take (HT.sIx w.length w.length (some (k:Int))-HT.sIx w.length 0 none))=_
 rw [HT.sIx_nat,HT.sIx_none,yMs,Nat.sub_zero,hl]
 by_cases h:k<=(sl w).length
 ·rw [yMc h]
 ·rw [yMg (by omega)]
  rw [yLd (yLq _),yLd (by omega)]
theorem cut_some (w:Str)(k:Nat):sl (cutS w (some (k:Int)) none)=(sl w).drop k:=by
 have hl:w.length=(sl w).length:=Array.length_toList.symm
 show (((sl w).drop (HT.sIx w.length 0 (some (k:Int)))).take (HT.sIx w.length w.length none-HT.sIx w.length 0 (some (k:Int))))=_
 rw [HT.sIx_nat,HT.sIx_none,hl]
 rw [yLd (by rw [yL0];exact yLq _)]
 by_cases h:k<=(sl w).length
 ·rw [yMc h]
 ·rw [yMg (by omega)]
  rw [yL5 (yLq _),yL5 (by omega)]
theorem yC4 {n:Nat}{s t:Str}(h:Tx n s)(k:(sl t).Sublist (sl s)):Tx n t:=⟨by
 have z:=k.length_le
 have e1:s.length=(sl s).length:=Array.length_toList.symm
 have e2:t.length=(sl t).length:=Array.length_toList.symm
 have:=h.len
 omega,fun c hc=>h.asc c (k.subset hc)⟩
theorem yGn {n:Nat}{s:Str}(h:Tx n s)(k:Nat):Tx n (cutS s none (some (k:Int))):=yC4 h (by rw [cut_none];exact List.take_sublist ..)
theorem yD0 {n:Nat}{s:Str}(h:Tx n s)(k:Nat):Tx n (cutS s (some (k:Int)) none):=yC4 h (by rw [cut_some];exact List.drop_sublist ..)
def xB8 (w:Str):Str:=if cutS w none (some 1)="-" then cutS w (some 1) none else w
theorem yH7 {n:Nat}{w:Str}(h:Tx n w):Tx n (xB8 w):=by
 unfold xB8
 split
 ·exact yD0 h 1
 ·exact h
theorem xMd:sl "-"=[45]:=by decide +kernel
theorem yHx:sl "0"=[48]:=by decide +kernel
theorem yD5:sl "0123456789"=[48,49,50,51,52,53,54,55,56,57]:=by decide +kernel
theorem yB7 {c:Nat}:c∈sl "0123456789" ↔ 48<=c/\c<=57:=by
 rw [yD5]
 simp only [yLp,yM0,or_false]
 omega
theorem yC7 (w:Str):sl w=sl (xB8 w)\/sl w=45::sl (xB8 w):=by
 unfold xB8
 split
 ·rename_i h
  right
  have h1:=congrArg sl h
  rw [show (1:Int)=((1:Nat):Int) from rfl,cut_none,xMd] at h1
  rw [show (1:Int)=((1:Nat):Int) from rfl,cut_some]
  cases e:sl w with
  | nil=>
   rw [e] at h1
   cases h1
  | cons c r=>
   rw [e] at h1
   have:c=45:=by simpa using h1
   rw [this]
   rfl
 ·exact .inl rfl
def xNx (fig:Int)(w:Str):Prop:=(0<((xB8 w).length:Int)/\((xB8 w).length:Int)<=fig)/\ ∀ c∈sl (xB8 w),c∈sl "0123456789"
instance (fig:Int) (w:Str):Decidable (xNx fig w):=by unfold xNx;exact inferInstance
def numB (fig:Int)(w:Str):Option Int:=if xNx fig w then (if (sl (xB8 w)).head? =some 48/\w≠"0" then none else PySem.intText? w) else none
theorem yEa {fig:Int}{w:Str}(h2:fig<=600)(k:xNx fig w): ∃ i,PySem.intText? w=some i:=by
 obtain ⟨⟨k1,k2⟩,k3⟩:=k
 have ne:sl (xB8 w)≠[]:=fun z=>by
  have e:(xB8 w).length=(sl (xB8 w)).length:=Array.length_toList.symm
  rw [z] at e
  rw [e] at k1
  exact absurd k1 (by decide)
 have ad:NumText.AllDigits (sl (xB8 w)):=fun c hc=>yB7.mp (k3 c hc)
 have e1:w.length=(sl w).length:=Array.length_toList.symm
 have e2:(xB8 w).length=(sl (xB8 w)).length:=Array.length_toList.symm
 rcases yC7 w with e|e
 ·exact ⟨_,intText_digits (x:=w) (by show NumText.AllDigits (sl w);rw [e];exact ad) (by show sl w≠[];rw [e];exact ne) (by rw [e1,e];omega)⟩
 ·exact ⟨_,intText_neg (x:=w) e ad ne (by rw [e1,e,yK9];omega)⟩
def dI:Option Int->D
 | none=> .non
 | some i=> .int i
theorem yBz {n:Nat}{s:Str}(h:Tx n s)(hn:n<=100000):s.length<=1000000:=by
 have:=h.len
 omega
theorem sg_at {l:List Nat}{i:Nat}{d:D}(h:(l.map fun c=>D.str ⟨#[c]⟩)[i]? =some d): ∃ c,l[i]? =some c/\d= .str ⟨#[c]⟩:=by
 rw [yLe] at h
 obtain ⟨c,e,rfl⟩:=yK4.mp h
 exact ⟨c,e,rfl⟩
theorem yG5 {γ δ:Type}{l:List γ}{m:γ->δ}{i:Nat}{c:γ}{d:δ}(h1:l[i]? =some c)(h2:(l.map m)[i]? =some d):d=m c:=by
 rw [yLe,h1] at h2
 exact (yLh.inj h2).symm
theorem yGx {l:List Nat}{c:Nat}(h:l.head? =some c):atI l 0=some c:=by
 cases l with
 | nil=>cases h
 | cons x r=>
  cases h
  show (ixN (r.length+1) 0).bind _=_
  rw [Fm.ixN_0,if_pos (by omega)]
  rfl
theorem xZk {fig:Int}{w:Str}(k:xNx fig w)(h2:fig<=600):w.length<=640:=by
 have e1:w.length=(sl w).length:=Array.length_toList.symm
 have e2:(xB8 w).length=(sl (xB8 w)).length:=Array.length_toList.symm
 have k2:=k.1.2
 rcases yC7 w with e|e
 ·rw [e1,e]
  omega
 ·rw [e1,e,yK9]
  omega
theorem yCf {c:Nat}:((⟨#[c]⟩:Str)="0") ↔ c=48:=by
 constructor
 ·intro h
  have z:=congrArg sl h
  rw [yHx] at z
  exact (List.cons.inj z).1
 ·rintro rfl
  exact str_ext (by rw [yHx])
theorem number_ok {n:Nat}{w:Str}(h:Tx n w)(hn:n<=100000){fig:Int}(h2:fig<=600):Fw (xCg [.va (.str w),.va (.int fig)]) (fun r o=>r= .va (dI (numB fig w))/\o=[.un,.un]) NoX:=by
 have hb:=yH7 h
 have big:=yBz h (by omega)
 have bigb:=yBz hb (by omega)
 refine xAt rfl ?_
 refine xAj ?_
 refine xAx (q:=fun f ρ=>f= .nx/\ρ=[.va (.str w),.va (.int fig),.va (.str (xB8 w)),.un]) ?_ ?_
 ·walk_at "own4"
  ·refine ⟨fun z=> ?_,fun z=> ?_⟩
   ·walk_at "own4"
    ·refine ⟨rfl,?_⟩
     rw [show xB8 w=cutS w (some 1) none from if_pos (of_decide_eq_true z)]
     rfl
    ·exact big
   ·walk_at "own4"
    refine ⟨rfl,?_⟩
    rw [show xB8 w=w from if_neg (of_decide_eq_false z)]
    rfl
  ·exact (yGn h 1).ok
  ·decide +kernel
  ·exact big
 rintro _ _ ⟨rfl,rfl⟩
 refine xAj ?_
 refine xAx (q:=fun f ρ=>(xNx fig w/\f= .nx/\ρ.take 3=[.va (.str w),.va (.int fig),.va (.str (xB8 w))]/\ρ.length=4)\/(¬ xNx fig w/\f= .rt (.va .non)/\ρ.length=4)) ?_ ?_
 ·walk_at "own4"
  ·refine ⟨fun a=> ?_,fun a=> ?_⟩
   ·walk_at "own4"
    refine ⟨fun b=> ?_,fun b=> ?_⟩
    ·walk_at "own4"
     refine .inr ⟨fun k=> ?_,rfl,rfl⟩
     simp [k.1.2] at b
    ·walk_at "own4"
     refine xK8 (L:=(sl (xB8 w)).map fun c=> !decide (c∈sl "0123456789")) (m:=D.bl) (by rw [yK2,yK2]) (fun i d c hd hc=> ?_) (by rw [yK2];exact yLt (Nat.le_of_eq Array.length_toList) bigb) ?_
     ·obtain ⟨x,e1,rfl⟩:=sg_at hd
      have e2:=yG5 e1 hc
      subst e2
      refine ⟨_,rfl,?_⟩
      walk_at "own4"
      exact ⟨rfl,rfl⟩
     ·walk_at "own4"
      refine ⟨fun y=> ?_,fun y=> ?_⟩
      ·walk_at "own4"
       refine .inr ⟨fun k=> ?_,rfl,rfl⟩
       rw [List.any_map,List.any_eq_true] at y
       obtain ⟨c,y1,y2⟩:=y
       have y3:(!decide (c∈sl "0123456789"))=true:=y2
       rw [decide_eq_true (k.2 c y1)] at y3
       cases y3
      ·walk_at "own4"
       refine .inl ⟨⟨⟨of_decide_eq_true a,by simpa using b⟩,fun c hc=> ?_⟩,rfl,rfl,rfl⟩
       rw [List.any_map,List.any_eq_false] at y
       have y3: ¬ (!decide (c∈sl "0123456789"))=true:=y c hc
       by_cases z:c∈sl "0123456789"
       ·exact z
       ·rw [decide_eq_false z] at y3
        exact absurd rfl y3
   ·walk_at "own4"
    refine .inr ⟨fun k=> ?_,rfl,rfl⟩
    exact absurd k.1.1 (of_decide_eq_false a)
  ·exact bigb
 ·rintro f ρ (⟨k,rfl,e,el⟩|⟨k,rfl,el⟩)
  ·obtain ⟨s3,rfl⟩: ∃ s3,ρ=[.va (.str w),.va (.int fig),.va (.str (xB8 w)),s3]:=by
    match ρ,el,e with
    | [a,b,c,s3],_,e=>
     cases e
     exact ⟨s3,rfl⟩
   obtain ⟨i,hi⟩:=yEa h2 k
   have short:=xZk k h2
   have ne: ∃ c,(sl (xB8 w)).head? =some c:=by
    have e:(xB8 w).length=(sl (xB8 w)).length:=Array.length_toList.symm
    have k1:=k.1.1
    rw [e] at k1
    cases h5:sl (xB8 w) with
    | nil=>
     rw [h5] at k1
     exact absurd k1 (by decide)
    | cons c r=>exact ⟨c,rfl⟩
   obtain ⟨c,hc⟩:=ne
   have hc0:=yGx hc
   have asc:c<128:=hb.asc c (List.mem_of_mem_head? hc)
   have okc:PyData.strOk ⟨#[c]⟩=true:=by
    unfold PyData.strOk
    simp
    omega
   walk_at "own4"
   refine xWs ?_ hc0 bigb
   walk_at "own4"
   ·refine ⟨fun y=> ?_,fun y=> ?_⟩
    ·have y:=yCf.mp (of_decide_eq_true y)
     walk_at "own4"
     ·refine ⟨fun x=> ?_,fun x=> ?_⟩
      ·walk_at "own4"
       refine ⟨?_,rfl⟩
       have x:w≠"0":=by simpa using x
       unfold numB
       rw [if_pos k,if_pos ⟨by rw [hc,y],x⟩]
       rfl
      ·walk_at "own4"
       refine xYr ?_ hi short
       walk_at "own4"
       refine ⟨?_,rfl⟩
       have x:w="0":=by simpa using x
       unfold numB
       rw [if_pos k,if_neg (fun z=>z.2 x),hi]
       rfl
     ·exact h.ok
     ·decide +kernel
    ·have y:c≠48:=fun z=>of_decide_eq_false y (yCf.mpr z)
     walk_at "own4"
     refine xYr ?_ hi short
     walk_at "own4"
     refine ⟨?_,rfl⟩
     unfold numB
     rw [if_pos k,if_neg (fun z=>y (by rw [hc] at z;exact yLh.inj z.1)),hi]
     rfl
   ·exact okc
   ·decide +kernel
  ·match ρ,el with
   | [_,_,_,_],_=>
    refine ⟨?_,rfl⟩
    unfold numB
    rw [if_neg k]
    rfl
theorem lit_sp:sl " "=[32]:=by decide +kernel
structure Sep (y:Str):Prop where
 ne:sl y≠[]
 low:y.cps.all (· <256)=true
theorem sep_sp:Sep " ":=⟨by rw [lit_sp];simp,by decide +kernel⟩
section
variable {x y:Str}(h:Sep y)
include h
theorem xX0:(Txt.split x y).map sl=TL.spl (sl y) 0 [] (sl x):=TL.split_spl x y h.ne (TL.kind_ok h.low)
end
def allO {α:Type}:List (Option α)->Option (List α)
 | []=>some []
 | none::_=>none
 | some a::l=>(allO l).map (a:: ·)
theorem xJ7 {α:Type}: ∀ {l:List (Option α)},none∈l->allO l=none
 | none::_,_=>rfl
 | some a::l,h=>by
  have z:=yLp.mp h;rcases z with z|z
  ·cases z
  ·show (allO l).map _=none
   rw [xJ7 z]
   rfl
theorem xOs {α:Type}: ∀ {l:List (Option α)},(∀ x∈l,x≠none)-> ∃ m,allO l=some m/\l=m.map some
 | [],_=>⟨[],rfl,rfl⟩
 | none::_,h=>absurd rfl (h _ (yK3 ..))
 | some a::l,h=>by
  obtain ⟨m,e1,e2⟩:=xOs fun x hx=>h x (yK7 _ hx)
  refine ⟨a::m,?_,?_⟩
  ·show (allO l).map _=_
   rw [e1]
   rfl
  ·rw [e2]
   rfl
theorem yGc {α:Type}{l:List (Option α)}{m:List α}(h:allO l=some m):l=m.map some:=by
 by_cases z:none∈l
 ·rw [xJ7 z] at h
  cases h
 ·obtain ⟨m',e1,e2⟩:=xOs (l:=l) fun x hx e=>z (e ▸ hx)
  rw [e1] at h
  cases h
  exact e2
theorem yAw {α:Type}{l:List (Option α)}{m:List α}{a:α}(h:allO l=some m):allO (l++[some a])=some (m++[a]):=by
 rw [yGc h]
 have: ∀ m:List α,allO (m.map some++[some a])=some (m++[a]):=by
  intro m
  induction m with
  | nil=>rfl
  | cons b m ih=>
   show (allO (m.map some++[some a])).map _=_
   rw [ih]
   rfl
 exact this m
def numsB (ws:List Str):Option (List Int):=allO (ws.map (numB 7))
def dO {α:Type}(f:α->D):Option α->D
 | none=> .non
 | some a=>f a
abbrev dNs (l:List Int):D:= .tup (l.map D.int)
theorem take_snoc {α:Type}{l:List α}{i:Nat}{a:α}(h:l[i]? =some a):l.take (i+1)=l.take i++[a]:=by
 rw [List.take_succ,h]
 rfl
theorem xVv {α γ:Type}{f:γ->Option α}{l:List γ}{i:Nat}{c:γ}(h:l[i]? =some c)(e:f c=none):allO (l.map f)=none:=
 xJ7 (yLg.mpr ⟨c,yLf h,e⟩)
theorem xWu {α γ:Type}{f:γ->Option α}{l:List γ}{i:Nat}{c:γ}{m:List α}{a:α}(h:l[i]? =some c)(e:f c=some a)(k:allO ((l.take i).map f)=some m):allO ((l.take (i+1)).map f)=some (m++[a]):=by
 rw [take_snoc h,yLs,show [c].map f=[some a] by rw [<- e];rfl]
 exact yAw k
theorem numbers_ok {n:Nat}{ws:List Str}(h: ∀ w∈ws,Tx n w)(hn:n<=100000)(hl:ws.length<=100000):Fw (xC7 [.va (.lst false (ws.map D.str))]) (fun r o=>r= .va (dO dNs (numsB ws))/\o=[.un]) NoX:=by
 refine xAt rfl ?_
 walk_at "own4"
 refine xD2 (I:=fun i ρ=> ∃ m s2 s3,ρ=[.va (.lst false (ws.map D.str)),.ow (.lst false (m.map D.int)),s2,s3]/\allO ((ws.take i).map (numB 7))=some m/\m.length=i) ?_ ⟨[],_,_,rfl,rfl,rfl⟩ ?_
 ·rintro i d ρ hd ⟨m,s2,s3,rfl,hm,lm⟩
  rw [yLe] at hd
  obtain ⟨w,hw,rfl⟩:=yK4.mp hd
  have hi:=(yK5.mp hw).1
  refine ⟨_,rfl,?_⟩
  walk_at "own4"
  refine xAf (number_ok (h w (yLf hw)) hn (by decide)) ?_
  rintro r o ⟨rfl,rfl⟩
  cases hb:numB 7 w with
  | none=>
   rw [show dI none= .non from rfl]
   walk_at "own4"
   refine ⟨?_,rfl⟩
   unfold numsB
   rw [xVv hw hb]
   rfl
  | some k=>
   rw [show dI (some k)= .int k from rfl]
   walk_at "own4"
   refine ⟨_,_,_,rfl,rfl,?_,?_⟩
   ·rw [yK2]
    omega
   ·refine ⟨m++[k],_,_,by rw [yLs];rfl,xWu hw hb hm,by rw [yLn,lm];rfl⟩
 ·rintro ρ ⟨m,s2,s3,rfl,hm,lm⟩
  rw [yK2,List.take_length] at hm
  walk_at "own4"
  refine ⟨?_,rfl⟩
  unfold numsB
  rw [hm]
  rfl
theorem xL7: ∀ {l m:List Str},l.map sl=m.map sl->l=m
 | [],[],_=>rfl
 | [],_::_,h=>by cases h
 | _::_,[],h=>by cases h
 | a::l,b::m,h=>by
  obtain ⟨h1,h2⟩:=List.cons.inj h
  rw [str_ext h1,xL7 h2]
theorem sl_len (s:Str):s.length=(sl s).length:=Array.length_toList.symm
theorem sl_app (a b:Str):sl (a++b)=sl a++sl b:=TL.tl_append a b
def numT (i:Int):Str:=Str.ofString (toString i)
theorem yJs (n:Nat):sl (numT (n:Int))=TL.numL n:=TL.tl_num n
theorem yCz (n:Nat):sl (numT (yMr n))=45::TL.numL (n+1):=by
 have a:=TL.tl_ofString (toString (yMr n))
 have b:=TL.tl_num (n+1)
 rw [TL.tl_ofString] at b
 rw [show sl (numT (yMr n))=_ from a,<- b]
 have c:toString (yMr n)="-"++toString (((n+1:Nat)):Int):=rfl
 rw [c,String.toList_append,yLs]
 rfl
theorem num_sign {i:Int}{c:Nat}(h:c∈sl (numT i)):c=45\/(48<=c/\c<=57):=by
 cases i with
 | ofNat n=>
  rw [show sl (numT (Int.ofNat n))=TL.numL n from yJs n] at h
  exact .inr (TL.numL_digits n c h)
 | negSucc n=>
  rw [yCz] at h
  rcases in_cons h with z|z
  ·exact .inl z
  ·exact .inr (TL.numL_digits _ c z)
theorem yFf {w:Str}(h:(sl w).head? ≠some 45):xB8 w=w:=by
 unfold xB8
 rw [if_neg]
 intro z
 have h1:=congrArg sl z
 rw [show (1:Int)=((1:Nat):Int) from rfl,cut_none,xMd] at h1
 cases e:sl w with
 | nil=>
  rw [e] at h1
  cases h1
 | cons c r=>
  rw [e] at h1 h
  have:c=45:=by simpa using h1
  exact h (by rw [this];rfl)
theorem yGu {w:Str}{r:List Nat}(e:sl w=45::r):sl (xB8 w)=r:=by
 unfold xB8
 rw [if_pos]
 ·rw [show (1:Int)=((1:Nat):Int) from rfl,cut_some,e]
  rfl
 ·refine str_ext ?_
  rw [show (1:Int)=((1:Nat):Int) from rfl,cut_none,e,xMd]
  rfl
theorem xOq: ∀ n:Nat,0<n->(TL.numL n).head? ≠some 48:=by
 intro nq
 induction nq using Nat.strongRecOn with
 | _ n ih=>
  intro h
  by_cases z:n<10
  ·rw [TL.numL_lt z]
   intro y
   have:48+n=48:=yLh.inj y
   omega
  ·rw [TL.numL_step (by omega)]
   have k:=ih (n / 10) (by omega) (by omega)
   cases e:TL.numL (n / 10) with
   | nil=>exact absurd e (TL.numL_ne _)
   | cons c r=>
    rw [e] at k
    exact k
theorem xSm {fig:Nat}{w:Str}{n:Nat}(h0:0<fig)(h:n<10 ^ fig)(e:sl (xB8 w)=TL.numL n):xNx (fig:Int) w:=by
 have l1:(xB8 w).length=(TL.numL n).length:=by rw [sl_len,e]
 have l2:=TL.numL_len h0 h
 have l3:=List.length_pos_iff.mpr (TL.numL_ne n)
 refine ⟨⟨by omega,by omega⟩,fun c hc=> ?_⟩
 rw [e] at hc
 exact yB7.mpr (TL.numL_digits n c hc)
theorem yJl:sl "0"=TL.numL 0:=by decide +kernel
theorem numB_num {fig:Nat}{i:Int}(h0:0<fig)(h6:fig<=600)(h:i.natAbs<10 ^ fig):numB (fig:Int) (numT i)=some i:=by
 unfold numB
 cases i with
 | ofNat n=>
  have e:sl (numT (Int.ofNat n))=TL.numL n:=yJs n
  have dg:=TL.numL_digits n
  have nh:(sl (numT (Int.ofNat n))).head? ≠some 45:=by
   rw [e]
   intro z
   have:=dg 45 (List.mem_of_head? z)
   omega
  have eb:=yFf nh
  have k:=xSm (w:=numT (Int.ofNat n)) h0 h (by rw [eb];exact e)
  have l2:=TL.numL_len h0 (show n<10 ^ fig from h)
  rw [if_pos k,if_neg]
  ·rw [intText_digits (x:=numT (Int.ofNat n)) (by show NumText.AllDigits (sl _);rw [e];exact dg) (by show sl _≠[];rw [e];exact TL.numL_ne n) (by rw [sl_len,e];omega)]
   rw [show (numT (Int.ofNat n)).cps.toList=TL.numL n from e,TL.numL_val]
   rfl
  ·rintro ⟨z1,z2⟩
   rw [eb,e] at z1
   by_cases z:n=0
   ·exact z2 (str_ext (by rw [e,z,yJl]))
   ·exact xOq n (by omega) z1
 | negSucc n=>
  have e:=yCz n
  have eb:=yGu e
  have hn:n+1<10 ^ fig:=h
  have k:=xSm (w:=numT (yMr n)) h0 hn eb
  have l2:=TL.numL_len h0 hn
  rw [if_pos k,if_neg]
  ·rw [intText_neg (x:=numT (yMr n)) e (TL.numL_digits _) (TL.numL_ne _) (by rw [sl_len,e,yK9];omega),TL.numL_val]
   rfl
  ·rintro ⟨z1,z2⟩
   rw [eb] at z1
   exact xOq (n+1) (by omega) z1
theorem sl_join (y:Str)(ps:List Str):sl (Txt.join y ps)=TL.joinL (sl y) (ps.map sl):=by
 rw [TL.join_eq]
 exact TL.tl_join y ps
theorem split_join {y:Str}{c:Nat}{S:List Nat}{ps:List Str}(hs:Sep y)(e:sl y=c::S)(hp:ps≠[])(h: ∀ p∈ps,c∉sl p):Txt.split (Txt.join y ps) y=ps:=xL7 (by
 rw [xX0 hs,sl_join,e]
 refine TL.spl_join (fun z=>hp (List.map_eq_nil_iff.mp z)) fun q hq=> ?_
 obtain ⟨p,hp,rfl⟩:=(yLg.mp hq)
 exact h p hp)
theorem allO_some_ {α:Type}: ∀ l:List α,allO (l.map some)=some l
 | []=>rfl
 | a::l=>by
  show (allO (l.map some)).map (a:: ·)=_
  rw [allO_some_ l]
  rfl
end T
end Lw
set_option maxHeartbeats 990000
open L2 PySem PySem.Spec PyProof.Rows Fm
namespace Lw
open L2 PySem PySem.Spec PyProof.Rows Fm
theorem xL4 {n i:Nat}{d:D}(h:(rngD 0 n)[i]? =some d):i<n/\d= .int (i:Int):=by
 have hi:i<n:=by
  have z:=(yK5.mp h).1
  rw [xB7] at z
  exact z
 rw [yGe hi] at h
 cases h
 refine ⟨hi,?_⟩
 rw [Int.zero_add]
theorem xMl {γ:Type}{l:List γ}{i:Nat}(h:i<l.length): ∃ x,l[i]? =some x:=⟨_,yLb h⟩
theorem xO5 {n:Nat}(h:n<=100000):(-(2 ^ 62):Int)<=(n:Int)/\(n:Int)<2 ^ 62:=by omega
theorem xI8 {n:Nat}:(yLi n true).all id=true:=by
 induction n with
 | zero=>rfl
 | succ n ih=>rw [List.replicate_succ,yMp,ih];rfl
def okT:Nat->D->Bool
 | _,.non=>true
 | _,.bl _=>true
 | _,.int _=>true
 | _,.str s=>PyData.strOk s
 | n+1,.tup l=>decide (l.length<=100000)&&l.all (okT n)
 | n+1,.lst _ l=>decide (l.length<=100000)&&l.all (okT n)
 | _,_=>false
structure Drw (n:Nat)(d:D):Prop where
 ex: ∃ (b:Bool) (cells:List Int) (at_ big seed cnt:Int),d= .lst b [.lst false (cells.map D.int),.int at_,.int big,.int seed,.int cnt]/\0<=at_/\0<=big/\(0<=seed/\seed<1000000007)/\0<=cnt/\cnt<=n
theorem modM (a:Int):0<=a.fmod 1000000007/\a.fmod 1000000007<1000000007:=⟨yMt a (by decide),yM8 a (by decide)⟩
theorem xZl {a b:Int}(ha:0<=a)(hb:0<b):0<=a.fdiv b:=by
 rw [Int.fdiv_eq_ediv_of_nonneg a (Int.le_of_lt hb)]
 exact Int.ediv_nonneg ha (Int.le_of_lt hb)
theorem xB5 {n:Nat}{d:D}{many:Int}(h:Drw n d)(h1:1<=many)(h2:Sz 8000 many)(hn:n<=1000000000):Fw (xAp [.ow d,.va (.int many)]) (fun r o=> ∃ q,r= .va (.int q)/\(0<=q/\q<many)/\ ∃ d',o=[.ow d',.un]/\Drw (n+1) d') NoX:=by
 obtain ⟨b,cells,at_,big,seed,cnt,rfl,g1,g2,g3,g4,g5⟩:=h.ex
 have hm:many≠0:=by omega
 refine xAt rfl ?_
 refine xAj ?_
 refine xAx (q:=fun f ρ=>f= .nx/\ ∃ (at_ big seed:Int) (s2:SD),ρ=[.ow (.lst b [.lst false (cells.map D.int),.int at_,.int big,.int seed,.int cnt]),.va (.int many),s2,.un]/\0<=at_/\0<=big/\(0<=seed/\seed<1000000007)) ?_ ?_
 ·walk_at "own"
  refine ⟨fun _=> ?_,fun _=> ?_⟩
  ·walk_at "own"
   refine ⟨fun z=> ?_,fun _=> ?_⟩
   ·obtain ⟨cell,hc⟩:=yIc g1 (of_decide_eq_true z)
    walk_at "own"
    refine xDx hc ?_
    walk_at "own"
    ·refine ⟨fun y=> ?_,fun _=> ?_⟩
     ·have y:=of_decide_eq_true y
      walk_at "own"
      exact ⟨rfl,at_+1,cell,seed,_,rfl,by omega,Int.le_trans (by decide) y,g3⟩
     ·walk_at "own"
      ·exact ⟨rfl,at_+1,0,(seed+cell).fmod 1000000007,_,rfl,by omega,by decide,modM _⟩
      ·decide
    ·decide
   ·walk_at "own"
    exact ⟨rfl,at_,big,seed,_,rfl,g1,g2,g3⟩
  ·walk_at "own"
   exact ⟨rfl,at_,big,seed,_,rfl,g1,g2,g3⟩
 ·rintro _ _ ⟨rfl,at_,big,seed,s2,rfl,g1,g2,g3⟩
  walk_at "own"
  refine ⟨fun y=> ?_,fun _=> ?_⟩
  ·walk_at "own"
   ·exact ⟨⟨yMt _ (by omega),yM8 _ (by omega)⟩,_,rfl,b,cells,at_,big.fdiv many,seed,cnt,rfl,g1,xZl g2 (by omega),g3,g4,by omega⟩
   ·exact xW2 hm h2 (by decide)
   ·exact hm
  ·walk_at "own"
   ·have q:=xZl (b:=5) (modM (seed ^ Int.toNat 3+40503*(cnt+1)+17)).1 (by decide)
    exact ⟨⟨yMt _ (by omega),yM8 _ (by omega)⟩,_,rfl,b,cells,at_,big,_,cnt+1,rfl,g1,g2,modM _,by omega,by omega⟩
   ·exact hm
   ·exact xW2 (k:=8) (by decide) (by unfold Sz;decide) (by decide)
   ·decide
   ·exact xRu (j:=17) (k:=40) (by unfold Sz;decide) (by unfold Sz;omega) (by decide)
   ·exact ⟨by decide,by decide,by omega⟩
theorem xDb {f:FR}{P:Int->Prop}{n:Nat}{u:List SD}(h:Fw f (fun r o=> ∃ q,r= .va (.int q)/\P q/\ ∃ d',o= .ow d'::u/\Drw n d') NoX){p:SD->List SD->Prop}{E:Exn->List SD->Prop}(g: ∀ q d',P q->Drw n d'->p (.va (.int q)) (.ow d'::u)):Fw f p E:=by
 refine xAf h ?_
 rintro r o ⟨q,rfl,hq,d',rfl,hd⟩
 exact g q d' hq hd
theorem Drw.mono {m n:Nat}{d:D}(h:Drw m d)(l:m<=n):Drw n d:=by
 obtain ⟨b,cells,a1,a2,a3,a4,e,g1,g2,g3,g4,g5⟩:=h.ex
 exact ⟨b,cells,a1,a2,a3,a4,e,g1,g2,g3,g4,by omega⟩
theorem yAf {ns:List Int}{d:D}(hd:d= .scr (ns.map D.int)\/d= .lst false (ns.map D.int)):Fw (xFl [.va d]) (fun r o=> ∃ D0,r= .ow D0/\(o=[.un]/\Drw 0 D0)) NoX:=by
 obtain ⟨cells,e⟩:=yAy ns D.int none (some 63)
 rcases hd with rfl|rfl
 all_goals
  refine xAt rfl ?_
  walk_at "own"
  rw [e]
  exact ⟨rfl,false,cells,0,0,1,0,rfl,by decide,by decide,⟨by decide,by decide⟩,by decide,by decide⟩
theorem szS {a:Int}(h:a.natAbs<1000000000):Sz 8000 a:=Sz.mono (j:=30) (show a.natAbs<2 ^ 30 by omega) (by decide)
end Lw
namespace Lw
open L2 PySem PySem.Spec PyProof.Rows Fm PySem.W
abbrev Vec:=List Int
abbrev Tie:=Str×Str×Vec
abbrev Stp:=Str×Vec
abbrev dV (s:Vec):D:= .tup (s.map D.int)
abbrev dT (t:Tie):D:= .tup [.str t.1,.str t.2.1,dV t.2.2]
abbrev dP (p:Stp):D:= .tup [.str p.1,dV p.2]
def neg (s:Vec):Vec:=s.map fun a=>0-a
def about (t:Tie):Tie:=(t.2.1,t.1,neg t.2.2)
theorem yGd (s:Vec):neg (neg s)=s:=by
 unfold neg
 rw [yLz]
 conv=>rhs;rw [<- List.map_id s]
 refine List.map_congr_left fun a _=> ?_
 show 0-(0-a)=a
 omega
theorem xRl (s:Vec):(neg s).length=s.length:=yK2 ..
theorem xQt (t:Tie):about (about t)=t:=by
 obtain ⟨u,v,s⟩:=t
 show (u,v,neg (neg s))=_
 rw [yGd]
theorem xJt: ∀ s:Vec,pyL (s.map D.int)=s.map PyData.int
 | []=>rfl
 | a::s=>by
  show PyData.int a::pyL (s.map D.int)=_
  rw [xJt s]
  rfl
theorem xR5: ∀ a b:Vec,PyData.eqvAll (a.map PyData.int) (b.map PyData.int)=decide (a=b)
 | [],[]=>(decide_eq_true rfl).symm
 | [],y::b=>by simp [PyData.eqvAll]
 | x::a,[]=>by simp [PyData.eqvAll]
 | x::a,y::b=>by
  show (PyData.eqv (.int x) (.int y)&&PyData.eqvAll (a.map PyData.int) (b.map PyData.int))=_
  rw [xR5 a b]
  show ((x==y)&&decide (a=b))=_
  by_cases h:x=y
  ·subst h
   simp
  ·simp [h]
theorem peq_V (a b:Vec):peq (dV a) (dV b)=decide (a=b):=by
 show PyData.eqvAll (pyL (a.map D.int)) (pyL (b.map D.int))=_
 rw [xJt,xJt,xR5]
theorem xPr (p q:Tie):peq (dT p) (dT q)=decide (p=q):=by
 obtain ⟨a,a',s⟩:=p
 obtain ⟨b,b',t⟩:=q
 show ((a==b)&&((a'==b')&&(peq (dV s) (dV t)&&true)))=_
 rw [peq_V]
 by_cases h:a=b
 ·subst h
  by_cases h2:a'=b'
  ·subst h2
   simp
  ·simp [h2]
 ·simp [h]
theorem any_map {α:Type}[DecidableEq α](f:α->D)(hf: ∀ a b,peq (f a) (f b)=decide (a=b))(x:α)(l:List α): ∃ b:Bool,((l.map f).any fun e=>peq e (f x))=b/\(b=true ↔ x∈l):=by
 refine ⟨_,rfl,?_⟩
 rw [List.any_map,List.any_eq_true]
 constructor
 ·rintro ⟨y,h1,h2⟩
  have h2:peq (f y) (f x)=true:=h2
  rw [hf] at h2
  rw [<- of_decide_eq_true h2]
  exact h1
 ·intro h
  exact ⟨x,h,by show peq (f x) (f x)=true;rw [hf];exact decide_eq_true rfl⟩
theorem xLv {n:Nat}: ∀ {l:List D},(∀ d∈l,D.pl n d=true)->plL n l=true
 | [],_=>by unfold plL;rfl
 | d::l,h=>by
  unfold plL
  rw [h d (yK3 ..),xLv fun e he=>h e (yK7 _ he)]
  rfl
theorem pl_int {n:Nat}{a:Int}:D.pl n (.int a)=true:=by cases n <;> rfl
theorem pl_V {n:Nat}(s:Vec):D.pl (n+1) (dV s)=true:=by
 show plL n (s.map D.int)=true
 refine xLv fun d hd=> ?_
 obtain ⟨a,_,rfl⟩:=yLg.mp hd
 exact pl_int
theorem pl_P {n:Nat}{p:Stp}(h:PyData.strOk p.1=true):D.pl (n+2) (dP p)=true:=by
 show plL (n+1) [.str p.1,dV p.2]=true
 refine xLv fun d hd=> ?_
 rcases inC hd with rfl|hd
 ·exact xIj h
 ·rw [yLl.mp hd]
  exact pl_V _
theorem pl_T {n:Nat}{t:Tie}(h:PyData.strOk t.1=true)(h2:PyData.strOk t.2.1=true):D.pl (n+2) (dT t)=true:=by
 show plL (n+1) [.str t.1,.str t.2.1,dV t.2.2]=true
 refine xLv fun d hd=> ?_
 rcases inC hd with rfl|hd
 ·exact xIj h
 rcases inC hd with rfl|hd
 ·exact xIj h2
 ·rw [yLl.mp hd]
  exact pl_V _
theorem yDf {n:Nat}{b:Bool}{l:List D}(h: ∀ d∈l,D.pl n d=true):D.pl (n+1) (.lst b l)=true:=xLv h
theorem xLp: ∀ a b:Vec,alikeAll (a.map PyData.int) (b.map PyData.int)=true
 | [],b=>by unfold alikeAll;cases b <;> rfl
 | x::a,[]=>by rfl
 | x::a,y::b=>by
  show (alike (.int x) (.int y)&&alikeAll (a.map PyData.int) (b.map PyData.int))=true
  rw [xLp a b]
  rfl
theorem xV5 (a b:Vec):alike (dV a).py (dV b).py=true:=by
 show alikeAll (pyL (a.map D.int)) (pyL (b.map D.int))=true
 rw [xJt,xJt]
 exact xLp a b
theorem yG3 (p q:Stp):alike (dP p).py (dP q).py=true:=by
 show (alike (.str p.1) (.str q.1)&&(alike (dV p.2).py (dV q.2).py&&true))=true
 rw [xV5]
 rfl
theorem xD7 (p q:Tie):alike (dT p).py (dT q).py=true:=by
 show (alike (.str p.1) (.str q.1)&&(alike (.str p.2.1) (.str q.2.1)&&(alike (dV p.2.2).py (dV q.2.2).py&&true)))=true
 rw [xV5]
 rfl
theorem xXj {x y:PyData}(al:alike x y=true)(h1:dataLt x y=false)(h2:dataLt y x=false):PyData.eqv x y=true:=by
 have e:=lex_total (O:=itemOrd) _ _ h1 h2
 cases c:PyData.eqv x y with
 | true=>rfl
 | false=>
  have q:=(toks_eqv x y al).2 c
  have q1:=q [] []
  have q2:=q [] [.inl 0]
  rw [e] at q1 q2
  rw [lex_pre] at q1 q2
  rw [<- q1] at q2
  cases q2
theorem xXx (a b c:D):dataLe false D.py a b=true->dataLe false D.py b c=true->dataLe false D.py a c=true:=(sortLe_total _ _ _).trans a b c
theorem xZg (a b:D):(dataLe false D.py a b || dataLe false D.py b a)=true:=by
 rcases (sortLe_total (listOrd itemOrd) false fun b:D=>keyToks b.py).total a b with h|h
 ·show (sortLe _ _ _ a b || _)=true
  rw [h]
  rfl
 ·show (_ || sortLe _ _ _ b a)=true
  rw [h,Bool.or_true]
def srtF {α:Type}(f:α->D)(l:List α):List α:=l.mergeSort fun a b=>dataLe false D.py (f a) (f b)
theorem xMx {α:Type}(f:α->D)(l:List α):srtD (l.map f)=(srtF f l).map f:=(List.map_mergeSort (r:=fun a b=>dataLe false D.py (f a) (f b)) (s:=dataLe false D.py) (f:=f) (l:=l) fun _ _ _ _=>rfl).symm
theorem xC6 {α:Type}(f:α->D)(l:List α):(srtF f l).Perm l:=List.mergeSort_perm ..
theorem xMv {α:Type}[DecidableEq α](f:α->D)(hf: ∀ a b,peq (f a) (f b)=decide (a=b))(ha: ∀ a b,alike (f a).py (f b).py=true){l m:List α}(h:l.Perm m):srtF f l=srtF f m:=by
 have srt: ∀ l:List α,(srtF f l).Pairwise fun a b=>dataLe false D.py (f a) (f b)=true:=fun l=>List.pairwise_mergeSort (le:=fun a b=>dataLe false D.py (f a) (f b)) (fun a b c=>xXx (f a) (f b) (f c)) (fun a b=>xZg (f a) (f b)) l
 refine yM5.eq_of_pairwise (fun a b _ _ h1 h2=> ?_) (srt l) (srt m) ((xC6 f l).trans (h.trans (xC6 f m).symm))
 have h1:(!dataLt (f b).py (f a).py)=true:=h1
 have h2:(!dataLt (f a).py (f b).py)=true:=h2
 have e:=xXj (ha a b) (by simpa using h2) (by simpa using h1)
 have e2:peq (f a) (f b)=true:=e
 rw [hf] at e2
 exact of_decide_eq_true e2
theorem xO8 {α:Type}[DecidableEq α](f:α->D)(hf: ∀ a b,peq (f a) (f b)=decide (a=b))(ha: ∀ a b,alike (f a).py (f b).py=true)(l:List α):srtF f (srtF f l)=srtF f l:=xMv f hf ha (xC6 f l)
def les (t:Tie):Tie:=if dataLt (dT (about t)).py (dT t).py then about t else t
theorem xWo (t:Tie):xNy (dT t) (dT (about t))=dT (les t):=by
 unfold xNy les
 split <;> rfl
theorem xJz (t:Tie):les (about t)=les t:=by
 unfold les
 rw [xQt]
 cases h:dataLt (dT (about t)).py (dT t).py with
 | true=>
  have z:dataLt (dT t).py (dT (about t)).py=false:=by
   cases c:dataLt (dT t).py (dT (about t)).py with
   | false=>rfl
   | true=>
    have:=lex_trans (O:=itemOrd) _ _ _ h c
    rw [lex_irrefl] at this
    cases this
  rw [z]
  rfl
 | false=>
  cases c:dataLt (dT t).py (dT (about t)).py with
  | true=>rfl
  | false=>
   have e:peq (dT t) (dT (about t))=true:=xXj (xD7 _ _) c h
   rw [xPr] at e
   exact (of_decide_eq_true e).symm
theorem yC3 (t:Tie):les t=t\/les t=about t:=by
 unfold les
 split
 ·exact .inr rfl
 ·exact .inl rfl
theorem xYf (t:Tie):les (les t)=les t:=by
 rcases yC3 t with h|h
 ·rw [h,h]
 ·rw [h,xJz,h]
theorem xGi {α:Type}{l:List α}{p:α->Bool}(h: ∀ a∈l,p a=true):l.all p=true:=yLu.mpr h
theorem xTk {α:Type}(f:α->D)(l:List α)(hp: ∀ a∈l,D.pl 60 (f a)=true)(ha: ∀ a b,alike (f a).py (f b).py=true)(ht: ∀ a,∃ x xs,(f a).py= .tuple (x::xs)):xHp (l.map f)=true:=by
 unfold xHp
 rw [yLc,yLc,Bool.or_eq_true]
 refine ⟨⟨xLv fun d hd=> ?_,xGi fun d hd=>xGi fun e he=> ?_⟩,.inl (xGi fun d hd=> ?_)⟩
 ·obtain ⟨a,h,rfl⟩:=yLg.mp hd
  exact hp a h
 ·obtain ⟨a,_,rfl⟩:=yLg.mp hd
  obtain ⟨b,_,rfl⟩:=yLg.mp he
  exact ha a b
 ·obtain ⟨a,_,rfl⟩:=yLg.mp hd
  obtain ⟨x,xs,e⟩:=ht a
  rw [e]
theorem xWn {l:List Tie}(h: ∀ t∈l,PyData.strOk t.1=true/\PyData.strOk t.2.1=true):xHp (l.map dT)=true:=xTk dT l (fun t ht=>pl_T (h t ht).1 (h t ht).2) xD7 fun _=>⟨_,_,rfl⟩
theorem yEp {l:List Stp}(h: ∀ t∈l,PyData.strOk t.1=true):xHp (l.map dP)=true:=xTk dP l (fun t ht=>pl_P (h t ht)) yG3 fun _=>⟨_,_,rfl⟩
theorem yDl {t:Tie}(h:PyData.strOk t.1=true)(h2:PyData.strOk t.2.1=true):minB (dT t) (dT (about t))=true:=by
 have h3:D.pl 60 (dT t)=true:=pl_T h h2
 have h4:D.pl 60 (dT (about t))=true:=pl_T (t:=about t) h2 h
 unfold minB
 rw [h3,h4,xD7,xD7,xD7,xD7]
 rfl
def yBe (ts:List Tie)(n:Str):List Stp:=((ts.filter fun t=>decide (t.1=n)).map fun t=>(t.2.1,t.2.2))++(ts.filter fun t=>decide (t.2.1=n)).map fun t=>(t.1,neg t.2.2)
def near (ts:List Tie)(n:Str):List Stp:=srtF dP (yBe ts n)
end Lw
open L2 PySem PySem.Spec PyProof.Rows Fm
namespace Lw
open L2 PySem PySem.Spec PyProof.Rows Fm
theorem in_cons {α:Type}{a b:α}{l:List α}(h:a∈b::l):a=b\/a∈l:=yLp.mp h
theorem xCx {α:Type}{a b:α}(h:a∈[b]):a=b:=yLl.mp h
theorem xCo {α:Type}{a:α}{l m:List α}(h:a∈l++m):a∈l\/a∈m:=yMj.mp h
abbrev sl (s:Str):List Nat:=s.cps.toList
theorem str_ext {a b:Str}(h:sl a=sl b):a=b:=by
 obtain ⟨a⟩:=a
 obtain ⟨b⟩:=b
 exact congrArg Str.mk (Array.toList_inj.mp h)
theorem cut_none (w:Str)(k:Nat):sl (cutS w none (some (k:Int)))=(sl w).take k:=by
 have hl:w.length=(sl w).length:=Array.length_toList.symm
 show (((sl w).drop (HT.sIx w.length 0 none)).take (HT.sIx w.length w.length (some (k:Int))-HT.sIx w.length 0 none))=_
 rw [HT.sIx_nat,HT.sIx_none,yMs,Nat.sub_zero,hl]
 by_cases h:k<=(sl w).length
 ·rw [yMc h]
 ·rw [yMg (by omega)]
  rw [yLd (yLq _),yLd (by omega)]
theorem cut_some (w:Str)(k:Nat):sl (cutS w (some (k:Int)) none)=(sl w).drop k:=by
 have hl:w.length=(sl w).length:=Array.length_toList.symm
 show (((sl w).drop (HT.sIx w.length 0 (some (k:Int)))).take (HT.sIx w.length w.length none-HT.sIx w.length 0 (some (k:Int))))=_
 rw [HT.sIx_nat,HT.sIx_none,hl]
 rw [yLd (by rw [yL0];exact yLq _)]
 by_cases h:k<=(sl w).length
 ·rw [yMc h]
 ·rw [yMg (by omega)]
  rw [yL5 (yLq _),yL5 (by omega)]
theorem sl_len (s:Str):s.length=(sl s).length:=Array.length_toList.symm
theorem sl_app (a b:Str):sl (a++b)=sl a++sl b:=TL.tl_append a b
abbrev abc:Str:="abcdefghijklmnopqrstuvwxyz"
theorem xGg:abc.length=26:=by decide +kernel
theorem yB9: ∀ c∈sl abc,c<128:=by decide +kernel
structure Nx (n:Nat)(s:Str):Prop where
 len:s.length<=n
 abc: ∀ c∈sl s,c∈sl abc
theorem Nx.ok {n:Nat}{s:Str}(h:Nx n s):PyData.strOk s=true:=by
 unfold PyData.strOk
 rw [Array.all_eq_true']
 intro c hc
 have:=yB9 c (h.abc c (Array.mem_toList_iff.mpr hc))
 exact decide_eq_true (Nat.lt_trans this (by decide))
theorem yE9 {n:Nat}{s:Str}(h:Nx n s)(k:Nat):Nx n (cutS s none (some (k:Int))):=⟨by
 rw [sl_len,cut_none,yLv,<- sl_len]
 have:=h.len
 omega,fun c hc=>h.abc c (List.mem_of_mem_take (by rw [<- cut_none];exact hc))⟩
theorem yFq {n:Nat}{s:Str}(h:Nx n s)(k:Nat):Nx n (cutS s (some (k:Int)) none):=⟨by
 rw [sl_len,cut_some,yL0,<- sl_len]
 have:=h.len
 omega,fun c hc=>h.abc c (List.mem_of_mem_drop (by rw [<- cut_some];exact hc))⟩
theorem xXe {m n:Nat}{a b:Str}(ha:Nx m a)(hb:Nx n b):Nx (m+n) (a++b):=⟨by
 have:=ha.len
 have:=hb.len
 have e:(a++b).length=a.length+b.length:=Str.length_append a b
 omega,fun c hc=>by
 have hc:c∈sl (a++b):=hc
 rw [sl_app] at hc
 rcases xCo hc with z|z
 ·exact ha.abc c z
 ·exact hb.abc c z⟩
theorem xGt {S:List Nat}: ∀ {ps:List (List Nat)} {c:Nat},c∈TL.joinL S ps->c∈S\/ ∃ p∈ps,c∈p
 | [],_,h=>by cases h
 | [p],_,h=> .inr ⟨p,yK3 ..,h⟩
 | p::q::r,c,h=>by
  rcases xCo (show c∈p++(S++TL.joinL S (q::r)) from h) with z|z
  ·exact .inr ⟨p,yK3 ..,z⟩
  ·rcases xCo z with z|z
   ·exact .inl z
   ·rcases xGt z with y|⟨x,y1,y2⟩
    ·exact .inl y
    ·exact .inr ⟨x,yK7 _ y1,y2⟩
theorem yDd {l:List Nat}{n:Nat}(h: ∀ a∈l,a<=n):l.sum<=l.length*n:=by
 induction l with
 | nil=>exact yLy _
 | cons a l ih=>
  rw [List.sum_cons,yK9,Nat.succ_mul]
  have:=h a (yK3 ..)
  have:=ih fun b hb=>h b (yK7 _ hb)
  omega
theorem joined {ps:List Str}{m:Nat}(hp: ∀ p∈ps,Nx 1 p)(hm:ps.length<=m):Nx m (Txt.join "" ps)/\(ps.map (·.length)).sum+ps.length*("":Str).length<=m:=by
 have z:=yDd (l:=ps.map (·.length)) (n:=1) fun a ha=>by
  obtain ⟨p,h1,rfl⟩:=yLg.mp ha
  exact (hp p h1).len
 rw [yK2] at z
 have e0:("":Str).length=0:=by decide +kernel
 have e:Txt.join "" ps=Str.join "" ps:=StrLaws.glued_eq_join "" ps
 refine ⟨⟨?_,fun c hc=> ?_⟩,by rw [e0];omega⟩
 ·rw [e]
  cases ps with
  | nil=>exact yLy _
  | cons a l=>
   rw [len_join_cons,e0]
   omega
 ·rw [e] at hc
  have hc:c∈TL.tl (Str.join "" ps):=hc
  rw [TL.tl_join] at hc
  rcases xGt hc with z|⟨q,z1,z2⟩
  ·have z:c∈sl "":=z
   rw [show sl ""=[] by decide +kernel] at z
   cases z
  ·obtain ⟨p,hp1,rfl⟩:=yLg.mp z1
   exact (hp p hp1).abc c z2
theorem xXp {l:List Int}{q:Int}(h:0<=q/\q<(l.length:Nat)): ∃ z∈l,atI (l.map D.int) q=some (.int z):=by
 obtain ⟨k,rfl⟩: ∃ k:Nat,q=k:=⟨q.toNat,by omega⟩
 have hk:k<l.length:=by omega
 refine ⟨l[k],List.getElem_mem hk,?_⟩
 rw [Fm.atI_nat,yLe,yLb hk]
 rfl
theorem yDv (i:Int)(hi:0<=i/\i<26): ∃ c,atI (sl abc) i=some c/\c∈sl abc:=by
 obtain ⟨k,rfl⟩: ∃ k:Nat,i=k:=⟨i.toNat,by omega⟩
 have e:(sl abc).length=26:=by rw [<- sl_len,xGg]
 have hk:k<(sl abc).length:=by omega
 exact ⟨(sl abc)[k],by rw [Fm.atI_nat,yLb hk],List.getElem_mem hk⟩
theorem xV6 {n:Nat}{d:D}{x:Bool}{α:Type}{f:α->D}{l:List α}(h:Drw n d)(h0:0<l.length)(h1:l.length<=100000)(hn:n<=1000000):Fw (xDn [.ow d,.va (.lst x (l.map f))]) (fun r o=> ∃ w,r= .va (f w)/\w∈l/\ ∃ d',o=[.ow d',.un]/\Drw (n+1) d') NoX:=by
 refine xAt rfl ?_
 walk_at "own2"
 refine xDb (xB5 h (by rw [yK2];omega) (szS (by rw [yK2];omega)) (by omega)) fun q d' hq hd=> ?_
 rw [yK2] at hq
 obtain ⟨k,rfl⟩: ∃ k:Nat,q=k:=⟨q.toNat,by omega⟩
 have hk:k<l.length:=by omega
 walk_at "own2"
 refine xDx (show atI _ _=some (f l[k]) by rw [Fm.atI_nat,yLe,yLb hk];rfl) ?_
 walk_at "own2"
 exact ⟨List.getElem_mem hk,d',rfl,hd⟩
theorem yFu {n:Nat}{d:D}(h:Drw n d)(hn:n<=1000000):Fw (xDn [.ow d,.va (.str abc)]) (fun r o=> ∃ w,r= .va (.str w)/\Nx 1 w/\ ∃ d',o=[.ow d',.un]/\Drw (n+1) d') NoX:=by
 refine xAt rfl ?_
 walk_at "own2"
 ·refine xDb (xB5 h (by rw [xGg];decide) (szS (by rw [xGg];decide)) (by omega)) fun q d' hq hd=> ?_
  rw [xGg] at hq
  obtain ⟨c,ec,hc⟩:=yDv q hq
  walk_at "own2"
  refine yCy ?_ ec (by rw [xGg];decide)
  walk_at "own2"
  exact ⟨⟨yLq 1,fun x hx=>by rw [xCx (show x∈[c] from hx)];exact hc⟩,d',rfl,hd⟩
 ·rw [xGg]
  decide
structure Nm (s:Str):Prop where
 nx:Nx 8 s
 pos:1<=s.length
structure Nm6 (s:Str):Prop where
 nx:Nx 6 s
 pos:1<=s.length
theorem Nm6.nm {s:Str}(h:Nm6 s):Nm s:=⟨⟨yLt h.nx.len (by decide),h.nx.abc⟩,h.pos⟩
theorem xX7 {n:Nat}{d:D}{many:Int}(hm:1<=many/\many<=12)(h:Drw n d)(hn:n<=100000):Fw (xD4 [.ow d,.va (.int many)]) (fun r o=> ∃ l:List Str,r= .ow (.lst false (l.map D.str))/\(l.length=many.toNat/\ ∀ w∈l,Nm6 w)/\ ∃ d',o=[.ow d',.un]/\Drw (n+20) d') NoX:=by
 refine xAt rfl ?_
 refine xAj ?_
 refine xAx (q:=fun f ρ=>f= .nx/\ρ=[.ow d,.va (.int many),.va (.str abc),.un,.un,.un,.un,.un,.un,.un]) ?_ ?_
 ·walk_at "own10"
  exact ⟨rfl,rfl⟩
 rintro _ _ ⟨rfl,rfl⟩
 refine xAj ?_
 refine xAx (q:=fun f ρ=>f= .nx/\ ∃ w d' s8,ρ=[.ow d',.va (.int many),.va (.str abc),.va (.str w),.un,.un,.un,.un,s8,.un]/\Nx 5 w/\Drw (n+7) d') ?_ ?_
 ·walk_at "own10"
  refine xDb (xB5 h (by decide) (szS (by decide)) (by omega)) fun q d1 hq k1=> ?_
  walk_at "own10"
  refine ⟨by omega,?_⟩
  refine yA2 (I:=fun i ρ=> ∃ d' s8,ρ=[.ow d',.va (.int many),.va (.str abc),.un,.un,.un,.un,.un,s8,.un]/\Drw (n+1+i) d') (Q:=Nx 1) (m:=D.str) ?_ ⟨d1,_,rfl,k1⟩ (by rw [xB7];omega) ?_
  ·rintro i e ρ hi ⟨d2,s8,rfl,k2⟩
   obtain ⟨hi2,rfl⟩:=xL4 hi
   refine ⟨_,rfl,?_⟩
   walk_at "own10"
   refine xAf (yFu k2 (by omega)) ?_
   rintro r o ⟨w,rfl,hw,d3,rfl,k3⟩
   walk_at "own10"
   exact ⟨⟨w,hw,rfl⟩,d3,_,rfl,k3⟩
  ·rintro L ρ hL hQ ⟨d2,s8,rfl,k2⟩
   rw [xB7] at hL k2
   have j:=joined (m:=5) hQ (by omega)
   walk_at "own10"
   ·exact ⟨rfl,_,d2,_,rfl,j.1,k2.mono (by omega)⟩
   ·have:=j.2
    omega
 rintro _ _ ⟨rfl,w,d1,s8,rfl,hw,k1⟩
 have lw:=hw.len
 walk_at "own10"
 ·refine xDb (xB5 k1 (by omega) (szS (by omega)) (by omega)) fun at_ d2 ha k2=> ?_
  walk_at "own10"
  refine xDb (xB5 k2 (by decide) (szS (by decide)) (by omega)) fun first d3 hf k3=> ?_
  walk_at "own10"
  refine xDb (xB5 k3 (by decide) (szS (by decide)) (by omega)) fun sp d4 hs k4=> ?_
  obtain ⟨step,hm2,es⟩:=xXp (l:=[1,3,5,7,11,25]) hs
  have hstep:step.natAbs<26:=by
   simp only [yLp,or_false,yM0] at hm2
   omega
  walk_at "own10"
  refine xF4 es ?_
  walk_at "own10"
  refine ⟨by omega,?_⟩
  refine yA2 (I:=fun i ρ=> ∃ s8,ρ=[.ow d4,.va (.int many),.va (.str abc),.va (.str w),.va (.int at_),.va (.int first),.va (.int step),.un,s8,.un]) (Q:=fun s=>Nx 1 s/\s.length=1) (m:=D.str) ?_ ⟨_,rfl⟩ (by rw [xB7];omega) ?_
  ·rintro i e ρ hi ⟨s8,rfl⟩
   obtain ⟨hi2,rfl⟩:=xL4 hi
   refine ⟨_,rfl,?_⟩
   walk_at "own10"
   ·obtain ⟨c,ec,hc⟩:=yDv ((first+step*i).fmod 26) ⟨yMt _ (by decide),yM8 _ (by decide)⟩
    refine yCy ?_ ec (by rw [xGg];decide)
    walk_at "own10"
    exact ⟨⟨⟨#[c]⟩,⟨⟨yLq 1,fun x hx=>by
     have hx:x∈[c]:=hx
     rw [xCx hx]
     exact hc⟩,rfl⟩,rfl⟩,_,rfl⟩
   ·decide
   ·exact xRu (j:=5) (k:=5) (by unfold Sz;omega) (by unfold Sz;omega) (by decide)
  ·rintro L ρ hL hQ ⟨s8,rfl⟩
   rw [xB7] at hL
   obtain ⟨at',rfl⟩: ∃ k:Nat,at_=k:=⟨at_.toNat,by omega⟩
   walk_at "own10"
   refine yA2 (I:=fun i ρ=> ∃ s9,ρ=[.ow d4,.va (.int many),.va (.str abc),.va (.str w),.va (.int at'),.va (.int first),.va (.int step),.va (.lst false (L.map D.str)),s8,s9]) (Q:=Nm6) (m:=D.str) ?_ ⟨_,rfl⟩ (by rw [yK2];omega) ?_
   ·rintro i e ρ hi ⟨s9,rfl⟩
    rw [yLe] at hi
    obtain ⟨x,hx,rfl⟩:=yK4.mp hi
    obtain ⟨tx,lx⟩:=hQ x (yLf hx)
    have t1:=yE9 hw at'
    have t2:=yFq hw at'
    have e3:(cutS w none (some (at':Int))++x++cutS w (some (at':Int)) none).length=w.length+x.length:=by
     rw [Str.length_append,Str.length_append,sl_len,cut_none,sl_len (cutS _ _ _),cut_some,sl_len w,yLv,yL0]
     omega
    have tt:=xXe (xXe t1 tx) t2
    have e4:(cutS w none (some (at':Int))++x).length<=10:=yLt (xXe t1 tx).len (by decide)
    have e5:=t1.len
    have e6:=t2.len
    refine ⟨_,rfl,?_⟩
    walk_at "own10"
    ·exact ⟨⟨_,⟨⟨by rw [e3];omega,tt.abc⟩,by rw [e3];omega⟩,rfl⟩,_,rfl⟩
    ·omega
    ·omega
    ·omega
    ·omega
   ·rintro L2 ρ hL2 hQ2 ⟨s9,rfl⟩
    rw [yK2] at hL2
    walk_at "own10"
    exact ⟨⟨by omega,hQ2⟩,d4,rfl,k4.mono (by omega)⟩
 ·omega
theorem yA0 {n:Nat}{d:D}{many:Int}(hm:1<=many/\many<=12)(h:Drw n d)(hn:n<=100000):Fw (xD4 [.ow d,.va (.int many)]) (fun r o=> ∃ l:List Str,r= .ow (.lst false (l.map D.str))/\(l.length=many.toNat/\ ∀ w∈l,Nm w)/\ ∃ d',o=[.ow d',.un]/\Drw (n+20) d') NoX:=by
 refine xAf (xX7 hm h hn) ?_
 rintro r o ⟨l,rfl,⟨h1,h2⟩,d',rfl,h3⟩
 exact ⟨l,rfl,⟨h1,fun w hw=>(h2 w hw).nm⟩,d',rfl,h3⟩
end Lw
open L2 PySem PySem.Spec PyProof.Rows Fm
namespace Lw
open L2 PySem PySem.Spec PyProof.Rows Fm
def Bd (k:Nat)(s:Vec):Prop:= ∀ a∈s,a.natAbs<=k
theorem numbers_ok {n:Nat}{d:D}{w:Nat}{lim:Int}(hw:w<=3)(hl:0<=lim/\lim<=1000000000)(h:Drw n d)(hn:n<=100000):Fw (xEa [.ow d,.va (.int w),.va (.int lim)]) (fun r o=> ∃ s:Vec,r= .va (dV s)/\(s.length=w/\Bd lim.toNat s)/\ ∃ d',o=[.ow d',.un,.un]/\Drw (n+3) d') NoX:=by
 refine xAt rfl ?_
 walk_at "own4"
 refine ⟨by omega,?_⟩
 refine yA2 (I:=fun i ρ=> ∃ d' s3,ρ=[.ow d',.va (.int w),.va (.int lim),s3]/\Drw (n+i) d') (Q:=fun a:Int=>a.natAbs<=lim.toNat) (m:=D.int) ?_ ⟨d,_,rfl,h⟩ (by rw [xB7];omega) ?_
 ·rintro i e ρ hi ⟨d2,s3,rfl,k2⟩
  refine ⟨_,rfl,?_⟩
  walk_at "own4"
  ·refine xDb (xB5 k2 (by omega) (Sz.mono (j:=40) (show (2*lim+1).natAbs<2 ^ 40 by omega) (by decide)) (by
    obtain ⟨this,_⟩:=yK5.mp hi
    rw [xB7] at this
    omega)) fun q d3 hq k3=> ?_
   walk_at "own4"
   exact ⟨⟨_,by omega,rfl⟩,d3,_,rfl,k3⟩
  ·exact xRu (j:=5) (k:=40) (by unfold Sz;decide) (by unfold Sz;omega) (by decide)
 ·rintro L ρ hL hQ ⟨d2,s3,rfl,k2⟩
  rw [xB7] at hL k2
  walk_at "own4"
  exact ⟨⟨by omega,hQ⟩,d2,rfl,k2.mono (by omega)⟩
theorem xLj {s:Vec}(hs:s.length<=1000):Fw (xDi [.va (dV s)]) (fun r o=>r= .va (dV (neg s))/\o=[.un]) NoX:=by
 refine xAt rfl ?_
 walk_at "own2"
 refine xK8 (L:=neg s) (m:=D.int) (by rw [xRl,yK2]) (fun i d c hd hc=> ?_) (by rw [yK2];omega) ?_
 ·rw [yLe] at hd
  obtain ⟨a,ha,rfl⟩:=yK4.mp hd
  unfold neg at hc
  rw [yLe,ha] at hc
  cases hc
  refine ⟨_,rfl,?_⟩
  walk_at "own2"
  exact ⟨rfl,rfl⟩
 ·walk_at "own2"
  exact ⟨rfl,rfl⟩
structure TOk (w:Nat)(N:List Str)(t:Tie):Prop where
 u:t.1∈N
 v:t.2.1∈N
 len:t.2.2.length=w
 bd:Bd 1000000 t.2.2
 ne: ¬ (t.1=t.2.1/\ ∀ a∈t.2.2,a=0)
theorem yBl {s:Vec}(h: ∀ a∈neg s,a=0): ∀ a∈s,a=0:=fun a ha=>by
 have:=h (0-a) (yLg.mpr ⟨a,ha,rfl⟩)
 omega
theorem yH9 {k:Nat}{s:Vec}(h:Bd k s):Bd k (neg s):=fun a ha=>by
 obtain ⟨b,hb,rfl⟩:=yLg.mp ha
 have:=h b hb
 omega
theorem TOk.about {w:Nat}{N:List Str}{t:Tie}(h:TOk w N t):TOk w N (about t):=⟨h.v,h.u,(xRl _).trans h.len,yH9 h.bd,fun z=>h.ne ⟨z.1.symm,yBl z.2⟩⟩
theorem TOk.les {w:Nat}{N:List Str}{t:Tie}(h:TOk w N t):TOk w N (les t):=by
 rcases yC3 t with e|e
 ·rw [e]
  exact h
 ·rw [e]
  exact h.about
abbrev NmL (N:List Str):Prop:= ∀ s∈N,Nm s
theorem Nm.ok {s:Str}(h:Nm s):PyData.strOk s=true:=h.nx.ok
theorem xL2 {t:Tie}(h1:PyData.strOk t.1=true)(h2:PyData.strOk t.2.1=true)(hs:t.2.2.length<=1000):Fw (xCu [.va (dT t)]) (fun r o=>r= .va (dT (les t))/\o=[.un]) NoX:=by
 obtain ⟨u,v,s⟩:=t
 refine xAt rfl ?_
 walk_at "own1"
 refine xAf (xLj hs) ?_
 rintro r o ⟨rfl,rfl⟩
 walk_at "own1"
 refine yDs ?_ (yDl (t:=(u,v,s)) h1 h2)
 rw [show xNy (D.tup [.str u,.str v,dV s]) (D.tup [.str v,.str u,dV (neg s)])=dT (les (u,v,s)) from xWo (u,v,s)]
 exact ⟨rfl,rfl⟩
structure TsOk (w:Nat)(N:List Str)(ts:List Tie):Prop where
 tie: ∀ t∈ts,TOk w N t/\les t=t
 nd:ts.Nodup
 srt:srtF dT ts=ts
theorem xZu {w:Nat}{N:List Str}{ts:List Tie}{b:Bool}(hN:NmL N)(h: ∀ t∈ts,TOk w N t):D.pl 60 (.lst b (ts.map dT))=true:=yDf fun d hd=>by
 obtain ⟨t,ht,rfl⟩:=yLg.mp hd
 exact pl_T (hN _ (h t ht).u).ok (hN _ (h t ht).v).ok
theorem xMu (s:Vec):((s.map fun a=>decide (a=0)).all id=true) ↔ ∀ a∈s,a=0:=by
 rw [List.all_map,yLu]
 constructor
 ·intro h a ha
  exact of_decide_eq_true (h a ha)
 ·intro h a ha
  exact decide_eq_true (h a ha)
theorem xH0 {γ:Type}{s:Vec}{i:Nat}{d:D}{f:Int->γ}{c:γ}(hd:(s.map D.int)[i]? =some d)(hc:(s.map f)[i]? =some c): ∃ a,d= .int a/\c=f a:=by
 rw [yLe] at hd hc
 obtain ⟨a,ha,rfl⟩:=yK4.mp hd
 rw [ha] at hc
 cases hc
 exact ⟨a,rfl,rfl⟩
structure PutR (ts:List Tie)(t:Tie)(ts':List Tie):Prop where
 old: ∀ x∈ts,x∈ts'
 new:(¬ (t.1=t.2.1/\ ∀ a∈t.2.2,a=0))->les t∈ts'
 src: ∀ x∈ts',x∈ts\/x=les t
theorem yA1 {w:Nat}{N:List Str}{ts:List Tie}{t:Tie}{b:Bool}(hN:NmL N)(h:TsOk w N ts)(hw:w<=3)(hu:t.1∈N)(hv:t.2.1∈N)(hl:t.2.2.length=w)(hb:Bd 1000000 t.2.2)(hn:ts.length<=1000):Fw (xFq [.va (.lst b (ts.map dT)),.va (dT t)]) (fun r o=> ∃ ts',(r= .va (.lst b (ts'.map dT))\/r= .ow (.lst false (ts'.map dT)))/\(TsOk w N ts'/\ts'.length<=ts.length+1)/\PutR ts t ts'/\o=[.un,.un]) NoX:=by
 obtain ⟨u,v,s⟩:=t
 have ou:=(hN _ hu).ok
 have ov:=(hN _ hv).ok
 have stay:TsOk w N ts/\ts.length<=ts.length+1:=⟨h,by omega⟩
 have key:(¬ (u=v/\ ∀ a∈s,a=0))->les (u,v,s)∉ts->TsOk w N (srtF dT (ts++[les (u,v,s)]))/\(srtF dT (ts++[les (u,v,s)])).length<=ts.length+1:=fun h1 h2=>by
  have k:TOk w N (u,v,s):=⟨hu,hv,hl,hb,h1⟩
  have pm:=xC6 dT (ts++[les (u,v,s)])
  refine ⟨⟨fun t ht=> ?_,pm.nodup_iff.mpr ?_,xO8 dT xPr xD7 _⟩,by rw [pm.length_eq,yLn];exact yLq _⟩
  ·rcases xCo (pm.mem_iff.mp ht) with z|z
   ·exact h.tie t z
   ·rw [xCx z]
    exact ⟨k.les,xYf _⟩
  ·rw [yMi]
   exact ⟨h.nd,yLo.mpr ⟨(fun z=>by cases z),yLw⟩,fun a ha b hb e=>h2 (by rw [xCx hb] at e;rw [<- e];exact ha)⟩
 have hall: ∀ {ρ:List SD} {p:D->List SD->Prop},True:=fun {_ _}=>trivial
 refine xAt rfl ?_
 refine xAj ?_
 refine xAx (q:=fun f ρ=>(f= .rt (.va (.lst b (ts.map dT)))/\ρ=[.va (.lst b (ts.map dT)),.va (dT (u,v,s)),.un]/\PutR ts (u,v,s) ts)\/(f= .nx/\ρ=[.va (.lst b (ts.map dT)),.va (dT (u,v,s)),.un]/\(¬ (u=v/\ ∀ a∈s,a=0))/\les (u,v,s)∉ts)) ?_ ?_
 ·have second:(¬ (u=v/\ ∀ a∈s,a=0))->Wp (mTst (mOp in3D (xAy xCu [] (aVa (mVar 1) (aNil))) (mVar 0))) [.va (.lst b (ts.map dT)),.va (dT (u,v,s)),.un] (fun k ρ'=>(k=true->Wp (sRet (mMov 0)) ρ' (fun f ρ=>(f= .rt (.va (.lst b (ts.map dT)))/\ρ=[.va (.lst b (ts.map dT)),.va (dT (u,v,s)),.un]/\PutR ts (u,v,s) ts)\/(f= .nx/\ρ=[.va (.lst b (ts.map dT)),.va (dT (u,v,s)),.un]/\(¬ (u=v/\ ∀ a∈s,a=0))/\les (u,v,s)∉ts)) NoX)/\(k=false->Wp sNx ρ' (fun f ρ=>(f= .rt (.va (.lst b (ts.map dT)))/\ρ=[.va (.lst b (ts.map dT)),.va (dT (u,v,s)),.un]/\PutR ts (u,v,s) ts)\/(f= .nx/\ρ=[.va (.lst b (ts.map dT)),.va (dT (u,v,s)),.un]/\(¬ (u=v/\ ∀ a∈s,a=0))/\les (u,v,s)∉ts)) NoX)) NoX:=fun nz=>by
   walk_at "own3"
   refine xAf (xL2 (t:=(u,v,s)) ou ov (by show s.length<=1000;have:s.length=w:=hl;omega)) ?_
   rintro r o ⟨rfl,rfl⟩
   walk_at "own3"
   refine yCg ?_ ?_
   ·obtain ⟨bb,eb,hb⟩:=any_map dT xPr (les (u,v,s)) ts
    rw [eb]
    walk_at "own3"
    refine ⟨fun g0=> ?_,fun z=> ?_⟩
    ·walk_at "own3"
     exact .inl ⟨rfl,rfl,fun x hx=>hx,fun _=>hb.mp g0,fun x hx=> .inl hx⟩
    ·walk_at "own3"
     exact .inr ⟨rfl,rfl,nz,fun y=>by rw [hb.mpr y] at z;cases z⟩
   ·have kl:TOk w N (les (u,v,s)):=(TOk.mk hu hv hl hb nz).les
    rw [pl_T (hN _ kl.u).ok (hN _ kl.v).ok,xZu hN fun t ht=>(h.tie t ht).1]
    rfl
  walk_at "own3"
  ·refine ⟨fun z=> ?_,fun z=> ?_⟩
   ·walk_at "own3"
    refine xK8 (L:=s.map fun a=>decide (a=0)) (m:=D.bl) (by rw [yK2,yK2]) (fun i d c hd hc=> ?_) (by rw [yK2];have:s.length=w:=hl;omega) ?_
    ·obtain ⟨a,rfl,rfl⟩:=xH0 hd hc
     refine ⟨_,rfl,?_⟩
     walk_at "own3"
     exact ⟨rfl,rfl⟩
    ·walk_at "own3"
     refine ⟨fun y=> ?_,fun y=> ?_⟩
     ·walk_at "own3"
      exact .inl ⟨rfl,rfl,fun x hx=>hx,fun g=>absurd ⟨of_decide_eq_true z,(xMu s).mp y⟩ g,fun x hx=> .inl hx⟩
     ·exact second fun q=>by
       rw [(xMu s).mpr q.2] at y
       cases y
   ·refine ⟨(fun y=>by cases y),fun _=> ?_⟩
    exact second fun q=>of_decide_eq_false z q.1
  ·exact ou
  ·exact ov
 ·rintro f ρ (⟨rfl,rfl,pr⟩|⟨rfl,rfl,nz,ni⟩)
  ·exact ⟨ts,.inl rfl,stay,pr,rfl⟩
  ·unfold dT
   walk_at "own3"
   refine xAf (xL2 (t:=(u,v,s)) ou ov (by show s.length<=1000;have:s.length=w:=hl;omega)) ?_
   rintro r o ⟨rfl,rfl⟩
   walk_at "own3"
   ·refine xMn ?_ ?_
    ·rw [show ts.map dT++[dT (les (u,v,s))]=(ts++[les (u,v,s)]).map dT by rw [yLs];rfl,xMx]
     have pm:=xC6 dT (ts++[les (u,v,s)])
     exact ⟨_,.inr rfl,key nz ni,⟨fun x hx=>pm.mem_iff.mpr (List.mem_append_left _ hx),fun _=>pm.mem_iff.mpr (List.mem_append_right _ (yLl.mpr rfl)),fun x hx=>(xCo (pm.mem_iff.mp hx)).imp id xCx⟩,rfl⟩
    ·rw [show ts.map dT++[dT (les (u,v,s))]=(ts++[les (u,v,s)]).map dT by rw [yLs];rfl]
     refine xWn fun t ht=> ?_
     have k:TOk w N t:=by
      rcases xCo ht with z|z
      ·exact (h.tie t z).1
      ·rw [xCx z]
       exact (TOk.mk hu hv hl hb nz).les
     exact ⟨(hN _ k.u).ok,(hN _ k.v).ok⟩
   ·rw [yK2,yMk]
    omega
theorem yE6 {w:Nat}{N:List Str}{ts:List Tie}{t:Tie}{b:Bool}(hN:NmL N)(h:TsOk w N ts)(hw:w<=3)(hu:t.1∈N)(hv:t.2.1∈N)(hl:t.2.2.length=w)(hb:Bd 1000000 t.2.2)(hn:ts.length<=1000):Fw (xFq [.va (.lst b (ts.map dT)),.va (dT t)]) (fun r o=> ∃ ts',(r= .va (.lst b (ts'.map dT))\/r= .ow (.lst false (ts'.map dT)))/\(TsOk w N ts'/\ts'.length<=ts.length+1)/\o=[.un,.un]) NoX:=
 xAf (yA1 hN h hw hu hv hl hb hn) fun _ _ ⟨ts',h1,h2,_,h3⟩=>⟨ts',h1,h2,h3⟩
end Lw
open L2 PySem PySem.Spec PyProof.Rows Fm
namespace Lw
open L2 PySem PySem.Spec PyProof.Rows Fm
structure KOk (N:List Str)(m:List (Key×D)):Prop where
 mem: ∀ p∈m,∃ s y,p=((.inr s:Key),D.int y)/\s∈N/\0<=y/\y<=9
 nd:(m.map Prod.fst).Nodup
theorem KOk.nil {N:List Str}:KOk N []:=⟨fun p h=>by (cases h),yLw⟩
theorem yI5 {m:List (Key×D)}{k:Key}{d:D}(h:(m.map Prod.fst).Nodup):((xB3 m k d).map Prod.fst).Nodup:=by
 unfold xB3
 split
 ·rw [yLz,show (Prod.fst∘fun kv:Key×D=>if kv.1=k then (kv.1,d) else kv)=Prod.fst from funext fun kv=>by
   show (if kv.1=k then (kv.1,d) else kv).1=kv.1
   split <;> rfl]
  exact h
 ·rename_i g
  (rw [yLs,yMi])
  refine ⟨h,yLo.mpr ⟨(fun z=>by cases z),yLw⟩,fun a ha b hb e=> ?_⟩
  have hb:b=k:=xCx hb
  obtain ⟨q,hq,rfl⟩:=yLg.mp ha
  exact g (List.any_eq_true.mpr ⟨q,hq,decide_eq_true (e.trans hb)⟩)
theorem KOk.put {N:List Str}{m:List (Key×D)}{s:Str}{y:Int}(h:KOk N m)(hs:s∈N)(h0:0<=y)(h1:y<=9):KOk N (xB3 m (.inr s) (.int y)):=⟨fun p hp=>by
 rcases xOh hp with z|z
 ·exact h.mem p z
 ·exact ⟨s,y,z,hs,h0,h1⟩,yI5 h.nd⟩
theorem xJh: ∀ {l:List (Key×D)} {ks:List Str},xDk l=some ks->l.map Prod.fst=ks.map (Sum.inr:Str->Key)
 | [],ks,h=>by
  cases h
  rfl
 | (.inl i,d)::l,ks,h=>by cases h
 | (.inr s,d)::l,ks,h=>by
  have h:(xDk l).map (s:: ·)=some ks:=h
  obtain ⟨ks2,h1,rfl⟩:=yK4.mp h
  rw [yLx,yLx,xJh h1]
theorem xP9 {α β:Type}{f:α->β}: ∀ {l:List α},(l.map f).Nodup->l.Nodup
 | [],_=>yLw
 | a::l,h=>by
  obtain ⟨h1,h2⟩:=yLo.mp (show (f a::l.map f).Nodup from h)
  exact yLo.mpr ⟨fun z=>h1 (yLg.mpr ⟨a,z,rfl⟩),xP9 h2⟩
theorem KOk.knd {N:List Str}{m:List (Key×D)}{ks:List Str}(h:KOk N m)(e:xDk m=some ks):ks.Nodup:=xP9 (f:=(Sum.inr:Str->Key)) (by rw [<- xJh e];exact h.nd)
theorem yF8 {α:Type}[DecidableEq α]{l m:List α}(h1:l.Nodup)(h2:m.Nodup)(h: ∀ a,a∈l ↔ a∈m):l.Perm m:=List.perm_iff_count.mpr fun a=>by
 by_cases z:a∈l
 ·rw [h1.count,if_pos z,h2.count,if_pos ((h a).mp z)]
 ·rw [List.count_eq_zero.mpr z,List.count_eq_zero.mpr fun y=>z ((h a).mpr y)]
theorem KOk.get {N:List Str}{m:List (Key×D)}{s:Str}(h:KOk N m)(hs:(getK m (.inr s)).isSome=true): ∃ y,getK m (.inr s)=some (.int y)/\s∈N/\0<=y/\y<=9:=by
 obtain ⟨d,e⟩:=yMe.mp hs
 obtain ⟨s',y,h1,h2,h3,h4⟩:=h.mem _ (xI6 e)
 cases h1
 exact ⟨y,e,h2,h3,h4⟩
theorem KOk.keys {N:List Str}{m:List (Key×D)}(h:KOk N m): ∃ ks,xDk m=some ks/\ks.length=m.length/\(∀ s∈ks,s∈N/\(getK m (.inr s)).isSome=true)/\ ∀ s,(getK m (.inr s)).isSome=true->s∈ks:=by
 obtain ⟨ks,h1,h2,h3⟩:=xSi (l:=m) fun p hp=>by
  obtain ⟨s,y,e,_⟩:=h.mem p hp
  exact ⟨s,by rw [e]⟩
 refine ⟨ks,h1,h2,fun s hs=> ?_,fun s hs=> ?_⟩
 ·obtain ⟨d,hd⟩:=(h3 s).mp hs
  obtain ⟨s',y,e,h4,_⟩:=h.mem _ hd
  cases e
  exact ⟨h4,xSz hd⟩
 ·obtain ⟨d,e⟩:=yMe.mp hs
  exact (h3 s).mpr ⟨d,xI6 e⟩
theorem xD8 {m:List (Key×D)}{k k':Key}{d:D}(h:(getK m k').isSome=true\/k'=k):(getK (xB3 m k d) k').isSome=true:=by
 rw [xR4]
 by_cases z:k'=k
 ·rw [if_pos z]
  rfl
 ·rw [if_neg z]
  exact h.resolve_right z
theorem xEw {α:Type}{l:List α}{i:Nat}{x y:α}(hx:l[i]? =some x)(h:y∈l.take (i+1)):y∈l.take i\/y=x:=by
 rw [yL4,hx] at h
 rcases xCo h with z|z
 ·exact .inl z
 ·exact .inr (xCx z)
theorem TsOk.nil {w:Nat}{N:List Str}:TsOk w N []:=⟨fun t ht=>by (cases ht),yLw,by unfold srtF;exact List.mergeSort_nil⟩
abbrev dM (w:Nat)(m:List (Key×D))(b:Bool)(ts:List Tie):D:= .tup [.int w,.dk false m,.lst b (ts.map dT)]
structure MOk (w:Nat)(N:List Str)(m:List (Key×D))(ts:List Tie):Prop where
 wl:w<=3
 nm:NmL N
 pos:0<N.length
 few:N.length<=12
 knots:KOk N m
 klen:m.length<=12
 has: ∀ s∈N,(getK m (.inr s)).isSome=true
 ties:TsOk w N ts
 tlen:ts.length<=24
theorem xPz {N:List Str}{i:Nat}{d:D}(h:(N.map D.str)[i]? =some d): ∃ s,N[i]? =some s/\d= .str s:=by
 rw [yLe] at h
 obtain ⟨s,e,rfl⟩:=yK4.mp h
 exact ⟨s,e,rfl⟩
theorem xVf {lim:Nat}(hlim:lim<=24){n:Nat}{d:D}{w:Nat}{N:List Str}{x:Bool}(hw:w<=3)(hN:NmL N)(h0:0<N.length)(h3:N.length<=12)(h:Drw n d)(hn:n<=90000):Fw (xFh [.ow d,.va (.int w),.va (.lst x (N.map D.str)),.va (.int lim)]) (fun r o=> ∃ m ts,r= .va (dM w m false ts)/\(MOk w N m ts/\ts.length<=lim)/\ ∃ d',o=[.ow d',.un,.un,.un]/\Drw (n+200) d') NoX:=by
 refine xAt rfl ?_
 refine xAj ?_
 refine xAx (q:=fun f ρ=>f= .nx/\ρ=[.ow d,.va (.int w),.va (.lst x (N.map D.str)),.va (.int lim),.ow (.dk false []),.un,.un,.un,.un]) ?_ ?_
 ·walk_at "own9"
  exact ⟨rfl,rfl⟩
 rintro _ _ ⟨rfl,rfl⟩
 refine xAj ?_
 refine xAx (q:=fun f ρ=>f= .nx/\ ∃ d' m s5,ρ=[.ow d',.va (.int w),.va (.lst x (N.map D.str)),.va (.int lim),.ow (.dk false m),s5,.un,.un,.un]/\(KOk N m/\m.length<=12/\ ∀ s∈N,(getK m (.inr s)).isSome=true)/\Drw (n+24) d') ?_ ?_
 ·refine xI2 ?_
  walk_at "own9"
  refine xD2 (I:=fun i ρ=> ∃ d' m s5,ρ=[.ow d',.va (.int w),.va (.lst x (N.map D.str)),.va (.int lim),.ow (.dk false m),s5,.un,.un,.un]/\(KOk N m/\m.length<=i/\ ∀ s∈N.take i,(getK m (.inr s)).isSome=true)/\Drw (n+2*i) d') ?_ ⟨d,[],_,rfl,⟨KOk.nil,yLq _,fun s hs=>by cases hs⟩,h⟩ ?_
  ·rintro i e ρ hi ⟨d1,m,s5,rfl,⟨k1,k2,k3⟩,k4⟩
   obtain ⟨s,hs,rfl⟩:=xPz hi
   have hi3:i<N.length:=(yK5.mp hs).1
   refine ⟨_,rfl,?_⟩
   refine xWa ?_
   walk_at "own9"
   refine xDb (xB5 k4 (by decide) (szS (by decide)) (by omega)) fun y d2 hy k5=> ?_
   walk_at "own9"
   refine xDb (xB5 k5 (by decide) (szS (by decide)) (by omega)) fun q d3 hq k6=> ?_
   obtain ⟨z,hm,ez⟩:=xXp (l:=[0,0,y]) hq
   have hz:0<=z/\z<=9:=by
    simp only [yLp,or_false,yM0] at hm
    omega
   walk_at "own9"
   refine xF4 ez ?_
   walk_at "own9"
   refine ⟨_,_,_,rfl,rfl,by omega,?_⟩
   have pl:=xEq m (.inr s) (.int z)
   refine ⟨d3,xB3 m (.inr s) (.int z),_,rfl,⟨k1.put (yLf hs) hz.1 hz.2,by omega,fun t ht=> ?_⟩,k6.mono (by omega)⟩
   refine xD8 ?_
   rcases xEw hs ht with g|g
   ·exact .inl (k3 t g)
   ·exact .inr (by rw [g])
  ·rintro ρ ⟨d1,m,s5,rfl,⟨k1,k2,k3⟩,k4⟩
   rw [yK2] at k2 k3 k4
   rw [yLd (yLq _)] at k3
   exact ⟨rfl,d1,m,s5,rfl,⟨k1,by omega,k3⟩,k4.mono (by omega)⟩
 rintro _ _ ⟨rfl,d1,m,s5,rfl,⟨k1,k2,k3⟩,k4⟩
 refine xAj ?_
 refine xAx (q:=fun f ρ=>f= .nx/\ρ=[.ow d1,.va (.int w),.va (.lst x (N.map D.str)),.va (.int lim),.ow (.dk false m),s5,.ow (.lst false []),.un,.un]) ?_ ?_
 ·walk_at "own9"
  exact ⟨rfl,rfl⟩
 rintro _ _ ⟨rfl,rfl⟩
 refine xAj ?_
 refine xAx (q:=fun f ρ=>f= .nx/\ ∃ d' ts s6 s7 s8,ρ=[.ow d',.va (.int w),.va (.lst x (N.map D.str)),.va (.int lim),.ow (.dk false m),s5,s6,s7,s8]/\(s6= .va (.lst false (ts.map dT))\/s6= .ow (.lst false (ts.map dT)))/\(TsOk w N ts/\ts.length<=lim)/\Drw (n+200) d') ?_ ?_
 ·walk_at "own9"
  refine xDb (xB5 k4 (by omega) (szS (by omega)) (by omega)) fun c d2 hc k5=> ?_
  walk_at "own9"
  refine ⟨by omega,?_⟩
  refine xD2 (I:=fun i ρ=> ∃ d' ts s6 s7 s8,ρ=[.ow d',.va (.int w),.va (.lst x (N.map D.str)),.va (.int lim),.ow (.dk false m),s5,s6,s7,s8]/\(s6= .va (.lst false (ts.map dT))\/s6= .ow (.lst false (ts.map dT)))/\(TsOk w N ts/\ts.length<=i)/\Drw (n+25+6*i) d') ?_ ⟨d2,[],_,_,_,rfl,.inr rfl,⟨TsOk.nil,yLq _⟩,k5.mono (by omega)⟩ ?_
  ·rintro i e ρ hi ⟨d3,ts,s6,s7,s8,rfl,hs6,⟨g1,g2⟩,g3⟩
   obtain ⟨hi2,rfl⟩:=xL4 hi
   refine ⟨_,rfl,?_⟩
   rcases hs6 with rfl|rfl
   all_goals
    walk_at "own9"
    ·refine xDb (xB5 g3 (by decide) (szS (by decide)) (by omega)) fun q d4 hq k6=> ?_
     obtain ⟨z,hm,ez⟩:=xXp (l:=[1,2,2,9,10 ^ Int.toNat 6]) hq
     have hz:0<=z/\z<=1000000:=by
      simp only [yLp,or_false,yM0] at hm
      rcases hm with rfl|rfl|rfl|rfl|rfl <;> decide
     walk_at "own9"
     refine xF4 ez ?_
     walk_at "own9"
     refine xAf (xV6 k6 h0 (by omega) (by omega)) ?_
     rintro r o ⟨u,rfl,hu,d5,rfl,k7⟩
     walk_at "own9"
     refine xAf (xV6 k7 h0 (by omega) (by omega)) ?_
     rintro r o ⟨v,rfl,hv,d6,rfl,k8⟩
     walk_at "own9"
     refine xAf (numbers_ok hw ⟨hz.1,by omega⟩ k8 (by omega)) ?_
     rintro r o ⟨s,rfl,⟨hl,hb⟩,d7,rfl,k9⟩
     walk_at "own9"
     refine xAf (yE6 (t:=(u,v,s)) hN g1 hw hu hv hl (fun a ha=>by have:=hb a ha;omega) (by omega)) ?_
     rintro r o ⟨ts',hr,⟨t1,t2⟩,rfl⟩
     rcases hr with rfl|rfl
     ·walk_at "own9"
      exact ⟨d7,ts',_,_,_,rfl,.inl rfl,⟨t1,by omega⟩,k9.mono (by omega)⟩
     ·walk_at "own9"
      exact ⟨d7,ts',_,_,_,rfl,.inr rfl,⟨t1,by omega⟩,k9.mono (by omega)⟩
    ·exact ⟨by decide,by decide,by omega⟩
  ·rintro ρ ⟨d3,ts,s6,s7,s8,rfl,hs6,⟨g1,g2⟩,g3⟩
   rw [xB7] at g2 g3
   exact ⟨rfl,d3,ts,s6,s7,s8,rfl,hs6,⟨g1,by omega⟩,g3.mono (by omega)⟩
 rintro _ _ ⟨rfl,d3,ts,s6,s7,s8,rfl,hs6,⟨g1,g2⟩,g3⟩
 rcases hs6 with rfl|rfl
 ·walk_at "own9"
  exact ⟨⟨⟨hw,hN,h0,h3,k1,k2,k3,g1,by omega⟩,g2⟩,d3,rfl,g3⟩
 ·walk_at "own9"
  exact ⟨⟨⟨hw,hN,h0,h3,k1,k2,k3,g1,by omega⟩,g2⟩,d3,rfl,g3⟩
end Lw
open L2 PySem PySem.Spec PyProof.Rows Fm
namespace Lw
open L2 PySem PySem.Spec PyProof.Rows Fm
theorem xP8 {s:Vec}(hs:s.length<=1000):Fw (xJe [.va (dV s)]) (fun r o=>r= .va (dV (neg s))/\o=[.un]) NoX:=by
 refine xAt rfl ?_
 walk_at "own2"
 refine xK8 (L:=neg s) (m:=D.int) (by rw [xRl,yK2]) (fun i d c hd hc=> ?_) (by rw [yK2];omega) ?_
 ·obtain ⟨a,rfl,rfl⟩:=xH0 hd hc
  refine ⟨_,rfl,?_⟩
  walk_at "own2"
  exact ⟨rfl,rfl⟩
 ·walk_at "own2"
  exact ⟨rfl,rfl⟩
def plus (a b:Vec):Vec:=List.zipWith (· + ·) a b
theorem xPx {t:Tie}(h1:PyData.strOk t.1=true)(h2:PyData.strOk t.2.1=true)(hs:t.2.2.length<=1000):Fw (xI4 [.va (dT t)]) (fun r o=>r= .va (dT (les t))/\o=[.un]) NoX:=by
 obtain ⟨u,v,s⟩:=t
 refine xAt rfl ?_
 walk_at "own4"
 refine xAf (xP8 hs) ?_
 rintro r o ⟨rfl,rfl⟩
 walk_at "own4"
 refine yDs ?_ (yDl (t:=(u,v,s)) h1 h2)
 rw [show xNy (D.tup [.str u,.str v,dV s]) (D.tup [.str v,.str u,dV (neg s)])=dT (les (u,v,s)) from xWo (u,v,s)]
 exact ⟨rfl,rfl⟩
theorem sg_at {l:List Nat}{i:Nat}{d:D}(h:(l.map fun c=>D.str ⟨#[c]⟩)[i]? =some d): ∃ c,l[i]? =some c/\d= .str ⟨#[c]⟩:=by
 rw [yLe] at h
 obtain ⟨c,e,rfl⟩:=yK4.mp h
 exact ⟨c,e,rfl⟩
theorem xU1 {s:Str}(h:Nm s):Fw (xKq [.va (.str s)]) (fun r o=>r= .va (.bl true)/\o=[.un]) NoX:=by
 have h1:=h.nx.len
 have h2:=h.pos
 refine xAt rfl ?_
 walk_at "own2"
 ·refine ⟨fun _=> ?_,fun z=> ?_⟩
  ·walk_at "own2"
   refine ⟨fun _=> ?_,fun z=> ?_⟩
   ·walk_at "own2"
    refine xK8 (L:=yLi (sl s).length true) (m:=D.bl) (by rw [yL6,yK2]) (fun i d c hd hc=> ?_) (by rw [yK2,<- sl_len];omega) ?_
    ·obtain ⟨x,hx,rfl⟩:=sg_at hd
     have hc2:=yMf (yLf hc)
     subst hc2
     refine ⟨_,rfl,?_⟩
     walk_at "own2"
     refine ⟨?_,rfl⟩
     rw [decide_eq_true (h.nx.abc x (yLf hx))]
    ·walk_at "own2"
     rw [xI8]
     exact ⟨rfl,rfl⟩
   ·have z:=of_decide_eq_false z
    omega
  ·have z:=of_decide_eq_false z
   omega
 ·omega
theorem xO1 {s:Str}(h:Nm s):Fw (xGe [.va (.str s)]) (fun r o=>r= .va .non/\o=[.un]) NoX:=by
 refine xAt rfl ?_
 walk_at "own1"
 refine xAf (xU1 h) ?_
 rintro r o ⟨rfl,rfl⟩
 walk_at "own1"
 exact ⟨rfl,rfl⟩
theorem xRp {y:Int}(h0:0<=y)(h9:y<=9):Fw (xHs [.va (.int y)]) (fun r o=>r= .va .non/\o=[.un]) NoX:=by
 refine xAt rfl ?_
 walk_at "own1"
 refine ⟨fun _=> ?_,fun z=> ?_⟩
 ·walk_at "own1"
  rw [decide_eq_true h9]
  walk_at "own1"
  exact ⟨rfl,rfl⟩
 ·have z:=of_decide_eq_false z
  omega
section
variable {b b1 b2:Bool}{l:List (Str×D)}{m:List (Key×D)}{w:Nat}{N:List Str}{bs:List Tie}
theorem xQv {s:Str}(hd:l.lookup ("dyes":Str)=some (.dk b1 m))(hs:(getK m (.inr s)).isSome=true):Fw (xCb [.va (.ins b "Pattern" l),.va (.str s)]) (fun r o=>r= .va .non) NoX:=by
 refine xAt rfl ?_
 walk_at "own2"
 refine ⟨_,_,_,rfl,hd,?_⟩
 walk_at "own2"
 refine yGa rfl ?_
 rw [hs]
 walk_at "own2"
 exact rfl
theorem xMq {s:Vec}(hw:l.lookup ("ways":Str)=some (.int w))(hs:s.length=w):Fw (xB9 [.va (.ins b "Pattern" l),.va (dV s)]) (fun r o=>r= .va .non) NoX:=by
 refine xAt rfl ?_
 walk_at "own2"
 refine ⟨_,_,_,rfl,hw,?_⟩
 walk_at "own2"
 rw [show (((s.map D.int).length:Nat):Int)=(w:Int) by rw [yK2,hs]]
 walk_at "own2"
 exact rfl
theorem xUw {t:Tie}(hw:l.lookup ("ways":Str)=some (.int w))(hd:l.lookup ("dyes":Str)=some (.dk b1 m))(hb:l.lookup ("bonds":Str)=some (.lst b2 (bs.map dT)))(n1:l.lookup ("need":Str)=none)(n2:l.lookup ("need_shift":Str)=none)(hN:NmL N)(ht:TOk w N t)(w3:w<=3)
  (hs: ∀ s∈N,(getK m (.inr s)).isSome=true) (hbs: ∀ t∈bs,TOk w N t) (hn:les t∉bs):Fw (xC1 [.va (.ins b "Pattern" l),.va (dT t)]) (fun r o=>r= .va (dT (les t))) NoX:=by
 obtain ⟨u,v,s⟩:=t
 have ou:=(hN _ ht.u).ok
 have ov:=(hN _ ht.v).ok
 have hl:s.length=w:=ht.len
 have hl':s.length<=1000:=by omega
 refine xAt rfl ?_
 refine xAj ?_
 refine xAx (q:=fun f ρ=>f= .nx/\ρ=[.va (.ins b "Pattern" l),.va (dT (u,v,s)),.un]) ?_ ?_
 ·walk_at "own3"
  refine ⟨n1,?_⟩
  walk_at "own3"
  refine xAf (xQv hd (hs _ ht.u)) ?_
  rintro r o rfl
  exact ⟨rfl,rfl⟩
 rintro _ _ ⟨rfl,rfl⟩
 refine xAj ?_
 refine xAx (q:=fun f ρ=>f= .nx/\ρ=[.va (.ins b "Pattern" l),.va (dT (u,v,s)),.un]) ?_ ?_
 ·walk_at "own3"
  refine ⟨n1,?_⟩
  walk_at "own3"
  refine xAf (xQv hd (hs _ ht.v)) ?_
  rintro r o rfl
  exact ⟨rfl,rfl⟩
 rintro _ _ ⟨rfl,rfl⟩
 refine xAj ?_
 refine xAx (q:=fun f ρ=>f= .nx/\ρ=[.va (.ins b "Pattern" l),.va (dT (u,v,s)),.un]) ?_ ?_
 ·walk_at "own3"
  refine ⟨n2,?_⟩
  walk_at "own3"
  refine xAf (xMq hw hl) ?_
  rintro r o rfl
  exact ⟨rfl,rfl⟩
 rintro _ _ ⟨rfl,rfl⟩
 refine xAj ?_
 refine xAx (q:=fun f ρ=>f= .nx/\ρ=[.va (.ins b "Pattern" l),.va (dT (u,v,s)),.un]) ?_ ?_
 ·walk_at "own3"
  refine xK8 (L:=yLi s.length false) (m:=D.bl) (by rw [yL6,yK2]) (fun i d c hd hc=> ?_) (by rw [yK2];exact (show s.length<=1000000 by omega)) ?_
  ·rw [yLe] at hd
   obtain ⟨a,ha,rfl⟩:=yK4.mp hd
   have hc2:=yMf (yLf hc)
   subst hc2
   have:=ht.bd a (yLf ha)
   refine ⟨_,rfl,?_⟩
   walk_at "own3"
   refine ⟨fun _=> ?_,fun z=> ?_⟩
   ·walk_at "own3"
    rw [decide_eq_true (show a<=1000000 by omega)]
    exact ⟨rfl,rfl⟩
   ·have z:=of_decide_eq_false z
    omega
  ·walk_at "own3"
   have e:(yLi s.length false).any id=false:=by
    rw [List.any_eq_false]
    intro x hx
    rw [yMf hx]
    decide
   rw [e]
   walk_at "own3"
   exact ⟨rfl,rfl⟩
 rintro _ _ ⟨rfl,rfl⟩
 refine xAj ?_
 refine xAx (q:=fun f ρ=>f= .nx/\ρ=[.va (.ins b "Pattern" l),.va (dT (u,v,s)),.un]) ?_ ?_
 ·walk_at "own3"
  ·refine ⟨fun z=> ?_,fun z=> ?_⟩
   ·walk_at "own3"
    refine xK8 (L:=s.map fun a=>decide (a=0)) (m:=D.bl) (by rw [yK2,yK2]) (fun i d c hd hc=> ?_) (by rw [yK2];exact (show s.length<=1000000 by omega)) ?_
    ·obtain ⟨a,rfl,rfl⟩:=xH0 hd hc
     refine ⟨_,rfl,?_⟩
     walk_at "own3"
     exact ⟨rfl,rfl⟩
    ·walk_at "own3"
     refine ⟨fun y=>(ht.ne ⟨of_decide_eq_true z,(xMu s).mp y⟩).elim,fun y=> ?_⟩
     walk_at "own3"
     exact ⟨rfl,rfl⟩
   ·walk_at "own3"
    exact ⟨rfl,rfl⟩
  ·exact ou
  ·exact ov
 rintro _ _ ⟨rfl,rfl⟩
 walk_at "own3"
 refine xAf (xPx (t:=(u,v,s)) ou ov hl') ?_
 rintro r o ⟨rfl,rfl⟩
 walk_at "own3"
 refine ⟨_,_,_,rfl,hb,?_⟩
 walk_at "own3"
 refine yCg ?_ ?_
 ·obtain ⟨bb,eb,hbb⟩:=any_map dT xPr (les (u,v,s)) bs
  rw [eb]
  walk_at "own3"
  refine ⟨fun z=>(hn (hbb.mp z)).elim,fun z=> ?_⟩
  walk_at "own3"
  refine xAf (xPx (t:=(u,v,s)) ou ov hl') ?_
  rintro r o ⟨rfl,rfl⟩
  walk_at "own3"
  rfl
 ·rw [pl_T (hN _ ht.les.u).ok (hN _ ht.les.v).ok,xZu hN hbs]
  rfl
end
end Lw
open L2 PySem PySem.Spec PyProof.Rows Fm
namespace Lw
open L2 PySem PySem.Spec PyProof.Rows Fm
theorem xSb {γ:Type}{ρ:List SD}{E:Exn->List SD->Prop}{pl:List D->List SD->Prop}{vs:List Nat}{g:D->List SD->Option (List SD)}{tt:M Bool}{te:M SD}(m:γ->D)(q:γ->Bool)(h:γ->D): ∀ {L:List γ} {acc:List D},
  (∀ c∈L,∃ ρ1,g (m c) (xBa ρ vs)=some ρ1/\Wp tt ρ1 (fun b ρ2=>b=q c/\(b=true->Wp (fE te) ρ2 (fun y ρ3=>y=h c/\unw ρ ρ3 vs=ρ) NoX)/\(b=false->unw ρ ρ2 vs=ρ)) NoX)->acc.length+L.length<=1000000->pl (acc++(L.filter q).map h) ρ->Wp (lcL vs g tt te (L.map m) acc) ρ pl E
 | [],acc,_,_,fin=>⟨by rw [List.filter_nil,yMx,yL9] at fin;exact fin⟩
 | d::l,acc,step,hl,fin=>by
  obtain ⟨ρ1,e1,hw⟩:=step d (yK3 ..)
  rw [yK9] at hl
  refine ⟨?_⟩
  rw [yLx]
  unfold lcL
  simp only [e1]
  have hw:=hw.run
  cases et:tt ρ1 with
  | ok b ρ2=>
   rw [et] at hw
   obtain ⟨hb,h1,h2⟩:=hw
   cases b with
   | false=>
    dsimp only
    rw [h2 rfl]
    refine (xSb m q h (fun d hd=>step d (yK7 _ hd)) (by omega) ?_:Wp (lcL vs g tt te (l.map m) acc) ρ pl E).run
    rw [List.filter_cons,<- hb] at fin
    exact fin
   | true=>
    dsimp only
    have hw:=(h1 rfl).run
    cases ee:fE te ρ2 with
    | ok y ρ3=>
     rw [ee] at hw
     obtain ⟨rfl,hu⟩:=hw
     dsimp only
     rw [if_pos (by omega),hu]
     refine (xSb m q h (fun d hd=>step d (yK7 _ hd)) (by rw [yLn,yMk];omega) ?_:Wp (lcL vs g tt te (l.map m) (acc++[h d])) ρ pl E).run
     rw [List.filter_cons,<- hb] at fin
     rw [yL7]
     exact fin
    | ex x ρ3=>
     rw [ee] at hw
     exact hw.elim
    | no=>
     rw [ee] at hw
     exact hw.elim
  | ex x ρ2=>
   rw [et] at hw
   exact hw.elim
  | no=>
   rw [et] at hw
   exact hw.elim
theorem xRk: ∀ s:Vec,nbL (s.map D.int)=true
 | []=>rfl
 | a::s=>by
  show (D.nb (.int a)&&nbL (s.map D.int))=true
  rw [xRk s]
  rfl
theorem nb_T (t:Tie):(dT t).nb=true:=by
 show (true&&(true&&(nbL (t.2.2.map D.int)&&true)))=true
 rw [xRk]
 rfl
theorem nb_P (t:Stp):(dP t).nb=true:=by
 show (true&&(nbL (t.2.map D.int)&&true))=true
 rw [xRk]
 rfl
theorem xVk: ∀ {l:List D},(∀ d∈l,d.nb=true)->nbL l=true
 | [],_=>rfl
 | d::l,h=>by
  show (D.nb d&&nbL l)=true
  rw [h d (yK3 ..),xVk fun e he=>h e (yK7 _ he)]
  rfl
theorem xDo {γ:Type}{f:γ->D}(hf: ∀ c,(f c).nb=true)(l:List γ):nbL (l.map f)=true:=xVk fun d hd=>by
 obtain ⟨c,_,rfl⟩:=yLg.mp hd
 exact hf c
theorem xYh: ∀ {l:List (Key×D)},(∀ p∈l,p.2.nb=true)->nbK l=true
 | [],_=>rfl
 | (k,d)::l,h=>by
  show (D.nb d&&nbK l)=true
  rw [h (k,d) (yK3 ..),xYh fun e he=>h e (yK7 _ he)]
  rfl
theorem KOk.nb {N:List Str}{m:List (Key×D)}(h:KOk N m):nbK m=true:=xYh fun p hp=>by
 obtain ⟨s,y,rfl,_⟩:=h.mem p hp
 rfl
section
variable {b b1 b2:Bool}{l:List (Str×D)}{m:List (Key×D)}{w:Nat}{N:List Str}{bs:List Tie}
theorem yE1 {n:Str}(hb:l.lookup ("bonds":Str)=some (.lst b2 (bs.map dT)))(hN:NmL N)(hbs: ∀ t∈bs,TOk w N t)(hn:n∈N)(h3:w<=3)(hl:bs.length<=1000):Fw (xEb [.va (.ins b "Pattern" l),.va (.str n)]) (fun r o=>r= .ow (.lst false ((yBe bs n).map dP))) NoX:=by
 have on:=(hN _ hn).ok
 refine xAt rfl ?_
 refine xAj ?_
 refine xAx (q:=fun f ρ=>f= .nx/\ρ=[.va (.ins b "Pattern" l),.va (.str n),.ow (.lst false (((bs.filter fun t=>decide (t.1=n)).map fun t=>(t.2.1,t.2.2)).map dP)),.un,.un,.un]) ?_ ?_
 ·walk_at "own6"
  refine ⟨_,_,_,rfl,hb,?_⟩
  walk_at "own6"
  refine xSb dT (fun t=>decide (t.1=n)) (fun t=>dP (t.2.1,t.2.2)) (fun t ht=> ?_) (by simpa using (show bs.length<=1000000 by omega)) ?_
  ·refine ⟨_,rfl,?_⟩
   walk_at "own6"
   ·refine ⟨rfl,fun _=> ?_,fun _=>rfl⟩
    walk_at "own6"
    exact ⟨rfl,rfl⟩
   ·exact (hN _ (hbs t ht).u).ok
   ·exact on
  ·walk_at "own6"
   refine ⟨rfl,?_⟩
   rw [List.nil_append,yLz]
   rfl
 rintro _ _ ⟨rfl,rfl⟩
 walk_at "own6"
 refine ⟨_,_,_,rfl,hb,?_⟩
 walk_at "own6"
 refine xSb dT (fun t=>decide (t.2.1=n)) (fun t=>dP (t.1,neg t.2.2)) (fun t ht=> ?_) (by simpa using (show bs.length<=1000000 by omega)) ?_
 ·have hk:=hbs t ht
  refine ⟨_,rfl,?_⟩
  walk_at "own6"
  ·refine ⟨rfl,fun _=> ?_,fun _=>rfl⟩
   walk_at "own6"
   refine xAf (xP8 (by rw [hk.len];omega)) ?_
   rintro r o ⟨rfl,rfl⟩
   walk_at "own6"
   exact ⟨rfl,rfl⟩
  ·exact (hN _ hk.v).ok
  ·exact on
 ·walk_at "own6"
  ·rw [List.nil_append]
   show SD.ow _=SD.ow _
   congr 2
   unfold yBe
   rw [yLs,yLz,yLz]
   rfl
  ·rw [List.nil_append,yK2,yK2,yK2]
   have a:=List.length_filter_le (fun t:Tie=>decide (t.1=n)) bs
   have c:=List.length_filter_le (fun t:Tie=>decide (t.2.1=n)) bs
   omega
theorem xKs {ks:List Str}(hd:l.lookup ("dyes":Str)=some (.dk b1 m))(e:xDk m=some ks)(hk:ks.length<64):Fw (xBr [.va (.ins b "Pattern" l)]) (fun r o=>r= .ow (.lst false ((ssort ks).map D.str))) NoX:=by
 refine xAt rfl ?_
 walk_at "own1"
 refine ⟨_,_,_,rfl,hd,?_⟩
 walk_at "own1"
 refine xG2 e hk ?_
 walk_at "own1"
 rfl
end
end Lw
open L2 PySem PySem.Spec PyProof.Rows Fm
namespace Lw
open L2 PySem PySem.Spec PyProof.Rows Fm
def dPat (w:Nat)(dy:List (Key×D))(ts:List Tie)(at_:List (Key×D)):D:= .ins false "Pattern" [("ways",.int w),("dyes",.dk false dy),("bonds",.lst false (ts.map dT)),("at",.dk false at_)]
abbrev Ob (l:List (Str×D)):SD:= .ow (.ins false "Pattern" l)
abbrev F1 (w:Nat):List (Str×D):=[("ways",.int w)]
abbrev F2 (w:Nat)(dy:List (Key×D)):List (Str×D):=[("ways",.int w),("dyes",.dk true dy)]
abbrev F3 (w:Nat)(dy:List (Key×D))(bs:List Tie):List (Str×D):=[("ways",.int w),("dyes",.dk true dy),("bonds",.lst true (bs.map dT))]
abbrev F4 (w:Nat)(dy:List (Key×D))(bs:List Tie)(at_:List (Key×D)):List (Str×D):=[("ways",.int w),("dyes",.dk true dy),("bonds",.lst true (bs.map dT)),("at",.dk true at_)]
structure DyOk (N:List Str)(m0 dy:List (Key×D)):Prop where
 knots:KOk N dy
 len:dy.length<=12
 val: ∀ s,getK dy (.inr s)=getK m0 (.inr s)
structure KIn (w:Nat)(N:List Str)(m0:List (Key×D)):Prop where
 wl:w<=3
 nm:NmL N
 knots:KOk N m0
 klen:m0.length<=12
 has: ∀ s∈N,(getK m0 (.inr s)).isSome=true
theorem xI7 {dy:List (Key×D)}{s t:Str}{y:D}:getK (xB3 dy (.inr s) y) (.inr t)=if t=s then some y else getK dy (.inr t):=by
 rw [xR4]
 by_cases h:t=s
 ·rw [if_pos h,if_pos (by rw [h])]
 ·rw [if_neg h,if_neg fun z=>h (Sum.inr.inj z)]
structure MOk0 (w:Nat)(N:List Str)(m:List (Key×D))(ts:List Tie):Prop where
 wl:w<=3
 nm:NmL N
 few:N.length<=12
 knots:KOk N m
 klen:m.length<=12
 has: ∀ s∈N,(getK m (.inr s)).isSome=true
 ties:TsOk w N ts
 tlen:ts.length<=24
theorem MOk.zero {w:Nat}{N:List Str}{m:List (Key×D)}{ts:List Tie}(M:MOk w N m ts):MOk0 w N m ts:=⟨M.wl,M.nm,M.few,M.knots,M.klen,M.has,M.ties,M.tlen⟩
theorem xRr {w:Nat}(w3:w<=3):MOk0 w [] [] []:=⟨w3,(fun s h=>by cases h),yLy _,KOk.nil,yLy _,(fun s h=>by cases h),TsOk.nil,yLy _⟩
theorem xM2 {w:Nat}{m0:List (Key×D)}{N:List Str}{ts ts':List Tie}{x1 x2:Bool}(M:MOk0 w N m0 ts)(ht: ∀ t∈ts',TOk w N t)(hp:(ts'.map les).Perm ts):
  Fw (xBf [.int w,.dk x1 m0,.lst x2 (ts'.map dT)]) (fun r _=> ∃ dy at_,r= .va (dPat w dy ts at_)/\DyOk N m0 dy/\nbK at_=true/\ ∀ s∈N,getK at_ (.inr s)=some (.lst false ((near ts s).map dP))) NoX:=by
 obtain ⟨ks,e,hkl,hks,hks2⟩:=M.knots.keys
 have kl:=M.klen
 have w3:=M.wl
 have lt:ts'.length<=24:=by
  have z:=hp.length_eq
  rw [yK2] at z
  have:=M.tlen
  omega
 have nbt:nbL (ts'.map dT)=true:=xDo nb_T _
 have nbm:nbK m0=true:=M.knots.nb
 have nbs: ∀ {s4 s5:SD},s4.nbS=true->s5.nbS=true->[SD.un,.va (.int w),.un,.un,s4,s5].all SD.nbS=true:=fun {s4 s5} h4 h5=>by
  show (true&&(true&&(true&&(true&&(s4.nbS&&(s5.nbS&&true))))))=true
  rw [h4,h5]
  rfl
 refine yFl ?_
 show Wp _ [Ob [],.va (.int w),.va (.dk x1 m0),.va (.lst x2 (ts'.map dT)),.un,.un] _ _
 refine xAj ?_
 refine xAx (q:=fun f ρ=>f= .nx/\ρ=[Ob [],.va (.int w),.va (.dk x1 m0),.va (.lst x2 (ts'.map dT)),.un,.un]) ?_ ?_
 ·refine xA0 rfl ?_
  walk_at "own6"
  refine ⟨fun z=> ?_,fun _=> ?_⟩
  ·rw [decide_eq_true (show (w:Int)<=3 by omega)] at z
   cases z
  ·walk_at "own6"
   exact ⟨rfl,rfl⟩
 rintro _ _ ⟨rfl,rfl⟩
 refine xAj ?_
 refine xAx (q:=fun f ρ=>f= .nx/\ρ=[Ob (F1 w),.va (.int w),.va (.dk x1 m0),.va (.lst x2 (ts'.map dT)),.un,.un]) ?_ ?_
 ·refine xFc ?_
  refine xA0 rfl ?_
  walk_at "own6"
  exact ⟨_,_,_,rfl,by (show (0:Nat)<1000;decide),rfl,rfl,rfl⟩
 rintro _ _ ⟨rfl,rfl⟩
 refine xAj ?_
 refine xAx (q:=fun f ρ=>f= .nx/\ρ=[Ob (F2 w []),.va (.int w),.va (.dk x1 m0),.va (.lst x2 (ts'.map dT)),.un,.un]) ?_ ?_
 ·refine xFc ?_
  refine xA0 rfl ?_
  walk_at "own6"
  exact ⟨_,_,_,rfl,by (show (1:Nat)<1000;decide),rfl,rfl,rfl⟩
 rintro _ _ ⟨rfl,rfl⟩
 refine xAj ?_
 refine xAx (q:=fun f ρ=>f= .nx/\ ∃ dy s4,ρ=[Ob (F2 w dy),.va (.int w),.va (.dk x1 m0),.va (.lst x2 (ts'.map dT)),s4,.un]/\s4.nbS=true/\DyOk N m0 dy) ?_ ?_
 ·refine xI2 ?_
  refine xA0 rfl ?_
  walk_at "own6"
  refine xG2 e (by omega) ?_
  walk_at "own6"
  refine xD2 (I:=fun i ρ=> ∃ dy s4,ρ=[Ob (F2 w dy),.va (.int w),.va (.dk x1 m0),.va (.lst x2 (ts'.map dT)),s4,.un]/\s4.nbS=true/\KOk N dy/\dy.length<=i/\ ∀ s,getK dy (.inr s)=if s∈(ssort ks).take i then getK m0 (.inr s) else none) ?_ ⟨[],_,rfl,rfl,KOk.nil,yLq _,fun s=>by rw [yMm,if_neg (fun z=>by cases z)];rfl⟩ ?_
  ·rintro i d ρ hi ⟨dy,s4,rfl,_,k1,k2,k3⟩
   obtain ⟨s,hs,rfl⟩:=xPz hi
   have hi3:i<ks.length:=by
    have:=(yK5.mp hs).1
    rw [xA5] at this
    exact this
   obtain ⟨sN,sm⟩:=hks s (xBv.mp (yLf hs))
   obtain ⟨y,ey,_,y0,y9⟩:=M.knots.get sm
   have ey':(xDd (.str s)).bind (getK m0)=some (.int y):=ey
   refine ⟨_,rfl,?_⟩
   refine xAj ?_
   refine xAx (q:=fun f ρ=>f= .nx/\ρ=[Ob (F2 w dy),.va (.int w),.va (.dk x1 m0),.va (.lst x2 (ts'.map dT)),.va (.str s),.un]) ?_ ?_
   ·refine xA0 rfl ?_
    walk_at "own6"
    refine xAf (xO1 (M.nm s sN)) ?_
    rintro r o ⟨rfl,rfl⟩
    exact ⟨rfl,rfl⟩
   rintro _ _ ⟨rfl,rfl⟩
   refine xAj ?_
   refine xAx (q:=fun f ρ=>f= .nx/\ρ=[Ob (F2 w dy),.va (.int w),.va (.dk x1 m0),.va (.lst x2 (ts'.map dT)),.va (.str s),.un]) ?_ ?_
   ·refine xA0 rfl ?_
    walk_at "own6"
    refine xOt ey' ?_
    walk_at "own6"
    refine xAf (xRp y0 y9) ?_
    rintro r o ⟨rfl,rfl⟩
    exact ⟨rfl,rfl⟩
   rintro _ _ ⟨rfl,rfl⟩
   refine xXl ?_
   refine w_fz ?_
   refine xA0 rfl ?_
   walk_at "own6"
   refine xOt ey' ?_
   walk_at "own6"
   refine ⟨_,_,_,rfl,rfl,k1.nb,?_⟩
   refine xA0 rfl ?_
   walk_at "own6"
   have pl:=xEq dy (.inr s) (.int y)
   refine ⟨_,_,_,_,rfl,rfl,rfl,⟨by omega,k1.nb,rfl⟩,?_⟩
   refine ⟨xB3 dy (.inr s) (.int y),_,rfl,rfl,k1.put sN y0 y9,by omega,fun t=> ?_⟩
   rw [xI7]
   by_cases z:t=s
   ·have zi:s∈(ssort ks).take (i+1):=by
     rw [yL4,hs]
     exact List.mem_append_right _ (yLl.mpr rfl)
    rw [if_pos z,z,if_pos zi]
    exact ey.symm
   ·rw [if_neg z,k3 t]
    have zi:t∈(ssort ks).take (i+1) ↔ t∈(ssort ks).take i:=⟨fun h=>by
     rcases xEw hs h with g|g
     ·exact g
     ·exact absurd g z,fun h=>by
     rw [yL4]
     exact List.mem_append_left _ h⟩
    by_cases y:t∈(ssort ks).take i
    ·rw [if_pos y,if_pos (zi.mpr y)]
    ·rw [if_neg y,if_neg (fun h=>y (zi.mp h))]
  ·rintro ρ ⟨dy,s4,rfl,h4,k1,k2,k3⟩
   rw [yK2,xA5] at k2
   rw [yK2,yLd (yLq _)] at k3
   refine ⟨rfl,dy,s4,rfl,h4,⟨k1,by omega,fun s=> ?_⟩⟩
   rw [k3 s]
   by_cases z:s∈ssort ks
   ·rw [if_pos z]
   ·rw [if_neg z]
    cases e3:getK m0 (.inr s) with
    | none=>rfl
    | some y=>exact absurd (xBv.mpr (hks2 s (by rw [e3];rfl))) z
 rintro _ _ ⟨rfl,dy,s4,rfl,h4,dyk⟩
 have k1:=dyk.knots
 have k2:=dyk.len
 have k3: ∀ s∈N,(getK dy (.inr s)).isSome=true:=fun s hs=>by rw [dyk.val];exact M.has s hs
 have nbd:nbK dy=true:=k1.nb
 refine xAj ?_
 refine xAx (q:=fun f ρ=>f= .nx/\ρ=[Ob (F2 w dy),.va (.int w),.va (.dk x1 m0),.va (.lst x2 (ts'.map dT)),s4,.un]) ?_ ?_
 ·refine xA0 rfl ?_
  walk_at "own6"
  refine ⟨fun z=> ?_,fun _=> ?_⟩
  ·have z:=of_decide_eq_true z
   omega
  ·walk_at "own6"
   exact ⟨rfl,rfl⟩
 rintro _ _ ⟨rfl,rfl⟩
 refine xAj ?_
 refine xAx (q:=fun f ρ=>f= .nx/\ρ=[Ob (F3 w dy []),.va (.int w),.va (.dk x1 m0),.va (.lst x2 (ts'.map dT)),s4,.un]) ?_ ?_
 ·refine xFc ?_
  refine xA0 rfl ?_
  walk_at "own6"
  exact ⟨_,_,_,rfl,by (show (2:Nat)<1000;decide),rfl,rfl,rfl⟩
 rintro _ _ ⟨rfl,rfl⟩
 refine xAj ?_
 refine xAx (q:=fun f ρ=>f= .nx/\ ∃ s5,ρ=[Ob (F3 w dy (ts'.map les)),.va (.int w),.va (.dk x1 m0),.va (.lst x2 (ts'.map dT)),s4,s5]/\s5.nbS=true) ?_ ?_
 ·refine xI2 ?_
  refine xA0 rfl ?_
  walk_at "own6"
  refine xD2 (I:=fun i ρ=> ∃ s5,ρ=[Ob (F3 w dy ((ts'.map les).take i)),.va (.int w),.va (.dk x1 m0),.va (.lst x2 (ts'.map dT)),s4,s5]/\s5.nbS=true) ?_ ⟨_,rfl,rfl⟩ ?_
  ·rintro i d ρ hi ⟨s5,rfl,_⟩
   rw [yLe] at hi
   obtain ⟨t,ht1,rfl⟩:=yK4.mp hi
   have tk:=ht t (yLf ht1)
   have nbb:nbL (((ts'.map les).take i).map dT)=true:=xDo nb_T _
   have hil:i<(ts'.map les).length:=by
    rw [yK2]
    exact (yK5.mp ht1).1
   have ei:(ts'.map les)[i]? =some (les t):=by
    rw [yLe,ht1]
    rfl
   have nd:(ts'.map les).Nodup:=hp.nodup_iff.mpr M.ties.nd
   have ni:les t∉(ts'.map les).take i:=fun z=>by
    have sp:=yMl i (ts'.map les)
    have dr:(ts'.map les).drop i=les t::(ts'.map les).drop (i+1):=by
     rw [yL1 hil]
     congr 1
     exact yLh.inj ((yLb hil).symm.trans ei)
    rw [<- sp,dr] at nd
    exact (yMi.mp nd).2.2 _ z _ (yK3 ..) rfl
   refine ⟨_,rfl,?_⟩
   refine xIs rfl rfl (xIs rfl rfl ?_)
   show Wp _ [Ob (F3 w dy ((ts'.map les).take i)),.va (.int w),.un,.un,s4,.va (dT t)] _ _
   refine xOy ?_
   refine yCt rfl rfl nbb ?_
   refine xFf rfl ?_
   walk_at "own6"
   refine ⟨rfl,?_⟩
   walk_at "own6"
   refine xAf (xUw (N:=N) (bs:=(ts'.map les).take i) rfl rfl rfl rfl rfl M.nm tk w3 k3 (fun t h=> ?_) ni) ?_
   ·obtain ⟨t0,h0,rfl⟩:=yLg.mp (List.mem_of_mem_take h)
    exact (ht t0 h0).les
   rintro r o rfl
   walk_at "own6"
   refine ⟨?_,_,_,_,_,rfl,rfl,rfl,⟨?_,nbb,nb_T _⟩,?_⟩
   ·rw [yLc]
    exact ⟨nbs h4 (nb_T t),xVk fun d hd=>by rw [xCx hd];exact nb_T _⟩
   ·rw [yK2,yLv,yK2]
    omega
   ·refine ⟨.va (dT t),?_,nb_T t⟩
    have e2:(ts'.map les).take (i+1)=(ts'.map les).take i++[les t]:=by
     rw [yL4,ei]
     rfl
    rw [e2]
    show _=[Ob (F3 w dy _),_,_,_,_,_]
    unfold F3
    rw [yLs]
    rfl
  ·rintro ρ ⟨s5,rfl,h5⟩
   rw [yK2,yLd (by rw [yK2];exact yLq _)]
   exact ⟨rfl,s5,rfl,h5⟩
 rintro _ _ ⟨rfl,s5,rfl,h5⟩
 have lb:((ts'.map les).map dT).length<=24:=by
  rw [yK2,yK2]
  exact lt
 have nbb:nbL ((ts'.map les).map dT)=true:=xDo nb_T _
 refine xAj ?_
 refine xAx (q:=fun f ρ=>f= .nx/\ρ=[Ob (F3 w dy (ts'.map les)),.va (.int w),.va (.dk x1 m0),.va (.lst x2 (ts'.map dT)),s4,s5]) ?_ ?_
 ·refine xIs rfl rfl (xIs rfl rfl ?_)
  show Wp _ [Ob (F3 w dy (ts'.map les)),.va (.int w),.un,.un,s4,s5] _ _
  refine w_if ?_
  refine xFf rfl ?_
  walk_at "own6"
  refine ⟨_,_,_,rfl,rfl,?_⟩
  walk_at "own6"
  refine ⟨?_,fun z=> ?_,fun _=> ?_⟩
  ·rw [yLc]
   exact ⟨nbs h4 h5,rfl⟩
  ·have z:=of_decide_eq_true z
   omega
  ·walk_at "own6"
   exact ⟨rfl,rfl⟩
 rintro _ _ ⟨rfl,rfl⟩
 have es:srtD ((ts'.map les).map dT)=ts.map dT:=by
  rw [xMx,xMv dT xPr xD7 hp,M.ties.srt]
 have nbt2:nbL (ts.map dT)=true:=xDo nb_T _
 refine xAj ?_
 refine xAx (q:=fun f ρ=>f= .nx/\ρ=[Ob (F3 w dy ts),.va (.int w),.va (.dk x1 m0),.va (.lst x2 (ts'.map dT)),s4,s5]) ?_ ?_
 ·refine xIs rfl rfl (xIs rfl rfl ?_)
  show Wp _ [Ob (F3 w dy (ts'.map les)),.va (.int w),.un,.un,s4,s5] _ _
  refine xFc ?_
  refine xFf rfl ?_
  walk_at "own6"
  refine ⟨_,_,_,rfl,rfl,?_⟩
  walk_at "own6"
  refine xMn ?_ ?_
  ·rw [es]
   refine ⟨?_,_,_,_,rfl,by (show (3:Nat)<1000;decide),if_pos nbt2,rfl,rfl⟩
   rw [yLc]
   exact ⟨nbs h4 h5,nbt2⟩
  ·refine xWn fun t h=> ?_
   obtain ⟨t0,h0,rfl⟩:=yLg.mp h
   have k:=(ht t0 h0).les
   exact ⟨(M.nm _ k.u).ok,(M.nm _ k.v).ok⟩
 rintro _ _ ⟨rfl,rfl⟩
 refine xAj ?_
 refine xAx (q:=fun f ρ=>f= .nx/\ρ=[Ob (F4 w dy ts []),.va (.int w),.va (.dk x1 m0),.va (.lst x2 (ts'.map dT)),s4,s5]) ?_ ?_
 ·refine xFc ?_
  refine xA0 rfl ?_
  walk_at "own6"
  exact ⟨_,_,_,rfl,by (show (3:Nat)<1000;decide),rfl,rfl,rfl⟩
 rintro _ _ ⟨rfl,rfl⟩
 obtain ⟨ks2,e2,hkl2,hka,hkb⟩:=k1.keys
 have nba: ∀ {m:List (Key×D)},(∀ p∈m,∃ s,p=((.inr s:Key),D.lst false ((near ts s).map dP)))->nbK m=true:=fun {m} h=>xYh fun p hp=>by
  obtain ⟨s,rfl⟩:=h p hp
  show (!false&&nbL ((near ts s).map dP))=true
  rw [xDo nb_P]
  rfl
 refine xIs rfl rfl (xIs rfl rfl ?_)
 show Wp _ [Ob (F4 w dy ts []),.va (.int w),.un,.un,s4,s5] _ _
 refine xI2 ?_
 refine yG1 ?_
 refine xFf rfl ?_
 refine w_fz ?_
 walk_at "own6"
 refine ⟨rfl,?_⟩
 walk_at "own6"
 refine xAf (xKs rfl e2 (by omega)) ?_
 rintro r o rfl
 walk_at "own6"
 refine ⟨?_,_,_,rfl,?_⟩
 ·rw [yLc]
  refine ⟨nbs h4 h5,?_⟩
  show (!false&&nbL ((ssort ks2).map D.str))=true
  rw [xDo fun _=>rfl]
  rfl
 walk_at "own6"
 refine xD2 (I:=fun i ρ=> ∃ at_ s4,ρ=[Ob (F4 w dy ts at_),.va (.int w),.un,.un,s4,s5]/\s4.nbS=true/\at_.length<=i/\(∀ p∈at_,∃ s,p=((.inr s:Key),D.lst false ((near ts s).map dP)))/\ ∀ s∈(ssort ks2).take i,(getK at_ (.inr s)).isSome=true) ?_ ⟨[],_,rfl,h4,yLq _,(fun p hp=>by cases hp),fun s hs=>by cases hs⟩ ?_
 ·rintro i d ρ hi ⟨at_,s4,rfl,h4,a1,a2,a3⟩
  obtain ⟨s,hs,rfl⟩:=xPz hi
  have hi3:i<ks2.length:=by
   have:=(yK5.mp hs).1
   rw [xA5] at this
   exact this
  have sN:=(hka s (xBv.mp (yLf hs))).1
  have hk: ∀ t∈ts,TOk w N t:=fun t h=>(M.ties.tie t h).1
  refine ⟨_,rfl,?_⟩
  refine xXl ?_
  refine w_fz ?_
  refine xFf rfl ?_
  walk_at "own6"
  refine ⟨rfl,?_⟩
  walk_at "own6"
  refine xAf (yE1 (bs:=ts) (b2:=true) rfl M.nm hk sN w3 (by have:=M.tlen;omega)) ?_
  rintro r o rfl
  walk_at "own6"
  refine xMn ?_ ?_
  ·rw [xMx]
   have nbn:nbL ((near ts s).map dP)=true:=xDo nb_P _
   refine ⟨?_,?_⟩
   ·rw [yLc]
    exact ⟨nbs rfl h5,nbn⟩
   ·walk_at "own6"
    refine ⟨_,_,_,rfl,rfl,nba a2,?_⟩
    refine xA0 rfl ?_
    walk_at "own6"
    refine ⟨_,_,_,_,rfl,rfl,rfl,⟨by omega,nba a2,?_⟩,?_⟩
    ·show (!false&&nbL ((near ts s).map dP))=true
     rw [nbn]
     rfl
    ·have pl:=xEq at_ (.inr s) (D.lst false ((near ts s).map dP))
     refine ⟨xB3 at_ (.inr s) (.lst false ((near ts s).map dP)),_,rfl,rfl,by omega,fun p hp=> ?_,fun t ht=> ?_⟩
     ·rcases xOh hp with z|z
      ·exact a2 p z
      ·exact ⟨s,z⟩
     ·refine xD8 ?_
      rcases xEw hs ht with g|g
      ·exact .inl (a3 t g)
      ·exact .inr (by rw [g])
  ·refine yEp fun t h=> ?_
   unfold yBe at h
   rcases xCo h with z|z
   ·obtain ⟨t0,h0,rfl⟩:=yLg.mp z
    exact (M.nm _ (hk t0 (List.mem_filter.mp h0).1).v).ok
   ·obtain ⟨t0,h0,rfl⟩:=yLg.mp z
    exact (M.nm _ (hk t0 (List.mem_filter.mp h0).1).u).ok
 ·rintro ρ ⟨at_,s4,rfl,h4,a1,a2,a3⟩
  rw [yK2,yLd (yLq _)] at a3
  refine ⟨.inl rfl,_,_,_,rfl,dy,at_,rfl,dyk,nba a2,fun s hs=> ?_⟩
  obtain ⟨d,ed⟩:=yMe.mp (a3 s (xBv.mpr (hkb s (k3 s hs))))
  obtain ⟨s',e'⟩:=a2 _ (xI6 ed)
  cases e'
  exact ed
theorem init_ok {w:Nat}{m0:List (Key×D)}{N:List Str}{ts ts':List Tie}{x1 x2:Bool}(M:MOk w N m0 ts)(ht: ∀ t∈ts',TOk w N t)(hp:(ts'.map les).Perm ts):
  Fw (xBf [.int w,.dk x1 m0,.lst x2 (ts'.map dT)]) (fun r _=> ∃ dy at_,r= .va (dPat w dy ts at_)/\DyOk N m0 dy/\nbK at_=true/\ ∀ s∈N,getK at_ (.inr s)=some (.lst false ((near ts s).map dP))) NoX:=xM2 M.zero ht hp
end Lw
open L2 PySem PySem.Spec PyProof.Rows Fm
namespace Lw
open L2 PySem PySem.Spec PyProof.Rows Fm
theorem xGw (l:List D)(k:Nat):Fm.cutD l none (some (k:Int))=l.take k:=by
 unfold Fm.cutD
 rw [HT.sIx_nat,HT.sIx_none,yMs,Nat.sub_zero]
 by_cases h:k<=l.length
 ·rw [yMc h]
 ·rw [yMg (by omega),yLd (by omega),yLd (by omega)]
theorem xE9 (l:List D)(k:Nat):Fm.cutD l (some (k:Int)) none=l.drop k:=by
 unfold Fm.cutD
 rw [HT.sIx_nat,HT.sIx_none]
 rw [yLd (by rw [yL0];exact yLq _)]
 by_cases h:k<=l.length
 ·rw [yMc h]
 ·rw [yMg (by omega),yL5 (by omega),yL5 (by omega)]
structure POk (w:Nat)(N:List Str)(m:List (Key×D))(ts:List Tie)(p:D):Prop where
 all: ∃ dy at_,p=dPat w dy ts at_/\DyOk N m dy/\nbK at_=true/\ ∀ s∈N,getK at_ (.inr s)=some (.lst false ((near ts s).map dP))
 hs: ∀ s∈N,(getK m (.inr s)).isSome=true
theorem POk.ex {w:Nat}{N:List Str}{m:List (Key×D)}{ts:List Tie}{p:D}(P:POk w N m ts p): ∃ dy at_,p=dPat w dy ts at_/\(∀ s∈N,(getK dy (.inr s)).isSome=true)/\ ∀ s∈N,getK at_ (.inr s)=some (.lst false ((near ts s).map dP)):=by
 obtain ⟨dy,at_,h1,h2,_,h3⟩:=P.all
 exact ⟨dy,at_,h1,fun s hs=>by rw [h2.val];exact P.hs s hs,h3⟩
theorem POk.nb {w:Nat}{N:List Str}{m:List (Key×D)}{ts:List Tie}{p:D}(P:POk w N m ts p):p.nb=true:=by
 obtain ⟨dy,at_,rfl,h2,h3,_⟩:=P.all
 show (!false&&(true&&((!false&&nbK dy)&&((!false&&nbL (ts.map dT))&&((!false&&nbK at_)&&true)))))=true
 rw [h2.knots.nb,xDo nb_T,h3]
 rfl
theorem yF1 {n:Nat}{d:D}{w:Nat}{m:List (Key×D)}{b:Bool}{N:List Str}{ts:List Tie}(M:MOk w N m ts)(h:Drw n d)(hn:n<=90000):Fw (xGc [.ow d,.va (dM w m b ts)]) (fun r o=> ∃ p,r= .va p/\POk w N m ts p/\ ∃ d',o=[.ow d',.un]/\Drw (n+48) d') NoX:=by
 have tl:=M.tlen
 refine xAt rfl ?_
 refine xAj ?_
 refine xAx (q:=fun f ρ=>f= .nx/\ρ=[.ow d,.va (dM w m b ts),.ow (.lst false []),.un,.un,.un]) ?_ ?_
 ·walk_at "own6"
  exact ⟨rfl,rfl⟩
 rintro _ _ ⟨rfl,rfl⟩
 refine xAj ?_
 refine xAx (q:=fun f ρ=>f= .nx/\ ∃ (d':D) (ts':List Tie) (s3 s4 s5:SD),ρ=[.ow d',.va (dM w m b ts),.ow (.lst false (ts'.map dT)),s3,s4,s5]/\(∀ t∈ts',TOk w N t)/\(ts'.map les).Perm ts/\Drw (n+48) d') ?_ ?_
 ·walk_at "own6"
  refine xD2 (I:=fun i ρ=> ∃ (d':D) (ts':List Tie) (s3 s4 s5:SD),ρ=[.ow d',.va (dM w m b ts),.ow (.lst false (ts'.map dT)),s3,s4,s5]/\(∀ t∈ts',TOk w N t)/\(ts'.map les).Perm (ts.take i)/\Drw (n+2*i) d') ?_ ⟨d,[],_,_,_,rfl,(fun t ht=>by cases ht),yM5.refl _,h⟩ ?_
  ·rintro i e ρ hi ⟨d1,ts',s3,s4,s5,rfl,h1,h2,k1⟩
   rw [yLe] at hi
   obtain ⟨t,ht,rfl⟩:=yK4.mp hi
   obtain ⟨tk,tl2⟩:=M.ties.tie t (yLf ht)
   have hi6:i<ts.length:=(yK5.mp ht).1
   have l2:ts'.length=i:=by
    have z:=h2.length_eq
    rw [yK2,yLv] at z
    omega
   refine ⟨_,rfl,?_⟩
   walk_at "own6"
   refine xDb (xB5 k1 (by rw [yK2];omega) (szS (by rw [yK2];omega)) (by omega)) fun q d2 hq k2=> ?_
   rw [yK2] at hq
   obtain ⟨at',rfl⟩: ∃ k:Nat,q=k:=⟨q.toNat,by omega⟩
   walk_at "own6"
   refine xAf (xLj (s:=t.2.2) (by rw [tk.len];have:=M.wl;omega)) ?_
   rintro r o ⟨rfl,rfl⟩
   walk_at "own6"
   ·refine xDb (xB5 k2 (by decide) (szS (by decide)) (by omega)) fun q2 d3 hq2 k3=> ?_
    obtain ⟨t2,e2,ht2⟩: ∃ t2:Tie,atI [dT t,dT (about t)] q2=some (dT t2)/\(t2=t\/t2=about t):=by
     have:q2=0\/q2=1:=by omega
     rcases this with rfl|rfl
     ·exact ⟨t,rfl,.inl rfl⟩
     ·exact ⟨about t,rfl,.inr rfl⟩
    walk_at "own6"
    refine xF4 e2 ?_
    walk_at "own6"
    ·rw [xGw,xE9]
     refine ⟨d3,ts'.take at'++[t2]++ts'.drop at',.va (dT t),.va (.int at'),.va (dT (about t)),?_,fun x hx=> ?_,?_,k3.mono (by omega)⟩
     ·rw [yLs,yLs,List.map_take,List.map_drop]
      rfl
     ·have t2k:TOk w N t2:=by
       rcases ht2 with rfl|rfl
       ·exact tk
       ·exact tk.about
      rcases xCo hx with z|z
      ·rcases xCo z with z|z
       ·exact h1 x (List.mem_of_mem_take z)
       ·rw [xCx z]
        exact t2k
      ·exact h1 x (List.mem_of_mem_drop z)
     ·have le2:les t2=t:=by
       rcases ht2 with rfl|rfl
       ·exact tl2
       ·rw [xJz]
        exact tl2
      rw [yLs,yLs,yLx,yMx,le2,yL4,ht]
      have p1:(ts'.take at'++ts'.drop at').map les=ts'.map les:=by rw [yMl]
      rw [yLs] at p1
      rw [yL7]
      refine (List.perm_append_comm_assoc _ _ _).trans ?_
      rw [p1]
      exact List.perm_append_comm.trans (h2.append_right _)
    ·rw [xGw,xE9]
     simp only [yLn,yLv,yL0,yK2,yMk]
     omega
    ·rw [xGw]
     simp only [yLn,yLv,yL0,yK2,yMk]
     omega
  ·rintro ρ ⟨d1,ts',s3,s4,s5,rfl,h1,h2,k1⟩
   rw [yK2] at h2 k1
   rw [yLd (yLq _)] at h2
   exact ⟨rfl,d1,ts',s3,s4,s5,rfl,h1,h2,k1.mono (by omega)⟩
 rintro _ _ ⟨rfl,d1,ts',s3,s4,s5,rfl,h1,h2,k1⟩
 walk_at "own6"
 refine xAf (init_ok M h1 h2) ?_
 rintro r o ⟨dy,at_,rfl,g1,g3,g2⟩
 exact ⟨_,rfl,_,rfl,⟨⟨dy,at_,rfl,g1,g3,g2⟩,M.has⟩,d1,rfl,k1⟩
def walk (ts:List Tie):Str->List Stp->Prop
 | _,[]=>True
 | n,p::r=>p∈near ts n/\walk ts p.1 r
def last:Str->List Stp->Str
 | n,[]=>n
 | _,p::r=>last p.1 r
def home:Str->List Stp->List Stp
 | _,[]=>[]
 | n,p::r=>home p.1 r++[(n,neg p.2)]
def at0 (s:Vec)(i:Nat):Int:=s.getD i 0
def tot (i:Nat)(st:List Stp):Int:=(st.map fun p=>at0 p.2 i).sum
def zeros (w:Nat):Vec:=yLi w 0
def acc (w:Nat)(st:List Stp):Vec:=st.foldl (fun a p=>plus a p.2) (zeros w)
def scale (c:Int)(s:Vec):Vec:=s.map fun a=>c*a
abbrev Rnd:=Int×List Stp
abbrev dR (r:Rnd):D:= .tup [.int r.1,.tup (r.2.map dP)]
structure ROk (w:Nat)(N:List Str)(ts:List Tie)(n:Str)(r:Rnd):Prop where
 c1:1<=r.1
 c2:Sz 60001 r.1
 ne:r.2≠[]
 few:r.2.length<=24
 wk:walk ts n r.2
 back:1<r.1->last n r.2=n
def rwalk (w:Nat)(N:List Str)(ts:List Tie):Str->List Rnd->Prop
 | _,[]=>True
 | n,r::rs=>ROk w N ts n r/\rwalk w N ts (last n r.2) rs
def gn:Str->List Rnd->Str
 | n,[]=>n
 | n,r::rs=>gn (last n r.2) rs
def gc (w:Nat):Vec->List Rnd->Vec
 | z,[]=>z
 | z,r::rs=>gc w (plus z (scale r.1 (acc w r.2))) rs
def hr:Str->List Rnd->List Rnd
 | _,[]=>[]
 | n,r::rs=>hr (last n r.2) rs++[(r.1,home n r.2)]
def val (i:Nat)(rs:List Rnd):Int:=(rs.map fun r=>r.1*tot i r.2).sum
section
variable {w:Nat}{N:List Str}{ts:List Tie}{m:List (Key×D)}{b:Bool}
theorem MOk.tk (M:MOk w N m ts): ∀ t∈ts,TOk w N t:=fun t h=>(M.ties.tie t h).1
end
section
variable {w:Nat}{N:List Str}{ts:List Tie}{m:List (Key×D)}{b:Bool}
end
section
variable {w:Nat}{N:List Str}{ts:List Tie}{m:List (Key×D)}{b:Bool}{p:D}
end
section
variable {w:Nat}{N:List Str}{ts:List Tie}{m:List (Key×D)}{b:Bool}
end
theorem xNw {l m:List Str}(h:l.Perm m):ssort l=ssort m:=by
 refine yM5.eq_of_pairwise (fun a b _ _ h1 h2=>str_ext (List.le_antisymm h1 h2)) (xKe l) (xKe m) ((xDm l).trans (h.trans (xDm m).symm))
end Lw
open L2 PySem PySem.Spec PyProof.Rows Fm
namespace Lw
open L2 PySem PySem.Spec PyProof.Rows Fm
theorem xS2 {n:Nat}{l:List D}{d:D}(hd:d= .tup l\/ ∃ b,d= .lst b l)(hl:l.length<=100000)(ih: ∀ e∈l,Fw (xAq n [.va e,.va e]) (fun r o=>r= .va (.bl true)/\o=[.un,.un]) NoX):Fw (xAq (n+1) [.va d,.va d]) (fun r o=>r= .va (.bl true)/\o=[.un,.un]) NoX:=by
 rcases hd with rfl|⟨b,rfl⟩
 all_goals
  refine xAt rfl ?_
  walk_at "own"
  refine ⟨xO5 hl,?_⟩
  refine xK8 (L:=yLi l.length true) (m:=D.bl) (by rw [yL6,xB7,yMb]) (fun i d c hd hc=> ?_) (by rw [xB7,yMb];omega) ?_
  ·obtain ⟨hi,rfl⟩:=xL4 hd
   have hc2:=yMf (yLf hc)
   subst hc2
   obtain ⟨x,ex⟩:=xMl (l:=l) hi
   have ax:atI l (i:Int)=some x:=by rw [Fm.atI_nat,ex]
   refine ⟨_,rfl,?_⟩
   walk_at "own"
   first|refine xF4 ax ?_|refine xDx ax ?_
   walk_at "own"
   first|refine xF4 ax ?_|refine xDx ax ?_
   walk_at "own"
   refine xAf (ih x (yLf ex)) ?_
   rintro res o ⟨rfl,rfl⟩
   walk_at "own"
   exact ⟨rfl,rfl⟩
  ·walk_at "own"
   refine ⟨?_,rfl⟩
   rw [xI8]
theorem xH5: ∀ (n:Nat) (d:D),okT n d=true->Fw (xAq (n+1) [.va d,.va d]) (fun r o=>r= .va (.bl true)/\o=[.un,.un]) NoX
 | n,.non,_=>by
  refine xAt rfl ?_
  walk_at "own"
  exact ⟨rfl,rfl⟩
 | n,.bl b,_=>by
  refine xAt rfl ?_
  walk_at "own"
  exact ⟨by simp,rfl⟩
 | n,.int b,_=>by
  refine xAt rfl ?_
  walk_at "own"
  exact ⟨by simp,rfl⟩
 | 0,.tup l,h=>by cases h
 | 0,.lst b l,h=>by cases h
 | n+1,.tup l,h=>by
  obtain ⟨h1,h2⟩:=yMo.mp (show (decide (l.length<=100000)&&l.all (okT n))=true from h)
  exact xS2 (.inl rfl) (of_decide_eq_true h1) fun e he=>xH5 n e (yLu.mp h2 e he)
 | n+1,.lst b l,h=>by
  obtain ⟨h1,h2⟩:=yMo.mp (show (decide (l.length<=100000)&&l.all (okT n))=true from h)
  exact xS2 (.inr ⟨b,rfl⟩) (of_decide_eq_true h1) fun e he=>xH5 n e (yLu.mp h2 e he)
 | n,.str s,h=>by
  have h:PyData.strOk s=true:=by
   unfold okT at h
   exact h
  refine xAt rfl ?_
  walk_at "own"
  ·refine ⟨?_,rfl⟩
   rw [decide_eq_true rfl]
  ·exact h
  ·exact h
 | n,.dk _ _,h=>by cases n <;> cases h
 | n,.ins _ _ _,h=>by cases n <;> cases h
 | n,.ty _,h=>by cases n <;> cases h
 | n,.adr _,h=>by cases n <;> cases h
 | n,.scr _,h=>by cases n <;> cases h
 | n,.nv _ _ _,h=>by cases n <;> cases h
theorem xO7 {n:Nat}{l m:List D}{d e:D}(hd:(d= .tup l/\e= .tup m)\/ ∃ b c,d= .lst b l/\e= .lst c m)(hl:l.length=m.length)(hs:m.length<=100000)(ih: ∀ (i:Nat) (x y:D),l[i]? =some x->m[i]? =some y->Fw (xAq n [.va x,.va y]) (fun r o=>r= .va (.bl true)/\o=[.un,.un]) NoX):
  Fw (xAq (n+1) [.va d,.va e]) (fun r o=>r= .va (.bl true)/\o=[.un,.un]) NoX:=by
 rcases hd with ⟨rfl,rfl⟩|⟨b,c,rfl,rfl⟩
 all_goals
  refine xAt rfl ?_
  walk_at "own"
  rw [hl]
  walk_at "own"
  refine ⟨xO5 hs,?_⟩
  refine xK8 (L:=yLi m.length true) (m:=D.bl) (by rw [yL6,xB7,yMb]) (fun i d c hd hc=> ?_) (by rw [xB7,yMb];omega) ?_
  ·obtain ⟨hi,rfl⟩:=xL4 hd
   have hc2:=yMf (yLf hc)
   subst hc2
   have hi:i<m.length:=by rw [yMb] at hi;exact hi
   obtain ⟨y,ey⟩:=xMl (l:=m) hi
   obtain ⟨x,ex⟩:=xMl (l:=l) (by rw [hl];exact hi)
   have ax:atI l (i:Int)=some x:=by rw [Fm.atI_nat,ex]
   have ay:atI m (i:Int)=some y:=by rw [Fm.atI_nat,ey]
   refine ⟨_,rfl,?_⟩
   walk_at "own"
   first|refine xF4 ax ?_|refine xDx ax ?_
   walk_at "own"
   first|refine xF4 ay ?_|refine xDx ay ?_
   walk_at "own"
   refine xAf (ih i x y ex ey) ?_
   rintro res o ⟨rfl,rfl⟩
   walk_at "own"
   exact ⟨rfl,rfl⟩
  ·walk_at "own"
   refine ⟨?_,rfl⟩
   rw [xI8]
theorem xN2 {fn:List SD->FR}{l m:List (Key×D)}: ∀ {r:List (Key×D)},(∀ p∈r,∃ y:Int,getK l p.1=some (.int y)/\getK m p.1=some (.int y)/\xU3 fn (.int y) (.int y)=some true)->allS fn l m r=some (yLi r.length true)
 | [],_=>rfl
 | p::r,h=>by
  obtain ⟨y,h1,h2,h3⟩:=h p (yK3 ..)
  have ih:=xN2 (r:=r) fun q hq=>h q (yK7 _ hq)
  unfold allS
  simp only [h1,h2]
  rw [if_pos (show (xFr (.int y)&&xFr (.int y))=true from rfl),h3,ih]
  rfl
theorem yGf {n:Nat}{l m:List (Key×D)}{b c:Bool}{ks ks':List Str}(e1:xDk l=some ks)(e2:xDk m=some ks')(h1:ks.length<64)(h2:ks'.length<64)(hs:ssort ks=ssort ks')(ok: ∀ s∈ks,PyData.strOk s=true)(hl:m.length<=100000)
  (hm: ∀ p∈m,∃ y:Int,getK l p.1=some (.int y)/\getK m p.1=some (.int y)):Fw (xAq (n+2) [.va (.dk b l),.va (.dk c m)]) (fun r o=>r= .va (.bl true)/\o=[.un,.un]) NoX:=by
 have ha:allS (xAq (n+1)) l m m=some (yLi m.length true):=xN2 fun p hp=>by
  obtain ⟨y,y1,y2⟩:=hm p hp
  refine ⟨y,y1,y2,?_⟩
  obtain ⟨r,o,e,rfl,_⟩:=(xH5 n (.int y) (by cases n <;> rfl)).ok
  unfold xU3
  rw [e]
 refine xAt rfl ?_
 walk_at "own"
 refine xG2 e1 h1 ?_
 walk_at "own"
 refine xG2 e2 h2 ?_
 walk_at "own"
 rw [hs]
 refine o_eqR (yDf fun d hd=> ?_) ?_
 ·obtain ⟨s,hs2,rfl⟩:=yLg.mp hd
  rw [<- hs] at hs2
  exact xIj (ok s (xBv.mp hs2))
 walk_at "own"
 refine yJ2 rfl rfl (by omega) ha ?_
 rw [xI8]
 walk_at "own"
 exact ⟨rfl,rfl⟩
end Lw
open L2 PySem PySem.Spec PyProof.Rows Fm
namespace Lw
open L2 PySem PySem.Spec PyProof.Rows Fm
section
variable {w:Nat}{N:List Str}{ts:List Tie}{m dy at_:List (Key×D)}{p:D}
theorem xVd {m dy:List (Key×D)}{ks ks':List Str}(h:DyOk N m dy)(k:KOk N m)(e1:xDk dy=some ks)(e2:xDk m=some ks'):ks.Perm ks':=by
 obtain ⟨k1,a1,a2,a3,a4⟩:=h.knots.keys
 obtain ⟨k2,b1,b2,b3,b4⟩:=k.keys
 rw [a1] at e1
 rw [b1] at e2
 cases e1
 cases e2
 exact yF8 (h.knots.knd a1) (k.knd b1) fun s=>⟨fun z=>b4 s (by rw [<- h.val];exact (a3 s z).2),fun z=>a4 s (by rw [h.val];exact (b3 s z).2)⟩
theorem yGp {s:Str}{y:D}(h:getK dy (.inr s)=some y):Fw (xDj [.va (dPat w dy ts at_),.va (.str s)]) (fun r o=>r= .va y) NoX:=by
 refine xAt rfl ?_
 refine xAj ?_
 refine xAx (q:=fun f ρ=>f= .nx/\ρ=[.va (dPat w dy ts at_),.va (.str s)]) ?_ ?_
 ·walk_at "own2"
  refine ⟨rfl,?_⟩
  walk_at "own2"
  refine xAf (xQv rfl (by rw [h];rfl)) ?_
  rintro r o rfl
  exact ⟨rfl,rfl⟩
 rintro _ _ ⟨rfl,rfl⟩
 walk_at "own2"
 refine ⟨_,_,_,rfl,rfl,?_⟩
 walk_at "own2"
 refine xOt (show (xDd (.str s)).bind (getK dy)=some _ from h) ?_
 walk_at "own2"
 rfl
theorem xVy:Fw (xEf [.va (dPat w dy ts at_)]) (fun r o=>r= .ow (.lst false (ts.map dT))) NoX:=by
 refine xAt rfl ?_
 walk_at "own1"
 refine ⟨_,_,_,rfl,rfl,?_⟩
 walk_at "own1"
 rfl
theorem gather (h:DyOk N m dy):Wp (sFor (iSeq (xE5 "Pattern" "names" xBr (mVar 0) mNil)) (gN 2) (xHo 1 (mVar 2) (xE5 "Pattern" "dye" xDj (mVar 0) (xAb (mVar 2) (mNil))))) [.va (dPat w dy ts at_),.ow (.dk false []),.un]
  (fun f ρ=>f= .nx/\ ∃ m2 s2,ρ=[.va (dPat w dy ts at_),.ow (.dk false m2),s2]/\DyOk N m m2) NoX:=by
 obtain ⟨ks,e,hkl,hka,hkb⟩:=h.knots.keys
 have kl:=h.len
 refine xI2 ?_
 walk_at "own3"
 refine ⟨rfl,?_⟩
 walk_at "own3"
 refine xAf (xKs rfl e (by omega)) ?_
 rintro r o rfl
 walk_at "own3"
 refine xD2 (I:=fun i ρ=> ∃ m2 s2,ρ=[.va (dPat w dy ts at_),.ow (.dk false m2),s2]/\KOk N m2/\m2.length<=i/\ ∀ s,getK m2 (.inr s)=if s∈(ssort ks).take i then getK dy (.inr s) else none) ?_ ⟨[],_,rfl,KOk.nil,yLq _,fun s=>by rw [if_neg (by simp)];rfl⟩ ?_
 ·rintro i d ρ hi ⟨m2,s2,rfl,k1,k2,k3⟩
  obtain ⟨s,hs,rfl⟩:=xPz hi
  have hi3:i<ks.length:=by
   have:=(yK5.mp hs).1
   rw [xA5] at this
   exact this
  obtain ⟨y,ey,sN,y0,y9⟩:=h.knots.get (hka s (xBv.mp (yLf hs))).2
  refine ⟨_,rfl,?_⟩
  refine xWa ?_
  walk_at "own3"
  refine ⟨rfl,?_⟩
  walk_at "own3"
  refine xAf (yGp ey) ?_
  rintro r o rfl
  walk_at "own3"
  refine ⟨_,_,_,rfl,rfl,by omega,?_⟩
  have pl:=xEq m2 (.inr s) (.int y)
  refine ⟨_,_,rfl,k1.put sN y0 y9,by omega,fun t=> ?_⟩
  rw [xI7,k3,yL4,hs,show (some s).toList=[s] from rfl]
  by_cases z:t=s
  ·rw [if_pos z,if_pos (yMj.mpr (.inr (by rw [z];exact yLl.mpr rfl))),z,ey]
  ·rw [if_neg z]
   by_cases q:t∈(ssort ks).take i
   ·rw [if_pos q,if_pos (yMj.mpr (.inl q))]
   ·rw [if_neg q,if_neg fun a=>(xCo a).elim q fun b=>z (xCx b)]
 ·rintro ρ ⟨m2,s2,rfl,k1,k2,k3⟩
  rw [yK2,xA5] at k2
  rw [yK2,yLd (yLq _)] at k3
  refine ⟨rfl,m2,s2,rfl,k1,by omega,fun s=> ?_⟩
  rw [k3,<- h.val]
  split
  ·rfl
  ·rename_i z
   cases c:getK dy (.inr s) with
   | none=>rfl
   | some d=>exact absurd (xBv.mpr (hkb s (by rw [c];rfl))) z
abbrev dS (w:Nat)(m:List (Key×D))(ts:List Tie):D:= .tup [.int w,.dk false m,.lst false (ts.map dT)]
theorem yD9 (P:POk w N m ts p):Fw (xGb [.va p]) (fun r o=> ∃ m2,r= .va (dS w m2 ts)/\DyOk N m m2/\o=[.un]) NoX:=by
 obtain ⟨dy,at_,rfl,h1,h2⟩:=P.all
 refine xAt rfl ?_
 refine xAj ?_
 refine xAx (q:=fun f ρ=>f= .nx/\ρ=[.va (dPat w dy ts at_),.ow (.dk false []),.un]) ?_ ?_
 ·walk_at "own3"
  exact ⟨rfl,rfl⟩
 rintro _ _ ⟨rfl,rfl⟩
 refine xAj ?_
 refine xAx (gather h1) ?_
 rintro _ _ ⟨rfl,m2,s2,rfl,h3⟩
 walk_at "own3"
 refine ⟨_,_,_,rfl,rfl,?_⟩
 walk_at "own3"
 refine ⟨rfl,?_⟩
 walk_at "own3"
 refine xAf xVy ?_
 rintro r o rfl
 walk_at "own3"
 exact ⟨h3,rfl⟩
theorem xUl {m2:List (Key×D)}{b c:Bool}(h:DyOk N m m2)(k:KOk N m)(kl:m.length<=12)(hN:NmL N)(ht: ∀ t∈ts,TOk w N t)(w3:w<=3)(hl:ts.length<=100000):Fw (xAq 60 [.va (dS w m2 ts),.va (.tup [.int w,.dk c m,.lst b (ts.map dT)])]) (fun r o=>r= .va (.bl true)/\o=[.un,.un]) NoX:=by
 refine xO7 (n:=59) (.inl ⟨rfl,rfl⟩) rfl (show 3<=100000 by decide) fun i x y hx hy=> ?_
 match i with
 | 0=>
  cases hx
  cases hy
  exact xH5 58 (.int w) rfl
 | 1=>
  cases hx
  cases hy
  obtain ⟨ks,e1,l1,a1,a2⟩:=h.knots.keys
  obtain ⟨ks',e2,l2,b1,b2⟩:=k.keys
  have:=h.len
  refine yGf e1 e2 (by omega) (by omega) (xNw (xVd h k e1 e2)) (fun s hs=>(hN s (a1 s hs).1).ok) (by omega) fun q hq=> ?_
  obtain ⟨s,y,rfl,_⟩:=k.mem q hq
  obtain ⟨y,ey,_⟩:=k.get (xSz hq)
  exact ⟨y,by rw [h.val];exact ey,ey⟩
 | 2=>
  cases hx
  cases hy
  refine xO7 (n:=58) (.inr ⟨_,_,rfl,rfl⟩) rfl (by rw [yK2];exact hl) fun i x y hx hy=> ?_
  rw [hx] at hy
  cases hy
  obtain ⟨t,h1,rfl⟩:=yLg.mp (yLf hx)
  have tk:=ht t h1
  refine xH5 57 (dT t) ?_
  show (decide (3<=100000)&&[D.str t.1,.str t.2.1,dV t.2.2].all (okT 56))=true
  have e3:okT 56 (dV t.2.2)=true:=by
   show (decide ((t.2.2.map D.int).length<=100000)&&(t.2.2.map D.int).all (okT 55))=true
   rw [yK2,tk.len,decide_eq_true (show w<=100000 by omega),List.all_map]
   exact yLu.mpr fun a _=>rfl
  show (true&&(PyData.strOk t.1&&(PyData.strOk t.2.1&&(okT 56 (dV t.2.2)&&true))))=true
  rw [e3,(hN _ tk.u).ok,(hN _ tk.v).ok]
  rfl
 | n+3=>cases hx
theorem xYy {m2:List (Key×D)}{b:Bool}(h:DyOk N m m2)(k:KOk N m)(kl:m.length<=12)(hN:NmL N)(ht: ∀ t∈ts,TOk w N t)(w3:w<=3)(hl:ts.length<=100000):Fw (xAq 60 [.va (dS w m2 ts),.va (dM w m b ts)]) (fun r o=>r= .va (.bl true)/\o=[.un,.un]) NoX:=xUl h k kl hN ht w3 hl
end
set_option maxHeartbeats 1990000
structure Tx (n:Nat)(s:Str):Prop where
 len:s.length<=n
 asc: ∀ c∈sl s,c<128
theorem Tx.ok (h:Tx n s):PyData.strOk s=true:=by
 unfold PyData.strOk
 rw [Array.all_eq_true']
 intro c hc
 exact decide_eq_true (Nat.lt_trans (h.asc c (Array.mem_toList_iff.mpr hc)) (by decide))
theorem Nx.tx (h:Nx n s):Tx n s:=⟨h.len,fun c hc=>yB9 c (h.abc c hc)⟩
theorem Tx.mono (h:Tx m s)(l:m<=n):Tx n s:=⟨yLt h.len l,h.asc⟩
theorem xIr {m n:Nat}{a b:Str}(ha:Tx m a)(hb:Tx n b):Tx (m+n) (a++b):=⟨by
 have:=ha.len
 have:=hb.len
 have e:(a++b).length=a.length+b.length:=Str.length_append a b
 omega,fun c hc=>by
 have hc:c∈sl (a++b):=hc
 rw [sl_app] at hc
 rcases xCo hc with z|z
 ·exact ha.asc c z
 ·exact hb.asc c z⟩
theorem yF6 {y:Str}{ps:List Str}{n:Nat}(hy: ∀ c∈sl y,c<128)(hp: ∀ p∈ps,∀ c∈sl p,c<128)(hn:(ps.map (·.length)).sum+(ps.length-1)*y.length<=n):Tx n (Txt.join y ps):=by
 have e:Txt.join y ps=Str.join y ps:=StrLaws.glued_eq_join y ps
 rw [e]
 refine ⟨?_,fun c hc=> ?_⟩
 ·cases ps with
  | nil=>exact yLy _
  | cons a l=>
   rw [len_join_cons]
   exact hn
 ·have hc:c∈TL.tl (Str.join y ps):=hc
  rw [TL.tl_join] at hc
  rcases xGt hc with z|⟨q,z1,z2⟩
  ·exact hy c z
  ·obtain ⟨p,hp1,rfl⟩:=yLg.mp z1
   exact hp p hp1 c z2
theorem xOd {y:Str}{ps:List Str}{n m k:Nat}(hy:Tx k y)(hp: ∀ p∈ps,Tx n p)(hm:ps.length<=m):Tx (m*(n+k)) (Txt.join y ps)/\(ps.map (·.length)).sum+ps.length*y.length<=m*(n+k):=by
 have s:(ps.map (·.length)).sum<=ps.length*n:=by
  have z:=yDd (l:=ps.map (·.length)) (n:=n) fun a ha=>by
   obtain ⟨p,h1,rfl⟩:=yLg.mp ha
   exact (hp p h1).len
  rw [yK2] at z
  exact z
 have t:ps.length*y.length<=ps.length*k:=Nat.mul_le_mul_left _ hy.len
 have u:ps.length*(n+k)<=m*(n+k):=Nat.mul_le_mul_right _ hm
 rw [Nat.mul_add] at u
 have v:(ps.length-1)*y.length<=ps.length*y.length:=Nat.mul_le_mul_right _ (Nat.sub_le ..)
 exact ⟨yF6 hy.asc (fun p h=>(hp p h).asc) (by omega),by omega⟩
theorem xYz {n k:Nat}(hk:0<k)(h:n<10 ^ k):(TL.numL n).length<=k/\ ∀ c∈TL.numL n,c<128:=⟨TL.numL_len hk h,fun c hc=>by
 have:=TL.numL_digits n c hc
 omega⟩
abbrev sI (i:Int):Str:=Str.ofString (toString i)
theorem xG7 {i:Int}{k:Nat}(hk:0<k)(h:i.natAbs<10 ^ k):Tx (k+1) (sI i):=by
 cases i with
 | ofNat n=>
  obtain ⟨h1,h2⟩:=xYz hk (n:=n) h
  have e:sl (Str.ofString (toString (Int.ofNat n)))=TL.numL n:=TL.tl_num n
  exact ⟨by rw [sl_len,e];omega,fun c hc=>h2 c (by rw [<- e];exact hc)⟩
 | negSucc n=>
  obtain ⟨h1,h2⟩:=xYz hk (n:=n+1) h
  have e:sl (Str.ofString (toString (yMr n)))=45::TL.numL (n+1):=by
   have a:=TL.tl_ofString (toString (yMr n))
   have b:=TL.tl_num (n+1)
   rw [TL.tl_ofString] at b
   rw [show sl (Str.ofString (toString (yMr n)))=_ from a,<- b]
   have c:toString (yMr n)="-"++toString (((n+1:Nat)):Int):=rfl
   rw [c,String.toList_append,yLs]
   rfl
  exact ⟨by rw [sl_len,e,yK9];omega,fun c hc=>by
   have hc:c∈sl _:=hc
   rw [e] at hc
   rcases in_cons hc with rfl|z
   ·decide
   ·exact h2 c z⟩
theorem xEo {i:Int}(h:i.natAbs<10 ^ 7):i.natAbs.log2<1920:=by
 by_cases z:i.natAbs=0
 ·rw [z]
  decide
 ·rw [Nat.log2_lt z]
  exact yM4 h (by decide +kernel)
theorem xYn {i:Int}(h:i.natAbs<10 ^ 7):fmtD (.int i)=some (sI i):=if_pos ⟨xEo h,yLt (xG7 (k:=7) (by decide) h).len (by decide)⟩
theorem yGq (h:Tx n s)(hn:n<=1000000):fmtD (.str s)=some s:=if_pos (yLt h.len hn)
def yy (m:List (Key×D))(s:Str):Int:=match getK m (.inr s) with
 | some (.int y)=>y
 | _=>0
def rowM (w:Nat):Str:="mesh "++sI w
def rowK (s:Str)(y:Int):Str:="knot "++s++" "++sI y
def tieW (t:Tie):List Str:="tie"::t.1::t.2.1::t.2.2.map sI
def rowT (t:Tie):Str:=Txt.join " " (tieW t)
def xEh (w:Nat)(m:List (Key×D))(ks:List Str)(ts:List Tie):List Str:=rowM w::(ssort ks).map (fun s=>rowK s (yy m s))++ts.map rowT
theorem xRq:Tx 5 "mesh ":=⟨by decide +kernel,by decide +kernel⟩
theorem xJ2:Tx 5 "knot ":=⟨by decide +kernel,by decide +kernel⟩
theorem yKb:Tx 3 "tie":=⟨by decide +kernel,by decide +kernel⟩
theorem xPs:Tx 1 " ":=⟨by decide +kernel,by decide +kernel⟩
theorem xJs {w:Nat}(h:w<=3):Tx 7 (rowM w):=(xIr xRq (xG7 (k:=1) (by decide) (by omega))).mono (by decide)
theorem xJv (hs:Nx 8 s){y:Int}(h0:0<=y)(h9:y<=9):Tx 20 (rowK s y):=(xIr (xIr (xIr xJ2 hs.tx) xPs) (xG7 (k:=1) (by decide) (by omega))).mono (by decide)
theorem xMp {w:Nat}{N:List Str}{t:Tie}(k:TOk w N t)(hN:NmL N)(w3:w<=3):(∀ p∈tieW t,Tx 8 p)/\(tieW t).length<=6:=by
 refine ⟨fun p hp=> ?_,?_⟩
 ·unfold tieW at hp
  rcases in_cons hp with rfl|hp
  ·exact yKb.mono (by decide)
  ·rcases in_cons hp with rfl|hp
   ·exact (hN _ k.u).nx.tx.mono (by decide)
   ·rcases in_cons hp with rfl|hp
    ·exact (hN _ k.v).nx.tx.mono (by decide)
    ·obtain ⟨a,ha,rfl⟩:=yLg.mp hp
     have:=k.bd a ha
     exact xG7 (k:=7) (by decide) (by omega)
 ·unfold tieW
  rw [yK9,yK9,yK9,yK2,k.len]
  omega
theorem xMb {w:Nat}{N:List Str}{t:Tie}(k:TOk w N t)(hN:NmL N)(w3:w<=3):Tx 54 (rowT t):=by
 obtain ⟨h1,h2⟩:=xMp k hN w3
 exact (xOd xPs h1 h2).1
end Lw
open L2 PySem PySem.Spec PyProof.Rows Fm
namespace Lw
open L2 PySem PySem.Spec PyProof.Rows Fm
section
variable {w:Nat}{N:List Str}{ts:List Tie}{m dy at_:List (Key×D)}{p:D}{ks:List Str}
theorem yGs (P:POk w N m ts p)(M:MOk w N m ts)(e:xDk m=some ks):Fw (xEc [.va p]) (fun r o=>r= .ow (.lst false ((xEh w m ks ts).map D.str))) NoX:=by
 obtain ⟨dy,at_,rfl,dk,nba,hat⟩:=P.all
 obtain ⟨ks2,e2,hkl,hka,hkb⟩:=dk.knots.keys
 have kl:=dk.len
 have w3:=M.wl
 have ek:ssort ks2=ssort ks:=xNw (xVd dk M.knots e2 e)
 refine xAt rfl ?_
 refine xAj ?_
 refine xAx (q:=fun f ρ=>f= .nx/\ρ=[.va (dPat w dy ts at_),.ow (.lst false [.str (rowM w)]),.un,.un,.un,.un,.un]) ?_ ?_
 ·walk_at "own7"
  refine yFm (by rw [xFp];exact yLt xRq.len (by decide)) ?_
  refine yE0 ?_
  walk_at "own7"
  refine ⟨_,_,_,rfl,rfl,?_⟩
  walk_at "own7"
  refine ⟨_,xYn (by omega),?_,?_⟩
  ·rw [xFp]
   exact yLt (xJs w3).len (by decide)
  rw [xFp]
  refine yIo ?_
  walk_at "own7"
  exact ⟨rfl,rfl⟩
 rintro _ _ ⟨rfl,rfl⟩
 refine xAj ?_
 refine xAx (q:=fun f ρ=>f= .nx/\ ∃ s2,ρ=[.va (dPat w dy ts at_),.ow (.lst false ((rowM w::(ssort ks).map fun s=>rowK s (yy m s)).map D.str)),s2,.un,.un,.un,.un]) ?_ ?_
 ·refine xI2 ?_
  walk_at "own7"
  refine ⟨rfl,?_⟩
  walk_at "own7"
  refine xAf (xKs rfl e2 (by omega)) ?_
  rintro r o rfl
  walk_at "own7"
  rw [ek]
  refine xD2 (I:=fun i ρ=> ∃ s2,ρ=[.va (dPat w dy ts at_),.ow (.lst false ((rowM w::((ssort ks).take i).map fun s=>rowK s (yy m s)).map D.str)),s2,.un,.un,.un,.un]) ?_ ⟨_,rfl⟩ ?_
  ·rintro i d ρ hi ⟨s2,rfl⟩
   obtain ⟨s,hs,rfl⟩:=xPz hi
   have hi3:i<ks.length:=by
    have:=(yK5.mp hs).1
    rw [xA5] at this
    exact this
   have kl2:ks.length=ks2.length:=by rw [<- xA5 ks,<- ek,xA5]
   obtain ⟨sN,sd⟩:=hka s (xBv.mp (by rw [ek];exact yLf hs))
   obtain ⟨y,ey,_,y0,y9⟩:=dk.knots.get sd
   have eyy:yy m s=y:=by
    unfold yy
    rw [<- dk.val,ey]
   have nx:=(M.nm s sN).nx
   have l1:=(xIr xJ2 nx.tx)
   have l2:=xIr l1 xPs
   refine ⟨_,rfl,?_⟩
   walk_at "own7"
   refine yFm (by rw [xFp];exact yLt xJ2.len (by decide)) (yE0 ?_)
   walk_at "own7"
   rw [xFp]
   refine ⟨_,yGq nx.tx (by decide),yLt l1.len (by decide),yFm (yLt l2.len (by decide)) (yE0 ?_)⟩
   walk_at "own7"
   refine ⟨_,_,_,rfl,rfl,?_⟩
   walk_at "own7"
   refine xOt (show (xDd (.str s)).bind (getK dy)=some _ from ey) ?_
   walk_at "own7"
   refine ⟨_,xYn (by omega),yLt (xJv nx y0 y9).len (by decide),yIo ?_⟩
   walk_at "own7"
   refine ⟨_,_,_,rfl,rfl,?_,.va (.str s),?_⟩
   ·simp only [yK2,yK9,yLv,xA5]
    omega
   ·rw [yL4,hs]
    simp only [Option.toList,yLs,yLx,yMx,eyy]
    rfl
  ·rintro ρ ⟨s2,rfl⟩
   rw [yK2,yLd (yLq _)]
   exact ⟨rfl,_,rfl⟩
 rintro _ _ ⟨rfl,s2,rfl⟩
 refine xAj ?_
 refine xAx (q:=fun f ρ=>f= .nx/\ ∃ s2 s3 s4 s5 s6,ρ=[.va (dPat w dy ts at_),.ow (.lst false ((xEh w m ks ts).map D.str)),s2,s3,s4,s5,s6]) ?_ ?_
 ·refine xI2 ?_
  walk_at "own7"
  refine ⟨_,_,_,rfl,rfl,?_⟩
  walk_at "own7"
  refine xD2 (I:=fun i ρ=> ∃ s2 s3 s4 s5 s6,ρ=[.va (dPat w dy ts at_),.ow (.lst false ((xEh w m ks (ts.take i)).map D.str)),s2,s3,s4,s5,s6]) ?_ ⟨s2,.un,.un,.un,.un,by unfold xEh;rw [yMm,yMx,yL9]⟩ ?_
  ·rintro i d ρ hi ⟨s2,s3,s4,s5,s6,rfl⟩
   rw [yLe] at hi
   obtain ⟨t,ht,rfl⟩:=yK4.mp hi
   have tk:=M.tk t (yLf ht)
   have hlt:=(yK5.mp ht).1
   obtain ⟨tw,tl⟩:=xMp tk M.nm w3
   refine ⟨_,rfl,?_⟩
   walk_at "own7"
   refine yFv (fun d=>match d with| .int a=> .str (sI a)|d=>d) (fun d hd=> ?_) (by rw [yK2,tk.len];omega) ?_
   ·obtain ⟨a,ha,rfl⟩:=yLg.mp hd
    have hb:=tk.bd a ha
    refine ⟨_,rfl,?_⟩
    walk_at "own7"
    ·exact ⟨rfl,rfl⟩
    ·exact xEo (by omega)
   ·rw [yLz,show ((fun d=>match d with| .int a=> .str (sI a)|d=>d)∘D.int:Int->D)=D.str∘sI from rfl,<- yLz]
    walk_at "own7"
    ·show Ow (xJm _ (.lst false ((tieW t).map D.str))) _
     refine xOe ?_ (yLt (xOd xPs tw tl).2 (by decide))
     walk_at "own7"
     refine ⟨_,_,_,rfl,rfl,?_,s2,.va (.str t.1),.va (.str t.2.1),.va (dV t.2.2),s6,?_⟩
     ·unfold xEh
      simp only [yK2,yLn,yK9,yLv,xA5]
      have:=M.tlen
      have:=M.klen
      have kl2:ks.length=ks2.length:=by rw [<- xA5 ks,<- ek,xA5]
      omega
     ·unfold xEh
      rw [yL4,ht]
      simp only [Option.toList,yLs,yLx,yMx,yL7]
      rfl
    ·simp only [yK2,yK9,List.length_nil,tk.len]
     omega
  ·rintro ρ ⟨s2,s3,s4,s5,s6,rfl⟩
   rw [yK2,yLd (yLq _)]
   exact ⟨rfl,_,_,_,_,_,rfl⟩
 rintro _ _ ⟨rfl,s2,s3,s4,s5,s6,rfl⟩
 walk_at "own7"
 rfl
end
end Lw
open L2 PySem PySem.Spec PyProof.Rows Fm
namespace Lw
open L2 PySem PySem.Spec PyProof.Rows Fm
section
variable {w:Nat}{N:List Str}{ts:List Tie}{m dy at_:List (Key×D)}{p:D}{ks:List Str}{b:Bool}
theorem yGv (M:MOk w N m ts)(e:xDk m=some ks):(∀ r∈xEh w m ks ts,Tx 54 r)/\(xEh w m ks ts).length<=40:=by
 obtain ⟨k2,a1,a2,a3,a4⟩:=M.knots.keys
 rw [a1] at e
 cases e
 refine ⟨fun r hr=> ?_,?_⟩
 ·unfold xEh at hr
  rcases xCo hr with z|z
  ·rcases in_cons z with rfl|z
   ·exact (xJs M.wl).mono (by decide)
   ·obtain ⟨s,hs,rfl⟩:=yLg.mp z
    obtain ⟨sN,sd⟩:=a3 s (xBv.mp hs)
    obtain ⟨y,ey,_,y0,y9⟩:=M.knots.get sd
    have eyy:yy m s=y:=by
     unfold yy
     rw [ey]
    rw [eyy]
    exact (xJv (M.nm s sN).nx y0 y9).mono (by decide)
  ·obtain ⟨t,ht,rfl⟩:=yLg.mp z
   exact xMb (M.tk t ht) M.nm M.wl
 ·unfold xEh
  have:=M.tlen
  have:=M.klen
  simp only [yK2,yLn,yK9,xA5]
  omega
theorem yBp:Tx 1 "\n":=⟨by decide +kernel,by decide +kernel⟩
def yCp (w:Nat)(m:List (Key×D))(ks:List Str)(ts:List Tie):Str:=Txt.join "\n" (xEh w m ks ts)
def reprS (w:Nat)(m:List (Key×D))(ks:List Str)(ts:List Tie):Str:="Pattern('"++Txt.join " | " (xEh w m ks ts)++"')"
theorem str_ok (P:POk w N m ts p)(M:MOk w N m ts)(e:xDk m=some ks):Fw (xCz [.va p]) (fun r o=>r= .va (.str (yCp w m ks ts))) NoX:=by
 obtain ⟨r1,r2⟩:=yGv M e
 have P0:=P
 obtain ⟨dy,at_,rfl,_⟩:=P.all
 refine xAt rfl ?_
 walk_at "own1"
 refine ⟨rfl,?_⟩
 walk_at "own1"
 refine xAf (yGs P0 M e) ?_
 rintro r o rfl
 walk_at "own1"
 ·rfl
 ·exact yLt (xOd yBp r1 r2).2 (by decide)
theorem xZx (M:MOk w N m ts)(e:xDk m=some ks):Fw (xGk [.va (dM w m b ts)]) (fun r o=>r= .ow (.lst false ((xEh w m ks ts).map D.str))/\o=[.un]) NoX:=by
 obtain ⟨k2,a1,a2,a3,a4⟩:=M.knots.keys
 rw [a1] at e
 cases e
 have w3:=M.wl
 have kl:=M.klen
 refine xAt rfl ?_
 refine xAj ?_
 refine xAx (q:=fun f ρ=>f= .nx/\ρ=[.va (dM w m b ts),.ow (.lst false ((rowM w::(ssort ks).map fun s=>rowK s (yy m s)).map D.str)),.un,.un,.un,.un,.un]) ?_ ?_
 ·walk_at "own7"
  ·refine xG2 a1 (by omega) ?_
   walk_at "own7"
   refine yFv (fun d=>match d with| .str s=> .str (rowK s (yy m s))|d=>d) (fun d hd=> ?_) (by rw [yK2,xA5];omega) ?_
   ·obtain ⟨s,hs,rfl⟩:=yLg.mp hd
    obtain ⟨sN,sd⟩:=a3 s (xBv.mp hs)
    obtain ⟨y,ey,_,y0,y9⟩:=M.knots.get sd
    have eyy:yy m s=y:=by
     unfold yy
     rw [ey]
    have nx:=(M.nm s sN).nx
    refine ⟨_,rfl,?_⟩
    have k1:=xIr xJ2 nx.tx
    walk_at "own7"
    ·refine xOt (show (xDd (.str s)).bind (getK m)=some _ from ey) ?_
     walk_at "own7"
     ·exact ⟨by show _=D.str (rowK s (yy m s));rw [eyy];rfl,rfl⟩
     ·exact yLt (Nat.add_le_add (xIr k1 xPs).len (xG7 (k:=1) (by decide) (by omega)).len) (by decide)
     ·exact xEo (by omega)
    ·exact yLt (Nat.add_le_add k1.len xPs.len) (by decide)
    ·exact yLt (Nat.add_le_add xJ2.len nx.len) (by decide)
   ·rw [yLz,show ((fun d=>match d with| .str s=> .str (rowK s (yy m s))|d=>d)∘D.str:Str->D)=D.str∘(fun s=>rowK s (yy m s)) from rfl,<- yLz]
    walk_at "own7"
    ·exact ⟨rfl,rfl⟩
    ·simp only [yK2,yK9,List.length_nil,xA5]
     omega
  ·exact yLt (Nat.add_le_add xRq.len (xG7 (i:=(w:Int)) (k:=1) (by decide) (by omega)).len) (by decide)
  ·exact xEo (by omega)
 rintro _ _ ⟨rfl,rfl⟩
 refine xAj ?_
 refine xAx (q:=fun f ρ=>f= .nx/\ ∃ s2 s3 s4 s6,ρ=[.va (dM w m b ts),.ow (.lst false ((xEh w m ks ts).map D.str)),s2,s3,s4,.un,s6]) ?_ ?_
 ·refine xI2 ?_
  walk_at "own7"
  refine xD2 (I:=fun i ρ=> ∃ s2 s3 s4 s6,ρ=[.va (dM w m b ts),.ow (.lst false ((xEh w m ks (ts.take i)).map D.str)),s2,s3,s4,.un,s6]) ?_ ⟨.un,.un,.un,.un,by unfold xEh;rw [yMm,yMx,yL9]⟩ ?_
  ·rintro i d ρ hi ⟨s2,s3,s4,s6,rfl⟩
   rw [yLe] at hi
   obtain ⟨t,ht,rfl⟩:=yK4.mp hi
   have tk:=M.tk t (yLf ht)
   have hlt:=(yK5.mp ht).1
   obtain ⟨tw,tl⟩:=xMp tk M.nm w3
   refine ⟨_,rfl,?_⟩
   walk_at "own7"
   refine yFv (fun d=>match d with| .int a=> .str (sI a)|d=>d) (fun d hd=> ?_) (by rw [yK2,tk.len];omega) ?_
   ·obtain ⟨a,ha,rfl⟩:=yLg.mp hd
    have hb:=tk.bd a ha
    refine ⟨_,rfl,?_⟩
    walk_at "own7"
    ·exact ⟨rfl,rfl⟩
    ·exact xEo (by omega)
   ·rw [yLz,show ((fun d=>match d with| .int a=> .str (sI a)|d=>d)∘D.int:Int->D)=D.str∘sI from rfl,<- yLz]
    walk_at "own7"
    ·show Ow (xJm _ (.lst false ((tieW t).map D.str))) _
     refine xOe ?_ (yLt (xOd xPs tw tl).2 (by decide))
     walk_at "own7"
     refine ⟨_,_,_,rfl,rfl,?_,.va (.str t.1),.va (.str t.2.1),.va (dV t.2.2),s6,?_⟩
     ·unfold xEh
      simp only [yK2,yLn,yK9,yLv,xA5]
      have:=M.tlen
      omega
     ·unfold xEh
      rw [yL4,ht]
      simp only [Option.toList,yLs,yLx,yMx,yL7]
      rfl
    ·simp only [yK2,yK9,List.length_nil,tk.len]
     omega
  ·rintro ρ ⟨s2,s3,s4,s6,rfl⟩
   rw [yK2,yLd (yLq _)]
   exact ⟨rfl,_,_,_,_,rfl⟩
 rintro _ _ ⟨rfl,s2,s3,s4,s6,rfl⟩
 walk_at "own7"
 exact ⟨rfl,rfl⟩
end
end Lw
open L2 PySem PySem.Spec PyProof.Rows Fm
namespace Lw
open L2 PySem PySem.Spec PyProof.Rows Fm
section
variable {w:Nat}{N:List Str}{ts ts2:List Tie}{m m2 dy at_:List (Key×D)}{p q:D}{ks:List Str}{b:Bool}
theorem xSe {α:Type}[DecidableEq α]: ∀ {l k:List α},l.Nodup->(∀ a∈l,a∈k)->l.length<=k.length
 | [],k,_,_=>yLy _
 | a::l,k,h,hs=>by
  obtain ⟨h1,h2⟩:=(yLo.mp h)
  have z:=xSe (k:=k.erase a) h2 fun x hx=>(List.mem_erase_of_ne fun e=>h1 (by rw [<- e];exact hx)).mpr (hs x (yK7 _ hx))
  have e:=List.length_erase_of_mem (hs a (yK3 ..))
  have p:0<k.length:=List.length_pos_of_mem (hs a (yK3 ..))
  rw [yK9]
  omega
theorem KOk.intK (h:KOk N m):Fm.intK m=true:=by
 unfold Fm.intK
 rw [decide_eq_true (show (m.map fun p=>p.1).Nodup from h.nd),Bool.and_true]
 refine yLu.mpr fun p hp=> ?_
 obtain ⟨s,y,rfl,_⟩:=h.mem p hp
 rfl
theorem yA3 (h1:KOk N m)(h2:KOk N m2):dkEq m m2=true ↔ ∀ s,getK m (.inr s)=getK m2 (.inr s):=by
 obtain ⟨k1,a1,a2,a3,a4⟩:=h1.keys
 obtain ⟨k2,b1,b2,b3,b4⟩:=h2.keys
 have n1:=h1.knd a1
 have n2:=h2.knd b1
 have e1:m.map (fun p=>p.1)=k1.map (Sum.inr:Str->Key):=xJh a1
 unfold dkEq
 rw [e1,yLc,beq_iff_eq,List.all_map,yLu]
 refine ⟨fun ⟨hl,h⟩ s=> ?_,fun h=>⟨?_,fun s hs=> ?_⟩⟩
 ·have hall: ∀ s∈k1,(getK m2 (.inr s)).isSome=true/\eAt m m2 (.inr s)=true:=fun s hs=>yMo.mp (h s hs)
  by_cases hs:s∈k1
  ·obtain ⟨z1,z2⟩:=hall s hs
   obtain ⟨y,ey,_⟩:=h1.get (a3 s hs).2
   obtain ⟨y2,ey2,_⟩:=h2.get z1
   unfold eAt at z2
   rw [ey,ey2] at z2
   rw [ey,ey2,beq_iff_eq.mp z2]
  ·have g1:getK m (.inr s)=none:=by
    cases e:getK m (.inr s) with
    | none=>rfl
    | some d=>exact absurd (a4 s (by rw [e];rfl)) hs
   have g2:getK m2 (.inr s)=none:=by
    cases e:getK m2 (.inr s) with
    | none=>rfl
    | some d=>
     have sm:s∈k2:=b4 s (by rw [e];rfl)
     have z:=xSe (l:=s::k1) (k:=k2) (yLo.mpr ⟨hs,n1⟩) fun x hx=>by
      rcases in_cons hx with rfl|hx
      ·exact sm
      ·exact b4 x (hall x hx).1
     rw [yK9] at z
     omega
   rw [g1,g2]
 ·have z1:=xSe (l:=k1) (k:=k2) n1 fun s hs=>b4 s (by rw [<- h];exact (a3 s hs).2)
  have z2:=xSe (l:=k2) (k:=k1) n2 fun s hs=>a4 s (by rw [h];exact (b3 s hs).2)
  omega
 ·obtain ⟨y,ey,_⟩:=h1.get (a3 s hs).2
  have ey2:getK m2 (.inr s)=some (.int y):=by rw [<- h,ey]
  show ((getK m2 (.inr s)).isSome&&eAt m m2 (.inr s))=true
  unfold eAt
  rw [ey,ey2]
  simp
theorem yIb (l k:List Tie)(x y:Bool):peq (.lst x (l.map dT)) (.lst y (k.map dT))=decide (l=k):=by
 have go: ∀ l k:List Tie,PyData.eqvAll (pyL (l.map dT)) (pyL (k.map dT))=decide (l=k):=by
  intro l
  induction l with
  | nil=>
   intro k
   cases k with
   | nil=>rfl
   | cons t k=>rfl
  | cons t l ih=>
   intro k
   cases k with
   | nil=>rfl
   | cons u k=>
    show (PyData.eqv (dT t).py (dT u).py&&PyData.eqvAll (pyL (l.map dT)) (pyL (k.map dT)))=_
    rw [ih k,show PyData.eqv (dT t).py (dT u).py=decide (t=u) from xPr t u]
    by_cases h1:t=u
    ·by_cases h2:l=k
     ·rw [decide_eq_true h1,decide_eq_true h2,h1,h2]
      exact (decide_eq_true rfl).symm
     ·rw [decide_eq_false h2,Bool.and_false]
      exact (decide_eq_false fun z=>h2 (List.cons.inj z).2).symm
    ·rw [decide_eq_false h1,Bool.false_and]
     exact (decide_eq_false fun z=>h1 (List.cons.inj z).1).symm
 exact go l k
theorem yB0 (P:POk w N m ts p)(Q:POk w N m2 ts2 q)(hN:NmL N)(ht: ∀ t∈ts,TOk w N t)(ht2: ∀ t∈ts2,TOk w N t):Fw (xCd [.va p,.va q]) (fun r o=> ∃ y,r= .va (.bl y)/\(y=true ↔ (∀ s,getK m (.inr s)=getK m2 (.inr s))/\ts=ts2)) NoX:=by
 obtain ⟨dy,at_,rfl,h1,h2⟩:=P.all
 obtain ⟨dz,az,rfl,g1,g2⟩:=Q.all
 have iff:dkEq dy dz=true ↔ ∀ s,getK m (.inr s)=getK m2 (.inr s):=(yA3 h1.knots g1.knots).trans ⟨fun z s=>by rw [<- h1.val,<- g1.val];exact z s,fun z s=>by rw [h1.val,g1.val];exact z s⟩
 refine xAt rfl ?_
 refine xAj ?_
 refine xAx (q:=fun f ρ=>f= .nx/\ρ=[.va (dPat w dy ts at_),.va (dPat w dz ts2 az)]) ?_ ?_
 ·walk_at "own2"
  refine xS9 ?_
  walk_at "own2"
  refine ⟨_,_,_,rfl,rfl,?_⟩
  walk_at "own2"
  refine ⟨_,_,_,rfl,rfl,?_⟩
  walk_at "own2"
  exact ⟨rfl,rfl⟩
 rintro _ _ ⟨rfl,rfl⟩
 walk_at "own2"
 refine ⟨_,_,_,rfl,rfl,?_⟩
 walk_at "own2"
 refine ⟨_,_,_,rfl,rfl,?_⟩
 walk_at "own2"
 refine o_eq8 h1.knots.intK g1.knots.intK ?_
 walk_at "own2"
 refine ⟨fun hd=> ?_,fun hd=> ?_⟩
 ·walk_at "own2"
  refine ⟨_,_,_,rfl,rfl,?_⟩
  walk_at "own2"
  refine ⟨_,_,_,rfl,rfl,?_⟩
  walk_at "own2"
  refine o_eq ?_ (xZu hN ht) (xZu hN ht2)
  rw [yIb]
  exact ⟨_,rfl,by rw [decide_eq_true_iff];exact ⟨fun z=>⟨iff.mp hd,z⟩,fun z=>z.2⟩⟩
 ·exact ⟨_,rfl,(fun z=>by cases z),fun z=>by rw [iff.mpr z.1] at hd;cases hd⟩
end
end Lw
open L2 PySem PySem.Spec PyProof.Rows Fm
namespace Lw
open L2 PySem PySem.Spec PyProof.Rows Fm
theorem Tx.fm {n:Nat}{s:Str}(h:Tx n s):Fm.Tx n s:=⟨h.len,h.asc⟩
theorem yGi {i:Int}{c:Nat}(h:c∈sl (sI i)):c=45\/(48<=c/\c<=57):=T.num_sign h
theorem xZz: ∀ c∈sl abc,97<=c/\c<=122:=by decide +kernel
def Wo (s:Str):Prop:= ∀ c∈sl s,c=45\/(48<=c/\c<=57)\/(97<=c/\c<=122)
theorem xXs (i:Int):Wo (sI i):=fun c hc=>(yGi hc).elim .inl fun z=> .inr (.inl z)
theorem xQk {n:Nat}{s:Str}(h:Nx n s):Wo s:=fun c hc=> .inr (.inr (xZz c (h.abc c hc)))
theorem yFy:Wo "mesh":=by unfold Wo;decide +kernel
theorem yEm:Wo "knot":=by unfold Wo;decide +kernel
theorem yJ7:Wo "tie":=by unfold Wo;decide +kernel
theorem Wo.no {s:Str}(h:Wo s):32∉sl s:=fun z=>by
 have:=h 32 z
 omega
theorem Wo.nn {s:Str}(h:Wo s):10∉sl s:=fun z=>by
 have:=h 10 z
 omega
theorem xGa {ps:List Str}(hp:ps≠[])(h: ∀ p∈ps,Wo p):Txt.split (Txt.join " " ps) " "=ps:=T.split_join T.sep_sp T.lit_sp hp fun p m=>(h p m).no
theorem xQw {ps:List Str}(h: ∀ p∈ps,Wo p):10∉sl (Txt.join " " ps):=fun z=>by
 have z:10∈T.sl (Txt.join " " ps):=z
 rw [T.sl_join] at z
 rcases xGt z with y|⟨x,y1,y2⟩
 ·rw [T.lit_sp] at y
  exact absurd (yLl.mp y) (by decide)
 ·obtain ⟨p,hp,rfl⟩:=yLg.mp y1
  exact (h p hp).nn y2
theorem xZd (w:Nat):rowM w=Txt.join " " ["mesh",sI w]:=T.str_ext (by
 rw [T.sl_join]
 show T.sl ("mesh "++sI w)=T.sl "mesh"++(T.sl " "++T.sl (sI w))
 rw [T.sl_app,<- yL7]
 rfl)
theorem xVa (s:Str)(y:Int):rowK s y=Txt.join " " ["knot",s,sI y]:=T.str_ext (by
 rw [T.sl_join]
 show T.sl ("knot "++s++" "++sI y)=T.sl "knot"++(T.sl " "++(T.sl s++(T.sl " "++T.sl (sI y))))
 rw [T.sl_app,T.sl_app,T.sl_app,<- yL7,<- yL7,<- yL7]
 rfl)
theorem wo_M (w:Nat): ∀ p∈(["mesh",sI w]:List Str),Wo p:=fun p h=>by
 rcases in_cons h with rfl|h
 ·exact yFy
 ·rw [xCx h]
  exact xXs _
theorem wo_K {n:Nat}{s:Str}(h:Nx n s)(y:Int): ∀ p∈(["knot",s,sI y]:List Str),Wo p:=fun p hp=>by
 rcases in_cons hp with rfl|hp
 ·exact yEm
 rcases in_cons hp with rfl|hp
 ·exact xQk h
 rw [xCx hp]
 exact xXs _
theorem wo_T {m n:Nat}{t:Tie}(h1:Nx m t.1)(h2:Nx n t.2.1): ∀ p∈tieW t,Wo p:=fun p hp=>by
 rcases in_cons hp with rfl|hp
 ·exact yJ7
 rcases in_cons hp with rfl|hp
 ·exact xQk h1
 rcases in_cons hp with rfl|hp
 ·exact xQk h2
 obtain ⟨i,_,rfl⟩:=yLg.mp hp
 exact xXs i
theorem xZi (w:Nat):Txt.split (rowM w) " "=[("mesh":Str),sI w]:=by
 rw [xZd]
 exact xGa (fun z=>nomatch z) (wo_M w)
theorem xW6 {n:Nat}{s:Str}(h:Nx n s)(y:Int):Txt.split (rowK s y) " "=[("knot":Str),s,sI y]:=by
 rw [xVa]
 exact xGa (fun z=>nomatch z) (wo_K h y)
theorem xWl {m n:Nat}{t:Tie}(h1:Nx m t.1)(h2:Nx n t.2.1):Txt.split (rowT t) " "=tieW t:=xGa (fun z=>nomatch z) (wo_T h1 h2)
theorem xVg {i:Int}(h:i.natAbs<10 ^ 7):Fw (xCg [.va (.str (sI i)),.va (.int 7)]) (fun r o=>r= .va (.int i)/\o=[.un,.un]) NoX:=by
 have z:=T.number_ok (n:=8) (xG7 (k:=7) (by decide) h).fm (by decide) (fig:=7) (by decide)
 rw [show T.numB 7 (sI i)=some i from T.numB_num (fig:=7) (by decide) (by decide) h] at z
 exact z
theorem yHe {l:List Int}(h: ∀ i∈l,i.natAbs<10 ^ 7)(hl:l.length<=100):Fw (xC7 [.va (.lst false (l.map fun i=>D.str (sI i)))]) (fun r o=>r= .va (dV l)/\o=[.un]) NoX:=by
 have z:=T.numbers_ok (n:=8) (ws:=l.map sI) (fun w hw=>by
  obtain ⟨i,hi,rfl⟩:=yLg.mp hw
  exact (xG7 (k:=7) (by decide) (h i hi)).fm) (by decide) (by rw [yK2];omega)
 have e:T.numsB (l.map sI)=some l:=by
  unfold T.numsB
  have e2:(l.map sI).map (T.numB 7)=l.map some:=by
   rw [yLz]
   exact List.map_congr_left fun i hi=>T.numB_num (fig:=7) (by decide) (by decide) (h i hi)
  rw [e2,T.allO_some_]
 rw [e,yLz] at z
 exact z
theorem yIt {b:Bool}{t:Tie}(h: ∀ i∈t.2.2,i.natAbs<10 ^ 7)(hl:t.2.2.length<=100):Fw (xM1 [.va (.lst b ((tieW t).map D.str))]) (fun r o=>r= .va (dT t)/\o=[.un]) NoX:=by
 obtain ⟨u,v,s⟩:=t
 refine xAt rfl ?_
 refine xAj ?_
 refine xAx (q:=fun f ρ=>f= .nx/\ ∃ s0,ρ=[s0,.va (.str "tie"),.va (.lst false ((u::v::s.map sI).map D.str)),.un,.un,.un,.un]) ?_ ?_
 ·walk_at "own7"
  exact ⟨rfl,_,rfl⟩
 rintro _ _ ⟨rfl,s0,rfl⟩
 walk_at "own7"
 ·show Fw (xC7 [.va (.lst false ((s.map sI).map D.str))]) _ _
  rw [yLz]
  refine xAf (yHe h hl) ?_
  rintro r o ⟨rfl,rfl⟩
  walk_at "own7"
  exact ⟨rfl,rfl⟩
 all_goals decide +kernel
theorem yEl {b:Bool}{n:Nat}{s:Str}{y:Int}(h:Nx n s)(hn:n<=100)(h1:y.natAbs<10 ^ 7):Fw (xKj [.va (.lst b ([D.str "knot",.str s,.str (sI y)]))]) (fun r o=>r= .va (.tup [.str s,.int y])/\o=[.un]) NoX:=by
 refine xAt rfl ?_
 walk_at "own1"
 ·refine xAf (xVg h1) ?_
  rintro r o ⟨rfl,rfl⟩
  walk_at "own1"
  refine xAf (xVg h1) ?_
  rintro r o ⟨rfl,rfl⟩
  walk_at "own1"
  exact ⟨rfl,rfl⟩
 all_goals decide +kernel
end Lw
open L2 PySem PySem.Spec PyProof.Rows Fm
namespace Lw
open L2 PySem PySem.Spec PyProof.Rows Fm
theorem xM7 {w:Nat}{m0:List (Key×D)}{N:List Str}{ts ts':List Tie}{x1 x2:Bool}{at_:Int}(M:MOk0 w N m0 ts)(ht: ∀ t∈ts',TOk w N t)(hp:(ts'.map les).Perm ts):
  Fw (xNb [.va (.int w),.va (.dk x1 m0),.va (.lst x2 (ts'.map dT)),.va (.int at_)]) (fun r o=>(∃ p,r= .va p/\POk w N m0 ts p)/\o=[.un,.un,.un,.un]) NoX:=by
 refine xAt rfl ?_
 refine xAj ?_
 refine xAx (q:=fun f ρ=>f= .nx/\ρ=[.va (.int w),.va (.dk x1 m0),.va (.lst x2 (ts'.map dT)),.va (.int at_),.va .non,.un]) ?_ ?_
 ·walk_at "own6"
  exact ⟨rfl,rfl⟩
 rintro _ _ ⟨rfl,rfl⟩
 refine xAj ?_
 refine xAx (q:=fun f ρ=>f= .nx/\ ∃ p,POk w N m0 ts p/\ρ=[.va (.int w),.va (.dk x1 m0),.va (.lst x2 (ts'.map dT)),.va (.int at_),.va p,.un]) ?_ ?_
 ·refine yKq ?_
  walk_at "own6"
  refine xAf (xM2 M ht hp) ?_
  rintro r o ⟨dy,a,rfl,h1,h2,h3⟩
  exact ⟨_,rfl,rfl,_,⟨⟨dy,a,rfl,h1,h2,h3⟩,M.has⟩,rfl⟩
 rintro _ _ ⟨rfl,p,P,rfl⟩
 walk_at "own6"
 exact ⟨⟨p,rfl,P⟩,rfl⟩
theorem at_0 (a:D)(l:List D):atI (a::l) 0=some a:=by
 rw [show (0:Int)=((0:Nat):Int) from rfl,Fm.atI_nat]
 rfl
abbrev RdF (w:Nat)(m:List (Key×D))(bs:List Tie)(p:D):List (Str×D):=[("ways",.int w),("knots",.dk true m),("bonds",.lst true (bs.map dT)),("so_far",p)]
abbrev Ro (l:List (Str×D)):SD:= .ow (.ins false "Reader" l)
structure Rd (w:Nat)(N:List Str)(m:List (Key×D))(bs ts:List Tie)(p:D):Prop where
 mo:MOk0 w N m ts
 tk: ∀ t∈bs,TOk w N t
 pm:(bs.map les).Perm ts
 pok:POk w N m ts p
section
variable {w:Nat}{N:List Str}{m:List (Key×D)}{bs ts:List Tie}{p:D}
theorem yHc (w3:w<=3)(at_:Int):Mq (xC2 [] [.str (rowM w),.int at_]) (fun d l=>d= .non/\ ∃ p,l=RdF w [] [] p/\Rd w [] [] [] [] p) NoF:=by
 have hw:((w:Int)).natAbs<10 ^ 7:=by omega
 refine xYi ?_
 show Wp _ [Ro [],.va (.str (rowM w)),.va (.int at_),.un,.un] _ _
 refine xAj ?_
 refine xAx (q:=fun f ρ=>f= .nx/\ρ=[Ro [],.va (.str (rowM w)),.va (.int at_),.ow (.lst false [.str "mesh",.str (sI w)]),.un]) ?_ ?_
 ·refine xA0 rfl ?_
  walk_at "own5"
  ·rw [xZi]
   exact ⟨rfl,rfl⟩
  ·exact yLt (xJs w3).len (by decide)
  ·decide +kernel
 rintro _ _ ⟨rfl,rfl⟩
 refine xAj ?_
 refine xAx (q:=fun f ρ=>f= .nx/\ ∃ s3,s3.nbS=true/\ρ=[Ro [],.va (.str (rowM w)),.va (.int at_),s3,.va (.int w)]) ?_ ?_
 ·refine xA0 rfl ?_
  walk_at "own5"
  ·refine xAf (xVg hw) ?_
   rintro r o ⟨rfl,rfl⟩
   exact ⟨rfl,_,rfl,rfl⟩
  all_goals decide +kernel
 rintro _ _ ⟨rfl,s3,n3,rfl⟩
 refine xAj ?_
 refine xAx (q:=fun f ρ=>f= .nx/\ρ=[Ro [],.va (.str (rowM w)),.va (.int at_),s3,.va (.int w)]) ?_ ?_
 ·refine xA0 rfl ?_
  walk_at "own5"
  exact ⟨rfl,rfl⟩
 rintro _ _ ⟨rfl,rfl⟩
 refine xAj ?_
 refine xAx (q:=fun f ρ=>f= .nx/\ρ=[Ro [("ways",.int w)],.va (.str (rowM w)),.va (.int at_),s3,.va (.int w)]) ?_ ?_
 ·refine xFc ?_
  refine xA0 rfl ?_
  walk_at "own5"
  exact ⟨_,_,_,rfl,by (show (0:Nat)<1000;decide),rfl,rfl,rfl⟩
 rintro _ _ ⟨rfl,rfl⟩
 refine xAj ?_
 refine xAx (q:=fun f ρ=>f= .nx/\ρ=[Ro [("ways",.int w),("knots",.dk true [])],.va (.str (rowM w)),.va (.int at_),s3,.va (.int w)]) ?_ ?_
 ·refine xFc ?_
  refine xA0 rfl ?_
  walk_at "own5"
  exact ⟨_,_,_,rfl,by (show (1:Nat)<1000;decide),rfl,rfl,rfl⟩
 rintro _ _ ⟨rfl,rfl⟩
 refine xAj ?_
 refine xAx (q:=fun f ρ=>f= .nx/\ρ=[Ro [("ways",.int w),("knots",.dk true []),("bonds",.lst true [])],.va (.str (rowM w)),.va (.int at_),s3,.va (.int w)]) ?_ ?_
 ·refine xFc ?_
  refine xA0 rfl ?_
  walk_at "own5"
  exact ⟨_,_,_,rfl,by (show (2:Nat)<1000;decide),rfl,rfl,rfl⟩
 rintro _ _ ⟨rfl,rfl⟩
 refine xFc ?_
 refine xA0 rfl ?_
 walk_at "own5"
 refine xAf (xM7 (xRr w3) (ts':=[]) (fun t h=>by cases h) (yM5.refl _)) ?_
 rintro r o ⟨⟨p,rfl,P⟩,rfl⟩
 refine ⟨_,_,_,rfl,by (show (3:Nat)<1000;decide),if_pos P.nb,_,.inr ⟨rfl,rfl⟩,_,_,rfl,rfl,p,rfl,xRr w3,(fun t h=>by cases h),yM5.refl _,P⟩
theorem KOk.app (k:KOk N m)(l:List Str):KOk (N++l) m:=⟨fun q hq=>by
 obtain ⟨s,y,e,h,z⟩:=k.mem q hq
 exact ⟨s,y,e,yMj.mpr (.inl h),z⟩,k.nd⟩
theorem yD6 {s:Str}{y at_:Int}(R:Rd w N m [] [] p)(hs:Nm s)(hn:(getK m (.inr s)).isSome=false)(h0:0<=y)(h9:y<=9)(hl:N.length<12)(ml:m.length<12):
  Mq (xCl (RdF w m [] p) [.str (rowK s y),.int at_]) (fun d l=>d= .non/\ ∃ p',l=RdF w (xB3 m (.inr s) (.int y)) [] p'/\Rd w (N++[s]) (xB3 m (.inr s) (.int y)) [] [] p') NoF:=by
 have hy:y.natAbs<10 ^ 7:=by omega
 have nbm:nbK m=true:=R.mo.knots.nb
 have nbp:=R.pok.nb
 refine xYi ?_
 show Wp _ [Ro (RdF w m [] p),.va (.str (rowK s y)),.va (.int at_),.un,.un,.un] _ _
 refine xAj ?_
 refine xAx (q:=fun f ρ=>f= .nx/\ρ=[Ro (RdF w m [] p),.va (.str (rowK s y)),.va (.int at_),.ow (.lst false [.str "knot",.str s,.str (sI y)]),.un,.un]) ?_ ?_
 ·refine xA0 rfl ?_
  walk_at "own6"
  ·rw [xW6 hs.nx]
   exact ⟨rfl,rfl⟩
  ·exact yLt (xJv hs.nx h0 h9).len (by decide)
  ·decide +kernel
 rintro _ _ ⟨rfl,rfl⟩
 refine xAj ?_
 refine xAx (q:=fun f ρ=>f= .nx/\ ∃ s3 s5,s3.nbS=true/\s5.nbS=true/\ρ=[Ro (RdF w (xB3 m (.inr s) (.int y)) [] p),.va (.str (rowK s y)),.va (.int at_),s3,.un,s5]) ?_ ?_
 ·refine w_if ?_
  refine xA0 rfl ?_
  walk_at "own6"
  ·refine xA0 rfl ?_
   walk_at "own6"
   refine xAf (yEl hs.nx (by decide) hy) ?_
   rintro r o ⟨rfl,rfl⟩
   walk_at "own6"
   refine xFf rfl ?_
   walk_at "own6"
   refine ⟨_,_,_,rfl,rfl,?_⟩
   walk_at "own6"
   refine yHp rfl ?_
   rw [hn]
   walk_at "own6"
   refine ⟨_,_,_,rfl,rfl,?_⟩
   walk_at "own6"
   refine ⟨rfl,(fun z=>nomatch z),fun _=> ?_⟩
   walk_at "own6"
   refine xXl ?_
   walk_at "own6"
   refine ⟨_,_,_,rfl,rfl,nbm,?_⟩
   refine xA0 rfl ?_
   walk_at "own6"
   refine ⟨_,_,_,_,rfl,rfl,rfl,⟨by omega,nbm,rfl⟩,?_⟩
   exact ⟨rfl,_,_,rfl,rfl,rfl⟩
  all_goals decide +kernel
 rintro _ _ ⟨rfl,s3,s5,n3,n5,rfl⟩
 refine xFc ?_
 refine xFf rfl ?_
 walk_at "own6"
 refine ⟨_,_,_,rfl,rfl,?_⟩
 walk_at "own6"
 refine ⟨_,_,_,rfl,rfl,?_⟩
 walk_at "own6"
 refine ⟨_,_,_,rfl,rfl,?_⟩
 walk_at "own6"
 have pl:=xEq m (.inr s) (.int y)
 have M2:MOk0 w (N++[s]) (xB3 m (.inr s) (.int y)) []:=⟨R.mo.wl,fun x hx=>by
  rcases xCo hx with z|z
  ·exact R.mo.nm x z
  ·rw [xCx z]
   exact hs,by rw [yLn];exact hl,(R.mo.knots.app [s]).put (yMj.mpr (.inr (yK3 ..))) h0 h9,by omega,fun x hx=>xD8 (by
  rcases xCo hx with z|z
  ·exact .inl (R.mo.has x z)
  ·exact .inr (by rw [xCx z])),TsOk.nil,yLy _⟩
 refine xAf (xM7 M2 (ts':=[]) (fun t h=>by cases h) (yM5.refl _)) ?_
 rintro r o ⟨⟨p2,rfl,P2⟩,rfl⟩
 refine ⟨?_,_,_,_,rfl,by (show (4:Nat)<1000;decide),if_pos P2.nb,_,.inr ⟨rfl,rfl⟩,_,_,rfl,rfl,p2,rfl,M2,(fun t h=>by cases h),yM5.refl _,P2⟩
 show ((true&&(true&&(true&&(s3.nbS&&(true&&(s5.nbS&&true))))))&&p2.nb)=true
 rw [n3,n5,P2.nb]
 rfl
theorem TsOk.put (T:TsOk w N ts){u:Tie}(k:TOk w N u)(hn:les u∉ts):TsOk w N (srtF dT (ts++[les u])):=by
 have pm:=xC6 dT (ts++[les u])
 refine ⟨fun t ht=> ?_,pm.nodup_iff.mpr ?_,xO8 dT xPr xD7 _⟩
 ·rcases xCo (pm.mem_iff.mp ht) with z|z
  ·exact T.tie t z
  ·rw [xCx z]
   exact ⟨k.les,xYf _⟩
 ·rw [yMi]
  exact ⟨T.nd,yLo.mpr ⟨(fun z=>by cases z),yLw⟩,fun a ha b hb e=>hn (by rw [xCx hb] at e;rw [<- e];exact ha)⟩
theorem yKs {u:Tie}{at_:Int}(R:Rd w N m bs ts p)(k:TOk w N u)(hn:les u∉ts)(hl:ts.length<24):
  Mq (xCl (RdF w m bs p) [.str (rowT u),.int at_]) (fun d l=>d= .non/\ ∃ p',l=RdF w m (bs++[u]) p'/\Rd w N m (bs++[u]) (srtF dT (ts++[les u])) p') NoF:=by
 have hu:=R.mo.nm _ k.u
 have hv:=R.mo.nm _ k.v
 have w3:=R.mo.wl
 have nbm:nbK m=true:=R.mo.knots.nb
 have nbb:nbL (bs.map dT)=true:=xDo nb_T _
 have nbp:=R.pok.nb
 have bl:bs.length=ts.length:=by
  have:=R.pm.length_eq
  rw [yK2] at this
  exact this
 refine xYi ?_
 show Wp _ [Ro (RdF w m bs p),.va (.str (rowT u)),.va (.int at_),.un,.un,.un] _ _
 refine xAj ?_
 refine xAx (q:=fun f ρ=>f= .nx/\ρ=[Ro (RdF w m bs p),.va (.str (rowT u)),.va (.int at_),.ow (.lst false ((tieW u).map D.str)),.un,.un]) ?_ ?_
 ·refine xA0 rfl ?_
  walk_at "own6"
  ·rw [xWl hu.nx hv.nx]
   exact ⟨rfl,rfl⟩
  ·exact yLt (xMb k R.mo.nm w3).len (by decide)
  ·decide +kernel
 rintro _ _ ⟨rfl,rfl⟩
 refine xAj ?_
 refine xAx (q:=fun f ρ=>f= .nx/\ ∃ s3 s4,s3.nbS=true/\s4.nbS=true/\ρ=[Ro (RdF w m (bs++[u]) p),.va (.str (rowT u)),.va (.int at_),s3,s4,.un]) ?_ ?_
 ·refine w_if ?_
  refine xA0 rfl ?_
  walk_at "own6"
  refine xDx (at_0 (.str "tie") _) ?_
  walk_at "own6"
  ·refine xA0 rfl ?_
   walk_at "own6"
   refine xAf (yIt (fun i hi=>Nat.lt_of_le_of_lt (k.bd i hi) (by decide)) (by rw [k.len];omega)) ?_
   rintro r o ⟨rfl,rfl⟩
   walk_at "own6"
   refine xA0 rfl ?_
   walk_at "own6"
   refine yCt rfl rfl nbb ?_
   refine xA0 rfl ?_
   walk_at "own6"
   have tl:=R.mo.tlen
   refine ⟨_,_,_,_,rfl,rfl,rfl,⟨by rw [yK2];omega,nbb,nb_T u⟩,rfl,.va (.lst false ((tieW u).map D.str)),.va (dT u),?_,nb_T u,?_⟩
   ·show (!false&&nbL ((tieW u).map D.str))=true
    rw [xDo (fun _=>rfl)]
    rfl
   ·show [Ro [("ways",.int w),("knots",.dk true m),("bonds",.lst true (bs.map dT++[dT u])),("so_far",p)],_,_,_,_,_]=_
    rw [show bs.map dT++[dT u]=(bs++[u]).map dT by rw [yLs];rfl]
  all_goals decide +kernel
 rintro _ _ ⟨rfl,s3,s4,n3,n4,rfl⟩
 refine xFc ?_
 refine xFf rfl ?_
 walk_at "own6"
 refine ⟨_,_,_,rfl,rfl,?_⟩
 walk_at "own6"
 refine ⟨_,_,_,rfl,rfl,?_⟩
 walk_at "own6"
 refine ⟨_,_,_,rfl,rfl,?_⟩
 walk_at "own6"
 have pm2:((bs++[u]).map les).Perm (srtF dT (ts++[les u])):=by
  rw [yLs]
  exact (R.pm.append_right _).trans (xC6 dT _).symm
 have tk2: ∀ t∈bs++[u],TOk w N t:=fun t ht=>by
  rcases xCo ht with z|z
  ·exact R.tk t z
  ·rw [xCx z]
   exact k
 have sl:(srtF dT (ts++[les u])).length=ts.length+1:=by
  rw [(xC6 dT _).length_eq,yLn]
  rfl
 have M2:MOk0 w N m (srtF dT (ts++[les u])):=⟨w3,R.mo.nm,R.mo.few,R.mo.knots,R.mo.klen,R.mo.has,R.mo.ties.put k hn,by omega⟩
 refine xAf (xM7 M2 (ts':=bs++[u]) tk2 pm2) ?_
 rintro r o ⟨⟨p2,rfl,P2⟩,rfl⟩
 refine ⟨?_,_,_,_,rfl,by (show (4:Nat)<1000;decide),if_pos P2.nb,_,.inr ⟨rfl,rfl⟩,_,_,rfl,rfl,p2,rfl,M2,tk2,pm2,P2⟩
 show ((true&&(true&&(true&&(s3.nbS&&(s4.nbS&&(true&&true))))))&&p2.nb)=true
 rw [n3,n4,P2.nb]
 rfl
def mk:List (Str×Int)->List (Key×D)->List (Key×D)
 | [],m=>m
 | q::r,m=>mk r (xB3 m (.inr q.1) (.int q.2))
def sorted (ts:List Tie):List Tie->List Tie
 | []=>ts
 | u::r=>sorted (srtF dT (ts++[les u])) r
end
def xCa (w:Nat)(kl:List (Str×Int))(us:List Tie):List Str:=rowM w::(kl.map (fun q=>rowK q.1 q.2)++us.map rowT)
structure KlOk (kl:List (Str×Int)):Prop where
 nm: ∀ q∈kl,Nm q.1/\0<=q.2/\q.2<=9
 nd:(kl.map Prod.fst).Nodup
 few:kl.length<=12
structure UsOk (w:Nat)(N:List Str)(us:List Tie):Prop where
 tk: ∀ u∈us,TOk w N u
 nd:(us.map les).Nodup
 few:us.length<=24
theorem yAh {w:Nat}{kl:List (Str×Int)}{us:List Tie}(K:KlOk kl)(U:UsOk w (kl.map Prod.fst) us): ∀ r∈xCa w kl us,10∉sl r:=fun r hr=>by
 have nm: ∀ s∈kl.map Prod.fst,Nm s:=fun s hs=>by
  obtain ⟨q,hq,rfl⟩:=yLg.mp hs
  exact (K.nm q hq).1
 rcases in_cons hr with rfl|hr
 ·rw [xZd]
  exact xQw (wo_M w)
 ·rcases xCo hr with z|z
  ·obtain ⟨q,hq,rfl⟩:=yLg.mp z
   rw [xVa]
   exact xQw (wo_K (K.nm q hq).1.nx q.2)
  ·obtain ⟨u,hu,rfl⟩:=yLg.mp z
   exact xQw (wo_T (nm _ (U.tk u hu).u).nx (nm _ (U.tk u hu).v).nx)
theorem xM8 {w:Nat}(w3:w<=3){kl:List (Str×Int)}{us:List Tie}(K:KlOk kl)(U:UsOk w (kl.map Prod.fst) us):(∀ r∈xCa w kl us,Tx 54 r)/\(xCa w kl us).length<=40:=by
 have nm:NmL (kl.map Prod.fst):=fun s hs=>by
  obtain ⟨q,hq,rfl⟩:=yLg.mp hs
  exact (K.nm q hq).1
 refine ⟨fun r hr=> ?_,?_⟩
 ·rcases in_cons hr with rfl|hr
  ·exact (xJs w3).mono (by decide)
  ·rcases xCo hr with z|z
   ·obtain ⟨q,hq,rfl⟩:=yLg.mp z
    obtain ⟨h1,h2,h3⟩:=K.nm q hq
    exact (xJv h1.nx h2 h3).mono (by decide)
   ·obtain ⟨u,hu,rfl⟩:=yLg.mp z
    exact xMb (U.tk u hu) nm w3
 ·have h1:=K.few
  have h2:=U.few
  show (kl.map _++us.map _).length+1<=40
  rw [yLn,yK2,yK2]
  omega
theorem yKt:T.Sep "\n":=⟨by decide +kernel,by decide +kernel⟩
theorem yJb:T.sl "\n"=[10]:=by decide +kernel
theorem xUu {w:Nat}{kl:List (Str×Int)}{us:List Tie}(K:KlOk kl)(U:UsOk w (kl.map Prod.fst) us):Txt.split (Txt.join "\n" (xCa w kl us)) "\n"=xCa w kl us:=T.split_join yKt yJb (fun z=>nomatch z) (yAh K U)
end Lw
open L2 PySem PySem.Spec PyProof.Rows Fm
namespace Lw
open L2 PySem PySem.Spec PyProof.Rows Fm
theorem xYd: ∀ (l:List (Str×Int)) (q:Str×Int) (m:List (Key×D)),mk (l++[q]) m=xB3 (mk l m) (.inr q.1) (.int q.2)
 | [],_,_=>rfl
 | a::l,q,m=>xYd l q _
theorem yB2: ∀ (l:List (Str×Int)) (m:List (Key×D)),(mk l m).length<=m.length+l.length
 | [],_=>yLq _
 | a::l,m=>by
  have h:=yB2 l (xB3 m (.inr a.1) (.int a.2))
  have pl:=xEq m (.inr a.1) (.int a.2)
  show (mk l (xB3 m (.inr a.1) (.int a.2))).length<=m.length+(l.length+1)
  omega
theorem xKk: ∀ (l:List Tie) (u:Tie) (ts:List Tie),sorted ts (l++[u])=srtF dT (sorted ts l++[les u])
 | [],_,_=>rfl
 | a::l,u,ts=>xKk l u _
theorem take_snoc {α:Type}{l:List α}{i:Nat}{a:α}(h:l[i]? =some a):l.take (i+1)=l.take i++[a]:=by
 rw [yL4,h]
 rfl
def RdI (w:Nat)(kl:List (Str×Int))(us:List Tie)(i:Nat)(p:D):Prop:=Rd w ((kl.take i).map Prod.fst) (mk (kl.take i) []) (us.take (i-kl.length)) (sorted [] (us.take (i-kl.length))) p
abbrev RdL (w:Nat)(kl:List (Str×Int))(us:List Tie)(i:Nat)(p:D):List (Str×D):=RdF w (mk (kl.take i) []) (us.take (i-kl.length)) p
theorem yHy {α β:Type}{f:α->β}: ∀ {l:List α} {i:Nat} {a:α},(l.map f).Nodup->l[i]? =some a->f a∉(l.take i).map f:=fun {l i a} nd h z=>by
 have e:l.map f=(l.take i).map f++(l.drop i).map f:=by rw [<- yLs,yMl]
 rw [e] at nd
 have hi:=(yK5.mp h)
 obtain ⟨hi,e2⟩:=hi
 refine (yMi.mp nd).2.2 (f a) z (f a) (yLg.mpr ⟨a,?_,rfl⟩) rfl
 rw [<- e2]
 exact List.mem_drop_iff_getElem.mpr ⟨0,by omega,by simp⟩
section
variable {w:Nat}{kl:List (Str×Int)}{us:List Tie}
theorem yDz (w3:w<=3)(K:KlOk kl)(U:UsOk w (kl.map Prod.fst) us){i:Nat}{row:Str}{p:D}(at_:Int)(h:(kl.map (fun q=>rowK q.1 q.2)++us.map rowT)[i]? =some row)(R:RdI w kl us i p):
  Mq (xCl (RdL w kl us i p) [.str row,.int at_]) (fun d l=>d= .non/\ ∃ p',l=RdL w kl us (i+1) p'/\RdI w kl us (i+1) p') NoF:=by
 by_cases hi:i<kl.length
 ·rw [yLk (by rw [yK2];exact hi),yLe] at h
  obtain ⟨q,hq,rfl⟩:=yK4.mp h
  have z0:i-kl.length=0:=by omega
  have z1:i+1-kl.length=0:=by omega
  have ek:=take_snoc hq
  obtain ⟨n1,n2,n3⟩:=K.nm q (yLf hq)
  unfold RdI RdL at*
  rw [z0] at R ⊢
  rw [z1,ek,xYd,yLs]
  have hlen:((kl.take i).map Prod.fst).length<12:=by
   have:=K.few
   rw [yK2,yLv]
   omega
  have ml:(mk (kl.take i) []).length<12:=by
   have:=K.few
   have:=yB2 (kl.take i) []
   rw [yLv] at this
   have h0:([]:List (Key×D)).length=0:=rfl
   omega
  have hn:(getK (mk (kl.take i) []) (.inr q.1)).isSome=false:=by
   cases e:(getK (mk (kl.take i) []) (.inr q.1)).isSome with
   | false=>rfl
   | true=>
    obtain ⟨_,_,m,_⟩:=R.mo.knots.get e
    exact absurd m (yHy K.nd hq)
  exact yD6 R n1 hn n2 n3 hlen ml
 ·have e1:kl.take i=kl:=yLd (by omega)
  have e2:kl.take (i+1)=kl:=yLd (by omega)
  rw [yL2 (by rw [yK2];omega),yK2,yLe] at h
  obtain ⟨u,hu,rfl⟩:=yK4.mp h
  have ej:i+1-kl.length=(i-kl.length)+1:=by omega
  have eu:=take_snoc hu
  have hj:=(yK5.mp hu).1
  unfold RdI RdL at*
  rw [e1] at R ⊢
  rw [e2,ej,eu,xKk]
  have pl:=R.pm.length_eq
  rw [yK2,yLv] at pl
  have:=U.few
  exact yKs R (U.tk u (yLf hu)) (fun z=>yHy U.nd hu (R.pm.mem_iff.mpr z)) (by omega)
theorem xZm (w3:w<=3)(K:KlOk kl)(U:UsOk w (kl.map Prod.fst) us):Fw (xLl [.va (.str (Txt.join "\n" (xCa w kl us)))]) (fun r o=> ∃ p,r= .va p/\Rd w (kl.map Prod.fst) (mk kl []) us (sorted [] us) p/\o=[.un]) NoX:=by
 obtain ⟨r1,r2⟩:=xM8 w3 K U
 have tl:=(xOd yBp r1 r2).1.len
 refine xAt rfl ?_
 refine xAj ?_
 refine xAx (q:=fun f ρ=>f= .nx/\ρ=[.va (.str (Txt.join "\n" (xCa w kl us))),.ow (.lst false ((xCa w kl us).map D.str)),.un,.un,.un]) ?_ ?_
 ·walk_at "own5"
  ·rw [xUu K U]
   exact ⟨rfl,rfl⟩
  ·exact yLt tl (by decide)
  ·decide +kernel
 rintro _ _ ⟨rfl,rfl⟩
 refine w_own ?_
 walk_at "own5"
 refine xDx (at_0 _ _) ?_
 walk_at "own5"
 refine Mq.mono (yHc w3 0) ?_ (fun _ _ z=>z.elim)
 rintro d l ⟨rfl,p0,rfl,R0⟩
 refine ⟨rfl,Nat.lt_of_sub_eq_succ rfl,?_⟩
 refine xI2 ?_
 refine xA0 rfl ?_
 refine w_en1 ?_
 walk_at "own5"
 have ed:Fm.cutD ((xCa w kl us).map D.str) (some 1) none=(kl.map (fun q=>rowK q.1 q.2)++us.map rowT).map D.str:=by
  rw [show (1:Int)=((1:Nat):Int) from rfl,xE9]
  rfl
 rw [ed]
 have lr:(enP 1 ((kl.map (fun q=>rowK q.1 q.2)++us.map rowT).map D.str)).length=kl.length+us.length:=by
  rw [xNp,yK2,yLn,yK2,yK2]
 refine xD2 (I:=fun i ρ=> ∃ s0 s1 s3 s4 p,ρ=[s0,s1,Ro (RdL w kl us i p),s3,s4]/\RdI w kl us i p/\s0= .va (.str (Txt.join "\n" (xCa w kl us)))) ?_ ⟨_,_,_,_,p0,by
  unfold RdL
  rw [Nat.zero_sub]
  rfl,by
  unfold RdI
  rw [Nat.zero_sub]
  exact R0,rfl⟩ ?_
 ·rintro i e ρ hi ⟨s0,s1,s3,s4,p,rfl,R,rfl⟩
  rw [xWm,yLe] at hi
  obtain ⟨d,hd,rfl⟩:=yK4.mp hi
  obtain ⟨row,hr,rfl⟩:=yK4.mp hd
  refine ⟨_,rfl,?_⟩
  refine xOy ?_
  refine yGj rfl rfl ?_
  refine xA0 rfl ?_
  walk_at "own5"
  refine Mq.mono (yDz w3 K U _ hr R) ?_ (fun _ _ z=>z.elim)
  rintro d l ⟨rfl,p2,rfl,R2⟩
  exact ⟨_,_,_,_,p2,rfl,R2,rfl⟩
 ·rintro ρ ⟨s0,s1,s3,s4,p,rfl,R,rfl⟩
  rw [lr] at R
  unfold RdI at R
  rw [yLd (by omega),yLd (by omega)] at R
  obtain ⟨dy,at_,rfl,_⟩:=R.pok.all
  refine ⟨rfl,_,_,_,rfl,?_⟩
  walk_at "own5"
  exact ⟨_,_,_,rfl,rfl,_,rfl,R,rfl⟩
end
end Lw
open L2 PySem PySem.Spec PyProof.Rows Fm
namespace Lw
open L2 PySem PySem.Spec PyProof.Rows Fm
theorem yFw {n:Nat}{d:D}(h:Drw n d):d.nbO=true:=by
 obtain ⟨b,cells,a1,a2,a3,a4,rfl,_⟩:=h.ex
 show (D.nb (.lst false (cells.map D.int))&&_)=true
 have:D.nb (.lst false (cells.map D.int))=true:=by
  show (!false&&nbL (cells.map D.int))=true
  rw [xDo fun _=>rfl]
  rfl
 rw [this]
 rfl
theorem yBk {α:Type}{l k:List α}{a:α}(h:l.Perm k)(c:Nat):(l.take c++[a]++l.drop c).Perm (k++[a]):=by
 have h1:(l.take c++[a]++l.drop c).Perm (l++[a]):=by
  rw [yL7]
  refine ((List.perm_append_comm (l₁:=[a]) (l₂:=l.drop c)).append_left (l.take c)).trans ?_
  rw [<- yL7,yMl]
 exact h1.trans (h.append_right _)
theorem xTq {α:Type}{g:α->Str}{l:List α}{n:Nat}{d:D}{b:Bool}(h:Drw n d)(hn:n<=80000)(hl:l.length<=1000):
  Fw (xD1 [.ow d,.va (.lst b (l.map fun a=>D.str (g a)))]) (fun r o=> ∃ l':List α,r= .ow (.lst false (l'.map fun a=>D.str (g a)))/\l'.Perm l/\ ∃ d',o=[.ow d',.un]/\Drw (n+l.length) d') NoX:=by
 refine xAt rfl ?_
 refine xAj ?_
 refine xAx (q:=fun f ρ=>f= .nx/\ρ=[.ow d,.va (.lst b (l.map fun a=>D.str (g a))),.ow (.lst false []),.un]) ?_ ?_
 ·walk_at "own4"
  exact ⟨rfl,rfl⟩
 rintro _ _ ⟨rfl,rfl⟩
 refine xAj ?_
 refine xAx (q:=fun f ρ=>f= .nx/\ ∃ (d':D) (l':List α) (s3:SD),ρ=[.ow d',.va (.lst b (l.map fun a=>D.str (g a))),.ow (.lst false (l'.map fun a=>D.str (g a))),s3]/\l'.Perm l/\Drw (n+l.length) d') ?_ ?_
 ·refine xI2 ?_
  walk_at "own4"
  refine xD2 (I:=fun i ρ=> ∃ (d':D) (l':List α) (s3:SD),ρ=[.ow d',.va (.lst b (l.map fun a=>D.str (g a))),.ow (.lst false (l'.map fun a=>D.str (g a))),s3]/\l'.Perm (l.take i)/\Drw (n+i) d') ?_ ⟨d,[],_,rfl,by rw [yMm],h⟩ ?_
  ·rintro i e ρ hi ⟨d1,l1,s3,rfl,pm,k1⟩
   rw [yLe] at hi
   obtain ⟨a,ha,rfl⟩:=yK4.mp hi
   have hi3:=(yK5.mp ha).1
   have ll:l1.length=i:=by
    rw [pm.length_eq,yLv]
    omega
   refine ⟨_,rfl,?_⟩
   refine xOy ?_
   refine w_ins rfl ?_
   walk_at "own4"
   have own:(([.ow d1,.va (.lst b (l.map fun a=>D.str (g a))),.un,.va (.str (g a))]:List SD).all fun x=>match x with| .ow c=>c.nbO|_=>true)=true:=by
    show (d1.nbO&&true)=true
    rw [yFw k1]
    rfl
   refine yE3 rfl own ?_
   walk_at "own4"
   show Ow (xC0 [.lst true (l1.map fun a=>D.str (g a))]) _
   walk_at "own4"
   refine ⟨rfl,rfl,?_⟩
   walk_at "own4"
   rw [yK2]
   refine xDb (xB5 k1 (by omega) (szS (by omega)) (by omega)) fun q d2 hq k2=> ?_
   walk_at "own4"
   refine ⟨_,_,_,_,rfl,rfl,⟨by rw [yK2];omega,hq.1,by omega⟩,d2,l1.take q.toNat++[a]++l1.drop q.toNat,.va (.str (g a)),?_,?_,k2⟩
   ·rw [yLs,yLs,List.map_take,List.map_drop]
    rfl
   ·rw [take_snoc ha]
    exact yBk pm _
  ·rintro ρ ⟨d1,l1,s3,rfl,pm,k1⟩
   rw [yK2] at pm k1
   rw [yLd (yLq _)] at pm
   exact ⟨rfl,d1,l1,s3,rfl,pm,k1⟩
 rintro _ _ ⟨rfl,d1,l1,s3,rfl,pm,k1⟩
 walk_at "own4"
 exact ⟨pm,d1,rfl,k1⟩
theorem yBf {i:Int}(h:i.natAbs<10 ^ 7):PySem.intText? (sI i)=some i:=by
 have z:=T.numB_num (fig:=7) (by decide) (by decide) h
 unfold T.numB at z
 split at z
 ·split at z
  ·cases z
  ·exact z
 ·cases z
section
variable {n:Nat}{d:D}
theorem yAk {row x:Str}{xs:List Str}(e:Txt.split row " "=x::xs)(hx:x≠"tie")(sx:PyData.strOk x=true)(hl:row.length<=1000000):Fw (xB6 [.ow d,.va (.str row)]) (fun r o=>r= .va (.str row)/\o=[.ow d,.un]) NoX:=by
 refine xAt rfl ?_
 refine xAj ?_
 refine xAx (q:=fun f ρ=>f= .nx/\ρ=[.ow d,.va (.str row),.ow (.lst false ((x::xs).map D.str)),.un,.un]) ?_ ?_
 ·walk_at "own5"
  ·rw [e]
   exact ⟨rfl,rfl⟩
  ·exact hl
  ·decide +kernel
 rintro _ _ ⟨rfl,rfl⟩
 walk_at "own5"
 refine xDx (at_0 _ _) ?_
 walk_at "own5"
 ·refine ⟨fun _=>⟨fun _=> ?_,fun z=>nomatch z⟩,fun z=> ?_⟩
  ·walk_at "own5"
   exact ⟨rfl,rfl⟩
  ·rw [decide_eq_false hx] at z
   cases z
 all_goals first|exact sx|decide +kernel
theorem xZy {w:Nat}{N:List Str}{t:Tie}(h:Drw n d)(hn:n<=80000)(k:TOk w N t)(hN:NmL N)(w3:w<=3):
  Fw (xB6 [.ow d,.va (.str (rowT t))]) (fun r o=> ∃ u,(u=t\/u=about t)/\r= .va (.str (rowT u))/\ ∃ d',o=[.ow d',.un]/\Drw (n+1) d') NoX:=by
 have h1:=(hN _ k.u).nx
 have h2:=(hN _ k.v).nx
 have hb: ∀ i∈t.2.2,i.natAbs<10 ^ 7:=fun i hi=>Nat.lt_of_le_of_lt (k.bd i hi) (by decide)
 have hs:t.2.2.length<=3:=by rw [k.len];exact w3
 have hl:(rowT t).length<=1000000:=yLt (xMb k hN w3).len (by decide)
 refine xAt rfl ?_
 refine xAj ?_
 refine xAx (q:=fun f ρ=>f= .nx/\ρ=[.ow d,.va (.str (rowT t)),.ow (.lst false ((tieW t).map D.str)),.un,.un]) ?_ ?_
 ·walk_at "own5"
  ·rw [xWl h1 h2]
   exact ⟨rfl,rfl⟩
  ·exact hl
  ·decide +kernel
 rintro _ _ ⟨rfl,rfl⟩
 walk_at "own5"
 refine xDx (at_0 (.str "tie") _) ?_
 walk_at "own5"
 ·refine xDb (xB5 h (by decide) (szS (by decide)) (by omega)) fun q d1 hq k1=> ?_
  walk_at "own5"
  refine ⟨fun _=> ?_,fun _=> ?_⟩
  ·walk_at "own5"
   exact ⟨t,.inl rfl,rfl,d1,rfl,k1⟩
  ·walk_at "own5"
   have ed:Fm.cutD ((tieW t).map D.str) (some 3) none=t.2.2.map fun i=>D.str (sI i):=by
    rw [show (3:Int)=((3:Nat):Int) from rfl,xE9]
    show (t.2.2.map sI).map D.str=_
    rw [yLz]
    rfl
   rw [ed]
   refine xK8 (L:=t.2.2) (m:=fun i=>D.str (sI (0-i))) (by rw [yK2]) (fun i e c hd hc=> ?_) (by rw [yK2];omega) ?_
   ·rw [yLe,hc] at hd
    cases hd
    refine ⟨_,rfl,?_⟩
    walk_at "own5"
    have hc2:=hb c (yLf hc)
    refine xYr ?_ (yBf hc2) (yLt (xG7 (k:=7) (by decide) hc2).len (by decide))
    walk_at "own5"
    ·exact ⟨rfl,rfl⟩
    ·exact xEo (by omega)
   ·walk_at "own5"
    refine xDx (show atI ((tieW t).map D.str) 2=some (.str t.2.1) from by
     rw [show (2:Int)=((2:Nat):Int) from rfl,Fm.atI_nat]
     rfl) ?_
    walk_at "own5"
    refine xDx (show atI ((tieW t).map D.str) 1=some (.str t.1) from by
     rw [show (1:Int)=((1:Nat):Int) from rfl,Fm.atI_nat]
     rfl) ?_
    walk_at "own5"
    ·obtain ⟨tw,tl⟩:=xMp k.about hN w3
     have el:([D.str (Str.ofString "tie"),D.str t.2.1,D.str t.1]++t.2.2.map fun i=>D.str (sI (0-i)))=(tieW (about t)).map D.str:=by
      show _=D.str "tie"::D.str t.2.1::D.str t.1::((t.2.2.map fun a=>0-a).map sI).map D.str
      (rw [yLz,yLz])
      rfl
     rw [el]
     refine xOe ?_ (yLt (xOd xPs tw tl).2 (by decide))
     exact ⟨about t,.inr rfl,rfl,d1,rfl,k1⟩
    ·rw [yK2]
     show 3+_<=_
     omega
 all_goals decide +kernel
end
end Lw
open L2 PySem PySem.Spec PyProof.Rows Fm
namespace Lw
open L2 PySem PySem.Spec PyProof.Rows Fm
theorem xZj: ∀ {l:List (Str×Int)} {m:List (Key×D)} {s:Str},s∉l.map Prod.fst->getK (mk l m) (.inr s)=getK m (.inr s)
 | [],_,_,_=>rfl
 | a::l,m,s,h=>by
  have h1:s≠a.1:=fun z=>h (by rw [z];exact yK3 ..)
  have h2:s∉l.map Prod.fst:=fun z=>h (yK7 _ z)
  show getK (mk l (xB3 m (.inr a.1) (.int a.2))) (.inr s)=_
  rw [xZj h2,xI7,if_neg h1]
theorem yH6: ∀ {l:List (Str×Int)} {m:List (Key×D)} {s:Str} {y:Int},(l.map Prod.fst).Nodup->(s,y)∈l->getK (mk l m) (.inr s)=some (.int y)
 | a::l,m,s,y,nd,h=>by
  obtain ⟨n1,n2⟩:=(yLo.mp nd)
  show getK (mk l (xB3 m (.inr a.1) (.int a.2))) (.inr s)=_
  rcases in_cons h with z|z
  ·rw [xZj (by rw [<- z] at n1;exact n1),xI7,<- z,if_pos rfl]
  ·exact yH6 n2 z
section
variable {w:Nat}{N N1:List Str}{m m1:List (Key×D)}{us ts ts1:List Tie}{p:D}{ks:List Str}{kl:List (Str×Int)}
theorem Rd.back (R:Rd w N1 m1 us ts1 p)(M:MOk w N m ts)(h1: ∀ s∈N1,s∈N)(h2: ∀ s∈N,s∈N1)(hg: ∀ s,getK m1 (.inr s)=getK m (.inr s))(hp:(us.map les).Perm ts):POk w N m ts p:=by
 have e:ts1=ts:=by
  have e:=xMv dT xPr xD7 (R.pm.symm.trans hp)
  rw [R.mo.ties.srt,M.ties.srt] at e
  exact e
 subst e
 obtain ⟨dy,at_,rfl,d,nb,ha⟩:=R.pok.all
 refine ⟨⟨dy,at_,rfl,⟨⟨fun q hq=> ?_,d.knots.nd⟩,d.len,fun s=>(d.val s).trans (hg s)⟩,nb,fun s hs=>ha s (h2 s hs)⟩,M.has⟩
 obtain ⟨s,y,e,h,z⟩:=d.knots.mem q hq
 exact ⟨s,y,e,h1 s h,z⟩
def klM (m:List (Key×D))(ks:List Str):List (Str×Int):=(ssort ks).map fun s=>(s,yy m s)
theorem yFh:(klM m ks).map Prod.fst=ssort ks:=by
 unfold klM
 rw [yLz]
 exact List.map_id _
theorem xX8:xEh w m ks ts=xCa w (klM m ks) ts:=by
 unfold xEh xCa klM
 rw [yLz]
 rfl
structure KlM (w:Nat)(N:List Str)(m:List (Key×D))(ts:List Tie)(kl:List (Str×Int))(us:List Tie):Prop where
 klo:KlOk kl
 uso:UsOk w (kl.map Prod.fst) us
 sub: ∀ s∈kl.map Prod.fst,s∈N
 sup: ∀ s∈N,s∈kl.map Prod.fst
 get: ∀ s,getK (mk kl []) (.inr s)=getK m (.inr s)
 pm:(us.map les).Perm ts
theorem yCw (M:MOk w N m ts)(e:xDk m=some ks)(hk:kl.Perm (klM m ks))(hu: ∀ u∈us,TOk w N u)(hp:(us.map les).Perm ts):KlM w N m ts kl us:=by
 obtain ⟨ks2,e2,kl2,ka,kb⟩:=M.knots.keys
 rw [e] at e2
 cases e2
 have pf:(kl.map Prod.fst).Perm (ssort ks):=by
  have:=hk.map Prod.fst
  rw [yFh] at this
  exact this
 have nd:(ssort ks).Nodup:=(xDm ks).nodup_iff.mpr (M.knots.knd e)
 have mem: ∀ s,s∈kl.map Prod.fst ↔ (getK m (.inr s)).isSome=true:=fun s=>by
  rw [pf.mem_iff,xBv]
  exact ⟨fun h=>(ka s h).2,kb s⟩
 have sub: ∀ s∈kl.map Prod.fst,s∈N:=fun s hs=>by
  obtain ⟨_,_,h,_⟩:=M.knots.get ((mem s).mp hs)
  exact h
 have sup: ∀ s∈N,s∈kl.map Prod.fst:=fun s hs=>(mem s).mpr (M.has s hs)
 have ndk:(kl.map Prod.fst).Nodup:=pf.nodup_iff.mpr nd
 have yk: ∀ q∈kl,getK m (.inr q.1)=some (.int q.2)/\0<=q.2/\q.2<=9:=fun q hq=>by
  obtain ⟨s,hs,rfl⟩:=yLg.mp (hk.mem_iff.mp hq)
  obtain ⟨y,ey,_,y0,y9⟩:=M.knots.get (ka s (xBv.mp hs)).2
  have:yy m s=y:=by
   unfold yy
   rw [ey]
  show getK m (.inr s)=some (.int (yy m s))/\0<=yy m s/\yy m s<=9
  rw [this]
  exact ⟨ey,y0,y9⟩
 refine ⟨⟨fun q hq=>⟨M.nm _ (sub _ (yLg.mpr ⟨q,hq,rfl⟩)),(yk q hq).2⟩,ndk,?_⟩,⟨fun u h=> ?_,hp.nodup_iff.mpr M.ties.nd,?_⟩,sub,sup,fun s=> ?_,hp⟩
 ·have:=pf.length_eq
  rw [yK2,xA5] at this
  have:=M.klen
  omega
 ·have k:=hu u h
  exact ⟨sup _ k.u,sup _ k.v,k.len,k.bd,k.ne⟩
 ·have:=hp.length_eq
  rw [yK2] at this
  have:=M.tlen
  omega
 ·by_cases z:s∈kl.map Prod.fst
  ·obtain ⟨q,hq,rfl⟩:=yLg.mp z
   rw [yH6 ndk (show (q.1,q.2)∈kl from hq),(yk q hq).1]
  ·rw [xZj z]
   cases c:getK m (.inr s) with
   | none=>rfl
   | some d=>exact absurd ((mem s).mpr (by rw [c];rfl)) z
theorem xPe (M:MOk w N m ts)(K:KlM w N m ts kl us):Fw (xLl [.va (.str (Txt.join "\n" (xCa w kl us)))]) (fun r o=> ∃ p,r= .va p/\POk w N m ts p/\o=[.un]) NoX:=xAf (xZm M.wl K.klo K.uso) (by
 rintro r o ⟨p,rfl,R,rfl⟩
 exact ⟨p,rfl,R.back M K.sub K.sup K.get K.pm,rfl⟩)
theorem xXf (P:POk w N m ts p)(M:MOk w N m ts)(e:xDk m=some ks):Fw (xTj [.va p]) (fun r o=>r= .va (.str (Txt.join "\n" (xCa w (klM m ks) ts)))/\o=[.un]) NoX:=by
 have P0:=P
 obtain ⟨dy,at_,rfl,_⟩:=P.all
 refine xAt rfl ?_
 walk_at "own1"
 refine yEo (xAf (str_ok P0 M e) ?_)
 rintro r o rfl
 refine ⟨_,rfl,?_⟩
 unfold yCp
 rw [xX8]
 exact ⟨rfl,rfl⟩
end
end Lw
set_option maxHeartbeats 3990000
open L2 PySem PySem.Spec PyProof.Rows Fm
namespace Lw
open L2 PySem PySem.Spec PyProof.Rows Fm
theorem row2:(Str.ofString "mesh 2")=Txt.join "\n" (xCa 2 [] []):=by decide +kernel
theorem xZ3 (l:List D){a b:Nat}(h:a<=b):Fm.cutD l (some (a:Int)) (some (b:Int))=(l.drop a).take (b-a):=by
 unfold Fm.cutD
 rw [HT.sIx_nat,HT.sIx_nat]
 by_cases h1:b<=l.length
 ·rw [yMc h1,yMc (by omega)]
 ·rw [yMg (by omega)]
  by_cases h2:a<=l.length
  ·rw [yMc h2,yLd (by rw [yL0];exact yLq _),yLd (by rw [yL0];omega)]
  ·rw [yMg (by omega),yL5 (yLq _),yL5 (by omega),List.take_nil,List.take_nil]
section
variable {w:Nat}{m:List (Key×D)}{ks:List Str}{ts:List Tie}{kl:List (Str×Int)}
theorem xIy:(xCa w kl ts).map D.str=D.str (rowM w)::((kl.map fun q=>D.str (rowK q.1 q.2))++ts.map fun t=>D.str (rowT t)):=by
 unfold xCa
 rw [yLx,yLs,yLz,yLz]
 rfl
theorem xZq:Fm.cutD ((xCa w kl ts).map D.str) none (some 1)=[D.str (rowM w)]:=by
 rw [show (1:Int)=((1:Nat):Int) from rfl,xGw,xIy]
 rfl
theorem xVs (h:kl.length=m.length):Fm.cutD ((xCa w kl ts).map D.str) (some 1) (some ((1+m.length:Nat):Int))=kl.map fun q=>D.str (rowK q.1 q.2):=by
 rw [show (some (1:Int))=some ((1:Nat):Int) from rfl,xZ3 _ (by omega),xIy,List.drop_succ_cons,yMs,Nat.add_sub_cancel_left]
 exact List.take_left' (by rw [yK2];exact h)
theorem yBn (h:kl.length=m.length):Fm.cutD ((xCa w kl ts).map D.str) (some ((1+m.length:Nat):Int)) none=ts.map fun t=>D.str (rowT t):=by
 rw [xE9,xIy,Nat.add_comm,List.drop_succ_cons]
 exact List.drop_left' (by rw [yK2];exact h)
end
theorem xP0: ∀ {ts:List Tie} {ys:List D},ys.length=ts.length->(∀ (i:Nat) (y:D),ys[i]? =some y-> ∃ t t2,ts[i]? =some t/\y=D.str (rowT t2)/\(t2=t\/t2=about t))-> ∃ us:List Tie,ys=us.map (fun t=>D.str (rowT t))/\us.map les=ts.map les/\ ∀ u∈us,∃ t∈ts,u=t\/u=about t
 | [],[],_,_=>⟨[],rfl,rfl,fun u h=>by cases h⟩
 | [],_::_,h,_=>by cases h
 | _::_,[],h,_=>by cases h
 | t::ts,y::ys,h,k=>by
  obtain ⟨us,rfl,e2,e3⟩:=xP0 (ts:=ts) (ys:=ys) (Nat.succ.inj h) fun i y hy=>k (i+1) y hy
  obtain ⟨t0,t2,e4,rfl,e5⟩:=k 0 y rfl
  cases (show some t=some t0 from e4)
  refine ⟨t2::us,rfl,?_,fun u hu=> ?_⟩
  ·rw [yLx,yLx,e2]
   rcases e5 with rfl|rfl
   ·rfl
   ·rw [xJz]
  ·rcases in_cons hu with rfl|hu
   ·exact ⟨t,yK3 ..,e5⟩
   ·obtain ⟨t3,h3,h4⟩:=e3 u hu
    exact ⟨t3,yK7 _ h3,h4⟩
def yKh (w:Nat)(kl:List (Str×Int))(us:List Tie)(j:Nat)(y:D):Prop:=
 (j<1+kl.length->((xCa w kl us).map D.str)[j]? =some y)/\(¬ j<1+kl.length-> ∃ u u2,us[j-(1+kl.length)]? =some u/\y=D.str (rowT u2)/\(u2=u\/u2=about u))
section
variable {w:Nat}{kl:List (Str×Int)}{us:List Tie}{j:Nat}{x:D}
theorem yJ4 (w3:w<=3)(nmk: ∀ q∈kl,Nm q.1/\0<=q.2/\q.2<=9)(h:j<1+kl.length)(hj:((xCa w kl us).map D.str)[j]? =some x): ∃ row y ys,x=D.str row/\Txt.split row " "=y::ys/\y≠"tie"/\PyData.strOk y=true/\row.length<=1000000:=by
 rw [xIy] at hj
 cases j with
 | zero=>
  cases hj
  exact ⟨_,_,_,rfl,xZi w,by decide +kernel,by decide +kernel,yLt (xJs w3).len (by decide)⟩
 | succ j=>
  rw [yMh,yLk (by rw [yK2];omega),yLe] at hj
  obtain ⟨q,hq,rfl⟩:=yK4.mp hj
  obtain ⟨n1,n2,n3⟩:=nmk q (yLf hq)
  exact ⟨_,_,_,rfl,xW6 n1.nx q.2,by decide +kernel,by decide +kernel,yLt (xJv n1.nx n2 n3).len (by decide)⟩
theorem row_t (h: ¬ j<1+kl.length)(hj:((xCa w kl us).map D.str)[j]? =some x): ∃ u,us[j-(1+kl.length)]? =some u/\x=D.str (rowT u):=by
 rw [xIy] at hj
 cases j with
 | zero=>omega
 | succ j=>
  rw [yMh,yL2 (by rw [yK2];omega),yK2,yLe] at hj
  obtain ⟨u,hu,rfl⟩:=yK4.mp hj
  exact ⟨u,by rw [show j+1-(1+kl.length)=j-kl.length by omega];exact hu,rfl⟩
theorem xX4 {ys:List D}(hl:ys.length=((xCa w kl us).map D.str).length)(hP: ∀ i y,ys[i]? =some y->yKh w kl us i y): ∃ us2,ys=(xCa w kl us2).map D.str/\us2.map les=us.map les/\ ∀ u∈us2,∃ v∈us,u=v\/u=about v:=by
 have hl2:ys.length=1+kl.length+us.length:=by
  rw [hl,xIy,yK9,yLn,yK2,yK2]
  omega
 obtain ⟨us2,e1,e2,e3⟩:=xP0 (ts:=us) (ys:=ys.drop (1+kl.length)) (by rw [yL0];omega) fun i y hy=>by
  rw [List.getElem?_drop] at hy
  obtain ⟨u,u2,h1,h2,h3⟩:=(hP _ y hy).2 (by omega)
  rw [Nat.add_sub_cancel_left] at h1
  exact ⟨u,u2,h1,h2,h3⟩
 refine ⟨us2,?_,e2,e3⟩
 have e4:ys.take (1+kl.length)=D.str (rowM w)::(kl.map fun q=>D.str (rowK q.1 q.2)):=by
  refine yMy fun i=> ?_
  by_cases hi:i<1+kl.length
  ·have h1:i<ys.length:=by omega
   have h2:=(hP i ys[i] (yLb h1)).1 hi
   rw [yM2 hi,yLb h1,<- h2,xIy,<- List.cons_append,yLk (by rw [yK9,yK2];omega)]
  ·rw [List.getElem?_eq_none (by rw [yLv];omega),List.getElem?_eq_none (by rw [yK9,yK2];omega)]
 rw [<- yMl (1+kl.length) ys,e4,e1,xIy]
 rfl
end
theorem yI0 {ns:List Int}{d:D}(hd:d= .scr (ns.map D.int)\/d= .lst false (ns.map D.int)):Fw (yG2 [.va d]) (fun r _=>r= .va (.bl true)) NoX:=by
 refine xAt rfl ?_
 refine xAj ?_
 refine xAx (q:=fun f ρ=>f= .nx/\ ∃ d',ρ=[.va d,.ow d',.un,.un,.un,.un,.un,.un,.un,.un]/\Drw 0 d') ?_ ?_
 ·walk_at "own10"
  refine xAf (yAf hd) ?_
  rintro r o ⟨D0,rfl,rfl,k0⟩
  walk_at "own10"
  exact ⟨rfl,D0,rfl,k0⟩
 rintro _ _ ⟨rfl,D0,rfl,k0⟩
 refine xAj ?_
 refine xAx (q:=fun f ρ=>f= .nx/\ ∃ s0 s1 s2 s3 s4 s5 s6 s7 s8 s9,ρ=[s0,s1,s2,s3,s4,s5,s6,s7,s8,s9]) ?_ ?_
 ·walk_at "own10"
  refine ⟨by decide,?_⟩
  refine xD2 (I:=fun i ρ=>i<=3/\ ∃ d' s2 s3 s4 s5 s6 s7 s8,ρ=[.va d,.ow d',s2,s3,s4,s5,s6,s7,s8,.un]/\Drw (500*i) d') ?_ ⟨by omega,D0,.un,.un,.un,.un,.un,.un,.un,rfl,k0⟩ ?_
  ·rintro i e ρ hi ⟨i3,d1,s2,s3,s4,s5,s6,s7,s8,rfl,k1⟩
   obtain ⟨hi2,rfl⟩:=xL4 hi
   have hi2:i<3:=hi2
   refine ⟨_,rfl,?_⟩
   refine xAj ?_
   refine xAx (q:=fun f ρ=>f= .nx/\ ∃ d' w N m ts,MOk w N m ts/\ts.length<=6/\Drw (500*i+250) d'/\ρ=[.va d,.ow d',.va (.int (i:Int)),.va (dM w m false ts),s4,s5,s6,s7,s8,.un]) ?_ ?_
   ·walk_at "own10"
    refine xDb (xB5 k1 (by decide) (szS (by decide)) (by omega)) fun q d2 hq k2=> ?_
    obtain ⟨w,rfl⟩: ∃ w:Nat,q=w:=⟨q.toNat,by omega⟩
    walk_at "own10"
    refine xDb (xB5 k2 (by decide) (szS (by decide)) (by omega)) fun q d3 hq2 k3=> ?_
    walk_at "own10"
    refine xAf (yA0 (by omega) k3 (by omega)) ?_
    rintro r o ⟨L,rfl,⟨hL,hN⟩,d4,rfl,k4⟩
    walk_at "own10"
    refine xAf (xVf (lim:=6) (w:=w) (by decide) (by omega) hN (by omega) (by omega) k4 (by omega)) ?_
    rintro r o ⟨m,ts,rfl,⟨M,t6⟩,d5,rfl,k5⟩
    exact ⟨rfl,d5,w,L,m,ts,M,t6,k5.mono (by omega),rfl⟩
   rintro _ _ ⟨rfl,d2,w,N,m,ts,M,t6,k2,rfl⟩
   obtain ⟨ks,e1,hkl,hka,hkb⟩:=M.knots.keys
   have kl12:=M.klen
   have w3:=M.wl
   refine xAj ?_
   refine xAx (q:=fun f ρ=>f= .nx/\ ∃ d' p,POk w N m ts p/\Drw (500*i+300) d'/\ρ=[.va d,.ow d',.va (.int (i:Int)),.va (dM w m false ts),.va p,s5,s6,s7,s8,.un]) ?_ ?_
   ·walk_at "own10"
    refine xAf (yF1 M k2 (by omega)) ?_
    rintro r o ⟨p,rfl,P,d3,rfl,k3⟩
    exact ⟨rfl,d3,p,P,k3.mono (by omega),rfl⟩
   rintro _ _ ⟨rfl,d3,p,P,k3,rfl⟩
   refine xAj ?_
   refine xAx (q:=fun f ρ=>f= .nx/\ρ=[.va d,.ow d3,.va (.int (i:Int)),.va (dM w m false ts),.va p,.ow (.lst false ((xCa w (klM m ks) ts).map D.str)),s6,s7,s8,.un]) ?_ ?_
   ·walk_at "own10"
    refine xAf (xZx M e1) ?_
    rintro r o ⟨rfl,rfl⟩
    rw [xX8]
    exact ⟨rfl,rfl⟩
   rintro _ _ ⟨rfl,rfl⟩
   have u0: ∀ u∈ts,TOk w N u:=fun u hu=>(M.ties.tie u hu).1
   have l0:ts.map les=ts:=by
    conv=>rhs;rw [<- List.map_id ts]
    exact List.map_congr_left fun t ht=>(M.ties.tie t ht).2
   have K0:KlM w N m ts (klM m ks) ts:=yCw M e1 (yM5.refl _) u0 (by rw [l0])
   obtain ⟨r1,r2⟩:=xM8 w3 K0.klo K0.uso
   have jt:=xOd yBp r1 r2
   refine xAj ?_
   refine xAx (q:=fun f ρ=>f= .nx/\ρ=[.va d,.ow d3,.va (.int (i:Int)),.va (dM w m false ts),.va p,.va (.lst false ((xCa w (klM m ks) ts).map D.str)),s6,s7,s8,.un]) ?_ ?_
   ·refine w_if ?_
    walk_at "own10"
    refine xAf (xXf P M e1) ?_
    rintro r o ⟨rfl,rfl⟩
    walk_at "own10"
    ·refine xAf (xH5 59 (.str _) jt.1.ok) ?_
     rintro r o ⟨rfl,rfl⟩
     walk_at "own10"
     refine xAf (xXf P M e1) ?_
     rintro r o ⟨rfl,rfl⟩
     walk_at "own10"
     refine xAf (xPe M K0) ?_
     rintro r o ⟨p2,rfl,P2,rfl⟩
     obtain ⟨dy,at_,rfl,_⟩:=P.all
     obtain ⟨dy2,at2,rfl,_⟩:=P2.all
     walk_at "own10"
     refine xVh (xAf (yB0 P2 P M.nm u0 u0) ?_)
     rintro r o ⟨y,rfl,hy⟩
     obtain rfl:y=true:=hy.mpr ⟨fun _=>rfl,rfl⟩
     refine ⟨_,rfl,?_⟩
     walk_at "own10"
     exact ⟨rfl,rfl⟩
    ·exact yLt jt.2 (by decide)
   rintro _ _ ⟨rfl,rfl⟩
   refine xAj ?_
   refine xAx (q:=fun f ρ=>f= .nx/\ρ=[.va d,.ow d3,.va (.int (i:Int)),.va (dM w m false ts),.va p,.va (.lst false ((xCa w (klM m ks) ts).map D.str)),.va (.int ((1+m.length:Nat):Int)),s7,s8,.un]) ?_ ?_
   ·walk_at "own10"
    refine ⟨rfl,?_⟩
    rw [show ((1+m.length:Nat):Int)=1+(m.length:Int) by omega]
    rfl
   rintro _ _ ⟨rfl,rfl⟩
   refine xAj ?_
   refine xAx (q:=fun f ρ=>f= .nx/\ ∃ (d':D) (kl:List (Str×Int)) (us:List Tie),kl.Perm (klM m ks)/\us.Perm ts/\Drw (500*i+400) d'/\ρ=[.va d,.ow d',.va (.int (i:Int)),.va (dM w m false ts),.va p,.va (.lst false ((xCa w (klM m ks) ts).map D.str)),.va (.int ((1+m.length:Nat):Int)),.ow (.lst false ((xCa w kl us).map D.str)),s8,.un]) ?_ ?_
   ·have lk:(klM m ks).length=m.length:=by
     unfold klM
     rw [yK2,xA5]
     exact hkl
    walk_at "own10"
    rw [xZq,xVs lk]
    refine xAf (xTq k3 (by omega) (by omega)) ?_
    rintro r o ⟨kl,rfl,pk,d4,rfl,k4⟩
    walk_at "own10"
    ·rw [yBn lk]
     refine xAf (xTq k4 (by omega) (by omega)) ?_
     rintro r o ⟨us,rfl,pu,d5,rfl,k5⟩
     walk_at "own10"
     ·refine ⟨rfl,d5,kl,us,pk,pu,k5.mono (by omega),?_⟩
      rw [xIy (kl:=kl)]
      rfl
     ·have:=pk.length_eq
      have:=pu.length_eq
      rw [yLn,yK2,yK2]
      show 1+_+_<=_
      omega
    ·have:=pk.length_eq
     rw [yK2]
     show 1+_<=_
     omega
   rintro _ _ ⟨rfl,d4,kl,us,pk,pu,k4,rfl⟩
   have lk:kl.length=m.length:=by
    rw [pk.length_eq]
    unfold klM
    rw [yK2,xA5]
    exact hkl
   have lu:us.length<=6:=by
    rw [pu.length_eq]
    exact t6
   have nmk: ∀ q∈kl,Nm q.1/\0<=q.2/\q.2<=9:=fun q hq=>K0.klo.nm q (pk.mem_iff.mp hq)
   refine xAj ?_
   refine xAx (q:=fun f ρ=>f= .nx/\ ∃ (d':D) (s7:SD) (p2:D),POk w N m ts p2/\Drw (500*i+500) d'/\ρ=[.va d,.ow d',.va (.int (i:Int)),.va (dM w m false ts),.va p,.va (.lst false ((xCa w (klM m ks) ts).map D.str)),.va (.int ((1+m.length:Nat):Int)),s7,.va p2,.un]) ?_ ?_
   ·walk_at "own10"
    refine yFe (I:=fun j ρ=> ∃ d',ρ=[.va d,.ow d',.va (.int (i:Int)),.va (dM w m false ts),.va p,.va (.lst false ((xCa w (klM m ks) ts).map D.str)),.va (.int ((1+m.length:Nat):Int)),.va (.lst false ((xCa w kl us).map D.str)),s8,.un]/\Drw (500*i+400+j) d') (P:=yKh w kl us) ?_ ⟨d4,rfl,k4⟩ (by rw [xIy,yK9,yLn,yK2,yK2];omega) ?_
    ·rintro j x ρ hj ⟨d5,rfl,k5⟩
     refine ⟨_,rfl,?_⟩
     have jl:j<1+kl.length+us.length:=by
      have:=(yK5.mp hj).1
      rw [xIy,yK9,yLn,yK2,yK2] at this
      omega
     by_cases h1:j<1+kl.length
     ·obtain ⟨row,y,ys,rfl,es,ny,sy,rl⟩:=yJ4 w3 nmk h1 hj
      walk_at "own10"
      refine xAf (yAk es ny sy rl) ?_
      rintro r o ⟨rfl,rfl⟩
      walk_at "own10"
      exact ⟨⟨fun _=>hj,fun z=>absurd h1 z⟩,d5,rfl,k5.mono (by omega)⟩
     ·obtain ⟨u,hu,rfl⟩:=row_t h1 hj
      walk_at "own10"
      refine xAf (xZy k5 (by omega) (u0 u (pu.mem_iff.mp (yLf hu))) M.nm w3) ?_
      rintro r o ⟨u2,h2,rfl,d6,rfl,k6⟩
      walk_at "own10"
      exact ⟨⟨fun z=>absurd z h1,fun _=>⟨u,u2,hu,rfl,h2⟩⟩,d6,rfl,k6⟩
    ·rintro ys ρ hl hP ⟨d5,rfl,k5⟩
     obtain ⟨us2,rfl,e2,t2⟩:=xX4 hl hP
     have K2:KlM w N m ts kl us2:=yCw M e1 pk (fun u hu=>by
      obtain ⟨v,hv,z⟩:=t2 u hu
      have kv:=u0 v (pu.mem_iff.mp hv)
      rcases z with rfl|rfl
      ·exact kv
      ·exact kv.about) (by
      rw [e2]
      exact (pu.map les).trans (by rw [l0]))
     obtain ⟨q1,q2⟩:=xM8 w3 K2.klo K2.uso
     rw [xIy,yK9,yLn,yK2,yK2] at k5
     walk_at "own10"
     ·refine xAf (xPe M K2) ?_
      rintro r o ⟨p2,rfl,P2,rfl⟩
      exact ⟨rfl,d5,_,p2,P2,k5.mono (by omega),rfl⟩
     ·exact yLt (xOd yBp q1 q2).2 (by decide)
   rintro _ _ ⟨rfl,d5,s7,p2,P2,k5,rfl⟩
   have P3:=P2
   obtain ⟨dy2,at2,rfl,_⟩:=P2.all
   walk_at "own10"
   refine xS9 ?_
   walk_at "own10"
   refine xAf (yD9 P3) ?_
   rintro r o ⟨m2,rfl,h2,rfl⟩
   walk_at "own10"
   refine xAf (xYy h2 M.knots kl12 M.nm u0 w3 (by omega)) ?_
   rintro r o ⟨rfl,rfl⟩
   walk_at "own10"
   exact ⟨by omega,d5,_,_,_,_,_,_,_,rfl,k5.mono (by omega)⟩
  ·rintro ρ ⟨_,d1,s2,s3,s4,s5,s6,s7,s8,rfl,_⟩
   exact ⟨rfl,_,_,_,_,_,_,_,_,_,_,rfl⟩
 rintro _ _ ⟨rfl,s0,s1,s2,s3,s4,s5,s6,s7,s8,s9,rfl⟩
 walk_at "own10"
 rw [row2]
 refine xAf (xZm (w:=2) (kl:=[]) (us:=[]) (by decide) ⟨fun q h=>(by cases h),yLw,yLy _⟩ ⟨fun q h=>(by cases h),yLw,yLy _⟩) ?_
 rintro r o ⟨p,rfl,R,rfl⟩
 walk_at "own10"
 refine xAf (xM2 (xRr (w:=2) (by decide)) (ts':=[]) (fun t h=>by cases h) (yM5.refl _)) ?_
 rintro r o ⟨dy,at_,rfl,h1,h2,h3⟩
 have Q:POk 2 [] [] [] (dPat 2 dy [] at_):=⟨⟨dy,at_,rfl,h1,h2,h3⟩,fun s h=>by cases h⟩
 have P:=R.pok
 obtain ⟨dz,az,rfl,_⟩:=P.all
 refine ⟨_,rfl,?_⟩
 walk_at "own10"
 refine xVh (xAf (yB0 P Q (fun s h=>by cases h) (fun t h=>by cases h) (fun t h=>by cases h)) ?_)
 rintro r o ⟨y,rfl,hy⟩
 obtain rfl:y=true:=hy.mpr ⟨fun _=>rfl,rfl⟩
 exact ⟨_,rfl,rfl⟩
theorem truth:Truth yG2:=fun ns _ _ d hd=>by
 obtain ⟨r,o,e,h⟩:=(yI0 hd).ok
 rw [e,h]
 exact ⟨o,rfl⟩
set_option maxHeartbeats 4000007
structure EvZ where
 w:World
 K:PySem.W.Frag
 mg:Str->Option Value
 base:Heap
abbrev Pg:Program:=PySem.Challenge.rw_farmesh_k53_patterns_written_and_read.prog
abbrev κK (w:World)(K:PySem.W.Frag):Fm.Ctx:=kx w K (xHh K) (yDh K)
abbrev EvZ.κ (E:EvZ):Fm.Ctx:=κK E.w E.K
class Zx (E:EvZ):Prop where
 z: ∃ h,E.K.In h/\h.Ns mainGlobals E.mg/\He.SaysX faZ_ fnZ_ [] tfZ_ exZ_ E.w h E.K
 tb: ∀ p∈tfZ_.map (He.cT E.K),LamX.TabB E.base E.mg p.1 p.2
open Classical in
noncomputable def dxZ (K:PySem.W.Frag) (i:Nat):FuncData:=if e: ∃ fd,∀ d,fnZ_[i]? =some d->L2.FunD K d.name d.qual d.params d.body d.scope (d.dvs K) (d.kws K) (He.fAd K d.at_) fd then choose e else default
theorem yB5 {w:World}{K:PySem.W.Frag}{h:Heap}(c:He.SaysX faZ_ fnZ_ [] tfZ_ exZ_ w h K)(i:Nat){d:He.DefD}(e:fnZ_[i]? =some d):L2.FunD K d.name d.qual d.params d.body d.scope (d.dvs K) (d.kws K) (He.fAd K d.at_) (dxZ K i):=by
 obtain ⟨fd,F⟩:=c.t.d.def_ i e
 have q: ∃ fd,∀ d,fnZ_[i]? =some d->L2.FunD K d.name d.qual d.params d.body d.scope (d.dvs K) (d.kws K) (He.fAd K d.at_) fd:=⟨fd,fun d' e'=>by cases e.symm.trans e';exact F⟩
 unfold dxZ
 rw [dif_pos q]
 exact Classical.choose_spec q d e
def tkZ (mg:Str->Option Value)(x:Str):Tok:=match mg x with
 | some (.int _ t)=>t
 | some (.str _ t)=>t
 | _=>default
section
variable {E:EvZ}[Z:Zx E]
theorem fqZ (i:Nat){d:He.DefD}(e:fnZ_[i]? =some d):L2.FunD E.K d.name d.qual d.params d.body d.scope (d.dvs E.K) (d.kws E.K) (He.fAd E.K d.at_) (dxZ E.K i):=by
 obtain ⟨h,X,G,c⟩:=Z.z
 exact yB5 c i e
theorem faZ (i:Nat){f:He.Fa}(e:faZ_[i]? =some f):f.ok E.K=true:=by
 obtain ⟨h,X,G,c⟩:=Z.z
 exact c.t.d.fact i e
theorem glZ {x:Str}(i:Nat)(e:faZ_[i]? =some (.glo x)):E.mg x=some (.ref (He.ga E.K x)):=by
 have z:=faZ (E:=E) i e
 obtain ⟨h,X,G,c⟩:=Z.z
 exact He.glo_ok X G z
theorem frZ {x:Str}(i:Nat)(e:faZ_[i]? =some (.free x)):E.mg x=none:=by
 have z:=faZ (E:=E) i e
 obtain ⟨h,X,G,c⟩:=Z.z
 exact He.free_ok X G z
theorem giZ {x:Str}{v:Int}(i:Nat)(e:faZ_[i]? =some (.int x v)):E.mg x=some (.int v (tkZ E.mg x)):=by
 have z:=faZ (E:=E) i e
 obtain ⟨h,X,G,c⟩:=Z.z
 obtain ⟨t,q⟩:=He.int_ok X G z
 unfold tkZ
 rw [q]
theorem gsZ {x v:Str}(i:Nat)(e:faZ_[i]? =some (.str x v)):E.mg x=some (.str v (tkZ E.mg x)):=by
 have z:=faZ (E:=E) i e
 obtain ⟨h,X,G,c⟩:=Z.z
 obtain ⟨t,q⟩:=He.str_ok X G z
 unfold tkZ
 rw [q]
abbrev CaZ (E:EvZ)(i:Nat)(x:Str)(k:Nat)(ps:List Str)(f:List SD->FR):Prop:=Callee Pg E.w E.K E.mg E.base E.κ x k ps f (He.fAd E.K (x,none)) (dxZ E.K i)
abbrev MaZ (E:EvZ)(i:Nat)(c:String)(d m:Str)(k:Nat)(ps:List Str)(f:List SD->FR):Prop:=MethD Pg E.w E.K E.mg E.base E.κ c m k ps f (He.fAd E.K (d,some m)) (dxZ E.K i)
abbrev IaZ (E:EvZ)(i:Nat)(c:String)(d:Str)(k n:Nat)(ps:List Str)(f:List D->FR):Prop:=InitD Pg E.w E.K E.mg E.base E.κ c d k n ps f (He.fAd E.K (d,some "__init__")) (dxZ E.K i)
abbrev BdZ (E:EvZ)(i:Nat)(ps:List Str):Prop:=Binds E.K (dxZ E.K i) ps []
abbrev OaZ (E:EvZ)(i:Nat)(a:Str×Option Str)(k:Nat)(ps:List Str)(s:L2.Sp):Prop:=FnOk Pg E.w E.K E.mg E.base (L2.CX Pg E.w) k (He.fAd E.K a) (dxZ E.K i) ps s
theorem mkZ {x:Str}{k:Nat}{ps:List Str}{f:List SD->FR}{t:Stmt}(i j:Nat)(e:faZ_[j]? =some (.glo x))(d:fnZ_[i]? =some (hdN x t))(o:OaZ E i (x,none) k ps (spF E.κ ps.length f)):CaZ E i x k ps f:=⟨o,glZ j e,(fqZ (E:=E) i d).kp⟩
theorem mdZ {x:Str}{k m:Nat}{A:List Nat}{N ps:List Str}{s:Fm.S}{t:Stmt}(i j:Nat)(e:faZ_[j]? =some (.glo x))(d:fnZ_[i]? =some (hdN x t))(Sc:FnScope N ps (defScope t))(hn:N.length=m)
  (b: ∀ (cdv:Value) (Ar:Around) (outer:List Env) (s0:Shared) (H:Hp) (E_:XK),Room k (Ar.deeper (envOfC x (defScope t) s0.heap.objs.size (He.fAd E.K (x,none)) cdv))->
   PSs (cxOf (L2.CX Pg E.w) Pg E.w E.K E.mg E.base N x (defScope t) (He.fAd E.K (x,none)) cdv Ar outer s0 H E_) (defBody t) (tS E.κ A (fun cls d _ H=>E_ cls d H) s)):CaZ E i x (k+1) ps (runN A m s):=mkZ i j e d (dfZ (fqZ (E:=E) i d) Sc hn b)
theorem xJo:E.mg "_law_same"=some (.ref (He.ga E.K "_law_same")):=glZ 23 rfl
theorem xU6:E.mg "all"=none:=frZ 28 rfl
theorem yHn:E.mg "any"=none:=frZ 29 rfl
theorem xSt:E.mg "bool"=none:=frZ 30 rfl
theorem xTr:E.mg "dict"=none:=frZ 31 rfl
theorem xQ9:E.mg "enumerate"=none:=frZ 32 rfl
theorem xU0:E.mg "int"=none:=frZ 33 rfl
theorem xAn:E.mg "isinstance"=none:=frZ 34 rfl
theorem xE7:E.mg "len"=none:=frZ 35 rfl
theorem xR8:E.mg "list"=none:=frZ 36 rfl
theorem yI7:E.mg "min"=none:=frZ 37 rfl
theorem xH6:E.mg "range"=none:=frZ 38 rfl
theorem xDy:E.mg "sorted"=none:=frZ 39 rfl
theorem xN3:E.mg "str"=none:=frZ 40 rfl
theorem xHu:E.mg "tuple"=none:=frZ 41 rfl
theorem yBb:E.mg "BadDye"=some (.ref (He.ga E.K "BadDye")):=glZ 42 rfl
theorem xWf:E.mg "BadName"=some (.ref (He.ga E.K "BadName")):=glZ 43 rfl
theorem xT9:E.mg "BadShift"=some (.ref (He.ga E.K "BadShift")):=glZ 44 rfl
theorem xVe:E.mg "BadText"=some (.ref (He.ga E.K "BadText")):=glZ 45 rfl
theorem xZ1:E.mg "BadTie"=some (.ref (He.ga E.K "BadTie")):=glZ 46 rfl
theorem xX5:E.mg "BadWays"=some (.ref (He.ga E.K "BadWays")):=glZ 47 rfl
theorem g_Far:E.mg "Far"=some (.ref (He.ga E.K "Far")):=glZ 48 rfl
theorem yHh:E.mg "Full"=some (.ref (He.ga E.K "Full")):=glZ 49 rfl
theorem xQ8:E.mg "MeshError"=some (.ref (He.ga E.K "MeshError")):=glZ 50 rfl
theorem xXt:E.mg "Missing"=some (.ref (He.ga E.K "Missing")):=glZ 51 rfl
theorem yBa:E.mg "NoKnot"=some (.ref (He.ga E.K "NoKnot")):=glZ 52 rfl
theorem xKc:E.mg "Pattern"=some (.ref (He.ga E.K "Pattern")):=glZ 53 rfl
theorem yAg:E.mg "Reader"=some (.ref (He.ga E.K "Reader")):=glZ 54 rfl
theorem yFo:E.mg "Twice"=some (.ref (He.ga E.K "Twice")):=glZ 55 rfl
theorem xcZ:(yF0 E.K).all id=true:=by
 obtain ⟨h,X,G,c⟩:=Z.z
 exact c.more
theorem xaZ {b:Bool}(i:Nat)(e:(yF0 E.K)[i]? =some b):b=true:=yLu.mp xcZ b (yLf e)
theorem xLw:E.mg "FARTHEST"=some (.int 1000000 (tkZ E.mg "FARTHEST")):=giZ 56 rfl
theorem xXc:E.mg "FIGURES"=some (.str "0123456789" (tkZ E.mg "FIGURES")):=gsZ 57 rfl
theorem xY4:E.mg "LETTERS"=some (.str "abcdefghijklmnopqrstuvwxyz" (tkZ E.mg "LETTERS")):=gsZ 58 rfl
theorem xW8:E.mg "LONGEST"=some (.int 8 (tkZ E.mg "LONGEST")):=giZ 59 rfl
theorem xUy:E.mg "MOST_DYE"=some (.int 9 (tkZ E.mg "MOST_DYE")):=giZ 60 rfl
theorem xPf:E.mg "MOST_KNOTS"=some (.int 12 (tkZ E.mg "MOST_KNOTS")):=giZ 61 rfl
theorem xRo:E.mg "MOST_TIES"=some (.int 24 (tkZ E.mg "MOST_TIES")):=giZ 62 rfl
theorem xRg:E.mg "MOST_WAYS"=some (.int 3 (tkZ E.mg "MOST_WAYS")):=giZ 63 rfl
theorem xAd:L2.Cls E.K (xHh E.K "Pattern"):=He.cls_ok (faZ 64 (f:= .cls "Pattern") rfl)
theorem xBg:L2.Cls E.K (xHh E.K "Reader"):=He.cls_ok (faZ 65 (f:= .cls "Reader") rfl)
theorem xGm:L2.NoAttr E.K (xHh E.K "Pattern") "at":=He.noat_ok (faZ 66 (f:= .noat "Pattern" "at") rfl)
theorem xAm:L2.NoAttr E.K (xHh E.K "Pattern") "bonds":=He.noat_ok (faZ 67 (f:= .noat "Pattern" "bonds") rfl)
theorem xBd:L2.NoAttr E.K (xHh E.K "Pattern") "dyes":=He.noat_ok (faZ 68 (f:= .noat "Pattern" "dyes") rfl)
theorem xBq:L2.NoAttr E.K (xHh E.K "Pattern") "ways":=He.noat_ok (faZ 69 (f:= .noat "Pattern" "ways") rfl)
theorem xCn:L2.NoAttr E.K (xHh E.K "Reader") "bonds":=He.noat_ok (faZ 70 (f:= .noat "Reader" "bonds") rfl)
theorem xCq:L2.NoAttr E.K (xHh E.K "Reader") "knots":=He.noat_ok (faZ 71 (f:= .noat "Reader" "knots") rfl)
theorem xDf:L2.NoAttr E.K (xHh E.K "Reader") "so_far":=He.noat_ok (faZ 72 (f:= .noat "Reader" "so_far") rfl)
theorem xF1:L2.NoAttr E.K (xHh E.K "Reader") "ways":=He.noat_ok (faZ 73 (f:= .noat "Reader" "ways") rfl)
theorem xF9:InsF E.K (xHh E.K "Pattern"):=yFz (xaZ 12 rfl)
theorem xUr:PySem.W.findIn E.K (.ref (xHh E.K "Pattern")) "__ne__"=some (some (.builtin "object.__ne__")):=of_decide_eq_true (xaZ 13 rfl)
theorem xE3:BdZ E 0 ["self","other"]:=L2.FunD.bindsN (fqZ 0 rfl) (by walk_at "b2")
theorem xWj:BdZ E 1 ["text"]:=L2.FunD.bindsN (fqZ 1 rfl) (by walk_at "b1")
theorem xQ3:BdZ E 2 ["name"]:=L2.FunD.bindsN (fqZ 2 rfl) (by walk_at "b1")
theorem xT3:BdZ E 3 ["dye"]:=L2.FunD.bindsN (fqZ 3 rfl) (by walk_at "b1")
theorem xSr:BdZ E 4 ["shift"]:=L2.FunD.bindsN (fqZ 4 rfl) (by walk_at "b1")
theorem xLa:BdZ E 5 ["self","name"]:=L2.FunD.bindsN (fqZ 5 rfl) (by walk_at "b2")
theorem xSl:BdZ E 6 ["tie"]:=L2.FunD.bindsN (fqZ 6 rfl) (by walk_at "b1")
theorem xEe:BdZ E 7 ["self","name"]:=L2.FunD.bindsN (fqZ 7 rfl) (by walk_at "b2")
theorem xFt:BdZ E 8 ["self","shift"]:=L2.FunD.bindsN (fqZ 8 rfl) (by walk_at "b2")
theorem xHq:BdZ E 9 ["self","tie"]:=L2.FunD.bindsN (fqZ 9 rfl) (by walk_at "b2")
theorem xDu:BdZ E 10 ["self"]:=L2.FunD.bindsN (fqZ 10 rfl) (by walk_at "b1")
theorem xCp:BdZ E 11 ["self","ways","knots","ties"]:=L2.FunD.bindsN (fqZ 11 rfl) (by walk_at "b4")
theorem xKu:BdZ E 12 ["self"]:=L2.FunD.bindsN (fqZ 12 rfl) (by walk_at "b1")
theorem xHk:BdZ E 13 ["self"]:=L2.FunD.bindsN (fqZ 13 rfl) (by walk_at "b1")
theorem yDp:BdZ E 14 ["pattern"]:=L2.FunD.bindsN (fqZ 14 rfl) (by walk_at "b1")
theorem xDh:yDi E.K (dxZ E.K 15) ["word","figures"] [V.int 7]:=L2.FunD.binds0 (fqZ 15 rfl) 1 (by simp [He.DefD.kws,xIt]) rfl fun _ _ _ _ _ _ us ks h1 h2=>match us,ks,h1,h2 with|[_],[_],_,_=>⟨_,_,_,_,_,_,rfl,rfl,rfl⟩
theorem xYu:BdZ E 16 ["ways","knots","ties","at"]:=L2.FunD.bindsN (fqZ 16 rfl) (by walk_at "b4")
theorem xHx:BdZ E 17 ["self","row","at"]:=L2.FunD.bindsN (fqZ 17 rfl) (by walk_at "b3")
theorem xN6:BdZ E 18 ["words"]:=L2.FunD.bindsN (fqZ 18 rfl) (by walk_at "b1")
theorem yBi:BdZ E 19 ["words"]:=L2.FunD.bindsN (fqZ 19 rfl) (by walk_at "b1")
theorem xYw:BdZ E 20 ["words"]:=L2.FunD.bindsN (fqZ 20 rfl) (by walk_at "b1")
theorem xL8:BdZ E 21 ["self","row","at"]:=L2.FunD.bindsN (fqZ 21 rfl) (by walk_at "b3")
theorem xWd:BdZ E 22 ["text"]:=L2.FunD.bindsN (fqZ 22 rfl) (by walk_at "b1")
theorem xAu:BdZ E 23 ["_law_draw","_law_many"]:=L2.FunD.bindsN (fqZ 23 rfl) (by walk_at "b2")
theorem xNt:BdZ E 24 ["_law_script"]:=L2.FunD.bindsN (fqZ 24 rfl) (by walk_at "b1")
theorem xG8:BdZ E 25 ["_law_shift"]:=L2.FunD.bindsN (fqZ 25 rfl) (by walk_at "b1")
theorem xHc:BdZ E 26 ["_law_tie"]:=L2.FunD.bindsN (fqZ 26 rfl) (by walk_at "b1")
theorem xT7:BdZ E 27 ["_law_ties","_law_tie"]:=L2.FunD.bindsN (fqZ 27 rfl) (by walk_at "b2")
theorem xH4:BdZ E 28 ["_law_draw","_law_some"]:=L2.FunD.bindsN (fqZ 28 rfl) (by walk_at "b2")
theorem xLb:BdZ E 29 ["_law_draw","_law_ways","_law_limit"]:=L2.FunD.bindsN (fqZ 29 rfl) (by walk_at "b3")
theorem xOo:BdZ E 30 ["_law_draw","_law_ways","_law_names_here","_law_limit"]:=L2.FunD.bindsN (fqZ 30 rfl) (by walk_at "b4")
theorem xOx:BdZ E 31 ["_law_draw","_law_many"]:=L2.FunD.bindsN (fqZ 31 rfl) (by walk_at "b2")
theorem xQy:BdZ E 32 ["_law_draw","_law_mesh"]:=L2.FunD.bindsN (fqZ 32 rfl) (by walk_at "b2")
theorem xRb:BdZ E 33 ["_law_mesh"]:=L2.FunD.bindsN (fqZ 33 rfl) (by walk_at "b1")
theorem xEz:BdZ E 34 ["_law_found","_law_due"]:=L2.FunD.bindsN (fqZ 34 rfl) (by walk_at "b2")
theorem xMe:BdZ E 35 ["self","name"]:=L2.FunD.bindsN (fqZ 35 rfl) (by walk_at "b2")
theorem xK4:BdZ E 36 ["self"]:=L2.FunD.bindsN (fqZ 36 rfl) (by walk_at "b1")
theorem xQz:BdZ E 37 ["_law_pattern"]:=L2.FunD.bindsN (fqZ 37 rfl) (by walk_at "b1")
theorem xHt:BdZ E 38 ["_law_draw","_law_row"]:=L2.FunD.bindsN (fqZ 38 rfl) (by walk_at "b2")
theorem xIp:BdZ E 39 ["_law_draw","_law_rows_here"]:=L2.FunD.bindsN (fqZ 39 rfl) (by walk_at "b2")
theorem xZ4:ExC Pg E.w E.K E.mg E.base E.κ "BadDye" "BadDye" "called" "baddye" (He.fAd E.K ("BadDye",some "__init__")) (dxZ E.K 41):=xFn (κ:=E.κ) (c:="BadDye") (xaZ 0 rfl) yBb (Fm.init_ok (fqZ 41 rfl) xQb) (L2.FunD.bindsN (fqZ 41 rfl) (by walk_at "b1"))
theorem xWw:ExC Pg E.w E.K E.mg E.base E.κ "BadName" "BadName" "called" "badname" (He.fAd E.K ("BadName",some "__init__")) (dxZ E.K 42):=xFn (κ:=E.κ) (c:="BadName") (xaZ 1 rfl) xWf (Fm.init_ok (fqZ 42 rfl) xO4) (L2.FunD.bindsN (fqZ 42 rfl) (by walk_at "b1"))
theorem xUx:ExC Pg E.w E.K E.mg E.base E.κ "BadShift" "BadShift" "called" "badshift" (He.fAd E.K ("BadShift",some "__init__")) (dxZ E.K 43):=xFn (κ:=E.κ) (c:="BadShift") (xaZ 2 rfl) xT9 (Fm.init_ok (fqZ 43 rfl) xNj) (L2.FunD.bindsN (fqZ 43 rfl) (by walk_at "b1"))
theorem xKr:ExC2 Pg E.w E.K E.mg E.base E.κ "BadText" "BadText" "called" "badtext" "row" "row" (He.fAd E.K ("BadText",some "__init__")) (dxZ E.K 44):=yA8 (κ:=E.κ) (c:="BadText") (xaZ 3 rfl) (of_decide_eq_true (xaZ 10 rfl)) xVe (Fm.init2_ok (fqZ 44 rfl) xP7) (L2.FunD.bindsN (fqZ 44 rfl) (by walk_at "b2"))
theorem yAa:ExC Pg E.w E.K E.mg E.base E.κ "BadTie" "BadTie" "called" "badtie" (He.fAd E.K ("BadTie",some "__init__")) (dxZ E.K 45):=xFn (κ:=E.κ) (c:="BadTie") (xaZ 4 rfl) xZ1 (Fm.init_ok (fqZ 45 rfl) xQx) (L2.FunD.bindsN (fqZ 45 rfl) (by walk_at "b1"))
theorem xV2:ExC Pg E.w E.K E.mg E.base E.κ "BadWays" "BadWays" "called" "badways" (He.fAd E.K ("BadWays",some "__init__")) (dxZ E.K 46):=xFn (κ:=E.κ) (c:="BadWays") (xaZ 5 rfl) xX5 (Fm.init_ok (fqZ 46 rfl) xO0) (L2.FunD.bindsN (fqZ 46 rfl) (by walk_at "b1"))
theorem X_Far:ExC Pg E.w E.K E.mg E.base E.κ "Far" "Far" "called" "far" (He.fAd E.K ("Far",some "__init__")) (dxZ E.K 47):=xFn (κ:=E.κ) (c:="Far") (xaZ 6 rfl) g_Far (Fm.init_ok (fqZ 47 rfl) yAx) (L2.FunD.bindsN (fqZ 47 rfl) (by walk_at "b1"))
theorem yDj:ExC Pg E.w E.K E.mg E.base E.κ "Full" "Full" "called" "full" (He.fAd E.K ("Full",some "__init__")) (dxZ E.K 48):=xFn (κ:=E.κ) (c:="Full") (xaZ 7 rfl) yHh (Fm.init_ok (fqZ 48 rfl) xWp) (L2.FunD.bindsN (fqZ 48 rfl) (by walk_at "b1"))
theorem yA6:ExK2 Pg E.w E.K E.mg E.base E.κ "NoKnot" "NoKnot" "called" "noknot" "name" "name" (He.fAd E.K ("NoKnot",some "__init__")) (dxZ E.K 49):=yG4 (κ:=E.κ) (c:="NoKnot") (xaZ 8 rfl) (of_decide_eq_true (xaZ 11 rfl)) yBa (Fm.initK_ok (fqZ 49 rfl) xQn) (L2.FunD.bindsN (fqZ 49 rfl) (by walk_at "b2"))
theorem yEj:ExC Pg E.w E.K E.mg E.base E.κ "Twice" "Twice" "called" "twice" (He.fAd E.K ("Twice",some "__init__")) (dxZ E.K 50):=xFn (κ:=E.κ) (c:="Twice") (xaZ 9 rfl) yFo (Fm.init_ok (fqZ 50 rfl) xUa) (L2.FunD.bindsN (fqZ 50 rfl) (by walk_at "b1"))
theorem xCe:MaZ E 0 "Pattern" "Pattern" "__eq__" 1 ["self","other"] xCd:=⟨dfZ (fqZ 0 rfl) xHy rfl fun _ _ _ _ _ _ hr=>by
  exact (xAi (s_if (PW.pt (w_or (xPu (xIb (yJo rfl xAd xF9 rfl xAn (by decide +kernel) rfl xKc (vZ 1)))) (xFv (xBs (op_neD hr.units) xK1 (xC5 rfl xAd xBq (vZ 0)) (xC5 rfl xAd xBq (vZ 1)) (nomark _))))) (xAo (xBh e_bl)) xCt) (xAo (xBh (xNu (xH3 (yIv (yH0 hr)) yI3 (xC5 rfl xAd xBd (vZ 0)) (xC5 rfl xAd xBd (vZ 1)) (nomark _)) (xT2 (xH3 (op_eqD hr.units) xE4 (xC5 rfl xAd xAm (vZ 0)) (xC5 rfl xAd xAm (vZ 1)) (nomark _))))))),xAd,He.meth_ok (faZ 74 (f:= .meth "Pattern" "__eq__") rfl)⟩
theorem xV7:CaZ E 1 "is_name" 1 ["text"] xKq:=mdZ 1 0 rfl rfl xHv rfl fun _ _ _ _ _ _ hr=>by
  exact (xAo (xBh (xNu (xXw op_lt xX2 op_le xOv xAe (cbZ xBb xBx xE7 (xAa (vZ 0) xAh)) (xHe (v:= .int 8) rfl xW8 ⟨_,rfl⟩ (fun _ _=>rfl))) (xT2 (xB4 (cr_all rfl) xSg rfl xU6 (by decide +kernel) (xAa (e_lc (A:=[]) (own:=[("sign",1)]) rfl xHv.nd (xDc rfl (vZ 0)) (blkOk_by (by kernel_rfl)) (fun _ _ _ _ _=>(gnZ xHv.nd 1)) (fun _ _ _ _ _=>xDa) (fun _ _ _ _ _=>(xH3 (xSd (xA4 hr)) xTu (vZ 1) (xHe (v:= .str "abcdefghijklmnopqrstuvwxyz") rfl xY4 ⟨_,rfl⟩ (fun _ _=>rfl)) rfl))) xAh))))))
theorem xRs:CaZ E 2 "need_name" 3 ["name"] xGe:=mdZ 2 1 rfl rfl xOk rfl fun _ _ _ _ _ _ hr=>by
  exact (xAo (s_if (xPu (xIb (ccZ xV7 xWj hr (xAr (vZ 0) xAl) al1))) (xAo (xE1 xWw rfl (takes_of rfl rfl rfl rfl) (hr.mono (show 2<=2 from by decide)) passL rfl)) xCt))
theorem xUj:CaZ E 3 "need_dye" 3 ["dye"] xHs:=mdZ 3 2 rfl rfl xRe rfl fun _ _ _ _ _ _ hr=>by
  exact (xAo (s_if (xPu (xRj op_le xOv op_le xOv xAe (vZ 0) (xHe (v:= .int 9) rfl xUy ⟨_,rfl⟩ (fun _ _=>rfl)))) (xAo (xE1 xZ4 rfl (takes_of rfl rfl rfl rfl) (hr.mono (show 2<=2 from by decide)) passL rfl)) xCt))
theorem xSj:CaZ E 4 "turned" 1 ["shift"] xJe:=mdZ 4 3 rfl rfl xJj rfl fun _ _ _ _ _ _ hr=>by
  exact (xAo (xBh (ctZ call_tuple_of xSo xHu (xAa (e_lc (A:=[]) (own:=[("number",1)]) rfl xJj.nd (xDc rfl (vZ 0)) (blkOk_by (by kernel_rfl)) (fun _ _ _ _ _=>(gnZ xJj.nd 1)) (fun _ _ _ _ _=>xDa) (fun _ _ _ _ _=>(e_op op_sub xN4 xAe (vZ 1)))) xAh))))
theorem xLh:MaZ E 5 "Pattern" "Pattern" "ends" 2 ["self","name"] xEb:=⟨dfZ (fqZ 5 rfl) xA6 rfl fun _ _ _ _ _ _ hr=>by
  exact (xAi (xRn (A:=[]) (own:=[("u",3),("v",4),("shift",5)]) (i:=2) rfl xA6.nd rfl rfl rfl (xDc rfl (xC5 rfl xAd xAm (vZ 0))) (blkOk_by (by kernel_rfl)) (fun _ _ _ _ _=>(xT4 (n:=3) rfl rfl (xBi (gnZ xA6.nd 3) (xBi (gnZ xA6.nd 4) (xBi (gnZ xA6.nd 5) xIe))))) (fun _ _ _ _ _=>(yDn (xBs (op_eqD hr.units) xE4 (vZ 3) (vZ 1) (nomark _)))) (fun _ _ _ _ _=>(xE6 (xAa (vZ 4) (xAa (vZ 5) xAh))))) (xAo (xBh (e_op xA8 xA7 (vZ 2) (e_lc (A:=[]) (own:=[("u",3),("v",4),("shift",5)]) rfl xA6.nd (xDc rfl (xC5 rfl xAd xAm (vZ 0))) (blkOk_by (by kernel_rfl)) (fun _ _ _ _ _=>(xT4 (n:=3) rfl rfl (xBi (gnZ xA6.nd 3) (xBi (gnZ xA6.nd 4) (xBi (gnZ xA6.nd 5) xIe))))) (fun _ _ _ _ _=>(yDn (xBs (op_eqD hr.units) xE4 (vZ 4) (vZ 1) (nomark _)))) (fun _ _ _ _ _=>(xE6 (xAa (vZ 3) (xAa (ccZ xSj xSr hr (xAr (vZ 5) xAl) al1) xAh))))))))),xAd,He.meth_ok (faZ 75 (f:= .meth "Pattern" "ends") rfl)⟩
theorem xTf:CaZ E 6 "lesser" 2 ["tie"] xI4:=mdZ 6 4 rfl rfl xG4 rfl fun _ _ _ _ _ _ hr=>by
  exact (xAi (yHa (vs:=[1,2,3]) (vZ 0) (xT4 (n:=3) rfl rfl (xBi (gnZ xG4.nd 1) (xBi (gnZ xG4.nd 2) (xBi (gnZ xG4.nd 3) xIe))))) (xAo (xBh (xB4 (xS5 rfl rfl (xA4 hr)) xTx rfl yI7 (by decide +kernel) (xAa (xE6 (xAa (vZ 1) (xAa (vZ 2) (xAa (vZ 3) xAh)))) (xAa (xE6 (xAa (vZ 2) (xAa (vZ 1) (xAa (ccZ xSj xSr hr (xAr (vZ 3) xAl) al1) xAh)))) xAh))))))
theorem xEd:MaZ E 7 "Pattern" "Pattern" "need" 3 ["self","name"] xCb:=⟨dfZ (fqZ 7 rfl) xJi rfl fun _ _ _ _ _ _ hr=>by
  exact (xAo (s_if (xBs (xYp (xA4 hr)) xVr (vZ 1) (xC5 rfl xAd xBd (vZ 0)) rfl) (xAo (yBq yA6 rfl (takes_of rfl rfl rfl rfl) (hr.mono (show 2<=2 from by decide)) passL rfl (vZ 1))) xCt)),xAd,He.meth_ok (faZ 76 (f:= .meth "Pattern" "need") rfl)⟩
theorem xFw:MaZ E 8 "Pattern" "Pattern" "need_shift" 3 ["self","shift"] xB9:=⟨dfZ (fqZ 8 rfl) xFj rfl fun _ _ _ _ _ _ hr=>by
  exact (xAo (s_if (xBs (op_neD hr.units) xK1 (cbZ xBb xBx xE7 (xAa (vZ 1) xAh)) (xC5 rfl xAd xBq (vZ 0)) (nomark _)) (xAo (xE1 xUx rfl (takes_of rfl rfl rfl rfl) (hr.mono (show 2<=2 from by decide)) passL rfl)) xCt)),xAd,He.meth_ok (faZ 77 (f:= .meth "Pattern" "need_shift") rfl)⟩
theorem xH8:MaZ E 9 "Pattern" "Pattern" "fitting" 4 ["self","tie"] xC1:=⟨dfZ (fqZ 9 rfl) xBo rfl fun _ _ _ _ _ _ hr=>by
  exact (xAi (xFk (xGd xEd xEe hr (show 3<=3 from by decide) (xA9 (takes_of rfl rfl rfl rfl)) (vZ 0) (xAa (suZ hr 1 xAe) xAh) (xA1 xCc) rfl)) (xAi (xFk (xGd xEd xEe hr (show 3<=3 from by decide) (xA9 (takes_of rfl rfl rfl rfl)) (vZ 0) (xAa (suZ hr 1 xAe) xAh) (xA1 xCc) rfl)) (xAi (xFk (xGd xFw xFt hr (show 3<=3 from by decide) (xA9 (takes_of rfl rfl rfl rfl)) (vZ 0) (xAa (suZ hr 1 xAe) xAh) (xA1 xCc) rfl)) (xAi (s_if (xIb (xB4 (cr_any rfl) yCc rfl yHn (by decide +kernel) (xAa (e_lc (A:=[]) (own:=[("number",2)]) rfl xBo.nd (xDc rfl (suZ hr 1 xAe)) (blkOk_by (by kernel_rfl)) (fun _ _ _ _ _=>(gnZ xBo.nd 2)) (fun _ _ _ _ _=>xDa) (fun _ _ _ _ _=>(e_not (xXw op_le xOv op_le xOv (e_op op_sub xN4 xAe (xHe (v:= .int 1000000) rfl xLw ⟨_,rfl⟩ (fun _ _=>rfl))) (vZ 2) (xHe (v:= .int 1000000) rfl xLw ⟨_,rfl⟩ (fun _ _=>rfl)))))) xAh))) (xAo (xE1 X_Far rfl (takes_of rfl rfl rfl rfl) (hr.mono (show 2<=3 from by decide)) passL rfl)) xCt) (xAi (s_if (PW.pt (xX6 (xBs (op_eqD hr.units) xE4 (suZ hr 1 xAe) (suZ hr 1 xAe) (nomark _)) (xFv (xIb (xB4 (cr_all rfl) xSg rfl xU6 (by decide +kernel) (xAa (e_lc (A:=[]) (own:=[("number",2)]) rfl xBo.nd (xDc rfl (suZ hr 1 xAe)) (blkOk_by (by kernel_rfl)) (fun _ _ _ _ _=>(gnZ xBo.nd 2)) (fun _ _ _ _ _=>xDa) (fun _ _ _ _ _=>(xH3 (op_eqD hr.units) xE4 (vZ 2) xAe (nomark _)))) xAh)))))) (xAo (xE1 yAa rfl (takes_of rfl rfl rfl rfl) (hr.mono (show 2<=3 from by decide)) passL rfl)) xCt) (xAi (s_if (xBs (xSd (xA4 hr)) xTu (ccZ xTf xSl hr (xAr (vZ 1) xAl) al1) (xC5 rfl xAd xAm (vZ 0)) rfl) (xAo (xE1 yEj rfl (takes_of rfl rfl rfl rfl) (hr.mono (show 2<=3 from by decide)) passL rfl)) xCt) (xAo (xBh (ccZ xTf xSl hr (xAr (vZ 1) xAl) al1))))))))),xAd,He.meth_ok (faZ 78 (f:= .meth "Pattern" "fitting") rfl)⟩
theorem xDp:MaZ E 10 "Pattern" "Pattern" "names" 1 ["self"] xBr:=⟨dfZ (fqZ 10 rfl) xIz rfl fun _ _ _ _ _ _ hr=>by
  exact (xAo (xBh (xB4 (xD3 rfl rfl (xA4 hr)) xD6 rfl xDy (by decide +kernel) (xAa (xC5 rfl xAd xBd (vZ 0)) xAh)))),xAd,He.meth_ok (faZ 79 (f:= .meth "Pattern" "names") rfl)⟩
theorem xCm:IaZ E 11 "Pattern" "Pattern" 5 3 ["self","ways","knots","ties"] xBf:=⟨yBh (k:=4) (N:=["self","ways","knots","ties","name","tie"]) (fqZ 11 rfl) xBt rfl fun cdv Ar outer s0 H E_ hr=>by
  exact (xB0 (o_op (s_if (xPu (xRj op_le xOv op_le xOv xAe (vZ 1) (xHe (v:= .int 3) rfl xRg ⟨_,rfl⟩ (fun _ _=>rfl)))) (xAo (xE1 xV2 rfl (takes_of rfl rfl rfl rfl) (hr.mono (show 2<=4 from by decide)) passL rfl)) xCt)) (xB0 (xLf rfl xAd xBq (pv 0) (xK2 (vZ 1))) (xB0 (xLf rfl xAd xBd (pv 0) (xK2 xJ5)) (xB0 (yAd (vs:=[4]) (passes_of rfl) rfl (yGo (xDc rfl (xB4 (xD3 rfl rfl (xA4 hr)) xD6 rfl xDy (by decide +kernel) (xAa (vZ 2) xAh)))) (gnZ xBt.nd 4) (xB0 (o_op (xFk (ccZ xRs xQ3 hr (xAr (vZ 4) xAl) al1))) (xB0 (o_op (xFk (ccZ xUj xT3 hr (xAr (suZ hr 2 (vZ 4)) xAl) al1))) (xJ1 (yFs rfl (xA4 hr) xAd xBd (pv 0) (vZ 4) (xK2 (suZ hr 2 (vZ 4)))))))) (xB0 (o_op (s_if (xBs op_gt yFx (cbZ xBb xBx xE7 (xAa (vZ 2) xAh)) (xHe (v:= .int 12) rfl xPf ⟨_,rfl⟩ (fun _ _=>rfl)) (nomark _)) (xAo (xE1 yDj rfl (takes_of rfl rfl rfl rfl) (hr.mono (show 2<=4 from by decide)) passL rfl)) xCt)) (xB0 (xLf rfl xAd xAm (pv 0) (xK2 (xFx xAh))) (xB0 (yAd (vs:=[5]) (passes_of rfl) rfl (yGo (xDc rfl (vZ 3))) (gnZ xBt.nd 5) (xJ1 (xIn 3 (xIn 2 (yHj rfl xAd xAm (pv 0) (xAa (xGd xH8 xHq hr (show 4<=4 from by decide) (xA9 (takes_of rfl rfl rfl rfl)) (vZ 0) (xAa (vZ 5) xAh) (xA1 xCc) rfl) xAh)))))) (xB0 (xIn 3 (xIn 2 (o_if (yJf (xBs op_gt yFx (cbZ xBb xBx xE7 (xAa (xC5 rfl xAd xAm (vZ 0)) xAh)) (xHe (v:= .int 24) rfl xRo ⟨_,rfl⟩ (fun _ _=>rfl)) (nomark _))) (xJ1 (o_op (xE1 yDj rfl (takes_of rfl rfl rfl rfl) (hr.mono (show 2<=4 from by decide)) passL rfl))) yHs))) (xB0 (xIn 3 (xIn 2 (xLf rfl xAd xAm (pv 0) (yEe (xB4 (xD3 rfl rfl (xA4 hr)) xD6 rfl xDy (by decide +kernel) (xAa (xC5 rfl xAd xAm (vZ 0)) xAh)))))) (xB0 (xLf rfl xAd xGm (pv 0) (xK2 xJ5)) (xJ1 (xIn 3 (xIn 2 (yAd (vs:=[4]) (passes_of rfl) rfl (yKc rfl (xKb xDp xDu hr (show 1<=4 from by decide) (xA9 (takes_of rfl rfl rfl rfl)) (vZ 0) rfl)) (gnZ xBt.nd 4) (xJ1 (yFs rfl (xA4 hr) xAd xGm (pv 0) (vZ 4) (yEe (xB4 (xD3 rfl rfl (xA4 hr)) xD6 rfl xDy (by decide +kernel) (xAa (xGd xLh xLa hr (show 2<=4 from by decide) (xA9 (takes_of rfl rfl rfl rfl)) (vZ 0) (xAa (vZ 4) xAh) (xA1 xCc) rfl) xAh))))))))))))))))))),xKc,He.mkr_ok (faZ 85 (f:= .mkr "Pattern") rfl)⟩
theorem xK5:MaZ E 12 "Pattern" "Pattern" "rows" 2 ["self"] xEc:=⟨dfZ (fqZ 12 rfl) xBe rfl fun _ _ _ _ _ _ hr=>by
  exact (xAi (stZ xBe.nd 1 (xFx (xAa (e_js (.c pe_str (.m (xC5 rfl xAd xBq (vZ 0)) .nil))) xAh))) (xAi (xKw (vs:=[2]) (passes_of rfl) rfl (xDc rfl (xKb xDp xDu hr (show 1<=1 from by decide) (xA9 (takes_of rfl rfl rfl rfl)) (vZ 0) rfl)) (gnZ xBe.nd 2) (xAo (xFk (yAc rfl (pv 1) (xAa (e_js (.c pe_str (.m (vZ 2) (.c pe_str (.m (xP6 rfl (xA4 hr) (xC5 rfl xAd xBd (vZ 0)) (vZ 2) (fun _ _=>rfl)) .nil))))) xAh))))) (xAi (xKw (vs:=[3,4,5]) (passes_of rfl) rfl (xDc rfl (xC5 rfl xAd xAm (vZ 0))) (xT4 (n:=3) rfl rfl (xBi (gnZ xBe.nd 3) (xBi (gnZ xBe.nd 4) (xBi (gnZ xBe.nd 5) xIe)))) (xAo (xFk (yAc rfl (pv 1) (xAa (xKh rfl xCy (e_op xA8 xA7 (xFx (xAa xCy (xAa (vZ 3) (xAa (vZ 4) xAh)))) (e_lc (A:=[]) (own:=[("number",6)]) rfl xBe.nd (xDc rfl (vZ 5)) (blkOk_by (by kernel_rfl)) (fun _ _ _ _ _=>(gnZ xBe.nd 6)) (fun _ _ _ _ _=>xDa) (fun _ _ _ _ _=>(ctZ call_str_int xN0 xN3 (xAa (vZ 6) xAh)))))) xAh))))) (xAo (xBh (xQc (pv 1))))))),xAd,He.meth_ok (faZ 80 (f:= .meth "Pattern" "rows") rfl)⟩
theorem xEn:MaZ E 13 "Pattern" "Pattern" "__str__" 3 ["self"] xCz:=⟨dfZ (fqZ 13 rfl) xHa rfl fun _ _ _ _ _ _ hr=>by
  exact (xAo (xBh (xKh rfl xCy (xKb xK5 xKu hr (show 2<=2 from by decide) (xA9 (takes_of rfl rfl rfl rfl)) (vZ 0) rfl)))),xAd,He.meth_ok (faZ 81 (f:= .meth "Pattern" "__str__") rfl)⟩
theorem yCe:CaZ E 14 "text" 6 ["pattern"] xTj:=mdZ 14 5 rfl rfl yEh rfl fun _ _ _ _ _ _ hr=>by
  exact (xAo (xBh (xMi (xU4 xEn.ok xEn.at_ xHk passL (hr.mono (show 3+2<=5 from by decide))) (yGg rfl) rfl xN3 (by decide +kernel) (xAa (vZ 0) xAh))))
theorem xEx:CaZ E 15 "number_in" 1 ["word","figures"] xCg:=⟨xMj (k:=0) (A:=[]) (N:=["word","figures","bare","sign"]) (fqZ 15 rfl) xD0 fun cdv Ar outer s0 H E_ hr=>by
  exact (xAi (stZ xD0.nd 2 (yG0 (xBs (op_eqD hr.units) xE4 (xDe rfl (vZ 0) xFb (xEr xAe)) xCy (nomark _)) (xDe rfl (vZ 0) (xEr xAe) xFb) (vZ 0))) (xAi (s_if (PW.pt (w_or (xPu (xRj op_lt xX2 op_le xOv xAe (cbZ xBb xBx xE7 (xAa (vZ 2) xAh)) (vZ 1))) (xFv (xIb (xB4 (cr_any rfl) yCc rfl yHn (by decide +kernel) (xAa (e_lc (A:=[]) (own:=[("sign",3)]) rfl xD0.nd (xDc rfl (vZ 2)) (blkOk_by (by kernel_rfl)) (fun _ _ _ _ _=>(gnZ xD0.nd 3)) (fun _ _ _ _ _=>xDa) (fun _ _ _ _ _=>(xH3 (xYp (xA4 hr)) xVr (vZ 3) (xHe (v:= .str "0123456789") rfl xXc ⟨_,rfl⟩ (fun _ _=>rfl)) rfl))) xAh)))))) (xAo (xBh xFs)) xCt) (xAi (s_if (PW.pt (xX6 (xBs (op_eqD hr.units) xE4 (suZ hr 2 xAe) xCy (nomark _)) (xFv (xBs (op_neD hr.units) xK1 (vZ 0) xCy (nomark _))))) (xAo (xBh xFs)) xCt) (xAo (xBh (ctZ xL6 xXu xU0 (xAa (vZ 0) xAh))))))),glZ 6 rfl,(fqZ 15 rfl).kp⟩
theorem xWx:CaZ E 16 "built" 7 ["ways","knots","ties","at"] xNb:=mdZ 16 7 rfl rfl xI9 rfl fun _ _ _ _ _ _ hr=>by
  exact (xAi (stZ xI9.nd 4 xFs) (xAi (yJz (i:=5) (.cons ⟨rfl,by decide,.inl xQ8⟩ (.cons ⟨rfl,by decide,.inl xXt⟩ .nil)) rfl rfl xI9.nd (takes_of rfl rfl rfl rfl) rfl rfl (fun W pn xe tk _=>(xAo (stZ xI9.nd 4 (xXi xCm xCp hr (show 5+1<=6 from by decide) rfl (xA9 tk) (xAa (vZ 0) (xAa (vZ 1) (xAa (vZ 2) xAh))) (xA1 (xA1 (xA1 xCc)))))))) (xAo (xBh (xQc (pv 4))))))
theorem xHz:InitM Pg E.w E.K E.mg E.base E.κ "Reader" "Reader" 8 2 ["self","row","at"] xC2 (He.fAd E.K ("Reader",some "__init__")) (dxZ E.K 17):=⟨xTp (k:=7) (N:=["self","row","at","words","ways"]) (fqZ 17 rfl) xCs rfl fun cdv Ar outer s0 H E_ hr=>by
  exact (xB0 (o_op (stZ xCs.nd 3 (xM0 (vZ 1) xCy))) (xB0 (o_op (stZ xCs.nd 4 (yG0 (PW.pt (xX6 (xBs (op_eqD hr.units) xE4 (cbZ xBb xBx xE7 (xAa (vZ 3) xAh)) xAe (nomark _)) (xFv (xBs (op_eqD hr.units) xE4 (suZ hr 3 xAe) xCy (nomark _))))) (xNe xEx xDh (fun _ _=>⟨_,_,rfl,rfl,rfl⟩) hr (show 1<=7 from by decide) rfl (xA9 (takes_of rfl rfl rfl rfl)) (xAr (suZ hr 3 xAe) xAl) al1 rfl) xFs))) (xB0 (o_op (s_if (xBs op_isN xIi (vZ 4) xFs (nomark _)) (xAo (xMr xKr rfl (takes_of rfl rfl rfl rfl) (hr.mono (show 2<=7 from by decide)) passL rfl (vZ 2))) xCt)) (xB0 (xLf rfl xBg xF1 (pv 0) (xK2 (vZ 4))) (xB0 (xLf rfl xBg xCq (pv 0) (xK2 xJ5)) (xB0 (xLf rfl xBg xCn (pv 0) (xK2 (xFx xAh))) (xJ1 (xLf rfl xBg xDf (pv 0) (xK2 (ccZ xWx xYu hr (xAr (vZ 4) (xAr xJ5 (xAr (xFx xAh) (xAr (vZ 2) xAl)))) al4)))))))))),yAg,He.mkr_ok (faZ 86 (f:= .mkr "Reader") rfl)⟩
theorem xOi:CaZ E 18 "numbers_in" 2 ["words"] xC7:=mdZ 18 8 rfl rfl xDl rfl fun _ _ _ _ _ _ hr=>by
  exact (xAi (stZ xDl.nd 1 (xFx xAh)) (xAi (xKw (vs:=[2]) (passes_of rfl) rfl (xDc rfl (vZ 0)) (gnZ xDl.nd 2) (xAi (stZ xDl.nd 3 (xNe xEx xDh (fun _ _=>⟨_,_,rfl,rfl,rfl⟩) hr (show 1<=1 from by decide) rfl (xA9 (takes_of rfl rfl rfl rfl)) (xAr (vZ 2) xAl) al1 rfl)) (xAi (s_if (xBs op_isN xIi (vZ 3) xFs (nomark _)) (xAo (xBh xFs)) xCt) (xAo (xFk (yAc rfl (pv 1) (xAa (vZ 3) xAh))))))) (xAo (xBh (ctZ call_tuple_of xSo xHu (xAa (vZ 1) xAh))))))
theorem xZ6:CaZ E 19 "tie_in" 3 ["words"] xM1:=mdZ 19 9 rfl rfl xDr rfl fun _ _ _ _ _ _ hr=>by
  exact (xAi (yHa (vs:=[1,2]) (vZ 0) (yB4 (k:=1) rfl rfl (xBi (gnZ xDr.nd 1) (xBi (gnZ xDr.nd 2) xIe)))) (xAi (s_if (PW.pt (w_or (xBs (op_neD hr.units) xK1 (vZ 1) xCy (nomark _)) (xFv (xBs op_lt xX2 (cbZ xBb xBx xE7 (xAa (vZ 2) xAh)) xAe (nomark _))))) (xAo (xBh xFs)) xCt) (xAi (yHa (vs:=[3,4,5]) (vZ 2) (yB4 (k:=2) rfl rfl (xBi (gnZ xDr.nd 3) (xBi (gnZ xDr.nd 4) (xBi (gnZ xDr.nd 5) xIe))))) (xAi (stZ xDr.nd 6 (ccZ xOi xN6 hr (xAr (vZ 5) xAl) al1)) (xAo (xBh (yG0 (xBs op_isN xIi (vZ 6) xFs (nomark _)) xFs (xE6 (xAa (vZ 3) (xAa (vZ 4) (xAa (vZ 6) xAh)))))))))))
theorem xZe:CaZ E 20 "knot_in" 2 ["words"] xKj:=mdZ 20 10 rfl rfl xUh rfl fun _ _ _ _ _ _ hr=>by
  exact (xAi (s_if (PW.pt (w_or (xBs (op_neD hr.units) xK1 (cbZ xBb xBx xE7 (xAa (vZ 0) xAh)) xAe (nomark _)) (w_or (xBs (op_neD hr.units) xK1 (suZ hr 0 xAe) xCy (nomark _)) (xFv (xBs op_isN xIi (xNe xEx xDh (fun _ _=>⟨_,_,rfl,rfl,rfl⟩) hr (show 1<=1 from by decide) rfl (xA9 (takes_of rfl rfl rfl rfl)) (xAr (suZ hr 0 xAe) xAl) al1 rfl) xFs (nomark _)))))) (xAo (xBh xFs)) xCt) (xAo (xBh (xE6 (xAa (suZ hr 0 xAe) (xAa (xNe xEx xDh (fun _ _=>⟨_,_,rfl,rfl,rfl⟩) hr (show 1<=1 from by decide) rfl (xA9 (takes_of rfl rfl rfl rfl)) (xAr (suZ hr 0 xAe) xAl) al1 rfl) xAh))))))
theorem xMo:MethM Pg E.w E.K E.mg E.base E.κ "Reader" "take" 8 ["self","row","at"] 2 xCl (He.fAd E.K ("Reader",some "take")) (dxZ E.K 21):=⟨xTp (k:=7) (N:=["self","row","at","words","tie","pair"]) (fqZ 21 rfl) xC3 rfl fun cdv Ar outer s0 H E_ hr=>by
  exact (xB0 (o_op (stZ xC3.nd 3 (xM0 (vZ 1) xCy))) (xB0 (o_if (to_op (xBs (op_eqD hr.units) xE4 (suZ hr 3 xAe) xCy (nomark _))) (xB0 (o_op (stZ xC3.nd 4 (ccZ xZ6 yBi hr (xAr (vZ 3) xAl) al1))) (xB0 (o_op (s_if (xBs op_isN xIi (vZ 4) xFs (nomark _)) (xAo (xMr xKr rfl (takes_of rfl rfl rfl rfl) (hr.mono (show 2<=7 from by decide)) passL rfl (vZ 2))) xCt)) (xJ1 (yKf rfl xBg xCn (pv 0) (xAa (vZ 4) xAh))))) (xB0 (o_op (stZ xC3.nd 5 (ccZ xZe xYw hr (xAr (vZ 3) xAl) al1))) (xB0 (o_if (yJf (PW.pt (w_or (xBs op_isN xIi (vZ 5) xFs (nomark _)) (w_or (xBs (xSd (xA4 hr)) xTu (suZ hr 5 xAe) (xC5 rfl xBg xCq (vZ 0)) rfl) (xFv (xBs op_gt yFx (cbZ xBb xBx xE7 (xAa (xC5 rfl xBg xCn (vZ 0)) xAh)) xAe (nomark _))))))) (xJ1 (o_op (xMr xKr rfl (takes_of rfl rfl rfl rfl) (hr.mono (show 2<=7 from by decide)) passL rfl (vZ 2)))) yHs) (xJ1 (yFs rfl (xA4 hr) xBg xCq (pv 0) (suZ hr 5 xAe) (xK2 (suZ hr 5 xAe))))))) (xJ1 (xLf rfl xBg xDf (pv 0) (yEe (ccZ xWx xYu hr (xAr (xC5 rfl xBg xF1 (vZ 0)) (xAr (xC5 rfl xBg xCq (vZ 0)) (xAr (xC5 rfl xBg xCn (vZ 0)) (xAr (vZ 2) xAl)))) al4)))))),xBg,He.meth_ok (faZ 82 (f:= .meth "Reader" "take") rfl)⟩
theorem xWe:CaZ E 22 "read" 10 ["text"] xLl:=mdZ 22 11 rfl rfl xJ9 rfl fun _ _ _ _ _ _ hr=>by
  exact (xAi (stZ xJ9.nd 1 (xM0 (vZ 0) xCy)) (s_own (i:=2) xHz xHx hr (show 8+1<=9 from by decide) rfl (xA9 (takes_of rfl rfl rfl rfl)) (xAa (suZ hr 1 xAe) (xAa xAe xAh)) (xA1 (xA1 xCc)) xJ9.nd rfl (by first|exact Or.inl rfl|exact Or.inr rfl) (yAd (vs:=[3,4]) (passes_of rfl) rfl (yGo (yD8 rfl rfl rfl xQ9 (xDe rfl (vZ 1) (xEr xAe) xFb))) (xT4 (n:=2) rfl rfl (xBi (gnZ xJ9.nd 3) (xBi (gnZ xJ9.nd 4) xIe))) (xJ1 (yD3 (yEg xMo rfl xL8 hr (show 8<=9 from by decide) (xA9 (takes_of rfl rfl rfl rfl)) (pv 2) (ao_op (xAa (vZ 4) (xAa (vZ 3) xAh))) (yF7 (xA1 (xA1 xCc))))))) (xAo (xBh (xC5 rfl xBg xDf (vZ 2))))))
theorem xAv:CaZ E 23 "_law_pick" 1 ["_law_draw","_law_many"] xAp:=mdZ 23 12 rfl rfl xE8 rfl fun _ _ _ _ _ _ hr=>by
  exact (xAi (s_if (PW.pt (xX6 (xBs op_lt xX2 (suZ hr 0 xAe) (vZ 1) (nomark _)) (xFv (xBs op_lt xX2 (suZ hr 0 xAe) (cbZ xBb xBx xE7 (xAa (suZ hr 0 xAe) xAh)) (nomark _))))) (xAi (stZ xE8.nd 2 (xP6 rfl (xA4 hr) (suZ hr 0 xAe) (suZ hr 0 xAe) (fun _ _=>rfl))) (xAi (xHi (xA4 hr) (pv 0) xAe (e_op xA8 xA7 (suZ hr 0 xAe) xAe)) (xAi (xHi (xA4 hr) (pv 0) xAe xAe) (xAo (s_if (xBs op_ge yIj (vZ 2) (e_op op_pow xYc xAe xAe) (nomark _)) (xAo (xHi (xA4 hr) (pv 0) xAe (vZ 2))) (xAo (xHi (xA4 hr) (pv 0) xAe (e_op op_modN xOp (e_op xA8 xA7 (suZ hr 0 xAe) (vZ 2)) xAe)))))))) xCt) (xAi (s_if (xBs op_ge yIj (suZ hr 0 xAe) (vZ 1) (nomark _)) (xAi (stZ xE8.nd 3 (e_op op_modN xOp (suZ hr 0 xAe) (vZ 1))) (xAi (xHi (xA4 hr) (pv 0) xAe (e_op xYm yCj (suZ hr 0 xAe) (vZ 1))) (xAo (xBh (xQc (pv 3)))))) xCt) (xAi (xHi (xA4 hr) (pv 0) xAe (e_op xA8 xA7 (suZ hr 0 xAe) xAe)) (xAi (xHi (xA4 hr) (pv 0) xAe (e_op op_modN xOp (e_op xA8 xA7 (e_op xA8 xA7 (e_op op_pow xYc (suZ hr 0 xAe) xAe) (e_op xQl xXr xAe (suZ hr 0 xAe))) xAe) xAe)) (xAo (xBh (e_op op_modN xOp (e_op xYm yCj (suZ hr 0 xAe) xAe) (vZ 1))))))))
theorem xP1:CaZ E 24 "_law_begin" 1 ["_law_script"] xFl:=mdZ 24 13 rfl rfl xNk rfl fun _ _ _ _ _ _ hr=>by
  exact (xAo (xBh (xFx (xAa (ctZ call_list_of xU9 xR8 (xAa (xDe rfl (vZ 0) xFb (xEr xAe)) xAh)) (xAa xAe (xAa xAe (xAa xAe (xAa xAe xAh))))))))
theorem xG1:CaZ E 25 "_law_turned" 1 ["_law_shift"] xDi:=mdZ 25 14 rfl rfl xD9 rfl fun _ _ _ _ _ _ hr=>by
  exact (xAo (xBh (ctZ call_tuple_of xSo xHu (xAa (e_lc (A:=[]) (own:=[("_law_number",1)]) rfl xD9.nd (xDc rfl (vZ 0)) (blkOk_by (by kernel_rfl)) (fun _ _ _ _ _=>(gnZ xD9.nd 1)) (fun _ _ _ _ _=>xDa) (fun _ _ _ _ _=>(e_op op_sub xN4 xAe (vZ 1)))) xAh))))
theorem xGn:CaZ E 26 "_law_lesser" 2 ["_law_tie"] xCu:=mdZ 26 15 rfl rfl xK0 rfl fun _ _ _ _ _ _ hr=>by
  exact (xAo (xBh (xB4 (xS5 rfl rfl (xA4 hr)) xTx rfl yI7 (by decide +kernel) (xAa (xE6 (xAa (suZ hr 0 xAe) (xAa (suZ hr 0 xAe) (xAa (suZ hr 0 xAe) xAh)))) (xAa (xE6 (xAa (suZ hr 0 xAe) (xAa (suZ hr 0 xAe) (xAa (ccZ xG1 xG8 hr (xAr (suZ hr 0 xAe) xAl) al1) xAh)))) xAh)))))
theorem xUt:CaZ E 27 "_law_put" 3 ["_law_ties","_law_tie"] xFq:=mdZ 27 16 rfl rfl xF5 rfl fun _ _ _ _ _ _ hr=>by
  exact (xAi (s_if (PW.pt (w_or (PW.pt (xX6 (xBs (op_eqD hr.units) xE4 (suZ hr 1 xAe) (suZ hr 1 xAe) (nomark _)) (xFv (xIb (xB4 (cr_all rfl) xSg rfl xU6 (by decide +kernel) (xAa (e_lc (A:=[]) (own:=[("_law_number",2)]) rfl xF5.nd (xDc rfl (suZ hr 1 xAe)) (blkOk_by (by kernel_rfl)) (fun _ _ _ _ _=>(gnZ xF5.nd 2)) (fun _ _ _ _ _=>xDa) (fun _ _ _ _ _=>(xH3 (op_eqD hr.units) xE4 (vZ 2) xAe (nomark _)))) xAh)))))) (xFv (xBs (xSd (xA4 hr)) xTu (ccZ xGn xHc hr (xAr (vZ 1) xAl) al1) (vZ 0) rfl)))) (xAo (xBh (xQc (pv 0)))) xCt) (xAo (xBh (xB4 (xD3 rfl rfl (xA4 hr)) xD6 rfl xDy (by decide +kernel) (xAa (e_op xA8 xA7 (vZ 0) (xFx (xAa (ccZ xGn xHc hr (xAr (vZ 1) xAl) al1) xAh))) xAh)))))
theorem xHm:CaZ E 28 "_law_one" 2 ["_law_draw","_law_some"] xDn:=mdZ 28 17 rfl rfl xQp rfl fun _ _ _ _ _ _ hr=>by
  exact (xAo (xBh (xY7 rfl (xA4 hr) (pv 1) (ccZ xAv xAu hr (xC9 (pv 0) (xAr (cbZ xBb xBx xE7 (xAa (vZ 1) xAh)) xAl)) (xBc al1)) (fun _ _=>rfl))))
theorem xLd:CaZ E 29 "_law_numbers" 2 ["_law_draw","_law_ways","_law_limit"] xEa:=mdZ 29 18 rfl rfl xDv rfl fun _ _ _ _ _ _ hr=>by
  exact (xAo (xBh (ctZ call_tuple_of xSo xHu (xAa (e_lc (A:=[]) (own:=[("_law_k",3)]) rfl xDv.nd (xLq rfl xH6 (xAa (vZ 1) xAh)) (blkOk_by (by kernel_rfl)) (fun _ _ _ _ _=>(gnZ xDv.nd 3)) (fun _ _ _ _ _=>xDa) (fun _ _ _ _ _=>(e_op op_sub xN4 (ccZ xAv xAu hr (xC9 (pv 0) (xAr (e_op xA8 xA7 (e_op xQl xXr xAe (vZ 2)) xAe) xAl)) (xBc al1)) (vZ 2)))) xAh))))
theorem xPm:CaZ E 30 "_law_loose" 4 ["_law_draw","_law_ways","_law_names_here","_law_limit"] xFh:=mdZ 30 19 rfl rfl xBu rfl fun _ _ _ _ _ _ hr=>by
  exact (xAi (stZ xBu.nd 4 xJ5) (xAi (xKw (vs:=[5]) (passes_of rfl) rfl (xDc rfl (vZ 2)) (gnZ xBu.nd 5) (xAo (xHi (xA4 hr) (pv 4) (vZ 5) (xP6 rfl (xA4 hr) (xE6 (xAa xAe (xAa xAe (xAa (ccZ xAv xAu hr (xC9 (pv 0) (xAr xAe xAl)) (xBc al1)) xAh)))) (ccZ xAv xAu hr (xC9 (pv 0) (xAr xAe xAl)) (xBc al1)) (fun _ _=>rfl))))) (xAi (stZ xBu.nd 6 (xFx xAh)) (xAi (xKw (vs:=[7]) (passes_of rfl) rfl (xLq rfl xH6 (xAa (ccZ xAv xAu hr (xC9 (pv 0) (xAr (e_op xA8 xA7 (vZ 3) xAe) xAl)) (xBc al1)) xAh)) (gnZ xBu.nd 7) (xAi (stZ xBu.nd 8 (xP6 rfl (xA4 hr) (xE6 (xAa xAe (xAa xAe (xAa xAe (xAa xAe (xAa (e_op op_pow xYc xAe xAe) xAh)))))) (ccZ xAv xAu hr (xC9 (pv 0) (xAr xAe xAl)) (xBc al1)) (fun _ _=>rfl))) (xAo (stZ xBu.nd 6 (ccZ xUt xT7 hr (xAr (vZ 6) (xAr (xE6 (xAa (ccZ xHm xH4 hr (xC9 (pv 0) (xAr (vZ 2) xAl)) (xBc al1)) (xAa (ccZ xHm xH4 hr (xC9 (pv 0) (xAr (vZ 2) xAl)) (xBc al1)) (xAa (ccZ xLd xLb hr (xC9 (pv 0) (xAr (vZ 1) (xAr (vZ 8) xAl))) (xBc al2)) xAh)))) xAl)) al2))))) (xAo (xBh (xE6 (xAa (vZ 1) (xAa (vZ 4) (xAa (vZ 6) xAh))))))))))
theorem xOc:CaZ E 31 "_law_names" 3 ["_law_draw","_law_many"] xD4:=mdZ 31 20 rfl rfl xAz rfl fun _ _ _ _ _ _ hr=>by
  exact (xAi (stZ xAz.nd 2 xCy) (xAi (stZ xAz.nd 3 (xKh rfl xCy (e_lc (A:=[]) (own:=[("_law_k",8)]) rfl xAz.nd (xLq rfl xH6 (xAa (ccZ xAv xAu hr (xC9 (pv 0) (xAr xAe xAl)) (xBc al1)) xAh)) (blkOk_by (by kernel_rfl)) (fun _ _ _ _ _=>(gnZ xAz.nd 8)) (fun _ _ _ _ _=>xDa) (fun _ _ _ _ _=>(ccZ xHm xH4 hr (xC9 (pv 0) (xAr (vZ 2) xAl)) (xBc al1)))))) (xAi (stZ xAz.nd 4 (ccZ xAv xAu hr (xC9 (pv 0) (xAr (e_op xA8 xA7 (cbZ xBb xBx xE7 (xAa (vZ 3) xAh)) xAe) xAl)) (xBc al1))) (xAi (stZ xAz.nd 5 (ccZ xAv xAu hr (xC9 (pv 0) (xAr xAe xAl)) (xBc al1))) (xAi (stZ xAz.nd 6 (xP6 rfl (xA4 hr) (xE6 (xAa xAe (xAa xAe (xAa xAe (xAa xAe (xAa xAe (xAa xAe xAh))))))) (ccZ xAv xAu hr (xC9 (pv 0) (xAr xAe xAl)) (xBc al1)) (fun _ _=>rfl))) (xAi (xRn (A:=[0]) (own:=[("_law_k",8)]) (i:=7) rfl xAz.nd rfl rfl rfl (xLq rfl xH6 (xAa (vZ 1) xAh)) (blkOk_by (by kernel_rfl)) (fun _ _ _ _ _=>(gnZ xAz.nd 8)) (fun _ _ _ _ _=>xDa) (fun _ _ _ _ _=>(xY7 rfl (xA4 hr) (pv 2) (e_op op_modN xOp (e_op xA8 xA7 (vZ 5) (e_op xQl xXr (vZ 6) (vZ 8))) xAe) (fun _ _=>rfl)))) (xAo (xBh (e_lc (A:=[]) (own:=[("_law_sign",9)]) rfl xAz.nd (xDc rfl (vZ 7)) (blkOk_by (by kernel_rfl)) (fun _ _ _ _ _=>(gnZ xAz.nd 9)) (fun _ _ _ _ _=>xDa) (fun _ _ _ _ _=>(e_op xA8 xA7 (e_op xA8 xA7 (xDe rfl (vZ 3) xFb (xEr (vZ 4))) (vZ 9)) (xDe rfl (vZ 3) (xEr (vZ 4)) xFb))))))))))))
theorem xQd:CaZ E 32 "_law_made" 7 ["_law_draw","_law_mesh"] xGc:=mdZ 32 21 rfl rfl xCi rfl fun _ _ _ _ _ _ hr=>by
  exact (xAi (stZ xCi.nd 2 (xFx xAh)) (xAi (xKw (vs:=[3]) (passes_of rfl) rfl (xDc rfl (suZ hr 1 xAe)) (gnZ xCi.nd 3) (xAi (stZ xCi.nd 4 (ccZ xAv xAu hr (xC9 (pv 0) (xAr (e_op xA8 xA7 (cbZ xBb xBx xE7 (xAa (vZ 2) xAh)) xAe) xAl)) (xBc al1))) (xAi (stZ xCi.nd 5 (xE6 (xAa (suZ hr 3 xAe) (xAa (suZ hr 3 xAe) (xAa (ccZ xG1 xG8 hr (xAr (suZ hr 3 xAe) xAl) al1) xAh))))) (xAo (stZ xCi.nd 2 (e_op xA8 xA7 (e_op xA8 xA7 (xDe rfl (vZ 2) xFb (xEr (vZ 4))) (xFx (xAa (xP6 rfl (xA4 hr) (xE6 (xAa (vZ 3) (xAa (vZ 5) xAh))) (ccZ xAv xAu hr (xC9 (pv 0) (xAr xAe xAl)) (xBc al1)) (fun _ _=>rfl)) xAh))) (xDe rfl (vZ 2) (xEr (vZ 4)) xFb))))))) (xAo (xBh (xXi xCm xCp hr (show 5+1<=6 from by decide) rfl (xA9 (takes_of rfl rfl rfl rfl)) (xAa (suZ hr 1 xAe) (xAa (xMi (yBs rfl rfl) yBd rfl xTr (by decide +kernel) (xAa (suZ hr 1 xAe) xAh)) (xAa (vZ 2) xAh))) (xA1 (xA1 (xA1 xCc))))))))
theorem xQ4:CaZ E 33 "_law_rows" 1 ["_law_mesh"] xGk:=mdZ 33 22 rfl rfl xBp rfl fun _ _ _ _ _ _ hr=>by
  exact (xAi (stZ xBp.nd 1 (e_op xA8 xA7 (xFx (xAa (e_op xA8 xA7 xCy (ctZ call_str_int xN0 xN3 (xAa (suZ hr 0 xAe) xAh))) xAh)) (e_lc (A:=[]) (own:=[("_law_name",5)]) rfl xBp.nd (xDc rfl (xB4 (xD3 rfl rfl (xA4 hr)) xD6 rfl xDy (by decide +kernel) (xAa (suZ hr 0 xAe) xAh))) (blkOk_by (by kernel_rfl)) (fun _ _ _ _ _=>(gnZ xBp.nd 5)) (fun _ _ _ _ _=>xDa) (fun _ _ _ _ _=>(e_op xA8 xA7 (e_op xA8 xA7 (e_op xA8 xA7 xCy (vZ 5)) xCy) (ctZ call_str_int xN0 xN3 (xAa (xP6 rfl (xA4 hr) (suZ hr 0 xAe) (vZ 5) (fun _ _=>rfl)) xAh))))))) (xAi (xKw (vs:=[2,3,4]) (passes_of rfl) rfl (xDc rfl (suZ hr 0 xAe)) (xT4 (n:=3) rfl rfl (xBi (gnZ xBp.nd 2) (xBi (gnZ xBp.nd 3) (xBi (gnZ xBp.nd 4) xIe)))) (xAo (xFk (yAc rfl (pv 1) (xAa (xKh rfl xCy (e_op xA8 xA7 (xFx (xAa xCy (xAa (vZ 2) (xAa (vZ 3) xAh)))) (e_lc (A:=[]) (own:=[("_law_number",6)]) rfl xBp.nd (xDc rfl (vZ 4)) (blkOk_by (by kernel_rfl)) (fun _ _ _ _ _=>(gnZ xBp.nd 6)) (fun _ _ _ _ _=>xDa) (fun _ _ _ _ _=>(ctZ call_str_int xN0 xN3 (xAa (vZ 6) xAh)))))) xAh))))) (xAo (xBh (xQc (pv 1))))))
theorem xIo: ∀ n:Nat,OaZ E 34 ("_law_same",none) (n+1) ["_law_found","_law_due"] (spF E.κ 2 (xAq n))
 | 0=>⟨fun vs H Q E h=>by obtain ⟨_,_,_,_,_,z⟩:=h;exact z.elim,fun _ _ _ _ _ _ vs Q E _ _ _ _ h=>by obtain ⟨_,_,_,_,_,z⟩:=h;exact z.elim⟩
 | n+1=>by
  have xDs:CaZ E 34 "_law_same" (n+1) ["_law_found","_law_due"] (xAq n):=⟨xIo n,xJo,(fqZ 34 rfl).kp⟩
  exact xMj (k:=n+1) (A:=[]) (N:=["_law_found","_law_due","_law_part","_law_k"]) (fqZ 34 rfl) xC8 fun cdv Ar outer s0 H E_ hr=>by
   exact (xAi (s_if (xBs op_isN xIi (vZ 1) xFs (nomark _)) (xAo (xBh (xH3 op_isN xIi (vZ 0) xFs (nomark _)))) xCt) (xAi (s_if (PW.pt (w_or (xIb (cbZ call_isi xEp xAn (xAa (vZ 1) (xAa (e_ty rfl xSt (by decide +kernel)) xAh)))) (xFv (xIb (cbZ call_isi xEp xAn (xAa (vZ 0) (xAa (e_ty rfl xSt (by decide +kernel)) xAh))))))) (xAo (xBh (xNu (cbZ call_isi xEp xAn (xAa (vZ 1) (xAa (e_ty rfl xSt (by decide +kernel)) xAh))) (xNu (cbZ call_isi xEp xAn (xAa (vZ 0) (xAa (e_ty rfl xSt (by decide +kernel)) xAh))) (xT2 (xH3 (op_eqD hr.units) xE4 (vZ 0) (vZ 1) (nomark _))))))) xCt) (xAi (s_if (xIb (cbZ xVx xZc xAn (xAa (vZ 1) (xAa (xE6 (xAa (e_ty rfl xU0 (by decide +kernel)) (xAa (e_ty rfl xN3 (by decide +kernel)) xAh))) xAh)))) (xAo (xBh (xNu (xH3 (op_eqD hr.units) xE4 (cbZ call_isi xEp xAn (xAa (vZ 0) (xAa (e_ty rfl xU0 (by decide +kernel)) xAh))) (cbZ call_isi xEp xAn (xAa (vZ 1) (xAa (e_ty rfl xU0 (by decide +kernel)) xAh))) (nomark _)) (xNu (cbZ xVx xZc xAn (xAa (vZ 0) (xAa (xE6 (xAa (e_ty rfl xU0 (by decide +kernel)) (xAa (e_ty rfl xN3 (by decide +kernel)) xAh))) xAh))) (xT2 (xH3 (op_eqD hr.units) xE4 (vZ 0) (vZ 1) (nomark _))))))) xCt) (xAi (s_if (PW.pt (w_or (xBs (op_neD hr.units) xK1 (cbZ call_isi xEp xAn (xAa (vZ 0) (xAa (e_ty rfl xR8 (by decide +kernel)) xAh))) (cbZ call_isi xEp xAn (xAa (vZ 1) (xAa (e_ty rfl xR8 (by decide +kernel)) xAh))) (nomark _)) (xFv (xBs (op_neD hr.units) xK1 (cbZ call_isi xEp xAn (xAa (vZ 0) (xAa (e_ty rfl xHu (by decide +kernel)) xAh))) (cbZ call_isi xEp xAn (xAa (vZ 1) (xAa (e_ty rfl xHu (by decide +kernel)) xAh))) (nomark _))))) (xAo (xBh e_bl)) xCt) (xAi (s_if (xBs (op_neD hr.units) xK1 (cbZ call_isi xEp xAn (xAa (vZ 0) (xAa (e_ty rfl xTr (by decide +kernel)) xAh))) (cbZ call_isi xEp xAn (xAa (vZ 1) (xAa (e_ty rfl xTr (by decide +kernel)) xAh))) (nomark _)) (xAo (xBh e_bl)) xCt) (xAi (s_if (xIb (cbZ call_isi xEp xAn (xAa (vZ 1) (xAa (e_ty rfl xTr (by decide +kernel)) xAh)))) (xAo (xBh (xNu (xH3 (op_eqD hr.units) xE4 (xB4 (xD3 rfl rfl (xA4 hr)) xD6 rfl xDy (by decide +kernel) (xAa (vZ 0) xAh)) (xB4 (xD3 rfl rfl (xA4 hr)) xD6 rfl xDy (by decide +kernel) (xAa (vZ 1) xAh)) (nomark _)) (xT2 (xXk (i:=0) (j:=1) (p:=2) rfl rfl xC8.nd rfl xU6 (by decide +kernel) (blkOk_by (by kernel_rfl)) (pv 1) (fun _ _ _ _ _=>pg_name xC8.nd (i:=2) rfl (by first|exact Or.inl rfl|exact Or.inr rfl)) (fun _ _ _ _ _=>elt_s xDs xEz rfl hr (yLq _) (xA4 hr) rfl xMt (pv 0) (pv 1) (pv 2) (pv 2) (fun _ _=>rfl) (fun _ _=>rfl)) (by decide) (by decide)))))) xCt) (xAo (xBh (xNu (xH3 (op_eqD hr.units) xE4 (cbZ xBb xBx xE7 (xAa (vZ 0) xAh)) (cbZ xBb xBx xE7 (xAa (vZ 1) xAh)) (nomark _)) (xT2 (xB4 (cr_all rfl) xSg rfl xU6 (by decide +kernel) (xAa (e_lc (A:=[]) (own:=[("_law_k",3)]) rfl xC8.nd (xLq rfl xH6 (xAa (cbZ xBb xBx xE7 (xAa (vZ 1) xAh)) xAh)) (blkOk_by (by kernel_rfl)) (fun _ _ _ _ _=>(gnZ xC8.nd 3)) (fun _ _ _ _ _=>xDa) (fun _ _ _ _ _=>(xYt xDs xEz hr (yLq _) rfl xMt (xAr (suZ hr 0 (vZ 3)) (xAr (suZ hr 1 (vZ 3)) xAl)) al2))) xAh))))))))))))
theorem xDs:CaZ E 34 "_law_same" 65 ["_law_found","_law_due"] (xAq 60):=⟨(xIo 60).mono (show 60+1<=65 from by decide),xJo,(fqZ 34 rfl).kp⟩
theorem xNd:MaZ E 35 "Pattern" "Pattern" "dye" 4 ["self","name"] xDj:=⟨dfZ (fqZ 35 rfl) xKy rfl fun _ _ _ _ _ _ hr=>by
  exact (xAi (xFk (xGd xEd xEe hr (show 3<=3 from by decide) (xA9 (takes_of rfl rfl rfl rfl)) (vZ 0) (xAa (vZ 1) xAh) (xA1 xCc) rfl)) (xAo (xBh (xP6 rfl (xA4 hr) (xC5 rfl xAd xBd (vZ 0)) (vZ 1) (fun _ _=>rfl))))),xAd,He.meth_ok (faZ 83 (f:= .meth "Pattern" "dye") rfl)⟩
theorem xLe:MaZ E 36 "Pattern" "Pattern" "ties" 1 ["self"] xEf:=⟨dfZ (fqZ 36 rfl) xJy rfl fun _ _ _ _ _ _ hr=>by
  exact (xAo (xBh (ctZ call_list_of xU9 xR8 (xAa (xC5 rfl xAd xAm (vZ 0)) xAh)))),xAd,He.meth_ok (faZ 84 (f:= .meth "Pattern" "ties") rfl)⟩
theorem xRm:CaZ E 37 "_law_seen" 5 ["_law_pattern"] xGb:=mdZ 37 24 rfl rfl xFd rfl fun _ _ _ _ _ _ hr=>by
  exact (xAi (stZ xFd.nd 1 xJ5) (xAi (xKw (vs:=[2]) (passes_of rfl) rfl (xDc rfl (xKb xDp xDu hr (show 1<=4 from by decide) (xA9 (takes_of rfl rfl rfl rfl)) (vZ 0) rfl)) (gnZ xFd.nd 2) (xAo (xHi (xA4 hr) (pv 1) (vZ 2) (xGd xNd xMe hr (show 4<=4 from by decide) (xA9 (takes_of rfl rfl rfl rfl)) (vZ 0) (xAa (vZ 2) xAh) (xA1 xCc) rfl)))) (xAo (xBh (xE6 (xAa (xC5 rfl xAd xBq (vZ 0)) (xAa (vZ 1) (xAa (xKb xLe xK4 hr (show 1<=4 from by decide) (xA9 (takes_of rfl rfl rfl rfl)) (vZ 0) rfl) xAh))))))))
theorem xH9:CaZ E 38 "_law_turned_row" 2 ["_law_draw","_law_row"] xB6:=mdZ 38 25 rfl rfl xBz rfl fun _ _ _ _ _ _ hr=>by
  exact (xAi (stZ xBz.nd 2 (xM0 (vZ 1) xCy)) (xAi (s_if (PW.pt (w_or (xBs (op_neD hr.units) xK1 (suZ hr 2 xAe) xCy (nomark _)) (xFv (xBs (op_eqD hr.units) xE4 (ccZ xAv xAu hr (xC9 (pv 0) (xAr xAe xAl)) (xBc al1)) xAe (nomark _))))) (xAo (xBh (xQc (pv 1)))) xCt) (xAi (xRn (A:=[0]) (own:=[("_law_word",4)]) (i:=3) rfl xBz.nd rfl rfl rfl (xDc rfl (xDe rfl (vZ 2) (xEr xAe) xFb)) (blkOk_by (by kernel_rfl)) (fun _ _ _ _ _=>(gnZ xBz.nd 4)) (fun _ _ _ _ _=>xDa) (fun _ _ _ _ _=>(ctZ call_str_int xN0 xN3 (xAa (e_op op_sub xN4 xAe (ctZ xL6 xXu xU0 (xAa (vZ 4) xAh))) xAh)))) (xAo (xBh (xKh rfl xCy (e_op xA8 xA7 (xFx (xAa xCy (xAa (suZ hr 2 xAe) (xAa (suZ hr 2 xAe) xAh)))) (vZ 3))))))))
theorem xIf:CaZ E 39 "_law_mixed" 2 ["_law_draw","_law_rows_here"] xD1:=mdZ 39 26 rfl rfl xEu rfl fun _ _ _ _ _ _ hr=>by
  exact (xAi (stZ xEu.nd 2 (xFx xAh)) (xAi (xKw (vs:=[3]) (passes_of rfl) rfl (xDc rfl (vZ 1)) (gnZ xEu.nd 3) (xAo (xFk (e_ins rfl (pv 2) (xAa (ccZ xAv xAu hr (xC9 (pv 0) (xAr (e_op xA8 xA7 (yHg 2 (cbZ xBb xBx xE7 (xAa (vZ 2) xAh))) xAe) xAl)) (xBc al1)) (xAa (vZ 3) xAh)))))) (xAo (xBh (xQc (pv 2))))))
theorem yJt:OaZ E 40 ("law",none) 66 ["_law_script"] (spF E.κ 1 yG2):=xMj (k:=65) (A:=[]) (N:=["_law_script","_law_draw","_law_turn","_law_mesh","_law_pat","_law_rows_here","_law_many","_law_other","_law_found","_law_row"]) (fqZ 40 rfl) xFa fun cdv Ar outer s0 H E_ hr=>by
  exact (xAi (stZ xFa.nd 1 (ccZ xP1 xNt hr (xAr (vZ 0) xAl) al1)) (xAi (xKw (vs:=[2]) (passes_of rfl) rfl (xLq rfl xH6 (xAa xAe xAh)) (gnZ xFa.nd 2) (xAi (stZ xFa.nd 3 (ccZ xPm xOo hr (xC9 (pv 1) (xAr (ccZ xAv xAu hr (xC9 (pv 1) (xAr xAe xAl)) (xBc al1)) (xAr (ccZ xOc xOx hr (xC9 (pv 1) (xAr (e_op xA8 xA7 xAe (ccZ xAv xAu hr (xC9 (pv 1) (xAr xAe xAl)) (xBc al1))) xAl)) (xBc al1)) (xAr xAe xAl)))) (xBc al3))) (xAi (stZ xFa.nd 4 (ccZ xQd xQy hr (xC9 (pv 1) (xAr (vZ 3) xAl)) (xBc al1))) (xAi (stZ xFa.nd 5 (ccZ xQ4 xRb hr (xAr (vZ 3) xAl) al1)) (xAi (s_if (PW.pt (w_or (xPu (xIb (ccZ xDs xEz hr (xAr (ccZ yCe yDp hr (xAr (vZ 4) xAl) al1) (xAr (xKh rfl xCy (vZ 5)) xAl)) al2))) (xFv (xBs (yJ6 xCe.ok xCe.at_ xUr xF9 xE3 passL (hr.mono (show 1+1<=65 from by decide))) (yCv rfl _) (ccZ xWe xWd hr (xAr (ccZ yCe yDp hr (xAr (vZ 4) xAl) al1) xAl) al1) (vZ 4) (nomark _))))) (xAo (xBh e_bl)) xCt) (xAi (stZ xFa.nd 6 (e_op xA8 xA7 xAe (cbZ xBb xBx xE7 (xAa (suZ hr 3 xAe) xAh)))) (xAi (stZ xFa.nd 7 (e_op xA8 xA7 (e_op xA8 xA7 (xDe rfl (vZ 5) xFb (xEr xAe)) (ccZ xIf xIp hr (xC9 (pv 1) (xAr (xDe rfl (vZ 5) (xEr xAe) (xEr (vZ 6))) xAl)) (xBc al1))) (ccZ xIf xIp hr (xC9 (pv 1) (xAr (xDe rfl (vZ 5) (xEr (vZ 6)) xFb) xAl)) (xBc al1)))) (xAi (stZ xFa.nd 8 (ccZ xWe xWd hr (xAr (xKh rfl xCy (e_lc (A:=[]) (own:=[("_law_row",9)]) rfl xFa.nd (xDc rfl (vZ 7)) (blkOk_by (by kernel_rfl)) (fun _ _ _ _ _=>(gnZ xFa.nd 9)) (fun _ _ _ _ _=>xDa) (fun _ _ _ _ _=>(ccZ xH9 xHt hr (xC9 (pv 1) (xAr (vZ 9) xAl)) (xBc al1))))) xAl) al1)) (xAo (s_if (PW.pt (w_or (xPu (xIb (yJo rfl xAd xF9 rfl xAn (by decide +kernel) rfl xKc (vZ 8)))) (xFv (xPu (xIb (ccZ xDs xEz hr (xAr (ccZ xRm xQz hr (xAr (vZ 8) xAl) al1) (xAr (vZ 3) xAl)) al2)))))) (xAo (xBh e_bl)) xCt)))))))))) (xAo (xBh (xH3 (yHz xCe.ok xCe.at_ xE3 passL (hr.mono (show 1<=65 from by decide))) (yCv rfl _) (ccZ xWe xWd hr (xAr xCy xAl) al1) (xXi xCm xCp hr (show 5+1<=65 from by decide) rfl (xA9 (takes_of rfl rfl rfl rfl)) (xAa xAe (xAa xJ5 (xAa (xFx xAh) xAh))) (xA1 (xA1 (xA1 xCc)))) (nomark _))))))
end
theorem factsZ_ {w:World}{K:PySem.W.Frag}{h:Heap}{mg:Str->Option Value}{a:Addr}(X:K.In h)(G:h.Ns mainGlobals mg)(hfa:mg ("law":Str)=some (.ref a))(c:He.SaysX faZ_ fnZ_ [] tfZ_ exZ_ w h K):LamX.LawAtS PySem.Challenge.rw_farmesh_k53_patterns_written_and_read w K (L2.CX Pg w) 66 63 "_law_script" mg a h:=by
 cases hfa.symm.trans (He.glo_ok X G (c.t.d.fact 27 (f:= .glo "law") rfl))
 refine yKv (cl:=xHh K) (tabs:=yDh K) (cs:=[]) (fun p h=>by cases h) (fun p h=>by cases h) (fun p h=>by cases h) (fun p h=>by cases h) (fun s u=>L2.FunD.bindsA (ps:=["_law_script"]) (yB5 c 40 (d:=yDm) rfl) (by walk_at "b1") s [u] rfl) truth fun base kb gb tbs=> ?_
 have Z:Zx ⟨w,K,mg,base⟩:=⟨⟨h,X,G,c⟩,fun _ z=>nomatch z⟩
 exact yJt (E:=⟨w,K,mg,base⟩)
end Lw
open PyProof.Rows PySem PySem.W PySem.Calls
theorem PySem.Challenge.cw_farmesh_k53_patterns_written_and_read_holds : PySem.Challenge.rw_farmesh_k53_patterns_written_and_read.Holds := by
 refine Lw.preZ_ ?_
 refine LamX.walk_ofTsE (l:=PySem.Challenge.rw_farmesh_k53_patterns_written_and_read) (n:=63) (k:=66) (x:="_law_script") (CX:=fun w=>L2.CX PySem.Challenge.rw_farmesh_k53_patterns_written_and_read.prog w) rfl (by decide) (by kernel_rfl) ⟨rfl,by decide,by decide⟩ ?F (fun w H s e s' z=>Fm.cx_no z)
 intro w mg faZ_ h Y G hmg0
 obtain ⟨K,KX,c⟩:=Y
 have hmg:mg ("law":PySem.Str)=some (PySem.Value.ref faZ_):=by
  have e:(HandSHeadRun.topDef (OpenLaw.row PySem.Challenge.rw_farmesh_k53_patterns_written_and_read).prog 55).name=("law":PySem.Str):=by kernel_rfl
  rw [<- e]
  exact hmg0
 exact ⟨K,KX,Lw.factsZ_ KX G hmg c⟩
