import PyProof.Rows.All
import HandS.Head0
import HandS.Head1
import HandS.Head2
import HandS.HeadEnd
import HandS.HeadHook4
import HandS.HeadWalk
import HandS.ExcField
import HandS.ExcIs
import OpenK.KQuick
import Wide.All
import OpenK.AllK
import Wide.FinOn
import HandS.ForMost
import HandS.ForExc
import HandS.EndBits
import HandS.Evl
import HandS.Lambda
import HandS.Rev
import HandS.Defaults
import HandS.IsInst
import HandS.TupAny
import HandS.Wide
import HandS.Style
import HandS.SortInts
import HandS.FStr
import HandS.More
import HandS.RaiseMore
import HandS.Dict
import HandS.Zip
import HandS.TupSets
import HandS.DictComp
import HandS.WideBits
import KE.GoesMore
import HandS.Conv
import HandS.SortRule
import HandS.SortKw
import PyProof.Rows.SeqMore
import HandS.SetFor
import HandS.ExcInit
import HandS.ExcOwn
import KE.KIsAll
import KE.KExcIs
import KE.KLam
import KE.SortData
import KE.SortKeyHeap
import HandS.EndTab
import KE.KNestM
import KE.GoesEnumKw
import HandS.DictTup
import HandS.Deep
import KE.DataFind
import KE.KUnpackStar
import HandS.TryOnly
import PyProof.SeqIndex
import PyProof.SumWalkG
import HandS.ExcValue
import PyProof.ReprRoads
import PyProof.ReprLen
import HandS.TryMany
import KE.DataCmp
import HandS.Codes
import PyProof.AssignAttr
import HandS.OwnEq
import KE.KCallOwn
import HandS.Text
import HandS.Finally
import KE.KExcInit
import PyProof.ExcBaseAll.LookupError
import HandS.HeadHook3
import HandS.TupLe
import PyProof.NeKinds
import HandS.Strs
import HandS.TupMul
import KE.DataMinMax
import PyProof.StrBlock2
import PySem.Challenge.RW_burinleaf_k63_lines_of_no_form
set_option Elab.async false
set_option linter.all false
set_option maxRecDepth 100000
set_option maxHeartbeats 4000000
namespace PySem
namespace OEL
open PySem.W PySem.Calls PyProof.Rows PySem.HandSPX Builtin Builtin.ObjectAttr
abbrev leTail:List Value:=[.type "LookupError",.type "Exception",.type "BaseException",.type "object"]
def refsLE:List Value→Bool
 |.ref _::r=>refsLE r
 |l=>l==leTail
end OEL
end PySem
namespace DL
open PySem PySem.Spec PyProof.Rows L2
open He (ga ma eqO eqO_ok ba)
def zBn(i:Nat):Stmt→Stmt
 |.ClassDef (body:=b) ..=>b.getD i (.Pass ⟨0,0,0,0⟩)
 |s=>s
def exB(K:PySem.W.Frag)(C:Addr)(tail:List Value→Bool)(newId:String):Bool:=match K.lookup C with
 |some ⟨.type "type",_,.cls cd,sl⟩=>(match cd.mro,sl.toList with
  |.ref C'::bm,[_,_,_,_,some (.builtin n),_]=>C'==C&&n==newId&&!cd.hasDel&&cd.hasDict&&tail bm
  |_,_=>false)
 |_=>false
def erB(K:PySem.W.Frag)(C:Addr)(fls:List Str):Bool:=
 (fls.all fun f=>eqO (PySem.W.findIn K (.ref C) f) (some none))&&(eqO (PySem.W.findIn K (.ref C) "__init__") (some (some (.ref (ma K C "__init__"))))&&(decide (PySem.W.typeIn K (.ref (ma K C "__init__"))=some (.type "function"))&&(xfB K C&&(decide (PySem.W.exmOne K (.ref C) (.ref C)=some true)&&
  (eqO (PySem.W.findIn K (.ref C) "__setattr__") (some (some (.builtin "object.__setattr__")))&&(decide (PySem.W.typeIn K (.ref C)=some (.type "type"))&&PySem.W.keepIn K (.ref C)))))))
def zFT(K:PySem.W.Frag)(C:Addr)(fls:List Str):Bool:=exB K C PySem.HandSPX.refsVE "ValueError.__new__"&&erB K C fls
def zRq(K:PySem.W.Frag)(C:Addr)(fls:List Str):Bool:=exB K C PySem.OEL.refsLE "LookupError.__new__"&&erB K C fls
def zYg(K:PySem.W.Frag)(B:Addr):Bool:=
 eqO (PySem.W.specialIn K (.ref B) "__getattribute__") (some (some (.builtin "type.__getattribute__")))&&(decide (PySem.W.typeIn K (.ref B)=some (.type "type"))&&(PySem.W.readsIn K B (.type "type")&&((match PySem.W.findCls K (.ref B) (.type "type") "__init__" with
  |some (.val (.ref f))=>decide (f=ma K B "__init__")
  |_=>false)&&PySem.W.keepIn K (.ref (ma K B "__init__")))))
def zHA(K:PySem.W.Frag)(x k:Str)(i:Int):Bool:=match PySem.W.nsIn K (ga K x) k with
 |some (some (.int j _))=>decide (j=i)
 |_=>false
def zCs(K:PySem.W.Frag)(x k f:Str):Bool:=eqO (PySem.W.nsIn K (ga K x) k) (some (some (.ref (ga K f))))
def zUc(K:PySem.W.Frag)(x k:Str):Bool:=eqO (PySem.W.nsIn K (ga K x) k) (some none)
def zUZ(l:List (PySem.W.Frag→Bool))(K:PySem.W.Frag):Bool:=l.all fun f=>f K
def zR8(as:List Addr)(fa:List He.Fa)(fn:List He.DefD)(ts:List He.Tab)(tf:List He.Defn)(ex:PySem.W.Frag→Bool)(g:Addr→Option Obj):He.AlX:=(He.obsT fa fn ts (He.frT g as),ex (He.frT g as)&&He.tabsB g tf (He.frT g as))
theorem zQx{as:List Addr}{fa:List He.Fa}{fn:List He.DefD}{ts:List He.Tab}{tf:List He.Defn}{ex:PySem.W.Frag→Bool}{w:World}{h:Heap}(e:zR8 as fa fn ts tf ex h.get?=He.valX fn ts w):He.SaysX fa fn ts tf ex w h (He.frT h.get? as):=by
 have e1:He.obsT fa fn ts (He.frT h.get? as)=He.valT fn ts w:=congrArg (fun z:He.AlX=>z.1) e
 have e2:(ex (He.frT h.get? as)&&He.tabsB h.get? tf (He.frT h.get? as))=true:=congrArg (fun z:He.AlX=>z.2) e
 obtain⟨h1,h2⟩:=ba e2
 have key:∀p∈tf,PySem.W.codeHdIn (He.frT h.get? as) (He.cT (He.frT h.get? as) p).1 (He.cT (He.frT h.get? as) p).2=true∧∃o,h.get? (He.cT (He.frT h.get? as) p).2=some o∧He.emptyTab o=true:=fun p hp=>by
  obtain⟨h3,h4⟩:=ba (List.all_eq_true.mp h2 p hp)
  refine⟨h3,?_⟩
  cases q:h.get? (He.cT (He.frT h.get? as) p).2 with
  |none=>
   rw[q] at h4
   cases h4
  |some o=>
   rw[q] at h4
   exact⟨o,rfl,h4⟩
 exact⟨e1,h1,fun p hp=>(key p hp).1,fun p hp=>by
  obtain⟨_,o,q,z⟩:=key p hp
  exact He.frT_none q z,fun p hp=>by
  obtain⟨_,o,q,z⟩:=key p hp
  rw[q,He.emptyTab_eq z]⟩
def zRl(as:List Addr)(fa:List He.Fa)(fn:List He.DefD)(ts:List He.Tab)(tf:List He.Defn)(ex:PySem.W.Frag→Bool):PySem.W.Hook where
 α:=He.AlX
 obs:=fun s=>zR8 as fa fn ts tf ex s.heap.get?
 val:=fun w=>He.valX fn ts w
 says:=fun w h=>∃K:PySem.W.Frag,K.In h∧He.SaysX fa fn ts tf ex w h K
 of:=fun _ _ e=>⟨_,He.frT_in,zQx e⟩
 keeps:=fun _ _ _ ⟨K,hK,c⟩ k=>⟨K,PySem.W.Frag.In.keeps hK k,⟨c.t,c.more,c.hd,c.out,fun p hp=>k _ _ (c.empty p hp)⟩⟩
theorem zTD{as:List Addr}{fa:List He.Fa}{fn:List He.DefD}{ts:List He.Tab}{tf:List He.Defn}{ex:PySem.W.Frag→Bool}{g:Addr→Option Obj}{s:Shared}(h:∀a,g a=s.heap.get? a):zR8 as fa fn ts tf ex g=(zRl as fa fn ts tf ex).obs s:=by
 have e:g=s.heap.get?:=funext h
 rw[e]<;>rfl
abbrev zHe{α:Type}(r:PySem.W.OpenRow)(M:Nat)(w:World)(f:PySem.W.SharedT→α)(v:α):Prop:=∀os:OsState,(HandSHeadRun.endF (HandSHeadRun.stepQ (HandSHeadRun.denQ HandSHeadRun.tabQ) r.prog w) M r.prog w os).map f=some v
theorem zTf{r:PySem.W.OpenRow}{q:Program}{M:Nat}{loose:List Str}{as:List Addr}{fa:List He.Fa}{fn:List He.DefD}{ts:List He.Tab}{tf:List He.Defn}{ex:PySem.W.Frag→Bool}{w:World}
  (h1:zHe r M w (fun s=>(HandSHeadRun.looksF r.prog (PySem.W.boot_heap w.params) s.abs,HandSHeadRun.seenQ q loose (importedModules r.prog.main.body) (fun s=>PySem.W.xlAt q [] s&&PySem.W.recOk r.toRowW.records s) s.abs)) (true,PySem.W.openGood q loose))
  (h2:zHe r M w (fun s=>(fa.all (fun f=>f.ok (He.frT (HandSHeadRun.getT s) as)),ts.map (fun t=>He.dicW (He.frT (HandSHeadRun.getT s) as) (t.1 (He.frT (HandSHeadRun.getT s) as))),ex (He.frT (HandSHeadRun.getT s) as)&&He.tabsB (HandSHeadRun.getT s) tf (He.frT (HandSHeadRun.getT s) as))) (true,ts.map (fun t=>some (He.keysIn w.params t.2)),true))
  (h3:zHe r M w (fun s=>(fn.all (fun d=>d.ok (He.frT (HandSHeadRun.getT s) as)),fn.map (fun d=>He.fnW (He.frT (HandSHeadRun.getT s) as) d.at_))) (true,fn.map He.DefD.val)):
  HandSHeadRun.RunEq r q (zRl as fa fn ts tf ex) (fun s=>zR8 as fa fn ts tf ex (HandSHeadRun.getT s)) M loose w:=by
 intro os
 obtain⟨s,hs,e1⟩:=Option.map_eq_some_iff.mp (h1 os)
 have e2:=h2 os
 have e3:=h3 os
 rw[hs] at e2 e3⊢
 have e2:=Option.some.inj e2
 have e3:=Option.some.inj e3
 show some _=some _
 obtain⟨l1,l2⟩:=Prod.mk.inj e1
 obtain⟨a1,a2⟩:=Prod.mk.inj e2
 obtain⟨a2,a3⟩:=Prod.mk.inj a2
 obtain⟨b1,b2⟩:=Prod.mk.inj e3
 refine congrArg some (Prod.ext l1 (Prod.ext l2 ?_))
 show zR8 as fa fn ts tf ex (HandSHeadRun.getT s)=He.valX fn ts w
 unfold zR8 He.obsT He.obsD He.valX He.valT He.valD
 rw[a1,a2,a3,b1,b2]
 rfl
theorem zNm{top:Scope}{cx:TablesWhole.Ctx}{sc:Scope}:∀{a b:List Stmt},TablesWhole.wSs TablesWhole.holds top cx sc a=true→TablesWhole.wSs TablesWhole.holds top cx sc b=true→TablesWhole.wSs TablesWhole.holds top cx sc (a++b)=true
 |[],_,_,hb=>hb
 |s::a,b,ha,hb=>by
  have e:TablesWhole.wSs TablesWhole.holds top cx sc (s::a)=(TablesWhole.wS TablesWhole.holds top cx sc s&&TablesWhole.wSs TablesWhole.holds top cx sc a):=by
   rw[TablesWhole.wSs]<;>rfl
  have e2:TablesWhole.wSs TablesWhole.holds top cx sc (s::(a++b))=(TablesWhole.wS TablesWhole.holds top cx sc s&&TablesWhole.wSs TablesWhole.holds top cx sc (a++b)):=by
   rw[TablesWhole.wSs]<;>rfl
  rw[e] at ha
  obtain⟨h1,h2⟩:=Bool.and_eq_true_iff.mp ha
  show TablesWhole.wSs TablesWhole.holds top cx sc (s::(a++b))=true
  rw[e2,h1,zNm h2 hb]<;>rfl
abbrev WTab(p:Program)(gl:List Str)(i n:Nat):Prop:=TablesWhole.wSs TablesWhole.holds p.main.scope ⟨p.main.scope,[],gl,[],none⟩ p.main.scope ((p.main.body.drop i).take n)=true
theorem WTab.cut{p:Program}{gl:List Str}{i n m:Nat}(h1:WTab p gl i n)(h2:WTab p gl (i+n) m):WTab p gl i (n+m):=by
 show TablesWhole.wSs _ _ _ _ ((p.main.body.drop i).take (n+m))=true
 rw[List.take_add,List.drop_drop]
 exact zNm h1 h2
theorem WTab.bare{p:Program}{gl:List Str}{n:Nat}(hm:p.modules=[])(hp:p.parses=[])(ha:p.absent=[])(hh:p.harvested=[])(hg:p.given={argv:=[],stdin:=[],environ:=some Program.claimEnviron,cwd:=none,tree:=none,leftOut:=[],nothingAt:=[]})
  (ht:TablesWhole.wSs TablesWhole.gather p.main.scope ⟨p.main.scope,[],[],[],none⟩ p.main.scope p.main.body=gl) (h0:TablesWhole.noTwice p.main.scope=true) (hn:Nat.ble p.main.body.length n=true) (h:WTab p gl 0 n):p.bare:=by
 refine⟨hm,hp,ha,hh,hg,?_⟩
 have e:TablesWhole.wSs TablesWhole.holds p.main.scope ⟨p.main.scope,[],gl,[],none⟩ p.main.scope p.main.body=true:=by
  have h':=h
  unfold WTab at h'
  rw[List.drop_zero,List.take_of_length_le (Nat.le_of_ble_eq_true hn)] at h'
  exact h'
 show TablesWhole.wProgram TablesWhole.holds p=true
 have em:TablesWhole.wModule TablesWhole.holds p.main=true:=by
  unfold TablesWhole.wModule
  rw[ht]
  show(true&&(TablesWhole.noTwice p.main.scope&&(TablesWhole.wSs TablesWhole.holds p.main.scope ⟨p.main.scope,[],gl,[],none⟩ p.main.scope p.main.body&&true)))=true
  rw[h0,e]<;>rfl
 unfold TablesWhole.wProgram
 rw[em,hm,hp,hh]
 rfl
theorem zHt{lk:PySem.W.Look}:∀{a b:List Stmt},PySem.W.noRoadLSs lk a=true→PySem.W.noRoadLSs lk b=true→PySem.W.noRoadLSs lk (a++b)=true
 |[],_,_,hb=>hb
 |s::a,b,ha,hb=>by
  have e:PySem.W.noRoadLSs lk (s::a)=(PySem.W.noRoadLS lk s&&PySem.W.noRoadLSs lk a):=by rw[PySem.W.noRoadLSs]<;>rfl
  have e2:PySem.W.noRoadLSs lk (s::(a++b))=(PySem.W.noRoadLS lk s&&PySem.W.noRoadLSs lk (a++b)):=by rw[PySem.W.noRoadLSs]<;>rfl
  rw[e] at ha
  obtain⟨h1,h2⟩:=Bool.and_eq_true_iff.mp ha
  show PySem.W.noRoadLSs lk (s::(a++b))=true
  rw[e2,h1,zHt h2 hb]<;>rfl
abbrev NRd(p:Program)(lk:PySem.W.Look)(i n:Nat):Prop:=PySem.W.noRoadLSs lk ((p.main.body.drop i).take n)=true
theorem NRd.cut{p:Program}{lk:PySem.W.Look}{i n m:Nat}(h1:NRd p lk i n)(h2:NRd p lk (i+n) m):NRd p lk i (n+m):=by
 show PySem.W.noRoadLSs _ _=true
 rw[List.take_add,List.drop_drop]
 exact zHt h1 h2
theorem NRd.whole{p:Program}{lk lk':PySem.W.Look}{n:Nat}(hl:lk'=lk)(hn:Nat.ble p.main.body.length n=true)(h:NRd p lk 0 n):PySem.W.noRoadLSs lk' p.main.body=true:=by
 have h':=h
 unfold NRd at h'
 rw[List.drop_zero,List.take_of_length_le (Nat.le_of_ble_eq_true hn)] at h'
 rw[hl]
 exact h'
abbrev zMy(f:Scope→Str→Option Pos→Bool):TablesWhole.Alg Bool:=
 ⟨f,fun _ _ _ _=>true,fun _=>true,true,false,fun x y=>x&&y⟩
theorem zLm{f:Scope→Str→Option Pos→Bool}{top:Scope}{cx:TablesWhole.Ctx}{sc:Scope}:∀{a b:List Stmt},TablesWhole.wSs (zMy f) top cx sc a=true→TablesWhole.wSs (zMy f) top cx sc b=true→TablesWhole.wSs (zMy f) top cx sc (a++b)=true
 |[],_,_,hb=>hb
 |s::a,b,ha,hb=>by
  have e:TablesWhole.wSs (zMy f) top cx sc (s::a)=(TablesWhole.wS (zMy f) top cx sc s&&TablesWhole.wSs (zMy f) top cx sc a):=by
   rw[TablesWhole.wSs]<;>rfl
  have e2:TablesWhole.wSs (zMy f) top cx sc (s::(a++b))=(TablesWhole.wS (zMy f) top cx sc s&&TablesWhole.wSs (zMy f) top cx sc (a++b)):=by
   rw[TablesWhole.wSs]<;>rfl
  rw[e] at ha
  obtain⟨h1,h2⟩:=Bool.and_eq_true_iff.mp ha
  show TablesWhole.wSs (zMy f) top cx sc (s::(a++b))=true
  rw[e2,h1,zLm h2 hb]<;>rfl
abbrev WNm(f:Scope→Str→Option Pos→Bool)(p:Program)(gl:List Str)(i n:Nat):Prop:=TablesWhole.wSs (zMy f) p.main.scope ⟨p.main.scope,[],gl,[],none⟩ p.main.scope ((p.main.body.drop i).take n)=true
theorem WNm.cut{f:Scope→Str→Option Pos→Bool}{p:Program}{gl:List Str}{i n m:Nat}(h1:WNm f p gl i n)(h2:WNm f p gl (i+n) m):WNm f p gl i (n+m):=by
 show TablesWhole.wSs _ _ _ _ _=true
 rw[List.take_add,List.drop_drop]
 exact zLm h1 h2
theorem WNm.whole{f:Scope→Str→Option Pos→Bool}{p:Program}{gl:List Str}{n:Nat}
  (ht:TablesWhole.wSs TablesWhole.gather p.main.scope ⟨p.main.scope,[],[],[],none⟩ p.main.scope p.main.body=gl) (hn:Nat.ble p.main.body.length n=true) (h:WNm f p gl 0 n):TablesWhole.wModule (zMy f) p.main=true:=by
 have e:TablesWhole.wSs (zMy f) p.main.scope ⟨p.main.scope,[],gl,[],none⟩ p.main.scope p.main.body=true:=by
  have h':=h
  unfold WNm at h'
  rw[List.drop_zero,List.take_of_length_le (Nat.le_of_ble_eq_true hn)] at h'
  exact h'
 unfold TablesWhole.wModule
 rw[ht]
 show(true&&(true&&(TablesWhole.wSs (zMy f) p.main.scope ⟨p.main.scope,[],gl,[],none⟩ p.main.scope p.main.body&&true)))=true
 rw[e]<;>rfl
end DL
namespace Lw
open PySem PySem.Spec PyProof.Rows L2 DL
open Evl (Ex)
def top(i:Nat):Stmt:=PySem.Challenge.pw_burinleaf_k63_lines_of_no_form.main.body.getD i (.Pass ⟨0,0,0,0⟩)
abbrev zQH:Stmt:=top 166
abbrev zQJ:Stmt:=zBn 0 (top 120)
abbrev zCP:Stmt:=top 79
abbrev zBa:Stmt:=zBn 0 (top 137)
abbrev zBb:Stmt:=zBn 0 (top 164)
abbrev zQG:Stmt:=top 168
abbrev zPi:Stmt:=zBn 17 (top 137)
abbrev zAN:Stmt:=zBn 14 (top 137)
abbrev zAE:Stmt:=zBn 3 (top 120)
abbrev zA9:Stmt:=zBn 13 (top 137)
abbrev zPh:Stmt:=zBn 7 (top 137)
abbrev zQF:Stmt:=top 170
abbrev zKK:Stmt:=top 167
abbrev zH7:Stmt:=zBn 1 (top 120)
abbrev zA7:Stmt:=top 133
abbrev zA8:Stmt:=top 134
abbrev zQE:Stmt:=top 56
abbrev zNT:Stmt:=top 57
abbrev zQD:Stmt:=top 58
abbrev zAZ:Stmt:=top 121
abbrev zCc:Stmt:=top 122
abbrev zQM:Stmt:=zBn 4 (top 120)
abbrev zH6:Stmt:=zBn 5 (top 120)
abbrev zPj:Stmt:=zBn 6 (top 120)
abbrev zA4:Stmt:=top 123
abbrev zCb:Stmt:=top 124
abbrev zBM:Stmt:=top 125
abbrev zBN:Stmt:=top 126
abbrev zBL:Stmt:=top 127
abbrev zCa:Stmt:=top 128
abbrev zBg:Stmt:=top 129
abbrev zEC:Stmt:=top 135
abbrev zAR:Stmt:=zBn 4 (top 137)
abbrev zPg:Stmt:=top 150
abbrev zH5:Stmt:=zBn 10 (top 137)
abbrev zRX:Stmt:=top 156
abbrev zAL:Stmt:=zBn 5 (top 137)
abbrev zBe:Stmt:=top 160
abbrev zAM:Stmt:=zBn 6 (top 137)
abbrev zBf:Stmt:=top 161
abbrev zPl:Stmt:=top 141
abbrev zPk:Stmt:=top 142
abbrev zQK:Stmt:=top 143
abbrev zH8:Stmt:=top 144
abbrev zPf:Stmt:=top 145
abbrev zPe:Stmt:=top 146
abbrev zR0:Stmt:=top 151
abbrev zRZ:Stmt:=top 152
abbrev zQN:Stmt:=top 153
abbrev zRY:Stmt:=top 154
abbrev zBr:Stmt:=top 163
abbrev zPm:Stmt:=zBn 1 (top 164)
abbrev zQL:Stmt:=top 169
abbrev zQI:Stmt:=top 171
abbrev zAn:Stmt:=zBn 0 (top 2)
abbrev zAT:Stmt:=zBn 0 (top 3)
abbrev zB3:Stmt:=zBn 0 (top 16)
abbrev zBH:Stmt:=zBn 0 (top 14)
abbrev zBl:Stmt:=zBn 0 (top 5)
abbrev zBk:Stmt:=zBn 0 (top 7)
abbrev zBG:Stmt:=zBn 0 (top 9)
abbrev zBj:Stmt:=zBn 0 (top 8)
abbrev zBi:Stmt:=zBn 0 (top 10)
abbrev zBF:Stmt:=zBn 0 (top 11)
abbrev zDe:Stmt:=zBn 0 (top 13)
abbrev zCr:Stmt:=zBn 0 (top 19)
abbrev zBE:Stmt:=zBn 0 (top 18)
abbrev zB2:Stmt:=zBn 0 (top 22)
abbrev zB1:Stmt:=zBn 0 (top 21)
abbrev zBh:Stmt:=zBn 0 (top 20)
abbrev zBD:Stmt:=zBn 0 (top 15)
abbrev zDd:Stmt:=zBn 0 (top 12)
abbrev zEQ:He.DefD:=⟨("BurinError",some "__init__"),"__init__","BurinError.__init__",defArgs zAn,defBody zAn,defScope zAn,[.str (PySem.Str.ofString "refused")],[]⟩
abbrev zHH:He.DefD:=⟨("Missing",some "__init__"),"__init__","Missing.__init__",defArgs zAT,defBody zAT,defScope zAT,[.str (PySem.Str.ofString "missing")],[]⟩
abbrev zJZ:He.DefD:=⟨("BadBar",some "__init__"),"__init__","BadBar.__init__",defArgs zB3,defBody zB3,defScope zB3,[],[]⟩
abbrev zHK:He.DefD:=⟨("BadDeed",some "__init__"),"__init__","BadDeed.__init__",defArgs zBH,defBody zBH,defScope zBH,[],[]⟩
abbrev zGO:He.DefD:=⟨("BadPaper",some "__init__"),"__init__","BadPaper.__init__",defArgs zBl,defBody zBl,defScope zBl,[],[]⟩
abbrev zGN:He.DefD:=⟨("BadPlace",some "__init__"),"__init__","BadPlace.__init__",defArgs zBk,defBody zBk,defScope zBk,[],[]⟩
abbrev zHJ:He.DefD:=⟨("BadSpan",some "__init__"),"__init__","BadSpan.__init__",defArgs zBG,defBody zBG,defScope zBG,[],[]⟩
abbrev zGM:He.DefD:=⟨("BadStaff",some "__init__"),"__init__","BadStaff.__init__",defArgs zBj,defBody zBj,defScope zBj,[],[]⟩
abbrev zGL:He.DefD:=⟨("BadThick",some "__init__"),"__init__","BadThick.__init__",defArgs zBi,defBody zBi,defScope zBi,[],[]⟩
abbrev zHI:He.DefD:=⟨("BadWord",some "__init__"),"__init__","BadWord.__init__",defArgs zBF,defBody zBF,defScope zBF,[],[]⟩
abbrev zO0:He.DefD:=⟨("Full",some "__init__"),"__init__","Full.__init__",defArgs zDe,defBody zDe,defScope zDe,[],[]⟩
abbrev zMo:He.DefD:=⟨("NoBar",some "__init__"),"__init__","NoBar.__init__",defArgs zCr,defBody zCr,defScope zCr,[],[]⟩
abbrev zHG:He.DefD:=⟨("NoBreak",some "__init__"),"__init__","NoBreak.__init__",defArgs zBE,defBody zBE,defScope zBE,[],[]⟩
abbrev zJY:He.DefD:=⟨("NoLine",some "__init__"),"__init__","NoLine.__init__",defArgs zB2,defBody zB2,defScope zB2,[],[]⟩
abbrev zJX:He.DefD:=⟨("NoMark",some "__init__"),"__init__","NoMark.__init__",defArgs zB1,defBody zB1,defScope zB1,[],[]⟩
abbrev zGK:He.DefD:=⟨("NoMoment",some "__init__"),"__init__","NoMoment.__init__",defArgs zBh,defBody zBh,defScope zBh,[],[]⟩
abbrev zHF:He.DefD:=⟨("Nothing",some "__init__"),"__init__","Nothing.__init__",defArgs zBD,defBody zBD,defScope zBD,[],[]⟩
abbrev zOZ:He.DefD:=⟨("Same",some "__init__"),"__init__","Same.__init__",defArgs zDd,defBody zDd,defScope zDd,[],[]⟩
abbrev zXN:He.DefD:=⟨("_law_bag",none),"_law_bag","_law_bag",defArgs zQH,defBody zQH,defScope zQH,[],[]⟩
abbrev zXP:He.DefD:=⟨("Stand",some "__init__"),"__init__","Stand.__init__",defArgs zQJ,defBody zQJ,defScope zQJ,[],[]⟩
abbrev zMj:He.DefD:=⟨("paper_pager",none),"paper","paper",defArgs zCP,defBody zCP,defScope zCP,[],[("width",.int 120),("lines",.int 4),("fee",.int 10),("turn",.int 50),("gap",.int 5)]⟩
abbrev zFD:He.DefD:=⟨("Shop",some "__init__"),"__init__","Shop.__init__",defArgs zBa,defBody zBa,defScope zBa,[],[("width",.int 120),("lines",.int 4),("fee",.int 10),("turn",.int 50),("gap",.int 5)]⟩
abbrev zFE:He.DefD:=⟨("Desk",some "__init__"),"__init__","Desk.__init__",defArgs zBb,defBody zBb,defScope zBb,[],[("width",.int 120),("lines",.int 4)]⟩
abbrev zXM:He.DefD:=⟨("_law_odd",none),"_law_odd","_law_odd",defArgs zQG,defBody zQG,defScope zQG,[],[]⟩
abbrev zXW:He.DefD:=⟨("Shop",some "piece"),"piece","Shop.piece",defArgs zPi,defBody zPi,defScope zPi,[],[]⟩
abbrev zDF:He.DefD:=⟨("Shop",some "mark"),"mark","Shop.mark",defArgs zAN,defBody zAN,defScope zAN,[],[]⟩
abbrev zC2:He.DefD:=⟨("Stand",some "need_bar"),"need_bar","Stand.need_bar",defArgs zAE,defBody zAE,defScope zAE,[],[]⟩
abbrev zFC:He.DefD:=⟨("Shop",some "word"),"word","Shop.word",defArgs zA9,defBody zA9,defScope zA9,[],[]⟩
abbrev zXV:He.DefD:=⟨("Shop",some "deeds"),"deeds","Shop.deeds",defArgs zPh,defBody zPh,defScope zPh,[],[]⟩
abbrev zXL:He.DefD:=⟨("_law_is_form",none),"_law_is_form","_law_is_form",defArgs zQF,defBody zQF,defScope zQF,[],[]⟩
abbrev zX8:He.DefD:=⟨("_law_same",none),"_law_same","_law_same",defArgs zKK,defBody zKK,defScope zKK,[],[]⟩
abbrev zSt:He.DefD:=⟨("Stand",some "like"),"like","Stand.like",defArgs zH7,defBody zH7,defScope zH7,[],[]⟩
abbrev zFA:He.DefD:=⟨("need_form",none),"need_form","need_form",defArgs zA7,defBody zA7,defScope zA7,[],[]⟩
abbrev zFB:He.DefD:=⟨("need_deed",none),"need_deed","need_deed",defArgs zA8,defBody zA8,defScope zA8,[],[]⟩
abbrev zXK:He.DefD:=⟨("good_head",none),"good_head","good_head",defArgs zQE,defBody zQE,defScope zQE,[],[]⟩
abbrev zX1:He.DefD:=⟨("good_moment",none),"good_moment","good_moment",defArgs zNT,defBody zNT,defScope zNT,[],[]⟩
abbrev zXJ:He.DefD:=⟨("bar_fault",none),"bar_fault","bar_fault",defArgs zQD,defBody zQD,defScope zQD,[],[]⟩
abbrev zEL:He.DefD:=⟨("need_music",none),"need_music","need_music",defArgs zAZ,defBody zAZ,defScope zAZ,[],[]⟩
abbrev zHD:He.DefD:=⟨("put_bar",none),"put_bar","put_bar",defArgs zCc,defBody zCc,defScope zCc,[],[]⟩
abbrev zX3:He.DefD:=⟨("Stand",some "spot"),"spot","Stand.spot",defArgs zQM,defBody zQM,defScope zQM,[],[]⟩
abbrev zSs:He.DefD:=⟨("Stand",some "lies"),"lies","Stand.lies",defArgs zH6,defBody zH6,defScope zH6,[],[]⟩
abbrev zX2:He.DefD:=⟨("Stand",some "sweep"),"sweep","Stand.sweep",defArgs zPj,defBody zPj,defScope zPj,[],[]⟩
abbrev zEK:He.DefD:=⟨("put_change",none),"put_change","put_change",defArgs zA4,defBody zA4,defScope zA4,[],[]⟩
abbrev zHC:He.DefD:=⟨("put_cut",none),"put_cut","put_cut",defArgs zCb,defBody zCb,defScope zCb,[],[]⟩
abbrev zGE:He.DefD:=⟨("put_move",none),"put_move","put_move",defArgs zBM,defBody zBM,defScope zBM,[],[]⟩
abbrev zGF:He.DefD:=⟨("put_mark",none),"put_mark","put_mark",defArgs zBN,defBody zBN,defScope zBN,[],[]⟩
abbrev zGD:He.DefD:=⟨("put_wipe",none),"put_wipe","put_wipe",defArgs zBL,defBody zBL,defScope zBL,[],[]⟩
abbrev zHB:He.DefD:=⟨("put_end",none),"put_end","put_end",defArgs zCa,defBody zCa,defScope zCa,[],[]⟩
abbrev zFz:He.DefD:=⟨("put_paper",none),"put_paper","put_paper",defArgs zBg,defBody zBg,defScope zBg,[],[]⟩
abbrev zOR:He.DefD:=⟨("done",none),"done","done",defArgs zEC,defBody zEC,defScope zEC,[],[]⟩
abbrev zEM:He.DefD:=⟨("Shop",some "do"),"do","Shop.do",defArgs zAR,defBody zAR,defScope zAR,[],[]⟩
abbrev zXS:He.DefD:=⟨("listed",none),"listed","listed",defArgs zPg,defBody zPg,defScope zPg,[],[]⟩
abbrev zSr:He.DefD:=⟨("Shop",some "bars"),"bars","Shop.bars",defArgs zH5,defBody zH5,defScope zH5,[],[]⟩
abbrev zXU:He.DefD:=⟨("bars_told",none),"bars_told","bars_told",defArgs zRX,defBody zRX,defScope zRX,[],[]⟩
abbrev zDD:He.DefD:=⟨("Shop",some "undo"),"undo","Shop.undo",defArgs zAL,defBody zAL,defScope zAL,[],[]⟩
abbrev zFx:He.DefD:=⟨("undo_told",none),"undo_told","undo_told",defArgs zBe,defBody zBe,defScope zBe,[],[]⟩
abbrev zDE:He.DefD:=⟨("Shop",some "redo"),"redo","Shop.redo",defArgs zAM,defBody zAM,defScope zAM,[],[]⟩
abbrev zFy:He.DefD:=⟨("redo_told",none),"redo_told","redo_told",defArgs zBf,defBody zBf,defScope zBf,[],[]⟩
abbrev zX6:He.DefD:=⟨("number_in",none),"number_in","number_in",defArgs zPl,defBody zPl,defScope zPl,[],[]⟩
abbrev zX5:He.DefD:=⟨("numbers_in",none),"numbers_in","numbers_in",defArgs zPk,defBody zPk,defScope zPk,[],[]⟩
abbrev zXT:He.DefD:=⟨("pair_in",none),"pair_in","pair_in",defArgs zQK,defBody zQK,defScope zQK,[],[]⟩
abbrev zSu:He.DefD:=⟨("head_in",none),"head_in","head_in",defArgs zH8,defBody zH8,defScope zH8,[],[]⟩
abbrev zXR:He.DefD:=⟨("moment_in",none),"moment_in","moment_in",defArgs zPf,defBody zPf,defScope zPf,[],[]⟩
abbrev zXQ:He.DefD:=⟨("music_in",none),"music_in","music_in",defArgs zPe,defBody zPe,defScope zPe,[],[]⟩
abbrev zX0:He.DefD:=⟨("music_deed",none),"music_deed","music_deed",defArgs zR0,defBody zR0,defScope zR0,[],[]⟩
abbrev zXZ:He.DefD:=⟨("mark_deed",none),"mark_deed","mark_deed",defArgs zRZ,defBody zRZ,defScope zRZ,[],[]⟩
abbrev zX4:He.DefD:=⟨("end_deed",none),"end_deed","end_deed",defArgs zQN,defBody zQN,defScope zQN,[],[]⟩
abbrev zXY:He.DefD:=⟨("plain_deed",none),"plain_deed","plain_deed",defArgs zRY,defBody zRY,defScope zRY,[],[]⟩
abbrev zGG:He.DefD:=⟨("answered",none),"answered","answered",defArgs zBr,defBody zBr,defScope zBr,[],[]⟩
abbrev zX7:He.DefD:=⟨("Desk",some "say"),"say","Desk.say",defArgs zPm,defBody zPm,defScope zPm,[],[]⟩
abbrev zXX:He.DefD:=⟨("_law_pull",none),"_law_pull","_law_pull",defArgs zQL,defBody zQL,defScope zQL,[],[]⟩
abbrev zXO:He.DefD:=⟨("law",none),"law","law",defArgs zQI,defBody zQI,defScope zQI,[],[]⟩
def fas:List He.Fa:=
 .glo "Stand"::
 .cls "Stand"::
 .mkr "Stand"::
 .noat "Stand" "sheet"::
 .noat "Stand" "order"::
 .noat "Stand" "music"::
 .noat "Stand" "spans"::
 .noat "Stand" "bound"::
 .noat "Stand" "fresh"::
 .meth "Stand" "like"::
 .meth "Stand" "need_bar"::
 .meth "Stand" "spot"::
 .meth "Stand" "lies"::
 .meth "Stand" "sweep"::
 .glo "Shop"::
 .cls "Shop"::
 .mkr "Shop"::
 .noat "Shop" "now"::
 .noat "Shop" "past"::
 .noat "Shop" "gone"::
 .meth "Shop" "do"::
 .meth "Shop" "undo"::
 .meth "Shop" "redo"::
 .meth "Shop" "deeds"::
 .meth "Shop" "bars"::
 .meth "Shop" "word"::
 .meth "Shop" "mark"::
 .meth "Shop" "piece"::
 .glo "Desk"::
 .cls "Desk"::
 .mkr "Desk"::
 .noat "Desk" "shop"::
 .meth "Desk" "say"::
 .glo "DEEDS"::
 .glo "FORMS"::
 .glo "SINGLE"::
 .glo "SIZES"::
 .glo "BurinError"::
 .glo "Missing"::
 .glo "BadBar"::
 .glo "BadDeed"::
 .glo "BadPaper"::
 .glo "BadPlace"::
 .glo "BadSpan"::
 .glo "BadStaff"::
 .glo "BadThick"::
 .glo "BadWord"::
 .glo "Full"::
 .glo "NoBar"::
 .glo "NoBreak"::
 .glo "NoLine"::
 .glo "NoMark"::
 .glo "NoMoment"::
 .glo "Nothing"::
 .glo "Same"::
 .exm "NoBar" "BurinError" false::
 .exm "NoLine" "BurinError" false::
 .exm "NoMark" "BurinError" false::
 .exm "NoMoment" "BurinError" false::
 .exm "BadBar" "BurinError" true::
 .exm "BadDeed" "BurinError" true::
 .exm "BadPaper" "BurinError" true::
 .exm "BadPlace" "BurinError" true::
 .exm "BadSpan" "BurinError" true::
 .exm "BadStaff" "BurinError" true::
 .exm "BadThick" "BurinError" true::
 .exm "BadWord" "BurinError" true::
 .exm "Full" "BurinError" true::
 .exm "NoBar" "Missing" true::
 .exm "NoBreak" "BurinError" true::
 .exm "NoLine" "Missing" true::
 .exm "NoMark" "Missing" true::
 .exm "NoMoment" "Missing" true::
 .exm "Nothing" "BurinError" true::
 .exm "Same" "BurinError" true::
 .glo "_law_bag"::
 .glo "paper_pager"::
 .glo "_law_odd"::
 .glo "_law_is_form"::
 .glo "_law_same"::
 .glo "need_form"::
 .glo "need_deed"::
 .glo "good_head"::
 .glo "good_moment"::
 .glo "bar_fault"::
 .glo "need_music"::
 .glo "put_bar"::
 .glo "put_change"::
 .glo "put_cut"::
 .glo "put_move"::
 .glo "put_mark"::
 .glo "put_wipe"::
 .glo "put_end"::
 .glo "put_paper"::
 .glo "done"::
 .glo "listed"::
 .glo "bars_told"::
 .glo "undo_told"::
 .glo "redo_told"::
 .glo "number_in"::
 .glo "numbers_in"::
 .glo "pair_in"::
 .glo "head_in"::
 .glo "moment_in"::
 .glo "music_in"::
 .glo "music_deed"::
 .glo "mark_deed"::
 .glo "end_deed"::
 .glo "plain_deed"::
 .glo "answered"::
 .glo "_law_pull"::
 .glo "law"::
 .free "abs"::
 .free "all"::
 .free "bool"::
 .free "dict"::
 .free "enumerate"::
 .free "int"::
 .free "isinstance"::
 .free "len"::
 .free "list"::
 .free "range"::
 .free "repr"::
 .free "str"::
 .free "tuple"::
 .glo "BOUND"::
 .str "FIGURES" (PySem.Str.ofString "0123456789")::
 .str "FREE" (PySem.Str.ofString "free")::
 .int "HIGHEST" 12::
 .int "LAST_STAFF" 3::
 .str "LETTERS" (PySem.Str.ofString "abcdefghijklmnopqrstuvwxyz")::
 .int "LONGEST" 8::
 .int "MOST_BARS" 12::
 .int "MOST_BEATS" 32::
 .int "MOST_COST" 999::
 .int "MOST_FIGURES" 9::
 .int "MOST_HEADS" 8::
 .int "MOST_LINES" 6::
 .int "MOST_MARKS" 20::
 .int "MOST_MOMENTS" 6::
 .int "MOST_THICK" 9::
 .int "MOST_WORD" 40::
 .int "NARROWEST" 20::
 .glo "SIGNS"::
 .int "WIDEST" 400::
 []
def exs:List (PySem.W.Frag→Bool):=
 (fun K=>zCs K "DEEDS" "many" "put_many")::
 (fun K=>zCs K "DEEDS" "paper" "put_paper")::
 (fun K=>zCs K "DEEDS" "end" "put_end")::
 (fun K=>zCs K "DEEDS" "wipe" "put_wipe")::
 (fun K=>zCs K "DEEDS" "mark" "put_mark")::
 (fun K=>zCs K "DEEDS" "move" "put_move")::
 (fun K=>zCs K "DEEDS" "cut" "put_cut")::
 (fun K=>zCs K "DEEDS" "change" "put_change")::
 (fun K=>zCs K "DEEDS" "bar" "put_bar")::
 (fun K=>zCs K "FORMS" "paper" "plain_deed")::
 (fun K=>zCs K "FORMS" "wipe" "plain_deed")::
 (fun K=>zCs K "FORMS" "move" "plain_deed")::
 (fun K=>zCs K "FORMS" "cut" "plain_deed")::
 (fun K=>zCs K "FORMS" "end" "end_deed")::
 (fun K=>zCs K "FORMS" "mark" "mark_deed")::
 (fun K=>zCs K "FORMS" "change" "music_deed")::
 (fun K=>zCs K "FORMS" "bar" "music_deed")::
 (fun K=>zCs K "SINGLE" "redo" "redo_told")::
 (fun K=>zCs K "SINGLE" "undo" "undo_told")::
 (fun K=>zCs K "SINGLE" "cost" "cost_told")::
 (fun K=>zCs K "SINGLE" "layout" "layout_told")::
 (fun K=>zCs K "SINGLE" "marks" "marks_told")::
 (fun K=>zCs K "SINGLE" "bars" "bars_told")::
 (fun K=>zUc K "SIZES" "strike")::
 (fun K=>zUc K "SIZES" "Cut")::
 (fun K=>zUc K "SIZES" "Bar")::
 (fun K=>zHA K "SIZES" "many" 2)::
 (fun K=>zHA K "SIZES" "paper" 6)::
 (fun K=>zHA K "SIZES" "end" 3)::
 (fun K=>zHA K "SIZES" "wipe" 2)::
 (fun K=>zHA K "SIZES" "mark" 5)::
 (fun K=>zHA K "SIZES" "move" 3)::
 (fun K=>zHA K "SIZES" "cut" 2)::
 (fun K=>zHA K "SIZES" "change" 3)::
 (fun K=>zHA K "SIZES" "bar" 3)::
 (fun K=>zYg K (He.ga K "BurinError"))::
 (fun K=>zYg K (He.ga K "Missing"))::
 (fun K=>zFT K (He.ga K "BadBar") ["says","place"])::
 (fun K=>zFT K (He.ga K "BadDeed") ["says"])::
 (fun K=>zFT K (He.ga K "BadPaper") ["says"])::
 (fun K=>zFT K (He.ga K "BadPlace") ["says"])::
 (fun K=>zFT K (He.ga K "BadSpan") ["says"])::
 (fun K=>zFT K (He.ga K "BadStaff") ["says"])::
 (fun K=>zFT K (He.ga K "BadThick") ["says"])::
 (fun K=>zFT K (He.ga K "BadWord") ["says"])::
 (fun K=>zFT K (He.ga K "Full") ["says"])::
 (fun K=>zRq K (He.ga K "NoBar") ["says","number"])::
 (fun K=>zFT K (He.ga K "NoBreak") ["says","tight"])::
 (fun K=>zRq K (He.ga K "NoLine") ["says","number"])::
 (fun K=>zRq K (He.ga K "NoMark") ["says","number"])::
 (fun K=>zRq K (He.ga K "NoMoment") ["says","number"])::
 (fun K=>zFT K (He.ga K "Nothing") ["says"])::
 (fun K=>zFT K (He.ga K "Same") ["says"])::
 (fun K=>He.tupB K "BOUND" [.str (PySem.Str.ofString "must"),.str (PySem.Str.ofString "never")])::
 (fun K=>He.tupB K "SIGNS" [.str (PySem.Str.ofString ""),.str (PySem.Str.ofString "s"),.str (PySem.Str.ofString "f"),.str (PySem.Str.ofString "n")])::
 []
def dds:List He.DefD:=
 zEQ::
 zHH::
 zJZ::
 zHK::
 zGO::
 zGN::
 zHJ::
 zGM::
 zGL::
 zHI::
 zO0::
 zMo::
 zHG::
 zJY::
 zJX::
 zGK::
 zHF::
 zOZ::
 zXN::
 zXP::
 zMj::
 zFD::
 zFE::
 zXM::
 zXW::
 zDF::
 zC2::
 zFC::
 zXV::
 zXL::
 zX8::
 zSt::
 zFA::
 zFB::
 zXK::
 zX1::
 zXJ::
 zEL::
 zHD::
 zX3::
 zSs::
 zX2::
 zEK::
 zHC::
 zGE::
 zGF::
 zGD::
 zHB::
 zFz::
 zOR::
 zEM::
 zXS::
 zSr::
 zXU::
 zDD::
 zFx::
 zDE::
 zFy::
 zX6::
 zX5::
 zXT::
 zSu::
 zXR::
 zXQ::
 zX0::
 zXZ::
 zX4::
 zXY::
 zGG::
 zX7::
 zXX::
 zXO::
 []
def tas:List He.Tab:=
 ((fun K=>He.ga K "DEEDS"),["bar","change","cut","move","mark","wipe","end","paper","many"])::
 ((fun K=>He.ga K "FORMS"),["bar","change","mark","end","cut","move","wipe","paper"])::
 ((fun K=>He.ga K "SINGLE"),["bars","marks","layout","cost","undo","redo"])::
 ((fun K=>He.ga K "SIZES"),["bar","change","cut","move","mark","wipe","end","paper","many"])::
 []
def tfs:List He.Defn:=
 []
def nms:List PySem.Str:=
 ("_wall":PySem.Str)::
 ("__name__":PySem.Str)::
 ("BurinError":PySem.Str)::
 ("Missing":PySem.Str)::
 ("BadPart":PySem.Str)::
 ("BadPaper":PySem.Str)::
 ("BadEnds":PySem.Str)::
 ("BadPlace":PySem.Str)::
 ("BadStaff":PySem.Str)::
 ("BadSpan":PySem.Str)::
 ("BadThick":PySem.Str)::
 ("BadWord":PySem.Str)::
 ("Same":PySem.Str)::
 ("Full":PySem.Str)::
 ("BadDeed":PySem.Str)::
 ("Nothing":PySem.Str)::
 ("BadBar":PySem.Str)::
 ("TooTight":PySem.Str)::
 ("NoBreak":PySem.Str)::
 ("NoBar":PySem.Str)::
 ("NoMoment":PySem.Str)::
 ("NoMark":PySem.Str)::
 ("NoLine":PySem.Str)::
 ("NOUGHT":PySem.Str)::
 ("ONE":PySem.Str)::
 ("common":PySem.Str)::
 ("part":PySem.Str)::
 ("plus":PySem.Str)::
 ("less":PySem.Str)::
 ("times":PySem.Str)::
 ("over":PySem.Str)::
 ("over_parts":PySem.Str)::
 ("below":PySem.Str)::
 ("ceiling_of":PySem.Str)::
 ("total":PySem.Str)::
 ("part_text":PySem.Str)::
 ("under_all":PySem.Str)::
 ("needed":PySem.Str)::
 ("solved":PySem.Str)::
 ("Balance":PySem.Str)::
 ("settled":PySem.Str)::
 ("standing":PySem.Str)::
 ("energy":PySem.Str)::
 ("MOST_MOMENTS":PySem.Str)::
 ("MOST_BEATS":PySem.Str)::
 ("MOST_HEADS":PySem.Str)::
 ("MOST_WORD":PySem.Str)::
 ("LAST_STAFF":PySem.Str)::
 ("HIGHEST":PySem.Str)::
 ("SIGNS":PySem.Str)::
 ("WORDS":PySem.Str)::
 ("CLEAR_bars":PySem.Str)::
 ("GAP":PySem.Str)::
 ("good_head":PySem.Str)::
 ("good_moment":PySem.Str)::
 ("bar_fault":PySem.Str)::
 ("shifted":PySem.Str)::
 ("columns":PySem.Str)::
 ("reach":PySem.Str)::
 ("things":PySem.Str)::
 ("rods":PySem.Str)::
 ("springs":PySem.Str)::
 ("line_rods":PySem.Str)::
 ("line_springs":PySem.Str)::
 ("WIDTH":PySem.Str)::
 ("LINES":PySem.Str)::
 ("FEE":PySem.Str)::
 ("TURN":PySem.Str)::
 ("SPARE":PySem.Str)::
 ("NARROWEST":PySem.Str)::
 ("WIDEST":PySem.Str)::
 ("MOST_LINES":PySem.Str)::
 ("MOST_COST":PySem.Str)::
 ("HAND":PySem.Str)::
 ("BOUND":PySem.Str)::
 ("paper":PySem.Str)::
 ("paper_pager":PySem.Str)::
 ("hand_free":PySem.Str)::
 ("line_cost":PySem.Str)::
 ("told_ends":PySem.Str)::
 ("line_let":PySem.Str)::
 ("Table":PySem.Str)::
 ("Layout":PySem.Str)::
 ("layout":PySem.Str)::
 ("layout_pager":PySem.Str)::
 ("good_pages":PySem.Str)::
 ("cost":PySem.Str)::
 ("cost_pager":PySem.Str)::
 ("BEAT":PySem.Str)::
 ("STEM":PySem.Str)::
 ("SLANT":PySem.Str)::
 ("STEEPEST":PySem.Str)::
 ("heads_on":PySem.Str)::
 ("groups":PySem.Str)::
 ("stems_up":PySem.Str)::
 ("Slope":PySem.Str)::
 ("beam":PySem.Str)::
 ("FLOOR":PySem.Str)::
 ("CLEAR_boxes":PySem.Str)::
 ("LEAST":PySem.Str)::
 ("over_boxes":PySem.Str)::
 ("in_turn":PySem.Str)::
 ("laid":PySem.Str)::
 ("apart":PySem.Str)::
 ("STAVES":PySem.Str)::
 ("Line":PySem.Str)::
 ("drawn":PySem.Str)::
 ("MOST_BARS":PySem.Str)::
 ("MOST_MARKS":PySem.Str)::
 ("MOST_THICK":PySem.Str)::
 ("FREE":PySem.Str)::
 ("Stand":PySem.Str)::
 ("need_music":PySem.Str)::
 ("put_bar":PySem.Str)::
 ("put_change":PySem.Str)::
 ("put_cut":PySem.Str)::
 ("put_move":PySem.Str)::
 ("put_mark":PySem.Str)::
 ("put_wipe":PySem.Str)::
 ("put_end":PySem.Str)::
 ("put_paper":PySem.Str)::
 ("put_many":PySem.Str)::
 ("DEEDS":PySem.Str)::
 ("SIZES":PySem.Str)::
 ("need_form":PySem.Str)::
 ("need_deed":PySem.Str)::
 ("done":PySem.Str)::
 ("Shop":PySem.Str)::
 ("FIGURES":PySem.Str)::
 ("MOST_FIGURES":PySem.Str)::
 ("number_in":PySem.Str)::
 ("numbers_in":PySem.Str)::
 ("pair_in":PySem.Str)::
 ("head_in":PySem.Str)::
 ("moment_in":PySem.Str)::
 ("music_in":PySem.Str)::
 ("LETTERS":PySem.Str)::
 ("LONGEST":PySem.Str)::
 ("listed":PySem.Str)::
 ("music_deed":PySem.Str)::
 ("mark_deed":PySem.Str)::
 ("end_deed":PySem.Str)::
 ("plain_deed":PySem.Str)::
 ("FORMS":PySem.Str)::
 ("bars_told":PySem.Str)::
 ("marks_told":PySem.Str)::
 ("layout_told":PySem.Str)::
 ("cost_told":PySem.Str)::
 ("undo_told":PySem.Str)::
 ("redo_told":PySem.Str)::
 ("SINGLE":PySem.Str)::
 ("answered":PySem.Str)::
 ("Desk":PySem.Str)::
 ("_law_bag":PySem.Str)::
 ("_law_same":PySem.Str)::
 ("_law_odd":PySem.Str)::
 ("_law_pull":PySem.Str)::
 ("_law_is_form":PySem.Str)::
 []
abbrev Rw:PySem.W.OpenRow:=PySem.W.OpenLaw.row PySem.Challenge.rw_burinleaf_k63_lines_of_no_form
abbrev qv:Program:=PySem.W.view Rw.prog [171]
def ads:List Addr:=
 3::6::39::38::60::59::80::79::99::98::118::117::137::136::156::155::175::174::194::193::
 213::212::232::231::251::250::270::269::289::288::308::307::327::326::346::345::365::364::384::383::
 403::402::422::421::425::426::582::581::609::677::748::747::803::802::870::869::957::956::1023::1022::
 1096::1097::1296::1295::1366::1409::1439::1438::2::36::35::29::57::56::50::305::304::267::266::96::
 95::134::133::172::171::153::152::191::190::210::209::248::247::362::361::343::342::419::418::400::
 399::381::380::286::285::229::228::1450::1449::982::981::683::682::678::1133::1132::1126::1429::1428::1422::
 1462::1461::1248::1247::1229::1228::1001::1000::1222::1221::1180::1179::1476::1475::1455::1454::989::988::1104::1103::
 1111::1110::616::615::621::620::628::627::1034::1033::1041::1040::1008::1007::1015::1014::1020::1019::1048::1047::
 1055::1054::1062::1061::1069::1068::1076::1075::1083::1082::1090::1089::1118::1117::1161::1160::1339::1338::1201::1200::
 1373::1372::1168::1167::1401::1400::1175::1174::1408::1407::1305::1304::1310::1309::1317::1316::1324::1323::1329::1328::
 1334::1333::1346::1345::1353::1352::1358::1357::1365::1364::1414::1413::1436::1435::1469::1468::1483::1482::
 []
abbrev hk:PySem.W.Hook:=zRl ads fas dds tas tfs (zUZ exs)
def ob(s:PySem.W.SharedT):He.AlX:=zR8 ads fas dds tas tfs (zUZ exs) (HandSHeadRun.getT s)
theorem ob_eq(s:PySem.W.SharedT):ob s=hk.obs s.abs:=zTD (HandSHeadRun.getT_eq s)
theorem zLJ{r:PySem.W.OpenRow}{q:Program}{M:Nat}{loose:List Str}{as:List Addr}{fa:List He.Fa}{fn:List He.DefD}{ts:List He.Tab}{tf:List He.Defn}{ex:PySem.W.Frag→Bool}{w:World}(i k l:Nat)(hkl:k≤l)
  (ha:zHe r M w (fun s=>HandSHeadRun.looksF r.prog (PySem.W.boot_heap w.params) s.abs) true)
  (hb:zHe r M w (fun s=>HandSHeadRun.seenQ q loose (importedModules r.prog.main.body) (fun s=>PySem.W.xlAt q [] s&&PySem.W.recOk r.toRowW.records s) s.abs) (PySem.W.openGood q loose))
  (h1:zHe r M w (fun s=>((fa.take i).all (fun f=>f.ok (He.frT (HandSHeadRun.getT s) as)),ts.map (fun t=>He.dicW (He.frT (HandSHeadRun.getT s) as) (t.1 (He.frT (HandSHeadRun.getT s) as))),ex (He.frT (HandSHeadRun.getT s) as)&&He.tabsB (HandSHeadRun.getT s) tf (He.frT (HandSHeadRun.getT s) as))) (true,ts.map (fun t=>some (He.keysIn w.params t.2)),true))
  (h2:zHe r M w (fun s=>((fa.drop i).all (fun f=>f.ok (He.frT (HandSHeadRun.getT s) as)),(fn.take k).all (fun d=>d.ok (He.frT (HandSHeadRun.getT s) as)),(fn.take k).map (fun d=>He.fnW (He.frT (HandSHeadRun.getT s) as) d.at_))) (true,true,(fn.take k).map He.DefD.val))
  (h3:zHe r M w (fun s=>(((fn.drop k).take (l-k)).all (fun d=>d.ok (He.frT (HandSHeadRun.getT s) as)),((fn.drop k).take (l-k)).map (fun d=>He.fnW (He.frT (HandSHeadRun.getT s) as) d.at_))) (true,((fn.drop k).take (l-k)).map He.DefD.val))
  (h4:zHe r M w (fun s=>((fn.drop l).all (fun d=>d.ok (He.frT (HandSHeadRun.getT s) as)),(fn.drop l).map (fun d=>He.fnW (He.frT (HandSHeadRun.getT s) as) d.at_))) (true,(fn.drop l).map He.DefD.val)):
  HandSHeadRun.RunEq r q (zRl as fa fn ts tf ex) (fun s=>zR8 as fa fn ts tf ex (HandSHeadRun.getT s)) M loose w:=by
 refine zTf (fun os=>?_) (fun os=>?_) (fun os=>?_)
 ·obtain⟨s,hs,e⟩:=Option.map_eq_some_iff.mp (hb os)
  have e1:=ha os
  rw[hs] at e1⊢
  exact congrArg some (Prod.ext (Option.some.inj e1) e)
 ·obtain⟨s,hs,e⟩:=Option.map_eq_some_iff.mp (h1 os)
  have e2:=h2 os
  rw[hs] at e2⊢
  obtain⟨b,_⟩:=Prod.mk.inj (Option.some.inj e2)
  obtain⟨c,d⟩:=Prod.mk.inj e
  refine congrArg some (Prod.ext ?_ d)
  show fa.all _=true
  rw[←List.take_append_drop i fa,List.all_append,c,Bool.true_and]
  exact b
 ·obtain⟨s,hs,e⟩:=Option.map_eq_some_iff.mp (h2 os)
  have e3:=h3 os
  have e4:=h4 os
  rw[hs] at e3 e4⊢
  obtain⟨_,a⟩:=Prod.mk.inj e
  obtain⟨a1,a2⟩:=Prod.mk.inj a
  obtain⟨b1,b2⟩:=Prod.mk.inj (Option.some.inj e3)
  obtain⟨c1,c2⟩:=Prod.mk.inj (Option.some.inj e4)
  have sp:fn=fn.take k++((fn.drop k).take (l-k)++fn.drop l):=by
   have:(fn.drop k).take (l-k)++fn.drop l=fn.drop k:=by
    have e:=List.take_append_drop (l-k) (fn.drop k)
    rw[List.drop_drop,Nat.add_sub_cancel' hkl] at e
    exact e
   rw[this,List.take_append_drop]
  refine congrArg some (Prod.ext ?_ ?_)
  ·show fn.all _=true
   rw[sp,List.all_append,List.all_append,a1,b1,c1]
   rfl
  ·show fn.map _=fn.map _
   rw[sp,List.map_append,List.map_append,a2,b2,c2,List.map_append,List.map_append]
theorem zTj(w:World):zHe Rw 14000 (w.withFollow "special-get-raises" false) (fun s=>HandSHeadRun.looksF Rw.prog (PySem.W.boot_heap (w.withFollow "special-get-raises" false).params) s.abs) true:=by
 intro os
 kernel_rfl
theorem zTi(w:World):zHe Rw 14000 (w.withFollow "special-get-raises" true) (fun s=>HandSHeadRun.looksF Rw.prog (PySem.W.boot_heap (w.withFollow "special-get-raises" true).params) s.abs) true:=by
 intro os
 kernel_rfl
theorem zTh(w:World):zHe Rw 14000 (w.withFollow "special-get-raises" false) (fun s=>HandSHeadRun.seenQ qv nms (importedModules Rw.prog.main.body) (fun s=>PySem.W.xlAt qv [] s&&PySem.W.recOk Rw.toRowW.records s) s.abs) (PySem.W.openGood qv nms):=by
 intro os
 kernel_rfl
theorem zTg(w:World):zHe Rw 14000 (w.withFollow "special-get-raises" true) (fun s=>HandSHeadRun.seenQ qv nms (importedModules Rw.prog.main.body) (fun s=>PySem.W.xlAt qv [] s&&PySem.W.recOk Rw.toRowW.records s) s.abs) (PySem.W.openGood qv nms):=by
 intro os
 kernel_rfl
theorem zWb(w:World):zHe Rw 14000 (w.withFollow "special-get-raises" false) (fun s=>((fas.take 100).all (fun d=>d.ok (He.frT (HandSHeadRun.getT s) ads)),tas.map (fun t=>He.dicW (He.frT (HandSHeadRun.getT s) ads) (t.1 (He.frT (HandSHeadRun.getT s) ads))),zUZ exs (He.frT (HandSHeadRun.getT s) ads)&&He.tabsB (HandSHeadRun.getT s) tfs (He.frT (HandSHeadRun.getT s) ads))) (true,tas.map (fun t=>some (He.keysIn (w.withFollow "special-get-raises" false).params t.2)),true):=by
 intro os
 kernel_rfl
theorem zV9(w:World):zHe Rw 14000 (w.withFollow "special-get-raises" false) (fun s=>((fas.drop 100).all (fun d=>d.ok (He.frT (HandSHeadRun.getT s) ads)),(dds.take 24).all (fun d=>d.ok (He.frT (HandSHeadRun.getT s) ads)),(dds.take 24).map (fun d=>He.fnW (He.frT (HandSHeadRun.getT s) ads) d.at_))) (true,true,(dds.take 24).map He.DefD.val):=by
 intro os
 kernel_rfl
theorem zV7(w:World):zHe Rw 14000 (w.withFollow "special-get-raises" false) (fun s=>(((dds.drop 24).take (48-24)).all (fun d=>d.ok (He.frT (HandSHeadRun.getT s) ads)),((dds.drop 24).take (48-24)).map (fun d=>He.fnW (He.frT (HandSHeadRun.getT s) ads) d.at_))) (true,((dds.drop 24).take (48-24)).map He.DefD.val):=by
 intro os
 kernel_rfl
theorem zV5(w:World):zHe Rw 14000 (w.withFollow "special-get-raises" false) (fun s=>((dds.drop 48).all (fun d=>d.ok (He.frT (HandSHeadRun.getT s) ads)),(dds.drop 48).map (fun d=>He.fnW (He.frT (HandSHeadRun.getT s) ads) d.at_))) (true,(dds.drop 48).map He.DefD.val):=by
 intro os
 kernel_rfl
theorem zWa(w:World):zHe Rw 14000 (w.withFollow "special-get-raises" true) (fun s=>((fas.take 100).all (fun d=>d.ok (He.frT (HandSHeadRun.getT s) ads)),tas.map (fun t=>He.dicW (He.frT (HandSHeadRun.getT s) ads) (t.1 (He.frT (HandSHeadRun.getT s) ads))),zUZ exs (He.frT (HandSHeadRun.getT s) ads)&&He.tabsB (HandSHeadRun.getT s) tfs (He.frT (HandSHeadRun.getT s) ads))) (true,tas.map (fun t=>some (He.keysIn (w.withFollow "special-get-raises" true).params t.2)),true):=by
 intro os
 kernel_rfl
theorem zV8(w:World):zHe Rw 14000 (w.withFollow "special-get-raises" true) (fun s=>((fas.drop 100).all (fun d=>d.ok (He.frT (HandSHeadRun.getT s) ads)),(dds.take 24).all (fun d=>d.ok (He.frT (HandSHeadRun.getT s) ads)),(dds.take 24).map (fun d=>He.fnW (He.frT (HandSHeadRun.getT s) ads) d.at_))) (true,true,(dds.take 24).map He.DefD.val):=by
 intro os
 kernel_rfl
theorem zV6(w:World):zHe Rw 14000 (w.withFollow "special-get-raises" true) (fun s=>(((dds.drop 24).take (48-24)).all (fun d=>d.ok (He.frT (HandSHeadRun.getT s) ads)),((dds.drop 24).take (48-24)).map (fun d=>He.fnW (He.frT (HandSHeadRun.getT s) ads) d.at_))) (true,((dds.drop 24).take (48-24)).map He.DefD.val):=by
 intro os
 kernel_rfl
theorem zV4(w:World):zHe Rw 14000 (w.withFollow "special-get-raises" true) (fun s=>((dds.drop 48).all (fun d=>d.ok (He.frT (HandSHeadRun.getT s) ads)),(dds.drop 48).map (fun d=>He.fnW (He.frT (HandSHeadRun.getT s) ads) d.at_))) (true,(dds.drop 48).map He.DefD.val):=by
 intro os
 kernel_rfl
theorem zZx(w:World):HandSHeadRun.RunEq Rw qv hk ob 14000 nms (w.withFollow "special-get-raises" false):=zLJ 100 24 48 (by decide) (zTj w) (zTh w) (zWb w) (zV9 w) (zV7 w) (zV5 w)
theorem zZw(w:World):HandSHeadRun.RunEq Rw qv hk ob 14000 nms (w.withFollow "special-get-raises" true):=zLJ 100 24 48 (by decide) (zTi w) (zTg w) (zWa w) (zV8 w) (zV6 w) (zV4 w)
theorem run_a(w:World):HandSHeadRun.RunEq Rw qv hk ob 14000 nms w:=PySem.W.byRow2 "special-get-raises" (P:=fun w=>HandSHeadRun.RunEq Rw qv hk ob 14000 nms w) zZx zZw w
theorem zUN:TablesWhole.wSs TablesWhole.gather Rw.prog.main.scope ⟨Rw.prog.main.scope,[],[],[],none⟩ Rw.prog.main.scope Rw.prog.main.body=[]:=by kernel_rfl
theorem yBs:TablesWhole.noTwice Rw.prog.main.scope=true:=by kernel_rfl
theorem yBt:WTab Rw.prog [] 0 33:=by kernel_rfl
theorem zZk:WTab Rw.prog [] 33 33:=by kernel_rfl
theorem zZj:WTab Rw.prog [] 66 33:=by kernel_rfl
theorem zZi:WTab Rw.prog [] 99 33:=by kernel_rfl
theorem zU3:WTab Rw.prog [] 132 33:=by kernel_rfl
theorem zU2:WTab Rw.prog [] 165 33:=by kernel_rfl
theorem wt_bare:Rw.prog.bare:=WTab.bare rfl rfl rfl rfl (by kernel_rfl) zUN yBs (by kernel_rfl) (WTab.cut (WTab.cut (WTab.cut (WTab.cut (WTab.cut yBt zZk) zZj) zZi) zU3) zU2)
def lkW:PySem.W.Look:={strict:=false,foot:=none}
def zUY(bn:List PySem.Str):Scope→PySem.Str→Option PySem.Pos→Bool:=fun sc n _=>
 match sc.names.lookup n with
 | some .globalImplicit | some .globalExplicit=>bn.contains n||n==("__name__":PySem.Str)||n==("__debug__":PySem.Str)||(PySem.W.builtinNamed n&&!PySem.W.worldNames.contains n&&!n.opensWith "__")
 |_=>true
def zG0(x:PySem.Str):Scope→PySem.Str→Option PySem.Pos→Bool:=fun sc n _=>n !=x||!(sc.names.lookup n==some .globalImplicit||sc.names.lookup n==some .globalExplicit)
theorem zVv:NRd Rw.prog lkW 0 33:=by delta NRd;k_qdec
theorem zS1:NRd Rw.prog lkW 33 33:=by delta NRd;k_qdec
theorem zS0:NRd Rw.prog lkW 66 33:=by delta NRd;k_qdec
theorem zSZ:NRd Rw.prog lkW 99 33:=by delta NRd;k_qdec
theorem zQr:NRd Rw.prog lkW 132 33:=by delta NRd;k_qdec
theorem zQq:NRd Rw.prog lkW 165 33:=by delta NRd;k_qdec
theorem zVw:WNm (zUY Rw.prog.boundNames) Rw.prog [] 0 33:=by delta WNm;k_qdec
theorem zS4:WNm (zUY Rw.prog.boundNames) Rw.prog [] 33 33:=by delta WNm;k_qdec
theorem zS3:WNm (zUY Rw.prog.boundNames) Rw.prog [] 66 33:=by delta WNm;k_qdec
theorem zS2:WNm (zUY Rw.prog.boundNames) Rw.prog [] 99 33:=by delta WNm;k_qdec
theorem zQt:WNm (zUY Rw.prog.boundNames) Rw.prog [] 132 33:=by delta WNm;k_qdec
theorem zQs:WNm (zUY Rw.prog.boundNames) Rw.prog [] 165 33:=by delta WNm;k_qdec
theorem zVx:WNm (fun _ n _=>PySem.W.attrL n) Rw.prog [] 0 33:=by delta WNm;k_qdec
theorem zS7:WNm (fun _ n _=>PySem.W.attrL n) Rw.prog [] 33 33:=by delta WNm;k_qdec
theorem zS6:WNm (fun _ n _=>PySem.W.attrL n) Rw.prog [] 66 33:=by delta WNm;k_qdec
theorem zS5:WNm (fun _ n _=>PySem.W.attrL n) Rw.prog [] 99 33:=by delta WNm;k_qdec
theorem zQw:WNm (fun _ n _=>PySem.W.attrL n) Rw.prog [] 132 33:=by delta WNm;k_qdec
theorem zQv:WNm (fun _ n _=>PySem.W.attrL n) Rw.prog [] 165 33:=by delta WNm;k_qdec
theorem zNM:WNm (zG0 ("vars":PySem.Str)) Rw.prog [] 0 33:=by delta WNm;k_qdec
theorem zML:WNm (zG0 ("vars":PySem.Str)) Rw.prog [] 33 33:=by delta WNm;k_qdec
theorem zMK:WNm (zG0 ("vars":PySem.Str)) Rw.prog [] 66 33:=by delta WNm;k_qdec
theorem zMJ:WNm (zG0 ("vars":PySem.Str)) Rw.prog [] 99 33:=by delta WNm;k_qdec
theorem zKE:WNm (zG0 ("vars":PySem.Str)) Rw.prog [] 132 33:=by delta WNm;k_qdec
theorem zKD:WNm (zG0 ("vars":PySem.Str)) Rw.prog [] 165 33:=by delta WNm;k_qdec
theorem zQu:WNm (zG0 ("dir":PySem.Str)) Rw.prog [] 0 33:=by delta WNm;k_qdec
theorem zNP:WNm (zG0 ("dir":PySem.Str)) Rw.prog [] 33 33:=by delta WNm;k_qdec
theorem zNO:WNm (zG0 ("dir":PySem.Str)) Rw.prog [] 66 33:=by delta WNm;k_qdec
theorem zNN:WNm (zG0 ("dir":PySem.Str)) Rw.prog [] 99 33:=by delta WNm;k_qdec
theorem zMN:WNm (zG0 ("dir":PySem.Str)) Rw.prog [] 132 33:=by delta WNm;k_qdec
theorem zMM:WNm (zG0 ("dir":PySem.Str)) Rw.prog [] 165 33:=by delta WNm;k_qdec
theorem zKF:WNm (zG0 ("locals":PySem.Str)) Rw.prog [] 0 33:=by delta WNm;k_qdec
theorem zJh:WNm (zG0 ("locals":PySem.Str)) Rw.prog [] 33 33:=by delta WNm;k_qdec
theorem zJg:WNm (zG0 ("locals":PySem.Str)) Rw.prog [] 66 33:=by delta WNm;k_qdec
theorem zJf:WNm (zG0 ("locals":PySem.Str)) Rw.prog [] 99 33:=by delta WNm;k_qdec
theorem zHZ:WNm (zG0 ("locals":PySem.Str)) Rw.prog [] 132 33:=by delta WNm;k_qdec
theorem zHY:WNm (zG0 ("locals":PySem.Str)) Rw.prog [] 165 33:=by delta WNm;k_qdec
theorem zQ5:PySem.W.readsOut Rw.prog Rw.prog.main.body ("vars":PySem.Str)=false:=by
 have h:PySem.W.namesMeet Rw.prog Rw.prog.main.body (fun sc n=>zG0 ("vars":PySem.Str) sc n none)=true:=WNm.whole zUN (by kernel_rfl) (WNm.cut (WNm.cut (WNm.cut (WNm.cut (WNm.cut zNM zML) zMK) zMJ) zKE) zKD)
 exact congrArg (fun z=>!z) h
theorem zTB:PySem.W.readsOut Rw.prog Rw.prog.main.body ("dir":PySem.Str)=false:=by
 have h:PySem.W.namesMeet Rw.prog Rw.prog.main.body (fun sc n=>zG0 ("dir":PySem.Str) sc n none)=true:=WNm.whole zUN (by kernel_rfl) (WNm.cut (WNm.cut (WNm.cut (WNm.cut (WNm.cut zQu zNP) zNO) zNN) zMN) zMM)
 exact congrArg (fun z=>!z) h
theorem zMV:PySem.W.readsOut Rw.prog Rw.prog.main.body ("locals":PySem.Str)=false:=by
 have h:PySem.W.namesMeet Rw.prog Rw.prog.main.body (fun sc n=>zG0 ("locals":PySem.Str) sc n none)=true:=WNm.whole zUN (by kernel_rfl) (WNm.cut (WNm.cut (WNm.cut (WNm.cut (WNm.cut zKF zJh) zJg) zJf) zHZ) zHY)
 exact congrArg (fun z=>!z) h
theorem yAk:({strict:=!(importedModules Rw.prog.main.body).all PySem.W.cThrough.contains,foot:=none,bare:=(["vars","dir","locals"]:List PySem.Str).filter (PySem.W.readsOut Rw.prog Rw.prog.main.body)}:PySem.W.Look)=lkW:=by
 unfold lkW
 rw[show(!(importedModules Rw.prog.main.body).all PySem.W.cThrough.contains)=false from by kernel_rfl]
 rw[List.filter_cons_of_neg (by rw[zQ5];decide),List.filter_cons_of_neg (by rw[zTB];decide),List.filter_cons_of_neg (by rw[zMV];decide),List.filter_nil]
theorem zW5:PySem.W.noRoadLSs {strict:=!(importedModules Rw.prog.main.body).all PySem.W.cThrough.contains,foot:=none,bare:=(["vars","dir","locals"]:List PySem.Str).filter (PySem.W.readsOut Rw.prog Rw.prog.main.body)} Rw.prog.main.body=true:=NRd.whole yAk (by kernel_rfl) (NRd.cut (NRd.cut (NRd.cut (NRd.cut (NRd.cut zVv zS1) zS0) zSZ) zQr) zQq)
theorem zW6:PySem.W.namesResolve Rw.prog=true:=WNm.whole zUN (by kernel_rfl) (WNm.cut (WNm.cut (WNm.cut (WNm.cut (WNm.cut zVw zS4) zS3) zS2) zQt) zQs)
theorem zW8:PySem.W.namesMeet Rw.prog Rw.prog.main.body (fun _ n=>PySem.W.attrL n)=true:=WNm.whole zUN (by kernel_rfl) (WNm.cut (WNm.cut (WNm.cut (WNm.cut (WNm.cut zVx zS7) zS6) zS5) zQw) zQv)
theorem said:PySem.W.OpenLaw.wellSaid PySem.Challenge.rw_burinleaf_k63_lines_of_no_form=true:=by
 delta PySem.W.OpenLaw.wellSaid PySem.W.OpenRow.wellSaid PySem.W.OpenRow.partSaid PySem.W.looksOpen
 repeat' with_reducible refine PySem.W.look_both ?_ ?_
 all_goals first|with_reducible exact zW5|with_reducible exact zW6|with_reducible exact zW8|k_qdec
end Lw
def qa:=@List.forall_mem_cons
def qb:=@if_neg
def qd:=@List.length_map
def qe:=@if_pos
def qf:=@List.getElem?_eq_some_iff
def qg:=@List.getElem?_eq_getElem
def qh:=@List.mem_singleton
def qi:=@List.length_cons
def qj:=@List.mem_cons
def qk:=@Bool.false_eq_true
def ql:=@Ne.symm
def qm:=@decide_eq_false
def qo:=@Nat.le_trans
def qp:=@decide_eq_true_eq
def qr:=@List.map_cons
def qt:=@List.not_mem_nil
def qw:=@List.getD_eq_getElem?_getD
def qx:=@decide_eq_true
def qy:=@List.mem_map
def qz:=@List.mem_cons_self
def qA:=@List.mem_cons_of_mem
def qB:=@List.getElem?_cons_succ
def qC:=@List.mem_range
def qD:=@List.mem_append
def qE:=@Bool.and_eq_true
def qF:=@List.getElem?_map
def qG:=@Nat.le_refl
def qH:=@decide_true
def qI:=@List.mem_of_getElem?
def qJ:=@List.getElem?_cons_zero
def qK:=@List.map_append
def qL:=@List.length_append
def qM:=@Option.isSome_iff_exists
def qN:=@List.map_nil
def qO:=@decide_false
def qP:=@Bool.false_ne_true
def qQ:=@Nat.lt_of_lt_of_le
def qR:=@Nat.zero_le
def qS:=@Nat.mul_le_mul_right
def qT:=@List.length_nil
def qU:=@List.length_reverse
def qV:=@Array.length_toList
def qW:=@or_false
def qX:=@if_false
def qY:=@Nat.pow_le_pow_right
def qZ:=@Bool.not_false
def ja:=@List.map_map
def jb:=@Option.some.inj
def jc:=@List.filter_cons_of_pos
def jd:=@Rat.mul_le_mul_of_nonneg_right
def je:=@List.append_assoc
def jf:=@Bool.not_true
def jg:=@Rat.div_def
def jh:=@Classical.byContradiction
def ji:=@Rat.mul_nonneg
def jj:=@List.filter_cons_of_neg
def jk:=@if_true
def jl:=@List.set_cons_zero
def jm:=@List.set_cons_succ
def jn:=@Rat.intCast_le_intCast
def jo:=@Bool.eq_iff_iff
def jp:=@Option.isSome_some
def jq:=@List.length_drop
def jr:=@L2.PW.pt
def js:=@List.take_of_length_le
def jt:=@List.filterMap_cons
def ju:=@Rat.intCast_mul
def jv:=@List.length_filter_le
def jw:=@decide_eq_decide
def jx:=@Int.natAbs_natCast
def jy:=@Nat.lt_of_le_of_lt
def jz:=@Rat.mul_zero
def jA:=@Rat.zero_mul
def jB:=@congrArg
def jC:=@of_decide_eq_true
def jD:=@List.length_range
def jE:=@List.all_eq_true
def jF:=@Int.natAbs_mul
def jG:=@Bool.false_and
def jH:=@List.append_nil
def jI:=@List.mem_filter
def jJ:=@List.idxOf_cons
def jK:=@Rat.add_zero
def jL:=@Rat.divInt_eq_div
def jM:=@Int.le_refl
def jN:=@Int.toNat_natCast
def jO:=@List.map_congr_left
def jP:=@Rat.mul_le_mul_of_nonneg_left
def jQ:=@Nat.ne_of_lt
def jR:=@PySem.W.callWith_K
def jS:=@Rat.zero_add
def jT:=@Rat.mul_inv_cancel
def jU:=@List.filter_append
def jV:=@PySem.F.slot_dict_get
def jW:=@Option.isSome_map
def jX:=@List.mem_append_left
def jY:=@List.mem_of_mem_take
def jZ:=@Bool.and_false
def ka:=@List.take_length
def kc:=@beq_self_eq_true
def ke:=@Rat.le_of_lt
def kf:=@Nat.le_of_lt
def kg:=@List.length_take
def kh:=@List.all_map
def ki:=@List.any_eq_true
def kj:=@List.getElem?_append_left
def kl:=@List.getElem?_range
def km:=@List.mem_map_of_mem
def kn:=@PySem.F.slot_list_remove
def ko:=@Rat.lt_irrefl
def kq:=@List.mem_filterMap
def kr:=@Int.emod_lt_of_pos
def ku:=@Int.eq_ofNat_of_zero_le
def kw:=@decide_eq_false_iff_not
def ky:=@List.drop_zero
def kA:=@Nat.sub_zero
def kE:=@List.flatten_cons
def kF:=@Bool.not_eq_true'
def kG:=@Bool.or_self
def kH:=@List.getElem?_eq_none
def kI:=@Nat.le_add_right
def kJ:=@List.getElem_mem
def kK:=@Nat.succ_le_succ
def kL:=@List.any_cons
def kM:=@List.all_cons
def kN:=@List.cons.inj
def kO:=@Bool.true_and
def kP:=@List.length_set
def kQ:=@Rat.intCast_add
def kR:=@Rat.mul_eq_zero
def kS:=@Int.emod_nonneg
def kT:=@Nat.min_eq_left
def kU:=@Option.map_some
def kW:=@List.nil_append
def kX:=@Bool.true_or
def kY:=@Bool.or_true
namespace DL
open PySem L2
open Evl (Ex)
inductive D where
 |non|bl (b:Bool)|int (i:Int)|str (x:Str)|tup (xs:List D)|lst (xs:List D)|ref (a:Addr)|ty (n:String)|ptup (xs:List D)
mutual
inductive VR (K:PySem.W.Frag) (G:Hp):V→D→Prop
 |non:VR K G .non .non
 |bl (b:Bool):VR K G (.bl b) (.bl b)
 |int (i:Int):VR K G (.int i) (.int i)
 |str (x:Str):VR K G (.str x) (.str x)
 |ref (a:Addr):VR K G (.ref a) (.ref a)
 |ty (n:String):VR K G (.ty n) (.ty n)
 |tup {a:Addr}{vs:List V}{ds:List D}:SqT K G a vs→VRs K G vs ds→VR K G (.ref a) (.tup ds)
 |lst {a:Addr}{vs:List V}{ds:List D}:SqL K G a vs→VRs K G vs ds→VR K G (.ref a) (.lst ds)
 |ptup {a:Addr}{vs:List V}{ds:List D}:G a=some (.tup vs)→VRs K G vs ds→VR K G (.ref a) (.ptup ds)
inductive VRs (K:PySem.W.Frag) (G:Hp):List V→List D→Prop
 |nil:VRs K G [] []
 |cons {v:V}{vs:List V}{d:D}{ds:List D}:VR K G v d→VRs K G vs ds→VRs K G (v::vs) (d::ds)
end
section
variable {K:PySem.W.Frag}{G G':Hp}
mutual
theorem VR.mono(e:Ex G G'):∀{v:V}{d:D},VR K G v d→VR K G' v d
 |_,_,.non=>.non
 |_,_,.bl b=>.bl b
 |_,_,.int b=>.int b
 |_,_,.str b=>.str b
 |_,_,.ref b=>.ref b
 |_,_,.ty b=>.ty b
 |_,_,.tup h r=>.tup (Evl.ex_t e h) (VRs.mono e r)
 |_,_,.lst h r=>.lst (Evl.ex_l e h) (VRs.mono e r)
 |_,_,.ptup h r=>.ptup (e _ _ h) (VRs.mono e r)
theorem VRs.mono(e:Ex G G'):∀{vs:List V}{ds:List D},VRs K G vs ds→VRs K G' vs ds
 |_,_,.nil=>.nil
 |_,_,.cons h r=>.cons (VR.mono e h) (VRs.mono e r)
end
theorem VRs.length:∀{vs:List V}{ds:List D},VRs K G vs ds→vs.length=ds.length
 |_,_,.nil=>rfl
 |_,_,.cons _ r=>by rw[qi,qi,VRs.length r]
theorem VRs.get:∀{vs:List V}{ds:List D}{i:Nat}{d:D},VRs K G vs ds→ds[i]?=some d→∃v,vs[i]?=some v∧VR K G v d
 |_,_,_,_,.nil,e=>by simp at e
 |_,_,0,_,.cons h _,e=>by simp at e;subst e;exact⟨_,rfl,h⟩
 |_,_,i+1,d,.cons _ t,e=>by
  obtain⟨v,h1,h2⟩:=VRs.get (i:=i) (d:=d) t (by simpa using e)
  exact⟨v,by simpa using h1,h2⟩
theorem VRs.append:∀{vs us:List V}{ds es:List D},VRs K G vs ds→VRs K G us es→VRs K G (vs++us) (ds++es)
 |_,_,_,_,.nil,s=>s
 |_,_,_,_,.cons r t,s=>.cons r (VRs.append t s)
theorem VRs.set{x:V}{u:D}(r:VR K G x u):∀{xs:List V}{us:List D}(i:Nat),VRs K G xs us→VRs K G (xs.set i x) (us.set i u)
 |_,_,_,.nil=>.nil
 |_,_,0,.cons _ t=>.cons r t
 |_,_,i+1,.cons q t=>.cons q (VRs.set r i t)
theorem VRs.take:∀{xs:List V}{us:List D}(n:Nat),VRs K G xs us→VRs K G (xs.take n) (us.take n)
 |_,_,0,_=>.nil
 |_,_,_+1,.nil=>.nil
 |_,_,n+1,.cons r t=>.cons r (VRs.take n t)
theorem VRs.drop:∀{xs:List V}{us:List D}(n:Nat),VRs K G xs us→VRs K G (xs.drop n) (us.drop n)
 |_,_,0,r=>r
 |_,_,_+1,.nil=>.nil
 |_,_,n+1,.cons _ t=>VRs.drop n t
theorem VRs.reverse:∀{xs:List V}{us:List D},VRs K G xs us→VRs K G xs.reverse us.reverse
 |_,_,.nil=>.nil
 |_,_,.cons r t=>by
  rw[List.reverse_cons,List.reverse_cons]
  exact VRs.append (VRs.reverse t) (.cons r .nil)
theorem VRs.one{vs:List V}{d:D}(h:VRs K G vs [d]):∃v,vs=[v]∧VR K G v d:=by
 cases h with
 |cons h r=>cases r;exact⟨_,rfl,h⟩
theorem VRs.two{vs:List V}{d e:D}(h:VRs K G vs [d,e]):∃v u,vs=[v,u]∧VR K G v d∧VR K G u e:=by
 cases h with
 |cons h r=>obtain⟨u,rfl,hu⟩:=r.one;exact⟨_,_,rfl,h,hu⟩
theorem VRs.ints:∀{vs:List V}{ns:List Int},VRs K G vs (ns.map D.int)→vs=ns.map V.int
 |[],[],_=>rfl
 |_,[],h=>by cases h;rfl
 |_,n::ns,h=>by
  cases h with
  |cons h r=>cases h;rw[VRs.ints r];rfl
theorem VRs.bls:∀{vs:List V}{ns:List Bool},VRs K G vs (ns.map D.bl)→vs=ns.map V.bl
 |[],[],_=>rfl
 |_,[],h=>by cases h;rfl
 |_,n::ns,h=>by
  cases h with
  |cons h r=>cases h;rw[VRs.bls r];rfl
theorem VRs.strs:∀{vs:List V}{ns:List Str},VRs K G vs (ns.map D.str)→vs=ns.map V.str
 |[],[],_=>rfl
 |_,[],h=>by cases h;rfl
 |_,n::ns,h=>by
  cases h with
  |cons h r=>cases h;rw[VRs.strs r];rfl
theorem VRs.ofInts:∀(ns:List Int),VRs K G (ns.map V.int) (ns.map D.int)
 |[]=>.nil
 |n::ns=>.cons (.int n) (VRs.ofInts ns)
end
inductive DO where
 |lst (xs:List D)|dK (kvs:List (Key×D))|dT (kvs:List (List Key×D))|ins (C dx:Addr) (fs:List (Str×D))|own (x:Addr)|xd (fs:List (Str×D))|fK (od:Obj) (kvs:List (Key×V)) (es:List (Key×D))|tab (q:Str)
abbrev Om:=Addr→Option DO
def up(O:Om)(a:Addr)(o:DO):Om:=fun b=>if b=a then some o else O b
theorem up_same{O:Om}{a:Addr}{o:DO}:up O a o a=some o:=qe rfl
theorem up_ne{O:Om}{a b:Addr}{o:DO}(h:b≠a):up O a o b=O b:=qb h
theorem zMA{O:Om}{a:Addr}{o u:DO}:up (up O a o) a u=up O a u:=by
 funext b;unfold up;split<;>rfl
def PR{A:Type}(K:PySem.W.Frag)(G:Hp):List (A×V)→List (A×D)→Prop:=Paired fun p q=>p.1=q.1∧VR K G p.2 q.2
theorem PR.mono{A:Type}{K:PySem.W.Frag}{G G':Hp}(e:Ex G G'){xs:List (A×V)}{ys:List (A×D)}(h:PR K G xs ys):PR K G' xs ys:=
 Paired.mapP h fun _ _ z=>⟨z.1,z.2.mono e⟩
def OR(K:PySem.W.Frag)(G:Hp):DO→HO→Prop
 |.lst ds,.lst vs=>VRs K G vs ds
 |.dK es,.dK kvs=>PR K G kvs es
 |.dT es,.dT kvs=>PR K G kvs es
 |.ins C dx fs,.ins C' dx' vs=>C=C'∧dx=dx'∧PR K G vs fs
 |.own x,.own y=>x=y
 |.xd fs,.xd vs=>PR K G vs fs
 |.tab q,.tbl ps=>TriplesOk ps.toList∧∀(pos:Pos) (cv:Value),codeAmong pos ps.toList=some cv→∃c,cv=.ref c∧G c=some (LamX.CodeO c q)
 |.fK od kvs es,u=>u=.frz od (.dK kvs)∧PR K G kvs es
 |_,_=>False
theorem OR.mono{K:PySem.W.Frag}{G G':Hp}(e:Ex G G'):∀{o:DO}{u:HO},OR K G o u→OR K G' o u:=by
 intro o u h
 cases o<;>cases u<;>first
  |exact h.elim
  |exact VRs.mono e h
  |exact PR.mono e h
  |exact⟨h.1,h.2.1,PR.mono e h.2.2⟩
  |exact⟨h.1,PR.mono e h.2⟩
  |exact⟨h.1,fun pos cv hc=>let ⟨c,e1,e2⟩:=h.2 pos cv hc;⟨c,e1,e _ _ e2⟩⟩
  |exact h
structure Rel(K:PySem.W.Frag)(G:Hp)(O:Om)(H:Hp):Prop where
 g:Ex G H
 o:∀a o,O a=some o→G a=none∧∃u,H a=some u∧OR K G o u
structure Go(K:PySem.W.Frag)(G:Hp)(O:Om)(H:Hp)(G':Hp)(O':Om)(H':Hp):Prop where
 rel:Rel K G' O' H'
 ex:Ex G G'
 fr:∀a o,O a=none→H a=some o→H' a=some o
 nwO:∀a o,O' a=some o→(∃u,O a=some u)∨H a=none
 nwG:∀a o,G' a=some o→(∃u,O a=some u)∨(∃u,G a=some u)∨H a=none∨∃vs,H a=some (.tup vs)
theorem OR.noTup{K:PySem.W.Frag}{G:Hp}{o:DO}{vs:List V}(h:OR K G o (.tup vs)):False:=by
 cases o<;>first|exact h.elim|exact h|(cases h.1)
section
variable {K:PySem.W.Frag}{G G1 G2:Hp}{O O1 O2:Om}{H H1 H2:Hp}
theorem Go.refl(r:Rel K G O H):Go K G O H G O H:=⟨r,Ex.refl G,fun _ _ _ h=>h,fun a o h=>.inl ⟨o,h⟩,fun a o h=>.inr (.inl ⟨o,h⟩)⟩
theorem Rel.fresh(r:Rel K G O H){a:Addr}(h:H a=none):O a=none∧G a=none:=by
 refine⟨?_,Evl.fresh_back r.g h⟩
 cases e:O a with
 |none=>rfl
 |some o=>obtain⟨_,u,hu,_⟩:=r.o a o e;rw[h] at hu;cases hu
theorem Go.trans(r:Rel K G O H)(a:Go K G O H G1 O1 H1)(b:Go K G1 O1 H1 G2 O2 H2):Go K G O H G2 O2 H2:=by
 refine⟨b.rel,a.ex.trans b.ex,fun x o h1 h2=>?_,fun x o h=>?_,fun x o h=>?_⟩
 ·refine b.fr x o ?_ (a.fr x o h1 h2)
  cases e:O1 x with
  |none=>rfl
  |some u=>
   rcases a.nwO x u e with⟨w,hw⟩|hn
   ·rw[h1] at hw;cases hw
   ·rw[h2] at hn;cases hn
 ·rcases b.nwO x o h with⟨w,hw⟩|hn
  ·exact a.nwO x w hw
  ·cases e:O x with
   |some u=>exact .inl ⟨u,rfl⟩
   |none=>
    cases e2:H x with
    |none=>exact .inr rfl
    |some u=>rw[a.fr x u e e2] at hn;cases hn
 ·rcases b.nwG x o h with⟨w,hw⟩|⟨w,hw⟩|hn|⟨ts,hn⟩
  ·rcases a.nwO x w hw with z|z
   ·exact .inl z
   ·exact .inr (.inr (.inl z))
  ·exact a.nwG x w hw
  ·cases e:O x with
   |some u=>exact .inl ⟨u,rfl⟩
   |none=>
    cases e2:H x with
    |none=>exact .inr (.inr (.inl rfl))
    |some u=>rw[a.fr x u e e2] at hn;cases hn
  ·cases e:O x with
   |some u=>exact .inl ⟨u,rfl⟩
   |none=>
    cases e2:H x with
    |none=>exact .inr (.inr (.inl rfl))
    |some u=>rw[a.fr x u e e2] at hn;cases hn;exact .inr (.inr (.inr ⟨ts,rfl⟩))
theorem Go.new(r:Rel K G O H){a:Addr}{o:DO}{u:HO}(h:H a=none)(q:OR K G o u):Go K G O H G (up O a o) (upd H a u):=by
 obtain⟨ho,hg⟩:=r.fresh h
 refine⟨⟨fun x w e=>?_,fun x w e=>?_⟩,Ex.refl G,fun x w e1 e2=>?_,fun x w e=>?_,fun x w e=>.inr (.inl ⟨w,e⟩)⟩
 ·rw[upd_ne (ne_of_none (r.g x w e) h)];exact r.g x w e
 ·by_cases hx:x=a
  ·subst hx;rw[up_same] at e;cases e;exact⟨hg,u,upd_same,q⟩
  ·rw[up_ne hx] at e;obtain⟨h1,v,h2,h3⟩:=r.o x w e;exact⟨h1,v,by rw[upd_ne hx];exact h2,h3⟩
 ·rw[upd_ne (ne_of_none e2 h)];exact e2
 ·by_cases hx:x=a
  ·subst hx;exact .inr h
  ·rw[up_ne hx] at e;exact .inl ⟨w,e⟩
theorem Go.write(r:Rel K G O H){a:Addr}{o0 o:DO}{u:HO}(h:O a=some o0)(q:OR K G o u):Go K G O H G (up O a o) (upd H a u):=by
 obtain⟨hg,u0,hu,_⟩:=r.o a o0 h
 refine⟨⟨fun x w e=>?_,fun x w e=>?_⟩,Ex.refl G,fun x w e1 e2=>?_,fun x w e=>?_,fun x w e=>.inr (.inl ⟨w,e⟩)⟩
 ·rw[upd_ne (ne_of_none e hg)];exact r.g x w e
 ·by_cases hx:x=a
  ·subst hx;rw[up_same] at e;cases e;exact⟨hg,u,upd_same,q⟩
  ·rw[up_ne hx] at e;obtain⟨h1,v,h2,h3⟩:=r.o x w e;exact⟨h1,v,by rw[upd_ne hx];exact h2,h3⟩
 ·rw[upd_ne]
  ·exact e2
  ·intro z;subst z;rw[h] at e1;cases e1
 ·by_cases hx:x=a
  ·subst hx;exact .inl ⟨o0,h⟩
  ·rw[up_ne hx] at e;exact .inl ⟨w,e⟩
theorem Go.data(r:Rel K G O H){a:Addr}{u:HO}(h:H a=none):Go K G O H (upd G a u) O (upd H a u):=by
 obtain⟨ho,hg⟩:=r.fresh h
 have e1:Ex G (upd G a u):=Ex.new hg
 refine⟨⟨fun x w e=>?_,fun x w e=>?_⟩,e1,fun x w _ e2=>?_,fun x w e=>.inl ⟨w,e⟩,fun x w e=>?_⟩
 ·by_cases hx:x=a
  ·subst hx;rw[upd_same] at e⊢;exact e
  ·rw[upd_ne hx] at e⊢;exact r.g x w e
 ·have hx:x≠a:=fun z=>by subst z;rw[ho] at e;cases e
  obtain⟨h1,v,h2,h3⟩:=r.o x w e
  exact⟨by rw[upd_ne hx];exact h1,v,by rw[upd_ne hx];exact h2,h3.mono e1⟩
 ·rw[upd_ne (ne_of_none e2 h)];exact e2
 ·by_cases hx:x=a
  ·subst hx;exact .inr (.inr (.inl h))
  ·rw[upd_ne hx] at e;exact .inr (.inl ⟨w,e⟩)
theorem Go.frame{O':Om}{H':Hp}(g:Go K G O H G1 O' H'){a:Addr}{o:DO}{u:HO}(ho:O a=none)(hg:G a=none)(hu:H a=some u)(q:OR K G o u):O' a=none∧H' a=some u∧Go K G (up O a o) H G1 (up O' a o) H':=by
 have nO:O' a=none:=by
  cases e:O' a with
  |none=>rfl
  |some w=>
   rcases g.nwO a w e with⟨z,hz⟩|hn
   ·rw[ho] at hz;cases hz
   ·rw[hu] at hn;cases hn
 have nG:G1 a=none:=by
  cases e:G1 a with
  |none=>rfl
  |some w=>
   rcases g.nwG a w e with⟨z,hz⟩|⟨z,hz⟩|hn|⟨ts,hn⟩
   ·rw[ho] at hz;cases hz
   ·rw[hg] at hz;cases hz
   ·rw[hu] at hn;cases hn
   ·rw[hu] at hn;cases hn;exact q.noTup.elim
 have hu':=g.fr a u ho hu
 refine⟨nO,hu',⟨g.rel.g,fun b w e=>?_⟩,g.ex,fun b w h1 h2=>?_,fun b w e=>?_,fun b w e=>?_⟩
 ·by_cases hb:b=a
  ·subst hb;rw[up_same] at e;cases e;exact⟨nG,u,hu',q.mono g.ex⟩
  ·rw[up_ne hb] at e;exact g.rel.o b w e
 ·by_cases hb:b=a
  ·subst hb;rw[up_same] at h1;cases h1
  ·rw[up_ne hb] at h1;exact g.fr b w h1 h2
 ·by_cases hb:b=a
  ·subst hb;exact .inl ⟨o,up_same⟩
  ·rw[up_ne hb] at e
   rcases g.nwO b w e with⟨z,hz⟩|hn
   ·exact .inl ⟨z,by rw[up_ne hb];exact hz⟩
   ·exact .inr hn
 ·rcases g.nwG b w e with⟨z,hz⟩|z|hn
  ·exact .inl ⟨z,by rw[up_ne (fun q=>by subst q;rw[ho] at hz;cases hz)];exact hz⟩
  ·exact .inr (.inl z)
  ·exact .inr (.inr hn)
theorem Rel.less(r:Rel K G O H)(h:∀a o,O1 a=some o→O a=some o):Rel K G O1 H:=⟨r.g,fun a o e=>r.o a o (h a o e)⟩
theorem Go.less(g:Go K G O H G1 O1 H1)(h:∀a o,O2 a=some o→O1 a=some o):Go K G O H G1 O2 H1:=⟨g.rel.less h,g.ex,g.fr,fun a o e=>g.nwO a o (h a o e),g.nwG⟩
end
def seqOf(O:Om):D→Option (List D)
 |.tup xs=>some xs
 |.lst xs=>some xs
 |.ref a=>match O a with|some (.lst xs)=>some xs|_=>none
 |_=>none
def lstOf(O:Om):D→Option (List D)
 |.lst xs=>some xs
 |.ref a=>match O a with|some (.lst xs)=>some xs|_=>none
 |_=>none
section
variable {K:PySem.W.Frag}{G:Hp}{O:Om}{H:Hp}
theorem Rel.lst(r:Rel K G O H){a:Addr}{xs:List D}(h:O a=some (.lst xs)):∃vs,H a=some (.lst vs)∧VRs K G vs xs:=by
 obtain⟨_,u,hu,q⟩:=r.o a _ h
 cases u<;>first|exact q.elim|exact⟨_,hu,q⟩
theorem Rel.lstOf(r:Rel K G O H){v:V}{x:D}{xs:List D}(hv:VR K G v x)(h:DL.lstOf O x=some xs):∃a vs,v=.ref a∧SqL K H a vs∧VRs K G vs xs:=by
 cases hv with
 |lst h1 h2=>
  cases h
  exact⟨_,_,rfl,Evl.ex_l r.g h1,h2⟩
 |ref a=>
  unfold DL.lstOf at h
  cases e:O a with
  |none=>simp only[e] at h;cases h
  |some o=>
   cases o<;>simp only[e] at h<;>cases h
   obtain⟨vs,h1,h2⟩:=r.lst e
   exact⟨a,vs,rfl,SqL.of h1,h2⟩
 |_=>cases h
theorem Rel.seqOf(r:Rel K G O H){v:V}{x:D}{xs:List D}(hv:VR K G v x)(h:DL.seqOf O x=some xs):∃a vs,v=.ref a∧(SqL K H a vs∨SqT K H a vs)∧VRs K G vs xs:=by
 cases hv with
 |lst h1 h2=>
  cases h
  exact⟨_,_,rfl,.inl (Evl.ex_l r.g h1),h2⟩
 |tup h1 h2=>
  cases h
  exact⟨_,_,rfl,.inr (Evl.ex_t r.g h1),h2⟩
 |ref a=>
  unfold DL.seqOf at h
  cases e:O a with
  |none=>simp only[e] at h;cases h
  |some o=>
   cases o<;>simp only[e] at h<;>cases h
   obtain⟨vs,h1,h2⟩:=r.lst e
   exact⟨a,vs,rfl,.inl (SqL.of h1),h2⟩
 |_=>cases h
end
abbrev Gm:=List (Option D)
abbrev DE:=Gm→Om→(D→Om→Prop)→Prop
abbrev DT:=Gm→Om→(Bool→Om→Prop)→Prop
abbrev DA:=Gm→Om→(List D→Om→Prop)→Prop
structure DEnds where
 nx:Gm→Om→Prop
 rt:D→Om→Prop
 bk:Gm→Om→Prop:=fun _ _=>False
 ct:Gm→Om→Prop:=fun _ _=>False
 xc:Value→Option Addr→Gm→Om→Prop:=fun _ _ _ _=>False
abbrev DS:=DEnds→Gm→Om→Prop
structure GR(K:PySem.W.Frag)(G:Hp)(s:St)(g:Gm):Prop where
 len:s.length=g.length
 get:∀(i:Nat) (d:D),g[i]?=some (some d)→∃v,s[i]?=some (some v)∧VR K G v d
theorem GR.mono{K:PySem.W.Frag}{G G':Hp}{s:St}{g:Gm}(e:Ex G G')(h:GR K G s g):GR K G' s g:=⟨h.len,fun i d q=>by
 obtain⟨v,h1,h2⟩:=h.get i d q
 exact⟨v,h1,h2.mono e⟩⟩
theorem GR.set{K:PySem.W.Frag}{G:Hp}{s:St}{g:Gm}{v:V}{d:D}(h:GR K G s g)(i:Nat)(hv:VR K G v d):GR K G (s.set i (some v)) (g.set i (some d)):=by
 refine⟨by rw[kP,kP];exact h.len,fun j e q=>?_⟩
 by_cases hj:i=j
 ·subst hj
  by_cases hl:i<g.length
  ·rw[List.getElem?_set_self hl] at q
   cases q
   exact⟨v,List.getElem?_set_self (by rw[h.len];exact hl),hv⟩
  ·rw[kH (by simpa using hl)] at q;cases q
 ·rw[List.getElem?_set_ne hj] at q⊢
  exact h.get j e q
theorem GR.forget{K:PySem.W.Frag}{G:Hp}{s:St}{g:Gm}(h:GR K G s g)(i:Nat)(w:Option V):GR K G (s.set i w) (g.set i none):=by
 refine⟨by rw[kP,kP];exact h.len,fun j e q=>?_⟩
 by_cases hj:i=j
 ·subst hj
  by_cases hl:i<g.length
  ·rw[List.getElem?_set_self hl] at q;cases q
  ·rw[kH (by simpa using hl)] at q;cases q
 ·rw[List.getElem?_set_ne hj] at q⊢
  exact h.get j e q
def Le(g' g:Gm):Prop:=g'.length=g.length∧∀(i:Nat) (d:D),g'[i]?=some (some d)→g[i]?=some (some d)
theorem GR.le{K:PySem.W.Frag}{G:Hp}{s:St}{g g':Gm}(h:GR K G s g)(l:Le g' g):GR K G s g':=⟨h.len.trans l.1.symm,fun i d q=>h.get i d (l.2 i d q)⟩
def zAs(K:PySem.W.Frag)(t:DE):TE:=fun s H Q=>∃(G:Hp) (O:Om) (g:Gm) (R:D→Om→Prop),Rel K G O H∧GR K G s g∧t g O R∧∀x O' v G' H',Go K G O H G' O' H'→VR K G' v x→R x O'→Q v H'
def zEh(K:PySem.W.Frag)(t:DT):TT:=fun s H Q=>∃(G:Hp) (O:Om) (g:Gm) (R:Bool→Om→Prop),Rel K G O H∧GR K G s g∧t g O R∧∀b O' G' H',Go K G O H G' O' H'→R b O'→Q b H'
def zC8(K:PySem.W.Frag)(n:Nat)(t:DA):TA:=fun s H Q=>∃(G:Hp) (O:Om) (g:Gm) (R:List D→Om→Prop),Rel K G O H∧GR K G s g∧t g O R∧∀xs O' vs G' H',Go K G O H G' O' H'→VRs K G' vs xs→xs.length=n→R xs O'→Q vs H'
structure EndsR(K:PySem.W.Frag)(W:WX)(G:Hp)(O:Om)(H:Hp)(F:DEnds)(E:Ends):Prop where
 nx:∀s' g' O' G' H',Go K G O H G' O' H'→GR K G' s' g'→F.nx g' O'→E.nx s' H'
 bk:∀s' g' O' G' H',Go K G O H G' O' H'→GR K G' s' g'→F.bk g' O'→E.bk s' H'
 ct:∀s' g' O' G' H',Go K G O H G' O' H'→GR K G' s' g'→F.ct g' O'→E.ct s' H'
 rt:∀x O' v G' H',Go K G O H G' O' H'→VR K G' v x→F.rt x O'→E.rt v H'
 xc:∀c d s' g' O' G' H',Go K G O H G' O' H'→GR K G' s' g'→F.xc c d g' O'→W c d s' H'
theorem EndsR.from{K:PySem.W.Frag}{W:WX}{G G1:Hp}{O O1:Om}{H H1:Hp}{F:DEnds}{E:Ends}(r:Rel K G O H)(h:EndsR K W G O H F E)(g:Go K G O H G1 O1 H1):EndsR K W G1 O1 H1 F E:=
 ⟨fun s' g' O' G' H' z=>h.nx s' g' O' G' H' (g.trans r z),fun s' g' O' G' H' z=>h.bk s' g' O' G' H' (g.trans r z),fun s' g' O' G' H' z=>h.ct s' g' O' G' H' (g.trans r z),
  fun x O' v G' H' z=>h.rt x O' v G' H' (g.trans r z),fun c d s' g' O' G' H' z=>h.xc c d s' g' O' G' H' (g.trans r z)⟩
def zCl(K:PySem.W.Frag)(W:WX)(t:DS):TS:=fun E s H=>∃(G:Hp) (O:Om) (g:Gm) (F:DEnds),Rel K G O H∧GR K G s g∧t F g O∧EndsR K W G O H F E
end DL
namespace DL
open PySem L2
open Evl (Ex)
theorem PE.by{X:Cx}{e:Expr}{t t':TE}(h:PE X e t)(k:∀s H Q,t' s H Q→t s H Q):PE X e t':=⟨fun pins s σ H Q I q=>h.run pins s σ H Q I (k σ H Q q)⟩
theorem PT.by{X:Cx}{e:Expr}{t t':TT}(h:PT X e t)(k:∀s H Q,t' s H Q→t s H Q):PT X e t':=⟨fun pins s σ H Q I q=>h.run pins s σ H Q I (k σ H Q q)⟩
theorem PW.by{X:Cx}{e:Expr}{t t':TT}(h:PW X e t)(k:∀s H Q,t' s H Q→t s H Q):PW X e t':=⟨fun w pins s σ H Q I q=>h.run w pins s σ H Q I (k σ H Q q)⟩
theorem PA.by{X:Cx}{e:List Expr}{t t':TA}(h:PA X e t)(k:∀s H Q,t' s H Q→t s H Q):PA X e t':=⟨fun p pins s σ H Q I q=>h.run p pins s σ H Q I (k σ H Q q)⟩
theorem OpR.or{X:Cx}{f:Value→Value→Sem Value}{r r':R2}(h:OpR X f r)(h':OpR X f r'):OpR X f (fun x y H Q=>r x y H Q∨r' x y H Q):=by
 intro pins s σ H x y v u Q I rx ry q
 rcases q with q|q
 ·exact h pins s σ H x y v u Q I rx ry q
 ·exact h' pins s σ H x y v u Q I rx ry q
theorem CallR.or{X:Cx}{f:Value}{r r':List V→Hp→VK→Prop}(h:CallR X f r)(h':CallR X f r'):CallR X f (fun x H Q=>r x H Q∨r' x H Q):=by
 intro pins s σ H x v Q I rx q
 rcases q with q|q
 ·exact h pins s σ H x v Q I rx q
 ·exact h' pins s σ H x v Q I rx q
abbrev D2:=D→D→Om→(D→Om→Prop)→Prop
abbrev D1:=D→Om→(D→Om→Prop)→Prop
abbrev DC:=List D→Om→(D→Om→Prop)→Prop
def Bk(K:PySem.W.Frag)(G:Hp)(O:Om)(H:Hp)(R:D→Om→Prop)(Q:VK):Prop:=∀x O' v G' H',Go K G O H G' O' H'→VR K G' v x→R x O'→Q v H'
def OpS(K:PySem.W.Frag)(r:R2)(d:D2):Prop:=∀{G O H x y v u R Q},Rel K G O H→VR K G v x→VR K G u y→d x y O R→Bk K G O H R Q→r v u H Q
def CaS(K:PySem.W.Frag)(r:List V→Hp→VK→Prop)(d:DC):Prop:=∀{G O H xs vs R Q},Rel K G O H→VRs K G vs xs→d xs O R→Bk K G O H R Q→r vs H Q
theorem Bk.here{K:PySem.W.Frag}{G:Hp}{O:Om}{H:Hp}{R:D→Om→Prop}{Q:VK}{x:D}{v:V}(k:Bk K G O H R Q)(r:Rel K G O H)(hv:VR K G v x)(h:R x O):Q v H:=k x O v G H (Go.refl r) hv h
theorem Bk.lst{K:PySem.W.Frag}{G:Hp}{O:Om}{H:Hp}{R:D→Om→Prop}{Q:VK}{xs:List D}{vs:List V}(k:Bk K G O H R Q)(r:Rel K G O H)(hv:VRs K G vs xs)(h:∀p,O p=none→R (.ref p) (up O p (.lst xs))):∀p,H p=none→Q (.ref p) (upd H p (.lst vs)):=fun p hp=>
 k _ _ _ _ _ (Go.new r (o:=.lst xs) (u:=.lst vs) hp hv) (.ref p) (h p (r.fresh hp).1)
theorem Bk.tup{K:PySem.W.Frag}{G:Hp}{O:Om}{H:Hp}{R:D→Om→Prop}{Q:VK}{xs:List D}{vs:List V}(k:Bk K G O H R Q)(r:Rel K G O H)(hv:VRs K G vs xs)(h:R (.tup xs) O):∀p,H p=none→Q (.ref p) (upd H p (.tup vs)):=fun p hp=>by
 have g:=Go.data r (u:=.tup vs) hp
 exact k _ _ _ _ _ g (.tup (SqT.of upd_same) (hv.mono g.ex)) h
section
variable {X:Cx}{a b c:Expr}{ta tb tc:DE}{pos:Pos}
def zAd(i:Nat):DE:=fun g O R=>match g[i]? with|some (some d)=>R d O|_=>False
def dC(d:D):DE:=fun _ O R=>R d O
theorem e_v(i:Nat){x:Str}{pos:Pos}(hN:X.N[i]?=some x:=by rfl)(hv:Vis X.env.scope x:=by first|exact Or.inl rfl|exact Or.inr (Or.inl rfl)|exact Or.inr (Or.inr rfl))(hd:(x==("__debug__":Str))=false:=by decide)
  (hcd:(x==("__classdict__":Str))=false:=by decide):PE X (.Name x pos) (zAs X.K (zAd i)):=
 PE.by (pe_var hN hv hd hcd) fun s H Q ⟨G,O,g,R,r,gr,h,k⟩=>by
  unfold zAd at h
  split at h
  ·rename_i d e
   obtain⟨v,h1,h2⟩:=gr.get i d e
   exact⟨v,h1,k _ _ _ _ _ (Go.refl r) h2 h⟩
  ·exact h.elim
theorem zMX{K:PySem.W.Frag}{v:V}{d:D}(hv:∀G,VR K G v d):∀s H Q,zAs K (dC d) s H Q→tC v s H Q:=fun s H Q ⟨G,O,g,R,r,gr,h,k⟩=>k _ _ _ _ _ (Go.refl r) (hv G) h
theorem zAi{i j pos}:PE X (.Constant (.int i) j pos) (zAs X.K (dC (.int i))):=PE.by pe_int (zMX fun _=>.int i)
theorem zUk{i j pos}:PE X (.Constant (.bool i) j pos) (zAs X.K (dC (.bl i))):=PE.by pe_bl (zMX fun _=>.bl i)
theorem zA0{j pos}:PE X (.Constant .none j pos) (zAs X.K (dC .non)):=PE.by pe_non (zMX fun _=>.non)
theorem zAl{i j pos}:PE X (.Constant (.str i) j pos) (zAs X.K (dC (.str i))):=PE.by pe_str (zMX fun _=>.str i)
theorem zXF{x:Str}{v:V}{u:Value}{d:D}{pos:Pos}(hg:Gl X x)(hm:X.mg x=some u)(r:RelV v u)(hv:∀G,VR X.K G v d)(hd:(x==("__debug__":Str))=false:=by decide):PE X (.Name x pos) (zAs X.K (dC d)):=
 PE.by (pe_glob hg hm r hd) (zMX hv)
def dOp(d:D2)(ta tb:DE):DE:=fun g O R=>ta g O fun x O1=>tb g O1 fun y O2=>d x y O2 R
def dUn(d:D1)(ta:DE):DE:=fun g O R=>ta g O fun x O1=>d x O1 R
theorem zLU{K:PySem.W.Frag}{r:R2}{d:D2}{ta tb:DE}(hr:OpS K r d):∀s H Q,zAs K (dOp d ta tb) s H Q→tOp r (zAs K ta) (zAs K tb) s H Q:=fun s H Q ⟨G,O,g,R,rl,gr,h,k⟩=>
 ⟨G,O,g,_,rl,gr,h,fun x O1 v G1 H1 go1 vr1 q1=>⟨G1,O1,g,_,go1.rel,gr.mono go1.ex,q1,fun y O2 u G2 H2 go2 vr2 q2=>
  hr go2.rel (vr1.mono go2.ex) vr2 q2 fun z O3 w G3 H3 go3 vr3 q3=>k z O3 w G3 H3 ((go1.trans rl go2).trans rl go3) vr3 q3⟩⟩
theorem zSo{op:Operator}{r:R2}{d:D2}(ho:OpR X (binaryOp op) r)(hr:OpS X.K r d)(ha:PE X a (zAs X.K ta))(hb:PE X b (zAs X.K tb)):PE X (.BinOp a op b pos) (zAs X.K (dOp d ta tb)):=PE.by (pe_op ho ha hb) (zLU hr)
theorem zE7{op:CmpOp}{r:R2}{d:D2}(ho:OpR X (compareOp op) r)(hr:OpS X.K r d)(ha:PE X a (zAs X.K ta))(hb:PE X b (zAs X.K tb))(hm:behindInMarks op b=false):PE X (.Compare a [op] [b] pos) (zAs X.K (dOp d ta tb)):=PE.by (pe_cmpR ho ha hb hm) (zLU hr)
theorem yAu{r:R2}{d:D2}(ho:IxR X r)(hr:OpS X.K r d)(ha:PE X a (zAs X.K ta))(hb:PE X b (zAs X.K tb))(hs:PlainIx b:=by exact fun _ _=>rfl):PE X (.Subscript a b pos) (zAs X.K (dOp d ta tb)):=PE.by (pe_ix ho ha hb hs) (zLU hr)
def zAo(t:DE):DT:=fun g O R=>t g O fun x O1=>match x with|.bl b=>R b O1|_=>False
theorem zF4{K:PySem.W.Frag}{t:DE}:∀s H Q,zEh K (zAo t) s H Q→tTest (zAs K t) s H Q:=fun s H Q ⟨G,O,g,R,rl,gr,h,k⟩=>
 ⟨G,O,g,_,rl,gr,h,fun x O1 v G1 H1 go1 vr1 q1=>by
  cases vr1<;>first|exact q1.elim|exact⟨_,rfl,k _ _ _ _ go1 q1⟩⟩
theorem zAD{op:CmpOp}{r:R2}{d:D2}(ho:OpR X (compareOp op) r)(hr:OpS X.K r d)(ha:PE X a (zAs X.K ta))(hb:PE X b (zAs X.K tb))(hm:behindInMarks op b=false):PT X (.Compare a [op] [b] pos) (zEh X.K (zAo (dOp d ta tb))):=
 PT.by (pt_cmpR ho ha hb hm) fun s H Q h=>by
  obtain⟨G,O,g,R,rl,gr,h,k⟩:=zF4 s H Q h
  exact zLU hr s H _ ⟨G,O,g,R,rl,gr,h,k⟩
theorem zGU(ha:PE X a (zAs X.K ta))(he:∀whole,isTrue a X.env whole=(do let v ←whole;standAt a.pos;holding [v] (truthy v)):=by intro _;rfl):PT X a (zEh X.K (zAo ta)):=
 PT.by (pt_val ha he) fun s H Q h=>zF4 s H Q h
def zDS(t u:DT):DT:=fun g O R=>t g O fun c O1=>if c=true then u g O1 R else R false O1
def zFI(t u:DT):DT:=fun g O R=>t g O fun c O1=>if c=true then R true O1 else u g O1 R
def zBZ(t:DT):DT:=fun g O R=>t g O fun c O1=>R (!c) O1
variable {e e':Expr}{rest:List Expr}{tt tu:DT}
theorem zGb(ha:PT X a (zEh X.K tt)):PW X (.BoolOp .And [a] pos) (zEh X.K tt):=pw_and1 ha
theorem zEt(ha:PT X a (zEh X.K tt)):PW X (.BoolOp .Or [a] pos) (zEh X.K tt):=pw_or1 ha
theorem zKr(ha:PT X a (zEh X.K tt))(hb:PW X (.BoolOp .And (b::rest) pos) (zEh X.K tu)):PW X (.BoolOp .And (a::b::rest) pos) (zEh X.K (zDS tt tu)):=PW.by (pw_and ha hb) fun s H Q ⟨G,O,g,R,rl,gr,h,k⟩=>
 ⟨G,O,g,_,rl,gr,h,fun x O1 G1 H1 go1 q1=>by
  cases x with
  |true=>exact⟨G1,O1,g,R,go1.rel,gr.mono go1.ex,q1,fun x O2 G2 H2 go2 q2=>k _ _ _ _ (go1.trans rl go2) q2⟩
  |false=>exact k _ _ _ _ go1 q1⟩
theorem zI1(ha:PT X a (zEh X.K tt))(hb:PW X (.BoolOp .Or (b::rest) pos) (zEh X.K tu)):PW X (.BoolOp .Or (a::b::rest) pos) (zEh X.K (zFI tt tu)):=PW.by (pw_or ha hb) fun s H Q ⟨G,O,g,R,rl,gr,h,k⟩=>
 ⟨G,O,g,_,rl,gr,h,fun x O1 G1 H1 go1 q1=>by
  cases x with
  |false=>exact⟨G1,O1,g,R,go1.rel,gr.mono go1.ex,q1,fun x O2 G2 H2 go2 q2=>k _ _ _ _ (go1.trans rl go2) q2⟩
  |true=>exact k _ _ _ _ go1 q1⟩
theorem zDb(ha:PT X a (zEh X.K tt)):PT X (.UnaryOp .Not a pos) (zEh X.K (zBZ tt)):=PT.by (pt_not ha) fun s H Q ⟨G,O,g,R,rl,gr,h,k⟩=>
 ⟨G,O,g,_,rl,gr,h,fun x O1 G1 H1 go1 q1=>k _ _ _ _ go1 q1⟩
def zRu(O:Om)(x:D)(R:Bool→Prop):Prop:=match x with
 |.non=>R false
 |.bl b=>R b
 |.int i=>R (i !=0)
 |.str y=>y.length≤sizeLine∧R ((y.length:Int) !=0)
 |.tup xs=>R (!xs.isEmpty)
 |.lst xs=>R (!xs.isEmpty)
 |.ref a=>match O a with|some (.lst xs)=>R (!xs.isEmpty)|some (.dK kvs)=>R (!kvs.isEmpty)|_=>False
 |_=>False
def zFG(t:DE):DT:=fun g O R=>t g O fun x O1=>zRu O1 x fun b=>R b O1
def zEp(ta tb:DE):DE:=fun g O R=>ta g O fun x O1=>match x with|.bl true=>tb g O1 R|.bl false=>R (.bl false) O1|_=>False
def zSx(ta tb:DE):DE:=fun g O R=>ta g O fun x O1=>match x with|.bl false=>tb g O1 R|.bl true=>R (.bl true) O1|_=>False
def zJR(ta:DE):DE:=fun g O R=>ta g O fun x O1=>match x with|.bl b=>R (.bl (!b)) O1|_=>False
theorem zOK{op}(ha:PE X a (zAs X.K ta)):PE X (.BoolOp op [a] pos) (zAs X.K ta):=pe_one ha
theorem zM6(ha:PE X a (zAs X.K ta))(hb:PE X (.BoolOp .And (b::rest) pos) (zAs X.K tb)):PE X (.BoolOp .And (a::b::rest) pos) (zAs X.K (zEp ta tb)):=PE.by (pe_and ha hb) fun s H Q ⟨G,O,g,R,rl,gr,h,k⟩=>
 ⟨G,O,g,_,rl,gr,h,fun x O1 v G1 H1 go1 vr1 q1=>by
  cases vr1 with
  |bl b=>
   cases b with
   |true=>exact⟨true,rfl,by rw[qe rfl];exact⟨G1,O1,g,R,go1.rel,gr.mono go1.ex,q1,fun x O2 v G2 H2 go2 vr q2=>k _ _ _ _ _ (go1.trans rl go2) vr q2⟩⟩
   |false=>exact⟨false,rfl,by rw[qb qP];exact k _ _ _ _ _ go1 (.bl false) q1⟩
  |_=>exact False.elim q1⟩
def dIf(t:DT)(ta tb:DE):DE:=fun g O R=>t g O fun c O1=>if c=true then ta g O1 R else tb g O1 R
theorem zNk(hc:PT X c (zEh X.K tt))(ha:PE X a (zAs X.K ta))(hb:PE X b (zAs X.K tb)):PE X (.IfExp c a b pos) (zAs X.K (dIf tt ta tb)):=PE.by (pe_ifExp hc ha hb) fun s H Q ⟨G,O,g,R,rl,gr,h,k⟩=>
 ⟨G,O,g,_,rl,gr,h,fun x O1 G1 H1 go1 q1=>by
  cases x with
  |true=>rw[qe rfl];exact⟨G1,O1,g,R,go1.rel,gr.mono go1.ex,q1,fun x O2 v G2 H2 go2 vr q2=>k _ _ _ _ _ (go1.trans rl go2) vr q2⟩
  |false=>rw[qb qP];exact⟨G1,O1,g,R,go1.rel,gr.mono go1.ex,q1,fun x O2 v G2 H2 go2 vr q2=>k _ _ _ _ _ (go1.trans rl go2) vr q2⟩⟩
def zA6(d d':D2)(ta tb tc:DE):DE:=fun g O R=>ta g O fun x O1=>tb g O1 fun y O2=>d x y O2 fun z O3=>match z with|.bl true=>(tc g O3 fun w O4=>d' y w O4 R)|.bl false=>R (.bl false) O3|_=>False
theorem zJy{K:PySem.W.Frag}{r r':R2}{d d':D2}{ta tb tc:DE}(hr:OpS K r d)(hr':OpS K r' d'):∀s H Q,zAs K (zA6 d d' ta tb tc) s H Q→tChain r r' (zAs K ta) (zAs K tb) (zAs K tc) s H Q:=fun s H Q ⟨G,O,g,R,rl,gr,h,k⟩=>
 ⟨G,O,g,_,rl,gr,h,fun x O1 v G1 H1 go1 vr1 q1=>⟨G1,O1,g,_,go1.rel,gr.mono go1.ex,q1,fun y O2 u G2 H2 go2 vr2 q2=>
  hr go2.rel (vr1.mono go2.ex) vr2 q2 fun z O3 w G3 H3 go3 vr3 q3=>by
   have g12:=go1.trans rl go2
   have g13:=g12.trans rl go3
   cases vr3 with
   |bl b=>
    cases b with
    |false=>exact⟨false,rfl,by rw[qb qP];exact k _ _ _ _ _ g13 (.bl false) q3⟩
    |true=>
     refine⟨true,rfl,?_⟩
     rw[qe rfl]
     exact⟨G3,O3,g,_,go3.rel,gr.mono g13.ex,q3,fun z' O4 w' G4 H4 go4 vr4 q4=>hr' go4.rel ((vr2.mono go3.ex).mono go4.ex) vr4 q4 fun z2 O5 w5 G5 H5 go5 vr5 q5=>k z2 O5 w5 G5 H5 ((g13.trans rl go4).trans rl go5) vr5 q5⟩
   |_=>exact False.elim q3⟩⟩
theorem zOO{op op':CmpOp}{r r':R2}{d d':D2}(ho:OpR X (compareOp op) r)(hr:OpS X.K r d)(ho':OpR X (compareOp op') r')(hr':OpS X.K r' d')(ha:PE X a (zAs X.K ta))(hb:PE X b (zAs X.K tb))(hc:PE X c (zAs X.K tc))
  (hm:lastMarks [op,op'] [b,c]=false:=by with_unfolding_all rfl):PE X (.Compare a [op,op'] [b,c] pos) (zAs X.K (zA6 d d' ta tb tc)):=PE.by (pe_chain ho ho' ha hb hc hm) (zJy hr hr')
theorem zCh{op op':CmpOp}{r r':R2}{d d':D2}(ho:OpR X (compareOp op) r)(hr:OpS X.K r d)(ho':OpR X (compareOp op') r')(hr':OpS X.K r' d')(ha:PE X a (zAs X.K ta))(hb:PE X b (zAs X.K tb))(hc:PE X c (zAs X.K tc))
  (hm:lastMarks [op,op'] [b,c]=false:=by with_unfolding_all rfl):PT X (.Compare a [op,op'] [b,c] pos) (zEh X.K (zAo (zA6 d d' ta tb tc))):=PT.by (pt_chain ho ho' ha hb hc hm) fun s H Q h=>by
  obtain⟨G,O,g,R,rl,gr,h,k⟩:=zF4 s H Q h
  exact zJy hr hr' s H _ ⟨G,O,g,R,rl,gr,h,k⟩
def zAg:DA:=fun _ O R=>R [] O
def zAc(t:DE)(u:DA):DA:=fun g O R=>t g O fun x O1=>u g O1 fun xs O2=>R (x::xs) O2
def zD2(t:DA):DE:=fun g O R=>t g O fun xs O1=>R (.tup xs) O1
def zMm(t:DA):DE:=fun g O R=>t g O fun xs O1=>∀p,O1 p=none→R (.ref p) (up O1 p (.lst xs))
variable {es:List Expr}{tA:DA}{n:Nat}
theorem zAf:PA X [] (zC8 X.K 0 zAg):=PA.by pa_nil fun s H Q ⟨G,O,g,R,rl,gr,h,k⟩=>k [] O [] G H (Go.refl rl) .nil rfl h
theorem zAa(ha:PE X e (zAs X.K ta))(hr:PA X es (zC8 X.K n tA))(hs:starEach (e::es) X.env=(false,eval e X.env)::starEach es X.env:=by rfl):PA X (e::es) (zC8 X.K (n+1) (zAc ta tA)):=
 PA.by (pa_cons ha hr hs) fun s H Q ⟨G,O,g,R,rl,gr,h,k⟩=>⟨G,O,g,_,rl,gr,h,fun x O1 v G1 H1 go1 vr1 q1=>⟨G1,O1,g,_,go1.rel,gr.mono go1.ex,q1,fun xs O2 vs G2 H2 go2 vr2 hl q2=>
  k _ _ _ _ _ (go1.trans rl go2) (.cons (vr1.mono go2.ex) vr2) (by rw[qi,hl]) q2⟩⟩
theorem zCt{x1}(h:PA X es (zC8 X.K n tA))(hn:n≤1000:=by decide):PE X (.Tuple es x1 pos) (zAs X.K (zD2 tA)):=PE.by (pe_tup h) fun s H Q ⟨G,O,g,R,rl,gr,h,k⟩=>
 ⟨G,O,g,_,rl,gr,h,fun xs O1 vs G1 H1 go1 vr1 hl q1=>⟨by rw[vr1.length,hl];exact qo hn (by decide),fun p hp=>by
  have b:Bk X.K G1 O1 H1 R Q:=fun x O2 v G2 H2 go2 vr q2=>k _ _ _ _ _ (go1.trans rl go2) vr q2
  exact b.tup go1.rel vr1 q1 p hp⟩⟩
theorem zOL(h:PA X es (zC8 X.K n tA))(hn:n≤1000:=by decide):PE X (.List es pos) (zAs X.K (zMm tA)):=PE.by (pe_lst h) fun s H Q ⟨G,O,g,R,rl,gr,h,k⟩=>
 ⟨G,O,g,_,rl,gr,h,fun xs O1 vs G1 H1 go1 vr1 hl q1=>⟨by rw[vr1.length,hl];exact qo hn (by decide),fun p hp=>by
  have b:Bk X.K G1 O1 H1 R Q:=fun x O2 v G2 H2 go2 vr q2=>k _ _ _ _ _ (go1.trans rl go2) vr q2
  exact b.lst go1.rel vr1 q1 p hp⟩⟩
end
section
variable {K:PySem.W.Frag}
def dI(g:Int→Int→D):D2:=fun x y O R=>match x,y with|.int i,.int j=>R (g i j) O|_,_=>False
def dIc(C:Int→Int→Prop)(g:Int→Int→D):D2:=fun x y O R=>match x,y with|.int i,.int j=>C i j∧R (g i j) O|_,_=>False
theorem sI{f:Int→Int→V}{g:Int→Int→D}(h:∀G i j,VR K G (f i j) (g i j)):OpS K (rI0 f) (dI g):=fun {G O H x y v u R Q} rl hx hy h' k=>by
 cases hx<;>cases hy<;>first|exact h'.elim|exact⟨_,_,rfl,rfl,k.here rl (h _ _ _) h'⟩
theorem sIc{C C':Int→Int→Prop}{f:Int→Int→V}{g:Int→Int→D}(h:∀G i j,VR K G (f i j) (g i j))(hc:∀i j,C i j→C' i j):OpS K (rI C' f) (dIc C g):=fun {G O H x y v u R Q} rl hx hy h' k=>by
 cases hx<;>cases hy<;>first|exact h'.elim|exact⟨_,_,rfl,rfl,hc _ _ h'.1,k.here rl (h _ _ _) h'.2⟩
end
end DL
namespace DL
open PySem L2
open Evl (Ex)
theorem PS.by{X:Cx}{e:Stmt}{t t':TS}(h:PS X e t)(k:∀D s H,t' D s H→t D s H):PS X e t':=⟨fun pins s σ H D I q=>h.run pins s σ H D I (k D σ H q)⟩
theorem PSs.by{X:Cx}{e:List Stmt}{t t':TS}(h:PSs X e t)(k:∀D s H,t' D s H→t D s H):PSs X e t':=⟨fun pins s σ H D I q=>h.run pins s σ H D I (k D σ H q)⟩
theorem PG.by{X:Cx}{e:Expr}{t t':TG}(h:PG X e t)(k:∀v s H Q,t' v s H Q→t v s H Q):PG X e t':=⟨fun pins s σ H v u Q I r q=>h.run pins s σ H v u Q I r (k v σ H Q q)⟩
theorem PGs.by{X:Cx}{e:List Expr}{t t':TGs}(h:PGs X e t)(k:∀v s H Q,t' v s H Q→t v s H Q):PGs X e t':=⟨fun pins s σ H v u Q I r q=>h.run pins s σ H v u Q I r (k v σ H Q q)⟩
theorem PI.by{X:Cx}{tg e:Expr}{t t':TI}(h:PI X tg e t)(k:∀s H R,t' s H R→t s H R):PI X tg e t':=⟨fun pins s σ H R I q=>h.run pins s σ H R I (k σ H R q)⟩
def zAH:DS:=fun F g O=>F.nx g O
def zAt(t u:DS):DS:=fun F g O=>t {F with nx:=u F} g O
def zFP:DS:=fun F g O=>F.bk g O
def zG8:DS:=fun F g O=>F.ct g O
def zCo(t:DE):DS:=fun F g O=>t g O fun _ O1=>F.nx g O1
def zBd(t:DE):DS:=fun F g O=>t g O F.rt
def zJO:DS:=fun F _ O=>F.rt .non O
def zBK(c:DT)(t u:DS):DS:=fun F g O=>c g O fun b O1=>if b=true then t F g O1 else u F g O1
abbrev DG:=D→Gm→Om→(Gm→Om→Prop)→Prop
abbrev DGs:=List D→Gm→Om→(Gm→Om→Prop)→Prop
def gN(i:Nat):DG:=fun x g O R=>R (g.set i (some x)) O
def zBP:DGs:=fun xs g O R=>match xs with|[]=>R g O|_=>False
def zAp(t:DG)(u:DGs):DGs:=fun xs g O R=>match xs with|x::xs=>t x g O fun g1 O1=>u xs g1 O1 R|_=>False
def gT(n:Nat)(t:DGs):DG:=fun x g O R=>match x with|.tup xs=>xs.length=n∧t xs g O R|_=>False
def zEo(t:DE)(u:DG):DS:=fun F g O=>t g O fun x O1=>u x g O1 F.nx
abbrev zBY(i:Nat)(t:DE):DS:=zEo t (gN i)
def zOV(i j:Nat)(t:DA):DS:=fun F g O=>t g O fun xs O1=>match xs with|[x,y]=>F.nx ((g.set i (some x)).set j (some y)) O1|_=>False
def zSd(K:PySem.W.Frag)(t:DG):TG:=fun v s H Q=>∃(G:Hp) (O:Om) (g:Gm) (x:D) (R:Gm→Om→Prop),Rel K G O H∧GR K G s g∧VR K G v x∧t x g O R∧∀s' g' O' G' H',Go K G O H G' O' H'→GR K G' s' g'→R g' O'→Q s' H'
def zKV(K:PySem.W.Frag)(t:DGs):TGs:=fun v s H Q=>∃(G:Hp) (O:Om) (g:Gm) (x:List D) (R:Gm→Om→Prop),Rel K G O H∧GR K G s g∧VRs K G v x∧t x g O R∧∀s' g' O' G' H',Go K G O H G' O' H'→GR K G' s' g'→R g' O'→Q s' H'
section
variable {X:Cx}{W:WX}{st:Stmt}{rest:List Stmt}{t u:DS}{e:Expr}{te:DE}{pos:Pos}
theorem EndsR.with{K:PySem.W.Frag}{W:WX}{G:Hp}{O:Om}{H:Hp}{F:DEnds}{E:Ends}(h:EndsR K W G O H F E){n:Gm→Om→Prop}{n':St→Hp→Prop}(k:∀s' g' O' G' H',Go K G O H G' O' H'→GR K G' s' g'→n g' O'→n' s' H'):EndsR K W G O H {F with nx:=n} {E with nx:=n'}:=⟨k,h.bk,h.ct,h.rt,h.xc⟩
theorem zAP:PSs X [] (zCl X.K W zAH):=PSs.by pss_nil fun E s H ⟨G,O,g,F,rl,gr,h,k⟩=>k.nx _ _ _ _ _ (Go.refl rl) gr h
theorem zAe(h1:PS X st (zCl X.K W t))(h2:PSs X rest (zCl X.K W u)):PSs X (st::rest) (zCl X.K W (zAt t u)):=PSs.by (pss_cons h1 h2) fun E s H ⟨G,O,g,F,rl,gr,h,k⟩=>
 ⟨G,O,g,_,rl,gr,h,k.with fun s' g' O' G' H' go gr' q=>⟨G',O',g',F,go.rel,gr',q,k.from rl go⟩⟩
theorem zAk(h1:PS X st (zCl X.K W t)):PSs X [st] (zCl X.K W t):=pss_one h1
theorem zMP:PS X (.Continue pos) (zCl X.K W zG8):=PS.by ps_continue fun E s H ⟨G,O,g,F,rl,gr,h,k⟩=>k.ct _ _ _ _ _ (Go.refl rl) gr h
theorem zCB(he:PE X e (zAs X.K te))(hs:swapsWith e none pos.line X.env=pure false:=by rfl):PS X (.Expr e pos) (zCl X.K W (zCo te)):=PS.by (ps_expr he hs) fun E s H ⟨G,O,g,F,rl,gr,h,k⟩=>
 ⟨G,O,g,_,rl,gr,h,fun x O1 v G1 H1 go1 vr1 q1=>k.nx _ _ _ _ _ go1 (gr.mono go1.ex) q1⟩
theorem zAI(he:PE X e (zAs X.K te)):PS X (.Return (some e) pos) (zCl X.K W (zBd te)):=PS.by (ps_ret he) fun E s H ⟨G,O,g,F,rl,gr,h,k⟩=>
 ⟨G,O,g,_,rl,gr,h,fun x O1 v G1 H1 go1 vr1 q1=>k.rt _ _ _ _ _ go1 vr1 q1⟩
theorem zCg{c:Expr}{a b:List Stmt}{tc:DT}(hc:PT X c (zEh X.K tc))(ha:PSs X a (zCl X.K W t))(hb:PSs X b (zCl X.K W u)):PS X (.If c a b pos) (zCl X.K W (zBK tc t u)):=PS.by (ps_if hc ha hb) fun E s H ⟨G,O,g,F,rl,gr,h,k⟩=>
 ⟨G,O,g,_,rl,gr,h,fun x O1 G1 H1 go1 q1=>by
  cases x with
  |true=>exact⟨G1,O1,g,F,go1.rel,gr.mono go1.ex,q1,k.from rl go1⟩
  |false=>exact⟨G1,O1,g,F,go1.rel,gr.mono go1.ex,q1,k.from rl go1⟩⟩
def zSy:DS:=fun _ _ _=>False
theorem zP6{sts:List Stmt}:PSs X sts (zCl X.K W zSy):=PSs.by pss_never fun E s H ⟨_,_,_,_,_,_,h,_⟩=>h.elim
theorem zAx{i:Nat}{x:Str}(hN:X.N.Nodup)(hi:X.N[i]?=some x)(hx:Loc X.env.scope x)(hf:X.fn x=true∨X.env.scope.names.lookup x=some .local:=by first|exact .inl rfl|exact .inr rfl|assumption):PG X (.Name x pos) (zSd X.K (gN i)):=
 PG.by (pg_name hN hi hx hf) fun v s H Q ⟨G,O,g,x,R,rl,gr,vr,h,k⟩=>k _ _ _ _ _ (Go.refl rl) (gr.set i vr) h
theorem zCd:PGs X [] (zKV X.K zBP):=PGs.by pgs_nil fun v s H Q ⟨G,O,g,x,R,rl,gr,vr,h,k⟩=>by
 cases vr with
 |nil=>exact⟨rfl,k _ _ _ _ _ (Go.refl rl) gr h⟩
 |cons _ _=>exact False.elim h
theorem zAq{es:List Expr}{t:DG}{u:DGs}(h1:PG X e (zSd X.K t))(h2:PGs X es (zKV X.K u))
  (hs:(assignEach (e::es) X.env).map (·.2)=assign e X.env::(assignEach es X.env).map (·.2):=by rfl):PGs X (e::es) (zKV X.K (zAp t u)):=PGs.by (pgs_cons h1 h2 hs) fun v s H Q ⟨G,O,g,x,R,rl,gr,vr,h,k⟩=>by
 cases vr with
 |nil=>exact False.elim h
 |cons hv hr=>exact⟨_,_,rfl,G,O,g,_,_,rl,gr,hv,h,fun s1 g1 O1 G1 H1 go1 gr1 q1=>⟨G1,O1,g1,_,R,go1.rel,gr1,hr.mono go1.ex,q1,fun s2 g2 O2 G2 H2 go2 gr2 q2=>k _ _ _ _ _ (go1.trans rl go2) gr2 q2⟩⟩
theorem zDR{es:List Expr}{k:Nat}{t:DGs}{n:Nat}(hc:X.calm=true)(h:PGs X es (zKV X.K t))
  (hn:(assignEach es X.env).length=n:=by rfl) (hst:(assignEach es X.env).findIdx? (·.1)=none:=by rfl):PG X (.Tuple es k pos) (zSd X.K (gT n t)):=PG.by (pg_tup hc h hn hst) fun v s H Q ⟨G,O,g,x,R,rl,gr,vr,h,k⟩=>by
 cases vr with
 |tup h1 h2=>exact⟨_,_,rfl,Evl.ex_t rl.g h1,h2.length.trans h.1,G,O,g,_,R,rl,gr,h2,h.2,k⟩
 |_=>exact False.elim h
theorem zDr{tg:Expr}{u:DG}(he:PE X e (zAs X.K te))(hg:PG X tg (zSd X.K u))(hs:swapsWithSole [tg] e pos.line X.env=pure false:=by rfl)(hw:swappedStores [tg] e X.env=pure none:=by rfl)
  (h1:(assignEach [tg] X.env).map (·.2)=[assign tg X.env]:=by rfl):PS X (.Assign [tg] e pos) (zCl X.K W (zEo te u)):=PS.by (ps_asg he hg hs hw h1) fun E s H ⟨G,O,g,F,rl,gr,h,k⟩=>
 ⟨G,O,g,_,rl,gr,h,fun x O1 v G1 H1 go1 vr1 q1=>⟨G1,O1,g,x,_,go1.rel,gr.mono go1.ex,vr1,q1,fun s2 g2 O2 G2 H2 go2 gr2 q2=>k.nx _ _ _ _ _ (go1.trans rl go2) gr2 q2⟩⟩
theorem zA2{i:Nat}{x:Str}{pos':Pos}(hN:X.N.Nodup)(hi:X.N[i]?=some x)(hx:Loc X.env.scope x)(he:PE X e (zAs X.K te))(hs:swapsWith e (some (.Name x pos')) pos.line X.env=pure false:=by rfl)(hf:X.fn x=true∨X.env.scope.names.lookup x=some .local:=by first|exact .inl rfl|exact .inr rfl|assumption):
  PS X (.Assign [.Name x pos'] e pos) (zCl X.K W (zBY i te)):=PS.by (ps_set hN hi hx he hs hf) fun E s H ⟨G,O,g,F,rl,gr,h,k⟩=>
 ⟨G,O,g,_,rl,gr,h,fun x O1 v G1 H1 go1 vr1 q1=>k.nx _ _ _ _ _ go1 ((gr.mono go1.ex).set i vr1) q1⟩
theorem zVZ{i j:Nat}{x y:Str}{a b:Expr}{tA:DA}{px py pt:Pos}{kt k2 pt2}{n:Nat}(hc:X.calm=true)(hN:X.N.Nodup)(hi:X.N[i]?=some x)(hj:X.N[j]?=some y)(hij:i≠j)
  (hx:X.env.scope.names.lookup x=some .local) (hy:X.env.scope.names.lookup y=some .local) (ha:PA X [a,b] (zC8 X.K n tA))
  (hw:swappedStores [.Tuple [.Name x px,.Name y py] kt pt] (.Tuple [a,b] k2 pt2) X.env=pure (some [x,y]))
  (hs:swapsWithSole [.Tuple [.Name x px,.Name y py] kt pt] (.Tuple [a,b] k2 pt2) pos.line X.env=pure false:=by rfl):
  PS X (.Assign [.Tuple [.Name x px,.Name y py] kt pt] (.Tuple [a,b] k2 pt2) pos) (zCl X.K W (zOV i j tA)):=PS.by (ps_par hc hN hi hj hij hx hy ha hw hs) fun E s H ⟨G,O,g,F,rl,gr,h,k⟩=>
 ⟨G,O,g,_,rl,gr,h,fun xs O1 vs G1 H1 go1 vr1 hl q1=>by
  match xs,vr1,q1 with
  |[x,y],vr1,q1=>
   obtain⟨v,u,rfl,hv,hu⟩:=vr1.two
   exact⟨v,u,rfl,k.nx _ _ _ _ _ go1 (((gr.mono go1.ex).set i hv).set j hu) q1⟩⟩
def zSG(i:Nat)(te:DE)(d:D2):DS:=fun F g O=>match g[i]? with|some (some x)=>(te g O fun y O1=>d x y O1 fun z O2=>F.nx (g.set i (some z)) O2)|_=>False
abbrev D3:=D→D→D→Om→(Om→Prop)→Prop
def SeS(K:PySem.W.Frag)(r:TSet)(d:D3):Prop:=∀{G O H x y z v u w} {R:Om→Prop}{Q:Hp→Prop},Rel K G O H→VR K G v x→VR K G u y→VR K G w z→d x y z O R→(∀O' G' H',Go K G O H G' O' H'→R O'→Q H')→r v u w H Q
def zEj(to ti:DE)(d:D3):DG:=fun x g O R=>to g O fun o O1=>ti g O1 fun i O2=>d o i x O2 fun O3=>R g O3
theorem zM3{o i:Expr}{to ti:DE}{t:TSet}{d:D3}(ho:PE X o (zAs X.K to))(hi:PE X i (zAs X.K ti))(hs:PSet X t)(hr:SeS X.K t d)
  (ha:∀v,assign (.Subscript o i pos) X.env v=(do
   let ov ←holding [v] (eval o X.env)
   let iv ←holding [v,ov] (eval i X.env)
   standAt pos
   holding [v,ov,iv] (setItem ov iv v)
   release [v,ov,iv] []):=by intro _;rfl):PG X (.Subscript o i pos) (zSd X.K (zEj to ti d)):=PG.by (pg_sub ho hi hs ha) fun v s H Q ⟨G,O,g,x,R,rl,gr,vr,h,k⟩=>
 ⟨G,O,g,_,rl,gr,h,fun x1 O1 v1 G1 H1 go1 vr1 q1=>⟨G1,O1,g,_,go1.rel,gr.mono go1.ex,q1,fun x2 O2 v2 G2 H2 go2 vr2 q2=>
  have e12:=go1.ex.trans go2.ex
  hr go2.rel (vr1.mono go2.ex) vr2 (vr.mono e12) q2 fun O3 G3 H3 go3 q3=>k _ _ _ _ _ ((go1.trans rl go2).trans rl go3) (gr.mono (e12.trans go3.ex)) q3⟩⟩
def zEl:D3:=fun o i v O R=>match o,i with|.ref a,.int k=>(match O a with|some (.lst xs)=>(match ixN xs.length k with|some j=>R (up O a (.lst (xs.set j v)))|none=>False)|_=>False)|_,_=>False
theorem zMQ{K:PySem.W.Frag}:SeS K rSetL zEl:=fun {G O H x y z v u w R Q} rl hx hy hz h k=>by
 cases hx<;>cases hy<;>first|exact h.elim|skip
 rename_i a i
 have h:(match O a with|some (.lst xs)=>(match ixN xs.length i with|some j=>R (up O a (.lst (xs.set j z)))|none=>False)|_=>False):=h
 cases e:O a with
 |none=>simp only[e] at h
 |some o=>
  cases o with
  |lst xs=>
   simp only[e] at h
   obtain⟨vs,h1,h2⟩:=rl.lst e
   cases e2:ixN xs.length i with
   |none=>simp only[e2] at h
   |some j=>
    simp only[e2] at h
    exact⟨a,vs,i,j,rfl,rfl,h1,by rw[h2.length];exact e2,k _ _ _ (Go.write rl e (o:=.lst (xs.set j z)) (u:=.lst (vs.set j w)) (h2.set hz j)) h⟩
  |_=>simp only[e] at h
end
abbrev DI:=Gm→Om→(List D→(Om→Prop)→Om→Prop)→Prop
structure ItR(K:PySem.W.Frag)(J:It)(G0:Hp)(xs:List D)(ok:Om→Prop):Prop where
 stop:∀G O H,Ex G0 G→Rel K G O H→ok O→J.stop xs.length H
 go:∀(i:Nat) (d:D) G O H,xs[i]?=some d→Ex G0 G→Rel K G O H→ok O→J.go i H
 yld:∀(i:Nat) (d:D) G O H x H',xs[i]?=some d→Ex G0 G→Rel K G O H→ok O→J.yld i H x H'→∃G',Go K G O H G' O H'∧VR K G' x d
def zNj(K:PySem.W.Frag)(t:DI):TI:=fun s H R=>∃(G:Hp) (O:Om) (g:Gm) (R':List D→(Om→Prop)→Om→Prop),Rel K G O H∧GR K G s g∧t g O R'∧∀xs ok O' J G' H',Go K G O H G' O' H'→ItR K J G' xs ok→R' xs ok O'→R J H'
def zEP(u:DG)(tb:DS)(ok:Om→Prop)(F:DEnds):List D→Gm→Om→Prop
 |[],g,O=>ok O∧F.nx g O
 |x::xs,g,O=>ok O∧u x g O fun g1 O1=>tb {F with nx:=zEP u tb ok F xs,ct:=zEP u tb ok F xs,bk:=F.nx} g1 O1
def zMp(it:DI)(u:DG)(tb:DS):DS:=fun F g O=>it g O fun xs ok O1=>zEP u tb ok F xs g O1
section
variable {X:Cx}{W:WX}{pos:Pos}{tg:Expr}
theorem zDC{A:Type}:∀{xs:List A}{i:Nat}{x:A}{r:List A},xs.drop i=x::r→xs[i]?=some x∧xs.drop (i+1)=r
 |[],i,_,_,h=>by simp at h
 |y::ys,0,x,r,h=>by simp at h;exact⟨by simp[h.1],by simp[h.2]⟩
 |y::ys,i+1,x,r,h=>by simpa using zDC (xs:=ys) (i:=i) (by simpa using h)
theorem zJp{iter:Expr}{body:List Stmt}{it:DI}{u:DG}{tb:DS}(hp:PassesOwn (model X.prog X.w) X.A X.env X.xe)(hc:X.calm=true)(hi:PI X tg iter (zNj X.K it))(hg:PG X tg (zSd X.K u))(hb:PSs X body (zCl X.K W tb))
  (hs:∀x,foldedSetIterable iter X.env x=pure x:=by intro _;rfl):PS X (.For tg iter body [] pos) (zCl X.K W (zMp it u tb)):=PS.by (ps_for hp hc hi hg hb hs) fun E s H ⟨G,O,g,F,rl,gr,h,k⟩=>by
 refine⟨G,O,g,_,rl,gr,h,fun xs ok O1 J G1 H1 go1 ir q1=>?_⟩
 refine⟨fun i m s' H'=>∃G' O' g',Go X.K G1 O1 H1 G' O' H'∧GR X.K G' s' g'∧zEP u tb ok F (xs.drop i) g' O'∧m=xs.length-i∧i≤xs.length,⟨_,G1,O1,g,Go.refl go1.rel,gr.mono go1.ex,q1,rfl,qR _⟩,?_⟩
 rintro i m s2 H2 ⟨G2,O2,g2,go2,gr2,q2,hm,hi⟩
 have g12:=go1.trans rl go2
 cases e:xs.drop i with
 |nil=>
  rw[e] at q2
  have hl:xs.length=i:=by
   have:=jB List.length e
   rw[jq,qT] at this
   omega
  refine .inl ⟨?_,k.nx _ _ _ _ _ g12 gr2 q2.2⟩
  rw[←hl]
  exact ir.stop G2 O2 H2 go2.ex go2.rel q2.1
 |cons x r=>
  rw[e] at q2
  obtain⟨hx,hr⟩:=zDC e
  have hlt:i<xs.length:=(qf.mp hx).1
  refine .inr ⟨ir.go i x G2 O2 H2 hx go2.ex go2.rel q2.1,fun s' H'=>∃G' O' g',Go X.K G1 O1 H1 G' O' H'∧GR X.K G' s' g'∧zEP u tb ok F r g' O',?_,fun v H3 hy=>?_⟩
  ·rintro s3 H3 ⟨G3,O3,g3,go3,gr3,q3⟩
   exact⟨xs.length-(i+1),by omega,G3,O3,g3,go3,gr3,by rw[hr];exact q3,rfl,hlt⟩
  ·obtain⟨G3,go3,vr3⟩:=ir.yld i x G2 O2 H2 v H3 hx go2.ex go2.rel q2.1 hy
   refine⟨G3,O2,g2,x,_,go3.rel,gr2.mono go3.ex,vr3,q2.2,fun s4 g4 O4 G4 H4 go4 gr4 q4=>⟨G4,O4,g4,_,go4.rel,gr4,q4,?_⟩⟩
   have g14:=(go2.trans go1.rel go3).trans go1.rel go4
   have k4:=k.from rl (go1.trans rl g14)
   exact⟨fun s' g' O' G' H' go gr q=>⟨G',O',g',g14.trans go1.rel go,gr,q⟩,k4.nx,fun s' g' O' G' H' go gr q=>⟨G',O',g',g14.trans go1.rel go,gr,q⟩,k4.rt,k4.xc⟩
theorem zTS{u:DG}{tb:DS}{ok:Om→Prop}{F:DEnds}(I:List D→Gm→Om→Prop){xs:List D}{g:Gm}{O:Om}(h0:I [] g O)(hok:∀pre g O,I pre g O→ok O)
  (hs:∀pre x post g O (N:Gm→Om→Prop),xs=pre++x::post→I pre g O→(∀g' O',I (pre++[x]) g' O'→N g' O')→u x g O fun g1 O1=>tb {F with nx:=N,ct:=N,bk:=F.nx} g1 O1)
  (hd:∀g O,I xs g O→F.nx g O):zEP u tb ok F xs g O:=by
 have key:∀(post pre:List D) (g:Gm) (O:Om),xs=pre++post→I pre g O→zEP u tb ok F post g O:=by
  intro post
  induction post with
  |nil=>
   intro pre g O e h
   rw[jH] at e
   subst e
   exact⟨hok _ _ _ h,hd g O h⟩
  |cons x post ih=>
   intro pre g O e h
   exact⟨hok _ _ _ h,hs pre x post g O _ e h fun g1 O1 h1=>ih (pre++[x]) g1 O1 (by rw[e,je];rfl) h1⟩
 exact key xs [] g O rfl h0
end
end DL
namespace DL
open PySem L2
open Evl (Ex)
abbrev Tr:Om→Prop:=fun _=>True
section
variable {X:Cx}{tg:Expr}{K:PySem.W.Frag}{G:Hp}
theorem ItR.tup{a:Addr}{vs:List V}{xs:List D}(h:SqT K G a vs)(r:VRs K G vs xs):ItR K (Itt K a) G xs Tr where
 stop:=fun G1 O H ex rl _=>⟨vs,Evl.ex_t rl.g (Evl.ex_t ex h),Nat.le_of_eq r.length⟩
 go:=fun i d G1 O H e ex rl _=>by
  obtain⟨v,h1,_⟩:=r.get e
  exact⟨vs,v,Evl.ex_t rl.g (Evl.ex_t ex h),h1⟩
 yld:=fun i d G1 O H x H' e ex rl _ y=>by
  obtain⟨rfl,hy⟩:=y
  obtain⟨v,h1,h2⟩:=r.get e
  have:=hy vs (Evl.ex_t rl.g (Evl.ex_t ex h))
  rw[h1] at this;cases this
  exact⟨G1,Go.refl rl,h2.mono ex⟩
theorem ItR.lst{a:Addr}{vs:List V}{xs:List D}(h:SqL K G a vs)(r:VRs K G vs xs):ItR K (Itl K a) G xs Tr where
 stop:=fun G1 O H ex rl _=>⟨vs,Evl.ex_l rl.g (Evl.ex_l ex h),Nat.le_of_eq r.length⟩
 go:=fun i d G1 O H e ex rl _=>by
  obtain⟨v,h1,_⟩:=r.get e
  exact⟨vs,v,Evl.ex_l rl.g (Evl.ex_l ex h),h1⟩
 yld:=fun i d G1 O H x H' e ex rl _ y=>by
  obtain⟨rfl,hy⟩:=y
  obtain⟨v,h1,h2⟩:=r.get e
  have:=hy vs (Evl.ex_l rl.g (Evl.ex_l ex h))
  rw[h1] at this;cases this
  exact⟨G1,Go.refl rl,h2.mono ex⟩
theorem ItR.own{a:Addr}{xs:List D}:ItR K (Itl K a) G xs (fun O=>O a=some (.lst xs)) where
 stop:=fun G1 O H ex rl e=>by
  obtain⟨vs,h1,h2⟩:=rl.lst e
  exact⟨vs,SqL.of h1,Nat.le_of_eq h2.length⟩
 go:=fun i d G1 O H e ex rl eo=>by
  obtain⟨vs,h1,h2⟩:=rl.lst eo
  obtain⟨v,h3,_⟩:=h2.get e
  exact⟨vs,v,SqL.of h1,h3⟩
 yld:=fun i d G1 O H x H' e ex rl eo y=>by
  obtain⟨rfl,hy⟩:=y
  obtain⟨vs,h1,h2⟩:=rl.lst eo
  obtain⟨v,h3,h4⟩:=h2.get e
  have:=hy vs (SqL.of h1)
  rw[h3] at this;cases this
  exact⟨G1,Go.refl rl,h4⟩
theorem ItR.rng{lo:Int}{n:Nat}:ItR K (Itr lo n) G ((List.range n).map fun k=>D.int (lo+(k:Nat))) Tr where
 stop:=fun G1 O H ex rl e=>by simp[Itr]
 go:=fun i d G1 O H e ex rl eo=>by
  have:=(qf.mp e).1
  simpa [Itr] using this
 yld:=fun i d G1 O H x H' e ex rl eo y=>by
  obtain⟨rfl,rfl⟩:=y
  have hi:i<n:=by simpa using (qf.mp e).1
  rw[qF,kl hi] at e
  cases e
  exact⟨G1,Go.refl rl,.int _⟩
theorem ItR.str{z:Str}:ItR K (Its z) G (z.cps.toList.map fun c=>D.str ⟨#[c]⟩) Tr where
 stop:=fun G1 O H ex rl e=>by simp[Its]
 go:=fun i d G1 O H e ex rl eo=>by
  have:=(qf.mp e).1
  simpa [Its] using this
 yld:=fun i d G1 O H x H' e ex rl eo y=>by
  obtain⟨rfl,c,hc,rfl⟩:=y
  rw[qF,Array.getElem?_toList,hc] at e
  cases e
  exact⟨G1,Go.refl rl,.str _⟩
def zC3(te:DE):DI:=fun g O R=>te g O fun x O1=>match x with
 |.tup xs=>R xs Tr O1
 |.lst xs=>R xs Tr O1
 |.str z=>R (z.cps.toList.map fun c=>D.str ⟨#[c]⟩) Tr O1
 |.ref a=>match O1 a with|some (.lst xs)=>R xs (fun O=>O a=some (.lst xs)) O1|_=>False
 |_=>False
def yBL(K:PySem.W.Frag)(tl:TE):TI:=fun σ H R=>tl σ H fun x H1=>(∃a,x=.ref a∧(∃xs,SqL K H1 a xs)∧R (Itl K a) H1)∨(∃a,x=.ref a∧(∃xs,SqT K H1 a xs)∧R (Itt K a) H1)∨(∃z,x=.str z∧R (Its z) H1)
theorem zWp{l:Expr}{tl:TE}(hl:PE X l tl):PI X tg l (yBL X.K tl):=by
 refine⟨fun pins s σ H R I h=>?_⟩
 refine thn (hl.run pins s σ H _ I h) fun v s1 ⟨x,H1,I1,r1,q1⟩=>?_
 rcases q1 with⟨a,e,⟨xs,hq⟩,q⟩|⟨a,e,⟨xs,hq⟩,q⟩|⟨z,e,q⟩
 ·subst e
  cases r1
  obtain⟨its,rv,p,hz⟩:=I1.list hq
  refine wpAny_pyIter_list p.isList ?_
  refine⟨s1.heap.objs.size,[s1.heap.objs.size],_,_,H1,rfl,I1.kept (t':=s1.toks) fun b o e=>Heap.get?_push_of_some _ e,turn_list a _,⟨_,Heap.get?_push_size _ rfl,rfl,rfl⟩,fun b hb=>?_,q⟩
  have e:b=s1.heap.objs.size:=by simpa using hb
  subst e
  exact I1.fpOk (qG _) (I1.hok.fresh (qG _))
 ·subst e
  cases r1
  obtain⟨its,rv,p,hz⟩:=I1.tuple hq
  refine wpAny_pyIter_tuple (show s1.heap.IsTuple a its.toArray from p) ?_
  refine⟨s1.heap.objs.size,[s1.heap.objs.size],_,_,H1,rfl,I1.kept (t':=s1.toks) fun b o e=>Heap.get?_push_of_some _ e,turn_tuple a _,⟨_,Heap.get?_push_size _ rfl,rfl,rfl⟩,fun b hb=>?_,q⟩
  have e:b=s1.heap.objs.size:=by simpa using hb
  subst e
  exact I1.fpOk (qG _) (I1.hok.fresh (qG _))
 ·subst e
  obtain⟨t,rfl⟩:=r1
  cases ha:z.cps.all (· < 128)
  ·exact wpAny_pyIter_wide ha (pi_one (tk:=s1.toks) I1 _ (turn_str _ z t "str_iterator" (.inr rfl)) ⟨_,Heap.get?_push_size _ rfl,rfl,rfl⟩ q)
  ·exact wpAny_pyIter_ascii ha (pi_one (tk:=s1.toks) I1 _ (turn_str _ z t "str_ascii_iterator" (.inl rfl)) ⟨_,Heap.get?_push_size _ rfl,rfl,rfl⟩ q)
theorem zEi{l:Expr}{te:DE}(hl:PE X l (zAs X.K te)):PI X tg l (zNj X.K (zC3 te)):=PI.by (zWp hl) fun s H R ⟨G,O,g,R',rl,gr,h,k⟩=>
 ⟨G,O,g,_,rl,gr,h,fun x O1 v G1 H1 go1 vr1 q1=>by
  cases vr1 with
  |tup h1 h2=>exact .inr (.inl ⟨_,rfl,⟨_,Evl.ex_t go1.rel.g h1⟩,k _ _ _ _ _ _ go1 (ItR.tup h1 h2) q1⟩)
  |lst h1 h2=>exact .inl ⟨_,rfl,⟨_,Evl.ex_l go1.rel.g h1⟩,k _ _ _ _ _ _ go1 (ItR.lst h1 h2) q1⟩
  |str z=>exact .inr (.inr ⟨z,rfl,k _ _ _ _ _ _ go1 ItR.str q1⟩)
  |ref a=>
   have q1:(match O1 a with|some (.lst xs)=>R' xs (fun O=>O a=some (.lst xs)) O1|_=>False):=q1
   cases e:O1 a with
   |none=>simp only[e] at q1
   |some o=>
    cases o with
    |lst xs=>
     simp only[e] at q1
     obtain⟨vs,h1,h2⟩:=go1.rel.lst e
     exact .inl ⟨a,rfl,⟨vs,SqL.of h1⟩,k _ _ _ _ _ _ go1 ItR.own q1⟩
    |_=>simp only[e] at q1
  |_=>exact False.elim q1⟩
def rgD(lo:Int)(n:Nat):List D:=(List.range n).map fun k=>D.int (lo+(k:Nat))
def zGI(t:DA):DI:=fun g O R=>t g O fun xs O1=>match xs with|[.int j]=>-(2 ^ 62)≤j∧j<2 ^ 62∧R (rgD 0 j.toNat) Tr O1|_=>False
def zRw(t:DA):DI:=fun g O R=>t g O fun xs O1=>match xs with|[.int i,.int j]=>(-(2 ^ 62)≤i∧i<2 ^ 62∧-(2 ^ 62)≤j∧j<2 ^ 62)∧R (rgD i (j-i).toNat) Tr O1|_=>False
def zRv(t:DA):DI:=fun g O R=>t g O fun xs O1=>match xs with|[.int i,.int j,.int c]=>c=-1∧(-(2 ^ 62)≤i∧i<2 ^ 62∧-(2 ^ 62)≤j∧j<2 ^ 62)∧R ((List.range (i-j).toNat).map fun k=>D.int (i-(k:Nat))) Tr O1|_=>False
theorem zF5{a:Expr}{ta:DA}{p pos:Pos}{n:Nat}(hm:X.mg "range"=none)(ha:PA X [a] (zC8 X.K n ta))(hg:Gl X "range":=by rfl)(hs:starEach [a] X.env=[(false,eval a X.env)]:=by rfl):PI X tg (.Call (.Name "range" p) [a] [] pos) (zNj X.K (zGI ta)):=
 PI.by (pi_range1 hg hm ha hs) fun s H R ⟨G,O,g,R',rl,gr,h,k⟩=>⟨G,O,g,_,rl,gr,h,fun xs O1 vs G1 H1 go1 vr1 hl q1=>by
  match xs,vr1,q1 with
  |[.int j],vr1,q1=>
   obtain⟨v,rfl,hv⟩:=vr1.one
   cases hv
   exact⟨j,rfl,q1.1,q1.2.1,k _ _ _ _ _ _ go1 ItR.rng q1.2.2⟩⟩
def enD(xs:List D):List D:=(xs.zipIdx).map fun p=>D.tup [.int (p.2:Nat),p.1]
theorem ItR.enum{a:Addr}{xs:List D}{ok:Om→Prop}(h:∀G1 O H,Ex G G1→Rel K G1 O H→ok O→∃vs,SqL K H a vs∧VRs K G1 vs xs):ItR K (Ite K a) G (enD xs) ok where
 stop:=fun G1 O H ex rl eo=>by
  obtain⟨vs,h1,h2⟩:=h G1 O H ex rl eo
  exact⟨vs,h1,by rw[h2.length];simp[enD]⟩
 go:=fun i d G1 O H e ex rl eo=>by
  obtain⟨vs,h1,h2⟩:=h G1 O H ex rl eo
  have hi:i<xs.length:=by simpa [enD] using (qf.mp e).1
  obtain⟨v,h3,_⟩:=h2.get (qg hi)
  exact⟨vs,v,h1,h3⟩
 yld:=fun i d G1 O H x H' e ex rl eo y=>by
  obtain⟨T,w,rfl,hT,rfl,hw⟩:=y
  obtain⟨vs,h1,h2⟩:=h G1 O H ex rl eo
  have hi:i<xs.length:=by simpa [enD] using (qf.mp e).1
  obtain⟨v,h3,h4⟩:=h2.get (qg hi)
  have:=hw vs h1
  rw[h3] at this;cases this
  have ed:d=D.tup [.int (i:Nat),xs[i]]:=by
   unfold enD at e
   rw[qF,List.getElem?_zipIdx,qg hi] at e
   simp at e
   exact e.symm
  subst ed
  have g:=Go.data rl (u:=.tup [.int (i:Nat),w]) hT
  exact⟨_,g,.tup (SqT.of upd_same) (.cons (.int _) (.cons (h4.mono g.ex) .nil))⟩
def zRz(t:DE):DI:=fun g O R=>t g O fun x O1=>match x with
 |.lst xs=>R (enD xs) Tr O1
 |.ref a=>match O1 a with|some (.lst xs)=>R (enD xs) (fun O=>O a=some (.lst xs)) O1|_=>False
 |_=>False
end
def zCM(g:Gm):List Nat→Gm
 |[]=>g
 |v::vs=>(zCM g vs).set v none
theorem GR.wipe{K:PySem.W.Frag}{G:Hp}{s:St}{g:Gm}(h:GR K G s g):∀vs:List Nat,GR K G (wipe s vs) (zCM g vs)
 |[]=>h
 |v::vs=>(GR.wipe h vs).forget v none
theorem zEs{s:St}{v:Option V}{i:Nat}:∀{vs:List Nat},i∈vs→L2.wipe (s.set i v) vs=L2.wipe s vs
 |[],h=>by simp at h
 |w::vs,h=>by
  unfold L2.wipe
  by_cases e:i∈vs
  ·rw[zEs e]
  ·have hw:i=w:=by simpa [e] using h
   subst hw
   have comm:∀(us:List Nat),i∉us→L2.wipe (s.set i v) us=(L2.wipe s us).set i v:=by
    intro us
    induction us with
    |nil=>intro _;rfl
    |cons u us ih=>
     intro hu
     unfold L2.wipe
     rw[ih (fun z=>hu (qA _ z)),List.set_comm _ _ (fun z=>hu (by rw[z];exact qz))]
   rw[comm vs e,List.set_set]
def zG3(K:PySem.W.Frag)(vs:List Nat)(t:DG):TG:=fun v s H Q=>∃(G:Hp) (O:Om) (g:Gm) (x:D) (R:Gm→Om→Prop),Rel K G O H∧GR K G s g∧VR K G v x∧t x g O R∧∀s' g' O' G' H',Go K G O H G' O' H'→GR K G' s' g'→L2.wipe s' vs=L2.wipe s vs→R g' O'→Q s' H'
def zLW(K:PySem.W.Frag)(vs:List Nat)(t:DGs):TGs:=fun v s H Q=>∃(G:Hp) (O:Om) (g:Gm) (x:List D) (R:Gm→Om→Prop),Rel K G O H∧GR K G s g∧VRs K G v x∧t x g O R∧∀s' g' O' G' H',Go K G O H G' O' H'→GR K G' s' g'→L2.wipe s' vs=L2.wipe s vs→R g' O'→Q s' H'
section
variable {X:Cx}{pos:Pos}{vs:List Nat}
theorem zBI{i:Nat}{x:Str}(hN:X.N.Nodup)(hi:X.N[i]?=some x)(hx:Loc X.env.scope x)(hv:i∈vs:=by decide)(hf:X.fn x=true∨X.env.scope.names.lookup x=some .local:=by first|exact .inl rfl|exact .inr rfl|assumption):PG X (.Name x pos) (zG3 X.K vs (gN i)):=
 PG.by (pg_name hN hi hx hf) fun v s H Q ⟨G,O,g,x,R,rl,gr,vr,h,k⟩=>k _ _ _ _ _ (Go.refl rl) (gr.set i vr) (zEs hv) h
theorem zOz:PGs X [] (zLW X.K vs zBP):=PGs.by pgs_nil fun v s H Q ⟨G,O,g,x,R,rl,gr,vr,h,k⟩=>by
 cases vr with
 |nil=>exact⟨rfl,k _ _ _ _ _ (Go.refl rl) gr rfl h⟩
 |cons _ _=>exact False.elim h
theorem zF6{e:Expr}{es:List Expr}{t:DG}{u:DGs}(h1:PG X e (zG3 X.K vs t))(h2:PGs X es (zLW X.K vs u))
  (hs:(assignEach (e::es) X.env).map (·.2)=assign e X.env::(assignEach es X.env).map (·.2):=by rfl):PGs X (e::es) (zLW X.K vs (zAp t u)):=PGs.by (pgs_cons h1 h2 hs) fun v s H Q ⟨G,O,g,x,R,rl,gr,vr,h,k⟩=>by
 cases vr with
 |nil=>exact False.elim h
 |cons hv hr=>exact⟨_,_,rfl,G,O,g,_,_,rl,gr,hv,h,fun s1 g1 O1 G1 H1 go1 gr1 w1 q1=>⟨G1,O1,g1,_,R,go1.rel,gr1,hr.mono go1.ex,q1,fun s2 g2 O2 G2 H2 go2 gr2 w2 q2=>k _ _ _ _ _ (go1.trans rl go2) gr2 (w2.trans w1) q2⟩⟩
theorem zSh{es:List Expr}{k:Nat}{t:DGs}{n:Nat}(hc:X.calm=true)(h:PGs X es (zLW X.K vs t))
  (hn:(assignEach es X.env).length=n:=by rfl) (hst:(assignEach es X.env).findIdx? (·.1)=none:=by rfl):PG X (.Tuple es k pos) (zG3 X.K vs (gT n t)):=PG.by (pg_tup hc h hn hst) fun v s H Q ⟨G,O,g,x,R,rl,gr,vr,h,k⟩=>by
 cases vr with
 |tup h1 h2=>exact⟨_,_,rfl,Evl.ex_t rl.g h1,h2.length.trans h.1,G,O,g,_,R,rl,gr,h2,h.2,k⟩
 |_=>exact False.elim h
def zFF:DT:=fun _ O R=>R true O
theorem PTs.by{X:Cx}{e:List Expr}{t t':TT}(h:PTs X e t)(k:∀s H Q,t' s H Q→t s H Q):PTs X e t':=⟨fun pins s σ H Q I q=>h.run pins s σ H Q I (k σ H Q q)⟩
theorem zDl:PTs X [] (zEh X.K zFF):=PTs.by pts_nil fun s H Q ⟨G,O,g,R,rl,gr,h,k⟩=>k _ _ _ _ (Go.refl rl) h
theorem zU6{c:Expr}{t:DT}(h:PT X c (zEh X.K t)):PTs X [c] (zEh X.K t):=pts_one h
end
def zEn(u:DG)(tt:DT)(te:DE)(ok:Om→Prop)(g:Gm)(R:List D→Om→Prop):List D→List D→Om→Prop
 |[],acc,O=>ok O∧R acc O
 |x::xs,acc,O=>ok O∧u x g O fun g1 O1=>tt g1 O1 fun b O2=>if b=true then te g1 O2 fun y O3=>acc.length<sizeLine∧zEn u tt te ok g R xs (acc++[y]) O3 else zEn u tt te ok g R xs acc O2
def dLc(it:DI)(u:DG)(tt:DT)(te:DE)(vs:List Nat):DE:=fun g O R=>it g O fun xs ok O1=>zEn u tt te ok (zCM g vs) (fun ys O2=>∀p,O2 p=none→R (.ref p) (up O2 p (.lst ys))) xs [] O1
section
variable {X:Cx}{pos:Pos}{tg:Expr}
theorem zXc{K:PySem.W.Frag}{it:DI}{u:DG}{tt:DT}{te:DE}{vs:List Nat}:∀s H Q,zAs K (dLc it u tt te vs) s H Q→tLc (zNj K it) (zG3 K vs u) (zEh K tt) (zAs K te) vs s H Q:=fun s H Q ⟨G,O,g,R,rl,gr,h,k⟩=>by
 refine⟨G,O,g,_,rl,gr,h,fun xs ok O1 J G1 H1 go1 ir q1=>?_⟩
 intro Dl hD
 obtain⟨hO,hG⟩:=go1.rel.fresh hD
 have g0:Go K G1 O1 H1 G1 (up O1 Dl (.lst [])) (upd H1 Dl (.lst [])):=Go.new go1.rel (o:=.lst []) (u:=.lst []) hD .nil
 have less:∀{O':Om}{o:DO},O' Dl=none→∀a w,O' a=some w→up O' Dl o a=some w:=fun {O' o} n a w e=>by rw[up_ne (fun z=>by subst z;rw[n] at e;cases e)];exact e
 refine⟨fun i m H'=>∃G' O' acc,Go K G1 O1 H1 G' (up O' Dl (.lst acc)) H'∧O' Dl=none∧zEn u tt te ok (zCM g vs) (fun ys O2=>∀p,O2 p=none→R (.ref p) (up O2 p (.lst ys))) (xs.drop i) acc O'∧m=xs.length-i∧i≤xs.length,
  ⟨_,G1,O1,[],g0,hO,q1,rfl,qR _⟩,?_⟩
 rintro i m H2 ⟨G2,O2,acc,go2,nO2,q2,hm,hi⟩
 have r2:Rel K G2 O2 H2:=go2.rel.less (less nO2)
 obtain⟨nG2,uu,hh,qq⟩:=go2.rel.o Dl _ up_same
 cases e:xs.drop i with
 |nil=>
  rw[e] at q2
  have hl:xs.length=i:=by
   have:=jB List.length e
   rw[jq,qT] at this
   omega
  refine .inl ⟨?_,k _ _ _ _ _ (go1.trans rl go2) (.ref Dl) (q2.2 Dl nO2)⟩
  rw[←hl]
  exact ir.stop G2 O2 H2 go2.ex r2 q2.1
 |cons x r=>
  rw[e] at q2
  obtain⟨hx,hr⟩:=zDC e
  have hlt:i<xs.length:=(qf.mp hx).1
  refine .inr ⟨ir.go i x G2 O2 H2 hx go2.ex r2 q2.1,fun H'=>∃G' O' acc,Go K G1 O1 H1 G' (up O' Dl (.lst acc)) H'∧O' Dl=none∧zEn u tt te ok (zCM g vs) (fun ys O2=>∀p,O2 p=none→R (.ref p) (up O2 p (.lst ys))) r acc O',?_,fun v H3 hy=>?_⟩
  ·rintro H3 ⟨G3,O3,acc3,go3,n3,q3⟩
   exact⟨xs.length-(i+1),by omega,G3,O3,acc3,go3,n3,by rw[hr];exact q3,rfl,hlt⟩
  ·obtain⟨G3,go3,vr3⟩:=ir.yld i x G2 O2 H2 v H3 hx go2.ex r2 q2.1 hy
   refine⟨G3,O2,zCM g vs,x,_,go3.rel,(gr.mono (go1.ex.trans (go2.ex.trans go3.ex))).wipe vs,vr3,q2.2,fun s4 g4 O4 G4 H4 go4 gr4 w4 q4=>⟨w4.trans ?_,G4,O4,g4,_,go4.rel,gr4,q4,fun b O5 G5 H5 go5 q5=>?_⟩⟩
   ·have wipe2:∀us:List Nat,(∀a∈us,a∈vs)→L2.wipe (L2.wipe s us) vs=L2.wipe s vs:=by
     intro us
     induction us with
     |nil=>intro _;rfl
     |cons a us ih=>
      intro ha
      show L2.wipe ((L2.wipe s us).set a none) vs=_
      rw[zEs (ha a qz)]
      exact ih fun b hb=>ha b (qA _ hb)
    exact wipe2 vs fun _ z=>z
   ·have g25:Go K G2 O2 H2 G5 O5 H5:=(go3.trans r2 go4).trans r2 go5
    cases b with
    |false=>
     obtain⟨n5,h5,f5⟩:=g25.frame nO2 nG2 hh qq
     exact⟨G5,O5,acc,go2.trans go1.rel f5,n5,q5⟩
    |true=>
     refine⟨G5,O5,g4,_,go5.rel,gr4.mono go5.ex,q5,fun y O6 w G6 H6 go6 vr6 q6=>?_⟩
     have g26:=g25.trans r2 go6
     obtain⟨n6,h6,f6⟩:=g26.frame nO2 nG2 hh qq
     have g16:=go2.trans go1.rel f6
     obtain⟨_,u6,h6',q6'⟩:=g16.rel.o Dl _ up_same
     cases u6 with
     |lst vacc=>
      have hv:VRs K G6 vacc acc:=q6'
      have gw:=Go.write g16.rel (a:=Dl) (o:=.lst (acc++[y])) (u:=.lst (vacc++[w])) up_same (hv.append (.cons vr6 .nil))
      rw[zMA] at gw
      exact⟨vacc,h6',by rw[hv.length];exact q6.1,G6,O6,acc++[y],g16.trans go1.rel gw,n6,q6.2⟩
     |_=>exact False.elim q6'
theorem yBN{elt iter:Expr}{ifs:List Expr}{scope:Scope}{own:List (Str×Nat)}{it:DI}{u:DG}{tt:DT}{te:DE}(hc:X.calm=true)(hN:X.N.Nodup)(hi:PI X tg iter (zNj X.K it))(ok:BlkOk X.N X.env.scope scope own)
  (hg:∀(s:Shared) (H:Hp) (C:Addr) (cl:List (Str×Addr)) (fp:List Addr),PG (X.blk s H scope (compEnvC scope cl C X.env) fp) tg (zG3 X.K (own.map (·.2)) u)) (ht:∀(s:Shared) (H:Hp) (C:Addr) (cl:List (Str×Addr)) (fp:List Addr),PTs (X.blk s H scope (compEnvC scope cl C X.env) fp) ifs (zEh X.K tt))
  (he:∀(s:Shared) (H:Hp) (C:Addr) (cl:List (Str×Addr)) (fp:List Addr),PE (X.blk s H scope (compEnvC scope cl C X.env) fp) elt (zAs X.K te)) (hs:∀x,foldedSetIterable iter X.env x=pure x:=by intro _;rfl):
  PE X (.ListComp elt [⟨tg,iter,ifs,0⟩] scope pos) (zAs X.K (dLc it u tt te (own.map (·.2)))):=PE.by (pe_lc hc hN hi ok hg ht he hs) zXc
end
theorem zUz{u:DG}{tt:DT}{te:DE}{ok:Om→Prop}{g:Gm}{R:List D→Om→Prop}(I:List D→List D→Om→Prop){xs:List D}{O:Om}(h0:I [] [] O)(hok:∀pre acc O,I pre acc O→ok O)
  (hs:∀pre x post acc O (N:List D→Om→Prop),xs=pre++x::post→I pre acc O→(∀acc' O',I (pre++[x]) acc' O'→N acc' O')→u x g O fun g1 O1=>tt g1 O1 fun b O2=>if b=true then te g1 O2 fun y O3=>acc.length<sizeLine∧N (acc++[y]) O3 else N acc O2)
  (hd:∀acc O,I xs acc O→R acc O):zEn u tt te ok g R xs [] O:=by
 have key:∀(post pre acc:List D) (O:Om),xs=pre++post→I pre acc O→zEn u tt te ok g R post acc O:=by
  intro post
  induction post with
  |nil=>
   intro pre acc O e h
   rw[jH] at e
   subst e
   exact⟨hok _ _ _ h,hd acc O h⟩
  |cons x post ih=>
   intro pre acc O e h
   exact⟨hok _ _ _ h,hs pre x post acc O _ e h fun acc1 O1 h1=>ih (pre++[x]) acc1 O1 (by rw[e,je];rfl) h1⟩
 exact key xs [] [] O rfl h0
end DL
namespace DL
open PySem PySem.Spec PyProof.Rows L2
open Evl (Ex)
abbrev XD:=Value→Option Addr→Om→Prop
abbrev DSp:=List D→Om→(D→Om→Prop)→XD→Prop
abbrev X0:XD:=fun _ _ _=>False
abbrev W0:WX:=fun _ _ _ _=>False
def zCx(K:PySem.W.Frag)(d:DSp):Sp:=fun vs H Q E=>∃(G:Hp) (O:Om) (xs:List D) (R:D→Om→Prop) (Z:XD),Rel K G O H∧VRs K G vs xs∧d xs O R Z∧
 (∀x O' v G' H',Go K G O H G' O' H'→VR K G' v x→R x O'→Q v H')∧∀c e O' G' H',Go K G O H G' O' H'→Z c e O'→E c e H'
def Fin(R:D→Om→Prop)(x:D)(O:Om):Prop:=∃O',(∀a o,O' a=some o→O a=some o)∧R x O'
theorem Fin.here{R:D→Om→Prop}{x:D}{O:Om}(h:R x O):Fin R x O:=⟨O,fun _ _ e=>e,h⟩
def zBw(R:D→Om→Prop):DEnds:={nx:=fun _ O=>Fin R .non O,rt:=Fin R}
def zAr(N:List Str)(xs:List D):Gm:=xs.map some++List.replicate (N.length-xs.length) none
theorem VRs.map_get{K:PySem.W.Frag}{G:Hp}{vs:List V}{xs:List D}(h:VRs K G vs xs){i:Nat}{d:D}(e:(xs.map some)[i]?=some (some d)):∃v,(vs.map some)[i]?=some (some v)∧VR K G v d:=by
 rw[qF] at e
 cases q:xs[i]? with
 |none=>rw[q] at e;cases e
 |some x=>
  rw[q] at e
  cases e
  obtain⟨v,h1,h2⟩:=h.get q
  exact⟨v,by rw[qF,h1];rfl,h2⟩
theorem GR.start{K:PySem.W.Frag}{G:Hp}{N:List Str}{vs:List V}{xs:List D}(h:VRs K G vs xs):GR K G (L2.start N vs) (zAr N xs):=by
 have hl:=h.length
 refine⟨by unfold L2.start zAr;simp[hl],fun i d e=>?_⟩
 unfold zAr at e
 by_cases hi:i<xs.length
 ·rw[kj (by simpa using hi)] at e
  obtain⟨v,h1,h2⟩:=h.map_get e
  exact⟨v,by unfold L2.start;rw[kj (by simpa [hl] using hi)];exact h1,h2⟩
 ·rw[List.getElem?_append_right (by simpa using hi),List.getElem?_replicate] at e
  split at e<;>cases e
section
variable {P:Program}{w:World}{K:PySem.W.Frag}{mg:Str→Option Value}{base:Heap}
theorem zBQ{x qual:Str}{params:Arguments}{body:List Stmt}{scope:Scope}{dvs:List V}{kws:List (Str×V)}{f:Addr}{fd:FuncData}{N ps:List Str}{k:Nat}{dsp:DSp}{t:DS}(F:FunD K x qual params body scope dvs kws f fd)(S:FnScope N ps scope)
  (len:∀xs O R Z,dsp xs O R Z→xs.length=ps.length)
  (hb:∀(cdv:Value) (A:Around) (outer:List Env) (s:Shared) (H:Hp) (E:XK),Room k (A.deeper (envOfC qual scope s.heap.objs.size f cdv))→PSs (cxOf CX0 P w K mg base N qual scope f cdv A outer s H E).nox body (zCl K W0 t))
  (hd:∀xs O R Z,dsp xs O R Z→t (zBw R) (zAr N xs) O):FnOk P w K mg base CX0 (k+1) f fd ps (zCx K dsp):=by
 refine FunD.ok F S (fun vs H Q E h=>?_) (fun cdv A outer s H vs Q E hr h=>⟨zCl K W0 t,(hb cdv A outer s H E hr).nox,?_⟩)
 ·obtain⟨G,O,xs,R,Z,rl,vr,hs,_⟩:=h
  rw[vr.length]
  exact len _ _ _ _ hs
 ·obtain⟨G,O,xs,R,Z,rl,vr,hs,k,_⟩:=h
  refine⟨G,O,zAr N xs,zBw R,rl,GR.start vr,hd _ _ _ _ hs,⟨fun s' g' O' G' H' go gr q=>?_,fun _ _ _ _ _ _ _ q=>q,fun _ _ _ _ _ _ _ q=>q,fun x O' v G' H' go vr q=>?_,fun _ _ _ _ _ _ _ _ _ q=>q⟩⟩
  ·obtain⟨O2,h1,h2⟩:=q
   exact k _ _ _ _ _ (go.less h1) .non h2
  ·obtain⟨O2,h1,h2⟩:=q
   exact k _ _ _ _ _ (go.less h1) vr h2
end
inductive Src where
 |p (i:Nat)|k (i:Nat)|d (i:Nat)
def Src.get{A:Type}(us ws ds:List A):Src→Option A
 |.p i=>us[i]?
 |.k i=>ws[i]?
 |.d i=>ds[i]?
def pick{A:Type}(us ws ds:List A)(l:List Src):List A:=l.filterMap (Src.get us ws ds)
structure Bnd(K:PySem.W.Frag)(fd:FuncData)(ps:List Str)(n:Nat)(ks:List Str)(srcs:List Src)(dvs:List V):Prop where
 to:∃ds:List Value,Vals dvs ds∧∀(s:Shared) (us ws:List Value),K.In s.heap→us.length=n→ws.length=ks.length→BindsTo s fd ⟨us,ks.zip ws⟩ (ps.zip (pick us ws ds srcs))
theorem Vals.ixO{vs:List V}{us:List Value}(h:Vals vs us)(i:Nat):match vs[i]?,us[i]? with|some v,some u=>RelV v u|none,none=>True|_,_=>False:=by
 cases e:vs[i]? with
 |none=>rw[h.none_of e];trivial
 |some v=>obtain⟨u,h1,h2⟩:=h.get e;rw[h1];exact h2
theorem zEE{vs zs dvs:List V}{us ws ds:List Value}(h1:Vals vs us)(h2:Vals zs ws)(h3:Vals dvs ds):∀l:List Src,Vals (pick vs zs dvs l) (pick us ws ds l)
 |[]=>.nil
 |x::l=>by
  have ih:=zEE h1 h2 h3 l
  have q:match x.get vs zs dvs,x.get us ws ds with|some v,some u=>RelV v u|none,none=>True|_,_=>False:=by
   cases x
   ·exact Vals.ixO h1 _
   ·exact Vals.ixO h2 _
   ·exact Vals.ixO h3 _
  unfold pick
  rw[jt,jt]
  cases e1:x.get vs zs dvs<;>cases e2:x.get us ws ds<;>rw[e1,e2] at q
  ·exact ih
  ·exact q.elim
  ·exact q.elim
  ·exact .cons q ih
theorem VRs.ixO{K:PySem.W.Frag}{G:Hp}{vs:List V}{us:List D}(h:VRs K G vs us)(i:Nat):match vs[i]?,us[i]? with|some v,some u=>VR K G v u|none,none=>True|_,_=>False:=by
 cases e:us[i]? with
 |none=>
  have hl:vs[i]?=none:=kH (by rw[h.length];exact List.getElem?_eq_none_iff.mp e)
  rw[hl];trivial
 |some v=>obtain⟨u,h1,h2⟩:=h.get e;rw[h1];exact h2
theorem zCm{K:PySem.W.Frag}{G:Hp}{vs zs dvs:List V}{us ws ds:List D}(h1:VRs K G vs us)(h2:VRs K G zs ws)(h3:VRs K G dvs ds):∀l:List Src,VRs K G (pick vs zs dvs l) (pick us ws ds l)
 |[]=>.nil
 |x::l=>by
  have ih:=zCm h1 h2 h3 l
  have q:match x.get vs zs dvs,x.get us ws ds with|some v,some u=>VR K G v u|none,none=>True|_,_=>False:=by
   cases x
   ·exact VRs.ixO h1 _
   ·exact VRs.ixO h2 _
   ·exact VRs.ixO h3 _
  unfold pick
  rw[jt,jt]
  cases e1:x.get vs zs dvs<;>cases e2:x.get us ws ds<;>rw[e1,e2] at q
  ·exact ih
  ·exact q.elim
  ·exact q.elim
  ·exact .cons q ih
section
variable {K:PySem.W.Frag}{x qual:Str}{params:Arguments}{body:List Stmt}{scope:Scope}{dvs:List V}{kws:List (Str×V)}{f:Addr}{fd:FuncData}{ps ks:List Str}{n:Nat}{srcs:List Src}
theorem yA3(F:FunD K x qual params body scope [] kws f fd)
  (h:∀(kV doc pm:Value) (an:Option Addr) (cdv ct:Value) (us ws:List Value),us.length=n→ws.length=ks.length→bindArgs (PySem.W.fnOf x qual params body scope .none kV doc pm an cdv ct) ⟨us,ks.zip ws⟩=pure (ps.zip (pick us ws [] srcs))):Bnd K fd ps n ks srcs []:=by
 obtain⟨oc,od,dV,kV,doc,pm,an,cdv,ct,osl,rfl,lk,hcd,hD,hK⟩:=F.ex
 rcases hD with⟨_,rfl⟩|⟨z,_⟩
 ·exact⟨[],.nil,fun s us ws _ h1 h2=>.of_eq (h kV doc pm an cdv ct us ws h1 h2)⟩
 ·exact absurd rfl z
theorem yBp(F:FunD K x qual params body scope dvs kws f fd)(hd:dvs≠[])
  (h:∀(T:Addr) (kV doc pm:Value) (an:Option Addr) (cdv ct:Value) (us ws its:List Value),us.length=n→ws.length=ks.length→its.length=dvs.length→
   ∃k,bindArgs (PySem.W.fnOf x qual params body scope (.ref T) kV doc pm an cdv ct) ⟨us,ks.zip ws⟩=seqItems? (.ref T) >>=k∧k (some its.toArray)=pure (ps.zip (pick us ws its srcs))):Bnd K fd ps n ks srcs dvs:=by
 obtain⟨oc,od,dV,kV,doc,pm,an,cdv,ct,osl,rfl,lk,hcd,hD,hK⟩:=F.ex
 rcases hD with⟨e,_⟩|⟨_,T,o,its,m,rfl,lT,oT,rT⟩
 ·exact absurd e hd
 ·refine⟨its,rT,fun s us ws X h1 h2=>?_⟩
  obtain⟨k,e1,e2⟩:=h T kV doc pm an cdv ct us ws its h1 h2 rT.length.symm
  refine BindsTo.of_looks fun M=>?_
  rw[e1]
  exact looks_items X lT oT (.of_pure e2)
end
def zAX(d:DSp)(srcs:List Src)(ds:List D)(t tk:DA):DE:=fun g O R=>t g O fun xs O1=>tk g O1 fun ys O2=>d (pick xs ys ds srcs) O2 R X0
section
variable {X:Cx}{CX:CXT}{k:Nat}{f:Addr}{fd:FuncData}{ps ks:List Str}{dsp:DSp}{srcs:List Src}{dvs:List V}{ds:List D}{x:Str}{p pos kpos:Pos}{e:Expr}{es:List Expr}{kws:List Keyword}{te:DE}{t tk:DA}{n m:Nat}{nm:Option Str}
theorem PK.by{X:Cx}{e:List Keyword}{t t':TA}(h:PK X e t)(k:∀s H Q,t' s H Q→t s H Q):PK X e t':=⟨fun p pins s σ H Q I q=>h.run p pins s σ H Q I (k σ H Q q)⟩
theorem zAY:PK X [] (zC8 X.K 0 zAg):=PK.by pk_nil fun s H Q ⟨G,O,g,R,rl,gr,h,k⟩=>k [] O [] G H (Go.refl rl) .nil rfl h
theorem zDn(ha:PE X e (zAs X.K te))(hr:PK X kws (zC8 X.K n t)):PK X (⟨nm,e,kpos⟩::kws) (zC8 X.K (n+1) (zAc te t)):=
 PK.by (pk_cons ha hr) fun s H Q ⟨G,O,g,R,rl,gr,h,k⟩=>⟨G,O,g,_,rl,gr,h,fun x O1 v G1 H1 go1 vr1 q1=>⟨G1,O1,g,_,go1.rel,gr.mono go1.ex,q1,fun xs O2 vs G2 H2 go2 vr2 hl q2=>
  k _ _ _ _ _ (go1.trans rl go2) (.cons (vr1.mono go2.ex) vr2) (by rw[qi,hl]) q2⟩⟩
theorem zLI{pins:List (Addr×Obj)}{σ:L2.St}{H:Hp}{s:Shared}{Q:VK}{us ws:List Value}{vs zs:List V}{E:XK}(F:FnOk X.prog X.w X.K X.mg X.base CX k f fd ps (zCx X.K dsp))(hr:Room k X.A)(hb:Bnd X.K fd ps n ks srcs dvs)(hx:Passes CX X E)
  (I:Inv X pins σ H s) (r:Vals vs us) (rz:Vals zs ws) (hn:vs.length=n) (hm:zs.length=ks.length) (h:zCx X.K dsp (pick vs zs dvs srcs) H Q E):wpAny (model X.prog X.w) X.A (call (.ref f) us (ks.zip ws)) (EP X pins σ Q) X.xe s:=by
 obtain⟨ds,rd,hb⟩:=hb.to
 have r2:=zEE r rz rd srcs
 refine wpAny_call (codeAny_mono (F.run X.A X.stack s H ⟨us,ks.zip ws⟩ (pick us ws ds srcs) (pick vs zs dvs srcs) Q E hr I.env0 (hb s us ws I.kIn (by rw[←r.length];exact hn) (by rw[←rz.length];exact hm)) r2 h) fun r s' hq=>?_)
 cases r with
 |error e=>exact hx pins σ H s e s' I hq
 |ok fl=>
  cases fl with
  |ret u=>exact I.after hq
  |next=>exact False.elim hq
  |brk=>exact False.elim hq
  |cont=>exact False.elim hq
theorem zRi{K:PySem.W.Frag}{hn:n=n}(hd:∀G,VRs K G dvs ds):∀s H Q,zAs K (zAX dsp srcs ds t tk) s H Q→zC8 K n t s H fun vs H1=>zC8 K m tk s H1 fun zs H2=>vs.length=n∧zs.length=m∧zCx K dsp (pick vs zs dvs srcs) H2 Q E0:=fun s H Q ⟨G,O,g,R,rl,gr,h,k⟩=>
 ⟨G,O,g,_,rl,gr,h,fun xs O1 vs G1 H1 go1 vr1 hl1 q1=>⟨G1,O1,g,_,go1.rel,gr.mono go1.ex,q1,fun ys O2 zs G2 H2 go2 vr2 hl2 q2=>
  ⟨by rw[vr1.length,hl1],by rw[vr2.length,hl2],G2,O2,_,_,_,go2.rel,zCm (vr1.mono go2.ex) vr2 (hd G2) srcs,q2,fun x O3 v G3 H3 go3 vr3 q3=>k _ _ _ _ _ ((go1.trans rl go2).trans rl go3) vr3 q3,fun _ _ _ _ _ _ z=>z⟩⟩⟩
theorem zAV(F:FnOk X.prog X.w X.K X.mg X.base CX0 k f fd ps (zCx X.K dsp))(hr:Room k X.A)(hm:X.mg x=some (.ref f))(hk:PySem.W.keepIn X.K (.ref f)=true)(hb:Bnd X.K fd ps n ks srcs dvs)(hd:∀G,VRs X.K G dvs ds)
  (ha:PA X (e::es) (zC8 X.K n t)) (hkw:PK X kws (zC8 X.K m tk)) (hmk:m=ks.length:=by rfl) (hg:Gl X x:=by rfl) (hall:(backToKw pos (keywordEach kws X.env)).all (·.1.isSome)=true:=by rfl) (hks:(backToKw pos (keywordEach kws X.env)).filterMap (·.1)=ks:=by rfl)
  (hdb:(x==("__debug__":Str))=false:=by decide) (he:starEach (e::es) X.env=(false,eval e X.env)::starEach es X.env:=by rfl)
  (hpl:((backTo pos (starEach (e::es) X.env)).any (·.1)||(backToKw pos (keywordEach kws X.env)).any (·.1.isNone))=false:=by rfl):
  PE X (.Call (.Name x p) (e::es) kws pos) (zAs X.K (zAX dsp srcs ds t tk)):=by
 refine⟨fun pins s σ H Q I h=>?_⟩
 refine wpAny_Call_Name_kw (ld_glob I hg hm ?_ hdb)
 refine PySem.W.callWith_KW (h₀:=X.base) I.ok.mod.kin hk hall (thn (ha.run pos pins s σ H _ I (zRi (m:=m) (hn:=rfl) hd σ H Q h)) fun us s1 ⟨vs,H1,I1,r,q⟩=>?_) hpl he
 refine thn (hkw.run pos pins s1 σ H1 _ I1 q) fun ws s2 ⟨zs,H2,I2,rz,q2⟩=>⟨I2.kIn,?_⟩
 rw[hks]
 exact zLI F hr hb pass0 I2 r rz q2.1 (q2.2.1.trans hmk) q2.2.2
theorem zUj(F:FnOk X.prog X.w X.K X.mg X.base CX0 k f fd ps (zCx X.K dsp))(hr:Room k X.A)(hm:X.mg x=some (.ref f))(hk:PySem.W.keepIn X.K (.ref f)=true)(hb:Bnd X.K fd ps 0 ks srcs dvs)(hd:∀G,VRs X.K G dvs ds)
  (hkw:PK X kws (zC8 X.K m tk)) (hmk:m=ks.length:=by rfl) (hg:Gl X x:=by rfl) (hall:(backToKw pos (keywordEach kws X.env)).all (·.1.isSome)=true:=by rfl) (hks:(backToKw pos (keywordEach kws X.env)).filterMap (·.1)=ks:=by rfl)
  (hdb:(x==("__debug__":Str))=false:=by decide)
  (hpl:((backTo pos (starEach [] X.env)).any (·.1)||(backToKw pos (keywordEach kws X.env)).any (·.1.isNone))=false:=by rfl):
  PE X (.Call (.Name x p) [] kws pos) (zAs X.K (zAX dsp srcs ds zAg tk)):=by
 refine⟨fun pins s σ H Q I h=>?_⟩
 refine wpAny_Call_Name_kw (ld_glob I hg hm ?_ hdb)
 obtain⟨G,O,g,R,rl,gr,h,kk⟩:=h
 have h2:zC8 X.K m tk σ H fun zs H2=>zs.length=m∧zCx X.K dsp (pick [] zs dvs srcs) H2 Q E0:=⟨G,O,g,_,rl,gr,h,fun ys O2 zs G2 H2 go2 vr2 hl2 q2=>
  ⟨by rw[vr2.length,hl2],G2,O2,_,_,_,go2.rel,zCm .nil vr2 (hd G2) srcs,q2,fun x O3 v G3 H3 go3 vr3 q3=>kk _ _ _ _ _ (go2.trans rl go3) vr3 q3,fun _ _ _ _ _ _ z=>z⟩⟩
 refine PySem.W.callWith_KW0 (h₀:=X.base) I.ok.mod.kin hk hall (thn (hkw.run pos pins s σ H _ I h2) fun ws s2 ⟨zs,H2,I2,rz,q2⟩=>⟨I2.kIn,?_⟩) hpl
 rw[hks]
 exact zLI (us:=[]) (vs:=[]) F hr hb pass0 I2 .nil rz rfl (q2.1.trans hmk) q2.2
end
end DL
namespace DL
open PySem PySem.Spec PyProof.Rows L2
open Evl (Ex)
def Mok(i j:Int):Prop:=CMul i j∨i.natAbs.log2+j.natAbs.log2<130000000
theorem Mok.ok{i j:Int}(h:Mok i j):IntMulOk i j:=by
 rcases h with h|h
 ·exact h.ok
 have b:∀x:Int,Builtin.Int.intBits x≤x.natAbs.log2+1:=fun x=>by
  unfold Builtin.Int.intBits
  split<;>omega
 have h1:=b i
 have h2:=b j
 have h3:i.natAbs.log2+j.natAbs.log2<130000000:=h
 have e:bitsLine=134217728:=by decide
 unfold IntMulOk
 intro z
 rw[qE] at z
 have z2:=z.2
 unfold Builtin.Int.intTooBig at z2
 have z3:=jC z2
 rw[e] at z3
 omega
theorem log2_lt{i:Int}{a:Nat}(h0:0<a)(h:i.natAbs<2 ^ a):i.natAbs.log2<a:=PySem.Flt.log2_lt_of h0 h
theorem Mok.of{i j:Int}{a b:Nat}(ha:i.natAbs<2 ^ a)(hb:j.natAbs<2 ^ b)(h0:0<a)(h1:0<b)(h:a+b≤130000000):Mok i j:=by
 have x:=log2_lt h0 ha
 have y:=log2_lt h1 hb
 exact .inr (by omega)
theorem Mok.l{i j:Int}(h1:-1000000000000000000≤i)(h2:i≤1000000000000000000):Mok i j:=.inl (.inl ⟨by omega,by omega⟩)
theorem Mok.r{i j:Int}(h1:-1000000000000000000≤j)(h2:j≤1000000000000000000):Mok i j:=.inl (.inr ⟨by omega,by omega⟩)
def Dok(i j:Int):Prop:=0<j∧Builtin.divisionGoesByPylong i j=false
theorem Dok.of{i j:Int}(h:0<j)(hb:j.natAbs.log2<9000):Dok i j:=⟨h,PyProof.noPylong_of_log2 hb⟩
theorem Dok.small{i j:Int}(h:0<j)(hb:j<1073741824):Dok i j:=⟨h,PyProof.noPylong_small (by omega)⟩
section
variable {X:Cx}
theorem zTu:OpR X (binaryOp .Mult) (rI Mok fun i j=>.int (i*j)):=opI fun _ _ _ _ _ _ _ hc q=>mul_int q hc.ok
theorem zQ1:OpR X (binaryOp .FloorDiv) (rI Dok fun i j=>.int (i/j)):=opI fun i j _ _ _ _ _ hc q=>by
 have h1:(0:Int)<j:=hc.1
 exact floordiv_int (by omega) (by rw[Int.fdiv_eq_ediv_of_nonneg i (by omega)];exact q) (.inl hc.2)
end
def Pok(i j:Int):Prop:=CPow i j
def zDL:D2:=fun x y O R=>match x,y with
 |.int i,.int j=>R (.int (i+j)) O
 |.str a,.str b=>a.length+b.length≤sizeLine∧R (.str (a++b)) O
 |.tup xs,.tup ys=>xs.length+ys.length≤sizeLine∧R (.tup (xs++ys)) O
 |.ref a,.ref b=>(match O a,O b with|some (.lst xs),some (.lst ys)=>xs.length+ys.length≤sizeLine∧∀p,O p=none→R (.ref p) (up O p (.lst (xs++ys)))|_,_=>False)
 |_,_=>False
def zPo:D2:=dI fun i j=>.int (i-j)
def zK5:D2:=dIc Mok fun i j=>.int (i*j)
def dFd:D2:=dIc Dok fun i j=>.int (i/j)
def zK6:D2:=dIc (fun _ j=>0<j) fun i j=>.int (i%j)
def zOT:D2:=dIc Pok fun i j=>.int (i ^ j.toNat)
section
variable {X:Cx}{a b:Expr}{ta tb:DE}{pos:Pos}{K:PySem.W.Frag}
abbrev zWh(K:PySem.W.Frag):R2:=fun x y H Q=>(rI0 fun i j=>.int (i+j)) x y H Q∨(fun x y H Q=>(∃a b:Str,x=.str a∧y=.str b∧a.length+b.length≤sizeLine∧Q (.str (a++b)) H)∨(fun x y H Q=>rCatA K x y H Q∨rCat x y H Q) x y H Q) x y H Q
theorem yBF:OpS K (zWh K) zDL:=fun {G O H x y v u R Q} rl hx hy h k=>by
 cases hx with
 |int i=>cases hy<;>first|exact h.elim|exact .inl ⟨_,_,rfl,rfl,k.here rl (.int _) h⟩
 |str i=>cases hy<;>first|exact h.elim|exact .inr (.inl ⟨_,_,rfl,rfl,h.1,k.here rl (.str _) h.2⟩)
 |tup h1 h2=>
  cases hy with
  |tup h3 h4=>
   obtain⟨hz,h⟩:=h
   refine .inr (.inr (.inl ⟨_,_,_,_,rfl,rfl,Evl.ex_t rl.g h1,Evl.ex_t rl.g h3,by rw[h2.length,h4.length];exact hz,fun e=>?_,fun e1 e2=>?_,fun _ _=>?_⟩))
   ·subst e;cases h2;exact k.here rl (.tup h3 h4) h
   ·subst e2;cases h4;rw[jH] at h;exact k.here rl (.tup h1 h2) h
   ·exact k.tup rl (h2.append h4) h
  |_=>exact h.elim
 |ref a=>
  cases hy with
  |ref b=>
   have h:(match O a,O b with|some (.lst xs),some (.lst ys)=>xs.length+ys.length≤sizeLine∧∀p,O p=none→R (.ref p) (up O p (.lst (xs++ys)))|_,_=>False):=h
   cases e1:O a with
   |none=>simp only[e1] at h
   |some o1=>
    cases e2:O b with
    |none=>simp only[e1,e2] at h
    |some o2=>
     cases o1 with
     |lst xs=>
      cases o2 with
      |lst ys=>
       simp only[e1,e2] at h
       obtain⟨vs,h1,h2⟩:=rl.lst e1
       obtain⟨us,h3,h4⟩:=rl.lst e2
       exact .inr (.inr (.inr ⟨a,b,vs,us,rfl,rfl,h1,h3,by rw[h2.length,h4.length];exact h.1,k.lst rl (h2.append h4) h.2⟩))
      |_=>simp only[e1,e2] at h
     |_=>simp only[e1,e2] at h
  |_=>exact h.elim
 |_=>cases hy<;>exact h.elim
theorem zWV:OpR X (binaryOp .Add) (zWh X.K):=OpR.or op_add (OpR.or op_add_str (OpR.or op_catA op_cat))
theorem zCU(ha:PE X a (zAs X.K ta))(hb:PE X b (zAs X.K tb)):PE X (.BinOp a .Add b pos) (zAs X.K (dOp zDL ta tb)):=zSo zWV yBF ha hb
theorem yAs(ha:PE X a (zAs X.K ta))(hb:PE X b (zAs X.K tb)):PE X (.BinOp a .Sub b pos) (zAs X.K (dOp zPo ta tb)):=zSo op_sub (sI fun _ _ _=>.int _) ha hb
theorem zM4(ha:PE X a (zAs X.K ta))(hb:PE X b (zAs X.K tb)):PE X (.BinOp a .Mult b pos) (zAs X.K (dOp zK5 ta tb)):=zSo zTu (sIc (fun _ _ _=>.int _) fun _ _ h=>h) ha hb
theorem yBo(ha:PE X a (zAs X.K ta))(hb:PE X b (zAs X.K tb)):PE X (.BinOp a .FloorDiv b pos) (zAs X.K (dOp dFd ta tb)):=zSo zQ1 (sIc (fun _ _ _=>.int _) fun _ _ h=>h) ha hb
theorem zM5(ha:PE X a (zAs X.K ta))(hb:PE X b (zAs X.K tb)):PE X (.BinOp a .Mod b pos) (zAs X.K (dOp zK6 ta tb)):=zSo op_mod (sIc (fun _ _ _=>.int _) fun _ _ h=>h) ha hb
theorem zXy(ha:PE X a (zAs X.K ta))(hb:PE X b (zAs X.K tb)):PE X (.BinOp a .Pow b pos) (zAs X.K (dOp zOT ta tb)):=zSo op_pow (sIc (fun _ _ _=>.int _) fun _ _ h=>h) ha hb
def zSz:D1:=fun x O R=>match x with|.int i=>R (.int (-i)) O|_=>False
def dLt:D2:=dI fun i j=>.bl (decide (i<j))
def dLe:D2:=dI fun i j=>.bl (decide (i≤j))
def dGt:D2:=dI fun i j=>.bl (decide (i > j))
def dGe:D2:=dI fun i j=>.bl (decide (i≥j))
end
end DL
namespace DL
open PySem PySem.Spec PyProof.Rows L2
open Evl (Ex)
section
variable {X:Cx}{a b:Expr}{ta tb:DE}{pos:Pos}{K:PySem.W.Frag}
theorem sLt:OpS K (rI0 fun i j=>.bl (decide (i<j))) dLt:=sI fun _ _ _=>.bl _
theorem sLe:OpS K (rI0 fun i j=>.bl (decide (i≤j))) dLe:=sI fun _ _ _=>.bl _
theorem sGt:OpS K (rI0 fun i j=>.bl (decide (j<i))) dGt:=sI fun _ _ _=>.bl _
theorem sGe:OpS K (rI0 fun i j=>.bl (decide (j≤i))) dGe:=sI fun _ _ _=>.bl _
mutual
inductive Vw (O:Om):D→PyData→Prop
 |non:Vw O .non .none
 |bl (b:Bool):Vw O (.bl b) (.bool b)
 |int (i:Int):Vw O (.int i) (.int i)
 |str (x:Str):Vw O (.str x) (.str x)
 |tup {xs:List D}{ds:List PyData}:Vws O xs ds→Vw O (.tup xs) (.tuple ds)
 |lst {xs:List D}{ds:List PyData}:Vws O xs ds→Vw O (.lst xs) (.list ds)
 |ref {a:Addr}{xs:List D}{ds:List PyData}:O a=some (.lst xs)→Vws O xs ds→Vw O (.ref a) (.list ds)
inductive Vws (O:Om):List D→List PyData→Prop
 |nil:Vws O [] []
 |cons {x:D}{xs:List D}{d:PyData}{ds:List PyData}:Vw O x d→Vws O xs ds→Vws O (x::xs) (d::ds)
end
mutual
theorem Vw.dp{G:Hp}{O:Om}{H:Hp}(rl:Rel K G O H):∀{x:D}{d:PyData}{v:V},Vw O x d→VR K G v x→Dp K H v d
 |_,_,_,.non,h=>by cases h;exact .non
 |_,_,_,.bl b,h=>by cases h;exact .bl b
 |_,_,_,.int b,h=>by cases h;exact .int b
 |_,_,_,.str b,h=>by cases h;exact .str b
 |_,_,_,.tup q,h=>by
  cases h with
  |tup h1 h2=>exact .tup (Evl.ex_t rl.g h1) (Vws.dp rl q h2)
 |_,_,_,.lst q,h=>by
  cases h with
  |lst h1 h2=>exact .lst (Evl.ex_l rl.g h1) (Vws.dp rl q h2)
 |_,_,_,.ref e q,h=>by
  cases h
  obtain⟨vs,h1,h2⟩:=rl.lst e
  exact .lst (SqL.of h1) (Vws.dp rl q h2)
theorem Vws.dp{G:Hp}{O:Om}{H:Hp}(rl:Rel K G O H):∀{xs:List D}{ds:List PyData}{vs:List V},Vws O xs ds→VRs K G vs xs→DpAll K H vs ds
 |_,_,_,.nil,h=>by cases h;exact .nil
 |_,_,_,.cons q r,h=>by
  cases h with
  |cons h1 h2=>exact .cons (Vw.dp rl q h1) (Vws.dp rl r h2)
end
def zPp(n:Bool):D2:=fun x y O R=>∃d e,Vw O x d∧Vw O y e∧SeqAt.shaped d=true∧SeqAt.shaped e=true∧R (.bl (PyData.eqv d e !=n)) O
def dEq:D2:=fun x y O R=>match x,y with
 |.int i,.int j=>R (.bl (decide (i=j))) O
 |.str i,.str j=>R (.bl (decide (i=j))) O
 |.bl i,.bl j=>R (.bl (decide (i=j))) O
 |x,y=>zPp false x y O R
def dNe:D2:=fun x y O R=>match x,y with
 |.int i,.int j=>R (.bl (!decide (i=j))) O
 |.str i,.str j=>R (.bl (!decide (i=j))) O
 |.bl i,.bl j=>R (.bl (!decide (i=j))) O
 |x,y=>zPp true x y O R
theorem zE8{A B:Type}[DecidableEq A][DecidableEq B]{f:A→B}(hf:∀x y,f x=f y→x=y)(x y:A):decide (f x=f y)=decide (x=y):=by
 rw[jo]
 simp only[qp]
 exact⟨hf x y,fun e=>by rw[e]⟩
theorem yBE:OpS K (rEqD K) (zPp false):=fun {G O H x y v u R Q} rl hx hy h k=>by
 obtain⟨d,e,h1,h2,h3,h4,h5⟩:=h
 exact⟨d,e,h1.dp rl hx,h2.dp rl hy,h3,h4,k.here rl (.bl _) (by simpa using h5)⟩
theorem yBz:OpS K (rNeD K) (zPp true):=fun {G O H x y v u R Q} rl hx hy h k=>by
 obtain⟨d,e,h1,h2,h3,h4,h5⟩:=h
 exact⟨d,e,h1.dp rl hx,h2.dp rl hy,h3,h4,k.here rl (.bl _) (by simpa using h5)⟩
abbrev zZB(K:PySem.W.Frag):R2:=fun x y H Q=>rEq x y H Q∨rEqD K x y H Q
abbrev zZz(K:PySem.W.Frag):R2:=fun x y H Q=>rNe x y H Q∨rNeD K x y H Q
theorem sEq:OpS K (zZB K) dEq:=fun {G O H x y v u R Q} rl hx hy h k=>by
 have fb:zPp false x y O R→zZB K v u H Q:=fun h=>.inr (yBE rl hx hy h k)
 cases hx with
 |int i=>cases hy with
  |int j=>exact .inl ⟨rfl,by rw[zE8 (f:=V.int) (fun _ _ e=>by cases e;rfl)];exact k.here rl (.bl _) h⟩
  |_=>exact fb h
 |str i=>cases hy with
  |str j=>exact .inl ⟨rfl,by rw[zE8 (f:=V.str) (fun _ _ e=>by cases e;rfl)];exact k.here rl (.bl _) h⟩
  |_=>exact fb h
 |bl i=>cases hy with
  |bl j=>exact .inl ⟨rfl,by rw[zE8 (f:=V.bl) (fun _ _ e=>by cases e;rfl)];exact k.here rl (.bl _) h⟩
  |_=>exact fb h
 |_=>cases hy<;>exact fb h
theorem sNe:OpS K (zZz K) dNe:=fun {G O H x y v u R Q} rl hx hy h k=>by
 have fb:zPp true x y O R→zZz K v u H Q:=fun h=>.inr (yBz rl hx hy h k)
 cases hx with
 |int i=>cases hy with
  |int j=>exact .inl ⟨rfl,by rw[zE8 (f:=V.int) (fun _ _ e=>by cases e;rfl)];exact k.here rl (.bl _) h⟩
  |_=>exact fb h
 |str i=>cases hy with
  |str j=>exact .inl ⟨rfl,by rw[zE8 (f:=V.str) (fun _ _ e=>by cases e;rfl)];exact k.here rl (.bl _) h⟩
  |_=>exact fb h
 |bl i=>cases hy with
  |bl j=>exact .inl ⟨rfl,by rw[zE8 (f:=V.bl) (fun _ _ e=>by cases e;rfl)];exact k.here rl (.bl _) h⟩
  |_=>exact fb h
 |_=>cases hy<;>exact fb h
theorem zHs{k:Nat}(hr:Room k X.A):OpR X (compareOp .Eq) (zZB X.K):=OpR.or op_eq (op_eqD (by have:=hr.un;omega))
theorem zPn{k:Nat}(hr:Room k X.A):OpR X (compareOp .NotEq) (zZz X.K):=OpR.or op_ne (op_neD (by have:=hr.un;omega))
def isNon:D→Bool
 |.non=>true
 |_=>false
def zE9:D2:=fun x y O R=>match y with|.non=>R (.bl (isNon x)) O|_=>False
def zFU:D2:=fun x y O R=>match y with|.non=>R (.bl (!isNon x)) O|_=>False
theorem zL4{G:Hp}{v:V}{x:D}(h:VR K G v x):decide (v=.non)=isNon x:=by
 cases h<;>first|rfl|exact qm (fun z=>by cases z)
theorem zIX:OpS K (fun x y H Q=>y=.non∧Q (.bl (decide (x=.non))) H) zE9:=fun {G O H x y v u R Q} rl hx hy h k=>by
 cases hy<;>first|exact h.elim|exact⟨rfl,by rw[zL4 hx];exact k.here rl (.bl _) h⟩
theorem zTd:OpS K (fun x y H Q=>y=.non∧Q (.bl (!decide (x=.non))) H) zFU:=fun {G O H x y v u R Q} rl hx hy h k=>by
 cases hy<;>first|exact h.elim|exact⟨rfl,by rw[zL4 hx];exact k.here rl (.bl _) h⟩
def dIx:D2:=fun x y O R=>match y with
 |.int i=>(match x with
  |.str z=>z.length≤sizeLine∧(match atI z.cps.toList i with|some c=>R (.str ⟨#[c]⟩) O|none=>False)
  |x=>(match seqOf O x with|some xs=>(match atI xs i with|some z=>R z O|none=>False)|none=>False))
 |_=>False
theorem zYk{G:Hp}{vs:List V}{xs:List D}{i:Int}{z:D}(h:VRs K G vs xs)(e:atI xs i=some z):∃v,atI vs i=some v∧VR K G v z:=by
 unfold atI at e⊢
 rw[h.length]
 cases q:ixN xs.length i with
 |none=>rw[q] at e;cases e
 |some j=>
  rw[q] at e
  exact h.get e
theorem sIx:OpS K (rIx K) dIx:=fun {G O H x y v u R Q} rl hx hy h k=>by
 cases hy with
 |int i=>
  have gen:(match seqOf O x with|some xs=>(match atI xs i with|some z=>R z O|none=>False)|none=>False)→rIx K v (.int i) H Q:=fun h=>by
   cases e:seqOf O x with
   |none=>simp only[e] at h
   |some xs=>
    simp only[e] at h
    cases e2:atI xs i with
    |none=>simp only[e2] at h
    |some z=>
     simp only[e2] at h
     obtain⟨a,vs,rfl,hq,hv⟩:=rl.seqOf hx e
     obtain⟨w,hw,hz⟩:=zYk hv e2
     rcases hq with hq|hq
     ·exact .inl ⟨a,vs,i,w,rfl,rfl,hq,hw,k.here rl hz h⟩
     ·exact .inr (.inl ⟨a,vs,i,w,rfl,rfl,hq,hw,k.here rl hz h⟩)
  cases hx with
  |str z=>
   obtain⟨h1,h⟩:=h
   cases e:atI z.cps.toList i with
   |none=>simp only[e] at h
   |some c=>simp only[e] at h;exact .inr (.inr ⟨z,i,c,rfl,rfl,h1,e,k.here rl (.str _) h⟩)
  |_=>exact gen h
 |_=>exact h.elim
theorem zAG(ha:PE X a (zAs X.K ta))(hb:PE X b (zAs X.K tb))(hs:PlainIx b:=by exact fun _ _=>rfl):PE X (.Subscript a b pos) (zAs X.K (dOp dIx ta tb)):=yAu ix_seq sIx ha hb hs
abbrev DOp:=Gm→Om→(Option Int→Om→Prop)→Prop
def zAW:DOp:=fun _ O R=>R none O
def zCu(t:DE):DOp:=fun g O R=>t g O fun x O1=>match x with|.int i=>R (some i) O1|_=>False
def zUS(K:PySem.W.Frag)(t:DOp):TO:=fun s H Q=>∃(G:Hp) (O:Om) (g:Gm) (R:Option Int→Om→Prop),Rel K G O H∧GR K G s g∧t g O R∧∀b O' G' H',Go K G O H G' O' H'→R b O'→Q b H'
theorem PO.by{X:Cx}{e:Option Expr}{t t':TO}(h:PO X e t)(k:∀s H Q,t' s H Q→t s H Q):PO X e t':=⟨fun pins s σ H Q I q=>h.run pins s σ H Q I (k σ H Q q)⟩
theorem zC0:PO X none (zUS X.K zAW):=PO.by po_none fun s H Q ⟨G,O,g,R,rl,gr,h,k⟩=>k _ _ _ _ (Go.refl rl) h
theorem zCZ(ha:PE X a (zAs X.K ta)):PO X (some a) (zUS X.K (zCu ta)):=PO.by (po_some ha) fun s H Q ⟨G,O,g,R,rl,gr,h,k⟩=>⟨G,O,g,_,rl,gr,h,fun x O1 v G1 H1 go1 vr1 q1=>by
 cases vr1<;>first|exact q1.elim|exact⟨_,rfl,k _ _ _ _ go1 q1⟩⟩
def cutD(xs:List D)(lo hi:Option Int):List D:=(xs.drop (HT.sIx xs.length 0 lo)).take (HT.sIx xs.length xs.length hi-HT.sIx xs.length 0 lo)
theorem zMq{G:Hp}{vs:List V}{xs:List D}{lo hi:Option Int}(h:VRs K G vs xs):VRs K G (cutV vs lo hi) (cutD xs lo hi):=by
 unfold cutV cutD
 rw[h.length]
 exact(h.drop _).take _
def dSl(te:DE)(tl th:DOp):DE:=fun g O R=>te g O fun x O1=>tl g O1 fun l O2=>th g O2 fun u O3=>match x with
 |.str z=>z.length≤sizeLine∧R (.str (cutS z l u)) O3
 |.tup xs=>R (.tup (cutD xs l u)) O3
 |x=>match lstOf O3 x with|some xs=>∀p,O3 p=none→R (.ref p) (up O3 p (.lst (cutD xs l u)))|none=>False
theorem zOJ{lo hi:Option Expr}{tl th:DOp}{p2:Pos}(he:PE X a (zAs X.K ta))(hl:PO X lo (zUS X.K tl))(hu:PO X hi (zUS X.K th)):PE X (.Subscript a (.Slice lo hi none p2) pos) (zAs X.K (dSl ta tl th)):=
 PE.by (pe_slice (SlR.or sl_list (SlR.or sl_tupA sl_str)) he hl hu) fun s H Q ⟨G,O,g,R,rl,gr,h,k⟩=>⟨G,O,g,_,rl,gr,h,fun x O1 v G1 H1 go1 vr1 q1=>⟨G1,O1,g,_,go1.rel,gr.mono go1.ex,q1,fun l O2 G2 H2 go2 q2=>
  ⟨G2,O2,g,_,go2.rel,gr.mono (go1.ex.trans go2.ex),q2,fun u O3 G3 H3 go3 q3=>by
   have g13:=(go1.trans rl go2).trans rl go3
   have bk:Bk X.K G3 O3 H3 R Q:=fun x O4 v G4 H4 go4 vr q4=>k _ _ _ _ _ (g13.trans rl go4) vr q4
   have vr3:=vr1.mono (go2.ex.trans go3.ex)
   have gen:(match lstOf O3 x with|some xs=>∀p,O3 p=none→R (.ref p) (up O3 p (.lst (cutD xs l u)))|none=>False)→rSlL X.K v l u H3 Q:=fun h=>by
    cases e:lstOf O3 x with
    |none=>simp only[e] at h
    |some xs=>
     simp only[e] at h
     obtain⟨a,vs,rfl,hq,hv⟩:=go3.rel.lstOf vr3 e
     exact⟨a,vs,rfl,hq,bk.lst go3.rel (zMq hv) h⟩
   cases vr3 with
   |str z=>exact .inr (.inr ⟨z,rfl,q3.1,bk.here go3.rel (.str _) q3.2⟩)
   |tup h1 h2=>
    refine .inr (.inl ⟨_,_,rfl,Evl.ex_t go3.rel.g h1,fun hw=>?_,fun _=>bk.tup go3.rel (zMq h2) q3⟩)
    rename_i aa vs ds
    have q3':R (.tup (cutD ds l u)) O3:=q3
    have hc:cutD ds l u=ds:=by
     unfold cutD
     rw[←h2.length,hw.1,hw.2,ky,kA,h2.length,ka]
    rw[hc] at q3'
    exact bk.here go3.rel (.tup h1 h2) q3'
   |_=>exact .inl (gen q3)⟩⟩⟩
def dCB(d:DC)(t:DA):DE:=fun g O R=>t g O fun xs O1=>d xs O1 R
theorem zSc{K:PySem.W.Frag}{n:Nat}{r:List V→Hp→VK→Prop}{d:DC}{t:DA}(hr:CaS K r d):∀s H Q,zAs K (dCB d t) s H Q→tCB r (zC8 K n t) s H Q:=fun s H Q ⟨G,O,g,R,rl,gr,h,k⟩=>
 ⟨G,O,g,_,rl,gr,h,fun xs O1 vs G1 H1 go1 vr1 hl q1=>hr go1.rel vr1 q1 fun z O3 w G3 H3 go3 vr3 q3=>k z O3 w G3 H3 (go1.trans rl go3) vr3 q3⟩
variable {x:Str}{p:Pos}{e:Expr}{es:List Expr}{t:DA}{id T:String}{r:List V→Hp→VK→Prop}{d:DC}{n:Nat}
theorem zAw(hc:CallR X (.builtin id) r)(hr:CaS X.K r d)(hm:X.mg x=none)(hv:bootBuiltins x=some (.builtin id))(ha:PA X (e::es) (zC8 X.K n t))(hg:Gl X x:=by rfl)(hn:x≠"__name__":=by decide)(hdb:(x==("__debug__":Str))=false:=by decide)
  (he:starEach (e::es) X.env=(false,eval e X.env)::starEach es X.env:=by rfl) (hpl:(backTo pos (starEach es X.env)).any (·.1)=false:=by rfl):PE X (.Call (.Name x p) (e::es) [] pos) (zAs X.K (dCB d t)):=PE.by (pe_callB hc hg hm hv ha hn hdb he hpl) (zSc hr)
theorem zBB(hc:CallR X (.type T) r)(hr:CaS X.K r d)(hm:X.mg x=none)(hv:bootBuiltins x=some (.type T))(ha:PA X (e::es) (zC8 X.K n t))(hg:Gl X x:=by rfl)(hn:x≠"__name__":=by decide)(hdb:(x==("__debug__":Str))=false:=by decide)
  (he:starEach (e::es) X.env=(false,eval e X.env)::starEach es X.env:=by rfl) (hpl:(backTo pos (starEach es X.env)).any (·.1)=false:=by rfl):PE X (.Call (.Name x p) (e::es) [] pos) (zAs X.K (dCB d t)):=PE.by (pe_callTy hc hg hm hv ha hn hdb he hpl) (zSc hr)
theorem zDo{x:Str}{v:V}{u:Value}{d:D}{pos:Pos}(hm:X.mg x=none)(hv:bootBuiltins x=some u)(r:RelV v u)(hvr:∀G,VR X.K G v d)(hg:Gl X x:=by rfl)(hn:x≠"__name__":=by decide)(hd:(x==("__debug__":Str))=false:=by decide):PE X (.Name x pos) (zAs X.K (dC d)):=
 PE.by (pe_bltn hg hm hv r hn hd) (zMX hvr)
def zC4:DC:=fun xs O R=>match xs with
 |[x]=>(match x with
  |.str y=>y.length≤sizeLine∧R (.int (y.length:Nat)) O
  |.ref a=>(match O a with|some (.lst xs)=>R (.int (xs.length:Nat)) O|some (.dK kvs)=>R (.int (kvs.length:Nat)) O|_=>False)
  |.tup xs=>R (.int (xs.length:Nat)) O
  |.lst xs=>R (.int (xs.length:Nat)) O
  |_=>False)
 |_=>False
abbrev zWj(K:PySem.W.Frag):List V→Hp→VK→Prop:=fun xs H Q=>(∃x n,xs=[x]∧LenV K x H n∧Q (.int n) H)∨(∃a kvs,xs=[V.ref a]∧H a=some (.dK kvs)∧Q (.int kvs.length) H)
theorem zAF:CallR X (.builtin "len") (zWj X.K):=CallR.or call_len call_lenD
theorem zD7:CaS K (zWj K) zC4:=fun {G O H xs vs R Q} rl hv h k=>by
 match xs,hv,h with
 |[x],hv,h=>
  obtain⟨v,rfl,hw⟩:=hv.one
  cases hw with
  |str y=>exact .inl ⟨_,_,rfl,⟨h.1,rfl⟩,k.here rl (.int _) h.2⟩
  |tup h1 h2=>exact .inl ⟨_,_,rfl,.inr ⟨_,Evl.ex_t rl.g h1,rfl⟩,k.here rl (.int _) (by rw[h2.length];exact h)⟩
  |lst h1 h2=>exact .inl ⟨_,_,rfl,.inl ⟨_,Evl.ex_l rl.g h1,rfl⟩,k.here rl (.int _) (by rw[h2.length];exact h)⟩
  |ref a=>
   have h:(match O a with|some (.lst xs)=>R (.int (xs.length:Nat)) O|some (.dK kvs)=>R (.int (kvs.length:Nat)) O|_=>False):=h
   cases e:O a with
   |none=>simp only[e] at h
   |some o=>
    cases o with
    |lst xs=>
     simp only[e] at h
     obtain⟨vs,h1,h2⟩:=rl.lst e
     exact .inl ⟨_,_,rfl,.inl ⟨_,SqL.of h1,rfl⟩,k.here rl (.int _) (by rw[h2.length];exact h)⟩
    |dK kvs=>
     simp only[e] at h
     obtain⟨_,u,hu,q⟩:=rl.o _ _ e
     cases u with
     |dK ks=>
      refine .inr ⟨a,ks,rfl,hu,k.here rl (.int _) ?_⟩
      have hl:ks.length=kvs.length:=Paired.length (show PR K G ks kvs from q)
      rw[hl];exact h
     |_=>exact False.elim q
    |_=>simp only[e] at h
  |_=>exact False.elim h
def zPq:DC:=fun xs O R=>match xs with|[.int i]=>R (.int (if i<0 then -i else i)) O|_=>False
theorem yBG:CaS K (fun xs H Q=>∃i,xs=[.int i]∧Q (.int (if i<0 then -i else i)) H) zPq:=fun {G O H xs vs R Q} rl hv h k=>by
 match xs,hv,h with
 |[.int i],hv,h=>
  obtain⟨v,rfl,hw⟩:=hv.one
  cases hw
  exact⟨i,rfl,k.here rl (.int _) h⟩
def zGJ:DC:=fun xs O R=>match xs with|[x]=>(match seqOf O x with|some ys=>∀p,O p=none→R (.ref p) (up O p (.lst ys))|none=>False)|_=>False
theorem zV3:CaS K (fun xs H Q=>∃p ys,xs=[.ref p]∧(SqL K H p ys∨SqT K H p ys)∧∀l,H l=none→Q (.ref l) (upd H l (.lst ys))) zGJ:=fun {G O H xs vs R Q} rl hv h k=>by
 match xs,hv,h with
 |[x],hv,h=>
  obtain⟨v,rfl,hw⟩:=hv.one
  have h:(match seqOf O x with|some ys=>∀p,O p=none→R (.ref p) (up O p (.lst ys))|none=>False):=h
  cases e:seqOf O x with
  |none=>simp only[e] at h
  |some ys=>
   simp only[e] at h
   obtain⟨a,vs,rfl,hq,hv2⟩:=rl.seqOf hw e
   exact⟨a,vs,rfl,hq,k.lst rl hv2 h⟩
def zDp:DC:=fun xs O R=>match xs with|[x]=>(match seqOf O x with|some ys=>R (.tup ys) O|none=>False)|_=>False
theorem zNW:CaS K (fun xs H Q=>∃p ys,xs=[.ref p]∧((SqL K H p ys∧∀l,H l=none→Q (.ref l) (upd H l (.tup ys)))∨(SqT K H p ys∧Q (.ref p) H))) zDp:=fun {G O H xs vs R Q} rl hv h k=>by
 match xs,hv,h with
 |[x],hv,h=>
  obtain⟨v,rfl,hw⟩:=hv.one
  have h:(match seqOf O x with|some ys=>R (.tup ys) O|none=>False):=h
  cases hw with
  |tup h1 h2=>exact⟨_,_,rfl,.inr ⟨Evl.ex_t rl.g h1,k.here rl (.tup h1 h2) h⟩⟩
  |lst h1 h2=>exact⟨_,_,rfl,.inl ⟨Evl.ex_l rl.g h1,k.tup rl h2 h⟩⟩
  |ref a=>
   have h:(match (match O a with|some (.lst xs)=>some xs|_=>none) with|some ys=>R (.tup ys) O|none=>False):=h
   cases e:O a with
   |none=>simp only[e] at h
   |some o=>
    cases o with
    |lst xs=>
     simp only[e] at h
     obtain⟨vs,h1,h2⟩:=rl.lst e
     exact⟨_,_,rfl,.inl ⟨SqL.of h1,k.tup rl h2 h⟩⟩
    |_=>simp only[e] at h
  |_=>exact False.elim h
def blsOf:List D→Option (List Bool)
 |[]=>some []
 |.bl b::r=>(blsOf r).map (b::·)
 |_=>none
def zBv:List D→Option (List Int)
 |[]=>some []
 |.int b::r=>(zBv r).map (b::·)
 |_=>none
theorem zMt:∀{xs:List D}{bs:List Bool},blsOf xs=some bs→xs=bs.map D.bl
 |[],_,h=>by cases h;rfl
 |.bl b::r,_,h=>by
  unfold blsOf at h
  cases e:blsOf r with
  |none=>rw[e] at h;cases h
  |some bs=>rw[e] at h;cases h;rw[zMt e];rfl
 |.non::_,_,h=>by cases h
 |.int _::_,_,h=>by cases h
 |.str _::_,_,h=>by cases h
 |.tup _::_,_,h=>by cases h
 |.lst _::_,_,h=>by cases h
 |.ref _::_,_,h=>by cases h
 |.ty _::_,_,h=>by cases h
 |.ptup _::_,_,h=>by cases h
theorem zEF:∀{xs:List D}{bs:List Int},zBv xs=some bs→xs=bs.map D.int
 |[],_,h=>by cases h;rfl
 |.int b::r,_,h=>by
  unfold zBv at h
  cases e:zBv r with
  |none=>rw[e] at h;cases h
  |some bs=>rw[e] at h;cases h;rw[zEF e];rfl
 |.non::_,_,h=>by cases h
 |.bl _::_,_,h=>by cases h
 |.str _::_,_,h=>by cases h
 |.tup _::_,_,h=>by cases h
 |.lst _::_,_,h=>by cases h
 |.ref _::_,_,h=>by cases h
 |.ty _::_,_,h=>by cases h
 |.ptup _::_,_,h=>by cases h
theorem zCw(bs:List Bool):blsOf (bs.map D.bl)=some bs:=by
 induction bs with
 |nil=>rfl
 |cons b bs ih=>show(blsOf (bs.map D.bl)).map (b::·)=_;rw[ih];rfl
theorem zM2(bs:List Int):zBv (bs.map D.int)=some bs:=by
 induction bs with
 |nil=>rfl
 |cons b bs ih=>show(zBv (bs.map D.int)).map (b::·)=_;rw[ih];rfl
def zK8(f:List Bool→Bool):DC:=fun xs O R=>match xs with|[x]=>(match lstOf O x with|some ys=>(match blsOf ys with|some bs=>R (.bl (f bs)) O|none=>False)|none=>False)|_=>False
theorem zUQ{f:List Bool→Bool}:CaS K (fun vs H Q=>∃(a:Addr) (bs:List Bool),vs=[V.ref a]∧SqL K H a (bs.map V.bl)∧Q (.bl (f bs)) H) (zK8 f):=fun {G O H xs vs R Q} rl hv h k=>by
 match xs,hv,h with
 |[x],hv,h=>
  obtain⟨v,rfl,hw⟩:=hv.one
  have h:(match lstOf O x with|some ys=>(match blsOf ys with|some bs=>R (.bl (f bs)) O|none=>False)|none=>False):=h
  cases e:lstOf O x with
  |none=>simp only[e] at h
  |some ys=>
   simp only[e] at h
   cases e2:blsOf ys with
   |none=>simp only[e2] at h
   |some bs=>
    simp only[e2] at h
    obtain⟨a,vs,rfl,hq,hv2⟩:=rl.lstOf hw e
    rw[zMt e2] at hv2
    exact⟨a,bs,rfl,by rw[←hv2.bls];exact hq,k.here rl (.bl _) h⟩
theorem zFb(hc:X.calm=true):CallR X (.builtin "all") (fun vs H Q=>∃(a:Addr) (bs:List Bool),vs=[V.ref a]∧SqL X.K H a (bs.map V.bl)∧Q (.bl (bs.all (fun b=>b))) H):=cr_all hc
def zSv:DC:=fun xs O R=>match xs with|[x]=>(match lstOf O x with|some ys=>(match zBv ys with|some bs=>R (.int bs.sum) O|none=>False)|none=>False)|_=>False
inductive Ct where
 |non|bl|int|str|tup|lst|dct
 deriving DecidableEq
def Ct.name:Ct→String
 |.non=>"NoneType"|.bl=>"bool"|.int=>"int"|.str=>"str"|.tup=>"tuple"|.lst=>"list"|.dct=>"dict"
def isC:Ct→Ct→Bool
 |.bl,.int=>true
 |.non,.non=>true|.bl,.bl=>true|.int,.int=>true|.str,.str=>true|.tup,.tup=>true|.lst,.lst=>true|.dct,.dct=>true
 |_,_=>false
def zK2(O:Om):D→Option Ct
 |.non=>some .non
 |.bl _=>some .bl
 |.int _=>some .int
 |.str _=>some .str
 |.tup _=>some .tup
 |.lst _=>some .lst
 |.ref a=>(match O a with|some (.lst _)=>some .lst|some (.dK _)=>some .dct|some (.dT _)=>some .dct|_=>none)
 |.ty _=>none
 |.ptup _=>none
theorem zOs:∀(t c:Ct),c≠.non→kitB t.name c.name=some (isC t c):=by
 intro t c h
 cases c<;>first|exact absurd rfl h|(cases t<;>decide+kernel)
theorem zOP{G:Hp}{O:Om}{H:Hp}(rl:Rel K G O H){v:V}{x:D}{t:Ct}(hv:VR K G v x)(h:zK2 O x=some t):TyX K H v (.type t.name):=by
 cases hv with
 |non=>cases h;exact .base .non
 |bl b=>cases h;exact .base (.bl b)
 |int b=>cases h;exact .base (.int b)
 |str b=>cases h;exact .base (.str b)
 |ty b=>cases h
 |ptup _ _=>cases h
 |tup h1 h2=>
  cases h
  rcases Evl.ex_t rl.g h1 with(q|⟨o,q⟩)|⟨o,its,n,q,c,_⟩
  ·exact .base (.tup q)
  ·exact .fTuple q
  ·exact .kTuple q c
 |lst h1 h2=>
  cases h
  rcases Evl.ex_l rl.g h1 with(q|⟨o,q⟩)|⟨o,its,n,q,c,_⟩
  ·exact .base (.lst q)
  ·exact .base (.frz q)
  ·exact .kList q c
 |ref a=>
  have h:(match O a with|some (.lst _)=>some Ct.lst|some (.dK _)=>some Ct.dct|some (.dT _)=>some Ct.dct|_=>none)=some t:=h
  cases e:O a with
  |none=>rw[e] at h;cases h
  |some o=>
   obtain⟨_,u,hu,q⟩:=rl.o _ _ e
   cases o with
   |lst xs=>rw[e] at h;cases h;cases u<;>first|exact q.elim|exact .base (.lst hu)
   |dK xs=>rw[e] at h;cases h;cases u<;>first|exact q.elim|exact .base (.dK hu)
   |dT xs=>rw[e] at h;cases h;cases u<;>first|exact q.elim|exact .base (.dT hu)
   |_=>rw[e] at h;cases h
def zIF(c:Ct):D1:=fun x O R=>match zK2 O x with|some t=>R (.bl (isC t c)) O|none=>False
def zG7(c c':Ct):D1:=fun x O R=>match zK2 O x with | some t=>R (.bl (isC t c||isC t c')) O | none=>False
theorem zG6(c:Ct)(hc:c≠.non){te:DE}{b:Expr}(hm:X.mg "isinstance"=none)(he:PE X e (zAs X.K te))(hb:PE X b (zAs X.K (dC (.ty c.name))))(hg:Gl X "isinstance":=by rfl)(hs:starEach [e,b] X.env=(false,eval e X.env)::starEach [b] X.env:=by rfl)(hs2:starEach [b] X.env=(false,eval b X.env)::starEach [] X.env:=by rfl)(hpl:(backTo pos (starEach [b] X.env)).any (·.1)=false:=by rfl):
  PE X (.Call (.Name "isinstance" p) [e,b] [] pos) (zAs X.K (dUn (zIF c) te)):=PE.by (pe_callB call_isi hg hm PyProof.Rows.boot_isinstance (pa_cons he (pa_cons hb pa_nil hs2) hs) (by decide) (by decide) hs hpl) fun s H Q ⟨G,O,g,R,rl,gr,h,k⟩=>
 ⟨G,O,g,_,rl,gr,h,fun x O1 v G1 H1 go1 vr1 q1=>⟨G1,O1,g,fun y O2=>y=.ty c.name∧O2=O1,go1.rel,gr.mono go1.ex,⟨rfl,rfl⟩,fun y O2 u G2 H2 go2 vr2 q2=>by
  obtain⟨rfl,rfl⟩:=q2
  cases vr2
  have q1:(match zK2 O2 x with|some t=>R (.bl (isC t c)) O2|none=>False):=q1
  cases e:zK2 O2 x with
  |none=>simp only[e] at q1
  |some t=>
   simp only[e] at q1
   exact⟨v,.ty c.name,_,_,_,rfl,.ty _,zOP go2.rel (vr1.mono go2.ex) e,kit_ty (zOs t c hc),k _ _ _ _ _ (go1.trans rl go2) (.bl _) q1⟩⟩⟩
theorem zXE(c c':Ct)(hc:c≠.non)(hc':c'≠.non){te:DE}{b b':Expr}{kk:Nat}{tp:Pos}(hm:X.mg "isinstance"=none)(he:PE X e (zAs X.K te))(hb:PE X b (zAs X.K (dC (.ty c.name))))(hb':PE X b' (zAs X.K (dC (.ty c'.name))))(hg:Gl X "isinstance":=by rfl)
  (hs:starEach [e,.Tuple [b,b'] kk tp] X.env=(false,eval e X.env)::starEach [.Tuple [b,b'] kk tp] X.env:=by rfl) (hs2:starEach [.Tuple [b,b'] kk tp] X.env=(false,eval (.Tuple [b,b'] kk tp) X.env)::starEach [] X.env:=by rfl) (hpl:(backTo pos (starEach [.Tuple [b,b'] kk tp] X.env)).any (·.1)=false:=by rfl)
  (hs3:starEach [b,b'] X.env=(false,eval b X.env)::starEach [b'] X.env:=by rfl) (hs4:starEach [b'] X.env=(false,eval b' X.env)::starEach [] X.env:=by rfl):
  PE X (.Call (.Name "isinstance" p) [e,.Tuple [b,b'] kk tp] [] pos) (zAs X.K (dUn (zG7 c c') te)):=PE.by (pe_callB call_isiT hg hm PyProof.Rows.boot_isinstance (pa_cons he (pa_cons (pe_tup (pa_cons hb (pa_cons hb' pa_nil hs4) hs3)) pa_nil hs2) hs) (by decide) (by decide) hs hpl) fun s H Q ⟨G,O,g,R,rl,gr,h,k⟩=>
 ⟨G,O,g,_,rl,gr,h,fun x O1 v G1 H1 go1 vr1 q1=>⟨G1,O1,g,fun y O2=>y=.ty c.name∧O2=O1,go1.rel,gr.mono go1.ex,⟨rfl,rfl⟩,fun y O2 u G2 H2 go2 vr2 q2=>by
  obtain⟨rfl,rfl⟩:=q2
  cases vr2
  refine⟨G2,O2,g,fun y O3=>y=.ty c'.name∧O3=O2,go2.rel,gr.mono (go1.ex.trans go2.ex),⟨rfl,rfl⟩,fun y O3 u G3 H3 go3 vr3 q3=>?_⟩
  obtain⟨rfl,rfl⟩:=q3
  cases vr3
  refine⟨by show 2≤sizeLine;decide,fun tp hp=>?_⟩
  have q1:(match zK2 O3 x with | some t=>R (.bl (isC t c||isC t c')) O3 | none=>False):=q1
  have gd:=Go.data go3.rel (u:=.tup [.ty c.name,.ty c'.name]) hp
  have g13:=((go1.trans rl go2).trans rl go3).trans rl gd
  cases e:zK2 O3 x with
  |none=>simp only[e] at q1
  |some t=>
   simp only[e] at q1
   refine⟨v,tp,_,_,[.type c.name,.type c'.name],_,rfl,upd_same,.cons (.ty _) (.cons (.ty _) .nil),zOP gd.rel (((vr1.mono go2.ex).mono go3.ex).mono gd.ex) e,?_,k _ _ _ _ _ g13 (.bl _) q1⟩
   have k1:PySem.W.kitOne X.K (.type t.name) (.type c.name)=some (isC t c):=kit_ty (zOs t c hc)
   have k2:PySem.W.kitOne X.K (.type t.name) (.type c'.name)=some (isC t c'):=kit_ty (zOs t c' hc')
   cases e1:isC t c with
   |true=>exact kitAny_cons k1 (fun z=>by rw[e1] at z;cases z) fun _=>rfl
   |false=>
    refine kitAny_cons k1 (fun _=>?_) fun z=>by rw[e1] at z;cases z
    cases e2:isC t c' with
    |true=>exact kitAny_cons k2 (fun z=>by rw[e2] at z;cases z) fun _=>rfl
    |false=>exact kitAny_cons k2 (fun _=>kitAny_nil) fun z=>by rw[e2] at z;cases z⟩⟩
end
end DL
namespace DL
open PySem PySem.Spec PyProof.Rows L2
open Evl (Ex)
def zST:DSp:=fun _ _ _ _=>False
theorem zZ3{P:Program}{w:World}{K:PySem.W.Frag}{mg:Str→Option Value}{base:Heap}{k:Nat}{f:Addr}{fd:FuncData}{ps:List Str}:FnOk P w K mg base CX0 k f fd ps (zCx K zST):=
 ⟨fun _ _ _ _ ⟨_,_,_,_,_,_,_,h,_⟩=>h.elim,fun _ _ _ _ _ _ _ _ _ _ _ _ _ ⟨_,_,_,_,_,_,_,h,_⟩=>h.elim⟩
structure Df(P:Program)(w:World)(K:PySem.W.Frag)(mg:Str→Option Value)(base:Heap)(k:Nat)(st:Stmt)(x:Str)(ps:List Str)(dvs:List V)(kws:List (Str×V))(dsp:DSp)(f:Addr)(fd:FuncData):Prop where
 fn:FunD K x x (defArgs st) (defBody st) (defScope st) dvs kws f fd
 ok:FnOk P w K mg base CX0 k f fd ps (zCx K dsp)
 mg:mg x=some (.ref f)
end DL
namespace DL
open PySem PySem.Spec PyProof.Rows L2
open Evl (Ex)
section
variable {X:Cx}{K:PySem.W.Frag}{a b c:Expr}{ta tb tc:DE}{pos:Pos}
abbrev DM:=D→List D→Om→(D→Om→Prop)→Prop
def MtS(K:PySem.W.Frag)(r:V→List V→Hp→VK→Prop)(d:DM):Prop:=∀{G O H x xs v vs R Q},Rel K G O H→VR K G v x→VRs K G vs xs→d x xs O R→Bk K G O H R Q→r v vs H Q
def isL(O:Om)(x:D):Prop:=(lstOf O x).isSome=true
def dLM(d:DM)(to:DE)(t:DA):DE:=fun g O R=>to g O fun x O1=>isL O1 x∧t g O1 fun xs O2=>d x xs O2 R
def zNa(d:DM)(to:DE):DE:=fun g O R=>to g O fun x O1=>isL O1 x∧d x [] O1 R
theorem zLo{G:Hp}{O:Om}{H:Hp}{v:V}{x:D}(rl:Rel K G O H)(hv:VR K G v x)(h:isL O x):tyV K "list" v H:=by
 unfold isL at h
 cases e:lstOf O x with
 |none=>rw[e] at h;cases h
 |some xs=>
  obtain⟨a,vs,rfl,hq,_⟩:=rl.lstOf hv e
  exact .inl ⟨rfl,vs,hq⟩
theorem zUW{o e:Expr}{es:List Expr}{to:DE}{t:DA}{n:Nat}{name:Str}{apos cpos:Pos}{id:String}{r:V→List V→Hp→VK→Prop}{d:DM}(slot:PySem.Slot "list" name id)(hty:typeOf (.builtin id)=pure (.type "method_descriptor"))(hm:MtM X id r)(hr:MtS X.K r d)
  (ho:PE X o (zAs X.K to)) (ha:PA X (e::es) (zC8 X.K n t)) (hb:attributeBase o name X.env (eval o X.env)=eval o X.env:=by rfl)
  (hst:((((backTo cpos (starEach (e::es) X.env)).all fun x=>!x.fst)&&(backToKw cpos (keywordEach [] X.env)).all fun x=>x.fst.isSome)&&decide (((e::es).length+([]:List Keyword).length+if([]:List Keyword).isEmpty=true then 0 else 1)<30))=true:=by rfl)
  (hl:(apos.endLine==cpos.line)=true:=by rfl) (he:starEach (e::es) X.env=(false,eval e X.env)::starEach es X.env:=by rfl) (hpl:((backTo cpos (starEach es X.env)).any fun x=>x.fst)=false:=by rfl):
  PE X (.Call (.Attribute o name apos) (e::es) [] cpos) (zAs X.K (dLM d to t)):=
 PE.by (pe_bm PySem.F.plainAttrs_list slot hty hm ho ha hb hst hl he hpl) fun s H Q ⟨G,O,g,R,rl,gr,h,k⟩=>
  ⟨G,O,g,_,rl,gr,h,fun x O1 v G1 H1 go1 vr1 q1=>⟨zLo go1.rel vr1 q1.1,G1,O1,g,_,go1.rel,gr.mono go1.ex,q1.2,fun xs O2 vs G2 H2 go2 vr2 hl q2=>
   hr go2.rel (vr1.mono go2.ex) vr2 q2 fun z O3 w G3 H3 go3 vr3 q3=>k z O3 w G3 H3 ((go1.trans rl go2).trans rl go3) vr3 q3⟩⟩
theorem zXB{o:Expr}{to:DE}{name:Str}{apos cpos:Pos}{id:String}{r:V→List V→Hp→VK→Prop}{d:DM}(slot:PySem.Slot "list" name id)(hty:typeOf (.builtin id)=pure (.type "method_descriptor"))(hm:MtM X id r)(hr:MtS X.K r d)
  (ho:PE X o (zAs X.K to)) (hb:attributeBase o name X.env (eval o X.env)=eval o X.env:=by rfl) (hl:(apos.endLine==cpos.line)=true:=by rfl):
  PE X (.Call (.Attribute o name apos) [] [] cpos) (zAs X.K (zNa d to)):=
 PE.by (pe_bm0 PySem.F.plainAttrs_list slot hty hm ho hb hl) fun s H Q ⟨G,O,g,R,rl,gr,h,k⟩=>
  ⟨G,O,g,_,rl,gr,h,fun x O1 v G1 H1 go1 vr1 q1=>⟨zLo go1.rel vr1 q1.1,hr go1.rel vr1 .nil q1.2 fun z O3 w G3 H3 go3 vr3 q3=>k z O3 w G3 H3 (go1.trans rl go3) vr3 q3⟩⟩
def zB5:DM:=fun x vs O R=>match x,vs with|.ref a,[y]=>(match O a with|some (.lst xs)=>xs.length<sizeLine∧R .non (up O a (.lst (xs++[y])))|_=>False)|_,_=>False
theorem zTe:MtS K rAppend zB5:=fun {G O H x xs v vs R Q} rl hx hv h k=>by
 match x,xs,hx,hv,h with
 |.ref a,[y],hx,hv,h=>
  cases hx
  obtain⟨u,rfl,hu⟩:=hv.one
  have h:(match O a with|some (.lst xs)=>xs.length<sizeLine∧R .non (up O a (.lst (xs++[y])))|_=>False):=h
  cases e:O a with
  |none=>simp only[e] at h
  |some o=>
   cases o with
   |lst xs=>
    simp only[e] at h
    obtain⟨ws,h1,h2⟩:=rl.lst e
    exact⟨a,ws,u,rfl,rfl,h1,by rw[h2.length];exact h.1,k _ _ _ _ _ (Go.write rl (o:=.lst (xs++[y])) (u:=.lst (ws++[u])) e (h2.append (.cons hu .nil))) .non h.2⟩
   |_=>simp only[e] at h
def zCv:DM:=fun x vs O R=>match x,vs with|.ref a,[.int i,y]=>(match O a with|some (.lst xs)=>(xs.length<sizeLine∧0≤i∧i<2 ^ 63)∧R .non (up O a (.lst (xs.take i.toNat++[y]++xs.drop i.toNat)))|_=>False)|_,_=>False
abbrev zTo:V→List V→Hp→VK→Prop:=fun x vs H Q=>∃(l:Addr) (xs:List V) (i:Int) (y:V),x=.ref l∧vs=[.int i,y]∧H l=some (.lst xs)∧xs.length<sizeLine∧0≤i∧i<2 ^ 63∧Q .non (upd H l (.lst (xs.take i.toNat++[y]++xs.drop i.toNat)))
theorem zNZ:MtS K zTo zCv:=fun {G O H x xs v vs R Q} rl hx hv h k=>by
 match x,xs,hx,hv,h with
 |.ref a,[.int i,y],hx,hv,h=>
  cases hx
  obtain⟨u,w,rfl,hu,hw⟩:=hv.two
  cases hu
  have h:(match O a with|some (.lst xs)=>(xs.length<sizeLine∧0≤i∧i<2 ^ 63)∧R .non (up O a (.lst (xs.take i.toNat++[y]++xs.drop i.toNat)))|_=>False):=h
  cases e:O a with
  |none=>simp only[e] at h
  |some o=>
   cases o with
   |lst xs=>
    simp only[e] at h
    obtain⟨ws,h1,h2⟩:=rl.lst e
    exact⟨a,ws,i,w,rfl,rfl,h1,by rw[h2.length];exact h.1.1,h.1.2.1,h.1.2.2,k _ _ _ _ _ (Go.write rl (o:=.lst (xs.take i.toNat++[y]++xs.drop i.toNat)) (u:=.lst (ws.take i.toNat++[w]++ws.drop i.toNat)) e (((h2.take _).append (.cons hw .nil)).append (h2.drop _))) .non h.2⟩
   |_=>simp only[e] at h
theorem VRs.dropLast{G:Hp}{xs:List V}{us:List D}(h:VRs K G xs us):VRs K G xs.dropLast us.dropLast:=by
 rw[List.dropLast_eq_take,List.dropLast_eq_take,h.length]
 exact h.take _
def zOU:DM:=fun x vs O R=>match x,vs with|.ref a,[]=>(match O a with|some (.lst xs)=>(match xs[xs.length-1]? with|some y=>R y (up O a (.lst xs.dropLast))|none=>False)|_=>False)|_,_=>False
theorem yBe:MtS K rPop zOU:=fun {G O H x xs v vs R Q} rl hx hv h k=>by
 match x,xs,hx,hv,h with
 |.ref a,[],hx,hv,h=>
  cases hx
  cases hv
  have h:(match O a with|some (.lst xs)=>(match xs[xs.length-1]? with|some y=>R y (up O a (.lst xs.dropLast))|none=>False)|_=>False):=h
  cases e:O a with
  |none=>simp only[e] at h
  |some o=>
   cases o with
   |lst xs=>
    simp only[e] at h
    obtain⟨ws,h1,h2⟩:=rl.lst e
    cases e2:xs[xs.length-1]? with
    |none=>simp only[e2] at h
    |some y=>
     simp only[e2] at h
     obtain⟨u,hu,hv⟩:=h2.get e2
     rw[←h2.length] at hu
     have g:=Go.write rl (o:=.lst xs.dropLast) (u:=.lst ws.dropLast) e h2.dropLast
     exact⟨a,ws,u,rfl,rfl,h1,hu,k _ _ _ _ _ g (hv.mono g.ex) h⟩
   |_=>simp only[e] at h
theorem VRs.erase{G:Hp}:∀{xs:List V}{us:List D}(i:Nat),VRs K G xs us→VRs K G (xs.eraseIdx i) (us.eraseIdx i)
 |_,_,_,.nil=>.nil
 |_,_,0,.cons _ t=>t
 |_,_,i+1,.cons q t=>.cons q (VRs.erase i t)
def zFH:DM:=fun x vs O R=>match x,vs with|.ref a,[.int i]=>(match O a with|some (.lst xs)=>(match seqIndex? i xs.length with|some k=>(match xs[k]? with|some y=>(-(2 ^ 63)≤i∧i<2 ^ 63)∧R y (up O a (.lst (xs.eraseIdx k)))|none=>False)|none=>False)|_=>False)|_,_=>False
theorem zIz{o e:Expr}{to:DE}{t:DA}{apos cpos:Pos}(ho:PE X o (zAs X.K to))(ha:PA X [e] (zC8 X.K 1 t))(hb:attributeBase o "append" X.env (eval o X.env)=eval o X.env:=by rfl)
  (hst:((((backTo cpos (starEach [e] X.env)).all fun x=>!x.fst)&&(backToKw cpos (keywordEach [] X.env)).all fun x=>x.fst.isSome)&&decide (([e].length+([]:List Keyword).length+if([]:List Keyword).isEmpty=true then 0 else 1)<30))=true:=by rfl)
  (hl:(apos.endLine==cpos.line)=true:=by rfl) (he:starEach [e] X.env=(false,eval e X.env)::starEach [] X.env:=by rfl) (hpl:((backTo cpos (starEach [] X.env)).any fun x=>x.fst)=false:=by rfl):
  PE X (.Call (.Attribute o "append" apos) [e] [] cpos) (zAs X.K (dLM zB5 to t)):=zUW PySem.F.slot_list_append PySem.F.type_list_append mt_append zTe ho ha hb hst hl he hpl
def zJM(t:DE):DE:=fun g O R=>t g O fun x O1=>match lstOf O1 x with|some xs=>∀p,O1 p=none→R (.ref p) (up O1 p (.lst xs.reverse))|none=>False
def zOS:DC:=fun xs O R=>match xs with|[.int i]=>i.natAbs.log2<1920∧R (.str (toString i)) O|[.str z]=>R (.str z) O|_=>False
theorem zO6:CallR X (.type "str") (fun xs H Q=>(∃i,xs=[.int i]∧i.natAbs.log2<1920∧Q (.str (toString i)) H)∨(∃a,xs=[.str a]∧Q (.str a) H)):=CallR.or call_str_int SkE.call_str_str
theorem yBd:CaS K (fun xs H Q=>(∃i,xs=[.int i]∧i.natAbs.log2<1920∧Q (.str (toString i)) H)∨(∃a,xs=[.str a]∧Q (.str a) H)) zOS:=fun {G O H xs vs R Q} rl hv h k=>by
 match xs,hv,h with
 |[.int i],hv,h=>
  obtain⟨v,rfl,hw⟩:=hv.one
  cases hw
  exact .inl ⟨i,rfl,h.1,k.here rl (.str _) h.2⟩
 |[.str i],hv,h=>
  obtain⟨v,rfl,hw⟩:=hv.one
  cases hw
  exact .inr ⟨i,rfl,k.here rl (.str _) h⟩
def zSC:D1:=fun x O R=>match x with|.str y=>y.length≤sizeLine∧R (.str y) O|.int i=>i.natAbs.log2<1920∧R (.str (toString i)) O|_=>False
def dJs:List DE→Str→DE
 |[],acc=>fun _ O R=>R (.str acc) O
 |t::ts,acc=>fun g O R=>t g O fun x O1=>match x with|.str y=>(acc++y).length≤sizeLine∧dJs ts (acc++y) g O1 R|_=>False
def zJW:DC:=fun xs O R=>match xs with|[.int i,.int j]=>R (.int (if j > i then j else i)) O|[x]=>(match lstOf O x with|some ys=>(match zBv ys with|some ns=>0<ns.length∧∀m,m∈ns→(∀y,y∈ns→y≤m)→R (.int m) O|none=>False)|none=>False)|_=>False
def zJU:DC:=fun xs O R=>match xs with|[.int i,.int j]=>R (.int (if j<i then j else i)) O|[x]=>(match lstOf O x with|some ys=>(match zBv ys with|some ns=>0<ns.length∧∀m,m∈ns→(∀y,y∈ns→m≤y)→R (.int m) O|none=>False)|none=>False)|_=>False
theorem Rel.ints{G:Hp}{O:Om}{H:Hp}{v:V}{x:D}{ys:List D}{ns:List Int}(rl:Rel K G O H)(hv:VR K G v x)(e:DL.lstOf O x=some ys)(e2:zBv ys=some ns):∃a,v=.ref a∧SqL K H a (ns.map V.int):=by
 obtain⟨a,vs,rfl,hq,hv2⟩:=rl.lstOf hv e
 rw[zEF e2] at hv2
 exact⟨a,rfl,by rw[←hv2.ints];exact hq⟩
def zDG:DC:=fun xs O R=>match xs with|[x]=>(match lstOf O x with|some ys=>(match zBv ys with|some ns=>∀ms:List Int,ms.Perm ns→ms.Pairwise (·≤·)→∀p,O p=none→R (.ref p) (up O p (.lst (ms.map D.int)))|none=>False)|none=>False)|_=>False
def GC(K:PySem.W.Frag)(mg:Str→Option Value)(x:Str)(d:D):Prop:=∃v u,mg x=some u∧RelV v u∧∀G,VR K G v d
theorem zD1{x:Str}{d:D}(h:GC X.K X.mg x d)(hg:Gl X x:=by rfl)(hd:(x==("__debug__":Str))=false:=by decide):PE X (.Name x pos) (zAs X.K (dC d)):=by
 obtain⟨v,u,h1,h2,h3⟩:=h
 exact zXF hg h1 h2 h3 hd
theorem GC.int{mg:Str→Option Value}{x:Str}{i:Int}{t:Tok}(h:mg x=some (.int i t)):GC K mg x (.int i):=⟨.int i,_,h,⟨t,rfl⟩,fun _=>.int i⟩
theorem GC.str{mg:Str→Option Value}{x:Str}{i:Str}{t:Tok}(h:mg x=some (.str i t)):GC K mg x (.str i):=⟨.str i,_,h,⟨t,rfl⟩,fun _=>.str i⟩
theorem GC.tup{mg:Str→Option Value}{x:Str}{a:Addr}{od:Option Addr}{its:List Value}{n:Nat}{sl:Array (Option Value)}{vs:List V}{ds:List D}(h:mg x=some (.ref a))(l:K.lookup a=some ⟨.type "tuple",od,.seq its.toArray n,sl⟩)(hs:its.length≤sizeLine)(r:Vals vs its)(v:∀G,VRs K G vs ds):GC K mg x (.tup ds):=
 ⟨.ref a,_,h,rfl,fun G=>.tup (.inr ⟨_,its.toArray,n,l,rfl,rfl,by simpa using hs,by simpa using r⟩) (v G)⟩
theorem zYi{x qual:Str}{params:Arguments}{body:List Stmt}{scope:Scope}{kws:List (Str×V)}{f:Addr}{fd:FuncData}{ps ks:List Str}{n:Nat}{srcs:List Src}(F:FunD K x qual params body scope [] kws f fd)(ms:List (Str×V))(hms:∀q∈ms,q∈kws)(hk:kws≠[])
  (h:∀(D:Addr) (doc pm:Value) (an:Option Addr) (cdv ct:Value) (us ws qs:List Value),us.length=n→ws.length=ks.length→qs.length=ms.length→
   KwChain D ((ms.map (·.1)).zip qs) (bindArgs (PySem.W.fnOf x qual params body scope .none (.ref D) doc pm an cdv ct) ⟨us,ks.zip ws⟩) (ps.zip (pick us ws qs srcs))):Bnd K fd ps n ks srcs (ms.map (·.2)):=by
 obtain⟨oc,od,dV,kV,doc,pm,an,cdv,ct,osl,rfl,lk,hcd,hD,hK⟩:=F.ex
 rcases hD with⟨_,rfl⟩|⟨z,_⟩
 ·rcases hK with e|⟨D,rfl,hq⟩
  ·exact absurd e hk
  ·obtain⟨qs,hl,rk,hks⟩:=kwd_vals (ms:=ms) fun q hq'=>hq q (hms q hq')
   refine⟨qs,rk,fun s us ws X h1 h2=>?_⟩
   refine BindsTo.of_looks fun M=>?_
   exact KwChain.looks X hks (h D doc pm an cdv ct us ws qs h1 h2 hl)
 ·exact absurd rfl z
end
end DL
namespace DL
open PySem PySem.Spec PyProof.Rows L2
open Evl (Ex)
def kD:Key→D
 |.inl i=>.int i
 |.inr x=>.str x
def keyOf:D→Option Key
 |.int i=>some (.inl i)
 |.str x=>some (.inr x)
 |_=>none
def valD{A:Type}[DecidableEq A]:List (A×D)→A→Option D
 |[],_=>none
 |p::r,k=>if p.1=k then some p.2 else valD r k
def zKp{A:Type}[DecidableEq A](kvs:List (A×D))(k:A)(v:D):List (A×D):=
 if(kvs.any fun kv=>decide (kv.1=k))=true then kvs.map fun kv=>if kv.1=k then(kv.1,v) else kv else kvs++[(k,v)]
def zIB{A:Type}[DecidableEq A](kvs:List (A×D))(k:A):List (A×D):=kvs.filter fun kv=>decide (kv.1≠k)
theorem zCn{K:PySem.W.Frag}{G:Hp}{v:V}{x:D}{k:Key}(h:VR K G v x)(e:keyOf x=some k):v=kV k:=by
 cases h<;>cases e<;>rfl
section
variable {A:Type}[DecidableEq A] {K:PySem.W.Frag}{G:Hp}
theorem PR.val:∀{vs:List (A×V)}{ds:List (A×D)}(h:PR K G vs ds) (k:A),(valV vs k=none∧valD ds k=none)∨∃v d,valV vs k=some v∧valD ds k=some d∧VR K G v d
 |[],[],_,k=>.inl ⟨rfl,rfl⟩
 |p::vs,q::ds,h,k=>by
  cases h with
  |cons h1 h2=>
   by_cases e:p.1=k
   ·refine .inr ⟨p.2,q.2,valV_pos e,?_,h1.2⟩
    show(if q.1=k then _ else _)=_
    rw[qe (h1.1▸e)]
   ·rcases PR.val h2 k with⟨a,b⟩|⟨v,d,a,b,c⟩
    ·refine .inl ⟨by rw[valV_neg e];exact a,?_⟩
     show(if q.1=k then _ else _)=_
     rw[qb (h1.1▸e)]
     exact b
    ·refine .inr ⟨v,d,by rw[valV_neg e];exact a,?_,c⟩
     show(if q.1=k then _ else _)=_
     rw[qb (h1.1▸e)]
     exact b
theorem PR.any{vs:List (A×V)}{ds:List (A×D)}(h:PR K G vs ds)(k:A):(vs.any fun kv=>decide (kv.1=k))=(ds.any fun kv=>decide (kv.1=k)):=by
 induction h with
 |nil=>rfl
 |cons h1 _ ih=>rw[kL,kL,ih,h1.1]
theorem PR.append{vs ws:List (A×V)}{ds es:List (A×D)}(h:PR K G vs ds)(k:PR K G ws es):PR K G (vs++ws) (ds++es):=by
 induction h with
 |nil=>exact k
 |cons h1 _ ih=>exact .cons h1 ih
theorem PR.mapK{v:V}{d:D}(k:A)(hv:VR K G v d):∀{vs:List (A×V)}{ds:List (A×D)},PR K G vs ds→PR K G (vs.map fun kv=>if kv.1=k then(kv.1,v) else kv) (ds.map fun kv=>if kv.1=k then(kv.1,d) else kv)
 |[],[],_=>.nil
 |p::vs,q::ds,h=>by
  cases h with
  |cons h1 h2=>
   refine .cons ?_ (PR.mapK k hv h2)
   show(if p.1=k then(p.1,v) else p).1=(if q.1=k then(q.1,d) else q).1∧VR K G (if p.1=k then(p.1,v) else p).2 (if q.1=k then(q.1,d) else q).2
   by_cases e:q.1=k
   ·rw[qe (h1.1.trans e),qe e];exact⟨h1.1,hv⟩
   ·rw[qb (fun z=>e (h1.1▸z)),qb e];exact h1
theorem PR.put{vs:List (A×V)}{ds:List (A×D)}{v:V}{d:D}(h:PR K G vs ds)(k:A)(hv:VR K G v d):PR K G (putK vs k v) (zKp ds k d):=by
 unfold putK zKp
 rw[h.any k]
 split
 ·exact PR.mapK k hv h
 ·exact h.append (.cons ⟨rfl,hv⟩ .nil)
theorem PR.drop{vs:List (A×V)}{ds:List (A×D)}(h:PR K G vs ds)(k:A):PR K G (dropK vs k) (zIB ds k):=by
 unfold dropK zIB
 induction h with
 |nil=>exact .nil
 |cons h1 _ ih=>
  rename_i p q _ _ _
  by_cases e:q.1=k
  ·rw[jj (by simpa using h1.1.trans e),jj (by simpa using e)];exact ih
  ·rw[jc (by simpa using fun z=>e (h1.1▸z)),jc (by simpa using e)];exact .cons h1 ih
theorem PR.len{vs:List (A×V)}{ds:List (A×D)}(h:PR K G vs ds):vs.length=ds.length:=Paired.length h
end
section
variable {X:Cx}{K:PySem.W.Frag}{a b c:Expr}{ta tb tc:DE}{pos:Pos}
theorem Rel.dK{G:Hp}{O:Om}{H:Hp}(r:Rel K G O H){a:Addr}{es:List (Key×D)}(h:O a=some (.dK es)):∃kvs,H a=some (.dK kvs)∧PR K G kvs es:=by
 obtain⟨_,u,hu,q⟩:=r.o a _ h
 cases u<;>first|exact q.elim|exact⟨_,hu,q⟩
def zFV:DE:=fun _ O R=>∀p,O p=none→R (.ref p) (up O p (.dK []))
theorem zOM:PE X (.Dict [] [] pos) (zAs X.K zFV):=PE.by pe_dnewK fun s H Q ⟨G,O,g,R,rl,gr,h,k⟩=>fun p hp=>
 k _ _ _ _ _ (Go.new rl (o:=.dK []) (u:=.dK []) hp .nil) (.ref p) (h p (rl.fresh hp).1)
def zBX(O:Om):D→Option (List (Key×D))
 |.ref a=>match O a with|some (.dK es)=>some es|some (.fK _ _ es)=>some es|_=>none
 |_=>none
theorem Rel.dct{G:Hp}{O:Om}{H:Hp}(r:Rel K G O H){v:V}{x:D}{es:List (Key×D)}(hv:VR K G v x)(h:zBX O x=some es):∃a kvs,v=.ref a∧Rd H a (.dK kvs)∧PR K G kvs es:=by
 cases hv with
 |ref a=>
  unfold zBX at h
  cases e:O a with
  |none=>simp only[e] at h;cases h
  |some o=>
   cases o with
   |dK es'=>
    simp only[e] at h
    cases h
    obtain⟨kvs,h1,h2⟩:=r.dK e
    exact⟨a,kvs,rfl,.inl h1,h2⟩
   |fK od kvs es'=>
    simp only[e] at h
    cases h
    obtain⟨_,u,hu,q1,q2⟩:=r.o a _ e
    subst q1
    exact⟨a,kvs,rfl,.inr ⟨od,hu⟩,q2⟩
   |_=>simp only[e] at h;cases h
 |_=>cases h
def zDj:D2:=fun x y O R=>match zBX O x with|some es=>(match keyOf y with|some k=>(match valD es k with|some v=>R v O|none=>False)|none=>False)|none=>False
def zEm(f:Bool→Bool):D2:=fun y x O R=>match zBX O x with|some es=>(match keyOf y with|some k=>R (.bl (f (valD es k).isSome)) O|none=>False)|none=>False
theorem zT7{G:Hp}{O:Om}{H:Hp}{x y:D}{v u:V}{R:D→Om→Prop}(rl:Rel K G O H)(hx:VR K G v x)(hy:VR K G u y)(h:zDj x y O R):∃a w d,v=.ref a∧DGet H a u (some w)∧VR K G w d∧R d O:=by
 unfold zDj at h
 cases e:zBX O x with
 |none=>simp only[e] at h
 |some es=>
  simp only[e] at h
  obtain⟨a,kvs,rfl,h1,h2⟩:=rl.dct hx e
  cases ek:keyOf y with
  |none=>simp only[ek] at h
  |some k=>
   simp only[ek] at h
   rcases h2.val k with⟨_,z⟩|⟨w,d,z1,z2,z3⟩
   ·simp only[z] at h
   ·simp only[z2] at h
    exact⟨a,w,d,rfl,.inl ⟨kvs,k,h1,zCn hy ek,z1.symm⟩,z3,h⟩
theorem zJJ{k:Nat}(hr:Room k X.A)(ha:PE X a (zAs X.K ta))(hb:PE X b (zAs X.K tb))(hs:NoSl b:=by exact fun _ _=>rfl):PE X (.Subscript a b pos) (zAs X.K (dOp zDj ta tb)):=
 PE.by (pe_dget (by have:=hr.un;omega) ha hb hs) fun s H Q ⟨G,O,g,R,rl,gr,h,k⟩=>
  ⟨G,O,g,_,rl,gr,h,fun x O1 v G1 H1 go1 vr1 q1=>⟨G1,O1,g,_,go1.rel,gr.mono go1.ex,q1,fun y O2 u G2 H2 go2 vr2 q2=>by
   obtain⟨a,w,d,rfl,h1,h2,h3⟩:=zT7 go2.rel (vr1.mono go2.ex) vr2 q2
   exact⟨a,w,rfl,h1,k _ _ _ _ _ (go1.trans rl go2) h2 h3⟩⟩⟩
theorem zT5{G:Hp}{O:Om}{H:Hp}{x y:D}{v u:V}{f:Bool→Bool}{R:D→Om→Prop}(rl:Rel K G O H)(hx:VR K G v x)(hy:VR K G u y)(h:zEm f y x O R):∃a o,v=.ref a∧DGet H a u o∧R (.bl (f o.isSome)) O:=by
 unfold zEm at h
 cases e:zBX O x with
 |none=>simp only[e] at h
 |some es=>
  simp only[e] at h
  obtain⟨a,kvs,rfl,h1,h2⟩:=rl.dct hx e
  cases ek:keyOf y with
  |none=>simp only[ek] at h
  |some k=>
   simp only[ek] at h
   rcases h2.val k with⟨z0,z⟩|⟨w,d,z1,z2,z3⟩
   ·rw[z] at h
    exact⟨a,none,rfl,.inl ⟨kvs,k,h1,zCn hy ek,z0.symm⟩,h⟩
   ·rw[z2] at h
    exact⟨a,some w,rfl,.inl ⟨kvs,k,h1,zCn hy ek,z1.symm⟩,h⟩
theorem zIJ{k:Nat}(hr:Room k X.A)(ha:PE X a (zAs X.K ta))(hb:PE X b (zAs X.K tb)):PC X .NotIn a b (zAs X.K (dOp (zEm fun b=>!b) ta tb)):=by
 have h:=pc_dnotin (X:=X) (by have:=hr.un;omega) ha hb
 refine⟨fun pins s σ H Q I q=>h.run pins s σ H Q I ?_⟩
 obtain⟨G,O,g,R,rl,gr,h,k⟩:=q
 exact⟨G,O,g,_,rl,gr,h,fun x O1 v G1 H1 go1 vr1 q1=>⟨G1,O1,g,_,go1.rel,gr.mono go1.ex,q1,fun y O2 u G2 H2 go2 vr2 q2=>by
   obtain⟨a,o,rfl,h1,h2⟩:=zT5 go2.rel vr2 (vr1.mono go2.ex) q2
   exact⟨a,o,rfl,h1,k _ _ _ _ _ (go1.trans rl go2) (.bl _) h2⟩⟩⟩
theorem zYQ{op:CmpOp}{t:DE}(h:PC X op a b (zAs X.K t))(hm:behindInMarks op b=false:=by rfl):PT X (.Compare a [op] [b] pos) (zEh X.K (zAo t)):=
 PT.by (pt_cmp h hm) fun s H Q h=>zF4 s H Q h
def zEN(td ty tv:DE):DS:=fun F g O=>tv g O fun v O1=>td g O1 fun x O2=>ty g O2 fun y O3=>match x with|.ref a=>(match O3 a with|some (.dK es)=>(match keyOf y with|some k=>es.length<sizeLine∧F.nx g (up O3 a (.dK (zKp es k v)))|none=>False)|_=>False)|_=>False
theorem zLH{W:WX}{k:Nat}{pos':Pos}(hr:Room k X.A)(ho:PE X a (zAs X.K ta))(hi:PE X b (zAs X.K tb))(hv:PE X c (zAs X.K tc))(hs:swapsWith c (some (.Subscript a b pos')) pos.line X.env=pure false:=by rfl):
  PS X (.Assign [.Subscript a b pos'] c pos) (zCl X.K W (zEN ta tb tc)):=
 PS.by (ps_dput (by have:=hr.un;omega) ho hi hv hs) fun E s H ⟨G,O,g,F,rl,gr,h,k⟩=>
  ⟨G,O,g,_,rl,gr,h,fun z O1 w G1 H1 go1 vr1 q1=>⟨G1,O1,g,_,go1.rel,gr.mono go1.ex,q1,fun x O2 v G2 H2 go2 vr2 q2=>⟨G2,O2,g,_,go2.rel,(gr.mono go1.ex).mono go2.ex,q2,fun y O3 u G3 H3 go3 vr3 q3=>by
   have g13:=(go1.trans rl go2).trans rl go3
   match x,vr2,q3 with
   |.ref a,vr2,q3=>
    cases vr2
    have q3:(match O3 a with|some (.dK es)=>(match keyOf y with|some k=>es.length<sizeLine∧F.nx g (up O3 a (.dK (zKp es k z)))|none=>False)|_=>False):=q3
    cases e:O3 a with
    |none=>simp only[e] at q3
    |some o=>
     cases o with
     |dK es=>
      simp only[e] at q3
      cases ek:keyOf y with
      |none=>simp only[ek] at q3
      |some kk=>
       simp only[ek] at q3
       obtain⟨kvs,h1,h2⟩:=go3.rel.dK e
       have hz:=(vr1.mono go2.ex).mono go3.ex
       have gw:=Go.write go3.rel (o:=.dK (zKp es kk z)) (u:=.dK (putK kvs kk w)) e (h2.put kk hz)
       exact⟨a,_,rfl,.inl ⟨kvs,kk,h1,zCn vr3 ek,by rw[h2.len];exact q3.1,rfl⟩,k.nx _ _ _ _ _ (g13.trans rl gw) ((gr.mono g13.ex).mono gw.ex) q3.2⟩
     |_=>simp only[e] at q3⟩⟩⟩
def zJ5(td ty:DE):DS:=fun F g O=>td g O fun x O2=>ty g O2 fun y O3=>match x with|.ref a=>(match O3 a with|some (.dK es)=>(match keyOf y with|some k=>(valD es k).isSome=true∧F.nx g (up O3 a (.dK (zIB es k)))|none=>False)|_=>False)|_=>False
def zTZ:List (Key×D)→Option (List Int)
 |[]=>some []
 |(.inl i,_)::r=>(zTZ r).map (i::·)
 |_=>none
def zCI:DC:=fun xs O R=>match xs with|[x]=>(match zBX O x with|some es=>(match zTZ es with|some ks=>ks.length<64∧∀ms:List Int,ms.Perm ks→ms.Pairwise (·≤·)→∀p,O p=none→R (.ref p) (up O p (.lst (ms.map D.int)))|none=>False)|none=>False)|_=>False
theorem Rel.lock{G:Hp}{O:Om}{H:Hp}(r:Rel K G O H){a:Addr}{es:List (Key×D)}{kvs:List (Key×V)}{od:Obj}(h:O a=some (.dK es))(hp:PR K G kvs es):Rel K G (up O a (.fK od kvs es)) (upd H a (.frz od (.dK kvs))):=
 (Go.write r (o:=.fK od kvs es) (u:=.frz od (.dK kvs)) h ⟨rfl,hp⟩).rel
theorem Go.unlock{G G':Hp}{O O':Om}{H H':Hp}{a:Addr}{es:List (Key×D)}{kvs:List (Key×V)}{od:Obj}(rl:Rel K G O H)(h:O a=some (.dK es))(hp:PR K G kvs es)(go:Go K G (up O a (.fK od kvs es)) (upd H a (.frz od (.dK kvs))) G' O' H')(h':O' a=some (.fK od kvs es)):
  H' a=some (.frz od (.dK kvs))∧Go K G O H G' (up O' a (.dK es)) (upd H' a (.dK kvs)):=by
 obtain⟨_,u,hu,q1,q2⟩:=go.rel.o a _ h'
 subst q1
 refine⟨hu,?_⟩
 have g1:Go K G O H G (up O a (.fK od kvs es)) (upd H a (.frz od (.dK kvs))):=Go.write rl h ⟨rfl,hp⟩
 have g2:=Go.write go.rel (o:=.dK es) (u:=.dK kvs) h' (show PR K G' kvs es from q2)
 exact(g1.trans rl go).trans rl g2
theorem VR.kD{G:Hp}(k:Key):VR K G (kV k) (DL.kD k):=by cases k;exact .int _;exact .str _
end
end DL
namespace DL
open PySem PySem.Spec PyProof.Rows L2
open Evl (Ex)
section
variable {X:Cx}{K:PySem.W.Frag}{a b c:Expr}{ta tb tc:DE}{pos:Pos}
def zFL:D2:=DL.dI fun i j=>.int (i+j)
def zFK:D2:=DL.dI fun i j=>.int (i-j)
end
end DL
namespace DL
open PySem PySem.Spec PyProof.Rows L2
open Evl (Ex)
def del(O:Om)(a:Addr):Om:=fun b=>if b=a then none else O b
theorem del_same{O:Om}{a:Addr}:del O a a=none:=qe rfl
theorem del_ne{O:Om}{a b:Addr}(h:b≠a):del O a b=O b:=qb h
theorem zSq{O:Om}{a:Addr}{o:DO}(h:O a=none):del (up O a o) a=O:=by
 funext b
 unfold del
 split
 ·rename_i e;subst e;exact h.symm
 ·rename_i e;exact up_ne e
def FzK(R:D→Om→Prop):D→Om→Prop:=fun x O=>match x with
 |.ref a=>(match O a with|some (.lst xs)=>R (.lst xs) (del O a)|_=>R (.ref a) O)
 |x=>R x O
theorem zXt{R:D→Om→Prop}{xs:List D}{O:Om}(h:R (.lst xs) O):∀p,O p=none→FzK R (.ref p) (up O p (.lst xs)):=fun p hp=>by
 unfold FzK
 simp only[up_same]
 rw[zSq hp]
 exact h
section
variable {K:PySem.W.Frag}{G:Hp}{O:Om}{H:Hp}
theorem Go.freeze(rl:Rel K G O H){a:Addr}{xs:List D}(h:O a=some (.lst xs)):∃G',Go K G O H G' (del O a) H∧VR K G' (.ref a) (.lst xs):=by
 obtain⟨vs,h1,h2⟩:=rl.lst h
 obtain⟨hg,_⟩:=rl.o a _ h
 have ex:Ex G (upd G a (.lst vs)):=Ex.new hg
 refine⟨upd G a (.lst vs),⟨⟨fun b o e=>?_,fun b o e=>?_⟩,ex,fun b o _ e=>e,fun b o e=>?_,fun b o e=>?_⟩,.lst (SqL.of upd_same) (h2.mono ex)⟩
 ·by_cases hb:b=a
  ·subst hb;rw[upd_same] at e;cases e;exact h1
  ·rw[upd_ne hb] at e;exact rl.g b o e
 ·by_cases hb:b=a
  ·subst hb;rw[del_same] at e;cases e
  ·rw[del_ne hb] at e
   obtain⟨z1,u,z2,z3⟩:=rl.o b o e
   exact⟨by rw[upd_ne hb];exact z1,u,z2,z3.mono ex⟩
 ·by_cases hb:b=a
  ·subst hb;rw[del_same] at e;cases e
  ·rw[del_ne hb] at e;exact .inl ⟨o,e⟩
 ·by_cases hb:b=a
  ·subst hb;exact .inl ⟨_,h⟩
  ·rw[upd_ne hb] at e;exact .inr (.inl ⟨o,e⟩)
theorem zT9{R:D→Om→Prop}{x:D}{v:V}(rl:Rel K G O H)(hv:VR K G v x)(h:FzK R x O):∃x' O' G',Go K G O H G' O' H∧VR K G' v x'∧R x' O':=by
 unfold FzK at h
 split at h
 ·rename_i a
  split at h
  ·rename_i xs e
   obtain⟨G',go,vr⟩:=Go.freeze rl e
   cases hv
   exact⟨_,_,G',go,vr,h⟩
  ·exact⟨_,_,G,Go.refl rl,hv,h⟩
 ·exact⟨_,_,G,Go.refl rl,hv,h⟩
end
def dFz(t:DE):DE:=fun g O R=>t g O (FzK R)
section
variable {X:Cx}{e:Expr}{t:DE}
theorem zY9(h:PE X e (zAs X.K t)):PE X e (zAs X.K (dFz t)):=PE.by h fun s H Q ⟨G,O,g,R,rl,gr,h,k⟩=>
 ⟨G,O,g,_,rl,gr,h,fun x O1 v G1 H1 go1 vr1 q1=>by
  obtain⟨x',O2,G2,go2,vr2,q2⟩:=zT9 go1.rel vr1 q1
  exact k _ _ _ _ _ (go1.trans rl go2) vr2 q2⟩
end
def flD:D→Bool
 |.non=>true
 |.bl _=>true
 |.int _=>true
 |.str _=>true
 |_=>false
def eqF:D→D→Bool
 |.non,.non=>true
 |.bl a,.bl b=>a==b
 |.bl a,.int b=>(if a then 1 else 0)==b
 |.int a,.bl b=>a==(if b then 1 else 0)
 |.int a,.int b=>decide (a=b)
 |.str a,.str b=>decide (a=b)
 |_,_=>false
def inD(x:D)(xs:List D):Bool:=xs.any fun y=>eqF y x
def zIY(f:Bool→Bool):D2:=fun x y O R=>match seqOf O y with|some ys=>flD x=true∧ys.all flD=true∧R (.bl (f (inD x ys))) O|none=>False
section
variable {K:PySem.W.Frag}{G:Hp}{O:Om}{H:Hp}
theorem zMb{v:V}{x:D}(hv:VR K G v x)(h:flD x=true):flatV v=true:=by
 cases hv<;>first|rfl|cases h
theorem zSm{v w:V}{x y:D}(hv:VR K G v x)(hw:VR K G w y)(h:flD x=true)(h':flD y=true):eqV v w=eqF x y:=by
 cases hv<;>first|cases h|skip
 all_goals cases hw<;>first|cases h'|skip
 all_goals first|rfl|(simp only[eqV,eqF];rw[jo];simp;done)
theorem zIw{vs:List V}{xs:List D}(hv:VRs K G vs xs)(h:xs.all flD=true):vs.all flatV=true:=by
 match vs,xs,hv with
 |_,_,.nil=>rfl
 |_,_,.cons q r=>
  rw[kM,qE] at h⊢
  exact⟨zMb q h.1,zIw r h.2⟩
theorem zOu{v:V}{x:D}{vs:List V}{xs:List D}(hv:VR K G v x)(hs:VRs K G vs xs)(h:flD x=true)(h':xs.all flD=true):inV v vs=inD x xs:=by
 match vs,xs,hs with
 |_,_,.nil=>rfl
 |_,_,.cons (v:=w) (vs:=ws) (d:=y) (ds:=ys) q r=>
  rw[kM,qE] at h'
  show(eqV w v||inV v ws)=(eqF y x||inD x ys)
  rw[zOu hv r h h'.2,zSm q hv h'.1 h]
theorem zYT:OpS K (rIn K false) (zIY fun b=>b):=fun {G O H x y v u R Q} rl hx hy h k=>by
 unfold zIY at h
 cases e:seqOf O y with
 |none=>simp only[e] at h
 |some ys=>
  simp only[e] at h
  obtain⟨a,vs,rfl,hq,hv⟩:=rl.seqOf hy e
  refine⟨a,vs,rfl,hq,zMb hx h.1,zIw hv h.2.1,?_⟩
  rw[zOu hx hv h.1 h.2.1]
  exact k.here rl (.bl _) h.2.2
theorem zNY:OpS K (rIn K true) (zIY fun b=>!b):=fun {G O H x y v u R Q} rl hx hy h k=>by
 unfold zIY at h
 cases e:seqOf O y with
 |none=>simp only[e] at h
 |some ys=>
  simp only[e] at h
  obtain⟨a,vs,rfl,hq,hv⟩:=rl.seqOf hy e
  refine⟨a,vs,rfl,hq,zMb hx h.1,zIw hv h.2.1,?_⟩
  rw[zOu hx hv h.1 h.2.1]
  exact k.here rl (.bl _) h.2.2
end
def zOW:D2:=fun x y O R=>match x,y with
 |.int i,.int j=>R (.bl (decide (i<j))) O
 |.tup xs,.tup ys=>(match zBv xs,zBv ys with|some ns,some ms=>R (.bl (HT.lexLt ns ms)) O|_,_=>False)
 |_,_=>False
abbrev yBi(K:PySem.W.Frag):R2:=fun x y H Q=>(rI0 fun i j=>.bl (decide (i<j))) x y H Q∨rLtT K x y H Q
theorem yBf{K:PySem.W.Frag}:OpS K (yBi K) zOW:=fun {G O H x y v u R Q} rl hx hy h k=>by
 cases hx with
 |int i=>cases hy<;>first|exact h.elim|exact .inl ⟨_,_,rfl,rfl,k.here rl (.bl _) h⟩
 |tup h1 h2=>
  cases hy with
  |tup h3 h4=>
   rename_i a1 vs1 xs a2 vs2 ys
   have h:(match zBv xs,zBv ys with|some ns,some ms=>R (.bl (HT.lexLt ns ms)) O|_,_=>False):=h
   cases e1:zBv xs with
   |none=>simp only[e1] at h
   |some ns=>
    cases e2:zBv ys with
    |none=>simp only[e1,e2] at h
    |some ms=>
     simp only[e1,e2] at h
     rw[zEF e1] at h2
     rw[zEF e2] at h4
     rw[h2.ints] at h1
     rw[h4.ints] at h3
     exact .inr ⟨_,_,ns,ms,rfl,rfl,Evl.ex_t rl.g h1,Evl.ex_t rl.g h3,k.here rl (.bl _) h⟩
  |_=>exact h.elim
 |_=>cases hy<;>exact h.elim
theorem zWW{X:Cx}{k:Nat}(hr:Room k X.A):OpR X (compareOp .Lt) (yBi X.K):=OpR.or op_lt (op_ltT (by have:=hr.un;omega))
end DL
namespace DL
open PySem PySem.Spec PyProof.Rows L2
open Evl (Ex)
theorem Bk.lstF{K:PySem.W.Frag}{G:Hp}{O:Om}{H:Hp}{R:D→Om→Prop}{Q:VK}{xs:List D}{vs:List V}(k:Bk K G O H R Q)(r:Rel K G O H)(hv:VRs K G vs xs)(h:R (.lst xs) O):∀p,H p=none→Q (.ref p) (upd H p (.lst vs)):=fun p hp=>by
 have g:=Go.data r (u:=.lst vs) hp
 exact k _ _ _ _ _ g (.lst (SqL.of upd_same) (hv.mono g.ex)) h
def zBA(t:DA):DE:=fun g O R=>t g O fun xs O1=>R (.lst xs) O1
def zJN(t:DE):DE:=fun g O R=>t g O fun x O1=>match lstOf O1 x with|some xs=>R (.lst xs.reverse) O1|none=>False
def zEX(te:DE)(tl th:DOp):DE:=fun g O R=>te g O fun x O1=>tl g O1 fun l O2=>th g O2 fun u O3=>match x with
 |.str z=>z.length≤sizeLine∧R (.str (cutS z l u)) O3
 |.tup xs=>R (.tup (cutD xs l u)) O3
 |x=>match lstOf O3 x with|some xs=>R (.lst (cutD xs l u)) O3|none=>False
def zHE(it:DI)(u:DG)(tt:DT)(te:DE)(vs:List Nat):DE:=fun g O R=>it g O fun xs ok O1=>zEn u tt te ok (zCM g vs) (fun ys O2=>R (.lst ys) O2) xs [] O1
section
variable {X:Cx}{K:PySem.W.Frag}{a b c:Expr}{ta tb tc:DE}{pos:Pos}{es:List Expr}{tA:DA}{n:Nat}
theorem zBx(h:PA X es (zC8 X.K n tA))(hn:n≤1000:=by decide):PE X (.List es pos) (zAs X.K (zBA tA)):=PE.by (pe_lst h) fun s H Q ⟨G,O,g,R,rl,gr,h,k⟩=>
 ⟨G,O,g,_,rl,gr,h,fun xs O1 vs G1 H1 go1 vr1 hl q1=>⟨by rw[vr1.length,hl];exact qo hn (by decide),fun p hp=>by
  have b:Bk X.K G1 O1 H1 R Q:=fun x O2 v G2 H2 go2 vr q2=>k _ _ _ _ _ (go1.trans rl go2) vr q2
  exact b.lstF go1.rel vr1 q1 p hp⟩⟩
theorem zBT{lo hi:Option Expr}{tl th:DOp}{p2:Pos}(he:PE X a (zAs X.K ta))(hl:PO X lo (zUS X.K tl))(hu:PO X hi (zUS X.K th)):PE X (.Subscript a (.Slice lo hi none p2) pos) (zAs X.K (zEX ta tl th)):=
 PE.by (pe_slice (SlR.or sl_list (SlR.or sl_tupA sl_str)) he hl hu) fun s H Q ⟨G,O,g,R,rl,gr,h,k⟩=>⟨G,O,g,_,rl,gr,h,fun x O1 v G1 H1 go1 vr1 q1=>⟨G1,O1,g,_,go1.rel,gr.mono go1.ex,q1,fun l O2 G2 H2 go2 q2=>
  ⟨G2,O2,g,_,go2.rel,gr.mono (go1.ex.trans go2.ex),q2,fun u O3 G3 H3 go3 q3=>by
   have g13:=(go1.trans rl go2).trans rl go3
   have bk:Bk X.K G3 O3 H3 R Q:=fun x O4 v G4 H4 go4 vr q4=>k _ _ _ _ _ (g13.trans rl go4) vr q4
   have vr3:=vr1.mono (go2.ex.trans go3.ex)
   have gen:(match lstOf O3 x with|some xs=>R (.lst (cutD xs l u)) O3|none=>False)→rSlL X.K v l u H3 Q:=fun h=>by
    cases e:lstOf O3 x with
    |none=>simp only[e] at h
    |some xs=>
     simp only[e] at h
     obtain⟨a,vs,rfl,hq,hv⟩:=go3.rel.lstOf vr3 e
     exact⟨a,vs,rfl,hq,bk.lstF go3.rel (zMq hv) h⟩
   cases vr3 with
   |str z=>exact .inr (.inr ⟨z,rfl,q3.1,bk.here go3.rel (.str _) q3.2⟩)
   |tup h1 h2=>
    refine .inr (.inl ⟨_,_,rfl,Evl.ex_t go3.rel.g h1,fun hw=>?_,fun _=>bk.tup go3.rel (zMq h2) q3⟩)
    rename_i aa vs ds
    have q3':R (.tup (cutD ds l u)) O3:=q3
    have hc:cutD ds l u=ds:=by
     unfold cutD
     rw[←h2.length,hw.1,hw.2,ky,kA,h2.length,ka]
    rw[hc] at q3'
    exact bk.here go3.rel (.tup h1 h2) q3'
   |_=>exact .inl (gen q3)⟩⟩⟩
theorem zOh{K:PySem.W.Frag}{it:DI}{u:DG}{tt:DT}{te:DE}{vs:List Nat}:∀s H Q,zAs K (zHE it u tt te vs) s H Q→tLc (zNj K it) (zG3 K vs u) (zEh K tt) (zAs K te) vs s H Q:=fun s H Q ⟨G,O,g,R,rl,gr,h,k⟩=>by
 refine⟨G,O,g,_,rl,gr,h,fun xs ok O1 J G1 H1 go1 ir q1=>?_⟩
 intro Dl hD
 obtain⟨hO,hG⟩:=go1.rel.fresh hD
 have g0:Go K G1 O1 H1 G1 (up O1 Dl (.lst [])) (upd H1 Dl (.lst [])):=Go.new go1.rel (o:=.lst []) (u:=.lst []) hD .nil
 have less:∀{O':Om}{o:DO},O' Dl=none→∀a w,O' a=some w→up O' Dl o a=some w:=fun {O' o} n a w e=>by rw[up_ne (fun z=>by subst z;rw[n] at e;cases e)];exact e
 refine⟨fun i m H'=>∃G' O' acc,Go K G1 O1 H1 G' (up O' Dl (.lst acc)) H'∧O' Dl=none∧zEn u tt te ok (zCM g vs) (fun ys O2=>R (.lst ys) O2) (xs.drop i) acc O'∧m=xs.length-i∧i≤xs.length,
  ⟨_,G1,O1,[],g0,hO,q1,rfl,qR _⟩,?_⟩
 rintro i m H2 ⟨G2,O2,acc,go2,nO2,q2,hm,hi⟩
 have r2:Rel K G2 O2 H2:=go2.rel.less (less nO2)
 obtain⟨nG2,uu,hh,qq⟩:=go2.rel.o Dl _ up_same
 cases e:xs.drop i with
 |nil=>
  rw[e] at q2
  have hl:xs.length=i:=by
   have:=jB List.length e
   rw[jq,qT] at this
   omega
  obtain⟨G3,go3,vr3⟩:=Go.freeze go2.rel (a:=Dl) (xs:=acc) up_same
  rw[zSq nO2] at go3
  refine .inl ⟨?_,k _ _ _ _ _ ((go1.trans rl go2).trans rl go3) vr3 q2.2⟩
  rw[←hl]
  exact ir.stop G2 O2 H2 go2.ex r2 q2.1
 |cons x r=>
  rw[e] at q2
  obtain⟨hx,hr⟩:=zDC e
  have hlt:i<xs.length:=(qf.mp hx).1
  refine .inr ⟨ir.go i x G2 O2 H2 hx go2.ex r2 q2.1,fun H'=>∃G' O' acc,Go K G1 O1 H1 G' (up O' Dl (.lst acc)) H'∧O' Dl=none∧zEn u tt te ok (zCM g vs) (fun ys O2=>R (.lst ys) O2) r acc O',?_,fun v H3 hy=>?_⟩
  ·rintro H3 ⟨G3,O3,acc3,go3,n3,q3⟩
   exact⟨xs.length-(i+1),by omega,G3,O3,acc3,go3,n3,by rw[hr];exact q3,rfl,hlt⟩
  ·obtain⟨G3,go3,vr3⟩:=ir.yld i x G2 O2 H2 v H3 hx go2.ex r2 q2.1 hy
   refine⟨G3,O2,zCM g vs,x,_,go3.rel,(gr.mono (go1.ex.trans (go2.ex.trans go3.ex))).wipe vs,vr3,q2.2,fun s4 g4 O4 G4 H4 go4 gr4 w4 q4=>⟨w4.trans ?_,G4,O4,g4,_,go4.rel,gr4,q4,fun b O5 G5 H5 go5 q5=>?_⟩⟩
   ·have wipe2:∀us:List Nat,(∀a∈us,a∈vs)→L2.wipe (L2.wipe s us) vs=L2.wipe s vs:=by
     intro us
     induction us with
     |nil=>intro _;rfl
     |cons a us ih=>
      intro ha
      show L2.wipe ((L2.wipe s us).set a none) vs=_
      rw[zEs (ha a qz)]
      exact ih fun b hb=>ha b (qA _ hb)
    exact wipe2 vs fun _ z=>z
   ·have g25:Go K G2 O2 H2 G5 O5 H5:=(go3.trans r2 go4).trans r2 go5
    cases b with
    |false=>
     obtain⟨n5,h5,f5⟩:=g25.frame nO2 nG2 hh qq
     exact⟨G5,O5,acc,go2.trans go1.rel f5,n5,q5⟩
    |true=>
     refine⟨G5,O5,g4,_,go5.rel,gr4.mono go5.ex,q5,fun y O6 w G6 H6 go6 vr6 q6=>?_⟩
     have g26:=g25.trans r2 go6
     obtain⟨n6,h6,f6⟩:=g26.frame nO2 nG2 hh qq
     have g16:=go2.trans go1.rel f6
     obtain⟨_,u6,h6',q6'⟩:=g16.rel.o Dl _ up_same
     cases u6 with
     |lst vacc=>
      have hv:VRs K G6 vacc acc:=q6'
      have gw:=Go.write g16.rel (a:=Dl) (o:=.lst (acc++[y])) (u:=.lst (vacc++[w])) up_same (hv.append (.cons vr6 .nil))
      rw[zMA] at gw
      exact⟨vacc,h6',by rw[hv.length];exact q6.1,G6,O6,acc++[y],g16.trans go1.rel gw,n6,q6.2⟩
     |_=>exact False.elim q6'
variable {tg:Expr}
theorem zJI{elt iter:Expr}{ifs:List Expr}{scope:Scope}{own:List (Str×Nat)}{it:DI}{u:DG}{tt:DT}{te:DE}(hc:X.calm=true)(hN:X.N.Nodup)(hi:PI X tg iter (zNj X.K it))(ok:BlkOk X.N X.env.scope scope own)
  (hg:∀(s:Shared) (H:Hp) (C:Addr) (cl:List (Str×Addr)) (fp:List Addr),PG (X.blk s H scope (compEnvC scope cl C X.env) fp) tg (zG3 X.K (own.map (·.2)) u)) (ht:∀(s:Shared) (H:Hp) (C:Addr) (cl:List (Str×Addr)) (fp:List Addr),PTs (X.blk s H scope (compEnvC scope cl C X.env) fp) ifs (zEh X.K tt))
  (he:∀(s:Shared) (H:Hp) (C:Addr) (cl:List (Str×Addr)) (fp:List Addr),PE (X.blk s H scope (compEnvC scope cl C X.env) fp) elt (zAs X.K te)) (hs:∀x,foldedSetIterable iter X.env x=pure x:=by intro _;rfl):
  PE X (.ListComp elt [⟨tg,iter,ifs,0⟩] scope pos) (zAs X.K (zHE it u tt te (own.map (·.2)))):=PE.by (pe_lc hc hN hi ok hg ht he hs) zOh
theorem zH9{W:WX}{i:Nat}{y:Str}{py:Pos}{elt iter:Expr}{ifs:List Expr}{scope:Scope}{own:List (Str×Nat)}{spos:Pos}{it:DI}{u:DG}{tt:DT}{te:DE}(hc:X.calm=true)(hN:X.N.Nodup)(hy:X.N[i]?=some y)(hyl:X.env.scope.names.lookup y=some .local)
  (hsw:swapsWith (.ListComp elt [⟨tg,iter,ifs,0⟩] scope pos) (some (.Name y py)) spos.line X.env=pure true) (hi:PI X tg iter (zNj X.K it)) (ok:BlkOk X.N X.env.scope scope own)
  (hg:∀(s:Shared) (H:Hp) (C:Addr) (cl:List (Str×Addr)) (fp:List Addr),PG (X.blk s H scope (compEnvC scope cl C X.env) fp) tg (zG3 X.K (own.map (·.2)) u)) (ht:∀(s:Shared) (H:Hp) (C:Addr) (cl:List (Str×Addr)) (fp:List Addr),PTs (X.blk s H scope (compEnvC scope cl C X.env) fp) ifs (zEh X.K tt))
  (he:∀(s:Shared) (H:Hp) (C:Addr) (cl:List (Str×Addr)) (fp:List Addr),PE (X.blk s H scope (compEnvC scope cl C X.env) fp) elt (zAs X.K te)) (hs:∀x,foldedSetIterable iter X.env x=pure x:=by intro _;rfl):
  PS X (.Assign [.Name y py] (.ListComp elt [⟨tg,iter,ifs,0⟩] scope pos) spos) (zCl X.K W (zBY i (zHE it u tt te (own.map (·.2))))):=PS.by (ps_setLc hc hN hy hyl hsw hi ok hg ht he hs) fun E s H ⟨G,O,g,F,rl,gr,h,k⟩=>
 zOh s H _ ⟨G,O,g,_,rl,gr,h,fun x O1 v G1 H1 go1 vr1 q1=>k.nx _ _ _ _ _ go1 ((gr.mono go1.ex).set i vr1) q1⟩
def zDH:DC:=fun xs O R=>match xs with|[x]=>(match seqOf O x with|some ys=>R (.lst ys) O|none=>False)|_=>False
theorem zV2:CaS K (fun xs H Q=>∃p ys,xs=[.ref p]∧(SqL K H p ys∨SqT K H p ys)∧∀l,H l=none→Q (.ref l) (upd H l (.lst ys))) zDH:=fun {G O H xs vs R Q} rl hv h k=>by
 match xs,hv,h with
 |[x],hv,h=>
  obtain⟨v,rfl,hw⟩:=hv.one
  have h:(match seqOf O x with|some ys=>R (.lst ys) O|none=>False):=h
  cases e:seqOf O x with
  |none=>simp only[e] at h
  |some ys=>
   simp only[e] at h
   obtain⟨a,vs,rfl,hq,hv2⟩:=rl.seqOf hw e
   exact⟨a,vs,rfl,hq,k.lstF rl hv2 h⟩
def zDQ(x:Int):List Int→List Int
 |[]=>[x]
 |y::r=>if x≤y then x::y::r else y::zDQ x r
def zZo:List Int→List Int
 |[]=>[]
 |x::r=>zDQ x (zZo r)
theorem zEG(x:Int):∀r,(zDQ x r).Perm (x::r)
 |[]=>.refl _
 |y::r=>by
  unfold zDQ
  split
  ·exact .refl _
  ·exact((zEG x r).cons y).trans (.swap x y r)
def zCH:DC:=fun xs O R=>match xs with|[x]=>(match lstOf O x with|some ys=>(match zBv ys with|some ns=>R (.lst ((zZo ns).map D.int)) O|none=>False)|none=>False)|_=>False
def zCf:DC:=fun xs O R=>match xs with|[x]=>(match zBX O x with|some es=>(match zTZ es with|some ks=>ks.length<64∧R (.lst ((zZo ks).map D.int)) O|none=>False)|none=>False)|_=>False
def mxI:List Int→Int
 |[]=>0
 |[x]=>x
 |x::r=>max x (mxI r)
def mnI:List Int→Int
 |[]=>0
 |[x]=>x
 |x::r=>min x (mnI r)
theorem zRa{x:Int}{r:List Int}(h:r≠[]):mxI (x::r)=max x (mxI r):=by cases r with|nil=>exact absurd rfl h|cons y r=>rfl
theorem zKS:∀{xs:List Int},xs≠[]→mxI xs∈xs
 |[x],_=>by simp[mxI]
 |x::z::r,_=>by
  rw[zRa (by simp)]
  have:=zKS (xs:=z::r) (by simp)
  rcases Int.le_total x (mxI (z::r)) with h|h
  ·rw[Int.max_eq_right h];exact qA _ this
  ·rw[Int.max_eq_left h];simp
def zJV:DC:=fun xs O R=>match xs with|[.int i,.int j]=>R (.int (max i j)) O|[x]=>(match lstOf O x with|some ys=>(match zBv ys with|some ns=>ns≠[]∧R (.int (mxI ns)) O|none=>False)|none=>False)|_=>False
def zJT:DC:=fun xs O R=>match xs with|[.int i,.int j]=>R (.int (min i j)) O|[x]=>(match lstOf O x with|some ys=>(match zBv ys with|some ns=>ns≠[]∧R (.int (mnI ns)) O|none=>False)|none=>False)|_=>False
end
end DL
namespace DL
open PySem PySem.Spec PyProof.Rows L2
open Evl (Ex)
def zCG:List D→Option (List Key)
 |[]=>some []
 |x::r=>match DL.keyOf x,zCG r with|some k,some ks=>some (k::ks)|_,_=>none
def zAJ:D→Option (List Key)
 |.tup xs=>zCG xs
 |.ptup xs=>zCG xs
 |_=>none
def zM8(O:Om):D→Option (List (List Key×D))
 |.ref a=>(match O a with|some (.dT es)=>some es|_=>none)
 |_=>none
section
variable {K:PySem.W.Frag}{G:Hp}{O:Om}{H:Hp}
theorem Rel.dT(r:Rel K G O H){a:Addr}{es:List (List Key×D)}(h:O a=some (.dT es)):∃kvs,H a=some (.dT kvs)∧PR K G kvs es:=by
 obtain⟨_,u,hu,q⟩:=r.o a _ h
 cases u<;>first|exact q.elim|exact⟨_,hu,q⟩
end
def zJS:DE:=fun _ O R=>∀p,O p=none→R (.ref p) (up O p (.dT []))
def zJ1:D2:=fun x y O R=>match zM8 O x with|some es=>(match zAJ y with|some k=>(match valD es k with|some v=>R v O|none=>False)|none=>False)|none=>False
def zJ0(f:Bool→Bool):D2:=fun y x O R=>match zM8 O x with|some es=>(match zAJ y with|some k=>R (.bl (f (valD es k).isSome)) O|none=>False)|none=>False
def zJL(t:DA):DE:=fun g O R=>t g O fun xs O1=>R (.ptup xs) O1
def zGY(x:D)(O:Om)(k:Option (List Key))(z:D)(N:Om→Prop):Prop:=match x with
 |.ref a=>(match O a with|some (.dT es)=>(match k with|some k=>es.length<sizeLine∧N (up O a (.dT (zKp es k z)))|none=>False)|_=>False)
 |_=>False
def zQV:D→Option (List Key)
 |.ptup xs=>zCG xs
 |_=>none
def zJP(td:DE)(tA:DA)(tv:DE):DS:=fun F g O=>tv g O fun v O1=>td g O1 fun x O2=>tA g O2 fun ys O3=>zGY x O3 (zCG ys) v (F.nx g)
def zJQ(td ty tv:DE):DS:=fun F g O=>tv g O fun v O1=>td g O1 fun x O2=>ty g O2 fun y O3=>zGY x O3 (zQV y) v (F.nx g)
end DL
namespace DL
open PySem PySem.Spec PyProof.Rows L2
open Evl (Ex)
section
variable {K:PySem.W.Frag}{G:Hp}{O:Om}{H:Hp}
def pD2(p:Int×Int):D:=.tup [.int p.1,.int p.2]
end
def leP(p q:Int×Int):Bool:=!SrtO.lexB q p
def yBn(x:Int×Int):List (Int×Int)→List (Int×Int)
 |[]=>[x]
 |y::r=>if leP x y=true then x::y::r else y::yBn x r
def yBc:List (Int×Int)→List (Int×Int)
 |[]=>[]
 |x::r=>yBn x (yBc r)
def zR6:List (List Key×D)→Option (List (Int×Int))
 |[]=>some []
 |([.inl i,.inl j],_)::r=>(zR6 r).map ((i,j)::·)
 |_=>none
def zCe:DC:=fun xs O R=>match xs with|[x]=>(match zM8 O x with|some es=>(match zR6 es with|some ks=>R (.lst ((yBc ks).map pD2)) O|none=>False)|none=>False)|_=>False
end DL
namespace DL
open PySem PySem.Spec PyProof.Rows L2
open Evl (Ex)
set_option maxHeartbeats 1000000 in
theorem zKU{v:Value}{o:Obj}{H:Heap→Prop}(B:Begins v o H):
  Meets (Builtin.«enumerate.__new__» ⟨[.type "enumerate",v],[]⟩) (fun _ R s=>H s.heap∧
   R (.ok (.ret (.ref (s.heap.push o).objs.size))) {s with heap:=(s.heap.push o).push {cls:=.type "enumerate",data:=.fields #[.none,.bool false,.ref s.heap.objs.size,rawInt 0,.none,.none]}}):=
 .of_wp fun prog w A R s h=>by
  obtain⟨hp,g,d,tk,os⟩:=s;obtain⟨h1,h⟩:=h
  have hsub:=sub_enumerate
  have q1:∀{A':Around}{E:Value→Shared→Prop}{Q:Value→Shared→Prop},Q (.ref hp.objs.size) ⟨hp.push o,g,d,tk,os⟩→wpAny (model prog w) A' (pyIter v) Q E ⟨hp,g,d,tk,os⟩:=
   fun q=>B.iter prog w _ _ ⟨hp,g,d,tk,os⟩ _ h1 q
  wp_walk using q1
  refine wpAny_stack_any fun st=>wpAny_pure ?_
  split
  ·rename_i c _ _ _ _ _
   cases(c==Value.type "enumerate")
   ·wp_walk using q1
    exact⟨_,rfl,h⟩
   ·wp_walk using q1
    exact⟨_,rfl,h⟩
  ·wp_walk using q1
   exact⟨_,rfl,h⟩
theorem zJH{prog:Program}{w:World}{A:Around}{E:Value→Shared→Prop}{s:Shared}{v:Value}{o:Obj}{H:Heap→Prop}{Q:Value→Shared→Prop}(B:Begins v o H)(h1:H s.heap)
  (h:∀h',IsEnum h' (s.heap.objs.size+1) s.heap.objs.size 0 .none→h'.get? s.heap.objs.size=some o→h'.objs.size=s.heap.objs.size+2→
   (∀b o,s.heap.get? b=some o→h'.get? b=some o)→Q (.ref (s.heap.objs.size+1)) {s with heap:=h'}):
  wpAny (model prog w) A (call (.type "enumerate") [v]) Q E s:=by
 refine callType_new F.called_enumerate (by decide) (F.typeCall_enumerate_1 _) (F.newCall_enumerate_1 _) (fun obj=>F.args_object_init_2 obj _) F.entry_enumerate_new
  (zKU B) ⟨h1,?_⟩
 have hz:(s.heap.push o).objs.size=s.heap.objs.size+1:=Heap.size_push ..
 show _∧_
 rw[hz]
 have he:IsEnum ((s.heap.push o).push {cls:=.type "enumerate",data:=.fields #[.none,.bool false,.ref s.heap.objs.size,rawInt 0,.none,.none]}) (s.heap.objs.size+1) s.heap.objs.size 0 .none:=by
  have:=Heap.get?_push_size (s.heap.push o) (o:={cls:=.type "enumerate",data:=.fields #[.none,.bool false,.ref s.heap.objs.size,rawInt 0,.none,.none]}) rfl
  rw[hz] at this;exact this
 refine⟨⟨_,he,rfl⟩,h _ he (Heap.get?_push_of_some _ (Heap.get?_push_size _ B.free)) (by rw[Heap.size_push,hz]) fun b o x=>Heap.get?_push_of_some _ (Heap.get?_push_of_some _ x)⟩
def yA7(K:PySem.W.Frag)(a:Addr):It:=
 ⟨fun i H=>∃(xs:List V) (x:V),SqT K H a xs∧xs[i]?=some x,fun i H v H'=>∃T x,v=.ref T∧H T=none∧H'=upd H T (.tup [.int (i:Nat),x])∧∀xs,SqT K H a xs→xs[i]?=some x,fun i H=>∃xs:List V,SqT K H a xs∧xs.length=i⟩
theorem zGc{h:Heap}{a it:Addr}{its:Array Value}{i:Nat}(p:IsTup h a its)(q:h.IsTupleIter it a i):a≠it:=fun z=>by
 subst z
 obtain⟨o,h1,h2,_⟩:=p
 obtain⟨o',h1',h2',_⟩:=q
 rw[h1] at h1'
 cases h1'
 rw[h2] at h2'
 exact absurd (Value.type.inj h2') (by decide)
theorem zMB{P:Program}{w:World}{K:PySem.W.Frag}{elts:List Expr}{kk:Nat}{tpos:Pos}(a e it:Addr):
  Turn P w K (.Tuple elts kk tpos) (yA7 K a) [e,it] e (fun i h=>(∃old,IsEnum h e it ((i:Nat):Int) old)∧h.IsTupleIter it a i∧e≠it) where
 mem:=by simp
 obj:=fun i h st b hb=>by
  obtain⟨⟨old,he⟩,⟨o,ho,hc,hd⟩,_⟩:=st
  have e':b=e∨b=it:=by simpa using hb
  rcases e' with z|z
  ·rw[z];exact⟨_,he,fun v q=>nomatch q⟩
  ·rw[z];exact⟨o,ho,fun v q=>by rw[hd] at q;cases q⟩
 keep:=fun i h h' st k=>let ⟨⟨old,he⟩,hi,hne⟩:=st;⟨⟨old,k e (by simp) _ he⟩,hi.at fun o q=>k it (by simp) o q,hne⟩
 item:=by
  intro X hP hw hK hc i pins s σ H E I hf st hg
  subst hP hw hK
  obtain⟨⟨old,he⟩,hit,hne⟩:=st
  obtain⟨xs,x,hq,hx⟩:=hg
  obtain⟨its,rv,p,hz⟩:=I.tuple hq
  obtain⟨u,hu,ru⟩:=rv.get hx
  have hel:e<s.heap.objs.size:=Heap.lt_size he
  have hil:it<s.heap.objs.size:=by obtain⟨_,q,_⟩:=hit;exact Heap.lt_size q
  have hat:a≠it:=zGc p hit
  have hea:e≠a:=fun z=>by
   subst z
   obtain⟨o,h1,h2,_⟩:=p
   rw[show s.heap.get? e=_ from he] at h1
   cases h1
   exact absurd (Value.type.inj h2) (by decide)
  have hlt:i<its.toArray.size:=by
   have:=(qf.mp hu).1
   simpa using this
  refine wpAny_pyNext_enum_itemD (Draws.tuple (show X.A.in1.handled=none from I.ok.hd hc) it a hat its.toArray) he ⟨hit,p⟩ hlt hne (by simp[hne,hea]) fun x' h' tk hPx ho hst hT hsz hk=>?_
  have hxu:x'=u:=by
   have h1:its.toArray[i]?=some x':=hPx
   have h2:its.toArray[i]?=some u:=by simpa using hu
   rw[h1] at h2
   exact jb h2
  subst hxu
  obtain⟨hit',_⟩:=hst
  refine⟨_,rfl,wpAny_letOwnedTupleGo_enum (s:={s with heap:=h',toks:=tk+1}) ho fun h'' he' sb=>?_⟩
  have hT2:h''.get? s.heap.objs.size=some {cls:=.type "tuple",data:=.seq #[.int i tk,x']}:=(sb.2 _ (Nat.ne_of_gt hel)).trans hT
  have new:ObjOk X.prog X.w (upd H s.heap.objs.size (.tup [.int (i:Nat),x])) h'' s.heap.objs.size (.tup [.int (i:Nat),x]):=
   ⟨by show 2≤sizeLine;decide,[.int i tk,x'],.cons ⟨_,rfl⟩ (.cons ru .nil),⟨_,hT2,rfl,_,rfl⟩⟩
  have I1:Inv X pins σ (upd H s.heap.objs.size (.tup [.int (i:Nat),x])) {s with heap:=h'',toks:=tk+1}:=
   I.turnedNew (ch:=[e,it]) (fun b ob hb q=>(sb.2 b (fun z=>hb (by simp[z]))).trans (hk b ob (fun z=>hb (by simp[z])) (fun z=>hb (by simp[z])) q)) hf (qG _) new
  refine⟨.ref s.heap.objs.size,_,I1,rfl,⟨_,x,rfl,I.hok.fresh (qG _),rfl,fun ys hy=>by rw[I.tuple_inj hy hq];exact hx⟩,⟨⟨x',?_⟩,hit'.at fun o q=>(sb.2 it (ql hne)).trans q,hne⟩,fun b hb=>?_⟩
  ·have e1:((i+1:Nat):Int)=(i:Int)+1:=by omega
   rw[e1];exact he'
  ·have hb':b<s.heap.objs.size:=by
    have e':b=e∨b=it:=by simpa using hb
    rcases e' with z|z
    ·rw[z];exact hel
    ·rw[z];exact hil
   rw[upd_ne (jQ hb')]
   exact(hf b hb).1
 done:=by
  intro X hP hw hK hc i pins s σ H E I hf st hg
  subst hP hw hK
  obtain⟨⟨old,he⟩,hit,hne⟩:=st
  obtain⟨xs,hq,hx⟩:=hg
  obtain⟨its,rv,p,hz⟩:=I.tuple hq
  obtain⟨f0,f1,f2,f3,f4,f5⟩:=hf it (by simp)
  have hl:=rv.length
  have hi:its.toArray.size=i:=by simp;omega
  subst hi
  exact wpAny_pyNext_enum_endD (Draws.tuple (show X.A.in1.handled=none from I.ok.hd hc) it a (zGc p hit) its.toArray) he ⟨hit,p⟩ fun h' eb=>⟨rfl,I.turned (t':=s.toks) (fun b o hb q=>eb b o hb q) f0 f1 f3 f4 f5⟩
 self:=fun A i s Q E st h=>let ⟨⟨_,he⟩,_⟩:=st;wpAny_pyIter_enum he h
def zXp(K:PySem.W.Frag)(ta:TA):TI:=fun σ H R=>ta σ H fun vs H1=>∃a xs,vs=[.ref a]∧((SqL K H1 a xs∧R (Ite K a) H1)∨(SqT K H1 a xs∧R (yA7 K a) H1))
theorem zQX{X:Cx}{e:Expr}{ta:TA}{p pos tpos:Pos}{elts:List Expr}{kk:Nat}(hg:Gl X "enumerate")(hm:X.mg "enumerate"=none)(ha:PA X [e] ta)(hs:starEach [e] X.env=[(false,eval e X.env)]:=by rfl):
  PI X (.Tuple elts kk tpos) (.Call (.Name "enumerate" p) [e] [] pos) (zXp X.K ta):=by
 refine⟨fun pins s σ H R I h=>?_⟩
 refine Call_ (ld_blt I hg hm boot_enumerate (PyProof.Rows.callWith_type1 (thn (ha.run pos pins s σ H _ I h) fun us s1 ⟨vs,H1,I1,r1,q1⟩=>?_) hs rfl))
 obtain⟨a,xs,ex,q1⟩:=q1
 subst ex
 cases r1 with
 |cons r rr=>
  cases rr
  cases r
  rcases q1 with⟨hq,q⟩|⟨hq,q⟩
  ·obtain⟨its,rv,p',hz⟩:=I1.list hq
   refine call_enumerate_list p'.isList fun h' he hit hsz hk=>wpAny_pyIter_enum he ?_
   have I2:Inv X pins σ H1 {s1 with heap:=h'}:=I1.kept (t':=s1.toks) hk
   refine⟨s1.heap.objs.size+1,[s1.heap.objs.size+1,s1.heap.objs.size],_,_,H1,rfl,I2,turn_enum a (s1.heap.objs.size+1) s1.heap.objs.size,⟨⟨.none,he⟩,hit,Nat.succ_ne_self _⟩,fun b hb=>?_,q⟩
   have e':b=s1.heap.objs.size+1∨b=s1.heap.objs.size:=by simpa using hb
   have hle:s1.heap.objs.size≤b:=by
    rcases e' with z|z
    ·rw[z];exact kI _ _
    ·rw[z];exact qG _
   exact I1.fpOk hle (I1.hok.fresh hle)
  ·obtain⟨its,rv,p',hz⟩:=I1.tuple hq
   refine zJH (begins_tuple a its.toArray) p' fun h' he hit hsz hk=>wpAny_pyIter_enum he ?_
   have I2:Inv X pins σ H1 {s1 with heap:=h'}:=I1.kept (t':=s1.toks) hk
   refine⟨s1.heap.objs.size+1,[s1.heap.objs.size+1,s1.heap.objs.size],_,_,H1,rfl,I2,zMB a (s1.heap.objs.size+1) s1.heap.objs.size,⟨⟨.none,he⟩,⟨_,hit,rfl,rfl⟩,Nat.succ_ne_self _⟩,fun b hb=>?_,q⟩
   have e':b=s1.heap.objs.size+1∨b=s1.heap.objs.size:=by simpa using hb
   have hle:s1.heap.objs.size≤b:=by
    rcases e' with z|z
    ·rw[z];exact kI _ _
    ·rw[z];exact qG _
   exact I1.fpOk hle (I1.hok.fresh hle)
section
variable {X:Cx}{K:PySem.W.Frag}{G:Hp}
theorem ItR.enumT{a:Addr}{vs:List V}{xs:List D}(hT:SqT K G a vs)(hv:VRs K G vs xs):ItR K (yA7 K a) G (enD xs) Tr where
 stop:=fun G1 O H ex rl eo=>⟨vs,Evl.ex_t rl.g (Evl.ex_t ex hT),by rw[hv.length];simp[enD]⟩
 go:=fun i d G1 O H e ex rl eo=>by
  have hi:i<xs.length:=by simpa [enD] using (qf.mp e).1
  obtain⟨v,h3,_⟩:=hv.get (qg hi)
  exact⟨vs,v,Evl.ex_t rl.g (Evl.ex_t ex hT),h3⟩
 yld:=fun i d G1 O H x H' e ex rl eo y=>by
  obtain⟨T,w,rfl,hTn,rfl,hw⟩:=y
  have hi:i<xs.length:=by simpa [enD] using (qf.mp e).1
  obtain⟨v,h3,h4⟩:=hv.get (qg hi)
  have:=hw vs (Evl.ex_t rl.g (Evl.ex_t ex hT))
  rw[h3] at this;cases this
  have ed:d=D.tup [.int (i:Nat),xs[i]]:=by
   unfold enD at e
   rw[qF,List.getElem?_zipIdx,qg hi] at e
   simp at e
   exact e.symm
  subst ed
  have g:=Go.data rl (u:=.tup [.int (i:Nat),w]) hTn
  exact⟨_,g,.tup (SqT.of upd_same) (.cons (.int _) (.cons ((h4.mono ex).mono g.ex) .nil))⟩
def zGP(t:DE):DI:=fun g O R=>t g O fun x O1=>match x with
 |.lst xs=>R (enD xs) Tr O1
 |.tup xs=>R (enD xs) Tr O1
 |.ref a=>match O1 a with|some (.lst xs)=>R (enD xs) (fun O=>O a=some (.lst xs)) O1|_=>False
 |_=>False
theorem zT3{e:Expr}{te:DE}{p pos tpos:Pos}{elts:List Expr}{kk:Nat}(hm:X.mg "enumerate"=none)(he:PE X e (zAs X.K te))(hg:Gl X "enumerate":=by rfl)(hs:starEach [e] X.env=[(false,eval e X.env)]:=by rfl):PI X (.Tuple elts kk tpos) (.Call (.Name "enumerate" p) [e] [] pos) (zNj X.K (zGP te)):=
 PI.by (zQX hg hm (pa_cons he pa_nil hs) hs) fun s H R ⟨G,O,g,R',rl,gr,h,k⟩=>⟨G,O,g,_,rl,gr,h,fun x O1 v G1 H1 go1 vr1 q1=>by
  cases vr1 with
  |lst h1 h2=>exact⟨_,_,rfl,.inl ⟨Evl.ex_l go1.rel.g h1,k _ _ _ _ _ _ go1 (ItR.enum (a:=_) fun G2 O2 H2 ex rl2 _=>⟨_,Evl.ex_l rl2.g (Evl.ex_l ex h1),h2.mono ex⟩) q1⟩⟩
  |tup h1 h2=>exact⟨_,_,rfl,.inr ⟨Evl.ex_t go1.rel.g h1,k _ _ _ _ _ _ go1 (ItR.enumT h1 h2) q1⟩⟩
  |ref a=>
   have q1:(match O1 a with|some (.lst xs)=>R' (enD xs) (fun O=>O a=some (.lst xs)) O1|_=>False):=q1
   cases e:O1 a with
   |none=>simp only[e] at q1
   |some o=>
    cases o with
    |lst xs=>
     simp only[e] at q1
     obtain⟨vs,h1,h2⟩:=go1.rel.lst e
     exact⟨a,vs,rfl,.inl ⟨SqL.of h1,k _ _ _ _ _ _ go1 (ItR.enum (a:=a) fun G2 O2 H2 ex rl2 eo=>by
      obtain⟨vs,h1,h2⟩:=rl2.lst eo
      exact⟨vs,SqL.of h1,h2⟩) q1⟩⟩
    |_=>simp only[e] at q1
  |_=>exact False.elim q1⟩
end
end DL
namespace DL
open PySem PySem.Spec PyProof.Rows L2
open Evl (Ex)
def zJ2(td ty:DE):DE:=fun g O R=>td g O fun x O1=>(zBX O1 x).isSome=true∧ty g O1 fun y O2=>match zBX O2 x with|some es=>(match DL.keyOf y with|some k=>R ((valD es k).getD .non) O2|none=>False)|none=>False
def zFa(td ty tx:DE):DE:=fun g O R=>td g O fun x O1=>(zBX O1 x).isSome=true∧ty g O1 fun y O2=>tx g O2 fun z O3=>match zBX O3 x with|some es=>(match DL.keyOf y with|some k=>R ((valD es k).getD z) O3|none=>False)|none=>False
def zFM(td ty tx:DE):DE:=fun g O R=>td g O fun x O1=>(zM8 O1 x).isSome=true∧ty g O1 fun y O2=>tx g O2 fun z O3=>match zM8 O3 x with|some es=>(match zAJ y with|some k=>R ((valD es k).getD z) O3|none=>False)|none=>False
section
variable {X:Cx}{K:PySem.W.Frag}{a b c:Expr}{ta tb tc:DE}{pos:Pos}
theorem zUl{G:Hp}{O:Om}{H:Hp}{v:V}{x:D}(rl:Rel K G O H)(hv:VR K G v x)(h:(zBX O x).isSome=true):∃a,v=.ref a∧IsD H a:=by
 cases e:zBX O x with
 |none=>rw[e] at h;cases h
 |some es=>
  obtain⟨a,kvs,rfl,h1,h2⟩:=rl.dct hv e
  exact⟨a,rfl,.inl ⟨kvs,h1⟩⟩
theorem zON{k:Nat}{apos:Pos}(hr:Room k X.A)(ha:PE X a (zAs X.K ta))(hb:PE X b (zAs X.K tb))(hc:PE X c (zAs X.K tc))(m:M2 X a "get" apos b c pos:=by exact⟨rfl,rfl,rfl,rfl⟩):PE X (.Call (.Attribute a "get" apos) [b,c] [] pos) (zAs X.K (zFa ta tb tc)):=
 PE.by (pe_dget2 (by have:=hr.un;omega) ha hb hc m) fun s H Q ⟨G,O,g,R,rl,gr,h,k⟩=>
  ⟨G,O,g,_,rl,gr,h,fun x O1 v G1 H1 go1 vr1 q1=>by
   obtain⟨a,rfl,hd⟩:=zUl go1.rel vr1 q1.1
   refine⟨a,rfl,hd,G1,O1,g,_,go1.rel,gr.mono go1.ex,q1.2,fun y O2 u G2 H2 go2 vr2 q2=>⟨G2,O2,g,_,go2.rel,(gr.mono go1.ex).mono go2.ex,q2,fun z O3 w3 G3 H3 go3 vr3 q3=>?_⟩⟩
   have q3:(match zBX O3 x with|some es=>(match DL.keyOf y with|some k=>R ((valD es k).getD z) O3|none=>False)|none=>False):=q3
   cases e:zBX O3 x with
   |none=>simp only[e] at q3
   |some es=>
    simp only[e] at q3
    obtain⟨a',kvs,ea,h1,h2⟩:=go3.rel.dct ((vr1.mono go2.ex).mono go3.ex) e
    cases ea
    cases ek:DL.keyOf y with
    |none=>simp only[ek] at q3
    |some kk=>
     simp only[ek] at q3
     have g13:=(go1.trans rl go2).trans rl go3
     refine⟨valV kvs kk,.inl ⟨kvs,kk,h1,zCn vr2 ek,rfl⟩,?_⟩
     rcases h2.val kk with⟨z0,zz⟩|⟨w,d,z1,z2,z3⟩
     ·rw[z0];rw[zz] at q3;exact k _ _ _ _ _ g13 vr3 q3
     ·rw[z1];rw[z2] at q3;exact k _ _ _ _ _ g13 z3 q3⟩
end
section
variable {X:Cx}{K:PySem.W.Frag}{a b c:Expr}{ta tb tc:DE}{pos:Pos}{td ty tx:TE}{o e f:Expr}{apos cpos:Pos}
def zFN(tk tv:DE):DE:=fun g O R=>∀p,O p=none→tk g (up O p (.dK [])) fun x O1=>tv g O1 fun y O2=>O2 p=some (.dK [])∧match DL.keyOf x with|some k=>R (.ref p) (up O2 p (.dK [(k,y)]))|none=>False
def zSw:D2:=fun x y O R=>match x,y with
 |.ref a,.int n=>(match O a with|some (.lst xs)=>(-(2 ^ 63)≤n∧n<2 ^ 63∧xs.length*n.toNat≤sizeLine)∧∀p,O p=none→R (.ref p) (up O p (.lst (List.replicate n.toNat xs).flatten))|_=>False)
 |_,_=>False
theorem VRs.rep{K:PySem.W.Frag}{G:Hp}{vs:List V}{xs:List D}(h:VRs K G vs xs):∀n:Nat,VRs K G (List.replicate n vs).flatten (List.replicate n xs).flatten
 |0=>.nil
 |n+1=>by
  rw[List.replicate_succ,List.replicate_succ,kE,kE]
  exact h.append (VRs.rep h n)
def zSB:DC:=fun xs O R=>match xs with|[.int i]=>R (.int i) O|[.bl k]=>R (.int (if k=true then 1 else 0)) O|_=>False
def zJ6(t:DE):DE:=fun g O R=>t g O fun x O1=>match x with|.int i=>R (.int (Builtin.Int.intBits i:Nat)) O1|_=>False
def zDI:DM:=fun x vs O R=>match x,vs with|.ref a,[.ref b]=>(match O a,O b with|some (.lst xs),some (.lst ys)=>xs.length+ys.length≤sizeLine∧R .non (up O a (.lst (xs++ys)))|_,_=>False)|_,_=>False
def zCJ:DM:=fun x vs O R=>match x,vs with|.ref a,[]=>(match O a with|some (.lst xs)=>R .non (up O a (.lst xs.reverse))|_=>False)|_,_=>False
end
end DL
namespace DL
open PySem PySem.Spec PyProof.Rows L2
open Evl (Ex)
def zFJ(t tk:DA):DE:=fun g O R=>t g O fun xs O1=>tk g O1 fun zs O2=>match xs,zs with|[x],[d]=>(match lstOf O2 x with|some ys=>(match zBv ys with|some ns=>if ns=[] then R d O2 else R (.int (mxI ns)) O2|none=>False)|none=>False)|_,_=>False
end DL
namespace DL
open PySem PySem.Spec PyProof.Rows L2
open Evl (Ex)
def zWk(K:PySem.W.Frag):R2:=fun x y H Q=>∃l b xs zs,x=.ref l∧y=.ref b∧SqL K H l xs∧SqL K H b zs∧xs.length+zs.length≤sizeLine∧∀p,H p=none→Q (.ref p) (upd H p (.lst (xs++zs)))
theorem zTw{X:Cx}:OpR X (binaryOp .Add) (zWk X.K):=by
 intro pins s σ H x y v u Q I rx ry h
 obtain⟨l,b,xs,zs,rfl,rfl,hH,hB,hz,q⟩:=h
 cases rx
 cases ry
 obtain⟨its,r,p,_⟩:=I.list hH
 obtain⟨its2,r2,p2,_⟩:=I.list hB
 obtain⟨⟨cls,dd,data,sl⟩,n,ho,hc,hdd,hd⟩:=p
 obtain⟨⟨cls2,dd2,data2,sl2⟩,n2,ho2,hc2,hdd2,hd2⟩:=p2
 simp only at hc hd hdd hc2 hd2 hdd2
 subst hc hd hc2 hd2
 have l1:=r.length
 have l2:=r2.length
 refine concat_meets ⟨_,ho,rfl⟩ ⟨_,ho2,rfl⟩ noFill_list_add seq_list_add PySem.F.slot_list_add PySem.F.entry_list_add (PySem.F.args_list_add_2 _ _) (list_addW l b its.toArray its2.toArray n n2 dd dd2 sl sl2 (by simp;omega)) ⟨ho,ho2,?_⟩
 have ea:its.toArray++its2.toArray=(its++its2).toArray:=by simp
 rw[ea]
 exact⟨.ref _,_,I.lnew (t':=s.toks) (r.append r2) (by rw[qL];omega),rfl,q _ I.fresh⟩
def zSE:D2:=fun x y O R=>match lstOf O x,lstOf O y with|some xs,some ys=>xs.length+ys.length≤sizeLine∧∀p,O p=none→R (.ref p) (up O p (.lst (xs++ys)))|_,_=>False
def zCA:D2:=fun x y O R=>match lstOf O x,lstOf O y with|some xs,some ys=>xs.length+ys.length≤sizeLine∧R (.lst (xs++ys)) O|_,_=>False
section
variable {X:Cx}{K:PySem.W.Frag}{a b c:Expr}{ta tb tc:DE}{pos:Pos}
theorem zZv:OpS K (zWk K) zCA:=fun {G O H x y v u R Q} rl hx hy h k=>by
 unfold zCA at h
 cases e1:lstOf O x with
 |none=>simp only[e1] at h
 |some xs=>
  cases e2:lstOf O y with
  |none=>simp only[e1,e2] at h
  |some ys=>
   simp only[e1,e2] at h
   obtain⟨p,vs,rfl,hq,hv⟩:=rl.lstOf hx e1
   obtain⟨p2,ws,rfl,hq2,hv2⟩:=rl.lstOf hy e2
   exact⟨p,p2,vs,ws,rfl,rfl,hq,hq2,by rw[hv.length,hv2.length];exact h.1,k.lstF rl (hv.append hv2) h.2⟩
theorem zDA(ha:PE X a (zAs X.K ta))(hb:PE X b (zAs X.K tb)):PE X (.BinOp a .Add b pos) (zAs X.K (dOp zCA ta tb)):=zSo zTw zZv ha hb
end
def zJ3:DM:=fun x vs O R=>match x,vs with|.ref a,[y]=>(match O a,lstOf O y with|some (.lst xs),some ys=>xs.length+ys.length≤sizeLine∧R .non (up O a (.lst (xs++ys)))|_,_=>False)|_,_=>False
end DL
namespace DL
open PySem PySem.Spec PyProof.Rows L2
open Evl (Ex)
def zO2(u:DG)(tt:DT)(tA:DA)(tv:DE)(ok:Om→Prop)(g:Gm)(R:List (List Key×D)→Om→Prop):List D→List (List Key×D)→Om→Prop
 |[],acc,O=>ok O∧R acc O
 |x::xs,acc,O=>ok O∧u x g O fun g1 O1=>tt g1 O1 fun b O2=>if b=true then tA g1 O2 fun ks O3=>tv g1 O3 fun y O4=>(∃k,zCG ks=some k∧acc.length<sizeLine∧zO2 u tt tA tv ok g R xs (zKp acc k y) O4) else zO2 u tt tA tv ok g R xs acc O2
def zSD(it:DI)(u:DG)(tt:DT)(tA:DA)(tv:DE)(vs:List Nat):DE:=fun g O R=>it g O fun xs ok O1=>zO2 u tt tA tv ok (zCM g vs) (fun es O2=>∀p,O2 p=none→R (.ref p) (up O2 p (.dT es))) xs [] O1
def zUM(xs ys:List D):List D:=(xs.zip ys).map fun p=>D.tup [p.1,p.2]
section
variable {X:Cx}{K:PySem.W.Frag}{G:Hp}
theorem zLl{xs ys:List D}{i:Nat}{d:D}(h:(zUM xs ys)[i]?=some d):∃x y,xs[i]?=some x∧ys[i]?=some y∧d=.tup [x,y]:=by
 unfold zUM at h
 rw[qF] at h
 cases e:(xs.zip ys)[i]? with
 |none=>rw[e] at h;cases h
 |some p=>
  rw[e] at h
  cases h
  have:=List.getElem?_zip_eq_some.mp e
  exact⟨p.1,p.2,this.1,this.2,rfl⟩
theorem ItR.zip{a b:Addr}{xs ys:List D}{ok:Om→Prop}(h:∀G1 O H,Ex G G1→Rel K G1 O H→ok O→∃vs us,SqL K H a vs∧SqL K H b us∧VRs K G1 vs xs∧VRs K G1 us ys):ItR K (Itz K a b) G (zUM xs ys) ok where
 stop:=fun G1 O H ex rl eo=>by
  obtain⟨vs,us,h1,h2,h3,h4⟩:=h G1 O H ex rl eo
  refine⟨vs,us,h1,h2,?_⟩
  have:(zUM xs ys).length=min xs.length ys.length:=by unfold zUM;simp
  rw[this,h3.length,h4.length]
  omega
 go:=fun i d G1 O H e ex rl eo=>by
  obtain⟨vs,us,h1,h2,h3,h4⟩:=h G1 O H ex rl eo
  obtain⟨x,y,ex,ey,_⟩:=zLl e
  obtain⟨v,hv,_⟩:=h3.get ex
  obtain⟨u,hu,_⟩:=h4.get ey
  exact⟨vs,us,v,u,h1,h2,hv,hu⟩
 yld:=fun i d G1 O H x' H' e ex rl eo y'=>by
  obtain⟨T,v',u',rfl,hT,rfl,hv',hu'⟩:=y'
  obtain⟨vs,us,h1,h2,h3,h4⟩:=h G1 O H ex rl eo
  obtain⟨x,y,ex,ey,rfl⟩:=zLl e
  obtain⟨v,hv,qv⟩:=h3.get ex
  obtain⟨u,hu,qu⟩:=h4.get ey
  have e1:=hv' vs h1
  rw[hv] at e1;cases e1
  have e2:=hu' us h2
  rw[hu] at e2;cases e2
  have g:=Go.data rl (u:=.tup [v',u']) hT
  exact⟨_,g,.tup (SqT.of upd_same) (.cons (qv.mono g.ex) (.cons (qu.mono g.ex) .nil))⟩
def zZa(t:DA):DI:=fun g O R=>t g O fun zs O1=>match zs with
 |[x,y]=>(match lstOf O1 x,lstOf O1 y with|some xs,some ys=>R (zUM xs ys) (fun O=>lstOf O x=some xs∧lstOf O y=some ys) O1|_,_=>False)
 |_=>False
end
end DL
namespace DL
open PySem L2
open Evl (Ex)
end DL
namespace DL
open PySem PySem.Spec PyProof.Rows L2
open Evl (Ex)
end DL
namespace DL
open PySem PySem.Spec PyProof.Rows L2
open Evl (Ex)
def zFu(K:PySem.W.Frag)(W:WX)(t:XD→DE):TE:=fun s H Q=>∃(G:Hp) (O:Om) (g:Gm) (R:D→Om→Prop) (Z:XD),Rel K G O H∧GR K G s g∧t Z g O R∧
 (∀x O' v G' H',Go K G O H G' O' H'→VR K G' v x→R x O'→Q v H')∧∀c e O' G' H',Go K G O H G' O' H'→Z c e O'→W c e s H'
def zBm(d:DSp)(srcs:List Src)(ds:List D)(t tk:DA):XD→DE:=fun Z g O R=>t g O fun xs O1=>tk g O1 fun ys O2=>d (pick xs ys ds srcs) O2 R Z
section
variable {X:Cx}{CX:CXT}{k:Nat}{f:Addr}{fd:FuncData}{ps ks:List Str}{sp:Sp}{dsp:DSp}{srcs:List Src}{dvs:List V}{ds:List D}{x:Str}{p pos kpos:Pos}{e:Expr}{es:List Expr}{kws:List Keyword}{te:DE}{t tk:DA}{n m:Nat}{W:WX}
theorem run_any{pins:List (Addr×Obj)}{σ:L2.St}{H:Hp}{s:Shared}{Q:VK}{us ws:List Value}{vs zs:List V}{E:XK}(F:FnOk X.prog X.w X.K X.mg X.base CX k f fd ps sp)(hr:Room k X.A)(hb:Bnd X.K fd ps n ks srcs dvs)(hx:PassesAt CX X σ E)
  (I:Inv X pins σ H s) (r:Vals vs us) (rz:Vals zs ws) (hn:vs.length=n) (hm:zs.length=ks.length) (h:sp (pick vs zs dvs srcs) H Q E):wpAny (model X.prog X.w) X.A (call (.ref f) us (ks.zip ws)) (EP X pins σ Q) X.xe s:=by
 obtain⟨ds,rd,hb⟩:=hb.to
 have r2:=zEE r rz rd srcs
 refine wpAny_call (codeAny_mono (F.run X.A X.stack s H ⟨us,ks.zip ws⟩ (pick us ws ds srcs) (pick vs zs dvs srcs) Q E hr I.env0 (hb s us ws I.kIn (by rw[←r.length];exact hn) (by rw[←rz.length];exact hm)) r2 h) fun r s' hq=>?_)
 cases r with
 |error e=>exact hx pins H s e s' I hq
 |ok fl=>
  cases fl with
  |ret u=>exact I.after hq
  |next=>exact False.elim hq
  |brk=>exact False.elim hq
  |cont=>exact False.elim hq
theorem zOj{K:PySem.W.Frag}(hd:∀G,VRs K G dvs ds):∀s H Q,zFu K W (zBm dsp srcs ds t tk) s H Q→zC8 K n t s H fun vs H1=>zC8 K m tk s H1 fun zs H2=>vs.length=n∧zs.length=m∧zCx K dsp (pick vs zs dvs srcs) H2 Q (WE W s):=fun s H Q ⟨G,O,g,R,Z,rl,gr,h,k,kz⟩=>
 ⟨G,O,g,_,rl,gr,h,fun xs O1 vs G1 H1 go1 vr1 hl1 q1=>⟨G1,O1,g,_,go1.rel,gr.mono go1.ex,q1,fun ys O2 zs G2 H2 go2 vr2 hl2 q2=>
  ⟨by rw[vr1.length,hl1],by rw[vr2.length,hl2],G2,O2,_,_,Z,go2.rel,zCm (vr1.mono go2.ex) vr2 (hd G2) srcs,q2,fun x O3 v G3 H3 go3 vr3 q3=>k _ _ _ _ _ ((go1.trans rl go2).trans rl go3) vr3 q3,fun c e O3 G3 H3 go3 z=>kz _ _ _ _ _ ((go1.trans rl go2).trans rl go3) z⟩⟩⟩
theorem zDB(F:FnOk X.prog X.w X.K X.mg X.base (L2.CX X.prog X.w) k f fd ps (zCx X.K dsp))(hr:Room k X.A)(tk':Takes X W)(hm:X.mg x=some (.ref f))(hk:PySem.W.keepIn X.K (.ref f)=true)(hb:Bnd X.K fd ps n ks srcs dvs)(hd:∀G,VRs X.K G dvs ds)
  (ha:PA X (e::es) (zC8 X.K n t)) (hkw:PK X kws (zC8 X.K m tk)) (hmk:m=ks.length:=by rfl) (hg:Gl X x:=by rfl) (hall:(backToKw pos (keywordEach kws X.env)).all (·.1.isSome)=true:=by rfl) (hks:(backToKw pos (keywordEach kws X.env)).filterMap (·.1)=ks:=by rfl)
  (hdb:(x==("__debug__":Str))=false:=by decide) (he:starEach (e::es) X.env=(false,eval e X.env)::starEach es X.env:=by rfl)
  (hpl:((backTo pos (starEach (e::es) X.env)).any (·.1)||(backToKw pos (keywordEach kws X.env)).any (·.1.isNone))=false:=by rfl):
  PE X (.Call (.Name x p) (e::es) kws pos) (zFu X.K W (zBm dsp srcs ds t tk)):=by
 refine⟨fun pins s σ H Q I h=>?_⟩
 refine wpAny_Call_Name_kw (ld_glob I hg hm ?_ hdb)
 refine PySem.W.callWith_KW (h₀:=X.base) I.ok.mod.kin hk hall (thn (ha.run pos pins s σ H _ I (zOj (m:=m) hd σ H Q h)) fun us s1 ⟨vs,H1,I1,r,q⟩=>?_) hpl he
 refine thn (hkw.run pos pins s1 σ H1 _ I1 q) fun ws s2 ⟨zs,H2,I2,rz,q2⟩=>⟨I2.kIn,?_⟩
 rw[hks]
 exact run_any F hr hb (passAt tk' σ) I2 r rz q2.1 (q2.2.1.trans hmk) q2.2.2
theorem zMh(F:FnOk X.prog X.w X.K X.mg X.base (L2.CX X.prog X.w) k f fd ps (zCx X.K dsp))(hr:Room k X.A)(tk':Takes X W)(hm:X.mg x=some (.ref f))(hk:PySem.W.keepIn X.K (.ref f)=true)(hb:Bnd X.K fd ps 0 ks srcs dvs)(hd:∀G,VRs X.K G dvs ds)
  (hkw:PK X kws (zC8 X.K m tk)) (hmk:m=ks.length:=by rfl) (hg:Gl X x:=by rfl) (hall:(backToKw pos (keywordEach kws X.env)).all (·.1.isSome)=true:=by rfl) (hks:(backToKw pos (keywordEach kws X.env)).filterMap (·.1)=ks:=by rfl)
  (hdb:(x==("__debug__":Str))=false:=by decide)
  (hpl:((backTo pos (starEach [] X.env)).any (·.1)||(backToKw pos (keywordEach kws X.env)).any (·.1.isNone))=false:=by rfl):
  PE X (.Call (.Name x p) [] kws pos) (zFu X.K W (zBm dsp srcs ds zAg tk)):=by
 refine⟨fun pins s σ H Q I h=>?_⟩
 refine wpAny_Call_Name_kw (ld_glob I hg hm ?_ hdb)
 obtain⟨G,O,g,R,Z,rl,gr,h,kk,kz⟩:=h
 have h2:zC8 X.K m tk σ H fun zs H2=>zs.length=m∧zCx X.K dsp (pick [] zs dvs srcs) H2 Q (WE W σ):=⟨G,O,g,_,rl,gr,h,fun ys O2 zs G2 H2 go2 vr2 hl2 q2=>
  ⟨by rw[vr2.length,hl2],G2,O2,_,_,Z,go2.rel,zCm .nil vr2 (hd G2) srcs,q2,fun x O3 v G3 H3 go3 vr3 q3=>kk _ _ _ _ _ (go2.trans rl go3) vr3 q3,fun c e O3 G3 H3 go3 z=>kz _ _ _ _ _ (go2.trans rl go3) z⟩⟩
 refine PySem.W.callWith_KW0 (h₀:=X.base) I.ok.mod.kin hk hall (thn (hkw.run pos pins s σ H _ I h2) fun ws s2 ⟨zs,H2,I2,rz,q2⟩=>⟨I2.kIn,?_⟩) hpl
 rw[hks]
 exact run_any (us:=[]) (vs:=[]) F hr hb (passAt tk' σ) I2 .nil rz rfl (q2.1.trans hmk) q2.2
theorem calm{P:Program}{w:World}{K:PySem.W.Frag}{mg:Str→Option Value}{base:Heap}(F:FnOk P w K mg base (L2.CX P w) k f fd ps (zCx K dsp)):FnOk P w K mg base CX0 k f fd ps (zCx K fun xs O R _=>dsp xs O R X0):=by
 have c:∀{vs H Q E},zCx K (fun xs O R _=>dsp xs O R X0) vs H Q E→zCx K dsp vs H Q (fun _ _ _=>False):=fun ⟨G,O,xs,R,Z,rl,vr,h,k,_⟩=>⟨G,O,xs,R,X0,rl,vr,h,k,fun _ _ _ _ _ _ z=>z⟩
 refine⟨fun vs H Q E h=>F.len _ _ _ _ (c h),fun A outer s H args us vs Q E hr he hb hv h=>codeAny_mono (F.run A outer s H args us vs Q _ hr he hb hv (c h)) fun r s' hq=>?_⟩
 cases r with
 |error e=>
  obtain⟨_,_,_,_,_,_,_,_,_,_,_,_,z⟩:=hq
  exact z.elim
 |ok fl=>cases fl<;>exact hq
end
def zRy(tt:DT)(ta tb:XD→DE):XD→DE:=fun Z g O R=>tt g O fun c O1=>if c=true then ta Z g O1 R else tb Z g O1 R
def zID(t:XD→DE):DS:=fun F g O=>t (fun c d O1=>F.xc c d g O1) g O F.rt
def zCz(i:Nat)(t:XD→DE):DS:=fun F g O=>t (fun c d O1=>F.xc c d g O1) g O fun x O1=>F.nx (g.set i (some x)) O1
section
variable {X:Cx}{W:WX}{a b c:Expr}{ta:DE}{tt:DT}{tx ty:XD→DE}{pos:Pos}
theorem yBr(hc:PT X c (zEh X.K tt))(ha:PE X a (zFu X.K W tx))(hb:PE X b (zFu X.K W ty)):PE X (.IfExp c a b pos) (zFu X.K W (zRy tt tx ty)):=PE.by (pe_ifExp hc ha hb) fun s H Q ⟨G,O,g,R,Z,rl,gr,h,k,kz⟩=>
 ⟨G,O,g,_,rl,gr,h,fun x O1 G1 H1 go1 q1=>by
  cases x with
  |true=>rw[qe rfl];exact⟨G1,O1,g,R,Z,go1.rel,gr.mono go1.ex,q1,fun x O2 v G2 H2 go2 vr q2=>k _ _ _ _ _ (go1.trans rl go2) vr q2,fun c e O2 G2 H2 go2 z=>kz _ _ _ _ _ (go1.trans rl go2) z⟩
  |false=>rw[qb qP];exact⟨G1,O1,g,R,Z,go1.rel,gr.mono go1.ex,q1,fun x O2 v G2 H2 go2 vr q2=>k _ _ _ _ _ (go1.trans rl go2) vr q2,fun c e O2 G2 H2 go2 z=>kz _ _ _ _ _ (go1.trans rl go2) z⟩⟩
theorem zNV(he:PE X a (zFu X.K W tx)):PS X (.Return (some a) pos) (zCl X.K W (zID tx)):=PS.by (ps_ret he) fun E s H ⟨G,O,g,F,rl,gr,h,k⟩=>
 ⟨G,O,g,_,_,rl,gr,h,fun x O1 v G1 H1 go1 vr1 q1=>k.rt _ _ _ _ _ go1 vr1 q1,fun c e O1 G1 H1 go1 z=>k.xc _ _ _ _ _ _ _ go1 (gr.mono go1.ex) z⟩
end
def FinX(Z:XD)(c:Value)(d:Option Addr)(O:Om):Prop:=∃O',(∀a o,O' a=some o→O a=some o)∧Z c d O'
def zAC(R:D→Om→Prop)(Z:XD):DEnds:={nx:=fun _ O=>Fin R .non O,rt:=Fin R,xc:=fun c d _ O=>FinX Z c d O}
section
variable {P:Program}{w:World}{K:PySem.W.Frag}{mg:Str→Option Value}{base:Heap}
theorem zBc{x qual:Str}{params:Arguments}{body:List Stmt}{scope:Scope}{dvs:List V}{kws:List (Str×V)}{f:Addr}{fd:FuncData}{N ps:List Str}{k:Nat}{dsp:DSp}{t:DS}(F:FunD K x qual params body scope dvs kws f fd)(S:FnScope N ps scope)
  (len:∀xs O R Z,dsp xs O R Z→xs.length=ps.length)
  (hb:∀(cdv:Value) (A:Around) (outer:List Env) (s:Shared) (H:Hp) (E:XK),Room k (A.deeper (envOfC qual scope s.heap.objs.size f cdv))→PSs (cxOf (L2.CX P w) P w K mg base N qual scope f cdv A outer s H E) body (zCl K (fun c d _ H=>E c d H) t))
  (hd:∀xs O R Z,dsp xs O R Z→t (zAC R Z) (zAr N xs) O):FnOk P w K mg base (L2.CX P w) (k+1) f fd ps (zCx K dsp):=by
 refine FunD.ok F S (fun vs H Q E h=>?_) (fun cdv A outer s H vs Q E hr h=>⟨zCl K (fun c d _ H=>E c d H) t,hb cdv A outer s H E hr,?_⟩)
 ·obtain⟨G,O,xs,R,Z,rl,vr,hs,_⟩:=h
  rw[vr.length]
  exact len _ _ _ _ hs
 ·obtain⟨G,O,xs,R,Z,rl,vr,hs,k,kz⟩:=h
  refine⟨G,O,zAr N xs,zAC R Z,rl,GR.start vr,hd _ _ _ _ hs,⟨fun s' g' O' G' H' go gr q=>?_,fun _ _ _ _ _ _ _ q=>q,fun _ _ _ _ _ _ _ q=>q,fun x O' v G' H' go vr q=>?_,fun c d s' g' O' G' H' go gr q=>?_⟩⟩
  ·obtain⟨O2,h1,h2⟩:=q
   exact k _ _ _ _ _ (go.less h1) .non h2
  ·obtain⟨O2,h1,h2⟩:=q
   exact k _ _ _ _ _ (go.less h1) vr h2
  ·obtain⟨O2,h1,h2⟩:=q
   exact kz _ _ _ _ _ (go.less h1) h2
end
theorem PR.look{K:PySem.W.Frag}{G:Hp}{f:Str}{v:D}:∀{us:List (Str×V)}{fs:List (Str×D)},PR K G us fs→fs.lookup f=some v→∃u,us.lookup f=some u∧VR K G u v
 |_,[],_,e=>by cases e
 |[],_::_,h,_=>by cases h
 |(n,u)::us,(n',y)::fs,h,e=>by
  cases h with
  |cons h1 h2=>
   obtain⟨h1,h3⟩:=h1
   dsimp only at h1 h3
   subst h1
   by_cases hf:f=n
   ·subst hf
    simp only[List.lookup,kc] at e⊢
    cases e
    exact⟨u,rfl,h3⟩
   ·have eb:(f==n)=false:=by simpa using hf
    simp only[List.lookup,eb] at e⊢
    exact PR.look h2 e
theorem Rel.xd{K:PySem.W.Frag}{G:Hp}{O:Om}{H:Hp}(r:Rel K G O H){a:Addr}{fs:List (Str×D)}(h:O a=some (.xd fs)):∃us,H a=some (.xd us)∧PR K G us fs:=by
 obtain⟨_,u,hu,q⟩:=r.o a _ h
 cases u<;>first|exact q.elim|exact⟨_,hu,q⟩
end DL
namespace DL
open PySem PySem.Spec PyProof.Rows L2
open Evl (Ex)
def zHl(K:PySem.W.Frag):Sp:=fun vs H Q E=>∃(a C:Addr) (y:V),vs=[.ref a,y]∧OexC K C∧PySem.W.findIn K (.ref C) "says"=some none∧H a=some (exo a C none)∧
 ∀dx,H dx=none→dx≠a→Q .non (upd (upd H dx (exd dx [("says",y)])) a (exo a C (some dx)))
def zCW(K:PySem.W.Frag)(m:Str):Sp:=fun vs H Q E=>∃(a C:Addr),vs=[.ref a]∧OexC K C∧PySem.W.findIn K (.ref C) "says"=some none∧H a=some (exo a C none)∧
 ∀dx,H dx=none→dx≠a→Q .non (upd (upd H dx (exd dx [("says",.str m)])) a (exo a C (some dx)))
structure CiC(K:PySem.W.Frag)(mg:Str→Option Value)(x:Str)(B fB:Addr):Prop where
 gB:mg x=some (.ref B)
 ga:PySem.W.specialIn K (.ref B) "__getattribute__"=some (some (.builtin "type.__getattribute__"))
 tB:PySem.W.typeIn K (.ref B)=some (.type "type")
 rB:PySem.W.readsIn K B (.type "type")=true
 fi:PySem.W.findCls K (.ref B) (.type "type") "__init__"=some (.val (.ref fB))
 kB:PySem.W.keepIn K (.ref fB)=true
section
variable {X:Cx}{CX:CXT}{k:Nat}{B fB C fI:Addr}{fd:FuncData}{ps:List Str}{sp:Sp}{srcs:List Src}{dvs:List V}{x:Str}{p p1 p2 pos:Pos}{e:Expr}{es:List Expr}{ta:TA}{n:Nat}{W:WX}
def zLp(sp:Sp)(n:Nat)(srcs:List Src)(dvs:List V)(ta:TA):TE:=fun σ H Q=>ta σ H fun vs H1=>vs.length=n∧sp (pick vs [] dvs srcs) H1 Q E0
theorem zA3{pl:Sem Bool}(T:CiC X.K X.mg x B fB)(F:FnOk X.prog X.w X.K X.mg X.base CX0 k fB fd ps sp)(hr:Room k X.A)(hb:Bnd X.K fd ps n [] srcs dvs)(ha:PA X (e::es) ta)(hg:Gl X x:=by rfl)
  (hc:eval (.Call (.Attribute (.Name x p1) "__init__" p2) (e::es) [] pos) X.env=(do
   let ov ←eval (.Name x p1) X.env
   standAt p2.atName
   let (f,first) ←holding [ov] (getMethod ov "__init__" pl)
   callWith pos f first (backTo pos (starEach (e::es) X.env)) (backToKw pos (keywordEach [] X.env))):=by rfl)
  (hdb:(x==("__debug__":Str))=false:=by decide) (he:starEach (e::es) X.env=(false,eval e X.env)::starEach es X.env:=by rfl) (hpl:(backTo pos (starEach es X.env)).any (·.1)=false:=by rfl):
  PE X (.Call (.Attribute (.Name x p1) "__init__" p2) (e::es) [] pos) (zLp sp n srcs dvs ta):=by
 refine⟨fun pins s σ H Q I h=>?_⟩
 refine PySem.W.methodCall_KW (ld_glob I hg T.gB ?_ hdb) hc
 obtain⟨m,fr⟩:=I.fr
 refine PySem.W.method_of_cls fr I.ok.mod.kin T.ga (PySem.W.cls_val fr I.ok.mod.kin T.tB T.rB T.fi rfl ?_)
 show wpAny _ _ (callWith pos (.ref fB) [] (backTo pos (starEach (e::es) X.env)) []) _ _ _
 refine jR (h₀:=X.base) I.ok.mod.kin T.kB (thn (ha.run pos pins _ σ H _ (I.tok _) h) fun us s1 ⟨vs,H1,I1,r,hl,q⟩=>⟨I1.kIn,?_⟩) he hpl
 exact run_any (ks:=[]) (zs:=[]) (ws:=[]) F hr hb (fun _ _ _ _ _ _ z=>z.elim) I1 r .nil hl rfl q
def yBx(C:Addr)(sp:Sp):L2.St→Hp→XK→Prop:=fun σ H1 Q=>∀a,H1 a=none→sp [.ref a] (upd H1 a (exo a C none))
 (fun v H2=>v=.non∧∃(d:Addr) (fs:List (Str×V)),H2 a=some (exo a C (some d))∧H2 d=some (exd d fs)∧H1 d=none∧Q (.ref C) (some d) (upd (L2.del H2 a) d (.xd fs))) (fun _ _ _=>False)
theorem yBI(T:OexC X.K C)(iC:PySem.W.findIn X.K (.ref C) "__init__"=some (some (.ref fI)))(tI:PySem.W.typeIn X.K (.ref fI)=some (.type "function"))
  (F1:FnOk X.prog X.w X.K X.mg X.base CX0 k fI fd ["self"] sp) (hr:Room (k+1) X.A) (hb:Bnd X.K fd ["self"] 1 [] [.p 0] []) (hm:X.mg x=some (.ref C)) (hg:Gl X x:=by rfl)
  (hdb:(x==("__debug__":Str))=false:=by decide):
  PMk X (.Call (.Name x p) [] [] pos) (yBx C sp):=by
 intro pins s σ H Q I h
 obtain⟨nm,q,N,bs,bm,sn,sub,ab,col,dd,k0,k1,k2,k3,k5,hC,hbm⟩:=T.cls
 refine wpAny_Call_Name_kw (ld_glob I hg hm ?_ hdb)
 refine PySem.W.callWith_K0 I.kIn T.kC ?_
 show wpAny _ _ (call (.ref C) []) _ _ _
 obtain⟨hp,g,dr,tk,os⟩:=s
 have hsz:hp.objs.size≤hp.objs.size+1:=Nat.le_succ _
 have hn:H (hp.objs.size+1)=none:=I.hok.fresh hsz
 have hq:=h (hp.objs.size+1) hn
 have kk:∀b o,hp.get? b=some o→((hp.push (PySem.W.kdv_tup [])).push (PySem.HandSPX.excO C hp.objs.size)).get? b=some o:=fun b o e=>Heap.get?_push_of_some _ (Heap.get?_push_of_some _ e)
 have hget:((hp.push (PySem.W.kdv_tup [])).push (PySem.HandSPX.excO C hp.objs.size)).get? (hp.objs.size+1)=some (PySem.HandSPX.excO C hp.objs.size):=by heap_get
 have I2:Inv X pins σ (upd H (hp.objs.size+1) (exo (hp.objs.size+1) C none)) ⟨(hp.push (PySem.W.kdv_tup [])).push (PySem.HandSPX.excO C hp.objs.size),g,dr,tk,os⟩:=
  I.laid (t':=tk) (a:=hp.objs.size+1) (o:=exo (hp.objs.size+1) C none) (h':=(hp.push (PySem.W.kdv_tup [])).push (PySem.HandSPX.excO C hp.objs.size)) kk hsz (exo_ok hget)
 have r2:Vals [V.ref (hp.objs.size+1)] [Value.ref (hp.objs.size+1)]:=.cons rfl .nil
 obtain⟨ds,rd,hbt⟩:=hb.to
 refine wpAny_call (PySem.HandSPX.call_own F.excBase_ValueError (fun Y=>PySem.HandSPX.refsVE_contains Y bm hbm) (I.kIn _ _ hC) (PySem.W.looks_findIn I.kIn iC) (fun self=>PySem.W.bind_fn I.kIn self tI) (by rw[sizeLine_eq];exact qR _)
  (codeAny_mono (F1.run _ X.stack _ _ ⟨[Value.ref (hp.objs.size+1)],[]⟩ [Value.ref (hp.objs.size+1)] _ _ (fun _ _ _=>False) (hr.make C [] []) (I2.env0.make C [] []) (hbt _ [Value.ref (hp.objs.size+1)] [] I2.kIn rfl rfl) r2 hq) fun r s' hq'=>?_))
 cases r with
 |error er=>exact hq'.elim
 |ok fl=>
  cases fl with
  |ret u=>
   obtain⟨v,H2,os2,bare2,un2,hok2,rv,ev,d,fs,ea,ed,hd1,q2⟩:=hq'
   subst ev
   obtain⟨h2,g2,d2,t2,os'⟩:=s'
   exact⟨rv,mk_end (raises_own T.exC T.tyC) I hsz kk un2 hok2 os2 bare2 ea ed hd1 q2⟩
  |next=>exact False.elim hq'
  |brk=>exact False.elim hq'
  |cont=>exact False.elim hq'
def zAK(C:Addr)(m:Str):DS:=fun F g O=>∀d,O d=none→F.xc (.ref C) (some d) g (up O d (.xd [("says",.str m)]))
theorem zBz{m:Str}{pos2:Pos}(hc:X.calm=true)(tk:Takes X W)(T:OexC X.K C)(hno:PySem.W.findIn X.K (.ref C) "says"=some none)(iC:PySem.W.findIn X.K (.ref C) "__init__"=some (some (.ref fI)))(tI:PySem.W.typeIn X.K (.ref fI)=some (.type "function"))
  (F1:FnOk X.prog X.w X.K X.mg X.base CX0 k fI fd ["self"] (zCW X.K m)) (hr:Room (k+1) X.A) (hb:Bnd X.K fd ["self"] 1 [] [.p 0] []) (hm:X.mg x=some (.ref C)) (hg:Gl X x:=by rfl) (hdb:(x==("__debug__":Str))=false:=by decide):
  PS X (.Raise (some (.Call (.Name x p) [] [] pos)) none pos2) (zCl X.K W (zAK C m)):=
 PS.by (ps_raise hc tk (yBI T iC tI F1 hr hb hm hg hdb)) fun E s H ⟨G,O,g,F,rl,gr,h,k⟩=>fun a ha=>by
  refine⟨a,C,rfl,T,hno,upd_same,fun dx hdx ne=>?_⟩
  have hd:H dx=none:=by rw[upd_ne ne] at hdx;exact hdx
  refine⟨rfl,dx,[("says",.str m)],upd_same,?_,hd,?_⟩
  ·rw[upd_ne ne,upd_same]
  ·have eH:upd (L2.del (upd (upd (upd H a (exo a C none)) dx (exd dx [("says",.str m)])) a (exo a C (some dx))) a) dx (.xd [("says",.str m)])=upd H dx (.xd [("says",.str m)]):=by
    funext b
    by_cases h1:b=dx
    ·subst h1;rw[upd_same,upd_same]
    ·rw[upd_ne h1,upd_ne h1]
     by_cases h2:b=a
     ·subst h2;rw[L2.del_same,ha]
     ·rw[L2.del_ne h2,upd_ne h2,upd_ne h1,upd_ne h2]
   rw[eH]
   exact k.xc _ _ _ _ _ _ _ (Go.new rl (o:=.xd [("says",.str m)]) hd (.cons ⟨rfl,.str m⟩ .nil)) gr (h dx (rl.fresh hd).1)
end
section
variable {P:Program}{w:World}{K:PySem.W.Frag}{mg:Str→Option Value}{base:Heap}
theorem zTy{x qual:Str}{params:Arguments}{scope:Scope}{dvs:List V}{kws:List (Str×V)}{f:Addr}{fd:FuncData}{q1 q2 q3 q4:Pos}(F:FunD K x qual params [.Assign [.Attribute (.Name "self" q1) "says" q2] (.Name "says" q3) q4] scope dvs kws f fd)(S:FnScope ["self","says"] ["self","says"] scope)
  (hv0:Vis scope "self") (hv1:Vis scope "says"):FnOk P w K mg base CX0 1 f fd ["self","says"] (zHl K):=by
 refine FunD.ok F S (fun vs H Q E h=>?_) (fun cdv A outer s H vs Q E hr h=>⟨_,(pss_one (ps_ost (pe_var (i:=0) rfl hv0 (by decide) (by decide)) (pe_var (i:=1) rfl hv1 (by decide) (by decide)) rfl)),?_⟩)
 ·obtain⟨a,C,y,rfl,_⟩:=h
  rfl
 ·obtain⟨a,C,y,rfl,T,hno,ha,k⟩:=h
  exact⟨y,rfl,.ref a,rfl,a,C,rfl,T,hno,.inl ⟨ha,fun dx h1 h2=>k dx h1 h2⟩⟩
theorem zCQ{x qual xB:Str}{params:Arguments}{scope:Scope}{dvs dvB:List V}{kws:List (Str×V)}{f B fB:Addr}{fd fdB:FuncData}{m:Str}{j:Nat}{q1 q2 q3 q4 q5 q6:Pos}
  (F:FunD K x qual params [.Expr (.Call (.Attribute (.Name xB q1) "__init__" q2) [.Name "self" q3,.Constant (.str m) j q4] [] q5) q6] scope dvs kws f fd) (S:FnScope ["self"] ["self"] scope)
  (hv0:Vis scope "self") (T:CiC K mg xB B fB) (FB:FnOk P w K mg base CX0 1 fB fdB ["self","says"] (zHl K)) (bB:Bnd K fdB ["self","says"] 2 [] [.p 0,.p 1] dvB)
  (hh:∀(cdv:Value) (A:Around) (outer:List Env) (s:Shared) (H:Hp) (E:XK),Room 1 (A.deeper (envOfC qual scope s.heap.objs.size f cdv))→PE (cxOf CX0 P w K mg base ["self"] qual scope f cdv A outer s H E) (.Call (.Attribute (.Name xB q1) "__init__" q2) [.Name "self" q3,.Constant (.str m) j q4] [] q5) (zLp (zHl K) 2 [.p 0,.p 1] dvB (tCons (tVar 0) (tCons (tC (.str m)) tNil))))
  (hs:∀(cdv:Value) (A:Around) (outer:List Env) (s:Shared) (H:Hp) (E:XK),swapsWith (.Call (.Attribute (.Name xB q1) "__init__" q2) [.Name "self" q3,.Constant (.str m) j q4] [] q5) none q6.line (cxOf CX0 P w K mg base ["self"] qual scope f cdv A outer s H E).env=pure false):FnOk P w K mg base CX0 2 f fd ["self"] (zCW K m):=by
 refine FunD.ok (k:=1) F S (fun vs H Q E h=>?_) (fun cdv A outer s H vs Q E hr h=>⟨_,(pss_one (ps_expr (hh cdv A outer s H E hr) (hs cdv A outer s H E))),?_⟩)
 ·obtain⟨a,C,rfl,_⟩:=h
  rfl
 ·obtain⟨a,C,rfl,T,hno,ha,k⟩:=h
  exact⟨.ref a,rfl,rfl,a,C,.str m,rfl,T,hno,ha,fun dx h1 h2=>k dx h1 h2⟩
end
end DL
namespace DL
open PySem PySem.Spec PyProof.Rows L2
open Evl (Ex)
section
variable {X:Cx}{W:WX}{e:Expr}{te:DE}{tx:XD→DE}
theorem zCV(h:PE X e (zAs X.K te)):PE X e (zFu X.K W (fun _=>te)):=PE.by h fun s H Q ⟨G,O,g,R,Z,rl,gr,h,k,_⟩=>⟨G,O,g,R,rl,gr,h,k⟩
theorem zFw(h:PE X e (zFu X.K W tx)):PE X e (zAs X.K (tx X0)):=PE.by h fun s H Q ⟨G,O,g,R,rl,gr,h,k⟩=>⟨G,O,g,R,X0,rl,gr,h,k,fun _ _ _ _ _ _ z=>z.elim⟩
theorem zDa{X:Cx}:Takes X W0:=fun _ _ z=>by
 obtain⟨_,_,_,_,_,_,_,_,_,_,_,_,_,_,_,_,z⟩:=z
 exact z.elim
end
def zDf(f:Str)(v:D):List (Str×D)→List (Str×D)
 |[]=>[(f,v)]
 |(g,x)::r=>if g=f then(g,v)::r else(g,x)::zDf f v r
theorem PR.putFd{K:PySem.W.Frag}{G:Hp}{f:Str}{u:V}{v:D}(h:VR K G u v):∀{us:List (Str×V)}{fs:List (Str×D)},PR K G us fs→PR K G (putF f u us) (zDf f v fs)
 |[],[],_=>.cons ⟨rfl,h⟩ .nil
 |[],_::_,q=>by cases q
 |_::_,[],q=>by cases q
 |(n,u')::us,(n',y)::fs,q=>by
  cases q with
  |cons h1 h2=>
   obtain⟨h1,h3⟩:=h1
   dsimp only at h1 h3
   subst h1
   show PR K G (if n=f then(n,u)::us else(n,u')::putF f u us) (if n=f then(n,v)::fs else(n,y)::zDf f v fs)
   by_cases hf:n=f
   ·rw[qe hf,qe hf]
    exact .cons ⟨rfl,h⟩ h2
   ·rw[qb hf,qb hf]
    exact .cons ⟨rfl,h3⟩ (PR.putFd h h2)
theorem PR.no{K:PySem.W.Frag}{G:Hp}{f:Str}:∀{us:List (Str×V)}{fs:List (Str×D)},PR K G us fs→fs.lookup f=none→us.lookup f=none
 |[],[],_,_=>rfl
 |[],_::_,q,_=>by cases q
 |_::_,[],q,_=>by cases q
 |(n,u')::us,(n',y)::fs,q,e=>by
  cases q with
  |cons h1 h2=>
   obtain⟨h1,h3⟩:=h1
   dsimp only at h1 h3
   subst h1
   by_cases hf:f=n
   ·subst hf
    simp only[List.lookup,kc] at e
    cases e
   ·have eb:(f==n)=false:=by simpa using hf
    simp only[List.lookup,eb] at e⊢
    exact PR.no h2 e
theorem Rel.ins{K:PySem.W.Frag}{G:Hp}{O:Om}{H:Hp}(r:Rel K G O H){a C dx:Addr}{fs:List (Str×D)}(h:O a=some (.ins C dx fs)):∃us,H a=some (.ins C dx us)∧PR K G us fs:=by
 obtain⟨_,u,hu,q⟩:=r.o a _ h
 cases u<;>first|exact q.elim|(obtain⟨rfl,rfl,q⟩:=q;exact⟨_,hu,q⟩)
def zAB(C:Addr)(f:Str)(te:DE):DE:=fun g O R=>te g O fun x O1=>∃(a dx:Addr) (fs:List (Str×D)) (v:D),x=.ref a∧O1 a=some (.ins C dx fs)∧fs.lookup f=some v∧R v O1
def zYb(C:Addr)(f:Str)(te:XD→DE):XD→DE:=fun Z=>zAB C f (te Z)
def zAQ(C:Addr)(f:Str)(to:DE)(tv:XD→DE):DS:=fun F g O=>tv (fun c d O1=>F.xc c d g O1) g O fun y O1=>to g O1 fun x O2=>∃(a dx:Addr) (fs:List (Str×D)),x=.ref a∧O2 a=some (.ins C dx fs)∧fs.length<1000∧F.nx g (up O2 a (.ins C dx (zDf f y fs)))
def zEO(C:Addr)(d:DSp)(srcs:List Src)(ds:List D)(t tk:DA):XD→DE:=fun Z g O R=>t g O fun xs O1=>tk g O1 fun ys O2=>∀x dx,O2 x=none→O2 dx=none→dx≠x→
 d (pick (.ref x::xs) ys ds srcs) (up (up O2 dx (.own x)) x (.ins C dx [])) (fun v O3=>v=.non∧R (.ref x) O3) Z
def zAu(C:Addr)(m:Str)(d:DSp)(srcs:List Src)(ds:List D)(to:XD→DE)(t tk:DA):XD→DE:=fun Z g O R=>to Z g O fun x O1=>∃(a dx:Addr) (fs:List (Str×D)),x=.ref a∧O1 a=some (.ins C dx fs)∧fs.lookup m=none∧
 t g O1 fun xs O2=>tk g O2 fun ys O3=>d (pick (.ref a::xs) ys ds srcs) O3 R Z
section
variable {X:Cx}{CX:CXT}{W:WX}{C f:Addr}{fd:FuncData}{ps ks:List Str}{sp:Sp}{dsp:DSp}{srcs:List Src}{dvs:List V}{ds:List D}{x m fl:Str}{p pos pos' apos:Pos}{e o:Expr}{es:List Expr}{kws:List Keyword}{te to:DE}{tx tv:XD→DE}{t tk:DA}{n k l:Nat}
theorem zZh(T:Cls X.K C)(hn:NoAttr X.K C fl)(he:PE X e (zFu X.K W tx))(hb:attributeBase e fl X.env (eval e X.env)=eval e X.env:=by rfl):PE X (.Attribute e fl pos) (zFu X.K W (zYb C fl tx)):=
 PE.by (pe_fld he hb) fun s H Q ⟨G,O,g,R,Z,rl,gr,h,k,kz⟩=>⟨G,O,g,_,Z,rl,gr,h,fun x O1 v G1 H1 go1 vr1 q1=>by
  obtain⟨a,dx,fs,w,rfl,ho,hl,q⟩:=q1
  obtain⟨us,hu,pr⟩:=go1.rel.ins ho
  obtain⟨u,hl2,vr⟩:=pr.look hl
  cases vr1
  exact⟨a,C,dx,us,u,rfl,hu,T,hn,hl2,k _ _ _ _ _ go1 vr q⟩,kz⟩
theorem zAA(T:Cls X.K C)(hn:NoAttr X.K C fl)(he:PE X e (zAs X.K te))(hb:attributeBase e fl X.env (eval e X.env)=eval e X.env:=by rfl):PE X (.Attribute e fl pos) (zAs X.K (zAB C fl te)):=
 zFw (W:=W0) (tx:=zYb C fl fun _=>te) (zZh T hn (zCV he) hb)
theorem zCi(T:Cls X.K C)(hn:NoAttr X.K C fl)(ho:PE X o (zAs X.K to))(hv:PE X e (zFu X.K W tv))(hs:swapsWith e (some (.Attribute o fl pos')) pos.line X.env=pure false:=by rfl):PS X (.Assign [.Attribute o fl pos'] e pos) (zCl X.K W (zAQ C fl to tv)):=
 PS.by (ps_fld ho hv hs) fun E s H ⟨G,O,g,F,rl,gr,h,k⟩=>⟨G,O,g,_,_,rl,gr,h,fun y O1 v G1 H1 go1 vr1 q1=>⟨G1,O1,g,_,go1.rel,gr.mono go1.ex,q1,fun x O2 u G2 H2 go2 vr2 q2=>by
  obtain⟨a,dx,fs,rfl,ho,hl,q⟩:=q2
  obtain⟨us,hu,pr⟩:=go2.rel.ins ho
  cases vr2
  have go:=go1.trans rl go2
  have gw:=Go.write go2.rel (a:=a) (o:=.ins C dx (zDf fl y fs)) (u:=.ins C dx (putF fl v us)) ho ⟨rfl,rfl,pr.putFd (vr1.mono go2.ex)⟩
  exact⟨a,C,dx,us,rfl,hu,T,hn,by rw[pr.len];exact hl,k.nx _ _ _ _ _ (go.trans rl gw) ((gr.mono go.ex).mono gw.ex) q⟩⟩,fun c d O1 G1 H1 go1 z=>k.xc _ _ _ _ _ _ _ go1 (gr.mono go1.ex) z⟩
theorem zN1{pins:List (Addr×Obj)}{σ:L2.St}{H:Hp}{s:Shared}{Q:VK}{us ws:List Value}{vs zs:List V}{E:XK}(M:Mk X.K C f)(F:FnOk X.prog X.w X.K X.mg X.base CX k f fd ps sp)(hr:Room (k+1) X.A)(hb:Bnd X.K fd ps (n+1) ks srcs dvs)(hx:PassesAt CX X σ E)
  (I:Inv X pins σ H s) (r:Vals vs us) (rz:Vals zs ws) (l1:vs.length=n) (l2:zs.length=ks.length)
  (h:∀x dx,H x=none→H dx=none→dx≠x→sp (pick (.ref x::vs) zs dvs srcs) (upd (upd H dx (.own x)) x (.ins C dx [])) (fun v H2=>v=.non∧Q (.ref x) H2) E):
  wpAny (model X.prog X.w) X.A (call (.ref C) us (ks.zip ws)) (EP X pins σ Q) X.xe s:=by
 have hq:=h (s.heap.objs.size+1) s.heap.objs.size (I.hok.fresh (Nat.le_succ _)) (I.hok.fresh (qG _)) (jQ (Nat.lt_succ_self _))
 have I2:=Inv.made (C:=C) I
 have r1:Vals (V.ref (s.heap.objs.size+1)::vs) (Value.ref (s.heap.objs.size+1)::us):=.cons rfl r
 obtain⟨ds,rd,hb⟩:=hb.to
 have r2:=zEE r1 rz rd srcs
 have n1:(Value.ref (s.heap.objs.size+1)::us).length=n+1:=by
  rw[qi,←r.length,l1]
 refine wpAny_call (make_map (f:=f) I.kIn M.makes M.init (beq_iff_eq.mp M.fn) (codeAny_mono (F.run _ X.stack _ _ ⟨Value.ref (s.heap.objs.size+1)::us,ks.zip ws⟩ (pick (Value.ref (s.heap.objs.size+1)::us) ws ds srcs) _ _ E (hr.make C us (ks.zip ws))
  (I2.env0.make C us (ks.zip ws)) (hb _ (Value.ref (s.heap.objs.size+1)::us) ws I2.kIn n1 (rz.length.symm.trans l2)) r2 hq) fun r s' hq'=>?_))
 cases r with
 |error e=>exact hx pins _ _ e s' I2 hq'
 |ok fl=>
  cases fl with
  |ret u=>
   obtain⟨v,H',I3,rv,ev,q3⟩:=I2.after hq'
   subst ev
   exact⟨rv,⟨V.ref (s.heap.objs.size+1),H',I3,rfl,q3⟩⟩
  |next=>exact False.elim hq'
  |brk=>exact False.elim hq'
  |cont=>exact False.elim hq'
theorem zTM{K:PySem.W.Frag}{G1:Hp}{O:Om}{H:Hp}{G2:Hp}{O2:Om}{H2:Hp}{R:D→Om→Prop}{Z:XD}{Q:VK}{s:L2.St}{vs zs:List V}{xs ys:List D}(rl:Rel K G1 O H)(go2:Go K G1 O H G2 O2 H2)(v1:VRs K G2 vs xs)(v2:VRs K G2 zs ys)(hd:∀G,VRs K G dvs ds)
  (q:∀x dx,O2 x=none→O2 dx=none→dx≠x→dsp (pick (.ref x::xs) ys ds srcs) (up (up O2 dx (.own x)) x (.ins C dx [])) (fun v O3=>v=.non∧R (.ref x) O3) Z)
  (k:∀x O' v G' H',Go K G1 O H G' O' H'→VR K G' v x→R x O'→Q v H') (kz:∀c e O' G' H',Go K G1 O H G' O' H'→Z c e O'→W c e s H'):
  ∀x dx,H2 x=none→H2 dx=none→dx≠x→zCx K dsp (pick (.ref x::vs) zs dvs srcs) (upd (upd H2 dx (.own x)) x (.ins C dx [])) (fun v H3=>v=.non∧Q (.ref x) H3) (WE W s):=fun x dx hx hdx ne=>by
 have g1:=Go.new go2.rel (a:=dx) (o:=.own x) (u:=.own x) hdx rfl
 have hx1:upd H2 dx (.own x) x=none:=by rw[upd_ne (ql ne)];exact hx
 have g2:=Go.new g1.rel (a:=x) (o:=.ins C dx []) (u:=.ins C dx []) hx1 ⟨rfl,rfl,.nil⟩
 have g12:=g1.trans go2.rel g2
 have gg:=go2.trans rl g12
 refine⟨_,_,_,_,Z,g2.rel,zCm (.cons (.ref x) (v1.mono g12.ex)) (v2.mono g12.ex) (hd _) srcs,q x dx (go2.rel.fresh hx).1 (go2.rel.fresh hdx).1 ne,fun y O3 v G3 H3 go3 vr3 q3=>?_,fun c e O3 G3 H3 go3 z=>kz _ _ _ _ _ (gg.trans rl go3) z⟩
 obtain⟨rfl,q3⟩:=q3
 cases vr3
 exact⟨rfl,k _ _ _ _ _ (gg.trans rl go3) (.ref x) q3⟩
theorem zU1(M:Mk X.K C f)(F:FnOk X.prog X.w X.K X.mg X.base (L2.CX X.prog X.w) k f fd ps (zCx X.K dsp))(hr:Room (k+1) X.A)(tk':Takes X W)(hm:X.mg x=some (.ref C))(hb:Bnd X.K fd ps (n+1) ks srcs dvs)(hd:∀G,VRs X.K G dvs ds)
  (ha:PA X (e::es) (zC8 X.K n t)) (hkw:PK X kws (zC8 X.K l tk)) (hmk:l=ks.length:=by rfl) (hg:Gl X x:=by rfl) (hall:(backToKw pos (keywordEach kws X.env)).all (·.1.isSome)=true:=by rfl) (hks:(backToKw pos (keywordEach kws X.env)).filterMap (·.1)=ks:=by rfl)
  (hdb:(x==("__debug__":Str))=false:=by decide) (he:starEach (e::es) X.env=(false,eval e X.env)::starEach es X.env:=by rfl)
  (hpl:((backTo pos (starEach (e::es) X.env)).any (·.1)||(backToKw pos (keywordEach kws X.env)).any (·.1.isNone))=false:=by rfl):
  PE X (.Call (.Name x p) (e::es) kws pos) (zFu X.K W (zEO C dsp srcs ds t tk)):=by
 refine⟨fun pins s σ H Q I h=>?_⟩
 refine wpAny_Call_Name_kw (ld_glob I hg hm ?_ hdb)
 obtain⟨G,O,g,R,Z,rl,gr,h,kk,kz⟩:=h
 have h2:zC8 X.K n t σ H fun vs H1=>zC8 X.K l tk σ H1 fun zs H2=>vs.length=n∧zs.length=l∧∀x dx,H2 x=none→H2 dx=none→dx≠x→zCx X.K dsp (pick (.ref x::vs) zs dvs srcs) (upd (upd H2 dx (.own x)) x (.ins C dx [])) (fun v H3=>v=.non∧Q (.ref x) H3) (WE W σ):=
  ⟨G,O,g,_,rl,gr,h,fun xs O1 vs G1 H1 go1 vr1 hl1 q1=>⟨G1,O1,g,_,go1.rel,gr.mono go1.ex,q1,fun ys O2 zs G2 H2 go2 vr2 hl2 q2=>⟨by rw[vr1.length,hl1],by rw[vr2.length,hl2],zTM rl (go1.trans rl go2) (vr1.mono go2.ex) vr2 hd q2 kk kz⟩⟩⟩
 refine PySem.W.callWith_KW (h₀:=X.base) I.ok.mod.kin M.kp hall (thn (ha.run pos pins s σ H _ I h2) fun us s1 ⟨vs,H1,I1,r,q⟩=>?_) hpl he
 refine thn (hkw.run pos pins s1 σ H1 _ I1 q) fun ws s2 ⟨zs,H2,I2,rz,q2⟩=>⟨I2.kIn,?_⟩
 rw[hks]
 exact zN1 M F hr hb (passAt tk' σ) I2 r rz q2.1 (q2.2.1.trans hmk) q2.2.2
theorem zNl(M:Mk X.K C f)(F:FnOk X.prog X.w X.K X.mg X.base (L2.CX X.prog X.w) k f fd ps (zCx X.K dsp))(hr:Room (k+1) X.A)(tk':Takes X W)(hm:X.mg x=some (.ref C))(hb:Bnd X.K fd ps 1 ks srcs dvs)(hd:∀G,VRs X.K G dvs ds)
  (hkw:PK X kws (zC8 X.K l tk)) (hmk:l=ks.length:=by rfl) (hg:Gl X x:=by rfl) (hall:(backToKw pos (keywordEach kws X.env)).all (·.1.isSome)=true:=by rfl) (hks:(backToKw pos (keywordEach kws X.env)).filterMap (·.1)=ks:=by rfl)
  (hdb:(x==("__debug__":Str))=false:=by decide)
  (hpl:((backTo pos (starEach [] X.env)).any (·.1)||(backToKw pos (keywordEach kws X.env)).any (·.1.isNone))=false:=by rfl):
  PE X (.Call (.Name x p) [] kws pos) (zFu X.K W (zEO C dsp srcs ds zAg tk)):=by
 refine⟨fun pins s σ H Q I h=>?_⟩
 refine wpAny_Call_Name_kw (ld_glob I hg hm ?_ hdb)
 obtain⟨G,O,g,R,Z,rl,gr,h,kk,kz⟩:=h
 have h2:zC8 X.K l tk σ H fun zs H2=>zs.length=l∧∀x dx,H2 x=none→H2 dx=none→dx≠x→zCx X.K dsp (pick [.ref x] zs dvs srcs) (upd (upd H2 dx (.own x)) x (.ins C dx [])) (fun v H3=>v=.non∧Q (.ref x) H3) (WE W σ):=
  ⟨G,O,g,_,rl,gr,h,fun ys O2 zs G2 H2 go2 vr2 hl2 q2=>⟨by rw[vr2.length,hl2],zTM (vs:=[]) (xs:=[]) rl go2 .nil vr2 hd q2 kk kz⟩⟩
 refine PySem.W.callWith_KW0 (h₀:=X.base) I.ok.mod.kin M.kp hall (thn (hkw.run pos pins s σ H _ I h2) fun ws s2 ⟨zs,H2,I2,rz,q2⟩=>⟨I2.kIn,?_⟩) hpl
 rw[hks]
 exact zN1 (us:=[]) (vs:=[]) M F hr hb (passAt tk' σ) I2 .nil rz rfl (q2.1.trans hmk) q2.2
theorem zKq{pl:Sem Bool}(he:PE X o (zFu X.K W tx))(c:Cls X.K C)(hm:Meth X.K C m f)(F:FnOk X.prog X.w X.K X.mg X.base (L2.CX X.prog X.w) k f fd ps (zCx X.K dsp))(hr:Room k X.A)(tk':Takes X W)(hb:Bnd X.K fd ps 1 [] srcs dvs)(hd:∀G,VRs X.K G dvs ds)
  (ht:eval (.Call (.Attribute o m apos) [] [] pos) X.env=(do
   let ov ←eval o X.env
   standAt apos.atName
   let (f,first) ←holding [ov] (getMethod ov m pl)
   callWith pos f first (backTo pos (starEach [] X.env)) (backToKw pos (keywordEach [] X.env))):=by rfl):
  PE X (.Call (.Attribute o m apos) [] [] pos) (zFu X.K W (zAu C m dsp srcs ds tx zAg zAg)):=by
 refine⟨fun pins s σ H Q I h=>?_⟩
 obtain⟨G,O,g,R,Z,rl,gr,h,kk,kz⟩:=h
 have h2:zFu X.K W tx σ H fun x H1=>∃a dx us,x=.ref a∧H1 a=some (.ins C dx us)∧us.lookup m=none∧zCx X.K dsp (pick [.ref a] [] dvs srcs) H1 Q (WE W σ):=
  ⟨G,O,g,_,Z,rl,gr,h,fun x O1 v G1 H1 go1 vr1 q1=>by
   obtain⟨a,dx,fs,rfl,ho,hl,q⟩:=q1
   obtain⟨us,hu,pr⟩:=go1.rel.ins ho
   cases vr1
   exact⟨a,dx,us,rfl,hu,pr.no hl,G1,O1,_,_,Z,go1.rel,zCm (.cons (.ref a) .nil) .nil (hd G1) srcs,q,fun x O3 v G3 H3 go3 vr3 q3=>kk _ _ _ _ _ (go1.trans rl go3) vr3 q3,fun c e O3 G3 H3 go3 z=>kz _ _ _ _ _ (go1.trans rl go3) z⟩,kz⟩
 refine PySem.W.methodCall_KW (pl:=pl) (thn (he.run pins s σ H _ I h2) fun u s1 ⟨x,H1,I1,rx,a,dx,us,ex,ea,l,q⟩=>?_) ht
 subst ex
 obtain rfl:u=Value.ref a:=rx
 refine getmeth_ok I1 ea c hm l ?_
 exact PySem.W.callWith_K0 (first:=[.ref a]) I1.kIn hm.kp (run_any (ks:=[]) (us:=[.ref a]) (vs:=[.ref a]) (zs:=[]) (ws:=[]) F hr hb (passAt tk' σ) I1 (.cons rfl .nil) .nil rfl rfl q)
end
theorem zPt{P:Program}{w:World}{K:PySem.W.Frag}{mg:Str→Option Value}{base:Heap}{k:Nat}{f:Addr}{fd:FuncData}{ps:List Str}{sp:Sp}(F:FnOk P w K mg base CX0 k f fd ps sp):FnOk P w K mg base (L2.CX P w) k f fd ps sp:=
 ⟨F.len,fun A outer s H args us vs Q E hr he hb hv h=>codeAny_mono (F.run A outer s H args us vs Q E hr he hb hv h) fun r s' hq=>by
  cases r with
  |error e=>exact hq.elim
  |ok fl=>cases fl<;>exact hq⟩
end DL
namespace DL
open PySem PySem.Spec PyProof.Rows L2
def zK7(C:Addr)(d:DSp)(te:XD→DE):XD→DE:=fun Z g O R=>te Z g O fun v O1=>∀x dx,O1 x=none→O1 dx=none→dx≠x→
 d [.ref x,v] (up (up O1 dx (.own x)) x (.ins C dx [])) (fun u O3=>u=.non∧R (.ref x) O3) Z
theorem zSN{X:Cx}{W:WX}{C f:Addr}{fd:FuncData}{ps:List Str}{dsp:DSp}{x:Str}{p pos:Pos}{e:Expr}{tx:XD→DE}{k:Nat}(M:Mk X.K C f)(F:FnOk X.prog X.w X.K X.mg X.base (L2.CX X.prog X.w) k f fd ps (zCx X.K dsp))(hr:Room (k+1) X.A)(tk':Takes X W)(hm:X.mg x=some (.ref C))(hb:Bnd X.K fd ps 2 [] [.p 0,.p 1] [])
  (ha:PE X e (zFu X.K W tx)) (hg:Gl X x:=by rfl) (hdb:(x==("__debug__":Str))=false:=by decide) (he:starEach [e] X.env=(false,eval e X.env)::starEach [] X.env:=by rfl) (hpl:(backTo pos (starEach [] X.env)).any (·.1)=false:=by rfl):
  PE X (.Call (.Name x p) [e] [] pos) (zFu X.K W (zK7 C dsp tx)):=by
 refine⟨fun pins s σ H Q I h=>?_⟩
 refine wpAny_Call_Name_kw (ld_glob I hg hm ?_ hdb)
 obtain⟨G,O,g,R,Z,rl,gr,h,kk,kz⟩:=h
 have h2:tCons (zFu X.K W tx) tNil σ H fun vs H2=>vs.length=1∧∀x dx,H2 x=none→H2 dx=none→dx≠x→zCx X.K dsp (pick (.ref x::vs) [] [] [.p 0,.p 1]) (upd (upd H2 dx (.own x)) x (.ins C dx [])) (fun v H3=>v=.non∧Q (.ref x) H3) (WE W σ):=
  ⟨G,O,g,_,Z,rl,gr,h,fun y O1 v G1 H1 go1 vr1 q1=>⟨rfl,zTM (srcs:=[.p 0,.p 1]) (ds:=[]) (dvs:=[]) (xs:=[y]) (ys:=[]) rl go1 (.cons vr1 .nil) .nil (fun _=>.nil) q1 kk kz⟩,kz⟩
 refine jR (h₀:=X.base) I.ok.mod.kin M.kp (thn ((pa_cons ha pa_nil he).run pos pins s σ H _ I h2) fun us s1 ⟨vs,H1,I1,r,l,q⟩=>⟨I1.kIn,?_⟩) he hpl
 exact zN1 (ks:=[]) (zs:=[]) (ws:=[]) M F hr hb (passAt tk' σ) I1 r .nil l rfl q
end DL
namespace DL
open PySem PySem.Spec PyProof.Rows L2
open Evl (Ex)
end DL
namespace DL
open PySem PySem.Spec PyProof.Rows L2
open Evl (Ex)
end DL
namespace DL
open PySem PySem.Spec PyProof.Rows L2
open Evl (Ex)
inductive TabGo (P:Addr) (q:Str) (H:Hp) (ps:Array Value):Hp→Prop
 |same:TabGo P q H ps H
 |more (c:Addr) (more:Array Value):H c=none→TriplesOk (ps++more).toList→(∀(pos:Pos) (cv:Value),codeAmong pos (ps++more).toList=some cv→codeAmong pos ps.toList=some cv∨cv=.ref c)→TabGo P q H ps (upd (upd H P (.tbl (ps++more))) c (LamX.CodeO c q))
theorem Rel.tab{K:PySem.W.Frag}{G:Hp}{O:Om}{H:Hp}(r:Rel K G O H){P:Addr}{q:Str}(h:O P=some (.tab q)):∃ps,H P=some (.tbl ps)∧TriplesOk ps.toList∧∀(pos:Pos) (cv:Value),codeAmong pos ps.toList=some cv→∃c,cv=.ref c∧G c=some (LamX.CodeO c q):=by
 obtain⟨_,u,hu,w⟩:=r.o P _ h
 cases u<;>first|exact w.elim|exact⟨_,hu,w⟩
theorem Go.tab{K:PySem.W.Frag}{G:Hp}{O:Om}{H H2:Hp}(r:Rel K G O H){P:Addr}{q:Str}{ps:Array Value}(h:O P=some (.tab q))(hP:H P=some (.tbl ps))(hc:∀(pos:Pos) (cv:Value),codeAmong pos ps.toList=some cv→∃c,cv=.ref c∧G c=some (LamX.CodeO c q))(t:TabGo P q H ps H2):∃G2,Go K G O H G2 O H2:=by
 cases t with
 |same=>exact⟨G,Go.refl r⟩
 |more c more hn h1 h2=>
  have g1:=Go.data r (a:=c) (u:=LamX.CodeO c q) hn
  have nPc:P≠c:=ne_of_none hP hn
  have g2:=Go.write g1.rel (a:=P) (o0:=.tab q) (o:=.tab q) (u:=.tbl (ps++more)) h ⟨h1,fun pos cv e=>by
   rcases h2 pos cv e with z|z
   ·obtain⟨c0,e1,e2⟩:=hc pos cv z
    exact⟨c0,e1,g1.ex _ _ e2⟩
   ·exact⟨c,z,upd_same⟩⟩
  have eO:DL.up O P (.tab q)=O:=by
   funext b
   by_cases hb:b=P
   ·subst hb;rw[up_same,h]
   ·rw[up_ne hb]
  have eH:upd (upd H c (LamX.CodeO c q)) P (.tbl (ps++more))=upd (upd H P (.tbl (ps++more))) c (LamX.CodeO c q):=by
   funext b
   by_cases h1:b=P
   ·subst h1;rw[upd_same,upd_ne nPc,upd_same]
   ·by_cases h2:b=c
    ·subst h2;rw[upd_ne h1,upd_same,upd_same]
    ·rw[upd_ne h1,upd_ne h2,upd_ne h2,upd_ne h1]
  rw[eO,eH] at g2
  exact⟨_,g1.trans r g2⟩
end DL
namespace DL
open PySem PySem.Spec PyProof.Rows L2
open Evl (Ex)
end DL
namespace DL
open PySem PySem.Spec PyProof.Rows L2
open Evl (Ex)
def zFQ(cs:List (Addr×Addr×Str)):Om:=fun b=>(cs.find? fun p=>decide (p.2.1=b)).map fun p=>DO.tab p.2.2
theorem zHg{cs:List (Addr×Addr×Str)}{b:Addr}{o:DO}(h:zFQ cs b=some o):∃p∈cs,p.2.1=b∧o=.tab p.2.2:=by
 unfold zFQ at h
 cases e:cs.find? fun p=>decide (p.2.1=b) with
 |none=>rw[e] at h;cases h
 |some p=>
  rw[e] at h
  have h2:=List.find?_some e
  exact⟨p,List.mem_of_find?_eq_some e,by simpa using h2,(jb h).symm⟩
theorem zPy{cs:List (Addr×Addr×Str)}(hu:∀p∈cs,∀r∈cs,p.2.1=r.2.1→p.2.2=r.2.2){p:Addr×Addr×Str}(hp:p∈cs):zFQ cs p.2.1=some (.tab p.2.2):=by
 unfold zFQ
 cases e:cs.find? fun r=>decide (r.2.1=p.2.1) with
 |none=>exact absurd (List.find?_eq_none.mp e p hp) (by simp)
 |some r=>
  have h0:=List.find?_some e
  have h1:r.2.1=p.2.1:=by simpa using h0
  show some (DO.tab r.2.2)=_
  rw[hu r (List.mem_of_find?_eq_some e) p hp h1]
end DL
namespace DL
open PySem PySem.Spec PyProof.Rows L2
open Evl (Ex)
abbrev KA:=List Key×Addr
def zWm(ks:List KA)(k:List Key)(a:Addr):List KA:=if ks.any (fun x=>decide (x.1=k)) then ks else ks++[(k,a)]
end DL
namespace DL
open PySem PySem.Spec PyProof.Rows L2
open Evl (Ex)
def PU(K:PySem.W.Frag)(G:Hp):List KA→List D→Prop:=Paired fun (p:KA) (d:D)=>VR K G (.ref p.2) d∧zAJ d=some p.1
theorem PU.mono{K:PySem.W.Frag}{G G':Hp}(e:Ex G G'){ks:List KA}{ds:List D}(h:PU K G ks ds):PU K G' ks ds:=Paired.mapP h fun _ _ z=>⟨z.1.mono e,z.2⟩
def yBk(acc:List D)(k:List Key)(y:D):List D:=if acc.any (fun z=>decide (zAJ z=some k)) then acc else acc++[y]
theorem PU.any{K:PySem.W.Frag}{G:Hp}{k:List Key}:∀{ks:List KA}{ds:List D},PU K G ks ds→ks.any (fun x=>decide (x.1=k))=ds.any (fun z=>decide (zAJ z=some k))
 |_,_,.nil=>rfl
 |_,_,.cons h t=>by
  rw[kL,kL,PU.any t,h.2]
  simp
theorem PU.snoc{K:PySem.W.Frag}{G:Hp}{p:KA}{d:D}(q:VR K G (.ref p.2) d∧zAJ d=some p.1):∀{ks:List KA}{ds:List D},PU K G ks ds→PU K G (ks++[p]) (ds++[d])
 |_,_,.nil=>.cons q .nil
 |_,_,.cons h t=>.cons h (PU.snoc q t)
theorem PU.put{K:PySem.W.Frag}{G:Hp}{ks:List KA}{ds:List D}{k:List Key}{a:Addr}{y:D}(h:PU K G ks ds)(hv:VR K G (.ref a) y)(hk:zAJ y=some k):PU K G (zWm ks k a) (yBk ds k y):=by
 unfold zWm yBk
 rw[h.any]
 split
 ·exact h
 ·exact h.snoc ⟨hv,hk⟩
theorem PU.len{K:PySem.W.Frag}{G:Hp}{ks:List KA}{ds:List D}(h:PU K G ks ds):ks.length=ds.length:=Paired.length h
end DL
namespace DL
open PySem PySem.Spec PyProof.Rows L2
open Evl (Ex)
structure Tb where
 rising:Addr
 laid:Addr
 beam:Addr
 Slope:Addr
 Balance:Addr
 cl:Nat→Addr
end DL
namespace DL
open PySem PySem.Spec PyProof.Rows L2
open Evl (Ex)
abbrev ZS(h:Heap)(z TI TO:Addr)(f0:Value):Prop:=h.get? z=some {cls:=.type "zip",dict:=none,data:=.fields #[f0,.bool false,.bool true,.ref TI,.ref TO],slots:=#[]}
section
variable {prog:Program}{w:World}{A:Around}{E:Value→Shared→Prop}{s:Shared}{z TI TO i1 i2 l1 l2 it l:Addr}{k k1 k2:Nat}{xs ys:Array Value}{x y a b:Value}
structure ZAt(h:Heap)(z TI TO i1 i2 l1 l2:Addr)(xs ys:Array Value)(k1 k2:Nat)(f0 a b:Value):Prop where
 z:ZS h z TI TO f0
 ti:IsPair h TI (.ref i1) (.ref i2)
 to:IsPair h TO a b
 i1:h.IsListIter i1 l1 k1
 i2:h.IsListIter i2 l2 k2
 l1:h.IsList l1 xs
 l2:h.IsList l2 ys
end
end DL
namespace DL
open PySem PySem.Spec PyProof.Rows L2
open Evl (Ex)
end DL
namespace DL
open PySem PySem.Spec PyProof.Rows L2
open Evl (Ex)
abbrev ZO(h:Heap)(z TI TO:Addr)(T:Addr)(f1:Bool):Prop:=h.get? z=some {cls:=.type "zip",dict:=none,data:=.fields #[rawInt T,.bool f1,.bool true,.ref TI,.ref TO],slots:=#[]}
section
variable {prog:Program}{w:World}{A:Around}{E:Value→Shared→Prop}{s:Shared}{z TI TO i1 i2 l1 l2 T:Addr}{f1:Bool}{k1 k2:Nat}{xs ys:Array Value}{x y a b:Value}
structure ZB(h:Heap)(z TI TO i1 i2 l1 l2:Addr)(xs ys:Array Value)(k:Nat):Prop where
 z:∃T f1 o,ZO h z TI TO T f1∧h.get? T=some o
 ti:IsPair h TI (.ref i1) (.ref i2)
 to:∃o,h.get? TO=some o
 i1:h.IsListIter i1 l1 k
 i2:h.IsListIter i2 l2 k
 l1:h.IsList l1 xs
 l2:h.IsList l2 ys
def ZW(h:Heap)(z TI TO i1 i2 l1 l2:Addr)(xs ys:Array Value)(k:Nat):Prop:=(k=0∧ZAt h z TI TO i1 i2 l1 l2 xs ys 0 0 .none .none .none)∨ZB h z TI TO i1 i2 l1 l2 xs ys k
theorem ZW.keep{h h':Heap}{k:Nat}(D:ZipApart z TI TO i1 i2 l1 l2)(S:ZW h z TI TO i1 i2 l1 l2 xs ys k){c:Addr}(hc:c∉[z,TI,TO,i1,i2,l1,l2])(ht:∀o,h.get? c=some o→∃o',h'.get? c=some o')(kp:∀b o,b≠c→h.get? b=some o→h'.get? b=some o):ZW h' z TI TO i1 i2 l1 l2 xs ys k:=by
 simp only[qj,qt,qW,not_or] at hc
 obtain⟨n1,n2,n3,n4,n5,n6,n7⟩:=hc
 rcases S with⟨rfl,S⟩|S
 ·exact .inl ⟨rfl,kp _ _ (fun e=>n1 e.symm) S.z,kp _ _ (fun e=>n2 e.symm) S.ti,kp _ _ (fun e=>n3 e.symm) S.to,S.i1.at fun o=>kp _ o fun e=>n4 e.symm,S.i2.at fun o=>kp _ o fun e=>n5 e.symm,S.l1.at fun o=>kp _ o fun e=>n6 e.symm,S.l2.at fun o=>kp _ o fun e=>n7 e.symm⟩
 ·obtain⟨T,f1,o,hz,hT⟩:=S.z
  refine .inr ⟨⟨T,f1,?_⟩,kp _ _ (fun e=>n2 e.symm) S.ti,(let ⟨o,e⟩:=S.to;⟨o,kp _ _ (fun e=>n3 e.symm) e⟩),S.i1.at fun o=>kp _ o fun e=>n4 e.symm,S.i2.at fun o=>kp _ o fun e=>n5 e.symm,S.l1.at fun o=>kp _ o fun e=>n6 e.symm,S.l2.at fun o=>kp _ o fun e=>n7 e.symm⟩
  by_cases e:T=c
  ·subst e
   obtain⟨o',h2⟩:=ht o hT
   exact⟨o',kp _ _ (fun e=>n1 e.symm) hz,h2⟩
  ·exact⟨o,kp _ _ (fun e=>n1 e.symm) hz,kp _ _ e hT⟩
def Prs(h:Heap)(xs ys:Array Value)(bad:List Addr)(lo:Nat)(acc:Array Value):Prop:=∃ts:List Addr,acc=(ts.map Value.ref).toArray∧ts.Pairwise (· < ·)∧∀(j:Nat) (t:Addr),ts[j]?=some t→∃x y,xs[j]?=some x∧ys[j]?=some y∧IsPair h t x y∧t∉bad∧lo<t
theorem Prs.keep{h h':Heap}{xs ys:Array Value}{bad:List Addr}{lo:Nat}{acc:Array Value}(p:Prs h xs ys bad lo acc)(k:∀b o,b∉bad→h.get? b=some o→h'.get? b=some o):Prs h' xs ys bad lo acc:=by
 obtain⟨ts,e,pw,q⟩:=p
 refine⟨ts,e,pw,fun j t ht=>?_⟩
 obtain⟨x,y,e2,e3,e4,e5,e6⟩:=q j t ht
 exact⟨x,y,e2,e3,k _ _ e5 e4,e5,e6⟩
end
end DL
namespace L2
open PySem PySem.Spec PyProof.Rows
open PySem.W (EachIs AllAlike Sortable dataLe)
end L2
namespace DL
open PySem PySem.Spec PyProof.Rows L2
open PySem.W (EachIs AllAlike Sortable dataLe)
open Evl (Ex)
end DL
namespace L2
open PySem PySem.Spec PyProof.Rows
open PySem.W (EachIs alike SortsAt sortVals)
end L2
namespace DL
open PySem PySem.Spec PyProof.Rows L2
open PySem.W (EachIs alike)
open Evl (Ex)
end DL
namespace L2
open PySem PySem.Spec PyProof.Rows
def zTn(K:PySem.W.Frag):V→List V→Hp→VK→Prop:=fun x xs H Q=>∃(a:Addr) (y:V) (vs:List V) (d:PyData) (ds:List PyData) (j:Nat) (z:PyData),x=V.ref a∧xs=[y]∧H a=some (.lst vs)∧Dp K H (V.ref a) (.list ds)∧Dp K H y d∧
 SeqAt.shaped (.list ds)=true∧SeqAt.shaped d=true∧ds[j]?=some z∧PyData.eqv z d=true∧(∀(m:Nat) (z':PyData),m<j→ds[m]?=some z'→PyData.eqv z' d=false)∧Q .non (upd H a (.lst (vs.eraseIdx j)))
theorem zMW{X:Cx}(hu:X.A.units+65<cLine):MtM X "list.remove" (zTn X.K):=by
 intro pins s σ H x xs v us Q I rx rxs h
 obtain⟨a,y,vs,d,ds,j,z,rfl,rfl,hH,hl,hy,sl,sd,hz,hzj,hno,q⟩:=h
 cases rx
 obtain⟨uy,rfl,ry⟩:=rxs.one
 obtain⟨bs,r1⟩:=Dp.reads I d y uy hy ry
 have hxs:PyData.canLayAll0 ds=true:=SeqAt.canLay_of_shaped sl
 have hroom:X.A.units+1+min (PyData.depthAll ds) d.depth<cLine:=room_in_shaped sd hu
 cases hl with
 |lst hs ha=>
  have ev:=I.list_inj hs (SqL.of hH)
  subst ev
  obtain⟨z0,its,n,rv,hlen,ho⟩:=I.lstM hH
  obtain⟨as,h4⟩:=Dp.readsAll I ds _ its ha rv
  have hn:its.length=ds.length:=SeqAt.ReadsAll.length ds its as h4
  have hmap:its.map (SeqAt.readOf s.heap)=ds:=SeqAt.readsAll_map ds its as hxs h4
  have hvl:=rv.length
  have hsl:=sizeLine_eq
  obtain⟨hjd,_⟩:=qf.mp hz
  have hjl:j<its.length:=by omega
  have hj:j<its.toArray.size:=by simpa using hjl
  have at_:∀(m:Nat) (hm:m<its.toArray.size) (z':PyData),ds[m]?=some z'→SeqAt.readOf s.heap its.toArray[m]=z':=fun m hm z' hz'=>by
   have hml:m<its.length:=by simpa using hm
   rw[←hmap,qF,qg hml] at hz'
   simpa using jb hz'
  refine call_meets kn ⟨_,ho,rfl⟩ PySem.F.entry_list_remove (PySem.F.args_list_remove_2 _ _)
   (SeqAt.list_removeAt a its.toArray n none #[] uy (fun u=>PyData.eqv (SeqAt.readOf s.heap u) d) j hj ?_ ?_ (by rw[List.size_toArray];omega)) ⟨ho,SeqAt.items_eqAt (vs:=its.toArray) (show ReadsAll s.heap its.toArray.toList ds as from h4) r1 hxs (SeqAt.canLay_of_shaped sd) hroom,?_⟩
  ·show PyData.eqv (SeqAt.readOf s.heap its.toArray[j]) d=true
   rw[at_ j hj z hz];exact hzj
  ·intro m hm hmj
   show PyData.eqv (SeqAt.readOf s.heap its.toArray[m]) d=false
   have hmd:m<ds.length:=by
                   have:m<its.length:=by simpa using hm
                   omega
   rw[at_ m hm _ (qg hmd)]
   exact hno m _ hmj (qg hmd)
  ·refine⟨.non,_,I.lset (its':=its.eraseIdx j) (t':=s.toks) hH ho ?_ (rv.eraseIdx j) ?_,rfl,q⟩
   ·show its.toArray.eraseIdxIfInBounds j=(its.eraseIdx j).toArray
    rw[List.eraseIdxIfInBounds_toArray]
   ·exact qo (List.length_eraseIdx_le _ _) (by omega)
end L2
namespace DL
open PySem PySem.Spec PyProof.Rows L2
open Evl (Ex)
def zIE:DM:=fun x vs O R=>match x,vs with
 |.ref a,[y]=>∃xs d ds j z,O a=some (.lst xs)∧Vw O (.ref a) (.list ds)∧Vw O y d∧SeqAt.shaped (.list ds)=true∧SeqAt.shaped d=true∧ds[j]?=some z∧PyData.eqv z d=true∧(∀(m:Nat) (z':PyData),m<j→ds[m]?=some z'→PyData.eqv z' d=false)∧R .non (up O a (.lst (xs.eraseIdx j)))
 |_,_=>False
theorem zNX{K:PySem.W.Frag}:MtS K (zTn K) zIE:=fun {G O H x xs v vs R Q} rl hx hv h k=>by
 match x,xs,hx,hv,h with
 |.ref a,[y],hx,hv,h=>
  cases hx
  obtain⟨u,rfl,hu⟩:=hv.one
  obtain⟨xs,d,ds,j,z,hO,hw,hd,s1,s2,hz,e1,e2,r⟩:=h
  obtain⟨ws,hH,hws⟩:=rl.lst hO
  exact⟨a,u,ws,d,ds,j,z,rfl,rfl,hH,hw.dp rl (.ref a),hd.dp rl hu,s1,s2,hz,e1,e2,k _ _ _ _ _ (Go.write rl hO (o:=.lst (xs.eraseIdx j)) (u:=.lst (ws.eraseIdx j)) (hws.erase j)) .non r⟩
theorem zLT{X:Cx}{k:Nat}(hr:Room k X.A):MtM X "list.remove" (zTn X.K):=zMW (by have:=hr.un;omega)
def zYa:D2:=fun x y O R=>∃d ds,Vw O x d∧Vw O y (.list ds)∧SeqAt.shaped d=true∧SeqAt.shaped (.list ds)=true∧R (.bl (ds.any fun z=>PyData.eqv z d)) O
theorem yBg{K:PySem.W.Frag}:OpS K (rInD K) zYa:=fun {G O H x y v u R Q} rl hx hy ⟨d,ds,h1,h2,h3,h4,r⟩ k=>⟨d,ds,h1.dp rl hx,h2.dp rl hy,h3,h4,k.here rl (.bl _) r⟩
theorem zWX{X:Cx}{k:Nat}(hr:Room k X.A):OpR X (compareOp .In) (rInD X.K):=op_inD (by have:=hr.un;omega)
end DL
namespace L2
open PySem PySem.Spec PyProof PyProof.Rows PySem.W
variable {X:Cx}
theorem zQY{e:Expr}{es:List Expr}{t:TG}{u:TGs}{p:Pos}(h1:PG X e t)(h2:PGs X es u)
  (hs:(assignEach (.Starred e p::es) X.env).map (·.2)=assign e X.env::(assignEach es X.env).map (·.2):=by rfl):PGs X (.Starred e p::es) (gCons t u):=by
 refine⟨fun pins s σ H vs us Q I r h=>?_⟩
 obtain⟨v,vr,e1,h⟩:=h
 subst e1
 cases r with
 |cons r rr=>
  rw[hs]
  refine assignInOrder_cons (thn (h1.run pins s σ H _ _ _ I r h) fun _ s1 ⟨σ1,H1,I1,q1⟩=>?_)
  exact h2.run pins s1 σ1 H1 _ _ Q I1 rr q1
def zXs(K:PySem.W.Frag)(t:TGs):TG:=fun v σ H Q=>∃a x xs,v=.ref a∧SqL K H a (x::xs)∧xs.length≤10000∧∀p,H p=none→t [x,.ref p] σ (upd H p (.lst xs)) Q
theorem zQZ{es:List Expr}{k:Nat}{t:TGs}{pos:Pos}(hc:X.calm=true)(h:PGs X es t)
  (hn:(assignEach es X.env).length=2:=by rfl) (hst:(assignEach es X.env).findIdx? (·.1)=some 1:=by rfl):PG X (.Tuple es k pos) (zXs X.K t):=by
 refine⟨fun pins s σ H v u Q I r hw=>?_⟩
 obtain⟨a,x,xs,e1,hq,hl,hw⟩:=hw
 subst e1
 cases r
 obtain⟨its,rv,hpl,hz⟩:=I.list hq
 obtain⟨u0,us,rfl⟩:∃u0 us,its=u0::us:=by cases rv with|cons _ _=>exact⟨_,_,rfl⟩
 have hli:s.heap.IsList a (u0::us).toArray:=hpl.isList
 rw[assign_Tuple]
 refine wpAny_bind (wpAny_standAt ?_)
 unfold unpack
 rw[hn,hst]
 refine wpAny_bind (wpAny_holding ?_)
 have hlt:a≠s.heap.objs.size:=by obtain⟨o,ho,_⟩:=hli;exact jQ (Heap.lt_size ho)
 have hul:us.length≤10000:=by
  cases rv with
  |cons _ rv=>rw[←rv.length];exact hl
 have hh:=I.ok.hd hc
 generalize hits:(u0::us).toArray=items at*
 have htl:items.toList=u0::us:=by rw[←hits]
 have hsz:items.size=us.length+1:=by rw[←hits];simp
 unfold unpackItems
 refine wpAny_bind ?_
 unfold notIterableAtAll
 refine wpAny_bind (wpAny_specialOf hli.typeIs slot_list_iter.lookup ?_)
 refine wpAny_pure ?_
 simp only[qk,qX]
 refine wpAny_bind (wpAny_holding (wpAny_pyIter_list hli ?_))
 refine wpAny_bind (wpAny_holding (kun_draw hlt 1 0 _ _ ⟨_,Heap.get?_push_size _ rfl,rfl,rfl⟩ (hli.push _) (by omega) fun h₁ hit₁ hs₁=>?_))
 have hl₁:h₁.IsList a items:=(hli.push _).extBut hs₁.extBut hlt
 rw[Nat.zero_add] at hit₁
 have hit₁':=hit₁
 obtain⟨oi,hoi,_⟩:=hit₁'
 have hl₁':=hl₁
 obtain⟨ol,hol,_⟩:=hl₁'
 rw[ky,htl]
 show wpAny _ _ (if([u0]:List Value).length<1 then _ else _) _ _ _
 rw[qb (by simp)]
 refine wpAny_bind (wpAny_holding (kun_collect (s:={s with heap:=h₁}) (T:="list_iterator") (.inr (.inr (.inl rfl))) (Walks.list (A:=X.A.in1) hh s.heap.objs.size a hlt items) (fun j u st=>st.1.typeIs) (k:=1) (by omega) ⟨hit₁,hl₁⟩ (Heap.lt_size hoi) (Heap.lt_size hol) (fun h₂ tk hk=>?_) (by rw[sizeLine_eq];omega)))
 rw[htl]
 show wpAny _ _ (if us.length<0 then _ else _) _ _ _
 rw[qb (by omega)]
 show wpAny _ _ (newList (us.take (us.length-0)) >>=fun d=>pure ([u0]++[d]++us.drop (us.length-0))) _ _ _
 rw[kA,ka,List.drop_length]
 have he:∀b u,s.heap.get? b=some u→h₂.get? b=some u:=fun b u e=>by
  have hb:=Heap.lt_size e
  exact hk b u (jQ hb) (hs₁.extBut b u (jQ hb) (Heap.get?_push_of_some _ e))
 have I1:Inv X pins σ H {s with heap:=h₂,toks:=tk}:=I.kept he
 refine wpAny_bind (wpAny_newList ?_ (by rw[sizeLine_eq];omega))
 refine wpAny_pure ?_
 have rvs:Vals xs us:=by
  cases rv with
  |cons _ rv=>exact rv
 have r0:RelV x u0:=by
  cases rv with
  |cons r _=>exact r
 have I2:Inv X pins σ (upd H h₂.objs.size (.lst xs)) {s with heap:=h₂.push {cls:=.type "list",data:=.seq us.toArray},toks:=tk}:=I1.laid (t':=tk) (fun b u e=>Heap.get?_push_of_some _ e) (qG _) (show ObjOk X.prog X.w _ _ _ (.lst xs) from⟨by rw[sizeLine_eq];omega,us,_,rvs,Heap.get?_push_size _ rfl⟩)
 exact h.run pins _ σ _ [x,.ref h₂.objs.size] [u0,.ref h₂.objs.size] Q I2 (.cons r0 (.cons rfl .nil)) (hw _ (I1.hok.fresh (qG _)))
end L2
namespace DL
open PySem PySem.Spec PyProof PyProof.Rows L2
open Evl (Ex)
def zRp(t:DGs):DG:=fun x g O R=>match lstOf O x with|some (y::ys)=>ys.length≤10000∧t [y,.lst ys] g O R|_=>False
section
variable {X:Cx}{pos:Pos}
theorem zT6{e:Expr}{es:List Expr}{t:DG}{u:DGs}{p:Pos}(h1:PG X e (zSd X.K t))(h2:PGs X es (zKV X.K u))
  (hs:(assignEach (.Starred e p::es) X.env).map (·.2)=assign e X.env::(assignEach es X.env).map (·.2):=by rfl):PGs X (.Starred e p::es) (zKV X.K (zAp t u)):=PGs.by (zQY h1 h2 hs) fun v s H Q ⟨G,O,g,x,R,rl,gr,vr,h,k⟩=>by
 cases vr with
 |nil=>exact False.elim h
 |cons hv hr=>exact⟨_,_,rfl,G,O,g,_,_,rl,gr,hv,h,fun s1 g1 O1 G1 H1 go1 gr1 q1=>⟨G1,O1,g1,_,R,go1.rel,gr1,hr.mono go1.ex,q1,fun s2 g2 O2 G2 H2 go2 gr2 q2=>k _ _ _ _ _ (go1.trans rl go2) gr2 q2⟩⟩
theorem zXr{es:List Expr}{k:Nat}{t:DGs}(hc:X.calm=true)(h:PGs X es (zKV X.K t))
  (hn:(assignEach es X.env).length=2:=by rfl) (hst:(assignEach es X.env).findIdx? (·.1)=some 1:=by rfl):PG X (.Tuple es k pos) (zSd X.K (zRp t)):=PG.by (zQZ hc h hn hst) fun v s H Q ⟨G,O,g,x,R,rl,gr,vr,h,k⟩=>by
 unfold zRp at h
 split at h
 ·rename_i y ys hl
  obtain⟨a,us,rfl,hq,hu⟩:=rl.lstOf vr hl
  cases hu with
  |cons hy hys=>
   rename_i v0 vs1
   refine⟨a,_,_,rfl,hq,by rw[hys.length];exact h.1,fun p hp=>?_⟩
   have gd:=Go.data rl (u:=.lst vs1) hp
   exact⟨_,O,g,_,R,gd.rel,gr.mono gd.ex,.cons (hy.mono gd.ex) (.cons (.lst (SqL.of upd_same) (hys.mono gd.ex)) .nil),h.2,fun s' g' O' G' H' go gr' q=>k _ _ _ _ _ (gd.trans rl go) gr' q⟩
 ·exact h.elim
end
end DL
namespace DL
open PySem PySem.Spec PyProof PyProof.Rows L2
open Evl (Ex)
end DL
namespace DL
open PySem PySem.Spec PyProof PyProof.Rows L2
open Evl (Ex)
section
variable {X:Cx}{CX:CXT}{W:WX}{C f:Addr}{fd:FuncData}{ps ks:List Str}{sp:Sp}{dsp:DSp}{srcs:List Src}{dvs:List V}{ds:List D}{x m fl:Str}{p pos pos' apos:Pos}{e o:Expr}{es:List Expr}{te to:DE}{tx tv:XD→DE}{t tk:DA}{n k l:Nat}
theorem zDk{pl:Sem Bool}(he:PE X o (zFu X.K W tx))(c:Cls X.K C)(hm:Meth X.K C m f)(F:FnOk X.prog X.w X.K X.mg X.base (L2.CX X.prog X.w) k f fd ps (zCx X.K dsp))(hr:Room k X.A)(tk':Takes X W)(hb:Bnd X.K fd ps (n+1) [] srcs dvs)(hd:∀G,VRs X.K G dvs ds)
  (ha:PA X (e::es) (zC8 X.K n t)) (hst:starEach (e::es) X.env=(false,eval e X.env)::starEach es X.env:=by rfl) (hpl:(backTo pos (starEach es X.env)).any (·.1)=false:=by rfl)
  (ht:eval (.Call (.Attribute o m apos) (e::es) [] pos) X.env=(do
   let ov ←eval o X.env
   standAt apos.atName
   let (f,first) ←holding [ov] (getMethod ov m pl)
   callWith pos f first (backTo pos (starEach (e::es) X.env)) (backToKw pos (keywordEach [] X.env))):=by rfl):
  PE X (.Call (.Attribute o m apos) (e::es) [] pos) (zFu X.K W (zAu C m dsp srcs ds tx t zAg)):=by
 refine⟨fun pins s σ H Q I h=>?_⟩
 obtain⟨G,O,g,R,Z,rl,gr,h,kk,kz⟩:=h
 have h2:zFu X.K W tx σ H fun x H1=>∃a dx us,x=.ref a∧H1 a=some (.ins C dx us)∧us.lookup m=none∧zC8 X.K n t σ H1 fun vs H2=>vs.length=n∧zCx X.K dsp (pick (.ref a::vs) [] dvs srcs) H2 Q (WE W σ):=
  ⟨G,O,g,_,Z,rl,gr,h,fun x O1 v G1 H1 go1 vr1 q1=>by
   obtain⟨a,dx,fs,rfl,ho,hl,q⟩:=q1
   obtain⟨us,hu,pr⟩:=go1.rel.ins ho
   cases vr1
   exact⟨a,dx,us,rfl,hu,pr.no hl,G1,O1,g,_,go1.rel,gr.mono go1.ex,q,fun xs O2 vs G2 H2 go2 vr2 hl2 q2=>⟨by rw[vr2.length,hl2],G2,O2,_,_,Z,go2.rel,zCm (.cons (.ref a) vr2) .nil (hd G2) srcs,q2,fun x O3 v G3 H3 go3 vr3 q3=>kk _ _ _ _ _ ((go1.trans rl go2).trans rl go3) vr3 q3,fun c e O3 G3 H3 go3 z=>kz _ _ _ _ _ ((go1.trans rl go2).trans rl go3) z⟩⟩,kz⟩
 refine PySem.W.methodCall_KW (pl:=pl) (thn (he.run pins s σ H _ I h2) fun u s1 ⟨x,H1,I1,rx,a,dx,us,ex,ea,l,q⟩=>?_) ht
 subst ex
 obtain rfl:u=Value.ref a:=rx
 refine getmeth_ok I1 ea c hm l ?_
 refine jR (first:=[.ref a]) (h₀:=X.base) I.ok.mod.kin hm.kp (thn (ha.run pos pins s1 σ H1 _ I1 q) fun us s2 ⟨vs,H2,I2,r,q2⟩=>⟨I2.kIn,?_⟩) hst hpl
 exact run_any (ks:=[]) (us:=.ref a::us) (vs:=.ref a::vs) (zs:=[]) (ws:=[]) F hr hb (passAt tk' σ) I2 (.cons rfl r) .nil (by rw[qi,q2.1]) rfl q2.2
end
end DL
namespace DL
open PySem PySem.Spec PyProof PyProof.Rows L2
open Evl (Ex)
structure Dm(P:Program)(w:World)(K:PySem.W.Frag)(mg:Str→Option Value)(base:Heap)(k:Nat)(st:Stmt)(x q:Str)(ps:List Str)(dvs:List V)(kws:List (Str×V))(dsp:DSp)(f:Addr)(fd:FuncData):Prop where
 fn:FunD K x q (defArgs st) (defBody st) (defScope st) dvs kws f fd
 ok:FnOk P w K mg base CX0 k f fd ps (zCx K dsp)
section
variable {X:Cx}{C f:Addr}{fd:FuncData}{ps ks:List Str}{dsp:DSp}{srcs:List Src}{dvs:List V}{ds:List D}{x m fl:Str}{p pos apos:Pos}{e o:Expr}{es:List Expr}{kws:List Keyword}{te to:DE}{t tk:DA}{n k l:Nat}
theorem zXA(M:Mk X.K C f)(F:FnOk X.prog X.w X.K X.mg X.base CX0 k f fd ps (zCx X.K dsp))(hr:Room (k+1) X.A)(hm:X.mg x=some (.ref C))(hb:Bnd X.K fd ps (n+1) ks srcs dvs)(hd:∀G,VRs X.K G dvs ds)
  (ha:PA X (e::es) (zC8 X.K n t)) (hkw:PK X kws (zC8 X.K l tk)) (hmk:l=ks.length:=by rfl) (hg:Gl X x:=by rfl) (hall:(backToKw pos (keywordEach kws X.env)).all (·.1.isSome)=true:=by rfl) (hks:(backToKw pos (keywordEach kws X.env)).filterMap (·.1)=ks:=by rfl)
  (hdb:(x==("__debug__":Str))=false:=by decide) (he:starEach (e::es) X.env=(false,eval e X.env)::starEach es X.env:=by rfl)
  (hpl:((backTo pos (starEach (e::es) X.env)).any (·.1)||(backToKw pos (keywordEach kws X.env)).any (·.1.isNone))=false:=by rfl):
  PE X (.Call (.Name x p) (e::es) kws pos) (zAs X.K (zEO C dsp srcs ds t tk X0)):=
 zFw (W:=W0) (zU1 M (zPt F) hr zDa hm hb hd ha hkw hmk hg hall hks hdb he hpl)
theorem zD0{pl:Sem Bool}(he:PE X o (zAs X.K to))(c:Cls X.K C)(hm:Meth X.K C m f)(F:FnOk X.prog X.w X.K X.mg X.base CX0 k f fd ps (zCx X.K dsp))(hr:Room k X.A)(hb:Bnd X.K fd ps (n+1) [] srcs dvs)(hd:∀G,VRs X.K G dvs ds)
  (ha:PA X (e::es) (zC8 X.K n t)) (hst:starEach (e::es) X.env=(false,eval e X.env)::starEach es X.env:=by rfl) (hpl:(backTo pos (starEach es X.env)).any (·.1)=false:=by rfl)
  (ht:eval (.Call (.Attribute o m apos) (e::es) [] pos) X.env=(do
   let ov ←eval o X.env
   standAt apos.atName
   let (f,first) ←holding [ov] (getMethod ov m pl)
   callWith pos f first (backTo pos (starEach (e::es) X.env)) (backToKw pos (keywordEach [] X.env))):=by rfl):
  PE X (.Call (.Attribute o m apos) (e::es) [] pos) (zAs X.K (zAu C m dsp srcs ds (fun _=>to) t zAg X0)):=
 zFw (W:=W0) (zDk (zCV he) c hm (zPt F) hr zDa hb hd ha hst hpl ht)
theorem zDh{pl:Sem Bool}(he:PE X o (zAs X.K to))(c:Cls X.K C)(hm:Meth X.K C m f)(F:FnOk X.prog X.w X.K X.mg X.base CX0 k f fd ps (zCx X.K dsp))(hr:Room k X.A)(hb:Bnd X.K fd ps 1 [] srcs dvs)(hd:∀G,VRs X.K G dvs ds)
  (ht:eval (.Call (.Attribute o m apos) [] [] pos) X.env=(do
   let ov ←eval o X.env
   standAt apos.atName
   let (f,first) ←holding [ov] (getMethod ov m pl)
   callWith pos f first (backTo pos (starEach [] X.env)) (backToKw pos (keywordEach [] X.env))):=by rfl):
  PE X (.Call (.Attribute o m apos) [] [] pos) (zAs X.K (zAu C m dsp srcs ds (fun _=>to) zAg zAg X0)):=
 zFw (W:=W0) (zKq (zCV he) c hm (zPt F) hr zDa hb hd ht)
end
end DL
namespace DL
open PySem PySem.Spec PyProof.Rows L2
open Evl (Ex)
def zNE(K:PySem.W.Frag)(m fl:Str):Sp:=fun vs H Q E=>∃(a C:Addr) (y:V),vs=[.ref a,y]∧OexC K C∧PySem.W.findIn K (.ref C) "says"=some none∧PySem.W.findIn K (.ref C) fl=some none∧H a=some (exo a C none)∧
 ∀dx,H dx=none→dx≠a→Q .non (upd (upd (upd H dx (exd dx [("says",.str m)])) a (exo a C (some dx))) dx (exd dx [(fl,y),("says",.str m)]))
section
variable {P:Program}{w:World}{K:PySem.W.Frag}{mg:Str→Option Value}{base:Heap}
theorem zLP{x qual xB v fl:Str}{params:Arguments}{scope:Scope}{dvs dvB:List V}{kws:List (Str×V)}{f B fB:Addr}{fd fdB:FuncData}{m:Str}{j:Nat}{q1 q2 q3 q4 q5 q6 p1 p2 p3 p4:Pos}
  (F:FunD K x qual params [.Expr (.Call (.Attribute (.Name xB q1) "__init__" q2) [.Name "self" q3,.Constant (.str m) j q4] [] q5) q6,.Assign [.Attribute (.Name "self" p1) fl p2] (.Name v p3) p4] scope dvs kws f fd) (S:FnScope ["self",v] ["self",v] scope)
  (hv0:Vis scope "self") (hv1:Vis scope v) (hd0:(("self":Str)==("__debug__":Str))=false) (hd1:(v==("__debug__":Str))=false) (T:CiC K mg xB B fB) (FB:FnOk P w K mg base CX0 1 fB fdB ["self","says"] (zHl K)) (bB:Bnd K fdB ["self","says"] 2 [] [.p 0,.p 1] dvB)
  (hh:∀(cdv:Value) (A:Around) (outer:List Env) (s:Shared) (H:Hp) (E:XK),Room 1 (A.deeper (envOfC qual scope s.heap.objs.size f cdv))→PE (cxOf CX0 P w K mg base ["self",v] qual scope f cdv A outer s H E) (.Call (.Attribute (.Name xB q1) "__init__" q2) [.Name "self" q3,.Constant (.str m) j q4] [] q5) (zLp (zHl K) 2 [.p 0,.p 1] dvB (tCons (tVar 0) (tCons (tC (.str m)) tNil))))
  (hs:∀(cdv:Value) (A:Around) (outer:List Env) (s:Shared) (H:Hp) (E:XK),swapsWith (.Call (.Attribute (.Name xB q1) "__init__" q2) [.Name "self" q3,.Constant (.str m) j q4] [] q5) none q6.line (cxOf CX0 P w K mg base ["self",v] qual scope f cdv A outer s H E).env=pure false)
  (hw:∀(cdv:Value) (A:Around) (outer:List Env) (s:Shared) (H:Hp) (E:XK),PE (cxOf CX0 P w K mg base ["self",v] qual scope f cdv A outer s H E) (.Name "self" p1) (tVar 0)∧PE (cxOf CX0 P w K mg base ["self",v] qual scope f cdv A outer s H E) (.Name v p3) (tVar 1)∧swapsWith (.Name v p3) (some (.Attribute (.Name "self" p1) fl p2)) p4.line (cxOf CX0 P w K mg base ["self",v] qual scope f cdv A outer s H E).env=pure false):FnOk P w K mg base CX0 2 f fd ["self",v] (zNE K m fl):=by
 refine FunD.ok (k:=1) F S (fun vs H Q E h=>?_) (fun cdv A outer s H vs Q E hr h=>⟨_,(pss_cons (ps_expr (hh cdv A outer s H E hr) (hs cdv A outer s H E)) (pss_one (ps_ost (hw cdv A outer s H E).1 (hw cdv A outer s H E).2.1 (hw cdv A outer s H E).2.2))),?_⟩)
 ·obtain⟨a,C,y,rfl,_⟩:=h
  rfl
 ·obtain⟨a,C,y,rfl,T,hno,hno2,ha,k⟩:=h
  refine⟨.ref a,rfl,rfl,a,C,.str m,rfl,T,hno,ha,fun dx h1 h2=>?_⟩
  refine⟨y,rfl,.ref a,rfl,a,C,rfl,T,hno2,.inr ⟨dx,[("says",.str m)],upd_same,?_,(show 1≤900 by decide),k dx h1 h2⟩⟩
  rw[upd_ne h2,upd_same]
end
def zK4(C:Addr)(m fl:Str)(te:DE):DS:=fun F g O=>te g O fun y O1=>∀d,O1 d=none→F.xc (.ref C) (some d) g (up O1 d (.xd [(fl,y),("says",.str m)]))
section
variable {X:Cx}{C fI:Addr}{fd:FuncData}{k:Nat}{W:WX}{x:Str}{p pos:Pos}{e:Expr}{te:DE}
theorem Bnd.all2{K:PySem.W.Frag}{fd:FuncData}{ps:List Str}(h:Bnd K fd ps 2 [] [.p 0,.p 1] [])(hl:ps.length=2):Binds K fd ps []:=fun s us h1 h2=>by
 obtain⟨ds,rd,hb⟩:=h.to
 rw[jH] at h2⊢
 have:=hb s us [] h1 (by omega) rfl
 match us,h2 with
 |[a,b],_=>exact this
 |[],h2=>simp at h2;omega
 |[_],h2=>simp at h2;omega
 |_::_::_::_,h2=>simp at h2;omega
theorem zQO{m fl v:Str}{pos2:Pos}(hc:X.calm=true)(tk:Takes X W)(T:OexC X.K C)(hno:PySem.W.findIn X.K (.ref C) "says"=some none)(hno2:PySem.W.findIn X.K (.ref C) fl=some none)(iC:PySem.W.findIn X.K (.ref C) "__init__"=some (some (.ref fI)))(tI:PySem.W.typeIn X.K (.ref fI)=some (.type "function"))
  (F1:FnOk X.prog X.w X.K X.mg X.base CX0 k fI fd ["self",v] (zNE X.K m fl)) (hr:Room (k+1) X.A) (hb:Bnd X.K fd ["self",v] 2 [] [.p 0,.p 1] []) (hm:X.mg x=some (.ref C)) (he:PE X e (zAs X.K te)) (hg:Gl X x:=by rfl) (hdb:(x==("__debug__":Str))=false:=by decide)
  (hs:starEach [e] X.env=(false,eval e X.env)::starEach [] X.env:=by rfl) (hpl:(backTo pos (starEach [] X.env)).any (·.1)=false:=by rfl):
  PS X (.Raise (some (.Call (.Name x p) [e] [] pos)) none pos2) (zCl X.K W (zK4 C m fl te)):=
 PS.by (ps_raise hc tk (pmk_oex (dvs:=[]) (ds:=[]) T iC tI F1 hr (hb.all2 rfl) .nil (fun _ _ _ _ _ _ _ z=>z.elim) hg hm (pa_cons he pa_nil hs) hdb hs hpl)) fun E s H ⟨G,O,g,F,rl,gr,h,k⟩=>
  ⟨G,O,g,_,rl,gr,h,fun y O1 v G1 H1 go1 vr1 q1=>⟨by show 1≤1000;decide,fun a ha=>by
   refine⟨a,C,v,rfl,T,hno,hno2,upd_same,fun dx hdx ne=>?_⟩
   have hd:H1 dx=none:=by rw[upd_ne ne] at hdx;exact hdx
   refine⟨rfl,dx,[(fl,v),("says",.str m)],?_,upd_same,hd,?_⟩
   ·rw[upd_ne ne.symm,upd_same]
   ·have eH:upd (L2.del (upd (upd (upd (upd H1 a (exo a C none)) dx (exd dx [("says",.str m)])) a (exo a C (some dx))) dx (exd dx [(fl,v),("says",.str m)])) a) dx (.xd [(fl,v),("says",.str m)])=upd H1 dx (.xd [(fl,v),("says",.str m)]):=by
     funext b
     by_cases h1:b=dx
     ·subst h1;rw[upd_same,upd_same]
     ·rw[upd_ne h1,upd_ne h1]
      by_cases h2:b=a
      ·subst h2;rw[L2.del_same,ha]
      ·rw[L2.del_ne h2,upd_ne h1,upd_ne h2,upd_ne h1,upd_ne h2]
    rw[eH]
    have gn:=Go.new go1.rel (o:=.xd [(fl,y),("says",.str m)]) (u:=.xd [(fl,v),("says",.str m)]) hd (.cons ⟨rfl,vr1⟩ (.cons ⟨rfl,.str m⟩ .nil))
    exact k.xc _ _ _ _ _ _ _ (go1.trans rl gn) (gr.mono go1.ex) (q1 dx (go1.rel.fresh hd).1)⟩⟩
end
structure DfX(P:Program)(w:World)(K:PySem.W.Frag)(mg:Str→Option Value)(base:Heap)(k:Nat)(st:Stmt)(x:Str)(ps:List Str)(dvs:List V)(kws:List (Str×V))(dsp:DSp)(f:Addr)(fd:FuncData):Prop where
 fn:FunD K x x (defArgs st) (defBody st) (defScope st) dvs kws f fd
 ok:FnOk P w K mg base (L2.CX P w) k f fd ps (zCx K dsp)
 mg:mg x=some (.ref f)
structure Er1(P:Program)(w:World)(K:PySem.W.Frag)(mg:Str→Option Value)(base:Heap)(x m fl v:Str)(C fI:Addr)(fd:FuncData):Prop where
 oex:OexC K C
 no:PySem.W.findIn K (.ref C) "says"=some none
 no2:PySem.W.findIn K (.ref C) fl=some none
 iC:PySem.W.findIn K (.ref C) "__init__"=some (some (.ref fI))
 tI:PySem.W.typeIn K (.ref fI)=some (.type "function")
 gC:mg x=some (.ref C)
 ok:FnOk P w K mg base CX0 2 fI fd ["self",v] (zNE K m fl)
 bn:Bnd K fd ["self",v] 2 [] [.p 0,.p 1] []
 xf:XfC K C
 te:PySem.W.exmOne K (.ref C) (.ref C)=some true
structure Er0(P:Program)(w:World)(K:PySem.W.Frag)(mg:Str→Option Value)(base:Heap)(x m:Str)(C fI:Addr)(fd:FuncData):Prop where
 oex:OexC K C
 no:PySem.W.findIn K (.ref C) "says"=some none
 iC:PySem.W.findIn K (.ref C) "__init__"=some (some (.ref fI))
 tI:PySem.W.typeIn K (.ref fI)=some (.type "function")
 gC:mg x=some (.ref C)
 ok:FnOk P w K mg base CX0 2 fI fd ["self"] (zCW K m)
 bn:Bnd K fd ["self"] 1 [] [.p 0] []
 xf:XfC K C
 te:PySem.W.exmOne K (.ref C) (.ref C)=some true
abbrev Tb.NoBreak(t:Tb):Addr:=t.cl 1
abbrev Tb.BadBar(t:Tb):Addr:=t.cl 3
abbrev Tb.BadPaper(t:Tb):Addr:=t.cl 8
section
variable {X:Cx}{W:WX}{pos:Pos}{tg e:Expr}{tx:XD→DE}
theorem zHq{i:Nat}{x:Str}{pos':Pos}(hN:X.N.Nodup)(hi:X.N[i]?=some x)(hx:Loc X.env.scope x)(he:PE X e (zFu X.K W tx))(hs:swapsWith e (some (.Name x pos')) pos.line X.env=pure false:=by rfl)(hf:X.fn x=true∨X.env.scope.names.lookup x=some .local:=by first|exact .inl rfl|exact .inr rfl|assumption):
  PS X (.Assign [.Name x pos'] e pos) (zCl X.K W (zCz i tx)):=PS.by (ps_set hN hi hx he hs hf) fun E s H ⟨G,O,g,F,rl,gr,h,k⟩=>
 ⟨G,O,g,_,_,rl,gr,h,fun x O1 v G1 H1 go1 vr1 q1=>k.nx _ _ _ _ _ go1 ((gr.mono go1.ex).set i vr1) q1,fun c d O1 G1 H1 go1 z=>k.xc _ _ _ _ _ _ _ go1 (gr.mono go1.ex) z⟩
end
end DL
namespace DL
open PySem PySem.Spec PyProof.Rows L2
open Evl (Ex)
end DL
namespace DL
open PySem PySem.Spec PyProof.Rows L2
open Evl (Ex)
class EmT (K:PySem.W.Frag) (a:Addr):Prop where
 vr:∀G,VR K G (.ref a) (.tup [])
theorem EmT.of{K:PySem.W.Frag}{a:Addr}{od:Option Addr}{n:Nat}{sl:Array (Option Value)}(l:K.lookup a=some ⟨.type "tuple",od,.seq ([]:List Value).toArray n,sl⟩):EmT K a:=
 ⟨fun G=>.tup (vs:=[]) (.inr ⟨_,([]:List Value).toArray,n,l,rfl,rfl,by simp,.nil⟩) .nil⟩
def zUU(x:V)(xs:List V):List Bool:=xs.map fun y=>eqV y x
theorem zOG{x:V}:∀{xs:List V}{us:List Value},Vals xs us→xs.all flatV=true→us.map (eqU x)=zUU x xs
 |_,_,.nil,_=>rfl
 |y::xs,u::us,.cons r t,f=>by
  rw[kM,qE] at f
  show eqU x u::us.map (eqU x)=eqV y x::zUU x xs
  rw[eqU_of r f.1,zOG t f.2]
def zR3(K:PySem.W.Frag):V→List V→Hp→VK→Prop:=fun x vs H Q=>∃l y xs,x=.ref l∧vs=[y]∧SqL K H l xs∧flatV y=true∧xs.all flatV=true∧true∈zUU y xs∧Q (.int ((zUU y xs).idxOf true:Nat)) H
theorem mt_index{X:Cx}:MtM X "list.index" (zR3 X.K):=by
 intro pins s σ H x vs v us Q I rx rv h
 obtain⟨l,y,xs,rfl,rfl,hS,fy,fs,hm,q⟩:=h
 cases rx
 obtain⟨u,rfl,ru⟩:=rv.one
 obtain⟨its,r,pl,hz⟩:=I.list hS
 have e:=zOG (x:=y) r fs
 refine SeqAt.call_list_index (ks:=its.map (eqU y)) (k:=true) pl.isList ⟨by rw[qd],fun j h1 h2=>?_⟩ (by rw[qd,←r.length];exact hz) (by rw[e];exact hm) ⟨.int _,H,I.tok _,⟨_,rfl⟩,by rw[e];exact q⟩
 have:=mem_eqAt (A:=X.A.in1) (s:=s) ru fy r fs _ (kJ h1)
 rw[show decide ((its.map (eqU y))[j]=true)=eqU y its[j] by rw[List.getElem_map];simp]
 exact this
def zUV(x:D)(xs:List D):List Bool:=xs.map fun y=>eqF y x
def zMn:DM:=fun x vs O R=>match lstOf O x,vs with|some xs,[y]=>flD y=true∧xs.all flD=true∧true∈zUV y xs∧R (.int ((zUV y xs).idxOf true:Nat)) O|_,_=>False
theorem zOH{K:PySem.W.Frag}{G:Hp}{v:V}{x:D}{vs:List V}{xs:List D}(hv:VR K G v x)(hs:VRs K G vs xs)(h:flD x=true)(h':xs.all flD=true):zUU v vs=zUV x xs:=by
 match vs,xs,hs with
 |_,_,.nil=>rfl
 |_,_,.cons (v:=w) (vs:=ws) (d:=y) (ds:=ys) q r=>
  rw[kM,qE] at h'
  show eqV w v::zUU v ws=eqF y x::zUV x ys
  rw[zOH hv r h h'.2,zSm q hv h'.1 h]
theorem sIndex{K:PySem.W.Frag}:MtS K (zR3 K) zMn:=fun {G O H x xs v vs R Q} rl hx hv h k=>by
 unfold zMn at h
 cases e1:lstOf O x with
 |none=>simp only[e1] at h
 |some zs=>
  match xs,hv,h with
  |[y],hv,h=>
   simp only[e1] at h
   obtain⟨u,rfl,hu⟩:=hv.one
   obtain⟨a,ws,rfl,hq,hw⟩:=rl.lstOf hx e1
   have e:=zOH hu hw h.1 h.2.1
   exact⟨a,u,ws,rfl,rfl,hq,zMb hu h.1,zIw hw h.2.1,by rw[e];exact h.2.2.1,by rw[e];exact k.here rl (.int _) h.2.2.2⟩
  |[],hv,h=>simp only[e1] at h
  |_::_::_,hv,h=>simp only[e1] at h
end DL
namespace DL
open PySem PySem.Spec PyProof.Rows L2
open PySem.W (EachIs AllAlike Sortable dataLe)
open Evl (Ex)
end DL
namespace DL
open PySem PySem.Spec PyProof.Rows L2
open Evl (Ex)
end DL
namespace DL
open PySem PySem.Spec PyProof.Rows L2
open Evl (Ex)
end DL
namespace DL
open PySem PySem.Spec PyProof.Rows L2
open Evl (Ex)
end DL
namespace DL
open PySem PySem.Spec PyProof.Rows L2
open Evl (Ex)
def zN5(K:PySem.W.Frag):List V→Hp→VK→Prop:=fun vs H Q=>∃(a:Addr) (d:PyData),vs=[.ref a]∧Dp K H (.ref a) d∧d.showable=true∧d.hasDict=false∧d.depth≤32∧d.shown.length≤sizeLine∧Q (.str d.shown) H
theorem zUx{X:Cx}(hg:X.A.guards=some [])(hu:X.A.units+64<cLine):CallR X (.builtin "repr") (zN5 X.K):=by
 intro pins s σ H vs us Q I r h
 obtain⟨a,d,rfl,hd,h1,h2,h3,h4,q⟩:=h
 rw[Vals.ref1 r]
 obtain⟨as,rd⟩:=Dp.reads I d (.ref a) (.ref a) hd rfl
 exact repr_of_reads' rd h1 (PyData.noDict_hsm h2) hg (by omega) (fun _ _ e=>e) (fun h' u tk hk=>⟨.str d.shown,H,I.kept hk,⟨u,rfl⟩,q⟩) h4
def zM9:DC:=fun xs O R=>match xs with
 |[x]=>∃(zs:List D) (d:PyData),lstOf O x=some zs∧Vw O x d∧d.showable=true∧d.hasDict=false∧d.depth≤32∧d.shown.length≤sizeLine∧R (.str d.shown) O
 |_=>False
theorem zV1{K:PySem.W.Frag}:CaS K (zN5 K) zM9:=fun {G O H xs vs R Q} rl hv h k=>by
 match xs,hv,h with
 |[x],hv,h=>
  obtain⟨v,rfl,hw⟩:=hv.one
  obtain⟨zs,d,h0,hd,h1,h2,h3,h4,r⟩:=h
  obtain⟨a,us,rfl,hq,hu⟩:=rl.lstOf hw h0
  exact⟨a,d,rfl,hd.dp rl hw,h1,h2,h3,h4,k.here rl (.str _) r⟩
theorem zMs{X:Cx}{k:Nat}(hg:X.A.guards=some [])(hr:Room k X.A):CallR X (.builtin "repr") (zN5 X.K):=zUx hg (by have:=hr.un;omega)
structure FnOkG(P:Program)(w:World)(K:PySem.W.Frag)(mg:Str→Option Value)(base:Heap)(k:Nat)(f:Addr)(fd:FuncData)(ps:List Str)(sp:Sp):Prop where
 run:∀(A:Around) (outer:List Env) (s:Shared) (H:Hp) (args:Args) (us:List Value) (vs:List V) (Q:VK) (E:XK),A.guards=some []→Room k A→Env0 P w K mg base A outer s H→BindsTo s fd args (ps.zip us)→Vals vs us→sp vs H Q E→
  codeAny (model P w) A (.call (.ref f) args) (CR CX0 outer P w H s Q E) s
section
variable {P:Program}{w:World}{K:PySem.W.Frag}{mg:Str→Option Value}{base:Heap}
theorem zXv{x qual:Str}{params:Arguments}{body:List Stmt}{scope:Scope}{dvs:List V}{kws:List (Str×V)}{f:Addr}{fd:FuncData}{N ps:List Str}{k:Nat}{dsp:DSp}{t:DS}(F:FunD K x qual params body scope dvs kws f fd)(S:FnScope N ps scope)
  (len:∀xs O R Z,dsp xs O R Z→xs.length=ps.length)
  (hb:∀(cdv:Value) (A:Around) (outer:List Env) (s:Shared) (H:Hp) (E:XK),A.guards=some []→Room k (A.deeper (envOfC qual scope s.heap.objs.size f cdv))→PSs (cxOf CX0 P w K mg base N qual scope f cdv A outer s H E).nox body (zCl K W0 t))
  (hd:∀xs O R Z,dsp xs O R Z→t (zBw R) (zAr N xs) O):FnOkG P w K mg base (k+1) f fd ps (zCx K dsp):=by
 obtain⟨oc,od,dV,kV,doc,pm,an,cdv,ct,osl,rfl,lk,hcd,_,_⟩:=F.ex
 refine⟨fun A outer s H args us vs Q E gA hr e0 hbd r h=>?_⟩
 obtain⟨G,O,xs,R,Z,rl,vr,hs,kk,_⟩:=h
 have hl:vs.length=ps.length:=by rw[vr.length];exact len _ _ _ _ hs
 have inK:K.In s.heap:=e0.mod.kin.keeps fun b o e=>(e0.bs b o e).1
 have nolim:s.heap.NoLimit:=e0.mod.nolimit.keeps fun b o e=>(e0.bs b o e).1
 refine codeAny_call_function hr.depth (inK _ _ lk) rfl S.co S.gen rfl (PySem.W.codeRec_of inK hcd) (hbd _ _ _ _ ?_)
 refine wpAny_newFunctionEnv_cells S.kind (fun y hy=>?_) fun env he s1 ic=>?_
 ·obtain⟨n,v⟩:=y
  exact(S.par n (List.of_mem_zip hy).1).imp_right fun q=>⟨q,PySem.W.cellsFrom_some _ _ _ (.inl q)⟩
 subst he
 refine⟨nolim.keeps ic.toInCall.keep,codeAny_func ?_⟩
 have body:=(hb cdv A outer s H E gA (hr.deeper _)).nox
 have I:Inv (cxOf CX0 P w K mg base N qual scope f cdv A outer s H E) [] (start N vs) H s1:=inv_start S hr.hd e0 hl r ic
 refine wpAny_mono (body.run [] s1 (start N vs) H {nx:=fun _ H'=>Q .non H',rt:=Q} I ?_) (fun fl s' hf=>?_) fun e s' hf=>hf
 ·refine⟨G,O,zAr N xs,zBw R,rl,GR.start vr,hd _ _ _ _ hs,⟨fun s' g' O' G' H' go gr q=>?_,fun _ _ _ _ _ _ _ q=>q,fun _ _ _ _ _ _ _ q=>q,fun x O' v G' H' go vr q=>?_,fun _ _ _ _ _ _ _ _ _ q=>q⟩⟩
  ·obtain⟨O2,h1,h2⟩:=q
   exact kk _ _ _ _ _ (go.less h1) .non h2
  ·obtain⟨O2,h1,h2⟩:=q
   exact kk _ _ _ _ _ (go.less h1) vr h2
 ·have done:∀{σ':L2.St}{H':Hp}{v:V}{u:Value},Inv (cxOf CX0 P w K mg base N qual scope f cdv A outer s H E) [] σ' H' s'→RelV v u→Q v H'→CE outer P w H s Q u s':=
   fun {_ H' v _} J rv q=>⟨v,H',J.os,J.bare,J.base,J.hok,rv,q⟩
  match fl,hf with
  |.ret u,⟨v,_,H',J,rv,q⟩=>exact done J rv q
  |.next,⟨_,H',J,q⟩=>exact done (v:=V.non) (u:=Value.none) J rfl q
  |.brk,⟨_,_,_,q⟩=>exact q.elim
  |.cont,⟨_,_,_,q⟩=>exact q.elim
end
end DL
namespace L2
open PySem PySem.Spec PyProof.Rows
abbrev Cla:=Value×Option Nat×(Addr→Value→Option Addr→TS)
def yBM(D:Ends)(i:Nat):Ends:={nx:=fun s H=>D.nx (s.set i none) H,rt:=D.rt,bk:=fun s H=>D.bk (s.set i none) H,ct:=fun s H=>D.ct (s.set i none) H}
def zUO(K:PySem.W.Frag)(Wo:WX)(D:Ends):List Cla→WX
 |[]=>Wo
 |(c,none,ts)::r=>fun cls d g H=>∃b,PySem.W.exmOne K cls c=some b∧(b=true→∀a,H a=none→ts a cls d D g H)∧(b=false→zUO K Wo D r cls d g H)
 |(c,some i,ts)::r=>fun cls d g H=>∃b,PySem.W.exmOne K cls c=some b∧(b=true→∀a,H a=none→ts a cls d (yBM D i) (g.set i (some (.ref a))) H)∧(b=false→zUO K Wo D r cls d g H)
inductive HdMix (X:Cx):List ExceptHandler→List Cla→Prop
 |nil:HdMix X [] []
 |plain {x:Str}{c:Value}{ts:Addr→Value→Option Addr→TS}{b0:Stmt}{su:List Stmt}{q1 q2:Pos}{hd:List ExceptHandler}{l:List Cla}:Names X x c→
   (∀(a:Addr) (oe:Obj) (cls:Value) (d:Option Addr) (pn:List (Addr×Obj)),Zc cls d oe→(∃vs,oe.data=.fields vs)→PSs (X.suite a ((a,oe)::pn)) (b0::su) (ts a cls d))→HdMix X hd l→HdMix X (.ExceptHandler (some (.Name x q1)) none (b0::su) q2::hd) ((c,none,ts)::l)
 |named {x n:Str}{i:Nat}{c:Value}{ts:Addr→Value→Option Addr→TS}{b0:Stmt}{su:List Stmt}{q1 q2:Pos}{hd:List ExceptHandler}{l:List Cla}:X.N[i]?=some n→X.env.kindOf n=some .local→Names X x c→
   (∀(a:Addr) (oe:Obj) (cls:Value) (d:Option Addr) (pn:List (Addr×Obj)),Zc cls d oe→(∃vs,oe.data=.fields vs)→PSs (X.suite a ((a,oe)::pn)) (b0::su) (ts a cls d))→HdMix X hd l→HdMix X (.ExceptHandler (some (.Name x q1)) (some n) (b0::su) q2::hd) ((c,some i,ts)::l)
section
variable {X:Cx}{body:List Stmt}{h0:ExceptHandler}{hd:List ExceptHandler}{l:List Cla}{pos:Pos}{tb:WX→TS}{Wo:WX}
theorem zMR(st:X.stack=X.env::X.outer)(fr:X.env.frame=some X.env.locals)(nd:X.N.Nodup)(tk:Takes X Wo)
  (hb:∀(W:WX) (pn:List (Addr×Obj)) (xe:Value→Shared→Prop),Takes (X.tr pn xe) W→PassesOwn (model X.prog X.w) X.A X.env xe→PSs (X.tr pn xe) body (tb W))
  (hh:HdMix X (h0::hd) l):PS X (.Try body (h0::hd) [] [] pos) (fun D g H=>tb (zUO X.K Wo D l) D g H):=by
 refine⟨fun pins s g H D I h=>wpAny_Try_except ?_⟩
 have ok:=I.ok
 have frm:X.A.frames=some (X.env::X.outer):=ok.frames.trans (jB some st)
 let land:Value→Shared→Prop:=fun e s1=>wpAny (model X.prog X.w) X.A (noteFrame e X.env) (fun _ s2=>wpAny (model X.prog X.w) X.A (setFlight e none) (fun _ s3=>wpAny (model X.prog X.w) X.A (handleBy e X.env (h0::hd)) (SP X pins D) X.xe s3) X.xe s2) X.xe s1
 refine wpAny_mono ((hb (zUO X.K Wo D l) (X.pn++pins) land (fun u s' caught=>?_) PassesOwn.looking).run [] s g H D (I.toTry _) h) (fun f s1 hsp=>?_) (fun e s1 he=>he)
 ·obtain⟨a,B,sI,pins',g',H',cls,d,rfl,J0,nb,up,sky,na,os,ag,w⟩:=caught
  have J:Inv X pins g' H' sI:=J0.ofTry ok
  rw[st] at sky
  show wpAny (model X.prog X.w) X.A (noteFrame (.ref a) X.env) _ _ _
  refine Sky.land Zc.steady frm fr sky fun h3 fl up3=>?_
  have J3:Inv X pins g' H' {s' with heap:=h3}:=J.landed nb fl.1 (up.trans up3) os ag
  obtain⟨oe,vs,he,hz,hdat⟩:=fl.there
  have nfr:a∉frs (X.env::X.outer):=fun hm=>by
   obtain⟨_,o',e',hnf⟩:=fl.2.2.1.mem hm
   rw[he] at e'
   cases e'
   exact hnf _ hdat
  have nL:a≠X.env.locals:=fun z=>nfr (kq.mpr ⟨X.env,qz,fr.trans (jB some z.symm)⟩)
  have nF:a∉X.fs:=fun hm=>nfr (by
   obtain⟨e,k1,k2⟩:=kq.mp hm
   exact kq.mpr ⟨e,qA _ k1,k2⟩)
  have S3:=J3.suite he hdat na nL nF
  have LT:PySem.W.Looks (model X.prog X.w) h3 (typeOf (.ref a)) cls:=fun _ _ _ _ k q=>wpAny_typeOf_ref (k _ _ he) (hz.1▸q)
  -- the clause's class is looked up
  have look:∀{x:Str}{c:Value}{p1:Pos}{Q E:Value→Shared→Prop},Names X x c→Q c {s' with heap:=h3}→wpAny (model X.prog X.w) (X.A.mark (some (.ref a))) (eval (.Name x p1) X.env) Q E {s' with heap:=h3}:=fun hc q=>
   match hc with
   |⟨k1,k2,.inl k3⟩=>ld_glob (X:=X.suite a ((a,oe)::(X.pn++pins))) S3 k1 k3 q k2
   |⟨k1,k2,.inr ⟨k3,k4,k5⟩⟩=>ld_blt (X:=X.suite a ((a,oe)::(X.pn++pins))) S3 k1 k3 k4 q k5 k2
  suffices go:∀{hs:List ExceptHandler}{ls:List Cla},HdMix X hs ls→zUO X.K Wo D ls cls d g' H'→wpAny (model X.prog X.w) X.A (handleBy (.ref a) X.env hs) (SP X pins D) X.xe {s' with heap:=h3} from go hh w
  intro hs ls hk
  induction hk with
  |nil=>
   intro w
   refine wpAny_handleBy_nil ?_
   obtain⟨_,_,_,oe2,vs2,T,oT,ts2,he2,_,hd2,h2,_⟩:=id fl
   have out:wpAny (model X.prog X.w) X.A (setFlight (.ref a) X.env.frame) (fun _ s4=>wpAny (model X.prog X.w) X.A (throw (.ref a):Sem Flow) (SP X pins D) X.xe s4) X.xe {s' with heap:=h3}:=by
    rw[fr]
    exact HandSPX.setFlight_upZ fl fun h4 sk4 up4=>wpAny_throw (tk _ _ ⟨a,B,sI,pins,g',H',cls,d,rfl,J,nb,(up.trans up3).trans up4,.inr (.inr (st▸sk4)),na,os,ag,w⟩)
   unfold PySem.passOn
   refine wpAny_bind (wpAny_field he2 hd2 h2 ?_)
   rw[qb (by simp)]
   first|exact wpAny_bind (wpAny_pure (wpAny_bind out))|exact wpAny_bind out
  | @plain x c ts b0 su q1 q2 hds ls hc hsu r ih=>
   rintro⟨b,w1,w2,w3⟩
   refine wpAny_handleBy_cons (codeAny_handlers_test (look hc ((PySem.W.exm_one (M:=model X.prog X.w) J3.kIn LT w1).here ?_))) (by intro q;cases q)
   cases b with
   |false=>exact ih (w3 rfl)
   |true=>
    refine codeAny_handlers_suite (HandSPX.lands_againZ fl fun h4 fl4 up4=>?_)
    obtain⟨o4,v4,he4,hz4,hd4⟩:=fl4.there
    have J4:Inv X pins g' H' {s' with heap:=h4}:=J.landed nb fl4.1 ((up.trans up3).trans up4) os ag
    refine wpAny_mono ((hsu a o4 cls d (X.pn++pins) hz4 ⟨_,hd4⟩).run [] _ _ H' _ (J4.suite he4 hd4 na nL nF) (w2 rfl a na)) (fun f s6 hsp=>?_) (fun _ _ z=>z.elim)
    match f,hsp with
    |.next,⟨_,_,S6,q6⟩=>exact⟨_,_,S6.unsuite ok,q6⟩
    |.brk,⟨_,_,S6,q6⟩=>exact⟨_,_,S6.unsuite ok,q6⟩
    |.cont,⟨_,_,S6,q6⟩=>exact⟨_,_,S6.unsuite ok,q6⟩
    |.ret u,⟨_,_,_,S6,r6,q6⟩=>exact⟨_,_,_,S6.unsuite ok,r6,q6⟩
  | @named x n i c ts b0 su q1 q2 hds ls hi hln hc hsu r ih=>
   rintro⟨b,w1,w2,w3⟩
   refine wpAny_handleBy_cons (codeAny_handlers_test (look hc ((PySem.W.exm_one (M:=model X.prog X.w) J3.kIn LT w1).here ?_))) (by intro q;cases q)
   cases b with
   |false=>exact ih (w3 rfl)
   |true=>
    refine codeAny_handlers_suite_as (HandSPX.lands_againZ fl fun h4 fl4 up4=>?_)
    obtain⟨o4,v4,he4,hz4,hd4⟩:=fl4.there
    have J4:Inv X pins g' H' {s' with heap:=h4}:=J.landed nb fl4.1 ((up.trans up3).trans up4) os ag
    refine store_ok (X:=X.suite a ((a,o4)::(X.pn++pins))) (v:=.ref a) (J4.suite he4 hd4 na nL nF) nd hi (.inl hln) rfl (fun s5 S5=>?_) (.inr hln)
    refine wpAny_mono ((hsu a o4 cls d (X.pn++pins) hz4 ⟨_,hd4⟩).run [] s5 _ H' _ S5 (w2 rfl a na)) (fun f s6 hsp=>?_) (fun _ _ z=>z.elim)
    have drop:∀{g6:St}{H6:Hp}{Q:Shared→Prop},Inv (X.suite a ((a,o4)::(X.pn++pins))) [] g6 H6 s6→(∀s7,Inv X pins (g6.set i none) H6 s7→Q s7)→wpAny (model X.prog X.w) X.A (do bindName X.env n .none;unbindBehindTheSuite X.env n q2) (fun _ s7=>Q s7) X.xe s6:=
     fun S6 hq=>gone_ok (S6.unsuite ok) nd hi hln hq
    match f,hsp with
    |.next,⟨_,_,S6,q6⟩=>exact drop S6 fun s7 J7=>⟨_,_,J7,q6⟩
    |.brk,⟨_,_,S6,q6⟩=>exact drop S6 fun s7 J7=>⟨_,_,J7,q6⟩
    |.cont,⟨_,_,S6,q6⟩=>exact drop S6 fun s7 J7=>⟨_,_,J7,q6⟩
    |.ret u,⟨_,_,_,S6,r6,q6⟩=>exact drop S6 fun s7 J7=>⟨_,_,_,J7,r6,q6⟩
 ·match f,hsp with
  |.next,⟨_,_,J',q⟩=>exact wpAny_execs_nil ⟨_,_,J'.ofTry ok,q⟩
  |.brk,⟨_,_,J',q⟩=>exact⟨_,_,J'.ofTry ok,q⟩
  |.cont,⟨_,_,J',q⟩=>exact⟨_,_,J'.ofTry ok,q⟩
  |.ret u,⟨_,_,_,J',r,q⟩=>exact⟨_,_,_,J'.ofTry ok,r,q⟩
end
end L2
namespace DL
open PySem PySem.Spec PyProof.Rows L2
open Evl (Ex)
structure DCl where
 cat:Value→Bool→Prop
 nm:Option Nat
 ts:Addr→Value→Option Addr→DS
def DEnds.calm(F:DEnds):Option Nat→DEnds
 |none=>{F with xc:=fun _ _ _ _=>False}
 |some i=>{F with nx:=fun g O=>F.nx (g.set i none) O,bk:=fun g O=>F.bk (g.set i none) O,ct:=fun g O=>F.ct (g.set i none) O,xc:=fun _ _ _ _=>False}
def zW7(g:Gm)(a:Addr):Option Nat→Gm
 |none=>g
 |some i=>g.set i (some (.ref a))
def zUv(F:DEnds):List DCl→Value→Option Addr→Gm→Om→Prop
 |[],c,d,g,O=>F.xc c d g O
 |k::r,c,d,g,O=>∃b,k.cat c b∧(b=true→∀a,O a=none→k.ts a c d (F.calm k.nm) (zW7 g a k.nm) O)∧(b=false→zUv F r c d g O)
def zUn(ks:List DCl)(tb:DS):DS:=fun F g O=>tb {F with xc:=zUv F ks} g O
inductive HdD (X:Cx):List ExceptHandler→List (Value×DCl)→Prop
 |nil:HdD X [] []
 |plain {x:Str}{c:Value}{cat:Value→Bool→Prop}{ts:Addr→Value→Option Addr→DS}{b0:Stmt}{su:List Stmt}{q1 q2:Pos}{hd:List ExceptHandler}{l:List (Value×DCl)}:Names X x c→(∀cl b,cat cl b→PySem.W.exmOne X.K cl c=some b)→
   (∀(a:Addr) (oe:Obj) (cls:Value) (d:Option Addr) (pn:List (Addr×Obj)),Zc cls d oe→(∃vs,oe.data=.fields vs)→PSs (X.suite a ((a,oe)::pn)) (b0::su) (zCl X.K W0 (ts a cls d)))→HdD X hd l→HdD X (.ExceptHandler (some (.Name x q1)) none (b0::su) q2::hd) ((c,⟨cat,none,ts⟩)::l)
 |named {x n:Str}{i:Nat}{c:Value}{cat:Value→Bool→Prop}{ts:Addr→Value→Option Addr→DS}{b0:Stmt}{su:List Stmt}{q1 q2:Pos}{hd:List ExceptHandler}{l:List (Value×DCl)}:X.N[i]?=some n→X.env.kindOf n=some .local→Names X x c→(∀cl b,cat cl b→PySem.W.exmOne X.K cl c=some b)→
   (∀(a:Addr) (oe:Obj) (cls:Value) (d:Option Addr) (pn:List (Addr×Obj)),Zc cls d oe→(∃vs,oe.data=.fields vs)→PSs (X.suite a ((a,oe)::pn)) (b0::su) (zCl X.K W0 (ts a cls d)))→HdD X hd l→HdD X (.ExceptHandler (some (.Name x q1)) (some n) (b0::su) q2::hd) ((c,⟨cat,some i,ts⟩)::l)
def zYf(K:PySem.W.Frag)(k:Value×DCl):Cla:=(k.1,k.2.nm,fun a cls d=>zCl K W0 (k.2.ts a cls d))
theorem HdD.mix{X:Cx}:∀{hd:List ExceptHandler}{l:List (Value×DCl)},HdD X hd l→HdMix X hd (l.map (zYf X.K))
 |_,_,.nil=>.nil
 |_,_,.plain hc _ hsu r=>.plain hc hsu r.mix
 |_,_,.named hi hln hc _ hsu r=>.named hi hln hc hsu r.mix
theorem zVY{X:Cx}{W:WX}{body:List Stmt}{h0:ExceptHandler}{hd:List ExceptHandler}{l:List (Value×DCl)}{pos:Pos}{tb:DS}(st:X.stack=X.env::X.outer)(fr:X.env.frame=some X.env.locals)(nd:X.N.Nodup)(tk:Takes X W)
  (hb:∀(W:WX) (pn:List (Addr×Obj)) (xe:Value→Shared→Prop),Takes (X.tr pn xe) W→PassesOwn (model X.prog X.w) X.A X.env xe→PSs (X.tr pn xe) body (zCl X.K W tb))
  (hh:HdD X (h0::hd) l):PS X (.Try body (h0::hd) [] [] pos) (zCl X.K W (zUn (l.map (·.2)) tb)):=
 PS.by (zMR (tb:=fun W=>zCl X.K W tb) (Wo:=W) st fr nd tk hb hh.mix) fun E s H ⟨G,O,g,F,rl,gr,h,k⟩=>
  ⟨G,O,g,_,rl,gr,h,⟨k.nx,k.bk,k.ct,k.rt,fun c' d' s1 g1 O1 G1 H1 go1 gr1 q=>by
   refine(?key:∀{hds:List ExceptHandler}{l:List (Value×DCl)},HdD X hds l→zUv F (l.map (·.2)) c' d' g1 O1→zUO X.K W E (l.map (zYf X.K)) c' d' s1 H1) hh q
   intro hds l hk
   induction hk with
   |nil=>intro q;exact k.xc _ _ _ _ _ _ _ go1 gr1 q
   |plain hc hcat hsu r ih=>
    rintro⟨b,h1,h2,h3⟩
    refine⟨b,hcat _ _ h1,fun hb a ha=>?_,fun hb=>ih (h3 hb)⟩
    exact⟨G1,O1,g1,_,go1.rel,gr1,h2 hb a (go1.rel.fresh ha).1,⟨fun s2 g2 O2 G2 H2 go2 gr2 q=>k.nx _ _ _ _ _ (go1.trans rl go2) gr2 q,fun s2 g2 O2 G2 H2 go2 gr2 q=>k.bk _ _ _ _ _ (go1.trans rl go2) gr2 q,
     fun s2 g2 O2 G2 H2 go2 gr2 q=>k.ct _ _ _ _ _ (go1.trans rl go2) gr2 q,fun x O2 v G2 H2 go2 vr q=>k.rt _ _ _ _ _ (go1.trans rl go2) vr q,fun _ _ _ _ _ _ _ _ _ z=>z⟩⟩
   | @named x n i c cat ts b0 su q1 q2 hd l hi hln hc hcat hsu r ih=>
    rintro⟨b,h1,h2,h3⟩
    refine⟨b,hcat _ _ h1,fun hb a ha=>?_,fun hb=>ih (h3 hb)⟩
    exact⟨G1,O1,_,_,go1.rel,gr1.set i (.ref a),h2 hb a (go1.rel.fresh ha).1,⟨fun s2 g2 O2 G2 H2 go2 gr2 q=>k.nx _ _ _ _ _ (go1.trans rl go2) (gr2.forget i none) q,fun s2 g2 O2 G2 H2 go2 gr2 q=>k.bk _ _ _ _ _ (go1.trans rl go2) (gr2.forget i none) q,
     fun s2 g2 O2 G2 H2 go2 gr2 q=>k.ct _ _ _ _ _ (go1.trans rl go2) (gr2.forget i none) q,fun x O2 v G2 H2 go2 vr q=>k.rt _ _ _ _ _ (go1.trans rl go2) vr q,fun _ _ _ _ _ _ _ _ _ z=>z⟩⟩⟩⟩
def zA1(t:XD→DE):DS:=fun F g O=>t (fun c d O1=>F.xc c d g O1) g O fun _ O1=>F.nx g O1
section
variable {X:Cx}{W:WX}{e:Expr}{tx:XD→DE}{pos:Pos}{st:Stmt}{t:DS}
theorem zBS(he:PE X e (zFu X.K W tx))(hs:swapsWith e none pos.line X.env=pure false:=by rfl):PS X (.Expr e pos) (zCl X.K W (zA1 tx)):=PS.by (ps_expr he hs) fun E s H ⟨G,O,g,F,rl,gr,h,k⟩=>
 ⟨G,O,g,_,_,rl,gr,h,fun x O1 v G1 H1 go1 vr1 q1=>k.nx _ _ _ _ _ go1 (gr.mono go1.ex) q1,fun c d O1 G1 H1 go1 z=>k.xc _ _ _ _ _ _ _ go1 (gr.mono go1.ex) z⟩
end
end DL
namespace DL
open PySem PySem.Spec PyProof.Rows L2
open Evl (Ex)
theorem Go.redo{K:PySem.W.Frag}{G:Hp}{O:Om}{H:Hp}{p:Addr}{vs:List V}{ds ds':List D}(rl:Rel K G O H)(e:O p=some (.lst ds))(hv:H p=some (.lst vs))(h:VRs K G vs ds'):Go K G O H G (up O p (.lst ds')) H:=by
 refine⟨⟨rl.g,fun a o ho=>?_⟩,Ex.refl G,fun _ _ _ h=>h,fun a o ho=>?_,fun a o h=>.inr (.inl ⟨o,h⟩)⟩
 ·by_cases ha:a=p
  ·subst ha
   rw[up_same] at ho
   cases ho
   exact⟨(rl.o a _ e).1,_,hv,h⟩
  ·rw[up_ne ha] at ho
   exact rl.o a o ho
 ·by_cases ha:a=p
  ·subst ha
   exact .inl ⟨_,e⟩
  ·rw[up_ne ha] at ho
   exact .inl ⟨o,ho⟩
end DL
namespace DL
open PySem PySem.Spec PyProof.Rows L2
open PySem.W (alike dataLt)
open Evl (Ex)
end DL
namespace DL
open PySem PySem.Spec PyProof.Rows L2
open Evl (Ex)
end DL
namespace DL
open PySem PySem.Spec PyProof PyProof.Rows L2
open Evl (Ex)
structure DmX(P:Program)(w:World)(K:PySem.W.Frag)(mg:Str→Option Value)(base:Heap)(k:Nat)(st:Stmt)(x q:Str)(ps:List Str)(dvs:List V)(kws:List (Str×V))(dsp:DSp)(f:Addr)(fd:FuncData):Prop where
 fn:FunD K x q (defArgs st) (defBody st) (defScope st) dvs kws f fd
 ok:FnOk P w K mg base (L2.CX P w) k f fd ps (zCx K dsp)
end DL
namespace DL
open PySem PySem.Spec PyProof.Rows L2
open Evl (Ex)
def zGR(u:DG)(tt:DT)(tk tv:DE)(ok:Om→Prop)(g:Gm)(R:List (Key×D)→Om→Prop):List D→List (Key×D)→Om→Prop
 |[],acc,O=>ok O∧R acc O
 |x::xs,acc,O=>ok O∧u x g O fun g1 O1=>tt g1 O1 fun b O2=>if b=true then tk g1 O2 fun x3 O3=>tv g1 O3 fun y O4=>(∃k,DL.keyOf x3=some k∧acc.length<sizeLine∧zGR u tt tk tv ok g R xs (zKp acc k y) O4) else zGR u tt tk tv ok g R xs acc O2
def zZd(it:DI)(u:DG)(tt:DT)(tk tv:DE)(vs:List Nat):DE:=fun g O R=>it g O fun xs ok O1=>zGR u tt tk tv ok (zCM g vs) (fun es O2=>∀p,O2 p=none→R (.ref p) (up O2 p (.dK es))) xs [] O1
theorem zTR{K:PySem.W.Frag}{it:DI}{u:DG}{tt:DT}{tk tv:DE}{vs:List Nat}:∀s H Q,zAs K (zZd it u tt tk tv vs) s H Q→tDc (zNj K it) (zG3 K vs u) (zEh K tt) (zAs K tk) (zAs K tv) vs s H Q:=fun s H Q ⟨G,O,g,R,rl,gr,h,k⟩=>by
 refine⟨G,O,g,_,rl,gr,h,fun xs ok O1 J G1 H1 go1 ir q1=>?_⟩
 intro Dl hD
 obtain⟨hO,hG⟩:=go1.rel.fresh hD
 have g0:Go K G1 O1 H1 G1 (up O1 Dl (.dK [])) (upd H1 Dl (.dK [])):=Go.new go1.rel (o:=.dK []) (u:=.dK []) hD .nil
 have less:∀{O':Om}{o:DO},O' Dl=none→∀a w,O' a=some w→up O' Dl o a=some w:=fun {O' o} n a w e=>by rw[up_ne (fun z=>by subst z;rw[n] at e;cases e)];exact e
 refine⟨fun i m H'=>∃G' O' acc,Go K G1 O1 H1 G' (up O' Dl (.dK acc)) H'∧O' Dl=none∧zGR u tt tk tv ok (zCM g vs) (fun es O2=>∀p,O2 p=none→R (.ref p) (up O2 p (.dK es))) (xs.drop i) acc O'∧m=xs.length-i∧i≤xs.length,
  ⟨_,G1,O1,[],g0,hO,q1,rfl,qR _⟩,?_⟩
 rintro i m H2 ⟨G2,O2,acc,go2,nO2,q2,hm,hi⟩
 have r2:Rel K G2 O2 H2:=go2.rel.less (less nO2)
 obtain⟨nG2,uu,hh,qq⟩:=go2.rel.o Dl _ up_same
 cases e:xs.drop i with
 |nil=>
  rw[e] at q2
  have hl:xs.length=i:=by
   have:=jB List.length e
   rw[jq,qT] at this
   omega
  refine .inl ⟨?_,k _ _ _ _ _ (go1.trans rl go2) (.ref Dl) (q2.2 Dl nO2)⟩
  rw[←hl]
  exact ir.stop G2 O2 H2 go2.ex r2 q2.1
 |cons x r=>
  rw[e] at q2
  obtain⟨hx,hr⟩:=zDC e
  have hlt:i<xs.length:=(qf.mp hx).1
  refine .inr ⟨ir.go i x G2 O2 H2 hx go2.ex r2 q2.1,fun H'=>∃G' O' acc,Go K G1 O1 H1 G' (up O' Dl (.dK acc)) H'∧O' Dl=none∧zGR u tt tk tv ok (zCM g vs) (fun es O2=>∀p,O2 p=none→R (.ref p) (up O2 p (.dK es))) r acc O',?_,fun v H3 hy=>?_⟩
  ·rintro H3 ⟨G3,O3,acc3,go3,n3,q3⟩
   exact⟨xs.length-(i+1),by omega,G3,O3,acc3,go3,n3,by rw[hr];exact q3,rfl,hlt⟩
  ·obtain⟨G3,go3,vr3⟩:=ir.yld i x G2 O2 H2 v H3 hx go2.ex r2 q2.1 hy
   refine⟨G3,O2,zCM g vs,x,_,go3.rel,(gr.mono (go1.ex.trans (go2.ex.trans go3.ex))).wipe vs,vr3,q2.2,fun s4 g4 O4 G4 H4 go4 gr4 w4 q4=>⟨w4.trans ?_,G4,O4,g4,_,go4.rel,gr4,q4,fun b O5 G5 H5 go5 q5=>?_⟩⟩
   ·have wipe2:∀us:List Nat,(∀a∈us,a∈vs)→L2.wipe (L2.wipe s us) vs=L2.wipe s vs:=by
     intro us
     induction us with
     |nil=>intro _;rfl
     |cons a us ih=>
      intro ha
      show L2.wipe ((L2.wipe s us).set a none) vs=_
      rw[zEs (ha a qz)]
      exact ih fun b hb=>ha b (qA _ hb)
    exact wipe2 vs fun _ z=>z
   ·have g25:Go K G2 O2 H2 G5 O5 H5:=(go3.trans r2 go4).trans r2 go5
    cases b with
    |false=>
     obtain⟨n5,h5,f5⟩:=g25.frame nO2 nG2 hh qq
     exact⟨G5,O5,acc,go2.trans go1.rel f5,n5,q5⟩
    |true=>
     refine⟨G5,O5,g4,_,go5.rel,gr4.mono go5.ex,q5,fun x6 O6 v6 G6 H6 go6 vr6 q6=>⟨G6,O6,g4,_,go6.rel,(gr4.mono go5.ex).mono go6.ex,q6,fun y O7 w G7 H7 go7 vr7 q7=>?_⟩⟩
     obtain⟨kk,ek,hsz,q7⟩:=q7
     have hk:=zCn vr6 ek
     have g27:=(g25.trans r2 go6).trans r2 go7
     obtain⟨n7,h7,f7⟩:=g27.frame nO2 nG2 hh qq
     have g17:=go2.trans go1.rel f7
     obtain⟨kvs,h7',q7'⟩:=g17.rel.dK up_same
     have hv:PR K G7 kvs acc:=q7'
     have gw:=Go.write g17.rel (a:=Dl) (o:=.dK (zKp acc kk y)) (u:=.dK (putK kvs kk w)) up_same (hv.put kk vr7)
     rw[zMA] at gw
     exact⟨kvs,kk,hk,h7',by rw[hv.len];exact hsz,G7,O7,zKp acc kk y,g17.trans go1.rel gw,n7,q7⟩
end DL
namespace DL
open PySem PySem.Spec PyProof.Rows L2
open Evl (Ex)
end DL
namespace DL
open PySem PySem.Spec PyProof.Rows L2
open Evl (Ex)
end DL
namespace DL
open PySem PySem.Spec PyProof.Rows L2
open Evl (Ex)
def zUq(to te:DE):DE:=fun g O R=>to g O fun x O1=>te g O1 fun y O2=>∃(a:Str) (ys:List Str),x=.str a∧lstOf O2 y=some (ys.map D.str)∧(ys.map (·.length)).sum+ys.length*a.length≤16777216∧R (.str (Txt.join a ys)) O2
section
variable {X:Cx}{o e:Expr}{to te:DE}{pos apos:Pos}{k:Nat}
theorem zXD(ho:PE X o (zAs X.K to))(he:PE X e (zAs X.K te))(hst:∀g O R,to g O R→to g O fun x O1=>(∃a,x=.str a)∧R x O1)(hs:starEach [e] X.env=[(false,eval e X.env)]:=by rfl)(hbase:attributeBase o "join" X.env (eval o X.env)=eval o X.env:=by rfl)(hline:(apos.endLine==pos.line)=true:=by rfl):
  PE X (.Call (.Attribute o "join" apos) [e] [] pos) (zAs X.K (zUq to te)):=PE.by (pe_join ho he hs hbase hline) fun s H Q ⟨G,O,g,R,rl,gr,h,k⟩=>
 ⟨G,O,g,_,rl,gr,hst _ _ _ h,fun x O1 v G1 H1 go1 vr1 q1=>by
  obtain⟨⟨a,rfl⟩,q1⟩:=q1
  cases vr1
  refine⟨⟨a,rfl⟩,G1,O1,g,_,go1.rel,gr.mono go1.ex,q1,fun y O2 u G2 H2 go2 vr2 q2=>?_⟩
  obtain⟨a',ys,e',hl,hz,r⟩:=q2
  cases e'
  obtain⟨p,us,rfl,hq,hu⟩:=go2.rel.lstOf vr2 hl
  rw[hu.strs] at hq
  exact⟨a,p,ys,rfl,rfl,.inl hq,hz,k _ _ _ _ _ (go1.trans rl go2) (.str _) r⟩⟩
theorem zP5{x:Str}:∀(g:Gm) (O:Om) (R:D→Om→Prop),dC (.str x) g O R→dC (.str x) g O fun x O1=>(∃a,x=.str a)∧R x O1:=fun _ _ _ h=>⟨⟨x,rfl⟩,h⟩
end
end DL
namespace DL
open PySem PySem.Spec PyProof.Rows L2
open Evl (Ex)
end DL
namespace DL
open PySem PySem.Spec PyProof.Rows L2
open Evl (Ex)
def zGQ:DC:=fun xs O R=>match xs with|[.ref a]=>(match O a with|some (.dK es)=>∀p,O p=none→R (.ref p) (up O p (.dK es))|_=>False)|_=>False
theorem zN0{K:PySem.W.Frag}:CaS K (fun xs H Q=>∃(a:Addr) (kvs:List (Key×V)),xs=[.ref a]∧Rd H a (.dK kvs)∧∀p,H p=none→Q (.ref p) (upd H p (.dK kvs))) zGQ:=fun {G O H xs vs R Q} rl hv h k=>by
 match xs,hv,h with
 |[.ref a],hv,h=>
  obtain⟨v,rfl,hw⟩:=hv.one
  cases hw
  have h:(match O a with|some (.dK es)=>∀p,O p=none→R (.ref p) (up O p (.dK es))|_=>False):=h
  cases e:O a with
  |none=>simp only[e] at h
  |some o=>
   cases o with
   |dK es=>
    simp only[e] at h
    obtain⟨kvs,h1,h2⟩:=rl.dK e
    exact⟨a,kvs,rfl,.inl h1,fun p hp=>k _ _ _ _ _ (Go.new rl (o:=.dK es) (u:=.dK kvs) hp h2) (.ref p) (h p (rl.fresh hp).1)⟩
   |_=>simp only[e] at h
def zFO(to tk:DE):DE:=fun g O R=>to g O fun x O1=>∃a,x=.ref a∧(∃es,O1 a=some (.dK es))∧tk g O1 fun y O2=>∃es k v,O2 a=some (.dK es)∧DL.keyOf y=some k∧valD es k=some v∧R v (up O2 a (.dK (zIB es k)))
def zO1(to tk tx:DE):DE:=fun g O R=>to g O fun x O1=>∃a,x=.ref a∧(∃es,O1 a=some (.dK es))∧tk g O1 fun y O2=>tx g O2 fun z O3=>∃es k,O3 a=some (.dK es)∧DL.keyOf y=some k∧(∀v,valD es k=some v→R v (up O3 a (.dK (zIB es k))))∧(valD es k=none→R z O3)
section
variable {X:Cx}{o e f:Expr}{to tk tx:DE}{pos apos:Pos}
theorem zK1(ho:PE X o (zAs X.K to))(he:PE X e (zAs X.K tk))(m:M1 X o "pop" apos e pos:=by exact⟨rfl,rfl,rfl,rfl⟩):PE X (.Call (.Attribute o "pop" apos) [e] [] pos) (zAs X.K (zFO to tk)):=
 PE.by (pe_dpop1 ho he m) fun s H Q ⟨G,O,g,R,rl,gr,h,k⟩=>
  ⟨G,O,g,_,rl,gr,h,fun x O1 v G1 H1 go1 vr1 q1=>by
   obtain⟨a,rfl,⟨es,e1⟩,q1⟩:=q1
   cases vr1
   obtain⟨kvs,h1,_⟩:=go1.rel.dK e1
   refine⟨a,rfl,.inl ⟨kvs,.inl h1⟩,G1,O1,g,_,go1.rel,gr.mono go1.ex,q1,fun y O2 u G2 H2 go2 vr2 q2=>?_⟩
   obtain⟨es2,kk,v,e2,ek,ev,r⟩:=q2
   obtain⟨kvs2,h2,p2⟩:=go2.rel.dK e2
   rcases p2.val kk with⟨z0,z⟩|⟨w,d,z1,z2,z3⟩
   ·rw[ev] at z;cases z
   ·rw[ev] at z2
    cases z2
    have gw:=Go.write go2.rel (a:=a) (o:=.dK (zIB es2 kk)) (u:=.dK (dropK kvs2 kk)) e2 (p2.drop kk)
    exact⟨kvs2,kk,w,h2,zCn vr2 ek,z1,k _ _ _ _ _ ((go1.trans rl go2).trans rl gw) (z3.mono gw.ex) r⟩⟩
theorem zUh(ho:PE X o (zAs X.K to))(he:PE X e (zAs X.K tk))(hf:PE X f (zAs X.K tx))(m:M2 X o "pop" apos e f pos:=by exact⟨rfl,rfl,rfl,rfl⟩):PE X (.Call (.Attribute o "pop" apos) [e,f] [] pos) (zAs X.K (zO1 to tk tx)):=
 PE.by (pe_dpop2 ho he hf m) fun s H Q ⟨G,O,g,R,rl,gr,h,k⟩=>
  ⟨G,O,g,_,rl,gr,h,fun x O1 v G1 H1 go1 vr1 q1=>by
   obtain⟨a,rfl,⟨es,e1⟩,q1⟩:=q1
   cases vr1
   obtain⟨kvs,h1,_⟩:=go1.rel.dK e1
   refine⟨a,rfl,.inl ⟨kvs,.inl h1⟩,G1,O1,g,_,go1.rel,gr.mono go1.ex,q1,fun y O2 u G2 H2 go2 vr2 q2=>⟨G2,O2,g,_,go2.rel,(gr.mono go1.ex).mono go2.ex,q2,fun z O3 w3 G3 H3 go3 vr3 q3=>?_⟩⟩
   obtain⟨es2,kk,e2,ek,r1,r2⟩:=q3
   obtain⟨kvs2,h2,p2⟩:=go3.rel.dK e2
   have g13:=(go1.trans rl go2).trans rl go3
   refine⟨kvs2,kk,h2,zCn vr2 ek,fun v hv=>?_,fun hv=>?_⟩
   ·rcases p2.val kk with⟨z0,z⟩|⟨w,d,z1,z2,z3⟩
    ·rw[hv] at z0;cases z0
    ·rw[hv] at z1
     cases z1
     have gw:=Go.write go3.rel (a:=a) (o:=.dK (zIB es2 kk)) (u:=.dK (dropK kvs2 kk)) e2 (p2.drop kk)
     exact k _ _ _ _ _ (g13.trans rl gw) (z3.mono gw.ex) (r1 d z2)
   ·rcases p2.val kk with⟨z0,z⟩|⟨w,d,z1,z2,z3⟩
    ·exact k _ _ _ _ _ g13 vr3 (r2 z)
    ·rw[hv] at z1;cases z1⟩
def zSA(t:DE):DE:=fun g O R=>∃a es,O a=some (.dK es)∧∀od kvs,t g (up O a (.fK od kvs es)) fun v O'=>O' a=some (.fK od kvs es)∧R v (up O' a (.dK es))
theorem zUg{a:Expr}{t:DE}(h:PE X a (zAs X.K t)):PE X a (zAs X.K (zSA t)):=PE.by (pe_lock h) fun s H Q ⟨G,O,g,R,rl,gr,h,k⟩=>by
 obtain⟨a,es,eo,h⟩:=h
 obtain⟨kvs,h1,h2⟩:=rl.dK eo
 refine⟨a,.dK kvs,h1,True.intro,fun od=>⟨G,_,g,_,rl.lock eo h2,gr,h od kvs,fun x O1 v G1 H1 go1 vr1 q1=>?_⟩⟩
 obtain⟨z1,z2⟩:=Go.unlock rl eo h2 go1 q1.1
 exact⟨z1,k _ _ _ _ _ z2 vr1 q1.2⟩
theorem PR.at{A:Type}{K:PySem.W.Frag}{G:Hp}:∀{vs:List (A×V)}{ds:List (A×D)}{i:Nat}{p:A×V}{q:A×D},PR K G vs ds→vs[i]?=some p→ds[i]?=some q→p.1=q.1∧VR K G p.2 q.2
 |_,_,i,p,q,.nil,h,_=>by simp at h
 |_,_,0,p,q,.cons h r,h1,h2=>by
  cases h1
  cases h2
  exact h
 |_,_,i+1,p,q,.cons h r,h1,h2=>PR.at r h1 h2
def itD(kv:Key×D):D:=.tup [kD kv.1,kv.2]
theorem ItR.items{K:PySem.W.Frag}{G:Hp}{a:Addr}{od:Obj}{kvs:List (Key×V)}{es:List (Key×D)}:ItR K (Iti a od kvs) G (es.map itD) (fun O=>O a=some (.fK od kvs es)) where
 stop:=fun G1 O H ex rl e=>by
  obtain⟨_,u,hu,q1,q2⟩:=rl.o a _ e
  subst q1
  exact⟨hu,by rw[qd,PR.len q2];exact qG _⟩
 go:=fun i d G1 O H e ex rl eo=>by
  obtain⟨_,u,hu,q1,q2⟩:=rl.o a _ eo
  subst q1
  exact⟨hu,by rw[PR.len q2];simpa using (qf.mp e).1⟩
 yld:=fun i d G1 O H x H' e ex rl eo y=>by
  obtain⟨T,k,v,hk,rfl,hT,rfl⟩:=y
  obtain⟨_,u,hu,q1,q2⟩:=rl.o a _ eo
  have q2:PR K G1 kvs es:=q2
  rw[qF] at e
  cases ee:es[i]? with
  |none=>rw[ee] at e;cases e
  |some z=>
   rw[ee] at e
   cases e
   have hp:k=z.1∧VR K G1 v z.2:=by
    exact PR.at q2 hk ee
   have gd:=Go.data rl (u:=.tup [kV k,v]) hT
   refine⟨_,gd,?_⟩
   exact .tup (SqT.of upd_same) (.cons (by rw[hp.1];exact VR.kD _) (.cons (hp.2.mono gd.ex) .nil))
def zOY(te:DE):DI:=fun g O R=>te g O fun x O1=>match x with|.ref a=>(match O1 a with|some (.fK od kvs es)=>R (es.map itD) (fun O=>O a=some (.fK od kvs es)) O1|_=>False)|_=>False
theorem zT2{elts:List Expr}{kk:Nat}{tpos cpos:Pos}{te:DE}(he:PE X e (zAs X.K te))(hbase:attributeBase e "items" X.env (eval e X.env)=eval e X.env:=by rfl)(hline:(apos.endLine==cpos.line)=true:=by rfl):PI X (.Tuple elts kk tpos) (.Call (.Attribute e "items" apos) [] [] cpos) (zNj X.K (zOY te)):=PI.by (pi_items he hbase hline) fun s H R ⟨G,O,g,R',rl,gr,h,k⟩=>⟨G,O,g,_,rl,gr,h,fun x O1 v G1 H1 go1 vr1 q1=>by
 match x,vr1,q1 with
 |.ref a,vr1,q1=>
  cases vr1
  have q1:(match O1 a with|some (.fK od kvs es)=>R' (es.map itD) (fun O=>O a=some (.fK od kvs es)) O1|_=>False):=q1
  cases e:O1 a with
  |none=>simp only[e] at q1
  |some o=>
   cases o with
   |fK od kvs es=>
    simp only[e] at q1
    obtain⟨_,u,hu,z1,z2⟩:=go1.rel.o a _ e
    subst z1
    exact⟨a,od,kvs,rfl,hu,k _ _ _ _ _ _ go1 ItR.items q1⟩
   |_=>simp only[e] at q1⟩
theorem yAw{kx vx tg iter:Expr}{ifs:List Expr}{scope:Scope}{own:List (Str×Nat)}{it:DI}{u:DG}{tt:DT}{tk tv:DE}(hc:X.calm=true)(hN:X.N.Nodup)(hi:PI X tg iter (zNj X.K it))(ok:BlkOk X.N X.env.scope scope own)
  (hg:∀(s:Shared) (H:Hp) (C:Addr) (cl:List (Str×Addr)) (fp:List Addr),PG (X.blk s H scope (compEnvC scope cl C X.env) fp) tg (zG3 X.K (own.map (·.2)) u)) (ht:∀(s:Shared) (H:Hp) (C:Addr) (cl:List (Str×Addr)) (fp:List Addr),PTs (X.blk s H scope (compEnvC scope cl C X.env) fp) ifs (zEh X.K tt))
  (hk:∀(s:Shared) (H:Hp) (C:Addr) (cl:List (Str×Addr)) (fp:List Addr),PE (X.blk s H scope (compEnvC scope cl C X.env) fp) kx (zAs X.K tk))
  (he:∀(s:Shared) (H:Hp) (C:Addr) (cl:List (Str×Addr)) (fp:List Addr),PE (X.blk s H scope (compEnvC scope cl C X.env) fp) vx (zAs X.K tv)) (hs:∀x,foldedSetIterable iter X.env x=pure x:=by intro _;rfl):
  PE X (.DictComp kx vx [⟨tg,iter,ifs,0⟩] scope pos) (zAs X.K (zZd it u tt tk tv (own.map (·.2)))):=
 PE.by (pe_dc hc hN hi ok hg ht hk he hs) zTR
end
end DL
namespace PySem
namespace OEL
open PySem.W PySem.Calls PyProof.Rows PySem.HandSPX Builtin Builtin.ObjectAttr
theorem zFq:∀l:List Value,refsLE l=true→(∃c r,l=.ref c::r∧refsLE r=true)∨l=leTail:=by
 intro l e
 cases l with
 |nil=>exact .inr (beq_iff_eq.mp e)
 |cons a r=>cases a<;>first|exact .inl ⟨_,_,rfl,e⟩|exact .inr (beq_iff_eq.mp e)
theorem zD8(self:Value):∀l:List Value,refsLE l=true→refuseLoop self "__setattr__" l=pure ()
 |[],e=>absurd e (by decide)
 |a::r,e=>by
  rcases zFq (a::r) e with⟨c,r',q,h⟩|q
  ·obtain⟨rfl,rfl⟩:=kN q
   rw[refuseLoop_ref]
   exact zD8 self _ h
  ·rw[q]
   exact F.store_LookupError.passes self
theorem refsLE_contains(X:String):∀l:List Value,refsLE l=true→l.contains (.type X)=leTail.contains (.type X)
 |[],e=>absurd e (by decide)
 |a::r,e=>by
  rcases zFq (a::r) e with⟨c,r',q,h⟩|q
  ·obtain⟨rfl,rfl⟩:=kN q
   rw[List.contains_cons,refsLE_contains X _ h]
   rfl
  ·rw[q]
theorem zJq{l:List Value}(e:refsLE l=true):l.isEmpty=false:=by
 cases l with
 |nil=>exact absurd e (by decide)
 |cons _ _=>rfl
section
variable {prog:Program}{w:World}{A:Around}{E:Value→Shared→Prop}{R:Result→Shared→Prop}{hp:Heap}{g:Array GenState}{d:Drawn}{t:Nat}{os:OsState}
theorem new_osa{K:W.Frag}{name:Str}{tk:Tok}{v:Value}{x C:Addr}{fv:Array Value}{cd:ClassData}
  (X:K.In hp) (hx:hp.get? x=some {cls:=.ref C,data:=.fields fv}) (hcd:W.clsIn K C=some cd) (hm:refsLE cd.mro=true) (hh:cd.hasDict=true) (ha:W.findIn K (.ref C) name=some none)
  (hq:∀h' tk' dx,(∀b o,b≠x→hp.get? b=some o→h'.get? b=some o)→hp.objs.size≤dx→dx≠x→h'.get? x=some {cls:=.ref C,dict:=some dx,data:=.fields fv}→
   h'.Ns1 dx (fun y=>if y=name then some v else none)→R (.ok (.ret .none)) ⟨h',g,d,tk',os⟩):
  codeAny (model prog w) A (.call (.builtin "object.__setattr__") ⟨[.ref x,.str name tk,v],[]⟩) R ⟨hp,g,d,t,os⟩:=by
 have I:W.InstAt hp x {cls:=.ref C,data:=.fields fv} C none:=⟨hx,rfl,rfl,trivial⟩
 have SF:=F.store_object
 have ne:=zJq hm
 have hob:cd.mro.contains (.type "object")=true:=(refsLE_contains "object" _ hm).trans (by decide+kernel)
 have hxs:x≠hp.objs.size:=jQ (Heap.lt_size hx)
 have sub:W.Looks (model prog w) hp (isInstance (.ref x) (.type "object")) true:=I.type.andThen (W.looks_mroIn X (by unfold W.mroIn;rw[hcd,Option.bind_some,qb (by rw[ne];decide),hob]))
 refine codeAny_call_builtin SF.slot.plain SF.entry (@W.check_slot (model prog w) _ _ ⟨hp,g,d,t,os⟩ "object.__setattr__" "object" "__setattr__" (.ref x) [.str name tk,v] [] _ SF.kind SF.split sub (SF.args (.ref x) (.str name tk) v) ?_)
 have hmr:W.Looks (model prog w) hp (mroOf (.ref C)) cd.mro:=(W.looks_clsIn X hcd).andThen .now
 have L3:W.Looks (model prog w) hp (storeTaker? none) none:=.now
 have hcls:W.Looks (model prog w) hp (classData C) cd:=W.looks_clsIn X hcd
 rw[W.osa_eq,refuse_eq]
 refine wpAny_bind (wpAny_bind (I.type.at (wpAny_bind (hmr.at ?_))))
 rw[zD8 _ _ hm]
 refine wpAny_pure (wpAny_bind (I.type.at (wpAny_bind ((W.looks_findIn X ha).at (wpAny_bind (L3.at ?_))))))
 show wpAny _ _ (storeInOwnDict (.ref x) (.ref C) (.str name tk) name v false) _ _ _
 obtain⟨nm,bs,mro,ns,qn,hd,sn,sb,ab,col,del⟩:=cd
 dsimp only at hh
 subst hh
 unfold storeInOwnDict ownDictForStores
 repeat (first|with_reducible refine store_in_new ?_ ?_|with_reducible refine wpAny_loadPart_at hx ?_|with_reducible refine hcls.at ?_|wp_step)
 ·exact⟨_,#[],_,(Heap.get?_update_ne _ _ _ _ hxs.symm).trans (Heap.get?_push_at rfl rfl),rfl,fun e he=>absurd he (by simp),fun _=>rfl⟩
 ·intro h' tk' hn' hs
  have hx₁:(hp.push {cls:=.type "dict",data:=.dict #[]}).get? x=some {cls:=.ref C,data:=.fields fv}:=Heap.get?_push_of_some _ hx
  refine hq h' tk' hp.objs.size (fun b o hb ho=>?_) (qG _) hxs.symm ?_ hn'
  ·exact(hs.2 b (jQ (Heap.lt_size ho))).trans ((Heap.get?_update_ne _ _ _ _ hb).trans (Heap.get?_push_of_some _ ho))
  ·exact(hs.2 x hxs).trans (Heap.get?_update_self _ hx₁ rfl)
theorem old_osa{K:W.Frag}{name:Str}{tk:Tok}{v:Value}{x C dx:Addr}{fv:Array Value}{cd:ClassData}{m0:Str→Option Value}{nl:List Str}
  (X:K.In hp) (hx:hp.get? x=some {cls:=.ref C,dict:=some dx,data:=.fields fv}) (hns:hp.Ns1 dx m0) (hw:Within m0 nl) (hz:nl.length≤1000) (hcd:W.clsIn K C=some cd) (hm:refsLE cd.mro=true) (hh:cd.hasDict=true)
  (ha:W.findIn K (.ref C) name=some none)
  (hq:∀h' tk',(∀b o,b≠dx→hp.get? b=some o→h'.get? b=some o)→h'.Ns1 dx (fun y=>if y=name then some v else m0 y)→R (.ok (.ret .none)) ⟨h',g,d,tk',os⟩):
  codeAny (model prog w) A (.call (.builtin "object.__setattr__") ⟨[.ref x,.str name tk,v],[]⟩) R ⟨hp,g,d,t,os⟩:=by
 obtain⟨oD,esD,epD,hoD,hdD,_⟩:=hns.count hw
 have I:W.InstAt hp x {cls:=.ref C,dict:=some dx,data:=.fields fv} C (some oD):=⟨hx,rfl,rfl,hoD⟩
 have SF:=F.store_object
 have ne:=zJq hm
 have hob:cd.mro.contains (.type "object")=true:=(refsLE_contains "object" _ hm).trans (by decide+kernel)
 have sub:W.Looks (model prog w) hp (isInstance (.ref x) (.type "object")) true:=I.type.andThen (W.looks_mroIn X (by unfold W.mroIn;rw[hcd,Option.bind_some,qb (by rw[ne];decide),hob]))
 refine codeAny_call_builtin SF.slot.plain SF.entry (@W.check_slot (model prog w) _ _ ⟨hp,g,d,t,os⟩ "object.__setattr__" "object" "__setattr__" (.ref x) [.str name tk,v] [] _ SF.kind SF.split sub (SF.args (.ref x) (.str name tk) v) ?_)
 have hmr:W.Looks (model prog w) hp (mroOf (.ref C)) cd.mro:=(W.looks_clsIn X hcd).andThen .now
 have L3:W.Looks (model prog w) hp (storeTaker? none) none:=.now
 have hcls:W.Looks (model prog w) hp (classData C) cd:=W.looks_clsIn X hcd
 rw[W.osa_eq,refuse_eq]
 refine wpAny_bind (wpAny_bind (I.type.at (wpAny_bind (hmr.at ?_))))
 rw[zD8 _ _ hm]
 refine wpAny_pure (wpAny_bind (I.type.at (wpAny_bind ((W.looks_findIn X ha).at (wpAny_bind (L3.at ?_))))))
 show wpAny _ _ (storeInOwnDict (.ref x) (.ref C) (.str name tk) name v false) _ _ _
 obtain⟨nm,bs,mro,ns,qn,hd,sn,sb,ab,col,del⟩:=cd
 dsimp only at hh
 subst hh
 unfold storeInOwnDict ownDictForStores
 repeat (first|with_reducible refine OEX.store_in_old hns hw hz ?_|with_reducible refine wpAny_loadPart_at hx ?_|with_reducible refine hcls.at ?_|wp_step)
 intro h' tk' hn' hs
 exact hq h' tk' (fun b o hb ho=>(hs.2 b hb).trans ho) hn'
end
end OEL
end PySem
namespace L2
open PySem PySem.Spec PyProof.Rows
structure OexL(K:PySem.W.Frag)(C:Addr):Prop where
 cls:∃nm q N bs bm sn sub ab col dd k0 k1 k2 k3 k5,K.lookup C=some (excClassObj nm q C N bs bm true sn sub ab col dd k0 k1 k2 k3 k5 "LookupError.__new__")∧PySem.OEL.refsLE bm=true
 sa:PySem.W.findIn K (.ref C) "__setattr__"=some (some (.builtin "object.__setattr__"))
 exC:PySem.W.subIn K (.ref C) (.type "BaseException")=some true
 tyC:PySem.W.typeIn K (.ref C)=some (.type "type")
 kC:PySem.W.keepIn K (.ref C)=true
section
variable {X:Cx}{pins:List (Addr×Obj)}{σ:St}{H:Hp}{s:Shared}{a C dx:Addr}{f:Str}{y:V}{u:Value}{fs:List (Str×V)}{Q:Unit→Shared→Prop}{E:Value→Shared→Prop}{A:Around}
theorem zTQ(T:OexL X.K C)(I:Inv X pins σ H s)(e:H a=some (exo a C none))(hno:PySem.W.findIn X.K (.ref C) f=some none)(ry:RelV y u)
  (h:∀dx s',H dx=none→dx≠a→Inv X pins σ (upd (upd H dx (exd dx [(f,y)])) a (exo a C (some dx))) s'→Q () s'):wpAny (model X.prog X.w) A (setAttr (.ref a) f u) Q E s:=by
 obtain⟨nm,q,N,bs,bm,sn,sub,ab,col,dd,k0,k1,k2,k3,k5,hC,hbm⟩:=T.cls
 have hcl:PySem.W.clsIn X.K C=some {name:=nm,bases:=bs,mro:=.ref C::bm,ns:=N,qualname:=q,hasDict:=true,slotNames:=sn,subclasses:=sub,abstract:=ab,collection:=col,hasDel:=false}:=by unfold PySem.W.clsIn;rw[hC]<;>rfl
 obtain⟨t1,ho⟩:=exo_at I.hok e
 obtain⟨hp,g,d,t,os⟩:=s
 refine PySem.W.set_plain I.kIn (ox:={cls:=.ref C,dict:=none,data:=.fields #[.ref t1,.none,.none,.none,.bool false,.none]}) (od:=none) ⟨ho,rfl,rfl,trivial⟩ T.sa ?_
 refine PySem.OEL.new_osa I.kIn ho hcl (show PySem.OEL.refsLE (.ref C::bm)=true from hbm) rfl hno (fun h' tk' dx k dn dne hx hn=>?_)
 have hnd:H dx=none:=I.hok.fresh dn
 have nd:∀{b:Addr}{o:Obj},hp.get? b=some o→b≠dx:=fun {b o} q=>jQ (qQ (Heap.lt_size q) dn)
 have na:∀{b:Addr},H b=none→b≠a:=fun {b} n z=>by
  rw[z,e] at n
  cases n
 have Un1:Un X.fs [] H (upd (upd H dx (exd dx [(f,y)])) a (exo a C (some dx))) hp h':={
  keep:=fun b o q n _ _=>k b o (na n) q
  slot:=fun b o q n _ _=>⟨o.slots,k b o (na n) q⟩
  free:=fun b o q n _=>by rw[upd_ne (na n),upd_ne (nd q)];exact n
  there:=fun b o q _=>by
   by_cases hb:b=a
   ·exact⟨_,by rw[hb];exact hx⟩
   ·exact⟨o,k b o hb q⟩
  tups:=fun b xs q=>by rw[upd_ne (at_ne e q exo_tup),upd_ne (ne_of_none q hnd)];exact q
  frzs:=fun b o v q=>by rw[upd_ne (at_ne e q exo_frz),upd_ne (ne_of_none q hnd)];exact q
  tbls:=fun b ps q=>⟨#[],by rw[upd_ne (at_ne e q exo_tbl),upd_ne (ne_of_none q hnd),q];simp⟩}
 refine h dx _ hnd dne (I.un (t':=tk') Un1 fun b o q=>?_)
 by_cases hb:b=a
 ·subst hb
  rw[upd_same] at q
  cases q
  exact exo_ok hx
 ·rw[upd_ne hb] at q
  by_cases hd:b=dx
  ·subst hd
   rw[upd_same] at q
   cases q
   exact exd_ok hn (relO_put (fs:=[]) ry fun g=>True.intro)
  ·rw[upd_ne hd] at q
   exact(I.hok b o q).stay (fun c v hc z=>k c v (by
     rcases hc with hc|hc
     ·rw[hc]
      exact hb
     ·exact at_ne e hc exo_own) z)
    (fun c hc=>by rw[upd_ne (at_ne e hc exo_own),upd_ne (ne_of_none hc hnd)];exact hc) (fun c xs hc=>by rw[upd_ne (at_ne e hc exo_tup),upd_ne (ne_of_none hc hnd)];exact hc)
theorem zTP(T:OexL X.K C)(I:Inv X pins σ H s)(e:H a=some (exo a C (some dx)))(ed:H dx=some (exd dx fs))(hl:fs.length≤900)(hno:PySem.W.findIn X.K (.ref C) f=some none)(ry:RelV y u)
  (h:∀s',Inv X pins σ (upd H dx (exd dx ((f,y)::fs))) s'→Q () s'):wpAny (model X.prog X.w) A (setAttr (.ref a) f u) Q E s:=by
 obtain⟨nm,q,N,bs,bm,sn,sub,ab,col,dd,k0,k1,k2,k3,k5,hC,hbm⟩:=T.cls
 have hcl:PySem.W.clsIn X.K C=some {name:=nm,bases:=bs,mro:=.ref C::bm,ns:=N,qualname:=q,hasDict:=true,slotNames:=sn,subclasses:=sub,abstract:=ab,collection:=col,hasDel:=false}:=by unfold PySem.W.clsIn;rw[hC]<;>rfl
 obtain⟨t1,ho⟩:=exo_at I.hok e
 obtain⟨mA,hns,rel⟩:=exd_at I.hok ed
 have hw:=within_of rel
 obtain⟨hp,g,d,t,os⟩:=s
 obtain⟨oD,_,_,hoD,_,_⟩:=hns.count hw
 refine PySem.W.set_plain I.kIn (ox:={cls:=.ref C,dict:=some dx,data:=.fields #[.ref t1,.none,.none,.none,.bool false,.none]}) (od:=some oD) ⟨ho,rfl,rfl,hoD⟩ T.sa ?_
 refine PySem.OEL.old_osa I.kIn ho hns hw (by rw[qd];omega) hcl (show PySem.OEL.refsLE (.ref C::bm)=true from hbm) rfl hno (fun h' tk' k hn=>?_)
 have hd:∃o,h'.get? dx=some o:=by
  obtain⟨o,_,_,e',_⟩:=hn
  exact⟨o,e'⟩
 exact h _ (I.write (t':=tk') (x:=dx) (e:=dx) (o:=exd dx ((f,y)::fs)) (by rw[ed];exact True.intro) (.inl rfl) k hd (exd_ok hn (relO_put ry rel)))
end
def yBw(K:PySem.W.Frag)(f:Str)(to te:TE):TS:=fun D σ H=>te σ H fun y H1=>to σ H1 fun x H2=>∃a C:Addr,x=.ref a∧OexL K C∧PySem.W.findIn K (.ref C) f=some none∧
 ((H2 a=some (exo a C none)∧∀dx,H2 dx=none→dx≠a→D.nx σ (upd (upd H2 dx (exd dx [(f,y)])) a (exo a C (some dx))))∨
  ∃(dx:Addr) (fs:List (Str×V)),H2 a=some (exo a C (some dx))∧H2 dx=some (exd dx fs)∧fs.length≤900∧D.nx σ (upd H2 dx (exd dx ((f,y)::fs))))
section
variable {X:Cx}{o e:Expr}{es:List Expr}{to te:TE}{ta:TA}{f:Str}{p p' p1 p2 pos:Pos}
theorem zR4(ho:PE X o to)(he:PE X e te)(hs:swapsWith e (some (.Attribute o f p')) pos.line X.env=pure false:=by rfl):PS X (.Assign [.Attribute o f p'] e pos) (yBw X.K f to te):=by
 refine⟨fun pins s σ H D I h=>?_⟩
 refine plainObj_wpAny_Assign_Attribute (thn (he.run pins s σ H _ I h) fun v s1 ⟨y,H1,I1,r1,q1⟩=>thn (ho.run pins s1 σ H1 _ I1 q1) fun u s2 ⟨x,H2,I2,r2,a,C,ex,T,hno,q⟩=>?_) hs
 subst ex
 obtain rfl:u=Value.ref a:=r2
 rcases q with⟨ea,q⟩|⟨dx,fs,ea,ed,hl,q⟩
 ·exact zTQ T I2 ea hno r1 fun dx s' n ne J=>⟨σ,_,J,q dx n ne⟩
 ·exact zTP T I2 ea ed hl hno r1 fun s' J=>⟨σ,_,J,q⟩
theorem zTr{CX:CXT}{x:Str}{C fI:Addr}{k:Nat}{fd:FuncData}{ps:List Str}{sp:Sp}{ds:List Value}{dvs:List V}(T:OexL X.K C)(iC:PySem.W.findIn X.K (.ref C) "__init__"=some (some (.ref fI)))(tI:PySem.W.typeIn X.K (.ref fI)=some (.type "function"))
  (F1:FnOk X.prog X.w X.K X.mg X.base CX k fI fd ps sp) (hr:Room (k+1) X.A) (hb:Binds X.K fd ps ds) (hd:Vals dvs ds) (hx:Passes CX X (fun _ _ _=>False)) (hg:Gl X x) (hm:X.mg x=some (.ref C)) (ha:PA X (e::es) ta)
  (hdb:(x==("__debug__":Str))=false:=by decide) (he:starEach (e::es) X.env=(false,eval e X.env)::starEach es X.env:=by rfl) (hpl:(backTo pos (starEach es X.env)).any (·.1)=false:=by rfl):
  PMk X (.Call (.Name x p) (e::es) [] pos) (tMkO C sp dvs ta):=by
 intro pins s σ H Q I h
 obtain⟨nm,q,N,bs,bm,sn,sub,ab,col,dd,k0,k1,k2,k3,k5,hC,hbm⟩:=T.cls
 refine wpAny_Call_Name_kw (ld_glob I hg hm ?_ hdb)
 refine jR (h₀:=X.base) I.ok.mod.kin T.kC (thn (ha.run pos pins s σ H _ I h) fun us s1 ⟨vs,H1,I1,r1,hz,q1⟩=>⟨I1.kIn,?_⟩) he hpl
 show wpAny _ _ (call (.ref C) us) _ _ _
 obtain⟨hp,g,dr,tk,os⟩:=s1
 have hsz:hp.objs.size≤hp.objs.size+1:=Nat.le_succ _
 have hn:H1 (hp.objs.size+1)=none:=I1.hok.fresh hsz
 have hq:=q1 (hp.objs.size+1) hn
 have kk:∀b o,hp.get? b=some o→((hp.push (PySem.W.kdv_tup us)).push (PySem.HandSPX.excO C hp.objs.size)).get? b=some o:=fun b o e=>Heap.get?_push_of_some _ (Heap.get?_push_of_some _ e)
 have hget:((hp.push (PySem.W.kdv_tup us)).push (PySem.HandSPX.excO C hp.objs.size)).get? (hp.objs.size+1)=some (PySem.HandSPX.excO C hp.objs.size):=by heap_get
 have I2:Inv X pins σ (upd H1 (hp.objs.size+1) (exo (hp.objs.size+1) C none)) ⟨(hp.push (PySem.W.kdv_tup us)).push (PySem.HandSPX.excO C hp.objs.size),g,dr,tk,os⟩:=
  I1.laid (t':=tk) (a:=hp.objs.size+1) (o:=exo (hp.objs.size+1) C none) (h':=(hp.push (PySem.W.kdv_tup us)).push (PySem.HandSPX.excO C hp.objs.size)) kk hsz (exo_ok hget)
 have r2:Vals (V.ref (hp.objs.size+1)::(vs++dvs)) (Value.ref (hp.objs.size+1)::(us++ds)):=.cons rfl (r1.append hd)
 have hl:(Value.ref (hp.objs.size+1)::us++ds).length=ps.length:=by
  have e:=r2.length
  rw[F1.len _ _ _ _ hq] at e
  exact e.symm
 have hus:us.length≤sizeLine:=by
  rw[←Paired.length r1,sizeLine_eq]
  omega
 refine wpAny_call (PySem.HandSPX.call_own F.excBase_LookupError (fun Y=>PySem.OEL.refsLE_contains Y bm hbm) (I1.kIn _ _ hC) (PySem.W.looks_findIn I1.kIn iC) (fun self=>PySem.W.bind_fn I1.kIn self tI) hus
  (codeAny_mono (F1.run _ X.stack _ _ ⟨Value.ref (hp.objs.size+1)::us,[]⟩ (Value.ref (hp.objs.size+1)::(us++ds)) _ _ (fun _ _ _=>False) (hr.make C us []) (I2.env0.make C us []) (hb _ (Value.ref (hp.objs.size+1)::us) I2.kIn hl) r2 hq) fun r s' hq'=>?_))
 cases r with
 |error er=>exact hx pins σ _ _ er s' I2 hq'
 |ok fl=>
  cases fl with
  |ret u=>
   obtain⟨v,H2,os2,bare2,un2,hok2,rv,ev,d,fs,ea,ed,hd1,q2⟩:=hq'
   subst ev
   obtain⟨h2,g2,d2,t2,os'⟩:=s'
   exact⟨rv,mk_end (raises_own T.exC T.tyC) I1 hsz kk un2 hok2 os2 bare2 ea ed hd1 q2⟩
  |next=>exact False.elim hq'
  |brk=>exact False.elim hq'
  |cont=>exact False.elim hq'
end
end L2
namespace DL
open PySem PySem.Spec PyProof.Rows L2
open Evl (Ex)
def zLB(K:PySem.W.Frag):Sp:=fun vs H Q E=>∃(a C:Addr) (n y:V),vs=[.ref a,n,y]∧OexL K C∧PySem.W.findIn K (.ref C) "number"=some none∧PySem.W.findIn K (.ref C) "says"=some none∧H a=some (exo a C none)∧
 ∀dx,H dx=none→dx≠a→Q .non (upd (upd (upd H dx (exd dx [("number",n)])) a (exo a C (some dx))) dx (exd dx [("says",y),("number",n)]))
def zSS(K:PySem.W.Frag)(m:Str):Sp:=fun vs H Q E=>∃(a C:Addr) (n:V),vs=[.ref a,n]∧OexL K C∧PySem.W.findIn K (.ref C) "number"=some none∧PySem.W.findIn K (.ref C) "says"=some none∧H a=some (exo a C none)∧
 ∀dx,H dx=none→dx≠a→Q .non (upd (upd (upd H dx (exd dx [("number",n)])) a (exo a C (some dx))) dx (exd dx [("says",.str m),("number",n)]))
section
variable {P:Program}{w:World}{K:PySem.W.Frag}{mg:Str→Option Value}{base:Heap}
theorem zTz{x qual:Str}{params:Arguments}{scope:Scope}{dvs:List V}{kws:List (Str×V)}{f:Addr}{fd:FuncData}{q1 q2 q3 q4 p1 p2 p3 p4:Pos}(F:FunD K x qual params [.Assign [.Attribute (.Name "self" p1) "number" p2] (.Name "number" p3) p4,.Assign [.Attribute (.Name "self" q1) "says" q2] (.Name "says" q3) q4] scope dvs kws f fd)(S:FnScope ["self","number","says"] ["self","number","says"] scope)
  (hv0:Vis scope "self") (hv1:Vis scope "number") (hv2:Vis scope "says"):FnOk P w K mg base CX0 1 f fd ["self","number","says"] (zLB K):=by
 refine FunD.ok F S (fun vs H Q E h=>?_) (fun cdv A outer s H vs Q E hr h=>⟨_,(pss_cons (zR4 (pe_var (i:=0) rfl hv0 (by decide) (by decide)) (pe_var (i:=1) rfl hv1 (by decide) (by decide)) rfl) (pss_one (zR4 (pe_var (i:=0) rfl hv0 (by decide) (by decide)) (pe_var (i:=2) rfl hv2 (by decide) (by decide)) rfl))),?_⟩)
 ·obtain⟨a,C,n,y,rfl,_⟩:=h
  rfl
 ·obtain⟨a,C,n,y,rfl,T,hn1,hn2,ha,k⟩:=h
  refine⟨n,rfl,.ref a,rfl,a,C,rfl,T,hn1,.inl ⟨ha,fun dx h1 h2=>?_⟩⟩
  refine⟨y,rfl,.ref a,rfl,a,C,rfl,T,hn2,.inr ⟨dx,[("number",n)],upd_same,?_,(show 1≤900 by decide),k dx h1 h2⟩⟩
  rw[upd_ne h2,upd_same]
theorem zQ3{x qual xB:Str}{params:Arguments}{scope:Scope}{dvs dvB:List V}{kws:List (Str×V)}{f B fB:Addr}{fd fdB:FuncData}{m:Str}{j:Nat}{q1 q2 q3 q4 q5 q6 q7:Pos}
  (F:FunD K x qual params [.Expr (.Call (.Attribute (.Name xB q1) "__init__" q2) [.Name "self" q3,.Name "number" q7,.Constant (.str m) j q4] [] q5) q6] scope dvs kws f fd) (S:FnScope ["self","number"] ["self","number"] scope)
  (T:CiC K mg xB B fB) (FB:FnOk P w K mg base CX0 1 fB fdB ["self","number","says"] (zLB K)) (bB:Bnd K fdB ["self","number","says"] 3 [] [.p 0,.p 1,.p 2] dvB)
  (hh:∀(cdv:Value) (A:Around) (outer:List Env) (s:Shared) (H:Hp) (E:XK),Room 1 (A.deeper (envOfC qual scope s.heap.objs.size f cdv))→PE (cxOf CX0 P w K mg base ["self","number"] qual scope f cdv A outer s H E) (.Call (.Attribute (.Name xB q1) "__init__" q2) [.Name "self" q3,.Name "number" q7,.Constant (.str m) j q4] [] q5) (zLp (zLB K) 3 [.p 0,.p 1,.p 2] dvB (tCons (tVar 0) (tCons (tVar 1) (tCons (tC (.str m)) tNil)))))
  (hs:∀(cdv:Value) (A:Around) (outer:List Env) (s:Shared) (H:Hp) (E:XK),swapsWith (.Call (.Attribute (.Name xB q1) "__init__" q2) [.Name "self" q3,.Name "number" q7,.Constant (.str m) j q4] [] q5) none q6.line (cxOf CX0 P w K mg base ["self","number"] qual scope f cdv A outer s H E).env=pure false):FnOk P w K mg base CX0 2 f fd ["self","number"] (zSS K m):=by
 refine FunD.ok (k:=1) F S (fun vs H Q E h=>?_) (fun cdv A outer s H vs Q E hr h=>⟨_,(pss_one (ps_expr (hh cdv A outer s H E hr) (hs cdv A outer s H E))),?_⟩)
 ·obtain⟨a,C,n,rfl,_⟩:=h
  rfl
 ·obtain⟨a,C,n,rfl,T,hn1,hn2,ha,k⟩:=h
  exact⟨.ref a,rfl,n,rfl,rfl,a,C,n,.str m,rfl,T,hn1,hn2,ha,fun dx h1 h2=>k dx h1 h2⟩
end
def zB4(C:Addr)(m:Str)(te:DE):DS:=fun F g O=>te g O fun y O1=>∀d,O1 d=none→F.xc (.ref C) (some d) g (up O1 d (.xd [("says",.str m),("number",y)]))
section
variable {X:Cx}{C fI:Addr}{fd:FuncData}{k:Nat}{W:WX}{x:Str}{p pos:Pos}{e:Expr}{te:DE}
theorem zF0{m:Str}{pos2:Pos}(hc:X.calm=true)(tk:Takes X W)(T:OexL X.K C)(hn1:PySem.W.findIn X.K (.ref C) "number"=some none)(hn2:PySem.W.findIn X.K (.ref C) "says"=some none)(iC:PySem.W.findIn X.K (.ref C) "__init__"=some (some (.ref fI)))(tI:PySem.W.typeIn X.K (.ref fI)=some (.type "function"))
  (F1:FnOk X.prog X.w X.K X.mg X.base CX0 k fI fd ["self","number"] (zSS X.K m)) (hr:Room (k+1) X.A) (hb:Bnd X.K fd ["self","number"] 2 [] [.p 0,.p 1] []) (hm:X.mg x=some (.ref C)) (he:PE X e (zAs X.K te)) (hg:Gl X x:=by rfl) (hdb:(x==("__debug__":Str))=false:=by decide)
  (hs:starEach [e] X.env=(false,eval e X.env)::starEach [] X.env:=by rfl) (hpl:(backTo pos (starEach [] X.env)).any (·.1)=false:=by rfl):
  PS X (.Raise (some (.Call (.Name x p) [e] [] pos)) none pos2) (zCl X.K W (zB4 C m te)):=
 PS.by (ps_raise hc tk (zTr (dvs:=[]) (ds:=[]) T iC tI F1 hr (hb.all2 rfl) .nil (fun _ _ _ _ _ _ _ z=>z.elim) hg hm (pa_cons he pa_nil hs) hdb hs hpl)) fun E s H ⟨G,O,g,F,rl,gr,h,k⟩=>
  ⟨G,O,g,_,rl,gr,h,fun y O1 v G1 H1 go1 vr1 q1=>⟨by show 1≤1000;decide,fun a ha=>by
   refine⟨a,C,v,rfl,T,hn1,hn2,upd_same,fun dx hdx ne=>?_⟩
   have hd:H1 dx=none:=by rw[upd_ne ne] at hdx;exact hdx
   refine⟨rfl,dx,[("says",.str m),("number",v)],?_,upd_same,hd,?_⟩
   ·rw[upd_ne ne.symm,upd_same]
   ·have eH:upd (L2.del (upd (upd (upd (upd H1 a (exo a C none)) dx (exd dx [("number",v)])) a (exo a C (some dx))) dx (exd dx [("says",.str m),("number",v)])) a) dx (.xd [("says",.str m),("number",v)])=upd H1 dx (.xd [("says",.str m),("number",v)]):=by
     funext b
     by_cases h1:b=dx
     ·subst h1;rw[upd_same,upd_same]
     ·rw[upd_ne h1,upd_ne h1]
      by_cases h2:b=a
      ·subst h2;rw[L2.del_same,ha]
      ·rw[L2.del_ne h2,upd_ne h1,upd_ne h2,upd_ne h1,upd_ne h2]
    rw[eH]
    have gn:=Go.new go1.rel (o:=.xd [("says",.str m),("number",y)]) (u:=.xd [("says",.str m),("number",v)]) hd (.cons ⟨rfl,.str m⟩ (.cons ⟨rfl,vr1⟩ .nil))
    exact k.xc _ _ _ _ _ _ _ (go1.trans rl gn) (gr.mono go1.ex) (q1 dx (go1.rel.fresh hd).1)⟩⟩
end
structure ErL(P:Program)(w:World)(K:PySem.W.Frag)(mg:Str→Option Value)(base:Heap)(x m:Str)(C fI:Addr)(fd:FuncData):Prop where
 oel:OexL K C
 no:PySem.W.findIn K (.ref C) "says"=some none
 no2:PySem.W.findIn K (.ref C) "number"=some none
 iC:PySem.W.findIn K (.ref C) "__init__"=some (some (.ref fI))
 tI:PySem.W.typeIn K (.ref fI)=some (.type "function")
 gC:mg x=some (.ref C)
 ok:FnOk P w K mg base CX0 2 fI fd ["self","number"] (zSS K m)
 bn:Bnd K fd ["self","number"] 2 [] [.p 0,.p 1] []
 xf:XfC K C
 te:PySem.W.exmOne K (.ref C) (.ref C)=some true
end DL
namespace L2
open PySem PySem.Spec PyProof.Rows
section
variable {X:Cx}{body fs:List Stmt}{f₀:Stmt}{pos:Pos}{tb:WX→TS}{tf tfs:TS}{Wout:WX}
theorem zMS(hs:X.stack=X.env::X.outer)(hf:X.env.frame=some X.env.locals)(hex:X.ex=[])(tk:Takes X Wout)
  (hb:∀(W:WX) (pn:List (Addr×Obj)) (xe:Value→Shared→Prop),Takes (X.tr pn xe) W→PassesOwn (model X.prog X.w) X.A X.env xe→PSs (X.tr pn xe) body (tb W))
  (hfin:PSs X.nox (f₀::fs) tf) (hsu:∀(a:Addr) (pn:List (Addr×Obj)),PSs (X.suite a pn) (f₀::fs) tfs):
  PS X (.Try body [] [] (f₀::fs) pos) (fun D σ H=>tb (wFin tfs Wout) {nx:=fun σ1 H1=>tf D σ1 H1,rt:=fun _ _=>False} σ H):=by
 refine⟨fun pins s σ H D I h=>?_⟩
 have ok:=I.ok
 refine wpAny_Try_finally ?_
 refine wpAny_mono ((hb (wFin tfs Wout) (X.pn++pins) (fun x s₁=>wpAny (model X.prog X.w) X.A (noteFrame x X.env) (fun _ s₂=>FinallyRaised X.prog X.w X.A X.xe X.env (f₀::fs) (SP X pins D) x s₂) (FinallyRaised X.prog X.w X.A X.xe X.env (f₀::fs) (SP X pins D)) s₁)
  (fun u s' xx=>?_) PassesOwn.looking).run [] s σ H {nx:=fun σ1 H1=>tf D σ1 H1,rt:=fun _ _=>False} (I.toTry _) h) (fun f s1 z=>?_) (fun x s1 hx=>hx)
 ·exact fin_exc hs hf hex ok tk hsu xx
 ·cases f with
  |next=>
   obtain⟨σ1,H1,I1,q1⟩:=z
   have J1:Inv X pins σ1 H1 s1:=I1.ofTry ok
   refine wpAny_execs_nil ?_
   refine wpAny_mono (hfin.run pins s1 σ1 H1 D (J1.wish _) q1) (fun g s2 z=>?_) fun _ _ z=>False.elim z
   have z':SP X pins D g s2:=z.unwish
   cases g<;>exact z'
  |ret w2=>
   obtain⟨_,_,_,_,_,z⟩:=z
   exact z.elim
  |brk=>
   obtain⟨_,_,_,z⟩:=z
   exact z.elim
  |cont=>
   obtain⟨_,_,_,z⟩:=z
   exact z.elim
end
end L2
namespace DL
open PySem PySem.Spec PyProof.Rows L2
open Evl (Ex)
def zIC(tb tf:DS):DS:=fun F g O=>tb {nx:=fun g1 O1=>tf F g1 O1,rt:=fun _ _=>False,xc:=fun c d g1 O1=>tf {nx:=fun g2 O2=>F.xc c d g2 O2,rt:=fun _ _=>False} g1 O1} g O
section
variable {X:Cx}{body fs:List Stmt}{f₀:Stmt}{pos:Pos}{W:WX}{tb tf:DS}
theorem zNU(hs:X.stack=X.env::X.outer)(hf:X.env.frame=some X.env.locals)(hex:X.ex=[])(tk:Takes X W)
  (hb:∀(W:WX) (pn:List (Addr×Obj)) (xe:Value→Shared→Prop),Takes (X.tr pn xe) W→PassesOwn (model X.prog X.w) X.A X.env xe→PSs (X.tr pn xe) body (zCl X.K W tb))
  (hfin:PSs X.nox (f₀::fs) (zCl X.K W tf)) (hsu:∀(a:Addr) (pn:List (Addr×Obj)),PSs (X.suite a pn) (f₀::fs) (zCl X.K W0 tf)):PS X (.Try body [] [] (f₀::fs) pos) (zCl X.K W (zIC tb tf)):=
 PS.by (zMS (tb:=fun W=>zCl X.K W tb) (tf:=zCl X.K W tf) (tfs:=zCl X.K W0 tf) (Wout:=W) hs hf hex tk hb hfin hsu) fun E s H ⟨G,O,g,F,rl,gr,h,k⟩=>
  ⟨G,O,g,_,rl,gr,h,⟨fun s1 g1 O1 G1 H1 go1 gr1 q=>⟨G1,O1,g1,F,go1.rel,gr1,q,k.from rl go1⟩,fun _ _ _ _ _ _ _ z=>z,fun _ _ _ _ _ _ _ z=>z,fun _ _ _ _ _ _ _ z=>z,fun c d s1 g1 O1 G1 H1 go1 gr1 q=>
   ⟨G1,O1,g1,_,go1.rel,gr1,q,⟨fun s2 g2 O2 G2 H2 go2 gr2 q=>k.xc _ _ _ _ _ _ _ (go1.trans rl go2) gr2 q,fun _ _ _ _ _ _ _ z=>z,fun _ _ _ _ _ _ _ z=>z,fun _ _ _ _ _ _ _ z=>z,fun _ _ _ _ _ _ _ _ _ z=>z⟩⟩⟩⟩
end
end DL
namespace L2
open PySem PySem.Spec PyProof.Rows
def zSL(K:PySem.W.Frag)(a:Addr)(z:Str)(o:Option V):Prop:=∃r,PySem.W.nsIn K a z=some r∧RelO o r
def zZA(K:PySem.W.Frag)(p:Addr):R2:=fun x y H Q=>∃z v,x=.ref p∧y=.str z∧zSL K p z (some v)∧Q v H
theorem zOr{X:Cx}{p:Addr}{es:Array DictEntry}{n:Nat}(D:KDict X.K X.w p es n):IxR X (zZA X.K p):=fun value slice pins s σ H x y v u Q I rx ry h hs=>by
 obtain⟨z,v0,rfl,rfl,⟨r,h1,h2⟩,q⟩:=h
 cases r with
 |none=>exact h2.elim
 |some u0=>exact ix_kdict value slice pins s σ H _ _ v u Q I rx ry ⟨p,z,v0,rfl,rfl,⟨es,n,u0,D.at_,D.lit,h1,h2⟩,q⟩ hs
def zZn(K:PySem.W.Frag)(p:Addr)(td ty tx:TE):TE:=fun σ H Q=>td σ H fun x H1=>x=.ref p∧ty σ H1 fun y H2=>tx σ H2 fun z H3=>∃k o,y=.str k∧zSL K p k o∧Q (o.getD z) H3
theorem zTt{X:Cx}{o e f:Expr}{apos cpos:Pos}{td ty tx:TE}{p:Addr}{es:Array DictEntry}{n:Nat}(D:KDict X.K X.w p es n)(ho:PE X o td)(he:PE X e ty)(hf:PE X f tx)(m:M2 X o "get" apos e f cpos):
  PE X (.Call (.Attribute o "get" apos) [e,f] [] cpos) (zZn X.K p td ty tx):=by
 refine⟨fun pins s σ H Q I h=>?_⟩
 refine wpAny_Call_method m.base m.few m.line PySem.F.plainAttrs_dict jV PySem.F.type_dict_get (thn (ho.run pins s σ H _ I h) fun u s1 ⟨x,H1,I1,rx,ex,q1⟩=>?_)
 subst ex
 obtain rfl:u=Value.ref p:=rx
 have hm:=PySem.W.mapOf_K (prog:=X.prog) (w:=X.w) I1.kIn D.at_ D.lit
 refine⟨hm.typeIs,hm.noDict,?_⟩
 rw[m.trees]
 refine Calls.callWith_builtin rfl (Calls.evalArgs_plain (Calls.spliced_cons (thn (he.run pins s1 σ H1 _ I1 q1) fun iv s2 ⟨y,H2,I2,ry,q2⟩=>
  Calls.spliced_cons (thn (hf.run pins s2 σ H2 _ I2 q2) fun fv s3 ⟨z,H3,I3,rz,k,ov,ey,⟨r,h1,h2⟩,q3⟩=>Calls.spliced_nil ?_))))
 subst ey
 obtain⟨t,rfl⟩:=(show∃t,iv=Value.str k t from ry)
 have hm3:=PySem.W.mapOf_K (prog:=X.prog) (w:=X.w) I3.kIn D.at_ D.lit
 refine call_meetsIn jV hm3.typeIs PySem.F.entry_dict_get (PySem.F.args_dict_get_3 _ _ _) (meets_dict_get_default (strKind X.prog X.w) p (PySem.strKind_is X.prog X.w k t) D.low fv) ⟨_,hm3,?_⟩
 rw[PySem.W.find_K D.at_ h1]
 exact⟨_,H3,I3.tok _,h2.getD rz,q3⟩
structure CalX(P:Program)(w:World)(K:PySem.W.Frag)(mg:Str→Option Value)(base:Heap)(j:Nat)(f:Addr)(n:Nat)(srcs:List DL.Src)(sp:Sp):Prop where
 ex:∃(k:Nat) (fd:FuncData) (ps:List Str),k≤j∧FnOk P w K mg base (L2.CX P w) k f fd ps sp∧PySem.W.keepIn K (.ref f)=true∧DL.Bnd K fd ps n [] srcs []
def zSQ(i:Nat)(fs:Addr→Sp→Prop)(n:Nat)(srcs:List DL.Src)(E:St→XK)(t:TA):TE:=fun σ H Q=>∃f sp,σ[i]?=some (some (.ref f))∧fs f sp∧t σ H fun vs H1=>vs.length=n∧sp (DL.pick vs [] [] srcs) H1 Q (E σ)
theorem zWq{X:Cx}{W:WX}{i j n:Nat}{srcs:List DL.Src}{fs:Addr→Sp→Prop}{x:Str}{p pos:Pos}{e:Expr}{es:List Expr}{t:TA}(hF:∀f sp,fs f sp→CalX X.prog X.w X.K X.mg X.base j f n srcs sp)(hr:Room j X.A)(tk:Takes X W)(hN:X.N[i]?=some x)(hv:Vis X.env.scope x)(ha:PA X (e::es) t)
  (hd:(x==("__debug__":Str))=false:=by decide) (hcd:(x==("__classdict__":Str))=false:=by decide)
  (he:starEach (e::es) X.env=(false,eval e X.env)::starEach es X.env:=by rfl) (hpl:(backTo pos (starEach es X.env)).any (·.1)=false:=by rfl):
  PE X (.Call (.Name x p) (e::es) [] pos) (zSQ i fs n srcs (WE W) t):=by
 refine⟨fun pins s σ H Q I h=>?_⟩
 obtain⟨f,sp,hs,hf,ht⟩:=h
 obtain⟨k,fd,ps,hk,F,kp,b⟩:=(hF f sp hf).ex
 refine wpAny_Call_Name_kw (thn ((pe_var (pos:=p) hN hv hd hcd).run pins s σ H (fun v H1=>v=.ref f∧H1=H) I ⟨.ref f,hs,rfl,rfl⟩) fun u s1 ⟨v,H1,I1,r1,q1⟩=>?_)
 obtain⟨rfl,rfl⟩:=q1
 cases r1
 refine jR (h₀:=X.base) I.ok.mod.kin kp (thn (ha.run pos pins s1 σ _ _ I1 ht) fun us s2 ⟨vs,H2,I2,r,hl,q⟩=>⟨I2.kIn,?_⟩) he hpl
 exact DL.run_any (ks:=[]) (zs:=[]) (ws:=[]) F (hr.mono hk) b (passAt tk σ) I2 r .nil hl rfl q
end L2
namespace DL
open PySem PySem.Spec PyProof.Rows L2
open Evl (Ex)
structure KTb(K:PySem.W.Frag)(w:World)(a:Addr)(tbl:List (Str×Option D)):Prop where
 dic:∃es n,KDict K w a es n
 ent:∀z o,tbl.lookup z=some o→match o with
  |some d=>∃v,zSL K a z (some v)∧∀G,VR K G v d
  |none=>zSL K a z none
def zX9(p:Addr)(tbl:List (Str×Option D)):D2:=fun x y O R=>x=.ref p∧∃z v,y=.str z∧tbl.lookup z=some (some v)∧R v O
def zUp(p:Addr)(tbl:List (Str×Option D))(td ty tx:DE):DE:=fun g O R=>td g O fun x O1=>x=.ref p∧ty g O1 fun y O2=>tx g O2 fun z O3=>∃k o,y=.str k∧tbl.lookup k=some o∧R (o.getD z) O3
def zBU(i:Nat)(fs:List (Addr×DSp))(srcs:List Src)(t:DA):XD→DE:=fun Z g O R=>∃f d,g[i]?=some (some (.ref f))∧(f,d)∈fs∧t g O fun xs O1=>d (pick xs [] [] srcs) O1 R Z
section
variable {X:Cx}{W:WX}{a b c:Expr}{ta tb tc:DE}{pos apos:Pos}{p:Addr}{tbl:List (Str×Option D)}
theorem yBB(T:KTb X.K X.w p tbl):OpS X.K (zZA X.K p) (zX9 p tbl):=fun {G O H x y v u R Q} rl hx hy h k=>by
 obtain⟨rfl,z,d,rfl,hl,q⟩:=h
 cases hx
 cases hy
 obtain⟨v0,h1,h2⟩:=T.ent z _ hl
 exact⟨z,v0,rfl,rfl,h1,k.here rl (h2 G) q⟩
theorem yAt(T:KTb X.K X.w p tbl)(ha:PE X a (zAs X.K ta))(hb:PE X b (zAs X.K tb))(hs:PlainIx b:=by exact fun _ _=>rfl):PE X (.Subscript a b pos) (zAs X.K (dOp (zX9 p tbl) ta tb)):=by
 obtain⟨es,n,D⟩:=T.dic
 exact yAu (zOr D) (yBB T) ha hb hs
theorem zXC(T:KTb X.K X.w p tbl)(ha:PE X a (zAs X.K ta))(hb:PE X b (zAs X.K tb))(hc:PE X c (zAs X.K tc))(m:M2 X a "get" apos b c pos:=by exact⟨rfl,rfl,rfl,rfl⟩):PE X (.Call (.Attribute a "get" apos) [b,c] [] pos) (zAs X.K (zUp p tbl ta tb tc)):=by
 obtain⟨es,n,D⟩:=T.dic
 exact PE.by (zTt D ha hb hc m) fun s H Q ⟨G,O,g,R,rl,gr,h,k⟩=>
  ⟨G,O,g,_,rl,gr,h,fun x O1 v G1 H1 go1 vr1 q1=>by
   obtain⟨rfl,q1⟩:=q1
   cases vr1
   exact⟨rfl,G1,O1,g,_,go1.rel,gr.mono go1.ex,q1,fun y O2 u G2 H2 go2 vr2 q2=>⟨G2,O2,g,_,go2.rel,(gr.mono go1.ex).mono go2.ex,q2,fun z O3 w3 G3 H3 go3 vr3 q3=>by
    obtain⟨kk,o,rfl,hl,r⟩:=q3
    cases vr2
    have g13:=(go1.trans rl go2).trans rl go3
    cases o with
    |some d=>
     obtain⟨v0,h1,h2⟩:=T.ent kk _ hl
     exact⟨kk,some v0,rfl,h1,k _ _ _ _ _ g13 (h2 _) r⟩
    |none=>exact⟨kk,none,rfl,T.ent kk _ hl,k _ _ _ _ _ g13 vr3 r⟩⟩⟩⟩
theorem zUi{i j n:Nat}{srcs:List Src}{fs:List (Addr×DSp)}{x:Str}{p:Pos}{e:Expr}{es:List Expr}{t:DA}(hF:∀q∈fs,CalX X.prog X.w X.K X.mg X.base j q.1 n srcs (zCx X.K q.2))(hr:Room j X.A)(tk:Takes X W)(hN:X.N[i]?=some x)(hv:Vis X.env.scope x)(ha:PA X (e::es) (zC8 X.K n t))
  (hd:(x==("__debug__":Str))=false:=by decide) (hcd:(x==("__classdict__":Str))=false:=by decide)
  (he:starEach (e::es) X.env=(false,eval e X.env)::starEach es X.env:=by rfl) (hpl:(backTo pos (starEach es X.env)).any (·.1)=false:=by rfl):
  PE X (.Call (.Name x p) (e::es) [] pos) (zFu X.K W (zBU i fs srcs t)):=
 PE.by (zWq (fs:=fun f sp=>∃d,(f,d)∈fs∧sp=zCx X.K d) (fun f sp ⟨d,h1,h2⟩=>by subst h2;exact hF _ h1) hr tk hN hv ha hd hcd he hpl) fun s H Q ⟨G,O,g,R,Z,rl,gr,h,k,kz⟩=>by
  obtain⟨f,d,hi,hm,h⟩:=h
  obtain⟨v,h1,h2⟩:=gr.get i _ hi
  cases h2
  exact⟨f,_,h1,⟨d,hm,rfl⟩,G,O,g,_,rl,gr,h,fun xs O1 vs G1 H1 go1 vr1 hl1 q1=>⟨by rw[vr1.length,hl1],G1,O1,_,_,Z,go1.rel,zCm vr1 .nil .nil srcs,q1,fun y O3 u G3 H3 go3 vr3 q3=>k _ _ _ _ _ (go1.trans rl go3) vr3 q3,fun c e O3 G3 H3 go3 z=>kz _ _ _ _ _ (go1.trans rl go3) z⟩⟩
end
end DL
namespace DL
open PySem PySem.Spec PyProof.Rows L2
open Evl (Ex)
def yA1:D2:=fun x y O R=>match x,y with
 |.tup [.int a,.int b],.tup [.int c,.int d]=>R (.bl (decide (a<c∨a=c∧b≤d))) O
 |_,_=>False
theorem yBA{K:PySem.W.Frag}:OpS K (rLeT K) yA1:=fun {G O H x y v u R Q} rl hx hy h k=>by
 unfold yA1 at h
 split at h
 ·rename_i a b c d
  cases hx with
  |tup h1 h2=>
   cases hy with
   |tup h3 h4=>
    rw[VRs.ints (ns:=[a,b]) h2] at h1
    rw[VRs.ints (ns:=[c,d]) h4] at h3
    refine⟨_,_,[a,b],[c,d],rfl,rfl,Evl.ex_t rl.g h1,Evl.ex_t rl.g h3,?_⟩
    have e:Ob.lexAt (fun j=>decide ([a,b].getD j 0=[c,d].getD j 0)) (fun j=>decide ([a,b].getD j 0≤[c,d].getD j 0)) (decide ([a,b].length≤[c,d].length)) 0 (min [a,b].length [c,d].length)=decide (a<c∨a=c∧b≤d):=by
     show Ob.lexAt _ _ _ 0 2=_
     rw[Ob.lexAt_succ,Ob.lexAt_succ,Ob.lexAt_zero]
     simp only[List.getD_cons_zero,List.getD_cons_succ,qp,qi,qT,qG,qH]
     by_cases h1:a=c
     ·subst h1
      by_cases h2:b=d
      ·subst h2;simp
      ·simp[h2]
     ·rw[qb h1]
      apply jw.mpr
      omega
    rw[e]
    exact k.here rl (.bl _) h
 ·exact h.elim
theorem zZ1{X:Cx}{k:Nat}(hr:Room k X.A):OpR X (compareOp .LtE) (rLeT X.K):=op_leT (by have:=hr.un;omega)
def zUm(a:Addr)(cls:Value)(d:Option Addr)(cs:List Addr)(f:Str)(te:DE):DE:=fun g O R=>te g O fun x O1=>x=.ref a∧∃C∈cs,cls=.ref C∧∃(dd:Addr) (fs:List (Str×D)) (v:D),d=some dd∧O1 dd=some (.xd fs)∧fs.lookup f=some v∧R v O1
theorem zXx{X:Cx}{a:Addr}{oe:Obj}{cls:Value}{d:Option Addr}{pn:List (Addr×Obj)}{e:Expr}{te:DE}{pos:Pos}{n:Str}{cs:List Addr}(hT:∀C∈cs,XfC X.K C∧PySem.W.findIn X.K (.ref C) n=some none)(hz:Zc cls d oe)(hf:∃vs,oe.data=.fields vs)(he:PE (X.suite a ((a,oe)::pn)) e (zAs X.K te))(hb:attributeBase e n X.env (eval e X.env)=eval e X.env:=by rfl):
  PE (X.suite a ((a,oe)::pn)) (.Attribute e n pos) (zAs X.K (zUm a cls d cs n te)):=by
 refine⟨fun pins s σ H Q I h=>?_⟩
 refine attr_of hb (thn (he.run pins s σ H (fun x H1=>x=.ref a∧∃C∈cs,cls=.ref C∧∃(dd:Addr) (fs:List (Str×V)) (v:V),d=some dd∧H1 dd=some (.xd fs)∧fs.lookup n=some v∧Q v H1) I ?_) fun u s1 hh=>?_)
 ·obtain⟨G,O,g,R,rl,gr,h,k⟩:=h
  exact⟨G,O,g,_,rl,gr,h,fun x O1 v G1 H1 go1 vr1 q1=>by
   obtain⟨rfl,C,hC,hc,dd,fs,w,hd,ho,hl,q⟩:=q1
   obtain⟨us,hu,pr⟩:=go1.rel.xd ho
   obtain⟨u,hl2,vr⟩:=pr.look hl
   cases vr1
   exact⟨rfl,C,hC,hc,dd,us,u,hd,hu,hl2,k _ _ _ _ _ go1 vr q⟩⟩
 ·obtain⟨x,H1,I1,rx,ex,C,hC,ec,dd,fs,v,ed,ea,l,q⟩:=hh
  subst ex
  obtain rfl:u=Value.ref a:=rx
  subst ec
  subst ed
  obtain⟨T,hno⟩:=hT C hC
  obtain⟨ha,_⟩:=I1.pin (a,oe) (jX _ qz)
  obtain⟨vs,hd⟩:=hf
  have hx:ObjOk X.prog X.w H1 s1.heap dd (.xd fs):=I1.hok dd _ ea
  obtain⟨mA,hns,hr⟩:=hx
  obtain⟨od,ho,hl⟩:=lookIn_ns hns
  obtain⟨u,hu,ru⟩:=RelO.some_of (v:=v) (o:=mA n) (by rw[←l];exact hr n)
  have J:PySem.W.InstAt s1.heap a oe C (some od):=⟨ha,hz.1,by unfold PySem.W.notCls;rw[hd]<;>rfl,by rw[hz.2];exact ho⟩
  exact HandSPX.exc_get I1.kIn J T.ga T.gg T.exC (PySem.W.findObj_own T.hdC hno rfl (by rw[hl,hu])) (handed_of ru) ⟨v,H1,I1.tok _,ru,q⟩
end DL
namespace DL
open PySem PySem.Spec PyProof.Rows L2
abbrev Tb.BadPlace(t:Tb):Addr:=t.cl 10
abbrev Tb.BadStaff(t:Tb):Addr:=t.cl 11
abbrev Tb.BadSpan(t:Tb):Addr:=t.cl 12
abbrev Tb.BadThick(t:Tb):Addr:=t.cl 13
abbrev Tb.BadWord(t:Tb):Addr:=t.cl 14
abbrev Tb.Same(t:Tb):Addr:=t.cl 15
abbrev Tb.Full(t:Tb):Addr:=t.cl 16
abbrev Tb.BadDeed(t:Tb):Addr:=t.cl 17
abbrev Tb.Nothing(t:Tb):Addr:=t.cl 18
abbrev Tb.Stand(t:Tb):Addr:=t.cl 19
abbrev Tb.Shop(t:Tb):Addr:=t.cl 20
abbrev Tb.NoBar(t:Tb):Addr:=t.cl 21
abbrev Tb.NoMoment(t:Tb):Addr:=t.cl 22
abbrev Tb.NoMark(t:Tb):Addr:=t.cl 23
abbrev Tb.NoLine(t:Tb):Addr:=t.cl 24
abbrev Tb.BurinError(t:Tb):Addr:=t.cl 25
abbrev Tb.Missing(t:Tb):Addr:=t.cl 26
abbrev Tb.DEEDS(t:Tb):Addr:=t.cl 27
abbrev Tb.SIZES(t:Tb):Addr:=t.cl 28
abbrev Tb.put_bar(t:Tb):Addr:=t.cl 29
abbrev Tb.put_change(t:Tb):Addr:=t.cl 30
abbrev Tb.put_cut(t:Tb):Addr:=t.cl 31
abbrev Tb.put_move(t:Tb):Addr:=t.cl 32
abbrev Tb.put_mark(t:Tb):Addr:=t.cl 33
abbrev Tb.put_wipe(t:Tb):Addr:=t.cl 34
abbrev Tb.put_end(t:Tb):Addr:=t.cl 35
abbrev Tb.put_paper(t:Tb):Addr:=t.cl 36
abbrev Tb.put_many(t:Tb):Addr:=t.cl 37
structure KTg(K:PySem.W.Frag)(w:World)(mg:Str→Option Value)(x:Str)(a:Addr)(tbl:List (Str×Option D)):Prop where
 tb:KTb K w a tbl
 gc:GC K mg x (.ref a)
def zJK(t:Tb):List (Str×Option D):=[("bar",some (.ref t.put_bar)),("change",some (.ref t.put_change)),("cut",some (.ref t.put_cut)),("move",some (.ref t.put_move)),("mark",some (.ref t.put_mark)),("wipe",some (.ref t.put_wipe)),("end",some (.ref t.put_end)),("paper",some (.ref t.put_paper)),("many",some (.ref t.put_many))]
def sizesT:List (Str×Option D):=[("bar",some (.int 3)),("change",some (.int 3)),("cut",some (.int 2)),("move",some (.int 3)),("mark",some (.int 5)),("wipe",some (.int 2)),("end",some (.int 3)),("paper",some (.int 6)),("many",some (.int 2)),("Bar",none),("Cut",none),("strike",none)]
end DL
namespace L2
open PySem PySem.Spec PyProof.Rows
def zN6(K:PySem.W.Frag):R2:=fun x y H Q=>∃p q vs,x=.ref p∧y=.ref q∧SqL K H p vs∧SqL K H q []∧Q (.bl vs.isEmpty) H
theorem zQ2{X:Cx}(hu:X.A.units<cLine):OpR X (compareOp .Eq) (zN6 X.K):=by
 intro pins s σ H x y v u Q I rx ry h
 obtain⟨p,q,vs,rfl,rfl,h1,h2,k⟩:=h
 obtain rfl:v=Value.ref p:=rx
 obtain rfl:u=Value.ref q:=ry
 obtain⟨its1,r1,⟨o1,n1,g1,c1,_,d1⟩,_⟩:=I.list h1
 obtain⟨its2,r2,⟨o2,n2,g2,c2,_,d2⟩,_⟩:=I.list h2
 have z2:its2=[]:=List.eq_nil_of_length_eq_zero r2.length.symm
 subst z2
 have l1:s.heap.IsList p its1.toArray:=⟨o1,g1,c1,n1,d1⟩
 have l2:s.heap.IsList q #[]:=⟨o2,g2,c2,n2,d2⟩
 cases vs with
 |nil=>
  have z1:its1=[]:=List.eq_nil_of_length_eq_zero r1.length.symm
  subst z1
  exact PySem.SeqAt.RcAt.lists (e:=fun _=>true) l1 l2 rfl hu (fun j h _=>absurd h (Nat.not_lt_zero j)) X.prog X.w _ _ ⟨.bl true,H,I,rfl,k⟩
 |cons v vs=>
  have hl:its1.length=vs.length+1:=r1.length.symm
  refine PySem.SeqAt.RcAt.lists_lengths l1 l2 ?_ hu X.prog X.w _ _ ⟨.bl false,H,I,rfl,k⟩
  show(its1.toArray.size !=0)=true
  simp[hl]
end L2
namespace DL
open PySem PySem.Spec PyProof.Rows L2
open Evl (Ex)
def zJ4:D2:=fun x y O R=>∃p ds,x=.ref p∧O p=some (.lst ds)∧y=.lst []∧R (.bl ds.isEmpty) O
theorem zR1{K:PySem.W.Frag}:OpS K (zN6 K) zJ4:=fun {G O H x y v u R Q} rl hx hy h k=>by
 obtain⟨p,ds,rfl,ho,rfl,q⟩:=h
 cases hx
 cases hy with
 |lst h1 h2=>
  cases h2
  obtain⟨vs,h3,h4⟩:=rl.lst ho
  refine⟨p,_,vs,rfl,rfl,SqL.of h3,Evl.ex_l rl.g h1,?_⟩
  have e:vs.isEmpty=ds.isEmpty:=by cases h4<;>rfl
  rw[e]
  exact k.here rl (.bl _) q
theorem zOc{X:Cx}{k:Nat}(hr:Room k X.A):OpR X (compareOp .Eq) (zN6 X.K):=zQ2 (by have:=hr.un;omega)
end DL
namespace L2
open PySem PySem.Spec PyProof.Rows
end L2
namespace DL
open PySem PySem.Spec PyProof.Rows L2
open Evl (Ex)
end DL
namespace DL
open PySem PySem.Spec PyProof.Rows L2
theorem GC.ref{K:PySem.W.Frag}{mg:Str→Option Value}{x:Str}{a:Addr}(h:mg x=some (.ref a)):GC K mg x (.ref a):=⟨.ref a,_,h,rfl,fun _=>.ref a⟩
def EntP(K:PySem.W.Frag)(a:Addr)(z:Str)(o:Option D):Prop:=match o with
 |some d=>∃v,zSL K a z (some v)∧∀G,VR K G v d
 |none=>zSL K a z none
section
variable {K:PySem.W.Frag}{w:World}{mg:Str→Option Value}{a:Addr}{z:Str}
theorem EntP.ref{f:Addr}(h:PySem.W.nsIn K a z=some (some (.ref f))):EntP K a z (some (.ref f)):=⟨.ref f,⟨_,h,rfl⟩,fun _=>.ref f⟩
theorem EntP.int{i:Int}{t:Tok}(h:PySem.W.nsIn K a z=some (some (.int i t))):EntP K a z (some (.int i)):=⟨.int i,⟨_,h,⟨t,rfl⟩⟩,fun _=>.int i⟩
theorem EntP.no(h:PySem.W.nsIn K a z=some none):EntP K a z none:=⟨_,h,trivial⟩
theorem zIp{A:Type}{l:List (Str×A)}{k:Str}{o:A}(z:l.lookup k=some o):(k,o)∈l:=by
 induction l with
 |nil=>cases z
 |cons p t ih=>
  rw[List.lookup_cons] at z
  by_cases hb:k=p.1
  ·subst hb
   rw[kc] at z
   cases z
   exact qz
  ·have eb:(k==p.1)=false:=by simpa using hb
   rw[eb] at z
   exact qA _ (ih z)
theorem KTg.of{x:Str}{ks:List Str}{tbl:List (Str×Option D)}(hd:He.dicW K a=some (He.keysIn w.params ks))(hg:mg x=some (.ref a))(h:∀p∈tbl,EntP K a p.1 p.2):KTg K w mg x a tbl:=
 ⟨⟨He.dicW_ok hd,fun z o e=>h (z,o) (zIp e)⟩,GC.ref hg⟩
end
structure DfXA(P:Program)(w:World)(K:PySem.W.Frag)(mg:Str→Option Value)(base:Heap)(k:Nat)(st:Stmt)(x q:Str)(ps:List Str)(dvs:List V)(kws:List (Str×V))(dsp:DSp)(f:Addr)(fd:FuncData):Prop where
 fn:FunD K q q (defArgs st) (defBody st) (defScope st) dvs kws f fd
 ok:FnOk P w K mg base (L2.CX P w) k f fd ps (zCx K dsp)
 mg:mg x=some (.ref f)
end DL
namespace DL
open PySem PySem.Spec PyProof.Rows L2
open He (ga ma eqO eqO_ok ba)
theorem zSi{K:PySem.W.Frag}{C:Addr}{tail:List Value→Bool}{newId:String}(q:exB K C tail newId=true):
  ∃nm q N bs bm sn sub ab col dd k0 k1 k2 k3 k5,K.lookup C=some (excClassObj nm q C N bs bm true sn sub ab col dd k0 k1 k2 k3 k5 newId)∧tail bm=true:=by
 unfold exB at q
 split at q
 ·rename_i dd cd sl ho
  split at q
  ·rename_i C' bm k0 k1 k2 k3 n k5 hm hs
   simp only[qE,beq_iff_eq,kF] at q
   obtain⟨⟨⟨⟨rfl,rfl⟩,hdel⟩,hdc⟩,ht⟩:=q
   obtain⟨nm,bs,mro,ns,qn,hd,sn,sub,ab,col,del⟩:=cd
   dsimp only at hm hdel hdc
   subst hm hdel hdc
   have hsl:sl=#[k0,k1,k2,k3,some (.builtin n),k5]:=by
    obtain⟨l⟩:=sl
    simp only at hs
    rw[hs]
   subst hsl
   exact⟨nm,qn,ns,bs,bm,sn,sub,ab,col,dd,k0,k1,k2,k3,k5,ho,ht⟩
  ·cases q
 ·cases q
structure ErK(K:PySem.W.Frag)(C fI:Addr)(fls:List Str):Prop where
 no:∀f∈fls,PySem.W.findIn K (.ref C) f=some none
 iC:PySem.W.findIn K (.ref C) "__init__"=some (some (.ref fI))
 tI:PySem.W.typeIn K (.ref fI)=some (.type "function")
 xf:XfC K C
 te:PySem.W.exmOne K (.ref C) (.ref C)=some true
 sa:PySem.W.findIn K (.ref C) "__setattr__"=some (some (.builtin "object.__setattr__"))
 tyC:PySem.W.typeIn K (.ref C)=some (.type "type")
 kC:PySem.W.keepIn K (.ref C)=true
theorem zSk{K:PySem.W.Frag}{C:Addr}{fls:List Str}(h:erB K C fls=true):ErK K C (ma K C "__init__") fls:=by
 obtain⟨h1,h⟩:=ba h
 obtain⟨h2,h⟩:=ba h
 obtain⟨h3,h⟩:=ba h
 obtain⟨h4,h⟩:=ba h
 obtain⟨h5,h⟩:=ba h
 obtain⟨h6,h⟩:=ba h
 obtain⟨h7,h8⟩:=ba h
 exact⟨fun f hf=>eqO_ok (jE.mp h1 f hf),eqO_ok h2,jC h3,xfB_ok h4,jC h5,eqO_ok h6,jC h7,h8⟩
theorem zCk{K:PySem.W.Frag}{C:Addr}{fls:List Str}(h:zFT K C fls=true):OexC K C∧ErK K C (ma K C "__init__") fls:=by
 obtain⟨h1,h2⟩:=ba h
 have e:=zSk h2
 exact⟨⟨zSi h1,e.sa,e.xf.exC,e.tyC,e.kC⟩,e⟩
theorem zIx{K:PySem.W.Frag}{C:Addr}{fls:List Str}(h:zRq K C fls=true):OexL K C∧ErK K C (ma K C "__init__") fls:=by
 obtain⟨h1,h2⟩:=ba h
 have e:=zSk h2
 exact⟨⟨zSi h1,e.sa,e.xf.exC,e.tyC,e.kC⟩,e⟩
theorem zO3{K:PySem.W.Frag}{mg:Str→Option Value}{x:Str}{B:Addr}(g:mg x=some (.ref B))(h:zYg K B=true):CiC K mg x B (ma K B "__init__"):=by
 obtain⟨h1,h⟩:=ba h
 obtain⟨h2,h⟩:=ba h
 obtain⟨h3,h⟩:=ba h
 obtain⟨h4,h5⟩:=ba h
 refine⟨g,eqO_ok h1,jC h2,h3,?_,h5⟩
 cases e:PySem.W.findCls K (.ref B) (.type "type") "__init__" with
 |none=>rw[e] at h4;cases h4
 |some r=>
  rw[e] at h4
  cases r with
  |val v=>
   cases v with
   |ref f=>rw[jC h4]
   |_=>cases h4
  |_=>cases h4
theorem GC.tupB{K:PySem.W.Frag}{mg:Str→Option Value}{x:Str}{vs:List He.Dv}{ds:List D}(g:mg x=some (.ref (ga K x)))(h:He.tupB K x vs=true)(v:∀G,VRs K G (vs.map (He.Dv.v K)) ds):GC K mg x (.tup ds):=⟨.ref (ga K x),_,g,rfl,fun G=>.tup (He.tupB_ok h G) (v G)⟩
theorem GC.intE{K:PySem.W.Frag}{mg:Str→Option Value}{x:Str}{i:Int}(h:∃t,mg x=some (.int i t)):GC K mg x (.int i):=let ⟨_,h⟩:=h;GC.int h
theorem GC.strE{K:PySem.W.Frag}{mg:Str→Option Value}{x:Str}{i:Str}(h:∃t,mg x=some (.str i t)):GC K mg x (.str i):=let ⟨_,h⟩:=h;GC.str h
theorem KTg.of2{K:PySem.W.Frag}{w:World}{mg:Str→Option Value}{a:Addr}{x:Str}{tbl:List (Str×Option D)}(hd:∃es n,KDict K w a es n)(hg:mg x=some (.ref a))(h:∀p∈tbl,EntP K a p.1 p.2):KTg K w mg x a tbl:=
 ⟨⟨hd,fun z o e=>h (z,o) (zIp e)⟩,GC.ref hg⟩
theorem zDg{K:PySem.W.Frag}{x k:Str}{i:Int}(h:zHA K x k i=true):EntP K (ga K x) k (some (.int i)):=by
 unfold zHA at h
 cases e:PySem.W.nsIn K (ga K x) k with
 |none=>rw[e] at h;cases h
 |some r=>
  rw[e] at h
  cases r with
  |none=>cases h
  |some v=>
   cases v with
   |int j t=>
    have ej:j=i:=jC h
    rw[ej] at e
    exact EntP.int e
   |_=>cases h
theorem zAU{K:PySem.W.Frag}{x k f:Str}(h:zCs K x k f=true):EntP K (ga K x) k (some (.ref (ga K f))):=EntP.ref (eqO_ok h)
theorem zK0{K:PySem.W.Frag}{x k:Str}(h:zUc K x k=true):EntP K (ga K x) k none:=EntP.no (eqO_ok h)
theorem zAm{l:List (PySem.W.Frag→Bool)}{K:PySem.W.Frag}(h:zUZ l K=true)(i:Nat){f:PySem.W.Frag→Bool}(e:l[i]?=some f:=by rfl):f K=true:=jE.mp h f (qI e)
end DL
namespace DL
open PySem PySem.Spec PyProof.Rows L2
end DL
namespace DL
open PySem PySem.Spec PyProof.Rows L2
end DL
namespace DL
open PySem PySem.Spec PyProof.Rows L2
open Evl (Ex)
end DL
namespace DL
open PySem L2
open Evl (Ex)
end DL
namespace DL
open PySem PySem.Spec PyProof.Rows L2
open Evl (Ex)
end DL
namespace DL
open PySem PySem.Spec PyProof.Rows L2
open Evl (Ex)
end DL
namespace L2
open PySem PySem.Spec PyProof.Rows
end L2
namespace L2
open PySem PySem.Spec PyProof.Rows
end L2
namespace DL
open PySem PySem.Spec PyProof.Rows L2
open Evl (Ex)
end DL
namespace Lw
def sl{A:Type}:List A→(A→Rat)→Rat
 |[],_=>0
 |x::r,f=>f x+sl r f
section
variable {A B:Type}{f g:A→Rat}
theorem zJc(xs ys:List A):sl (xs++ys) f=sl xs f+sl ys f:=by
 induction xs with
 |nil=>show sl ys f=0+sl ys f;rw[jS]
 |cons x r ih=>show f x+sl (r++ys) f=f x+sl r f+sl ys f;rw[ih,Rat.add_assoc]
theorem zB8{xs:List A}(h:∀x∈xs,f x=g x):sl xs f=sl xs g:=by
 induction xs with
 |nil=>rfl
 |cons x r ih=>show f x+sl r f=g x+sl r g;rw[h x (by simp),ih fun y hy=>h y (by simp[hy])]
theorem zKy{xs:List A}(h:∀x∈xs,f x=0):sl xs f=0:=by
 induction xs with
 |nil=>rfl
 |cons x r ih=>show f x+sl r f=0;rw[h x (by simp),ih fun y hy=>h y (by simp[hy]),jS]
theorem zNI(xs:List A):sl xs (fun x=>f x+g x)=sl xs f+sl xs g:=by
 induction xs with
 |nil=>show(0:Rat)=0+0;rw[jK]
 |cons x r ih=>show f x+g x+sl r _=f x+sl r f+(g x+sl r g);rw[ih];grind
theorem zLC(xs:List A):sl xs (fun x=>f x-g x)=sl xs f-sl xs g:=by
 induction xs with
 |nil=>show(0:Rat)=0-0;rw[Rat.sub_self]
 |cons x r ih=>show f x-g x+sl r _=f x+sl r f-(g x+sl r g);rw[ih];grind
theorem zLD(xs:List A)(c:Rat):sl xs (fun x=>c*f x)=c*sl xs f:=by
 induction xs with
 |nil=>show(0:Rat)=c*0;rw[jz]
 |cons x r ih=>show c*f x+sl r _=c*(f x+sl r f);rw[ih];grind
theorem zNG(xs:List A)(c:Rat):sl xs (fun x=>f x*c)=sl xs f*c:=by
 rw[Rat.mul_comm (sl xs f),←zLD];exact zB8 fun x _=>Rat.mul_comm ..
theorem zSU{h:A→B→Rat}(xs:List A)(ys:List B):sl xs (fun x=>sl ys fun y=>h x y)=sl ys (fun y=>sl xs fun x=>h x y):=by
 induction xs with
 |nil=>show(0:Rat)=_;rw[zKy (xs:=ys)];intro y _;rfl
 |cons x r ih=>
  show sl ys (fun y=>h x y)+sl r _=sl ys (fun y=>h x y+sl r fun x=>h x y)
  rw[ih,zNI]
theorem zCX{xs:List A}(h:∀x∈xs,0≤f x):0≤sl xs f:=by
 induction xs with
 |nil=>exact Rat.le_refl
 |cons x r ih=>
  have h1:=h x (by simp)
  have h2:=ih fun y hy=>h y (by simp[hy])
  show 0≤f x+sl r f
  grind
theorem zNF{xs:List A}(h:∀x∈xs,f x≤0):sl xs f≤0:=by
 induction xs with
 |nil=>exact Rat.le_refl
 |cons x r ih=>
  have h1:=h x (by simp)
  have h2:=ih fun y hy=>h y (by simp[hy])
  show f x+sl r f≤0
  grind
theorem zNH{xs:List A}(h:∀x∈xs,0≤f x)(z:sl xs f=0):∀x∈xs,f x=0:=by
 induction xs with
 |nil=>intro x hx;cases hx
 |cons y r ih=>
  have h1:=h y (by simp)
  have h2:=zCX (xs:=r) (f:=f) fun y hy=>h y (by simp[hy])
  have z':f y+sl r f=0:=z
  intro x hx
  rcases qj.mp hx with rfl|hx
  ·grind
  ·exact ih (fun y hy=>h y (by simp[hy])) (by grind) x hx
theorem zKz{xs ys:List A}(h:xs.Perm ys):sl xs f=sl ys f:=by
 induction h with
 |nil=>rfl
 |cons x _ ih=>show f x+_=f x+_;rw[ih]
 |swap x y l=>show f y+(f x+_)=f x+(f y+_);grind
 |trans _ _ a b=>rw[a,b]
theorem zJb(xs:List A)(p:A→Bool)(h:∀x∈xs,p x=false→f x=0):sl (xs.filter p) f=sl xs f:=by
 induction xs with
 |nil=>rfl
 |cons x r ih=>
  have ih:=ih fun y hy=>h y (by simp[hy])
  rw[List.filter_cons]
  cases hp:p x with
  |true=>show f x+_=f x+_;rw[ih]
  |false=>
   show sl (r.filter p) f=f x+sl r f
   rw[h x (by simp) hp,ih,jS]
end
abbrev sm(n:Nat)(f:Nat→Rat):Rat:=sl (List.range n) f
theorem zBC(n:Nat)(f:Nat→Rat):sm (n+1) f=sm n f+f n:=by
 unfold sm
 rw[List.range_succ,zJc]
 show _+(f n+0)=_
 rw[jK]
theorem zDW{n:Nat}{f g:Nat→Rat}:sm n (fun x=>f x+g x)=sm n f+sm n g:=zNI _
theorem zGm{n:Nat}{f g:Nat→Rat}:sm n (fun x=>f x-g x)=sm n f-sm n g:=zLC _
theorem zB0{n:Nat}{f:Nat→Rat}(c:Rat):sm n (fun x=>c*f x)=c*sm n f:=zLD _ c
theorem zHW{n m:Nat}{h:Nat→Nat→Rat}:sm n (fun x=>sm m fun y=>h x y)=sm m (fun y=>sm n fun x=>h x y):=zSU _ _
theorem zAv{n:Nat}{f g:Nat→Rat}(h:∀i,i<n→f i=g i):sm n f=sm n g:=zB8 fun i hi=>h i (qC.mp hi)
theorem zHV{n:Nat}{f:Nat→Rat}(h:∀i,i<n→f i=0):sm n f=0:=zKy fun i hi=>h i (qC.mp hi)
theorem zHm{n:Nat}{f:Nat→Rat}{i:Nat}(hi:i<n)(h:∀j,j<n→j≠i→f j=0):sm n f=f i:=by
 induction n with
 |zero=>omega
 |succ n ih=>
  rw[zBC]
  by_cases e:i=n
  ·subst e
   rw[zHV (n:=i) fun j hj=>h j (by omega) (by omega),jS]
  ·rw[ih (by omega) (fun j hj hn=>h j (by omega) hn),h n (by omega) (fun z=>e z.symm),jK]
theorem zMG{f:Nat→Rat}{T:List Nat}{K:Nat}(hn:T.Nodup)(hK:∀k∈T,k<K)(h:∀k,k<K→k∉T→f k=0):sm K f=sl T f:=by
 have e:((List.range K).filter fun k=>decide (k∈T)).Perm T:=by
  rw[List.perm_ext_iff_of_nodup (List.nodup_range.filter _) hn]
  intro a
  simp only[jI,qC,qp]
  exact⟨fun h=>h.2,fun h=>⟨hK a h,h⟩⟩
 rw[←zKz e]
 refine(zJb _ _ fun k hk hp=>h k (qC.mp hk) (by simpa using hp)).symm
end Lw
namespace Lw
def sli{A:Type}:List A→(A→Int)→Int
 |[],_=>0
 |x::r,f=>f x+sli r f
theorem zHX{A:Type}(xs:List A)(f:A→Int):((sli xs f:Int):Rat)=sl xs fun x=>(f x:Rat):=by
 induction xs with
 |nil=>rfl
 |cons x r ih=>show((f x+sli r f:Int):Rat)=(f x:Rat)+_;rw[kQ,ih]
def Inj(m:Nat)(N:Nat→Nat→Int):Prop:=∀c:Nat→Rat,(∀r,r<m→sm m (fun i=>(N r i:Rat)*c i)=0)→∀i,i<m→c i=0
def zPr{A:Type}(S:List A):Nat→List (List A)
 |0=>[[]]
 |m+1=>S.flatMap fun x=>(zPr S m).map (x::·)
theorem zMv{A:Type}(S:List A):∀m,(zPr S m).length=S.length ^ m
 |0=>rfl
 |m+1=>by
  unfold zPr
  rw[List.length_flatMap]
  have:(S.map fun x=>((zPr S m).map (x::·)).length)=S.map fun _=>S.length ^ m:=jO fun x _=>by rw[qd,zMv S m]
  rw[this,List.map_const',List.sum_replicate_nat,Nat.pow_succ,Nat.mul_comm]
theorem zMu{A:Type}{S:List A}:∀{l:List A},(∀x∈l,x∈S)→l∈zPr S l.length
 |[],_=>by simp[zPr]
 |x::r,h=>by
  show x::r∈zPr S (r.length+1)
  unfold zPr
  rw[List.mem_flatMap]
  exact⟨x,h x (by simp),qy.mpr ⟨r,zMu fun y hy=>h y (by simp[hy]),rfl⟩⟩
theorem zNp{M:Nat}{code:Nat→List Int}{all:List (List Int)}(hm:∀k,code k∈all)(hl:all.length≤M):∃k l,k<l∧l≤M∧code k=code l:=by
 apply jh
 intro no
 have hnd:((List.range (M+1)).map code).Nodup:=by
  rw[List.Nodup,List.pairwise_map]
  refine(List.pairwise_lt_range (n:=M+1)).imp_of_mem ?_
  intro a b ha hb hab e
  exact no ⟨a,b,hab,by have:=qC.mp hb;omega,e⟩
 have:=hnd.length_le_of_subset (l₂:=all) (fun x hx=>by
  obtain⟨k,_,rfl⟩:=qy.mp hx
  exact hm k)
 rw[qd,jD] at this
 omega
def zHM(m B:Nat):Nat:=(2*(m*B)+1) ^ m
theorem zUa(x:Rat):0≤x-(x.floor:Rat)∧x-(x.floor:Rat)<1:=by
 have h1:=Rat.floor_le x
 have h2:=Rat.lt_floor_add_one x
 rw[kQ] at h2
 constructor
 ·grind
 ·have:((1:Int):Rat)=1:=rfl
  grind
theorem zHu{z:Int}{n:Nat}(h1:-(n:Rat)≤(z:Rat))(h2:(z:Rat)≤(n:Rat)):z.natAbs≤n:=by
 have e1:((-(n:Int):Int):Rat)=-(n:Rat):=by rw[Rat.intCast_neg];rfl
 have e2:(((n:Int)):Rat)=(n:Rat):=rfl
 rw[←e1] at h1
 rw[←e2] at h2
 have a1:=jn.mp h1
 have a2:=jn.mp h2
 omega
theorem zOf{z:Int}{n:Nat}(h:z.natAbs≤n):-(n:Rat)≤(z:Rat)∧(z:Rat)≤(n:Rat):=by
 have e1:((-(n:Int):Int):Rat)=-(n:Rat):=by rw[Rat.intCast_neg];rfl
 have e2:(((n:Int)):Rat)=(n:Rat):=rfl
 rw[←e1,←e2]
 exact⟨jn.mpr (by omega),jn.mpr (by omega)⟩
theorem zE2{a b:Nat}(h:a≤b):(a:Rat)≤(b:Rat):=by
 have:=(zOf (z:=(a:Int)) (n:=b) (by simpa using h)).2
 exact this
theorem zZq{A:Type}{xs:List A}{f:A→Rat}{M:Nat}(h:∀x∈xs,-(M:Rat)≤f x∧f x≤(M:Rat)):-((xs.length*M:Nat):Rat)≤sl xs f∧sl xs f≤((xs.length*M:Nat):Rat):=by
 induction xs with
 |nil=>
  show -(((0*M:Nat)):Rat)≤0∧(0:Rat)≤((0*M:Nat):Rat)
  rw[Nat.zero_mul]
  exact⟨Rat.le_refl,Rat.le_refl⟩
 |cons x r ih=>
  have h1:=h x (by simp)
  have h2:=ih fun y hy=>h y (by simp[hy])
  have e:(((x::r).length*M:Nat):Rat)=((r.length*M:Nat):Rat)+(M:Rat):=by
   rw[qi,Nat.add_mul,Nat.one_mul,Rat.natCast_add]
  rw[e]
  show -_≤f x+sl r f∧f x+sl r f≤_
  constructor<;>grind
theorem zRd{n:Int}{B:Nat}(h:n.natAbs≤B){x:Rat}(h0:0≤x)(h1:x≤1):-(B:Rat)≤(n:Rat)*x∧(n:Rat)*x≤(B:Rat):=by
 obtain⟨a1,a2⟩:=zOf h
 have hB:(0:Rat)≤(B:Rat):=zE2 (qR B)
 have u1:=jd a1 h0
 have u2:=jd a2 h0
 have u3:=jP h1 hB
 constructor<;>grind
theorem zXn{W:Nat}{z:Int}(h:z.natAbs≤W):z∈(List.range (2*W+1)).map fun k:Nat=>((k:Nat):Int)-(W:Int):=
 qy.mpr ⟨(z+(W:Int)).toNat,qC.mpr (by omega),by omega⟩
theorem zHL{m:Nat}{N:Nat→Nat→Int}{B:Nat}(h:Inj m N)(hB:∀r i,r<m→i<m→(N r i).natAbs≤B){y:Nat→Rat}{c:Nat→Int}(hy:∀r,r<m→sm m (fun i=>(N r i:Rat)*y i)=(c r:Rat)):
  ∃q:Nat,0<q∧q≤zHM m B∧∀i,i<m→∃z:Int,(q:Rat)*y i=(z:Rat):=by
 let v:Nat→Nat→Int:=fun k r=>(k:Int)*c r-sli (List.range m) fun i=>N r i*((k:Rat)*y i).floor
 have ev:∀k r,r<m→((v k r:Int):Rat)=sm m fun i=>(N r i:Rat)*((k:Rat)*y i-(((k:Rat)*y i).floor:Rat)):=fun k r hr=>by
  show(((k:Int)*c r-sli (List.range m) fun i=>N r i*((k:Rat)*y i).floor:Int):Rat)=_
  rw[Rat.intCast_sub,ju,zHX,←hy r hr]
  have ek:(((k:Nat):Int):Rat)=(k:Rat):=rfl
  rw[ek,←zLD,←zLC]
  exact zB8 fun i _=>by rw[ju];grind
 have bv:∀k r,r<m→(v k r).natAbs≤m*B:=fun k r hr=>by
  have hb:=zZq (xs:=List.range m) (f:=fun i=>(N r i:Rat)*((k:Rat)*y i-(((k:Rat)*y i).floor:Rat))) (M:=B) fun i hi=>by
   obtain⟨f0,f1⟩:=zUa ((k:Rat)*y i)
   exact zRd (hB r i hr (qC.mp hi)) f0 (ke f1)
  rw[jD] at hb
  refine zHu ?_ ?_
  ·rw[ev k r hr];exact hb.1
  ·rw[ev k r hr];exact hb.2
 let S:List Int:=(List.range (2*(m*B)+1)).map fun k:Nat=>((k:Nat):Int)-((m*B:Nat):Int)
 let code:Nat→List Int:=fun k=>(List.range m).map (v k)
 have hcode:∀k,code k∈zPr S m:=fun k=>by
  have:=zMu (S:=S) (l:=code k) fun x hx=>by
   obtain⟨r,hr,rfl⟩:=qy.mp hx
   have hb:=bv k r (qC.mp hr)
   have hb2:(v k r).natAbs≤(m*B:Nat):=hb
   exact zXn hb2
  have hl:(code k).length=m:=by show((List.range m).map (v k)).length=m;simp
  rwa [hl] at this
 have hS:(zPr S m).length≤zHM m B:=by
  rw[zMv]
  have:S.length=2*(m*B)+1:=by simp[S]
  rw[this]
  exact qG _
 obtain⟨k,l,hkl,hl,e⟩:=zNp hcode hS
 refine⟨l-k,by omega,by omega,fun i hi=>⟨((l:Rat)*y i).floor-((k:Rat)*y i).floor,?_⟩⟩
 have hv:∀r,r<m→v k r=v l r:=fun r hr=>by
  have:=jB (fun z=>z[r]?) e
  simpa [code,hr] using this
 have h0:=h (fun i=>((l:Rat)*y i-(((l:Rat)*y i).floor:Rat))-((k:Rat)*y i-(((k:Rat)*y i).floor:Rat))) (fun r hr=>by
  have e1:=ev k r hr
  have e2:=ev l r hr
  rw[hv r hr,e2] at e1
  have:sm m (fun i=>(N r i:Rat)*(((l:Rat)*y i-(((l:Rat)*y i).floor:Rat))-((k:Rat)*y i-(((k:Rat)*y i).floor:Rat))))=sm m (fun i=>(N r i:Rat)*((l:Rat)*y i-(((l:Rat)*y i).floor:Rat)))-sm m fun i=>(N r i:Rat)*((k:Rat)*y i-(((k:Rat)*y i).floor:Rat)):=by
   rw[←zLC]
   exact zB8 fun i _=>by grind
  rw[this,e1,Rat.sub_self]) i hi
 have elk:((l-k:Nat):Rat)=(l:Rat)-(k:Rat):=by
  have h1:((l-k:Nat):Rat)+(k:Rat)=(l:Rat):=by rw[←Rat.natCast_add];congr 1;omega
  grind
 rw[elk,Rat.intCast_sub]
 have h0:((l:Rat)*y i-(((l:Rat)*y i).floor:Rat))-((k:Rat)*y i-(((k:Rat)*y i).floor:Rat))=0:=h0
 grind
theorem zVr{m:Nat}{N:Nat→Nat→Int}{B:Nat}(h:Inj m N)(hB:∀r i,r<m→i<m→(N r i).natAbs≤B){c:Nat→Int}(hc:∀r,r<m→(c r).natAbs≤B){y:Nat→Rat}(hy:∀r,r<m→sm m (fun i=>(N r i:Rat)*y i)=(c r:Rat)):
  ∀i,i<m→-(zHM m B:Rat)≤y i∧y i≤(zHM m B:Rat):=by
 intro i hi
 have hM:(0:Rat)≤(zHM m B:Rat):=zE2 (qR _)
 by_cases hz:y i=0
 ·rw[hz];constructor<;>grind
 let N':Nat→Nat→Int:=fun r j=>if j=i then c r else N r j
 have hsplit:∀(r:Nat) (d:Nat→Rat),r<m→sm m (fun j=>(N' r j:Rat)*d j)=sm m (fun j=>(N r j:Rat)*d j)-(N r i:Rat)*d i+(c r:Rat)*d i:=fun r d hr=>by
  have e:sm m (fun j=>(N' r j:Rat)*d j)=sm m (fun j=>(N r j:Rat)*d j+(if j=i then((c r:Rat)-(N r i:Rat))*d i else 0)):=zB8 fun j _=>by
   show((if j=i then c r else N r j:Int):Rat)*d j=_
   by_cases e:j=i
   ·rw[qe e,qe e,e];grind
   ·rw[qb e,qb e];grind
  rw[e,zDW,zHm (f:=fun j=>if j=i then((c r:Rat)-(N r i:Rat))*d i else 0) hi (fun j _ hj=>qb hj),qe rfl]
  grind
 have hinj:Inj m N':=fun d hd=>by
  have hk:=h (fun j=>(if j=i then 0 else d j)+d i*y j) fun r hr=>by
   have h1:=hd r hr
   rw[hsplit r d hr,←hy r hr] at h1
   have h2:sm m (fun j=>(N r j:Rat)*((if j=i then 0 else d j)+d i*y j))=sm m (fun j=>(N r j:Rat)*d j-(if j=i then(N r i:Rat)*d i else 0))+sm m (fun j=>d i*((N r j:Rat)*y j)):=by
    rw[←zNI]
    refine zB8 fun j _=>?_
    by_cases e:j=i
    ·rw[qe e,qe e,e];grind
    ·rw[qb e,qb e];grind
   rw[h2,zGm,zHm (f:=fun j=>if j=i then(N r i:Rat)*d i else 0) hi (fun j _ hj=>qb hj),qe rfl,zB0]
   grind
  have hdi:d i=0:=by
   have h1:(if i=i then 0 else d i)+d i*y i=0:=hk i hi
   rw[qe rfl,jS] at h1
   rcases kR.mp h1 with h1|h1
   ·exact h1
   ·exact absurd h1 hz
  intro j hj
  by_cases e:j=i
  ·rw[e];exact hdi
  ·have h1:(if j=i then 0 else d j)+d i*y j=0:=hk j hj
   rw[qb e,hdi,jA,jK] at h1
   exact h1
 have hB':∀r j,r<m→j<m→(N' r j).natAbs≤B:=fun r j hr hj=>by
  show(if j=i then c r else N r j:Int).natAbs≤B
  by_cases e:j=i
  ·rw[qe e];exact hc r hr
  ·rw[qb e];exact hB r j hr hj
 obtain⟨q,q0,q1,hq⟩:=zHL hinj hB' (y:=fun j=>if j=i then(y i)⁻¹ else -(y j*(y i)⁻¹)) (c:=fun r=>N r i) fun r hr=>by
  rw[hsplit r _ hr]
  have e:sm m (fun j=>(N r j:Rat)*(if j=i then(y i)⁻¹ else -(y j*(y i)⁻¹)))=sm m (fun j=>(if j=i then(N r i:Rat)*((y i)⁻¹+1) else 0)-(y i)⁻¹*((N r j:Rat)*y j)):=zB8 fun j _=>by
   by_cases e:j=i
   ·rw[qe e,qe e,e]
    have:=jT _ hz
    grind
   ·rw[qb e,qb e];grind
  rw[e,zGm,zHm (f:=fun j=>if j=i then(N r i:Rat)*((y i)⁻¹+1) else 0) hi (fun j _ hj=>qb hj),qe rfl,qe rfl,zB0,hy r hr]
  grind
 obtain⟨z,hz2⟩:=hq i hi
 rw[qe rfl] at hz2
 have hqy:(q:Rat)=(z:Rat)*y i:=by
  have:=jT _ hz
  rw[←hz2]
  grind
 have hq0:(0:Rat)<(q:Rat):=by exact_mod_cast q0
 have hqM:(q:Rat)≤(zHM m B:Rat):=zE2 q1
 have z0:z≠0:=fun e=>by
  rw[e] at hqy
  have:((0:Int):Rat)=0:=rfl
  rw[this,jA] at hqy
  rw[hqy] at hq0
  exact ko hq0
 rcases Int.lt_or_gt_of_ne z0 with hneg|hpos
 ·have h1:(z:Rat)≤-1:=by have:=jn.mpr (show z≤-1 by omega);exact this
  have hy0:y i≤0:=by
   rcases Rat.le_total (a:=y i) (b:=0) with h|h
   ·exact h
   ·have:=jd h1 h
    grind
  have h2:=jd h1 (c:=-(y i)) (by grind)
  constructor<;>grind
 ·have h1:(1:Rat)≤(z:Rat):=by have:=jn.mpr (show 1≤z by omega);exact this
  have hy0:0≤y i:=by
   rcases Rat.le_total (a:=0) (b:=y i) with h|h
   ·exact h
   ·have:=jd h1 (c:=-(y i)) (by grind)
    grind
  have h2:=jd h1 hy0
  constructor<;>grind
theorem zSI{m:Nat}{N:Nat→Nat→Int}{B:Nat}(h:Inj m N)(hB:∀r i,r<m→i<m→(N r i).natAbs≤B){c:Nat→Int}(hc:∀r,r<m→(c r).natAbs≤B){y:Nat→Rat}(hy:∀r,r<m→sm m (fun i=>(N r i:Rat)*y i)=(c r:Rat)):
  ∃q:Nat,0<q∧q≤zHM m B∧∀i,i<m→∃z:Int,y i=(z:Rat)/((q:Int):Rat)∧z.natAbs≤zHM m B*q:=by
 obtain⟨q,q0,q1,hq⟩:=zHL h hB hy
 have hb:=zVr h hB hc hy
 refine⟨q,q0,q1,fun i hi=>?_⟩
 obtain⟨z,hz⟩:=hq i hi
 have hq0:(0:Rat)<(q:Rat):=by exact_mod_cast q0
 have hqn:(q:Rat)≠0:=fun e=>by rw[e] at hq0;exact ko hq0
 refine⟨z,?_,zHu ?_ ?_⟩
 ·show y i=(z:Rat)/(q:Rat)
  rw[←hz,jg]
  have:=jT _ hqn
  grind
 ·rw[←hz,Rat.natCast_mul]
  have:=jP (hb i hi).1 (ke hq0)
  grind
 ·rw[←hz,Rat.natCast_mul]
  have:=jP (hb i hi).2 (ke hq0)
  grind
end Lw
namespace Lw
theorem zRS{n t:Nat}{f:Nat→Rat}(h:t≤n)(z:∀j,t≤j→j<n→f j=0):sm n f=sm t f:=by
 induction n with
 |zero=>
      have:t=0:=by omega
      rw[this]
 |succ n ih=>
  by_cases e:t=n+1
  ·rw[e]
  ·rw[zBC,ih (by omega) (fun j h1 h2=>z j h1 (by omega)),z n (by omega) (by omega),jK]
structure GJ(m:Nat)(N:Nat→Nat→Int)(t:Nat)(p:Nat→Nat)(A:Nat→Nat→Rat):Prop where
 lt:∀k,k<m→p k<m
 inj:∀k l,k<m→l<m→p k=p l→k=l
 U:∀k j,k<m→j≤m→(N (p k) j:Rat)=sm t (fun i=>(N (p k) i:Rat)*A i j)+(if k<t then 0 else A k j)
 D:∀k j,k<m→j<t→A k j=if k=j then 1 else 0
 C:∀c:Nat→Rat,(∀r,r<t→sm (m+1) (fun j=>(N (p r) j:Rat)*c j)=0)→∀r,r<t→sm (m+1) (fun j=>A r j*c j)=0
section
variable {m:Nat}{N:Nat→Nat→Int}{t:Nat}{p:Nat→Nat}{A:Nat→Nat→Rat}
theorem GJ.start:GJ m N 0 id (fun k j=>(N k j:Rat)):=by
 refine⟨fun k h=>h,fun k l _ _ e=>e,fun k j _ _=>?_,fun k j _ h=>absurd h (by omega),fun c _ r h=>absurd h (by omega)⟩
 show(N k j:Rat)=0+_
 rw[qb (by omega),jS]
theorem GJ.congr{A':Nat→Nat→Rat}(h:GJ m N t p A)(htm:t≤m)(e:∀k j,k<m→j≤m→A' k j=A k j):GJ m N t p A':=by
 refine⟨h.lt,h.inj,fun k j hk hj=>?_,fun k j hk hj=>?_,fun c hc r hr=>?_⟩
 ·rw[h.U k j hk hj,e k j hk hj]
  congr 1
  exact zAv fun i hi=>by rw[e i j (by omega) hj]
 ·rw[e k j hk (by omega)];exact h.D k j hk hj
 ·rw[←h.C c hc r hr]
  exact zAv fun j hj=>by rw[e r j (by omega) (by omega)]
def swp(a b k:Nat):Nat:=if k=a then b else if k=b then a else k
theorem zNs(a b k:Nat):swp a b (swp a b k)=k:=by
 unfold swp
 by_cases h1:k=a
 ·rw[qe h1]
  by_cases h2:b=a
  ·rw[qe h2];omega
  ·rw[qb h2,qe rfl];omega
 ·rw[qb h1]
  by_cases h2:k=b
  ·rw[qe h2,qe rfl];omega
  ·rw[qb h2,qb h1,qb h2]
theorem zI3{a b k n:Nat}(ha:a<n)(hb:b<n)(hk:k<n):swp a b k<n:=by unfold swp;split;exact hb;split;exact ha;exact hk
theorem zHS{a b k:Nat}(ha:k<a)(hb:k<b):swp a b k=k:=by unfold swp;rw[qb (by omega),qb (by omega)]
theorem zLq{a b k:Nat}(hb:a≤b)(hk:a≤k):a≤swp a b k:=by unfold swp;split;exact hb;split;omega;exact hk
theorem GJ.swap(h:GJ m N t p A){q:Nat}(ht:t<m)(hq:t≤q)(hqm:q<m):GJ m N t (fun k=>p (swp t q k)) (fun k j=>A (swp t q k) j):=by
 refine⟨fun k hk=>h.lt _ (zI3 ht hqm hk),fun k l hk hl e=>?_,fun k j hk hj=>?_,fun k j hk hj=>?_,fun c hc r hr=>?_⟩
 ·have:=h.inj _ _ (zI3 ht hqm hk) (zI3 ht hqm hl) e
  have:=jB (swp t q) this
  rwa [zNs,zNs] at this
 ·rw[h.U _ j (zI3 ht hqm hk) hj]
  have e1:sm t (fun i=>(N (p (swp t q k)) i:Rat)*A i j)=sm t (fun i=>(N (p (swp t q k)) i:Rat)*A (swp t q i) j):=zAv fun i hi=>by rw[zHS hi (by omega)]
  rw[e1]
  congr 1
  by_cases hk2:k<t
  ·rw[zHS hk2 (by omega)]
  ·rw[qb hk2,qb (by have:=zLq hq (show t≤k by omega);omega)]
 ·rw[h.D _ j (zI3 ht hqm hk) hj]
  by_cases hk2:k<t
  ·rw[zHS hk2 (by omega)]
  ·have hs:=zLq hq (show t≤k by omega)
   rw[qb (by omega),qb (by omega)]
 ·have e:∀r,r<t→swp t q r=r:=fun r hr=>zHS hr (by omega)
  have:=h.C c (fun r hr=>by have:=hc r hr;rwa [e r hr] at this) r hr
  show sm (m+1) (fun j=>A (swp t q r) j*c j)=0
  rw[e r hr];exact this
def clr(A:Nat→Nat→Rat)(t:Nat):Nat→Nat→Rat:=fun k j=>if k=t then A t j/A t t else A k j-A k t*(A t j/A t t)
theorem GJ.step(h:GJ m N t p A)(ht:t<m)(hp:A t t≠0):GJ m N (t+1) p (clr A t):=by
 have hA:A t t*(A t t)⁻¹=1:=jT _ hp
 have htt:∀j,clr A t t j=A t j*(A t t)⁻¹:=fun j=>by unfold clr;rw[qe rfl,jg]
 have hkt:∀k j,k≠t→clr A t k j=A k j-A k t*(A t j*(A t t)⁻¹):=fun k j e=>by unfold clr;rw[qb e,jg]
 have hU:∀k j,k<m→j≤m→(N (p k) j:Rat)=sm (t+1) (fun i=>(N (p k) i:Rat)*clr A t i j)+(if k<t+1 then 0 else clr A t k j):=fun k j hk hj=>by
  rw[zBC]
  have e1:sm t (fun i=>(N (p k) i:Rat)*clr A t i j)=sm t (fun i=>(N (p k) i:Rat)*A i j)-(A t j*(A t t)⁻¹)*sm t (fun i=>(N (p k) i:Rat)*A i t):=by
   rw[←zB0,←zGm]
   exact zAv fun i hi=>by rw[hkt i j (by omega)];grind
  have u1:=h.U k j hk hj
  have u2:=h.U k t hk (by omega)
  rw[e1,htt]
  by_cases c1:k<t
  ·rw[qe c1] at u1 u2
   rw[qe (by omega)]
   grind
  ·rw[qb c1] at u1 u2
   by_cases c2:k=t
   ·subst c2
    rw[qe (by omega)]
    grind
   ·rw[qb (by omega),hkt k j c2]
    grind
 have hD:∀k j,k<m→j<t+1→clr A t k j=if k=j then 1 else 0:=fun k j hk hj=>by
  by_cases c:k=t
  ·subst c
   rw[htt]
   by_cases c2:j=k
   ·subst c2;rw[qe rfl];exact hA
   ·rw[qb (fun e=>c2 e.symm),h.D k j hk (by omega),qb (fun e=>c2 e.symm),jA]
  ·rw[hkt k j c]
   by_cases c2:j=t
   ·subst c2
    rw[qb c]
    grind
   ·rw[h.D k j hk (by omega),h.D t j ht (by omega),qb (show t≠j by omega)]
    grind
 refine⟨h.lt,h.inj,hU,hD,fun c hc r hr=>?_⟩
 have hlow:=h.C c (fun r hr=>hc r (by omega))
 have hrow:sm (m+1) (fun j=>A t j*c j)=0:=by
  have h0:=hc t (by omega)
  have e:sm (m+1) (fun j=>(N (p t) j:Rat)*c j)=sm (m+1) (fun j=>sm t (fun i=>((N (p t) i:Rat)*A i j)*c j))+sm (m+1) (fun j=>A t j*c j):=by
   rw[←zDW]
   exact zAv fun j hj=>by
    rw[h.U t j ht (by omega),qb (by omega),Rat.add_mul]
    congr 1
    unfold sm
    rw[←zNG]
  rw[e,zHW] at h0
  have z:sm t (fun i=>sm (m+1) fun j=>((N (p t) i:Rat)*A i j)*c j)=0:=zHV fun i hi=>by
   have:sm (m+1) (fun j=>((N (p t) i:Rat)*A i j)*c j)=(N (p t) i:Rat)*sm (m+1) (fun j=>A i j*c j):=by
    rw[←zB0];exact zAv fun j _=>by rw[Rat.mul_assoc]
   rw[this,hlow i hi,jz]
  rw[z,jS] at h0
  exact h0
 by_cases e:r=t
 ·subst e
  have:sm (m+1) (fun j=>clr A r r j*c j)=(A r r)⁻¹*sm (m+1) (fun j=>A r j*c j):=by
   rw[←zB0];exact zAv fun j _=>by rw[htt];grind
  rw[this,hrow,jz]
 ·have:sm (m+1) (fun j=>clr A t r j*c j)=sm (m+1) (fun j=>A r j*c j)-(A r t*(A t t)⁻¹)*sm (m+1) (fun j=>A t j*c j):=by
   rw[←zB0,←zGm];exact zAv fun j _=>by rw[hkt r j e];grind
  rw[this,hrow,hlow r (by omega),jz,Rat.sub_self]
theorem GJ.injT(h:GJ m N t p A)(htm:t≤m):Inj t (fun r i=>N (p r) i):=fun c hc r hr=>by
 have h1:=h.C (fun j=>if j<t then c j else 0) (fun r hr=>by
  rw[zRS (t:=t) (by omega) (fun j h1 h2=>by rw[qb (by omega),jz])]
  rw[←hc r hr]
  exact zAv fun j hj=>by rw[qe hj]) r hr
 rw[zRS (t:=t) (by omega) (fun j h1 h2=>by rw[qb (by omega),jz]),zHm (i:=r) hr (fun j hj hn=>by rw[h.D r j (by omega) hj,qb (fun e=>hn e.symm),jA]),h.D r r (by omega) hr,qe rfl,qe hr,Rat.one_mul] at h1
 exact h1
theorem zES{a b B:Nat}(h:a≤b):zHM a B≤zHM b B:=by
 unfold zHM
 have h1:2*(a*B)+1≤2*(b*B)+1:=by have:=qS B h;omega
 exact qo (Nat.pow_le_pow_left h1 a) (qY (by omega) h)
theorem GJ.bound(h:GJ m N t p A)(htm:t≤m){B:Nat}(hB1:1≤B)(hB:∀r j,r<m→j≤m→(N r j).natAbs≤B):∀k j,k<m→j≤m→
  ∃q:Nat,0<q∧q≤zHM (m+1) B∧∃z:Int,A k j=(z:Rat)/((q:Int):Rat)∧z.natAbs≤zHM (m+1) B*q:=by
 intro k j hk hj
 have hT:=h.injT htm
 have up:∀s q:Nat,s≤m+1→zHM s B*q≤zHM (m+1) B*q:=fun s q hs=>qS q (zES hs)
 by_cases c:k<t
 ·obtain⟨q,q0,q1,hq⟩:=zSI (y:=fun i=>A i j) (c:=fun r=>N (p r) j) hT (B:=B) (fun r i hr hi=>hB _ _ (h.lt r (by omega)) (by omega)) (fun r hr=>hB _ _ (h.lt r (by omega)) hj) (fun r hr=>by
   have u:=h.U r j (by omega) hj
   rw[qe hr,jK] at u
   exact u.symm)
  obtain⟨z,e,hz⟩:=hq k c
  exact⟨q,q0,qo q1 (zES (by omega)),z,e,qo hz (up t q (by omega))⟩
 ·let N':Nat→Nat→Int:=fun r i=>if r<t then(if i<t then N (p r) i else 0) else(if i<t then N (p k) i else 1)
  have hi:Inj (t+1) N':=fun c hc=>by
   have h1:∀i,i<t→c i=0:=hT c fun r hr=>by
    have:=hc r (by omega)
    rw[zBC] at this
    have e1:sm t (fun i=>(N' r i:Rat)*c i)=sm t (fun i=>(N (p r) i:Rat)*c i):=zAv fun i hi=>by show((if r<t then(if i<t then N (p r) i else 0) else(if i<t then N (p k) i else 1):Int):Rat)*c i=_;rw[qe hr,qe hi]
    have e2:(N' r t:Rat)=0:=by show((if r<t then(if t<t then N (p r) t else 0) else(if t<t then N (p k) t else 1):Int):Rat)=0;rw[qe hr,qb (by omega)];rfl
    rw[e1,e2,jA,jK] at this
    exact this
   have h2:=hc t (by omega)
   rw[zBC,zHV (fun i hi=>by rw[h1 i hi,jz]),jS] at h2
   have e2:(N' t t:Rat)=1:=by show((if t<t then(if t<t then N (p t) t else 0) else(if t<t then N (p k) t else 1):Int):Rat)=1;rw[qb (by omega),qb (by omega)];rfl
   rw[e2,Rat.one_mul] at h2
   intro i hi
   by_cases e:i=t
   ·rw[e];exact h2
   ·exact h1 i (by omega)
  obtain⟨q,q0,q1,hq⟩:=zSI (y:=fun i=>if i<t then A i j else A k j) (c:=fun r=>if r<t then N (p r) j else N (p k) j) hi (B:=B) (fun r i hr hi=>by
   show(if r<t then(if i<t then N (p r) i else 0) else(if i<t then N (p k) i else 1):Int).natAbs≤B
   split
   ·split
    ·exact hB _ _ (h.lt r (by omega)) (by omega)
    ·simp
   ·split
    ·exact hB _ _ (h.lt k hk) (by omega)
    ·simpa using hB1) (fun r hr=>by
   show(if r<t then N (p r) j else N (p k) j:Int).natAbs≤B
   split
   ·exact hB _ _ (h.lt r (by omega)) hj
   ·exact hB _ _ (h.lt k hk) hj) (fun r hr=>by
   rw[zBC,qb (show ¬t<t by omega)]
   by_cases c2:r<t
   ·rw[qe c2]
    have u:=h.U r j (by omega) hj
    rw[qe c2,jK] at u
    have e1:sm t (fun i=>(N' r i:Rat)*(if i<t then A i j else A k j))=sm t (fun i=>(N (p r) i:Rat)*A i j):=zAv fun i hi=>by show((if r<t then(if i<t then N (p r) i else 0) else(if i<t then N (p k) i else 1):Int):Rat)*_=_;rw[qe c2,qe hi,qe hi]
    have e2:(N' r t:Rat)=0:=by show((if r<t then(if t<t then N (p r) t else 0) else(if t<t then N (p k) t else 1):Int):Rat)=0;rw[qe c2,qb (by omega)];rfl
    rw[e1,e2,jA,jK]
    exact u.symm
   ·rw[qb c2]
    have u:=h.U k j hk hj
    rw[qb c] at u
    have e1:sm t (fun i=>(N' r i:Rat)*(if i<t then A i j else A k j))=sm t (fun i=>(N (p k) i:Rat)*A i j):=zAv fun i hi=>by show((if r<t then(if i<t then N (p r) i else 0) else(if i<t then N (p k) i else 1):Int):Rat)*_=_;rw[qb c2,qe hi,qe hi]
    have e2:(N' r t:Rat)=1:=by show((if r<t then(if t<t then N (p r) t else 0) else(if t<t then N (p k) t else 1):Int):Rat)=1;rw[qb c2,qb (by omega)];rfl
    rw[e1,e2,Rat.one_mul]
    exact u.symm)
  obtain⟨z,e,hz⟩:=hq t (by omega)
  rw[qb (show ¬t<t by omega)] at e
  exact⟨q,q0,qo q1 (zES (by omega)),z,e,qo hz (up (t+1) q (by omega))⟩
end
end Lw
namespace Lw
structure Tk where
 n:Nat
 R:Nat
 rest:Nat→Int
 give:Nat→Int
 a:Nat→Nat
 b:Nat→Nat
 least:Nat→Int
namespace Tk
variable (K:Tk)
def on(k i:Nat):Bool:=decide (K.a k≤i)&&decide (i<K.b k)
def e(k i:Nat):Rat:=if K.on k i then 1 else 0
def wi(k l:Nat):Int:=sli (List.range K.n) fun i=>if K.on k i&&K.on l i then K.give i else 0
def rst(k:Nat):Int:=sli (List.range K.n) fun i=>if K.on k i then K.rest i else 0
def pull(F:Nat→Rat)(i:Nat):Rat:=sm (K.R+1) fun k=>F k*K.e k i
def G(F:Nat→Rat)(k:Nat):Rat:=sm (K.R+1) fun l=>F l*(K.wi k l:Rat)
def Q(F:Nat→Rat):Rat:=sm (K.R+1) fun k=>F k*K.G F k
def len(F:Nat→Rat)(i:Nat):Rat:=(K.rest i:Rat)+(K.give i:Rat)*K.pull F i
def rod(X:Nat→Rat)(k:Nat):Rat:=sm K.n fun i=>K.e k i*X i
def sht(F:Nat→Rat)(k:Nat):Rat:=(K.least k:Rat)-K.rod (K.len F) k
structure Ok:Prop where
 give:∀i,i<K.n→1≤K.give i
 whole:∀i,i<K.n→K.on K.R i=true
variable {K}
theorem yBu(k l:Nat):(K.wi k l:Rat)=sm K.n fun i=>(K.give i:Rat)*(K.e k i*K.e l i):=by
 unfold wi
 rw[zHX]
 refine zAv fun i _=>?_
 unfold e
 cases K.on k i<;>cases K.on l i<;>simp
theorem zSM(F:Nat→Rat)(k:Nat):K.G F k=sm K.n fun i=>(K.give i:Rat)*(K.e k i*K.pull F i):=by
 unfold G
 have:(sm (K.R+1) fun l=>F l*(K.wi k l:Rat))=sm (K.R+1) fun l=>sm K.n fun i=>F l*((K.give i:Rat)*(K.e k i*K.e l i)):=zAv fun l _=>by rw[yBu,←zB0]
 rw[this,zHW]
 refine zAv fun i _=>?_
 unfold pull
 rw[←zB0,←zB0]
 exact zAv fun l _=>by grind
theorem zUw(F H:Nat→Rat):(sm (K.R+1) fun k=>F k*K.G H k)=sm K.n fun i=>(K.give i:Rat)*(K.pull F i*K.pull H i):=by
 have:(sm (K.R+1) fun k=>F k*K.G H k)=sm (K.R+1) fun k=>sm K.n fun i=>F k*((K.give i:Rat)*(K.e k i*K.pull H i)):=zAv fun k _=>by rw[zSM,←zB0]
 rw[this,zHW]
 refine zAv fun i _=>?_
 have:(sm (K.R+1) fun k=>F k*((K.give i:Rat)*(K.e k i*K.pull H i)))=sm (K.R+1) fun k=>((K.give i:Rat)*K.pull H i)*(F k*K.e k i):=zAv fun k _=>by grind
 rw[this,zB0]
 show((K.give i:Rat)*K.pull H i)*K.pull F i=_
 grind
theorem zNc(F H:Nat→Rat):(sm (K.R+1) fun k=>F k*K.G H k)=sm (K.R+1) fun k=>H k*K.G F k:=by
 rw[zUw,zUw]
 exact zAv fun i _=>by grind
theorem Q_pull(F:Nat→Rat):K.Q F=sm K.n fun i=>(K.give i:Rat)*(K.pull F i*K.pull F i):=zUw F F
theorem zP7(x:Rat):0≤x*x:=by
 rcases Rat.le_total (a:=0) (b:=x) with h|h
 ·exact ji h h
 ·have:=ji (a:=-x) (b:=-x) (by grind) (by grind)
  grind
theorem Ok.pos(ok:K.Ok){i:Nat}(hi:i<K.n):(0:Rat)<(K.give i:Rat):=by
 have:=ok.give i hi
 exact_mod_cast (show 0<K.give i by omega)
theorem zRP(ok:K.Ok)(F:Nat→Rat):0≤K.Q F:=by
 rw[Q_pull]
 exact zCX fun i hi=>ji (ke (ok.pos (qC.mp hi))) (zP7 _)
theorem zMw(ok:K.Ok){F:Nat→Rat}(h:K.Q F=0):∀i,i<K.n→K.pull F i=0:=fun i hi=>by
 rw[Q_pull] at h
 have:=zNH (fun i hi=>ji (ke (ok.pos (qC.mp hi))) (zP7 _)) h i (qC.mpr hi)
 have hp:=ok.pos hi
 rcases kR.mp this with z|z
 ·rw[z] at hp;exact absurd hp ko
 ·rcases kR.mp z with z|z<;>exact z
theorem zDv(F:Nat→Rat)(k:Nat):K.rod (K.len F) k=(K.rst k:Rat)+K.G F k:=by
 unfold rod len rst
 rw[zHX,zSM,←zDW]
 refine zAv fun i _=>?_
 unfold e
 cases K.on k i
 ·simp;grind
 ·simp
theorem zIa(F V:Nat→Rat)(s:Rat)(i:Nat):K.pull (fun k=>F k+s*V k) i=K.pull F i+s*K.pull V i:=by
 unfold pull
 rw[←zB0,←zDW]
 exact zAv fun k _=>by grind
theorem zPd(F V:Nat→Rat)(s:Rat)(k:Nat):K.G (fun k=>F k+s*V k) k=K.G F k+s*K.G V k:=by
 unfold G
 rw[←zB0,←zDW]
 exact zAv fun k _=>by grind
theorem zNK(F V:Nat→Rat)(s:Rat)(k:Nat):K.sht (fun k=>F k+s*V k) k=K.sht F k-s*K.G V k:=by
 unfold sht
 rw[zDv,zDv,zPd]
 grind
theorem zYn(F V:Nat→Rat)(s:Rat):K.Q (fun k=>F k+s*V k)=K.Q F+2*s*(sm (K.R+1) fun k=>F k*K.G V k)+s*s*K.Q V:=by
 have:K.Q (fun k=>F k+s*V k)=sm (K.R+1) fun k=>(F k*K.G F k+s*(F k*K.G V k))+(s*(V k*K.G F k)+s*s*(V k*K.G V k)):=zAv fun k _=>by rw[zPd];grind
 rw[this,zDW,zDW,zDW,zB0,zB0,zB0,zNc V F]
 unfold Q
 grind
def Sup(T:List Nat)(F:Nat→Rat):Prop:=∀k,k∉T→F k=0
def Ind(K:Tk)(T:List Nat):Prop:=∀c,Sup T c→(∀i,i<K.n→K.pull c i=0)→∀k,c k=0
theorem Sup.mono{T S:List Nat}{F:Nat→Rat}(h:Sup T F)(s:∀k∈T,k∈S):Sup S F:=fun k hk=>h k fun z=>hk (s k z)
theorem Ind.mono{T S:List Nat}(h:K.Ind S)(s:∀k∈T,k∈S):K.Ind T:=fun c hc=>h c (hc.mono s)
theorem Ind.zero(ok:K.Ok){T:List Nat}(h:K.Ind T){c:Nat→Rat}(hc:Sup T c)(hg:∀k∈T,K.G c k=0):∀k,c k=0:=by
 refine h c hc (zMw ok ?_)
 unfold Q
 refine zHV fun k _=>?_
 by_cases hk:k∈T
 ·rw[hg k hk,jz]
 ·rw[hc k hk,jA]
theorem Sup.sum{T:List Nat}{F:Nat→Rat}(h:Sup T F)(hn:T.Nodup)(hR:∀k∈T,k≤K.R)(f:Nat→Rat):(sm (K.R+1) fun k=>F k*f k)=sl T fun k=>F k*f k:=
 zMG hn (fun k hk=>Nat.lt_succ_of_le (hR k hk)) fun k _ hk=>by rw[h k hk,jA]
structure Mid(K:Tk)(at_:Nat)(T:List Nat)(F:Nat→Rat):Prop where
 nd:T.Nodup
 le:∀k∈T,k≤K.R
 ind:K.Ind T
 lt:at_<K.R
 nt:at_∉T
 sup:Sup (at_::T) F
 tight:∀k∈T,K.sht F k=0
 nn:∀k,k≠K.R→0≤F k
 short:0<K.sht F at_
structure Lean(K:Tk)(at_:Nat)(T:List Nat)(Y:Nat→Rat):Prop where
 sup:Sup T Y
 eq:∀k∈T,K.G Y k=(K.wi k at_:Rat)
def V(at_:Nat)(Y:Nat→Rat):Nat→Rat:=fun k=>(if k=at_ then 1 else 0)-Y k
def free(K:Tk)(at_:Nat)(Y:Nat→Rat):Rat:=(K.wi at_ at_:Rat)-K.G Y at_
theorem G_V(at_:Nat)(hl:at_≤K.R)(Y:Nat→Rat)(k:Nat):K.G (V at_ Y) k=(K.wi k at_:Rat)-K.G Y k:=by
 unfold G V
 have:(sm (K.R+1) fun l=>((if l=at_ then 1 else 0)-Y l)*(K.wi k l:Rat))=sm (K.R+1) fun l=>(if l=at_ then(K.wi k l:Rat) else 0)-Y l*(K.wi k l:Rat):=zAv fun l _=>by
  by_cases h:l=at_
  ·rw[qe h,qe h];grind
  ·rw[qb h,qb h];grind
 rw[this,zGm,zHm (i:=at_) (by omega) (fun j _ h=>qb h),qe rfl]
section
variable {at_:Nat}{T:List Nat}{F Y:Nat→Rat}
theorem Lean.V_at(h:K.Lean at_ T Y)(nt:at_∉T):V at_ Y at_=1:=by unfold V;rw[qe rfl,h.sup at_ nt];grind
theorem Lean.V_ne(k:Nat)(hk:k≠at_):V at_ Y k=-Y k:=by unfold V;rw[qb hk];grind
theorem Lean.V_sup(h:K.Lean at_ T Y):Sup (at_::T) (V at_ Y):=fun k hk=>by
 rw[Lean.V_ne k (fun e=>hk (by simp[e])),h.sup k (fun e=>hk (by simp[e]))]
 rfl
theorem Lean.GV(h:K.Lean at_ T Y)(hl:at_≤K.R):∀k∈T,K.G (V at_ Y) k=0:=fun k hk=>by rw[G_V at_ hl,h.eq k hk,Rat.sub_self]
theorem Lean.against(h:K.Lean at_ T Y)(hl:at_≤K.R)(nt:at_∉T){c:Nat→Rat}(hc:Sup (at_::T) c):(sm (K.R+1) fun k=>c k*K.G (V at_ Y) k)=c at_*K.free at_ Y:=by
 rw[zHm (i:=at_) (by omega) (fun k _ hk=>by
  by_cases hT:k∈T
  ·rw[h.GV hl k hT,jz]
  ·rw[hc k (by simp[hk,hT]),jA]),G_V at_ hl]
 rfl
theorem Lean.QV(h:K.Lean at_ T Y)(hl:at_≤K.R)(nt:at_∉T):K.Q (V at_ Y)=K.free at_ Y:=by
 unfold Q
 rw[h.against hl nt h.V_sup,h.V_at nt,Rat.one_mul]
theorem Mid.go(m:K.Mid at_ T F)(h:K.Lean at_ T Y)(s:Rat):(∀k∈T,K.sht (fun k=>F k+s*V at_ Y k) k=0)∧K.sht (fun k=>F k+s*V at_ Y k) at_=K.sht F at_-s*K.free at_ Y∧Sup (at_::T) (fun k=>F k+s*V at_ Y k)∧K.Q (fun k=>F k+s*V at_ Y k)=K.Q F+2*s*(F at_*K.free at_ Y)+s*s*K.free at_ Y:=by
 have hl:=kf m.lt
 refine⟨fun k hk=>?_,?_,fun k hk=>?_,?_⟩
 ·rw[zNK,m.tight k hk,h.GV hl k hk];grind
 ·rw[zNK,G_V at_ hl];rfl
 ·show F k+s*V at_ Y k=0
  rw[m.sup k hk,h.V_sup k hk];grind
 ·rw[zYn,h.against hl m.nt m.sup,h.QV hl m.nt]
end
end Tk
end Lw
namespace Lw
theorem zSV{A:Type}(f:A→Rat)(x:A)(xs:List A):sl (x::xs) f=f x+sl xs f:=rfl
theorem zT4:∀(n:Nat) (T:List Nat) (A:Nat→Nat→Rat),T.Nodup→n<T.length→∃x:Nat→Rat,(∀j,j∉T→x j=0)∧(∃j,j∈T∧x j≠0)∧∀i,i<n→sl T (fun j=>x j*A i j)=0
 |0,T,A,hn,hl=>by
  obtain⟨p,hp⟩:=List.exists_mem_of_length_pos hl
  refine⟨fun j=>if j=p then 1 else 0,fun j hj=>qb fun z:j=p=>hj (by rw[z];exact hp),⟨p,hp,?_⟩,fun i hi=>absurd hi (Nat.not_lt_zero i)⟩
  show(if p=p then(1:Rat) else 0)≠0
  rw[qe rfl]
  decide
 |n+1,T,A,hn,hl=>by
  by_cases c:∀j∈T,A n j=0
  ·obtain⟨x,h1,h2,h3⟩:=zT4 n T A hn (by omega)
   refine⟨x,h1,h2,fun i hi=>?_⟩
   by_cases e:i=n
   ·subst e
    exact zKy fun j hj=>by rw[c j hj,jz]
   ·exact h3 i (by omega)
  ·obtain⟨p,hp,hA⟩:∃p,p∈T∧A n p≠0:=jh fun z=>c fun j hj=>jh fun q=>z ⟨j,hj,q⟩
   have hperm:=List.perm_cons_erase hp
   have hlen:=List.length_erase_of_mem hp
   obtain⟨x,h1,⟨j0,hj0,hx0⟩,h3⟩:=zT4 n (T.erase p) (fun i j=>A i j-A i p*A n j/A n p) (hn.erase p) (by omega)
   have hpn:p∉T.erase p:=hn.not_mem_erase
   have hxp:x p=0:=h1 p hpn
   let s:Rat:=sl (T.erase p) (fun j=>x j*A n j)
   let y:Nat→Rat:=fun j=>if j=p then -(s/A n p) else x j
   have hy:∀j,j≠p→y j=x j:=fun j hj=>qb hj
   have hyp:y p=-(s/A n p):=qe rfl
   have sum:∀i,sl T (fun j=>y j*A i j)=y p*A i p+sl (T.erase p) (fun j=>x j*A i j):=fun i=>by
    rw[zKz hperm,zSV]
    congr 1
    exact zB8 fun j hj=>by rw[hy j fun z=>hpn (z▸hj)]
   refine⟨y,fun j hj=>?_,⟨j0,List.mem_of_mem_erase hj0,?_⟩,fun i hi=>?_⟩
   ·rw[hy j fun z=>hj (z▸hp)]
    exact h1 j fun z=>hj (List.mem_of_mem_erase z)
   ·rw[hy j0 fun z=>hpn (z▸hj0)];exact hx0
   ·rw[sum,hyp]
    by_cases e:i=n
    ·subst e
     show -(s/A i p)*A i p+s=0
     grind
    ·have h4:=h3 i (by omega)
     have h5:sl (T.erase p) (fun j=>x j*(A i j-A i p*A n j/A n p))=sl (T.erase p) (fun j=>x j*A i j)-(A i p/A n p)*s:=by
      show _=_-(A i p/A n p)*sl (T.erase p) (fun j=>x j*A n j)
      rw[←zLD,←zLC]
      refine zB8 fun j _=>?_
      rw[jg,jg]
      grind
     rw[h5] at h4
     rw[jg] at h4⊢
     grind
namespace Tk
theorem Ind.len{K:Tk}{T:List Nat}(h:K.Ind T)(hn:T.Nodup)(hR:∀k∈T,k≤K.R):T.length≤K.n:=Nat.not_lt.mp fun z=>by
 obtain⟨x,h1,⟨j,hj,hx⟩,h3⟩:=zT4 K.n T (fun i j=>K.e j i) hn z
 refine hx (h x h1 (fun i hi=>?_) j)
 show(sm (K.R+1) fun k=>x k*K.e k i)=0
 rw[Sup.sum h1 hn hR]
 exact h3 i hi
end Tk
end Lw
namespace Lw
namespace Tk
variable {K:Tk}
theorem zSp{F:Nat→Rat}{k:Nat}(h:K.sht F k=0):K.G F k=((K.least k-K.rst k:Int):Rat):=by
 unfold sht at h
 rw[zDv] at h
 rw[Rat.intCast_sub]
 grind
structure St(K:Tk)(T:List Nat)(F:Nat→Rat):Prop where
 nd:T.Nodup
 le:∀k∈T,k≤K.R
 ind:K.Ind T
 sup:Sup T F
 tight:∀k∈T,K.sht F k=0
theorem St.uniq(ok:K.Ok){T:List Nat}{F F':Nat→Rat}(h:K.St T F)(h':K.St T F'):∀k,F k=F' k:=fun k=>by
 have:=h.ind.zero ok (c:=fun k=>F k+(-1)*F' k) (fun k hk=>by
  show F k+(-1)*F' k=0
  rw[h.sup k hk,h'.sup k hk];grind) (fun k hk=>by rw[zPd,zSp (h.tight k hk),zSp (h'.tight k hk)];grind) k
 grind
open Classical in
noncomputable def val(K:Tk)(S:List Nat):Rat:=if h:∃F,K.St S F then K.Q h.choose else 0
def canon(K:Tk)(T:List Nat):List Nat:=(List.range (K.R+1)).filter fun k=>decide (k∈T)
theorem zO5{T:List Nat}(h:∀k∈T,k≤K.R)(k:Nat):k∈K.canon T↔k∈T:=by
 unfold canon
 simp only[jI,qC,qp]
 exact⟨fun h=>h.2,fun hk=>⟨Nat.lt_succ_of_le (h k hk),hk⟩⟩
theorem zUL{F F':Nat→Rat}(h:∀k,F k=F' k):K.Q F=K.Q F':=by have:F=F':=funext h;rw[this]
theorem St.val(ok:K.Ok){T:List Nat}{F:Nat→Rat}(h:K.St T F):K.val (K.canon T)=K.Q F:=by
 have hc:K.St (K.canon T) F:=by
  have m:=zO5 h.le
  exact⟨List.nodup_range.filter _,fun k hk=>h.le k ((m k).mp hk),h.ind.mono fun k hk=>(m k).mp hk,h.sup.mono fun k hk=>(m k).mpr hk,fun k hk=>h.tight k ((m k).mp hk)⟩
 unfold Tk.val
 have hx:∃F,K.St (K.canon T) F:=⟨F,hc⟩
 rw[dif_pos hx]
 exact zUL (St.uniq ok hx.choose_spec hc)
structure Kkt(K:Tk)(held:Bool)(F:Nat→Rat):Prop where
 nn:∀k,k<K.R→0≤F k
 kept:∀k,k<K.R→K.sht F k≤0
 comp:∀k,k<K.R→F k≠0→K.sht F k=0
 whole:if held=true then K.sht F K.R=0 else F K.R=0
theorem Kkt.same(ok:K.Ok){held:Bool}{F F':Nat→Rat}(h:K.Kkt held F)(h':K.Kkt held F'):∀i,i<K.n→K.len F i=K.len F' i:=fun i hi=>by
 have hq:K.Q (fun k=>F k+(-1)*F' k)≤0:=by
  unfold Q
  refine zNF fun k hk=>?_
  have hk:=qC.mp hk
  rw[zPd]
  have e:K.G F k-K.G F' k=K.sht F' k-K.sht F k:=by unfold sht;rw[zDv,zDv];grind
  have e2:(F k+-1*F' k)*(K.G F k+-1*K.G F' k)=(F k-F' k)*(K.sht F' k-K.sht F k):=by rw[←e];grind
  rw[e2]
  by_cases c:k=K.R
  ·subst c
   have w:=h.whole
   have w':=h'.whole
   cases held with
   |true=>rw[qe rfl] at w w';rw[w,w'];grind
   |false=>rw[qb (by simp)] at w w';rw[w,w'];grind
  ·have hlt:k<K.R:=by omega
   have a1:F k*K.sht F k=0:=by
    by_cases z:F k=0
    ·rw[z];grind
    ·rw[h.comp k hlt z];grind
   have a2:F' k*K.sht F' k=0:=by
    by_cases z:F' k=0
    ·rw[z];grind
    ·rw[h'.comp k hlt z];grind
   have b1:=ji (h.nn k hlt) (b:=-(K.sht F' k)) (by have:=h'.kept k hlt;grind)
   have b2:=ji (h'.nn k hlt) (b:=-(K.sht F k)) (by have:=h.kept k hlt;grind)
   grind
 have hz:K.Q (fun k=>F k+(-1)*F' k)=0:=Rat.le_antisymm hq (zRP ok _)
 have:=zMw ok hz i hi
 rw[zIa] at this
 unfold len
 have:K.pull F i=K.pull F' i:=by grind
 rw[this]
end Tk
end Lw
namespace Lw
namespace Tk
variable {K:Tk}
structure Kk(K:Tk)(F:Nat→Rat):Prop where
 nn:∀k,k<K.R→0≤F k
 kept:∀k,k<K.R→K.sht F k≤0
 comp:∀k,k<K.R→F k≠0→K.sht F k=0
def tot(K:Tk)(F:Nat→Rat):Rat:=K.rod (K.len F) K.R
theorem Kk.key(ok:K.Ok){F H:Nat→Rat}(h:K.Kk F)(g:K.Kk H):K.Q F+2*(F K.R*(K.tot H-K.tot F))+K.Q (fun k=>H k+(-1)*F k)≤K.Q H:=by
 have e1:=zYn (K:=K) F (fun k=>H k+(-1)*F k) 1
 have e2:(fun k=>F k+1*(H k+(-1)*F k))=H:=by funext k;grind
 rw[e2] at e1
 have e3:F K.R*(K.tot H-K.tot F)≤sm (K.R+1) fun k=>F k*K.G (fun k=>H k+(-1)*F k) k:=by
  rw[zBC]
  have e4:∀k,K.G (fun k=>H k+(-1)*F k) k=K.rod (K.len H) k-K.rod (K.len F) k:=fun k=>by
   rw[zPd,zDv,zDv];grind
  rw[e4]
  have e5:0≤sm K.R fun k=>F k*K.G (fun k=>H k+(-1)*F k) k:=by
   refine zCX fun k hk=>?_
   have hk:=qC.mp hk
   rw[e4]
   have e6:K.rod (K.len H) k-K.rod (K.len F) k=K.sht F k-K.sht H k:=by unfold sht;grind
   rw[e6]
   have f0:=h.nn k hk
   have hs:=g.kept k hk
   by_cases c:F k=0
   ·rw[c];grind
   ·rw[h.comp k hk c]
    have:0≤F k*-(K.sht H k):=ji f0 (by grind)
    grind
  unfold tot
  grind
 grind
theorem Kk.same(ok:K.Ok){F H:Nat→Rat}(h:K.Kk F)(g:K.Kk H)(e:K.tot F=K.tot H):∀i,i<K.n→K.len F i=K.len H i:=fun i hi=>by
 have h1:=h.key ok g
 have h2:=g.key ok h
 rw[e] at h1 h2
 have z:K.tot H-K.tot H=0:=by grind
 rw[z] at h1 h2
 have q1:=zRP ok (fun k=>F k+(-1)*H k)
 have q2:=zRP ok (fun k=>H k+(-1)*F k)
 have q3:K.Q (fun k=>F k+(-1)*H k)=0:=by grind
 have:=zMw ok q3 i hi
 rw[zIa] at this
 unfold len
 have e:K.pull F i=K.pull H i:=by grind
 rw[e]
theorem Kk.least(ok:K.Ok){F H:Nat→Rat}(h:K.Kk F)(g:K.Kk H)(z:F K.R=0):K.Q F≤K.Q H:=by
 have h1:=h.key ok g
 rw[z] at h1
 have q2:=zRP ok (fun k=>H k+(-1)*F k)
 grind
theorem Kk.free(ok:K.Ok){F H:Nat→Rat}(h:K.Kk F)(g:K.Kk H)(z:F K.R=0)(y:H K.R=0):∀i,i<K.n→K.len F i=K.len H i:=fun i hi=>by
 have h1:=h.key ok g
 have h2:=g.key ok h
 rw[z] at h1
 rw[y] at h2
 have q1:=zRP ok (fun k=>F k+(-1)*H k)
 have q2:=zRP ok (fun k=>H k+(-1)*F k)
 have q3:K.Q (fun k=>F k+(-1)*H k)=0:=by grind
 have:=zMw ok q3 i hi
 rw[zIa] at this
 unfold len
 have e:K.pull F i=K.pull H i:=by grind
 rw[e]
theorem Kk.mono(ok:K.Ok){F1 F H:Nat→Rat}(h1:K.Kk F1)(z:F1 K.R=0)(h:K.Kk F)(g:K.Kk H)(b:(K.tot F≤K.tot H∧K.tot H≤K.tot F1)∨(K.tot F1≤K.tot H∧K.tot H≤K.tot F)):K.Q H≤K.Q F:=by
 have a1:=g.key ok h1
 have a2:=h1.key ok g
 have a3:=g.key ok h
 have a4:=h1.least ok h z
 rw[z] at a2
 have q1:=zRP ok (fun k=>F k+(-1)*H k)
 have q2:=zRP ok (fun k=>H k+(-1)*F1 k)
 have q3:=zRP ok (fun k=>F1 k+(-1)*H k)
 have s1:H K.R*(K.tot F1-K.tot H)≤0:=by grind
 generalize hu:K.tot F1-K.tot H=u at*
 generalize hv:K.tot F-K.tot H=v at*
 generalize H K.R=f at*
 by_cases c:u=0
 ·rw[c] at a1
  have:K.Q H≤K.Q F1:=by grind
  exact Rat.le_trans this a4
 ·have s2:0≤f*v:=by
   rcases b with⟨b1,b2⟩|⟨b1,b2⟩
   ·have hu0:0<u:=by grind
    have hv0:v≤0:=by grind
    have hf:f≤0:=Rat.not_lt.mp fun z=>by
     have:=Rat.mul_pos z hu0
     grind
    have:0≤(-f)*(-v):=ji (by grind) (by grind)
    grind
   ·have hu0:0 < -u:=by grind
    have hv0:0≤v:=by grind
    have hf:0≤f:=Rat.not_lt.mp fun z=>by
     have:=Rat.mul_pos (show 0 < -f by grind) hu0
     grind
    exact ji hf hv0
  grind
end Tk
end Lw
namespace Lw
namespace Tk
variable {K:Tk}
def cost(K:Tk)(X:Nat→Rat):Rat:=sm K.n fun i=>(X i-(K.rest i:Rat))*(X i-(K.rest i:Rat))/(K.give i:Rat)
def dist(K:Tk)(X Y:Nat→Rat):Rat:=sm K.n fun i=>(X i-Y i)*(X i-Y i)/(K.give i:Rat)
theorem zLL(F X:Nat→Rat):(sm K.n fun i=>K.pull F i*X i)=sm (K.R+1) fun k=>F k*K.rod X k:=by
 have e:(sm K.n fun i=>K.pull F i*X i)=sm K.n fun i=>sm (K.R+1) fun k=>F k*(K.e k i*X i):=zAv fun i _=>by
  unfold pull
  rw[←zNG]
  exact zAv fun k _=>by grind
 rw[e,zHW]
 exact zAv fun k _=>by rw[zB0];rfl
theorem cost_eq(ok:K.Ok)(F X:Nat→Rat):K.cost X=K.Q F+2*(sm (K.R+1) fun k=>F k*(K.rod X k-K.rod (K.len F) k))+K.dist X (K.len F):=by
 have e1:(sm (K.R+1) fun k=>F k*(K.rod X k-K.rod (K.len F) k))=sm K.n fun i=>K.pull F i*(X i-K.len F i):=by
  have h1:=zLL (K:=K) F X
  have h2:=zLL (K:=K) F (K.len F)
  have a1:(sm (K.R+1) fun k=>F k*(K.rod X k-K.rod (K.len F) k))=(sm (K.R+1) fun k=>F k*K.rod X k)-sm (K.R+1) fun k=>F k*K.rod (K.len F) k:=by
   rw[←zGm];exact zAv fun k _=>by grind
  have a2:(sm K.n fun i=>K.pull F i*(X i-K.len F i))=(sm K.n fun i=>K.pull F i*X i)-sm K.n fun i=>K.pull F i*K.len F i:=by
   rw[←zGm];exact zAv fun k _=>by grind
  rw[a1,a2,h1,h2]
 rw[e1,Q_pull]
 unfold cost dist
 rw[←zB0,←zDW,←zDW]
 refine zAv fun i hi=>?_
 have g0:=ok.pos hi
 have e2:K.len F i=(K.rest i:Rat)+(K.give i:Rat)*K.pull F i:=rfl
 rw[e2]
 generalize (K.give i:Rat)=g at*
 have:g≠0:=fun z=>by rw[z] at g0;exact absurd g0 ko
 grind
theorem Kk.least_of(ok:K.Ok){F X:Nat→Rat}(h:K.Kk F)(hx:∀k,k<K.R→(K.least k:Rat)≤K.rod X k)(hw:K.rod X K.R=K.tot F):K.Q F+K.dist X (K.len F)≤K.cost X:=by
 rw[cost_eq ok F X]
 have:0≤sm (K.R+1) fun k=>F k*(K.rod X k-K.rod (K.len F) k):=by
  refine zCX fun k hk=>?_
  have hk:=qC.mp hk
  by_cases e:k=K.R
  ·subst e
   have:K.rod X K.R-K.rod (K.len F) K.R=0:=by rw[hw];unfold tot;grind
   rw[this];grind
  ·have hlt:k<K.R:=by omega
   by_cases c:F k=0
   ·rw[c];grind
   ·have hs:=h.comp k hlt c
    unfold sht at hs
    exact ji (h.nn k hlt) (by have:=hx k hlt;grind)
 grind
theorem dist_nn(ok:K.Ok)(X Y:Nat→Rat):0≤K.dist X Y:=by
 refine zCX fun i hi=>?_
 have g0:=ok.pos (qC.mp hi)
 rw[jg]
 exact ji (zP7 _) (ke (Rat.inv_pos.mpr g0))
theorem dist_zero(ok:K.Ok){X Y:Nat→Rat}(h:K.dist X Y=0):∀i,i<K.n→X i=Y i:=fun i hi=>by
 have hp:∀j∈List.range K.n,0≤(X j-Y j)*(X j-Y j)/(K.give j:Rat):=fun j hj=>by
  have g0:=ok.pos (qC.mp hj)
  rw[jg]
  exact ji (zP7 _) (ke (Rat.inv_pos.mpr g0))
 have:=zNH hp h i (qC.mpr hi)
 have g0:=ok.pos hi
 generalize (K.give i:Rat)=g at*
 have hg:g≠0:=fun z=>by rw[z] at g0;exact absurd g0 ko
 have h2:(X i-Y i)*(X i-Y i)=0:=by grind
 rcases kR.mp h2 with z|z<;>grind
theorem Kk.dearer(ok:K.Ok){F X:Nat→Rat}(h:K.Kk F)(hx:∀k,k<K.R→(K.least k:Rat)≤K.rod X k)(hw:K.rod X K.R=K.tot F)(hne:¬∀i,i<K.n→X i=K.len F i):K.Q F<K.cost X:=by
 have h1:=h.least_of ok hx hw
 have h2:=dist_nn ok X (K.len F)
 refine jh fun z=>hne (dist_zero ok ?_)
 have:=Rat.not_lt.mp z
 grind
end Tk
end Lw
namespace DL
open PySem PySem.Spec PyProof.Rows L2
end DL
namespace DL
open PySem PySem.Spec PyProof.Rows L2
end DL
namespace DL
open PySem PySem.Spec PyProof.Rows L2
open Evl (Ex)
def zMl:List (DE×DE)→Gm→Om→(List (D×D)→Om→Prop)→Prop
 |[],_,O,R=>R [] O
 |p::r,g,O,R=>p.1 g O fun x O1=>p.2 g O1 fun y O2=>zMl r g O2 fun ps O3=>R ((x,y)::ps) O3
def zY6(es:List (Key×D)):List (Key×D):=es.foldl (fun acc e=>zKp acc e.1 e.2) []
def zUt(ts:List (DE×DE)):DE:=fun g O R=>∀p,O p=none→zMl ts g (up O p (.dK [])) fun ps O2=>O2 p=some (.dK [])∧∃es:List (Key×D),ps.map (fun q=>(DL.keyOf q.1,q.2))=es.map (fun e=>(some e.1,e.2))∧ps.length≤15∧R (.ref p) (up O2 p (.dK (zY6 es)))
def zNi(K:PySem.W.Frag)(ts:List (DE×DE)):List (TE×TE):=ts.map fun p=>(zAs K p.1,zAs K p.2)
abbrev VP(K:PySem.W.Frag)(G:Hp):List (V×V)→List (D×D)→Prop:=Paired fun p q=>VR K G p.1 q.1∧VR K G p.2 q.2
theorem zJx{K:PySem.W.Frag}{s:L2.St}{g:Gm}:∀(ts:List (DE×DE)) {G:Hp}{O:Om}{H:Hp}{R:List (D×D)→Om→Prop}{Q:List (V×V)→Hp→Prop},Rel K G O H→GR K G s g→zMl ts g O R→
  (∀ps qs O' G' H',Go K G O H G' O' H'→VP K G' ps qs→R qs O'→Q ps H')→tPairs (zNi K ts) s H Q
 |[],G,O,H,R,Q,rl,gr,h,k=>k [] [] O G H (Go.refl rl) .nil h
 |(tk,tv)::r,G,O,H,R,Q,rl,gr,h,k=>
  ⟨G,O,g,_,rl,gr,h,fun x O1 v G1 H1 go1 vr1 q1=>⟨G1,O1,g,_,go1.rel,gr.mono go1.ex,q1,fun y O2 u G2 H2 go2 vr2 q2=>
   zJx r go2.rel ((gr.mono go1.ex).mono go2.ex) q2 fun ps qs O3 G3 H3 go3 vp q3=>k _ _ _ _ _ ((go1.trans rl go2).trans rl go3) (.cons ⟨(vr1.mono go2.ex).mono go3.ex,vr2.mono go3.ex⟩ vp) q3⟩⟩
theorem zNn{K:PySem.W.Frag}{G:Hp}:∀{ps:List (V×V)}{qs:List (D×D)}{es:List (Key×D)},VP K G ps qs→qs.map (fun q=>(DL.keyOf q.1,q.2))=es.map (fun e=>(some e.1,e.2))→∃kvs:List (Key×V),ps=kvs.map (fun kv=>(kV kv.1,kv.2))∧PR K G kvs es
 |_,_,[],.nil,_=>⟨[],rfl,.nil⟩
 |_,_,[],.cons _ _,e=>by simp at e
 |_,_,_::_,.nil,e=>by simp at e
 |(x,y)::ps,(dx,dy)::qs,(kk,d)::es,.cons h r,e=>by
  rw[qr,qr,List.cons.injEq] at e
  obtain⟨e1,e2⟩:=e
  obtain⟨kvs,h1,h2⟩:=zNn r e2
  have ek:DL.keyOf dx=some kk:=jB Prod.fst e1
  have ed:dy=d:=jB Prod.snd e1
  subst ed
  have hx:x=kV kk:=zCn h.1 ek
  exact⟨(kk,y)::kvs,by rw[hx,h1];rfl,.cons ⟨rfl,h.2⟩ h2⟩
theorem zWn{K:PySem.W.Frag}{G:Hp}{k:Key}{v:V}{d:D}(hv:VR K G v d){kvs:List (Key×V)}{es:List (Key×D)}(h:PR K G kvs es):PR K G (putK kvs k v) (zKp es k d):=PR.put h k hv
theorem zQT{K:PySem.W.Frag}{G:Hp}{more:List (Key×V)}{es:List (Key×D)}(r:PR K G more es):∀{kvs:List (Key×V)}{fs:List (Key×D)},PR K G kvs fs→PR K G (mergeK kvs more) (es.foldl (fun acc e=>zKp acc e.1 e.2) fs):=by
 unfold PR at r
 induction r with
 |nil=>exact fun h=>h
 | @cons p q ps qs h t ih=>
  intro kvs fs h0
  obtain⟨k1,v⟩:=p
  obtain⟨k2,d⟩:=q
  obtain⟨e,hv⟩:=h
  have e:k1=k2:=e
  subst e
  exact ih (zWn hv h0)
theorem zXH{X:Cx}{pos:Pos}{keys:List (Option Expr)}{values:List Expr}{ts:List (DE×DE)}(h:PPs X pos keys values (zNi X.K ts))(hall:keys.all (·.isSome)=true:=by rfl)(hl:keys.length=values.length:=by rfl)(h0:keys≠[]:=by simp)
  (h15:keys.length≤15:=by decide):PE X (.Dict keys values pos) (zAs X.K (zUt ts)):=
 PE.by (pe_disp h hall hl h0 h15) fun s H Q ⟨G,O,g,R,rl,gr,h,k⟩=>fun p hp=>by
  have g0:=Go.new rl (o:=.dK []) (u:=.dK []) hp .nil
  refine zJx ts g0.rel (gr.mono g0.ex) (h p (rl.fresh hp).1) fun ps qs O2 G2 H2 go2 vp q=>?_
  obtain⟨e2,es,ek,hle,q⟩:=q
  obtain⟨kv0,h1,h2⟩:=go2.rel.dK e2
  have hz:kv0=[]:=by cases h2;rfl
  subst hz
  obtain⟨kvs,e3,pr⟩:=zNn vp ek
  have hl2:kvs.length=qs.length:=by
   have a:=Paired.length vp
   rw[e3,qd] at a
   exact a
  refine⟨h1,kvs,e3,by rw[hl2];exact hle,?_⟩
  have gw:=Go.write go2.rel (a:=p) (o:=.dK (zY6 es)) (u:=.dK (mergeK [] kvs)) e2 (zQT pr .nil)
  exact k _ _ _ _ _ ((g0.trans rl go2).trans rl gw) (.ref p) q
theorem zWo{X:Cx}{pos:Pos}:PPs X pos [] [] (zNi X.K []):=pps_nil
theorem zIb{X:Cx}{pos:Pos}{k v:Expr}{ks:List (Option Expr)}{vs:List Expr}{tk tv:DE}{ts:List (DE×DE)}(hk:PE X k (zAs X.K tk))(hv:PE X v (zAs X.K tv))(hr:PPs X pos ks vs (zNi X.K ts)):PPs X pos (some k::ks) (v::vs) (zNi X.K ((tk,tv)::ts)):=pps_cons hk hv hr
end DL
namespace DL
open PySem PySem.Spec PyProof.Rows L2
open Evl (Ex)
end DL
namespace DL
open PySem PySem.Spec PyProof.Rows L2
structure DfG(P:Program)(w:World)(K:PySem.W.Frag)(mg:Str→Option Value)(base:Heap)(k:Nat)(st:Stmt)(x:Str)(ps:List Str)(dvs:List V)(kws:List (Str×V))(dsp:DSp)(f:Addr)(fd:FuncData):Prop where
 fn:FunD K x x (defArgs st) (defBody st) (defScope st) dvs kws f fd
 ok:FnOkG P w K mg base k f fd ps (zCx K dsp)
 mg:mg x=some (.ref f)
section
variable {P:Program}{w:World}{K:PySem.W.Frag}{mg:Str→Option Value}{base:Heap}
theorem zMZ{mb:Str→Option Value}{k:Nat}{fa al:Addr}{cs:List (Addr×Addr)}{fd:FuncData}{x:Str}{sp:Sp}{sh:Shared}{vs:List Value}{ns:List Int}(KX:K.In sh.heap)(hns:sh.heap.Ns mainGlobals mg)(hb:sh.heap.Ns builtinsNs mb)(hbb:∀x:Str,x≠"__name__"→mb x=bootBuiltins x)
  (hlim:sh.heap.NoLimit) (hgn:sh.gens=#[]) (hT:∀p∈cs,sh.heap.get? p.2=some {cls:=.none,data:=.fields #[]}) (nT:∀p∈cs,K.lookup p.2=none) (hC:∀p∈cs,PySem.W.CodeHd sh.heap p.1 p.2)
  (hbm:∃(bm:Addr) (ob:Obj),mg "__builtins__"=some (.ref bm)∧bm≠builtinsNs∧sh.heap.get? bm=some ob∧ob.cls=.type "module"∧ob.dict=some builtinsNs∧ob.data=.plain) (hal:sh.heap.get? al=some {cls:=.type "list",data:=.seq vs.toArray}) (hi:IntsAre vs ns) (hl:ns.length≤sizeLine)
  (hr:Room k callerA) (F:∀base:Heap,K.In base→base.Ns mainGlobals mg→(∀p∈cs,LamX.TabB base mg p.1 p.2)→FnOkG P w K mg base k fa fd [x] sp) (hbind:∀(s:Shared) (u:Value),BindsTo s fd ⟨[u],[]⟩ [(x,u)])
  (hsp:∀H:Hp,(∀p∈cs,H p.2=some (.tbl #[]))→SqL K H al (ns.map V.int)→sp [.ref al] H (fun v _=>v=.bl true) fun _ _ _=>False):
  codeAny (model P w) callerA (.call (.ref fa) ⟨[.ref al],[]⟩) (fun r s'=>r=.ok (.ret (.bool true))∧OldK sh.heap s'.heap∧s'.os=sh.os∧AllBare s'.gens) sh:=by
 have rvs:=vals_ints hi
 have lenV:=hi.length
 let ts:=cs.map (·.2)
 have isT:∀y:Addr,y∈ts→sh.heap.get? y=some {cls:=.none,data:=.fields #[]}:=fun y hy=>by
  obtain⟨p,hp,e⟩:=qy.mp hy
  exact e▸hT p hp
 have aT:al∉ts:=fun z=>by
  have q:=(isT al z).symm.trans hal
  cases q
 have memT:∀p∈cs,p.2∈ts:=fun p hp=>qy.mpr ⟨p,hp,rfl⟩
 have core:∀H:Hp,(∀p∈cs,H p.2=some (.tbl #[]))→(∀y,H y=none∨y∈ts∨∃o xs,H y=some (.frz o (.lst xs)))→SqL K H al (ns.map V.int)→HOk P w H sh.heap→(∀y,H y≠none→y=al∨y∈ts)→(H al≠none→K.lookup al=none)→
   codeAny (model P w) callerA (.call (.ref fa) ⟨[.ref al],[]⟩) (fun r s'=>r=.ok (.ret (.bool true))∧OldK sh.heap s'.heap∧s'.os=sh.os∧AllBare s'.gens) sh:=by
  intro H hH hO hS hok hA hK
  have bof:∀{y:Addr}{o:Obj},sh.heap.get? y=some o→H y=none→(hidT sh.heap H).get? y=some o:=fun e n=>hidT_get e n
  have noD:∀{y:Addr}{o:Obj},sh.heap.get? y=some o→(∀vs n,o.data≠.seq vs n)→o.data≠.fields #[]→H y=none:=fun {y o} e h1 h2=>by
   cases q:H y with
   |none=>rfl
   |some u=>
    rcases hA y (by rw[q];exact fun z=>nomatch z) with z|z
    ·subst z;cases hal.symm.trans e;exact(h1 _ _ rfl).elim
    ·cases(isT y z).symm.trans e;exact(h2 rfl).elim
  have nsK:∀{y:Addr}{m:Str→Option Value},sh.heap.Ns y m→(hidT sh.heap H).Ns y m:=fun {y m} ⟨o,es,ep,e,d,r⟩=>⟨o,es,ep,bof e (noD e (fun vs n z=>by rw[d] at z;cases z) fun z=>by rw[d] at z;cases z),d,r⟩
  have hKb:K.In (hidT sh.heap H):=fun y o e=>bof (KX y o e) (by
   cases q:H y with
   |none=>rfl
   |some u=>
    rcases hA y (by rw[q];exact fun z=>nomatch z) with z|z
    ·subst z;rw[hK (by rw[q];exact fun z=>nomatch z)] at e;cases e
    ·obtain⟨p,hp,ep⟩:=qy.mp z
     have n:=nT p hp
     rw[show p.2=y from ep,e] at n;cases n)
  have hM:L2.Mod K mg (hidT sh.heap H):=⟨hKb,nsK hns,⟨mb,nsK hb,hbb⟩,hlim.elim fun mc h=>⟨mc,nsK h.1,h.2⟩⟩
  have TB:∀p∈cs,LamX.TabB (hidT sh.heap H) mg p.1 p.2:=fun p hp=>by
   have hTp:=hT p hp
   refine⟨?_,?_,fun z=>?_⟩
   ·obtain⟨o,us,file,tf,flags,tg,inF,text,tt,e1,r1,r2,r3,r4,r5,r6,r7,r8,hne⟩:=hC p hp
    exact⟨o,us,file,tf,flags,tg,inF,text,tt,bof e1 (noD e1 (fun vs n z=>by rw[r2] at z;cases z) fun z=>by rw[r2] at z;cases z;simp at r3),r1,r2,r3,r4,r5,r6,r7,r8,hne⟩
   ·obtain⟨bm,ob,b1,b2,b3,b4,b5,b6⟩:=hbm
    refine⟨bm,ob,b1,b2,fun q=>?_,fun q=>?_,bof b3 (noD b3 (fun vs n z=>by rw[b6] at z;cases z) fun z=>by rw[b6] at z;cases z),b4,b5,b6⟩
    ·obtain⟨o,es,ep,e,hd,_⟩:=hns
     rw[q,e] at b3;cases b3;rw[hd] at b6;cases b6
    ·rw[q,hTp] at b3;cases b3;cases b6
   ·obtain⟨o,es,ep,e,hd,_⟩:=hns
    rw[z,hTp] at e;cases e;cases hd
  have e0:Env0 P w K mg (hidT sh.heap H) callerA [] sh H:=⟨rfl,hM,fun y o e=>of_hidT e,Nat.le_of_eq (hidT_size _ _),trivial,fun y hy=>absurd (show y∈([]:List Addr) from hy) (by simp),hok,.of_eq hgn⟩
  refine codeAny_mono ((F _ hKb (nsK hns) TB).run callerA [] sh H ⟨[.ref al],[]⟩ [.ref al] [.ref al] _ _ rfl hr e0 (hbind sh (.ref al)) (.cons rfl .nil) (hsp H hH hS)) fun r s' h=>?_
  match r,h with
  |.error e,h=>exact False.elim h
  |.ok .next,h=>exact False.elim h
  |.ok .brk,h=>exact False.elim h
  |.ok .cont,h=>exact False.elim h
  |.ok (.ret u),⟨v,H',os,bare,un,hok',r',q⟩=>
   obtain rfl:v=.bl true:=q
   obtain rfl:u=Value.bool true:=r'
   have key:∀y o,y∉ts→sh.heap.get? y=some o→s'.heap.get? y=some o:=fun y o nb e=>by
    rcases hO y with z|z|⟨ob,xs,z⟩
    ·exact un.keep y o e z (fun z=>absurd (show y∈([]:List Addr) from z) (by simp)) (by simp)
    ·exact absurd z nb
    ·obtain⟨e1,_⟩:=hok y _ z
     obtain⟨e2,_⟩:=hok' y _ (un.frzs y ob _ z)
     cases e.symm.trans e1
     exact e2
   have grown:∀p∈cs,∃more:Array Value,s'.heap.get? p.2=some {cls:=.none,data:=.fields more}:=fun p hp=>(un.tbls p.2 #[] (hH p hp)).elim fun more z=>⟨_,hok' p.2 _ z⟩
   refine⟨rfl,⟨fun y o e=>?_,fun y o e=>?_⟩,os,bare⟩
   ·by_cases hy:y∈ts
    ·obtain⟨p,hp,ep⟩:=qy.mp hy
     obtain⟨more,hm⟩:=grown p hp
     have ep:p.2=y:=ep
     subst ep
     cases(hT p hp).symm.trans e
     exact .inr (.inl ⟨((hC p hp).tab (hT p hp)).isCodeTable,rfl,#[],more,rfl,by rw[Array.empty_append];exact hm⟩)
    ·exact .inl (key y o hy e)
   ·by_cases hy:y∈ts
    ·obtain⟨p,hp,ep⟩:=qy.mp hy
     exact(grown p hp).elim fun more hm=>⟨_,ep▸hm⟩
    ·exact⟨o,key y o hy e⟩
 cases hk:K.lookup al with
 |some o=>
  cases hal.symm.trans (KX al o hk)
  refine core (fun y=>if y∈ts then some (.tbl #[]) else none) (fun p hp=>qe (memT p hp)) (fun y=>?_) (.inr ⟨_,vs.toArray,_,hk,rfl,rfl,rfl,by rw[List.size_toArray,lenV];exact hl,by simpa using rvs⟩) (fun y u z=>?_) (fun y z=>?_) fun z=>absurd (show(if al∈ts then some (HO.tbl #[]) else none)=none from qb aT) z
  ·by_cases hy:y∈ts
   ·exact .inr (.inl hy)
   ·exact .inl (qb hy)
  ·by_cases hy:y∈ts
   ·cases(qe hy).symm.trans z;exact isT y hy
   ·cases(qb hy).symm.trans z
  ·by_cases hy:y∈ts
   ·exact .inr hy
   ·exact absurd (qb hy) z
 |none=>
  refine core (fun y=>if y=al then some (.frz {cls:=.type "list",data:=.seq vs.toArray} (.lst (ns.map V.int))) else if y∈ts then some (.tbl #[]) else none) (fun p hp=>(qb (show ¬p.2=al from fun z=>aT (by rw[←z];exact memT p hp))).trans (qe (memT p hp))) (fun y=>?_)
   (.inl (.inr ⟨{cls:=.type "list",data:=.seq vs.toArray},qe rfl⟩)) (fun y u z=>?_) (fun y z=>?_) fun _=>hk
  ·by_cases hy:y=al
   ·exact .inr (.inr ⟨_,_,qe hy⟩)
   ·by_cases hy2:y∈ts
    ·exact .inr (.inl hy2)
    ·exact .inl ((qb hy).trans (qb hy2))
  ·by_cases hy:y=al
   ·cases(qe hy).symm.trans z
    subst hy
    exact⟨hal,by rw[qd];exact hl,vs,_,rvs,hal⟩
   ·have z1:=(qb hy).symm.trans z
    by_cases hy2:y∈ts
    ·cases(qe hy2).symm.trans z1;exact isT y hy2
    ·cases(qb hy2).symm.trans z1
  ·by_cases hy:y=al
   ·exact .inl hy
   ·by_cases hy2:y∈ts
    ·exact .inr hy2
    ·exact absurd ((qb hy).trans (qb hy2)) z
end
theorem walkGX{l:PySem.W.OpenLaw}{q:Program}{loose:List Str}{XP:(Str→Option Value)→Heap→Prop}{YP:World→Heap→Prop}{d:DefRec}{n k:Nat}{x:Str}(hn:l.most=some n)(hl:n≤sizeLine)(hdf:d.params.defaults=[])(hr:Room k callerA)
  (F:∀(w:World) (mg:Str→Option Value) (fa:Addr) (h:Heap),YP w h→h.Ns mainGlobals mg→mg d.name=some (.ref fa)→
   ∃K:PySem.W.Frag,K.In h∧∃(fd:FuncData) (cs:List (Addr×Addr×Str)) (sp:DSp),(∀p∈cs,h.get? p.2.1=some {cls:=.none,data:=.fields #[]})∧(∀p∈cs,K.lookup p.2.1=none)∧(∀p∈cs,PySem.W.CodeHd h p.1 p.2.1)∧(∀p∈cs,∀r∈cs,p.2.1=r.2.1→p.2.2=r.2.2)∧
    (∀(s:Shared) (u:Value),BindsTo s fd ⟨[u],[]⟩ [(x,u)])∧(∀(ns:List Int) (O:Om) (R:D→Om→Prop) (Z:XD),ns.length≤n→(∀p∈cs,O p.2.1=some (.tab p.2.2))→(∀O',R (.bl true) O')→sp [.lst (ns.map D.int)] O R Z)∧
    ∀base:Heap,K.In base→base.Ns mainGlobals mg→(∀p∈cs,LamX.TabB base mg p.1 p.2.1)→FnOkG l.prog w K mg base k fa fd [x] (zCx K sp)):
  PySem.W.WalkO q loose XP YP l.row.toRowW d [] (fun f vs=>PySem.call f vs):=by
 refine Att.attach_callB hn hdf fun w s₀ s₁ mg mb fa o pm cd doc a vs ns G Y ho hd hcd hmg hobj hints hlen hbits hg=>?_
 obtain⟨K,KX,fd,cs,sp,h1,h2,h3,hu,hb,hs,hF⟩:=F w mg fa _ Y G.T.g hmg
 have mm:∀{p:Addr×Addr},p∈cs.map (fun r=>(r.1,r.2.1))→∃r∈cs,p=(r.1,r.2.1):=fun {p} hp=>(qy.mp hp).elim fun r hr=>⟨r,hr.1,hr.2.symm⟩
 have im:∀{p:Addr×Addr×Str},p∈cs→(p.1,p.2.1)∈cs.map (fun r=>(r.1,r.2.1)):=fun {p} hp=>km (f:=fun r=>(r.1,r.2.1)) hp
 refine zMZ (cs:=cs.map fun r=>(r.1,r.2.1)) KX G.T.g G.T.b G.T.builtins G.T.nolimit hg (fun p hp=>?_) (fun p hp=>?_) (fun p hp=>?_) G.T.bmain hobj hints (qo hlen hl) hr (fun base kb nb tb=>hF base kb nb fun p hp=>tb _ (im hp)) hb fun H hT hS=>?_
 ·obtain⟨r,hr,rfl⟩:=mm hp;exact h1 r hr
 ·obtain⟨r,hr,rfl⟩:=mm hp;exact h2 r hr
 ·obtain⟨r,hr,rfl⟩:=mm hp;exact h3 r hr
 have hTT:∀r∈cs,H r.2.1=some (.tbl #[]):=fun r hr=>hT _ (im hr)
 have gl:∀{b:Addr}{o:HO},H b=some o→(∀ps,o≠.tbl ps)→(if(zFQ cs b).isSome then none else H b)=some o:=fun {b o} e nt=>by
  have z:zFQ cs b=none:=by
   cases e2:zFQ cs b with
   |none=>rfl
   |some u=>
    obtain⟨r,hr,rfl,_⟩:=zHg e2
    exact absurd (jb ((hTT r hr).symm.trans e)).symm (nt _)
  rw[z];exact e
 have hS':SqL K (fun b=>if(zFQ cs b).isSome then none else H b) a (ns.map V.int):=by
  rcases hS with(z|⟨ob,z⟩)|z
  ·exact .inl (.inl (gl z fun ps e=>nomatch e))
  ·exact .inl (.inr ⟨ob,gl z fun ps e=>nomatch e⟩)
  ·exact .inr z
 refine⟨fun b=>if(zFQ cs b).isSome then none else H b,zFQ cs,[.lst (ns.map D.int)],fun x _=>x=.bl true,fun _ _ _=>False,⟨fun b o e=>?_,fun b o e=>?_⟩,.cons (.lst hS' (VRs.ofInts ns)) .nil,hs ns _ _ _ hlen (fun p hp=>zPy hu hp) fun _=>rfl,?_,?_⟩
 ·have e:(if(zFQ cs b).isSome then none else H b)=some o:=e
  split at e
  ·cases e
  ·exact e
 ·obtain⟨r,hr,rfl,rfl⟩:=zHg e
  refine⟨?_,_,hTT r hr,True.intro,fun pos cv hc=>?_⟩
  ·show(if(zFQ cs r.2.1).isSome then none else H r.2.1)=none
   rw[e];rfl
  ·have z:codeAmong pos []=some cv:=hc
   simp[codeAmong] at z
 ·rintro x O' v G' H' go vr rfl
  cases vr
  rfl
 ·exact fun c e O' G' H' _ z=>z
end DL
namespace PySem
end PySem
namespace DL
open PySem PySem.Spec PyProof.Rows L2
end DL
namespace DL
open PySem PySem.Spec PyProof.Rows L2
open Evl (Ex)
def zGH(to te:DE):DE:=fun g O R=>to g O fun x O1=>(∃a,x=.str a)∧te g O1 fun y O2=>∃a b:Str,x=.str a∧y=.str b∧(b.length==0)=false∧a.length+2≤sizeLine∧∀p,O2 p=none→R (.ref p) (up O2 p (.lst ((Txt.split a b).map D.str)))
def zUo:D2:=fun x y O R=>∃(c:Nat) (z:Str),x=.str ⟨#[c]⟩∧y=.str z∧R (.bl (decide (c∈z.cps.toList))) O
def zUr:DC:=fun xs O R=>∃a n,xs=[.str a]∧PySem.intText? a=some n∧a.length≤640∧R (.int n) O
section
variable {X:Cx}{K:PySem.W.Frag}{a b o e:Expr}{ta to te:DE}{pos apos:Pos}{k:Nat}
theorem zNv{G:Hp}:∀ys:List Str,VRs K G (ys.map V.str) (ys.map D.str)
 |[]=>.nil
 |y::ys=>.cons (.str y) (zNv ys)
theorem zIy(ho:PE X o (zAs X.K to))(he:PE X e (zAs X.K te))(hs:starEach [e] X.env=[(false,eval e X.env)]:=by rfl)(hbase:attributeBase o "split" X.env (eval o X.env)=eval o X.env:=by rfl)(hline:(apos.endLine==pos.line)=true:=by rfl):
  PE X (.Call (.Attribute o "split" apos) [e] [] pos) (zAs X.K (zGH to te)):=PE.by (pe_split ho he hs hbase hline) fun s H Q ⟨G,O,g,R,rl,gr,h,k⟩=>
 ⟨G,O,g,_,rl,gr,h,fun x O1 v G1 H1 go1 vr1 q1=>by
  obtain⟨⟨a,rfl⟩,q1⟩:=q1
  cases vr1
  refine⟨⟨a,rfl⟩,G1,O1,g,_,go1.rel,gr.mono go1.ex,q1,fun y O2 u G2 H2 go2 vr2 q2=>?_⟩
  obtain⟨a',b,e',rfl,hb,hl,q⟩:=q2
  cases e'
  cases vr2
  refine⟨a,b,rfl,rfl,hb,hl,fun p hp=>?_⟩
  have bk:Bk X.K G2 O2 H2 R Q:=fun x O3 v G3 H3 go3 vr q3=>k _ _ _ _ _ ((go1.trans rl go2).trans rl go3) vr q3
  exact bk.lst go2.rel (zNv _) q p hp⟩
theorem zV0:OpS K (fun x y H Q=>∃(c:Nat) (z:Str),x=.str ⟨#[c]⟩∧y=.str z∧Q (.bl (decide (c∈z.cps.toList))) H) zUo:=fun {G O H x y v u R Q} rl hx hy h k=>by
 obtain⟨c,z,rfl,rfl,r⟩:=h
 cases hx
 cases hy
 exact⟨c,z,rfl,rfl,k.here rl (.bl _) r⟩
theorem zZu:CaS K (fun xs H Q=>∃a n,xs=[.str a]∧PySem.intText? a=some n∧a.length≤640∧Q (.int n) H) zUr:=fun {G O H xs vs R Q} rl hv h k=>by
 obtain⟨a,n,rfl,h1,h2,r⟩:=h
 obtain⟨v,rfl,hw⟩:=hv.one
 cases hw
 exact⟨a,n,rfl,h1,h2,k.here rl (.int _) r⟩
end
end DL
namespace L2
open PySem PySem.Spec PyProof PyProof.Rows PySem.W
end L2
namespace DL
open PySem PySem.Spec PyProof PyProof.Rows L2
open Evl (Ex)
end DL
namespace DL
open PySem PySem.Spec PyProof PyProof.Rows L2
open Evl (Ex)
end DL
namespace L2
open PySem PySem.Spec PyProof.Rows
def yBj(K:PySem.W.Frag)(p:Addr):R2:=fun x y H Q=>∃z o,x=.str z∧y=.ref p∧zSL K p z o∧Q (.bl o.isSome) H
theorem zWU{X:Cx}{p:Addr}{es:Array DictEntry}{n:Nat}(D:KDict X.K X.w p es n):OpR X (compareOp .In) (yBj X.K p):=by
 intro pins s σ H x y v u Q I rx ry h
 obtain⟨z,o,rfl,rfl,⟨r,h1,h2⟩,q⟩:=h
 have e:r.isSome=o.isSome:=by cases o<;>cases r<;>first|rfl|exact h2.elim
 exact op_in_kd D pins s σ H _ _ v u Q I rx ry ⟨z,r,rfl,rfl,h1,by rw[e];exact q⟩
def zU8(K:PySem.W.Frag)(p:Addr)(td ty:TE):TE:=fun σ H Q=>td σ H fun x H1=>x=.ref p∧ty σ H1 fun y H2=>∃k o,y=.str k∧zSL K p k o∧Q (o.getD .non) H2
theorem zQ0{X:Cx}{o e:Expr}{apos cpos:Pos}{td ty:TE}{p:Addr}{es:Array DictEntry}{n:Nat}(D:KDict X.K X.w p es n)(ho:PE X o td)(he:PE X e ty)(m:M1 X o "get" apos e cpos):
  PE X (.Call (.Attribute o "get" apos) [e] [] cpos) (zU8 X.K p td ty):=by
 refine⟨fun pins s σ H Q I h=>?_⟩
 refine wpAny_Call_method m.base m.few m.line PySem.F.plainAttrs_dict jV PySem.F.type_dict_get (thn (ho.run pins s σ H _ I h) fun u s1 ⟨x,H1,I1,rx,ex,q1⟩=>?_)
 subst ex
 obtain rfl:u=Value.ref p:=rx
 have hm:=PySem.W.mapOf_K (prog:=X.prog) (w:=X.w) I1.kIn D.at_ D.lit
 refine⟨hm.typeIs,hm.noDict,?_⟩
 rw[m.trees]
 refine Calls.callWith_builtin rfl (Calls.evalArgs_plain (Calls.spliced_cons (thn (he.run pins s1 σ H1 _ I1 q1) fun iv s2 ⟨y,H2,I2,ry,k,ov,ey,⟨r,h1,h2⟩,q2⟩=>Calls.spliced_nil ?_)))
 subst ey
 obtain⟨t,rfl⟩:=(show∃t,iv=Value.str k t from ry)
 have hm3:=PySem.W.mapOf_K (prog:=X.prog) (w:=X.w) I2.kIn D.at_ D.lit
 refine call_meetsIn jV hm3.typeIs PySem.F.entry_dict_get (PySem.F.args_dict_get_2 _ _) (meets_dict_get (strKind X.prog X.w) p (PySem.strKind_is X.prog X.w k t) D.low) ⟨_,hm3,?_⟩
 rw[PySem.W.find_K D.at_ h1]
 exact⟨_,H2,I2.tok _,h2.getD (show RelV .non .none from rfl),q2⟩
end L2
namespace DL
open PySem PySem.Spec PyProof.Rows L2
open Evl (Ex)
theorem zTE{K:PySem.W.Frag}{w:World}{a:Addr}{ks:List Str}(h:He.dicW K a=some (He.keysIn w.params ks)){z:Str}(hz:z∉ks):PySem.W.nsIn K a z=some none:=by
 obtain⟨es,n,D⟩:=He.dicW_ok h
 have hk:∀e∈es.toList,∃k t,k∈ks∧e.key=.str k t:=fun e he=>by
  have h2:He.dicW K a=some (es.toList.map He.keyOf):=by
   unfold He.dicW
   rw[D.at_]
   have z2:(decide (("dict":String)="dict")&&((#[]:Array (Option Value)).isEmpty&&!(a==sysModules)))=true:=by rw[D.low];rfl
   show(match decide (("dict":String)="dict")&&((#[]:Array (Option Value)).isEmpty&&!(a==sysModules)) with|true=>some (es.toList.map He.keyOf)|false=>none)=_
   rw[z2]
  rw[h] at h2
  have h3:He.keyOf e∈He.keysIn w.params ks:=by
   rw[jb h2]
   exact km he
  obtain⟨k,hk,e2⟩:=qy.mp h3
  unfold He.keyOf at e2
  split at e2
  ·rename_i x t q
   have:k=x:=(Prod.mk.inj (jb e2)).1
   exact⟨k,t,hk,by rw[this];exact q⟩
  ·cases e2
 unfold PySem.W.nsIn
 rw[D.at_]
 have e1:es.toList.find? (fun e=>e.key.isStr z)=none:=List.find?_eq_none.mpr fun e he=>by
  obtain⟨k,t,h1,h2⟩:=hk e he
  rw[h2]
  intro y
  have:k=z:=by simpa [Value.isStr] using y
  exact hz (this▸h1)
 have e2:es.toList.any (fun e=>e.refKey)=false:=List.any_eq_false.mpr fun e he=>by
  obtain⟨k,t,h1,h2⟩:=hk e he
  simp[DictEntry.refKey,h2]
 show(match es.toList.find? (fun e=>e.key.isStr z) with|some e=>some (some e.val)|none=>if es.toList.any (fun e=>e.refKey) then none else some none)=some none
 rw[e1,e2]
 rfl
structure KTF(K:PySem.W.Frag)(w:World)(mg:Str→Option Value)(x:Str)(a:Addr)(tbl:List (Str×D)):Prop where
 dic:∃es n,KDict K w a es n
 gc:GC K mg x (.ref a)
 ent:∀z,EntP K a z (tbl.lookup z)
theorem KTF.of{K:PySem.W.Frag}{w:World}{mg:Str→Option Value}{a:Addr}{x:Str}{tbl:List (Str×D)}(hd:He.dicW K a=some (He.keysIn w.params (tbl.map (·.1))))(hg:mg x=some (.ref a))(h:∀p∈tbl,EntP K a p.1 (some p.2)):KTF K w mg x a tbl:=by
 refine⟨He.dicW_ok hd,GC.ref hg,fun z=>?_⟩
 cases e:tbl.lookup z with
 |some d=>exact h (z,d) (zIp e)
 |none=>
  refine EntP.no (zTE hd fun hz=>?_)
  obtain⟨p,hp,rfl⟩:=qy.mp hz
  have:∀l:List (Str×D),p∈l→l.lookup p.1≠none:=by
   intro l
   induction l with
   |nil=>intro h;cases h
   |cons q r ih=>
    intro h
    rw[List.lookup_cons]
    by_cases hb:p.1==q.1
    ·rw[hb];exact fun z=>nomatch z
    ·have hb:(p.1==q.1)=false:=by simpa using hb
     rw[hb]
     rcases qj.mp h with z|z
     ·rw[z] at hb;simp at hb
     ·exact ih z
  exact this tbl hp e
theorem SaysT.dic{fa:List He.Fa}{fn:List He.DefD}{ts:List He.Tab}{w:World}{K:PySem.W.Frag}(c:He.SaysT fa fn ts w K)(i:Nat){t:He.Tab}(h:ts[i]?=some t):He.dicW K (t.1 K)=some (He.keysIn w.params t.2):=by
 have e:ts.map (fun t=>He.dicW K (t.1 K))=ts.map fun t=>some (He.keysIn w.params t.2):=jB (fun z:He.AlT=>z.2) c
 have e2:(ts.map fun t=>He.dicW K (t.1 K))[i]?=(ts.map fun t=>some (He.keysIn w.params t.2))[i]?:=by rw[e]
 rw[qF,qF,h] at e2
 exact jb e2
def zZc(p:Addr)(tbl:List (Str×D)):D2:=fun x y O R=>∃z,x=.str z∧y=.ref p∧R (.bl (tbl.lookup z).isSome) O
def zZb(p:Addr)(tbl:List (Str×D)):D2:=fun x y O R=>x=.ref p∧∃z v,y=.str z∧tbl.lookup z=some v∧R v O
def zUs(p:Addr)(tbl:List (Str×D))(td ty:DE):DE:=fun g O R=>td g O fun x O1=>x=.ref p∧ty g O1 fun y O2=>∃k,y=.str k∧R ((tbl.lookup k).getD .non) O2
section
variable {X:Cx}{a b:Expr}{ta tb:DE}{pos apos:Pos}{p:Addr}{x:Str}{tbl:List (Str×D)}
theorem yBD(T:KTF X.K X.w X.mg x p tbl):OpS X.K (yBj X.K p) (zZc p tbl):=fun {G O H x y v u R Q} rl hx hy h k=>by
 obtain⟨z,rfl,rfl,q⟩:=h
 cases hx
 cases hy
 have e:=T.ent z
 cases ht:tbl.lookup z with
 |none=>
  rw[ht] at e q
  exact⟨z,none,rfl,rfl,e,k.here rl (.bl _) q⟩
 |some d=>
  rw[ht] at e q
  obtain⟨v0,h1,_⟩:=e
  exact⟨z,some v0,rfl,rfl,h1,k.here rl (.bl _) q⟩
theorem yBC(T:KTF X.K X.w X.mg x p tbl):OpS X.K (zZA X.K p) (zZb p tbl):=fun {G O H x y v u R Q} rl hx hy h k=>by
 obtain⟨rfl,z,d,rfl,hl,q⟩:=h
 cases hx
 cases hy
 have e:=T.ent z
 rw[hl] at e
 obtain⟨v0,h1,h2⟩:=e
 exact⟨z,v0,rfl,rfl,h1,k.here rl (h2 G) q⟩
theorem zZm(T:KTF X.K X.w X.mg x p tbl)(ha:PE X a (zAs X.K ta))(hb:PE X b (zAs X.K tb))(hm:behindInMarks .In b=false:=by rfl):PT X (.Compare a [.In] [b] pos) (zEh X.K (zAo (dOp (zZc p tbl) ta tb))):=by
 obtain⟨es,n,D⟩:=T.dic
 exact zAD (zWU D) (yBD T) ha hb hm
theorem yAv(T:KTF X.K X.w X.mg x p tbl)(ha:PE X a (zAs X.K ta))(hb:PE X b (zAs X.K tb))(hs:PlainIx b:=by exact fun _ _=>rfl):PE X (.Subscript a b pos) (zAs X.K (dOp (zZb p tbl) ta tb)):=by
 obtain⟨es,n,D⟩:=T.dic
 exact yAu (zOr D) (yBC T) ha hb hs
theorem zXG(T:KTF X.K X.w X.mg x p tbl)(ha:PE X a (zAs X.K ta))(hb:PE X b (zAs X.K tb))(m:M1 X a "get" apos b pos:=by exact⟨rfl,rfl,rfl,rfl⟩):PE X (.Call (.Attribute a "get" apos) [b] [] pos) (zAs X.K (zUs p tbl ta tb)):=by
 obtain⟨es,n,D⟩:=T.dic
 exact PE.by (zQ0 D ha hb m) fun s H Q ⟨G,O,g,R,rl,gr,h,k⟩=>
  ⟨G,O,g,_,rl,gr,h,fun x O1 v G1 H1 go1 vr1 q1=>by
   obtain⟨rfl,q1⟩:=q1
   cases vr1
   exact⟨rfl,G1,O1,g,_,go1.rel,gr.mono go1.ex,q1,fun y O2 u G2 H2 go2 vr2 q2=>by
    obtain⟨kk,rfl,r⟩:=q2
    cases vr2
    have g12:=go1.trans rl go2
    have e:=T.ent kk
    cases ht:tbl.lookup kk with
    |none=>
     rw[ht] at e r
     exact⟨kk,none,rfl,e,k _ _ _ _ _ g12 .non r⟩
    |some d=>
     rw[ht] at e r
     obtain⟨v0,h1,h2⟩:=e
     exact⟨kk,some v0,rfl,h1,k _ _ _ _ _ g12 (h2 _) r⟩⟩⟩
end
abbrev Tb.Desk(t:Tb):Addr:=t.cl 47
abbrev Tb.SINGLE(t:Tb):Addr:=t.cl 48
abbrev Tb.FORMS(t:Tb):Addr:=t.cl 49
abbrev Tb.bars_told(t:Tb):Addr:=t.cl 50
abbrev Tb.marks_told(t:Tb):Addr:=t.cl 51
abbrev Tb.layout_told(t:Tb):Addr:=t.cl 52
abbrev Tb.cost_told(t:Tb):Addr:=t.cl 53
abbrev Tb.undo_told(t:Tb):Addr:=t.cl 54
abbrev Tb.redo_told(t:Tb):Addr:=t.cl 55
abbrev Tb.music_deed(t:Tb):Addr:=t.cl 56
abbrev Tb.mark_deed(t:Tb):Addr:=t.cl 57
abbrev Tb.end_deed(t:Tb):Addr:=t.cl 58
abbrev Tb.plain_deed(t:Tb):Addr:=t.cl 59
def zD5(t:Tb):List (Str×D):=[("bars",.ref t.bars_told),("marks",.ref t.marks_told),("layout",.ref t.layout_told),("cost",.ref t.cost_told),("undo",.ref t.undo_told),("redo",.ref t.redo_told)]
def zFv(t:Tb):List (Str×D):=[("bar",.ref t.music_deed),("change",.ref t.music_deed),("mark",.ref t.mark_deed),("end",.ref t.end_deed),("cut",.ref t.plain_deed),("move",.ref t.plain_deed),("wipe",.ref t.plain_deed),("paper",.ref t.plain_deed)]
end DL
namespace DL
open PySem PySem.Spec PyProof.Rows L2
open Evl (Ex)
variable {X:Cx}{K:PySem.W.Frag}{a b:Expr}{ta tb:DE}{pos:Pos}
def zWi:R2:=fun x y H Q=>∃(z:Str) (n:Int),x=.str z∧y=.int n∧MulOk z n∧Q (.str (Txt.mul z n)) H
theorem zTv:OpR X (binaryOp .Mult) zWi:=by
 intro pins s σ H x y v u Q I rx ry h
 obtain⟨z,n,rfl,rfl,hok,q⟩:=h
 obtain⟨t,rfl⟩:=rx
 obtain⟨t2,rfl⟩:=ry
 exact SB.mul hok fun t' k=>⟨.str (Txt.mul z n),H,I.tok _,⟨t',rfl⟩,q⟩
def zRx:D2:=fun x y O R=>∃(z:Str) (n:Int),x=.str z∧y=.int n∧MulOk z n∧R (.str (Txt.mul z n)) O
theorem zZt:OpS K zWi zRx:=fun {G O H x y v u R Q} rl hx hy h k=>by
 obtain⟨z,n,rfl,rfl,hok,r⟩:=h
 cases hx
 cases hy
 exact⟨z,n,rfl,rfl,hok,k.here rl (.str _) r⟩
theorem zXz(ha:PE X a (zAs X.K ta))(hb:PE X b (zAs X.K tb)):PE X (.BinOp a .Mult b pos) (zAs X.K (dOp zRx ta tb)):=zSo zTv zZt ha hb
end DL
namespace Lw
open PySem PySem.Spec PyProof.Rows L2 DL
open Evl (Ex)
def Sb(O O':Om):Prop:=∀a o,O a=some o→O' a=some o
theorem Sb.refl(O:Om):Sb O O:=fun _ _ e=>e
theorem Sb.trans{O O1 O2:Om}(h:Sb O O1)(k:Sb O1 O2):Sb O O2:=fun a o e=>k a o (h a o e)
theorem Sb.new{O:Om}{p:Addr}{o:DO}(h:O p=none):Sb O (up O p o):=fun a u e=>by
 rw[up_ne (fun z=>by subst z;rw[h] at e;cases e)];exact e
theorem Sb.fin{O O':Om}{R:D→Om→Prop}{x:D}(h:Sb O O')(r:R x O):Fin R x O':=⟨O,h,r⟩
theorem zAb{O:Om}{p a:Addr}{o:DO}(h:O p=none)(e:O a=some o):a≠p:=fun z=>by subst z;rw[h] at e;cases e
def zRI(c:Addr)(pos rem seed cnt:Int):DO:=.lst [.ref c,.int pos,.int rem,.int seed,.int cnt]
def Bag(O:Om)(b:Addr):Prop:=∃(c:Addr) (cells:List Int) (pos rem seed cnt:Int),O b=some (zRI c pos rem seed cnt)∧O c=some (.lst (cells.map D.int))∧c≠b∧0≤pos∧0≤rem∧0≤seed∧seed<2147483647
def zBy(O:Om)(b:Addr):Option Addr:=match O b with|some (.lst (.ref c::_))=>some c|_=>none
structure Bst(b:Addr)(O O':Om):Prop where
 bag:Bag O' b
 fr:∀a o,a≠b→O a=some o→O' a=some o
 cell:zBy O' b=zBy O b
theorem Bst.trans{b:Addr}{O O1 O2:Om}(h:Bst b O O1)(k:Bst b O1 O2):Bst b O O2:=⟨k.1,fun a o n e=>k.2 a o n (h.2 a o n e),k.cell.trans h.cell⟩
theorem Bag.cell{O:Om}{b:Addr}(h:Bag O b):∃(c:Addr) (cells:List Int) (pos rem seed cnt:Int),zBy O b=some c∧O b=some (zRI c pos rem seed cnt)∧O c=some (.lst (cells.map D.int)):=by
 obtain⟨c,cells,pos,rem,seed,cnt,h1,h2,h3⟩:=h
 exact⟨c,cells,pos,rem,seed,cnt,by unfold zBy;rw[h1];rfl,h1,h2⟩
theorem zB6{O:Om}{b c:Addr}{pos rem seed cnt:Int}(h:O b=some (zRI c pos rem seed cnt)):zBy O b=some c:=by unfold zBy;rw[h];rfl
theorem zO4{O:Om}{b p:Addr}{o:DO}(h:p≠b):zBy (up O p o) b=zBy O b:=by unfold zBy;rw[up_ne (fun z=>h z.symm)]
theorem Bag.up{O:Om}{b p:Addr}{o:DO}(h:Bag O b)(n:O p=none):Bag (up O p o) b:=by
 obtain⟨c,cells,pos,rem,seed,cnt,h1,h2,h3⟩:=h
 exact⟨c,cells,pos,rem,seed,cnt,by rw[up_ne (zAb n h1)];exact h1,by rw[up_ne (zAb n h2)];exact h2,h3⟩
theorem Bst.refl{b:Addr}{O:Om}(h:Bag O b):Bst b O O:=⟨h,fun _ _ _ e=>e,rfl⟩
theorem Bst.up{b p:Addr}{O O':Om}{o:DO}(h:Bst b O O')(n:O' p=none):Bst b O (DL.up O' p o):=⟨h.1.up n,fun a u hn e=>Sb.new n a u (h.2 a u hn e),by rw[zO4 (fun z=>by obtain⟨c,_,_,_,_,_,_,e,_⟩:=h.1.cell;rw[←z,n] at e;cases e),h.cell]⟩
theorem zDz{n:Nat}{i:Int}(h0:0≤i)(h1:i<n):ixN n i=some i.toNat:=by unfold ixN;rw[qe h0,qe h1]
theorem zUH{ns:List Int}{i:Int}(h0:0≤i)(h1:i<ns.length):∃z,atI (ns.map D.int) i=some (.int z)∧z∈ns:=by
 unfold atI
 have h2:i.toNat<ns.length:=by omega
 rw[zDz h0 (by simpa using h1)]
 exact⟨ns[i.toNat],by simp[h2],kJ h2⟩
theorem zCL{A:Type}{xs:List A}{k:Nat}(h:k<xs.length):atI xs (k:Int)=some xs[k]:=by
 unfold atI
 rw[zDz (by omega) (by omega)]
 simp[h]
theorem zHd{A:Type}{x:A}{xs:List A}:atI (x::xs) 0=some x:=zCL (k:=0) (by simp)
theorem zIV{A:Type}{x y:A}{xs:List A}:atI (x::y::xs) 1=some y:=zCL (k:=1) (by simp)
theorem zKm{A:Type}{x y z:A}{xs:List A}:atI (x::y::z::xs) 2=some z:=zCL (k:=2) (by simp)
theorem zKl{A:Type}{x y z u:A}{xs:List A}:atI (x::y::z::u::xs) 3=some u:=zCL (k:=3) (by simp)
theorem zKk{A:Type}{x y z u v:A}{xs:List A}:atI (x::y::z::u::v::xs) 4=some v:=zCL (k:=4) (by simp)
theorem zKj{A:Type}{x y z u v w:A}{xs:List A}:atI (x::y::z::u::v::w::xs) 5=some w:=zCL (k:=5) (by simp)
theorem zJE{n:Nat}:ixN (n+1) 0=some 0:=zDz (i:=((0:Nat):Int)) (by omega) (by omega)
theorem zJD{n:Nat}:ixN (n+1+1) 1=some 1:=zDz (i:=((1:Nat):Int)) (by omega) (by omega)
theorem zJC{n:Nat}:ixN (n+1+1+1) 2=some 2:=zDz (i:=((2:Nat):Int)) (by omega) (by omega)
theorem zJB{n:Nat}:ixN (n+1+1+1+1) 3=some 3:=zDz (i:=((3:Nat):Int)) (by omega) (by omega)
theorem zJA{n:Nat}:ixN (n+1+1+1+1+1) 4=some 4:=zDz (i:=((4:Nat):Int)) (by omega) (by omega)
theorem zJz{n:Nat}:ixN (n+1+1+1+1+1+1) 5=some 5:=zDz (i:=((5:Nat):Int)) (by omega) (by omega)
theorem zCC{A:Type}{us ws ds:List A}:pick us ws ds []=[]:=rfl
theorem zFr{A:Type}{us ws ds:List A}{i:Nat}{l:List Src}:pick us ws ds (.p i::l)=match us[i]? with|some x=>x::pick us ws ds l|none=>pick us ws ds l:=by
 unfold pick
 rw[jt]
 show(match us[i]? with|none=>_|some b=>_)=_
 cases us[i]?<;>rfl
theorem zFs{A:Type}{us ws ds:List A}{i:Nat}{l:List Src}:pick us ws ds (.k i::l)=match ws[i]? with|some x=>x::pick us ws ds l|none=>pick us ws ds l:=by
 unfold pick
 rw[jt]
 show(match ws[i]? with|none=>_|some b=>_)=_
 cases ws[i]?<;>rfl
theorem zFt{A:Type}{us ws ds:List A}{i:Nat}{l:List Src}:pick us ws ds (.d i::l)=match ds[i]? with|some x=>x::pick us ws ds l|none=>pick us ws ds l:=by
 unfold pick
 rw[jt]
 show(match ds[i]? with|none=>_|some b=>_)=_
 cases ds[i]?<;>rfl
theorem zAz{t u:DS}{F:DEnds}{g:Gm}{O:Om}(h:∀N:Gm→Om→Prop,N=u F→t {F with nx:=N} g O):zAt t u F g O:=h (u F) rfl
theorem zGn{t u:DS}{F:DEnds}{g:Gm}{O:Om}(Mid:Gm→Om→Prop)(h:∀N:Gm→Om→Prop,(∀g O,Mid g O→N g O)→t {F with nx:=N} g O)(k:∀g O,Mid g O→u F g O):zAt t u F g O:=h (u F) k
def yBb:DS:=
 (zAt (zBK (zDS (zAo (dOp dEq (dOp dIx (zAd 0) (dC (.int 2))) (dC (.int 0)))) (zAo (dOp dLt (dOp dIx (zAd 0) (dC (.int 1))) (dCB zC4 (zAc (dOp dIx (zAd 0) (dC (.int 0))) zAg))))) (zAt (zBY 2 (dOp dIx (dOp dIx (zAd 0) (dC (.int 0))) (dOp dIx (zAd 0) (dC (.int 1)))))
 (zAt (zEo (dOp zDL (dOp dIx (zAd 0) (dC (.int 1))) (dC (.int 1))) (zEj (zAd 0) (dC (.int 1)) zEl))
 (zBK (zAo (dOp dGe (zAd 2) (dOp zOT (dC (.int 10)) (dC (.int 18))))) (zEo (zAd 2) (zEj (zAd 0) (dC (.int 2)) zEl)) (zEo (dOp zK6 (dOp zDL (dOp zDL (dOp zK5 (dOp dIx (zAd 0) (dC (.int 3))) (dC (.int 48271))) (dOp zK5 (dOp zK6 (zAd 2) (dC (.int 2147483629))) (dC (.int 69621)))) (dC (.int 77))) (dC (.int 2147483647))) (zEj (zAd 0) (dC (.int 3)) zEl))))) zAH)
 (zAt (zBK (zAo (dOp dGt (dOp dIx (zAd 0) (dC (.int 2))) (dC (.int 0)))) (zAt (zBY 3 (dOp zK6 (dOp dIx (zAd 0) (dC (.int 2))) (zAd 1)))
 (zAt (zEo (dOp dFd (dOp dIx (zAd 0) (dC (.int 2))) (zAd 1)) (zEj (zAd 0) (dC (.int 2)) zEl))
 (zBd (zAd 3)))) zAH)
 (zAt (zBY 4 (dOp dIx (zAd 0) (dC (.int 3))))
 (zAt (zEo (dOp zDL (dOp dIx (zAd 0) (dC (.int 4))) (dC (.int 1))) (zEj (zAd 0) (dC (.int 4)) zEl))
 (zAt (zEo (dOp zK6 (dOp zDL (dOp zDL (dOp zOT (zAd 4) (dC (.int 3))) (dOp zK5 (dC (.int 40692)) (zAd 4))) (dOp zK5 (dC (.int 7919)) (dOp dIx (zAd 0) (dC (.int 4))))) (dC (.int 2147483647))) (zEj (zAd 0) (dC (.int 3)) zEl))
 (zBd (dOp zK6 (dOp zDL (dOp dFd (dOp dIx (zAd 0) (dC (.int 3))) (dC (.int 61))) (dOp zK5 (dOp zK6 (dOp dIx (zAd 0) (dC (.int 3))) (dC (.int 8191))) (dC (.int 37)))) (zAd 1))))))))
def yAe:List Str:=["_law_bag_here","_law_sides","_law_cell","_law_got","_law_seed"]
def zGX:DSp:=fun xs O R _=>∃(b:Addr) (n:Int),xs=[.ref b,.int n]∧1≤n∧n.natAbs.log2<9000∧Bag O b∧∀r O',0≤r→r<n→Bst b O O'→R (.int r) O'
theorem zO9{O:Om}{b c:Addr}{cells:List Int}{pos rem seed cnt:Int}(h0:zBy O b=some c)(hc:O c=some (.lst (cells.map D.int)))(hcb:c≠b)(hp:0≤pos)(hr:0≤rem)(hs:0≤seed)(hs2:seed<2147483647):Bst b O (DL.up O b (zRI c pos rem seed cnt)):=
 ⟨⟨c,cells,pos,rem,seed,cnt,up_same,by rw[up_ne hcb];exact hc,hcb,hp,hr,hs,hs2⟩,fun a o n e=>by rw[up_ne n];exact e,by rw[zB6 up_same,h0]⟩
local macro_rules | `(tactic|simp! only[$xs,*])=>`(tactic|simp only[zBK,zDS,zFI,zBZ,zAo,zFG,zRu,zEp,zSx,zJR,dIf,dOp,dUn,zAd,dC,dI,dIc,zDL,zPo,zK5,dFd,zK6,zOT,zSz,dLt,dLe,dGt,dGe,dEq,dNe,zE9,zFU,DL.isNon,dIx,dSl,zCu,zAW,dCB,zC4,zPq,zGJ,zDp,zK8,zSv,zIF,zG7,zK2,isC,seqOf,lstOf,zAc,zAg,zD2,zMm,zBd,zJO,zAH,zCo,zEo,gN,zBP,zAp,gT,zEj,zEl,zOV,zSG,zFL,zFK,zAX,zCC,zFr,zFs,zFt,zFP,zG8,dLM,zNa,isL,zB5,zCv,zOU,zFH,zJM,zOS,zSC,dJs,zJW,zJU,zDG,zFV,zBX,zDj,zEm,DL.keyOf,zEN,zJ5,zCI,zBY,zBA,zJN,zEX,zDH,zCH,zCf,zJV,zJT,zIY,zOW,zJS,zJ1,zJ0,zM8,zAJ,zCG,zJL,zJP,zJQ,zGY,zQV,zCe,zJ2,zFa,zFM,zFN,zSw,zSB,zJ6,zDI,zCJ,zFJ,zSE,zCA,zJ3,zSD,jp,qJ,qB,jl,jm,zHd,zIV,zKm,zKl,zKk,zKj,zJE,zJD,zJC,zJB,zJA,zJz,up_same,qi,qT,jf,qZ,qk,jk,qX,reduceIte,$xs,*])
theorem yB3:∀xs O R Z,zGX xs O R Z→yBb (zBw R) (zAr yAe xs) O:=by
 rintro _ O R Z ⟨b,n,rfl,hn,hn2,⟨c,cells,pos,rem,seed,cnt,hb,hc,hcb,hp,hr,hs,hs2⟩,k⟩
 have h0:zBy O b=some c:=zB6 hb
 refine zGn (fun g O'=>(∃x,g=[some (.ref b),some (.int n),x,none,none])∧∃pos rem seed cnt,O' b=some (zRI c pos rem seed cnt)∧O' c=some (.lst (cells.map D.int))∧0≤pos∧0≤rem∧0≤seed∧seed<2147483647∧∀a o,a≠b→O a=some o→O' a=some o) (fun N hN=>?_) ?_
 ·show zBK _ _ _ _ [some (.ref b),some (.int n),none,none,none] O
  simp! only[zAt,hb,hc,zRI,qd]
  by_cases h1:rem=0
  ·simp only[h1,qH,jk]
   by_cases h2:pos<(cells.length:Int)
   ·obtain⟨z,hz,_⟩:=zUH hp h2
    simp only[h2,qH,jk,hz]
    simp! only[zAt,hb,hc,zRI,up_ne hcb,zMA]
    refine⟨⟨by decide,by decide,by decide⟩,?_⟩
    by_cases h3:z≥10 ^ 18
    ·have h3':z≥10 ^ (18:Int).toNat:=h3
     simp only[h3',qH,jk]
     exact hN _ _ ⟨⟨_,rfl⟩,pos+1,z,seed,cnt,up_same,by rw[up_ne hcb];exact hc,by omega,by omega,hs,hs2,fun a o n e=>by rw[up_ne n];exact e⟩
    ·have h3':¬z≥10 ^ (18:Int).toNat:=h3
     simp only[h3',qO,qk,qX]
     refine⟨Mok.l (by omega) (by omega),by decide,Mok.r (by decide) (by decide),by decide,hN _ _ ⟨⟨_,rfl⟩,pos+1,rem,_,cnt,by rw[h1];exact up_same,by rw[up_ne hcb];exact hc,by omega,by omega,kS _ (by decide),kr _ (by decide),fun a o n e=>by rw[up_ne n];exact e⟩⟩
   ·simp only[h2,qO,qk,qX]
    exact hN _ _ ⟨⟨_,rfl⟩,pos,rem,seed,cnt,hb,hc,hp,hr,hs,hs2,fun a o _ e=>e⟩
  ·simp only[h1,qO,qk,qX]
   exact hN _ _ ⟨⟨_,rfl⟩,pos,rem,seed,cnt,hb,hc,hp,hr,hs,hs2,fun a o _ e=>e⟩
 ·rintro _ O' ⟨⟨x,rfl⟩,pos,rem,seed,cnt,hb,hc,hp,hr,hs,hs2,hk⟩
  simp! only[zAt,hb,hc,zRI,up_ne hcb,zMA]
  by_cases h1:rem > 0
  ·simp only[h1,qH,jk]
   have hm:=kr rem (show 0<n by omega)
   have hm0:=kS rem (show n≠0 by omega)
   refine⟨by omega,Dok.of (by omega) hn2,Fin.here (k _ _ hm0 hm ?_)⟩
   have q:=zO9 (pos:=pos) (rem:=rem/n) (seed:=seed) (cnt:=cnt) (zB6 hb) hc hcb hp (Int.ediv_nonneg (by omega) (by omega)) hs hs2
   exact⟨q.1,fun a o n e=>q.2 a o n (hk a o n e),(q.cell.trans ((zB6 hb).trans h0.symm))⟩
  ·simp only[h1,qO,qk,qX]
   refine⟨⟨by decide,by decide,by omega⟩,Mok.l (by decide) (by decide),Mok.l (by decide) (by decide),by decide,Dok.small (by decide) (by decide),by decide,Mok.r (by decide) (by decide),by omega,Fin.here (k _ _ (kS _ (by omega)) (kr _ (by omega)) ?_)⟩
   have q:=zO9 (pos:=pos) (rem:=rem) (seed:=(seed ^ (3:Int).toNat+40692*seed+7919*(cnt+1))%2147483647) (cnt:=cnt+1) (zB6 hb) hc hcb hp hr (kS _ (by decide)) (kr _ (by decide))
   exact⟨q.1,fun a o n e=>q.2 a o n (hk a o n e),(q.cell.trans ((zB6 hb).trans h0.symm))⟩
theorem Bag.put{O:Om}{b p:Addr}{o:DO}(h:Bag O b)(hn:p≠b)(hc:zBy O b≠some p):Bag (DL.up O p o) b:=by
 obtain⟨c,cells,pos,rem,seed,cnt,h1,h2,h3⟩:=h
 refine⟨c,cells,pos,rem,seed,cnt,by rw[up_ne (fun z=>hn z.symm)];exact h1,?_,h3⟩
 rw[up_ne (fun z=>hc (by rw[zB6 h1,z]))]
 exact h2
theorem Bag.free{O:Om}{b p:Addr}(h:Bag O b)(hp:O p=none):p≠b∧zBy O b≠some p:=by
 obtain⟨c,cells,pos,rem,seed,cnt,h1,h2,h3⟩:=h
 refine⟨fun z=>(by subst z;rw[hp] at h1;cases h1),fun z=>?_⟩
 rw[zB6 h1] at z
 cases z
 rw[hp] at h2
 cases h2
theorem Bst.put{b p:Addr}{O O':Om}{o:DO}(h:Bst b O O')(h0:Bag O b)(hp:O p=none):Bst b O (DL.up O' p o):=by
 obtain⟨n1,n2⟩:=h0.free hp
 refine⟨h.1.put n1 (by rw[h.cell];exact n2),fun a u hn e=>?_,by rw[zO4 n1,h.cell]⟩
 rw[up_ne (fun z=>by subst z;rw[hp] at e;cases e)]
 exact h.2 a u hn e
def Smi(i:Int):Prop:=i.natAbs.log2<60000000
theorem Smi.of{i:Int}{a:Nat}(h:i.natAbs<2 ^ a)(h0:0<a)(h1:a≤60000000):Smi i:=qQ (log2_lt h0 h) h1
theorem Smi.lit{i:Int}(h1:-1000000000000000000≤i)(h2:i≤1000000000000000000):Smi i:=Smi.of (a:=64) (by omega) (by decide) (by decide)
abbrev Pt:=Int×Int
def pD(p:Pt):D:=.tup [.int p.1,.int p.2]
def SmP(p:Pt):Prop:=Smi p.1∧Smi p.2
def ltP(p q:Pt):Bool:=decide (p.1*q.2<q.1*p.2)
def zNi(p q:Int):Pt:=(p/(Int.gcd p q:Int),q/(Int.gcd p q:Int))
def zVk:DSp:=fun xs O R _=>∃p q:Pt,xs=[pD p,pD q]∧SmP p∧SmP q∧R (.bl (ltP p q)) O
theorem zOA{p q:Int}(h:0<q):(0:Int)<(Int.gcd p q:Int):=by
 have:Int.gcd p q≠0:=by
  intro e
  have:=Int.gcd_eq_zero_iff.mp e
  omega
 omega
structure Low(p:Pt):Prop where
 pos:0<p.2
 co:Int.gcd p.1 p.2=1
theorem zOk{p q:Int}(h:0<q):Low (zNi p q):=by
 have g1:=zOA (p:=p) h
 have d1:(Int.gcd p q:Int) ∣ p:=Int.gcd_dvd_left ..
 have d2:(Int.gcd p q:Int) ∣ q:=Int.gcd_dvd_right ..
 refine⟨?_,?_⟩
 ·show 0<q/(Int.gcd p q:Int)
  exact Int.ediv_pos_of_pos_of_dvd h (by omega) d2
 ·show Int.gcd (p/(Int.gcd p q:Int)) (q/(Int.gcd p q:Int))=1
  rw[Int.gcd_ediv d1 d2]
  simp only[jx]
  exact Nat.div_self (by omega)
theorem zOi{p q:Int}(h:0<q):(zNi p q).1*q=p*(zNi p q).2:=by
 have d1:(Int.gcd p q:Int) ∣ p:=Int.gcd_dvd_left ..
 have d2:(Int.gcd p q:Int) ∣ q:=Int.gcd_dvd_right ..
 show p/(Int.gcd p q:Int)*q=p*(q/(Int.gcd p q:Int))
 obtain⟨a,ha⟩:=d1
 obtain⟨b,hb⟩:=d2
 have g1:=zOA (p:=p) h
 generalize (Int.gcd p q:Int)=g at*
 subst ha hb
 rw[Int.mul_ediv_cancel_left _ (by omega),Int.mul_ediv_cancel_left _ (by omega)]
 rw[Int.mul_comm g a,Int.mul_assoc]
theorem zSb{p q:Int}(h:0<q):(zNi p q).1.natAbs≤p.natAbs∧(zNi p q).2.natAbs≤q.natAbs:=
 ⟨Int.natAbs_ediv_le_natAbs _ _,Int.natAbs_ediv_le_natAbs _ _⟩
def PtN(n:Int)(p:Pt):Prop:=Low p∧-n≤p.1∧p.1≤n∧p.2≤n
theorem zOl{n:Int}(h0:0≤n)(h:n<2 ^ 62):n.natAbs.log2<9000:=qQ (log2_lt (a:=62) (by decide) (by omega)) (by decide)
theorem Bag.ne{O:Om}{b p:Addr}(h:Bag O b)(hp:O p=none):p≠b:=by
 obtain⟨c,cells,pos,rem,seed,cnt,e1,_⟩:=h
 exact fun z=>by subst z;rw[hp] at e1;cases e1
def zYw:DS:=
 (zBd (zMm (zAc (dCB zGJ (zAc (dSl (zAd 0) zAW (zCu (dC (.int 63)))) zAg)) (zAc (dC (.int 0)) (zAc (dC (.int 0)) (zAc (dOp zDL (dC (.int 1009)) (dOp zK5 (dC (.int 31)) (dCB zC4 (zAc (dSl (zAd 0) zAW (zCu (dC (.int 63)))) zAg)))) (zAc (dC (.int 0)) zAg)))))))
def zZ9:List Str:=["_law_script"]
def zQf:DSp:=fun xs O R _=>∃ns:List Int,xs=[.lst (ns.map D.int)]∧ns.length≤63∧∀b O',O b=none→Bag O' b→Sb O O'→R (.ref b) O'
theorem zRA{ns:List Int}{lo hi:Option Int}:∃ms:List Int,DL.cutD (ns.map D.int) lo hi=ms.map D.int∧ms.length≤ns.length:=by
 refine⟨(ns.drop (HT.sIx (ns.map D.int).length 0 lo)).take (HT.sIx (ns.map D.int).length (ns.map D.int).length hi-HT.sIx (ns.map D.int).length 0 lo),?_,?_⟩
 ·unfold DL.cutD
  rw[List.map_take,List.map_drop]
 ·rw[kg,jq];omega
theorem yBT:∀xs O R Z,zQf xs O R Z→zYw (zBw R) (zAr zZ9 xs) O:=by
 rintro _ O R Z ⟨ns,rfl,hl,k⟩
 show zYw (zBw R) [some (.lst (ns.map D.int))] O
 obtain⟨ms,e,he⟩:=zRA (ns:=ns) (lo:=none) (hi:=some 63)
 simp! only[zAt,zYw,e]
 intro p hp q hq
 have hq1:O q=none:=by
  cases h:O q with
  |none=>rfl
  |some o=>rw[Sb.new hp q o h] at hq;cases hq
 intro p2 hp2
 have n0:q≠p:=fun z=>by subst z;rw[up_same] at hq;cases hq
 have n1:p2≠q:=fun z=>by subst z;rw[up_same] at hp2;cases hp2
 simp! only[zAt,qd]
 refine⟨Mok.l (by decide) (by decide),fun b hb=>Fin.here (k b _ ?_ ?_ ?_)⟩
 ·have s:Sb O (up (up (up O p (.lst (ms.map D.int))) q (.lst (ms.map D.int))) p2 (.lst (ms.map D.int))):=((Sb.new hp).trans (Sb.new hq)).trans (Sb.new hp2)
  cases h:O b with
  |none=>rfl
  |some o=>rw[s b o h] at hb;cases hb
 ·have nq:q≠b:=fun z=>by subst z;rw[up_ne n1.symm,up_same] at hb;cases hb
  refine⟨q,ms,0,0,_,0,up_same,?_,nq,by decide,by decide,?_,?_⟩
  ·rw[up_ne nq,up_ne n1.symm,up_same]
  ·omega
  ·omega
 ·exact(((Sb.new hp).trans (Sb.new hq)).trans (Sb.new hp2)).trans (Sb.new hb)
theorem PtN.sm{n:Int}{p:Pt}(h:PtN n p)(hn:n≤1000000000):SmP p:=by
 obtain⟨lo,h1,h2,h3⟩:=h
 have:=lo.pos
 exact⟨Smi.lit (by omega) (by omega),Smi.lit (by omega) (by omega)⟩
theorem PtN.mono{n m:Int}{p:Pt}(h:PtN n p)(hn:n≤m):PtN m p:=⟨h.1,by have:=h.2.1;omega,by have:=h.2.2.1;omega,by have:=h.2.2.2;omega⟩
def zUP:D→Bool
 |.non=>true|.bl _=>true|.int _=>true|.str _=>true|_=>false
def Sm(O:Om):Nat→D→D→Prop
 |0,x,y=>x=y∧zUP x=true
 |n+1,x,y=>(x=y∧zUP x=true)∨(∃xs ys,lstOf O x=some xs∧lstOf O y=some ys∧xs.length=ys.length∧xs.length≤1000000∧∀(i:Nat) (a b:D),xs[i]?=some a→ys[i]?=some b→Sm O n a b)∨
   (∃xs ys,x=.tup xs∧y=.tup ys∧xs.length=ys.length∧xs.length≤1000000∧∀(i:Nat) (a b:D),xs[i]?=some a→ys[i]?=some b→Sm O n a b)
def zNr(sp_za:DSp):DS:=
 (zAt (zBK (zAo (dUn (zG7 .lst .tup) (zAd 1))) (zAt (zBK (zFI (zAo (dOp dNe (dUn (zIF .lst) (zAd 0)) (dUn (zIF .lst) (zAd 1)))) (zAo (dOp dNe (dUn (zIF .tup) (zAd 0)) (dUn (zIF .tup) (zAd 1))))) (zBd (dC (.bl false))) zAH)
 (zBd (zEp (dOp dEq (dCB zC4 (zAc (zAd 0) zAg)) (dCB zC4 (zAc (zAd 1) zAg))) (dCB (zK8 fun bs=>bs.all fun b=>b) (zAc (dLc (zGI (zAc (dCB zC4 (zAc (zAd 1) zAg)) zAg)) (gN 2) zFF (zAX sp_za [.p 0,.p 1] [] (zAc (dOp dIx (zAd 0) (zAd 2)) (zAc (dOp dIx (zAd 1) (zAd 2)) zAg)) zAg) [2]) zAg))))) zAH)
 (zAt (zBK (zFI (zAo (dOp zE9 (zAd 1) (dC .non))) (zAo (dOp zE9 (zAd 0) (dC .non)))) (zBd (zEp (dOp zE9 (zAd 0) (dC .non)) (dOp zE9 (zAd 1) (dC .non)))) zAH)
 (zAt (zBK (zFI (zAo (dOp dNe (dUn (zIF .bl) (zAd 1)) (dUn (zIF .bl) (zAd 0)))) (zAo (dOp dNe (dUn (zIF .int) (zAd 1)) (dUn (zIF .int) (zAd 0))))) (zBd (dC (.bl false))) zAH)
 (zBd (zEp (dOp dEq (dUn (zIF .str) (zAd 1)) (dUn (zIF .str) (zAd 0))) (dOp dEq (zAd 0) (zAd 1)))))))
def zXa:List Str:=["_law_found","_law_due","_law_k"]
def zHi(n:Nat):DSp:=fun xs O R _=>∃x y,xs=[x,y]∧Sm O n x y∧R (.bl true) O
def sp_za:DSp:=zHi 9
theorem zJo{O:Om}{R:D→Om→Prop}{x:D}{sp:DSp}(hs:zUP x=true)(h:R (.bl true) O):zNr sp (zBw R) [some x,some x,none] O:=by
 cases x<;>first|(cases hs;done)|skip
 all_goals (simp! only[zAt,zNr,qH,Bool.false_or,bne_self_eq_false,kG])
 all_goals exact Fin.here h
theorem zRC{u:DG}{tt:DT}{te:DE}{ok:Om→Prop}{g:Gm}{R:List D→Om→Prop}{xs:List D}{O:Om}(f:D→D)(hok:ok O)(hl:xs.length<16000000)
  (hs:∀(i:Nat) x,xs[i]?=some x→∀N:List D→Om→Prop,∀acc:List D,acc.length<sizeLine→N (acc++[f x]) O→u x g O fun g1 O1=>tt g1 O1 fun b O2=>if b=true then te g1 O2 fun y O3=>acc.length<sizeLine∧N (acc++[y]) O3 else N acc O2)
  (hd:R (xs.map f) O):zEn u tt te ok g R xs [] O:=by
 refine zUz (fun pre acc O'=>O'=O∧acc=pre.map f∧∃post,xs=pre++post) ⟨rfl,rfl,xs,rfl⟩ (fun _ _ _ h=>by rw[h.1];exact hok) ?_ ?_
 ·rintro pre x post acc _ N e ⟨rfl,rfl,_⟩ k
  have hi:xs[pre.length]?=some x:=by rw[e];simp
  have hlen:pre.length<16000000:=qQ (qf.mp hi).1 (kf hl)
  refine hs pre.length x hi N (pre.map f) (by rw[qd,sizeLine_eq];omega) (k _ _ ⟨rfl,by rw[qK];rfl,post,by rw[e,je];rfl⟩)
 ·rintro acc _ ⟨rfl,rfl,_⟩
  exact hd
theorem zTk{lo:Int}{n i:Nat}{x:D}(h:(rgD lo n)[i]?=some x):i<n∧x=.int (lo+(i:Nat)):=by
 unfold rgD at h
 have hi:i<n:=by simpa using (qf.mp h).1
 rw[qF,kl hi] at h
 cases h
 exact⟨hi,rfl⟩
theorem zN3{lo:Int}{n:Nat}:(rgD lo n).length=n:=by unfold rgD;simp
theorem zSJ{A:Type}{xs:List A}{i:Nat}{x:A}(h:xs[i]?=some x):atI xs (i:Int)=some x:=by
 have hi:=(qf.mp h)
 rw[zCL hi.1,hi.2]
theorem zOX{O:Om}{v w:D}{vs:List D}{i:Int}{Q:D→Om→Prop}(h1:seqOf O v=some vs)(h2:atI vs i=some w)(q:Q w O):dIx v (.int i) O Q:=by
 cases v<;>first|(cases h1;done)|skip
 all_goals (simp only[dIx,h1,h2];exact q)
theorem zGy{O:Om}{x:D}{xs:List D}(h:lstOf O x=some xs):x=.lst xs∨∃a,x=.ref a∧O a=some (.lst xs):=by
 cases x with
 |lst ys=>cases h;exact .inl rfl
 |ref a=>
  refine .inr ⟨a,rfl,?_⟩
  have h:(match O a with|some (.lst xs)=>some xs|_=>none)=some xs:=h
  cases e:O a with
  |none=>rw[e] at h;cases h
  |some o=>cases o<;>rw[e] at h<;>cases h<;>rfl
 |_=>cases h
theorem zEB{n:Nat}{O:Om}{x y:D}{xs ys:List D}(hx:seqOf O x=some xs)(hy:seqOf O y=some ys)(hl:xs.length=ys.length)(hl2:xs.length≤1000000)(hs:∀(i:Nat) (a b:D),xs[i]?=some a→ys[i]?=some b→Sm O n a b)
  (hlen:∀R,R (.int (ys.length:Nat)) O→zC4 [y] O R) {R:D→Om→Prop}(k:∀p,O p=none→R (.ref p) (up O p (.lst ((List.replicate ys.length true).map D.bl)))):
  dLc (zGI (zAc (dCB zC4 (zAc (zAd 1) zAg)) zAg)) (gN 2) zFF (zAX (zHi n) [.p 0,.p 1] [] (zAc (dOp dIx (zAd 0) (zAd 2)) (zAc (dOp dIx (zAd 1) (zAd 2)) zAg)) zAg) [2] [some x,some y,none] O R:=by
 simp only[dLc,zGI,dCB,zAc,zAg,zAd,qB,qJ]
 refine hlen _ ?_
 refine⟨by omega,by omega,?_⟩
 have e:((ys.length:Nat):Int).toNat=ys.length:=by omega
 rw[e]
 refine zRC (fun _=>.bl true) True.intro (by rw[zN3];omega) (fun i z hz N acc ha hN=>?_) ?_
 ·obtain⟨hi,rfl⟩:=zTk hz
  have ha1:xs[i]?=some xs[i]:=qg (by omega)
  have hb1:ys[i]?=some ys[i]:=qg hi
  simp only[gN,zCM,zFF,zAX,zAc,zAg,dOp,zAd,jm,jl,qB,qJ,jk,Int.zero_add]
  refine zOX hx (zSJ ha1) ?_
  refine zOX hy (zSJ hb1) ?_
  exact⟨_,_,rfl,hs i _ _ ha1 hb1,ha,hN⟩
 ·intro p hp
  have e2:(rgD 0 ys.length).map (fun _=>D.bl true)=(List.replicate ys.length true).map D.bl:=by
   rw[List.map_const',zN3,List.map_replicate]
  rw[e2]
  exact k p hp
theorem zK3:∀xs O R Z,zHi 0 xs O R Z→zNr zST (zBw R) (zAr zXa xs) O:=by
 rintro _ O R Z ⟨x,y,rfl,⟨rfl,hs⟩,r⟩
 exact zJo hs r
theorem yCe:∀n xs O R Z,zHi (n+1) xs O R Z→zNr (zHi n) (zBw R) (zAr zXa xs) O:=by
 rintro n _ O R Z ⟨x,y,rfl,h,r⟩
 show zNr _ (zBw R) [some x,some y,none] O
 have fin:∀(m:Nat) (p:Addr),O p=none→(match DL.blsOf ((List.replicate m true).map D.bl) with|some bs=>Fin R (.bl (bs.all fun b=>b)) (up O p (.lst ((List.replicate m true).map D.bl)))|none=>False):=fun m p hp=>by
  rw[zCw]
  have e:(List.replicate m true).all (fun b=>b)=true:=by simp
  show Fin R (.bl ((List.replicate m true).all fun b=>b)) _
  rw[e]
  exact Sb.fin (Sb.new hp) r
 rcases h with⟨rfl,hs⟩|⟨xs,ys,hx,hy,hl,hl2,hs⟩|⟨xs,ys,rfl,rfl,hl,hl2,hs⟩
 ·exact zJo hs r
 ·rcases zGy hx with rfl|⟨a,rfl,ha⟩<;>rcases zGy hy with rfl|⟨b,rfl,hb⟩
  ·simp! only[zAt,zNr,hl,qH,kG,kX,kY]
   exact zEB (x:=.lst xs) (y:=.lst ys) (n:=n) rfl rfl hl hl2 hs (fun _ q=>q) fun p hp=>by simp! only[zAt,up_same];exact fin _ p hp
  ·simp! only[zAt,zNr,hl,qH,kG,kX,kY,hb]
   exact zEB (x:=.lst xs) (y:=.ref b) (n:=n) rfl (by simp! only[zAt,hb]) hl hl2 hs (fun _ q=>by simp! only[zAt,hb];exact q) fun p hp=>by simp! only[zAt,up_same];exact fin _ p hp
  ·simp! only[zAt,zNr,hl,qH,kG,kX,kY,ha]
   exact zEB (x:=.ref a) (y:=.lst ys) (n:=n) (by simp! only[zAt,ha]) rfl hl hl2 hs (fun _ q=>q) fun p hp=>by simp! only[zAt,up_same];exact fin _ p hp
  ·simp! only[zAt,zNr,hl,qH,kG,kX,kY,ha,hb]
   exact zEB (x:=.ref a) (y:=.ref b) (n:=n) (by simp! only[zAt,ha]) (by simp! only[zAt,hb]) hl hl2 hs (fun _ q=>by simp! only[zAt,hb];exact q) fun p hp=>by simp! only[zAt,up_same];exact fin _ p hp
 ·simp! only[zAt,zNr,hl,qH,kG,kX,kY]
  exact zEB (x:=.tup xs) (y:=.tup ys) (n:=n) rfl rfl hl hl2 hs (fun _ q=>q) fun p hp=>by simp! only[zAt,up_same];exact fin _ p hp
theorem Sm.sc{O:Om}{n:Nat}{x:D}(h:zUP x=true):Sm O n x x:=by
 cases n with
 |zero=>exact⟨rfl,h⟩
 |succ n=>exact .inl ⟨rfl,h⟩
theorem Sm.own{O:Om}{n:Nat}{p q:Addr}{xs ys:List D}(hp:O p=some (.lst xs))(hq:O q=some (.lst ys))(hl:xs.length=ys.length)(hl2:xs.length≤1000000)(h:∀(i:Nat) (a b:D),xs[i]?=some a→ys[i]?=some b→Sm O n a b):Sm O (n+1) (.ref p) (.ref q):=
 .inr (.inl ⟨xs,ys,by simp only[lstOf,hp],by simp only[lstOf,hq],hl,hl2,h⟩)
theorem Sm.tup{O:Om}{n:Nat}{xs ys:List D}(hl:xs.length=ys.length)(hl2:xs.length≤1000000)(h:∀(i:Nat) (a b:D),xs[i]?=some a→ys[i]?=some b→Sm O n a b):Sm O (n+1) (.tup xs) (.tup ys):=
 .inr (.inr ⟨xs,ys,rfl,rfl,hl,hl2,h⟩)
inductive SmAll (O:Om) (n:Nat):List D→List D→Prop
 |nil:SmAll O n [] []
 |cons {x y:D}{xs ys:List D}:Sm O n x y→SmAll O n xs ys→SmAll O n (x::xs) (y::ys)
theorem SmAll.len{O:Om}{n:Nat}{xs ys:List D}(h:SmAll O n xs ys):xs.length=ys.length:=by
 induction h with
 |nil=>rfl
 |cons _ _ ih=>rw[qi,qi,ih]
theorem SmAll.get{O:Om}{n:Nat}{xs ys:List D}(h:SmAll O n xs ys):∀(i:Nat) (a b:D),xs[i]?=some a→ys[i]?=some b→Sm O n a b:=by
 induction h with
 |nil=>intro i a b e;simp at e
 |cons h1 h2 ih=>
  intro i a b ha hb
  cases i with
  |zero=>simp at ha hb;subst ha hb;exact h1
  |succ i=>exact ih i a b (by simpa using ha) (by simpa using hb)
theorem SmAll.own{O:Om}{n:Nat}{p q:Addr}{xs ys:List D}(hp:O p=some (.lst xs))(hq:O q=some (.lst ys))(hl2:xs.length≤1000000)(h:SmAll O n xs ys):Sm O (n+1) (.ref p) (.ref q):=Sm.own hp hq h.len hl2 h.get
theorem SmAll.tup{O:Om}{n:Nat}{xs ys:List D}(h:SmAll O n xs ys)(hl2:xs.length≤1000000):Sm O (n+1) (.tup xs) (.tup ys):=Sm.tup h.len hl2 h.get
theorem SmAll.map{A:Type}{O:Om}{n:Nat}{f g:A→D}:∀{as:List A},(∀a∈as,Sm O n (f a) (g a))→SmAll O n (as.map f) (as.map g)
 |[],_=>.nil
 |a::as,h=>.cons (h a (by simp)) (SmAll.map (as:=as) fun b hb=>h b (by simp[hb]))
theorem Sm.pt{O:Om}{n:Nat}{p:Pt}:Sm O (n+1) (pD p) (pD p):=SmAll.tup (.cons (Sm.sc rfl) (.cons (Sm.sc rfl) .nil)) (by simp)
theorem zTb{O:Om}{R:D→Om→Prop}{Z:XD}{x y:D}(h:Sm O 9 x y)(r:R (.bl true) O):sp_za [x,y] O R Z:=⟨x,y,rfl,h,r⟩
def ptR(x:Rat):Pt:=(x.num,(x.den:Int))
def pR(x:Rat):D:=pD (ptR x)
theorem Low.rat{p:Pt}(h:Low p):p=ptR (Rat.divInt p.1 p.2):=by
 obtain⟨n,d⟩:=p
 have hd:0<d:=h.pos
 have hc:Int.gcd n d=1:=h.co
 obtain⟨m,rfl⟩:=ku (Int.le_of_lt hd)
 have hm:m≠0:=by omega
 have e:=Rat.mk_eq_divInt (num:=n) (den:=m) (nz:=hm) (c:=hc)
 show(n,(m:Int))=ptR (Rat.divInt n (m:Int))
 rw[←e]
 rfl
theorem zLV{p q:Int}(h:0<q):zNi p q=ptR (Rat.divInt p q):=by
 rw[(zOk (p:=p) h).rat]
 congr 1
 have hl:=(zOk (p:=p) h).pos
 rw[Rat.divInt_eq_divInt_iff (by omega) (by omega)]
 exact zOi h
theorem zN7(x:Rat):Rat.divInt (ptR x).1 (ptR x).2=x:=Rat.num_divInt_den x
theorem zMi(x:Rat):((x.den:Int):Rat)≠0:=by
 have:=x.den_pos
 intro h
 have h2:((x.den:Int):Rat)=((0:Int):Rat):=h
 rw[Rat.intCast_inj] at h2
 omega
theorem zIl(x:Rat):(x.num:Rat)/((x.den:Int):Rat)=x:=by
 have:=Rat.num_divInt_den x
 rw[jL] at this
 exact this
theorem zUJ(x y:Rat):Rat.divInt (x.num*y.den+y.num*x.den) (x.den*y.den)=x+y:=by
 have hx:=zMi x
 have hy:=zMi y
 have ex:=zIl x
 have ey:=zIl y
 rw[jL,kQ,ju,ju,ju]
 generalize ((x.den:Int):Rat)=a at*
 generalize ((y.den:Int):Rat)=b at*
 generalize (x.num:Rat)=n at*
 generalize (y.num:Rat)=m at*
 subst ex ey
 grind
theorem zTK(x y:Rat):Rat.divInt (x.num*y.num) (x.den*y.den)=x*y:=by
 have hx:=zMi x
 have hy:=zMi y
 have ex:=zIl x
 have ey:=zIl y
 rw[jL,ju,ju]
 generalize ((x.den:Int):Rat)=a at*
 generalize ((y.den:Int):Rat)=b at*
 generalize (x.num:Rat)=n at*
 generalize (y.num:Rat)=m at*
 subst ex ey
 grind
theorem zSa(x y:Rat):ltP (ptR x) (ptR y)=decide (x<y):=by
 unfold ltP ptR
 rw[jw]
 exact(Rat.lt_iff x y).symm
theorem zR7{x y:Rat}(h:ptR x=ptR y):x=y:=by
 rw[←zN7 x,←zN7 y,h]
def Bz(n:Nat)(x:Rat):Prop:=x.num.natAbs<2 ^ n∧x.den<2 ^ n
theorem Bz.mono{m n:Nat}{x:Rat}(h:Bz m x)(k:m≤n):Bz n x:=⟨qQ h.1 (qY (by decide) k),qQ h.2 (qY (by decide) k)⟩
theorem Bz.sm{n:Nat}{x:Rat}(h:Bz n x)(h0:0<n)(k:n≤60000000):SmP (ptR x):=⟨Smi.of (a:=n) h.1 h0 k,Smi.of (a:=n) (by show(x.den:Int).natAbs<_;simpa using h.2) h0 k⟩
theorem zHw{a b m n:Nat}(ha:a<2 ^ m)(hb:b<2 ^ n):a*b<2 ^ (m+n):=by
 rw[Nat.pow_add]
 exact Nat.mul_lt_mul'' ha hb
theorem Bz.divInt{n:Nat}{p q:Int}(hq:0<q)(h1:p.natAbs<2 ^ n)(h2:q.natAbs<2 ^ n):Bz n (Rat.divInt p q):=by
 have e:=zLV (p:=p) hq
 have l:=zSb (p:=p) hq
 rw[e] at l
 exact⟨jy l.1 h1,jy (by simpa [ptR] using l.2) h2⟩
theorem zF8(x:Rat):(0:Int)<(x.den:Int):=by have:=x.den_pos;omega
theorem Bz.add{m n:Nat}{x y:Rat}(hx:Bz m x)(hy:Bz n y):Bz (m+n+1) (x+y):=by
 rw[←zUJ]
 refine Bz.divInt (Int.mul_pos (zF8 x) (zF8 y)) ?_ ?_
 ·have a:=zHw hx.1 hy.2
  have b:=zHw hx.2 hy.1
  have c:=Int.natAbs_add_le (x.num*y.den) (y.num*x.den)
  rw[jF,jF] at c
  simp only[jx] at c
  rw[Nat.mul_comm y.num.natAbs] at c
  rw[Nat.pow_succ]
  omega
 ·have a:=zHw hx.2 hy.2
  rw[jF]
  simp only[jx]
  rw[Nat.pow_succ]
  omega
theorem Bz.neg{m:Nat}{x:Rat}(hx:Bz m x):Bz m (-x):=⟨by rw[Rat.neg_num,Int.natAbs_neg];exact hx.1,by rw[Rat.neg_den];exact hx.2⟩
theorem Bz.sub{m n:Nat}{x y:Rat}(hx:Bz m x)(hy:Bz n y):Bz (m+n+1) (x-y):=by
 rw[Rat.sub_eq_add_neg]
 exact hx.add hy.neg
theorem Bz.mul{m n:Nat}{x y:Rat}(hx:Bz m x)(hy:Bz n y):Bz (m+n) (x*y):=by
 rw[←zTK]
 refine Bz.divInt (Int.mul_pos (zF8 x) (zF8 y)) ?_ ?_
 ·rw[jF];exact zHw hx.1 hy.1
 ·rw[jF];simp only[jx];exact zHw hx.2 hy.2
theorem Bz.den{m n:Nat}{x y:Rat}(hx:Bz m x)(hy:Bz n y)(h:m+n≤9000)(h0:0<m):(((x.den:Int)*(y.den:Int))).natAbs.log2<9000:=by
 rw[jF]
 simp only[jx]
 have:=zHw hx.2 hy.2
 exact qQ ((Nat.log2_lt (by have:=x.den_pos;have:=y.den_pos;exact Nat.ne_of_gt (Nat.mul_pos this ‹0<x.den›) |> fun z=>by rw[Nat.mul_comm];exact z)).mpr this) h
def zVj:DSp:=fun xs O R _=>∃p q:Int,xs=[.int p,.int q]∧0<q∧q.natAbs.log2<9000∧R (pR (Rat.divInt p q)) O
def Two(x y:Rat):Prop:=SmP (ptR x)∧SmP (ptR y)∧((x.den:Int)*(y.den:Int)).natAbs.log2<9000
theorem Two.of{m n:Nat}{x y:Rat}(hx:Bz m x)(hy:Bz n y)(h:m+n≤9000:=by omega)(h0:0<m:=by omega)(h1:0<n:=by omega):Two x y:=⟨hx.sm h0 (by omega),hy.sm h1 (by omega),Bz.den hx hy h h0⟩
def zVi:DSp:=fun xs O R _=>∃x y:Rat,xs=[pR x,pR y]∧Two x y∧R (pR (x+y)) O
def zVh:DSp:=fun xs O R _=>∃x y:Rat,xs=[pR x,pR y]∧Two x y∧R (pR (x-y)) O
def zVg:DSp:=fun xs O R _=>∃x y:Rat,xs=[pR x,pR y]∧Two x y∧R (pR (x*y)) O
def zVf:DSp:=fun xs O R _=>∃x y:Rat,xs=[pR x,pR y]∧y≠0∧SmP (ptR x)∧SmP (ptR y)∧((x.den:Int)*y.num).natAbs.log2<9000∧R (pR (x/y)) O
def zVe:DSp:=fun xs O R _=>∃x:Rat,xs=[pR x]∧(x.den:Int).natAbs.log2<9000∧R (.int (x.num/x.den)) O
def zVd:DSp:=fun xs O R _=>∃x:Rat,xs=[pR x]∧(x.den:Int).natAbs.log2<9000∧R (.int (0-(0-x.num)/x.den)) O
def zYR:List Rat→Rat
 |[]=>0
 |x::r=>x+zYR r
theorem Bz.zero{m:Nat}(h:0<m):Bz m 0:=by
 have:2 ^ 1≤2 ^ m:=qY (by decide) h
 exact⟨by show 0<_;omega,by show 1<_;omega⟩
theorem zIo{u:DG}{tb:DS}{ok:Om→Prop}{F:DEnds}{xs:List D}{g:Gm}{O:Om}(I:Nat→Gm→Om→Prop)(h0:I 0 g O)(hok:∀i g O,I i g O→ok O)
  (hs:∀i x g O (N:Gm→Om→Prop),xs[i]?=some x→I i g O→(∀g' O',I (i+1) g' O'→N g' O')→u x g O fun g1 O1=>tb {F with nx:=N,ct:=N,bk:=F.nx} g1 O1)
  (hd:∀g O,I xs.length g O→F.nx g O):zEP u tb ok F xs g O:=
 zTS (fun pre=>I pre.length) h0 (fun pre=>hok pre.length) (fun pre x post g O N e h k=>hs pre.length x g O N (by rw[e];simp) h fun g' O' h'=>k g' O' (by rw[qL];exact h')) hd
theorem zUe{l:List D}{i:Nat}{x:D}(h:(enD l)[i]?=some x):∃y,l[i]?=some y∧x=.tup [.int (i:Nat),y]:=by
 unfold enD at h
 rw[qF,List.getElem?_zipIdx] at h
 cases e:l[i]? with
 |none=>rw[e] at h;cases h
 |some y=>rw[e] at h;simp at h;exact⟨y,rfl,h.symm⟩
theorem zUd{l:List D}:(enD l).length=l.length:=by unfold enD;simp
theorem pR_iff{x y:Rat}:pR x=pR y↔x=y:=⟨fun h=>by
 have e:ptR x=ptR y:=by
  unfold pR pD at h
  injection h with h
  injection h with h1 h2
  injection h2 with h2 h3
  injection h1 with h1
  injection h2 with h2
  exact Prod.ext h1 h2
 exact zR7 e,fun h=>by rw[h]⟩
theorem pRs{x y a b:Rat}:[pR x,pR y]=[pR a,pR b]↔x=a∧y=b:=by
 rw[List.cons.injEq,List.cons.injEq,pR_iff,pR_iff]
 simp
section
variable {x y:Rat}{O:Om}{R:D→Om→Prop}{Z:XD}
theorem zNo{f:Rat→Rat→Rat}:(∃a b:Rat,[pR x,pR y]=[pR a,pR b]∧Two a b∧R (pR (f a b)) O)=(Two x y∧R (pR (f x y)) O):=by
 refine propext ⟨?_,fun h=>⟨x,y,rfl,h⟩⟩
 rintro⟨a,b,e,h⟩
 obtain⟨rfl,rfl⟩:=pRs.mp e
 exact h
theorem zIc:zVi [pR x,pR y] O R Z=(Two x y∧R (pR (x+y)) O):=zNo (f:=fun a b=>a+b)
theorem zIq:zVh [pR x,pR y] O R Z=(Two x y∧R (pR (x-y)) O):=zNo (f:=fun a b=>a-b)
theorem zFY:zVg [pR x,pR y] O R Z=(Two x y∧R (pR (x*y)) O):=zNo (f:=fun a b=>a*b)
theorem zIf:zVf [pR x,pR y] O R Z=((y≠0∧SmP (ptR x)∧SmP (ptR y)∧((x.den:Int)*y.num).natAbs.log2<9000)∧R (pR (x/y)) O):=by
 refine propext ⟨?_,fun h=>⟨x,y,rfl,h.1.1,h.1.2.1,h.1.2.2.1,h.1.2.2.2,h.2⟩⟩
 rintro⟨a,b,e,h1,h2,h3,h4,h5⟩
 obtain⟨rfl,rfl⟩:=pRs.mp e
 exact⟨⟨h1,h2,h3,h4⟩,h5⟩
theorem zF7:zVe [pR x] O R Z=((x.den:Int).natAbs.log2<9000∧R (.int (x.num/x.den)) O):=by
 refine propext ⟨?_,fun h=>⟨x,rfl,h⟩⟩
 rintro⟨a,e,h⟩
 obtain rfl:=pR_iff.mp (kN e).1
 exact h
theorem zII:zVd [pR x] O R Z=((x.den:Int).natAbs.log2<9000∧R (.int (0-(0-x.num)/x.den)) O):=by
 refine propext ⟨?_,fun h=>⟨x,rfl,h⟩⟩
 rintro⟨a,e,h⟩
 obtain rfl:=pR_iff.mp (kN e).1
 exact h
theorem zIe{p q:Int}:zVj [.int p,.int q] O R Z=((0<q∧q.natAbs.log2<9000)∧R (pR (Rat.divInt p q)) O):=by
 refine propext ⟨?_,fun h=>⟨p,q,rfl,h.1.1,h.1.2,h.2⟩⟩
 rintro⟨a,b,e,h1,h2,h3⟩
 cases e
 exact⟨⟨h1,h2⟩,h3⟩
theorem zF9:zVk [pR x,pR y] O R Z=((SmP (ptR x)∧SmP (ptR y))∧R (.bl (decide (x<y))) O):=by
 refine propext ⟨?_,fun h=>⟨ptR x,ptR y,rfl,h.1.1,h.1.2,by rw[zSa];exact h.2⟩⟩
 rintro⟨p,q,e,h1,h2,h3⟩
 have e1:p=ptR x∧q=ptR y:=by
  unfold pR pD at e
  injection e with e1 e2
  injection e2 with e2 _
  injection e1 with e1
  injection e2 with e2
  injection e1 with a1 a2
  injection a2 with a2 _
  injection e2 with b1 b2
  injection b2 with b2 _
  injection a1 with a1
  injection a2 with a2
  injection b1 with b1
  injection b2 with b2
  exact⟨Prod.ext a1.symm a2.symm,Prod.ext b1.symm b2.symm⟩
 obtain⟨rfl,rfl⟩:=e1
 exact⟨⟨h1,h2⟩,by rw[←zSa];exact h3⟩
theorem zMg{i j:Int}:dEq (.int i) (.int j) O R=R (.bl (decide (i=j))) O:=rfl
theorem zLR{i j:Int}:dNe (.int i) (.int j) O R=R (.bl (!decide (i=j))) O:=rfl
theorem zMf{i j:Str}:dEq (.str i) (.str j) O R=R (.bl (decide (i=j))) O:=rfl
theorem zLQ{i j:Str}:dNe (.str i) (.str j) O R=R (.bl (!decide (i=j))) O:=rfl
theorem zRs{i j:Bool}:dEq (.bl i) (.bl j) O R=R (.bl (decide (i=j))) O:=rfl
theorem zQ9{i j:Bool}:dNe (.bl i) (.bl j) O R=R (.bl (!decide (i=j))) O:=rfl
theorem zLE:seqOf O (pR x)=some [.int x.num,.int x.den]:=rfl
theorem zL2:dIx (pR x) (.int 0) O R=R (.int x.num) O:=by
 show(match atI [D.int x.num,.int x.den] 0 with|some z=>R z O|none=>False)=_
 rw[zHd]
theorem zL1:dIx (pR x) (.int 1) O R=R (.int x.den) O:=by
 show(match atI [D.int x.num,.int x.den] 1 with|some z=>R z O|none=>False)=_
 rw[zIV]
theorem zLZ{xs:List D}{i:Int}:dIx (.tup xs) (.int i) O R=match atI xs i with|some z=>R z O|none=>False:=rfl
theorem zL3{xs:List D}{i:Int}:dIx (.lst xs) (.int i) O R=match atI xs i with|some z=>R z O|none=>False:=rfl
theorem zL0{a:Addr}{i:Int}:dIx (.ref a) (.int i) O R=match seqOf O (.ref a) with|some xs=>(match atI xs i with|some z=>R z O|none=>False)|none=>False:=rfl
theorem zIr{xs:List D}:zC4 [.tup xs] O R=R (.int (xs.length:Nat)) O:=rfl
theorem zIt{xs:List D}:zC4 [.lst xs] O R=R (.int (xs.length:Nat)) O:=rfl
theorem zIs{a:Addr}:zC4 [.ref a] O R=match O a with|some (.lst xs)=>R (.int (xs.length:Nat)) O|some (.dK kvs)=>R (.int (kvs.length:Nat)) O|_=>False:=rfl
theorem zU4:Vw O (pR x) (.tuple [.int x.num,.int x.den]):=.tup (.cons (.int _) (.cons (.int _) .nil))
theorem zRQ{d:PyData}(h:Vw O (pR x) d):d=.tuple [.int x.num,.int x.den]:=by
 cases h with
 |tup h=>cases h with
  |cons h1 h2=>cases h1;cases h2 with
   |cons h3 h4=>cases h3;cases h4;rfl
theorem zSl:PyData.eqv (.tuple [.int x.num,.int x.den]) (.tuple [.int y.num,.int y.den])=decide (x=y):=by
 have e:PyData.eqv (.tuple [.int x.num,.int x.den]) (.tuple [.int y.num,.int y.den])=(decide (x.num=y.num)&&(decide ((x.den:Int)=(y.den:Int))&&true)):=rfl
 rw[e,Bool.and_true,jo]
 simp only[qE,qp]
 exact⟨fun h=>zR7 (Prod.ext h.1 h.2),fun h=>by rw[h];exact⟨rfl,rfl⟩⟩
theorem zJd:SeqAt.shaped (.tuple [.int x.num,.int x.den])=true:=rfl
theorem zSn{n:Bool}:zPp n (pR x) (pR y) O R=R (.bl (decide (x=y) !=n)) O:=by
 refine propext ⟨?_,fun h=>⟨_,_,zU4,zU4,zJd,zJd,by rw[zSl];exact h⟩⟩
 rintro⟨d,e,h1,h2,h3,h4,h5⟩
 cases zRQ h1
 cases zRQ h2
 rw[zSl] at h5
 exact h5
theorem zRr:dEq (pR x) (pR y) O R=R (.bl (decide (x=y))) O:=by
 show zPp false (pR x) (pR y) O R=_
 rw[zSn,Bool.bne_false]
theorem zQ8:dNe (pR x) (pR y) O R=R (.bl (!decide (x=y))) O:=by
 show zPp true (pR x) (pR y) O R=_
 rw[zSn,Bool.bne_true]
end
theorem zIG{A:Int}{xs:List D}(h:0≤A):DL.cutD xs (some A) none=xs.drop A.toNat:=by
 obtain⟨n,rfl⟩:=ku h
 unfold DL.cutD
 rw[HT.sIx_nat]
 show((xs.drop (min n xs.length)).take (xs.length-min n xs.length))=xs.drop n
 rw[js (by rw[jq];omega)]
 by_cases hn:n≤xs.length
 ·rw[kT hn]
 ·rw[Nat.min_eq_right (by omega),List.drop_length,List.drop_eq_nil_of_le (by omega)]
theorem zSH{A:Int}{xs:List D}(h:0≤A):DL.cutD xs none (some A)=xs.take A.toNat:=by
 obtain⟨n,rfl⟩:=ku h
 unfold DL.cutD
 rw[HT.sIx_nat]
 show((xs.drop 0).take (min n xs.length-0))=xs.take n
 rw[ky,kA]
 by_cases hn:n≤xs.length
 ·rw[kT hn]
 ·rw[Nat.min_eq_right (by omega),js (by omega),js (by omega)]
def Seen(O:Om)(n:Nat)(x:D)(d:PyData):Prop:=Vw O x d∧d.canLay0=true∧d.depth≤n
def SeenAll(O:Om)(n:Nat)(xs:List D)(ds:List PyData):Prop:=Vws O xs ds∧PyData.canLayAll0 ds=true∧PyData.depthAll ds≤n
theorem Seen.int{O:Om}{n:Nat}{i:Int}:Seen O n (.int i) (.int i):=⟨.int i,rfl,qR _⟩
theorem Seen.str{O:Om}{n:Nat}{i:Str}(h:(PyData.str i).canLay0=true):Seen O n (.str i) (.str i):=⟨.str i,h,qR _⟩
theorem Seen.bl{O:Om}{n:Nat}{i:Bool}:Seen O n (.bl i) (.bool i):=⟨.bl i,rfl,qR _⟩
theorem Seen.non{O:Om}{n:Nat}:Seen O n .non .none:=⟨.non,rfl,qR _⟩
theorem SeenAll.nil{O:Om}{n:Nat}:SeenAll O n [] []:=⟨.nil,rfl,qR _⟩
theorem SeenAll.cons{O:Om}{n:Nat}{x:D}{xs:List D}{d:PyData}{ds:List PyData}(h:Seen O n x d)(r:SeenAll O n xs ds):SeenAll O n (x::xs) (d::ds):=
 ⟨.cons h.1 r.1,by rw[PyData.canLayAll0,h.2.1,r.2.1];rfl,by rw[PyData.depthAll];exact Nat.max_le.mpr ⟨h.2.2,r.2.2⟩⟩
theorem SeenAll.map{A:Type}{O:Om}{n:Nat}{f:A→D}{g:A→PyData}:∀{as:List A},(∀a∈as,Seen O n (f a) (g a))→SeenAll O n (as.map f) (as.map g)
 |[],_=>.nil
 |a::as,h=>.cons (h a (by simp)) (SeenAll.map (as:=as) fun b hb=>h b (by simp[hb]))
theorem SeenAll.tup{O:Om}{n:Nat}{xs:List D}{ds:List PyData}(h:SeenAll O n xs ds):Seen O (n+1) (.tup xs) (.tuple ds):=⟨.tup h.1,by rw[PyData.canLay0];exact h.2.1,by rw[PyData.depth];exact kK h.2.2⟩
theorem SeenAll.lst{O:Om}{n:Nat}{xs:List D}{ds:List PyData}(h:SeenAll O n xs ds):Seen O (n+1) (.lst xs) (.list ds):=⟨.lst h.1,by rw[PyData.canLay0];exact h.2.1,by rw[PyData.depth];exact kK h.2.2⟩
theorem SeenAll.ref{O:Om}{n:Nat}{a:Addr}{xs:List D}{ds:List PyData}(h:SeenAll O n xs ds)(e:O a=some (.lst xs)):Seen O (n+1) (.ref a) (.list ds):=⟨.ref e h.1,by rw[PyData.canLay0];exact h.2.1,by rw[PyData.depth];exact kK h.2.2⟩
theorem Seen.mono{O:Om}{m n:Nat}{x:D}{d:PyData}(h:Seen O m x d)(k:m≤n):Seen O n x d:=⟨h.1,h.2.1,qo h.2.2 k⟩
theorem Seen.ok{O:Om}{n:Nat}{x:D}{d:PyData}(h:Seen O n x d)(k:n≤64):SeqAt.shaped d=true:=by
 unfold SeqAt.shaped
 rw[h.2.1,kO,qp]
 exact qo h.2.2 k
theorem zSY{O:Om}{a:Addr}{xs:List D}(h:O a=some (.lst xs)):seqOf O (.ref a)=some xs:=by simp only[seqOf,h]
theorem zPb{A:Type}{f:A→D}{xs:List A}{i:Nat}{d:A}(h:i<xs.length):atI (xs.map f) (i:Int)=some (f (xs.getD i d)):=by
 rw[zCL (by simpa using h)]
 simp[qw,h]
theorem zDK{A:Type}{xs:List A}{i:Nat}{d:A}(h:i<xs.length):xs.getD i d∈xs:=by
 rw[qw,qg h]
 exact kJ h
theorem Sb.lst{O O':Om}{x:D}{xs:List D}(s:Sb O O')(h:lstOf O x=some xs):lstOf O' x=some xs:=by
 cases x with
 |lst ys=>exact h
 |ref a=>
  have h:(match O a with|some (.lst xs)=>some xs|_=>none)=some xs:=h
  cases e:O a with
  |none=>rw[e] at h;cases h
  |some o=>
   cases o<;>rw[e] at h<;>cases h
   show(match O' a with|some (.lst xs)=>some xs|_=>none)=some _
   rw[s a _ e]
 |_=>cases h
local macro_rules | `(tactic|simpa! only[$xs,*])=>`(tactic|simp only[zBK,zDS,zFI,zBZ,zAo,zFG,zRu,zEp,zSx,zJR,dIf,dOp,dUn,zAd,dC,dI,dIc,zDL,zPo,zK5,dFd,zK6,zOT,zSz,dLt,dLe,dGt,dGe,zE9,zFU,DL.isNon,zL2,zL1,zLZ,zL3,zL0,dSl,zCu,zAW,dCB,zIr,zIt,zIs,zPq,zGJ,zDp,zK8,zSv,zIF,zG7,zK2,isC,seqOf,lstOf,zAc,zAg,zD2,zMm,zBd,zJO,zAH,zCo,zEo,gN,zBP,zAp,gT,zEj,zEl,zOV,zSG,zFL,zFK,zAX,zMg,zMf,zRs,zLR,zLQ,zQ9,zRr,zQ8,zIc,zIq,zFY,zIf,zF7,zII,zIe,zF9,zLE,zCC,zFr,zFs,zFt,zFP,zG8,dLM,zNa,isL,zB5,zCv,zOU,zFH,zJM,zOS,zSC,dJs,zJW,zJU,zDG,zFV,zBX,zDj,zEm,DL.keyOf,zEN,zJ5,zCI,zBY,zBA,zJN,zEX,zDH,zCH,zCf,zJV,zJT,zIY,zOW,zJS,zJ1,zJ0,zM8,zAJ,zCG,zJL,zJP,zJQ,zGY,zQV,zCe,zJ2,zFa,zFM,zFN,zSw,zSB,zJ6,zDI,zCJ,zFJ,zSE,zCA,zJ3,zSD,jp,qJ,qB,jl,jm,zHd,zIV,zKm,zKl,zKk,zKj,zJE,zJD,zJC,zJB,zJA,zJz,up_same,qi,qT,jf,qZ,qk,jk,qX,reduceIte,zMp,zGI,zRw,zRv,zC3,zRz,zGP,zZa,dLc,zHE,zCM,$xs,*])
local macro_rules | `(tactic|dsimp! only[$xs,*])=>`(tactic|simp only[zBK,zDS,zFI,zBZ,zAo,zFG,zRu,zEp,zSx,zJR,dIf,dOp,dUn,zAd,dC,dI,dIc,zDL,zPo,zK5,dFd,zK6,zOT,zSz,dLt,dLe,dGt,dGe,zE9,zFU,DL.isNon,zL2,zL1,zLZ,zL3,zL0,dSl,zCu,zAW,dCB,zIr,zIt,zIs,zPq,zGJ,zDp,zK8,zSv,zIF,zG7,zK2,isC,seqOf,lstOf,zAc,zAg,zD2,zMm,zBd,zJO,zAH,zCo,zEo,gN,zBP,zAp,gT,zEj,zEl,zOV,zSG,zFL,zFK,zAX,zMg,zMf,zRs,zLR,zLQ,zQ9,zRr,zQ8,zIc,zIq,zFY,zIf,zF7,zII,zIe,zF9,zLE,zCC,zFr,zFs,zFt,zFP,zG8,dLM,zNa,isL,zB5,zCv,zOU,zFH,zJM,zOS,zSC,dJs,zJW,zJU,zDG,zFV,zBX,zDj,zEm,DL.keyOf,zEN,zJ5,zCI,zBY,zBA,zJN,zEX,zDH,zCH,zCf,zJV,zJT,zIY,zOW,zJS,zJ1,zJ0,zM8,zAJ,zCG,zJL,zJP,zJQ,zGY,zQV,zCe,zJ2,zFa,zFM,zFN,zSw,zSB,zJ6,zDI,zCJ,zFJ,zSE,zCA,zJ3,zSD,jp,qJ,qB,jl,jm,zHd,zIV,zKm,zKl,zKk,zKj,zJE,zJD,zJC,zJB,zJA,zJz,up_same,qi,qT,jf,qZ,qk,jk,qX,reduceIte,$xs,*])
theorem zNd{A:Type}{u:DG}{tt:DT}{te:DE}{ok:Om→Prop}{g:Gm}{R:List D→Om→Prop}{O:Om}{f:A→D}{as:List A}(p:A→Bool)(h:A→D)(hok:ok O)(hl:as.length<16000000)
  (hs:∀a,a∈as→∀(N:List D→Om→Prop) (acc:List D),acc.length<sizeLine→(p a=true→N (acc++[h a]) O)→(p a=false→N acc O)→u (f a) g O fun g1 O1=>tt g1 O1 fun b O2=>if b=true then te g1 O2 fun y O3=>acc.length<sizeLine∧N (acc++[y]) O3 else N acc O2)
  (hd:R ((as.filter p).map h) O):zEn u tt te ok g R (as.map f) [] O:=by
 have key:∀(post pre:List A),as=pre++post→zEn u tt te ok g R (post.map f) ((pre.filter p).map h) O:=by
  intro post
  induction post with
  |nil=>
   intro pre e
   rw[jH] at e
   subst e
   exact⟨hok,hd⟩
  |cons a post ih=>
   intro pre e
   have hlen:((pre.filter p).map h).length<sizeLine:=by
    have h1:=jB List.length e
    have h2:=jv p pre
    rw[qd,sizeLine_eq]
    simp at h1
    omega
   refine⟨hok,hs a (by rw[e];simp) _ _ hlen (fun z=>?_) fun z=>?_⟩
   ·have:=ih (pre++[a]) (by rw[e,je];rfl)
    rw[jU,jc z,List.filter_nil,qK] at this
    exact this
   ·have:=ih (pre++[a]) (by rw[e,je];rfl)
    rw[jU,jj (by rw[z];decide),List.filter_nil,jH] at this
    exact this
 exact key as [] rfl
theorem zBV{A:Type}{u:DG}{tt:DT}{te:DE}{ok:Om→Prop}{g:Gm}{R:List D→Om→Prop}{O:Om}{f:A→D}{as:List A}(h:A→D)(hok:ok O)(hl:as.length<16000000)
  (hs:∀a,a∈as→∀(N:List D→Om→Prop) (acc:List D),acc.length<sizeLine→N (acc++[h a]) O→u (f a) g O fun g1 O1=>tt g1 O1 fun b O2=>if b=true then te g1 O2 fun y O3=>acc.length<sizeLine∧N (acc++[y]) O3 else N acc O2)
  (hd:R (as.map h) O):zEn u tt te ok g R (as.map f) [] O:=
 zNd (fun _=>true) h hok hl (fun a ha N acc hacc k _=>hs a ha N acc hacc (k rfl)) (by rw[List.filter_eq_self.mpr (fun _ _=>rfl)];exact hd)
theorem zQP{n:Nat}:rgD 0 n=(List.range n).map fun k=>D.int (k:Nat):=by
 unfold rgD
 exact jO fun k _=>by rw[Int.zero_add]
def Pl:Nat→D→Prop
 |0,x=>zUP x=true
 |n+1,x=>zUP x=true∨∃xs,(x=.tup xs∨x=.lst xs)∧xs.length≤1000000∧∀y∈xs,Pl n y
theorem Pl.same{O:Om}:∀{n:Nat}{x:D},Pl n x→Sm O n x x
 |0,x,h=>⟨rfl,h⟩
 |n+1,x,h=>by
  rcases h with h|⟨xs,rfl|rfl,h1,h2⟩
  ·exact .inl ⟨rfl,h⟩
  ·exact .inr (.inr ⟨xs,xs,rfl,rfl,rfl,h1,fun i a b ha hb=>by
    rw[ha] at hb;cases hb;exact Pl.same (h2 a (qI ha))⟩)
  ·exact .inr (.inl ⟨xs,xs,rfl,rfl,rfl,h1,fun i a b ha hb=>by
    rw[ha] at hb;cases hb;exact Pl.same (h2 a (qI ha))⟩)
theorem Pl.int{n:Nat}{i:Int}:Pl n (.int i):=by cases n;exact rfl;exact .inl rfl
theorem Pl.str{n:Nat}{i:Str}:Pl n (.str i):=by cases n;exact rfl;exact .inl rfl
theorem Pl.bl{n:Nat}{i:Bool}:Pl n (.bl i):=by cases n;exact rfl;exact .inl rfl
theorem Pl.non{n:Nat}:Pl n .non:=by cases n;exact rfl;exact .inl rfl
theorem Pl.tup{n:Nat}{xs:List D}(h:∀y∈xs,Pl n y)(hl:xs.length≤1000000):Pl (n+1) (.tup xs):=.inr ⟨xs,.inl rfl,hl,h⟩
theorem Pl.lst{n:Nat}{xs:List D}(h:∀y∈xs,Pl n y)(hl:xs.length≤1000000):Pl (n+1) (.lst xs):=.inr ⟨xs,.inr rfl,hl,h⟩
theorem Pl.map{A:Type}{n:Nat}{f:A→D}{as:List A}(h:∀a∈as,Pl n (f a)):∀y∈as.map f,Pl n y:=fun y hy=>by
 obtain⟨a,ha,rfl⟩:=qy.mp hy
 exact h a ha
theorem zKJ{O:Om}{R:D→Om→Prop}{Z:XD}{x:D}{n:Nat}(h:Pl 9 x)(r:R (.bl true) O):sp_za [x,x] O R Z:=zTb h.same r
theorem Pl.mono:∀{n m:Nat}{x:D},Pl n x→n≤m→Pl m x
 |0,m,x,h,_=>by cases m;exact h;exact .inl h
 |n+1,m+1,x,h,hm=>by
  rcases h with h|⟨xs,h0,h1,h2⟩
  ·exact .inl h
  ·exact .inr ⟨xs,h0,h1,fun y hy=>(h2 y hy).mono (by omega)⟩
theorem Seen.eqv{O:Om}{n m:Nat}{x y:D}{d e:PyData}{b:Bool}{R:D→Om→Prop}(h1:Seen O n x d)(h2:Seen O m y e)(k1:n≤64)(k2:m≤64)(r:R (.bl (PyData.eqv d e !=b)) O):zPp b x y O R:=
 ⟨d,e,h1.1,h2.1,h1.ok k1,h2.ok k2,r⟩
theorem Sb.del{O O':Om}{p:Addr}(s:Sb O O')(hp:O p=none):Sb O (DL.del O' p):=fun a o e=>by
 rw[DL.del_ne (zAb hp e)];exact s a o e
theorem Bst.del{b p:Addr}{O O':Om}(h:Bst b O O')(h0:Bag O b)(hp:O p=none):Bst b O (DL.del O' p):=by
 obtain⟨n1,n2⟩:=h0.free hp
 refine⟨?_,fun a u hn e=>?_,?_⟩
 ·obtain⟨c,cells,pos,rem,seed,cnt,h1,h2,h3⟩:=h.1
  refine⟨c,cells,pos,rem,seed,cnt,by rw[DL.del_ne n1.symm];exact h1,?_,h3⟩
  rw[DL.del_ne (fun z=>n2 (by rw[←h.cell,zB6 h1,z]))]
  exact h2
 ·rw[DL.del_ne (zAb hp e)]
  exact h.2 a u hn e
 ·unfold zBy
  rw[DL.del_ne n1.symm]
  exact h.cell
theorem Sb.up{O O':Om}{p:Addr}{o:DO}(s:Sb O O')(hp:O p=none):Sb O (DL.up O' p o):=fun a u e=>by
 rw[up_ne (zAb hp e)];exact s a u e
theorem Sb.none{O O':Om}{p:Addr}(s:Sb O O')(hp:O' p=Option.none):O p=Option.none:=by
 cases e:O p with
 |none=>rfl
 |some o=>rw[s p o e] at hp;cases hp
def yAr{A C:Type}[DecidableEq A]:List (A×C)→A→Option C
 |[],_=>none
 |p::r,k=>if p.1=k then some p.2 else yAr r k
def yBH{A C:Type}[DecidableEq A](es:List (A×C))(k:A)(v:C):List (A×C):=
 if k∈es.map (·.1) then es.map fun kv=>if kv.1=k then(kv.1,v) else kv else es++[(k,v)]
structure Hd where
 st:Int
 sp:Int
 sg:Str
structure Mom where
 b:Int
 hs:List Hd
 w:Int
def hdD(h:Hd):D:=.tup [.int h.st,.int h.sp,.str h.sg]
def moD(m:Mom):D:=.tup [.int m.b,.tup (m.hs.map hdD),.int m.w]
def zDM(ms:List Mom):D:=.tup (ms.map moD)
def signs:List Str:=[PySem.Str.ofString "",PySem.Str.ofString "s",PySem.Str.ofString "f",PySem.Str.ofString "n"]
def hlt(h k:Hd):Prop:=h.st<k.st∨(h.st=k.st∧h.sp<k.sp)
structure GHd(h:Hd):Prop where
 st0:0≤h.st
 st1:h.st≤3
 sp0:-12≤h.sp
 sp1:h.sp≤12
 sg:h.sg∈signs
structure GHs(hs:List Hd):Prop where
 len:hs.length≤8
 all:∀h∈hs,GHd h
 up:hs.Pairwise hlt
structure GM(m:Mom):Prop where
 b0:1≤m.b
 b1:m.b≤32
 hs:GHs m.hs
 w0:0≤m.w
 w1:m.w≤40
structure GB(ms:List Mom):Prop where
 l0:1≤ms.length
 l1:ms.length≤6
 all:∀m∈ms,GM m
section
variable {x y:Rat}{O:Om}{R:D→Om→Prop}{Z:XD}
theorem Bz.int{n:Int}{m:Nat}(h:n.natAbs<2 ^ m)(hm:0<m):Bz m (n:Rat):=⟨h,by
 have:2 ^ 1≤2 ^ m:=qY (by decide) hm
 show 1<2 ^ m
 omega⟩
end
abbrev zEW:=Int×Int
def zYq(c:zEW):Prop:=0≤c.1∧c.1<100∧1≤c.2∧c.2≤9
def zYV(cs:List zEW)(ps:List Rat)(i:Nat):Rat:=ps.getD (i+1) 0-ps.getD i 0-(((cs.getD i (0,1)).1:Int):Rat)
def tmR(cs:List zEW)(ps:List Rat)(i:Nat):Rat:=zYV cs ps i*zYV cs ps i/(((cs.getD i (0,1)).2:Int):Rat)
def esR(cs:List zEW)(ps:List Rat):Nat→Rat
 |0=>0
 |n+1=>esR cs ps n+tmR cs ps n
theorem Bst.none{b p:Addr}{O O':Om}(h:Bst b O O')(hp:O' p=Option.none):O p=Option.none:=by
 cases e:O p with
 |none=>rfl
 |some o=>
  by_cases hb:p=b
  ·subst hb
   obtain⟨c,_,_,_,_,_,_,e1,_⟩:=h.1.cell
   rw[e1] at hp;cases hp
  ·rw[h.2 p o hb e] at hp;cases hp
theorem Bst.own{b p:Addr}{O O':Om}{o:DO}(h:Bst b (DL.up O p o) O')(h0:Bag O b)(hp:O p=Option.none):O' p=some o:=h.2 p o (h0.free hp).1 up_same
section
open PySem.W (AllAlike Sortable dataLe)
def zSF(a:Int)(i:Nat)(c:Int):DE:=fun g O R=>match g[i]? with|some (some (.int x))=>R (.bl (decide (a≤x)&&decide (x≤c))) O|_=>False
theorem zER{a c:Int}{i:Nat}:zA6 dLe dLe (dC (.int a)) (zAd i) (dC (.int c))=zSF a i c:=by
 funext g O R
 unfold zA6 zSF zAd dC
 cases e:g[i]? with
 |none=>rfl
 |some o=>
  cases o with
  |none=>rfl
  |some x=>
   cases x with
   |int x=>
    show(match D.bl (decide (a≤x)) with|.bl true=>dLe (.int x) (.int c) O R|.bl false=>R (.bl false) O|_=>False)=R (.bl (decide (a≤x)&&decide (x≤c))) O
    generalize decide (a≤x)=b1
    cases b1 with
    |true=>rfl
    |false=>rfl
   |_=>rfl
end
section
open PySem.W (AllAlike Sortable dataLe)
abbrev hd0:Hd:=⟨0,0,PySem.Str.ofString ""⟩
def zYS(x:Str):Bool:=inD (.str x) (signs.map D.str)
def yA6(i:Int):Int:=if i<0 then -i else i
def zFS(h:Hd):Bool:=(decide (0≤h.st)&&decide (h.st≤3))&&(decide (yA6 h.sp≤12)&&zYS h.sg)
def ltH(h k:Hd):Bool:=HT.lexLt [h.st,h.sp] [k.st,k.sp]
def ris(hs:List Hd):Bool:=(List.range (hs.length-1)).all fun i=>ltH (hs.getD i hd0) (hs.getD (i+1) hd0)
def zG5(m:Mom):Bool:=(decide (1≤m.b)&&decide (m.b≤32))&&(decide ((m.hs.length:Int)≤8)&&((decide (0≤m.w)&&decide (m.w≤40))&&(m.hs.all zFS&&ris m.hs)))
def zYt:DS:=
 (zAt (zEo (zAd 0) (gT 3 (zAp (gN 1) (zAp (gN 2) (zAp (gN 3) zBP)))))
 (zBd (zEp (zA6 dLe dLe (dC (.int 0)) (zAd 1) (dC (.int 3))) (zEp (dOp dLe (dCB zPq (zAc (zAd 2) zAg)) (dC (.int 12))) (dOp (zIY fun b=>b) (zAd 3) (dC (.tup [(.str (PySem.Str.ofString "")),(.str (PySem.Str.ofString "s")),(.str (PySem.Str.ofString "f")),(.str (PySem.Str.ofString "n"))])))))))
def zZ6:List Str:=["head","staff","step","sign"]
def zQc:DSp:=fun xs O R _=>∃h:Hd,xs=[hdD h]∧R (.bl (zFS h)) O
theorem yBQ:∀xs O R Z,zQc xs O R Z→zYt (zBw R) (zAr zZ6 xs) O:=by
 rintro _ O R Z ⟨h,rfl,k⟩
 show zYt (zBw R) [some (hdD h),none,none,none] O
 unfold zYt
 simp only[zER]
 refine zAz fun N hN=>?_;dsimp! only[hdD]
 refine⟨True.intro,?_⟩
 subst hN
 dsimp! only[zSF]
 unfold zFS yA6 at k
 have e:zYS h.sg=inD (.str h.sg) [.str (PySem.Str.ofString ""),.str (PySem.Str.ofString "s"),.str (PySem.Str.ofString "f"),.str (PySem.Str.ofString "n")]:=rfl
 rw[e] at k
 generalize (decide (0≤h.st)&&decide (h.st≤3))=b1 at k⊢
 cases b1 with
 |false=>exact Fin.here k
 |true=>
  generalize decide ((if h.sp<0 then -h.sp else h.sp)≤12)=b2 at k⊢
  cases b2 with
  |false=>exact Fin.here k
  |true=>exact⟨rfl,rfl,Fin.here k⟩
def zYJ:DS:=
 (zAt (zEo (zAd 0) (gT 3 (zAp (gN 1) (zAp (gN 2) (zAp (gN 3) zBP)))))
 (zAt (zBK (zFI (zBZ (zAo (zA6 dLe dLe (dC (.int 1)) (zAd 1) (dC (.int 32))))) (zFI (zAo (dOp dGt (dCB zC4 (zAc (zAd 2) zAg)) (dC (.int 8)))) (zBZ (zAo (zA6 dLe dLe (dC (.int 0)) (zAd 3) (dC (.int 40))))))) (zBd (dC (.bl false))) zAH)
 (zAt (zBK (zBZ (zAo (dCB (zK8 fun bs=>bs.all fun b=>b) (zAc (zHE (zC3 (zAd 2)) (gN 4) zFF (zAX zQc [.p 0] [] (zAc (zAd 4) zAg) zAg) [4]) zAg)))) (zBd (dC (.bl false))) zAH)
 (zBd (dCB (zK8 fun bs=>bs.all fun b=>b) (zAc (zHE (zGI (zAc (dOp zPo (dCB zC4 (zAc (zAd 2) zAg)) (dC (.int 1))) zAg)) (gN 5) zFF (dOp zOW (zEX (dOp dIx (zAd 2) (zAd 5)) zAW (zCu (dC (.int 2)))) (zEX (dOp dIx (zAd 2) (dOp zDL (zAd 5) (dC (.int 1)))) zAW (zCu (dC (.int 2))))) [5]) zAg))))))
def zW9:List Str:=["moment","beats","heads","word","head","at"]
def zQl:DSp:=fun xs O R _=>∃m:Mom,xs=[moD m]∧m.hs.length≤1000∧R (.bl (zG5 m)) O
theorem yA2(h:Hd):DL.cutD [D.int h.st,.int h.sp,.str h.sg] none (some 2)=[.int h.st,.int h.sp]:=by
 rw[zSH (by decide)]
 rfl
theorem zXl(x y:Int):zBv [D.int x,.int y]=some [x,y]:=zM2 [x,y]
theorem zSf{hs:List Hd}{j:Nat}(h:j<hs.length):atI (hs.map hdD) (j:Int)=some (hdD (hs.getD j hd0)):=zPb h
theorem zKn(hs:List Hd):((hs.map zFS).all fun b=>b)=hs.all zFS:=by rw[kh];rfl
theorem yB7:∀xs O R Z,zQl xs O R Z→zYJ (zBw R) (zAr zW9 xs) O:=by
 rintro _ O R Z ⟨m,rfl,hl,k⟩
 show zYJ (zBw R) [some (moD m),none,none,none,none,none] O
 unfold zYJ
 simp only[zER]
 refine zAz fun N hN=>?_;dsimp! only[moD]
 refine⟨True.intro,?_⟩
 subst hN
 unfold zG5 at k
 have e8:decide ((m.hs.length:Int) > 8)=!decide ((m.hs.length:Int)≤8):=by
  rw[←decide_not,jw];omega
 refine zAz fun N hN=>?_;dsimp! only[zSF,qd,e8]
 generalize (decide (1≤m.b)&&decide (m.b≤32))=b1 at k⊢
 cases b1 with
 |false=>exact Fin.here k
 |true=>
  generalize decide ((m.hs.length:Int)≤8)=b2 at k⊢
  cases b2 with
  |false=>exact Fin.here k
  |true=>
   generalize (decide (0≤m.w)&&decide (m.w≤40))=b3 at k⊢
   cases b3 with
   |false=>exact Fin.here k
   |true=>
    have k:R (.bl (m.hs.all zFS&&ris m.hs)) O:=k
    dsimp! only[]
    subst hN
    refine zAz fun N hN=>?_;simpa! only[]
    refine zBV (f:=hdD) (fun h=>D.bl (zFS h)) True.intro (by omega) (fun h hh N2 acc hacc hN2=>?_) ?_
    ·dsimp! only[zFF]
     exact⟨h,rfl,hacc,hN2⟩
    have eb:m.hs.map (fun h=>D.bl (zFS h))=(m.hs.map zFS).map D.bl:=by rw[ja];rfl
    rw[eb]
    dsimp! only[zCw]
    cases hb:m.hs.all zFS with
    |false=>
     rw[qe (by rw[zKn,hb];rfl)]
     rw[hb] at k
     exact Fin.here k
    |true=>
     rw[qb (by rw[zKn,hb];decide)]
     rw[hb] at k
     have k:R (.bl (ris m.hs)) O:=k
     subst hN
     simpa! only[qd]
     refine⟨by omega,by omega,?_⟩
     rw[show((m.hs.length:Int)-1).toNat=m.hs.length-1 by omega,zQP]
     refine zBV (f:=fun k:Nat=>D.int (k:Nat)) (fun i=>D.bl (ltH (m.hs.getD i hd0) (m.hs.getD (i+1) hd0))) True.intro (by rw[jD];omega) (fun i hi N2 acc hacc hN2=>?_) ?_
     ·rw[qC] at hi
      have i1:=zSf (hs:=m.hs) (j:=i) (by omega)
      have i2:=zSf (hs:=m.hs) (j:=i+1) (by omega)
      have e2:((i:Nat):Int)+1=((i+1:Nat):Int):=by omega
      dsimp! only[zFF,i1,e2,i2,hdD,yA2,zXl]
      exact⟨hacc,hN2⟩
     have eb:(List.range (m.hs.length-1)).map (fun i=>D.bl (ltH (m.hs.getD i hd0) (m.hs.getD (i+1) hd0)))=((List.range (m.hs.length-1)).map fun i=>ltH (m.hs.getD i hd0) (m.hs.getD (i+1) hd0)).map D.bl:=by rw[ja];rfl
     rw[eb]
     dsimp! only[zCw]
     have er:(((List.range (m.hs.length-1)).map fun i=>ltH (m.hs.getD i hd0) (m.hs.getD (i+1) hd0)).all fun b=>b)=ris m.hs:=by unfold ris;rw[kh];rfl
     rw[er]
     exact Fin.here k
def zOb:Option Nat→D
 |none=>.non
 |some i=>.int (i:Nat)
def zDZ(ms:List Mom):Option Nat:=if ms.length=0 then some 0 else match (ms.take 6).findIdx? (fun m=>!zG5 m) with|some i=>some i|none=>if ms.length > 6 then some 6 else none
def zYs:DS:=
 (zAt (zBK (zAo (dOp dEq (dCB zC4 (zAc (zAd 0) zAg)) (dC (.int 0)))) (zBd (dC (.int 0))) zAH)
 (zAt (zMp (zGP (zEX (zAd 0) zAW (zCu (dC (.int 6))))) (gT 2 (zAp (gN 1) (zAp (gN 2) zBP))) (zBK (zBZ (zAo (zAX zQl [.p 0] [] (zAc (zAd 2) zAg) zAg))) (zBd (zAd 1)) zAH))
 (zBd (dIf (zAo (dOp dGt (dCB zC4 (zAc (zAd 0) zAg)) (dC (.int 6)))) (dC (.int 6)) (dC .non)))))
def zZ5:List Str:=["bar","at","moment"]
def zQb:DSp:=fun xs O R _=>∃ms:List Mom,xs=[zDM ms]∧(∀m∈ms,m.hs.length≤1000)∧R (zOb (zDZ ms)) O
theorem yBP:∀xs O R Z,zQb xs O R Z→zYs (zBw R) (zAr zZ5 xs) O:=by
 rintro _ O R Z ⟨ms,rfl,hl,k⟩
 show zYs (zBw R) [some (zDM ms),none,none] O
 unfold zYs
 refine zAz fun N hN=>?_;dsimp! only[zDM,qd]
 by_cases h0:(ms.length:Int)=0
 ·simp only[h0,qH,jk]
  unfold zDZ at k
  rw[qe (by omega)] at k
  exact Fin.here k
 ·simp only[h0,qO,qk,qX]
  unfold zDZ at k
  rw[qb (by omega)] at k
  subst hN
  have hc:DL.cutD (ms.map moD) none (some 6)=(ms.take 6).map moD:=by rw[zSH (by decide),List.map_take];rfl
  refine zGn (fun g O'=>O=O'∧(ms.take 6).findIdx? (fun m=>!zG5 m)=none∧∃z1 z2,g=[some (zDM ms),z1,z2]) (fun N hN=>?_) ?_
  ·unfold zMp
   show zGP (zEX (zAd 0) zAW (zCu (dC (.int 6)))) _ _ _
   simpa! only[hc]
   refine zIo (fun i g O'=>O=O'∧(∀j m,j<i→(ms.take 6)[j]?=some m→zG5 m=true)∧∃z1 z2,g=[some (zDM ms),z1,z2]) ⟨rfl,fun j m hj=>by omega,_,_,rfl⟩ (fun _ _ _ _=>True.intro) ?_ ?_
   ·rintro i x _ _ M hx ⟨rfl,hi,z1,z2,rfl⟩ hM
    obtain⟨y,hy,rfl⟩:=zUe hx
    rw[qF] at hy
    cases em:(ms.take 6)[i]? with
    |none=>rw[em] at hy;cases hy
    |some m=>
     rw[em] at hy
     cases hy
     have hmem:m∈ms:=jY (qI em)
     refine⟨rfl,?_⟩
     dsimp! only[]
     refine⟨m,rfl,hl m hmem,?_⟩
     cases hg:zG5 m with
     |true=>
      dsimp! only[]
      refine hM _ _ ⟨rfl,fun j m' hj hm=>?_,_,_,rfl⟩
      by_cases hji:j=i
      ·rw[hji,em] at hm;cases hm;exact hg
      ·exact hi j m' (by omega) hm
     |false=>
      dsimp! only[]
      have hlt:=(qf.mp em).1
      have hf:(ms.take 6).findIdx? (fun m=>!zG5 m)=some i:=by
       rw[List.findIdx?_eq_some_iff_getElem]
       refine⟨hlt,?_,fun j hj=>?_⟩
       ·rw[(qf.mp em).2,hg];rfl
       ·have:=hi j (ms.take 6)[j] hj (qg (by omega))
        rw[this];decide
      rw[hf] at k
      exact Fin.here k
   ·rintro _ _ ⟨rfl,hi,z1,z2,rfl⟩
    refine hN _ _ ⟨rfl,?_,_,_,rfl⟩
    rw[zUd,qd] at hi
    rw[List.findIdx?_eq_none_iff]
    intro m hm
    obtain⟨j,hj,e⟩:=List.getElem_of_mem hm
    have:=hi j m hj (by rw[qg hj,e])
    rw[this];rfl
  ·rintro _ _ ⟨rfl,hn,z1,z2,rfl⟩
   rw[hn] at k
   dsimp! only[zDM,qd]
   by_cases h6:(ms.length:Int) > 6
   ·simp only[h6,qH,jk]
    have k:R (zOb (if ms.length > 6 then some 6 else none)) O:=k
    rw[qe (by omega)] at k
    exact Fin.here k
   ·simp only[h6,qO,qk,qX]
    have k:R (zOb (if ms.length > 6 then some 6 else none)) O:=k
    rw[qb (by omega)] at k
    exact Fin.here k
end
def dcI(kvs:List (Int×D)):List (Key×D):=kvs.map fun p=>(Sum.inl p.1,p.2)
local macro_rules | `(tactic|simp_all! only[$xs,*])=>`(tactic|simp only[zBK,zDS,zFI,zBZ,zAo,zFG,zRu,zEp,zSx,zJR,dIf,dOp,dUn,zAd,dC,dI,dIc,zDL,zPo,zK5,dFd,zK6,zOT,zSz,dLt,dLe,dGt,dGe,dEq,dNe,zE9,zFU,DL.isNon,dIx,dSl,zCu,zAW,dCB,zC4,zPq,zGJ,zDp,zK8,zSv,zIF,zG7,zK2,isC,seqOf,lstOf,zAc,zAg,zD2,zMm,zBd,zJO,zAH,zCo,zEo,gN,zBP,zAp,gT,zEj,zEl,zOV,zSG,zFL,zFK,zAX,zCC,zFr,zFs,zFt,zFP,zG8,dLM,zNa,isL,zB5,zCv,zOU,zFH,zJM,zOS,zSC,dJs,zJW,zJU,zDG,zFV,zBX,zDj,zEm,DL.keyOf,zEN,zJ5,zCI,zBY,zBA,zJN,zEX,zDH,zCH,zCf,zJV,zJT,zIY,zOW,zJS,zJ1,zJ0,zM8,zAJ,zCG,zJL,zJP,zJQ,zGY,zQV,zCe,zJ2,zFa,zFM,zFN,zSw,zSB,zJ6,zDI,zCJ,zFJ,zSE,zCA,zJ3,zSD,jp,qJ,qB,jl,jm,zHd,zIV,zKm,zKl,zKk,zKj,zJE,zJD,zJC,zJB,zJA,zJz,up_same,qi,qT,jf,qZ,qk,jk,qX,reduceIte,zMp,zGI,zRw,zRv,zC3,zRz,zGP,zZa,dLc,zHE,zCM,$xs,*])
def yBh(ms:List Int):Nat→Nat
 |0=>0
 |i+1=>if ms.getD i 0=ms.getD (i+1) 0-1 then yBh ms i+1 else 0
def shF(ms:List Int)(i:Nat):Bool:=decide (((yBh ms i:Nat):Int)%2=1)
abbrev Acc:=List (Int×Nat)
def yCh(i:Int):Int:=if i<0 then -i else i
def hit(s:Int)(c:Nat)(p:Int×Nat):Bool:=decide (p.2=c)&&decide (yCh (p.1-s)<6)
def fre(acc:Acc)(s:Int)(c:Nat):Bool:=!acc.any (hit s c)
def mxC:Acc→Nat
 |[]=>0
 |p::r=>max p.2 (mxC r)
theorem zOo{acc:Acc}{p:Int×Nat}(h:p∈acc):p.2≤mxC acc:=by
 induction acc with
 |nil=>simp at h
 |cons q r ih=>
  show p.2≤max q.2 (mxC r)
  rcases qj.mp h with rfl|h
  ·exact Nat.le_max_left ..
  ·exact qo (ih h) (Nat.le_max_right ..)
theorem zOC{acc:Acc}{s:Int}{c:Nat}(h:mxC acc<c):fre acc s c=true:=by
 unfold fre
 rw[kF,List.any_eq_false]
 intro p hp
 have:=zOo hp
 unfold hit
 rw[qm (by omega)]
 simp
structure Lst(acc:Acc)(s:Int)(c:Nat):Prop where
 one:1≤c
 free:fre acc s c=true
 low:∀d,1≤d→d<c→fre acc s d=false
theorem Lst.uniq{acc:Acc}{s:Int}{c d:Nat}(h:Lst acc s c)(k:Lst acc s d):c=d:=by
 rcases Nat.lt_trichotomy c d with z|z|z
 ·have:=k.low c h.one z;rw[h.free] at this;cases this
 ·exact z
 ·have:=h.low d k.one z;rw[k.free] at this;cases this
def zY7(acc:Acc)(s:Int):Nat→Nat→Nat
 |0,c=>c
 |f+1,c=>if fre acc s c=true then c else zY7 acc s f (c+1)
theorem zOp{acc:Acc}{s:Int}:∀(f c:Nat),1≤c→c+f=mxC acc+1→(∀d,1≤d→d<c→fre acc s d=false)→Lst acc s (zY7 acc s f c)
 |0,c,h1,h2,h3=>⟨h1,zOC (show mxC acc<c by omega),h3⟩
 |f+1,c,h1,h2,h3=>by
  unfold zY7
  split
  ·rename_i h;exact⟨h1,h,h3⟩
  ·rename_i h
   refine zOp f (c+1) (by omega) (by omega) fun d hd1 hd2=>?_
   by_cases e:d=c
   ·subst e;exact Bool.eq_false_iff.mpr h
   ·exact h3 d hd1 (by omega)
def lc(acc:Acc)(s:Int):Nat:=zY7 acc s (mxC acc) 1
theorem zXh(acc:Acc)(s:Int):Lst acc s (lc acc s):=zOp _ _ (by omega) (by omega) fun d h1 h2=>by omega
theorem Lst.top{acc:Acc}{s:Int}{c:Nat}(h:Lst acc s c):c≤mxC acc+1:=by
 by_cases e:c≤mxC acc+1
 ·exact e
 ·have:=h.low (mxC acc+1) (by omega) (by omega)
  rw[zOC (by omega)] at this
  cases this
def zRD(xs:List Int):Acc:=xs.foldl (fun acc s=>acc++[(s,lc acc s)]) []
def zUT:Acc→Int→Option Nat
 |[],_=>none
 |p::r,k=>if p.1=k then some p.2 else zUT r k
def acD(acc:Acc):List (Int×D):=acc.map fun p=>(p.1,D.int (p.2:Nat))
structure Ctg(acc:Acc):Prop where
 pos:∀p∈acc,1≤p.2
 full:∀c,1≤c→c≤mxC acc→∃p∈acc,p.2=c
theorem zLS(acc:Acc)(p:Int×Nat):mxC (acc++[p])=max (mxC acc) p.2:=by
 induction acc with
 |nil=>show max p.2 0=max 0 p.2;omega
 |cons q r ih=>show max q.2 (mxC (r++[p]))=max (max q.2 (mxC r)) p.2;rw[ih];omega
theorem Ctg.snoc{acc:Acc}(h:Ctg acc)(s:Int):Ctg (acc++[(s,lc acc s)]):=by
 have l:=zXh acc s
 have t:=l.top
 refine⟨fun p hp=>?_,fun c h1 h2=>?_⟩
 ·rcases qD.mp hp with hp|hp
  ·exact h.pos p hp
  ·rw[qh.mp hp];exact l.one
 ·rw[zLS] at h2
  by_cases hc:c≤mxC acc
  ·obtain⟨p,hp,e⟩:=h.full c h1 hc
   exact⟨p,jX _ hp,e⟩
  ·refine⟨(s,lc acc s),by simp,?_⟩
   show lc acc s=c
   have h2:c≤max (mxC acc) (lc acc s):=h2
   omega
theorem zRb(xs:List Int):mxC (zRD xs)≤xs.length:=by
 have key:∀(ys:List Int) (acc:Acc) (n:Nat),mxC acc≤n→mxC (ys.foldl (fun acc s=>acc++[(s,lc acc s)]) acc)≤n+ys.length:=by
  intro ys
  induction ys with
  |nil=>intro acc n h;exact h
  |cons y ys ih=>
   intro acc n h
   have:=ih (acc++[(y,lc acc y)]) (n+1) (by
    have:=(zXh acc y).top
    rw[zLS]
    show max (mxC acc) (lc acc y)≤_
    omega)
   rw[qi]
   simp only[List.foldl_cons]
   omega
 have:=key xs [] 0 (qG _)
 simpa [zRD] using this
def zR5(acc:Acc)(c:Nat):List Int:=(acc.filter fun p=>decide (p.2=c)).map (·.1)
theorem zOa(acc:Acc)(p:Int×Nat)(c:Nat):zR5 (acc++[p]) c=if p.2=c then zR5 acc c++[p.1] else zR5 acc c:=by
 unfold zR5
 rw[jU,qK]
 split
 ·rename_i e;rw[jc (by simpa using e)];rfl
 ·rename_i e;rw[jj (by simpa using e)];simp
theorem zQW{acc:Acc}{c:Nat}(h:mxC acc<c):zR5 acc c=[]:=by
 unfold zR5
 rw[List.filter_eq_nil_iff.mpr]
 ·rfl
 ·intro p hp
  have:=zOo hp
  simp
  omega
structure Pil(O O':Om)(p d:Addr)(acc:Acc)(qs:List Addr):Prop where
 sb:Sb O O'
 hp:O' p=some (.lst (qs.map D.ref))
 hd:O' d=some (.dK (dcI (acD acc)))
 np:O p=none
 nd:O d=none
 nq:∀q∈qs,O q=none
 pd:p≠d
 pq:p∉qs
 dq:d∉qs
 nod:qs.Nodup
 it:∀i q,qs[i]?=some q→O' q=some (.lst ((zR5 acc (i+1)).map D.int))
theorem Pil.new{O O':Om}{p d q:Addr}{acc:Acc}{qs:List Addr}(h:Pil O O' p d acc qs)(hl:mxC acc≤qs.length)(hq:O' q=none):Pil O (DL.up (DL.up O' q (.lst [])) p (.lst ((qs++[q]).map D.ref))) p d acc (qs++[q]):=by
 have e1:p≠q:=zAb hq h.hp
 have e2:d≠q:=zAb hq h.hd
 have hq0:O q=none:=h.sb.none hq
 have e3:q∉qs:=fun m=>by
  obtain⟨i,hi⟩:=List.getElem?_of_mem m
  rw[h.it i q hi] at hq
  cases hq
 refine⟨(h.sb.up hq0).up h.np,up_same,by rw[up_ne h.pd.symm,up_ne e2];exact h.hd,h.np,h.nd,fun z hz=>?_,h.pd,fun z=>?_,fun z=>?_,?_,fun i z hz=>?_⟩
 ·rcases qD.mp hz with hz|hz
  ·exact h.nq z hz
  ·rw[qh.mp hz];exact hq0
 ·rcases qD.mp z with z|z
  ·exact h.pq z
  ·exact e1 (qh.mp z)
 ·rcases qD.mp z with z|z
  ·exact h.dq z
  ·exact e2 (qh.mp z)
 ·rw[List.nodup_append]
  exact⟨h.nod,by simp,fun x hx y hy=>by rw[qh.mp hy];exact fun z=>e3 (z▸hx)⟩
 ·have hzp:z≠p:=fun w=>by
   subst w
   rcases qD.mp (qI hz) with z|z
   ·exact h.pq z
   ·exact e1 (qh.mp z)
  rw[up_ne hzp]
  by_cases hi:i<qs.length
  ·rw[kj hi] at hz
   rw[up_ne (fun w:z=q=>e3 (by rw[←w];exact qI hz))]
   exact h.it i z hz
  ·rw[List.getElem?_append_right (by omega)] at hz
   have hi2:i=qs.length:=by
    have:=(qf.mp hz).1
    simp at this
    omega
   subst hi2
   simp at hz
   subst hz
   rw[up_same,zQW (by omega)]
   rfl
theorem Pil.put{O O':Om}{p d q:Addr}{acc:Acc}{qs:List Addr}{s:Int}{k:Nat}(h:Pil O O' p d acc qs)(hk:qs[k]?=some q)(hc:lc acc s=k+1):Pil O (DL.up (DL.up O' q (.lst ((zR5 acc (k+1)++[s]).map D.int))) d (.dK (dcI (acD (acc++[(s,lc acc s)]))))) p d (acc++[(s,lc acc s)]) qs:=by
 have mq:q∈qs:=qI hk
 have e1:p≠q:=fun z=>h.pq (z▸mq)
 refine⟨(h.sb.up (h.nq q mq)).up h.nd,by rw[up_ne h.pd,up_ne e1];exact h.hp,up_same,h.np,h.nd,h.nq,h.pd,h.pq,h.dq,h.nod,fun i z hz=>?_⟩
 have hzd:z≠d:=fun w=>h.dq (w▸qI hz)
 rw[up_ne hzd,zOa]
 by_cases hi:i=k
 ·subst hi
  rw[hk] at hz
  cases hz
  rw[up_same,qe hc]
 ·rw[qb (fun w:lc acc s=i+1=>hi (by omega)),up_ne]
  ·exact h.it i z hz
  ·intro w
   subst w
   have h1:=(qf.mp hz)
   have h2:=(qf.mp hk)
   obtain⟨a1,a2⟩:=h1
   obtain⟨b1,b2⟩:=h2
   exact hi ((List.getElem_inj h.nod).mp (a2.trans b2.symm))
theorem Pil.len{O O':Om}{p d:Addr}{acc:Acc}{qs:List Addr}(h:Pil O O' p d acc qs):seqOf O' (.ref p)=some (qs.map D.ref):=zSY h.hp
def onS(hs:List Hd)(st:Int):List Hd:=hs.filter fun h=>decide (h.st=st)
def fit(st:Int)(m:Mom):Bool:=decide (m.b<4)&&m.hs.any fun h=>decide (h.st=st)
def zU0(rows:List (Int×List Nat))(bt:Int)(k:Nat):List (Int×List Nat):=
 match rows.getLast? with
 |some r=>if r.1=bt∧r.2.getLast?=some (k-1) then rows.dropLast++[(r.1,r.2++[k])] else rows++[(bt,[k])]
 |none=>rows++[(bt,[k])]
structure GS where
 rows:List (Int×List Nat)
 bg:Int
 k:Nat
def zXq(st:Int)(s:GS)(m:Mom):GS:=⟨if fit st m=true then zU0 s.rows (s.bg/4) s.k else s.rows,s.bg+m.b,s.k+1⟩
structure GOk(s:GS):Prop where
 ne:∀r∈s.rows,r.2≠[]
 lt:∀r∈s.rows,∀j∈r.2,j<s.k
 len:s.rows.length≤s.k
 lens:∀r∈s.rows,r.2.length≤s.k
theorem zIW{rows:List (Int×List Nat)}{bt:Int}{k:Nat}{r:Int×List Nat}(h:r∈zU0 rows bt k):r∈rows∨r=(bt,[k])∨∃q∈rows,r=(q.1,q.2++[k]):=by
 unfold zU0 at h
 split at h
 ·rename_i q e
  have hq:q∈rows:=List.mem_of_getLast? e
  split at h
  ·rcases qD.mp h with h|h
   ·exact .inl (List.dropLast_subset _ h)
   ·exact .inr (.inr ⟨q,hq,qh.mp h⟩)
  ·rcases qD.mp h with h|h
   ·exact .inl h
   ·exact .inr (.inl (qh.mp h))
 ·rcases qD.mp h with h|h
  ·exact .inl h
  ·exact .inr (.inl (qh.mp h))
theorem zRN(rows:List (Int×List Nat))(bt:Int)(k:Nat):(zU0 rows bt k).length≤rows.length+1:=by
 unfold zU0
 split
 ·split
  ·rw[qL,List.length_dropLast];show rows.length-1+1≤_;omega
  ·rw[qL];exact qG _
 ·rw[qL];exact qG _
theorem GOk.step{st:Int}{s:GS}(h:GOk s)(m:Mom):GOk (zXq st s m):=by
 unfold zXq
 split
 ·refine⟨fun r hr=>?_,fun r hr j hj=>?_,?_,fun r hr=>?_⟩
  ·rcases zIW hr with hr|rfl|⟨q,hq,rfl⟩
   ·exact h.ne r hr
   ·simp
   ·simp
  ·show j<s.k+1
   rcases zIW hr with hr|rfl|⟨q,hq,rfl⟩
   ·have:=h.lt r hr j hj;omega
   ·have:=qh.mp hj;omega
   ·rcases qD.mp hj with hj|hj
    ·have:=h.lt q hq j hj;omega
    ·have:=qh.mp hj;omega
  ·have:=zRN s.rows (s.bg/4) s.k
   have:=h.len
   show(zU0 s.rows (s.bg/4) s.k).length≤s.k+1
   omega
  ·show _≤s.k+1
   rcases zIW hr with hr|rfl|⟨q,hq,rfl⟩
   ·have:=h.lens r hr;omega
   ·show 1≤s.k+1;omega
   ·have:=h.lens q hq;rw[qL];show q.2.length+1≤_;omega
 ·refine⟨h.ne,fun r hr j hj=>?_,?_,fun r hr=>?_⟩
  ·have:=h.lt r hr j hj;show j<s.k+1;omega
  ·have:=h.len;show s.rows.length≤s.k+1;omega
  ·have:=h.lens r hr;show _≤s.k+1;omega
def zUB(ms:List Int):List Int:=ms.map fun s=>(((zUT (zRD ms.reverse) s).getD 0:Nat):Int)
theorem zRE(ms:List Int):∀c∈zUB ms,0≤c:=fun c hc=>by
 obtain⟨s,_,rfl⟩:=qy.mp hc
 exact Int.natCast_nonneg _
def zKv(hs:List Hd)(st:Int):List Int:=(onS hs st).map (·.sp)
def zD6(hs:List Hd)(st:Int):List Int:=((onS hs st).filter fun h=>decide (h.sg≠PySem.Str.ofString "")).map (·.sp)
def mx0(ns:List Int):Int:=if ns=[] then 0 else mxI ns
def yA5(ms:List Int):Bool:=(List.range ms.length).any (shF ms)
def rch(m:Mom)(st:Int):Option (Int×Int):=
 if st=4 then(if m.w=0 then none else some ((m.w+1)/2,(m.w+1)/2))
 else if onS m.hs st=[] then none
 else some (1+2*mx0 (zUB (zD6 m.hs st)),if yA5 (zKv m.hs st)=true then 3 else 1)
theorem zTx(hs:List Hd)(st:Int):(onS hs st).length≤hs.length:=jv _ _
theorem zKB(hs:List Hd)(st:Int):(zD6 hs st).length≤hs.length:=by
 unfold zD6
 rw[qd]
 have:=jv (fun h:Hd=>decide (h.sg≠PySem.Str.ofString "")) (onS hs st)
 have:=zTx hs st
 omega
structure Rod where
 a:Int
 b:Int
 l:Int
inductive Pth (rods:List Rod):Int→Int→Prop
 |z:Pth rods 0 0
 |s {x:Int}{r:Rod}:Pth rods r.a x→r∈rods→Pth rods r.b (x+r.l)
def Fwd(rods:List Rod):Prop:=∀r∈rods,0≤r.a∧r.a<r.b
def IsMx(rods:List Rod)(v:Int):Option Int→Prop
 |none=>∀x,¬Pth rods v x
 |some x=>Pth rods v x∧∀y,Pth rods v y→y≤x
theorem IsMx.uniq{rods:List Rod}{v:Int}:∀{o p:Option Int},IsMx rods v o→IsMx rods v p→o=p
 |none,none,_,_=>rfl
 |none,some x,h,k=>absurd k.1 (h x)
 |some x,none,h,k=>absurd h.1 (k x)
 |some x,some y,h,k=>by
  have:=h.2 y k.1
  have:=k.2 x h.1
  congr 1
  omega
theorem Pth.sub{rods rods':List Rod}(h:∀r∈rods,r∈rods'){v x:Int}(p:Pth rods v x):Pth rods' v x:=by
 induction p with
 |z=>exact .z
 |s _ hr ih=>exact .s ih (h _ hr)
theorem IsMx.congr{rods rods':List Rod}(h:∀r,r∈rods↔r∈rods'){v:Int}:∀{o:Option Int},IsMx rods v o→IsMx rods' v o
 |none,k=>fun x p=>k x (p.sub fun r=>(h r).mpr)
 |some x,k=>⟨k.1.sub fun r=>(h r).mp,fun y p=>k.2 y (p.sub fun r=>(h r).mpr)⟩
def Snd(rods:List Rod)(f:Int→Option Int):Prop:=∀v x,f v=some x→Pth rods v x
def Cov(rods:List Rod)(f:Int→Option Int)(r:Rod):Prop:=∀y,Pth rods r.a y→∃x,f r.b=some x∧y+r.l≤x
theorem Pth.zero{rods:List Rod}(hf:Fwd rods){x:Int}(p:Pth rods 0 x):x=0:=by
 generalize hv:(0:Int)=v at p
 cases p with
 |z=>rfl
 |s _ hr=>have:=hf _ hr;omega
def LeF(f g:Int→Option Int):Prop:=∀v x,f v=some x→∃y,g v=some y∧x≤y
theorem Cov.mono{rods:List Rod}{f g:Int→Option Int}{r:Rod}(h:Cov rods f r)(l:LeF f g):Cov rods g r:=fun y p=>by
 obtain⟨x,h1,h2⟩:=h y p
 obtain⟨z,h3,h4⟩:=l _ _ h1
 exact⟨z,h3,by omega⟩
def setF(f:Int→Option Int)(v:Int)(x:Int):Int→Option Int:=fun u=>if u=v then some x else f u
theorem zJe{f:Int→Option Int}{v x:Int}:setF f v x v=some x:=qe rfl
theorem zNL{f:Int→Option Int}{v x u:Int}(h:u≠v):setF f v x u=f u:=qb h
theorem Snd.set{rods:List Rod}{f:Int→Option Int}(h:Snd rods f){v x:Int}(p:Pth rods v x):Snd rods (setF f v x):=fun u y e=>by
 by_cases hu:u=v
 ·subst hu;rw[zJe] at e;cases e;exact p
 ·rw[zNL hu] at e;exact h u y e
theorem LeF.set{f:Int→Option Int}{v x:Int}(h:∀y,f v=some y→y≤x):LeF f (setF f v x):=fun u y e=>by
 by_cases hu:u=v
 ·subst hu;exact⟨x,zJe,h y e⟩
 ·exact⟨y,by rw[zNL hu];exact e,jM _⟩
structure Th where
 p:Int
 l:Int
 r:Int
def yBa(st:Int)(i:Nat)(m:Mom):Option Th:=(rch m st).map fun q=>⟨(i:Int)+1,q.1,q.2⟩
def yBJ(st:Int)(ms:List Mom):List Th:=ms.zipIdx.filterMap fun p=>yBa st p.2 p.1
def thg(ms:List Mom)(st:Int):List Th:=([⟨0,0,0⟩]++yBJ st ms)++[⟨(ms.length:Int)+1,0,0⟩]
abbrev Es:=List ((Int×Int)×Int)
def es0(i:Nat):Es:=(List.range i).foldl (fun es (p:Nat)=>yBH es ((p:Int),(p:Int)+1) 1) []
def prs(ts:List Th):List (Th×Th):=ts.zip (ts.drop 1)
theorem Sb.keep{O:Om}{p q:Addr}{o u:DO}(hp:O p=Option.none)(hq:DL.up O p o q=Option.none):Sb (DL.up O q u) (DL.up (DL.up O p o) q u):=fun a w e=>by
 by_cases h:a=q
 ·subst h;rw[DL.up_same] at e⊢;exact e
 ·rw[DL.up_ne h] at e⊢
  exact Sb.new hp a w e
theorem zWf{m:Mom}{st:Int}{q:Int×Int}(hw:0≤m.w)(h:rch m st=some q):0≤q.1∧0≤q.2:=by
 unfold rch at h
 split at h
 ·split at h
  ·cases h
  ·cases h
   constructor<;>show(0:Int)≤(m.w+1)/2<;>omega
 ·split at h
  ·cases h
  ·cases h
   refine⟨?_,?_⟩
   ·show(0:Int)≤1+2*mx0 (zUB (zD6 m.hs st))
    have:0≤mx0 (zUB (zD6 m.hs st)):=by
     unfold mx0
     split
     ·exact jM _
     ·rename_i hne
      exact zRE _ _ (zKS hne)
    omega
   ·show(0:Int)≤if yA5 (zKv m.hs st)=true then 3 else 1
    split<;>decide
theorem zTq{ts:List Th}{z:Th×Th}(h:z∈prs ts):z.1∈ts∧z.2∈ts:=by
 unfold prs at h
 obtain⟨h1,h2⟩:=List.of_mem_zip (a:=z.1) (b:=z.2) h
 exact⟨h1,List.mem_of_mem_drop h2⟩
def LeE(es es':Es):Prop:=∀k v,yAr es k=some v→∃v',yAr es' k=some v'∧v≤v'
theorem LeE.refl(es:Es):LeE es es:=fun k v h=>⟨v,h,jM _⟩
theorem LeE.trans{a b c:Es}(h:LeE a b)(k:LeE b c):LeE a c:=fun x v e=>by
 obtain⟨v',e',l'⟩:=h x v e
 obtain⟨v2,e2,l2⟩:=k x v' e'
 exact⟨v2,e2,by omega⟩
def yCi(ms:List Mom)(k:Int×Int)(v:Int):Prop:=(v=1∧k.2=k.1+1)∨∃l:Nat,l<5∧∃z∈prs (thg ms l),z.1.p=k.1∧z.2.p=k.2∧v=z.1.r+z.2.l+1
theorem zYj{m B C:Nat}(h:B≤C):zHM m B≤zHM m C:=by
 unfold zHM
 have:=Nat.mul_le_mul_left m h
 exact Nat.pow_le_pow_left (by omega) m
abbrev NB:Nat:=zHM 32 1048576
theorem zYp:NB<2 ^ 864:=by decide+kernel
theorem zUF{m B:Nat}(hm:m≤32)(hB:B≤1048576):zHM m B≤NB:=qo (zES hm) (zYj hB)
theorem zU9{x:Rat}{q M:Nat}{z:Int}(q0:0<q)(q1:q≤M)(hM:M≤NB)(e:x=(z:Rat)/((q:Int):Rat))(hz:z.natAbs≤M*q):Bz 1728 x:=by
 have h1:=zYp
 have h2:M*q≤NB*NB:=Nat.mul_le_mul hM (qo q1 hM)
 have h3:NB*NB<2 ^ 864*2 ^ 864:=Nat.mul_lt_mul_of_lt_of_le h1 (kf h1) (by decide+kernel)
 have h4:(2:Nat) ^ 864*2 ^ 864=2 ^ 1728:=by rw[←Nat.pow_add]
 rw[e,←jL]
 refine Bz.divInt (by omega) (jy (qo hz h2) (by rw[←h4];exact h3)) ?_
 rw[jx]
 exact jy (qo q1 hM) (qQ h1 (qY (by decide) (by decide)))
theorem GJ.bz{m:Nat}{N:Nat→Nat→Int}{t:Nat}{p:Nat→Nat}{A:Nat→Nat→Rat}(h:GJ m N t p A)(htm:t≤m){B:Nat}(hm:m≤31)(hB1:1≤B)(hB2:B≤1048576)(hB:∀r j,r<m→j≤m→(N r j).natAbs≤B):∀k j,k<m→j≤m→Bz 1728 (A k j):=fun k j hk hj=>by
 obtain⟨q,q0,q1,z,e,hz⟩:=h.bound htm hB1 hB k j hk hj
 exact zU9 q0 q1 (zUF (by omega) hB2) e hz
def InA(A B:Nat)(x:Rat):Prop:=∃k:Int,x=(k:Rat)/((A:Int):Rat)∧k.natAbs≤B*A
theorem InA.bz{A B n:Nat}{x:Rat}(h:InA A B x)(hA:0<A)(h1:A<2 ^ n)(h2:B*A<2 ^ n):Bz n x:=by
 obtain⟨k,rfl,hk⟩:=h
 rw[←jL]
 exact Bz.divInt (by omega) (by omega) (by omega)
def Ak(A:Nat):Prop:=A<2 ^ 1800
theorem InA.bzK{A B:Nat}{x:Rat}(h:InA A B x)(hA:0<A)(h1:Ak A)(hB:B≤2 ^ 60:=by omega):Bz 1900 x:=by
 refine h.bz hA (qQ h1 (qY (by decide) (by decide))) ?_
 refine jy (qS A hB) ?_
 refine qQ (Nat.mul_lt_mul_of_pos_left h1 (Nat.two_pow_pos _)) ?_
 rw[←Nat.pow_add]
 exact qY (by decide) (by decide)
theorem InA.add{A B C:Nat}{x y:Rat}(h:InA A B x)(g:InA A C y):InA A (B+C) (x+y):=by
 obtain⟨k,rfl,hk⟩:=h
 obtain⟨j,rfl,hj⟩:=g
 refine⟨k+j,by rw[kQ,jg,jg,jg,Rat.add_mul],?_⟩
 rw[Nat.add_mul]
 omega
theorem InA.neg{A B:Nat}{x:Rat}(h:InA A B x):InA A B (-x):=by
 obtain⟨k,rfl,hk⟩:=h
 refine⟨-k,by rw[Rat.intCast_neg,jg,jg,Rat.neg_mul],by omega⟩
theorem InA.sub{A B C:Nat}{x y:Rat}(h:InA A B x)(g:InA A C y):InA A (B+C) (x-y):=by
 rw[Rat.sub_eq_add_neg];exact h.add g.neg
theorem InA.int{A B:Nat}(hA:0<A){n:Int}(h:n.natAbs≤B):InA A B (n:Rat):=by
 refine⟨n*A,?_,?_⟩
 ·rw[ju,jg,Rat.mul_assoc,jT _ (by simp;omega),Rat.mul_one]
 ·rw[jF,jx];exact qS _ h
theorem InA.mono{A B C:Nat}{x:Rat}(h:InA A B x)(k:B≤C):InA A C x:=by
 obtain⟨j,e,hj⟩:=h
 exact⟨j,e,qo hj (qS _ k)⟩
structure Nds(ns:List Rat):Prop where
 len:ns.length≤30
 ne:ns≠[]
 ex:∃A:Nat,0<A∧Ak A∧∀q∈ns,InA A 1000 q
theorem Nds.bz{ns:List Rat}(h:Nds ns):∀q∈ns,Bz 1900 q:=fun q hq=>by
 obtain⟨A,h0,h1,h2⟩:=h.ex
 exact(h2 q hq).bzK h0 h1
theorem InA.muln{A B:Nat}{x:Rat}(h:InA A B x)(n:Int):InA A (n.natAbs*B) ((n:Rat)*x):=by
 obtain⟨k,rfl,hk⟩:=h
 refine⟨n*k,by rw[ju,jg,jg,Rat.mul_assoc],?_⟩
 rw[jF,Nat.mul_assoc]
 exact Nat.mul_le_mul_left _ hk
theorem zQm{n a c:Nat}(h:a≤c)(hc:c≤n)(f:Nat→Rat):Lw.sl (List.range' a (c-a)) f=sm n fun i=>if a≤i∧i<c then f i else 0:=by
 have hp:(List.range' a (c-a)).Perm ((List.range n).filter fun i=>decide (a≤i)&&decide (i<c)):=by
  rw[List.perm_ext_iff_of_nodup List.nodup_range' (List.nodup_range.filter _)]
  intro i
  simp only[List.mem_range'_1,jI,qC,qE,qp]
  omega
 rw[zKz hp]
 show Lw.sl _ f=Lw.sl (List.range n) (fun i=>if a≤i∧i<c then f i else 0)
 rw[←zJb (List.range n) (fun i=>decide (a≤i)&&decide (i<c)) (f:=fun i=>if a≤i∧i<c then f i else 0)]
 ·refine zB8 fun i hi=>?_
  have:=(jI.mp hi).2
  simp only[qE,qp] at this
  rw[qe this]
 ·intro i _ hi
  rw[qb (fun z=>by simp[z.1,z.2] at hi)]
theorem zNu(xs:List Nat)(f:Nat→Rat):zYR (xs.map f)=Lw.sl xs f:=by
 induction xs with
 |nil=>rfl
 |cons x r ih=>show f x+zYR (r.map f)=f x+Lw.sl r f;rw[ih]
structure Adr where
 x:Addr
 dx:Addr
 p1:Addr
 p2:Addr
 p3:Addr
 p4:Addr
 p5:Addr
 p7:Addr
def yCg(a:Adr)(R:Nat):List (Str×D):=[("rests",.ref a.p1),("gives",.ref a.p2),("spans",.ref a.p3),("leasts",.ref a.p4),("force",.ref a.p5),("whole",.int (R:Nat)),("tight",.ref a.p7)]
def fcD(R:Nat)(F:Nat→Rat):List D:=(List.range (R+1)).map fun k=>pR (F k)
def tgD(T:List Nat):List D:=T.map fun k=>D.int (k:Nat)
structure BalAt(tb:Tb)(O:Om)(a:Adr)(K:Tk)(F:Nat→Rat)(T:List Nat):Prop where
 x:O a.x=some (.ins tb.Balance a.dx (yCg a K.R))
 p1:O a.p1=some (.lst ((List.range K.n).map fun i=>D.int (K.rest i)))
 p2:O a.p2=some (.lst ((List.range K.n).map fun i=>D.int (K.give i)))
 p3:O a.p3=some (.lst ((List.range (K.R+1)).map fun k=>D.tup [.int (K.a k:Nat),.int (K.b k:Nat)]))
 p4:O a.p4=some (.lst ((List.range (K.R+1)).map fun k=>D.int (K.least k)))
 p5:O a.p5=some (.lst (fcD K.R F))
 p7:O a.p7=some (.lst (tgD T))
 n5:a.p5≠a.x∧a.p5≠a.p1∧a.p5≠a.p2∧a.p5≠a.p3∧a.p5≠a.p4∧a.p5≠a.p7
 n7:a.p7≠a.x∧a.p7≠a.p1∧a.p7≠a.p2∧a.p7≠a.p3∧a.p7≠a.p4
theorem BalAt.mono{tb:Tb}{O O':Om}{a:Adr}{K:Tk}{F:Nat→Rat}{T:List Nat}(h:BalAt tb O a K F T)(s:Sb O O'):BalAt tb O' a K F T:=
 ⟨s _ _ h.x,s _ _ h.p1,s _ _ h.p2,s _ _ h.p3,s _ _ h.p4,s _ _ h.p5,s _ _ h.p7,h.n5,h.n7⟩
structure KOk(K:Tk):Prop where
 ok:K.Ok
 n:K.n≤60
 n0:0<K.n
 R:K.R≤99
 ab:∀k,k≤K.R→K.a k<K.b k∧K.b k≤K.n
 wh:K.a K.R=0∧K.b K.R=K.n
 rest:∀i,i<K.n→(K.rest i).natAbs≤10000
 give:∀i,i<K.n→(K.give i).natAbs≤300
 least:∀k,k≤K.R→(K.least k).natAbs≤100000
 dm:min (K.R+1) K.n≤31
theorem yBO(K:Tk)(k i:Nat):K.e k i=if K.a k≤i∧i<K.b k then 1 else 0:=by
 unfold Tk.e Tk.on
 by_cases c:K.a k≤i∧i<K.b k
 ·rw[qe c];simp[c.1,c.2]
 ·rw[qb c]
  have:¬(decide (K.a k≤i)&&decide (i<K.b k))=true:=by simpa using c
  rw[qb this]
def SzF(K:Tk)(F:Nat→Rat):Prop:=∃q:Nat,0<q∧q≤NB∧∀k,InA q NB (F k)
theorem zXo{q c:Nat}{x:Rat}(q0:0<q)(q1:q≤NB)(hc:c≤2 ^ 40)(h:InA q (c*NB) x):Bz 1800 x:=by
 have h1:=zYp
 have h3:NB*NB<2 ^ 864*2 ^ 864:=Nat.mul_lt_mul_of_lt_of_le h1 (kf h1) (by decide+kernel)
 have h4:(2:Nat) ^ 864*2 ^ 864=2 ^ 1728:=by rw[←Nat.pow_add]
 have h5:c*NB*q≤2 ^ 40*(NB*NB):=by
  rw[Nat.mul_assoc]
  exact Nat.mul_le_mul hc (Nat.mul_le_mul_left NB q1)
 have h6:(2:Nat) ^ 40*2 ^ 1728=2 ^ 1768:=by rw[←Nat.pow_add]
 have h7:2 ^ 40*(NB*NB)<2 ^ 40*2 ^ 1728:=Nat.mul_lt_mul_of_pos_left (by rw[←h4];exact h3) (by decide)
 have h8:(2:Nat) ^ 1768≤2 ^ 1800:=qY (by decide) (by decide)
 refine h.bz q0 (jy q1 (qQ h1 (qY (by decide) (by decide)))) ?_
 exact jy h5 (qQ (by rw[←h6];exact h7) h8)
theorem zSg{A:Type}{q c:Nat}{f:A→Rat}(q0:0<q):∀{xs:List A},(∀x∈xs,InA q c (f x))→InA q (xs.length*c) (Lw.sl xs f)
 |[],_=>by
  refine⟨0,?_,by simp⟩
  show(0:Rat)=_
  rw[jg]
  exact(jA _).symm
 |x::r,h=>by
  have h1:=h x (by simp)
  have h2:=zSg q0 (xs:=r) fun y hy=>h y (by simp[hy])
  have h3:=h1.add h2
  refine h3.mono ?_
  show c+r.length*c≤(r.length+1)*c
  rw[Nat.add_mul];omega
theorem yBK{K:Tk}{q:Nat}{F:Nat→Rat}(q0:0<q)(h:∀k,InA q NB (F k))(k i:Nat):InA q NB (F k*K.e k i):=by
 unfold Tk.e
 split
 ·rw[Rat.mul_one];exact h k
 ·refine⟨0,?_,by simp⟩
  rw[jz,jg]
  exact(jA _).symm
theorem zYo:0<NB:=by decide+kernel
theorem zTp{K:Tk}{q:Nat}{F:Nat→Rat}(q0:0<q)(hR:K.R≤99)(h:∀k,InA q NB (F k))(i:Nat):InA q (100*NB) (K.pull F i):=by
 unfold Tk.pull
 have:=zSg (c:=NB) q0 (xs:=List.range (K.R+1)) (f:=fun k=>F k*K.e k i) fun k _=>yBK q0 h k i
 rw[jD] at this
 exact this.mono (qS NB (by omega))
theorem zXf{K:Tk}(hK:KOk K){q:Nat}{F:Nat→Rat}(q0:0<q)(h:∀k,InA q NB (F k)){i:Nat}(hi:i<K.n):InA q (41000*NB) (K.len F i):=by
 have h1:=(zTp q0 hK.R h i).muln (K.give i)
 have h2:=hK.rest i hi
 have h3:=hK.give i hi
 unfold Tk.len
 refine((InA.int q0 (B:=10000) h2).add h1).mono ?_
 have h4:(K.give i).natAbs*(100*NB)≤300*(100*NB):=qS _ h3
 have h5:=zYo
 generalize NB=W at*
 omega
theorem SzF.len{K:Tk}(hK:KOk K){F:Nat→Rat}(h:SzF K F){i:Nat}(hi:i<K.n):Bz 1800 (K.len F i):=by
 obtain⟨q,q0,q1,hq⟩:=h
 exact zXo q0 q1 (by decide) (zXf hK q0 hq hi)
theorem SzF.f{K:Tk}{F:Nat→Rat}(h:SzF K F)(k:Nat):Bz 1800 (F k):=by
 obtain⟨q,q0,q1,hq⟩:=h
 exact zXo (c:=1) q0 q1 (by decide) (by rw[Nat.one_mul];exact hq k)
theorem zN2{K:Tk}(hK:KOk K){k:Nat}(hk:k≤K.R)(X:Nat→Rat):zYR ((List.range' (K.a k) (K.b k-K.a k)).map X)=K.rod X k:=by
 have h1:=hK.ab k hk
 rw[zNu,zQm (n:=K.n) (by omega) (by omega)]
 unfold Tk.rod
 refine zAv fun i _=>?_
 rw[yBO]
 split
 ·grind
 ·grind
theorem BalAt.setF{tb:Tb}{O:Om}{a:Adr}{K:Tk}{F F':Nat→Rat}{T:List Nat}(h:BalAt tb O a K F T):BalAt tb (DL.up O a.p5 (.lst (fcD K.R F'))) a K F' T:=by
 obtain⟨n0,n1,n2,n3,n4,n7⟩:=h.n5
 exact⟨by rw[up_ne n0.symm];exact h.x,by rw[up_ne n1.symm];exact h.p1,by rw[up_ne n2.symm];exact h.p2,by rw[up_ne n3.symm];exact h.p3,by rw[up_ne n4.symm];exact h.p4,up_same,by rw[up_ne n7.symm];exact h.p7,h.n5,h.n7⟩
def Frm(a:Adr)(O O':Om):Prop:=∀c o,c≠a.p5→c≠a.p7→O c=some o→O' c=some o
theorem Frm.refl(a:Adr)(O:Om):Frm a O O:=fun _ _ _ _ e=>e
theorem Frm.trans{a:Adr}{O O1 O2:Om}(h:Frm a O O1)(k:Frm a O1 O2):Frm a O O2:=fun c o n m e=>k c o n m (h c o n m e)
theorem zUf{K:Tk}(hK:KOk K){i:Nat}(hi:i<K.n):K.on K.R i=true:=hK.ok.whole i hi
def r0:Rod:=⟨0,1,0⟩
def zAJ(cs:List zEW)(rs:List Rod)(w:Int):Tk where
 n:=cs.length
 R:=rs.length
 rest:=fun i=>(cs.getD i (0,1)).1
 give:=fun i=>(cs.getD i (0,1)).2
 a:=fun k=>if k<rs.length then(rs.getD k r0).a.toNat else 0
 b:=fun k=>if k<rs.length then(rs.getD k r0).b.toNat else cs.length
 least:=fun k=>if k<rs.length then(rs.getD k r0).l else w
local macro_rules | `(tactic|simpa! only[$xs,*])=>`(tactic|simp only[zBK,zDS,zFI,zBZ,zAo,zFG,zRu,zEp,zSx,zJR,dIf,dOp,dUn,zAd,dC,dI,dIc,zDL,zPo,zK5,dFd,zK6,zOT,zSz,dLt,dLe,dGt,dGe,zE9,zFU,DL.isNon,zL2,zL1,zLZ,zL3,zL0,dSl,zCu,zAW,dCB,zIr,zIt,zIs,zPq,zGJ,zDp,zK8,zSv,zIF,zG7,zK2,isC,seqOf,lstOf,zAc,zAg,zD2,zMm,zBd,zJO,zAH,zCo,zEo,gN,zBP,zAp,gT,zEj,zEl,zOV,zSG,zFL,zFK,zAX,zMg,zMf,zRs,zLR,zLQ,zQ9,zRr,zQ8,zIc,zIq,zFY,zIf,zF7,zII,zIe,zF9,zLE,zCC,zFr,zFs,zFt,zFP,zG8,dLM,zNa,isL,zB5,zCv,zOU,zFH,zJM,zOS,zSC,dJs,zJW,zJU,zDG,zFV,zBX,zDj,zEm,DL.keyOf,zEN,zJ5,zCI,zBY,zBA,zJN,zEX,zDH,zCH,zCf,zJV,zJT,zIY,zOW,zJS,zJ1,zJ0,zM8,zAJ,zCG,zJL,zJP,zJQ,zGY,zQV,zCe,zJ2,zFa,zFM,zFN,zSw,zSB,zJ6,zDI,zCJ,zFJ,zSE,zCA,zJ3,zSD,jp,qJ,qB,jl,jm,zHd,zIV,zKm,zKl,zKk,zKj,zJE,zJD,zJC,zJB,zJA,zJz,up_same,qi,qT,jf,qZ,qk,jk,qX,reduceIte,zMp,zGI,zRw,zRv,zC3,zRz,zGP,zZa,dLc,zHE,zCM,$xs,*])
local macro_rules | `(tactic|simp_all! only[$xs,*])=>`(tactic|simp only[zBK,zDS,zFI,zBZ,zAo,zFG,zRu,zEp,zSx,zJR,dIf,dOp,dUn,zAd,dC,dI,dIc,zDL,zPo,zK5,dFd,zK6,zOT,zSz,dLt,dLe,dGt,dGe,dEq,dNe,zE9,zFU,DL.isNon,dIx,dSl,zCu,zAW,dCB,zC4,zPq,zGJ,zDp,zK8,zSv,zIF,zG7,zK2,isC,seqOf,lstOf,zAc,zAg,zD2,zMm,zBd,zJO,zAH,zCo,zEo,gN,zBP,zAp,gT,zEj,zEl,zOV,zSG,zFL,zFK,zAX,zCC,zFr,zFs,zFt,zFP,zG8,dLM,zNa,isL,zB5,zCv,zOU,zFH,zJM,zOS,zSC,dJs,zJW,zJU,zDG,zFV,zBX,zDj,zEm,DL.keyOf,zEN,zJ5,zCI,zBY,zBA,zJN,zEX,zDH,zCH,zCf,zJV,zJT,zIY,zOW,zJS,zJ1,zJ0,zM8,zAJ,zCG,zJL,zJP,zJQ,zGY,zQV,zCe,zJ2,zFa,zFM,zFN,zSw,zSB,zJ6,zDI,zCJ,zFJ,zSE,zCA,zJ3,zSD,jp,qJ,qB,jl,jm,zHd,zIV,zKm,zKl,zKk,zKj,zJE,zJD,zJC,zJB,zJA,zJz,up_same,qi,qT,jf,qZ,qk,jk,qX,reduceIte,zMp,zGI,zRw,zRv,zC3,zRz,zGP,zZa,dLc,zHE,zCM,$xs,*])
local macro_rules | `(tactic|dsimp! only[$xs,*])=>`(tactic|simp only[zBK,zDS,zFI,zBZ,zAo,zFG,zRu,zEp,zSx,zJR,dIf,dOp,dUn,zAd,dC,dI,dIc,zDL,zPo,zK5,dFd,zK6,zOT,zSz,dLt,dLe,dGt,dGe,zE9,zFU,DL.isNon,zL2,zL1,zLZ,zL3,zL0,dSl,zCu,zAW,dCB,zIr,zIt,zIs,zPq,zGJ,zDp,zK8,zSv,zIF,zG7,zK2,isC,seqOf,lstOf,zAc,zAg,zD2,zMm,zBd,zJO,zAH,zCo,zEo,gN,zBP,zAp,gT,zEj,zEl,zOV,zSG,zFL,zFK,zAX,zMg,zMf,zRs,zLR,zLQ,zQ9,zRr,zQ8,zIc,zIq,zFY,zIf,zF7,zII,zIe,zF9,zLE,zCC,zFr,zFs,zFt,zFP,zG8,dLM,zNa,isL,zB5,zCv,zOU,zFH,zJM,zOS,zSC,dJs,zJW,zJU,zDG,zFV,zBX,zDj,zEm,DL.keyOf,zEN,zJ5,zCI,zBY,zBA,zJN,zEX,zDH,zCH,zCf,zJV,zJT,zIY,zOW,zJS,zJ1,zJ0,zM8,zAJ,zCG,zJL,zJP,zJQ,zGY,zQV,zCe,zJ2,zFa,zFM,zFN,zSw,zSB,zJ6,zDI,zCJ,zFJ,zSE,zCA,zJ3,zSD,jp,qJ,qB,jl,jm,zHd,zIV,zKm,zKl,zKk,zKj,zJE,zJD,zJC,zJB,zJA,zJz,up_same,qi,qT,jf,qZ,qk,jk,qX,reduceIte,$xs,*])
local macro_rules | `(tactic|simp! only[$xs,*])=>`(tactic|simp only[zBK,zDS,zFI,zBZ,zAo,zFG,zRu,zEp,zSx,zJR,dIf,dOp,dUn,zAd,dC,dI,dIc,zDL,zPo,zK5,dFd,zK6,zOT,zSz,dLt,dLe,dGt,dGe,dEq,dNe,zE9,zFU,DL.isNon,dIx,dSl,zCu,zAW,dCB,zC4,zPq,zGJ,zDp,zK8,zSv,zIF,zG7,zK2,isC,seqOf,lstOf,zAc,zAg,zD2,zMm,zBd,zJO,zAH,zCo,zEo,gN,zBP,zAp,gT,zEj,zEl,zOV,zSG,zFL,zFK,zAX,zCC,zFr,zFs,zFt,zFP,zG8,dLM,zNa,isL,zB5,zCv,zOU,zFH,zJM,zOS,zSC,dJs,zJW,zJU,zDG,zFV,zBX,zDj,zEm,DL.keyOf,zEN,zJ5,zCI,zBY,zBA,zJN,zEX,zDH,zCH,zCf,zJV,zJT,zIY,zOW,zJS,zJ1,zJ0,zM8,zAJ,zCG,zJL,zJP,zJQ,zGY,zQV,zCe,zJ2,zFa,zFM,zFN,zSw,zSB,zJ6,zDI,zCJ,zFJ,zSE,zCA,zJ3,zSD,jp,qJ,qB,jl,jm,zHd,zIV,zKm,zKl,zKk,zKj,zJE,zJD,zJC,zJB,zJA,zJz,up_same,qi,qT,jf,qZ,qk,jk,qX,reduceIte,$xs,*])
structure TOk(cs:List zEW)(rs:List Rod)(w:Int):Prop where
 n0:0<cs.length
 n:cs.length≤60
 R:rs.length≤99
 okc:∀c∈cs,0≤c.1∧c.1≤10000∧1≤c.2∧c.2≤300
 okr:∀r∈rs,0≤r.a∧r.a<r.b∧r.b≤cs.length∧r.l.natAbs≤100000
 okw:w.natAbs≤100000
 dm:rs.length≤30∨cs.length≤31
theorem TOk.ok{cs:List zEW}{rs:List Rod}{w:Int}(h:TOk cs rs w):KOk (zAJ cs rs w):=by
 have hc:∀i,i<cs.length→0≤(cs.getD i (0,1)).1∧(cs.getD i (0,1)).1≤10000∧1≤(cs.getD i (0,1)).2∧(cs.getD i (0,1)).2≤300:=fun i hi=>h.okc _ (zDK hi)
 have hr:∀k,k<rs.length→0≤(rs.getD k r0).a∧(rs.getD k r0).a<(rs.getD k r0).b∧(rs.getD k r0).b≤cs.length∧(rs.getD k r0).l.natAbs≤100000:=fun k hk=>h.okr _ (zDK hk)
 have n0:=h.n0
 have hab:∀k,k≤rs.length→(zAJ cs rs w).a k<(zAJ cs rs w).b k∧(zAJ cs rs w).b k≤cs.length:=fun k hk=>by
  show(if k<rs.length then(rs.getD k r0).a.toNat else 0)<(if k<rs.length then(rs.getD k r0).b.toNat else cs.length)∧(if k<rs.length then(rs.getD k r0).b.toNat else cs.length)≤cs.length
  by_cases c:k<rs.length
  ·rw[qe c,qe c]
   have:=hr k c
   omega
  ·rw[qb c,qb c];omega
 have hw1:(zAJ cs rs w).a rs.length=0:=qb (Nat.lt_irrefl _)
 have hw2:(zAJ cs rs w).b rs.length=cs.length:=qb (Nat.lt_irrefl _)
 refine⟨⟨fun i hi=>(hc i hi).2.2.1,fun i hi=>?_⟩,h.n,h.n0,h.R,hab,⟨hw1,hw2⟩,fun i hi=>?_,fun i hi=>?_,fun k hk=>?_,?_⟩
 ·show(decide ((zAJ cs rs w).a rs.length≤i)&&decide (i<(zAJ cs rs w).b rs.length))=true
  rw[hw1,hw2]
  have:i<cs.length:=hi
  simp[this]
 ·have:=hc i hi
  show((cs.getD i (0,1)).1).natAbs≤10000
  omega
 ·have:=hc i hi
  show((cs.getD i (0,1)).2).natAbs≤300
  omega
 ·show(if k<rs.length then(rs.getD k r0).l else w).natAbs≤100000
  by_cases c:k<rs.length
  ·rw[qe c];exact(hr k c).2.2.2
  ·rw[qb c];exact h.okw
 ·have:=h.dm
  show min (rs.length+1) cs.length≤31
  omega
def f1(p1:Addr):List (Str×D):=[("rests",.ref p1)]
def f2(p1 p2:Addr):List (Str×D):=[("rests",.ref p1),("gives",.ref p2)]
def f3(p1 p2 p3:Addr):List (Str×D):=[("rests",.ref p1),("gives",.ref p2),("spans",.ref p3)]
section
variable {cs:List zEW}{rs:List Rod}{w:Int}
theorem TOk.rod(h:TOk cs rs w){k:Nat}(hk:k<rs.length):((zAJ cs rs w).a k:Int)=(rs.getD k r0).a∧((zAJ cs rs w).b k:Int)=(rs.getD k r0).b∧(zAJ cs rs w).least k=(rs.getD k r0).l:=by
 have:=h.okr _ (zDK (d:=r0) hk)
 refine⟨?_,?_,qe hk⟩
 ·show((if k<rs.length then(rs.getD k r0).a.toNat else 0:Nat):Int)=_
  rw[qe hk];omega
 ·show((if k<rs.length then(rs.getD k r0).b.toNat else cs.length:Nat):Int)=_
  rw[qe hk];omega
end
def Told(K:Tk)(lo:Bool)(F:Nat→Rat):Prop:=if lo=true then∃F1,K.Kkt false F1∧((K.rod (K.len F1) K.R≤(K.least K.R:Rat)∧F=F1)∨(¬K.rod (K.len F1) K.R≤(K.least K.R:Rat)∧K.Kkt true F)) else K.Kkt true F
theorem Told.held{K:Tk}{F:Nat→Rat}(h:Told K false F):K.Kkt true F:=by unfold Told at h;rw[qb qP] at h;exact h
theorem Told.of{K:Tk}{F:Nat→Rat}(h:K.Kkt true F):Told K false F:=by unfold Told;rw[qb qP];exact h
theorem zZy{K:Tk}(hK:KOk K)(X:Nat→Rat):K.rod X K.R=sm K.n X:=by
 unfold Tk.rod
 refine zAv fun i hi=>?_
 unfold Tk.e
 rw[zUf hK hi,qe rfl,Rat.one_mul]
structure GRd(n:Int)(rods:List Rod):Prop where
 fw:Fwd rods
 hi:∀r∈rods,r.b≤n
 l0:∀r∈rods,0≤r.l
 l1:∀r∈rods,r.l≤999
theorem GRd.snoc{n:Int}{rods:List Rod}{r:Rod}(h:GRd n rods)(h1:0≤r.a)(h2:r.a<r.b)(h3:r.b≤n)(h4:0≤r.l)(h5:r.l≤999):GRd n (rods++[r]):=by
 have key:∀{P:Rod→Prop},(∀q∈rods,P q)→P r→∀q∈rods++[r],P q:=fun hq hr q m=>by
  rcases qD.mp m with m|m
  ·exact hq q m
  ·rw[qh.mp m];exact hr
 exact⟨key h.fw ⟨h1,h2⟩,key h.hi h3,key h.l0 h4,key h.l1 h5⟩
def plR(K:Tk)(F:Nat→Rat):List Rat:=(List.range (K.n+1)).map fun i=>sm i (K.len F)
theorem zDw{K:Tk}{F:Nat→Rat}{i:Nat}(hi:i≤K.n):(plR K F).getD i 0=sm i (K.len F):=by
 unfold plR
 rw[qw,qF,kl (by omega)]
 rfl
section
variable {cs:List zEW}{rs:List Rod}{w v:Int}{F Ff Fh Fl Fv Fp:Nat→Rat}
theorem TOk.energy(h:TOk cs rs w)(F:Nat→Rat):esR cs (plR (zAJ cs rs w) F) cs.length=(zAJ cs rs w).Q F:=by
 rw[Tk.Q_pull]
 have hn:(zAJ cs rs w).n=cs.length:=rfl
 have:∀i,i≤cs.length→esR cs (plR (zAJ cs rs w) F) i=sm i fun i=>((zAJ cs rs w).give i:Rat)*((zAJ cs rs w).pull F i*(zAJ cs rs w).pull F i):=fun i=>by
  induction i with
  |zero=>intro _;rfl
  |succ i ih=>
   intro hi
   rw[zBC,←ih (by omega)]
   show _+tmR cs _ i=_
   congr 1
   unfold tmR zYV
   rw[zDw (by rw[hn];omega),zDw (by rw[hn];omega),zBC]
   have e1:((zAJ cs rs w).give i:Rat)=(((cs.getD i (0,1)).2:Int):Rat):=rfl
   have e2:sm i ((zAJ cs rs w).len F)+(zAJ cs rs w).len F i-sm i ((zAJ cs rs w).len F)-(((cs.getD i (0,1)).1:Int):Rat)=((zAJ cs rs w).give i:Rat)*(zAJ cs rs w).pull F i:=by
    have e3:(zAJ cs rs w).len F i=(((cs.getD i (0,1)).1:Int):Rat)+((zAJ cs rs w).give i:Rat)*(zAJ cs rs w).pull F i:=rfl
    rw[e3];grind
   rw[e2,←e1]
   have g0:=h.ok.ok.pos (i:=i) (by rw[hn];omega)
   generalize ((zAJ cs rs w).give i:Rat)=g at*
   have:g≠0:=fun z=>by rw[z] at g0;exact absurd g0 ko
   grind
 exact this _ (qG _)
theorem yAm(h:(zAJ cs rs w).Kk F):(zAJ cs rs v).Kk F:=by
 have e:∀k,k<rs.length→(zAJ cs rs v).sht F k=(zAJ cs rs w).sht F k:=fun k hk=>by
  unfold Tk.sht
  have e1:(zAJ cs rs v).least k=(rs.getD k r0).l:=qe hk
  have e2:(zAJ cs rs w).least k=(rs.getD k r0).l:=qe hk
  rw[e1,e2]
  rfl
 exact⟨h.nn,fun k hk=>by rw[e k hk];exact h.kept k hk,fun k hk z=>by rw[e k hk];exact h.comp k hk z⟩
theorem zOn:(zAJ cs rs w).least (zAJ cs rs w).R=w:=qb (Nat.lt_irrefl _)
theorem Tk.Kkt.kk{K:Tk}{held:Bool}{F:Nat→Rat}(h:K.Kkt held F):K.Kk F:=⟨h.nn,h.kept,h.comp⟩
theorem zL8(h:(zAJ cs rs w).Kkt true F):(zAJ cs rs w).tot F=(w:Rat):=by
 have:=h.whole
 rw[qe rfl] at this
 unfold Tk.sht at this
 rw[zOn] at this
 unfold Tk.tot
 grind
theorem zXu{K:Tk}{F:Nat→Rat}(h:K.Kkt false F):F K.R=0:=by
 have:=h.whole
 rwa [qb qP] at this
theorem Told.loose(h:Told (zAJ cs rs w) true F):∃F1,(zAJ cs rs v).Kk F1∧F1 rs.length=0∧(((zAJ cs rs v).tot F1≤(w:Rat)∧F=F1)∨((w:Rat)<(zAJ cs rs v).tot F1∧(zAJ cs rs v).Kk F∧(zAJ cs rs v).tot F=(w:Rat))):=by
 unfold Told at h
 rw[qe rfl] at h
 obtain⟨F1,h1,h2⟩:=h
 rw[zOn] at h2
 refine⟨F1,yAm h1.kk,zXu h1,?_⟩
 rcases h2 with⟨a,rfl⟩|⟨a,b⟩
 ·exact .inl ⟨a,rfl⟩
 ·exact .inr ⟨Rat.not_le.mp a,yAm b.kk,zL8 b⟩
theorem Told.heldA(h:Told (zAJ cs rs w) false F):(zAJ cs rs v).Kk F∧(zAJ cs rs v).tot F=(w:Rat):=⟨yAm h.held.kk,zL8 h.held⟩
theorem zSP{K:Tk}{F H:Nat→Rat}(h:∀i,i<K.n→K.len F i=K.len H i):K.tot F=K.tot H:=zAv fun i hi=>by rw[h i hi]
theorem TOk.push(ht:TOk cs rs w)(h:Told (zAJ cs rs w) true Ff)(g:Told (zAJ cs rs w) true Fp)(c:(zAJ cs rs w).tot Ff<(w:Rat)):Fp rs.length=0:=by
 obtain⟨F1,a1,a2,a3⟩:=h.loose (v:=w)
 obtain⟨F2,b1,b2,b3⟩:=g.loose (v:=w)
 have e:=zSP (a1.free ht.ok.ok b1 a2 b2)
 rcases b3 with⟨b3,rfl⟩|⟨b3,b4,b5⟩
 ·exact b2
 ·rcases a3 with⟨a3,rfl⟩|⟨a3,a4,a5⟩
  ·grind
  ·grind
end
theorem Bag.sb{b:Addr}{O O':Om}(h:Bag O b)(s:Sb O O'):Bag O' b:=by
 obtain⟨c,cells,pos,rem,seed,cnt,h1,h2,h3⟩:=h
 exact⟨c,cells,pos,rem,seed,cnt,s _ _ h1,s _ _ h2,h3⟩
theorem GRd.tok{cs:List zEW}{rods:List Rod}{w:Int}(h:GRd (cs.length:Nat) rods)(n0:0<cs.length)(n1:cs.length≤60)(hr:rods.length≤30)(hc:∀c∈cs,zYq c)(w0:0≤w)(w1:w≤9999):TOk cs rods w:=
 ⟨n0,n1,qo hr (by decide),fun c m=>by have hh:=hc c m;have h1:=hh.1;have h2:=hh.2.1;have h3:=hh.2.2.1;have h4:=hh.2.2.2;omega,fun r m=>by have:=h.fw r m;have:=h.hi r m;have:=h.l0 r m;have:=h.l1 r m;omega,by omega,.inl hr⟩
theorem zTs{K:Tk}{F:Nat→Rat}:(plR K F).length=K.n+1:=by unfold plR;rw[qd,jD]
theorem InA.two{q c m:Nat}{x:Rat}(q0:0<q)(h:InA q c x)(h1:q<2 ^ m)(h2:c*q<2 ^ m):Bz m x:=h.bz q0 h1 h2
theorem InA.den{q c:Nat}{x:Rat}(q0:0<q)(h:InA q c x):x.den≤q:=by
 obtain⟨k,rfl,_⟩:=h
 have hq:(0:Int)<(q:Int):=by omega
 rw[←jL]
 have e:=zLV (p:=k) hq
 have l:=zSb (p:=k) hq
 rw[e] at l
 simpa [ptR] using l.2
theorem zU7(P:Nat→Rat)(a:Nat):∀m,Lw.sl (List.range' a m) (fun i=>P (i+1)-P i)=P (a+m)-P a
 |0=>by
  show(0:Rat)=P a-P a
  grind
 |m+1=>by
  rw[List.range'_1_concat,zJc,zU7 P a m]
  show _+(P (a+m+1)-P (a+m)+0)=P (a+m+1)-P a
  grind
theorem zWc{K:Tk}(hK:KOk K){k:Nat}(hk:k≤K.R)(P:Nat→Rat):K.rod (fun i=>P (i+1)-P i) k=P (K.b k)-P (K.a k):=by
 have h1:=hK.ab k hk
 rw[←zN2 hK hk,zNu,zU7]
 congr 2
 omega
section
variable {cs:List zEW}{rs:List Rod}{w:Int}
theorem TOk.costs(h:TOk cs rs w)(ps:List Rat):esR cs ps cs.length=(zAJ cs rs w).cost fun i=>ps.getD (i+1) 0-ps.getD i 0:=by
 have:∀i,esR cs ps i=sm i fun i=>tmR cs ps i:=fun i=>by
  induction i with
  |zero=>rfl
  |succ i ih=>rw[zBC,←ih];rfl
 rw[this]
 rfl
theorem TOk.dearer(h:TOk cs rs w){F:Nat→Rat}(hF:Told (zAJ cs rs w) false F){ps:List Rat}(hl:ps.length=cs.length+1)(h0:ps.getD 0 0=0)(hn:ps.getD cs.length 0=(w:Rat))(hr:∀r∈rs,(r.l:Rat)≤ps.getD r.b.toNat 0-ps.getD r.a.toNat 0)(hne:ps≠plR (zAJ cs rs w) F):(zAJ cs rs w).Q F<esR cs ps cs.length:=by
 have hK:=h.ok
 obtain⟨a1,a2⟩:=hF.heldA (v:=w)
 rw[h.costs]
 refine a1.dearer hK.ok (fun k hk=>?_) ?_ fun z=>hne ?_
 ·rw[zWc hK (kf hk) fun i=>ps.getD i 0]
  obtain⟨ea,eb,el⟩:=h.rod hk
  have:=hr _ (zDK (d:=r0) hk)
  rw[el]
  rw[←ea,←eb,jN,jN] at this
  exact this
 ·rw[zWc hK (qG _) fun i=>ps.getD i 0,a2]
  have e1:(zAJ cs rs w).a (zAJ cs rs w).R=0:=hK.wh.1
  have e2:(zAJ cs rs w).b (zAJ cs rs w).R=cs.length:=hK.wh.2
  rw[e1,e2,h0,hn]
  grind
 ·have hn':(zAJ cs rs w).n=cs.length:=rfl
  have key:∀i,i≤cs.length→ps.getD i 0=sm i ((zAJ cs rs w).len F):=fun i=>by
   induction i with
   |zero=>intro _;exact h0
   |succ i ih=>
    intro hi
    rw[zBC,←ih (by omega),←z i (by rw[hn'];omega)]
    grind
  apply List.ext_getElem
  ·rw[hl];unfold plR;rw[qd,jD,hn']
  ·intro i h1 h2
   have:=key i (by omega)
   rw[qw,qg h1] at this
   have g2:=zDw (K:=zAJ cs rs w) (F:=F) (i:=i) (by rw[hn'];omega)
   rw[qw,qg h2] at g2
   exact this.trans g2.symm
end
theorem zVs(n:Nat)(f:Nat→Rat):sm n f=sm n fun i=>f (n-1-i):=by
 have h1:∀m,m≤n→sm m f=Lw.sl (List.range' (n-m) m) fun i=>f (n-1-i):=fun m=>by
  induction m with
  |zero=>intro _;rfl
  |succ m ih=>
   intro hm
   rw[zBC,ih (by omega)]
   have e:n-m=n-(m+1)+1:=by omega
   rw[List.range'_succ,←e]
   show _=f (n-1-(n-(m+1)))+_
   have e2:n-1-(n-(m+1))=m:=by omega
   rw[e2]
   grind
 rw[h1 n (qG _),Nat.sub_self,←List.range_eq_range']
structure Pos(cs:List zEW)(rs:List Rod)(ps:List Rat):Prop where
 len:ps.length=cs.length+1
 z:ps.getD 0 0=0
 held:∀r∈rs,(r.l:Rat)≤ps.getD r.b.toNat 0-ps.getD r.a.toNat 0
structure Bs(cs:List zEW)(rs:List Rod)(ok:Rat→Prop)(ps:List Rat):Prop where
 pos:Pos cs rs ps
 okl:ok (ps.getD cs.length 0)
 best:∀qs,Pos cs rs qs→ok (qs.getD cs.length 0)→qs≠ps→esR cs ps cs.length<esR cs qs cs.length
theorem Bs.uniq{cs:List zEW}{rs:List Rod}{ok:Rat→Prop}{ps qs:List Rat}(h:Bs cs rs ok ps)(g:Bs cs rs ok qs):ps=qs:=jh fun z=>by
 have h1:=h.best qs g.pos g.okl (fun e=>z e.symm)
 have h2:=g.best ps h.pos h.okl z
 grind
def TB(cs:List zEW)(rs:List Rod)(w:Int)(lo:Bool)(ps:List Rat):Prop:=
 if lo=true then∃p1,Bs cs rs (fun _=>True) p1∧((p1.getD cs.length 0≤(w:Rat)∧ps=p1)∨((w:Rat)<p1.getD cs.length 0∧Bs cs rs (fun x=>x=(w:Rat)) ps)) else Bs cs rs (fun x=>x=(w:Rat)) ps
theorem TB.uniq{cs:List zEW}{rs:List Rod}{w:Int}{lo:Bool}{ps qs:List Rat}(h:TB cs rs w lo ps)(g:TB cs rs w lo qs):ps=qs:=by
 cases lo with
 |false=>exact Bs.uniq (ok:=fun x=>x=(w:Rat)) (by unfold TB at h;rwa [qb qP] at h) (by unfold TB at g;rwa [qb qP] at g)
 |true=>
  unfold TB at h g
  rw[qe rfl] at h g
  obtain⟨p1,a1,a2⟩:=h
  obtain⟨q1,b1,b2⟩:=g
  have e:=a1.uniq b1
  subst e
  rcases a2 with⟨a3,rfl⟩|⟨a3,a4⟩<;>rcases b2 with⟨b3,rfl⟩|⟨b3,b4⟩
  ·rfl
  ·grind
  ·grind
  ·exact a4.uniq b4
theorem TB.pos{cs:List zEW}{rs:List Rod}{w:Int}{lo:Bool}{ps:List Rat}(h:TB cs rs w lo ps):Pos cs rs ps:=by
 cases lo with
 |false=>unfold TB at h;rw[qb qP] at h;exact h.pos
 |true=>
  unfold TB at h
  rw[qe rfl] at h
  obtain⟨p1,a1,a2⟩:=h
  rcases a2 with⟨a3,rfl⟩|⟨a3,a4⟩
  ·exact a1.pos
  ·exact a4.pos
theorem TB.bs{cs:List zEW}{rs:List Rod}{w:Int}{ps:List Rat}(h:TB cs rs w false ps):Bs cs rs (fun x=>x=(w:Rat)) ps:=by unfold TB at h;rwa [qb qP] at h
theorem Tk.Kk.least_free{K:Tk}(ok:K.Ok){F X:Nat→Rat}(h:K.Kk F)(z:F K.R=0)(hx:∀k,k<K.R→(K.least k:Rat)≤K.rod X k):K.Q F+K.dist X (K.len F)≤K.cost X:=by
 rw[Tk.cost_eq ok F X]
 have:0≤sm (K.R+1) fun k=>F k*(K.rod X k-K.rod (K.len F) k):=by
  refine zCX fun k hk=>?_
  have hk:=qC.mp hk
  by_cases e:k=K.R
  ·subst e
   rw[z];grind
  ·have hlt:k<K.R:=by omega
   by_cases c:F k=0
   ·rw[c];grind
   ·have hs:=h.comp k hlt c
    unfold Tk.sht at hs
    exact ji (h.nn k hlt) (by have:=hx k hlt;grind)
 grind
section
variable {cs:List zEW}{rs:List Rod}{w:Int}
theorem TOk.rod_of(h:TOk cs rs w){qs:List Rat}(q:Pos cs rs qs):∀k,k<(zAJ cs rs w).R→((zAJ cs rs w).least k:Rat)≤(zAJ cs rs w).rod (fun i=>qs.getD (i+1) 0-qs.getD i 0) k:=fun k hk=>by
 have hK:=h.ok
 rw[zWc hK (kf hk) fun i=>qs.getD i 0]
 obtain⟨ea,eb,el⟩:=h.rod hk
 have:=q.held _ (zDK (d:=r0) hk)
 rw[el]
 rw[←ea,←eb,jN,jN] at this
 exact this
theorem TOk.eq_of(h:TOk cs rs w){F:Nat→Rat}{qs:List Rat}(q:Pos cs rs qs)(z:∀i,i<(zAJ cs rs w).n→qs.getD (i+1) 0-qs.getD i 0=(zAJ cs rs w).len F i):qs=plR (zAJ cs rs w) F:=by
 have hn':(zAJ cs rs w).n=cs.length:=rfl
 have key:∀i,i≤cs.length→qs.getD i 0=sm i ((zAJ cs rs w).len F):=fun i=>by
  induction i with
  |zero=>intro _;exact q.z
  |succ i ih=>
   intro hi
   rw[zBC,←ih (by omega),←z i (by rw[hn'];omega)]
   grind
 apply List.ext_getElem
 ·rw[q.len];unfold plR;rw[qd,jD,hn']
 ·intro i h1 h2
  have l:=q.len
  have:=key i (by omega)
  rw[qw,qg h1] at this
  have g2:=zDw (K:=zAJ cs rs w) (F:=F) (i:=i) (by rw[hn'];omega)
  rw[qw,qg h2] at g2
  exact this.trans g2.symm
theorem Kk.heldL(h:TOk cs rs w){F:Nat→Rat}(k:(zAJ cs rs w).Kk F):∀r∈rs,(r.l:Rat)≤sm r.b.toNat ((zAJ cs rs w).len F)-sm r.a.toNat ((zAJ cs rs w).len F):=fun r hr=>by
 obtain⟨i,hi,e⟩:=List.getElem_of_mem hr
 have hK:=h.ok
 have hk:=k.kept i hi
 obtain⟨ea,eb,el⟩:=h.rod hi
 have eg:rs.getD i r0=r:=by rw[qw,qg hi];exact e
 rw[eg] at ea eb el
 unfold Tk.sht at hk
 rw[el] at hk
 have e3:=zWc hK (k:=i) (kf hi) (fun j=>sm j ((zAJ cs rs w).len F))
 have e4:(fun j=>sm (j+1) ((zAJ cs rs w).len F)-sm j ((zAJ cs rs w).len F))=(zAJ cs rs w).len F:=by
  funext j
  rw[zBC];grind
 rw[e4] at e3
 rw[e3] at hk
 rw[←ea,←eb,jN,jN]
 grind
theorem TOk.posF(h:TOk cs rs w){F:Nat→Rat}(k:(zAJ cs rs w).Kk F):Pos cs rs (plR (zAJ cs rs w) F):=by
 have hn':(zAJ cs rs w).n=cs.length:=rfl
 refine⟨zTs (K:=zAJ cs rs w),?_,fun r hr=>?_⟩
 ·rw[zDw (qR _)];rfl
 ·have e:=h.okr r hr
  rw[zDw (by rw[hn'];omega),zDw (by rw[hn'];omega)]
  exact Kk.heldL h k r hr
theorem TOk.lastF(h:TOk cs rs w)(F:Nat→Rat):(plR (zAJ cs rs w) F).getD cs.length 0=(zAJ cs rs w).tot F:=by
 rw[show(plR (zAJ cs rs w) F).getD cs.length 0=sm cs.length ((zAJ cs rs w).len F) from zDw (K:=zAJ cs rs w) (i:=cs.length) (qG _)]
 unfold Tk.tot
 rw[zZy h.ok]
 rfl
theorem TOk.bsHeld(h:TOk cs rs w){F:Nat→Rat}(k:(zAJ cs rs w).Kk F){x:Rat}(e:(zAJ cs rs w).tot F=x):Bs cs rs (fun y=>y=x) (plR (zAJ cs rs w) F):=by
 have hK:=h.ok
 refine⟨h.posF k,by rw[h.lastF,e],fun qs q hq hne=>?_⟩
 rw[h.energy,h.costs]
 refine k.dearer hK.ok (h.rod_of q) ?_ fun z=>hne (h.eq_of q z)
 rw[zWc hK (qG _) fun i=>qs.getD i 0,e]
 have e1:(zAJ cs rs w).a (zAJ cs rs w).R=0:=hK.wh.1
 have e2:(zAJ cs rs w).b (zAJ cs rs w).R=cs.length:=hK.wh.2
 rw[e1,e2,q.z,hq]
 grind
theorem TOk.bsFree(h:TOk cs rs w){F:Nat→Rat}(k:(zAJ cs rs w).Kk F)(z0:F rs.length=0):Bs cs rs (fun _=>True) (plR (zAJ cs rs w) F):=by
 have hK:=h.ok
 refine⟨h.posF k,True.intro,fun qs q hq hne=>?_⟩
 rw[h.energy,h.costs]
 have h1:=k.least_free hK.ok z0 (h.rod_of q)
 have h2:=Tk.dist_nn hK.ok (fun i=>qs.getD (i+1) 0-qs.getD i 0) ((zAJ cs rs w).len F)
 refine jh fun z=>hne (h.eq_of q (Tk.dist_zero hK.ok ?_))
 have:=Rat.not_lt.mp z
 grind
theorem TOk.tb(h:TOk cs rs w){lo:Bool}{F:Nat→Rat}(t:Told (zAJ cs rs w) lo F):TB cs rs w lo (plR (zAJ cs rs w) F):=by
 cases lo with
 |false=>
  obtain⟨a,b⟩:=t.heldA (v:=w)
  unfold TB
  rw[qb qP]
  exact h.bsHeld a b
 |true=>
  obtain⟨F1,a1,a2,a3⟩:=t.loose (v:=w)
  unfold TB
  rw[qe rfl]
  refine⟨_,h.bsFree a1 a2,?_⟩
  rw[h.lastF]
  rcases a3 with⟨a3,rfl⟩|⟨a3,a4,a5⟩
  ·exact .inl ⟨a3,rfl⟩
  ·exact .inr ⟨a3,h.bsHeld a4 a5⟩
end
theorem zSj(cs:List zEW)(ps:List Rat)(n:Nat):esR cs ps n=sm n fun i=>tmR cs ps i:=by
 induction n with
 |zero=>rfl
 |succ n ih=>rw[zBC,←ih];rfl
theorem zKX{n i:Nat}{f:Nat→Rat}(h:i<n):((List.range n).map f).getD i 0=f i:=by
 rw[qw,qF,kl h]
 rfl
def zC9(n:Int)(r:Rod):Rod:=⟨n-r.b,n-r.a,r.l⟩
def zDO(n:Nat)(ps:List Rat):List Rat:=(List.range (n+1)).map fun i=>ps.getD n 0-ps.getD (n-i) 0
theorem zBR{n i:Nat}(ps:List Rat)(h:i≤n):(zDO n ps).getD i 0=ps.getD n 0-ps.getD (n-i) 0:=zKX (by omega)
theorem zI2{n:Nat}(ps:List Rat):(zDO n ps).length=n+1:=by unfold zDO;simp
theorem zEY{n:Nat}{ps:List Rat}(h:ps.length=n+1)(z:ps.getD 0 0=0):zDO n (zDO n ps)=ps:=by
 apply List.ext_getElem
 ·rw[zI2,h]
 ·intro i h1 h2
  have e1:=zBR (zDO n ps) (show i≤n by omega)
  rw[zBR ps (qG n),zBR ps (show n-i≤n by omega),Nat.sub_self,z] at e1
  have e2:n-(n-i)=i:=by omega
  rw[e2] at e1
  rw[qw,qg h1] at e1
  rw[qw (l:=ps) (i:=i),qg h2] at e1
  have e1:(zDO n (zDO n ps))[i]=ps.getD n 0-0-(ps.getD n 0-ps[i]):=e1
  rw[e1];grind
theorem zKZ(cs:List zEW)(ps:List Rat):esR cs (zDO cs.length ps) cs.length=esR cs.reverse ps cs.length:=by
 rw[zSj,zSj,zVs _ fun i=>tmR cs.reverse ps i]
 refine zAv fun i hi=>?_
 have e1:cs.reverse.getD (cs.length-1-i) (0,1)=cs.getD i (0,1):=by
  rw[qw,qw,List.getElem?_reverse (by omega)]
  congr 2
  omega
 unfold tmR zYV
 rw[e1,zBR _ (by omega),zBR _ (by omega)]
 have e2:cs.length-(i+1)=cs.length-1-i:=by omega
 have e3:cs.length-1-i+1=cs.length-i:=by omega
 rw[e2,e3]
 congr 2<;>grind
theorem Pos.turn{cs:List zEW}{rs:List Rod}(hr:∀r∈rs,0≤r.a∧r.a<r.b∧r.b≤(cs.length:Nat)){ps:List Rat}(h:Pos cs.reverse (rs.map (zC9 cs.length)) ps):Pos cs rs (zDO cs.length ps)∧(zDO cs.length ps).getD cs.length 0=ps.getD cs.length 0:=by
 have l:ps.length=cs.length+1:=by rw[h.len,qU]
 refine⟨⟨zI2 _,?_,fun r m=>?_⟩,?_⟩
 ·rw[zBR _ (qR _)];rw[kA];grind
 ·have b:=hr r m
  have:=h.held _ (qy.mpr ⟨r,m,rfl⟩)
  rw[zBR _ (by omega),zBR _ (by omega)]
  have e1:(zC9 cs.length r).b.toNat=cs.length-r.a.toNat:=by show((cs.length:Int)-r.a).toNat=_;omega
  have e2:(zC9 cs.length r).a.toNat=cs.length-r.b.toNat:=by show((cs.length:Int)-r.b).toNat=_;omega
  rw[e1,e2] at this
  have e3:(zC9 cs.length r).l=r.l:=rfl
  rw[e3] at this
  grind
 ·rw[zBR _ (qG _),Nat.sub_self,h.z];grind
theorem zHf(n:Int)(rs:List Rod):(rs.map (zC9 n)).map (zC9 n)=rs:=by
 rw[ja]
 have:(zC9 n∘zC9 n)=id:=by
  funext r
  obtain⟨a,b,l⟩:=r
  show Rod.mk (n-(n-a)) (n-(n-b)) l=Rod.mk a b l
  rw[Int.sub_sub_self,Int.sub_sub_self]
 rw[this,List.map_id]
theorem Pos.turn'{cs:List zEW}{rs:List Rod}(hr:∀r∈rs,0≤r.a∧r.a<r.b∧r.b≤(cs.length:Nat)){ps:List Rat}(h:Pos cs rs ps):Pos cs.reverse (rs.map (zC9 cs.length)) (zDO cs.length ps)∧(zDO cs.length ps).getD cs.length 0=ps.getD cs.length 0:=by
 have:=Pos.turn (cs:=cs.reverse) (rs:=rs.map (zC9 cs.length)) (ps:=ps) (fun r m=>by
  obtain⟨q,mq,rfl⟩:=qy.mp m
  have:=hr q mq
  rw[qU]
  show 0≤(cs.length:Int)-q.b∧(cs.length:Int)-q.b<cs.length-q.a∧(cs.length:Int)-q.a≤_
  omega) (by rw[List.reverse_reverse,qU,zHf];exact h)
 rw[qU] at this
 exact this
theorem Bs.turn{cs:List zEW}{rs:List Rod}(hr:∀r∈rs,0≤r.a∧r.a<r.b∧r.b≤(cs.length:Nat)){ok:Rat→Prop}{ps:List Rat}(h:Bs cs.reverse (rs.map (zC9 cs.length)) ok ps):Bs cs rs ok (zDO cs.length ps):=by
 obtain⟨a1,a2⟩:=h.pos.turn hr
 have l:ps.length=cs.length+1:=by rw[h.pos.len,qU]
 have hok:=h.okl
 rw[qU] at hok
 refine⟨a1,by rw[a2];exact hok,fun qs q hq hne=>?_⟩
 obtain⟨b1,b2⟩:=q.turn' hr
 have:=h.best _ b1 (by rw[qU,b2];exact hq) fun e=>hne (by rw[←e,zEY q.len q.z])
 rw[qU,←zKZ,←zKZ,zEY q.len q.z] at this
 exact this
theorem TB.turn{cs:List zEW}{rs:List Rod}(hr:∀r∈rs,0≤r.a∧r.a<r.b∧r.b≤(cs.length:Nat)){w:Int}{lo:Bool}{ps:List Rat}(h:TB cs.reverse (rs.map (zC9 cs.length)) w lo ps):TB cs rs w lo (zDO cs.length ps):=by
 cases lo with
 |false=>
  unfold TB at h⊢
  rw[qb qP] at h⊢
  exact h.turn hr
 |true=>
  unfold TB at h⊢
  rw[qe rfl] at h⊢
  obtain⟨p1,a1,a2⟩:=h
  refine⟨_,a1.turn hr,?_⟩
  rw[(a1.pos.turn hr).2]
  rw[qU] at a2
  rcases a2 with⟨a3,rfl⟩|⟨a3,a4⟩
  ·exact .inl ⟨a3,rfl⟩
  ·exact .inr ⟨a3,a4.turn hr⟩
theorem TB.turned{cs:List zEW}{rs:List Rod}(hr:∀r∈rs,0≤r.a∧r.a<r.b∧r.b≤(cs.length:Nat)){w:Int}{lo:Bool}{ps qs:List Rat}(h:TB cs rs w lo ps)(g:TB cs.reverse (rs.map (zC9 cs.length)) w lo qs):qs=zDO cs.length ps∧esR cs.reverse qs cs.length=esR cs ps cs.length:=by
 have e:=(g.turn hr).uniq h
 have l:qs.length=cs.length+1:=by rw[g.pos.len,qU]
 refine⟨by rw[←e,zEY l g.pos.z],by rw[←zKZ,e]⟩
def zYU(n:Int)(r:Rod):Rod:=⟨n+r.a,n+r.b,r.l⟩
def zM1(n:Nat)(ps qs:List Rat):List Rat:=(List.range (n+n+1)).map fun i=>if i≤n then ps.getD i 0 else ps.getD n 0+qs.getD (i-n) 0
theorem zIu{n i:Nat}{ps qs:List Rat}(h:i≤n):(zM1 n ps qs).getD i 0=ps.getD i 0:=by
 unfold zM1
 rw[zKX (by omega),qe h]
theorem zLY{n i:Nat}{ps qs:List Rat}(z:qs.getD 0 0=0)(h:i≤n):(zM1 n ps qs).getD (n+i) 0=ps.getD n 0+qs.getD i 0:=by
 unfold zM1
 rw[zKX (by omega)]
 by_cases c:n+i≤n
 ·rw[qe c]
  have:i=0:=by omega
  subst this
  rw[Nat.add_zero,z];grind
 ·rw[qb c]
  congr 2
  omega
theorem Pos.join{cs:List zEW}{rs:List Rod}(hr:∀r∈rs,0≤r.a∧r.a<r.b∧r.b≤(cs.length:Nat)){ps qs:List Rat}(h:Pos cs rs ps)(g:Pos cs rs qs):Pos (cs++cs) (rs++rs.map (zYU cs.length)) (zM1 cs.length ps qs):=by
 refine⟨by unfold zM1;simp,by rw[zIu (qR _)];exact h.z,fun r m=>?_⟩
 rcases qD.mp m with m|m
 ·have b:=hr r m
  rw[zIu (by omega),zIu (by omega)]
  exact h.held r m
 ·obtain⟨q,mq,rfl⟩:=qy.mp m
  have b:=hr q mq
  have e1:(zYU cs.length q).b.toNat=cs.length+q.b.toNat:=by show((cs.length:Int)+q.b).toNat=_;omega
  have e2:(zYU cs.length q).a.toNat=cs.length+q.a.toNat:=by show((cs.length:Int)+q.a).toNat=_;omega
  rw[e1,e2,zLY g.z (by omega),zLY g.z (by omega)]
  have:=g.held q mq
  have e3:(zYU cs.length q).l=q.l:=rfl
  rw[e3]
  grind
theorem Pos.iff{cs:List zEW}{rs rs':List Rod}(h:∀r∈rs',∃q∈rs,q.a=r.a∧q.b=r.b∧r.l≤q.l){ps:List Rat}(p:Pos cs rs ps):Pos cs rs' ps:=
 ⟨p.len,p.z,fun r m=>by
  obtain⟨q,mq,e1,e2,e3⟩:=h r m
  have:=p.held q mq
  rw[e1,e2] at this
  have e4:(r.l:Rat)≤(q.l:Rat):=jn.mpr e3
  exact Rat.le_trans e4 this⟩
theorem TB.more{cs:List zEW}{rs:List Rod}{r:Rod}{w:Int}{ps qs:List Rat}(h:TB cs rs w false ps)(g:TB cs (rs++[r]) w false qs):
  ((r.l:Rat)≤ps.getD r.b.toNat 0-ps.getD r.a.toNat 0↔qs=ps)∧(qs≠ps→esR cs ps cs.length<esR cs qs cs.length):=by
 have h:=h.bs
 have g:=g.bs
 have p1:Pos cs rs qs:=g.pos.iff fun q m=>⟨q,qD.mpr (.inl m),rfl,rfl,jM _⟩
 refine⟨⟨fun k=>?_,fun e=>?_⟩,fun z=>h.best qs p1 g.okl z⟩
 ·have p2:Pos cs (rs++[r]) ps:=⟨h.pos.len,h.pos.z,fun q m=>by
   rcases qD.mp m with m|m
   ·exact h.pos.held q m
   ·rw[qh.mp m];exact k⟩
  exact jh fun z=>by
   have a:=h.best qs p1 g.okl z
   have b:=g.best ps p2 h.okl fun e=>z e.symm
   grind
 ·have:=g.pos.held r (qD.mpr (.inr (qh.mpr rfl)))
  rw[e] at this
  exact this
inductive PthF (rods:List Rod) (u:Int):Int→Int→Prop
 |z:PthF rods u u 0
 |s {x:Int}{r:Rod}:PthF rods u r.a x→r∈rods→PthF rods u r.b (x+r.l)
theorem Pth.from0{rods:List Rod}{v x:Int}(p:Pth rods v x):PthF rods 0 v x:=by
 induction p with
 |z=>exact .z
 |s _ hr ih=>exact .s ih hr
theorem PthF.to0{rods:List Rod}{v x:Int}(p:PthF rods 0 v x):Pth rods v x:=by
 induction p with
 |z=>exact .z
 |s _ hr ih=>exact .s ih hr
theorem PthF.cat{rods:List Rod}{u v t x y:Int}(p:PthF rods u v x)(q:PthF rods v t y):PthF rods u t (x+y):=by
 induction q with
 |z=>rw[Int.add_zero];exact p
 |s _ hr ih=>rw[←Int.add_assoc];exact .s ih hr
theorem PthF.turn{rods:List Rod}{n u v x:Int}(p:PthF rods u v x):PthF (rods.map (zC9 n)) (n-v) (n-u) x:=by
 induction p with
 |z=>exact .z
 | @s x r q hr ih=>
  have h1:PthF (rods.map (zC9 n)) (n-r.b) (n-r.a) (0+r.l):=PthF.s (r:=zC9 n r) .z (qy.mpr ⟨r,hr,rfl⟩)
  have:=h1.cat ih
  rw[Int.zero_add,Int.add_comm] at this
  exact this
theorem Pth.turn{rods:List Rod}{n x:Int}(p:Pth rods n x):Pth (rods.map (zC9 n)) n x:=by
 have:=p.from0.turn (n:=n)
 rw[Int.sub_self,Int.sub_zero] at this
 exact this.to0
theorem Pth.turn'{rods:List Rod}{n x:Int}(p:Pth (rods.map (zC9 n)) n x):Pth rods n x:=by
 have:=p.turn
 rwa [zHf] at this
theorem IsMx.turn{rods:List Rod}{n:Int}:∀{o:Option Int},IsMx (rods.map (zC9 n)) n o→IsMx rods n o
 |none,h=>fun x p=>h x p.turn
 |some _,h=>⟨h.1.turn',fun y p=>h.2 y p.turn⟩
theorem zT8{acc:Acc}{k:Int}{c:Nat}(h:zUT acc k=some c):c≤mxC acc:=by
 have key:∀acc:Acc,zUT acc k=some c→∃p∈acc,p.2=c:=by
  intro acc
  induction acc with
  |nil=>intro h;cases h
  |cons p r ih=>
   intro h
   obtain⟨i,d⟩:=p
   have h:(if i=k then some d else zUT r k)=some c:=h
   by_cases e:i=k
   ·rw[qe e] at h
    cases h
    exact⟨_,qz,rfl⟩
   ·rw[qb e] at h
    obtain⟨q,hq,e⟩:=ih h
    exact⟨q,qA _ hq,e⟩
 obtain⟨p,hp,e⟩:=key acc h
 rw[←e]
 exact zOo hp
theorem zUA(ms:List Int):∀c∈zUB ms,c≤(ms.length:Int):=fun c hc=>by
 obtain⟨s,hs,rfl⟩:=qy.mp hc
 have h1:=zRb ms.reverse
 rw[qU] at h1
 cases e:zUT (zRD ms.reverse) s with
 |none=>show((0:Nat):Int)≤_;omega
 |some d=>have:=zT8 e;show(d:Int)≤_;omega
theorem zWg{m:Mom}{st:Int}{q:Int×Int}(hg:GM m)(h:rch m st=some q):q.1≤20∧q.2≤20:=by
 have hw:=hg.w1
 have hl:=hg.hs.len
 unfold rch at h
 split at h
 ·split at h
  ·cases h
  ·cases h
   constructor<;>show(m.w+1)/2≤(20:Int)<;>omega
 ·split at h
  ·cases h
  ·cases h
   refine⟨?_,?_⟩
   ·show 1+2*mx0 (zUB (zD6 m.hs st))≤(20:Int)
    have h2:=zKB m.hs st
    have:mx0 (zUB (zD6 m.hs st))≤8:=by
     unfold mx0
     split
     ·decide
     ·rename_i hne
      have:=zUA _ _ (zKS hne)
      omega
    omega
   ·show(if yA5 (zKv m.hs st)=true then(3:Int) else 1)≤20
    split<;>decide
theorem zRR{ms:List Mom}(hg:∀m∈ms,GM m)(st:Int):∀t∈thg ms st,0≤t.l∧t.l≤20∧0≤t.r∧t.r≤20:=fun t ht=>by
 unfold thg at ht
 rcases qD.mp ht with ht|ht
 ·rcases qD.mp ht with ht|ht
  ·rw[qh.mp ht];decide
  ·obtain⟨p,hp,e⟩:=kq.mp ht
   obtain⟨m,i⟩:=p
   have hm:m∈ms:=by
    have:=List.mem_zipIdx hp
    rw[this.2.2]
    exact kJ _
   unfold yBa at e
   cases hq:rch m st with
   |none=>rw[hq] at e;cases e
   |some q=>
    rw[hq] at e
    cases e
    have h1:=zWf (hg m hm).w0 hq
    have h2:=zWg (hg m hm) hq
    exact⟨h1.1,h2.1,h1.2,h2.2⟩
 ·rw[qh.mp ht]
  exact⟨(by decide:(0:Int)≤0),(by decide:(0:Int)≤20),(by decide:(0:Int)≤0),(by decide:(0:Int)≤20)⟩
theorem zDv{ms:List Mom}(hg:∀m∈ms,GM m){k:Int×Int}{v:Int}(h:yCi ms k v):1≤v∧v≤41:=by
 rcases h with⟨rfl,_⟩|⟨l,_,z,hz,_,_,rfl⟩
 ·decide
 ·obtain⟨h1,h2⟩:=zTq hz
  have a:=zRR hg l _ h1
  have b:=zRR hg l _ h2
  omega
def nP:List (List Mom)→Nat
 |[]=>0
 |ms::bs=>(ms.length+1)+nP bs
def zYd:List (List Mom)→Nat
 |[]=>0
 |ms::bs=>(ms.length+2)*(ms.length+1)/2+zYd bs
structure Sml(bs:List (List Mom)):Prop where
 n:nP bs≤31
 c:zYd bs≤99
theorem zXb{as bs:List (List Mom)}(h:as.Sublist bs):nP as≤nP bs:=by
 induction h with
 |slnil=>exact qG _
 |cons a _ ih=>show _≤(a.length+1)+nP _;omega
 |cons_cons a _ ih=>show(a.length+1)+nP _≤(a.length+1)+nP _;omega
theorem zRF{as bs:List (List Mom)}(h:as.Sublist bs):zYd as≤zYd bs:=by
 induction h with
 |slnil=>exact qG _
 |cons a _ ih=>show _≤_+zYd _;omega
 |cons_cons a _ ih=>exact Nat.add_le_add_left ih _
theorem Sml.sub{as bs:List (List Mom)}(h:Sml bs)(s:as.Sublist bs):Sml as:=⟨qo (zXb s) h.n,qo (zRF s) h.c⟩
def zVt(w l f t g:Int):D:=.tup [.int w,.int l,.int f,.int t,.int g]
def lkI{A:Type}:List (Int×A)→Int→Option A
 |[],_=>none
 |p::r,k=>if p.1=k then some p.2 else lkI r k
def ptI{A:Type}(l:List (Int×A))(n:Int)(v:A):List (Int×A):=if(lkI l n).isSome=true then l.map fun p=>if p.1=n then(p.1,v) else p else l++[(n,v)]
def drI{A:Type}(l:List (Int×A))(n:Int):List (Int×A):=l.filter fun p=>decide (p.1≠n)
def dk{A:Type}(f:A→D)(l:List (Int×A)):List (Key×D):=l.map fun p=>(.inl p.1,f p.2)
section
variable {A:Type}{f:A→D}
theorem zCq(l:List (Int×A))(n:Int):valD (dk f l) (.inl n)=(lkI l n).map f:=by
 induction l with
 |nil=>rfl
 |cons p r ih=>
  show(if(Sum.inl p.1:Key)=.inl n then some (f p.2) else valD (dk f r) (.inl n))=Option.map f (if p.1=n then some p.2 else lkI r n)
  by_cases h:p.1=n
  ·rw[qe (by rw[h]),qe h];rfl
  ·rw[qb (fun z=>h (Sum.inl.inj z)),qb h,ih]
theorem zBs(l:List (Int×A))(n:Int):(lkI l n).isSome=true↔n∈l.map (·.1):=by
 induction l with
 |nil=>simp[lkI]
 |cons p r ih=>
  unfold lkI
  by_cases h:p.1=n
  ·rw[qe h];simp[h]
  ·rw[qb h,ih,qr,qj]
   exact⟨.inr,fun z=>z.elim (fun e=>absurd e.symm h) id⟩
theorem zYl(l:List (Int×A))(n:Int):((dk f l).any fun kv=>decide (kv.1=.inl n))=(lkI l n).isSome:=by
 induction l with
 |nil=>rfl
 |cons p r ih=>
  show(decide ((Sum.inl p.1:Key)=.inl n)||(dk f r).any _)=(if p.1=n then some p.2 else lkI r n).isSome
  by_cases h:p.1=n
  ·rw[qe h,qx (by rw[h])];rfl
  ·rw[qb h,qm (fun z=>h (Sum.inl.inj z)),Bool.false_or];exact ih
theorem zJr(l:List (Int×A))(n:Int)(v:A):zKp (dk f l) (.inl n) (f v)=dk f (ptI l n v):=by
 unfold zKp ptI
 rw[zYl]
 by_cases h:(lkI l n).isSome=true
 ·rw[qe h,qe h]
  unfold dk
  rw[ja,ja]
  apply jO
  intro p _
  show(if(Sum.inl p.1:Key)=.inl n then((Sum.inl p.1:Key),f v) else(.inl p.1,f p.2))=(Sum.inl (if p.1=n then(p.1,v) else p).1,f (if p.1=n then(p.1,v) else p).2)
  by_cases h:p.1=n
  ·rw[qe (by rw[h]),qe h]
  ·rw[qb (fun z=>h (Sum.inl.inj z)),qb h]
 ·rw[qb h,qb h]
  unfold dk
  rw[qK];rfl
theorem zIA(l:List (Int×A))(n:Int):zIB (dk f l) (.inl n)=dk f (drI l n):=by
 unfold zIB drI dk
 rw[List.filter_map]
 congr 1
 apply List.filter_congr
 intro p _
 show decide ((Sum.inl p.1:Key)≠.inl n)=decide (p.1≠n)
 by_cases h:p.1=n
 ·rw[qm (by simp[h]),qm (by simp[h])]
 ·rw[qx (by simpa using h),qx (by simpa using h)]
theorem zHy(l:List (Int×A)):(dk f l).length=l.length:=qd ..
theorem zTT{l:List (Int×A)}{n:Int}{v:A}(h:lkI l n=some v):(n,v)∈l:=by
 induction l with
 |nil=>cases h
 |cons p r ih=>
  unfold lkI at h
  by_cases e:p.1=n
  ·rw[qe e] at h;cases h;rw[←e];exact qz
  ·rw[qb e] at h;exact qA _ (ih h)
theorem zMY{l:List (Int×A)}(hn:(l.map (·.1)).Nodup){n:Int}{v:A}(h:(n,v)∈l):lkI l n=some v:=by
 induction l with
 |nil=>cases h
 |cons p r ih=>
  rw[qr,List.nodup_cons] at hn
  unfold lkI
  rcases qj.mp h with e|e
  ·rw[qe (by rw[←e]),←e]
  ·rw[qb (fun z=>hn.1 (by rw[z];exact qy.mpr ⟨_,e,rfl⟩))]
   exact ih hn.2 e
theorem zTV(l:List (Int×A))(n m:Int)(v:A)(h:lkI l n=none):lkI (l++[(n,v)]) m=if m=n then some v else lkI l m:=by
 induction l with
 |nil=>
  show(if n=m then some v else none)=_
  by_cases e:m=n
  ·rw[qe e.symm,qe e]
  ·rw[qb (fun z=>e z.symm),qb e];rfl
 |cons p r ih=>
  unfold lkI at h
  by_cases e:p.1=n
  ·rw[qe e] at h;cases h
  ·rw[qb e] at h
   show(if p.1=m then some p.2 else lkI (r++[(n,v)]) m)=if m=n then some v else(if p.1=m then some p.2 else lkI r m)
   rw[ih h]
   by_cases e2:p.1=m
   ·rw[qe e2,qe e2,qb (fun z=>e (e2.trans z))]
   ·rw[qb e2,qb e2]
theorem zTU(l:List (Int×A))(n m:Int)(v:A):lkI (l.map fun p=>if p.1=n then(p.1,v) else p) m=if m=n then(lkI l n).map (fun _=>v) else lkI l m:=by
 induction l with
 |nil=>by_cases e:m=n<;>simp[lkI,e]
 |cons p r ih=>
  show(if(if p.1=n then(p.1,v) else p).1=m then some (if p.1=n then(p.1,v) else p).2 else lkI (r.map _) m)=if m=n then Option.map (fun _=>v) (if p.1=n then some p.2 else lkI r n) else(if p.1=m then some p.2 else lkI r m)
  rw[ih]
  by_cases e:p.1=n
  ·subst e
   simp only[jk]
   by_cases e2:p.1=m
   ·subst e2;simp
   ·rw[qb e2,qb (fun z=>e2 z.symm),qb (fun z=>e2 z.symm),qb e2]
  ·simp only[qb e]
   by_cases e2:p.1=m
   ·subst e2;simp[e]
   ·rw[qb e2,qb e2]
theorem zBO(l:List (Int×A))(n m:Int)(v:A):lkI (ptI l n v) m=if m=n then some v else lkI l m:=by
 unfold ptI
 by_cases h:(lkI l n).isSome=true
 ·rw[qe h,zTU]
  obtain⟨w,hw⟩:=qM.mp h
  rw[hw];rfl
 ·rw[qb h,zTV l n m v (by simpa using h)]
theorem zCF(l:List (Int×A))(n m:Int):lkI (drI l n) m=if m=n then none else lkI l m:=by
 unfold drI
 induction l with
 |nil=>by_cases e:m=n<;>simp[lkI,e]
 |cons p r ih=>
  rw[List.filter_cons]
  by_cases e:p.1=n
  ·rw[qb (by simp[e]),ih]
   by_cases e2:m=n
   ·rw[qe e2,qe e2]
   ·rw[qb e2,qb e2]
    show _=if p.1=m then some p.2 else lkI r m
    rw[qb (fun z=>e2 (z.symm.trans e))]
  ·rw[qe (by simpa using e)]
   show(if p.1=m then some p.2 else lkI (r.filter _) m)=if m=n then none else(if p.1=m then some p.2 else lkI r m)
   rw[ih]
   by_cases e2:p.1=m
   ·rw[qe e2,qe e2,qb (fun z=>e (e2.trans z))]
   ·rw[qb e2,qb e2]
theorem zTW(l:List (Int×A))(n:Int)(v:A):(ptI l n v).map (·.1)=if n∈l.map (·.1) then l.map (·.1) else l.map (·.1)++[n]:=by
 unfold ptI
 by_cases h:(lkI l n).isSome=true
 ·rw[qe h,qe ((zBs l n).mp h),ja]
  apply jO
  intro p _
  show(if p.1=n then(p.1,v) else p).1=p.1
  split<;>rfl
 ·rw[qb h,qb (fun z=>h ((zBs l n).mpr z)),qK];rfl
theorem zTX(l:List (Int×A))(n:Int):(drI l n).map (·.1)=(l.map (·.1)).filter fun k=>decide (k≠n):=by
 unfold drI
 rw[List.filter_map];rfl
theorem zF2{l:List (Int×A)}{n:Int}{v:A}(h:(l.map (·.1)).Nodup):((ptI l n v).map (·.1)).Nodup:=by
 rw[zTW]
 split
 ·exact h
 ·rename_i hn
  rw[List.nodup_append]
  exact⟨h,by simp,fun a ha b hb=>by rw[qh] at hb;subst hb;exact fun z=>hn (z▸ha)⟩
theorem zF3{l:List (Int×A)}{n:Int}(h:(l.map (·.1)).Nodup):((drI l n).map (·.1)).Nodup:=by
 rw[zTX]
 exact h.filter _
theorem zXe(l:List (Int×A))(n:Int)(v:A):(ptI l n v).length≤l.length+1:=by
 unfold ptI
 split<;>simp
theorem zXg(l:List (Int×A))(n:Int):(drI l n).length≤l.length:=jv _ _
end
structure Spn where
 on:Int
 b:Int×Int
 e:Int×Int
 th:Int
def zKt(p:Int×Int):D:=.tup [.int p.1,.int p.2]
def zEu(s:Spn):D:=.tup [.int s.on,zKt s.b,zKt s.e,.int s.th]
structure Sht where
 w:Int
 l:Int
 f:Int
 t:Int
 g:Int
def Sht.ok(s:Sht):Bool:=(decide (20≤s.w)&&decide (s.w≤400))&&((decide (1≤s.l)&&decide (s.l≤6))&&[s.f,s.t,s.g].all fun x=>decide (0≤x)&&decide (x≤999))
def zKC(s:Sht):D:=zVt s.w s.l s.f s.t s.g
structure PSt where
 sheet:Sht
 order:List Int
 music:List (Int×List Mom)
 spans:List (Int×Spn)
 bound:List (Int×Str)
 f0:Int
 f1:Int
def frD(S:PSt):D:=.tup [.int S.f0,.int S.f1]
def zE1(S:PSt)(t:Int×Int):Int:=(S.order.idxOf t.1:Nat)
def zEZ(S:PSt)(t:Int×Int):Bool:=match lkI S.music t.1 with
 |some m=>decide (0≤t.2)&&decide (t.2<(m.length:Nat))
 |none=>false
def zU5(S:PSt)(a b:Int×Int):Bool:=decide (zE1 S a<zE1 S b∨zE1 S a=zE1 S b∧a.2≤b.2)
def zC1(S:PSt)(s:Spn):Bool:=zEZ S s.b&&(zEZ S s.e&&zU5 S s.b s.e)
def zDm(S:PSt):PSt:={S with spans:=S.spans.filter fun p=>zC1 S p.2}
def zEk:Str:=PySem.Str.ofString "free"
def zGx:Str:=PySem.Str.ofString "must"
def zCD:Str:=PySem.Str.ofString "never"
def zEr(S:PSt)(n:Int):Str:=(lkI S.bound n).getD zEk
structure PSt.Ok(S:PSt):Prop where
 nod:S.order.Nodup
 mus:∀n,(lkI S.music n).isSome=true↔n∈S.order
 mn:(S.music.map (·.1)).Nodup
 ol:S.order.length≤12
 gb:∀n m,lkI S.music n=some m→GB m
 sn:(S.spans.map (·.1)).Nodup
 sl:S.spans.length≤20
 sg:∀n s,lkI S.spans n=some s→(0≤s.on∧s.on≤3)∧(1≤s.th∧s.th≤9)∧zC1 S s=true
 bn:(S.bound.map (·.1)).Nodup
 bo:∀n w,lkI S.bound n=some w→n∈S.order∧(w=zGx∨w=zCD)
 o0:∀n∈S.order,1≤n∧n<S.f0
 s0:∀n s,lkI S.spans n=some s→1≤n∧n<S.f1
 f0:1≤S.f0
 f1:1≤S.f1
 sh:S.sheet.ok=true
structure Cel where
 p:Addr
 dx:Addr
 ao:Addr
 am:Addr
 as:Addr
 ab:Addr
structure SdAt(tb:Tb)(O:Om)(c:Cel)(S:PSt):Prop where
 ob:O c.p=some (.ins tb.Stand c.dx [("sheet",zKC S.sheet),("order",.ref c.ao),("music",.ref c.am),("spans",.ref c.as),("bound",.ref c.ab),("fresh",frD S)])
 ord:O c.ao=some (.lst (S.order.map D.int))
 mus:O c.am=some (.dK (dk zDM S.music))
 spa:O c.as=some (.dK (dk zEu S.spans))
 bnd:O c.ab=some (.dK (dk D.str S.bound))
 n1:c.am≠c.as
 n2:c.am≠c.ab
 n3:c.as≠c.ab
structure SdW(tb:Tb)(O:Om)(c:Cel)(S:PSt):Prop where
 ob:O c.p=some (.ins tb.Stand c.dx [("sheet",zKC S.sheet),("order",.ref c.ao),("music",.ref c.am),("spans",.ref c.as),("bound",.ref c.ab),("fresh",frD S)])
 ord:O c.ao=some (.lst (S.order.map D.int))
 mus:O c.am=some (.dK (dk zDM S.music))
section
variable {tb:Tb}{O O':Om}{c:Cel}{S:PSt}
theorem SdAt.w(h:SdAt tb O c S):SdW tb O c S:=⟨h.ob,h.ord,h.mus⟩
theorem SdAt.sb(h:SdAt tb O c S)(s:Sb O O'):SdAt tb O' c S:=⟨s _ _ h.ob,s _ _ h.ord,s _ _ h.mus,s _ _ h.spa,s _ _ h.bnd,h.n1,h.n2,h.n3⟩
theorem zKY{C x dx0:Addr}{fl:Str}{fs0:List (Str×D)}{v0:D}{R:D→Prop}(h:O x=some (.ins C dx0 fs0))(hl:fs0.lookup fl=some v0):(∃(a dx:Addr) (fs:List (Str×D)) (v:D),D.ref x=D.ref a∧O a=some (.ins C dx fs)∧fs.lookup fl=some v∧R v)=R v0:=propext ⟨fun ⟨a,dx,fs,v,e1,e2,e3,r⟩=>by
  cases e1
  rw[h] at e2
  cases e2
  rw[hl] at e3
  cases e3
  exact r,fun r=>⟨x,dx0,fs0,v0,rfl,h,hl,r⟩⟩
theorem SdAt.xS(h:SdAt tb O c S){R:D→Prop}:(∃(a dx:Addr) (fs:List (Str×D)) (v:D),D.ref c.p=D.ref a∧O a=some (.ins tb.Stand dx fs)∧fs.lookup ("sheet":Str)=some v∧R v)=R (zKC S.sheet):=zKY h.ob rfl
theorem SdW.xO(h:SdW tb O c S){R:D→Prop}:(∃(a dx:Addr) (fs:List (Str×D)) (v:D),D.ref c.p=D.ref a∧O a=some (.ins tb.Stand dx fs)∧fs.lookup ("order":Str)=some v∧R v)=R (.ref c.ao):=zKY h.ob rfl
theorem SdW.xM(h:SdW tb O c S){R:D→Prop}:(∃(a dx:Addr) (fs:List (Str×D)) (v:D),D.ref c.p=D.ref a∧O a=some (.ins tb.Stand dx fs)∧fs.lookup ("music":Str)=some v∧R v)=R (.ref c.am):=zKY h.ob rfl
theorem SdAt.xP(h:SdAt tb O c S){R:D→Prop}:(∃(a dx:Addr) (fs:List (Str×D)) (v:D),D.ref c.p=D.ref a∧O a=some (.ins tb.Stand dx fs)∧fs.lookup ("spans":Str)=some v∧R v)=R (.ref c.as):=zKY h.ob rfl
theorem SdAt.xB(h:SdAt tb O c S){R:D→Prop}:(∃(a dx:Addr) (fs:List (Str×D)) (v:D),D.ref c.p=D.ref a∧O a=some (.ins tb.Stand dx fs)∧fs.lookup ("bound":Str)=some v∧R v)=R (.ref c.ab):=zKY h.ob rfl
theorem SdAt.xF(h:SdAt tb O c S){R:D→Prop}:(∃(a dx:Addr) (fs:List (Str×D)) (v:D),D.ref c.p=D.ref a∧O a=some (.ins tb.Stand dx fs)∧fs.lookup ("fresh":Str)=some v∧R v)=R (frD S):=zKY h.ob rfl
theorem zKT{C x dx0:Addr}{m:Str}{fs0:List (Str×D)}{P:Addr→Prop}(h:O x=some (.ins C dx0 fs0))(hl:fs0.lookup m=none):(∃(a dx:Addr) (fs:List (Str×D)),D.ref x=D.ref a∧O a=some (.ins C dx fs)∧fs.lookup m=none∧P a)=P x:=propext ⟨fun ⟨a,dx,fs,e1,e2,e3,r⟩=>by
  cases e1
  exact r,fun r=>⟨x,dx0,fs0,rfl,h,hl,r⟩⟩
theorem yBy{C x dx0:Addr}{fl:Str}{v:D}{fs0:List (Str×D)}{P:Om→Prop}(h:O x=some (.ins C dx0 fs0))(hl:fs0.length<1000):(∃(a dx:Addr) (fs:List (Str×D)),D.ref x=D.ref a∧O a=some (.ins C dx fs)∧fs.length<1000∧P (up O a (.ins C dx (zDf fl v fs))))=P (up O x (.ins C dx0 (zDf fl v fs0))):=propext ⟨fun ⟨a,dx,fs,e1,e2,e3,r⟩=>by
  cases e1
  rw[h] at e2
  cases e2
  exact r,fun r=>⟨x,dx0,fs0,rfl,h,hl,r⟩⟩
theorem SdW.xP(h:SdW tb O c S){R:D→Prop}:(∃(a dx:Addr) (fs:List (Str×D)) (v:D),D.ref c.p=D.ref a∧O a=some (.ins tb.Stand dx fs)∧fs.lookup ("spans":Str)=some v∧R v)=R (.ref c.as):=zKY h.ob rfl
theorem SdW.mLies(h:SdW tb O c S){P:Addr→Prop}:(∃(a dx:Addr) (fs:List (Str×D)),D.ref c.p=D.ref a∧O a=some (.ins tb.Stand dx fs)∧fs.lookup ("lies":Str)=none∧P a)=P c.p:=zKT h.ob rfl
theorem SdW.mSpot(h:SdW tb O c S){P:Addr→Prop}:(∃(a dx:Addr) (fs:List (Str×D)),D.ref c.p=D.ref a∧O a=some (.ins tb.Stand dx fs)∧fs.lookup ("spot":Str)=none∧P a)=P c.p:=zKT h.ob rfl
theorem SdW.mNeed(h:SdW tb O c S){P:Addr→Prop}:(∃(a dx:Addr) (fs:List (Str×D)),D.ref c.p=D.ref a∧O a=some (.ins tb.Stand dx fs)∧fs.lookup ("need_bar":Str)=none∧P a)=P c.p:=zKT h.ob rfl
theorem SdAt.mSweep(h:SdAt tb O c S){P:Addr→Prop}:(∃(a dx:Addr) (fs:List (Str×D)),D.ref c.p=D.ref a∧O a=some (.ins tb.Stand dx fs)∧fs.lookup ("sweep":Str)=none∧P a)=P c.p:=zKT h.ob rfl
theorem SdAt.mLike(h:SdAt tb O c S){P:Addr→Prop}:(∃(a dx:Addr) (fs:List (Str×D)),D.ref c.p=D.ref a∧O a=some (.ins tb.Stand dx fs)∧fs.lookup ("like":Str)=none∧P a)=P c.p:=zKT h.ob rfl
theorem SdAt.setF(h:SdAt tb O c S){fl:Str}{v:D}{P:Om→Prop}:(∃(a dx:Addr) (fs:List (Str×D)),D.ref c.p=D.ref a∧O a=some (.ins tb.Stand dx fs)∧fs.length<1000∧P (up O a (.ins tb.Stand dx (zDf fl v fs))))=P (up O c.p (.ins tb.Stand c.dx (zDf fl v [("sheet",zKC S.sheet),("order",.ref c.ao),("music",.ref c.am),("spans",.ref c.as),("bound",.ref c.ab),("fresh",frD S)]))):=yBy h.ob (show(6:Nat)<1000 by decide)
theorem SdAt.xO(h:SdAt tb O c S){R:D→Prop}:(∃(a dx:Addr) (fs:List (Str×D)) (v:D),D.ref c.p=D.ref a∧O a=some (.ins tb.Stand dx fs)∧fs.lookup ("order":Str)=some v∧R v)=R (.ref c.ao):=zKY h.ob rfl
theorem SdAt.xM(h:SdAt tb O c S){R:D→Prop}:(∃(a dx:Addr) (fs:List (Str×D)) (v:D),D.ref c.p=D.ref a∧O a=some (.ins tb.Stand dx fs)∧fs.lookup ("music":Str)=some v∧R v)=R (.ref c.am):=zKY h.ob rfl
theorem SdAt.mNeed(h:SdAt tb O c S){P:Addr→Prop}:(∃(a dx:Addr) (fs:List (Str×D)),D.ref c.p=D.ref a∧O a=some (.ins tb.Stand dx fs)∧fs.lookup ("need_bar":Str)=none∧P a)=P c.p:=zKT h.ob rfl
theorem SdAt.mSpot(h:SdAt tb O c S){P:Addr→Prop}:(∃(a dx:Addr) (fs:List (Str×D)),D.ref c.p=D.ref a∧O a=some (.ins tb.Stand dx fs)∧fs.lookup ("spot":Str)=none∧P a)=P c.p:=zKT h.ob rfl
theorem SdAt.ne1(h:SdAt tb O c S):c.ao≠c.p∧c.am≠c.p∧c.as≠c.p∧c.ab≠c.p∧c.am≠c.ao∧c.as≠c.ao∧c.ab≠c.ao:=by
 refine⟨fun z=>?_,fun z=>?_,fun z=>?_,fun z=>?_,fun z=>?_,fun z=>?_,fun z=>?_⟩
 ·have:=h.ord;rw[z,h.ob] at this;cases this
 ·have:=h.mus;rw[z,h.ob] at this;cases this
 ·have:=h.spa;rw[z,h.ob] at this;cases this
 ·have:=h.bnd;rw[z,h.ob] at this;cases this
 ·have:=h.mus;rw[z,h.ord] at this;cases this
 ·have:=h.spa;rw[z,h.ord] at this;cases this
 ·have:=h.bnd;rw[z,h.ord] at this;cases this
theorem SdAt.upO(h:SdAt tb O c S)(l:List Int):SdAt tb (up O c.ao (.lst (l.map D.int))) c {S with order:=l}:=by
 obtain⟨e1,e2,e3,e4,e5,e6,e7⟩:=h.ne1
 exact⟨by rw[up_ne (ql e1)];exact h.ob,up_same,by rw[up_ne e5];exact h.mus,by rw[up_ne e6];exact h.spa,by rw[up_ne e7];exact h.bnd,h.n1,h.n2,h.n3⟩
theorem SdAt.upM(h:SdAt tb O c S)(l:List (Int×List Mom)):SdAt tb (up O c.am (.dK (dk zDM l))) c {S with music:=l}:=by
 obtain⟨e1,e2,e3,e4,e5,e6,e7⟩:=h.ne1
 exact⟨by rw[up_ne (ql e2)];exact h.ob,by rw[up_ne (ql e5)];exact h.ord,up_same,by rw[up_ne (ql h.n1)];exact h.spa,by rw[up_ne (ql h.n2)];exact h.bnd,h.n1,h.n2,h.n3⟩
theorem SdAt.upP(h:SdAt tb O c S)(l:List (Int×Spn)):SdAt tb (up O c.as (.dK (dk zEu l))) c {S with spans:=l}:=by
 obtain⟨e1,e2,e3,e4,e5,e6,e7⟩:=h.ne1
 exact⟨by rw[up_ne (ql e3)];exact h.ob,by rw[up_ne (ql e6)];exact h.ord,by rw[up_ne h.n1];exact h.mus,up_same,by rw[up_ne (ql h.n3)];exact h.bnd,h.n1,h.n2,h.n3⟩
theorem SdAt.upB(h:SdAt tb O c S)(l:List (Int×Str)):SdAt tb (up O c.ab (.dK (dk D.str l))) c {S with bound:=l}:=by
 obtain⟨e1,e2,e3,e4,e5,e6,e7⟩:=h.ne1
 exact⟨by rw[up_ne (ql e4)];exact h.ob,by rw[up_ne (ql e7)];exact h.ord,by rw[up_ne h.n2];exact h.mus,by rw[up_ne h.n3];exact h.spa,up_same,h.n1,h.n2,h.n3⟩
theorem SdAt.upF(h:SdAt tb O c S)(a b:Int):SdAt tb (up O c.p (.ins tb.Stand c.dx (zDf "fresh" (.tup [.int a,.int b]) [("sheet",zKC S.sheet),("order",.ref c.ao),("music",.ref c.am),("spans",.ref c.as),("bound",.ref c.ab),("fresh",frD S)]))) c {S with f0:=a,f1:=b}:=by
 obtain⟨e1,e2,e3,e4,e5,e6,e7⟩:=h.ne1
 exact⟨up_same,by rw[up_ne e1];exact h.ord,by rw[up_ne e2];exact h.mus,by rw[up_ne e3];exact h.spa,by rw[up_ne e4];exact h.bnd,h.n1,h.n2,h.n3⟩
theorem SdAt.upS(h:SdAt tb O c S)(s:Sht):SdAt tb (up O c.p (.ins tb.Stand c.dx (zDf "sheet" (zKC s) [("sheet",zKC S.sheet),("order",.ref c.ao),("music",.ref c.am),("spans",.ref c.as),("bound",.ref c.ab),("fresh",frD S)]))) c {S with sheet:=s}:=by
 obtain⟨e1,e2,e3,e4,e5,e6,e7⟩:=h.ne1
 exact⟨up_same,by rw[up_ne e1];exact h.ord,by rw[up_ne e2];exact h.mus,by rw[up_ne e3];exact h.spa,by rw[up_ne e4];exact h.bnd,h.n1,h.n2,h.n3⟩
theorem SdAt.newP(h:SdAt tb O c S){q:Addr}(hq:O q=none)(l:List (Int×Spn)):SdAt tb (up (up O q (.dK (dk zEu l))) c.p (.ins tb.Stand c.dx (zDf "spans" (.ref q) [("sheet",zKC S.sheet),("order",.ref c.ao),("music",.ref c.am),("spans",.ref c.as),("bound",.ref c.ab),("fresh",frD S)]))) {c with as:=q} {S with spans:=l}:=by
 obtain⟨e1,e2,e3,e4,e5,e6,e7⟩:=h.ne1
 have k1:=zAb hq h.ord
 have k2:=zAb hq h.mus
 have k3:=zAb hq h.bnd
 have k4:=zAb hq h.ob
 exact⟨up_same,by rw[up_ne e1,up_ne k1];exact h.ord,by rw[up_ne e2,up_ne k2];exact h.mus,by show(up (up O q _) c.p _) q=_;rw[up_ne (ql k4),up_same],by rw[up_ne e4,up_ne k3];exact h.bnd,k2,h.n2,ql k3⟩
theorem SdAt.newM(h:SdAt tb O c S){q:Addr}(hq:O q=none)(l:List (Int×List Mom)):SdAt tb (up (up O q (.dK (dk zDM l))) c.p (.ins tb.Stand c.dx (zDf "music" (.ref q) [("sheet",zKC S.sheet),("order",.ref c.ao),("music",.ref c.am),("spans",.ref c.as),("bound",.ref c.ab),("fresh",frD S)]))) {c with am:=q} {S with music:=l}:=by
 obtain⟨e1,e2,e3,e4,e5,e6,e7⟩:=h.ne1
 have k1:=zAb hq h.ord
 have k2:=zAb hq h.spa
 have k3:=zAb hq h.bnd
 have k4:=zAb hq h.ob
 exact⟨up_same,by rw[up_ne e1,up_ne k1];exact h.ord,by show(up (up O q _) c.p _) q=_;rw[up_ne (ql k4),up_same],by rw[up_ne e3,up_ne k2];exact h.spa,by rw[up_ne e4,up_ne k3];exact h.bnd,ql k2,ql k3,h.n3⟩
theorem SdAt.newB(h:SdAt tb O c S){q:Addr}(hq:O q=none)(l:List (Int×Str)):SdAt tb (up (up O q (.dK (dk D.str l))) c.p (.ins tb.Stand c.dx (zDf "bound" (.ref q) [("sheet",zKC S.sheet),("order",.ref c.ao),("music",.ref c.am),("spans",.ref c.as),("bound",.ref c.ab),("fresh",frD S)]))) {c with ab:=q} {S with bound:=l}:=by
 obtain⟨e1,e2,e3,e4,e5,e6,e7⟩:=h.ne1
 have k1:=zAb hq h.ord
 have k2:=zAb hq h.mus
 have k3:=zAb hq h.spa
 have k4:=zAb hq h.ob
 exact⟨up_same,by rw[up_ne e1,up_ne k1];exact h.ord,by rw[up_ne e2,up_ne k2];exact h.mus,by rw[up_ne e3,up_ne k3];exact h.spa,by show(up (up O q _) c.p _) q=_;rw[up_ne (ql k4),up_same],h.n1,k2,k3⟩
theorem SdAt.newO(h:SdAt tb O c S){q:Addr}(hq:O q=none)(l:List Int):SdAt tb (up (up O q (.lst (l.map D.int))) c.p (.ins tb.Stand c.dx (zDf "order" (.ref q) [("sheet",zKC S.sheet),("order",.ref c.ao),("music",.ref c.am),("spans",.ref c.as),("bound",.ref c.ab),("fresh",frD S)]))) {c with ao:=q} {S with order:=l}:=by
 obtain⟨e1,e2,e3,e4,e5,e6,e7⟩:=h.ne1
 have k1:=zAb hq h.mus
 have k2:=zAb hq h.spa
 have k3:=zAb hq h.bnd
 have k4:=zAb hq h.ob
 exact⟨up_same,by show(up (up O q _) c.p _) q=_;rw[up_ne (ql k4),up_same],by rw[up_ne e2,up_ne k1];exact h.mus,by rw[up_ne e3,up_ne k2];exact h.spa,by rw[up_ne e4,up_ne k3];exact h.bnd,h.n1,h.n2,h.n3⟩
end
structure Bad where
 cls:Tb→Addr
 fs:List (Str×D)
def zHN(f:Tb→Addr)(m:Str):Bad:=⟨f,[("says",.str m)]⟩
def zZf(f:Tb→Addr)(m:Str)(n:Int):Bad:=⟨f,[("says",.str m),("number",.int n)]⟩
def zUX(k:Nat):Bad:=⟨Tb.BadBar,[("place",.int (k:Nat)),("says",.str (PySem.Str.ofString "bad bar"))]⟩
def zIm(n:Int):Bad:=zZf Tb.NoBar (PySem.Str.ofString "no bar") n
def Fr(l:List Addr)(O O':Om):Prop:=∀a o,O a=some o→a∉l→O' a=some o
theorem Fr.refl(l:List Addr)(O:Om):Fr l O O:=fun _ _ e _=>e
theorem Fr.trans{l:List Addr}{O O1 O2:Om}(h:Fr l O O1)(k:Fr l O1 O2):Fr l O O2:=fun a o e n=>k a o (h a o e n) n
theorem Fr.of{l:List Addr}{O O':Om}(h:Sb O O'):Fr l O O':=fun a o e _=>h a o e
theorem Fr.put{l:List Addr}{O:Om}{p:Addr}{o:DO}(h:p∈l):Fr l O (up O p o):=fun a u e n=>by rw[up_ne (fun z:a=p=>n (by rw[z];exact h))];exact e
theorem Fr.new{l:List Addr}{O:Om}{p:Addr}{o:DO}(h:O p=none):Fr l O (up O p o):=Fr.of (Sb.new h)
def Told1(b:Bad)(tb:Tb)(O:Om)(Z:XD):Prop:=∀d O',O d=none→Sb O O'→O' d=some (.xd b.fs)→Z (.ref (b.cls tb)) (some d) O'
theorem Told1.here{b:Bad}{tb:Tb}{O:Om}{Z:XD}(h:Told1 b tb O Z){d:Addr}(hd:O d=none):Z (.ref (b.cls tb)) (some d) (up O d (.xd b.fs)):=h d _ hd (Sb.new hd) up_same
theorem FinX.here{Z:XD}{c:Value}{d:Option Addr}{O:Om}(h:Z c d O):FinX Z c d O:=⟨O,fun _ _ e=>e,h⟩
def zYy(tb:Tb):DS:=
 (zAt (zAQ tb.Stand "sheet" (zAd 0) (fun _=>(zAd 1)))
 (zAt (zAQ tb.Stand "order" (zAd 0) (fun _=>(zMm zAg)))
 (zAt (zAQ tb.Stand "music" (zAd 0) (fun _=>zFV))
 (zAt (zAQ tb.Stand "spans" (zAd 0) (fun _=>zFV))
 (zAt (zAQ tb.Stand "bound" (zAd 0) (fun _=>zFV))
 (zAQ tb.Stand "fresh" (zAd 0) (fun _=>(zD2 (zAc (dC (.int 1)) (zAc (dC (.int 1)) zAg))))))))))
def yAb:List Str:=["self","sheet"]
def zNz(tb:Tb):DSp:=fun xs O R _=>∃(p dx:Addr) (s:Sht),xs=[.ref p,zKC s]∧O p=some (.ins tb.Stand dx [])∧∀O' c,Fr [p] O O'→c.p=p→O c.ao=none→O c.am=none→O c.as=none→O c.ab=none→SdAt tb O' c ⟨s,[],[],[],[],1,1⟩→R .non O'
theorem yBV(tb:Tb):∀xs O R Z,zNz tb xs O R Z→zYy tb (zBw R) (zAr yAb xs) O:=by
 rintro _ O R Z ⟨p,dx,s,rfl,ho,k⟩
 show zYy tb (zBw R) [some (.ref p),some (zKC s)] O
 unfold zYy
 refine zAz fun N hN=>?_
 dsimp! only[zAQ]
 refine⟨p,dx,[],rfl,ho,by decide,?_⟩
 subst hN
 refine zAz fun N hN=>?_
 dsimp! only[zAQ]
 intro ao h1
 have e1:ao≠p:=ql (zAb h1 up_same)
 have f1:O ao=none:=by rw[up_ne e1] at h1;exact h1
 refine⟨p,dx,_,rfl,(up_ne (ql e1)).trans up_same,(show(1:Nat)<1000 by decide),?_⟩
 subst hN
 refine zAz fun N hN=>?_
 dsimp! only[zAQ]
 intro am h2
 have e2:am≠p:=ql (zAb h2 up_same)
 rw[up_ne e2] at h2
 have g2:am≠ao:=ql (zAb h2 up_same)
 rw[up_ne g2,up_ne e2] at h2
 refine⟨p,dx,_,rfl,(up_ne (ql e2)).trans up_same,(show(2:Nat)<1000 by decide),?_⟩
 subst hN
 refine zAz fun N hN=>?_
 dsimp! only[zAQ]
 intro as h3
 have e3:as≠p:=ql (zAb h3 up_same)
 rw[up_ne e3] at h3
 have g3:as≠am:=ql (zAb h3 up_same)
 rw[up_ne g3,up_ne e3] at h3
 have g3':as≠ao:=ql (zAb h3 up_same)
 rw[up_ne g3',up_ne e3] at h3
 refine⟨p,dx,_,rfl,(up_ne (ql e3)).trans up_same,(show(3:Nat)<1000 by decide),?_⟩
 subst hN
 refine zAz fun N hN=>?_
 dsimp! only[zAQ]
 intro ab h4
 have e4:ab≠p:=ql (zAb h4 up_same)
 rw[up_ne e4] at h4
 have g4:ab≠as:=ql (zAb h4 up_same)
 rw[up_ne g4,up_ne e4] at h4
 have g4':ab≠am:=ql (zAb h4 up_same)
 rw[up_ne g4',up_ne e4] at h4
 have g4'':ab≠ao:=ql (zAb h4 up_same)
 rw[up_ne g4'',up_ne e4] at h4
 refine⟨p,dx,_,rfl,(up_ne (ql e4)).trans up_same,(show(4:Nat)<1000 by decide),?_⟩
 subst hN
 dsimp! only[zAQ]
 refine⟨p,dx,_,rfl,up_same,(show(5:Nat)<1000 by decide),?_⟩
 refine Fin.here (k _ ⟨p,dx,ao,am,as,ab⟩ ?_ rfl f1 h2 h3 h4 ?_)
 ·intro a o e n
  have n0:a≠p:=fun z=>n (by rw[z];exact qz)
  rw[up_ne n0,up_ne n0,up_ne (zAb h4 e),up_ne n0,up_ne (zAb h3 e),up_ne n0,up_ne (zAb h2 e),up_ne n0,up_ne (zAb f1 e),up_ne n0]
  exact e
 ·refine⟨up_same,?_,?_,?_,?_,ql g3,ql g4',ql g4⟩
  ·show up _ p _ ao=_
   rw[up_ne e1,up_ne e1,up_ne (ql g4''),up_ne e1,up_ne (ql g3'),up_ne e1,up_ne (ql g2),up_ne e1,up_same];rfl
  ·show up _ p _ am=_
   rw[up_ne e2,up_ne e2,up_ne (ql g4'),up_ne e2,up_ne (ql g3),up_ne e2,up_same];rfl
  ·show up _ p _ as=_
   rw[up_ne e3,up_ne e3,up_ne (ql g4),up_ne e3,up_same];rfl
  ·show up _ p _ ab=_
   rw[up_ne e4,up_ne e4,up_same];rfl
def zPW(tb:Tb):DS:=
 (zBK (zAo (dOp (zEm fun b=>!b) (zAd 1) (zAB tb.Stand "music" (zAd 0)))) (zB4 tb.NoBar (PySem.Str.ofString "no bar") (zAd 1)) zAH)
def zCj:List Str:=["self","number"]
def zEw(tb:Tb):DSp:=fun xs O R Z=>∃(c:Cel) (S:PSt) (n:Int),xs=[.ref c.p,.int n]∧SdW tb O c S∧((lkI S.music n).isSome=true→R .non O)∧((lkI S.music n).isSome=false→Told1 (zIm n) tb O Z)
theorem yAW(tb:Tb):∀xs O R Z,zEw tb xs O R Z→zPW tb (zAC R Z) (zAr zCj xs) O:=by
 rintro _ O R Z ⟨c,S,n,rfl,hS,k1,k2⟩
 show zPW tb (zAC R Z) [some (.ref c.p),some (.int n)] O
 unfold zPW
 dsimp! only[zAB,hS.xM,hS.mus,zCq,jW]
 cases h:(lkI S.music n).isSome with
 |true=>exact Fin.here (k1 h)
 |false=>
  dsimp! only[zB4]
  intro d hd
  exact FinX.here ((k2 h).here hd)
theorem zMe(n:Int):∀ns:List Int,zUV (.int n) (ns.map D.int)=ns.map fun m=>decide (m=n)
 |[]=>rfl
 |m::r=>by
  show eqF (.int m) (.int n)::zUV (.int n) (r.map D.int)=decide (m=n)::r.map _
  rw[zMe n r];rfl
theorem zL7(n:Int):∀ns:List Int,(ns.map fun m=>decide (m=n)).idxOf true=ns.idxOf n
 |[]=>rfl
 |m::r=>by
  rw[qr,jJ,jJ,zL7 n r]
  by_cases h:m=n
  ·simp[h]
  ·have e:(m==n)=false:=by simpa using h
   rw[e,qm h];rfl
theorem zOF(ns:List Int):(ns.map D.int).all flD=true:=by rw[kh,jE];intro x _;rfl
def zYL(tb:Tb):DS:=
 (zBd (zD2 (zAc (dLM zMn (zAB tb.Stand "order" (zAd 0)) (zAc (dOp dIx (zAd 1) (dC (.int 0))) zAg)) (zAc (dOp dIx (zAd 1) (dC (.int 1))) zAg))))
def yAi:List Str:=["self","end"]
def yA9(S:PSt)(t:Int×Int):D:=.tup [.int (zE1 S t),.int t.2]
def zHU(tb:Tb):DSp:=fun xs O R _=>∃(c:Cel) (S:PSt) (t:Int×Int),xs=[.ref c.p,zKt t]∧SdW tb O c S∧t.1∈S.order∧R (yA9 S t) O
theorem yB9(tb:Tb):∀xs O R Z,zHU tb xs O R Z→zYL tb (zBw R) (zAr yAi xs) O:=by
 rintro _ O R Z ⟨c,S,t,rfl,hS,ht,k⟩
 show zYL tb (zBw R) [some (.ref c.p),some (zKt t)] O
 unfold zYL
 dsimp! only[zAB,hS.xO,zKt]
 dsimp! only[zMn,hS.ord,zMe,zL7,zOF,flD]
 refine⟨True.intro,True.intro,True.intro,qy.mpr ⟨t.1,ht,by simp⟩,?_⟩
 exact Fin.here k
def zPY(tb:Tb):DS:=
 (zAt (zEo (zAd 1) (gT 4 (zAp (gN 2) (zAp (gN 3) (zAp (gN 4) (zAp (gN 5) zBP))))))
 (zAt (zMp (zC3 (zD2 (zAc (zAd 3) (zAc (zAd 4) zAg)))) (gT 2 (zAp (gN 6) (zAp (gN 7) zBP))) (zBK (zFI (zAo (dOp (zEm fun b=>!b) (zAd 6) (zAB tb.Stand "music" (zAd 0)))) (zBZ (zAo (zA6 dLe dLt (dC (.int 0)) (zAd 7) (dCB zC4 (zAc (dOp zDj (zAB tb.Stand "music" (zAd 0)) (zAd 6)) zAg)))))) (zBd (dC (.bl false))) zAH))
 (zBd (dOp yA1 (zAu tb.Stand "spot" (zHU tb) [.p 0,.p 1] [] (fun _=>(zAd 0)) (zAc (zAd 3) zAg) zAg X0) (zAu tb.Stand "spot" (zHU tb) [.p 0,.p 1] [] (fun _=>(zAd 0)) (zAc (zAd 4) zAg) zAg X0)))))
def zTG:List Str:=["self","span","staff","begin","end","thick","number","moment"]
def zLy(tb:Tb):DSp:=fun xs O R _=>∃(c:Cel) (S:PSt) (s:Spn),xs=[.ref c.p,zEu s]∧SdW tb O c S∧(∀n,(lkI S.music n).isSome=true↔n∈S.order)∧R (.bl (zC1 S s)) O
theorem yAY(tb:Tb):∀xs O R Z,zLy tb xs O R Z→zPY tb (zBw R) (zAr zTG xs) O:=by
 rintro _ O R Z ⟨c,S,s,rfl,hS,hm,k⟩
 show zPY tb (zBw R) [some (.ref c.p),some (zEu s),none,none,none,none,none,none] O
 unfold zPY
 refine zAz fun N hN=>?_;dsimp! only[zEu]
 refine⟨True.intro,?_⟩
 subst hN
 refine zAz fun N hN=>?_;simpa! only[zKt,zEP,zAB,hS.xM,hS.mus,zCq,jW,zA6]
 have fin:∀g,g[0]?=some (some (.ref c.p))→g[3]?=some (some (zKt s.b))→g[4]?=some (some (zKt s.e))→s.b.1∈S.order→s.e.1∈S.order→R (.bl (zU5 S s.b s.e)) O→N g O:=by
  intro g g0 g3 g4 h1 h2 k
  subst hN
  dsimp! only[zAu,g0,g3,g4,hS.mSpot]
  refine⟨c,S,s.b,rfl,hS,h1,?_⟩
  exact(hS.mSpot (P:=fun a=>zHU tb [D.ref a,zKt s.e] O _ X0)).mpr ⟨c,S,s.e,rfl,hS,h2,Fin.here k⟩
 unfold zC1 zEZ at k
 refine⟨True.intro,True.intro,?_⟩
 cases h1:lkI S.music s.b.1 with
 |none=>
  rw[h1] at k
  exact Fin.here k
 |some m1=>
  rw[h1] at k
  dsimp! only[kU,zDM,qd]
  by_cases h2:0≤s.b.2
  ·by_cases h3:s.b.2<(m1.length:Nat)
   ·simp only[h2,h3,qH,jk,jf,qk,qX]
    refine⟨True.intro,True.intro,?_⟩
    dsimp! only[hS.xM,hS.mus,zCq,jW]
    simp only[h2,h3,qH,Bool.and_self,kO] at k
    cases h4:lkI S.music s.e.1 with
    |none=>
     rw[h4] at k
     exact Fin.here k
    |some m2=>
     rw[h4] at k
     dsimp! only[kU,zDM,qd]
     by_cases h5:0≤s.e.2
     ·by_cases h6:s.e.2<(m2.length:Nat)
      ·simp only[h5,h6,qH,jk,jf,qk,qX]
       simp only[h5,h6,qH,Bool.and_self,kO] at k
       exact⟨True.intro,fin _ rfl rfl rfl ((hm _).mp (by rw[h1];rfl)) ((hm _).mp (by rw[h4];rfl)) k⟩
      ·simp only[h5,h6,qH,qO,jk,qZ]
       simp only[h5,h6,qH,qO,jZ,jG] at k
       exact Fin.here k
     ·simp only[h5,qO,qX,qZ,jk,qk]
      simp only[h5,qO,jG] at k
      exact Fin.here k
   ·simp only[h2,h3,qH,qO,jk,qZ]
    simp only[h2,h3,qH,qO,jZ,jG] at k
    exact Fin.here k
  ·simp only[h2,qO,qX,qZ,jk,qk]
   simp only[h2,qO,jG] at k
   exact Fin.here k
theorem zMk{A:Type}{f:A→D}{u:DG}{tt:DT}{tk tv:DE}{ok:Om→Prop}{g:Gm}{R:List (Key×D)→Om→Prop}{O:Om}(keep:Int×A→Bool)(hok:ok O)
  (hs:∀(a:Int×A) (N:Om→Prop) (M:D→D→Om→Prop),(keep a=true→M (.int a.1) (f a.2) O)→(keep a=false→N O)→u (.tup [.int a.1,f a.2]) g O fun g1 O1=>tt g1 O1 fun b O2=>if b=true then tk g1 O2 fun x3 O3=>tv g1 O3 fun y O4=>M x3 y O4 else N O2):
  ∀(l pre:List (Int×A)),((pre++l).map (·.1)).Nodup→(pre++l).length<1000000→R (dk f (pre.filter keep++l.filter keep)) O→zGR u tt tk tv ok g R (l.map fun p=>D.tup [.int p.1,f p.2]) (dk f (pre.filter keep)) O
 |[],pre,hn,hl,h=>by
  rw[List.filter_nil,jH] at h
  exact⟨hok,h⟩
 |a::l,pre,hn,hl,h=>by
  have hn2:(((pre++[a])++l).map (·.1)).Nodup:=by rw[je];exact hn
  have hl2:((pre++[a])++l).length<1000000:=by rw[je];exact hl
  have ih:=zMk (R:=R) keep hok hs l (pre++[a]) hn2 hl2
  rw[jU] at ih
  refine⟨hok,hs a _ (fun x3 y O4=>∃k,DL.keyOf x3=some k∧(dk f (pre.filter keep)).length<sizeLine∧zGR u tt tk tv ok g R (l.map fun p=>D.tup [.int p.1,f p.2]) (zKp (dk f (pre.filter keep)) k y) O4) (fun hk=>?_) (fun hk=>?_)⟩
  ·refine⟨.inl a.1,rfl,?_,?_⟩
   ·rw[zHy]
    have:=jv keep pre
    rw[qL] at hl
    have e:sizeLine=16777216:=by decide
    omega
   ·have e:ptI (pre.filter keep) a.1 a.2=pre.filter keep++[a].filter keep:=by
     unfold ptI
     rw[qb (fun z=>?_),jc hk]
     ·rfl
     ·have z2:=(zBs _ _).mp z
      obtain⟨q,hq,hq2⟩:=qy.mp z2
      rw[qK,List.nodup_append] at hn
      exact hn.2.2 _ (qy.mpr ⟨q,(jI.mp hq).1,rfl⟩) _ (qy.mpr ⟨a,qz,rfl⟩) hq2
    rw[zJr,e]
    refine ih ?_
    rw[jc hk] at h
    rw[jc hk,je]
    exact h
  ·have e:pre.filter keep=pre.filter keep++[a].filter keep:=by
    rw[jj (by simp[hk])];simp
   have e2:dk f (pre.filter keep)=dk f (pre.filter keep++[a].filter keep):=by rw[←e]
   rw[e2]
   refine ih ?_
   rw[jj (by simp[hk])] at h
   rw[←e]
   exact h
def zYK(tb:Tb):DS:=
 (zAQ tb.Stand "spans" (zAd 0) (fun _=>(zSA (zZd (zOY (zAB tb.Stand "spans" (zAd 0))) (gT 2 (zAp (gN 1) (zAp (gN 2) zBP))) (zAo (zAu tb.Stand "lies" (zLy tb) [.p 0,.p 1] [] (fun _=>(zAd 0)) (zAc (zAd 2) zAg) zAg X0)) (zAd 1) (zAd 2) [1,2]))))
def zY1:List Str:=["self","number","span"]
def zMF(tb:Tb):DSp:=fun xs O R _=>∃(c:Cel) (S:PSt),xs=[.ref c.p]∧SdAt tb O c S∧(∀n,(lkI S.music n).isSome=true↔n∈S.order)∧(S.spans.map (·.1)).Nodup∧S.spans.length≤1000∧∀O' q,O q=none→Fr [c.p] O O'→SdAt tb O' {c with as:=q} (zDm S)→R .non O'
theorem yB8(tb:Tb):∀xs O R Z,zMF tb xs O R Z→zYK tb (zBw R) (zAr zY1 xs) O:=by
 rintro _ O R Z ⟨c,S,rfl,hS,hm,hn,hl,k⟩
 show zYK tb (zBw R) [some (.ref c.p),none,none] O
 unfold zYK
 dsimp! only[zAQ]
 refine⟨c.as,_,hS.spa,fun od kvs=>?_⟩
 obtain⟨e1,e2,e3,e4,e5,e6,e7⟩:=hS.ne1
 have hW:SdW tb (up O c.as (.fK od kvs (dk zEu S.spans))) c S:=⟨by rw[up_ne (ql e3)];exact hS.ob,by rw[up_ne (ql e6)];exact hS.ord,by rw[up_ne hS.n1];exact hS.mus⟩
 have hA:(up O c.as (.fK od kvs (dk zEu S.spans))) c.as=some (.fK od kvs (dk zEu S.spans)):=up_same
 have eb:∀o,up (up O c.as (.fK od kvs (dk zEu S.spans))) c.as o=up O c.as o:=fun o=>zMA
 generalize hOL:up O c.as (.fK od kvs (dk zEu S.spans))=OL at hW hA eb
 have eL:∀a,a≠c.as→OL a=O a:=fun a ha=>by rw[←hOL,up_ne ha]
 unfold zZd
 dsimp! only[zOY,zAB,hW.xP,hA,zCM]
 have em:(dk zEu S.spans).map itD=S.spans.map fun p=>D.tup [.int p.1,zEu p.2]:=by unfold dk;rw[ja];rfl
 rw[em]
 refine zMk (f:=zEu) (fun p=>zC1 S p.2) hA (fun a N M hM hN=>?_) S.spans [] (by rw[kW];exact hn) (by rw[kW];omega) ?_
 ·dsimp! only[zAu,hW.mLies]
  refine⟨True.intro,c,S,a.2,rfl,hW,hm,?_⟩
  cases h:zC1 S a.2 with
  |true=>
   dsimp! only[]
   exact hM h
  |false=>
   dsimp! only[]
   exact hN h
 ·intro q hq
  have qn:q≠c.as:=fun z=>by rw[z,hA] at hq;cases hq
  have hq0:O q=none:=by rw[←eL q qn];exact hq
  refine⟨by rw[up_ne (ql qn)];exact hA,?_⟩
  have eO:up (up OL q (.dK (dk zEu (zDm S).spans))) c.as (.dK (dk zEu S.spans))=up O q (.dK (dk zEu (zDm S).spans)):=by
   funext b
   by_cases h1:b=c.as
   ·rw[h1,up_same,up_ne (ql qn),hS.spa]
   ·rw[up_ne h1]
    by_cases h2:b=q
    ·rw[h2,up_same,up_same]
    ·rw[up_ne h2,up_ne h2,eL b h1]
  have eO':up (up OL q (.dK (dk zEu (List.filter (fun p=>zC1 S p.2) []++List.filter (fun p=>zC1 S p.2) S.spans)))) c.as (.dK (dk zEu S.spans))=up O q (.dK (dk zEu (zDm S).spans)):=eO
  rw[eO']
  refine⟨c.p,c.dx,_,rfl,(up_ne (zAb hq0 hS.ob)).trans hS.ob,(show(6:Nat)<1000 by decide),?_⟩
  refine Fin.here (k _ q hq0 ?_ (hS.newP hq0 _))
  exact(Fr.new hq0).trans (Fr.put qz)
theorem zKR{O O':Om}{q:Addr}(s:Sb O O')(h:O' q=none):O q=none:=by
 cases e:O q with
 |none=>rfl
 |some o=>rw[s _ _ e] at h;cases h
def zPZ(tb:Tb):DS:=
 (zAt (zBY 1 (zEO tb.Stand (zNz tb) [.p 0,.p 1] [] (zAc (zAB tb.Stand "sheet" (zAd 0)) zAg) zAg X0))
 (zAt (zAQ tb.Stand "order" (zAd 1) (fun _=>(dCB zGJ (zAc (zAB tb.Stand "order" (zAd 0)) zAg))))
 (zAt (zAQ tb.Stand "music" (zAd 1) (fun _=>(dCB zGQ (zAc (zAB tb.Stand "music" (zAd 0)) zAg))))
 (zAt (zAQ tb.Stand "spans" (zAd 1) (fun _=>(dCB zGQ (zAc (zAB tb.Stand "spans" (zAd 0)) zAg))))
 (zAt (zAQ tb.Stand "bound" (zAd 1) (fun _=>(dCB zGQ (zAc (zAB tb.Stand "bound" (zAd 0)) zAg))))
 (zAt (zAQ tb.Stand "fresh" (zAd 1) (fun _=>(zAB tb.Stand "fresh" (zAd 0))))
 (zBd (zAd 1))))))))
def zTH:List Str:=["self","made"]
def zLz(tb:Tb):DSp:=fun xs O R _=>∃(c:Cel) (S:PSt),xs=[.ref c.p]∧SdAt tb O c S∧S.order.length≤100000∧∀O' c',Sb O O'→O c'.p=none→O c'.ao=none→O c'.am=none→O c'.as=none→O c'.ab=none→SdAt tb O' c' S→R (.ref c'.p) O'
theorem yAZ(tb:Tb):∀xs O R Z,zLz tb xs O R Z→zPZ tb (zBw R) (zAr zTH xs) O:=by
 rintro _ O R Z ⟨c,S,rfl,hS,hl,k⟩
 show zPZ tb (zBw R) [some (.ref c.p),none] O
 unfold zPZ
 refine zAz fun N hN=>?_
 dsimp! only[zEO,zAB,hS.xS]
 intro x dx hx hdx hne
 have f1:Sb O (up (up O dx (.own x)) x (.ins tb.Stand dx [])):=(Sb.new hdx).trans (Sb.new (by rw[up_ne (ql hne)];exact hx))
 refine⟨x,dx,S.sheet,rfl,up_same,fun O1 c1 fr e1 a1 a2 a3 a4 s1=>⟨rfl,?_⟩⟩
 subst hN
 have sb1:Sb O O1:=fun a o e=>fr a o (f1 a o e) (fun z=>by rw[qh] at z;rw[z] at e;rw[hx] at e;cases e)
 cases e1
 have h1:=hS.sb sb1
 refine zAz fun N hN=>?_
 dsimp! only[zAQ,zAB,h1.xO,h1.ord]
 intro q1 hq1
 have s2:=s1.newO hq1 S.order
 refine⟨c1.p,c1.dx,_,rfl,(up_ne (zAb hq1 s1.ob)).trans s1.ob,(show(6:Nat)<1000 by decide),?_⟩
 generalize hO2:up (up O1 q1 (.lst (S.order.map D.int))) c1.p _=O2 at s2⊢
 have sb2:Sb O O2:=fun a o e=>by
  rw[←hO2,up_ne (fun z=>by rw[z] at e;rw[hx] at e;cases e)]
  exact Sb.new hq1 a o (sb1 a o e)
 clear hO2
 subst hN
 have h2:=hS.sb sb2
 refine zAz fun N hN=>?_
 dsimp! only[zAQ,zAB,zGQ,h2.xM,h2.mus]
 intro q2 hq2
 have s3:=s2.newM hq2 S.music
 refine⟨c1.p,c1.dx,_,rfl,(up_ne (zAb hq2 s2.ob)).trans s2.ob,(show(6:Nat)<1000 by decide),?_⟩
 generalize hO3:up (up O2 q2 (.dK (dk zDM S.music))) c1.p _=O3 at s3⊢
 have sb3:Sb O O3:=fun a o e=>by
  rw[←hO3,up_ne (fun z=>by rw[z] at e;rw[hx] at e;cases e)]
  exact Sb.new hq2 a o (sb2 a o e)
 clear hO3
 subst hN
 have h3:=hS.sb sb3
 refine zAz fun N hN=>?_
 dsimp! only[zAQ,zAB,zGQ,h3.xP,h3.spa]
 intro q3 hq3
 have s4:=s3.newP hq3 S.spans
 refine⟨c1.p,c1.dx,_,rfl,(up_ne (zAb hq3 s3.ob)).trans s3.ob,(show(6:Nat)<1000 by decide),?_⟩
 generalize hO4:up (up O3 q3 (.dK (dk zEu S.spans))) c1.p _=O4 at s4⊢
 have sb4:Sb O O4:=fun a o e=>by
  rw[←hO4,up_ne (fun z=>by rw[z] at e;rw[hx] at e;cases e)]
  exact Sb.new hq3 a o (sb3 a o e)
 clear hO4
 subst hN
 have h4:=hS.sb sb4
 refine zAz fun N hN=>?_
 dsimp! only[zAQ,zAB,zGQ,h4.xB,h4.bnd]
 intro q4 hq4
 have s5:=s4.newB hq4 S.bound
 refine⟨c1.p,c1.dx,_,rfl,(up_ne (zAb hq4 s4.ob)).trans s4.ob,(show(6:Nat)<1000 by decide),?_⟩
 generalize hO5:up (up O4 q4 (.dK (dk D.str S.bound))) c1.p _=O5 at s5⊢
 have sb5:Sb O O5:=fun a o e=>by
  rw[←hO5,up_ne (fun z=>by rw[z] at e;rw[hx] at e;cases e)]
  exact Sb.new hq4 a o (sb4 a o e)
 clear hO5
 subst hN
 have h5:=hS.sb sb5
 refine zAz fun N hN=>?_
 dsimp! only[zAQ,zAB,h5.xF]
 have s6:=s5.upF S.f0 S.f1
 refine⟨c1.p,c1.dx,_,rfl,s5.ob,(show(6:Nat)<1000 by decide),?_⟩
 subst hN
 dsimp! only[]
 refine Fin.here (k _ ⟨c1.p,c1.dx,q1,q2,q3,q4⟩ ?_ hx ?_ ?_ ?_ ?_ s6)
 ·intro a o e
  rw[up_ne (fun z=>by rw[z] at e;rw[hx] at e;cases e)]
  exact sb5 a o e
 ·exact zKR sb1 hq1
 ·exact zKR sb2 hq2
 ·exact zKR sb3 hq3
 ·exact zKR sb4 hq4
def zPJ(tb:Tb):DS:=
 (zAt (zBY 1 (zAX zQb [.p 0] [] (zAc (zAd 0) zAg) zAg))
 (zBK (zAo (dOp zFU (zAd 1) (dC .non))) (zK4 tb.BadBar (PySem.Str.ofString "bad bar") "place" (zAd 1)) zAH))
def zDy:List Str:=["moments","fault"]
def zI9(tb:Tb):DSp:=fun xs O R Z=>∃ms:List Mom,xs=[zDM ms]∧(∀m∈ms,m.hs.length≤1000)∧(zDZ ms=none→R .non O)∧∀k,zDZ ms=some k→Told1 (zUX k) tb O Z
theorem yAJ(tb:Tb):∀xs O R Z,zI9 tb xs O R Z→zPJ tb (zAC R Z) (zAr zDy xs) O:=by
 rintro _ O R Z ⟨ms,rfl,hl,k1,k2⟩
 show zPJ tb (zAC R Z) [some (zDM ms),none] O
 unfold zPJ
 refine zAz fun N hN=>?_;dsimp! only[]
 refine⟨ms,rfl,hl,?_⟩
 subst hN
 cases h:zDZ ms with
 |none=>
  dsimp! only[zOb]
  exact Fin.here (k1 h)
 |some i=>
  dsimp! only[zOb,zK4]
  intro d hd
  exact FinX.here ((k2 i h).here hd)
def zPI(tb:Tb):DS:=
 (zAt (zBK (zFI (zBZ (zAo (zA6 dLe dLe (dC (.int 20)) (zAd 0) (dC (.int 400))))) (zBZ (zAo (zA6 dLe dLe (dC (.int 1)) (zAd 1) (dC (.int 6)))))) (zAK tb.BadPaper (PySem.Str.ofString "bad paper")) zAH)
 (zAt (zBK (zBZ (zAo (dCB (zK8 fun bs=>bs.all fun b=>b) (zAc (zHE (zC3 (zD2 (zAc (zAd 2) (zAc (zAd 3) (zAc (zAd 4) zAg))))) (gN 5) zFF (zA6 dLe dLe (dC (.int 0)) (zAd 5) (dC (.int 999))) [5]) zAg)))) (zAK tb.BadPaper (PySem.Str.ofString "bad paper")) zAH)
 (zBd (zD2 (zAc (zAd 0) (zAc (zAd 1) (zAc (zAd 2) (zAc (zAd 3) (zAc (zAd 4) zAg)))))))))
def zIn:List Str:=["width","lines","fee","turn","gap","one"]
def zDN:Bad:=zHN Tb.BadPaper (PySem.Str.ofString "bad paper")
def zI8(tb:Tb):DSp:=fun xs O R Z=>∃s:Sht,xs=[.int s.w,.int s.l,.int s.f,.int s.t,.int s.g]∧(s.ok=true→R (zKC s) O)∧(s.ok=false→Told1 zDN tb O Z)
theorem yAI(tb:Tb):∀xs O R Z,zI8 tb xs O R Z→zPI tb (zAC R Z) (zAr zIn xs) O:=by
 rintro _ O R Z ⟨s,rfl,k1,k2⟩
 show zPI tb (zAC R Z) [some (.int s.w),some (.int s.l),some (.int s.f),some (.int s.t),some (.int s.g),none] O
 unfold zPI
 unfold Sht.ok at k1 k2
 simp only[zER]
 refine zAz fun N hN=>?_;dsimp! only[zSF]
 generalize (decide (20≤s.w)&&decide (s.w≤400))=b1 at k1 k2⊢
 cases b1 with
 |false=>
  dsimp! only[zAK]
  intro d hd
  exact FinX.here ((k2 rfl).here hd)
 |true=>
  generalize (decide (1≤s.l)&&decide (s.l≤6))=b2 at k1 k2⊢
  cases b2 with
  |false=>
   dsimp! only[zAK]
   intro d hd
   exact FinX.here ((k2 rfl).here hd)
  |true=>
   dsimp! only[]
   subst hN
   refine zAz fun N hN=>?_
   simpa! only[]
   refine zBV (f:=D.int) (as:=[s.f,s.t,s.g]) (fun x=>D.bl (decide (0≤x)&&decide (x≤999))) True.intro (by show 3<16000000;decide) (fun a ha N acc hacc kk=>?_) ?_
   ·dsimp! only[zFF,zSF]
    exact⟨hacc,kk⟩
   have eb:[s.f,s.t,s.g].map (fun x=>D.bl (decide (0≤x)&&decide (x≤999)))=([s.f,s.t,s.g].map fun x=>decide (0≤x)&&decide (x≤999)).map D.bl:=by rw[ja];rfl
   rw[eb]
   dsimp! only[zCw]
   have ea:(([s.f,s.t,s.g].map fun x=>decide (0≤x)&&decide (x≤999)).all fun b=>b)=[s.f,s.t,s.g].all fun x=>decide (0≤x)&&decide (x≤999):=by rw[kh];rfl
   cases h:[s.f,s.t,s.g].all fun x=>decide (0≤x)&&decide (x≤999) with
   |false=>
    rw[qe (by rw[ea,h];rfl)]
    dsimp! only[zAK]
    intro d hd
    exact FinX.here ((k2 (by rw[h];rfl)).here hd)
   |true=>
    rw[qb (by rw[ea,h];decide)]
    subst hN
    dsimp! only[]
    exact Fin.here (k1 (by rw[h];rfl))
def zHh(s:String):D:=.str (PySem.Str.ofString s)
def zFc:Bad:=zHN Tb.BadDeed (PySem.Str.ofString "bad deed")
def szI:Option D→Int
 |some (.int n)=>n
 |_=>0
def zFh:D→Option Int
 |.str k=>(sizesT.lookup k).map szI
 |_=>none
def zJF:List D→Bool
 |[]=>false
 |x::r=>decide (zFh x=some ((r.length+1:Nat):Int))
def zI7(tb:Tb):DSp:=fun xs O R Z=>∃ys:List D,xs=[.tup ys]∧(∀y r,ys=y::r→(zFh y).isSome=true)∧(zJF ys=true→R .non O)∧(zJF ys=false→Told1 zFc tb O Z)
def zPH(tb:Tb):DS:=
 (zBK (zFI (zAo (dOp dEq (dCB zC4 (zAc (zAd 0) zAg)) (dC (.int 0)))) (zAo (dOp dNe (dCB zC4 (zAc (zAd 0) zAg)) (zUp tb.SIZES (sizesT) (dC (.ref tb.SIZES)) (dOp dIx (zAd 0) (dC (.int 0))) (dC (.int 0)))))) (zAK tb.BadDeed (PySem.Str.ofString "bad deed")) zAH)
def zEc:List Str:=["deed"]
theorem yAH(tb:Tb):∀xs O R Z,zI7 tb xs O R Z→zPH tb (zAC R Z) (zAr zEc xs) O:=by
 rintro _ O R Z ⟨ys,rfl,hy,k1,k2⟩
 show zPH tb (zAC R Z) [some (.tup ys)] O
 unfold zPH
 dsimp! only[]
 cases ys with
 |nil=>
  dsimp! only[zAK]
  intro d hd
  exact FinX.here ((k2 rfl).here hd)
 |cons y r=>
  have h0:¬(((y::r).length:Nat):Int)=0:=by rw[qi];omega
  simp only[h0,qO,qk,qX]
  dsimp! only[zUp]
  have h1:=hy y r rfl
  unfold zFh at h1
  split at h1
  ·rename_i k
   cases h2:sizesT.lookup k with
   |none=>rw[h2] at h1;cases h1
   |some o=>
    refine⟨True.intro,k,o,rfl,h2,?_⟩
    have h3:∃n:Int,o.getD (.int 0)=.int n∧zFh (.str k)=some n:=by
     have es:zFh (.str k)=(sizesT.lookup k).map szI:=rfl
     rw[es,h2]
     have hm:o=none∨∃n:Int,o=some (.int n):=by
      have:∀p∈sizesT,p.2=none∨∃n:Int,p.2=some (.int n):=by
       intro p hp
       simp only[sizesT,qj,qt,qW] at hp
       rcases hp with rfl|rfl|rfl|rfl|rfl|rfl|rfl|rfl|rfl|rfl|rfl|rfl<;>first|exact .inr ⟨_,rfl⟩|exact .inl rfl
      have hmem:∀l:List (Str×Option D),l.lookup k=some o→(k,o)∈l:=by
       intro l
       induction l with
       |nil=>intro z;cases z
       |cons p t ih=>
        intro z
        rw[List.lookup_cons] at z
        by_cases hb:k=p.1
        ·subst hb
         rw[kc] at z
         cases z
         exact qz
        ·have eb:(k==p.1)=false:=by simpa using hb
         rw[eb] at z
         exact qA _ (ih z)
      exact this _ (hmem _ h2)
     rcases hm with rfl|⟨n,rfl⟩
     ·exact⟨0,rfl,rfl⟩
     ·exact⟨n,rfl,rfl⟩
    obtain⟨n,e1,e2⟩:=h3
    rw[e1]
    dsimp! only[]
    have ef:zJF (.str k::r)=decide (((r.length+1:Nat):Int)=n):=by
     show decide (zFh (.str k)=_)=_
     rw[e2]
     apply jw.mpr
     exact⟨fun z=>(jb z).symm,fun z=>by rw[z]⟩
    rw[ef] at k1 k2
    generalize decide (((r.length+1:Nat):Int)=n)=b at k1 k2⊢
    cases b with
    |true=>exact Fin.here (k1 rfl)
    |false=>
     dsimp! only[zAK]
     intro d hd
     exact FinX.here ((k2 rfl).here hd)
  ·cases h1
inductive Deed where
 |bar (a:Int) (m:List Mom)
 |change (n:Int) (m:List Mom)
 |cut (n:Int)
 |move (n a:Int)
 |mark (s:Spn)
 |wipe (n:Int)
 |bound (n:Int) (w:Str)
 |paper (s:Sht)
def dD:Deed→List D
 |.bar a m=>[zHh "bar",.int a,zDM m]
 |.change n m=>[zHh "change",.int n,zDM m]
 |.cut n=>[zHh "cut",.int n]
 |.move n a=>[zHh "move",.int n,.int a]
 |.mark s=>[zHh "mark",.int s.on,zKt s.b,zKt s.e,.int s.th]
 |.wipe n=>[zHh "wipe",.int n]
 |.bound n w=>[zHh "end",.int n,.str w]
 |.paper s=>[zHh "paper",.int s.w,.int s.l,.int s.f,.int s.t,.int s.g]
def zBt(d:Deed):D:=.tup (dD d)
def DOk:Deed→Prop
 |.bar _ m=>m.length≤1000∧∀x∈m,x.hs.length≤1000
 |.change _ m=>m.length≤1000∧∀x∈m,x.hs.length≤1000
 |_=>True
inductive Res where
 |ok (S:PSt) (v:D)
 |er (b:Bad)
def zDQ(l:List Int)(a n:Int):List Int:=l.take a.toNat++[n]++l.drop a.toNat
def zLN:Bad:=zHN Tb.BadPlace (PySem.Str.ofString "bad place")
def zOB:Bad:=zHN Tb.Full (PySem.Str.ofString "full")
def zNy:Bad:=zHN Tb.BadStaff (PySem.Str.ofString "bad staff")
def zSR:Bad:=zHN Tb.BadSpan (PySem.Str.ofString "bad span")
def zNq:Bad:=zHN Tb.BadThick (PySem.Str.ofString "bad thick")
def zPs:Bad:=zHN Tb.BadWord (PySem.Str.ofString "bad word")
def zTc:Bad:=zHN Tb.Same (PySem.Str.ofString "same")
def yAj(k:Int):Bad:=zZf Tb.NoMoment (PySem.Str.ofString "no moment") k
def zTO(n:Int):Bad:=zZf Tb.NoMark (PySem.Str.ofString "no mark") n
def inM(S:PSt)(n:Int):Bool:=(lkI S.music n).isSome
def zG2(S:PSt)(t:Int×Int):Bool:=decide (0≤t.2)&&decide (t.2<(((lkI S.music t.1).getD []).length:Nat))
def zKW(S:PSt)(a b:Int×Int):Bool:=HT.lexLt [zE1 S a,a.2] [zE1 S b,b.2]
def zI0(w:Str):Bool:=decide (w=zEk)||(decide (w=zGx)||decide (w=zCD))
def zGW(S:PSt)(a:Int)(m:List Mom):Res:=
  if(decide (0≤a)&&decide (a≤(S.order.length:Nat)))=true then
   match zDZ m with
   |some k=>.er (zUX k)
   |none=>if 12≤S.order.length then .er zOB else .ok {S with order:=zDQ S.order a S.f0,music:=ptI S.music S.f0 m,f0:=S.f0+1} (.int S.f0)
  else .er zLN
def zB7(S:PSt)(n:Int)(m:List Mom):Res:=
  if inM S n=true then
   match zDZ m with
   |some k=>.er (zUX k)
   |none=>.ok (zDm {S with music:=ptI S.music n m}) .non
  else .er (zIm n)
def zGV(S:PSt)(n:Int):Res:=if inM S n=true then .ok (zDm {S with order:=S.order.erase n,music:=drI S.music n,bound:=drI S.bound n}) .non else .er (zIm n)
def zDU(S:PSt)(n a:Int):Res:=if inM S n=true then(if(decide (0≤a)&&decide (a<(S.order.length:Nat)))=true then .ok (zDm {S with order:=zDQ (S.order.erase n) a n}) .non else .er zLN) else .er (zIm n)
def zDV(S:PSt)(s:Spn):Res:=
  if(decide (0≤s.on)&&decide (s.on≤3))=true then
   if inM S s.b.1=true then
    if inM S s.e.1=true then
     if zG2 S s.b=true then
      if zG2 S s.e=true then
       if zKW S s.e s.b=true then .er zSR
       else if(decide (1≤s.th)&&decide (s.th≤9))=true then
        (if 20≤S.spans.length then .er zOB else .ok {S with spans:=ptI S.spans S.f1 s,f1:=S.f1+1} (.int S.f1))
       else .er zNq
      else .er (yAj s.e.2)
     else .er (yAj s.b.2)
    else .er (zIm s.e.1)
   else .er (zIm s.b.1)
  else .er zNy
def zDT(S:PSt)(n:Int):Res:=if(lkI S.spans n).isSome=true then .ok {S with spans:=drI S.spans n} .non else .er (zTO n)
def zCO(S:PSt)(n:Int)(w:Str):Res:=
  if inM S n=true then
   if zI0 w=true then
    if zEr S n=w then .er zTc
    else .ok {S with bound:=if w=zEk then drI S.bound n else ptI S.bound n w} .non
   else .er zPs
  else .er (zIm n)
def zCN(S:PSt)(s:Sht):Res:=if s.ok=true then .ok {S with sheet:=s} .non else .er zDN
def step(S:PSt):Deed→Res
 |.bar a m=>zGW S a m
 |.change n m=>zB7 S n m
 |.cut n=>zGV S n
 |.move n a=>zDU S n a
 |.mark s=>zDV S s
 |.wipe n=>zDT S n
 |.bound n w=>zCO S n w
 |.paper s=>zCN S s
def Post(tb:Tb)(c:Cel)(r:Res)(O:Om)(R:D→Om→Prop)(Z:XD):Prop:=match r with
 |.ok S' v=>∀O' q,(q=c.as∨O q=none)→Fr [c.p,c.ao,c.am,c.as,c.ab] O O'→SdAt tb O' {c with as:=q} S'→R v O'
 |.er b=>Told1 b tb O Z
def zJa(tb:Tb)(P:Deed→Prop):DSp:=fun xs O R Z=>∃(c:Cel) (S:PSt) (d:Deed),xs=[.ref c.p,zBt d]∧P d∧DOk d∧SdAt tb O c S∧S.Ok∧Post tb c (step S d) O R Z
theorem PSt.Ok.fresh{S:PSt}(h:S.Ok):lkI S.music S.f0=none:=by
 cases e:lkI S.music S.f0 with
 |none=>rfl
 |some v=>exact absurd (h.o0 _ ((h.mus _).mp (by rw[e];rfl))).2 (Int.lt_irrefl _)
theorem yBl{S:PSt}(h:S.Ok):S.music.length≤12:=by
 have e:(S.music.map (·.1)).length≤S.order.length:=by
  apply List.Nodup.length_le_of_subset h.mn
  intro n hn
  exact(h.mus n).mp ((zBs _ _).mpr hn)
 rw[qd] at e
 exact qo e h.ol
theorem zL5(l:List Int)(a n:Int):(l.map D.int).take a.toNat++[D.int n]++(l.map D.int).drop a.toNat=(zDQ l a n).map D.int:=by
 unfold zDQ
 rw[qK,qK,List.map_take,List.map_drop];rfl
def yAp(d:Deed):Prop:=∃a m,d=.bar a m
def zPT(tb:Tb):DS:=
 (zAt (zEo (zAd 1) (gT 3 (zAp (gN 2) (zAp (gN 3) (zAp (gN 4) zBP)))))
 (zAt (zBK (zBZ (zAo (zA6 dLe dLe (dC (.int 0)) (zAd 3) (dCB zC4 (zAc (zAB tb.Stand "order" (zAd 0)) zAg))))) (zAK tb.BadPlace (PySem.Str.ofString "bad place")) zAH)
 (zAt (zA1 (zBm (zI9 tb) [.p 0] [] (zAc (zAd 4) zAg) zAg))
 (zAt (zBK (zAo (dOp dGe (dCB zC4 (zAc (zAB tb.Stand "order" (zAd 0)) zAg)) (dC (.int 12)))) (zAK tb.Full (PySem.Str.ofString "full")) zAH)
 (zAt (zBY 5 (dOp dIx (zAB tb.Stand "fresh" (zAd 0)) (dC (.int 0))))
 (zAt (zCo (dLM zCv (zAB tb.Stand "order" (zAd 0)) (zAc (zAd 3) (zAc (zAd 5) zAg))))
 (zAt (zEN (zAB tb.Stand "music" (zAd 0)) (zAd 5) (zAd 4))
 (zAt (zAQ tb.Stand "fresh" (zAd 0) (fun _=>(zD2 (zAc (dOp zDL (zAd 5) (dC (.int 1))) (zAc (dOp dIx (zAB tb.Stand "fresh" (zAd 0)) (dC (.int 1))) zAg)))))
 (zBd (zAd 5))))))))))
def zGw:List Str:=["stand","deed","word","at","moments","number"]
def zGl(tb:Tb):DSp:=zJa tb yAp
theorem yAT(tb:Tb):∀xs O R Z,zGl tb xs O R Z→zPT tb (zAC R Z) (zAr zGw xs) O:=by
 rintro _ O R Z ⟨c,S,_,rfl,⟨a,m,rfl⟩,hd,hS,hO,k⟩
 show zPT tb (zAC R Z) [some (.ref c.p),some (zBt (.bar a m)),none,none,none,none] O
 unfold zPT
 refine zAz fun N hN=>?_;dsimp! only[zBt,dD]
 refine⟨True.intro,?_⟩
 subst hN
 have k:Post tb c (zGW S a m) O R Z:=k
 unfold zGW at k
 refine zAz fun N hN=>?_;dsimp! only[zA6,zAB,hS.xO,hS.ord,qd]
 have no:(decide (0≤a)&&decide (a≤(S.order.length:Nat)))=false→zAK tb.BadPlace (PySem.Str.ofString "bad place") {nx:=N,rt:=(zAC R Z).rt,bk:=(zAC R Z).bk,ct:=(zAC R Z).ct,xc:=(zAC R Z).xc} [some (.ref c.p),some (.tup [zHh "bar",.int a,zDM m]),some (zHh "bar"),some (.int a),some (zDM m),none] O:=fun e=>by
  rw[qb (by rw[e];decide)] at k
  dsimp! only[zAK]
  intro d hd
  exact FinX.here (k.here hd)
 by_cases h1:0≤a
 ·by_cases h2:a≤(S.order.length:Nat)
  ·rw[qe (by rw[qx h1,qx h2];rfl)] at k
   simp only[h1,h2,qH,jf,qk,qX]
   subst hN
   refine zAz fun N hN=>?_;dsimp! only[zA1,zBm]
   refine⟨m,rfl,hd.2,fun hf=>?_,fun i hf=>?_⟩
   ·rw[hf] at k
    subst hN
    refine zAz fun N hN=>?_;dsimp! only[zAB,hS.xO,hS.ord,qd]
    by_cases h12:12≤S.order.length
    ·rw[qe (by simp;omega)]
     have k:Told1 zOB tb O Z:=by have k:=k;simp only[h12,jk] at k;exact k
     dsimp! only[zAK]
     intro d hd
     exact FinX.here (k.here hd)
    ·rw[qb (by simp;omega)]
     subst hN
     refine zAz fun N hN=>?_;dsimp! only[zAB,hS.xF,frD]
     subst hN
     refine zAz fun N hN=>?_;dsimp! only[zAB,hS.xO,hS.ord,qd]
     refine⟨True.intro,⟨(by
                  have e:sizeLine=16777216:=by decide
                  have:=hO.ol
                  omega),h1,by have:=hO.ol;omega⟩,?_⟩
     rw[zL5]
     have s1:=hS.upO (zDQ S.order a S.f0)
     generalize hO1:up O c.ao (.lst ((zDQ S.order a S.f0).map D.int))=O1 at s1⊢
     subst hN
     refine zAz fun N hN=>?_;dsimp! only[zAB,s1.xM,s1.mus,zJr]
     refine⟨(by
           rw[zHy];have e:sizeLine=16777216:=by decide
           have:=yBl hO
           show S.music.length<_
           omega),?_⟩
     have s2:=s1.upM (ptI S.music S.f0 m)
     generalize hO2:up O1 c.am (.dK (dk zDM (ptI S.music S.f0 m)))=O2 at s2⊢
     subst hN
     refine zAz fun N hN=>?_;dsimp! only[zAB,zAQ,s2.xF,frD]
     rw[s2.setF]
     have s3:=s2.upF (S.f0+1) S.f1
     subst hN
     dsimp! only[]
     have k:Post tb c (.ok {S with order:=zDQ S.order a S.f0,music:=ptI S.music S.f0 m,f0:=S.f0+1} (.int S.f0)) O R Z:=by have k:=k;simp only[h12,qX] at k;exact k
     refine Fin.here (k _ c.as (.inl rfl) ?_ s3)
     refine Fr.trans ?_ (Fr.put (by simp))
     rw[←hO2]
     refine Fr.trans ?_ (Fr.put (by simp))
     rw[←hO1]
     exact Fr.put (by simp)
   ·rw[hf] at k
    intro d O' hd hs ho
    exact⟨O',fun _ _ e=>e,k d O' hd hs ho⟩
  ·simp only[h1,qH]
   rw[qe (by rw[qm h2];rfl)]
   exact no (by rw[qm h2,jZ])
 ·have e1:decide (0≤a)=false:=qm h1
  simp only[e1,qZ,jk]
  exact no (by rw[e1];rfl)
theorem zJG(n:Int):∀ns:List Int,n∈ns→ns.eraseIdx (ns.idxOf n)=ns.erase n
 |[],h=>by cases h
 |m::r,h=>by
  rw[jJ,List.erase_cons]
  by_cases e:m=n
  ·subst e;simp
  ·have eb:(m==n)=false:=by simpa using e
   rw[eb]
   show m::r.eraseIdx (r.idxOf n)=m::r.erase n
   rw[zJG n r ((qj.mp h).resolve_left (fun z=>e z.symm))]
theorem zOw(n:Int):∀ns:List Int,n∈ns→ns[ns.idxOf n]?=some n∧∀j m,j<ns.idxOf n→ns[j]?=some m→m≠n
 |[],h=>by cases h
 |m::r,h=>by
  rw[jJ]
  by_cases e:m=n
  ·subst e;simp
  ·have eb:(m==n)=false:=by simpa using e
   rw[eb]
   obtain⟨h1,h2⟩:=zOw n r ((qj.mp h).resolve_left (fun z=>e z.symm))
   refine⟨by simpa using h1,fun j k hj hk=>?_⟩
   cases j with
   |zero=>simp at hk;rw[←hk];exact e
   |succ j=>exact h2 j k (Nat.lt_of_succ_lt_succ hj) (by simpa using hk)
theorem zLn(O:Om):∀ns:List Int,Vws O (ns.map D.int) (ns.map PyData.int)
 |[]=>.nil
 |n::r=>.cons (.int n) (zLn O r)
theorem zSX:∀ns:List Int,SeqAt.shaped (.list (ns.map PyData.int))=true:=by
 intro ns
 have h1:∀l:List Int,PyData.canLayAll0 (l.map PyData.int)=true:=by
  intro l
  induction l with
  |nil=>simp only[qN,PyData.canLayAll0]
  |cons x r ih=>simp only[qr,PyData.canLayAll0,PyData.canLay0,ih,Bool.and_self]
 have h2:∀l:List Int,PyData.depthAll (l.map PyData.int)=0:=by
  intro l
  induction l with
  |nil=>simp only[qN,PyData.depthAll]
  |cons x r ih=>simp only[qr,PyData.depthAll,PyData.depth,ih];rfl
 unfold SeqAt.shaped
 simp only[PyData.canLay0,PyData.depth,h1,h2]
 decide
theorem zMd(a b:Int):PyData.eqv (.int a) (.int b)=decide (a=b):=by simp only[PyData.eqv];rfl
theorem zEH(f:Int→D):∀(l:List Int) (i:Nat),(l.map f).eraseIdx i=(l.eraseIdx i).map f
 |[],_=>rfl
 |_::_,0=>rfl
 |x::r,i+1=>by
  show f x::(r.map f).eraseIdx i=f x::(r.eraseIdx i).map f
  rw[zEH f r i]
theorem zHr{ns:List Int}{n:Int}{O:Om}{p:Addr}{R:D→Om→Prop}(h:O p=some (.lst (ns.map D.int)))(hn:n∈ns)(k:R .non (up O p (.lst ((ns.erase n).map D.int)))):zIE (.ref p) [.int n] O R:=by
 obtain⟨h1,h2⟩:=zOw n ns hn
 refine⟨ns.map D.int,.int n,ns.map PyData.int,ns.idxOf n,.int n,h,.ref h (zLn O ns),.int n,zSX ns,rfl,by rw[qF,h1];rfl,?_,fun m z hm hz=>?_,?_⟩
 ·rw[zMd];simp
 ·rw[qF] at hz
  cases e:ns[m]? with
  |none=>rw[e] at hz;cases hz
  |some x=>
   rw[e] at hz
   cases hz
   have:=h2 m x hm e
   rw[zMd];simpa using this
 ·rw[zEH,zJG n ns hn]
  exact k
theorem zKA:sizeLine=16777216:=by decide
theorem zE0{tb:Tb}{c:Cel}{O O1:Om}{S1:PSt}{R:D→Om→Prop}{Z:XD}(k:Post tb c (.ok (zDm S1) .non) O R Z)(sb:∀q,O1 q=none→O q=none)(f1:Fr [c.p,c.ao,c.am,c.as,c.ab] O O1):∀O' q,O1 q=none→Fr [c.p] O1 O'→SdAt tb O' {c with as:=q} (zDm S1)→R .non O':=
 fun O' q hq hf hs=>k O' q (.inr (sb q hq)) (f1.trans (fun a o e n=>hf a o e (fun z=>n (by rw[qh] at z;rw[z];simp)))) hs
theorem noneFr{l:List Addr}{O O':Om}(f:Fr l O O')(hl:∀a∈l,O' a≠none){q:Addr}(h:O' q=none):O q=none:=by
 cases e:O q with
 |none=>rfl
 |some o=>
  by_cases hq:q∈l
  ·exact absurd h (hl q hq)
  ·rw[f q o e hq] at h;cases h
theorem SdAt.noneFr{tb:Tb}{O O':Om}{c:Cel}{S:PSt}(h:SdAt tb O' c S)(f:Fr [c.p,c.ao,c.am,c.as,c.ab] O O'){q:Addr}(hq:O' q=none):O q=none:=
 Lw.noneFr f (fun a ha=>by
  simp only[qj,qt,qW] at ha
  rcases ha with rfl|rfl|rfl|rfl|rfl
  ·rw[h.ob];exact fun z=>nomatch z
  ·rw[h.ord];exact fun z=>nomatch z
  ·rw[h.mus];exact fun z=>nomatch z
  ·rw[h.spa];exact fun z=>nomatch z
  ·rw[h.bnd];exact fun z=>nomatch z) hq
def zRj(d:Deed):Prop:=∃n m,d=.change n m
def zPS(tb:Tb):DS:=
 (zAt (zEo (zAd 1) (gT 3 (zAp (gN 2) (zAp (gN 3) (zAp (gN 4) zBP)))))
 (zAt (zA1 (zAu tb.Stand "need_bar" (zEw tb) [.p 0,.p 1] [] (fun _=>(zAd 0)) (zAc (zAd 3) zAg) zAg))
 (zAt (zA1 (zBm (zI9 tb) [.p 0] [] (zAc (zAd 4) zAg) zAg))
 (zAt (zEN (zAB tb.Stand "music" (zAd 0)) (zAd 3) (zAd 4))
 (zCo (zAu tb.Stand "sweep" (zMF tb) [.p 0] [] (fun _=>(zAd 0)) zAg zAg X0))))))
def zDx:List Str:=["stand","deed","word","number","moments"]
def zGk(tb:Tb):DSp:=zJa tb zRj
theorem yAS(tb:Tb):∀xs O R Z,zGk tb xs O R Z→zPS tb (zAC R Z) (zAr zDx xs) O:=by
 rintro _ O R Z ⟨c,S,_,rfl,⟨n,m,rfl⟩,hd,hS,hO,k⟩
 show zPS tb (zAC R Z) [some (.ref c.p),some (zBt (.change n m)),none,none,none] O
 unfold zPS
 have k:Post tb c (zB7 S n m) O R Z:=k
 unfold zB7 inM at k
 refine zAz fun N hN=>?_;dsimp! only[zBt,dD]
 refine⟨True.intro,?_⟩
 subst hN
 refine zAz fun N hN=>?_;dsimp! only[zA1,zAu,hS.mNeed]
 refine⟨c,S,n,rfl,hS.w,fun h1=>?_,fun h1=>?_⟩
 ·rw[qe h1] at k
  subst hN
  refine zAz fun N hN=>?_;dsimp! only[zA1,zBm]
  refine⟨m,rfl,hd.2,fun hf=>?_,fun i hf=>?_⟩
  ·rw[hf] at k
   subst hN
   refine zAz fun N hN=>?_;dsimp! only[zAB,hS.xM,hS.mus,zJr]
   refine⟨by rw[zHy];have:=yBl hO;rw[zKA];omega,?_⟩
   have s1:=hS.upM (ptI S.music n m)
   generalize hO1:up O c.am (.dK (dk zDM (ptI S.music n m)))=O1 at s1⊢
   have f1:Fr [c.p,c.ao,c.am,c.as,c.ab] O O1:=by rw[←hO1];exact Fr.put (by simp)
   subst hN
   dsimp! only[zAu,s1.mSweep]
   refine⟨c,_,rfl,s1,fun x=>?_,hO.sn,qo hO.sl (by decide),fun O' q h1 h2 h3=>Fin.here (zE0 (Z:=Z) k (fun q hq=>s1.noneFr f1 hq) f1 O' q h1 h2 h3)⟩
   rw[zBO]
   by_cases e:x=n
   ·rw[qe e,e];exact⟨fun _=>(hO.mus n).mp h1,fun _=>rfl⟩
   ·rw[qb e];exact hO.mus x
  ·rw[hf] at k
   intro d O' hd hs ho
   exact⟨O',fun _ _ e=>e,k d O' hd hs ho⟩
 ·rw[qb (by rw[h1];decide)] at k
  intro d O' hd hs ho
  exact⟨O',fun _ _ e=>e,k d O' hd hs ho⟩
def yAo(d:Deed):Prop:=∃n,d=.cut n
def zPR(tb:Tb):DS:=
 (zAt (zBY 2 (dOp dIx (zAd 1) (dC (.int 1))))
 (zAt (zA1 (zAu tb.Stand "need_bar" (zEw tb) [.p 0,.p 1] [] (fun _=>(zAd 0)) (zAc (zAd 2) zAg) zAg))
 (zAt (zCo (dLM zIE (zAB tb.Stand "order" (zAd 0)) (zAc (zAd 2) zAg)))
 (zAt (zCo (zFO (zAB tb.Stand "music" (zAd 0)) (zAd 2)))
 (zAt (zCo (zO1 (zAB tb.Stand "bound" (zAd 0)) (zAd 2) (dC .non)))
 (zCo (zAu tb.Stand "sweep" (zMF tb) [.p 0] [] (fun _=>(zAd 0)) zAg zAg X0)))))))
def zGv:List Str:=["stand","deed","number"]
def zGj(tb:Tb):DSp:=zJa tb yAo
theorem yAR(tb:Tb):∀xs O R Z,zGj tb xs O R Z→zPR tb (zAC R Z) (zAr zGv xs) O:=by
 rintro _ O R Z ⟨c,S,_,rfl,⟨n,rfl⟩,hd,hS,hO,k⟩
 show zPR tb (zAC R Z) [some (.ref c.p),some (zBt (.cut n)),none] O
 unfold zPR
 have k:Post tb c (zGV S n) O R Z:=k
 unfold zGV inM at k
 refine zAz fun N hN=>?_;dsimp! only[zBt,dD]
 subst hN
 refine zAz fun N hN=>?_;dsimp! only[zA1,zAu,hS.mNeed]
 refine⟨c,S,n,rfl,hS.w,fun h1=>?_,fun h1=>?_⟩
 ·rw[qe h1] at k
  subst hN
  refine zAz fun N hN=>?_;dsimp! only[zAB,hS.xO,hS.ord]
  refine⟨True.intro,zHr hS.ord ((hO.mus n).mp h1) ?_⟩
  have s1:=hS.upO (S.order.erase n)
  generalize hO1:up O c.ao (.lst ((S.order.erase n).map D.int))=O1 at s1⊢
  have f1:Fr [c.p,c.ao,c.am,c.as,c.ab] O O1:=by rw[←hO1];exact Fr.put (by simp)
  subst hN
  obtain⟨m,hm⟩:=qM.mp h1
  refine zAz fun N hN=>?_;dsimp! only[zFO,zAB,s1.xM]
  refine⟨c.am,rfl,⟨_,s1.mus⟩,_,.inl n,zDM m,s1.mus,rfl,by rw[zCq,hm];rfl,?_⟩
  rw[zIA]
  have s2:=s1.upM (drI S.music n)
  generalize hO2:up O1 c.am (.dK (dk zDM (drI S.music n)))=O2 at s2⊢
  have f2:Fr [c.p,c.ao,c.am,c.as,c.ab] O O2:=f1.trans (by rw[←hO2];exact Fr.put (by simp))
  subst hN
  refine zAz fun N hN=>?_;dsimp! only[zO1,zAB,s2.xB]
  have fin:∀O3,SdAt tb O3 c {S with order:=S.order.erase n,music:=drI S.music n,bound:=drI S.bound n}→Fr [c.p,c.ao,c.am,c.as,c.ab] O O3→N [some (.ref c.p),some (zBt (.cut n)),some (.int n)] O3:=by
   intro O3 s3 f3
   subst hN
   dsimp! only[zAu,s3.mSweep]
   refine⟨c,_,rfl,s3,fun x=>?_,hO.sn,qo hO.sl (by decide),fun O' q h1 h2 h3=>Fin.here (zE0 (Z:=Z) k (fun q hq=>s3.noneFr f3 hq) f3 O' q h1 h2 h3)⟩
   show(lkI (drI S.music n) x).isSome=true↔x∈S.order.erase n
   rw[zCF,hO.nod.mem_erase_iff]
   by_cases e:x=n
   ·rw[qe e];exact⟨fun z=>(by cases z),fun z=>absurd e z.1⟩
   ·rw[qb e];exact⟨fun z=>⟨e,(hO.mus x).mp z⟩,fun z=>(hO.mus x).mpr z.2⟩
  refine⟨c.ab,rfl,⟨_,s2.bnd⟩,_,.inl n,s2.bnd,rfl,fun v hv=>?_,fun hv=>?_⟩
  ·rw[zIA]
   exact fin _ (s2.upB (drI S.bound n)) (f2.trans (Fr.put (by simp)))
  ·have e:drI S.bound n=S.bound:=by
    rw[zCq] at hv
    unfold drI
    rw[List.filter_eq_self]
    intro p hp
    simp only[ne_eq,decide_not,kF,kw]
    intro z
    have:=(zBs S.bound n).mpr (qy.mpr ⟨p,hp,z⟩)
    cases hb:lkI S.bound n with
    |none=>rw[hb] at this;cases this
    |some w=>rw[hb] at hv;cases hv
   refine fin _ ?_ f2
   rw[e]
   exact s2
 ·rw[qb (by rw[h1];decide)] at k
  intro d O' hd hs ho
  exact⟨O',fun _ _ e=>e,k d O' hd hs ho⟩
def zXj(d:Deed):Prop:=∃n a,d=.move n a
def zPQ(tb:Tb):DS:=
 (zAt (zEo (zAd 1) (gT 3 (zAp (gN 2) (zAp (gN 3) (zAp (gN 4) zBP)))))
 (zAt (zA1 (zAu tb.Stand "need_bar" (zEw tb) [.p 0,.p 1] [] (fun _=>(zAd 0)) (zAc (zAd 3) zAg) zAg))
 (zAt (zBK (zBZ (zAo (zA6 dLe dLt (dC (.int 0)) (zAd 4) (dCB zC4 (zAc (zAB tb.Stand "order" (zAd 0)) zAg))))) (zAK tb.BadPlace (PySem.Str.ofString "bad place")) zAH)
 (zAt (zCo (dLM zIE (zAB tb.Stand "order" (zAd 0)) (zAc (zAd 3) zAg)))
 (zAt (zCo (dLM zCv (zAB tb.Stand "order" (zAd 0)) (zAc (zAd 4) (zAc (zAd 3) zAg))))
 (zCo (zAu tb.Stand "sweep" (zMF tb) [.p 0] [] (fun _=>(zAd 0)) zAg zAg X0)))))))
def zE4:List Str:=["stand","deed","word","number","at"]
def zGi(tb:Tb):DSp:=zJa tb zXj
theorem zTN{l:List Int}{a n x:Int}:x∈zDQ l a n↔x=n∨x∈l:=by
 unfold zDQ
 rw[je,qD,qD,qh]
 have e:x∈l↔x∈l.take a.toNat∨x∈l.drop a.toNat:=by
  conv=>lhs;rw[←List.take_append_drop a.toNat l]
  rw[qD]
 rw[e]
 constructor
 ·rintro(h|h|h)
  ·exact .inr (.inl h)
  ·exact .inl h
  ·exact .inr (.inr h)
 ·rintro(h|h|h)
  ·exact .inr (.inl h)
  ·exact .inl h
  ·exact .inr (.inr h)
theorem yAQ(tb:Tb):∀xs O R Z,zGi tb xs O R Z→zPQ tb (zAC R Z) (zAr zE4 xs) O:=by
 rintro _ O R Z ⟨c,S,_,rfl,⟨n,a,rfl⟩,hd,hS,hO,k⟩
 show zPQ tb (zAC R Z) [some (.ref c.p),some (zBt (.move n a)),none,none,none] O
 unfold zPQ
 have k:Post tb c (zDU S n a) O R Z:=k
 unfold zDU inM at k
 refine zAz fun N hN=>?_;dsimp! only[zBt,dD]
 refine⟨True.intro,?_⟩
 subst hN
 refine zAz fun N hN=>?_;dsimp! only[zA1,zAu,hS.mNeed]
 refine⟨c,S,n,rfl,hS.w,fun h1=>?_,fun h1=>?_⟩
 ·rw[qe h1] at k
  subst hN
  refine zAz fun N hN=>?_;dsimp! only[zA6,zAB,hS.xO,hS.ord,qd]
  have no:(decide (0≤a)&&decide (a<(S.order.length:Nat)))=false→zAK tb.BadPlace (PySem.Str.ofString "bad place") {nx:=N,rt:=(zAC R Z).rt,bk:=(zAC R Z).bk,ct:=(zAC R Z).ct,xc:=(zAC R Z).xc} [some (.ref c.p),some (.tup [zHh "move",.int n,.int a]),some (zHh "move"),some (.int n),some (.int a)] O:=fun e=>by
   rw[qb (by rw[e];decide)] at k
   dsimp! only[zAK]
   intro d hd
   exact FinX.here (k.here hd)
  by_cases h2:0≤a
  ·simp only[h2,qH]
   by_cases h3:a<(S.order.length:Nat)
   ·rw[qe (by rw[qx h2,qx h3];rfl)] at k
    simp only[h3,qH,jf,qk,qX]
    subst hN
    refine zAz fun N hN=>?_;dsimp! only[zAB,hS.xO,hS.ord]
    refine⟨True.intro,zHr hS.ord ((hO.mus n).mp h1) ?_⟩
    have s1:=hS.upO (S.order.erase n)
    generalize hO1:up O c.ao (.lst ((S.order.erase n).map D.int))=O1 at s1⊢
    have f1:Fr [c.p,c.ao,c.am,c.as,c.ab] O O1:=by rw[←hO1];exact Fr.put (by simp)
    subst hN
    refine zAz fun N hN=>?_;dsimp! only[zAB,s1.xO,s1.ord,qd]
    have hle:(S.order.erase n).length≤S.order.length:=(List.erase_sublist).length_le
    refine⟨True.intro,⟨by have:=hO.ol;rw[zKA];omega,h2,by have:=hO.ol;omega⟩,?_⟩
    rw[zL5]
    have s2:=s1.upO (zDQ (S.order.erase n) a n)
    generalize hO2:up O1 c.ao (.lst ((zDQ (S.order.erase n) a n).map D.int))=O2 at s2⊢
    have f2:Fr [c.p,c.ao,c.am,c.as,c.ab] O O2:=f1.trans (by rw[←hO2];exact Fr.put (by simp))
    subst hN
    dsimp! only[zAu,s2.mSweep]
    refine⟨c,_,rfl,s2,fun x=>?_,hO.sn,qo hO.sl (by decide),fun O' q h1 h2 h3=>Fin.here (zE0 (Z:=Z) k (fun q hq=>s2.noneFr f2 hq) f2 O' q h1 h2 h3)⟩
    show(lkI S.music x).isSome=true↔x∈zDQ (S.order.erase n) a n
    rw[zTN,hO.nod.mem_erase_iff,hO.mus x]
    constructor
    ·intro z
     by_cases e:x=n
     ·exact .inl e
     ·exact .inr ⟨e,z⟩
    ·rintro(e|z)
     ·rw[e];exact(hO.mus n).mp h1
     ·exact z.2
   ·rw[qe (by rw[qm h3];rfl)]
    exact no (by rw[qm h3,jZ])
  ·have e1:decide (0≤a)=false:=qm h2
   simp only[e1,qZ,jk]
   exact no (by rw[e1];rfl)
 ·rw[qb (by rw[h1];decide)] at k
  intro d O' hd hs ho
  exact⟨O',fun _ _ e=>e,k d O' hd hs ho⟩
def zXi(d:Deed):Prop:=∃n,d=.wipe n
def zPP(tb:Tb):DS:=
 (zAt (zBY 2 (dOp dIx (zAd 1) (dC (.int 1))))
 (zAt (zBK (zAo (dOp (zEm fun b=>!b) (zAd 2) (zAB tb.Stand "spans" (zAd 0)))) (zB4 tb.NoMark (PySem.Str.ofString "no mark") (zAd 2)) zAH)
 (zCo (zFO (zAB tb.Stand "spans" (zAd 0)) (zAd 2)))))
def zE3:List Str:=["stand","deed","number"]
def zGh(tb:Tb):DSp:=zJa tb zXi
theorem yAP(tb:Tb):∀xs O R Z,zGh tb xs O R Z→zPP tb (zAC R Z) (zAr zE3 xs) O:=by
 rintro _ O R Z ⟨c,S,_,rfl,⟨n,rfl⟩,hd,hS,hO,k⟩
 show zPP tb (zAC R Z) [some (.ref c.p),some (zBt (.wipe n)),none] O
 unfold zPP
 have k:Post tb c (zDT S n) O R Z:=k
 unfold zDT at k
 refine zAz fun N hN=>?_;dsimp! only[zBt,dD]
 subst hN
 refine zAz fun N hN=>?_;dsimp! only[zAB,hS.xP,hS.spa,zCq,jW]
 cases h1:(lkI S.spans n).isSome with
 |true=>
  rw[qe h1] at k
  simp only[jf,qk,qX]
  subst hN
  obtain⟨s,hs⟩:=qM.mp h1
  dsimp! only[zFO,zAB,hS.xP]
  refine⟨c.as,rfl,⟨_,hS.spa⟩,_,.inl n,zEu s,hS.spa,rfl,by rw[zCq,hs];rfl,?_⟩
  rw[zIA]
  exact Fin.here (k _ c.as (.inl rfl) (Fr.put (by simp)) (hS.upP _))
 |false=>
  rw[qb (by rw[h1];decide)] at k
  dsimp! only[zB4]
  intro d hd
  exact FinX.here (k.here hd)
def zTY(d:Deed):Prop:=∃s,d=.paper s
def zPO(tb:Tb):DS:=
 (zAt (zEo (zAd 1) (gT 6 (zAp (gN 2) (zAp (gN 3) (zAp (gN 4) (zAp (gN 5) (zAp (gN 6) (zAp (gN 7) zBP))))))))
 (zAQ tb.Stand "sheet" (zAd 0) (zBm (zI8 tb) [.k 0,.k 1,.k 2,.k 3,.k 4] [] zAg (zAc (zAd 3) (zAc (zAd 4) (zAc (zAd 5) (zAc (zAd 6) (zAc (zAd 7) zAg))))))))
def zEb:List Str:=["stand","deed","word","width","lines","fee","turn","gap"]
def zGg(tb:Tb):DSp:=zJa tb zTY
theorem yAO(tb:Tb):∀xs O R Z,zGg tb xs O R Z→zPO tb (zAC R Z) (zAr zEb xs) O:=by
 rintro _ O R Z ⟨c,S,_,rfl,⟨s,rfl⟩,hd,hS,hO,k⟩
 show zPO tb (zAC R Z) [some (.ref c.p),some (zBt (.paper s)),none,none,none,none,none,none] O
 unfold zPO
 have k:Post tb c (zCN S s) O R Z:=k
 unfold zCN at k
 refine zAz fun N hN=>?_;dsimp! only[zBt,dD]
 refine⟨True.intro,?_⟩
 subst hN
 dsimp! only[zAQ,zBm]
 refine⟨s,rfl,fun h1=>?_,fun h1=>?_⟩
 ·rw[qe h1] at k
  rw[hS.setF]
  exact Fin.here (k _ c.as (.inl rfl) (Fr.put (by simp)) (hS.upS s))
 ·rw[qb (by rw[h1];decide)] at k
  intro d O' hd hs ho
  exact⟨O',fun _ _ e=>e,k d O' hd hs ho⟩
theorem yAq(w:Str):inD (.str w) [.str (PySem.Str.ofString "must"),.str (PySem.Str.ofString "never")]=(decide (w=zGx)||decide (w=zCD)):=by
 show(decide (zGx=w)||(decide (zCD=w)||false))=_
 rw[Bool.or_false]
 have e1:decide (zGx=w)=decide (w=zGx):=jw.mpr ⟨Eq.symm,Eq.symm⟩
 have e2:decide (zCD=w)=decide (w=zCD):=jw.mpr ⟨Eq.symm,Eq.symm⟩
 rw[e1,e2]
theorem yAx{A:Type}(l:List (Int×A))(n:Int)(v:A):drI (ptI l n v) n=drI l n:=by
 unfold drI ptI
 split
 ·rw[List.filter_map]
  have e:(l.filter ((fun p:Int×A=>decide (p.1≠n))∘fun p=>if p.1=n then(p.1,v) else p))=l.filter fun p=>decide (p.1≠n):=by
   apply List.filter_congr
   intro p _
   show decide ((if p.1=n then(p.1,v) else p).1≠n)=decide (p.1≠n)
   split<;>rfl
  rw[e]
  conv=>rhs;rw[←List.map_id (l.filter fun p=>decide (p.1≠n))]
  apply jO
  intro p hp
  have:=(jI.mp hp).2
  simp only[ne_eq,decide_not,kF,kw] at this
  show(if p.1=n then(p.1,v) else p)=p
  rw[qb this]
 ·rw[jU]
  simp
theorem yCf{S:PSt}(h:S.Ok):S.bound.length≤12:=by
 have e:(S.bound.map (·.1)).length≤S.order.length:=by
  apply List.Nodup.length_le_of_subset h.bn
  intro n hn
  obtain⟨w,hw⟩:=qM.mp ((zBs _ _).mpr hn)
  exact(h.bo n w hw).1
 rw[qd] at e
 exact qo e h.ol
def yAn(d:Deed):Prop:=∃n w,d=.bound n w
def zPN(tb:Tb):DS:=
 (zAt (zEo (zAd 1) (gT 3 (zAp (gN 2) (zAp (gN 3) (zAp (gN 4) zBP)))))
 (zAt (zA1 (zAu tb.Stand "need_bar" (zEw tb) [.p 0,.p 1] [] (fun _=>(zAd 0)) (zAc (zAd 3) zAg) zAg))
 (zAt (zBK (zDS (zAo (dOp dNe (zAd 4) (dC (.str (PySem.Str.ofString "free"))))) (zAo (dOp (zIY fun b=>!b) (zAd 4) (dC (.tup [(.str (PySem.Str.ofString "must")),(.str (PySem.Str.ofString "never"))]))))) (zAK tb.BadWord (PySem.Str.ofString "bad word")) zAH)
 (zAt (zBK (zAo (dOp dEq (zFa (zAB tb.Stand "bound" (zAd 0)) (zAd 3) (dC (.str (PySem.Str.ofString "free")))) (zAd 4))) (zAK tb.Same (PySem.Str.ofString "same")) zAH)
 (zAt (zEN (zAB tb.Stand "bound" (zAd 0)) (zAd 3) (zAd 4))
 (zBK (zAo (dOp dEq (zAd 4) (dC (.str (PySem.Str.ofString "free"))))) (zCo (zFO (zAB tb.Stand "bound" (zAd 0)) (zAd 3))) zAH))))))
def zGu:List Str:=["stand","deed","word","number","says"]
def zGf(tb:Tb):DSp:=zJa tb yAn
theorem yAN(tb:Tb):∀xs O R Z,zGf tb xs O R Z→zPN tb (zAC R Z) (zAr zGu xs) O:=by
 rintro _ O R Z ⟨c,S,_,rfl,⟨n,w,rfl⟩,hd,hS,hO,k⟩
 show zPN tb (zAC R Z) [some (.ref c.p),some (zBt (.bound n w)),none,none,none] O
 unfold zPN
 have k:Post tb c (zCO S n w) O R Z:=k
 unfold zCO inM at k
 refine zAz fun N hN=>?_;dsimp! only[zBt,dD]
 refine⟨True.intro,?_⟩
 subst hN
 refine zAz fun N hN=>?_;dsimp! only[zA1,zAu,hS.mNeed]
 refine⟨c,S,n,rfl,hS.w,fun h1=>?_,fun h1=>?_⟩
 ·rw[qe h1] at k
  subst hN
  have nx:zI0 w=true→(zAt (zBK (zAo (dOp dEq (zFa (zAB tb.Stand "bound" (zAd 0)) (zAd 3) (dC (.str (PySem.Str.ofString "free")))) (zAd 4))) (zAK tb.Same (PySem.Str.ofString "same")) zAH)
   (zAt (zEN (zAB tb.Stand "bound" (zAd 0)) (zAd 3) (zAd 4))
   (zBK (zAo (dOp dEq (zAd 4) (dC (.str (PySem.Str.ofString "free"))))) (zCo (zFO (zAB tb.Stand "bound" (zAd 0)) (zAd 3))) zAH))) (zAC R Z) [some (.ref c.p),some (.tup [zHh "end",.int n,.str w]),some (zHh "end"),some (.int n),some (.str w)] O:=by
   intro hw
   rw[qe hw] at k
   refine zAz fun N hN=>?_;dsimp! only[zAB,hS.xB,hS.bnd,zCq]
   refine⟨True.intro,?_⟩
   have ew:∀R':D→Prop,R' ((Option.map D.str (lkI S.bound n)).getD (.str (PySem.Str.ofString "free")))=R' (.str (zEr S n)):=by
    intro R'
    unfold zEr
    cases lkI S.bound n<;>rfl
   rw[ew (fun v=>dEq v (.str w) O _)]
   dsimp! only[]
   by_cases h2:zEr S n=w
   ·rw[qe h2] at k
    simp only[h2,qH,jk]
    dsimp! only[zAK]
    intro d hd
    exact FinX.here (k.here hd)
   ·rw[qb h2] at k
    simp only[h2,qO,qk,qX]
    subst hN
    refine zAz fun N hN=>?_;dsimp! only[zAB,hS.xB,hS.bnd,zJr]
    refine⟨by rw[zHy];have:=yCf hO;rw[zKA];omega,?_⟩
    have s1:=hS.upB (ptI S.bound n w)
    generalize hO1:up O c.ab (.dK (dk D.str (ptI S.bound n w)))=O1 at s1⊢
    have f1:Fr [c.p,c.ao,c.am,c.as,c.ab] O O1:=by rw[←hO1];exact Fr.put (by simp)
    subst hN
    dsimp! only[]
    by_cases h3:w=PySem.Str.ofString "free"
    ·simp only[h3,qH,jk]
     dsimp! only[zFO,zAB,s1.xB]
     refine⟨c.ab,rfl,⟨_,s1.bnd⟩,_,.inl n,.str w,s1.bnd,rfl,by rw[zCq,zBO,qe rfl];rfl,?_⟩
     rw[zIA]
     have s2:=s1.upB (drI (ptI S.bound n w) n)
     refine Fin.here (k _ c.as (.inl rfl) (f1.trans (Fr.put (by simp))) ?_)
     rw[qe (show w=zEk from h3),←yAx S.bound n w]
     exact s2
    ·simp only[h3,qO,qk,qX]
     refine Fin.here (k _ c.as (.inl rfl) f1 ?_)
     rw[qb (show ¬w=zEk from h3)]
     exact s1
  have bad:zI0 w=false→Told1 zPs tb O Z:=fun hw=>by rw[qb (by rw[hw];decide)] at k;exact k
  refine zAz fun N hN=>?_
  rw[←hN] at nx
  dsimp! only[yAq]
  unfold zI0 at nx bad
  by_cases h2:w=PySem.Str.ofString "free"
  ·have e2:w=zEk:=h2
   simp only[h2,qH,jf,qk,qX]
   rw[h2] at nx
   exact nx rfl
  ·have e2:decide (w=zEk)=false:=qm h2
   rw[e2,Bool.false_or] at nx bad
   simp only[h2,qO,qZ,jk]
   refine⟨rfl,rfl,?_⟩
   generalize (decide (w=zGx)||decide (w=zCD))=b at nx bad⊢
   cases b with
   |true=>exact nx rfl
   |false=>
    dsimp! only[zAK]
    intro d hd
    exact FinX.here ((bad rfl).here hd)
 ·rw[qb (by rw[h1];decide)] at k
  intro d O' hd hs ho
  exact⟨O',fun _ _ e=>e,k d O' hd hs ho⟩
def zXk(d:Deed):Prop:=∃s,d=.mark s
theorem zYc(x:D)(r:List D)(h:r.length≤8):DL.cutD (x::r) (some 1) none=r:=by
 rw[zIG (by simp)]
 rfl
theorem zXd{u:DG}{tb:DS}{ok:Om→Prop}{F:DEnds}{x:D}{xs:List D}{g:Gm}{O:Om}(h:∀N,N=zEP u tb ok F xs→ok O∧u x g O fun g1 O1=>tb {F with nx:=N,ct:=N,bk:=F.nx} g1 O1):zEP u tb ok F (x::xs) g O:=h _ rfl
theorem zHx{S:PSt}{t:Int×Int}{m:List Mom}(h:lkI S.music t.1=some m):zG2 S t=(decide (0≤t.2)&&decide (t.2<(m.length:Nat))):=by
 unfold zG2
 rw[h];rfl
def zPM(tb:Tb):DS:=
 (zAt (zEo (zAd 1) (gT 5 (zAp (gN 2) (zAp (gN 3) (zAp (gN 4) (zAp (gN 5) (zAp (gN 6) zBP)))))))
 (zAt (zBK (zBZ (zAo (zA6 dLe dLe (dC (.int 0)) (zAd 3) (dC (.int 3))))) (zAK tb.BadStaff (PySem.Str.ofString "bad staff")) zAH)
 (zAt (zMp (zC3 (zD2 (zAc (zAd 4) (zAc (zAd 5) zAg)))) (gT 2 (zAp (gN 7) (zAp (gN 8) zBP))) (zA1 (zAu tb.Stand "need_bar" (zEw tb) [.p 0,.p 1] [] (fun _=>(zAd 0)) (zAc (zAd 7) zAg) zAg)))
 (zAt (zMp (zC3 (zD2 (zAc (zAd 4) (zAc (zAd 5) zAg)))) (gT 2 (zAp (gN 7) (zAp (gN 8) zBP))) (zBK (zBZ (zAo (zA6 dLe dLt (dC (.int 0)) (zAd 8) (dCB zC4 (zAc (dOp zDj (zAB tb.Stand "music" (zAd 0)) (zAd 7)) zAg))))) (zB4 tb.NoMoment (PySem.Str.ofString "no moment") (zAd 8)) zAH))
 (zAt (zBK (zAo (dOp zOW (zAu tb.Stand "spot" (zHU tb) [.p 0,.p 1] [] (fun _=>(zAd 0)) (zAc (zAd 5) zAg) zAg X0) (zAu tb.Stand "spot" (zHU tb) [.p 0,.p 1] [] (fun _=>(zAd 0)) (zAc (zAd 4) zAg) zAg X0))) (zAK tb.BadSpan (PySem.Str.ofString "bad span")) zAH)
 (zAt (zBK (zBZ (zAo (zA6 dLe dLe (dC (.int 1)) (zAd 6) (dC (.int 9))))) (zAK tb.BadThick (PySem.Str.ofString "bad thick")) zAH)
 (zAt (zBK (zAo (dOp dGe (dCB zC4 (zAc (zAB tb.Stand "spans" (zAd 0)) zAg)) (dC (.int 20)))) (zAK tb.Full (PySem.Str.ofString "full")) zAH)
 (zAt (zBY 7 (dOp dIx (zAB tb.Stand "fresh" (zAd 0)) (dC (.int 1))))
 (zAt (zEN (zAB tb.Stand "spans" (zAd 0)) (zAd 7) (zEX (zAd 1) (zCu (dC (.int 1))) zAW))
 (zAt (zAQ tb.Stand "fresh" (zAd 0) (fun _=>(zD2 (zAc (dOp dIx (zAB tb.Stand "fresh" (zAd 0)) (dC (.int 0))) (zAc (dOp zDL (zAd 7) (dC (.int 1))) zAg)))))
 (zBd (zAd 7))))))))))))
def zE5:List Str:=["stand","deed","word","staff","begin","end","thick","number","moment"]
def zGe(tb:Tb):DSp:=zJa tb zXk
theorem yAM(tb:Tb):∀xs O R Z,zGe tb xs O R Z→zPM tb (zAC R Z) (zAr zE5 xs) O:=by
 rintro _ O R Z ⟨c,S,_,rfl,⟨s,rfl⟩,hd,hS,hO,k⟩
 show zPM tb (zAC R Z) [some (.ref c.p),some (zBt (.mark s)),none,none,none,none,none,none,none] O
 unfold zPM
 have k:Post tb c (zDV S s) O R Z:=k
 unfold zDV inM at k
 refine zAz fun N hN=>?_;dsimp! only[zBt,dD]
 refine⟨True.intro,?_⟩
 subst hN
 simp only[zER]
 refine zAz fun N hN=>?_;dsimp! only[zSF]
 generalize (decide (0≤s.on)&&decide (s.on≤3))=b1 at k⊢
 cases b1 with
 |false=>
  dsimp! only[zAK]
  intro d hd
  exact FinX.here (k.here hd)
 |true=>
  rw[qe rfl] at k
  dsimp! only[]
  subst hN
  refine zAz fun N hN=>?_;simpa! only[zEP,zKt,zA1,zAu,hS.mNeed]
  refine⟨True.intro,True.intro,c,S,s.b.1,rfl,hS.w,fun h1=>?_,fun h1=>?_⟩
  ·rw[qe h1] at k
   simpa! only[hS.mNeed]
   refine⟨True.intro,True.intro,c,S,s.e.1,rfl,hS.w,fun h2=>?_,fun h2=>?_⟩
   ·rw[qe h2] at k
    refine⟨True.intro,?_⟩
    subst hN
    obtain⟨m1,hm1⟩:=qM.mp h1
    obtain⟨m2,hm2⟩:=qM.mp h2
    refine zAz fun N hN=>?_;simpa! only[zKt]
    refine zXd fun M hM=>⟨True.intro,?_⟩
    dsimp! only[zA6,zAB,hS.xM,hS.mus,zCq,hm1,kU,zDM,qd]
    refine⟨True.intro,?_⟩
    have turn:∀(t:Int×Int) (m:List Mom) (g:Gm) (F:DEnds) (X:Prop),lkI S.music t.1=some m→g[8]?=some (some (.int t.2))→(zG2 S t=true→X)→(zG2 S t=false→zB4 tb.NoMoment (PySem.Str.ofString "no moment") (zAd 8) F g O)→
      (match D.bl (decide (0≤t.2)) with
       |.bl true=>if(!decide (t.2<(m.length:Nat)))=true then zB4 tb.NoMoment (PySem.Str.ofString "no moment") (zAd 8) F g O else X
       |.bl false=>zB4 tb.NoMoment (PySem.Str.ofString "no moment") (zAd 8) F g O
       |_=>False):=by
     intro t m g F X hm g8 y n
     rw[zHx hm] at y n
     by_cases h3:0≤t.2
     ·simp only[h3,qH,kO] at y n⊢
      by_cases h4:t.2<(m.length:Nat)
      ·rw[qb (by simp[h4])];exact y (qx h4)
      ·rw[qe (by simp[h4])];exact n (qm h4)
     ·simp only[h3,qO,jG] at n⊢
      exact n trivial
    refine turn s.b m1 _ _ _ hm1 rfl (fun b3=>?_) (fun b3=>?_)
    ·rw[qe b3] at k
     subst hM
     refine zXd fun M hM=>⟨True.intro,?_⟩
     dsimp! only[zA6,zAB,hS.xM,hS.mus,zCq,hm2,kU,zDM,qd]
     refine⟨True.intro,?_⟩
     refine turn s.e m2 _ _ _ hm2 rfl (fun b4=>?_) (fun b4=>?_)
     ·rw[qe b4] at k
      subst hM
      refine⟨True.intro,?_⟩
      subst hN
      dsimp only
      refine zAz fun N hN=>?_;dsimp! only[zAu,hS.mSpot]
      refine⟨c,S,s.e,rfl,hS.w,(hO.mus _).mp h2,?_⟩
      refine(hS.mSpot (P:=fun a=>zHU tb [D.ref a,zKt s.b] O _ X0)).mpr ⟨c,S,s.b,rfl,hS.w,(hO.mus _).mp h1,?_⟩
      dsimp! only[yA9,zXl]
      have el:HT.lexLt [zE1 S s.e,s.e.2] [zE1 S s.b,s.b.2]=zKW S s.e s.b:=rfl
      rw[el]
      generalize zKW S s.e s.b=b5 at k⊢
      cases b5 with
      |true=>
       dsimp! only[zAK]
       intro d hd
       exact FinX.here (k.here hd)
      |false=>
       rw[qb (by decide)] at k
       dsimp! only[]
       subst hN
       refine zAz fun N hN=>?_;dsimp! only[zSF]
       generalize (decide (1≤s.th)&&decide (s.th≤9))=b6 at k⊢
       cases b6 with
       |false=>
        dsimp! only[zAK]
        intro d hd
        exact FinX.here (k.here hd)
       |true=>
        rw[qe rfl] at k
        dsimp! only[]
        subst hN
        refine zAz fun N hN=>?_;dsimp! only[zAB,hS.xP,hS.spa,zHy]
        by_cases h7:20≤S.spans.length
        ·rw[qe h7] at k
         rw[qe (by simp;omega)]
         dsimp! only[zAK]
         intro d hd
         exact FinX.here (k.here hd)
        ·rw[qb h7] at k
         rw[qb (by simp;omega)]
         subst hN
         refine zAz fun N hN=>?_;dsimp! only[zAB,hS.xF,frD]
         subst hN
         refine zAz fun N hN=>?_;dsimp! only[zAB,hS.xP,hS.spa,zYc]
         have ec:(D.tup (DL.cutD [zHh "mark",.int s.on,.tup [.int s.b.1,.int s.b.2],.tup [.int s.e.1,.int s.e.2],.int s.th] (some 1) none))=zEu s:=by rw[zYc _ _ (by simp)];rfl
         rw[ec,zJr,zHy]
         refine⟨by rw[zKA];omega,?_⟩
         have s1:=hS.upP (ptI S.spans S.f1 s)
         generalize hO1:up O c.as (.dK (dk zEu (ptI S.spans S.f1 s)))=O1 at s1⊢
         subst hN
         refine zAz fun N hN=>?_;dsimp! only[zAB,zAQ,s1.xF,frD]
         rw[s1.setF]
         have s2:=s1.upF S.f0 (S.f1+1)
         subst hN
         dsimp! only[]
         refine Fin.here (k _ c.as (.inl rfl) ?_ s2)
         refine Fr.trans ?_ (Fr.put (by simp))
         rw[←hO1]
         exact Fr.put (by simp)
     ·rw[qb (by rw[b4];decide)] at k
      dsimp! only[zB4]
      intro d hd
      exact FinX.here (k.here hd)
    ·rw[qb (by rw[b3];decide)] at k
     dsimp! only[zB4]
     intro d hd
     exact FinX.here (k.here hd)
   ·rw[qb (by rw[h2];decide)] at k
    intro d O' hd hs ho
    exact⟨O',fun _ _ e=>e,k d O' hd hs ho⟩
  ·rw[qb (by rw[h1];decide)] at k
   intro d O' hd hs ho
   exact⟨O',fun _ _ e=>e,k d O' hd hs ho⟩
inductive Ask where
 |one (d:Deed)
 |odd (ys:List D)
def zHO:Ask→D
 |.one d=>zBt d
 |.odd ys=>.tup ys
def AOk:Ask→Prop
 |.one d=>DOk d
 |.odd ys=>(∀y r,ys=y::r→∃k,y=.str k∧(zFh y).isSome=true)∧(zJF ys=false∨ys=[zHh "many",.tup []])
def zNx(S:PSt):Ask→Res
 |.one d=>step S d
 |.odd _=>.er zFc
def Ask.good:Ask→Bool
 |.one _=>true
 |.odd _=>false
theorem zUu(d:Deed):∃(w:Str) (r:List D),dD d=.str w::r∧w≠PySem.Str.ofString "many"∧zJF (.str w::r)=true∧(zFh (.str w)).isSome=true:=by
 cases d<;>exact⟨_,_,rfl,by decide,by rfl,by rfl⟩
def zPG(tb:Tb):DS:=
 (zAt (zA1 (zBm (zI7 tb) [.p 0] [] (zAc (zAd 0) zAg) zAg))
 (zAt (zBY 1 (dIf (zAo (dOp dEq (dOp dIx (zAd 0) (dC (.int 0))) (dC (.str (PySem.Str.ofString "many"))))) (dOp dIx (zAd 0) (dC (.int 1))) (zD2 zAg)))
 (zAt (zBK (zDS (zAo (dOp dEq (dOp dIx (zAd 0) (dC (.int 0))) (dC (.str (PySem.Str.ofString "many"))))) (zAo (dOp dEq (dCB zC4 (zAc (zAd 1) zAg)) (dC (.int 0))))) (zAK tb.BadDeed (PySem.Str.ofString "bad deed")) zAH)
 (zMp (zC3 (zAd 1)) (gN 2) (zAt (zA1 (zBm (zI7 tb) [.p 0] [] (zAc (zAd 2) zAg) zAg))
 (zBK (zAo (dOp dEq (dOp dIx (zAd 2) (dC (.int 0))) (dC (.str (PySem.Str.ofString "many"))))) (zAK tb.BadDeed (PySem.Str.ofString "bad deed")) zAH))))))
def zEd:List Str:=["deed","within","one"]
def zI6(tb:Tb):DSp:=fun xs O R Z=>∃a:Ask,xs=[zHO a]∧AOk a∧(a.good=true→R .non O)∧(a.good=false→Told1 zFc tb O Z)
theorem yAG(tb:Tb):∀xs O R Z,zI6 tb xs O R Z→zPG tb (zAC R Z) (zAr zEd xs) O:=by
 rintro _ O R Z ⟨a,rfl,ha,k1,k2⟩
 show zPG tb (zAC R Z) [some (zHO a),none,none] O
 unfold zPG
 cases a with
 |one d=>
  obtain⟨w,r,e,hw,hf,hs⟩:=zUu d
  show zAt _ _ _ [some (zBt d),none,none] O
  unfold zBt
  rw[e]
  refine zAz fun N hN=>?_;dsimp! only[zA1,zBm]
  refine⟨_,rfl,fun y r' z=>by cases z;exact hs,fun _=>?_,fun z=>by rw[hf] at z;cases z⟩
  subst hN
  refine zAz fun N hN=>?_;dsimp! only[]
  simp only[hw,qO,qk,qX]
  subst hN
  refine zAz fun N hN=>?_;dsimp! only[]
  simp only[hw,qO,qk,qX]
  subst hN
  simpa! only[zEP]
  exact⟨True.intro,Fin.here (k1 rfl)⟩
 |odd ys=>
  refine zAz fun N hN=>?_;dsimp! only[zA1,zBm,zHO]
  refine⟨ys,rfl,fun y r z=>?_,fun hf=>?_,fun hf=>?_⟩
  ·obtain⟨k,rfl,h⟩:=ha.1 y r z
   exact h
  ·rcases ha.2 with h|h
   ·rw[hf] at h;cases h
   ·subst h
    subst hN
    refine zAz fun N hN=>?_;dsimp! only[zHh]
    simp only[qH,jk]
    subst hN
    refine zAz fun N hN=>?_;dsimp! only[zHh,zAK]
    intro d hd
    exact FinX.here ((k2 rfl).here hd)
  ·intro d O' hd hs ho
   exact⟨O',fun _ _ e=>e,k2 rfl d O' hd hs ho⟩
theorem Post.fin{tb:Tb}{c:Cel}{r:Res}{O:Om}{R:D→Om→Prop}{Z:XD}(h:Post tb c r O R Z):Post tb c r O (Fin R) (FinX Z):=by
 cases r with
 |ok S' v=>exact fun O' q hq fr s=>Fin.here (h O' q hq fr s)
 |er b=>exact fun d O' hd hs ho=>FinX.here (h d O' hd hs ho)
def zPD(tb:Tb):DS:=
 (zAt (zA1 (zBm (zI6 tb) [.p 0] [] (zAc (zAd 1) zAg) zAg))
 (zAt (zBY 2 (dOp (zX9 tb.DEEDS (zJK tb)) (dC (.ref tb.DEEDS)) (dOp dIx (zAd 1) (dC (.int 0)))))
 (zID (zBU 2 [(tb.put_bar,zGl tb),(tb.put_change,zGk tb),(tb.put_cut,zGj tb),(tb.put_move,zGi tb),(tb.put_mark,zGe tb),(tb.put_wipe,zGh tb),(tb.put_end,zGf tb),(tb.put_paper,zGg tb)] [.p 0,.p 1] (zAc (zAd 0) (zAc (zAd 1) zAg))))))
def zOg:List Str:=["stand","deed","put"]
def zLw(tb:Tb):DSp:=fun xs O R Z=>∃(c:Cel) (S:PSt) (a:Ask),xs=[.ref c.p,zHO a]∧AOk a∧SdAt tb O c S∧S.Ok∧Post tb c (zNx S a) O R Z
theorem yAD(tb:Tb):∀xs O R Z,zLw tb xs O R Z→zPD tb (zAC R Z) (zAr zOg xs) O:=by
 rintro _ O R Z ⟨c,S,a,rfl,ha,hS,hO,k⟩
 show zPD tb (zAC R Z) [some (.ref c.p),some (zHO a),none] O
 unfold zPD
 refine zAz fun N hN=>?_;dsimp! only[zA1,zBm]
 refine⟨a,rfl,ha,fun hg=>?_,fun hg=>?_⟩
 ·cases a with
  |odd ys=>cases hg
  |one d=>
   subst hN
   have fin:∀(w:Str) (r:List D) (f:Addr) (dsp:DSp),dD d=.str w::r→(zJK tb).lookup w=some (some (.ref f))→(f,dsp)∈[(tb.put_bar,zGl tb),(tb.put_change,zGk tb),(tb.put_cut,zGj tb),(tb.put_move,zGi tb),(tb.put_mark,zGe tb),(tb.put_wipe,zGh tb),(tb.put_end,zGf tb),(tb.put_paper,zGg tb)]→dsp [.ref c.p,zBt d] O (Fin R) (FinX Z)→
     zAt (zBY 2 (dOp (zX9 tb.DEEDS (zJK tb)) (dC (.ref tb.DEEDS)) (dOp dIx (zAd 1) (dC (.int 0)))))
      (zID (zBU 2 [(tb.put_bar,zGl tb),(tb.put_change,zGk tb),(tb.put_cut,zGj tb),(tb.put_move,zGi tb),(tb.put_mark,zGe tb),(tb.put_wipe,zGh tb),(tb.put_end,zGf tb),(tb.put_paper,zGg tb)] [.p 0,.p 1] (zAc (zAd 0) (zAc (zAd 1) zAg)))) (zAC R Z) [some (.ref c.p),some (zBt d),none] O:=by
    intro w r f dsp e1 e2 e3 h
    refine zAz fun N hN=>?_
    have ed:zBt d=.tup (.str w::r):=by unfold zBt;rw[e1]
    rw[ed]
    dsimp! only[zX9]
    refine⟨True.intro,w,_,rfl,e2,?_⟩
    subst hN
    rw[←ed]
    exact⟨f,dsp,rfl,e3,h⟩
   cases d with
   |bar a m=>exact fin _ _ tb.put_bar (zGl tb) rfl rfl (by simp) ⟨c,S,_,rfl,⟨_,_,rfl⟩,ha,hS,hO,Post.fin k⟩
   |change n m=>exact fin _ _ tb.put_change (zGk tb) rfl rfl (by simp) ⟨c,S,_,rfl,⟨_,_,rfl⟩,ha,hS,hO,Post.fin k⟩
   |cut n=>exact fin _ _ tb.put_cut (zGj tb) rfl rfl (by simp) ⟨c,S,_,rfl,⟨_,rfl⟩,ha,hS,hO,Post.fin k⟩
   |move n a=>exact fin _ _ tb.put_move (zGi tb) rfl rfl (by simp) ⟨c,S,_,rfl,⟨_,_,rfl⟩,ha,hS,hO,Post.fin k⟩
   |mark s=>exact fin _ _ tb.put_mark (zGe tb) rfl rfl (by simp) ⟨c,S,_,rfl,⟨_,rfl⟩,ha,hS,hO,Post.fin k⟩
   |wipe n=>exact fin _ _ tb.put_wipe (zGh tb) rfl rfl (by simp) ⟨c,S,_,rfl,⟨_,rfl⟩,ha,hS,hO,Post.fin k⟩
   |bound n w=>exact fin _ _ tb.put_end (zGf tb) rfl rfl (by simp) ⟨c,S,_,rfl,⟨_,_,rfl⟩,ha,hS,hO,Post.fin k⟩
   |paper s=>exact fin _ _ tb.put_paper (zGg tb) rfl rfl (by simp) ⟨c,S,_,rfl,⟨_,rfl⟩,ha,hS,hO,Post.fin k⟩
 ·cases a with
  |one d=>cases hg
  |odd ys=>
   intro d O' hd hs ho
   exact⟨O',fun _ _ e=>e,k d O' hd hs ho⟩
theorem zQo{x:Str}(h:zYS x=true):x∈signs:=by
 unfold zYS inD at h
 rw[ki] at h
 obtain⟨y,hy,e⟩:=h
 obtain⟨s,hs,rfl⟩:=qy.mp hy
 have e:(s==x)=true:=e
 rw[←eq_of_beq e]
 exact hs
theorem zRo{h:Hd}(g:zFS h=true):GHd h:=by
 unfold zFS yA6 at g
 simp only[qE,qp] at g
 obtain⟨⟨g1,g2⟩,g3,g4⟩:=g
 refine⟨g1,g2,?_,?_,zQo g4⟩<;>split at g3<;>omega
theorem yBm(a b c d:Int):HT.lexLt [a,b] [c,d]=decide (a<c∨a=c∧b<d):=by
 rw[HT.lexLt_cons,HT.lexLt_cons,HT.lexLt_nil_nil]
 by_cases h1:a=c
 ·rw[qe h1]
  by_cases h2:b=d
  ·rw[qe h2,eq_comm,kw];omega
  ·rw[qb h2,jw];omega
 ·rw[qb h1,jw];omega
theorem zOy{h k l:Hd}(a:hlt h k)(b:hlt k l):hlt h l:=by unfold hlt at*;omega
theorem zWd{hs:List Hd}(h:ris hs=true):hs.Pairwise hlt:=by
 unfold ris at h
 rw[jE] at h
 have st:∀i,i+1<hs.length→hlt (hs.getD i hd0) (hs.getD (i+1) hd0):=fun i hi=>by
  have:=h i (qC.mpr (by omega))
  unfold ltH at this
  rw[yBm,qp] at this
  exact this
 have all:∀d i,i+d+1<hs.length→hlt (hs.getD i hd0) (hs.getD (i+d+1) hd0):=by
  intro d
  induction d with
  |zero=>exact fun i hi=>st i hi
  |succ d ih=>exact fun i hi=>zOy (ih i (by omega)) (st (i+d+1) (by omega))
 rw[List.pairwise_iff_getElem]
 intro i j hi hj hij
 have:=all (j-i-1) i (by omega)
 rw[show i+(j-i-1)+1=j from by omega] at this
 rw[qw,qw,qg hi,qg hj] at this
 exact this
theorem zRn{m:Mom}(g:zG5 m=true):GM m:=by
 unfold zG5 at g
 simp only[qE,qp,jE] at g
 obtain⟨⟨g1,g2⟩,g3,⟨g4,g5⟩,g6,g7⟩:=g
 exact⟨g1,g2,⟨by omega,fun h hh=>zRo (g6 h hh),zWd g7⟩,g4,g5⟩
theorem zMc{ms:List Mom}(h:zDZ ms=none):GB ms:=by
 unfold zDZ at h
 by_cases h0:ms.length=0
 ·rw[qe h0] at h;cases h
 ·rw[qb h0] at h
  cases e:(ms.take 6).findIdx? (fun m=>!zG5 m) with
  |some i=>rw[e] at h;cases h
  |none=>
   rw[e] at h
   have h:(if ms.length > 6 then some 6 else none)=none:=h
   by_cases h6:ms.length > 6
   ·rw[qe h6] at h;cases h
   ·refine⟨by omega,by omega,fun m hm=>zRn ?_⟩
    rw[List.findIdx?_eq_none_iff] at e
    have:=e m (by rw[js (by omega)];exact hm)
    simpa using this
theorem zEG(l:List Int)(a n:Int):(zDQ l a n).Perm (n::l):=by
 unfold zDQ
 rw[je]
 refine List.Perm.trans (List.perm_middle (l₁:=l.take a.toNat) (l₂:=l.drop a.toNat)) ?_
 rw[List.take_append_drop]
theorem zOx(x n:Int)(hx:x≠n):∀(l r:List Int),(l++n::r).idxOf x=if(l++r).idxOf x<l.length then(l++r).idxOf x else(l++r).idxOf x+1
 |[],r=>by
  have e:(n==x)=false:=by simpa using fun z=>hx z.symm
  rw[kW,kW,jJ,e]
  simp
 |y::l,r=>by
  rw[List.cons_append,List.cons_append,jJ,jJ]
  by_cases e:y=x
  ·subst e;simp
  ·have eb:(y==x)=false:=by simpa using e
   rw[eb,zOx x n hx l r]
   simp only[qi,cond_false]
   by_cases h:(l++r).idxOf x<l.length
   ·rw[qe h,qe (by omega)]
   ·rw[qb h,qb (by omega)]
theorem zOv{x n a:Int}(hx:x≠n)(l:List Int):(zDQ l a n).idxOf x=if l.idxOf x<(l.take a.toNat).length then l.idxOf x else l.idxOf x+1:=by
 unfold zDQ
 rw[je]
 have:=zOx x n hx (l.take a.toNat) (l.drop a.toNat)
 rw[List.take_append_drop] at this
 exact this
theorem zHT{S:PSt}(nod:S.order.Nodup)(mus:∀n,(lkI S.music n).isSome=true↔n∈S.order)(mn:(S.music.map (·.1)).Nodup)(ol:S.order.length≤12)(gb:∀n m,lkI S.music n=some m→GB m)(sn:(S.spans.map (·.1)).Nodup)(sl:S.spans.length≤20)
  (sg:∀n s,lkI S.spans n=some s→(0≤s.on∧s.on≤3)∧(1≤s.th∧s.th≤9)) (bn:(S.bound.map (·.1)).Nodup) (bo:∀n w,lkI S.bound n=some w→n∈S.order∧(w=zGx∨w=zCD)) (o0:∀n∈S.order,1≤n∧n<S.f0) (s0:∀n s,lkI S.spans n=some s→1≤n∧n<S.f1) (f0:1≤S.f0) (f1:1≤S.f1) (sh:S.sheet.ok=true):(zDm S).Ok:=by
 have key:∀n s,lkI (S.spans.filter fun p=>zC1 S p.2) n=some s→lkI S.spans n=some s∧zC1 S s=true:=fun n s h=>by
  have h1:=jI.mp (zTT h)
  exact⟨zMY sn h1.1,h1.2⟩
 exact⟨nod,mus,mn,ol,gb,(sn.sublist (List.Sublist.map _ List.filter_sublist)),qo (jv _ _) sl,fun n s h=>⟨(sg n s (key n s h).1).1,(sg n s (key n s h).1).2,(key n s h).2⟩,bn,bo,o0,fun n s h=>s0 n s (key n s h).1,f0,f1,sh⟩
theorem zZ4{S S':PSt}{a:Int}{m:List Mom}{v:D}(hO:S.Ok)(h:zGW S a m=.ok S' v):S'.Ok:=by
 unfold zGW at h
 split at h
 ·split at h
  ·cases h
  ·rename_i hf
   split at h
   ·cases h
   ·rename_i h12
    cases h
    have hp:=zEG S.order a S.f0
    have hno:S.f0∉S.order:=fun z=>absurd (hO.o0 _ z).2 (Int.lt_irrefl _)
    have hm:∀n,n∈zDQ S.order a S.f0↔n=S.f0∨n∈S.order:=fun n=>by rw[hp.mem_iff,qj]
    refine⟨hp.nodup_iff.mpr (List.nodup_cons.mpr ⟨hno,hO.nod⟩),fun n=>?_,zF2 hO.mn,by have:=hp.length_eq;rw[qi] at this;show(zDQ S.order a S.f0).length≤12;omega,fun n w hn=>?_,hO.sn,hO.sl,fun n s hn=>?_,hO.bn,fun n w hn=>⟨(hm n).mpr (.inr (hO.bo n w hn).1),(hO.bo n w hn).2⟩,fun n hn=>?_,hO.s0,by show 1≤S.f0+1;have:=hO.f0;omega,hO.f1,hO.sh⟩
    ·show(lkI (ptI S.music S.f0 m) n).isSome=true↔n∈zDQ S.order a S.f0
     rw[zBO,hm]
     by_cases e:n=S.f0
     ·rw[qe e];simp[e]
     ·rw[qb e,hO.mus];simp[e]
    ·have hn:lkI (ptI S.music S.f0 m) n=some w:=hn
     rw[zBO] at hn
     by_cases e:n=S.f0
     ·rw[qe e] at hn;cases hn;exact zMc hf
     ·rw[qb e] at hn;exact hO.gb n w hn
    ·obtain⟨g1,g2,g3⟩:=hO.sg n s hn
     refine⟨g1,g2,?_⟩
     unfold zC1 at g3⊢
     simp only[qE] at g3⊢
     obtain⟨g4,g5,g6⟩:=g3
     have tin:∀t,zEZ S t=true→t.1∈S.order:=fun t ht=>by
      unfold zEZ at ht
      refine(hO.mus _).mp ?_
      cases e:lkI S.music t.1 with
      |none=>rw[e] at ht;cases ht
      |some _=>rfl
     have tip:∀t,zEZ S t=true→zEZ {S with order:=zDQ S.order a S.f0,music:=ptI S.music S.f0 m,f0:=S.f0+1} t=true:=fun t ht=>by
      have hne:t.1≠S.f0:=fun z=>hno (z▸tin t ht)
      unfold zEZ at ht⊢
      show(match lkI (ptI S.music S.f0 m) t.1 with|some m=>_|none=>_)=true
      rw[zBO,qb hne]
      exact ht
     refine⟨tip _ g4,tip _ g5,?_⟩
     have i1:=zOv (a:=a) (fun z=>hno (z▸tin _ g4):s.b.1≠S.f0) S.order
     have i2:=zOv (a:=a) (fun z=>hno (z▸tin _ g5):s.e.1≠S.f0) S.order
     unfold zU5 zE1 at g6⊢
     rw[qp] at g6⊢
     show(((zDQ S.order a S.f0).idxOf s.b.1:Nat):Int)<((zDQ S.order a S.f0).idxOf s.e.1:Nat)∨(((zDQ S.order a S.f0).idxOf s.b.1:Nat):Int)=((zDQ S.order a S.f0).idxOf s.e.1:Nat)∧s.b.2≤s.e.2
     rw[i1,i2]
     generalize (S.order.take a.toNat).length=k at*
     split<;>split<;>omega
    ·rcases(hm n).mp hn with e|e
     ·subst e;exact⟨hO.f0,by show S.f0<S.f0+1;omega⟩
     ·have:=hO.o0 n e;exact⟨this.1,by show n<S.f0+1;omega⟩
 ·cases h
theorem zQ4{S S':PSt}{n:Int}{m:List Mom}{v:D}(hO:S.Ok)(h:zB7 S n m=.ok S' v):S'.Ok:=by
 unfold zB7 at h
 split at h
 ·rename_i hn
  split at h
  ·cases h
  ·rename_i hf
   cases h
   refine zHT hO.nod (fun k=>?_) (zF2 hO.mn) hO.ol (fun k w hk=>?_) hO.sn hO.sl (fun k s hk=>⟨(hO.sg k s hk).1,(hO.sg k s hk).2.1⟩) hO.bn hO.bo hO.o0 hO.s0 hO.f0 hO.f1 hO.sh
   ·show(lkI (ptI S.music n m) k).isSome=true↔k∈S.order
    rw[zBO]
    by_cases e:k=n
    ·rw[qe e,e];exact⟨fun _=>(hO.mus n).mp hn,fun _=>rfl⟩
    ·rw[qb e];exact hO.mus k
   ·have hk:lkI (ptI S.music n m) k=some w:=hk
    rw[zBO] at hk
    by_cases e:k=n
    ·rw[qe e] at hk;cases hk;exact zMc hf
    ·rw[qb e] at hk;exact hO.gb k w hk
 ·cases h
theorem zZ2{S S':PSt}{n:Int}{v:D}(hO:S.Ok)(h:zGV S n=.ok S' v):S'.Ok:=by
 unfold zGV at h
 split at h
 ·rename_i hn
  cases h
  have hm:∀k,k∈S.order.erase n↔k≠n∧k∈S.order:=fun k=>hO.nod.mem_erase_iff
  refine zHT (hO.nod.erase n) (fun k=>?_) (zF3 hO.mn) (qo List.length_erase_le hO.ol) (fun k w hk=>?_) hO.sn hO.sl (fun k s hk=>⟨(hO.sg k s hk).1,(hO.sg k s hk).2.1⟩) (zF3 hO.bn) (fun k w hk=>?_) (fun k hk=>hO.o0 k ((hm k).mp hk).2) hO.s0 hO.f0 hO.f1 hO.sh
  ·show(lkI (drI S.music n) k).isSome=true↔k∈S.order.erase n
   rw[zCF,hm]
   by_cases e:k=n
   ·rw[qe e];simp[e]
   ·rw[qb e,hO.mus];simp[e]
  ·have hk:lkI (drI S.music n) k=some w:=hk
   rw[zCF] at hk
   split at hk
   ·cases hk
   ·exact hO.gb k w hk
  ·have hk:lkI (drI S.bound n) k=some w:=hk
   rw[zCF] at hk
   split at hk
   ·cases hk
   ·rename_i e
    exact⟨(hm k).mpr ⟨e,(hO.bo k w hk).1⟩,(hO.bo k w hk).2⟩
 ·cases h
theorem zWZ{S S':PSt}{n a:Int}{v:D}(hO:S.Ok)(h:zDU S n a=.ok S' v):S'.Ok:=by
 unfold zDU at h
 split at h
 ·rename_i hn
  split at h
  ·cases h
   have hin:n∈S.order:=(hO.mus n).mp hn
   have hp:(zDQ (S.order.erase n) a n).Perm S.order:=(zEG _ a n).trans (List.perm_cons_erase hin).symm
   refine zHT (hp.nodup_iff.mpr hO.nod) (fun k=>?_) hO.mn (by show(zDQ (S.order.erase n) a n).length≤12;rw[hp.length_eq];exact hO.ol) hO.gb hO.sn hO.sl (fun k s hk=>⟨(hO.sg k s hk).1,(hO.sg k s hk).2.1⟩) hO.bn (fun k w hk=>⟨hp.mem_iff.mpr (hO.bo k w hk).1,(hO.bo k w hk).2⟩) (fun k hk=>hO.o0 k (hp.mem_iff.mp hk)) hO.s0 hO.f0 hO.f1 hO.sh
   show(lkI S.music k).isSome=true↔k∈zDQ (S.order.erase n) a n
   rw[hp.mem_iff];exact hO.mus k
  ·cases h
 ·cases h
theorem zW0{S S':PSt}{s:Spn}{v:D}(hO:S.Ok)(h:zDV S s=.ok S' v):S'.Ok:=by
 unfold zDV at h
 split at h
 ·rename_i c1
  split at h
  ·rename_i c2
   split at h
   ·rename_i c3
    split at h
    ·rename_i c4
     split at h
     ·rename_i c5
      split at h
      ·cases h
      ·rename_i c6
       split at h
       ·rename_i c7
        split at h
        ·cases h
        ·rename_i c8
         cases h
         simp only[qE,qp] at c1 c7
         have tip:∀t,inM S t.1=true→zG2 S t=true→zEZ S t=true:=fun t h1 h2=>by
          obtain⟨m,hm⟩:=qM.mp h1
          unfold zEZ
          rw[zHx hm] at h2
          rw[hm]
          exact h2
         have hl:zC1 S s=true:=by
          unfold zC1
          rw[tip _ c2 c4,tip _ c3 c5]
          unfold zKW at c6
          rw[yBm,qp] at c6
          unfold zU5
          simp only[kO,qp]
          omega
         refine⟨hO.nod,hO.mus,hO.mn,hO.ol,hO.gb,zF2 hO.sn,by show(ptI S.spans S.f1 s).length≤20;have:=zXe S.spans S.f1 s;omega,fun n t hn=>?_,hO.bn,hO.bo,hO.o0,fun n t hn=>?_,hO.f0,by show 1≤S.f1+1;have:=hO.f1;omega,hO.sh⟩
         ·have hn:lkI (ptI S.spans S.f1 s) n=some t:=hn
          rw[zBO] at hn
          split at hn
          ·cases hn;exact⟨c1,c7,hl⟩
          ·exact hO.sg n t hn
         ·have hn:lkI (ptI S.spans S.f1 s) n=some t:=hn
          rw[zBO] at hn
          split at hn
          ·rename_i e;subst e;exact⟨hO.f1,by show S.f1<S.f1+1;omega⟩
          ·have:=hO.s0 n t hn;exact⟨this.1,by show n<S.f1+1;omega⟩
       ·cases h
     ·cases h
    ·cases h
   ·cases h
  ·cases h
 ·cases h
theorem zWY{S S':PSt}{n:Int}{v:D}(hO:S.Ok)(h:zDT S n=.ok S' v):S'.Ok:=by
 unfold zDT at h
 split at h
 ·cases h
  have key:∀k s,lkI (drI S.spans n) k=some s→lkI S.spans k=some s:=fun k s hk=>by
   rw[zCF] at hk
   split at hk
   ·cases hk
   ·exact hk
  exact⟨hO.nod,hO.mus,hO.mn,hO.ol,hO.gb,zF3 hO.sn,qo (zXg _ _) hO.sl,fun k s hk=>hO.sg k s (key k s hk),hO.bn,hO.bo,hO.o0,fun k s hk=>hO.s0 k s (key k s hk),hO.f0,hO.f1,hO.sh⟩
 ·cases h
theorem zTA{S S':PSt}{n:Int}{w:Str}{v:D}(hO:S.Ok)(h:zCO S n w=.ok S' v):S'.Ok:=by
 unfold zCO at h
 split at h
 ·rename_i c1
  split at h
  ·rename_i c2
   split at h
   ·cases h
   ·cases h
    refine⟨hO.nod,hO.mus,hO.mn,hO.ol,hO.gb,hO.sn,hO.sl,hO.sg,?_,fun k u hk=>?_,hO.o0,hO.s0,hO.f0,hO.f1,hO.sh⟩
    ·show((if w=zEk then drI S.bound n else ptI S.bound n w).map (·.1)).Nodup
     split
     ·exact zF3 hO.bn
     ·exact zF2 hO.bn
    ·have hk:lkI (if w=zEk then drI S.bound n else ptI S.bound n w) k=some u:=hk
     by_cases e:w=zEk
     ·rw[qe e,zCF] at hk
      split at hk
      ·cases hk
      ·exact hO.bo k u hk
     ·rw[qb e,zBO] at hk
      split at hk
      ·rename_i e2
       cases hk
       subst e2
       refine⟨(hO.mus k).mp c1,?_⟩
       unfold zI0 at c2
       simp only[Bool.or_eq_true,qp] at c2
       exact c2.resolve_left e
      ·exact hO.bo k u hk
  ·cases h
 ·cases h
theorem zVa{S S':PSt}{d:Deed}{v:D}(hO:S.Ok)(h:step S d=.ok S' v):S'.Ok:=by
 cases d with
 |bar a m=>exact zZ4 hO h
 |change n m=>exact zQ4 hO h
 |cut n=>exact zZ2 hO h
 |move n a=>exact zWZ hO h
 |mark s=>exact zW0 hO h
 |wipe n=>exact zWY hO h
 |bound n w=>exact zTA hO h
 |paper s=>
  have h:zCN S s=.ok S' v:=h
  unfold zCN at h
  split at h
  ·rename_i hs
   cases h
   exact⟨hO.nod,hO.mus,hO.mn,hO.ol,hO.gb,hO.sn,hO.sl,hO.sg,hO.bn,hO.bo,hO.o0,hO.s0,hO.f0,hO.f1,hs⟩
  ·cases h
structure En where
 a:Ask
 c:Cel
 S:PSt
def zBJ(e:En):D:=.tup [zHO e.a,.ref e.c.p]
structure Sho where
 q:Addr
 dx:Addr
 ap:Addr
 ag:Addr
 c:Cel
 S:PSt
 past:List En
 gone:List En
def zEx(p ap ag:Addr):List (Str×D):=[("now",.ref p),("past",.ref ap),("gone",.ref ag)]
structure ShAt(tb:Tb)(B O:Om)(h:Sho):Prop where
 ob:O h.q=some (.ins tb.Shop h.dx (zEx h.c.p h.ap h.ag))
 ps:O h.ap=some (.lst (h.past.map zBJ))
 gn:O h.ag=some (.lst (h.gone.map zBJ))
 sb:Sb B O
 bq:B h.q=none
 bp:B h.ap=none
 bg:B h.ag=none
 nw:SdAt tb B h.c h.S
 ok:h.S.Ok
 pa:∀e∈h.past,SdAt tb B e.c e.S∧e.S.Ok
 go:∀e∈h.gone,SdAt tb B e.c e.S∧e.S.Ok
 pg:h.ap≠h.ag
 pl:h.past.length≤100000
 gl:h.gone.length≤100000
section
variable {tb:Tb}{B O O':Om}{h:Sho}
theorem ShAt.now(H:ShAt tb B O h):SdAt tb O h.c h.S:=H.nw.sb H.sb
theorem ShAt.keep(H:ShAt tb B O h)(s:Sb O O'):ShAt tb B O' h:=⟨s _ _ H.ob,s _ _ H.ps,s _ _ H.gn,fun a o e=>s _ _ (H.sb a o e),H.bq,H.bp,H.bg,H.nw,H.ok,H.pa,H.go,H.pg,H.pl,H.gl⟩
theorem ShAt.fr(H:ShAt tb B O h)(s:∀a,O a≠none→(B a≠none∨a=h.q∨a=h.ap∨a=h.ag)→O' a=O a):ShAt tb B O' h:=by
 have g:∀{a:Addr}{o:DO},O a=some o→(B a≠none∨a=h.q∨a=h.ap∨a=h.ag)→O' a=some o:=fun {a o} e k=>(s a (by rw[e];exact fun z=>nomatch z) k).trans e
 exact⟨g H.ob (.inr (.inl rfl)),g H.ps (.inr (.inr (.inl rfl))),g H.gn (.inr (.inr (.inr rfl))),fun a o e=>g (H.sb a o e) (.inl (by rw[e];exact fun z=>nomatch z)),H.bq,H.bp,H.bg,H.nw,H.ok,H.pa,H.go,H.pg,H.pl,H.gl⟩
theorem ShAt.ne(H:ShAt tb B O h):h.ap≠h.q∧h.ag≠h.q:=⟨fun z=>(by have:=H.ps;rw[z,H.ob] at this;cases this),fun z=>(by have:=H.gn;rw[z,H.ob] at this;cases this)⟩
theorem ShAt.xN(H:ShAt tb B O h){R:D→Prop}:(∃(a dx:Addr) (fs:List (Str×D)) (v:D),D.ref h.q=D.ref a∧O a=some (.ins tb.Shop dx fs)∧fs.lookup ("now":Str)=some v∧R v)=R (.ref h.c.p):=zKY H.ob rfl
theorem ShAt.xP(H:ShAt tb B O h){R:D→Prop}:(∃(a dx:Addr) (fs:List (Str×D)) (v:D),D.ref h.q=D.ref a∧O a=some (.ins tb.Shop dx fs)∧fs.lookup ("past":Str)=some v∧R v)=R (.ref h.ap):=zKY H.ob rfl
theorem ShAt.xG(H:ShAt tb B O h){R:D→Prop}:(∃(a dx:Addr) (fs:List (Str×D)) (v:D),D.ref h.q=D.ref a∧O a=some (.ins tb.Shop dx fs)∧fs.lookup ("gone":Str)=some v∧R v)=R (.ref h.ag):=zKY H.ob rfl
theorem ShAt.mWord(H:ShAt tb B O h){P:Addr→Prop}:(∃(a dx:Addr) (fs:List (Str×D)),D.ref h.q=D.ref a∧O a=some (.ins tb.Shop dx fs)∧fs.lookup ("word":Str)=none∧P a)=P h.q:=zKT H.ob rfl
end
def zPX(tb:Tb):DS:=
 (zBd (dCB zDH (zAc (zAB tb.Stand "order" (zAB tb.Shop "now" (zAd 0))) zAg)))
def zTF:List Str:=["self"]
def zLx(tb:Tb):DSp:=fun xs O R _=>∃(B:Om) (h:Sho),xs=[.ref h.q]∧ShAt tb B O h∧R (.lst (h.S.order.map D.int)) O
theorem yAX(tb:Tb):∀xs O R Z,zLx tb xs O R Z→zPX tb (zBw R) (zAr zTF xs) O:=by
 rintro _ O R Z ⟨B,h,rfl,H,k⟩
 show zPX tb (zBw R) [some (.ref h.q)] O
 unfold zPX
 dsimp! only[zAB,H.xN,H.now.xO,zDH,H.now.ord]
 exact Fin.here k
def zPL(tb:Tb):DS:=
 (zAt (zA1 (zAu tb.Stand "need_bar" (zEw tb) [.p 0,.p 1] [] (fun _=>(zAB tb.Shop "now" (zAd 0))) (zAc (zAd 1) zAg) zAg))
 (zBd (zFa (zAB tb.Stand "bound" (zAB tb.Shop "now" (zAd 0))) (zAd 1) (dC (.str (PySem.Str.ofString "free"))))))
def zEe:List Str:=["self","number"]
def zHk(tb:Tb):DSp:=fun xs O R Z=>∃(B:Om) (h:Sho) (n:Int),xs=[.ref h.q,.int n]∧ShAt tb B O h∧(inM h.S n=true→R (.str (zEr h.S n)) O)∧(inM h.S n=false→Told1 (zIm n) tb O Z)
theorem yAL(tb:Tb):∀xs O R Z,zHk tb xs O R Z→zPL tb (zAC R Z) (zAr zEe xs) O:=by
 rintro _ O R Z ⟨B,h,n,rfl,H,k1,k2⟩
 show zPL tb (zAC R Z) [some (.ref h.q),some (.int n)] O
 unfold zPL
 refine zAz fun N hN=>?_;dsimp! only[zA1,zAu,zAB,H.xN,H.now.mNeed]
 refine⟨h.c,h.S,n,rfl,H.now.w,fun hn=>?_,fun hn=>?_⟩
 ·subst hN
  dsimp! only[zFa,zAB,H.xN,H.now.xB,zBX,H.now.bnd,DL.keyOf,zCq]
  have ew:∀R':D→Prop,R' ((Option.map D.str (lkI h.S.bound n)).getD (.str (PySem.Str.ofString "free")))=R' (.str (zEr h.S n)):=by
   intro R'
   unfold zEr
   cases lkI h.S.bound n<;>rfl
  refine⟨True.intro,?_⟩
  rw[ew fun v=>(zAC R Z).rt v O]
  exact Fin.here (k1 hn)
 ·intro d O' hd hs ho
  exact⟨O',fun _ _ e=>e,k2 hn d O' hd hs ho⟩
def zYE(tb:Tb):DS:=
 (zBd (zHE (zC3 (zAB tb.Shop "past" (zAd 0))) (gT 2 (zAp (gN 1) (zAp (gN 2) zBP))) zFF (zAd 1) [1,2]))
def zYZ:List Str:=["self","deed","stand"]
def zMD(tb:Tb):DSp:=fun xs O R _=>∃(B:Om) (h:Sho),xs=[.ref h.q]∧ShAt tb B O h∧R (.lst (h.past.map fun e=>zHO e.a)) O
theorem zUy{u:DG}{tt:DT}{te:DE}{ok:Om→Prop}{g:Gm}{R:List D→Om→Prop}{O:Om}{l:List En}(hok:ok O)(hl:l.length≤100000)(hs:∀e:En,∀(N:List D→Om→Prop) (acc:List D),acc.length<sizeLine→N (acc++[zHO e.a]) O→u (zBJ e) g O fun g1 O1=>tt g1 O1 fun b O2=>if b=true then te g1 O2 fun y O3=>acc.length<sizeLine∧N (acc++[y]) O3 else N acc O2)(hd:R (l.map fun e=>zHO e.a) O):zEn u tt te ok g R (l.map zBJ) [] O:=
 zBV (fun e=>zHO e.a) hok (by omega) (fun a _ N acc hacc k=>hs a N acc hacc k) hd
theorem yB1(tb:Tb):∀xs O R Z,zMD tb xs O R Z→zYE tb (zBw R) (zAr zYZ xs) O:=by
 rintro _ O R Z ⟨B,h,rfl,H,k⟩
 show zYE tb (zBw R) [some (.ref h.q),none,none] O
 unfold zYE
 simpa! only[zHE,zAB,H.xP,H.ps]
 refine zUy H.ps H.pl (fun e N acc hacc kk=>?_) ?_
 ·dsimp! only[zBJ,zFF]
  exact⟨True.intro,hacc,kk⟩
 ·exact Fin.here k
def zF1:Bad:=zHN Tb.Nothing (PySem.Str.ofString "nothing")
def zLK(O B O':Om)(x y:Addr):Om:=fun a=>match O a with
 |some _=>B a
 |none=>if a=x∨a=y then none else O' a
theorem zDJ{O B O':Om}{x y a:Addr}(h:O a≠none):zLK O B O' x y a=B a:=by
 unfold zLK
 cases e:O a with
 |none=>exact absurd e h
 |some _=>rfl
theorem zQQ{O B O':Om}{x y a:Addr}(h:O a=none)(h1:a≠x)(h2:a≠y):zLK O B O' x y a=O' a:=by
 unfold zLK
 rw[h]
 exact qb (fun z=>z.elim h1 h2)
theorem zKL{O B O':Om}{x y a:Addr}(h:O a=none)(k:a=x∨a=y):zLK O B O' x y a=none:=by
 unfold zLK
 rw[h]
 exact qe k
theorem zTl{O B O':Om}{x y:Addr}(s:Sb B O):Sb B (zLK O B O' x y):=fun a o e=>by
 rw[zDJ (by rw[s a o e];exact fun z=>nomatch z)];exact e
theorem zN4{O B O':Om}{x y:Addr}(s:∀a o,B a=some o→O' a=some o):Sb (zLK O B O' x y) O':=fun a o e=>by
 unfold zLK at e
 cases h:O a with
 |some _=>rw[h] at e;exact s a o e
 |none=>
  rw[h] at e
  have e:(if a=x∨a=y then none else O' a)=some o:=e
  split at e
  ·cases e
  ·exact e
theorem SdAt.res{tb:Tb}{O B O':Om}{x y:Addr}{c:Cel}{S:PSt}(h:SdAt tb O' c S)(hp:O c.p=none)(ho:O c.ao=none)(hm:O c.am=none)(hs:O c.as=none)(hb:O c.ab=none)(n:∀a,(a=c.p∨a=c.ao∨a=c.am∨a=c.as∨a=c.ab)→a≠x∧a≠y):SdAt tb (zLK O B O' x y) c S:=by
 have g:∀a,O a=none→(a=c.p∨a=c.ao∨a=c.am∨a=c.as∨a=c.ab)→zLK O B O' x y a=O' a:=fun a h k=>zQQ h (n a k).1 (n a k).2
 exact⟨(g _ hp (.inl rfl)).trans h.ob,(g _ ho (.inr (.inl rfl))).trans h.ord,(g _ hm (.inr (.inr (.inl rfl)))).trans h.mus,(g _ hs (.inr (.inr (.inr (.inl rfl))))).trans h.spa,(g _ hb (.inr (.inr (.inr (.inr rfl))))).trans h.bnd,h.n1,h.n2,h.n3⟩
theorem ok0{s:Sht}(h:s.ok=true):PSt.Ok ⟨s,[],[],[],[],1,1⟩ where
 nod:=List.nodup_nil
 mus:=fun n=>⟨fun z=>(by cases z),fun z=>(by cases z)⟩
 mn:=List.nodup_nil
 ol:=qR _
 gb:=fun n m z=>(by cases z)
 sn:=List.nodup_nil
 sl:=qR _
 sg:=fun n s z=>(by cases z)
 bn:=List.nodup_nil
 bo:=fun n w z=>(by cases z)
 o0:=fun n z=>(by cases z)
 s0:=fun n s z=>(by cases z)
 f0:=jM _
 f1:=jM _
 sh:=h
def zPC(tb:Tb):DS:=
 (zAt (zAQ tb.Shop "now" (zAd 0) (zK7 tb.Stand (zNz tb) (zBm (zI8 tb) [.k 0,.k 1,.k 2,.k 3,.k 4] [] zAg (zAc (zAd 1) (zAc (zAd 2) (zAc (zAd 3) (zAc (zAd 4) (zAc (zAd 5) zAg))))))))
 (zAt (zAQ tb.Shop "past" (zAd 0) (fun _=>(zMm zAg)))
 (zAQ tb.Shop "gone" (zAd 0) (fun _=>(zMm zAg)))))
def zEf:List Str:=["self","width","lines","fee","turn","gap"]
def zLv(tb:Tb):DSp:=fun xs O R Z=>∃(p dx:Addr) (s:Sht),xs=[.ref p,.int s.w,.int s.l,.int s.f,.int s.t,.int s.g]∧O p=some (.ins tb.Shop dx [])∧(s.ok=false→Told1 zDN tb O Z)∧
 (s.ok=true→∀O' B' h,Fr [p] O O'→(∀a,O a≠none→B' a=none)→O h.ap=none→O h.ag=none→h.q=p→h.S=⟨s,[],[],[],[],1,1⟩→h.past=[]→h.gone=[]→ShAt tb B' O' h→R .non O')
theorem yAC(tb:Tb):∀xs O R Z,zLv tb xs O R Z→zPC tb (zAC R Z) (zAr zEf xs) O:=by
 rintro _ O R Z ⟨p,dx,s,rfl,ho,k1,k2⟩
 show zPC tb (zAC R Z) [some (.ref p),some (.int s.w),some (.int s.l),some (.int s.f),some (.int s.t),some (.int s.g)] O
 unfold zPC
 refine zAz fun N hN=>?_
 dsimp! only[zAQ,zK7,zBm]
 refine⟨s,rfl,fun hs=>?_,fun hs=>?_⟩
 ·intro x dx1 hx hdx hne
  have f1:Sb O (up (up O dx1 (.own x)) x (.ins tb.Stand dx1 [])):=(Sb.new hdx).trans (Sb.new (by rw[up_ne (ql hne)];exact hx))
  refine⟨x,dx1,s,rfl,up_same,fun O1 c1 fr e1 a1 a2 a3 a4 s1=>⟨rfl,?_⟩⟩
  have z:∀a,(up (up O dx1 (.own x)) x (.ins tb.Stand dx1 [])) a=none→O a=none:=fun a h=>zKR f1 h
  have sb1:Sb O O1:=fun a o e=>fr a o (f1 a o e) (fun z=>by rw[qh] at z;rw[z,hx] at e;cases e)
  subst e1
  refine⟨p,dx,[],rfl,sb1 _ _ ho,by decide,?_⟩
  have cp:c1.p≠p:=fun w=>by rw[←w,hx] at ho;cases ho
  have pn:∀a,O a=none→a≠p:=fun a h w=>by rw[w,ho] at h;cases h
  have s2:SdAt tb (up O1 p (.ins tb.Shop dx [("now",.ref c1.p)])) c1 ⟨s,[],[],[],[],1,1⟩:=⟨(up_ne cp).trans s1.ob,(up_ne (pn _ (z _ a1))).trans s1.ord,(up_ne (pn _ (z _ a2))).trans s1.mus,(up_ne (pn _ (z _ a3))).trans s1.spa,(up_ne (pn _ (z _ a4))).trans s1.bnd,s1.n1,s1.n2,s1.n3⟩
  have fr2:Fr [p] O (up O1 p (.ins tb.Shop dx [("now",.ref c1.p)])):=(Fr.of sb1).trans (Fr.put qz)
  have o2:(up O1 p (.ins tb.Shop dx [("now",.ref c1.p)])) p=some (.ins tb.Shop dx [("now",.ref c1.p)]):=up_same
  have e2:up O1 p (.ins tb.Shop dx (zDf "now" (.ref c1.p) []))=up O1 p (.ins tb.Shop dx [("now",.ref c1.p)]):=rfl
  rw[e2]
  generalize up O1 p (.ins tb.Shop dx [("now",.ref c1.p)])=O2 at s2 fr2 o2⊢
  subst hN
  refine zAz fun N hN=>?_
  dsimp! only[zAQ]
  intro ap hap
  have ap1:ap≠p:=ql (zAb hap o2)
  refine⟨p,dx,[("now",.ref c1.p)],rfl,(up_ne (ql ap1)).trans o2,(show(1:Nat)<1000 by decide),?_⟩
  have s3:SdAt tb (up (up O2 ap (.lst [])) p (.ins tb.Shop dx [("now",.ref c1.p),("past",.ref ap)])) c1 ⟨s,[],[],[],[],1,1⟩:=by
   have t:=s2.sb (Sb.new (o:=.lst []) hap)
   exact⟨(up_ne cp).trans t.ob,(up_ne (pn _ (z _ a1))).trans t.ord,(up_ne (pn _ (z _ a2))).trans t.mus,(up_ne (pn _ (z _ a3))).trans t.spa,(up_ne (pn _ (z _ a4))).trans t.bnd,t.n1,t.n2,t.n3⟩
  have fr3:Fr [p] O (up (up O2 ap (.lst [])) p (.ins tb.Shop dx [("now",.ref c1.p),("past",.ref ap)])):=fr2.trans ((Fr.new hap).trans (Fr.put qz))
  have o3:(up (up O2 ap (.lst [])) p (.ins tb.Shop dx [("now",.ref c1.p),("past",.ref ap)])) p=some (.ins tb.Shop dx [("now",.ref c1.p),("past",.ref ap)]):=up_same
  have p3:(up (up O2 ap (.lst [])) p (.ins tb.Shop dx [("now",.ref c1.p),("past",.ref ap)])) ap=some (.lst []):=(up_ne ap1).trans up_same
  have e3:up (up O2 ap (.lst [])) p (.ins tb.Shop dx (zDf "past" (.ref ap) [("now",.ref c1.p)]))=up (up O2 ap (.lst [])) p (.ins tb.Shop dx [("now",.ref c1.p),("past",.ref ap)]):=rfl
  rw[e3]
  generalize up (up O2 ap (.lst [])) p (.ins tb.Shop dx [("now",.ref c1.p),("past",.ref ap)])=O3 at s3 fr3 o3 p3⊢
  have apO:O ap=none:=by
   cases e:O ap with
   |none=>rfl
   |some o=>have:=fr2 ap o e (by simpa using ap1);rw[hap] at this;cases this
  subst hN
  dsimp! only[zAQ]
  intro ag hag
  have ag1:ag≠p:=ql (zAb hag o3)
  have ag2:ag≠ap:=ql (zAb hag p3)
  refine⟨p,dx,[("now",.ref c1.p),("past",.ref ap)],rfl,(up_ne (ql ag1)).trans o3,(show(2:Nat)<1000 by decide),?_⟩
  have s4:SdAt tb (up (up O3 ag (.lst [])) p (.ins tb.Shop dx (zEx c1.p ap ag))) c1 ⟨s,[],[],[],[],1,1⟩:=by
   have t:=s3.sb (Sb.new (o:=.lst []) hag)
   exact⟨(up_ne cp).trans t.ob,(up_ne (pn _ (z _ a1))).trans t.ord,(up_ne (pn _ (z _ a2))).trans t.mus,(up_ne (pn _ (z _ a3))).trans t.spa,(up_ne (pn _ (z _ a4))).trans t.bnd,t.n1,t.n2,t.n3⟩
  have fr4:Fr [p] O (up (up O3 ag (.lst [])) p (.ins tb.Shop dx (zEx c1.p ap ag))):=fr3.trans ((Fr.new hag).trans (Fr.put qz))
  have agO:O ag=none:=by
   cases e:O ag with
   |none=>rfl
   |some o=>have:=fr3 ag o e (by simpa using ag1);rw[hag] at this;cases this
  have nx:∀a,(a=c1.p∨a=c1.ao∨a=c1.am∨a=c1.as∨a=c1.ab)→a≠ap∧a≠ag:=fun a h=>by
   rcases h with rfl|rfl|rfl|rfl|rfl
   ·exact⟨zAb hap s2.ob,zAb hag s3.ob⟩
   ·exact⟨zAb hap s2.ord,zAb hag s3.ord⟩
   ·exact⟨zAb hap s2.mus,zAb hag s3.mus⟩
   ·exact⟨zAb hap s2.spa,zAb hag s3.spa⟩
   ·exact⟨zAb hap s2.bnd,zAb hag s3.bnd⟩
  have pO:O p≠none:=by rw[ho];exact fun z=>nomatch z
  refine Fin.here (k2 hs _ (zLK O (fun _=>none) (up (up O3 ag (.lst [])) p (.ins tb.Shop dx (zEx c1.p ap ag))) ap ag) ⟨p,dx,ap,ag,c1,⟨s,[],[],[],[],1,1⟩,[],[]⟩ fr4 (fun a h=>zDJ h) apO agO rfl rfl rfl rfl ?_)
  exact⟨up_same,(up_ne ap1).trans ((up_ne (ql ag2)).trans p3),(up_ne ag1).trans up_same,zN4 (fun a o e=>(by cases e)),zDJ pO,zKL apO (.inl rfl),zKL agO (.inr rfl),s4.res hx (z _ a1) (z _ a2) (z _ a3) (z _ a4) nx,ok0 hs,(fun e h=>by cases h),(fun e h=>by cases h),ql ag2,qR _,qR _⟩
 ·intro d O' hd hsb ho'
  exact⟨O',fun _ _ e=>e,k1 hs d O' hd hsb ho'⟩
def zPB(tb:Tb):DS:=
 (zAt (zA1 (zBm (zI6 tb) [.p 0] [] (zAc (zAd 1) zAg) zAg))
 (zAt (zBY 2 (zAB tb.Shop "now" (zAd 0)))
 (zAt (zBY 3 (dC .non))
 (zAt (zAQ tb.Shop "now" (zAd 0) (fun _=>(zAu tb.Stand "like" (zLz tb) [.p 0] [] (fun _=>(zAd 2)) zAg zAg X0)))
 (zAt (zIC (zAt (zCz 4 (zBm (zLw tb) [.p 0,.p 1] [] (zAc (zAB tb.Shop "now" (zAd 0)) (zAc (zAd 1) zAg)) zAg))
 (zBY 3 (zAB tb.Shop "now" (zAd 0)))) (zBK (zAo (dOp zE9 (zAd 3) (dC .non))) (zAQ tb.Shop "now" (zAd 0) (fun _=>(zAd 2))) zAH))
 (zAt (zCo (dLM zB5 (zAB tb.Shop "past" (zAd 0)) (zAc (zD2 (zAc (zAd 1) (zAc (zAd 2) zAg))) zAg)))
 (zAt (zAQ tb.Shop "gone" (zAd 0) (fun _=>(zMm zAg)))
 (zBd (zAd 4)))))))))
def zCE:List Str:=["self","deed","kept","later","answer"]
def zLu(tb:Tb):DSp:=fun xs O R Z=>∃(B:Om) (h:Sho) (a:Ask),xs=[.ref h.q,zHO a]∧AOk a∧ShAt tb B O h∧h.past.length<100000∧(match zNx h.S a with
 |.ok S' v=>∀O' B' h',Sb B B'→(∀x,O x≠none→B' x=B x)→Fr [h.q,h.ap] O O'→h'.q=h.q→h'.ap=h.ap→O h'.ag=none→h'.S=S'→h'.past=h.past++[⟨a,h.c,h.S⟩]→h'.gone=[]→ShAt tb B' O' h'→R v O'
 |.er b=>Told1 b tb O Z)
theorem zP4{S S':PSt}{a:Ask}{v:D}(hO:S.Ok)(h:zNx S a=.ok S' v):S'.Ok:=by
 cases a with
 |one d=>exact zVa hO h
 |odd ys=>cases h
theorem zNw{S:PSt}{a:Ask}(h:a.good=false):zNx S a=.er zFc:=by
 cases a with
 |one d=>cases h
 |odd ys=>rfl
theorem Told1.mono{b:Bad}{tb:Tb}{O O1:Om}{Z:XD}(h:Told1 b tb O Z)(s:Sb O O1):Told1 b tb O1 Z:=fun d O' hd hs ho=>h d O' (zKR s hd) (s.trans hs) ho
theorem yAB(tb:Tb):∀xs O R Z,zLu tb xs O R Z→zPB tb (zAC R Z) (zAr zCE xs) O:=by
 rintro _ O R Z ⟨B,h,a,rfl,ha,H,hl,k⟩
 show zPB tb (zAC R Z) [some (.ref h.q),some (zHO a),none,none,none] O
 unfold zPB
 refine zAz fun N hN=>?_
 dsimp! only[zA1,zBm]
 refine⟨a,rfl,ha,fun hg=>?_,fun hg=>?_⟩
 ·subst hN
  refine zAz fun N hN=>?_
  dsimp! only[zAB,H.xN]
  subst hN
  refine zAz fun N hN=>?_
  dsimp! only[]
  subst hN
  refine zAz fun N hN=>?_
  dsimp! only[zAQ,zAu,H.now.mLike]
  refine⟨h.c,h.S,rfl,H.now,by have:=H.ok.ol;omega,fun O1 c' sb1 n1 n2 n3 n4 n5 s1=>?_⟩
  refine⟨h.q,h.dx,zEx h.c.p h.ap h.ag,rfl,sb1 _ _ H.ob,(show(3:Nat)<1000 by decide),?_⟩
  have e1:up O1 h.q (.ins tb.Shop h.dx (zDf "now" (.ref c'.p) (zEx h.c.p h.ap h.ag)))=up O1 h.q (.ins tb.Shop h.dx (zEx c'.p h.ap h.ag)):=rfl
  rw[e1]
  have qn:∀a,O a=none→a≠h.q:=fun a e z=>by rw[z,H.ob] at e;cases e
  have s2:SdAt tb (up O1 h.q (.ins tb.Shop h.dx (zEx c'.p h.ap h.ag))) c' h.S:=⟨(up_ne (qn _ n1)).trans s1.ob,(up_ne (qn _ n2)).trans s1.ord,(up_ne (qn _ n3)).trans s1.mus,(up_ne (qn _ n4)).trans s1.spa,(up_ne (qn _ n5)).trans s1.bnd,s1.n1,s1.n2,s1.n3⟩
  have fr2:Fr [h.q] O (up O1 h.q (.ins tb.Shop h.dx (zEx c'.p h.ap h.ag))):=(Fr.of sb1).trans (Fr.put qz)
  have o2:(up O1 h.q (.ins tb.Shop h.dx (zEx c'.p h.ap h.ag))) h.q=some (.ins tb.Shop h.dx (zEx c'.p h.ap h.ag)):=up_same
  generalize up O1 h.q (.ins tb.Shop h.dx (zEx c'.p h.ap h.ag))=O2 at s2 fr2 o2⊢
  subst hN
  refine zAz fun N hN=>?_
  unfold zIC
  refine zAz fun M hM=>?_
  dsimp! only[zBm,zAB]
  refine⟨h.q,h.dx,_,_,rfl,o2,rfl,?_⟩
  refine⟨c',h.S,a,rfl,ha,s2,H.ok,?_⟩
  cases hst:zNx h.S a with
  |er b=>
   rw[hst] at k
   intro d O3 hd hs ho
   have hqd:d≠h.q:=fun z=>by rw[z,o2] at hd;cases hd
   have hb:=k d (up O3 h.q (.ins tb.Shop h.dx (zEx h.c.p h.ap h.ag))) (by
     cases e:O d with
     |none=>rfl
     |some o=>have:=fr2 d o e (by simpa using hqd);rw[hd] at this;cases this) (fun x o e=>by
     by_cases hx:x=h.q
     ·subst hx;rw[up_same];rw[H.ob] at e;exact e
     ·rw[up_ne hx];exact hs _ _ (fr2 x o e (by simpa using hx))) ((up_ne hqd).trans ho)
   dsimp! only[zAQ]
   refine⟨h.q,h.dx,zEx c'.p h.ap h.ag,rfl,hs _ _ o2,(show(3:Nat)<1000 by decide),?_⟩
   exact FinX.here hb
  |ok S' v=>
   rw[hst] at k
   intro O3 q' hq' fr3 s3
   subst hM
   have qc:h.q≠c'.p∧h.q≠c'.ao∧h.q≠c'.am∧h.q≠c'.as∧h.q≠c'.ab:=⟨ql (qn _ n1),ql (qn _ n2),ql (qn _ n3),ql (qn _ n4),ql (qn _ n5)⟩
   have fr1:Fr [h.q] O O3:=fun x o e n=>by
    refine fr3 x o (fr2 x o e n) (fun z=>?_)
    simp only[qj,qt,qW] at z
    rcases z with rfl|rfl|rfl|rfl|rfl
    ·rw[n1] at e;cases e
    ·rw[n2] at e;cases e
    ·rw[n3] at e;cases e
    ·rw[n4] at e;cases e
    ·rw[n5] at e;cases e
   have o3:O3 h.q=some (.ins tb.Shop h.dx (zEx c'.p h.ap h.ag)):=fr3 _ _ o2 (by simp only[qj,qt,qW,not_or];exact qc)
   dsimp only
   dsimp! only[zAB]
   refine⟨h.q,h.dx,_,_,rfl,o3,rfl,?_⟩
   dsimp! only[]
   subst hN
   refine zAz fun N hN=>?_
   dsimp! only[zAB]
   obtain⟨hapq,hagq⟩:=H.ne
   have p3:O3 h.ap=some (.lst (h.past.map zBJ)):=fr1 _ _ H.ps (by simpa using hapq)
   refine⟨h.q,h.dx,_,_,rfl,o3,rfl,?_⟩
   simp only[p3]
   refine⟨rfl,by rw[qd,zKA];omega,?_⟩
   have en:h.past.map zBJ++[D.tup [zHO a,.ref h.c.p]]=(h.past++[En.mk a h.c h.S]).map zBJ:=by rw[qK];rfl
   rw[en]
   have nO:∀x,O2 x=none→O x=none:=fun x z=>by
    cases e:O x with
    |none=>rfl
    |some o=>
     by_cases hx:x=h.q
     ·rw[hx,o2] at z;cases z
     ·have:=fr2 x o e (by simpa using hx);rw[z] at this;cases this
   have n4':O q'=none:=hq'.elim (fun z=>by rw[z];exact n4) (nO q')
   have apn:∀x,O x=none→x≠h.ap:=fun x e z=>by rw[z,H.ps] at e;cases e
   have s4:SdAt tb (up O3 h.ap (.lst ((h.past++[En.mk a h.c h.S]).map zBJ))) {c' with as:=q'} S':=⟨(up_ne (apn _ n1)).trans s3.ob,(up_ne (apn _ n2)).trans s3.ord,(up_ne (apn _ n3)).trans s3.mus,(up_ne (apn _ n4')).trans s3.spa,(up_ne (apn _ n5)).trans s3.bnd,s3.n1,s3.n2,s3.n3⟩
   have fr4:Fr [h.q,h.ap] O (up O3 h.ap (.lst ((h.past++[En.mk a h.c h.S]).map zBJ))):=fun x o e n=>by
    simp only[qj,qt,qW,not_or] at n
    rw[up_ne n.2]
    exact fr1 x o e (by simpa using n.1)
   have o4:(up O3 h.ap (.lst ((h.past++[En.mk a h.c h.S]).map zBJ))) h.q=some (.ins tb.Shop h.dx (zEx c'.p h.ap h.ag)):=(up_ne (ql hapq)).trans o3
   have p4:(up O3 h.ap (.lst ((h.past++[En.mk a h.c h.S]).map zBJ))) h.ap=some (.lst ((h.past++[En.mk a h.c h.S]).map zBJ)):=up_same
   generalize up O3 h.ap (.lst ((h.past++[En.mk a h.c h.S]).map zBJ))=O4 at s4 fr4 o4 p4⊢
   subst hN
   refine zAz fun N hN=>?_
   dsimp! only[zAQ]
   intro ag' hag
   have g1:ag'≠h.q:=ql (zAb hag o4)
   have g2:ag'≠h.ap:=ql (zAb hag p4)
   refine⟨h.q,h.dx,zEx c'.p h.ap h.ag,rfl,(up_ne (ql g1)).trans o4,(show(3:Nat)<1000 by decide),?_⟩
   have s5:SdAt tb (up (up O4 ag' (.lst [])) h.q (.ins tb.Shop h.dx (zEx c'.p h.ap ag'))) {c' with as:=q'} S':=by
    have t:=s4.sb (Sb.new (o:=.lst []) hag)
    exact⟨(up_ne (qn _ n1)).trans t.ob,(up_ne (qn _ n2)).trans t.ord,(up_ne (qn _ n3)).trans t.mus,(up_ne (qn _ n4')).trans t.spa,(up_ne (qn _ n5)).trans t.bnd,t.n1,t.n2,t.n3⟩
   have fr5:Fr [h.q,h.ap] O (up (up O4 ag' (.lst [])) h.q (.ins tb.Shop h.dx (zEx c'.p h.ap ag'))):=fr4.trans ((Fr.new hag).trans (Fr.put (by simp)))
   have p5:(up (up O4 ag' (.lst [])) h.q (.ins tb.Shop h.dx (zEx c'.p h.ap ag'))) h.ap=some (.lst ((h.past++[En.mk a h.c h.S]).map zBJ)):=(up_ne hapq).trans ((up_ne (ql g2)).trans p4)
   have agO:O ag'=none:=by
    cases e:O ag' with
    |none=>rfl
    |some o=>have:=fr4 ag' o e (by simp[g1,g2]);rw[hag] at this;cases this
   have c5:(up (up O4 ag' (.lst [])) h.q (.ins tb.Shop h.dx (zEx c'.p h.ap ag'))) ag'=some (.lst []):=(up_ne g1).trans up_same
   have o5:(up (up O4 ag' (.lst [])) h.q (.ins tb.Shop h.dx (zEx c'.p h.ap ag'))) h.q=some (.ins tb.Shop h.dx (zEx c'.p h.ap ag')):=up_same
   have e5:up (up O4 ag' (.lst [])) h.q (.ins tb.Shop h.dx (zDf "gone" (.ref ag') (zEx c'.p h.ap h.ag)))=up (up O4 ag' (.lst [])) h.q (.ins tb.Shop h.dx (zEx c'.p h.ap ag')):=rfl
   rw[e5]
   generalize up (up O4 ag' (.lst [])) h.q (.ins tb.Shop h.dx (zEx c'.p h.ap ag'))=O5 at s5 fr5 p5 c5 o5⊢
   subst hN
   dsimp! only[]
   have nx:∀x,(x=c'.p∨x=c'.ao∨x=c'.am∨x=q'∨x=c'.ab)→x≠ag'∧x≠ag':=fun x w=>by
    rcases w with rfl|rfl|rfl|rfl|rfl
    ·exact⟨zAb hag s4.ob,zAb hag s4.ob⟩
    ·exact⟨zAb hag s4.ord,zAb hag s4.ord⟩
    ·exact⟨zAb hag s4.mus,zAb hag s4.mus⟩
    ·exact⟨zAb hag s4.spa,zAb hag s4.spa⟩
    ·exact⟨zAb hag s4.bnd,zAb hag s4.bnd⟩
   have sbB:Sb B (zLK O B O5 ag' ag'):=zTl H.sb
   refine Fin.here (k O5 (zLK O B O5 ag' ag') ⟨h.q,h.dx,h.ap,ag',{c' with as:=q'},S',h.past++[⟨a,h.c,h.S⟩],[]⟩ sbB (fun x e=>zDJ e) fr5 rfl rfl agO rfl rfl rfl ?_)
   refine⟨o5,p5,c5,zN4 (fun x o e=>fr5 x o (H.sb x o e) ?_),(zDJ (by rw[H.ob];exact fun z=>nomatch z)).trans H.bq,(zDJ (by rw[H.ps];exact fun z=>nomatch z)).trans H.bp,zKL agO (.inl rfl),s5.res n1 n2 n3 n4' n5 nx,zP4 H.ok hst,fun e he=>?_,(fun e he=>by cases he),ql g2,?_,qR _⟩
   ·simp only[qj,qt,qW,not_or]
    exact⟨fun z=>(by rw[z,H.bq] at e;cases e),fun z=>(by rw[z,H.bp] at e;cases e)⟩
   ·rcases qD.mp he with h1|h1
    ·exact⟨(H.pa e h1).1.sb sbB,(H.pa e h1).2⟩
    ·rw[qh] at h1
     subst h1
     exact⟨H.nw.sb sbB,H.ok⟩
   ·show(h.past++[_]).length≤100000
    rw[qL]
    exact hl
 ·rw[zNw hg] at k
  intro d O' hd hs ho
  exact⟨O',fun _ _ e=>e,k d O' hd hs ho⟩
structure ShO(tb:Tb)(O:Om)(q dx p ap ag:Addr):Prop where
 ob:O q=some (.ins tb.Shop dx (zEx p ap ag))
section
variable {tb:Tb}{O:Om}{q dx p ap ag:Addr}
theorem ShO.xN(H:ShO tb O q dx p ap ag){R:D→Prop}:(∃(a dx:Addr) (fs:List (Str×D)) (v:D),D.ref q=D.ref a∧O a=some (.ins tb.Shop dx fs)∧fs.lookup ("now":Str)=some v∧R v)=R (.ref p):=zKY H.ob rfl
theorem ShO.xP(H:ShO tb O q dx p ap ag){R:D→Prop}:(∃(a dx:Addr) (fs:List (Str×D)) (v:D),D.ref q=D.ref a∧O a=some (.ins tb.Shop dx fs)∧fs.lookup ("past":Str)=some v∧R v)=R (.ref ap):=zKY H.ob rfl
theorem ShO.xG(H:ShO tb O q dx p ap ag){R:D→Prop}:(∃(a dx:Addr) (fs:List (Str×D)) (v:D),D.ref q=D.ref a∧O a=some (.ins tb.Shop dx fs)∧fs.lookup ("gone":Str)=some v∧R v)=R (.ref ag):=zKY H.ob rfl
end
def zPF(tb:Tb):DS:=
 (zAt (zBK (zAo (dOp zJ4 (zAB tb.Shop "past" (zAd 0)) (zBA zAg))) (zAK tb.Nothing (PySem.Str.ofString "nothing")) zAH)
 (zAt (zEo (zNa zOU (zAB tb.Shop "past" (zAd 0))) (gT 2 (zAp (gN 1) (zAp (gN 2) zBP))))
 (zAt (zCo (dLM zB5 (zAB tb.Shop "gone" (zAd 0)) (zAc (zD2 (zAc (zAd 1) (zAc (zAB tb.Shop "now" (zAd 0)) zAg))) zAg)))
 (zAQ tb.Shop "now" (zAd 0) (fun _=>(zAd 2))))))
def zCR:List Str:=["self","deed","stand"]
def zI5(tb:Tb):DSp:=fun xs O R Z=>∃(B:Om) (h:Sho),xs=[.ref h.q]∧ShAt tb B O h∧h.gone.length<100000∧(h.past=[]→Told1 zF1 tb O Z)∧∀init e,h.past=init++[e]→∀O',Fr [h.q,h.ap,h.ag] O O'→ShAt tb B O' {h with c:=e.c,S:=e.S,past:=init,gone:=h.gone++[⟨e.a,h.c,h.S⟩]}→R .non O'
theorem zHz{A:Type}(l:List A):l=[]∨∃i x,l=i++[x]:=by
 cases e:l.reverse with
 |nil=>exact .inl (List.reverse_eq_nil_iff.mp e)
 |cons x r=>exact .inr ⟨r.reverse,x,by rw[←List.reverse_reverse l,e,List.reverse_cons]⟩
theorem yAF(tb:Tb):∀xs O R Z,zI5 tb xs O R Z→zPF tb (zAC R Z) (zAr zCR xs) O:=by
 rintro _ O R Z ⟨B,h,rfl,H,hl,k1,k2⟩
 show zPF tb (zAC R Z) [some (.ref h.q),none,none] O
 unfold zPF
 refine zAz fun N hN=>?_
 dsimp! only[zAB,H.xP,zJ4]
 refine⟨h.ap,_,rfl,H.ps,True.intro,?_⟩
 rcases zHz h.past with hp|⟨init,e,hp⟩
 ·rw[hp]
  dsimp! only[zAK]
  intro d hd
  exact FinX.here ((k1 hp).here hd)
 ·have k:=k2 init e hp
  rw[hp]
  rw[show((init++[e]).map zBJ).isEmpty=false from by simp]
  dsimp! only[]
  subst hN
  refine zAz fun N hN=>?_
  simp only[zEo,zNa,zAB,zAd,qJ]
  dsimp! only[H.xP]
  have ps':O h.ap=some (.lst ((init++[e]).map zBJ)):=by rw[←hp];exact H.ps
  have e1:((init++[e]).map zBJ)[((init++[e]).map zBJ).length-1]?=some (zBJ e):=by simp
  have e2:((init++[e]).map zBJ).dropLast=init.map zBJ:=by rw[qK,qr,qN,List.dropLast_concat]
  simp only[ps',e1,e2,zBJ]
  refine⟨rfl,rfl,?_⟩
  obtain⟨hapq,hagq⟩:=H.ne
  have o1:ShO tb (up O h.ap (.lst (init.map zBJ))) h.q h.dx h.c.p h.ap h.ag:=⟨(up_ne (ql hapq)).trans H.ob⟩
  have p1:(up O h.ap (.lst (init.map zBJ))) h.ap=some (.lst (init.map zBJ)):=up_same
  have g1:(up O h.ap (.lst (init.map zBJ))) h.ag=some (.lst (h.gone.map zBJ)):=(up_ne (ql H.pg)).trans H.gn
  have fr1:Fr [h.q,h.ap,h.ag] O (up O h.ap (.lst (init.map zBJ))):=Fr.put (by simp)
  generalize up O h.ap (.lst (init.map zBJ))=O1 at o1 p1 g1 fr1⊢
  subst hN
  refine zAz fun N hN=>?_
  dsimp! only[zAB,o1.xG,o1.xN,g1]
  refine⟨True.intro,by rw[qd,zKA];omega,?_⟩
  have en:h.gone.map zBJ++[D.tup [zHO e.a,.ref h.c.p]]=(h.gone++[En.mk e.a h.c h.S]).map zBJ:=by rw[qK];rfl
  rw[en]
  have o2:ShO tb (up O1 h.ag (.lst ((h.gone++[En.mk e.a h.c h.S]).map zBJ))) h.q h.dx h.c.p h.ap h.ag:=⟨(up_ne (ql hagq)).trans o1.ob⟩
  have p2:(up O1 h.ag (.lst ((h.gone++[En.mk e.a h.c h.S]).map zBJ))) h.ap=some (.lst (init.map zBJ)):=(up_ne H.pg).trans p1
  have g2:(up O1 h.ag (.lst ((h.gone++[En.mk e.a h.c h.S]).map zBJ))) h.ag=some (.lst ((h.gone++[En.mk e.a h.c h.S]).map zBJ)):=up_same
  have fr2:Fr [h.q,h.ap,h.ag] O (up O1 h.ag (.lst ((h.gone++[En.mk e.a h.c h.S]).map zBJ))):=fr1.trans (Fr.put (by simp))
  generalize up O1 h.ag (.lst ((h.gone++[En.mk e.a h.c h.S]).map zBJ))=O2 at o2 p2 g2 fr2⊢
  subst hN
  dsimp! only[zAQ]
  refine⟨h.q,h.dx,zEx h.c.p h.ap h.ag,rfl,o2.ob,(show(3:Nat)<1000 by decide),?_⟩
  have he:=H.pa e (by rw[hp];simp)
  refine Fin.here (k _ (fr2.trans (Fr.put (by simp))) ?_)
  refine⟨up_same,(up_ne hapq).trans p2,(up_ne hagq).trans g2,fun x o w=>?_,H.bq,H.bp,H.bg,he.1,he.2,fun z hz=>H.pa z (by rw[hp];exact jX _ hz),fun z hz=>?_,H.pg,?_,?_⟩
  ·have nq:x≠h.q:=fun z=>by rw[z,H.bq] at w;cases w
   have np:x≠h.ap:=fun z=>by rw[z,H.bp] at w;cases w
   have ng:x≠h.ag:=fun z=>by rw[z,H.bg] at w;cases w
   rw[up_ne nq]
   exact fr2 x o (H.sb x o w) (by simp[nq,np,ng])
  ·rcases qD.mp hz with h1|h1
   ·exact H.go z h1
   ·rw[qh] at h1
    subst h1
    exact⟨H.nw,H.ok⟩
  ·have:=H.pl;rw[hp,qL] at this;exact qo (kI _ _) this
  ·show(h.gone++[_]).length≤100000
   rw[qL]
   exact hl
def zPE(tb:Tb):DS:=
 (zAt (zBK (zAo (dOp zJ4 (zAB tb.Shop "gone" (zAd 0)) (zBA zAg))) (zAK tb.Nothing (PySem.Str.ofString "nothing")) zAH)
 (zAt (zEo (zNa zOU (zAB tb.Shop "gone" (zAd 0))) (gT 2 (zAp (gN 1) (zAp (gN 2) zBP))))
 (zAt (zCo (dLM zB5 (zAB tb.Shop "past" (zAd 0)) (zAc (zD2 (zAc (zAd 1) (zAc (zAB tb.Shop "now" (zAd 0)) zAg))) zAg)))
 (zAQ tb.Shop "now" (zAd 0) (fun _=>(zAd 2))))))
def zCS:List Str:=["self","deed","stand"]
def zI4(tb:Tb):DSp:=fun xs O R Z=>∃(B:Om) (h:Sho),xs=[.ref h.q]∧ShAt tb B O h∧h.past.length<100000∧(h.gone=[]→Told1 zF1 tb O Z)∧∀init e,h.gone=init++[e]→∀O',Fr [h.q,h.ap,h.ag] O O'→ShAt tb B O' {h with c:=e.c,S:=e.S,gone:=init,past:=h.past++[⟨e.a,h.c,h.S⟩]}→R .non O'
theorem yAE(tb:Tb):∀xs O R Z,zI4 tb xs O R Z→zPE tb (zAC R Z) (zAr zCS xs) O:=by
 rintro _ O R Z ⟨B,h,rfl,H,hl,k1,k2⟩
 show zPE tb (zAC R Z) [some (.ref h.q),none,none] O
 unfold zPE
 refine zAz fun N hN=>?_
 dsimp! only[zAB,H.xG,zJ4]
 refine⟨h.ag,_,rfl,H.gn,True.intro,?_⟩
 rcases zHz h.gone with hp|⟨init,e,hp⟩
 ·rw[hp]
  dsimp! only[zAK]
  intro d hd
  exact FinX.here ((k1 hp).here hd)
 ·have k:=k2 init e hp
  rw[hp]
  rw[show((init++[e]).map zBJ).isEmpty=false from by simp]
  dsimp! only[]
  subst hN
  refine zAz fun N hN=>?_
  simp only[zEo,zNa,zAB,zAd,qJ]
  dsimp! only[H.xG]
  have gn':O h.ag=some (.lst ((init++[e]).map zBJ)):=by rw[←hp];exact H.gn
  have e1:((init++[e]).map zBJ)[((init++[e]).map zBJ).length-1]?=some (zBJ e):=by simp
  have e2:((init++[e]).map zBJ).dropLast=init.map zBJ:=by rw[qK,qr,qN,List.dropLast_concat]
  simp only[gn',e1,e2,zBJ]
  refine⟨rfl,rfl,?_⟩
  obtain⟨hapq,hagq⟩:=H.ne
  have o1:ShO tb (up O h.ag (.lst (init.map zBJ))) h.q h.dx h.c.p h.ap h.ag:=⟨(up_ne (ql hagq)).trans H.ob⟩
  have p1:(up O h.ag (.lst (init.map zBJ))) h.ag=some (.lst (init.map zBJ)):=up_same
  have g1:(up O h.ag (.lst (init.map zBJ))) h.ap=some (.lst (h.past.map zBJ)):=(up_ne H.pg).trans H.ps
  have fr1:Fr [h.q,h.ap,h.ag] O (up O h.ag (.lst (init.map zBJ))):=Fr.put (by simp)
  generalize up O h.ag (.lst (init.map zBJ))=O1 at o1 p1 g1 fr1⊢
  subst hN
  refine zAz fun N hN=>?_
  dsimp! only[zAB,o1.xP,o1.xN,g1]
  refine⟨True.intro,by rw[qd,zKA];omega,?_⟩
  have en:h.past.map zBJ++[D.tup [zHO e.a,.ref h.c.p]]=(h.past++[En.mk e.a h.c h.S]).map zBJ:=by rw[qK];rfl
  rw[en]
  have o2:ShO tb (up O1 h.ap (.lst ((h.past++[En.mk e.a h.c h.S]).map zBJ))) h.q h.dx h.c.p h.ap h.ag:=⟨(up_ne (ql hapq)).trans o1.ob⟩
  have p2:(up O1 h.ap (.lst ((h.past++[En.mk e.a h.c h.S]).map zBJ))) h.ag=some (.lst (init.map zBJ)):=(up_ne (ql H.pg)).trans p1
  have g2:(up O1 h.ap (.lst ((h.past++[En.mk e.a h.c h.S]).map zBJ))) h.ap=some (.lst ((h.past++[En.mk e.a h.c h.S]).map zBJ)):=up_same
  have fr2:Fr [h.q,h.ap,h.ag] O (up O1 h.ap (.lst ((h.past++[En.mk e.a h.c h.S]).map zBJ))):=fr1.trans (Fr.put (by simp))
  generalize up O1 h.ap (.lst ((h.past++[En.mk e.a h.c h.S]).map zBJ))=O2 at o2 p2 g2 fr2⊢
  subst hN
  dsimp! only[zAQ]
  refine⟨h.q,h.dx,zEx h.c.p h.ap h.ag,rfl,o2.ob,(show(3:Nat)<1000 by decide),?_⟩
  have he:=H.go e (by rw[hp];simp)
  refine Fin.here (k _ (fr2.trans (Fr.put (by simp))) ?_)
  refine⟨up_same,(up_ne hapq).trans g2,(up_ne hagq).trans p2,fun x o w=>?_,H.bq,H.bp,H.bg,he.1,he.2,fun z hz=>?_,fun z hz=>H.go z (by rw[hp];exact jX _ hz),H.pg,?_,?_⟩
  ·have nq:x≠h.q:=fun z=>by rw[z,H.bq] at w;cases w
   have np:x≠h.ag:=fun z=>by rw[z,H.bg] at w;cases w
   have ng:x≠h.ap:=fun z=>by rw[z,H.bp] at w;cases w
   rw[up_ne nq]
   exact fr2 x o (H.sb x o w) (by simp[nq,np,ng])
  ·rcases qD.mp hz with h1|h1
   ·exact H.pa z h1
   ·rw[qh] at h1
    subst h1
    exact⟨H.nw,H.ok⟩
  ·show(h.past++[_]).length≤100000
   rw[qL]
   exact hl
  ·have:=H.gl;rw[hp,qL] at this;exact qo (kI _ _) this
structure Out(B:Om)(h:Sho)(b:Addr):Prop where
 nb:B b=none
 nq:b≠h.q
 np:b≠h.ap
 ng:b≠h.ag
theorem ShAt.bst{tb:Tb}{B O O':Om}{h:Sho}{b:Addr}(H:ShAt tb B O h)(f:Out B h b)(s:Bst b O O'):ShAt tb B O' h:=H.fr fun a ha k=>by
 have n:a≠b:=fun z=>by
  subst z
  rcases k with k|k|k|k
  ·exact k f.nb
  ·exact f.nq k
  ·exact f.np k
  ·exact f.ng k
 cases e:O a with
 |none=>exact absurd e ha
 |some o=>exact s.2 a o n e
section
variable {tb:Tb}{B O:Om}{h:Sho}
theorem ShAt.mBars(H:ShAt tb B O h){P:Addr→Prop}:(∃(a dx:Addr) (fs:List (Str×D)),D.ref h.q=D.ref a∧O a=some (.ins tb.Shop dx fs)∧fs.lookup ("bars":Str)=none∧P a)=P h.q:=zKT H.ob rfl
theorem ShAt.mDo(H:ShAt tb B O h){P:Addr→Prop}:(∃(a dx:Addr) (fs:List (Str×D)),D.ref h.q=D.ref a∧O a=some (.ins tb.Shop dx fs)∧fs.lookup ("do":Str)=none∧P a)=P h.q:=zKT H.ob rfl
theorem ShAt.mUndo(H:ShAt tb B O h){P:Addr→Prop}:(∃(a dx:Addr) (fs:List (Str×D)),D.ref h.q=D.ref a∧O a=some (.ins tb.Shop dx fs)∧fs.lookup ("undo":Str)=none∧P a)=P h.q:=zKT H.ob rfl
theorem ShAt.mRedo(H:ShAt tb B O h){P:Addr→Prop}:(∃(a dx:Addr) (fs:List (Str×D)),D.ref h.q=D.ref a∧O a=some (.ins tb.Shop dx fs)∧fs.lookup ("redo":Str)=none∧P a)=P h.q:=zKT H.ob rfl
theorem ShAt.mDeeds(H:ShAt tb B O h){P:Addr→Prop}:(∃(a dx:Addr) (fs:List (Str×D)),D.ref h.q=D.ref a∧O a=some (.ins tb.Shop dx fs)∧fs.lookup ("deeds":Str)=none∧P a)=P h.q:=zKT H.ob rfl
end
structure Mcl where
 m:Addr
 lo:Addr
 dm:Addr
 ds:Addr
 db:Addr
def sK(x:String):Key:=.inr (PySem.Str.ofString x)
def moE(c:Mcl)(S:PSt):List (Key×D):=[(sK "order",.ref c.lo),(sK "music",.ref c.dm),(sK "spans",.ref c.ds),(sK "bound",.ref c.db),(sK "sheet",zKC S.sheet),(sK "fresh",frD S)]
structure MoAt(O:Om)(c:Mcl)(S:PSt)(B:List (Int×Str)):Prop where
 ob:O c.m=some (.dK (moE c S))
 ord:O c.lo=some (.lst (S.order.map D.int))
 mus:O c.dm=some (.dK (dk zDM S.music))
 spa:O c.ds=some (.dK (dk zEu S.spans))
 bnd:O c.db=some (.dK (dk D.str B))
 wd:∀n,(lkI B n).getD zEk=zEr S n
 n1:c.dm≠c.ds
 n2:c.dm≠c.db
 n3:c.ds≠c.db
 m1:c.m≠c.dm
 m2:c.m≠c.ds
 m3:c.m≠c.db
section
variable {c:Mcl}{S:PSt}{O O':Om}{B:List (Int×Str)}
theorem MoAt.ne(h:MoAt O c S B):c.lo≠c.m∧c.lo≠c.dm∧c.lo≠c.ds∧c.lo≠c.db:=by
 refine⟨fun z=>?_,fun z=>?_,fun z=>?_,fun z=>?_⟩
 ·have:=h.ord;rw[z,h.ob] at this;cases this
 ·have:=h.ord;rw[z,h.mus] at this;cases this
 ·have:=h.ord;rw[z,h.spa] at this;cases this
 ·have:=h.ord;rw[z,h.bnd] at this;cases this
def Mcl.own(c:Mcl):List Addr:=[c.m,c.lo,c.dm,c.ds,c.db]
theorem MoAt.keep(h:MoAt O c S B)(s:∀a∈c.own,∀o,O a=some o→O' a=some o):MoAt O' c S B:=
 ⟨s _ (by simp[Mcl.own]) _ h.ob,s _ (by simp[Mcl.own]) _ h.ord,s _ (by simp[Mcl.own]) _ h.mus,s _ (by simp[Mcl.own]) _ h.spa,s _ (by simp[Mcl.own]) _ h.bnd,h.wd,h.n1,h.n2,h.n3,h.m1,h.m2,h.m3⟩
theorem MoAt.fr{l:List Addr}(h:MoAt O c S B)(s:Fr l O O')(n:∀a∈c.own,a∉l):MoAt O' c S B:=h.keep fun a ha o e=>s a o e (n a ha)
theorem MoAt.bst{b:Addr}(h:MoAt O c S B)(s:Bst b O O')(n:b∉c.own):MoAt O' c S B:=h.keep fun a ha o e=>s.2 a o (fun z=>n (z▸ha)) e
theorem MoAt.there(h:MoAt O c S B):∀a∈c.own,O a≠none:=fun a ha=>by
 simp only[Mcl.own,qj,qt,qW] at ha
 rcases ha with rfl|rfl|rfl|rfl|rfl
 ·rw[h.ob];exact fun z=>nomatch z
 ·rw[h.ord];exact fun z=>nomatch z
 ·rw[h.mus];exact fun z=>nomatch z
 ·rw[h.spa];exact fun z=>nomatch z
 ·rw[h.bnd];exact fun z=>nomatch z
theorem MoAt.upO(h:MoAt O c S B)(l:List Int):MoAt (up O c.lo (.lst (l.map D.int))) c {S with order:=l} B:=by
 obtain⟨e1,e2,e3,e4⟩:=h.ne
 exact⟨by rw[up_ne (ql e1)];exact h.ob,up_same,by rw[up_ne (ql e2)];exact h.mus,by rw[up_ne (ql e3)];exact h.spa,by rw[up_ne (ql e4)];exact h.bnd,h.wd,h.n1,h.n2,h.n3,h.m1,h.m2,h.m3⟩
theorem MoAt.upM(h:MoAt O c S B)(l:List (Int×List Mom)):MoAt (up O c.dm (.dK (dk zDM l))) c {S with music:=l} B:=by
 obtain⟨e1,e2,e3,e4⟩:=h.ne
 exact⟨by rw[up_ne h.m1];exact h.ob,by rw[up_ne e2];exact h.ord,up_same,by rw[up_ne (ql h.n1)];exact h.spa,by rw[up_ne (ql h.n2)];exact h.bnd,h.wd,h.n1,h.n2,h.n3,h.m1,h.m2,h.m3⟩
theorem MoAt.upP(h:MoAt O c S B)(l:List (Int×Spn)):MoAt (up O c.ds (.dK (dk zEu l))) c {S with spans:=l} B:=by
 obtain⟨e1,e2,e3,e4⟩:=h.ne
 exact⟨by rw[up_ne h.m2];exact h.ob,by rw[up_ne e3];exact h.ord,by rw[up_ne h.n1];exact h.mus,up_same,by rw[up_ne (ql h.n3)];exact h.bnd,h.wd,h.n1,h.n2,h.n3,h.m1,h.m2,h.m3⟩
theorem MoAt.upF(h:MoAt O c S B)(a b:Int):MoAt (up O c.m (.dK (moE c {S with f0:=a,f1:=b}))) c {S with f0:=a,f1:=b} B:=by
 obtain⟨e1,e2,e3,e4⟩:=h.ne
 exact⟨up_same,by rw[up_ne e1];exact h.ord,by rw[up_ne (ql h.m1)];exact h.mus,by rw[up_ne (ql h.m2)];exact h.spa,by rw[up_ne (ql h.m3)];exact h.bnd,h.wd,h.n1,h.n2,h.n3,h.m1,h.m2,h.m3⟩
theorem MoAt.upS(h:MoAt O c S B)(s:Sht):MoAt (up O c.m (.dK (moE c {S with sheet:=s}))) c {S with sheet:=s} B:=by
 obtain⟨e1,e2,e3,e4⟩:=h.ne
 exact⟨up_same,by rw[up_ne e1];exact h.ord,by rw[up_ne (ql h.m1)];exact h.mus,by rw[up_ne (ql h.m2)];exact h.spa,by rw[up_ne (ql h.m3)];exact h.bnd,h.wd,h.n1,h.n2,h.n3,h.m1,h.m2,h.m3⟩
theorem MoAt.upB(h:MoAt O c S B)(B' L:List (Int×Str))(w:∀n,(lkI B' n).getD zEk=zEr {S with bound:=L} n):MoAt (up O c.db (.dK (dk D.str B'))) c {S with bound:=L} B':=by
 obtain⟨e1,e2,e3,e4⟩:=h.ne
 exact⟨by rw[up_ne h.m3];exact h.ob,by rw[up_ne e4];exact h.ord,by rw[up_ne h.n2];exact h.mus,by rw[up_ne h.n3];exact h.spa,up_same,w,h.n1,h.n2,h.n3,h.m1,h.m2,h.m3⟩
end
def zUR(S:PSt)(n:Int):D:=zDM ((lkI S.music n).getD [])
def zVc(S:PSt)(n:Int):D:=zEu ((lkI S.spans n).getD ⟨0,(0,0),(0,0),0⟩)
def zLO(S:PSt):D:=.lst (S.order.map (zUR S))
theorem zRc{S:PSt}{n:Int}(h:inM S n=true):valD (dk zDM S.music) (.inl n)=some (zUR S n):=by
 obtain⟨m,e⟩:=qM.mp h
 unfold zUR
 rw[zCq,e];rfl
theorem zQa{S:PSt}{n:Int}(h:(lkI S.spans n).isSome=true):valD (dk zEu S.spans) (.inl n)=some (zVc S n):=by
 obtain⟨m,e⟩:=qM.mp h
 unfold zVc
 rw[zCq,e];rfl
def zYF(tb:Tb):DS:=
 (zBd (zHE (zC3 (zAB tb.Stand "order" (zAB tb.Shop "now" (zAd 0)))) (gN 1) zFF (dOp zDj (zAB tb.Stand "music" (zAB tb.Shop "now" (zAd 0))) (zAd 1)) [1]))
def zY0:List Str:=["self","number"]
def zME(tb:Tb):DSp:=fun xs O R _=>∃(B:Om) (h:Sho),xs=[.ref h.q]∧ShAt tb B O h∧R (zLO h.S) O
theorem yB2(tb:Tb):∀xs O R Z,zME tb xs O R Z→zYF tb (zBw R) (zAr zY0 xs) O:=by
 rintro _ O R Z ⟨B,h,rfl,H,k⟩
 show zYF tb (zBw R) [some (.ref h.q),none] O
 unfold zYF
 simpa! only[zHE,zAB,H.xN,H.now.xO,H.now.ord]
 refine zBV (f:=D.int) (as:=h.S.order) (zUR h.S) H.now.ord (by have:=H.ok.ol;omega) (fun n hn N acc hacc kk=>?_) ?_
 ·have hm:inM h.S n=true:=(H.ok.mus n).mpr hn
  dsimp! only[zFF,zAB,H.xN,H.now.xM,zDj,zBX,H.now.mus,DL.keyOf,zRc hm]
  exact⟨hacc,kk⟩
 ·exact Fin.here k
def zPK(tb:Tb):DS:=
 (zAt (zBK (zAo (dOp (zEm fun b=>!b) (zAd 1) (zAB tb.Stand "spans" (zAB tb.Shop "now" (zAd 0))))) (zB4 tb.NoMark (PySem.Str.ofString "no mark") (zAd 1)) zAH)
 (zBd (dOp zDj (zAB tb.Stand "spans" (zAB tb.Shop "now" (zAd 0))) (zAd 1))))
def zCT:List Str:=["self","number"]
def zHj(tb:Tb):DSp:=fun xs O R Z=>∃(B:Om) (h:Sho) (n:Int),xs=[.ref h.q,.int n]∧ShAt tb B O h∧((lkI h.S.spans n).isSome=true→R (zVc h.S n) O)∧((lkI h.S.spans n).isSome=false→Told1 (zTO n) tb O Z)
theorem yAK(tb:Tb):∀xs O R Z,zHj tb xs O R Z→zPK tb (zAC R Z) (zAr zCT xs) O:=by
 rintro _ O R Z ⟨B,h,n,rfl,H,k1,k2⟩
 show zPK tb (zAC R Z) [some (.ref h.q),some (.int n)] O
 unfold zPK
 refine zAz fun N hN=>?_;dsimp! only[zAB,H.xN,H.now.xP,H.now.spa,zCq,jW]
 cases e:(lkI h.S.spans n).isSome with
 |true=>
  simp only[jf,qk,qX]
  subst hN
  dsimp! only[zAB,H.xN,H.now.xP,zDj,zBX,H.now.spa,DL.keyOf,zQa e]
  exact Fin.here (k1 e)
 |false=>
  dsimp! only[zB4]
  intro d hd
  exact FinX.here ((k2 e).here hd)
def Num(n:Int):Prop:=-1≤n∧n≤999999999
theorem zUG{O:Om}{b a:Addr}{ns:List Int}(hb:Bag O b)(h:O a=some (.lst (ns.map D.int))):a≠b:=fun z=>by
 obtain⟨c,_,_,_,_,_,e,_⟩:=hb
 rw[←z,h] at e
 unfold zRI at e
 have e:=DO.lst.inj (jb e)
 cases ns with
 |nil=>cases e
 |cons n r=>cases(kN e).1
theorem MoAt.bag{c:Mcl}{S:PSt}{O:Om}{B:List (Int×Str)}{b:Addr}(h:MoAt O c S B)(hb:Bag O b):b∉c.own:=fun z=>by
 obtain⟨q,_,_,_,_,_,e,_⟩:=hb
 simp only[Mcl.own,qj,qt,qW] at z
 rcases z with rfl|rfl|rfl|rfl|rfl
 ·rw[h.ob] at e;cases e
 ·exact zUG ⟨q,_,_,_,_,_,e,by assumption⟩ h.ord rfl
 ·rw[h.mus] at e;cases e
 ·rw[h.spa] at e;cases e
 ·rw[h.bnd] at e;cases e
theorem PSt.Ok.num{S:PSt}(h:S.Ok)(hf:S.f0≤999999999):∀n∈S.order,Num n:=fun n hn=>by
 have:=h.o0 n hn
 unfold Num
 omega
def Nin(i:Int):Prop:=i.natAbs<10 ^ 9
instance (i:Int):Decidable (Nin i):=inferInstanceAs (Decidable (i.natAbs<10 ^ 9))
def SmO(m:Mom):Prop:=(Nin m.b∧Nin m.w)∧∀h∈m.hs,Nin h.st∧Nin h.sp
def LooseO(m:Mom):Prop:=m.hs.length≤8∧(∀h∈m.hs,h.sg∈signs)∧SmO m
def zMx(ms:List Mom):Prop:=ms.length≤13∧∀m∈ms,LooseO m
theorem GM.smo{m:Mom}(g:GM m):SmO m:=by
 unfold SmO Nin
 refine⟨⟨by have:=g.b0;have:=g.b1;omega,by have:=g.w0;have:=g.w1;omega⟩,fun h hh=>?_⟩
 have k:=g.hs.all h hh
 exact⟨by have:=k.st0;have:=k.st1;omega,by have:=k.sp0;have:=k.sp1;omega⟩
theorem GB.loose{ms:List Mom}(h:GB ms):zMx ms:=⟨by have:=h.l1;omega,fun m hm=>⟨(h.all m hm).hs.len,fun x hx=>((h.all m hm).hs.all x hx).sg,(h.all m hm).smo⟩⟩
theorem GB.take{ms:List Mom}(h:GB ms){n:Nat}(h0:1≤n):GB (ms.take n):=⟨by rw[kg];have:=h.l0;omega,by rw[kg];have:=h.l1;omega,fun m hm=>h.all m (jY hm)⟩
def yA8(b:Bad):Str:=match b.fs with
 |[(_,.str m)]=>m
 |[(_,.str m),(_,.int n)]=>m++PySem.Str.ofString " "++(toString n:Str)
 |[(_,.int n),(_,.str m)]=>m++PySem.Str.ofString " "++(toString n:Str)
 |[(_,.non),(_,.str m)]=>m++PySem.Str.ofString " "++PySem.Str.ofString "None"
 |_=>PySem.Str.ofString ""
theorem Num.log{n:Int}(h:Num n):n.natAbs.log2<1920:=by
 unfold Num at h
 exact qQ (log2_lt (a:=62) (by decide) (by omega)) (by decide)
theorem zP2{i:Int}{k:Nat}(hk:0<k)(h:i.natAbs<2 ^ k):(PySem.Str.ofString (toString i)).length≤k+1:=by
 rw[PySem.ofString_length]
 cases i with
 |ofNat n=>
  have:=PySem.nat_repr_length_le (n:=n) hk h
  show(Nat.repr n).length≤_
  omega
 |negSucc n=>
  have:=PySem.nat_repr_length_le (n:=n+1) hk (by simpa using h)
  show("-"++Nat.repr (n+1)).length≤_
  rw[String.length_append]
  have e:"-".length=1:=by decide
  omega
def zPc:Deed→Prop
 |.bar a m=>True∧zMx m
 |.change n m=>Num n∧zMx m
 |.cut n=>Num n
 |.move n a=>Num n
 |.mark s=>(Num s.b.1∧Num s.b.2)∧(Num s.e.1∧Num s.e.2)
 |.wipe n=>Num n
 |.bound n w=>Num n∧(PyData.str w).canLay0=true
 |.paper s=>True
theorem zSe{A:Type}{k:Str}{o:A}:∀l:List (Str×A),l.lookup k=some o→(k,o)∈l:=by
 intro l
 induction l with
 |nil=>intro z;cases z
 |cons p t ih=>
  intro z
  rw[List.lookup_cons] at z
  by_cases hb:k=p.1
  ·subst hb
   rw[kc] at z
   cases z
   exact qz
  ·have eb:(k==p.1)=false:=by simpa using hb
   rw[eb] at z
   exact qA _ (ih z)
def zSK:Ask→Prop
 |.one d=>zPc d
 |.odd _=>True
theorem MoAt.sb{c:Mcl}{S:PSt}{O O':Om}{B:List (Int×Str)}(h:MoAt O c S B)(s:Sb O O'):MoAt O' c S B:=h.keep fun a _ o e=>s a o e
theorem Fr.own{c:Mcl}{O:Om}{p:Addr}{o:DO}(h:p∈c.own):Fr c.own O (up O p o):=Fr.put h
def yAl(n:Int):Bad:=zZf Tb.NoLine (PySem.Str.ofString "no line") n
def zZe(y:D):Bad:=⟨Tb.NoBreak,[("tight",y),("says",.str (PySem.Str.ofString "no break"))]⟩
inductive BKn:Bad→Prop
 |paper:BKn zDN
 |place:BKn zLN
 |full:BKn zOB
 |staff:BKn zNy
 |span:BKn zSR
 |thick:BKn zNq
 |word:BKn zPs
 |same:BKn zTc
 |deed:BKn zFc
 |nothing:BKn zF1
 |bar (n:Int):n.natAbs.log2<1920→(PySem.Str.ofString (toString n)).length≤1000→BKn (zIm n)
 |mom (n:Int):n.natAbs.log2<1920→(PySem.Str.ofString (toString n)).length≤1000→BKn (yAj n)
 |mark (n:Int):n.natAbs.log2<1920→(PySem.Str.ofString (toString n)).length≤1000→BKn (zTO n)
 |bad (k:Nat):k≤1000→BKn (zUX k)
 |line (n:Int):n.natAbs.log2<1920→(PySem.Str.ofString (toString n)).length≤1000→BKn (yAl n)
 |brk0:BKn (zZe .non)
 |brk (k:Nat):k≤1000→BKn (zZe (.int (k:Nat)))
theorem zYe{F:DEnds}{k:DCl}{r:List DCl}{c:Value}{d:Option Addr}{g:Gm}{O:Om}(h:k.cat c false)(n:zUv F r c d g O):zUv F (k::r) c d g O:=⟨false,h,(fun z=>by cases z),fun _=>n⟩
theorem zIH{F:DEnds}{k:DCl}{r:List DCl}{c:Value}{d:Option Addr}{g:Gm}{O:Om}(h:k.cat c true)(n:∀a,O a=none→k.ts a c d (F.calm k.nm) (zW7 g a k.nm) O):zUv F (k::r) c d g O:=⟨true,h,fun _=>n,(fun z=>by cases z)⟩
inductive BKd (tb:Tb) (b:Bad):Prop
 |z (m:Str):b.fs=[(("says":Str),D.str m)]→(b.cls tb=tb.BadPaper∨b.cls tb=tb.BadPlace∨b.cls tb=tb.BadStaff∨b.cls tb=tb.BadSpan∨b.cls tb=tb.BadThick∨b.cls tb=tb.BadWord∨b.cls tb=tb.Same∨b.cls tb=tb.Full∨b.cls tb=tb.BadDeed∨b.cls tb=tb.Nothing)→yA8 b=m→BKd tb b
 |l (m:Str) (n:Int):b.fs=[(("says":Str),D.str m),(("number":Str),D.int n)]→m.length≤1000→n.natAbs.log2<1920→(PySem.Str.ofString (toString n)).length≤1000→(b.cls tb=tb.NoBar∨b.cls tb=tb.NoMoment∨b.cls tb=tb.NoMark∨b.cls tb=tb.NoLine)→yA8 b=m++PySem.Str.ofString " "++(toString n:Str)→BKd tb b
 |b (k:Nat):k≤1000→b=zUX k→BKd tb b
 |k (y:D):b=zZe y→(y=.non∨∃k:Nat,k≤1000∧y=.int (k:Nat))→BKd tb b
theorem BKn.kd{b:Bad}(tb:Tb)(h:BKn b):BKd tb b:=by
 cases h with
 |paper=>exact .z _ rfl (by simp[zDN,zHN]) rfl
 |place=>exact .z _ rfl (by simp[zLN,zHN]) rfl
 |full=>exact .z _ rfl (by simp[zOB,zHN]) rfl
 |staff=>exact .z _ rfl (by simp[zNy,zHN]) rfl
 |span=>exact .z _ rfl (by simp[zSR,zHN]) rfl
 |thick=>exact .z _ rfl (by simp[zNq,zHN]) rfl
 |word=>exact .z _ rfl (by simp[zPs,zHN]) rfl
 |same=>exact .z _ rfl (by simp[zTc,zHN]) rfl
 |deed=>exact .z _ rfl (by simp[zFc,zHN]) rfl
 |nothing=>exact .z _ rfl (by simp[zF1,zHN]) rfl
 |bar n h1 h2=>exact .l _ n rfl (by decide) h1 h2 (.inl rfl) rfl
 |mom n h1 h2=>exact .l _ n rfl (by decide) h1 h2 (.inr (.inl rfl)) rfl
 |mark n h1 h2=>exact .l _ n rfl (by decide) h1 h2 (.inr (.inr (.inl rfl))) rfl
 |line n h1 h2=>exact .l _ n rfl (by decide) h1 h2 (.inr (.inr (.inr rfl))) rfl
 |brk0=>exact .k _ rfl (.inl rfl)
 |brk k hk=>exact .k _ rfl (.inr ⟨k,hk,rfl⟩)
 |bad k hk=>exact .b k hk rfl
section
open PySem.W (AllAlike Sortable dataLe alike alikeAll)
def zRt:List Str:=[zGx,zCD,zEk,PySem.Str.ofString "Must",PySem.Str.ofString ""]
def yBq:Deed→Prop
 |.bar a _=>Nin a
 |.move _ a=>Nin a
 |.mark s=>Nin s.on∧Nin s.th
 |.bound _ w=>w∈zRt
 |.paper s=>(Nin s.w∧Nin s.l)∧Nin s.f∧Nin s.t∧Nin s.g
 |_=>True
def DrawnA:Ask→Prop
 |.one d=>DOk d∧zPc d∧yBq d
 |.odd ys=>∃n:Int,Num n∧ys=[zHh "cut",.int n,.int 0]
theorem DrawnA.ok{a:Ask}(h:DrawnA a):AOk a∧zSK a:=by
 cases a with
 |one d=>exact⟨h.1,h.2.1⟩
 |odd ys=>
  obtain⟨n,_,rfl⟩:=h
  refine⟨⟨fun y r z=>?_,.inl rfl⟩,trivial⟩
  cases z
  exact⟨_,rfl,rfl⟩
end
section
variable {tb:Tb}{B O:Om}{h:Sho}
theorem ShAt.mPiece(H:ShAt tb B O h){P:Addr→Prop}:(∃(a dx:Addr) (fs:List (Str×D)),D.ref h.q=D.ref a∧O a=some (.ins tb.Shop dx fs)∧fs.lookup ("piece":Str)=none∧P a)=P h.q:=zKT H.ob rfl
theorem ShAt.mMark(H:ShAt tb B O h){P:Addr→Prop}:(∃(a dx:Addr) (fs:List (Str×D)),D.ref h.q=D.ref a∧O a=some (.ins tb.Shop dx fs)∧fs.lookup ("mark":Str)=none∧P a)=P h.q:=zKT H.ob rfl
end
theorem Bag.frJ{O O':Om}{b cb:Addr}{l:List Addr}(h:Bag O b)(e:zBy O b=some cb)(s:Fr l O O')(h1:b∉l)(h2:cb∉l):Bag O' b∧zBy O' b=some cb:=by
 obtain⟨c,cells,pos,rem,seed,cnt,hb,hc,hcb,hp,hr,hs,hs2⟩:=h
 have ec:c=cb:=by rw[zB6 hb] at e;exact jb e
 subst ec
 have hb':=s _ _ hb h1
 exact⟨⟨c,cells,pos,rem,seed,cnt,hb',s _ _ hc h2,hcb,hp,hr,hs,hs2⟩,zB6 hb'⟩
structure J(tb:Tb)(b cb q:Addr)(c:Mcl)(ts:List (Addr×Str))(t:Nat)(B:Om)(h:Sho)(Sm:PSt)(Bm:List (Int×Str))(O:Om):Prop where
 H:ShAt tb B O h
 M:MoAt O c Sm Bm
 ok:Sm.Ok
 bag:Bag O b
 cel:zBy O b=some cb
 hq:h.q=q
 out:∀m,(m=b∨m=cb∨m∈c.own)→Out B h m
 nc:cb∉c.own
 f0:h.S.f0≤1+(t:Nat)∧Sm.f0≤1+(t:Nat)
 f1:h.S.f1≤1+(t:Nat)∧Sm.f1≤1+(t:Nat)
 pl:h.past.length≤t
 bl:Bm.length≤t
 tabs:∀p∈ts,O p.1=some (.tab p.2)
section
variable {tb:Tb}{b cb q:Addr}{c:Mcl}{ts:List (Addr×Str)}{t:Nat}{B:Om}{h:Sho}{Sm:PSt}{Bm:List (Int×Str)}{O O':Om}
theorem J.mono(I:J tb b cb q c ts t B h Sm Bm O){t':Nat}(l:t≤t'):J tb b cb q c ts t' B h Sm Bm O:=
 {I with f0:=⟨by have:=I.f0.1;omega,by have:=I.f0.2;omega⟩,f1:=⟨by have:=I.f1.1;omega,by have:=I.f1.2;omega⟩,pl:=qo I.pl l,bl:=qo I.bl l}
theorem J.bst(I:J tb b cb q c ts t B h Sm Bm O)(s:Bst b O O'):J tb b cb q c ts t B h Sm Bm O':=
 {I with H:=I.H.bst (I.out b (.inl rfl)) s,M:=I.M.bst s (I.M.bag I.bag),bag:=s.1,cel:=s.cell.trans I.cel,tabs:=fun p hp=>s.2 _ _ (fun z=>by
   obtain⟨_,_,_,_,_,_,_,w,_⟩:=I.bag.cell
   have:=I.tabs p hp
   rw[z,w] at this
   cases this) (I.tabs p hp)}
theorem J.sb(I:J tb b cb q c ts t B h Sm Bm O)(s:Sb O O'):J tb b cb q c ts t B h Sm Bm O':=by
 obtain⟨g1,g2⟩:=I.bag.frJ I.cel (l:=[]) (Fr.of s) (by simp) (by simp)
 exact {I with H:=I.H.keep s,M:=I.M.sb s,bag:=g1,cel:=g2,tabs:=fun p hp=>s _ _ (I.tabs p hp)}
end
theorem J.start{tb:Tb}{b cb q:Addr}{c:Mcl}{ts:List (Addr×Str)}{B O2 O3:Om}{h:Sho}{s:Sht}(H:ShAt tb B O2 h)(bag:Bag O2 b)(cel:zBy O2 b=some cb)(ob:Out B h b)(oc:Out B h cb)(tabs:∀p∈ts,O2 p.1=some (.tab p.2))(hq:h.q=q)(hS:h.S=⟨s,[],[],[],[],1,1⟩)(hp:h.past=[])
  (s3:Sb O2 O3) (new:∀a∈c.own,O2 a=none) (M:MoAt O3 c ⟨s,[],[],[],[],1,1⟩ []):J tb b cb q c ts 0 B h h.S [] O3:=by
 obtain⟨g1,g2⟩:=bag.frJ cel (l:=[]) (Fr.of s3) (by simp) (by simp)
 have fr0:∀m,O2 m=none→Out B h m:=fun m e=>⟨zKR H.sb e,ql (zAb e H.ob),ql (zAb e H.ps),ql (zAb e H.gn)⟩
 refine⟨H.keep s3,by rw[hS];exact M,H.ok,g1,g2,hq,fun m hm=>?_,fun z=>?_,⟨by rw[hS];exact jM _,by rw[hS];exact jM _⟩,⟨by rw[hS];exact jM _,by rw[hS];exact jM _⟩,by rw[hp];exact qG _,qG _,fun p hp=>s3 _ _ (tabs p hp)⟩
 ·rcases hm with rfl|rfl|hm
  ·exact ob
  ·exact oc
  ·exact fr0 m (new m hm)
 ·have:=new cb z
  obtain⟨c2,_,_,_,_,_,w0,_,w⟩:=bag.cell
  rw[cel] at w0
  cases w0
  rw[this] at w
  cases w
structure Bes(B:Om)(h:Sho)(b cb:Addr)(c:Mcl)(ts:List (Addr×Str))(p:Addr):Prop where
 o:Out B h p
 c:p∉c.own
 b:p≠b
 cb:p≠cb
 ts:∀x∈ts,x.1≠p
theorem J.upB{tb:Tb}{b cb q:Addr}{c:Mcl}{ts:List (Addr×Str)}{t:Nat}{B:Om}{h:Sho}{Sm:PSt}{Bm:List (Int×Str)}{O:Om}(I:J tb b cb q c ts t B h Sm Bm O){p:Addr}{o:DO}(s:Bes B h b cb c ts p):J tb b cb q c ts t B h Sm Bm (up O p o):=by
 obtain⟨g1,g2⟩:=I.bag.frJ (O':=up O p o) I.cel (l:=[p]) (Fr.put (by simp)) (by simpa using ql s.b) (by simpa using ql s.cb)
 refine {I with H:=I.H.fr fun x hx hk=>up_ne fun z=>?_,M:=I.M.fr (l:=[p]) (Fr.put (by simp)) fun a ha z=>?_,bag:=g1,cel:=g2,tabs:=fun x hx=>(up_ne (s.ts x hx)).trans (I.tabs x hx)}
 ·subst z
  rcases hk with w|w|w|w
  ·exact w s.o.nb
  ·exact s.o.nq w
  ·exact s.o.np w
  ·exact s.o.ng w
 ·rw[qh.mp z] at ha
  exact s.c ha
structure Cmp where
 own:Addr→Prop
 dep:Addr→Prop
 at_:Om→Prop
 keep:∀O O',at_ O→(∀a,dep a→O' a=O a)→at_ O'
structure Cmp.In(x:Cmp)(O:Om):Prop where
 at_:x.at_ O
 sub:∀a,x.own a→x.dep a
 th:∀a,x.dep a→O a≠none
structure Sys(L:List Cmp)(O:Om):Prop where
 i:∀x∈L,x.In O
 sep:∀(i j:Nat) x y,i≠j→L[i]?=some x→L[j]?=some y→∀a,x.own a→¬y.dep a
section
variable {L:List Cmp}{O O':Om}{x x' y:Cmp}{i j:Nat}
theorem Sys.get(C:Sys L O)(h:L[i]?=some x):x.at_ O:=(C.i x (qI h)).at_
theorem Sys.sb(C:Sys L O)(s:Sb O O'):Sys L O':=by
 have eq:∀a,O a≠none→O' a=O a:=fun a h=>by
  cases e:O a with
  |none=>exact absurd e h
  |some o=>exact s a o e
 refine⟨fun x hx=>?_,C.sep⟩
 have k:=C.i x hx
 exact⟨x.keep _ _ k.at_ fun a ha=>eq a (k.th a ha),k.sub,fun a ha=>by rw[eq a (k.th a ha)];exact k.th a ha⟩
theorem Sys.step(C:Sys L O)(h:L[i]?=some x)(fr:∀a,O a≠none→¬x.own a→O' a=O a)(k:x'.In O')(o:∀a,O a≠none→x'.own a→x.own a)(d:∀a,O a≠none→x'.dep a→x.dep a):Sys (L.set i x') O':=by
 have hi:i<L.length:=(qf.mp h).1
 have oth:∀j y,i≠j→L[j]?=some y→y.In O':=fun j y n hy=>by
  have q:=C.i y (qI hy)
  have e:∀a,y.dep a→O' a=O a:=fun a ha=>fr a (q.th a ha) fun z=>C.sep i j x y n h hy a z ha
  exact⟨y.keep _ _ q.at_ e,q.sub,fun a ha=>by rw[e a ha];exact q.th a ha⟩
 have get:∀j y,(L.set i x')[j]?=some y→(j=i∧y=x')∨(i≠j∧L[j]?=some y):=fun j y hy=>by
  by_cases n:i=j
  ·subst n
   rw[List.getElem?_set_self hi] at hy
   exact .inl ⟨rfl,(jb hy).symm⟩
  ·rw[List.getElem?_set_ne n] at hy
   exact .inr ⟨n,hy⟩
 refine⟨fun y hy=>?_,fun a b u v n hu hv c hc hd=>?_⟩
 ·obtain⟨j,hj⟩:=List.mem_iff_getElem?.mp hy
  rcases get j y hj with⟨rfl,rfl⟩|⟨n,hj⟩
  ·exact k
  ·exact oth j y n hj
 ·rcases get a u hu with⟨ea,eu⟩|⟨na,hu'⟩
  ·rcases get b v hv with⟨eb,ev⟩|⟨nb,hv'⟩
   ·exact n (ea.trans eb.symm)
   ·have q:=C.i v (qI hv')
    rw[eu] at hc
    exact C.sep i b x v nb h hv' c (o c (q.th c hd) hc) hd
  ·have q:=C.i u (qI hu')
   have th:=q.th c (q.sub c hc)
   rcases get b v hv with⟨eb,ev⟩|⟨nb,hv'⟩
   ·rw[ev] at hd
    exact C.sep a i u x (ql na) hu' h c hc (d c th hd)
   ·exact C.sep a b u v n hu' hv' c hc hd
theorem Sys.cons(C:Sys L O)(k:x.In O)(s1:∀y∈L,∀a,x.own a→¬y.dep a)(s2:∀y∈L,∀a,y.own a→¬x.dep a):Sys (x::L) O:=by
 refine⟨fun y hy=>?_,fun a b u v n hu hv c hc hd=>?_⟩
 ·rcases qj.mp hy with rfl|hy
  ·exact k
  ·exact C.i y hy
 ·cases a with
  |zero=>
   cases hu
   cases b with
   |zero=>exact n rfl
   |succ b=>
    rw[qB] at hv
    exact s1 v (qI hv) c hc hd
  |succ a=>
   rw[qB] at hu
   cases b with
   |zero=>
    cases hv
    exact s2 u (qI hu) c hc hd
   |succ b=>
    rw[qB] at hv
    exact C.sep a b u v (fun z=>n (by rw[z])) hu hv c hc hd
theorem Sys.add(C:Sys L O)(s:Sb O O')(k:x.In O')(o:∀a,x.own a→O a=none)(d:∀a,O a≠none→x.dep a→∀y∈L,¬y.own a):Sys (x::L) O':=by
 refine(C.sb s).cons k (fun y hy a ha hd=>(C.i y hy).th a hd (o a ha)) fun y hy a ha hd=>d a ((C.i y hy).th a ((C.i y hy).sub a ha)) hd y hy ha
theorem Sys.tail(C:Sys (x::L) O):Sys L O:=⟨fun y hy=>C.i y (qA _ hy),fun i j u v n hu hv=>C.sep (i+1) (j+1) u v (fun z=>n (Nat.succ.inj z)) (by rw[qB];exact hu) (by rw[qB];exact hv)⟩
theorem Sys.nil:Sys [] O:=⟨fun x hx=>(nomatch hx),fun i j u v n hu=>(by simp at hu)⟩
end
theorem Bag.eqC{O O':Om}{b cb:Addr}(h:Bag O b)(e:zBy O b=some cb)(hb:O' b=O b)(hc:O' cb=O cb):Bag O' b∧zBy O' b=some cb:=by
 obtain⟨c,cells,pos,rem,seed,cnt,h1,h2,hcb,hp,hr,hs,hs2⟩:=h
 have ec:c=cb:=by rw[zB6 h1] at e;exact jb e
 subst ec
 exact⟨⟨c,cells,pos,rem,seed,cnt,hb.trans h1,hc.trans h2,hcb,hp,hr,hs,hs2⟩,zB6 (hb.trans h1)⟩
def zRH(b cb:Addr):Cmp:=⟨fun a=>a=b∨a=cb,fun a=>a=b∨a=cb,fun O=>Bag O b∧zBy O b=some cb,fun O O' h e=>h.1.eqC h.2 (e b (.inl rfl)) (e cb (.inr rfl))⟩
def zUD(ts:List (Addr×Str)):Cmp:=⟨fun _=>False,fun a=>∃s,(a,s)∈ts,fun O=>∀p∈ts,O p.1=some (.tab p.2),fun O O' h e p hp=>(e p.1 ⟨p.2,hp⟩).trans (h p hp)⟩
def zRG(p:Addr)(o:DO):Cmp:=⟨fun a=>a=p,fun a=>a=p,fun O=>O p=some o,fun O O' h e=>(e p rfl).trans h⟩
def cMo(c:Mcl)(S:PSt)(Bm:List (Int×Str)):Cmp:=⟨fun a=>a∈c.own,fun a=>a∈c.own,fun O=>MoAt O c S Bm∧S.Ok,fun O O' h e=>⟨h.1.keep fun a ha o ho=>(e a ha).trans ho,h.2⟩⟩
def zUE(tb:Tb)(B:Om)(h:Sho):Cmp:=⟨fun a=>a=h.q∨a=h.ap∨a=h.ag,fun a=>B a≠none∨a=h.q∨a=h.ap∨a=h.ag,fun O=>ShAt tb B O h,fun O O' H e=>H.fr fun a _ k=>e a k⟩
section
variable {L:List Cmp}{tb:Tb}{B B' O O':Om}{h h':Sho}{b cb:Addr}{c:Mcl}{S:PSt}{Bm:List (Int×Str)}{i:Nat}
theorem zO8(bag:Bag O b)(cel:zBy O b=some cb):(zRH b cb).In O:=by
 refine⟨⟨bag,cel⟩,fun _ h=>h,fun a ha=>?_⟩
 obtain⟨c2,_,_,_,_,_,w0,w1,w2⟩:=bag.cell
 rw[cel] at w0
 cases w0
 rcases ha with rfl|rfl
 ·rw[w1];exact fun z=>nomatch z
 ·rw[w2];exact fun z=>nomatch z
theorem zYh(M:MoAt O c S Bm)(ok:S.Ok):(cMo c S Bm).In O:=⟨⟨M,ok⟩,fun _ h=>h,fun a ha=>M.there a ha⟩
theorem zO7{p:Addr}{o:DO}(e:O p=some o):(zRG p o).In O:=⟨e,fun _ h=>h,fun a ha=>by have:a=p:=ha;rw[this,e];exact fun z=>nomatch z⟩
theorem zUC{ts:List (Addr×Str)}(e:∀p∈ts,O p.1=some (.tab p.2)):(zUD ts).In O:=⟨e,fun _ h=>h.elim,fun a ⟨s,hs⟩=>by rw[e (a,s) hs];exact fun z=>nomatch z⟩
theorem zK9(H:ShAt tb B O h):(zUE tb B h).In O:=by
 refine⟨H,fun a ha=>.inr ha,fun a ha=>?_⟩
 rcases ha with e|rfl|rfl|rfl
 ·cases q:B a with
  |none=>exact absurd q e
  |some o=>rw[H.sb a o q];exact fun z=>nomatch z
 ·rw[H.ob];exact fun z=>nomatch z
 ·rw[H.ps];exact fun z=>nomatch z
 ·rw[H.gn];exact fun z=>nomatch z
theorem Sys.bst(C:Sys L O)(h:L[i]?=some (zRH b cb))(s:Bst b O O'):Sys L O':=by
 have hi:i<L.length:=(qf.mp h).1
 obtain⟨bag,cel⟩:=C.get h
 have e:L.set i (zRH b cb)=L:=by
  rw[←(qf.mp h).2]
  exact List.set_getElem_self hi
 rw[←e]
 refine C.step h (fun a ha n=>?_) (zO8 s.1 (s.cell.trans cel)) (fun a _ h=>h) fun a _ h=>h
 cases q:O a with
 |none=>exact absurd q ha
 |some o=>exact s.2 a o (fun z=>n (.inl z)) q
theorem Sys.frW{l:List Addr}{x x':Cmp}(C:Sys L O)(h:L[i]?=some x)(fr:Fr l O O')(hl:∀a∈l,x.own a)(k:x'.In O')(o:∀a,O a≠none→x'.own a→x.own a)(d:∀a,O a≠none→x'.dep a→x.dep a):Sys (L.set i x') O':=
 C.step h (fun a ha n=>by
  cases q:O a with
  |none=>exact absurd q ha
  |some u=>exact fr a u q fun z=>n (hl a z)) k o d
end
def nT(i:Int):Str:=PySem.Str.ofString (toString i)
def NSm(i:Int):Prop:=i.natAbs<2 ^ 62
theorem NSm.log{i:Int}(h:NSm i):i.natAbs.log2<1920:=by
 have:=log2_lt (i:=i) (a:=62) (by decide) h
 omega
theorem NSm.len{i:Int}(h:NSm i):(nT i).length≤63:=zP2 (k:=62) (by decide) h
theorem NSm.of{i:Int}{a:Nat}(h:i.natAbs≤a)(ha:a≤1000000000000):NSm i:=by unfold NSm;omega
theorem zM0(sep:Str):∀(ys:List Str) (x:Str),Txt.join sep (x::ys)=ys.foldl (fun a y=>a++sep++y) x:=by
 have key:∀(ys:List Str) (x:Str),(⟨ys.foldl (fun acc p=>acc++sep.cps++p.cps) x.cps⟩:Str)=ys.foldl (fun a y=>a++sep++y) x:=by
  intro ys
  induction ys with
  |nil=>intro x;rfl
  |cons y r ih=>intro x;exact ih (x++sep++y)
 exact key
theorem zGB{sep:Str}{m:Nat}:∀{ys:List Str}{x:Str},(∀y∈ys,y.length≤m)→(ys.foldl (fun a y=>a++sep++y) x).length≤x.length+ys.length*(sep.length+m)
 |[],x,_=>by simp
 |y::r,x,h=>by
  have h1:=h y qz
  have ih:=zGB (sep:=sep) (m:=m) (ys:=r) (x:=x++sep++y) fun z hz=>h z (qA _ hz)
  rw[Str.length_append,Str.length_append] at ih
  rw[qi,Nat.succ_mul]
  show(r.foldl _ (x++sep++y)).length≤_
  omega
def hdT(h:Hd):Str:=nT h.st++","++nT h.sp++","++h.sg
def foT(sep x:Str)(ys:List Str):Str:=ys.foldl (fun a y=>a++sep++y) x
def moT(m:Mom):Str:=foT "+" (nT m.b++"."++nT m.w) (m.hs.map hdT)
theorem zVu{x:Str}(h:x∈signs):x.length≤1:=by
 simp only[signs,qj,qt,qW] at h
 rcases h with rfl|rfl|rfl|rfl<;>decide
theorem GHd.sm{h:Hd}(g:GHd h):NSm h.st∧NSm h.sp:=⟨NSm.of (a:=3) (by have:=g.st0;have:=g.st1;omega) (by decide),NSm.of (a:=12) (by have:=g.sp0;have:=g.sp1;omega) (by decide)⟩
theorem GM.sm{m:Mom}(g:GM m):NSm m.b∧NSm m.w:=⟨NSm.of (a:=32) (by have:=g.b0;have:=g.b1;omega) (by decide),NSm.of (a:=40) (by have:=g.w0;have:=g.w1;omega) (by decide)⟩
theorem Nin.sm{i:Int}(h:Nin i):NSm i:=Nat.lt_trans h (by decide)
theorem LooseO.sm{m:Mom}(g:LooseO m):NSm m.b∧NSm m.w:=⟨g.2.2.1.1.sm,g.2.2.1.2.sm⟩
theorem LooseO.hd{m:Mom}(g:LooseO m){h:Hd}(hh:h∈m.hs):(NSm h.st∧NSm h.sp)∧h.sg∈signs:=⟨⟨(g.2.2.2 h hh).1.sm,(g.2.2.2 h hh).2.sm⟩,g.2.1 h hh⟩
theorem zRm{h:Hd}(g:(NSm h.st∧NSm h.sp)∧h.sg∈signs):(hdT h).length≤129:=by
 unfold hdT
 have h1:=g.1.1.len
 have h2:=g.1.2.len
 have h3:=zVu g.2
 have h4:(",":Str).length=1:=rfl
 rw[Str.length_append,Str.length_append,Str.length_append,Str.length_append]
 omega
theorem zRf{m:Mom}(g:LooseO m):(moT m).length≤1200:=by
 unfold moT
 have h1:=g.sm.1.len
 have h2:=g.sm.2.len
 unfold foT
 have h3:=zGB (sep:="+") (m:=129) (ys:=m.hs.map hdT) (x:=nT m.b++"."++nT m.w) fun y hy=>by
  obtain⟨h,hh,rfl⟩:=qy.mp hy
  exact zRm (g.hd hh)
 have h4:(".":Str).length=1:=rfl
 have h5:("+":Str).length=1:=rfl
 rw[Str.length_append,Str.length_append,qd,h4,h5] at h3
 have h6:=g.1
 have h7:m.hs.length*(1+129)≤8*130:=qS _ h6
 omega
theorem zNt{xs:List Nat}{m:Nat}(h:∀x∈xs,x≤m):xs.sum≤xs.length*m:=by
 induction xs with
 |nil=>exact qR _
 |cons x xs ih=>
  have h1:=h x qz
  have h2:=ih fun y hy=>h y (qA _ hy)
  rw[List.sum_cons,qi,Nat.succ_mul]
  omega
theorem zPw{a:Str}{ys:List Str}{m n:Nat}(h:∀y∈ys,y.length≤m)(hl:ys.length≤n):(ys.map (·.length)).sum+ys.length*a.length≤n*(m+a.length):=by
 have h1:=zNt (xs:=ys.map (·.length)) (m:=m) fun x hx=>by obtain⟨y,hy,rfl⟩:=qy.mp hx;exact h y hy
 rw[qd] at h1
 have h2:ys.length*m+ys.length*a.length=ys.length*(m+a.length):=by rw[Nat.mul_add]
 have h3:ys.length*(m+a.length)≤n*(m+a.length):=qS _ hl
 omega
theorem zP1{A:Type}{f:A→Str}{as:List A}:as.map (fun a=>D.str (f a))=(as.map f).map D.str:=by rw[ja];rfl
def muM(S:PSt)(n:Int):List Mom:=(lkI S.music n).getD []
structure PSm(S:PSt):Prop where
 ok:S.Ok
 f0:S.f0≤100000
 f1:S.f1≤100000
section
variable {S:PSt}
theorem PSm.num(h:PSm S){n:Int}(hn:n∈S.order):NSm n:=NSm.of (a:=100000) (by have:=h.ok.o0 n hn;have:=h.f0;omega) (by decide)
theorem PSm.mu(h:PSm S){n:Int}(hn:n∈S.order):lkI S.music n=some (muM S n)∧GB (muM S n)∧zUR S n=zDM (muM S n):=by
 obtain⟨m,e⟩:=qM.mp ((h.ok.mus n).mpr hn)
 unfold muM zUR
 rw[e]
 exact⟨rfl,h.ok.gb n m e,rfl⟩
theorem PSm.sht(h:PSm S):∀i∈[S.sheet.w,S.sheet.l,S.sheet.f,S.sheet.t,S.sheet.g],NSm i:=by
 have g:=h.ok.sh
 unfold Sht.ok at g
 simp only[qE,qp,kM,List.all_nil,Bool.and_true] at g
 intro i hi
 simp only[qj,qt,qW] at hi
 rcases hi with rfl|rfl|rfl|rfl|rfl<;>exact NSm.of (a:=1000) (by omega) (by decide)
theorem PSm.fr(h:PSm S):NSm S.f0∧NSm S.f1:=⟨NSm.of (a:=100000) (by have:=h.f0;have:=h.ok.f0;omega) (by decide),NSm.of (a:=100000) (by have:=h.f1;have:=h.ok.f1;omega) (by decide)⟩
end
structure Alk(S T:PSt):Prop where
 sh:S.sheet=T.sheet
 od:S.order=T.order
 mu:∀n,lkI S.music n=lkI T.music n
 sp:∀n,lkI S.spans n=lkI T.spans n
 bo:∀n,lkI S.bound n=lkI T.bound n
 f0:S.f0=T.f0
 f1:S.f1=T.f1
theorem Alk.refl(S:PSt):Alk S S:=⟨rfl,rfl,fun _=>rfl,fun _=>rfl,fun _=>rfl,rfl,rfl⟩
theorem Alk.symm{S T:PSt}(h:Alk S T):Alk T S:=⟨h.sh.symm,h.od.symm,fun n=>(h.mu n).symm,fun n=>(h.sp n).symm,fun n=>(h.bo n).symm,h.f0.symm,h.f1.symm⟩
theorem Alk.trans{S T U:PSt}(h:Alk S T)(k:Alk T U):Alk S U:=⟨h.sh.trans k.sh,h.od.trans k.od,fun n=>(h.mu n).trans (k.mu n),fun n=>(h.sp n).trans (k.sp n),fun n=>(h.bo n).trans (k.bo n),h.f0.trans k.f0,h.f1.trans k.f1⟩
theorem zOq{A:Type}{l m:List (Int×A)}(hl:(l.map (·.1)).Nodup)(hm:(m.map (·.1)).Nodup)(h:∀n,lkI l n=lkI m n):(l.map (·.1)).Perm (m.map (·.1)):=
 (List.perm_ext_iff_of_nodup hl hm).mpr fun n=>by rw[←zBs,←zBs,h n]
section
variable {S T:PSt}
theorem Alk.sl(h:Alk S T)(hS:S.Ok)(hT:T.Ok):S.spans.length=T.spans.length:=by
 have:=(zOq hS.sn hT.sn h.sp).length_eq
 rwa [qd,qd] at this
theorem Alk.inM(h:Alk S T)(n:Int):inM S n=inM T n:=by unfold Lw.inM;rw[h.mu]
theorem Alk.word(h:Alk S T)(n:Int):zEr S n=zEr T n:=by unfold zEr;rw[h.bo]
theorem Alk.spot(h:Alk S T)(t:Int×Int):zE1 S t=zE1 T t:=by unfold zE1;rw[h.od]
theorem Alk.tip(h:Alk S T)(t:Int×Int):zEZ S t=zEZ T t:=by unfold zEZ;rw[h.mu]
theorem Alk.lies(h:Alk S T)(s:Spn):zC1 S s=zC1 T s:=by unfold zC1 zU5;rw[h.tip,h.tip,h.spot,h.spot]
theorem Alk.mom(h:Alk S T)(t:Int×Int):zG2 S t=zG2 T t:=by unfold zG2;rw[h.mu]
theorem Alk.less(h:Alk S T)(a b:Int×Int):zKW S a b=zKW T a b:=by unfold zKW;rw[h.spot,h.spot]
theorem zLX{A:Type}{l:List (Int×A)}(k:A→Bool)(hl:(l.map (·.1)).Nodup)(n:Int):lkI (l.filter fun p=>k p.2) n=(lkI l n).filter k:=by
 induction l with
 |nil=>rfl
 |cons p r ih=>
  rw[qr,List.nodup_cons] at hl
  have e:=ih hl.2
  have u:lkI (p::r) n=if p.1=n then some p.2 else lkI r n:=rfl
  rw[u]
  by_cases h:k p.2=true
  ·rw[jc (by exact h)]
   show(if p.1=n then some p.2 else lkI (r.filter fun p=>k p.2) n)=_
   by_cases hn:p.1=n
   ·rw[qe hn,qe hn,Option.filter_some,qe h]
   ·rw[qb hn,qb hn,e]
  ·rw[jj (by exact h),e]
   by_cases hn:p.1=n
   ·rw[qe hn,Option.filter_some,qb h]
    have z:lkI r n=none:=by
     cases q:lkI r n with
     |none=>rfl
     |some v=>
      have:=(zBs r n).mp (by rw[q];rfl)
      exact absurd (hn▸this) hl.1
    rw[z];rfl
   ·rw[qb hn]
theorem Alk.sweep(h:Alk S T)(hS:(S.spans.map (·.1)).Nodup)(hT:(T.spans.map (·.1)).Nodup):Alk (zDm S) (zDm T):=by
 refine⟨h.sh,h.od,h.mu,fun n=>?_,h.bo,h.f0,h.f1⟩
 show lkI (S.spans.filter fun p=>zC1 S p.2) n=lkI (T.spans.filter fun p=>zC1 T p.2) n
 rw[zLX (fun s=>zC1 S s) hS,zLX (fun s=>zC1 T s) hT,h.sp]
 congr 1
 funext s
 exact h.lies s
def zRO:Res→Res→Prop
 |.er b,.er c=>b=c
 |.ok S v,.ok T w=>v=w∧Alk S T
 |_,_=>False
theorem Alk.step(h:Alk S T)(hS:S.Ok)(hT:T.Ok)(d:Deed):zRO (step S d) (step T d):=by
 cases d with
 |bar a m=>
  show zRO (zGW S a m) (zGW T a m)
  unfold zGW
  rw[h.od,h.f0]
  repeat' split
  all_goals first
   |rfl
   |exact⟨rfl,⟨h.sh,by show zDQ S.order a T.f0=_;rw[h.od],fun n=>by show lkI (ptI S.music T.f0 m) n=lkI (ptI T.music T.f0 m) n;rw[zBO,zBO,h.mu],h.sp,h.bo,rfl,h.f1⟩⟩
   |exact⟨rfl,⟨h.sh,rfl,fun n=>by show lkI (ptI S.music T.f0 m) n=lkI (ptI T.music T.f0 m) n;rw[zBO,zBO,h.mu],h.sp,h.bo,rfl,h.f1⟩⟩
 |change n m=>
  show zRO (zB7 S n m) (zB7 T n m)
  unfold zB7
  rw[h.inM]
  repeat' split
  all_goals first
   |rfl
   |(refine⟨rfl,Alk.sweep ⟨h.sh,h.od,fun k=>?_,h.sp,h.bo,h.f0,h.f1⟩ hS.sn hT.sn⟩
     show lkI (ptI S.music n m) k=lkI (ptI T.music n m) k
     rw[zBO,zBO,h.mu])
 |cut n=>
  show zRO (zGV S n) (zGV T n)
  unfold zGV
  rw[h.inM,h.od]
  repeat' split
  all_goals first
   |rfl
   |exact⟨rfl,Alk.sweep ⟨h.sh,rfl,fun k=>by show lkI (drI S.music n) k=lkI (drI T.music n) k;rw[zCF,zCF,h.mu],h.sp,fun k=>by show lkI (drI S.bound n) k=lkI (drI T.bound n) k;rw[zCF,zCF,h.bo],h.f0,h.f1⟩ hS.sn hT.sn⟩
 |move n a=>
  show zRO (zDU S n a) (zDU T n a)
  unfold zDU
  rw[h.inM,h.od]
  repeat' split
  all_goals first
   |rfl
   |exact⟨rfl,Alk.sweep ⟨h.sh,rfl,h.mu,h.sp,h.bo,h.f0,h.f1⟩ hS.sn hT.sn⟩
 |mark s=>
  show zRO (zDV S s) (zDV T s)
  unfold zDV
  rw[h.inM,h.inM,h.mom,h.mom,h.less,h.sl hS hT,h.f1]
  repeat' split
  all_goals first
   |rfl
   |exact⟨rfl,⟨h.sh,h.od,h.mu,fun k=>by show lkI (ptI S.spans T.f1 s) k=lkI (ptI T.spans T.f1 s) k;rw[zBO,zBO,h.sp],h.bo,h.f0,rfl⟩⟩
 |wipe n=>
  show zRO (zDT S n) (zDT T n)
  unfold zDT
  rw[h.sp]
  repeat' split
  all_goals first
   |rfl
   |exact⟨rfl,⟨h.sh,h.od,h.mu,fun k=>by show lkI (drI S.spans n) k=lkI (drI T.spans n) k;rw[zCF,zCF,h.sp],h.bo,h.f0,h.f1⟩⟩
 |bound n w=>
  show zRO (zCO S n w) (zCO T n w)
  unfold zCO
  rw[h.inM,h.word]
  repeat' split
  all_goals first
   |rfl
   |exact⟨rfl,⟨h.sh,h.od,h.mu,h.sp,fun k=>by
     first
      |(show lkI (drI S.bound n) k=lkI (drI T.bound n) k
        rw[zCF,zCF,h.bo])
      |(show lkI (ptI S.bound n w) k=lkI (ptI T.bound n w) k
        rw[zBO,zBO,h.bo]),h.f0,h.f1⟩⟩
 |paper s=>
  show zRO (zCN S s) (zCN T s)
  unfold zCN
  repeat' split
  all_goals first
   |rfl
   |exact⟨rfl,⟨rfl,h.od,h.mu,h.sp,h.bo,h.f0,h.f1⟩⟩
end
section
variable {L:List Cmp}{tb:Tb}{B B' O O':Om}{h h':Sho}{b cb q:Addr}{c c':Mcl}{S S':PSt}{Bm Bm':List (Int×Str)}{i j k t:Nat}{ts:List (Addr×Str)}
theorem Sys.did(C:Sys L O)(hi:L[i]?=some (zUE tb B h))(nB:∀a,O a≠none→B' a=B a)(fr:Fr [h.q,h.ap] O O')(q1:h'.q=h.q)(p1:h'.ap=h.ap)(g1:O h'.ag=none)(H1:ShAt tb B' O' h'):Sys (L.set i (zUE tb B' h')) O':=
 C.frW hi fr (fun a ha=>by
  simp only[qj,qt,qW] at ha
  exact ha.imp id .inl) (zK9 H1) (fun a ha z=>by
  have z:a=h'.q∨a=h'.ap∨a=h'.ag:=z
  rw[q1,p1] at z
  exact z.imp id fun z=>z.imp id fun z=>absurd (z▸g1) ha) (fun a ha z=>by
  have z:B' a≠none∨a=h'.q∨a=h'.ap∨a=h'.ag:=z
  rw[q1,p1,nB a ha] at z
  exact z.imp id fun z=>z.imp id fun z=>z.imp id fun z=>absurd (z▸g1) ha)
theorem Sys.turned(C:Sys L O)(hi:L[i]?=some (zUE tb B h))(fr:Fr [h.q,h.ap,h.ag] O O')(q1:h'.q=h.q)(p1:h'.ap=h.ap)(g1:h'.ag=h.ag)(H1:ShAt tb B O' h'):Sys (L.set i (zUE tb B h')) O':=
 C.frW hi fr (fun a ha=>by
  simp only[qj,qt,qW] at ha
  exact ha) (zK9 H1) (fun a ha z=>by
  have z:a=h'.q∨a=h'.ap∨a=h'.ag:=z
  rw[q1,p1,g1] at z
  exact z) (fun a ha z=>by
  have z:B a≠none∨a=h'.q∨a=h'.ap∨a=h'.ag:=z
  rw[q1,p1,g1] at z
  exact z)
theorem Sys.put(C:Sys L O)(hi:L[i]?=some (cMo c S Bm))(fr:Fr c.own O O')(M:MoAt O' c S' Bm')(ok:S'.Ok):Sys (L.set i (cMo c S' Bm')) O':=
 C.frW hi fr (fun a ha=>ha) (zYh M ok) (fun a _ z=>z) (fun a _ z=>z)
end
def zFR(c:Nat):Bool:=decide (48≤c)&&decide (c≤57)
def zGC(l:List Nat):List Nat:=if l.take 1=[45] then l.drop 1 else l
def zR9(l:List Nat):Option Int:=
 if(1≤(zGC l).length∧(zGC l).length≤9)∧(zGC l).all zFR=true then
  if(zGC l).take 1=[48]∧l≠[48] then none
  else some (if l.take 1=[45] then -((NumText.digitsVal (zGC l):Nat):Int) else(NumText.digitsVal (zGC l):Nat))
 else none
def zDY(w:Str):Option Int:=zR9 (TL.tl w)
def zCy{A:Type}(f:A→D):Option A→D
 |none=>.non
 |some a=>f a
abbrev zMT:Option Int→D:=zCy D.int
theorem zKu{a b:Str}(h:TL.tl a=TL.tl b):a=b:=by
 obtain⟨⟨l⟩⟩:=a
 obtain⟨⟨m⟩⟩:=b
 have:l=m:=h
 rw[this]
theorem zRB{w:Str}:TL.tl (cutS w none (some 1))=(TL.tl w).take 1:=by
 show((TL.tl w).drop 0).take (HT.sIx w.length w.length (some 1)-0)=_
 rw[ky,kA]
 have e:HT.sIx w.length w.length (some 1)=min 1 w.length:=by
  unfold HT.sIx
  simp
  try omega
 rw[e]
 have:(TL.tl w).length=w.length:=qV
 rcases Nat.le_total 1 w.length with h|h
 ·rw[kT h]
 ·rw[Nat.min_eq_right h,←this,ka,js (by omega)]
theorem zNb{w:Str}:TL.tl (cutS w (some 1) none)=(TL.tl w).drop 1:=by
 show((TL.tl w).drop (HT.sIx w.length 0 (some 1))).take (HT.sIx w.length w.length none-HT.sIx w.length 0 (some 1))=_
 have hl:(TL.tl w).length=w.length:=qV
 have e:HT.sIx w.length 0 (some 1)=min 1 w.length:=by
  unfold HT.sIx
  simp
  try omega
 have e2:HT.sIx w.length w.length none=w.length:=by
  unfold HT.sIx
  first|rfl|simp
 rw[e,e2]
 have e3:(TL.tl w).drop (min 1 w.length)=(TL.tl w).drop 1:=by
  rcases Nat.le_total 1 w.length with h|h
  ·rw[kT h]
  ·rw[Nat.min_eq_right h,←hl,List.drop_length,List.drop_of_length_le (by omega)]
 rw[e3,js]
 rw[jq,hl]
 omega
theorem eq_dash{w:Str}:(cutS w none (some 1)=PySem.Str.ofString "-")↔(TL.tl w).take 1=[45]:=by
 rw[←zRB]
 exact⟨fun h=>by rw[h];rfl,fun h=>zKu h⟩
def FIGS:Str:=PySem.Str.ofString "0123456789"
theorem zT1{c:Nat}:decide (c∈FIGS.cps.toList)=zFR c:=by
 have e:FIGS.cps.toList=[48,49,50,51,52,53,54,55,56,57]:=by decide+kernel
 rw[e]
 unfold zFR
 rw[jo]
 simp only[qj,qt,qW,qp,qE]
 omega
theorem zUI{l:List Nat}:(l.map zFR).all (fun b=>b)=l.all zFR:=by rw[kh];rfl
theorem zHP{l:List Nat}(h:l.all zFR=true):NumText.AllDigits l:=fun c hc=>by
 have:=jE.mp h c hc
 unfold zFR at this
 simp only[qE,qp] at this
 exact this
theorem zPx{l:List Nat}{c:Nat}(h:l.take 1=[c]):l=c::l.drop 1:=by
 cases l with
 |nil=>cases h
 |cons a r=>cases h;rfl
theorem zQ7{w:Str}{i:Int}(h:zDY w=some i):PySem.intText? w=some i∧w.length≤10:=by
 unfold zDY zR9 at h
 have hl:(TL.tl w).length=w.length:=qV
 split at h
 case isFalse=>cases h
 rename_i h1
 split at h
 ·cases h
 obtain⟨⟨h1,h2⟩,h3⟩:=h1
 by_cases hd:(TL.tl w).take 1=[45]
 ·rw[qe hd] at h
  have e:=zPx hd
  unfold zGC at h1 h2 h3 h
  rw[qe hd] at h1 h2 h3 h
  have lw:w.length≤10:=by rw[←hl,e,qi];omega
  refine⟨?_,lw⟩
  rw[intText_neg (x:=w) (cs:=(TL.tl w).drop 1) e (zHP h3) (fun z=>by rw[z] at h1;simp at h1) (by omega)]
  exact h
 ·rw[qb hd] at h
  unfold zGC at h1 h2 h3 h
  rw[qb hd] at h1 h2 h3 h
  have lw:w.length≤10:=by rw[←hl];omega
  refine⟨?_,lw⟩
  rw[intText_digits (x:=w) (zHP h3) (fun z=>by have z:TL.tl w=[]:=z;rw[z] at h1;simp at h1) (by omega)]
  exact h
theorem zCw{bs:List Bool}:blsOf (bs.map D.bl)=some bs:=by
 induction bs with
 |nil=>rfl
 |cons b r ih=>show(blsOf (r.map D.bl)).map (b::·)=_;rw[ih];rfl
def zYO:DS:=
 (zAt (zBY 1 (dIf (zAo (dOp dEq (zEX (zAd 0) zAW (zCu (dC (.int 1)))) (dC (.str (PySem.Str.ofString "-"))))) (zEX (zAd 0) (zCu (dC (.int 1))) zAW) (zAd 0)))
 (zAt (zBK (zFI (zBZ (zAo (zA6 dLe dLe (dC (.int 1)) (dCB zC4 (zAc (zAd 1) zAg)) (dC (.int 9))))) (zBZ (zAo (dCB (zK8 fun bs=>bs.all fun b=>b) (zAc (zHE (zC3 (zAd 1)) (gN 2) zFF (dOp zUo (zAd 2) (dC (.str (PySem.Str.ofString "0123456789")))) [2]) zAg))))) (zBd (dC .non)) zAH)
 (zAt (zBK (zDS (zAo (dOp dEq (dOp dIx (zAd 1) (dC (.int 0))) (dC (.str (PySem.Str.ofString "0"))))) (zAo (dOp dNe (zAd 0) (dC (.str (PySem.Str.ofString "0")))))) (zBd (dC .non)) zAH)
 (zBd (dCB zUr (zAc (zAd 0) zAg))))))
def zY4:List Str:=["word","figures","sign"]
def zKx:DSp:=fun xs O R _=>∃w:Str,xs=[.str w]∧w.length≤1000000∧R (zMT (zDY w)) O
theorem yCc:∀xs O R Z,zKx xs O R Z→zYO (zBw R) (zAr zY4 xs) O:=by
 rintro _ O R Z ⟨w,rfl,hw,k⟩
 show zYO (zBw R) [some (.str w),none,none] O
 unfold zYO
 have hl:(TL.tl w).length=w.length:=qV
 obtain⟨f,hf,ef⟩:∃f:Str,TL.tl f=zGC (TL.tl w)∧f=(if(TL.tl w).take 1=[45] then cutS w (some 1) none else w):=by
  refine⟨_,?_,rfl⟩
  unfold zGC
  split
  ·exact zNb
  ·rfl
 have hfl:(TL.tl f).length=f.length:=qV
 have hf2:f.length≤w.length:=by
  rw[←hfl,hf,←hl]
  unfold zGC
  split
  ·rw[jq];omega
  ·exact qG _
 refine zAz fun N hN=>?_
 dsimp! only[zEX]
 refine⟨by rw[sizeLine_eq];omega,?_⟩
 have go:N [some (.str w),some (.str f),none] O:=by
  subst hN
  refine zAz fun N hN=>?_
  dsimp! only[zA6]
  have hno:zDY w=none→(zBw R).rt .non O:=fun e=>by rw[e] at k;exact Fin.here k
  refine⟨by rw[sizeLine_eq];omega,?_⟩
  have hq:∀z:Prop,zDY w=none→(z→False)→z∨True:=fun _ _ _=>.inr True.intro
  by_cases h1:(1:Int)≤(f.length:Nat)
  case neg=>
   dsimp! only[qm h1]
   refine hno ?_
   unfold zDY zR9
   rw[qb]
   rw[←hf,hfl]
   omega
  by_cases h2:((f.length:Nat):Int)≤9
  case neg=>
   dsimp! only[qx h1,qm h2]
   refine hno ?_
   unfold zDY zR9
   rw[qb]
   rw[←hf,hfl]
   omega
  simpa! only[qx h1,qx h2]
  refine zBV (f:=fun c:Nat=>D.str ⟨#[c]⟩) (as:=f.cps.toList) (fun c=>.bl (zFR c)) True.intro (by rw[hfl];omega) (fun c hc N2 acc hacc hN2=>?_) ?_
  ·dsimp! only[zFF]
   exact⟨c,FIGS,rfl,rfl,hacc,by rw[zT1];exact hN2⟩
  rw[show(f.cps.toList.map fun c=>D.bl (zFR c))=(f.cps.toList.map zFR).map D.bl by rw[ja];rfl]
  dsimp! only[zCw,zUI]
  have hfc:f.cps.toList=zGC (TL.tl w):=hf
  rw[hfc]
  cases h3:(zGC (TL.tl w)).all zFR with
  |false=>
   rw[qe (by decide)]
   refine hno ?_
   unfold zDY zR9
   rw[qb]
   rw[h3]
   simp
  |true=>
   rw[qb (by decide)]
   have hg:(1≤(zGC (TL.tl w)).length∧(zGC (TL.tl w)).length≤9)∧(zGC (TL.tl w)).all zFR=true:=by
    rw[←hf,hfl,hf]
    exact⟨⟨by omega,by omega⟩,h3⟩
   subst hN
   refine zAz fun N hN=>?_
   dsimp! only[]
   obtain⟨c,r,ec⟩:∃c r,zGC (TL.tl w)=c::r:=by
    cases e:zGC (TL.tl w) with
    |nil=>rw[e] at hg;simp at hg
    |cons c r=>exact⟨c,r,rfl⟩
   have hw0:decide (w=PySem.Str.ofString "0")=decide (TL.tl w=[48]):=by
    rw[jo,qp,qp]
    exact⟨fun h=>by rw[h];rfl,fun h=>zKu h⟩
   have hc0:decide ((⟨#[c]⟩:Str)=PySem.Str.ofString "0")=decide ((zGC (TL.tl w)).take 1=[48]):=by
    rw[ec,jo,qp,qp]
    exact⟨fun h=>by have:=jB TL.tl h;exact this,fun h=>zKu h⟩
   refine⟨by rw[sizeLine_eq];omega,?_⟩
   rw[hfc,ec,zHd]
   dsimp only
   dsimp! only[hc0,hw0]
   have fin:∀N',N'=zBd (dCB zUr (zAc (zAd 0) zAg)) (zBw R)→¬((zGC (TL.tl w)).take 1=[48]∧TL.tl w≠[48])→N' [some (.str w),some (.str f),none] O:=fun N' hN' hz=>by
    obtain⟨i,e⟩:∃i,zDY w=some i:=by
     unfold zDY zR9
     rw[qe hg,qb hz]
     exact⟨_,rfl⟩
    rw[hN']
    dsimp! only[]
    have nt:=zQ7 e
    rw[e] at k
    exact⟨w,i,rfl,nt.1,by have:=nt.2;omega,Fin.here k⟩
   by_cases h4:(zGC (TL.tl w)).take 1=[48]
   ·rw[qe (qx h4)]
    by_cases h5:TL.tl w=[48]
    ·rw[qb (by rw[qx h5];decide)]
     exact fin N hN fun z=>z.2 h5
    ·rw[qe (by rw[qm h5];decide)]
     refine hno ?_
     unfold zDY zR9
     rw[qe hg,qe ⟨h4,h5⟩]
   ·rw[qb (by rw[qm h4];decide)]
    exact fin N hN fun z=>h4 z.1
 by_cases hd:(TL.tl w).take 1=[45]
 ·rw[qe hd] at ef
  rw[qe (qx (eq_dash.mpr hd)),←ef]
  exact⟨by rw[sizeLine_eq];omega,go⟩
 ·rw[qb hd] at ef
  rw[qb (by rw[qm (fun z=>hd (eq_dash.mp z))];decide)]
  rw[ef] at go
  exact go
theorem zGd{c:Nat}:∀{l acc:List Nat},TL.spl [c] 0 acc l≠[]∧(TL.spl [c] 0 acc l).length≤l.length+1∧∀p∈TL.spl [c] 0 acc l,p.length≤acc.length+l.length
 |[],acc=>by
  rw[TL.spl_nil]
  exact⟨by simp,by simp,fun p hp=>by rw[qh.mp hp];simp⟩
 |a::r,acc=>by
  cases h:TL.pre [c] (a::r) with
  |true=>
   rw[TL.spl_hit h]
   obtain⟨i1,i2,i3⟩:=zGd (c:=c) (l:=r) (acc:=[])
   refine⟨by simp,by rw[qi,qi];exact kK i2,fun p hp=>?_⟩
   rcases qj.mp hp with rfl|hp
   ·omega
   ·have:=i3 p hp
    rw[qT] at this
    rw[qi]
    omega
  |false=>
   rw[TL.spl_miss h]
   obtain⟨i1,i2,i3⟩:=zGd (c:=c) (l:=r) (acc:=acc++[a])
   refine⟨i1,by rw[qi];omega,fun p hp=>?_⟩
   have:=i3 p hp
   rw[qL,List.length_singleton] at this
   rw[qi]
   omega
theorem zDc{w S:Str}{c:Nat}(hS:TL.tl S=[c])(hc:S.cps.all (· < 256)=true):Txt.split w S≠[]∧(Txt.split w S).length≤w.length+1∧∀p∈Txt.split w S,p.length≤w.length:=by
 have e:=TL.split_spl w S (by rw[hS];simp) (TL.kind_ok hc)
 rw[hS] at e
 obtain⟨i1,i2,i3⟩:=zGd (c:=c) (l:=TL.tl w) (acc:=[])
 rw[←e] at i1 i2 i3
 have hl:(TL.tl w).length=w.length:=qV
 refine⟨fun z=>i1 (by rw[z];rfl),by rw[qd] at i2;omega,fun p hp=>?_⟩
 have:=i3 (TL.tl p) (km hp)
 have hl2:(TL.tl p).length=p.length:=qV
 rw[qT] at this
 omega
def zIZ{A:Type}:List (Option A)→Option (List A)
 |[]=>some []
 |none::_=>none
 |some a::r=>(zIZ r).map (a::·)
theorem zC7{A:Type}:∀{os:List (Option A)}{l:List A},zIZ os=some l→os=l.map some
 |[],l,h=>by cases h;rfl
 |none::r,l,h=>by cases h
 |some a::r,l,h=>by
  unfold zIZ at h
  obtain⟨m,h1,rfl⟩:=Option.map_eq_some_iff.mp h
  rw[zC7 h1]
  rfl
theorem zKo{A:Type}{os:List (Option A)}:(zIZ os).isNone=os.any Option.isNone:=by
 induction os with
 |nil=>rfl
 |cons a r ih=>
  cases a with
  |none=>rfl
  |some a=>
   show((zIZ r).map (a::·)).isNone=_
   rw[kL,←ih]
   cases zIZ r<;>rfl
theorem zRM{A B:Type}{f:B→Option A}{bs:List B}{l:List A}(h:zIZ (bs.map f)=some l):l.length=bs.length:=by
 have:=jB List.length (zC7 h)
 rw[qd,qd] at this
 exact this.symm
theorem zRk{os:List (Option Int)}:inD .non (os.map zMT)=(zIZ os).isNone:=by
 rw[zKo]
 unfold inD
 rw[List.any_map]
 congr 1
 funext o
 cases o<;>rfl
theorem zUb{os:List (Option Int)}:(os.map zMT).all flD=true:=by
 rw[kh,jE]
 intro o _
 cases o<;>rfl
theorem zL6{A:Type}{f:A→D}{g:A→PyData}{n:Nat}{O:Om}{R:D→Om→Prop}{os:List (Option A)}(hn:n<64)(h:∀a,some a∈os→Seen O n (f a) (g a)∧PyData.eqv (g a) .none=false)(r:R (.bl (zIZ os).isNone) O):zYa .non (.lst (os.map (zCy f))) O R:=by
 have hs:SeenAll O n (os.map (zCy f)) (os.map fun o=>match o with|none=>PyData.none|some a=>g a):=SeenAll.map (f:=zCy f) (g:=fun o=>match o with|none=>PyData.none|some a=>g a) fun o ho=>by
  cases o with
  |none=>exact Seen.non
  |some a=>exact(h a ho).1
 have hl:=(SeenAll.lst hs)
 refine⟨.none,_,.non,hl.1,rfl,hl.ok (by omega),?_⟩
 rw[List.any_map]
 have e:(os.any ((fun z=>PyData.eqv z PyData.none)∘fun o=>match o with|none=>PyData.none|some a=>g a))=(zIZ os).isNone:=by
  rw[zKo,jo,ki,ki]
  constructor
  ·rintro⟨o,ho,e⟩
   cases o with
   |none=>exact⟨none,ho,rfl⟩
   |some a=>
    have e:PyData.eqv (g a) .none=true:=e
    rw[(h a ho).2] at e
    cases e
  ·rintro⟨o,ho,e⟩
   cases o with
   |none=>exact⟨none,ho,show PyData.eqv .none .none=true from by decide⟩
   |some a=>cases e
 rw[e]
 exact r
def zG4(l:List Int):D:=.tup (l.map D.int)
def zDP(ws:List Str):Option (List Int):=zIZ (ws.map zDY)
def Wds(ws:List Str):Prop:=ws.length≤1000000∧∀w∈ws,w.length≤1000000
def zYN:DS:=
 (zAt (zBY 1 (zHE (zC3 (zAd 0)) (gN 2) zFF (zAX zKx [.p 0] [] (zAc (zAd 2) zAg) zAg) [2]))
 (zBd (dIf (zAo (dOp (zIY fun b=>b) (dC .non) (zAd 1))) (dC .non) (dCB zDp (zAc (zAd 1) zAg)))))
def zY3:List Str:=["words","found","word"]
def zKw:DSp:=fun xs O R _=>∃ws:List Str,xs=[.lst (ws.map D.str)]∧Wds ws∧R (zCy zG4 (zDP ws)) O
theorem yCb:∀xs O R Z,zKw xs O R Z→zYN (zBw R) (zAr zY3 xs) O:=by
 rintro _ O R Z ⟨ws,rfl,⟨h1,h2⟩,k⟩
 show zYN (zBw R) [some (.lst (ws.map D.str)),none,none] O
 unfold zYN
 refine zAz fun N hN=>?_
 simpa! only[]
 refine zBV (f:=D.str) (as:=ws) (fun w=>zMT (zDY w)) True.intro (by omega) (fun w hw N2 acc hacc hN2=>?_) ?_
 ·dsimp! only[zFF]
  exact⟨w,rfl,h2 w hw,hacc,hN2⟩
 have e:(ws.map fun w=>zMT (zDY w))=(ws.map zDY).map zMT:=by rw[ja];rfl
 rw[e]
 subst hN
 dsimp! only[zRk,zUb]
 refine⟨rfl,True.intro,?_⟩
 unfold zDP at k
 cases q:zIZ (ws.map zDY) with
 |none=>
  rw[q] at k
  exact Fin.here k
 |some l=>
  rw[q] at k
  rw[qb (by simp)]
  have:=zC7 q
  rw[this,ja]
  exact Fin.here k
def zFZ(w:Str)(s:String):List Str:=Txt.split w (PySem.Str.ofString s)
theorem zGa{w:Str}{s:String}{c:Nat}(h:w.length≤99999)(hS:TL.tl (PySem.Str.ofString s)=[c])(hc:(PySem.Str.ofString s).cps.all (· < 256)=true):Wds (zFZ w s)∧zFZ w s≠[]∧(zFZ w s).length≤w.length+1∧∀p∈zFZ w s,p.length≤w.length:=by
 obtain⟨h1,h2,h3⟩:=zDc (w:=w) hS hc
 exact⟨⟨by unfold zFZ;omega,fun p hp=>by have:=h3 p hp;omega⟩,h1,h2,h3⟩
theorem zEI{to te:DE}{g:Gm}{O:Om}{R:D→Om→Prop}{w:Str}{s:String}(ht:∀Q:D→Om→Prop,Q (.str w) O→to g O Q)(hs:∀Q:D→Om→Prop,Q (.str (PySem.Str.ofString s)) O→te g O Q)(hl:(Str.length (PySem.Str.ofString s)==0)=false)(hw:w.length+2≤sizeLine)(k:R (.lst ((zFZ w s).map D.str)) O):dFz (zGH to te) g O R:=by
 unfold dFz zGH
 refine ht _ ⟨⟨w,rfl⟩,hs _ ⟨w,_,rfl,rfl,hl,hw,fun p hp=>?_⟩⟩
 exact zXt k p hp
def yBv{A:Type}:Option (List A)→Option (A×A)
 |some [a,b]=>some (a,b)
 |_=>none
def zYr(p:Int×Int):D:=.tup [.int p.1,.int p.2]
def zGZ(w:Str):Option (Int×Int):=yBv (zDP (zFZ w "."))
def zYC:DS:=
 (zAt (zBY 1 (zAX zKw [.p 0] [] (zAc (dFz (zGH (zAd 0) (dC (.str (PySem.Str.ofString "."))))) zAg) zAg))
 (zBd (dIf (zDS (zAo (dOp zFU (zAd 1) (dC .non))) (zAo (dOp dEq (dCB zC4 (zAc (zAd 1) zAg)) (dC (.int 2))))) (zAd 1) (dC .non))))
def yAc:List Str:=["word","found"]
def zMC:DSp:=fun xs O R _=>∃w:Str,xs=[.str w]∧w.length≤99999∧R (zCy zYr (zGZ w)) O
theorem yBZ:∀xs O R Z,zMC xs O R Z→zYC (zBw R) (zAr yAc xs) O:=by
 rintro _ O R Z ⟨w,rfl,hw,k⟩
 show zYC (zBw R) [some (.str w),none] O
 unfold zYC
 obtain⟨hW,_,_,_⟩:=zGa (s:=".") (c:=46) hw (by decide+kernel) (by decide+kernel)
 refine zAz fun N hN=>?_
 dsimp! only[]
 refine zEI (w:=w) (s:=".") (fun Q q=>q) (fun Q q=>q) (by decide) (by rw[sizeLine_eq];omega) ?_
 refine⟨zFZ w ".",rfl,hW,?_⟩
 unfold zGZ at k
 subst hN
 generalize zDP (zFZ w ".")=q at k⊢
 match q,k with
 |none,k=>dsimp! only[zCy];exact Fin.here k
 |some [],k=>dsimp! only[zCy,zG4,qN];exact Fin.here k
 |some [_],k=>dsimp! only[zCy,zG4,qr,qN];exact Fin.here k
 |some [_,_],k=>dsimp! only[zCy,zG4,qr,qN];exact Fin.here k
 |some (a::b::c::r),k=>
  dsimp! only[zCy,zG4,qr]
  rw[qb]
  ·exact Fin.here k
  ·rw[qp];omega
def zGz(w:Str):Option Hd:=match zFZ w "," with
 |[a,b,c]=>if c∈signs then(match zDP [a,b] with|some [x,y]=>some ⟨x,y,c⟩|_=>none) else none
 |_=>none
def zP0:DS:=
 (zAt (zBY 1 (dFz (zGH (zAd 0) (dC (.str (PySem.Str.ofString ","))))))
 (zAt (zBK (zFI (zAo (dOp dNe (dCB zC4 (zAc (zAd 1) zAg)) (dC (.int 3)))) (zAo (dOp (zIY fun b=>!b) (dOp dIx (zAd 1) (dC (.int 2))) (dC (.tup [(.str (PySem.Str.ofString "")),(.str (PySem.Str.ofString "s")),(.str (PySem.Str.ofString "f")),(.str (PySem.Str.ofString "n"))]))))) (zBd (dC .non)) zAH)
 (zAt (zBY 2 (zAX zKw [.p 0] [] (zAc (zEX (zAd 1) zAW (zCu (dC (.int 2)))) zAg) zAg))
 (zBd (dIf (zAo (dOp zE9 (zAd 2) (dC .non))) (dC .non) (dOp zDL (zAd 2) (zD2 (zAc (dOp dIx (zAd 1) (dC (.int 2))) zAg))))))))
def zTI:List Str:=["word","parts","found"]
def zLA:DSp:=fun xs O R _=>∃w:Str,xs=[.str w]∧w.length≤99999∧R (zCy hdD (zGz w)) O
theorem zGt{ws:List Str}{l:List Int}(h:zDP ws=some l):l.length=ws.length:=zRM h
theorem zXm{c:Str}:inD (.str c) (signs.map D.str)=decide (c∈signs):=by
 unfold inD
 rw[List.any_map,jo,ki,qp]
 constructor
 ·rintro⟨x,hx,e⟩
  have:x=c:=by
   have e:eqF (.str x) (.str c)=true∨eqF (.str c) (.str x)=true:=by first|exact .inl e|exact .inr e
   rcases e with e|e
   ·simpa [eqF] using e
   ·exact(by simpa [eqF] using e:c=x).symm
  rw[←this];exact hx
 ·intro h
  refine⟨c,h,?_⟩
  simp[eqF]
theorem yA0:∀xs O R Z,zLA xs O R Z→zP0 (zBw R) (zAr zTI xs) O:=by
 rintro _ O R Z ⟨w,rfl,hw,k⟩
 show zP0 (zBw R) [some (.str w),none,none] O
 unfold zP0
 obtain⟨hW,_,_,hp⟩:=zGa (s:=",") (c:=44) hw (by decide+kernel) (by decide+kernel)
 refine zAz fun N hN=>?_
 dsimp! only[]
 refine zEI (w:=w) (s:=",") (fun Q q=>q) (fun Q q=>q) (by decide) (by rw[sizeLine_eq];omega) ?_
 unfold zGz at k
 generalize zFZ w ","=q at k hW hp⊢
 subst hN
 refine zAz fun N hN=>?_
 have hno:∀{n:Nat},q.length=n→n≠3→(match q with|[a,b,c]=>if c∈signs then(match zDP [a,b] with|some [x,y]=>some (Hd.mk x y c)|_=>none) else none|_=>none)=none:=fun {n} e h=>by
  match q,e with
  |[],_=>rfl
  |[_],_=>rfl
  |[_,_],_=>rfl
  |[_,_,_],e=>exact absurd e.symm h
  |_::_::_::_::_,_=>rfl
 dsimp! only[]
 by_cases h3:((((q.map D.str).length:Nat):Int)=3)
 case neg=>
  rw[qe (by rw[qm h3];rfl)]
  rw[hno rfl (fun z=>h3 (by rw[qd,z];rfl))] at k
  exact Fin.here k
 rw[qb (by rw[qx h3];decide)]
 rw[qd] at h3
 obtain⟨a,b,c,rfl⟩:∃a b c,q=[a,b,c]:=by
  match q,h3 with
  |[a,b,c],_=>exact⟨a,b,c,rfl⟩
  |[],h=>exact absurd h (by decide)
  |[_],h=>exact absurd h (by simp)
  |[_,_],h=>exact absurd h (by simp)
  |_::_::_::_::r,h=>exact absurd h (by simp only[qi];omega)
 clear hno h3
 dsimp! only[qr,qN]
 refine⟨rfl,rfl,?_⟩
 rw[show inD (.str c) [D.str (PySem.Str.ofString ""),.str (PySem.Str.ofString "s"),.str (PySem.Str.ofString "f"),.str (PySem.Str.ofString "n")]=decide (c∈signs) from zXm]
 dsimp only at k
 by_cases hc:c∈signs
 case neg=>
  rw[qe (by rw[qm hc];rfl)]
  rw[qb hc] at k
  exact Fin.here k
 rw[qe hc] at k
 rw[qb (by rw[qx hc];decide)]
 subst hN
 refine zAz fun N hN=>?_
 dsimp! only[zEX,qr,qN]
 refine⟨[a,b],rfl,⟨by simp,fun x hx=>hW.2 x (by simp only[qj,qt,qW] at hx⊢;rcases hx with rfl|rfl<;>simp)⟩,?_⟩
 subst hN
 cases e:zDP [a,b] with
 |none=>
  rw[e] at k
  dsimp! only[zCy]
  exact Fin.here k
 |some l=>
  have hl:=zGt e
  obtain⟨x,y,rfl⟩:∃x y,l=[x,y]:=by
   match l,hl with
   |[x,y],_=>exact⟨x,y,rfl⟩
  rw[e] at k
  dsimp! only[zCy,zG4,qr,qN]
  exact⟨by rw[sizeLine_eq];decide,Fin.here k⟩
def zRe(w:Str):Option Mom:=match zFZ w "+" with
 |f::r=>(match zGZ f,zIZ (r.map zGz) with|some p,some hs=>some ⟨p.1,hs,p.2⟩|_,_=>none)
 |[]=>none
theorem zQn{c:Str}(h:c∈signs):(PyData.str c).canLay0=true:=by
 simp only[signs,qj,qt,qW] at h
 rcases h with rfl|rfl|rfl|rfl<;>decide+kernel
def hdP(h:Hd):PyData:=.tuple [.int h.st,.int h.sp,.str h.sg]
theorem zLF{O:Om}{h:Hd}(hs:h.sg∈signs):Seen O 1 (hdD h) (hdP h):=SeenAll.tup (.cons .int (.cons .int (.cons (.str (zQn hs)) .nil)))
theorem zL9{w:Str}{h:Hd}(e:zGz w=some h):h.sg∈signs:=by
 unfold zGz at e
 split at e
 ·split at e
  ·rename_i hc
   split at e
   ·cases e;exact hc
   ·cases e
  ·cases e
 ·cases e
def zYA:DS:=
 (zAt (zEo (dFz (zGH (zAd 0) (dC (.str (PySem.Str.ofString "+"))))) (zRp (zAp (gN 1) (zAp (gN 2) zBP))))
 (zAt (zBY 3 (zAX zMC [.p 0] [] (zAc (zAd 1) zAg) zAg))
 (zAt (zBY 4 (zHE (zC3 (zAd 2)) (gN 5) zFF (zAX zLA [.p 0] [] (zAc (zAd 5) zAg) zAg) [5]))
 (zAt (zBK (zFI (zAo (dOp zE9 (zAd 3) (dC .non))) (zAo (dOp zYa (dC .non) (zAd 4)))) (zBd (dC .non)) zAH)
 (zBd (zD2 (zAc (dOp dIx (zAd 3) (dC (.int 0))) (zAc (dCB zDp (zAc (zAd 4) zAg)) (zAc (dOp dIx (zAd 3) (dC (.int 1))) zAg)))))))))
def zYX:List Str:=["word","first","rest","found","heads","one"]
def zQi:DSp:=fun xs O R _=>∃w:Str,xs=[.str w]∧w.length≤9999∧R (zCy moD (zRe w)) O
theorem yBX:∀xs O R Z,zQi xs O R Z→zYA (zBw R) (zAr zYX xs) O:=by
 rintro _ O R Z ⟨w,rfl,hw,k⟩
 show zYA (zBw R) [some (.str w),none,none,none,none,none] O
 unfold zYA
 obtain⟨hW,hne,hlen,hp⟩:=zGa (w:=w) (s:="+") (c:=43) (by omega) (by decide+kernel) (by decide+kernel)
 refine zAz fun N hN=>?_
 dsimp! only[zEo]
 refine zEI (w:=w) (s:="+") (fun Q q=>q) (fun Q q=>q) (by decide) (by rw[sizeLine_eq];omega) ?_
 unfold zRe at k
 generalize zFZ w "+"=q at k hW hne hlen hp⊢
 obtain⟨f,r,rfl⟩:∃f r,q=f::r:=by
  cases q with
  |nil=>exact absurd rfl hne
  |cons f r=>exact⟨f,r,rfl⟩
 dsimp only at k
 unfold zRp
 dsimp! only[qr]
 rw[qi] at hlen
 refine⟨by rw[qd];omega,?_⟩
 subst hN
 refine zAz fun N hN=>?_
 dsimp! only[]
 refine⟨f,rfl,by have:=hp f (by simp);omega,?_⟩
 subst hN
 refine zAz fun N hN=>?_
 simpa! only[]
 refine zBV (f:=D.str) (as:=r) (fun w=>zCy hdD (zGz w)) True.intro (by omega) (fun x hx N2 acc hacc hN2=>?_) ?_
 ·dsimp! only[zFF]
  exact⟨x,rfl,by have:=hp x (by simp[hx]);omega,hacc,hN2⟩
 rw[show(r.map fun w=>zCy hdD (zGz w))=(r.map zGz).map (zCy hdD) by rw[ja];rfl]
 subst hN
 have hin:∀{R':D→Om→Prop},R' (.bl (zIZ (r.map zGz)).isNone) O→zYa .non (.lst ((r.map zGz).map (zCy hdD))) O R':=fun h=>zL6 (g:=hdP) (n:=1) (by decide) (fun a ha=>by
  obtain⟨x,_,e⟩:=qy.mp ha
  exact⟨zLF (zL9 e),rfl⟩) h
 refine zAz fun N hN=>?_
 cases e1:zGZ f with
 |none=>
  rw[e1] at k
  dsimp! only[zCy]
  exact Fin.here k
 |some p=>
  rw[e1] at k
  have e1':zCy zYr (some p)=.tup [.int p.1,.int p.2]:=rfl
  dsimp! only[e1']
  refine hin ?_
  cases e2:zIZ (r.map zGz) with
  |none=>
   rw[e2] at k
   dsimp! only[Option.isNone_none]
   exact Fin.here k
  |some hs=>
   rw[e2] at k
   dsimp! only[Option.isNone_some]
   rw[zC7 e2,ja]
   subst hN
   dsimp! only[]
   exact Fin.here k
def zTJ(ws:List Str):Option (List Mom):=zIZ (ws.map zRe)
def moP(m:Mom):PyData:=.tuple [.int m.b,.tuple (m.hs.map hdP),.int m.w]
theorem zTL{w:Str}{m:Mom}(e:zRe w=some m):∀h∈m.hs,h.sg∈signs:=by
 unfold zRe at e
 split at e
 ·split at e
  ·rename_i p hs h1 h2
   cases e
   intro h hh
   have:=zC7 h2
   have hm:=km (f:=some) hh
   rw[←this] at hm
   obtain⟨x,_,ex⟩:=qy.mp hm
   exact zL9 ex
  ·cases e
 ·cases e
theorem zQp{O:Om}{m:Mom}(hs:∀h∈m.hs,h.sg∈signs):Seen O 3 (moD m) (moP m):=
 SeenAll.tup (n:=2) (.cons .int (.cons (SeenAll.tup (n:=1) (SeenAll.map fun h hh=>zLF (hs h hh))) (.cons .int .nil)))
def zYz:DS:=
 (zAt (zBY 1 (zHE (zC3 (zAd 0)) (gN 2) zFF (zAX zQi [.p 0] [] (zAc (zAd 2) zAg) zAg) [2]))
 (zBd (dIf (zAo (dOp zYa (dC .non) (zAd 1))) (dC .non) (dCB zDp (zAc (zAd 1) zAg)))))
def zYW:List Str:=["words","found","word"]
def zQh:DSp:=fun xs O R _=>∃ws:List Str,xs=[.lst (ws.map D.str)]∧ws.length≤1000000∧(∀w∈ws,w.length≤9999)∧R (zCy zDM (zTJ ws)) O
theorem yBW:∀xs O R Z,zQh xs O R Z→zYz (zBw R) (zAr zYW xs) O:=by
 rintro _ O R Z ⟨ws,rfl,h1,h2,k⟩
 show zYz (zBw R) [some (.lst (ws.map D.str)),none,none] O
 unfold zYz
 refine zAz fun N hN=>?_
 simpa! only[]
 refine zBV (f:=D.str) (as:=ws) (fun w=>zCy moD (zRe w)) True.intro (by omega) (fun w hw N2 acc hacc hN2=>?_) ?_
 ·dsimp! only[zFF]
  exact⟨w,rfl,h2 w hw,hacc,hN2⟩
 rw[show(ws.map fun w=>zCy moD (zRe w))=(ws.map zRe).map (zCy moD) by rw[ja];rfl]
 subst hN
 unfold zTJ at k
 dsimp! only[]
 refine zL6 (g:=moP) (n:=3) (by decide) (fun a ha=>by
  obtain⟨x,_,e⟩:=qy.mp ha
  exact⟨zQp (zTL e),rfl⟩) ?_
 cases q:zIZ (ws.map zRe) with
 |none=>
  rw[q] at k
  dsimp! only[Option.isNone_none]
  exact Fin.here k
 |some l=>
  rw[q] at k
  dsimp! only[Option.isNone_some]
  rw[zC7 q,ja]
  exact Fin.here k
theorem zOE{s:String}{x:Str}{ys:List Str}:foT (PySem.Str.ofString s) x ys=Txt.join (PySem.Str.ofString s) (x::ys):=(zM0 _ _ _).symm
theorem zLr{s:String}{c:Nat}{x:Str}{ys:List Str}(hS:TL.tl (PySem.Str.ofString s)=[c])(hc:(PySem.Str.ofString s).cps.all (· < 256)=true)(hx:c∉TL.tl x)(hy:∀y∈ys,c∉TL.tl y):zFZ (foT (PySem.Str.ofString s) x ys) s=x::ys:=by
 unfold zFZ
 rw[zOE]
 exact TL.split_join hS hc (by simp) fun p hp=>by
  rcases qj.mp hp with rfl|hp
  ·exact hx
  ·exact hy p hp
def zHv:List Str→Option (Int×List Mom)
 |n::m::r=>match zDY n,zTJ (m::r) with
  |some i,some l=>some (i,l)
  |_,_=>none
 |_=>none
def both{A B:Type}:Option A→Option B→Option (A×B)
 |some a,some b=>some (a,b)
 |_,_=>none
def zYI:DS:=
 (zAt (zOV 1 2 (zAc (dIf (zAo (dOp dGt (dCB zC4 (zAc (zAd 0) zAg)) (dC (.int 2)))) (zAX zKx [.p 0] [] (zAc (dOp dIx (zAd 0) (dC (.int 1))) zAg) zAg) (dC .non)) (zAc (zAX zQh [.p 0] [] (zAc (zEX (zAd 0) (zCu (dC (.int 2))) zAW) zAg) zAg) zAg)))
 (zAt (zBK (zFI (zAo (dOp zE9 (zAd 1) (dC .non))) (zAo (dOp zE9 (zAd 2) (dC .non)))) (zBd (dC .non)) zAH)
 (zBd (zD2 (zAc (dOp dIx (zAd 0) (dC (.int 0))) (zAc (zAd 1) (zAc (zAd 2) zAg)))))))
def yAh:List Str:=["words","number","music"]
def zNC:DSp:=fun xs O R _=>∃(w:Str) (r:List Str),xs=[.lst ((w::r).map D.str)]∧r.length≤100000∧(∀x∈r,x.length≤9999)∧R (zCy (fun p:Int×List Mom=>.tup [.str w,.int p.1,zDM p.2]) (zHv r)) O
theorem yB6:∀xs O R Z,zNC xs O R Z→zYI (zBw R) (zAr yAh xs) O:=by
 rintro _ O R Z ⟨w,r,rfl,hl,hw,k⟩
 show zYI (zBw R) [some (.lst ((w::r).map D.str)),none,none] O
 unfold zYI
 refine zGn (fun g O'=>O=O'∧∃(on:Option Int) (om:Option (List Mom)),zHv r=both on om∧g=[some (.lst ((w::r).map D.str)),some (zMT on),some (zCy zDM om)]) (fun N hN=>?_) ?_
 ·match r,hl,hw with
  |[],hl,hw=>
   dsimp! only[zEX,qr,qN]
   exact⟨[],rfl,by simp,(fun x hx=>by cases hx),hN _ _ ⟨rfl,none,some [],rfl,rfl⟩⟩
  |[n],hl,hw=>
   dsimp! only[zEX,qr,qN]
   exact⟨[],rfl,by simp,(fun x hx=>by cases hx),hN _ _ ⟨rfl,none,some [],rfl,rfl⟩⟩
  |n::m::r,hl,hw=>
   dsimp! only[zEX,qr]
   rw[qe (by rw[qp,qd];omega)]
   refine⟨n,rfl,qo (hw n (by simp)) (by decide),?_⟩
   refine⟨m::r,by rw[zIG (by decide)];rfl,by simp only[qi] at hl⊢;omega,fun x hx=>hw x (qA _ hx),hN _ _ ⟨rfl,zDY n,zTJ (m::r),?_,rfl⟩⟩
   show(match zDY n,zTJ (m::r) with
    |some i,some l=>some (i,l)
    |_,_=>none)=both (zDY n) (zTJ (m::r))
   cases zDY n<;>cases zTJ (m::r)<;>rfl
 rintro _ _ ⟨rfl,on,om,e,rfl⟩
 rw[e] at k
 refine zAz fun N hN=>?_
 match on,om,k with
 |none,om,k=>dsimp! only[zMT];exact Fin.here k
 |some i,none,k=>dsimp! only[zMT,zCy];exact Fin.here k
 |some i,some l,k=>
  dsimp! only[zMT,zCy]
  subst hN
  dsimp! only[qr]
  exact Fin.here k
def zRg:List Str→Option Deed
 |[a,b,c,d]=>match zDP [a,d],zGZ b,zGZ c with
  |some [x,y],some p,some q=>some (.mark ⟨x,p,q,y⟩)
  |_,_,_=>none
 |_=>none
def zYH:DS:=
 (zAt (zBK (zAo (dOp dNe (dCB zC4 (zAc (zAd 0) zAg)) (dC (.int 5)))) (zBd (dC .non)) zAH)
 (zAt (zBY 1 (zAX zKw [.p 0] [] (zAc (zBA (zAc (dOp dIx (zAd 0) (dC (.int 1))) (zAc (dOp dIx (zAd 0) (dC (.int 4))) zAg))) zAg) zAg))
 (zAt (zOV 2 3 (zAc (zAX zMC [.p 0] [] (zAc (dOp dIx (zAd 0) (dC (.int 2))) zAg) zAg) (zAc (zAX zMC [.p 0] [] (zAc (dOp dIx (zAd 0) (dC (.int 3))) zAg) zAg) zAg)))
 (zAt (zBK (zFI (zAo (dOp zE9 (zAd 1) (dC .non))) (zFI (zAo (dOp zE9 (zAd 2) (dC .non))) (zAo (dOp zE9 (zAd 3) (dC .non))))) (zBd (dC .non)) zAH)
 (zBd (zD2 (zAc (dC (.str (PySem.Str.ofString "mark"))) (zAc (dOp dIx (zAd 1) (dC (.int 0))) (zAc (zAd 2) (zAc (zAd 3) (zAc (dOp dIx (zAd 1) (dC (.int 1))) zAg)))))))))))
def yAg:List Str:=["words","found","begin","end"]
def zNB:DSp:=fun xs O R _=>∃(w:Str) (r:List Str),xs=[.lst ((w::r).map D.str)]∧r.length≤100000∧(∀x∈r,x.length≤9999)∧R (zCy zBt (zRg r)) O
theorem yB5:∀xs O R Z,zNB xs O R Z→zYH (zBw R) (zAr yAg xs) O:=by
 rintro _ O R Z ⟨w,r,rfl,hl,hw,k⟩
 show zYH (zBw R) [some (.lst ((w::r).map D.str)),none,none,none] O
 unfold zYH
 refine zAz fun N hN=>?_
 by_cases h4:r.length=4
 case neg=>
  dsimp! only[qr]
  rw[qe (by rw[qd,qm (by omega)];rfl)]
  have:zRg r=none:=by
   unfold zRg
   split
   ·exact absurd rfl h4
   ·rfl
  rw[this] at k
  exact Fin.here k
 obtain⟨a,b,c,d,rfl⟩:∃a b c d,r=[a,b,c,d]:=by
  match r,h4 with
  |[a,b,c,d],_=>exact⟨a,b,c,d,rfl⟩
 dsimp! only[qr,qN]
 rw[qb (by decide)]
 subst hN
 refine zAz fun N hN=>?_
 dsimp! only[qr,qN]
 refine⟨[a,d],rfl,⟨by simp,fun x hx=>qo (hw x (by simp only[qj,qt,qW] at hx⊢;rcases hx with rfl|rfl<;>simp)) (by decide)⟩,?_⟩
 subst hN
 refine zAz fun N hN=>?_
 dsimp! only[qr,qN]
 refine⟨b,rfl,qo (hw b (by simp)) (by decide),c,rfl,qo (hw c (by simp)) (by decide),?_⟩
 subst hN
 refine zAz fun N hN=>?_
 have k:R (zCy zBt (match zDP [a,d],zGZ b,zGZ c with
  |some [x,y],some p,some q=>some (.mark ⟨x,p,q,y⟩)
  |_,_,_=>none)) O:=k
 have nl:∀l,zDP [a,d]=some l→∃x y,l=[x,y]:=fun l e=>by
  have hl:=zGt e
  match l,hl with
  |[x,y],_=>exact⟨x,y,rfl⟩
 generalize zDP [a,d]=u at k nl⊢
 generalize zGZ b=p at k⊢
 generalize zGZ c=q at k⊢
 match u,p,q,nl,k with
 |none,p,q,nl,k=>dsimp! only[zCy];exact Fin.here k
 |some l,none,q,nl,k=>
  obtain⟨x,y,rfl⟩:=nl l rfl
  dsimp! only[zCy,zG4];exact Fin.here k
 |some l,some p,none,nl,k=>
  obtain⟨x,y,rfl⟩:=nl l rfl
  dsimp! only[zCy,zG4,zYr];exact Fin.here k
 |some l,some p,some q,nl,k=>
  obtain⟨x,y,rfl⟩:=nl l rfl
  dsimp! only[zCy,zG4,zYr]
  subst hN
  dsimp! only[qr,qN]
  exact Fin.here k
def zIv(c:Nat):Bool:=decide (97≤c)&&decide (c≤122)
def LETS:Str:=PySem.Str.ofString "abcdefghijklmnopqrstuvwxyz"
theorem zT0{c:Nat}:decide (c∈LETS.cps.toList)=zIv c:=by
 have e:LETS.cps.toList=[97,98,99,100,101,102,103,104,105,106,107,108,109,110,111,112,113,114,115,116,117,118,119,120,121,122]:=by decide+kernel
 rw[e]
 unfold zIv
 rw[jo]
 simp only[qj,qt,qW,qp,qE]
 omega
def zMz(w:Str):Bool:=(decide (1≤w.length)&&decide (w.length≤8))&&(TL.tl w).all zIv
def zY8:List Str→Option Deed
 |[a,w]=>match zDY a with
  |some i=>if zMz w=true then some (.bound i w) else none
  |none=>none
 |_=>none
def zYM:DS:=
 (zAt (zBY 1 (dIf (zAo (dOp dEq (dCB zC4 (zAc (zAd 0) zAg)) (dC (.int 3)))) (zAX zKx [.p 0] [] (zAc (dOp dIx (zAd 0) (dC (.int 1))) zAg) zAg) (dC .non)))
 (zAt (zBK (zFI (zAo (dOp zE9 (zAd 1) (dC .non))) (zFI (zBZ (zAo (zA6 dLe dLe (dC (.int 1)) (dCB zC4 (zAc (dOp dIx (zAd 0) (dC (.int 2))) zAg)) (dC (.int 8))))) (zBZ (zAo (dCB (zK8 fun bs=>bs.all fun b=>b) (zAc (zHE (zC3 (dOp dIx (zAd 0) (dC (.int 2)))) (gN 2) zFF (dOp zUo (zAd 2) (dC (.str (PySem.Str.ofString "abcdefghijklmnopqrstuvwxyz")))) [2]) zAg)))))) (zBd (dC .non)) zAH)
 (zBd (zD2 (zAc (dC (.str (PySem.Str.ofString "end"))) (zAc (zAd 1) (zAc (dOp dIx (zAd 0) (dC (.int 2))) zAg)))))))
def zY2:List Str:=["words","number","sign"]
def zND:DSp:=fun xs O R _=>∃(w:Str) (r:List Str),xs=[.lst ((w::r).map D.str)]∧r.length≤100000∧(∀x∈r,x.length≤9999)∧R (zCy zBt (zY8 r)) O
theorem yCa:∀xs O R Z,zND xs O R Z→zYM (zBw R) (zAr zY2 xs) O:=by
 rintro _ O R Z ⟨w,r,rfl,hl,hw,k⟩
 show zYM (zBw R) [some (.lst ((w::r).map D.str)),none,none] O
 unfold zYM
 refine zAz fun N hN=>?_
 by_cases h2:r.length=2
 case neg=>
  dsimp! only[qr]
  rw[qb (by rw[qd,qm (by omega)];decide)]
  have:zY8 r=none:=by
   unfold zY8
   split
   ·exact absurd rfl h2
   ·rfl
  rw[this] at k
  subst hN
  refine zAz fun N hN=>?_
  dsimp! only[]
  exact Fin.here k
 obtain⟨a,v,rfl⟩:∃a v,r=[a,v]:=by
  match r,h2 with
  |[a,v],_=>exact⟨a,v,rfl⟩
 have ha:=hw a (by simp)
 have hv:=hw v (by simp)
 dsimp! only[qr,qN]
 refine⟨a,rfl,qo ha (by decide),?_⟩
 have k:R (zCy zBt (match zDY a with
  |some i=>if zMz v=true then some (.bound i v) else none
  |none=>none)) O:=k
 subst hN
 refine zAz fun N hN=>?_
 cases e:zDY a with
 |none=>
  rw[e] at k
  dsimp! only[zMT]
  exact Fin.here k
 |some i=>
  rw[e] at k
  dsimp only at k
  have hvl:(TL.tl v).length=v.length:=qV
  dsimp! only[zMT,zCy,zA6,qr,qN]
  refine⟨by rw[sizeLine_eq];omega,?_⟩
  by_cases h1:(1:Int)≤(v.length:Nat)
  case neg=>
   dsimp! only[qm h1]
   rw[qb (by unfold zMz;rw[qm (by omega:¬1≤v.length),jG,jG];decide)] at k
   exact Fin.here k
  by_cases h3:((v.length:Nat):Int)≤8
  case neg=>
   dsimp! only[qx h1,qm h3]
   rw[qb (by unfold zMz;rw[qm (by omega:¬v.length≤8),jZ,jG];decide)] at k
   exact Fin.here k
  simpa! only[qx h1,qx h3]
  refine zBV (f:=fun c:Nat=>D.str ⟨#[c]⟩) (as:=v.cps.toList) (fun c=>.bl (zIv c)) True.intro (by rw[show v.cps.toList.length=v.length from qV];omega) (fun c hc N2 acc hacc hN2=>?_) ?_
  ·dsimp! only[zFF]
   exact⟨c,LETS,rfl,rfl,hacc,by rw[zT0];exact hN2⟩
  rw[show(v.cps.toList.map fun c=>D.bl (zIv c))=(v.cps.toList.map zIv).map D.bl by rw[ja];rfl]
  dsimp! only[zCw]
  have ea:((v.cps.toList.map zIv).all fun b=>b)=(TL.tl v).all zIv:=by rw[kh];rfl
  cases h4:(TL.tl v).all zIv with
  |false=>
   rw[qb (by unfold zMz;rw[h4,jZ];decide)] at k
   rw[qe (by rw[ea,h4];rfl)]
   exact Fin.here k
  |true=>
   rw[qe (by unfold zMz;rw[h4,qx (by omega:1≤v.length),qx (by omega:v.length≤8)];rfl)] at k
   rw[qb (by rw[ea,h4];decide)]
   subst hN
   dsimp! only[zMT,qr,qN]
   exact Fin.here k
def zLM(w:Str):Nat:=if w=PySem.Str.ofString "cut" then 1 else if w=PySem.Str.ofString "move" then 2 else if w=PySem.Str.ofString "wipe" then 1 else 5
def zED(w:Str)(r:List Str):Option (List Int):=match zDP r with
 |some l=>if l.length=zLM w then some l else none
 |none=>none
def zDX:List Str:=[PySem.Str.ofString "cut",PySem.Str.ofString "move",PySem.Str.ofString "wipe",PySem.Str.ofString "paper"]
def zN9:List (Key×D):=[(sK "cut",.int 1),(sK "move",.int 2),(sK "wipe",.int 1),(sK "paper",.int 5)]
theorem zN8{w:Str}(h:w∈zDX):valD (zY6 zN9) (.inr w)=some (.int (zLM w:Nat)):=by
 simp only[zDX,qj,qt,qW] at h
 rcases h with rfl|rfl|rfl|rfl<;>rfl
def zYG:DS:=
 (zAt (zBY 1 (zAX zKw [.p 0] [] (zAc (zEX (zAd 0) (zCu (dC (.int 1))) zAW) zAg) zAg))
 (zAt (zBK (zFI (zAo (dOp zE9 (zAd 1) (dC .non))) (zAo (dOp dNe (dCB zC4 (zAc (zAd 1) zAg)) (dOp zDj (zUt [((dC (.str (PySem.Str.ofString "cut"))),(dC (.int 1))),((dC (.str (PySem.Str.ofString "move"))),(dC (.int 2))),((dC (.str (PySem.Str.ofString "wipe"))),(dC (.int 1))),((dC (.str (PySem.Str.ofString "paper"))),(dC (.int 5)))]) (dOp dIx (zAd 0) (dC (.int 0))))))) (zBd (dC .non)) zAH)
 (zBd (dOp zDL (zD2 (zAc (dOp dIx (zAd 0) (dC (.int 0))) zAg)) (zAd 1)))))
def yAf:List Str:=["words","found"]
def zNA:DSp:=fun xs O R _=>∃(w:Str) (r:List Str),xs=[.lst ((w::r).map D.str)]∧w∈zDX∧r.length≤100000∧(∀x∈r,x.length≤9999)∧∀O',Sb O O'→R (zCy (fun l:List Int=>.tup (.str w::l.map D.int)) (zED w r)) O'
theorem yB4:∀xs O R Z,zNA xs O R Z→zYG (zBw R) (zAr yAf xs) O:=by
 rintro _ O R Z ⟨w,r,rfl,hp,hl,hw,k⟩
 show zYG (zBw R) [some (.lst ((w::r).map D.str)),none] O
 unfold zYG
 refine zAz fun N hN=>?_
 dsimp! only[zEX,qr]
 refine⟨r,by rw[zIG (by decide)];rfl,⟨by omega,fun x hx=>qo (hw x hx) (by decide)⟩,?_⟩
 subst hN
 refine zAz fun N hN=>?_
 unfold zED at k
 cases e:zDP r with
 |none=>
  rw[e] at k
  dsimp! only[zCy]
  exact Fin.here (k _ (Sb.refl _))
 |some l=>
  rw[e] at k
  dsimp only at k
  dsimp! only[zCy,zG4,zUt,zMl]
  intro p hp0
  refine⟨True.intro,zN9,rfl,by decide,?_⟩
  have hs:Sb O (up (up O p (.dK [])) p (.dK (zY6 zN9))):=fun a o e=>by
   rw[up_ne (zAb hp0 e),up_ne (zAb hp0 e)];exact e
  dsimp! only[zDj,zBX,up_same,DL.keyOf,zN8 hp,qr]
  have nl:=zGt e
  by_cases h:l.length=zLM w
  ·rw[qe h] at k
   rw[qb (by rw[qd,h,qx rfl];decide)]
   subst hN
   dsimp! only[qr]
   refine⟨by rw[sizeLine_eq,qd];omega,?_⟩
   exact hs.fin (k _ (Sb.refl _))
  ·rw[qb h] at k
   rw[qe (by rw[qd,qm (by omega)];rfl)]
   exact hs.fin (k _ (Sb.refl _))
def zOm(ns:List Int):Str:=match ns with
 |[]=>PySem.Str.ofString "none"
 |_=>Txt.join (PySem.Str.ofString " ") (ns.map nT)
def zYB:DS:=
 (zBd (dIf (zAo (dOp dGt (dCB zC4 (zAc (zAd 0) zAg)) (dC (.int 0)))) (zUq (dC (.str (PySem.Str.ofString " "))) (zHE (zC3 (zAd 0)) (gN 1) zFF (dCB zOS (zAc (zAd 1) zAg)) [1])) (dC (.str (PySem.Str.ofString "none")))))
def zYY:List Str:=["row","one"]
def zQj:DSp:=fun xs O R _=>∃ns:List Int,xs=[.lst (ns.map D.int)]∧ns.length≤1000∧(∀n∈ns,NSm n)∧R (.str (zOm ns)) O
theorem yBY:∀xs O R Z,zQj xs O R Z→zYB (zBw R) (zAr zYY xs) O:=by
 rintro _ O R Z ⟨ns,rfl,hl,hn,k⟩
 show zYB (zBw R) [some (.lst (ns.map D.int)),none] O
 unfold zYB
 cases ns with
 |nil=>
  dsimp! only[qN]
  exact Fin.here k
 |cons n r=>
  simpa! only[qr,zUq]
  rw[qe (by rw[qp];omega)]
  rw[←qr]
  refine zBV (f:=D.int) (as:=n::r) (fun n=>.str (nT n)) True.intro (by omega) (fun x hx N2 acc hacc hN2=>?_) ?_
  ·dsimp! only[zFF]
   exact⟨(hn x hx).log,hacc,hN2⟩
  rw[zP1]
  refine⟨_,_,rfl,rfl,?_,Fin.here k⟩
  have:=zPw (a:=PySem.Str.ofString " ") (ys:=(n::r).map nT) (m:=63) (n:=1000) (fun y hy=>by
   obtain⟨i,hi,rfl⟩:=qy.mp hy
   exact(hn i hi).len) (by rw[qd];exact hl)
  have d2:(PySem.Str.ofString " ").length=1:=rfl
  rw[d2] at this⊢
  omega
def zYD(tb:Tb):DS:=
 (zBd (zAX zQj [.p 0] [] (zAc (zAu tb.Shop "bars" (zLx tb) [.p 0] [] (fun _=>(zAd 0)) zAg zAg X0) zAg) zAg))
def yAd:List Str:=["shop"]
def zQk(tb:Tb):DSp:=fun xs O R _=>∃(B:Om) (h:Sho),xs=[.ref h.q]∧ShAt tb B O h∧NSm h.S.f0∧R (.str (zOm h.S.order)) O
theorem yB0(tb:Tb):∀xs O R Z,zQk tb xs O R Z→zYD tb (zBw R) (zAr yAd xs) O:=by
 rintro _ O R Z ⟨B,h,rfl,H,hf,k⟩
 show zYD tb (zBw R) [some (.ref h.q)] O
 unfold zYD
 dsimp! only[zAu]
 refine(H.mBars (P:=fun a=>_)).mpr ?_
 refine⟨B,h,rfl,H,?_⟩
 dsimp! only[]
 refine⟨h.S.order,rfl,qo H.ok.ol (by decide),fun n hn=>?_,Fin.here k⟩
 have:=H.ok.o0 n hn
 unfold NSm at hf⊢
 omega
def zPV(tb:Tb):DS:=
 (zAt (zA1 (zAu tb.Shop "undo" (zI5 tb) [.p 0] [] (fun _=>(zAd 0)) zAg zAg))
 (zBd (dC (.str (PySem.Str.ofString "done")))))
def zD9:List Str:=["shop"]
def zFg(tb:Tb):DSp:=fun xs O R Z=>zI5 tb xs O (fun _ O'=>R (.str (PySem.Str.ofString "done")) O') Z
theorem yAV(tb:Tb):∀xs O R Z,zFg tb xs O R Z→zPV tb (zAC R Z) (zAr zD9 xs) O:=by
 rintro _ O R Z ⟨B,h,rfl,H,hl,k1,k2⟩
 show zPV tb (zAC R Z) [some (.ref h.q)] O
 unfold zPV
 refine zAz fun N hN=>?_
 dsimp! only[zA1,zAu]
 refine(H.mUndo (P:=fun a=>_)).mpr ?_
 refine⟨B,h,rfl,H,hl,fun e d O' hd hs ho=>FinX.here (k1 e d O' hd hs ho),fun init e he O' fr H'=>?_⟩
 subst hN
 dsimp! only[]
 exact Fin.here (k2 init e he O' fr H')
def zPU(tb:Tb):DS:=
 (zAt (zA1 (zAu tb.Shop "redo" (zI4 tb) [.p 0] [] (fun _=>(zAd 0)) zAg zAg))
 (zBd (dC (.str (PySem.Str.ofString "done")))))
def zEa:List Str:=["shop"]
def zFf(tb:Tb):DSp:=fun xs O R Z=>zI4 tb xs O (fun _ O'=>R (.str (PySem.Str.ofString "done")) O') Z
theorem yAU(tb:Tb):∀xs O R Z,zFf tb xs O R Z→zPU tb (zAC R Z) (zAr zEa xs) O:=by
 rintro _ O R Z ⟨B,h,rfl,H,hl,k1,k2⟩
 show zPU tb (zAC R Z) [some (.ref h.q)] O
 unfold zPU
 refine zAz fun N hN=>?_
 dsimp! only[zA1,zAu]
 refine(H.mRedo (P:=fun a=>_)).mpr ?_
 refine⟨B,h,rfl,H,hl,fun e d O' hd hs ho=>FinX.here (k1 e d O' hd hs ho),fun init e he O' fr H'=>?_⟩
 subst hN
 dsimp! only[]
 exact Fin.here (k2 init e he O' fr H')
def zId(w:Str):List Int→Option Deed
 |[n]=>if w=PySem.Str.ofString "cut" then some (.cut n) else some (.wipe n)
 |[n,a]=>some (.move n a)
 |[a,b,c,d,e]=>some (.paper ⟨a,b,c,d,e⟩)
 |_=>none
def zDi(w:Str)(r:List Str):Option Deed:=
 if w=PySem.Str.ofString "bar" then(zHv r).map fun p=>.bar p.1 p.2
 else if w=PySem.Str.ofString "change" then(zHv r).map fun p=>.change p.1 p.2
 else if w=PySem.Str.ofString "mark" then zRg r
 else if w=PySem.Str.ofString "end" then zY8 r
 else if w∈zDX then(zED w r).bind (zId w)
 else none
theorem zKN{w:Str}{r:List Str}(h:w∈zDX):zCy (fun l:List Int=>.tup (.str w::l.map D.int)) (zED w r)=zCy zBt ((zED w r).bind (zId w)):=by
 unfold zED
 cases e:zDP r with
 |none=>rfl
 |some l=>
  dsimp only
  by_cases hl:l.length=zLM w
  ·rw[qe hl]
   simp only[zDX,qj,qt,qW] at h
   rcases h with rfl|rfl|rfl|rfl
   ·match l,hl with
    |[n],_=>rfl
   ·match l,hl with
    |[n,a],_=>rfl
   ·match l,hl with
    |[n],_=>rfl
   ·match l,hl with
    |[a,b,c,d,e],_=>rfl
  ·rw[qb hl];rfl
def zZg:D→Str
 |.int n=>nT n
 |_=>PySem.Str.ofString "done"
theorem zP3{S S':PSt}{d:Deed}{v:D}(h:step S d=.ok S' v):v=.non∨v=.int S.f0∨v=.int S.f1:=by
 cases d with
 |bar a m=>
  have h:zGW S a m=.ok S' v:=h
  unfold zGW at h
  repeat' split at h
  all_goals cases h
  exact .inr (.inl rfl)
 |change n m=>
  have h:zB7 S n m=.ok S' v:=h
  unfold zB7 at h
  repeat' split at h
  all_goals cases h
  exact .inl rfl
 |cut n=>
  have h:zGV S n=.ok S' v:=h
  unfold zGV at h
  repeat' split at h
  all_goals cases h
  exact .inl rfl
 |move n a=>
  have h:zDU S n a=.ok S' v:=h
  unfold zDU at h
  repeat' split at h
  all_goals cases h
  exact .inl rfl
 |mark s=>
  have h:zDV S s=.ok S' v:=h
  unfold zDV at h
  repeat' split at h
  all_goals cases h
  exact .inr (.inr rfl)
 |wipe n=>
  have h:zDT S n=.ok S' v:=h
  unfold zDT at h
  repeat' split at h
  all_goals cases h
  exact .inl rfl
 |bound n w=>
  have h:zCO S n w=.ok S' v:=h
  unfold zCO at h
  repeat' split at h
  all_goals cases h
  all_goals exact .inl rfl
 |paper s=>
  have h:zCN S s=.ok S' v:=h
  unfold zCN at h
  repeat' split at h
  all_goals cases h
  exact .inl rfl
def zAS:List Str:=[PySem.Str.ofString "bars",PySem.Str.ofString "marks",PySem.Str.ofString "layout",PySem.Str.ofString "cost",PySem.Str.ofString "undo",PySem.Str.ofString "redo"]
def DoP(tb:Tb)(B:Om)(h:Sho)(d:Deed)(O:Om)(R:D→Om→Prop)(Z:XD):Prop:=match step h.S d with
 |.ok S' v=>∀O' B' h',Sb B B'→(∀x,O x≠none→B' x=B x)→Fr [h.q,h.ap] O O'→h'.q=h.q→h'.ap=h.ap→O h'.ag=none→h'.S=S'→h'.past=h.past++[⟨.one d,h.c,h.S⟩]→h'.gone=[]→ShAt tb B' O' h'→R (.str (zZg v)) O'
 |.er b=>Told1 b tb O Z
structure AnsP(tb:Tb)(B:Om)(h:Sho)(w:Str)(r:List Str)(O:Om)(R:D→Om→Prop)(Z:XD):Prop where
 no:r=[]→w∈zAS→w=PySem.Str.ofString "bars"∨w=PySem.Str.ofString "undo"∨w=PySem.Str.ofString "redo"
 ln:(w=PySem.Str.ofString "places"∨w=PySem.Str.ofString "spaces")→∀x,r=[x]→zDY x=none
 bars:r=[]→w=PySem.Str.ofString "bars"→R (.str (zOm h.S.order)) O
 undo:r=[]→w=PySem.Str.ofString "undo"→zFg tb [.ref h.q] O R Z
 redo:r=[]→w=PySem.Str.ofString "redo"→zFf tb [.ref h.q] O R Z
 none_:(r=[]→w∉zAS)→zDi w r=none→∀O',Sb O O'→R (.str (PySem.Str.ofString "no line")) O'
 deed:(r=[]→w∉zAS)→∀d,zDi w r=some d→DOk d∧h.past.length<100000∧∀O1,Sb O O1→DoP tb B h d O1 R Z
theorem zMH{tb:Tb}{w:Str}:((zD5 tb).lookup w).isSome=decide (w∈zAS):=by
 by_cases h:w∈zAS
 ·rw[qx h]
  simp only[zAS,qj,qt,qW] at h
  rcases h with rfl|rfl|rfl|rfl|rfl|rfl<;>rfl
 ·rw[qm h]
  cases e:(zD5 tb).lookup w with
  |none=>rfl
  |some x=>
   exfalso
   apply h
   have m:=zSe _ e
   simp only[zD5,qj,qt,qW,Prod.mk.injEq] at m
   rcases m with⟨rfl,_⟩|⟨rfl,_⟩|⟨rfl,_⟩|⟨rfl,_⟩|⟨rfl,_⟩|⟨rfl,_⟩<;>simp[zAS]<;>rfl
def zGA:List Str:=[PySem.Str.ofString "bar",PySem.Str.ofString "change",PySem.Str.ofString "mark",PySem.Str.ofString "end",PySem.Str.ofString "cut",PySem.Str.ofString "move",PySem.Str.ofString "wipe",PySem.Str.ofString "paper"]
theorem zOD{tb:Tb}{w:Str}(h:w∉zGA):(zFv tb).lookup w=none:=by
 cases e:(zFv tb).lookup w with
 |none=>rfl
 |some x=>
  exfalso
  apply h
  have m:=zSe _ e
  simp only[zFv,qj,qt,qW,Prod.mk.injEq] at m
  rcases m with⟨rfl,_⟩|⟨rfl,_⟩|⟨rfl,_⟩|⟨rfl,_⟩|⟨rfl,_⟩|⟨rfl,_⟩|⟨rfl,_⟩|⟨rfl,_⟩<;>simp[zGA]<;>first|exact .inl rfl|skip
theorem zOt{c:Str}{l:List Str}:inD (.str c) (l.map D.str)=decide (c∈l):=by
 unfold inD
 rw[List.any_map,jo,ki,qp]
 constructor
 ·rintro⟨x,hx,e⟩
  have:x=c:=by
   have e:eqF (.str x) (.str c)=true∨eqF (.str c) (.str x)=true:=by first|exact .inl e|exact .inr e
   rcases e with e|e
   ·simpa [eqF] using e
   ·exact(by simpa [eqF] using e:c=x).symm
  rw[←this];exact hx
 ·intro h
  refine⟨c,h,?_⟩
  simp[eqF]
theorem zPu{tb:Tb}{xs:List D}{O:Om}{R:D→Om→Prop}{Z:XD}(h:zFg tb xs O R Z):zFg tb xs O (Fin R) (FinX Z):=by
 obtain⟨B,h,rfl,H,hl,k1,k2⟩:=h
 exact⟨B,h,rfl,H,hl,fun e d O' hd hs ho=>FinX.here (k1 e d O' hd hs ho),fun init e he O' fr H'=>Fin.here (k2 init e he O' fr H')⟩
theorem zQS{tb:Tb}{xs:List D}{O:Om}{R:D→Om→Prop}{Z:XD}(h:zFf tb xs O R Z):zFf tb xs O (Fin R) (FinX Z):=by
 obtain⟨B,h,rfl,H,hl,k1,k2⟩:=h
 exact⟨B,h,rfl,H,hl,fun e d O' hd hs ho=>FinX.here (k1 e d O' hd hs ho),fun init e he O' fr H'=>Fin.here (k2 init e he O' fr H')⟩
theorem zM7{w:Str}{r:List Str}(h:w∉zGA):zDi w r=none:=by
 simp only[zGA,qj,qt,qW,not_or] at h
 obtain⟨h1,h2,h3,h4,h5,h6,h7,h8⟩:=h
 unfold zDi
 rw[qb h1,qb h2,qb h3,qb h4,qb]
 simp only[zDX,qj,qt,qW,not_or]
 exact⟨h5,h6,h7,h8⟩
def zPA(tb:Tb):DS:=
 (zAt (zBK (zDS (zAo (dOp dEq (dCB zC4 (zAc (zAd 1) zAg)) (dC (.int 1)))) (zAo (dOp (zZc tb.SINGLE (zD5 tb)) (dOp dIx (zAd 1) (dC (.int 0))) (dC (.ref tb.SINGLE))))) (zAt (zBY 2 (dOp (zZb tb.SINGLE (zD5 tb)) (dC (.ref tb.SINGLE)) (dOp dIx (zAd 1) (dC (.int 0)))))
 (zID (zBU 2 [(tb.bars_told,zQk tb),(tb.undo_told,zFg tb),(tb.redo_told,zFf tb)] [.p 0] (zAc (zAd 0) zAg)))) zAH)
 (zAt (zBY 3 (dIf (zDS (zAo (dOp dEq (dCB zC4 (zAc (zAd 1) zAg)) (dC (.int 2)))) (zAo (dOp (zIY fun b=>b) (dOp dIx (zAd 1) (dC (.int 0))) (zD2 (zAc (dC (.str (PySem.Str.ofString "places"))) (zAc (dC (.str (PySem.Str.ofString "spaces"))) zAg)))))) (zAX zKx [.p 0] [] (zAc (dOp dIx (zAd 1) (dC (.int 1))) zAg) zAg) (dC .non)))
 (zAt (zBK (zAo (dOp zFU (zAd 3) (dC .non))) zSy zAH)
 (zAt (zBY 5 (zUs tb.FORMS (zFv tb) (dC (.ref tb.FORMS)) (dOp dIx (zAd 1) (dC (.int 0)))))
 (zAt (zCz 6 (zRy (zAo (dOp zE9 (zAd 5) (dC .non))) (fun _=>(dC .non)) (zBU 5 [(tb.music_deed,zNC),(tb.mark_deed,zNB),(tb.end_deed,zND),(tb.plain_deed,zNA)] [.p 0] (zAc (zAd 1) zAg))))
 (zAt (zBK (zAo (dOp zE9 (zAd 6) (dC .non))) (zBd (dC (.str (PySem.Str.ofString "no line")))) zAH)
 (zAt (zCz 7 (zAu tb.Shop "do" (zLu tb) [.p 0,.p 1] [] (fun _=>(zAd 0)) (zAc (zAd 6) zAg) zAg))
 (zBd (dIf (zAo (dOp zE9 (zAd 7) (dC .non))) (dC (.str (PySem.Str.ofString "done"))) (dCB zOS (zAc (zAd 7) zAg)))))))))))
def zE6:List Str:=["shop","words","tell","number","told","form","deed","found","one"]
def zLt(tb:Tb):DSp:=fun xs O R Z=>∃(B:Om) (h:Sho) (w:Str) (r:List Str),xs=[.ref h.q,.lst ((w::r).map D.str)]∧ShAt tb B O h∧NSm h.S.f0∧NSm h.S.f1∧r.length≤100000∧(∀x∈r,x.length≤9999)∧AnsP tb B h w r O R Z
theorem yAA(tb:Tb):∀xs O R Z,zLt tb xs O R Z→zPA tb (zAC R Z) (zAr zE6 xs) O:=by
 rintro _ O R Z ⟨B,h,w,r,rfl,H,f0,f1,hl,hw,A⟩
 show zPA tb (zAC R Z) [some (.ref h.q),some (.lst ((w::r).map D.str)),none,none,none,none,none,none,none] O
 unfold zPA
 refine zGn (fun g O'=>O=O'∧(r=[]→w∉zAS)∧g=[some (.ref h.q),some (.lst ((w::r).map D.str)),none,none,none,none,none,none,none]) (fun N hN=>?_) ?_
 ·cases r with
  |cons x r'=>
   dsimp! only[qr]
   rw[qb (by rw[qd,qm (by omega)];decide)]
   exact hN _ _ ⟨rfl,(fun z=>by cases z),rfl⟩
  |nil=>
   dsimp! only[qr,qN,zZc]
   refine⟨w,rfl,True.intro,?_⟩
   rw[zMH]
   by_cases hs:w∈zAS
   ·rw[qe (qx hs)]
    refine zAz fun N2 hN2=>?_
    dsimp! only[zZb]
    rcases A.no rfl hs with rfl|rfl|rfl
    ·refine⟨True.intro,_,_,rfl,rfl,?_⟩
     subst hN2
     dsimp! only[zID,zBU]
     exact⟨_,_,rfl,.head _,B,h,rfl,H,f0,Fin.here (A.bars rfl rfl)⟩
    ·refine⟨True.intro,_,_,rfl,rfl,?_⟩
     subst hN2
     dsimp! only[zID,zBU]
     exact⟨_,_,rfl,.tail _ (.head _),zPu (A.undo rfl rfl)⟩
    ·refine⟨True.intro,_,_,rfl,rfl,?_⟩
     subst hN2
     dsimp! only[zID,zBU]
     exact⟨_,_,rfl,.tail _ (.tail _ (.head _)),zQS (A.redo rfl rfl)⟩
   ·rw[qb (by rw[qm hs];decide)]
    exact hN _ _ ⟨rfl,fun _=>hs,rfl⟩
 rintro _ _ ⟨rfl,hs,rfl⟩
 refine zGn (fun g O'=>O=O'∧g=[some (.ref h.q),some (.lst ((w::r).map D.str)),none,some .non,none,none,none,none,none]) (fun N hN=>?_) ?_
 ·by_cases h1:r.length=1
  ·obtain⟨x,rfl⟩:∃x,r=[x]:=by
    match r,h1 with
    |[x],_=>exact⟨x,rfl⟩
   dsimp! only[qr,qN]
   refine⟨rfl,rfl,?_⟩
   rw[show inD (.str w) [D.str (PySem.Str.ofString "places"),.str (PySem.Str.ofString "spaces")]=decide (w∈[PySem.Str.ofString "places",PySem.Str.ofString "spaces"]) from zOt (l:=[_,_])]
   by_cases hp:w∈[PySem.Str.ofString "places",PySem.Str.ofString "spaces"]
   ·rw[qe (qx hp)]
    refine⟨x,rfl,qo (hw x (by simp)) (by decide),?_⟩
    rw[A.ln (by simpa using hp) x rfl]
    exact hN _ _ ⟨rfl,rfl⟩
   ·rw[qb (by rw[qm hp];decide)]
    exact hN _ _ ⟨rfl,rfl⟩
  ·dsimp! only[qr]
   rw[qb (by rw[qd,qm (by omega)];decide)]
   exact hN _ _ ⟨rfl,rfl⟩
 rintro _ _ ⟨rfl,rfl⟩
 refine zAz fun N hN=>?_
 dsimp! only[]
 subst hN
 refine zAz fun N hN=>?_
 dsimp! only[zUs,qr]
 refine⟨True.intro,w,rfl,?_⟩
 subst hN
 refine zGn (fun g O'=>Sb O O'∧∃z5,g=[some (.ref h.q),some (.lst ((w::r).map D.str)),none,some .non,none,z5,some (zCy zBt (zDi w r)),none,none]) (fun N hN=>?_) ?_
 ·by_cases hf:w∈zGA
  ·have pl:w∈zDX→(zFv tb).lookup w=some (.ref tb.plain_deed)→zDi w r=(zED w r).bind (zId w)→zCz 6 (zRy (zAo (dOp zE9 (zAd 5) (dC .non))) (fun _=>(dC .non)) (zBU 5 [(tb.music_deed,zNC),(tb.mark_deed,zNB),(tb.end_deed,zND),(tb.plain_deed,zNA)] [.p 0] (zAc (zAd 1) zAg))) {nx:=N,rt:=(zAC R Z).rt,bk:=(zAC R Z).bk,ct:=(zAC R Z).ct,xc:=(zAC R Z).xc} [some (.ref h.q),some (.lst ((w::r).map D.str)),none,some .non,none,some (((zFv tb).lookup w).getD .non),none,none,none] O:=fun hp e1 e2=>by
    rw[e1]
    dsimp! only[zCz,zRy,zBU]
    refine⟨_,_,rfl,.tail _ (.tail _ (.tail _ (.head _))),w,r,rfl,hp,hl,hw,fun O' s=>?_⟩
    rw[zKN hp,←e2]
    exact hN _ _ ⟨s,_,rfl⟩
   simp only[zGA,qj,qt,qW] at hf
   rcases hf with rfl|rfl|rfl|rfl|rfl|rfl|rfl|rfl
   ·show zCz _ _ _ [_,_,_,_,_,some (.ref tb.music_deed),_,_,_] _
    dsimp! only[zCz,zRy,zBU]
    refine⟨_,_,rfl,.head _,_,r,rfl,hl,hw,?_⟩
    refine hN _ _ ⟨Sb.refl _,some (.ref tb.music_deed),?_⟩
    unfold zDi
    rw[qe rfl]
    cases zHv r<;>rfl
   ·show zCz _ _ _ [_,_,_,_,_,some (.ref tb.music_deed),_,_,_] _
    dsimp! only[zCz,zRy,zBU]
    refine⟨_,_,rfl,.head _,_,r,rfl,hl,hw,?_⟩
    refine hN _ _ ⟨Sb.refl _,some (.ref tb.music_deed),?_⟩
    unfold zDi
    rw[qb (by decide),qe rfl]
    cases zHv r<;>rfl
   ·show zCz _ _ _ [_,_,_,_,_,some (.ref tb.mark_deed),_,_,_] _
    dsimp! only[zCz,zRy,zBU]
    refine⟨_,_,rfl,.tail _ (.head _),_,r,rfl,hl,hw,?_⟩
    refine hN _ _ ⟨Sb.refl _,some (.ref tb.mark_deed),?_⟩
    unfold zDi
    rw[qb (by decide),qb (by decide),qe rfl]
    rfl
   ·show zCz _ _ _ [_,_,_,_,_,some (.ref tb.end_deed),_,_,_] _
    dsimp! only[zCz,zRy,zBU]
    refine⟨_,_,rfl,.tail _ (.tail _ (.head _)),_,r,rfl,hl,hw,?_⟩
    refine hN _ _ ⟨Sb.refl _,some (.ref tb.end_deed),?_⟩
    unfold zDi
    rw[qb (by decide),qb (by decide),qb (by decide),qe rfl]
    rfl
   all_goals
    refine pl (by simp[zDX]) rfl ?_
    unfold zDi
    rw[qb (by decide),qb (by decide),qb (by decide),qb (by decide),qe (by simp[zDX])]
  ·rw[zOD hf]
   dsimp! only[zCz,zRy,Option.getD_none]
   exact hN _ _ ⟨Sb.refl _,_,by rw[zM7 hf];rfl⟩
 rintro _ O1 ⟨s1,z5,rfl⟩
 refine zAz fun N hN=>?_
 cases e:zDi w r with
 |none=>
  dsimp! only[zCy]
  exact Fin.here (A.none_ hs e O1 s1)
 |some d=>
  obtain⟨hd,hp,k⟩:=A.deed hs d e
  have k:=k O1 s1
  dsimp! only[zCy,zBt]
  subst hN
  refine zAz fun N hN=>?_
  have H1:=H.keep s1
  dsimp! only[zCz,zAu]
  refine(H1.mDo (P:=fun a=>_)).mpr ?_
  refine⟨B,h,.one d,rfl,hd,H1,hp,?_⟩
  unfold DoP at k
  show match step h.S d with
   |.ok S' v=>_
   |.er b=>_
  cases es:step h.S d with
  |er b=>
   rw[es] at k
   exact fun d O' hd hs ho=>FinX.here (k d O' hd hs ho)
  |ok S' v=>
   rw[es] at k
   dsimp only at k⊢
   intro O' B' h' a1 a2 a3 a4 a5 a6 a7 a8 a9 a10
   have k:=k O' B' h' a1 a2 a3 a4 a5 a6 a7 a8 a9 a10
   subst hN
   rcases zP3 es with rfl|rfl|rfl
   ·dsimp! only[]
    exact Fin.here k
   ·dsimp! only[]
    exact⟨f0.log,Fin.here k⟩
   ·dsimp! only[]
    exact⟨f1.log,Fin.here k⟩
def zZs(b:Bad):Str:=match b.fs with
 |(_,.str m)::_=>m
 |[_,(_,.str m)]=>m
 |_=>PySem.Str.ofString ""
theorem zTa{b:Bad}(h:BKn b):b.fs.lookup (PySem.Str.ofString "says")=some (.str (zZs b)):=by
 cases h<;>rfl
def noT(b:Bad):Str:=PySem.Str.ofString "no: "++zZs b
theorem zQC{b:Bad}(h:BKn b):(zZs b).length≤20:=by
 cases h<;>exact Nat.le_of_ble_eq_true rfl
def zYP(tb:Tb):DS:=
 (zUn [⟨(fun cl b=>(cl=.ref tb.BadBar∧b=true)∨(cl=.ref tb.NoBreak∧b=true)∨(cl=.ref tb.BadPaper∧b=true)∨(cl=.ref tb.BadPlace∧b=true)∨(cl=.ref tb.BadStaff∧b=true)∨(cl=.ref tb.BadSpan∧b=true)∨(cl=.ref tb.BadThick∧b=true)∨(cl=.ref tb.BadWord∧b=true)∨(cl=.ref tb.Same∧b=true)∨(cl=.ref tb.Full∧b=true)∨(cl=.ref tb.BadDeed∧b=true)∨(cl=.ref tb.Nothing∧b=true)∨(cl=.ref tb.NoBar∧b=false)∨(cl=.ref tb.NoMoment∧b=false)∨(cl=.ref tb.NoMark∧b=false)∨(cl=.ref tb.NoLine∧b=false)),some 2,fun a cls d=>(zBd (dOp zDL (dC (.str (PySem.Str.ofString "no: "))) (zUm a cls d [tb.BadBar,tb.NoBreak,tb.BadPaper,tb.BadPlace,tb.BadStaff,tb.BadSpan,tb.BadThick,tb.BadWord,tb.Same,tb.Full,tb.BadDeed,tb.Nothing] "says" (zAd 2))))⟩,⟨(fun cl b=>(cl=.ref tb.NoBar∧b=true)∨(cl=.ref tb.NoMoment∧b=true)∨(cl=.ref tb.NoMark∧b=true)∨(cl=.ref tb.NoLine∧b=true)),some 2,fun a cls d=>(zBd (dOp zDL (dC (.str (PySem.Str.ofString "no: "))) (zUm a cls d [tb.NoBar,tb.NoMoment,tb.NoMark,tb.NoLine] "says" (zAd 2))))⟩] (zID (zBm (zLt tb) [.p 0,.p 1] [] (zAc (zAB tb.Desk "shop" (zAd 0)) (zAc (dFz (zGH (zAd 1) (dC (.str (PySem.Str.ofString " "))))) zAg)) zAg)))
def zY5:List Str:=["self","line","e"]
def zEv(tb:Tb):DSp:=fun xs O R _=>∃(a dx:Addr) (B:Om) (h:Sho) (line w:Str) (r:List Str),xs=[.ref a,.str line]∧O a=some (.ins tb.Desk dx [(("shop":Str),.ref h.q)])∧zFZ line " "=w::r∧line.length≤90000∧ShAt tb B O h∧NSm h.S.f0∧NSm h.S.f1∧(∀x∈r,x.length≤9999)∧
 AnsP tb B h w r O R (fun c d O'=>∃b dd,BKn b∧c=.ref (b.cls tb)∧d=some dd∧O' dd=some (.xd b.fs)∧R (.str (noT b)) O')
theorem AnsP.fin{tb:Tb}{B O:Om}{h:Sho}{w:Str}{r:List Str}{R R':D→Om→Prop}{Z Z':XD}(A:AnsP tb B h w r O R Z)(hR:∀v O',R v O'→R' v O')(hZ:∀c d O',Z c d O'→Z' c d O'):AnsP tb B h w r O R' Z' where
 no:=A.no
 ln:=A.ln
 bars:=fun a b=>hR _ _ (A.bars a b)
 undo:=fun a b=>by
  obtain⟨B,h,e,H,hl,k1,k2⟩:=A.undo a b
  exact⟨B,h,e,H,hl,fun e d O' hd hs ho=>hZ _ _ _ (k1 e d O' hd hs ho),fun init e he O' fr H'=>hR _ _ (k2 init e he O' fr H')⟩
 redo:=fun a b=>by
  obtain⟨B,h,e,H,hl,k1,k2⟩:=A.redo a b
  exact⟨B,h,e,H,hl,fun e d O' hd hs ho=>hZ _ _ _ (k1 e d O' hd hs ho),fun init e he O' fr H'=>hR _ _ (k2 init e he O' fr H')⟩
 none_:=fun a b O' s=>hR _ _ (A.none_ a b O' s)
 deed:=fun a d e=>by
  obtain⟨hd,hp,k⟩:=A.deed a d e
  refine⟨hd,hp,fun O1 s=>?_⟩
  have k:=k O1 s
  unfold DoP at k⊢
  split
  ·rename_i S' v es
   rw[es] at k
   exact fun O' B' h' a1 a2 a3 a4 a5 a6 a7 a8 a9 a10=>hR _ _ (k O' B' h' a1 a2 a3 a4 a5 a6 a7 a8 a9 a10)
  ·rename_i b es
   rw[es] at k
   exact fun d O' hd hs ho=>hZ _ _ _ (k d O' hd hs ho)
theorem yCd(tb:Tb):∀xs O R Z,zEv tb xs O R Z→zYP tb (zBw R) (zAr zY5 xs) O:=by
 rintro _ O R Z ⟨a,dx,B,h,line,w,r,rfl,ho,es,hl,H,f0,f1,hw,A⟩
 show zYP tb (zBw R) [some (.ref a),some (.str line),none] O
 unfold zYP zUn
 have hr:r.length≤100000:=by
  have:=(zDc (w:=line) (S:=PySem.Str.ofString " ") (c:=32) (by decide+kernel) (by decide+kernel)).2.1
  have e2:Txt.split line (PySem.Str.ofString " ")=w::r:=es
  rw[e2,qi] at this
  omega
 dsimp! only[zID,zAB,zBm]
 refine⟨a,dx,_,_,rfl,ho,rfl,?_⟩
 refine zEI (w:=line) (s:=" ") (fun Q q=>by dsimp! only[];exact q) (fun Q q=>q) (by decide) (by rw[sizeLine_eq];omega) ?_
 rw[es]
 refine⟨B,h,w,r,rfl,H,f0,f1,hr,hw,A.fin (fun v O' k=>Fin.here k) ?_⟩
 rintro _ _ O' ⟨b,dd,hb,rfl,rfl,hd,k⟩
 change zUv _ _ _ _ _ _
 have sy:=zTa hb
 have ls:=zQC hb
 have d4:(PySem.Str.ofString "no: ").length=4:=rfl
 have fin:∀cs:List Addr,b.cls tb∈cs→∀g a',g[2]?=some (some (.ref a'))→∀F:DEnds,F.rt=(zBw R).rt→zBd (dOp zDL (dC (.str (PySem.Str.ofString "no: "))) (zUm a' (.ref (b.cls tb)) (some dd) cs "says" (zAd 2))) F g O':=fun cs hc g a' hg F hF=>by
  dsimp! only[zUm,hg]
  refine⟨True.intro,b.cls tb,hc,rfl,dd,_,_,rfl,hd,sy,?_⟩
  refine⟨by rw[sizeLine_eq,d4];omega,?_⟩
  rw[hF]
  exact Fin.here k
 cases hb.kd tb with
 |z m e1 e2 e3=>
  refine zIH ?_ fun a' ha=>?_
  ·rcases e2 with e|e|e|e|e|e|e|e|e|e<;>rw[e]<;>repeat (first|exact .inl ⟨rfl,rfl⟩|exact⟨rfl,rfl⟩|apply Or.inr)
  ·dsimp only
   refine fin _ ?_ _ a' ?_ _ ?_
   ·rcases e2 with e|e|e|e|e|e|e|e|e|e<;>rw[e]<;>simp
   ·rfl
   ·rfl
 |l m n e1 l1 l2 l3 e2 e3=>
  refine zYe ?_ (zIH ?_ fun a' ha=>?_)
  ·rcases e2 with e|e|e|e<;>rw[e]<;>repeat (first|exact .inl ⟨rfl,rfl⟩|exact⟨rfl,rfl⟩|apply Or.inr)
  ·rcases e2 with e|e|e|e<;>rw[e]<;>repeat (first|exact .inl ⟨rfl,rfl⟩|exact⟨rfl,rfl⟩|apply Or.inr)
  ·dsimp only
   refine fin _ ?_ _ a' ?_ _ ?_
   ·rcases e2 with e|e|e|e<;>rw[e]<;>simp
   ·rfl
   ·rfl
 |b k hk e=>
  subst e
  refine zIH (by repeat (first|exact .inl ⟨rfl,rfl⟩|exact⟨rfl,rfl⟩|apply Or.inr)) fun a' ha=>?_
  dsimp only
  refine fin _ ?_ _ a' ?_ _ ?_
  ·simp[zUX]
  ·rfl
  ·rfl
 |k y e hy=>
  subst e
  refine zIH (by repeat (first|exact .inl ⟨rfl,rfl⟩|exact⟨rfl,rfl⟩|apply Or.inr)) fun a' ha=>?_
  dsimp only
  refine fin _ ?_ _ a' ?_ _ ?_
  ·simp[zZe]
  ·rfl
  ·rfl
def zPz(tb:Tb):DS:=
 (zAQ tb.Desk "shop" (zAd 0) (zEO tb.Shop (zLv tb) [.p 0,.k 0,.k 1,.d 0,.d 1,.d 2] [.int 10,.int 50,.int 5] zAg (zAc (zAd 1) (zAc (zAd 2) zAg))))
def zEg:List Str:=["self","width","lines"]
def zLs(tb:Tb):DSp:=fun xs O R Z=>∃(p dx:Addr) (w l:Int),xs=[.ref p,.int w,.int l]∧O p=some (.ins tb.Desk dx [])∧(Sht.ok ⟨w,l,10,50,5⟩=false→Told1 zDN tb O Z)∧
 (Sht.ok ⟨w,l,10,50,5⟩=true→∀O' B' h,Fr [p] O O'→O' p=some (.ins tb.Desk dx [(("shop":Str),.ref h.q)])→(∀a,O a≠none→B' a=none)→O h.q=none→O h.ap=none→O h.ag=none→h.S=⟨⟨w,l,10,50,5⟩,[],[],[],[],1,1⟩→h.past=[]→h.gone=[]→ShAt tb B' O' h→R .non O')
theorem yAz(tb:Tb):∀xs O R Z,zLs tb xs O R Z→zPz tb (zAC R Z) (zAr zEg xs) O:=by
 rintro _ O R Z ⟨p,dx,w,l,rfl,hp,k1,k2⟩
 show zPz tb (zAC R Z) [some (.ref p),some (.int w),some (.int l)] O
 unfold zPz
 dsimp! only[zAQ,zEO]
 intro q dq hq hdq hne
 have hs0:Sb O (up (up O dq (DO.own q)) q (DO.ins tb.Shop dq [])):=fun a o e=>by
  rw[up_ne (zAb hq e),up_ne (zAb hdq e)];exact e
 have hpq:p≠q:=zAb hq hp
 refine⟨q,dq,⟨w,l,10,50,5⟩,rfl,up_same,fun e d O' hd hs ho=>FinX.here (k1 e d O' (hs0.none hd) (hs0.trans hs) ho),fun e O' B' h fr nB ap0 ag0 e1 e2 e3 e4 H=>⟨rfl,?_⟩⟩
 have hp':O' p=some (.ins tb.Desk dx []):=fr p _ (hs0 _ _ hp) (by simpa using hpq)
 have np:∀a,O a=none→a≠p:=fun a ha z=>by rw[z,hp] at ha;cases ha
 refine⟨p,dx,[],rfl,hp',by decide,?_⟩
 refine Fin.here (k2 e _ B' h (fun a o ho n=>?_) (by rw[e1];exact up_same) (fun a ha=>?_) (by rw[e1];exact hq) (hs0.none ap0) (hs0.none ag0) e2 e3 e4 (H.fr fun a _ k=>up_ne ?_))
 ·rw[up_ne (by simpa using n)]
  exact fr a o (hs0 a o ho) (by simpa using zAb hq ho)
 ·cases q:O a with
  |none=>exact absurd q ha
  |some o=>exact nB a (by rw[hs0 a o q];exact fun z=>nomatch z)
 ·rcases k with k|rfl|rfl|rfl
  ·exact fun z=>k (by rw[z];exact nB p (by rw[hs0 p _ hp];exact fun z=>nomatch z))
  ·rw[e1];exact ql hpq
  ·exact np _ (hs0.none ap0)
  ·exact np _ (hs0.none ag0)
section
variable {L L':List Cmp}{O O':Om}{tb:Tb}
def Apt(x y:Cmp):Prop:=(∀a,x.own a→¬y.dep a)∧∀a,y.own a→¬x.dep a
theorem Apt.symm{x y:Cmp}(h:Apt x y):Apt y x:=⟨h.2,h.1⟩
theorem Sys.pw:Sys L O↔(∀x∈L,x.In O)∧L.Pairwise Apt:=by
 constructor
 ·intro C
  refine⟨C.i,List.pairwise_iff_getElem.mpr fun i j hi hj h=>⟨C.sep i j _ _ (by omega) (qg hi) (qg hj),C.sep j i _ _ (by omega) (qg hj) (qg hi)⟩⟩
 ·rintro⟨h1,h2⟩
  have h2:=List.pairwise_iff_getElem.mp h2
  refine⟨h1,fun i j x y n hx hy=>?_⟩
  obtain⟨hi,rfl⟩:=qf.mp hx
  obtain⟨hj,rfl⟩:=qf.mp hy
  rcases Nat.lt_or_gt_of_ne n with h|h
  ·exact(h2 i j hi hj h).1
  ·exact(h2 j i hj hi h).2
theorem Sys.perm(C:Sys L O)(p:L.Perm L'):Sys L' O:=by
 obtain⟨h1,h2⟩:=Sys.pw.mp C
 exact Sys.pw.mpr ⟨fun x hx=>h1 x (p.mem_iff.mpr hx),(p.pairwise_iff Apt.symm).mp h2⟩
theorem Sys.val(C:Sys L O){i:Nat}{p:Addr}{o o':DO}(h:L[i]?=some (zRG p o)):Sys (L.set i (zRG p o')) (up O p o'):=
 C.step h (fun a _ n=>up_ne (fun z=>n z)) (zO7 up_same) (fun a _ z=>z) fun a _ z=>z
theorem Sys.mem(C:Sys L O){x:Cmp}(h:x∈L):x.at_ O:=(C.i x h).at_
end
mutual
def pyD:D→PyData
 |.bl b=>.bool b
 |.int i=>.int i
 |.str s=>.str s
 |.tup xs=>.tuple (pyDs xs)
 |.lst xs=>.list (pyDs xs)
 |_=>.none
def pyDs:List D→List PyData
 |[]=>[]
 |x::xs=>pyD x::pyDs xs
end
mutual
def zQU:D→Bool
 |.non=>true
 |.bl _=>true
 |.int _=>true
 |.str _=>true
 |.tup xs=>plnDs xs
 |.lst xs=>plnDs xs
 |_=>false
def plnDs:List D→Bool
 |[]=>true
 |x::xs=>zQU x&&plnDs xs
end
mutual
theorem zWl{O:Om}:∀x:D,zQU x=true→Vw O x (pyD x)
 |.non,_=>by rw[show pyD .non=.none by unfold pyD;rfl];exact .non
 |.bl b,_=>by rw[pyD];exact .bl b
 |.int i,_=>by rw[pyD];exact .int i
 |.str s,_=>by rw[pyD];exact .str s
 |.tup xs,h=>by rw[zQU] at h;rw[pyD];exact .tup (pys_vw xs h)
 |.lst xs,h=>by rw[zQU] at h;rw[pyD];exact .lst (pys_vw xs h)
 |.ref a,h=>by simp[zQU] at h
 |.ty n,h=>by simp[zQU] at h
 |.ptup xs,h=>by simp[zQU] at h
theorem pys_vw{O:Om}:∀xs:List D,plnDs xs=true→Vws O xs (pyDs xs)
 |[],_=>by rw[pyDs];exact .nil
 |x::xs,h=>by
  rw[plnDs,qE] at h
  rw[pyDs]
  exact .cons (zWl x h.1) (pys_vw xs h.2)
end
theorem zQR{O:Om}{R:D→Om→Prop}{zs:List D}(h:zQU (.lst zs)=true)(h1:(pyD (.lst zs)).showable=true)(h2:(pyD (.lst zs)).hasDict=false)(h3:(pyD (.lst zs)).depth≤32)(h4:(pyD (.lst zs)).shown.length≤sizeLine)(r:R (.str (pyD (.lst zs)).shown) O):zM9 [.lst zs] O R:=
 ⟨zs,_,rfl,zWl _ h,h1,h2,h3,h4,r⟩
def zZl(p:Int×Int):Str:=nT p.1++"."++nT p.2
def yA4:List Str:=[PySem.Str.ofString "bar",PySem.Str.ofString "change"]
inductive El (bc:Bool):D→List Str→Prop
 |int (i:Int):NSm i→El bc (.int i) [nT i]
 |str (w:Str):w.length≤1000→El bc (.str w) [w]
 |tip (p:Int×Int):bc=false→NSm p.1→NSm p.2→El bc (zKt p) [zZl p]
 |mus (m:List Mom):bc=true→zMx m→El bc (zDM m) (m.map moT)
theorem zPv{p:Int×Int}(h1:NSm p.1)(h2:NSm p.2):(zZl p).length≤127:=by
 unfold zZl
 have:=h1.len
 have:=h2.len
 rw[Str.length_append,Str.length_append,show(".":Str).length=1 from rfl]
 omega
theorem El.len{bc:Bool}{y:D}{ws:List Str}(h:El bc y ws):ws.length≤13∧∀w∈ws,w.length≤1200:=by
 cases h with
 |int i h=>exact⟨by simp,fun w hw=>by rw[qh.mp hw];exact qo h.len (by decide)⟩
 |str w h=>exact⟨by simp,fun w hw=>by rw[qh.mp hw];omega⟩
 |tip p _ h1 h2=>exact⟨by simp,fun w hw=>by rw[qh.mp hw];exact qo (zPv h1 h2) (by decide)⟩
 |mus m _ h=>
  refine⟨by rw[qd];exact h.1,fun w hw=>?_⟩
  obtain⟨x,hx,rfl⟩:=qy.mp hw
  exact zRf (h.2 x hx)
structure Els(nm:Str)(ys:List D)(wss:List (List Str)):Prop where
 l:ys.length≤10
 e:wss.length=ys.length
 all:∀(i:Nat) y,ys[i]?=some y→∃ws,wss[i]?=some ws∧El (decide (nm∈yA4)) y ws
theorem Els.flat{nm:Str}{ys:List D}{wss:List (List Str)}(h:Els nm ys wss)(k:Nat):(wss.take k).flatten.length≤130∧∀w∈(wss.take k).flatten,w.length≤1200:=by
 have mem:∀ws∈wss,ws.length≤13∧∀w∈ws,w.length≤1200:=fun ws hw=>by
  obtain⟨i,hi⟩:=List.mem_iff_getElem?.mp hw
  have hlt:=(qf.mp hi).1
  rw[h.e] at hlt
  obtain⟨ws',h1,h2⟩:=h.all i _ (qg hlt)
  rw[hi] at h1
  cases h1
  exact h2.len
 refine⟨?_,fun w hw=>?_⟩
 ·rw[List.length_flatten]
  have:=zNt (xs:=(wss.take k).map List.length) (m:=13) fun x hx=>by
   obtain⟨ws,hw,rfl⟩:=qy.mp hx
   exact(mem ws (jY hw)).1
  rw[qd,kg] at this
  have hl:=h.l
  have he:=h.e
  have:min k wss.length*13≤10*13:=qS _ (by omega)
  omega
 ·obtain⟨ws,h1,h2⟩:=List.mem_flatten.mp hw
  exact(mem ws (jY h1)).2 w h2
def zVX:Ask→Bool
 |.one (.bar _ m)=>!m.isEmpty
 |.one (.change _ m)=>!m.isEmpty
 |.one (.bound _ w)=>decide (w∈[zGx,zCD,zEk,PySem.Str.ofString "odd",PySem.Str.ofString "abcdefgh"])
 |.one _=>true
 |.odd _=>false
def zOI:List Str:=[zGx,zCD,zEk,PySem.Str.ofString "odd",PySem.Str.ofString "abcdefgh",PySem.Str.ofString "Must",PySem.Str.ofString ""]
def yCj:Deed→Prop
 |.bound _ w=>w∈zOI
 |d=>yBq d
def DrawnE:Ask→Prop
 |.one d=>DOk d∧zPc d∧yCj d
 |.odd ys=>∃n:Int,Num n∧ys=[zHh "cut",.int n,.int 0]
theorem DrawnE.ok{a:Ask}(h:DrawnE a):AOk a∧zSK a:=by
 cases a with
 |one d=>exact⟨h.1,h.2.1⟩
 |odd ys=>
  obtain⟨n,_,rfl⟩:=h
  refine⟨⟨fun y r z=>?_,.inl rfl⟩,trivial⟩
  cases z
  exact⟨_,rfl,rfl⟩
structure LineA(a:Ask)(nm:Str)(ys:List D)(wss:List (List Str)):Prop where
 e:zHO a=.tup (.str nm::ys)
 els:Els nm ys wss
 sp:∀w∈nm::wss.flatten,32∉TL.tl w
 ln:wss.flatten.length≤14
 nl:nm.length≤10
 fm:nm∈zGA
 yes:zVX a=true→∃d,a=.one d∧zDi nm wss.flatten=some d
 no:zVX a=false→zDi nm wss.flatten=none
inductive Elz (bc:Bool):List D→List (List Str)→Prop
 |nil:Elz bc [] []
 |cons {y:D}{ws:List Str}{ys:List D}{wss:List (List Str)}:El bc y ws→Elz bc ys wss→Elz bc (y::ys) (ws::wss)
theorem Elz.len{bc:Bool}{ys:List D}{wss:List (List Str)}(h:Elz bc ys wss):wss.length=ys.length:=by
 induction h with
 |nil=>rfl
 |cons _ _ ih=>rw[qi,qi,ih]
theorem LineA.line{a:Ask}{nm:Str}{ys:List D}{wss:List (List Str)}(h:LineA a nm ys wss):zFZ (Txt.join (PySem.Str.ofString " ") (nm::wss.flatten)) " "=nm::wss.flatten∧(Txt.join (PySem.Str.ofString " ") (nm::wss.flatten)).length≤90000∧∀x∈wss.flatten,x.length≤1200:=by
 have fl:∀x∈wss.flatten,x.length≤1200:=fun x hx=>(h.els.flat wss.length).2 x (by rw[ka];exact hx)
 rw[←zOE]
 refine⟨zLr (s:=" ") (c:=32) (by decide+kernel) (by decide+kernel) (h.sp _ qz) fun y hy=>h.sp y (qA _ hy),?_,fl⟩
 have:=zGB (sep:=PySem.Str.ofString " ") (m:=1200) (ys:=wss.flatten) (x:=nm) fl
 have d2:(PySem.Str.ofString " ").length=1:=rfl
 rw[d2] at this
 have h1:=h.ln
 have h2:=h.nl
 have:wss.flatten.length*(1+1200)≤14*1201:=qS _ h1
 unfold foT
 omega
def zEJ(tb:Tb)(dx q:Addr):DO:=.ins tb.Desk dx [(("shop":Str),.ref q)]
def zSO:Str:=PySem.Str.ofString "undo"
def zTm:Str:=PySem.Str.ofString "redo"
section
variable {tb:Tb}{B O:Om}{h:Sho}{R:D→Om→Prop}{Z:XD}{dk dx:Addr}{a:Ask}{nm:Str}{ys:List D}{wss:List (List Str)}
def zZr(tb:Tb)(R:D→Om→Prop):XD:=fun c d O'=>∃b dd,BKn b∧c=.ref (b.cls tb)∧d=some dd∧O' dd=some (.xd b.fs)∧R (.str (noT b)) O'
theorem zQy(ho:O dk=some (zEJ tb dx h.q))(H:ShAt tb B O h)(f0:NSm h.S.f0)(f1:NSm h.S.f1)(k:zFg tb [.ref h.q] O R (zZr tb R)):zEv tb [.ref dk,.str zSO] O R Z:=
 ⟨dk,dx,B,h,zSO,zSO,[],rfl,ho,by decide+kernel,by decide,H,f0,f1,(fun x z=>by cases z),(fun _ _=>.inr (.inl rfl)),(fun z=>by rcases z with z|z<;>exact absurd z (by decide)),(fun _ z=>absurd z (by decide)),(fun _ _=>k),(fun _ z=>absurd z (by decide)),(fun z=>absurd (by decide+kernel) (z rfl)),fun z=>absurd (by decide+kernel) (z rfl)⟩
theorem zQz(ho:O dk=some (zEJ tb dx h.q))(H:ShAt tb B O h)(f0:NSm h.S.f0)(f1:NSm h.S.f1)(k:zFf tb [.ref h.q] O R (zZr tb R)):zEv tb [.ref dk,.str zTm] O R Z:=
 ⟨dk,dx,B,h,zTm,zTm,[],rfl,ho,by decide+kernel,by decide,H,f0,f1,(fun x z=>by cases z),(fun _ _=>.inr (.inr rfl)),(fun z=>by rcases z with z|z<;>exact absurd z (by decide)),(fun _ z=>absurd z (by decide)),(fun _ z=>absurd z (by decide)),(fun _ _=>k),(fun z=>absurd (by decide+kernel) (z rfl)),fun z=>absurd (by decide+kernel) (z rfl)⟩
end
theorem zOQ{tb:Tb}{b dk dx:Addr}{ts:List (Addr×Str)}{O1 O2 B2:Om}{h2:Sho}(bag:Bag O1 b)(tabs:∀p∈ts,O1 p.1=some (.tab p.2))(hdk:O1 dk=none)(hdx:O1 dx=none)(hne:dx≠dk)(fr:Fr [dk] (up (up O1 dx (.own dk)) dk (.ins tb.Desk dx [])) O2)(dk2:O2 dk=some (zEJ tb dx h2.q))
  (nB:∀a,(up (up O1 dx (.own dk)) dk (.ins tb.Desk dx [])) a≠none→B2 a=none) (q0:(up (up O1 dx (.own dk)) dk (.ins tb.Desk dx [])) h2.q=none) (p0:(up (up O1 dx (.own dk)) dk (.ins tb.Desk dx [])) h2.ap=none) (g0:(up (up O1 dx (.own dk)) dk (.ins tb.Desk dx [])) h2.ag=none) (H:ShAt tb B2 O2 h2):
  ∃cb,Sys [zUE tb B2 h2,zRH b cb,zUD ts,zRG dk (zEJ tb dx h2.q)] O2:=by
 have s0:Sb O1 (up (up O1 dx (DO.own dk)) dk (DO.ins tb.Desk dx [])):=fun a o e=>by
  rw[up_ne (zAb hdk e),up_ne (zAb hdx e)];exact e
 have s2:Sb O1 O2:=fun a o e=>fr a o (s0 a o e) (by simpa using zAb hdk e)
 obtain⟨cb,_,_,_,_,_,cel,w1,w2⟩:=bag.cell
 have C0:Sys [zUD ts] O1:=Sys.nil.cons (zUC tabs) (fun y hy=>by cases hy) (fun y hy=>by cases hy)
 have C1:Sys [zRH b cb,zUD ts] O1:=C0.cons (zO8 bag cel) (fun y hy a ha hd=>by
  rw[qh.mp hy] at hd
  obtain⟨s,hs⟩:=hd
  have e:=tabs _ hs
  rcases ha with rfl|rfl
  ·rw[w1] at e;cases e
  ·rw[w2] at e;cases e) (fun y hy a ha=>by rw[qh.mp hy] at ha;exact ha.elim)
 have C2:Sys [zRG dk (zEJ tb dx h2.q),zRH b cb,zUD ts] O2:=C1.add s2 (zO7 dk2) (fun a ha=>by have:a=dk:=ha;rw[this];exact hdk) fun a ha z=>absurd (by have z:a=dk:=z;rw[z];exact hdk) ha
 have old:∀y∈[zRG dk (zEJ tb dx h2.q),zRH b cb,zUD ts],∀a,y.dep a→(up (up O1 dx (DO.own dk)) dk (DO.ins tb.Desk dx [])) a≠none:=fun y hy a ha=>by
  rcases qj.mp hy with rfl|hy
  ·have:a=dk:=ha
   rw[this,up_same];exact fun z=>nomatch z
  ·have:=(C1.i y hy).th a ha
   cases e:O1 a with
   |none=>exact absurd e this
   |some o=>rw[s0 a o e];exact fun z=>nomatch z
 have C3:=C2.cons (zK9 H) (fun y hy a ha hd=>by
  have n:=old y hy a hd
  rcases ha with rfl|rfl|rfl
  ·exact n q0
  ·exact n p0
  ·exact n g0) fun y hy a ha hd=>by
  have n:=old y hy a ((C2.i y hy).sub a ha)
  rcases hd with z|rfl|rfl|rfl
  ·exact z (nB a n)
  ·exact n q0
  ·exact n p0
  ·exact n g0
 refine⟨cb,C3.perm (.cons _ ?_)⟩
 exact(List.Perm.swap _ _ _).trans (.cons _ (.swap _ _ _))
def zG1(line:Str):Bool:=decide (line.length≤9000)&&(match zFZ line " " with
 |[]=>false
 |w::r=>(((zDi w r).isNone&&!(r.isEmpty&&decide (w∈zAS)))&&!(decide (w∈[PySem.Str.ofString "places",PySem.Str.ofString "spaces"])&&(match r with|[x]=>(zDY x).isSome|_=>false))))
section
variable {tb:Tb}{B O:Om}{h:Sho}{R:D→Om→Prop}{Z:XD}{dk dx:Addr}{line:Str}
theorem zS9(hs:zG1 line=true)(ho:O dk=some (zEJ tb dx h.q))(H:ShAt tb B O h)(f0:NSm h.S.f0)(f1:NSm h.S.f1)(k:∀O',Sb O O'→R (.str (PySem.Str.ofString "no line")) O'):zEv tb [.ref dk,.str line] O R Z:=by
 unfold zG1 at hs
 rw[qE,qp] at hs
 obtain⟨hl,hs⟩:=hs
 have sm:=(zDc (w:=line) (S:=PySem.Str.ofString " ") (c:=32) (by decide+kernel) (by decide+kernel)).2.2
 have sm:∀p∈zFZ line " ",p.length≤line.length:=sm
 cases e:zFZ line " " with
 |nil=>rw[e] at hs;cases hs
 |cons w r=>
  rw[e] at hs sm
  dsimp only at hs
  rw[qE,qE] at hs
  obtain⟨⟨h1,h2⟩,h3⟩:=hs
  have n1:r=[]→w∉zAS:=fun z m=>by
   rw[z,qx m] at h2
   cases h2
  have n3:(w=PySem.Str.ofString "places"∨w=PySem.Str.ofString "spaces")→∀x,r=[x]→zDY x=none:=fun z x er=>by
   subst er
   rw[qx (by rcases z with z|z<;>simp[z])] at h3
   have h3:(!(true&&(zDY x).isSome))=true:=h3
   cases q:zDY x with
   |none=>rfl
   |some i=>rw[q] at h3;cases h3
  have en:zDi w r=none:=Option.isNone_iff_eq_none.mp h1
  exact⟨dk,dx,B,h,line,w,r,rfl,ho,e,by omega,H,f0,f1,(fun x hx=>by have:=sm x (qA _ hx);omega),(fun z m=>absurd m (n1 z)),n3,(fun z m=>absurd (by rw[m];decide+kernel) (n1 z)),(fun z m=>absurd (by rw[m];decide+kernel) (n1 z)),(fun z m=>absurd (by rw[m];decide+kernel) (n1 z)),(fun _ _=>k),fun _ d e2=>by rw[en] at e2;cases e2⟩
theorem zQA{w:Str}{r:List Str}{d:Deed}(es:zFZ line " "=w::r)(hl:line.length≤9000)(hr:r≠[])(hw:w≠PySem.Str.ofString "places"∧w≠PySem.Str.ofString "spaces")(ed:zDi w r=some d)(hd:DOk d)(hp:h.past.length<100000)(ho:O dk=some (zEJ tb dx h.q))(H:ShAt tb B O h)(f0:NSm h.S.f0)(f1:NSm h.S.f1)(k:∀O1,Sb O O1→DoP tb B h d O1 R (zZr tb R)):zEv tb [.ref dk,.str line] O R Z:=by
 have sm:=(zDc (w:=line) (S:=PySem.Str.ofString " ") (c:=32) (by decide+kernel) (by decide+kernel)).2.2
 have sm:∀p∈zFZ line " ",p.length≤line.length:=sm
 rw[es] at sm
 refine⟨dk,dx,B,h,line,w,r,rfl,ho,es,by omega,H,f0,f1,(fun x hx=>by have:=sm x (qA _ hx);omega),(fun z _=>absurd z hr),(fun z=>by rcases z with z|z;exact absurd z hw.1;exact absurd z hw.2),(fun z=>absurd z hr),(fun z=>absurd z hr),(fun z=>absurd z hr),(fun _ e2=>by rw[ed] at e2;cases e2),fun _ d2 e2=>?_⟩
 rw[ed] at e2
 cases e2
 exact⟨hd,hp,k⟩
end
def zW4:List Str:=[PySem.Str.ofString "",PySem.Str.ofString " ",PySem.Str.ofString "Bars",PySem.Str.ofString "bars ",PySem.Str.ofString " bars",PySem.Str.ofString "bars 1",PySem.Str.ofString "undo 1",PySem.Str.ofString "redo undo",PySem.Str.ofString "none",PySem.Str.ofString "bar",PySem.Str.ofString "bar 0",PySem.Str.ofString "bar x 4.0",PySem.Str.ofString "bar 0 4",PySem.Str.ofString "bar 0 4.0 ",PySem.Str.ofString "bar 0  4.0",PySem.Str.ofString "bar 0 4.0+",PySem.Str.ofString "bar 0 4.0+0,1",PySem.Str.ofString "bar 0 4.0+0,1,x",PySem.Str.ofString "bar 0 4.0+0,1,s,",PySem.Str.ofString "bar 00 4.0",PySem.Str.ofString "bar 0 04.0",PySem.Str.ofString "bar 0 4.0.0",PySem.Str.ofString "bar 1234567890 4.0",PySem.Str.ofString "change 1",PySem.Str.ofString "change 4.0 1",PySem.Str.ofString "cut",PySem.Str.ofString "cut 1 1",PySem.Str.ofString "cut -0",PySem.Str.ofString "cut +1",PySem.Str.ofString "cut 1.0"]
def zW3:List Str:=[PySem.Str.ofString "move 1",PySem.Str.ofString "move 1 0 0",PySem.Str.ofString "move one 0",PySem.Str.ofString "wipe",PySem.Str.ofString "wipe 1 1",PySem.Str.ofString "mark 0 1.0 1.0",PySem.Str.ofString "mark 0 1 1.0 1",PySem.Str.ofString "mark 0 1.0 1.0 1 1",PySem.Str.ofString "mark 0 1.0.0 1.0 1",PySem.Str.ofString "mark x 1.0 1.0 1",PySem.Str.ofString "end 1",PySem.Str.ofString "end 1 Must",PySem.Str.ofString "end 1 must must",PySem.Str.ofString "end 1 abcdefghi",PySem.Str.ofString "end must 1",PySem.Str.ofString "end 1 m1",PySem.Str.ofString "paper",PySem.Str.ofString "paper 1 2 3 4",PySem.Str.ofString "paper 1 2 3 4 5 6",PySem.Str.ofString "paper a 4 10 50 5",PySem.Str.ofString "layout 0",PySem.Str.ofString "cost 1",PySem.Str.ofString "places",PySem.Str.ofString "places 0 0",PySem.Str.ofString "places x",PySem.Str.ofString "spaces 00",PySem.Str.ofString "spaces",PySem.Str.ofString "many",PySem.Str.ofString "many cut 1",PySem.Str.ofString "line 0",PySem.Str.ofString "twin",PySem.Str.ofString "piece",PySem.Str.ofString "bars\n",PySem.Str.ofString "undo\n"]
def manyS:Str:=Txt.mul (PySem.Str.ofString "1") 500
def oddsL:List Str:=zW4++(PySem.Str.ofString "cut "++manyS)::zW3
theorem zW2:∀x∈zW4,zG1 x=true:=by decide+kernel
theorem zW1:∀x∈zW3,zG1 x=true:=by decide+kernel
theorem zMa(z:List Nat):∀(m:Nat) (acc:Array Nat),((List.replicate m z.toArray).foldl (·++·) acc).toList=acc.toList++(List.replicate m z).flatten
 |0,acc=>by simp
 |m+1,acc=>by
  rw[List.replicate_succ,List.foldl_cons,zMa z m,List.replicate_succ,kE]
  simp
theorem zKs:TL.tl manyS=List.replicate 500 49:=by
 have e:TL.tl (PySem.Str.ofString "1")=[49]:=by decide+kernel
 have e2:(PySem.Str.ofString "1").cps=[49].toArray:=by
  apply Array.toList_inj.mp
  exact e
 unfold manyS Txt.mul
 rw[qb (by decide),qb (by decide)]
 show((List.replicate (Int.toNat 500) (PySem.Str.ofString "1").cps).foldl (·++·) #[]).toList=_
 rw[e2,zMa]
 have:∀n,(List.replicate n [49]).flatten=List.replicate n 49:=fun n=>by
  induction n with
  |zero=>rfl
  |succ n ih=>rw[List.replicate_succ,kE,ih,List.replicate_succ];rfl
 rw[this]
 rfl
theorem zRh:manyS.length=500:=by
 have:(TL.tl manyS).length=manyS.length:=qV
 rw[←this,zKs,List.length_replicate]
theorem zQ6:zG1 (PySem.Str.ofString "cut "++manyS)=true:=by
 have n0:zDY manyS=none:=by
  unfold zDY zR9
  rw[qb]
  intro z
  have:(zGC (TL.tl manyS)).length=500:=by
   rw[zKs]
   unfold zGC
   rw[qb (by decide),List.length_replicate]
  rw[this] at z
  exact absurd z.1.2 (by decide)
 have e:zFZ (PySem.Str.ofString "cut "++manyS) " "=[PySem.Str.ofString "cut",manyS]:=by
  have:=zLr (s:=" ") (c:=32) (x:=PySem.Str.ofString "cut") (ys:=[manyS]) (by decide+kernel) (by decide+kernel) (by decide+kernel) (fun y hy=>by
   rw[qh.mp hy,zKs]
   intro z
   have:=List.eq_of_mem_replicate z
   cases this)
  exact this
 unfold zG1
 rw[e]
 have ed:zDi (PySem.Str.ofString "cut") [manyS]=none:=by
  show(zED (PySem.Str.ofString "cut") [manyS]).bind (zId (PySem.Str.ofString "cut"))=none
  have:zDP [manyS]=none:=by
   show zIZ [zDY manyS]=none
   rw[n0]
   rfl
  unfold zED
  rw[this]
  rfl
 dsimp only
 rw[ed,qx (by rw[Str.length_append,zRh];decide)]
 rfl
theorem zTC:∀x∈oddsL,zG1 x=true:=fun x hx=>by
 rcases qD.mp hx with hx|hx
 ·exact zW2 x hx
 ·rcases qj.mp hx with rfl|hx
  ·exact zQ6
  ·exact zW1 x hx
def zYv:DS:=
 (zAt (zBY 0 (zBA zAg))
 (zAt (zBY 0 (dOp zCA (zAd 0) (zBA (zAc (dC (.str (PySem.Str.ofString ""))) (zAc (dC (.str (PySem.Str.ofString " "))) (zAc (dC (.str (PySem.Str.ofString "Bars"))) (zAc (dC (.str (PySem.Str.ofString "bars "))) (zAc (dC (.str (PySem.Str.ofString " bars"))) (zAc (dC (.str (PySem.Str.ofString "bars 1"))) (zAc (dC (.str (PySem.Str.ofString "undo 1"))) (zAc (dC (.str (PySem.Str.ofString "redo undo"))) (zAc (dC (.str (PySem.Str.ofString "none"))) (zAc (dC (.str (PySem.Str.ofString "bar"))) zAg)))))))))))))
 (zAt (zBY 0 (dOp zCA (zAd 0) (zBA (zAc (dC (.str (PySem.Str.ofString "bar 0"))) (zAc (dC (.str (PySem.Str.ofString "bar x 4.0"))) (zAc (dC (.str (PySem.Str.ofString "bar 0 4"))) (zAc (dC (.str (PySem.Str.ofString "bar 0 4.0 "))) (zAc (dC (.str (PySem.Str.ofString "bar 0  4.0"))) (zAc (dC (.str (PySem.Str.ofString "bar 0 4.0+"))) zAg)))))))))
 (zAt (zBY 0 (dOp zCA (zAd 0) (zBA (zAc (dC (.str (PySem.Str.ofString "bar 0 4.0+0,1"))) (zAc (dC (.str (PySem.Str.ofString "bar 0 4.0+0,1,x"))) (zAc (dC (.str (PySem.Str.ofString "bar 0 4.0+0,1,s,"))) (zAc (dC (.str (PySem.Str.ofString "bar 00 4.0"))) (zAc (dC (.str (PySem.Str.ofString "bar 0 04.0"))) zAg))))))))
 (zAt (zBY 0 (dOp zCA (zAd 0) (zBA (zAc (dC (.str (PySem.Str.ofString "bar 0 4.0.0"))) (zAc (dC (.str (PySem.Str.ofString "bar 1234567890 4.0"))) (zAc (dC (.str (PySem.Str.ofString "change 1"))) (zAc (dC (.str (PySem.Str.ofString "change 4.0 1"))) (zAc (dC (.str (PySem.Str.ofString "cut"))) (zAc (dC (.str (PySem.Str.ofString "cut 1 1"))) zAg)))))))))
 (zAt (zBY 0 (dOp zCA (zAd 0) (zBA (zAc (dC (.str (PySem.Str.ofString "cut -0"))) (zAc (dC (.str (PySem.Str.ofString "cut +1"))) (zAc (dC (.str (PySem.Str.ofString "cut 1.0"))) (zAc (dOp zDL (dC (.str (PySem.Str.ofString "cut "))) (dOp zRx (dC (.str (PySem.Str.ofString "1"))) (dC (.int 500)))) (zAc (dC (.str (PySem.Str.ofString "move 1"))) (zAc (dC (.str (PySem.Str.ofString "move 1 0 0"))) zAg)))))))))
 (zAt (zBY 0 (dOp zCA (zAd 0) (zBA (zAc (dC (.str (PySem.Str.ofString "move one 0"))) (zAc (dC (.str (PySem.Str.ofString "wipe"))) (zAc (dC (.str (PySem.Str.ofString "wipe 1 1"))) (zAc (dC (.str (PySem.Str.ofString "mark 0 1.0 1.0"))) (zAc (dC (.str (PySem.Str.ofString "mark 0 1 1.0 1"))) zAg))))))))
 (zAt (zBY 0 (dOp zCA (zAd 0) (zBA (zAc (dC (.str (PySem.Str.ofString "mark 0 1.0 1.0 1 1"))) (zAc (dC (.str (PySem.Str.ofString "mark 0 1.0.0 1.0 1"))) (zAc (dC (.str (PySem.Str.ofString "mark x 1.0 1.0 1"))) (zAc (dC (.str (PySem.Str.ofString "end 1"))) zAg)))))))
 (zAt (zBY 0 (dOp zCA (zAd 0) (zBA (zAc (dC (.str (PySem.Str.ofString "end 1 Must"))) (zAc (dC (.str (PySem.Str.ofString "end 1 must must"))) (zAc (dC (.str (PySem.Str.ofString "end 1 abcdefghi"))) (zAc (dC (.str (PySem.Str.ofString "end must 1"))) (zAc (dC (.str (PySem.Str.ofString "end 1 m1"))) zAg))))))))
 (zAt (zBY 0 (dOp zCA (zAd 0) (zBA (zAc (dC (.str (PySem.Str.ofString "paper"))) (zAc (dC (.str (PySem.Str.ofString "paper 1 2 3 4"))) (zAc (dC (.str (PySem.Str.ofString "paper 1 2 3 4 5 6"))) (zAc (dC (.str (PySem.Str.ofString "paper a 4 10 50 5"))) (zAc (dC (.str (PySem.Str.ofString "layout 0"))) zAg))))))))
 (zAt (zBY 0 (dOp zCA (zAd 0) (zBA (zAc (dC (.str (PySem.Str.ofString "cost 1"))) (zAc (dC (.str (PySem.Str.ofString "places"))) (zAc (dC (.str (PySem.Str.ofString "places 0 0"))) (zAc (dC (.str (PySem.Str.ofString "places x"))) (zAc (dC (.str (PySem.Str.ofString "spaces 00"))) (zAc (dC (.str (PySem.Str.ofString "spaces"))) (zAc (dC (.str (PySem.Str.ofString "many"))) zAg))))))))))
 (zAt (zBY 0 (dOp zCA (zAd 0) (zBA (zAc (dC (.str (PySem.Str.ofString "many cut 1"))) (zAc (dC (.str (PySem.Str.ofString "line 0"))) (zAc (dC (.str (PySem.Str.ofString "twin"))) (zAc (dC (.str (PySem.Str.ofString "piece"))) (zAc (dC (.str (PySem.Str.ofString "bars\n"))) (zAc (dC (.str (PySem.Str.ofString "undo\n"))) zAg)))))))))
 (zBd (zAd 0))))))))))))))
def zZ8:List Str:=["_law_found"]
def zQe:DSp:=fun xs O R _=>xs=[]∧R (.lst (oddsL.map D.str)) O
theorem yBS:∀xs O R Z,zQe xs O R Z→zYv (zBw R) (zAr zZ8 xs) O:=by
 rintro _ O R Z ⟨rfl,k⟩
 show zYv (zBw R) [none] O
 unfold zYv
 refine zAz fun N hN=>?_;dsimp! only[]
 subst hN
 refine zAz fun N hN=>?_;dsimp! only[]
 refine⟨by rw[sizeLine_eq];exact Nat.le_of_ble_eq_true rfl,?_⟩
 subst hN
 refine zAz fun N hN=>?_;dsimp! only[]
 refine⟨by rw[sizeLine_eq];exact Nat.le_of_ble_eq_true rfl,?_⟩
 subst hN
 refine zAz fun N hN=>?_;dsimp! only[]
 refine⟨by rw[sizeLine_eq];exact Nat.le_of_ble_eq_true rfl,?_⟩
 subst hN
 refine zAz fun N hN=>?_;dsimp! only[]
 refine⟨by rw[sizeLine_eq];exact Nat.le_of_ble_eq_true rfl,?_⟩
 subst hN
 refine zAz fun N hN=>?_;dsimp! only[zRx]
 refine⟨_,_,rfl,rfl,⟨by decide,fun _ _=>by decide,fun _ _=>by decide⟩,by rw[sizeLine_eq];exact Nat.le_of_ble_eq_true rfl,by rw[sizeLine_eq];exact Nat.le_of_ble_eq_true rfl,?_⟩
 subst hN
 refine zAz fun N hN=>?_;dsimp! only[]
 refine⟨by rw[sizeLine_eq];exact Nat.le_of_ble_eq_true rfl,?_⟩
 subst hN
 refine zAz fun N hN=>?_;dsimp! only[]
 refine⟨by rw[sizeLine_eq];exact Nat.le_of_ble_eq_true rfl,?_⟩
 subst hN
 refine zAz fun N hN=>?_;dsimp! only[]
 refine⟨by rw[sizeLine_eq];exact Nat.le_of_ble_eq_true rfl,?_⟩
 subst hN
 refine zAz fun N hN=>?_;dsimp! only[]
 refine⟨by rw[sizeLine_eq];exact Nat.le_of_ble_eq_true rfl,?_⟩
 subst hN
 refine zAz fun N hN=>?_;dsimp! only[]
 refine⟨by rw[sizeLine_eq];exact Nat.le_of_ble_eq_true rfl,?_⟩
 subst hN
 refine zAz fun N hN=>?_;dsimp! only[]
 refine⟨by rw[sizeLine_eq];exact Nat.le_of_ble_eq_true rfl,?_⟩
 subst hN
 dsimp! only[]
 exact Fin.here k
def zYu:DS:=
 (zBd (dOp (zIY fun b=>b) (zAd 0) (zBA (zAc (dC (.str (PySem.Str.ofString "bars"))) (zAc (dC (.str (PySem.Str.ofString "marks"))) (zAc (dC (.str (PySem.Str.ofString "layout"))) (zAc (dC (.str (PySem.Str.ofString "cost"))) (zAc (dC (.str (PySem.Str.ofString "undo"))) (zAc (dC (.str (PySem.Str.ofString "redo"))) zAg)))))))))
def zZ7:List Str:=["_law_text"]
def zQd:DSp:=fun xs O R _=>∃w:Str,xs=[.str w]∧R (.bl (decide (w∈zAS))) O
theorem yBR:∀xs O R Z,zQd xs O R Z→zYu (zBw R) (zAr zZ7 xs) O:=by
 rintro _ O R Z ⟨w,rfl,k⟩
 show zYu (zBw R) [some (.str w)] O
 unfold zYu
 dsimp! only[]
 refine⟨rfl,rfl,?_⟩
 rw[show inD (.str w) [D.str (PySem.Str.ofString "bars"),.str (PySem.Str.ofString "marks"),.str (PySem.Str.ofString "layout"),.str (PySem.Str.ofString "cost"),.str (PySem.Str.ofString "undo"),.str (PySem.Str.ofString "redo")]=decide (w∈zAS) from zOt (l:=zAS)]
 exact Fin.here k
def zP9(p:Str)(a c k:Nat):Str:=cutS p none (some (a:Int))++(⟨#[(TL.tl (PySem.Str.ofString "axUR 1.-")).getD c 0]⟩:Str)++cutS p (some ((a:Int)+(k:Int))) none
abbrev zUK(p:Str):Prop:=∀a∈List.range (p.length+1),∀c∈List.range 8,∀k∈List.range 2,zP9 p a c k∈zAS∨zG1 (zP9 p a c k)=true
theorem zVq:zUK (PySem.Str.ofString "bars"):=by decide+kernel
theorem zVp:zUK (PySem.Str.ofString "marks"):=by decide+kernel
theorem zVo:zUK (PySem.Str.ofString "layout"):=by decide+kernel
theorem zVn:zUK (PySem.Str.ofString "cost"):=by decide+kernel
theorem zVm:zUK (PySem.Str.ofString "undo"):=by decide+kernel
theorem zVl:zUK (PySem.Str.ofString "redo"):=by decide+kernel
theorem zP8:∀p∈zAS,zUK p:=by
 intro p hp
 simp only[zAS,qj,qt,qW] at hp
 rcases hp with rfl|rfl|rfl|rfl|rfl|rfl
 ·exact zVq
 ·exact zVp
 ·exact zVo
 ·exact zVn
 ·exact zVm
 ·exact zVl
def m63:List Mom:=[⟨4,[⟨0,-3,PySem.Str.ofString "s"⟩,⟨1,2,PySem.Str.ofString ""⟩],0⟩,⟨4,[],9⟩]
def d63:Nat→Deed
 |0=>.bar 0 m63
 |1=>.mark ⟨0,(1,0),(1,1),3⟩
 |_=>.bound 1 zCD
def S63:Nat→PSt
 |0=>⟨⟨120,4,10,50,5⟩,[],[],[],[],1,1⟩
 |1=>⟨⟨120,4,10,50,5⟩,[1],[(1,m63)],[],[],2,1⟩
 |2=>⟨⟨120,4,10,50,5⟩,[1],[(1,m63)],[(1,⟨0,(1,0),(1,1),3⟩)],[],2,2⟩
 |_=>⟨⟨120,4,10,50,5⟩,[1],[(1,m63)],[(1,⟨0,(1,0),(1,1),3⟩)],[(1,zCD)],2,2⟩
def l63:Nat→Str
 |0=>PySem.Str.ofString "bar 0 4.0+0,-3,s+1,2, 4.9"
 |1=>PySem.Str.ofString "mark 0 1.0 1.1 3"
 |_=>PySem.Str.ofString "end 1 never"
def w63:Nat→Str
 |0=>PySem.Str.ofString "bar"
 |1=>PySem.Str.ofString "mark"
 |_=>PySem.Str.ofString "end"
def r63:Nat→List Str
 |0=>[PySem.Str.ofString "0",PySem.Str.ofString "4.0+0,-3,s+1,2,",PySem.Str.ofString "4.9"]
 |1=>[PySem.Str.ofString "0",PySem.Str.ofString "1.0",PySem.Str.ofString "1.1",PySem.Str.ofString "3"]
 |_=>[PySem.Str.ofString "1",PySem.Str.ofString "never"]
def v63:Nat→D
 |0=>.int 1
 |1=>.int 1
 |_=>.non
theorem zVb:∀i,i<3→step (S63 i) (d63 i)=.ok (S63 (i+1)) (v63 i)
 |0,_=>by kernel_rfl
 |1,_=>by kernel_rfl
 |2,_=>by kernel_rfl
theorem zZp:∀i,i<3→zFZ (l63 i) " "=w63 i::r63 i
 |0,_=>by decide+kernel
 |1,_=>by decide+kernel
 |2,_=>by decide+kernel
theorem zXI:∀i,i<3→zDi (w63 i) (r63 i)=some (d63 i)
 |0,_=>by kernel_rfl
 |1,_=>by kernel_rfl
 |2,_=>by kernel_rfl
theorem yAy:∀i,DOk (d63 i)
 |0=>⟨by decide,fun x hx=>by
  simp only[m63,qj,qt,qW] at hx
  rcases hx with rfl|rfl<;>decide⟩
 |1=>trivial
 |_+2=>trivial
def zKM:List D:=[zLO (S63 3),zEu ⟨0,(1,0),(1,1),3⟩,.str zCD,.lst ([d63 0,d63 1,d63 2].map zBt)]
theorem zWe:zQU (.lst zKM)=true∧(pyD (.lst zKM)).showable=true∧(pyD (.lst zKM)).hasDict=false∧(pyD (.lst zKM)).depth≤32∧(pyD (.lst zKM)).shown.length≤sizeLine:=by
 rw[sizeLine_eq]
 decide+kernel
structure K63(tb:Tb)(b cb dk dx q:Addr)(i:Nat)(B:Om)(h:Sho)(O:Om):Prop where
 C:Sys [zUE tb B h,zRH b cb,zUD [],zRG dk (zEJ tb dx q)] O
 hq:h.q=q
 hS:h.S=S63 i
 hp:h.past.map En.a=((List.range i).map fun j=>Ask.one (d63 j))
 hg:h.gone=[]
 hT:h.past.map En.S=(List.range i).map S63
section
variable {tb:Tb}{b cb dk dx q:Addr}{i:Nat}{B O O':Om}{h:Sho}
theorem K63.sb_(D:K63 tb b cb dk dx q i B h O)(s:Sb O O'):K63 tb b cb dk dx q i B h O':=⟨D.C.sb s,D.hq,D.hS,D.hp,D.hg,D.hT⟩
theorem K63.bst(D:K63 tb b cb dk dx q i B h O)(s:Bst b O O'):K63 tb b cb dk dx q i B h O':=⟨D.C.bst (i:=1) rfl s,D.hq,D.hS,D.hp,D.hg,D.hT⟩
theorem K63.sh(D:K63 tb b cb dk dx q i B h O):ShAt tb B O h:=D.C.get (i:=0) rfl
theorem K63.bag(D:K63 tb b cb dk dx q i B h O):Bag O b:=(D.C.get (i:=1) (x:=zRH b cb) rfl).1
theorem K63.desk(D:K63 tb b cb dk dx q i B h O):O dk=some (zEJ tb dx h.q):=by
 rw[D.hq]
 exact D.C.get (i:=3) (x:=zRG dk (zEJ tb dx q)) rfl
theorem K63.sm(D:K63 tb b cb dk dx q i B h O):NSm h.S.f0∧NSm h.S.f1:=by
 rw[D.hS]
 match i with
 |0=>exact⟨by show(1:Int).natAbs<2 ^ 62;decide,by show(1:Int).natAbs<2 ^ 62;decide⟩
 |1=>exact⟨by show(2:Int).natAbs<2 ^ 62;decide,by show(1:Int).natAbs<2 ^ 62;decide⟩
 |2=>exact⟨by show(2:Int).natAbs<2 ^ 62;decide,by show(2:Int).natAbs<2 ^ 62;decide⟩
 |_+3=>exact⟨by show(2:Int).natAbs<2 ^ 62;decide,by show(2:Int).natAbs<2 ^ 62;decide⟩
theorem K63.pl(D:K63 tb b cb dk dx q i B h O):h.past.length=i:=by
 have:=jB List.length D.hp
 simpa using this
theorem K63.good(D:K63 tb b cb dk dx q i B h O)(hi:i<3){R:DL.D→Om→Prop}{Z:XD}(k:∀O' B' h',K63 tb b cb dk dx q (i+1) B' h' O'→R (.str (zZg (v63 i))) O'):zEv tb [.ref dk,.str (l63 i)] O R Z:=by
 have e3:i=0∨i=1∨i=2:=by omega
 refine zQA (zZp i hi) ?_ ?_ ?_ (zXI i hi) (yAy i) (by rw[D.pl];omega) D.desk D.sh D.sm.1 D.sm.2 fun O1 s1=>?_
 ·rcases e3 with rfl|rfl|rfl<;>decide
 ·rcases e3 with rfl|rfl|rfl<;>decide
 ·rcases e3 with rfl|rfl|rfl<;>decide
 ·unfold DoP
  rw[D.hS,zVb i hi]
  intro O' B' h' sB nB fr q1 p1 g1 eS eP eG H'
  have C':=(D.C.sb s1).did (i:=0) rfl nB fr q1 p1 g1 H'
  refine k O' B' h' ⟨C',q1.trans D.hq,eS,?_,eG,?_⟩
  ·rw[eP,qK,D.hp,List.range_succ,qK]
   rfl
  ·rw[eP,qK,D.hT,List.range_succ,qK]
   rfl
end
def T63:Str:=(pyD (.lst zKM)).shown
theorem K63.rep{tb:Tb}{b cb dk dx q:Addr}{B O:Om}{h:Sho}(D:K63 tb b cb dk dx q 3 B h O){g:Gm}(hg:g[2]?=some (some (.ref dk))){R:DL.D→Om→Prop}(r:R (.str T63) O):(dCB zM9 (zAc (zBA (zAc (zAu tb.Shop "piece" (zME tb) [.p 0] [] (fun _=>(zAB tb.Desk "shop" (zAd 2))) zAg zAg X0) (zAc ((zAu tb.Shop "mark" (zHj tb) [.p 0,.p 1] [] (fun _=>(zAB tb.Desk "shop" (zAd 2))) (zAc (dC (.int 1)) zAg) zAg) X0) (zAc ((zAu tb.Shop "word" (zHk tb) [.p 0,.p 1] [] (fun _=>(zAB tb.Desk "shop" (zAd 2))) (zAc (dC (.int 1)) zAg) zAg) X0) (zAc (zAu tb.Shop "deeds" (zMD tb) [.p 0] [] (fun _=>(zAB tb.Desk "shop" (zAd 2))) zAg zAg X0) zAg))))) zAg)) g O R:=by
 have H:=D.sh
 dsimp! only[zAB,zAu,hg]
 refine⟨dk,dx,_,_,rfl,D.desk,rfl,?_⟩
 refine(H.mPiece (P:=fun a=>_)).mpr ?_
 refine⟨B,h,rfl,H,?_⟩
 refine⟨dk,dx,_,_,rfl,D.desk,rfl,?_⟩
 refine(H.mMark (P:=fun a=>_)).mpr ?_
 refine⟨B,h,1,rfl,H,fun _=>?_,fun z=>by rw[D.hS] at z;cases z⟩
 refine⟨dk,dx,_,_,rfl,D.desk,rfl,?_⟩
 refine(H.mWord (P:=fun a=>_)).mpr ?_
 refine⟨B,h,1,rfl,H,fun _=>?_,fun z=>by rw[D.hS] at z;cases z⟩
 refine⟨dk,dx,_,_,rfl,D.desk,rfl,?_⟩
 refine(H.mDeeds (P:=fun a=>_)).mpr ?_
 refine⟨B,h,rfl,H,?_⟩
 have e1:(h.past.map fun e=>zHO e.a)=[d63 0,d63 1,d63 2].map zBt:=by
  have:=jB (List.map zHO) D.hp
  rw[ja] at this
  exact this
 have er:[zLO h.S,zVc h.S 1,.str (zEr h.S 1),.lst (h.past.map fun e=>zHO e.a)]=zKM:=by
  rw[e1,D.hS]
  rfl
 show zM9 [.lst [zLO h.S,zVc h.S 1,.str (zEr h.S 1),.lst (h.past.map fun e=>zHO e.a)]] O R
 rw[er]
 obtain⟨p1,p2,p3,p4,p5⟩:=zWe
 exact zQR p1 p2 p3 p4 p5 r
theorem zMr{z:Str}{lo hi:Option Int}:(cutS z lo hi).length≤z.length:=by
 show(Array.size (List.toArray _))≤_
 rw[List.size_toArray]
 have:z.cps.toList.length=z.length:=qV
 rw[kg,jq,this]
 omega
theorem zSW{c:Int}(h0:0≤c)(h8:c<8):atI (PySem.Str.ofString "axUR 1.-").cps.toList c=some ((TL.tl (PySem.Str.ofString "axUR 1.-")).getD c.toNat 0):=by
 rcases(show c=0∨c=1∨c=2∨c=3∨c=4∨c=5∨c=6∨c=7 by omega) with rfl|rfl|rfl|rfl|rfl|rfl|rfl|rfl<;>decide+kernel
theorem zQB{tb:Tb}{B O:Om}{h:Sho}{R:DL.D→Om→Prop}{Z:XD}{dk dx:Addr}(ho:O dk=some (zEJ tb dx h.q))(H:ShAt tb B O h)(f0:NSm h.S.f0)(f1:NSm h.S.f1)(k:R (.str (zOm h.S.order)) O):zEv tb [.ref dk,.str (PySem.Str.ofString "bars")] O R Z:=
 ⟨dk,dx,B,h,PySem.Str.ofString "bars",PySem.Str.ofString "bars",[],rfl,ho,by decide+kernel,by decide,H,f0,f1,(fun x z=>by cases z),(fun _ _=>.inl rfl),(fun z=>by rcases z with z|z<;>exact absurd z (by decide)),(fun _ _=>k),(fun _ z=>absurd z (by decide)),(fun _ z=>absurd z (by decide)),(fun z=>absurd (by decide+kernel) (z rfl)),fun z=>absurd (by decide+kernel) (z rfl)⟩
theorem zNJ{i:Int}(h0:0≤i)(h6:i<6):∃p∈zAS,atI [D.str (PySem.Str.ofString "bars"),.str (PySem.Str.ofString "marks"),.str (PySem.Str.ofString "layout"),.str (PySem.Str.ofString "cost"),.str (PySem.Str.ofString "undo"),.str (PySem.Str.ofString "redo")] i=some (.str p):=by
 rcases(show i=0∨i=1∨i=2∨i=3∨i=4∨i=5 by omega) with rfl|rfl|rfl|rfl|rfl|rfl<;>exact⟨_,by simp[zAS],rfl⟩
theorem zMI{p:Str}(h:p∈zAS):p.length≤6:=by
 simp only[zAS,qj,qt,qW] at h
 rcases h with rfl|rfl|rfl|rfl|rfl|rfl<;>decide
def zYx(tb:Tb):DS:=
 (zAt (zBY 1 (zAX zQf [.p 0] [] (zAc (zAd 0) zAg) zAg))
 (zAt (zCz 2 (zEO tb.Desk (zLs tb) [.p 0,.d 0,.d 1] [.int 120,.int 4] zAg zAg))
 (zAt (zMp (zC3 (zBA (zAc (zD2 (zAc (dC (.str (PySem.Str.ofString "bar 0 4.0+0,-3,s+1,2, 4.9"))) (zAc (dC (.str (PySem.Str.ofString "1"))) zAg))) (zAc (zD2 (zAc (dC (.str (PySem.Str.ofString "mark 0 1.0 1.1 3"))) (zAc (dC (.str (PySem.Str.ofString "1"))) zAg))) (zAc (zD2 (zAc (dC (.str (PySem.Str.ofString "end 1 never"))) (zAc (dC (.str (PySem.Str.ofString "done"))) zAg))) zAg))))) (gT 2 (zAp (gN 3) (zAp (gN 4) zBP))) (zBK (zBZ (zAo (zAX sp_za [.p 0,.p 1] [] (zAc (zAu tb.Desk "say" (zEv tb) [.p 0,.p 1] [] (fun _=>(zAd 2)) (zAc (zAd 3) zAg) zAg X0) (zAc (zAd 4) zAg)) zAg))) (zBd (dC (.bl false))) zAH))
 (zAt (zCz 5 (fun _=>(dCB zM9 (zAc (zBA (zAc (zAu tb.Shop "piece" (zME tb) [.p 0] [] (fun _=>(zAB tb.Desk "shop" (zAd 2))) zAg zAg X0) (zAc ((zAu tb.Shop "mark" (zHj tb) [.p 0,.p 1] [] (fun _=>(zAB tb.Desk "shop" (zAd 2))) (zAc (dC (.int 1)) zAg) zAg) X0) (zAc ((zAu tb.Shop "word" (zHk tb) [.p 0,.p 1] [] (fun _=>(zAB tb.Desk "shop" (zAd 2))) (zAc (dC (.int 1)) zAg) zAg) X0) (zAc (zAu tb.Shop "deeds" (zMD tb) [.p 0] [] (fun _=>(zAB tb.Desk "shop" (zAd 2))) zAg zAg X0) zAg))))) zAg))))
 (zAt (zBY 6 (zAX zQe [] [] zAg zAg))
 (zAt (zMp (zGI (zAc (dC (.int 12)) zAg)) (gN 7) (zAt (zBY 8 (dOp dIx (zAd 6) (zAX zGX [.p 0,.p 1] [] (zAc (zAd 1) (zAc (dCB zC4 (zAc (zAd 6) zAg)) zAg)) zAg)))
 (zAt (zBK (zAo (dOp dEq (zAX zGX [.p 0,.p 1] [] (zAc (zAd 1) (zAc (dC (.int 3)) zAg)) zAg) (dC (.int 0)))) (zAt (zBY 9 (dOp dIx (zBA (zAc (dC (.str (PySem.Str.ofString "bars"))) (zAc (dC (.str (PySem.Str.ofString "marks"))) (zAc (dC (.str (PySem.Str.ofString "layout"))) (zAc (dC (.str (PySem.Str.ofString "cost"))) (zAc (dC (.str (PySem.Str.ofString "undo"))) (zAc (dC (.str (PySem.Str.ofString "redo"))) zAg))))))) (zAX zGX [.p 0,.p 1] [] (zAc (zAd 1) (zAc (dC (.int 6)) zAg)) zAg)))
 (zAt (zBY 10 (zAX zGX [.p 0,.p 1] [] (zAc (zAd 1) (zAc (dOp zDL (dCB zC4 (zAc (zAd 9) zAg)) (dC (.int 1))) zAg)) zAg))
 (zBY 8 (dOp zDL (dOp zDL (zEX (zAd 9) zAW (zCu (zAd 10))) (dOp dIx (dC (.str (PySem.Str.ofString "axUR 1.-"))) (zAX zGX [.p 0,.p 1] [] (zAc (zAd 1) (zAc (dC (.int 8)) zAg)) zAg))) (zEX (zAd 9) (zCu (dOp zDL (zAd 10) (zAX zGX [.p 0,.p 1] [] (zAc (zAd 1) (zAc (dC (.int 2)) zAg)) zAg))) zAW))))) zAH)
 (zAt (zBK (zAo (zAX zQd [.p 0] [] (zAc (zAd 8) zAg) zAg)) zG8 zAH)
 (zMp (zGI (zAc (dOp zDL (dC (.int 1)) (zAX zGX [.p 0,.p 1] [] (zAc (zAd 1) (zAc (dC (.int 2)) zAg)) zAg)) zAg)) (gN 11) (zBK (zBZ (zAo (zAX sp_za [.p 0,.p 1] [] (zAc (zAu tb.Desk "say" (zEv tb) [.p 0,.p 1] [] (fun _=>(zAd 2)) (zAc (zAd 8) zAg) zAg X0) (zAc (dC (.str (PySem.Str.ofString "no line"))) zAg)) zAg))) (zBd (dC (.bl false))) zAH))))))
 (zAt (zCz 12 (fun _=>(dCB zM9 (zAc (zBA (zAc (zAu tb.Shop "piece" (zME tb) [.p 0] [] (fun _=>(zAB tb.Desk "shop" (zAd 2))) zAg zAg X0) (zAc ((zAu tb.Shop "mark" (zHj tb) [.p 0,.p 1] [] (fun _=>(zAB tb.Desk "shop" (zAd 2))) (zAc (dC (.int 1)) zAg) zAg) X0) (zAc ((zAu tb.Shop "word" (zHk tb) [.p 0,.p 1] [] (fun _=>(zAB tb.Desk "shop" (zAd 2))) (zAc (dC (.int 1)) zAg) zAg) X0) (zAc (zAu tb.Shop "deeds" (zMD tb) [.p 0] [] (fun _=>(zAB tb.Desk "shop" (zAd 2))) zAg zAg X0) zAg))))) zAg))))
 (zBd (zEp (dOp dEq (zAd 12) (zAd 5)) (zAX sp_za [.p 0,.p 1] [] (zAc (zBA (zAc (zAu tb.Desk "say" (zEv tb) [.p 0,.p 1] [] (fun _=>(zAd 2)) (zAc (dC (.str (PySem.Str.ofString "bars"))) zAg) zAg X0) (zAc (zAu tb.Desk "say" (zEv tb) [.p 0,.p 1] [] (fun _=>(zAd 2)) (zAc (dC (.str (PySem.Str.ofString "undo"))) zAg) zAg X0) (zAc (zAu tb.Desk "say" (zEv tb) [.p 0,.p 1] [] (fun _=>(zAd 2)) (zAc (dC (.str (PySem.Str.ofString "redo"))) zAg) zAg X0) zAg)))) (zAc (zBA (zAc (dC (.str (PySem.Str.ofString "1"))) (zAc (dC (.str (PySem.Str.ofString "done"))) (zAc (dC (.str (PySem.Str.ofString "done"))) zAg)))) zAg)) zAg))))))))))
def yAa:List Str:=["_law_script","_law_bag_here","_law_desk","_law_line_of","_law_due","_law_words","_law_odd_here","_law_turn","_law_text","_law_plain","_law_at","_law_again","_law_found"]
def zQg(tb:Tb):DSp:=fun xs O R _=>∃ns:List Int,xs=[.lst (ns.map D.int)]∧ns.length≤63∧∀O',R (.bl true) O'
theorem zXw(tb:Tb):∀(ns:List Int) (O:Om) (R:D→Om→Prop) (Z:XD),ns.length≤63→(∀O',R (.bl true) O')→zQg tb [.lst (ns.map D.int)] O R Z:=fun ns O R Z hl h=>⟨ns,rfl,hl,h⟩
theorem yBU(tb:Tb):∀xs O R Z,zQg tb xs O R Z→zYx tb (zBw R) (zAr yAa xs) O:=by
 rintro _ O R Z ⟨ns,rfl,hl,k⟩
 show zYx tb (zBw R) [some (.lst (ns.map D.int)),none,none,none,none,none,none,none,none,none,none,none,none] O
 unfold zYx
 refine zAz fun N hN=>?_
 dsimp! only[zAX]
 refine⟨ns,rfl,hl,fun b O1 hb bag s1=>?_⟩
 generalize (D.lst (ns.map D.int))=x0
 subst hN
 refine zAz fun N hN=>?_
 dsimp! only[zCz,zEO]
 intro dk dx hdk hdx hne
 refine⟨dk,dx,120,4,rfl,up_same,(fun z=>by cases z),fun _ O2 B2 h2 fr2 dk2 nB q0 ap0 ag0 e2 e3 e4 H2=>⟨rfl,?_⟩⟩
 obtain⟨cb,C2⟩:=zOQ (ts:=[]) bag (fun p hp=>by cases hp) hdk hdx hne fr2 dk2 nB q0 ap0 ag0 H2
 obtain⟨q,hq⟩:∃q,h2.q=q:=⟨_,rfl⟩
 have D0:K63 tb b cb dk dx q 0 B2 h2 O2:=⟨by rw[←hq];exact C2,hq,e2,by rw[e3];rfl,e4,by rw[e3];rfl⟩
 clear C2 H2 dk2 nB q0 ap0 ag0 e2 e3 e4 fr2
 subst hN
 refine zAz fun N hN=>?_
 simpa! only[]
 refine zIo (fun i g O'=>i≤3∧(∃B h,K63 tb b cb dk dx q i B h O')∧∃z3 z4,g=[some x0,some (.ref b),some (.ref dk),z3,z4,none,none,none,none,none,none,none,none]) ⟨qR _,⟨_,_,D0⟩,_,_,rfl⟩ (fun _ _ _ _=>True.intro) (fun i x g O3 N1 hx hI hN1=>?_) fun g O3 hI=>?_
 ·obtain⟨_,⟨B,h,D⟩,z3,z4,rfl⟩:=hI
  have hi:i<3:=(qf.mp hx).1
  have ex:∃s,x=.tup [.str (l63 i),.str s]∧s=zZg (v63 i):=by
   match i,hi,hx with
   |0,_,hx=>cases hx;exact⟨_,rfl,by decide+kernel⟩
   |1,_,hx=>cases hx;exact⟨_,rfl,by decide+kernel⟩
   |2,_,hx=>cases hx;exact⟨_,rfl,by decide+kernel⟩
  obtain⟨s,rfl,es⟩:=ex
  dsimp! only[gT,zAp,zBP,zAu]
  refine⟨True.intro,dk,dx,_,rfl,D.desk,rfl,?_⟩
  refine D.good hi fun O' B' h' D'=>?_
  rw[←es]
  refine zKJ (n:=0) Pl.str ?_
  dsimp! only[]
  exact hN1 _ _ ⟨by omega,⟨_,_,D'⟩,_,_,rfl⟩
 obtain⟨_,⟨B,h,D⟩,z3,z4,rfl⟩:=hI
 have D:K63 tb b cb dk dx q 3 B h O3:=D
 show N _ O3
 clear D0
 subst hN
 refine zAz fun N hN=>?_
 unfold zCz
 refine D.rep rfl ?_
 show N _ O3
 subst hN
 refine zAz fun N hN=>?_
 dsimp! only[]
 refine⟨rfl,?_⟩
 subst hN
 refine zAz fun N hN=>?_
 simpa! only[]
 obtain⟨T,eT⟩:∃T,T63=T:=⟨_,rfl⟩
 rw[eT]
 refine⟨by decide,by decide,?_⟩
 refine zIo (fun i g O'=>(∃B h,K63 tb b cb dk dx q 3 B h O')∧∃z7 z8 z9 z10 z11,g=[some x0,some (.ref b),some (.ref dk),z3,z4,some (.str T),some (.lst (oddsL.map DL.D.str)),z7,z8,z9,z10,z11,none]) ⟨⟨_,_,D⟩,_,_,_,_,_,rfl⟩ (fun _ _ _ _=>True.intro) (fun i x g O4 N1 hx hI hN1=>?_) fun g O4 hI=>?_
 ·obtain⟨⟨B,h,D⟩,z7,z8,z9,z10,z11,rfl⟩:=hI
  refine zAz fun N2 hN2=>?_
  have ol:oddsL.length=65:=rfl
  dsimp! only[qd,ol]
  refine⟨b,65,rfl,by decide,by decide,D.bag,fun y O5 y0 y1 s5=>?_⟩
  have D5:=D.bst s5
  clear D s5
  obtain⟨s0,hs0,es0⟩:∃s∈oddsL,atI (oddsL.map DL.D.str) y=some (.str s):=by
   obtain⟨j,rfl⟩:∃j:Nat,y=j:=⟨y.toNat,by omega⟩
   have hj:j<oddsL.length:=by omega
   exact⟨oddsL.getD j (PySem.Str.ofString ""),zDK hj,zPb hj⟩
  dsimp! only[es0]
  subst hN2
  refine zGn (fun g O'=>∃s:Str,(s∈zAS∨zG1 s=true)∧(∃B h,K63 tb b cb dk dx q 3 B h O')∧∃z9 z10,g=[some x0,some (.ref b),some (.ref dk),z3,z4,some (.str T),some (.lst (oddsL.map DL.D.str)),some x,some (.str s),z9,z10,z11,none]) (fun N2 hN2=>?_) ?_
  ·dsimp! only[]
   refine⟨b,3,rfl,by decide,by decide,D5.bag,fun u O6 u0 u1 s6=>?_⟩
   have D6:=D5.bst s6
   clear D5 s6
   dsimp! only[]
   by_cases hu:u=0
   ·rw[qe (qx hu)]
    refine zAz fun N3 hN3=>?_
    dsimp! only[]
    refine⟨b,6,rfl,by decide,by decide,D6.bag,fun v O7 v0 v1 s7=>?_⟩
    have D7:=D6.bst s7
    clear D6 s7
    obtain⟨p,hp,ep⟩:=zNJ v0 v1
    dsimp! only[ep]
    have lp:=zMI hp
    subst hN3
    refine zAz fun N3 hN3=>?_
    dsimp! only[]
    refine⟨by rw[sizeLine_eq];omega,?_⟩
    dsimp only
    refine⟨b,(p.length:Int)+1,rfl,by omega,zOl (by omega) (by omega),D7.bag,fun a O8 a0 a1 s8=>?_⟩
    have D8:=D7.bst s8
    clear D7 s8
    subst hN3
    dsimp! only[zEX]
    refine⟨by rw[sizeLine_eq];omega,b,8,rfl,by decide,by decide,D8.bag,fun c O9 c0 c1 s9=>?_⟩
    have D9:=D8.bst s9
    clear D8 s9
    have l1:(cutS p none (some a)).length≤6:=qo zMr lp
    simp only[dIx]
    refine⟨by decide,?_⟩
    rw[zSW c0 c1]
    dsimp only
    have l2:((⟨#[(TL.tl (PySem.Str.ofString "axUR 1.-")).getD c.toNat 0]⟩:Str)).length=1:=rfl
    refine⟨by rw[l2,sizeLine_eq];omega,b,2,rfl,by decide,by decide,D9.bag,fun k2 O10 k0 k1 s10=>?_⟩
    have D10:=D9.bst s10
    clear D9 s10
    have l3:(cutS p (some (a+k2)) none).length≤6:=qo zMr lp
    refine⟨by rw[sizeLine_eq];omega,by rw[Str.length_append,l2,sizeLine_eq];omega,?_⟩
    have sp:=zP8 p hp a.toNat (by rw[qC];omega) c.toNat (by rw[qC];omega) k2.toNat (by rw[qC];omega)
    have es:zP9 p a.toNat c.toNat k2.toNat=cutS p none (some a)++(⟨#[(TL.tl (PySem.Str.ofString "axUR 1.-")).getD c.toNat 0]⟩:Str)++cutS p (some (a+k2)) none:=by
     unfold zP9
     rw[Int.toNat_of_nonneg a0,Int.toNat_of_nonneg k0]
    rw[←es]
    exact hN2 _ _ ⟨_,sp,⟨_,_,D10⟩,_,_,rfl⟩
   ·rw[qb (by rw[qm hu];decide)]
    exact hN2 _ _ ⟨s0,.inr (zTC s0 hs0),⟨_,_,D6⟩,_,_,rfl⟩
  rintro _ O6 ⟨s,hs,⟨B,h,D⟩,z9,z10,rfl⟩
  clear D5
  refine zAz fun N2 hN2=>?_
  dsimp! only[]
  refine⟨s,rfl,?_⟩
  by_cases hm:s∈zAS
  ·rw[qx hm]
   dsimp! only[]
   exact hN1 _ _ ⟨⟨_,_,D⟩,_,_,_,_,_,rfl⟩
  ·rw[qm hm]
   have ho:zG1 s=true:=hs.resolve_left hm
   dsimp! only[]
   subst hN2
   simpa! only[]
   refine⟨b,2,rfl,by decide,by decide,D.bag,fun v O7 v0 v1 s7=>?_⟩
   have D7:=D.bst s7
   clear D s7
   show -2 ^ 62≤1+v∧1+v<2 ^ 62∧zEP _ _ _ _ _ _ _
   refine⟨by omega,by omega,?_⟩
   refine zIo (fun i g O'=>(∃B h,K63 tb b cb dk dx q 3 B h O')∧∃z11,g=[some x0,some (.ref b),some (.ref dk),z3,z4,some (.str T),some (.lst (oddsL.map DL.D.str)),some x,some (.str s),z9,z10,z11,none]) ⟨⟨_,_,D7⟩,_,rfl⟩ (fun _ _ _ _=>True.intro) (fun i x g O8 N3 hx hI hN3=>?_) fun g O8 hI=>?_
   ·obtain⟨⟨B,h,D⟩,z11,rfl⟩:=hI
    dsimp! only[zAu]
    refine⟨dk,dx,_,rfl,D.desk,rfl,?_⟩
    refine zS9 ho D.desk D.sh D.sm.1 D.sm.2 fun O' s'=>?_
    refine zKJ (n:=0) Pl.str ?_
    dsimp! only[]
    exact hN3 _ _ ⟨⟨_,_,D.sb_ s'⟩,_,rfl⟩
   ·obtain⟨⟨B,h,D⟩,z11,rfl⟩:=hI
    exact hN1 _ _ ⟨⟨_,_,D⟩,_,_,_,_,_,rfl⟩
 ·obtain⟨⟨B,h,D⟩,z7,z8,z9,z10,z11,rfl⟩:=hI
  show N _ O4
  subst hN
  refine zAz fun N hN=>?_
  unfold zCz
  refine D.rep rfl ?_
  rw[eT]
  subst hN
  dsimp! only[zAu]
  show∃_ _ _,_
  refine⟨dk,dx,_,rfl,D.desk,rfl,?_⟩
  refine zQB D.desk D.sh D.sm.1 D.sm.2 ?_
  refine⟨dk,dx,_,rfl,D.desk,rfl,?_⟩
  have pl:=D.pl
  refine zQy D.desk D.sh D.sm.1 D.sm.2 ⟨B,h,rfl,D.sh,by rw[D.hg];decide,(fun e=>by rw[e] at pl;cases pl),fun init e he O5 fr H5=>?_⟩
  have C5:=D.C.turned (i:=0) (h':={h with c:=e.c,S:=e.S,past:=init,gone:=h.gone++[⟨e.a,h.c,h.S⟩]}) rfl fr rfl rfl rfl H5
  have dsk:O5 dk=some (zEJ tb dx h.q):=by rw[D.hq];exact C5.get (i:=3) (x:=zRG dk (zEJ tb dx q)) rfl
  refine⟨dk,dx,_,rfl,dsk,rfl,?_⟩
  have l1:init.length≤3:=by
   have:=jB List.length he
   rw[qL,pl] at this
   simp only[List.length_singleton] at this
   omega
  have fs:NSm e.S.f0∧NSm e.S.f1:=by
   have h1:=jB List.getLast? D.hT
   rw[he,qK] at h1
   have h2:some e.S=some (S63 2):=by
    have h3:(List.map S63 (List.range 3)).getLast?=some (S63 2):=rfl
    rw[h3] at h1
    simpa using h1
   rw[jb h2]
   exact⟨by show(2:Int).natAbs<2 ^ 62;decide,by show(2:Int).natAbs<2 ^ 62;decide⟩
  refine zQz (h:={h with c:=e.c,S:=e.S,past:=init,gone:=h.gone++[⟨e.a,h.c,h.S⟩]}) dsk H5 fs.1 fs.2 ⟨B,_,rfl,H5,by show init.length<100000;omega,(fun z=>by have z:h.gone++[_]=[]:=z;simp at z),fun init2 e2 he2 O6 fr6 H6=>?_⟩
  have e1:zZg (.int 1)=PySem.Str.ofString "1":=by decide+kernel
  have eb:zOm h.S.order=PySem.Str.ofString "1":=by rw[D.hS];decide+kernel
  rw[eb]
  refine zKJ (n:=1) (Pl.lst (fun y hy=>by
   simp only[qj,qt,qW] at hy
   rcases hy with rfl|rfl|rfl<;>exact Pl.str) (by simp)) ?_
  exact Fin.here (k _)
end Lw
namespace Lw
open PySem PySem.Spec PyProof.Rows L2 DL
open Evl (Ex)
structure Bt(K:PySem.W.Frag)(mg:Str→Option Value):Prop where
 n_abs:mg "abs"=none
 n_all:mg "all"=none
 n_bool:mg "bool"=none
 n_dict:mg "dict"=none
 n_enumerate:mg "enumerate"=none
 n_int:mg "int"=none
 n_isinstance:mg "isinstance"=none
 n_len:mg "len"=none
 n_list:mg "list"=none
 n_range:mg "range"=none
 n_repr:mg "repr"=none
 n_str:mg "str"=none
 n_tuple:mg "tuple"=none
 g_BOUND:GC K mg "BOUND" (.tup [(.str (PySem.Str.ofString "must")),(.str (PySem.Str.ofString "never"))])
 g_FIGURES:GC K mg "FIGURES" (.str (PySem.Str.ofString "0123456789"))
 g_FREE:GC K mg "FREE" (.str (PySem.Str.ofString "free"))
 g_HIGHEST:GC K mg "HIGHEST" (.int 12)
 g_LAST_STAFF:GC K mg "LAST_STAFF" (.int 3)
 g_LETTERS:GC K mg "LETTERS" (.str (PySem.Str.ofString "abcdefghijklmnopqrstuvwxyz"))
 g_LONGEST:GC K mg "LONGEST" (.int 8)
 g_MOST_BARS:GC K mg "MOST_BARS" (.int 12)
 g_MOST_BEATS:GC K mg "MOST_BEATS" (.int 32)
 g_MOST_COST:GC K mg "MOST_COST" (.int 999)
 g_MOST_FIGURES:GC K mg "MOST_FIGURES" (.int 9)
 g_MOST_HEADS:GC K mg "MOST_HEADS" (.int 8)
 g_MOST_LINES:GC K mg "MOST_LINES" (.int 6)
 g_MOST_MARKS:GC K mg "MOST_MARKS" (.int 20)
 g_MOST_MOMENTS:GC K mg "MOST_MOMENTS" (.int 6)
 g_MOST_THICK:GC K mg "MOST_THICK" (.int 9)
 g_MOST_WORD:GC K mg "MOST_WORD" (.int 40)
 g_NARROWEST:GC K mg "NARROWEST" (.int 20)
 g_SIGNS:GC K mg "SIGNS" (.tup [(.str (PySem.Str.ofString "")),(.str (PySem.Str.ofString "s")),(.str (PySem.Str.ofString "f")),(.str (PySem.Str.ofString "n"))])
 g_WIDEST:GC K mg "WIDEST" (.int 400)
structure Ob_Stand(K:PySem.W.Frag)(mg:Str→Option Value)(C fI f_like f_need_bar f_spot f_lies f_sweep:Addr):Prop where
 cl:Cls K C
 mak:L2.Mk K C fI
 g:mg "Stand"=some (.ref C)
 n_sheet:NoAttr K C "sheet"
 n_order:NoAttr K C "order"
 n_music:NoAttr K C "music"
 n_spans:NoAttr K C "spans"
 n_bound:NoAttr K C "bound"
 n_fresh:NoAttr K C "fresh"
 m_like:Meth K C "like" f_like
 m_need_bar:Meth K C "need_bar" f_need_bar
 m_spot:Meth K C "spot" f_spot
 m_lies:Meth K C "lies" f_lies
 m_sweep:Meth K C "sweep" f_sweep
structure Ob_Shop(K:PySem.W.Frag)(mg:Str→Option Value)(C fI f_do f_undo f_redo f_deeds f_bars f_word f_mark f_piece:Addr):Prop where
 cl:Cls K C
 mak:L2.Mk K C fI
 g:mg "Shop"=some (.ref C)
 n_now:NoAttr K C "now"
 n_past:NoAttr K C "past"
 n_gone:NoAttr K C "gone"
 m_do:Meth K C "do" f_do
 m_undo:Meth K C "undo" f_undo
 m_redo:Meth K C "redo" f_redo
 m_deeds:Meth K C "deeds" f_deeds
 m_bars:Meth K C "bars" f_bars
 m_word:Meth K C "word" f_word
 m_mark:Meth K C "mark" f_mark
 m_piece:Meth K C "piece" f_piece
structure Ob_Desk(K:PySem.W.Frag)(mg:Str→Option Value)(C fI f_say:Addr):Prop where
 cl:Cls K C
 mak:L2.Mk K C fI
 g:mg "Desk"=some (.ref C)
 n_shop:NoAttr K C "shop"
 m_say:Meth K C "say" f_say
abbrev FD(K:PySem.W.Frag)(n q:Str)(st:Stmt)(d:List V)(e:List (Str×V))(f:Addr)(fd:FuncData):=FunD K n q (defArgs st) (defBody st) (defScope st) d e f fd
theorem zAy{K:PySem.W.Frag}:∀G,VRs K G ([]:List V) []:=fun _=>.nil
local macro_rules | `(tactic|dsimp!)=>`(tactic|first|exact Or.inl rfl|exact Or.inr rfl)
local macro_rules | `(tactic|simp!)=>`(tactic|(intro xs O R Z h;repeat (first|(obtain⟨e,_⟩:=h;subst e;rfl)|(obtain⟨_,h⟩:=h))))
local macro_rules | `(tactic|simp_all!)=>`(tactic|exact⟨rfl,rfl,rfl,by decide+kernel,rfl,by decide+kernel,by decide+kernel⟩)
local macro_rules | `(tactic|simp![$xs,*])=>do
  let a ←`(_)
  let us:=Array.replicate xs.getElems.size a
  `(tactic|exact yA3 (by assumption) fun _ _ _ _ _ _ us ws h1 h2=>match us,ws,h1,h2 with|[$us,*],[],_,_=>rfl)
abbrev PdC(P:Program)(w:World)(K:PySem.W.Frag)(mg:Str→Option Value)(base:Heap)(k:Nat)(n:List Str)(q:Str)(st:Stmt)(f:Addr)(u:DS):Prop:=∀(cdv:Value) (A:Around) (outer:List Env) (s:Shared) (H:Hp) (E:XK),Room k (A.deeper (envOfC q (defScope st) s.heap.objs.size f cdv))→PSs (cxOf CX0 P w K mg base n q (defScope st) f cdv A outer s H E).nox (defBody st) (zCl K W0 u)
abbrev PdX(P:Program)(w:World)(K:PySem.W.Frag)(mg:Str→Option Value)(base:Heap)(k:Nat)(n:List Str)(q:Str)(st:Stmt)(f:Addr)(u:DS):Prop:=∀(cdv:Value) (A:Around) (outer:List Env) (s:Shared) (H:Hp) (E:XK),Room k (A.deeper (envOfC q (defScope st) s.heap.objs.size f cdv))→PSs (cxOf (L2.CX P w) P w K mg base n q (defScope st) f cdv A outer s H E) (defBody st) (zCl K (fun c d _ H=>E c d H) u)
abbrev PdM(P:Program)(w:World)(K:PySem.W.Frag)(mg:Str→Option Value)(base:Heap)(k:Nat)(n:List Str)(q:Str)(st:Stmt)(f cc:Addr)(u:DS):Prop:=∀(A:Around) (outer:List Env) (s:Shared) (H:Hp) (E:XK),Room k (A.deeper (envOfC q (defScope st) s.heap.objs.size f (.ref cc)))→PSs (cxOf CX0 P w K mg base n q (defScope st) f (.ref cc) A outer s H E).nox (defBody st) (zCl K W0 u)
section
variable {P:Program}{w:World}{K:PySem.W.Frag}{mg:Str→Option Value}{base:Heap}
variable {B' fB:Addr}{fdB:FuncData}
theorem zGs:FnScope ["self","says"] ["self","says"] (defScope zAn):=by simp_all!
theorem zAj(F:FD K "__init__" "BurinError.__init__" zAn [.str (PySem.Str.ofString "refused")] [] fB fdB):Bnd K fdB ["self","says"] 2 [] [.p 0,.p 1] [.str (PySem.Str.ofString "refused")]:=
 yBp F (by simp) fun _ _ _ _ _ _ _ us ws its h1 h2 h3=>match us,ws,its,h1,h2,h3 with|[_,_],[],[_],_,_,_=>⟨_,rfl,rfl⟩
theorem zAh(F:FD K "__init__" "BurinError.__init__" zAn [.str (PySem.Str.ofString "refused")] [] fB fdB):FnOk P w K mg base CX0 1 fB fdB ["self","says"] (zHl K):=
 zTy F zGs (Or.inl rfl) (Or.inl rfl)
variable {M' fM:Addr}{fdM:FuncData}
theorem zJk:FnScope ["self","number","says"] ["self","number","says"] (defScope zAT):=by simp_all!
theorem zBp(F:FD K "__init__" "Missing.__init__" zAT [.str (PySem.Str.ofString "missing")] [] fM fdM):Bnd K fdM ["self","number","says"] 3 [] [.p 0,.p 1,.p 2] [.str (PySem.Str.ofString "missing")]:=
 yBp F (by simp) fun _ _ _ _ _ _ _ us ws its h1 h2 h3=>match us,ws,its,h1,h2,h3 with|[_,_,_],[],[_],_,_,_=>⟨_,rfl,rfl⟩
theorem zA5(F:FD K "__init__" "Missing.__init__" zAT [.str (PySem.Str.ofString "missing")] [] fM fdM):FnOk P w K mg base CX0 1 fM fdM ["self","number","says"] (zLB K):=
 zTz F zJk (Or.inl rfl) (Or.inl rfl) (Or.inl rfl)
theorem zKI:FnScope ["self","place"] ["self","place"] (defScope zB3):=by simp_all!
theorem zNh{f:Addr}{fd:FuncData}(F:FD K "__init__" "BadBar.__init__" zB3 [] [] f fd):Bnd K fd ["self","place"] 2 [] [.p 0,.p 1] []:=
 by simp![F,F]
theorem zKQ{f:Addr}{fd:FuncData}(T:CiC K mg "BurinError" B' fB)(FB:FD K "__init__" "BurinError.__init__" zAn [.str (PySem.Str.ofString "refused")] [] fB fdB)(F:FD K "__init__" "BadBar.__init__" zB3 [] [] f fd):FnOk P w K mg base CX0 2 f fd ["self","place"] (zNE K (PySem.Str.ofString "bad bar") "place"):=
 zLP F zKI (Or.inl rfl) (Or.inl rfl) (by decide) (by decide) T (zAh FB) (zAj FB) (fun cdv A outer s H E hr=>zA3 T (zAh FB) hr (zAj FB) (pa_cons (pe_var (i:=0) rfl (Or.inl rfl) (by decide) (by decide)) (pa_cons pe_str pa_nil))) (fun _ _ _ _ _ _=>rfl) (fun _ _ _ _ _ _=>⟨pe_var (i:=0) rfl (Or.inl rfl) (by decide) (by decide),pe_var (i:=1) rfl (Or.inl rfl) (by decide) (by decide),rfl⟩)
theorem zJn:FnScope ["self"] ["self"] (defScope zBH):=by simp_all!
theorem zLk{f:Addr}{fd:FuncData}(F:FD K "__init__" "BadDeed.__init__" zBH [] [] f fd):Bnd K fd ["self"] 1 [] [.p 0] []:=
 by simp![F]
theorem zJw{f:Addr}{fd:FuncData}(T:CiC K mg "BurinError" B' fB)(FB:FD K "__init__" "BurinError.__init__" zAn [.str (PySem.Str.ofString "refused")] [] fB fdB)(F:FD K "__init__" "BadDeed.__init__" zBH [] [] f fd):FnOk P w K mg base CX0 2 f fd ["self"] (zCW K (PySem.Str.ofString "bad deed")):=
 zCQ F zJn (Or.inl rfl) T (zAh FB) (zAj FB) (fun cdv A outer s H E hr=>zA3 T (zAh FB) hr (zAj FB) (pa_cons (pe_var (i:=0) rfl (Or.inl rfl) (by decide) (by decide)) (pa_cons pe_str pa_nil))) (fun _ _ _ _ _ _=>rfl)
theorem zH4:FnScope ["self"] ["self"] (defScope zBl):=by simp_all!
theorem zKi{f:Addr}{fd:FuncData}(F:FD K "__init__" "BadPaper.__init__" zBl [] [] f fd):Bnd K fd ["self"] 1 [] [.p 0] []:=
 by simp![F]
theorem zIk{f:Addr}{fd:FuncData}(T:CiC K mg "BurinError" B' fB)(FB:FD K "__init__" "BurinError.__init__" zAn [.str (PySem.Str.ofString "refused")] [] fB fdB)(F:FD K "__init__" "BadPaper.__init__" zBl [] [] f fd):FnOk P w K mg base CX0 2 f fd ["self"] (zCW K (PySem.Str.ofString "bad paper")):=
 zCQ F zH4 (Or.inl rfl) T (zAh FB) (zAj FB) (fun cdv A outer s H E hr=>zA3 T (zAh FB) hr (zAj FB) (pa_cons (pe_var (i:=0) rfl (Or.inl rfl) (by decide) (by decide)) (pa_cons pe_str pa_nil))) (fun _ _ _ _ _ _=>rfl)
theorem zH3:FnScope ["self"] ["self"] (defScope zBk):=by simp_all!
theorem zKh{f:Addr}{fd:FuncData}(F:FD K "__init__" "BadPlace.__init__" zBk [] [] f fd):Bnd K fd ["self"] 1 [] [.p 0] []:=
 by simp![F]
theorem zIj{f:Addr}{fd:FuncData}(T:CiC K mg "BurinError" B' fB)(FB:FD K "__init__" "BurinError.__init__" zAn [.str (PySem.Str.ofString "refused")] [] fB fdB)(F:FD K "__init__" "BadPlace.__init__" zBk [] [] f fd):FnOk P w K mg base CX0 2 f fd ["self"] (zCW K (PySem.Str.ofString "bad place")):=
 zCQ F zH3 (Or.inl rfl) T (zAh FB) (zAj FB) (fun cdv A outer s H E hr=>zA3 T (zAh FB) hr (zAj FB) (pa_cons (pe_var (i:=0) rfl (Or.inl rfl) (by decide) (by decide)) (pa_cons pe_str pa_nil))) (fun _ _ _ _ _ _=>rfl)
theorem zJm:FnScope ["self"] ["self"] (defScope zBG):=by simp_all!
theorem zLj{f:Addr}{fd:FuncData}(F:FD K "__init__" "BadSpan.__init__" zBG [] [] f fd):Bnd K fd ["self"] 1 [] [.p 0] []:=
 by simp![F]
theorem zJv{f:Addr}{fd:FuncData}(T:CiC K mg "BurinError" B' fB)(FB:FD K "__init__" "BurinError.__init__" zAn [.str (PySem.Str.ofString "refused")] [] fB fdB)(F:FD K "__init__" "BadSpan.__init__" zBG [] [] f fd):FnOk P w K mg base CX0 2 f fd ["self"] (zCW K (PySem.Str.ofString "bad span")):=
 zCQ F zJm (Or.inl rfl) T (zAh FB) (zAj FB) (fun cdv A outer s H E hr=>zA3 T (zAh FB) hr (zAj FB) (pa_cons (pe_var (i:=0) rfl (Or.inl rfl) (by decide) (by decide)) (pa_cons pe_str pa_nil))) (fun _ _ _ _ _ _=>rfl)
theorem zH2:FnScope ["self"] ["self"] (defScope zBj):=by simp_all!
theorem zKg{f:Addr}{fd:FuncData}(F:FD K "__init__" "BadStaff.__init__" zBj [] [] f fd):Bnd K fd ["self"] 1 [] [.p 0] []:=
 by simp![F]
theorem zIi{f:Addr}{fd:FuncData}(T:CiC K mg "BurinError" B' fB)(FB:FD K "__init__" "BurinError.__init__" zAn [.str (PySem.Str.ofString "refused")] [] fB fdB)(F:FD K "__init__" "BadStaff.__init__" zBj [] [] f fd):FnOk P w K mg base CX0 2 f fd ["self"] (zCW K (PySem.Str.ofString "bad staff")):=
 zCQ F zH2 (Or.inl rfl) T (zAh FB) (zAj FB) (fun cdv A outer s H E hr=>zA3 T (zAh FB) hr (zAj FB) (pa_cons (pe_var (i:=0) rfl (Or.inl rfl) (by decide) (by decide)) (pa_cons pe_str pa_nil))) (fun _ _ _ _ _ _=>rfl)
theorem zH1:FnScope ["self"] ["self"] (defScope zBi):=by simp_all!
theorem zKf{f:Addr}{fd:FuncData}(F:FD K "__init__" "BadThick.__init__" zBi [] [] f fd):Bnd K fd ["self"] 1 [] [.p 0] []:=
 by simp![F]
theorem zIh{f:Addr}{fd:FuncData}(T:CiC K mg "BurinError" B' fB)(FB:FD K "__init__" "BurinError.__init__" zAn [.str (PySem.Str.ofString "refused")] [] fB fdB)(F:FD K "__init__" "BadThick.__init__" zBi [] [] f fd):FnOk P w K mg base CX0 2 f fd ["self"] (zCW K (PySem.Str.ofString "bad thick")):=
 zCQ F zH1 (Or.inl rfl) T (zAh FB) (zAj FB) (fun cdv A outer s H E hr=>zA3 T (zAh FB) hr (zAj FB) (pa_cons (pe_var (i:=0) rfl (Or.inl rfl) (by decide) (by decide)) (pa_cons pe_str pa_nil))) (fun _ _ _ _ _ _=>rfl)
theorem zJl:FnScope ["self"] ["self"] (defScope zBF):=by simp_all!
theorem zLi{f:Addr}{fd:FuncData}(F:FD K "__init__" "BadWord.__init__" zBF [] [] f fd):Bnd K fd ["self"] 1 [] [.p 0] []:=
 by simp![F]
theorem zJu{f:Addr}{fd:FuncData}(T:CiC K mg "BurinError" B' fB)(FB:FD K "__init__" "BurinError.__init__" zAn [.str (PySem.Str.ofString "refused")] [] fB fdB)(F:FD K "__init__" "BadWord.__init__" zBF [] [] f fd):FnOk P w K mg base CX0 2 f fd ["self"] (zCW K (PySem.Str.ofString "bad word")):=
 zCQ F zJl (Or.inl rfl) T (zAh FB) (zAj FB) (fun cdv A outer s H E hr=>zA3 T (zAh FB) hr (zAj FB) (pa_cons (pe_var (i:=0) rfl (Or.inl rfl) (by decide) (by decide)) (pa_cons pe_str pa_nil))) (fun _ _ _ _ _ _=>rfl)
theorem zNS:FnScope ["self"] ["self"] (defScope zDe):=by simp_all!
theorem zRL{f:Addr}{fd:FuncData}(F:FD K "__init__" "Full.__init__" zDe [] [] f fd):Bnd K fd ["self"] 1 [] [.p 0] []:=
 by simp![F]
theorem zOe{f:Addr}{fd:FuncData}(T:CiC K mg "BurinError" B' fB)(FB:FD K "__init__" "BurinError.__init__" zAn [.str (PySem.Str.ofString "refused")] [] fB fdB)(F:FD K "__init__" "Full.__init__" zDe [] [] f fd):FnOk P w K mg base CX0 2 f fd ["self"] (zCW K (PySem.Str.ofString "full")):=
 zCQ F zNS (Or.inl rfl) T (zAh FB) (zAj FB) (fun cdv A outer s H E hr=>zA3 T (zAh FB) hr (zAj FB) (pa_cons (pe_var (i:=0) rfl (Or.inl rfl) (by decide) (by decide)) (pa_cons pe_str pa_nil))) (fun _ _ _ _ _ _=>rfl)
theorem zMO:FnScope ["self","number"] ["self","number"] (defScope zCr):=by simp_all!
theorem zPa{f:Addr}{fd:FuncData}(F:FD K "__init__" "NoBar.__init__" zCr [] [] f fd):Bnd K fd ["self","number"] 2 [] [.p 0,.p 1] []:=
 by simp![F,F]
theorem zMU{f:Addr}{fd:FuncData}(T:CiC K mg "Missing" M' fM)(FB:FD K "__init__" "Missing.__init__" zAT [.str (PySem.Str.ofString "missing")] [] fM fdM)(F:FD K "__init__" "NoBar.__init__" zCr [] [] f fd):FnOk P w K mg base CX0 2 f fd ["self","number"] (zSS K (PySem.Str.ofString "no bar")):=
 zQ3 F zMO T (zA5 FB) (zBp FB) (fun cdv A outer s H E hr=>zA3 T (zA5 FB) hr (zBp FB) (pa_cons (pe_var (i:=0) rfl (Or.inl rfl) (by decide) (by decide)) (pa_cons (pe_var (i:=1) rfl (Or.inl rfl) (by decide) (by decide)) (pa_cons pe_str pa_nil)))) (fun _ _ _ _ _ _=>rfl)
theorem zJj:FnScope ["self","tight"] ["self","tight"] (defScope zBE):=by simp_all!
theorem zLh{f:Addr}{fd:FuncData}(F:FD K "__init__" "NoBreak.__init__" zBE [] [] f fd):Bnd K fd ["self","tight"] 2 [] [.p 0,.p 1] []:=
 by simp![F,F]
theorem zJt{f:Addr}{fd:FuncData}(T:CiC K mg "BurinError" B' fB)(FB:FD K "__init__" "BurinError.__init__" zAn [.str (PySem.Str.ofString "refused")] [] fB fdB)(F:FD K "__init__" "NoBreak.__init__" zBE [] [] f fd):FnOk P w K mg base CX0 2 f fd ["self","tight"] (zNE K (PySem.Str.ofString "no break") "tight"):=
 zLP F zJj (Or.inl rfl) (Or.inl rfl) (by decide) (by decide) T (zAh FB) (zAj FB) (fun cdv A outer s H E hr=>zA3 T (zAh FB) hr (zAj FB) (pa_cons (pe_var (i:=0) rfl (Or.inl rfl) (by decide) (by decide)) (pa_cons pe_str pa_nil))) (fun _ _ _ _ _ _=>rfl) (fun _ _ _ _ _ _=>⟨pe_var (i:=0) rfl (Or.inl rfl) (by decide) (by decide),pe_var (i:=1) rfl (Or.inl rfl) (by decide) (by decide),rfl⟩)
theorem zKH:FnScope ["self","number"] ["self","number"] (defScope zB2):=by simp_all!
theorem zNg{f:Addr}{fd:FuncData}(F:FD K "__init__" "NoLine.__init__" zB2 [] [] f fd):Bnd K fd ["self","number"] 2 [] [.p 0,.p 1] []:=
 by simp![F,F]
theorem zKP{f:Addr}{fd:FuncData}(T:CiC K mg "Missing" M' fM)(FB:FD K "__init__" "Missing.__init__" zAT [.str (PySem.Str.ofString "missing")] [] fM fdM)(F:FD K "__init__" "NoLine.__init__" zB2 [] [] f fd):FnOk P w K mg base CX0 2 f fd ["self","number"] (zSS K (PySem.Str.ofString "no line")):=
 zQ3 F zKH T (zA5 FB) (zBp FB) (fun cdv A outer s H E hr=>zA3 T (zA5 FB) hr (zBp FB) (pa_cons (pe_var (i:=0) rfl (Or.inl rfl) (by decide) (by decide)) (pa_cons (pe_var (i:=1) rfl (Or.inl rfl) (by decide) (by decide)) (pa_cons pe_str pa_nil)))) (fun _ _ _ _ _ _=>rfl)
theorem zKG:FnScope ["self","number"] ["self","number"] (defScope zB1):=by simp_all!
theorem zNf{f:Addr}{fd:FuncData}(F:FD K "__init__" "NoMark.__init__" zB1 [] [] f fd):Bnd K fd ["self","number"] 2 [] [.p 0,.p 1] []:=
 by simp![F,F]
theorem zKO{f:Addr}{fd:FuncData}(T:CiC K mg "Missing" M' fM)(FB:FD K "__init__" "Missing.__init__" zAT [.str (PySem.Str.ofString "missing")] [] fM fdM)(F:FD K "__init__" "NoMark.__init__" zB1 [] [] f fd):FnOk P w K mg base CX0 2 f fd ["self","number"] (zSS K (PySem.Str.ofString "no mark")):=
 zQ3 F zKG T (zA5 FB) (zBp FB) (fun cdv A outer s H E hr=>zA3 T (zA5 FB) hr (zBp FB) (pa_cons (pe_var (i:=0) rfl (Or.inl rfl) (by decide) (by decide)) (pa_cons (pe_var (i:=1) rfl (Or.inl rfl) (by decide) (by decide)) (pa_cons pe_str pa_nil)))) (fun _ _ _ _ _ _=>rfl)
theorem zH0:FnScope ["self","number"] ["self","number"] (defScope zBh):=by simp_all!
theorem zKe{f:Addr}{fd:FuncData}(F:FD K "__init__" "NoMoment.__init__" zBh [] [] f fd):Bnd K fd ["self","number"] 2 [] [.p 0,.p 1] []:=
 by simp![F,F]
theorem zIg{f:Addr}{fd:FuncData}(T:CiC K mg "Missing" M' fM)(FB:FD K "__init__" "Missing.__init__" zAT [.str (PySem.Str.ofString "missing")] [] fM fdM)(F:FD K "__init__" "NoMoment.__init__" zBh [] [] f fd):FnOk P w K mg base CX0 2 f fd ["self","number"] (zSS K (PySem.Str.ofString "no moment")):=
 zQ3 F zH0 T (zA5 FB) (zBp FB) (fun cdv A outer s H E hr=>zA3 T (zA5 FB) hr (zBp FB) (pa_cons (pe_var (i:=0) rfl (Or.inl rfl) (by decide) (by decide)) (pa_cons (pe_var (i:=1) rfl (Or.inl rfl) (by decide) (by decide)) (pa_cons pe_str pa_nil)))) (fun _ _ _ _ _ _=>rfl)
theorem zJi:FnScope ["self"] ["self"] (defScope zBD):=by simp_all!
theorem zLg{f:Addr}{fd:FuncData}(F:FD K "__init__" "Nothing.__init__" zBD [] [] f fd):Bnd K fd ["self"] 1 [] [.p 0] []:=
 by simp![F]
theorem zJs{f:Addr}{fd:FuncData}(T:CiC K mg "BurinError" B' fB)(FB:FD K "__init__" "BurinError.__init__" zAn [.str (PySem.Str.ofString "refused")] [] fB fdB)(F:FD K "__init__" "Nothing.__init__" zBD [] [] f fd):FnOk P w K mg base CX0 2 f fd ["self"] (zCW K (PySem.Str.ofString "nothing")):=
 zCQ F zJi (Or.inl rfl) T (zAh FB) (zAj FB) (fun cdv A outer s H E hr=>zA3 T (zAh FB) hr (zAj FB) (pa_cons (pe_var (i:=0) rfl (Or.inl rfl) (by decide) (by decide)) (pa_cons pe_str pa_nil))) (fun _ _ _ _ _ _=>rfl)
theorem zNR:FnScope ["self"] ["self"] (defScope zDd):=by simp_all!
theorem zRK{f:Addr}{fd:FuncData}(F:FD K "__init__" "Same.__init__" zDd [] [] f fd):Bnd K fd ["self"] 1 [] [.p 0] []:=
 by simp![F]
theorem zOd{f:Addr}{fd:FuncData}(T:CiC K mg "BurinError" B' fB)(FB:FD K "__init__" "BurinError.__init__" zAn [.str (PySem.Str.ofString "refused")] [] fB fdB)(F:FD K "__init__" "Same.__init__" zDd [] [] f fd):FnOk P w K mg base CX0 2 f fd ["self"] (zCW K (PySem.Str.ofString "same")):=
 zCQ F zNR (Or.inl rfl) T (zAh FB) (zAj FB) (fun cdv A outer s H E hr=>zA3 T (zAh FB) hr (zAj FB) (pa_cons (pe_var (i:=0) rfl (Or.inl rfl) (by decide) (by decide)) (pa_cons pe_str pa_nil))) (fun _ _ _ _ _ _=>rfl)
section
variable {f:Addr}(B:Bt K mg)
theorem zLe{f:Addr}{fd:FuncData}(F:FD K "_law_bag" "_law_bag" zQH [] [] f fd):Bnd K fd ["_law_script"] 1 [] [.p 0] []:=
 by simp![F]
theorem zVC:FnScope zZ9 ["_law_script"] (defScope zQH):=by simp_all!
include B in
theorem zZG:PdC P w K mg base 0 zZ9 "_law_bag" zQH f (zYw):=by
 intro cdv A outer s H E hr
 have sc:=zVC
 exact(zAk (zAI (zOL (zAa (zBB call_list_of zV3 B.n_list (by decide+kernel) (zAa (zOJ (e_v 0) zC0 (zCZ zAi)) zAf)) (zAa zAi (zAa zAi (zAa (zCU zAi (zM4 zAi (zAw zAF zD7 B.n_len (by decide+kernel) (zAa (zOJ (e_v 0) zC0 (zCZ zAi)) zAf)))) (zAa zAi zAf))))))))
theorem zD4{f:Addr}{fd:FuncData}(F:FD K "__init__" "Stand.__init__" zQJ [] [] f fd):Bnd K fd ["self","sheet"] 2 [] [.p 0,.p 1] []:=
 by simp![F,F]
theorem zVE:FnScope yAb ["self","sheet"] (defScope zQJ):=by simp_all!
end
section
variable {f:Addr}{tb:Tb}{f_zt f_zab f_Stand_need_bar f_zf f_zac f_zg fI_BadPaper:Addr}{fdI_BadPaper:FuncData}(B:Bt K mg)(T_Stand:Ob_Stand K mg tb.Stand f_zt f_zab f_Stand_need_bar f_zf f_zac f_zg)(T_BadPaper:Er0 P w K mg base "BadPaper" (PySem.Str.ofString "bad paper") tb.BadPaper fI_BadPaper fdI_BadPaper)
include B T_Stand in
theorem zZI:PdC P w K mg base 0 yAb "Stand.__init__" zQJ f (zYy tb):=by
 intro cdv A outer s H E hr
 have sc:=zVE
 exact(zAe (zCi T_Stand.cl T_Stand.n_sheet (e_v 0) (zCV (e_v 1)))
 (zAe (zCi T_Stand.cl T_Stand.n_order (e_v 0) (zCV (zOL zAf)))
 (zAe (zCi T_Stand.cl T_Stand.n_music (e_v 0) (zCV zOM))
 (zAe (zCi T_Stand.cl T_Stand.n_spans (e_v 0) (zCV zOM))
 (zAe (zCi T_Stand.cl T_Stand.n_bound (e_v 0) (zCV zOM))
 (zAk (zCi T_Stand.cl T_Stand.n_fresh (e_v 0) (zCV (zCt (zAa zAi (zAa zAi zAf)))))))))))
theorem zKa{f:Addr}{fd:FuncData}(F:FD K "paper" "paper" zCP [] [("width",.int 120),("lines",.int 4),("fee",.int 10),("turn",.int 50),("gap",.int 5)] f fd):Bnd K fd ["width","lines","fee","turn","gap"] 0 ["width","lines","fee","turn","gap"] [.k 0,.k 1,.k 2,.k 3,.k 4] []:=
 yA3 F fun _ _ _ _ _ _ us ws h1 h2=>match us,ws,h1,h2 with|[],[_,_,_,_,_],_,_=>rfl
theorem zLG:FnScope zIn ["width","lines","fee","turn","gap"] (defScope zCP):=by simp_all!
include B T_BadPaper in
theorem zWA:PdX P w K mg base 3 zIn "paper" zCP f (zPI tb):=by
 intro cdv A outer s H E hr
 have sc:=zLG
 exact(zAe (zCg (jr (zI1 (zDb (zCh op_le sLe op_le sLe (zD1 B.g_NARROWEST) (e_v 0) (zD1 B.g_WIDEST))) (zEt (zDb (zCh op_le sLe op_le sLe zAi (e_v 1) (zD1 B.g_MOST_LINES))))))
  (zAk (zBz rfl (takes_of rfl rfl rfl rfl) T_BadPaper.oex T_BadPaper.no T_BadPaper.iC T_BadPaper.tI T_BadPaper.ok (hr.mono (by decide)) T_BadPaper.bn T_BadPaper.gC))
  zAP)
 (zAe (zCg (zDb (zGU (zAw (zFb rfl) zUQ B.n_all (by decide+kernel) (zAa (zJI rfl sc.nd (zEi (zCt (zAa (e_v 2) (zAa (e_v 3) (zAa (e_v 4) zAf))))) (own:=[("one",5)]) (by exact blkOk_by (N:=zIn) (sc:=defScope zCP) (by decide+kernel)) (fun _ _ _ _ _=>(zBI (i:=5) sc.nd rfl (by dsimp!))) (fun _ _ _ _ _=>zDl) (fun _ _ _ _ _=>(zOO op_le sLe op_le sLe zAi (e_v 5) (zD1 B.g_MOST_COST)))) zAf))))
  (zAk (zBz rfl (takes_of rfl rfl rfl rfl) T_BadPaper.oex T_BadPaper.no T_BadPaper.iC T_BadPaper.tI T_BadPaper.ok (hr.mono (by decide)) T_BadPaper.bn T_BadPaper.gC))
  zAP)
 (zAk (zAI (zCt (zAa (e_v 0) (zAa (e_v 1) (zAa (e_v 2) (zAa (e_v 3) (zAa (e_v 4) zAf))))))))))
theorem zIS{f:Addr}{fd:FuncData}(F:FD K "__init__" "Shop.__init__" zBa [] [("width",.int 120),("lines",.int 4),("fee",.int 10),("turn",.int 50),("gap",.int 5)] f fd):Bnd K fd ["self","width","lines","fee","turn","gap"] 1 ["width","lines"] [.p 0,.k 0,.k 1,.d 0,.d 1,.d 2] ([("fee",.int 10),("turn",.int 50),("gap",.int 5)].map (·.2)):=
 zYi F [("fee",.int 10),("turn",.int 50),("gap",.int 5)] (by simp) (by simp) fun _ _ _ _ _ _ us ws qs h1 h2 h3=>match us,ws,qs,h1,h2,h3 with|[_],[_,_],[_,_,_],_,_,_=>⟨_,_,_,_,_,_,rfl,rfl,⟨_,_,_,_,_,_,rfl,rfl,⟨_,_,_,_,_,_,rfl,rfl,rfl⟩⟩⟩
end
theorem zHQ:∀G,VRs K G ([.int 10,.int 50,.int 5]:List V) [.int 10,.int 50,.int 5]:=fun _=>.cons (.int _) (.cons (.int _) (.cons (.int _) (.nil)))
theorem zFo:FnScope zEf ["self","width","lines","fee","turn","gap"] (defScope zBa):=by simp_all!
section
variable {f:Addr}{tb:Tb}{f_zt f_zab f_Stand_need_bar f_zf f_zac f_zg f_paper f_Shop_init f_Shop_do_v1 f_Shop_undo_v2 f_Shop_redo_v2 f_zn f_zad f_Shop_word f_Shop_mark_v1 f_zm f_Desk_init f_zb:Addr}{fd_zt fd_paper fd_Shop_init:FuncData}(B:Bt K mg)(T_Stand:Ob_Stand K mg tb.Stand f_zt f_zab f_Stand_need_bar f_zf f_zac f_zg)(T_Shop:Ob_Shop K mg tb.Shop f_Shop_init f_Shop_do_v1 f_Shop_undo_v2 f_Shop_redo_v2 f_zn f_zad f_Shop_word f_Shop_mark_v1 f_zm)(c_Stand_init:Dm P w K mg base 1 zQJ "__init__" "Stand.__init__" ["self","sheet"] [] [] (zNz tb) f_zt fd_zt)(c_paper:DfXA P w K mg base 4 zCP "paper_pager" "paper" ["width","lines","fee","turn","gap"] [] [("width",.int 120),("lines",.int 4),("fee",.int 10),("turn",.int 50),("gap",.int 5)] (zI8 tb) f_paper fd_paper)(T_Desk:Ob_Desk K mg tb.Desk f_Desk_init f_zb)(c_Shop_init:DmX P w K mg base 5 zBa "__init__" "Shop.__init__" ["self","width","lines","fee","turn","gap"] [] [("width",.int 120),("lines",.int 4),("fee",.int 10),("turn",.int 50),("gap",.int 5)] (zLv tb) f_Shop_init fd_Shop_init)
include B T_Stand T_Shop c_Stand_init c_paper in
theorem zWu:PdX P w K mg base 4 zEf "Shop.__init__" zBa f (zPC tb):=by
 intro cdv A outer s H E hr
 have sc:=zFo
 exact(zAe (zCi T_Shop.cl T_Shop.n_now (e_v 0) (zSN T_Stand.mak (zPt c_Stand_init.ok) (hr.mono (by omega)) (takes_of rfl rfl rfl rfl) T_Stand.g (zD4 c_Stand_init.fn) (zMh c_paper.ok (hr.mono (by decide)) (takes_of rfl rfl rfl rfl) c_paper.mg c_paper.fn.kp (zKa c_paper.fn) zAy (zDn (e_v 1) (zDn (e_v 2) (zDn (e_v 3) (zDn (e_v 4) (zDn (e_v 5) zAY))))))))
 (zAe (zCi T_Shop.cl T_Shop.n_past (e_v 0) (zCV (zOL zAf)))
 (zAk (zCi T_Shop.cl T_Shop.n_gone (e_v 0) (zCV (zOL zAf))))))
theorem zIU{f:Addr}{fd:FuncData}(F:FD K "__init__" "Desk.__init__" zBb [] [("width",.int 120),("lines",.int 4)] f fd):Bnd K fd ["self","width","lines"] 1 [] [.p 0,.d 0,.d 1] ([("width",.int 120),("lines",.int 4)].map (·.2)):=
 zYi F [("width",.int 120),("lines",.int 4)] (by simp) (by simp) fun _ _ _ _ _ _ us ws qs h1 h2 h3=>match us,ws,qs,h1,h2,h3 with|[_],[],[_,_],_,_,_=>⟨_,_,_,_,_,_,rfl,rfl,⟨_,_,_,_,_,_,rfl,rfl,rfl⟩⟩
theorem zHR:∀G,VRs K G ([.int 120,.int 4]:List V) [.int 120,.int 4]:=fun _=>.cons (.int _) (.cons (.int _) (.nil))
theorem zFp:FnScope zEg ["self","width","lines"] (defScope zBb):=by simp_all!
include B T_Shop T_Desk c_Shop_init in
theorem zWr:PdX P w K mg base 6 zEg "Desk.__init__" zBb f (zPz tb):=by
 intro cdv A outer s H E hr
 have sc:=zFp
 exact(zAk (zCi T_Desk.cl T_Desk.n_shop (e_v 0) (zNl T_Shop.mak c_Shop_init.ok (hr.mono (by omega)) (takes_of rfl rfl rfl rfl) T_Shop.g (zIS c_Shop_init.fn) zHQ (zDn (e_v 1) (zDn (e_v 2) zAY)))))
end
section
variable {f:Addr}(B:Bt K mg)
theorem zLd{f:Addr}{fd:FuncData}(F:FD K "_law_odd" "_law_odd" zQG [] [] f fd):Bnd K fd [] 0 [] [] []:=
 yA3 F fun _ _ _ _ _ _ us ws h1 h2=>match us,ws,h1,h2 with|[],[],_,_=>rfl
theorem zVB:FnScope zZ8 [] (defScope zQG):=by simp_all!
include B in
theorem zZF:PdC P w K mg base 0 zZ8 "_law_odd" zQG f (zYv):=by
 intro cdv A outer s H E hr
 have sc:=zVB
 exact(zAe (zA2 (i:=0) sc.nd rfl (by dsimp!) (zBx zAf))
 (zAe (zA2 (i:=0) sc.nd rfl (by dsimp!) (zDA (e_v 0) (zBx (zAa zAl (zAa zAl (zAa zAl (zAa zAl (zAa zAl (zAa zAl (zAa zAl (zAa zAl (zAa zAl (zAa zAl zAf)))))))))))))
 (zAe (zA2 (i:=0) sc.nd rfl (by dsimp!) (zDA (e_v 0) (zBx (zAa zAl (zAa zAl (zAa zAl (zAa zAl (zAa zAl (zAa zAl zAf)))))))))
 (zAe (zA2 (i:=0) sc.nd rfl (by dsimp!) (zDA (e_v 0) (zBx (zAa zAl (zAa zAl (zAa zAl (zAa zAl (zAa zAl zAf))))))))
 (zAe (zA2 (i:=0) sc.nd rfl (by dsimp!) (zDA (e_v 0) (zBx (zAa zAl (zAa zAl (zAa zAl (zAa zAl (zAa zAl (zAa zAl zAf)))))))))
 (zAe (zA2 (i:=0) sc.nd rfl (by dsimp!) (zDA (e_v 0) (zBx (zAa zAl (zAa zAl (zAa zAl (zAa (zCU zAl (zXz zAl zAi)) (zAa zAl (zAa zAl zAf)))))))))
 (zAe (zA2 (i:=0) sc.nd rfl (by dsimp!) (zDA (e_v 0) (zBx (zAa zAl (zAa zAl (zAa zAl (zAa zAl (zAa zAl zAf))))))))
 (zAe (zA2 (i:=0) sc.nd rfl (by dsimp!) (zDA (e_v 0) (zBx (zAa zAl (zAa zAl (zAa zAl (zAa zAl zAf)))))))
 (zAe (zA2 (i:=0) sc.nd rfl (by dsimp!) (zDA (e_v 0) (zBx (zAa zAl (zAa zAl (zAa zAl (zAa zAl (zAa zAl zAf))))))))
 (zAe (zA2 (i:=0) sc.nd rfl (by dsimp!) (zDA (e_v 0) (zBx (zAa zAl (zAa zAl (zAa zAl (zAa zAl (zAa zAl zAf))))))))
 (zAe (zA2 (i:=0) sc.nd rfl (by dsimp!) (zDA (e_v 0) (zBx (zAa zAl (zAa zAl (zAa zAl (zAa zAl (zAa zAl (zAa zAl (zAa zAl zAf))))))))))
 (zAe (zA2 (i:=0) sc.nd rfl (by dsimp!) (zDA (e_v 0) (zBx (zAa zAl (zAa zAl (zAa zAl (zAa zAl (zAa zAl (zAa zAl zAf)))))))))
 (zAk (zAI (e_v 0)))))))))))))))
theorem zC5{f:Addr}{fd:FuncData}(F:FD K "piece" "Shop.piece" zPi [] [] f fd):Bnd K fd ["self"] 1 [] [.p 0] []:=
 by simp![F]
theorem zVL:FnScope zY0 ["self"] (defScope zPi):=by simp_all!
end
section
variable {f:Addr}{tb:Tb}{f_zt f_zab f_Stand_need_bar f_zf f_zac f_zg f_Shop_init f_Shop_do_v1 f_Shop_undo_v2 f_Shop_redo_v2 f_zn f_zad f_Shop_word f_Shop_mark_v1 f_zm fI_NoMark fI_NoBar:Addr}{fdI_NoMark fdI_NoBar fd_Stand_need_bar:FuncData}(B:Bt K mg)(T_Stand:Ob_Stand K mg tb.Stand f_zt f_zab f_Stand_need_bar f_zf f_zac f_zg)(T_Shop:Ob_Shop K mg tb.Shop f_Shop_init f_Shop_do_v1 f_Shop_undo_v2 f_Shop_redo_v2 f_zn f_zad f_Shop_word f_Shop_mark_v1 f_zm)(T_NoMark:ErL P w K mg base "NoMark" (PySem.Str.ofString "no mark") tb.NoMark fI_NoMark fdI_NoMark)(T_NoBar:ErL P w K mg base "NoBar" (PySem.Str.ofString "no bar") tb.NoBar fI_NoBar fdI_NoBar)(c_Stand_need_bar:DmX P w K mg base 4 zAE "need_bar" "Stand.need_bar" ["self","number"] [] [] (zEw tb) f_Stand_need_bar fd_Stand_need_bar)
include B T_Stand T_Shop in
theorem zZP:PdC P w K mg base 0 zY0 "Shop.piece" zPi f (zYF tb):=by
 intro cdv A outer s H E hr
 have sc:=zVL
 exact(zAk (zAI (zJI rfl sc.nd (zEi (zAA T_Stand.cl T_Stand.n_order (zAA T_Shop.cl T_Shop.n_now (e_v 0)))) (own:=[("number",1)]) (by exact blkOk_by (N:=zY0) (sc:=defScope zPi) (by decide+kernel)) (fun _ _ _ _ _=>(zBI (i:=1) sc.nd rfl (by dsimp!))) (fun _ _ _ _ _=>zDl) (fun _ _ _ _ _=>(zJJ hr (zAA T_Stand.cl T_Stand.n_music (zAA T_Shop.cl T_Shop.n_now (e_v 0))) (e_v 1))))))
theorem zDq{f:Addr}{fd:FuncData}(F:FD K "mark" "Shop.mark" zAN [] [] f fd):Bnd K fd ["self","number"] 2 [] [.p 0,.p 1] []:=
 by simp![F,F]
theorem zDu:FnScope zCT ["self","number"] (defScope zAN):=by simp_all!
include B T_Stand T_Shop T_NoMark in
theorem zWC:PdX P w K mg base 3 zCT "Shop.mark" zAN f (zPK tb):=by
 intro cdv A outer s H E hr
 have sc:=zDu
 exact(zAe (zCg (zYQ (zIJ hr (e_v 1) (zAA T_Stand.cl T_Stand.n_spans (zAA T_Shop.cl T_Shop.n_now (e_v 0)))))
  (zAk (zF0 rfl (takes_of rfl rfl rfl rfl) T_NoMark.oel T_NoMark.no2 T_NoMark.no T_NoMark.iC T_NoMark.tI T_NoMark.ok (hr.mono (by decide)) T_NoMark.bn T_NoMark.gC (e_v 1)))
  zAP)
 (zAk (zAI (zJJ hr (zAA T_Stand.cl T_Stand.n_spans (zAA T_Shop.cl T_Shop.n_now (e_v 0))) (e_v 1)))))
theorem zAO{f:Addr}{fd:FuncData}(F:FD K "need_bar" "Stand.need_bar" zAE [] [] f fd):Bnd K fd ["self","number"] 2 [] [.p 0,.p 1] []:=
 by simp![F,F]
theorem zCY:FnScope zCj ["self","number"] (defScope zAE):=by simp_all!
include B T_Stand T_NoBar in
theorem zWO:PdX P w K mg base 3 zCj "Stand.need_bar" zAE f (zPW tb):=by
 intro cdv A outer s H E hr
 have sc:=zCY
 exact(zAk (zCg (zYQ (zIJ hr (e_v 1) (zAA T_Stand.cl T_Stand.n_music (e_v 0))))
  (zAk (zF0 rfl (takes_of rfl rfl rfl rfl) T_NoBar.oel T_NoBar.no2 T_NoBar.no T_NoBar.iC T_NoBar.tI T_NoBar.ok (hr.mono (by decide)) T_NoBar.bn T_NoBar.gC (e_v 1)))
  zAP))
theorem zEV{f:Addr}{fd:FuncData}(F:FD K "word" "Shop.word" zA9 [] [] f fd):Bnd K fd ["self","number"] 2 [] [.p 0,.p 1] []:=
 by simp![F,F]
theorem zFn:FnScope zEe ["self","number"] (defScope zA9):=by simp_all!
include B T_Stand T_Shop c_Stand_need_bar in
theorem zWD:PdX P w K mg base 4 zEe "Shop.word" zA9 f (zPL tb):=by
 intro cdv A outer s H E hr
 have sc:=zFn
 exact(zAe (zBS (zDk (zCV (zAA T_Shop.cl T_Shop.n_now (e_v 0))) T_Stand.cl T_Stand.m_need_bar c_Stand_need_bar.ok (hr.mono (by omega)) (takes_of rfl rfl rfl rfl) (zAO c_Stand_need_bar.fn) zAy (zAa (e_v 1) zAf)))
 (zAk (zAI (zON hr (zAA T_Stand.cl T_Stand.n_bound (zAA T_Shop.cl T_Shop.n_now (e_v 0))) (e_v 1) (zD1 B.g_FREE)))))
theorem zC6{f:Addr}{fd:FuncData}(F:FD K "deeds" "Shop.deeds" zPh [] [] f fd):Bnd K fd ["self"] 1 [] [.p 0] []:=
 by simp![F]
theorem zVK:FnScope zYZ ["self"] (defScope zPh):=by simp_all!
include B T_Shop in
theorem zZO:PdC P w K mg base 0 zYZ "Shop.deeds" zPh f (zYE tb):=by
 intro cdv A outer s H E hr
 have sc:=zVK
 exact(zAk (zAI (zJI rfl sc.nd (zEi (zAA T_Shop.cl T_Shop.n_past (e_v 0))) (own:=[("deed",1),("stand",2)]) (by exact blkOk_by (N:=zYZ) (sc:=defScope zPh) (by decide+kernel)) (fun _ _ _ _ _=>(zSh rfl (zF6 (zBI (i:=1) sc.nd rfl (by dsimp!)) (zF6 (zBI (i:=2) sc.nd rfl (by dsimp!)) zOz)))) (fun _ _ _ _ _=>zDl) (fun _ _ _ _ _=>(e_v 1)))))
end
section
variable {f f_za:Addr}{fd_za:FuncData}(B:Bt K mg)(c_law_same:Df P w K mg base 10 zKK "_law_same" ["_law_found","_law_due"] [] [] sp_za f_za fd_za)
theorem zGS{f:Addr}{fd:FuncData}(F:FD K "_law_is_form" "_law_is_form" zQF [] [] f fd):Bnd K fd ["_law_text"] 1 [] [.p 0] []:=
 by simp![F]
theorem zVA:FnScope zZ7 ["_law_text"] (defScope zQF):=by simp_all!
include B in
theorem zZE:PdC P w K mg base 0 zZ7 "_law_is_form" zQF f (zYu):=by
 intro cdv A outer s H E hr
 have sc:=zVA
 exact(zAk (zAI (zE7 op_in_seq zYT (e_v 0) (zBx (zAa zAl (zAa zAl (zAa zAl (zAa zAl (zAa zAl (zAa zAl zAf))))))) (by rfl))))
theorem zCK{f:Addr}{fd:FuncData}(F:FD K "_law_same" "_law_same" zKK [] [] f fd):Bnd K fd ["_law_found","_law_due"] 2 [] [.p 0,.p 1] []:=
 by simp![F,F]
theorem zS8:FnScope zXa ["_law_found","_law_due"] (defScope zKK):=by simp_all!
include B in
theorem zWT{k:Nat}{sp_za:DSp}(c_law_same:Df P w K mg base k zKK "_law_same" ["_law_found","_law_due"] [] [] sp_za f_za fd_za):∀(cdv:Value) (A:Around) (outer:List Env) (s:Shared) (H:Hp) (E:XK),Room k (A.deeper (envOfC "_law_same" (defScope zKK) s.heap.objs.size f cdv))→
  PSs (cxOf CX0 P w K mg base zXa "_law_same" (defScope zKK) f cdv A outer s H E).nox (defBody zKK) (zCl K W0 (zNr sp_za)):=by
 intro cdv A outer s H E hr
 have sc:=zS8
 exact(zAe (zCg (zGU (zXE .lst .tup (by decide) (by decide) B.n_isinstance (e_v 1) (zDo (v:=.ty "list") (u:=.type "list") B.n_list (by decide+kernel) rfl fun _=>.ty _) (zDo (v:=.ty "tuple") (u:=.type "tuple") B.n_tuple (by decide+kernel) rfl fun _=>.ty _)))
  (zAe (zCg (jr (zI1 (zAD (zPn hr) sNe (zG6 .lst (by decide) B.n_isinstance (e_v 0) (zDo (v:=.ty "list") (u:=.type "list") B.n_list (by decide+kernel) rfl fun _=>.ty _)) (zG6 .lst (by decide) B.n_isinstance (e_v 1) (zDo (v:=.ty "list") (u:=.type "list") B.n_list (by decide+kernel) rfl fun _=>.ty _)) (nomark _)) (zEt (zAD (zPn hr) sNe (zG6 .tup (by decide) B.n_isinstance (e_v 0) (zDo (v:=.ty "tuple") (u:=.type "tuple") B.n_tuple (by decide+kernel) rfl fun _=>.ty _)) (zG6 .tup (by decide) B.n_isinstance (e_v 1) (zDo (v:=.ty "tuple") (u:=.type "tuple") B.n_tuple (by decide+kernel) rfl fun _=>.ty _)) (nomark _)))))
  (zAk (zAI zUk))
  zAP)
 (zAk (zAI (zM6 (zE7 (zHs hr) sEq (zAw zAF zD7 B.n_len (by decide+kernel) (zAa (e_v 0) zAf)) (zAw zAF zD7 B.n_len (by decide+kernel) (zAa (e_v 1) zAf)) (nomark _)) (zOK (zAw (zFb rfl) zUQ B.n_all (by decide+kernel) (zAa (yBN rfl sc.nd (zF5 B.n_range (zAa (zAw zAF zD7 B.n_len (by decide+kernel) (zAa (e_v 1) zAf)) zAf)) (own:=[("_law_k",2)]) (by exact blkOk_by (N:=zXa) (sc:=defScope zKK) (by decide+kernel)) (fun _ _ _ _ _=>(zBI (i:=2) sc.nd rfl (by dsimp!))) (fun _ _ _ _ _=>zDl) (fun _ _ _ _ _=>(zAV c_law_same.ok hr c_law_same.mg c_law_same.fn.kp (zCK c_law_same.fn) zAy (zAa (zAG (e_v 0) (e_v 2)) (zAa (zAG (e_v 1) (e_v 2)) zAf)) zAY))) zAf)))))))
  zAP)
 (zAe (zCg (jr (zI1 (zAD op_isN zIX (e_v 1) zA0 (nomark _)) (zEt (zAD op_isN zIX (e_v 0) zA0 (nomark _)))))
  (zAk (zAI (zM6 (zE7 op_isN zIX (e_v 0) zA0 (nomark _)) (zOK (zE7 op_isN zIX (e_v 1) zA0 (nomark _))))))
  zAP)
 (zAe (zCg (jr (zI1 (zAD (zPn hr) sNe (zG6 .bl (by decide) B.n_isinstance (e_v 1) (zDo (v:=.ty "bool") (u:=.type "bool") B.n_bool (by decide+kernel) rfl fun _=>.ty _)) (zG6 .bl (by decide) B.n_isinstance (e_v 0) (zDo (v:=.ty "bool") (u:=.type "bool") B.n_bool (by decide+kernel) rfl fun _=>.ty _)) (nomark _)) (zEt (zAD (zPn hr) sNe (zG6 .int (by decide) B.n_isinstance (e_v 1) (zDo (v:=.ty "int") (u:=.type "int") B.n_int (by decide+kernel) rfl fun _=>.ty _)) (zG6 .int (by decide) B.n_isinstance (e_v 0) (zDo (v:=.ty "int") (u:=.type "int") B.n_int (by decide+kernel) rfl fun _=>.ty _)) (nomark _)))))
  (zAk (zAI zUk))
  zAP)
 (zAk (zAI (zM6 (zE7 (zHs hr) sEq (zG6 .str (by decide) B.n_isinstance (e_v 1) (zDo (v:=.ty "str") (u:=.type "str") B.n_str (by decide+kernel) rfl fun _=>.ty _)) (zG6 .str (by decide) B.n_isinstance (e_v 0) (zDo (v:=.ty "str") (u:=.type "str") B.n_str (by decide+kernel) rfl fun _=>.ty _)) (nomark _)) (zOK (zE7 (zHs hr) sEq (e_v 0) (e_v 1) (nomark _)))))))))
theorem zFd{f:Addr}{fd:FuncData}(F:FD K "like" "Stand.like" zH7 [] [] f fd):Bnd K fd ["self"] 1 [] [.p 0] []:=
 by simp![F]
theorem zRV:FnScope zTH ["self"] (defScope zH7):=by simp_all!
end
section
variable {f:Addr}{tb:Tb}{f_zt f_zab f_Stand_need_bar f_zf f_zac f_zg:Addr}{fd_zt:FuncData}(B:Bt K mg)(T_Stand:Ob_Stand K mg tb.Stand f_zt f_zab f_Stand_need_bar f_zf f_zac f_zg)(c_Stand_init:Dm P w K mg base 1 zQJ "__init__" "Stand.__init__" ["self","sheet"] [] [] (zNz tb) f_zt fd_zt)
include B T_Stand c_Stand_init in
theorem zWR:PdC P w K mg base 2 zTH "Stand.like" zH7 f (zPZ tb):=by
 intro cdv A outer s H E hr
 have sc:=zRV
 exact(zAe (zA2 (i:=1) sc.nd rfl (by dsimp!) (zXA T_Stand.mak c_Stand_init.ok (hr.mono (by omega)) T_Stand.g (zD4 c_Stand_init.fn) zAy (zAa (zAA T_Stand.cl T_Stand.n_sheet (e_v 0)) zAf) zAY))
 (zAe (zCi T_Stand.cl T_Stand.n_order (e_v 1) (zCV (zBB call_list_of zV3 B.n_list (by decide+kernel) (zAa (zAA T_Stand.cl T_Stand.n_order (e_v 0)) zAf))))
 (zAe (zCi T_Stand.cl T_Stand.n_music (e_v 1) (zCV (zBB call_dictD zN0 B.n_dict (by decide+kernel) (zAa (zAA T_Stand.cl T_Stand.n_music (e_v 0)) zAf))))
 (zAe (zCi T_Stand.cl T_Stand.n_spans (e_v 1) (zCV (zBB call_dictD zN0 B.n_dict (by decide+kernel) (zAa (zAA T_Stand.cl T_Stand.n_spans (e_v 0)) zAf))))
 (zAe (zCi T_Stand.cl T_Stand.n_bound (e_v 1) (zCV (zBB call_dictD zN0 B.n_dict (by decide+kernel) (zAa (zAA T_Stand.cl T_Stand.n_bound (e_v 0)) zAf))))
 (zAe (zCi T_Stand.cl T_Stand.n_fresh (e_v 1) (zCV (zAA T_Stand.cl T_Stand.n_fresh (e_v 0))))
 (zAk (zAI (e_v 1)))))))))
theorem zET{f:Addr}{fd:FuncData}(F:FD K "need_form" "need_form" zA7 [] [] f fd):Bnd K fd ["deed"] 1 [] [.p 0] []:=
 by simp![F]
end
theorem zFl:FnScope zEc ["deed"] (defScope zA7):=by simp_all!
section
variable {f:Addr}{tb:Tb}{fI_BadDeed f_need_form:Addr}{fdI_BadDeed fd_need_form:FuncData}(B:Bt K mg)(T_BadDeed:Er0 P w K mg base "BadDeed" (PySem.Str.ofString "bad deed") tb.BadDeed fI_BadDeed fdI_BadDeed)(K_SIZES:KTg K w mg "SIZES" tb.SIZES (sizesT))(c_need_form:DfX P w K mg base 4 zA7 "need_form" ["deed"] [] [] (zI7 tb) f_need_form fd_need_form)
include B T_BadDeed K_SIZES in
theorem zWz:PdX P w K mg base 3 zEc "need_form" zA7 f (zPH tb):=by
 intro cdv A outer s H E hr
 have sc:=zFl
 exact(zAk (zCg (jr (zI1 (zAD (zHs hr) sEq (zAw zAF zD7 B.n_len (by decide+kernel) (zAa (e_v 0) zAf)) zAi (nomark _)) (zEt (zAD (zPn hr) sNe (zAw zAF zD7 B.n_len (by decide+kernel) (zAa (e_v 0) zAf)) (zXC K_SIZES.tb (zD1 K_SIZES.gc) (zAG (e_v 0) zAi) zAi) (nomark _)))))
  (zAk (zBz rfl (takes_of rfl rfl rfl rfl) T_BadDeed.oex T_BadDeed.no T_BadDeed.iC T_BadDeed.tI T_BadDeed.ok (hr.mono (by decide)) T_BadDeed.bn T_BadDeed.gC))
  zAP))
theorem zEU{f:Addr}{fd:FuncData}(F:FD K "need_deed" "need_deed" zA8 [] [] f fd):Bnd K fd ["deed"] 1 [] [.p 0] []:=
 by simp![F]
theorem zFm:FnScope zEd ["deed"] (defScope zA8):=by simp_all!
include B T_BadDeed c_need_form in
theorem zWy:PdX P w K mg base 4 zEd "need_deed" zA8 f (zPG tb):=by
 intro cdv A outer s H E hr
 have sc:=zFm
 exact(zAe (zBS (zDB c_need_form.ok (hr.mono (by decide)) (takes_of rfl rfl rfl rfl) c_need_form.mg c_need_form.fn.kp (zET c_need_form.fn) zAy (zAa (e_v 0) zAf) zAY))
 (zAe (zA2 (i:=1) sc.nd rfl (by dsimp!) (zNk (zAD (zHs hr) sEq (zAG (e_v 0) zAi) zAl (nomark _)) (zAG (e_v 0) zAi) (zCt zAf)))
 (zAe (zCg (jr (zKr (zAD (zHs hr) sEq (zAG (e_v 0) zAi) zAl (nomark _)) (zGb (zAD (zHs hr) sEq (zAw zAF zD7 B.n_len (by decide+kernel) (zAa (e_v 1) zAf)) zAi (nomark _)))))
  (zAk (zBz rfl (takes_of rfl rfl rfl rfl) T_BadDeed.oex T_BadDeed.no T_BadDeed.iC T_BadDeed.tI T_BadDeed.ok (hr.mono (by decide)) T_BadDeed.bn T_BadDeed.gC))
  zAP)
 (zAk (zJp (passes_of rfl) rfl (zEi (e_v 1)) (zAx (i:=2) sc.nd rfl (by dsimp!))
  (zAe (zBS (zDB c_need_form.ok (hr.mono (by decide)) (takes_of rfl rfl rfl rfl) c_need_form.mg c_need_form.fn.kp (zET c_need_form.fn) zAy (zAa (e_v 2) zAf) zAY))
 (zAk (zCg (zAD (zHs hr) sEq (zAG (e_v 2) zAi) zAl (nomark _))
  (zAk (zBz rfl (takes_of rfl rfl rfl rfl) T_BadDeed.oex T_BadDeed.no T_BadDeed.iC T_BadDeed.tI T_BadDeed.ok (hr.mono (by decide)) T_BadDeed.bn T_BadDeed.gC))
  zAP))))))))
end
section
variable {f f_zy:Addr}{fd_zy:FuncData}(B:Bt K mg)(c_good_head:Df P w K mg base 1 zQE "good_head" ["head"] [] [] zQc f_zy fd_zy)
theorem zIP{f:Addr}{fd:FuncData}(F:FD K "good_head" "good_head" zQE [] [] f fd):Bnd K fd ["head"] 1 [] [.p 0] []:=
 by simp![F]
theorem zVz:FnScope zZ6 ["head"] (defScope zQE):=by simp_all!
include B in
theorem zZD:PdC P w K mg base 0 zZ6 "good_head" zQE f (zYt):=by
 intro cdv A outer s H E hr
 have sc:=zVz
 exact(zAe (zDr (e_v 0) (zDR rfl (zAq (zAx (i:=1) sc.nd rfl (by dsimp!)) (zAq (zAx (i:=2) sc.nd rfl (by dsimp!)) (zAq (zAx (i:=3) sc.nd rfl (by dsimp!)) zCd)))))
 (zAk (zAI (zM6 (zOO op_le sLe op_le sLe zAi (e_v 1) (zD1 B.g_LAST_STAFF)) (zM6 (zE7 op_le sLe (zAw call_abs yBG B.n_abs (by decide+kernel) (zAa (e_v 2) zAf)) (zD1 B.g_HIGHEST) (nomark _)) (zOK (zE7 op_in_seq zYT (e_v 3) (zD1 B.g_SIGNS) (by rfl))))))))
theorem zGT{f:Addr}{fd:FuncData}(F:FD K "good_moment" "good_moment" zNT [] [] f fd):Bnd K fd ["moment"] 1 [] [.p 0] []:=
 by simp![F]
theorem zVQ:FnScope zW9 ["moment"] (defScope zNT):=by simp_all!
include B c_good_head in
theorem zZU:PdC P w K mg base 1 zW9 "good_moment" zNT f (zYJ):=by
 intro cdv A outer s H E hr
 have sc:=zVQ
 exact(zAe (zDr (e_v 0) (zDR rfl (zAq (zAx (i:=1) sc.nd rfl (by dsimp!)) (zAq (zAx (i:=2) sc.nd rfl (by dsimp!)) (zAq (zAx (i:=3) sc.nd rfl (by dsimp!)) zCd)))))
 (zAe (zCg (jr (zI1 (zDb (zCh op_le sLe op_le sLe zAi (e_v 1) (zD1 B.g_MOST_BEATS))) (zI1 (zAD op_gt sGt (zAw zAF zD7 B.n_len (by decide+kernel) (zAa (e_v 2) zAf)) (zD1 B.g_MOST_HEADS) (nomark _)) (zEt (zDb (zCh op_le sLe op_le sLe zAi (e_v 3) (zD1 B.g_MOST_WORD)))))))
  (zAk (zAI zUk))
  zAP)
 (zAe (zCg (zDb (zGU (zAw (zFb rfl) zUQ B.n_all (by decide+kernel) (zAa (zJI rfl sc.nd (zEi (e_v 2)) (own:=[("head",4)]) (by exact blkOk_by (N:=zW9) (sc:=defScope zNT) (by decide+kernel)) (fun _ _ _ _ _=>(zBI (i:=4) sc.nd rfl (by dsimp!))) (fun _ _ _ _ _=>zDl) (fun _ _ _ _ _=>(zAV c_good_head.ok (hr.mono (by decide)) c_good_head.mg c_good_head.fn.kp (zIP c_good_head.fn) zAy (zAa (e_v 4) zAf) zAY))) zAf))))
  (zAk (zAI zUk))
  zAP)
 (zAk (zAI (zAw (zFb rfl) zUQ B.n_all (by decide+kernel) (zAa (zJI rfl sc.nd (zF5 B.n_range (zAa (yAs (zAw zAF zD7 B.n_len (by decide+kernel) (zAa (e_v 2) zAf)) zAi) zAf)) (own:=[("at",5)]) (by exact blkOk_by (N:=zW9) (sc:=defScope zNT) (by decide+kernel)) (fun _ _ _ _ _=>(zBI (i:=5) sc.nd rfl (by dsimp!))) (fun _ _ _ _ _=>zDl) (fun _ _ _ _ _=>(zE7 (zWW hr) yBf (zBT (zAG (e_v 2) (e_v 5)) zC0 (zCZ zAi)) (zBT (zAG (e_v 2) (zCU (e_v 5) zAi)) zC0 (zCZ zAi)) (nomark _)))) zAf)))))))
theorem zIR{f:Addr}{fd:FuncData}(F:FD K "bar_fault" "bar_fault" zQD [] [] f fd):Bnd K fd ["bar"] 1 [] [.p 0] []:=
 by simp![F]
theorem zVy:FnScope zZ5 ["bar"] (defScope zQD):=by simp_all!
end
section
variable {f:Addr}{tb:Tb}{f_zh f_zz fI_BadBar:Addr}{fd_zh fd_zz fdI_BadBar:FuncData}(B:Bt K mg)(c_good_moment:Df P w K mg base 2 zNT "good_moment" ["moment"] [] [] zQl f_zh fd_zh)(T_BadBar:Er1 P w K mg base "BadBar" (PySem.Str.ofString "bad bar") "place" "place" tb.BadBar fI_BadBar fdI_BadBar)(c_bar_fault:Df P w K mg base 3 zQD "bar_fault" ["bar"] [] [] zQb f_zz fd_zz)
include B c_good_moment in
theorem zZC:PdC P w K mg base 2 zZ5 "bar_fault" zQD f (zYs):=by
 intro cdv A outer s H E hr
 have sc:=zVy
 exact(zAe (zCg (zAD (zHs hr) sEq (zAw zAF zD7 B.n_len (by decide+kernel) (zAa (e_v 0) zAf)) zAi (nomark _))
  (zAk (zAI zAi))
  zAP)
 (zAe (zJp PassesOwn.never rfl (zT3 B.n_enumerate (zBT (e_v 0) zC0 (zCZ (zD1 B.g_MOST_MOMENTS)))) (zDR rfl (zAq (zAx (i:=1) sc.nd rfl (by dsimp!)) (zAq (zAx (i:=2) sc.nd rfl (by dsimp!)) zCd)))
  (zAk (zCg (zDb (zGU (zAV c_good_moment.ok (hr.mono (by decide)) c_good_moment.mg c_good_moment.fn.kp (zGT c_good_moment.fn) zAy (zAa (e_v 2) zAf) zAY)))
  (zAk (zAI (e_v 1)))
  zAP)))
 (zAk (zAI (zNk (zAD op_gt sGt (zAw zAF zD7 B.n_len (by decide+kernel) (zAa (e_v 0) zAf)) (zD1 B.g_MOST_MOMENTS) (nomark _)) (zD1 B.g_MOST_MOMENTS) zA0)))))
theorem zD3{f:Addr}{fd:FuncData}(F:FD K "need_music" "need_music" zAZ [] [] f fd):Bnd K fd ["moments"] 1 [] [.p 0] []:=
 by simp![F]
theorem zEz:FnScope zDy ["moments"] (defScope zAZ):=by simp_all!
include B T_BadBar c_bar_fault in
theorem zWB:PdX P w K mg base 3 zDy "need_music" zAZ f (zPJ tb):=by
 intro cdv A outer s H E hr
 have sc:=zEz
 exact(zAe (zA2 (i:=1) sc.nd rfl (by dsimp!) (zAV c_bar_fault.ok (hr.mono (by decide)) c_bar_fault.mg c_bar_fault.fn.kp (zIR c_bar_fault.fn) zAy (zAa (e_v 0) zAf) zAY))
 (zAk (zCg (zAD op_notN zTd (e_v 1) zA0 (nomark _))
  (zAk (zQO rfl (takes_of rfl rfl rfl rfl) T_BadBar.oex T_BadBar.no T_BadBar.no2 T_BadBar.iC T_BadBar.tI T_BadBar.ok (hr.mono (by decide)) T_BadBar.bn T_BadBar.gC (e_v 1)))
  zAP)))
end
section
variable {f:Addr}
theorem zLc{f:Addr}{fd:FuncData}(F:FD K "put_bar" "put_bar" zCc [] [] f fd):Bnd K fd ["stand","deed"] 2 [] [.p 0,.p 1] []:=
 by simp![F,F]
theorem zHp:FnScope zGw ["stand","deed"] (defScope zCc):=by simp_all!
end
section
variable {f:Addr}{tb:Tb}{f_zt f_zab f_Stand_need_bar f_zf f_zac f_zg f_need_music fI_BadPlace fI_Full fI_BadSpan fI_BadStaff fI_BadThick fI_NoMoment:Addr}{fd_Stand_need_bar fd_need_music fdI_BadPlace fdI_Full fd_zf fd_zac fd_zg fdI_BadSpan fdI_BadStaff fdI_BadThick fdI_NoMoment:FuncData}(B:Bt K mg)(T_Stand:Ob_Stand K mg tb.Stand f_zt f_zab f_Stand_need_bar f_zf f_zac f_zg)(c_Stand_need_bar:DmX P w K mg base 4 zAE "need_bar" "Stand.need_bar" ["self","number"] [] [] (zEw tb) f_Stand_need_bar fd_Stand_need_bar)(T_Full:Er0 P w K mg base "Full" (PySem.Str.ofString "full") tb.Full fI_Full fdI_Full)(T_BadPlace:Er0 P w K mg base "BadPlace" (PySem.Str.ofString "bad place") tb.BadPlace fI_BadPlace fdI_BadPlace)(c_need_music:DfX P w K mg base 4 zAZ "need_music" ["moments"] [] [] (zI9 tb) f_need_music fd_need_music)(c_Stand_spot_v1:Dm P w K mg base 1 zQM "spot" "Stand.spot" ["self","end"] [] [] (zHU tb) f_zf fd_zf)(c_Stand_lies_v1:Dm P w K mg base 2 zH6 "lies" "Stand.lies" ["self","span"] [] [] (zLy tb) f_zac fd_zac)(c_Stand_sweep_v1:Dm P w K mg base 3 zPj "sweep" "Stand.sweep" ["self"] [] [] (zMF tb) f_zg fd_zg)(T_NoMoment:ErL P w K mg base "NoMoment" (PySem.Str.ofString "no moment") tb.NoMoment fI_NoMoment fdI_NoMoment)(T_BadThick:Er0 P w K mg base "BadThick" (PySem.Str.ofString "bad thick") tb.BadThick fI_BadThick fdI_BadThick)(T_BadStaff:Er0 P w K mg base "BadStaff" (PySem.Str.ofString "bad staff") tb.BadStaff fI_BadStaff fdI_BadStaff)(T_BadSpan:Er0 P w K mg base "BadSpan" (PySem.Str.ofString "bad span") tb.BadSpan fI_BadSpan fdI_BadSpan)
include B T_Stand T_Full T_BadPlace c_need_music in
theorem zWL:PdX P w K mg base 4 zGw "put_bar" zCc f (zPT tb):=by
 intro cdv A outer s H E hr
 have sc:=zHp
 exact(zAe (zDr (e_v 1) (zDR rfl (zAq (zAx (i:=2) sc.nd rfl (by dsimp!)) (zAq (zAx (i:=3) sc.nd rfl (by dsimp!)) (zAq (zAx (i:=4) sc.nd rfl (by dsimp!)) zCd)))))
 (zAe (zCg (zDb (zCh op_le sLe op_le sLe zAi (e_v 3) (zAw zAF zD7 B.n_len (by decide+kernel) (zAa (zAA T_Stand.cl T_Stand.n_order (e_v 0)) zAf))))
  (zAk (zBz rfl (takes_of rfl rfl rfl rfl) T_BadPlace.oex T_BadPlace.no T_BadPlace.iC T_BadPlace.tI T_BadPlace.ok (hr.mono (by decide)) T_BadPlace.bn T_BadPlace.gC))
  zAP)
 (zAe (zBS (zDB c_need_music.ok (hr.mono (by decide)) (takes_of rfl rfl rfl rfl) c_need_music.mg c_need_music.fn.kp (zD3 c_need_music.fn) zAy (zAa (e_v 4) zAf) zAY))
 (zAe (zCg (zAD op_ge sGe (zAw zAF zD7 B.n_len (by decide+kernel) (zAa (zAA T_Stand.cl T_Stand.n_order (e_v 0)) zAf)) (zD1 B.g_MOST_BARS) (nomark _))
  (zAk (zBz rfl (takes_of rfl rfl rfl rfl) T_Full.oex T_Full.no T_Full.iC T_Full.tI T_Full.ok (hr.mono (by decide)) T_Full.bn T_Full.gC))
  zAP)
 (zAe (zA2 (i:=5) sc.nd rfl (by dsimp!) (zAG (zAA T_Stand.cl T_Stand.n_fresh (e_v 0)) zAi))
 (zAe (zCB (zUW PySem.F.slot_list_insert PySem.F.type_list_insert mt_insert zNZ (zAA T_Stand.cl T_Stand.n_order (e_v 0)) (zAa (e_v 3) (zAa (e_v 5) zAf))))
 (zAe (zLH hr (zAA T_Stand.cl T_Stand.n_music (e_v 0)) (e_v 5) (e_v 4))
 (zAe (zCi T_Stand.cl T_Stand.n_fresh (e_v 0) (zCV (zCt (zAa (zCU (e_v 5) zAi) (zAa (zAG (zAA T_Stand.cl T_Stand.n_fresh (e_v 0)) zAi) zAf)))))
 (zAk (zAI (e_v 5)))))))))))
theorem zBu{f:Addr}{fd:FuncData}(F:FD K "spot" "Stand.spot" zQM [] [] f fd):Bnd K fd ["self","end"] 2 [] [.p 0,.p 1] []:=
 by simp![F,F]
theorem zVS:FnScope yAi ["self","end"] (defScope zQM):=by simp_all!
include B T_Stand in
theorem zZW:PdC P w K mg base 0 yAi "Stand.spot" zQM f (zYL tb):=by
 intro cdv A outer s H E hr
 have sc:=zVS
 exact(zAk (zAI (zCt (zAa (zUW PySem.F.slot_list_index PySem.F.type_list_index DL.mt_index DL.sIndex (zAA T_Stand.cl T_Stand.n_order (e_v 0)) (zAa (zAG (e_v 1) zAi) zAf)) (zAa (zAG (e_v 1) zAi) zAf)))))
theorem zFe{f:Addr}{fd:FuncData}(F:FD K "lies" "Stand.lies" zH6 [] [] f fd):Bnd K fd ["self","span"] 2 [] [.p 0,.p 1] []:=
 by simp![F,F]
theorem zRU:FnScope zTG ["self","span"] (defScope zH6):=by simp_all!
include B T_Stand c_Stand_spot_v1 in
theorem zWQ:PdC P w K mg base 1 zTG "Stand.lies" zH6 f (zPY tb):=by
 intro cdv A outer s H E hr
 have sc:=zRU
 exact(zAe (zDr (e_v 1) (zDR rfl (zAq (zAx (i:=2) sc.nd rfl (by dsimp!)) (zAq (zAx (i:=3) sc.nd rfl (by dsimp!)) (zAq (zAx (i:=4) sc.nd rfl (by dsimp!)) (zAq (zAx (i:=5) sc.nd rfl (by dsimp!)) zCd))))))
 (zAe (zJp PassesOwn.never rfl (zEi (zCt (zAa (e_v 3) (zAa (e_v 4) zAf)))) (zDR rfl (zAq (zAx (i:=6) sc.nd rfl (by dsimp!)) (zAq (zAx (i:=7) sc.nd rfl (by dsimp!)) zCd)))
  (zAk (zCg (jr (zI1 (zYQ (zIJ hr (e_v 6) (zAA T_Stand.cl T_Stand.n_music (e_v 0)))) (zEt (zDb (zCh op_le sLe op_lt sLt zAi (e_v 7) (zAw zAF zD7 B.n_len (by decide+kernel) (zAa (zJJ hr (zAA T_Stand.cl T_Stand.n_music (e_v 0)) (e_v 6)) zAf)))))))
  (zAk (zAI zUk))
  zAP)))
 (zAk (zAI (zE7 (zZ1 hr) yBA (zD0 (e_v 0) T_Stand.cl T_Stand.m_spot c_Stand_spot_v1.ok (hr.mono (by omega)) (zBu c_Stand_spot_v1.fn) zAy (zAa (e_v 3) zAf)) (zD0 (e_v 0) T_Stand.cl T_Stand.m_spot c_Stand_spot_v1.ok (hr.mono (by omega)) (zBu c_Stand_spot_v1.fn) zAy (zAa (e_v 4) zAf)) (nomark _))))))
theorem zBW{f:Addr}{fd:FuncData}(F:FD K "sweep" "Stand.sweep" zPj [] [] f fd):Bnd K fd ["self"] 1 [] [.p 0] []:=
 by simp![F]
theorem zVR:FnScope zY1 ["self"] (defScope zPj):=by simp_all!
include B T_Stand c_Stand_lies_v1 in
theorem zZV:PdC P w K mg base 2 zY1 "Stand.sweep" zPj f (zYK tb):=by
 intro cdv A outer s H E hr
 have sc:=zVR
 exact(zAk (zCi T_Stand.cl T_Stand.n_spans (e_v 0) (zCV (zUg (yAw rfl sc.nd (zT2 (zAA T_Stand.cl T_Stand.n_spans (e_v 0))) (own:=[("number",1),("span",2)]) (by exact blkOk_by (N:=zY1) (sc:=defScope zPj) (by decide+kernel)) (fun _ _ _ _ _=>(zSh rfl (zF6 (zBI (i:=1) sc.nd rfl (by dsimp!)) (zF6 (zBI (i:=2) sc.nd rfl (by dsimp!)) zOz)))) (fun _ _ _ _ _=>(zU6 (zGU (zD0 (e_v 0) T_Stand.cl T_Stand.m_lies c_Stand_lies_v1.ok (hr.mono (by omega)) (zFe c_Stand_lies_v1.fn) zAy (zAa (e_v 2) zAf))))) (fun _ _ _ _ _=>(e_v 1)) (fun _ _ _ _ _=>(e_v 2)))))))
theorem zG9{f:Addr}{fd:FuncData}(F:FD K "put_change" "put_change" zA4 [] [] f fd):Bnd K fd ["stand","deed"] 2 [] [.p 0,.p 1] []:=
 by simp![F,F]
theorem zEy:FnScope zDx ["stand","deed"] (defScope zA4):=by simp_all!
include B T_Stand c_Stand_need_bar c_need_music c_Stand_sweep_v1 in
theorem zWK:PdX P w K mg base 4 zDx "put_change" zA4 f (zPS tb):=by
 intro cdv A outer s H E hr
 have sc:=zEy
 exact(zAe (zDr (e_v 1) (zDR rfl (zAq (zAx (i:=2) sc.nd rfl (by dsimp!)) (zAq (zAx (i:=3) sc.nd rfl (by dsimp!)) (zAq (zAx (i:=4) sc.nd rfl (by dsimp!)) zCd)))))
 (zAe (zBS (zDk (zCV (e_v 0)) T_Stand.cl T_Stand.m_need_bar c_Stand_need_bar.ok (hr.mono (by omega)) (takes_of rfl rfl rfl rfl) (zAO c_Stand_need_bar.fn) zAy (zAa (e_v 3) zAf)))
 (zAe (zBS (zDB c_need_music.ok (hr.mono (by decide)) (takes_of rfl rfl rfl rfl) c_need_music.mg c_need_music.fn.kp (zD3 c_need_music.fn) zAy (zAa (e_v 4) zAf) zAY))
 (zAe (zLH hr (zAA T_Stand.cl T_Stand.n_music (e_v 0)) (e_v 3) (e_v 4))
 (zAk (zCB (zDh (e_v 0) T_Stand.cl T_Stand.m_sweep c_Stand_sweep_v1.ok (hr.mono (by omega)) (zBW c_Stand_sweep_v1.fn) zAy)))))))
theorem zLb{f:Addr}{fd:FuncData}(F:FD K "put_cut" "put_cut" zCb [] [] f fd):Bnd K fd ["stand","deed"] 2 [] [.p 0,.p 1] []:=
 by simp![F,F]
theorem zHo:FnScope zGv ["stand","deed"] (defScope zCb):=by simp_all!
include B T_Stand c_Stand_need_bar c_Stand_sweep_v1 in
theorem zWJ:PdX P w K mg base 4 zGv "put_cut" zCb f (zPR tb):=by
 intro cdv A outer s H E hr
 have sc:=zHo
 exact(zAe (zA2 (i:=2) sc.nd rfl (by dsimp!) (zAG (e_v 1) zAi))
 (zAe (zBS (zDk (zCV (e_v 0)) T_Stand.cl T_Stand.m_need_bar c_Stand_need_bar.ok (hr.mono (by omega)) (takes_of rfl rfl rfl rfl) (zAO c_Stand_need_bar.fn) zAy (zAa (e_v 2) zAf)))
 (zAe (zCB (zUW kn PySem.F.type_list_remove (zLT hr) zNX (zAA T_Stand.cl T_Stand.n_order (e_v 0)) (zAa (e_v 2) zAf)))
 (zAe (zCB (zK1 (zAA T_Stand.cl T_Stand.n_music (e_v 0)) (e_v 2)))
 (zAe (zCB (zUh (zAA T_Stand.cl T_Stand.n_bound (e_v 0)) (e_v 2) zA0))
 (zAk (zCB (zDh (e_v 0) T_Stand.cl T_Stand.m_sweep c_Stand_sweep_v1.ok (hr.mono (by omega)) (zBW c_Stand_sweep_v1.fn) zAy))))))))
theorem zJ8{f:Addr}{fd:FuncData}(F:FD K "put_move" "put_move" zBM [] [] f fd):Bnd K fd ["stand","deed"] 2 [] [.p 0,.p 1] []:=
 by simp![F,F]
theorem zGp:FnScope zE4 ["stand","deed"] (defScope zBM):=by simp_all!
include B T_Stand c_Stand_need_bar T_BadPlace c_Stand_sweep_v1 in
theorem zWI:PdX P w K mg base 4 zE4 "put_move" zBM f (zPQ tb):=by
 intro cdv A outer s H E hr
 have sc:=zGp
 exact(zAe (zDr (e_v 1) (zDR rfl (zAq (zAx (i:=2) sc.nd rfl (by dsimp!)) (zAq (zAx (i:=3) sc.nd rfl (by dsimp!)) (zAq (zAx (i:=4) sc.nd rfl (by dsimp!)) zCd)))))
 (zAe (zBS (zDk (zCV (e_v 0)) T_Stand.cl T_Stand.m_need_bar c_Stand_need_bar.ok (hr.mono (by omega)) (takes_of rfl rfl rfl rfl) (zAO c_Stand_need_bar.fn) zAy (zAa (e_v 3) zAf)))
 (zAe (zCg (zDb (zCh op_le sLe op_lt sLt zAi (e_v 4) (zAw zAF zD7 B.n_len (by decide+kernel) (zAa (zAA T_Stand.cl T_Stand.n_order (e_v 0)) zAf))))
  (zAk (zBz rfl (takes_of rfl rfl rfl rfl) T_BadPlace.oex T_BadPlace.no T_BadPlace.iC T_BadPlace.tI T_BadPlace.ok (hr.mono (by decide)) T_BadPlace.bn T_BadPlace.gC))
  zAP)
 (zAe (zCB (zUW kn PySem.F.type_list_remove (zLT hr) zNX (zAA T_Stand.cl T_Stand.n_order (e_v 0)) (zAa (e_v 3) zAf)))
 (zAe (zCB (zUW PySem.F.slot_list_insert PySem.F.type_list_insert mt_insert zNZ (zAA T_Stand.cl T_Stand.n_order (e_v 0)) (zAa (e_v 4) (zAa (e_v 3) zAf))))
 (zAk (zCB (zDh (e_v 0) T_Stand.cl T_Stand.m_sweep c_Stand_sweep_v1.ok (hr.mono (by omega)) (zBW c_Stand_sweep_v1.fn) zAy))))))))
theorem zJ9{f:Addr}{fd:FuncData}(F:FD K "put_mark" "put_mark" zBN [] [] f fd):Bnd K fd ["stand","deed"] 2 [] [.p 0,.p 1] []:=
 by simp![F,F]
theorem zGq:FnScope zE5 ["stand","deed"] (defScope zBN):=by simp_all!
include B T_Stand c_Stand_need_bar T_Full c_Stand_spot_v1 T_NoMoment T_BadThick T_BadStaff T_BadSpan in
theorem zWE:PdX P w K mg base 4 zE5 "put_mark" zBN f (zPM tb):=by
 intro cdv A outer s H E hr
 have sc:=zGq
 exact(zAe (zDr (e_v 1) (zDR rfl (zAq (zAx (i:=2) sc.nd rfl (by dsimp!)) (zAq (zAx (i:=3) sc.nd rfl (by dsimp!)) (zAq (zAx (i:=4) sc.nd rfl (by dsimp!)) (zAq (zAx (i:=5) sc.nd rfl (by dsimp!)) (zAq (zAx (i:=6) sc.nd rfl (by dsimp!)) zCd)))))))
 (zAe (zCg (zDb (zCh op_le sLe op_le sLe zAi (e_v 3) (zD1 B.g_LAST_STAFF)))
  (zAk (zBz rfl (takes_of rfl rfl rfl rfl) T_BadStaff.oex T_BadStaff.no T_BadStaff.iC T_BadStaff.tI T_BadStaff.ok (hr.mono (by decide)) T_BadStaff.bn T_BadStaff.gC))
  zAP)
 (zAe (zJp (passes_of rfl) rfl (zEi (zCt (zAa (e_v 4) (zAa (e_v 5) zAf)))) (zDR rfl (zAq (zAx (i:=7) sc.nd rfl (by dsimp!)) (zAq (zAx (i:=8) sc.nd rfl (by dsimp!)) zCd)))
  (zAk (zBS (zDk (zCV (e_v 0)) T_Stand.cl T_Stand.m_need_bar c_Stand_need_bar.ok (hr.mono (by omega)) (takes_of rfl rfl rfl rfl) (zAO c_Stand_need_bar.fn) zAy (zAa (e_v 7) zAf)))))
 (zAe (zJp (passes_of rfl) rfl (zEi (zCt (zAa (e_v 4) (zAa (e_v 5) zAf)))) (zDR rfl (zAq (zAx (i:=7) sc.nd rfl (by dsimp!)) (zAq (zAx (i:=8) sc.nd rfl (by dsimp!)) zCd)))
  (zAk (zCg (zDb (zCh op_le sLe op_lt sLt zAi (e_v 8) (zAw zAF zD7 B.n_len (by decide+kernel) (zAa (zJJ hr (zAA T_Stand.cl T_Stand.n_music (e_v 0)) (e_v 7)) zAf))))
  (zAk (zF0 rfl (takes_of rfl rfl rfl rfl) T_NoMoment.oel T_NoMoment.no2 T_NoMoment.no T_NoMoment.iC T_NoMoment.tI T_NoMoment.ok (hr.mono (by decide)) T_NoMoment.bn T_NoMoment.gC (e_v 8)))
  zAP)))
 (zAe (zCg (zAD (zWW hr) yBf (zD0 (e_v 0) T_Stand.cl T_Stand.m_spot c_Stand_spot_v1.ok (hr.mono (by omega)) (zBu c_Stand_spot_v1.fn) zAy (zAa (e_v 5) zAf)) (zD0 (e_v 0) T_Stand.cl T_Stand.m_spot c_Stand_spot_v1.ok (hr.mono (by omega)) (zBu c_Stand_spot_v1.fn) zAy (zAa (e_v 4) zAf)) (nomark _))
  (zAk (zBz rfl (takes_of rfl rfl rfl rfl) T_BadSpan.oex T_BadSpan.no T_BadSpan.iC T_BadSpan.tI T_BadSpan.ok (hr.mono (by decide)) T_BadSpan.bn T_BadSpan.gC))
  zAP)
 (zAe (zCg (zDb (zCh op_le sLe op_le sLe zAi (e_v 6) (zD1 B.g_MOST_THICK)))
  (zAk (zBz rfl (takes_of rfl rfl rfl rfl) T_BadThick.oex T_BadThick.no T_BadThick.iC T_BadThick.tI T_BadThick.ok (hr.mono (by decide)) T_BadThick.bn T_BadThick.gC))
  zAP)
 (zAe (zCg (zAD op_ge sGe (zAw zAF zD7 B.n_len (by decide+kernel) (zAa (zAA T_Stand.cl T_Stand.n_spans (e_v 0)) zAf)) (zD1 B.g_MOST_MARKS) (nomark _))
  (zAk (zBz rfl (takes_of rfl rfl rfl rfl) T_Full.oex T_Full.no T_Full.iC T_Full.tI T_Full.ok (hr.mono (by decide)) T_Full.bn T_Full.gC))
  zAP)
 (zAe (zA2 (i:=7) sc.nd rfl (by dsimp!) (zAG (zAA T_Stand.cl T_Stand.n_fresh (e_v 0)) zAi))
 (zAe (zLH hr (zAA T_Stand.cl T_Stand.n_spans (e_v 0)) (e_v 7) (zBT (e_v 1) (zCZ zAi) zC0))
 (zAe (zCi T_Stand.cl T_Stand.n_fresh (e_v 0) (zCV (zCt (zAa (zAG (zAA T_Stand.cl T_Stand.n_fresh (e_v 0)) zAi) (zAa (zCU (e_v 7) zAi) zAf)))))
 (zAk (zAI (e_v 7)))))))))))))
end
section
variable {f:Addr}
theorem zJ7{f:Addr}{fd:FuncData}(F:FD K "put_wipe" "put_wipe" zBL [] [] f fd):Bnd K fd ["stand","deed"] 2 [] [.p 0,.p 1] []:=
 by simp![F,F]
theorem zGo:FnScope zE3 ["stand","deed"] (defScope zBL):=by simp_all!
end
section
variable {f:Addr}{tb:Tb}{f_zt f_zab f_Stand_need_bar f_zf f_zac f_zg f_paper fI_NoMark fI_BadWord fI_Same:Addr}{fd_paper fdI_NoMark fd_Stand_need_bar fdI_BadWord fdI_Same:FuncData}(B:Bt K mg)(T_Stand:Ob_Stand K mg tb.Stand f_zt f_zab f_Stand_need_bar f_zf f_zac f_zg)(c_paper:DfXA P w K mg base 4 zCP "paper_pager" "paper" ["width","lines","fee","turn","gap"] [] [("width",.int 120),("lines",.int 4),("fee",.int 10),("turn",.int 50),("gap",.int 5)] (zI8 tb) f_paper fd_paper)(T_NoMark:ErL P w K mg base "NoMark" (PySem.Str.ofString "no mark") tb.NoMark fI_NoMark fdI_NoMark)(c_Stand_need_bar:DmX P w K mg base 4 zAE "need_bar" "Stand.need_bar" ["self","number"] [] [] (zEw tb) f_Stand_need_bar fd_Stand_need_bar)(T_Same:Er0 P w K mg base "Same" (PySem.Str.ofString "same") tb.Same fI_Same fdI_Same)(T_BadWord:Er0 P w K mg base "BadWord" (PySem.Str.ofString "bad word") tb.BadWord fI_BadWord fdI_BadWord)
include B T_Stand T_NoMark in
theorem zWH:PdX P w K mg base 3 zE3 "put_wipe" zBL f (zPP tb):=by
 intro cdv A outer s H E hr
 have sc:=zGo
 exact(zAe (zA2 (i:=2) sc.nd rfl (by dsimp!) (zAG (e_v 1) zAi))
 (zAe (zCg (zYQ (zIJ hr (e_v 2) (zAA T_Stand.cl T_Stand.n_spans (e_v 0))))
  (zAk (zF0 rfl (takes_of rfl rfl rfl rfl) T_NoMark.oel T_NoMark.no2 T_NoMark.no T_NoMark.iC T_NoMark.tI T_NoMark.ok (hr.mono (by decide)) T_NoMark.bn T_NoMark.gC (e_v 2)))
  zAP)
 (zAk (zCB (zK1 (zAA T_Stand.cl T_Stand.n_spans (e_v 0)) (e_v 2))))))
theorem zLa{f:Addr}{fd:FuncData}(F:FD K "put_end" "put_end" zCa [] [] f fd):Bnd K fd ["stand","deed"] 2 [] [.p 0,.p 1] []:=
 by simp![F,F]
theorem zHn:FnScope zGu ["stand","deed"] (defScope zCa):=by simp_all!
include B T_Stand c_Stand_need_bar T_Same T_BadWord in
theorem zWF:PdX P w K mg base 4 zGu "put_end" zCa f (zPN tb):=by
 intro cdv A outer s H E hr
 have sc:=zHn
 exact(zAe (zDr (e_v 1) (zDR rfl (zAq (zAx (i:=2) sc.nd rfl (by dsimp!)) (zAq (zAx (i:=3) sc.nd rfl (by dsimp!)) (zAq (zAx (i:=4) sc.nd rfl (by dsimp!)) zCd)))))
 (zAe (zBS (zDk (zCV (e_v 0)) T_Stand.cl T_Stand.m_need_bar c_Stand_need_bar.ok (hr.mono (by omega)) (takes_of rfl rfl rfl rfl) (zAO c_Stand_need_bar.fn) zAy (zAa (e_v 3) zAf)))
 (zAe (zCg (jr (zKr (zAD (zPn hr) sNe (e_v 4) (zD1 B.g_FREE) (nomark _)) (zGb (zAD op_notIn_seq zNY (e_v 4) (zD1 B.g_BOUND) (by rfl)))))
  (zAk (zBz rfl (takes_of rfl rfl rfl rfl) T_BadWord.oex T_BadWord.no T_BadWord.iC T_BadWord.tI T_BadWord.ok (hr.mono (by decide)) T_BadWord.bn T_BadWord.gC))
  zAP)
 (zAe (zCg (zAD (zHs hr) sEq (zON hr (zAA T_Stand.cl T_Stand.n_bound (e_v 0)) (e_v 3) (zD1 B.g_FREE)) (e_v 4) (nomark _))
  (zAk (zBz rfl (takes_of rfl rfl rfl rfl) T_Same.oex T_Same.no T_Same.iC T_Same.tI T_Same.ok (hr.mono (by decide)) T_Same.bn T_Same.gC))
  zAP)
 (zAe (zLH hr (zAA T_Stand.cl T_Stand.n_bound (e_v 0)) (e_v 3) (e_v 4))
 (zAk (zCg (zAD (zHs hr) sEq (e_v 4) (zD1 B.g_FREE) (nomark _))
  (zAk (zCB (zK1 (zAA T_Stand.cl T_Stand.n_bound (e_v 0)) (e_v 3))))
  zAP)))))))
theorem zIM{f:Addr}{fd:FuncData}(F:FD K "put_paper" "put_paper" zBg [] [] f fd):Bnd K fd ["stand","deed"] 2 [] [.p 0,.p 1] []:=
 by simp![F,F]
theorem zFk:FnScope zEb ["stand","deed"] (defScope zBg):=by simp_all!
include B T_Stand c_paper in
theorem zWG:PdX P w K mg base 4 zEb "put_paper" zBg f (zPO tb):=by
 intro cdv A outer s H E hr
 have sc:=zFk
 exact(zAe (zDr (e_v 1) (zDR rfl (zAq (zAx (i:=2) sc.nd rfl (by dsimp!)) (zAq (zAx (i:=3) sc.nd rfl (by dsimp!)) (zAq (zAx (i:=4) sc.nd rfl (by dsimp!)) (zAq (zAx (i:=5) sc.nd rfl (by dsimp!)) (zAq (zAx (i:=6) sc.nd rfl (by dsimp!)) (zAq (zAx (i:=7) sc.nd rfl (by dsimp!)) zCd))))))))
 (zAk (zCi T_Stand.cl T_Stand.n_sheet (e_v 0) (zMh c_paper.ok (hr.mono (by decide)) (takes_of rfl rfl rfl rfl) c_paper.mg c_paper.fn.kp (zKa c_paper.fn) zAy (zDn (e_v 3) (zDn (e_v 4) (zDn (e_v 5) (zDn (e_v 6) (zDn (e_v 7) zAY)))))))))
end
section
variable {f:Addr}
theorem zRJ{f:Addr}{fd:FuncData}(F:FD K "done" "done" zEC [] [] f fd):Bnd K fd ["stand","deed"] 2 [] [.p 0,.p 1] []:=
 by simp![F,F]
theorem zNQ:FnScope zOg ["stand","deed"] (defScope zEC):=by simp_all!
end
section
variable {f:Addr}{tb:Tb}{f_zt f_zab f_Stand_need_bar f_zf f_zac f_zg f_Shop_init f_Shop_do_v1 f_Shop_undo_v2 f_Shop_redo_v2 f_zn f_zad f_Shop_word f_Shop_mark_v1 f_zm f_need_deed f_done:Addr}{fd_need_deed fd_zab fd_done:FuncData}(B:Bt K mg)(T_Stand:Ob_Stand K mg tb.Stand f_zt f_zab f_Stand_need_bar f_zf f_zac f_zg)(T_Shop:Ob_Shop K mg tb.Shop f_Shop_init f_Shop_do_v1 f_Shop_undo_v2 f_Shop_redo_v2 f_zn f_zad f_Shop_word f_Shop_mark_v1 f_zm)(F_puts:∀q∈[(tb.put_bar,zGl tb),(tb.put_change,zGk tb),(tb.put_cut,zGj tb),(tb.put_move,zGi tb),(tb.put_mark,zGe tb),(tb.put_wipe,zGh tb),(tb.put_end,zGf tb),(tb.put_paper,zGg tb)],CalX P w K mg base 5 q.1 2 [.p 0,.p 1] (zCx K q.2))(K_DEEDS:KTg K w mg "DEEDS" tb.DEEDS (zJK tb))(c_need_deed:DfX P w K mg base 5 zA8 "need_deed" ["deed"] [] [] (zI6 tb) f_need_deed fd_need_deed)(c_Stand_like_v1:Dm P w K mg base 3 zH7 "like" "Stand.like" ["self"] [] [] (zLz tb) f_zab fd_zab)(c_done:DfX P w K mg base 6 zEC "done" ["stand","deed"] [] [] (zLw tb) f_done fd_done)
include B F_puts K_DEEDS c_need_deed in
theorem zWv:PdX P w K mg base 5 zOg "done" zEC f (zPD tb):=by
 intro cdv A outer s H E hr
 have sc:=zNQ
 exact(zAe (zBS (zDB c_need_deed.ok (hr.mono (by decide)) (takes_of rfl rfl rfl rfl) c_need_deed.mg c_need_deed.fn.kp (zEU c_need_deed.fn) zAy (zAa (e_v 1) zAf) zAY))
 (zAe (zA2 (i:=2) sc.nd rfl (by dsimp!) (yAt K_DEEDS.tb (zD1 K_DEEDS.gc) (zAG (e_v 1) zAi)))
 (zAk (zNV (zUi (i:=2) (srcs:=[.p 0,.p 1]) F_puts hr (takes_of rfl rfl rfl rfl) rfl (by dsimp!) (zAa (e_v 0) (zAa (e_v 1) zAf)))))))
theorem zHc{f:Addr}{fd:FuncData}(F:FD K "do" "Shop.do" zAR [] [] f fd):Bnd K fd ["self","deed"] 2 [] [.p 0,.p 1] []:=
 by simp![F,F]
theorem zEA:FnScope zCE ["self","deed"] (defScope zAR):=by simp_all!
include B T_Stand T_Shop c_need_deed c_Stand_like_v1 c_done in
theorem zWt:PdX P w K mg base 6 zCE "Shop.do" zAR f (zPB tb):=by
 intro cdv A outer s H E hr
 have sc:=zEA
 exact(zAe (zBS (zDB c_need_deed.ok (hr.mono (by decide)) (takes_of rfl rfl rfl rfl) c_need_deed.mg c_need_deed.fn.kp (zEU c_need_deed.fn) zAy (zAa (e_v 1) zAf) zAY))
 (zAe (zA2 (i:=2) sc.nd rfl (by dsimp!) (zAA T_Shop.cl T_Shop.n_now (e_v 0)))
 (zAe (zA2 (i:=3) sc.nd rfl (by dsimp!) zA0)
 (zAe (zCi T_Shop.cl T_Shop.n_now (e_v 0) (zCV (zDh (e_v 2) T_Stand.cl T_Stand.m_like c_Stand_like_v1.ok (hr.mono (by omega)) (zFd c_Stand_like_v1.fn) zAy)))
 (zAe (zNU rfl rfl rfl (takes_of rfl rfl rfl rfl)
 (fun W pn xe tk pp=>by
  have hrr:Room 6 (((cxOf (L2.CX P w) P w K mg base zCE "Shop.do" (defScope zAR) f cdv A outer s H E).tr pn xe).A):=hr
  exact(zAe (zHq (i:=4) sc.nd rfl (by dsimp!) (zDB c_done.ok (hrr.mono (by decide)) tk c_done.mg c_done.fn.kp (zRJ c_done.fn) zAy (zAa (zAA T_Shop.cl T_Shop.n_now (e_v 0)) (zAa (e_v 1) zAf)) zAY))
 (zAk (zA2 (i:=3) sc.nd rfl (by dsimp!) (zAA T_Shop.cl T_Shop.n_now (e_v 0))))))
 (zAk (zCg (zAD op_isN zIX (e_v 3) zA0 (nomark _))
  (zAk (zCi T_Shop.cl T_Shop.n_now (e_v 0) (zCV (e_v 2))))
  zAP))
 (fun a pn=>(zAk (zCg (zAD op_isN zIX (e_v 3) zA0 (nomark _))
  (zAk (zCi T_Shop.cl T_Shop.n_now (e_v 0) (zCV (e_v 2))))
  zAP))))
 (zAe (zCB (zIz (zAA T_Shop.cl T_Shop.n_past (e_v 0)) (zAa (zCt (zAa (e_v 1) (zAa (e_v 2) zAf))) zAf)))
 (zAe (zCi T_Shop.cl T_Shop.n_gone (e_v 0) (zCV (zOL zAf)))
 (zAk (zAI (e_v 4))))))))))
theorem zNe{f:Addr}{fd:FuncData}(F:FD K "listed" "listed" zPg [] [] f fd):Bnd K fd ["row"] 1 [] [.p 0] []:=
 by simp![F]
theorem zVH:FnScope zYY ["row"] (defScope zPg):=by simp_all!
include B in
theorem zZL:PdC P w K mg base 0 zYY "listed" zPg f (zYB):=by
 intro cdv A outer s H E hr
 have sc:=zVH
 exact(zAk (zAI (zNk (zAD op_gt sGt (zAw zAF zD7 B.n_len (by decide+kernel) (zAa (e_v 0) zAf)) zAi (nomark _)) (zXD zAl (zJI rfl sc.nd (zEi (e_v 0)) (own:=[("one",1)]) (by exact blkOk_by (N:=zYY) (sc:=defScope zPg) (by decide+kernel)) (fun _ _ _ _ _=>(zBI (i:=1) sc.nd rfl (by dsimp!))) (fun _ _ _ _ _=>zDl) (fun _ _ _ _ _=>(zBB zO6 yBd B.n_str (by decide+kernel) (zAa (e_v 1) zAf)))) zP5) zAl)))
theorem zIT{f:Addr}{fd:FuncData}(F:FD K "bars" "Shop.bars" zH5 [] [] f fd):Bnd K fd ["self"] 1 [] [.p 0] []:=
 by simp![F]
theorem zRT:FnScope zTF ["self"] (defScope zH5):=by simp_all!
include B T_Stand T_Shop in
theorem zWP:PdC P w K mg base 0 zTF "Shop.bars" zH5 f (zPX tb):=by
 intro cdv A outer s H E hr
 have sc:=zRT
 exact(zAk (zAI (zBB call_list_of zV2 B.n_list (by decide+kernel) (zAa (zAA T_Stand.cl T_Stand.n_order (zAA T_Shop.cl T_Shop.n_now (e_v 0))) zAf))))
end
section
variable {f:Addr}
theorem zIQ{f:Addr}{fd:FuncData}(F:FD K "bars_told" "bars_told" zRX [] [] f fd):Bnd K fd ["shop"] 1 [] [.p 0] []:=
 by simp![F]
theorem zVJ:FnScope yAd ["shop"] (defScope zRX):=by simp_all!
end
section
variable {f:Addr}{tb:Tb}{f_Shop_init f_Shop_do_v1 f_Shop_undo_v2 f_Shop_redo_v2 f_zn f_zad f_Shop_word f_Shop_mark_v1 f_zm f_zq fI_Nothing:Addr}{fd_zq fd_zad fdI_Nothing fd_Shop_undo_v2 fd_Shop_redo_v2:FuncData}(B:Bt K mg)(T_Shop:Ob_Shop K mg tb.Shop f_Shop_init f_Shop_do_v1 f_Shop_undo_v2 f_Shop_redo_v2 f_zn f_zad f_Shop_word f_Shop_mark_v1 f_zm)(c_listed:Df P w K mg base 1 zPg "listed" ["row"] [] [] zQj f_zq fd_zq)(c_Shop_bars:Dm P w K mg base 1 zH5 "bars" "Shop.bars" ["self"] [] [] (zLx tb) f_zad fd_zad)(T_Nothing:Er0 P w K mg base "Nothing" (PySem.Str.ofString "nothing") tb.Nothing fI_Nothing fdI_Nothing)(c_Shop_undo_v2:DmX P w K mg base 4 zAL "undo" "Shop.undo" ["self"] [] [] (zI5 tb) f_Shop_undo_v2 fd_Shop_undo_v2)(c_Shop_redo_v2:DmX P w K mg base 4 zAM "redo" "Shop.redo" ["self"] [] [] (zI4 tb) f_Shop_redo_v2 fd_Shop_redo_v2)
include B T_Shop c_listed c_Shop_bars in
theorem zZN:PdC P w K mg base 1 yAd "bars_told" zRX f (zYD tb):=by
 intro cdv A outer s H E hr
 have sc:=zVJ
 exact(zAk (zAI (zAV c_listed.ok (hr.mono (by decide)) c_listed.mg c_listed.fn.kp (zNe c_listed.fn) zAy (zAa (zDh (e_v 0) T_Shop.cl T_Shop.m_bars c_Shop_bars.ok (hr.mono (by omega)) (zIT c_Shop_bars.fn) zAy) zAf) zAY)))
theorem zFW{f:Addr}{fd:FuncData}(F:FD K "undo" "Shop.undo" zAL [] [] f fd):Bnd K fd ["self"] 1 [] [.p 0] []:=
 by simp![F]
theorem zDs:FnScope zCR ["self"] (defScope zAL):=by simp_all!
include B T_Shop T_Nothing in
theorem zWx:PdX P w K mg base 3 zCR "Shop.undo" zAL f (zPF tb):=by
 intro cdv A outer s H E hr
 have sc:=zDs
 exact(zAe (zCg (zAD (zOc hr) zR1 (zAA T_Shop.cl T_Shop.n_past (e_v 0)) (zBx zAf) (nomark _))
  (zAk (zBz rfl (takes_of rfl rfl rfl rfl) T_Nothing.oex T_Nothing.no T_Nothing.iC T_Nothing.tI T_Nothing.ok (hr.mono (by decide)) T_Nothing.bn T_Nothing.gC))
  zAP)
 (zAe (zDr (zXB PySem.F.slot_list_pop PySem.F.type_list_pop mt_pop yBe (zAA T_Shop.cl T_Shop.n_past (e_v 0))) (zDR rfl (zAq (zAx (i:=1) sc.nd rfl (by dsimp!)) (zAq (zAx (i:=2) sc.nd rfl (by dsimp!)) zCd))))
 (zAe (zCB (zIz (zAA T_Shop.cl T_Shop.n_gone (e_v 0)) (zAa (zCt (zAa (e_v 1) (zAa (zAA T_Shop.cl T_Shop.n_now (e_v 0)) zAf))) zAf)))
 (zAk (zCi T_Shop.cl T_Shop.n_now (e_v 0) (zCV (e_v 2)))))))
theorem zIK{f:Addr}{fd:FuncData}(F:FD K "undo_told" "undo_told" zBe [] [] f fd):Bnd K fd ["shop"] 1 [] [.p 0] []:=
 by simp![F]
theorem zFi:FnScope zD9 ["shop"] (defScope zBe):=by simp_all!
include B T_Shop c_Shop_undo_v2 in
theorem zWN:PdX P w K mg base 4 zD9 "undo_told" zBe f (zPV tb):=by
 intro cdv A outer s H E hr
 have sc:=zFi
 exact(zAe (zBS (zKq (zCV (e_v 0)) T_Shop.cl T_Shop.m_undo c_Shop_undo_v2.ok (hr.mono (by omega)) (takes_of rfl rfl rfl rfl) (zFW c_Shop_undo_v2.fn) zAy))
 (zAk (zAI zAl)))
theorem zFX{f:Addr}{fd:FuncData}(F:FD K "redo" "Shop.redo" zAM [] [] f fd):Bnd K fd ["self"] 1 [] [.p 0] []:=
 by simp![F]
theorem zDt:FnScope zCS ["self"] (defScope zAM):=by simp_all!
include B T_Shop T_Nothing in
theorem zWw:PdX P w K mg base 3 zCS "Shop.redo" zAM f (zPE tb):=by
 intro cdv A outer s H E hr
 have sc:=zDt
 exact(zAe (zCg (zAD (zOc hr) zR1 (zAA T_Shop.cl T_Shop.n_gone (e_v 0)) (zBx zAf) (nomark _))
  (zAk (zBz rfl (takes_of rfl rfl rfl rfl) T_Nothing.oex T_Nothing.no T_Nothing.iC T_Nothing.tI T_Nothing.ok (hr.mono (by decide)) T_Nothing.bn T_Nothing.gC))
  zAP)
 (zAe (zDr (zXB PySem.F.slot_list_pop PySem.F.type_list_pop mt_pop yBe (zAA T_Shop.cl T_Shop.n_gone (e_v 0))) (zDR rfl (zAq (zAx (i:=1) sc.nd rfl (by dsimp!)) (zAq (zAx (i:=2) sc.nd rfl (by dsimp!)) zCd))))
 (zAe (zCB (zIz (zAA T_Shop.cl T_Shop.n_past (e_v 0)) (zAa (zCt (zAa (e_v 1) (zAa (zAA T_Shop.cl T_Shop.n_now (e_v 0)) zAf))) zAf)))
 (zAk (zCi T_Shop.cl T_Shop.n_now (e_v 0) (zCV (e_v 2)))))))
theorem zIL{f:Addr}{fd:FuncData}(F:FD K "redo_told" "redo_told" zBf [] [] f fd):Bnd K fd ["shop"] 1 [] [.p 0] []:=
 by simp![F]
theorem zFj:FnScope zEa ["shop"] (defScope zBf):=by simp_all!
include B T_Shop c_Shop_redo_v2 in
theorem zWM:PdX P w K mg base 4 zEa "redo_told" zBf f (zPU tb):=by
 intro cdv A outer s H E hr
 have sc:=zFj
 exact(zAe (zBS (zKq (zCV (e_v 0)) T_Shop.cl T_Shop.m_redo c_Shop_redo_v2.ok (hr.mono (by omega)) (takes_of rfl rfl rfl rfl) (zFX c_Shop_redo_v2.fn) zAy))
 (zAk (zAI zAl)))
end
section
variable {f f_zc:Addr}{fd_zc:FuncData}(B:Bt K mg)(c_number_in:Df P w K mg base 1 zPl "number_in" ["word"] [] [] zKx f_zc fd_zc)
theorem zCp{f:Addr}{fd:FuncData}(F:FD K "number_in" "number_in" zPl [] [] f fd):Bnd K fd ["word"] 1 [] [.p 0] []:=
 by simp![F]
theorem zVV:FnScope zY4 ["word"] (defScope zPl):=by simp_all!
include B in
theorem zZZ:PdC P w K mg base 0 zY4 "number_in" zPl f (zYO):=by
 intro cdv A outer s H E hr
 have sc:=zVV
 exact(zAe (zA2 (i:=1) sc.nd rfl (by dsimp!) (zNk (zAD (zHs hr) sEq (zBT (e_v 0) zC0 (zCZ zAi)) zAl (nomark _)) (zBT (e_v 0) (zCZ zAi) zC0) (e_v 0)))
 (zAe (zCg (jr (zI1 (zDb (zCh op_le sLe op_le sLe zAi (zAw zAF zD7 B.n_len (by decide+kernel) (zAa (e_v 1) zAf)) (zD1 B.g_MOST_FIGURES))) (zEt (zDb (zGU (zAw (zFb rfl) zUQ B.n_all (by decide+kernel) (zAa (zJI rfl sc.nd (zEi (e_v 1)) (own:=[("sign",2)]) (by exact blkOk_by (N:=zY4) (sc:=defScope zPl) (by decide+kernel)) (fun _ _ _ _ _=>(zBI (i:=2) sc.nd rfl (by dsimp!))) (fun _ _ _ _ _=>zDl) (fun _ _ _ _ _=>(zE7 op_in_sign zV0 (e_v 2) (zD1 B.g_FIGURES) (by rfl)))) zAf)))))))
  (zAk (zAI zA0))
  zAP)
 (zAe (zCg (jr (zKr (zAD (zHs hr) sEq (zAG (e_v 1) zAi) zAl (nomark _)) (zGb (zAD (zPn hr) sNe (e_v 0) zAl (nomark _)))))
  (zAk (zAI zA0))
  zAP)
 (zAk (zAI (zBB call_int_str zZu B.n_int (by decide+kernel) (zAa (e_v 0) zAf)))))))
theorem zB9{f:Addr}{fd:FuncData}(F:FD K "numbers_in" "numbers_in" zPk [] [] f fd):Bnd K fd ["words"] 1 [] [.p 0] []:=
 by simp![F]
theorem zVU:FnScope zY3 ["words"] (defScope zPk):=by simp_all!
include B c_number_in in
theorem zZY:PdC P w K mg base 1 zY3 "numbers_in" zPk f (zYN):=by
 intro cdv A outer s H E hr
 have sc:=zVU
 exact(zAe (zH9 (i:=1) rfl sc.nd rfl rfl (sw_true rfl rfl rfl (by decide+kernel)) (zEi (e_v 0)) (own:=[("word",2)]) (by exact blkOk_by (N:=zY3) (sc:=defScope zPk) (by decide+kernel)) (fun _ _ _ _ _=>(zBI (i:=2) sc.nd rfl (by dsimp!))) (fun _ _ _ _ _=>zDl) (fun _ _ _ _ _=>(zAV c_number_in.ok (hr.mono (by decide)) c_number_in.mg c_number_in.fn.kp (zCp c_number_in.fn) zAy (zAa (e_v 2) zAf) zAY)))
 (zAk (zAI (zNk (zAD op_in_seq zYT zA0 (e_v 1) (by rfl)) zA0 (zBB call_tuple_of zNW B.n_tuple (by decide+kernel) (zAa (e_v 1) zAf))))))
end
section
variable {f f_zd:Addr}{fd_zd:FuncData}(B:Bt K mg)(c_numbers_in:Df P w K mg base 2 zPk "numbers_in" ["words"] [] [] zKw f_zd fd_zd)
theorem zEq{f:Addr}{fd:FuncData}(F:FD K "pair_in" "pair_in" zQK [] [] f fd):Bnd K fd ["word"] 1 [] [.p 0] []:=
 by simp![F]
theorem zVI:FnScope yAc ["word"] (defScope zQK):=by simp_all!
include B c_numbers_in in
theorem zZM:PdC P w K mg base 2 yAc "pair_in" zQK f (zYC):=by
 intro cdv A outer s H E hr
 have sc:=zVI
 exact(zAe (zA2 (i:=1) sc.nd rfl (by dsimp!) (zAV c_numbers_in.ok (hr.mono (by decide)) c_numbers_in.mg c_numbers_in.fn.kp (zB9 c_numbers_in.fn) zAy (zAa (zY9 (zIy (e_v 0) zAl)) zAf) zAY))
 (zAk (zAI (zNk (jr (zKr (zAD op_notN zTd (e_v 1) zA0 (nomark _)) (zGb (zAD (zHs hr) sEq (zAw zAF zD7 B.n_len (by decide+kernel) (zAa (e_v 1) zAf)) zAi (nomark _))))) (e_v 1) zA0))))
theorem zLf{f:Addr}{fd:FuncData}(F:FD K "head_in" "head_in" zH8 [] [] f fd):Bnd K fd ["word"] 1 [] [.p 0] []:=
 by simp![F]
theorem zRW:FnScope zTI ["word"] (defScope zH8):=by simp_all!
include B c_numbers_in in
theorem zWS:PdC P w K mg base 2 zTI "head_in" zH8 f (zP0):=by
 intro cdv A outer s H E hr
 have sc:=zRW
 exact(zAe (zA2 (i:=1) sc.nd rfl (by dsimp!) (zY9 (zIy (e_v 0) zAl)))
 (zAe (zCg (jr (zI1 (zAD (zPn hr) sNe (zAw zAF zD7 B.n_len (by decide+kernel) (zAa (e_v 1) zAf)) zAi (nomark _)) (zEt (zAD op_notIn_seq zNY (zAG (e_v 1) zAi) (zD1 B.g_SIGNS) (by rfl)))))
  (zAk (zAI zA0))
  zAP)
 (zAe (zA2 (i:=2) sc.nd rfl (by dsimp!) (zAV c_numbers_in.ok (hr.mono (by decide)) c_numbers_in.mg c_numbers_in.fn.kp (zB9 c_numbers_in.fn) zAy (zAa (zBT (e_v 1) zC0 (zCZ zAi)) zAf) zAY))
 (zAk (zAI (zNk (zAD op_isN zIX (e_v 2) zA0 (nomark _)) zA0 (zCU (e_v 2) (zCt (zAa (zAG (e_v 1) zAi) zAf)))))))))
theorem zIN{f:Addr}{fd:FuncData}(F:FD K "moment_in" "moment_in" zPf [] [] f fd):Bnd K fd ["word"] 1 [] [.p 0] []:=
 by simp![F]
theorem zVG:FnScope zYX ["word"] (defScope zPf):=by simp_all!
end
section
variable {f f_zp f_zaa f_zr:Addr}{fd_zp fd_zaa fd_zr:FuncData}(B:Bt K mg)(c_pair_in:Df P w K mg base 3 zQK "pair_in" ["word"] [] [] zMC f_zp fd_zp)(c_head_in:Df P w K mg base 3 zH8 "head_in" ["word"] [] [] zLA f_zaa fd_zaa)(c_moment_in:Df P w K mg base 4 zPf "moment_in" ["word"] [] [] zQi f_zr fd_zr)
include B c_pair_in c_head_in in
theorem zZK:PdC P w K mg base 3 zYX "moment_in" zPf f (zYA):=by
 intro cdv A outer s H E hr
 have sc:=zVG
 exact(zAe (zDr (zY9 (zIy (e_v 0) zAl)) (zXr rfl (zAq (zAx (i:=1) sc.nd rfl (by dsimp!)) (zT6 (zAx (i:=2) sc.nd rfl (by dsimp!)) zCd))))
 (zAe (zA2 (i:=3) sc.nd rfl (by dsimp!) (zAV c_pair_in.ok (hr.mono (by decide)) c_pair_in.mg c_pair_in.fn.kp (zEq c_pair_in.fn) zAy (zAa (e_v 1) zAf) zAY))
 (zAe (zH9 (i:=4) rfl sc.nd rfl rfl (sw_true rfl rfl rfl (by decide+kernel)) (zEi (e_v 2)) (own:=[("one",5)]) (by exact blkOk_by (N:=zYX) (sc:=defScope zPf) (by decide+kernel)) (fun _ _ _ _ _=>(zBI (i:=5) sc.nd rfl (by dsimp!))) (fun _ _ _ _ _=>zDl) (fun _ _ _ _ _=>(zAV c_head_in.ok (hr.mono (by decide)) c_head_in.mg c_head_in.fn.kp (zLf c_head_in.fn) zAy (zAa (e_v 5) zAf) zAY)))
 (zAe (zCg (jr (zI1 (zAD op_isN zIX (e_v 3) zA0 (nomark _)) (zEt (zAD (zWX hr) yBg zA0 (e_v 4) (by rfl)))))
  (zAk (zAI zA0))
  zAP)
 (zAk (zAI (zCt (zAa (zAG (e_v 3) zAi) (zAa (zBB call_tuple_of zNW B.n_tuple (by decide+kernel) (zAa (e_v 4) zAf)) (zAa (zAG (e_v 3) zAi) zAf))))))))))
theorem zKb{f:Addr}{fd:FuncData}(F:FD K "music_in" "music_in" zPe [] [] f fd):Bnd K fd ["words"] 1 [] [.p 0] []:=
 by simp![F]
theorem zVF:FnScope zYW ["words"] (defScope zPe):=by simp_all!
include B c_moment_in in
theorem zZJ:PdC P w K mg base 4 zYW "music_in" zPe f (zYz):=by
 intro cdv A outer s H E hr
 have sc:=zVF
 exact(zAe (zH9 (i:=1) rfl sc.nd rfl rfl (sw_true rfl rfl rfl (by decide+kernel)) (zEi (e_v 0)) (own:=[("word",2)]) (by exact blkOk_by (N:=zYW) (sc:=defScope zPe) (by decide+kernel)) (fun _ _ _ _ _=>(zBI (i:=2) sc.nd rfl (by dsimp!))) (fun _ _ _ _ _=>zDl) (fun _ _ _ _ _=>(zAV c_moment_in.ok (hr.mono (by decide)) c_moment_in.mg c_moment_in.fn.kp (zIN c_moment_in.fn) zAy (zAa (e_v 2) zAf) zAY)))
 (zAk (zAI (zNk (zAD (zWX hr) yBg zA0 (e_v 1) (by rfl)) zA0 (zBB call_tuple_of zNW B.n_tuple (by decide+kernel) (zAa (e_v 1) zAf))))))
end
section
variable {f:Addr}
theorem zHb{f:Addr}{fd:FuncData}(F:FD K "music_deed" "music_deed" zR0 [] [] f fd):Bnd K fd ["words"] 1 [] [.p 0] []:=
 by simp![F]
theorem zVP:FnScope yAh ["words"] (defScope zR0):=by simp_all!
end
section
variable {f f_zc f_zd f_zp f_zs:Addr}{fd_zc fd_zd fd_zp fd_zs:FuncData}(B:Bt K mg)(c_number_in:Df P w K mg base 1 zPl "number_in" ["word"] [] [] zKx f_zc fd_zc)(c_numbers_in:Df P w K mg base 2 zPk "numbers_in" ["words"] [] [] zKw f_zd fd_zd)(c_pair_in:Df P w K mg base 3 zQK "pair_in" ["word"] [] [] zMC f_zp fd_zp)(c_music_in:Df P w K mg base 5 zPe "music_in" ["words"] [] [] zQh f_zs fd_zs)
include B c_number_in c_music_in in
theorem zZT:PdC P w K mg base 5 yAh "music_deed" zR0 f (zYI):=by
 intro cdv A outer s H E hr
 have sc:=zVP
 exact(zAe (zVZ (i:=1) (j:=2) rfl sc.nd rfl rfl (by decide) rfl rfl (zAa (zNk (zAD op_gt sGt (zAw zAF zD7 B.n_len (by decide+kernel) (zAa (e_v 0) zAf)) zAi (nomark _)) (zAV c_number_in.ok (hr.mono (by decide)) c_number_in.mg c_number_in.fn.kp (zCp c_number_in.fn) zAy (zAa (zAG (e_v 0) zAi) zAf) zAY) zA0) (zAa (zAV c_music_in.ok (hr.mono (by decide)) c_music_in.mg c_music_in.fn.kp (zKb c_music_in.fn) zAy (zAa (zBT (e_v 0) (zCZ zAi) zC0) zAf) zAY) zAf)) (by rfl))
 (zAe (zCg (jr (zI1 (zAD op_isN zIX (e_v 1) zA0 (nomark _)) (zEt (zAD op_isN zIX (e_v 2) zA0 (nomark _)))))
  (zAk (zAI zA0))
  zAP)
 (zAk (zAI (zCt (zAa (zAG (e_v 0) zAi) (zAa (e_v 1) (zAa (e_v 2) zAf))))))))
theorem zIO{f:Addr}{fd:FuncData}(F:FD K "mark_deed" "mark_deed" zRZ [] [] f fd):Bnd K fd ["words"] 1 [] [.p 0] []:=
 by simp![F]
theorem zVO:FnScope yAg ["words"] (defScope zRZ):=by simp_all!
include B c_numbers_in c_pair_in in
theorem zZS:PdC P w K mg base 3 yAg "mark_deed" zRZ f (zYH):=by
 intro cdv A outer s H E hr
 have sc:=zVO
 exact(zAe (zCg (zAD (zPn hr) sNe (zAw zAF zD7 B.n_len (by decide+kernel) (zAa (e_v 0) zAf)) zAi (nomark _))
  (zAk (zAI zA0))
  zAP)
 (zAe (zA2 (i:=1) sc.nd rfl (by dsimp!) (zAV c_numbers_in.ok (hr.mono (by decide)) c_numbers_in.mg c_numbers_in.fn.kp (zB9 c_numbers_in.fn) zAy (zAa (zBx (zAa (zAG (e_v 0) zAi) (zAa (zAG (e_v 0) zAi) zAf))) zAf) zAY))
 (zAe (zVZ (i:=2) (j:=3) rfl sc.nd rfl rfl (by decide) rfl rfl (zAa (zAV c_pair_in.ok (hr.mono (by decide)) c_pair_in.mg c_pair_in.fn.kp (zEq c_pair_in.fn) zAy (zAa (zAG (e_v 0) zAi) zAf) zAY) (zAa (zAV c_pair_in.ok (hr.mono (by decide)) c_pair_in.mg c_pair_in.fn.kp (zEq c_pair_in.fn) zAy (zAa (zAG (e_v 0) zAi) zAf) zAY) zAf)) (by rfl))
 (zAe (zCg (jr (zI1 (zAD op_isN zIX (e_v 1) zA0 (nomark _)) (zI1 (zAD op_isN zIX (e_v 2) zA0 (nomark _)) (zEt (zAD op_isN zIX (e_v 3) zA0 (nomark _))))))
  (zAk (zAI zA0))
  zAP)
 (zAk (zAI (zCt (zAa zAl (zAa (zAG (e_v 1) zAi) (zAa (e_v 2) (zAa (e_v 3) (zAa (zAG (e_v 1) zAi) zAf))))))))))))
theorem zKc{f:Addr}{fd:FuncData}(F:FD K "end_deed" "end_deed" zQN [] [] f fd):Bnd K fd ["words"] 1 [] [.p 0] []:=
 by simp![F]
theorem zVT:FnScope zY2 ["words"] (defScope zQN):=by simp_all!
include B c_number_in in
theorem zZX:PdC P w K mg base 1 zY2 "end_deed" zQN f (zYM):=by
 intro cdv A outer s H E hr
 have sc:=zVT
 exact(zAe (zA2 (i:=1) sc.nd rfl (by dsimp!) (zNk (zAD (zHs hr) sEq (zAw zAF zD7 B.n_len (by decide+kernel) (zAa (e_v 0) zAf)) zAi (nomark _)) (zAV c_number_in.ok (hr.mono (by decide)) c_number_in.mg c_number_in.fn.kp (zCp c_number_in.fn) zAy (zAa (zAG (e_v 0) zAi) zAf) zAY) zA0))
 (zAe (zCg (jr (zI1 (zAD op_isN zIX (e_v 1) zA0 (nomark _)) (zI1 (zDb (zCh op_le sLe op_le sLe zAi (zAw zAF zD7 B.n_len (by decide+kernel) (zAa (zAG (e_v 0) zAi) zAf)) (zD1 B.g_LONGEST))) (zEt (zDb (zGU (zAw (zFb rfl) zUQ B.n_all (by decide+kernel) (zAa (zJI rfl sc.nd (zEi (zAG (e_v 0) zAi)) (own:=[("sign",2)]) (by exact blkOk_by (N:=zY2) (sc:=defScope zQN) (by decide+kernel)) (fun _ _ _ _ _=>(zBI (i:=2) sc.nd rfl (by dsimp!))) (fun _ _ _ _ _=>zDl) (fun _ _ _ _ _=>(zE7 op_in_sign zV0 (e_v 2) (zD1 B.g_LETTERS) (by rfl)))) zAf))))))))
  (zAk (zAI zA0))
  zAP)
 (zAk (zAI (zCt (zAa zAl (zAa (e_v 1) (zAa (zAG (e_v 0) zAi) zAf))))))))
theorem zHa{f:Addr}{fd:FuncData}(F:FD K "plain_deed" "plain_deed" zRY [] [] f fd):Bnd K fd ["words"] 1 [] [.p 0] []:=
 by simp![F]
theorem zVN:FnScope yAf ["words"] (defScope zRY):=by simp_all!
include B c_numbers_in in
theorem zZR:PdC P w K mg base 2 yAf "plain_deed" zRY f (zYG):=by
 intro cdv A outer s H E hr
 have sc:=zVN
 exact(zAe (zA2 (i:=1) sc.nd rfl (by dsimp!) (zAV c_numbers_in.ok (hr.mono (by decide)) c_numbers_in.mg c_numbers_in.fn.kp (zB9 c_numbers_in.fn) zAy (zAa (zBT (e_v 0) (zCZ zAi) zC0) zAf) zAY))
 (zAe (zCg (jr (zI1 (zAD op_isN zIX (e_v 1) zA0 (nomark _)) (zEt (zAD (zPn hr) sNe (zAw zAF zD7 B.n_len (by decide+kernel) (zAa (e_v 1) zAf)) (zJJ hr (zXH (zIb zAl zAi (zIb zAl zAi (zIb zAl zAi (zIb zAl zAi zWo))))) (zAG (e_v 0) zAi)) (nomark _)))))
  (zAk (zAI zA0))
  zAP)
 (zAk (zAI (zCU (zCt (zAa (zAG (e_v 0) zAi) zAf)) (e_v 1))))))
end
section
variable {f:Addr}
theorem zKd{f:Addr}{fd:FuncData}(F:FD K "answered" "answered" zBr [] [] f fd):Bnd K fd ["shop","words"] 2 [] [.p 0,.p 1] []:=
 by simp![F,F]
theorem zGr:FnScope zE6 ["shop","words"] (defScope zBr):=by simp_all!
end
section
variable {f:Addr}{tb:Tb}{f_Shop_init f_Shop_do_v1 f_Shop_undo_v2 f_Shop_redo_v2 f_zn f_zad f_Shop_word f_Shop_mark_v1 f_zm f_zc:Addr}{fd_zc fd_Shop_do_v1:FuncData}(B:Bt K mg)(T_Shop:Ob_Shop K mg tb.Shop f_Shop_init f_Shop_do_v1 f_Shop_undo_v2 f_Shop_redo_v2 f_zn f_zad f_Shop_word f_Shop_mark_v1 f_zm)(c_number_in:Df P w K mg base 1 zPl "number_in" ["word"] [] [] zKx f_zc fd_zc)(F_tell:∀q∈[(tb.bars_told,zQk tb),(tb.undo_told,zFg tb),(tb.redo_told,zFf tb)],CalX P w K mg base 7 q.1 1 [.p 0] (zCx K q.2))(F_form:∀q∈[(tb.music_deed,zNC),(tb.mark_deed,zNB),(tb.end_deed,zND),(tb.plain_deed,zNA)],CalX P w K mg base 7 q.1 1 [.p 0] (zCx K q.2))(K_SINGLE:KTF K w mg "SINGLE" tb.SINGLE (zD5 tb))(K_FORMS:KTF K w mg "FORMS" tb.FORMS (zFv tb))(c_Shop_do_v1:DmX P w K mg base 7 zAR "do" "Shop.do" ["self","deed"] [] [] (zLu tb) f_Shop_do_v1 fd_Shop_do_v1)
include B T_Shop c_number_in F_tell F_form K_SINGLE K_FORMS c_Shop_do_v1 in
theorem zWs:PdX P w K mg base 7 zE6 "answered" zBr f (zPA tb):=by
 intro cdv A outer s H E hr
 have sc:=zGr
 exact(zAe (zCg (jr (zKr (zAD (zHs hr) sEq (zAw zAF zD7 B.n_len (by decide+kernel) (zAa (e_v 1) zAf)) zAi (nomark _)) (zGb (zZm K_SINGLE (zAG (e_v 1) zAi) (zD1 K_SINGLE.gc)))))
  (zAe (zA2 (i:=2) sc.nd rfl (by dsimp!) (yAv K_SINGLE (zD1 K_SINGLE.gc) (zAG (e_v 1) zAi)))
 (zAk (zNV (zUi (i:=2) (srcs:=[.p 0]) F_tell hr (takes_of rfl rfl rfl rfl) rfl (by dsimp!) (zAa (e_v 0) zAf)))))
  zAP)
 (zAe (zA2 (i:=3) sc.nd rfl (by dsimp!) (zNk (jr (zKr (zAD (zHs hr) sEq (zAw zAF zD7 B.n_len (by decide+kernel) (zAa (e_v 1) zAf)) zAi (nomark _)) (zGb (zAD op_in_seq zYT (zAG (e_v 1) zAi) (zCt (zAa zAl (zAa zAl zAf))) (by rfl))))) (zAV c_number_in.ok (hr.mono (by decide)) c_number_in.mg c_number_in.fn.kp (zCp c_number_in.fn) zAy (zAa (zAG (e_v 1) zAi) zAf) zAY) zA0))
 (zAe (zCg (zAD op_notN zTd (e_v 3) zA0 (nomark _))
  zP6
  zAP)
 (zAe (zA2 (i:=5) sc.nd rfl (by dsimp!) (zXG K_FORMS (zD1 K_FORMS.gc) (zAG (e_v 1) zAi)))
 (zAe (zHq (i:=6) sc.nd rfl (by dsimp!) (yBr (zAD op_isN zIX (e_v 5) zA0 (nomark _)) (zCV zA0) (zUi (i:=5) (srcs:=[.p 0]) F_form hr (takes_of rfl rfl rfl rfl) rfl (by dsimp!) (zAa (e_v 1) zAf))))
 (zAe (zCg (zAD op_isN zIX (e_v 6) zA0 (nomark _))
  (zAk (zAI zAl))
  zAP)
 (zAe (zHq (i:=7) sc.nd rfl (by dsimp!) (zDk (zCV (e_v 0)) T_Shop.cl T_Shop.m_do c_Shop_do_v1.ok (hr.mono (by omega)) (takes_of rfl rfl rfl rfl) (zHc c_Shop_do_v1.fn) zAy (zAa (e_v 6) zAf)))
 (zAk (zAI (zNk (zAD op_isN zIX (e_v 7) zA0 (nomark _)) zAl (zBB zO6 yBd B.n_str (by decide+kernel) (zAa (e_v 7) zAf))))))))))))
end
section
variable {f:Addr}
theorem zBq{f:Addr}{fd:FuncData}(F:FD K "say" "Desk.say" zPm [] [] f fd):Bnd K fd ["self","line"] 2 [] [.p 0,.p 1] []:=
 by simp![F,F]
theorem zVW:FnScope zY5 ["self","line"] (defScope zPm):=by simp_all!
end
section
variable {f:Addr}{tb:Tb}{fI_BadPaper f_Desk_init f_zb fI_NoMark fI_NoBar fI_BadDeed fI_BadBar fI_BadPlace fI_Full fI_BadSpan fI_BadStaff fI_BadThick fI_NoMoment fI_BadWord fI_Same fI_Nothing f_answered fI_NoBreak fI_NoLine:Addr}{fdI_BadPaper fdI_NoMark fdI_NoBar fdI_BadDeed fdI_BadBar fdI_BadPlace fdI_Full fdI_BadSpan fdI_BadStaff fdI_BadThick fdI_NoMoment fdI_BadWord fdI_Same fdI_Nothing fd_answered fdI_NoBreak fdI_NoLine:FuncData}(B:Bt K mg)(T_BadPaper:Er0 P w K mg base "BadPaper" (PySem.Str.ofString "bad paper") tb.BadPaper fI_BadPaper fdI_BadPaper)(T_Desk:Ob_Desk K mg tb.Desk f_Desk_init f_zb)(T_NoMark:ErL P w K mg base "NoMark" (PySem.Str.ofString "no mark") tb.NoMark fI_NoMark fdI_NoMark)(T_NoBar:ErL P w K mg base "NoBar" (PySem.Str.ofString "no bar") tb.NoBar fI_NoBar fdI_NoBar)(T_BadDeed:Er0 P w K mg base "BadDeed" (PySem.Str.ofString "bad deed") tb.BadDeed fI_BadDeed fdI_BadDeed)(T_BadBar:Er1 P w K mg base "BadBar" (PySem.Str.ofString "bad bar") "place" "place" tb.BadBar fI_BadBar fdI_BadBar)(T_Full:Er0 P w K mg base "Full" (PySem.Str.ofString "full") tb.Full fI_Full fdI_Full)(T_BadPlace:Er0 P w K mg base "BadPlace" (PySem.Str.ofString "bad place") tb.BadPlace fI_BadPlace fdI_BadPlace)(T_NoMoment:ErL P w K mg base "NoMoment" (PySem.Str.ofString "no moment") tb.NoMoment fI_NoMoment fdI_NoMoment)(T_BadThick:Er0 P w K mg base "BadThick" (PySem.Str.ofString "bad thick") tb.BadThick fI_BadThick fdI_BadThick)(T_BadStaff:Er0 P w K mg base "BadStaff" (PySem.Str.ofString "bad staff") tb.BadStaff fI_BadStaff fdI_BadStaff)(T_BadSpan:Er0 P w K mg base "BadSpan" (PySem.Str.ofString "bad span") tb.BadSpan fI_BadSpan fdI_BadSpan)(T_Same:Er0 P w K mg base "Same" (PySem.Str.ofString "same") tb.Same fI_Same fdI_Same)(T_BadWord:Er0 P w K mg base "BadWord" (PySem.Str.ofString "bad word") tb.BadWord fI_BadWord fdI_BadWord)(T_Nothing:Er0 P w K mg base "Nothing" (PySem.Str.ofString "nothing") tb.Nothing fI_Nothing fdI_Nothing)(M_NoBar_BurinError:PySem.W.exmOne K (.ref tb.NoBar) (.ref tb.BurinError)=some false)(M_NoLine_BurinError:PySem.W.exmOne K (.ref tb.NoLine) (.ref tb.BurinError)=some false)(M_NoMark_BurinError:PySem.W.exmOne K (.ref tb.NoMark) (.ref tb.BurinError)=some false)(M_NoMoment_BurinError:PySem.W.exmOne K (.ref tb.NoMoment) (.ref tb.BurinError)=some false)(M_BadBar_BurinError:PySem.W.exmOne K (.ref tb.BadBar) (.ref tb.BurinError)=some true)(M_BadDeed_BurinError:PySem.W.exmOne K (.ref tb.BadDeed) (.ref tb.BurinError)=some true)(M_BadPaper_BurinError:PySem.W.exmOne K (.ref tb.BadPaper) (.ref tb.BurinError)=some true)(M_BadPlace_BurinError:PySem.W.exmOne K (.ref tb.BadPlace) (.ref tb.BurinError)=some true)(M_BadSpan_BurinError:PySem.W.exmOne K (.ref tb.BadSpan) (.ref tb.BurinError)=some true)(M_BadStaff_BurinError:PySem.W.exmOne K (.ref tb.BadStaff) (.ref tb.BurinError)=some true)(M_BadThick_BurinError:PySem.W.exmOne K (.ref tb.BadThick) (.ref tb.BurinError)=some true)(M_BadWord_BurinError:PySem.W.exmOne K (.ref tb.BadWord) (.ref tb.BurinError)=some true)(M_Full_BurinError:PySem.W.exmOne K (.ref tb.Full) (.ref tb.BurinError)=some true)(M_NoBar_Missing:PySem.W.exmOne K (.ref tb.NoBar) (.ref tb.Missing)=some true)(M_NoBreak_BurinError:PySem.W.exmOne K (.ref tb.NoBreak) (.ref tb.BurinError)=some true)(M_NoLine_Missing:PySem.W.exmOne K (.ref tb.NoLine) (.ref tb.Missing)=some true)(M_NoMark_Missing:PySem.W.exmOne K (.ref tb.NoMark) (.ref tb.Missing)=some true)(M_NoMoment_Missing:PySem.W.exmOne K (.ref tb.NoMoment) (.ref tb.Missing)=some true)(M_Nothing_BurinError:PySem.W.exmOne K (.ref tb.Nothing) (.ref tb.BurinError)=some true)(M_Same_BurinError:PySem.W.exmOne K (.ref tb.Same) (.ref tb.BurinError)=some true)(Z_BurinError:mg "BurinError"=some (.ref tb.BurinError))(Z_Missing:mg "Missing"=some (.ref tb.Missing))(T_NoLine:ErL P w K mg base "NoLine" (PySem.Str.ofString "no line") tb.NoLine fI_NoLine fdI_NoLine)(T_NoBreak:Er1 P w K mg base "NoBreak" (PySem.Str.ofString "no break") "tight" "tight" tb.NoBreak fI_NoBreak fdI_NoBreak)(c_answered:DfX P w K mg base 8 zBr "answered" ["shop","words"] [] [] (zLt tb) f_answered fd_answered)
include B T_BadPaper T_Desk T_NoMark T_NoBar T_BadDeed T_BadBar T_Full T_BadPlace T_NoMoment T_BadThick T_BadStaff T_BadSpan T_Same T_BadWord T_Nothing M_NoBar_BurinError M_NoLine_BurinError M_NoMark_BurinError M_NoMoment_BurinError M_BadBar_BurinError M_BadDeed_BurinError M_BadPaper_BurinError M_BadPlace_BurinError M_BadSpan_BurinError M_BadStaff_BurinError M_BadThick_BurinError M_BadWord_BurinError M_Full_BurinError M_NoBar_Missing M_NoBreak_BurinError M_NoLine_Missing M_NoMark_Missing M_NoMoment_Missing M_Nothing_BurinError M_Same_BurinError Z_BurinError Z_Missing T_NoLine T_NoBreak c_answered in
theorem zZ0:PdC P w K mg base 8 zY5 "Desk.say" zPm f (zYP tb):=by
 intro cdv A outer s H E hr
 have sc:=zVW
 exact(zAk (zVY (l:=[(.ref tb.BurinError,⟨(fun cl b=>(cl=.ref tb.BadBar∧b=true)∨(cl=.ref tb.NoBreak∧b=true)∨(cl=.ref tb.BadPaper∧b=true)∨(cl=.ref tb.BadPlace∧b=true)∨(cl=.ref tb.BadStaff∧b=true)∨(cl=.ref tb.BadSpan∧b=true)∨(cl=.ref tb.BadThick∧b=true)∨(cl=.ref tb.BadWord∧b=true)∨(cl=.ref tb.Same∧b=true)∨(cl=.ref tb.Full∧b=true)∨(cl=.ref tb.BadDeed∧b=true)∨(cl=.ref tb.Nothing∧b=true)∨(cl=.ref tb.NoBar∧b=false)∨(cl=.ref tb.NoMoment∧b=false)∨(cl=.ref tb.NoMark∧b=false)∨(cl=.ref tb.NoLine∧b=false)),some 2,fun a cls d=>(zBd (dOp zDL (dC (.str (PySem.Str.ofString "no: "))) (zUm a cls d [tb.BadBar,tb.NoBreak,tb.BadPaper,tb.BadPlace,tb.BadStaff,tb.BadSpan,tb.BadThick,tb.BadWord,tb.Same,tb.Full,tb.BadDeed,tb.Nothing] "says" (zAd 2))))⟩),(.ref tb.Missing,⟨(fun cl b=>(cl=.ref tb.NoBar∧b=true)∨(cl=.ref tb.NoMoment∧b=true)∨(cl=.ref tb.NoMark∧b=true)∨(cl=.ref tb.NoLine∧b=true)),some 2,fun a cls d=>(zBd (dOp zDL (dC (.str (PySem.Str.ofString "no: "))) (zUm a cls d [tb.NoBar,tb.NoMoment,tb.NoMark,tb.NoLine] "says" (zAd 2))))⟩)]) rfl rfl sc.nd zDa (fun W pn xe tk pp=>by
  have hrr:Room 8 (((cxOf CX0 P w K mg base zY5 "Desk.say" (defScope zPm) f cdv A outer s H E).nox.tr pn xe).A):=hr
  exact(zAk (zNV (zDB c_answered.ok (hrr.mono (by decide)) tk c_answered.mg c_answered.fn.kp (zKd c_answered.fn) zAy (zAa (zAA T_Desk.cl T_Desk.n_shop (e_v 0)) (zAa (zY9 (zIy (e_v 1) zAl)) zAf)) zAY))))
 (.named (i:=2) rfl rfl ⟨rfl,by decide,Or.inl Z_BurinError⟩ (fun cl b h=>by rcases h with⟨rfl,rfl⟩|⟨rfl,rfl⟩|⟨rfl,rfl⟩|⟨rfl,rfl⟩|⟨rfl,rfl⟩|⟨rfl,rfl⟩|⟨rfl,rfl⟩|⟨rfl,rfl⟩|⟨rfl,rfl⟩|⟨rfl,rfl⟩|⟨rfl,rfl⟩|⟨rfl,rfl⟩|⟨rfl,rfl⟩|⟨rfl,rfl⟩|⟨rfl,rfl⟩|⟨rfl,rfl⟩<;>first|exact M_BadBar_BurinError|exact M_NoBreak_BurinError|exact M_BadPaper_BurinError|exact M_BadPlace_BurinError|exact M_BadStaff_BurinError|exact M_BadSpan_BurinError|exact M_BadThick_BurinError|exact M_BadWord_BurinError|exact M_Same_BurinError|exact M_Full_BurinError|exact M_BadDeed_BurinError|exact M_Nothing_BurinError|exact M_NoBar_BurinError|exact M_NoMoment_BurinError|exact M_NoMark_BurinError|exact M_NoLine_BurinError)
 (fun a oe cls d pn hz hf=>(zAk (zAI (zCU zAl (zXx (qa.mpr ⟨⟨T_BadBar.xf,T_BadBar.no⟩,(qa.mpr ⟨⟨T_NoBreak.xf,T_NoBreak.no⟩,(qa.mpr ⟨⟨T_BadPaper.xf,T_BadPaper.no⟩,(qa.mpr ⟨⟨T_BadPlace.xf,T_BadPlace.no⟩,(qa.mpr ⟨⟨T_BadStaff.xf,T_BadStaff.no⟩,(qa.mpr ⟨⟨T_BadSpan.xf,T_BadSpan.no⟩,(qa.mpr ⟨⟨T_BadThick.xf,T_BadThick.no⟩,(qa.mpr ⟨⟨T_BadWord.xf,T_BadWord.no⟩,(qa.mpr ⟨⟨T_Same.xf,T_Same.no⟩,(qa.mpr ⟨⟨T_Full.xf,T_Full.no⟩,(qa.mpr ⟨⟨T_BadDeed.xf,T_BadDeed.no⟩,(qa.mpr ⟨⟨T_Nothing.xf,T_Nothing.no⟩,(fun _ z=>nomatch z)⟩)⟩)⟩)⟩)⟩)⟩)⟩)⟩)⟩)⟩)⟩)⟩) hz hf (e_v 2)))))) (.named (i:=2) rfl rfl ⟨rfl,by decide,Or.inl Z_Missing⟩ (fun cl b h=>by rcases h with⟨rfl,rfl⟩|⟨rfl,rfl⟩|⟨rfl,rfl⟩|⟨rfl,rfl⟩<;>first|exact M_NoBar_Missing|exact M_NoMoment_Missing|exact M_NoMark_Missing|exact M_NoLine_Missing)
 (fun a oe cls d pn hz hf=>(zAk (zAI (zCU zAl (zXx (qa.mpr ⟨⟨T_NoBar.xf,T_NoBar.no⟩,(qa.mpr ⟨⟨T_NoMoment.xf,T_NoMoment.no⟩,(qa.mpr ⟨⟨T_NoMark.xf,T_NoMark.no⟩,(qa.mpr ⟨⟨T_NoLine.xf,T_NoLine.no⟩,(fun _ z=>nomatch z)⟩)⟩)⟩)⟩) hz hf (e_v 2)))))) .nil))))
end
section
variable {f:Addr}(B:Bt K mg)
theorem zBo{f:Addr}{fd:FuncData}(F:FD K "_law_pull" "_law_pull" zQL [] [] f fd):Bnd K fd ["_law_bag_here","_law_sides"] 2 [] [.p 0,.p 1] []:=
 by simp![F,F]
theorem zVM:FnScope yAe ["_law_bag_here","_law_sides"] (defScope zQL):=by simp_all!
include B in
theorem zZQ:PdC P w K mg base 0 yAe "_law_pull" zQL f (yBb):=by
 intro cdv A outer s H E hr
 have sc:=zVM
 exact(zAe (zCg (jr (zKr (zAD (zHs hr) sEq (zAG (e_v 0) zAi) zAi (nomark _)) (zGb (zAD op_lt sLt (zAG (e_v 0) zAi) (zAw zAF zD7 B.n_len (by decide+kernel) (zAa (zAG (e_v 0) zAi) zAf)) (nomark _)))))
  (zAe (zA2 (i:=2) sc.nd rfl (by dsimp!) (zAG (zAG (e_v 0) zAi) (zAG (e_v 0) zAi)))
 (zAe (zDr (zCU (zAG (e_v 0) zAi) zAi) (zM3 (e_v 0) zAi set_list zMQ))
 (zAk (zCg (zAD op_ge sGe (e_v 2) (zXy zAi zAi) (nomark _))
  (zAk (zDr (e_v 2) (zM3 (e_v 0) zAi set_list zMQ)))
  (zAk (zDr (zM5 (zCU (zCU (zM4 (zAG (e_v 0) zAi) zAi) (zM4 (zM5 (e_v 2) zAi) zAi)) zAi) zAi) (zM3 (e_v 0) zAi set_list zMQ)))))))
  zAP)
 (zAe (zCg (zAD op_gt sGt (zAG (e_v 0) zAi) zAi (nomark _))
  (zAe (zA2 (i:=3) sc.nd rfl (by dsimp!) (zM5 (zAG (e_v 0) zAi) (e_v 1)))
 (zAe (zDr (yBo (zAG (e_v 0) zAi) (e_v 1)) (zM3 (e_v 0) zAi set_list zMQ))
 (zAk (zAI (e_v 3)))))
  zAP)
 (zAe (zA2 (i:=4) sc.nd rfl (by dsimp!) (zAG (e_v 0) zAi))
 (zAe (zDr (zCU (zAG (e_v 0) zAi) zAi) (zM3 (e_v 0) zAi set_list zMQ))
 (zAe (zDr (zM5 (zCU (zCU (zXy (e_v 4) zAi) (zM4 zAi (e_v 4))) (zM4 zAi (zAG (e_v 0) zAi))) zAi) (zM3 (e_v 0) zAi set_list zMQ))
 (zAk (zAI (zM5 (zCU (yBo (zAG (e_v 0) zAi) zAi) (zM4 (zM5 (zAG (e_v 0) zAi) zAi) zAi)) (e_v 1)))))))))
theorem zVD:FnScope yAa ["_law_script"] (defScope zQI):=by simp_all!
end
section
variable {f:Addr}{tb:Tb}{f_Shop_init f_Shop_do_v1 f_Shop_undo_v2 f_Shop_redo_v2 f_zn f_zad f_Shop_word f_Shop_mark_v1 f_zm f_Desk_init f_zb f_za f_zv f_zw f_zl f_zx:Addr}{fd_za fd_zv fd_Desk_init fd_zb fd_zm fd_Shop_mark_v1 fd_Shop_word fd_zn fd_zw fd_zl fd_zx:FuncData}(B:Bt K mg)(T_Shop:Ob_Shop K mg tb.Shop f_Shop_init f_Shop_do_v1 f_Shop_undo_v2 f_Shop_redo_v2 f_zn f_zad f_Shop_word f_Shop_mark_v1 f_zm)(T_Desk:Ob_Desk K mg tb.Desk f_Desk_init f_zb)(c_law_bag:Df P w K mg base 1 zQH "_law_bag" ["_law_script"] [] [] zQf f_zv fd_zv)(c_Desk_init:DmX P w K mg base 7 zBb "__init__" "Desk.__init__" ["self","width","lines"] [] [("width",.int 120),("lines",.int 4)] (zLs tb) f_Desk_init fd_Desk_init)(c_law_same:Df P w K mg base 10 zKK "_law_same" ["_law_found","_law_due"] [] [] sp_za f_za fd_za)(c_Desk_say_v1:Dm P w K mg base 9 zPm "say" "Desk.say" ["self","line"] [] [] (zEv tb) f_zb fd_zb)(c_Shop_piece_v1:Dm P w K mg base 1 zPi "piece" "Shop.piece" ["self"] [] [] (zME tb) f_zm fd_zm)(c_Shop_mark_v1:DmX P w K mg base 4 zAN "mark" "Shop.mark" ["self","number"] [] [] (zHj tb) f_Shop_mark_v1 fd_Shop_mark_v1)(c_Shop_word:DmX P w K mg base 5 zA9 "word" "Shop.word" ["self","number"] [] [] (zHk tb) f_Shop_word fd_Shop_word)(c_Shop_deeds_v1:Dm P w K mg base 1 zPh "deeds" "Shop.deeds" ["self"] [] [] (zMD tb) f_zn fd_zn)(c_law_odd:Df P w K mg base 1 zQG "_law_odd" [] [] [] zQe f_zw fd_zw)(c_law_pull:Df P w K mg base 1 zQL "_law_pull" ["_law_bag_here","_law_sides"] [] [] zGX f_zl fd_zl)(c_law_is_form:Df P w K mg base 1 zQF "_law_is_form" ["_law_text"] [] [] zQd f_zx fd_zx)
include B T_Shop T_Desk c_law_bag c_Desk_init c_law_same c_Desk_say_v1 c_Shop_piece_v1 c_Shop_mark_v1 c_Shop_word c_Shop_deeds_v1 c_law_odd c_law_pull c_law_is_form in
theorem zZH:∀(cdv:Value) (A:Around) (outer:List Env) (s:Shared) (H:Hp) (E:XK),A.guards=some []→Room 10 (A.deeper (envOfC "law" (defScope zQI) s.heap.objs.size f cdv))→
  PSs (cxOf CX0 P w K mg base yAa "law" (defScope zQI) f cdv A outer s H E).nox (defBody zQI) (zCl K W0 (zYx tb)):=by
 intro cdv A outer s H E hg hr
 have sc:=zVD
 exact(zAe (zA2 (i:=1) sc.nd rfl (by dsimp!) (zAV c_law_bag.ok (hr.mono (by decide)) c_law_bag.mg c_law_bag.fn.kp (zLe c_law_bag.fn) zAy (zAa (e_v 0) zAf) zAY))
 (zAe (zHq (i:=2) sc.nd rfl (by dsimp!) (zNl T_Desk.mak c_Desk_init.ok (hr.mono (by omega)) zDa T_Desk.g (zIU c_Desk_init.fn) zHR zAY))
 (zAe (zJp PassesOwn.never rfl (zEi (zBx (zAa (zCt (zAa zAl (zAa zAl zAf))) (zAa (zCt (zAa zAl (zAa zAl zAf))) (zAa (zCt (zAa zAl (zAa zAl zAf))) zAf))))) (zDR rfl (zAq (zAx (i:=3) sc.nd rfl (by dsimp!)) (zAq (zAx (i:=4) sc.nd rfl (by dsimp!)) zCd)))
  (zAk (zCg (zDb (zGU (zAV c_law_same.ok (hr.mono (by decide)) c_law_same.mg c_law_same.fn.kp (zCK c_law_same.fn) zAy (zAa (zD0 (e_v 2) T_Desk.cl T_Desk.m_say c_Desk_say_v1.ok (hr.mono (by omega)) (zBq c_Desk_say_v1.fn) zAy (zAa (e_v 3) zAf)) (zAa (e_v 4) zAf)) zAY)))
  (zAk (zAI zUk))
  zAP)))
 (zAe (zHq (i:=5) sc.nd rfl (by dsimp!) (zCV (zAw (zMs hg hr) zV1 B.n_repr (by decide+kernel) (zAa (zBx (zAa (zDh (zAA T_Desk.cl T_Desk.n_shop (e_v 2)) T_Shop.cl T_Shop.m_piece c_Shop_piece_v1.ok (hr.mono (by omega)) (zC5 c_Shop_piece_v1.fn) zAy) (zAa (zFw (W:=W0) (zDk (zCV (zAA T_Desk.cl T_Desk.n_shop (e_v 2))) T_Shop.cl T_Shop.m_mark c_Shop_mark_v1.ok (hr.mono (by omega)) zDa (zDq c_Shop_mark_v1.fn) zAy (zAa zAi zAf))) (zAa (zFw (W:=W0) (zDk (zCV (zAA T_Desk.cl T_Desk.n_shop (e_v 2))) T_Shop.cl T_Shop.m_word c_Shop_word.ok (hr.mono (by omega)) zDa (zEV c_Shop_word.fn) zAy (zAa zAi zAf))) (zAa (zDh (zAA T_Desk.cl T_Desk.n_shop (e_v 2)) T_Shop.cl T_Shop.m_deeds c_Shop_deeds_v1.ok (hr.mono (by omega)) (zC6 c_Shop_deeds_v1.fn) zAy) zAf))))) zAf))))
 (zAe (zA2 (i:=6) sc.nd rfl (by dsimp!) (zUj c_law_odd.ok (hr.mono (by decide)) c_law_odd.mg c_law_odd.fn.kp (zLd c_law_odd.fn) zAy zAY))
 (zAe (zJp PassesOwn.never rfl (zF5 B.n_range (zAa zAi zAf)) (zAx (i:=7) sc.nd rfl (by dsimp!))
  (zAe (zA2 (i:=8) sc.nd rfl (by dsimp!) (zAG (e_v 6) (zAV c_law_pull.ok (hr.mono (by decide)) c_law_pull.mg c_law_pull.fn.kp (zBo c_law_pull.fn) zAy (zAa (e_v 1) (zAa (zAw zAF zD7 B.n_len (by decide+kernel) (zAa (e_v 6) zAf)) zAf)) zAY)))
 (zAe (zCg (zAD (zHs hr) sEq (zAV c_law_pull.ok (hr.mono (by decide)) c_law_pull.mg c_law_pull.fn.kp (zBo c_law_pull.fn) zAy (zAa (e_v 1) (zAa zAi zAf)) zAY) zAi (nomark _))
  (zAe (zA2 (i:=9) sc.nd rfl (by dsimp!) (zAG (zBx (zAa zAl (zAa zAl (zAa zAl (zAa zAl (zAa zAl (zAa zAl zAf))))))) (zAV c_law_pull.ok (hr.mono (by decide)) c_law_pull.mg c_law_pull.fn.kp (zBo c_law_pull.fn) zAy (zAa (e_v 1) (zAa zAi zAf)) zAY)))
 (zAe (zA2 (i:=10) sc.nd rfl (by dsimp!) (zAV c_law_pull.ok (hr.mono (by decide)) c_law_pull.mg c_law_pull.fn.kp (zBo c_law_pull.fn) zAy (zAa (e_v 1) (zAa (zCU (zAw zAF zD7 B.n_len (by decide+kernel) (zAa (e_v 9) zAf)) zAi) zAf)) zAY))
 (zAk (zA2 (i:=8) sc.nd rfl (by dsimp!) (zCU (zCU (zBT (e_v 9) zC0 (zCZ (e_v 10))) (zAG zAl (zAV c_law_pull.ok (hr.mono (by decide)) c_law_pull.mg c_law_pull.fn.kp (zBo c_law_pull.fn) zAy (zAa (e_v 1) (zAa zAi zAf)) zAY))) (zBT (e_v 9) (zCZ (zCU (e_v 10) (zAV c_law_pull.ok (hr.mono (by decide)) c_law_pull.mg c_law_pull.fn.kp (zBo c_law_pull.fn) zAy (zAa (e_v 1) (zAa zAi zAf)) zAY))) zC0))))))
  zAP)
 (zAe (zCg (zGU (zAV c_law_is_form.ok (hr.mono (by decide)) c_law_is_form.mg c_law_is_form.fn.kp (zGS c_law_is_form.fn) zAy (zAa (e_v 8) zAf) zAY))
  (zAk zMP)
  zAP)
 (zAk (zJp PassesOwn.never rfl (zF5 B.n_range (zAa (zCU zAi (zAV c_law_pull.ok (hr.mono (by decide)) c_law_pull.mg c_law_pull.fn.kp (zBo c_law_pull.fn) zAy (zAa (e_v 1) (zAa zAi zAf)) zAY)) zAf)) (zAx (i:=11) sc.nd rfl (by dsimp!))
  (zAk (zCg (zDb (zGU (zAV c_law_same.ok (hr.mono (by decide)) c_law_same.mg c_law_same.fn.kp (zCK c_law_same.fn) zAy (zAa (zD0 (e_v 2) T_Desk.cl T_Desk.m_say c_Desk_say_v1.ok (hr.mono (by omega)) (zBq c_Desk_say_v1.fn) zAy (zAa (e_v 8) zAf)) (zAa zAl zAf)) zAY)))
  (zAk (zAI zUk))
  zAP))))))))
 (zAe (zHq (i:=12) sc.nd rfl (by dsimp!) (zCV (zAw (zMs hg hr) zV1 B.n_repr (by decide+kernel) (zAa (zBx (zAa (zDh (zAA T_Desk.cl T_Desk.n_shop (e_v 2)) T_Shop.cl T_Shop.m_piece c_Shop_piece_v1.ok (hr.mono (by omega)) (zC5 c_Shop_piece_v1.fn) zAy) (zAa (zFw (W:=W0) (zDk (zCV (zAA T_Desk.cl T_Desk.n_shop (e_v 2))) T_Shop.cl T_Shop.m_mark c_Shop_mark_v1.ok (hr.mono (by omega)) zDa (zDq c_Shop_mark_v1.fn) zAy (zAa zAi zAf))) (zAa (zFw (W:=W0) (zDk (zCV (zAA T_Desk.cl T_Desk.n_shop (e_v 2))) T_Shop.cl T_Shop.m_word c_Shop_word.ok (hr.mono (by omega)) zDa (zEV c_Shop_word.fn) zAy (zAa zAi zAf))) (zAa (zDh (zAA T_Desk.cl T_Desk.n_shop (e_v 2)) T_Shop.cl T_Shop.m_deeds c_Shop_deeds_v1.ok (hr.mono (by omega)) (zC6 c_Shop_deeds_v1.fn) zAy) zAf))))) zAf))))
 (zAk (zAI (zM6 (zE7 (zHs hr) sEq (e_v 12) (e_v 5) (nomark _)) (zOK (zAV c_law_same.ok (hr.mono (by decide)) c_law_same.mg c_law_same.fn.kp (zCK c_law_same.fn) zAy (zAa (zBx (zAa (zD0 (e_v 2) T_Desk.cl T_Desk.m_say c_Desk_say_v1.ok (hr.mono (by omega)) (zBq c_Desk_say_v1.fn) zAy (zAa zAl zAf)) (zAa (zD0 (e_v 2) T_Desk.cl T_Desk.m_say c_Desk_say_v1.ok (hr.mono (by omega)) (zBq c_Desk_say_v1.fn) zAy (zAa zAl zAf)) (zAa (zD0 (e_v 2) T_Desk.cl T_Desk.m_say c_Desk_say_v1.ok (hr.mono (by omega)) (zBq c_Desk_say_v1.fn) zAy (zAa zAl zAf)) zAf)))) (zAa (zBx (zAa zAl (zAa zAl (zAa zAl zAf)))) zAf)) zAY))))))))))))
end
end
theorem zR2{P:Program}{w:World}{K:PySem.W.Frag}{mg:Str→Option Value}{base:Heap}{f:Addr}{fd:FuncData}(B:Bt K mg)(F:FD K "_law_same" "_law_same" zKK [] [] f fd)(m:mg "_law_same"=some (.ref f)):∀n,Df P w K mg base (n+1) zKK "_law_same" ["_law_found","_law_due"] [] [] (zHi n) f fd
 |0=>⟨F,zBQ F zS8 (by simp!) (zWT B (⟨F,zZ3,m⟩:Df P w K mg base 0 zKK "_law_same" ["_law_found","_law_due"] [] [] zST f fd)) zK3,m⟩
 |n+1=>⟨F,zBQ F zS8 (by simp!) (zWT B (zR2 B F m n)) (yCe n),m⟩
abbrev Tq(C_NoBreak C_BadBar C_BadPaper C_BadPlace C_BadStaff C_BadSpan C_BadThick C_BadWord C_Same C_Full C_BadDeed C_Nothing C_Stand C_Shop C_NoBar C_NoMoment C_NoMark C_NoLine B' M' A_DEEDS A_SIZES f_put_bar f_put_change f_put_cut f_put_move f_put_mark f_put_wipe f_put_end f_put_paper f_put_many C_Desk A_SINGLE A_FORMS f_zo f_marks_told f_layout_told f_cost_told f_undo_told f_redo_told f_zi f_zj f_ze f_zk:Addr):Tb:=⟨0,0,0,0,0,fun i=>[0,C_NoBreak,0,C_BadBar,0,0,0,0,C_BadPaper,0,C_BadPlace,C_BadStaff,C_BadSpan,C_BadThick,C_BadWord,C_Same,C_Full,C_BadDeed,C_Nothing,C_Stand,C_Shop,C_NoBar,C_NoMoment,C_NoMark,C_NoLine,B',M',A_DEEDS,A_SIZES,f_put_bar,f_put_change,f_put_cut,f_put_move,f_put_mark,f_put_wipe,f_put_end,f_put_paper,f_put_many,0,0,0,0,0,0,0,0,0,C_Desk,A_SINGLE,A_FORMS,f_zo,f_marks_told,f_layout_told,f_cost_told,f_undo_told,f_redo_told,f_zi,f_zj,f_ze,f_zk].getD i 0⟩
theorem zYm{l:PySem.W.OpenLaw}{w:World}{K:PySem.W.Frag}{h:Heap}{mg:Str→Option Value}(X:K.In h){C_Stand C_Shop C_Desk A_DEEDS A_FORMS A_SINGLE A_SIZES f_put_many f_marks_told f_layout_told f_cost_told B' fI_BurinError M' fI_Missing C_BadBar fI_BadBar C_BadDeed fI_BadDeed C_BadPaper fI_BadPaper C_BadPlace fI_BadPlace C_BadSpan fI_BadSpan C_BadStaff fI_BadStaff C_BadThick fI_BadThick C_BadWord fI_BadWord C_Full fI_Full C_NoBar fI_NoBar C_NoBreak fI_NoBreak C_NoLine fI_NoLine C_NoMark fI_NoMark C_NoMoment fI_NoMoment C_Nothing fI_Nothing C_Same fI_Same f_zv f_zt f_paper f_Shop_init f_Desk_init f_zw f_zm f_Shop_mark_v1 f_Stand_need_bar f_Shop_word f_zn f_zx f_za f_zab f_need_form f_need_deed f_zy f_zh f_zz f_need_music f_put_bar f_zf f_zac f_zg f_put_change f_put_cut f_put_move f_put_mark f_put_wipe f_put_end f_put_paper f_done f_Shop_do_v1 f_zq f_zad f_zo f_Shop_undo_v2 f_undo_told f_Shop_redo_v2 f_redo_told f_zc f_zd f_zp f_zaa f_zr f_zs f_zi f_zj f_ze f_zk f_answered f_zb f_zl f_zu:Addr}{fdI_BurinError fdI_Missing fdI_BadBar fdI_BadDeed fdI_BadPaper fdI_BadPlace fdI_BadSpan fdI_BadStaff fdI_BadThick fdI_BadWord fdI_Full fdI_NoBar fdI_NoBreak fdI_NoLine fdI_NoMark fdI_NoMoment fdI_Nothing fdI_Same fd_zv fd_zt fd_paper fd_Shop_init fd_Desk_init fd_zw fd_zm fd_Shop_mark_v1 fd_Stand_need_bar fd_Shop_word fd_zn fd_zx fd_za fd_zab fd_need_form fd_need_deed fd_zy fd_zh fd_zz fd_need_music fd_put_bar fd_zf fd_zac fd_zg fd_put_change fd_put_cut fd_put_move fd_put_mark fd_put_wipe fd_put_end fd_put_paper fd_done fd_Shop_do_v1 fd_zq fd_zad fd_zo fd_Shop_undo_v2 fd_undo_told fd_Shop_redo_v2 fd_redo_told fd_zc fd_zd fd_zp fd_zaa fd_zr fd_zs fd_zi fd_zj fd_ze fd_zk fd_answered fd_zb fd_zl fd_zu:FuncData}
  (T_Stand:Ob_Stand K mg C_Stand f_zt f_zab f_Stand_need_bar f_zf f_zac f_zg)
  (T_Shop:Ob_Shop K mg C_Shop f_Shop_init f_Shop_do_v1 f_Shop_undo_v2 f_Shop_redo_v2 f_zn f_zad f_Shop_word f_Shop_mark_v1 f_zm)
  (T_Desk:Ob_Desk K mg C_Desk f_Desk_init f_zb)
  (K_DEEDS:KTg K w mg "DEEDS" A_DEEDS (zJK (Tq C_NoBreak C_BadBar C_BadPaper C_BadPlace C_BadStaff C_BadSpan C_BadThick C_BadWord C_Same C_Full C_BadDeed C_Nothing C_Stand C_Shop C_NoBar C_NoMoment C_NoMark C_NoLine B' M' A_DEEDS A_SIZES f_put_bar f_put_change f_put_cut f_put_move f_put_mark f_put_wipe f_put_end f_put_paper f_put_many C_Desk A_SINGLE A_FORMS f_zo f_marks_told f_layout_told f_cost_told f_undo_told f_redo_told f_zi f_zj f_ze f_zk)))
  (K_FORMS:KTF K w mg "FORMS" A_FORMS (zFv (Tq C_NoBreak C_BadBar C_BadPaper C_BadPlace C_BadStaff C_BadSpan C_BadThick C_BadWord C_Same C_Full C_BadDeed C_Nothing C_Stand C_Shop C_NoBar C_NoMoment C_NoMark C_NoLine B' M' A_DEEDS A_SIZES f_put_bar f_put_change f_put_cut f_put_move f_put_mark f_put_wipe f_put_end f_put_paper f_put_many C_Desk A_SINGLE A_FORMS f_zo f_marks_told f_layout_told f_cost_told f_undo_told f_redo_told f_zi f_zj f_ze f_zk)))
  (K_SINGLE:KTF K w mg "SINGLE" A_SINGLE (zD5 (Tq C_NoBreak C_BadBar C_BadPaper C_BadPlace C_BadStaff C_BadSpan C_BadThick C_BadWord C_Same C_Full C_BadDeed C_Nothing C_Stand C_Shop C_NoBar C_NoMoment C_NoMark C_NoLine B' M' A_DEEDS A_SIZES f_put_bar f_put_change f_put_cut f_put_move f_put_mark f_put_wipe f_put_end f_put_paper f_put_many C_Desk A_SINGLE A_FORMS f_zo f_marks_told f_layout_told f_cost_told f_undo_told f_redo_told f_zi f_zj f_ze f_zk)))
  (K_SIZES:KTg K w mg "SIZES" A_SIZES (sizesT))
  (FBI:FD K "__init__" "BurinError.__init__" zAn [.str (PySem.Str.ofString "refused")] [] fI_BurinError fdI_BurinError)
  (CIB:CiC K mg "BurinError" B' fI_BurinError)
  (FMI:FD K "__init__" "Missing.__init__" zAT [.str (PySem.Str.ofString "missing")] [] fI_Missing fdI_Missing)
  (CIM:CiC K mg "Missing" M' fI_Missing)
  (FI_BadBar:FD K "__init__" "BadBar.__init__" zB3 [] [] fI_BadBar fdI_BadBar)
  (xa_BadBar:mg "BadBar"=some (.ref C_BadBar))
  (ox_BadBar:OexC K C_BadBar∧ErK K C_BadBar fI_BadBar ["says","place"])
  (FI_BadDeed:FD K "__init__" "BadDeed.__init__" zBH [] [] fI_BadDeed fdI_BadDeed)
  (xa_BadDeed:mg "BadDeed"=some (.ref C_BadDeed))
  (ox_BadDeed:OexC K C_BadDeed∧ErK K C_BadDeed fI_BadDeed ["says"])
  (FI_BadPaper:FD K "__init__" "BadPaper.__init__" zBl [] [] fI_BadPaper fdI_BadPaper)
  (xa_BadPaper:mg "BadPaper"=some (.ref C_BadPaper))
  (ox_BadPaper:OexC K C_BadPaper∧ErK K C_BadPaper fI_BadPaper ["says"])
  (FI_BadPlace:FD K "__init__" "BadPlace.__init__" zBk [] [] fI_BadPlace fdI_BadPlace)
  (xa_BadPlace:mg "BadPlace"=some (.ref C_BadPlace))
  (ox_BadPlace:OexC K C_BadPlace∧ErK K C_BadPlace fI_BadPlace ["says"])
  (FI_BadSpan:FD K "__init__" "BadSpan.__init__" zBG [] [] fI_BadSpan fdI_BadSpan)
  (xa_BadSpan:mg "BadSpan"=some (.ref C_BadSpan))
  (ox_BadSpan:OexC K C_BadSpan∧ErK K C_BadSpan fI_BadSpan ["says"])
  (FI_BadStaff:FD K "__init__" "BadStaff.__init__" zBj [] [] fI_BadStaff fdI_BadStaff)
  (xa_BadStaff:mg "BadStaff"=some (.ref C_BadStaff))
  (ox_BadStaff:OexC K C_BadStaff∧ErK K C_BadStaff fI_BadStaff ["says"])
  (FI_BadThick:FD K "__init__" "BadThick.__init__" zBi [] [] fI_BadThick fdI_BadThick)
  (xa_BadThick:mg "BadThick"=some (.ref C_BadThick))
  (ox_BadThick:OexC K C_BadThick∧ErK K C_BadThick fI_BadThick ["says"])
  (FI_BadWord:FD K "__init__" "BadWord.__init__" zBF [] [] fI_BadWord fdI_BadWord)
  (xa_BadWord:mg "BadWord"=some (.ref C_BadWord))
  (ox_BadWord:OexC K C_BadWord∧ErK K C_BadWord fI_BadWord ["says"])
  (FI_Full:FD K "__init__" "Full.__init__" zDe [] [] fI_Full fdI_Full)
  (xa_Full:mg "Full"=some (.ref C_Full))
  (ox_Full:OexC K C_Full∧ErK K C_Full fI_Full ["says"])
  (FI_NoBar:FD K "__init__" "NoBar.__init__" zCr [] [] fI_NoBar fdI_NoBar)
  (xa_NoBar:mg "NoBar"=some (.ref C_NoBar))
  (ox_NoBar:OexL K C_NoBar∧ErK K C_NoBar fI_NoBar ["says","number"])
  (FI_NoBreak:FD K "__init__" "NoBreak.__init__" zBE [] [] fI_NoBreak fdI_NoBreak)
  (xa_NoBreak:mg "NoBreak"=some (.ref C_NoBreak))
  (ox_NoBreak:OexC K C_NoBreak∧ErK K C_NoBreak fI_NoBreak ["says","tight"])
  (FI_NoLine:FD K "__init__" "NoLine.__init__" zB2 [] [] fI_NoLine fdI_NoLine)
  (xa_NoLine:mg "NoLine"=some (.ref C_NoLine))
  (ox_NoLine:OexL K C_NoLine∧ErK K C_NoLine fI_NoLine ["says","number"])
  (FI_NoMark:FD K "__init__" "NoMark.__init__" zB1 [] [] fI_NoMark fdI_NoMark)
  (xa_NoMark:mg "NoMark"=some (.ref C_NoMark))
  (ox_NoMark:OexL K C_NoMark∧ErK K C_NoMark fI_NoMark ["says","number"])
  (FI_NoMoment:FD K "__init__" "NoMoment.__init__" zBh [] [] fI_NoMoment fdI_NoMoment)
  (xa_NoMoment:mg "NoMoment"=some (.ref C_NoMoment))
  (ox_NoMoment:OexL K C_NoMoment∧ErK K C_NoMoment fI_NoMoment ["says","number"])
  (FI_Nothing:FD K "__init__" "Nothing.__init__" zBD [] [] fI_Nothing fdI_Nothing)
  (xa_Nothing:mg "Nothing"=some (.ref C_Nothing))
  (ox_Nothing:OexC K C_Nothing∧ErK K C_Nothing fI_Nothing ["says"])
  (FI_Same:FD K "__init__" "Same.__init__" zDd [] [] fI_Same fdI_Same)
  (xa_Same:mg "Same"=some (.ref C_Same))
  (ox_Same:OexC K C_Same∧ErK K C_Same fI_Same ["says"])
  (M_NoBar_BurinError:PySem.W.exmOne K (.ref C_NoBar) (.ref B')=some false)
  (M_NoLine_BurinError:PySem.W.exmOne K (.ref C_NoLine) (.ref B')=some false)
  (M_NoMark_BurinError:PySem.W.exmOne K (.ref C_NoMark) (.ref B')=some false)
  (M_NoMoment_BurinError:PySem.W.exmOne K (.ref C_NoMoment) (.ref B')=some false)
  (M_BadBar_BurinError:PySem.W.exmOne K (.ref C_BadBar) (.ref B')=some true)
  (M_BadDeed_BurinError:PySem.W.exmOne K (.ref C_BadDeed) (.ref B')=some true)
  (M_BadPaper_BurinError:PySem.W.exmOne K (.ref C_BadPaper) (.ref B')=some true)
  (M_BadPlace_BurinError:PySem.W.exmOne K (.ref C_BadPlace) (.ref B')=some true)
  (M_BadSpan_BurinError:PySem.W.exmOne K (.ref C_BadSpan) (.ref B')=some true)
  (M_BadStaff_BurinError:PySem.W.exmOne K (.ref C_BadStaff) (.ref B')=some true)
  (M_BadThick_BurinError:PySem.W.exmOne K (.ref C_BadThick) (.ref B')=some true)
  (M_BadWord_BurinError:PySem.W.exmOne K (.ref C_BadWord) (.ref B')=some true)
  (M_Full_BurinError:PySem.W.exmOne K (.ref C_Full) (.ref B')=some true)
  (M_NoBar_Missing:PySem.W.exmOne K (.ref C_NoBar) (.ref M')=some true)
  (M_NoBreak_BurinError:PySem.W.exmOne K (.ref C_NoBreak) (.ref B')=some true)
  (M_NoLine_Missing:PySem.W.exmOne K (.ref C_NoLine) (.ref M')=some true)
  (M_NoMark_Missing:PySem.W.exmOne K (.ref C_NoMark) (.ref M')=some true)
  (M_NoMoment_Missing:PySem.W.exmOne K (.ref C_NoMoment) (.ref M')=some true)
  (M_Nothing_BurinError:PySem.W.exmOne K (.ref C_Nothing) (.ref B')=some true)
  (M_Same_BurinError:PySem.W.exmOne K (.ref C_Same) (.ref B')=some true)
  (Z_BurinError:mg "BurinError"=some (.ref B'))
  (Z_Missing:mg "Missing"=some (.ref M'))
  (F_zv:FD K "_law_bag" "_law_bag" zQH [] [] f_zv fd_zv)
  (a_zv:mg "_law_bag"=some (.ref f_zv))
  (F_zt:FD K "__init__" "Stand.__init__" zQJ [] [] f_zt fd_zt)
  (F_paper:FD K "paper" "paper" zCP [] [("width",.int 120),("lines",.int 4),("fee",.int 10),("turn",.int 50),("gap",.int 5)] f_paper fd_paper)
  (a_paper:mg "paper_pager"=some (.ref f_paper))
  (F_Shop_init:FD K "__init__" "Shop.__init__" zBa [] [("width",.int 120),("lines",.int 4),("fee",.int 10),("turn",.int 50),("gap",.int 5)] f_Shop_init fd_Shop_init)
  (F_Desk_init:FD K "__init__" "Desk.__init__" zBb [] [("width",.int 120),("lines",.int 4)] f_Desk_init fd_Desk_init)
  (F_zw:FD K "_law_odd" "_law_odd" zQG [] [] f_zw fd_zw)
  (a_zw:mg "_law_odd"=some (.ref f_zw))
  (F_zm:FD K "piece" "Shop.piece" zPi [] [] f_zm fd_zm)
  (F_Shop_mark_v1:FD K "mark" "Shop.mark" zAN [] [] f_Shop_mark_v1 fd_Shop_mark_v1)
  (F_Stand_need_bar:FD K "need_bar" "Stand.need_bar" zAE [] [] f_Stand_need_bar fd_Stand_need_bar)
  (F_Shop_word:FD K "word" "Shop.word" zA9 [] [] f_Shop_word fd_Shop_word)
  (F_zn:FD K "deeds" "Shop.deeds" zPh [] [] f_zn fd_zn)
  (F_zx:FD K "_law_is_form" "_law_is_form" zQF [] [] f_zx fd_zx)
  (a_zx:mg "_law_is_form"=some (.ref f_zx))
  (F_za:FD K "_law_same" "_law_same" zKK [] [] f_za fd_za)
  (a_za:mg "_law_same"=some (.ref f_za))
  (F_zab:FD K "like" "Stand.like" zH7 [] [] f_zab fd_zab)
  (F_need_form:FD K "need_form" "need_form" zA7 [] [] f_need_form fd_need_form)
  (a_need_form:mg "need_form"=some (.ref f_need_form))
  (F_need_deed:FD K "need_deed" "need_deed" zA8 [] [] f_need_deed fd_need_deed)
  (a_need_deed:mg "need_deed"=some (.ref f_need_deed))
  (F_zy:FD K "good_head" "good_head" zQE [] [] f_zy fd_zy)
  (a_zy:mg "good_head"=some (.ref f_zy))
  (F_zh:FD K "good_moment" "good_moment" zNT [] [] f_zh fd_zh)
  (a_zh:mg "good_moment"=some (.ref f_zh))
  (F_zz:FD K "bar_fault" "bar_fault" zQD [] [] f_zz fd_zz)
  (a_zz:mg "bar_fault"=some (.ref f_zz))
  (F_need_music:FD K "need_music" "need_music" zAZ [] [] f_need_music fd_need_music)
  (a_need_music:mg "need_music"=some (.ref f_need_music))
  (F_put_bar:FD K "put_bar" "put_bar" zCc [] [] f_put_bar fd_put_bar)
  (a_put_bar:mg "put_bar"=some (.ref f_put_bar))
  (F_zf:FD K "spot" "Stand.spot" zQM [] [] f_zf fd_zf)
  (F_zac:FD K "lies" "Stand.lies" zH6 [] [] f_zac fd_zac)
  (F_zg:FD K "sweep" "Stand.sweep" zPj [] [] f_zg fd_zg)
  (F_put_change:FD K "put_change" "put_change" zA4 [] [] f_put_change fd_put_change)
  (a_put_change:mg "put_change"=some (.ref f_put_change))
  (F_put_cut:FD K "put_cut" "put_cut" zCb [] [] f_put_cut fd_put_cut)
  (a_put_cut:mg "put_cut"=some (.ref f_put_cut))
  (F_put_move:FD K "put_move" "put_move" zBM [] [] f_put_move fd_put_move)
  (a_put_move:mg "put_move"=some (.ref f_put_move))
  (F_put_mark:FD K "put_mark" "put_mark" zBN [] [] f_put_mark fd_put_mark)
  (a_put_mark:mg "put_mark"=some (.ref f_put_mark))
  (F_put_wipe:FD K "put_wipe" "put_wipe" zBL [] [] f_put_wipe fd_put_wipe)
  (a_put_wipe:mg "put_wipe"=some (.ref f_put_wipe))
  (F_put_end:FD K "put_end" "put_end" zCa [] [] f_put_end fd_put_end)
  (a_put_end:mg "put_end"=some (.ref f_put_end))
  (F_put_paper:FD K "put_paper" "put_paper" zBg [] [] f_put_paper fd_put_paper)
  (a_put_paper:mg "put_paper"=some (.ref f_put_paper))
  (F_done:FD K "done" "done" zEC [] [] f_done fd_done)
  (a_done:mg "done"=some (.ref f_done))
  (F_Shop_do_v1:FD K "do" "Shop.do" zAR [] [] f_Shop_do_v1 fd_Shop_do_v1)
  (F_zq:FD K "listed" "listed" zPg [] [] f_zq fd_zq)
  (a_zq:mg "listed"=some (.ref f_zq))
  (F_zad:FD K "bars" "Shop.bars" zH5 [] [] f_zad fd_zad)
  (F_zo:FD K "bars_told" "bars_told" zRX [] [] f_zo fd_zo)
  (a_zo:mg "bars_told"=some (.ref f_zo))
  (F_Shop_undo_v2:FD K "undo" "Shop.undo" zAL [] [] f_Shop_undo_v2 fd_Shop_undo_v2)
  (F_undo_told:FD K "undo_told" "undo_told" zBe [] [] f_undo_told fd_undo_told)
  (a_undo_told:mg "undo_told"=some (.ref f_undo_told))
  (F_Shop_redo_v2:FD K "redo" "Shop.redo" zAM [] [] f_Shop_redo_v2 fd_Shop_redo_v2)
  (F_redo_told:FD K "redo_told" "redo_told" zBf [] [] f_redo_told fd_redo_told)
  (a_redo_told:mg "redo_told"=some (.ref f_redo_told))
  (F_zc:FD K "number_in" "number_in" zPl [] [] f_zc fd_zc)
  (a_zc:mg "number_in"=some (.ref f_zc))
  (F_zd:FD K "numbers_in" "numbers_in" zPk [] [] f_zd fd_zd)
  (a_zd:mg "numbers_in"=some (.ref f_zd))
  (F_zp:FD K "pair_in" "pair_in" zQK [] [] f_zp fd_zp)
  (a_zp:mg "pair_in"=some (.ref f_zp))
  (F_zaa:FD K "head_in" "head_in" zH8 [] [] f_zaa fd_zaa)
  (a_zaa:mg "head_in"=some (.ref f_zaa))
  (F_zr:FD K "moment_in" "moment_in" zPf [] [] f_zr fd_zr)
  (a_zr:mg "moment_in"=some (.ref f_zr))
  (F_zs:FD K "music_in" "music_in" zPe [] [] f_zs fd_zs)
  (a_zs:mg "music_in"=some (.ref f_zs))
  (F_zi:FD K "music_deed" "music_deed" zR0 [] [] f_zi fd_zi)
  (a_zi:mg "music_deed"=some (.ref f_zi))
  (F_zj:FD K "mark_deed" "mark_deed" zRZ [] [] f_zj fd_zj)
  (a_zj:mg "mark_deed"=some (.ref f_zj))
  (F_ze:FD K "end_deed" "end_deed" zQN [] [] f_ze fd_ze)
  (a_ze:mg "end_deed"=some (.ref f_ze))
  (F_zk:FD K "plain_deed" "plain_deed" zRY [] [] f_zk fd_zk)
  (a_zk:mg "plain_deed"=some (.ref f_zk))
  (F_answered:FD K "answered" "answered" zBr [] [] f_answered fd_answered)
  (a_answered:mg "answered"=some (.ref f_answered))
  (F_zb:FD K "say" "Desk.say" zPm [] [] f_zb fd_zb)
  (F_zl:FD K "_law_pull" "_law_pull" zQL [] [] f_zl fd_zl)
  (a_zl:mg "_law_pull"=some (.ref f_zl))
  (F_zu:FD K "law" "law" zQI [] [] f_zu fd_zu)
  (a_zu:mg "law"=some (.ref f_zu))
  (B:Bt K mg):
  ∃(fd:FuncData) (cs:List (Addr×Addr×Str)) (sp:DSp),(∀p∈cs,h.get? p.2.1=some {cls:=.none,data:=.fields #[]})∧(∀p∈cs,K.lookup p.2.1=none)∧(∀p∈cs,PySem.W.CodeHd h p.1 p.2.1)∧(∀p∈cs,∀r∈cs,p.2.1=r.2.1→p.2.2=r.2.2)∧
   (∀(s:Shared) (u:Value),BindsTo s fd ⟨[u],[]⟩ [("_law_script",u)])∧(∀(ns:List Int) (O:Om) (R:D→Om→Prop) (Z:XD),ns.length≤63→(∀p∈cs,O p.2.1=some (.tab p.2.2))→(∀O',R (.bl true) O')→sp [.lst (ns.map D.int)] O R Z)∧
   ∀base:Heap,K.In base→base.Ns mainGlobals mg→(∀p∈cs,LamX.TabB base mg p.1 p.2.1)→FnOkG l.prog w K mg base 11 f_zu fd ["_law_script"] (zCx K sp):=by

 let tb:Tb:=Tq C_NoBreak C_BadBar C_BadPaper C_BadPlace C_BadStaff C_BadSpan C_BadThick C_BadWord C_Same C_Full C_BadDeed C_Nothing C_Stand C_Shop C_NoBar C_NoMoment C_NoMark C_NoLine B' M' A_DEEDS A_SIZES f_put_bar f_put_change f_put_cut f_put_move f_put_mark f_put_wipe f_put_end f_put_paper f_put_many C_Desk A_SINGLE A_FORMS f_zo f_marks_told f_layout_told f_cost_told f_undo_told f_redo_told f_zi f_zj f_ze f_zk
 have T_BadBar:∀base:Heap,Er1 l.prog w K mg base "BadBar" (PySem.Str.ofString "bad bar") "place" "place" C_BadBar fI_BadBar fdI_BadBar:=fun base=>{oex:=ox_BadBar.1,no:=ox_BadBar.2.no "says" (by simp),iC:=ox_BadBar.2.iC,tI:=ox_BadBar.2.tI,gC:=xa_BadBar,ok:=zKQ CIB FBI FI_BadBar,bn:=zNh FI_BadBar,xf:=ox_BadBar.2.xf,te:=ox_BadBar.2.te,no2:=ox_BadBar.2.no "place" (by simp)}
 have T_BadDeed:∀base:Heap,Er0 l.prog w K mg base "BadDeed" (PySem.Str.ofString "bad deed") C_BadDeed fI_BadDeed fdI_BadDeed:=fun base=>{oex:=ox_BadDeed.1,no:=ox_BadDeed.2.no "says" (by simp),iC:=ox_BadDeed.2.iC,tI:=ox_BadDeed.2.tI,gC:=xa_BadDeed,ok:=zJw CIB FBI FI_BadDeed,bn:=zLk FI_BadDeed,xf:=ox_BadDeed.2.xf,te:=ox_BadDeed.2.te}
 have T_BadPaper:∀base:Heap,Er0 l.prog w K mg base "BadPaper" (PySem.Str.ofString "bad paper") C_BadPaper fI_BadPaper fdI_BadPaper:=fun base=>{oex:=ox_BadPaper.1,no:=ox_BadPaper.2.no "says" (by simp),iC:=ox_BadPaper.2.iC,tI:=ox_BadPaper.2.tI,gC:=xa_BadPaper,ok:=zIk CIB FBI FI_BadPaper,bn:=zKi FI_BadPaper,xf:=ox_BadPaper.2.xf,te:=ox_BadPaper.2.te}
 have T_BadPlace:∀base:Heap,Er0 l.prog w K mg base "BadPlace" (PySem.Str.ofString "bad place") C_BadPlace fI_BadPlace fdI_BadPlace:=fun base=>{oex:=ox_BadPlace.1,no:=ox_BadPlace.2.no "says" (by simp),iC:=ox_BadPlace.2.iC,tI:=ox_BadPlace.2.tI,gC:=xa_BadPlace,ok:=zIj CIB FBI FI_BadPlace,bn:=zKh FI_BadPlace,xf:=ox_BadPlace.2.xf,te:=ox_BadPlace.2.te}
 have T_BadSpan:∀base:Heap,Er0 l.prog w K mg base "BadSpan" (PySem.Str.ofString "bad span") C_BadSpan fI_BadSpan fdI_BadSpan:=fun base=>{oex:=ox_BadSpan.1,no:=ox_BadSpan.2.no "says" (by simp),iC:=ox_BadSpan.2.iC,tI:=ox_BadSpan.2.tI,gC:=xa_BadSpan,ok:=zJv CIB FBI FI_BadSpan,bn:=zLj FI_BadSpan,xf:=ox_BadSpan.2.xf,te:=ox_BadSpan.2.te}
 have T_BadStaff:∀base:Heap,Er0 l.prog w K mg base "BadStaff" (PySem.Str.ofString "bad staff") C_BadStaff fI_BadStaff fdI_BadStaff:=fun base=>{oex:=ox_BadStaff.1,no:=ox_BadStaff.2.no "says" (by simp),iC:=ox_BadStaff.2.iC,tI:=ox_BadStaff.2.tI,gC:=xa_BadStaff,ok:=zIi CIB FBI FI_BadStaff,bn:=zKg FI_BadStaff,xf:=ox_BadStaff.2.xf,te:=ox_BadStaff.2.te}
 have T_BadThick:∀base:Heap,Er0 l.prog w K mg base "BadThick" (PySem.Str.ofString "bad thick") C_BadThick fI_BadThick fdI_BadThick:=fun base=>{oex:=ox_BadThick.1,no:=ox_BadThick.2.no "says" (by simp),iC:=ox_BadThick.2.iC,tI:=ox_BadThick.2.tI,gC:=xa_BadThick,ok:=zIh CIB FBI FI_BadThick,bn:=zKf FI_BadThick,xf:=ox_BadThick.2.xf,te:=ox_BadThick.2.te}
 have T_BadWord:∀base:Heap,Er0 l.prog w K mg base "BadWord" (PySem.Str.ofString "bad word") C_BadWord fI_BadWord fdI_BadWord:=fun base=>{oex:=ox_BadWord.1,no:=ox_BadWord.2.no "says" (by simp),iC:=ox_BadWord.2.iC,tI:=ox_BadWord.2.tI,gC:=xa_BadWord,ok:=zJu CIB FBI FI_BadWord,bn:=zLi FI_BadWord,xf:=ox_BadWord.2.xf,te:=ox_BadWord.2.te}
 have T_Full:∀base:Heap,Er0 l.prog w K mg base "Full" (PySem.Str.ofString "full") C_Full fI_Full fdI_Full:=fun base=>{oex:=ox_Full.1,no:=ox_Full.2.no "says" (by simp),iC:=ox_Full.2.iC,tI:=ox_Full.2.tI,gC:=xa_Full,ok:=zOe CIB FBI FI_Full,bn:=zRL FI_Full,xf:=ox_Full.2.xf,te:=ox_Full.2.te}
 have T_NoBar:∀base:Heap,ErL l.prog w K mg base "NoBar" (PySem.Str.ofString "no bar") C_NoBar fI_NoBar fdI_NoBar:=fun base=>{oel:=ox_NoBar.1,no:=ox_NoBar.2.no "says" (by simp),iC:=ox_NoBar.2.iC,tI:=ox_NoBar.2.tI,gC:=xa_NoBar,ok:=zMU CIM FMI FI_NoBar,bn:=zPa FI_NoBar,xf:=ox_NoBar.2.xf,te:=ox_NoBar.2.te,no2:=ox_NoBar.2.no "number" (by simp)}
 have T_NoBreak:∀base:Heap,Er1 l.prog w K mg base "NoBreak" (PySem.Str.ofString "no break") "tight" "tight" C_NoBreak fI_NoBreak fdI_NoBreak:=fun base=>{oex:=ox_NoBreak.1,no:=ox_NoBreak.2.no "says" (by simp),iC:=ox_NoBreak.2.iC,tI:=ox_NoBreak.2.tI,gC:=xa_NoBreak,ok:=zJt CIB FBI FI_NoBreak,bn:=zLh FI_NoBreak,xf:=ox_NoBreak.2.xf,te:=ox_NoBreak.2.te,no2:=ox_NoBreak.2.no "tight" (by simp)}
 have T_NoLine:∀base:Heap,ErL l.prog w K mg base "NoLine" (PySem.Str.ofString "no line") C_NoLine fI_NoLine fdI_NoLine:=fun base=>{oel:=ox_NoLine.1,no:=ox_NoLine.2.no "says" (by simp),iC:=ox_NoLine.2.iC,tI:=ox_NoLine.2.tI,gC:=xa_NoLine,ok:=zKP CIM FMI FI_NoLine,bn:=zNg FI_NoLine,xf:=ox_NoLine.2.xf,te:=ox_NoLine.2.te,no2:=ox_NoLine.2.no "number" (by simp)}
 have T_NoMark:∀base:Heap,ErL l.prog w K mg base "NoMark" (PySem.Str.ofString "no mark") C_NoMark fI_NoMark fdI_NoMark:=fun base=>{oel:=ox_NoMark.1,no:=ox_NoMark.2.no "says" (by simp),iC:=ox_NoMark.2.iC,tI:=ox_NoMark.2.tI,gC:=xa_NoMark,ok:=zKO CIM FMI FI_NoMark,bn:=zNf FI_NoMark,xf:=ox_NoMark.2.xf,te:=ox_NoMark.2.te,no2:=ox_NoMark.2.no "number" (by simp)}
 have T_NoMoment:∀base:Heap,ErL l.prog w K mg base "NoMoment" (PySem.Str.ofString "no moment") C_NoMoment fI_NoMoment fdI_NoMoment:=fun base=>{oel:=ox_NoMoment.1,no:=ox_NoMoment.2.no "says" (by simp),iC:=ox_NoMoment.2.iC,tI:=ox_NoMoment.2.tI,gC:=xa_NoMoment,ok:=zIg CIM FMI FI_NoMoment,bn:=zKe FI_NoMoment,xf:=ox_NoMoment.2.xf,te:=ox_NoMoment.2.te,no2:=ox_NoMoment.2.no "number" (by simp)}
 have T_Nothing:∀base:Heap,Er0 l.prog w K mg base "Nothing" (PySem.Str.ofString "nothing") C_Nothing fI_Nothing fdI_Nothing:=fun base=>{oex:=ox_Nothing.1,no:=ox_Nothing.2.no "says" (by simp),iC:=ox_Nothing.2.iC,tI:=ox_Nothing.2.tI,gC:=xa_Nothing,ok:=zJs CIB FBI FI_Nothing,bn:=zLg FI_Nothing,xf:=ox_Nothing.2.xf,te:=ox_Nothing.2.te}
 have T_Same:∀base:Heap,Er0 l.prog w K mg base "Same" (PySem.Str.ofString "same") C_Same fI_Same fdI_Same:=fun base=>{oex:=ox_Same.1,no:=ox_Same.2.no "says" (by simp),iC:=ox_Same.2.iC,tI:=ox_Same.2.tI,gC:=xa_Same,ok:=zOd CIB FBI FI_Same,bn:=zRK FI_Same,xf:=ox_Same.2.xf,te:=ox_Same.2.te}
 refine⟨fd_zu,[],zQg tb,(fun _ z=>nomatch z),(fun _ z=>nomatch z),(fun _ z=>nomatch z),(fun _ z=>nomatch z),fun s v=>(FunD.bindsA (ps:=["_law_script"]) F_zu fun _ _ _ _ _ _ us hl=>match us,hl with|[_],_=>rfl) s [v] rfl,fun ns O R Z hl ht hR=>zXw tb ns O R Z hl  hR,fun base _ _ tbs=>?_⟩
 have D_zv:Df l.prog w K mg base 1 zQH "_law_bag" ["_law_script"] [] [] zQf f_zv _:=⟨F_zv,zBQ F_zv zVC (by simp!) (zZG B) yBT,a_zv⟩
 have D_zt:Dm l.prog w K mg base 1 zQJ "__init__" "Stand.__init__" ["self","sheet"] [] [] (zNz tb) f_zt _:=⟨F_zt,zBQ F_zt zVE (by simp!) (zZI (tb:=tb) B T_Stand) (yBV tb)⟩
 have D_paper:DfXA l.prog w K mg base 4 zCP "paper_pager" "paper" ["width","lines","fee","turn","gap"] [] [("width",.int 120),("lines",.int 4),("fee",.int 10),("turn",.int 50),("gap",.int 5)] (zI8 tb) f_paper _:=⟨F_paper,zBc F_paper zLG (by simp!) (zWA (tb:=tb) B (T_BadPaper base)) (yAI tb),a_paper⟩
 have D_Shop_init:DmX l.prog w K mg base 5 zBa "__init__" "Shop.__init__" ["self","width","lines","fee","turn","gap"] [] [("width",.int 120),("lines",.int 4),("fee",.int 10),("turn",.int 50),("gap",.int 5)] (zLv tb) f_Shop_init _:=⟨F_Shop_init,zBc F_Shop_init zFo (by simp!) (zWu (tb:=tb) B T_Stand T_Shop D_zt D_paper) (yAC tb)⟩
 have D_Desk_init:DmX l.prog w K mg base 7 zBb "__init__" "Desk.__init__" ["self","width","lines"] [] [("width",.int 120),("lines",.int 4)] (zLs tb) f_Desk_init _:=⟨F_Desk_init,zBc F_Desk_init zFp (by simp!) (zWr (tb:=tb) B T_Shop T_Desk D_Shop_init) (yAz tb)⟩
 have D_zw:Df l.prog w K mg base 1 zQG "_law_odd" [] [] [] zQe f_zw _:=⟨F_zw,zBQ F_zw zVB (by simp!) (zZF B) yBS,a_zw⟩
 have D_zm:Dm l.prog w K mg base 1 zPi "piece" "Shop.piece" ["self"] [] [] (zME tb) f_zm _:=⟨F_zm,zBQ F_zm zVL (by simp!) (zZP (tb:=tb) B T_Stand T_Shop) (yB2 tb)⟩
 have D_Shop_mark_v1:DmX l.prog w K mg base 4 zAN "mark" "Shop.mark" ["self","number"] [] [] (zHj tb) f_Shop_mark_v1 _:=⟨F_Shop_mark_v1,zBc F_Shop_mark_v1 zDu (by simp!) (zWC (tb:=tb) B T_Stand T_Shop (T_NoMark base)) (yAK tb)⟩
 have D_Stand_need_bar:DmX l.prog w K mg base 4 zAE "need_bar" "Stand.need_bar" ["self","number"] [] [] (zEw tb) f_Stand_need_bar _:=⟨F_Stand_need_bar,zBc F_Stand_need_bar zCY (by simp!) (zWO (tb:=tb) B T_Stand (T_NoBar base)) (yAW tb)⟩
 have D_Shop_word:DmX l.prog w K mg base 5 zA9 "word" "Shop.word" ["self","number"] [] [] (zHk tb) f_Shop_word _:=⟨F_Shop_word,zBc F_Shop_word zFn (by simp!) (zWD (tb:=tb) B T_Stand T_Shop D_Stand_need_bar) (yAL tb)⟩
 have D_zn:Dm l.prog w K mg base 1 zPh "deeds" "Shop.deeds" ["self"] [] [] (zMD tb) f_zn _:=⟨F_zn,zBQ F_zn zVK (by simp!) (zZO (tb:=tb) B T_Shop) (yB1 tb)⟩
 have D_zx:Df l.prog w K mg base 1 zQF "_law_is_form" ["_law_text"] [] [] zQd f_zx _:=⟨F_zx,zBQ F_zx zVA (by simp!) (zZE B) yBR,a_zx⟩
 have D_za:=zR2 (P:=l.prog) (w:=w) (base:=base) B F_za a_za 9
 have D_zab:Dm l.prog w K mg base 3 zH7 "like" "Stand.like" ["self"] [] [] (zLz tb) f_zab _:=⟨F_zab,zBQ F_zab zRV (by simp!) (zWR (tb:=tb) B T_Stand D_zt) (yAZ tb)⟩
 have D_need_form:DfX l.prog w K mg base 4 zA7 "need_form" ["deed"] [] [] (zI7 tb) f_need_form _:=⟨F_need_form,zBc F_need_form zFl (by simp!) (zWz (tb:=tb) B (T_BadDeed base) K_SIZES) (yAH tb),a_need_form⟩
 have D_need_deed:DfX l.prog w K mg base 5 zA8 "need_deed" ["deed"] [] [] (zI6 tb) f_need_deed _:=⟨F_need_deed,zBc F_need_deed zFm (by simp!) (zWy (tb:=tb) B (T_BadDeed base) D_need_form) (yAG tb),a_need_deed⟩
 have D_zy:Df l.prog w K mg base 1 zQE "good_head" ["head"] [] [] zQc f_zy _:=⟨F_zy,zBQ F_zy zVz (by simp!) (zZD B) yBQ,a_zy⟩
 have D_zh:Df l.prog w K mg base 2 zNT "good_moment" ["moment"] [] [] zQl f_zh _:=⟨F_zh,zBQ F_zh zVQ (by simp!) (zZU B D_zy) yB7,a_zh⟩
 have D_zz:Df l.prog w K mg base 3 zQD "bar_fault" ["bar"] [] [] zQb f_zz _:=⟨F_zz,zBQ F_zz zVy (by simp!) (zZC B D_zh) yBP,a_zz⟩
 have D_need_music:DfX l.prog w K mg base 4 zAZ "need_music" ["moments"] [] [] (zI9 tb) f_need_music _:=⟨F_need_music,zBc F_need_music zEz (by simp!) (zWB (tb:=tb) B (T_BadBar base) D_zz) (yAJ tb),a_need_music⟩
 have D_put_bar:DfX l.prog w K mg base 5 zCc "put_bar" ["stand","deed"] [] [] (zGl tb) f_put_bar _:=⟨F_put_bar,zBc F_put_bar zHp (by simp!) (zWL (tb:=tb) B T_Stand (T_Full base) (T_BadPlace base) D_need_music) (yAT tb),a_put_bar⟩
 have D_zf:Dm l.prog w K mg base 1 zQM "spot" "Stand.spot" ["self","end"] [] [] (zHU tb) f_zf _:=⟨F_zf,zBQ F_zf zVS (by simp!) (zZW (tb:=tb) B T_Stand) (yB9 tb)⟩
 have D_zac:Dm l.prog w K mg base 2 zH6 "lies" "Stand.lies" ["self","span"] [] [] (zLy tb) f_zac _:=⟨F_zac,zBQ F_zac zRU (by simp!) (zWQ (tb:=tb) B T_Stand D_zf) (yAY tb)⟩
 have D_zg:Dm l.prog w K mg base 3 zPj "sweep" "Stand.sweep" ["self"] [] [] (zMF tb) f_zg _:=⟨F_zg,zBQ F_zg zVR (by simp!) (zZV (tb:=tb) B T_Stand D_zac) (yB8 tb)⟩
 have D_put_change:DfX l.prog w K mg base 5 zA4 "put_change" ["stand","deed"] [] [] (zGk tb) f_put_change _:=⟨F_put_change,zBc F_put_change zEy (by simp!) (zWK (tb:=tb) B T_Stand D_Stand_need_bar D_need_music D_zg) (yAS tb),a_put_change⟩
 have D_put_cut:DfX l.prog w K mg base 5 zCb "put_cut" ["stand","deed"] [] [] (zGj tb) f_put_cut _:=⟨F_put_cut,zBc F_put_cut zHo (by simp!) (zWJ (tb:=tb) B T_Stand D_Stand_need_bar D_zg) (yAR tb),a_put_cut⟩
 have D_put_move:DfX l.prog w K mg base 5 zBM "put_move" ["stand","deed"] [] [] (zGi tb) f_put_move _:=⟨F_put_move,zBc F_put_move zGp (by simp!) (zWI (tb:=tb) B T_Stand D_Stand_need_bar (T_BadPlace base) D_zg) (yAQ tb),a_put_move⟩
 have D_put_mark:DfX l.prog w K mg base 5 zBN "put_mark" ["stand","deed"] [] [] (zGe tb) f_put_mark _:=⟨F_put_mark,zBc F_put_mark zGq (by simp!) (zWE (tb:=tb) B T_Stand D_Stand_need_bar (T_Full base) D_zf (T_NoMoment base) (T_BadThick base) (T_BadStaff base) (T_BadSpan base)) (yAM tb),a_put_mark⟩
 have D_put_wipe:DfX l.prog w K mg base 4 zBL "put_wipe" ["stand","deed"] [] [] (zGh tb) f_put_wipe _:=⟨F_put_wipe,zBc F_put_wipe zGo (by simp!) (zWH (tb:=tb) B T_Stand (T_NoMark base)) (yAP tb),a_put_wipe⟩
 have D_put_end:DfX l.prog w K mg base 5 zCa "put_end" ["stand","deed"] [] [] (zGf tb) f_put_end _:=⟨F_put_end,zBc F_put_end zHn (by simp!) (zWF (tb:=tb) B T_Stand D_Stand_need_bar (T_Same base) (T_BadWord base)) (yAN tb),a_put_end⟩
 have D_put_paper:DfX l.prog w K mg base 5 zBg "put_paper" ["stand","deed"] [] [] (zGg tb) f_put_paper _:=⟨F_put_paper,zBc F_put_paper zFk (by simp!) (zWG (tb:=tb) B T_Stand D_paper) (yAO tb),a_put_paper⟩
 have D_done:DfX l.prog w K mg base 6 zEC "done" ["stand","deed"] [] [] (zLw tb) f_done _:=⟨F_done,zBc F_done zNQ (by simp!) (zWv (tb:=tb) B (qa.mpr ⟨⟨⟨_,_,_,by decide,D_put_bar.ok,F_put_bar.kp,zLc F_put_bar⟩⟩,(qa.mpr ⟨⟨⟨_,_,_,by decide,D_put_change.ok,F_put_change.kp,zG9 F_put_change⟩⟩,(qa.mpr ⟨⟨⟨_,_,_,by decide,D_put_cut.ok,F_put_cut.kp,zLb F_put_cut⟩⟩,(qa.mpr ⟨⟨⟨_,_,_,by decide,D_put_move.ok,F_put_move.kp,zJ8 F_put_move⟩⟩,(qa.mpr ⟨⟨⟨_,_,_,by decide,D_put_mark.ok,F_put_mark.kp,zJ9 F_put_mark⟩⟩,(qa.mpr ⟨⟨⟨_,_,_,by decide,D_put_wipe.ok,F_put_wipe.kp,zJ7 F_put_wipe⟩⟩,(qa.mpr ⟨⟨⟨_,_,_,by decide,D_put_end.ok,F_put_end.kp,zLa F_put_end⟩⟩,(qa.mpr ⟨⟨⟨_,_,_,by decide,D_put_paper.ok,F_put_paper.kp,zIM F_put_paper⟩⟩,(fun _ z=>nomatch z)⟩)⟩)⟩)⟩)⟩)⟩)⟩)⟩) K_DEEDS D_need_deed) (yAD tb),a_done⟩
 have D_Shop_do_v1:DmX l.prog w K mg base 7 zAR "do" "Shop.do" ["self","deed"] [] [] (zLu tb) f_Shop_do_v1 _:=⟨F_Shop_do_v1,zBc F_Shop_do_v1 zEA (by simp!) (zWt (tb:=tb) B T_Stand T_Shop D_need_deed D_zab D_done) (yAB tb)⟩
 have D_zq:Df l.prog w K mg base 1 zPg "listed" ["row"] [] [] zQj f_zq _:=⟨F_zq,zBQ F_zq zVH (by simp!) (zZL B) yBY,a_zq⟩
 have D_zad:Dm l.prog w K mg base 1 zH5 "bars" "Shop.bars" ["self"] [] [] (zLx tb) f_zad _:=⟨F_zad,zBQ F_zad zRT (by simp!) (zWP (tb:=tb) B T_Stand T_Shop) (yAX tb)⟩
 have D_zo:Df l.prog w K mg base 2 zRX "bars_told" ["shop"] [] [] (zQk tb) f_zo _:=⟨F_zo,zBQ F_zo zVJ (by simp!) (zZN (tb:=tb) B T_Shop D_zq D_zad) (yB0 tb),a_zo⟩
 have D_Shop_undo_v2:DmX l.prog w K mg base 4 zAL "undo" "Shop.undo" ["self"] [] [] (zI5 tb) f_Shop_undo_v2 _:=⟨F_Shop_undo_v2,zBc F_Shop_undo_v2 zDs (by simp!) (zWx (tb:=tb) B T_Shop (T_Nothing base)) (yAF tb)⟩
 have D_undo_told:DfX l.prog w K mg base 5 zBe "undo_told" ["shop"] [] [] (zFg tb) f_undo_told _:=⟨F_undo_told,zBc F_undo_told zFi (by simp!) (zWN (tb:=tb) B T_Shop D_Shop_undo_v2) (yAV tb),a_undo_told⟩
 have D_Shop_redo_v2:DmX l.prog w K mg base 4 zAM "redo" "Shop.redo" ["self"] [] [] (zI4 tb) f_Shop_redo_v2 _:=⟨F_Shop_redo_v2,zBc F_Shop_redo_v2 zDt (by simp!) (zWw (tb:=tb) B T_Shop (T_Nothing base)) (yAE tb)⟩
 have D_redo_told:DfX l.prog w K mg base 5 zBf "redo_told" ["shop"] [] [] (zFf tb) f_redo_told _:=⟨F_redo_told,zBc F_redo_told zFj (by simp!) (zWM (tb:=tb) B T_Shop D_Shop_redo_v2) (yAU tb),a_redo_told⟩
 have D_zc:Df l.prog w K mg base 1 zPl "number_in" ["word"] [] [] zKx f_zc _:=⟨F_zc,zBQ F_zc zVV (by simp!) (zZZ B) yCc,a_zc⟩
 have D_zd:Df l.prog w K mg base 2 zPk "numbers_in" ["words"] [] [] zKw f_zd _:=⟨F_zd,zBQ F_zd zVU (by simp!) (zZY B D_zc) yCb,a_zd⟩
 have D_zp:Df l.prog w K mg base 3 zQK "pair_in" ["word"] [] [] zMC f_zp _:=⟨F_zp,zBQ F_zp zVI (by simp!) (zZM B D_zd) yBZ,a_zp⟩
 have D_zaa:Df l.prog w K mg base 3 zH8 "head_in" ["word"] [] [] zLA f_zaa _:=⟨F_zaa,zBQ F_zaa zRW (by simp!) (zWS B D_zd) yA0,a_zaa⟩
 have D_zr:Df l.prog w K mg base 4 zPf "moment_in" ["word"] [] [] zQi f_zr _:=⟨F_zr,zBQ F_zr zVG (by simp!) (zZK B D_zp D_zaa) yBX,a_zr⟩
 have D_zs:Df l.prog w K mg base 5 zPe "music_in" ["words"] [] [] zQh f_zs _:=⟨F_zs,zBQ F_zs zVF (by simp!) (zZJ B D_zr) yBW,a_zs⟩
 have D_zi:Df l.prog w K mg base 6 zR0 "music_deed" ["words"] [] [] zNC f_zi _:=⟨F_zi,zBQ F_zi zVP (by simp!) (zZT B D_zc D_zs) yB6,a_zi⟩
 have D_zj:Df l.prog w K mg base 4 zRZ "mark_deed" ["words"] [] [] zNB f_zj _:=⟨F_zj,zBQ F_zj zVO (by simp!) (zZS B D_zd D_zp) yB5,a_zj⟩
 have D_ze:Df l.prog w K mg base 2 zQN "end_deed" ["words"] [] [] zND f_ze _:=⟨F_ze,zBQ F_ze zVT (by simp!) (zZX B D_zc) yCa,a_ze⟩
 have D_zk:Df l.prog w K mg base 3 zRY "plain_deed" ["words"] [] [] zNA f_zk _:=⟨F_zk,zBQ F_zk zVN (by simp!) (zZR B D_zd) yB4,a_zk⟩
 have D_answered:DfX l.prog w K mg base 8 zBr "answered" ["shop","words"] [] [] (zLt tb) f_answered _:=⟨F_answered,zBc F_answered zGr (by simp!) (zWs (tb:=tb) B T_Shop D_zc (qa.mpr ⟨⟨⟨_,_,_,by decide,(zPt D_zo.ok),F_zo.kp,zIQ F_zo⟩⟩,(qa.mpr ⟨⟨⟨_,_,_,by decide,D_undo_told.ok,F_undo_told.kp,zIK F_undo_told⟩⟩,(qa.mpr ⟨⟨⟨_,_,_,by decide,D_redo_told.ok,F_redo_told.kp,zIL F_redo_told⟩⟩,(fun _ z=>nomatch z)⟩)⟩)⟩) (qa.mpr ⟨⟨⟨_,_,_,by decide,(zPt D_zi.ok),F_zi.kp,zHb F_zi⟩⟩,(qa.mpr ⟨⟨⟨_,_,_,by decide,(zPt D_zj.ok),F_zj.kp,zIO F_zj⟩⟩,(qa.mpr ⟨⟨⟨_,_,_,by decide,(zPt D_ze.ok),F_ze.kp,zKc F_ze⟩⟩,(qa.mpr ⟨⟨⟨_,_,_,by decide,(zPt D_zk.ok),F_zk.kp,zHa F_zk⟩⟩,(fun _ z=>nomatch z)⟩)⟩)⟩)⟩) K_SINGLE K_FORMS D_Shop_do_v1) (yAA tb),a_answered⟩
 have D_zb:Dm l.prog w K mg base 9 zPm "say" "Desk.say" ["self","line"] [] [] (zEv tb) f_zb _:=⟨F_zb,zBQ F_zb zVW (by simp!) (zZ0 (tb:=tb) B (T_BadPaper base) T_Desk (T_NoMark base) (T_NoBar base) (T_BadDeed base) (T_BadBar base) (T_Full base) (T_BadPlace base) (T_NoMoment base) (T_BadThick base) (T_BadStaff base) (T_BadSpan base) (T_Same base) (T_BadWord base) (T_Nothing base) M_NoBar_BurinError M_NoLine_BurinError M_NoMark_BurinError M_NoMoment_BurinError M_BadBar_BurinError M_BadDeed_BurinError M_BadPaper_BurinError M_BadPlace_BurinError M_BadSpan_BurinError M_BadStaff_BurinError M_BadThick_BurinError M_BadWord_BurinError M_Full_BurinError M_NoBar_Missing M_NoBreak_BurinError M_NoLine_Missing M_NoMark_Missing M_NoMoment_Missing M_Nothing_BurinError M_Same_BurinError Z_BurinError Z_Missing (T_NoLine base) (T_NoBreak base) D_answered) (yCd tb)⟩
 have D_zl:Df l.prog w K mg base 1 zQL "_law_pull" ["_law_bag_here","_law_sides"] [] [] zGX f_zl _:=⟨F_zl,zBQ F_zl zVM (by simp!) (zZQ B) yB3,a_zl⟩
 have D_zu:DfG l.prog w K mg base 11 zQI "law" ["_law_script"] [] [] (zQg tb) f_zu _:=⟨F_zu,zXv F_zu zVD (by simp!) (zZH (tb:=tb) B T_Shop T_Desk D_zv D_Desk_init D_za D_zb D_zm D_Shop_mark_v1 D_Shop_word D_zn D_zw D_zl D_zx) (yBU tb),a_zu⟩
 exact D_zu.ok
theorem facts{w:World}{K:PySem.W.Frag}{h:Heap}{mg:Str→Option Value}{fa:Addr}(KX:K.In h)(G:h.Ns mainGlobals mg)(hmg:mg "law"=some (.ref fa))(c:He.SaysX fas dds tas tfs (zUZ exs) w h K):
  ∃(fd:FuncData) (cs:List (Addr×Addr×Str)) (sp:DSp),(∀p∈cs,h.get? p.2.1=some {cls:=.none,data:=.fields #[]})∧(∀p∈cs,K.lookup p.2.1=none)∧(∀p∈cs,PySem.W.CodeHd h p.1 p.2.1)∧(∀p∈cs,∀r∈cs,p.2.1=r.2.1→p.2.2=r.2.2)∧
   (∀(s:Shared) (u:Value),BindsTo s fd ⟨[u],[]⟩ [("_law_script",u)])∧(∀(ns:List Int) (O:Om) (R:D→Om→Prop) (Z:XD),ns.length≤63→(∀p∈cs,O p.2.1=some (.tab p.2.2))→(∀O',R (.bl true) O')→sp [.lst (ns.map D.int)] O R Z)∧
   ∀base:Heap,K.In base→base.Ns mainGlobals mg→(∀p∈cs,LamX.TabB base mg p.1 p.2.1)→FnOkG PySem.Challenge.rw_burinleaf_k63_lines_of_no_form.prog w K mg base 11 fa fd ["_law_script"] (zCx K sp):=by
 obtain⟨fdI_BurinError,FBI⟩:=c.t.d.def_ 0 (d:=zEQ) rfl
 obtain⟨fdI_Missing,FMI⟩:=c.t.d.def_ 1 (d:=zHH) rfl
 obtain⟨fdI_BadBar,FI_BadBar⟩:=c.t.d.def_ 2 (d:=zJZ) rfl
 obtain⟨fdI_BadDeed,FI_BadDeed⟩:=c.t.d.def_ 3 (d:=zHK) rfl
 obtain⟨fdI_BadPaper,FI_BadPaper⟩:=c.t.d.def_ 4 (d:=zGO) rfl
 obtain⟨fdI_BadPlace,FI_BadPlace⟩:=c.t.d.def_ 5 (d:=zGN) rfl
 obtain⟨fdI_BadSpan,FI_BadSpan⟩:=c.t.d.def_ 6 (d:=zHJ) rfl
 obtain⟨fdI_BadStaff,FI_BadStaff⟩:=c.t.d.def_ 7 (d:=zGM) rfl
 obtain⟨fdI_BadThick,FI_BadThick⟩:=c.t.d.def_ 8 (d:=zGL) rfl
 obtain⟨fdI_BadWord,FI_BadWord⟩:=c.t.d.def_ 9 (d:=zHI) rfl
 obtain⟨fdI_Full,FI_Full⟩:=c.t.d.def_ 10 (d:=zO0) rfl
 obtain⟨fdI_NoBar,FI_NoBar⟩:=c.t.d.def_ 11 (d:=zMo) rfl
 obtain⟨fdI_NoBreak,FI_NoBreak⟩:=c.t.d.def_ 12 (d:=zHG) rfl
 obtain⟨fdI_NoLine,FI_NoLine⟩:=c.t.d.def_ 13 (d:=zJY) rfl
 obtain⟨fdI_NoMark,FI_NoMark⟩:=c.t.d.def_ 14 (d:=zJX) rfl
 obtain⟨fdI_NoMoment,FI_NoMoment⟩:=c.t.d.def_ 15 (d:=zGK) rfl
 obtain⟨fdI_Nothing,FI_Nothing⟩:=c.t.d.def_ 16 (d:=zHF) rfl
 obtain⟨fdI_Same,FI_Same⟩:=c.t.d.def_ 17 (d:=zOZ) rfl
 obtain⟨fd_zv,F_zv⟩:=c.t.d.def_ 18 (d:=zXN) rfl
 obtain⟨fd_zt,F_zt⟩:=c.t.d.def_ 19 (d:=zXP) rfl
 obtain⟨fd_paper,F_paper⟩:=c.t.d.def_ 20 (d:=zMj) rfl
 obtain⟨fd_Shop_init,F_Shop_init⟩:=c.t.d.def_ 21 (d:=zFD) rfl
 obtain⟨fd_Desk_init,F_Desk_init⟩:=c.t.d.def_ 22 (d:=zFE) rfl
 obtain⟨fd_zw,F_zw⟩:=c.t.d.def_ 23 (d:=zXM) rfl
 obtain⟨fd_zm,F_zm⟩:=c.t.d.def_ 24 (d:=zXW) rfl
 obtain⟨fd_Shop_mark_v1,F_Shop_mark_v1⟩:=c.t.d.def_ 25 (d:=zDF) rfl
 obtain⟨fd_Stand_need_bar,F_Stand_need_bar⟩:=c.t.d.def_ 26 (d:=zC2) rfl
 obtain⟨fd_Shop_word,F_Shop_word⟩:=c.t.d.def_ 27 (d:=zFC) rfl
 obtain⟨fd_zn,F_zn⟩:=c.t.d.def_ 28 (d:=zXV) rfl
 obtain⟨fd_zx,F_zx⟩:=c.t.d.def_ 29 (d:=zXL) rfl
 obtain⟨fd_za,F_za⟩:=c.t.d.def_ 30 (d:=zX8) rfl
 obtain⟨fd_zab,F_zab⟩:=c.t.d.def_ 31 (d:=zSt) rfl
 obtain⟨fd_need_form,F_need_form⟩:=c.t.d.def_ 32 (d:=zFA) rfl
 obtain⟨fd_need_deed,F_need_deed⟩:=c.t.d.def_ 33 (d:=zFB) rfl
 obtain⟨fd_zy,F_zy⟩:=c.t.d.def_ 34 (d:=zXK) rfl
 obtain⟨fd_zh,F_zh⟩:=c.t.d.def_ 35 (d:=zX1) rfl
 obtain⟨fd_zz,F_zz⟩:=c.t.d.def_ 36 (d:=zXJ) rfl
 obtain⟨fd_need_music,F_need_music⟩:=c.t.d.def_ 37 (d:=zEL) rfl
 obtain⟨fd_put_bar,F_put_bar⟩:=c.t.d.def_ 38 (d:=zHD) rfl
 obtain⟨fd_zf,F_zf⟩:=c.t.d.def_ 39 (d:=zX3) rfl
 obtain⟨fd_zac,F_zac⟩:=c.t.d.def_ 40 (d:=zSs) rfl
 obtain⟨fd_zg,F_zg⟩:=c.t.d.def_ 41 (d:=zX2) rfl
 obtain⟨fd_put_change,F_put_change⟩:=c.t.d.def_ 42 (d:=zEK) rfl
 obtain⟨fd_put_cut,F_put_cut⟩:=c.t.d.def_ 43 (d:=zHC) rfl
 obtain⟨fd_put_move,F_put_move⟩:=c.t.d.def_ 44 (d:=zGE) rfl
 obtain⟨fd_put_mark,F_put_mark⟩:=c.t.d.def_ 45 (d:=zGF) rfl
 obtain⟨fd_put_wipe,F_put_wipe⟩:=c.t.d.def_ 46 (d:=zGD) rfl
 obtain⟨fd_put_end,F_put_end⟩:=c.t.d.def_ 47 (d:=zHB) rfl
 obtain⟨fd_put_paper,F_put_paper⟩:=c.t.d.def_ 48 (d:=zFz) rfl
 obtain⟨fd_done,F_done⟩:=c.t.d.def_ 49 (d:=zOR) rfl
 obtain⟨fd_Shop_do_v1,F_Shop_do_v1⟩:=c.t.d.def_ 50 (d:=zEM) rfl
 obtain⟨fd_zq,F_zq⟩:=c.t.d.def_ 51 (d:=zXS) rfl
 obtain⟨fd_zad,F_zad⟩:=c.t.d.def_ 52 (d:=zSr) rfl
 obtain⟨fd_zo,F_zo⟩:=c.t.d.def_ 53 (d:=zXU) rfl
 obtain⟨fd_Shop_undo_v2,F_Shop_undo_v2⟩:=c.t.d.def_ 54 (d:=zDD) rfl
 obtain⟨fd_undo_told,F_undo_told⟩:=c.t.d.def_ 55 (d:=zFx) rfl
 obtain⟨fd_Shop_redo_v2,F_Shop_redo_v2⟩:=c.t.d.def_ 56 (d:=zDE) rfl
 obtain⟨fd_redo_told,F_redo_told⟩:=c.t.d.def_ 57 (d:=zFy) rfl
 obtain⟨fd_zc,F_zc⟩:=c.t.d.def_ 58 (d:=zX6) rfl
 obtain⟨fd_zd,F_zd⟩:=c.t.d.def_ 59 (d:=zX5) rfl
 obtain⟨fd_zp,F_zp⟩:=c.t.d.def_ 60 (d:=zXT) rfl
 obtain⟨fd_zaa,F_zaa⟩:=c.t.d.def_ 61 (d:=zSu) rfl
 obtain⟨fd_zr,F_zr⟩:=c.t.d.def_ 62 (d:=zXR) rfl
 obtain⟨fd_zs,F_zs⟩:=c.t.d.def_ 63 (d:=zXQ) rfl
 obtain⟨fd_zi,F_zi⟩:=c.t.d.def_ 64 (d:=zX0) rfl
 obtain⟨fd_zj,F_zj⟩:=c.t.d.def_ 65 (d:=zXZ) rfl
 obtain⟨fd_ze,F_ze⟩:=c.t.d.def_ 66 (d:=zX4) rfl
 obtain⟨fd_zk,F_zk⟩:=c.t.d.def_ 67 (d:=zXY) rfl
 obtain⟨fd_answered,F_answered⟩:=c.t.d.def_ 68 (d:=zGG) rfl
 obtain⟨fd_zb,F_zb⟩:=c.t.d.def_ 69 (d:=zX7) rfl
 obtain⟨fd_zl,F_zl⟩:=c.t.d.def_ 70 (d:=zXX) rfl
 obtain⟨fd_zu,F_zu⟩:=c.t.d.def_ 71 (d:=zXO) rfl
 have ea:=hmg.symm.trans (He.glo_ok KX G (c.t.d.fact 111 (f:=.glo "law") rfl))
 cases ea
 exact zYm (l:=PySem.Challenge.rw_burinleaf_k63_lines_of_no_form) KX ⟨(He.cls_ok (c.t.d.fact 1 (f:=.cls "Stand") rfl)),(He.mkr_ok (c.t.d.fact 2 (f:=.mkr "Stand") rfl)),(He.glo_ok KX G (c.t.d.fact 0 (f:=.glo "Stand") rfl)),(He.noat_ok (c.t.d.fact 3 (f:=.noat "Stand" "sheet") rfl)),(He.noat_ok (c.t.d.fact 4 (f:=.noat "Stand" "order") rfl)),(He.noat_ok (c.t.d.fact 5 (f:=.noat "Stand" "music") rfl)),(He.noat_ok (c.t.d.fact 6 (f:=.noat "Stand" "spans") rfl)),(He.noat_ok (c.t.d.fact 7 (f:=.noat "Stand" "bound") rfl)),(He.noat_ok (c.t.d.fact 8 (f:=.noat "Stand" "fresh") rfl)),(He.meth_ok (c.t.d.fact 9 (f:=.meth "Stand" "like") rfl)),(He.meth_ok (c.t.d.fact 10 (f:=.meth "Stand" "need_bar") rfl)),(He.meth_ok (c.t.d.fact 11 (f:=.meth "Stand" "spot") rfl)),(He.meth_ok (c.t.d.fact 12 (f:=.meth "Stand" "lies") rfl)),(He.meth_ok (c.t.d.fact 13 (f:=.meth "Stand" "sweep") rfl))⟩ ⟨(He.cls_ok (c.t.d.fact 15 (f:=.cls "Shop") rfl)),(He.mkr_ok (c.t.d.fact 16 (f:=.mkr "Shop") rfl)),(He.glo_ok KX G (c.t.d.fact 14 (f:=.glo "Shop") rfl)),(He.noat_ok (c.t.d.fact 17 (f:=.noat "Shop" "now") rfl)),(He.noat_ok (c.t.d.fact 18 (f:=.noat "Shop" "past") rfl)),(He.noat_ok (c.t.d.fact 19 (f:=.noat "Shop" "gone") rfl)),(He.meth_ok (c.t.d.fact 20 (f:=.meth "Shop" "do") rfl)),(He.meth_ok (c.t.d.fact 21 (f:=.meth "Shop" "undo") rfl)),(He.meth_ok (c.t.d.fact 22 (f:=.meth "Shop" "redo") rfl)),(He.meth_ok (c.t.d.fact 23 (f:=.meth "Shop" "deeds") rfl)),(He.meth_ok (c.t.d.fact 24 (f:=.meth "Shop" "bars") rfl)),(He.meth_ok (c.t.d.fact 25 (f:=.meth "Shop" "word") rfl)),(He.meth_ok (c.t.d.fact 26 (f:=.meth "Shop" "mark") rfl)),(He.meth_ok (c.t.d.fact 27 (f:=.meth "Shop" "piece") rfl))⟩ ⟨(He.cls_ok (c.t.d.fact 29 (f:=.cls "Desk") rfl)),(He.mkr_ok (c.t.d.fact 30 (f:=.mkr "Desk") rfl)),(He.glo_ok KX G (c.t.d.fact 28 (f:=.glo "Desk") rfl)),(He.noat_ok (c.t.d.fact 31 (f:=.noat "Desk" "shop") rfl)),(He.meth_ok (c.t.d.fact 32 (f:=.meth "Desk" "say") rfl))⟩ (KTg.of2 (c.t.tab 0 rfl) (He.glo_ok KX G (c.t.d.fact 33 (f:=.glo "DEEDS") rfl)) (qa.mpr ⟨(zAU (zAm c.more 8 (f:=fun K=>zCs K "DEEDS" "bar" "put_bar") rfl)),(qa.mpr ⟨(zAU (zAm c.more 7 (f:=fun K=>zCs K "DEEDS" "change" "put_change") rfl)),(qa.mpr ⟨(zAU (zAm c.more 6 (f:=fun K=>zCs K "DEEDS" "cut" "put_cut") rfl)),(qa.mpr ⟨(zAU (zAm c.more 5 (f:=fun K=>zCs K "DEEDS" "move" "put_move") rfl)),(qa.mpr ⟨(zAU (zAm c.more 4 (f:=fun K=>zCs K "DEEDS" "mark" "put_mark") rfl)),(qa.mpr ⟨(zAU (zAm c.more 3 (f:=fun K=>zCs K "DEEDS" "wipe" "put_wipe") rfl)),(qa.mpr ⟨(zAU (zAm c.more 2 (f:=fun K=>zCs K "DEEDS" "end" "put_end") rfl)),(qa.mpr ⟨(zAU (zAm c.more 1 (f:=fun K=>zCs K "DEEDS" "paper" "put_paper") rfl)),(qa.mpr ⟨(zAU (zAm c.more 0 (f:=fun K=>zCs K "DEEDS" "many" "put_many") rfl)),(fun _ z=>nomatch z)⟩)⟩)⟩)⟩)⟩)⟩)⟩)⟩)⟩)) (KTF.of (SaysT.dic c.t 1 rfl) (He.glo_ok KX G (c.t.d.fact 34 (f:=.glo "FORMS") rfl)) (qa.mpr ⟨(zAU (zAm c.more 16 (f:=fun K=>zCs K "FORMS" "bar" "music_deed") rfl)),(qa.mpr ⟨(zAU (zAm c.more 15 (f:=fun K=>zCs K "FORMS" "change" "music_deed") rfl)),(qa.mpr ⟨(zAU (zAm c.more 14 (f:=fun K=>zCs K "FORMS" "mark" "mark_deed") rfl)),(qa.mpr ⟨(zAU (zAm c.more 13 (f:=fun K=>zCs K "FORMS" "end" "end_deed") rfl)),(qa.mpr ⟨(zAU (zAm c.more 12 (f:=fun K=>zCs K "FORMS" "cut" "plain_deed") rfl)),(qa.mpr ⟨(zAU (zAm c.more 11 (f:=fun K=>zCs K "FORMS" "move" "plain_deed") rfl)),(qa.mpr ⟨(zAU (zAm c.more 10 (f:=fun K=>zCs K "FORMS" "wipe" "plain_deed") rfl)),(qa.mpr ⟨(zAU (zAm c.more 9 (f:=fun K=>zCs K "FORMS" "paper" "plain_deed") rfl)),(fun _ z=>nomatch z)⟩)⟩)⟩)⟩)⟩)⟩)⟩)⟩)) (KTF.of (SaysT.dic c.t 2 rfl) (He.glo_ok KX G (c.t.d.fact 35 (f:=.glo "SINGLE") rfl)) (qa.mpr ⟨(zAU (zAm c.more 22 (f:=fun K=>zCs K "SINGLE" "bars" "bars_told") rfl)),(qa.mpr ⟨(zAU (zAm c.more 21 (f:=fun K=>zCs K "SINGLE" "marks" "marks_told") rfl)),(qa.mpr ⟨(zAU (zAm c.more 20 (f:=fun K=>zCs K "SINGLE" "layout" "layout_told") rfl)),(qa.mpr ⟨(zAU (zAm c.more 19 (f:=fun K=>zCs K "SINGLE" "cost" "cost_told") rfl)),(qa.mpr ⟨(zAU (zAm c.more 18 (f:=fun K=>zCs K "SINGLE" "undo" "undo_told") rfl)),(qa.mpr ⟨(zAU (zAm c.more 17 (f:=fun K=>zCs K "SINGLE" "redo" "redo_told") rfl)),(fun _ z=>nomatch z)⟩)⟩)⟩)⟩)⟩)⟩)) (KTg.of2 (c.t.tab 3 rfl) (He.glo_ok KX G (c.t.d.fact 36 (f:=.glo "SIZES") rfl)) (qa.mpr ⟨(zDg (zAm c.more 34 (f:=fun K=>zHA K "SIZES" "bar" 3) rfl)),(qa.mpr ⟨(zDg (zAm c.more 33 (f:=fun K=>zHA K "SIZES" "change" 3) rfl)),(qa.mpr ⟨(zDg (zAm c.more 32 (f:=fun K=>zHA K "SIZES" "cut" 2) rfl)),(qa.mpr ⟨(zDg (zAm c.more 31 (f:=fun K=>zHA K "SIZES" "move" 3) rfl)),(qa.mpr ⟨(zDg (zAm c.more 30 (f:=fun K=>zHA K "SIZES" "mark" 5) rfl)),(qa.mpr ⟨(zDg (zAm c.more 29 (f:=fun K=>zHA K "SIZES" "wipe" 2) rfl)),(qa.mpr ⟨(zDg (zAm c.more 28 (f:=fun K=>zHA K "SIZES" "end" 3) rfl)),(qa.mpr ⟨(zDg (zAm c.more 27 (f:=fun K=>zHA K "SIZES" "paper" 6) rfl)),(qa.mpr ⟨(zDg (zAm c.more 26 (f:=fun K=>zHA K "SIZES" "many" 2) rfl)),(qa.mpr ⟨(zK0 (zAm c.more 25 (f:=fun K=>zUc K "SIZES" "Bar") rfl)),(qa.mpr ⟨(zK0 (zAm c.more 24 (f:=fun K=>zUc K "SIZES" "Cut") rfl)),(qa.mpr ⟨(zK0 (zAm c.more 23 (f:=fun K=>zUc K "SIZES" "strike") rfl)),(fun _ z=>nomatch z)⟩)⟩)⟩)⟩)⟩)⟩)⟩)⟩)⟩)⟩)⟩)⟩)) FBI (zO3 (He.glo_ok KX G (c.t.d.fact 37 (f:=.glo "BurinError") rfl)) (zAm c.more 35 (f:=fun K=>zYg K (He.ga K "BurinError")) rfl)) FMI (zO3 (He.glo_ok KX G (c.t.d.fact 38 (f:=.glo "Missing") rfl)) (zAm c.more 36 (f:=fun K=>zYg K (He.ga K "Missing")) rfl)) FI_BadBar (He.glo_ok KX G (c.t.d.fact 39 (f:=.glo "BadBar") rfl)) (zCk (zAm c.more 37 (f:=fun K=>zFT K (He.ga K "BadBar") ["says","place"]) rfl)) FI_BadDeed (He.glo_ok KX G (c.t.d.fact 40 (f:=.glo "BadDeed") rfl)) (zCk (zAm c.more 38 (f:=fun K=>zFT K (He.ga K "BadDeed") ["says"]) rfl)) FI_BadPaper (He.glo_ok KX G (c.t.d.fact 41 (f:=.glo "BadPaper") rfl)) (zCk (zAm c.more 39 (f:=fun K=>zFT K (He.ga K "BadPaper") ["says"]) rfl)) FI_BadPlace (He.glo_ok KX G (c.t.d.fact 42 (f:=.glo "BadPlace") rfl)) (zCk (zAm c.more 40 (f:=fun K=>zFT K (He.ga K "BadPlace") ["says"]) rfl)) FI_BadSpan (He.glo_ok KX G (c.t.d.fact 43 (f:=.glo "BadSpan") rfl)) (zCk (zAm c.more 41 (f:=fun K=>zFT K (He.ga K "BadSpan") ["says"]) rfl)) FI_BadStaff (He.glo_ok KX G (c.t.d.fact 44 (f:=.glo "BadStaff") rfl)) (zCk (zAm c.more 42 (f:=fun K=>zFT K (He.ga K "BadStaff") ["says"]) rfl)) FI_BadThick (He.glo_ok KX G (c.t.d.fact 45 (f:=.glo "BadThick") rfl)) (zCk (zAm c.more 43 (f:=fun K=>zFT K (He.ga K "BadThick") ["says"]) rfl)) FI_BadWord (He.glo_ok KX G (c.t.d.fact 46 (f:=.glo "BadWord") rfl)) (zCk (zAm c.more 44 (f:=fun K=>zFT K (He.ga K "BadWord") ["says"]) rfl)) FI_Full (He.glo_ok KX G (c.t.d.fact 47 (f:=.glo "Full") rfl)) (zCk (zAm c.more 45 (f:=fun K=>zFT K (He.ga K "Full") ["says"]) rfl)) FI_NoBar (He.glo_ok KX G (c.t.d.fact 48 (f:=.glo "NoBar") rfl)) (zIx (zAm c.more 46 (f:=fun K=>zRq K (He.ga K "NoBar") ["says","number"]) rfl)) FI_NoBreak (He.glo_ok KX G (c.t.d.fact 49 (f:=.glo "NoBreak") rfl)) (zCk (zAm c.more 47 (f:=fun K=>zFT K (He.ga K "NoBreak") ["says","tight"]) rfl)) FI_NoLine (He.glo_ok KX G (c.t.d.fact 50 (f:=.glo "NoLine") rfl)) (zIx (zAm c.more 48 (f:=fun K=>zRq K (He.ga K "NoLine") ["says","number"]) rfl)) FI_NoMark (He.glo_ok KX G (c.t.d.fact 51 (f:=.glo "NoMark") rfl)) (zIx (zAm c.more 49 (f:=fun K=>zRq K (He.ga K "NoMark") ["says","number"]) rfl)) FI_NoMoment (He.glo_ok KX G (c.t.d.fact 52 (f:=.glo "NoMoment") rfl)) (zIx (zAm c.more 50 (f:=fun K=>zRq K (He.ga K "NoMoment") ["says","number"]) rfl)) FI_Nothing (He.glo_ok KX G (c.t.d.fact 53 (f:=.glo "Nothing") rfl)) (zCk (zAm c.more 51 (f:=fun K=>zFT K (He.ga K "Nothing") ["says"]) rfl)) FI_Same (He.glo_ok KX G (c.t.d.fact 54 (f:=.glo "Same") rfl)) (zCk (zAm c.more 52 (f:=fun K=>zFT K (He.ga K "Same") ["says"]) rfl)) (He.exm_ok (c.t.d.fact 55 (f:=.exm "NoBar" "BurinError" false) rfl)) (He.exm_ok (c.t.d.fact 56 (f:=.exm "NoLine" "BurinError" false) rfl)) (He.exm_ok (c.t.d.fact 57 (f:=.exm "NoMark" "BurinError" false) rfl)) (He.exm_ok (c.t.d.fact 58 (f:=.exm "NoMoment" "BurinError" false) rfl)) (He.exm_ok (c.t.d.fact 59 (f:=.exm "BadBar" "BurinError" true) rfl)) (He.exm_ok (c.t.d.fact 60 (f:=.exm "BadDeed" "BurinError" true) rfl)) (He.exm_ok (c.t.d.fact 61 (f:=.exm "BadPaper" "BurinError" true) rfl)) (He.exm_ok (c.t.d.fact 62 (f:=.exm "BadPlace" "BurinError" true) rfl)) (He.exm_ok (c.t.d.fact 63 (f:=.exm "BadSpan" "BurinError" true) rfl)) (He.exm_ok (c.t.d.fact 64 (f:=.exm "BadStaff" "BurinError" true) rfl)) (He.exm_ok (c.t.d.fact 65 (f:=.exm "BadThick" "BurinError" true) rfl)) (He.exm_ok (c.t.d.fact 66 (f:=.exm "BadWord" "BurinError" true) rfl)) (He.exm_ok (c.t.d.fact 67 (f:=.exm "Full" "BurinError" true) rfl)) (He.exm_ok (c.t.d.fact 68 (f:=.exm "NoBar" "Missing" true) rfl)) (He.exm_ok (c.t.d.fact 69 (f:=.exm "NoBreak" "BurinError" true) rfl)) (He.exm_ok (c.t.d.fact 70 (f:=.exm "NoLine" "Missing" true) rfl)) (He.exm_ok (c.t.d.fact 71 (f:=.exm "NoMark" "Missing" true) rfl)) (He.exm_ok (c.t.d.fact 72 (f:=.exm "NoMoment" "Missing" true) rfl)) (He.exm_ok (c.t.d.fact 73 (f:=.exm "Nothing" "BurinError" true) rfl)) (He.exm_ok (c.t.d.fact 74 (f:=.exm "Same" "BurinError" true) rfl)) (He.glo_ok KX G (c.t.d.fact 37 (f:=.glo "BurinError") rfl)) (He.glo_ok KX G (c.t.d.fact 38 (f:=.glo "Missing") rfl)) F_zv (He.glo_ok KX G (c.t.d.fact 75 (f:=.glo "_law_bag") rfl)) F_zt F_paper (He.glo_ok KX G (c.t.d.fact 76 (f:=.glo "paper_pager") rfl)) F_Shop_init F_Desk_init F_zw (He.glo_ok KX G (c.t.d.fact 77 (f:=.glo "_law_odd") rfl)) F_zm F_Shop_mark_v1 F_Stand_need_bar F_Shop_word F_zn F_zx (He.glo_ok KX G (c.t.d.fact 78 (f:=.glo "_law_is_form") rfl)) F_za (He.glo_ok KX G (c.t.d.fact 79 (f:=.glo "_law_same") rfl)) F_zab F_need_form (He.glo_ok KX G (c.t.d.fact 80 (f:=.glo "need_form") rfl)) F_need_deed (He.glo_ok KX G (c.t.d.fact 81 (f:=.glo "need_deed") rfl)) F_zy (He.glo_ok KX G (c.t.d.fact 82 (f:=.glo "good_head") rfl)) F_zh (He.glo_ok KX G (c.t.d.fact 83 (f:=.glo "good_moment") rfl)) F_zz (He.glo_ok KX G (c.t.d.fact 84 (f:=.glo "bar_fault") rfl)) F_need_music (He.glo_ok KX G (c.t.d.fact 85 (f:=.glo "need_music") rfl)) F_put_bar (He.glo_ok KX G (c.t.d.fact 86 (f:=.glo "put_bar") rfl)) F_zf F_zac F_zg F_put_change (He.glo_ok KX G (c.t.d.fact 87 (f:=.glo "put_change") rfl)) F_put_cut (He.glo_ok KX G (c.t.d.fact 88 (f:=.glo "put_cut") rfl)) F_put_move (He.glo_ok KX G (c.t.d.fact 89 (f:=.glo "put_move") rfl)) F_put_mark (He.glo_ok KX G (c.t.d.fact 90 (f:=.glo "put_mark") rfl)) F_put_wipe (He.glo_ok KX G (c.t.d.fact 91 (f:=.glo "put_wipe") rfl)) F_put_end (He.glo_ok KX G (c.t.d.fact 92 (f:=.glo "put_end") rfl)) F_put_paper (He.glo_ok KX G (c.t.d.fact 93 (f:=.glo "put_paper") rfl)) F_done (He.glo_ok KX G (c.t.d.fact 94 (f:=.glo "done") rfl)) F_Shop_do_v1 F_zq (He.glo_ok KX G (c.t.d.fact 95 (f:=.glo "listed") rfl)) F_zad F_zo (He.glo_ok KX G (c.t.d.fact 96 (f:=.glo "bars_told") rfl)) F_Shop_undo_v2 F_undo_told (He.glo_ok KX G (c.t.d.fact 97 (f:=.glo "undo_told") rfl)) F_Shop_redo_v2 F_redo_told (He.glo_ok KX G (c.t.d.fact 98 (f:=.glo "redo_told") rfl)) F_zc (He.glo_ok KX G (c.t.d.fact 99 (f:=.glo "number_in") rfl)) F_zd (He.glo_ok KX G (c.t.d.fact 100 (f:=.glo "numbers_in") rfl)) F_zp (He.glo_ok KX G (c.t.d.fact 101 (f:=.glo "pair_in") rfl)) F_zaa (He.glo_ok KX G (c.t.d.fact 102 (f:=.glo "head_in") rfl)) F_zr (He.glo_ok KX G (c.t.d.fact 103 (f:=.glo "moment_in") rfl)) F_zs (He.glo_ok KX G (c.t.d.fact 104 (f:=.glo "music_in") rfl)) F_zi (He.glo_ok KX G (c.t.d.fact 105 (f:=.glo "music_deed") rfl)) F_zj (He.glo_ok KX G (c.t.d.fact 106 (f:=.glo "mark_deed") rfl)) F_ze (He.glo_ok KX G (c.t.d.fact 107 (f:=.glo "end_deed") rfl)) F_zk (He.glo_ok KX G (c.t.d.fact 108 (f:=.glo "plain_deed") rfl)) F_answered (He.glo_ok KX G (c.t.d.fact 109 (f:=.glo "answered") rfl)) F_zb F_zl (He.glo_ok KX G (c.t.d.fact 110 (f:=.glo "_law_pull") rfl)) F_zu (He.glo_ok KX G (c.t.d.fact 111 (f:=.glo "law") rfl)) ⟨(He.free_ok KX G (c.t.d.fact 112 (f:=.free "abs") rfl)),(He.free_ok KX G (c.t.d.fact 113 (f:=.free "all") rfl)),(He.free_ok KX G (c.t.d.fact 114 (f:=.free "bool") rfl)),(He.free_ok KX G (c.t.d.fact 115 (f:=.free "dict") rfl)),(He.free_ok KX G (c.t.d.fact 116 (f:=.free "enumerate") rfl)),(He.free_ok KX G (c.t.d.fact 117 (f:=.free "int") rfl)),(He.free_ok KX G (c.t.d.fact 118 (f:=.free "isinstance") rfl)),(He.free_ok KX G (c.t.d.fact 119 (f:=.free "len") rfl)),(He.free_ok KX G (c.t.d.fact 120 (f:=.free "list") rfl)),(He.free_ok KX G (c.t.d.fact 121 (f:=.free "range") rfl)),(He.free_ok KX G (c.t.d.fact 122 (f:=.free "repr") rfl)),(He.free_ok KX G (c.t.d.fact 123 (f:=.free "str") rfl)),(He.free_ok KX G (c.t.d.fact 124 (f:=.free "tuple") rfl)),(GC.tupB (He.glo_ok KX G (c.t.d.fact 125 (f:=.glo "BOUND") rfl)) (zAm c.more 53 (f:=fun K=>He.tupB K "BOUND" [.str (PySem.Str.ofString "must"),.str (PySem.Str.ofString "never")]) rfl) fun _=>.cons (.str _) (.cons (.str _) (.nil))),(GC.strE (He.str_ok KX G (c.t.d.fact 126 (f:=.str "FIGURES" (PySem.Str.ofString "0123456789")) rfl))),(GC.strE (He.str_ok KX G (c.t.d.fact 127 (f:=.str "FREE" (PySem.Str.ofString "free")) rfl))),(GC.intE (He.int_ok KX G (c.t.d.fact 128 (f:=.int "HIGHEST" 12) rfl))),(GC.intE (He.int_ok KX G (c.t.d.fact 129 (f:=.int "LAST_STAFF" 3) rfl))),(GC.strE (He.str_ok KX G (c.t.d.fact 130 (f:=.str "LETTERS" (PySem.Str.ofString "abcdefghijklmnopqrstuvwxyz")) rfl))),(GC.intE (He.int_ok KX G (c.t.d.fact 131 (f:=.int "LONGEST" 8) rfl))),(GC.intE (He.int_ok KX G (c.t.d.fact 132 (f:=.int "MOST_BARS" 12) rfl))),(GC.intE (He.int_ok KX G (c.t.d.fact 133 (f:=.int "MOST_BEATS" 32) rfl))),(GC.intE (He.int_ok KX G (c.t.d.fact 134 (f:=.int "MOST_COST" 999) rfl))),(GC.intE (He.int_ok KX G (c.t.d.fact 135 (f:=.int "MOST_FIGURES" 9) rfl))),(GC.intE (He.int_ok KX G (c.t.d.fact 136 (f:=.int "MOST_HEADS" 8) rfl))),(GC.intE (He.int_ok KX G (c.t.d.fact 137 (f:=.int "MOST_LINES" 6) rfl))),(GC.intE (He.int_ok KX G (c.t.d.fact 138 (f:=.int "MOST_MARKS" 20) rfl))),(GC.intE (He.int_ok KX G (c.t.d.fact 139 (f:=.int "MOST_MOMENTS" 6) rfl))),(GC.intE (He.int_ok KX G (c.t.d.fact 140 (f:=.int "MOST_THICK" 9) rfl))),(GC.intE (He.int_ok KX G (c.t.d.fact 141 (f:=.int "MOST_WORD" 40) rfl))),(GC.intE (He.int_ok KX G (c.t.d.fact 142 (f:=.int "NARROWEST" 20) rfl))),(GC.tupB (He.glo_ok KX G (c.t.d.fact 143 (f:=.glo "SIGNS") rfl)) (zAm c.more 54 (f:=fun K=>He.tupB K "SIGNS" [.str (PySem.Str.ofString ""),.str (PySem.Str.ofString "s"),.str (PySem.Str.ofString "f"),.str (PySem.Str.ofString "n")]) rfl) fun _=>.cons (.str _) (.cons (.str _) (.cons (.str _) (.cons (.str _) (.nil))))),(GC.intE (He.int_ok KX G (c.t.d.fact 144 (f:=.int "WIDEST" 400) rfl)))⟩
end Lw
open PySem PySem.W PyProof.Rows
set_option maxHeartbeats 0 in
theorem PySem.Challenge.cw_burinleaf_k63_lines_of_no_form_holds : PySem.Challenge.rw_burinleaf_k63_lines_of_no_form.Holds := by
 w_on
 refine PySem.W.holds_law Lw.said fun _=>?_
 refine HandSHeadRun.head_any (r:=OpenLaw.row PySem.Challenge.rw_burinleaf_k63_lines_of_no_form) (q:=view (OpenLaw.row PySem.Challenge.rw_burinleaf_k63_lines_of_no_form).prog [171]) (H:=Lw.hk) (ob:=Lw.ob) (M:=14000) (loose:=Lw.nms) (d:=HandSHeadRun.topDef (OpenLaw.row PySem.Challenge.rw_burinleaf_k63_lines_of_no_form).prog 171) (kwd:=[]) Lw.ob_eq
  (by kernel_rfl) (fun s=>by kernel_rfl) Lw.run_a (by kernel_rfl) (by kernel_rfl) (by kernel_rfl) (by rfl) (by first|assumption|decide+kernel) (by decide+kernel) Lw.wt_bare ?hw ?hc
 case hw=>w_witness2
 case hc=>
  refine DL.walkGX (l:=PySem.Challenge.rw_burinleaf_k63_lines_of_no_form) (n:=63) (k:=11) (x:="_law_script") rfl (by decide) (by kernel_rfl) ⟨rfl,by decide,by decide⟩ ?F
  intro w mg fa h Y G hmg0
  obtain⟨K,KX,c⟩:=Y
  have hmg:mg ("law":PySem.Str)=some (.ref fa):=by
   have e:(HandSHeadRun.topDef (OpenLaw.row PySem.Challenge.rw_burinleaf_k63_lines_of_no_form).prog 171).name=("law":PySem.Str):=by kernel_rfl
   rw[←e]
   exact hmg0
  exact⟨K,KX,Lw.facts KX G hmg c⟩
