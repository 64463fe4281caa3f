import PyProof.Rows.All
import Wide.All
import OpenK.AllK
import Wide.FinOn
import KE.KStateDown
import HandS.Base
import HandS.Call
import HandS.Ends
import HandS.More
import HandS.Words
import HandS.WordsExc
import HandS.Defaults
import HandS.Head0
import HandS.Head1
import HandS.Head2
import HandS.HeadEnd
import HandS.HeadHook1
import HandS.HeadHook2
import HandS.HeadHook3
import HandS.HeadHook4
import HandS.EndTab
import HandS.HeadWalk
import HandS.Comp
import HandS.List
import HandS.Iter
import HandS.TupSets
import HandS.Wide
import HandS.Deep
import HandS.Sort
import HandS.Text
import HandS.IsInst
import HandS.Conv
import KE.SortData
import HandS.Zip
import HandS.ExcCtx
import HandS.ExcOwn
import HandS.ExcField
import HandS.Exc
import HandS.Style
import PyProof.AutoSeq1
import HandS.MakeKwOnly
import HandS.Strs
import HandS.TupAny
import HandS.TupLe
import HandS.SetBool
import KE.SortKeyHeap
import HandS.Lambda
import HandS.SortKw
import KE.KSortKey
import KE.DataMinKey
import KE.DataMinMax
import KE.GoesEnumKw
import HandS.SetFor
import HandS.TryMany
import HandS.ExcInit
import HandS.ClsMeth
import HandS.Dict
import HandS.WordsDict
import KE.KUnpackStar
import KE.KDictZip
import HandS.DictComp
import KE.KDictDisplayH
import KE.GoesMore
import KE.GoesZip
import HandS.NoneIn
import HandS.FStr
import HandS.RaiseMore
import HandS.Hot
import HandS.HotCalls
import HandS.ExcIs
import KE.KIntText
import PyProof.StrLawsTight
import PyProof.Rows.StrItems
import HandS.RaiseFrom
import HandS.ExcInitHot
import HandS.Finally
import KE.KFinally
import PyProof.RulesAs
import PySem.Challenge.RW_scalesheet_k25_chains_and_their_needs
set_option Elab.async false
set_option linter.all false
set_option maxRecDepth 100000
namespace PySem.DLK
open PySem
def zrE:List Value:=[.type "KeyError",.type "LookupError",.type "Exception",.type "BaseException",.type "object"]
def znE:List Value→Bool
 | .ref _::r=>znE r
 | l=>l == zrE
end PySem.DLK
set_option maxHeartbeats 0
set_option synthInstance.maxSize 4096
set_option synthInstance.maxHeartbeats 400000
set_option exponentiation.threshold 50000
namespace DL
open PySem PySem.Spec PyProof.Rows L2
def zpO:Stmt→List Stmt
 | .ClassDef (body:=b) ..=>b
 | _=>[]
def ze1 (tf:List He.Defn) (K:PySem.W.Frag):Bool:=decide ((tf.map fun p=>(He.cT K p).2).Nodup)
def zmo:List (Str×List Str):=(["BadNumber","BadRow","BadTolerance","BadGap","BadSize","BadLetter","BadPlaces","BadSymbols","BadChain","BadWindow","BadName","BadLine","BadRank","BadScale","BadDeed","Taken","Full","Meets","Same","Apart","Unruly","TooMany","Nothing","BadWork","BadPage","Broken"]:List Str).map (fun x=>(x,([x,"SheetError"]:List Str)))++
 (["NoLine","NoCorner","NoPlace","NoScale"]:List Str).map (fun x=>(x,([x,"Missing"]:List Str)))
def zrF (K:PySem.W.Frag) (C:Addr):Bool:=match K.lookup C with
 | some ⟨.type "type",_,.cls cd,sl⟩=>(match cd.mro,sl.toList with
  | .ref C'::bm,[_,_,_,_,some (.builtin n),_]=>C' == C&&(n == "ValueError.__new__"&&(!cd.hasDel&&(cd.hasDict&&PySem.HandSPX.refsVE bm)))
  | _,_=>false)
 | _=>false
def znF (K:PySem.W.Frag) (x:Str) (fs:List Str):Bool:=zrF K (He.ga K x)&&(He.eqO (PySem.W.findIn K (.ref (He.ga K x)) "__setattr__") (some (some (.builtin "object.__setattr__")))&&(decide (PySem.W.subIn K (.ref (He.ga K x)) (.type "BaseException")=some true)&&
 (decide (PySem.W.typeIn K (.ref (He.ga K x))=some (.type "type"))&&(PySem.W.keepIn K (.ref (He.ga K x))&&(He.eqO (PySem.W.findIn K (.ref (He.ga K x)) "__init__") (some (some (.ref (He.ma K (He.ga K x) "__init__"))))&&
 (decide (PySem.W.typeIn K (.ref (He.ma K (He.ga K x) "__init__"))=some (.type "function"))&&fs.all fun f=>He.eqO (PySem.W.findIn K (.ref (He.ga K x)) f) (some none)))))))
def zrG (K:PySem.W.Frag) (x m:Str):Bool:=PySem.W.readsIn K (He.ga K x) (.type "type")&&(He.eqO (PySem.W.specialIn K (.ref (He.ga K x)) "__getattribute__") (some (some (.builtin "type.__getattribute__")))&&
 ((match PySem.W.findCls K (.ref (He.ga K x)) (.type "type") m with | some (.val v)=>decide (v=.ref (He.ma K (He.ga K x) m)) | _=>false)&&PySem.W.keepIn K (.ref (He.ma K (He.ga K x) m))))
def zrH (K:PySem.W.Frag):Bool:=match PySem.W.findCls K (.type "ValueError") (.type "type") "__init__" with | some (.val v)=>decide (v=.builtin "ValueError.__init__") | _=>false
def zsV (K:PySem.W.Frag) (hs:List Str):Bool:=(hs.all fun n=>He.eqO (PySem.W.nsIn K mainGlobals n) (some (some (.ref (He.ga K n)))))&&zmo.all fun p=>He.eqO (PySem.W.nsIn K mainGlobals p.1) (some none)||
 (He.eqO (PySem.W.nsIn K mainGlobals p.1) (some (some (.ref (He.ga K p.1))))&&hs.all fun n=>decide (PySem.W.exmOne K (.ref (He.ga K p.1)) (.ref (He.ga K n))=some (p.2.contains n)))
def frS (g:Addr→Option Obj) (n:Nat):PySem.W.Frag:=He.frT g (List.range' 0 n)
theorem zrI {n:Nat} {h:Heap}:(frS h.get? n).In h:=He.frT_in
section
variable (n:Nat) (fa:List He.Fa) (fn:List He.DefD) (ts:List He.Tab) (tf:List He.Defn) (ex:PySem.W.Frag→Bool)
def znG (g:Addr→Option Obj):He.AlX:=(He.obsT fa fn ts (frS g n),ex (frS g n)&&He.tabsB g tf (frS g n))
variable {n fa fn ts tf ex}
theorem zsW {w:World} {h:Heap} (e:znG n fa fn ts tf ex h.get?=He.valX fn ts w):He.SaysX fa fn ts tf ex w h (frS h.get? n):=by
 have a:He.obsT fa fn ts (frS h.get? n)=He.valT fn ts w:=congrArg Prod.fst e
 obtain ⟨b,c⟩:=Bool.and_eq_true_iff.mp (show (ex (frS h.get? n)&&He.tabsB h.get? tf (frS h.get? n))=true from congrArg Prod.snd e)
 have tab:∀ p∈tf,PySem.W.codeHdIn (frS h.get? n) (He.cT (frS h.get? n) p).1 (He.cT (frS h.get? n) p).2=true∧∃ o,h.get? (He.cT (frS h.get? n) p).2=some o∧He.emptyTab o=true:=fun p hp=>by
  obtain ⟨x,y⟩:=Bool.and_eq_true_iff.mp (List.all_eq_true.mp c p hp)
  refine ⟨x,?_⟩
  revert y
  cases h.get? (He.cT (frS h.get? n) p).2 with
  | none=>exact fun y=>nomatch y
  | some o=>exact fun y=>⟨o,rfl,y⟩
 refine ⟨a,b,fun p hp=>(tab p hp).1,fun p hp=>?_,fun p hp=>?_⟩
 ·obtain ⟨o,x,y⟩:=(tab p hp).2
  exact He.frT_none x y
 ·obtain ⟨o,x,y⟩:=(tab p hp).2
  exact x.trans (congrArg some (He.emptyTab_eq y))
variable (n fa fn ts tf ex)
def zrc:PySem.W.Hook:=⟨He.AlX,fun s=>znG n fa fn ts tf ex s.heap.get?,fun w=>He.valX fn ts w,fun w h=>∃ K:PySem.W.Frag,K.In h∧He.SaysX fa fn ts tf ex w h K,fun _ _ e=>⟨_,zrI,zsW e⟩,
 fun _ _ _ ⟨K,a,c⟩ k=>⟨K,a.keeps k,⟨c.t,c.more,c.hd,c.out,fun p q=>k _ _ (c.empty p q)⟩⟩⟩
variable {n fa fn ts tf ex}
theorem zpP {g:Addr→Option Obj} {s:Shared} (h:∀ a,g a=s.heap.get? a):znG n fa fn ts tf ex g=(zrc n fa fn ts tf ex).obs s:=by
 rw [show g=s.heap.get? from funext h]
 rfl
end
def top (i:Nat):Stmt:=PySem.Challenge.pw_scalesheet_k25_chains_and_their_needs.main.body.getD i (.Pass ⟨0,0,0,0⟩)
abbrev Zh:Stmt:=top 8
abbrev yI:Stmt:=top 13
abbrev qH:Stmt:=top 14
abbrev jU:Stmt:=top 15
abbrev jE:Stmt:=top 16
abbrev Zi:Stmt:=top 17
abbrev qZ:Stmt:=top 18
abbrev yZ:Stmt:=top 19
abbrev xW:Stmt:=top 20
abbrev jx:Stmt:=top 21
abbrev jw:Stmt:=top 22
abbrev qI:Stmt:=top 26
abbrev jc:Stmt:=top 27
abbrev qG:Stmt:=top 28
abbrev yL:Stmt:=top 29
abbrev jd:Stmt:=top 30
abbrev yq:Stmt:=top 31
abbrev xX:Stmt:=top 32
abbrev qJ:Stmt:=top 33
abbrev JK:Stmt:=top 34
abbrev kY:Stmt:=top 25
abbrev Z5:Stmt:=top 24
abbrev yh:Stmt:=(zpO (top 1)).getD 0 (.Pass ⟨0,0,0,0⟩)
abbrev yD:Stmt:=(zpO (top 4)).getD 0 (.Pass ⟨0,0,0,0⟩)
abbrev yO:Stmt:=(zpO (top 2)).getD 0 (.Pass ⟨0,0,0,0⟩)
abbrev yj:Stmt:=(zpO (top 3)).getD 0 (.Pass ⟨0,0,0,0⟩)
def zgI:He.DefD:=⟨("is_name",none),"is_name","is_name",defArgs Zh,defBody Zh,defScope Zh,[],[]⟩
def Kl:He.DefD:=⟨("need_symbols",none),"need_symbols","need_symbols",defArgs yI,defBody yI,defScope yI,[],[]⟩
def zds:He.DefD:=⟨("need_size",none),"need_size","need_size",defArgs qH,defBody qH,defScope qH,[],[]⟩
def zgJ:He.DefD:=⟨("ordered",none),"ordered","ordered",defArgs jU,defBody jU,defScope jU,[],[]⟩
def ze2:He.DefD:=⟨("room_for",none),"room_for","room_for",defArgs jE,defBody jE,defScope jE,[],[]⟩
def zgK:He.DefD:=⟨("need_of",none),"need_of","need_of",defArgs Zi,defBody Zi,defScope Zi,[],[]⟩
def zdu:He.DefD:=⟨("chains_to",none),"chains_to","chains_to",defArgs qZ,defBody qZ,defScope qZ,[],[]⟩
def zbe:He.DefD:=⟨("greatest_of",none),"greatest_of","greatest_of",defArgs yZ,defBody yZ,defScope yZ,[],[]⟩
def zbf:He.DefD:=⟨("worst_chain",none),"worst_chain","worst_chain",defArgs xW,defBody xW,defScope xW,[],[]⟩
def znH:He.DefD:=⟨("need",none),"need","need",defArgs jx,defBody jx,defScope jx,[],[("size",.int (2))]⟩
def zk9:He.DefD:=⟨("chain",none),"chain","chain",defArgs jw,defBody jw,defScope jw,[],[("size",.int (2))]⟩
def ze3:He.DefD:=⟨("_law_pen",none),"_law_pen","_law_pen",defArgs Z5,defBody Z5,defScope Z5,[],[]⟩
def zdv:He.DefD:=⟨("_law_pick",none),"_law_pick","_law_pick",defArgs kY,defBody kY,defScope kY,[],[]⟩
def zdw:He.DefD:=⟨("_law_same",none),"_law_same","_law_same",defArgs qI,defBody qI,defScope qI,[],[]⟩
def zdx:He.DefD:=⟨("_law_folk",none),"_law_folk","_law_folk",defArgs jc,defBody jc,defScope jc,[],[]⟩
def zb8:He.DefD:=⟨("_law_marks",none),"_law_marks","_law_marks",defArgs qG,defBody qG,defScope qG,[],[]⟩
def JL:He.DefD:=⟨("_law_in_order",none),"_law_in_order","_law_in_order",defArgs yL,defBody yL,defScope yL,[],[]⟩
def zdy:He.DefD:=⟨("_law_room",none),"_law_room","_law_room",defArgs jd,defBody jd,defScope jd,[],[]⟩
def Qq:He.DefD:=⟨("_law_chain_need",none),"_law_chain_need","_law_chain_need",defArgs yq,defBody yq,defScope yq,[],[]⟩
def zbg:He.DefD:=⟨("_law_chains",none),"_law_chains","_law_chains",defArgs xX,defBody xX,defScope xX,[],[]⟩
def zdz:He.DefD:=⟨("_law_told",none),"_law_told","_law_told",defArgs qJ,defBody qJ,defScope qJ,[],[]⟩
def zrd:He.DefD:=⟨("law",none),"law","law",defArgs JK,defBody JK,defScope JK,[],[]⟩
def YD:He.DefD:=⟨("SheetError",some "__init__"),"__init__","SheetError.__init__",defArgs yh,defBody yh,defScope yh,[],[]⟩
def Xl:He.DefD:=⟨("BadChain",some "__init__"),"__init__","BadChain.__init__",defArgs yD,defBody yD,defScope yD,[],[]⟩
def XM:He.DefD:=⟨("BadSize",some "__init__"),"__init__","BadSize.__init__",defArgs yO,defBody yO,defScope yO,[],[]⟩
def YF:He.DefD:=⟨("BadSymbols",some "__init__"),"__init__","BadSymbols.__init__",defArgs yj,defBody yj,defScope yj,[],[]⟩
def fn:List He.DefD:=[zgI,Kl,zds,zgJ,ze2,zgK,zdu,zbe,zbf,znH,zk9,ze3,zdv,zdw,zdx,zb8,JL,zdy,Qq,zbg,zdz,zrd,YD,Xl,XM,YF]
def fa:List He.Fa:=[.glo "is_name",.glo "need_symbols",.glo "need_size",.glo "ordered",.glo "room_for",.glo "need_of",.glo "chains_to",.glo "greatest_of",.glo "worst_chain",.glo "need",.glo "chain",.glo "_law_pen",.glo "_law_pick",.glo "_law_same",.glo "_law_folk",.glo "_law_marks",.glo "_law_in_order",.glo "_law_room",.glo "_law_chain_need",.glo "_law_chains",.glo "_law_told",.glo "law",.glo "BadChain",.glo "BadSize",.glo "BadSymbols",.glo "SheetError",.free "len",.free "list",.free "all",.free "set",.free "sorted",.free "abs",.free "range",.free "sum",.free "enumerate",.free "max",.free "min",.free "isinstance",.free "tuple",.free "zip",.free "bool",.free "int",.free "str",.free "ValueError",.int "MOST_NAME" (8),.str "LETTERS" "abcdefghijklmnopqrstuvwxyz",.int "MOST_SYMBOLS" (8),.int "MOST_SIZE" (8)]
def loose:List PySem.Str:=(["SheetError","BadSize","BadSymbols","BadChain","MOST_NAME","LETTERS","is_name","MOST_SYMBOLS","SIZE","MOST_SIZE","need_symbols","need_size","ordered","room_for","need_of","chains_to","greatest_of","worst_chain","need","chain","_law_pen","_law_pick","_law_same","_law_folk","_law_marks","_law_in_order","_law_room","_law_chain_need","_law_chains","_law_told"]:List PySem.Str)
abbrev R:PySem.W.OpenRow:=PySem.W.OpenLaw.row PySem.Challenge.rw_scalesheet_k25_chains_and_their_needs
def ts:List He.Tab:=[]
def tf:List He.Defn:=[("ordered",none),("greatest_of",none)]
def exF (K:PySem.W.Frag):Bool:=znF K "BadChain" ["called"]&&(znF K "BadSize" ["called"]&&(znF K "BadSymbols" ["called"]&&(zrG K "SheetError" "__init__"&&(zrH K&&(zsV K ["BadChain"])))))
abbrev hk:PySem.W.Hook:=zrc 1400 fa fn ts tf (fun K=>ze1 tf K&&exF K)
def ob (s:PySem.W.SharedT):He.AlX:=znG 1400 fa fn ts tf (fun K=>ze1 tf K&&exF K) (HandSHeadRun.getT s)
theorem ob_eq (s:PySem.W.SharedT):ob s=hk.obs s.abs:=zpP (HandSHeadRun.getT_eq s)
section
open PySem PySem.W PySem.Calls PyProof.Rows HandSHeadRun
theorem zsX (w:World):∀ os:OsState,((endF (stepQ (denQ tabQ) R.prog w) 20000 R.prog w os).map fun s=>looksF R.prog (boot_heap w.params) s.abs)=some true:=by
 intro os
 kernel_rfl
theorem zsY (w:World):∀ os:OsState,((endF (stepQ (denQ tabQ) R.prog w) 20000 R.prog w os).map fun s=>seenQ (PySem.W.view R.prog [34]) loose (importedModules R.prog.main.body) (fun s=>xlAt (PySem.W.view R.prog [34]) [] s&&recOk R.toRowW.records s) s.abs)=some (openGood (PySem.W.view R.prog [34]) loose):=by
 intro os
 kernel_rfl
def hdK (s:PySem.W.SharedT):PySem.W.Frag:=frS (HandSHeadRun.getT s) 1400
def okA (K:PySem.W.Frag):Bool:=fa.all fun f=>f.ok K
def okB (K:PySem.W.Frag):Bool:=(fn.take 11).all fun d=>d.ok K
def okC (K:PySem.W.Frag):Bool:=(fn.drop 11).all fun d=>d.ok K
theorem okS (s:PySem.W.SharedT):(ob s).1.1.1=(okA (hdK s)&&(okB (hdK s)&&okC (hdK s))):=by
 simp only [ob,znG,He.obsT,He.obsD,okA,okB,okC,hdK]
 rw [← List.all_append,List.take_append_drop]
theorem zsZ (w:World):∀ os:OsState,((endF (stepQ (denQ tabQ) R.prog w) 20000 R.prog w os).map fun s=>okA (hdK s))=some true:=by
 intro os
 kernel_rfl
theorem zs3 (w:World):∀ os:OsState,((endF (stepQ (denQ tabQ) R.prog w) 20000 R.prog w os).map fun s=>okB (hdK s))=some true:=by
 intro os
 kernel_rfl
theorem zs4 (w:World):∀ os:OsState,((endF (stepQ (denQ tabQ) R.prog w) 20000 R.prog w os).map fun s=>okC (hdK s))=some true:=by
 intro os
 kernel_rfl
theorem mapA {α:Type} {E:Option α} {a b c:α→Bool} (h0:E.map a=some true) (h1:E.map b=some true) (h2:E.map c=some true):E.map (fun s=>a s&&(b s&&c s))=some true:=by
 cases E with
 | none=>cases h0
 | some s=>
  have h0:some (a s)=some true:=h0
  have h1:some (b s)=some true:=h1
  have h2:some (c s)=some true:=h2
  injection h0 with h0
  injection h1 with h1
  injection h2 with h2
  show some (a s&&(b s&&c s))=some true
  rw [h0,h1,h2]
  rfl
theorem zrJ (w:World):∀ os:OsState,((endF (stepQ (denQ tabQ) R.prog w) 20000 R.prog w os).map fun s=>(ob s).1.1.1)=some true:=fun os=>by
 rw [show (fun s:PySem.W.SharedT=>(ob s).1.1.1)=fun s=>(okA (hdK s)&&(okB (hdK s)&&okC (hdK s))) from funext okS]
 exact mapA (a:=fun s=>okA (hdK s)) (b:=fun s=>okB (hdK s)) (c:=fun s=>okC (hdK s)) (zsZ w os) (zs3 w os) (zs4 w os)
theorem zrK (w:World):∀ os:OsState,((endF (stepQ (denQ tabQ) R.prog w) 20000 R.prog w os).map fun s=>(ob s).1.2)=some (He.valT fn ts w |>.2):=by
 intro os
 kernel_rfl
theorem mapP {α β γ:Type} {E:Option α} {f:α→β} {g:α→γ} {x:β} {y:γ} (a:E.map f=some x) (b:E.map g=some y):E.map (fun s=>(f s,g s))=some (x,y):=by
 cases E with
 | none=>cases a
 | some s=>
  have a:some (f s)=some x:=a
  have b:some (g s)=some y:=b
  injection a with a
  injection b with b
  show some (f s,g s)=_
  rw [a,b]
theorem zs5 (w:World):∀ os:OsState,((endF (stepQ (denQ tabQ) R.prog w) 20000 R.prog w os).map fun s=>((ob s).1.1.1,(ob s).1.2))=some (true,He.valT fn ts w |>.2):=fun os=>mapP (zrJ w os) (zrK w os)
theorem zs6 (w:World):∀ os:OsState,((endF (stepQ (denQ tabQ) R.prog w) 20000 R.prog w os).map fun s=>(ob s).1.1.2.take 30)=some ((fn.map He.DefD.val).take 30):=by
 intro os
 kernel_rfl
theorem zs7 (w:World):∀ os:OsState,((endF (stepQ (denQ tabQ) R.prog w) 20000 R.prog w os).map fun s=>((ob s).1.1.2.drop 30).take 30)=some (((fn.map He.DefD.val).drop 30).take 30):=by
 intro os
 kernel_rfl
theorem zs8 (w:World):∀ os:OsState,((endF (stepQ (denQ tabQ) R.prog w) 20000 R.prog w os).map fun s=>((ob s).1.1.2.drop 30).drop 30)=some (((fn.map He.DefD.val).drop 30).drop 30):=by
 intro os
 kernel_rfl
theorem zs9 {α φ:Type} {E:Option α} {o:α→List φ} {v:List φ} (n:Nat) (a:E.map (fun s=>(o s).take n)=some (v.take n)) (b:E.map (fun s=>(o s).drop n)=some (v.drop n)):E.map o=some v:=by
 cases E with
 | none=>cases a
 | some s=>
  have a:some ((o s).take n)=some (v.take n):=a
  have b:some ((o s).drop n)=some (v.drop n):=b
  injection a with a
  injection b with b
  show some (o s)=_
  rw [← List.take_append_drop n (o s),a,b,List.take_append_drop]
theorem zug {α φ τ:Type} {E:Option α} {o:α→(Bool×List φ)×τ} {b:Bool} {v:List φ} {t:τ} (a:E.map (fun s=>((o s).1.1,(o s).2))=some (b,t)) (h:E.map (fun s=>(o s).1.2)=some v):E.map o=some ((b,v),t):=by
 cases E with
 | none=>cases a
 | some s=>
  have a:some ((o s).1.1,(o s).2)=some (b,t):=a
  have h:some (o s).1.2=some v:=h
  injection a with a
  injection h with h
  injection a with a1 a2
  show some (((o s).1.1,(o s).1.2),(o s).2)=_
  rw [a1,a2,h]
theorem runB (w:World):∀ os:OsState,((endF (stepQ (denQ tabQ) R.prog w) 20000 R.prog w os).map fun s=>(ob s).1)=some (He.valT fn ts w):=fun os=>zug (o:=fun s=>(ob s).1) (zs5 w os) (zs9 (o:=fun s=>(ob s).1.1.2) 30 (zs6 w os) (zs9 (o:=fun s=>(ob s).1.1.2.drop 30) 30 (zs7 w os) (zs8 w os)))
theorem runC (w:World):∀ os:OsState,((endF (stepQ (denQ tabQ) R.prog w) 20000 R.prog w os).map fun s=>(ob s).2)=some true:=by
 intro os
 kernel_rfl
theorem zuh {α β γ δ ε:Type} {E:Option α} {f:α→β} {g:α→γ} {o:α→δ×ε} {x:β} {y:γ} {u:δ} {v:ε} (a:E.map f=some x) (a2:E.map g=some y) (b:E.map (fun s=>(o s).1)=some u) (c:E.map (fun s=>(o s).2)=some v):E.map (fun s=>(f s,g s,o s))=some (x,y,(u,v)):=by
 cases E with
 | none=>cases a
 | some s=>
  have a:some (f s)=some x:=a
  have a2:some (g s)=some y:=a2
  have b:some (o s).1=some u:=b
  have c:some (o s).2=some v:=c
  injection a with a
  injection a2 with a2
  injection b with b
  injection c with c
  show some (f s,g s,((o s).1,(o s).2))=_
  rw [a,a2,b,c]
theorem run (w:World):HandSHeadRun.RunEq R (PySem.W.view R.prog [34]) hk ob 20000 loose w:=fun os=>zuh (zsX w os) (zsY w os) (runB w os) (runC w os)
end
end DL
set_option maxHeartbeats 4000000
namespace DL
open PySem PySem.Spec PyProof.Rows L2
/-- a list's standing:one's own (fresh,nobody else holds it),frozen (nobody changes it any more),borrowed -/
inductive Fl where
 | o | f | b
 deriving DecidableEq
/-- a thing that changes:a list; a dict of keys; an instance of a class with its attributes -/
inductive Ct where
 | l | dK (ks:List Key) | dT (ks:List (List Key)) | ins (C:Addr) (ns:List Str) (x:Option Addr)
 deriving DecidableEq
def Ct.ho:Ct→Addr→List V→HO
 | .l,_,vs=>.lst vs
 | .dK ks,_,vs=>.dK (ks.zip vs)
 | .dT ks,_,vs=>.dT (ks.zip vs)
 | .ins C ns _,dx,vs=>.ins C dx (ns.zip vs)
/-- how many there are; where an instance stands,if that is told -/
def Ct.ok:Ct→Addr→Nat→Prop
 | .l,_,_=>True
 | .dK ks,_,n=>ks.length=n
 | .dT ks,_,n=>ks.length=n
 | .ins _ ns x,a,n=>ns.length=n∧∀ y,x=some y→a=y
/-- what may change -/
inductive Mu:HO→Prop
 | l {xs}:Mu (.lst xs)
 | dK {xs}:Mu (.dK xs)
 | dT {xs}:Mu (.dT xs)
 | ins {C dx fs}:Mu (.ins C dx fs)
def Mo (H:Hp) (a:Addr):Prop:=∃ o,H a=some o∧Mu o
theorem Mo.l {H:Hp} {a:Addr} {xs:List V} (h:H a=some (.lst xs)):Mo H a:=⟨_,h,.l⟩
theorem Mo.ls {H:Hp} {a:Addr} (h:∃ xs,H a=some (.lst xs)):Mo H a:=h.elim fun _ e=>.l e
theorem Mo.trk {H:Hp} {a:Addr} (h:Mo H a):H a≠none:=fun z=>by
 obtain ⟨o,e,_⟩:=h
 rw [e] at z; cases z
theorem Mo.nt {H:Hp} {a:Addr} (h:Mo H a):(∀ xs,H a≠some (.tup xs))∧(∀ o u,H a≠some (.frz o u))∧(∀ ps,H a≠some (.tbl ps))∧(∀ x,H a≠some (.own x))∧∀ fs,H a≠some (.xd fs):=by
 obtain ⟨o,e,m⟩:=h
 refine ⟨fun xs z=>?_,fun o u z=>?_,fun ps z=>?_,fun x z=>?_,fun fs z=>?_⟩ <;> (rw [e] at z; cases m <;> cases z)
theorem Mo.upd {H:Hp} {a l:Addr} {o:HO} (h:Mo H a) (m:Mu o):Mo (upd H l o) a:=by
 by_cases q:a=l
 ·subst q; exact ⟨o,upd_same,m⟩
 ·unfold Mo; rw [upd_ne q]; exact h
theorem Ct.mu (c:Ct) (dx:Addr) (vs:List V):Mu (c.ho dx vs):=by
 cases c
 ·exact .l
 ·exact .dK
 ·exact .dT
 ·exact .ins
inductive D where
 | non | bl (b:Bool) | int (i:Int) | str (x:Str) | pen
 | tup (xs:List D)
 | con (c:Ct) (k:Fl) (xs:List D)
 /-- an exception that was caught:where it stands,its dict,its attributes -/
 | exc (a dd:Addr) (ns:List Str) (xs:List D)
abbrev D.lst (k:Fl) (xs:List D):D:=.con .l k xs
mutual
/-- numbers,texts,tuples of such -/
def D.bare:D→Bool
 | .tup xs=>D.ZL xs
 | .con _ _ _=>false
 | .exc _ _ _ _=>false
 | .pen=>false
 | _=>true
def D.ZL:List D→Bool
 | []=>true
 | x::xs=>D.bare x&&D.ZL xs
end
mutual
/-- all frozen -/
def D.pf:D→Bool
 | .tup xs=>D.pfs xs
 | .con _ k xs=>(match k with | .f=>true | _=>false)&&D.pfs xs
 | _=>true
def D.pfs:List D→Bool
 | []=>true
 | x::xs=>D.pf x&&D.pfs xs
end
mutual
/-- nothing borrowed (below a frozen list nothing is) -/
def D.nb:D→Bool
 | .tup xs=>D.nbs xs
 | .con _ k xs=>(match k with | .f=>true | .b=>false | .o=>D.nbs xs)
 | _=>true
def D.nbs:List D→Bool
 | []=>true
 | x::xs=>D.nb x&&D.nbs xs
end
mutual
/-- as a callee gets it:all frozen -/
def D.fz:D→D
 | .tup xs=>.tup (D.fzs xs)
 | .con c k xs=>(match k with | .f=>.con c .f xs | _=>.con c .f (D.fzs xs))
 | d=>d
def D.fzs:List D→List D
 | []=>[]
 | x::xs=>D.fz x::D.fzs xs
end
mutual
/-- a look at what a name holds:own lists are borrowed -/
def D.vw:D→D
 | .tup xs=>.tup (D.vws xs)
 | .con c k xs=>(match k with | .o=>.con c .b (D.vws xs) | .f=>.con c .f xs | .b=>.con c .b xs)
 | d=>d
def D.vws:List D→List D
 | []=>[]
 | x::xs=>D.vw x::D.vws xs
end
mutual
/-- what a call with things that are not all frozen hands back:its frozen lists may be parts of these -/
def D.wk:D→D
 | .tup xs=>.tup (D.wks xs)
 | .con c k xs=>.con c (match k with | .o=>.o | _=>.b) (D.wks xs)
 | d=>d
def D.wks:List D→List D
 | []=>[]
 | x::xs=>D.wk x::D.wks xs
end
mutual
/-- behind a return:what was borrowed is frozen -/
def D.rt:D→D
 | .tup xs=>.tup (D.rts xs)
 | .con c k xs=>(match k with | .o=>.con c .o (D.rts xs) | .f=>.con c .f xs | .b=>.con c .f (D.fzs xs))
 | d=>d
def D.rts:List D→List D
 | []=>[]
 | x::xs=>D.rt x::D.rts xs
end
/-- zM:the outer list,the inner one -/
abbrev zR:=List (Addr×Addr)
abbrev zR.as (P:zR):List Addr:=P.map (·.1)
/-- the tables of code objects that are followed,by the name of what is in them -/
class Tb where
 T:List (Addr×Str)
 /-- where the program's classes stand -/
 cl:Str→Addr:=fun _=>0
 /-- the classes whose instances may be raised while another exception is handled -/
 bk:Addr→Bool:=fun _=>false
/-- numbers alone -/
def zmp (xs:List V):Prop:=∀ x∈xs,∃ i:Int,x=.int i
theorem zik (ns:List Int):zmp (ns.map V.int):=fun x h=>by
 obtain ⟨i,_,rfl⟩:=List.mem_map.mp h
 exact ⟨i,rfl⟩
def KL (K:PySem.W.Frag) (a:Addr) (xs:List V):Prop:=
 zmp xs∧∃ (o:Obj) (its:Array Value) (n:Nat),K.lookup a=some o∧o.cls=.type "list"∧o.dict=none∧o.data=.seq its n∧its.size≤sizeLine∧Vals xs its.toList
/-- a tuple that is tracked -/
def TpT (K:PySem.W.Frag) (H:Hp) (a:Addr) (xs:List V):Prop:=H a=some (.tup xs)
theorem TpT.sq {K:PySem.W.Frag} {H:Hp} {a:Addr} {xs:List V} (h:TpT K H a xs):SqT K H a xs:=.of h
/-- a list that nobody in N changes -/
def SqF (K:PySem.W.Frag) (N:List Addr) (H:Hp) (a:Addr) (xs:List V):Prop:=(Rd H a (.lst xs)∧a∉N)∨KL K a xs
theorem SqF.sq {K:PySem.W.Frag} {N:List Addr} {H:Hp} {a:Addr} {xs:List V} (h:SqF K N H a xs):SqL K H a xs:=by
 rcases h with ⟨h,_⟩ | h
 ·exact .inl h
 ·exact .inr h.2
/-- the same of any thing that changes -/
def SqC (K:PySem.W.Frag) (N:List Addr) (H:Hp) (c:Ct) (a:Addr) (vs:List V):Prop:=match c with
 | .l=>SqF K N H a vs∧(H a=some (.lst vs)∨zmp vs)
 | .dK ks=>(Ct.dK ks).ok a vs.length∧(∃ dx,Rd H a ((Ct.dK ks).ho dx vs))∧a∉N
 | .dT ks=>(Ct.dT ks).ok a vs.length∧(∃ dx,Rd H a ((Ct.dT ks).ho dx vs))∧a∉N
 | .ins C ns x=>(Ct.ins C ns x).ok a vs.length∧(∃ dx,Rd H a ((Ct.ins C ns x).ho dx vs))∧a∉N
def CtO (H:Hp) (c:Ct) (a:Addr) (vs:List V):Prop:=match c with
 | .l=>H a=some (.lst vs)
 | .dK ks=>(Ct.dK ks).ok a vs.length∧∃ dx,H a=some ((Ct.dK ks).ho dx vs)
 | .dT ks=>(Ct.dT ks).ok a vs.length∧∃ dx,H a=some ((Ct.dT ks).ho dx vs)
 | .ins C ns x=>(Ct.ins C ns x).ok a vs.length∧∃ dx,H a=some ((Ct.ins C ns x).ho dx vs)
theorem CtO.to {H:Hp} {c:Ct} {a:Addr} {vs:List V} (h:CtO H c a vs):c.ok a vs.length∧∃ dx,H a=some (c.ho dx vs):=by
 cases c with
 | l=>exact ⟨True.intro,a,h⟩
 | _=>exact h
theorem CtO.of {H:Hp} {c:Ct} {a dx:Addr} {vs:List V} (h:c.ok a vs.length) (e:H a=some (c.ho dx vs)):CtO H c a vs:=by
 cases c with
 | l=>exact e
 | _=>exact ⟨h,dx,e⟩
theorem CtO.mo {H:Hp} {c:Ct} {a:Addr} {vs:List V} (h:CtO H c a vs):Mo H a:=by
 obtain ⟨_,dx,e⟩:=h.to
 exact ⟨_,e,c.mu dx vs⟩
theorem SqC.to {K:PySem.W.Frag} {N:List Addr} {H:Hp} {c:Ct} {a:Addr} {vs:List V} (h:SqC K N H c a vs):(c.ok a vs.length∧(∃ dx,Rd H a (c.ho dx vs))∧a∉N)∨(c=.l∧KL K a vs):=by
 cases c with
 | l=>
  rcases h.1 with ⟨h,n⟩ | h
  ·exact .inl ⟨True.intro,⟨a,h⟩,n⟩
  ·exact .inr ⟨rfl,h⟩
 | _=>exact .inl h
theorem SqC.of {K:PySem.W.Frag} {N:List Addr} {H:Hp} {c:Ct} {a:Addr} {vs:List V} (h:(c.ok a vs.length∧(∃ dx,Rd H a (c.ho dx vs))∧a∉N)∨(c=.l∧KL K a vs)) (z:c=.l→H a=some (.lst vs)∨zmp vs):SqC K N H c a vs:=by
 rcases h with h | ⟨e,h⟩
 ·cases c with
  | l=>exact ⟨.inl ⟨h.2.1.elim fun _ z=>z,h.2.2⟩,z rfl⟩
  | _=>exact h
 ·subst e; exact ⟨.inr h,z rfl⟩
theorem SqC.z {K:PySem.W.Frag} {N:List Addr} {H:Hp} {c:Ct} {a:Addr} {vs:List V} (h:SqC K N H c a vs):c=.l→H a=some (.lst vs)∨zmp vs:=fun e=>by
 subst e; exact h.2
theorem KL.z {K:PySem.W.Frag} {H:Hp} {c:Ct} {a:Addr} {vs:List V} (h:c=.l∧KL K a vs):c=.l→H a=some (.lst vs)∨zmp vs:=fun _=>.inr h.2.1
section
variable (K:PySem.W.Frag) (P:zR) (M B:List Addr) (H:Hp)
mutual
/-- v stands for d; L:the lists that d owns. M:what frozen things must not lean on; B:what borrowed ones must not -/
inductive Rep:V→D→List Addr→Prop
 | non:Rep .non .non []
 | bl {b}:Rep (.bl b) (.bl b) []
 | int {i}:Rep (.int i) (.int i) []
 | str {x}:Rep (.str x) (.str x) []
 | pen {a l}:(a,l)∈P→Rep (.ref a) .pen []
 | tup {a vs ds L}:TpT K H a vs→zf vs ds L→Rep (.ref a) (.tup ds) L
 | lstF {c a vs ds}:SqC K (P.as++M) H c a vs→zf vs ds []→D.pfs ds=true→Rep (.ref a) (.con c .f ds) []
 | lstB {c a vs ds}:SqC K (P.as++B) H c a vs→zf vs ds []→Rep (.ref a) (.con c .b ds) []
 | lstO {c a vs ds L}:CtO H c a vs→a∉P.as→zf vs ds L→Rep (.ref a) (.con c .o ds) (a::L)
 | exc {a dd ns vs ds}:ns.length=vs.length→H dd=some (.xd (ns.zip vs))→zf vs ds []→D.ZL ds=true→Rep (.ref a) (.exc a dd ns ds) []
inductive zf:List V→List D→List Addr→Prop
 | nil:zf [] [] []
 | cons {v d vs ds L1 L2}:Rep v d L1→zf vs ds L2→zf (v::vs) (d::ds) (L1++L2)
end
end
/-- a table stays a table; all else stays as it is -/
def GrO:HO→Option HO→Prop
 | .tbl _,x=>∃ ps,x=some (.tbl ps)
 | .lst xs,x=>x=some (.lst xs)
 | .tup xs,x=>x=some (.tup xs)
 | .dK kvs,x=>x=some (.dK kvs)
 | .dT kvs,x=>x=some (.dT kvs)
 | .set S n,x=>x=some (.set S n)
 | .ins C dx fs,x=>x=some (.ins C dx fs)
 | .own a,x=>x=some (.own a)
 | .xd fs,x=>x=some (.xd fs)
 | .met f a,x=>x=some (.met f a)
 | .rng lo hi,x=>x=some (.rng lo hi)
 | .frz o u,x=>x=some (.frz o u)
 | .ext φ,x=>x=some (.ext φ)
theorem GrO.self (o:HO):GrO o (some o):=by
 cases o <;> first
  | exact rfl
  | exact ⟨_,rfl⟩
theorem GrO.of {o:HO} {x:Option HO} (h:x=some o):GrO o x:=h ▸ GrO.self o
theorem GrO.trk {o:HO} {x:Option HO} (h:GrO o x):x≠none:=fun z=>by
 subst z
 cases o <;> first
  | (cases h; done)
  | (obtain ⟨_,e⟩:=h; cases e)
theorem GrO.ne {o:HO} {x:Option HO} (h:GrO o x) (n:∀ ps,o≠.tbl ps):x=some o:=by
 cases o <;> first
  | exact h
  | exact absurd rfl (n _)
/-- a good table of code objects of the name q -/
def jo (H:Hp) (b:Addr) (q:Str):Prop:=∃ ps:Array Value,H b=some (.tbl ps)∧TriplesOk ps.toList∧∀ (pos:Pos) (cv:Value),codeAmong pos ps.toList=some cv→∃ (c:Addr) (oc:Obj) (vs:Array Value) (t:Tok),cv=.ref c∧H c=some (.frz oc (.own 0))∧oc.data=.fields vs∧vs[1]?=some (.str q t)
/-- what is tracked stays,but what is in N -/
structure Gr [Tb] (N:List Addr) (H H':Hp):Prop where
 get:∀ b o,H b=some o→b∉N→GrO o (H' b)
 tab:∀ b q,(b,q)∈Tb.T→jo H b q→jo H' b q
variable [Tb]
instance {N:List Addr} {H H':Hp}:CoeFun (Gr N H H') (fun _=>∀ b o,H b=some o→b∉N→GrO o (H' b)):=⟨Gr.get⟩
/-- tables stay where their own objects and the code objects do -/
theorem jo.keep {H H':Hp} {b:Addr} {q:Str} (t:jo H b q) (k1:∀ ps,H b=some (.tbl ps)→H' b=some (.tbl ps)) (k2:∀ c oc,H c=some (.frz oc (.own 0))→H' c=some (.frz oc (.own 0))):jo H' b q:=by
 obtain ⟨ps,e,ht,hc⟩:=t
 refine ⟨ps,k1 ps e,ht,fun pos cv h=>?_⟩
 obtain ⟨c,oc,vs,t,e1,e2,e3⟩:=hc pos cv h
 exact ⟨c,oc,vs,t,e1,k2 c oc e2,e3⟩
/-- all tracked things stay but what is in N,among which no table and no code object is -/
theorem Gr.by {N:List Addr} {H H':Hp} (k:∀ b o,H b=some o→b∉N→H' b=some o) (n:∀ b∈N,∀ o,H b=some o→(∀ ps,o≠.tbl ps)∧∀ oc u,o≠.frz oc u):Gr N H H':=
 ⟨fun b o h m=>GrO.of (k b o h m),fun b q mT t=>t.keep (fun ps e=>k b _ e fun z=>(n b z _ e).1 ps rfl) fun c oc e=>k c _ e fun z=>(n c z _ e).2 oc _ rfl⟩
theorem Gr.refl {N:List Addr} {H:Hp}:Gr N H H:=⟨fun _ _ h _=>GrO.of h,fun _ _ _ t=>t⟩
theorem Gr.trans {N:List Addr} {H H1 H2:Hp} (a:Gr N H H1) (b:Gr N H1 H2):Gr N H H2:=⟨fun c o h n=>by
 have h1:=a c o h n
 cases o with
 | tbl ps=>
  obtain ⟨qs,e⟩:=h1
  exact (b c _ e n:∃ ps,_)
 | _=>exact b c _ h1 n,fun c q mT t=>b.tab c q mT (a.tab c q mT t)⟩
theorem Gr.laid {N:List Addr} {H:Hp} {p:Addr} {o:HO} (hp:H p=none):Gr N H (upd H p o):=
 ⟨fun b u h _=>GrO.of (by rw [upd_ne (ne_of_none h hp)]; exact h),fun b q mT t=>t.keep (fun ps e=>by rw [upd_ne (ne_of_none e hp)]; exact e) fun c oc e=>by rw [upd_ne (ne_of_none e hp)]; exact e⟩
theorem jo.lst {H:Hp} {A b:Addr} {q:Str} {xs:List V} {o:HO} (t:jo H b q) (h:H A=some (.lst xs)):jo (upd H A o) b q:=
 t.keep (fun ps e=>by
  rw [upd_ne (fun z=>by rw [z,h] at e; cases e)]; exact e) fun c oc e=>by
  rw [upd_ne (fun z=>by rw [z,h] at e; cases e)]; exact e
theorem jo.mo {H:Hp} {A b:Addr} {q:Str} {o:HO} (t:jo H b q) (h:Mo H A):jo (upd H A o) b q:=
 t.keep (fun ps e=>by
  rw [upd_ne (fun z=>by rw [z] at e; exact h.nt.2.2.1 _ e)]; exact e) fun c oc e=>by
  rw [upd_ne (fun z=>by rw [z] at e; exact h.nt.2.1 _ _ e)]; exact e
theorem jo.unset {H:Hp} {A b:Addr} {q:Str} {o:HO} (n:∀ ps,o≠.tbl ps) (n2:∀ oc u,o≠.frz oc u) (t:jo (upd H A o) b q):jo H b q:=
 t.keep (fun ps e=>by
  rw [upd_ne (fun z=>by
   rw [z,upd_same] at e
   exact n _ (Option.some.inj e))] at e
  exact e) fun c oc e=>by
  rw [upd_ne (fun z=>by
   rw [z,upd_same] at e
   exact n2 _ _ (Option.some.inj e))] at e
  exact e
theorem Gr.sub {N N':List Addr} {H H':Hp} (g:Gr N H H') (h:∀ b∈N,b∈N'):Gr N' H H':=⟨fun b o e n=>g b o e fun z=>n (h b z),g.tab⟩
/-- what is new is left out of sight -/
theorem Gr.skip {N:List Addr} {H1 H5 H6:Hp} {A:Addr} (g:Gr N H1 H5) (g':Gr (A::N) H5 H6) (hA:H1 A=none):Gr N H1 H6:=⟨fun b o h n=>by
 have m:b∉A::N:=fun z=>(List.mem_cons.mp z).elim (fun e=>ne_of_none h hA e) n
 have h1:=g b o h n
 cases o with
 | tbl ps=>
  obtain ⟨qs,e⟩:=h1
  exact (g' b _ e m:∃ ps,_)
 | _=>exact g' b _ h1 m,fun b q mT t=>g'.tab b q mT (g.tab b q mT t)⟩
/-- a new thing is changed -/
theorem Gr.put {N:List Addr} {H1 H5:Hp} {A:Addr} {o5 o:HO} (g:Gr N H1 H5) (hA:H1 A=none) (h5:H5 A=some o5) (n:∀ oc u,o5≠.frz oc u):Gr N H1 (upd H5 A o):=
 ⟨fun b u hb m=>by rw [upd_ne (ne_of_none hb hA)]; exact g b u hb m,fun b q mT t=>by
  have ne:b≠A:=fun e=>by
   obtain ⟨ps,e1,_⟩:=t
   rw [e,hA] at e1; cases e1
  exact (g.tab b q mT t).keep (fun ps e=>by rw [upd_ne ne]; exact e) fun c oc e=>by
   rw [upd_ne (fun z=>by
    rw [z,h5] at e
    exact n _ _ (Option.some.inj e))]
   exact e⟩
/-- a list is changed -/
theorem Gr.set {N:List Addr} {H:Hp} {A:Addr} {o5 o:HO} (hA:A∈N) (h5:H A=some o5) (n:∀ oc u,o5≠.frz oc u) (n2:∀ ps,o5≠.tbl ps):Gr N H (upd H A o):=
 ⟨fun b u hb m=>GrO.of (by rw [upd_ne (fun e:b=A=>m (by rw [e]; exact hA))]; exact hb),fun b q mT t=>t.keep (fun ps e=>by
   rw [upd_ne (fun z=>by
    rw [z,h5] at e
    exact n2 _ (Option.some.inj e))]
   exact e) fun c oc e=>by
   rw [upd_ne (fun z=>by
    rw [z,h5] at e
    exact n _ _ (Option.some.inj e))]
   exact e⟩
/-- a pen:a list of the numbers,a place,what is left of a great one,a seed -/
def zta (H:Hp) (M:List Addr) (P:zR) (a l:Addr):Prop:=
 a∉M∧l∉M∧l∉P.as∧∃ (ns:List Int) (i b s:Int),H a=some (.lst [.ref l,.int i,.int b,.int s])∧H l=some (.lst (ns.map V.int))∧0≤i∧0≤b∧0≤s∧s < 2147483648∧ns.length≤63
def zF (P:zR) (M:List Addr) (H:Hp):Prop:=∀ a l,(a,l)∈P→zta H M P a l
theorem zR.mem {P:zR} {a:Addr} (h:a∈P.as):∃ l,(a,l)∈P:=by
 obtain ⟨⟨b,l⟩,h1,h2⟩:=List.mem_map.mp h
 exact ⟨l,by rw [← h2]; exact h1⟩
section
variable {K:PySem.W.Frag} {P:zR} {M M' B B' N:List Addr} {H H':Hp} {v:V} {d:D} {L:List Addr}
theorem zF.lst (h:zF P M H) {a:Addr} (ha:a∈P.as):∃ xs,H a=some (.lst xs):=by
 obtain ⟨l,hl⟩:=zR.mem ha
 obtain ⟨_,_,_,ns,i,b,s,e,_⟩:=h a l hl
 exact ⟨_,e⟩
theorem zF.grow (h:zF P M H) (hM:∀ a∈M',a∈M∨H a=none):zF P M' H:=fun a l hl=>by
 obtain ⟨n1,n2,n3,ns,i,b,s,e1,e2,r⟩:=h a l hl
 refine ⟨fun z=>?_,fun z=>?_,n3,ns,i,b,s,e1,e2,r⟩
 ·rcases hM a z with q | q
  ·exact n1 q
  ·rw [q] at e1; cases e1
 ·rcases hM l z with q | q
  ·exact n2 q
  ·rw [q] at e2; cases e2
/-- zM stay where only others are touched -/
theorem zF.keep (h:zF P M H) (g:∀ b o,H b=some o→(b∈P.as∨∃ a,(a,b)∈P)→H' b=some o):zF P M H':=fun a l hl=>by
 obtain ⟨n1,n2,n3,ns,i,b,s,e1,e2,r⟩:=h a l hl
 exact ⟨n1,n2,n3,ns,i,b,s,g a _ e1 (.inl (List.mem_map.mpr ⟨(a,l),hl,rfl⟩)),g l _ e2 (.inr ⟨a,hl⟩),r⟩
theorem zF.laid (h:zF P M H) {p:Addr} {o:HO} (hp:H p=none):zF P M (upd H p o):=h.keep fun b u e _=>by
 rw [upd_ne (ne_of_none e hp)]; exact e
theorem Gr.nil (g:Gr P.as H H') (h:zF P M H') {b:Addr} (hb:H' b=none):H b=none:=by
 cases e:H b with
 | none=>rfl
 | some o=>
  by_cases hm:b∈P.as
  ·obtain ⟨xs,q⟩:=h.lst hm
   rw [q] at hb; cases hb
  ·exact absurd hb (g b o e hm).trk
theorem Rd.gr {a:Addr} {xs:List V} (r:Rd H a (.lst xs)) (g:Gr N H H') (hn:a∉N):Rd H' a (.lst xs):=by
 rcases r with r | ⟨o,r⟩
 ·exact .inl (g a _ r hn)
 ·exact .inr ⟨o,g a _ r hn⟩
theorem Rd.trk {a:Addr} {u:HO} (r:Rd H a u):H a≠none:=by
 rcases r with r | ⟨o,r⟩ <;> (rw [r]; intro z; cases z)
theorem SqF.gr {a:Addr} {xs:List V} (h:SqF K N H a xs) {N0 N':List Addr} (g:Gr N0 H H') (h0:∀ b∈N0,b∈N) (hN:∀ b∈N',b∈N∨H b=none):SqF K N' H' a xs:=by
 rcases h with ⟨r,n⟩ | h
 ·refine .inl ⟨Rd.gr r g fun z=>n (h0 _ z),fun z=>?_⟩
  rcases hN a z with q | q
  ·exact n q
  ·exact Rd.trk r q
 ·exact .inr h
theorem CtO.sq {c:Ct} {a:Addr} {xs:List V} (h:CtO H c a xs) (n:a∉N):SqC K N H c a xs:=by
 obtain ⟨ok,dx,e⟩:=h.to
 exact .of (.inl ⟨ok,⟨dx,.inl e⟩,n⟩) fun z=>.inl (by subst z; exact e)
theorem SqC.gr {c:Ct} {a:Addr} {xs:List V} (h:SqC K N H c a xs) {N0 N':List Addr} (g:Gr N0 H H') (h0:∀ b∈N0,b∈N) (hN:∀ b∈N',b∈N∨H b=none):SqC K N' H' c a xs:=by
 rcases h.to with ⟨ok,⟨dx,r⟩,n⟩ | h
 ·refine .of (.inl ⟨ok,⟨dx,?_⟩,fun z=>?_⟩) fun e=>(h.z e).imp (fun e=>g a (.lst xs) e fun z=>n (h0 _ z)) id
  ·rcases r with r | ⟨o,r⟩
   ·exact .inl ((g a _ r fun z=>n (h0 _ z)).ne fun ps e=>by
     have m:=c.mu dx xs
     rw [e] at m; cases m)
   ·exact .inr ⟨o,g a _ r fun z=>n (h0 _ z)⟩
  ·rcases hN a z with q | q
   ·exact n q
   ·rcases r with r | ⟨o,r⟩ <;> (rw [q] at r; cases r)
 ·exact .of (.inr h) (KL.z h)
theorem Mo.gr {a:Addr} (h:Mo H a) (g:Gr N H H') (n:a∉N):Mo H' a:=by
 obtain ⟨o,e,m⟩:=h
 exact ⟨o,(g a _ e n).ne (fun ps z=>by rw [z] at m; cases m),m⟩
theorem CtO.gr {c:Ct} {a:Addr} {xs:List V} (h:CtO H c a xs) (g:Gr N H H') (n:a∉N):CtO H' c a xs:=by
 obtain ⟨ok,dx,e⟩:=h.to
 exact .of ok ((g a _ e n).ne fun ps z=>by
  have m:=c.mu dx xs
  rw [z] at m; cases m)
theorem TpT.gr {a:Addr} {xs:List V} (h:TpT K H a xs) (g:Gr N H H') (hN:∀ b∈N,∃ ys,H b=some (.lst ys)):TpT K H' a xs:=
 g a _ h fun z=>by
  obtain ⟨ys,q⟩:=hN a z
  rw [show H a=some (.tup xs) from h] at q; cases q
mutual
/-- bare data leans on nothing -/
theorem Rep.bare {P':zR} (g:Gr N H H') (hN:∀ b∈N,∃ ys,H b=some (.lst ys)):∀ {v:V} {d:D} {L:List Addr},Rep K P M B H v d L→d.bare=true→L=[]∧Rep K P' M' B' H' v d []
 | _,_,_,.non,_=>⟨rfl,.non⟩
 | _,_,_,.bl,_=>⟨rfl,.bl⟩
 | _,_,_,.int,_=>⟨rfl,.int⟩
 | _,_,_,.str,_=>⟨rfl,.str⟩
 | _,_,_,.pen _,p=>by simp [D.bare] at p
 | _,_,_,.tup h r,p=>by
  obtain ⟨e,q⟩:=zf.bare g hN r (by simpa [D.bare] using p)
  exact ⟨e,.tup (TpT.gr h g hN) q⟩
 | _,_,_,.lstF _ _ _,p=>by simp [D.bare] at p
 | _,_,_,.lstB _ _,p=>by simp [D.bare] at p
 | _,_,_,.lstO _ _ _,p=>by simp [D.bare] at p
 | _,_,_,.exc _ _ _ _,p=>by simp [D.bare] at p
theorem zf.bare {P':zR} (g:Gr N H H') (hN:∀ b∈N,∃ ys,H b=some (.lst ys)):∀ {vs:List V} {ds:List D} {L:List Addr},zf K P M B H vs ds L→D.ZL ds=true→L=[]∧zf K P' M' B' H' vs ds []
 | _,_,_,.nil,_=>⟨rfl,.nil⟩
 | _,_,_,.cons h r,p=>by
  simp only [D.ZL,Bool.and_eq_true] at p
  obtain ⟨e1,q1⟩:=Rep.bare g hN h p.1
  obtain ⟨e2,q2⟩:=zf.bare g hN r p.2
  subst e1 e2
  exact ⟨rfl,.cons (L1:=[]) (L2:=[]) q1 q2⟩
end
theorem Rep.znI {P':zR} {a dd:Addr} {ns:List Str} {vs:List V} {ds:List D} (g:Gr N H H') (hN:∀ b∈N,∃ ys,H b=some (.lst ys)) (hl:ns.length=vs.length) (hx:H dd=some (.xd (ns.zip vs))) (r:zf K P M B H vs ds []) (p:D.ZL ds=true):Rep K P' M' B' H' (.ref a) (.exc a dd ns ds) []:=
 .exc hl (g dd _ hx fun z=>by
  obtain ⟨ys,e⟩:=hN dd z
  rw [hx] at e; cases e) (zf.bare g hN r p).2 p
theorem Rep.zgo {P':zR} {a dd:Addr} {ns:List Str} {vs:List V} {ds:List D} (hl:ns.length=vs.length) (hx:H dd=some (.xd (ns.zip vs))) (r:zf K P M B H vs ds []) (p:D.ZL ds=true):Rep K P' M' B' H (.ref a) (.exc a dd ns ds) []:=
 Rep.znI (N:=[]) Gr.refl (fun _ z=>nomatch z) hl hx r p
theorem zpQ {α:Type} {l m:List α} (h:l++m=[]):l=[]∧m=[]:=by
 cases l with
 | nil=>exact ⟨rfl,h⟩
 | cons a r=>exact nomatch h
mutual
/-- the heap grows,zM may turn; M and B may grow by what was not tracked -/
theorem Rep.gr (g:Gr P.as H H') (hP:∀ b∈P.as,∃ ys,H b=some (.lst ys)) (hM:∀ a∈M',a∈M∨H a=none) (hB:∀ a∈B',a∈B∨H a=none):∀ {v:V} {d:D} {L:List Addr},Rep K P M B H v d L→Rep K P M' B' H' v d L
 | _,_,_,.non=>.non
 | _,_,_,.bl=>.bl
 | _,_,_,.int=>.int
 | _,_,_,.str=>.str
 | _,_,_,.pen h=>.pen h
 | _,_,_,.tup h r=>.tup (TpT.gr h g hP) (zf.gr g hP hM hB r)
 | _,_,_,.exc hl hx r p=>Rep.znI g hP hl hx r p
 | _,_,_,.lstF h r p=>.lstF (SqC.gr h g (fun b z=>List.mem_append_left _ z) (fun b z=>by
   rcases List.mem_append.mp z with z | z
   ·exact .inl (List.mem_append_left _ z)
   ·rcases hM b z with q | q
    ·exact .inl (List.mem_append_right _ q)
    ·exact .inr q)) (zf.gr g hP hM hB r) p
 | _,_,_,.lstB h r=>.lstB (SqC.gr h g (fun b z=>List.mem_append_left _ z) (fun b z=>by
   rcases List.mem_append.mp z with z | z
   ·exact .inl (List.mem_append_left _ z)
   ·rcases hB b z with q | q
    ·exact .inl (List.mem_append_right _ q)
    ·exact .inr q)) (zf.gr g hP hM hB r)
 | _,_,_,.lstO h n r=>.lstO (h.gr g n) n (zf.gr g hP hM hB r)
theorem zf.gr (g:Gr P.as H H') (hP:∀ b∈P.as,∃ ys,H b=some (.lst ys)) (hM:∀ a∈M',a∈M∨H a=none) (hB:∀ a∈B',a∈B∨H a=none):∀ {vs:List V} {ds:List D} {L:List Addr},zf K P M B H vs ds L→zf K P M' B' H' vs ds L
 | _,_,_,.nil=>.nil
 | _,_,_,.cons h r=>.cons (Rep.gr g hP hM hB h) (zf.gr g hP hM hB r)
end
mutual
/-- what is owned is tracked,and no pen -/
theorem Rep.own:∀ {v:V} {d:D} {L:List Addr},Rep K P M B H v d L→∀ a∈L,Mo H a∧a∉P.as
 | _,_,_,.non,_,z=>nomatch z
 | _,_,_,.bl,_,z=>nomatch z
 | _,_,_,.int,_,z=>nomatch z
 | _,_,_,.str,_,z=>nomatch z
 | _,_,_,.pen _,_,z=>nomatch z
 | _,_,_,.tup _ r,a,z=>zf.own r a z
 | _,_,_,.lstF _ _ _,_,z=>nomatch z
 | _,_,_,.exc _ _ _ _,_,z=>nomatch z
 | _,_,_,.lstB _ _,_,z=>nomatch z
 | _,_,_,.lstO h n r,a,z=>by
  rcases List.mem_cons.mp z with e | z
  ·subst e; exact ⟨h.mo,n⟩
  ·exact zf.own r a z
theorem zf.own:∀ {vs:List V} {ds:List D} {L:List Addr},zf K P M B H vs ds L→∀ a∈L,Mo H a∧a∉P.as
 | _,_,_,.nil,_,z=>nomatch z
 | _,_,_,.cons h r,a,z=>by
  rcases List.mem_append.mp z with z | z
  ·exact Rep.own h a z
  ·exact zf.own r a z
end
mutual
/-- all frozen:it owns nothing,and no borrowed part stands in it -/
theorem Rep.pf:∀ {v:V} {d:D} {L:List Addr},Rep K P M B H v d L→d.pf=true→L=[]∧∀ {B':List Addr},Rep K P M B' H v d []
 | _,_,_,.non,_=>⟨rfl,.non⟩
 | _,_,_,.bl,_=>⟨rfl,.bl⟩
 | _,_,_,.int,_=>⟨rfl,.int⟩
 | _,_,_,.str,_=>⟨rfl,.str⟩
 | _,_,_,.pen h,_=>⟨rfl,.pen h⟩
 | _,_,_,.tup h r,p=>by
  obtain ⟨e,q⟩:=zf.pf r (by simpa [D.pf] using p)
  subst e
  exact ⟨rfl,.tup h q⟩
 | _,_,_,.exc hl hx r p,_=>⟨rfl,Rep.zgo hl hx r p⟩
 | _,_,_,.lstF h r p,_=>by
  obtain ⟨_,q⟩:=zf.pf r p
  exact ⟨rfl,.lstF h q p⟩
 | _,_,_,.lstB _ _,p=>by simp [D.pf] at p
 | _,_,_,.lstO _ _ _,p=>by simp [D.pf] at p
theorem zf.pf:∀ {vs:List V} {ds:List D} {L:List Addr},zf K P M B H vs ds L→D.pfs ds=true→L=[]∧∀ {B':List Addr},zf K P M B' H vs ds []
 | _,_,_,.nil,_=>⟨rfl,.nil⟩
 | _,_,_,.cons h r,p=>by
  simp only [D.pfs,Bool.and_eq_true] at p
  obtain ⟨e1,q1⟩:=Rep.pf h p.1
  obtain ⟨e2,q2⟩:=zf.pf r p.2
  subst e1 e2
  exact ⟨rfl,.cons (L1:=[]) (L2:=[]) q1 q2⟩
end
mutual
theorem D.znJ:∀ d:D,d.pf=true→d.fz=d
 | .non,_=>rfl
 | .bl _,_=>rfl
 | .int _,_=>rfl
 | .str _,_=>rfl
 | .pen,_=>rfl
 | .tup xs,p=>by simp only [D.fz]; rw [D.zhb xs (by simpa [D.pf] using p)]
 | .con _ .f xs,_=>rfl
 | .con _ .b _,p=>by simp [D.pf] at p
 | .con _ .o _,p=>by simp [D.pf] at p
 | .exc _ _ _ _,_=>rfl
theorem D.zhb:∀ ds:List D,D.pfs ds=true→D.fzs ds=ds
 | [],_=>rfl
 | d::ds,p=>by
  simp only [D.pfs,Bool.and_eq_true] at p
  simp only [D.fzs]
  rw [D.znJ d p.1,D.zhb ds p.2]
end
theorem SqF.sub {a:Addr} {xs:List V} (h:SqF K N H a xs) {N':List Addr} (hN:∀ b∈N',b∈N):SqF K N' H a xs:=by
 rcases h with ⟨r,n⟩ | h
 ·exact .inl ⟨r,fun z=>n (hN a z)⟩
 ·exact .inr h
theorem SqC.sub {c:Ct} {a:Addr} {xs:List V} (h:SqC K N H c a xs) {N':List Addr} (hN:∀ b∈N',b∈N):SqC K N' H c a xs:=by
 rcases h.to with ⟨ok,r,n⟩ | q
 ·exact .of (.inl ⟨ok,r,fun z=>n (hN a z)⟩) h.z
 ·exact .of (.inr q) h.z
theorem jG {A M M':List Addr} (h:∀ b∈M',b∈M):∀ b∈A++M',b∈A++M:=fun b z=>by
 rcases List.mem_append.mp z with z | z
 ·exact List.mem_append_left _ z
 ·exact List.mem_append_right _ (h b z)
mutual
/-- fewer things to lean away from -/
theorem Rep.sub (hM:∀ a∈M',a∈M) (hB:∀ a∈B',a∈B):∀ {v:V} {d:D} {L:List Addr},Rep K P M B H v d L→Rep K P M' B' H v d L
 | _,_,_,.non=>.non
 | _,_,_,.bl=>.bl
 | _,_,_,.int=>.int
 | _,_,_,.str=>.str
 | _,_,_,.pen h=>.pen h
 | _,_,_,.tup h r=>.tup h (zf.sub hM hB r)
 | _,_,_,.exc hl hx r p=>Rep.zgo hl hx r p
 | _,_,_,.lstF h r p=>.lstF (SqC.sub h (jG hM)) (zf.sub hM hB r) p
 | _,_,_,.lstB h r=>.lstB (SqC.sub h (jG hB)) (zf.sub hM hB r)
 | _,_,_,.lstO h n r=>.lstO h n (zf.sub hM hB r)
theorem zf.sub (hM:∀ a∈M',a∈M) (hB:∀ a∈B',a∈B):∀ {vs:List V} {ds:List D} {L:List Addr},zf K P M B H vs ds L→zf K P M' B' H vs ds L
 | _,_,_,.nil=>.nil
 | _,_,_,.cons h r=>.cons (Rep.sub hM hB h) (zf.sub hM hB r)
end
mutual
/-- frozen,as a callee gets it; N:what it may not lean on -/
theorem Rep.fz (hM:∀ a∈N,a∈M) (hB:∀ a∈N,a∈B):∀ {v:V} {d:D} {L:List Addr},Rep K P M B H v d L→(∀ a∈L,a∉N)→Rep K P N N H v d.fz []∧d.fz.pf=true
 | _,_,_,.non,_=>⟨.non,rfl⟩
 | _,_,_,.bl,_=>⟨.bl,rfl⟩
 | _,_,_,.int,_=>⟨.int,rfl⟩
 | _,_,_,.str,_=>⟨.str,rfl⟩
 | _,_,_,.pen h,_=>⟨.pen h,rfl⟩
 | _,_,_,.tup h r,n=>by
  obtain ⟨q,p⟩:=zf.fz hM hB r n
  exact ⟨.tup h q,by simpa [D.fz,D.pf] using p⟩
 | _,_,_,.exc hl hx r p,_=>⟨Rep.zgo hl hx r p,rfl⟩
 | _,_,_,.lstF h r p,_=>⟨.lstF (SqC.sub h (jG hM)) (zf.sub hM (fun _ z=>z) (zf.pf r p).2) p,by simpa [D.fz,D.pf] using p⟩
 | _,_,_,.lstB h r,_=>by
  obtain ⟨q,p⟩:=zf.fz hM hB r (fun _ z=>nomatch z)
  exact ⟨.lstF (SqC.sub h (jG hB)) q p,by simpa [D.fz,D.pf] using p⟩
 | _,_,_,@Rep.lstO _ _ _ _ _ c a vs ds L h n r,m=>by
  obtain ⟨q,p⟩:=zf.fz hM hB r (fun b z=>m b (List.mem_cons_of_mem _ z))
  refine ⟨.lstF (h.sq fun z=>?_) q p,by simpa [D.fz,D.pf] using p⟩
  rcases List.mem_append.mp z with z | z
  ·exact n z
  ·exact m a (List.mem_cons_self ..) z
theorem zf.fz (hM:∀ a∈N,a∈M) (hB:∀ a∈N,a∈B):∀ {vs:List V} {ds:List D} {L:List Addr},zf K P M B H vs ds L→(∀ a∈L,a∉N)→zf K P N N H vs (D.fzs ds) []∧D.pfs (D.fzs ds)=true
 | _,_,_,.nil,_=>⟨.nil,rfl⟩
 | _,_,_,.cons h r,n=>by
  obtain ⟨q1,p1⟩:=Rep.fz hM hB h (fun a z=>n a (List.mem_append_left _ z))
  obtain ⟨q2,p2⟩:=zf.fz hM hB r (fun a z=>n a (List.mem_append_right _ z))
  exact ⟨.cons (L1:=[]) (L2:=[]) q1 q2,by simp only [D.fzs,D.pfs,p1,p2,Bool.and_self]⟩
end
mutual
/-- a look:what is owned is borrowed -/
theorem Rep.vw:∀ {v:V} {d:D} {L:List Addr},Rep K P M B H v d L→(∀ a∈L,a∉B)→Rep K P M B H v d.vw []
 | _,_,_,.non,_=>.non
 | _,_,_,.bl,_=>.bl
 | _,_,_,.int,_=>.int
 | _,_,_,.str,_=>.str
 | _,_,_,.pen h,_=>.pen h
 | _,_,_,.tup h r,n=>.tup h (zf.vw r n)
 | _,_,_,.exc hl hx r p,_=>Rep.zgo hl hx r p
 | _,_,_,.lstF h r p,_=>.lstF h r p
 | _,_,_,.lstB h r,_=>.lstB h r
 | _,_,_,@Rep.lstO _ _ _ _ _ c a vs ds L h n r,m=>by
  refine .lstB (h.sq fun z=>?_) (zf.vw r (fun b z=>m b (List.mem_cons_of_mem _ z)))
  rcases List.mem_append.mp z with z | z
  ·exact n z
  ·exact m a (List.mem_cons_self ..) z
theorem zf.vw:∀ {vs:List V} {ds:List D} {L:List Addr},zf K P M B H vs ds L→(∀ a∈L,a∉B)→zf K P M B H vs (D.vws ds) []
 | _,_,_,.nil,_=>.nil
 | _,_,_,.cons h r,n=>.cons (L1:=[]) (L2:=[]) (Rep.vw h (fun a z=>n a (List.mem_append_left _ z))) (zf.vw r (fun a z=>n a (List.mem_append_right _ z)))
end
mutual
/-- what comes back from a call with things that are not all frozen -/
theorem Rep.wk (hB:∀ a∈B',a∈M) (hB2:∀ a∈B',a∈B):∀ {v:V} {d:D} {L:List Addr},Rep K P M B H v d L→Rep K P M' B' H v d.wk L
 | _,_,_,.non=>.non
 | _,_,_,.bl=>.bl
 | _,_,_,.int=>.int
 | _,_,_,.str=>.str
 | _,_,_,.pen h=>.pen h
 | _,_,_,.tup h r=>.tup h (zf.wk hB hB2 r)
 | _,_,_,.exc hl hx r p=>Rep.zgo hl hx r p
 | _,_,_,.lstF h r p=>.lstB (SqC.sub h (jG hB)) (zf.wk hB hB2 r)
 | _,_,_,.lstB h r=>.lstB (SqC.sub h (jG hB2)) (zf.wk hB hB2 r)
 | _,_,_,.lstO h n r=>.lstO h n (zf.wk hB hB2 r)
theorem zf.wk (hB:∀ a∈B',a∈M) (hB2:∀ a∈B',a∈B):∀ {vs:List V} {ds:List D} {L:List Addr},zf K P M B H vs ds L→zf K P M' B' H vs (D.wks ds) L
 | _,_,_,.nil=>.nil
 | _,_,_,.cons h r=>.cons (Rep.wk hB hB2 h) (zf.wk hB hB2 r)
end
mutual
/-- behind a return:what was borrowed is frozen -/
theorem Rep.rt (hM:∀ a∈B,a∈M):∀ {v:V} {d:D} {L:List Addr},Rep K P M B H v d L→Rep K P B B H v d.rt L
 | _,_,_,.non=>.non
 | _,_,_,.bl=>.bl
 | _,_,_,.int=>.int
 | _,_,_,.str=>.str
 | _,_,_,.pen h=>.pen h
 | _,_,_,.tup h r=>.tup h (zf.rt hM r)
 | _,_,_,.exc hl hx r p=>Rep.zgo hl hx r p
 | _,_,_,.lstF h r p=>.lstF (SqC.sub h (jG hM)) (zf.sub hM (fun _ z=>z) (zf.pf r p).2) p
 | _,_,_,.lstB h r=>by
  obtain ⟨q,p⟩:=zf.fz hM (fun _ z=>z) r (fun _ z=>nomatch z)
  exact .lstF h q p
 | _,_,_,.lstO h n r=>.lstO h n (zf.rt hM r)
theorem zf.rt (hM:∀ a∈B,a∈M):∀ {vs:List V} {ds:List D} {L:List Addr},zf K P M B H vs ds L→zf K P B B H vs (D.rts ds) L
 | _,_,_,.nil=>.nil
 | _,_,_,.cons h r=>.cons (Rep.rt hM h) (zf.rt hM r)
end
theorem TpT.upd {a c:Addr} {xs:List V} {o:HO} (h:TpT K H a xs) (hc:Mo H c):TpT K (upd H c o) a xs:=by
 have ne:a≠c:=fun e=>by
  subst e
  exact hc.nt.1 _ h
 unfold TpT
 rw [upd_ne ne]
 exact h
theorem SqF.upd {a c:Addr} {xs:List V} {o:HO} (h:SqF K N H a xs) (hm:c∈N):SqF K N (upd H c o) a xs:=by
 rcases h with ⟨r,n⟩ | h
 ·have ne:a≠c:=fun e=>n (e ▸ hm)
  refine .inl ⟨?_,n⟩
  rcases r with r | ⟨x,r⟩
  ·exact .inl (by rw [upd_ne ne]; exact r)
  ·exact .inr ⟨x,by rw [upd_ne ne]; exact r⟩
 ·exact .inr h
theorem SqC.upd {k:Ct} {a c:Addr} {xs:List V} {o:HO} (h:SqC K N H k a xs) (hm:c∈N):SqC K N (upd H c o) k a xs:=by
 rcases h.to with ⟨ok,⟨dx,r⟩,n⟩ | h
 ·have ne:a≠c:=fun e=>n (e ▸ hm)
  refine .of (.inl ⟨ok,⟨dx,?_⟩,n⟩) fun e=>(h.z e).imp (fun e=>by rw [upd_ne ne]; exact e) id
  rcases r with r | ⟨x,r⟩
  ·exact .inl (by rw [upd_ne ne]; exact r)
  ·exact .inr ⟨x,by rw [upd_ne ne]; exact r⟩
 ·exact .of (.inr h) (KL.z h)
theorem CtO.upd {k:Ct} {a c:Addr} {xs:List V} {o:HO} (h:CtO H k a xs) (n:a≠c):CtO (upd H c o) k a xs:=by
 obtain ⟨ok,dx,e⟩:=h.to
 exact .of ok (by rw [upd_ne n]; exact e)
mutual
theorem Rep.zil {c:Addr} {o:HO} (hc:Mo H c):∀ {v:V} {d:D} {L:List Addr},Rep K P M B H v d L→d.bare=true→Rep K P M' B' (upd H c o) v d []
 | _,_,_,.non,_=>.non
 | _,_,_,.bl,_=>.bl
 | _,_,_,.int,_=>.int
 | _,_,_,.str,_=>.str
 | _,_,_,.pen _,p=>by simp [D.bare] at p
 | _,_,_,.tup h r,p=>.tup (TpT.upd h hc) (zf.zil hc r (by simpa [D.bare] using p))
 | _,_,_,.lstF _ _ _,p=>by simp [D.bare] at p
 | _,_,_,.lstB _ _,p=>by simp [D.bare] at p
 | _,_,_,.lstO _ _ _,p=>by simp [D.bare] at p
 | _,_,_,.exc _ _ _ _,p=>by simp [D.bare] at p
theorem zf.zil {c:Addr} {o:HO} (hc:Mo H c):∀ {vs:List V} {ds:List D} {L:List Addr},zf K P M B H vs ds L→D.ZL ds=true→zf K P M' B' (upd H c o) vs ds []
 | _,_,_,.nil,_=>.nil
 | _,_,_,.cons h r,p=>by
  simp only [D.ZL,Bool.and_eq_true] at p
  exact .cons (L1:=[]) (L2:=[]) (Rep.zil hc h p.1) (zf.zil hc r p.2)
end
theorem Rep.zrL {c a dd:Addr} {o:HO} {ns:List Str} {vs:List V} {ds:List D} (hc:Mo H c) (hl:ns.length=vs.length) (hx:H dd=some (.xd (ns.zip vs))) (r:zf K P M B H vs ds []) (p:D.ZL ds=true):Rep K P M' B' (upd H c o) (.ref a) (.exc a dd ns ds) []:=
 .exc hl (by rw [upd_ne (fun e=>by rw [e] at hx; exact hc.nt.2.2.2.2 _ hx)]; exact hx) (zf.zil hc r p) p
mutual
/-- an own list of another is changed -/
theorem Rep.mut {c:Addr} {o:HO} (hc:Mo H c) (hm:c∈M):∀ {v:V} {d:D} {L:List Addr},Rep K P M B H v d L→d.nb=true→c∉L→Rep K P M B (upd H c o) v d L
 | _,_,_,.non,_,_=>.non
 | _,_,_,.bl,_,_=>.bl
 | _,_,_,.int,_,_=>.int
 | _,_,_,.str,_,_=>.str
 | _,_,_,.pen h,_,_=>.pen h
 | _,_,_,.tup h r,p,n=>by
  refine .tup ?_ (zf.mut hc hm r (by simpa [D.nb] using p) n)
  exact TpT.upd h hc
 | _,_,_,.exc hl hx r p,_,_=>Rep.zrL hc hl hx r p
 | _,_,_,.lstF h r p,_,_=>by
  exact .lstF (SqC.upd h (List.mem_append_right _ hm)) (zf.zmq hc hm r p) p
 | _,_,_,.lstB _ _,p,_=>by simp [D.nb] at p
 | _,_,_,.lstO h n r,p,q=>by
  exact .lstO (h.upd fun z=>q (by simp [z])) n (zf.mut hc hm r (by simpa [D.nb] using p) fun z=>q (List.mem_cons_of_mem _ z))
theorem zf.mut {c:Addr} {o:HO} (hc:Mo H c) (hm:c∈M):∀ {vs:List V} {ds:List D} {L:List Addr},zf K P M B H vs ds L→D.nbs ds=true→c∉L→zf K P M B (upd H c o) vs ds L
 | _,_,_,.nil,_,_=>.nil
 | _,_,_,.cons h r,p,n=>by
  simp only [D.nbs,Bool.and_eq_true] at p
  exact .cons (Rep.mut hc hm h p.1 fun z=>n (List.mem_append_left _ z)) (zf.mut hc hm r p.2 fun z=>n (List.mem_append_right _ z))
theorem Rep.zmq {c:Addr} {o:HO} (hc:Mo H c) (hm:c∈M):∀ {v:V} {d:D} {L:List Addr},Rep K P M B H v d L→d.pf=true→Rep K P M B (upd H c o) v d L
 | _,_,_,.non,_=>.non
 | _,_,_,.bl,_=>.bl
 | _,_,_,.int,_=>.int
 | _,_,_,.str,_=>.str
 | _,_,_,.pen h,_=>.pen h
 | _,_,_,.tup h r,p=>by
  refine .tup ?_ (zf.zmq hc hm r (by simpa [D.pf] using p))
  exact TpT.upd h hc
 | _,_,_,.exc hl hx r p,_=>Rep.zrL hc hl hx r p
 | _,_,_,.lstF h r p,_=>by
  exact .lstF (SqC.upd h (List.mem_append_right _ hm)) (zf.zmq hc hm r p) p
 | _,_,_,.lstB _ _,p=>by simp [D.pf] at p
 | _,_,_,.lstO _ _ _,p=>by simp [D.pf] at p
theorem zf.zmq {c:Addr} {o:HO} (hc:Mo H c) (hm:c∈M):∀ {vs:List V} {ds:List D} {L:List Addr},zf K P M B H vs ds L→D.pfs ds=true→zf K P M B (upd H c o) vs ds L
 | _,_,_,.nil,_=>.nil
 | _,_,_,.cons h r,p=>by
  simp only [D.pfs,Bool.and_eq_true] at p
  exact .cons (Rep.zmq hc hm h p.1) (zf.zmq hc hm r p.2)
end
theorem zf.len:∀ {vs:List V} {ds:List D} {L:List Addr},zf K P M B H vs ds L→vs.length=ds.length
 | _,_,_,.nil=>rfl
 | _,_,_,.cons _ r=>congrArg Nat.succ r.len
theorem zf.get:∀ {vs:List V} {ds:List D} {L:List Addr} {i:Nat} {d:D},zf K P M B H vs ds L→ds[i]?=some d→∃ v L1,vs[i]?=some v∧Rep K P M B H v d L1∧∀ a∈L1,a∈L
 | _,_,_,_,_,.nil,e=>by simp at e
 | _,_,_,0,_,.cons h r,e=>by
  simp at e
  subst e
  exact ⟨_,_,rfl,h,fun a z=>List.mem_append_left _ z⟩
 | _,_,_,i+1,_,.cons h r,e=>by
  obtain ⟨v,L1,e1,q,s⟩:=r.get (i:=i) (by simpa using e)
  exact ⟨v,L1,by simpa using e1,q,fun a z=>List.mem_append_right _ (s a z)⟩
theorem zf.app:∀ {vs ws:List V} {ds es:List D} {L L2:List Addr},zf K P M B H vs ds L→zf K P M B H ws es L2→zf K P M B H (vs++ws) (ds++es) (L++L2)
 | _,_,_,_,_,_,.nil,s=>s
 | _,_,_,_,_,_,.cons h r,s=>by
  rw [List.append_assoc]
  exact .cons h (r.app s)
end
end DL
set_option maxHeartbeats 4000000
namespace DL
open PySem PySem.Spec PyProof.Rows L2
variable [Tb]
abbrev Env:=List (Option D)
abbrev Sg:=L2.St
/-- where one stands -/
structure Stt [Tb] (P:zR) (M B:List Addr) (H:Hp):Prop where
 zM:zF P M H
 sub:∀ a∈B,a∈M
 ls:∀ a∈M,Mo H a
 tabs:∀ p∈Tb.T,jo H p.1 p.2
/-- the names' values -/
def Slots (K:PySem.W.Frag) (P:zR) (M B:List Addr) (H:Hp) (σ:Sg) (ρ:Env):Prop:=
 ρ.length≤σ.length∧∃ F:Nat→List Addr,(∀ (i:Nat) (d:D),ρ[i]?=some (some d)→∃ v,σ[i]?=some (some v)∧Rep K P M B H v d (F i))∧
  (∀ (i:Nat) (a:Addr),a∈F i→a∈M∧a∉B)∧(∀ i:Nat,(F i).Nodup)∧∀ (i j:Nat) (a:Addr),a∈F i→a∈F j→i=j
/-- a good value:T are temporary lists that it may have taken over -/
def Res (K:PySem.W.Frag) (P:zR) (M B T:List Addr) (H:Hp) (Q0:D→Prop):V→Hp→Prop:=fun v H'=>
 ∃ c Lr,Q0 c∧Gr P.as H H'∧zF P (Lr++M) H'∧Rep K P (Lr++M) (Lr++B) H' v c Lr∧Lr.Nodup∧∀ a∈Lr,H a=none∨a∈T
def zui (K:PySem.W.Frag) (P:zR) (M B:List Addr) (H:Hp) (Q0:List D→Prop):List V→Hp→Prop:=fun vs H'=>
 ∃ cs Lr,Q0 cs∧Gr P.as H H'∧zF P (Lr++M) H'∧zf K P (Lr++M) (Lr++B) H' vs cs Lr∧Lr.Nodup∧∀ a∈Lr,H a=none
abbrev DT:=Env→(D→Prop)→Prop
abbrev DTA:=Env→(List D→Prop)→Prop
def lift (K:PySem.W.Frag) (t:DT):TE:=fun σ H Q=>∃ P M B ρ Q0,Stt P M B H∧Slots K P M B H σ ρ∧t ρ Q0∧∀ v H',Res K P M B [] H Q0 v H'→Q v H'
def XQ (K:PySem.W.Frag) (t:DTA):TA:=fun σ H Q=>∃ P M B ρ Q0,Stt P M B H∧Slots K P M B H σ ρ∧t ρ Q0∧∀ v H',zui K P M B H Q0 v H'→Q v H'
def liftT (K:PySem.W.Frag) (t:Env→(Bool→Prop)→Prop):TT:=fun σ H Q=>∃ P M B ρ Q0,Stt P M B H∧Slots K P M B H σ ρ∧t ρ Q0∧
 ∀ b H',Q0 b→Gr P.as H H'→zF P M H'→Q b H'
section
variable {K:PySem.W.Frag} {P:zR} {M M' B B' T L Lr:List Addr} {H H':Hp} {σ:Sg} {ρ:Env} {v:V} {d:D}
theorem Stt.lists (s:Stt P M B H):∀ b∈P.as,∃ ys,H b=some (.lst ys):=fun _ hb=>s.zM.lst hb
theorem yx {Lr M:List Addr} (h:∀ a∈Lr,H a=none):∀ a∈Lr++M,a∈M∨H a=none:=fun a z=>
 (List.mem_append.mp z).elim (fun q=>.inr (h a q)) .inl
theorem Gr.trk (g:Gr P.as H H') (h:zF P M' H') {a:Addr} (ha:H a≠none):H' a≠none:=fun z=>ha (g.nil h z)
theorem Stt.trk (s:Stt P M B H):∀ a∈M,H a≠none:=fun a z=>(s.ls a z).trk
theorem Stt.np (s:Stt P M B H):∀ a∈M,a∉P.as:=fun a z q=>by
 obtain ⟨l,hl⟩:=zR.mem q
 exact (s.zM a l hl).1 z
/-- behind an expression -/
theorem Stt.after (s:Stt P M B H) (g:Gr P.as H H') (p:zF P (Lr++M) H') (own:∀ a∈Lr,Mo H' a):Stt P (Lr++M) (Lr++B) H':=
 ⟨p,jG s.sub,fun a z=>(List.mem_append.mp z).elim (own a) fun q=>(s.ls a q).gr g (s.np a q),fun x z=>g.tab _ _ z (s.tabs x z)⟩
theorem Slots.after (s:Stt P M B H) (h:Slots K P M B H σ ρ) (g:Gr P.as H H') (n:∀ a∈Lr,H a=none):Slots K P (Lr++M) (Lr++B) H' σ ρ:=by
 obtain ⟨hl,F,h1,h2,h3,h4⟩:=h
 refine ⟨hl,F,fun i d e=>?_,fun i a z=>⟨List.mem_append_right _ (h2 i a z).1,fun q=>?_⟩,h3,h4⟩
 ·obtain ⟨v,e1,r⟩:=h1 i d e
  exact ⟨v,e1,Rep.gr g s.lists (yx n) (yx n) r⟩
 ·rcases List.mem_append.mp q with q | q
  ·exact s.trk a (h2 i a z).1 (n a q)
  ·exact (h2 i a z).2 q
theorem Slots.get (h:Slots K P M B H σ ρ) {i:Nat} (e:ρ[i]?=some (some d)):∃ v L,σ[i]?=some (some v)∧Rep K P M B H v d L∧(∀ a∈L,a∈M∧a∉B)∧L.Nodup:=by
 obtain ⟨_,F,h1,h2,h3,h4⟩:=h
 obtain ⟨v,e1,r⟩:=h1 i d e
 exact ⟨v,F i,e1,r,fun a z=>h2 i a z,h3 i⟩
/-- a value that owns nothing,at the heap as it stands -/
theorem Res.same {Q0:D→Prop} (s:Stt P M B H) (r:Rep K P M B H v d []) (q:Q0 d):Res K P M B T H Q0 v H:=
 ⟨d,[],q,Gr.refl,s.zM,r,List.nodup_nil,fun _ z=>nomatch z⟩
end
/-- values handed to an operation:L the temporary lists -/
structure Args (K:PySem.W.Frag) (P:zR) (M B:List Addr) (H:Hp) (vs:List V) (ds:List D) (L:List Addr):Prop where
 stt:Stt P (L++M) (L++B) H
 reps:zf K P (L++M) (L++B) H vs ds L
 nd:L.Nodup
 sub:∀ a∈B,a∈M
 out:∀ a∈L,a∉M
abbrev DO:=List D→(D→Prop)→Prop
def rC (K:PySem.W.Frag) (o:DO):List V→Hp→VK→Prop:=fun vs H Q=>∃ P M B ds L Q0,Args K P M B H vs ds L∧o ds Q0∧∀ v H',Res K P M B L H Q0 v H'→Q v H'
def rD (K:PySem.W.Frag) (o:DO):R2:=fun x y H Q=>rC K o [x,y] H Q
def zP (o:DO) (ta tb:DT):DT:=fun ρ Q=>ta ρ fun x=>tb ρ fun y=>o [x,y] Q
def dUn (o:DO) (ta:DT):DT:=fun ρ Q=>ta ρ fun x=>o [x] Q
def dCall (o:DO) (ta:DTA):DT:=fun ρ Q=>ta ρ fun xs=>o xs Q
section
variable {K:PySem.W.Frag} {P:zR} {M B L L1 L2 L' Lr:List Addr} {H H':Hp} {σ:Sg} {ρ:Env} {v:V} {d:D} {vs vs':List V} {ds ds':List D} {Q0:D→Prop}
theorem Rep.trk (r:Rep K P M B H v d L):∀ a∈L,H a≠none:=fun a z=>(Rep.own r a z).1.trk
theorem zf.trk (r:zf K P M B H vs ds L):∀ a∈L,H a≠none:=fun a z=>(zf.own r a z).1.trk
/-- the arguments have been evaluated -/
theorem Args.of (s:Stt P M B H) (g:Gr P.as H H') (p:zF P (L++M) H') (r:zf K P (L++M) (L++B) H' vs ds L) (n:L.Nodup) (f:∀ a∈L,H a=none):Args K P M B H' vs ds L:=
 ⟨s.after g p fun a z=>(zf.own r a z).1,r,n,s.sub,fun a z q=>s.trk a q (f a z)⟩
theorem Args.base (A:Args K P M B H vs ds L):Stt P M B H:=
 ⟨A.stt.zM.grow fun a z=>.inl (List.mem_append_right _ z),A.sub,fun a z=>A.stt.ls a (List.mem_append_right _ z),A.stt.tabs⟩
/-- what follows an operation follows the whole -/
theorem Res.back {H1:Hp} {M':List Addr} (r:Res K P M B L H' Q0 v H1) (g:Gr P.as H H') (p:zF P M' H') (f:∀ a∈L,H a=none):Res K P M B [] H Q0 v H1:=by
 obtain ⟨c,Lr,q0,g',p',r,n,f'⟩:=r
 refine ⟨c,Lr,q0,g.trans g',p',r,n,fun a z=>.inl ?_⟩
 rcases f' a z with q | q
 ·exact g.nil p q
 ·exact f a q
theorem zcS {o:DO} {ta:DTA} {Q:VK} (h:lift K (dCall o ta) σ H Q):XQ K ta σ H fun vs H1=>rC K o vs H1 Q:=by
 obtain ⟨P,M,B,ρ,Q0,s,sl,t,k⟩:=h
 refine ⟨P,M,B,ρ,_,s,sl,t,fun vs H1 r1=>?_⟩
 obtain ⟨ds,L,t1,g1,p1,r1,n1,f1⟩:=r1
 exact ⟨P,M,B,ds,L,Q0,Args.of s g1 p1 r1 n1 f1,t1,fun v H' r=>k v H' (Res.back (M':=L++M) r g1 p1 f1)⟩
theorem Xq {o:DO} {ta:DT} {Q:VK} (h:lift K (dUn o ta) σ H Q):lift K ta σ H fun v H1=>rC K o [v] H1 Q:=by
 obtain ⟨P,M,B,ρ,Q0,s,sl,t,k⟩:=h
 refine ⟨P,M,B,ρ,_,s,sl,t,fun v H1 r1=>?_⟩
 obtain ⟨d,L,t1,g1,p1,r1,n1,f1⟩:=r1
 have f1:∀ a∈L,H a=none:=fun a z=>(f1 a z).elim id fun q=>nomatch q
 refine ⟨P,M,B,[d],L++[],Q0,?_,t1,fun v H' r=>k v H' (Res.back (M':=L++M) r g1 p1 ?_)⟩
 ·rw [List.append_nil]
  have r':=zf.cons r1 .nil
  rw [List.append_nil] at r'
  exact Args.of s g1 p1 r' n1 f1
 ·rw [List.append_nil]; exact f1
theorem zaW {Q:List V→Hp→Prop} (h:XQ K (fun _ Q=>Q []) σ H Q):tNil σ H Q:=by
 obtain ⟨P,M,B,ρ,Q0,s,sl,t,k⟩:=h
 exact k [] H ⟨[],[],t,Gr.refl,s.zM,.nil,List.nodup_nil,fun _ z=>nomatch z⟩
theorem mem3 {A B C:List Addr} {a:Addr}:a∈B++(A++C)↔a∈(A++B)++C:=by
 simp only [List.mem_append]
 constructor
 ·rintro (h | h | h)
  ·exact .inl (.inr h)
  ·exact .inl (.inl h)
  ·exact .inr h
 ·rintro ((h | h) | h)
  ·exact .inr (.inl h)
  ·exact .inl h
  ·exact .inr (.inr h)
theorem jV {A B:List Addr} (h1:A.Nodup) (h2:B.Nodup) (d:∀ a∈A,a∉B):(A++B).Nodup:=
 List.nodup_append.mpr ⟨h1,h2,fun a z b q e=>d a z (e ▸ q)⟩
theorem XR {te:DT} {tr:DTA} {Q:List V→Hp→Prop} (h:XQ K (fun ρ Q=>te ρ fun x=>tr ρ fun xs=>Q (x::xs)) σ H Q):tCons (lift K te) (XQ K tr) σ H Q:=by
 obtain ⟨P,M,B,ρ,Q0,s,sl,t,k⟩:=h
 refine ⟨P,M,B,ρ,_,s,sl,t,fun x H1 r1=>?_⟩
 obtain ⟨d,L1,t1,g1,p1,r1,n1,f1⟩:=r1
 have f1:∀ a∈L1,H a=none:=fun a z=>(f1 a z).elim id fun q=>nomatch q
 have s1:=s.after g1 p1 fun a z=>(Rep.own r1 a z).1
 refine ⟨P,L1++M,L1++B,ρ,_,s1,sl.after s g1 f1,t1,fun xs H2 r2=>?_⟩
 obtain ⟨ds,L2,t2,g2,p2,r2,n2,f2⟩:=r2
 have r1':=Rep.gr g2 s1.lists (yx f2) (yx f2) r1
 refine k _ _ ⟨d::ds,L1++L2,t2,g1.trans g2,p2.grow fun a z=>.inl (mem3.mpr z),?_,jV n1 n2 fun a z q=>r1.trk a z (f2 a q),fun a z=>?_⟩
 ·exact .cons (Rep.sub (fun a z=>mem3.mpr z) (fun a z=>mem3.mpr z) r1') (zf.sub (fun a z=>mem3.mpr z) (fun a z=>mem3.mpr z) r2)
 ·rcases List.mem_append.mp z with z | z
  ·exact f1 a z
  ·exact g1.nil p1 (f2 a z)
theorem zb9 {o:DO} {ta tb:DT} {Q:VK} (h:lift K (zP o ta tb) σ H Q):tOp (rD K o) (lift K ta) (lift K tb) σ H Q:=by
 obtain ⟨P,M,B,ρ,Q0,s,sl,t,k⟩:=h
 refine ⟨P,M,B,ρ,_,s,sl,t,fun x H1 r1=>?_⟩
 obtain ⟨d,L1,t1,g1,p1,r1,n1,f1⟩:=r1
 have f1:∀ a∈L1,H a=none:=fun a z=>(f1 a z).elim id fun q=>nomatch q
 have s1:=s.after g1 p1 fun a z=>(Rep.own r1 a z).1
 refine ⟨P,L1++M,L1++B,ρ,_,s1,sl.after s g1 f1,t1,fun y H2 r2=>?_⟩
 obtain ⟨e,L3,t2,g2,p2,r2,n2,f2⟩:=r2
 have f2:∀ a∈L3,H1 a=none:=fun a z=>(f2 a z).elim id fun q=>nomatch q
 have r1':=Rep.gr g2 s1.lists (yx f2) (yx f2) r1
 have f3:∀ a∈L1++(L3++[]),H a=none:=fun a z=>by
  rw [List.append_nil] at z
  rcases List.mem_append.mp z with z | z
  ·exact f1 a z
  ·exact g1.nil p1 (f2 a z)
 have r3:zf K P ((L1++(L3++[]))++M) ((L1++(L3++[]))++B) H2 [x,y] [d,e] (L1++(L3++[])):=by
  refine .cons (Rep.sub ?_ ?_ r1') (.cons (Rep.sub ?_ ?_ r2) .nil) <;> (rw [List.append_nil]; exact fun a z=>mem3.mpr z)
 exact ⟨P,M,B,[d,e],L1++(L3++[]),Q0,Args.of s (g1.trans g2) (p2.grow fun a z=>.inl (by rw [List.append_nil] at z; exact mem3.mpr z)) r3
  (by rw [List.append_nil]; exact jV n1 n2 fun a z q=>r1.trk a z (f2 a q)) f3,t2,fun v H' r=>k v H' (Res.back r (g1.trans g2) p2 f3)⟩
theorem Args.plain (A:Args K P M B H vs ds L) {v:V} {c:D} (r:∀ {N:List Addr},Rep K P N N H v c []) (q:Q0 c):Res K P M B L H Q0 v H:=
 ⟨c,[],q,Gr.refl,A.base.zM,Rep.sub (M:=M++B) (B:=M++B) (fun a z=>List.mem_append_left _ z) (fun a z=>List.mem_append_right _ z) r,List.nodup_nil,fun _ z=>nomatch z⟩
theorem ze4 {L' L M:List Addr} (hL:∀ a∈L',a∈L):∀ a∈L'++M,a∈L++M:=fun a z=>by
 rcases List.mem_append.mp z with z | z
 ·exact List.mem_append_left _ (hL a z)
 ·exact List.mem_append_right _ z
theorem Args.elem (A:Args K P M B H vs ds L) {v:V} {c:D} (r:Rep K P (L++M) (L++B) H v c L') (hL:∀ a∈L',a∈L) (n:L'.Nodup) (q:Q0 c):Res K P M B L H Q0 v H:=
 ⟨c,L',q,Gr.refl,A.stt.zM.grow fun a z=>.inl (ze4 hL a z),Rep.sub (ze4 hL) (ze4 hL) r,n,fun a z=>.inr (hL a z)⟩
theorem Args.zgp (A:Args K P M B H vs ds L) {p:Addr} (hp:H p=none) (r:zf K P (L++M) (L++B) H vs' ds' L') (hL:∀ a∈L',a∈L) (n:L'.Nodup) (q:Q0 (.con .l .o ds')):Res K P M B L H Q0 (.ref p) (upd H p (.lst vs')):=by
 have pp:p∉P.as:=fun z=>by
  obtain ⟨ys,e⟩:=A.stt.lists p z
  rw [e] at hp; cases hp
 have hM:∀ {M:List Addr},∀ a∈(p::L')++M,a∈L++M∨H a=none:=fun a z=>by
  rcases List.mem_cons.mp z with e | z
  ·exact .inr (e ▸ hp)
  ·exact .inl (ze4 hL a z)
 refine ⟨.con .l .o ds',p::L',q,Gr.laid hp,(A.stt.zM.grow hM).laid hp,.lstO upd_same pp (zf.gr (Gr.laid hp) A.stt.lists hM hM r),List.nodup_cons.mpr ⟨fun z=>A.stt.trk p (List.mem_append_left _ (hL p z)) hp,n⟩,fun a z=>?_⟩
 rcases List.mem_cons.mp z with e | z
 ·exact .inl (e ▸ hp)
 ·exact .inr (hL a z)
theorem Args.zrM (A:Args K P M B H vs ds L) {p:Addr} (hp:H p=none) (r:zf K P (L++M) (L++B) H vs' ds' L') (hL:∀ a∈L',a∈L) (n:L'.Nodup) (q:Q0 (.tup ds')):Res K P M B L H Q0 (.ref p) (upd H p (.tup vs')):=by
 have hM:∀ {M:List Addr},∀ a∈L'++M,a∈L++M∨H a=none:=fun a z=>.inl (ze4 hL a z)
 exact ⟨.tup ds',L',q,Gr.laid hp,(A.stt.zM.grow hM).laid hp,.tup (upd_same) (zf.gr (Gr.laid hp) A.stt.lists hM hM r),n,fun a z=>.inr (hL a z)⟩
end
end DL
set_option maxHeartbeats 4000000
set_option exponentiation.threshold 50000
namespace DL
open PySem PySem.Spec PyProof.Rows L2
variable [Tb]
mutual
def D.py:D→PyData
 | .non=>.none
 | .bl b=>.bool b
 | .int i=>.int i
 | .str x=>.str x
 | .pen=>.none
 | .tup xs=>.tuple (D.pys xs)
 | .con .l _ xs=>.list (D.pys xs)
 | .con (.dK _) _ _=>.none
 | .con (.dT _) _ _=>.none
 | .con (.ins _ _ _) _ _=>.none
 | .exc _ _ _ _=>.none
def D.pys:List D→List PyData
 | []=>[]
 | x::xs=>D.py x::D.pys xs
end
/-- data of at most so many storeys,no pen in it,its texts not too long -/
def Sh:Nat→D→Prop
 | _,.non=>True
 | _,.bl _=>True
 | _,.int _=>True
 | _,.str x=>PyData.strOk x=true
 | _,.pen=>False
 | 0,.tup _=>False
 | 0,.con .l _ _=>False
 | n+1,.tup xs=>∀ x∈xs,Sh n x
 | n+1,.con .l _ xs=>∀ x∈xs,Sh n x
 | _,.con (.dK _) _ _=>False
 | _,.con (.dT _) _ _=>False
 | _,.con (.ins _ _ _) _ _=>False
 | _,.exc _ _ _ _=>False
section
variable {K:PySem.W.Frag} {P:zR} {M B:List Addr} {H:Hp}
mutual
theorem Rep.dp:∀ {v:V} {d:D} {L:List Addr} {n:Nat},Rep K P M B H v d L→Sh n d→Dp K H v d.py
 | _,_,_,_,.non,_=>.non
 | _,_,_,_,.bl,_=>.bl _
 | _,_,_,_,.int,_=>.int _
 | _,_,_,_,.str,_=>.str _
 | _,_,_,_,.pen _,s=>by unfold Sh at s; exact s.elim
 | _,_,_,0,.tup _ _,s=>by unfold Sh at s; exact s.elim
 | _,_,_,n+1,.tup h r,s=>.tup h.sq (zf.dp r (by simpa [Sh] using s))
 | _,_,_,0,.lstF (c:=.l) _ _ _,s=>by unfold Sh at s; exact s.elim
 | _,_,_,n+1,.lstF (c:=.l) h r p,s=>.lst (SqF.sq h.1) (zf.dp r (by simpa [Sh] using s))
 | _,_,_,0,.lstB (c:=.l) _ _,s=>by unfold Sh at s; exact s.elim
 | _,_,_,n+1,.lstB (c:=.l) h r,s=>.lst (SqF.sq h.1) (zf.dp r (by simpa [Sh] using s))
 | _,_,_,0,.lstO (c:=.l) _ _ _,s=>by unfold Sh at s; exact s.elim
 | _,_,_,n+1,.lstO (c:=.l) h _ r,s=>.lst (SqL.of h) (zf.dp r (by simpa [Sh] using s))
 | _,_,_,_,.lstF (c:=.dK _) _ _ _,s=>by unfold Sh at s; exact s.elim
 | _,_,_,_,.lstF (c:=.dT _) _ _ _,s=>by unfold Sh at s; exact s.elim
 | _,_,_,_,.lstF (c:=.ins _ _ _) _ _ _,s=>by unfold Sh at s; exact s.elim
 | _,_,_,_,.lstB (c:=.dK _) _ _,s=>by unfold Sh at s; exact s.elim
 | _,_,_,_,.lstB (c:=.dT _) _ _,s=>by unfold Sh at s; exact s.elim
 | _,_,_,_,.lstB (c:=.ins _ _ _) _ _,s=>by unfold Sh at s; exact s.elim
 | _,_,_,_,.lstO (c:=.dK _) _ _ _,s=>by unfold Sh at s; exact s.elim
 | _,_,_,_,.lstO (c:=.dT _) _ _ _,s=>by unfold Sh at s; exact s.elim
 | _,_,_,_,.lstO (c:=.ins _ _ _) _ _ _,s=>by unfold Sh at s; exact s.elim
 | _,_,_,_,.exc _ _ _ _,s=>by unfold Sh at s; exact s.elim
theorem zf.dp:∀ {vs:List V} {ds:List D} {L:List Addr} {n:Nat},zf K P M B H vs ds L→(∀ x∈ds,Sh n x)→DpAll K H vs (D.pys ds)
 | _,_,_,_,.nil,_=>.nil
 | _,_,_,_,.cons h r,s=>.cons (Rep.dp h (s _ (List.mem_cons_self ..))) (zf.dp r fun x z=>s x (List.mem_cons_of_mem _ z))
end
end
theorem Sh.lay:∀ {n:Nat} {d:D},Sh n d→d.py.canLay0=true∧d.py.depth≤n
 | _,.non,_=>⟨rfl,by simp [D.py,PyData.depth]⟩
 | _,.bl _,_=>⟨rfl,by simp [D.py,PyData.depth]⟩
 | _,.int _,_=>⟨rfl,by simp [D.py,PyData.depth]⟩
 | _,.str _,s=>⟨by simpa [D.py,PyData.canLay0,Sh] using s,by simp [D.py,PyData.depth]⟩
 | _,.pen,s=>by unfold Sh at s; exact s.elim
 | 0,.tup _,s=>by unfold Sh at s; exact s.elim
 | 0,.con .l _ _,s=>by unfold Sh at s; exact s.elim
 | _,.con (.dK _) _ _,s=>by unfold Sh at s; exact s.elim
 | _,.con (.dT _) _ _,s=>by unfold Sh at s; exact s.elim
 | _,.con (.ins _ _ _) _ _,s=>by unfold Sh at s; exact s.elim
 | _,.exc _ _ _ _,s=>by unfold Sh at s; exact s.elim
 | n+1,.tup xs,s=>by
  have s':∀ x∈xs,Sh n x:=by simpa [Sh] using s
  have go:∀ ys:List D,(∀ x∈ys,Sh n x)→PyData.canLayAll0 (D.pys ys)=true∧PyData.depthAll (D.pys ys)≤n:=by
   intro ys
   induction ys with
   | nil=>intro _; exact ⟨rfl,by simp [D.pys,PyData.depthAll]⟩
   | cons y r ih=>
    intro h
    obtain ⟨a,b⟩:=Sh.lay (h y (List.mem_cons_self ..))
    obtain ⟨c,e⟩:=ih fun x z=>h x (List.mem_cons_of_mem _ z)
    refine ⟨by simp [D.pys,PyData.canLayAll0,a,c],?_⟩
    simp only [D.pys,PyData.depthAll]
    omega
  obtain ⟨a,b⟩:=go xs s'
  refine ⟨by simpa [D.py,PyData.canLay0] using a,?_⟩
  simp only [D.py,PyData.depth]
  omega
 | n+1,.con .l _ xs,s=>by
  have s':∀ x∈xs,Sh n x:=by simpa [Sh] using s
  have go:∀ ys:List D,(∀ x∈ys,Sh n x)→PyData.canLayAll0 (D.pys ys)=true∧PyData.depthAll (D.pys ys)≤n:=by
   intro ys
   induction ys with
   | nil=>intro _; exact ⟨rfl,by simp [D.pys,PyData.depthAll]⟩
   | cons y r ih=>
    intro h
    obtain ⟨a,b⟩:=Sh.lay (h y (List.mem_cons_self ..))
    obtain ⟨c,e⟩:=ih fun x z=>h x (List.mem_cons_of_mem _ z)
    refine ⟨by simp [D.pys,PyData.canLayAll0,a,c],?_⟩
    simp only [D.pys,PyData.depthAll]
    omega
  obtain ⟨a,b⟩:=go xs s'
  refine ⟨by simpa [D.py,PyData.canLay0] using a,?_⟩
  simp only [D.py,PyData.depth]
  omega
theorem Sh.shaped {d:D} (h:Sh 60 d):SeqAt.shaped d.py=true:=by
 obtain ⟨a,b⟩:=h.lay
 unfold SeqAt.shaped
 rw [a,Bool.true_and]
 exact decide_eq_true (by omega)
/-- == of data -/
def eqD (x y:D):Bool:=PyData.eqv x.py y.py
end DL
namespace DL
open PySem PySem.Spec PyProof.Rows L2
variable [Tb]
/-- a bound for factors -/
def BIG:Nat:=2 ^ 40000
theorem znK {i:Int} {n:Nat} (h:i.natAbs < 2 ^ n) (hn:n≤40000):i.natAbs < BIG:=Nat.lt_of_lt_of_le h (Nat.pow_le_pow_right (by decide) hn)
def MulOk (i j:Int):Prop:=i.natAbs < BIG∧j.natAbs < BIG
theorem MulOk.w {i j:Int} (h:MulOk i j):CMulW i j:=wide_mul (a:=40000) (b:=40000) h.1 h.2 (by decide) (by decide) (by decide)
def zgL (j:Int):Prop:=0 < j∧j.natAbs < 2 ^ 2000
theorem zgL.w {i j:Int} (h:zgL j):CDivW i j:=wide_div (b:=2000) h.1 h.2 (by decide) (by decide)
abbrev D2:=D→D→(D→Prop)→Prop
abbrev D1:=D→(D→Prop)→Prop
def o2 (f:D2):DO:=fun ds Q=>match ds with
 | [x,y]=>f x y Q
 | _=>False
def o1 (f:D1):DO:=fun ds Q=>match ds with
 | [x]=>f x Q
 | _=>False
def XS:D2
 | .int i,.int j,Q=>Q (.int (i+j))
 | .int i,.bl k,Q=>Q (.int (i+b2i k))
 | .str a,.str b,Q=>a.length+b.length≤sizeLine∧Q (.str (a++b))
 | .con .l _ xs,.con .l _ ys,Q=>xs.length+ys.length≤sizeLine∧Q (.con .l .o (xs++ys))
 | .tup xs,.tup ys,Q=>xs≠[]∧ys≠[]∧xs.length+ys.length≤sizeLine∧Q (.tup (xs++ys))
 | _,_,_=>False
def zcT:D2
 | .int i,.int j,Q=>Q (.int (i - j))
 | _,_,_=>False
def znL:D2
 | .int i,.int j,Q=>MulOk i j∧Q (.int (i * j))
 | .con .l .o xs,.int k,Q=>D.pfs xs=true∧0≤k∧k < 2 ^ 63∧xs.length * k.toNat≤sizeLine∧Q (.con .l .o (List.replicate k.toNat xs).flatten)
 | _,_,_=>False
def ztb:D2
 | .int i,.int j,Q=>zgL j∧Q (.int (i / j))
 | _,_,_=>False
def znM:D2
 | .int i,.int j,Q=>0 < j∧Q (.int (i % j))
 | _,_,_=>False
def znN:D2
 | .int i,.int j,Q=>0≤j∧j≤1000∧i.natAbs < 2 ^ 64∧Q (.int (i ^ j.toNat))
 | _,_,_=>False
def zgq:D1
 | .int i,Q=>Q (.int (-i))
 | _,_=>False
def eqO (f:Bool→Bool):D2:=fun x y Q=>Sh 60 x∧Sh 60 y∧Q (.bl (f (eqD x y)))
def zex (p:Int→Int→Bool):D2
 | .int i,.int j,Q=>Q (.bl (p i j))
 | _,_,_=>False
def inO (f:Bool→Bool):D2
 | x,.con .l _ ys,Q=>Sh 60 x∧(∀ y∈ys,Sh 58 y)∧Q (.bl (f (ys.any fun z=>eqD z x)))
 | x,.tup ys,Q=>Sh 60 x∧(∀ y∈ys,Sh 58 y)∧Q (.bl (f (ys.any fun z=>eqD z x)))
 | .str c,.str z,Q=>c.cps.size=1∧Q (.bl (f (decide (c.cps.getD 0 0∈z.cps.toList))))
 | _,_,_=>False
def isN:D→Bool
 | .non=>true
 | _=>false
def isO (f:Bool→Bool):D2
 | x,.non,Q=>Q (.bl (f (isN x)))
 | _,_,_=>False
def ixD:D2
 | .con .l _ xs,.int i,Q=>(match atI xs i with | some d=>Q d | none=>False)
 | .tup xs,.int i,Q=>(match atI xs i with | some d=>Q d | none=>False)
 | .str z,.int i,Q=>z.length≤sizeLine∧(match atI z.cps.toList i with | some c=>Q (.str ⟨#[c]⟩) | none=>False)
 | _,_,_=>False
section
variable {K:PySem.W.Frag} {P:zR} {M B L:List Addr} {H:Hp}
theorem v1 {vs:List V} {d:D} (h:zf K P M B H vs [d] L):∃ v,vs=[v]∧Rep K P M B H v d L:=by
 cases h with
 | cons h r=>
  cases r
  rw [List.append_nil]
  exact ⟨_,rfl,h⟩
theorem v2 {vs:List V} {d e:D} (h:zf K P M B H vs [d,e] L):∃ v u L1 L3,vs=[v,u]∧L=L1++L3∧Rep K P M B H v d L1∧Rep K P M B H u e L3:=by
 cases h with
 | cons h r=>
  obtain ⟨u,eu,ru⟩:=v1 r
  subst eu
  exact ⟨_,_,_,_,rfl,rfl,h,ru⟩
theorem Rep.int_inv {v:V} {i:Int} (h:Rep K P M B H v (.int i) L):v=.int i∧L=[]:=by cases h; exact ⟨rfl,rfl⟩
theorem Rep.Km {v:V} {i:Bool} (h:Rep K P M B H v (.bl i) L):v=.bl i∧L=[]:=by cases h; exact ⟨rfl,rfl⟩
theorem Rep.str_inv {v:V} {i:Str} (h:Rep K P M B H v (.str i) L):v=.str i∧L=[]:=by cases h; exact ⟨rfl,rfl⟩
theorem Rep.zhc {v:V} (h:Rep K P M B H v .non L):v=.non∧L=[]:=by cases h; exact ⟨rfl,rfl⟩
theorem Rep.Qs {v:V} {ds:List D} (h:Rep K P M B H v (.tup ds) L):∃ a vs,v=.ref a∧TpT K H a vs∧zf K P M B H vs ds L:=by cases h; exact ⟨_,_,rfl,by assumption,by assumption⟩
/-- a list,whatever its standing -/
theorem Rep.lst_inv {v:V} {k:Fl} {ds:List D} (h:Rep K P M B H v (.con .l k ds) L):∃ a vs L',v=.ref a∧SqL K H a vs∧zf K P M B H vs ds L'∧(L'=L∨L=a::L'):=by
 cases h with
 | lstF h r p=>exact ⟨_,_,_,rfl,SqF.sq h.1,r,.inl rfl⟩
 | lstB h r=>exact ⟨_,_,_,rfl,SqF.sq h.1,r,.inl rfl⟩
 | lstO h n r=>exact ⟨_,_,_,rfl,SqL.of h,r,.inr rfl⟩
theorem X3 {a:Addr} {L L':List Addr} (h:L'=L∨L=a::L') (n:L.Nodup):L'.Nodup∧∀ b∈L',b∈L:=by
 rcases h with e | e
 ·subst e; exact ⟨n,fun _ z=>z⟩
 ·subst e; exact ⟨(List.nodup_cons.mp n).2,fun _ z=>List.mem_cons_of_mem _ z⟩
theorem Rep.zcU {d:D} {ds:List D} {vs:List V} {i:Nat} (h:zf K P M B H vs ds L) (n:L.Nodup) (e:ds[i]?=some d):∃ v L1,vs[i]?=some v∧Rep K P M B H v d L1∧(∀ a∈L1,a∈L)∧L1.Nodup:=by
 induction i generalizing vs ds L with
 | zero=>
  cases h with
  | nil=>simp at e
  | cons h r=>
   simp at e
   subst e
   exact ⟨_,_,rfl,h,fun a z=>List.mem_append_left _ z,(List.nodup_append.mp n).1⟩
 | succ i ih=>
  cases h with
  | nil=>simp at e
  | cons h r=>
   obtain ⟨v,L1,e1,q,s,m⟩:=ih r (List.nodup_append.mp n).2.1 (by simpa using e)
   exact ⟨v,L1,by simpa using e1,q,fun a z=>List.mem_append_right _ (s a z),m⟩
end
section
variable {X:Cx}
abbrev Two (X:Cx) (f:D2) (r:R2):Prop:=∀ (x y:V) (H:Hp) (Q:VK) (P:zR) (M B:List Addr) (d e:D) (L1 L3:List Addr) (Q0:D→Prop),Args X.K P M B H [x,y] [d,e] (L1++L3)→
 Rep X.K P ((L1++L3)++M) ((L1++L3)++B) H x d L1→Rep X.K P ((L1++L3)++M) ((L1++L3)++B) H y e L3→f d e Q0→(∀ v H',Res X.K P M B (L1++L3) H Q0 v H'→Q v H')→r x y H Q
theorem to2 {f:D2} {x y:V} {H:Hp} {Q:VK} {R:Prop} (h:rD X.K (o2 f) x y H Q) (k:∀ (P:zR) (M B:List Addr) (d e:D) (L1 L3:List Addr) (Q0:D→Prop),Args X.K P M B H [x,y] [d,e] (L1++L3)→
 Rep X.K P ((L1++L3)++M) ((L1++L3)++B) H x d L1→Rep X.K P ((L1++L3)++M) ((L1++L3)++B) H y e L3→f d e Q0→(∀ v H',Res X.K P M B (L1++L3) H Q0 v H'→Q v H')→R):R:=by
 obtain ⟨P,M,B,ds,L,Q0,A,q,kk⟩:=h
 unfold o2 at q
 split at q
 ·rename_i d e
  obtain ⟨x',y',L1,L3,e0,rfl,r1,r2⟩:=v2 A.reps
  injection e0 with e1 e2; injection e2 with e2 _; subst e1 e2
  exact k P M B d e L1 L3 Q0 A r1 r2 q kk
 ·exact q.elim
theorem opr {f:Value→Value→Sem Value} {o:D2} {r:R2} (hr:OpR X f r) (h:Two X o r):OpR X f (rD X.K (o2 o)):=by
 intro pins s σ H x y v u Q I rx ry h0
 exact to2 h0 fun P M B d e L1 L3 Q0 A r1 r2 q k=>hr pins s σ H x y v u Q I rx ry (h x y H Q P M B d e L1 L3 Q0 A r1 r2 q k)
theorem jH:OpR X (binaryOp .Add) (rD X.K (o2 XS)):=by
 intro pins s σ H x y v u Q I rx ry h0
 refine to2 h0 fun P M B d e L1 L3 Q0 A r1 r2 o k=>?_
 unfold XS at o
 split at o
 ·obtain ⟨rfl,rfl⟩:=r1.int_inv
  obtain ⟨rfl,rfl⟩:=r2.int_inv
  exact op_add pins s σ H _ _ v u Q I rx ry ⟨_,_,rfl,rfl,k _ _ (A.plain (fun {_}=>.int) o)⟩
 ·obtain ⟨rfl,rfl⟩:=r1.int_inv
  obtain ⟨rfl,rfl⟩:=r2.Km
  exact op_add_ib pins s σ H _ _ v u Q I rx ry ⟨_,_,rfl,rfl,k _ _ (A.plain (fun {_}=>.int) o)⟩
 ·obtain ⟨rfl,rfl⟩:=r1.str_inv
  obtain ⟨rfl,rfl⟩:=r2.str_inv
  exact op_add_str pins s σ H _ _ v u Q I rx ry ⟨_,_,rfl,rfl,o.1,k _ _ (A.plain (fun {_}=>.str) o.2)⟩
 ·obtain ⟨a,vs,L1',rfl,h1,r1,c1⟩:=r1.lst_inv
  obtain ⟨b,ws,L3',rfl,h2,r2,c2⟩:=r2.lst_inv
  have nd:=List.nodup_append.mp A.nd
  obtain ⟨n1,s1⟩:=X3 c1 nd.1
  obtain ⟨n2,s2⟩:=X3 c2 nd.2.1
  cases rx
  cases ry
  obtain ⟨its,q1,⟨ob1,m1,e1,f1,_,g1⟩,z1⟩:=I.list h1
  obtain ⟨its2,q2,⟨ob2,m2,e2,f2,_,g2⟩,z2⟩:=I.list h2
  obtain ⟨cls,dd,data,sl⟩:=ob1
  obtain ⟨cls2,dd2,data2,sl2⟩:=ob2
  simp only at f1 g1 f2 g2
  subst f1 g1 f2 g2
  have hz:its.length+its2.length≤sizeLine:=by rw [← q1.length,← q2.length,r1.len,r2.len]; exact o.1
  refine concat_meets ⟨_,e1,rfl⟩ ⟨_,e2,rfl⟩ noFill_list_add seq_list_add PySem.F.slot_list_add PySem.F.entry_list_add (PySem.F.args_list_add_2 _ _) (list_addW a b its.toArray its2.toArray m1 m2 dd dd2 sl sl2 (by simpa using hz)) ⟨e1,e2,?_⟩
  have ee:its.toArray++its2.toArray=(its++its2).toArray:=by simp
  rw [ee]
  exact ⟨.ref _,_,I.lnew (t':=s.toks) (q1.append q2) (by rw [List.length_append,q1.length,q2.length]; exact hz),rfl,
   k _ _ (A.zgp I.fresh (r1.app r2) (fun c z=>(List.mem_append.mp z).elim (fun q=>List.mem_append_left _ (s1 c q)) fun q=>List.mem_append_right _ (s2 c q))
    (jV n1 n2 fun c z q=>nd.2.2 c (s1 c z) c (s2 c q) rfl) o.2)⟩
 ·obtain ⟨a,vs,rfl,h1,r1⟩:=r1.Qs
  obtain ⟨b,ws,rfl,h2,r2⟩:=r2.Qs
  refine op_catT pins s σ H _ _ v u Q I rx ry ⟨a,b,vs,ws,rfl,rfl,h1.sq,h2.sq,?_,by rw [r1.len,r2.len]; exact o.2.2.1,?_,?_⟩
  ·intro z; subst z; cases r1; exact o.1 rfl
  ·intro z; subst z; cases r2; exact absurd rfl o.2.1
  ·intro _ p hp
   exact k _ _ (A.zrM hp (r1.app r2) (fun _ z=>z) A.nd o.2.2.2)
 ·exact o.elim
theorem Xr:OpR X (binaryOp .Sub) (rD X.K (o2 zcT)):=opr op_sub fun x y H Q P M B d e L1 L3 Q0 A r1 r2 q k=>by
 unfold zcT at q
 split at q
 ·obtain ⟨rfl,rfl⟩:=r1.int_inv
  obtain ⟨rfl,rfl⟩:=r2.int_inv
  exact ⟨_,_,rfl,rfl,k _ _ (A.plain (fun {_}=>.int) q)⟩
 ·exact q.elim
theorem zim {K:PySem.W.Frag} {P:zR} {M B:List Addr} {H:Hp} {vs:List V} {ds:List D} (r:zf K P M B H vs ds []):∀ n:Nat,zf K P M B H (List.replicate n vs).flatten (List.replicate n ds).flatten []
 | 0=>.nil
 | n+1=>by
  rw [List.replicate_succ,List.replicate_succ,List.flatten_cons,List.flatten_cons]
  exact zf.app (L:=[]) (L2:=[]) r (zim r n)
theorem zpR:OpR X (binaryOp .Mult) (rD X.K (o2 znL)):=by
 intro pins s σ H x y v u Q I rx ry h0
 refine to2 h0 fun P M B d e L1 L3 Q0 A r1 r2 o k=>?_
 unfold znL at o
 split at o
 ·obtain ⟨rfl,rfl⟩:=r1.int_inv
  obtain ⟨rfl,rfl⟩:=r2.int_inv
  exact op_mulW pins s σ H _ _ v u Q I rx ry ⟨_,_,rfl,rfl,o.1.w,k _ _ (A.plain (fun {_}=>.int) o.2)⟩
 ·obtain ⟨rfl,rfl⟩:=r2.int_inv
  obtain ⟨p0,p1,p2,p3,p4⟩:=o
  cases r1 with
  | lstO h n r=>
   obtain ⟨el,r'⟩:=zf.pf r p0
   refine op_rep pins s σ H _ _ v u Q I rx ry ⟨_,_,_,rfl,rfl,h,by omega,p2,by rw [r.len]; exact p3,fun p hp=>k _ _ (A.zgp hp (zim r' _) (fun _ z=>nomatch z) List.nodup_nil p4)⟩
 ·exact o.elim
theorem zpS:OpR X (binaryOp .Mod) (rD X.K (o2 znM)):=opr op_mod fun x y H Q P M B d e L1 L3 Q0 A r1 r2 q k=>by
 unfold znM at q
 split at q
 ·obtain ⟨rfl,rfl⟩:=r1.int_inv
  obtain ⟨rfl,rfl⟩:=r2.int_inv
  exact ⟨_,_,rfl,rfl,q.1,k _ _ (A.plain (fun {_}=>.int) q.2)⟩
 ·exact q.elim
theorem zla:OpR X (binaryOp .Pow) (rD X.K (o2 znN)):=opr op_pow fun x y H Q P M B d e L1 L3 Q0 A r1 r2 q k=>by
 unfold znN at q
 split at q
 ·obtain ⟨rfl,rfl⟩:=r1.int_inv
  obtain ⟨rfl,rfl⟩:=r2.int_inv
  exact ⟨_,_,rfl,rfl,⟨q.1,by omega,q.2.2.1⟩,k _ _ (A.plain (fun {_}=>.int) q.2.2.2)⟩
 ·exact q.elim
theorem znO {f:Value→Value→Sem Value} {p:Int→Int→Bool} (hr:OpR X f (rI0 fun i j=>.bl (p i j))):OpR X f (rD X.K (o2 (zex p))):=opr hr fun x y H Q P M B d e L1 L3 Q0 A r1 r2 q k=>by
 unfold zex at q
 split at q
 ·obtain ⟨rfl,rfl⟩:=r1.int_inv
  obtain ⟨rfl,rfl⟩:=r2.int_inv
  exact ⟨_,_,rfl,rfl,k _ _ (A.plain (fun {_}=>.bl) q)⟩
 ·exact q.elim
theorem ze5:OpR X (compareOp .Lt) (rD X.K (o2 (zex fun i j=>decide (i < j)))):=znO op_lt
theorem zhd:OpR X (compareOp .LtE) (rD X.K (o2 (zex fun i j=>decide (i≤j)))):=znO op_le
theorem zke:OpR X (compareOp .Gt) (rD X.K (o2 (zex fun i j=>decide (j < i)))):=znO op_gt
theorem QK (hu:X.A.units+64 < cLine):OpR X (compareOp .Eq) (rD X.K (o2 (eqO id))):=opr (op_eqD hu) fun x y H Q P M B d e L1 L3 Q0 A r1 r2 q k=>by
 obtain ⟨s1,s2,q⟩:=q
 exact ⟨_,_,r1.dp s1,r2.dp s2,s1.shaped,s2.shaped,k _ _ (A.plain (fun {_}=>.bl) q)⟩
theorem zbP (hu:X.A.units+64 < cLine):OpR X (compareOp .NotEq) (rD X.K (o2 (eqO not))):=opr (op_neD hu) fun x y H Q P M B d e L1 L3 Q0 A r1 r2 q k=>by
 obtain ⟨s1,s2,q⟩:=q
 exact ⟨_,_,r1.dp s1,r2.dp s2,s1.shaped,s2.shaped,k _ _ (A.plain (fun {_}=>.bl) q)⟩
theorem zlb {K:PySem.W.Frag} {P:zR} {M B L:List Addr} {H:Hp} {v:V} {d:D} (h:Rep K P M B H v d L):decide (v=.non)=isN d:=by
 cases h <;> simp [isN]
theorem ze6:OpR X (compareOp .Is) (rD X.K (o2 (isO id))):=opr op_isN fun x y H Q P M B d e L1 L3 Q0 A r1 r2 q k=>by
 unfold isO at q
 split at q
 ·obtain ⟨rfl,rfl⟩:=r2.zhc
  exact ⟨rfl,k _ _ (A.plain (fun {_}=>.bl) (by rw [zlb r1]; exact q))⟩
 ·exact q.elim
theorem zpT:OpR X (compareOp .IsNot) (rD X.K (o2 (isO not))):=opr op_notN fun x y H Q P M B d e L1 L3 Q0 A r1 r2 q k=>by
 unfold isO at q
 split at q
 ·obtain ⟨rfl,rfl⟩:=r2.zhc
  exact ⟨rfl,k _ _ (A.plain (fun {_}=>.bl) (by rw [zlb r1]; exact q))⟩
 ·exact q.elim
theorem zpU:UnR X (unaryOp .USub) (fun v H Q=>rC X.K (o1 zgq) [v] H Q):=by
 intro pins s σ H x v Q I rx h0
 obtain ⟨P,M,B,ds,L,Q0,A,q,k⟩:=h0
 unfold o1 at q
 split at q
 ·rename_i d
  obtain ⟨x',e0,r1⟩:=v1 A.reps
  injection e0 with e1 _; subst e1
  unfold zgq at q
  split at q
  ·obtain ⟨rfl,rfl⟩:=r1.int_inv
   exact un_neg pins s σ H _ v Q I rx ⟨_,rfl,k _ _ (A.plain (fun {_}=>.int) q)⟩
  ·exact q.elim
 ·exact q.elim
theorem zbQ {α β:Type} {xs:List α} {ys:List β} (hl:ys.length=xs.length) {i:Int} {d:α} (h:atI xs i=some d):∃ j:Nat,xs[j]?=some d∧∀ y,ys[j]?=some y→atI ys i=some y:=by
 unfold atI at h ⊢
 cases e:ixN xs.length i with
 | none=>rw [e] at h; cases h
 | some j=>
  rw [e] at h
  refine ⟨j,h,fun y hy=>?_⟩
  rw [hl,e]
  exact hy
theorem ztc:IxR X (rD X.K (o2 ixD)):=by
 intro value slice pins s σ H x y v u Q I rx ry h0 hs
 refine to2 h0 fun P M B d e L1 L3 Q0 A r1 r2 o k=>?_
 unfold ixD at o
 split at o
 ·obtain ⟨rfl,rfl⟩:=r2.int_inv
  obtain ⟨a,vs,L',rfl,h1,r1,c1⟩:=r1.lst_inv
  split at o
  ·rename_i e0
   obtain ⟨j,ej,f⟩:=zbQ r1.len e0
   obtain ⟨n1,s1⟩:=X3 c1 (List.nodup_append.mp A.nd).1
   obtain ⟨w',L5,e5,r5,s5,n5⟩:=Rep.zcU r1 n1 ej
   exact ix_list value slice pins s σ H _ _ v u Q I rx ry ⟨_,_,_,_,rfl,rfl,h1,f _ e5,k _ _ (A.elem r5 (fun b z=>List.mem_append_left _ (s1 b (s5 b z))) n5 o)⟩ hs
  ·exact o.elim
 ·obtain ⟨rfl,rfl⟩:=r2.int_inv
  obtain ⟨a,vs,rfl,h1,r1⟩:=r1.Qs
  split at o
  ·rename_i e0
   obtain ⟨j,ej,f⟩:=zbQ r1.len e0
   obtain ⟨w',L5,e5,r5,s5,n5⟩:=Rep.zcU r1 (List.nodup_append.mp A.nd).1 ej
   exact ix_tup value slice pins s σ H _ _ v u Q I rx ry ⟨_,_,_,_,rfl,rfl,h1.sq,f _ e5,k _ _ (A.elem r5 (fun b z=>List.mem_append_left _ (s5 b z)) n5 o)⟩ hs
  ·exact o.elim
 ·obtain ⟨rfl,rfl⟩:=r2.int_inv
  obtain ⟨rfl,rfl⟩:=r1.str_inv
  obtain ⟨o1,o⟩:=o
  split at o
  ·rename_i e0
   exact ix_str value slice pins s σ H _ _ v u Q I rx ry ⟨_,_,_,rfl,rfl,o1,e0,k _ _ (A.plain (fun {_}=>.str) o)⟩ hs
  ·exact o.elim
 ·exact o.elim
end
end DL
set_option maxHeartbeats 4000000
namespace DL
open PySem PySem.Spec PyProof.Rows L2
variable [Tb]
/-- a type's name -/
def tyD:D→String
 | .non=>"NoneType"
 | .bl _=>"bool"
 | .int _=>"int"
 | .str _=>"str"
 | .pen=>"list"
 | .tup _=>"tuple"
 | .con .l _ _=>"list"
 | .con (.dK _) _ _=>""
 | .con (.dT _) _ _=>""
 | .con (.ins _ _ _) _ _=>""
 | .exc _ _ _ _=>""
section
variable {X:Cx} {pins:List (Addr×Obj)} {σ:Sg} {H:Hp} {s:Shared} {P:zR} {M B L:List Addr}
theorem Rep.tyx {v:V} {d:D} (st:Stt P M B H) (r:Rep X.K P M B H v d L) (nt:(tyD d == "")=false):TyX X.K H v (.type (tyD d)):=by
 cases r with
 | non=>exact .base .non
 | bl=>exact .base (.bl _)
 | int=>exact .base (.int _)
 | str=>exact .base (.str _)
 | pen h=>
  obtain ⟨_,_,_,ns,i,b,s,e,_⟩:=st.zM _ _ h
  exact .base (.lst e)
 | tup h r=>exact .base (.tup h)
 | exc=>cases nt
 | @lstF c a vs ds h r p=>
  cases c with
  | l=>
   rcases h.1 with ⟨h | ⟨o,h⟩,_⟩ | ⟨_,o,its,n,h,c,_⟩
   ·exact .base (.lst h)
   ·exact .base (.frz h)
   ·exact .kList h c
  | _=>cases nt
 | @lstB c a vs ds h r=>
  cases c with
  | l=>
   rcases h.1 with ⟨h | ⟨o,h⟩,_⟩ | ⟨_,o,its,n,h,c,_⟩
   ·exact .base (.lst h)
   ·exact .base (.frz h)
   ·exact .kList h c
  | _=>cases nt
 | @lstO c a vs ds L h n r=>
  cases c with
  | l=>exact .base (.lst h)
  | _=>cases nt
end
/-- isinstance(x,one of these) -/
def je (t:String):List String→Option Bool
 | []=>some false
 | c::cs=>match kitB t c with
  | some true=>some true
  | some false=>je t cs
  | none=>none
theorem zlc {K:PySem.W.Frag} {t:String}:∀ {cs:List String} {b:Bool},je t cs=some b→PySem.W.kitAny K (.type t) (cs.map Value.type)=some b
 | [],b,h=>by
  have e:false=b:=Option.some.inj h
  subst e
  rfl
 | c::cs,b,h=>by
  unfold je at h
  cases e:kitB t c with
  | none=>rw [e] at h; cases h
  | some k=>
   rw [e] at h
   cases k with
   | true=>
    have e2:true=b:=Option.some.inj h
    exact kitAny_cons (kit_ty e) (fun z=>nomatch z) (fun _=>e2.symm)
   | false=>exact kitAny_cons (kit_ty e) (fun _=>zlc h) (fun z=>nomatch z)
/-- isinstance with one class,with a tuple of classes; the classes are told beside -/
def zpV (d:D) (cs:List String):Option Bool:=if (tyD d == "")=true then none else je (tyD d) cs
theorem zld {d:D} {cs:List String} {b:Bool} (h:zpV d cs=some b):(tyD d == "")=false∧je (tyD d) cs=some b:=by
 unfold zpV at h
 split at h
 ·cases h
 ·rename_i n
  exact ⟨by simpa using n,h⟩
def xJ (cs:List String):D1:=fun x Q=>match zpV x cs with
 | some b=>Q (.bl b)
 | none=>False
def za9:List D→Option (List Bool)
 | []=>some []
 | .bl b::r=>(za9 r).map (b::·)
 | _::_=>none
def Xm:List D→Option (List Int)
 | []=>some []
 | .int b::r=>(Xm r).map (b::·)
 | _::_=>none
def zba:D1
 | .con .l _ xs,Q=>Q (.int xs.length)
 | .tup xs,Q=>Q (.int xs.length)
 | .str x,Q=>x.length≤sizeLine∧Q (.int x.length)
 | _,_=>False
def intD:D1
 | .int i,Q=>Q (.int i)
 | .bl b,Q=>Q (.int (if b then 1 else 0))
 | _,_=>False
def znP:D1
 | .int i,Q=>Q (.int (if i < 0 then -i else i))
 | _,_=>False
def ztd:D2
 | .int i,.int j,Q=>Q (.int (if j > i then j else i))
 | _,_,_=>False
def zte:D2
 | .int i,.int j,Q=>Q (.int (if j < i then j else i))
 | _,_,_=>False
def ze7:D1
 | .con .l _ xs,Q=>(match za9 xs with | some bs=>Q (.bl (bs.all id)) | none=>False)
 | _,_=>False
def zuj:D1
 | .con .l _ xs,Q=>(match za9 xs with | some bs=>Q (.bl (bs.any id)) | none=>False)
 | _,_=>False
def zkf:D1
 | .con .l _ xs,Q=>(match Xm xs with | some ns=>Q (.int ns.sum) | none=>False)
 | _,_=>False
def maxD:D1
 | .con .l _ xs,Q=>(match Xm xs with | some ns=>0 < ns.length∧∀ m,m∈ns→(∀ y,y∈ns→y≤m)→Q (.int m) | none=>False)
 | _,_=>False
def zle:D1
 | .con .l _ xs,Q=>Q (.con .l .o xs)
 | .tup xs,Q=>Q (.con .l .o xs)
 | _,_=>False
mutual
/-- nothing is owned in it -/
def D.no:D→Bool
 | .tup xs=>D.nos xs
 | .con _ k xs=>(match k with | .o=>false | _=>true)&&D.nos xs
 | _=>true
def D.nos:List D→Bool
 | []=>true
 | x::xs=>D.no x&&D.nos xs
end
def leD (x y:D):Bool:=PySem.W.dataLe false D.py x y
def ZG (x y:D):Bool:=PySem.W.alike x.py y.py
def QL (xs:List D):Prop:=(∀ x∈xs,∀ y∈xs,ZG x y=true)∧((∀ x∈xs,∃ y r,x=.tup (y::r))∨∀ x∈xs,x≠.non∧x≠.pen∧∀ ys,x≠.tup ys)
def ze8:D1
 | .con .l _ xs,Q=>(∀ x∈xs,Sh 50 x)∧D.nos xs=true∧QL xs∧Q (.con .l .o (xs.mergeSort leD))
 | .tup xs,Q=>(∀ x∈xs,Sh 50 x)∧D.nos xs=true∧QL xs∧Q (.con .l .o (xs.mergeSort leD))
 | _,_=>False
end DL
namespace DL
open PySem PySem.Spec PyProof.Rows L2
variable [Tb]
section
variable {X:Cx}
theorem to1 {f:D1} {vs:List V} {H:Hp} {Q:VK} {R:Prop} (h:rC X.K (o1 f) vs H Q) (k:∀ (P:zR) (M B:List Addr) (v:V) (d:D) (L:List Addr) (Q0:D→Prop),vs=[v]→Args X.K P M B H [v] [d] L→
 Rep X.K P (L++M) (L++B) H v d L→f d Q0→(∀ v H',Res X.K P M B L H Q0 v H'→Q v H')→R):R:=by
 obtain ⟨P,M,B,ds,L,Q0,A,q,kk⟩:=h
 unfold o1 at q
 split at q
 ·rename_i d
  obtain ⟨v,e,r⟩:=v1 A.reps
  subst e
  exact k P M B v d L Q0 rfl A r q kk
 ·exact q.elim
theorem cal {f:Value} {o:D1} {r:List V→Hp→VK→Prop} (hr:CallR X f r) (h:∀ (H:Hp) (Q:VK) (P:zR) (M B:List Addr) (v:V) (d:D) (L:List Addr) (Q0:D→Prop),Args X.K P M B H [v] [d] L→
 Rep X.K P (L++M) (L++B) H v d L→o d Q0→(∀ v H',Res X.K P M B L H Q0 v H'→Q v H')→r [v] H Q):CallR X f (rC X.K (o1 o)):=by
 intro pins s σ H xs us Q I r0 h0
 refine to1 h0 fun P M B v d L Q0 e A r1 q k=>?_
 subst e
 exact hr pins s σ H _ us Q I r0 (h H Q P M B v d L Q0 A r1 q k)
theorem YS:CallR X (.builtin "len") (rC X.K (o1 zba)):=by
 intro pins s σ H xs us Q I r0 h0
 refine to1 h0 fun P M B v d L Q0 e A r1 q k=>?_
 subst e
 unfold zba at q
 split at q
 ·obtain ⟨a,vs,L',rfl,h1,r,_⟩:=r1.lst_inv
  exact call_len_seq pins s σ H _ us Q I r0 ⟨_,_,rfl,.inl h1,by rw [r.len]; exact k _ _ (A.plain (fun {_}=>.int) q)⟩
 ·obtain ⟨a,vs,rfl,h1,r⟩:=r1.Qs
  exact call_len_seq pins s σ H _ us Q I r0 ⟨_,_,rfl,.inr h1.sq,by rw [r.len]; exact k _ _ (A.plain (fun {_}=>.int) q)⟩
 ·obtain ⟨rfl,rfl⟩:=r1.str_inv
  exact call_len_str pins s σ H _ us Q I r0 ⟨_,rfl,q.1,k _ _ (A.plain (fun {_}=>.int) q.2)⟩
 ·exact q.elim
theorem zlf:CallR X (.builtin "abs") (rC X.K (o1 znP)):=cal call_abs fun H Q P M B v d L Q0 A r1 q k=>by
 unfold znP at q
 split at q
 ·obtain ⟨rfl,rfl⟩:=r1.int_inv
  exact ⟨_,rfl,k _ _ (A.plain (fun {_}=>.int) q)⟩
 ·exact q.elim
theorem znQ {K:PySem.W.Frag} {P:zR} {M B:List Addr} {H:Hp}:∀ {vs:List V} {ds:List D} {L:List Addr} {bs:List Bool},zf K P M B H vs ds L→za9 ds=some bs→vs=bs.map V.bl
 | _,_,_,_,.nil,e=>by
  have e:[]=_:=Option.some.inj e
  subst e; rfl
 | _,.bl b::ds,_,bs,.cons h r,e=>by
  unfold za9 at e
  cases e2:za9 ds with
  | none=>rw [e2] at e; cases e
  | some z=>
   rw [e2] at e
   have e:b::z=bs:=Option.some.inj e
   subst e
   obtain ⟨rfl,_⟩:=h.Km
   rw [znQ r e2]; rfl
 | _,.non::_,_,_,.cons _ _,e=>by simp [za9] at e
 | _,.int _::_,_,_,.cons _ _,e=>by simp [za9] at e
 | _,.str _::_,_,_,.cons _ _,e=>by simp [za9] at e
 | _,.pen::_,_,_,.cons _ _,e=>by simp [za9] at e
 | _,.tup _::_,_,_,.cons _ _,e=>by simp [za9] at e
 | _,.con .l _ _::_,_,_,.cons _ _,e=>by simp [za9] at e
theorem ints_of {K:PySem.W.Frag} {P:zR} {M B:List Addr} {H:Hp}:∀ {vs:List V} {ds:List D} {L:List Addr} {bs:List Int},zf K P M B H vs ds L→Xm ds=some bs→vs=bs.map V.int
 | _,_,_,_,.nil,e=>by
  have e:[]=_:=Option.some.inj e
  subst e; rfl
 | _,.int b::ds,_,bs,.cons h r,e=>by
  unfold Xm at e
  cases e2:Xm ds with
  | none=>rw [e2] at e; cases e
  | some z=>
   rw [e2] at e
   have e:b::z=bs:=Option.some.inj e
   subst e
   obtain ⟨rfl,_⟩:=h.int_inv
   rw [ints_of r e2]; rfl
 | _,.non::_,_,_,.cons _ _,e=>by simp [Xm] at e
 | _,.bl _::_,_,_,.cons _ _,e=>by simp [Xm] at e
 | _,.str _::_,_,_,.cons _ _,e=>by simp [Xm] at e
 | _,.pen::_,_,_,.cons _ _,e=>by simp [Xm] at e
 | _,.tup _::_,_,_,.cons _ _,e=>by simp [Xm] at e
 | _,.con .l _ _::_,_,_,.cons _ _,e=>by simp [Xm] at e
theorem zeQ (hc:X.calm=true):CallR X (.builtin "all") (rC X.K (o1 ze7)):=cal (cr_all hc) fun H Q P M B v d L Q0 A r1 q k=>by
 unfold ze7 at q
 split at q
 ·obtain ⟨a,vs,L',rfl,h1,r,_⟩:=r1.lst_inv
  split at q
  ·rename_i bs e
   rw [znQ r e] at h1
   exact ⟨a,bs,rfl,h1,k _ _ (A.plain (fun {_}=>.bl) q)⟩
  ·exact q.elim
 ·exact q.elim
theorem zpW (hc:X.calm=true):CallR X (.builtin "sum") (rC X.K (o1 zkf)):=cal (cr_sum hc) fun H Q P M B v d L Q0 A r1 q k=>by
 unfold zkf at q
 split at q
 ·obtain ⟨a,vs,L',rfl,h1,r,_⟩:=r1.lst_inv
  split at q
  ·rename_i bs e
   rw [ints_of r e] at h1
   exact ⟨a,bs,rfl,h1,k _ _ (A.plain (fun {_}=>.int) q)⟩
  ·exact q.elim
 ·exact q.elim
theorem cr_maxD (hc:X.calm=true):CallR X (.builtin "max") (rC X.K (o1 maxD)):=cal (cr_max hc) fun H Q P M B v d L Q0 A r1 q k=>by
 unfold maxD at q
 split at q
 ·obtain ⟨a,vs,L',rfl,h1,r,_⟩:=r1.lst_inv
  split at q
  ·rename_i bs e
   rw [ints_of r e] at h1
   exact ⟨a,bs,rfl,h1,q.1,fun m hm hy=>k _ _ (A.plain (fun {_}=>.int) (q.2 m hm hy))⟩
  ·exact q.elim
 ·exact q.elim
theorem znR:CallR X (.type "list") (rC X.K (o1 zle)):=cal call_list_of fun H Q P M B v d L Q0 A r1 q k=>by
 unfold zle at q
 split at q
 ·obtain ⟨a,vs,L',rfl,h1,r,c⟩:=r1.lst_inv
  obtain ⟨n1,s1⟩:=X3 c A.nd
  exact ⟨a,vs,rfl,.inl h1,fun l hl=>k _ _ (A.zgp hl r s1 n1 q)⟩
 ·obtain ⟨a,vs,rfl,h1,r⟩:=r1.Qs
  exact ⟨a,vs,rfl,.inr h1.sq,fun l hl=>k _ _ (A.zgp hl r (fun _ z=>z) A.nd q)⟩
 ·exact q.elim
end
end DL
set_option maxHeartbeats 4000000
namespace PySem.W
open PySem PySem.Calls PyProof.Rows
section
variable {β:Type} {prog:Program} {w:World} {A:Around} {E:Value→Shared→Prop} {s:Shared} {R:Value→β→Prop} {enc:β→PyData} {vs:List Value} {bs:List β}
/-- a list's or tuple's items gathered:a new list alone -/
theorem zuk {l:Addr} {T:String} {o:Obj} {xs:Array Value} {n:Nat} {Q:List Value→Shared→Prop} (hT:T="list"∨T="tuple") (lo:s.heap.get? l=some o) (co:o.cls=.type T) (dO:o.data=.seq xs n) (z:xs.size≤sizeLine)
  (k:∀ g:Heap,s.heap.objs.size < g.objs.size→(∀ b u,s.heap.get? b=some u→g.get? b=some u)→Q xs.toList { s with heap:=g}):wpAny (model prog w) A (collect (.ref l)) Q E s:=by
 unfold collect
 refine wpAny_bind (wpAny_runValue
  (codeAny_builtin F.entry_proto_collect ?_))
 rw [Around.under_plainId
  F.plain_proto_collect _]
 refine (?_:wpAny _ A.in1 (newList [] >>= fun m=>again
  (.builtin "list.__iadd__" ⟨[m,.ref l],[]⟩)) _ _ s)
 refine wpAny_bind (wpAny_newObj_type ?_)
 refine wpAny_pure ⟨plainId_quiet F.plain_list_iadd _,
  codeAny_builtin F.entry_list_iadd ?_⟩
 rw [Around.under_plainId
  F.plain_list_iadd _]
 have g0:(s.heap.push { cls:=.type "list",data:=.seq ([]:List Value).toArray}).get? s.heap.objs.size=some (seqObj "list" #[] 0):=Heap.get?_push_size _ rfl
 have g1:((s.heap.push { cls:=.type "list",data:=.seq ([]:List Value).toArray}).update s.heap.objs.size (Obj.mapSeq (·++xs))).get? s.heap.objs.size=some (Obj.mapSeq (·++xs) (seqObj "list" #[] 0)):=Heap.get?_update_self (Obj.mapSeq (·++xs)) g0 rfl
 have last:wpAny (model prog w) A (do
   match (← load s.heap.objs.size).data with
    | Data.seq ys _=>pure ys.toList
    | _=>unsupported "internal:collect") Q E { s with heap:=(s.heap.push { cls:=.type "list",data:=.seq ([]:List Value).toArray}).update s.heap.objs.size (Obj.mapSeq (·++xs))}:=by
  refine wpAny_bind (wpAny_load g1 (wpAny_pure ?_))
  have e0:((#[]:Array Value)++xs).toList=xs.toList:=by simp
  have q:=k ((s.heap.push { cls:=.type "list",data:=.seq ([]:List Value).toArray}).update s.heap.objs.size (Obj.mapSeq (·++xs))) (by rw [Heap.size_update,size_push']; exact Nat.lt_succ_self _)
   (fun b u hb=>(Heap.get?_update_other _ _ (Nat.ne_of_gt (Heap.lt_size hb))).trans (Heap.get?_push_of_some _ hb))
  rw [← e0] at q
  exact q
 refine wpAny_mono (wpAny_extend_seq (hsz:=z) (A:=A) (R:=fun r t=>r=.ok (.ret (.ref s.heap.objs.size))∧t={ s with heap:=(s.heap.push { cls:=.type "list",data:=.seq ([]:List Value).toArray}).update s.heap.objs.size (Obj.mapSeq (·++xs))})
  (s:={ s with heap:=s.heap.push { cls:=.type "list",data:=.seq ([]:List Value).toArray}}) _ l _ 0 hT g0 (Heap.get?_push_of_some _ lo) co dO ⟨rfl,rfl⟩) (fun fin t h=>?_) (fun e t h=>?_)
 ·cases fin with
  | done f=>
   obtain ⟨e,rfl⟩:=h
   cases e
   exact last
  | again c=>
   refine ⟨h.1,codeAny_mono h.2 fun r t' hr=>?_⟩
   obtain ⟨rfl,rfl⟩:=hr
   exact last
 ·exact absurd h.1 (by simp)
/-- sorted of a list or a tuple -/
theorem zin {l:Addr} {T:String} {o:Obj} {n:Nat} {Q:Value→Shared→Prop} (hT:T="list"∨T="tuple") (ho:s.heap.get? l=some o) (hc:o.cls=.type T) (hd:o.data=.seq vs.toArray n)
  (e:EachIs R vs bs) (er:EachIs (fun v b=>∃ as,Reads s.heap v (enc b) as) vs bs) (hal:AllAlike (bs.map enc)) (hk:Sortable (bs.map enc)) (hL:vs.length≤sizeLine)
  (hu:∀ b,b∈bs→A.units+2+(enc b).depth < cLine)
  (h:∀ out h' p c,out.length=bs.length→EachIs R out (bs.mergeSort (dataLe false enc))→(∀ b u,s.heap.get? b=some u→h'.get? b=some u)→s.heap.objs.size≤p→h'.get? p=some (seqObj "list" (List.toArray out) c)→Q (.ref p) { s with heap:=h'}):
  wpAny (model prog w) A (call (.builtin "sorted") [.ref l]) Q E s:=by
 refine call_function_entry_kw kind_sorted plain_sorted
  entry_sorted (args_sorted1 _) ?_
 unfold Builtin.«sorted»
 refine wpAny_bind (m:=checkCount "sorted" 1 1 _)
  (wpAny_pure ?_)
 refine wpAny_bind (zuk hT ho hc hd (by simpa using hL) fun h1 sz k1=>?_)
 have sz1:s.heap.objs.size≤h1.objs.size:=Nat.le_of_lt sz
 refine wpAny_bind (wpAny_newList ?_ (by simpa using hL))
 have hoL:(h1.push (seqObj "list" vs.toArray 0)).get? h1.objs.size=some (seqObj "list" vs.toArray 0):=Heap.get?_push_size _ rfl
 have old:∀ {b:Addr} {u:Obj},s.heap.get? b=some u→(sortingHeap (h1.push (seqObj "list" vs.toArray 0)) h1.objs.size vs).get? b=some u:=fun {b u} z=>
  sortingHeap_old (Nat.ne_of_lt (Heap.lt_size (k1 _ _ z))) (Heap.get?_push_of_some _ (k1 _ _ z))
 have er':EachIs (fun v b=>∃ as,Reads (sortingHeap (h1.push (seqObj "list" vs.toArray 0)) h1.objs.size vs) v (enc b) as) vs bs:=er.mono fun _ _ ⟨as,r⟩=>⟨as,PyProof.Rows.Reads.keeps (fun _ _=>old) r⟩
 refine wpAny_bind (wpAny_holding (wpAny_call_entry_kw slot_list_sort ⟨_,hoL,rfl⟩ entry_list_sort ?body (args_list_sort _)))
 case body=>
  refine wpAny_mono (list_sort_vals (κ:=dataKind (sortingHeap (h1.push (seqObj "list" vs.toArray 0)) h1.objs.size vs) (bs.map enc)) (P:=fun f s'=>f=.done (.ret .none)∧s'={ s with heap:=sortedHeap (h1.push (seqObj "list" vs.toArray 0)) h1.objs.size vs (sortVals (dataKind (sortingHeap (h1.push (seqObj "list" vs.toArray 0)) h1.objs.size vs) (bs.map enc)) false vs vs).toArray}) (s:={ s with heap:=h1.push (seqObj "list" vs.toArray 0)}) hoL
   (SortsAt.data (s:={ s with heap:=sortingHeap (h1.push (seqObj "list" vs.toArray 0)) h1.objs.size vs}) (each_map (R:=fun v d=>∃ as,Reads (sortingHeap (h1.push (seqObj "list" vs.toArray 0)) h1.objs.size vs) v d as) enc er') hal hk (bound_map hu)) hL ⟨rfl,rfl⟩) (fun f s' hf=>?_) fun _ _ z=>z
  obtain ⟨rfl,rfl⟩:=hf
  obtain ⟨c,hc'⟩:=sortedHeap_at (vs:=vs) (out:=(sortVals (dataKind (sortingHeap (h1.push (seqObj "list" vs.toArray 0)) h1.objs.size vs) (bs.map enc)) false vs vs).toArray) hoL
  refine ⟨_,rfl,wpAny_pure ⟨_,rfl,h _ _ _ c (by rw [sortVals_length false rfl]; exact e.length) (sortVals_data false e er' hal) (fun b u z=>?_) sz1 hc'⟩⟩
  have z1:=k1 b u z
  have hlt:=Heap.lt_size z1
  rw [sortedHeap_old (Nat.ne_of_lt hlt) (by rw [size_push']; exact Nat.lt_succ_of_lt hlt)]
  exact Heap.get?_push_of_some _ z1
end
end PySem.W
namespace DL
open PySem PySem.Spec PyProof.Rows L2
variable [Tb]
section
variable {K:PySem.W.Frag} {P:zR} {M B:List Addr} {H:Hp}
mutual
theorem Rep.no:∀ {v:V} {d:D} {L:List Addr},Rep K P M B H v d L→d.no=true→L=[]
 | _,_,_,.non,_=>rfl
 | _,_,_,.bl,_=>rfl
 | _,_,_,.int,_=>rfl
 | _,_,_,.str,_=>rfl
 | _,_,_,.pen _,_=>rfl
 | _,_,_,.tup _ r,p=>zf.no r (by simpa [D.no] using p)
 | _,_,_,.lstF _ _ _,_=>rfl
 | _,_,_,.lstB _ _,_=>rfl
 | _,_,_,.exc _ _ _ _,_=>rfl
 | _,_,_,.lstO _ _ _,p=>by simp [D.no] at p
theorem zf.no:∀ {vs:List V} {ds:List D} {L:List Addr},zf K P M B H vs ds L→D.nos ds=true→L=[]
 | _,_,_,.nil,_=>rfl
 | _,_,_,.cons h r,p=>by
  simp only [D.nos,Bool.and_eq_true] at p
  rw [Rep.no h p.1,zf.no r p.2]; rfl
end
theorem zcV {us:List Value}:∀ {vs:List V} {us:List Value} {ds:List D},Vals vs us→zf K P M B H vs ds []→PySem.W.EachIs (fun u d=>∃ v,RelV v u∧Rep K P M B H v d []) us ds
 | _,_,_,.nil,h=>by
  cases h
  exact .nil
 | _,_,_,.cons r rs,h=>by
  generalize e:([]:List Addr)=L at h
  cases h with
  | cons h1 h2=>
   obtain ⟨e1,e2⟩:=zpQ e.symm
   subst e1 e2
   exact .cons ⟨_,r,h1⟩ (zcV (us:=[]) rs h2)
theorem zcW:∀ {us:List Value} {ds:List D},PySem.W.EachIs (fun u d=>∃ v,RelV v u∧Rep K P M B H v d []) us ds→∃ vs,Vals vs us∧zf K P M B H vs ds []
 | _,_,.nil=>⟨[],.nil,.nil⟩
 | _,_,.cons ⟨v,r,h⟩ t=>by
  obtain ⟨vs,a,b⟩:=zcW t
  exact ⟨v::vs,.cons r a,.cons (L1:=[]) (L2:=[]) h b⟩
end
theorem QL.al {xs:List D} (h:QL xs):PySem.W.AllAlike (xs.map D.py):=by
 intro d hd d' hd'
 obtain ⟨b,hb,rfl⟩:=List.mem_map.mp hd
 obtain ⟨b',hb',rfl⟩:=List.mem_map.mp hd'
 exact h.1 b hb b' hb'
theorem QL.so {xs:List D} (h:QL xs) (hs:∀ x∈xs,Sh 50 x):PySem.W.Sortable (xs.map D.py):=by
 rcases h.2 with h | h
 ·refine .inl fun d hd=>?_
  obtain ⟨b,hb,rfl⟩:=List.mem_map.mp hd
  obtain ⟨y,r,rfl⟩:=h b hb
  exact ⟨y.py,D.pys r,by simp [D.py,D.pys]⟩
 ·refine .inr fun d hd=>?_
  obtain ⟨b,hb,rfl⟩:=List.mem_map.mp hd
  obtain ⟨h1,h2,h3⟩:=h b hb
  have hs:=hs b hb
  cases b with
  | non=>exact absurd rfl h1
  | pen=>exact absurd rfl h2
  | tup ys=>exact absurd rfl (h3 ys)
  | bl _=>exact ⟨fun z=>(by simp [D.py] at z),fun ys z=>(by simp [D.py] at z)⟩
  | int _=>exact ⟨fun z=>(by simp [D.py] at z),fun ys z=>(by simp [D.py] at z)⟩
  | str _=>exact ⟨fun z=>(by simp [D.py] at z),fun ys z=>(by simp [D.py] at z)⟩
  | con c _ _=>
   cases c with
   | l=>exact ⟨fun z=>(by simp [D.py] at z),fun ys z=>(by simp [D.py] at z)⟩
   | _=>(unfold Sh at hs; exact hs.elim)
  | exc _ _ _ _=>(unfold Sh at hs; exact hs.elim)
section
variable {X:Cx}
theorem zio {pins:List (Addr×Obj)} {s:Shared} {σ:Sg} {H:Hp} {P:zR} {M B L:List Addr} {vs0:List V} {ds0:List D} {Q0:D→Prop} {Q:VK} {a:Addr} {T:String} {o:Obj} {n:Nat} {vs:List V} {its:List Value} {xs:List D}
  (hu:X.A.units+64 < cLine) (I:Inv X pins σ H s) (A:Args X.K P M B H vs0 ds0 L) (hT:T="list"∨T="tuple") (ho:s.heap.get? a=some o) (hc:o.cls=.type T) (hd:o.data=.seq its.toArray n) (hz:its.length≤sizeLine)
  (rv:Vals vs its) (r:zf X.K P (L++M) (L++B) H vs xs []) (h1:∀ x∈xs,Sh 50 x) (h2:QL xs) (q:Q0 (.con .l .o (xs.mergeSort leD))) (k:∀ v H',Res X.K P M B L H Q0 v H'→Q v H'):
  wpAny (model X.prog X.w) X.A (call (.builtin "sorted") [.ref a]) (EP X pins σ Q) X.xe s:=by
 have e0:PySem.W.EachIs (fun u d=>(∃ v,RelV v u∧Rep X.K P (L++M) (L++B) H v d [])∧∃ as,Reads s.heap u (D.py d) as) its xs:=by
  have base:=zcV (us:=[]) rv r
  have:∀ {us:List Value} {ds:List D},PySem.W.EachIs (fun u d=>∃ v,RelV v u∧Rep X.K P (L++M) (L++B) H v d []) us ds→(∀ x∈ds,Sh 50 x)→PySem.W.EachIs (fun u d=>(∃ v,RelV v u∧Rep X.K P (L++M) (L++B) H v d [])∧∃ as,Reads s.heap u (D.py d) as) us ds:=by
   intro us ds h
   induction h with
   | nil=>intro _; exact .nil
   | cons hh t ih=>
    intro hs
    obtain ⟨v,rv,rr⟩:=hh
    exact .cons ⟨⟨v,rv,rr⟩,Dp.reads I _ _ _ (rr.dp (hs _ (List.mem_cons_self ..))) rv⟩ (ih fun x z=>hs x (List.mem_cons_of_mem _ z))
  exact this base h1
 refine PySem.W.zin (R:=fun u d=>∃ v,RelV v u∧Rep X.K P (L++M) (L++B) H v d []) (enc:=D.py) hT ho hc hd (e0.mono fun _ _ z=>z.1) (e0.mono fun _ _ z=>z.2) h2.al (h2.so h1) hz (fun b hb=>?_) fun out h' p c hl e kp hp hg=>?_
 ·have:=(Sh.lay (h1 b hb)).2
  omega
 ·obtain ⟨ws,w1,w2⟩:=zcW e
  have hpn:H p=none:=I.hok.fresh hp
  refine ⟨.ref p,upd H p (.lst ws),I.laid (t':=s.toks) kp hp ⟨?_,out,c,w1,hg⟩,rfl,k _ _ (A.zgp hpn w2 (fun _ z=>nomatch z) List.nodup_nil q)⟩
  have e2:out.length=ws.length:=w1.length.symm
  have e3:its.length=vs.length:=rv.length.symm
  have e4:vs.length=xs.length:=r.len
  omega
theorem ziq (hu:X.A.units+64 < cLine):CallR X (.builtin "sorted") (rC X.K (o1 ze8)):=by
 intro pins s σ H xs us Q I r0 h0
 refine to1 h0 fun P M B v d L Q0 e A r1 q k=>?_
 subst e
 unfold ze8 at q
 split at q
 ·obtain ⟨a,vs,L',rfl,h1,r,c⟩:=r1.lst_inv
  obtain ⟨p1,p2,p3,q⟩:=q
  have el:=r.no p2
  subst el
  obtain ⟨u,rfl,ru⟩:=vals1 r0
  cases ru
  obtain ⟨its,rv,⟨ob,n,e1,e2,_,e4⟩,hz⟩:=I.list h1
  exact zio hu I A (.inl rfl) e1 e2 e4 (by rw [← rv.length]; exact hz) rv r p1 p3 q k
 ·obtain ⟨a,vs,rfl,h1,r⟩:=r1.Qs
  obtain ⟨p1,p2,p3,q⟩:=q
  have el:=r.no p2
  subst el
  obtain ⟨u,rfl,ru⟩:=vals1 r0
  cases ru
  obtain ⟨its,rv,⟨ob,e1,e2,n,e4⟩,hz⟩:=I.tuple h1.sq
  exact zio hu I A (.inr rfl) e1 e2 e4 (by rw [← rv.length]; exact hz) rv r p1 p3 q k
 ·exact q.elim
end
end DL
set_option maxHeartbeats 4000000
namespace DL
open PySem PySem.Spec PyProof.Rows L2
variable [Tb]
def Env.at (ρ:Env) (i:Nat):Option D:=(ρ[i]?).join
def zu (i:Nat):DT:=fun ρ Q=>match Env.at ρ i with
 | some d=>Q d.vw
 | none=>False
def dC (c:D):DT:=fun _ Q=>Q c
def dTup (t:DTA):DT:=fun ρ Q=>t ρ fun ds=>ds.length≤1000∧Q (.tup ds)
def Z6 (t:DTA):DT:=fun ρ Q=>t ρ fun ds=>ds.length≤1000∧Q (.con .l .o ds)
def zK:DTA:=fun _ Q=>Q []
def zm (te:DT) (tr:DTA):DTA:=fun ρ Q=>te ρ fun x=>tr ρ fun xs=>Q (x::xs)
abbrev DTT:=Env→(Bool→Prop)→Prop
def zkg:D→(Bool→Prop)→Prop
 | .non,Q=>Q false
 | .bl b,Q=>Q b
 | .int i,Q=>Q (i != 0)
 | .str x,Q=>x.length≤sizeLine∧Q ((x.length:Int) != 0)
 | .con .l _ xs,Q=>Q (!xs.isEmpty)
 | .tup xs,Q=>Q (!xs.isEmpty)
 | _,_=>False
def zhe (t:DT):DTT:=fun ρ Q=>t ρ fun d=>zkg d Q
def dIf (c:DTT) (a b:DT):DT:=fun ρ Q=>c ρ fun k=>if k=true then a ρ Q else b ρ Q
def ztf (a b:DTT):DTT:=fun ρ Q=>a ρ fun k=>if k=true then b ρ Q else Q false
def zhf (a b:DTT):DTT:=fun ρ Q=>a ρ fun k=>if k=true then Q true else b ρ Q
def zca (a:DTT):DTT:=fun ρ Q=>a ρ fun k=>Q (!k)
def zhg (a b:DT):DT:=fun ρ Q=>a ρ fun x=>match x with
 | .bl true=>b ρ Q
 | .bl false=>Q (.bl false)
 | _=>False
def dOr (a b:DT):DT:=fun ρ Q=>a ρ fun x=>match x with
 | .bl true=>Q (.bl true)
 | .bl false=>b ρ Q
 | _=>False
def ztg (a:DT):DT:=fun ρ Q=>a ρ fun x=>match x with
 | .bl k=>Q (.bl (!k))
 | _=>False
def dB (a:DT):DTT:=fun ρ Q=>a ρ fun x=>match x with
 | .bl k=>Q k
 | _=>False
def Ko (o p:D2) (a b c:DT):DT:=fun ρ Q=>a ρ fun x=>b ρ fun y=>o x y fun z=>match z with
 | .bl true=>c ρ fun w=>p y w Q
 | .bl false=>Q (.bl false)
 | _=>False
section
variable {K:PySem.W.Frag} {P:zR} {M M' B B' L Lr:List Addr} {H H':Hp} {σ:Sg} {ρ:Env} {v:V} {d:D}
theorem Slots.keep (s:Stt P M B H) (h:Slots K P M B H σ ρ) (g:Gr P.as H H'):Slots K P M B H' σ ρ:=Slots.after (Lr:=[]) s h g fun _ z=>nomatch z
theorem Stt.keep (s:Stt P M B H) (g:Gr P.as H H') (p:zF P M H'):Stt P M B H':=Stt.after (Lr:=[]) s g p fun _ z=>nomatch z
theorem Res.drop {Q0:D→Prop} (r:Res K P M B [] H Q0 v H'):∃ c,Q0 c∧Gr P.as H H'∧zF P M H'∧∃ Lr,Rep K P (Lr++M) (Lr++B) H' v c Lr:=by
 obtain ⟨c,Lr,q,g,p,r,_,_⟩:=r
 exact ⟨c,q,g,p.grow fun a z=>.inl (List.mem_append_right _ z),Lr,r⟩
theorem Env.zbQ {i:Nat} {d:D} (h:Env.at ρ i=some d):ρ[i]?=some (some d):=by
 unfold Env.at at h
 cases e:ρ[i]? with
 | none=>rw [e] at h; cases h
 | some o=>
  rw [e] at h
  rw [show o=some d from h]
theorem znS {i:Nat} {Q:VK} (h:lift K (zu i) σ H Q):tVar i σ H Q:=by
 obtain ⟨P,M,B,ρ,Q0,s,sl,t,k⟩:=h
 unfold zu at t
 split at t
 ·rename_i d e
  obtain ⟨v,L,e1,r,n,_⟩:=sl.get (Env.zbQ e)
  exact ⟨v,e1,k _ _ (Res.same s (r.vw fun a z=>(n a z).2) t)⟩
 ·exact t.elim
theorem Kr {c:D} {v:V} {Q:VK} (hc:∀ (P:zR) (M B:List Addr) (H:Hp),Rep K P M B H v c []) (h:lift K (dC c) σ H Q):tC v σ H Q:=by
 obtain ⟨P,M,B,ρ,Q0,s,sl,t,k⟩:=h
 exact k _ _ (Res.same s (hc _ _ _ _) t)
theorem znT {t:DTA} {Q:VK} (h:lift K (dTup t) σ H Q):tTup (XQ K t) σ H Q:=by
 obtain ⟨P,M,B,ρ,Q0,s,sl,t,k⟩:=h
 refine ⟨P,M,B,ρ,_,s,sl,t,fun vs H1 r1=>?_⟩
 obtain ⟨ds,L,⟨hl,t1⟩,g1,p1,r1,n1,f1⟩:=r1
 have A:=Args.of s g1 p1 r1 n1 f1
 refine ⟨by rw [r1.len]; exact Nat.le_trans hl (by decide),fun p hp=>k _ _ (Res.back (M':=L++M) (A.zrM (Q0:=Q0) hp r1 (fun _ z=>z) n1 t1) g1 p1 f1)⟩
theorem znU {t:DTA} {Q:VK} (h:lift K (Z6 t) σ H Q):tLst (XQ K t) σ H Q:=by
 obtain ⟨P,M,B,ρ,Q0,s,sl,t,k⟩:=h
 refine ⟨P,M,B,ρ,_,s,sl,t,fun vs H1 r1=>?_⟩
 obtain ⟨ds,L,⟨hl,t1⟩,g1,p1,r1,n1,f1⟩:=r1
 have A:=Args.of s g1 p1 r1 n1 f1
 refine ⟨by rw [r1.len]; exact Nat.le_trans hl (by decide),fun p hp=>k _ _ (Res.back (M':=L++M) (A.zgp (Q0:=Q0) hp r1 (fun _ z=>z) n1 t1) g1 p1 f1)⟩
theorem zf.emp {vs:List V} {ds:List D} (r:zf K P M B H vs ds L):vs.isEmpty=ds.isEmpty:=by cases r <;> rfl
theorem zul {Q0:Bool→Prop} (r:Rep K P M B H v d L) (t:zkg d Q0):∃ k,TruV K v H k∧Q0 k:=by
 cases r with
 | non=>exact ⟨_,rfl,t⟩
 | bl=>exact ⟨_,rfl,t⟩
 | int=>exact ⟨_,rfl,t⟩
 | str=>exact ⟨_,⟨t.1,rfl⟩,t.2⟩
 | pen _=>exact t.elim
 | tup h r=>exact ⟨_,.inr (.inl ⟨_,h.sq,rfl⟩),by rw [r.emp]; exact t⟩
 | exc=>exact (show False from t).elim
 | @lstF c a vs ds h r p=>
  cases c with
  | l=>exact ⟨_,.inl ⟨_,SqF.sq h.1,rfl⟩,by rw [r.emp]; exact t⟩
  | _=>exact (show False from t).elim
 | @lstB c a vs ds h r=>
  cases c with
  | l=>exact ⟨_,.inl ⟨_,SqF.sq h.1,rfl⟩,by rw [r.emp]; exact t⟩
  | _=>exact (show False from t).elim
 | @lstO c a vs ds L h n r=>
  cases c with
  | l=>exact ⟨_,.inl ⟨_,SqL.of h,rfl⟩,by rw [r.emp]; exact t⟩
  | _=>exact (show False from t).elim
theorem znV {t:DT} {Q:Bool→Hp→Prop} (h:liftT K (zhe t) σ H Q):lift K t σ H fun x H1=>∃ k,TruV K x H1 k∧Q k H1:=by
 obtain ⟨P,M,B,ρ,Q0,s,sl,t,k⟩:=h
 refine ⟨P,M,B,ρ,_,s,sl,t,fun v H1 r1=>?_⟩
 obtain ⟨c,q,g,p,Lr,r⟩:=r1.drop
 obtain ⟨b,e,q⟩:=zul r q
 exact ⟨b,e,k b H1 q g p⟩
theorem znW {t:DT} {Q:Bool→Hp→Prop} (h:liftT K (dB t) σ H Q):lift K t σ H fun x H1=>∃ k,x=.bl k∧Q k H1:=by
 obtain ⟨P,M,B,ρ,Q0,s,sl,t,k⟩:=h
 refine ⟨P,M,B,ρ,_,s,sl,t,fun v H1 r1=>?_⟩
 obtain ⟨c,q,g,p,Lr,r⟩:=r1.drop
 split at q
 ·obtain ⟨rfl,_⟩:=r.Km
  exact ⟨_,rfl,k _ H1 q g p⟩
 ·exact q.elim
/-- go on with what follows,behind something that left only a value's choice -/
theorem zkh {c:DTT} {t:Bool→DT} {Q:VK} (h:lift K (fun ρ Q=>c ρ fun k=>t k ρ Q) σ H Q):liftT K c σ H fun k H1=>lift K (t k) σ H1 Q:=by
 obtain ⟨P,M,B,ρ,Q0,s,sl,q,k⟩:=h
 refine ⟨P,M,B,ρ,_,s,sl,q,fun b H1 q1 g p=>⟨P,M,B,ρ,Q0,s.keep g p,sl.keep s g,q1,fun v H2 r=>k v H2 (Res.back (M':=M) r g p fun _ z=>nomatch z)⟩⟩
theorem zpX {c:DTT} {a b:DT} {Q:VK} (h:lift K (dIf c a b) σ H Q):tIf (liftT K c) (lift K a) (lift K b) σ H Q:=by
 have h1:=zkh (t:=fun k=>if k=true then a else b) (c:=c) (σ:=σ) (H:=H) (Q:=Q) (by
  obtain ⟨P,M,B,ρ,Q0,s,sl,q,k⟩:=h
  exact ⟨P,M,B,ρ,Q0,s,sl,by
   have e:(fun k=>(if k=true then a else b) ρ Q0)=fun k=>if k=true then a ρ Q0 else b ρ Q0:=by funext k; cases k <;> rfl
   show c ρ (fun k=>(if k=true then a else b) ρ Q0)
   rw [e]; exact q,k⟩)
 obtain ⟨P,M,B,ρ,Q0,s,sl,q,k⟩:=h1
 refine ⟨P,M,B,ρ,Q0,s,sl,q,fun b' H' q' g p=>?_⟩
 have z:=k b' H' q' g p
 cases b' with
 | true=>exact z
 | false=>exact z
theorem znX {a b:DTT} {Q:Bool→Hp→Prop} (h:liftT K (zhf a b) σ H Q):tOr (liftT K a) (liftT K b) σ H Q:=by
 obtain ⟨P,M,B,ρ,Q0,s,sl,q,k⟩:=h
 refine ⟨P,M,B,ρ,_,s,sl,q,fun b' H' q' g p=>?_⟩
 cases b' with
 | false=>exact ⟨P,M,B,ρ,Q0,s.keep g p,sl.keep s g,q',fun v H2 q2 g2 p2=>k v H2 q2 (g.trans g2) p2⟩
 | true=>exact k _ _ q' g p
theorem zmr {a:DTT} {Q:Bool→Hp→Prop} (h:liftT K (zca a) σ H Q):tNot (liftT K a) σ H Q:=by
 obtain ⟨P,M,B,ρ,Q0,s,sl,q,k⟩:=h
 exact ⟨P,M,B,ρ,_,s,sl,q,fun b' H' q' g p=>k _ _ q' g p⟩
theorem znY {a b:DT} {Q:VK} (h:lift K (zhg a b) σ H Q):tAndV (lift K a) (lift K b) σ H Q:=by
 obtain ⟨P,M,B,ρ,Q0,s,sl,q,k⟩:=h
 refine ⟨P,M,B,ρ,_,s,sl,q,fun v H1 r1=>?_⟩
 obtain ⟨c,q,g,p,Lr,r⟩:=r1.drop
 have s1:=s.keep g p
 split at q
 ·obtain ⟨rfl,_⟩:=r.Km
  exact ⟨true,rfl,⟨P,M,B,ρ,Q0,s1,sl.keep s g,q,fun v H2 r=>k v H2 (Res.back (M':=M) r g p fun _ z=>nomatch z)⟩⟩
 ·obtain ⟨rfl,_⟩:=r.Km
  exact ⟨false,rfl,k _ _ (Res.back (M':=M) (Res.same (T:=[]) s1 .bl q) g p fun _ z=>nomatch z)⟩
 ·exact q.elim
theorem zF.mix (h:zF P M H) (h':zF P M' H'):zF P M H':=fun a l hl=>by
 obtain ⟨n1,n2,_⟩:=h a l hl
 obtain ⟨_,_,n3,r⟩:=h' a l hl
 exact ⟨n1,n2,n3,r⟩
theorem Xu {L:List Addr}:L++[]=L:=List.append_nil L
theorem ze9 {o p:D2} {a b c:DT} {Q:VK} (h:lift K (Ko o p a b c) σ H Q):tChain (rD K (o2 o)) (rD K (o2 p)) (lift K a) (lift K b) (lift K c) σ H Q:=by
 obtain ⟨P,M,B,ρ,Q0,s,sl,t,k⟩:=h
 refine ⟨P,M,B,ρ,_,s,sl,t,fun x H1 r1=>?_⟩
 obtain ⟨d,L1,t1,g1,p1,r1,n1,f1⟩:=r1
 have f1:∀ a∈L1,H a=none:=fun a z=>(f1 a z).elim id fun q=>nomatch q
 have s1:=s.after g1 p1 fun a z=>(Rep.own r1 a z).1
 have sl1:=sl.after s g1 f1
 refine ⟨P,L1++M,L1++B,ρ,_,s1,sl1,t1,fun y H2 r2=>?_⟩
 obtain ⟨e,L3,t2,g2,p2,r2,n2,f2⟩:=r2
 have f2:∀ a∈L3,H1 a=none:=fun a z=>(f2 a z).elim id fun q=>nomatch q
 have s2:=s1.after g2 p2 fun a z=>(Rep.own r2 a z).1
 have sl2:=sl1.after s1 g2 f2
 have r1':=Rep.gr g2 s1.lists (yx f2) (yx f2) r1
 have f3:∀ a∈L1++(L3++[]),H a=none:=fun a z=>by
  rw [Xu] at z
  rcases List.mem_append.mp z with z | z
  ·exact f1 a z
  ·exact g1.nil p1 (f2 a z)
 have r3:zf K P ((L1++(L3++[]))++M) ((L1++(L3++[]))++B) H2 [x,y] [d,e] (L1++(L3++[])):=by
  refine .cons (Rep.sub ?_ ?_ r1') (.cons (Rep.sub ?_ ?_ r2) .nil) <;> (rw [Xu]; exact fun a z=>mem3.mpr z)
 have A:=Args.of s (g1.trans g2) (p2.grow fun a z=>.inl (by rw [Xu] at z; exact mem3.mpr z)) r3 (by rw [Xu]; exact jV n1 n2 fun a z q=>r1.trk a z (f2 a q)) f3
 refine ⟨P,M,B,[d,e],L1++(L3++[]),_,A,t2,fun v H3 r4=>?_⟩
 obtain ⟨c',Lr,q,g3,p3,r5,n5,f5⟩:=r4
 split at q
 ·obtain ⟨rfl,_⟩:=r5.Km
  refine ⟨true,rfl,?_⟩
  have s3:Stt P (L3++(L1++M)) (L3++(L1++B)) H3:=s2.keep g3 (s2.zM.mix p3)
  have sl3:=sl2.keep s2 g3
  refine ⟨P,_,_,ρ,_,s3,sl3,q,fun w' H4 r6=>?_⟩
  obtain ⟨d6,L6,t6,g6,p6,r6,n6,f6⟩:=r6
  have f6:∀ a∈L6,H3 a=none:=fun a z=>(f6 a z).elim id fun q=>nomatch q
  have gy:=g3.trans g6
  have ry:=Rep.gr gy s2.lists (fun a z=>yx f6 a z |>.elim .inl fun q=>.inr (g3.nil p3 q)) (fun a z=>yx f6 a z |>.elim .inl fun q=>.inr (g3.nil p3 q)) r2
  have m6:∀ {N:List Addr},∀ a∈(L3++(L6++[]))++N,a∈L6++(L3++(L1++N)):=fun a z=>by
   rw [Xu] at z
   rcases List.mem_append.mp z with z | z
   ·rcases List.mem_append.mp z with z | z
    ·exact List.mem_append_right _ (List.mem_append_left _ z)
    ·exact List.mem_append_left _ z
   ·exact List.mem_append_right _ (List.mem_append_right _ (List.mem_append_right _ z))
  have r7:zf K P ((L3++(L6++[]))++M) ((L3++(L6++[]))++B) H4 [y,w'] [e,d6] (L3++(L6++[])):=
   .cons (Rep.sub m6 m6 ry) (.cons (Rep.sub m6 m6 r6) .nil)
  have f7:∀ a∈L3++(L6++[]),H a=none:=fun a z=>by
   rw [Xu] at z
   rcases List.mem_append.mp z with z | z
   ·exact g1.nil p1 (f2 a z)
   ·exact g1.nil p1 (g2.nil p2 (g3.nil p3 (f6 a z)))
  have G:Gr P.as H H4:=(g1.trans g2).trans gy
  have A7:=Args.of s G (p6.grow fun a z=>.inl (m6 a z)) r7 (by rw [Xu]; exact jV n2 n6 fun a z q=>Gr.trk g3 p3 (r2.trk a z) (f6 a q)) f7
  exact ⟨P,M,B,[e,d6],_,Q0,A7,t6,fun v H' r=>k v H' (Res.back r G p6 f7)⟩
 ·obtain ⟨rfl,e0⟩:=r5.Km
  subst e0
  exact ⟨false,rfl,k _ _ ⟨.bl false,[],q,(g1.trans g2).trans g3,p3,r5,List.nodup_nil,fun _ z=>nomatch z⟩⟩
 ·exact q.elim
end
end DL
set_option maxHeartbeats 4000000
namespace RZ
open PySem PySem.Spec PyProof.Rows L2
/-- as Itz,both at their end together -/
def zum (K:PySem.W.Frag) (a b:Addr):It:=
 ⟨(Itz K a b).go,(Itz K a b).yld,fun i H=>∃ xs ys:List V,SqL K H a xs∧SqL K H b ys∧xs.length≤i∧ys.length≤i⟩
/-- a text and a list of one length -/
def zun (K:PySem.W.Frag) (z:PySem.Str) (b:Addr):It:=
 ⟨fun i H=>∃ (ys:List V) (c:Nat) (y:V),SqL K H b ys∧z.cps[i]?=some c∧ys[i]?=some y,
  fun i H v H'=>∃ T c y,v=.ref T∧H T=none∧H'=upd H T (.tup [.str ⟨#[c]⟩,y])∧z.cps[i]?=some c∧∀ ys,SqL K H b ys→ys[i]?=some y,
  fun i H=>∃ ys:List V,SqL K H b ys∧z.cps.size≤i∧ys.length≤i⟩
end RZ
namespace DL
open PySem PySem.Spec PyProof.Rows L2
variable [Tb]
/-- from there to here:but for zM and one's own lists all stays -/
structure yJ (P:zR) (M B:List Addr) (H:Hp) (P':zR) (M':List Addr) (H':Hp):Prop where
 gr:∀ b o,H b=some o→b∉P.as→(b∉M∨b∈B)→GrO o (H' b)
 zM:∀ p∈P,p∈P'
 newp:∀ a∈P'.as,a∈P.as∨H a=none∨(a∈M∧a∉B)
 newm:∀ a∈M',a∈M∨H a=none
 tr:∀ b,H b≠none→H' b≠none
 tab:∀ b q,(b,q)∈Tb.T→jo H b q→jo H' b q
section
variable {K:PySem.W.Frag} {P P' P'':zR} {M M' M'' B:List Addr} {H H' H'':Hp}
theorem yJ.refl:yJ P M B H P M H:=⟨fun _ _ h _ _=>GrO.of h,fun _ z=>z,fun _ z=>.inl z,fun _ z=>.inl z,fun _ z=>z,fun _ _ _ t=>t⟩
theorem yJ.trans (a:yJ P M B H P' M' H') (b:yJ P' M' B H' P'' M'' H''):yJ P M B H P'' M'' H'':=by
 refine ⟨fun c o h n1 n2=>?_,fun p z=>b.zM p (a.zM p z),fun c z=>?_,fun c z=>?_,fun c z=>b.tr c (a.tr c z),fun c q mT t=>b.tab c q mT (a.tab c q mT t)⟩
 ·have h1:=a.gr c o h n1 n2
  have e1:c∉P'.as:=fun z=>by
   rcases a.newp c z with q | q | q
   ·exact n1 q
   ·rw [q] at h; cases h
   ·exact n2.elim (fun w=>w q.1) fun w=>q.2 w
  have e2:c∉M'∨c∈B:=by
   rcases n2 with n2 | n2
   ·refine .inl fun z=>?_
    rcases a.newm c z with q | q
    ·exact n2 q
    ·rw [q] at h; cases h
   ·exact .inr n2
  cases o with
  | tbl ps=>
   obtain ⟨qs,e⟩:=h1
   exact (b.gr c _ e e1 e2:∃ ps,_)
  | _=>exact b.gr c _ h1 e1 e2
 ·have nn:H' c=none→H c=none:=fun z=>Classical.byContradiction fun q=>a.tr c q z
  rcases b.newp c z with q | q | q
  ·exact a.newp c q
  ·exact .inr (.inl (nn q))
  ·rcases a.newm c q.1 with w | w
   ·exact .inr (.inr ⟨w,q.2⟩)
   ·exact .inr (.inl w)
 ·rcases b.newm c z with q | q
  ·exact a.newm c q
  ·exact .inr (Classical.byContradiction fun w=>a.tr c w q)
theorem TpT.aft (s:Stt P M B H) (f:yJ P M B H P' M' H') {a:Addr} {xs:List V} (h:TpT K H a xs):TpT K H' a xs:=
 f.gr a _ h (fun z=>by
   obtain ⟨ys,q⟩:=s.lists a z
   rw [show H a=some (.tup xs) from h] at q; cases q) (.inl fun z=>by
   obtain ⟨ys,q,m⟩:=s.ls a z
   rw [show H a=some (.tup xs) from h] at q; cases q; cases m)
theorem zrN (s:Stt P M B H) (f:yJ P M B H P' M' H') {a:Addr} {fs:List (Str×V)} (h:H a=some (.xd fs)):H' a=some (.xd fs):=
 f.gr a _ h (fun z=>by
   obtain ⟨ys,q⟩:=s.lists a z
   rw [h] at q; cases q) (.inl fun z=>(s.ls a z).nt.2.2.2.2 _ h)
theorem SqF.aft (f:yJ P M B H P' M' H') {a:Addr} {xs:List V} (h:SqF K (P.as++M) H a xs):SqF K (P'.as++M') H' a xs:=by
 rcases h with ⟨r,n⟩ | h
 ·have n1:a∉P.as:=fun z=>n (List.mem_append_left _ z)
  have n2:a∉M:=fun z=>n (List.mem_append_right _ z)
  have t:=Rd.trk r
  refine .inl ⟨?_,fun z=>?_⟩
  ·rcases r with r | ⟨o,r⟩
   ·exact .inl (f.gr a _ r n1 (.inl n2))
   ·exact .inr ⟨o,f.gr a _ r n1 (.inl n2)⟩
  ·rcases List.mem_append.mp z with z | z
   ·rcases f.newp a z with q | q | q
    ·exact n1 q
    ·exact t q
    ·exact n2 q.1
   ·rcases f.newm a z with q | q
    ·exact n2 q
    ·exact t q
 ·exact .inr h
theorem SqC.aft (f:yJ P M B H P' M' H') {c:Ct} {a:Addr} {xs:List V} (h:SqC K (P.as++M) H c a xs):SqC K (P'.as++M') H' c a xs:=by
 rcases h.to with ⟨ok,⟨dx,r⟩,n⟩ | h
 ·have n1:a∉P.as:=fun z=>n (List.mem_append_left _ z)
  have n2:a∉M:=fun z=>n (List.mem_append_right _ z)
  have t:H a≠none:=by
   rcases r with r | ⟨o,r⟩ <;> (rw [r]; intro z; cases z)
  refine .of (.inl ⟨ok,⟨dx,?_⟩,fun z=>?_⟩) fun e=>(h.z e).imp (fun e=>f.gr a (.lst xs) e n1 (.inl n2)) id
  ·rcases r with r | ⟨o,r⟩
   ·exact .inl ((f.gr a _ r n1 (.inl n2)).ne fun ps z=>by
     have m:=c.mu dx xs
     rw [z] at m; cases m)
   ·exact .inr ⟨o,f.gr a _ r n1 (.inl n2)⟩
  ·rcases List.mem_append.mp z with z | z
   ·rcases f.newp a z with q | q | q
    ·exact n1 q
    ·exact t q
    ·exact n2 q.1
   ·rcases f.newm a z with q | q
    ·exact n2 q
    ·exact t q
 ·exact .of (.inr h) (KL.z h)
mutual
theorem Rep.znZ (s:Stt P M B H) (f:yJ P M B H P' M' H'):∀ {v:V} {d:D} {L:List Addr},Rep K P M B H v d L→d.bare=true→∀ {M2 B2:List Addr},Rep K P' M2 B2 H' v d []
 | _,_,_,.non,_,_,_=>.non
 | _,_,_,.bl,_,_,_=>.bl
 | _,_,_,.int,_,_,_=>.int
 | _,_,_,.str,_,_,_=>.str
 | _,_,_,.pen _,p,_,_=>by simp [D.bare] at p
 | _,_,_,.tup h r,p,_,_=>.tup (TpT.aft s f h) (zf.znZ s f r (by simpa [D.bare] using p))
 | _,_,_,.lstF _ _ _,p,_,_=>by simp [D.bare] at p
 | _,_,_,.lstB _ _,p,_,_=>by simp [D.bare] at p
 | _,_,_,.lstO _ _ _,p,_,_=>by simp [D.bare] at p
 | _,_,_,.exc _ _ _ _,p,_,_=>by simp [D.bare] at p
theorem zf.znZ (s:Stt P M B H) (f:yJ P M B H P' M' H'):∀ {vs:List V} {ds:List D} {L:List Addr},zf K P M B H vs ds L→D.ZL ds=true→∀ {M2 B2:List Addr},zf K P' M2 B2 H' vs ds []
 | _,_,_,.nil,_,_,_=>.nil
 | _,_,_,.cons h r,p,_,_=>by
  simp only [D.ZL,Bool.and_eq_true] at p
  exact .cons (L1:=[]) (L2:=[]) (Rep.znZ s f h p.1) (zf.znZ s f r p.2)
end
mutual
theorem Rep.aft (s:Stt P M B H) (f:yJ P M B H P' M' H'):∀ {v:V} {d:D} {L:List Addr},Rep K P M B H v d L→d.pf=true→Rep K P' M' B H' v d []
 | _,_,_,.non,_=>.non
 | _,_,_,.bl,_=>.bl
 | _,_,_,.int,_=>.int
 | _,_,_,.str,_=>.str
 | _,_,_,.pen h,_=>.pen (f.zM _ h)
 | _,_,_,.tup h r,p=>.tup (TpT.aft s f h) (zf.aft s f r (by simpa [D.pf] using p))
 | _,_,_,.exc hl hx r p,_=>.exc hl (zrN s f hx) (zf.znZ s f r p) p
 | _,_,_,.lstF h r p,_=>.lstF (SqC.aft f h) (zf.aft s f r p) p
 | _,_,_,.lstB _ _,p=>by simp [D.pf] at p
 | _,_,_,.lstO _ _ _,p=>by simp [D.pf] at p
theorem zf.aft (s:Stt P M B H) (f:yJ P M B H P' M' H'):∀ {vs:List V} {ds:List D} {L:List Addr},zf K P M B H vs ds L→D.pfs ds=true→zf K P' M' B H' vs ds []
 | _,_,_,.nil,_=>.nil
 | _,_,_,.cons h r,p=>by
  simp only [D.pfs,Bool.and_eq_true] at p
  exact .cons (L1:=[]) (L2:=[]) (Rep.aft s f h p.1) (zf.aft s f r p.2)
end
end
/-- in a comprehension -/
def zW:D→Option (List D)
 | .con .l .o xs=>if D.nos xs=true then some xs else if D.nbs xs=true then some (D.fzs xs) else none
 | .con .l _ xs=>some xs
 | .tup xs=>if D.nos xs=true then some xs else if D.nbs xs=true then some (D.fzs xs) else none
 | .str z=>some (z.cps.toList.map fun c=>.str ⟨#[c]⟩)
 | _=>none
/-- in a for:nothing borrowed -/
def qW:D→Option (List D)
 | .con .l .b _=>none
 | .con .l .f xs=>some xs
 | .con .l .o xs=>if D.pfs xs=true then some xs else if D.nbs xs=true then some (D.fzs xs) else none
 | .tup xs=>if D.pfs xs=true then some xs else if D.nbs xs=true then some (D.fzs xs) else none
 | .str z=>some (z.cps.toList.map fun c=>.str ⟨#[c]⟩)
 | _=>none
def zhh (lo hi:Int):List D:=(List.range (hi - lo).toNat).map fun i=>D.int (lo+(i:Nat))
/-- downward -/
def zpY (lo:Int) (n:Nat):List D:=(List.range n).map fun i=>D.int (lo+(i:Nat) * (-1))
def zbh (ds:List D):List D:=ds.mapIdx fun i d=>.tup [.int (i:Nat),d]
def YK (ds es:List D):List D:=List.zipWith (fun d e=>D.tup [d,e]) ds es
abbrev DTI:=Env→(List D→Prop)→Prop
def qK (f:D→Option (List D)) (t:DT):DTI:=fun ρ Q=>t ρ fun d=>match f d with
 | some ds=>Q ds
 | none=>False
def zgM (f:D→Option (List D)) (t:DT):DTI:=fun ρ Q=>t ρ fun d=>match d with
 | .con .l k xs=>(match f (.con .l k xs) with
  | some ds=>Q (zbh ds)
  | none=>False)
 | _=>False
def zey:D→Nat
 | .con .l _ _=>1
 | .tup _=>2
 | _=>0
def zms (f:D→Option (List D)) (a b:DT):DTI:=fun ρ Q=>a ρ fun d=>b ρ fun e=>if zey d=zey e∧zey d≠0 then (match f d,f e with
  | some ds,some es=>Q (YK ds es)
  | _,_=>False) else False
def zcb (a:DT):DTI:=fun ρ Q=>a ρ fun d=>match d with
 | .int j=>-1000000000000≤j∧j≤1000000000000∧Q (zhh 0 j)
 | _=>False
/-- what stands at the iterator's turns -/
structure Wk (K:PySem.W.Frag) (P:zR) (M B:List Addr) (H:Hp) (ds:List D) (J:It):Prop where
 go:∀ i,i < ds.length→J.go i H
 stop:J.stop ds.length H
 yld:∀ i x H',i < ds.length→J.yld i H x H'→(H'=H∨∃ T us,H T=none∧H'=upd H T (.tup us))∧∃ d,ds[i]?=some d∧Rep K P M B H' x d []
/-- what is locked and what is a tuple stays -/
def Kp (H H':Hp):Prop:=(∀ a o u,H a=some (.frz o u)→H' a=some (.frz o u))∧∀ a xs,H a=some (.tup xs)→H' a=some (.tup xs)
theorem Kp.refl {H:Hp}:Kp H H:=⟨fun _ _ _ h=>h,fun _ _ h=>h⟩
theorem Kp.trans {H H1 H2:Hp} (a:Kp H H1) (b:Kp H1 H2):Kp H H2:=⟨fun c o u h=>b.1 c o u (a.1 c o u h),fun c xs h=>b.2 c xs (a.2 c xs h)⟩
theorem Gr.kp {N:List Addr} {H H':Hp} (g:Gr N H H') (hN:∀ b∈N,∃ ys,H b=some (.lst ys)):Kp H H':=
 ⟨fun a o u h=>(g.get a _ h fun z=>by
   obtain ⟨ys,q⟩:=hN a z
   rw [h] at q; cases q).ne (fun ps z=>nomatch z),fun a xs h=>(g.get a _ h fun z=>by
   obtain ⟨ys,q⟩:=hN a z
   rw [h] at q; cases q).ne (fun ps z=>nomatch z)⟩
theorem Kp.mo {H:Hp} {c:Addr} {o:HO} (h:Mo H c):Kp H (upd H c o):=by
 obtain ⟨o1,e1,m1⟩:=h
 exact ⟨fun a p u h=>by
   rw [upd_ne fun z=>by
    rw [z,e1] at h
    cases h; cases m1]; exact h,fun a xs h=>by
   rw [upd_ne fun z=>by
    rw [z,e1] at h
    cases h; cases m1]; exact h⟩
/-- a list or a tuple -/
inductive Nd (K:PySem.W.Frag) (N:List Addr) (H:Hp):Nat→Addr→List V→Prop
 | lst {a vs}:SqF K N H a vs→Nd K N H 1 a vs
 | tup {a vs}:TpT K H a vs→Nd K N H 2 a vs
inductive Src (K:PySem.W.Frag) (P:zR) (N M B:List Addr) (H:Hp):List D→It→Prop
 | lst {a vs ds}:SqF K N H a vs→zf K P M B H vs ds []→Src K P N M B H ds (Itl K a)
 | tup {a vs ds}:TpT K H a vs→zf K P M B H vs ds []→Src K P N M B H ds (Itt K a)
 | str {z:Str}:Src K P N M B H (z.cps.toList.map fun c=>.str ⟨#[c]⟩) (Its z)
 | rng {lo hi:Int}:Src K P N M B H (zhh lo hi) (Itr lo (hi - lo).toNat)
 | rdn {lo:Int} {n:Nat}:Src K P N M B H (zpY lo n) (Itc lo (-1) n)
 | enum {a vs ds}:SqF K N H a vs→zf K P M B H vs ds []→Src K P N M B H (zbh ds) (Ite K a)
 | zipL {a vs ds b ws es}:SqF K N H a vs→zf K P M B H vs ds []→SqF K N H b ws→zf K P M B H ws es []→Src K P N M B H (YK ds es) (Itz K a b)
 | zipS {a vs ds b ws es}:SqF K N H a vs→zf K P M B H vs ds []→SqF K N H b ws→zf K P M B H ws es []→ds.length=es.length→Src K P N M B H (YK ds es) (RZ.zum K a b)
 | zipX {z:PySem.Str} {b ws es}:SqF K N H b ws→zf K P M B H ws es []→z.cps.size=es.length→Src K P N M B H (YK (z.cps.toList.map fun c=>.str ⟨#[c]⟩) es) (RZ.zun K z b)
 | zipT {a vs ds b ws es}:TpT K H a vs→zf K P M B H vs ds []→TpT K H b ws→zf K P M B H ws es []→Src K P N M B H (YK ds es) (RZ.ItzT K a b)
 | gen {ds J}:(∀ H',Kp H H'→∀ (P':zR) (M' B':List Addr),Wk K P' M' B' H' ds J)→Src K P N M B H ds J
section
variable {K:PySem.W.Frag} {P:zR} {M M' B B' N L Lr:List Addr} {H H':Hp} {σ:Sg} {ρ:Env} {v:V} {d:D} {ds es:List D} {vs ws:List V} {J:It}
theorem zf.at {i:Nat} {x:V} (r:zf K P M B H vs ds []) (e:vs[i]?=some x):∃ d,ds[i]?=some d∧Rep K P M B H x d []:=by
 obtain ⟨h1,h2⟩:=List.getElem?_eq_some_iff.mp e
 have hl:=r.len
 have h3:i < ds.length:=by omega
 obtain ⟨v,L1,e1,q,s⟩:=r.get (List.getElem?_eq_getElem h3)
 rw [e] at e1; cases e1
 have:L1=[]:=by
  cases L1 with
  | nil=>rfl
  | cons a _=>exact nomatch s a (List.mem_cons_self ..)
 subst this
 exact ⟨_,List.getElem?_eq_getElem h3,q⟩
/-- the pair laid anew -/
theorem Ks (hP:∀ b∈P.as,∃ ys,H b=some (.lst ys)) {T:Addr} (hT:H T=none) {x y:V} {c e:D} (h1:Rep K P M B H x c []) (h2:Rep K P M B H y e []):Rep K P M B (upd H T (.tup [x,y])) (.ref T) (.tup [c,e]) []:=by
 have k:∀ {v:V} {d:D},Rep K P M B H v d []→Rep K P M B (upd H T (.tup [x,y])) v d []:=fun r=>Rep.gr (Gr.laid hT) hP (fun _ z=>.inl z) (fun _ z=>.inl z) r
 exact .tup (upd_same) (.cons (L1:=[]) (L2:=[]) (k h1) (.cons (L1:=[]) (L2:=[]) (k h2) .nil))
theorem Src.now (hP:∀ b∈P.as,∃ ys,H b=some (.lst ys)) (h:Src K P N M B H ds J):Wk K P M B H ds J:=by
 cases h with
 | gen f=>exact f _ Kp.refl _ _ _
 | lst h r=>
  have hl:=r.len
  refine ⟨fun i hi=>⟨_,_,h.sq,List.getElem?_eq_getElem (by omega)⟩,⟨_,h.sq,by omega⟩,fun i x H' hi y=>?_⟩
  obtain ⟨e,y⟩:=y
  subst e
  exact ⟨.inl rfl,r.at (y _ h.sq)⟩
 | tup h r=>
  have hl:=r.len
  refine ⟨fun i hi=>⟨_,_,h.sq,List.getElem?_eq_getElem (by omega)⟩,⟨_,h.sq,by omega⟩,fun i x H' hi y=>?_⟩
  obtain ⟨e,y⟩:=y
  subst e
  exact ⟨.inl rfl,r.at (y _ h.sq)⟩
 | @str z=>
  have hl:(z.cps.toList.map fun c=>D.str ⟨#[c]⟩).length=z.cps.size:=by simp
  refine ⟨fun i hi=>by rw [hl] at hi; exact hi,by rw [hl]; exact Nat.le_refl _,fun i x H' hi y=>?_⟩
  obtain ⟨e,c,ec,ex⟩:=y
  subst e ex
  refine ⟨.inl rfl,.str ⟨#[c]⟩,?_,.str⟩
  rw [List.getElem?_map,Array.getElem?_toList,ec]; rfl
 | @rng lo hi=>
  have hl:(zhh lo hi).length=(hi - lo).toNat:=by simp [zhh]
  refine ⟨fun i h=>by rw [hl] at h; exact h,by rw [hl]; exact Nat.le_refl _,fun i x H' h y=>?_⟩
  obtain ⟨e,ex⟩:=y
  subst e ex
  refine ⟨.inl rfl,.int (lo+i),?_,.int⟩
  rw [hl] at h
  simp [zhh,h]
 | @rdn lo n=>
  have hl:(zpY lo n).length=n:=by simp [zpY]
  refine ⟨fun i h=>by rw [hl] at h; exact h,by rw [hl]; exact Nat.le_refl _,fun i x H' h y=>?_⟩
  obtain ⟨e,ex⟩:=y
  subst e ex
  refine ⟨.inl rfl,.int (lo+(i:Nat) * (-1)),?_,.int⟩
  rw [hl] at h
  simp [zpY,h]
 | @enum a vs ds h r=>
  have hl:=r.len
  have hl2:(zbh ds).length=ds.length:=by simp [zbh]
  refine ⟨fun i hi=>⟨_,_,h.sq,List.getElem?_eq_getElem (by omega)⟩,⟨_,h.sq,by omega⟩,fun i x H' hi y=>?_⟩
  obtain ⟨T,x',e1,e2,e3,e4⟩:=y
  subst e1 e3
  obtain ⟨d,ed,rd⟩:=r.at (e4 _ h.sq)
  refine ⟨.inr ⟨T,_,e2,rfl⟩,.tup [.int (i:Nat),d],?_,Ks hP e2 .int rd⟩
  simp [zbh,List.getElem?_mapIdx,ed]
 | @zipL a vs ds b ws es h r h2 r2=>
  have hl:=r.len
  have hl2:=r2.len
  have hl3:(YK ds es).length=min ds.length es.length:=by simp [YK]
  refine ⟨fun i hi=>⟨_,_,_,_,h.sq,h2.sq,List.getElem?_eq_getElem (by omega),List.getElem?_eq_getElem (by omega)⟩,⟨_,_,h.sq,h2.sq,by omega⟩,fun i x H' hi y=>?_⟩
  obtain ⟨T,x',y',e1,e2,e3,e4,e5⟩:=y
  subst e1 e3
  obtain ⟨d,ed,rd⟩:=r.at (e4 _ h.sq)
  obtain ⟨e,ee,re⟩:=r2.at (e5 _ h2.sq)
  refine ⟨.inr ⟨T,_,e2,rfl⟩,.tup [d,e],?_,Ks hP e2 rd re⟩
  simp [YK,List.getElem?_zipWith,ed,ee]
 | @zipS a vs ds b ws es h r h2 r2 hlen=>
  have hl:=r.len
  have hl2:=r2.len
  have hl3:(YK ds es).length=min ds.length es.length:=by simp [YK]
  refine ⟨fun i hi=>⟨_,_,_,_,h.sq,h2.sq,List.getElem?_eq_getElem (by omega),List.getElem?_eq_getElem (by omega)⟩,⟨_,_,h.sq,h2.sq,by omega,by omega⟩,fun i x H' hi y=>?_⟩
  obtain ⟨T,x',y',e1,e2,e3,e4,e5⟩:=y
  subst e1 e3
  obtain ⟨d,ed,rd⟩:=r.at (e4 _ h.sq)
  obtain ⟨e,ee,re⟩:=r2.at (e5 _ h2.sq)
  refine ⟨.inr ⟨T,_,e2,rfl⟩,.tup [d,e],?_,Ks hP e2 rd re⟩
  simp [YK,List.getElem?_zipWith,ed,ee]
 | @zipX z b ws es h2 r2 hlen=>
  have hl2:=r2.len
  have hz:z.cps.toList.length=z.cps.size:=Array.length_toList
  have hl3:(YK (z.cps.toList.map fun c=>D.str ⟨#[c]⟩) es).length=min z.cps.size es.length:=by simp [YK]
  refine ⟨fun i hi=>⟨_,z.cps[i]'(by omega),_,h2.sq,by rw [Array.getElem?_eq_getElem],List.getElem?_eq_getElem (by omega)⟩,⟨_,h2.sq,by omega,by omega⟩,fun i x H' hi y=>?_⟩
  obtain ⟨T,c,y',e1,e2,e3,e4,e5⟩:=y
  subst e1 e3
  obtain ⟨e,ee,re⟩:=r2.at (e5 _ h2.sq)
  refine ⟨.inr ⟨T,_,e2,rfl⟩,.tup [.str ⟨#[c]⟩,e],?_,Ks hP e2 .str re⟩
  have e6:z.cps.toList[i]?=some c:=by rw [Array.getElem?_toList]; exact e4
  simp [YK,List.getElem?_zipWith,ee,e4]
 | @zipT a vs ds b ws es h r h2 r2=>
  have hl:=r.len
  have hl2:=r2.len
  have hl3:(YK ds es).length=min ds.length es.length:=by simp [YK]
  refine ⟨fun i hi=>⟨_,_,_,_,h.sq,h2.sq,List.getElem?_eq_getElem (by omega),List.getElem?_eq_getElem (by omega)⟩,⟨_,_,h.sq,h2.sq,by omega⟩,fun i x H' hi y=>?_⟩
  obtain ⟨T,x',y',e1,e2,e3,e4,e5⟩:=y
  subst e1 e3
  obtain ⟨d,ed,rd⟩:=r.at (e4 _ h.sq)
  obtain ⟨e,ee,re⟩:=r2.at (e5 _ h2.sq)
  refine ⟨.inr ⟨T,_,e2,rfl⟩,.tup [d,e],?_,Ks hP e2 rd re⟩
  simp [YK,List.getElem?_zipWith,ed,ee]
mutual
/-- frozen,where nothing is borrowed -/
theorem Rep.fzn (hM:∀ a∈N,a∈M):∀ {v:V} {d:D} {L:List Addr},Rep K P M B H v d L→d.nb=true→(∀ a∈L,a∉N)→(∀ {B':List Addr},Rep K P N B' H v d.fz [])∧d.fz.pf=true
 | _,_,_,.non,_,_=>⟨.non,rfl⟩
 | _,_,_,.bl,_,_=>⟨.bl,rfl⟩
 | _,_,_,.int,_,_=>⟨.int,rfl⟩
 | _,_,_,.str,_,_=>⟨.str,rfl⟩
 | _,_,_,.pen h,_,_=>⟨.pen h,rfl⟩
 | _,_,_,.tup h r,b,n=>by
  obtain ⟨q,p⟩:=zf.fzn hM r (by simpa [D.nb] using b) n
  exact ⟨.tup h q,by simpa [D.fz,D.pf] using p⟩
 | _,_,_,.exc hl hx r p,_,_=>⟨Rep.zgo hl hx r p,rfl⟩
 | _,_,_,.lstF h r p,_,_=>⟨.lstF (SqC.sub h (jG hM)) (zf.sub hM (fun _ z=>z) (zf.pf r p).2) p,by simpa [D.fz,D.pf] using p⟩
 | _,_,_,.lstB _ _,b,_=>by simp [D.nb] at b
 | _,_,_,@Rep.lstO _ _ _ _ _ c a vs ds L h n r,b,m=>by
  obtain ⟨q,p⟩:=zf.fzn hM r (by simpa [D.nb] using b) (fun b z=>m b (List.mem_cons_of_mem _ z))
  refine ⟨.lstF (h.sq fun z=>?_) q p,by simpa [D.fz,D.pf] using p⟩
  rcases List.mem_append.mp z with z | z
  ·exact n z
  ·exact m a (List.mem_cons_self ..) z
theorem zf.fzn (hM:∀ a∈N,a∈M):∀ {vs:List V} {ds:List D} {L:List Addr},zf K P M B H vs ds L→D.nbs ds=true→(∀ a∈L,a∉N)→(∀ {B':List Addr},zf K P N B' H vs (D.fzs ds) [])∧D.pfs (D.fzs ds)=true
 | _,_,_,.nil,_,_=>⟨.nil,rfl⟩
 | _,_,_,.cons h r,b,n=>by
  simp only [D.nbs,Bool.and_eq_true] at b
  obtain ⟨q1,p1⟩:=Rep.fzn hM h b.1 (fun a z=>n a (List.mem_append_left _ z))
  obtain ⟨q2,p2⟩:=zf.fzn hM r b.2 (fun a z=>n a (List.mem_append_right _ z))
  exact ⟨.cons (L1:=[]) (L2:=[]) q1 q2,by simp only [D.fzs,D.pfs,p1,p2,Bool.and_self]⟩
end
theorem jt {L M:List Addr}:∀ a∈M,a∈L++M:=fun _ z=>List.mem_append_right _ z
theorem zlg (hs:∀ a∈B,a∈M) (hd:∀ a∈Lr,a∉M) (r:Rep K P (Lr++M) (Lr++B) H v d Lr) (h:zW d=some ds):
  (∃ a vs,v=.ref a∧zey d=1∧SqF K (P.as++B) H a vs∧zf K P M B H vs ds [])∨(∃ a vs,v=.ref a∧zey d=2∧TpT K H a vs∧zf K P M B H vs ds [])∨∃ z:Str,v=.str z∧d=.str z∧ds=z.cps.toList.map fun c=>.str ⟨#[c]⟩:=by
 have subF:∀ b∈P.as++B,b∈P.as++(Lr++M):=fun b z=>(List.mem_append.mp z).elim (fun q=>List.mem_append_left _ q) fun q=>List.mem_append_right _ (List.mem_append_right _ (hs b q))
 have subB:∀ b∈P.as++B,b∈P.as++(Lr++B):=fun b z=>(List.mem_append.mp z).elim (fun q=>List.mem_append_left _ q) fun q=>List.mem_append_right _ (List.mem_append_right _ q)
 cases r with
 | non=>simp [zW] at h
 | bl=>simp [zW] at h
 | int=>simp [zW] at h
 | str=>
  have e:_=ds:=Option.some.inj h
  exact .inr (.inr ⟨_,rfl,rfl,e.symm⟩)
 | pen _=>simp [zW] at h
 | tup h1 r=>
  simp only [zW] at h
  refine .inr (.inl ⟨_,_,rfl,rfl,h1,?_⟩)
  split at h
  ·rename_i hn
   have e:_=ds:=Option.some.inj h
   subst e
   have el:=r.no hn
   subst el
   exact zf.sub jt jt r
  ·split at h
   ·rename_i hn
    have e:_=ds:=Option.some.inj h
    subst e
    exact (zf.fzn jt r hn hd).1
   ·cases h
 | exc=>simp [zW] at h
 | @lstF c a vs es0 h1 r p=>
  cases c with
  | l=>
   have e:_=ds:=Option.some.inj h
   subst e
   exact .inl ⟨_,_,rfl,rfl,SqF.sub h1.1 subF,zf.sub jt jt r⟩
  | _=>simp [zW] at h
 | @lstB c a vs es0 h1 r=>
  cases c with
  | l=>
   have e:_=ds:=Option.some.inj h
   subst e
   exact .inl ⟨_,_,rfl,rfl,SqF.sub h1.1 subB,zf.sub jt jt r⟩
  | _=>simp [zW] at h
 | @lstO c a vs es0 Lo h1 n r=>
  have ec:c=.l:=by
   cases c with
   | l=>rfl
   | _=>simp [zW] at h
  subst ec
  simp only [zW] at h
  refine .inl ⟨_,_,rfl,rfl,.inl ⟨.inl h1,fun z=>(List.mem_append.mp z).elim n fun q=>hd _ (List.mem_cons_self ..) (hs _ q)⟩,?_⟩
  split at h
  ·rename_i hn
   have e:_=ds:=Option.some.inj h
   subst e
   have el:=r.no hn
   subst el
   exact zf.sub jt jt r
  ·split at h
   ·rename_i hn
    have e:_=ds:=Option.some.inj h
    subst e
    exact (zf.fzn jt r hn fun a z=>hd a (List.mem_cons_of_mem _ z)).1
   ·cases h
theorem zre (hd:∀ a∈Lr,a∉M) (r:Rep K P (Lr++M) (Lr++B) H v d Lr) (h:qW d=some ds):
  D.pfs ds=true∧((∃ a vs,v=.ref a∧zey d=1∧SqF K (P.as++M) H a vs∧zf K P M B H vs ds [])∨(∃ a vs,v=.ref a∧zey d=2∧TpT K H a vs∧zf K P M B H vs ds [])∨∃ z:Str,v=.str z∧d=.str z∧ds=z.cps.toList.map fun c=>.str ⟨#[c]⟩):=by
 cases r with
 | non=>simp [qW] at h
 | bl=>simp [qW] at h
 | int=>simp [qW] at h
 | @str z=>
  have e:_=ds:=Option.some.inj h
  subst e
  refine ⟨?_,.inr (.inr ⟨_,rfl,rfl,rfl⟩)⟩
  generalize z.cps.toList=l
  induction l with
  | nil=>rfl
  | cons a l ih=>simp only [List.map_cons,D.pfs,D.pf,Bool.true_and]; exact ih
 | pen _=>simp [qW] at h
 | tup h1 r=>
  simp only [qW] at h
  split at h
  ·rename_i hn
   have e:_=ds:=Option.some.inj h
   subst e
   obtain ⟨el,r'⟩:=zf.pf r hn
   subst el
   exact ⟨hn,.inr (.inl ⟨_,_,rfl,rfl,h1,zf.sub jt jt r⟩)⟩
  ·split at h
   ·rename_i hn
    have e:_=ds:=Option.some.inj h
    subst e
    obtain ⟨q,p⟩:=zf.fzn jt r hn hd
    exact ⟨p,.inr (.inl ⟨_,_,rfl,rfl,h1,q⟩)⟩
   ·cases h
 | exc=>simp [qW] at h
 | @lstF c a vs es0 h1 r p=>
  cases c with
  | l=>
   have e:_=ds:=Option.some.inj h
   subst e
   exact ⟨p,.inl ⟨_,_,rfl,rfl,h1.1,zf.sub jt jt r⟩⟩
  | _=>simp [qW] at h
 | @lstB c a vs es0 h1 r=>cases c <;> simp [qW] at h
 | @lstO c a vs es0 Lo h1 n r=>
  have ec:c=.l:=by
   cases c with
   | l=>rfl
   | _=>simp [qW] at h
  subst ec
  have hn0:SqF K (P.as++M) H _ _:=.inl ⟨.inl h1,fun z=>(List.mem_append.mp z).elim n (hd _ (List.mem_cons_self ..))⟩
  simp only [qW] at h
  split at h
  ·rename_i hn
   have e:_=ds:=Option.some.inj h
   subst e
   obtain ⟨el,r'⟩:=zf.pf r hn
   subst el
   exact ⟨hn,.inl ⟨_,_,rfl,rfl,hn0,zf.sub jt jt r⟩⟩
  ·split at h
   ·rename_i hn
    have e:_=ds:=Option.some.inj h
    subst e
    obtain ⟨q,p⟩:=zf.fzn jt r hn fun a z=>hd a (List.mem_cons_of_mem _ z)
    exact ⟨p,.inl ⟨_,_,rfl,rfl,hn0,q⟩⟩
   ·cases h
/-- what is walked stays while the heap grows -/
theorem Src.gr (hP:∀ b∈P.as,∃ ys,H b=some (.lst ys)) (g:Gr P.as H H') (hM:∀ a∈M',a∈M∨H a=none) (hB:∀ a∈B',a∈B∨H a=none) (h:Src K P (P.as++B) M B H ds J):Src K P (P.as++B') M' B' H' ds J:=by
 have f:∀ {a vs},SqF K (P.as++B) H a vs→SqF K (P.as++B') H' a vs:=fun h=>h.gr g (fun _ z=>List.mem_append_left _ z) (fun b z=>(List.mem_append.mp z).elim (fun q=>.inl (List.mem_append_left _ q)) fun q=>(hB b q).elim (fun q=>.inl (List.mem_append_right _ q)) .inr)
 have r:∀ {vs ds},zf K P M B H vs ds []→zf K P M' B' H' vs ds []:=fun h=>zf.gr g hP hM hB h
 cases h with
 | gen f=>exact .gen fun H2 k=>f H2 ((g.kp hP).trans k)
 | lst h1 h2=>exact .lst (f h1) (r h2)
 | tup h1 h2=>exact .tup (TpT.gr h1 g hP) (r h2)
 | str=>exact .str
 | rng=>exact .rng
 | rdn=>exact .rdn
 | enum h1 h2=>exact .enum (f h1) (r h2)
 | zipL h1 h2 h3 h4=>exact .zipL (f h1) (r h2) (f h3) (r h4)
 | zipS h1 h2 h3 h4 h5=>exact .zipS (f h1) (r h2) (f h3) (r h4) h5
 | zipX h3 h4 h5=>exact .zipX (f h3) (r h4) h5
 | zipT h1 h2 h3 h4=>exact .zipT (TpT.gr h1 g hP) (r h2) (TpT.gr h3 g hP) (r h4)
end
def zrO (K:PySem.W.Frag) (te:TE):TI:=fun σ H R=>te σ H fun x H1=>(∃ a xs,x=.ref a∧SqL K H1 a xs∧R (Itl K a) H1)∨(∃ a xs,x=.ref a∧TpT K H1 a xs∧R (Itt K a) H1)∨∃ z,x=.str z∧R (Its z) H1
theorem zn0 {X:Cx} {tg e:Expr} {te:TE} (he:PE X e te):PI X tg e (zrO X.K te):=by
 refine ⟨fun pins s σ H R I h=>?_⟩
 refine thn (he.run pins s σ H _ I h) fun u s1 ⟨x,H1,I1,rx,q⟩=>?_
 rcases q with ⟨a,xs,rfl,hq,q⟩ | ⟨a,xs,rfl,hq,q⟩ | ⟨z,rfl,q⟩
 ·cases rx
  obtain ⟨its,rv,p,_⟩:=I1.list hq
  exact wpAny_pyIter_list p.isList (pi_one (tk:=s1.toks) I1 _ (turn_list a _)
   ⟨_,Heap.get?_push_size _ rfl,rfl,rfl⟩ q)
 ·cases rx
  obtain ⟨its,rv,p,_⟩:=I1.tuple hq.sq
  exact wpAny_pyIter_tuple (show s1.heap.IsTuple a its.toArray from p) (pi_one (tk:=s1.toks) I1 _ (turn_tuple a _)
   ⟨_,Heap.get?_push_size _ rfl,rfl,rfl⟩ q)
 ·obtain ⟨t,rfl⟩:=rx
  cases ha:z.cps.all (·< 128) with
  | false=>exact wpAny_pyIter_wide ha (pi_one (tk:=s1.toks) I1 _ (turn_str _ z t "str_iterator" (.inr rfl))
    ⟨_,Heap.get?_push_size _ rfl,rfl,rfl⟩ q)
  | true=>exact wpAny_pyIter_ascii ha (pi_one (tk:=s1.toks) I1 _ (turn_str _ z t "str_ascii_iterator" (.inl rfl))
    ⟨_,Heap.get?_push_size _ rfl,rfl,rfl⟩ q)
end DL
set_option maxHeartbeats 4000000
namespace DL
open PySem PySem.Spec PyProof.Rows L2
variable [Tb]
/-- in a comprehension:P,M,B as they stood ahead -/
def zbR (K:PySem.W.Frag) (t:DTI):TI:=fun σ H R=>∃ P M B ρ Q0,Stt P M B H∧Slots K P M B H σ ρ∧t ρ Q0∧
 ∀ ds J H',Q0 ds→Gr P.as H H'→zF P M H'→Src K P (P.as++B) M B H' ds J→R J H'
def zfa (K:PySem.W.Frag) (t:DTI):TI:=fun σ H R=>∃ P M B ρ Q0,Stt P M B H∧Slots K P M B H σ ρ∧t ρ Q0∧
 ∀ ds J H',Q0 ds→Gr P.as H H'→zF P M H'→(∀ P' M' H'',yJ P M B H' P' M' H''→Stt P' M' B H''→Wk K P' M' B H'' ds J)→D.pfs ds=true→R J H'
section
variable {K:PySem.W.Frag} {P:zR} {M M' B B' L Lr:List Addr} {H H':Hp} {σ:Sg} {ρ:Env} {v:V} {d:D} {ds:List D} {vs:List V} {Q0:D→Prop}
/-- a value has been reckoned; its lists are let go -/
theorem X4 (s:Stt P M B H) (r:Res K P M B [] H Q0 v H'):∃ c Lr,Q0 c∧Gr P.as H H'∧zF P M H'∧Rep K P (Lr++M) (Lr++B) H' v c Lr∧∀ a∈Lr,a∉M:=by
 obtain ⟨c,Lr,q,g,p,r,_,f⟩:=r
 exact ⟨c,Lr,q,g,p.grow fun a z=>.inl (jt a z),r,fun a z m=>s.trk a m ((f a z).elim id fun q=>nomatch q)⟩
theorem zki {t:DT} {R:It→Hp→Prop} (h:zbR K (qK zW t) σ H R):zrO K (lift K t) σ H R:=by
 obtain ⟨P,M,B,ρ,Q0,s,sl,q,k⟩:=h
 refine ⟨P,M,B,ρ,_,s,sl,q,fun v H1 r1=>?_⟩
 obtain ⟨c,Lr,q,g,p,r,n⟩:=X4 s r1
 split at q
 ·rename_i ds e
  rcases zlg s.sub n r e with ⟨a,vs,rfl,_,h1,h2⟩ | ⟨a,vs,rfl,_,h1,h2⟩ | ⟨z,rfl,_,rfl⟩
  ·exact .inl ⟨a,vs,rfl,h1.sq,k _ _ _ q g p (.lst h1 h2)⟩
  ·exact .inr (.inl ⟨a,vs,rfl,h1,k _ _ _ q g p (.tup h1 h2)⟩)
  ·exact .inr (.inr ⟨z,rfl,k _ _ _ q g p .str⟩)
 ·exact q.elim
theorem zpZ (s:Stt P M B H) {a:Addr} (h1:SqF K (P.as++M) H a vs) (h2:zf K P M B H vs ds []) (p:D.pfs ds=true) {P':zR} {M':List Addr} {H':Hp} (f:yJ P M B H P' M' H'):SqF K (P'.as++M') H' a vs∧zf K P' M' B H' vs ds []:=⟨SqF.aft f h1,zf.aft s f h2 p⟩
theorem zth (s:Stt P M B H) {a:Addr} (h1:TpT K H a vs) (h2:zf K P M B H vs ds []) (p:D.pfs ds=true) {P':zR} {M':List Addr} {H':Hp} (f:yJ P M B H P' M' H'):TpT K H' a vs∧zf K P' M' B H' vs ds []:=⟨TpT.aft s f h1,zf.aft s f h2 p⟩
theorem zkj {t:DT} {R:It→Hp→Prop} (h:zfa K (qK qW t) σ H R):zrO K (lift K t) σ H R:=by
 obtain ⟨P,M,B,ρ,Q0,s,sl,q,k⟩:=h
 refine ⟨P,M,B,ρ,_,s,sl,q,fun v H1 r1=>?_⟩
 obtain ⟨c,Lr,q,g,p,r,n⟩:=X4 s r1
 split at q
 ·rename_i ds e
  obtain ⟨pf,h⟩:=zre n r e
  rcases h with ⟨a,vs,rfl,_,h1,h2⟩ | ⟨a,vs,rfl,_,h1,h2⟩ | ⟨z,rfl,_,rfl⟩
  ·exact .inl ⟨a,vs,rfl,h1.sq,k _ _ _ q g p (fun P' M' H'' f s'=>(Src.lst (zpZ (s.keep g p) h1 h2 pf f).1 (zpZ (s.keep g p) h1 h2 pf f).2).now s'.lists) pf⟩
  ·exact .inr (.inl ⟨a,vs,rfl,h1,k _ _ _ q g p (fun P' M' H'' f s'=>(Src.tup (N:=[]) (zth (s.keep g p) h1 h2 pf f).1 (zth (s.keep g p) h1 h2 pf f).2).now s'.lists) pf⟩)
  ·exact .inr (.inr ⟨z,rfl,k _ _ _ q g p (fun P' M' H'' f s'=>(Src.str (N:=[])).now s'.lists) pf⟩)
 ·exact q.elim
theorem zn1:∀ (ds:List D),D.pfs ds=true→D.pfs (zbh ds)=true:=by
 have go:∀ (ds:List D) (n:Nat),D.pfs ds=true→D.pfs (ds.mapIdx fun i d=>D.tup [.int ((i+n:Nat):Int),d])=true:=by
  intro ds
  induction ds with
  | nil=>intro _ _; rfl
  | cons d ds ih=>
   intro n h
   simp only [D.pfs,Bool.and_eq_true] at h
   have:=ih (n+1) h.2
   simp only [List.mapIdx_cons,D.pfs,D.pf,h.1,Bool.true_and,Bool.and_true]
   have e:(fun i (d:D)=>D.tup [.int (((i+1)+n:Nat):Int),d])=fun i d=>D.tup [.int ((i+(n+1):Nat):Int),d]:=by
    funext i d; rw [show i+1+n=i+(n+1) by omega]
   rw [e]; exact this
 intro ds h
 simpa [zbh] using go ds 0 h
theorem zp0 (lo hi:Int):D.pfs (zhh lo hi)=true:=by
 unfold zhh
 generalize List.range _=l
 induction l with
 | nil=>rfl
 | cons a l ih=>simp only [List.map_cons,D.pfs,D.pf,Bool.true_and]; exact ih
theorem zir {t:DT} {R:It→Hp→Prop} (h:zfa K (zgM qW t) σ H R):iEnum K (tCons (lift K t) tNil) σ H R:=by
 obtain ⟨P,M,B,ρ,Q0,s,sl,q,k⟩:=h
 refine ⟨P,M,B,ρ,_,s,sl,q,fun v H1 r1=>?_⟩
 obtain ⟨c,Lr,q,g,p,r,n⟩:=X4 s r1
 split at q
 ·split at q
  ·rename_i ds e
   obtain ⟨pf,h⟩:=zre n r e
   rcases h with ⟨a,vs,rfl,_,h1,h2⟩ | ⟨a,vs,rfl,e2,h1,h2⟩ | ⟨z,rfl,e2,rfl⟩
   ·exact ⟨a,vs,rfl,h1.sq,k _ _ _ q g p (fun P' M' H'' f s'=>(Src.enum (zpZ (s.keep g p) h1 h2 pf f).1 (zpZ (s.keep g p) h1 h2 pf f).2).now s'.lists) (zn1 _ pf)⟩
   ·cases e2
   ·cases e2
  ·exact q.elim
 ·exact q.elim
theorem Nd.gr (hP:∀ b∈P.as,∃ ys,H b=some (.lst ys)) (g:Gr P.as H H') (hM:∀ a∈M',a∈M∨H a=none) {k:Nat} {a:Addr} {vs:List V} (h:Nd K (P.as++M) H k a vs):Nd K (P.as++M') H' k a vs:=by
 cases h with
 | lst h=>exact .lst (h.gr g (fun b z=>List.mem_append_left _ z) (fun b z=>(List.mem_append.mp z).elim (fun q=>.inl (List.mem_append_left _ q)) fun q=>(hM b q).elim (fun q=>.inl (List.mem_append_right _ q)) .inr))
 | tup h=>exact .tup (TpT.gr h g hP)
theorem zkk {t u:DT} {R:It→Hp→Prop} (h:zbR K (zms zW t u) σ H R):RZ.iZipA K (tCons (lift K t) (tCons (lift K u) tNil)) σ H R:=by
 obtain ⟨P,M,B,ρ,Q0,s,sl,q,k⟩:=h
 refine ⟨P,M,B,ρ,_,s,sl,q,fun v H1 r1=>?_⟩
 obtain ⟨c,Lr,q,g,p,r,n⟩:=X4 s r1
 have s1:=s.keep g p
 have sl1:=sl.keep s g
 refine ⟨P,M,B,ρ,_,s1,sl1,q,fun v' H2 r2=>?_⟩
 obtain ⟨c',Lr',q,g',p',r',n'⟩:=X4 s1 r2
 split at q
 ·rename_i hk
  split at q
  ·rename_i ds es e e'
   have G:=g.trans g'
   have keep:∀ {vs ds},zf K P M B H1 vs ds []→zf K P M B H2 vs ds []:=fun h=>zf.gr g' s1.lists (fun _ z=>.inl z) (fun _ z=>.inl z) h
   rcases zlg s.sub n r e with ⟨a,vs,rfl,e1,h1,h2⟩ | ⟨a,vs,rfl,e1,h1,h2⟩ | ⟨z,rfl,e1,rfl⟩
   ·rcases zlg s.sub n' r' e' with ⟨b,ws,rfl,e2,h3,h4⟩ | ⟨b,ws,rfl,e2,h3,h4⟩ | ⟨z,rfl,e2,rfl⟩
    ·have h1':=h1.gr g' (fun _ z=>List.mem_append_left _ z) (fun _ z=>.inl z)
     exact ⟨a,b,vs,ws,rfl,.inl ⟨h1'.sq,h3.sq,k _ _ _ q G p' (.zipL h1' (keep h2) h3 h4)⟩⟩
    ·rw [e1,e2] at hk; exact absurd hk.1 (by decide)
    ·subst e2; rw [e1] at hk; exact nomatch hk.1
   ·rcases zlg s.sub n' r' e' with ⟨b,ws,rfl,e2,h3,h4⟩ | ⟨b,ws,rfl,e2,h3,h4⟩ | ⟨z,rfl,e2,rfl⟩
    ·rw [e1,e2] at hk; exact absurd hk.1 (by decide)
    ·have h1':=TpT.gr h1 g' s1.lists
     exact ⟨a,b,vs,ws,rfl,.inr ⟨h1'.sq,h3.sq,k _ _ _ q G p' (.zipT h1' (keep h2) h3 h4)⟩⟩
    ·subst e2; rw [e1] at hk; exact nomatch hk.1
   ·subst e1; exact absurd rfl hk.2
  ·exact q.elim
 ·exact q.elim
theorem zfb {t:DT} {R:It→Hp→Prop} (h:zbR K (zcb t) σ H R∨zfa K (zcb t) σ H R):iRng1 (tCons (lift K t) tNil) σ H R:=by
 rcases h with h | h
 ·obtain ⟨P,M,B,ρ,Q0,s,sl,q,k⟩:=h
  refine ⟨P,M,B,ρ,_,s,sl,q,fun v H1 r1=>?_⟩
  obtain ⟨c,Lr,q,g,p,r,n⟩:=X4 s r1
  split at q
  ·rename_i j
   obtain ⟨rfl,_⟩:=r.int_inv
   have z:=k _ _ _ q.2.2 g p (.rng (lo:=0) (hi:=j))
   rw [Int.sub_zero] at z
   exact ⟨_,rfl,by omega,by omega,z⟩
  ·exact q.elim
 ·obtain ⟨P,M,B,ρ,Q0,s,sl,q,k⟩:=h
  refine ⟨P,M,B,ρ,_,s,sl,q,fun v H1 r1=>?_⟩
  obtain ⟨c,Lr,q,g,p,r,n⟩:=X4 s r1
  split at q
  ·rename_i j
   obtain ⟨rfl,_⟩:=r.int_inv
   have z:=k _ _ _ q.2.2 g p (fun P' M' H'' f s'=>(Src.rng (N:=[]) (lo:=0) (hi:=j)).now s'.lists) (zp0 _ _)
   rw [Int.sub_zero] at z
   exact ⟨_,rfl,by omega,by omega,z⟩
  ·exact q.elim
end
end DL
set_option maxHeartbeats 4000000
namespace DL
open PySem PySem.Spec PyProof.Rows L2
variable [Tb]
mutual
inductive G where
 | nm (i:Nat)
 | tp (gs:Gs)
inductive Gs where
 | nil
 | cons (g:G) (gs:Gs)
end
def Gs.len:Gs→Nat
 | .nil=>0
 | .cons _ gs=>gs.len+1
mutual
def G.slots:G→List Nat
 | .nm i=>[i]
 | .tp gs=>Gs.slots gs
def Gs.slots:Gs→List Nat
 | .nil=>[]
 | .cons g gs=>G.slots g++Gs.slots gs
end
mutual
def G.go:G→D→Env→(Env→Prop)→Prop
 | .nm i,d,ρ,N=>N (ρ.set i (some d))
 | .tp gs,d,ρ,N=>match d with
  | .tup ds=>Gs.go gs ds ρ N
  | _=>False
def Gs.go:Gs→List D→Env→(Env→Prop)→Prop
 | .nil,[],ρ,N=>N ρ
 | .nil,_::_,_,_=>False
 | .cons _ _,[],_,_=>False
 | .cons g gs,d::ds,ρ,N=>G.go g d ρ fun ρ'=>Gs.go gs ds ρ' N
end
mutual
def G.tg (K:PySem.W.Frag):G→TG
 | .nm i=>gName i
 | .tp gs=>gTup K gs.len (Gs.tgs K gs)
def Gs.tgs (K:PySem.W.Frag):Gs→TGs
 | .nil=>gNil
 | .cons g gs=>gCons (G.tg K g) (Gs.tgs K gs)
end
def yF (ρ:Env):List Nat→Env
 | []=>ρ
 | v::vs=>(yF ρ vs).set v none
theorem zaX (σ:Sg) (j:Nat):∀ vs:List Nat,(wipe σ vs)[j]?=if j∈vs∧j < σ.length then some none else σ[j]?
 | []=>by simp [wipe]
 | v::vs=>by
  unfold wipe
  rw [List.getElem?_set,wipe_length,zaX σ j vs]
  by_cases h:v=j
  ·subst h
   by_cases hl:v < σ.length
   ·simp [hl]
   ·simp [hl]
  ·have h':¬j=v:=fun e=>h e.symm
   simp [h,h']
theorem zcX (σ:Sg) (vs:List Nat):wipe (wipe σ vs) vs=wipe σ vs:=by
 refine List.ext_getElem? fun j=>?_
 rw [zaX,wipe_length,zaX]
 by_cases h:j∈vs∧j < σ.length <;> simp [h]
theorem zn2 (σ:Sg) {vs:List Nat} {i:Nat} (o:Option V) (h:i∈vs):wipe (σ.set i o) vs=wipe σ vs:=by
 refine List.ext_getElem? fun j=>?_
 rw [zaX,zaX,List.length_set]
 by_cases hj:j∈vs∧j < σ.length
 ·simp [hj]
 ·simp only [if_neg hj]
  rw [List.getElem?_set]
  by_cases e:i=j
  ·subst e
   have:¬i < σ.length:=fun z=>hj ⟨h,z⟩
   simp [this]
  ·simp [e]
theorem zcY (ρ:Env):∀ vs:List Nat,(yF ρ vs).length=ρ.length
 | []=>rfl
 | v::vs=>by unfold yF; rw [List.length_set,zcY ρ vs]
theorem Ji {ρ:Env} {i:Nat} {x:D}:∀ {vs:List Nat},(yF ρ vs)[i]?=some (some x)→ρ[i]?=some (some x)∧i∉vs
 | [],h=>⟨h,by simp⟩
 | v::vs,h=>by
  unfold yF at h
  rw [List.getElem?_set] at h
  by_cases hi:v=i
  ·subst hi
   by_cases hl:v < (yF ρ vs).length <;> simp [hl] at h
  ·simp only [if_neg hi] at h
   obtain ⟨h1,h2⟩:=Ji h
   exact ⟨h1,by simp only [List.mem_cons,not_or]; exact ⟨fun e=>hi e.symm,h2⟩⟩
section
variable {K:PySem.W.Frag} {P:zR} {M M' B B' L Lr R:List Addr} {H H':Hp} {σ:Sg} {ρ:Env} {v:V} {d:D} {ds:List D} {vs:List V}
/-- the names' values,apart from what is reserved -/
def qN (K:PySem.W.Frag) (P:zR) (M B:List Addr) (H:Hp) (σ:Sg) (ρ:Env) (R:List Addr):Prop:=
 ρ.length≤σ.length∧∃ F:Nat→List Addr,(∀ (i:Nat) (d:D),ρ[i]?=some (some d)→∃ v,σ[i]?=some (some v)∧Rep K P M B H v d (F i))∧
  (∀ (i:Nat) (a:Addr),a∈F i→a∈M∧a∉B)∧(∀ i:Nat,(F i).Nodup)∧(∀ (i j:Nat) (a:Addr),a∈F i→a∈F j→i=j)∧∀ (i:Nat) (a:Addr),a∈F i→a∉R
theorem Slots.x (h:Slots K P M B H σ ρ):qN K P M B H σ ρ []:=by
 obtain ⟨hl,F,h1,h2,h3,h4⟩:=h
 exact ⟨hl,F,h1,h2,h3,h4,fun _ _ _ z=>nomatch z⟩
theorem qN.s (h:qN K P M B H σ ρ R):Slots K P M B H σ ρ:=by
 obtain ⟨hl,F,h1,h2,h3,h4,_⟩:=h
 exact ⟨hl,F,h1,h2,h3,h4⟩
theorem qN.wipe (h:qN K P M B H σ ρ R) (vs:List Nat):qN K P M B H (L2.wipe σ vs) (yF ρ vs) R:=by
 obtain ⟨hl,F,h1,h2,h3,h4,h5⟩:=h
 refine ⟨by rw [wipe_length,zcY]; exact hl,F,fun i d e=>?_,h2,h3,h4,h5⟩
 obtain ⟨e1,e2⟩:=Ji e
 obtain ⟨v,e3,r⟩:=h1 i d e1
 refine ⟨v,?_,r⟩
 rw [zaX,if_neg (fun z=>e2 z.1),e3]
/-- a value is stored -/
theorem qN.set (h:qN K P M B H σ ρ (L++R)) (r:Rep K P M B H v d L) (hL:∀ a∈L,a∈M∧a∉B) (n:L.Nodup) (dj:∀ a∈L,a∉R) (i:Nat):qN K P M B H (σ.set i (some v)) (ρ.set i (some d)) R:=by
 obtain ⟨hl,F,h1,h2,h3,h4,h5⟩:=h
 refine ⟨by rw [List.length_set,List.length_set]; exact hl,fun j=>if j=i then L else F j,fun j e he=>?_,fun j a z=>?_,fun j=>?_,fun j k a z z'=>?_,fun j a z=>?_⟩
 ·rw [List.getElem?_set] at he
  by_cases hj:i=j
  ·subst hj
   rw [if_pos rfl] at he
   by_cases hi:i < ρ.length
   ·rw [if_pos hi] at he
    cases he
    refine ⟨v,?_,by simpa using r⟩
    rw [List.getElem?_set,if_pos rfl,if_pos (by omega)]
   ·rw [if_neg hi] at he; cases he
  ·rw [if_neg hj] at he
   obtain ⟨w,e1,r1⟩:=h1 j e he
   refine ⟨w,?_,?_⟩
   ·rw [List.getElem?_set,if_neg hj,e1]
   ·have:¬j=i:=fun e=>hj e.symm
    simpa [this] using r1
 ·dsimp only at z
  split at z
  ·exact hL a z
  ·exact h2 j a z
 ·dsimp only
  split
  ·exact n
  ·exact h3 j
 ·dsimp only at z z'
  split at z <;> split at z'
  ·rename_i e1 e2; rw [e1,e2]
  ·exact absurd (List.mem_append_left _ z) (h5 k a z')
  ·exact absurd (List.mem_append_left _ z') (h5 j a z)
  ·exact h4 j k a z z'
 ·dsimp only at z
  split at z
  ·exact dj a z
  ·exact fun q=>h5 j a z (List.mem_append_right _ q)
theorem qN.res (h:qN K P M B H σ ρ R) {R':List Addr} (hr:∀ a∈R',a∈R):qN K P M B H σ ρ R':=by
 obtain ⟨hl,F,h1,h2,h3,h4,h5⟩:=h
 exact ⟨hl,F,h1,h2,h3,h4,fun i a z q=>h5 i a z (hr a q)⟩
mutual
theorem G.zis:∀ {g:G} {d:D} {ρ:Env} {N:Env→Prop},G.go g d ρ N→∃ ρ',N ρ'
 | .nm i,d,ρ,N,h=>⟨_,by simpa [G.go] using h⟩
 | .tp gs,.tup ds,ρ,N,h=>(Gs.zis (gs:=gs) (ds:=ds) (by simpa [G.go] using h)).2
 | .tp gs,.non,ρ,N,h=>by simp [G.go] at h
 | .tp gs,.bl _,ρ,N,h=>by simp [G.go] at h
 | .tp gs,.int _,ρ,N,h=>by simp [G.go] at h
 | .tp gs,.str _,ρ,N,h=>by simp [G.go] at h
 | .tp gs,.pen,ρ,N,h=>by simp [G.go] at h
 | .tp gs,.con .l _ _,ρ,N,h=>by simp [G.go] at h
theorem Gs.zis:∀ {gs:Gs} {ds:List D} {ρ:Env} {N:Env→Prop},Gs.go gs ds ρ N→ds.length=gs.len∧∃ ρ',N ρ'
 | .nil,[],ρ,N,h=>⟨rfl,_,by simpa [Gs.go] using h⟩
 | .nil,_::_,ρ,N,h=>by simp [Gs.go] at h
 | .cons g gs,[],ρ,N,h=>by simp [Gs.go] at h
 | .cons g gs,d::ds,ρ,N,h=>by
  simp only [Gs.go] at h
  obtain ⟨ρ',h'⟩:=G.zis h
  obtain ⟨e,q⟩:=Gs.zis h'
  exact ⟨by simp [Gs.len,e],q⟩
end
mutual
theorem G.ok (sv:List Nat):∀ {g:G} {v:V} {d:D} {L:List Addr} {σ:Sg} {ρ:Env} {R:List Addr} {N:Env→Prop} {Q:Sg→Hp→Prop},(∀ i∈g.slots,i∈sv)→qN K P M B H σ ρ (L++R)→Rep K P M B H v d L→(∀ a∈L,a∈M∧a∉B)→L.Nodup→(∀ a∈L,a∉R)→
  G.go g d ρ N→(∀ ρ' σ',N ρ'→qN K P M B H σ' ρ' R→wipe σ' sv=wipe σ sv→Q σ' H)→G.tg K g v σ H Q
 | .nm i,v,d,L,σ,ρ,R,N,Q,hs,sl,r,hL,n,dj,h,k=>by
  simp only [G.go] at h
  simp only [G.tg]
  exact k _ _ h (sl.set r hL n dj i) (zn2 σ _ (hs i (by simp [G.slots])))
 | .tp gs,v,d,L,σ,ρ,R,N,Q,hs,sl,r,hL,n,dj,h,k=>by
  simp only [G.go] at h
  simp only [G.tg]
  cases d with
  | tup ds=>
   cases r with
   | tup h1 r=>
    exact ⟨_,_,rfl,h1.sq,r.len.trans (Gs.zis h).1,Gs.ok sv (gs:=gs) (by simpa [G.slots] using hs) sl r hL n dj h k⟩
  | _=>exact h.elim
theorem Gs.ok (sv:List Nat):∀ {gs:Gs} {us:List V} {ds:List D} {L:List Addr} {σ:Sg} {ρ:Env} {R:List Addr} {N:Env→Prop} {Q:Sg→Hp→Prop},(∀ i∈gs.slots,i∈sv)→qN K P M B H σ ρ (L++R)→zf K P M B H us ds L→(∀ a∈L,a∈M∧a∉B)→L.Nodup→(∀ a∈L,a∉R)→
  Gs.go gs ds ρ N→(∀ ρ' σ',N ρ'→qN K P M B H σ' ρ' R→wipe σ' sv=wipe σ sv→Q σ' H)→Gs.tgs K gs us σ H Q
 | .nil,us,ds,L,σ,ρ,R,N,Q,hs,sl,r,hL,n,dj,h,k=>by
  cases r with
  | nil=>
   simp only [Gs.go] at h
   simp only [Gs.tgs]
   exact ⟨rfl,k _ _ h sl rfl⟩
  | cons _ _=>simp only [Gs.go] at h
 | .cons g gs,us,ds,L,σ,ρ,R,N,Q,hs,sl,r,hL,n,dj,h,k=>by
  cases r with
  | nil=>simp only [Gs.go] at h
  | @cons v d us ds L1 L2 r rs=>
   simp only [Gs.go] at h
   have hs1:∀ i∈g.slots,i∈sv:=fun i z=>hs i (by simp [Gs.slots,z])
   have hs2:∀ i∈gs.slots,i∈sv:=fun i z=>hs i (by simp [Gs.slots,z])
   have nd:=List.nodup_append.mp n
   simp only [Gs.tgs]
   refine ⟨_,_,rfl,G.ok sv (g:=g) (R:=L2++R) hs1 (by rw [List.append_assoc] at sl; exact sl) r (fun a z=>hL a (List.mem_append_left _ z)) nd.1
    (fun a z q=>(List.mem_append.mp q).elim (fun q=>nd.2.2 a z a q rfl) (dj a (List.mem_append_left _ z))) h fun ρ' σ' h' sl' e=>?_⟩
   exact Gs.ok sv (gs:=gs) hs2 sl' rs (fun a z=>hL a (List.mem_append_right _ z)) nd.2.1 (fun a z=>dj a (List.mem_append_right _ z)) h' (fun ρ2 σ2 h2 s2 e2=>k ρ2 σ2 h2 s2 (e2.trans e))
end
end
end DL
set_option maxHeartbeats 4000000
namespace DL
open PySem PySem.Spec PyProof.Rows L2
variable [Tb]
def Qo (g:G) (tt:DTT) (te:DT) (ρw:Env):List D→List D→(List D→Prop)→Prop
 | [],acc,Q=>Q acc
 | d::ds,acc,Q=>G.go g d ρw fun ρ2=>tt ρ2 fun b=>if b=true then te ρ2 fun y=>Qo g tt te ρw ds (acc++[y]) Q else Qo g tt te ρw ds acc Q
def dLc (it:DTI) (vs:List Nat) (g:G) (tt:DTT) (te:DT):DT:=fun ρ Q=>it ρ fun ds=>ds.length≤1000000∧Qo g tt te (yF ρ vs) ds [] fun ys=>Q (.con .l .o ys)
section
variable {K:PySem.W.Frag} {P:zR} {M M' B B' L Lr R:List Addr} {H H':Hp} {σ:Sg} {ρ:Env} {v:V} {d:D} {ds:List D} {vs:List V}
mutual
/-- a list is changed that neither frozen nor borrowed things lean on -/
theorem Rep.X5 {c:Addr} {o:HO} (hc:Mo H c) (hm:c∈M) (hb:c∈B):∀ {v:V} {d:D} {L:List Addr},Rep K P M B H v d L→c∉L→Rep K P M B (upd H c o) v d L
 | _,_,_,.non,_=>.non
 | _,_,_,.bl,_=>.bl
 | _,_,_,.int,_=>.int
 | _,_,_,.str,_=>.str
 | _,_,_,.pen h,_=>.pen h
 | _,_,_,.tup h r,n=>.tup (TpT.upd h hc) (zf.X5 hc hm hb r n)
 | _,_,_,.exc hl hx r p,_=>Rep.zrL hc hl hx r p
 | _,_,_,.lstF h r p,n=>.lstF (SqC.upd h (List.mem_append_right _ hm)) (zf.X5 hc hm hb r (fun z=>nomatch z)) p
 | _,_,_,.lstB h r,n=>.lstB (SqC.upd h (List.mem_append_right _ hb)) (zf.X5 hc hm hb r (fun z=>nomatch z))
 | _,_,_,.lstO h n r,q=>.lstO (h.upd fun z=>q (by simp [z])) n (zf.X5 hc hm hb r fun z=>q (List.mem_cons_of_mem _ z))
theorem zf.X5 {c:Addr} {o:HO} (hc:Mo H c) (hm:c∈M) (hb:c∈B):∀ {vs:List V} {ds:List D} {L:List Addr},zf K P M B H vs ds L→c∉L→zf K P M B (upd H c o) vs ds L
 | _,_,_,.nil,_=>.nil
 | _,_,_,.cons h r,n=>.cons (Rep.X5 hc hm hb h fun z=>n (List.mem_append_left _ z)) (zf.X5 hc hm hb r fun z=>n (List.mem_append_right _ z))
end
theorem zF.mut (h:zF P M H) {c:Addr} {o:HO} (hc:c∈M):zF P M (upd H c o):=fun a l hl=>by
 obtain ⟨n1,n2,n3,ns,i,b,s,e1,e2,r⟩:=h a l hl
 refine ⟨n1,n2,n3,ns,i,b,s,?_,?_,r⟩
 ·rw [upd_ne (fun z=>n1 (by rw [z]; exact hc))]; exact e1
 ·rw [upd_ne (fun z=>n2 (by rw [z]; exact hc))]; exact e2
theorem drop_at {α:Type} {l:List α} {i:Nat} {x:α} (h:l[i]?=some x):l.drop i=x::l.drop (i+1):=by
 obtain ⟨h1,h2⟩:=List.getElem?_eq_some_iff.mp h
 rw [List.drop_eq_getElem_cons h1,h2]
structure zcc (K:PySem.W.Frag) (P:zR) (M B:List Addr) (H1:Hp) (A:Addr) (H:Hp) (acc:List D) (us:List V) (L:List Addr):Prop where
 at_:H A=some (.lst us)
 reps:zf K P ((A::L)++M) ((A::L)++B) H us acc L
 nd:(A::L).Nodup
 new:∀ a∈A::L,H1 a=none
 gr:Gr P.as H1 H
 zM:zF P ((A::L)++M) H
theorem zcc.stt {H1:Hp} {A:Addr} {acc:List D} {us:List V} (s:Stt P M B H1) (h:zcc K P M B H1 A H acc us L):Stt P ((A::L)++M) ((A::L)++B) H:=
 s.after h.gr h.zM fun a z=>by
  rcases List.mem_cons.mp z with e | z
  ·subst e; exact .l h.at_
  ·exact (zf.own h.reps a z).1
theorem zcc.keep {H1:Hp} {A:Addr} {acc:List D} {us:List V} (s:Stt P M B H1) (h:zcc K P M B H1 A H acc us L) (g:Gr P.as H H') (p:zF P ((A::L)++M) H'):zcc K P M B H1 A H' acc us L:=
 ⟨g _ _ h.at_ ((h.stt s).np A (List.mem_append_left _ (List.mem_cons_self ..))),zf.gr g (h.stt s).lists (fun _ z=>.inl z) (fun _ z=>.inl z) h.reps,h.nd,h.new,h.gr.trans g,p⟩
theorem zlh {it:DTI} {sv:List Nat} {g:G} {tt:DTT} {te:DT} {Q:VK} {wi:TI} {tT:TT} {tE:TE} (h:lift K (dLc it sv g tt te) σ H Q)
  (hw:∀ R,zbR K it σ H R→wi σ H R) (hT:∀ σ H Q,liftT K tt σ H Q→tT σ H Q) (hE:∀ σ H Q,lift K te σ H Q→tE σ H Q) (hs:∀ i∈g.slots,i∈sv):tLc wi (G.tg K g) tT tE sv σ H Q:=by
 obtain ⟨P,M,B,ρ,Q0,s,sl,t,k⟩:=h
 refine hw _ ⟨P,M,B,ρ,_,s,sl,t,fun ds J H1 q g1 p1 src=>?_⟩
 obtain ⟨hlen,q⟩:=q
 intro A hA
 have s1:=s.keep g1 p1
 have sl1:=sl.keep s g1
 refine ⟨fun i m H=>i≤ds.length∧m=ds.length - i∧∃ acc us L,zcc K P M B H1 A H acc us L∧acc.length≤i∧Qo g tt te (yF ρ sv) (ds.drop i) acc fun ys=>Q0 (.con .l .o ys),
  ⟨ds.length,Nat.zero_le _,by omega,[],[],[],⟨upd_same,.nil,by simp,fun a z=>?_,Gr.laid hA,(p1.grow fun a z=>?_).laid hA⟩,Nat.le_refl _,q⟩,?_⟩
 ·have e:a=A:=by simpa using z
  rw [e]; exact hA
 ·rcases List.mem_append.mp z with z | z
  ·have e:a=A:=by simpa using z
   exact .inr (e ▸ hA)
  ·exact .inl z
 rintro i m H2 ⟨hi,rfl,acc,us,L,inv,hacc,q⟩
 have s2:=inv.stt s1
 have sl2:=sl1.after (Lr:=A::L) s1 inv.gr inv.new
 have wk:=(src.gr s1.lists inv.gr (yx inv.new) (yx inv.new)).now s2.lists
 by_cases hlt:i < ds.length
 ·refine .inr ⟨wk.go i hlt,fun H'=>∃ acc us L,zcc K P M B H1 A H' acc us L∧acc.length≤i+1∧Qo g tt te (yF ρ sv) (ds.drop (i+1)) acc fun ys=>Q0 (.con .l .o ys),fun H' h'=>⟨_,by omega,hlt,rfl,h'⟩,fun x H3 y=>?_⟩
  obtain ⟨hg,d,ed,rd⟩:=wk.yld i x H3 hlt y
  have g3:Gr P.as H2 H3:=by
   rcases hg with e | ⟨T,ys,e1,e2⟩
   ·rw [e]; exact Gr.refl
   ·rw [e2]; exact Gr.laid e1
  have p3:zF P ((A::L)++M) H3:=by
   rcases hg with e | ⟨T,ys,e1,e2⟩
   ·rw [e]; exact inv.zM
   ·rw [e2]; exact inv.zM.laid e1
  have inv3:=inv.keep s1 g3 p3
  have s3:=inv3.stt s1
  rw [drop_at ed] at q
  simp only [Qo] at q
  refine G.ok sv (g:=g) (R:=[]) (L:=[]) hs (((sl2.keep s2 g3).x.wipe sv).res fun a z=>z) rd (fun _ z=>nomatch z) List.nodup_nil (fun _ z=>nomatch z) q fun ρ' σ' q' sl' e=>⟨e.trans (zcX _ _),?_⟩
  refine hT _ _ _ ⟨P,_,_,ρ',_,s3,sl'.s,q',fun b H4 q4 g4 p4=>?_⟩
  have inv4:=inv3.keep s1 g4 p4
  have s4:=inv4.stt s1
  have sl4:=sl'.s.keep s3 g4
  cases b with
  | false=>exact ⟨acc,us,L,inv4,by omega,q4⟩
  | true=>
   refine hE _ _ _ ⟨P,_,_,ρ',_,s4,sl4,q4,fun yv H5 r5=>?_⟩
   obtain ⟨c,Lr,q5,g5,p5,r5,n5,f5⟩:=r5
   have f5:∀ a∈Lr,H4 a=none:=fun a z=>(f5 a z).elim id fun q=>nomatch q
   have inv5:=inv4.keep s1 g5 (p5.grow fun a z=>.inl (jt a z))
   have rus:=zf.gr g5 s4.lists (yx f5) (yx f5) inv4.reps
   refine ⟨us,inv5.at_,?_,acc++[c],us++[yv],L++Lr,?_,by rw [List.length_append]; simp; omega,q5⟩
   ·have hl:=inv5.reps.len
    have:(1000000:Nat) < sizeLine:=by decide
    omega
   ·have hAm:∀ {N:List Addr},A∈Lr++((A::L)++N):=List.mem_append_right _ (List.mem_append_left _ (List.mem_cons_self ..))
    have hA4:H4 A≠none:=by rw [inv4.at_]; intro z; cases z
    have hAr:A∉Lr:=fun z=>hA4 (f5 A z)
    have hAL:A∉L:=(List.nodup_cons.mp inv.nd).1
    have hmem:∀ {N:List Addr},∀ a∈(A::(L++Lr))++N,a∈Lr++((A::L)++N):=fun a z=>by
     simp only [List.cons_append,List.mem_cons,List.mem_append] at z ⊢
     rcases z with z | (z | z) | z
     ·exact .inr (.inl z)
     ·exact .inr (.inr (.inl z))
     ·exact .inl z
     ·exact .inr (.inr (.inr z))
    refine ⟨upd_same,?_,?_,fun a z=>?_,inv5.gr.put hA inv5.at_ (fun _ _ z=>nomatch z),?_⟩
    ·have h1:=zf.X5 (o:=.lst (us++[yv])) (.l inv5.at_) hAm hAm rus hAL
     have h2:=Rep.X5 (o:=.lst (us++[yv])) (.l inv5.at_) hAm hAm r5 hAr
     have h3:=zf.app h1 (zf.cons h2 .nil)
     rw [List.append_nil] at h3
     exact zf.sub hmem hmem h3
    ·rw [show A::(L++Lr)=(A::L)++Lr from rfl]
     exact jV inv.nd n5 fun a z q=>by
      rcases List.mem_cons.mp z with e | z
      ·exact hAr (e ▸ q)
      ·exact inv4.reps.trk a z (f5 a q)
    ·rw [show A::(L++Lr)=(A::L)++Lr from rfl] at z
     rcases List.mem_append.mp z with z | z
     ·exact inv.new a z
     ·exact inv4.gr.nil inv4.zM (f5 a z)
    ·exact (p5.mut (c:=A) hAm).grow fun a z=>.inl (hmem a z)
 ·have e:i=ds.length:=by omega
  subst e
  rw [List.drop_length] at q
  simp only [Qo] at q
  refine .inl ⟨wk.stop,k _ _ ⟨.con .l .o acc,A::L,q,g1.trans inv.gr,inv.zM,.lstO inv.at_ (s2.np A (List.mem_append_left _ (List.mem_cons_self ..))) inv.reps,inv.nd,fun a z=>.inl (g1.nil p1 (inv.new a z))⟩⟩
end
end DL
set_option maxHeartbeats 4000000
namespace DL
open PySem PySem.Spec PyProof.Rows L2
variable [Tb]
def bkC (q:Value):Prop:=∃ C,q=.ref C∧Tb.bk C=true
def Zg (q:Value) (d:Option Addr):Obj→Prop:=fun o=>Zc q d o∧(bkC q∨PXN.CtxN o)
theorem Zg.steady {q:Value} {d:Option Addr}:PXN.Steady1 (Zg q d):=fun o v h=>⟨⟨PXN.steady_cls o v h.1.1,PXN.steady_dict o v h.1.2⟩,h.2.imp id fun z=>PXN.steady_ctx o v z⟩
theorem Zg.n {q:Value} {d:Option Addr} {o:Obj} (b:¬bkC q) (h:Zg q d o):L2N.Zn q d o:=⟨h.1.1,h.1.2,h.2.resolve_left b⟩
theorem Zg.ofn {q:Value} {d:Option Addr} {o:Obj} (h:L2N.Zn q d o):Zg q d o:=⟨h.zc,.inr h.2.2⟩
theorem Zg.ofc {q:Value} {d:Option Addr} {o:Obj} (b:bkC q) (h:Zc q d o):Zg q d o:=⟨h,.inl b⟩
theorem zfc {h B:Heap} {a:Addr} {Z Z':Obj→Prop} {fl:Value} (z:∀ o,Z o→Z' o) (x:HandSPX.TracedZ h B a Z fl):HandSPX.TracedZ h B a Z' fl:=by
 obtain ⟨oe,vs,T,oT,ts,he,hz,r⟩:=x
 exact ⟨oe,vs,T,oT,ts,he,z _ hz,r⟩
theorem zeR {B:Heap} {l:List PySem.Env} {a:Addr} {Z Z':Obj→Prop} {L:Addr} {h:Heap} (z:∀ o,Z o→Z' o) (x:Sky B l a Z L h):Sky B l a Z' L h:=by
 rcases x with ⟨h1,h2,h3,oe,vs,h4,h5,h6⟩ | x | x
 ·exact .inl ⟨h1,h2,h3,oe,vs,h4,z _ h5,h6⟩
 ·exact .inr (.inl ⟨x.1,x.2.1,x.2.2.1,zfc z x.2.2.2⟩)
 ·exact .inr (.inr ⟨x.1,x.2.1,x.2.2.1,zfc z x.2.2.2⟩)
def XEG (X:Cx) (W:WX) (u:Value) (s':Shared):Prop:=
 ∃ (a:Addr) (B:Heap) (sI:Shared) (pins:List (Addr×Obj)) (σ:L2.St) (H:Hp) (q:Value) (d:Option Addr),u=.ref a∧Inv X pins σ H sI∧(∀ b o,sI.heap.get? b=some o→b∉frs X.stack→B.get? b=some o)∧sI.heap.UpToSlots s'.heap∧
   Sky B X.stack a (Zg q d) X.env.locals s'.heap∧H a=none∧s'.os=sI.os∧AllBare s'.gens∧W q d σ H
def jJ (X:Cx) (W:WX):Prop:=∀ u s',XEG X W u s'→X.xe u s'
def bW (W:WX):WX:=fun q d σ H=>bkC q∧W q d σ H
def bE (E:XK):XK:=fun q d H=>bkC q∧E q d H
theorem jJ.n {X:Cx} {W:WX} (t:jJ X W):L2N.Takes X W:=fun u s' ⟨a,B,sI,pins,σ,H,q,d,e,I,nb,up,sky,r⟩=>t u s' ⟨a,B,sI,pins,σ,H,q,d,e,I,nb,up,zeR (fun _ z=>.ofn z) sky,r⟩
theorem jJ.c {X:Cx} {W:WX} (t:jJ X W):L2.Takes X (bW W):=fun u s' ⟨a,B,sI,pins,σ,H,q,d,e,I,nb,up,sky,na,os,ag,b,w⟩=>t u s' ⟨a,B,sI,pins,σ,H,q,d,e,I,nb,up,zeR (fun _ z=>.ofc b z) sky,na,os,ag,w⟩
theorem jJ.of {X:Cx} {W:WX} (n:L2N.Takes X W) (c:L2.Takes X (bW W)):jJ X W:=fun u s' ⟨a,B,sI,pins,σ,H,q,d,e,I,nb,up,sky,na,os,ag,w⟩=>by
 by_cases b:bkC q
 ·exact c u s' ⟨a,B,sI,pins,σ,H,q,d,e,I,nb,up,zeR (fun _ z=>z.1) sky,na,os,ag,b,w⟩
 ·exact n u s' ⟨a,B,sI,pins,σ,H,q,d,e,I,nb,up,zeR (fun _ z=>z.n b) sky,na,os,ag,w⟩
/-- behind a call that let an exception out -/
def CXG (P:Program) (w:World):CXT:=fun outer H s E u s'=>L2N.CX P w outer H s E u s'∨L2.CX P w outer H s (bE E) u s'
theorem zmt {X:Cx} {E:XK} (hs:X.stack=X.env::X.outer) (hf:X.env.frame=some X.env.locals) (hex:X.ex=[]) {E₁:Value→Shared→Prop}
  (hx:X.xe=fun e s'=>wpAny (model X.prog X.w) X.A (leaving X.env e) (fun _ s''=>CXG X.prog X.w X.outer X.H_0 X.s_0 E e s'') E₁ s'):jJ X fun q d _ H=>E q d H:=by
 refine .of (fun u s' x=>?_) fun u s' x=>?_
 ·rw [hx]
  exact wpAny_mono (L2N.XE.leave (E:=E) hs hf hex (fun _ _ _ _ h=>h) x) (fun _ _ z=>.inl z) fun _ _ z=>z
 ·rw [hx]
  exact wpAny_mono (L2.XE.leave (E:=bE E) hs hf hex (fun _ _ _ _ h=>h) x) (fun _ _ z=>.inr z) fun _ _ z=>z
theorem zli {X:Cx} {W:WX} (tk:jJ X W) (σ:L2.St):PassesAt (CXG X.prog X.w) X σ (WE W σ):=fun pins H s e s' I c=>c.elim (fun c=>L2N.passAt tk.n σ pins H s e s' I c) fun c=>L2.passAt tk.c σ pins H s e s' I c
end DL
set_option maxHeartbeats 4000000
namespace DLq
open PySem PySem.Spec PyProof.Rows L2
variable [DL.Tb]
abbrev TSF:=Addr→Value→Option Addr→TS
def zrf (i:Nat) (D:Ends):Ends:={ nx:=fun τ G=>D.nx (τ.set i none) G,rt:=D.rt,bk:=fun τ G=>D.bk (τ.set i none) G,ct:=fun τ G=>D.ct (τ.set i none) G}
/-- what the clauses wish -/
def zcZ (K:PySem.W.Frag) (Wo:WX) (D:Ends):List (Value×Option Nat×TSF)→WX
 | []=>Wo
 | (c,o,ts)::r=>fun q d τ G=>∃ y,PySem.W.exmOne K q c=some y∧(y=true→∀ a,G a=none→match o with
   | none=>ts a q d D τ G
   | some i=>ts a q d (zrf i D) (τ.set i (some (.ref a))) G)∧(y=false→zcZ K Wo D r q d τ G)
/-- the clauses,each with a name or without -/
inductive zhi (X:Cx):List ExceptHandler→List (Value×Option Nat×TSF)→Prop
 | nil:zhi X [] []
 | plain {x:Str} {c:Value} {ts:TSF} {b₀:Stmt} {su:List Stmt} {p1 p2:Pos} {hds l} (nm:Names X x c)
   (go:∀ (a:Addr) (oe:Obj) (q:Value) (d:Option Addr) (pn:List (Addr×Obj)),DL.Zg q d oe→(∃ vs,oe.data=.fields vs)→PSs (X.suite a ((a,oe)::pn)) (b₀::su) (ts a q d)) (r:zhi X hds l):
   zhi X (.ExceptHandler (some (.Name x p1)) none (b₀::su) p2::hds) ((c,none,ts)::l)
 | named {x n:Str} {i:Nat} {c:Value} {ts:TSF} {b₀:Stmt} {su:List Stmt} {p1 p2:Pos} {hds l} (nm:Names X x c) (nd:X.N.Nodup) (hi:X.N[i]?=some n) (hl:X.env.kindOf n=some .local)
   (go:∀ (a:Addr) (oe:Obj) (q:Value) (d:Option Addr) (pn:List (Addr×Obj)),DL.Zg q d oe→(∃ vs,oe.data=.fields vs)→PSs (X.suite a ((a,oe)::pn)) (b₀::su) (ts a q d)) (r:zhi X hds l):
   zhi X (.ExceptHandler (some (.Name x p1)) (some n) (b₀::su) p2::hds) ((c,some i,ts)::l)
section
variable {X:Cx} {pins:List (Addr×Obj)} {τ:List (Option V)} {G:Hp} {a:Addr} {q:Value} {d:Option Addr} {B g:Heap} {sI t:Shared}
/-- the exception a is caught:g is the heap,sI the state without it -/
structure Cau (X:Cx) (pins:List (Addr×Obj)) (τ:List (Option V)) (G:Hp) (a:Addr) (q:Value) (d:Option Addr) (B:Heap) (sI t:Shared) (g:Heap):Prop where
 stk:X.stack=X.env::X.outer
 frm:X.env.frame=some X.env.locals
 inv:L2.Inv X pins τ G sI
 nb:∀ b o,sI.heap.get? b=some o→b∉frs X.stack→B.get? b=some o
 up:sI.heap.UpToSlots g
 fl:HandSPX.FlyingZ B (X.env::X.outer) a (DL.Zg q d) g
 na:G a=none
 os:t.os=sI.os
 ag:AllBare t.gens
theorem Cau.to {g':Heap} (c:Cau X pins τ G a q d B sI t g) (f:HandSPX.FlyingZ B (X.env::X.outer) a (DL.Zg q d) g') (u:g.UpToSlots g'):Cau X pins τ G a q d B sI t g':={ c with up:=c.up.trans u,fl:=f}
theorem Cau.land (c:Cau X pins τ G a q d B sI t g):L2.Inv X pins τ G { t with heap:=g}:=c.inv.landed c.nb c.fl.1 c.up c.os c.ag
theorem Cau.off (c:Cau X pins τ G a q d B sI t g):a∉frs (X.env::X.outer):=fun m=>by
 obtain ⟨oe,vs,e1,_,e2⟩:=c.fl.there
 obtain ⟨_,o2,e3,n⟩:=c.fl.2.2.1.mem m
 rw [e1] at e3
 cases e3
 exact n _ e2
theorem Cau.loc (c:Cau X pins τ G a q d B sI t g):a≠X.env.locals:=fun e=>c.off (List.mem_filterMap.mpr ⟨X.env,List.mem_cons_self,by rw [c.frm,e]⟩)
theorem Cau.fs (c:Cau X pins τ G a q d B sI t g):a∉X.fs:=fun m=>by
 obtain ⟨e,he,z⟩:=List.mem_filterMap.mp m
 exact c.off (List.mem_filterMap.mpr ⟨e,List.mem_cons_of_mem _ he,z⟩)
/-- no clause is left -/
theorem Cau.out {W:WX} {D:Ends} (c:Cau X pins τ G a q d B sI t g) (tk:DL.jJ X W) (w:W q d τ G):wpAny (model X.prog X.w) X.A (handleBy (.ref a) X.env []) (SP X pins D) X.xe { t with heap:=g}:=by
 refine wpAny_handleBy_nil ?_
 obtain ⟨_,_,_,o1,ws,T,_,_,f1,_,f2,f3,_⟩:=id c.fl
 unfold PySem.passOn
 refine wpAny_bind ((wpAny_field f1 f2 f3) ?_)
 have ne:¬((Value.ref T == Value.none)=true):=by simp
 rw [if_neg ne]
 have z:wpAny (model X.prog X.w) X.A (setFlight (.ref a) X.env.frame) (fun _ s4=>wpAny (model X.prog X.w) X.A (throw (.ref a):Sem Flow) (SP X pins D) X.xe s4) X.xe { t with heap:=g}:=by
  rw [c.frm]
  refine HandSPX.setFlight_upZ c.fl fun g2 hh u2=>(wpAny_throw (tk _ _ ?_))
  exact ⟨a,B,sI,pins,τ,G,q,d,rfl,c.inv,c.nb,c.up.trans u2,.inr (.inr (by rw [c.stk]; exact hh)),c.na,c.os,c.ag,w⟩
 first
  | exact wpAny_bind z
  | exact wpAny_bind (wpAny_pure (wpAny_bind z))
/-- the clauses,one by one -/
theorem Cau.clauses {W:WX} {D:Ends} (C:Cau X pins τ G a q d B sI t g) (tk:DL.jJ X W) {hds:List ExceptHandler} {l:List (Value×Option Nat×TSF)} (hk:zhi X hds l):zcZ X.K W D l q d τ G→wpAny (model X.prog X.w) X.A (handleBy (.ref a) X.env hds) (SP X pins D) X.xe { t with heap:=g}:=by
 have ok:=C.inv.ok
 obtain ⟨oe,vs,f1,f2,f3⟩:=C.fl.there
 have S:=C.land.suite f1 f3 C.na C.loc C.fs
 have look:PySem.W.Looks (model X.prog X.w) g (typeOf (.ref a)) q:=fun A Q E s k z=>(wpAny_typeOf_ref (k _ _ f1) (by rw [f2.1.1]; exact z))
 have name:∀ {x:Str} {c:Value} {p1:Pos},Names X x c→∀ {Q E:Value→Shared→Prop},Q c { t with heap:=g}→wpAny (model X.prog X.w) (X.A.mark (some (.ref a))) (eval (.Name x p1) X.env) Q E { t with heap:=g}:=fun {x c p1} nm {Q E} z=>by
  obtain ⟨n1,n2,n3⟩:=nm
  rcases n3 with n3 | ⟨n3,n4,n5⟩
  ·exact ld_glob (X:=X.suite a ((a,oe)::(X.pn++pins))) S n1 n3 z n2
  ·exact ld_blt (X:=X.suite a ((a,oe)::(X.pn++pins))) S n1 n3 n4 z n5 n2
 induction hk with
 | nil=>exact fun w=>C.out tk w
 | @plain x c ts b₀ su p1 p2 hds l nm go r ih=>
  intro w
  obtain ⟨y,w1,w2,w3⟩:=w
  refine wpAny_handleBy_cons (codeAny_handlers_test (name nm ?_)) (fun z=>by cases z)
  refine (PySem.W.exm_one (M:=model X.prog X.w) C.land.kIn look w1).here ?_
  cases y with
  | false=>exact ih (w3 rfl)
  | true=>
   refine codeAny_handlers_suite (HandSPX.lands_againZ C.fl fun g2 fl2 u2=>?_)
   have C2:=C.to fl2 u2
   obtain ⟨oe2,vs2,e1,e2,e3⟩:=C2.fl.there
   have S2:=C2.land.suite e1 e3 C2.na C2.loc C2.fs
   refine wpAny_mono ((go a oe2 q d (X.pn++pins) e2 ⟨_,e3⟩).run [] _ _ G _ S2 (w2 rfl a C.na)) (fun f s6 hh=>?_) (fun _ _ z=>z.elim)
   cases f with
   | ret u=>
    obtain ⟨v,τ6,G6,I6,r6,q6⟩:=hh
    exact ⟨v,τ6,G6,I6.unsuite ok,r6,q6⟩
   | next=>
    obtain ⟨τ6,G6,I6,q6⟩:=hh
    exact ⟨τ6,G6,I6.unsuite ok,q6⟩
   | brk=>
    obtain ⟨τ6,G6,I6,q6⟩:=hh
    exact ⟨τ6,G6,I6.unsuite ok,q6⟩
   | cont=>
    obtain ⟨τ6,G6,I6,q6⟩:=hh
    exact ⟨τ6,G6,I6.unsuite ok,q6⟩
 | @named x n i c ts b₀ su p1 p2 hds l nm nd hi hl go r ih=>
  intro w
  obtain ⟨y,w1,w2,w3⟩:=w
  refine wpAny_handleBy_cons (codeAny_handlers_test (name nm ?_)) (fun z=>by cases z)
  refine (PySem.W.exm_one (M:=model X.prog X.w) C.land.kIn look w1).here ?_
  cases y with
  | false=>exact ih (w3 rfl)
  | true=>
   refine codeAny_handlers_suite_as (HandSPX.lands_againZ C.fl fun g2 fl2 u2=>?_)
   have C2:=C.to fl2 u2
   obtain ⟨oe2,vs2,e1,e2,e3⟩:=C2.fl.there
   have S2:=C2.land.suite e1 e3 C2.na C2.loc C2.fs
   refine store_ok (X:=X.suite a ((a,oe2)::(X.pn++pins))) (v:=.ref a) S2 nd hi (.inl hl) rfl (fun s5 S5=>?_) (.inr hl)
   refine wpAny_mono ((go a oe2 q d (X.pn++pins) e2 ⟨_,e3⟩).run [] s5 _ G _ S5 (w2 rfl a C.na)) (fun f s6 hh=>?_) (fun _ _ z=>z.elim)
   have gone:∀ {τ6:List (Option V)} {G6:Hp} {Q:Shared→Prop},L2.Inv (X.suite a ((a,oe2)::(X.pn++pins))) [] τ6 G6 s6→(∀ s7,L2.Inv X pins (τ6.set i none) G6 s7→Q s7)→
     wpAny (model X.prog X.w) X.A (do bindName X.env n .none; unbindBehindTheSuite X.env n p2) (fun _ s7=>Q s7) X.xe s6:=fun I6 hQ=>gone_ok (I6.unsuite ok) nd hi hl hQ
   cases f with
   | ret u=>
    obtain ⟨v,τ6,G6,I6,r6,q6⟩:=hh
    exact gone I6 fun s7 I7=>⟨v,_,G6,I7,r6,q6⟩
   | next=>
    obtain ⟨τ6,G6,I6,q6⟩:=hh
    exact gone I6 fun s7 I7=>⟨_,G6,I7,q6⟩
   | brk=>
    obtain ⟨τ6,G6,I6,q6⟩:=hh
    exact gone I6 fun s7 I7=>⟨_,G6,I7,q6⟩
   | cont=>
    obtain ⟨τ6,G6,I6,q6⟩:=hh
    exact gone I6 fun s7 I7=>⟨_,G6,I7,q6⟩
end
section
variable {X:Cx} {body:List Stmt} {h₀:ExceptHandler} {hds:List ExceptHandler} {l:List (Value×Option Nat×TSF)} {pos:Pos} {tb:WX→TS} {Wo:WX}
theorem zn3 (hs:X.stack=X.env::X.outer) (hf:X.env.frame=some X.env.locals) (tk:DL.jJ X Wo)
  (hb:∀ (W:WX) (pn:List (Addr×Obj)) (xe:Value→Shared→Prop),DL.jJ (X.tr pn xe) W→PassesOwn (model X.prog X.w) X.A X.env xe→PSs (X.tr pn xe) body (tb W))
  (hh:zhi X (h₀::hds) l):PS X (.Try body (h₀::hds) [] [] pos) (fun D τ G=>tb (fun q d τ G=>τ.length=X.N.length→zcZ X.K Wo D l q d τ G) D τ G):=by
 refine ⟨fun pins s τ G D I h=>wpAny_Try_except ?_⟩
 have ok:=I.ok
 have fr:X.A.frames=some (X.env::X.outer):=ok.frames.trans (by rw [hs])
 let catch_:Value→Shared→Prop:=fun e s₁=>wpAny (model X.prog X.w) X.A (noteFrame e X.env) (fun _ s₂=>wpAny (model X.prog X.w) X.A (setFlight e none) (fun _ s₃=>wpAny (model X.prog X.w) X.A (handleBy e X.env (h₀::hds)) (SP X pins D) X.xe s₃) X.xe s₂) X.xe s₁
 have caught:DL.jJ (X.tr (X.pn++pins) catch_) (fun q d τ G=>τ.length=X.N.length→zcZ X.K Wo D l q d τ G):=fun u s' xx=>by
  obtain ⟨a,B,sI,pins',τ',G',q,d,rfl,I',nb,up,sky,na,os,ag,w⟩:=xx
  have J:L2.Inv X pins τ' G' sI:=I'.ofTry ok
  have sky2:Sky B (X.env::X.outer) a (DL.Zg q d) X.env.locals s'.heap:=by rw [← hs]; exact sky
  show wpAny (model X.prog X.w) X.A (noteFrame (.ref a) X.env) _ _ _
  refine L2N.Sky.land DL.Zg.steady fr hf sky2 fun g fl u=>?_
  have C:Cau X pins τ' G' a q d B sI s' g:=⟨hs,hf,J,nb,up.trans u,fl,na,os,ag⟩
  exact C.clauses tk hh (w J.len)
 refine wpAny_mono ((hb _ (X.pn++pins) catch_ caught PassesOwn.looking).run [] s τ G D (I.toTry _) h) (fun f s1 hh=>?_) (fun e s1 he=>he)
 cases f with
 | ret u=>
  obtain ⟨v,τ6,G6,I6,r6,q6⟩:=hh
  exact ⟨v,τ6,G6,I6.ofTry ok,r6,q6⟩
 | next=>
  obtain ⟨τ6,G6,I6,q6⟩:=hh
  exact wpAny_execs_nil ⟨τ6,G6,I6.ofTry ok,q6⟩
 | brk=>
  obtain ⟨τ6,G6,I6,q6⟩:=hh
  exact ⟨τ6,G6,I6.ofTry ok,q6⟩
 | cont=>
  obtain ⟨τ6,G6,I6,q6⟩:=hh
  exact ⟨τ6,G6,I6.ofTry ok,q6⟩
end
end DLq
set_option maxHeartbeats 4000000
namespace DL
open PySem PySem.Spec PyProof.Rows L2
variable [Tb]
abbrev zQ:=List D→(D→Prop)→Prop
mutual
/-- all frozen,as far as one looks -/
def D.fl:D→Bool
 | .tup xs=>D.fls xs
 | .con _ k _=>(match k with | .f=>true | _=>false)
 | _=>true
def D.fls:List D→Bool
 | []=>true
 | x::xs=>D.fl x&&D.fls xs
end
def Q8 (K:PySem.W.Frag) (S:zQ):Sp:=fun vs H Q _=>∃ P M ds Q0,Stt P M M H∧zf K P M M H vs ds []∧D.pfs ds=true∧S ds Q0∧∀ v H',Res K P M M [] H Q0 v H'→Q v H'
def dFn (S:zQ) (ta:DTA):DT:=fun ρ Q=>ta ρ fun ds=>S (D.fzs ds) fun c=>Q (if D.fls ds=true then c else c.wk)
section
variable {K:PySem.W.Frag} {P:zR} {M M' B B' L Lr R:List Addr} {H H':Hp} {σ:Sg} {ρ:Env} {v:V} {d:D} {ds:List D} {vs:List V}
mutual
theorem Rep.zmu:∀ {v:V} {d:D} {L:List Addr},Rep K P M B H v d L→d.fl=true→d.pf=true
 | _,_,_,.non,_=>rfl
 | _,_,_,.bl,_=>rfl
 | _,_,_,.int,_=>rfl
 | _,_,_,.str,_=>rfl
 | _,_,_,.pen _,_=>rfl
 | _,_,_,.tup h r,p=>by
  have:=zf.zmu r (by simpa [D.fl] using p)
  simpa [D.pf] using this
 | _,_,_,.exc _ _ _ _,_=>rfl
 | _,_,_,.lstF h r p,_=>by simpa [D.pf] using p
 | _,_,_,.lstB _ _,p=>by simp [D.fl] at p
 | _,_,_,.lstO _ _ _,p=>by simp [D.fl] at p
theorem zf.zmu:∀ {vs:List V} {ds:List D} {L:List Addr},zf K P M B H vs ds L→D.fls ds=true→D.pfs ds=true
 | _,_,_,.nil,_=>rfl
 | _,_,_,.cons h r,p=>by
  simp only [D.fls,Bool.and_eq_true] at p
  simp only [D.pfs,Bool.and_eq_true]
  exact ⟨Rep.zmu h p.1,zf.zmu r p.2⟩
end
theorem zF.join (h:zF P M H) (h':zF P (L++B) H'):zF P (L++M) H':=fun a l hl=>by
 obtain ⟨n1,n2,_⟩:=h a l hl
 obtain ⟨m1,m2,n3,r⟩:=h' a l hl
 exact ⟨fun z=>(List.mem_append.mp z).elim (fun q=>m1 (List.mem_append_left _ q)) n1,fun z=>(List.mem_append.mp z).elim (fun q=>m2 (List.mem_append_left _ q)) n2,n3,r⟩
theorem zlj {S:zQ} {ta:DTA} {Q:VK} {E:XK} (h:lift K (dFn S ta) σ H Q):XQ K ta σ H fun vs H1=>Q8 K S vs H1 Q E:=by
 obtain ⟨P,M,B,ρ,Q0,s,sl,t,k⟩:=h
 refine ⟨P,M,B,ρ,_,s,sl,t,fun vs H1 r1=>?_⟩
 obtain ⟨ds,L,q,g1,p1,r1,n1,f1⟩:=r1
 have A:=Args.of s g1 p1 r1 n1 f1
 have b:=A.base
 by_cases hf:D.fls ds=true
 ·have pf:=zf.zmu r1 hf
  obtain ⟨el,r2⟩:=zf.pf r1 pf
  subst el
  rw [D.zhb ds pf] at q
  refine ⟨P,M,ds,_,⟨b.zM,fun _ z=>z,b.ls,b.tabs⟩,r2,pf,q,fun v H' r=>?_⟩
  obtain ⟨c,Lr,q,g,p,r,n,f⟩:=r
  rw [if_pos hf] at q
  exact k v H' (Res.back (M':=M) ⟨c,Lr,q,g,p,Rep.sub (fun _ z=>z) (jG b.sub) r,n,f⟩ g1 b.zM fun _ z=>nomatch z)
 ·obtain ⟨r2,pf⟩:=zf.fz (N:=B) (fun a z=>jt a (b.sub a z)) jt r1 (fun a z m=>A.out a z (b.sub a m))
  refine ⟨P,B,D.fzs ds,_,⟨b.zM.grow fun a z=>.inl (b.sub a z),fun _ z=>z,fun a z=>b.ls a (b.sub a z),b.tabs⟩,r2,pf,q,fun v H' r=>?_⟩
  obtain ⟨c,Lr,q,g,p,r,n,f⟩:=r
  rw [if_neg hf] at q
  exact k v H' (Res.back (M':=M) ⟨c.wk,Lr,q,g,b.zM.join p,Rep.wk (fun _ z=>z) (fun _ z=>z) r,n,f⟩ g1 b.zM fun _ z=>nomatch z)
end
/-- an exception:its class's name,its attributes -/
structure Exn where
 nm:Str
 ns:List Str
 ds:List D
structure DE where
 nx:Env→Prop
 rt:D→Prop
 bk:Env→Prop:=fun _=>False
 ct:Env→Prop:=fun _=>False
 ex:Exn→Env→Prop:=fun _ _=>False
 rm:D→Env→Prop:=fun _ _=>False
abbrev DS:=DE→Env→Prop
def qm (ρ:Env):Prop:=∀ (i:Nat) (d:D),ρ[i]?=some (some d)→d.nb=true
/-- the weakest wish that X takes -/
def WOf (X:Cx):WX:=fun cls d σ H=>∀ u s',XEG X (fun c e σ' H'=>c=cls∧e=d∧σ'=σ∧H'=H) u s'→X.xe u s'
theorem zaY (X:Cx):jJ X (WOf X):=fun u s' ⟨a,B,sI,pins,σ,H,cls,d,e,I,nb,up,sky,na,os,ag,w⟩=>
 w u s' ⟨a,B,sI,pins,σ,H,cls,d,e,I,nb,up,sky,na,os,ag,rfl,rfl,rfl,rfl⟩
theorem WOf.of {X:Cx} {W:WX} (tk:jJ X W) {cls:Value} {d:Option Addr} {σ:Sg} {H:Hp} (w:W cls d σ H):WOf X cls d σ H:=
 fun u s' ⟨a,B,sI,pins,σ',H',cls',d',e,I,nb,up,sky,na,os,ag,e1,e2,e3,e4⟩=>by
  subst e1 e2 e3 e4
  exact tk u s' ⟨a,B,sI,pins,_,_,_,_,e,I,nb,up,sky,na,os,ag,w⟩
/-- the dict at d tells the exception's attributes -/
def zgr (K:PySem.W.Frag) (H:Hp) (d:Option Addr) (x:Exn):Prop:=∃ dd vs,d=some dd∧x.ns.length=vs.length∧H dd=some (.xd (x.ns.zip vs))∧zf K [] [] [] H vs x.ds []∧D.ZL x.ds=true
structure Fits (X:Cx) (P:zR) (M B:List Addr) (H:Hp) (N:DE) (D:Ends):Prop where
 nx:∀ P' M' H' σ' ρ',N.nx ρ'→yJ P M B H P' M' H'→Stt P' M' B H'→Slots X.K P' M' B H' σ' ρ'→qm ρ'→D.nx σ' H'
 bk:∀ P' M' H' σ' ρ',N.bk ρ'→yJ P M B H P' M' H'→Stt P' M' B H'→Slots X.K P' M' B H' σ' ρ'→qm ρ'→D.bk σ' H'
 ct:∀ P' M' H' σ' ρ',N.ct ρ'→yJ P M B H P' M' H'→Stt P' M' B H'→Slots X.K P' M' B H' σ' ρ'→qm ρ'→D.ct σ' H'
 rt:∀ P' M' H' v c Lr,N.rt c→yJ P M B H P' M' H'→zF P' (Lr++B) H'→Rep X.K P' (Lr++B) (Lr++B) H' v c Lr→Lr.Nodup→(∀ a∈Lr,H a=none∨(a∈M∧a∉B))→D.rt v H'
 ex:∀ x C d P' M' H' σ' ρ',N.ex x ρ'→X.mg x.nm=some (.ref C)→zgr X.K H' d x→yJ P M B H P' M' H'→Stt P' M' B H'→Slots X.K P' M' B H' σ' ρ'→qm ρ'→WOf X (.ref C) d σ' H'
 rm:∀ P' M' H' σ' ρ' v c Lr,N.rm c ρ'→yJ P M B H P' M' H'→Stt P' M' (Lr++B) H'→Slots X.K P' M' (Lr++B) H' σ' ρ'→qm ρ'→Rep X.K P' M' (Lr++B) H' v c Lr→Lr.Nodup→(∀ a∈Lr,a∈M'∧a∉B)→D.rt v H'
def qD (X:Cx) (t:DS):TS:=fun D σ H=>∃ P M B ρ N,Stt P M B H∧Slots X.K P M B H σ ρ∧qm ρ∧t N ρ∧Fits X P M B H N D
def Yq:DS:=fun N ρ=>N.nx ρ
def zN (t u:DS):DS:=fun N ρ=>t { N with nx:=u N} ρ
def jr (g:G) (te:DT):DS:=fun N ρ=>te ρ fun d=>d.nb=true∧G.go g d ρ N.nx
def zgN (te:DT):DS:=fun N ρ=>te ρ fun _=>N.nx ρ
def ZM (te:DT):DS:=fun N ρ=>te ρ fun d=>N.rt d.rt
def zbi (i:Nat):DS:=fun N ρ=>match Env.at ρ i with
 | some d=>N.rt d
 | none=>False
def zti:DS:=fun N _=>N.rt .non
def X6 (c:DTT) (t u:DS):DS:=fun N ρ=>c ρ fun b=>if b=true then t N ρ else u N ρ
/-- a for,turn by turn -/
def zfd (g:G) (b:DS) (N:DE):List D→Env→Prop
 | [],ρ=>N.nx ρ
 | d::ds,ρ=>G.go g d ρ fun ρ2=>b { N with nx:=zfd g b N ds,ct:=zfd g b N ds,bk:=N.nx} ρ2
def zfe (it:DTI) (g:G) (b:DS):DS:=fun N ρ=>it ρ fun ds=>zfd g b N ds ρ
section
variable {X:Cx} {P P' P'':zR} {M M' M'' B B' L Lr R:List Addr} {H H' H'':Hp} {σ:Sg} {ρ:Env} {v:V} {d:D} {ds:List D} {vs:List V} {N:DE} {D:Ends}
theorem Fits.after (f:Fits X P M B H N D) (a:yJ P M B H P' M' H'):Fits X P' M' B H' N D:=
 ⟨fun _ _ _ _ _ n b s sl e=>f.nx _ _ _ _ _ n (a.trans b) s sl e,fun _ _ _ _ _ n b s sl e=>f.bk _ _ _ _ _ n (a.trans b) s sl e,fun _ _ _ _ _ n b s sl e=>f.ct _ _ _ _ _ n (a.trans b) s sl e,
  fun _ _ _ _ _ _ n b p r nd fr=>f.rt _ _ _ _ _ _ n (a.trans b) p r nd fun c z=>by
   rcases fr c z with q | q
   ·exact .inl (Classical.byContradiction fun w=>a.tr c w q)
   ·rcases a.newm c q.1 with w | w
    ·exact .inr ⟨w,q.2⟩
    ·exact .inl w,
  fun x C d _ _ _ _ _ n m y b s sl e=>f.ex x C d _ _ _ _ _ n m y (a.trans b) s sl e,
  fun _ _ _ _ _ _ _ _ n b s sl e r nd fr=>f.rm _ _ _ _ _ _ _ _ n (a.trans b) s sl e r nd fr⟩
/-- behind an expression:its own lists are one's own now -/
theorem yJ.expr (s:Stt P M B H) (g:Gr P.as H H') (p:zF P M' H') (n:∀ a∈M',a∈M∨H a=none):yJ P M B H P M' H':=
 ⟨fun b o h n1 _=>g b o h n1,fun _ z=>z,fun _ z=>.inl z,n,fun b z q=>z (g.nil p q),g.tab⟩
theorem zmv (h:qD X Yq D σ H):tNext D σ H:=by
 obtain ⟨P,M,B,ρ,N,s,sl,e,t,f⟩:=h
 exact f.nx P M H σ ρ t yJ.refl s sl e
theorem lift_seq {t u:DS} (h:qD X (zN t u) D σ H):tSeq (qD X t) (qD X u) D σ H:=by
 obtain ⟨P,M,B,ρ,N,s,sl,e,t,f⟩:=h
 exact ⟨P,M,B,ρ,_,s,sl,e,t,⟨fun P' M' H' σ' ρ' n a s' sl' e'=>⟨P',M',B,ρ',N,s',sl',e',n,f.after a⟩,f.bk,f.ct,f.rt,f.ex,f.rm⟩⟩
theorem zn4 {c:DTT} {t u:DS} {tc:TT} (h:qD X (X6 c t u) D σ H) (hc:∀ σ H Q,liftT X.K c σ H Q→tc σ H Q):tIfS tc (qD X t) (qD X u) D σ H:=by
 obtain ⟨P,M,B,ρ,N,s,sl,e,t,f⟩:=h
 refine hc _ _ _ ⟨P,M,B,ρ,_,s,sl,t,fun b H1 q g p=>?_⟩
 have a:yJ P M B H P M H1:=.expr s g p fun _ z=>.inl z
 cases b with
 | true=>exact ⟨P,M,B,ρ,N,s.keep g p,sl.keep s g,e,q,f.after a⟩
 | false=>exact ⟨P,M,B,ρ,N,s.keep g p,sl.keep s g,e,q,f.after a⟩
theorem zmw {te:DT} {tE:TE} (h:qD X (zgN te) D σ H) (hE:∀ σ H Q,lift X.K te σ H Q→tE σ H Q):tDrop tE D σ H:=by
 obtain ⟨P,M,B,ρ,N,s,sl,e,t,f⟩:=h
 refine hE _ _ _ ⟨P,M,B,ρ,_,s,sl,t,fun v H1 r=>?_⟩
 obtain ⟨c,q,g,p,_⟩:=r.drop
 exact f.nx P M H1 σ ρ q (.expr s g p fun _ z=>.inl z) (s.keep g p) (sl.keep s g) e
end
end DL
set_option maxHeartbeats 4000000
namespace DL
open PySem PySem.Spec PyProof.Rows L2
variable [Tb]
mutual
theorem D.zdA:∀ d:D,d.pf=true→d.nb=true
 | .non,_=>rfl
 | .bl _,_=>rfl
 | .int _,_=>rfl
 | .str _,_=>rfl
 | .pen,_=>rfl
 | .tup xs,p=>by simpa [D.nb] using D.zlk xs (by simpa [D.pf] using p)
 | .con _ .f xs,_=>rfl
 | .con _ .b _,p=>by simp [D.pf] at p
 | .con _ .o _,p=>by simp [D.pf] at p
 | .exc _ _ _ _,_=>rfl
theorem D.zlk:∀ ds:List D,D.pfs ds=true→D.nbs ds=true
 | [],_=>rfl
 | d::ds,p=>by
  simp only [D.pfs,Bool.and_eq_true] at p
  simp only [D.nbs,Bool.and_eq_true]
  exact ⟨D.zdA d p.1,D.zlk ds p.2⟩
end
theorem zc0:∀ {ds:List D} {i:Nat} {d:D},D.pfs ds=true→ds[i]?=some d→d.pf=true
 | [],_,_,_,e=>by simp at e
 | c::cs,0,d,p,e=>by
  simp only [D.pfs,Bool.and_eq_true] at p
  simp at e
  rw [← e]; exact p.1
 | c::cs,i+1,d,p,e=>by
  simp only [D.pfs,Bool.and_eq_true] at p
  exact zc0 p.2 (by simpa using e)
section
variable {X:Cx} {P P' P'':zR} {M M' M'' B B' L Lr R:List Addr} {H H' H'':Hp} {σ:Sg} {ρ:Env} {v:V} {d:D} {ds:List D} {vs:List V} {N:DE} {E:Ends}
mutual
theorem G.zgO:∀ {g:G} {d:DL.D} {ρ:Env} {N:Env→Prop},d.nb=true→qm ρ→G.go g d ρ N→G.go g d ρ fun ρ'=>N ρ'∧qm ρ'
 | .nm i,d,ρ,N,hd,he,h=>by
  simp only [G.go] at h ⊢
  refine ⟨h,fun j e q=>?_⟩
  rw [List.getElem?_set] at q
  by_cases hj:i=j
  ·subst hj
   rw [if_pos rfl] at q
   split at q
   ·cases q; exact hd
   ·cases q
  ·rw [if_neg hj] at q; exact he j e q
 | .tp gs,.tup ds,ρ,N,hd,he,h=>by
  simp only [G.go] at h ⊢
  exact Gs.zgO (by simpa [D.nb] using hd) he h
 | .tp gs,.non,ρ,N,_,_,h=>by simp [G.go] at h
 | .tp gs,.bl _,ρ,N,_,_,h=>by simp [G.go] at h
 | .tp gs,.int _,ρ,N,_,_,h=>by simp [G.go] at h
 | .tp gs,.str _,ρ,N,_,_,h=>by simp [G.go] at h
 | .tp gs,.pen,ρ,N,_,_,h=>by simp [G.go] at h
 | .tp gs,.exc _ _ _ _,ρ,N,_,_,h=>by simp [G.go] at h
 | .tp gs,.con _ _ _,ρ,N,_,_,h=>by simp [G.go] at h
theorem Gs.zgO:∀ {gs:Gs} {ds:List DL.D} {ρ:Env} {N:Env→Prop},D.nbs ds=true→qm ρ→Gs.go gs ds ρ N→Gs.go gs ds ρ fun ρ'=>N ρ'∧qm ρ'
 | .nil,[],ρ,N,_,he,h=>by
  simp only [Gs.go] at h ⊢
  exact ⟨h,he⟩
 | .nil,_::_,ρ,N,_,_,h=>by simp [Gs.go] at h
 | .cons g gs,[],ρ,N,_,_,h=>by simp [Gs.go] at h
 | .cons g gs,d::ds,ρ,N,hd,he,h=>by
  simp only [D.nbs,Bool.and_eq_true] at hd
  simp only [Gs.go] at h ⊢
  exact G.zcd (G.zgO hd.1 he h) fun ρ' ⟨h',e'⟩=>Gs.zgO hd.2 e' h'
theorem G.zcd:∀ {g:G} {d:DL.D} {ρ:Env} {N N':Env→Prop},G.go g d ρ N→(∀ ρ',N ρ'→N' ρ')→G.go g d ρ N'
 | .nm i,d,ρ,N,N',h,k=>by
  simp only [G.go] at h ⊢
  exact k _ h
 | .tp gs,.tup ds,ρ,N,N',h,k=>by
  simp only [G.go] at h ⊢
  exact Gs.zcd h k
 | .tp gs,.non,ρ,N,_,h,_=>by simp [G.go] at h
 | .tp gs,.bl _,ρ,N,_,h,_=>by simp [G.go] at h
 | .tp gs,.int _,ρ,N,_,h,_=>by simp [G.go] at h
 | .tp gs,.str _,ρ,N,_,h,_=>by simp [G.go] at h
 | .tp gs,.pen,ρ,N,_,h,_=>by simp [G.go] at h
 | .tp gs,.exc _ _ _ _,ρ,N,_,h,_=>by simp [G.go] at h
 | .tp gs,.con _ _ _,ρ,N,_,h,_=>by simp [G.go] at h
theorem Gs.zcd:∀ {gs:Gs} {ds:List DL.D} {ρ:Env} {N N':Env→Prop},Gs.go gs ds ρ N→(∀ ρ',N ρ'→N' ρ')→Gs.go gs ds ρ N'
 | .nil,[],ρ,N,N',h,k=>by
  simp only [Gs.go] at h ⊢
  exact k _ h
 | .nil,_::_,ρ,N,_,h,_=>by simp [Gs.go] at h
 | .cons g gs,[],ρ,N,_,h,_=>by simp [Gs.go] at h
 | .cons g gs,d::ds,ρ,N,N',h,k=>by
  simp only [Gs.go] at h ⊢
  exact G.zcd h fun ρ' h'=>Gs.zcd h' k
end
mutual
theorem Rep.nbB:∀ {v:V} {d:DL.D} {L:List Addr},Rep X.K P M B H v d L→d.nb=true→∀ {B':List Addr},Rep X.K P M B' H v d L
 | _,_,_,.non,_,_=>.non
 | _,_,_,.bl,_,_=>.bl
 | _,_,_,.int,_,_=>.int
 | _,_,_,.str,_,_=>.str
 | _,_,_,.pen h,_,_=>.pen h
 | _,_,_,.tup h r,p,_=>.tup h (zf.nbB r (by simpa [D.nb] using p))
 | _,_,_,.exc hl hx r q,_,_=>Rep.zgo hl hx r q
 | _,_,_,.lstF h r q,p,_=>.lstF h (zf.pf r q).2 q
 | _,_,_,.lstB _ _,p,_=>by simp [D.nb] at p
 | _,_,_,.lstO h n r,p,_=>.lstO h n (zf.nbB r (by simpa [D.nb] using p))
theorem zf.nbB:∀ {vs:List V} {ds:List DL.D} {L:List Addr},zf X.K P M B H vs ds L→D.nbs ds=true→∀ {B':List Addr},zf X.K P M B' H vs ds L
 | _,_,_,.nil,_,_=>.nil
 | _,_,_,.cons h r,p,_=>by
  simp only [D.nbs,Bool.and_eq_true] at p
  exact .cons (Rep.nbB h p.1) (zf.nbB r p.2)
end
theorem zit {g:G} {te:DT} {tE:TE} (h:qD X (jr g te) E σ H) (hE:∀ σ H Q,lift X.K te σ H Q→tE σ H Q):tAsg tE (G.tg X.K g) E σ H:=by
 obtain ⟨P,M,B,ρ,N,s,sl,e,t,f⟩:=h
 refine hE _ _ _ ⟨P,M,B,ρ,_,s,sl,t,fun v H1 r=>?_⟩
 obtain ⟨c,Lr,q,g1,p1,r1,n1,f1⟩:=r
 have f1:∀ a∈Lr,H a=none:=fun a z=>(f1 a z).elim id fun q=>nomatch q
 have s1:Stt P (Lr++M) B H1:=by
  have:=s.after g1 p1 fun a z=>(Rep.own r1 a z).1
  exact ⟨p1,fun a z=>jt a (s.sub a z),this.ls,this.tabs⟩
 have sl1:=sl.after s g1 f1
 have a1:yJ P M B H P (Lr++M) H1:=.expr s g1 p1 (yx f1)
 have slx:qN X.K P (Lr++M) B H1 σ ρ (Lr++[]):=by
  obtain ⟨hl,F,h1,h2,h3,h4⟩:=sl1
  refine ⟨hl,F,fun i d e=>?_,fun i a z=>⟨(h2 i a z).1,fun q=>(h2 i a z).2 (jt a q)⟩,h3,h4,fun i a z q=>?_⟩
  ·obtain ⟨v,e1,r⟩:=h1 i d e
   exact ⟨v,e1,Rep.sub (fun _ z=>z) jt r⟩
  ·rw [Xu] at q
   exact (h2 i a z).2 (List.mem_append_left _ q)
 refine G.ok g.slots (g:=g) (R:=[]) (fun _ z=>z) slx (Rep.sub (fun _ z=>z) jt r1) (fun a z=>⟨List.mem_append_left _ z,fun q=>s.trk a (s.sub a q) (f1 a z)⟩) n1 (fun _ _ z=>nomatch z) (G.zgO q.1 e q.2) fun ρ' σ' h' sl' _=>?_
 exact f.nx _ _ _ _ _ h'.1 a1 s1 sl'.s h'.2
theorem zn5 {te:DT} {tE:TE} (h:qD X (ZM te) E σ H) (hE:∀ σ H Q,lift X.K te σ H Q→tE σ H Q):tRet tE E σ H:=by
 obtain ⟨P,M,B,ρ,N,s,sl,e,t,f⟩:=h
 refine hE _ _ _ ⟨P,M,B,ρ,_,s,sl,t,fun v H1 r=>?_⟩
 obtain ⟨c,Lr,q,g1,p1,r1,n1,f1⟩:=r
 have f1:∀ a∈Lr,H a=none:=fun a z=>(f1 a z).elim id fun q=>nomatch q
 exact f.rt P (Lr++M) H1 v c.rt Lr q (.expr s g1 p1 (yx f1)) (p1.grow fun a z=>.inl (jG s.sub a z)) (Rep.rt (jG s.sub) r1) n1 fun a z=>.inl (f1 a z)
theorem zmx {i:Nat} (h:qD X (zbi i) E σ H):tRet (tVar i) E σ H:=by
 obtain ⟨P,M,B,ρ,N,s,sl,e,t,f⟩:=h
 unfold zbi at t
 split at t
 ·rename_i d ed
  have ed:=Env.zbQ ed
  obtain ⟨v,L,e1,r,n,nd⟩:=sl.get ed
  have hs:∀ a∈L++B,a∈M:=fun a z=>(List.mem_append.mp z).elim (fun q=>(n a q).1) (s.sub a)
  exact ⟨v,e1,f.rt P M H v d L t .refl (s.zM.grow fun a z=>.inl (hs a z)) (Rep.sub hs (fun _ z=>z) (Rep.nbB r (e i d ed))) nd fun a z=>.inr (n a z)⟩
 ·exact t.elim
theorem zn6 {it:DTI} {g:G} {b:DS} {wi:TI} (h:qD X (zfe it g b) E σ H) (hw:∀ R,zfa X.K it σ H R→wi σ H R):tFor wi (G.tg X.K g) (qD X b) E σ H:=by
 obtain ⟨P,M,B,ρ,N,s,sl,e,t,f⟩:=h
 refine hw _ ⟨P,M,B,ρ,_,s,sl,t,fun ds J H1 q g1 p1 wk pf=>?_⟩
 have s1:=s.keep g1 p1
 have a1:yJ P M B H P M H1:=.expr s g1 p1 fun _ z=>.inl z
 refine ⟨fun i m σ2 H2=>i≤ds.length∧m=ds.length - i∧∃ P' M' ρ',yJ P M B H1 P' M' H2∧Stt P' M' B H2∧Slots X.K P' M' B H2 σ2 ρ'∧qm ρ'∧zfd g b N (ds.drop i) ρ',
  ⟨ds.length,Nat.zero_le _,by omega,P,M,ρ,.refl,s1,sl.keep s g1,e,q⟩,?_⟩
 rintro i m σ2 H2 ⟨hi,rfl,P',M',ρ',a2,s2,sl2,e2,q⟩
 have w:=wk P' M' H2 a2 s2
 by_cases hlt:i < ds.length
 ·refine .inr ⟨w.go i hlt,fun σ' H'=>∃ P' M' ρ',yJ P M B H1 P' M' H'∧Stt P' M' B H'∧Slots X.K P' M' B H' σ' ρ'∧qm ρ'∧zfd g b N (ds.drop (i+1)) ρ',fun σ' H' h'=>⟨_,by omega,hlt,rfl,h'⟩,fun x H3 y=>?_⟩
  obtain ⟨hg,d,ed,rd⟩:=w.yld i x H3 hlt y
  have g3:Gr P'.as H2 H3:=by
   rcases hg with e | ⟨T,ys,e1,e2⟩
   ·rw [e]; exact Gr.refl
   ·rw [e2]; exact Gr.laid e1
  have p3:zF P' M' H3:=by
   rcases hg with e | ⟨T,ys,e1,e2⟩
   ·rw [e]; exact s2.zM
   ·rw [e2]; exact s2.zM.laid e1
  have s3:=s2.keep g3 p3
  have a3:=a2.trans (.expr s2 g3 p3 fun _ z=>.inl z)
  rw [drop_at ed] at q
  simp only [zfd] at q
  have pd:d.nb=true:=by
   have hp:d.pf=true:=zc0 pf ed
   exact D.zdA d hp
  refine G.ok g.slots (g:=g) (R:=[]) (L:=[]) (fun _ z=>z) ((sl2.keep s2 g3).x.res fun a z=>z) rd (fun _ z=>nomatch z) List.nodup_nil (fun _ z=>nomatch z) (G.zgO pd e2 q) fun ρ4 σ4 h4 sl4 _=>?_
  refine ⟨P',M',B,ρ4,_,s3,sl4.s,h4.2,h4.1,⟨fun P5 M5 H5 σ5 ρ5 q5 a5 s5 sl5 e5=>⟨P5,M5,ρ5,a3.trans a5,s5,sl5,e5,q5⟩,?_,fun P5 M5 H5 σ5 ρ5 q5 a5 s5 sl5 e5=>⟨P5,M5,ρ5,a3.trans a5,s5,sl5,e5,q5⟩,?_,?_,?_⟩⟩
  ·exact ((f.after a1).after a3).nx
  ·exact ((f.after a1).after a3).rt
  ·exact ((f.after a1).after a3).ex
  ·exact ((f.after a1).after a3).rm
 ·have e0:i=ds.length:=by omega
  subst e0
  rw [List.drop_length] at q
  simp only [zfd] at q
  exact .inl ⟨w.stop,f.nx _ _ _ _ _ q (a1.trans a2) s2 sl2 e2⟩
end
end DL
set_option maxHeartbeats 4000000
namespace DL
open PySem PySem.Spec PyProof.Rows L2
variable [Tb]
/-- what a method makes of a list's items and its arguments:the new items,what it hands back -/
abbrev DM:=List D→List D→(List D→D→Prop)→Prop
def zff:DM:=fun xs ds Q=>match ds with
 | [d]=>xs.length < 1000000∧Q (xs++[d]) .non
 | _=>False
def zn7:DM:=fun xs ds Q=>match ds with
 | []=>Q xs.reverse .non
 | _=>False
def zkl (K:PySem.W.Frag) (r:V→List V→Hp→VK→Prop) (op:DM):Prop:=
 ∀ (P:zR) (M B:List Addr) (H:Hp) (l:Addr) (us:List V) (xs:List D) (Lx:List Addr) (vs:List V) (ds:List D) (Ld:List Addr) (N0:List D→D→Prop) (Q:VK),
  H l=some (.lst us)→l∈M→l∉Lx++Ld→zf K P M B H us xs Lx→zf K P M B H vs ds Ld→(Lx++Ld).Nodup→D.nbs xs=true→D.nbs ds=true→op xs ds N0→
  (∀ us' xs' L' w c Lc,N0 xs' c→zf K P M B H us' xs' L'→Rep K P M B H w c Lc→(∀ a∈Lc++L',a∈Lx++Ld)→(Lc++L').Nodup→D.nbs xs'=true→c.nb=true→Q w (upd H l (.lst us')))→r (.ref l) vs H Q
theorem zhj:∀ {xs ys:List D},D.nbs xs=true→D.nbs ys=true→D.nbs (xs++ys)=true
 | [],_,_,h=>h
 | x::xs,ys,h,h'=>by
  simp only [D.nbs,Bool.and_eq_true] at h
  simp only [List.cons_append,D.nbs,Bool.and_eq_true]
  exact ⟨h.1,zhj h.2 h'⟩
theorem zeS:∀ {xs ys:List D},ys.Sublist xs→D.nbs xs=true→D.nbs ys=true
 | _,_,.slnil,h=>h
 | _,_,.cons _ s,h=>by
  simp only [D.nbs,Bool.and_eq_true] at h
  exact zeS s h.2
 | _,_,.cons_cons _ s,h=>by
  simp only [D.nbs,Bool.and_eq_true] at h ⊢
  exact ⟨h.1,zeS s h.2⟩
section
variable {K:PySem.W.Frag} {P:zR} {M B L:List Addr} {H:Hp} {vs us:List V} {ds xs:List D}
theorem Jj:zkl K rAppend zff:=by
 intro P M B H l us xs Lx vs ds Ld N0 Q hl _ _ rx rd nd bx bd op k
 unfold zff at op
 split at op
 ·obtain ⟨y,rfl,r⟩:=v1 rd
  have hlen:=rx.len
  have:(1000000:Nat) < sizeLine:=by decide
  refine ⟨l,us,y,rfl,rfl,hl,by omega,k _ _ (Lx++Ld) _ _ [] op.2 ?_ .non (fun a z=>z) nd (zhj bx bd) rfl⟩
  have:=zf.app rx (zf.cons r .nil)
  rw [List.append_nil] at this
  exact this
 ·exact op.elim
theorem ziu {L:List Addr} (r:zf K P M B H vs ds L):∃ L',zf K P M B H vs.reverse ds.reverse L'∧L'.Perm L:=by
 have:∀ {vs:List V} {ds:List D} {L:List Addr},zf K P M B H vs ds L→∃ L',zf K P M B H vs.reverse ds.reverse L'∧L'.Perm L:=by
  intro vs
  induction vs with
  | nil=>intro ds L r; cases r; exact ⟨[],.nil,.nil⟩
  | cons v vs ih=>
   intro ds L r
   cases r with
   | cons h r=>
    obtain ⟨L',r',p⟩:=ih r
    rw [List.reverse_cons,List.reverse_cons]
    have h1:=zf.app r' (zf.cons h .nil)
    rw [List.append_nil] at h1
    exact ⟨_,h1,List.perm_append_comm.trans (List.Perm.append_left _ p)⟩
 exact this r
theorem zp1 {xs:List D} (h:D.nbs xs=true):D.nbs xs.reverse=true:=by
 have mem:∀ {ys:List D},D.nbs ys=true↔∀ y∈ys,y.nb=true:=by
  intro ys
  induction ys with
  | nil=>simp [D.nbs]
  | cons y ys ih=>simp [D.nbs,ih]
 rw [mem] at h ⊢
 intro y hy
 exact h y (List.mem_reverse.mp hy)
theorem ziv:zkl K rReverse zn7:=by
 intro P M B H l us xs Lx vs ds Ld N0 Q hl _ _ rx rd nd bx bd op k
 unfold zn7 at op
 split at op
 ·cases rd
  obtain ⟨L',r',p⟩:=ziu rx
  rw [List.append_nil] at nd
  exact ⟨l,us,rfl,rfl,hl,k _ _ L' _ _ [] op r' .non (fun a z=>by rw [List.append_nil]; exact p.mem_iff.mp z) (p.nodup_iff.mpr nd) (zp1 bx) rfl⟩
 ·exact op.elim
theorem zbS:∀ {us:List V} {xs:List D} {L:List Addr} (n:Nat),zf K P M B H us xs L→∃ L1 L2,zf K P M B H (us.take n) (xs.take n) L1∧zf K P M B H (us.drop n) (xs.drop n) L2∧L=L1++L2
 | us,xs,L,0,r=>⟨[],L,by simpa using zf.nil,by simpa using r,rfl⟩
 | _,_,_,n+1,.nil=>⟨[],[],by simpa using zf.nil,by simpa using zf.nil,rfl⟩
 | _,_,_,n+1,.cons h r=>by
  obtain ⟨L1,L3,r1,r2,e⟩:=zbS n r
  exact ⟨_,L3,by simpa using zf.cons h r1,by simpa using r2,by rw [e,List.append_assoc]⟩
end
end DL
set_option maxHeartbeats 4000000
namespace DL
open PySem PySem.Spec PyProof.Rows L2
variable [Tb]
/-- a name's own list is changed; what the method hands back goes on -/
def X7 (i:Nat) (op:DM) (ta:DTA) (k:D→Env→(Env→Prop)→Prop):DS:=fun N ρ=>match Env.at ρ i with
 | some (.con .l .o xs)=>ta ρ fun ds=>D.nbs ds=true∧op xs ds fun xs' c=>k c (ρ.set i (some (.con .l .o xs'))) N.nx
 | _=>False
def Y5:D→Env→(Env→Prop)→Prop:=fun _ ρ N=>N ρ
section
variable {X:Cx} {P P' P'':zR} {M M' M'' B B' L Lr R:List Addr} {H H' H'':Hp} {σ:Sg} {ρ:Env} {v:V} {d:D} {ds:List D} {vs:List V} {N:DE} {E:Ends}
/-- the core:the list at the name,the arguments,the change -/
theorem zn8 {i:Nat} {op:DM} {ta:DTA} {k:D→Env→(Env→Prop)→Prop} {r:V→List V→Hp→VK→Prop} {tA:TA} (hr:zkl X.K r op) (h:qD X (X7 i op ta k) E σ H) (hA:∀ σ H Q,XQ X.K ta σ H Q→tA σ H Q)
  {Qf:V→Hp→Prop}
  (kk:∀ (P:zR) (M B:List Addr) (ρ:Env) (N:DE) (H0:Hp) (c:D) (ρ':Env) (Mx:List Addr) (Hx:Hp) (σ':Sg) (w:V) (Lc:List Addr),Stt P M B H→Fits X P M B H N E→k c ρ' N.nx→yJ P M B H P Mx Hx→Stt P Mx B Hx→qN X.K P Mx B Hx σ ρ' (Lc++[])→qm ρ'→Rep X.K P Mx B Hx w c Lc→(∀ a∈Lc,a∈Mx∧a∉B)→Lc.Nodup→c.nb=true→Qf w Hx):
  tBM X.K "list" r (tVar i) tA σ H Qf:=by
 obtain ⟨P,M,B,ρ,N,s,sl,e,t,f⟩:=h
 unfold X7 at t
 split at t
 ·rename_i xs ed
  have ed:=Env.zbQ ed
  obtain ⟨hlen,F,h1,h2,h3,h4⟩:=sl
  obtain ⟨v,e1,rv⟩:=h1 i _ ed
  have bx:D.nbs xs=true:=by simpa [D.nb] using e i _ ed
  generalize hF:F i=Fi at rv
  cases rv with
  | @lstO _ l us _ Lx hl hn rx=>
   have hl:H l=some (.lst us):=hl
   refine ⟨_,e1,.inl ⟨rfl,us,SqL.of hl⟩,hA _ _ _ ⟨P,M,B,ρ,_,s,⟨hlen,F,h1,h2,h3,h4⟩,t,fun vs H2 ra=>?_⟩⟩
   obtain ⟨ds,Ld,⟨bd,q⟩,g,p,rd,nd,fd⟩:=ra
   have hFi:∀ a∈l::Lx,a∈M∧a∉B:=fun a z=>h2 i a (by rw [hF]; exact z)
   have nFi:(l::Lx).Nodup:=by rw [← hF]; exact h3 i
   have hl2:H2 l=some (.lst us):=g _ _ hl hn
   have rx2:zf X.K P (Ld++M) B H2 us xs Lx:=zf.gr g s.lists (yx fd) (fun _ z=>.inl z) rx
   have rd2:zf X.K P (Ld++M) B H2 vs ds Ld:=zf.sub (fun _ z=>z) jt rd
   have tk:∀ a∈l::Lx,a∉Ld:=fun a z q=>s.trk a (hFi a z).1 (fd a q)
   refine hr P (Ld++M) B H2 l us xs Lx vs ds Ld _ _ hl2 (jt l (hFi l (List.mem_cons_self ..)).1) (fun z=>?_) rx2 rd2 (jV (List.nodup_cons.mp nFi).2 nd fun a z=>tk a (List.mem_cons_of_mem _ z)) bx bd q fun us' xs' L' w c Lc n0 r' rc sub n2 bx' bc=>?_
   ·rcases List.mem_append.mp z with z | z
    ·exact (List.nodup_cons.mp nFi).1 z
    ·exact tk l (List.mem_cons_self ..) z
   have hlm:l∈Ld++M:=jt l (hFi l (List.mem_cons_self ..)).1
   have hlB:l∉B:=(hFi l (List.mem_cons_self ..)).2
   have subM:∀ a∈Lc++L',a∈Ld++M:=fun a z=>(List.mem_append.mp (sub a z)).elim (fun q=>jt a (hFi a (List.mem_cons_of_mem _ q)).1) fun q=>List.mem_append_left _ q
   have subB:∀ a∈Lc++L',a∉B:=fun a z=>(List.mem_append.mp (sub a z)).elim (fun q=>(hFi a (List.mem_cons_of_mem _ q)).2) fun q m=>s.trk a (s.sub a m) (fd a q)
   have lx:∀ a∈Lc++L',a≠l:=fun a z q=>by
    subst q
    rcases List.mem_append.mp (sub a z) with w | w
    ·exact (List.nodup_cons.mp nFi).1 w
    ·exact tk a (List.mem_cons_self ..) w
   have nn:=List.nodup_append.mp n2
   have s2:Stt P (Ld++M) B H2:=by
    have:=s.after g p fun a z=>(zf.own rd a z).1
    exact ⟨p,fun a z=>jt a (s.sub a z),this.ls,this.tabs⟩
   have s3:Stt P (Ld++M) B (upd H2 l (.lst us')):=⟨s2.zM.mut hlm,s2.sub,fun a z=>(s2.ls a z).upd .l,fun x z=>(s2.tabs x z).lst hl2⟩
   have a3:yJ P M B H P (Ld++M) (upd H2 l (.lst us')):=by
    refine ⟨fun b o hb n1 n2=>?_,fun _ z=>z,fun _ z=>.inl z,yx fd,fun b hb=>?_,fun b q mT t=>(g.tab b q mT t).lst hl2⟩
    ·have ne:b≠l:=fun q=>by
      subst q
      exact n2.elim (fun w=>w (hFi b (List.mem_cons_self ..)).1) fun w=>hlB w
     rw [upd_ne ne]
     exact g b o hb n1
    ·by_cases q:b=l
     ·subst q; rw [upd_same]; intro z; cases z
     ·rw [upd_ne q]; exact Gr.trk g p hb
   have others:∀ (j:Nat) (d:D),j≠i→ρ[j]?=some (some d)→∃ v,σ[j]?=some (some v)∧Rep X.K P (Ld++M) B (upd H2 l (.lst us')) v d (F j):=fun j d hj ej=>by
    obtain ⟨v,e2,r2⟩:=h1 j d ej
    refine ⟨v,e2,Rep.mut (.l hl2) hlm (Rep.gr g s.lists (yx fd) (fun _ z=>.inl z) r2) (e j d ej) fun z=>hj (h4 j i l z (by rw [hF]; exact List.mem_cons_self ..))⟩
   have r3:zf X.K P (Ld++M) B (upd H2 l (.lst us')) us' xs' L':=zf.mut (.l hl2) hlm r' bx' fun z=>lx l (List.mem_append_right _ z) rfl
   have rc3:Rep X.K P (Ld++M) B (upd H2 l (.lst us')) w c Lc:=Rep.mut (.l hl2) hlm rc bc fun z=>lx l (List.mem_append_left _ z) rfl
   have hi:i < ρ.length:=(List.getElem?_eq_some_iff.mp ed).1
   have Fo:∀ j,j≠i→∀ a∈F j,a∉Lc++L':=fun j hj a z q=>by
    rcases List.mem_append.mp (sub a q) with w | w
    ·exact hj (h4 j i a z (by rw [hF]; exact List.mem_cons_of_mem _ w))
    ·exact s.trk a (h2 j a z).1 (fd a w)
   refine kk P M B ρ N H c _ (Ld++M) _ σ w Lc s f n0 a3 s3 ⟨by rw [List.length_set]; exact hlen,fun j=>if j=i then l::L' else F j,fun j d ej=>?_,fun j a z=>?_,fun j=>?_,fun j m a z z'=>?_,fun j a z q=>?_⟩ (fun j d ej=>?_) rc3 (fun a z=>⟨subM a (List.mem_append_left _ z),subB a (List.mem_append_left _ z)⟩) nn.1 bc
   ·rw [List.getElem?_set] at ej
    by_cases hj:i=j
    ·subst hj
     rw [if_pos rfl,if_pos hi] at ej
     cases ej
     refine ⟨.ref l,e1,?_⟩
     simp only [if_true]
     exact .lstO upd_same hn r3
    ·rw [if_neg hj] at ej
     obtain ⟨v,e2,r2⟩:=others j d (fun q=>hj q.symm) ej
     have:¬j=i:=fun q=>hj q.symm
     exact ⟨v,e2,by simpa [this] using r2⟩
   ·dsimp only at z
    split at z
    ·rcases List.mem_cons.mp z with q | q
     ·subst q; exact ⟨hlm,hlB⟩
     ·exact ⟨subM a (List.mem_append_right _ q),subB a (List.mem_append_right _ q)⟩
    ·exact ⟨jt a (h2 j a z).1,(h2 j a z).2⟩
   ·dsimp only
    split
    ·exact List.nodup_cons.mpr ⟨fun z=>lx l (List.mem_append_right _ z) rfl,nn.2.1⟩
    ·exact h3 j
   ·dsimp only at z z'
    split at z <;> split at z'
    ·rename_i q1 q2; rw [q1,q2]
    ·rename_i q1 q2
     rcases List.mem_cons.mp z with w | w
     ·subst w; exact absurd (h4 m i a z' (by rw [hF]; exact List.mem_cons_self ..)) q2
     ·exact absurd (List.mem_append_right _ w) (Fo m q2 a z')
    ·rename_i q1 q2
     rcases List.mem_cons.mp z' with w | w
     ·subst w; exact absurd (h4 j i a z (by rw [hF]; exact List.mem_cons_self ..)) q1
     ·exact absurd (List.mem_append_right _ w) (Fo j q1 a z)
    ·exact h4 j m a z z'
   ·rw [Xu] at q
    dsimp only at z
    split at z
    ·rcases List.mem_cons.mp z with w | w
     ·exact lx a (List.mem_append_left _ q) w
     ·exact nn.2.2 a q a w rfl
    ·rename_i hj
     exact Fo j hj a z (List.mem_append_left _ q)
   ·rw [List.getElem?_set] at ej
    by_cases hj:i=j
    ·subst hj
     rw [if_pos rfl,if_pos hi] at ej
     cases ej
     simpa [D.nb] using bx'
    ·rw [if_neg hj] at ej
     exact e j d ej
 ·exact t.elim
theorem zgP {i:Nat} {op:DM} {ta:DTA} {r:V→List V→Hp→VK→Prop} {tA:TA} (hr:zkl X.K r op) (h:qD X (X7 i op ta Y5) E σ H) (hA:∀ σ H Q,XQ X.K ta σ H Q→tA σ H Q):tDrop (tBM X.K "list" r (tVar i) tA) E σ H:=
 zn8 hr h hA fun P M B ρ N H0 c ρ' Mx Hx σ' w Lc s f q a s' sl e _ _ _ _=>f.nx _ _ _ _ _ q a s' sl.s e
end
end DL
set_option maxHeartbeats 4000000
namespace DL
open PySem PySem.Spec PyProof.Rows L2
variable [Tb]
theorem zhk (f:PyData→Bool):∀ ys:List D,(D.pys ys).any f=ys.any fun z=>f z.py
 | []=>rfl
 | y::ys=>by
  simp only [D.pys,List.any_cons]
  rw [zhk f ys]
theorem Sh.up:∀ {n:Nat} {d:D},Sh n d→Sh (n+1) d
 | _,.non,_=>by unfold Sh; trivial
 | _,.bl _,_=>by unfold Sh; trivial
 | _,.int _,_=>by unfold Sh; trivial
 | _,.str _,s=>by unfold Sh at s ⊢; exact s
 | _,.pen,s=>by unfold Sh at s; exact s.elim
 | 0,.tup _,s=>by unfold Sh at s; exact s.elim
 | 0,.con .l _ _,s=>by unfold Sh at s; exact s.elim
 | _,.con (.dK _) _ _,s=>by unfold Sh at s; exact s.elim
 | _,.con (.dT _) _ _,s=>by unfold Sh at s; exact s.elim
 | _,.con (.ins _ _ _) _ _,s=>by unfold Sh at s; exact s.elim
 | _,.exc _ _ _ _,s=>by unfold Sh at s; exact s.elim
 | n+1,.tup xs,s=>by
  have s':∀ x∈xs,Sh n x:=by simpa [Sh] using s
  have:∀ x∈xs,Sh (n+1) x:=fun x z=>Sh.up (s' x z)
  simpa [Sh] using this
 | n+1,.con .l _ xs,s=>by
  have s':∀ x∈xs,Sh n x:=by simpa [Sh] using s
  have:∀ x∈xs,Sh (n+1) x:=fun x z=>Sh.up (s' x z)
  simpa [Sh] using this
section
variable {X:Cx}
theorem zp2 {neg:Bool} {op:CmpOp} (hop:op=if neg then .NotIn else .In) (hu:X.A.units+65 < cLine):OpR X (compareOp op) (rD X.K (o2 (inO fun b=>if neg then !b else b))):=by
 intro pins s σ H x y v u Q I rx ry h0
 refine to2 h0 fun P M B d e L1 L3 Q0 A r1 r2 q k=>?_
 have hfin:∀ b,Q0 (.bl b)→EP X pins σ Q (.bool b) s:=fun b qb=>⟨.bl b,H,I,rfl,k _ _ (A.plain (fun {_}=>.bl) qb)⟩
 unfold inO at q
 split at q
 ·rename_i kk ys
  obtain ⟨s1,s2,q⟩:=q
  have sy:Sh 59 (.con .l kk ys):=by simpa [Sh] using s2
  have sy':Sh 60 (.con .l kk ys):=by
   have:∀ {n:Nat} {d:D},Sh n d→Sh (n+1) d:=fun {n d} h=>Sh.up h
   exact this sy
  obtain ⟨as,p1⟩:=Dp.reads I _ x v (r1.dp s1) rx
  obtain ⟨bs,p2⟩:=Dp.reads I (.list (D.pys ys)) y u (r2.dp sy) ry
  rw [show (ys.any fun z=>eqD z d)=(D.pys ys).any (fun z=>PyData.eqv z d.py) from (zhk (fun z=>PyData.eqv z d.py) ys).symm] at q
  cases neg with
  | false=>
   subst hop
   exact SeqAt.in_list_reads p2 p1 (SeqAt.canLay_of_shaped sy'.shaped) (SeqAt.canLay_of_shaped s1.shaped) (room_in_shaped s1.shaped hu) (hfin _ q)
  | true=>
   subst hop
   exact SeqAt.notIn_list_reads p2 p1 (SeqAt.canLay_of_shaped sy'.shaped) (SeqAt.canLay_of_shaped s1.shaped) (room_in_shaped s1.shaped hu) (hfin _ q)
 ·rename_i ys
  obtain ⟨s1,s2,q⟩:=q
  have sy:Sh 59 (.tup ys):=by simpa [Sh] using s2
  have sy':Sh 60 (.tup ys):=Sh.up sy
  obtain ⟨as,p1⟩:=Dp.reads I _ x v (r1.dp s1) rx
  obtain ⟨bs,p2⟩:=Dp.reads I (.tuple (D.pys ys)) y u (r2.dp sy) ry
  rw [show (ys.any fun z=>eqD z d)=(D.pys ys).any (fun z=>PyData.eqv z d.py) from (zhk (fun z=>PyData.eqv z d.py) ys).symm] at q
  cases neg with
  | false=>
   subst hop
   exact SeqAt.in_tuple_reads p2 p1 (SeqAt.canLay_of_shaped sy'.shaped) (SeqAt.canLay_of_shaped s1.shaped) (room_in_shaped s1.shaped hu) (hfin _ q)
  | true=>
   subst hop
   exact SeqAt.notIn_tuple_reads p2 p1 (SeqAt.canLay_of_shaped sy'.shaped) (SeqAt.canLay_of_shaped s1.shaped) (room_in_shaped s1.shaped hu) (hfin _ q)
 ·rename_i c z
  obtain ⟨hc,q⟩:=q
  obtain ⟨rfl,_⟩:=r1.str_inv
  obtain ⟨rfl,_⟩:=r2.str_inv
  have e:c=⟨#[c.cps.getD 0 0]⟩:=by
   obtain ⟨a⟩:=c
   obtain ⟨l⟩:=a
   match l,hc with
   | [w],_=>rfl
  rw [e] at rx
  cases neg with
  | false=>
   subst hop
   exact op_in_sign pins s σ H _ _ v u Q I rx ry ⟨_,_,rfl,rfl,k _ _ (A.plain (fun {_}=>.bl) q)⟩
  | true=>
   subst hop
   exact op_notIn_sign pins s σ H _ _ v u Q I rx ry ⟨_,_,rfl,rfl,k _ _ (A.plain (fun {_}=>.bl) q)⟩
 ·exact q.elim
theorem zn9 (hu:X.A.units+65 < cLine):OpR X (compareOp .In) (rD X.K (o2 (inO id))):=zp2 (neg:=false) rfl hu
end
end DL
set_option maxHeartbeats 4000000
namespace DL
open PySem PySem.Spec PyProof.Rows L2
variable [Tb]
section
variable {X:Cx}
theorem mPE {e:Expr} {t t':TE} (h:PE X e t) (k:∀ σ H Q,t' σ H Q→t σ H Q):PE X e t':=⟨fun pins s σ H Q I hw=>h.run pins s σ H Q I (k _ _ _ hw)⟩
theorem mPT {e:Expr} {t t':TT} (h:PT X e t) (k:∀ σ H Q,t' σ H Q→t σ H Q):PT X e t':=⟨fun pins s σ H Q I hw=>h.run pins s σ H Q I (k _ _ _ hw)⟩
theorem mPW {e:Expr} {t t':TT} (h:PW X e t) (k:∀ σ H Q,t' σ H Q→t σ H Q):PW X e t':=⟨fun wh pins s σ H Q I hw=>h.run wh pins s σ H Q I (k _ _ _ hw)⟩
theorem mPA {e:List Expr} {t t':TA} (h:PA X e t) (k:∀ σ H Q,t' σ H Q→t σ H Q):PA X e t':=⟨fun p pins s σ H Q I hw=>h.run p pins s σ H Q I (k _ _ _ hw)⟩
theorem mPS {e:Stmt} {t t':TS} (h:PS X e t) (k:∀ D σ H,t' D σ H→t D σ H):PS X e t':=⟨fun pins s σ H D I hw=>h.run pins s σ H D I (k _ _ _ hw)⟩
theorem zkm {e:List Stmt} {t t':TS} (h:PSs X e t) (k:∀ D σ H,t' D σ H→t D σ H):PSs X e t':=⟨fun pins s σ H D I hw=>h.run pins s σ H D I (k _ _ _ hw)⟩
theorem mPI {tg e:Expr} {t t':TI} (h:PI X tg e t) (k:∀ σ H R,t' σ H R→t σ H R):PI X tg e t':=⟨fun pins s σ H R I hw=>h.run pins s σ H R I (k _ _ _ hw)⟩
end
abbrev PD (X:Cx) (e:Expr) (t:DT):Prop:=PE X e (lift X.K t)
abbrev PDT (X:Cx) (e:Expr) (t:DTT):Prop:=PT X e (liftT X.K t)
abbrev PDW (X:Cx) (e:Expr) (t:DTT):Prop:=PW X e (liftT X.K t)
abbrev PDA (X:Cx) (e:List Expr) (t:DTA):Prop:=PA X e (XQ X.K t)
abbrev PDS (X:Cx) (e:Stmt) (t:DS):Prop:=PS X e (qD X t)
abbrev PDB (X:Cx) (e:List Stmt) (t:DS):Prop:=PSs X e (qD X t)
abbrev PDG (X:Cx) (e:Expr) (g:G):Prop:=PG X e (g.tg X.K)
abbrev zp3 (X:Cx) (e:List Expr) (g:Gs):Prop:=PGs X e (g.tgs X.K)
abbrev PIC (X:Cx) (tg e:Expr) (t:DTI):Prop:=PI X tg e (zbR X.K t)
abbrev PIS (X:Cx) (tg e:Expr) (t:DTI):Prop:=PI X tg e (zfa X.K t)
/-- where code runs:no except around,names apart,room for so many calls -/
structure Gd (X:Cx) (k:Nat):Prop where
 calm:X.calm=true
 nd:X.N.Nodup
 room:Room k X.A
theorem Gd.u {X:Cx} {k:Nat} (g:Gd X k):X.A.units+65 < cLine:=by
 have:=g.room.un
 omega
theorem Gd.u' {X:Cx} {k:Nat} (g:Gd X k):X.A.units+64 < cLine:=by
 have:=g.room.un
 omega
section
variable {X:Cx} {a b c e:Expr} {es rest:List Expr} {pos p px:Pos} {ta tb tc te:DT} {tr:DTA} {o:DO} {j k:Nat} {x:Str}
theorem zj (i:Nat) (hN:X.N[i]?=some x:=by rfl) (hv:Vis X.env.scope x:=by first | exact Or.inl rfl | exact Or.inr (Or.inl rfl) | exact Or.inr (Or.inr rfl)) (hd:(x == ("__debug__":Str))=false:=by decide) (hcd:(x == ("__classdict__":Str))=false:=by decide):PD X (.Name x pos) (zu i):=
 mPE (pv i hN hv hd hcd) fun _ _ _=>znS
theorem zA {i:Int}:PD X (.Constant (.int i) j pos) (dC (.int i)):=mPE pe_int fun _ _ _=>Kr fun _ _ _ _=>.int
theorem zfg {i:Bool}:PD X (.Constant (.bool i) j pos) (dC (.bl i)):=mPE pe_bl fun _ _ _=>Kr fun _ _ _ _=>.bl
theorem Jk:PD X (.Constant .none j pos) (dC .non):=mPE pe_non fun _ _ _=>Kr fun _ _ _ _=>.non
theorem j9 {i:Str}:PD X (.Constant (.str i) j pos) (dC (.str i)):=mPE pe_str fun _ _ _=>Kr fun _ _ _ _=>.str
theorem xG {op:Operator} (ho:OpR X (binaryOp op) (rD X.K o)) (ha:PD X a ta) (hb:PD X b tb):PD X (.BinOp a op b pos) (zP o ta tb):=mPE (pe_op ho ha hb) fun _ _ _=>zb9
theorem zfh (ha:PD X a ta):PD X (.UnaryOp .USub a pos) (dUn (o1 zgq) ta):=mPE (pe_un zpU ha) fun _ _ _=>Xq
theorem Ku {op:CmpOp} (ho:OpR X (compareOp op) (rD X.K o)) (ha:PD X a ta) (hb:PD X b tb) (hm:behindInMarks op b=false:=by first | exact nomark _ | rfl):PD X (.Compare a [op] [b] pos) (zP o ta tb):=mPE (pe_cmpR ho ha hb hm) fun _ _ _=>zb9
theorem yM {op:CmpOp} (ho:OpR X (compareOp op) (rD X.K o)) (ha:PD X a ta) (hb:PD X b tb) (hm:behindInMarks op b=false:=by first | exact nomark _ | rfl):PDT X (.Compare a [op] [b] pos) (dB (zP o ta tb)):=
 mPT (pt_cmpR ho ha hb hm) fun _ _ _ h=>zb9 (znW h)
theorem marks2 {op op':CmpOp} (h:behindInMarks op' c=false):lastMarks [op,op'] [b,c]=false:=by
 unfold lastMarks
 unfold lastMarks
 exact h
theorem zoa {op op':CmpOp} {o1 o3:D2} (ho:OpR X (compareOp op) (rD X.K (o2 o1))) (ho':OpR X (compareOp op') (rD X.K (o2 o3))) (ha:PD X a ta) (hb:PD X b tb) (hc:PD X c tc) (hm:behindInMarks op' c=false:=by first | exact nomark _ | rfl):
  PD X (.Compare a [op,op'] [b,c] pos) (Ko o1 o3 ta tb tc):=mPE (pe_chain ho ho' ha hb hc (marks2 hm)) fun _ _ _=>ze9
theorem zmy {op op':CmpOp} {o1 o3:D2} (ho:OpR X (compareOp op) (rD X.K (o2 o1))) (ho':OpR X (compareOp op') (rD X.K (o2 o3))) (ha:PD X a ta) (hb:PD X b tb) (hc:PD X c tc) (hm:behindInMarks op' c=false:=by first | exact nomark _ | rfl):
  PDT X (.Compare a [op,op'] [b,c] pos) (dB (Ko o1 o3 ta tb tc)):=mPT (pt_chain ho ho' ha hb hc (marks2 hm)) fun _ _ _ h=>ze9 (znW h)
theorem zhl {op} (h:PD X a ta):PD X (.BoolOp op [a] pos) ta:=pe_one h
theorem zhm (ha:PD X a ta) (hb:PD X (.BoolOp .And (b::rest) pos) tb):PD X (.BoolOp .And (a::b::rest) pos) (zhg ta tb):=mPE (pe_and ha hb) fun _ _ _=>znY
theorem zce (ha:PD X a ta) (he:∀ whole,isTrue a X.env whole=(do let v ← whole; standAt a.pos; holding [v] (truthy v)):=by intro _; rfl):PDT X a (zhe ta):=mPT (pt_truth ha he) fun _ _ _ h=>znV h
variable {ca cb:DTT}
theorem zcf (ha:PDT X a ca):PDT X (.UnaryOp .Not a pos) (zca ca):=mPT (pt_not ha) fun _ _ _ h=>zmr h
theorem zeT (ha:PDT X a ca):PDW X (.BoolOp .Or [a] pos) ca:=pw_or1 ha
theorem zfi (ha:PDT X a ca) (hb:PDW X (.BoolOp .Or (b::rest) pos) cb):PDW X (.BoolOp .Or (a::b::rest) pos) (zhf ca cb):=mPW (pw_or ha hb) fun _ _ _ h=>znX h
theorem zll (h:PDW X a ca):PDT X a ca:=h.pt
theorem zob (hc:PDT X c ca) (ha:PD X a ta) (hb:PD X b tb):PD X (.IfExp c a b pos) (dIf ca ta tb):=mPE (pe_ifExp hc ha hb) fun _ _ _=>zpX
theorem zp:PDA X [] zK:=mPA pa_nil fun _ _ _ h=>zaW h
theorem za (ha:PD X e te) (hr:PDA X es tr) (hs:starEach (e::es) X.env=(false,eval e X.env)::starEach es X.env:=by rfl):PDA X (e::es) (zm te tr):=mPA (pa_cons ha hr hs) fun _ _ _ h=>XR h
theorem X8 {x1} (h:PDA X es tr):PD X (.Tuple es x1 pos) (dTup tr):=mPE (pe_tup h) fun _ _ _=>znT
theorem qj (h:PDA X es tr):PD X (.List es pos) (Z6 tr):=mPE (pe_lst h) fun _ _ _=>znU
theorem yG (ha:PD X a ta) (hb:PD X b tb) (hs:PlainIx b:=by intro _ _; rfl):PD X (.Subscript a b pos) (zP (o2 ixD) ta tb):=mPE (pe_ix ztc ha hb hs) fun _ _ _=>zb9
theorem yK {id:String} (hc:CallR X (.builtin id) (rC X.K o)) (hm:X.mg x=none) (ha:PDA X (e::es) tr) (hv:bootBuiltins x=some (.builtin id):=by rfl) (hg:Gl X x:=by rfl) (hn:x≠"__name__":=by decide) (hdb:(x == ("__debug__":Str))=false:=by decide)
  (he:starEach (e::es) X.env=(false,eval e X.env)::starEach es X.env:=by rfl) (hpl:(backTo pos (starEach es X.env)).any (·.1)=false:=by rfl):PD X (.Call (.Name x p) (e::es) [] pos) (dCall o tr):=mPE (pe_callB hc hg hm hv ha hn hdb he hpl) fun _ _ _=>zcS
theorem zoc {T:String} (hc:CallR X (.type T) (rC X.K o)) (hm:X.mg x=none) (ha:PDA X (e::es) tr) (hv:bootBuiltins x=some (.type T):=by rfl) (hg:Gl X x:=by rfl) (hn:x≠"__name__":=by decide) (hdb:(x == ("__debug__":Str))=false:=by decide)
  (he:starEach (e::es) X.env=(false,eval e X.env)::starEach es X.env:=by rfl) (hpl:(backTo pos (starEach es X.env)).any (·.1)=false:=by rfl):PD X (.Call (.Name x p) (e::es) [] pos) (dCall o tr):=mPE (pe_callTy hc hg hm hv ha hn hdb he hpl) fun _ _ _=>zcS
end
/-- a def by name keeps a promise -/
def Fd (P:Program) (w:World) (K:PySem.W.Frag) (mg:Str→Option Value) (base:Heap) (k:Nat) (x:Str) (S:zQ):Prop:=
 ∃ f fd ps,FnOk P w K mg base CX0 k f fd ps (Q8 K S)∧mg x=some (.ref f)∧PySem.W.keepIn K (.ref f)=true∧Binds K fd ps []
section
variable {P:Program} {w:World} {K:PySem.W.Frag} {mg:Str→Option Value} {base:Heap} {S S':zQ} {x:Str} {k k':Nat}
theorem Fd.imp (F:Fd P w K mg base k x S) (hk:k≤k') (h:∀ ds Q,S' ds Q→S ds Q):Fd P w K mg base k' x S':=by
 obtain ⟨f,fd,ps,F,a,b,c⟩:=F
 exact ⟨f,fd,ps,(F.mono hk).imp fun vs H Q E ⟨P,M,ds,Q0,h1,h2,h3,h4,h5⟩=>⟨P,M,ds,Q0,h1,h2,h3,h _ _ h4,h5⟩,a,b,c⟩
end
section
variable {X:Cx} {e:Expr} {es:List Expr} {pos p:Pos} {tr:DTA} {k:Nat} {x:Str} {S:zQ}
theorem xV (F:Fd X.prog X.w X.K X.mg X.base k x S) (hr:Room k X.A) (ha:PDA X (e::es) tr) (hg:Gl X x:=by rfl) (hdb:(x == ("__debug__":Str))=false:=by decide)
  (he:starEach (e::es) X.env=(false,eval e X.env)::starEach es X.env:=by rfl) (hpl:(backTo pos (starEach es X.env)).any (·.1)=false:=by rfl):PD X (.Call (.Name x p) (e::es) [] pos) (dFn S tr):=by
 obtain ⟨f,fd,ps,F,a,b,c⟩:=F
 refine mPE (pe_call F hr hg a b c .nil (E:=E0) (CX:=CX0) pass0 ha hdb he hpl) fun σ H Q h=>?_
 have:=zlj (E:=E0) h
 unfold tCall
 simpa using this
end
section
variable {X:Cx} {e:Expr} {es:List Expr} {pos p:Pos} {k:Nat} {x:Str} {g:G} {gs:Gs}
theorem yc (i:Nat) (hN:X.N.Nodup) (hi:X.N[i]?=some x:=by rfl) (hx:Loc X.env.scope x:=by first | exact Or.inl rfl | exact Or.inr rfl) (hf:X.fn x=true∨X.env.scope.names.lookup x=some .local:=by first | exact .inl rfl | exact .inr rfl):PDG X (.Name x pos) (.nm i):=pg_name hN hi hx hf
theorem Xv:zp3 X [] .nil:=pgs_nil
theorem yP (h1:PDG X e g) (h2:zp3 X es gs) (hs:(assignEach (e::es) X.env).map (·.2)=assign e X.env::(assignEach es X.env).map (·.2):=by rfl):zp3 X (e::es) (.cons g gs):=pgs_cons h1 h2 hs
theorem Jl (hc:X.calm=true) (h:zp3 X es gs) (hn:(assignEach es X.env).length=gs.len:=by rfl) (hst:(assignEach es X.env).findIdx? (·.1)=none:=by rfl):PDG X (.Tuple es k pos) (.tp gs):=pg_tup hc h hn hst
end
section
variable {X:Cx} {a b tg:Expr} {es:List Expr} {pos p tpos:Pos} {kk:Nat} {ta tb:DT}
theorem xH (ha:PD X a ta):PIC X tg a (qK zW ta):=mPI (zn0 ha) fun _ _ _ h=>zki h
theorem zlm (ha:PD X a ta):PIS X tg a (qK qW ta):=mPI (zn0 ha) fun _ _ _ h=>zkj h
theorem one_arg (ha:PD X a ta) (hs:starEach [a] X.env=(false,eval a X.env)::starEach [] X.env:=by rfl):PA X [a] (tCons (lift X.K ta) tNil):=pa_cons ha pa_nil hs
theorem ziw (hm:X.mg "enumerate"=none) (ha:PD X a ta) (hg:Gl X "enumerate":=by rfl) (hs:starEach [a] X.env=[(false,eval a X.env)]:=by rfl):PIS X (.Tuple es kk tpos) (.Call (.Name "enumerate" p) [a] [] pos) (zgM qW ta):=
 mPI (pi_enum hg hm (pa_cons ha pa_nil hs) hs) fun _ _ _ h=>zir h
theorem zln (hm:X.mg "zip"=none) (ha:PD X a ta) (hb:PD X b tb) (hg:Gl X "zip":=by rfl) (hs:starEach [a,b] X.env=(false,eval a X.env)::starEach [b] X.env:=by rfl) (hs2:starEach [b] X.env=(false,eval b X.env)::starEach [] X.env:=by rfl) (hpl:(backTo pos (starEach [b] X.env)).any (·.1)=false:=by rfl):
  PIC X (.Tuple es kk tpos) (.Call (.Name "zip" p) [a,b] [] pos) (zms zW ta tb):=mPI (RZ.pi_zipA hg hm (pa_cons ha (pa_cons hb pa_nil hs2) hs) hs hpl) fun _ _ _ h=>zkk h
theorem zrP (hm:X.mg "range"=none) (ha:PD X a ta) (hg:Gl X "range":=by rfl) (hs:starEach [a] X.env=[(false,eval a X.env)]:=by rfl):PIC X tg (.Call (.Name "range" p) [a] [] pos) (zcb ta):=
 mPI (pi_range1 hg hm (pa_cons ha pa_nil hs) hs) fun _ _ _ h=>zfb (.inl h)
theorem zkn (hm:X.mg "range"=none) (ha:PD X a ta) (hg:Gl X "range":=by rfl) (hs:starEach [a] X.env=[(false,eval a X.env)]:=by rfl):PIS X tg (.Call (.Name "range" p) [a] [] pos) (zcb ta):=
 mPI (pi_range1 hg hm (pa_cons ha pa_nil hs) hs) fun _ _ _ h=>zfb (.inr h)
end
abbrev Blk (X:Cx) (scope:Scope) (R:Cx→Prop):Prop:=∀ (s:Shared) (H:Hp) (C:Addr) (cl:List (Str×Addr)) (fp:List Addr),R (X.blk s H scope (compEnvC scope cl C X.env) fp)
def ZP:DTT:=fun _ Q=>Q true
theorem zod {K:PySem.W.Frag} {σ:Sg} {H:Hp} {Q:Bool→Hp→Prop} (h:liftT K ZP σ H Q):tYes σ H Q:=by
 obtain ⟨P,M,B,ρ,Q0,s,sl,t,k⟩:=h
 exact k true H t Gr.refl s.zM
section
variable {X:Cx} {elt tg iter:Expr} {ifs:List Expr} {scope:Scope} {own:List (Str×Nat)} {pos py spos:Pos} {it:DTI} {g:G} {tt:DTT} {te:DT} {k:Nat}
abbrev zmz (X:Cx) (e:List Expr) (t:DTT):Prop:=PTs X e (liftT X.K t)
theorem yQ:zmz X [] ZP:=⟨fun pins s σ H Q I hw=>pts_nil.run pins s σ H Q I (zod hw)⟩
theorem Kv {c:Expr} {t:DTT} (h:PDT X c t):zmz X [c] t:=pts_one h
theorem Y6 (d:Gd X k) (hi:PIC X tg iter it) (ok:blkC X.N X.env.scope scope own=true) (hsl:∀ i∈g.slots,i∈own.map (·.2))
  (hg:Blk X scope fun Y=>PDG Y tg g) (ht:Blk X scope fun Y=>zmz Y ifs tt) (he:Blk X scope fun Y=>PD Y elt te) (hs:∀ x,foldedSetIterable iter X.env x=pure x:=by intro _; rfl):
  PD X (.ListComp elt [⟨tg,iter,ifs,0⟩] scope pos) (dLc it (own.map (·.2)) g tt te):=
 mPE (pe_lc d.calm d.nd hi (blkOk_by ok) hg ht he hs) fun _ _ _ h=>zlh h (fun _ z=>z) (fun _ _ _ z=>z) (fun _ _ _ z=>z) hsl
end
section
variable {X:Cx} {a b c e tg iter:Expr} {es rest:List Expr} {st:Stmt} {sts body els:List Stmt} {pos p px py:Pos} {ta tb tc te:DT} {tr:DTA} {t u:DS} {j k:Nat} {x y:Str} {g:G} {ca:DTT} {it:DTI}
theorem Qa:PDB X [] Yq:=zkm pss_nil fun _ _ _=>zmv
theorem zJ (h1:PDS X st t) (h2:PDB X sts u):PDB X (st::sts) (zN t u):=zkm (pss_cons h1 h2) fun _ _ _=>lift_seq
theorem yR (h1:PDS X st t):PDB X [st] t:=pss_one h1
theorem zoe (he:PD X e te) (hs:swapsWith e none pos.line X.env=pure false:=by rfl):PDS X (.Expr e pos) (zgN te):=mPS (ps_expr he hs) fun _ _ _ h=>zmw h fun _ _ _ z=>z
theorem s_ret (he:PD X e te):PDS X (.Return (some e) pos) (ZM te):=mPS (ps_ret he) fun _ _ _ h=>zn5 h fun _ _ _ z=>z
theorem zhn (i:Nat) (hN:X.N[i]?=some x:=by rfl) (hv:Vis X.env.scope x:=by first | exact Or.inl rfl | exact Or.inr (Or.inl rfl) | exact Or.inr (Or.inr rfl)) (hd:(x == ("__debug__":Str))=false:=by decide) (hcd:(x == ("__classdict__":Str))=false:=by decide):PDS X (.Return (some (.Name x p)) pos) (zbi i):=
 mPS (ps_ret (pv i hN hv hd hcd)) fun _ _ _ h=>zmx h
theorem s_if (hc:PDT X c ca) (ha:PDB X body t) (hb:PDB X els u):PDS X (.If c body els pos) (X6 ca t u):=mPS (ps_if hc ha hb) fun _ _ _ h=>zn4 h fun _ _ _ z=>z
theorem jf (i:Nat) (d:Gd X k) (he:PD X e te) (hi:X.N[i]?=some x:=by rfl) (hx:Loc X.env.scope x:=by first | exact Or.inl rfl | exact Or.inr rfl) (hs:swapsWith e (some (.Name x py)) pos.line X.env=pure false:=by rfl) (hf:X.fn x=true∨X.env.scope.names.lookup x=some .local:=by first | exact .inl rfl | exact .inr rfl):
  PDS X (.Assign [.Name x py] e pos) (jr (.nm i) te):=mPS (ps_set d.nd hi hx he hs hf) fun _ _ _ h=>zit h fun _ _ _ z=>z
theorem zaZ (i:Nat) {elt:Expr} {ifs:List Expr} {scope:Scope} {own:List (Str×Nat)} {spos:Pos} {tt:DTT} (d:Gd X k) (hi:PIC X tg iter it) (ok:blkC X.N X.env.scope scope own=true) (hsl:∀ i∈g.slots,i∈own.map (·.2))
  (hg:Blk X scope fun Y=>PDG Y tg g) (ht:Blk X scope fun Y=>zmz Y ifs tt) (he:Blk X scope fun Y=>PD Y elt te) (hk:X.env.scope.kind=.function:=by rfl) (hl:(py.line == pos.line)=true:=by rfl) (hl2:(py.line == spos.line)=true:=by rfl)
  (hy:X.N[i]?=some y:=by rfl) (hyl:X.env.scope.names.lookup y=some .local:=by rfl) (ha:(scope.names.any fun (n,k)=>n == y&&(k == .local||k == .cell))=false:=by rfl) (hs:∀ x,foldedSetIterable iter X.env x=pure x:=by intro _; rfl):
  PDS X (.Assign [.Name y py] (.ListComp elt [⟨tg,iter,ifs,0⟩] scope pos) spos) (jr (.nm i) (dLc it (own.map (·.2)) g tt te)):=
 mPS (ps_setLc d.calm d.nd hy hyl (sw_true hk hyl hl ha) hi (blkOk_by ok) hg ht he hs) fun _ _ _ h=>zit h fun _ _ _ z=>zlh z (fun _ z=>z) (fun _ _ _ z=>z) (fun _ _ _ z=>z) hsl
theorem zfj (d:Gd X k) (hp:PassesOwn (model X.prog X.w) X.A X.env X.xe) (hi:PIS X tg iter it) (hg:PDG X tg g) (hb:PDB X body t) (hs:∀ x,foldedSetIterable iter X.env x=pure x:=by intro _; rfl):PDS X (.For tg iter body [] pos) (zfe it g t):=
 mPS (ps_for hp d.calm hi hg hb hs) fun _ _ _ h=>zn6 h fun _ z=>z
end
end DL
set_option maxHeartbeats 4000000
namespace DL
open PySem PySem.Spec PyProof.Rows L2
variable [Tb]
theorem Zj {K:PySem.W.Frag} {t:DT} {σ:Sg} {H:Hp} {Q Q':VK} (h:lift K t σ H Q) (k:∀ v H',Q v H'→Q' v H'):lift K t σ H Q':=by
 obtain ⟨P,M,B,ρ,Q0,s,sl,t,q⟩:=h
 exact ⟨P,M,B,ρ,Q0,s,sl,t,fun v H' r=>k _ _ (q v H' r)⟩
section
variable {X:Cx} {v:V} {H:Hp} {Q:VK}
theorem zp4 {c:String} (h0:rC X.K (o1 (xJ [c])) [v] H Q):rIsi X.K [v,.ty c] H Q:=by
 obtain ⟨P,M,B,ds,L,Q0,A,q,k⟩:=h0
 unfold o1 at q
 split at q
 ·rename_i d
  obtain ⟨v',e,r1⟩:=v1 A.reps
  injection e with e1 _; subst e1
  unfold xJ at q
  split at q
  ·rename_i b eb
   obtain ⟨nt,eb⟩:=zld eb
   unfold je at eb
   refine ⟨v,.ty c,_,_,b,rfl,.ty c,r1.tyx A.stt nt,?_,k _ _ (A.plain (fun {_}=>.bl) q)⟩
   cases e2:kitB (tyD d) c with
   | none=>rw [e2] at eb; cases eb
   | some z=>
    rw [e2] at eb
    have e3:z=b:=by
     cases z with
     | true=>exact Option.some.inj eb
     | false=>unfold je at eb; exact Option.some.inj eb
    rw [← e3]
    exact kit_ty e2
  ·exact q.elim
 ·exact q.elim
theorem zof:∀ cs:List String,Paired ClsV (cs.map V.ty) (cs.map Value.type)
 | []=>.nil
 | c::cs=>.cons (.ty c) (zof cs)
theorem zog {cs:List String} {p:Addr} (h0:rC X.K (o1 (xJ cs)) [v] H Q) (hp:H p=none):rIsiT X.K [v,.ref p] (upd H p (.tup (cs.map V.ty))) Q:=by
 obtain ⟨P,M,B,ds,L,Q0,A,q,k⟩:=h0
 unfold o1 at q
 split at q
 ·rename_i d
  obtain ⟨v',e,r1⟩:=v1 A.reps
  injection e with e1 _; subst e1
  unfold xJ at q
  split at q
  ·rename_i b eb
   obtain ⟨nt,eb⟩:=zld eb
   have g:Gr P.as H (upd H p (.tup (cs.map V.ty))):=Gr.laid hp
   have p':zF P (L++M) (upd H p (.tup (cs.map V.ty))):=A.stt.zM.laid hp
   have s':=A.stt.keep g p'
   have r1':=Rep.gr g A.stt.lists (fun _ z=>.inl z) (fun _ z=>.inl z) r1
   refine ⟨v,p,_,_,_,b,rfl,upd_same,zof cs,r1'.tyx s' nt,zlc eb,k _ _ ⟨.bl b,[],q,g,?_,.bl,List.nodup_nil,fun _ z=>nomatch z⟩⟩
   exact A.base.zM.laid hp
  ·exact q.elim
 ·exact q.elim
end
section
variable {X:Cx} {a:Expr} {pos p p1 p2 p3:Pos} {k2:Nat} {ta:DT} {c c2:String} {x x2:Str}
theorem YT (hm:X.mg "isinstance"=none) (ha:PD X a ta) (hm1:X.mg x=none) (hv1:bootBuiltins x=some (.type c):=by rfl) (hg:Gl X "isinstance":=by rfl) (hg1:Gl X x:=by rfl) (hn1:x≠"__name__":=by decide) (hd1:(x == ("__debug__":Str))=false:=by decide)
  (he:starEach [a,.Name x p1] X.env=(false,eval a X.env)::starEach [.Name x p1] X.env:=by rfl) (he2:starEach [.Name x p1] X.env=(false,eval (.Name x p1) X.env)::starEach [] X.env:=by rfl) (hpl:(backTo pos (starEach [.Name x p1] X.env)).any (·.1)=false:=by rfl):
  PD X (.Call (.Name "isinstance" p) [a,.Name x p1] [] pos) (dUn (o1 (xJ [c])) ta):=
 mPE (pe_callB call_isi hg hm boot_isinstance (pa_cons ha (pa_cons (pe_bltn (v:=.ty c) (u:=.type c) hg1 hm1 hv1 rfl hn1 hd1) pa_nil he2) he) (by decide) (by decide) he hpl) fun σ H Q h=>by
  have h1:=Zj (Xq h) fun v H' q=>zp4 q
  exact h1
theorem zp5 (hm:X.mg "isinstance"=none) (ha:PD X a ta) (hm1:X.mg x=none) (hm2:X.mg x2=none) (hv1:bootBuiltins x=some (.type c):=by rfl) (hv2:bootBuiltins x2=some (.type c2):=by rfl) (hg:Gl X "isinstance":=by rfl) (hg1:Gl X x:=by rfl) (hg2:Gl X x2:=by rfl)
  (hn1:x≠"__name__":=by decide) (hd1:(x == ("__debug__":Str))=false:=by decide) (hn2:x2≠"__name__":=by decide) (hd2:(x2 == ("__debug__":Str))=false:=by decide)
  (he:starEach [a,.Tuple [.Name x p1,.Name x2 p2] k2 p3] X.env=(false,eval a X.env)::starEach [.Tuple [.Name x p1,.Name x2 p2] k2 p3] X.env:=by rfl) (he2:starEach [.Tuple [.Name x p1,.Name x2 p2] k2 p3] X.env=(false,eval (.Tuple [.Name x p1,.Name x2 p2] k2 p3) X.env)::starEach [] X.env:=by rfl)
  (he3:starEach [.Name x p1,.Name x2 p2] X.env=(false,eval (.Name x p1) X.env)::starEach [.Name x2 p2] X.env:=by rfl) (he4:starEach [.Name x2 p2] X.env=(false,eval (.Name x2 p2) X.env)::starEach [] X.env:=by rfl) (hpl:(backTo pos (starEach [.Tuple [.Name x p1,.Name x2 p2] k2 p3] X.env)).any (·.1)=false:=by rfl):
  PD X (.Call (.Name "isinstance" p) [a,.Tuple [.Name x p1,.Name x2 p2] k2 p3] [] pos) (dUn (o1 (xJ [c,c2])) ta):=
 mPE (pe_callB call_isiT hg hm boot_isinstance (pa_cons ha (pa_cons (pe_tup (pa_cons (pe_bltn (v:=.ty c) (u:=.type c) hg1 hm1 hv1 rfl hn1 hd1) (pa_cons (pe_bltn (v:=.ty c2) (u:=.type c2) hg2 hm2 hv2 rfl hn2 hd2) pa_nil he4) he3)) pa_nil he2) he) (by decide) (by decide) he hpl) fun σ H Q h=>by
  have h1:lift X.K ta σ H fun v H1=>∀ p,H1 p=none→rIsiT X.K [v,.ref p] (upd H1 p (.tup ([c,c2].map V.ty))) Q:=Zj (Xq h) fun v H' q p hp=>zog q hp
  refine Zj h1 fun v H1 q=>?_
  exact ⟨show 2≤sizeLine by decide,fun p hp=>q p hp⟩
end
mutual
/-- no pen in it -/
def D.np:D→Bool
 | .pen=>false
 | .tup xs=>D.nps xs
 | .con _ _ xs=>D.nps xs
 | _=>true
def D.nps:List D→Bool
 | []=>true
 | x::xs=>D.np x&&D.nps xs
end
section
variable {K:PySem.W.Frag} {P P':zR} {M B:List Addr} {H:Hp}
theorem QM (h:∀ p∈P,p∈P'):∀ a∈P.as,a∈P'.as:=fun a z=>by
 obtain ⟨l,hl⟩:=zR.mem z
 exact List.mem_map.mpr ⟨(a,l),h _ hl,rfl⟩
mutual
theorem Rep.JM (h:∀ p∈P,p∈P'):∀ {v:V} {d:D} {L:List Addr},Rep K P' M B H v d L→d.np=true→Rep K P M B H v d L
 | _,_,_,.non,_=>.non
 | _,_,_,.bl,_=>.bl
 | _,_,_,.int,_=>.int
 | _,_,_,.str,_=>.str
 | _,_,_,.pen _,n=>by simp [D.np] at n
 | _,_,_,.tup q r,n=>.tup q (zf.JM h r (by simpa [D.np] using n))
 | _,_,_,.exc hl hx r p,_=>Rep.zgo hl hx r p
 | _,_,_,.lstF q r p,n=>.lstF (SqC.sub q fun b z=>(List.mem_append.mp z).elim (fun w=>List.mem_append_left _ (QM h b w)) fun w=>List.mem_append_right _ w) (zf.JM h r (by simpa [D.np] using n)) p
 | _,_,_,.lstB q r,n=>.lstB (SqC.sub q fun b z=>(List.mem_append.mp z).elim (fun w=>List.mem_append_left _ (QM h b w)) fun w=>List.mem_append_right _ w) (zf.JM h r (by simpa [D.np] using n))
 | _,_,_,.lstO q m r,n=>.lstO q (fun z=>m (QM h _ z)) (zf.JM h r (by simpa [D.np] using n))
theorem zf.JM (h:∀ p∈P,p∈P'):∀ {vs:List V} {ds:List D} {L:List Addr},zf K P' M B H vs ds L→D.nps ds=true→zf K P M B H vs ds L
 | _,_,_,.nil,_=>.nil
 | _,_,_,.cons r rs,n=>by
  simp only [D.nps,Bool.and_eq_true] at n
  exact .cons (Rep.JM h r n.1) (zf.JM h rs n.2)
end
end
/-- what a def's body promises:n slots -/
def yU (Q:D→Prop):DE:={ nx:=fun _=>Q .non,rt:=fun c=>c.np=true∧Q c}
def zH (n:Nat) (ds:List D):Env:=ds.map some++List.replicate (n - ds.length) none
theorem zf.at0 {K:PySem.W.Frag} {P:zR} {M B:List Addr} {H:Hp}:∀ {vs:List V} {ds:List D} {i:Nat} {d:D},zf K P M B H vs ds []→ds[i]?=some d→∃ v,vs[i]?=some v∧Rep K P M B H v d []:=by
 intro vs ds i d r e
 obtain ⟨v,L1,e1,r1,s,_⟩:=Rep.zcU r List.nodup_nil e
 have:L1=[]:=by
  cases L1 with
  | nil=>rfl
  | cons a _=>exact nomatch s a (List.mem_cons_self ..)
 subst this
 exact ⟨v,e1,r1⟩
theorem Q9 {X:Cx} {S:zQ} {t:DS} {N:List Str} {n:Nat} (hS:∀ ds Q,S ds Q→ds.length=n∧t (yU Q) (zH N.length ds)) {vs:List V} {H:Hp} {Q:VK} {E:XK} (h:Q8 X.K S vs H Q E):
  qD X t { nx:=fun _ H'=>Q .non H',rt:=Q} (L2.start N vs) H:=by
 obtain ⟨P,M,ds,Q0,s,r,pf,q,k⟩:=h
 obtain ⟨hl,q⟩:=hS ds Q0 q
 have len:=r.len
 refine ⟨P,M,M,zH N.length ds,yU Q0,s,⟨?_,fun _=>([]:List Addr),fun i d e=>?_,(by intro i a z; simp at z),(fun _=>List.nodup_nil),(by intro i j a z; simp at z)⟩,fun i d e=>?_,q,⟨?_,?_,?_,?_,fun _ _ _ _ _ _ _ _ z=>z.elim,fun _ _ _ _ _ _ _ _ z=>z.elim⟩⟩
 ·simp [zH,L2.start,len]
 ·unfold zH at e
  by_cases hi:i < ds.length
  ·rw [List.getElem?_append_left (by simpa using hi),List.getElem?_map] at e
   cases ed:ds[i]? with
   | none=>rw [ed] at e; cases e
   | some c=>
    rw [ed] at e
    have ec:c=d:=by injection e with e; injection e
    subst ec
    obtain ⟨v,e1,r1⟩:=zf.at0 r ed
    refine ⟨v,?_,r1⟩
    unfold L2.start
    have hv:i < vs.length:=by omega
    rw [List.getElem?_append_left (by simpa using hv),List.getElem?_map,e1]
    rfl
  ·rw [List.getElem?_append_right (by simpa using hi),List.getElem?_replicate] at e
   split at e <;> cases e
 ·unfold zH at e
  by_cases hi:i < ds.length
  ·rw [List.getElem?_append_left (by simpa using hi),List.getElem?_map] at e
   cases ed:ds[i]? with
   | none=>rw [ed] at e; cases e
   | some c=>
    rw [ed] at e
    have ec:c=d:=by injection e with e; injection e
    subst ec
    exact D.zdA _ (zc0 pf ed)
  ·rw [List.getElem?_append_right (by simpa using hi),List.getElem?_replicate] at e
   split at e <;> cases e
 ·intro P' M' H' σ' ρ' q0 a s' sl' _
  refine k _ _ ⟨.non,[],q0,⟨fun b o hb n=>a.gr b o hb n (Classical.em (b∈M) |>.elim .inr .inl),a.tab⟩,?_,.non,List.nodup_nil,fun _ z=>nomatch z⟩
  intro x l hx
  obtain ⟨h1,h2,h3,h4⟩:=s'.zM x l (a.zM _ hx)
  exact ⟨fun z=>h1 (s'.sub x z),fun z=>h2 (s'.sub l z),fun z=>h3 (QM a.zM l z),h4⟩
 ·intro _ _ _ _ _ z; exact z.elim
 ·intro _ _ _ _ _ z; exact z.elim
 ·intro P' M' H' v c Lr q0 a p r1 nd fr
  refine k _ _ ⟨c,Lr,q0.2,⟨fun b o hb n=>a.gr b o hb n (Classical.em (b∈M) |>.elim .inr .inl),a.tab⟩,?_,Rep.JM a.zM r1 q0.1,nd,fun b z=>?_⟩
  ·intro x l hx
   obtain ⟨h1,h2,h3,h4⟩:=p x l (a.zM _ hx)
   exact ⟨h1,h2,fun z=>h3 (QM a.zM l z),h4⟩
  ·rcases fr b z with w | w
   ·exact .inl w
   ·exact absurd w.1 w.2
section
variable {P:Program} {w:World} {K:PySem.W.Frag} {mg:Str→Option Value} {base:Heap} {x qual:Str} {params:Arguments} {body:List Stmt} {scope:Scope} {f:Addr} {fd:FuncData}
/-- THE RULE for a def -/
theorem Fd.of {N ps:List Str} {k:Nat} {S:zQ} {t:DS} (F:FunD K x qual params body scope [] [] f fd) (gm:mg x=some (.ref f)) (Sc:FnScope N ps scope)
  (hb:∀ (kV doc pm:Value) (an:Option Addr) (cdv ct:Value) (us:List Value),us.length=ps.length→bindArgs (PySem.W.fnOf x qual params body scope .none kV doc pm an cdv ct) ⟨us,[]⟩=pure (ps.zip us))
  (walk:∀ (cdv:Value) (A:Around) (outer:List PySem.Env) (s:Shared) (H:Hp) (E:XK),Room k (A.deeper (envOfC qual scope s.heap.objs.size f cdv))→PDB (cxOf CX0 P w K mg base N qual scope f cdv A outer s H E).nox body t)
  (hS:∀ ds Q,S ds Q→ds.length=ps.length∧t (yU Q) (zH N.length ds)):Fd P w K mg base (k+1) x S:=by
 refine ⟨f,fd,ps,F.ok (N:=N) Sc (fun vs H Q E h=>?_) (fun cdv A outer s H vs Q E hr h=>⟨_,PSs.nox (walk cdv A outer s H E hr),Q9 hS h⟩),gm,F.kp,F.bindsN hb⟩
 obtain ⟨P',M,ds,Q0,s,r,pf,q,_⟩:=h
 rw [r.len]
 exact (hS _ _ q).1
end
end DL
set_option maxHeartbeats 4000000
namespace DL
open PySem PySem.Spec PyProof.Rows L2
variable [Tb]
abbrev ltO:D2:=zex fun i j=>decide (i < j)
abbrev leO:D2:=zex fun i j=>decide (i≤j)
abbrev gtO:D2:=zex fun i j=>decide (j < i)
section
variable {ta tb tc te:DT} {tr:DTA} {ρ:Env} {Q:D→Prop} {QA:List D→Prop} {QB:Bool→Prop} {ca cb:DTT} {o:DO} {f f':D2} {h:D1} {x y d:D} {xs ys:List D} {i n:Nat} {N:DE} {t u:DS} {S:zQ} {a b c e:Int} {k:Bool}
theorem zix {o:Option D} {r:Env}:Env.at (o::r) 0=o:=by cases o <;> rfl
theorem ziy {o:Option D} {r:Env}:Env.at (o::r) (i+1)=Env.at r i:=rfl
theorem zdB:zP o ta tb ρ Q=ta ρ fun x=>tb ρ fun y=>o [x,y] Q:=rfl
theorem ziz:dUn o ta ρ Q=ta ρ fun x=>o [x] Q:=rfl
theorem Kw:dCall o tr ρ Q=tr ρ fun xs=>o xs Q:=rfl
theorem ziA:o2 f [x,y] Q=f x y Q:=rfl
theorem ziB:o1 h [x] Q=h x Q:=rfl
theorem zdC:zK ρ QA=QA []:=rfl
theorem Kz:zm ta tr ρ QA=ta ρ fun x=>tr ρ fun xs=>QA (x::xs):=rfl
theorem q_c:dC d ρ Q=Q d:=rfl
theorem zdD:dTup tr ρ Q=tr ρ fun ds=>ds.length≤1000∧Q (.tup ds):=rfl
theorem zdE:Z6 tr ρ Q=tr ρ fun ds=>ds.length≤1000∧Q (.con .l .o ds):=rfl
theorem zdF:zhe ta ρ QB=ta ρ fun d=>zkg d QB:=rfl
theorem q_if:dIf ca ta tb ρ Q=ca ρ fun k=>if k=true then ta ρ Q else tb ρ Q:=rfl
theorem KC:ztf ca cb ρ QB=ca ρ fun k=>if k=true then cb ρ QB else QB false:=rfl
theorem zdG:zhf ca cb ρ QB=ca ρ fun k=>if k=true then QB true else cb ρ QB:=rfl
theorem KD:zca ca ρ QB=ca ρ fun k=>QB (!k):=rfl
def bl? (d:D) (K:Bool→Prop):Prop:=match d with
 | .bl k=>K k
 | _=>False
theorem zdH {K:Bool→Prop}:bl? (.bl k) K=K k:=rfl
theorem zdI:zhg ta tb ρ Q=ta ρ fun x=>bl? x fun k=>if k=true then tb ρ Q else Q (.bl false):=by
 unfold zhg
 congr 1
 funext x
 unfold bl?
 split
 ·rfl
 ·rfl
 ·rename_i h1 h2
  split
  ·rename_i k
   cases k
   ·exact absurd rfl h2
   ·exact absurd rfl h1
  ·rfl
theorem ziC:dOr ta tb ρ Q=ta ρ fun x=>bl? x fun k=>if k=true then Q (.bl true) else tb ρ Q:=by
 unfold dOr
 congr 1
 funext x
 unfold bl?
 split
 ·rfl
 ·rfl
 ·rename_i h1 h2
  split
  ·rename_i k
   cases k
   ·exact absurd rfl h2
   ·exact absurd rfl h1
  ·rfl
theorem zdJ:ztg ta ρ Q=ta ρ fun x=>bl? x fun k=>Q (.bl (!k)):=by
 unfold ztg
 congr 1
theorem ziD:dB ta ρ QB=ta ρ fun x=>bl? x QB:=rfl
theorem YW:Ko f f' ta tb tc ρ Q=ta ρ fun x=>tb ρ fun y=>f x y fun z=>bl? z fun k=>if k=true then tc ρ fun w=>f' y w Q else Q (.bl false):=by
 unfold Ko
 congr 1
 funext x
 congr 1
 funext y
 congr 1
 funext z
 unfold bl?
 split
 ·rfl
 ·rfl
 ·rename_i h1 h2
  split
  ·rename_i k
   cases k
   ·exact absurd rfl h2
   ·exact absurd rfl h1
  ·rfl
def var? (o:Option D) (Q:D→Prop):Prop:=match o with
 | some d=>Q d.vw
 | none=>False
theorem zdK:zu i ρ Q=var? (Env.at ρ i) Q:=rfl
theorem ziE:var? (some d) Q=Q d.vw:=rfl
theorem ziF:dFn S tr ρ Q=tr ρ fun ds=>S (D.fzs ds) fun c=>Q (if D.fls ds=true then c else c.wk):=rfl
theorem zdL:XS (.int a) (.int b) Q=Q (.int (a+b)):=rfl
theorem KH {k1 k2:Fl}:XS (.lst k1 xs) (.lst k2 ys) Q=(xs.length+ys.length≤sizeLine∧Q (.con .l .o (xs++ys))):=rfl
theorem zdM:zcT (.int a) (.int b) Q=Q (.int (a - b)):=rfl
theorem zdN:znL (.int a) (.int b) Q=(MulOk a b∧Q (.int (a * b))):=rfl
theorem KJ:ztb (.int a) (.int b) Q=(zgL b∧Q (.int (a / b))):=rfl
theorem zdO:znM (.int a) (.int b) Q=(0 < b∧Q (.int (a % b))):=rfl
theorem zdP:zgq (.int a) Q=Q (.int (-a)):=rfl
theorem zdQ {p:Int→Int→Bool}:zex p (.int a) (.int b) Q=Q (.bl (p a b)):=rfl
theorem ziG {g:Bool→Bool}:eqO g x y Q=(Sh 60 x∧Sh 60 y∧Q (.bl (g (eqD x y)))):=rfl
theorem zbj {g:Bool→Bool}:isO g x .non Q=Q (.bl (g (isN x))):=by cases x <;> rfl
theorem KN:zte (.int a) (.int b) Q=Q (.int (if b < a then b else a)):=rfl
theorem KQ:ztd (.int a) (.int b) Q=Q (.int (if b > a then b else a)):=rfl
theorem KR:intD (.bl k) Q=Q (.int (if k then 1 else 0)):=rfl
theorem KY:intD (.int a) Q=Q (.int a):=rfl
theorem zdR:zN t u N ρ=t { N with nx:=u N} ρ:=rfl
theorem q_asg {g:G}:jr g te N ρ=te ρ fun d=>d.nb=true∧G.go g d ρ N.nx:=rfl
theorem zgs:G.go (.nm i) d ρ QE=QE (ρ.set i (some d)):=by simp [G.go]
theorem zdS:ZM te N ρ=te ρ fun d=>N.rt d.rt:=rfl
def zp6 (o:Option D) (Q:D→Prop):Prop:=match o with
 | some d=>Q d
 | none=>False
theorem KZ:zbi i N ρ=zp6 (Env.at ρ i) N.rt:=rfl
theorem ziH:zp6 (some d) Q=Q d:=rfl
theorem K6:zti N ρ=N.rt .non:=rfl
theorem zdT:X6 ca t u N ρ=ca ρ fun k=>if k=true then t N ρ else u N ρ:=rfl
theorem K7:Yq N ρ=N.nx ρ:=rfl
theorem K8:(yU Q).rt d=(d.np=true∧Q d):=rfl
theorem K9 {ρ:Env}:(yU Q).nx ρ=Q .non:=rfl
theorem zcg {j:Int}:ixD (.tup xs) (.int j) Q=zp6 (atI xs j) Q:=rfl
theorem zch {j:Int} {kk:Fl}:ixD (.con .l kk xs) (.int j) Q=zp6 (atI xs j) Q:=rfl
theorem zdU {g:Bool→Bool}:inO g x (.tup ys) Q=(Sh 60 x∧(∀ y∈ys,Sh 58 y)∧Q (.bl (g (ys.any fun z=>eqD z x)))):=by cases x <;> rfl
theorem zci {g:Bool→Bool} {kk:Fl}:inO g x (.con .l kk ys) Q=(Sh 60 x∧(∀ y∈ys,Sh 58 y)∧Q (.bl (g (ys.any fun z=>eqD z x)))):=by cases x <;> rfl
end
theorem Xg:bootBuiltins "len"=some (.builtin "len"):=by decide+kernel
theorem zoh:bootBuiltins "abs"=some (.builtin "abs"):=by decide+kernel
theorem zoi:bootBuiltins "max"=some (.builtin "max"):=by decide+kernel
theorem zho:bootBuiltins "all"=some (.builtin "all"):=by decide+kernel
theorem zoj:bootBuiltins "sum"=some (.builtin "sum"):=by decide+kernel
theorem zc1:bootBuiltins "sorted"=some (.builtin "sorted"):=by decide+kernel
theorem zok:bootBuiltins "int"=some (.type "int"):=by decide+kernel
theorem zcj:bootBuiltins "list"=some (.type "list"):=by decide+kernel
theorem zfk:bootBuiltins "tuple"=some (.type "tuple"):=by decide+kernel
theorem zlo:bootBuiltins "bool"=some (.type "bool"):=by decide+kernel
theorem zol:bootBuiltins "str"=some (.type "str"):=by decide+kernel
theorem zrQ:bootBuiltins "set"=some (.type "set"):=by decide+kernel
end DL
set_option maxHeartbeats 4000000
set_option exponentiation.threshold 50000
namespace DL
open PySem PySem.Spec PyProof.Rows L2
variable [Tb]
def Bd (n:Nat) (i:Int):Prop:=i.natAbs < 2 ^ n
theorem mok {i j:Int} (n m:Nat) (h:Bd n i) (h':Bd m j) (hn:n≤40000:=by decide) (hm:m≤40000:=by decide):MulOk i j:=⟨znK h hn,znK h' hm⟩
theorem ztj {α:Type} {x:α} {r:List α}:atI (x::r) 0=some x:=by
 unfold atI
 have:ixN (x::r).length 0=some 0:=by
  unfold ixN
  rw [if_pos (by omega),if_pos (by simp)]
  rfl
 rw [this]
 rfl
theorem Jm {α:Type} {r:List α} {i:Nat} (h:i < r.length):atI r (i:Int)=r[i]?:=by
 unfold atI
 have:ixN r.length (i:Int)=some i:=by
  unfold ixN
  rw [if_pos (by omega),if_pos (by omega)]
  simp
 rw [this]
 rfl
theorem zrR {α:Type} {x y:α} {r:List α}:atI (x::y::r) 1=some y:=Jm (r:=x::y::r) (i:=1) (by simp)
theorem zp7 {α:Type} {x y z:α} {r:List α}:atI (x::y::z::r) 2=some z:=Jm (r:=x::y::z::r) (i:=2) (by simp)
theorem zrS {α:Type} {x y z u:α} {r:List α}:atI (x::y::z::u::r) 3=some u:=Jm (r:=x::y::z::u::r) (i:=3) (by simp)
abbrev Pt:=Int×Int
def ptD (p:Pt):D:=.tup [.int p.1,.int p.2]
section
variable {p q a b:Pt} {Q:D→Prop} {k:Bool} {i j:Int} {d:D} {ds:List D}
theorem zdV:(ptD p).vw=ptD p:=rfl
theorem zdW:(ptD p).fz=ptD p:=rfl
theorem zdX:(ptD p).wk=ptD p:=rfl
theorem zdY:(ptD p).rt=ptD p:=rfl
theorem zdZ:(ptD p).nb=true:=rfl
theorem zd0:(ptD p).np=true:=rfl
theorem zd1:(ptD p).fl=true:=rfl
theorem zaa:(D.int i).vw=.int i:=rfl
theorem zab:(D.int i).fz=.int i:=rfl
theorem zac:(D.int i).wk=.int i:=rfl
theorem zad:(D.int i).rt=.int i:=rfl
theorem zae:(D.int i).nb=true:=rfl
theorem zaf:(D.int i).np=true:=rfl
theorem zag:(D.int i).fl=true:=rfl
theorem zd2:(D.bl k).vw=.bl k:=rfl
theorem zd3:(D.bl k).fz=.bl k:=rfl
theorem zd4:(D.bl k).wk=.bl k:=rfl
theorem zd5:(D.bl k).rt=.bl k:=rfl
theorem zd6:(D.bl k).nb=true:=rfl
theorem zd7:(D.bl k).np=true:=rfl
theorem zd8:(D.bl k).fl=true:=rfl
theorem zah:D.pen.vw=.pen:=rfl
theorem zai:D.pen.fz=.pen:=rfl
theorem zaj:D.pen.fl=true:=rfl
theorem zd9:D.fzs []=[]:=rfl
theorem zea:D.fzs (d::ds)=d.fz::D.fzs ds:=rfl
theorem zeb:D.fls []=true:=rfl
theorem zec:D.fls (d::ds)=(d.fl&&D.fls ds):=rfl
theorem zed:D.nbs []=true:=rfl
theorem zee:D.nbs (d::ds)=(d.nb&&D.nbs ds):=rfl
theorem zak:ixD (ptD p) (.int 0) Q=Q (.int p.1):=rfl
theorem zal:ixD (ptD p) (.int 1) Q=Q (.int p.2):=rfl
theorem ziI {K:Bool→Prop}:zkg (.bl k) K=K k:=rfl
theorem ziJ {K:Bool→Prop}:zkg (.int i) K=K (i != 0):=rfl
theorem ifT {P R:Prop}:(if true=true then P else R)=P:=if_pos rfl
theorem ifF {P R:Prop}:(if false=true then P else R)=R:=if_neg (by simp)
theorem ziK {x y:D}:(if true=true then x else y)=x:=if_pos rfl
theorem zck {n:Nat}:Sh (n+1) (ptD p):=by
 show Sh (n+1) (.tup [.int p.1,.int p.2])
 unfold Sh
 intro x hx
 simp at hx
 rcases hx with e | e <;> subst e <;> (unfold Sh; trivial)
theorem Jo {n:Nat}:Sh n (.int i):=by cases n <;> (unfold Sh; trivial)
theorem zcl {n:Nat}:Sh n (.bl k):=by cases n <;> (unfold Sh; trivial)
def eqP (a b:Pt):Bool:=decide (a.1=b.1)&&decide (a.2=b.2)
theorem Xw:eqD (.int i) (.int j)=decide (i=j):=by
 show PyData.eqv (.int i) (.int j)=_
 simp [PyData.eqv]
 rfl
theorem zam:eqD (ptD a) (ptD b)=eqP a b:=by
 show PyData.eqv (.tuple [.int a.1,.int a.2]) (.tuple [.int b.1,.int b.2])=_
 simp [PyData.eqv,PyData.eqvAll,eqP]
 rfl
theorem ziL {it:DTI} {vs:List Nat} {g:G} {tt:DTT} {te:DT} {ρ:Env}:dLc it vs g tt te ρ Q=it ρ fun ds=>ds.length≤1000000∧Qo g tt te (yF ρ vs) ds [] fun ys=>Q (.con .l .o ys):=rfl
theorem ztk {g:G} {tt:DTT} {te:DT} {ρ:Env} {acc:List D} {QA:List D→Prop}:Qo g tt te ρ (d::ds) acc QA=G.go g d ρ fun ρ2=>tt ρ2 fun b=>if b=true then te ρ2 fun y=>Qo g tt te ρ ds (acc++[y]) QA else Qo g tt te ρ ds acc QA:=rfl
theorem zef {ρ:Env} {K:Bool→Prop}:ZP ρ K=K true:=rfl
def zp8 (o:Option (List D)) (K:List D→Prop):Prop:=match o with
 | some ds=>K ds
 | none=>False
theorem zeg {K:List D→Prop}:zp8 (some ds) K=K ds:=rfl
theorem zan {f:D→Option (List D)} {t:DT} {ρ:Env} {K:List D→Prop}:qK f t ρ K=t ρ fun d=>zp8 (f d) K:=rfl
theorem zao {ρ:Env}:yF ρ []=ρ:=rfl
theorem zap {ρ:Env} {i:Nat} {r:List Nat}:yF ρ (i::r)=(yF ρ r).set i none:=rfl
theorem zaq {x:Bool}:(if k=true then Q (.bl x) else Q (.bl false))=Q (.bl (k&&x)):=by cases k <;> rfl
theorem zar {x:Bool}:(if k=true then Q (.bl true) else Q (.bl x))=Q (.bl (k||x)):=by cases k <;> rfl
def leP (a b:Pt):Bool:=!(decide (b.1 < a.1)||(!decide (a.1 < b.1)&&decide (b.2 < a.2)))
theorem zrT:leD (ptD a) (ptD b)=leP a b:=by
 show (!PyProof.Rows.lexLt PyProof.Rows.itemOrd (PySem.W.keyToks (.tuple [.int b.1,.int b.2])) (PySem.W.keyToks (.tuple [.int a.1,.int a.2])))=_
 simp [PySem.W.keyToks,PySem.W.keyToksAll,PyProof.Rows.lexLt,PyProof.Rows.itemOrd,PyProof.Rows.itemLt,leP]
theorem zmA:ZG (ptD a) (ptD b)=true:=by
 show PySem.W.alike (.tuple [.int a.1,.int a.2]) (.tuple [.int b.1,.int b.2])=true
 simp [PySem.W.alike,PySem.W.alikeAll]
theorem zom (ps:List Pt):(ps.map ptD).mergeSort leD=(ps.mergeSort leP).map ptD:=(List.map_mergeSort (r:=leP) (s:=leD) (f:=ptD) (l:=ps) (fun a _ b _=>(@zrT _ a b).symm)).symm
theorem zhp:∀ ps:List Pt,D.nos (ps.map ptD)=true
 | []=>rfl
 | p::ps=>by
  show (D.no (ptD p)&&D.nos (ps.map ptD))=true
  rw [zhp ps]
  rfl
theorem zko (ps:List Pt):QL (ps.map ptD):=by
 refine ⟨fun x hx y hy=>?_,.inl fun x hx=>?_⟩
 ·obtain ⟨a,_,rfl⟩:=List.mem_map.mp hx
  obtain ⟨b,_,rfl⟩:=List.mem_map.mp hy
  exact zmA
 ·obtain ⟨a,_,rfl⟩:=List.mem_map.mp hx
  exact ⟨_,_,rfl⟩
theorem zrU {n:Nat} (ps:List Pt):∀ x∈ps.map ptD,Sh (n+1) x:=fun x hx=>by
 obtain ⟨a,_,rfl⟩:=List.mem_map.mp hx
 exact zck
theorem zp9 (ps:List Pt):ze8 (.tup (ps.map ptD)) Q=Q (.con .l .o ((ps.mergeSort leP).map ptD)):=by
 show ((∀ x∈ps.map ptD,Sh 50 x)∧D.nos (ps.map ptD)=true∧QL (ps.map ptD)∧Q (.con .l .o ((ps.map ptD).mergeSort leD)))=_
 rw [zom]
 exact propext ⟨fun h=>h.2.2.2,fun h=>⟨zrU ps,zhp ps,zko ps,h⟩⟩
theorem Y7:ze8 (.tup [ptD a,ptD b]) Q=Q (.con .l .o (([a,b].mergeSort leP).map ptD)):=zp9 [a,b]
theorem items2:zW (.tup [ptD a,ptD b])=some [ptD a,ptD b]:=rfl
theorem zlp:∀ ps:List Pt,D.vws (ps.map ptD)=ps.map ptD
 | []=>rfl
 | p::ps=>by
  show (ptD p).vw::D.vws (ps.map ptD)=_
  rw [zlp ps]
  rfl
theorem zhq:∀ ps:List Pt,D.fzs (ps.map ptD)=ps.map ptD
 | []=>rfl
 | p::ps=>by
  show (ptD p).fz::D.fzs (ps.map ptD)=_
  rw [zhq ps]
  rfl
theorem zlq:∀ ps:List Pt,D.rts (ps.map ptD)=ps.map ptD
 | []=>rfl
 | p::ps=>by
  show (ptD p).rt::D.rts (ps.map ptD)=_
  rw [zlq ps]
  rfl
theorem zlr:∀ ps:List Pt,D.nbs (ps.map ptD)=true
 | []=>rfl
 | p::ps=>by
  show ((ptD p).nb&&D.nbs (ps.map ptD))=true
  rw [zlr ps]
  rfl
theorem zls:∀ ps:List Pt,D.nps (ps.map ptD)=true
 | []=>rfl
 | p::ps=>by
  show ((ptD p).np&&D.nps (ps.map ptD))=true
  rw [zls ps]
  rfl
section
variable {ps:List Pt}
theorem zeh:(D.lst .o (ps.map ptD)).vw=.con .l .b (ps.map ptD):=by
 show D.lst .b (D.vws (ps.map ptD))=_
 rw [zlp]
theorem zei:(D.lst .f (ps.map ptD)).vw=.con .l .f (ps.map ptD):=rfl
theorem zej {k:Fl}:(D.lst k (ps.map ptD)).fz=.con .l .f (ps.map ptD):=by
 cases k
 ·show D.lst .f (D.fzs (ps.map ptD))=_
  rw [zhq]
 ·rfl
 ·show D.lst .f (D.fzs (ps.map ptD))=_
  rw [zhq]
theorem zek:(D.lst .o (ps.map ptD)).rt=.con .l .o (ps.map ptD):=by
 show D.lst .o (D.rts (ps.map ptD))=_
 rw [zlq]
theorem zel:(D.lst .o (ps.map ptD)).nb=true:=by
 show D.nbs (ps.map ptD)=true
 exact zlr ps
theorem zem {k:Fl}:(D.lst k (ps.map ptD)).np=true:=zls ps
theorem zen:zW (.con .l .o (ps.map ptD))=some (ps.map ptD):=by
 show (if D.nos (ps.map ptD)=true then _ else _)=_
 rw [if_pos (zhp ps)]
theorem zeo:zW (.con .l .b (ps.map ptD))=some (ps.map ptD):=rfl
theorem zep:zW (.con .l .f (ps.map ptD))=some (ps.map ptD):=rfl
end
theorem filter_all {α:Type} (xs:List α):xs.filter (fun _=>true)=xs:=List.filter_eq_self.mpr fun _ _=>rfl
theorem zfl {α:Type} {g:G} {tt:DTT} {te:DT} {ρ:Env} {f:α→D} {t:α→Bool} {h:α→D} {QA:List D→Prop}:∀ (xs:List α) {acc:List D},(∀ x∈xs,∀ (K1:D→Prop) (K2:Prop),(if t x=true then K1 (h x) else K2)→G.go g (f x) ρ fun ρ2=>tt ρ2 fun k=>if k=true then te ρ2 K1 else K2)→
  QA (acc++(xs.filter t).map h)→Qo g tt te ρ (xs.map f) acc QA
 | [],acc,_,q=>by simpa [Qo] using q
 | x::xs,acc,st,q=>by
  show Qo g tt te ρ (f x::xs.map f) acc QA
  rw [ztk]
  refine st x (List.mem_cons_self ..) _ _ ?_
  by_cases e:t x=true
  ·rw [if_pos e]
   refine zfl xs (fun y hy=>st y (List.mem_cons_of_mem _ hy)) ?_
   rw [List.filter_cons,if_pos e] at q
   simpa using q
  ·rw [if_neg e]
   refine zfl xs (fun y hy=>st y (List.mem_cons_of_mem _ hy)) ?_
   rw [List.filter_cons,if_neg e] at q
   exact q
theorem zrV {α:Type} {g:G} {te:DT} {ρ:Env} {f:α→D} {h:α→D} {QA:List D→Prop} (xs:List α) {acc:List D} (st:∀ x∈xs,∀ K1:D→Prop,K1 (h x)→G.go g (f x) ρ fun ρ2=>te ρ2 K1) (q:QA (acc++xs.map h)):Qo g ZP te ρ (xs.map f) acc QA:=by
 refine zfl (t:=fun _=>true) (h:=h) xs (fun x hx K1 K2 k=>?_) (by rw [filter_all]; exact q)
 rw [if_pos rfl] at k
 have:=st x hx K1 k
 simpa [ZP] using this
theorem zhr {α:Type} (g:α→Bool):∀ xs:List α,za9 (xs.map fun x=>D.bl (g x))=some (xs.map g)
 | []=>rfl
 | x::xs=>by
  show (za9 (xs.map fun x=>D.bl (g x))).map (g x::·)=_
  rw [zhr g xs]
  rfl
theorem zas {α:Type} {g:α→Bool} {xs:List α} {kk:Fl}:zuj (.con .l kk (xs.map fun x=>.bl (g x))) Q=Q (.bl (xs.any g)):=by
 show (match za9 (xs.map fun x=>D.bl (g x)) with | some bs=>Q (.bl (bs.any id)) | none=>False)=_
 rw [zhr]
 simp
theorem QS {α:Type} {g:α→Bool} {xs:List α} {kk:Fl}:ze7 (.con .l kk (xs.map fun x=>.bl (g x))) Q=Q (.bl (xs.all g)):=by
 show (match za9 (xs.map fun x=>D.bl (g x)) with | some bs=>Q (.bl (bs.all id)) | none=>False)=_
 rw [zhr]
 simp
end
end DL
set_option maxHeartbeats 4000000
set_option exponentiation.threshold 50000
namespace DL
open PySem PySem.Spec PyProof.Rows L2
variable [Tb]
def zon (K:PySem.W.Frag):Sp:=fun vs H Q _=>∃ (a:Addr) (ns:List Int),vs=[.ref a]∧SqL K H a (ns.map V.int)∧ns.length≤63∧
 ∀ (H':Hp) (p l:Addr) (s:Int),Gr [] H H'→H p=none→H l=none→p≠l→0≤s→s < 2147483648→H' p=some (.lst [.ref l,.int 0,.int 0,.int s])→H' l=some (.lst (ns.map V.int))→Q (.ref p) H'
def zcm (P:Program) (w:World) (K:PySem.W.Frag) (mg:Str→Option Value) (base:Heap) (k:Nat) (x:Str):Prop:=
 ∃ f fd ps,FnOk P w K mg base CX0 k f fd ps (zon K)∧mg x=some (.ref f)∧PySem.W.keepIn K (.ref f)=true∧Binds K fd ps []
def zoo (i j:Nat):DS:=fun N ρ=>∃ (kk:Fl) (ns:List Int),Env.at ρ j=some (.con .l kk (ns.map D.int))∧ns.length≤63∧N.nx (ρ.set i (some .pen))
section
variable {K:PySem.W.Frag} {P:zR} {M B L:List Addr} {H H':Hp} {σ:Sg} {ρ:Env} {v:V} {d:D} {vs:List V} {ds:List D} {E:Ends}
theorem zc2:∀ {ns:List Int} {vs:List V} {L:List Addr},zf K P M B H vs (ns.map D.int) L→vs=ns.map V.int
 | [],_,_,r=>by cases r; rfl
 | n::ns,_,_,r=>by
  cases r with
  | cons h r=>
   obtain ⟨rfl,_⟩:=h.int_inv
   rw [zc2 r]
   rfl
theorem zc3:∀ (ns:List Int),zf K P M B H (ns.map V.int) (ns.map D.int) []
 | []=>.nil
 | n::ns=>by
  have:=zf.cons (K:=K) (P:=P) (M:=M) (B:=B) (H:=H) (.int (i:=n)) (zc3 ns)
  simpa using this
theorem SqF.more {N:List Addr} {p:Addr} {a:Addr} {xs:List V} (h:SqF K N H a xs) (hp:H p=none):SqF K (p::N) H a xs:=by
 rcases h with ⟨h,n⟩ | h
 ·refine .inl ⟨h,fun z=>?_⟩
  rcases List.mem_cons.mp z with e | z
  ·subst e
   rcases h with h | ⟨o,h⟩
   ·rw [h] at hp; cases hp
   ·rw [h] at hp; cases hp
  ·exact n z
 ·exact .inr h
theorem SqC.more {c:Ct} {N:List Addr} {p:Addr} {a:Addr} {xs:List V} (h:SqC K N H c a xs) (hp:H p=none):SqC K (p::N) H c a xs:=by
 rcases h.to with ⟨ok,⟨dx,r⟩,n⟩ | q
 ·refine .of (.inl ⟨ok,⟨dx,r⟩,fun z=>?_⟩) h.z
  rcases List.mem_cons.mp z with e | z
  ·subst e
   rcases r with r | ⟨o,r⟩ <;> (rw [r] at hp; cases hp)
  ·exact n z
 ·exact .of (.inr q) h.z
theorem TpT.ztl {a:Addr} {xs:List V} (g:Gr [] H H') (h:TpT K H a xs):TpT K H' a xs:=g _ _ h (fun z=>nomatch z)
mutual
theorem Rep.zeq {p l:Addr} (g:Gr [] H H') (hp:H p=none):∀ {v:V} {d:D} {L:List Addr},Rep K P M B H v d L→Rep K ((p,l)::P) M B H' v d L
 | _,_,_,.non=>.non
 | _,_,_,.bl=>.bl
 | _,_,_,.int=>.int
 | _,_,_,.str=>.str
 | _,_,_,.pen h=>.pen (List.mem_cons_of_mem _ h)
 | _,_,_,.tup q r=>.tup (TpT.ztl g q) (zf.zeq g hp r)
 | _,_,_,.exc hl hx r p=>Rep.znI g (fun _ z=>nomatch z) hl hx r p
 | _,_,_,.lstF q r f=>.lstF (SqC.gr (SqC.more q hp) g (fun _ z=>nomatch z) (fun _ z=>.inl z)) (zf.zeq g hp r) f
 | _,_,_,.lstB q r=>.lstB (SqC.gr (SqC.more q hp) g (fun _ z=>nomatch z) (fun _ z=>.inl z)) (zf.zeq g hp r)
 | _,_,_,.lstO q m r=>.lstO (q.gr g (fun z=>nomatch z)) (fun z=>by
   rcases List.mem_cons.mp z with e | z
   ·have t:=q.mo.trk
    rw [e] at t
    exact absurd hp t
   ·exact m z) (zf.zeq g hp r)
theorem zf.zeq {p l:Addr} (g:Gr [] H H') (hp:H p=none):∀ {vs:List V} {ds:List D} {L:List Addr},zf K P M B H vs ds L→zf K ((p,l)::P) M B H' vs ds L
 | _,_,_,.nil=>.nil
 | _,_,_,.cons r rs=>.cons (Rep.zeq g hp r) (zf.zeq g hp rs)
end
theorem Gr.of0 {N:List Addr} (g:Gr [] H H'):Gr N H H':=⟨fun b o h _=>g b o h (fun z=>nomatch z),g.tab⟩
theorem zop {X:Cx} {i j:Nat} (h:qD X (zoo i j) E σ H):tAsg (tCall (zon X.K) [] E0 (tCons (tVar j) tNil)) (gName i) E σ H:=by
 obtain ⟨P,M,B,ρ,N,s,sl,e,⟨kk,ns,e0,hlen,q⟩,f⟩:=h
 obtain ⟨v,L,e1,r,_⟩:=sl.get (Env.zbQ e0)
 obtain ⟨a,us,L',rfl,hq,rs,_⟩:=r.lst_inv
 have eu:=zc2 rs
 subst eu
 refine ⟨_,e1,a,ns,rfl,hq,hlen,fun H' p l sd g hp hl pl h0 h1 ep el=>?_⟩
 have g':Gr P.as H H':=g.of0
 have np:p∉P.as:=fun z=>by
  obtain ⟨ys,q⟩:=s.lists p z
  rw [q] at hp; cases hp
 have nl:l∉P.as:=fun z=>by
  obtain ⟨ys,q⟩:=s.lists l z
  rw [q] at hl; cases hl
 have nM:p∉M:=fun z=>s.trk p z hp
 have nM2:l∉M:=fun z=>s.trk l z hl
 have ok':zF ((p,l)::P) M H':=fun a' l' hm=>by
  rcases List.mem_cons.mp hm with z | z
  ·injection z with z1 z2
   subst z1 z2
   exact ⟨nM,nM2,fun z=>(List.mem_cons.mp z).elim (fun w=>pl w.symm) nl,ns,0,0,sd,ep,el,Int.le_refl _,Int.le_refl _,h0,h1,hlen⟩
  ·obtain ⟨n1,n2,n3,ns',i',b',s',q1,q2,r'⟩:=s.zM a' l' z
   refine ⟨n1,n2,fun w=>?_,ns',i',b',s',g a' _ q1 (fun w=>nomatch w),g l' _ q2 (fun w=>nomatch w),r'⟩
   rcases List.mem_cons.mp w with w | w
   ·rw [w,hp] at q2; cases q2
   ·exact n3 w
 have a1:yJ P M B H ((p,l)::P) M H':=⟨fun b o hb _ _=>g b o hb (fun z=>nomatch z),fun x hx=>List.mem_cons_of_mem _ hx,fun b z=>by
   rcases List.mem_cons.mp z with w | w
   ·exact .inr (.inl (w ▸ hp))
   ·exact .inl w,fun _ z=>.inl z,fun b hb z=>hb (by
   cases hc:H b with
   | none=>rfl
   | some o=>exact absurd z (g b o hc (fun w=>nomatch w)).trk),g.tab⟩
 have s1:Stt ((p,l)::P) M B H':=⟨ok',s.sub,fun b z=>(s.ls b z).gr g (fun w=>nomatch w),fun x z=>g.tab _ _ z (s.tabs x z)⟩
 have slx:qN X.K ((p,l)::P) M B H' σ ρ ([]++[]):=by
  obtain ⟨hl',F,f1,f2,f3,f4⟩:=sl
  refine ⟨hl',F,fun i d e=>?_,f2,f3,f4,fun _ _ _ z=>nomatch z⟩
  obtain ⟨v,e1,r⟩:=f1 i d e
  exact ⟨v,e1,Rep.zeq g hp r⟩
 have sl2:=qN.set (L:=[]) (R:=[]) (v:=.ref p) (d:=.pen) slx (.pen (List.mem_cons_self ..)) (fun _ z=>nomatch z) List.nodup_nil (fun _ z=>nomatch z) i
 refine f.nx _ _ _ _ _ q a1 s1 sl2.s fun k d' z=>?_
 rw [List.getElem?_set] at z
 by_cases hk:i=k
 ·subst hk
  rw [if_pos rfl] at z
  split at z
  ·injection z with z; injection z with z
   rw [← z]; rfl
  ·cases z
 ·rw [if_neg hk] at z
  exact e k d' z
end
section
variable {X:Cx} {x y:Str} {px py pp pos spos:Pos} {k:Nat}
theorem ztm (i j:Nat) (F:zcm X.prog X.w X.K X.mg X.base k "_law_pen") (hr:Room k X.A) (hN:X.N.Nodup) (hi:X.N[i]?=some x:=by rfl) (hx:Loc X.env.scope x:=by first | exact Or.inl rfl | exact Or.inr rfl) (hf:X.fn x=true∨X.env.scope.names.lookup x=some .local:=by first | exact .inl rfl | exact .inr rfl)
  (hj:X.N[j]?=some y:=by rfl) (hv:Vis X.env.scope y:=by first | exact Or.inl rfl | exact Or.inr (Or.inl rfl) | exact Or.inr (Or.inr rfl)) (hd:(y == ("__debug__":Str))=false:=by decide) (hcd:(y == ("__classdict__":Str))=false:=by decide)
  (hg:Gl X "_law_pen":=by rfl) (he:starEach [.Name y py] X.env=(false,eval (.Name y py) X.env)::starEach [] X.env:=by rfl) (hpl:(backTo pos (starEach [] X.env)).any (·.1)=false:=by rfl)
  (hs:swapsWith (.Call (.Name "_law_pen" pp) [.Name y py] [] pos) (some (.Name x px)) spos.line X.env=pure false:=by rfl):PDS X (.Assign [.Name x px] (.Call (.Name "_law_pen" pp) [.Name y py] [] pos) spos) (zoo i j):=by
 obtain ⟨f,fd,ps,F,a,b,c⟩:=F
 exact mPS (ps_set hN hi hx (pe_call F hr hg a b c .nil (E:=E0) (CX:=CX0) pass0 (pa_cons (pv j hj hv hd hcd) pa_nil he) (by decide) he hpl) hs hf) fun _ _ _ h=>zop h
end
def zU:zQ:=fun ds Q=>∃ n:Int,ds=[.pen,.int n]∧0 < n∧n.natAbs < 2 ^ 2000∧∀ r:Int,0≤r→r < n→Q (.int r)
end DL
set_option maxHeartbeats 4000000
set_option exponentiation.threshold 50000
namespace DL
open PySem PySem.Spec PyProof.Rows L2
variable [Tb]
def zrg:V→V→Hp→VK→Prop:=fun o i H Q=>∃ p xs k v,o=.ref p∧i=.int k∧0≤k∧k < 2 ^ 63∧H p=some (.lst xs)∧xs[k.toNat]?=some v∧Q v H
theorem zmB {X:Cx}:PGet X zrg:=by
 intro pins s σ H o i ov iv Q I ro ri h
 obtain ⟨p,xs,k,v,rfl,rfl,h0,h1,hp,hv,q⟩:=h
 cases ro
 obtain ⟨t,rfl⟩:=ri
 obtain ⟨its,r,pl,hz⟩:=I.list (.inl (.inl hp))
 obtain ⟨u,eu,ru⟩:=r.get hv
 exact getItem_listL pl.isList h0 h1 eu ⟨v,H,I,ru,q⟩
def pAt (K:PySem.W.Frag) (j:Int):TE:=tOp (rIxL K) (tVar 0) (tC (.int j))
abbrev Ja:R2:=rI0 fun i j=>.int (i+j)
abbrev Qt:R2:=rI CMulW fun i j=>.int (i * j)
abbrev Xn:R2:=rI (fun _ j=>0 < j) fun i j=>.int (i % j)
abbrev zlt:R2:=rI CDivW fun i j=>.int (i / j)
abbrev ztn:R2:=rI CPow fun i j=>.int (i ^ j.toNat)
abbrev zuo:R2:=rI0 fun i j=>.bl (decide (i < j))
abbrev zto:R2:=rI0 fun i j=>.bl (decide (j < i))
abbrev zup:R2:=rI0 fun i j=>.bl (decide (j≤i))
def zgQ (K:PySem.W.Frag):TS:=
 tSeq (tIfS (tAnd (tTest (tOp rEq (pAt K 2) (tC (.int 0)))) (tTest (tOp zuo (pAt K 1) (tCB (fun xs H Q=>∃ x n,xs=[x]∧LenV K x H n∧Q (.int n) H) (tCons (pAt K 0) tNil)))))
  (tSeq (tAsg (tOp (rIxL K) (pAt K 0) (pAt K 1)) (gName 2))
   (tSeq (tAugS (tVar 0) (tC (.int 1)) (tC (.int 1)) zrg (ipI fun i j=>i+j) rSetL)
    (tIfS (tTest (tOp zup (tVar 2) (tOp ztn (tC (.int 10)) (tC (.int 18)))))
     (tAsg (tVar 2) (gSub (tVar 0) (tC (.int 2)) rSetL))
     (tSeq (tAsg (tOp Ja (tOp Qt (tOp Xn (tVar 2) (tC (.int 2147483477))) (tC (.int 40487))) (tOp Qt (tC (.int 3)) (pAt K 1))) (gName 3))
      (tAsg (tOp Xn (tOp Ja (tOp Qt (pAt K 3) (tC (.int 52501))) (tVar 3)) (tC (.int 2147483647))) (gSub (tVar 0) (tC (.int 3)) rSetL))))))
  tNext)
 (tSeq (tIfS (tTest (tOp zto (pAt K 2) (tC (.int 0))))
  (tSeq (tAsg (tOp Xn (pAt K 2) (tVar 1)) (gName 4))
   (tSeq (tAsg (tOp zlt (pAt K 2) (tVar 1)) (gSub (tVar 0) (tC (.int 2)) rSetL)) (tRet (tVar 4)))) tNext)
 (tSeq (tAsg (pAt K 3) (gName 5))
 (tSeq (tAsg (tOp Xn (tOp Qt (tVar 5) (tVar 5)) (tC (.int 2147483587))) (gName 6))
 (tSeq (tAsg (tOp Xn (tOp Ja (tOp Ja (tOp Qt (tVar 6) (tC (.int 23))) (tOp Qt (tVar 5) (tC (.int 16807)))) (tC (.int 9176))) (tC (.int 2147483647))) (gName 5))
 (tSeq (tAsg (tOp Xn (tOp Ja (tOp Ja (tOp Qt (tVar 5) (tC (.int 69069))) (tOp Xn (pAt K 3) (tC (.int 4099)))) (tC (.int 1))) (tC (.int 2147483647))) (gSub (tVar 0) (tC (.int 3)) rSetL))
  (tRet (tOp Xn (tOp Ja (tOp zlt (tVar 5) (tC (.int 83))) (tOp Qt (tOp Xn (tVar 5) (tC (.int 5003))) (tC (.int 41)))) (tVar 1))))))))
section
variable {K:PySem.W.Frag} {H:Hp} {σ:Sg} {Q:VK} {a l:Addr}
theorem Xh {xs:List V} {j:Int} {v:V} (h0:σ[0]?=some (some (.ref a))) (hp:H a=some (.lst xs)) (hv:atI xs j=some v) (q:Q v H):pAt K j σ H Q:=
 ⟨.ref a,h0,a,xs,j,v,rfl,rfl,.inl (.inl hp),hv,q⟩
theorem Z7 {C:Int→Int→Prop} {f:Int→Int→V} {ta tb:TE} {i j:Int} (ha:∀ Q:VK,Q (.int i) H→ta σ H Q) (hb:∀ Q:VK,Q (.int j) H→tb σ H Q) (c:C i j) (q:Q (f i j) H):tOp (rI C f) ta tb σ H Q:=
 ha _ (hb _ ⟨i,j,rfl,rfl,c,q⟩)
theorem zer {f:Int→Int→V} {ta tb:TE} {i j:Int} (ha:∀ Q:VK,Q (.int i) H→ta σ H Q) (hb:∀ Q:VK,Q (.int j) H→tb σ H Q) (q:Q (f i j) H):tOp (rI0 f) ta tb σ H Q:=
 ha _ (hb _ ⟨i,j,rfl,rfl,q⟩)
theorem ZQ {v:V} (q:Q v H):tC v σ H Q:=q
theorem Jb {i:Nat} {v:V} (h:σ[i]?=some (some v)) (q:Q v H):tVar i σ H Q:=⟨v,h,q⟩
end
/-- the pen at a as it may stand behind a while -/
def ziM (H:Hp) (a l:Addr) (ns:List Int) (H':Hp):Prop:=∃ i b s:Int,0≤i∧0≤b∧0≤s∧s < 2147483648∧H' a=some (.lst [.ref l,.int i,.int b,.int s])∧∀ x,x≠a→H' x=H x
def sgP (a:Addr) (n:Int) (r:List (Option V)):L2.St:=some (.ref a)::some (.int n)::r
section
variable {K:PySem.W.Frag} {H H':Hp} {a l:Addr} {ns:List Int} {n:Int} {r:List (Option V)}
theorem ziM.set (w:ziM H a l ns H') {i b s:Int} (h1:0≤i) (h2:0≤b) (h3:0≤s) (h4:s < 2147483648):ziM H a l ns (upd H' a (.lst [.ref l,.int i,.int b,.int s])):=by
 obtain ⟨_,_,_,_,_,_,_,_,e⟩:=w
 exact ⟨i,b,s,h1,h2,h3,h4,upd_same,fun x hx=>by rw [upd_ne hx]; exact e x hx⟩
theorem ztp {i:Int} (h1:0≤i) (h2:i < 18446744073709551616):Bd 64 i:=by
 unfold Bd
 omega
theorem mw {i j:Int} (h1:0≤i) (h2:i < 18446744073709551616) (h3:0≤j) (h4:j < 18446744073709551616):CMulW i j:=(mok 64 64 (ztp h1 h2) (ztp h3 h4)).w
theorem zhs {i j:Int} (h:0 < j):0≤i % j∧i % j < j:=⟨Int.emod_nonneg i (by omega),Int.emod_lt_of_pos i h⟩
/-- pen[j]=e,a number -/
theorem zeU {D:L2.St→Hp→Prop} {j:Int} {m:Nat} {v:V} {xs:List V} (hp:H' a=some (.lst xs)) (hj:ixN xs.length j=some m) (q:D (sgP a n r) (upd H' a (.lst (xs.set m v)))):gSub (tVar 0) (tC (.int j)) rSetL v (sgP a n r) H' D:=
 ⟨.ref a,rfl,a,xs,j,m,rfl,rfl,hp,hj,q⟩
theorem ix4 {α:Type} {x0 x1 x2 x3:α}:ixN [x0,x1,x2,x3].length 1=some 1∧ixN [x0,x1,x2,x3].length 2=some 2∧ixN [x0,x1,x2,x3].length 3=some 3:=⟨rfl,rfl,rfl⟩
theorem zcn {Q:VK} (hn:0 < n) (hn2:n.natAbs < 2 ^ 2000) (hl:r.length=5) (w:ziM H a l ns H') (fin:∀ H' (t:Int),ziM H a l ns H'→0≤t→t < n→Q (.int t) H'):
  tSeq (tIfS (tTest (tOp zto (pAt K 2) (tC (.int 0))))
  (tSeq (tAsg (tOp Xn (pAt K 2) (tVar 1)) (gName 4))
   (tSeq (tAsg (tOp zlt (pAt K 2) (tVar 1)) (gSub (tVar 0) (tC (.int 2)) rSetL)) (tRet (tVar 4)))) tNext)
 (tSeq (tAsg (pAt K 3) (gName 5))
 (tSeq (tAsg (tOp Xn (tOp Qt (tVar 5) (tVar 5)) (tC (.int 2147483587))) (gName 6))
 (tSeq (tAsg (tOp Xn (tOp Ja (tOp Ja (tOp Qt (tVar 6) (tC (.int 23))) (tOp Qt (tVar 5) (tC (.int 16807)))) (tC (.int 9176))) (tC (.int 2147483647))) (gName 5))
 (tSeq (tAsg (tOp Xn (tOp Ja (tOp Ja (tOp Qt (tVar 5) (tC (.int 69069))) (tOp Xn (pAt K 3) (tC (.int 4099)))) (tC (.int 1))) (tC (.int 2147483647))) (gSub (tVar 0) (tC (.int 3)) rSetL))
  (tRet (tOp Xn (tOp Ja (tOp zlt (tVar 5) (tC (.int 83))) (tOp Qt (tOp Xn (tVar 5) (tC (.int 5003))) (tC (.int 41)))) (tVar 1)))))))
   { nx:=fun _ H'=>Q .non H',rt:=Q} (sgP a n r) H':=by
 match r,hl with
 | [x2,x3,x4,x5,x6],_=>
  have w0:=w
  obtain ⟨i,b,s,hi,hb,hs,hs2,hp,he⟩:=w
  refine Xh rfl hp zp7 (ZQ ⟨b,0,rfl,rfl,_,rfl,?_⟩)
  refine ite2 (fun h=>?_) (fun h=>?_)
  ·have m:=zhs (i:=b) hn
   refine Z7 (i:=b) (j:=n) (fun Q q=>Xh rfl hp zp7 q) (fun Q q=>Jb rfl q) hn ?_
   refine Z7 (i:=b) (j:=n) (fun Q q=>Xh rfl hp zp7 q) (fun Q q=>Jb rfl q) (zgL.w ⟨hn,hn2⟩) ?_
   refine zeU (r:=[x2,x3,some (.int (b % n)),x5,x6]) hp ix4.2.1 ?_
   exact ⟨_,rfl,fin _ _ (w0.set hi (Int.ediv_nonneg hb (by omega)) hs hs2) m.1 m.2⟩
  ·refine Xh rfl hp zrS ?_
   have m1:=zhs (i:=s * s) (j:=2147483587) (by decide)
   refine Z7 (i:=s * s) (j:=2147483587) (fun Q q=>Z7 (i:=s) (j:=s) (fun Q q=>Jb rfl q) (fun Q q=>Jb rfl q) (mw hs (by omega) hs (by omega)) q) (fun Q q=>ZQ q) (by decide) ?_
   generalize s * s % 2147483587=u at m1 ⊢
   refine Z7 (i:=u * 23+s * 16807+9176) (j:=2147483647) (fun Q q=>zer (i:=u * 23+s * 16807) (j:=9176) (fun Q q=>zer (i:=u * 23) (j:=s * 16807) (fun Q q=>Z7 (i:=u) (j:=23) (fun Q q=>Jb rfl q) (fun Q q=>ZQ q) (mw m1.1 (by omega) (by decide) (by decide)) q)
    (fun Q q=>Z7 (i:=s) (j:=16807) (fun Q q=>Jb rfl q) (fun Q q=>ZQ q) (mw hs (by omega) (by decide) (by decide)) q) q) (fun Q q=>ZQ q) q) (fun Q q=>ZQ q) (by decide) ?_
   have m2:=zhs (i:=u * 23+s * 16807+9176) (j:=2147483647) (by decide)
   generalize (u * 23+s * 16807+9176) % 2147483647=t at m2 ⊢
   have m3:=zhs (i:=s) (j:=4099) (by decide)
   refine Z7 (i:=t * 69069+s % 4099+1) (j:=2147483647) (fun Q q=>zer (i:=t * 69069+s % 4099) (j:=1) (fun Q q=>zer (i:=t * 69069) (j:=s % 4099) (fun Q q=>Z7 (i:=t) (j:=69069) (fun Q q=>Jb rfl q) (fun Q q=>ZQ q) (mw m2.1 (by omega) (by decide) (by decide)) q)
    (fun Q q=>Z7 (i:=s) (j:=4099) (fun Q q=>Xh rfl hp zrS q) (fun Q q=>ZQ q) (by decide) q) q) (fun Q q=>ZQ q) q) (fun Q q=>ZQ q) (by decide) ?_
   have m4:=zhs (i:=t * 69069+s % 4099+1) (j:=2147483647) (by decide)
   refine zeU (r:=[x2,x3,x4,some (.int t),some (.int u)]) hp ix4.2.2 ?_
   have m5:=zhs (i:=t) (j:=5003) (by decide)
   have m6:=zhs (i:=t / 83+t % 5003 * 41) hn
   refine Z7 (i:=t / 83+t % 5003 * 41) (j:=n) (fun Q q=>zer (i:=t / 83) (j:=t % 5003 * 41) (fun Q q=>Z7 (i:=t) (j:=83) (fun Q q=>Jb rfl q) (fun Q q=>ZQ q) (zgL.w ⟨by decide,by decide⟩) q)
    (fun Q q=>Z7 (i:=t % 5003) (j:=41) (fun Q q=>Z7 (i:=t) (j:=5003) (fun Q q=>Jb rfl q) (fun Q q=>ZQ q) (by decide) q) (fun Q q=>ZQ q) (mw m5.1 (by omega) (by decide) (by decide)) q) q) (fun Q q=>Jb rfl q) hn ?_
   exact fin _ _ (w0.set hi hb m4.1 (by omega)) m6.1 m6.2
theorem zmC {vs:List V} {Q:VK} {E:XK} (h:Q8 K zU vs H Q E):zgQ K { nx:=fun _ H'=>Q .non H',rt:=Q} (L2.start ["_law_pen_here","_law_many","_law_cell","_law_mixed","_law_got","_law_seed","_law_square"] vs) H:=by
 obtain ⟨P,M,ds,Q0,s,r,pf,⟨n,rfl,hn,hn2,qr⟩,k⟩:=h
 obtain ⟨v,u,L1,L3,rfl,_,r1,ru⟩:=v2 r
 obtain ⟨rfl,_⟩:=ru.int_inv
 obtain ⟨a,l,rfl,hm⟩:∃ a l,v=.ref a∧(a,l)∈P:=by
  cases r1 with
  | pen h=>exact ⟨_,_,rfl,h⟩
 obtain ⟨nM,nM2,nP,ns,i,b,sd,e1,e2,hi,hb,hs,hs2,hl⟩:=s.zM a l hm
 have ha:a∈P.as:=List.mem_map.mpr ⟨(a,l),hm,rfl⟩
 have fin:∀ (H':Hp) (t:Int),ziM H a l ns H'→0≤t→t < n→Q (.int t) H':=fun H' t w h0 h1=>by
  obtain ⟨i',b',s',hi',hb',hs',hs2',hp',he'⟩:=w
  refine k _ _ ⟨.int t,[],qr t h0 h1,Gr.by (fun x o hx nx=>?_) (fun x hx o ho=>?_),fun a' l' hm'=>?_,.int,List.nodup_nil,fun _ z=>nomatch z⟩
  ·rw [he' x (fun z=>nx (z ▸ ha))]; exact hx
  ·obtain ⟨xs,e⟩:=s.lists x hx
   rw [e] at ho
   cases ho
   exact ⟨fun _ z=>(nomatch z),fun _ _ z=>(nomatch z)⟩
  ·obtain ⟨n1,n2,n3,ns',i2,b2,s2,q1,q2,r'⟩:=s.zM a' l' hm'
   have nl:l'≠a:=fun z=>n3 (z ▸ ha)
   refine ⟨n1,n2,n3,?_⟩
   by_cases z:a'=a
   ·subst z
    rw [e1] at q1
    injection q1 with q1; injection q1 with q1; injection q1 with q1 _; injection q1 with q1
    subst q1
    rw [e2] at q2
    exact ⟨ns,i',b',s',hp',by rw [he' _ nl]; exact e2,hi',hb',hs',hs2',hl⟩
   ·exact ⟨ns',i2,b2,s2,by rw [he' a' z]; exact q1,by rw [he' l' nl]; exact q2,r'⟩
 have w0:ziM H a l ns H:=⟨i,b,sd,hi,hb,hs,hs2,e1,fun _ _=>rfl⟩
 show zgQ K _ (sgP a n [none,none,none,none,none]) H
 unfold zgQ
 refine Xh rfl e1 zp7 (ZQ ⟨rfl,_,rfl,ite2 (fun c1=>?_) (fun c1=>?_)⟩)
 ·refine Xh rfl e1 zrR (Xh rfl e1 ztj ⟨_,ns.length,rfl,.inl ⟨ns.map V.int,.inl (.inl e2),by simp⟩,i,ns.length,rfl,rfl,_,rfl,ite2 (fun c2=>?_) (fun c2=>?_)⟩)
  ·have hlt:i < ns.length:=of_decide_eq_true c2
   have en:(i.toNat:Int)=i:=by omega
   have hj:i.toNat < ns.length:=by omega
   obtain ⟨c,hat⟩:∃ c,atI (ns.map V.int) i=some (.int c):=by
    have h:=Jm (r:=ns.map V.int) (i:=i.toNat) (by simpa using hj)
    rw [en] at h
    exact ⟨ns[i.toNat],by rw [h,List.getElem?_map,List.getElem?_eq_getElem hj]; rfl⟩
   refine Xh rfl e1 ztj (Xh rfl e1 zrR ⟨l,_,i,.int c,rfl,rfl,.inl (.inl e2),hat,?_⟩)
   refine ⟨.ref a,rfl,a,_,1,.int i,rfl,rfl,by decide,by decide,e1,rfl,i,1,rfl,rfl,a,_,1,1,rfl,rfl,e1,rfl,?_⟩
   have w1:ziM H a l ns (upd H a (.lst [.ref l,.int (i+1),.int b,.int sd])):=w0.set (by omega) hb hs hs2
   have p1:(upd H a (.lst [V.ref l,.int (i+1),.int b,.int sd])) a=some (.lst [.ref l,.int (i+1),.int b,.int sd]):=upd_same
   refine zer (i:=c) (j:=1000000000000000000) (fun Q q=>Jb rfl q) (fun Q q=>Z7 (i:=10) (j:=18) (fun Q q=>ZQ q) (fun Q q=>ZQ q) ⟨by decide,by decide,by decide⟩ q) ⟨_,rfl,ite2 (fun c3=>?_) (fun c3=>?_)⟩
   ·have h3:(1000000000000000000:Int)≤c:=of_decide_eq_true c3
    refine ⟨.int c,rfl,zeU (r:=[some (.int c),none,none,none,none]) p1 ix4.2.1 ?_⟩
    exact zcn hn hn2 rfl (w1.set (i:=i+1) (b:=c) (s:=sd) (by omega) (by omega) hs hs2) fin
   ·have m1:=zhs (i:=c) (j:=2147483477) (by decide)
    refine zer (i:=c % 2147483477 * 40487) (j:=3 * (i+1)) (fun Q q=>Z7 (i:=c % 2147483477) (j:=40487) (fun Q q=>Z7 (i:=c) (j:=2147483477) (fun Q q=>Jb rfl q) (fun Q q=>ZQ q) (by decide) q) (fun Q q=>ZQ q) (mw m1.1 (by omega) (by decide) (by decide)) q)
     (fun Q q=>Z7 (i:=3) (j:=i+1) (fun Q q=>ZQ q) (fun Q q=>Xh rfl p1 zrR q) (mw (by decide) (by decide) (by omega) (by omega)) q) ?_
    generalize c % 2147483477 * 40487+3 * (i+1)=m
    refine Z7 (i:=sd * 52501+m) (j:=2147483647) (fun Q q=>zer (i:=sd * 52501) (j:=m) (fun Q q=>Z7 (i:=sd) (j:=52501) (fun Q q=>Xh rfl p1 zrS q) (fun Q q=>ZQ q) (mw hs (by omega) (by decide) (by decide)) q) (fun Q q=>Jb rfl q) q) (fun Q q=>ZQ q) (by decide) ?_
    have m2:=zhs (i:=sd * 52501+m) (j:=2147483647) (by decide)
    refine zeU (r:=[some (.int c),some (.int m),none,none,none]) p1 ix4.2.2 ?_
    exact zcn hn hn2 rfl (w1.set (i:=i+1) (b:=b) (s:=(sd * 52501+m) % 2147483647) (by omega) hb m2.1 (by omega)) fin
  ·exact zcn hn hn2 rfl w0 fin
 ·exact zcn hn hn2 rfl w0 fin
end
def ztq (K:PySem.W.Frag):List V→Hp→VK→Prop:=fun xs H Q=>∃ x n,xs=[x]∧LenV K x H n∧Q (.int n) H
def zrW (K:PySem.W.Frag):List V→Hp→VK→Prop:=fun xs H Q=>∃ p ys,xs=[.ref p]∧(SqL K H p ys∨SqT K H p ys)∧∀ l,H l=none→Q (.ref l) (upd H l (.lst ys))
def tCut (K:PySem.W.Frag):TE:=L2.tSl (rSlL K) (tVar 0) tNoPart (tPart (tC (.int 63)))
def zqa (K:PySem.W.Frag):TS:=tRet (tLst (tCons (tCB (zrW K) (tCons (tCut K) tNil)) (tCons (tC (.int 0)) (tCons (tC (.int 0)) (tCons (tOp Ja (tC (.int 20261)) (tOp Qt (tC (.int 37)) (tCB (ztq K) (tCons (tCut K) tNil)))) tNil)))))
theorem zrh {xs:List V} (h:xs.length≤63):cutV xs none (some 63)=xs:=by
 unfold cutV
 rw [show HT.sIx xs.length xs.length (some 63)=min 63 xs.length from HT.sIx_nat xs.length xs.length 63,HT.sIx_none,Nat.min_eq_right h,Nat.sub_zero]
 show xs.take xs.length=xs
 exact List.take_length
theorem Gr0.laid {H:Hp} {p:Addr} {o:HO} (hp:H p=none):Gr [] H (upd H p o):=Gr.laid hp
theorem zoq {K:PySem.W.Frag} {H:Hp} {vs:List V} {Q:VK} {E:XK} (h:zon K vs H Q E):zqa K { nx:=fun _ H'=>Q .non H',rt:=Q} (L2.start ["_law_script"] vs) H:=by
 obtain ⟨a,ns,rfl,hq,hl,q⟩:=h
 have hl':(ns.map V.int).length≤63:=by simpa using hl
 refine ⟨.ref a,rfl,63,rfl,a,ns.map V.int,rfl,hq,fun c hc=>?_⟩
 rw [zrh hl']
 refine ⟨c,ns.map V.int,rfl,.inl (.inl (.inl upd_same)),fun l hl2=>?_⟩
 generalize hH1:upd H c (.lst (ns.map V.int))=H1 at hl2
 have g1:Gr [] H H1:=hH1 ▸ Gr.laid hc
 have hlH:H l=none:=by
  cases e:H l with
  | none=>rfl
  | some o=>exact absurd hl2 (g1 l o e (fun z=>nomatch z)).trk
 generalize hH2:upd H1 l (.lst (ns.map V.int))=H2
 have g2:Gr [] H1 H2:=hH2 ▸ Gr.laid hl2
 have el:H2 l=some (.lst (ns.map V.int)):=by rw [← hH2]; exact upd_same
 have hq2:SqL K H2 a (ns.map V.int):=by
  have g:=g1.trans g2
  rcases hq with (h | ⟨o,h⟩) | h
  ·exact .inl (.inl (g _ _ h (fun z=>nomatch z)))
  ·exact .inl (.inr ⟨o,g _ _ h (fun z=>nomatch z)⟩)
  ·exact .inr h
 refine ⟨.ref a,rfl,63,rfl,a,ns.map V.int,rfl,hq2,fun c2 hc2=>?_⟩
 rw [zrh hl']
 have g3:Gr [] H2 (upd H2 c2 (.lst (ns.map V.int))):=Gr.laid hc2
 refine ⟨_,(ns.map V.int).length,rfl,.inl ⟨_,.inl (.inl upd_same),rfl⟩,37,_,rfl,rfl,?_,20261,_,rfl,rfl,show 4≤sizeLine by decide,fun p hp=>?_⟩
 ·exact mw (by decide) (by decide) (by omega) (by omega)
 generalize hH3:upd H2 c2 (.lst (ns.map V.int))=H3 at hp g3
 have hpH:H p=none:=by
  cases e:H p with
  | none=>rfl
  | some o=>exact absurd hp (((g1.trans g2).trans g3) p o e (fun z=>nomatch z)).trk
 have el3:H3 l=some (.lst (ns.map V.int)):=g3 _ _ el (fun z=>nomatch z)
 have npl:p≠l:=fun z=>by rw [z,el3] at hp; cases hp
 refine q _ p l _ (((g1.trans g2).trans g3).trans (Gr.laid hp)) hpH hlH npl ?_ ?_ upd_same (by rw [upd_ne npl.symm]; exact el3)
 ·omega
 ·omega
section
variable {P:Program} {w:World} {K:PySem.W.Frag} {mg:Str→Option Value} {base:Heap} {x qual:Str} {params:Arguments} {body:List Stmt} {scope:Scope} {f:Addr} {fd:FuncData}
theorem Fd.pick {k:Nat} (F:FunD K x qual params body scope [] [] f fd) (gm:mg x=some (.ref f)) (Sc:FnScope ["_law_pen_here","_law_many","_law_cell","_law_mixed","_law_got","_law_seed","_law_square"] ["_law_pen_here","_law_many"] scope)
  (hb:∀ (kV doc pm:Value) (an:Option Addr) (cdv ct:Value) (us:List Value),us.length=2→bindArgs (PySem.W.fnOf x qual params body scope .none kV doc pm an cdv ct) ⟨us,[]⟩=pure ((["_law_pen_here","_law_many"]:List Str).zip us))
  (walk:∀ (cdv:Value) (A:Around) (outer:List PySem.Env) (s:Shared) (H:Hp) (E:XK),PSs (cxOf CX0 P w K mg base ["_law_pen_here","_law_many","_law_cell","_law_mixed","_law_got","_law_seed","_law_square"] qual scope f cdv A outer s H E).nox body (zgQ K)):Fd P w K mg base (k+1) x zU:=
 ⟨f,fd,_,F.ok Sc (fun vs H Q E h=>by
   obtain ⟨P',M,ds,Q0,s,r,pf,⟨n,e,_⟩,_⟩:=h
   rw [r.len,e]
   rfl) (fun cdv A outer s H vs Q E hr h=>⟨zgQ K,PSs.nox (walk cdv A outer s H E),zmC h⟩),gm,F.kp,F.bindsN hb⟩
theorem zcm.of {k:Nat} (F:FunD K x qual params body scope [] [] f fd) (gm:mg x=some (.ref f)) (Sc:FnScope ["_law_script"] ["_law_script"] scope)
  (hb:∀ (kV doc pm:Value) (an:Option Addr) (cdv ct:Value) (us:List Value),us.length=1→bindArgs (PySem.W.fnOf x qual params body scope .none kV doc pm an cdv ct) ⟨us,[]⟩=pure ((["_law_script"]:List Str).zip us))
  (walk:∀ (cdv:Value) (A:Around) (outer:List PySem.Env) (s:Shared) (H:Hp) (E:XK),PSs (cxOf CX0 P w K mg base ["_law_script"] qual scope f cdv A outer s H E).nox body (zqa K)):zcm P w K mg base (k+1) x:=
 ⟨f,fd,_,F.ok Sc (fun vs H Q E h=>by
   obtain ⟨a,ns,e,_⟩:=h
   rw [e]
   rfl) (fun cdv A outer s H vs Q E hr h=>⟨zqa K,PSs.nox (walk cdv A outer s H E),zoq h⟩),gm,F.kp,F.bindsN hb⟩
end
end DL
set_option maxHeartbeats 4000000
set_option exponentiation.threshold 50000
namespace DL
open PySem PySem.Spec PyProof.Rows L2
variable [Tb]
def Pl:Nat→D→Prop
 | _,.non=>True
 | _,.bl _=>True
 | _,.int _=>True
 | _,.str x=>PyData.strOk x=true
 | _,.pen=>False
 | 0,.tup _=>False
 | 0,.con .l _ _=>False
 | _,.con (.dK _) _ _=>False
 | _,.con (.dT _) _ _=>False
 | _,.con (.ins _ _ _) _ _=>False
 | _,.exc _ _ _ _=>False
 | n+1,.tup xs=>xs.length≤1000000∧∀ x∈xs,Pl n x
 | n+1,.con .l k xs=>k=.f∧xs.length≤1000000∧∀ x∈xs,Pl n x
theorem Jp:∀ xs:List D,(∀ x∈xs,x.pf=true)→D.pfs xs=true
 | [],_=>rfl
 | x::xs,h=>by
  show (x.pf&&D.pfs xs)=true
  rw [h x (List.mem_cons_self ..),Jp xs fun y hy=>h y (List.mem_cons_of_mem _ hy)]
  rfl
theorem Pl.pf:∀ {n:Nat} {d:D},Pl n d→d.pf=true
 | _,.non,_=>rfl
 | _,.bl _,_=>rfl
 | _,.int _,_=>rfl
 | _,.str _,_=>rfl
 | _,.pen,h=>by unfold Pl at h; exact h.elim
 | 0,.tup _,h=>by unfold Pl at h; exact h.elim
 | 0,.con .l _ _,h=>by unfold Pl at h; exact h.elim
 | _,.con (.dK _) _ _,h=>by unfold Pl at h; exact h.elim
 | _,.con (.dT _) _ _,h=>by unfold Pl at h; exact h.elim
 | _,.con (.ins _ _ _) _ _,h=>by unfold Pl at h; exact h.elim
 | _,.exc _ _ _ _,h=>by unfold Pl at h; exact h.elim
 | n+1,.tup xs,h=>by
  have h':∀ x∈xs,Pl n x:=by unfold Pl at h; exact h.2
  exact Jp xs fun x hx=>(h' x hx).pf
 | n+1,.con .l k xs,h=>by
  have hk:k=.f:=by unfold Pl at h; exact h.1
  have h':∀ x∈xs,Pl n x:=by unfold Pl at h; exact h.2.2
  subst hk
  show (true&&D.pfs xs)=true
  rw [Jp xs fun x hx=>(h' x hx).pf]
  rfl
mutual
theorem D.zlu:∀ d:D,d.pf=true→d.vw=d
 | .non,_=>rfl
 | .bl _,_=>rfl
 | .int _,_=>rfl
 | .str _,_=>rfl
 | .pen,_=>rfl
 | .tup xs,p=>by simp only [D.vw]; rw [D.zor xs (by simpa [D.pf] using p)]
 | .con _ .f xs,p=>rfl
 | .con _ .b _,p=>by simp [D.pf] at p
 | .con _ .o _,p=>by simp [D.pf] at p
 | .exc _ _ _ _,_=>rfl
theorem D.zor:∀ ds:List D,D.pfs ds=true→D.vws ds=ds
 | [],_=>rfl
 | d::ds,p=>by
  simp only [D.pfs,Bool.and_eq_true] at p
  simp only [D.vws]
  rw [D.zlu d p.1,D.zor ds p.2]
end
mutual
theorem D.zos:∀ d:D,d.pf=true→d.no=true
 | .non,_=>rfl
 | .bl _,_=>rfl
 | .int _,_=>rfl
 | .str _,_=>rfl
 | .pen,_=>rfl
 | .tup xs,p=>D.zht xs (by simpa [D.pf] using p)
 | .exc _ _ _ _,_=>rfl
 | .con _ .f xs,p=>by
  show (true&&D.nos xs)=true
  rw [D.zht xs (by simpa [D.pf] using p)]
  rfl
 | .con _ .b _,p=>by simp [D.pf] at p
 | .con _ .o _,p=>by simp [D.pf] at p
theorem D.zht:∀ ds:List D,D.pfs ds=true→D.nos ds=true
 | [],_=>rfl
 | d::ds,p=>by
  simp only [D.pfs,Bool.and_eq_true] at p
  show (d.no&&D.nos ds)=true
  rw [D.zos d p.1,D.zht ds p.2]
  rfl
end
def yg:Nat→zQ
 | 0,_,_=>False
 | n+1,ds,Q=>∃ x,ds=[x,x]∧Pl n x∧Q (.bl true)
section
variable {Q:D→Prop} {i:Int} {k:Bool} {z:Str} {xs ys:List D} {f:Fl} {x:D} {cs:List String} {b:Bool}
theorem yt (h:je (tyD x) cs=some b) (n:(tyD x == "")=false:=by rfl):xJ cs x Q=Q (.bl b):=by
 unfold xJ zpV
 rw [n,h]
 rfl
theorem xK:xJ ["list","tuple"] (.int i) Q=Q (.bl false):=yt (by show je "int" _=_; decide+kernel)
theorem Zk:xJ ["list"] (.int i) Q=Q (.bl false):=yt (by show je "int" _=_; decide+kernel)
theorem jW:xJ ["tuple"] (.int i) Q=Q (.bl false):=yt (by show je "int" _=_; decide+kernel)
theorem Zm:xJ ["bool"] (.int i) Q=Q (.bl false):=yt (by show je "int" _=_; decide+kernel)
theorem Z8:xJ ["int"] (.int i) Q=Q (.bl true):=yt (by show je "int" _=_; decide+kernel)
theorem Z9:xJ ["str"] (.int i) Q=Q (.bl false):=yt (by show je "int" _=_; decide+kernel)
theorem qp:xJ ["list","tuple"] (.bl k) Q=Q (.bl false):=yt (by show je "bool" _=_; decide+kernel)
theorem Yb:xJ ["list"] (.bl k) Q=Q (.bl false):=yt (by show je "bool" _=_; decide+kernel)
theorem Zo:xJ ["tuple"] (.bl k) Q=Q (.bl false):=yt (by show je "bool" _=_; decide+kernel)
theorem Yc:xJ ["bool"] (.bl k) Q=Q (.bl true):=yt (by show je "bool" _=_; decide+kernel)
theorem YL:xJ ["int"] (.bl k) Q=Q (.bl true):=yt (by show je "bool" _=_; decide+kernel)
theorem YM:xJ ["str"] (.bl k) Q=Q (.bl false):=yt (by show je "bool" _=_; decide+kernel)
theorem xO:xJ ["list","tuple"] (.non) Q=Q (.bl false):=yt (by show je "NoneType" _=_; decide+kernel)
theorem Zq:xJ ["list"] (.non) Q=Q (.bl false):=yt (by show je "NoneType" _=_; decide+kernel)
theorem jY:xJ ["tuple"] (.non) Q=Q (.bl false):=yt (by show je "NoneType" _=_; decide+kernel)
theorem Zr:xJ ["bool"] (.non) Q=Q (.bl false):=yt (by show je "NoneType" _=_; decide+kernel)
theorem Yd:xJ ["int"] (.non) Q=Q (.bl false):=yt (by show je "NoneType" _=_; decide+kernel)
theorem Ye:xJ ["str"] (.non) Q=Q (.bl false):=yt (by show je "NoneType" _=_; decide+kernel)
theorem xQ:xJ ["list","tuple"] (.str z) Q=Q (.bl false):=yt (by show je "str" _=_; decide+kernel)
theorem Zt:xJ ["list"] (.str z) Q=Q (.bl false):=yt (by show je "str" _=_; decide+kernel)
theorem jZ:xJ ["tuple"] (.str z) Q=Q (.bl false):=yt (by show je "str" _=_; decide+kernel)
theorem Zu:xJ ["bool"] (.str z) Q=Q (.bl false):=yt (by show je "str" _=_; decide+kernel)
theorem Yg:xJ ["int"] (.str z) Q=Q (.bl false):=yt (by show je "str" _=_; decide+kernel)
theorem Yh:xJ ["str"] (.str z) Q=Q (.bl true):=yt (by show je "str" _=_; decide+kernel)
theorem xR:xJ ["list","tuple"] (.tup xs) Q=Q (.bl true):=yt (by show je "tuple" _=_; decide+kernel)
theorem Zv:xJ ["list"] (.tup xs) Q=Q (.bl false):=yt (by show je "tuple" _=_; decide+kernel)
theorem j5:xJ ["tuple"] (.tup xs) Q=Q (.bl true):=yt (by show je "tuple" _=_; decide+kernel)
theorem Zw:xJ ["bool"] (.tup xs) Q=Q (.bl false):=yt (by show je "tuple" _=_; decide+kernel)
theorem Yi:xJ ["int"] (.tup xs) Q=Q (.bl false):=yt (by show je "tuple" _=_; decide+kernel)
theorem Yj:xJ ["str"] (.tup xs) Q=Q (.bl false):=yt (by show je "tuple" _=_; decide+kernel)
theorem xT:xJ ["list","tuple"] (.con .l f xs) Q=Q (.bl true):=yt (by show je "list" _=_; decide+kernel)
theorem Zx:xJ ["list"] (.con .l f xs) Q=Q (.bl true):=yt (by show je "list" _=_; decide+kernel)
theorem j6:xJ ["tuple"] (.con .l f xs) Q=Q (.bl false):=yt (by show je "list" _=_; decide+kernel)
theorem Zy:xJ ["bool"] (.con .l f xs) Q=Q (.bl false):=yt (by show je "list" _=_; decide+kernel)
theorem Yk:xJ ["int"] (.con .l f xs) Q=Q (.bl false):=yt (by show je "list" _=_; decide+kernel)
theorem Yl:xJ ["str"] (.con .l f xs) Q=Q (.bl false):=yt (by show je "list" _=_; decide+kernel)
theorem zip_self (xs:List D):YK xs xs=xs.map fun x=>.tup [x,x]:=by
 unfold YK
 induction xs with
 | nil=>rfl
 | cons x xs ih=>
  simp only [List.zipWith_cons_cons,List.map_cons]
  rw [ih]
theorem zri {f:D→Option (List D)} {a b:DT} {ρ:Env} {K:List D→Prop}:zms f a b ρ K=a ρ fun d=>b ρ fun e=>if zey d=zey e∧zey d≠0 then (match f d,f e with
  | some ds,some es=>K (YK ds es)
  | _,_=>False) else False:=rfl
theorem zrX:zba (.con .l f xs) Q=Q (.int xs.length):=rfl
theorem zrY:zba (.tup xs) Q=Q (.int xs.length):=rfl
theorem go2 {i j:Nat} {x y:D} {ρ:Env} {N:Env→Prop}:G.go (.tp (.cons (.nm i) (.cons (.nm j) .nil))) (.tup [x,y]) ρ N=N ((ρ.set i (some x)).set j (some y)):=by
 simp [G.go,Gs.go]
theorem zgR:isN (.int i)=false:=rfl
theorem zgS:isN (.bl k)=false:=rfl
theorem zgT:isN (.str z)=false:=rfl
theorem zgU:isN .non=true:=rfl
theorem zmD:(!true)=false:=rfl
theorem zmE:(!false)=true:=rfl
theorem zkp:eqD (.bl k) (.bl b)=(k == b):=by
 show PyData.eqv (.bool k) (.bool b)=_
 cases k <;> cases b <;> simp [PyData.eqv]
theorem zmF:eqD (.str z) (.str z)=true:=by
 show PyData.eqv (.str z) (.str z)=_
 simp [PyData.eqv]
end
/-- nothing is promised -/
theorem Fd.bot {P:Program} {w:World} {K:PySem.W.Frag} {mg:Str→Option Value} {base:Heap} {x qual:Str} {params:Arguments} {body:List Stmt} {scope:Scope} {f:Addr} {fd:FuncData} {ps:List Str}
  (F:FunD K x qual params body scope [] [] f fd) (gm:mg x=some (.ref f))
  (hb:∀ (kV doc pm:Value) (an:Option Addr) (cdv ct:Value) (us:List Value),us.length=ps.length→bindArgs (PySem.W.fnOf x qual params body scope .none kV doc pm an cdv ct) ⟨us,[]⟩=pure (ps.zip us)):Fd P w K mg base 0 x (fun _ _=>False):=
 ⟨f,fd,ps,⟨fun vs H Q E ⟨_,_,_,_,_,_,_,h,_⟩=>h.elim,fun A outer s H args us vs Q E hr e b r ⟨_,_,_,_,_,_,_,h,_⟩=>h.elim⟩,gm,F.kp,F.bindsN hb⟩
end DL
set_option maxHeartbeats 4000000
set_option exponentiation.threshold 50000
namespace DL
open PySem PySem.Spec PyProof.Rows L2
variable [Tb]
def jg (vs:List Nat):DS:=fun N ρ=>N.nx (yF ρ vs)
def Jq (i:Nat):DS:=fun N ρ=>match Env.at ρ i with
 | some d=>N.nx (ρ.set i (some d.fz))
 | none=>False
section
variable {X:Cx} {P:zR} {M B:List Addr} {H:Hp} {σ:Sg} {ρ:Env} {E:Ends}
theorem Slots.yF (h:Slots X.K P M B H σ ρ) (vs:List Nat):Slots X.K P M B H σ (yF ρ vs):=by
 obtain ⟨hl,F,f1,f2,f3,f4⟩:=h
 exact ⟨by rw [zcY]; exact hl,F,fun i d e=>f1 i d (Ji e).1,f2,f3,f4⟩
theorem qm.yF (h:qm ρ) (vs:List Nat):qm (yF ρ vs):=fun i d e=>h i d (Ji e).1
theorem zmG {vs:List Nat} {t:DS} (h:qD X (zN (jg vs) t) E σ H):qD X t E σ H:=by
 obtain ⟨P,M,B,ρ,N,s,sl,e,t,f⟩:=h
 exact ⟨P,M,B,_,N,s,sl.yF vs,e.yF vs,t,f⟩
theorem zkq {vs:List Nat} (h:qD X (jg vs) E σ H):tNext E σ H:=by
 obtain ⟨P,M,B,ρ,N,s,sl,e,t,f⟩:=h
 exact f.nx P M H σ _ t yJ.refl s (sl.yF vs) (e.yF vs)
theorem Env.zlv {i:Nat} {d:D} (h:Env.at ρ i=some d):ρ[i]?=some (some d):=by
 unfold Env.at at h
 cases e:ρ[i]? with
 | none=>rw [e] at h; cases h
 | some o=>
  rw [e] at h
  have:o=some d:=h
  rw [this]
theorem zot {i:Nat} {t:DS} (h:qD X (zN (Jq i) t) E σ H):qD X t E σ H:=by
 obtain ⟨P,M,B,ρ,N,s,sl,e,t,f⟩:=h
 change (match Env.at ρ i with
  | some d=>(_:Env→Prop) (ρ.set i (some d.fz))
  | none=>False) at t
 cases ei:Env.at ρ i with
 | none=>rw [ei] at t; exact t.elim
 | some d=>
  rw [ei] at t
  have ei:=Env.zlv ei
  obtain ⟨hl,F,f1,f2,f3,f4⟩:=sl
  obtain ⟨v,ev,rv⟩:=f1 i d ei
  let M':=M.filter fun a=>decide (a∉F i)
  have hM:∀ a∈M',a∈M:=fun a z=>(List.mem_filter.mp z).1
  have hF:∀ a∈M',a∉F i:=fun a z=>of_decide_eq_true (List.mem_filter.mp z).2
  have hmk:∀ a,a∈M→a∉F i→a∈M':=fun a z q=>List.mem_filter.mpr ⟨z,decide_eq_true q⟩
  have r:=Rep.fzn (N:=M') hM rv (e i d ei) (fun a z q=>hF a q z)
  have s':Stt P M' B H:=⟨s.zM.grow fun a z=>.inl (hM a z),fun a z=>hmk a (s.sub a z) fun q=>(f2 i a q).2 z,fun a z=>s.ls a (hM a z),s.tabs⟩
  have a1:yJ P M B H P M' H:=⟨fun _ _ h _ _=>GrO.of h,fun _ z=>z,fun _ z=>.inl z,fun a z=>.inl (hM a z),fun _ z=>z,fun _ _ _ t=>t⟩
  refine ⟨P,M',B,_,N,s',⟨by rw [List.length_set]; exact hl,fun j=>if j=i then [] else F j,fun j c ec=>?_,fun j a z=>?_,fun j=>?_,fun j k a z q=>?_⟩,fun j c ec=>?_,t,f.after a1⟩
  ·by_cases hj:j=i
   ·subst hj
    have hlt:j < ρ.length:=(List.getElem?_eq_some_iff.mp ei).1
    rw [List.getElem?_set_self hlt] at ec
    injection ec with ec; injection ec with ec
    subst ec
    simp only [if_true]
    exact ⟨v,ev,r.1⟩
   ·rw [List.getElem?_set_ne (fun z=>hj z.symm)] at ec
    obtain ⟨v',e',r'⟩:=f1 j c ec
    simp only [if_neg hj]
    exact ⟨v',e',Rep.sub hM (fun _ z=>z) r'⟩
  ·by_cases hj:j=i
   ·simp only [if_pos hj] at z; exact nomatch z
   ·simp only [if_neg hj] at z
    exact ⟨hmk a (f2 j a z).1 fun q=>hj (f4 j i a z q),(f2 j a z).2⟩
  ·by_cases hj:j=i
   ·simp only [if_pos hj]; exact List.nodup_nil
   ·simp only [if_neg hj]; exact f3 j
  ·by_cases hj:j=i
   ·simp only [if_pos hj] at z; exact nomatch z
   ·by_cases hk:k=i
    ·simp only [if_pos hk] at q; exact nomatch q
    ·simp only [if_neg hj] at z
     simp only [if_neg hk] at q
     exact f4 j k a z q
  ·by_cases hj:j=i
   ·subst hj
    have hlt:j < ρ.length:=(List.getElem?_eq_some_iff.mp ei).1
    rw [List.getElem?_set_self hlt] at ec
    injection ec with ec; injection ec with ec
    subst ec
    exact D.zdA _ r.2
   ·rw [List.getElem?_set_ne (fun z=>hj z.symm)] at ec
    exact e j c ec
end
section
variable {X:Cx} {sts:List Stmt} {t:DS}
theorem Yr (vs:List Nat) (h:PDB X sts t):PDB X sts (zN (jg vs) t):=zkm h fun _ _ _=>zmG
theorem Jr (vs:List Nat):PDB X [] (jg vs):=zkm pss_nil fun _ _ _=>zkq
theorem Qu (i:Nat) (h:PDB X sts t):PDB X sts (zN (Jq i) t):=zkm h fun _ _ _=>zot
end
end DL
set_option maxHeartbeats 4000000
set_option exponentiation.threshold 50000
namespace DL
open PySem PySem.Spec PyProof.Rows L2
variable [Tb]
abbrev OkS:={s:Str // PyData.strOk s=true}
section
variable {α β γ δ ε:Type}
def eI:Int→D:=fun i=>.int i
def eB:Bool→D:=fun b=>.bl b
def eS:OkS→D:=fun s=>.str s.1
def eU:Unit→D:=fun _=>.non
def zE:Unit→D:=fun _=>.pen
def eT1 (a:α→D):α→D:=fun x=>.tup [a x]
def eT2 (a:α→D) (b:β→D):α×β→D:=fun p=>.tup [a p.1,b p.2]
def eT3 (a:α→D) (b:β→D) (c:γ→D):α×β×γ→D:=fun p=>.tup [a p.1,b p.2.1,c p.2.2]
def eT4 (a:α→D) (b:β→D) (c:γ→D) (d:δ→D):α×β×γ×δ→D:=fun p=>.tup [a p.1,b p.2.1,c p.2.2.1,d p.2.2.2]
def eT5 (a:α→D) (b:β→D) (c:γ→D) (d:δ→D) (e:ε→D):α×β×γ×δ×ε→D:=fun p=>.tup [a p.1,b p.2.1,c p.2.2.1,d p.2.2.2.1,e p.2.2.2.2]
def eL (k:Fl) (e:α→D):List α→D:=fun xs=>.con .l k (xs.map e)
def eO (e:α→D):Option α→D:=fun o=>match o with
 | none=>.non
 | some x=>e x
/-- frozen data without a pen -/
class Pf (e:α→D):Prop where
 h:∀ x,(e x).pf=true
 np:∀ x,(e x).np=true
class Nb (e:α→D):Prop where
 h:∀ x,(e x).nb=true
class Np (e:α→D):Prop where
 h:∀ x,(e x).np=true
class No (e:α→D):Prop where
 h:∀ x,(e x).no=true
class Vw (e e':α→D):Prop where
 h:∀ x,(e x).vw=e' x
class Fz (e e':α→D):Prop where
 h:∀ x,(e x).fz=e' x
class Rt (e e':α→D):Prop where
 h:∀ x,(e x).rt=e' x
class WkC (e e':α→D):Prop where
 h:∀ x,(e x).wk=e' x
class FlC (b:Bool) (e:α→D):Prop where
 h:∀ x,(e x).fl=b
class ShC (n:Nat) (e:α→D):Prop where
 h:∀ x,Sh n (e x)
class NN (e:α→D):Prop where
 h:∀ x,isN (e x)=false
 l:∀ x,eqD .non (e x)=false
 r:∀ x,eqD (e x) .non=false
class EqC (e:α→D) [DecidableEq α]:Prop where
 h:∀ x y,eqD (e x) (e y)=decide (x=y)
theorem npS {ds:List D} (h:∀ d∈ds,d.np=true):D.nps ds=true:=by
 induction ds with
 | nil=>rfl
 | cons d ds ih=>
  show (d.np&&D.nps ds)=true
  rw [h d (List.mem_cons_self ..),ih fun x hx=>h x (List.mem_cons_of_mem _ hx)]
  rfl
theorem nbS {ds:List D} (h:∀ d∈ds,d.nb=true):D.nbs ds=true:=by
 induction ds with
 | nil=>rfl
 | cons d ds ih=>
  show (d.nb&&D.nbs ds)=true
  rw [h d (List.mem_cons_self ..),ih fun x hx=>h x (List.mem_cons_of_mem _ hx)]
  rfl
theorem noS {ds:List D} (h:∀ d∈ds,d.no=true):D.nos ds=true:=by
 induction ds with
 | nil=>rfl
 | cons d ds ih=>
  show (d.no&&D.nos ds)=true
  rw [h d (List.mem_cons_self ..),ih fun x hx=>h x (List.mem_cons_of_mem _ hx)]
  rfl
theorem all_map {e:α→D} {P:D→Prop} (h:∀ x,P (e x)) (xs:List α):∀ d∈xs.map e,P d:=fun d hd=>by
 obtain ⟨x,_,rfl⟩:=List.mem_map.mp hd
 exact h x
theorem zhu {e e':α→D} (h:∀ x,(e x).vw=e' x):∀ xs:List α,D.vws (xs.map e)=xs.map e'
 | []=>rfl
 | x::xs=>by
  show (e x).vw::D.vws (xs.map e)=_
  rw [zhu h xs,h]
  rfl
theorem Jt {e e':α→D} (h:∀ x,(e x).fz=e' x):∀ xs:List α,D.fzs (xs.map e)=xs.map e'
 | []=>rfl
 | x::xs=>by
  show (e x).fz::D.fzs (xs.map e)=_
  rw [Jt h xs,h]
  rfl
theorem zhv {e e':α→D} (h:∀ x,(e x).rt=e' x):∀ xs:List α,D.rts (xs.map e)=xs.map e'
 | []=>rfl
 | x::xs=>by
  show (e x).rt::D.rts (xs.map e)=_
  rw [zhv h xs,h]
  rfl
theorem Ju {e e':α→D} (h:∀ x,(e x).wk=e' x):∀ xs:List α,D.wks (xs.map e)=xs.map e'
 | []=>rfl
 | x::xs=>by
  show (e x).wk::D.wks (xs.map e)=_
  rw [Ju h xs,h]
  rfl
mutual
theorem D.zrj:∀ d:D,d.pf=true→d.rt=d
 | .non,_=>rfl
 | .bl _,_=>rfl
 | .int _,_=>rfl
 | .str _,_=>rfl
 | .pen,_=>rfl
 | .tup xs,p=>by simp only [D.rt]; rw [D.zou xs (by simpa [D.pf] using p)]
 | .con _ .f xs,p=>rfl
 | .con _ .b _,p=>by simp [D.pf] at p
 | .con _ .o _,p=>by simp [D.pf] at p
 | .exc _ _ _ _,_=>rfl
theorem D.zou:∀ ds:List D,D.pfs ds=true→D.rts ds=ds
 | [],_=>rfl
 | d::ds,p=>by
  simp only [D.pfs,Bool.and_eq_true] at p
  simp only [D.rts]
  rw [D.zrj d p.1,D.zou ds p.2]
end
variable {a:α→D} {b:β→D} {c:γ→D} {d:δ→D} {e:ε→D} {a':α→D} {b':β→D} {c':γ→D} {d':δ→D} {e':ε→D}
instance:Pf eI:=⟨fun _=>rfl,fun _=>rfl⟩
instance:Pf eB:=⟨fun _=>rfl,fun _=>rfl⟩
instance:Pf eS:=⟨fun _=>rfl,fun _=>rfl⟩
instance:Pf eU:=⟨fun _=>rfl,fun _=>rfl⟩
instance [Pf a]:Pf (eT1 a):=⟨fun x=>by show (((a x).pf)&&true)=true; rw [Pf.h]; rfl,fun x=>by show (((a x).np)&&true)=true; rw [Pf.np]; rfl⟩
instance [Pf a] [Pf b]:Pf (eT2 a b):=⟨fun x=>by show ((a x.1).pf&&((b x.2).pf&&true))=true; rw [Pf.h,Pf.h]; rfl,fun x=>by show ((a x.1).np&&((b x.2).np&&true))=true; rw [Pf.np,Pf.np]; rfl⟩
instance [Pf a] [Pf b] [Pf c]:Pf (eT3 a b c):=⟨fun x=>by show ((a x.1).pf&&((b x.2.1).pf&&((c x.2.2).pf&&true)))=true; rw [Pf.h,Pf.h,Pf.h]; rfl,fun x=>by show ((a x.1).np&&((b x.2.1).np&&((c x.2.2).np&&true)))=true; rw [Pf.np,Pf.np,Pf.np]; rfl⟩
instance [Pf a] [Pf b] [Pf c] [Pf d]:Pf (eT4 a b c d):=⟨fun x=>by show ((a x.1).pf&&((b x.2.1).pf&&((c x.2.2.1).pf&&((d x.2.2.2).pf&&true))))=true; rw [Pf.h,Pf.h,Pf.h,Pf.h]; rfl,fun x=>by show ((a x.1).np&&((b x.2.1).np&&((c x.2.2.1).np&&((d x.2.2.2).np&&true))))=true; rw [Pf.np,Pf.np,Pf.np,Pf.np]; rfl⟩
instance [Pf a] [Pf b] [Pf c] [Pf d] [Pf e]:Pf (eT5 a b c d e):=⟨fun x=>by show ((a x.1).pf&&((b x.2.1).pf&&((c x.2.2.1).pf&&((d x.2.2.2.1).pf&&((e x.2.2.2.2).pf&&true)))))=true; rw [Pf.h,Pf.h,Pf.h,Pf.h,Pf.h]; rfl,fun x=>by show ((a x.1).np&&((b x.2.1).np&&((c x.2.2.1).np&&((d x.2.2.2.1).np&&((e x.2.2.2.2).np&&true)))))=true; rw [Pf.np,Pf.np,Pf.np,Pf.np,Pf.np]; rfl⟩
instance [Pf a]:Pf (eL .f a):=⟨fun xs=>by show (true&&D.pfs (xs.map a))=true; rw [Jp _ (all_map Pf.h xs)]; rfl,fun xs=>npS (all_map Pf.np xs)⟩
instance [Pf a]:Pf (eO a):=⟨fun x=>(by
 cases x with
 | none=>rfl
 | some x=>exact Pf.h (e:=a) x),fun x=>by
 cases x with
 | none=>rfl
 | some x=>exact Pf.np (e:=a) x⟩
instance:Nb zE:=⟨fun _=>rfl⟩
instance (priority:=high) [Pf a]:Nb a:=⟨fun x=>D.zdA _ (Pf.h x)⟩
instance [Nb a]:Nb (eL .o a):=⟨fun xs=>nbS (all_map Nb.h xs)⟩
instance [Nb a]:Nb (eT1 a):=⟨fun x=>nbS (by simp [Nb.h])⟩
instance [Nb a] [Nb b]:Nb (eT2 a b):=⟨fun x=>nbS (by simp [Nb.h])⟩
instance [Nb a] [Nb b] [Nb c]:Nb (eT3 a b c):=⟨fun x=>nbS (by simp [Nb.h])⟩
instance [Nb a] [Nb b] [Nb c] [Nb d]:Nb (eT4 a b c d):=⟨fun x=>nbS (by simp [Nb.h])⟩
instance [Nb a]:Nb (eO a):=⟨fun x=>by
 cases x with
 | none=>rfl
 | some x=>exact Nb.h (e:=a) x⟩
instance (priority:=high) [Pf a]:Np a:=⟨Pf.np⟩
instance {k:Fl} [Np a]:Np (eL k a):=⟨fun xs=>npS (all_map Np.h xs)⟩
instance [Np a]:Np (eT1 a):=⟨fun x=>npS (by simp [Np.h])⟩
instance [Np a] [Np b]:Np (eT2 a b):=⟨fun x=>npS (by simp [Np.h])⟩
instance [Np a] [Np b] [Np c]:Np (eT3 a b c):=⟨fun x=>npS (by simp [Np.h])⟩
instance [Np a] [Np b] [Np c] [Np d]:Np (eT4 a b c d):=⟨fun x=>npS (by simp [Np.h])⟩
instance (priority:=high) [Pf a]:No a:=⟨fun x=>D.zos _ (Pf.h x)⟩
instance [No a]:No (eL .b a):=⟨fun xs=>by show (true&&D.nos (xs.map a))=true; rw [noS (all_map No.h xs)]; rfl⟩
instance [No a] [No b]:No (eT2 a b):=⟨fun x=>noS (by simp [No.h])⟩
instance [No a] [No b] [No c]:No (eT3 a b c):=⟨fun x=>noS (by simp [No.h])⟩
instance (priority:=high) [Pf a]:Vw a a:=⟨fun x=>D.zlu _ (Pf.h x)⟩
instance:Vw zE zE:=⟨fun _=>rfl⟩
instance [Vw a a']:Vw (eL .o a) (eL .b a'):=⟨fun xs=>by show D.lst .b (D.vws (xs.map a))=_; rw [zhu (e':=a') Vw.h]; rfl⟩
instance:Vw (eL .b a) (eL .b a):=⟨fun _=>rfl⟩
instance:Vw (eL .f a) (eL .f a):=⟨fun _=>rfl⟩
instance [Vw a a'] [Vw b b']:Vw (eT2 a b) (eT2 a' b'):=⟨fun x=>by show D.tup [(a x.1).vw,(b x.2).vw]=_; rw [Vw.h (e':=a'),Vw.h (e':=b')]; rfl⟩
instance [Vw a a'] [Vw b b'] [Vw c c']:Vw (eT3 a b c) (eT3 a' b' c'):=⟨fun x=>by show D.tup [(a x.1).vw,(b x.2.1).vw,(c x.2.2).vw]=_; rw [Vw.h (e':=a'),Vw.h (e':=b'),Vw.h (e':=c')]; rfl⟩
instance [Vw a a']:Vw (eO a) (eO a'):=⟨fun x=>by
 cases x with
 | none=>rfl
 | some x=>exact Vw.h (e:=a) (e':=a') x⟩
instance (priority:=high) [Pf a]:Fz a a:=⟨fun x=>D.znJ _ (Pf.h x)⟩
instance:Fz zE zE:=⟨fun _=>rfl⟩
instance:Fz (eL .f a) (eL .f a):=⟨fun _=>rfl⟩
instance [Fz a a']:Fz (eL .o a) (eL .f a'):=⟨fun xs=>by show D.lst .f (D.fzs (xs.map a))=_; rw [Jt (e':=a') Fz.h]; rfl⟩
instance [Fz a a']:Fz (eL .b a) (eL .f a'):=⟨fun xs=>by show D.lst .f (D.fzs (xs.map a))=_; rw [Jt (e':=a') Fz.h]; rfl⟩
instance [Fz a a'] [Fz b b']:Fz (eT2 a b) (eT2 a' b'):=⟨fun x=>by show D.tup [(a x.1).fz,(b x.2).fz]=_; rw [Fz.h (e':=a'),Fz.h (e':=b')]; rfl⟩
instance [Fz a a'] [Fz b b'] [Fz c c']:Fz (eT3 a b c) (eT3 a' b' c'):=⟨fun x=>by show D.tup [(a x.1).fz,(b x.2.1).fz,(c x.2.2).fz]=_; rw [Fz.h (e':=a'),Fz.h (e':=b'),Fz.h (e':=c')]; rfl⟩
instance [Fz a a']:Fz (eO a) (eO a'):=⟨fun x=>by
 cases x with
 | none=>rfl
 | some x=>exact Fz.h (e:=a) (e':=a') x⟩
instance (priority:=high) [Pf a]:Rt a a:=⟨fun x=>D.zrj _ (Pf.h x)⟩
instance [Rt a a']:Rt (eL .o a) (eL .o a'):=⟨fun xs=>by show D.lst .o (D.rts (xs.map a))=_; rw [zhv (e':=a') Rt.h]; rfl⟩
instance [Fz a a']:Rt (eL .b a) (eL .f a'):=⟨fun xs=>by show D.lst .f (D.fzs (xs.map a))=_; rw [Jt (e':=a') Fz.h]; rfl⟩
instance [Rt a a'] [Rt b b']:Rt (eT2 a b) (eT2 a' b'):=⟨fun x=>by show D.tup [(a x.1).rt,(b x.2).rt]=_; rw [Rt.h (e':=a'),Rt.h (e':=b')]; rfl⟩
instance [Rt a a'] [Rt b b'] [Rt c c']:Rt (eT3 a b c) (eT3 a' b' c'):=⟨fun x=>by show D.tup [(a x.1).rt,(b x.2.1).rt,(c x.2.2).rt]=_; rw [Rt.h (e':=a'),Rt.h (e':=b'),Rt.h (e':=c')]; rfl⟩
instance [Rt a a']:Rt (eO a) (eO a'):=⟨fun x=>by
 cases x with
 | none=>rfl
 | some x=>exact Rt.h (e:=a) (e':=a') x⟩
instance:WkC eI eI:=⟨fun _=>rfl⟩
instance:WkC eB eB:=⟨fun _=>rfl⟩
instance:WkC eS eS:=⟨fun _=>rfl⟩
instance:WkC eU eU:=⟨fun _=>rfl⟩
instance [WkC a a']:WkC (eL .o a) (eL .o a'):=⟨fun xs=>by show D.lst .o (D.wks (xs.map a))=_; rw [Ju (e':=a') WkC.h]; rfl⟩
instance [WkC a a']:WkC (eL .f a) (eL .b a'):=⟨fun xs=>by show D.lst .b (D.wks (xs.map a))=_; rw [Ju (e':=a') WkC.h]; rfl⟩
instance [WkC a a'] [WkC b b']:WkC (eT2 a b) (eT2 a' b'):=⟨fun x=>by show D.tup [(a x.1).wk,(b x.2).wk]=_; rw [WkC.h (e':=a'),WkC.h (e':=b')]; rfl⟩
instance [WkC a a'] [WkC b b'] [WkC c c']:WkC (eT3 a b c) (eT3 a' b' c'):=⟨fun x=>by show D.tup [(a x.1).wk,(b x.2.1).wk,(c x.2.2).wk]=_; rw [WkC.h (e':=a'),WkC.h (e':=b'),WkC.h (e':=c')]; rfl⟩
instance [WkC a a']:WkC (eO a) (eO a'):=⟨fun x=>by
 cases x with
 | none=>rfl
 | some x=>exact WkC.h (e:=a) (e':=a') x⟩
instance:FlC true eI:=⟨fun _=>rfl⟩
instance:FlC true eB:=⟨fun _=>rfl⟩
instance:FlC true eS:=⟨fun _=>rfl⟩
instance:FlC true eU:=⟨fun _=>rfl⟩
instance:FlC true zE:=⟨fun _=>rfl⟩
instance:FlC true (eL .f a):=⟨fun _=>rfl⟩
instance:FlC false (eL .o a):=⟨fun _=>rfl⟩
instance:FlC false (eL .b a):=⟨fun _=>rfl⟩
instance [FlC true a] [FlC true b]:FlC true (eT2 a b):=⟨fun x=>by show ((a x.1).fl&&((b x.2).fl&&true))=true; rw [FlC.h (b:=true),FlC.h (b:=true)]; rfl⟩
instance [FlC true a] [FlC true b] [FlC true c]:FlC true (eT3 a b c):=⟨fun x=>by show ((a x.1).fl&&((b x.2.1).fl&&((c x.2.2).fl&&true)))=true; rw [FlC.h (b:=true),FlC.h (b:=true),FlC.h (b:=true)]; rfl⟩
instance [FlC true a]:FlC true (eO a):=⟨fun x=>by
 cases x with
 | none=>rfl
 | some x=>exact FlC.h (b:=true) (e:=a) x⟩
theorem zc4 {n:Nat} {ds:List D} (h:∀ x∈ds,Sh n x):Sh (n+1) (.tup ds):=by
 unfold Sh
 exact h
theorem zfm {n:Nat} {k:Fl} {ds:List D} (h:∀ x∈ds,Sh n x):Sh (n+1) (.con .l k ds):=by
 unfold Sh
 exact h
instance {n:Nat}:ShC n eI:=⟨fun _=>Jo⟩
instance {n:Nat}:ShC n eB:=⟨fun _=>zcl⟩
instance {n:Nat}:ShC n eS:=⟨fun x=>by cases n <;> (show Sh _ (.str x.1)) <;> (unfold Sh; exact x.2)⟩
instance {n:Nat}:ShC n eU:=⟨fun x=>by cases n <;> (show Sh _ .non) <;> (unfold Sh; trivial)⟩
instance {n:Nat} [ShC n a]:ShC (n+1) (eT1 a):=⟨fun x=>zc4 (by simp [ShC.h])⟩
instance {n:Nat} [ShC n a] [ShC n b]:ShC (n+1) (eT2 a b):=⟨fun x=>zc4 (by simp [ShC.h])⟩
instance {n:Nat} [ShC n a] [ShC n b] [ShC n c]:ShC (n+1) (eT3 a b c):=⟨fun x=>zc4 (by simp [ShC.h])⟩
instance {n:Nat} [ShC n a] [ShC n b] [ShC n c] [ShC n d]:ShC (n+1) (eT4 a b c d):=⟨fun x=>zc4 (by simp [ShC.h])⟩
instance {n:Nat} [ShC n a] [ShC n b] [ShC n c] [ShC n d] [ShC n e]:ShC (n+1) (eT5 a b c d e):=⟨fun x=>zc4 (by simp [ShC.h])⟩
instance {n:Nat} {k:Fl} [ShC n a]:ShC (n+1) (eL k a):=⟨fun xs=>zfm (all_map ShC.h xs)⟩
instance {n:Nat} [ShC n a]:ShC n (eO a):=⟨fun x=>by
 cases x with
 | none=>exact (inferInstance:ShC n eU).h ()
 | some x=>exact ShC.h x⟩
instance:NN eI:=⟨fun _=>rfl,fun _=>rfl,fun _=>rfl⟩
instance:NN eB:=⟨fun _=>rfl,fun _=>rfl,fun _=>rfl⟩
instance:NN eS:=⟨fun _=>rfl,fun _=>rfl,fun _=>rfl⟩
instance:NN (eT1 a):=⟨fun _=>rfl,fun _=>rfl,fun _=>rfl⟩
instance:NN (eT2 a b):=⟨fun _=>rfl,fun _=>rfl,fun _=>rfl⟩
instance:NN (eT3 a b c):=⟨fun _=>rfl,fun _=>rfl,fun _=>rfl⟩
instance:NN (eT4 a b c d):=⟨fun _=>rfl,fun _=>rfl,fun _=>rfl⟩
instance:NN (eT5 a b c d e):=⟨fun _=>rfl,fun _=>rfl,fun _=>rfl⟩
instance {k:Fl}:NN (eL k a):=⟨fun _=>rfl,fun _=>rfl,fun _=>rfl⟩
theorem Qv {xs ys:List D}:eqD (.tup xs) (.tup ys)=PyData.eqvAll (D.pys xs) (D.pys ys):=rfl
theorem za0 {k k':Fl} {xs ys:List D}:eqD (.con .l k xs) (.con .l k' ys)=PyData.eqvAll (D.pys xs) (D.pys ys):=rfl
theorem qU {x y:D} {xs ys:List D}:PyData.eqvAll (D.pys (x::xs)) (D.pys (y::ys))=(eqD x y&&PyData.eqvAll (D.pys xs) (D.pys ys)):=rfl
theorem zat:PyData.eqvAll (D.pys []) (D.pys [])=true:=rfl
instance:EqC eI:=⟨fun _ _=>Xw⟩
instance:EqC eB:=⟨fun x y=>by show eqD (.bl x) (.bl y)=_; rw [zkp]; cases x <;> cases y <;> rfl⟩
theorem zqb {x y:Str}:eqD (.str x) (.str y)=decide (x=y):=by
 show PyData.eqv (.str x) (.str y)=_
 unfold PyData.eqv
 by_cases h:x=y
 ·subst h; simp
 ·have:(x == y)=false:=by
   cases e:x == y
   ·rfl
   ·exact absurd (by simpa using e) h
  rw [this,decide_eq_false h]
instance:EqC eS:=⟨fun x y=>by show eqD (.str x.1) (.str y.1)=_; rw [zqb]; exact decide_eq_decide.mpr Subtype.ext_iff.symm⟩
instance:EqC eU:=⟨fun _ _=>rfl⟩
variable [DecidableEq α] [DecidableEq β] [DecidableEq γ] [DecidableEq δ] [DecidableEq ε]
instance [EqC a]:EqC (eT1 a):=⟨fun x y=>by show eqD (.tup [a x]) (.tup [a y])=_; rw [Qv,qU,zat,EqC.h,Bool.and_true]⟩
instance [EqC a] [EqC b]:EqC (eT2 a b):=⟨fun x y=>by
 show eqD (.tup [a x.1,b x.2]) (.tup [a y.1,b y.2])=_
 rw [Qv,qU,qU,zat,EqC.h,EqC.h,Bool.and_true,← Bool.decide_and]; exact decide_eq_decide.mpr (by rw [Prod.ext_iff])⟩
instance [EqC a] [EqC b] [EqC c]:EqC (eT3 a b c):=⟨fun x y=>by
 show eqD (.tup [a x.1,b x.2.1,c x.2.2]) (.tup [a y.1,b y.2.1,c y.2.2])=_
 rw [Qv,qU,qU,qU,zat,EqC.h,EqC.h,EqC.h,Bool.and_true,← Bool.decide_and,← Bool.decide_and]; exact decide_eq_decide.mpr (by rw [Prod.ext_iff,Prod.ext_iff])⟩
instance [EqC a] [EqC b] [EqC c] [EqC d]:EqC (eT4 a b c d):=⟨fun x y=>by
 show eqD (.tup [a x.1,b x.2.1,c x.2.2.1,d x.2.2.2]) (.tup [a y.1,b y.2.1,c y.2.2.1,d y.2.2.2])=_
 rw [Qv,qU,qU,qU,qU,zat,EqC.h,EqC.h,EqC.h,EqC.h,Bool.and_true,← Bool.decide_and,← Bool.decide_and,← Bool.decide_and]; exact decide_eq_decide.mpr (by rw [Prod.ext_iff,Prod.ext_iff,Prod.ext_iff])⟩
theorem zhw [EqC a]:∀ xs ys:List α,PyData.eqvAll (D.pys (xs.map a)) (D.pys (ys.map a))=decide (xs=ys)
 | [],[]=>by simp [zat]
 | [],y::ys=>rfl
 | x::xs,[]=>rfl
 | x::xs,y::ys=>by
  show PyData.eqvAll (D.pys (a x::xs.map a)) (D.pys (a y::ys.map a))=_
  rw [qU,zhw xs ys,EqC.h,← Bool.decide_and]
  exact decide_eq_decide.mpr (by rw [List.cons.injEq])
theorem ziN {e e':α→D} (h:∀ x y,eqD (e x) (e' y)=decide (x=y)):∀ xs ys:List α,PyData.eqvAll (D.pys (xs.map e)) (D.pys (ys.map e'))=decide (xs=ys)
 | [],[]=>by simp [zat]
 | [],y::ys=>rfl
 | x::xs,[]=>rfl
 | x::xs,y::ys=>by
  show PyData.eqvAll (D.pys (e x::xs.map e)) (D.pys (e' y::ys.map e'))=_
  rw [qU,ziN h xs ys,h,← Bool.decide_and]
  exact decide_eq_decide.mpr (by rw [List.cons.injEq])
instance {k:Fl} [EqC a]:EqC (eL k a):=⟨fun xs ys=>by show eqD (.con .l k (xs.map a)) (.con .l k (ys.map a))=_; rw [za0,zhw]⟩
/-- == of alike data,whoever owns them -/
class EqX (e e':α→D):Prop where
 h:∀ x y,eqD (e x) (e' y)=decide (x=y)
instance [EqC a]:EqX a a:=⟨EqC.h⟩
instance {k k':Fl} [EqX a a']:EqX (eL k a) (eL k' a'):=⟨fun xs ys=>by show eqD (.con .l k (xs.map a)) (.con .l k' (ys.map a'))=_; rw [za0,ziN EqX.h]⟩
instance [EqX a a'] [EqX b b']:EqX (eT2 a b) (eT2 a' b'):=⟨fun x y=>by
 show eqD (.tup [a x.1,b x.2]) (.tup [a' y.1,b' y.2])=_
 rw [Qv,qU,qU,zat,EqX.h,EqX.h,Bool.and_true,← Bool.decide_and]; exact decide_eq_decide.mpr (by rw [Prod.ext_iff])⟩
instance [EqC a] [NN a]:EqC (eO a):=⟨fun x y=>by
 cases x with
 | none=>
  cases y with
  | none=>rfl
  | some y=>
   show eqD .non (a y)=_
   rw [NN.l]; rfl
 | some x=>
  cases y with
  | none=>
   show eqD (a x) .non=_
   rw [NN.r]; rfl
  | some y=>
   show eqD (a x) (a y)=_
   rw [EqC.h]; exact decide_eq_decide.mpr (by simp)⟩
end
end DL
set_option maxHeartbeats 4000000
set_option exponentiation.threshold 50000
namespace DL
open PySem PySem.Spec PyProof.Rows L2
variable [Tb]
def Ev (t:DT) (ρ:Env) (d:D):Prop:=∀ Q:D→Prop,Q d→t ρ Q
def EvT (t:DTT) (ρ:Env) (k:Bool):Prop:=∀ Q:Bool→Prop,Q k→t ρ Q
def EvA (t:DTA) (ρ:Env) (ds:List D):Prop:=∀ Q:List D→Prop,Q ds→t ρ Q
def EvI (t:DTI) (ρ:Env) (ds:List D):Prop:=∀ Q:List D→Prop,Q ds→t ρ Q
/-- an operation's answer -/
abbrev Op (o:DO) (xs:List D) (d:D):Prop:=∀ Q:D→Prop,Q d→o xs Q
section
variable {α β γ δ:Type} {ρ:Env} {ta tb tc te:DT} {tr:DTA} {o:DO} {x y d d':D} {xs ds ds':List D} {k k1 k2:Bool} {ca cb:DTT} {i j:Int}
theorem ev_var (n:Nat) {e e':α→D} {v:α} [Vw e e'] (h:Env.at ρ n=some (e v)):Ev (zu n) ρ (e' v):=fun Q q=>by
 unfold zu
 rw [h]
 show Q (e v).vw
 rw [Vw.h (e':=e')]
 exact q
theorem ev_c:Ev (dC d) ρ d:=fun _ q=>q
theorem zB (ha:Ev ta ρ x) (hb:Ev tb ρ y) (ho:Op o [x,y] d):Ev (zP o ta tb) ρ d:=fun Q q=>ha _ (hb _ (ho Q q))
theorem ev_un (ha:Ev ta ρ x) (ho:Op o [x] d):Ev (dUn o ta) ρ d:=fun Q q=>ha _ (ho Q q)
theorem ev_call (ha:EvA tr ρ xs) (ho:Op o xs d):Ev (dCall o tr) ρ d:=fun Q q=>ha _ (ho Q q)
theorem ea_nil:EvA zK ρ []:=fun _ q=>q
theorem ea_cons (ha:Ev ta ρ x) (hr:EvA tr ρ xs):EvA (zm ta tr) ρ (x::xs):=fun Q q=>ha _ (hr _ q)
theorem zkr (h:EvA tr ρ xs) (hl:xs.length≤1000):Ev (dTup tr) ρ (.tup xs):=fun Q q=>h _ ⟨hl,q⟩
theorem zrZ (h:EvA tr ρ xs) (hl:xs.length≤1000):Ev (Z6 tr) ρ (.con .l .o xs):=fun Q q=>h _ ⟨hl,q⟩
theorem ev_if {e:α→D} {u v:α} (hc:EvT ca ρ k) (ha:k=true→Ev ta ρ (e u)) (hb:k=false→Ev tb ρ (e v)):Ev (dIf ca ta tb) ρ (e (if k=true then u else v)):=fun Q q=>hc _ (by
 cases k with
 | true=>exact ha rfl Q q
 | false=>exact hb rfl Q q)
theorem zov (ha:Ev ta ρ (eB k1)) (hb:k1=true→Ev tb ρ (eB k2)):Ev (zhg ta tb) ρ (eB (k1&&k2)):=fun Q q=>ha _ (by
 cases k1 with
 | true=>exact hb rfl Q q
 | false=>exact q)
theorem ziO {f g:D2} {z:D} (ha:Ev ta ρ x) (hb:Ev tb ρ y) (ho:Op (o2 f) [x,y] (eB k1)) (hc:k1=true→Ev tc ρ z) (hp:k1=true→Op (o2 g) [y,z] (eB k2)):Ev (Ko f g ta tb tc) ρ (eB (k1&&k2)):=fun Q q=>ha _ (hb _ (ho _ (by
 cases k1 with
 | true=>exact hc rfl _ (hp rfl Q q)
 | false=>exact q)))
theorem Kg (h:Ev ta ρ (eB k)):EvT (dB ta) ρ k:=fun Q q=>h _ q
theorem zhx (h:Ev ta ρ d) (ht:∀ Q:Bool→Prop,Q k→zkg d Q):EvT (zhe ta) ρ k:=fun Q q=>h _ (ht Q q)
theorem et_or (ha:EvT ca ρ k1) (hb:k1=false→EvT cb ρ k2):EvT (zhf ca cb) ρ (k1||k2):=fun Q q=>ha _ (by
 cases k1 with
 | true=>exact q
 | false=>exact hb rfl Q q)
theorem et_not (ha:EvT ca ρ k):EvT (zca ca) ρ (!k):=fun Q q=>ha _ q
theorem zlw (Q:Bool→Prop) (q:Q k):zkg (eB k) Q:=q
theorem zgV:Op (o2 XS) [eI i,eI j] (eI (i+j)):=fun _ q=>q
theorem zco:Op (o2 zcT) [eI i,eI j] (eI (i - j)):=fun _ q=>q
theorem ztr (h:MulOk i j):Op (o2 znL) [eI i,eI j] (eI (i * j)):=fun _ q=>⟨h,q⟩
theorem zts (h:0 < j):Op (o2 znM) [eI i,eI j] (eI (i % j)):=fun _ q=>⟨h,q⟩
theorem zrk (h:0≤j∧j≤1000∧i.natAbs < 2 ^ 64):Op (o2 znN) [eI i,eI j] (eI (i ^ j.toNat)):=fun _ q=>⟨h.1,h.2.1,h.2.2,q⟩
theorem ziP:Op (o1 zgq) [eI i] (eI (-i)):=fun _ q=>q
theorem zow:Op (o2 (zex fun i j=>decide (i < j))) [eI i,eI j] (eB (decide (i < j))):=fun _ q=>q
theorem zqc:Op (o2 (zex fun i j=>decide (i≤j))) [eI i,eI j] (eB (decide (i≤j))):=fun _ q=>q
theorem zr0:Op (o2 (zex fun i j=>decide (j < i))) [eI i,eI j] (eB (decide (i > j))):=fun _ q=>q
theorem ziQ {e e':α→D} [DecidableEq α] [EqX e e'] [ShC 60 e] [ShC 60 e'] {u v:α}:Op (o2 (eqO id)) [e u,e' v] (eB (decide (u=v))):=fun Q q=>⟨ShC.h u,ShC.h v,by rw [EqX.h]; exact q⟩
theorem ztt {e e':α→D} [DecidableEq α] [EqX e e'] [ShC 60 e] [ShC 60 e'] {u v:α}:Op (o2 (eqO not)) [e u,e' v] (eB (!decide (u=v))):=fun Q q=>⟨ShC.h u,ShC.h v,by rw [EqX.h]; exact q⟩
theorem ztu {e:α→D} [NN e] {v:Option α}:Op (o2 (isO id)) [eO e v,eU ()] (eB v.isNone):=fun Q q=>by
 show isO id (eO e v) .non Q
 rw [zbj]
 cases v with
 | none=>exact q
 | some v=>
  show Q (.bl (id (isN (e v))))
  rw [NN.h]; exact q
theorem zr1 {e:α→D} [NN e] {v:Option α}:Op (o2 (isO not)) [eO e v,eU ()] (eB v.isSome):=fun Q q=>by
 show isO not (eO e v) .non Q
 rw [zbj]
 cases v with
 | none=>exact q
 | some v=>
  show Q (.bl (not (isN (e v))))
  rw [NN.h]; exact q
theorem zqd {e e':α→D} [DecidableEq α] [EqX e' e] {u:α} {l:List α}:((l.map e').any fun z=>eqD z (e u))=decide (u∈l):=by
 induction l with
 | nil=>rfl
 | cons a l ih=>
  rw [List.map_cons,List.any_cons,ih,EqX.h,← Bool.decide_or]
  exact decide_eq_decide.mpr (by rw [List.mem_cons]; exact or_congr_left eq_comm)
theorem zr2 {p:Prop} {d1 d2:Decidable p}:@decide p d1=@decide p d2:=by congr
theorem ztv {e e':α→D} [DecidableEq α] [EqX e' e] [ShC 60 e] [ShC 58 e'] {f:Fl} {u:α} {l:List α} [dm:Decidable (u∈l)]:Op (o2 (inO id)) [e u,eL f e' l] (eB (decide (u∈l))):=fun Q q=>by
 show inO id (e u) (.con .l f (l.map e')) Q
 rw [zci]
 exact ⟨ShC.h u,all_map ShC.h l,by rw [zqd,zr2]; exact q⟩
/-- the item at a place -/
def gI [Inhabited α] (l:List α) (i:Int):α:=(atI l i).getD default
theorem zqe {e:α→D} {l:List α}:atI (l.map e) i=(atI l i).map e:=by
 unfold atI
 rw [List.length_map]
 cases ixN l.length i with
 | none=>rfl
 | some j=>simp
theorem YG {e:α→D} [Inhabited α] {f:Fl} {l:List α} (h:(atI l i).isSome=true):Op (o2 ixD) [eL f e l,eI i] (e (gI l i)):=fun Q q=>by
 show ixD (.con .l f (l.map e)) (.int i) Q
 rw [zch,zqe]
 unfold gI at q
 cases ea:atI l i with
 | none=>rw [ea] at h; cases h
 | some v=>rw [ea] at q; exact q
theorem jN (h:atI ds i=some d):Op (o2 ixD) [.tup ds,eI i] d:=fun Q q=>by
 show ixD (.tup ds) (.int i) Q
 rw [zcg,h]
 exact q
theorem zc5 {e:α→D} {f g:Fl} {l m:List α} (h:l.length+m.length≤sizeLine):Op (o2 XS) [eL f e l,eL g e m] (eL .o e (l++m)):=fun Q q=>by
 refine ⟨by simpa using h,?_⟩
 rw [← List.map_append]
 exact q
theorem zc6 {e:α→D} {f:Fl} {l:List α}:Op (o1 zba) [eL f e l] (eI l.length):=fun Q q=>by
 show Q (.int (l.map e).length)
 rw [List.length_map]; exact q
def zhy (i:Int):Int:=if i < 0 then -i else i
theorem zrl:Op (o1 znP) [eI i] (eI (zhy i)):=fun _ q=>q
theorem ztw {f:Fl} {l:List Bool}:Op (o1 ze7) [eL f eB l] (eB (l.all id)):=fun Q q=>by
 show ze7 (.con .l f (l.map fun x=>.bl (id x))) Q
 rw [QS]; exact q
theorem ints_map:∀ l:List Int,Xm (l.map eI)=some l
 | []=>rfl
 | x::l=>by
  show (Xm (l.map eI)).map (x::·)=_
  rw [ints_map l]; rfl
theorem zrm {f:Fl} {l:List Int}:Op (o1 zkf) [eL f eI l] (eI l.sum):=fun Q q=>by
 show (match Xm (l.map eI) with | some ns=>Q (.int ns.sum) | none=>False)
 rw [ints_map]; exact q
def Xi (l:List Int):Int:=l.foldl (fun a b=>if b > a then b else a) (l.headD 0)
theorem foldl_max:∀ (l:List Int) (a:Int),(a≤l.foldl (fun a b=>if b > a then b else a) a∧∀ y∈l,y≤l.foldl (fun a b=>if b > a then b else a) a)∧(l.foldl (fun a b=>if b > a then b else a) a=a∨l.foldl (fun a b=>if b > a then b else a) a∈l)
 | [],a=>⟨⟨Int.le_refl _,fun _ z=>nomatch z⟩,.inl rfl⟩
 | b::l,a=>by
  rw [List.foldl_cons]
  obtain ⟨⟨h1,h2⟩,h3⟩:=foldl_max l (if b > a then b else a)
  have hab:a≤(if b > a then b else a)∧b≤(if b > a then b else a):=by split <;> omega
  refine ⟨⟨by omega,fun y hy=>?_⟩,?_⟩
  ·rcases List.mem_cons.mp hy with e | z
   ·rw [e]; omega
   ·exact h2 y z
  ·rcases h3 with h | h
   ·rw [h]
    split
    ·exact .inr (List.mem_cons_self ..)
    ·exact .inl rfl
   ·exact .inr (List.mem_cons_of_mem _ h)
theorem za1 {l:List Int} (h:l≠[]):Xi l∈l∧∀ y∈l,y≤Xi l:=by
 cases l with
 | nil=>exact absurd rfl h
 | cons a l=>
  obtain ⟨⟨h1,h2⟩,h3⟩:=foldl_max l a
  have e:Xi (a::l)=l.foldl (fun a b=>if b > a then b else a) a:=by
   unfold Xi
   rw [List.headD_cons,List.foldl_cons,if_neg (Int.lt_irrefl a)]
  rw [e]
  refine ⟨?_,fun y hy=>?_⟩
  ·rcases h3 with z | z
   ·rw [z]; exact List.mem_cons_self ..
   ·exact List.mem_cons_of_mem _ z
  ·rcases List.mem_cons.mp hy with z | z
   ·rw [z]; exact h1
   ·exact h2 y z
theorem zox {f:Fl} {l:List Int} (h:l≠[]):Op (o1 maxD) [eL f eI l] (eI (Xi l)):=fun Q q=>by
 show (match Xm (l.map eI) with | some ns=>0 < ns.length∧∀ m,m∈ns→(∀ y,y∈ns→y≤m)→Q (.int m) | none=>False)
 rw [ints_map]
 refine ⟨List.length_pos_iff.mpr h,fun m hm hy=>?_⟩
 have s:=za1 h
 have:m=Xi l:=Int.le_antisymm (s.2 m hm) (hy _ s.1)
 rw [this]; exact q
theorem zr3 {e:α→D} {f:Fl} {l:List α}:Op (o1 zle) [eL f e l] (eL .o e l):=fun _ q=>q
class ziR (e:α→D) (le:outParam (α→α→Bool)):Prop where
 h:∀ x y,leD (e x) (e y)=le x y
 al:∀ x y,ZG (e x) (e y)=true
 ok:(∀ x,∃ y r,e x=.tup (y::r))∨∀ x,e x≠.non∧e x≠.pen∧∀ ys,e x≠.tup ys
theorem sort_map {e:α→D} {le:α→α→Bool} [ziR e le] (l:List α):(l.map e).mergeSort leD=(l.mergeSort le).map e:=(List.map_mergeSort (r:=le) (s:=leD) (f:=e) (l:=l) (fun a _ b _=>(ziR.h a b).symm)).symm
theorem zks {e:α→D} {le:α→α→Bool} [ziR e le] (l:List α):QL (l.map e):=by
 refine ⟨fun x hx y hy=>?_,?_⟩
 ·obtain ⟨a,_,rfl⟩:=List.mem_map.mp hx
  obtain ⟨b,_,rfl⟩:=List.mem_map.mp hy
  exact ziR.al a b
 ·rcases ziR.ok (e:=e) with h | h
  ·exact .inl fun x hx=>by
    obtain ⟨a,_,rfl⟩:=List.mem_map.mp hx
    exact h a
  ·exact .inr fun x hx=>by
    obtain ⟨a,_,rfl⟩:=List.mem_map.mp hx
    exact h a
theorem zoy {e:α→D} {le:α→α→Bool} [ziR e le] [ShC 50 e] [No e] {f:Fl} {l:List α}:Op (o1 ze8) [eL f e l] (eL .o e (l.mergeSort le)):=fun Q q=>by
 refine ⟨all_map ShC.h l,noS (all_map No.h l),zks l,?_⟩
 rw [sort_map]; exact q
theorem jB:D.fzs []=[]:=rfl
theorem yr {x x':D} (h:x.fz=x') (hs:D.fzs ds=ds'):D.fzs (x::ds)=x'::ds':=by
 show x.fz::D.fzs ds=_
 rw [h,hs]
theorem ZJ:D.fls []=true:=rfl
theorem yW (h:x.fl=true) (hs:D.fls ds=true):D.fls (x::ds)=true:=by
 show (x.fl&&D.fls ds)=true
 rw [h,hs]; rfl
theorem zqf (h:x.fl=false):D.fls (x::ds)=false:=by
 show (x.fl&&D.fls ds)=false
 rw [h]; rfl
theorem ztx (h:x.fl=true) (hs:D.fls ds=false):D.fls (x::ds)=false:=by
 show (x.fl&&D.fls ds)=false
 rw [h,hs]; rfl
theorem YH {S:zQ} (ha:EvA tr ρ ds) (hz:D.fzs ds=ds') (hf:D.fls ds=true) (hs:∀ Q:D→Prop,Q d→S ds' Q):Ev (dFn S tr) ρ d:=fun Q q=>ha _ (by
 show S (D.fzs ds) _
 rw [hz]
 exact hs _ (by rw [if_pos hf]; exact q))
theorem zkt {S:zQ} (ha:EvA tr ρ ds) (hz:D.fzs ds=ds') (hf:D.fls ds=false) (hs:∀ Q:D→Prop,Q d→S ds' Q) (hw:d.wk=d'):Ev (dFn S tr) ρ d':=fun Q q=>ha _ (by
 show S (D.fzs ds) _
 rw [hz]
 exact hs _ (by rw [if_neg (by rw [hf]; simp),hw]; exact q))
theorem ju {n:Nat} {N:Env→Prop} (q:N (ρ.set n (some d))):G.go (.nm n) d ρ N:=by rw [zgs]; exact q
theorem ziS {gs:Gs} {N:Env→Prop} (q:Gs.go gs ds ρ N):G.go (.tp gs) (.tup ds) ρ N:=by simpa [G.go] using q
theorem zau {N:Env→Prop} (q:N ρ):Gs.go .nil [] ρ N:=by simpa [Gs.go] using q
theorem qR {g:G} {gs:Gs} {N:Env→Prop} (q:G.go g d ρ fun ρ'=>Gs.go gs ds ρ' N):Gs.go (.cons g gs) (d::ds) ρ N:=by simpa [Gs.go] using q
theorem QT {e:α→D} {f:Fl} {l:List α} [No e] (h:Ev ta ρ (eL f e l)):EvI (qK zW ta) ρ (l.map e):=fun Q q=>h _ (by
 show zp8 (zW (.con .l f (l.map e))) Q
 cases f with
 | o=>
  show zp8 (if D.nos (l.map e)=true then _ else _) Q
  rw [if_pos (noS (all_map No.h l))]; exact q
 | f=>exact q
 | b=>exact q)
theorem zty {e:α→D} {l:List α} (h:Ev ta ρ (eL .f e l)):EvI (qK qW ta) ρ (l.map e):=fun Q q=>h _ q
def ZK (lo hi:Int):List Int:=(List.range (hi - lo).toNat).map fun i=>lo+(i:Nat)
theorem zqg {lo hi:Int}:zhh lo hi=(ZK lo hi).map eI:=by
 unfold zhh ZK
 rw [List.map_map]; rfl
theorem zlx (h:Ev ta ρ (eI j)) (hj:-1000000000000≤j∧j≤1000000000000):EvI (zcb ta) ρ ((ZK 0 j).map eI):=fun Q q=>h _ (by
 refine ⟨hj.1,hj.2,?_⟩
 rw [zqg]; exact q)
def YJ (l:List α):List (Int×α):=l.mapIdx fun i x=>((i:Nat),x)
theorem ziT {e:α→D} {l:List α}:zbh (l.map e)=(YJ l).map (eT2 eI e):=by
 unfold zbh YJ
 apply List.ext_getElem?
 intro i
 rw [List.getElem?_mapIdx,List.getElem?_map,List.getElem?_map,List.getElem?_mapIdx]
 cases l[i]? <;> rfl
theorem zip_map {e:α→D} {e':β→D}:∀ {l:List α} {m:List β},YK (l.map e) (m.map e')=(l.zip m).map (eT2 e e')
 | [],_=>by simp [YK]
 | _::_,[]=>by simp [YK]
 | x::l,y::m=>by
  have:=zip_map (e:=e) (e':=e') (l:=l) (m:=m)
  unfold YK at this
  simp only [YK,List.map_cons,List.zipWith_cons_cons,List.zip_cons_cons,this]
  rfl
theorem zoz {e:α→D} {l:List α} (h:Ev ta ρ (eL .f e l)):EvI (zgM qW ta) ρ ((YJ l).map (eT2 eI e)):=fun Q q=>h _ (by
 rw [← ziT] at q
 exact q)
theorem zmH {e:α→D} [Pf e] {l:List α} (h:Ev ta ρ (eL .o e l)):EvI (zgM qW ta) ρ ((YJ l).map (eT2 eI e)):=fun Q q=>h _ (by
 rw [← ziT] at q
 show (match (if D.pfs (l.map e)=true then some (l.map e) else if D.nbs (l.map e)=true then some (D.fzs (l.map e)) else none) with
   | some ds=>Q (zbh ds)
   | none=>False)
 rw [if_pos (Jp _ (all_map Pf.h l))]; exact q)
theorem itC {e:α→D} {f:Fl} {l:List α} [No e]:zW (eL f e l)=some (l.map e):=by
 cases f with
 | o=>
  show (if D.nos (l.map e)=true then _ else _)=_
  rw [if_pos (noS (all_map No.h l))]
 | f=>rfl
 | b=>rfl
theorem zqh {e:α→D} {e':β→D} {f f':Fl} {l:List α} {m:List β} [No e] [No e'] (h:Ev ta ρ (eL f e l)) (h2:Ev tb ρ (eL f' e' m)):EvI (zms zW ta tb) ρ ((l.zip m).map (eT2 e e')):=fun Q q=>h _ (h2 _ (by
 rw [← zip_map] at q
 show (if _ then _ else False)
 rw [if_pos ⟨rfl,fun z=>nomatch z⟩,itC,itC]; exact q))
theorem ziU {it:DTI} {vs:List Nat} {g:G} {tt:DTT} {eX:α→D} {eY:β→D} {l:List α} {c:α→Bool} {f:α→β} (en2:α→Env) (hi:EvI it ρ (l.map eX)) (hl:l.length≤1000000)
  (hg:∀ x (N:Env→Prop),N (en2 x)→G.go g (eX x) (yF ρ vs) N) (ht:∀ x∈l,EvT tt (en2 x) (c x)) (he:∀ x∈l,c x=true→Ev te (en2 x) (eY (f x))):Ev (dLc it vs g tt te) ρ (eL .o eY ((l.filter c).map f)):=fun Q q=>hi _ (by
 refine ⟨by rw [List.length_map]; exact hl,zfl (t:=c) (h:=fun x=>eY (f x)) l (fun x hx K1 K2 k=>?_) ?_⟩
 ·refine hg x _ (ht x hx _ ?_)
  cases ec:c x with
  | true=>rw [ec] at k; exact he x hx ec _ k
  | false=>rw [ec] at k; exact k
 ·rw [List.nil_append]
  have:((l.filter c).map fun x=>eY (f x))=((l.filter c).map f).map eY:=by rw [List.map_map]; rfl
  rw [this]; exact q)
theorem zoA {e:α→D} {f:Fl} {l:List α} (h:Ev ta ρ (eL f e (l.map fun x=>x))):Ev ta ρ (eL f e l):=by
 rw [List.map_id'] at h
 exact h
theorem kZ {it:DTI} {vs:List Nat} {g:G} {eX:α→D} {eY:β→D} {l:List α} {f:α→β} (en2:α→Env) (hi:EvI it ρ (l.map eX)) (hl:l.length≤1000000)
  (hg:∀ x (N:Env→Prop),N (en2 x)→G.go g (eX x) (yF ρ vs) N) (he:∀ x∈l,Ev te (en2 x) (eY (f x))):Ev (dLc it vs g ZP te) ρ (eL .o eY (l.map f)):=by
 have:=ziU (c:=fun _=>true) (tt:=ZP) en2 hi hl hg (fun _ _ Q q=>q) (fun x hx _=>he x hx)
 rw [filter_all] at this
 exact this
end
end DL
set_option maxHeartbeats 4000000
set_option exponentiation.threshold 50000
namespace DL
open PySem PySem.Spec PyProof.Rows L2
variable [Tb]
abbrev tkD (d:D):List (Int ⊕ List Nat):=PySem.W.keyToks d.py
abbrev Xx (s t:List (Int ⊕ List Nat)):Bool:=PyProof.Rows.lexLt PyProof.Rows.itemOrd s t
section
variable {α β γ δ ε:Type}
class qT (e:α→D) (lt:outParam (α→α→Bool)):Prop where
 h:∀ x y s t,Xx (tkD (e x)++s) (tkD (e y)++t)=(lt x y||(!lt y x&&Xx s t))
 al:∀ x y,ZG (e x) (e y)=true
class Kd1 (e:α→D):Prop where
 ok:(∀ x,∃ y r,e x=.tup (y::r))∨∀ x,e x≠.non∧e x≠.pen∧∀ ys,e x≠.tup ys
def xU (lt:α→α→Bool):α→α→Bool:=fun x y=>!lt y x
instance {e:α→D} {lt:α→α→Bool} [qT e lt] [Kd1 e]:ziR e (xU lt):=⟨fun x y=>by
 have h:=qT.h (e:=e) y x [] []
 rw [List.append_nil,List.append_nil] at h
 show (!Xx (tkD (e y)) (tkD (e x)))=!lt y x
 rw [h]
 show (!(lt y x||(!lt x y&&false)))=_
 rw [Bool.and_false,Bool.or_false],qT.al,Kd1.ok⟩
def ltI (i j:Int):Bool:=decide (i < j)
def ltS (x y:OkS):Bool:=PyProof.Rows.strKind.blt x.1.cps.toList y.1.cps.toList
def YB (f:α→α→Bool) (g:β→β→Bool):α×β→α×β→Bool:=fun p q=>f p.1 q.1||(!f q.1 p.1&&g p.2 q.2)
def zoB (f:α→α→Bool) (g:β→β→Bool) (h:γ→γ→Bool):α×β×γ→α×β×γ→Bool:=fun p q=>f p.1 q.1||(!f q.1 p.1&&(g p.2.1 q.2.1||(!g q.2.1 p.2.1&&h p.2.2 q.2.2)))
def ltL (f:α→α→Bool):List α→List α→Bool
 | [],[]=>false
 | [],_::_=>true
 | _::_,[]=>false
 | x::xs,y::ys=>f x y||(!f y x&&ltL f xs ys)
instance:qT eI ltI:=⟨fun x y s t=>rfl,fun _ _=>rfl⟩
instance:qT eS ltS:=⟨fun x y s t=>rfl,fun _ _=>rfl⟩
variable {a:α→D} {b:β→D} {c:γ→D} {f:α→α→Bool} {g:β→β→Bool} {h:γ→γ→Bool}
theorem QV (s t:List (Int ⊕ List Nat)):Xx (.inl 1::s) (.inl 1::t)=Xx s t:=by
 show (decide ((1:Int) < 1)||(!decide ((1:Int) < 1)&&Xx s t))=_
 simp
theorem zhz (s t:List (Int ⊕ List Nat)):Xx (.inl 0::s) (.inl 0::t)=Xx s t:=by
 show (decide ((0:Int) < 0)||(!decide ((0:Int) < 0)&&Xx s t))=_
 simp
theorem zqi (s t:List (Int ⊕ List Nat)):Xx (.inl 0::s) (.inl 1::t)=true:=by
 show (decide ((0:Int) < 1)||(!decide ((1:Int) < 0)&&Xx s t))=_
 simp
theorem zqj (s t:List (Int ⊕ List Nat)):Xx (.inl 1::s) (.inl 0::t)=false:=by
 show (decide ((1:Int) < 0)||(!decide ((0:Int) < 1)&&Xx s t))=_
 simp
theorem zly {x y:D} {s:List (Int ⊕ List Nat)}:tkD (.tup [x,y])++s=.inl 1::(tkD x++(.inl 1::(tkD y++(.inl 0::s)))):=by
 show ((Sum.inl 1::(tkD x++(Sum.inl 1::(tkD y++[Sum.inl 0]))))++s:List (Int ⊕ List Nat))=_
 simp
theorem zlz {x y z:D} {s:List (Int ⊕ List Nat)}:tkD (.tup [x,y,z])++s=.inl 1::(tkD x++(.inl 1::(tkD y++(.inl 1::(tkD z++(.inl 0::s)))))):=by
 show ((Sum.inl 1::(tkD x++(Sum.inl 1::(tkD y++(Sum.inl 1::(tkD z++[Sum.inl 0]))))))++s:List (Int ⊕ List Nat))=_
 simp
instance [qT a f] [qT b g]:qT (eT2 a b) (YB f g):=⟨fun x y s t=>by
 show Xx (tkD (.tup [a x.1,b x.2])++s) (tkD (.tup [a y.1,b y.2])++t)=_
 rw [zly,zly,QV,qT.h (e:=a),QV,qT.h (e:=b),zhz]
 unfold YB
 cases f x.1 y.1 <;> cases f y.1 x.1 <;> simp,fun x y=>by
 show (ZG (a x.1) (a y.1)&&(ZG (b x.2) (b y.2)&&true))=true
 rw [qT.al (e:=a),qT.al (e:=b)]; rfl⟩
instance [qT a f] [qT b g] [qT c h]:qT (eT3 a b c) (zoB f g h):=⟨fun x y s t=>by
 show Xx (tkD (.tup [a x.1,b x.2.1,c x.2.2])++s) (tkD (.tup [a y.1,b y.2.1,c y.2.2])++t)=_
 rw [zlz,zlz,QV,qT.h (e:=a),QV,qT.h (e:=b),QV,qT.h (e:=c),zhz]
 unfold zoB
 cases f x.1 y.1 <;> cases f y.1 x.1 <;> cases g x.2.1 y.2.1 <;> cases g y.2.1 x.2.1 <;> simp,fun x y=>by
 show (ZG (a x.1) (a y.1)&&(ZG (b x.2.1) (b y.2.1)&&(ZG (c x.2.2) (c y.2.2)&&true)))=true
 rw [qT.al (e:=a),qT.al (e:=b),qT.al (e:=c)]; rfl⟩
theorem zc7 [qT a f] (s t:List (Int ⊕ List Nat)):∀ xs ys:List α,Xx (PySem.W.keyToksAll (D.pys (xs.map a))++s) (PySem.W.keyToksAll (D.pys (ys.map a))++t)=(ltL f xs ys||(!ltL f ys xs&&Xx s t))
 | [],[]=>by
  show Xx (.inl 0::s) (.inl 0::t)=_
  rw [zhz]; simp [ltL]
 | [],y::ys=>by
  show Xx (.inl 0::s) (.inl 1::(_++t))=_
  rw [zqi]; simp [ltL]
 | x::xs,[]=>by
  show Xx (.inl 1::(_++s)) (.inl 0::t)=_
  rw [zqj]; simp [ltL]
 | x::xs,y::ys=>by
  show Xx (.inl 1::((tkD (a x)++PySem.W.keyToksAll (D.pys (xs.map a)))++s)) (.inl 1::((tkD (a y)++PySem.W.keyToksAll (D.pys (ys.map a)))++t))=_
  rw [QV,List.append_assoc,List.append_assoc,qT.h (e:=a),zc7 s t xs ys]
  show _=((f x y||(!f y x&&ltL f xs ys))||(!(f y x||(!f x y&&ltL f ys xs))&&Xx s t))
  cases f x y <;> cases f y x <;> simp
theorem zav [qT a f]:∀ xs ys:List α,PySem.W.alikeAll (D.pys (xs.map a)) (D.pys (ys.map a))=true
 | [],_=>by cases ‹List α› <;> rfl
 | _::_,[]=>rfl
 | x::xs,y::ys=>by
  show (ZG (a x) (a y)&&PySem.W.alikeAll (D.pys (xs.map a)) (D.pys (ys.map a)))=true
  rw [qT.al (e:=a),zav xs ys]; rfl
instance {k:Fl} [qT a f]:qT (eL k a) (ltL f):=⟨fun xs ys s t=>zc7 s t xs ys,fun xs ys=>zav xs ys⟩
instance:Kd1 eI:=⟨.inr fun _=>⟨fun z=>(nomatch z),fun z=>(nomatch z),fun _ z=>(nomatch z)⟩⟩
instance:Kd1 eS:=⟨.inr fun _=>⟨fun z=>(nomatch z),fun z=>(nomatch z),fun _ z=>(nomatch z)⟩⟩
instance:Kd1 (eT1 a):=⟨.inl fun _=>⟨_,_,rfl⟩⟩
instance:Kd1 (eT2 a b):=⟨.inl fun _=>⟨_,_,rfl⟩⟩
instance:Kd1 (eT3 a b c):=⟨.inl fun _=>⟨_,_,rfl⟩⟩
instance {k:Fl}:Kd1 (eL k a):=⟨.inr fun _=>⟨fun z=>(nomatch z),fun z=>(nomatch z),fun _ z=>(nomatch z)⟩⟩
end
section
variable {α β γ:Type} {ρ ρ':Env} {ta tb te:DT} {tr:DTA} {d d':D} {ds:List D} {k:Bool} {c:DTT} {t u:DS} {N:DE} {it:DTI}
theorem ztz (n:Nat) (ev:Ev te ρ d) (hb:d.nb=true) (q:N.nx (ρ.set n (some d))):jr (.nm n) te N ρ:=ev _ ⟨hb,ju q⟩
theorem Ys (ev:Ev te ρ d) (hr:d.rt=d') (q:N.rt d'):ZM te N ρ:=ev _ (by
 rw [hr]; exact q)
theorem zhA (n:Nat) (h:Env.at ρ n=some d) (q:N.rt d):zbi n N ρ:=by
 unfold zbi
 rw [h]; exact q
theorem zr4 (ev:Ev te ρ d) (q:N.nx ρ):zgN te N ρ:=ev _ q
theorem ziV (ev:EvT c ρ k) (ha:k=true→t N ρ) (hb:k=false→u N ρ):X6 c t u N ρ:=ev _ (by
 cases k with
 | true=>exact ha rfl
 | false=>exact hb rfl)
theorem w_next (q:N.nx ρ):Yq N ρ:=q
theorem QW {vs:List Nat} (q:N.nx ρ') (h:yF ρ vs=ρ'):jg vs N ρ:=by
 show N.nx (yF ρ vs)
 rw [h]; exact q
theorem ztA (n:Nat) {e e':α→D} {v:α} [Fz e e'] (h:Env.at ρ n=some (e v)) (q:N.nx (ρ.set n (some (e' v)))):Jq n N ρ:=by
 unfold Jq
 rw [h]
 show N.nx (ρ.set n (some (e v).fz))
 rw [Fz.h (e':=e')]; exact q
def zaw {σ:Type} (body:α→σ→(σ→Prop)→(σ→Prop)→Prop) (done:σ→Prop):List α→σ→Prop
 | [],s=>done s
 | x::xs,s=>body x s (zaw body done xs) done
theorem ztB {σ:Type} {g:G} {b:DS} {body:α→σ→(σ→Prop)→(σ→Prop)→Prop} {done:σ→Prop} {l:List α} {s:σ} (en:σ→Env) (eX:α→D) (hi:EvI it ρ (l.map eX)) (hs:ρ=en s) (h:zaw body done l s)
  (hd:∀ s,done s→N.nx (en s))
  (hb:∀ x s (nx:σ→Prop) (N':DE),(∀ s,nx s→N'.nx (en s))→(∀ s,nx s→N'.ct (en s))→(∀ s,done s→N'.bk (en s))→N'.rt=N.rt∧N'.ex=N.ex→body x s nx done→G.go g (eX x) (en s) fun ρ2=>b N' ρ2):zfe it g b N ρ:=hi _ (by
 subst hs
 clear hi
 induction l generalizing s with
 | nil=>exact hd s h
 | cons x l ih=>exact hb x s _ _ (fun s' h'=>ih h') (fun s' h'=>ih h') (fun s' h'=>hd s' h') ⟨rfl,rfl⟩ h)
theorem ztC (i j:Nat) {f:Fl} {ns:List Int} (h:Env.at ρ j=some (eL f eI ns)) (hl:ns.length≤63) (q:N.nx (ρ.set i (some (zE ())))):zoo i j N ρ:=⟨f,ns,h,hl,q⟩
def Xo (n:Int) (K:Int→Prop):Prop:=0 < n∧n.natAbs < 2 ^ 2000∧∀ r:Int,0≤r→r < n→K r
theorem YQ {n:Int} {K:Int→Prop} {Q:D→Prop} (h:Xo n K) (k:∀ r,K r→Q (eI r)):zU [zE (),eI n] Q:=⟨n,rfl,h.1,h.2.1,fun r h0 h1=>k r (h.2.2 r h0 h1)⟩
theorem jO {Q:D→Prop} (ev:Ev te ρ d) (q:Q d):te ρ Q:=ev Q q
theorem zcp {o:DO} {Q:D→Prop} (h:ta ρ fun x=>tb ρ fun y=>o [x,y] Q):zP o ta tb ρ Q:=h
theorem Xp {Q:List D→Prop} (h:Q []):zK ρ Q:=h
theorem yE {Q:List D→Prop} (h:ta ρ fun x=>tr ρ fun xs=>Q (x::xs)):zm ta tr ρ Q:=h
theorem ztD {Q:D→Prop} (h:tr ρ fun ds=>ds.length≤1000∧Q (.tup ds)):dTup tr ρ Q:=h
def FnQ (S:zQ) (ds:List D) (Q:D→Prop):Prop:=S (D.fzs ds) fun c=>Q (if D.fls ds=true then c else c.wk)
theorem Qc {S:zQ} {Q:D→Prop} (h:tr ρ fun ds=>FnQ S ds Q):dFn S tr ρ Q:=h
theorem kh {S:zQ} {Q:D→Prop} {ds':List D} (hz:D.fzs ds=ds') (hf:D.fls ds=true) (h:S ds' Q):FnQ S ds Q:=by
 unfold FnQ
 rw [hz]
 have e:(fun c:D=>Q (if D.fls ds=true then c else c.wk))=Q:=by
  funext c
  rw [if_pos hf]
 rw [e]; exact h
theorem zqk {S:zQ} {Q:D→Prop} {ds':List D} (hz:D.fzs ds=ds') (hf:D.fls ds=false) (h:S ds' fun c=>Q c.wk):FnQ S ds Q:=by
 unfold FnQ
 rw [hz]
 have e:(fun c:D=>Q (if D.fls ds=true then c else c.wk))=fun c=>Q c.wk:=by
  funext c
  rw [if_neg (by rw [hf]; simp)]
 rw [e]; exact h
theorem zuq {Q:D→Prop} (h:d=d') (q:Q d'):Q d:=by
 rw [h]; exact q
instance:Inhabited OkS:=⟨⟨⟨#[]⟩,by decide+kernel⟩⟩
theorem zql {a:α→D} {x:α} (h1:Ev ta ρ (a x)):Ev (dTup (zm ta zK)) ρ (eT1 a x):=zkr (ea_cons h1 ea_nil) (Nat.le_of_ble_eq_true rfl)
theorem zcq {a:α→D} {b:β→D} {x:α} {y:β} {t1 t2:DT} (h1:Ev t1 ρ (a x)) (h2:Ev t2 ρ (b y)):Ev (dTup (zm t1 (zm t2 zK))) ρ (eT2 a b (x,y)):=zkr (ea_cons h1 (ea_cons h2 ea_nil)) (Nat.le_of_ble_eq_true rfl)
theorem zeV {a:α→D} {b:β→D} {c:γ→D} {x:α} {y:β} {z:γ} {t1 t2 t3:DT} (h1:Ev t1 ρ (a x)) (h2:Ev t2 ρ (b y)) (h3:Ev t3 ρ (c z)):Ev (dTup (zm t1 (zm t2 (zm t3 zK)))) ρ (eT3 a b c (x,y,z)):=zkr (ea_cons h1 (ea_cons h2 (ea_cons h3 ea_nil))) (Nat.le_of_ble_eq_true rfl)
theorem yH {e:α→D} (l:List α) (h:EvA tr ρ (l.map e)) (hl:l.length≤1000):Ev (Z6 tr) ρ (eL .o e l):=zrZ h (by rw [List.length_map]; exact hl)
theorem zku {f:Fl} {l:List α} {p:α→Bool}:Op (o1 ze7) [eL f eB (l.map p)] (eB (l.all p)):=fun Q q=>ztw Q (by
 rw [List.all_map]; exact q)
variable {ca cb:DTT}
theorem zur {Q:Bool→Prop} (h:ta ρ fun x=>bl? x Q):dB ta ρ Q:=h
theorem ztE {Q:Bool→Prop} (q:Q k):bl? (eB k) Q:=q
theorem zr5 (n:Nat) (h:te ρ fun d=>d.nb=true∧N.nx (ρ.set n (some d))):jr (.nm n) te N ρ:=by
 have e:(fun d=>d.nb=true∧G.go (.nm n) d ρ N.nx)=fun d=>d.nb=true∧N.nx (ρ.set n (some d)):=by
  funext d
  rw [zgs]
 show te ρ (fun d=>d.nb=true∧G.go (.nm n) d ρ N.nx)
 rw [e]; exact h
end
end DL
namespace DL
variable [Tb]
section
variable {α:Type} {N N':DE} {ρ:Env} {tr:DTA}
theorem zfn {rt:α→Prop} {e:α→D} (hr:N'.rt=N.rt) (h:∀ r,rt r→N.rt (e r)):∀ r,rt r→N'.rt (e r):=fun r z=>by
 rw [hr]; exact h r z
theorem zlA {b:Bool} (h:(!b)=true):b=false:=by cases b <;> first | rfl | cases h
theorem zlB {b:Bool} (h:(!b)=false):b=true:=by cases b <;> first | rfl | cases h
theorem s_same {x y:D} (h:x=y∧Pl 7 x):∀ Q:D→Prop,Q (eB true)→yg 8 [x,y] Q:=fun Q q=>by
 obtain ⟨rfl,h⟩:=h
 exact ⟨x,rfl,h,q⟩
end
end DL
namespace DL
variable [Tb]
section
variable {α β:Type} {ρ ρ':Env} {ta tb te:DT} {tr:DTA} {d d':D} {ds:List D} {k:Bool} {c:DTT} {t u v:DS} {N:DE} {it:DTI}
theorem qu (n:Nat) (ev:Ev te ρ d) (hb:d.nb=true) (q:u N (ρ.set n (some d))):zN (jr (.nm n) te) u N ρ:=ztz (N:={ N with nx:=u N}) n ev hb q
theorem zlC (ev:Ev te ρ d) (q:u N ρ):zN (zgN te) u N ρ:=zr4 (N:={ N with nx:=u N}) ev q
theorem kJ {vs:List Nat} (q:u N ρ') (h:yF ρ vs=ρ'):zN (jg vs) u N ρ:=QW (N:={ N with nx:=u N}) q h
theorem Yt (n:Nat) {e e':α→D} {v:α} [Fz e e'] (h:Env.at ρ n=some (e v)) (q:u N (ρ.set n (some (e' v)))):zN (Jq n) u N ρ:=ztA (N:={ N with nx:=u N}) n h q
theorem zr6 (i j:Nat) {f:Fl} {ns:List Int} (h:Env.at ρ j=some (eL f eI ns)) (hl:ns.length≤63) (q:u N (ρ.set i (some (zE ())))):zN (zoo i j) u N ρ:=ztC (N:={ N with nx:=u N}) i j h hl q
theorem zkv (h:u N ρ):({ N with nx:=u N}:DE).nx ρ:=h
theorem zbT (ev:EvT c ρ k) (ha:k=true→t { N with nx:=u N} ρ) (hb:k=false→v { N with nx:=u N} ρ):zN (X6 c t v) u N ρ:=ziV (N:={ N with nx:=u N}) ev ha hb
theorem YX (n:Nat) (h:te ρ fun d=>d.nb=true∧u N (ρ.set n (some d))):zN (jr (.nm n) te) u N ρ:=zr5 (N:={ N with nx:=u N}) n h
theorem zbU {σ:Type} {g:G} {b:DS} {body:α→σ→(σ→Prop)→(σ→Prop)→Prop} {done:σ→Prop} {l:List α} {s:σ} (en:σ→Env) (eX:α→D) (hi:EvI it ρ (l.map eX)) (hs:ρ=en s) (h:zaw body done l s)
  (hd:∀ s,done s→u N (en s))
  (hb:∀ x s (nx:σ→Prop) (N':DE),(∀ s,nx s→N'.nx (en s))→(∀ s,nx s→N'.ct (en s))→(∀ s,done s→N'.bk (en s))→N'.rt=N.rt∧N'.ex=N.ex→body x s nx done→G.go g (eX x) (en s) fun ρ2=>b N' ρ2):zN (zfe it g b) u N ρ:=ztB (N:={ N with nx:=u N}) en eX hi hs h hd hb
end
end DL
namespace DL
open PySem PySem.Spec PyProof.Rows L2
variable [Tb]
section
variable {α σ:Type} {body:α→σ→(σ→Prop)→(σ→Prop)→Prop} {done:σ→Prop}
theorem zfo (I:σ→Prop):∀ {l:List α} {s:σ},I s→(∀ x∈l,∀ s (nx bk:σ→Prop),I s→(∀ s',I s'→nx s')→(∀ s',done s'→bk s')→body x s nx bk)→(∀ s,I s→done s)→zaw body done l s
 | [],s,h0,_,hd=>hd s h0
 | x::l,s,h0,hb,hd=>hb x (List.mem_cons_self ..) s _ _ h0 (fun s' h'=>zfo I h' (fun y hy=>hb y (List.mem_cons_of_mem _ hy)) hd) (fun _ z=>z)
/-- by what has been walked -/
theorem Jc (I:List α→σ→Prop) {l:List α} {s:σ} (h0:I [] s) (hb:∀ pre x suf s (nx bk:σ→Prop),l=pre++x::suf→I pre s→(∀ s',I (pre++[x]) s'→nx s')→(∀ s',done s'→bk s')→body x s nx bk) (hd:∀ s,I l s→done s):zaw body done l s:=by
 have go:∀ (suf pre:List α) (s:σ),l=pre++suf→I pre s→zaw body done suf s:=by
  intro suf
  induction suf with
  | nil=>
   intro pre s e h
   rw [List.append_nil] at e
   subst e
   exact hd s h
  | cons x suf ih=>
   intro pre s e h
   exact hb pre x suf s _ _ e h (fun s' h'=>ih (pre++[x]) s' (by rw [e]; simp) h') (fun _ z=>z)
 exact go l [] s rfl h0
theorem zlD {lo hi:Int}:(ZK lo hi).length=(hi - lo).toNat:=by simp [ZK]
theorem zhB {lo hi x:Int}:x∈ZK lo hi↔lo≤x∧x < hi:=by
 unfold ZK
 rw [List.mem_map]
 constructor
 ·rintro ⟨i,hi,rfl⟩
  have:=List.mem_range.mp hi
  omega
 ·rintro ⟨h1,h2⟩
  exact ⟨(x - lo).toNat,List.mem_range.mpr (by omega),by omega⟩
theorem Zz {n:Int} {K:Int→Prop} (h0:0 < n) (h1:n≤1000000000000000000000) (h:∀ r,0≤r→r < n→K r):Xo n K:=⟨h0,by
 have:(2:Nat) ^ 100≤2 ^ 2000:=Nat.pow_le_pow_right (by decide) (by decide)
 generalize (2:Nat) ^ 2000=Y at *
 omega,h⟩
theorem zax [Inhabited α] {l:List α} {i:Int} (h0:0≤i) (h1:i < l.length):(atI l i).isSome=true∧gI l i∈l:=by
 have e:((i.toNat:Nat):Int)=i:=by omega
 have hj:i.toNat < l.length:=by omega
 have h:=Jm (r:=l) (i:=i.toNat) hj
 rw [e,List.getElem?_eq_getElem hj] at h
 unfold gI
 rw [h]
 exact ⟨rfl,List.getElem_mem hj⟩
theorem zr7 [Inhabited α] {l:List α} {i:Nat} (h:i < l.length):gI l (i:Int)=l[i]:=by
 unfold gI
 rw [Jm h,List.getElem?_eq_getElem h]
 rfl
theorem ztF {i j:Int} (h:i.natAbs≤10 ^ 100) (h':j.natAbs≤10 ^ 100):MulOk i j:=by
 have:(10:Nat) ^ 100 < 2 ^ 400:=by decide
 exact mok 400 400 (Nat.lt_of_le_of_lt h this) (Nat.lt_of_le_of_lt h' this)
/-- plain data -/
class PlC (n:Nat) (e:α→D):Prop where
 h:∀ x,Pl n (e x)
instance {n:Nat}:PlC n eI:=⟨fun _=>by cases n <;> (show Pl _ (.int _)) <;> (unfold Pl; trivial)⟩
instance {n:Nat}:PlC n eB:=⟨fun _=>by cases n <;> (show Pl _ (.bl _)) <;> (unfold Pl; trivial)⟩
instance {n:Nat}:PlC n eS:=⟨fun x=>by cases n <;> (show Pl _ (.str x.1)) <;> (unfold Pl; exact x.2)⟩
instance {n:Nat}:PlC n eU:=⟨fun _=>by cases n <;> (show Pl _ .non) <;> (unfold Pl; trivial)⟩
theorem zhC {n:Nat} {ds:List D} (hl:ds.length≤1000000) (h:∀ x∈ds,Pl n x):Pl (n+1) (.tup ds):=by
 unfold Pl
 exact ⟨hl,h⟩
variable {β γ δ:Type}
instance {n:Nat} {a:α→D} [PlC n a]:PlC (n+1) (eT1 a):=⟨fun x=>zhC (by simp) (by simp [PlC.h])⟩
instance {n:Nat} {a:α→D} {b:β→D} [PlC n a] [PlC n b]:PlC (n+1) (eT2 a b):=⟨fun x=>zhC (by simp) (by simp [PlC.h])⟩
instance {n:Nat} {a:α→D} {b:β→D} {c:γ→D} [PlC n a] [PlC n b] [PlC n c]:PlC (n+1) (eT3 a b c):=⟨fun x=>zhC (by simp) (by simp [PlC.h])⟩
instance {n:Nat} {a:α→D} {b:β→D} {c:γ→D} {d:δ→D} [PlC n a] [PlC n b] [PlC n c] [PlC n d]:PlC (n+1) (eT4 a b c d):=⟨fun x=>zhC (by simp) (by simp [PlC.h])⟩
instance {n:Nat} {a:α→D} [PlC n a]:PlC n (eO a):=⟨fun x=>by
 cases x with
 | none=>exact (inferInstance:PlC n eU).h ()
 | some x=>exact PlC.h x⟩
end
end DL
set_option maxHeartbeats 4000000
set_option exponentiation.threshold 50000
namespace DL
open PySem PySem.Spec PyProof.Rows L2
variable [Tb]
section
variable {X:Cx} {x:Str} {e:Expr} {es:List Expr} {apos cpos px spos:Pos} {tr:DTA} {te:DT} {k:Nat}
theorem zfp {name:Str} {id:String} {r:V→List V→Hp→VK→Prop} {op:DM} (hr:zkl X.K r op) (slot:Slot "list" name id) (hty:typeOf (.builtin id)=pure (.type "method_descriptor")) (hm:MtR X id r) (i:Nat) (ha:PDA X (e::es) tr)
  (hN:X.N[i]?=some x:=by rfl) (hv:Vis X.env.scope x:=by first | exact Or.inl rfl | exact Or.inr (Or.inl rfl) | exact Or.inr (Or.inr rfl)) (hd:(x == ("__debug__":Str))=false:=by decide) (hcd:(x == ("__classdict__":Str))=false:=by decide)
  (hbase:attributeBase (.Name x px) name X.env (eval (.Name x px) X.env)=eval (.Name x px) X.env:=by rfl)
  (hfew:((backTo cpos (starEach (e::es) X.env)).all (fun x=>!x.1)&&(backToKw cpos (keywordEach [] X.env)).all (fun x=>x.1.isSome)
   &&decide ((e::es).length+([]:List Keyword).length+(if ([]:List Keyword).isEmpty then 0 else 1) < 30))=true:=by rfl)
  (hline:(apos.endLine == cpos.line)=true:=by rfl) (hs:starEach (e::es) X.env=(false,eval e X.env)::starEach es X.env:=by rfl) (hplain:(backTo cpos (starEach es X.env)).any (·.1)=false:=by rfl)
  (hsw:swapsWith (.Call (.Attribute (.Name x px) name apos) (e::es) [] cpos) none spos.line X.env=pure false:=by rfl):
  PDS X (.Expr (.Call (.Attribute (.Name x px) name apos) (e::es) [] cpos) spos) (X7 i op tr Y5):=
 mPS (ps_expr (pe_bm PySem.F.plainAttrs_list slot hty hm (pv i hN hv hd hcd) ha hbase hfew hline hs hplain) hsw) fun _ _ _ h=>zgP hr h fun _ _ _ z=>z
end
end DL
namespace DL
open PySem PySem.Spec PyProof.Rows L2
variable [Tb]
section
variable {X:Cx} {x:Str} {e:Expr} {es:List Expr} {apos cpos px spos:Pos} {tr:DTA} {te:DT} {k:Nat}
/-- no argument -/
theorem zqm {K:PySem.W.Frag} {r:V→List V→Hp→VK→Prop} {to:TE} {σ:Sg} {H:Hp} {Q:VK} (h:tBM K "list" r to tNil σ H Q) (to_mono:∀ {Q Q':VK},to σ H Q→(∀ v H',Q v H'→Q' v H')→to σ H Q'):tBM0 K "list" r to σ H Q:=to_mono h fun _ _ q=>⟨q.1,q.2⟩
theorem zmI {i:Nat} {σ:Sg} {H:Hp} {Q Q':VK} (h:tVar i σ H Q) (k:∀ v H',Q v H'→Q' v H'):tVar i σ H Q':=by
 obtain ⟨v,e,q⟩:=h
 exact ⟨v,e,k _ _ q⟩
theorem zr8 {name:Str} {id:String} {r:V→List V→Hp→VK→Prop} {op:DM} (hr:zkl X.K r op) (slot:Slot "list" name id) (hty:typeOf (.builtin id)=pure (.type "method_descriptor")) (hm:MtR X id r) (i:Nat)
  (hN:X.N[i]?=some x:=by rfl) (hv:Vis X.env.scope x:=by first | exact Or.inl rfl | exact Or.inr (Or.inl rfl) | exact Or.inr (Or.inr rfl)) (hd:(x == ("__debug__":Str))=false:=by decide) (hcd:(x == ("__classdict__":Str))=false:=by decide)
  (hbase:attributeBase (.Name x px) name X.env (eval (.Name x px) X.env)=eval (.Name x px) X.env:=by rfl)
  (hline:(apos.endLine == cpos.line)=true:=by rfl)
  (hsw:swapsWith (.Call (.Attribute (.Name x px) name apos) [] [] cpos) none spos.line X.env=pure false:=by rfl):
  PDS X (.Expr (.Call (.Attribute (.Name x px) name apos) [] [] cpos) spos) (X7 i op zK Y5):=
 mPS (ps_expr (pe_bm0 PySem.F.plainAttrs_list slot hty hm (pv i hN hv hd hcd) hbase hline) hsw) fun _ _ _ h=>zqm (zgP (tA:=tNil) hr h fun _ _ _ z=>zaW z) fun q k=>zmI q k
end
section
variable {α:Type} {ρ:Env} {te:DT} {tr:DTA} {u:DS} {N:DE}
theorem zc8 (i:Nat) {e:α→D} {l:List α} {v:α} (hi:Env.at ρ i=some (eL .o e l)) (ev:Ev te ρ (e v)) (nb:(e v).nb=true) (hl:l.length < 1000000) (q:u N (ρ.set i (some (eL .o e (l++[v]))))):zN (X7 i zff (zm te zK) Y5) u N ρ:=by
 show X7 i zff (zm te zK) Y5 { N with nx:=u N} ρ
 unfold X7
 rw [hi]
 show zm te zK ρ _
 refine ev _ ⟨?_,?_,?_⟩
 ·show ((e v).nb&&D.nbs [])=true
  rw [nb]; rfl
 ·rw [List.length_map]; exact hl
 ·show u N _
  have:(l.map e++[e v])=(l++[v]).map e:=by simp
  rw [this]; exact q
def ztG (e:α→D) (l:List α) (d:D) (K:List D→Prop):Prop:=D.nbs [d]=true∧zff (l.map e) [d] fun xs' _=>K xs'
theorem zmJ (i:Nat) {e:α→D} {l:List α} (hi:Env.at ρ i=some (eL .o e l)) (h:te ρ fun d=>ztG e l d fun xs'=>u N (ρ.set i (some (.con .l .o xs')))):zN (X7 i zff (zm te zK) Y5) u N ρ:=by
 show X7 i zff (zm te zK) Y5 { N with nx:=u N} ρ
 unfold X7
 rw [hi]
 exact h
theorem zoC {e:α→D} {l:List α} {v:α} {K:List D→Prop} (nb:(e v).nb=true) (hl:l.length < 1000000) (q:K ((l++[v]).map e)):ztG e l (e v) K:=by
 refine ⟨?_,?_,?_⟩
 ·show ((e v).nb&&D.nbs [])=true
  rw [nb]; rfl
 ·rw [List.length_map]; exact hl
 ·have:(l.map e++[e v])=(l++[v]).map e:=by simp
  rw [this]; exact q
theorem zr9 (i:Nat) {e:α→D} {l:List α} (hi:Env.at ρ i=some (eL .o e l)) (q:u N (ρ.set i (some (eL .o e l.reverse)))):zN (X7 i zn7 zK Y5) u N ρ:=by
 show X7 i zn7 zK Y5 { N with nx:=u N} ρ
 unfold X7
 rw [hi]
 refine ⟨rfl,?_⟩
 show u N _
 rw [← List.map_reverse]; exact q
end
end DL
namespace DLE
open PySem PySem.AutoSeq1
theorem zqn (l:Addr) (items:Array Value) (n:Nat) (b:Addr) (items2:Array Value) (n2:Nat) (sl:Array (Option Value)) (hc0:¬(!items.isEmpty&&Builtin.List.listTooLong (items.size+items2.size))=true) (hc1:items.size≤sizeLine) (hs2:items.size+items2.size≤sizeLine+1):
  Meets (Builtin.«list.extend» ⟨[.ref l,.ref b],[]⟩) (fun _ R s=>s.heap.get? l=some { cls:=.type "list",dict:=none,data:=.seq items n,slots:=#[]}∧s.heap.get? b=some { cls:=.type "list",dict:=none,data:=.seq items2 n2,slots:=sl}∧R (.ok (.ret Value.none)) { s with heap:=s.heap.update l (Obj.mapSeq fun x=>x++items2),toks:=s.toks}):=
 .of_wp fun prog w A R s h=>by
  obtain ⟨hp,g,d,tk,os⟩:=s; obtain ⟨hl,hb,h⟩:=h; have f1:=idx_int; have f2:=sub_tuple_tuple; have f3:=sub_list_list; have f4:=sub_tuple_list; have f5:=sub_list_tuple;
  have hz':(items++items2).size≤sizeLine+1:=by rw [Array.size_append]; exact hs2
  wp_walk using (wpAny_updateSeq hl rfl (hz:=hc1) (_hz':=hz')),wpAny_loadPart' hl,wpAny_loadPart' hb; exact ⟨_,rfl,h⟩
end DLE
namespace DL
open PySem PySem.Spec PyProof.Rows L2
variable [Tb]
def zrn (K:PySem.W.Frag):V→List V→Hp→VK→Prop:=fun x vs H Q=>∃ l b xs zs,x=.ref l∧vs=[.ref b]∧H l=some (.lst xs)∧SqL K H b zs∧xs.length+zs.length≤sizeLine∧Q .non (upd H l (.lst (xs++zs)))
theorem zqo {X:Cx}:MtR X "list.extend" (zrn X.K):=by
 intro pins s σ H x vs v us Q I rx rv h
 obtain ⟨l,b,xs,zs,rfl,rfl,hH,hB,hz,q⟩:=h
 cases rx
 obtain ⟨u,rfl,ru⟩:=rv.one
 cases ru
 obtain ⟨z,its,n,r,hl,e⟩:=I.lstM hH
 obtain ⟨its2,r2,⟨o,n2,e2,c2,d2,dd2⟩,hl2⟩:=I.list hB
 have hlen2:=r2.length
 obtain ⟨cls,dict,data,sl⟩:=o
 have c2:cls=_:=c2
 have d2:dict=_:=d2
 have dd2:data=_:=dd2
 subst c2 d2 dd2
 have hsz:its.toArray.size+its2.toArray.size≤sizeLine:=by rw [List.size_toArray,List.size_toArray]; omega
 have hlong:¬(!its.toArray.isEmpty&&Builtin.List.listTooLong (its.toArray.size+its2.toArray.size))=true:=by
  rw [notLongL hsz,Bool.and_false]
  exact Bool.false_ne_true
 refine call_meets PySem.F.slot_list_extend ⟨_,e,rfl⟩ PySem.F.entry_list_extend (PySem.F.args_list_extend_2 _ _)
  (DLE.zqn l its.toArray n b its2.toArray n2 sl hlong (by rw [List.size_toArray]; omega) (by omega)) ⟨e,e2,?_⟩
 refine ⟨.non,_,I.lset (its':=its++its2) hH e (by simp) (r.append r2) ?_,rfl,q⟩
 rw [List.length_append]
 omega
def zoD:DM:=fun xs ds Q=>match ds with
 | [.con .l _ ys]=>xs.length+ys.length < 1000000∧D.nbs ys=true∧Q (xs++ys) .non
 | _=>False
theorem zoE {K:PySem.W.Frag}:zkl K (zrn K) zoD:=by
 intro P M B H l us xs Lx vs ds Ld N0 Q hl _ _ rx rd nd bx bd op k
 unfold zoD at op
 split at op
 ·obtain ⟨y,rfl,r⟩:=v1 rd
  obtain ⟨a,ws,L',rfl,hq,ry,hc⟩:=r.lst_inv
  have n2:=List.nodup_append.mp nd
  obtain ⟨n',s'⟩:=X3 hc n2.2.1
  have l1:=rx.len
  have l2:=ry.len
  have:(1000000:Nat) < sizeLine:=by decide
  refine ⟨l,a,us,ws,rfl,rfl,hl,hq,by omega,k _ _ (Lx++L') _ _ [] op.2.2 (zf.app rx ry) .non (fun b z=>?_) ?_ (zhj bx op.2.1) rfl⟩
  ·have z:b∈Lx++L':=z
   rcases List.mem_append.mp z with z | z
   ·exact List.mem_append_left _ z
   ·exact List.mem_append_right _ (s' b z)
  ·show (Lx++L').Nodup
   exact jV n2.1 n' fun b z q=>n2.2.2 b z b (s' b q) rfl
 ·exact op.elim
section
variable {α:Type} {ρ:Env} {te:DT} {tr:DTA} {u:DS} {N:DE}
theorem zmK (i:Nat) {e:α→D} {f:Fl} {l m:List α} [Nb e] (hi:Env.at ρ i=some (eL .o e l)) (ev:Ev te ρ (eL f e m)) (nb:(eL f e m).nb=true) (hl:l.length+m.length < 1000000) (q:u N (ρ.set i (some (eL .o e (l++m))))):zN (X7 i zoD (zm te zK) Y5) u N ρ:=by
 show X7 i zoD (zm te zK) Y5 { N with nx:=u N} ρ
 unfold X7
 rw [hi]
 show zm te zK ρ _
 refine ev _ ⟨?_,?_,?_,?_⟩
 ·show ((eL f e m).nb&&D.nbs [])=true
  rw [nb]; rfl
 ·rw [List.length_map,List.length_map]; exact hl
 ·exact nbS (all_map Nb.h m)
 ·show u N _
  have:(l.map e++m.map e)=(l++m).map e:=by simp
  rw [this]; exact q
end
def o3 (f:D→D→D→(D→Prop)→Prop):DO:=fun ds Q=>match ds with
 | [x,y,z]=>f x y z Q
 | _=>False
def xY {α:Type} (xs:List α) (lo hi:Option Int):List α:=(xs.drop (HT.sIx xs.length 0 lo)).take (HT.sIx xs.length xs.length hi - HT.sIx xs.length 0 lo)
def ziW:D→Option (Option Int)
 | .non=>some none
 | .int i=>some (some i)
 | _=>none
def slD:D→D→D→(D→Prop)→Prop:=fun d a b Q=>match ziW a,ziW b with
 | some lo,some hi=>(match d with
  | .con .l _ xs=>Q (.con .l .o (xY xs lo hi))
  | .tup xs=>¬(HT.sIx xs.length 0 lo=0∧HT.sIx xs.length xs.length hi=xs.length)∧Q (.tup (xY xs lo hi))
  | .str z=>z.length≤sizeLine∧Q (.str (cutS z lo hi))
  | _=>False)
 | _,_=>False
def ztH (t:DT):DT:=fun ρ Q=>t ρ fun d=>match d with
 | .int i=>Q (.int i)
 | _=>False
def dNo:DT:=dC .non
def dSo (t:DT):DT:=ztH t
def dSl (t a b:DT):DT:=dCall (o3 slD) (zm t (zm a (zm b zK)))
def OD (a:DT):Prop:=∀ (K:PySem.W.Frag) (σ:Sg) (H:Hp) (Q:VK),lift K a σ H Q→lift K a σ H fun v H'=>(v=.non∨∃ i,v=.int i)∧Q v H'
def zlE (K:PySem.W.Frag) (a:DT):TO:=fun σ H Q=>lift K a σ H fun v H'=>(v=.non→Q none H')∧∀ i,v=.int i→Q (some i) H'
structure PDO (X:Cx) (e:Option Expr) (a:DT):Prop where
 po:PO X e (zlE X.K a)
 od:OD a
theorem zsa {t:DT}:OD (ztH t):=fun K σ H Q h=>by
 obtain ⟨P,M,B,ρ,Q0,s,sl,h0,k⟩:=h
 refine ⟨P,M,B,ρ,fun d=>(∃ i,d=.int i)∧Q0 d,s,sl,?_,fun v H' r=>?_⟩
 ·have e:(fun d:D=>match d with
    | .int i=>((∃ j,D.int i=.int j)∧Q0 (.int i):Prop)
    | _=>False)=fun d:D=>match d with
    | .int i=>Q0 (.int i)
    | _=>False:=by
   funext d
   cases d <;> simp
  show t ρ (fun d:D=>match d with
    | .int i=>((∃ j,D.int i=.int j)∧Q0 (.int i):Prop)
    | _=>False)
  rw [e]
  exact h0
 ·obtain ⟨c,Lr,⟨⟨i,rfl⟩,q⟩,g,p,r,n,f⟩:=r
  obtain ⟨rfl,rfl⟩:=r.int_inv
  exact ⟨.inr ⟨i,rfl⟩,k _ _ ⟨_,_,q,g,p,r,n,f⟩⟩
theorem ztI:OD dNo:=fun K σ H Q h=>by
 have h1:tC .non σ H Q:=Kr (fun _ _ _ _=>.non) h
 obtain ⟨P,M,B,ρ,Q0,s,sl,h0,k⟩:=h
 refine ⟨P,M,B,ρ,fun d=>d=.non,s,sl,rfl,fun v H' r=>?_⟩
 obtain ⟨c,Lr,rfl,g,p,r,n,f⟩:=r
 obtain ⟨rfl,rfl⟩:=r.zhc
 exact ⟨.inl rfl,k _ _ ⟨_,_,h0,g,p,r,n,f⟩⟩
section
variable {X:Cx}
theorem Y8:PDO X none dNo:=⟨⟨fun pins s σ H Q I h=>po_none.run pins s σ H Q I (by
 have h1:tC .non σ H _:=Kr (fun _ _ _ _=>.non) h
 exact h1.1 rfl)⟩,ztI⟩
theorem Y9 {e:Expr} {t:DT} (h:PD X e t):PDO X (some e) (dSo t):=⟨⟨fun pins s σ H Q I hh=>(po_some h).run pins s σ H Q I (by
 show lift X.K t σ H _
 obtain ⟨P,M,B,ρ,Q0,s,sl,h0,k⟩:=hh
 refine ⟨P,M,B,ρ,_,s,sl,h0,fun v H' r=>?_⟩
 obtain ⟨c,Lr,q,g,p,r,n,f⟩:=r
 cases c with
 | int i=>
  obtain ⟨rfl,rfl⟩:=r.int_inv
  exact ⟨i,rfl,(k _ _ ⟨_,_,q,g,p,r,n,f⟩).2 i rfl⟩
 | _=>exact q.elim)⟩,zsa⟩
def rSlA (K:PySem.W.Frag):V→Option Int→Option Int→Hp→VK→Prop:=fun x lo hi H Q=>rSlL K x lo hi H Q∨(rSlT K x lo hi H Q∨rSlS x lo hi H Q)
theorem zsb:SlR X (rSlA X.K):=SlR.or sl_list (SlR.or sl_tup sl_str)
theorem ziX {K:PySem.W.Frag} {P:zR} {M B L:List Addr} {H:Hp} {vs:List V} {ds:List D} (r:zf K P M B H vs ds L) (n:L.Nodup) (lo hi:Option Int):∃ L',zf K P M B H (cutV vs lo hi) (xY ds lo hi) L'∧(∀ a∈L',a∈L)∧L'.Nodup:=by
 have hl:=r.len
 obtain ⟨L1,L2,_,r2,e2⟩:=zbS (HT.sIx ds.length 0 lo) r
 obtain ⟨L3,L4,r3,_,e4⟩:=zbS (HT.sIx ds.length ds.length hi - HT.sIx ds.length 0 lo) r2
 refine ⟨L3,?_,fun a z=>by rw [e2,e4]; simp [z],?_⟩
 ·unfold cutV xY
  rw [hl]; exact r3
 ·rw [e2,e4] at n
  exact (List.nodup_append.mp (List.nodup_append.mp n).2.1).1
theorem zro {K:PySem.W.Frag} {x y z:V} {H:Hp} {Q:VK} {lo hi:Option Int} (hy:(y=.non∧lo=none)∨∃ i,y=.int i∧lo=some i) (hz:(z=.non∧hi=none)∨∃ i,z=.int i∧hi=some i) (h:rC K (o3 slD) [x,y,z] H Q):rSlA K x lo hi H Q:=by
 obtain ⟨P,M,B,ds,L,Q0,A,q,k⟩:=h
 unfold o3 at q
 split at q
 ·rename_i d a b
  have rr:=A.reps
  cases rr with
  | @cons _ _ _ _ L1 L2 h1 rr=>
  obtain ⟨u,w,L3,L4,e1,rfl,h2,h3⟩:=v2 rr
  injection e1 with e1 e2
  injection e2 with e2 _
  subst e1 e2
  have pa:ziW a=some lo:=by
   have h2':=h2
   rcases hy with ⟨rfl,rfl⟩ | ⟨i,rfl,rfl⟩
   ·cases a with
    | non=>rfl
    | _=>cases h2
   ·cases a with
    | int j=>cases h2; rfl
    | _=>cases h2
  have pb:ziW b=some hi:=by
   rcases hz with ⟨rfl,rfl⟩ | ⟨i,rfl,rfl⟩
   ·cases b with
    | non=>rfl
    | _=>cases h3
   ·cases b with
    | int j=>cases h3; rfl
    | _=>cases h3
  unfold slD at q
  rw [pa,pb] at q
  have hs:∀ a∈L1,a∈L1++(L3++L4):=fun a z=>List.mem_append_left _ z
  have n1:=(List.nodup_append.mp A.nd).1
  cases d with
  | con ct kk xs=>
   obtain rfl:ct=.l:=by
    cases ct with
    | l=>rfl
    | _=>exact (show False from q).elim
   obtain ⟨a1,vs,L',rfl,hq,r,c⟩:=h1.lst_inv
   obtain ⟨n',s'⟩:=X3 c n1
   obtain ⟨L'',r',s'',n''⟩:=ziX r n' lo hi
   exact .inl ⟨a1,vs,rfl,hq,fun p hp=>k _ _ (A.zgp hp r' (fun b z=>hs b (s' b (s'' b z))) n'' q)⟩
  | tup xs=>
   obtain ⟨a1,vs,rfl,hq,r⟩:=h1.Qs
   obtain ⟨L'',r',s'',n''⟩:=ziX r n1 lo hi
   have hl:=r.len
   exact .inr (.inl ⟨a1,vs,rfl,hq.sq,by rw [hl]; exact q.1,fun p hp=>k _ _ (A.zrM hp r' (fun b z=>hs b (s'' b z)) n'' q.2)⟩)
  | str z=>
   obtain ⟨rfl,_⟩:=h1.str_inv
   exact .inr (.inr ⟨z,rfl,q.1,k _ _ (A.plain (fun {_}=>.str) q.2)⟩)
  | _=>exact (show False from q).elim
 ·exact q.elim
theorem zqp {K:PySem.W.Frag} {t a b:DT} {σ:Sg} {H:Hp} {Q:VK} (oa:OD a) (ob:OD b) (h:lift K (dSl t a b) σ H Q):tSl (rSlA K) (lift K t) (zlE K a) (zlE K b) σ H Q:=by
 have h1:=XR (zcS h)
 refine Zj h1 fun x H1 h2=>?_
 have h2:=XR h2
 refine Zj (oa _ _ _ _ h2) fun y H2 ⟨hy,h3⟩=>?_
 have h3:=XR h3
 have fin:∀ lo:Option Int,((y=.non∧lo=none)∨∃ i,y=.int i∧lo=some i)→zlE K b σ H2 fun hi H3=>rSlA K x lo hi H3 Q:=fun lo hlo=>by
  refine Zj (ob _ _ _ _ h3) fun z H3 ⟨hz,h4⟩=>?_
  have h4:=zaW h4
  exact ⟨fun e=>zro hlo (.inl ⟨e,rfl⟩) h4,fun i e=>zro hlo (.inr ⟨i,e,rfl⟩) h4⟩
 exact ⟨fun e=>fin none (.inl ⟨e,rfl⟩),fun i e=>fin (some i) (.inr ⟨i,e,rfl⟩)⟩
theorem zes {e:Expr} {lo hi:Option Expr} {t a b:DT} {pos p2:Pos} (he:PD X e t) (ha:PDO X lo a) (hb:PDO X hi b):PD X (.Subscript e (.Slice lo hi none p2) pos) (dSl t a b):=mPE (pe_slice zsb he ha.po hb.po) fun _ _ _ h=>zqp ha.od hb.od h
end
section
variable {α β γ:Type} {ρ:Env} {ta tb:DT} {i:Int}
def EvO (a:DT) (ρ:Env) (o:Option Int):Prop:=∃ d,Ev a ρ d∧ziW d=some o
theorem Qw:EvO dNo ρ none:=⟨.non,fun _ q=>q,rfl⟩
theorem Qx (h:Ev ta ρ (eI i)):EvO (dSo ta) ρ (some i):=⟨.int i,fun _ q=>h _ q,rfl⟩
theorem zqq {e:α→D} {l:List α} {lo hi:Option Int}:xY (l.map e) lo hi=(xY l lo hi).map e:=by
 unfold xY
 rw [List.length_map,List.map_take,List.map_drop]
theorem ziY {e:α→D} {f:Fl} {l:List α} {lo hi:Option Int} {a b:DT} (h:Ev ta ρ (eL f e l)) (ha:EvO a ρ lo) (hb:EvO b ρ hi):Ev (dSl ta a b) ρ (eL .o e (xY l lo hi)):=fun Q q=>by
 obtain ⟨d1,e1,p1⟩:=ha
 obtain ⟨d2,e2,p2⟩:=hb
 refine h _ (e1 _ (e2 _ ?_))
 show slD (.con .l f (l.map e)) d1 d2 Q
 unfold slD
 rw [p1,p2]
 show Q (.con .l .o (xY (l.map e) lo hi))
 rw [zqq]; exact q
end
end DL
set_option maxHeartbeats 4000000
set_option exponentiation.threshold 50000
namespace DL
open PySem PySem.Spec PyProof.Rows L2
variable [Tb]
abbrev GG:={α:Type}→List α→List α→List α→List α
/-- positional ones,what lacks,the keywords' -/
def dKw (n m:Nat) (g:GG) (md:List D) (tr tk:DTA):DTA:=fun ρ Q=>tr ρ fun xs=>tk ρ fun ys=>xs.length=n∧ys.length=m∧Q (g xs md ys)
structure GOk (n l m:Nat) (g:GG):Prop where
 vals:∀ {vs mz zs:List V} {us mv ws:List Value},Vals vs us→Vals mz mv→Vals zs ws→Vals (g vs mz zs) (g us mv ws)
 reps:∀ {K:PySem.W.Frag} {P:zR} {M B:List Addr} {H:Hp} {vs mz zs:List V} {ds md es:List D} {L1 L2:List Addr},ds.length=n→md.length=l→es.length=m→zf K P M B H vs ds L1→zf K P M B H mz md []→zf K P M B H zs es L2→(L1++L2).Nodup→
  ∃ L,zf K P M B H (g vs mz zs) (g ds md es) L∧L.Nodup∧∀ a∈L,a∈L1++L2
section
variable {K:PySem.W.Frag} {P:zR} {M B:List Addr} {H:Hp} {σ:Sg}
theorem ziZ {n l m:Nat} {g:GG} {md:List D} {mz:List V} {tr tk:DTA} {R:List V→Hp→Prop} (G:GOk n l m g) (hl:md.length=l) (hm:∀ (P:zR) (M B:List Addr) (H:Hp),zf K P M B H mz md []) (h:XQ K (dKw n m g md tr tk) σ H R):
  XQ K tr σ H fun vs H1=>XQ K tk σ H1 fun zs H2=>vs.length=n∧zs.length=m∧R (g vs mz zs) H2:=by
 obtain ⟨P,M,B,ρ,Q0,s,sl,t,k⟩:=h
 refine ⟨P,M,B,ρ,_,s,sl,t,fun vs H1 r1=>?_⟩
 obtain ⟨ds,L1,t1,g1,p1,r1,n1,f1⟩:=r1
 have s1:=s.after g1 p1 fun a z=>(zf.own r1 a z).1
 refine ⟨P,L1++M,L1++B,ρ,_,s1,sl.after s g1 f1,t1,fun zs H2 r2=>?_⟩
 obtain ⟨es,L2,⟨l1,l2,t2⟩,g2,p2,r2,n2,f2⟩:=r2
 have r1':=zf.gr g2 s1.lists (yx f2) (yx f2) r1
 have nd:(L1++L2).Nodup:=jV n1 n2 fun a z q=>zf.trk r1 a z (f2 a q)
 obtain ⟨L,rL,nL,sL⟩:=G.reps (K:=K) (P:=P) (M:=(L1++L2)++M) (B:=(L1++L2)++B) (H:=H2) l1 hl l2 (zf.sub (fun a z=>mem3.mpr z) (fun a z=>mem3.mpr z) r1') (hm _ _ _ _) (zf.sub (fun a z=>mem3.mpr z) (fun a z=>mem3.mpr z) r2) nd
 have fr:∀ a∈L,H a=none:=fun a z=>by
  rcases List.mem_append.mp (sL a z) with z | z
  ·exact f1 a z
  ·exact g1.nil p1 (f2 a z)
 have sub:∀ {M:List Addr},∀ a∈L++M,a∈(L1++L2)++M:=fun a z=>(List.mem_append.mp z).elim (fun q=>List.mem_append_left _ (sL a q)) fun q=>List.mem_append_right _ q
 refine ⟨r1.len.trans l1,r2.len.trans l2,k _ _ ⟨_,L,t2,g1.trans g2,p2.grow fun a z=>.inl (mem3.mpr (sub a z)),?_,nL,fr⟩⟩
 exact zf.sub sub sub rL
end
abbrev PDK (X:Cx) (kws:List Keyword) (t:DTA):Prop:=PK X kws (XQ X.K t)
theorem mPK {X:Cx} {kws:List Keyword} {t t':TA} (h:PK X kws t) (k:∀ σ H Q,t' σ H Q→t σ H Q):PK X kws t':=⟨fun pos pins s σ H Q I hw=>h.run pos pins s σ H Q I (k _ _ _ hw)⟩
section
variable {X:Cx} {kws:List Keyword} {e:Expr} {te:DT} {tr:DTA} {nm:Option Str} {kpos:Pos}
theorem zhD:PDK X [] zK:=mPK pk_nil fun _ _ _ h=>zaW h
theorem zoF (ha:PD X e te) (hr:PDK X kws tr):PDK X (⟨nm,e,kpos⟩::kws) (zm te tr):=mPK (pk_cons ha hr) fun _ _ _ h=>XR h
end
/-- a def with keyword-only parameters keeps a promise -/
def FdK (P:Program) (w:World) (K:PySem.W.Frag) (mg:Str→Option Value) (base:Heap) (k:Nat) (x:Str) (st:Stmt) (ps:List Str) (kws:List (Str×V)) (S:zQ):Prop:=
 ∃ f fd,FnOk P w K mg base CX0 k f fd ps (Q8 K S)∧mg x=some (.ref f)∧PySem.W.keepIn K (.ref f)=true∧FunD K x x (defArgs st) (defBody st) (defScope st) [] kws f fd
theorem FdK.imp {P:Program} {w:World} {K:PySem.W.Frag} {mg:Str→Option Value} {base:Heap} {x:Str} {st:Stmt} {ps:List Str} {kws:List (Str×V)} {S:zQ} {k k':Nat} (F:FdK P w K mg base k x st ps kws S) (hk:k≤k'):FdK P w K mg base k' x st ps kws S:=by
 obtain ⟨f,fd,F,a,b,c⟩:=F
 exact ⟨f,fd,F.mono hk,a,b,c⟩
/-- a call's binding:n positional values,the keywords ks,what lacks ms -/
def zkw (x:Str) (st:Stmt) (ps:List Str) (n:Nat) (ks:List Str) (ms:List Str) (g:GG):Prop:=
 ∀ (D:Addr) (doc pm:Value) (an:Option Addr) (cdv ct:Value) (us mv ws:List Value),us.length=n→mv.length=ms.length→ws.length=ks.length→
  KwChain D (ms.zip mv) (bindArgs (PySem.W.fnOf x x (defArgs st) (defBody st) (defScope st) .none (.ref D) doc pm an cdv ct) ⟨us,ks.zip ws⟩) (ps.zip (g us mv ws))
section
variable {X:Cx} {e:Expr} {es:List Expr} {kwl:List Keyword} {pos p:Pos} {tr tk:DTA} {k n:Nat} {x:Str} {S:zQ} {st:Stmt} {ps ks:List Str} {kws ms:List (Str×V)} {md:List D} {g:GG}
theorem zoG (F:FdK X.prog X.w X.K X.mg X.base k x st ps kws S) (hr:Room k X.A) (G:GOk n ms.length ks.length g) (ko:zkw x st ps n ks (ms.map (·.1)) g) (hk:kws≠[]) (hms:∀ q∈ms,q∈kws) (hml:md.length=ms.length)
  (hmd:∀ (P:zR) (M B:List Addr) (H:Hp),zf X.K P M B H (ms.map (·.2)) md []) (ha:PDA X (e::es) tr) (hkw:PDK X kwl tk) (hg:Gl X x:=by rfl)
  (hall:(backToKw pos (keywordEach kwl X.env)).all (·.1.isSome)=true:=by rfl) (hks:(backToKw pos (keywordEach kwl X.env)).filterMap (·.1)=ks:=by rfl)
  (hdb:(x == ("__debug__":Str))=false:=by decide) (he:starEach (e::es) X.env=(false,eval e X.env)::starEach es X.env:=by rfl)
  (hpl:((backTo pos (starEach (e::es) X.env)).any (·.1)||(backToKw pos (keywordEach kwl X.env)).any (·.1.isNone))=false:=by rfl):
  PD X (.Call (.Name x p) (e::es) kwl pos) (dFn S (dKw n ks.length g md tr tk)):=by
 obtain ⟨f,fd,F,a,b,c⟩:=F
 obtain ⟨mv,hb⟩:=FunD.kbinds0 (ps:=ps) c n ks ms g hk hms (fun r1 r2 r3=>G.vals r1 r2 r3) (fun D doc pm an cdv ct us mv ws h1 h2 h3=>ko D doc pm an cdv ct us mv ws h1 (by rw [List.length_map]; exact h2) h3)
 refine mPE (pe_callN F hr hg a b hb (E:=E0) (CX:=CX0) pass0 ha hkw hall hks hdb he hpl) fun σ H Q h=>?_
 exact ziZ G hml hmd (zlj (E:=E0) h)
end
section
variable {n l m:Nat}
theorem ztJ:GOk n 0 m (fun us _ ws=>us++ws):=⟨fun a _ c=>a.append c,fun _ _ _ r1 _ r2 nd=>⟨_,zf.app r1 r2,nd,fun _ z=>z⟩⟩
theorem zrp:GOk n l 0 (fun us mv _=>us++mv):=⟨fun a b _=>a.append b,fun _ _ _ r1 r0 r2 nd=>⟨_,zf.app r1 r0,by rw [List.append_nil]; exact (List.nodup_append.mp nd).1,fun a z=>by rw [List.append_nil] at z; exact List.mem_append_left _ z⟩⟩
end
/-- THE RULE for such a def -/
theorem FdK.of {P:Program} {w:World} {K:PySem.W.Frag} {mg:Str→Option Value} {base:Heap} {x:Str} {st:Stmt} {f:Addr} {fd:FuncData} {kws:List (Str×V)} {N ps:List Str} {k:Nat} {S:zQ} {t:DS} (F:FunD K x x (defArgs st) (defBody st) (defScope st) [] kws f fd) (gm:mg x=some (.ref f)) (Sc:FnScope N ps (defScope st))
  (walk:∀ (cdv:Value) (A:Around) (outer:List PySem.Env) (s:Shared) (H:Hp) (E:XK),Room k (A.deeper (envOfC x (defScope st) s.heap.objs.size f cdv))→PDB (cxOf CX0 P w K mg base N x (defScope st) f cdv A outer s H E).nox (defBody st) t)
  (hS:∀ ds Q,S ds Q→ds.length=ps.length∧t (yU Q) (zH N.length ds)):FdK P w K mg base (k+1) x st ps kws S:=by
 refine ⟨f,fd,F.ok (N:=N) Sc (fun vs H Q E h=>?_) (fun cdv A outer s H vs Q E hr h=>⟨_,PSs.nox (walk cdv A outer s H E hr),Q9 hS h⟩),gm,F.kp,F⟩
 obtain ⟨P',M,ds,Q0,s,r,pf,q,_⟩:=h
 rw [r.len]
 exact (hS _ _ q).1
section
variable {ρ:Env} {tr tk:DTA} {ds es xs:List D} {n m:Nat} {g:GG} {md:List D}
theorem zoH (h1:EvA tr ρ ds) (h2:EvA tk ρ es) (l1:ds.length=n) (l2:es.length=m) (e:g ds md es=xs):EvA (dKw n m g md tr tk) ρ xs:=fun Q q=>h1 _ (h2 _ ⟨l1,l2,by subst e; exact q⟩)
end
end DL
set_option maxHeartbeats 4000000
set_option exponentiation.threshold 50000
namespace DL
open PySem PySem.Spec PyProof.Rows L2
variable [Tb]
def zbk (g:G) (tt:DTT) (it1:DTI) (vs1:List Nat) (g1:G) (tt1:DTT) (te:DT) (ρw:Env):List D→List D→(List D→Prop)→Prop
 | [],acc,Q=>Q acc
 | d::ds,acc,Q=>G.go g d ρw fun ρ2=>tt ρ2 fun b=>if b=true then it1 ρ2 fun es=>acc.length+es.length≤1000000∧Qo g1 tt1 te (yF ρ2 vs1) es acc fun acc'=>zbk g tt it1 vs1 g1 tt1 te ρw ds acc' Q else zbk g tt it1 vs1 g1 tt1 te ρw ds acc Q
def zoI (it:DTI) (vs:List Nat) (g:G) (tt:DTT) (it1:DTI) (vs1:List Nat) (g1:G) (tt1:DTT) (te:DT):DT:=fun ρ Q=>it ρ fun ds=>zbk g tt it1 vs1 g1 tt1 te (yF ρ vs) ds [] fun ys=>Q (.con .l .o ys)
section
variable {K:PySem.W.Frag} {P:zR} {M B L Lr:List Addr} {H H' H5:Hp} {σ:Sg} {ρ:Env} {v:V} {d:D} {ds es:List D} {vs:List V} {J:It} {A:Addr} {us us':List V}
theorem Slots.X5 {o:HO} (h:Slots K P M B H σ ρ) (hc:H A=some (.lst us)) (hm:A∈M) (hb:A∈B):Slots K P M B (upd H A o) σ ρ:=by
 obtain ⟨hl,F,h1,h2,h3,h4⟩:=h
 refine ⟨hl,F,fun i d e=>?_,h2,h3,h4⟩
 obtain ⟨v,e1,r⟩:=h1 i d e
 exact ⟨v,e1,Rep.X5 (.l hc) hm hb r fun z=>(h2 i A z).2 hb⟩
theorem Src.X5 {N:List Addr} {o:HO} (h:Src K P N M B H ds J) (hN:A∈N) (hc:H A=some (.lst us)) (hm:A∈M) (hb:A∈B):Src K P N M B (upd H A o) ds J:=by
 have f:∀ {a vs},SqF K N H a vs→SqF K N (upd H A o) a vs:=fun h=>SqF.upd h hN
 have r:∀ {vs ds},zf K P M B H vs ds []→zf K P M B (upd H A o) vs ds []:=fun h=>zf.X5 (.l hc) hm hb h fun z=>nomatch z
 cases h with
 | gen f=>exact .gen fun H2 k=>f H2 ((Kp.mo (.l hc)).trans k)
 | lst h1 h2=>exact .lst (f h1) (r h2)
 | tup h1 h2=>exact .tup (TpT.upd h1 (.l hc)) (r h2)
 | str=>exact .str
 | rng=>exact .rng
 | rdn=>exact .rdn
 | enum h1 h2=>exact .enum (f h1) (r h2)
 | zipL h1 h2 h3 h4=>exact .zipL (f h1) (r h2) (f h3) (r h4)
 | zipS h1 h2 h3 h4 h5=>exact .zipS (f h1) (r h2) (f h3) (r h4) h5
 | zipX h3 h4 h5=>exact .zipX (f h3) (r h4) h5
 | zipT h1 h2 h3 h4=>exact .zipT (TpT.upd h1 (.l hc)) (r h2) (TpT.upd h3 (.l hc)) (r h4)
theorem Stt.X5 {o:List V} (s:Stt P M B H) (hm:A∈M):Stt P M B (upd H A (.lst o)):=⟨s.zM.mut hm,s.sub,fun a z=>(s.ls a z).upd .l,fun x z=>(s.tabs x z).mo (s.ls A hm)⟩
/-- where an inner loop stands:the list at A has grown,new lists Lr -/
structure In2 (P:zR) (M B:List Addr) (H5:Hp) (A:Addr) (H:Hp) (us:List V) (Lr:List Addr):Prop where
 s:Stt P M B H5
 am:A∈M
 ab:A∈B
 a5:∃ us0,H5 A=some (.lst us0)
 at_:H A=some (.lst us)
 gr:Gr (A::P.as) H5 H
 new:∀ a∈Lr,H5 a=none
 zM:zF P (Lr++M) H
 own:∀ a∈Lr,Mo H a
theorem In2.g (I:In2 P M B H5 A H us Lr):Gr P.as (upd H5 A (.lst us)) H:=⟨fun b o hb n=>by
 by_cases e:b=A
 ·subst e
  rw [upd_same] at hb
  cases hb
  exact I.at_
 ·rw [upd_ne e] at hb
  exact I.gr b o hb fun z=>(List.mem_cons.mp z).elim e n,fun b q mT t=>I.gr.tab b q mT (jo.unset (o:=.lst us) (fun _ z=>(nomatch z)) (fun _ _ z=>(nomatch z)) t)⟩
theorem In2.nw (I:In2 P M B H5 A H us Lr):∀ a∈Lr,(upd H5 A (.lst us)) a=none:=fun a z=>by
 obtain ⟨us0,e0⟩:=I.a5
 have:a≠A:=fun e=>by
  subst e
  rw [I.new a z] at e0; cases e0
 rw [upd_ne this]; exact I.new a z
theorem In2.stt (I:In2 P M B H5 A H us Lr):Stt P (Lr++M) (Lr++B) H:=(I.s.X5 I.am).after I.g I.zM I.own
theorem In2.slots (I:In2 P M B H5 A H us Lr) (sl:Slots K P M B H5 σ ρ):Slots K P (Lr++M) (Lr++B) H σ ρ:=by
 obtain ⟨us0,e0⟩:=I.a5
 exact Slots.after (I.s.X5 I.am) (sl.X5 e0 I.am I.ab) I.g I.nw
theorem In2.wk (I:In2 P M B H5 A H us Lr) (h:Src K P (P.as++B) M B H5 ds J):Wk K P (Lr++M) (Lr++B) H ds J:=by
 obtain ⟨us0,e0⟩:=I.a5
 exact ((h.X5 (List.mem_append_right _ I.ab) e0 I.am I.ab).gr (I.s.X5 I.am).lists I.g (yx I.nw) (yx I.nw)).now I.stt.lists
theorem In2.keep (I:In2 P M B H5 A H us Lr) (g:Gr P.as H H') (p:zF P (Lr++M) H'):In2 P M B H5 A H' us Lr:=by
 have np:∀ a∈Lr++M,a∉P.as:=I.stt.np
 refine ⟨I.s,I.am,I.ab,I.a5,g _ _ I.at_ (np A (List.mem_append_right _ I.am)),I.gr.trans (g.sub fun _ z=>List.mem_cons_of_mem _ z),I.new,p,fun a z=>(I.own a z).gr g (np a (List.mem_append_left _ z))⟩
theorem In2.fresh (I:In2 P M B H5 A H us Lr) {a:Addr} (h:H a=none):H5 a=none:=by
 cases e:H5 a with
 | none=>rfl
 | some o=>
  by_cases hp:a∈P.as
  ·obtain ⟨ys,q⟩:=I.stt.lists a hp
   rw [q] at h; cases h
  ·by_cases ha:a=A
   ·subst ha
    rw [I.at_] at h; cases h
   ·exact absurd h (I.gr a o e fun z=>(List.mem_cons.mp z).elim ha hp).trk
theorem zoJ {it it1:DTI} {sv vs1:List Nat} {g g1:G} {tt tt1:DTT} {te:DT} {Q:VK} {wi wi1:TI} {tT tT1:TT} {tE:TE} (h:lift K (zoI it sv g tt it1 vs1 g1 tt1 te) σ H Q)
  (hw:∀ R,zbR K it σ H R→wi σ H R) (hT:∀ σ H Q,liftT K tt σ H Q→tT σ H Q) (hw1:∀ σ H R,zbR K it1 σ H R→wi1 σ H R) (hT1:∀ σ H Q,liftT K tt1 σ H Q→tT1 σ H Q) (hE:∀ σ H Q,lift K te σ H Q→tE σ H Q)
  (hs:∀ i∈g.slots,i∈sv) (hs1:∀ i∈g1.slots,i∈vs1):tLc2 wi (G.tg K g) tT wi1 (G.tg K g1) tT1 tE sv vs1 σ H Q:=by
 obtain ⟨P,M,B,ρ,Q0,s,sl,t,k⟩:=h
 refine hw _ ⟨P,M,B,ρ,_,s,sl,t,fun ds J H1 q gg1 p1 src=>?_⟩
 intro A hA
 have s1:=s.keep gg1 p1
 have sl1:=sl.keep s gg1
 refine ⟨fun i m H=>i≤ds.length∧m=ds.length - i∧∃ acc us L,zcc K P M B H1 A H acc us L∧zbk g tt it1 vs1 g1 tt1 te (yF ρ sv) (ds.drop i) acc fun ys=>Q0 (.con .l .o ys),
  ⟨ds.length,Nat.zero_le _,by omega,[],[],[],⟨upd_same,.nil,by simp,fun a z=>?_,Gr.laid hA,(p1.grow fun a z=>?_).laid hA⟩,q⟩,?_⟩
 ·have e:a=A:=by simpa using z
  rw [e]; exact hA
 ·rcases List.mem_append.mp z with z | z
  ·have e:a=A:=by simpa using z
   exact .inr (e ▸ hA)
  ·exact .inl z
 rintro i m H2 ⟨hi,rfl,acc,us,L,inv,q⟩
 have s2:=inv.stt s1
 have sl2:=sl1.after (Lr:=A::L) s1 inv.gr inv.new
 have wk:=(src.gr s1.lists inv.gr (yx inv.new) (yx inv.new)).now s2.lists
 by_cases hlt:i < ds.length
 ·refine .inr ⟨wk.go i hlt,fun H'=>∃ acc us L,zcc K P M B H1 A H' acc us L∧zbk g tt it1 vs1 g1 tt1 te (yF ρ sv) (ds.drop (i+1)) acc fun ys=>Q0 (.con .l .o ys),fun H' h'=>⟨_,by omega,hlt,rfl,h'⟩,fun x H3 y=>?_⟩
  obtain ⟨hg,d,ed,rd⟩:=wk.yld i x H3 hlt y
  have g3:Gr P.as H2 H3:=by
   rcases hg with e | ⟨T,ys,e1,e2⟩
   ·rw [e]; exact Gr.refl
   ·rw [e2]; exact Gr.laid e1
  have p3:zF P ((A::L)++M) H3:=by
   rcases hg with e | ⟨T,ys,e1,e2⟩
   ·rw [e]; exact inv.zM
   ·rw [e2]; exact inv.zM.laid e1
  have inv3:=inv.keep s1 g3 p3
  have s3:=inv3.stt s1
  rw [drop_at ed] at q
  simp only [zbk] at q
  refine G.ok sv (g:=g) (R:=[]) (L:=[]) hs (((sl2.keep s2 g3).x.wipe sv).res fun a z=>z) rd (fun _ z=>nomatch z) List.nodup_nil (fun _ z=>nomatch z) q fun ρ' σ' q' sl' e=>⟨e.trans (zcX _ _),?_⟩
  refine hT _ _ _ ⟨P,_,_,ρ',_,s3,sl'.s,q',fun b H4 q4 g4 p4=>?_⟩
  have inv4:=inv3.keep s1 g4 p4
  have s4:=inv4.stt s1
  have sl4:=sl'.s.keep s3 g4
  cases b with
  | false=>exact ⟨acc,us,L,inv4,q4⟩
  | true=>
   refine hw1 _ _ _ ⟨P,_,_,ρ',_,s4,sl4,q4,fun es J1 H5 q5 g5 p5 src5=>?_⟩
   obtain ⟨hlen,q5⟩:=q5
   have inv5:=inv4.keep s1 g5 p5
   have s5:=inv5.stt s1
   have sl5:=sl4.keep s4 g5
   have hAm:∀ {N:List Addr},A∈(A::L)++N:=List.mem_append_left _ (List.mem_cons_self ..)
   have hAL:A∉L:=(List.nodup_cons.mp inv5.nd).1
   refine ⟨fun j k H=>j≤es.length∧k=es.length - j∧∃ acc' us' Lr,In2 P ((A::L)++M) ((A::L)++B) H5 A H us' Lr∧zf K P (Lr++((A::L)++M)) (Lr++((A::L)++B)) H us' acc' (L++Lr)∧(L++Lr).Nodup∧acc'.length≤acc.length+j∧
     Qo g1 tt1 te (yF ρ' vs1) (es.drop j) acc' fun acc''=>zbk g tt it1 vs1 g1 tt1 te (yF ρ sv) (ds.drop (i+1)) acc'' fun ys=>Q0 (.con .l .o ys),
    ⟨es.length,Nat.zero_le _,by omega,acc,us,[],⟨s5,hAm,hAm,⟨us,inv5.at_⟩,inv5.at_,Gr.refl,(fun _ z=>(nomatch z)),inv5.zM,(fun _ z=>(nomatch z))⟩,by rw [List.append_nil]; exact inv5.reps,by rw [List.append_nil]; exact (List.nodup_cons.mp inv5.nd).2,by omega,q5⟩,?_⟩
   rintro j k' H6 ⟨hj,rfl,acc',us',Lr,I2,r6,n6,hacc,q6⟩
   have s6:=I2.stt
   have sl6:=I2.slots sl5
   have wk1:=I2.wk src5
   have hALr:A∉Lr:=fun z=>by
    obtain ⟨us0,e0⟩:=I2.a5
    rw [I2.new A z] at e0; cases e0
   by_cases hlt1:j < es.length
   ·refine .inr ⟨wk1.go j hlt1,fun H=>∃ acc' us' Lr,In2 P ((A::L)++M) ((A::L)++B) H5 A H us' Lr∧zf K P (Lr++((A::L)++M)) (Lr++((A::L)++B)) H us' acc' (L++Lr)∧(L++Lr).Nodup∧acc'.length≤acc.length+(j+1)∧
     Qo g1 tt1 te (yF ρ' vs1) (es.drop (j+1)) acc' fun acc''=>zbk g tt it1 vs1 g1 tt1 te (yF ρ sv) (ds.drop (i+1)) acc'' fun ys=>Q0 (.con .l .o ys),fun H' h'=>⟨_,by omega,hlt1,rfl,h'⟩,fun x1 H7 y1=>?_⟩
    obtain ⟨hg1,d1,ed1,rd1⟩:=wk1.yld j x1 H7 hlt1 y1
    have g7:Gr P.as H6 H7:=by
     rcases hg1 with e | ⟨T,ys,e1,e2⟩
     ·rw [e]; exact Gr.refl
     ·rw [e2]; exact Gr.laid e1
    have p7:zF P (Lr++((A::L)++M)) H7:=by
     rcases hg1 with e | ⟨T,ys,e1,e2⟩
     ·rw [e]; exact I2.zM
     ·rw [e2]; exact I2.zM.laid e1
    have I7:=I2.keep g7 p7
    have r7:=zf.gr g7 s6.lists (fun _ z=>.inl z) (fun _ z=>.inl z) r6
    rw [drop_at ed1] at q6
    simp only [Qo] at q6
    refine G.ok vs1 (g:=g1) (R:=[]) (L:=[]) hs1 (((sl6.keep s6 g7).x.wipe vs1).res fun a z=>z) rd1 (fun _ z=>nomatch z) List.nodup_nil (fun _ z=>nomatch z) q6 fun ρ'' σ'' q' sl'' e=>⟨e.trans (zcX _ _),?_⟩
    refine hT1 _ _ _ ⟨P,_,_,ρ'',_,I7.stt,sl''.s,q',fun b H8 q8 g8 p8=>?_⟩
    have I8:=I7.keep g8 p8
    have r8:=zf.gr g8 I7.stt.lists (fun _ z=>.inl z) (fun _ z=>.inl z) r7
    have sl8:=sl''.s.keep I7.stt g8
    cases b with
    | false=>exact ⟨acc',us',Lr,I8,r8,n6,by omega,q8⟩
    | true=>
     refine hE _ _ _ ⟨P,_,_,ρ'',_,I8.stt,sl8,q8,fun yv H9 r9=>?_⟩
     obtain ⟨c,Ln,q9,g9,p9,r9,n9,f9⟩:=r9
     have f9:∀ a∈Ln,H8 a=none:=fun a z=>(f9 a z).elim id fun q=>nomatch q
     have I9:=I8.keep g9 (p9.grow fun a z=>.inl (jt a z))
     have rus:=zf.gr g9 I8.stt.lists (yx f9) (yx f9) r8
     have hAn:A∉Ln:=fun z=>by
      have:=f9 A z
      rw [I8.at_] at this; cases this
     have hmem:∀ {N:List Addr},∀ a∈(Lr++Ln)++N,a∈Ln++(Lr++N):=fun a z=>by
      simp only [List.mem_append] at z ⊢
      rcases z with (z | z) | z
      ·exact .inr (.inl z)
      ·exact .inl z
      ·exact .inr (.inr z)
     have hAX:∀ {N:List Addr},A∈Ln++(Lr++((A::L)++N)):=List.mem_append_right _ (List.mem_append_right _ hAm)
     refine ⟨us',I9.at_,?_,acc'++[c],us'++[yv],Lr++Ln,⟨I9.s,I9.am,I9.ab,I9.a5,upd_same,I9.gr.trans (Gr.set (List.mem_cons_self ..) I9.at_ (fun _ _ z=>nomatch z) fun _ z=>nomatch z),fun a z=>?_,(p9.mut (c:=A) hAX).grow fun a z=>.inl (hmem a z),fun a z=>?_⟩,?_,?_,?_,q9⟩
     ·have hl:=r8.len
      have:(1000000:Nat) < sizeLine:=by decide
      omega
     ·rcases List.mem_append.mp z with z | z
      ·exact I8.new a z
      ·exact I8.fresh (f9 a z)
     ·refine Mo.upd ?_ .l
      rcases List.mem_append.mp z with z | z
      ·exact I9.own a z
      ·exact (Rep.own r9 a z).1
     ·have h1:=zf.X5 (o:=.lst (us'++[yv])) (.l I9.at_) hAX hAX rus (fun z=>(List.mem_append.mp z).elim hAL hALr)
      have h2:=Rep.X5 (o:=.lst (us'++[yv])) (.l I9.at_) hAX hAX r9 hAn
      have h3:=zf.app h1 (zf.cons h2 .nil)
      rw [List.append_nil,List.append_assoc] at h3
      exact zf.sub hmem hmem h3
     ·rw [← List.append_assoc]
      exact jV n6 n9 fun a z q=>zf.trk r8 a z (f9 a q)
     ·rw [List.length_append]; simp; omega
   ·have e:j=es.length:=by omega
    subst e
    rw [List.drop_length] at q6
    simp only [Qo] at q6
    have hmem:∀ {N:List Addr},∀ a∈(A::(L++Lr))++N,a∈Lr++((A::L)++N):=fun a z=>by
     simp only [List.cons_append,List.mem_cons,List.mem_append] at z ⊢
     rcases z with z | (z | z) | z
     ·exact .inr (.inl z)
     ·exact .inr (.inr (.inl z))
     ·exact .inl z
     ·exact .inr (.inr (.inr z))
    refine .inl ⟨wk1.stop,acc',us',L++Lr,⟨I2.at_,zf.sub hmem hmem r6,List.nodup_cons.mpr ⟨fun z=>(List.mem_append.mp z).elim hAL hALr,n6⟩,fun a z=>?_,inv5.gr.skip I2.gr hA,I2.zM.grow fun a z=>.inl (hmem a z)⟩,q6⟩
    ·rcases List.mem_cons.mp z with z | z
     ·rw [z]; exact hA
     ·rcases List.mem_append.mp z with z | z
      ·exact inv5.new a (List.mem_cons_of_mem _ z)
      ·exact inv5.gr.nil inv5.zM (I2.new a z)
 ·have e:i=ds.length:=by omega
  subst e
  rw [List.drop_length] at q
  simp only [zbk] at q
  refine .inl ⟨wk.stop,k _ _ ⟨.con .l .o acc,A::L,q,gg1.trans inv.gr,inv.zM,.lstO inv.at_ (s2.np A (List.mem_append_left _ (List.mem_cons_self ..))) inv.reps,inv.nd,fun a z=>.inl (gg1.nil p1 (inv.new a z))⟩⟩
end
end DL
set_option maxHeartbeats 4000000
set_option exponentiation.threshold 50000
namespace DL
open PySem PySem.Spec PyProof.Rows L2
variable [Tb]
section
variable {X:Cx} {elt tg iter tg1 iter1:Expr} {ifs ifs1:List Expr} {scope:Scope} {own:List (Str×Nat)} {pos:Pos} {it it1:DTI} {g g1:G} {tt tt1:DTT} {te:DT} {k:Nat}
theorem zsc (vs1:List Nat) (d:Gd X k) (hi:PIC X tg iter it) (ok:blkC X.N X.env.scope scope own=true) (hsl:∀ i∈g.slots,i∈own.map (·.2)) (hv:∀ i∈vs1,i∈own.map (·.2)) (hsl1:∀ i∈g1.slots,i∈vs1)
  (hg:Blk X scope fun Y=>PDG Y tg g) (ht:Blk X scope fun Y=>zmz Y ifs tt) (hi1:Blk X scope fun Y=>PIC Y tg1 iter1 it1) (hg1:Blk X scope fun Y=>PDG Y tg1 g1) (ht1:Blk X scope fun Y=>zmz Y ifs1 tt1) (he:Blk X scope fun Y=>PD Y elt te)
  (hs:∀ x,foldedSetIterable iter X.env x=pure x:=by intro _; rfl) (hs1:∀ env x,foldedSetIterable iter1 env x=pure x:=by intro _ _; rfl):
  PD X (.ListComp elt [⟨tg,iter,ifs,0⟩,⟨tg1,iter1,ifs1,0⟩] scope pos) (zoI it (own.map (·.2)) g tt it1 vs1 g1 tt1 te):=
 mPE (pe_lc2 d.calm d.nd hi (blkOk_by ok) hv hg ht hi1 hg1 ht1 he hs hs1) fun _ _ _ h=>zoJ h (fun _ z=>z) (fun _ _ _ z=>z) (fun _ _ _ z=>z) (fun _ _ _ z=>z) (fun _ _ _ z=>z) hsl hsl1
end
section
variable {α β γ:Type} {ρ:Env} {it it1:DTI} {vs vs1:List Nat} {g g1:G} {tt tt1:DTT} {te:DT}
theorem zsd {eX:α→D} {eY:β→D} {eZ:γ→D} {l:List α} {c:α→Bool} {l1:α→List β} {c1:α→β→Bool} {f:α→β→γ} (en2:α→Env) (en3:α→β→Env) (hi:EvI it ρ (l.map eX)) (hl:((l.filter c).flatMap l1).length≤1000000)
  (hg:∀ x (N:Env→Prop),N (en2 x)→G.go g (eX x) (yF ρ vs) N) (ht:∀ x∈l,EvT tt (en2 x) (c x)) (hi1:∀ x∈l,c x=true→EvI it1 (en2 x) ((l1 x).map eY)) (hg1:∀ x y (N:Env→Prop),N (en3 x y)→G.go g1 (eY y) (yF (en2 x) vs1) N)
  (ht1:∀ x∈l,c x=true→∀ y∈l1 x,EvT tt1 (en3 x y) (c1 x y)) (he:∀ x∈l,c x=true→∀ y∈l1 x,c1 x y=true→Ev te (en3 x y) (eZ (f x y))):
  Ev (zoI it vs g tt it1 vs1 g1 tt1 te) ρ (eL .o eZ ((l.filter c).flatMap fun x=>((l1 x).filter (c1 x)).map (f x))):=fun Q q=>hi _ (by
 have go:∀ (l':List α) (acc:List γ) (QA:List D→Prop),(∀ x∈l',x∈l)→acc.length+((l'.filter c).flatMap l1).length≤1000000→QA ((acc++(l'.filter c).flatMap fun x=>((l1 x).filter (c1 x)).map (f x)).map eZ)→zbk g tt it1 vs1 g1 tt1 te (yF ρ vs) (l'.map eX) (acc.map eZ) QA:=by
  intro l'
  induction l' with
  | nil=>
   intro acc QA _ _ h
   show QA (acc.map eZ)
   simpa using h
  | cons x l' ih=>
   intro acc QA hm hl h
   show G.go g (eX x) (yF ρ vs) _
   refine hg x _ (ht x (hm x (List.mem_cons_self ..)) _ ?_)
   cases ec:c x with
   | false=>
    rw [if_neg (by simp)]
    rw [List.filter_cons,if_neg (by rw [ec]; simp)] at hl h
    exact ih acc QA (fun y hy=>hm y (List.mem_cons_of_mem _ hy)) hl h
   | true=>
    rw [if_pos rfl]
    rw [List.filter_cons,if_pos ec,List.flatMap_cons,List.length_append] at hl
    rw [List.filter_cons,if_pos ec,List.flatMap_cons] at h
    have hx:=hm x (List.mem_cons_self ..)
    refine hi1 x hx ec _ ⟨by rw [List.length_map,List.length_map]; omega,zfl (t:=c1 x) (h:=fun y=>eZ (f x y)) (l1 x) (fun y hy K1 K2 kk=>?_) ?_⟩
    ·refine hg1 x y _ (ht1 x hx ec y hy _ ?_)
     cases e1:c1 x y with
     | true=>rw [e1] at kk; exact he x hx ec y hy e1 _ kk
     | false=>rw [e1] at kk; exact kk
    ·have e:acc.map eZ++((l1 x).filter (c1 x)).map (fun y=>eZ (f x y))=(acc++((l1 x).filter (c1 x)).map (f x)).map eZ:=by rw [List.map_append,List.map_map]; rfl
     rw [e]
     refine ih _ QA (fun y hy=>hm y (List.mem_cons_of_mem _ hy)) ?_ ?_
     ·have:=List.length_filter_le (c1 x) (l1 x)
      rw [List.length_append,List.length_map]
      omega
     ·rw [List.append_assoc]; exact h
 exact go l [] _ (fun _ z=>z) (by simpa using hl) (by rw [List.nil_append]; exact q))
theorem zqr {eX:α→D} {eY:β→D} {eZ:γ→D} {l:List α} {l1:α→List β} {f:α→β→γ} (en2:α→Env) (en3:α→β→Env) (hi:EvI it ρ (l.map eX)) (hl:(l.flatMap l1).length≤1000000)
  (hg:∀ x (N:Env→Prop),N (en2 x)→G.go g (eX x) (yF ρ vs) N) (hi1:∀ x∈l,EvI it1 (en2 x) ((l1 x).map eY)) (hg1:∀ x y (N:Env→Prop),N (en3 x y)→G.go g1 (eY y) (yF (en2 x) vs1) N)
  (he:∀ x∈l,∀ y∈l1 x,Ev te (en3 x y) (eZ (f x y))):
  Ev (zoI it vs g ZP it1 vs1 g1 ZP te) ρ (eL .o eZ (l.flatMap fun x=>(l1 x).map (f x))):=by
 have:=zsd (tt:=ZP) (tt1:=ZP) (c:=fun _=>true) (c1:=fun _ _=>true) (eZ:=eZ) en2 en3 hi (by rw [filter_all]; exact hl) hg (fun _ _ Q q=>q) (fun x hx _=>hi1 x hx) hg1 (fun _ _ _ _ _ Q q=>q) (fun x hx _ y hy _=>he x hx y hy)
 simp only [filter_all] at this
 exact this
end
end DL
namespace DL
open PySem PySem.Spec PyProof.Rows L2
variable [Tb]
section
variable {X:Cx} {a e i:Expr} {ta te ti:DT} {p p1 p2 q pos px spos:Pos} {k:Int} {j kk:Nat} {x:Str}
theorem zse {k2:Nat} {p3:Pos} (ha:PD X a ta):PD X (.Subscript a (.Slice none none (some (.UnaryOp .USub (.Constant (.int 1) k2 p1) p2)) p3) pos) (dUn (o1 fun d Q=>match d with
  | .con .l _ xs=>Q (.con .l .o xs.reverse)
  | _=>False) ta):=mPE (pe_revL ha) fun σ H Q h=>by
 refine Zj (Xq h) fun v H1 h1=>?_
 refine to1 h1 fun P M B v' d L Q0 ev A r f k'=>?_
 injection ev with ev _
 subst ev
 split at f
 ·obtain ⟨a1,vs,L',rfl,hq,rr,c⟩:=r.lst_inv
  obtain ⟨n',s'⟩:=X3 c A.nd
  obtain ⟨L2,r2,pm⟩:=ziu rr
  exact ⟨a1,vs,rfl,hq,fun p hp=>k' _ _ (A.zgp hp r2 (fun b z=>s' b (pm.mem_iff.mp z)) (pm.nodup_iff.mpr n') f)⟩
 ·exact f.elim
end
section
variable {α:Type} {ρ:Env} {ta te ti:DT} {u:DS} {N:DE} {i k:Int}
theorem zsf {e:α→D} {f:Fl} {l:List α} (h:Ev ta ρ (eL f e l)):Ev (dUn (o1 fun d Q=>match d with
  | .con .l _ xs=>Q (.con .l .o xs.reverse)
  | _=>False) ta) ρ (eL .o e l.reverse):=fun Q q=>h _ (by
 show Q (.con .l .o (l.map e).reverse)
 rw [← List.map_reverse]; exact q)
end
end DL
namespace L2
open PySem PySem.Spec PyProof.Rows
end L2
namespace DL
open PySem PySem.Spec PyProof.Rows L2
variable [Tb]
def tupI (k:List Int):D:=.tup (k.map D.int)
/-- unlike ones -/
def zc9 {α:Type} [DecidableEq α]:List α→List α
 | []=>[]
 | x::l=>if x∈l then zc9 l else x::zc9 l
section
variable {α:Type} [DecidableEq α]
theorem zay {x:α}:∀ {l:List α},x∈zc9 l↔x∈l
 | []=>Iff.rfl
 | y::l=>by
  unfold zc9
  split
  ·rename_i h
   rw [zay,List.mem_cons]
   exact ⟨.inr,fun z=>z.elim (fun e=>e ▸ h) id⟩
  ·rw [List.mem_cons,List.mem_cons,zay]
theorem Jv:∀ (l:List α),(zc9 l).Nodup
 | []=>List.nodup_nil
 | y::l=>by
  unfold zc9
  split
  ·exact Jv l
  ·rename_i h
   exact List.nodup_cons.mpr ⟨fun z=>h (zay.mp z),Jv l⟩
theorem zlF:∀ (l:List α),(zc9 l).length≤l.length
 | []=>Nat.le_refl _
 | y::l=>by
  have:=zlF l
  unfold zc9
  split
  ·rw [List.length_cons]; omega
  ·rw [List.length_cons,List.length_cons]; omega
theorem zlG:∀ {l:List α},(zc9 l).length < l.length↔¬l.Nodup
 | []=>by simp [zc9]
 | y::l=>by
  have h0:=zlF l
  have ih:=@zlG l
  unfold zc9
  rw [List.nodup_cons,List.length_cons]
  split
  ·rename_i h
   exact ⟨fun _ z=>z.1 h,fun _=>by omega⟩
  ·rename_i h
   rw [List.length_cons]
   constructor
   ·intro z q
    exact ih.mp (by omega) q.2
   ·intro z
    have:=ih.mpr fun q=>z ⟨h,q⟩
    omega
end
/-- tuples of ints -/
class ztK {α:Type} (e:α→D) (g:outParam (α→List Int)):Prop where
 h:∀ x,e x=tupI (g x)
 inj:∀ x y,g x=g y→x=y
instance:ztK (eT2 eI eI) (fun p=>[p.1,p.2]):=⟨fun _=>rfl,fun x y h=>by
 simp only [List.cons.injEq,and_true] at h
 exact Prod.ext h.1 h.2⟩
end DL
namespace DL
variable [Tb]
section
variable {α:Type} {ρ:Env} {t:DT} {Q:D→Prop} {i:Int}
theorem zoK {β:Type} {S:zQ} {Q:D→Prop} {ds ds':List D} {R:β→Prop} {e e':β→D} [WkC e e'] (hz:D.fzs ds=ds') (hf:D.fls ds=false) (s:∀ Q:D→Prop,(∀ r,R r→Q (e r))→S ds' Q) (q:∀ r,R r→Q (e' r)):FnQ S ds Q:=zqk hz hf (s _ fun r hr=>zuq (Q:=Q) (WkC.h r) (q r hr))
end
end DL
namespace DL
open PySem PySem.Spec PyProof.Rows L2
variable [Tb]
section
variable {X:Cx} {x:Str} {pos:Pos}
theorem zfq {i:Int} (hm:∃ t,X.mg x=some (.int i t)) (hg:Gl X x:=by rfl) (hd:(x == ("__debug__":Str))=false:=by decide):PD X (.Name x pos) (dC (.int i)):=mPE (pe_glob (v:=.int i) hg hm.choose_spec ⟨_,rfl⟩ hd) fun _ _ _=>Kr fun _ _ _ _=>.int
theorem zoL {i:Str} (hm:∃ t,X.mg x=some (.str i t)) (hg:Gl X x:=by rfl) (hd:(x == ("__debug__":Str))=false:=by decide):PD X (.Name x pos) (dC (.str i)):=mPE (pe_glob (v:=.str i) hg hm.choose_spec ⟨_,rfl⟩ hd) fun _ _ _=>Kr fun _ _ _ _=>.str
end
end DL
namespace DL
open PySem PySem.Spec PyProof.Rows L2
variable [Tb]
section
variable {α β:Type}
def eH2 (k:Fl) (a:α→D) (b:β→D):α×β→D:=fun p=>.con .l k [a p.1,b p.2]
variable {a a':α→D} {b b':β→D}
instance [Pf a] [Pf b]:Pf (eH2 .f a b):=⟨fun x=>by show (true&&((a x.1).pf&&((b x.2).pf&&true)))=true; rw [Pf.h,Pf.h]; rfl,fun x=>npS (ds:=[a x.1,b x.2]) (by simp [Pf.np])⟩
instance [Nb a] [Nb b]:Nb (eH2 .o a b):=⟨fun x=>nbS (ds:=[a x.1,b x.2]) (by simp [Nb.h])⟩
instance {k:Fl} [Np a] [Np b]:Np (eH2 k a b):=⟨fun x=>npS (ds:=[a x.1,b x.2]) (by simp [Np.h])⟩
instance [Vw a a'] [Vw b b']:Vw (eH2 .o a b) (eH2 .b a' b'):=⟨fun x=>by show D.lst .b [(a x.1).vw,(b x.2).vw]=_; rw [Vw.h (e':=a'),Vw.h (e':=b')]; rfl⟩
instance:Vw (eH2 .b a b) (eH2 .b a b):=⟨fun _=>rfl⟩
instance:Vw (eH2 .f a b) (eH2 .f a b):=⟨fun _=>rfl⟩
instance:Fz (eH2 .f a b) (eH2 .f a b):=⟨fun _=>rfl⟩
instance [Fz a a'] [Fz b b']:Fz (eH2 .o a b) (eH2 .f a' b'):=⟨fun x=>by show D.lst .f [(a x.1).fz,(b x.2).fz]=_; rw [Fz.h (e':=a'),Fz.h (e':=b')]; rfl⟩
instance [Fz a a'] [Fz b b']:Fz (eH2 .b a b) (eH2 .f a' b'):=⟨fun x=>by show D.lst .f [(a x.1).fz,(b x.2).fz]=_; rw [Fz.h (e':=a'),Fz.h (e':=b')]; rfl⟩
instance [Rt a a'] [Rt b b']:Rt (eH2 .o a b) (eH2 .o a' b'):=⟨fun x=>by show D.lst .o [(a x.1).rt,(b x.2).rt]=_; rw [Rt.h (e':=a'),Rt.h (e':=b')]; rfl⟩
instance [WkC a a'] [WkC b b']:WkC (eH2 .o a b) (eH2 .o a' b'):=⟨fun x=>by show D.lst .o [(a x.1).wk,(b x.2).wk]=_; rw [WkC.h (e':=a'),WkC.h (e':=b')]; rfl⟩
instance [WkC a a'] [WkC b b']:WkC (eH2 .f a b) (eH2 .b a' b'):=⟨fun x=>by show D.lst .b [(a x.1).wk,(b x.2).wk]=_; rw [WkC.h (e':=a'),WkC.h (e':=b')]; rfl⟩
instance:FlC true (eH2 .f a b):=⟨fun _=>rfl⟩
instance:FlC false (eH2 .o a b):=⟨fun _=>rfl⟩
instance:FlC false (eH2 .b a b):=⟨fun _=>rfl⟩
instance {n:Nat} {k:Fl} [ShC n a] [ShC n b]:ShC (n+1) (eH2 k a b):=⟨fun x=>zfm (by simp [ShC.h])⟩
instance {k:Fl}:NN (eH2 k a b):=⟨fun _=>rfl,fun _=>rfl,fun _=>rfl⟩
variable [DecidableEq α] [DecidableEq β]
instance {k k':Fl} [EqX a a'] [EqX b b']:EqX (eH2 k a b) (eH2 k' a' b'):=⟨fun x y=>by
 show eqD (.con .l k [a x.1,b x.2]) (.con .l k' [a' y.1,b' y.2])=_
 rw [za0,qU,qU,zat,EqX.h,EqX.h,Bool.and_true,← Bool.decide_and]; exact decide_eq_decide.mpr (by rw [Prod.ext_iff])⟩
instance {k:Fl} [EqC a] [EqC b]:EqC (eH2 k a b):=⟨fun x y=>by
 show eqD (.con .l k [a x.1,b x.2]) (.con .l k [a y.1,b y.2])=_
 rw [za0,qU,qU,zat,EqC.h,EqC.h,Bool.and_true,← Bool.decide_and]; exact decide_eq_decide.mpr (by rw [Prod.ext_iff])⟩
end
inductive Flt where
 | ok
 | w1 (s:OkS)
 | w2 (s:OkS) (i:Int)
 | w3 (s:OkS) (i j:Int)
 deriving DecidableEq
def eF:Flt→D
 | .ok=>.non
 | .w1 s=>.tup [.str s.1]
 | .w2 s i=>.tup [.str s.1,.int i]
 | .w3 s i j=>.tup [.str s.1,.int i,.int j]
instance:Pf eF:=⟨fun x=>by cases x <;> rfl,fun x=>by cases x <;> rfl⟩
instance:WkC eF eF:=⟨fun x=>by cases x <;> rfl⟩
instance:FlC true eF:=⟨fun x=>by cases x <;> rfl⟩
instance {n:Nat}:ShC (n+1) eF:=⟨fun x=>by
 cases x with
 | ok=>exact (inferInstance:ShC (n+1) eU).h ()
 | w1 s=>exact (inferInstance:ShC (n+1) (eT1 eS)).h s
 | w2 s i=>exact (inferInstance:ShC (n+1) (eT2 eS eI)).h (s,i)
 | w3 s i j=>exact (inferInstance:ShC (n+1) (eT3 eS eI eI)).h (s,i,j)⟩
end DL
namespace DL
open PySem PySem.Spec PyProof.Rows L2
variable [Tb]
def dFz (t:DT):DT:=fun ρ Q=>t ρ fun d=>d.nb=true∧Q d.fz
section
variable {K:PySem.W.Frag} {σ:Sg} {H:Hp} {Q:VK} {t:DT}
theorem zqs (h:lift K (dFz t) σ H Q):lift K t σ H Q:=by
 obtain ⟨P,M,B,ρ,Q0,s,sl,t,k⟩:=h
 refine ⟨P,M,B,ρ,_,s,sl,t,fun v H' r=>k v H' ?_⟩
 obtain ⟨d,L,⟨nb,q⟩,g,p,r,n,f⟩:=r
 have f:∀ a∈L,H a=none:=fun a z=>(f a z).elim id fun q=>nomatch q
 exact ⟨d.fz,[],q,g,p.grow fun a z=>.inl (List.mem_append_right _ z),(Rep.fzn (N:=M) (M:=L++M) (fun a z=>List.mem_append_right _ z) r nb fun a z q=>s.trk a q (f a z)).1,List.nodup_nil,fun _ z=>nomatch z⟩
end
section
variable {X:Cx} {e:Expr} {t:DT} {ρ:Env} {α:Type} {a a':α→D} {v:α}
theorem JN (h:PD X e t):PD X e (dFz t):=mPE h fun _ _ _=>zqs
theorem JQ [Nb a] [Fz a a'] (h:Ev t ρ (a v)):Ev (dFz t) ρ (a' v):=fun Q q=>h _ ⟨Nb.h v,by rw [Fz.h (e':=a')]; exact q⟩
end
end DL
set_option maxHeartbeats 4000000
set_option exponentiation.threshold 50000
namespace DL
open PySem PySem.Spec PyProof.Rows L2
end DL
set_option maxHeartbeats 4000000
namespace DL
open PySem PySem.Spec PyProof.Rows L2
end DL
set_option maxHeartbeats 4000000
namespace DL
open PySem PySem.Spec PyProof.Rows L2
variable [Tb]
section
variable {K:PySem.W.Frag} {P:zR} {M B:List Addr} {H:Hp} {σ:Sg} {ρ:Env} {E:Ends}
theorem Slots.take (h:Slots K P M B H σ ρ) {m n:Nat} (hn:n≤m):Slots K P M B H (σ.take m) (ρ.take n):=by
 obtain ⟨hl,F,h1,h2,h3,h4⟩:=h
 refine ⟨by rw [List.length_take,List.length_take]; omega,F,fun i d e=>?_,h2,h3,h4⟩
 rw [List.getElem?_take] at e
 split at e
 ·rename_i hi
  obtain ⟨v,e1,r⟩:=h1 i d e
  exact ⟨v,by rw [List.getElem?_take,if_pos (by omega)]; exact e1,r⟩
 ·cases e
theorem qm.take (h:qm ρ) {n:Nat}:qm (ρ.take n):=fun i d e=>by
 rw [List.getElem?_take] at e
 split at e
 ·exact h i d e
 ·cases e
end
end DL
set_option maxHeartbeats 4000000
namespace DL
open PySem PySem.Spec PyProof.Rows L2
end DL
set_option maxHeartbeats 4000000
set_option exponentiation.threshold 50000
namespace DL
open PySem PySem.Spec PyProof.Rows L2
open Sem (wp)
end DL
set_option maxHeartbeats 4000000
set_option exponentiation.threshold 50000
namespace DL
open PySem PySem.Spec PyProof.Rows L2
end DL
set_option maxHeartbeats 4000000
set_option exponentiation.threshold 50000
namespace DL
open PySem PySem.Spec PyProof.Rows L2
variable [Tb]
section
variable {K:PySem.W.Frag} {P:zR} {M B:List Addr} {H:Hp} {σ:Sg} {ρ:Env} {E:Ends}
theorem zf.split:∀ {vs:List V} {ds:List D} {L:List Addr} {k:Nat} {d:D},zf K P M B H vs ds L→ds[k]?=some d→
  ∃ vs1 v vs2 ds1 ds2 L1 Lk L2,vs=vs1++v::vs2∧ds=ds1++d::ds2∧ds1.length=k∧vs1.length=k∧L=L1++(Lk++L2)∧zf K P M B H vs1 ds1 L1∧Rep K P M B H v d Lk∧zf K P M B H vs2 ds2 L2
 | _,_,_,_,_,.nil,e=>by cases e
 | _,_,_,0,d,.cons (v:=v) (d:=d') (vs:=vs) (ds:=ds) (L1:=L1) (L2:=L2) r rs,e=>by
  have e:d'=d:=by simpa using e
  subst e
  exact ⟨[],v,vs,[],ds,[],L1,L2,rfl,rfl,rfl,rfl,rfl,.nil,r,rs⟩
 | _,_,_,k+1,d,.cons (v:=v) (d:=d') (vs:=vs) (ds:=ds) (L1:=L1) (L2:=L2) r rs,e=>by
  have e:ds[k]?=some d:=by simpa using e
  obtain ⟨vs1,w,vs2,ds1,ds2,M1,Lk,M2,rfl,rfl,h1,h2,rfl,r1,rk,r2⟩:=zf.split rs e
  exact ⟨v::vs1,w,vs2,d'::ds1,ds2,L1++M1,Lk,M2,rfl,rfl,by rw [List.length_cons,h1],by rw [List.length_cons,h2],by rw [List.append_assoc],.cons r r1,rk,r2⟩
theorem zlH:∀ {xs:List D} {k:Nat} {d:D},D.nbs xs=true→xs[k]?=some d→d.nb=true
 | [],_,_,_,e=>by cases e
 | x::xs,0,d,h,e=>by
  have e:x=d:=by simpa using e
  subst e
  simp only [D.nbs,Bool.and_eq_true] at h
  exact h.1
 | x::xs,k+1,d,h,e=>by
  simp only [D.nbs,Bool.and_eq_true] at h
  exact zlH h.2 (by simpa using e)
end
end DL
set_option maxHeartbeats 4000000
set_option exponentiation.threshold 50000
namespace DL
open PySem PySem.Spec PyProof.Rows L2
variable [Tb]
section
variable {α β:Type} {ρ:Env} {it:DTI} {ta te:DT} {tt:DTT} {vs:List Nat} {g:G} {Q:D→Prop}
theorem zhE {eX:α→D} {eY:β→D} {body:α→(Option β→Prop)→Prop} {K:List β→Prop} {ρw:Env} (en2:α→Env) (hg:∀ x (N:Env→Prop),N (en2 x)→G.go g (eX x) ρw N)
  (hb:∀ x (KK:Option β→Prop) (G1:D→Prop) (G0:Prop),(∀ z,KK (some z)→G1 (eY z))→(KK none→G0)→body x KK→tt (en2 x) fun b=>if b=true then te (en2 x) G1 else G0) (q:∀ r,K r→Q (eL .o eY r)):
  ∀ (l:List α) (acc:List β),zaw (fun x s nx _=>body x fun r=>nx (s++r.toList)) K l acc→Qo g tt te ρw (l.map eX) (acc.map eY) fun ys=>Q (.con .l .o ys)
 | [],acc,h=>q acc h
 | x::l,acc,h=>by
  refine hg x _ (hb x _ _ _ (fun z hz=>?_) (fun hz=>?_) h)
  ·have:=zhE en2 hg hb q l (acc++[z]) hz
   rw [List.map_append] at this
   exact this
  ·have:=zhE en2 hg hb q l (acc++[]) hz
   rw [List.append_nil] at this
   exact this
theorem zoM {eX:α→D} {eY:β→D} {body:α→(Option β→Prop)→Prop} {K:List β→Prop} {l:List α} (en2:α→Env) (hi:EvI it ρ (l.map eX)) (hl:l.length≤1000000) (h:zaw (fun x s nx _=>body x fun r=>nx (s++r.toList)) K l [])
  (hg:∀ x (N:Env→Prop),N (en2 x)→G.go g (eX x) (yF ρ vs) N)
  (hb:∀ x (KK:Option β→Prop) (G1:D→Prop) (G0:Prop),(∀ z,KK (some z)→G1 (eY z))→(KK none→G0)→body x KK→tt (en2 x) fun b=>if b=true then te (en2 x) G1 else G0) (q:∀ r,K r→Q (eL .o eY r)):dLc it vs g tt te ρ Q:=
 hi _ ⟨by rw [List.length_map]; exact hl,zhE en2 hg hb q l [] h⟩
end
end DL
set_option maxHeartbeats 4000000
set_option exponentiation.threshold 50000
namespace DL
open PySem PySem.Spec PyProof.Rows L2
variable [Tb]
abbrev XD:={d:D // d.pf=true∧d.np=true}
def eX:XD→D:=fun x=>x.1
instance:Inhabited XD:=⟨⟨.non,rfl,rfl⟩⟩
instance:Pf eX:=⟨fun x=>x.2.1,fun x=>x.2.2⟩
theorem ifl {b:Bool} {A B:Prop} (h1:b=true→A) (h0:b=false→B):if b=true then A else B:=by
 cases b with
 | true=>exact h1 rfl
 | false=>exact h0 rfl
end DL
set_option maxHeartbeats 4000000
set_option exponentiation.threshold 50000
namespace PySem.W
open PySem PySem.Calls PyProof.Rows
end PySem.W
namespace DL
open PySem PySem.Spec PyProof.Rows L2
end DL
set_option maxHeartbeats 4000000
set_option exponentiation.threshold 50000
namespace DL
open PySem PySem.Spec PyProof.Rows L2
end DL
set_option maxHeartbeats 4000000
set_option exponentiation.threshold 50000
namespace DL
open PySem PySem.Spec PyProof.Rows L2
variable [Tb]
section
variable {K:PySem.W.Frag} {P:zR} {M B N L:List Addr} {H H' Hb:Hp} {σ:Sg} {ρ:Env} {v:V} {d:D} {ds:List D} {vs:List V} {J:It} {A:Addr} {φ:Heap→Prop} {o:HO}
theorem Rd.Jd {u:HO} {a:Addr} (h:Rd H a u) (hc:H A=some (.ext φ)) (hu:∀ ψ,u≠.ext ψ):Rd (upd H A o) a u:=by
 have ne:a≠A:=fun e=>by
  subst e
  rcases h with h | ⟨x,h⟩
  ·rw [hc] at h
   exact hu φ (Option.some.inj h).symm
  ·rw [hc] at h; cases h
 rcases h with h | ⟨x,h⟩
 ·exact .inl (by rw [upd_ne ne]; exact h)
 ·exact .inr ⟨x,by rw [upd_ne ne]; exact h⟩
theorem TpT.Jd {a:Addr} {xs:List V} (h:TpT K H a xs) (hc:H A=some (.ext φ)):TpT K (L2.upd H A o) a xs:=by
 have ne:a≠A:=fun e=>by
  subst e
  rw [show H a=some (.tup xs) from h] at hc; cases hc
 unfold TpT
 rw [L2.upd_ne ne]
 exact h
theorem SqF.Jd {a:Addr} {xs:List V} (h:SqF K N H a xs) (hc:H A=some (.ext φ)):SqF K N (L2.upd H A o) a xs:=by
 rcases h with ⟨h,n⟩ | h
 ·exact .inl ⟨Rd.Jd h hc (fun _ z=>nomatch z),n⟩
 ·exact .inr h
theorem SqC.Jd {c:Ct} {a:Addr} {xs:List V} (h:SqC K N H c a xs) (hc:H A=some (.ext φ)):SqC K N (L2.upd H A o) c a xs:=by
 rcases h.to with ⟨ok,⟨dx,r⟩,n⟩ | h
 ·exact .of (.inl ⟨ok,⟨dx,Rd.Jd r hc (fun _ z=>by
   have m:=c.mu dx xs
   rw [z] at m; cases m)⟩,n⟩) fun e=>(h.z e).imp (fun e=>by
   rw [upd_ne (fun z=>by
    subst z
    rw [hc] at e; cases e)]
   exact e) id
 ·exact .of (.inr h) (KL.z h)
theorem CtO.Jd {c:Ct} {a:Addr} {xs:List V} (h:CtO H c a xs) (hc:H A=some (.ext φ)):CtO (L2.upd H A o) c a xs:=by
 obtain ⟨ok,dx,e⟩:=h.to
 exact .of ok (by
  rw [upd_ne (fun z=>by
   rw [z,hc] at e
   have m:=c.mu dx xs
   rw [← Option.some.inj e] at m; cases m)]
  exact e)
mutual
theorem Rep.ZC (hc:H A=some (.ext φ)):∀ {v:V} {d:D} {L:List Addr},Rep K P M B H v d L→Rep K P M B (upd H A o) v d L
 | _,_,_,.non=>.non
 | _,_,_,.bl=>.bl
 | _,_,_,.int=>.int
 | _,_,_,.str=>.str
 | _,_,_,.pen h=>.pen h
 | _,_,_,.tup h r=>.tup (TpT.Jd h hc) (zf.ZC hc r)
 | _,_,_,.exc hl hx r p=>.exc hl (by rw [upd_ne (fun e=>by rw [e,hc] at hx; cases hx)]; exact hx) (zf.ZC hc r) p
 | _,_,_,.lstF h r p=>.lstF (SqC.Jd h hc) (zf.ZC hc r) p
 | _,_,_,.lstB h r=>.lstB (SqC.Jd h hc) (zf.ZC hc r)
 | _,_,_,.lstO h n r=>.lstO (h.Jd hc) n (zf.ZC hc r)
theorem zf.ZC (hc:H A=some (.ext φ)):∀ {vs:List V} {ds:List D} {L:List Addr},zf K P M B H vs ds L→zf K P M B (upd H A o) vs ds L
 | _,_,_,.nil=>.nil
 | _,_,_,.cons h r=>.cons (Rep.ZC hc h) (zf.ZC hc r)
end
theorem zF.ZC (h:zF P M H) (hc:H A=some (.ext φ)):zF P M (upd H A o):=fun a l hl=>by
 obtain ⟨n1,n2,n3,ns,i,b,s,e1,e2,r⟩:=h a l hl
 refine ⟨n1,n2,n3,ns,i,b,s,?_,?_,r⟩
 ·rw [upd_ne (fun z=>by rw [z,hc] at e1; cases e1)]; exact e1
 ·rw [upd_ne (fun z=>by rw [z,hc] at e2; cases e2)]; exact e2
theorem Slots.ZC (h:Slots K P M B H σ ρ) (hc:H A=some (.ext φ)):Slots K P M B (upd H A o) σ ρ:=by
 obtain ⟨hl,F,h1,h2,h3,h4⟩:=h
 refine ⟨hl,F,fun i d e=>?_,h2,h3,h4⟩
 obtain ⟨v,e1,r⟩:=h1 i d e
 exact ⟨v,e1,Rep.ZC hc r⟩
theorem Kp.ext {o:HO} (hc:H A=some (.ext φ)):Kp H (upd H A o):=
 ⟨fun a p u h=>by
   rw [upd_ne fun z=>by
    rw [z,hc] at h
    cases h]; exact h,fun a xs h=>by
   rw [upd_ne fun z=>by
    rw [z,hc] at h
    cases h]; exact h⟩
theorem Src.ZC (h:Src K P N M B H ds J) (hc:H A=some (.ext φ)):Src K P N M B (upd H A o) ds J:=by
 cases h with
 | gen f=>exact .gen fun H2 k=>f H2 ((Kp.ext hc).trans k)
 | lst h1 h2=>exact .lst (SqF.Jd h1 hc) (zf.ZC hc h2)
 | tup h1 h2=>exact .tup (TpT.Jd h1 hc) (zf.ZC hc h2)
 | str=>exact .str
 | rng=>exact .rng
 | rdn=>exact .rdn
 | enum h1 h2=>exact .enum (SqF.Jd h1 hc) (zf.ZC hc h2)
 | zipL h1 h2 h3 h4=>exact .zipL (SqF.Jd h1 hc) (zf.ZC hc h2) (SqF.Jd h3 hc) (zf.ZC hc h4)
 | zipS h1 h2 h3 h4 h5=>exact .zipS (SqF.Jd h1 hc) (zf.ZC hc h2) (SqF.Jd h3 hc) (zf.ZC hc h4) h5
 | zipX h3 h4 h5=>exact .zipX (SqF.Jd h3 hc) (zf.ZC hc h4) h5
 | zipT h1 h2 h3 h4=>exact .zipT (TpT.Jd h1 hc) (zf.ZC hc h2) (TpT.Jd h3 hc) (zf.ZC hc h4)
theorem jo.zus {b:Addr} {q:PySem.Str} (t:jo H b q) (h:H A=some (.ext φ)):jo (L2.upd H A o) b q:=
 t.keep (fun ps e=>by
  rw [upd_ne (fun z=>by rw [z,h] at e; cases e)]; exact e) fun c oc e=>by
  rw [upd_ne (fun z=>by rw [z,h] at e; cases e)]; exact e
theorem Stt.ZC (s:Stt P M B H) (hc:H A=some (.ext φ)):Stt P M B (upd H A o):=⟨s.zM.ZC hc,s.sub,fun a z=>by
 obtain ⟨xs,e,m⟩:=s.ls a z
 exact ⟨xs,by rw [upd_ne (fun q=>by
  rw [q,hc] at e
  cases e; cases m)]; exact e,m⟩,fun x z=>(s.tabs x z).zus hc⟩
end
structure SI (p:Program) (w:World) (K:PySem.W.Frag) (P:zR) (M:List Addr) (Hb:Hp) (A:Addr) (H:Hp) (acc:List (Int×Int)):Prop where
 e0:∃ φ,Hb A=some (.ext φ)
 st:∃ L,H A=some (SetTO p w A L)∧(∀ q∈L,TpT K H q.1 (q.2.map V.int))∧(∀ q∈L,∃ x y,q.2=[x,y])∧(∀ z:Int×Int,z∈acc↔[z.1,z.2]∈L.map (·.2))∧L.length≤acc.length
 gr:Gr (A::P.as) Hb H
 zM:zF P M H
section
variable {p:Program} {w:World} {K:PySem.W.Frag} {P:zR} {M B N L:List Addr} {H H' Hb Hc:Hp} {σ:Sg} {ρ:Env} {v:V} {d:D} {ds:List D} {vs:List V} {J:It} {A:Addr} {acc acc':List (Int×Int)}
theorem SI.ext (I:SI p w K P M Hb A H acc):∃ φ,H A=some (.ext φ):=by
 obtain ⟨L,e,_⟩:=I.st
 exact ⟨_,e⟩
theorem SI.np (I:SI p w K P M Hb A H acc):A∉P.as:=fun z=>by
 obtain ⟨φ,e⟩:=I.ext
 obtain ⟨xs,q⟩:=I.zM.lst z
 rw [e] at q; cases q
theorem SI.mid (I:SI p w K P M Hb A H acc):∃ o φ,Hb A=some (.ext φ)∧Gr P.as (upd Hb A o) H:=by
 obtain ⟨φ,e0⟩:=I.e0
 obtain ⟨ψ,e⟩:=I.ext
 refine ⟨.ext ψ,φ,e0,fun b o hb n=>?_,fun b q mT t=>I.gr.tab b q mT (jo.unset (o:=.ext ψ) (fun _ z=>(nomatch z)) (fun _ _ z=>(nomatch z)) t)⟩
 by_cases h:b=A
 ·subst h
  rw [upd_same] at hb
  cases hb
  exact e
 ·rw [upd_ne h] at hb
  exact I.gr b o hb fun z=>(List.mem_cons.mp z).elim h n
theorem SI.stt (I:SI p w K P M Hb A H acc) (s:Stt P M B Hb):Stt P M B H:=by
 obtain ⟨o,φ,e0,g⟩:=I.mid
 exact (s.ZC e0).keep g I.zM
theorem SI.slots (I:SI p w K P M Hb A H acc) (s:Stt P M B Hb) (sl:Slots K P M B Hb σ ρ):Slots K P M B H σ ρ:=by
 obtain ⟨o,φ,e0,g⟩:=I.mid
 exact (sl.ZC e0).keep (s.ZC e0) g
theorem SI.wk (I:SI p w K P M Hb A H acc) (s:Stt P M B Hb) (src:Src K P (P.as++B) M B Hb ds J):Wk K P M B H ds J:=by
 obtain ⟨o,φ,e0,g⟩:=I.mid
 exact ((src.ZC e0).gr (s.ZC e0).lists g (fun _ z=>.inl z) (fun _ z=>.inl z)).now (I.stt s).lists
theorem SI.keep (I:SI p w K P M Hb A H acc) (s:Stt P M B Hb) (g:Gr P.as H H') (q:zF P M H'):SI p w K P M Hb A H' acc:=by
 obtain ⟨L,e,t,r⟩:=I.st
 exact ⟨I.e0,⟨L,g _ _ e I.np,fun z hz=>TpT.gr (t z hz) g (I.stt s).lists,r⟩,I.gr.trans (g.sub fun _ z=>List.mem_cons_of_mem _ z),q⟩
theorem SI.trans (I:SI p w K P M Hb A Hc acc) (J:SI p w K P M Hc A H acc'):SI p w K P M Hb A H acc':=⟨I.e0,J.st,I.gr.trans J.gr,J.zM⟩
theorem SI.start (q:zF P M (upd H A (SetTO p w A []))):SI p w K P M (upd H A (SetTO p w A [])) A (upd H A (SetTO p w A [])) []:=
 ⟨⟨_,upd_same⟩,⟨[],upd_same,fun _ z=>absurd z (by simp),fun _ z=>absurd z (by simp),fun z=>by simp,Nat.le_refl _⟩,Gr.refl,q⟩
end
end DL
set_option maxHeartbeats 4000000
set_option exponentiation.threshold 50000
namespace DL
open PySem PySem.Spec PyProof.Rows L2
end DL
set_option maxHeartbeats 4000000
set_option exponentiation.threshold 50000
namespace DLm
open PySem PySem.Calls PySem.W PyProof.Rows
/-- an element of a key:the i-th item,nought less it -/
inductive KEl where
 | it (i:Nat)
 | ng (i:Nat)
/-- its text -/
def KEl.ex (x:Str):KEl→Expr→Prop
 | .it i,e=>∃ p1 p2 p3 j,e=.Subscript (.Name x p1) (.Constant (.int i) j p2) p3
 | .ng i,e=>∃ p0 j0 p1 p2 p3 j p,e=.BinOp (.Constant (.int 0) j0 p0) .Sub (.Subscript (.Name x p1) (.Constant (.int i) j p2) p3) p
/-- a number or a text -/
def flatV:Value→PyData→Prop
 | .int i _,d=>d=.int i
 | .str z _,d=>d=.str z
 | _,_=>False
theorem flatV.reads {h:Heap} {u:Value} {d:PyData} (f:flatV u d):Reads h u d []:=by
 cases u <;> first
  | exact f.elim
  | (have e:d=_:=f; subst e; first | exact .int _ _ | exact .str _ _)
def KEl.rd (its:List Value):KEl→PyData→Prop
 | .it i,d=>i < 1000000∧∃ u,its[i]?=some u∧flatV u d
 | .ng i,d=>i < 1000000∧∃ n t,its[i]?=some (.int n t)∧d=.int (0 - n)
section
variable {prog:Program} {w:World} {A:Around} {E:Value→Shared→Prop} {s:Shared} {env:Env} {m:Str→Option Value} {x:Str} {a:Addr} {its:List Value}
theorem zoN {i j:Nat} {p1 p2 p3:Pos} {u:Value} {Q:Value→Shared→Prop} (hk:env.scope.kind=.function) (hl:env.kindOf x=some .local) (hn:s.heap.Ns env.locals m) (hv:m x=some (.ref a)) (hd:(x == ("__debug__":Str))=false)
  (ht:IsTup s.heap a its.toArray) (hi:i < 1000000) (hu:its[i]?=some u) (h:∀ tk,Q u { s with toks:=tk}):wpAny (model prog w) A (eval (.Subscript (.Name x p1) (.Constant (.int i) j p2) p3) env) Q E s:=by
 have hlt:i < its.length:=(List.getElem?_eq_some_iff.mp hu).1
 refine Subscript_ (wpAny_Name (wpAny_loadName_local hk hl hn hv ?_) hd)
 refine wpAny_Constant_int ?_
 refine subscriptTail_builtinR (x:=u) ?_ PyProof.Rows.slot_tuple_getitem.lookup (getItem_tuple (j:=i) (Q:=fun r s'=>r=u∧Q r s') ht (by omega) (by omega) ?_ (by simpa using hu) ⟨rfl,h _⟩)
 ·exact IsTup.typeIs ht
 ·unfold seqIndex?
  simp only [List.size_toArray]
  have c1:¬((i:Int) < 0):=by omega
  have c2:(decide (0≤(i:Int))&&decide ((i:Int) < (its.length:Int)))=true:=by simp; exact hlt
  simp only [c1,if_false,c2,if_true]
  simp
theorem zrq {k:KEl} {e:Expr} {d:PyData} {Q:Value→Shared→Prop} (hk:env.scope.kind=.function) (hl:env.kindOf x=some .local) (hn:s.heap.Ns env.locals m) (hv:m x=some (.ref a)) (hd:(x == ("__debug__":Str))=false)
  (ht:IsTup s.heap a its.toArray) (he:k.ex x e) (hr:k.rd its d) (h:∀ u tk,flatV u d→Q u { s with toks:=tk}):wpAny (model prog w) A (eval e env) Q E s:=by
 cases k with
 | it i=>
  obtain ⟨p1,p2,p3,j,rfl⟩:=he
  obtain ⟨hi,u,hu,f⟩:=hr
  exact zoN hk hl hn hv hd ht hi hu fun tk=>h u tk f
 | ng i=>
  obtain ⟨p0,j0,p1,p2,p3,j,p,rfl⟩:=he
  obtain ⟨hi,n,t,hu,rfl⟩:=hr
  refine wpAny_BinOp (wpAny_Constant_int ?_)
  refine zoN (s:={ s with toks:=s.toks+1}) hk hl hn hv hd ht hi hu fun tk=>?_
  exact sub_int (h _ _ rfl)
end
/-- the key's body:a tuple of two elements -/
def key2 (x:Str) (k1 k2:KEl) (body:Expr):Prop:=∃ e1 e2 xx p,body=.Tuple [e1,e2] xx p∧k1.ex x e1∧k2.ex x e2∧∀ env:Env,starEach [e1,e2] env=(false,eval e1 env)::starEach [e2] env∧starEach [e2] env=(false,eval e2 env)::starEach [] env
section
variable {prog:Program} {w:World} {A:Around} {E:Value→Shared→Prop} {s:Shared} {env:Env} {m:Str→Option Value} {x:Str} {a:Addr} {its:List Value}
theorem zqt {k1 k2:KEl} {body:Expr} {d1 d2:PyData} {Q:Value→Shared→Prop} (hk:env.scope.kind=.function) (hl:env.kindOf x=some .local) (hn:s.heap.Ns env.locals m) (hv:m x=some (.ref a)) (hd:(x == ("__debug__":Str))=false)
  (ht:IsTup s.heap a its.toArray) (hb:key2 x k1 k2 body) (h1:k1.rd its d1) (h2:k2.rd its d2)
  (h:∀ u tk,∀ h':Heap,(∀ b o,s.heap.get? b=some o→h'.get? b=some o)→Reads h' u (.tuple [d1,d2]) []→Q u { s with heap:=h',toks:=tk}):wpAny (model prog w) A (eval body env) Q E s:=by
 obtain ⟨e1,e2,xx,p,rfl,x1,x2,hs⟩:=hb
 obtain ⟨s1,s2⟩:=hs env
 refine wpAny_Tuple_spliced ?_
 rw [s1]
 show wpAny _ _ (spliced ((false,eval e1 env)::backTo p (starEach [e2] env))) _ _ _
 rw [s2]
 refine spliced_cons (zrq hk hl hn hv hd ht x1 h1 fun u1 tk1 f1=>?_)
 refine spliced_cons (zrq (s:={ s with toks:=tk1}) hk hl hn hv hd ht x2 h2 fun u2 tk2 f2=>?_)
 refine spliced_nil ⟨show 2≤sizeLine by decide,?_⟩
 refine h _ tk2 _ (fun b o e=>Heap.get?_push_of_some _ e) ?_
 exact .tuple (Heap.get?_push_size _ rfl) rfl rfl (.cons (as:=[]) (bs:=[]) f1.reads (.cons (as:=[]) (bs:=[]) f2.reads .nil))
end
section
variable {prog:Program} {w:World} {A:Around} {E:Value→Shared→Prop} {s:Shared} {x:Str}
/-- a lambda of one parameter,nothing captured,is called -/
theorem zgW {f c':Addr} {qual:Str} {params:Arguments} {body:Expr} {scope:Scope} {pm ctv v:Value} {Q:Value→Shared→Prop} (hroom:A.depth < recursionLimit)
  (hf:s.heap.get? f=some (kla_obj "<lambda>" qual params body scope [] pm c' ctv)) (hcode:∃ oc vs t,s.heap.get? c'=some oc∧oc.data=.fields vs∧vs[1]?=some (.str qual t))
  (sk:scope.kind=.function) (sc:scope.isCoroutine=false) (sg:scope.isGenerator=false) {rest:List (Str×NameKind)} (sn:scope.names=(x,.local)::rest) (hrest:∀ y∈rest,y.2=.globalImplicit)
  (hbind:bindArgs (kla_fn "<lambda>" qual params body scope [] pm (.ref c') ctv) ⟨[v],[]⟩=pure [(x,v)]) (lim:s.heap.NoLimit)
  (hb:∀ (L:Addr) (h₁:Heap) (tk:Nat),(∀ b o,s.heap.get? b=some o→h₁.get? b=some o)→h₁.Ns L (fun y=>[(x,v)].reverse.lookup y)→
   wpAny (model prog w) (A.deeper (envX qual scope L f (.ref c') [])) (eval body (envX qual scope L f (.ref c') [])) Q (fun _ _=>False) { s with heap:=h₁,toks:=tk}):
  wpAny (model prog w) A (call (.ref f) [v]) Q E s:=by
 obtain ⟨oc,vs,t,e1,e2,e3⟩:=hcode
 refine wpAny_call (kla_callFunE hroom hf rfl sc sg rfl ⟨c',oc,vs,t,rfl,e1,e2,e3⟩ ?_)
 rw [hbind]
 have loc:∀ y∈scope.names,y.2≠.cell:=fun y hy=>by
  rw [sn] at hy
  rcases List.mem_cons.mp hy with z | z
  ·rw [z]
   intro z; cases z
  ·rw [hrest y z]
   intro z; cases z
 refine wpAny_pure (wpAny_newFunctionEnv loc (fun y hy=>by rw [List.mem_singleton.mp hy,sn]; simp [List.lookup]) (fun h₁ hns hsb=>?_) sk)
 have kp:∀ b o,s.heap.get? b=some o→h₁.get? b=some o:=fun b o e=>hsb.extBut b o (Nat.ne_of_lt (Heap.lt_size e)) (Heap.get?_push_of_some _ e)
 refine ⟨lim.keeps kp,kla_codeExpr (wpAny_mono (hb s.heap.objs.size h₁ _ kp hns) (fun u s' q=>q) fun _ _ z=>z.elim)⟩
end
end DLm
set_option maxHeartbeats 4000000
set_option exponentiation.threshold 50000
namespace DL
open PySem PySem.Spec PyProof.Rows L2
variable [Tb]
section
variable {X:Cx} {pins:List (Addr×Obj)} {σ:L2.St} {H:Hp} {s:Shared}
/-- the table's object is written,the code object at c is new and known from now on; all else is kept -/
theorem zkx {P c:Addr} {ps more:Array Value} {h':Heap} {t':Nat} {oc:Obj} (I:Inv X pins σ H s) (hP:H P=some (.tbl ps)) (k:∀ b o,b≠P→s.heap.get? b=some o→h'.get? b=some o)
  (hm:h'.get? P=some { cls:=.none,data:=.fields (ps++more)}) (hc:s.heap.objs.size≤c) (ho:h'.get? c=some oc):
  Inv X pins σ (upd (upd H P (.tbl (ps++more))) c (.frz oc (.own 0))) { s with heap:=h',toks:=t'}:=by
 have nC:H c=none:=I.hok.fresh hc
 have nPc:P≠c:=ne_of_none hP nC
 have at_:∀ b,b≠P→b≠c→upd (upd H P (.tbl (ps++more))) c (.frz oc (.own 0)) b=H b:=fun b h1 h2=>by rw [upd_ne h2,upd_ne h1]
 have atP:upd (upd H P (.tbl (ps++more))) c (.frz oc (.own 0)) P=some (.tbl (ps++more)):=by rw [upd_ne nPc,upd_same]
 have nP:∀ b u,H b=some u→(∀ q,u≠.tbl q)→b≠P:=fun b u e q z=>by
  rw [z,hP] at e
  exact q ps (Option.some.inj e).symm
 have nN:∀ b,H b=none→b≠P:=fun b e z=>by
  rw [z,hP] at e
  cases e
 have lt':∀ b o,s.heap.get? b=some o→b≠c:=fun b o e z=>by
  rw [z] at e
  exact Nat.lt_irrefl _ (Nat.lt_of_lt_of_le (Heap.lt_size e) hc)
 have sm:∀ b u,H b=some u→b≠c:=fun b u e=>ne_of_none e nC
 refine I.step (g':=s.gens) (d':=s.drawn) (ch:=[]) (fun b hb=>absurd hb (by simp)) (fun b o _ _ _ e n=>k b o (nN b n) e) (fun b o _ _ _ e n=>⟨o.slots,k b o (nN b n) e⟩)
  (fun b o _ e n=>by rw [at_ b (nN b n) (lt' b o e)]; exact n) (fun b o _ e=>?_) (fun b xs e=>by rw [at_ b (nP b _ e (fun q z=>by cases z)) (sm b _ e)]; exact e) (fun b o u e=>by rw [at_ b (nP b _ e (fun q z=>by cases z)) (sm b _ e)]; exact e) (fun b qs e=>?_) (fun m hn=>?_) (fun b u e=>?_) I.bare
 ·by_cases hb:b=P
  ·rw [hb]
   exact ⟨_,hm⟩
  ·exact ⟨o,k b o hb e⟩
 ·by_cases hb:b=P
  ·rw [hb,hP] at e
   cases e
   rw [hb,atP]
   exact ⟨more,rfl⟩
  ·rw [at_ b hb (sm b _ e),e]
   exact ⟨#[],by simp⟩
 ·obtain ⟨ob,es,ep,ho,r⟩:=hn
  exact ⟨ob,es,ep,k _ ob (nN _ I.free) ho,r⟩
 ·by_cases hb:b=c
  ·rw [hb,upd_same] at e
   cases e
   rw [hb]
   exact ⟨ho,⟨oc,ho⟩⟩
  ·by_cases hb2:b=P
   ·rw [hb2,atP] at e
    cases e
    rw [hb2]
    exact hm
   ·rw [at_ b hb2 hb] at e
    refine (I.hok b u e).stay (fun d v hd q=>k d v ?_ q) (fun d q=>by rw [at_ d (nP d _ q (fun q z=>by cases z)) (sm d _ q)]; exact q) fun d xs q=>by rw [at_ d (nP d _ q (fun q z=>by cases z)) (sm d _ q)]; exact q
    rcases hd with z | z
    ·rw [z]
     exact hb2
    ·exact nP d _ z (fun q z=>by cases z)
theorem jo.put {P b c:Addr} {q q':Str} {ps more:Array Value} {oc:Obj} (hP:H P=some (.tbl ps)) (nC:H c=none) (ht:TriplesOk ps.toList) {pos:Pos} (hm:more=#[rawInt pos.line,rawInt pos.col,.ref c])
  (ho:∃ (vs:Array Value) (t:Tok),oc.data=.fields vs∧vs[1]?=some (.str q' t)) (hq:b=P→q=q') (t:jo H b q):jo (upd (upd H P (.tbl (ps++more))) c (.frz oc (.own 0))) b q:=by
 subst hm
 have nPc:P≠c:=ne_of_none hP nC
 have kp:∀ d o,H d=some (.frz o (.own 0))→upd (upd H P (.tbl (ps++#[rawInt pos.line,rawInt pos.col,.ref c]))) c (.frz oc (.own 0)) d=some (.frz o (.own 0)):=fun d o e=>by
  rw [upd_ne (ne_of_none e nC),upd_ne (fun z=>by rw [z,hP] at e; cases e)]
  exact e
 by_cases hb:b=P
 ·subst hb
  have hq:=hq rfl
  subst hq
  obtain ⟨ps',e,h1,h2⟩:=t
  rw [hP] at e
  injection e with e
  injection e with e
  subst e
  have eL:(ps++#[rawInt pos.line,rawInt pos.col,.ref c]).toList=ps.toList++[rawInt pos.line,rawInt pos.col,.ref c]:=by simp
  refine ⟨_,by rw [upd_ne nPc,upd_same],by rw [eL]; exact PySem.TriplesOk_snoc _ _ _ _ ht,fun p' cv hcv=>?_⟩
  rw [eL] at hcv
  rcases LamX.among_app _ ht hcv with z | z
  ·obtain ⟨c0,o0,vs0,t0,e1,e2,e3⟩:=h2 p' cv z
   exact ⟨c0,o0,vs0,t0,e1,kp _ _ e2,e3⟩
  ·obtain ⟨vs,tk,h3,h4⟩:=ho
   exact ⟨c,oc,vs,tk,z,upd_same,h3,h4⟩
 ·obtain ⟨ps',e,h1,h2⟩:=t
  refine ⟨ps',by rw [upd_ne (ne_of_none e nC),upd_ne hb]; exact e,h1,fun p' cv hcv=>?_⟩
  obtain ⟨c0,o0,vs0,t0,e1,e2,e3⟩:=h2 p' cv hcv
  exact ⟨c0,o0,vs0,t0,e1,kp _ _ e2,e3⟩
theorem zlI (cells:List (Str×Addr)):∀ {l:List (Str×NameKind)},(∀ y∈l,y.2=.local∨y.2=.globalImplicit)→L2.cloFrom cells l []=[]
 | [],_=>rfl
 | y::l,h=>by
  have ih:=zlI cells (l:=l) fun z hz=>h z (List.mem_cons_of_mem _ hz)
  obtain ⟨a,b⟩:=y
  rcases h _ (List.mem_cons_self ..) with z | z <;> (have z:b=_:=z; subst z; exact ih)
theorem zgX {N:List Addr} {c P:Addr} {params:Arguments} {body:Expr} {scope:Scope} {pos:Pos} {E:Value→Shared→Prop} {Q:Value→Shared→Prop} (I:Inv X pins σ H s) (TB:LamX.TabB X.base X.mg c P) (hcode:X.env.code=.ref c)
  (hm:(P,X.env.qual++"<lambda>")∈Tb.T) (hu:∀ p∈Tb.T,p.1=P→p.2=X.env.qual++"<lambda>") (hT:∀ p∈Tb.T,jo H p.1 p.2) (hdef:defaultsOf params X.env=([],[])) (sn:∀ y∈scope.names,y.2=.local∨y.2=.globalImplicit)
  (h:∀ (f c':Addr) (pm ctv:Value) (H1:Hp) (s':Shared),Inv X pins σ H1 s'→Gr N H H1→(∀ b,H b=none→s.heap.get? b≠none→H1 b=none)→
   s'.heap.get? f=some (PySem.W.kla_obj "<lambda>" (X.env.qual++"<lambda>") params body scope [] pm c' ctv)→H1 f=none→(∃ (oc:Obj) (vs:Array Value) (t:Tok),s'.heap.get? c'=some oc∧oc.data=.fields vs∧vs[1]?=some (.str (X.env.qual++"<lambda>") t))→Q (.ref f) s'):
  wpAny (model X.prog X.w) X.A (eval (.Lambda params body scope pos) X.env) Q E s:=by
 obtain ⟨ps,hP,ht,ha⟩:=hT _ hm
 have hcl:closureFor scope X.env=pure []:=by
  have e:=closure_ok (scope:=scope) (env:=X.env) (fun y hy e=>by
   rcases sn y hy with z | z <;> (rw [z] at e; cases e))
  rw [e,zlI _ sn]
 refine PySem.W.kla_eval hdef ?_
 have bP:s.heap.BuiltinsAt X.mg P:=TB.bm.keeps I.bk
 have hP':s.heap.get? P=some { cls:=.none,data:=.fields ps}:=I.hok P _ hP
 cases hc:codeAmong pos ps.toList with
 | none=>
  refine PySem.W.kla_makeFunction (mg:=X.mg) (c:=c) (P:=P) (ps:=ps) hcl I.ok.glob (I.mod.glob.keeps I.bk) hcode (TB.code.keeps I.bk) hP' ht hc TB.gP bP fun c' ctv h' tk hx hge hlt hrec htb=>?_
  obtain ⟨c2,oc,vs,t,e2,hoc,hd,hv⟩:=hrec
  cases e2
  have hsz:s.heap.objs.size≤h'.objs.size:=Nat.le_trans hge (Nat.le_of_lt hlt)
  have nC:H c'=none:=I.hok.fresh hge
  have I1:=zkx (t':=tk) (more:=#[rawInt pos.line,rawInt pos.col,.ref c']) (h':=h'.push (PySem.W.kla_obj "<lambda>" (X.env.qual++"<lambda>") params body scope [] ((X.mg "__name__").getD .none) c' ctv)) I hP
   (fun b o hb e=>Heap.get?_push_of_some _ (hx b o hb e)) (Heap.get?_push_of_some _ htb) hge (Heap.get?_push_of_some _ hoc)
  have n1:h'.objs.size≠c':=Nat.ne_of_gt hlt
  have n2:h'.objs.size≠P:=Nat.ne_of_gt (Nat.lt_of_lt_of_le (Heap.lt_size hP') hsz)
  refine h h'.objs.size c' ((X.mg "__name__").getD .none) ctv _ _ I1 ⟨fun b o e _=>?_,fun b q mT t'=>jo.put hP nC ht rfl ⟨vs,t,hd,hv⟩ (fun z=>hu (b,q) mT z) t'⟩ (fun b n z=>?_) (Heap.get?_push_size _ rfl) ?_ ⟨oc,vs,t,Heap.get?_push_of_some _ hoc,hd,hv⟩
  ·rw [upd_ne (ne_of_none e nC)]
   by_cases hb:b=P
   ·rw [hb,hP] at e
    cases e
    rw [hb,upd_same]
    exact ⟨_,rfl⟩
   ·rw [upd_ne hb]
    exact GrO.of e
  ·have nb:b≠c':=fun q=>by
    rw [q] at z
    exact z (Heap.get?_none_of_le hge)
   have nP:b≠P:=fun q=>by rw [q,hP] at n; cases n
   rw [upd_ne nb,upd_ne nP]
   exact n
  ·rw [upd_ne n1,upd_ne n2]
   exact I.hok.fresh hsz
 | some cv=>
  obtain ⟨c',oc,vs,t,e,hco,hd,hv⟩:=ha pos cv hc
  subst e
  refine PySem.W.kla_makeFunctionHit (mg:=X.mg) (c:=c) (P:=P) (ps:=ps) hcl I.ok.glob (I.mod.glob.keeps I.bk) hcode (TB.code.keeps I.bk) hP' ht hc bP fun ctv h' tk hx hsz=>?_
  have I1:Inv X pins σ H { s with heap:=h'.push (PySem.W.kla_obj "<lambda>" (X.env.qual++"<lambda>") params body scope [] ((X.mg "__name__").getD .none) c' ctv),toks:=tk}:=I.kept fun b o e=>Heap.get?_push_of_some _ (hx b o e)
  exact h h'.objs.size c' ((X.mg "__name__").getD .none) ctv H _ I1 Gr.refl (fun b n _=>n) (Heap.get?_push_size _ rfl) (I.hok.fresh hsz) ⟨oc,vs,t,Heap.get?_push_of_some _ (hx _ _ (I.hok c' _ hco).1),hd,hv⟩
end
end DL
set_option maxHeartbeats 4000000
set_option exponentiation.threshold 50000
namespace DL
open PySem PySem.Spec PyProof.Rows L2
variable [Tb]
/-- a def that makes lambdas -/
structure zi0 (X:Cx):Prop where
 ex:∃ c P,LamX.TabB X.base X.mg c P∧X.env.code=.ref c∧(P,X.env.qual++"<lambda>")∈Tb.T∧∀ p∈Tb.T,p.1=P→p.2=X.env.qual++"<lambda>"
open DLm in
def elD:KEl→D→D
 | .it i,.tup ds=>(ds[i]?).getD .non
 | .ng i,.tup ds=>(match ds[i]? with
  | some (.int n)=>.int (0 - n)
  | _=>.non)
 | _,_=>.non
open DLm in
def zbV:KEl→D→Prop
 | .it i,.tup ds=>i < 1000000∧((∃ n,ds[i]?=some (.int n))∨∃ z,ds[i]?=some (.str z))
 | .ng i,.tup ds=>i < 1000000∧∃ n,ds[i]?=some (.int n)
 | _,_=>False
def keyD (k1 k2:DLm.KEl) (d:D):D:=.tup [elD k1 d,elD k2 d]
def zhF (k1 k2:DLm.KEl):D1
 | .con .l _ xs,Q=>D.nos xs=true∧(∀ x∈xs,zbV k1 x∧zbV k2 x)∧(∀ x∈xs,∀ y∈xs,ZG (keyD k1 k2 x) (keyD k1 k2 y)=true)∧Q (.con .l .o (xs.mergeSort fun x y=>leD (keyD k1 k2 x) (keyD k1 k2 y)))
 | _,_=>False
theorem zbV.tup {k:DLm.KEl} {d:D} (h:zbV k d):∃ ds,d=.tup ds:=by
 cases k <;> cases d <;> first | exact ⟨_,rfl⟩ | exact h.elim
section
variable {K:PySem.W.Frag} {P:zR} {M B L:List Addr} {H:Hp} {vs:List V} {ds:List D} {us:List Value}
theorem zbV.rd {k:DLm.KEl} (h:zbV k (.tup ds)) (r:zf K P M B H vs ds L) (rv:Vals vs us):k.rd us (elD k (.tup ds)).py:=by
 cases k with
 | it i=>
  obtain ⟨hi,h⟩:=h
  refine ⟨hi,?_⟩
  rcases h with ⟨n,e⟩ | ⟨z,e⟩
  ·obtain ⟨v,L1,e1,q,_⟩:=r.get e
   obtain ⟨rfl,_⟩:=q.int_inv
   obtain ⟨u,e2,t,rfl⟩:=rv.get e1
   refine ⟨_,e2,?_⟩
   show _=_
   simp [elD,e,D.py]
  ·obtain ⟨v,L1,e1,q,_⟩:=r.get e
   obtain ⟨rfl,_⟩:=q.str_inv
   obtain ⟨u,e2,t,rfl⟩:=rv.get e1
   refine ⟨_,e2,?_⟩
   show _=_
   simp [elD,e,D.py]
 | ng i=>
  obtain ⟨hi,n,e⟩:=h
  obtain ⟨v,L1,e1,q,_⟩:=r.get e
  obtain ⟨rfl,_⟩:=q.int_inv
  obtain ⟨u,e2,t,rfl⟩:=rv.get e1
  exact ⟨hi,n,t,e2,by simp [elD,e,D.py]⟩
theorem zgY {k:DLm.KEl} {d:D} (h:zbV k d):(elD k d).py.depth≤1:=by
 obtain ⟨ds,rfl⟩:=h.tup
 cases k with
 | it i=>
  obtain ⟨hi,h⟩:=h
  rcases h with ⟨n,e⟩ | ⟨z,e⟩ <;> (simp [elD,e,D.py,PyData.depth])
 | ng i=>
  obtain ⟨hi,n,e⟩:=h
  simp [elD,e,D.py,PyData.depth]
end
theorem zky {k1 k2:DLm.KEl} {d:D} (h1:zbV k1 d) (h2:zbV k2 d):(keyD k1 k2 d).py.depth≤10:=by
 have a:=zgY h1
 have b:=zgY h2
 simp only [keyD,D.py,D.pys,PyData.depth,PyData.depthAll] at *
 omega
section
variable {X:Cx} {e body:Expr} {params:Arguments} {scope:Scope} {x:Str} {p pos lpos kpos:Pos} {te:DT} {k1 k2:DLm.KEl} {k:Nat}
theorem zi4 {P:zR} {M:List Addr} {H H':Hp} (h:zF P M H) (g:Gr [] H H'):zF P M H':=
 h.keep fun b o e hb=>by
  rcases hb with hb | ⟨a,hb⟩
  ·obtain ⟨xs,e2⟩:=h.lst hb
   rw [e] at e2
   cases e2
   exact g b _ e (by simp)
  ·obtain ⟨_,_,_,ns,i,b',s,_,e2,_⟩:=h a b hb
   rw [e] at e2
   cases e2
   exact g b _ e (by simp)
theorem zoO (d:Gd X k) (hl:zi0 X) (hm:X.mg "sorted"=none) (ha:PD X e te) (hdef:defaultsOf params X.env=([],[])) (sk:scope.kind=.function) (sc:scope.isCoroutine=false) (sg:scope.isGenerator=false) (sn:scope.names=[(x,.local)])
  (hbind:∀ (q:Str) (pm cv ctv v:Value),bindArgs (PySem.W.kla_fn "<lambda>" q params body scope [] pm cv ctv) ⟨[v],[]⟩=pure [(x,v)]) (hdb:(x == ("__debug__":Str))=false) (hb:DLm.key2 x k1 k2 body) (hg:Gl X "sorted":=by rfl)
  (he:backTo pos (starEach [e] X.env)=(false,eval e X.env)::backTo pos (starEach [] X.env):=by rfl) (hs:starEach [e] X.env=(false,eval e X.env)::starEach [] X.env:=by rfl) (hpl:(backTo pos (starEach [e] X.env)).any (·.1)=false:=by rfl)
  (hall:(backToKw pos (keywordEach [⟨some "key",.Lambda params body scope lpos,kpos⟩] X.env)).all (·.1.isSome)=true:=by rfl) (hnone:(backToKw pos (keywordEach [⟨some "key",.Lambda params body scope lpos,kpos⟩] X.env)).any (·.1.isNone)=false:=by rfl)
  (hks:(backToKw pos (keywordEach [⟨some "key",.Lambda params body scope lpos,kpos⟩] X.env)).filterMap (·.1)=[Str.ofString "key"]:=by rfl):
  PD X (.Call (.Name "sorted" p) [e] [⟨some "key",.Lambda params body scope lpos,kpos⟩] pos) (dUn (o1 (zhF k1 k2)) te):=by
 refine ⟨fun pins s σ H Q I h=>?_⟩
 have h0:=Xq h
 obtain ⟨c,T,TB,hcode,hmT,hu⟩:=hl.ex
 refine wpAny_Call_Name_kw (ld_blt I hg hm boot_sorted ?_)
 refine PyProof.Rows.callWith_kw (thn ((one_arg ha hs).run pos pins s σ H (fun us H1=>∃ v,us=[v]∧rC X.K (o1 (zhF k1 k2)) [v] H1 Q) I ?_) fun us s1 q=>?_) he hpl hall hnone
 ·obtain ⟨P0,M0,B0,ρ,Q0,a1,a2,a3,a4⟩:=h0
  exact ⟨P0,M0,B0,ρ,Q0,a1,a2,a3,fun v H' r=>⟨v,rfl,a4 v H' r⟩⟩
 obtain ⟨vs,H1,I1,r1,v,rfl,q⟩:=q
 rw [hks]
 refine to1 q fun P M B v' dd L Q0 ev A r qq k=>?_
 injection ev with ev _
 subst ev
 have T1:=A.stt.tabs
 show wpAny _ _ (evalAll [(do let v ← eval (.Lambda params body scope lpos) X.env; standAt pos; pure v)]) _ _ _
 refine wpAny_evalAll_cons (wpAny_bind (zgX (N:=[]) I1 TB hcode hmT hu T1 hdef (fun y hy=>by rw [sn] at hy; rw [List.mem_singleton.mp hy]; exact .inl rfl) fun f c' pm ctv H2 s2 I2 g0 hn hf hfn hco=>wpAny_bind (wpAny_standAt (wpAny_pure (wpAny_evalAll_nil ?_)))))
 show wpAny _ _ (call (.builtin "sorted") us [(Str.ofString "key",.ref f)]) _ _ _
 have g:Gr P.as H1 H2:=g0.sub fun b z=>nomatch z
 have p2:=zi4 A.stt.zM g0
 have s2':=A.stt.keep g p2
 have r2:=Rep.gr g A.stt.lists (fun _ z=>.inl z) (fun _ z=>.inl z) r
 obtain ⟨u,rfl,ru⟩:=vals1 r1
 cases dd with
 | con ct kf xs=>
  obtain rfl:ct=.l:=by
   cases ct with
   | l=>rfl
   | _=>exact (show False from qq).elim
  obtain ⟨a,vs,L',rfl,h1,rr,c0⟩:=r2.lst_inv
  obtain ⟨q1,q2,q3,q4⟩:D.nos xs=true∧(∀ x∈xs,zbV k1 x∧zbV k2 x)∧(∀ x∈xs,∀ y∈xs,ZG (keyD k1 k2 x) (keyD k1 k2 y)=true)∧Q0 (.con .l .o (xs.mergeSort fun x y=>leD (keyD k1 k2 x) (keyD k1 k2 y))):=qq
  have el:=rr.no q1
  subst el
  cases ru
  obtain ⟨its,rv,pl,hz⟩:=I2.list h1
  have e0:PySem.W.EachIs (fun u d=>∃ v,RelV v u∧Rep X.K P (L++M) (L++B) H2 v d []) its xs:=zcV (us:=[]) rv rr
  have hxs:xs.length≤sizeLine:=by rw [← rr.len]; exact hz
  refine PySem.W.sorted_key_data (R:=fun u d=>∃ v,RelV v u∧Rep X.K P (L++M) (L++B) H2 v d []) (b:=false) (fun d=>(keyD k1 k2 d).py) pl.isList e0 ?_ ?_ hxs (fun x hx=>?_) (ksk_s1 _ _) (fun z=>ksk_l1 _ _) (fun z=>ksk_t1 _ _) (fun v x hR hx h tk kp=>?_) (fun out cc h' tk kp fr hd hl ho=>?_)
  ·intro y hy z hz
   obtain ⟨a,ha,rfl⟩:=List.mem_map.mp hy
   obtain ⟨b,hb,rfl⟩:=List.mem_map.mp hz
   exact q3 a ha b hb
  ·refine .inl fun y hy=>?_
   obtain ⟨a,ha,rfl⟩:=List.mem_map.mp hy
   exact ⟨_,_,rfl⟩
  ·have:=zky (q2 x hx).1 (q2 x hx).2
   have:=d.u
   omega
  ·obtain ⟨v0,rv0,rp⟩:=hR
   obtain ⟨o1,o2⟩:=q2 x hx
   obtain ⟨ds,rfl⟩:=o1.tup
   obtain ⟨a0,vs0,rfl,ht,rs⟩:=rp.Qs
   cases rv0
   obtain ⟨its0,rv1,pl0,hz0⟩:=I2.tuple ht.sq
   obtain ⟨oc,vs1,t1,e1,e2,e3⟩:=hco
   have room:=d.room
   refine DLm.zgW (x:=x) (s:={ s2 with heap:=h,toks:=tk}) (f:=f) (c':=c') ?_ (kp _ _ hf) ⟨oc,vs1,t1,kp _ _ e1,e2,e3⟩ sk sc sg sn (fun y z=>nomatch z) (hbind _ _ _ _ _) (I2.nolimit.keeps kp) fun L0 h₁ tk1 kp1 hns=>?_
   ·have:=room.dp
    show X.A.depth+0 < recursionLimit
    omega
   refine DLm.zqt (s:={ s2 with heap:=h₁,toks:=tk1}) (x:=x) sk ?_ hns ?_ hdb (IsTup.keeps pl0 fun b o z=>kp1 _ _ (kp _ _ z)) hb (zbV.rd o1 rs rv1) (zbV.rd o2 rs rv1) fun u tk2 h2 kp2 rd=>?_
   ·show scope.names.lookup x=some .local
    rw [sn]; simp [List.lookup]
   ·simp [List.lookup]
   ·exact ⟨h2,tk2,rfl,fun b o z=>kp2 _ _ (kp1 _ _ z),rd⟩
  ·obtain ⟨ws,w1,w2⟩:=zcW ho
   have hpn:H2 (s2.heap.objs.size+1)=none:=I2.hok.fresh (Nat.le_succ _)
   have e2:out.length=ws.length:=w1.length.symm
   have e3:its.length=vs.length:=rv.length.symm
   have e4:vs.length=xs.length:=rr.len
   have hz2:ws.length≤sizeLine:=by rw [← e2,hl]; exact hxs
   refine ⟨.ref _,upd H2 (s2.heap.objs.size+1) (.lst ws),I2.laid (t':=tk) kp (Nat.le_succ _) ⟨hz2,out,cc,w1,hd⟩,rfl,k _ _ ?_⟩
   have A2:Args X.K P M B H2 [.ref a] [.con .l kf xs] L:=⟨s2',by
    have:=zf.cons r2 .nil
    rw [List.append_nil] at this
    exact this,A.nd,A.sub,A.out⟩
   obtain ⟨c5,Lr,q5,g5,p5,r5,n5,f5⟩:=A2.zgp (Q0:=Q0) hpn w2 (fun _ z=>nomatch z) List.nodup_nil q4
   exact ⟨c5,Lr,q5,g.trans g5,p5,r5,n5,fun b z=>(f5 b z).elim (fun w=>.inl (g.nil p2 w)) .inr⟩
 | _=>exact qq.elim
end
end DL
set_option maxHeartbeats 4000000
set_option exponentiation.threshold 50000
namespace DLm
open PySem PySem.Calls PySem.W PyProof.Rows
section
variable {K:Type} [DecidableEq K]
/-- one more key met -/
def Qy (acc:List K) (x:K):List K:=if x∈acc then acc else acc++[x]
/-- unlike ones,as first met -/
def YC (l:List K):List K:=l.foldl Qy []
theorem zmL (l:List K) (x:K):YC (l++[x])=Qy (YC l) x:=by
 unfold YC
 rw [List.foldl_append]; rfl
theorem zmM {acc:List K} {x y:K}:y∈Qy acc x↔y∈acc∨y=x:=by
 unfold Qy
 split
 ·rename_i h
  exact ⟨.inl,fun z=>z.elim id fun e=>e ▸ h⟩
 ·simp
theorem zoP {l:List K} {y:K}:y∈YC l↔y∈l:=by
 unfold YC
 have go:∀ (l acc:List K),y∈l.foldl Qy acc↔y∈acc∨y∈l:=by
  intro l
  induction l with
  | nil=>intro acc; simp
  | cons x l ih=>intro acc; rw [List.foldl_cons,ih,zmM,List.mem_cons,or_assoc]
 rw [go]; simp
theorem zkz (l:List K):(YC l).Nodup:=by
 unfold YC
 have go:∀ (l acc:List K),acc.Nodup→(l.foldl Qy acc).Nodup:=by
  intro l
  induction l with
  | nil=>intro acc h; exact h
  | cons x l ih=>
   intro acc h
   rw [List.foldl_cons]
   refine ih _ ?_
   unfold Qy
   split
   ·exact h
   ·rename_i hx
    exact List.nodup_append.mpr ⟨h,by simp,fun a ha b hb e=>hx (by
     rw [List.mem_singleton.mp hb] at e
     exact e ▸ ha)⟩
 exact go l [] List.nodup_nil
theorem zi5 (l:List K):(YC l).length≤l.length:=by
 unfold YC
 have go:∀ (l acc:List K),(l.foldl Qy acc).length≤acc.length+l.length:=by
  intro l
  induction l with
  | nil=>intro acc; simp
  | cons x l ih=>
   intro acc
   rw [List.foldl_cons]
   refine Nat.le_trans (ih _) ?_
   have:(Qy acc x).length≤acc.length+1:=by
    unfold Qy
    split <;> simp
   rw [List.length_cons]; omega
 simpa using go l []
variable {prog:Program} {w:World} {A:Around} {knd:KeyKind prog w K}
/-- the set at S holds just these keys -/
def Qe (knd:KeyKind prog w K) (h:Heap) (S:Addr) (l:List K):Prop:=h.SetOf knd S (fun k=>decide (k∈YC l)) (YC l).length
theorem Qe.at {h h':Heap} {S:Addr} {l:List K} (q:Qe knd h S l) (k:∀ o,h.get? S=some o→h'.get? S=some o):Qe knd h' S l:=by
 obtain ⟨o,es,ep,tb,ho,rest⟩:=q
 exact ⟨o,es,ep,tb,k _ ho,rest⟩
/-- one more is added -/
theorem zkA {s:Shared} {E:Value→Shared→Prop} {S:Addr} {l:List K} {x:K} {v:Value} {Q:Bool→Shared→Prop} (hv:knd.is x v=true) (hc:v.scannable=true) (q:Qe knd s.heap S l) (hb:l.length+1 < scanBound)
  (h:∀ h' b,Heap.SameBut S s.heap h'→Qe knd h' S (l++[x])→Q b { s with heap:=h'}):wpAny (model prog w) A (setAddHashed S v (knd.hash x)) Q E s:=by
 have hl:=zi5 l
 refine wpAny_setAddHashed_of hv hc q (by omega) fun h' hs hS=>h h' _ hs ?_
 unfold Qe
 rw [zmL]
 unfold Qy
 by_cases hx:x∈YC l
 ·rw [if_pos hx]
  refine SetOf_congr hS (fun k=>?_) (by simp [hx])
  by_cases e:k=x
  ·subst e; simp [hx]
  ·simp [e]
 ·rw [if_neg hx]
  refine SetOf_congr hS (fun k=>?_) (by simp [hx])
  simp
/-- the keys are added,one at a turn -/
theorem upd_loop {I:Addr} {fp wr:List Addr} {G:Array GenState→Array GenState→Prop} {n:Nat} {P:Nat→Value→Prop} {St:Nat→Shared→Prop} {R:Result→Shared→Prop} (W:WalksS prog w A.in1 I fp wr G n P St) {S:Addr} (nf:S∉fp) {ks:List K} (hn:ks.length=n) (hb:n+1 < scanBound)
  (val:∀ i v,P i v→∃ k,ks[i]?=some k∧knd.is k v=true∧v.scannable=true):∀ (m i:Nat) (s:Shared),n - i=m→i≤n→St i s→Qe knd s.heap S (ks.take i)→
   (∀ s',Moved (S::wr) G s s'→Qe knd s'.heap S ks→R (.ok (.ret .none)) s')→codeAny (model prog w) A (.builtin "set.update.loop" ⟨[.ref S,.ref I],[]⟩) R s:=by
 have nw:S∉wr:=fun z=>nf (W.sub _ z)
 have wide:∀ b,b∈wr→b∈S::wr:=fun b z=>List.mem_cons_of_mem _ z
 intro m
 induction m with
 | zero=>
  intro i s e1 e2 st q fin
  have ei:i=n:=by omega
  subst ei
  rw [← hn,List.take_length] at q
  refine codeAny_builtin PyProof.Rows.F.entry_set_update_loop ?_
  rw [Around.under_plainId PyProof.Rows.F.plain_set_update_loop _]
  change wpAny _ A.in1 (pyNext (.ref I) >>= _) _ _ _
  exact wpAny_bind (W.done s _ _ st fun s' mv=>wpAny_pure (fin s' (mv.mono wide) (q.at fun o ho=>mv.heap S o nw ho)))
 | succ m ih=>
  intro i s e1 e2 st q fin
  have lt:i < n:=by omega
  refine codeAny_builtin PyProof.Rows.F.entry_set_update_loop ?_
  rw [Around.under_plainId PyProof.Rows.F.plain_set_update_loop _]
  change wpAny _ A.in1 (pyNext (.ref I) >>= _) _ _ _
  refine wpAny_bind (W.item i s _ _ lt st fun v s1 pv st1 mv=>?_)
  obtain ⟨k,ek,hk,hc⟩:=val i v pv
  have q1:Qe knd s1.heap S (ks.take i):=q.at fun o ho=>mv.heap S o nw ho
  change wpAny _ A.in1 (holding [v] (setAdd S v) >>= _) _ _ s1
  unfold setAdd
  refine wpAny_bind (wpAny_holding (wpAny_holding (wpAny_bind (knd.pyHash hk ?_))))
  have hlt:(ks.take i).length+1 < scanBound:=by rw [List.length_take]; omega
  refine zkA (s:={ s1 with toks:=s1.toks+1}) hk hc q1 hlt fun h' b hs q2=>wpAny_pure ⟨plainId_quiet PyProof.Rows.F.plain_set_update_loop _,?_⟩
  have et:ks.take (i+1)=ks.take i++[k]:=by rw [List.take_add_one,ek]; rfl
  refine ih (i+1) _ (by omega) lt (W.frame _ s1 _ _ st1 (Nat.le_succ _) fun b hb o e=>?_) (by rw [et]; exact q2) fun s2 mv2 q3=>fin s2 ?_ q3
  ·rw [hs.2 b fun z=>nf (z ▸ hb)]; exact e
  ·refine Moved.trans W.gtrans ((mv.mono wide).then_heap (Nat.le_succ _) fun b o hb e=>?_) mv2
   rw [hs.2 b fun z=>hb (by rw [z]; exact List.mem_cons_self)]; exact e
end
section
variable {K:Type} [DecidableEq K] {prog:Program} {w:World} {A:Around} {knd:KeyKind prog w K} {E:Value→Shared→Prop} {s:Shared}
abbrev newSet (led:Bool):Obj:={ cls:=.type "set",dict:=none,data:=.set #[] 0 (.fresh 0 0 led)}
/-- what is wanted behind the filling -/
abbrev Filled (knd:KeyKind prog w K) (s:Shared) (ks:List K) (r:Value) (s2:Shared):Prop:=r=.none∧∃ g tk,s2={ s with heap:=g,toks:=tk}∧Qe knd g s.heap.objs.size ks∧∀ b o,s.heap.get? b=some o→g.get? b=some o
theorem zoQ {l:Addr} {items:Array Value} {ks:List K} {B B':Around} (hB:B.handled=none) (hl:s.heap.IsList l items) (hn:ks.length=items.size) (hb:items.size+1 < scanBound) (led:Bool)
  (val:∀ (i:Nat) (v:Value),items[i]?=some v→∃ k,ks[i]?=some k∧knd.is k v=true∧v.scannable=true):
  wpAny (model prog w) B (Builtin.«set.__init__» ⟨[.ref s.heap.objs.size,.ref l],[]⟩) (fun fin s2=>match fin with
   | .done f=>(wants (fun r s2=>Filled knd s ks r s2) E) (.ok f) s2
   | .again c=>c.quiet=true∧codeAny (model prog w) B' c (wants (fun r s2=>Filled knd s ks r s2) E) s2) (fun e s2=>(wants (fun r s2=>Filled knd s ks r s2) E) (.error e) s2) { s with heap:=s.heap.push (newSet led)}:=by
 obtain ⟨ol,eol,ecl,nl,edl⟩:=hl
 obtain ⟨oc,od,oo,osl⟩:=ol
 simp only at ecl edl
 subst ecl edl
 have there:(s.heap.push (newSet led)).get? s.heap.objs.size=some (newSet led):=Heap.get?_push_size _ rfl
 have src:(s.heap.push (newSet led)).get? l=some { cls:=.type "list",dict:=od,data:=.seq items nl,slots:=osl}:=Heap.get?_push_of_some _ eol
 have srcL:(s.heap.push (newSet led)).IsList l items:=⟨_,src,rfl,nl,rfl⟩
 have f1:=PySem.F.sub_list_set
 have f2:=PySem.F.sub_list_frozenset
 have f3:(Value.type "list" == Value.type "dict")=false:=by decide
 unfold Builtin.«set.__init__» noKeywords Builtin.Frozenset.updateFrom
 generalize eIt:pyIter=It
 wp_walk
 subst eIt
 have sl:l < s.heap.objs.size:=Heap.lt_size eol
 have e1:(s.heap.push (newSet led)).objs.size=s.heap.objs.size+1:=by rw [Heap.size_push]
 refine wpAny_pyIter_list srcL (wpAny_bind (wpAny_runValue ?_))
 have nI:l≠(s.heap.push (newSet led)).objs.size:=by rw [e1]; exact Nat.ne_of_lt (Nat.lt_succ_of_lt sl)
 have nS:s.heap.objs.size∉[(s.heap.push (newSet led)).objs.size,l]:=fun z=>by
  rw [e1] at z
  rcases List.mem_cons.mp z with z | z
  ·exact absurd z (Nat.ne_of_lt (Nat.lt_succ_self _))
  ·exact absurd (List.mem_singleton.mp z).symm (Nat.ne_of_lt sl)
 have walk:=(Walks.list (prog:=prog) (w:=w) (A:=B.in1) (by exact hB) _ l nI items).toS
 refine upd_loop (knd:=knd) (ks:=ks) walk nS hn hb val items.size 0 _ (by omega) (Nat.zero_le _) ⟨⟨_,Heap.get?_push_size _ rfl,rfl,rfl⟩,srcL.push _⟩ ?_ ?_
 ·have z:=(PyProof.Rows.setObjOf_fresh (knd:=knd) led).setOf (Heap.get?_push_of_some { cls:=.type "list_iterator",data:=.fields #[.ref l,.int 0 0]} there) (by unfold scanBound; omega)
  exact PyProof.Rows.SetOf_congr z (fun _=>rfl) rfl
 ·intro s2 mv q
  obtain ⟨g2,gens2,drawn2,tk2,os2⟩:=s2
  have a1:gens2=s.gens:=mv.gens
  have a2:drawn2=s.drawn:=mv.drawn
  have a3:os2=s.os:=mv.os
  subst a1 a2 a3
  refine wpAny_pure (wpAny_pure ?_)
  refine ⟨rfl,g2,tk2,rfl,q,fun b o e=>?_⟩
  have lt:=Heap.lt_size e
  refine mv.heap b o (fun z=>?_) (Heap.get?_push_of_some _ (Heap.get?_push_of_some _ e))
  rcases List.mem_cons.mp z with z | z
  ·exact absurd z (Nat.ne_of_lt lt)
  ·have z:=List.mem_singleton.mp z
   rw [e1] at z
   exact absurd z (Nat.ne_of_lt (Nat.lt_succ_of_lt lt))
set_option maxHeartbeats 8000000 in
/-- set(xs) of a list -/
theorem zfr {l:Addr} {items:Array Value} {ks:List K} {Q:Value→Shared→Prop} (hh:A.handled=none) (hl:s.heap.IsList l items) (hn:ks.length=items.size) (hb:items.size+1 < scanBound)
  (val:∀ (i:Nat) (v:Value),items[i]?=some v→∃ k,ks[i]?=some k∧knd.is k v=true∧v.scannable=true)
  (fin:∀ (g:Heap) (tk:Nat),Qe knd g s.heap.objs.size ks→(∀ b o,s.heap.get? b=some o→g.get? b=some o)→Q (.ref s.heap.objs.size) { s with heap:=g,toks:=tk}):wpAny (model prog w) A (call (.type "set") [.ref l]) Q E s:=by
 have m1:=PySem.F.called_set.made
 have m2:=PySem.F.called_set.sub
 have m3:=PySem.F.called_set.notType
 have m4:=PySem.F.called_set.canCreate
 have m5:=PySem.F.typeCall_set_1 (.ref l)
 obtain ⟨c,tl,m6⟩:=PySem.F.called_set.mro
 refine wpAny_call (codeAny_of_tree (show wpAny _ _ (callAny (.type "set") _) _ _ _ from wpAny_pure ⟨Code.quiet_builtin _ (by decide+kernel),codeAny_builtin PySem.F.entry_type_call ?_⟩))
 rw [Around.under_plain (weight_type_call_type "set" [.ref l] []) rfl]
 repeat any_goals first | assumption | wp_step
 refine codeAny_mono (code_set_new_1 (.ref l) (E:=E) (Q₁:=fun z s1=>∃ led,z=.ref s.heap.objs.size∧s1={ s with heap:=s.heap.push (newSet led)}) fun led=>⟨led,rfl,rfl⟩) fun r s1 q=>?_
 cases r with
 | error e=>exact q
 | ok fl=>
  cases fl with
  | ret z=>
   obtain ⟨led,rfl,rfl⟩:=q
   have there:(s.heap.push (newSet led)).get? s.heap.objs.size=some (newSet led):=Heap.get?_push_size _ rfl
   have ty:Shared.TypeIs { s with heap:=s.heap.push (newSet led)} (.ref s.heap.objs.size) "set":=⟨_,there,rfl⟩
   have n1:=PySem.F.called_set.init.lookup
   have n2:=PySem.F.called_set.init.bind (.ref s.heap.objs.size)
   repeat any_goals first | assumption | wp_step
   refine codeAny_mono (codeAny_call_builtin (R:=wants (fun r s2=>Filled knd s ks r s2) E) PySem.F.called_set.init.plain PySem.F.entry_set_init (check_set_init_1 ty ?_)) fun r2 s2 q2=>?_
   ·exact zoQ (B:=A.in1.in1) (B':=A.in1) (by first | exact hh | simp [hh]) hl hn hb led val
   ·cases r2 with
    | error e=>exact q2
    | ok f2=>
     cases f2 with
     | ret r=>
      obtain ⟨rfl,g,tk,rfl,q3,q4⟩:=q2
      repeat any_goals first | assumption | wp_step
      exact fin _ _ q3 q4
     | _=>exact q2.elim
  | _=>exact q.elim
end
end DLm
set_option maxHeartbeats 4000000
set_option exponentiation.threshold 50000
namespace L2
open PySem PySem.Spec PyProof.Rows
section
variable {X:Cx}
def zoR (K:PySem.W.Frag) (ta:TE):TE:=fun σ H Q=>ta σ H fun x H1=>∃ (l:Addr) (ks:List Str),x=V.ref l∧SqL K H1 l (ks.map V.str)∧ks.length < 1000∧Q (.int (DLm.YC ks).length) H1
theorem zi6:∀ {ks:List Str} {us:List Value},Vals (ks.map V.str) us→∀ (i:Nat) (v:Value),us[i]?=some v→∃ z t,ks[i]?=some z∧v=.str z t
 | [],_,.nil,i,v,h=>by simp at h
 | k::ks,_,.cons r t,0,v,h=>by
  obtain ⟨tk,rfl⟩:=r
  simp at h
  exact ⟨k,tk,rfl,h.symm⟩
 | k::ks,_,.cons r t,i+1,v,h=>by
  obtain ⟨z,tk,e1,e2⟩:=zi6 t i v (by simpa using h)
  exact ⟨z,tk,by simpa using e1,e2⟩
theorem zkB {a:Expr} {ta:TE} {p p2 q pos:Pos} (hc:X.calm=true) (hg:Gl X "len") (hm:X.mg "len"=none) (hg2:Gl X "set") (hm2:X.mg "set"=none) (ha:PE X a ta)
  (na:starEach [a] X.env=(false,eval a X.env)::starEach [] X.env:=by rfl):PE X (.Call (.Name "len" p) [.Call (.Name "set" p2) [a] [] q] [] pos) (zoR X.K ta):=by
 refine ⟨fun pins s σ H Q I h=>Call_ (ld_blt I hg hm PySem.boot_len (PyProof.Rows.callWith_builtin1 (PyProof.Rows.args_cons ?_ rfl) rfl rfl))⟩
 refine Call_ (ld_blt I hg2 hm2 PyProof.Rows.boot_set (PyProof.Rows.callWith_type1 (PyProof.Rows.args_cons (thn (ha.run pins s σ H _ I h) fun v s1 ⟨x,H1,I1,r1,q1⟩=>PyProof.Rows.args_nil ?_) na) na rfl))
 obtain ⟨l,ks,rfl,hl,hk,q1⟩:=q1
 cases r1
 obtain ⟨its,rv,pl,hz⟩:=I1.list hl
 have len:ks.length=its.toArray.size:=by rw [List.size_toArray,← rv.length,List.length_map]
 have sb:(1001:Nat) < scanBound:=by decide
 refine DLm.zfr (knd:=PySem.strKind X.prog X.w) (ks:=ks) (I1.ok.hd hc) pl.isList len (by omega) (fun i v e=>?_) fun g tk hS kp=>PyProof.Rows.args_nil ?_
 ·obtain ⟨z,t,e1,rfl⟩:=zi6 rv i v (by simpa using e)
  exact ⟨z,e1,strKind_is _ _ _ _,rfl⟩
 ·obtain ⟨o,es,ep,t,ho,hex,hd,_,_,_,hf,hn⟩:=hS
  have I2:Inv X pins σ H1 { s1 with heap:=g,toks:=tk}:=I1.kept fun b o e=>kp b o e
  have:=DLm.zi5 ks
  have l63:(1000:Nat) < 2 ^ 63:=by decide
  exact call_len_set ho hex hd hf (by rw [hn]; omega) ⟨.int (DLm.YC ks).length,H1,I2.tok _,⟨_,by rw [hn]⟩,q1⟩
end
end L2
namespace DL
open PySem PySem.Spec PyProof.Rows L2
variable [Tb]
def zeW:D1
 | .con .l _ xs,Q=>∃ ks:List Str,xs=ks.map D.str∧ks.length < 1000∧Q (.int (DLm.YC ks).length)
 | _,_=>False
section
variable {X:Cx} {a:Expr} {ta:DT} {p p2 q pos:Pos} {k:Nat}
theorem Je {K:PySem.W.Frag} {P:zR} {M B:List Addr} {H:Hp}:∀ {ks:List Str} {vs:List V} {L:List Addr},zf K P M B H vs (ks.map D.str) L→vs=ks.map V.str
 | [],_,_,r=>by
  cases r; rfl
 | k::ks,_,_,r=>by
  cases r with
  | cons h r=>
   obtain ⟨rfl,_⟩:=h.str_inv
   rw [Je r]; rfl
theorem zkC (d:Gd X k) (hm:X.mg "len"=none) (hm2:X.mg "set"=none) (ha:PD X a ta) (hg:Gl X "len":=by rfl) (hg2:Gl X "set":=by rfl) (na:starEach [a] X.env=(false,eval a X.env)::starEach [] X.env:=by rfl):
  PD X (.Call (.Name "len" p) [.Call (.Name "set" p2) [a] [] q] [] pos) (dUn (o1 zeW) ta):=mPE (zkB d.calm hg hm hg2 hm2 ha na) fun σ H Q h=>by
 refine Zj (Xq h) fun v H1 h1=>?_
 refine to1 h1 fun P M B v' d L Q0 ev A r f k'=>?_
 injection ev with ev _
 subst ev
 unfold zeW at f
 split at f
 ·obtain ⟨ks,rfl,hl,q⟩:=f
  obtain ⟨a1,vs,L',rfl,hq,rr,c⟩:=r.lst_inv
  rw [Je rr] at hq
  exact ⟨a1,ks,rfl,hq,hl,k' _ _ (A.plain (fun {_}=>.int) q)⟩
 ·exact f.elim
end
/-- a text of one sign -/
def zi7 (c:Nat):OkS:=⟨⟨#[c % 0x110000]⟩,by
 show (#[c % 0x110000]:Array Nat).all (·< 0x110000)=true
 simp; omega⟩
/-- its signs' numbers -/
def sCs (s:OkS):List Nat:=s.1.cps.toList
def zet (s:OkS):Nat:=s.1.cps.getD 0 0
def zaz (s:OkS):Int:=s.1.length
def sCh (s:OkS):List OkS:=(sCs s).map zi7
theorem zmN {s:Str} (h:PyData.strOk s=true) {c:Nat} (m:c∈s.cps.toList):c < 0x110000:=by
 unfold PyData.strOk at h
 have:=(Array.all_eq_true_iff_forall_mem.mp h) c (Array.mem_def.mpr m)
 simpa using this
theorem zoS {l:List Nat} (h:∀ c∈l,c < 0x110000):PyData.strOk ⟨l.toArray⟩=true:=by
 unfold PyData.strOk
 refine Array.all_eq_true_iff_forall_mem.mpr fun c m=>?_
 simpa using h c (by simpa using m)
theorem zbW (s:OkS) {c:Nat} (m:c∈sCs s):c < 0x110000:=zmN s.2 m
theorem zkD {c:Nat} (h:c < 0x110000):(zi7 c).1=⟨#[c]⟩:=by
 show (⟨#[c % 0x110000]⟩:Str)=_
 rw [Nat.mod_eq_of_lt h]
/-- the sign at a place -/
def sAt (s:OkS) (i:Int):OkS:=zi7 ((atI (sCs s) i).getD 0)
def sMk (l:List Nat):OkS:=⟨⟨(l.map (·% 0x110000)).toArray⟩,zoS fun c m=>by
 obtain ⟨d,_,rfl⟩:=List.mem_map.mp m
 omega⟩
theorem zoT {l:List Nat} (h:∀ c∈l,c < 0x110000):(sMk l).1=⟨l.toArray⟩:=by
 unfold sMk
 have:l.map (·% 0x110000)=l:=by
  refine (List.map_congr_left fun c m=>Nat.mod_eq_of_lt (h c m)).trans (by simp)
 show (⟨(l.map (·% 0x110000)).toArray⟩:Str)=_
 rw [this]
theorem zkE {l:List Nat} (h:∀ c∈l,c < 0x110000):sCs (sMk l)=l:=by
 unfold sCs
 rw [zoT h]
theorem zqu {a b:OkS} (h:sCs a=sCs b):a=b:=by
 obtain ⟨⟨x⟩,hx⟩:=a
 obtain ⟨⟨y⟩,hy⟩:=b
 have:x=y:=Array.toList_inj.mp h
 subst this; rfl
def zbX (a b:OkS):OkS:=sMk (sCs a++sCs b)
theorem zlJ (a b:OkS):∀ c∈sCs a++sCs b,c < 0x110000:=fun c m=>(List.mem_append.mp m).elim (zbW a) (zbW b)
theorem zhG (a b:OkS):sCs (zbX a b)=sCs a++sCs b:=zkE (zlJ a b)
def Qg (s:OkS) (lo hi:Option Int):OkS:=sMk (((sCs s).drop (HT.sIx s.1.length 0 lo)).take (HT.sIx s.1.length s.1.length hi - HT.sIx s.1.length 0 lo))
theorem zhH (s:OkS) (lo hi:Option Int):∀ c∈((sCs s).drop (HT.sIx s.1.length 0 lo)).take (HT.sIx s.1.length s.1.length hi - HT.sIx s.1.length 0 lo),c < 0x110000:=fun c m=>zbW s (List.mem_of_mem_drop (List.mem_of_mem_take m))
theorem zsg (s:OkS) (lo hi:Option Int):(Qg s lo hi).1=cutS s.1 lo hi:=zoT (zhH s lo hi)
section
variable {ρ:Env} {ta:DT} {a b:DT} {i:Int} {s t:OkS}
theorem zoU (h:s.1.length+t.1.length≤sizeLine):Op (o2 XS) [eS s,eS t] (eS (zbX s t)):=fun Q q=>by
 refine ⟨h,?_⟩
 have:(zbX s t).1=s.1++t.1:=by
  refine (zoT (zlJ s t)).trans ?_
  show (⟨(s.1.cps.toList++t.1.cps.toList).toArray⟩:Str)=⟨s.1.cps++t.1.cps⟩
  simp
 have q':Q (.str (zbX s t).1):=q
 rw [this] at q'
 exact q'
theorem zoV (h:s.1.length≤sizeLine):Op (o1 zba) [eS s] (eI (zaz s)):=fun Q q=>⟨h,q⟩
theorem ztL (h:s.1.length≤sizeLine∧(atI (sCs s) i).isSome=true):Op (o2 ixD) [eS s,eI i] (eS (sAt s i)):=fun Q q=>by
 refine ⟨h.1,?_⟩
 show (match atI (sCs s) i with | some c=>Q (.str ⟨#[c]⟩) | none=>False)
 cases e:atI (sCs s) i with
 | none=>rw [e] at h; cases h.2
 | some c=>
  have m:c∈sCs s:=by
   unfold atI at e
   cases e2:ixN (sCs s).length i with
   | none=>rw [e2] at e; cases e
   | some j=>rw [e2] at e; exact List.mem_of_getElem? e
  have q':Q (.str (zi7 ((atI (sCs s) i).getD 0)).1):=q
  rw [e,Option.getD_some,zkD (zbW s m)] at q'
  exact q'
theorem ztM (h:s.1.cps.size=1):Op (o2 (inO id)) [eS s,eS t] (eB (decide (zet s∈sCs t))):=fun Q q=>⟨h,q⟩
theorem zqv:(sCh s).map eS=s.1.cps.toList.map fun c=>D.str ⟨#[c]⟩:=by
 unfold sCh
 rw [List.map_map]
 refine List.map_congr_left fun c m=>?_
 show D.str (zi7 c).1=_
 rw [zkD (zbW s m)]
theorem ztN (h:Ev ta ρ (eS s)):EvI (qK zW ta) ρ ((sCh s).map eS):=fun Q q=>h _ (by rw [zqv] at q; exact q)
theorem zoW {lo hi:Option Int} (h:Ev ta ρ (eS s)) (ha:EvO a ρ lo) (hb:EvO b ρ hi) (hl:s.1.length≤sizeLine):Ev (dSl ta a b) ρ (eS (Qg s lo hi)):=fun Q q=>by
 obtain ⟨d1,e1,p1⟩:=ha
 obtain ⟨d2,e2,p2⟩:=hb
 refine h _ (e1 _ (e2 _ ?_))
 show slD (.str s.1) d1 d2 Q
 unfold slD
 rw [p1,p2]
 refine ⟨hl,?_⟩
 have q':Q (.str (Qg s lo hi).1):=q
 rw [zsg] at q'
 exact q'
end
theorem zlK {α β:Type} [DecidableEq α] [DecidableEq β] {f:α→β} (hf:∀ x y,f x=f y→x=y):∀ (l acc:List α),(l.map f).foldl DLm.Qy (acc.map f)=(l.foldl DLm.Qy acc).map f
 | [],acc=>rfl
 | x::l,acc=>by
  rw [List.map_cons,List.foldl_cons,List.foldl_cons,← zlK hf l]
  congr 1
  unfold DLm.Qy
  have:f x∈acc.map f↔x∈acc:=⟨fun h=>by
   obtain ⟨y,hy,e⟩:=List.mem_map.mp h
   rw [← hf _ _ e]; exact hy,fun h=>List.mem_map.mpr ⟨x,h,rfl⟩⟩
  by_cases h:x∈acc
  ·rw [if_pos h,if_pos (this.mpr h)]
  ·rw [if_neg h,if_neg (fun z=>h (this.mp z))]; simp
theorem zmO {f:Fl} {l:List OkS} (hl:l.length < 1000):Op (o1 zeW) [eL f eS l] (eI (DLm.YC l).length):=fun Q q=>by
 refine ⟨l.map (·.1),by rw [List.map_map]; rfl,by rw [List.length_map]; exact hl,?_⟩
 have:DLm.YC (l.map (·.1))=(DLm.YC l).map (·.1):=zlK (fun x y e=>Subtype.ext e) l []
 rw [this,List.length_map]
 exact q
theorem zqw {α β:Type} {e:α→D} {eb:β→D} {lt:β→β→Bool} [Pf e] [qT eb lt] [Kd1 eb] {f:Fl} {l:List α} {k1 k2:DLm.KEl} {key:α→β} (h1:∀ x,keyD k1 k2 (e x)=eb (key x)) (h2:∀ x,zbV k1 (e x)∧zbV k2 (e x)):
  Op (o1 (zhF k1 k2)) [eL f e l] (eL .o e (l.mergeSort fun x y=>xU lt (key x) (key y))):=fun Q q=>by
 refine ⟨noS (all_map (fun x=>D.zos _ (Pf.h x)) l),all_map h2 l,fun x hx y hy=>?_,?_⟩
 ·obtain ⟨a,_,rfl⟩:=List.mem_map.mp hx
  obtain ⟨b,_,rfl⟩:=List.mem_map.mp hy
  rw [h1,h1]
  exact qT.al (e:=eb) _ _
 ·have:(l.map e).mergeSort (fun x y=>leD (keyD k1 k2 x) (keyD k1 k2 y))=(l.mergeSort fun x y=>xU lt (key x) (key y)).map e:=
   (List.map_mergeSort (r:=fun x y=>xU lt (key x) (key y)) (s:=fun x y=>leD (keyD k1 k2 x) (keyD k1 k2 y)) (f:=e) (l:=l) (fun a _ b _=>by
    rw [h1,h1]
    exact (ziR.h (e:=eb) (le:=xU lt) (key a) (key b)).symm)).symm
  rw [this]
  exact q
end DL
set_option maxHeartbeats 4000000
set_option exponentiation.threshold 50000
namespace DL
open PySem PySem.Spec PyProof.Rows L2
/-- the law's tables -/
def zfs (K:PySem.W.Frag) (tf:List He.Defn):List (Addr×Str):=tf.map fun p=>((He.cT K p).2,p.1++".<locals>."++"<lambda>")
variable [Tb]
/-- its code object's table is followed -/
def zmP (K:PySem.W.Frag) (base:Heap) (mg:Str→Option Value) (f:Addr) (qual:Str):Prop:=∀ (oc:Value) (od:Option Addr) (fd:FuncData) (osl:Array (Option Value)),K.lookup f=some ⟨oc,od,.func fd,osl⟩→
 ∃ c P,LamX.TabB base mg c P∧fd.code=.ref c∧(P,qual++".<locals>."++"<lambda>")∈Tb.T∧∀ p∈Tb.T,p.1=P→p.2=qual++".<locals>."++"<lambda>"
section
variable {P:Program} {w:World} {K:PySem.W.Frag} {mg:Str→Option Value} {base:Heap} {x qual:Str} {params:Arguments} {body:List Stmt} {scope:Scope} {f:Addr} {fd:FuncData}
theorem Fd.ofL {N ps:List Str} {k:Nat} {S:zQ} {t:DS} (F:FunD K x qual params body scope [] [] f fd) (gm:mg x=some (.ref f)) (Sc:FnScope N ps scope)
  (hb:∀ (kV doc pm:Value) (an:Option Addr) (cdv ct:Value) (us:List Value),us.length=ps.length→bindArgs (PySem.W.fnOf x qual params body scope .none kV doc pm an cdv ct) ⟨us,[]⟩=pure (ps.zip us)) (lam:zmP K base mg f qual)
  (walk:∀ (cdv:Value) (A:Around) (outer:List PySem.Env) (s:Shared) (H:Hp) (E:XK),zi0 (cxOf CX0 P w K mg base N qual scope f cdv A outer s H E).nox→Room k (A.deeper (envOfC qual scope s.heap.objs.size f cdv))→PDB (cxOf CX0 P w K mg base N qual scope f cdv A outer s H E).nox body t)
  (hS:∀ ds Q,S ds Q→ds.length=ps.length∧t (yU Q) (zH N.length ds)):Fd P w K mg base (k+1) x S:=by
 refine ⟨f,fd,ps,?_,gm,F.kp,F.bindsN hb⟩
 obtain ⟨oc,od,dV,kV,doc,pm,an,cdv,ct,osl,rfl,lk,hcd,_,_⟩:=F.ex
 obtain ⟨c,T,TB,ec,hm,hu⟩:=lam _ _ _ _ lk
 have ec:cdv=.ref c:=ec
 subst ec
 refine fn_of (N:=N) lk hcd Sc (fun vs H Q E h=>?_) fun A outer s H vs Q E hr h=>⟨_,PSs.nox (walk (.ref c) A outer s H E ⟨c,T,TB,rfl,hm,hu⟩ hr),Q9 hS h⟩
 obtain ⟨P',M,ds,Q0,s,r,pf,q,_⟩:=h
 rw [r.len]
 exact (hS _ _ q).1
end
theorem zmQ {K:PySem.W.Frag} {tf:List He.Defn} (h:ze1 tf K=true) {p:He.Defn} (hp:p∈tf):∀ q∈zfs K tf,q.1=(He.cT K p).2→q.2=p.1++".<locals>."++"<lambda>":=fun q hq e=>by
 obtain ⟨r,hr,rfl⟩:=List.mem_map.mp hq
 have nd:=of_decide_eq_true h
 have:r=p:=by
  have inj:∀ (l:List He.Defn),(l.map fun p=>(He.cT K p).2).Nodup→r∈l→p∈l→(He.cT K r).2=(He.cT K p).2→r=p:=by
   intro l
   induction l with
   | nil=>intro _ h; exact nomatch h
   | cons a l ih=>
    intro nd h1 h2 e
    rw [List.map_cons,List.nodup_cons] at nd
    rcases List.mem_cons.mp h1 with z1 | z1 <;> rcases List.mem_cons.mp h2 with z2 | z2
    ·rw [z1,z2]
    ·exact absurd (List.mem_map.mpr ⟨p,z2,by rw [← e,z1]⟩) nd.1
    ·exact absurd (List.mem_map.mpr ⟨r,z1,by rw [e,z2]⟩) nd.1
    ·exact ih nd.2 z1 z2 e
  exact inj tf nd hr hp e
 rw [this]
theorem jo.nil {H:Hp} {b:Addr} {q:Str} (h:H b=some (.tbl #[])):jo H b q:=⟨#[],h,True.intro,fun pos cv hc=>by
 have z:codeAmong pos []=some cv:=hc
 simp [codeAmong] at z⟩
theorem zoX {K:PySem.W.Frag} {H:Hp} {tf:List He.Defn} (h:∀ p∈tf.map (He.cT K),H p.2=some (.tbl #[])):∀ p∈zfs K tf,jo H p.1 p.2:=fun p hp=>by
 obtain ⟨r,hr,rfl⟩:=List.mem_map.mp hp
 exact jo.nil (h _ (List.mem_map.mpr ⟨r,hr,rfl⟩))
theorem zlL {K:PySem.W.Frag} {base:Heap} {mg:Str→Option Value} {tf:List He.Defn} {p:He.Defn} {x qual:Str} {params:Arguments} {body:List Stmt} {scope:Scope} {dvs:List V} {kws:List (Str×V)} {fd:FuncData}
  (F:FunD K x qual params body scope dvs kws (He.fAd K p) fd) (hT:Tb.T=zfs K tf) (hp:p∈tf) (hq:p.1=qual) (nd:ze1 tf K=true) (TB:∀ p∈tf,LamX.TabB base mg (He.cT K p).1 (He.cT K p).2):zmP K base mg (He.fAd K p) qual:=by
 intro oc od fd2 osl lk
 obtain ⟨oc',od',dV,kV,doc,pm,an,cdv,ct,osl',rfl,lk2,hcd,_,_⟩:=F.ex
 rw [lk2] at lk
 have e:PySem.W.fnOf x qual params body scope dV kV doc pm an cdv ct=fd2:=by
  injection lk with lk
  injection lk with _ _ lk _
  injection lk
 subst e
 obtain ⟨c,rfl⟩:=He.codeIn_ref hcd
 have ec:He.codeOf K p=c:=He.codeOf_eq lk2 rfl
 have e1:He.cT K p=(c,He.tabOf K c):=by unfold He.cT; rw [ec]
 have tb:=TB p hp
 rw [e1] at tb
 refine ⟨c,He.tabOf K c,tb,rfl,?_,fun q hq2 e2=>?_⟩
 ·rw [hT]
  refine List.mem_map.mpr ⟨p,hp,?_⟩
  rw [e1,hq]
 ·rw [hT] at hq2
  rw [← hq]
  exact zmQ nd hp q hq2 (by rw [e2,e1])
end DL
set_option maxHeartbeats 4000000
set_option exponentiation.threshold 50000
namespace DLm
open PySem PySem.Calls PySem.W PyProof.Rows
/-- (len(x),x) -/
def zoY (x:Str) (body:Expr):Prop:=∃ p1 p2 p3 p4 xx p,body=.Tuple [.Call (.Name "len" p1) [.Name x p2] [] p3,.Name x p4] xx p
section
variable {prog:Program} {w:World} {A:Around} {E:Value→Shared→Prop} {s:Shared} {env:Env} {m:Str→Option Value} {x:Str} {a:Addr} {its:Array Value}
theorem zmR {body:Expr} {mg mb:Str→Option Value} {Q:Value→Shared→Prop} (hk:env.scope.kind=.function) (hl:env.kindOf x=some .local) (hlen:env.kindOf "len"=some .globalImplicit) (hn:s.heap.Ns env.locals m) (hv:m x=some (.ref a)) (hd:(x == ("__debug__":Str))=false)
  (hg:s.heap.Ns env.globals mg) (hm:mg "len"=none) (hb:s.heap.Ns env.builtins mb) (hbv:mb "len"=bootBuiltins "len") (ht:s.heap.IsList a its) (hz:its.size≤sizeLine) (hbd:zoY x body)
  (h:∀ tk,Q (.ref s.heap.objs.size) { s with heap:=s.heap.push { cls:=.type "tuple",data:=.seq #[.int its.size tk,.ref a]},toks:=tk+1}):wpAny (model prog w) A (eval body env) Q E s:=by
 obtain ⟨p1,p2,p3,p4,xx,p,rfl⟩:=hbd
 have l63:=L2.line63
 refine wpAny_Tuple_spliced ?_
 show wpAny _ _ (spliced ((false,eval (.Call (.Name "len" p1) [.Name x p2] [] p3) env)::backTo p (starEach [.Name x p4] env))) _ _ _
 refine spliced_cons (Call_ (Name_function_global hk hlen (loadGlobal_builtin hg hm hb (hbv.trans PySem.boot_len) (callWith_builtin1 (args_cons ?_ rfl) rfl rfl)) (by decide)))
 refine wpAny_Name (wpAny_loadName_local hk hl hn hv (args_nil ?_)) hd
 refine call_len_list ht (by omega) ?_
 show wpAny _ _ (spliced ((false,eval (.Name x p4) env)::backTo p (starEach [] env))) _ _ _
 refine spliced_cons (wpAny_Name (wpAny_loadName_local hk hl hn hv ?_) hd)
 exact spliced_nil ⟨show 2≤sizeLine by decide,h (s.toks+1)⟩
end
/-- the key of names -/
def nmD (ks:List Str):PyData:=.tuple [.int ks.length,.list (ks.map PyData.str)]
theorem zft:∀ (xs ys:List Str),alikeAll (xs.map PyData.str) (ys.map PyData.str)=true
 | [],[]=>rfl
 | [],_::_=>rfl
 | _::_,[]=>rfl
 | _::xs,_::ys=>by
  show (true&&_)=true
  rw [zft xs ys]; rfl
theorem zoZ (xs ys:List Str):alike (nmD xs) (nmD ys)=true:=by
 show (true&&(alikeAll (xs.map PyData.str) (ys.map PyData.str)&&true))=true
 rw [zft]; rfl
theorem zfu:∀ xs:List Str,PyData.depthAll (xs.map PyData.str)≤1
 | []=>Nat.zero_le _
 | x::xs=>Nat.max_le.mpr ⟨by simp [PyData.depth],zfu xs⟩
theorem zo0 (xs:List Str):(nmD xs).depth≤5:=by
 have:=zfu xs
 simp only [nmD,PyData.depth,PyData.depthAll] at *
 omega
section
variable {prog:Program} {w:World} {A:Around} {E:Value→Shared→Prop} {s:Shared}
/-- min of a list of lists of texts by the key (len(x),x):the calls' making is left to the caller -/
theorem zmS {l f:Addr} {its:Array Value} {kss:List (List Str)} {Q:Value→Shared→Prop} (hh:A.in1.handled=none) (hu:A.in1.units+10 < cLine) (hl:s.heap.IsList l its) (hn:0 < its.size)
  (hit:∀ i v,its[i]?=some v→∃ (L:Addr) (o:Obj) (us:Array Value) (n:Nat),v=.ref L∧s.heap.get? L=some o∧o.cls=.type "list"∧o.data=.seq us n∧ReadsAll s.heap us.toList ((kss.getD i []).map PyData.str) []∧us.size=(kss.getD i []).length)
  (hcall:∀ i L h tk,its[i]?=some (.ref L)→(∀ b o,s.heap.get? b=some o→h.get? b=some o)→wpAny (model prog w) A.in1 (call (.ref f) [.ref L]) (fun k s'=>∃ t h' tk' o c tk0,k=.ref t∧s'={ s with heap:=h',toks:=tk'}∧(∀ b o,h.get? b=some o→h'.get? b=some o)∧h.get? t=none∧
   h'.get? t=some o∧o.cls=.type "tuple"∧o.data=.seq #[.int (kss.getD i []).length tk0,.ref L] c) (fun _ _=>False) { s with heap:=h,toks:=tk})
  (hQ:∀ v h tk,its[argBest (fun i j=>dataLt (nmD (kss.getD i [])) (nmD (kss.getD j []))) (its.size - 1)]?=some v→(∀ b o,s.heap.get? b=some o→h.get? b=some o)→Q v { s with heap:=h,toks:=tk}):
  wpAny (model prog w) A (call (.builtin "min") [.ref l] [(Str.ofString "key",.ref f)]) Q E s:=by
 refine call_min_walkK (iter_listW hh hl fun s₂ e₂ W st0 hfp hnew hk₂=>?_)
 subst e₂
 have I0:∀ b o,s.heap.get? b=some o→b≠s.heap.objs.size:=fun b o e=>Nat.ne_of_lt (Heap.lt_size e)
 let S:Addr:=(s.heap.push { cls:=.type "list_iterator",data:=.fields #[.ref l,.int 0 0]}).objs.size
 have S0:∀ b o,s.heap.get? b=some o→b≠S:=fun b o e=>Nat.ne_of_lt (Heap.lt_size (Heap.get?_push_of_some _ e))
 refine ⟨_,_,_,_,_,_,_,(fun s'=>∃ h tk,s'={ s with heap:=h,toks:=tk}∧∀ b o,s.heap.get? b=some o→h.get? b=some o),
  (fun i k s'=>∃ t L o c tk0,k=.ref t∧its[i]?=some (.ref L)∧t≠S∧t≠s.heap.objs.size∧s'.heap.get? t=some o∧o.cls=.type "tuple"∧o.data=.seq #[.int (kss.getD i []).length tk0,.ref L] c),
  (fun i j=>dataLt (nmD (kss.getD i [])) (nmD (kss.getD j []))),rfl,W,st0,hfp,hn,⟨?_,?_,?_,?_⟩,⟨_,s.toks,rfl,hk₂⟩,?_⟩
 ·rintro s1 s' ⟨h,tk,rfl,kp⟩ m
  refine ⟨s'.heap,s'.toks,?_,fun b o e=>m.heap b o (fun hb=>?_) (kp b o e)⟩
  ·obtain ⟨hp,g,d,tk',os⟩:=s'
   have h1:g=s.gens:=m.gens
   have h2:d=s.drawn:=m.drawn
   have h3:os=s.os:=m.os
   subst h1 h2 h3
   rfl
  ·rcases List.mem_cons.mp hb with z | z
   ·exact S0 b o e z
   ·exact I0 b o e (List.mem_singleton.mp z)
 ·rintro i k s1 s' ⟨t,L,o,c,tk0,rfl,hi,n1,n2,ho,hc,hd⟩ m
  refine ⟨t,L,o,c,tk0,rfl,hi,n1,n2,m.heap t o (fun hb=>?_) ho,hc,hd⟩
  rcases List.mem_cons.mp hb with z | z
  ·exact n1 z
  ·exact n2 (List.mem_singleton.mp z)
 ·rintro i v s1 o Q' E' hi hP ⟨h,tk,rfl,kp⟩ st hS hq
  obtain ⟨L,oL,us,n,rfl,_⟩:=hit i v hP
  refine wpAny_mono (hcall i L h tk hP kp) ?_ fun _ _ z=>z.elim
  rintro k s' ⟨t,h',tk',ot,c,tk0,rfl,rfl,kp',ht,hot,hct,hdt⟩
  obtain ⟨⟨oI,eI,cI,dI⟩,st2⟩:=st
  refine hq _ _ ⟨_,_,rfl,fun b o e=>kp' b o (kp b o e)⟩ ⟨⟨oI,kp' _ _ eI,cI,dI⟩,st2.at fun o e=>kp' _ _ e⟩ (kp' _ _ hS) ⟨t,L,ot,c,tk0,rfl,hP,?_,?_,hot,hct,hdt⟩ ?_
  ·rintro rfl
   have:h.get? S=some o:=hS
   rw [ht] at this; cases this
  ·rintro rfl
   have:h.get? s.heap.objs.size=some oI:=eI
   rw [ht] at this; cases this
  ·rintro j k' ⟨t2,L2,o2,c2,tk2,rfl,hj,n1,n2,e,r⟩
   exact ⟨t2,L2,o2,c2,tk2,rfl,hj,n1,n2,kp' _ _ e,r⟩
 ·rintro i j ki kj s1 Q' E' ⟨h,tk,rfl,kp⟩ ⟨t,L,o,c,tk0,rfl,hi,_,_,ho,hc,hd⟩ ⟨t2,L2,o2,c2,tk2,rfl,hj,_,_,ho2,hc2,hd2⟩ hq
  have rd:∀ {i t L o c tk0},its[i]?=some (.ref L)→h.get? t=some o→o.cls=.type "tuple"→o.data=.seq #[.int (kss.getD i []).length tk0,.ref L] c→∃ as,Reads h (.ref t) (nmD (kss.getD i [])) as:=by
   intro i t L o c tk0 hi ho hc hd
   obtain ⟨L',oL,us,n,e,e1,e2,e3,e4,_⟩:=hit i _ hi
   cases e
   exact ⟨_,.tuple ho hc hd (.cons (.int _ _) (.cons (.list (kp _ _ e1) e2 e3 (ReadsAll.keeps kp e4)) .nil))⟩
  obtain ⟨as,r1⟩:=rd hi ho hc hd
  obtain ⟨bs,r2⟩:=rd hj ho2 hc2 hd2
  refine rcLt_alike _ _ A.in1 { s with heap:=h,toks:=tk} _ _ _ _ r1 r2 (zoZ _ _) (fun z=>nomatch z) ?_ prog w E' Q' hq
  have:=Nat.min_le_left (nmD (kss.getD i [])).depth (nmD (kss.getD j [])).depth
  have:=zo0 (kss.getD i [])
  omega
 ·rintro v s' hP ⟨h,tk,rfl,kp⟩
  exact hQ v h tk hP kp
end
end DLm
set_option maxHeartbeats 4000000
set_option exponentiation.threshold 50000
namespace DL
open PySem PySem.Spec PyProof.Rows L2
variable [Tb]
def zfv (ks:List Str):D:=.con .l .f (ks.map D.str)
/-- the first of the least -/
def zlM:List (List Str)→List Str
 | []=>[]
 | x::r=>r.foldl (fun a y=>if PySem.W.dataLt (DLm.nmD y) (DLm.nmD a) then y else a) x
def zlN:D1
 | .con .l _ xs,Q=>∃ kss:List (List Str),kss≠[]∧xs=kss.map zfv∧Q (zfv (zlM kss))
 | _,_=>False
theorem zlO:∀ kss:List (List Str),D.pfs (kss.map zfv)=true
 | []=>rfl
 | k::kss=>by
  have:D.pfs (k.map D.str)=true:=by
   induction k with
   | nil=>rfl
   | cons a k ih=>exact ih
  simp only [List.map_cons,D.pfs,zfv,D.pf,this,Bool.and_self,Bool.true_and]
  exact zlO kss
theorem zbl {h:Heap}:∀ {ks:List Str} {us:List Value},Vals (ks.map V.str) us→ReadsAll h us (ks.map PyData.str) []
 | [],_,.nil=>.nil
 | k::ks,_,.cons r t=>by
  obtain ⟨tk,rfl⟩:=r
  exact .cons (as:=[]) (bs:=[]) (.str _ _) (zbl t)
section
variable {X:Cx} {e body:Expr} {params:Arguments} {scope:Scope} {x:Str} {p pos lpos kpos:Pos} {te:DT} {k:Nat}
theorem zqx (d:Gd X k) (hl:zi0 X) (hm:X.mg "min"=none) (hm2:X.mg "len"=none) (ha:PD X e te) (hdef:defaultsOf params X.env=([],[])) (sk:scope.kind=.function) (sc:scope.isCoroutine=false) (sg:scope.isGenerator=false) (sn:scope.names=[(x,.local),("len",.globalImplicit)])
  (hbind:∀ (q:Str) (pm cv ctv v:Value),bindArgs (PySem.W.kla_fn "<lambda>" q params body scope [] pm cv ctv) ⟨[v],[]⟩=pure [(x,v)]) (hdb:(x == ("__debug__":Str))=false) (hxl:(("len":Str) == x)=false) (hb:DLm.zoY x body) (hg:Gl X "min":=by rfl)
  (he:backTo pos (starEach [e] X.env)=(false,eval e X.env)::backTo pos (starEach [] X.env):=by rfl) (hs:starEach [e] X.env=(false,eval e X.env)::starEach [] X.env:=by rfl) (hpl:(backTo pos (starEach [e] X.env)).any (·.1)=false:=by rfl)
  (hall:(backToKw pos (keywordEach [⟨some "key",.Lambda params body scope lpos,kpos⟩] X.env)).all (·.1.isSome)=true:=by rfl) (hnone:(backToKw pos (keywordEach [⟨some "key",.Lambda params body scope lpos,kpos⟩] X.env)).any (·.1.isNone)=false:=by rfl)
  (hks:(backToKw pos (keywordEach [⟨some "key",.Lambda params body scope lpos,kpos⟩] X.env)).filterMap (·.1)=[Str.ofString "key"]:=by rfl):
  PD X (.Call (.Name "min" p) [e] [⟨some "key",.Lambda params body scope lpos,kpos⟩] pos) (dUn (o1 zlN) te):=by
 refine ⟨fun pins s σ H Q I h=>?_⟩
 have h0:=Xq h
 obtain ⟨c,T,TB,hcode,hmT,hu⟩:=hl.ex
 refine wpAny_Call_Name_kw (ld_blt I hg hm boot_min ?_)
 refine PyProof.Rows.callWith_kw (thn ((one_arg ha hs).run pos pins s σ H (fun us H1=>∃ v,us=[v]∧rC X.K (o1 zlN) [v] H1 Q) I ?_) fun us s1 q=>?_) he hpl hall hnone
 ·obtain ⟨P0,M0,B0,ρ,Q0,a1,a2,a3,a4⟩:=h0
  exact ⟨P0,M0,B0,ρ,Q0,a1,a2,a3,fun v H' r=>⟨v,rfl,a4 v H' r⟩⟩
 obtain ⟨vs,H1,I1,r1,v,rfl,q⟩:=q
 rw [hks]
 refine to1 q fun P M B v' dd L Q0 ev A r qq k=>?_
 injection ev with ev _
 subst ev
 have T1:=A.stt.tabs
 show wpAny _ _ (evalAll [(do let v ← eval (.Lambda params body scope lpos) X.env; standAt pos; pure v)]) _ _ _
 refine wpAny_evalAll_cons (wpAny_bind (zgX (N:=[]) I1 TB hcode hmT hu T1 hdef (fun y hy=>by
  rw [sn] at hy
  rcases List.mem_cons.mp hy with z | z
  ·rw [z]; exact .inl rfl
  ·rw [List.mem_singleton.mp z]; exact .inr rfl) fun f c' pm ctv H2 s2 I2 g0 hn hf hfn hco=>wpAny_bind (wpAny_standAt (wpAny_pure (wpAny_evalAll_nil ?_)))))
 show wpAny _ _ (call (.builtin "min") us [(Str.ofString "key",.ref f)]) _ _ _
 have g:Gr P.as H1 H2:=g0.sub fun b z=>nomatch z
 have p2:=zi4 A.stt.zM g0
 have s2':=A.stt.keep g p2
 have r2:=Rep.gr g A.stt.lists (fun _ z=>.inl z) (fun _ z=>.inl z) r
 obtain ⟨u,rfl,ru⟩:=vals1 r1
 cases dd with
 | con ct kf xs=>
  obtain rfl:ct=.l:=by
   cases ct with
   | l=>rfl
   | _=>exact (show False from qq).elim
  obtain ⟨a,vs,L',rfl,h1,rr,c0⟩:=r2.lst_inv
  obtain ⟨kss,q1,q2,q3⟩:∃ kss:List (List Str),kss≠[]∧xs=kss.map zfv∧Q0 (zfv (zlM kss)):=qq
  subst q2
  obtain ⟨el,rr⟩:=rr.pf (zlO kss)
  subst el
  cases ru
  obtain ⟨its,rv,pl,hz⟩:=I2.list h1
  have len:its.length=kss.length:=by
   have e3:its.length=vs.length:=rv.length.symm
   have e4:=rr.len
   rw [List.length_map] at e4
   omega
  have at_:∀ i v,its[i]?=some v→∃ (w:Addr) (b:V),vs[i]?=some b∧b=.ref w∧v=.ref w∧i < kss.length∧Rep X.K P (L++M) (L++B) H2 (.ref w) (zfv (kss.getD i [])) []:=by
   intro i v e
   have hi:i < its.length:=(List.getElem?_eq_some_iff.mp e).1
   have hk:i < kss.length:=by omega
   have e5:(kss.map zfv)[i]?=some (zfv (kss.getD i [])):=by
    rw [List.getElem?_map,List.getElem?_eq_getElem hk,List.getD_eq_getElem?_getD,List.getElem?_eq_getElem hk]; rfl
   obtain ⟨b,L1,eb,q,s⟩:=rr.get e5
   have:L1=[]:=by
    cases L1 with
    | nil=>rfl
    | cons a _=>exact nomatch s a (List.mem_cons_self ..)
   subst this
   obtain ⟨w,vw,L2,rfl,_⟩:=q.lst_inv
   obtain ⟨u2,e6,r6⟩:=rv.get eb
   rw [e] at e6
   cases e6
   cases r6
   exact ⟨w,_,eb,rfl,rfl,hk,q⟩
  have room:=d.room
  have hgl:=I2.mod.glob.keeps I2.bk
  obtain ⟨mb,hb1,hb2⟩:=I2.mod.blt
  have hbl:=hb1.keeps I2.bk
  have hne:0 < kss.length:=List.length_pos_iff.mpr q1
  refine DLm.zmS (kss:=kss) (I2.ok.hd d.calm) ?_ pl.isList (by rw [List.size_toArray,len]; exact hne) (fun i v e=>?_) (fun i w h tk e kp=>?_) fun v h tk e kp=>?_
  ·have:=d.u
   show X.A.units+1+10 < cLine
   omega
  ·obtain ⟨w,b,_,_,rfl,hk,q⟩:=at_ i v (by simpa using e)
   obtain ⟨a2,vs2,L2,ea,h2,r2',_⟩:=q.lst_inv
   cases ea
   obtain ⟨us,rv2,pl2,hz2⟩:=I2.list h2
   obtain ⟨o,ho,hc,n,hd⟩:=pl2.isList
   have ev:=Je r2'
   rw [ev] at rv2
   refine ⟨w,o,us.toArray,n,rfl,ho,hc,hd,zbl rv2,?_⟩
   rw [List.size_toArray,← rv2.length,List.length_map]
  ·obtain ⟨w2,b,_,_,ew,hk,q⟩:=at_ i _ (by simpa using e)
   cases ew
   obtain ⟨a2,vs2,L2,ea,h2,r2',_⟩:=q.lst_inv
   cases ea
   obtain ⟨us,rv2,pl2,hz2⟩:=I2.list h2
   have ev:=Je r2'
   rw [ev] at rv2
   have lus:us.length=(kss.getD i []).length:=by rw [← rv2.length,List.length_map]
   have hz3:us.length≤sizeLine:=by rw [← rv2.length,← ev]; exact hz2
   obtain ⟨oc,vs1,t1,e1,e2,e3⟩:=hco
   refine DLm.zgW (x:=x) (s:={ s2 with heap:=h,toks:=tk}) (f:=f) (c':=c') ?_ (kp _ _ hf) ⟨oc,vs1,t1,kp _ _ e1,e2,e3⟩ sk sc sg sn (fun y hy=>by rw [List.mem_singleton.mp hy]) (hbind _ _ _ _ _) (I2.nolimit.keeps kp) fun L0 h₁ tk1 kp1 hns=>?_
   ·have:=room.dp
    show X.A.depth+0 < recursionLimit
    omega
   refine DLm.zmR (s:={ s2 with heap:=h₁,toks:=tk1}) (x:=x) (its:=us.toArray) (mg:=X.mg) (mb:=mb) sk ?_ ?_ hns ?_ hdb ((hgl.keeps kp).keeps kp1) hm2 ((hbl.keeps kp).keeps kp1) (hb2 "len" (by decide)) (by
    obtain ⟨oL,eL,cL,nL,dL⟩:=pl2.isList
    exact ⟨oL,kp1 _ _ (kp _ _ eL),cL,nL,dL⟩) (by rw [List.size_toArray]; exact hz3) hb fun tk2=>?_
   ·show scope.names.lookup x=some .local
    rw [sn]; simp [List.lookup]
   ·show scope.names.lookup ("len":Str)=some NameKind.globalImplicit
    rw [sn]; simp [List.lookup,hxl]
   ·simp [List.lookup]
   ·have nb:h.get? h₁.objs.size=none:=by
     cases e:h.get? h₁.objs.size with
     | none=>rfl
     | some o=>
      have:=kp1 _ _ e
      rw [Heap.get?_none_of_le (Nat.le_refl _)] at this
      cases this
    refine ⟨_,_,_,_,0,tk2,rfl,rfl,fun b o e=>Heap.get?_push_of_some _ (kp1 b o e),nb,Heap.get?_push_size _ rfl,rfl,?_⟩
    rw [List.size_toArray,lus]
  ·have hv:zlM kss=kss.getD (argBest (fun i j=>PySem.W.dataLt (DLm.nmD (kss.getD i [])) (DLm.nmD (kss.getD j []))) (its.toArray.size - 1)) []:=by
    cases kss with
    | nil=>exact absurd rfl q1
    | cons y zs=>
     have:=(PySem.W.argBest_fold (fun a b=>PySem.W.dataLt (DLm.nmD a) (DLm.nmD b)) [] y zs zs.length (Nat.le_refl _)).2
     rw [List.take_length] at this
     rw [List.size_toArray,len,List.length_cons,Nat.add_sub_cancel]
     exact this.symm
   rw [List.getElem?_toArray] at e
   obtain ⟨w,b,_,_,rfl,hk,q⟩:=at_ _ v e
   rw [← hv] at q
   have I3:Inv X pins σ H2 { s2 with heap:=h,toks:=tk}:=I2.kept fun b o e=>kp b o e
   have A2:Args X.K P M B H2 [.ref a] [.con .l kf (kss.map zfv)] L:=⟨s2',by
    have:=zf.cons r2 .nil
    rw [List.append_nil] at this
    exact this,A.nd,A.sub,A.out⟩
   refine ⟨.ref w,H2,I3,rfl,k _ _ ?_⟩
   obtain ⟨c5,Lr,q5,g5,p5,r5,n5,f5⟩:=A2.elem (Q0:=Q0) q (fun _ z=>nomatch z) List.nodup_nil q3
   exact ⟨c5,Lr,q5,g.trans g5,p5,r5,n5,fun b z=>(f5 b z).elim (fun w=>.inl (g.nil p2 w)) .inr⟩
 | _=>exact qq.elim
end
end DL
set_option maxHeartbeats 4000000
set_option exponentiation.threshold 50000
namespace DLm
open PySem PySem.Calls PySem.W PyProof.Rows
theorem zfw (a v:Value):argsOk "sum" ⟨[a],[(Str.ofString "start",v)]⟩:=by unfold argsOk; kernel_rfl
section
variable {prog:Program} {w:World} {A:Around} {E:Value→Shared→Prop} {s:Shared}
/-- a number is none of these -/
theorem zkF {T:String} {i:Int} {tk:Tok} {Q:Bool→Shared→Prop} (e:isSubtype (.type "int") (.type T)=pure false) (q:Q false s):wpAny (model prog w) A (isInstance (.int i tk) (.type T)) Q E s:=wpAny_isInstance (b:=false) (typeIs_int _ _ _) e q
/-- sum(xs,start=0) of a list of numbers:the start is copied,the rest is as without it -/
theorem zo1 {l:Addr} {its:List Value} {ns:List Int} {t0:Tok} {Q:Value→Shared→Prop} (hh:A.handled=none) (hl:s.heap.IsList l its.toArray) (hi:IntsAre its ns)
  (h:∀ h' tk t',(∀ b o,s.heap.get? b=some o→h'.get? b=some o)→Q (.int ns.sum t') { s with heap:=h',toks:=tk}):wpAny (model prog w) A (call (.builtin "sum") [.ref l] [(Str.ofString "start",.int 0 t0)]) Q E s:=by
 have ⟨xs,ex⟩:=hi.allInts.items
 have enum:numsOf (intItems xs).toList=ns:=(congrArg (fun v:Array Value=>numsOf v.toList) ex.symm).trans hi.numsOf
 have many:(intItems xs).size=xs.size:=by simp [intItems]
 have total:preSum (numAt xs) (intItems xs).size=ns.sum:=by
  rw [many,preSum_eq,List.take_of_length_le (by simp),← nums_intItems,enum]
 refine kmk_tree F.kind_sum F.plain_sum F.entry_sum (zfw _ _) ?_
 delta Builtin.«sum»
 simp only [List.length_cons,List.length_nil]
 rw [if_neg (show ¬0+1+(0+1) > 2 by decide)]
 refine wpAny_bind (wpAny_of_eq (a:=[some (Value.int 0 t0)]) rfl (wpAny_bind (iter_intList (ex ▸ hl) fun s₂ e st low off=>?_)))
 subst e
 change wpAny _ _ (rule "sum.start-copied" >>= fun _=>_) _ _ _
 refine wpAny_bind (wpAny_rule (wpAny_bind (wpAny_mkInt (wpAny_bind (wpAny_pure ?_)))))
 simp only [List.forIn_cons,List.forIn_nil]
 refine wpAny_bind (wpAny_bind (wpAny_bind (zkF PySem.sub_int_str ?_)))
 rw [if_neg (by decide)]
 refine wpAny_pure (wpAny_bind (wpAny_bind (zkF PySem.sub_int_bytes ?_)))
 rw [if_neg (by decide)]
 refine wpAny_pure (wpAny_bind (wpAny_bind (zkF PySem.sub_int_bytearray ?_)))
 rw [if_neg (by decide)]
 refine wpAny_pure (wpAny_pure (wpAny_bind (wpAny_newObj_type (wpAny_pure ⟨plainId_quiet F.plain_sum_loop _,?_⟩))))
 have W:=Walks.list (prog:=prog) (w:=w) (A:=A.in1) hh _ l off (intItems xs)
 refine codeAny_sum_loopG W (numAt xs) (fun _ _=>intItems_at) _ (fun z=>Nat.lt_irrefl _ (low _ z)) _ 0 _ s.toks 0 0 (.inl rfl) rfl (Nat.zero_le _) ?_ ?_ fun g tk t' k=>?_
 ·exact W.frame _ _ _ st fun c _ o r=>Heap.get?_push_of_some _ r
 ·exact Heap.get?_push_size _ rfl
 ·rw [total]
  refine h g tk t' fun c o r=>?_
  have r1:(s.heap.push { cls:=.type "list_iterator",data:=.fields #[.ref l,.int 0 0]}).get? c=some o:=Heap.get?_push_of_some _ r
  exact k c o (fun z=>Nat.ne_of_lt (Heap.lt_size r) (List.mem_singleton.mp z)) (Nat.ne_of_lt (Heap.lt_size r1)) (Heap.get?_push_of_some _ r1)
end
end DLm
namespace DL
open PySem PySem.Spec PyProof.Rows L2
variable [Tb]
/-- a built-in called with one thing and a keyword,nought -/
def Kw0 (X:Cx) (f:String) (kw:Str) (D:D1):Prop:=∀ (pins:List (Addr×Obj)) (s:Shared) (σ:L2.St) (H:Hp) (vs:List V) (us:List Value) (Q:VK) (t0:Tok),Inv X pins σ H s→Vals vs us→rC X.K (o1 D) vs H Q→wpAny (model X.prog X.w) X.A (call (.builtin f) us [(kw,.int 0 t0)]) (EP X pins σ Q) X.xe s
section
variable {X:Cx} {e:Expr} {p pos cp kpos:Pos} {te:DT} {k j:Nat} {f:String} {kw:Str} {D:D1}
theorem zsh (cr:Kw0 X f kw D) (hm:X.mg (Str.ofString f)=none) (ha:PD X e te) (hbt:bootBuiltins (Str.ofString f)=some (.builtin f)) (hg:Gl X (Str.ofString f):=by rfl)
  (he:backTo pos (starEach [e] X.env)=(false,eval e X.env)::backTo pos (starEach [] X.env):=by rfl) (hs:starEach [e] X.env=(false,eval e X.env)::starEach [] X.env:=by rfl) (hpl:(backTo pos (starEach [e] X.env)).any (·.1)=false:=by rfl)
  (hall:(backToKw pos (keywordEach [⟨some kw,.Constant (.int 0) j cp,kpos⟩] X.env)).all (·.1.isSome)=true:=by rfl) (hnone:(backToKw pos (keywordEach [⟨some kw,.Constant (.int 0) j cp,kpos⟩] X.env)).any (·.1.isNone)=false:=by rfl)
  (hks:(backToKw pos (keywordEach [⟨some kw,.Constant (.int 0) j cp,kpos⟩] X.env)).filterMap (·.1)=[kw]:=by rfl) (hn:(Str.ofString f)≠"__name__":=by decide) (hd:((Str.ofString f) == ("__debug__":Str))=false:=by decide):
  PD X (.Call (.Name (Str.ofString f) p) [e] [⟨some kw,.Constant (.int 0) j cp,kpos⟩] pos) (dUn (o1 D) te):=by
 refine ⟨fun pins s σ H Q I h=>?_⟩
 have h0:=Xq h
 refine wpAny_Call_Name_kw (ld_blt I hg hm hbt ?_ hn hd)
 refine PyProof.Rows.callWith_kw (thn ((one_arg ha hs).run pos pins s σ H (fun us H1=>∃ v,us=[v]∧rC X.K (o1 D) [v] H1 Q) I ?_) fun us s1 q=>?_) he hpl hall hnone
 ·obtain ⟨P0,M0,B0,ρ,Q0,a1,a2,a3,a4⟩:=h0
  exact ⟨P0,M0,B0,ρ,Q0,a1,a2,a3,fun v H' r=>⟨v,rfl,a4 v H' r⟩⟩
 obtain ⟨vs,H1,I1,r1,v,rfl,q⟩:=q
 rw [hks]
 show wpAny _ _ (evalAll [(do let v ← eval (.Constant (.int 0) j cp) X.env; standAt pos; pure v)]) _ _ _
 refine wpAny_evalAll_cons (wpAny_bind (wpAny_Constant_int (wpAny_bind (wpAny_standAt (wpAny_pure (wpAny_evalAll_nil ?_))))))
 exact cr pins _ σ H1 [v] us Q s1.toks (I1.tok _) r1 q
theorem zsi (hc:X.calm=true):Kw0 X "sum" "start" zkf:=fun pins s σ H vs us Q t0 I r h=>by
 refine to1 h fun P M B v d L Q0 e A r1 q k=>?_
 subst e
 unfold zkf at q
 split at q
 ·obtain ⟨a,vs,L',rfl,h1,rr,_⟩:=r1.lst_inv
  split at q
  ·rename_i bs e
   rw [ints_of rr e] at h1
   obtain ⟨its,rv,hl,_⟩:=I.list h1
   rw [Vals.ref1 r]
   exact DLm.zo1 (I.ok.hd hc) hl.isList rv.ints fun h' tk t' hk=>⟨.int _,H,I.kept hk,⟨_,rfl⟩,k _ _ (A.plain (fun {_}=>.int) q)⟩
  ·exact q.elim
 ·exact q.elim
end
end DL
set_option maxHeartbeats 4000000
set_option exponentiation.threshold 50000
namespace DL
open PySem PySem.Spec PyProof.Rows L2
variable [Tb]
def zez (a b:List OkS):Bool:=YB ltI (ltL ltS) ((a.length:Int),a) ((b.length:Int),b)
def Qh:List (List OkS)→List OkS
 | []=>[]
 | x::r=>r.foldl (fun a y=>if zez y a then y else a) x
theorem ztO (a b:List OkS):PySem.W.dataLt (DLm.nmD (a.map (·.1))) (DLm.nmD (b.map (·.1)))=zez a b:=by
 have h:=qT.h (e:=eT2 eI (eL .f eS)) (lt:=YB ltI (ltL ltS)) ((a.length:Int),a) ((b.length:Int),b) [] []
 rw [List.append_nil,List.append_nil] at h
 have e:∀ a:List OkS,(eT2 eI (eL .f eS) ((a.length:Int),a)).py=DLm.nmD (a.map (·.1)):=fun a=>by
  have:D.pys (a.map eS)=(a.map (·.1)).map PyData.str:=by
   induction a with
   | nil=>rfl
   | cons x a ih=>show PyData.str x.1::D.pys (a.map eS)=_; rw [ih]; rfl
  show PyData.tuple [.int a.length,.list (D.pys (a.map eS))]=_
  rw [this]
  show _=PyData.tuple [.int (a.map (·.1)).length,_]
  rw [List.length_map]
 show Xx (PySem.W.keyToks _) (PySem.W.keyToks _)=_
 rw [← e,← e]
 refine h.trans ?_
 show (zez a b||(!zez b a&&false))=zez a b
 rw [Bool.and_false,Bool.or_false]
theorem zo2:∀ l:List (List OkS),zlM (l.map fun a=>a.map (·.1))=(Qh l).map (·.1)
 | []=>rfl
 | x::r=>by
  show (r.map _).foldl _ _=(r.foldl _ x).map _
  induction r generalizing x with
  | nil=>rfl
  | cons y r ih=>
   rw [List.map_cons,List.foldl_cons,List.foldl_cons,ztO]
   by_cases h:zez y x=true
   ·rw [if_pos h,if_pos h]; exact ih y
   ·rw [if_neg h,if_neg h]; exact ih x
theorem zsj {f:Fl} {l:List (List OkS)} (h:l≠[]):Op (o1 zlN) [eL f (eL .f eS) l] (eL .f eS (Qh l)):=fun Q q=>by
 refine ⟨l.map fun a=>a.map (·.1),fun z=>h (List.map_eq_nil_iff.mp z),?_,?_⟩
 ·rw [List.map_map]
  refine List.map_congr_left fun a _=>?_
  show D.lst .f (a.map eS)=.con .l .f ((a.map (·.1)).map D.str)
  rw [List.map_map]; rfl
 ·rw [zo2]
  have:zfv ((Qh l).map (·.1))=eL .f eS (Qh l):=by
   show D.lst .f (((Qh l).map (·.1)).map D.str)=D.lst .f ((Qh l).map eS)
   rw [List.map_map]; rfl
  rw [this]; exact q
section
variable {α β γ δ:Type} {a:α→D} {b:β→D} {c:γ→D} {d:δ→D} {f:α→α→Bool} {g:β→β→Bool} {h:γ→γ→Bool} {k:δ→δ→Bool}
def zcr (f:α→α→Bool) (g:β→β→Bool) (h:γ→γ→Bool) (k:δ→δ→Bool):α×β×γ×δ→α×β×γ×δ→Bool:=fun p q=>f p.1 q.1||(!f q.1 p.1&&(g p.2.1 q.2.1||(!g q.2.1 p.2.1&&(h p.2.2.1 q.2.2.1||(!h q.2.2.1 p.2.2.1&&k p.2.2.2 q.2.2.2)))))
theorem zlP {x y z w:D} {s:List (Int ⊕ List Nat)}:tkD (.tup [x,y,z,w])++s=.inl 1::(tkD x++(.inl 1::(tkD y++(.inl 1::(tkD z++(.inl 1::(tkD w++(.inl 0::s)))))))):=by
 show ((Sum.inl 1::(tkD x++(Sum.inl 1::(tkD y++(Sum.inl 1::(tkD z++(Sum.inl 1::(tkD w++[Sum.inl 0]))))))))++s:List (Int ⊕ List Nat))=_
 simp
instance [qT a f] [qT b g] [qT c h] [qT d k]:qT (eT4 a b c d) (zcr f g h k):=⟨fun x y s t=>by
 show Xx (tkD (.tup [a x.1,b x.2.1,c x.2.2.1,d x.2.2.2])++s) (tkD (.tup [a y.1,b y.2.1,c y.2.2.1,d y.2.2.2])++t)=_
 rw [zlP,zlP,QV,qT.h (e:=a),QV,qT.h (e:=b),QV,qT.h (e:=c),QV,qT.h (e:=d),zhz]
 unfold zcr
 cases f x.1 y.1 <;> cases f y.1 x.1 <;> cases g x.2.1 y.2.1 <;> cases g y.2.1 x.2.1 <;> cases h x.2.2.1 y.2.2.1 <;> cases h y.2.2.1 x.2.2.1 <;> simp,fun x y=>by
 show (ZG (a x.1) (a y.1)&&(ZG (b x.2.1) (b y.2.1)&&(ZG (c x.2.2.1) (c y.2.2.1)&&(ZG (d x.2.2.2) (d y.2.2.2)&&true))))=true
 rw [qT.al (e:=a),qT.al (e:=b),qT.al (e:=c),qT.al (e:=d)]; rfl⟩
instance:Kd1 (eT4 a b c d):=⟨.inl fun _=>⟨_,_,rfl⟩⟩
theorem zqy {x:α} {y:β×γ×δ}:Op (o2 XS) [eT1 a x,eT3 b c d y] (eT4 a b c d (x,y)):=fun Q q=>⟨by simp,by simp,show 1+3≤sizeLine by decide,q⟩
theorem zsk {ta ti tj:DT} {ρ:Env} {x:α×β×γ×δ} (h':Ev ta ρ (eT4 a b c d x)) (ha:EvO ti ρ (some 1)) (hb:EvO tj ρ none):Ev (dSl ta ti tj) ρ (eT3 b c d x.2):=fun Q q=>by
 obtain ⟨d1,e1,p1⟩:=ha
 obtain ⟨d2,e2,p2⟩:=hb
 refine h' _ (e1 _ (e2 _ ?_))
 show slD (eT4 a b c d x) d1 d2 Q
 unfold slD
 rw [p1,p2]
 exact ⟨fun z=>absurd (show HT.sIx 4 0 (some 1)=0 from z.1) (by decide),q⟩
end
def oG {α:Type} [Inhabited α] (o:Option α):α:=o.getD default
theorem zut {α:Type} [Inhabited α] {e:α→D} {t:DT} {ρ:Env} {v:Option α} (h:Ev t ρ (eO e v)) (hs:v.isSome=true):Ev t ρ (e (oG v)):=by
 cases v with
 | none=>cases hs
 | some x=>exact h
end DL
set_option maxHeartbeats 4000000
set_option exponentiation.threshold 50000
namespace DL
open PySem PySem.Spec PyProof.Rows L2
end DL
namespace DL
open PySem PySem.Spec PyProof.Rows L2
end DL
set_option maxHeartbeats 4000000
set_option exponentiation.threshold 50000
namespace DL
open PySem PySem.Spec PyProof.Rows L2
variable [Tb]
section
variable {α β γ:Type}
instance {a a':α→D} [DecidableEq α] [EqX a a'] [NN a] [NN a']:EqX (eO a) (eO a'):=⟨fun x y=>by
 cases x with
 | none=>
  cases y with
  | none=>rfl
  | some y=>
   show eqD .non (a' y)=_
   rw [NN.l]; rfl
 | some x=>
  cases y with
  | none=>
   show eqD (a x) .non=_
   rw [NN.r]; rfl
  | some y=>
   show eqD (a x) (a' y)=_
   rw [EqX.h]; exact decide_eq_decide.mpr (by simp)⟩
def eH3 (k:Fl) (a:α→D) (b:β→D) (c:γ→D):α×β×γ→D:=fun p=>.con .l k [a p.1,b p.2.1,c p.2.2]
variable {a a':α→D} {b b':β→D} {c c':γ→D}
instance [Pf a] [Pf b] [Pf c]:Pf (eH3 .f a b c):=⟨fun x=>by show (true&&((a x.1).pf&&((b x.2.1).pf&&((c x.2.2).pf&&true))))=true; rw [Pf.h,Pf.h,Pf.h]; rfl,fun x=>npS (ds:=[a x.1,b x.2.1,c x.2.2]) (by simp [Pf.np])⟩
instance [Nb a] [Nb b] [Nb c]:Nb (eH3 .o a b c):=⟨fun x=>nbS (ds:=[a x.1,b x.2.1,c x.2.2]) (by simp [Nb.h])⟩
instance {k:Fl} [Np a] [Np b] [Np c]:Np (eH3 k a b c):=⟨fun x=>npS (ds:=[a x.1,b x.2.1,c x.2.2]) (by simp [Np.h])⟩
instance [Vw a a'] [Vw b b'] [Vw c c']:Vw (eH3 .o a b c) (eH3 .b a' b' c'):=⟨fun x=>by show D.lst .b [(a x.1).vw,(b x.2.1).vw,(c x.2.2).vw]=_; rw [Vw.h (e':=a'),Vw.h (e':=b'),Vw.h (e':=c')]; rfl⟩
instance:Vw (eH3 .b a b c) (eH3 .b a b c):=⟨fun _=>rfl⟩
instance:Vw (eH3 .f a b c) (eH3 .f a b c):=⟨fun _=>rfl⟩
instance:Fz (eH3 .f a b c) (eH3 .f a b c):=⟨fun _=>rfl⟩
instance [Fz a a'] [Fz b b'] [Fz c c']:Fz (eH3 .o a b c) (eH3 .f a' b' c'):=⟨fun x=>by show D.lst .f [(a x.1).fz,(b x.2.1).fz,(c x.2.2).fz]=_; rw [Fz.h (e':=a'),Fz.h (e':=b'),Fz.h (e':=c')]; rfl⟩
instance [Fz a a'] [Fz b b'] [Fz c c']:Fz (eH3 .b a b c) (eH3 .f a' b' c'):=⟨fun x=>by show D.lst .f [(a x.1).fz,(b x.2.1).fz,(c x.2.2).fz]=_; rw [Fz.h (e':=a'),Fz.h (e':=b'),Fz.h (e':=c')]; rfl⟩
instance [Rt a a'] [Rt b b'] [Rt c c']:Rt (eH3 .o a b c) (eH3 .o a' b' c'):=⟨fun x=>by show D.lst .o [(a x.1).rt,(b x.2.1).rt,(c x.2.2).rt]=_; rw [Rt.h (e':=a'),Rt.h (e':=b'),Rt.h (e':=c')]; rfl⟩
instance:FlC true (eH3 .f a b c):=⟨fun _=>rfl⟩
instance:FlC false (eH3 .o a b c):=⟨fun _=>rfl⟩
instance:FlC false (eH3 .b a b c):=⟨fun _=>rfl⟩
instance {n:Nat} {k:Fl} [ShC n a] [ShC n b] [ShC n c]:ShC (n+1) (eH3 k a b c):=⟨fun x=>zfm (by simp [ShC.h])⟩
instance {k:Fl}:NN (eH3 k a b c):=⟨fun _=>rfl,fun _=>rfl,fun _=>rfl⟩
end
end DL
namespace DL
open PySem PySem.Spec PyProof.Rows L2
end DL
namespace DL
open PySem PySem.Spec PyProof.Rows L2
variable [Tb]
instance {α:Type} {a:α→D} [Np a]:Np (eO a):=⟨fun x=>by
 cases x with
 | none=>rfl
 | some x=>exact Np.h x⟩
end DL
set_option maxHeartbeats 1000000
set_option exponentiation.threshold 50000
namespace DLm
open PySem
/-- what a strict zip's object holds; g:the tuple that it handed out last -/
abbrev Qi (TI TO:Addr) (g:Value):Obj:={ cls:=.type "zip",data:=.fields #[g,.bool false,.bool true,.ref TI,.ref TO]}
abbrev Jw (u v:Value):Obj:={ cls:=.type "tuple",data:=.seq #[u,v]}
/-- a strict zip of the lists at a and b as it stands:m and n of them are drawn -/
structure jD (h:Heap) (z TI TO i j a b:Addr) (g:Value) (m n:Nat):Prop where
 box:h.get? z=some (Qi TI TO g)
 ins:h.get? TI=some (Jw (.ref i) (.ref j))
 out:∃ u v,h.get? TO=some (Jw u v)
 one:h.IsListIter i a m
 two:h.IsListIter j b n
section
variable {h h':Heap} {z TI TO i j a b:Addr} {g g':Value} {m n:Nat} {xs ys:Array Value}
/-- all but the box stays -/
theorem jD.boxed (Z:jD h z TI TO i j a b g m n) (D:ZipApart z TI TO i j a b) (s:∀ c o,c≠z→h.get? c=some o→h'.get? c=some o) (e:h'.get? z=some (Qi TI TO g')):jD h' z TI TO i j a b g' m n:=
 have ⟨u,v,q⟩:=Z.out
 ⟨e,s _ _ D.TIz Z.ins,⟨u,v,s _ _ D.TOz q⟩,Z.one.at fun o q=>s _ o D.i1z q,Z.two.at fun o q=>s _ o D.i2z q⟩
end
section
variable {prog:Program} {w:World} {A:Around} {E:Value→Shared→Prop} {s:Shared}
variable {z TI TO i j a b:Addr} {m n:Nat} {xs ys:Array Value}
/-- the zip's record has its first field set -/
theorem zeX {g x:Value} {Q:Unit→Shared→Prop} (e:s.heap.get? z=some (Qi TI TO g)) (q:∀ h',h'.get? z=some (Qi TI TO x)→(∀ c o,c≠z→s.heap.get? c=some o→h'.get? c=some o)→h'.objs.size=s.heap.objs.size→Q () { s with heap:=h'}):
  wpAny (model prog w) A (setField (.ref z) 0 x) Q E s:=
 wpAny_setField_rec e (by simp) fun h' e' sb=>q h' e' (fun c o k r=>sb.extBut c o k r) sb.1
end
end DLm
set_option maxHeartbeats 400000
set_option exponentiation.threshold 50000
namespace DLm
open PySem PySem.Calls PyProof.Rows
end DLm
namespace DLm
open PySem
section
variable {prog:Program} {w:World} {A:Around} {E:Value→Shared→Prop} {s:Shared}
variable {z TI TO i j a b:Addr} {m n:Nat} {xs ys:Array Value} {g:Value}
theorem jD.ty (Z:jD s.heap z TI TO i j a b g m n):s.TypeIs (.ref z) "zip":=⟨_,Z.box,rfl⟩
/-- the tuple that was handed out is let go -/
theorem jD.free {es:List Expr} {kk:Nat} {pos:Pos} {T:Addr} {Q:Unit→Shared→Prop} (D:ZipApart z TI TO i j a b) (Z:jD s.heap z TI TO i j a b (rawInt T) m n)
  (q:∀ h',jD h' z TI TO i j a b .none m n→(∀ c o,c≠z→s.heap.get? c=some o→h'.get? c=some o)→Q () { s with heap:=h'}):wpAny (model prog w) A (letOwnedTupleGo (.Tuple es kk pos) (.ref z) (.ref T)) Q E s:=by
 delta letOwnedTupleGo
 refine wpAny_bind (wpAny_load Z.box ?_)
 change wpAny _ _ (if (_&&(#[rawInt T,.bool false,.bool true,.ref TI,.ref TO]:Array Value)[0]? == some (rawInt T))=true then _ else _) Q E s
 rw [if_pos (by simp)]
 refine wpAny_bind (wpAny_rule ?_)
 change wpAny _ _ (setField (.ref z) 0 .none) Q E s
 exact zeX Z.box fun h' e k _=>q h' (Z.boxed D k e) k
end
end DLm
namespace DL
open PySem PySem.Spec PyProof.Rows L2
end DL
set_option maxHeartbeats 1000000
set_option exponentiation.threshold 50000
namespace DLm
open PySem PySem.Calls PySem.W PyProof.Rows L2
section
variable {prog:Program} {w:World} {A:Around} {E:Value→Shared→Prop} {s:Shared}
/-- what is wanted behind the filling -/
abbrev zeY (w:World) (s:Shared) (ns:List Int) (r:Value) (s2:Shared):Prop:=r=.none∧∃ g tk c,s2={ s with heap:=g,toks:=tk}∧SetR w g s.heap.objs.size (fun j=>decide (j∈ns)) c∧c≤ns.length∧∀ b o,s.heap.get? b=some o→g.get? b=some o
theorem zmT {l:Addr} {items:Array Value} {ns:List Int} {B B':Around} (hB:B.handled=none) (hl:s.heap.IsList l items) (hn:items.size=ns.length) (hb:ns.length+1 < scanBound)
  (val:∀ (i:Nat) (v:Value),items[i]?=some v→∃ k t,ns[i]?=some k∧v=.int k t):
  wpAny (model prog w) B (Builtin.«set.__init__» ⟨[.ref s.heap.objs.size,.ref l],[]⟩) (fun fin s2=>match fin with
   | .done f=>(wants (fun r s2=>zeY w s ns r s2) E) (.ok f) s2
   | .again c=>c.quiet=true∧codeAny (model prog w) B' c (wants (fun r s2=>zeY w s ns r s2) E) s2) (fun e s2=>(wants (fun r s2=>zeY w s ns r s2) E) (.error e) s2) { s with heap:=s.heap.push (newSet (!w.params.followText "set-order"))}:=by
 obtain ⟨ol,eol,ecl,nl,edl⟩:=hl
 obtain ⟨oc,od,oo,osl⟩:=ol
 simp only at ecl edl
 subst ecl edl
 have there:(s.heap.push (newSet (!w.params.followText "set-order"))).get? s.heap.objs.size=some (newSet (!w.params.followText "set-order")):=Heap.get?_push_size _ rfl
 have src:(s.heap.push (newSet (!w.params.followText "set-order"))).get? l=some { cls:=.type "list",dict:=od,data:=.seq items nl,slots:=osl}:=Heap.get?_push_of_some _ eol
 have srcL:(s.heap.push (newSet (!w.params.followText "set-order"))).IsList l items:=⟨_,src,rfl,nl,rfl⟩
 have f1:=PySem.F.sub_list_set
 have f2:=PySem.F.sub_list_frozenset
 have f3:(Value.type "list" == Value.type "dict")=false:=by decide
 unfold Builtin.«set.__init__» noKeywords Builtin.Frozenset.updateFrom
 generalize eIt:pyIter=It
 wp_walk
 subst eIt
 have sl:l < s.heap.objs.size:=Heap.lt_size eol
 have e1:(s.heap.push (newSet (!w.params.followText "set-order"))).objs.size=s.heap.objs.size+1:=by rw [Heap.size_push]
 refine wpAny_pyIter_list srcL (wpAny_bind (wpAny_runValue ?_))
 have nI:l≠(s.heap.push (newSet (!w.params.followText "set-order"))).objs.size:=by rw [e1]; exact Nat.ne_of_lt (Nat.lt_succ_of_lt sl)
 have nS:s.heap.objs.size∉[(s.heap.push (newSet (!w.params.followText "set-order"))).objs.size,l]:=fun z=>by
  rw [e1] at z
  rcases List.mem_cons.mp z with z | z
  ·exact absurd z (Nat.ne_of_lt (Nat.lt_succ_self _))
  ·exact absurd (List.mem_singleton.mp z).symm (Nat.ne_of_lt sl)
 have walk:=(Walks.list (prog:=prog) (w:=w) (A:=B.in1) (by exact hB) _ l nI items).toS
 refine set_update_ints walk _ nS ns hn hb val items.size 0 _ (by omega) (Nat.zero_le _) ⟨⟨_,Heap.get?_push_size _ rfl,rfl,rfl⟩,srcL.push _⟩ ⟨0,Nat.le_refl _,setR_new_at (Heap.get?_push_of_some { cls:=.type "list_iterator",data:=.fields #[.ref l,.int 0 0]} there)⟩ fun s2 c mv few q=>?_
 obtain ⟨g2,gens2,drawn2,tk2,os2⟩:=s2
 have a1:gens2=s.gens:=mv.gens
 have a2:drawn2=s.drawn:=mv.drawn
 have a3:os2=s.os:=mv.os
 subst a1 a2 a3
 refine wpAny_pure (wpAny_pure ⟨rfl,g2,tk2,c,rfl,q,hn ▸ few,fun b o e=>?_⟩)
 have lt:=Heap.lt_size e
 refine mv.heap b o (fun z=>?_) (Heap.get?_push_of_some _ (Heap.get?_push_of_some _ e))
 rcases List.mem_cons.mp z with z | z
 ·exact absurd z (Nat.ne_of_lt lt)
 ·have z:=List.mem_singleton.mp z
  rw [e1] at z
  exact absurd z (Nat.ne_of_lt (Nat.lt_succ_of_lt lt))
set_option maxHeartbeats 8000000 in
theorem zgt {l:Addr} {items:Array Value} {ns:List Int} {Q:Value→Shared→Prop} (hh:A.handled=none) (hl:s.heap.IsList l items) (hn:items.size=ns.length) (hb:ns.length+1 < scanBound)
  (val:∀ (i:Nat) (v:Value),items[i]?=some v→∃ k t,ns[i]?=some k∧v=.int k t)
  (fin:∀ (g:Heap) (tk c:Nat),SetR w g s.heap.objs.size (fun j=>decide (j∈ns)) c→c≤ns.length→(∀ b o,s.heap.get? b=some o→g.get? b=some o)→Q (.ref s.heap.objs.size) { s with heap:=g,toks:=tk}):wpAny (model prog w) A (call (.type "set") [.ref l]) Q E s:=by
 have m1:=PySem.F.called_set.made
 have m2:=PySem.F.called_set.sub
 have m3:=PySem.F.called_set.notType
 have m4:=PySem.F.called_set.canCreate
 have m5:=PySem.F.typeCall_set_1 (.ref l)
 obtain ⟨c,tl,m6⟩:=PySem.F.called_set.mro
 refine wpAny_call (codeAny_of_tree (show wpAny _ _ (callAny (.type "set") _) _ _ _ from wpAny_pure ⟨Code.quiet_builtin _ (by decide+kernel),codeAny_builtin PySem.F.entry_type_call ?_⟩))
 rw [Around.under_plain (weight_type_call_type "set" [.ref l] []) rfl]
 repeat any_goals first | assumption | wp_step
 refine codeAny_mono (code_set_led1 (.ref l) (E:=E) (Q₁:=fun z s1=>z=.ref s.heap.objs.size∧s1={ s with heap:=s.heap.push (newSet (!w.params.followText "set-order"))}) ⟨rfl,rfl⟩) fun r s1 q=>?_
 cases r with
 | error e=>exact q
 | ok fl=>
  cases fl with
  | ret z=>
   obtain ⟨rfl,rfl⟩:=q
   have there:(s.heap.push (newSet (!w.params.followText "set-order"))).get? s.heap.objs.size=some (newSet (!w.params.followText "set-order")):=Heap.get?_push_size _ rfl
   have ty:Shared.TypeIs { s with heap:=s.heap.push (newSet (!w.params.followText "set-order"))} (.ref s.heap.objs.size) "set":=⟨_,there,rfl⟩
   have n1:=PySem.F.called_set.init.lookup
   have n2:=PySem.F.called_set.init.bind (.ref s.heap.objs.size)
   repeat any_goals first | assumption | wp_step
   refine codeAny_mono (codeAny_call_builtin (R:=wants (fun r s2=>zeY w s ns r s2) E) PySem.F.called_set.init.plain PySem.F.entry_set_init (check_set_init_1 ty ?_)) fun r2 s2 q2=>?_
   ·exact zmT (B:=A.in1.in1) (B':=A.in1) (by first | exact hh | simp [hh]) hl hn hb val
   ·cases r2 with
    | error e=>exact q2
    | ok f2=>
     cases f2 with
     | ret r=>
      obtain ⟨rfl,g,tk,c,rfl,q3,q5,q4⟩:=q2
      repeat any_goals first | assumption | wp_step
      exact fin _ _ _ q3 q5 q4
     | _=>exact q2.elim
  | _=>exact q.elim
end
end DLm
set_option maxHeartbeats 1000000
set_option exponentiation.threshold 50000
namespace DL
open PySem PySem.Spec PyProof.Rows L2
variable [Tb]
def zuu:D→D→(D→Prop)→Prop
 | .con .l _ xs,.str z,Q=>∃ ks:List Str,xs=ks.map D.str∧z∈ks∧Q (.int (ks.idxOf z:Nat))
 | _,_,_=>False
def zqz (ta tb:DT):DT:=fun ρ Q=>ta ρ fun d=>match d with
 | .con .l k xs=>tb ρ fun e=>zuu (.con .l k xs) e Q
 | _=>False
theorem zlQ (a b:Str):eqV (.str a) (.str b)=decide (a=b):=by
 by_cases h:a=b
 ·subst h; simp [eqV]
 ·simp [eqV,h]
section
variable {K:PySem.W.Frag} {σ:Sg} {H:Hp}
theorem zo3 {ta tb:DT} {Q:VK} (h:lift K (zqz ta tb) σ H Q):tBM K "list" (rIndex K) (lift K ta) (tCons (lift K tb) tNil) σ H Q:=by
 obtain ⟨P,M,B,ρ,Q0,s,sl,t,k⟩:=h
 refine ⟨P,M,B,ρ,_,s,sl,t,fun x H1 r1=>?_⟩
 obtain ⟨d,L1,t1,g1,p1,r1,n1,f1⟩:=r1
 have f1:∀ a∈L1,H a=none:=fun a z=>(f1 a z).elim id fun q=>nomatch q
 have s1:=s.after g1 p1 fun a z=>(Rep.own r1 a z).1
 split at t1
 ·rename_i kf xs
  obtain ⟨a,vs,L',rfl,h1,_⟩:=r1.lst_inv
  refine ⟨.inl ⟨rfl,_,h1⟩,P,L1++M,L1++B,ρ,_,s1,sl.after s g1 f1,t1,fun y H2 r2=>?_⟩
  obtain ⟨e,L3,t2,g2,p2,r2,n2,f2⟩:=r2
  have f2:∀ a∈L3,H1 a=none:=fun a z=>(f2 a z).elim id fun q=>nomatch q
  have r1':=Rep.gr g2 s1.lists (yx f2) (yx f2) r1
  cases e with
  | str z=>
   obtain ⟨ks,rfl,hz,q⟩:∃ ks:List Str,xs=ks.map D.str∧z∈ks∧Q0 (.int (ks.idxOf z:Nat)):=t2
   obtain ⟨rfl,e0⟩:=r2.str_inv
   subst e0
   obtain ⟨a',vs',L'',ea,h2,rr,_⟩:=r1'.lst_inv
   cases ea
   have ev:=Je rr
   subst ev
   have hj:ks.idxOf z < ks.length:=List.idxOf_lt_length_iff.mpr hz
   have ej:ks[ks.idxOf z]?=some z:=by
    rw [List.getElem?_eq_getElem hj,List.getElem_idxOf]
   refine ⟨a,ks.map V.str,.str z,ks.idxOf z,.str z,rfl,rfl,h2,rfl,flat_strs ks,by rw [List.getElem?_map,ej]; rfl,by rw [zlQ]; simp,fun m z' hm hz'=>?_,k _ _ ?_⟩
   ·rw [List.getElem?_map] at hz'
    cases em:ks[m]? with
    | none=>rw [em] at hz'; cases hz'
    | some u=>
     rw [em] at hz'
     cases hz'
     rw [zlQ]
     obtain ⟨h3,h4⟩:=List.getElem?_eq_some_iff.mp em
     have:=List.not_of_lt_findIdx (p:=(·== z)) (xs:=ks) hm
     rw [h4] at this
     simpa using this
   ·exact ⟨_,[],q,g1.trans g2,p2.mix s.zM |>.mix s.zM |> fun _=>(s.zM.mix p2 |> fun z=>by
     exact z),.int,List.nodup_nil,fun _ z=>nomatch z⟩
  | _=>exact t2.elim
 ·exact t1.elim
end
end DL
namespace DL
open PySem PySem.Spec PyProof.Rows L2
variable [Tb]
section
variable {X:Cx} {o e:Expr} {ta tb:DT} {apos cpos:Pos}
theorem zsl (ha:PD X o ta) (hb:PD X e tb)
  (hbase:attributeBase o "index" X.env (eval o X.env)=eval o X.env:=by rfl)
  (hfew:((backTo cpos (starEach [e] X.env)).all (fun x=>!x.1)&&(backToKw cpos (keywordEach [] X.env)).all (fun x=>x.1.isSome)
   &&decide ([e].length+([]:List Keyword).length+(if ([]:List Keyword).isEmpty then 0 else 1) < 30))=true:=by rfl)
  (hline:(apos.endLine == cpos.line)=true:=by rfl) (hs:starEach [e] X.env=(false,eval e X.env)::starEach [] X.env:=by rfl) (hplain:(backTo cpos (starEach [] X.env)).any (·.1)=false:=by rfl):
  PD X (.Call (.Attribute o "index" apos) [e] [] cpos) (zqz ta tb):=
 mPE (pe_bm PySem.F.plainAttrs_list PySem.F.slot_list_index PySem.F.type_list_index mt_index ha (pa_cons hb pa_nil hs) hbase hfew hline hs hplain) fun _ _ _=>zo3
end
theorem idx_map:∀ {l:List OkS} {z:OkS},(l.map (·.1)).idxOf z.1=l.idxOf z
 | [],_=>rfl
 | x::l,z=>by
  have ih:=idx_map (l:=l) (z:=z)
  rw [List.map_cons,List.idxOf_cons,List.idxOf_cons,ih]
  by_cases h:x=z
  ·subst h; simp
  ·have h2:x.1≠z.1:=fun q=>h (Subtype.ext q)
   simp [h,h2]
theorem zsm {ta tb:DT} {ρ:Env} {f:Fl} {l:List OkS} {z:OkS} (ha:Ev ta ρ (eL f eS l)) (hb:Ev tb ρ (eS z)) (h:z∈l):Ev (zqz ta tb) ρ (eI (l.idxOf z:Nat)):=fun Q q=>by
 refine ha _ (hb _ ?_)
 refine ⟨l.map (·.1),by rw [List.map_map]; rfl,List.mem_map.mpr ⟨z,h,rfl⟩,?_⟩
 rw [idx_map]; exact q
def rSetL (K:PySem.W.Frag) (w:World):List V→Hp→VK→Prop:=fun vs H Q=>∃ (a:Addr) (ns:List Int),vs=[.ref a]∧SqL K H a (ns.map V.int)∧ns.length < 64∧∀ p c,c≤ns.length→H p=none→Q (.ref p) (upd H p (SetO w p (fun j=>decide (j∈ns)) c))
section
variable {X:Cx} {a:Expr} {ta:DT} {p p2 q pos:Pos} {k:Nat}
theorem zqA (hc:X.calm=true):CallR X (.type "set") (rSetL X.K X.w):=by
 intro pins s σ H vs us Q I r h
 obtain ⟨a,ns,rfl,hs,h64,q⟩:=h
 obtain ⟨its,rv,pl,_⟩:=I.list hs
 rw [Vals.ref1 r]
 have len:its.toArray.size=ns.length:=by
  have:=rv.length
  rw [List.length_map] at this
  rw [List.size_toArray]; exact this.symm
 have hb:ns.length+1 < scanBound:=by
  have:(1001:Nat) < scanBound:=by decide
  omega
 refine DLm.zgt (ns:=ns) (I.ok.hd hc) pl.isList len hb (fun i v e=>?_) fun g tk c R few kp=>?_
 ·rw [List.getElem?_toArray] at e
  have hi:i < ns.length:=by
   rw [List.size_toArray] at len
   have:=(List.getElem?_eq_some_iff.mp e).1
   omega
  obtain ⟨u,eu,t,ru⟩:=rv.get (show (ns.map V.int)[i]?=some (V.int ns[i]) by rw [List.getElem?_map,List.getElem?_eq_getElem hi]; rfl)
  rw [e] at eu
  cases eu
  exact ⟨ns[i],t,List.getElem?_eq_getElem hi,ru⟩
 ·have hn:H s.heap.objs.size=none:=I.hok.fresh (Nat.le_refl _)
  exact ⟨.ref _,_,I.laid (t':=tk) kp (Nat.le_refl _) (setO_new R),rfl,q _ c few hn⟩
end
end DL
set_option maxHeartbeats 4000000
namespace DL
open PySem PySem.Spec PyProof.Rows L2
variable [Tb]
/-- expressions that may raise -/
abbrev DTX:=Env→(D→Prop)→(Exn→Prop)→Prop
def zeu (X:Cx) (te:DTX):TE:=fun σ H Q=>∃ P M B ρ Q0 E0,Stt P M B H∧Slots X.K P M B H σ ρ∧te ρ Q0 E0∧(∀ v H',Res X.K P M B [] H Q0 v H'→Q v H')∧
 ∀ x C d H',E0 x→X.mg x.nm=some (.ref C)→zgr X.K H' d x→Gr P.as H H'→zF P M H'→WOf X (.ref C) d σ H'
abbrev qO:=List D→(D→Prop)→(Exn→Prop)→Prop
def zbY (K:PySem.W.Frag) (mg:Str→Option Value) (S:qO):Sp:=fun vs H Q E=>∃ P M ds Q0 E0,Stt P M M H∧zf K P M M H vs ds []∧D.pfs ds=true∧S ds Q0 E0∧(∀ v H',Res K P M M [] H Q0 v H'→Q v H')∧
 ∀ x C d H',E0 x→mg x.nm=some (.ref C)→zgr K H' d x→Gr P.as H H'→zF P M H'→E (.ref C) d H'
def zhI (S:qO) (ta:DTA):DTX:=fun ρ Q E=>ta ρ fun ds=>S (D.fzs ds) (fun c=>Q (if D.fls ds=true then c else c.wk)) E
abbrev DTM:=Env→(Exn→Prop)→Prop
/-- what makes an exception -/
def liftM (X:Cx) (t:DTM):Sg→Hp→XK→Prop:=fun σ H Q=>∃ P M B ρ Q0,Stt P M B H∧Slots X.K P M B H σ ρ∧t ρ Q0∧∀ x C d H',Q0 x→X.mg x.nm=some (.ref C)→zgr X.K H' d x→Gr P.as H H'→zF P M H'→Q (.ref C) d H'
def Jx (t:DTM):DS:=fun N ρ=>t ρ fun x=>N.ex x ρ
def zda (te:DTX):DS:=fun N ρ=>te ρ (fun _=>N.nx ρ) fun x=>N.ex x ρ
def zlR (te:DTX):DS:=fun N ρ=>te ρ (fun d=>N.rt d.rt) fun x=>N.ex x ρ
section
variable {X:Cx} {P P':zR} {M M' B:List Addr} {H H':Hp} {σ:Sg} {E:Ends} {ex:Exn→Env→Prop} {Q:VK}
theorem zi8 {t:DTM} (h:qD X (Jx t) E σ H):liftM X t σ H fun cls d H'=>WOf X cls d σ H':=by
 obtain ⟨P,M,B,ρ,N,s,sl,e,t,f⟩:=h
 exact ⟨P,M,B,ρ,_,s,sl,t,fun x C d H' q m y g p=>f.ex x C d P M _ σ ρ q m y (.expr s g p fun _ z=>.inl z) (s.keep g p) (sl.keep s g) e⟩
theorem ztP {te:DTX} {Q0:D→Prop} {N:DE} {P:zR} {M B:List Addr} {ρ:Env} (s:Stt P M B H) (sl:Slots X.K P M B H σ ρ) (e:qm ρ) (t:te ρ Q0 fun x=>N.ex x ρ) (f:Fits X P M B H N E) (k:∀ v H',Res X.K P M B [] H Q0 v H'→Q v H'):zeu X te σ H Q:=
 ⟨P,M,B,ρ,Q0,_,s,sl,t,k,fun x C d H' q m y g p=>f.ex x C d P M H' σ ρ q m y (.expr s g p fun _ z=>.inl z) (s.keep g p) (sl.keep s g) e⟩
theorem zkG {te:DTX} {tE:TE} (h:qD X (zda te) E σ H) (hE:∀ σ H Q,zeu X te σ H Q→tE σ H Q):tDrop tE E σ H:=by
 obtain ⟨P,M,B,ρ,N,s,sl,e,t,f⟩:=h
 refine hE _ _ _ (ztP s sl e t f fun v H1 r=>?_)
 obtain ⟨c,q,g,p,_⟩:=r.drop
 exact f.nx P M H1 σ ρ q (.expr s g p fun _ z=>.inl z) (s.keep g p) (sl.keep s g) e
theorem zmU {te:DTX} {tE:TE} (h:qD X (zlR te) E σ H) (hE:∀ σ H Q,zeu X te σ H Q→tE σ H Q):tRet tE E σ H:=by
 obtain ⟨P,M,B,ρ,N,s,sl,e,t,f⟩:=h
 refine hE _ _ _ (ztP s sl e t f fun v H1 r=>?_)
 obtain ⟨c,Lr,q,g1,p1,r1,n1,f1⟩:=r
 have f1:∀ a∈Lr,H a=none:=fun a z=>(f1 a z).elim id fun q=>nomatch q
 exact f.rt P (Lr++M) H1 v c.rt Lr q (.expr s g1 p1 (yx f1)) (p1.grow fun a z=>.inl (jG s.sub a z)) (Rep.rt (jG s.sub) r1) n1 fun a z=>.inl (f1 a z)
/-- a call of a def that may raise -/
theorem zi9 {S:qO} {ta:DTA} (h:zeu X (zhI S ta) σ H Q):tCallS (zbY X.K X.mg S) (WE (WOf X)) (XQ X.K ta) σ H Q:=by
 obtain ⟨P,M,B,ρ,Q0,E0,s,sl,t,k,kx⟩:=h
 refine ⟨P,M,B,ρ,_,s,sl,t,fun vs H1 r1=>?_⟩
 obtain ⟨ds,L,q,g1,p1,r1,n1,f1⟩:=r1
 have A:=Args.of s g1 p1 r1 n1 f1
 have b:=A.base
 by_cases hf:D.fls ds=true
 ·have pf:=zf.zmu r1 hf
  obtain ⟨el,r2⟩:=zf.pf r1 pf
  subst el
  rw [D.zhb ds pf] at q
  refine ⟨P,M,ds,_,_,⟨b.zM,fun _ z=>z,b.ls,b.tabs⟩,r2,pf,q,fun v H' r=>?_,fun x C d H' e m y g p=>kx x C d H' e m y (g1.trans g) p⟩
  obtain ⟨c,Lr,q,g,p,r,n,f⟩:=r
  rw [if_pos hf] at q
  exact k v H' (Res.back (M':=M) ⟨c,Lr,q,g,p,Rep.sub (fun _ z=>z) (jG b.sub) r,n,f⟩ g1 b.zM fun _ z=>nomatch z)
 ·obtain ⟨r2,pf⟩:=zf.fz (N:=B) (fun a z=>jt a (b.sub a z)) jt r1 (fun a z m=>A.out a z (b.sub a m))
  refine ⟨P,B,D.fzs ds,_,_,⟨b.zM.grow fun a z=>.inl (b.sub a z),fun _ z=>z,fun a z=>b.ls a (b.sub a z),b.tabs⟩,r2,pf,q,fun v H' r=>?_,fun x C d H' e m y g p=>kx x C d H' e m y (g1.trans g) ?_⟩
  ·obtain ⟨c,Lr,q,g,p,r,n,f⟩:=r
   rw [if_neg hf] at q
   exact k v H' (Res.back (M':=M) ⟨c.wk,Lr,q,g,b.zM.join p,Rep.wk (fun _ z=>z) (fun _ z=>z) r,n,f⟩ g1 b.zM fun _ z=>nomatch z)
  ·exact zF.join (L:=[]) b.zM p
end
end DL
set_option maxHeartbeats 4000000
namespace DL
open PySem PySem.Spec PyProof.Rows L2
variable [Tb]
/-- an expression that makes an exception -/
def MkN (X:Cx) (e:Expr) (t:DTM):Prop:=L2N.PMk X e (liftM X t)
section
variable {X:Cx} {e c:Expr} {st:Stmt} {rest a b body els:List Stmt} {pos p:Pos} {t:DS} {u v:DS} {ca:DTT} {te:DTX} {nm:Str} {tE:TE} {k:Nat} {x:Str}
theorem zcs {tm:DTM} (hc:X.calm=true) (m:MkN X e tm):PDS X (.Raise (some e) none pos) (Jx tm):=
 mPS (L2N.ps_raise hc (zaY X).n m) fun D σ H h=>zi8 h
theorem zlS (he:PE X e (zeu X te)) (hs:swapsWith e none pos.line X.env=pure false:=by rfl):PDS X (.Expr e pos) (zda te):=mPS (ps_expr he hs) fun _ _ _ h=>zkG h fun _ _ _ z=>z
theorem zsn (he:PE X e (zeu X te)):PDS X (.Return (some e) pos) (zlR te):=mPS (ps_ret he) fun _ _ _ h=>zmU h fun _ _ _ z=>z
end
def zbZ (Q:D→Prop) (E:Exn→Prop):DE:={ yU Q with ex:=fun x _=>E x}
theorem zdb {X:Cx} {S:qO} {t:DS} {N:List Str} {n:Nat} {E:XK} (hN:X.N=N) (tk:jJ X fun cls d _ H=>E cls d H) (hS:∀ ds Q E,S ds Q E→ds.length=n∧t (zbZ Q E) (zH N.length ds)) {vs:List V} {H:Hp} {Q:VK} (h:zbY X.K X.mg S vs H Q E):
  qD X t { nx:=fun _ H'=>Q .non H',rt:=Q} (L2.start N vs) H:=by
 obtain ⟨P,M,ds,Q0,E0,s,r,pf,q,k,kx⟩:=h
 obtain ⟨hl,q⟩:=hS ds Q0 E0 q
 have len:=r.len
 refine ⟨P,M,M,zH N.length ds,zbZ Q0 E0,s,⟨?_,fun _=>([]:List Addr),fun i d e=>?_,(by intro i a z; simp at z),(fun _=>List.nodup_nil),(by intro i j a z; simp at z)⟩,fun i d e=>?_,q,⟨?_,?_,?_,?_,?_,fun _ _ _ _ _ _ _ _ z=>z.elim⟩⟩
 ·simp [zH,L2.start,len]
 ·unfold zH at e
  by_cases hi:i < ds.length
  ·rw [List.getElem?_append_left (by simpa using hi),List.getElem?_map] at e
   cases ed:ds[i]? with
   | none=>rw [ed] at e; cases e
   | some c=>
    rw [ed] at e
    have ec:c=d:=by injection e with e; injection e
    subst ec
    obtain ⟨v,e1,r1⟩:=zf.at0 r ed
    refine ⟨v,?_,r1⟩
    unfold L2.start
    have hv:i < vs.length:=by omega
    rw [List.getElem?_append_left (by simpa using hv),List.getElem?_map,e1]
    rfl
  ·rw [List.getElem?_append_right (by simpa using hi),List.getElem?_replicate] at e
   split at e <;> cases e
 ·unfold zH at e
  by_cases hi:i < ds.length
  ·rw [List.getElem?_append_left (by simpa using hi),List.getElem?_map] at e
   cases ed:ds[i]? with
   | none=>rw [ed] at e; cases e
   | some c=>
    rw [ed] at e
    have ec:c=d:=by injection e with e; injection e
    subst ec
    exact D.zdA _ (zc0 pf ed)
  ·rw [List.getElem?_append_right (by simpa using hi),List.getElem?_replicate] at e
   split at e <;> cases e
 ·intro P' M' H' σ' ρ' q0 a s' sl' _
  refine k _ _ ⟨.non,[],q0,⟨fun b o hb n=>a.gr b o hb n (Classical.em (b∈M) |>.elim .inr .inl),a.tab⟩,?_,.non,List.nodup_nil,fun _ z=>nomatch z⟩
  intro x l hx
  obtain ⟨h1,h2,h3,h4⟩:=s'.zM x l (a.zM _ hx)
  exact ⟨fun z=>h1 (s'.sub x z),fun z=>h2 (s'.sub l z),fun z=>h3 (QM a.zM l z),h4⟩
 ·intro _ _ _ _ _ z; exact z.elim
 ·intro _ _ _ _ _ z; exact z.elim
 ·intro P' M' H' v c Lr q0 a p r1 nd fr
  refine k _ _ ⟨c,Lr,q0.2,⟨fun b o hb n=>a.gr b o hb n (Classical.em (b∈M) |>.elim .inr .inl),a.tab⟩,?_,Rep.JM a.zM r1 q0.1,nd,fun b z=>?_⟩
  ·intro x l hx
   obtain ⟨h1,h2,h3,h4⟩:=p x l (a.zM _ hx)
   exact ⟨h1,h2,fun z=>h3 (QM a.zM l z),h4⟩
  ·rcases fr b z with w | w
   ·exact .inl w
   ·exact absurd w.1 w.2
 ·intro x C d P' M' H' σ' ρ' q0 hm y a s' _ _
  refine WOf.of tk (kx x C d H' q0 hm y ⟨fun b o hb n=>a.gr b o hb n (Classical.em (b∈M) |>.elim .inr .inl),a.tab⟩ ?_)
  intro x l hx
  obtain ⟨h1,h2,h3,h4⟩:=s'.zM x l (a.zM _ hx)
  exact ⟨fun z=>h1 (s'.sub x z),fun z=>h2 (s'.sub l z),fun z=>h3 (QM a.zM l z),h4⟩
/-- a def that may raise,by name -/
def Fx (P:Program) (w:World) (K:PySem.W.Frag) (mg:Str→Option Value) (base:Heap) (k:Nat) (x:Str) (S:qO):Prop:=
 ∃ f fd ps,FnOk P w K mg base (CXG P w) k f fd ps (zbY K mg S)∧mg x=some (.ref f)∧PySem.W.keepIn K (.ref f)=true∧Binds K fd ps []
def FxK (P:Program) (w:World) (K:PySem.W.Frag) (mg:Str→Option Value) (base:Heap) (k:Nat) (x:Str) (st:Stmt) (ps:List Str) (kws:List (Str×V)) (S:qO):Prop:=
 ∃ f fd,FnOk P w K mg base (CXG P w) k f fd ps (zbY K mg S)∧mg x=some (.ref f)∧PySem.W.keepIn K (.ref f)=true∧FunD K x x (defArgs st) (defBody st) (defScope st) [] kws f fd
section
variable {P:Program} {w:World} {K:PySem.W.Frag} {mg:Str→Option Value} {base:Heap} {x qual:Str} {params:Arguments} {body:List Stmt} {scope:Scope} {f:Addr} {fd:FuncData} {S S':qO} {k k':Nat}
theorem Fx.imp (F:Fx P w K mg base k x S) (hk:k≤k'):Fx P w K mg base k' x S:=by
 obtain ⟨f,fd,ps,F,a,b,c⟩:=F
 exact ⟨f,fd,ps,F.mono hk,a,b,c⟩
theorem FxK.imp {st:Stmt} {ps:List Str} {kws:List (Str×V)} (F:FxK P w K mg base k x st ps kws S) (hk:k≤k'):FxK P w K mg base k' x st ps kws S:=by
 obtain ⟨f,fd,F,a,b,c⟩:=F
 exact ⟨f,fd,F.mono hk,a,b,c⟩
theorem za2 {N:List Str} {cdv:Value} {A:Around} {outer:List PySem.Env} {s:Shared} {H:Hp} {E:XK}:jJ (cxOf (CXG P w) P w K mg base N qual scope f cdv A outer s H E) fun cls d _ H=>E cls d H:=
 zmt rfl rfl rfl rfl
/-- THE RULE for a def that may raise -/
theorem Fx.of {N ps:List Str} {t:DS} (F:FunD K x qual params body scope [] [] f fd) (gm:mg x=some (.ref f)) (Sc:FnScope N ps scope)
  (hb:∀ (kV doc pm:Value) (an:Option Addr) (cdv ct:Value) (us:List Value),us.length=ps.length→bindArgs (PySem.W.fnOf x qual params body scope .none kV doc pm an cdv ct) ⟨us,[]⟩=pure (ps.zip us))
  (walk:∀ (cdv:Value) (A:Around) (outer:List PySem.Env) (s:Shared) (H:Hp) (E:XK),Room k (A.deeper (envOfC qual scope s.heap.objs.size f cdv))→PDB (cxOf (CXG P w) P w K mg base N qual scope f cdv A outer s H E) body t)
  (hS:∀ ds Q E,S ds Q E→ds.length=ps.length∧t (zbZ Q E) (zH N.length ds)):Fx P w K mg base (k+1) x S:=by
 refine ⟨f,fd,ps,F.ok (N:=N) Sc (fun vs H Q E h=>?_) (fun cdv A outer s H vs Q E hr h=>⟨_,walk cdv A outer s H E hr,zdb (N:=N) rfl za2 hS h⟩),gm,F.kp,F.bindsN hb⟩
 obtain ⟨P',M,ds,Q0,E0,s,r,pf,q,_⟩:=h
 rw [r.len]
 exact (hS _ _ _ q).1
theorem FxK.of {st:Stmt} {kws:List (Str×V)} {N ps:List Str} {t:DS} (F:FunD K x x (defArgs st) (defBody st) (defScope st) [] kws f fd) (gm:mg x=some (.ref f)) (Sc:FnScope N ps (defScope st))
  (walk:∀ (cdv:Value) (A:Around) (outer:List PySem.Env) (s:Shared) (H:Hp) (E:XK),Room k (A.deeper (envOfC x (defScope st) s.heap.objs.size f cdv))→PDB (cxOf (CXG P w) P w K mg base N x (defScope st) f cdv A outer s H E) (defBody st) t)
  (hS:∀ ds Q E,S ds Q E→ds.length=ps.length∧t (zbZ Q E) (zH N.length ds)):FxK P w K mg base (k+1) x st ps kws S:=by
 refine ⟨f,fd,F.ok (N:=N) Sc (fun vs H Q E h=>?_) (fun cdv A outer s H vs Q E hr h=>⟨_,walk cdv A outer s H E hr,zdb (N:=N) rfl za2 hS h⟩),gm,F.kp,F⟩
 obtain ⟨P',M,ds,Q0,E0,s,r,pf,q,_⟩:=h
 rw [r.len]
 exact (hS _ _ _ q).1
end
section
variable {X:Cx} {e:Expr} {es:List Expr} {pos p:Pos} {tr:DTA} {k:Nat} {x:Str} {S:qO}
theorem zrr (F:Fx X.prog X.w X.K X.mg X.base k x S) (hr:Room k X.A) (ha:PDA X (e::es) tr) (hg:Gl X x:=by rfl) (hdb:(x == ("__debug__":Str))=false:=by decide)
  (he:starEach (e::es) X.env=(false,eval e X.env)::starEach es X.env:=by rfl) (hpl:(backTo pos (starEach es X.env)).any (·.1)=false:=by rfl):PE X (.Call (.Name x p) (e::es) [] pos) (zeu X (zhI S tr)):=by
 obtain ⟨f,fd,ps,F,a,b,c⟩:=F
 exact mPE (pe_callS F hr hg a b c (E:=WE (WOf X)) (zli (zaY X)) ha hdb he hpl) fun σ H Q h=>zi9 h
end
end DL
set_option maxHeartbeats 4000000
namespace DL
open PySem PySem.Spec PyProof.Rows L2
variable [Tb]
/-- the class nm goes under n -/
def Yu (nm n:Str):Bool:=match zmo.lookup nm with
 | some l=>l.contains n
 | none=>false
abbrev Hs:=List (Str×DS)
def Hs.at (hs:Hs) (N:DE) (x:Exn) (ρ:Env):Prop:=match hs with
 | []=>False
 | (n,t)::r=>if Yu x.nm n=true then t { N with ex:=fun _ _=>False} ρ else Hs.at r N x ρ
def zo4 (body:DS) (hs:Hs):DS:=fun N ρ=>body { N with ex:=fun x ρ'=>hs.at N x ρ'} ρ
/-- nothing is let out -/
abbrev DE.calm (N:DE):DE:={ N with ex:=fun _ _=>False}
theorem Fits.calm {X Y:Cx} {P:zR} {M B:List Addr} {H:Hp} {N:DE} {D:Ends} (f:Fits X P M B H N D) (hK:Y.K=X.K):Fits Y P M B H N.calm D:=
 ⟨by rw [hK]; exact f.nx,by rw [hK]; exact f.bk,by rw [hK]; exact f.ct,by rw [hK]; exact f.rt,fun _ _ _ _ _ _ _ _ z=>z.elim,by rw [hK]; exact f.rm⟩
/-- a suite that lets nothing out -/
def zrs (X:Cx) (t:DS):TS:=fun D σ H=>∃ P M B ρ N,Stt P M B H∧Slots X.K P M B H σ ρ∧qm ρ∧t (DE.calm N) ρ∧Fits X P M B H (DE.calm N) D
theorem zqB {X Y:Cx} {t:DS} {D:Ends} {σ:Sg} {H:Hp} (hK:Y.K=X.K) (h:zrs X t D σ H):qD Y t D σ H:=by
 obtain ⟨P,M,B,ρ,N,s,sl,e,t,f⟩:=h
 exact ⟨P,M,B,ρ,_,s,by rw [hK]; exact sl,e,t,f.calm hK⟩
/-- what is let out goes to W -/
structure ztQ (X:Cx) (W:WX) (P:zR) (M B:List Addr) (H:Hp) (ex:Exn→Env→Prop):Prop where
 go:∀ x C d P' M' H' σ' ρ',ex x ρ'→X.mg x.nm=some (.ref C)→zgr X.K H' d x→yJ P M B H P' M' H'→Stt P' M' B H'→Slots X.K P' M' B H' σ' ρ'→qm ρ'→W (.ref C) d σ' H'
def zo5 (X:Cx) (W:WX) (t:DS):TS:=fun D σ H=>∃ P M B ρ N,Stt P M B H∧Slots X.K P M B H σ ρ∧qm ρ∧t N ρ∧Fits X P M B H (DE.calm N) D∧ztQ X W P M B H N.ex
theorem zqC {X Y:Cx} {W:WX} {t:DS} {D:Ends} {σ:Sg} {H:Hp} (hK:Y.K=X.K) (hm:Y.mg=X.mg) (tk:jJ Y W) (h:zo5 X W t D σ H):qD Y t D σ H:=by
 obtain ⟨P,M,B,ρ,N,s,sl,e,t,f,fx⟩:=h
 refine ⟨P,M,B,ρ,N,s,by rw [hK]; exact sl,e,t,⟨by rw [hK]; exact f.nx,by rw [hK]; exact f.bk,by rw [hK]; exact f.ct,by rw [hK]; exact f.rt,?_,by rw [hK]; exact f.rm⟩⟩
 rw [hK,hm]
 exact fun x C d _ _ _ _ _ q m y a s' sl' e'=>WOf.of tk (fx.go x C d _ _ _ _ _ q m y a s' sl' e')
/-- the clauses' classes -/
inductive HL (X:Cx):Hs→List (Value×Option Nat×DLq.TSF)→Prop
 | nil:HL X [] []
 | cons {n:Str} {t:DS} {C:Addr} {hs:Hs} {l} (hm:X.mg n=some (.ref C)) (r:HL X hs l):HL X ((n,t)::hs) ((.ref C,none,fun _ _ _=>zrs X t)::l)
/-- which class goes under which,as the program has them -/
def Apt (K:PySem.W.Frag) (mg:Str→Option Value) (ns:List Str):Prop:=∀ nm l,zmo.lookup nm=some l→∀ n∈ns,∀ C C',mg nm=some (.ref C)→mg n=some (.ref C')→PySem.W.exmOne K (.ref C) (.ref C')=some (l.contains n)
theorem Hs.zo6 {N:DE} {x:Exn} {ρ:Env}:∀ {hs:Hs},hs.at N x ρ→∃ l,zmo.lookup x.nm=some l
 | [],h=>h.elim
 | (n,t)::r,h=>by
  unfold Hs.at at h
  split at h
  ·rename_i e
   unfold Yu at e
   split at e
   ·exact ⟨_,by assumption⟩
   ·cases e
  ·exact Hs.zo6 h
theorem HL.many {X:Cx} {Wout:WX} {D:Ends} {N:DE} {P:zR} {M B:List Addr} {H:Hp} {σ:Sg} {ρ:Env} {x:Exn} {C:Addr} {d:Option Addr} {ns:List Str} {ls:List Str} (ap:Apt X.K X.mg ns) (hm:X.mg x.nm=some (.ref C)) (hn:zmo.lookup x.nm=some ls)
  (s:Stt P M B H) (sl:Slots X.K P M B H σ ρ) (e:qm ρ) (f:Fits X P M B H (DE.calm N) D):∀ {hs:Hs} {l},HL X hs l→(∀ n∈hs.map (·.1),n∈ns)→hs.at N x ρ→DLq.zcZ X.K Wout D l (.ref C) d σ H:=by
 intro hs l h
 induction h with
 | nil=>intro _ q; exact q.elim
 | @cons n t C' hs l hm' r ih=>
  intro sub q
  have es:Yu x.nm n=ls.contains n:=by unfold Yu; rw [hn]
  refine ⟨_,ap _ ls hn n (sub n (List.mem_cons_self ..)) C C' hm hm',fun b a _=>?_,fun b=>?_⟩
  ·unfold Hs.at at q
   rw [if_pos (es.trans b)] at q
   exact ⟨P,M,B,ρ,N,s,sl,e,q,f⟩
  ·unfold Hs.at at q
   rw [if_neg (by rw [es,b]; decide)] at q
   exact ih (fun n z=>sub n (List.mem_cons_of_mem _ z)) q
theorem zo7 {X:Cx} {Wout:WX} {D:Ends} {σ:Sg} {H:Hp} {body:DS} {hs:Hs} {l} (h:qD X (zo4 body hs) D σ H) (hl:HL X hs l) (ap:Apt X.K X.mg (hs.map (·.1))):zo5 X (fun q d τ G=>τ.length=X.N.length→DLq.zcZ X.K Wout D l q d τ G) body D σ H:=by
 obtain ⟨P,M,B,ρ,N,s,sl,e,t,f⟩:=h
 have f0:Fits X P M B H (DE.calm N) D:=f.calm rfl
 exact ⟨P,M,B,ρ,_,s,sl,e,t,⟨f0.nx,f0.bk,f0.ct,f0.rt,f0.ex,f0.rm⟩,⟨fun x C d P' M' H' σ' ρ' q m y a s' sl' e' _=>(Hs.zo6 q).elim fun ls hn=>HL.many (N:=N) ap m hn s' sl' e' (f0.after a) hl (fun _ z=>z) q⟩⟩
section
variable {X:Cx} {body:List Stmt} {h₀:ExceptHandler} {hds:List ExceptHandler} {l:List (Value×Option Nat×DLq.TSF)} {pos:Pos} {t:DS} {hs:Hs}
theorem ztR (hst:X.stack=X.env::X.outer) (hf:X.env.frame=some X.env.locals) (hl:HL X hs l) (ap:Apt X.K X.mg (hs.map (·.1)))
  (hb:∀ (pn:List (Addr×Obj)) (xe:Value→Shared→Prop),PassesOwn (model X.prog X.w) X.A X.env xe→PDB (X.tr pn xe) body t) (hh:DLq.zhi X (h₀::hds) l):PDS X (.Try body (h₀::hds) [] [] pos) (zo4 t hs):=
 mPS (DLq.zn3 (tb:=fun W=>zo5 X W t) (Wo:=WOf X) hst hf (zaY X) (fun W pn xe tk po=>zkm (hb pn xe po) fun D σ H h=>zqC (X:=X) (Y:=X.tr pn xe) rfl rfl tk h) hh) fun D σ H h=>zo7 h hl ap
end
def HD (X:Cx) (hds:List ExceptHandler) (hs:Hs):Prop:=∃ l,DLq.zhi X hds l∧HL X hs l
theorem zso {X:Cx}:HD X [] []:=⟨[],.nil,.nil⟩
theorem zqD {X:Cx} {x:Str} {C:Addr} {np pos':Pos} {b₀:Stmt} {suite:List Stmt} {hds:List ExceptHandler} {hs:Hs} {t:DS} (hm:X.mg x=some (.ref C))
  (hsu:∀ (a:Addr) (oe:Obj) (pn:List (Addr×Obj)),PDB (X.suite a ((a,oe)::pn)) (b₀::suite) t) (r:HD X hds hs) (hg:Gl X x:=by rfl) (hdb:(x == ("__debug__":Str))=false:=by decide):
  HD X (.ExceptHandler (some (.Name x np)) none (b₀::suite) pos'::hds) ((x,t)::hs):=by
 obtain ⟨l,h1,h2⟩:=r
 exact ⟨_,.plain ⟨hg,hdb,.inl hm⟩ (fun a oe cls d pn _ _=>zkm (hsu a oe pn) fun D σ H h=>zqB (X:=X) rfl h) h1,.cons hm h2⟩
theorem zsp {X:Cx} {body:List Stmt} {h₀:ExceptHandler} {hds:List ExceptHandler} {pos:Pos} {t:DS} {hs:Hs} (hst:X.stack=X.env::X.outer) (hf:X.env.frame=some X.env.locals) (hh:HD X (h₀::hds) hs) (ap:Apt X.K X.mg (hs.map (·.1)))
  (hb:∀ (pn:List (Addr×Obj)) (xe:Value→Shared→Prop),PassesOwn (model X.prog X.w) X.A X.env xe→PDB (X.tr pn xe) body t):PDS X (.Try body (h₀::hds) [] [] pos) (zo4 t hs):=by
 obtain ⟨l,h1,h2⟩:=hh
 exact ztR hst hf h2 ap hb h1
end DL
set_option maxHeartbeats 4000000
namespace DL
open PySem PySem.Spec PyProof.Rows L2
theorem zqE {X:Cx} {pins:List (Addr×Obj)} {σ:Sg} {H1 H2:Hp} {Q:XK} {hp hp2 h2:Heap} {g1 g2:Array GenState} {d1 d2:Drawn} {t1 t2:Nat} {os1 os2:OsState} {a C d:Addr} {fs:List (Str×V)} (T:Raises X (.ref C)) (I1:Inv X pins σ H1 ⟨hp,g1,d1,t1,os1⟩) (ha:hp.objs.size≤a) (k:∀ b o,hp.get? b=some o→hp2.get? b=some o)
  (un:Un (frs X.stack) [] (upd H1 a (exo a C none)) H2 hp2 h2) (hok:HOk X.prog X.w H2 h2) (ho:os2=os1) (hb:AllBare g2) (ea:H2 a=some (exo a C (some d))) (ed:H2 d=some (exd d fs)) (hd1:H1 d=none) (q:Q (.ref C) (some d) (upd (del H2 a) d (.xd fs))):
  L2N.MkP X pins σ Q (.ref a) ⟨h2,g2,d2,t2,os2⟩:=by
 obtain ⟨_,G,J,kG,ge,hoe,na⟩:=mk_end0 (d2:=d2) (t2:=t2) I1 ha k un hok ho hb ea ed hd1
 exact ⟨a,_,_,⟨G,g2,d2,t2,os2⟩,_,.ref C,some d,rfl,J,kG,ge,hoe,⟨rfl,rfl,fun vs hv=>by cases hv; rfl⟩,rfl,rfl,na,rfl,hb,T,q⟩
variable [Tb]
/-- what __init__ leaves of a fresh exception and the arguments ws:the attributes fs -/
def zo8 (C:Addr) (sp:Sp) (ws:List V) (fs:List (Str×V)):Prop:=∀ (H:Hp) (a:Addr) (R:VK),H a=none→(∀ dx,H dx=none→dx≠a→R .non (upd (upd (upd H a (exo a C none)) dx (exd dx fs)) a (exo a C (some dx))))→sp (.ref a::ws) (upd H a (exo a C none)) R fun _ _ _=>False
theorem zo9 {H:Hp} {a dx:Addr} {o o1 o2 u:HO} (ha:H a=none) (n:dx≠a):upd (del (upd (upd (upd H a o) dx o1) a o2) a) dx u=upd H dx u:=by
 funext b
 by_cases e:b=dx
 ·subst e; rw [upd_same,upd_same]
 ·rw [upd_ne e,upd_ne e]
  by_cases e2:b=a
  ·subst e2; rw [del_same,ha]
  ·rw [del_ne e2,upd_ne e2,upd_ne e,upd_ne e2]
section
variable {X:Cx} {C fI:Addr} {k:Nat} {fd:FuncData} {ps:List Str} {sp:Sp} {x nm:Str} {p pos:Pos} {fs:List (Str×V)}
theorem mk0 (T:OexC X.K C) (iC:PySem.W.findIn X.K (.ref C) "__init__"=some (some (.ref fI))) (tI:PySem.W.typeIn X.K (.ref fI)=some (.type "function")) (F1:FnOk X.prog X.w X.K X.mg X.base CX0 k fI fd ps sp) (hr:Room (k+1) X.A) (hb:Binds X.K fd ps [])
  (ms:zo8 C sp [] fs) (hm:X.mg x=some (.ref C)) (hg:Gl X x:=by rfl) (hdb:(x == ("__debug__":Str))=false:=by decide):L2N.PMk X (.Call (.Name x p) [] [] pos) (fun σ H Q=>∀ dx,H dx=none→Q (.ref C) (some dx) (upd H dx (.xd fs))):=by
 intro pins s σ H Q I h
 refine wpAny_Call_Name_kw (ld_glob I hg hm (PySem.W.callWith_K0 I.kIn T.kC ?_) hdb)
 show wpAny _ _ (call (.ref C) []) _ _ _
 obtain ⟨_,_,_,_,bm,_,_,_,_,_,_,_,_,_,_,hC,hbm⟩:=T.cls
 rcases s with ⟨hp,g,dr,tk,os⟩
 have up:hp.objs.size≤hp.objs.size+1:=Nat.le_succ _
 have keep:∀ b o,hp.get? b=some o→((hp.push (PySem.W.kdv_tup [])).push (PySem.HandSPX.excO C hp.objs.size)).get? b=some o:=fun b o e=>Heap.get?_push_of_some _ (Heap.get?_push_of_some _ e)
 have there:((hp.push (PySem.W.kdv_tup [])).push (PySem.HandSPX.excO C hp.objs.size)).get? (hp.objs.size+1)=some (PySem.HandSPX.excO C hp.objs.size):=by heap_get
 have free:H (hp.objs.size+1)=none:=I.hok.fresh up
 have J:Inv X pins σ (upd H (hp.objs.size+1) (exo (hp.objs.size+1) C none)) ⟨((hp.push (PySem.W.kdv_tup [])).push (PySem.HandSPX.excO C hp.objs.size)),g,dr,tk,os⟩:=I.laid (t':=tk) (a:=hp.objs.size+1) (o:=exo (hp.objs.size+1) C none) (h':=((hp.push (PySem.W.kdv_tup [])).push (PySem.HandSPX.excO C hp.objs.size))) keep up (exo_ok there)
 have q:=ms H (hp.objs.size+1) (fun v H2=>v=.non∧∃ (d:Addr),H2 (hp.objs.size+1)=some (exo (hp.objs.size+1) C (some d))∧H2 d=some (exd d fs)∧H d=none∧Q (.ref C) (some d) (upd (del H2 (hp.objs.size+1)) d (.xd fs))) free
  fun dx hd hne=>⟨rfl,dx,upd_same,by rw [upd_ne hne,upd_same],hd,by rw [zo9 free hne]; exact h dx hd⟩
 have vals:Vals [V.ref (hp.objs.size+1)] [Value.ref (hp.objs.size+1)]:=.cons rfl .nil
 have cnt:[Value.ref (hp.objs.size+1)].length=ps.length:=F1.len _ _ _ _ q
 refine wpAny_call (PySem.HandSPX.call_own PySem.F.excBase_ValueError (fun Y=>PySem.HandSPX.refsVE_contains Y bm hbm) (I.kIn _ _ hC) (PySem.W.looks_findIn I.kIn iC) (fun self=>PySem.W.bind_fn I.kIn self tI) (Nat.zero_le _) (codeAny_mono (F1.run _ X.stack _ _ _ _ _ _ _ (hr.make C [] []) (J.env0.make C [] []) (hb _ [Value.ref (hp.objs.size+1)] J.kIn cnt) vals q) fun r s' z=>?_))
 match r,z with
 | .error _,z=>exact z.elim
 | .ok (.ret u),z=>
  obtain ⟨v,H2,o2,b2,un,ok2,rv,ev,d,ea,ed,hd,q2⟩:=z
  subst ev
  rcases s' with ⟨h2,g2,d2,t2,os2⟩
  exact ⟨rv,zqE (raises_own T.exC T.tyC) I up keep un ok2 o2 b2 ea ed hd q2⟩
 | .ok .next,z=>exact z.elim
 | .ok .brk,z=>exact z.elim
 | .ok .cont,z=>exact z.elim
/-- B() -/
def zja (nm z:Str):DTM:=fun _ Q=>Q ⟨nm,["called"],[.str z]⟩
theorem zuv {z:Str} (T:OexC X.K C) (iC:PySem.W.findIn X.K (.ref C) "__init__"=some (some (.ref fI))) (tI:PySem.W.typeIn X.K (.ref fI)=some (.type "function")) (F1:FnOk X.prog X.w X.K X.mg X.base CX0 k fI fd ps sp) (hr:Room (k+1) X.A) (hb:Binds X.K fd ps [])
  (ms:zo8 C sp [] [("called",.str z)]) (hm:X.mg x=some (.ref C)) (hg:Gl X x:=by rfl) (hdb:(x == ("__debug__":Str))=false:=by decide):MkN X (.Call (.Name x p) [] [] pos) (zja x z):=by
 intro pins s σ H Q I h
 refine mk0 (fs:=[("called",.str z)]) T iC tI F1 hr hb ms hm hg hdb pins s σ H Q I ?_
 obtain ⟨P,M,B,ρ,Q0,st,sl,t,k⟩:=h
 intro dx hd
 exact k _ _ _ _ t hm ⟨dx,[.str z],rfl,rfl,upd_same,.cons (L1:=[]) (L2:=[]) .str .nil,rfl⟩ (Gr.laid hd) (st.zM.laid hd)
end
section
variable {X:Cx} {C f:Addr} {k:Nat} {fd:FuncData} {ps:List Str} {sp:Sp} {x m:Str} {p apos pos:Pos} {e:Expr} {es:List Expr} {t:TA} {CX:CXT} {E:XK} {mc:Value} {ds:List Value} {dvs:List V}
theorem zfx {pl:Sem Bool} (hm:X.mg x=some (.ref C)) (r:ClX.CRead X.K C mc) (c:PySem.W.findCls X.K (.ref C) mc m=some (.val (.ref f))) (hk:PySem.W.keepIn X.K (.ref f)=true) (F:FnOk X.prog X.w X.K X.mg X.base CX k f fd ps sp) (hr:Room k X.A) (hb:Binds X.K fd ps ds) (hd:Vals dvs ds) (hx:Passes CX X E)
  (ha:PA X (e::es) t) (hg:Gl X x:=by rfl) (hdb:(x == ("__debug__":Str))=false:=by decide)
  (hst:starEach (e::es) X.env=(false,eval e X.env)::starEach es X.env:=by rfl) (hpl:(backTo pos (starEach es X.env)).any (·.1)=false:=by rfl)
  (ht:eval (.Call (.Attribute (.Name x p) m apos) (e::es) [] pos) X.env=(do
   let ov ← eval (.Name x p) X.env
   standAt apos.atName
   let (f,first) ← holding [ov] (getMethod ov m pl)
   callWith pos f first (backTo pos (starEach (e::es) X.env)) (backToKw pos (keywordEach [] X.env))):=by rfl):
  PE X (.Call (.Attribute (.Name x p) m apos) (e::es) [] pos) (tCall sp dvs E t):=by
 refine ⟨fun pins s σ H Q I h=>?_⟩
 refine PySem.W.methodCall_KW (pl:=pl) (ld_glob I hg hm ?_ hdb) ht
 refine PySem.W.method_cls I.kIn r.ga (ClX.getcval_ok (v:=.ref f) I r ⟨c,rfl⟩ fun s' I'=>?_)
 refine PySem.W.callWith_K (h₀:=X.base) I'.ok.mod.kin hk (thn (ha.run pos pins s' σ H _ I' h) fun us s1 ⟨vs,H1,I1,r1,q⟩=>⟨I1.kIn,?_⟩) hst hpl
 exact run_fn F hr hb hd hx I1 r1 q
end
end DL
set_option maxHeartbeats 4000000
namespace DL
open PySem PySem.Spec PyProof.Rows L2
variable [Tb]
theorem zqF {K:PySem.W.Frag} {C:Addr} (q:zrF K C=true):∃ nm q N bs bm sn sub ab col dd k0 k1 k2 k3 k5,K.lookup C=some (excClassObj nm q C N bs bm true sn sub ab col dd k0 k1 k2 k3 k5 "ValueError.__new__")∧PySem.HandSPX.refsVE bm=true:=by
 unfold zrF at q
 split at q
 ·rename_i dd cd sl ho
  split at q
  ·rename_i C' bm k0 k1 k2 k3 n k5 hm hs
   simp only [Bool.and_eq_true,beq_iff_eq,Bool.not_eq_true'] at q
   obtain ⟨rfl,rfl,hdel,hd,hr⟩:=q
   obtain ⟨nm,bs,mro,ns,qn,hdct,sn,sub,ab,col,del⟩:=cd
   dsimp only at hm hdel hd
   subst hm hdel hd
   have hsl:sl=#[k0,k1,k2,k3,some (.builtin "ValueError.__new__"),k5]:=by
    obtain ⟨l⟩:=sl
    simp only at hs
    rw [hs]
   subst hsl
   exact ⟨nm,qn,ns,bs,bm,sn,sub,ab,col,dd,k0,k1,k2,k3,k5,ho,hr⟩
  ·cases q
 ·cases q
/-- a class of exceptions with an __init__ of its own,none of whose attributes fs is the class's -/
structure zsq (K:PySem.W.Frag) (C fI:Addr) (fs:List Str):Prop where
 oex:OexC K C
 ini:PySem.W.findIn K (.ref C) "__init__"=some (some (.ref fI))
 ty:PySem.W.typeIn K (.ref fI)=some (.type "function")
 at_:∀ f∈fs,PySem.W.findIn K (.ref C) f=some none
theorem zhJ {K:PySem.W.Frag} {x:Str} {fs:List Str} (h:znF K x fs=true):zsq K (He.ga K x) (He.ma K (He.ga K x) "__init__") fs:=by
 simp only [znF,Bool.and_eq_true] at h
 obtain ⟨h1,h2,h3,h4,h5,h6,h7,h8⟩:=h
 exact ⟨⟨zqF h1,He.eqO_ok h2,of_decide_eq_true h3,of_decide_eq_true h4,h5⟩,He.eqO_ok h6,of_decide_eq_true h7,fun f hf=>He.eqO_ok (List.all_eq_true.mp h8 f hf)⟩
/-- a class whose function m is called through it -/
structure zqG (K:PySem.W.Frag) (C f:Addr) (m:Str):Prop where
 rd:ClX.CRead K C (.type "type")
 at_:PySem.W.findCls K (.ref C) (.type "type") m=some (.val (.ref f))
 kp:PySem.W.keepIn K (.ref f)=true
theorem zqH {K:PySem.W.Frag} {x m:Str} (h:zrG K x m=true):zqG K (He.ga K x) (He.ma K (He.ga K x) m) m:=by
 simp only [zrG,Bool.and_eq_true] at h
 obtain ⟨h1,h2,h3,h4⟩:=h
 refine ⟨⟨h1,He.eqO_ok h2⟩,?_,h4⟩
 split at h3
 ·rename_i v e
  rw [e,of_decide_eq_true h3]
 ·cases h3
theorem zqI {K:PySem.W.Frag} (h:zrH K=true):PySem.W.findCls K (.type "ValueError") (.type "type") "__init__"=some (.val (.builtin "ValueError.__init__")):=by
 unfold zrH at h
 split at h
 ·rename_i v e
  rw [e,of_decide_eq_true h]
 ·cases h
/-- which class of exceptions goes under which -/
theorem lookup_mem {β:Type} {x:Str} {y:β}:∀ {l:List (Str×β)},l.lookup x=some y→(x,y)∈l
 | [],h=>nomatch h
 | (a,b)::r,h=>by
  rw [List.lookup_cons] at h
  by_cases e:x == a
  ·rw [e] at h
   have e2:x=a:=by simpa using e
   cases h
   rw [e2]
   exact List.mem_cons_self ..
  ·have e3:(x == a)=false:=by simpa using e
   rw [e3] at h
   exact List.mem_cons_of_mem _ (lookup_mem h)
theorem zsr {K:PySem.W.Frag} {mg:Str→Option Value} {h:Heap} {hs ns:List Str} (X:K.In h) (G:h.Ns mainGlobals mg) (hb:zsV K hs=true) (sub:∀ n∈ns,n∈hs):Apt K mg ns:=by
 intro nm l hl n hn C C' m m'
 obtain ⟨h1,h2⟩:=Bool.and_eq_true_iff.mp hb
 have b:=List.all_eq_true.mp h2 (nm,l) (lookup_mem hl)
 have b':=PySem.W.mg_of X G (He.eqO_ok (List.all_eq_true.mp h1 n (sub n hn)))
 rcases Bool.or_eq_true_iff.mp b with b | b
 ·rw [PySem.W.mg_none_of X G (He.eqO_ok b)] at m
  cases m
 ·obtain ⟨b1,b2⟩:=Bool.and_eq_true_iff.mp b
  have e1:=PySem.W.mg_of X G (He.eqO_ok b1)
  rw [e1] at m; rw [b'] at m'
  cases m; cases m'
  exact of_decide_eq_true (List.all_eq_true.mp b2 n (sub n hn))
def zkH (K:PySem.W.Frag):Sp:=fun vs H Q _=>∃ a C z,vs=[.ref a,.str z]∧OexC K C∧PySem.W.findIn K (.ref C) "called"=some none∧H a=some (exo a C none)∧
 ∀ dx,H dx=none→dx≠a→Q .non (upd (upd H dx (exd dx [("called",.str z)])) a (exo a C (some dx)))
theorem zqJ {K:PySem.W.Frag} {m:Str} {vs:List V} {H:Hp} {Q:VK} {E:XK} (h:zkH K vs H Q E):tSeq (tDrop (tVeI K (tCons (tVar 0) (tCons (tC (.str m)) tNil)))) (tSeq (tOst K "called" (tVar 0) (tVar 1)) tNext) { nx:=fun _ H'=>Q .non H',rt:=Q} (L2.start (["self","called"]:List Str) vs) H:=by
 obtain ⟨a,C,z,e,T,hf,ha,q⟩:=h
 subst e
 refine ⟨_,rfl,a,C,[V.str m],rfl,by show 1≤1000; omega,T,ha,?_⟩
 exact ⟨_,rfl,_,rfl,a,C,rfl,T,hf,.inl ⟨ha,fun dx hd hn=>q dx hd hn⟩⟩
theorem zss {K:PySem.W.Frag} {vs:List V} {H:Hp} {Q:VK} {E:XK} (h:zkH K vs H Q E):vs.length=2:=by
 obtain ⟨a,C,z,e,_⟩:=h
 rw [e]; rfl
/-- no arguments; its name is handed on -/
def zmV (K:PySem.W.Frag) (z:Str):Sp:=fun vs H Q _=>∃ a C,vs=[.ref a]∧OexC K C∧PySem.W.findIn K (.ref C) "called"=some none∧H a=some (exo a C none)∧
 ∀ dx,H dx=none→dx≠a→Q .non (upd (upd H dx (exd dx [("called",.str z)])) a (exo a C (some dx)))
theorem zhK {K:PySem.W.Frag} {z:Str} {vs:List V} {H:Hp} {Q:VK} {E:XK} (h:zmV K z vs H Q E):tSeq (tDrop (tCall (zkH K) [] E0 (tCons (tVar 0) (tCons (tC (.str z)) tNil)))) tNext { nx:=fun _ H'=>Q .non H',rt:=Q} (L2.start (["self"]:List Str) vs) H:=by
 obtain ⟨a,C,e,T,hf,ha,q⟩:=h
 subst e
 exact ⟨_,rfl,a,C,z,rfl,T,hf,ha,fun dx hd hn=>q dx hd hn⟩
theorem zkI {K:PySem.W.Frag} {z:Str} {vs:List V} {H:Hp} {Q:VK} {E:XK} (h:zmV K z vs H Q E):vs.length=1:=by
 obtain ⟨a,C,e,_⟩:=h
 rw [e]; rfl
/-- an argument,which is kept beside -/
def zuw (K:PySem.W.Frag) (f z:Str):Sp:=fun vs H Q _=>∃ a C y,vs=[.ref a,y]∧OexC K C∧PySem.W.findIn K (.ref C) "called"=some none∧PySem.W.findIn K (.ref C) f=some none∧H a=some (exo a C none)∧
 ∀ dx,H dx=none→dx≠a→Q .non (upd (upd H dx (exd dx [(f,y),("called",.str z)])) a (exo a C (some dx)))
def Ex0 (P:Program) (w:World) (K:PySem.W.Frag) (mg:Str→Option Value) (base:Heap) (k:Nat) (x z:Str):Prop:=∃ C fI fd ps,mg x=some (.ref C)∧zsq K C fI ["called"]∧FnOk P w K mg base CX0 k fI fd ps (zmV K z)∧Binds K fd ps []
def Ex1 (P:Program) (w:World) (K:PySem.W.Frag) (mg:Str→Option Value) (base:Heap) (k:Nat) (x f z:Str):Prop:=∃ C fI fd ps,mg x=some (.ref C)∧zsq K C fI ["called",f]∧FnOk P w K mg base CX0 k fI fd ps (zuw K f z)∧Binds K fd ps []
section
variable {P:Program} {w:World} {K:PySem.W.Frag} {mg:Str→Option Value} {base:Heap} {k j:Nat} {x z f:Str}
theorem Ex0.imp (E:Ex0 P w K mg base j x z) (h:j≤k):Ex0 P w K mg base k x z:=by
 obtain ⟨C,fI,fd,ps,a,b,c,d⟩:=E
 exact ⟨C,fI,fd,ps,a,b,c.mono h,d⟩
theorem Ex1.imp (E:Ex1 P w K mg base j x f z) (h:j≤k):Ex1 P w K mg base k x f z:=by
 obtain ⟨C,fI,fd,ps,a,b,c,d⟩:=E
 exact ⟨C,fI,fd,ps,a,b,c.mono h,d⟩
end
theorem ztS {X:Cx} {k:Nat} {x z:Str} {p pos:Pos} (E:Ex0 X.prog X.w X.K X.mg X.base k x z) (hr:Room (k+1) X.A) (hg:Gl X x:=by rfl) (hdb:(x == ("__debug__":Str))=false:=by decide):MkN X (.Call (.Name x p) [] [] pos) (zja x z):=by
 obtain ⟨C,fI,fd,ps,hm,T,F,b⟩:=E
 refine zuv T.oex T.ini T.ty F hr b (fun H a R ha q=>?_) hm hg hdb
 exact ⟨a,C,rfl,T.oex,T.at_ _ (by simp),upd_same,fun dx hd hn=>q dx (by rw [upd_ne hn] at hd; exact hd) hn⟩
end DL
set_option maxHeartbeats 4000000
namespace DL
open PySem PySem.Spec PyProof.Rows L2
variable [Tb]
section
variable {X:Cx} {CX:CXT} {k n:Nat} {f:Addr} {fd:FuncData} {ps ks:List Str} {sp:Sp} {E:L2.St→XK} {x:Str} {p pos:Pos} {e:Expr} {es:List Expr} {kwl:List Keyword} {t tk:TA} {g:List Value→List Value→List Value} {gV:List V→List V→List V}
def zux (n m:Nat) (sp:Sp) (gV:List V→List V→List V) (E:L2.St→XK) (t tk:TA):TE:=fun σ H Q=>t σ H fun vs H1=>tk σ H1 fun zs H2=>vs.length=n∧zs.length=m∧sp (gV vs zs) H2 Q (E σ)
theorem zst (F:FnOk X.prog X.w X.K X.mg X.base CX k f fd ps sp) (hr:Room k X.A) (hg:Gl X x) (hm:X.mg x=some (.ref f)) (hk:PySem.W.keepIn X.K (.ref f)=true) (hb:KBn X.K fd ps n ks g gV) (hx:∀ σ,PassesAt CX X σ (E σ))
  (ha:PA X (e::es) t) (hkw:PK X kwl tk) (hall:(backToKw pos (keywordEach kwl X.env)).all (·.1.isSome)=true:=by rfl) (hks:(backToKw pos (keywordEach kwl X.env)).filterMap (·.1)=ks:=by rfl)
  (hdb:(x == ("__debug__":Str))=false:=by decide) (he:starEach (e::es) X.env=(false,eval e X.env)::starEach es X.env:=by rfl)
  (hpl:((backTo pos (starEach (e::es) X.env)).any (·.1)||(backToKw pos (keywordEach kwl X.env)).any (·.1.isNone))=false:=by rfl):PE X (.Call (.Name x p) (e::es) kwl pos) (zux n ks.length sp gV E t tk):=by
 refine ⟨fun pins s σ H Q I h=>wpAny_Call_Name_kw (ld_glob I hg hm ?_ hdb)⟩
 refine PySem.W.callWith_KW (h₀:=X.base) I.ok.mod.kin hk hall (thn (ha.run pos pins s σ H _ I h) fun us s1 z1=>?_) hpl he
 obtain ⟨vs,H1,I1,r1,z2⟩:=z1
 refine thn (hkw.run pos pins s1 σ H1 _ I1 z2) fun ws s2 z3=>?_
 obtain ⟨zs,H2,I2,r2,l1,l2,z4⟩:=z3
 rw [hks]
 refine ⟨I2.kIn,wpAny_call (codeAny_mono (F.run X.A X.stack s2 H2 _ _ _ Q (E σ) hr I2.env0 (hb.to s2 us ws I2.kIn (r1.length.symm.trans l1) (r2.length.symm.trans l2)) (hb.rel r1 r2) z4) fun r s' hq=>?_)⟩
 match r,hq with
 | .error er,hq=>exact hx σ pins H2 s2 er s' I2 hq
 | .ok (.ret u),hq=>exact I2.after hq
 | .ok .next,hq=>exact hq.elim
 | .ok .brk,hq=>exact hq.elim
 | .ok .cont,hq=>exact hq.elim
end
section
variable {X:Cx} {e:Expr} {es:List Expr} {kwl:List Keyword} {pos p:Pos} {tr tk:DTA} {k n:Nat} {x:Str} {S:qO} {st:Stmt} {ps ks:List Str} {kws ms:List (Str×V)} {md:List D} {g:GG}
theorem zsu (F:FxK X.prog X.w X.K X.mg X.base k x st ps kws S) (hr:Room k X.A) (G:GOk n ms.length ks.length g) (ko:zkw x st ps n ks (ms.map (·.1)) g) (hk:kws≠[]) (hms:∀ q∈ms,q∈kws) (hml:md.length=ms.length)
  (hmd:∀ (P:zR) (M B:List Addr) (H:Hp),zf X.K P M B H (ms.map (·.2)) md []) (ha:PDA X (e::es) tr) (hkw:PDK X kwl tk) (hg:Gl X x:=by rfl)
  (hall:(backToKw pos (keywordEach kwl X.env)).all (·.1.isSome)=true:=by rfl) (hks:(backToKw pos (keywordEach kwl X.env)).filterMap (·.1)=ks:=by rfl)
  (hdb:(x == ("__debug__":Str))=false:=by decide) (he:starEach (e::es) X.env=(false,eval e X.env)::starEach es X.env:=by rfl)
  (hpl:((backTo pos (starEach (e::es) X.env)).any (·.1)||(backToKw pos (keywordEach kwl X.env)).any (·.1.isNone))=false:=by rfl):
  PE X (.Call (.Name x p) (e::es) kwl pos) (zeu X (zhI S (dKw n ks.length g md tr tk))):=by
 obtain ⟨f,fd,F,a,b,c⟩:=F
 obtain ⟨mv,hb⟩:=FunD.kbinds0 (ps:=ps) c n ks ms g hk hms (fun r1 r2 r3=>G.vals r1 r2 r3) (fun D doc pm an cdv ct us mv ws h1 h2 h3=>ko D doc pm an cdv ct us mv ws h1 (by rw [List.length_map]; exact h2) h3)
 refine mPE (zst F hr hg a b hb (E:=WE (WOf X)) (zli (zaY X)) ha hkw hall hks hdb he hpl) fun σ H Q h=>?_
 exact ziZ G hml hmd (zi9 h)
end
/-- what a def lets out passes its frame -/
theorem zct {P:Program} {w:World} {K:PySem.W.Frag} {mg:Str→Option Value} {base:Heap} {N:List Str} {qual:Str} {scope:Scope} {f:Addr} {cdv:Value} {A:Around} {outer:List PySem.Env} {s:Shared} {H:Hp} {E:XK}:
  PassesOwn (model (cxOf (CXG P w) P w K mg base N qual scope f cdv A outer s H E).prog (cxOf (CXG P w) P w K mg base N qual scope f cdv A outer s H E).w) (cxOf (CXG P w) P w K mg base N qual scope f cdv A outer s H E).A (cxOf (CXG P w) P w K mg base N qual scope f cdv A outer s H E).env (cxOf (CXG P w) P w K mg base N qual scope f cdv A outer s H E).xe:=passes_of rfl
end DL
set_option maxHeartbeats 4000000
namespace DL
open PySem PySem.Spec PyProof.Rows L2
variable [Tb]
abbrev Rx (α:Type):=Except Exn α
def Xy {α:Type} (m:Except Exn α) (K:α→Prop) (KX:Exn→Prop):Prop:=match m with
 | .ok a=>K a
 | .error x=>KX x
theorem Xy.mono {α:Type} {m:Except Exn α} {K K':α→Prop} {KX KX':Exn→Prop} (h:Xy m K KX) (a:∀ r,K r→K' r) (b:∀ x,KX x→KX' x):Xy m K' KX':=by
 cases m with
 | ok r=>exact a r h
 | error x=>exact b x h
/-- an exception without attributes of its own -/
def xB (nm:Str):Exn:=⟨nm,["called"],[.str nm]⟩
section
variable {α:Type} {N:DE} {ρ:Env} {te:DT} {tr:DTA} {d:D} {ds ds':List D} {S:qO} {m:Except Exn α} {e e' e1:α→D} {u:DS}
theorem zcu {nm:Str} (q:N.ex (xB nm) ρ):Jx (zja nm nm) N ρ:=q
abbrev SX (S:qO) (ds:List D) (m:Except Exn α) (e:α→D):Prop:=∀ Q E,Xy m (fun r=>Q (e r)) E→S ds Q E
theorem zqK (ev:EvA tr ρ ds) (hz:D.fzs ds=ds') (hs:SX S ds' m e) (h:Xy m (fun _=>N.nx ρ) fun x=>N.ex x ρ):zda (zhI S tr) N ρ:=ev _ (by
 rw [hz]; exact hs _ _ h)
theorem zjb (ev:EvA tr ρ ds) (hz:D.fzs ds=ds') (hs:SX S ds' m e) (h:Xy m (fun _=>u N ρ) fun x=>N.ex x ρ):zN (zda (zhI S tr)) u N ρ:=zqK (N:={ N with nx:=u N}) ev hz hs h
theorem zsv [Rt e e'] (ev:EvA tr ρ ds) (hz:D.fzs ds=ds') (hf:D.fls ds=true) (hs:SX S ds' m e) (h:Xy m (fun r=>N.rt (e' r)) fun x=>N.ex x ρ):zlR (zhI S tr) N ρ:=ev _ (by
 rw [hz]; exact hs _ _ (h.mono (fun r q=>by
  show N.rt (if D.fls ds=true then e r else (e r).wk).rt
  rw [if_pos hf,Rt.h (e:=e) (e':=e')]; exact q) fun _ q=>q))
def hsW:List (Str×Prop)→Exn→Prop
 | [],_=>False
 | (n,p)::r,x=>(Yu x.nm n=true→p)∧(Yu x.nm n=false→hsW r x)
/-- the suites' promises,wherever one stands -/
inductive HsP (N:DE):Hs→List (Str×Prop)→Prop
 | nil:HsP N [] []
 | cons {n:Str} {t:DS} {p:Prop} {hs:Hs} {l} (h:p→∀ ρ,t (DE.calm N) ρ) (r:HsP N hs l):HsP N ((n,t)::hs) ((n,p)::l)
theorem HsP.at {x:Exn} {hs:Hs} {l:List (Str×Prop)} (h:HsP N hs l):hsW l x→∀ ρ,hs.at N x ρ:=by
 induction h with
 | nil=>intro q; exact q.elim
 | @cons n t p hs l h r ih=>
  intro q ρ
  unfold Hs.at
  unfold hsW at q
  by_cases b:Yu x.nm n=true
  ·rw [if_pos b]; exact h (q.1 b) ρ
  ·rw [if_neg b]; exact ih (q.2 (by simpa using b)) ρ
theorem ztT {body:DS} {hs:Hs} {l:List (Str×Prop)} (hp:HsP N hs l) (h:(∀ x ρ,hsW l x→hs.at N x ρ)→body { N with ex:=fun x ρ'=>hs.at N x ρ'} ρ):zo4 body hs N ρ:=h fun x ρ q=>hp.at q ρ
end
section
variable {α β:Type} {a a':α→D} {b b':β→D}
def eV (a:α→D) (b:β→D):α ⊕ β→D:=fun x=>match x with
 | .inl x=>a x
 | .inr x=>b x
instance [Pf a] [Pf b]:Pf (eV a b):=⟨fun x=>match x with | .inl x=>Pf.h (e:=a) x | .inr x=>Pf.h (e:=b) x,fun x=>match x with | .inl x=>Pf.np (e:=a) x | .inr x=>Pf.np (e:=b) x⟩
instance [Nb a] [Nb b]:Nb (eV a b):=⟨fun x=>match x with | .inl x=>Nb.h (e:=a) x | .inr x=>Nb.h (e:=b) x⟩
instance [Np a] [Np b]:Np (eV a b):=⟨fun x=>match x with | .inl x=>Np.h (e:=a) x | .inr x=>Np.h (e:=b) x⟩
instance [Vw a a'] [Vw b b']:Vw (eV a b) (eV a' b'):=⟨fun x=>match x with | .inl x=>Vw.h (e:=a) (e':=a') x | .inr x=>Vw.h (e:=b) (e':=b') x⟩
instance [Fz a a'] [Fz b b']:Fz (eV a b) (eV a' b'):=⟨fun x=>match x with | .inl x=>Fz.h (e:=a) (e':=a') x | .inr x=>Fz.h (e:=b) (e':=b') x⟩
instance [Rt a a'] [Rt b b']:Rt (eV a b) (eV a' b'):=⟨fun x=>match x with | .inl x=>Rt.h (e:=a) (e':=a') x | .inr x=>Rt.h (e:=b) (e':=b') x⟩
instance [WkC a a'] [WkC b b']:WkC (eV a b) (eV a' b'):=⟨fun x=>match x with | .inl x=>WkC.h (e:=a) (e':=a') x | .inr x=>WkC.h (e:=b) (e':=b') x⟩
instance [FlC true a] [FlC true b]:FlC true (eV a b):=⟨fun x=>match x with | .inl x=>FlC.h (e:=a) x | .inr x=>FlC.h (e:=b) x⟩
instance {n:Nat} [ShC n a] [ShC n b]:ShC n (eV a b):=⟨fun x=>match x with | .inl x=>ShC.h (e:=a) x | .inr x=>ShC.h (e:=b) x⟩
instance {n:Nat} [PlC n a] [PlC n b]:PlC n (eV a b):=⟨fun x=>match x with | .inl x=>PlC.h (e:=a) x | .inr x=>PlC.h (e:=b) x⟩
theorem zsw {ρ:Env} {te:DT} {x:α} (h:Ev te ρ (a x)):Ev te ρ (eV a b (.inl x)):=h
theorem zsx {ρ:Env} {te:DT} {x:β} (h:Ev te ρ (b x)):Ev te ρ (eV a b (.inr x)):=h
end
theorem Fd.ofX {P:Program} {w:World} {K:PySem.W.Frag} {mg:Str→Option Value} {base:Heap} {k:Nat} {x:Str} {S:qO} {S':zQ} (F:Fx P w K mg base k x S) (h:∀ ds Q,S' ds Q→S ds Q fun _=>False):Fd P w K mg base k x S':=by
 obtain ⟨f,fd,ps,F,a,b,c⟩:=F
 have key:∀ vs H Q E,Q8 K S' vs H Q E→zbY K mg S vs H Q fun _ _ _=>False:=fun vs H Q E ⟨P',M,ds,Q0,s,r,pf,q,k'⟩=>⟨P',M,ds,Q0,_,s,r,pf,h _ _ q,k',fun _ _ _ _ z=>z.elim⟩
 refine ⟨f,fd,ps,⟨fun vs H Q E q=>F.len vs H Q _ (key vs H Q E q),fun A outer s H args us vs Q E hr e0 hb hv hs=>?_⟩,a,b,c⟩
 refine codeAny_mono (F.run A outer s H args us vs Q (fun _ _ _=>False) hr e0 hb hv (key _ _ _ _ hs)) fun r s' z=>?_
 match r,z with
 | .error er,z=>exact (show False from by
   rcases z with ⟨_,_,_,_,_,_,_,_,_,_,_,_,q⟩ | ⟨_,_,_,_,_,_,_,_,_,_,_,_,_,q⟩ <;> exact q)
 | .ok (.ret u),z=>exact z
 | .ok .next,z=>exact z.elim
 | .ok .brk,z=>exact z.elim
 | .ok .cont,z=>exact z.elim
theorem FdK.ofX {P:Program} {w:World} {K:PySem.W.Frag} {mg:Str→Option Value} {base:Heap} {k:Nat} {x:Str} {st:Stmt} {ps:List Str} {kws:List (Str×V)} {S:qO} {S':zQ} (F:FxK P w K mg base k x st ps kws S) (h:∀ ds Q,S' ds Q→S ds Q fun _=>False):FdK P w K mg base k x st ps kws S':=by
 obtain ⟨f,fd,F,a,b,c⟩:=F
 have key:∀ vs H Q E,Q8 K S' vs H Q E→zbY K mg S vs H Q fun _ _ _=>False:=fun vs H Q E ⟨P',M,ds,Q0,s,r,pf,q,k'⟩=>⟨P',M,ds,Q0,_,s,r,pf,h _ _ q,k',fun _ _ _ _ z=>z.elim⟩
 refine ⟨f,fd,⟨fun vs H Q E q=>F.len vs H Q _ (key vs H Q E q),fun A outer s H args us vs Q E hr e0 hb hv hs=>?_⟩,a,b,c⟩
 refine codeAny_mono (F.run A outer s H args us vs Q (fun _ _ _=>False) hr e0 hb hv (key _ _ _ _ hs)) fun r s' z=>?_
 match r,z with
 | .error er,z=>exact (show False from by
   rcases z with ⟨_,_,_,_,_,_,_,_,_,_,_,_,q⟩ | ⟨_,_,_,_,_,_,_,_,_,_,_,_,_,q⟩ <;> exact q)
 | .ok (.ret u),z=>exact z
 | .ok .next,z=>exact z.elim
 | .ok .brk,z=>exact z.elim
 | .ok .cont,z=>exact z.elim
def zkJ (P:Program) (w:World) (K:PySem.W.Frag) (mg:Str→Option Value) (base:Heap) (k:Nat) (x z:Str):Prop:=∃ j,j+1≤k∧Ex0 P w K mg base j x z
section
variable {X:Cx} {k:Nat} {x f z:Str} {p pos:Pos} {e:Expr} {te:DT}
theorem zhL (E:zkJ X.prog X.w X.K X.mg X.base k x z) (hr:Room k X.A) (hg:Gl X x:=by rfl) (hdb:(x == ("__debug__":Str))=false:=by decide):MkN X (.Call (.Name x p) [] [] pos) (zja x z):=by
 obtain ⟨j,hj,E⟩:=E
 exact ztS E (hr.mono hj) hg hdb
theorem zpa {np pos':Pos} {b₀:Stmt} {suite:List Stmt} {hds:List ExceptHandler} {hs:Hs} {t:DS} (hm:∃ C,X.mg x=some (.ref C))
  (hsu:∀ (a:Addr) (oe:Obj) (pn:List (Addr×Obj)),PDB (X.suite a ((a,oe)::pn)) (b₀::suite) t) (r:HD X hds hs) (hg:Gl X x:=by rfl) (hdb:(x == ("__debug__":Str))=false:=by decide):
  HD X (.ExceptHandler (some (.Name x np)) none (b₀::suite) pos'::hds) ((x,t)::hs):=by
 obtain ⟨C,hm⟩:=hm
 exact zqD hm hsu r hg hdb
end
end DL
set_option maxHeartbeats 4000000
namespace DL
open PySem PySem.Spec PyProof.Rows L2
end DL
set_option maxHeartbeats 0
namespace DL
open PySem PySem.Spec PyProof.Rows L2
section
variable {α β γ δ:Type} {a:α→D} {b:β→D} {c:γ→D} {d:δ→D}
instance [FlC true a] [FlC true b] [FlC true c] [FlC true d]:FlC true (eT4 a b c d):=⟨fun x=>by show ((a x.1).fl&&((b x.2.1).fl&&((c x.2.2.1).fl&&((d x.2.2.2).fl&&true))))=true; rw [FlC.h (b:=true),FlC.h (b:=true),FlC.h (b:=true),FlC.h (b:=true)]; rfl⟩
end
end DL
set_option maxHeartbeats 4000000
namespace DL
open PySem PySem.Spec PyProof.Rows L2
variable [Tb]
def kD:Key→D
 | .inl i=>.int i
 | .inr x=>.str x
section
variable {κ α β:Type} [DecidableEq κ]
/-- what stands at a key -/
def atK:List κ→List α→κ→Option α
 | a::ks,x::xs,k=>if a=k then some x else atK ks xs k
 | _,_,_=>none
def inK (ks:List κ) (k:κ):Bool:=ks.any fun a=>decide (a=k)
theorem zqL {ks:List κ} {k:κ}:inK ks k=true↔k∈ks:=by simp [inK]
end
section
variable {K:PySem.W.Frag} {P:zR} {M B L:List Addr} {H:Hp}
theorem Rep.key:∀ {k:Key} {v:V},Rep K P M B H v (kD k) L→v=kV k∧L=[]
 | .inl _,_,h=>h.int_inv
 | .inr _,_,h=>h.str_inv
theorem zf.keys:∀ {ks:List Key} {vs:List V} {L:List Addr},zf K P M B H vs (ks.map kD) L→vs=ks.map kV∧L=[]
 | [],_,_,h=>by cases h; exact ⟨rfl,rfl⟩
 | k::ks,_,_,h=>by
  cases h with
  | cons h r=>
   obtain ⟨rfl,rfl⟩:=h.key
   obtain ⟨rfl,rfl⟩:=zf.keys r
   exact ⟨rfl,rfl⟩
end
/-- d[k] -/
def ixM:D2
 | .con (.dK ks) _ xs,y,Q=>∃ k d,y=kD k∧atK ks xs k=some d∧Q d
 | .con (.dT ks) _ xs,y,Q=>∃ k d,y=.tup (k.map kD)∧atK ks xs k=some d∧Q d
 | _,_,_=>False
/-- k in d -/
def inM (f:Bool→Bool):D2
 | y,.con (.dK ks) _ _,Q=>∃ k:Key,y=kD k∧Q (.bl (f (inK ks k)))
 | y,.con (.dT ks) _ _,Q=>∃ k:List Key,y=.tup (k.map kD)∧Q (.bl (f (inK ks k)))
 | _,_,_=>False
end DL
set_option maxHeartbeats 4000000
namespace DL
open PySem PySem.Spec PyProof.Rows L2
variable [Tb]
section
variable {κ α β:Type} {kd:κ→D} {ct:List κ→Ct} {a:α→D} {a':α→D}
/-- a dict as the list of its keys and values -/
def eM (ct:List κ→Ct) (f:Fl) (a:α→D) (l:List (κ×α)):D:=.con (ct (l.map (·.1))) f ((l.map (·.2)).map a)
instance [Pf a]:Pf (eM ct .f a):=⟨fun l=>by show (true&&D.pfs ((l.map (·.2)).map a))=true; rw [Jp _ (all_map Pf.h _)]; rfl,fun l=>npS (all_map Pf.np (l.map (·.2)))⟩
instance [Nb a]:Nb (eM ct .o a):=⟨fun l=>nbS (all_map Nb.h (l.map (·.2)))⟩
instance {k:Fl} [Np a]:Np (eM ct k a):=⟨fun l=>npS (all_map Np.h (l.map (·.2)))⟩
instance [No a]:No (eM ct .b a):=⟨fun l=>by show (true&&D.nos ((l.map (·.2)).map a))=true; rw [noS (all_map No.h _)]; rfl⟩
instance [Vw a a']:Vw (eM ct .o a) (eM ct .b a'):=⟨fun l=>by show D.con _ .b (D.vws ((l.map (·.2)).map a))=_; rw [zhu (e':=a') Vw.h]; rfl⟩
instance:Vw (eM ct .b a) (eM ct .b a):=⟨fun _=>rfl⟩
instance:Vw (eM ct .f a) (eM ct .f a):=⟨fun _=>rfl⟩
instance:Fz (eM ct .f a) (eM ct .f a):=⟨fun _=>rfl⟩
instance [Fz a a']:Fz (eM ct .o a) (eM ct .f a'):=⟨fun l=>by show D.con _ .f (D.fzs ((l.map (·.2)).map a))=_; rw [Jt (e':=a') Fz.h]; rfl⟩
instance [Fz a a']:Fz (eM ct .b a) (eM ct .f a'):=⟨fun l=>by show D.con _ .f (D.fzs ((l.map (·.2)).map a))=_; rw [Jt (e':=a') Fz.h]; rfl⟩
instance [Rt a a']:Rt (eM ct .o a) (eM ct .o a'):=⟨fun l=>by show D.con _ .o (D.rts ((l.map (·.2)).map a))=_; rw [zhv (e':=a') Rt.h]; rfl⟩
instance [Fz a a']:Rt (eM ct .b a) (eM ct .f a'):=⟨fun l=>by show D.con _ .f (D.fzs ((l.map (·.2)).map a))=_; rw [Jt (e':=a') Fz.h]; rfl⟩
instance:Rt (eM ct .f a) (eM ct .f a):=⟨fun _=>rfl⟩
instance [WkC a a']:WkC (eM ct .o a) (eM ct .o a'):=⟨fun l=>by show D.con _ .o (D.wks ((l.map (·.2)).map a))=_; rw [Ju (e':=a') WkC.h]; rfl⟩
instance [WkC a a']:WkC (eM ct .f a) (eM ct .b a'):=⟨fun l=>by show D.con _ .b (D.wks ((l.map (·.2)).map a))=_; rw [Ju (e':=a') WkC.h]; rfl⟩
instance [WkC a a']:WkC (eM ct .b a) (eM ct .b a'):=⟨fun l=>by show D.con _ .b (D.wks ((l.map (·.2)).map a))=_; rw [Ju (e':=a') WkC.h]; rfl⟩
instance:FlC true (eM ct .f a):=⟨fun _=>rfl⟩
instance:FlC false (eM ct .o a):=⟨fun _=>rfl⟩
instance:FlC false (eM ct .b a):=⟨fun _=>rfl⟩
/-- what such keys are -/
class Ky (kk:κ→Key) (kd:κ→D):Prop where
 h:∀ x,kd x=kD (kk x)
 inj:∀ x y,kk x=kk y→x=y
class KyT (kk:κ→List Key) (kd:κ→D):Prop where
 h:∀ x,kd x=.tup ((kk x).map kD)
 inj:∀ x y,kk x=kk y→x=y
abbrev kI:Int→Key:=.inl
abbrev kS:OkS→Key:=fun s=>.inr s.1
instance:Ky kI eI:=⟨fun _=>rfl,fun _ _ h=>by injection h⟩
instance:Ky kS eS:=⟨fun _=>rfl,fun x y h=>Subtype.ext (by injection h)⟩
abbrev kT2 (a:α→Key) (b:β→Key):α×β→List Key:=fun x=>[a x.1,b x.2]
instance {ka:α→Key} {kb:β→Key} {da:α→D} {db:β→D} [Ky ka da] [Ky kb db]:KyT (kT2 ka kb) (eT2 da db):=
 ⟨fun x=>by show D.tup [da x.1,db x.2]=.tup [kD (ka x.1),kD (kb x.2)]; rw [Ky.h (kk:=ka) (kd:=da),Ky.h (kk:=kb) (kd:=db)],fun x y h=>by
  injection h with h1 h2
  injection h2 with h2 _
  exact Prod.ext (Ky.inj (kd:=da) _ _ h1) (Ky.inj (kd:=db) _ _ h2)⟩
abbrev cK (kk:κ→Key):List κ→Ct:=fun ks=>.dK (ks.map kk)
abbrev cT (kk:κ→List Key):List κ→Ct:=fun ks=>.dT (ks.map kk)
/-- what dicts of such keys do -/
class KyC (kd:κ→D) (ct:List κ→Ct):Prop where
 get:∀ [DecidableEq κ] (ks:List κ) (xs:List D) (f:Fl) (k:κ) (d:D) (Q:D→Prop),atK ks xs k=some d→Q d→ixM (.con (ct ks) f xs) (kd k) Q
 inn:∀ [DecidableEq κ] (g:Bool→Bool) (ks:List κ) (xs:List D) (f:Fl) (k:κ) (Q:D→Prop),Q (.bl (g (decide (k∈ks))))→inM g (kd k) (.con (ct ks) f xs) Q
variable [DecidableEq κ]
theorem zhM {κ':Type} [DecidableEq κ'] {kk:κ→κ'} (inj:∀ x y,kk x=kk y→x=y):∀ {ks:List κ} {xs:List D} {k:κ},atK (ks.map kk) xs (kk k)=atK ks xs k
 | [],_,_=>rfl
 | _::_,[],_=>rfl
 | b::ks,x::xs,k=>by
  rw [List.map_cons]
  unfold atK
  by_cases e:b=k
  ·rw [if_pos e,if_pos (by rw [e])]
  ·rw [if_neg e,if_neg fun z=>e (inj _ _ z),zhM inj]
theorem zlT {κ':Type} [DecidableEq κ'] {kk:κ→κ'} (inj:∀ x y,kk x=kk y→x=y) {ks:List κ} {k:κ}:inK (ks.map kk) (kk k)=decide (k∈ks):=by
 refine Bool.eq_iff_iff.mpr ?_
 rw [zqL,decide_eq_true_eq,List.mem_map]
 exact ⟨fun ⟨x,hx,e⟩=>inj _ _ e ▸ hx,fun h=>⟨k,h,rfl⟩⟩
end
section
variable {κ α:Type} {kd:κ→D} {a:α→D}
instance {kk:κ→Key} [Ky kk kd]:KyC kd (cK kk):=⟨fun ks xs f k d Q h q=>⟨kk k,d,Ky.h k,by rw [zhM (Ky.inj (kd:=kd))]; exact h,q⟩,fun g ks xs f k Q q=>⟨kk k,Ky.h k,by rw [zlT (Ky.inj (kd:=kd))]; exact q⟩⟩
instance {kk:κ→List Key} [KyT kk kd]:KyC kd (cT kk):=⟨fun ks xs f k d Q h q=>⟨kk k,d,KyT.h k,by rw [zhM (KyT.inj (kd:=kd))]; exact h,q⟩,fun g ks xs f k Q q=>⟨kk k,KyT.h k,by rw [zlT (KyT.inj (kd:=kd))]; exact q⟩⟩
variable {ct:List κ→Ct} [DecidableEq κ]
end
end DL
set_option maxHeartbeats 4000000
namespace DL
open PySem PySem.Spec PyProof.Rows L2
variable [Tb]
/-- a method of C by its name keeps a promise -/
def FdM (P:Program) (w:World) (K:PySem.W.Frag) (mg:Str→Option Value) (base:Heap) (k:Nat) (C:Addr) (m:Str) (S:zQ):Prop:=
 ∃ f fd ps,FnOk P w K mg base CX0 k f fd ps (Q8 K S)∧Meth K C m f∧Binds K fd ps []
theorem FdM.imp {P:Program} {w:World} {K:PySem.W.Frag} {mg:Str→Option Value} {base:Heap} {S S':zQ} {C:Addr} {m:Str} {k k':Nat} (F:FdM P w K mg base k C m S) (hk:k≤k') (h:∀ ds Q,S' ds Q→S ds Q):FdM P w K mg base k' C m S':=by
 obtain ⟨f,fd,ps,F,a,b⟩:=F
 exact ⟨f,fd,ps,(F.mono hk).imp fun vs H Q E ⟨P,M,ds,Q0,h1,h2,h3,h4,h5⟩=>⟨P,M,ds,Q0,h1,h2,h3,h _ _ h4,h5⟩,a,b⟩
end DL
set_option maxHeartbeats 4000000
namespace DL
open PySem PySem.Spec PyProof.Rows L2
variable [Tb]
/-- from the arguments to the instance's data -/
abbrev Xj:=List D→(D→Prop)→Prop
/-- what an __init__ leaves:x is the instance -/
def zuy (K:PySem.W.Frag) (P:zR) (M:List Addr) (x:Addr) (H:Hp) (K0:D→Prop) (H':Hp):Prop:=
 ∃ c Lr,K0 c∧(∀ b o,H b=some o→b∉P.as→b≠x→GrO o (H' b))∧(∀ b q,(b,q)∈Tb.T→jo H b q→jo H' b q)∧zF P (Lr++M) H'∧Rep K P (Lr++M) (Lr++M) H' (.ref x) c Lr∧Lr.Nodup∧∀ a∈Lr,a=x∨H a=none
def zrt (K:PySem.W.Frag) (C:Addr) (S:Xj):Sp:=fun vs H Q _=>∃ P M ds K0 x dx us,vs=.ref x::us∧Stt P (x::M) M H∧x∉M∧x∉P.as∧H x=some (.ins C dx [])∧zf K P (x::M) M H us ds []∧D.pfs ds=true∧S ds K0∧
 ∀ H',zuy K P M x H K0 H'→Q .non H'
/-- the end of an __init__ -/
def zpb (C x:Addr) (K0:D→Prop):DE:={ nx:=fun ρ=>∃ ns xs,ρ[0]?=some (some (.con (.ins C ns (some x)) .o xs))∧D.nps xs=true∧K0 (.con (.ins C ns none) .o xs),rt:=fun _=>False}
theorem zhN {n:Nat} {vs:List V} {ds:List D} (hl:vs.length=ds.length) {i:Nat} {d:D} (e:(zH n ds)[i]?=some (some d)):i < ds.length∧ds[i]?=some d:=by
 unfold zH at e
 by_cases hi:i < ds.length
 ·rw [List.getElem?_append_left (by simpa using hi),List.getElem?_map] at e
  cases ed:ds[i]? with
  | none=>rw [ed] at e; cases e
  | some c=>
   rw [ed] at e
   injection e with e
   exact ⟨hi,by rw [show some c=some d from e]⟩
 ·rw [List.getElem?_append_right (by simpa using hi),List.getElem?_replicate] at e
  split at e <;> cases e
theorem zhO {N:List Str} {vs:List V} {i:Nat} {v:V} (e:vs[i]?=some v):(L2.start N vs)[i]?=some (some v):=by
 unfold L2.start
 have hv:i < vs.length:=(List.getElem?_eq_some_iff.mp e).1
 rw [List.getElem?_append_left (by simpa using hv),List.getElem?_map,e]
 rfl
def ztU (x:Addr) (i:Nat):List Addr:=if i=0 then [x] else []
theorem zcv {x:Addr} {i:Nat} (h:i≠0):ztU x i=[]:=if_neg h
theorem zmW {X:Cx} {C:Addr} {S:Xj} {t:DS} {N:List Str} {n:Nat} (hS:∀ ds K0,S ds K0→ds.length+1=n∧∀ x,t (zpb C x K0) (zH N.length (.con (.ins C [] (some x)) .o []::ds))) {vs:List V} {H:Hp} {Q:VK} {E:XK} (h:zrt X.K C S vs H Q E):
  qD X t { nx:=fun _ H'=>Q .non H',rt:=Q} (L2.start N vs) H:=by
 obtain ⟨P,M,ds,K0,x,dx,us,rfl,s,xM,xP,hx,r,pf,q,k⟩:=h
 obtain ⟨hl,q⟩:=hS ds K0 q
 have len:=r.len
 refine ⟨P,x::M,M,zH N.length (.con (.ins C [] (some x)) .o []::ds),zpb C x K0,s,⟨?_,ztU x,fun i d e=>?_,fun i a z=>?_,fun i=>?_,fun i j a z y=>?_⟩,fun i d e=>?_,q x,⟨?_,?_,?_,?_,fun _ _ _ _ _ _ _ _ z=>z.elim,fun _ _ _ _ _ _ _ _ z=>z.elim⟩⟩
 ·simp [zH,L2.start,len]
 ·obtain ⟨hi,e⟩:=zhN (vs:=.ref x::us) (by simp [len]) e
  cases i with
  | zero=>
   have e:D.con (.ins C [] (some x)) .o []=d:=by simpa using e
   subst e
   exact ⟨.ref x,zhO rfl,.lstO (CtO.of (c:=.ins C [] (some x)) (dx:=dx) ⟨rfl,fun y h=>by injection h⟩ hx) xP .nil⟩
  | succ j=>
   have e:ds[j]?=some d:=by simpa using e
   obtain ⟨v,e1,r1⟩:=zf.at0 r e
   exact ⟨v,zhO (by simpa using e1),by rw [zcv (Nat.succ_ne_zero j)]; exact r1⟩
 ·by_cases hi:i=0
  ·subst hi
   rw [List.mem_singleton.mp (show a∈[x] from z)]
   exact ⟨List.mem_cons_self ..,xM⟩
  ·rw [zcv hi] at z; cases z
 ·by_cases hi:i=0
  ·subst hi; exact List.nodup_cons.mpr ⟨fun z=>(nomatch z),List.nodup_nil⟩
  ·rw [zcv hi]; exact List.nodup_nil
 ·by_cases hi:i=0
  ·by_cases hj:j=0
   ·rw [hi,hj]
   ·rw [zcv hj] at y; cases y
  ·rw [zcv hi] at z; cases z
 ·obtain ⟨hi,e⟩:=zhN (vs:=.ref x::us) (by simp [len]) e
  cases i with
  | zero=>
   have e:D.con (.ins C [] (some x)) .o []=d:=by simpa using e
   subst e
   rfl
  | succ j=>
   have e:ds[j]?=some d:=by simpa using e
   exact D.zdA _ (zc0 pf e)
 ·intro P' M' H' σ' ρ' n a s' sl' nb
  obtain ⟨ns,xs,e0,np,k0⟩:=n
  obtain ⟨v,L,e1,rr,hL,nd⟩:=sl'.get e0
  have hs:∀ b∈L++M,b∈M':=fun b z=>(List.mem_append.mp z).elim (fun q=>(hL b q).1) (s'.sub b)
  have rr:=Rep.JM a.zM (Rep.sub hs (fun _ z=>z) (Rep.nbB (B':=L++M) rr (nb 0 _ e0))) (by simpa [D.np] using np)
  cases rr with
  | lstO hc hn rs=>
   obtain ⟨ok,dx',hh⟩:=hc.to
   obtain ⟨ok1,ok2⟩:=ok
   have:=ok2 x rfl
   subst this
   refine k H' ⟨_,_,k0,fun b o hb hn hne=>a.gr b o hb hn ((Classical.em (b∈M)).elim .inr fun z=>.inl fun y=>(List.mem_cons.mp y).elim hne z),a.tab,?_,.lstO (CtO.of (c:=.ins C ns none) (dx:=dx') ⟨ok1,fun y h=>nomatch h⟩ hh) hn rs,nd,fun b z=>?_⟩
   ·intro y l hy
    obtain ⟨h1,h2,h3,h4⟩:=s'.zM y l (a.zM _ hy)
    exact ⟨fun z=>h1 (hs y z),fun z=>h2 (hs l z),fun z=>h3 (QM a.zM l z),h4⟩
   ·rcases a.newm b (hL b z).1 with w | w
    ·exact (List.mem_cons.mp w).elim .inl fun y=>absurd y (hL b z).2
    ·exact .inr w
 ·intro _ _ _ _ _ z; exact z.elim
 ·intro _ _ _ _ _ z; exact z.elim
 ·intro _ _ _ _ _ _ z; exact z.elim
/-- C(..) by the class's name keeps a promise -/
def FdI (P:Program) (w:World) (K:PySem.W.Frag) (mg:Str→Option Value) (base:Heap) (k:Nat) (x:Str) (C:Addr) (S:Xj):Prop:=
 ∃ f fd ps,FnOk P w K mg base CX0 k f fd ps (zrt K C S)∧Mk K C f∧mg x=some (.ref C)∧Binds K fd ps []
theorem FdI.imp {P:Program} {w:World} {K:PySem.W.Frag} {mg:Str→Option Value} {base:Heap} {S:Xj} {C:Addr} {x:Str} {k k':Nat} (F:FdI P w K mg base k x C S) (hk:k≤k'):FdI P w K mg base k' x C S:=by
 obtain ⟨f,fd,ps,F,a,b⟩:=F
 exact ⟨f,fd,ps,F.mono hk,a,b⟩
section
variable {P:Program} {w:World} {K:PySem.W.Frag} {mg:Str→Option Value} {base:Heap} {x nm qual:Str} {params:Arguments} {body:List Stmt} {scope:Scope} {f C:Addr} {fd:FuncData}
/-- THE RULE for an __init__ -/
theorem FdI.of {N ps:List Str} {k:Nat} {S:Xj} {t:DS} (F:FunD K nm qual params body scope [] [] f fd) (M:Mk K C f) (gm:mg x=some (.ref C)) (Sc:FnScope N ps scope)
  (hb:∀ (kV doc pm:Value) (an:Option Addr) (cdv ct:Value) (us:List Value),us.length=ps.length→bindArgs (PySem.W.fnOf nm qual params body scope .none kV doc pm an cdv ct) ⟨us,[]⟩=pure (ps.zip us))
  (walk:∀ (cdv:Value) (A:Around) (outer:List PySem.Env) (s:Shared) (H:Hp) (E:XK),Room k (A.deeper (envOfC qual scope s.heap.objs.size f cdv))→PDB (cxOf CX0 P w K mg base N qual scope f cdv A outer s H E).nox body t)
  (hS:∀ ds K0,S ds K0→ds.length+1=ps.length∧∀ x,t (zpb C x K0) (zH N.length (.con (.ins C [] (some x)) .o []::ds))):FdI P w K mg base (k+1) x C S:=by
 refine ⟨f,fd,ps,F.ok (N:=N) Sc (fun vs H Q E h=>?_) (fun cdv A outer s H vs Q E hr h=>⟨_,PSs.nox (walk cdv A outer s H E hr),zmW hS h⟩),M,gm,F.bindsN hb⟩
 obtain ⟨P',M',ds,K0,x0,dx,us,rfl,s,_,_,_,r,pf,q,_⟩:=h
 have:=(hS _ _ q).1
 rw [List.length_cons,r.len]
 exact this
/-- THE RULE for a method -/
theorem FdM.of {N ps:List Str} {k:Nat} {S:zQ} {t:DS} {m:Str} (F:FunD K m qual params body scope [] [] f fd) (M:Meth K C m f) (Sc:FnScope N ps scope)
  (hb:∀ (kV doc pm:Value) (an:Option Addr) (cdv ct:Value) (us:List Value),us.length=ps.length→bindArgs (PySem.W.fnOf m qual params body scope .none kV doc pm an cdv ct) ⟨us,[]⟩=pure (ps.zip us))
  (walk:∀ (cdv:Value) (A:Around) (outer:List PySem.Env) (s:Shared) (H:Hp) (E:XK),Room k (A.deeper (envOfC qual scope s.heap.objs.size f cdv))→PDB (cxOf CX0 P w K mg base N qual scope f cdv A outer s H E).nox body t)
  (hS:∀ ds Q,S ds Q→ds.length=ps.length∧t (yU Q) (zH N.length ds)):FdM P w K mg base (k+1) C m S:=by
 refine ⟨f,fd,ps,F.ok (N:=N) Sc (fun vs H Q E h=>?_) (fun cdv A outer s H vs Q E hr h=>⟨_,PSs.nox (walk cdv A outer s H E hr),Q9 hS h⟩),M,F.bindsN hb⟩
 obtain ⟨P',M',ds,Q0,s,r,pf,q,_⟩:=h
 rw [r.len]
 exact (hS _ _ q).1
end
end DL
set_option maxHeartbeats 4000000
namespace DL
open PySem PySem.Spec PyProof.Rows L2
variable [Tb]
/-- what stands at a path,all along it one's own -/
def D.zmX:List Nat→D→Option D
 | [],d=>some d
 | k::π,.con _ .o xs=>(xs[k]?).bind (D.zmX π)
 | _::_,_=>none
def D.zhP:List Nat→D→D→D
 | [],_,e=>e
 | k::π,.con c .o xs,e=>.con c .o (xs.set k ((xs.getD k .non).zhP π e))
 | _::_,d,_=>d
/-- the way to the thing at a -/
def zsy (H:Hp):List Nat→D→V→Addr→Prop
 | [],_,v,a=>v=.ref a
 | k::π,.con c .o xs,v,a=>∃ b ws u,v=.ref b∧CtO H c b ws∧ws.length=xs.length∧ws[k]?=some u∧zsy H π (xs.getD k .non) u a
 | _::_,_,_,_=>False
section
variable {K:PySem.W.Frag} {P:zR} {M B M' B':List Addr} {H H':Hp}
/-- all but the thing at a stays represented -/
structure Frame (K:PySem.W.Frag) (P:zR) (M B M' B':List Addr) (H H':Hp) (a:Addr):Prop where
 rs:∀ (vs:List V) (ds:List D) (L:List Addr),zf K P M B H vs ds L→D.nbs ds=true→a∉L→zf K P M' B' H' vs ds L
 ct:∀ (c:Ct) (b:Addr) (ws:List V),CtO H c b ws→b≠a→b∉P.as→CtO H' c b ws
theorem Rep.atP {c:Ct} {xs:List D}:∀ {π:List Nat} {v:V} {d:D} {L:List Addr},Rep K P M B H v d L→L.Nodup→d.nb=true→D.zmX π d=some (.con c .o xs)→
  ∃ (a:Addr) (vs:List V) (A Lx Z:List Addr),L=A++((a::Lx)++Z)∧CtO H c a vs∧a∉P.as∧zf K P M B H vs xs Lx∧D.nbs xs=true∧(∀ H2,Gr P.as H H2→zsy H2 π d v a)∧
   ∀ (M' B':List Addr) (H':Hp) (c':Ct) (vs':List V) (xs':List D) (Lx':List Addr),Frame K P M B M' B' H H' a→CtO H' c' a vs'→zf K P M' B' H' vs' xs' Lx'→Rep K P M' B' H' v (d.zhP π (.con c' .o xs')) (A++((a::Lx')++Z))
 | [],v,d,L,h,nd,nb,e=>by
  have e:d=.con c .o xs:=by simpa [D.zmX] using e
  subst e
  cases h with
  | lstO hc hn r=>exact ⟨_,_,[],_,[],by simp,hc,hn,r,by simpa [D.nb] using nb,fun _ _=>rfl,fun M' B' H' c' vs' xs' Lx' fr hc' r'=>by
    show Rep K P M' B' H' _ (.con c' .o xs') _
    simpa using Rep.lstO hc' hn r'⟩
 | k::π,v,d,L,h,nd,nb,e=>by
  obtain ⟨c0,ys,rfl,dk,ek,e2⟩:∃ c0 ys,d=.con c0 .o ys∧∃ dk,ys[k]?=some dk∧D.zmX π dk=some (.con c .o xs):=by
   cases d with
   | con c0 fl ys=>
    cases fl with
    | o=>
     obtain ⟨dk,ek,e2⟩:=Option.bind_eq_some_iff.mp (show (ys[k]?).bind (D.zmX π)=some (.con c .o xs) from e)
     exact ⟨c0,ys,rfl,dk,ek,e2⟩
    | f=>cases e
    | b=>cases e
   | _=>cases e
  cases h with
  | @lstO _ b ws _ Ly hc hn r=>
    obtain ⟨vs1,u,vs2,ds1,ds2,L1,Lk,L2,rfl,rfl,k1,k2,rfl,r1,rk,r2⟩:=zf.split r ek
    obtain ⟨nb1,nL⟩:=List.nodup_cons.mp nd
    have nbx:D.nbs (ds1++dk::ds2)=true:=by simpa [D.nb] using nb
    have nK:=(List.nodup_append.mp (List.nodup_append.mp nL).2.1).1
    obtain ⟨a,vs,A,Lx,Z,rfl,ha,hap,ra,nba,way,back⟩:=Rep.atP (π:=π) rk nK (zlH nbx ek) e2
    have am:a∈A++((a::Lx)++Z):=jt a (List.mem_append_left _ (List.mem_cons_self ..))
    refine ⟨a,vs,b::(L1++A),Lx,Z++L2,by simp,ha,hap,ra,nba,fun H2 g=>⟨b,_,u,rfl,hc.gr g hn,by simpa using r.len,by rw [List.getElem?_append_right (by omega),k2,Nat.sub_self]; rfl,by rw [List.getD_eq_getElem?_getD,ek]; exact way H2 g⟩,fun M' B' H' c' vs' xs' Lx' fr hc' r'=>?_⟩
    have b1:a∉L1:=fun z=>(List.nodup_append.mp nL).2.2 a z a (List.mem_append_left _ am) rfl
    have b2:a∉L2:=fun z=>(List.nodup_append.mp (List.nodup_append.mp nL).2.1).2.2 a am a z rfl
    have bne:b≠a:=fun z=>nb1 (by rw [z]; exact jt a (List.mem_append_left _ am))
    have n1:D.nbs ds1=true:=zeS (List.sublist_append_left ..) nbx
    have n2:D.nbs ds2=true:=zeS ((List.sublist_cons_self ..).trans (List.sublist_append_right ..)) nbx
    have q1:=fr.rs _ _ _ r1 n1 b1
    have q2:=fr.rs _ _ _ r2 n2 b2
    have qk:=back M' B' H' c' vs' xs' Lx' fr hc' r'
    have eset:(ds1++dk::ds2).set k (((ds1++dk::ds2).getD k .non).zhP π (.con c' .o xs'))=ds1++dk.zhP π (.con c' .o xs')::ds2:=by
     have eg:(ds1++dk::ds2).getD k .non=dk:=by rw [List.getD_eq_getElem?_getD,ek]; rfl
     rw [eg,List.set_append_right _ _ (by omega),k1,Nat.sub_self]; rfl
    have fin:Rep K P M' B' H' (.ref b) (.con c0 .o (ds1++dk.zhP π (.con c' .o xs')::ds2)) (b::(L1++((A++((a::Lx')++Z))++L2))):=.lstO (fr.ct _ _ _ hc bne hn) hn (zf.app q1 (.cons qk q2))
    show Rep K P M' B' H' (.ref b) (.con c0 .o ((ds1++dk::ds2).set k (((ds1++dk::ds2).getD k .non).zhP π (.con c' .o xs')))) _
    rw [eset]
    simpa using fin
theorem zmY {a:Addr} {o:HO} (ha:Mo H a) (hm:a∈M):Frame K P M B M B H (L2.upd H a o) a:=
 ⟨fun _ _ _ r nb n=>zf.mut ha hm r nb n,fun c b ws h n _=>h.upd n⟩
/-- a thing of slot i's own is changed; T:temporaries that it may take over -/
theorem qN.put {σ:Sg} {ρ:Env} {T:List Addr} {i:Nat} {d:D} {π:List Nat} {c:Ct} {xs:List D} (s:Stt P M B H) (sl:qN K P M B H σ ρ T) (nb:qm ρ) (hT:∀ b∈T,b∈M∧b∉B) (ei:ρ[i]?=some (some d)) (eg:D.zmX π d=some (.con c .o xs)):
  ∃ a v vs Lx,σ[i]?=some (some v)∧(∀ H2,Gr P.as H H2→zsy H2 π d v a)∧CtO H c a vs∧a∈M∧a∉B∧a∉P.as∧a∉T∧zf K P M B H vs xs Lx∧D.nbs xs=true∧Lx.Nodup∧a∉Lx∧(∀ b∈Lx,b∈M∧b∉B∧b∉T)∧
   ∀ (o:HO) (c':Ct) (vs':List V) (xs':List D) (Lx':List Addr),Mu o→CtO (L2.upd H a o) c' a vs'→zf K P M B (L2.upd H a o) vs' xs' Lx'→D.nbs xs'=true→Lx'.Nodup→a∉Lx'→(∀ b∈Lx',b∈Lx∨b∈T)→(d.zhP π (.con c' .o xs')).nb=true→
    Stt P M B (L2.upd H a o)∧yJ P M B H P M (L2.upd H a o)∧Slots K P M B (L2.upd H a o) σ (ρ.set i (some (d.zhP π (.con c' .o xs'))))∧qm (ρ.set i (some (d.zhP π (.con c' .o xs')))):=by
 obtain ⟨hlen,F,h1,h2,h3,h4,h5⟩:=sl
 obtain ⟨v,e1,rv⟩:=h1 i d ei
 obtain ⟨a,vs,A,Lx,Z,eL,ha,hap,ra,nba,way,back⟩:=Rep.atP rv (h3 i) (nb i d ei) eg
 have mem:∀ b∈A++((a::Lx)++Z),b∈M∧b∉B∧b∉T:=fun b z=>by
  rw [← eL] at z
  exact ⟨(h2 i b z).1,(h2 i b z).2,h5 i b z⟩
 have am:a∈A++((a::Lx)++Z):=jt a (List.mem_append_left _ (List.mem_cons_self ..))
 have nd:(A++((a::Lx)++Z)).Nodup:=by rw [← eL]; exact h3 i
 have ndx:=(List.nodup_append.mp (List.nodup_append.mp nd).2.1).1
 obtain ⟨nax,nLx⟩:=List.nodup_cons.mp ndx
 refine ⟨a,v,vs,Lx,e1,way,ha,(mem a am).1,(mem a am).2.1,hap,(mem a am).2.2,ra,nba,nLx,nax,fun b z=>mem b (jt b (List.mem_append_left _ (List.mem_cons_of_mem _ z))),fun o c' vs' xs' Lx' mu hc' r' nb' n' na' sub nbd=>?_⟩
 have aM:=(mem a am).1
 have aB:=(mem a am).2.1
 have mo:=ha.mo
 have rn:=back M B (L2.upd H a o) c' vs' xs' Lx' (zmY mo aM) hc' r'
 have hi:i < ρ.length:=(List.getElem?_eq_some_iff.mp ei).1
 have up:∀ b∈A++((a::Lx')++Z),b∈A++((a::Lx)++Z)∨b∈T:=fun b z=>by
  rcases List.mem_append.mp z with z | z
  ·exact .inl (List.mem_append_left _ z)
  ·rcases List.mem_append.mp z with z | z
   ·rcases List.mem_cons.mp z with z | z
    ·rw [z]; exact .inl am
    ·exact (sub b z).elim (fun q=>.inl (jt b (List.mem_append_left _ (List.mem_cons_of_mem _ q)))) .inr
   ·exact .inl (jt b (List.mem_append_right _ z))
 have tn:∀ b∈T,b∉A++((a::Lx)++Z):=fun b hb z=>(mem b z).2.2 hb
 have nd':(A++((a::Lx')++Z)).Nodup:=by
  obtain ⟨x1,x2,x3⟩:=List.nodup_append.mp nd
  obtain ⟨y1,y2,y3⟩:=List.nodup_append.mp x2
  have w1:∀ b∈a::Lx',b∈a::Lx∨b∈T:=fun b z=>(List.mem_cons.mp z).elim (fun e=>.inl (by rw [e]; exact List.mem_cons_self ..)) fun z=>(sub b z).elim (fun q=>.inl (List.mem_cons_of_mem _ q)) .inr
  refine List.nodup_append.mpr ⟨x1,List.nodup_append.mpr ⟨List.nodup_cons.mpr ⟨na',n'⟩,y2,fun b z e z'=>?_⟩,fun b z e z'=>?_⟩
  ·rcases w1 b z with q | q
   ·exact y3 b q e z'
   ·exact fun x=>tn b q (jt b (List.mem_append_right _ (x ▸ z')))
  ·rcases List.mem_append.mp z' with q | q
   ·rcases w1 e q with q | q
    ·exact x3 b z e (List.mem_append_left _ q)
    ·exact fun x=>tn e q (List.mem_append_left _ (x ▸ z))
   ·exact x3 b z e (List.mem_append_right _ q)
 have s':Stt P M B (L2.upd H a o):=⟨s.zM.mut aM,s.sub,fun b z=>(s.ls b z).upd mu,fun x z=>(s.tabs x z).mo mo⟩
 refine ⟨s',⟨fun b u hb n1 n2=>?_,fun _ z=>z,fun _ z=>.inl z,fun _ z=>.inl z,fun b hb=>?_,fun x q _ t=>t.mo mo⟩,⟨by rw [List.length_set]; exact hlen,fun j=>if j=i then A++((a::Lx')++Z) else F j,fun j e ej=>?_,fun j b z=>?_,fun j=>?_,fun j m b z z'=>?_⟩,fun j e ej=>?_⟩
 ·have ne:b≠a:=fun q=>by
   subst q
   exact n2.elim (fun w=>w aM) fun w=>aB w
  exact GrO.of (by rw [upd_ne ne]; exact hb)
 ·by_cases q:b=a
  ·rw [q,upd_same]; intro z; cases z
  ·rw [upd_ne q]; exact hb
 ·rw [List.getElem?_set] at ej
  by_cases hj:i=j
  ·subst hj
   rw [if_pos rfl,if_pos hi] at ej
   cases ej
   exact ⟨v,e1,by simp only [if_true]; exact rn⟩
  ·rw [if_neg hj] at ej
   obtain ⟨u,e2,rr⟩:=h1 j e ej
   have hji:¬j=i:=fun q=>hj q.symm
   refine ⟨u,e2,?_⟩
   simp only [if_neg hji]
   exact Rep.mut mo aM rr (nb j e ej) fun z=>hji (h4 j i a z (by rw [eL]; exact am))
 ·dsimp only at z
  split at z
  ·rcases up b z with q | q
   ·exact ⟨(mem b q).1,(mem b q).2.1⟩
   ·exact hT b q
  ·exact h2 j b z
 ·dsimp only
  split
  ·exact nd'
  ·exact h3 j
 ·dsimp only at z z'
  by_cases hj:j=i
  ·by_cases hm:m=i
   ·rw [hj,hm]
   ·rw [if_pos hj] at z
    rw [if_neg hm] at z'
    rcases up b z with q | q
    ·exact hj ▸ h4 i m b (by rw [eL]; exact q) z'
    ·exact absurd q (h5 m b z')
  ·rw [if_neg hj] at z
   by_cases hm:m=i
   ·rw [if_pos hm] at z'
    rcases up b z' with q | q
    ·exact hm ▸ h4 j i b z (by rw [eL]; exact q)
    ·exact absurd q (h5 j b z)
   ·rw [if_neg hm] at z'
    exact h4 j m b z z'
 ·rw [List.getElem?_set] at ej
  by_cases hj:i=j
  ·subst hj
   rw [if_pos rfl,if_pos hi] at ej
   cases ej
   exact nbd
  ·rw [if_neg hj] at ej
   exact nb j e ej
end
end DL
set_option maxHeartbeats 4000000
namespace DL
open PySem PySem.Spec PyProof.Rows L2
end DL
set_option maxHeartbeats 4000000
namespace DL
open PySem PySem.Spec PyProof.Rows L2
end DL
set_option maxHeartbeats 4000000
namespace DL
open PySem PySem.Spec PyProof.Rows L2
end DL
set_option maxHeartbeats 4000000
namespace DL
open PySem PySem.Spec PyProof.Rows L2
end DL
set_option maxHeartbeats 4000000
namespace DL
open PySem PySem.Spec PyProof.Rows L2
end DL
set_option maxHeartbeats 4000000
namespace DL
open PySem PySem.Spec PyProof.Rows L2
variable [Tb]
section
variable {α τ:Type}
def f0:Unit→List D:=fun _=>[]
def f1 (a:α→D):α→List D:=fun x=>[a x]
def fC (a:α→D) (fs:τ→List D):α×τ→List D:=fun x=>a x.1::fs x.2
/-- an instance,by its fields -/
def eN (c:Ct) (k:Fl) (fs:τ→List D):τ→D:=fun x=>.con c k (fs x)
class PfL (fs:τ→List D):Prop where
 h:∀ x,D.pfs (fs x)=true
 np:∀ x,D.nps (fs x)=true
class NbL (fs:τ→List D):Prop where
 h:∀ x,D.nbs (fs x)=true
class NpL (fs:τ→List D):Prop where
 h:∀ x,D.nps (fs x)=true
class VwL (fs fs':τ→List D):Prop where
 h:∀ x,D.vws (fs x)=fs' x
class FzL (fs fs':τ→List D):Prop where
 h:∀ x,D.fzs (fs x)=fs' x
class RtL (fs fs':τ→List D):Prop where
 h:∀ x,D.rts (fs x)=fs' x
class WkL (fs fs':τ→List D):Prop where
 h:∀ x,D.wks (fs x)=fs' x
variable {a a':α→D} {fs fs':τ→List D}
instance:PfL f0:=⟨fun _=>rfl,fun _=>rfl⟩
instance [Pf a]:PfL (f1 a):=⟨fun x=>by show ((a x).pf&&true)=true; rw [Pf.h]; rfl,fun x=>by show ((a x).np&&true)=true; rw [Pf.np]; rfl⟩
instance [Pf a] [PfL fs]:PfL (fC a fs):=⟨fun x=>by show ((a x.1).pf&&D.pfs (fs x.2))=true; rw [Pf.h,PfL.h]; rfl,fun x=>by show ((a x.1).np&&D.nps (fs x.2))=true; rw [Pf.np,PfL.np]; rfl⟩
instance:NbL f0:=⟨fun _=>rfl⟩
instance [Nb a]:NbL (f1 a):=⟨fun x=>by show ((a x).nb&&true)=true; rw [Nb.h]; rfl⟩
instance [Nb a] [NbL fs]:NbL (fC a fs):=⟨fun x=>by show ((a x.1).nb&&D.nbs (fs x.2))=true; rw [Nb.h,NbL.h]; rfl⟩
instance:NpL f0:=⟨fun _=>rfl⟩
instance [Np a]:NpL (f1 a):=⟨fun x=>by show ((a x).np&&true)=true; rw [Np.h]; rfl⟩
instance [Np a] [NpL fs]:NpL (fC a fs):=⟨fun x=>by show ((a x.1).np&&D.nps (fs x.2))=true; rw [Np.h,NpL.h]; rfl⟩
instance:VwL f0 f0:=⟨fun _=>rfl⟩
instance [Vw a a']:VwL (f1 a) (f1 a'):=⟨fun x=>by show [(a x).vw]=[a' x]; rw [Vw.h (e:=a) (e':=a')]⟩
instance [Vw a a'] [VwL fs fs']:VwL (fC a fs) (fC a' fs'):=⟨fun x=>by show (a x.1).vw::D.vws (fs x.2)=a' x.1::fs' x.2; rw [Vw.h (e:=a) (e':=a'),VwL.h (fs:=fs) (fs':=fs')]⟩
instance:FzL f0 f0:=⟨fun _=>rfl⟩
instance [Fz a a']:FzL (f1 a) (f1 a'):=⟨fun x=>by show [(a x).fz]=[a' x]; rw [Fz.h (e:=a) (e':=a')]⟩
instance [Fz a a'] [FzL fs fs']:FzL (fC a fs) (fC a' fs'):=⟨fun x=>by show (a x.1).fz::D.fzs (fs x.2)=a' x.1::fs' x.2; rw [Fz.h (e:=a) (e':=a'),FzL.h (fs:=fs) (fs':=fs')]⟩
instance:RtL f0 f0:=⟨fun _=>rfl⟩
instance [Rt a a']:RtL (f1 a) (f1 a'):=⟨fun x=>by show [(a x).rt]=[a' x]; rw [Rt.h (e:=a) (e':=a')]⟩
instance [Rt a a'] [RtL fs fs']:RtL (fC a fs) (fC a' fs'):=⟨fun x=>by show (a x.1).rt::D.rts (fs x.2)=a' x.1::fs' x.2; rw [Rt.h (e:=a) (e':=a'),RtL.h (fs:=fs) (fs':=fs')]⟩
instance:WkL f0 f0:=⟨fun _=>rfl⟩
instance [WkC a a']:WkL (f1 a) (f1 a'):=⟨fun x=>by show [(a x).wk]=[a' x]; rw [WkC.h (e:=a) (e':=a')]⟩
instance [WkC a a'] [WkL fs fs']:WkL (fC a fs) (fC a' fs'):=⟨fun x=>by show (a x.1).wk::D.wks (fs x.2)=a' x.1::fs' x.2; rw [WkC.h (e:=a) (e':=a'),WkL.h (fs:=fs) (fs':=fs')]⟩
variable {c:Ct}
instance [PfL fs]:Pf (eN c .f fs):=⟨fun x=>by show (true&&D.pfs (fs x))=true; rw [PfL.h]; rfl,fun x=>PfL.np (fs:=fs) x⟩
instance [NbL fs]:Nb (eN c .o fs):=⟨fun x=>NbL.h (fs:=fs) x⟩
instance {k:Fl} [NpL fs]:Np (eN c k fs):=⟨fun x=>NpL.h (fs:=fs) x⟩
instance [VwL fs fs']:Vw (eN c .o fs) (eN c .b fs'):=⟨fun x=>by show D.con c .b (D.vws (fs x))=_; rw [VwL.h (fs:=fs) (fs':=fs')]; rfl⟩
instance:Vw (eN c .b fs) (eN c .b fs):=⟨fun _=>rfl⟩
instance:Vw (eN c .f fs) (eN c .f fs):=⟨fun _=>rfl⟩
instance:Fz (eN c .f fs) (eN c .f fs):=⟨fun _=>rfl⟩
instance [FzL fs fs']:Fz (eN c .o fs) (eN c .f fs'):=⟨fun x=>by show D.con c .f (D.fzs (fs x))=_; rw [FzL.h (fs:=fs) (fs':=fs')]; rfl⟩
instance [FzL fs fs']:Fz (eN c .b fs) (eN c .f fs'):=⟨fun x=>by show D.con c .f (D.fzs (fs x))=_; rw [FzL.h (fs:=fs) (fs':=fs')]; rfl⟩
instance [RtL fs fs']:Rt (eN c .o fs) (eN c .o fs'):=⟨fun x=>by show D.con c .o (D.rts (fs x))=_; rw [RtL.h (fs:=fs) (fs':=fs')]; rfl⟩
instance:Rt (eN c .f fs) (eN c .f fs):=⟨fun _=>rfl⟩
instance [FzL fs fs']:Rt (eN c .b fs) (eN c .f fs'):=⟨fun x=>by show D.con c .f (D.fzs (fs x))=_; rw [FzL.h (fs:=fs) (fs':=fs')]; rfl⟩
instance [WkL fs fs']:WkC (eN c .o fs) (eN c .o fs'):=⟨fun x=>by show D.con c .o (D.wks (fs x))=_; rw [WkL.h (fs:=fs) (fs':=fs')]; rfl⟩
instance [WkL fs fs']:WkC (eN c .f fs) (eN c .b fs'):=⟨fun x=>by show D.con c .b (D.wks (fs x))=_; rw [WkL.h (fs:=fs) (fs':=fs')]; rfl⟩
instance [WkL fs fs']:WkC (eN c .b fs) (eN c .b fs'):=⟨fun x=>by show D.con c .b (D.wks (fs x))=_; rw [WkL.h (fs:=fs) (fs':=fs')]; rfl⟩
instance:FlC true (eN c .f fs):=⟨fun _=>rfl⟩
instance:FlC false (eN c .o fs):=⟨fun _=>rfl⟩
instance:FlC false (eN c .b fs):=⟨fun _=>rfl⟩
end
end DL
set_option maxHeartbeats 4000000
namespace DL
open PySem PySem.Spec PyProof.Rows L2
end DL
set_option maxHeartbeats 4000000
namespace DL
open PySem PySem.Spec PyProof.Rows L2
end DL
set_option maxHeartbeats 4000000
namespace DL
open PySem PySem.Spec PyProof.Rows L2
end DL
set_option maxHeartbeats 4000000
namespace DL
open PySem PySem.Spec PyProof.Rows L2
variable [Tb]
/-- C(..),a level below -/
def zuz (P:Program) (w:World) (K:PySem.W.Frag) (mg:Str→Option Value) (base:Heap) (k:Nat) (x:Str) (C:Addr) (S:Xj):Prop:=∃ j,j+1≤k∧FdI P w K mg base j x C S
theorem FdI.s {P:Program} {w:World} {K:PySem.W.Frag} {mg:Str→Option Value} {base:Heap} {k j:Nat} {x:Str} {C:Addr} {S:Xj} (F:FdI P w K mg base j x C S) (h:j+1≤k):zuz P w K mg base k x C S:=⟨j,h,F⟩
theorem qm.set {ρ:Env} {d:D} (e:qm ρ) (h:d.nb=true) (i:Nat):qm (ρ.set i (some d)):=by
 intro j c q
 rw [List.getElem?_set] at q
 by_cases hj:i=j
 ·subst hj
  rw [if_pos rfl] at q
  split at q
  ·cases q; exact h
  ·cases q
 ·rw [if_neg hj] at q
  exact e j c q
end DL
set_option maxHeartbeats 4000000
namespace DL
open PySem PySem.Spec PyProof.Rows L2
end DL
set_option maxHeartbeats 4000000
namespace DL
open PySem PySem.Spec PyProof.Rows L2
end DL
set_option maxHeartbeats 4000000
namespace DL
open PySem PySem.Spec PyProof.Rows L2
end DL
set_option maxHeartbeats 1000000
namespace DLm
open PySem
end DLm
set_option maxHeartbeats 1000000
namespace DL
open PySem PySem.Spec PyProof.Rows L2
end DL
namespace DL
open PySem PySem.Spec PyProof.Rows L2
end DL
set_option maxHeartbeats 4000000
namespace DL
open PySem PySem.Spec PyProof.Rows L2
end DL
set_option maxHeartbeats 4000000
namespace DL
open PySem PySem.Spec PyProof.Rows L2
variable [Tb]
/-- unlike ints,rising -/
def zeA (l:List Int):List Int:=(zc9 l).mergeSort (xU ltI)
theorem za3 {a b:Int}:xU ltI a b=true↔a≤b:=by
 show (!decide (b < a))=true↔_
 rw [Bool.not_eq_true',decide_eq_false_iff_not,Int.not_lt]
theorem zmZ (a b:Int):(xU ltI a b||xU ltI b a)=true:=by
 rw [Bool.or_eq_true,za3,za3]
 exact Int.le_total a b
theorem zpc {l:List Int} {p:Int}:p∈zeA l↔p∈l:=by
 unfold zeA
 rw [(List.mergeSort_perm _ _).mem_iff,zay]
theorem zhQ (l:List Int):(zeA l).Pairwise (·< ·):=by
 have n:(zeA l).Nodup:=(List.mergeSort_perm _ _).nodup_iff.mpr (Jv l)
 have p:(zeA l).Pairwise fun a b=>xU ltI a b=true:=List.pairwise_mergeSort (le:=xU ltI) (fun a b c h h'=>za3.mpr (Int.le_trans (za3.mp h) (za3.mp h'))) zmZ _
 exact (List.pairwise_and_iff.mpr ⟨p,n⟩).imp fun {a b} z=>by
  have:=za3.mp z.1
  have:=z.2
  omega
/-- what rises and has the same members is it -/
theorem zlU {l m:List Int} (pw:m.Pairwise (·< ·)) (hm:∀ p,p∈m↔p∈l):m=zeA l:=by
 refine List.Perm.eq_of_pairwise (le:=fun a b:Int=>a < b) (fun a b _ _ h1 h2=>by omega) pw (zhQ l) ((List.perm_ext_iff_of_nodup (pw.imp fun z=>by omega) ((zhQ l).imp fun z=>by omega)).mpr fun p=>by rw [hm,zpc])
def zcw:D1
 | .con .l _ xs,Q=>∃ ns:List Int,xs=ns.map D.int∧ns.length < 64∧Q (.con .l .o ((zeA ns).map D.int))
 | _,_=>False
section
variable {X:Cx} {a:Expr} {ta:DT} {p p2 q pos:Pos}
theorem zjc (hc:X.calm=true) (hm:X.mg "sorted"=none) (hm2:X.mg "set"=none) (ha:PD X a ta) (hg:Gl X "sorted":=by rfl) (hg2:Gl X "set":=by rfl) (na:starEach [a] X.env=(false,eval a X.env)::starEach [] X.env:=by rfl):
  PD X (.Call (.Name "sorted" p) [.Call (.Name "set" p2) [a] [] q] [] pos) (dUn (o1 zcw) ta):=
 mPE (pe_callB (cr_sortedSet hc) hg hm zc1 (pa_cons (pe_callTy (zqA hc) hg2 hm2 zrQ (pa_cons ha pa_nil na) (he:=na)) pa_nil)) fun σ H Q h=>by
 refine Zj (Xq h) fun v H1 h1=>?_
 refine to1 h1 fun P M B v' d L Q0 ev A r f k'=>?_
 injection ev with ev _
 subst ev
 unfold zcw at f
 split at f
 ·obtain ⟨ns,rfl,hl,q⟩:=f
  obtain ⟨a1,vs,L',rfl,hq,rr,_⟩:=r.lst_inv
  obtain rfl:vs=ns.map V.int:=zc2 rr
  refine ⟨a1,ns,rfl,hq,hl,fun b c hc' hb=>?_⟩
  have g2:Gr P.as H1 (upd H1 b (SetO X.w b (fun j=>decide (j∈ns)) c)):=Gr.laid hb
  refine ⟨b,_,c,rfl,upd_same,by omega,fun L2 c2 pw hm2 _ hc2=>k' _ _ ?_⟩
  have p2:zF P (L++M) (upd H1 b (SetO X.w b (fun j=>decide (j∈ns)) c)):=A.stt.zM.laid hb
  have r2:=zf.gr g2 A.stt.lists (fun a z=>.inl z) (fun a z=>.inl z) A.reps
  have A2:Args X.K P M B (upd H1 b (SetO X.w b (fun j=>decide (j∈ns)) c)) [.ref a1] _ L:=⟨A.base.after g2 p2 fun a z=>(zf.own r2 a z).1,r2,A.nd,A.sub,A.out⟩
  have e:L2=zeA ns:=zlU pw fun k=>(hm2 k).trans (by rw [decide_eq_true_eq])
  subst e
  obtain ⟨c,Lr,q0,g',p',r',n',f'⟩:=A2.zgp hc2 (zc3 _) (fun a z=>nomatch z) List.nodup_nil q
  exact ⟨c,Lr,q0,g2.trans g',p',r',n',fun a z=>(f' a z).imp (fun z=>g2.nil p2 z) id⟩
 ·exact f.elim
end
theorem zkK {f:Fl} {l:List Int} (h:l.length < 64):Op (o1 zcw) [eL f eI l] (eL .o eI (zeA l)):=fun Q q=>⟨l,rfl,h,q⟩
end DL
set_option maxHeartbeats 4000000
namespace DL
open PySem PySem.Spec PyProof.Rows L2
end DL
set_option maxHeartbeats 4000000
set_option exponentiation.threshold 50000
namespace DL
open PySem PySem.Spec PyProof.Rows L2
end DL
set_option maxHeartbeats 4000000
namespace DL
open PySem PySem.Spec PyProof.Rows L2
variable [Tb]
section
variable {K:PySem.W.Frag} {P:zR} {M M' B B' N:List Addr} {H H':Hp} {v:V} {d:D} {L:List Addr} {σ:Sg} {ρ:Env} {ds:List D} {J:It}
theorem Slots.zeB {c:Addr} {o:HO} (h:Slots K P M B H σ ρ) (hc:Mo H c) (hm:c∈M) (hb:c∈B):Slots K P M B (upd H c o) σ ρ:=by
 obtain ⟨hl,F,h1,h2,h3,h4⟩:=h
 refine ⟨hl,F,fun i d e=>?_,h2,h3,h4⟩
 obtain ⟨v,e1,r⟩:=h1 i d e
 exact ⟨v,e1,Rep.X5 hc hm hb r fun z=>(h2 i _ z).2 hb⟩
theorem Src.zeB {c:Addr} {o:HO} (h:Src K P (P.as++B) M B H ds J) (hc:Mo H c) (hm:c∈M) (hb:c∈B):Src K P (P.as++B) M B (upd H c o) ds J:=by
 have f:∀ {a vs},SqF K (P.as++B) H a vs→SqF K (P.as++B) (upd H c o) a vs:=fun h=>SqF.upd h (List.mem_append_right _ hb)
 have r:∀ {vs ds},zf K P M B H vs ds []→zf K P M B (upd H c o) vs ds []:=fun h=>zf.X5 hc hm hb h (by simp)
 cases h with
 | gen f=>exact .gen fun H2 k=>f H2 ((Kp.mo hc).trans k)
 | lst h1 h2=>exact .lst (f h1) (r h2)
 | tup h1 h2=>exact .tup (TpT.upd h1 hc) (r h2)
 | str=>exact .str
 | rng=>exact .rng
 | rdn=>exact .rdn
 | enum h1 h2=>exact .enum (f h1) (r h2)
 | zipL h1 h2 h3 h4=>exact .zipL (f h1) (r h2) (f h3) (r h4)
 | zipS h1 h2 h3 h4 h5=>exact .zipS (f h1) (r h2) (f h3) (r h4) h5
 | zipX h3 h4 h5=>exact .zipX (f h3) (r h4) h5
 | zipT h1 h2 h3 h4=>exact .zipT (TpT.upd h1 hc) (r h2) (TpT.upd h3 hc) (r h4)
theorem Stt.zeB {c:Addr} {o:HO} (s:Stt P M B H) (hm:c∈M) (mu:Mu o):Stt P M B (upd H c o):=
 ⟨s.zM.mut hm,s.sub,fun a z=>(s.ls a z).upd mu,fun x z=>(s.tabs x z).mo (s.ls c hm)⟩
end
/-- where a dict comprehension stands:H0 ahead of all,Hb where the clause began,T what is new since -/
structure DI (K:PySem.W.Frag) (P:zR) (M B:List Addr) (H0 Hb:Hp) (A:Addr) (T:List Addr) (H:Hp) (acc:List (List Key×D)):Prop where
 am:A∈M
 ab:A∈B
 new:∀ a∈T,Hb a=none
 own:∀ a∈T,Mo H a
 st:∃ vs Lv,H A=some (.dT ((acc.map (·.1)).zip vs))∧acc.length=vs.length∧zf K P (T++M) (T++B) H vs (acc.map (·.2)) Lv∧Lv.Nodup∧A∉Lv∧(∀ a∈Lv,(a∈T∨a∈M)∧H0 a=none)
 gr:Gr (A::P.as) Hb H
 zM:zF P (T++M) H
 tr:∀ a,H a=none→H0 a=none
section
variable {K:PySem.W.Frag} {P:zR} {M B N L T:List Addr} {H H' H0 Hb Hc:Hp} {σ:Sg} {ρ:Env} {v:V} {d:D} {ds:List D} {J:It} {A:Addr} {acc acc':List (List Key×D)}
theorem DI.mo (I:DI K P M B H0 Hb A T H acc):Mo H A:=by
 obtain ⟨vs,Lv,e,_⟩:=I.st
 exact ⟨_,e,.dT⟩
theorem DI.mid (I:DI K P M B H0 Hb A T H acc) (s:Stt P M B Hb):∃ o,Mu o∧Gr P.as (upd Hb A o) H:=by
 obtain ⟨vs,Lv,e,_⟩:=I.st
 refine ⟨.dT ((acc.map (·.1)).zip vs),.dT,fun b o hb n=>?_,fun b q mT t=>I.gr.tab b q mT ?_⟩
 ·by_cases h:b=A
  ·subst h
   rw [upd_same] at hb
   cases hb
   exact GrO.of e
  ·rw [upd_ne h] at hb
   exact I.gr b o hb fun z=>(List.mem_cons.mp z).elim h n
 ·exact jo.unset (o:=.dT ((acc.map (·.1)).zip vs)) (fun _ z=>(nomatch z)) (fun _ _ z=>(nomatch z)) t
theorem DI.zkL (I:DI K P M B H0 Hb A T H acc) (s:Stt P M B Hb) {o:HO}:∀ a∈T,upd Hb A o a=none:=fun a z=>by
 have n:=I.new a z
 rw [upd_ne (fun e=>by rw [e] at n; exact (s.trk A I.am) n)]
 exact n
theorem DI.stt (I:DI K P M B H0 Hb A T H acc) (s:Stt P M B Hb):Stt P (T++M) (T++B) H:=by
 obtain ⟨o,mu,g⟩:=I.mid s
 exact (s.zeB I.am mu).after g I.zM I.own
theorem DI.slots (I:DI K P M B H0 Hb A T H acc) (s:Stt P M B Hb) (sl:Slots K P M B Hb σ ρ):Slots K P (T++M) (T++B) H σ ρ:=by
 obtain ⟨o,mu,g⟩:=I.mid s
 exact Slots.after (s.zeB I.am mu) (sl.zeB (s.ls A I.am) I.am I.ab) g (I.zkL s)
theorem DI.wk (I:DI K P M B H0 Hb A T H acc) (s:Stt P M B Hb) (src:Src K P (P.as++B) M B Hb ds J):Wk K P (T++M) (T++B) H ds J:=by
 obtain ⟨o,mu,g⟩:=I.mid s
 exact ((src.zeB (s.ls A I.am) I.am I.ab).gr (s.zeB I.am mu).lists g (yx (I.zkL s)) (yx (I.zkL s))).now (I.stt s).lists
theorem DI.keep (I:DI K P M B H0 Hb A T H acc) (s:Stt P M B Hb) (g:Gr P.as H H') (q:zF P (T++M) H'):DI K P M B H0 Hb A T H' acc:=by
 obtain ⟨vs,Lv,e,l,r,n,na,f⟩:=I.st
 have np:A∉P.as:=s.np A I.am
 refine ⟨I.am,I.ab,I.new,fun a z=>(I.own a z).gr g ((I.stt s).np a (List.mem_append_left _ z)),⟨vs,Lv,(g _ _ e np),l,zf.gr g (I.stt s).lists (fun _ z=>.inl z) (fun _ z=>.inl z) r,n,na,f⟩,I.gr.trans (g.sub fun _ z=>List.mem_cons_of_mem _ z),q,fun a z=>I.tr a (g.nil q z)⟩
theorem DI.fresh (I:DI K P M B H0 Hb A T H acc) {a:Addr} (h:H a=none):Hb a=none:=by
 cases e:Hb a with
 | none=>rfl
 | some o=>
  exfalso
  by_cases ha:a∈A::P.as
  ·rcases List.mem_cons.mp ha with z | z
   ·exact I.mo.trk (by rw [← z]; exact h)
   ·obtain ⟨xs,q⟩:=I.zM.lst z
    rw [h] at q; cases q
  ·exact (I.gr a o e ha).trk h
/-- and ends -/
theorem DI.trans {T2:List Addr} (I:DI K P M B H0 Hb A T Hc acc) (J:DI K P (T++M) (T++B) H0 Hc A T2 H acc'):DI K P M B H0 Hb A (T2++T) H acc':=by
 obtain ⟨vs,Lv,e,l,rs,nv,na,fv⟩:=J.st
 refine ⟨I.am,I.ab,fun a z=>?_,fun a z=>?_,⟨vs,Lv,e,l,by rw [List.append_assoc,List.append_assoc]; exact rs,nv,na,fun a z=>⟨?_,(fv a z).2⟩⟩,I.gr.trans J.gr,by rw [List.append_assoc]; exact J.zM,J.tr⟩
 ·rcases List.mem_append.mp z with z | z
  ·exact I.fresh (J.new a z)
  ·exact I.new a z
 ·rcases List.mem_append.mp z with z | z
  ·exact J.own a z
  ·by_cases q:a=A
   ·rw [q]; exact J.mo
   ·exact (I.own a z).gr J.gr fun y=>(List.mem_cons.mp y).elim q fun y=>by
     obtain ⟨l,hl⟩:=zR.mem y
     exact (I.zM a l hl).1 (List.mem_append_left _ z)
 ·rcases (fv a z).1 with q | q
  ·exact .inl (List.mem_append_left _ q)
  ·exact (List.mem_append.mp q).imp (fun y=>List.mem_append_right _ y) id
end
section
variable {K:PySem.W.Frag} {P:zR} {M B N L T:List Addr} {H H' H0 Hb Hc:Hp} {σ:Sg} {ρ:Env} {v:V} {d:D} {ds:List D} {J:It} {A:Addr} {acc acc':List (List Key×D)}
theorem DI.start {M0 B0:List Addr} (hA:H0 A=none) (s0:Stt P M0 B0 H0):Stt P (A::M0) (A::B0) (upd H0 A (.dT []))∧DI K P (A::M0) (A::B0) H0 (upd H0 A (.dT [])) A [] (upd H0 A (.dT [])) []:=by
 have np:zF P (A::M0) (upd H0 A (.dT [])):=(s0.zM.grow (M':=A::M0) fun a z=>(List.mem_cons.mp z).elim (fun e=>.inr (by rw [e]; exact hA)) .inl).laid hA
 have g:Gr P.as H0 (upd H0 A (.dT [])):=Gr.laid hA
 have st:=s0.after (Lr:=[A]) g np (fun a z=>by
  rw [List.mem_singleton.mp z]
  exact ⟨_,upd_same,.dT⟩)
 refine ⟨st,List.mem_cons_self ..,List.mem_cons_self ..,fun _ z=>(nomatch z),fun _ z=>(nomatch z),⟨[],[],upd_same,rfl,.nil,List.nodup_nil,(fun z=>nomatch z),fun _ z=>(nomatch z)⟩,Gr.refl,np,fun a z=>?_⟩
 by_cases e:a=A
 ·rw [e]; exact hA
 ·rw [upd_ne e] at z; exact z
end
end DL
set_option maxHeartbeats 4000000
set_option exponentiation.threshold 50000
namespace DL
open PySem PySem.Spec PyProof.Rows L2
variable [Tb]
/-- but for a lock at a the heaps are alike -/
structure Lk (a:Addr) (u:HO) (H H':Hp):Prop where
 mu:Mu u
 l:Rd H a u
 r:Rd H' a u
 s:∀ b,b≠a→H' b=H b
 nl:∀ xs,u≠.lst xs
theorem Lk.symm {a:Addr} {u:HO} {H H':Hp} (k:Lk a u H H'):Lk a u H' H:=⟨k.mu,k.r,k.l,fun b n=>(k.s b n).symm,k.nl⟩
theorem Mu.nf {u:HO} (m:Mu u):(∀ o x,u≠.frz o x)∧(∀ xs,u≠.tup xs)∧(∀ xs,u≠.xd xs)∧(∀ xs,u≠.tbl xs)∧∀ x,u≠.own x:=by
 refine ⟨fun o x z=>?_,fun xs z=>?_,fun xs z=>?_,fun xs z=>?_,fun x z=>?_⟩ <;> (subst z; cases m)
theorem Mu.mut {u:HO} (m:Mu u):Mut (some u):=by
 cases m <;> exact True.intro
section
variable {K:PySem.W.Frag} {P:zR} {M B N L:List Addr} {H H':Hp} {a:Addr} {u:HO} {σ:Sg} {ρ:Env}
theorem Lk.rd (k:Lk a u H H') {b:Addr} {o:HO} (n:∀ x y,o≠.frz x y) (h:Rd H b o):Rd H' b o:=by
 by_cases e:b=a
 ·subst e
  have e:o=u:=by
   rcases k.l with l | ⟨x,l⟩ <;> rcases h with h | ⟨y,h⟩ <;> rw [l] at h
   ·exact (Option.some.inj h).symm
   ·exact absurd (Option.some.inj h) (k.mu.nf.1 _ _)
   ·exact absurd (Option.some.inj h).symm (n _ _)
   ·have:=Option.some.inj h
    injection this with _ e
    exact e.symm
  rw [e]; exact k.r
 ·rcases h with h | ⟨y,h⟩
  ·exact .inl (by rw [k.s b e]; exact h)
  ·exact .inr ⟨y,by rw [k.s b e]; exact h⟩
theorem Lk.ne (k:Lk a u H H') {b:Addr} {o:HO} (h:H b=some o) (n:o≠u) (n2:∀ x,o≠.frz x u):b≠a:=fun e=>by
 subst e
 rcases k.l with l | ⟨x,l⟩ <;> rw [l] at h
 ·exact n (Option.some.inj h).symm
 ·exact n2 _ (Option.some.inj h).symm
theorem Lk.tp (k:Lk a u H H') {b:Addr} {xs:List V} (h:TpT K H b xs):TpT K H' b xs:=by
 unfold TpT
 rw [k.s b (k.ne h (fun z=>k.mu.nf.2.1 _ z.symm) fun _ z=>nomatch z)]
 exact h
theorem Lk.xd (k:Lk a u H H') {b:Addr} {fs:List (Str×V)} (h:H b=some (.xd fs)):H' b=some (.xd fs):=by
 rw [k.s b (k.ne h (fun z=>k.mu.nf.2.2.1 _ z.symm) fun _ z=>nomatch z)]
 exact h
theorem Lk.mo (k:Lk a u H H') {b:Addr} (n:b≠a) (h:Mo H b):Mo H' b:=by
 unfold Mo
 rw [k.s b n]; exact h
theorem ztV (c:Ct) (dx:Addr) (vs:List V):∀ x y,c.ho dx vs≠.frz x y:=(c.mu dx vs).nf.1
theorem Lk.sq (k:Lk a u H H') {c:Ct} {b:Addr} {vs:List V} (h:SqC K N H c b vs):SqC K N H' c b vs:=by
 rcases h.to with ⟨ok,⟨dx,r⟩,n⟩ | h
 ·refine .of (.inl ⟨ok,⟨dx,k.rd (ztV c dx vs) r⟩,n⟩) fun e=>?_
  rcases h.z e with q | q
  ·by_cases eb:b=a
   ·subst eb
    exfalso
    rcases k.l with l | ⟨x,l⟩ <;> rw [l] at q
    ·exact k.nl vs (Option.some.inj q)
    ·cases q
   ·exact .inl (by rw [k.s b eb]; exact q)
  ·exact .inr q
 ·exact .of (.inr h) (KL.z h)
theorem Lk.ct (k:Lk a u H H') {c:Ct} {b:Addr} {vs:List V} (n:b≠a) (h:CtO H c b vs):CtO H' c b vs:=by
 obtain ⟨ok,dx,e⟩:=h.to
 exact .of ok (by rw [k.s b n]; exact e)
mutual
theorem Rep.lk (k:Lk a u H H'):∀ {v:V} {d:D} {L:List Addr},Rep K P M B H v d L→a∉L→Rep K P M B H' v d L
 | _,_,_,.non,_=>.non
 | _,_,_,.bl,_=>.bl
 | _,_,_,.int,_=>.int
 | _,_,_,.str,_=>.str
 | _,_,_,.pen h,_=>.pen h
 | _,_,_,.tup h r,n=>.tup (k.tp h) (zf.lk k r n)
 | _,_,_,.exc hl hx r p,_=>.exc hl (k.xd hx) (zf.lk k r (by simp)) p
 | _,_,_,.lstF h r p,_=>.lstF (k.sq h) (zf.lk k r (by simp)) p
 | _,_,_,.lstB h r,_=>.lstB (k.sq h) (zf.lk k r (by simp))
 | _,_,_,.lstO h m r,n=>.lstO (k.ct (fun e=>n (by rw [e]; exact List.mem_cons_self ..)) h) m (zf.lk k r fun z=>n (List.mem_cons_of_mem _ z))
theorem zf.lk (k:Lk a u H H'):∀ {vs:List V} {ds:List D} {L:List Addr},zf K P M B H vs ds L→a∉L→zf K P M B H' vs ds L
 | _,_,_,.nil,_=>.nil
 | _,_,_,.cons h r,n=>.cons (Rep.lk k h fun z=>n (List.mem_append_left _ z)) (zf.lk k r fun z=>n (List.mem_append_right _ z))
end
theorem Lk.zM (k:Lk a u H H') (hl:∀ xs,u≠.lst xs) (p:zF P M H):zF P M H':=fun b l hb=>by
 obtain ⟨n1,n2,n3,ns,i,c,s,e1,e2,r⟩:=p b l hb
 exact ⟨n1,n2,n3,ns,i,c,s,by rw [k.s b (k.ne e1 (fun z=>hl _ z.symm) fun _ z=>nomatch z)]; exact e1,by rw [k.s l (k.ne e2 (fun z=>hl _ z.symm) fun _ z=>nomatch z)]; exact e2,r⟩
theorem Lk.tab (k:Lk a u H H') {b:Addr} {q:Str} (t:jo H b q):jo H' b q:=
 t.keep (fun ps e=>by
  rw [k.s b (k.ne e (fun z=>k.mu.nf.2.2.2.1 _ z.symm) fun _ z=>nomatch z)]; exact e) fun c oc e=>by
  rw [k.s c (k.ne e (fun z=>k.mu.nf.1 _ _ z.symm) fun _ z=>by
   injection z with _ z
   exact k.mu.nf.2.2.2.2 _ z.symm)]; exact e
theorem Lk.stt (k:Lk a u H H') (hl:∀ xs,u≠.lst xs) (n:a∉M) (s:Stt P M B H):Stt P M B H':=
 ⟨k.zM hl s.zM,s.sub,fun b z=>k.mo (fun e=>n (by rw [← e]; exact z)) (s.ls b z),fun x z=>k.tab (s.tabs x z)⟩
theorem Lk.slots (k:Lk a u H H') (n:a∉M) (h:Slots K P M B H σ ρ):Slots K P M B H' σ ρ:=by
 obtain ⟨hl,F,h1,h2,h3,h4⟩:=h
 refine ⟨hl,F,fun i d e=>?_,h2,h3,h4⟩
 obtain ⟨v,e1,r⟩:=h1 i d e
 exact ⟨v,e1,Rep.lk k r fun z=>n (h2 i a z).1⟩
end
def ztW (k:List Key):D:=.tup (k.map kD)
/-- the keys of a dict,in their order -/
def Ct.keys:Ct→Option (List D)
 | .dK ks=>some (ks.map kD)
 | .dT ks=>some (ks.map ztW)
 | _=>none
end DL
set_option maxHeartbeats 4000000
set_option exponentiation.threshold 50000
namespace PySem.W
open PySem PySem.Calls PyProof.Rows
end PySem.W
namespace DL
open PySem PySem.Spec PyProof.Rows L2
end DL
set_option maxHeartbeats 4000000
set_option exponentiation.threshold 50000
namespace DL
open PySem PySem.Spec PyProof.Rows L2
variable [Tb]
/-- a dict's keys,walked -/
class KyW {κ:Type} (kd:κ→D) (ct:List κ→Ct):Prop where
 h:∀ ks,(ct ks).keys=some (ks.map kd)
section
variable {κ α β γ:Type} {kd:κ→D} {ct:List κ→Ct} {a:β→D} {ρ:Env} {it it1:DTI} {vs vs1:List Nat} {g g1:G} {tt tt1:DTT} {tk tv td:DT}
instance {kk:κ→Key} [Ky kk kd]:KyW kd (cK kk):=⟨fun ks=>by
 show some ((ks.map kk).map kD)=_
 rw [List.map_map]
 exact congrArg some (List.map_congr_left fun x _=>(Ky.h x).symm)⟩
instance {kk:κ→List Key} [KyT kk kd]:KyW kd (cT kk):=⟨fun ks=>by
 show some ((ks.map kk).map ztW)=_
 rw [List.map_map]
 exact congrArg some (List.map_congr_left fun x _=>(KyT.h x).symm)⟩
end
end DL
set_option maxHeartbeats 4000000
set_option exponentiation.threshold 50000
namespace DL
open PySem PySem.Spec PyProof.Rows L2
end DL
set_option maxHeartbeats 4000000
set_option exponentiation.threshold 50000
namespace DL
open PySem PySem.Spec PyProof.Rows L2
end DL
set_option maxHeartbeats 4000000
set_option exponentiation.threshold 50000
namespace DL
open PySem PySem.Spec PyProof.Rows L2
end DL
set_option maxHeartbeats 4000000
set_option exponentiation.threshold 50000
namespace DL
open PySem PySem.Spec PyProof.Rows L2
end DL
set_option maxHeartbeats 4000000
set_option exponentiation.threshold 50000
namespace PySem
end PySem
namespace DL
open PySem PySem.Spec PyProof.Rows L2
end DL
namespace DL
open PySem PySem.Spec PyProof.Rows L2
variable [Tb]
section
variable {α:Type} [Inhabited α] {ρ:Env} {t:DS} {N:DE} {e:α→D} {v:Option α}
theorem zm0 {x:Option D} {i:Nat} (h:ρ[i]?=some x):ρ.set i x=ρ:=by
 refine List.ext_getElem? fun j=>?_
 rw [List.getElem?_set]
 by_cases z:i=j
 ·subst z
  rw [if_pos rfl,if_pos (List.getElem?_eq_some_iff.mp h).1,h]
 ·rw [if_neg z]
/-- what is not None -/
theorem ztX (i:Nat) (hi:ρ[i]?=some (some (eO e v))) (h:v.isSome=true) (q:t N (ρ.set i (some (e (v.getD default))))):t N ρ:=by
 cases v with
 | none=>cases h
 | some x=>
  have hs:ρ.set i (some (e x))=ρ:=zm0 hi
  have q:t N (ρ.set i (some (e x))):=q
  rwa [hs] at q
end
end DL
namespace DL
open PySem PySem.Spec PyProof.Rows L2
end DL
set_option maxHeartbeats 1000000
namespace DLm
open PySem PySem.Calls PyProof.Rows PyProof.V PySem.Spec
end DLm
set_option maxHeartbeats 1000000
namespace DL
open PySem PySem.Spec PyProof.Rows L2
end DL
set_option maxHeartbeats 4000000
namespace DL
open PySem PySem.Spec PyProof.Rows L2
end DL
set_option maxHeartbeats 4000000
namespace DL
open PySem PySem.Spec PyProof.Rows L2
variable [Tb]
theorem flat_strs (ws:List Str):(ws.map V.str).all flatV=true:=by
 rw [List.all_eq_true]
 intro x hx
 obtain ⟨y,_,rfl⟩:=List.mem_map.mp hx
 rfl
section
variable {ρ:Env} {tr:DTA} {d:D} {ds ds':List D}
theorem zsz {S:zQ} (ha:EvA tr ρ ds) (hz:D.fzs ds=ds') (hs:∀ Q:D→Prop,Q d→S ds' Q) (hw:d.wk=d):Ev (dFn S tr) ρ d:=fun Q q=>ha _ (by
 show S (D.fzs ds) _
 rw [hz]
 refine hs _ ?_
 by_cases e:D.fls ds=true
 ·rw [if_pos e]; exact q
 ·rw [if_neg e,hw]; exact q)
end
end DL
set_option maxHeartbeats 2000000
namespace DLm
open PySem PySem.Spec PyProof.Rows L2
theorem isS (k:Str) (t:Tok):Value.isStrOf k (.str k t)=true:=by simp [Value.isStrOf]
def ztY (v:Value):Str:=match v with
 | .str k _=>k
 | _=>Str.empty
section
variable (P:Program) (w:World)
def OkE (e:Int×Value):Prop:=∃ k t,e.2=Value.str k t∧e.1=(strKind P w).hash k
/-- the texts at a are those of L -/
def zgZ (h:Heap) (a:Addr) (L:List Str):Prop:=∃ o es ep t,h.get? a=some o∧o.ExactSet∧o.data=.set es ep t∧(∀ e∈es.toList,OkE P w e)∧(es.toList.map fun e=>ztY e.2).Perm L∧L.Nodup∧es.size < scanBound∧t.fits es.size=true∧
 Ris t.place.toList∧(w.params.followText "set-order"=true∨t.led=true)
end
section
variable {P:Program} {w:World} {h h':Heap} {a:Addr} {L:List Str}
theorem zgZ.at (R:zgZ P w h a L) (k:∀ o,h.get? a=some o→h'.get? a=some o):zgZ P w h' a L:=by
 obtain ⟨o,es,ep,t,ho,r⟩:=R
 exact ⟨o,es,ep,t,k o ho,r⟩
theorem zgZ.new (ho:h.get? a=some { cls:=.type "set",dict:=none,data:=.set #[] 0 (.fresh 0 0 (!w.params.followText "set-order"))}):zgZ P w h a []:=by
 refine ⟨_,#[],0,_,ho,⟨rfl,rfl,rfl⟩,rfl,fun e he=>by simp at he,by simp,List.nodup_nil,by decide,by rfl,List.Pairwise.nil,?_⟩
 show _∨(!w.params.followText "set-order")=true
 cases w.params.followText "set-order" <;> simp
end
open PySem.Calls PySem.W in
section
variable {prog:Program} {w:World} {A:Around} {E:Value→Shared→Prop} {s:Shared}
/-- one text after another -/
def ztZ (L:List Str) (k:Str):List Str:=if k∈L then L else k::L
end
end DLm
set_option maxHeartbeats 4000000
set_option exponentiation.threshold 50000
namespace DLm
open PySem PySem.Calls PySem.W PyProof.Rows L2
end DLm
namespace DL
open PySem PySem.Spec PyProof.Rows L2
variable [Tb]
def zlV (P:Program) (w:World) (a:Addr) (L:List Str):HO:=.ext fun h=>DLm.zgZ P w h a L
end DL
set_option maxHeartbeats 4000000
set_option exponentiation.threshold 50000
namespace DL
open PySem PySem.Spec PyProof.Rows L2
variable [Tb]
structure SJ (p:Program) (w:World) (P:zR) (M:List Addr) (Hb:Hp) (A:Addr) (H:Hp) (acc:List OkS):Prop where
 e0:∃ φ,Hb A=some (.ext φ)
 st:H A=some (zlV p w A ((acc.map (·.1)).foldl DLm.ztZ []))
 gr:Gr (A::P.as) Hb H
 zM:zF P M H
section
variable {p:Program} {w:World} {K:PySem.W.Frag} {P:zR} {M B N L:List Addr} {H H' Hb Hc:Hp} {σ:Sg} {ρ:Env} {v:V} {d:D} {ds:List D} {vs:List V} {J:It} {A:Addr} {acc acc':List OkS}
theorem SJ.ext (I:SJ p w P M Hb A H acc):∃ φ,H A=some (.ext φ):=⟨_,I.st⟩
theorem SJ.np (I:SJ p w P M Hb A H acc):A∉P.as:=fun z=>by
 obtain ⟨φ,e⟩:=I.ext
 obtain ⟨xs,q⟩:=I.zM.lst z
 rw [e] at q; cases q
theorem SJ.mid (I:SJ p w P M Hb A H acc):∃ o φ,Hb A=some (.ext φ)∧Gr P.as (upd Hb A o) H:=by
 obtain ⟨φ,e0⟩:=I.e0
 obtain ⟨ψ,e⟩:=I.ext
 refine ⟨.ext ψ,φ,e0,fun b o hb n=>?_,fun b q mT t=>I.gr.tab b q mT (jo.unset (o:=.ext ψ) (fun _ z=>(nomatch z)) (fun _ _ z=>(nomatch z)) t)⟩
 by_cases h:b=A
 ·subst h
  rw [upd_same] at hb
  cases hb
  exact e
 ·rw [upd_ne h] at hb
  exact I.gr b o hb fun z=>(List.mem_cons.mp z).elim h n
theorem SJ.stt (I:SJ p w P M Hb A H acc) (s:Stt P M B Hb):Stt P M B H:=by
 obtain ⟨o,φ,e0,g⟩:=I.mid
 exact (s.ZC e0).keep g I.zM
theorem SJ.slots (I:SJ p w P M Hb A H acc) (s:Stt P M B Hb) (sl:Slots K P M B Hb σ ρ):Slots K P M B H σ ρ:=by
 obtain ⟨o,φ,e0,g⟩:=I.mid
 exact (sl.ZC e0).keep (s.ZC e0) g
theorem SJ.wk (I:SJ p w P M Hb A H acc) (s:Stt P M B Hb) (src:Src K P (P.as++B) M B Hb ds J):Wk K P M B H ds J:=by
 obtain ⟨o,φ,e0,g⟩:=I.mid
 exact ((src.ZC e0).gr (s.ZC e0).lists g (fun _ z=>.inl z) (fun _ z=>.inl z)).now (I.stt s).lists
theorem SJ.keep (I:SJ p w P M Hb A H acc) (g:Gr P.as H H') (q:zF P M H'):SJ p w P M Hb A H' acc:=⟨I.e0,g _ _ I.st I.np,I.gr.trans (g.sub fun _ z=>List.mem_cons_of_mem _ z),q⟩
theorem SJ.start (q:zF P M (upd H A (zlV p w A []))):SJ p w P M (upd H A (zlV p w A [])) A (upd H A (zlV p w A [])) []:=⟨⟨_,upd_same⟩,upd_same,Gr.refl,q⟩
end
end DL
set_option maxHeartbeats 4000000
namespace DL
open PySem PySem.Spec PyProof.Rows L2
variable [Tb]
class Lv where
 n:Nat
instance (priority:=low) lvTop:Lv:=⟨9⟩
end DL
set_option maxHeartbeats 4000000
namespace DL
open PySem PySem.Spec PyProof.Rows L2
variable [Tb]
section
variable {α β γ δ ε:Type} {a a':α→D} {b b':β→D} {c c':γ→D} {d d':δ→D} {e e':ε→D}
instance [WkC a a'] [WkC b b'] [WkC c c']:WkC (eH3 .o a b c) (eH3 .o a' b' c'):=⟨fun x=>by show D.lst .o [(a x.1).wk,(b x.2.1).wk,(c x.2.2).wk]=_; rw [WkC.h (e':=a'),WkC.h (e':=b'),WkC.h (e':=c')]; rfl⟩
def eH5 (k:Fl) (a:α→D) (b:β→D) (c:γ→D) (d:δ→D) (e:ε→D):α×β×γ×δ×ε→D:=fun p=>.con .l k [a p.1,b p.2.1,c p.2.2.1,d p.2.2.2.1,e p.2.2.2.2]
instance [Pf a] [Pf b] [Pf c] [Pf d] [Pf e]:Pf (eH5 .f a b c d e):=⟨fun x=>by show (true&&((a x.1).pf&&((b x.2.1).pf&&((c x.2.2.1).pf&&((d x.2.2.2.1).pf&&((e x.2.2.2.2).pf&&true))))))=true; rw [Pf.h,Pf.h,Pf.h,Pf.h,Pf.h]; rfl,fun x=>npS (ds:=[a x.1,b x.2.1,c x.2.2.1,d x.2.2.2.1,e x.2.2.2.2]) (by simp [Pf.np])⟩
instance [Nb a] [Nb b] [Nb c] [Nb d] [Nb e]:Nb (eH5 .o a b c d e):=⟨fun x=>nbS (ds:=[a x.1,b x.2.1,c x.2.2.1,d x.2.2.2.1,e x.2.2.2.2]) (by simp [Nb.h])⟩
instance {k:Fl} [Np a] [Np b] [Np c] [Np d] [Np e]:Np (eH5 k a b c d e):=⟨fun x=>npS (ds:=[a x.1,b x.2.1,c x.2.2.1,d x.2.2.2.1,e x.2.2.2.2]) (by simp [Np.h])⟩
instance [Vw a a'] [Vw b b'] [Vw c c'] [Vw d d'] [Vw e e']:Vw (eH5 .o a b c d e) (eH5 .b a' b' c' d' e'):=⟨fun x=>by show D.lst .b [(a x.1).vw,(b x.2.1).vw,(c x.2.2.1).vw,(d x.2.2.2.1).vw,(e x.2.2.2.2).vw]=_; rw [Vw.h (e':=a'),Vw.h (e':=b'),Vw.h (e':=c'),Vw.h (e':=d'),Vw.h (e':=e')]; rfl⟩
instance:Vw (eH5 .b a b c d e) (eH5 .b a b c d e):=⟨fun _=>rfl⟩
instance:Vw (eH5 .f a b c d e) (eH5 .f a b c d e):=⟨fun _=>rfl⟩
instance:Fz (eH5 .f a b c d e) (eH5 .f a b c d e):=⟨fun _=>rfl⟩
instance [Fz a a'] [Fz b b'] [Fz c c'] [Fz d d'] [Fz e e']:Fz (eH5 .o a b c d e) (eH5 .f a' b' c' d' e'):=⟨fun x=>by show D.lst .f [(a x.1).fz,(b x.2.1).fz,(c x.2.2.1).fz,(d x.2.2.2.1).fz,(e x.2.2.2.2).fz]=_; rw [Fz.h (e':=a'),Fz.h (e':=b'),Fz.h (e':=c'),Fz.h (e':=d'),Fz.h (e':=e')]; rfl⟩
instance [Rt a a'] [Rt b b'] [Rt c c'] [Rt d d'] [Rt e e']:Rt (eH5 .o a b c d e) (eH5 .o a' b' c' d' e'):=⟨fun x=>by show D.lst .o [(a x.1).rt,(b x.2.1).rt,(c x.2.2.1).rt,(d x.2.2.2.1).rt,(e x.2.2.2.2).rt]=_; rw [Rt.h (e':=a'),Rt.h (e':=b'),Rt.h (e':=c'),Rt.h (e':=d'),Rt.h (e':=e')]; rfl⟩
instance [WkC a a'] [WkC b b'] [WkC c c'] [WkC d d'] [WkC e e']:WkC (eH5 .o a b c d e) (eH5 .o a' b' c' d' e'):=⟨fun x=>by show D.lst .o [(a x.1).wk,(b x.2.1).wk,(c x.2.2.1).wk,(d x.2.2.2.1).wk,(e x.2.2.2.2).wk]=_; rw [WkC.h (e':=a'),WkC.h (e':=b'),WkC.h (e':=c'),WkC.h (e':=d'),WkC.h (e':=e')]; rfl⟩
instance:FlC true (eH5 .f a b c d e):=⟨fun _=>rfl⟩
instance:FlC false (eH5 .o a b c d e):=⟨fun _=>rfl⟩
instance:FlC false (eH5 .b a b c d e):=⟨fun _=>rfl⟩
instance {n:Nat} {k:Fl} [ShC n a] [ShC n b] [ShC n c] [ShC n d] [ShC n e]:ShC (n+1) (eH5 k a b c d e):=⟨fun x=>zfm (by simp [ShC.h])⟩
instance {k:Fl}:NN (eH5 k a b c d e):=⟨fun _=>rfl,fun _=>rfl,fun _=>rfl⟩
variable [DecidableEq α] [DecidableEq β] [DecidableEq γ] [DecidableEq δ] [DecidableEq ε]
instance {k k':Fl} [EqX a a'] [EqX b b'] [EqX c c'] [EqX d d'] [EqX e e']:EqX (eH5 k a b c d e) (eH5 k' a' b' c' d' e'):=⟨fun x y=>by
 show eqD (.con .l k [a x.1,b x.2.1,c x.2.2.1,d x.2.2.2.1,e x.2.2.2.2]) (.con .l k' [a' y.1,b' y.2.1,c' y.2.2.1,d' y.2.2.2.1,e' y.2.2.2.2])=_
 rw [za0,qU,qU,qU,qU,qU,zat,EqX.h,EqX.h,EqX.h,EqX.h,EqX.h,Bool.and_true,← Bool.decide_and,← Bool.decide_and,← Bool.decide_and,← Bool.decide_and]
 exact decide_eq_decide.mpr (by rw [Prod.ext_iff,Prod.ext_iff,Prod.ext_iff,Prod.ext_iff])⟩
end
end DL
set_option maxHeartbeats 1000000
set_option exponentiation.threshold 50000
namespace DLq
open PySem
/-- a list,or a tuple -/
def zsA:Bool→Heap→Addr→Array Value→Prop
 | false,h,a,xs=>h.IsList a xs
 | true,h,a,xs=>h.IsTuple a xs
def zjd:Bool→Heap→Addr→Addr→Nat→Prop
 | false,h,it,a,n=>h.IsListIter it a n
 | true,h,it,a,n=>h.IsTupleIter it a n
def zt0:Bool→String
 | false=>"list_iterator"
 | true=>"tuple_iterator"
theorem zjd.at {t:Bool} {h h':Heap} {i a:Addr} {n:Nat} (x:zjd t h i a n) (e:∀ o,h.get? i=some o→h'.get? i=some o):zjd t h' i a n:=by
 cases t with
 | false=>exact Heap.IsListIter.at x e
 | true=>exact Heap.IsTupleIter.at x e
theorem zjd.new {t:Bool} {h:Heap} {i a:Addr} (e:h.get? i=some { cls:=.type (zt0 t),data:=.fields #[.ref a,.int 0 0]}):zjd t h i a 0:=by
 cases t with
 | false=>exact ⟨_,e,rfl,rfl⟩
 | true=>exact ⟨_,e,rfl,rfl⟩
theorem zsA.push {t:Bool} {h:Heap} {a:Addr} {xs:Array Value} (x:zsA t h a xs) (o:Obj):zsA t (h.push o) a xs:=by
 cases t with
 | false=>exact Heap.IsList.push x o
 | true=>exact Heap.IsTuple.push x o
/-- what a zip's object holds; g:the tuple that it handed out last -/
abbrev Qi (st:Bool) (TI TO:Addr) (g:Value):Obj:={ cls:=.type "zip",data:=.fields #[g,.bool false,.bool st,.ref TI,.ref TO]}
abbrev Jw (u v:Value):Obj:={ cls:=.type "tuple",data:=.seq #[u,v]}
/-- a zip of what stands at a and b as it stands:m and n of them are drawn -/
structure jD (st ta tb:Bool) (h:Heap) (z TI TO i j a b:Addr) (g:Value) (m n:Nat):Prop where
 box:h.get? z=some (Qi st TI TO g)
 ins:h.get? TI=some (Jw (.ref i) (.ref j))
 out:∃ u v,h.get? TO=some (Jw u v)
 one:zjd ta h i a m
 two:zjd tb h j b n
section
variable {st ta tb:Bool} {h h':Heap} {z TI TO i j a b:Addr} {g g':Value} {m n:Nat} {xs ys:Array Value}
theorem jD.boxed (Z:jD st ta tb h z TI TO i j a b g m n) (D:ZipApart z TI TO i j a b) (s:∀ c o,c≠z→h.get? c=some o→h'.get? c=some o) (e:h'.get? z=some (Qi st TI TO g')):jD st ta tb h' z TI TO i j a b g' m n:=
 have ⟨u,v,q⟩:=Z.out
 ⟨e,s _ _ D.TIz Z.ins,⟨u,v,s _ _ D.TOz q⟩,Z.one.at fun o q=>s _ o D.i1z q,Z.two.at fun o q=>s _ o D.i2z q⟩
end
section
variable {prog:Program} {w:World} {A:Around} {E:Value→Shared→Prop} {s:Shared}
variable {z TI TO i j a b:Addr} {m n:Nat} {xs ys:Array Value} {st ta tb:Bool}
theorem zeX {g x:Value} {Q:Unit→Shared→Prop} (e:s.heap.get? z=some (Qi st TI TO g)) (q:∀ h',h'.get? z=some (Qi st TI TO x)→(∀ c o,c≠z→s.heap.get? c=some o→h'.get? c=some o)→h'.objs.size=s.heap.objs.size→Q () { s with heap:=h'}):
  wpAny (model prog w) A (setField (.ref z) 0 x) Q E s:=
 wpAny_setField_rec e (by simp) fun h' e' sb=>q h' e' (fun c o k r=>sb.extBut c o k r) sb.1
end
end DLq
set_option maxHeartbeats 1000000
set_option exponentiation.threshold 50000
namespace DLq
open PySem
section
variable {prog:Program} {w:World} {A:Around} {E:Value→Shared→Prop} {s:Shared} {st ta tb:Bool}
variable {z TI TO i j a b:Addr} {m n:Nat} {xs ys:Array Value} {g:Value}
theorem jD.ty (Z:jD st ta tb s.heap z TI TO i j a b g m n):s.TypeIs (.ref z) "zip":=⟨_,Z.box,rfl⟩
theorem jD.free {es:List Expr} {kk:Nat} {pos:Pos} {T:Addr} {Q:Unit→Shared→Prop} (D:ZipApart z TI TO i j a b) (Z:jD st ta tb s.heap z TI TO i j a b (rawInt T) m n)
  (q:∀ h',jD st ta tb h' z TI TO i j a b .none m n→(∀ c o,c≠z→s.heap.get? c=some o→h'.get? c=some o)→Q () { s with heap:=h'}):wpAny (model prog w) A (letOwnedTupleGo (.Tuple es kk pos) (.ref z) (.ref T)) Q E s:=by
 delta letOwnedTupleGo
 refine wpAny_bind (wpAny_load Z.box ?_)
 change wpAny _ _ (if (_&&(#[rawInt T,.bool false,.bool st,.ref TI,.ref TO]:Array Value)[0]? == some (rawInt T))=true then _ else _) Q E s
 rw [if_pos (by simp)]
 refine wpAny_bind (wpAny_rule ?_)
 change wpAny _ _ (setField (.ref z) 0 .none) Q E s
 exact zeX Z.box fun h' e k _=>q h' (Z.boxed D k e) k
end
end DLq
namespace RQ
open PySem PySem.Spec PyProof.Rows L2 DLq
end RQ
set_option maxHeartbeats 4000000
set_option exponentiation.threshold 50000
namespace RQ
open PySem PySem.Spec PyProof.Rows L2 DLq
end RQ
namespace DL
open PySem PySem.Spec PyProof.Rows L2
end DL
set_option maxHeartbeats 4000000
set_option exponentiation.threshold 50000
namespace DL
open PySem PySem.Spec PyProof.Rows L2
variable [Tb]
inductive zb0 where
 | s (x:OkS)
 | t (l:List zb0)
instance:Inhabited zb0:=⟨.t []⟩
mutual
def eJ:zb0→D
 | .s x=>.str x.1
 | .t l=>.tup (eJs l)
def eJs:List zb0→List D
 | []=>[]
 | x::l=>eJ x::eJs l
end
theorem zlW:∀ l:List zb0,eJs l=l.map eJ
 | []=>rfl
 | x::l=>by
  show eJ x::eJs l=_
  rw [zlW l]; rfl
theorem zuA (l:List zb0):eJ (.t l)=.tup (l.map eJ):=by
 show D.tup (eJs l)=_
 rw [zlW]
mutual
theorem zru:∀ x:zb0,(eJ x).pf=true
 | .s _=>rfl
 | .t l=>by
  show D.pfs (eJs l)=true
  exact zpd l
theorem zpd:∀ l:List zb0,D.pfs (eJs l)=true
 | []=>rfl
 | x::l=>by
  show ((eJ x).pf&&D.pfs (eJs l))=true
  rw [zru x,zpd l]; rfl
end
mutual
theorem zrv:∀ x:zb0,(eJ x).np=true
 | .s _=>rfl
 | .t l=>by
  show D.nps (eJs l)=true
  exact zpe l
theorem zpe:∀ l:List zb0,D.nps (eJs l)=true
 | []=>rfl
 | x::l=>by
  show ((eJ x).np&&D.nps (eJs l))=true
  rw [zrv x,zpe l]; rfl
end
mutual
theorem zrw:∀ x:zb0,(eJ x).wk=eJ x
 | .s _=>rfl
 | .t l=>by
  show D.tup (D.wks (eJs l))=D.tup (eJs l)
  rw [zpf l]
theorem zpf:∀ l:List zb0,D.wks (eJs l)=eJs l
 | []=>rfl
 | x::l=>by
  show (eJ x).wk::D.wks (eJs l)=eJ x::eJs l
  rw [zrw x,zpf l]
end
mutual
theorem zrx:∀ x:zb0,(eJ x).fl=true
 | .s _=>rfl
 | .t l=>by
  show D.fls (eJs l)=true
  exact zpg l
theorem zpg:∀ l:List zb0,D.fls (eJs l)=true
 | []=>rfl
 | x::l=>by
  show ((eJ x).fl&&D.fls (eJs l))=true
  rw [zrx x,zpg l]; rfl
end
instance:Pf eJ:=⟨zru,zrv⟩
instance:WkC eJ eJ:=⟨zrw⟩
instance:FlC true eJ:=⟨zrx⟩
theorem zph (x:zb0):isN (eJ x)=false∧eqD .non (eJ x)=false∧eqD (eJ x) .non=false:=by
 cases x with
 | s x=>exact ⟨rfl,rfl,rfl⟩
 | t l=>rw [zuA]; exact ⟨rfl,rfl,rfl⟩
instance:NN eJ:=⟨fun x=>(zph x).1,fun x=>(zph x).2.1,fun x=>(zph x).2.2⟩
end DL
set_option maxHeartbeats 4000000
set_option exponentiation.threshold 50000
namespace DL
open PySem PySem.Spec PyProof.Rows L2
end DL
set_option maxHeartbeats 4000000
set_option exponentiation.threshold 50000
namespace DL
open PySem PySem.Spec PyProof.Rows L2
end DL
set_option maxHeartbeats 1000000
set_option exponentiation.threshold 50000
namespace DL
open PySem PySem.Spec PyProof.Rows L2
end DL
set_option maxHeartbeats 1000000
set_option exponentiation.threshold 50000
namespace DL
open PySem PySem.Spec PyProof.Rows L2
end DL
set_option maxHeartbeats 1000000
set_option exponentiation.threshold 50000
namespace DL
open PySem PySem.Spec PyProof.Rows L2
end DL
set_option maxHeartbeats 1000000
set_option exponentiation.threshold 50000
namespace DL
open PySem PySem.Spec PyProof.Rows L2
end DL
set_option maxHeartbeats 4000000
namespace DL
open PySem PySem.Spec PyProof.Rows L2
variable [Tb]
abbrev HsA:=List (Str×Option Nat×(Addr→Addr→DS))
/-- the suite's name goes at its end -/
def zlX (i:Nat) (N:DE):DE:={ N with nx:=fun ρ=>N.nx (ρ.set i none),bk:=fun ρ=>N.bk (ρ.set i none),ct:=fun ρ=>N.ct (ρ.set i none)}
/-- all n slots -/
def zpi (n:Nat) (ρ:Env):Env:=ρ++List.replicate (n - ρ.length) none
theorem zqM (n:Nat) (ρ:Env):n≤(zpi n ρ).length:=by
 unfold zpi
 rw [List.length_append,List.length_replicate]; omega
def HsA.at (m:Nat) (hs:HsA) (N:DE) (x:Exn) (ρ:Env):Prop:=match hs with
 | []=>False
 | (n,none,t)::r=>if Yu x.nm n=true then t 0 0 N.calm ρ else HsA.at m r N x ρ
 | (n,some i,t)::r=>if Yu x.nm n=true then (∀ a dd,t a dd (zlX i N.calm) ((zpi m ρ).set i (some (.exc a dd x.ns x.ds)))) else HsA.at m r N x ρ
theorem qm.unset {ρ:Env} (h:qm ρ) (i:Nat):qm (ρ.set i none):=qm.yF h [i]
theorem Slots.unset {K:PySem.W.Frag} {P:zR} {M B:List Addr} {H:Hp} {σ:Sg} {ρ:Env} (h:Slots K P M B H σ ρ) (i:Nat):Slots K P M B H (σ.set i none) (ρ.set i none):=(qN.wipe h.x [i]).s
theorem Fits.wipe {X:Cx} {P:zR} {M B:List Addr} {H:Hp} {N:DE} {D:Ends} (f:Fits X P M B H N.calm D) (i:Nat):Fits X P M B H (zlX i N).calm (DLq.zrf i D):=
 ⟨fun P' M' H' σ' ρ' q a s sl e=>f.nx P' M' H' _ _ q a s (sl.unset i) (e.unset i),fun P' M' H' σ' ρ' q a s sl e=>f.bk P' M' H' _ _ q a s (sl.unset i) (e.unset i),fun P' M' H' σ' ρ' q a s sl e=>f.ct P' M' H' _ _ q a s (sl.unset i) (e.unset i),f.rt,fun _ _ _ _ _ _ _ _ z=>z.elim,f.rm⟩
/-- a clause without a name,or with one -/
inductive HsQ where
 | p (n:Str) (q:Prop)
 | a (n:Str) (q:Exn→Prop)
def zsB:List HsQ→Exn→Prop
 | [],_=>False
 | .p n q::r,x=>(Yu x.nm n=true→q)∧(Yu x.nm n=false→zsB r x)
 | .a n q::r,x=>(Yu x.nm n=true→q x)∧(Yu x.nm n=false→zsB r x)
inductive zhR (n:Nat) (N:DE):List HsQ→HsA→Prop
 | nil:zhR n N [] []
 | p {c:Str} {q:Prop} {t:DS} {r:List HsQ} {hs:HsA} (h:q→∀ ρ:Env,t N.calm ρ) (z:zhR n N r hs):zhR n N (.p c q::r) ((c,none,fun _ _=>t)::hs)
 | a {c:Str} {i:Nat} {q:Exn→Prop} {t:Addr→Addr→DS} {r:List HsQ} {hs:HsA} (h:∀ x,q x→∀ a dd (ρ:Env),n≤ρ.length→t a dd (zlX i N.calm) (ρ.set i (some (.exc a dd x.ns x.ds)))) (z:zhR n N r hs):zhR n N (.a c q::r) ((c,some i,t)::hs)
theorem zhR.at {n:Nat} {N:DE} {x:Exn} {ρ:Env}:∀ {l:List HsQ} {hs:HsA},zhR n N l hs→zsB l x→hs.at n N x ρ
 | _,_,.nil,h=>h.elim
 | _,_,.p h z,q=>by
  unfold HsA.at
  split
  ·exact h (q.1 (by assumption)) _
  ·exact zhR.at z (q.2 (Bool.eq_false_iff.mpr (by assumption)))
 | _,_,.a h z,q=>by
  unfold HsA.at
  split
  ·exact fun a dd=>h x (q.1 (by assumption)) a dd _ (zqM n ρ)
  ·exact zhR.at z (q.2 (Bool.eq_false_iff.mpr (by assumption)))
end DL
set_option maxHeartbeats 4000000
namespace DL
open PySem PySem.Spec PyProof.Rows L2
variable [Tb]
/-- plain values -/
class Br {α:Type} (e:α→D):Prop where
 h:∀ x,(e x).bare=true
instance:Br eI:=⟨fun _=>rfl⟩
instance:Br eS:=⟨fun _=>rfl⟩
instance:Br eF:=⟨fun x=>by cases x <;> rfl⟩
section
variable {α β γ:Type} {a a':α→D} {b b':β→D} {c c':γ→D}
variable [DecidableEq α] [DecidableEq β] [DecidableEq γ]
instance {k k':Fl} [EqX a a'] [EqX b b'] [EqX c c']:EqX (eH3 k a b c) (eH3 k' a' b' c'):=⟨fun x y=>by
 show eqD (.con .l k [a x.1,b x.2.1,c x.2.2]) (.con .l k' [a' y.1,b' y.2.1,c' y.2.2])=_
 rw [za0,qU,qU,qU,zat,EqX.h,EqX.h,EqX.h,Bool.and_true,← Bool.decide_and,← Bool.decide_and]
 exact decide_eq_decide.mpr (by rw [Prod.ext_iff,Prod.ext_iff])⟩
end
instance:EqC eF:=⟨fun x y=>by
 cases x with
 | ok=>cases y <;> rfl
 | w1 s=>
  cases y with
  | w1 t=>exact (EqC.h (e:=eT1 eS) s t).trans (decide_eq_decide.mpr (by simp))
  | ok=>rfl
  | w2 t i=>exact (Bool.eq_false_iff.mpr (by simp [eqD,eF,D.py,D.pys,PyData.eqv,PyData.eqvAll])).trans (by simp)
  | w3 t i j=>exact (Bool.eq_false_iff.mpr (by simp [eqD,eF,D.py,D.pys,PyData.eqv,PyData.eqvAll])).trans (by simp)
 | w2 s i=>
  cases y with
  | w2 t j=>exact (EqC.h (e:=eT2 eS eI) (s,i) (t,j)).trans (decide_eq_decide.mpr (by simp))
  | ok=>rfl
  | w1 t=>exact (Bool.eq_false_iff.mpr (by simp [eqD,eF,D.py,D.pys,PyData.eqv,PyData.eqvAll])).trans (by simp)
  | w3 t i j=>exact (Bool.eq_false_iff.mpr (by simp [eqD,eF,D.py,D.pys,PyData.eqv,PyData.eqvAll])).trans (by simp)
 | w3 s i j=>
  cases y with
  | w3 t k m=>exact (EqC.h (e:=eT3 eS eI eI) (s,i,j) (t,k,m)).trans (decide_eq_decide.mpr (by simp))
  | ok=>rfl
  | w1 t=>exact (Bool.eq_false_iff.mpr (by simp [eqD,eF,D.py,D.pys,PyData.eqv,PyData.eqvAll])).trans (by simp)
  | w2 t i=>exact (Bool.eq_false_iff.mpr (by simp [eqD,eF,D.py,D.pys,PyData.eqv,PyData.eqvAll])).trans (by simp)⟩
theorem zry (x:Flt) (s:OkS):eqD (eF x) (eS s)=false∧eqD (eS s) (eF x)=false:=by
 cases x <;> exact ⟨rfl,rfl⟩
instance:EqX (eV eF eS) (eV eF eS):=⟨fun x y=>by
 cases x with
 | inl x=>
  cases y with
  | inl y=>exact (EqX.h (e:=eF) (e':=eF) x y).trans (decide_eq_decide.mpr (by simp))
  | inr y=>exact (zry x y).1.trans (by simp)
 | inr x=>
  cases y with
  | inl y=>exact (zry y x).2.trans (by simp)
  | inr y=>exact (EqX.h (e:=eS) (e':=eS) x y).trans (decide_eq_decide.mpr (by simp))⟩
end DL
set_option maxHeartbeats 4000000
namespace DL
open PySem PySem.Spec PyProof.Rows L2
variable [Tb]
section
variable {α:Type}
def eTL (e:α→D):List α→D:=fun xs=>.tup (xs.map e)
variable {a a':α→D}
instance [Pf a]:Pf (eTL a):=⟨fun xs=>by show D.pfs (xs.map a)=true; exact Jp _ (all_map Pf.h xs),fun xs=>npS (all_map Pf.np xs)⟩
instance {n:Nat} [ShC n a]:ShC (n+1) (eTL a):=⟨fun xs=>zc4 (all_map ShC.h xs)⟩
instance:NN (eTL a):=⟨fun _=>rfl,fun _=>rfl,fun _=>rfl⟩
instance [DecidableEq α] [EqC a]:EqC (eTL a):=⟨fun xs ys=>by show eqD (.tup (xs.map a)) (.tup (ys.map a))=_; rw [Qv,zhw]⟩
theorem zt1 [FlC true a]:∀ xs:List α,D.fls (xs.map a)=true
 | []=>rfl
 | x::xs=>by
  show ((a x).fl&&D.fls (xs.map a))=true
  rw [FlC.h (b:=true),zt1 xs]; rfl
instance [FlC true a]:FlC true (eTL a):=⟨fun xs=>zt1 xs⟩
instance {f:α→α→Bool} [qT a f]:qT (eTL a) (ltL f):=⟨fun xs ys s t=>zc7 s t xs ys,fun xs ys=>zav xs ys⟩
end
end DL
set_option maxHeartbeats 4000000
namespace DL
open PySem PySem.Spec PyProof.Rows L2
end DL
set_option maxHeartbeats 4000000
namespace DL
open PySem PySem.Spec PyProof.Rows L2
end DL
set_option maxHeartbeats 4000000
set_option exponentiation.threshold 50000
namespace DL
open PySem PySem.Spec PyProof.Rows L2
end DL
namespace DL.SK
open PySem PySem.Spec PyProof.Rows L2 DL
variable [Tb]
/-- where a dict comprehension stands:H0 ahead of all,Hb where the clause began,T what is new since -/
structure DI (K:PySem.W.Frag) (P:zR) (M B:List Addr) (H0 Hb:Hp) (A:Addr) (T:List Addr) (H:Hp) (acc:List (Key×D)):Prop where
 am:A∈M
 ab:A∈B
 new:∀ a∈T,Hb a=none
 own:∀ a∈T,Mo H a
 st:∃ vs Lv,H A=some (.dK ((acc.map (·.1)).zip vs))∧acc.length=vs.length∧zf K P (T++M) (T++B) H vs (acc.map (·.2)) Lv∧Lv.Nodup∧A∉Lv∧(∀ a∈Lv,(a∈T∨a∈M)∧H0 a=none)
 gr:Gr (A::P.as) Hb H
 zM:zF P (T++M) H
 tr:∀ a,H a=none→H0 a=none
section
variable {K:PySem.W.Frag} {P:zR} {M B N L T:List Addr} {H H' H0 Hb Hc:Hp} {σ:Sg} {ρ:Env} {v:V} {d:D} {ds:List D} {J:It} {A:Addr} {acc acc':List (Key×D)}
theorem DI.mo (I:DI K P M B H0 Hb A T H acc):Mo H A:=by
 obtain ⟨vs,Lv,e,_⟩:=I.st
 exact ⟨_,e,.dK⟩
theorem DI.mid (I:DI K P M B H0 Hb A T H acc) (s:Stt P M B Hb):∃ o,Mu o∧Gr P.as (upd Hb A o) H:=by
 obtain ⟨vs,Lv,e,_⟩:=I.st
 refine ⟨.dK ((acc.map (·.1)).zip vs),.dK,fun b o hb n=>?_,fun b q mT t=>I.gr.tab b q mT ?_⟩
 ·by_cases h:b=A
  ·subst h
   rw [upd_same] at hb
   cases hb
   exact GrO.of e
  ·rw [upd_ne h] at hb
   exact I.gr b o hb fun z=>(List.mem_cons.mp z).elim h n
 ·exact jo.unset (o:=.dK ((acc.map (·.1)).zip vs)) (fun _ z=>(nomatch z)) (fun _ _ z=>(nomatch z)) t
theorem DI.zkL (I:DI K P M B H0 Hb A T H acc) (s:Stt P M B Hb) {o:HO}:∀ a∈T,upd Hb A o a=none:=fun a z=>by
 have n:=I.new a z
 rw [upd_ne (fun e=>by rw [e] at n; exact (s.trk A I.am) n)]
 exact n
theorem DI.stt (I:DI K P M B H0 Hb A T H acc) (s:Stt P M B Hb):Stt P (T++M) (T++B) H:=by
 obtain ⟨o,mu,g⟩:=I.mid s
 exact (s.zeB I.am mu).after g I.zM I.own
theorem DI.slots (I:DI K P M B H0 Hb A T H acc) (s:Stt P M B Hb) (sl:Slots K P M B Hb σ ρ):Slots K P (T++M) (T++B) H σ ρ:=by
 obtain ⟨o,mu,g⟩:=I.mid s
 exact Slots.after (s.zeB I.am mu) (sl.zeB (s.ls A I.am) I.am I.ab) g (I.zkL s)
theorem DI.wk (I:DI K P M B H0 Hb A T H acc) (s:Stt P M B Hb) (src:Src K P (P.as++B) M B Hb ds J):Wk K P (T++M) (T++B) H ds J:=by
 obtain ⟨o,mu,g⟩:=I.mid s
 exact ((src.zeB (s.ls A I.am) I.am I.ab).gr (s.zeB I.am mu).lists g (yx (I.zkL s)) (yx (I.zkL s))).now (I.stt s).lists
theorem DI.keep (I:DI K P M B H0 Hb A T H acc) (s:Stt P M B Hb) (g:Gr P.as H H') (q:zF P (T++M) H'):DI K P M B H0 Hb A T H' acc:=by
 obtain ⟨vs,Lv,e,l,r,n,na,f⟩:=I.st
 have np:A∉P.as:=s.np A I.am
 refine ⟨I.am,I.ab,I.new,fun a z=>(I.own a z).gr g ((I.stt s).np a (List.mem_append_left _ z)),⟨vs,Lv,(g _ _ e np),l,zf.gr g (I.stt s).lists (fun _ z=>.inl z) (fun _ z=>.inl z) r,n,na,f⟩,I.gr.trans (g.sub fun _ z=>List.mem_cons_of_mem _ z),q,fun a z=>I.tr a (g.nil q z)⟩
theorem DI.fresh (I:DI K P M B H0 Hb A T H acc) {a:Addr} (h:H a=none):Hb a=none:=by
 cases e:Hb a with
 | none=>rfl
 | some o=>
  exfalso
  by_cases ha:a∈A::P.as
  ·rcases List.mem_cons.mp ha with z | z
   ·exact I.mo.trk (by rw [← z]; exact h)
   ·obtain ⟨xs,q⟩:=I.zM.lst z
    rw [h] at q; cases q
  ·exact (I.gr a o e ha).trk h
end
section
variable {K:PySem.W.Frag} {P:zR} {M B N L T:List Addr} {H H' H0 Hb Hc:Hp} {σ:Sg} {ρ:Env} {v:V} {d:D} {ds:List D} {J:It} {A:Addr} {acc acc':List (Key×D)}
theorem DI.start {M0 B0:List Addr} (hA:H0 A=none) (s0:Stt P M0 B0 H0):Stt P (A::M0) (A::B0) (upd H0 A (.dK []))∧DI K P (A::M0) (A::B0) H0 (upd H0 A (.dK [])) A [] (upd H0 A (.dK [])) []:=by
 have np:zF P (A::M0) (upd H0 A (.dK [])):=(s0.zM.grow (M':=A::M0) fun a z=>(List.mem_cons.mp z).elim (fun e=>.inr (by rw [e]; exact hA)) .inl).laid hA
 have g:Gr P.as H0 (upd H0 A (.dK [])):=Gr.laid hA
 have st:=s0.after (Lr:=[A]) g np (fun a z=>by
  rw [List.mem_singleton.mp z]
  exact ⟨_,upd_same,.dK⟩)
 refine ⟨st,List.mem_cons_self ..,List.mem_cons_self ..,fun _ z=>(nomatch z),fun _ z=>(nomatch z),⟨[],[],upd_same,rfl,.nil,List.nodup_nil,(fun z=>nomatch z),fun _ z=>(nomatch z)⟩,Gr.refl,np,fun a z=>?_⟩
 by_cases e:a=A
 ·rw [e]; exact hA
 ·rw [upd_ne e] at z; exact z
end
end DL.SK
namespace DL
open PySem PySem.Spec PyProof.Rows L2
end DL
set_option maxHeartbeats 4000000
set_option exponentiation.threshold 50000
namespace DL
open PySem PySem.Spec PyProof.Rows L2
end DL
set_option maxHeartbeats 4000000
set_option exponentiation.threshold 50000
namespace DL
open PySem PySem.Spec PyProof.Rows L2
end DL
set_option maxHeartbeats 4000000
namespace DL
open PySem PySem.Spec PyProof.Rows L2
end DL
set_option maxHeartbeats 4000000
namespace DL
open PySem PySem.Spec PyProof.Rows L2
variable [Tb]
section
variable {K:PySem.W.Frag} {P:zR} {M M' B B' L:List Addr} {H H':Hp}
theorem GrL.at (g:Gr (P.as++L) H H') (hP:∀ b∈P.as,∃ ys,H b=some (.lst ys)) (hL:∀ b∈L,Mo H b) {a:Addr} {o:HO} (h:H a=some o) (nl:∀ xs,o≠.lst xs) (nm:¬Mu o):GrO o (H' a):=
 g a _ h fun z=>by
  rcases List.mem_append.mp z with z | z
  ·obtain ⟨ys,q⟩:=hP a z
   rw [h] at q
   exact nl ys (Option.some.inj q)
  ·obtain ⟨u,e,m⟩:=hL a z
   rw [h] at e
   exact nm (by rw [Option.some.inj e]; exact m)
end
end DL
set_option maxHeartbeats 4000000
namespace DL
open PySem PySem.Spec PyProof.Rows L2
variable [Tb]
/-- from the first thing's data and the others':what it is behind the call,and the answer; or what is let out,and what it is then -/
abbrev Jy:=D→List D→(D→D→Prop)→(Exn→D→Prop)→Prop
/-- x's things are others now -/
structure Lft (K:PySem.W.Frag) (P:zR) (M L:List Addr) (H:Hp) (x:Addr) (d1:D) (Lx Lr:List Addr) (H':Hp):Prop where
 gr:∀ b o,H b=some o→b∉P.as→b∉L→GrO o (H' b)
 tab:∀ b q,(b,q)∈Tb.T→jo H b q→jo H' b q
 zM:zF P (Lr++(Lx++M)) H'
 rep:Rep K P (Lr++(Lx++M)) M H' (.ref x) d1 Lx
 nb:d1.nb=true
 nd:Lx.Nodup
 fr:∀ a∈Lx,a∈L∨H a=none
 tr:∀ b,H b≠none→H' b≠none
def zt2 (K:PySem.W.Frag) (P:zR) (M L:List Addr) (H:Hp) (x:Addr) (K0:D→D→Prop) (v:V) (H':Hp):Prop:=
 ∃ d1 r Lx Lr,K0 d1 r∧Lft K P M L H x d1 Lx Lr H'∧Rep K P (Lr++(Lx++M)) M H' v r Lr∧r.nb=true∧Lr.Nodup∧(∀ a∈Lr,a∉Lx)∧∀ a∈Lr,a∈L∨H a=none
def liftIO (K:PySem.W.Frag) (mg:Str→Option Value) (S:Jy):Sp:=fun vs H Q E=>∃ P M d0 ds K0 KX x us L,vs=.ref x::us∧Stt P (L++M) M H∧(∀ a∈L,a∉M)∧L.Nodup∧Rep K P (L++M) M H (.ref x) d0 L∧d0.nb=true∧
 zf K P (L++M) M H us ds []∧D.pfs ds=true∧S d0 ds K0 KX∧(∀ v H',zt2 K P M L H x K0 v H'→Q v H')∧
 ∀ e C d H' d1 Lx,KX e d1→mg e.nm=some (.ref C)→zgr K H' d e→Lft K P M L H x d1 Lx [] H'→E (.ref C) d H'
/-- the ends of such a def:slot 0 tells -/
def ioE (x:Addr) (K0:D→D→Prop) (KX:Exn→D→Prop):DE:=
 { nx:=fun ρ=>∃ C ns xs,ρ[0]?=some (some (.con (.ins C ns (some x)) .o xs))∧D.nps xs=true∧K0 (.con (.ins C ns none) .o xs) .non,rt:=fun _=>False,ex:=fun e ρ=>∃ C ns xs,ρ[0]?=some (some (.con (.ins C ns (some x)) .o xs))∧D.nps xs=true∧KX e (.con (.ins C ns none) .o xs),rm:=fun r ρ=>∃ C ns xs,ρ[0]?=some (some (.con (.ins C ns (some x)) .o xs))∧D.nps xs=true∧(r.nb=true∧r.np=true)∧K0 (.con (.ins C ns none) .o xs) r}
def zrz (L:List Addr) (i:Nat):List Addr:=if i=0 then L else []
theorem zaA {L:List Addr} {i:Nat} (h:i≠0):zrz L i=[]:=if_neg h
theorem zkM {j:Nat} {X:Cx} {P P':zR} {M M' B' L T:List Addr} {H H':Hp} {σ':Sg} {ρ':Env} {x C:Addr} {ns:List Str} {xs:List D} (hB:∀ a∈M,a∈B') (hT:∀ a∈T,a∈M'∧a∈B') (a:yJ P (L++M) M H P' M' H') (s':Stt P' M' B' H') (sl':Slots X.K P' M' B' H' σ' ρ') (nb:qm ρ')
  (e0:ρ'[j]?=some (some (.con (.ins C ns (some x)) .o xs))) (np:D.nps xs=true):∃ Lx,Lft X.K P M L H x (.con (.ins C ns none) .o xs) Lx T H'∧(∀ b∈Lx,b∉T)∧∀ b∈T++(Lx++M),b∈M':=by
 obtain ⟨v,Lx,e1,rr,hL,nd⟩:=sl'.get e0
 have hs:∀ b∈T++(Lx++M),b∈M':=fun b z=>by
  rcases List.mem_append.mp z with q | q
  ·exact (hT b q).1
  ·exact (List.mem_append.mp q).elim (fun q=>(hL b q).1) fun q=>s'.sub b (hB b q)
 have nb0:=nb j _ e0
 have rr:=Rep.JM a.zM (Rep.sub hs (fun _ z=>z) (Rep.nbB (X:=X) (B':=M) rr nb0)) (by simpa [D.np] using np)
 cases rr with
 | lstO hc hn rs=>
  obtain ⟨ok,dx',hh⟩:=hc.to
  obtain ⟨ok1,ok2⟩:=ok
  have:=ok2 x rfl
  subst this
  refine ⟨_,⟨fun b o hb hn hne=>a.gr b o hb hn ((Classical.em (b∈M)).elim .inr fun z=>.inl fun y=>(List.mem_append.mp y).elim hne z),a.tab,fun y l hy=>?_,.lstO (CtO.of (c:=.ins C ns none) (dx:=dx') ⟨ok1,fun y h=>nomatch h⟩ hh) hn rs,nb0,nd,fun b z=>?_,a.tr⟩,fun b z q=>(hL b z).2 (hT b q).2,hs⟩
  ·obtain ⟨h1,h2,h3,h4⟩:=s'.zM y l (a.zM _ hy)
   exact ⟨fun z=>h1 (hs y z),fun z=>h2 (hs l z),fun z=>h3 (QM a.zM l z),h4⟩
  ·rcases a.newm b (hL b z).1 with w | w
   ·exact (List.mem_append.mp w).elim .inl fun y=>absurd (hB b y) (hL b z).2
   ·exact .inr w
theorem zqN {X:Cx} {S:Jy} {t:DS} {N:List Str} {n:Nat} {E:XK} (tk:jJ X fun cls d _ H=>E cls d H)
  (hS:∀ d0 ds K0 KX,S d0 ds K0 KX→ds.length+1=n∧∃ C ns xs,d0=.con (.ins C ns none) .o xs∧∀ x,t (ioE x K0 KX) (zH N.length (.con (.ins C ns (some x)) .o xs::ds))) {vs:List V} {H:Hp} {Q:VK} (h:liftIO X.K X.mg S vs H Q E):
  qD X t { nx:=fun _ H'=>Q .non H',rt:=Q} (L2.start N vs) H:=by
 obtain ⟨P,M,d0,ds,K0,KX,x,us,L,rfl,s,LM,Lnd,r0,nb0,r,pf,q,k,kx⟩:=h
 obtain ⟨hl,C,ns,xs,rfl,q2⟩:=hS d0 ds K0 KX q
 have len:=r.len
 have r1:Rep X.K P (L++M) M H (.ref x) (.con (.ins C ns (some x)) .o xs) L:=by
  cases r0 with
  | lstO hc hn rr=>
   obtain ⟨ok,dx,hh⟩:=hc.to
   exact .lstO (CtO.of (c:=.ins C ns (some x)) (dx:=dx) ⟨ok.1,fun y h=>by injection h⟩ hh) hn rr
 refine ⟨P,L++M,M,zH N.length (.con (.ins C ns (some x)) .o xs::ds),ioE x K0 KX,s,⟨?_,zrz L,fun i d e=>?_,fun i a z=>?_,fun i=>?_,fun i j a z y=>?_⟩,fun i d e=>?_,q2 x,⟨?_,?_,?_,?_,?_,?_⟩⟩
 ·simp [zH,L2.start,len]
 ·obtain ⟨hi,e⟩:=zhN (vs:=.ref x::us) (by simp [len]) e
  cases i with
  | zero=>
   have e:D.con (.ins C ns (some x)) .o xs=d:=by simpa using e
   subst e
   exact ⟨.ref x,zhO rfl,r1⟩
  | succ j=>
   have e:ds[j]?=some d:=by simpa using e
   obtain ⟨v,e1,r2⟩:=zf.at0 r e
   exact ⟨v,zhO (by simpa using e1),by rw [zaA (Nat.succ_ne_zero j)]; exact r2⟩
 ·by_cases hi:i=0
  ·subst hi
   exact ⟨List.mem_append_left _ z,LM a z⟩
  ·rw [zaA hi] at z; cases z
 ·by_cases hi:i=0
  ·subst hi; exact Lnd
  ·rw [zaA hi]; exact List.nodup_nil
 ·by_cases hi:i=0
  ·by_cases hj:j=0
   ·rw [hi,hj]
   ·rw [zaA hj] at y; cases y
  ·rw [zaA hi] at z; cases z
 ·obtain ⟨hi,e⟩:=zhN (vs:=.ref x::us) (by simp [len]) e
  cases i with
  | zero=>
   have e:D.con (.ins C ns (some x)) .o xs=d:=by simpa using e
   subst e
   exact nb0
  | succ j=>
   have e:ds[j]?=some d:=by simpa using e
   exact D.zdA _ (zc0 pf e)
 ·intro P' M' H' σ' ρ' n a s' sl' nb
  obtain ⟨C,ns,xs,e0,np,k0⟩:=n
  obtain ⟨Lx,lf,_,_⟩:=zkM (T:=[]) (fun _ z=>z) (fun _ z=>nomatch z) a s' sl' nb e0 np
  exact k .non H' ⟨_,_,Lx,[],k0,lf,.non,rfl,List.nodup_nil,(fun _ z=>nomatch z),fun _ z=>nomatch z⟩
 ·intro _ _ _ _ _ z; exact z.elim
 ·intro _ _ _ _ _ z; exact z.elim
 ·intro _ _ _ _ _ _ z; exact z.elim
 ·intro e C' d P' M' H' σ' ρ' n m y a s' sl' nb
  obtain ⟨C,ns,xs,e0,np,k0⟩:=n
  obtain ⟨Lx,lf,_,_⟩:=zkM (T:=[]) (fun _ z=>z) (fun _ z=>nomatch z) a s' sl' nb e0 np
  exact WOf.of tk (kx e C' d H' _ Lx k0 m y lf)
 ·intro P' M' H' σ' ρ' v c Lr n a s' sl' nb rc nd fr
  obtain ⟨C,ns,xs,e0,np,⟨nbc,npc⟩,k0⟩:=n
  obtain ⟨Lx,lf,nx,hs⟩:=zkM (T:=Lr) (fun _ z=>List.mem_append_right _ z) (fun b z=>⟨(fr b z).1,List.mem_append_left _ z⟩) a s' sl' nb e0 np
  refine k v H' ⟨_,c,Lx,Lr,k0,lf,Rep.JM a.zM (Rep.sub hs (fun _ z=>z) (Rep.nbB (X:=X) (B':=M) rc nbc)) npc,nbc,nd,(fun b z q=>nx b q z),fun b z=>?_⟩
  rcases a.newm b (fr b z).1 with w | w
  ·exact (List.mem_append.mp w).elim .inl fun y=>absurd y (fr b z).2
  ·exact .inr w
end DL
set_option maxHeartbeats 4000000
namespace DL
open PySem PySem.Spec PyProof.Rows L2
variable [Tb]
def FxO (P:Program) (w:World) (K:PySem.W.Frag) (mg:Str→Option Value) (base:Heap) (k:Nat) (x:Str) (S:Jy):Prop:=
 ∃ f fd ps,FnOk P w K mg base (CXG P w) k f fd ps (liftIO K mg S)∧mg x=some (.ref f)∧PySem.W.keepIn K (.ref f)=true∧Binds K fd ps []
section
variable {P:Program} {w:World} {K:PySem.W.Frag} {mg:Str→Option Value} {base:Heap} {x qual:Str} {params:Arguments} {body:List Stmt} {scope:Scope} {f:Addr} {fd:FuncData} {S:Jy} {k k':Nat}
theorem FxO.imp (F:FxO P w K mg base k x S) (hk:k≤k'):FxO P w K mg base k' x S:=by
 obtain ⟨f,fd,ps,F,a,b,c⟩:=F
 exact ⟨f,fd,ps,F.mono hk,a,b,c⟩
theorem FxO.of {N ps:List Str} {t:DS} (F:FunD K x qual params body scope [] [] f fd) (gm:mg x=some (.ref f)) (Sc:FnScope N ps scope)
  (hb:∀ (kV doc pm:Value) (an:Option Addr) (cdv ct:Value) (us:List Value),us.length=ps.length→bindArgs (PySem.W.fnOf x qual params body scope .none kV doc pm an cdv ct) ⟨us,[]⟩=pure (ps.zip us))
  (walk:∀ (cdv:Value) (A:Around) (outer:List PySem.Env) (s:Shared) (H:Hp) (E:XK),Room k (A.deeper (envOfC qual scope s.heap.objs.size f cdv))→PDB (cxOf (CXG P w) P w K mg base N qual scope f cdv A outer s H E) body t)
  (hS:∀ d0 ds K0 KX,S d0 ds K0 KX→ds.length+1=ps.length∧∃ C ns xs,d0=.con (.ins C ns none) .o xs∧∀ x,t (ioE x K0 KX) (zH N.length (.con (.ins C ns (some x)) .o xs::ds))):FxO P w K mg base (k+1) x S:=by
 refine ⟨f,fd,ps,F.ok (N:=N) Sc (fun vs H Q E h=>?_) (fun cdv A outer s H vs Q E hr h=>⟨_,walk cdv A outer s H E hr,zqN (N:=N) za2 hS h⟩),gm,F.kp,F.bindsN hb⟩
 obtain ⟨P',M,d0,ds,K0,KX,y,us,L,rfl,s,_,_,_,_,r,pf,q,_⟩:=h
 rw [List.length_cons,r.len]
 exact (hS _ _ _ _ q).1
end
end DL
set_option maxHeartbeats 4000000
namespace DL
open PySem PySem.Spec PySem.Calls PyProof.Rows L2
end DL
set_option maxHeartbeats 4000000
namespace DL
open PySem PySem.Spec PyProof.Rows L2
end DL
set_option maxHeartbeats 4000000
namespace DL
open PySem PySem.Spec PyProof.Rows L2
variable [Tb]
/-- a method that may raise -/
def FxM (P:Program) (w:World) (K:PySem.W.Frag) (mg:Str→Option Value) (base:Heap) (k:Nat) (C:Addr) (m:Str) (S:qO):Prop:=
 ∃ f fd ps,FnOk P w K mg base (CXG P w) k f fd ps (zbY K mg S)∧Meth K C m f∧Binds K fd ps []
/-- a method that changes its own instance -/
def zsC (P:Program) (w:World) (K:PySem.W.Frag) (mg:Str→Option Value) (base:Heap) (k:Nat) (C:Addr) (m:Str) (S:Jy):Prop:=
 ∃ f fd ps,FnOk P w K mg base (CXG P w) k f fd ps (liftIO K mg S)∧Meth K C m f∧Binds K fd ps []
section
variable {P:Program} {w:World} {K:PySem.W.Frag} {mg:Str→Option Value} {base:Heap} {x nm qual:Str} {params:Arguments} {body:List Stmt} {scope:Scope} {f C:Addr} {fd:FuncData}
theorem FxM.ofG {N ps:List Str} {k:Nat} {S:qO} {t:DS} {m:Str} (F:FunD K m qual params body scope [] [] f fd) (M:Meth K C m f) (Sc:FnScope N ps scope)
  (hb:∀ (kV doc pm:Value) (an:Option Addr) (cdv ct:Value) (us:List Value),us.length=ps.length→bindArgs (PySem.W.fnOf m qual params body scope .none kV doc pm an cdv ct) ⟨us,[]⟩=pure (ps.zip us))
  (walk:∀ (cdv:Value) (A:Around) (outer:List PySem.Env) (s:Shared) (H:Hp) (E:XK),Room k (A.deeper (envOfC qual scope s.heap.objs.size f cdv))→Gd (cxOf (CXG P w) P w K mg base N qual scope f cdv A outer s H E) k→PassesOwn (model (cxOf (CXG P w) P w K mg base N qual scope f cdv A outer s H E).prog (cxOf (CXG P w) P w K mg base N qual scope f cdv A outer s H E).w) (cxOf (CXG P w) P w K mg base N qual scope f cdv A outer s H E).A (cxOf (CXG P w) P w K mg base N qual scope f cdv A outer s H E).env (cxOf (CXG P w) P w K mg base N qual scope f cdv A outer s H E).xe→PDB (cxOf (CXG P w) P w K mg base N qual scope f cdv A outer s H E) body t)
  (hS:∀ ds Q E,S ds Q E→ds.length=ps.length∧t (zbZ Q E) (zH N.length ds)):FxM P w K mg base (k+1) C m S:=by
 refine ⟨f,fd,ps,F.ok (N:=N) Sc (fun vs H Q E h=>?_) (fun cdv A outer s H vs Q E hr h=>⟨_,walk cdv A outer s H E hr ⟨rfl,Sc.nd,hr⟩ zct,zdb (N:=N) rfl za2 hS h⟩),M,F.bindsN hb⟩
 obtain ⟨P',M',ds,Q0,E0,s,r,pf,q,_⟩:=h
 rw [r.len]
 exact (hS _ _ _ q).1
end
end DL
set_option maxHeartbeats 4000000
namespace DL
open PySem PySem.Spec PyProof.Rows L2
variable [Tb]
def zt3 (K:PySem.W.Frag) (P:zR) (M L:List Addr) (x:Addr) (H:Hp) (K0:D→Prop) (H':Hp):Prop:=
 ∃ c Lr,K0 c∧(∀ b o,H b=some o→b∉P.as→b≠x→b∉L→GrO o (H' b))∧(∀ b q,(b,q)∈Tb.T→jo H b q→jo H' b q)∧zF P (Lr++M) H'∧Rep K P (Lr++M) (Lr++M) H' (.ref x) c Lr∧Lr.Nodup∧∀ a∈Lr,a=x∨a∈L∨H a=none
def zsD (K:PySem.W.Frag) (C:Addr) (S:Xj):Sp:=fun vs H Q _=>∃ P M ds K0 x dx us L,vs=.ref x::us∧Stt P (x::(L++M)) M H∧x∉L++M∧x∉P.as∧(∀ a∈L,a∉M)∧L.Nodup∧H x=some (.ins C dx [])∧zf K P (x::(L++M)) M H us ds L∧D.nbs ds=true∧S ds K0∧
 ∀ H',zt3 K P M L x H K0 H'→Q .non H'
def zm1 (P:Program) (w:World) (K:PySem.W.Frag) (mg:Str→Option Value) (base:Heap) (k:Nat) (x:Str) (C:Addr) (S:Xj):Prop:=
 ∃ f fd ps,FnOk P w K mg base CX0 k f fd ps (zsD K C S)∧Mk K C f∧mg x=some (.ref C)∧Binds K fd ps []
theorem zm1.imp {P:Program} {w:World} {K:PySem.W.Frag} {mg:Str→Option Value} {base:Heap} {S:Xj} {C:Addr} {x:Str} {k k':Nat} (F:zm1 P w K mg base k x C S) (hk:k≤k'):zm1 P w K mg base k' x C S:=by
 obtain ⟨f,fd,ps,F,a,b⟩:=F
 exact ⟨f,fd,ps,F.mono hk,a,b⟩
end DL
set_option maxHeartbeats 4000000
namespace DL
open PySem PySem.Spec PyProof.Rows L2
end DL
set_option maxHeartbeats 4000000
namespace DL
open PySem PySem.Spec PyProof.Rows L2
end DL
set_option maxHeartbeats 4000000
namespace DL
open PySem PySem.Spec PyProof.Rows L2
end DL
set_option maxHeartbeats 4000000
namespace PySem.DLH
open PySem PySem.Spec PyProof.Rows HotX
end PySem.DLH
set_option maxHeartbeats 4000000
namespace PySem.DLH
open PySem PySem.Spec PyProof.Rows HotX
end PySem.DLH
namespace DL
open PySem PySem.Spec PyProof.Rows L2 PySem.DLH
end DL
set_option maxHeartbeats 4000000
namespace DL
open PySem PySem.Spec PyProof.Rows L2 PySem.DLH
end DL
set_option maxHeartbeats 4000000
namespace DL
open PySem PySem.Spec PyProof.Rows L2
/-- a promise about an object that is not tracked -/
structure zrA (P:Program) (w:World) (K:PySem.W.Frag) (mg:Str→Option Value) (base:Heap) (CX:CXT) (k:Nat) (f:Addr) (fd:FuncData) (ps:List Str) (sp:Addr→Obj→Sp):Prop where
 len:∀ a oe vs H Q E,sp a oe vs H Q E→vs.length=ps.length
 run:∀ (A:Around) (outer:List PySem.Env) (s:Shared) (H:Hp) (args:PySem.Args) (us:List Value) (vs:List V) (Q:VK) (E:XK) (a:Addr) (oe:Obj),L2H.RoomH k A→L2H.Hot1 A (a,oe)→L2H.PinOk outer H s (a,oe)→Env0 P w K mg base A outer s H→BindsTo s fd args (ps.zip us)→Vals vs us→sp a oe vs H Q E→
  codeAny (model P w) A (.call (.ref f) args) (CR CX outer P w H s Q E) s
/-- the frame of such a def -/
abbrev cxP (CX:CXT) (P:Program) (w:World) (K:PySem.W.Frag) (mg:Str→Option Value) (base:Heap) (N:List Str) (qual:Str) (scope:Scope) (f:Addr) (cdv:Value) (A:Around) (outer:List PySem.Env) (s:Shared) (H:Hp) (E:XK) (a:Addr) (oe:Obj):Cx:=
 L2H.cxH CX P w K mg base N qual scope f cdv A outer s H E (a,oe)
theorem zsE {CX:CXT} {P:Program} {w:World} {K:PySem.W.Frag} {mg:Str→Option Value} {base:Heap} {k:Nat} {f:Addr} {name qual:Str} {params:Arguments} {body:List Stmt} {scope:Scope} {dV kV doc pm cdv ct oc:Value} {an od:Option Addr}
  {osl:Array (Option Value)} {N ps:List Str} {sp:Addr→Obj→Sp} (lk:K.lookup f=some ⟨oc,od,.func (PySem.W.fnOf name qual params body scope dV kV doc pm an cdv ct),osl⟩) (hcd:PySem.W.codeIn K cdv qual=true) (S:FnScope N ps scope)
  (len:∀ a oe vs H Q E,sp a oe vs H Q E→vs.length=ps.length)
  (hbody:∀ (A:Around) (outer:List PySem.Env) (s:Shared) (H:Hp) (vs:List V) (Q:VK) (E:XK) (a:Addr) (oe:Obj),L2H.Hot1 A (a,oe)→L2H.RoomH k (A.deeper (envOfC qual scope s.heap.objs.size f cdv))→sp a oe vs H Q E→
   ∃ t,PSs (cxP CX P w K mg base N qual scope f cdv A outer s H E a oe) body t∧t { nx:=fun _ H'=>Q .non H',rt:=Q} (start N vs) H):
  zrA P w K mg base CX (k+1) f (PySem.W.fnOf name qual params body scope dV kV doc pm an cdv ct) ps sp:=by
 refine ⟨len,fun A outer s H args us vs Q E a oe hr hot hpin e0 hb r hsp=>?_⟩
 have hl:=len _ _ _ _ _ _ hsp
 have KX:K.In s.heap:=e0.mod.kin.keeps fun b o e=>(e0.bs b o e).1
 have lim:s.heap.NoLimit:=e0.mod.nolimit.keeps fun b o e=>(e0.bs b o e).1
 have hkind:∀ y∈ps.zip us,scope.names.lookup y.1=some .local∨(scope.names.lookup y.1=some .cell∧((cellsFrom (s.heap.objs.size+1) scope.names []).lookup y.1).isSome=true):=fun ⟨n,v⟩ hy=>by
  rcases S.par n (List.of_mem_zip hy).1 with q | q
  ·exact .inl q
  ·exact .inr ⟨q,PySem.W.cellsFrom_some _ _ _ (.inl q)⟩
 refine codeAny_call_function hr.depth (KX _ _ lk) rfl S.co S.gen rfl (PySem.W.codeRec_of KX hcd) (hb _ _ _ _ ?_)
 refine wpAny_newFunctionEnv_cells S.kind hkind fun env he s1 x=>?_
 subst he
 refine ⟨lim.keeps x.toInCall.keep,codeAny_func ?_⟩
 obtain ⟨t,ht,hq⟩:=hbody A outer s H vs Q E a oe hot (hr.deeper _) hsp
 have I:Inv (cxP CX P w K mg base N qual scope f cdv A outer s H E a oe) [] (start N vs) H s1:=L2H.inv_startH S hpin e0 hl r x
 refine wpAny_mono (ht.run [] s1 (start N vs) H _ I hq) (fun fl s' hs=>?_) fun e s' hs=>hs
 have fin:∀ {σ':L2.St} {H':Hp} {v:V} {u:Value},Inv (cxP CX P w K mg base N qual scope f cdv A outer s H E a oe) [] σ' H' s'→RelV v u→Q v H'→CE outer P w H s Q u s':=
  fun {σ' H' v u} J rv q=>⟨v,H',J.os,J.bare,J.base,J.hok,rv,q⟩
 cases fl with
 | ret u=>
  obtain ⟨v,σ',H',J,rv,q⟩:=hs
  exact fin J rv q
 | next=>
  obtain ⟨σ',H',J,q⟩:=hs
  exact fin (v:=V.non) (u:=Value.none) J rfl q
 | brk=>
  obtain ⟨_,_,_,q⟩:=hs
  exact False.elim q
 | cont=>
  obtain ⟨_,_,_,q⟩:=hs
  exact False.elim q
end DL
set_option maxHeartbeats 4000000
namespace DL
open PySem PySem.Spec PySem.Calls PyProof.Rows PySem.W
end DL
namespace DL
open PySem PySem.Spec PyProof.Rows L2
end DL
set_option maxHeartbeats 4000000
namespace DL
open PySem PySem.Spec PyProof.Rows L2
variable [Tb]
abbrev HsN:=List (Str×Option Nat×(Addr→Addr→Str→DS))
def HsN.at (m:Nat) (hs:HsN) (N:DE) (x:Exn) (ρ:Env):Prop:=match hs with
 | []=>False
 | (n,none,t)::r=>if Yu x.nm n=true then t 0 0 "" N.calm ρ else HsN.at m r N x ρ
 | (n,some i,t)::r=>if Yu x.nm n=true then (∀ a dd,t a dd x.nm (zlX i N.calm) ((zpi m ρ).set i (some (.exc a dd x.ns x.ds)))) else HsN.at m r N x ρ
end DL
set_option maxHeartbeats 4000000
namespace DL
open PySem PySem.Spec PyProof.Rows L2
variable [Tb]
abbrev zfy:=Str→(D→Prop)→Prop
def zsF (K:PySem.W.Frag) (mg:Str→Option Value) (S:zfy):Addr→Obj→Sp:=fun a oe vs H Q _=>∃ P M nm C dd ns ds Q0,Stt P M M H∧vs=[.ref a]∧mg nm=some (.ref C)∧L2N.Zn (.ref C) (some dd) oe∧(∃ ws,oe.data=.fields ws)∧
 Rep K P M M H (.ref a) (.exc a dd ns ds) []∧S nm Q0∧∀ v H',Res K P M M [] H Q0 v H'→Q v H'
def FdP (P:Program) (w:World) (K:PySem.W.Frag) (mg:Str→Option Value) (base:Heap) (k:Nat) (x:Str) (S:zfy):Prop:=
 ∃ f fd ps,zrA P w K mg base CX0 k f fd ps (zsF K mg S)∧mg x=some (.ref f)∧PySem.W.keepIn K (.ref f)=true∧Binds K fd ps []
theorem FdP.imp {P:Program} {w:World} {K:PySem.W.Frag} {mg:Str→Option Value} {base:Heap} {x:Str} {S:zfy} {k k':Nat} (F:FdP P w K mg base k x S) (h:k≤k'):FdP P w K mg base k' x S:=by
 obtain ⟨f,fd,ps,F,a⟩:=F
 exact ⟨f,fd,ps,⟨F.len,fun A outer s H args us vs Q E a oe hr=>F.run A outer s H args us vs Q E a oe (hr.mono h)⟩,a⟩
theorem FdP.of {P:Program} {w:World} {K:PySem.W.Frag} {mg:Str→Option Value} {base:Heap} {x qual:Str} {params:Arguments} {body:List Stmt} {scope:Scope} {f:Addr} {fd:FuncData} {N ps:List Str} {k:Nat} {S:zfy} {t:Addr→Addr→Str→DS} (F:FunD K x qual params body scope [] [] f fd) (gm:mg x=some (.ref f)) (Sc:FnScope N ps scope)
  (hb:∀ (kV doc pm:Value) (an:Option Addr) (cdv ct:Value) (us:List Value),us.length=ps.length→bindArgs (PySem.W.fnOf x qual params body scope .none kV doc pm an cdv ct) ⟨us,[]⟩=pure (ps.zip us)) (hps:ps.length=1)
  (walk:∀ (cdv:Value) (A:Around) (outer:List PySem.Env) (s:Shared) (H:Hp) (E:XK) (a:Addr) (oe:Obj) (dd:Addr) (nm:Str) (C:Addr),L2H.Hot1 A (a,oe)→L2H.RoomH k (A.deeper (envOfC qual scope s.heap.objs.size f cdv))→mg nm=some (.ref C)→Zc (.ref C) (some dd) oe→(∃ ws,oe.data=.fields ws)→
   PDB (cxP CX0 P w K mg base N qual scope f cdv A outer s H E a oe).nox body (t a dd nm))
  (hS:∀ nm Q,S nm Q→∀ a dd ns ds,t a dd nm (yU Q) (zH N.length [.exc a dd ns ds])):FdP P w K mg base (k+1) x S:=by
 have kp:=F.kp
 have bn:=F.bindsN hb
 obtain ⟨oc,od,dV,kV,doc,pm,an,cdv,ct,osl,rfl,lk,hcd,_,_⟩:=F.ex
 refine ⟨f,_,ps,zsE lk hcd Sc (fun a oe vs H Q E h=>?_) fun A outer s H vs Q E a oe hot hr h=>?_,gm,kp,bn⟩
 ·obtain ⟨_,_,_,_,_,_,_,_,_,rfl,_⟩:=h
  exact hps.symm
 ·obtain ⟨P',M,nm,C,dd,ns,ds,Q0,st,rfl,hm,hz,hf,r,q,k'⟩:=h
  refine ⟨_,PSs.nox (walk cdv A outer s H E a oe dd nm C hot hr hm hz.zc hf),Q9 (S:=fun ds' Q'=>ds'=[.exc a dd ns ds]∧S nm Q') (n:=1) (fun ds' Q' h=>?_) (E:=E) ⟨P',M,[.exc a dd ns ds],Q0,st,.cons (L1:=[]) (L2:=[]) r .nil,rfl,⟨rfl,q⟩,k'⟩⟩
  obtain ⟨rfl,h⟩:=h
  exact ⟨rfl,hS nm Q' h a dd ns ds⟩
section
variable {X:Cx} {CX:CXT} {k i:Nat} {f a dd:Addr} {oe:Obj} {fd:FuncData} {ps:List Str} {sp:Addr→Obj→Sp} {E:XK} {x y n nm:Str} {p p1 p2 pos:Pos} {e:Expr} {te:TE} {S:zfy}
/-- the object at a stands in the i-th name -/
def excAt (a dd:Addr) (i:Nat) (ρ:Env):Prop:=∃ ns ds,Env.at ρ i=some (.exc a dd ns ds)
theorem excAt.get {P:zR} {M B:List Addr} {H:Hp} {σ:Sg} {ρ:Env} (h:excAt a dd i ρ) (sl:Slots X.K P M B H σ ρ):∃ ns vs ds,σ[i]?=some (some (.ref a))∧H dd=some (.xd (ns.zip vs))∧∀ {M' B':List Addr},Rep X.K P M' B' H (.ref a) (.exc a dd ns ds) []:=by
 obtain ⟨ns,ds,e⟩:=h
 obtain ⟨v,L,ev,r,_⟩:=sl.get (Env.zlv e)
 cases r with
 | exc h1 h2 h3 h4=>exact ⟨_,_,_,ev,h2,fun {_ _}=>Rep.zgo h1 h2 h3 h4⟩
end
end DL
set_option maxHeartbeats 4000000
namespace DL
open PySem PySem.Spec PyProof.Rows L2
end DL
set_option maxHeartbeats 4000000
namespace DL
open PySem PySem.Spec PyProof.Rows L2
end DL
set_option maxHeartbeats 4000000
namespace DL
open PySem PySem.Spec PyProof.Rows L2
end DL
set_option maxHeartbeats 4000000
namespace DL
open PySem PySem.Spec PyProof.Rows L2
end DL
set_option maxHeartbeats 4000000
namespace DL
open PySem PySem.Spec PyProof.Rows L2
variable [Tb]
abbrev RO (σ α:Type):=Except (Exn×σ) (σ×α)
def zsG {σ α:Type} (m:RO σ α) (K:σ→α→Prop) (KX:Exn→σ→Prop):Prop:=match m with
 | .ok (s,a)=>K s a
 | .error (x,s)=>KX x s
theorem zsG.mono {σ α:Type} {m:RO σ α} {K K':σ→α→Prop} {KX KX':Exn→σ→Prop} (h:zsG m K KX) (a:∀ s r,K s r→K' s r) (b:∀ x s,KX x s→KX' x s):zsG m K' KX':=by
 match m,h with
 | .ok (s,r),h=>exact a s r h
 | .error (x,s),h=>exact b x s h
end DL
set_option maxHeartbeats 4000000
set_option exponentiation.threshold 50000
namespace DL
open PySem PySem.Spec PyProof.Rows L2
variable [Tb]
inductive Th where
 | s (x:OkS) | i (n:Int) | p (x:Int×Int) | w (l:List (Int×Int)) | q (x:Int×Int×Int×Int)
 deriving DecidableEq
instance:Inhabited Th:=⟨.i 0⟩
def eTh:Th→D
 | .s x=>eS x
 | .i n=>eI n
 | .p x=>eT2 eI eI x
 | .w l=>eTL (eT2 eI eI) l
 | .q x=>eT4 eI eI eI eI x
instance:Pf eTh:=⟨fun x=>by
 cases x with
 | s x=>exact Pf.h (e:=eS) x
 | i x=>exact Pf.h (e:=eI) x
 | p x=>exact Pf.h (e:=eT2 eI eI) x
 | w x=>exact Pf.h (e:=eTL (eT2 eI eI)) x
 | q x=>exact Pf.h (e:=eT4 eI eI eI eI) x,fun x=>by
 cases x with
 | s x=>exact Pf.np (e:=eS) x
 | i x=>exact Pf.np (e:=eI) x
 | p x=>exact Pf.np (e:=eT2 eI eI) x
 | w x=>exact Pf.np (e:=eTL (eT2 eI eI)) x
 | q x=>exact Pf.np (e:=eT4 eI eI eI eI) x⟩
instance {n:Nat}:ShC (n+2) eTh:=⟨fun x=>by
 cases x with
 | s x=>exact ShC.h (e:=eS) x
 | i x=>exact ShC.h (e:=eI) x
 | p x=>exact ShC.h (e:=eT2 eI eI) x
 | w x=>exact ShC.h (e:=eTL (eT2 eI eI)) x
 | q x=>exact ShC.h (e:=eT4 eI eI eI eI) x⟩
instance:FlC true eTh:=⟨fun x=>by
 cases x with
 | s x=>exact FlC.h (e:=eS) x
 | i x=>exact FlC.h (e:=eI) x
 | p x=>exact FlC.h (e:=eT2 eI eI) x
 | w x=>exact FlC.h (e:=eTL (eT2 eI eI)) x
 | q x=>exact FlC.h (e:=eT4 eI eI eI eI) x⟩
instance:NN eTh:=⟨fun x=>by cases x <;> rfl,fun x=>by cases x <;> rfl,fun x=>by cases x <;> rfl⟩
theorem zpj (x:Int×Int):∀ l:List (Int×Int),eqD (eT2 eI eI x) (eTL (eT2 eI eI) l)=false∧eqD (eTL (eT2 eI eI) l) (eT2 eI eI x)=false
 | []=>⟨rfl,rfl⟩
 | [a]=>by
  refine ⟨?_,?_⟩ <;> rfl
 | a::b::r=>by
  refine ⟨?_,?_⟩ <;> rfl
theorem zpk (x:Int×Int×Int×Int):∀ l:List (Int×Int),eqD (eT4 eI eI eI eI x) (eTL (eT2 eI eI) l)=false∧eqD (eTL (eT2 eI eI) l) (eT4 eI eI eI eI x)=false
 | []=>⟨rfl,rfl⟩
 | a::r=>by
  refine ⟨?_,?_⟩ <;> rfl
theorem zpl (x:Int×Int) (y:Int×Int×Int×Int):eqD (eT2 eI eI x) (eT4 eI eI eI eI y)=false∧eqD (eT4 eI eI eI eI y) (eT2 eI eI x)=false:=by
 refine ⟨?_,?_⟩
 ·show eqD (.tup [eI x.1,eI x.2]) (.tup [eI y.1,eI y.2.1,eI y.2.2.1,eI y.2.2.2])=false
  rw [Qv,qU,qU]
  show (_&&(_&&false))=false
  rw [Bool.and_false,Bool.and_false]
 ·show eqD (.tup [eI y.1,eI y.2.1,eI y.2.2.1,eI y.2.2.2]) (.tup [eI x.1,eI x.2])=false
  rw [Qv,qU,qU]
  show (_&&(_&&false))=false
  rw [Bool.and_false,Bool.and_false]
instance:EqC eTh:=⟨fun x y=>by
 cases x with
 | s x=>cases y with
  | s y=>exact (EqC.h (e:=eS) x y).trans (decide_eq_decide.mpr (by simp))
  | _=>rfl
 | i x=>cases y with
  | i y=>exact (EqC.h (e:=eI) x y).trans (decide_eq_decide.mpr (by simp))
  | _=>rfl
 | p x=>cases y with
  | p y=>exact (EqC.h (e:=eT2 eI eI) x y).trans (decide_eq_decide.mpr (by simp))
  | w y=>exact (zpj x y).1
  | q y=>exact (zpl x y).1
  | _=>rfl
 | w x=>cases y with
  | w y=>exact (EqC.h (e:=eTL (eT2 eI eI)) x y).trans (decide_eq_decide.mpr (by simp))
  | p y=>exact (zpj y x).2
  | q y=>exact (zpk y x).2
  | _=>rfl
 | q x=>cases y with
  | q y=>exact (EqC.h (e:=eT4 eI eI eI eI) x y).trans (decide_eq_decide.mpr (by simp))
  | p y=>exact (zpl y x).2
  | w y=>exact (zpk x y).1
  | _=>rfl⟩
def isS:Th→Bool | .s _=>true | _=>false
end DL
set_option maxHeartbeats 4000000
set_option exponentiation.threshold 50000
namespace DL
open PySem PySem.Spec PyProof.Rows L2
variable [Tb]
/-- never None -/
class NI {α:Type} (e:α→D):Prop where
 h:∀ x,isN (e x)=false
instance {τ:Type} {c:Ct} {k:Fl} {fs:τ→List D}:NI (eN c k fs):=⟨fun _=>rfl⟩
end DL
set_option maxHeartbeats 4000000
set_option exponentiation.threshold 50000
namespace DL
open PySem PySem.Spec PyProof.Rows L2
variable [Tb]
theorem yJ.kp {P:zR} {M B:List Addr} {H:Hp} {P':zR} {M':List Addr} {H':Hp} (s:Stt P M B H) (f:yJ P M B H P' M' H'):Kp H H':=by
 have ok:∀ b o,H b=some o→(∀ ys,o≠.lst ys)→¬Mu o→b∉P.as∧(b∉M∨b∈B):=fun b o h n m=>⟨fun z=>by
  obtain ⟨ys,q⟩:=s.lists b z
  rw [h] at q
  exact n _ (Option.some.inj q),.inl fun z=>by
  obtain ⟨o',e,mu⟩:=s.ls b z
  rw [h] at e
  exact m (by rw [Option.some.inj e]; exact mu)⟩
 refine ⟨fun a o u h=>?_,fun a xs h=>?_⟩
 ·obtain ⟨n1,n2⟩:=ok a _ h (fun _ z=>nomatch z) (fun m=>nomatch m)
  exact (f.gr a _ h n1 n2).ne (fun ps z=>nomatch z)
 ·obtain ⟨n1,n2⟩:=ok a _ h (fun _ z=>nomatch z) (fun m=>nomatch m)
  exact f.gr a _ h n1 n2
section
variable {N:DE} {ρ:Env} {x:Exn}
inductive HsR (N:DE) (ρ:Env):Hs→List (Str×Prop)→Prop
 | nil:HsR N ρ [] []
 | cons {n:Str} {t:DS} {p:Prop} {hs:Hs} {l} (h:p→t (DE.calm N) ρ) (r:HsR N ρ hs l):HsR N ρ ((n,t)::hs) ((n,p)::l)
theorem HsR.at {hs:Hs} {l:List (Str×Prop)} (h:HsR N ρ hs l):hsW l x→hs.at N x ρ:=by
 induction h with
 | nil=>intro q; exact q.elim
 | @cons n t p hs l h r ih=>
  intro q
  unfold Hs.at
  unfold hsW at q
  by_cases b:Yu x.nm n=true
  ·rw [if_pos b]; exact h (q.1 b)
  ·rw [if_neg b]; exact ih (q.2 (by simpa using b))
end
section
variable {P:Program} {w:World} {K:PySem.W.Frag} {mg:Str→Option Value} {base:Heap} {qual:Str} {params:Arguments} {body:List Stmt} {scope:Scope} {f C:Addr} {fd:FuncData}
theorem FxM.of {N ps:List Str} {k:Nat} {S:qO} {t:DS} {m:Str} (F:FunD K m qual params body scope [] [] f fd) (M:Meth K C m f) (Sc:FnScope N ps scope)
  (hb:∀ (kV doc pm:Value) (an:Option Addr) (cdv ct:Value) (us:List Value),us.length=ps.length→bindArgs (PySem.W.fnOf m qual params body scope .none kV doc pm an cdv ct) ⟨us,[]⟩=pure (ps.zip us))
  (walk:∀ (cdv:Value) (A:Around) (outer:List PySem.Env) (s:Shared) (H:Hp) (E:XK),Room k (A.deeper (envOfC qual scope s.heap.objs.size f cdv))→PDB (cxOf (CXG P w) P w K mg base N qual scope f cdv A outer s H E) body t)
  (hS:∀ ds Q E,S ds Q E→ds.length=ps.length∧t (zbZ Q E) (zH N.length ds)):FxM P w K mg base (k+1) C m S:=
 FxM.ofG F M Sc hb (fun cdv A outer s H E hr _ _=>walk cdv A outer s H E hr) hS
theorem FxM.imp {S:qO} {m:Str} {k k':Nat} (F:FxM P w K mg base k C m S) (hk:k≤k'):FxM P w K mg base k' C m S:=by
 obtain ⟨f,fd,ps,F,a,b⟩:=F
 exact ⟨f,fd,ps,F.mono hk,a,b⟩
end
end DL
set_option maxHeartbeats 4000000
set_option exponentiation.threshold 50000
namespace DL
open PySem PySem.Spec PyProof.Rows L2
end DL
set_option maxHeartbeats 4000000
set_option exponentiation.threshold 50000
namespace DL
open PySem PySem.Spec PyProof.Rows L2
end DL
set_option maxHeartbeats 4000000
set_option exponentiation.threshold 50000
namespace DL
open PySem PySem.Spec PyProof.Rows L2
end DL
set_option maxHeartbeats 4000000
set_option exponentiation.threshold 50000
namespace DL
open PySem PySem.Spec PyProof.Rows L2
variable [Tb]
instance {α:Type} {a a':α→D} [WkC a a']:WkC (eTL a) (eTL a'):=⟨fun xs=>by show D.tup (D.wks (xs.map a))=_; rw [Ju (e':=a') WkC.h]; rfl⟩
instance:WkC eTh eTh:=⟨fun x=>by
 cases x with
 | s x=>rfl
 | i x=>rfl
 | p x=>rfl
 | w l=>exact WkC.h (e:=eTL (eT2 eI eI)) (e':=eTL (eT2 eI eI)) l
 | q x=>rfl⟩
end DL
set_option maxHeartbeats 1000000
set_option exponentiation.threshold 50000
namespace DLx
open PySem DLq
theorem zsH {h h':Heap} {i:Addr} {ty:String} {x:Str} {t:Tok} {n:Nat} (y:h.IsStrIter i ty x t n) (e:∀ o,h.get? i=some o→h'.get? i=some o):h'.IsStrIter i ty x t n:=by
 obtain ⟨o,q,r⟩:=y
 exact ⟨o,e o q,r⟩
/-- a zip of the text x and the list at b as it stands:m and n of them are drawn -/
structure jD (st:Bool) (h:Heap) (z TI TO i j:Addr) (x:Str) (t:Tok) (b:Addr) (g:Value) (m n:Nat):Prop where
 box:h.get? z=some (Qi st TI TO g)
 ins:h.get? TI=some (Jw (.ref i) (.ref j))
 out:∃ u v,h.get? TO=some (Jw u v)
 one:h.IsStrIter i (strIterType x) x t m
 two:zjd false h j b n
section
variable {st:Bool} {h h':Heap} {z TI TO i j b:Addr} {x:Str} {t:Tok} {g g':Value} {m n:Nat} {ys:Array Value}
theorem jD.boxed (Z:jD st h z TI TO i j x t b g m n) (D:ZipApart z TI TO i j b b) (s:∀ c o,c≠z→h.get? c=some o→h'.get? c=some o) (e:h'.get? z=some (Qi st TI TO g')):jD st h' z TI TO i j x t b g' m n:=
 have ⟨u,v,q⟩:=Z.out
 ⟨e,s _ _ D.TIz Z.ins,⟨u,v,s _ _ D.TOz q⟩,zsH Z.one fun o q=>s _ o D.i1z q,Z.two.at fun o q=>s _ o D.i2z q⟩
end
section
variable {prog:Program} {w:World} {A:Around} {E:Value→Shared→Prop} {s:Shared} {st:Bool} {x:Str} {t:Tok}
variable {z TI TO i j b:Addr} {m n:Nat} {ys:Array Value} {g:Value}
theorem jD.ty (Z:jD st s.heap z TI TO i j x t b g m n):s.TypeIs (.ref z) "zip":=⟨_,Z.box,rfl⟩
theorem jD.free {es:List Expr} {kk:Nat} {pos:Pos} {T:Addr} {Q:Unit→Shared→Prop} (D:ZipApart z TI TO i j b b) (Z:jD st s.heap z TI TO i j x t b (rawInt T) m n)
  (q:∀ h',jD st h' z TI TO i j x t b .none m n→(∀ c o,c≠z→s.heap.get? c=some o→h'.get? c=some o)→Q () { s with heap:=h'}):wpAny (model prog w) A (letOwnedTupleGo (.Tuple es kk pos) (.ref z) (.ref T)) Q E s:=by
 delta letOwnedTupleGo
 refine wpAny_bind (wpAny_load Z.box ?_)
 change wpAny _ _ (if (_&&(#[rawInt T,.bool false,.bool st,.ref TI,.ref TO]:Array Value)[0]? == some (rawInt T))=true then _ else _) Q E s
 rw [if_pos (by simp)]
 refine wpAny_bind (wpAny_rule ?_)
 change wpAny _ _ (setField (.ref z) 0 .none) Q E s
 exact zeX Z.box fun h' e k _=>q h' (Z.boxed D k e) k
end
end DLx
namespace DL
open PySem PySem.Spec PyProof.Rows L2
end DL
set_option maxHeartbeats 4000000
set_option exponentiation.threshold 50000
namespace DL
open PySem PySem.Spec PyProof.Rows L2
end DL
set_option maxHeartbeats 4000000
namespace PySem
end PySem
set_option maxHeartbeats 4000000
namespace DL
open PySem PySem.Spec PyProof.Rows L2
structure zt4 (K:PySem.W.Frag) (C:Addr):Prop where
 cls:∃ nm q N bs bm sn sub ab col dd k0 k1 k2 k3 k5,K.lookup C=some (excClassObj nm q C N bs bm true sn sub ab col dd k0 k1 k2 k3 k5 "LookupError.__new__")∧PySem.DLK.znE bm=true
 sa:PySem.W.findIn K (.ref C) "__setattr__"=some (some (.builtin "object.__setattr__"))
 exC:PySem.W.subIn K (.ref C) (.type "BaseException")=some true
 tyC:PySem.W.typeIn K (.ref C)=some (.type "type")
 kC:PySem.W.keepIn K (.ref C)=true
variable [Tb]
structure zt5 (K:PySem.W.Frag) (C fI:Addr) (fs:List Str):Prop where
 oex:zt4 K C
 ini:PySem.W.findIn K (.ref C) "__init__"=some (some (.ref fI))
 ty:PySem.W.typeIn K (.ref fI)=some (.type "function")
 at_:∀ f∈fs,PySem.W.findIn K (.ref C) f=some none
/-- one that goes on with its own name -/
def zuB (K:PySem.W.Frag) (z:Str):Sp:=fun vs H Q _=>∃ a C y,vs=[.ref a,y]∧zt4 K C∧PySem.W.findIn K (.ref C) "called"=some none∧PySem.W.findIn K (.ref C) "name"=some none∧H a=some (exo a C none)∧
 ∀ dx,H dx=none→dx≠a→Q .non (upd (upd H dx (exd dx [("name",y),("called",.str z)])) a (exo a C (some dx)))
def zsI (P:Program) (w:World) (K:PySem.W.Frag) (mg:Str→Option Value) (base:Heap) (k:Nat) (x z:Str):Prop:=∃ C fI fd ps,mg x=some (.ref C)∧zt5 K C fI ["called","name"]∧FnOk P w K mg base CX0 k fI fd ps (zuB K z)∧Binds K fd ps []
theorem zsI.imp {P:Program} {w:World} {K:PySem.W.Frag} {mg:Str→Option Value} {base:Heap} {k j:Nat} {x z:Str} (E:zsI P w K mg base j x z) (h:j≤k):zsI P w K mg base k x z:=by
 obtain ⟨C,fI,fd,ps,a,b,c,d⟩:=E
 exact ⟨C,fI,fd,ps,a,b,c.mono h,d⟩
end DL
set_option maxHeartbeats 4000000
namespace DL
open PySem PySem.Spec PyProof.Rows L2
end DL
set_option maxHeartbeats 4000000
namespace DL
open PySem PySem.Spec PyProof.Rows L2
end DL
set_option maxHeartbeats 4000000
namespace DL
open PySem PySem.Spec PyProof.Rows L2
variable [Tb]
def zuC (P:Program) (w:World) (K:PySem.W.Frag) (mg:Str→Option Value) (base:Heap) (k:Nat) (C:Addr) (m:Str) (S:zQ):Prop:=∃ j,j+1≤k∧FdM P w K mg base j C m S
theorem FdM.s {P:Program} {w:World} {K:PySem.W.Frag} {mg:Str→Option Value} {base:Heap} {k j:Nat} {C:Addr} {m:Str} {S:zQ} (F:FdM P w K mg base j C m S) (h:j+1≤k):zuC P w K mg base k C m S:=⟨j,h,F⟩
end DL
set_option maxHeartbeats 4000000
namespace DL
open PySem PySem.Spec PyProof.Rows L2
end DL
set_option maxHeartbeats 4000000
set_option exponentiation.threshold 50000
namespace DL
open PySem PySem.Spec PyProof.Rows L2
end DL
set_option maxHeartbeats 4000000
namespace DL
open PySem PySem.Spec PyProof.Rows L2
end DL
set_option maxHeartbeats 4000000
namespace DL
open PySem PySem.Spec PyProof.Rows L2
variable [Tb]
section
variable {α β γ δ:Type} {a a':α→D} {b b':β→D} {c c':γ→D} {d d':δ→D}
def eH4 (k:Fl) (a:α→D) (b:β→D) (c:γ→D) (d:δ→D):α×β×γ×δ→D:=fun p=>.con .l k [a p.1,b p.2.1,c p.2.2.1,d p.2.2.2]
instance [Pf a] [Pf b] [Pf c] [Pf d]:Pf (eH4 .f a b c d):=⟨fun x=>by show (true&&((a x.1).pf&&((b x.2.1).pf&&((c x.2.2.1).pf&&((d x.2.2.2).pf&&true)))))=true; rw [Pf.h,Pf.h,Pf.h,Pf.h]; rfl,fun x=>npS (ds:=[a x.1,b x.2.1,c x.2.2.1,d x.2.2.2]) (by simp [Pf.np])⟩
instance [Nb a] [Nb b] [Nb c] [Nb d]:Nb (eH4 .o a b c d):=⟨fun x=>nbS (ds:=[a x.1,b x.2.1,c x.2.2.1,d x.2.2.2]) (by simp [Nb.h])⟩
instance {k:Fl} [Np a] [Np b] [Np c] [Np d]:Np (eH4 k a b c d):=⟨fun x=>npS (ds:=[a x.1,b x.2.1,c x.2.2.1,d x.2.2.2]) (by simp [Np.h])⟩
instance [Vw a a'] [Vw b b'] [Vw c c'] [Vw d d']:Vw (eH4 .o a b c d) (eH4 .b a' b' c' d'):=⟨fun x=>by show D.lst .b [(a x.1).vw,(b x.2.1).vw,(c x.2.2.1).vw,(d x.2.2.2).vw]=_; rw [Vw.h (e':=a'),Vw.h (e':=b'),Vw.h (e':=c'),Vw.h (e':=d')]; rfl⟩
instance:Vw (eH4 .b a b c d) (eH4 .b a b c d):=⟨fun _=>rfl⟩
instance:Vw (eH4 .f a b c d) (eH4 .f a b c d):=⟨fun _=>rfl⟩
instance:Fz (eH4 .f a b c d) (eH4 .f a b c d):=⟨fun _=>rfl⟩
instance [Fz a a'] [Fz b b'] [Fz c c'] [Fz d d']:Fz (eH4 .o a b c d) (eH4 .f a' b' c' d'):=⟨fun x=>by show D.lst .f [(a x.1).fz,(b x.2.1).fz,(c x.2.2.1).fz,(d x.2.2.2).fz]=_; rw [Fz.h (e':=a'),Fz.h (e':=b'),Fz.h (e':=c'),Fz.h (e':=d')]; rfl⟩
instance [Fz a a'] [Fz b b'] [Fz c c'] [Fz d d']:Fz (eH4 .b a b c d) (eH4 .f a' b' c' d'):=⟨fun x=>by show D.lst .f [(a x.1).fz,(b x.2.1).fz,(c x.2.2.1).fz,(d x.2.2.2).fz]=_; rw [Fz.h (e':=a'),Fz.h (e':=b'),Fz.h (e':=c'),Fz.h (e':=d')]; rfl⟩
instance [Rt a a'] [Rt b b'] [Rt c c'] [Rt d d']:Rt (eH4 .o a b c d) (eH4 .o a' b' c' d'):=⟨fun x=>by show D.lst .o [(a x.1).rt,(b x.2.1).rt,(c x.2.2.1).rt,(d x.2.2.2).rt]=_; rw [Rt.h (e':=a'),Rt.h (e':=b'),Rt.h (e':=c'),Rt.h (e':=d')]; rfl⟩
instance:FlC true (eH4 .f a b c d):=⟨fun _=>rfl⟩
instance:FlC false (eH4 .o a b c d):=⟨fun _=>rfl⟩
instance:FlC false (eH4 .b a b c d):=⟨fun _=>rfl⟩
instance {n:Nat} {k:Fl} [ShC n a] [ShC n b] [ShC n c] [ShC n d]:ShC (n+1) (eH4 k a b c d):=⟨fun x=>zfm (by simp [ShC.h])⟩
instance {k:Fl}:NN (eH4 k a b c d):=⟨fun _=>rfl,fun _=>rfl,fun _=>rfl⟩
end
instance {α β γ δ:Type} {a a':α→D} {b b':β→D} {c c':γ→D} {d d':δ→D} [WkC a a'] [WkC b b'] [WkC c c'] [WkC d d']:WkC (eT4 a b c d) (eT4 a' b' c' d'):=⟨fun x=>by show D.tup [(a x.1).wk,(b x.2.1).wk,(c x.2.2.1).wk,(d x.2.2.2).wk]=_; rw [WkC.h (e':=a'),WkC.h (e':=b'),WkC.h (e':=c'),WkC.h (e':=d')]; rfl⟩
end DL
set_option maxHeartbeats 4000000
set_option exponentiation.threshold 50000
namespace DL
open PySem PySem.Spec PyProof.Rows L2
variable [Tb]
section
variable {P:Program} {w:World} {K:PySem.W.Frag} {mg:Str→Option Value} {base:Heap}
def zt6 (P:Program) (w:World) (K:PySem.W.Frag) (mg:Str→Option Value) (base:Heap) (k:Nat) (x:Str) (C:Addr) (S:Xj):Prop:=∃ j,j+1≤k∧zm1 P w K mg base j x C S
theorem zm1.s {k j:Nat} {x:Str} {C:Addr} {S:Xj} (F:zm1 P w K mg base j x C S) (h:j+1≤k):zt6 P w K mg base k x C S:=⟨j,h,F⟩
theorem zsC.imp {C:Addr} {m:Str} {S:Jy} {k k':Nat} (F:zsC P w K mg base k C m S) (h:k≤k'):zsC P w K mg base k' C m S:=by
 obtain ⟨f,fd,ps,F,a⟩:=F
 exact ⟨f,fd,ps,F.mono h,a⟩
end
end DL
set_option maxHeartbeats 4000000
set_option exponentiation.threshold 50000
namespace DL
open PySem PySem.Spec PyProof.Rows L2
end DL
set_option maxHeartbeats 4000000
set_option exponentiation.threshold 50000
namespace DL
open PySem PySem.Spec PyProof.Rows L2
end DL
set_option maxHeartbeats 4000000
set_option exponentiation.threshold 50000
namespace DL
open PySem PySem.Spec PyProof.Rows L2
end DL
set_option maxHeartbeats 4000000
set_option exponentiation.threshold 50000
namespace L2
open PySem PySem.Spec PyProof.Rows
end L2
namespace DL
open PySem PySem.Spec PyProof.Rows L2
end DL
set_option maxHeartbeats 4000000
namespace DL
open PySem PySem.Spec PyProof.Rows L2
end DL
set_option maxHeartbeats 4000000
namespace L2
open PySem PySem.Spec PyProof.Rows
end L2
namespace DL
open PySem PySem.Spec PyProof.Rows L2
end DL
namespace DL
open PySem PySem.Spec PyProof.Rows L2
end DL
set_option maxHeartbeats 4000000
namespace DL
open PySem PySem.Spec PyProof.Rows L2
end DL
namespace DL
open PySem PySem.Spec PyProof.Rows L2
end DL
set_option maxHeartbeats 4000000
namespace DL
open PySem PySem.Spec PyProof.Rows L2
end DL
set_option maxHeartbeats 4000000
set_option exponentiation.threshold 50000
namespace DL
open PySem PySem.Spec PyProof.Rows L2
end DL
set_option maxHeartbeats 4000000
namespace DL
open PySem PySem.Spec PyProof.Rows L2
variable [Tb]
def zqO (K:PySem.W.Frag) (mg:Str→Option Value) (S:Jy):Sp:=fun vs H Q E=>∃ P M d0 dp ds K0 KX x up us L,vs=up::.ref x::us∧Stt P (L++M) M H∧(∀ a∈L,a∉M)∧L.Nodup∧Rep K P (L++M) M H (.ref x) d0 L∧d0.nb=true∧
 zf K P (L++M) M H (up::us) (dp::ds) []∧D.pfs (dp::ds)=true∧S d0 (dp::ds) K0 KX∧(∀ v H',zt2 K P M L H x K0 v H'→Q v H')∧
 ∀ e C d H' d1 Lx,KX e d1→mg e.nm=some (.ref C)→zgr K H' d e→Lft K P M L H x d1 Lx [] H'→E (.ref C) d H'
def zsJ (P:Program) (w:World) (K:PySem.W.Frag) (mg:Str→Option Value) (base:Heap) (k:Nat) (x:Str) (S:Jy):Prop:=
 ∃ f fd ps,FnOk P w K mg base (CXG P w) k f fd ps (zqO K mg S)∧mg x=some (.ref f)∧PySem.W.keepIn K (.ref f)=true∧Binds K fd ps []
section
variable {P:Program} {w:World} {K:PySem.W.Frag} {mg:Str→Option Value} {base:Heap} {x qual:Str} {params:Arguments} {body:List Stmt} {scope:Scope} {f:Addr} {fd:FuncData} {S:Jy} {k k':Nat}
theorem zsJ.imp (F:zsJ P w K mg base k x S) (hk:k≤k'):zsJ P w K mg base k' x S:=by
 obtain ⟨f,fd,ps,F,a,b,c⟩:=F
 exact ⟨f,fd,ps,F.mono hk,a,b,c⟩
end
end DL
set_option maxHeartbeats 4000000
namespace DL
open PySem PySem.Spec PyProof.Rows L2
end DL
set_option maxHeartbeats 4000000
set_option maxHeartbeats 4000000
namespace DLr
open PySem PySem.Spec PyProof.Rows L2
/-- the exception a is noted (fl) in the heap g of t; σ and H tell what is left without it -/
structure Fly (X:Cx) (pins:List (Addr×Obj)) (a:Addr) (Z:Obj→Prop) (σ:L2.St) (H:Hp) (t:Shared) (g:Heap) (fl:Value) (B:Heap) (sI:Shared):Prop where
 inv:Inv X pins σ H sI
 nb:∀ b o,sI.heap.get? b=some o→b∉frs X.stack→B.get? b=some o
 up:sI.heap.UpToSlots g
 st:B.StaysIn g
 bn:B.get? a=none
 ff:g.FunFrames B (X.env::X.outer)
 tr:HandSPX.TracedZ g B a Z fl
 na:H a=none
 os:t.os=sI.os
 ag:AllBare t.gens
section
variable {X:Cx} {pins:List (Addr×Obj)} {a:Addr} {Z:Obj→Prop} {σ:L2.St} {H:Hp} {t:Shared} {g:Heap} {fl:Value} {B:Heap} {sI:Shared} {A:Around} {Q:Unit→Shared→Prop} {E:Value→Shared→Prop} {M:Model}
theorem Fly.to {g':Heap} {fl':Value} (F:Fly X pins a Z σ H t g fl B sI) (h1:B.StaysIn g') (h2:g'.FunFrames B (X.env::X.outer)) (h3:HandSPX.TracedZ g' B a Z fl') (h4:g.UpToSlots g'):Fly X pins a Z σ H t g' fl' B sI:=
 { F with up:=F.up.trans h4,st:=h1,ff:=h2,tr:=h3}
theorem Fly.again (F:Fly X pins a Z σ H t g (rawInt X.env.locals) B sI) (hf:X.env.frame=some X.env.locals) (h:Q () { t with heap:=g}):wpAny M A (noteFrame (.ref a) X.env) Q E { t with heap:=g}:=
 HandSPX.againZ (s:={ t with heap:=g}) hf F.tr h
end
end DLr
set_option maxHeartbeats 4000000
set_option maxHeartbeats 4000000
namespace DL
open PySem PySem.Spec PyProof.Rows L2
variable [Tb]
section
variable {K:PySem.W.Frag} {P P':zR} {M M' B B':List Addr} {H H':Hp}
mutual
theorem Rep.zje (k:Kp H H'):∀ {v:V} {d:D} {L:List Addr},Rep K P M B H v d L→d.bare=true→L=[]∧Rep K P' M' B' H' v d []
 | _,_,_,.non,_=>⟨rfl,.non⟩
 | _,_,_,.bl,_=>⟨rfl,.bl⟩
 | _,_,_,.int,_=>⟨rfl,.int⟩
 | _,_,_,.str,_=>⟨rfl,.str⟩
 | _,_,_,.pen _,p=>by simp [D.bare] at p
 | _,_,_,.tup h r,p=>by
  obtain ⟨e,q⟩:=zf.zje k r (by simpa [D.bare] using p)
  exact ⟨e,.tup (k.2 _ _ h) q⟩
 | _,_,_,.lstF _ _ _,p=>by simp [D.bare] at p
 | _,_,_,.lstB _ _,p=>by simp [D.bare] at p
 | _,_,_,.lstO _ _ _,p=>by simp [D.bare] at p
 | _,_,_,.exc _ _ _ _,p=>by simp [D.bare] at p
theorem zf.zje (k:Kp H H'):∀ {vs:List V} {ds:List D} {L:List Addr},zf K P M B H vs ds L→D.ZL ds=true→L=[]∧zf K P' M' B' H' vs ds []
 | _,_,_,.nil,_=>⟨rfl,.nil⟩
 | _,_,_,.cons h r,p=>by
  simp only [D.ZL,Bool.and_eq_true] at p
  obtain ⟨e1,q1⟩:=Rep.zje k h p.1
  obtain ⟨e2,q2⟩:=zf.zje k r p.2
  subst e1 e2
  exact ⟨rfl,.cons (L1:=[]) (L2:=[]) q1 q2⟩
end
theorem zgr.after {d:Option Addr} {x:Exn} (s:Stt P M B H) (a:yJ P M B H P' M' H') (h:zgr K H d x):zgr K H' d x:=by
 obtain ⟨dd,vs,e,hl,hx,r,p⟩:=h
 refine ⟨dd,vs,e,hl,?_,(zf.zje (a.kp s) r p).2,p⟩
 refine a.gr dd _ hx (fun z=>?_) (.inl fun z=>?_)
 ·obtain ⟨ys,q⟩:=s.lists dd z
  rw [hx] at q; cases q
 ·exact (s.ls dd z).nt.2.2.2.2 _ hx
end
abbrev HsJ:=List (Str×Nat×(Addr→Addr→Str→DS))
/-- the ends of a suite that raises:behind e's going the finally suite,then it goes on -/
def zt7 (i:Nat) (fin:DS) (N:DE):DE:={ nx:=fun _=>False,rt:=fun _=>False,ex:=fun y ρ=>fin { nx:=fun ρ2=>N.ex y ρ2,rt:=fun _=>False} (ρ.set i none)}
def HsJ.at (m:Nat) (fin:DS) (hs:HsJ) (N:DE) (x:Exn) (ρ:Env):Prop:=match hs with
 | []=>False
 | (n,i,t)::r=>if Yu x.nm n=true then (Tb.bk (Tb.cl x.nm)=false∧∀ a dd,t a dd x.nm (zt7 i fin N) ((zpi m ρ).set i (some (.exc a dd x.ns x.ds)))) else HsJ.at m fin r N x ρ
end DL
set_option maxHeartbeats 4000000
namespace DL
open PySem PySem.Spec PyProof.Rows L2
end DL
namespace DL
open PySem PySem.Spec PyProof.Rows L2
variable [Tb]
/-- of the classes that the law knows,Broken alone is raised while another exception is handled -/
def zrB (z:Str):Prop:=(∀ nm l,zmo.lookup nm=some l→nm≠z→Tb.bk (Tb.cl nm)=false)∧Tb.bk (Tb.cl z)=true
theorem zrB.of {z:Str} (h:zrB z) {x:Exn} {n:Str} (s:Yu x.nm n=true) (hz:x.nm≠z):Tb.bk (Tb.cl x.nm)=false:=by
 unfold Yu at s
 split at s
 ·exact h.1 _ _ (by assumption) hz
 ·cases s
end DL
set_option maxHeartbeats 4000000
namespace DL
open PySem PySem.Spec PyProof.Rows L2
end DL
set_option maxHeartbeats 4000000
namespace DL
open PySem PySem.Spec PyProof.Rows L2
variable [Tb]
def D.isS:D→Bool
 | .str _=>true
 | _=>false
def zuD:D→D
 | .con .l .f xs=>.con .l .o xs
 | d=>d
/-- nothing,or texts -/
def tld (c:D):Prop:=c=.non∨∃ y ys,c=.con .l .f (.str y::ys)∧D.ZL ys=true
def zqP (S:zQ) (i j:Nat):DT:=fun ρ Q=>∃ k xs s,ρ[i]?=some (some (.con .l k xs))∧ρ[j]?=some (some (.int s))∧D.ZL xs=true∧D.pfs xs=true∧(∀ x∈xs,x.isS=false)∧
 S [.con .l .f xs,.int s] fun c=>tld c∧Q (zuD c)
section
variable {K:PySem.W.Frag} {P:zR} {M B:List Addr} {H H':Hp} {σ:Sg}
theorem zf.noS:∀ {vs:List V} {ds:List D} {L:List Addr},zf K P M B H vs ds L→(∀ x∈ds,x.isS=false)→∀ v∈vs,∀ z,v≠.str z
 | _,_,_,.nil,_=>fun _ h=>nomatch h
 | _,_,_,.cons r rs,n=>fun v h z e=>by
  rcases List.mem_cons.mp h with h | h
  ·subst h
   subst e
   have:=n _ (List.mem_cons_self ..)
   cases r
   cases this
  ·exact zf.noS rs (fun x m=>n x (List.mem_cons_of_mem _ m)) v h z e
theorem zf.zuE {d:D} {vs:List V} {ds:List D} {L:List Addr} (h:zf K P M B H vs (d::ds) L):∃ v vs' L1 L2,vs=v::vs'∧Rep K P M B H v d L1∧zf K P M B H vs' ds L2:=by
 cases h with
 | cons r rs=>exact ⟨_,_,_,_,rfl,r,rs⟩
theorem newL {n:Nat} (hn:∀ a,H a≠none→a < n) {ex:List Addr} (hex:∀ a∈ex,∃ vs,Rd H a (.lst vs)∧∀ v∈vs,∀ z,v≠.str z) (s:Stt P M B H):
  ∃ M':List Addr,Stt P M' M' H∧(∀ a∈ex,a∉M')∧∀ {H':Hp} {a:Addr} {y:PySem.Str} {vs:List V},Gr P.as H H'→a∉P.as++M'→H' a=some (.lst (.str y::vs))→H a=none:=by
 classical
 refine ⟨(List.range n).filter fun a=>decide (Mo H a∧a∉P.as∧a∉P.map (·.2)∧a∉ex),⟨fun a l hl=>?_,fun _ z=>z,fun a z=>?_,s.tabs⟩,fun a z w=>?_,?_⟩
 ·obtain ⟨_,_,n3,r⟩:=s.zM a l hl
  refine ⟨fun z=>?_,fun z=>?_,n3,r⟩
  ·exact (of_decide_eq_true (List.mem_filter.mp z).2).2.1 (List.mem_map.mpr ⟨_,hl,rfl⟩)
  ·exact (of_decide_eq_true (List.mem_filter.mp z).2).2.2.1 (List.mem_map.mpr ⟨_,hl,rfl⟩)
 ·exact (of_decide_eq_true (List.mem_filter.mp z).2).1
 ·exact (of_decide_eq_true (List.mem_filter.mp w).2).2.2.2 z
 ·intro H' a y vs g na e
  cases h:H a with
  | none=>rfl
  | some o=>
   exfalso
   have np:a∉P.as:=fun z=>na (List.mem_append_left _ z)
   have go:=g a o h np
   rw [e] at go
   have eo:o=.lst (.str y::vs):=by
    cases o with
    | lst xs=>exact (Option.some.inj go).symm
    | tbl ps=>obtain ⟨_,z⟩:=go; cases z
    | _=>cases go
   subst eo
   refine na (List.mem_append_right _ (List.mem_filter.mpr ⟨List.mem_range.mpr (hn a (by rw [h]; exact fun z=>nomatch z)),decide_eq_true ⟨.l h,np,fun z=>?_,fun z=>?_⟩⟩))
   ·obtain ⟨⟨b,l⟩,hl,rfl⟩:=List.mem_map.mp z
    obtain ⟨_,_,_,ns,_,_,_,_,e2,_⟩:=s.zM b l hl
    rw [h] at e2
    injection e2 with e2
    injection e2 with e2
    cases ns <;> cases e2
   ·obtain ⟨ws,r,nw⟩:=hex a z
    rcases r with r | ⟨x,r⟩ <;> rw [h] at r
    ·injection r with r
     injection r with r
     exact nw (.str y) (by rw [← r]; exact List.mem_cons_self ..) y rfl
    ·cases r
theorem zpm {S:zQ} {i j n:Nat} {Q:VK} {E:XK} (hn:∀ a,H a≠none→a < n) (h:lift K (zqP S i j) σ H Q):∃ v s,σ[i]?=some (some v)∧σ[j]?=some (some (.int s))∧Q8 K S [v,.int s] H Q E:=by
 obtain ⟨P,M,B,ρ,Q0,st,sl,⟨k,xs,s,e1,e2,hb,hp,hx,q⟩,kq⟩:=h
 obtain ⟨v,L,ev,r,_,_⟩:=sl.get e1
 obtain ⟨v2,L2,ev2,r2,_,_⟩:=sl.get e2
 cases r2
 refine ⟨v,s,ev,ev2,?_⟩
 -- the list that is handed in
 have inp:∃ (a0:Addr) (vs0:List V) (ex:List Addr),v=.ref a0∧(∀ N:List Addr,(∀ b∈N,b∈P.as∨b∉ex)→(∀ b∈P.as,b∉ex)→(∀ b∈ex,b∉N)→SqC K N H .l a0 vs0)∧(∀ b∈ex,b∉P.as)∧(∀ a∈ex,∃ vs,Rd H a (.lst vs)∧∀ v∈vs,∀ z,v≠.str z)∧∃ M2 B2 L2,zf K P M2 B2 H vs0 xs L2:=by
  have key:∀ {a0:Addr} {vs0:List V} {N0:List Addr} {M2 B2 L2:List Addr},(∀ b∈P.as,b∈N0)→SqC K N0 H .l a0 vs0→zf K P M2 B2 H vs0 xs L2→∃ (a1:Addr) (vs1:List V) (ex:List Addr),(V.ref a0)=.ref a1∧(∀ N:List Addr,(∀ b∈N,b∈P.as∨b∉ex)→(∀ b∈P.as,b∉ex)→(∀ b∈ex,b∉N)→SqC K N H .l a1 vs1)∧(∀ b∈ex,b∉P.as)∧(∀ a∈ex,∃ vs,Rd H a (.lst vs)∧∀ v∈vs,∀ z,v≠.str z)∧∃ M2 B2 L2,zf K P M2 B2 H vs1 xs L2:=by
   intro a0 vs0 N0 M2 B2 L2 hN sq rr
   rcases sq.1 with ⟨rd,nn⟩ | kl
   ·refine ⟨a0,vs0,[a0],rfl,fun N _ _ h=>⟨.inl ⟨rd,h a0 (List.mem_cons_self ..)⟩,sq.2⟩,fun b z w=>?_,fun a z=>?_,_,_,_,rr⟩
    ·rw [List.mem_singleton.mp z] at w
     exact nn (hN _ w)
    ·rw [List.mem_singleton.mp z]
     exact ⟨vs0,rd,zf.noS rr hx⟩
   ·exact ⟨a0,vs0,[],rfl,fun N _ _ _=>⟨.inr kl,sq.2⟩,fun _ z=>(nomatch z),fun _ z=>(nomatch z),_,_,_,rr⟩
  cases r with
  | lstF h rr _=>exact key (fun b z=>List.mem_append_left _ z) h rr
  | lstB h rr=>exact key (fun b z=>List.mem_append_left _ z) h rr
  | lstO h m rr=>exact key (N0:=P.as) (fun b z=>z) (h.sq m) rr
 obtain ⟨a0,vs0,ex,rfl,sq,np,hex,M2,B2,L2,rr⟩:=inp
 obtain ⟨M',st',nex,nw⟩:=newL hn hex st
 have sq':SqC K (P.as++M') H .l a0 vs0:=sq _ (fun b z=>(List.mem_append.mp z).imp id fun z w=>nex b w z) (fun b z w=>np b w z) fun b z w=>(List.mem_append.mp w).elim (np b z) (nex b z)
 have rr':zf K P M' M' H vs0 xs []:=(zf.bare Gr.refl st.lists rr hb).2
 refine ⟨P,M',[.con .l .f xs,.int s],_,st',?_,by simp [D.pfs,D.pf,hp],q,fun v H' res=>?_⟩
 ·have:=zf.cons (.lstF sq' rr' hp) (zf.cons (K:=K) (P:=P) (M:=M') (B:=M') (H:=H) (.int (i:=s)) .nil)
  simpa using this
 obtain ⟨c,Lr,⟨hc,qc⟩,g,p,rc,nd,fr⟩:=res
 rcases hc with e | ⟨y,ys,e,by_⟩
 ·subst e
  cases rc
  exact kq _ _ ⟨_,[],qc,g,st.zM.join (L:=[]) p,.non,List.nodup_nil,fun _ z=>nomatch z⟩
 ·subst e
  cases rc with
  | @lstF _ a vs _ sqr rs _=>
   obtain ⟨w,vs,La,Lb,rfl,r0,rs0⟩:=rs.zuE
   ·cases r0
    have e':H' a=some (.lst (.str y::vs)):=by
     rcases sqr.2 with z | z
     ·exact z
     ·obtain ⟨i,z⟩:=z _ (List.mem_cons_self ..)
      cases z
    have na:a∉P.as++M':=by
     rcases sqr.1 with z | z
     ·simpa using z.2
     ·obtain ⟨i,z⟩:=z.1 _ (List.mem_cons_self ..)
      cases z
    have ha:H a=none:=nw g na e'
    have ap:a∉P.as:=fun z=>na (List.mem_append_left _ z)
    have pe:zF P ([a]++M) H:=st.zM.grow fun b z=>(List.mem_append.mp z).elim (fun z=>.inr (by rw [List.mem_singleton.mp z]; exact ha)) .inl
    have rs':zf K P ([a]++M) ([a]++B) H' vs ys []:=(zf.bare Gr.refl (fun b z=>p.lst z) rs0 by_).2
    refine kq _ _ ⟨_,[a],qc,g,by simpa using pe.join (L:=[]) p,?_,by simp,fun b z=>.inl (by rw [List.mem_singleton.mp z]; exact ha)⟩
    exact .lstO e' ap (zf.cons (L1:=[]) (L2:=[]) .str rs')
end
section
variable {X:Cx} {kwl:List Keyword} {pos p p1 p2 kp:Pos} {k:Nat} {x y z kw:Str} {S:zQ} {st:Stmt} {ps:List Str} {kws:List (Str×V)}
/-- x(y,kw=z) tells a new list -/
theorem zqQ (i j:Nat) (F:FdK X.prog X.w X.K X.mg X.base k x st ps kws S) (hr:Room k X.A) (ko:zkw x st ps 1 [kw] [] (fun us _ ws=>us++ws)) (hk:kws≠[])
  (hi:X.N[i]?=some y:=by rfl) (hv:Vis X.env.scope y:=by first | exact Or.inl rfl | exact Or.inr (Or.inl rfl) | exact Or.inr (Or.inr rfl)) (hd:(y == ("__debug__":Str))=false:=by decide) (hcd:(y == ("__classdict__":Str))=false:=by decide)
  (hj:X.N[j]?=some z:=by rfl) (hv2:Vis X.env.scope z:=by first | exact Or.inl rfl | exact Or.inr (Or.inl rfl) | exact Or.inr (Or.inr rfl)) (hd2:(z == ("__debug__":Str))=false:=by decide) (hcd2:(z == ("__classdict__":Str))=false:=by decide) (hg:Gl X x:=by rfl)
  (hall:(backToKw pos (keywordEach [⟨some kw,.Name z p2,kp⟩] X.env)).all (·.1.isSome)=true:=by rfl) (hks:(backToKw pos (keywordEach [⟨some kw,.Name z p2,kp⟩] X.env)).filterMap (·.1)=[kw]:=by rfl)
  (hdb:(x == ("__debug__":Str))=false:=by decide) (he:starEach [.Name y p1] X.env=(false,eval (.Name y p1) X.env)::starEach [] X.env:=by rfl)
  (hpl:((backTo pos (starEach [.Name y p1] X.env)).any (·.1)||(backToKw pos (keywordEach [⟨some kw,.Name z p2,kp⟩] X.env)).any (·.1.isNone))=false:=by rfl):
  PD X (.Call (.Name x p) [.Name y p1] [⟨some kw,.Name z p2,kp⟩] pos) (zqP S i j):=by
 obtain ⟨f,fd,F,a,b,c⟩:=F
 obtain ⟨mv,hb⟩:=FunD.kbinds0 (ps:=ps) c 1 [kw] ([]:List (Str×V)) (fun us _ ws=>us++ws) hk (fun _ z=>nomatch z) (fun r1 r2 r3=>r1.append r3) (fun D doc pm an cdv ct us mv ws h1 h2 h3=>ko D doc pm an cdv ct us mv ws h1 h2 h3)
 refine ⟨fun pins s σ H Q I hw=>(pe_callN F hr hg a b hb (E:=E0) (CX:=CX0) pass0 (pa_cons (pe_var hi hv hd hcd) pa_nil he) (pk_cons (pe_var hj hv2 hd2 hcd2) pk_nil) hall hks hdb he hpl).run pins s σ H Q I ?_⟩
 obtain ⟨v,n,e1,e2,q⟩:=zpm (n:=s.heap.objs.size) (E:=E0) (fun a h=>by
  cases e:H a with
  | none=>exact absurd e h
  | some o=>exact I.hok.lt e) hw
 exact ⟨v,e1,_,e2,rfl,rfl,q⟩
end
/-- bare data,no texts -/
class NsC {α:Type} (e:α→D):Prop where
 h:∀ x,(e x).bare=true∧(e x).pf=true∧(e x).isS=false
instance:NsC (eT3 eS eI eI):=⟨fun _=>⟨rfl,rfl,rfl⟩⟩
theorem NsC.all {α:Type} {e:α→D} [NsC e]:∀ l:List α,D.ZL (l.map e)=true∧D.pfs (l.map e)=true∧∀ x∈l.map e,x.isS=false
 | []=>⟨rfl,rfl,fun _ z=>nomatch z⟩
 | x::l=>by
  obtain ⟨h1,h2,h3⟩:=NsC.h (e:=e) x
  obtain ⟨g1,g2,g3⟩:=NsC.all (e:=e) l
  refine ⟨by simp [D.ZL,h1,g1],by simp [D.pfs,h2,g2],fun y hy=>?_⟩
  rcases List.mem_cons.mp hy with z | z
  ·rw [z]; exact h3
  ·exact g3 y z
theorem zjf:∀ l:List OkS,D.ZL (l.map eS)=true
 | []=>rfl
 | _::l=>by
  rw [List.map_cons]
  show (true&&D.ZL (l.map eS))=true
  rw [zjf l]; rfl
theorem zsK {α:Type} {e:α→D} [NsC e] {k:Fl} {l:List α} {s:Int} {r:Option (List OkS)} {S:zQ} {i j:Nat} {ρ:Env} (h1:ρ[i]?=some (some (eL k e l))) (h2:ρ[j]?=some (some (eI s))) (hS:∀ Q:D→Prop,Q (eO (eL .f eS) r)→S [eL .f e l,eI s] Q) (hne:r≠some []):
  Ev (zqP S i j) ρ (eO (eL .o eS) r):=fun Q q=>by
 obtain ⟨g1,g2,g3⟩:=NsC.all (e:=e) l
 refine ⟨k,_,s,h1,h2,g1,g2,g3,hS _ ?_⟩
 cases r with
 | none=>exact ⟨.inl rfl,q⟩
 | some r=>cases r with
  | nil=>exact absurd rfl hne
  | cons y ys=>exact ⟨.inr ⟨_,_,rfl,zjf ys⟩,q⟩
end DL
set_option maxHeartbeats 0
set_option synthInstance.maxSize 4096
set_option synthInstance.maxHeartbeats 400000
set_option exponentiation.threshold 50000
namespace DL
open PySem PySem.Spec PyProof.Rows L2
abbrev FnP (K:PySem.W.Frag) (x:Str) (st:Stmt) (f:Addr) (fd:FuncData):Prop:=FunD K x x (defArgs st) (defBody st) (defScope st) [] [] f fd
variable [Tb]
theorem qv {α:Type} {ρ:Env} (n:Nat) (e:α→D) [Vw e e] (v:α) (h:Env.at ρ n=some (e v)):Ev (zu n) ρ (e v):=ev_var (e:=e) (e':=e) (v:=v) n h
theorem qf {α:Type} (e:α→D) [Fz e e] {x:α}:(e x).fz=e x:=Fz.h x
theorem qr {α:Type} (e:α→D) [Rt e e] {x:α}:(e x).rt=e x:=Rt.h x
theorem ql {α:Type} (e:α→D) [FlC true e] {x:α}:(e x).fl=true:=FlC.h x
theorem qn {α:Type} (e:α→D) [Nb e] {x:α}:(e x).nb=true:=Nb.h x
abbrev aq1:=eT3 eS eI eI
abbrev aq2:=eL .f eS
abbrev aq3:=eL .o eS
abbrev aq4:=eV eI eS
abbrev aq5:=eL .f eI
abbrev aq6:=eL .o eI
abbrev aq7:=eT4 eI eS eI eI
abbrev aq8:=eO (eL .b eS)
abbrev aq9:=eL .f aq1
abbrev xZ:=eL .o aq1
abbrev jh:=eT2 eI aq2
abbrev zsL:=eT2 eI aq3
abbrev zqR:=eL .o aq2
abbrev yu:=eL .f jh
abbrev jC:=eL .o jh
abbrev zb1:=eO jh
abbrev Xz:=eL .o aq9
abbrev zqS:=eL .o zsL
abbrev ji:=eL .o yu
abbrev aT1:Type:=List OkS
abbrev aT2:Type:=OkS×Int×Int
abbrev aT3:Type:=List Int
abbrev aT4:Type:=Int×OkS×Int×Int
abbrev aT5:Type:=List aT2
abbrev aT6:Type:=Int×aT1
abbrev aT7:Type:=Option aT1
abbrev aT8:Type:=aT2×aT2
abbrev aT9:Type:=List aT6
abbrev zhS:Type:=Option aT6
abbrev Qp:Type:=List aT5
abbrev yX:Type:=List aT9
/-- a symbol -/
abbrev Mk:Type:=OkS×Int×Int
/-- a chain:its need,its names -/
abbrev qP:Type:=Int×List OkS
/-- a good name -/
def Nm (s:OkS):Prop:=0 < zaz s∧zaz s≤8∧∀ c∈sCs s,97≤c∧c≤122
instance (s:OkS):Decidable (Nm s):=by unfold Nm; exact inferInstance
def qX (s:OkS):Bool:=decide (Nm s)
def Xa (s:OkS):Prop:=s.1.length≤100000
def JR (w:List Mk):Prop:=w.length≤8∧(w.map (·.1)).Nodup∧∀ p∈w,Nm p.1
def Yv (w:List Mk):Unit:=()
def jy (w:List Mk):Prop:=JR w
def Qz (s:Int):Unit:=()
def ZR (s:Int):Prop:=1≤s∧s≤8
def kyS (p:Mk):Int×OkS:=(p.2.1,p.1)
def zq (w:List Mk):List Mk:=w.mergeSort fun p q=>xU (YB ltI ltS) (kyS p) (kyS q)
def Zb (w:List Mk):Prop:=True
def zV (a b:Mk) (s:Int):Int:=if zhy (a.2.2 - b.2.2) < s then s else 0
def ZD (a b:Mk) (s:Int):Prop:=True
/-- by how much two lack room -/
def cst (s:Int) (o p:Mk):Int:=zV o p s - (p.2.1 - o.2.1)
def zG (l:List qP):List qP:=if l=[] then [] else [(Xi (l.map (·.1)),Qh ((l.filter fun c=>decide (c.1=Xi (l.map (·.1)))).map (·.2)))]
def qY (l:List qP):Prop:=l.length≤1000
/-- the chains that end at p,each by the one ahead -/
def cands (s:Int) (p:Mk) (of:List (Mk×List qP)):List qP:=of.flatMap fun q=>(cst s q.1 p,[q.1.1,p.1])::q.2.map fun c=>(c.1+cst s q.1 p,c.2++[p.1])
def Kh (s:Int) (of:List (Mk×List qP)) (p:Mk):List (Mk×List qP):=of++[(p,zG (cands s p of))]
def zX (row:List Mk) (s:Int):List (List qP):=(row.foldl (Kh s) []).map (·.2)
def ZS (row:List Mk) (s:Int):Prop:=row.length≤8
def yw (w:List Mk) (s:Int):Option qP:=match zG (zX (zq w) s).flatten with
 | []=>none
 | c::_=>if c.1≤0 then none else some c
def jP (w:List Mk) (s:Int):Prop:=w.length≤8
def xg (w:List Mk) (s:Int):Option aT1:=(yw w s).map (·.2)
def XF (w:List Mk) (s:Int):Prop:=JR w∧1≤s∧s≤8
def ZV (many:Int):Prop:=0≤many∧many≤26
def Zd (many:Int) (r:List OkS):Prop:=r.length=many.toNat∧r.Nodup∧∀ s∈r,Nm s
def Ze (folk:List OkS):Prop:=folk.length≤1000
def jQ (folk:List OkS) (r:List Mk):Prop:=r.map (·.1)=folk
def yS (a b:Mk) (s:Int):Int:=zV a b s
def ZW (a b:Mk) (s:Int):Prop:=True
def yN (w:List Mk):List Mk:=(((w.map fun x=>((x.2.1,x):Int×OkS×Int×Int)).mergeSort (xU (zcr ltI ltS ltI ltI))).map fun x=>x.2)
def jj (w:List Mk):Prop:=w.length≤1000
def yC (row:List Mk) (s:Int):Int:=((row.zip row.tail).map fun p=>zV p.1 p.2 s).sum - ((row.getLastD default).2.1 - (row.headD default).2.1)
def Xb (row:List Mk) (s:Int):Prop:=row≠[]∧row.length≤1000
/-- the symbols of those names,in the row's order -/
def rowOf (w:List Mk) (ns:List OkS):List Mk:=ns.map fun n=>gI (zq w) ((((zq w).map (·.1)).idxOf n:Nat):Int)
def Zf (w:List Mk) (ns:List OkS) (s:Int):Int:=yC (rowOf w ns) s
/-- names of a chain -/
def OkN (w:List Mk) (ns:List OkS):Prop:=2≤ns.length∧ns.Sublist ((zq w).map (·.1))
instance (w:List Mk) (ns:List OkS):Decidable (OkN w ns):=by unfold OkN; exact inferInstance
def zaB (w:List Mk) (ns:List OkS) (s:Int):Prop:=JR w∧1≤s∧s≤8∧OkN w ns
instance (w:List Mk):Decidable (JR w):=by unfold JR; exact inferInstance
def xSy:Exn:=xB "BadSymbols"
def xCh:Exn:=xB "BadChain"
def xSi:Exn:=xB "BadSize"
def xq (w:List Mk):Prop:=w.length≤1000∧∀ p∈w,p.1.1.length≤100000
def xr (w:List Mk):Rx Unit:=if JR w then .ok () else .error xSy
def qQ (s:Int):Prop:=True
def jk (s:Int):Rx Unit:=if 1≤s∧s≤8 then .ok () else .error xSi
def Ym (w:List Mk) (ns:List OkS) (s:Int):Prop:=JR w∧(1≤s∧s≤8)∧ns.length≤60
def QC (w:List Mk) (ns:List OkS) (s:Int):Rx Int:=if OkN w ns then .ok (Zf w ns s) else .error xCh
def zY (row:List Mk) (s:Int):Int:=yC row s
def qF (row:List Mk) (s:Int):Prop:=row≠[]∧row.length≤1000
/-- all parts of a row -/
def subs (l:List Mk):List (List Mk):=l.foldl (fun f r=>f++f.map fun c=>c++[r]) [[]]
def yd (l:List Mk):List (List Mk):=(subs l).filter fun c=>decide ((c.length:Int) > 1)
def jR (l:List Mk):Prop:=l.length≤8
def ZX (w:List Mk) (ns:List OkS) (s:Int):Prop:=Ym w ns s
def qL (w:List Mk) (ns:List OkS) (s:Int):Int ⊕ OkS:=if OkN w ns then .inl (Zf w ns s) else .inr (⟨"BadChain",by decide+kernel⟩:OkS)
def XH:zQ:=fun ds Q=>∃ (x0:OkS),ds=[eS x0]∧(Xa x0)∧Q (eB (qX x0))
theorem zjg {x0:OkS} (h:Xa x0):∀ Q:D→Prop,Q (eB (qX x0))→XH [eS x0] Q:=fun Q q=>⟨x0,rfl,h,q⟩
def jA:zQ:=fun ds Q=>∃ (x0:aT5),ds=[aq9 x0]∧(jy x0)∧Q (eU (Yv x0))
theorem zdc {x0:aT5} (h:jy x0):∀ Q:D→Prop,Q (eU (Yv x0))→jA [aq9 x0] Q:=fun Q q=>⟨x0,rfl,h,q⟩
def qC:qO:=fun ds Q E=>∃ (x0:aT5),ds=[aq9 x0]∧(xq x0)∧Xy (xr x0) (fun r=>Q (eU r)) E
theorem zcx {x0:aT5} (h:xq x0):∀ (Q:D→Prop) (E:Exn→Prop),Xy (xr x0) (fun r=>Q (eU r)) E→qC [aq9 x0] Q E:=fun Q E q=>⟨x0,rfl,h,q⟩
theorem zcy (c:∀ (x0:aT5),jy x0→xq x0∧xr x0=.ok (Yv x0)):∀ ds Q,jA ds Q→qC ds Q fun _=>False:=by
 rintro ds Q ⟨x0,rfl,hp,q⟩
 obtain ⟨h1,h2⟩:=c x0 hp
 exact ⟨x0,rfl,h1,by rw [h2]; exact q⟩
def Yn:zQ:=fun ds Q=>∃ (x0:Int),ds=[eI x0]∧(ZR x0)∧Q (eU (Qz x0))
theorem zgu {x0:Int} (h:ZR x0):∀ Q:D→Prop,Q (eU (Qz x0))→Yn [eI x0] Q:=fun Q q=>⟨x0,rfl,h,q⟩
def jK:qO:=fun ds Q E=>∃ (x0:Int),ds=[eI x0]∧(qQ x0)∧Xy (jk x0) (fun r=>Q (eU r)) E
theorem zfz {x0:Int} (h:qQ x0):∀ (Q:D→Prop) (E:Exn→Prop),Xy (jk x0) (fun r=>Q (eU r)) E→jK [eI x0] Q E:=fun Q E q=>⟨x0,rfl,h,q⟩
theorem zfA (c:∀ (x0:Int),ZR x0→qQ x0∧jk x0=.ok (Qz x0)):∀ ds Q,Yn ds Q→jK ds Q fun _=>False:=by
 rintro ds Q ⟨x0,rfl,hp,q⟩
 obtain ⟨h1,h2⟩:=c x0 hp
 exact ⟨x0,rfl,h1,by rw [h2]; exact q⟩
def j7:zQ:=fun ds Q=>∃ (x0:aT5),ds=[aq9 x0]∧(Zb x0)∧Q (xZ (zq x0))
theorem zaC {x0:aT5} (h:Zb x0):∀ Q:D→Prop,Q (xZ (zq x0))→j7 [aq9 x0] Q:=fun Q q=>⟨x0,rfl,h,q⟩
def jL:zQ:=fun ds Q=>∃ (x0:aT2) (x1:aT2) (x2:Int),ds=[aq1 x0,aq1 x1,eI x2]∧(ZD x0 x1 x2)∧Q (eI (zV x0 x1 x2))
theorem zcz {x0:aT2} {x1:aT2} {x2:Int} (h:ZD x0 x1 x2):∀ Q:D→Prop,Q (eI (zV x0 x1 x2))→jL [aq1 x0,aq1 x1,eI x2] Q:=fun Q q=>⟨x0,x1,x2,rfl,h,q⟩
def XJ:zQ:=fun ds Q=>∃ (x0:aT5) (x1:Int),ds=[aq9 x0,eI x1]∧(Xb x0 x1)∧Q (eI (yC x0 x1))
theorem zjh {x0:aT5} {x1:Int} (h:Xb x0 x1):∀ Q:D→Prop,Q (eI (yC x0 x1))→XJ [aq9 x0,eI x1] Q:=fun Q q=>⟨x0,x1,rfl,h,q⟩
def Yo:zQ:=fun ds Q=>∃ (x0:aT5) (x1:Int),ds=[aq9 x0,eI x1]∧(ZS x0 x1)∧Q (ji (zX x0 x1))
theorem zgv {x0:aT5} {x1:Int} (h:ZS x0 x1):∀ Q:D→Prop,Q (ji (zX x0 x1))→Yo [aq9 x0,eI x1] Q:=fun Q q=>⟨x0,x1,rfl,h,q⟩
def qd:zQ:=fun ds Q=>∃ (x0:aT9),ds=[yu x0]∧(qY x0)∧Q (jC (zG x0))
theorem JT {x0:aT9} (h:qY x0):∀ Q:D→Prop,Q (jC (zG x0))→qd [yu x0] Q:=fun Q q=>⟨x0,rfl,h,q⟩
def j8:zQ:=fun ds Q=>∃ (x0:aT5) (x1:Int),ds=[aq9 x0,eI x1]∧(jP x0 x1)∧Q (zb1 (yw x0 x1))
theorem zeC {x0:aT5} {x1:Int} (h:jP x0 x1):∀ Q:D→Prop,Q (zb1 (yw x0 x1))→j8 [aq9 x0,eI x1] Q:=fun Q q=>⟨x0,x1,rfl,h,q⟩
def zfB:zQ:=fun ds Q=>∃ (x0:aT5) (x1:aT1) (x2:Int),ds=[aq9 x0,aq2 x1,eI x2]∧(zaB x0 x1 x2)∧Q (eI (Zf x0 x1 x2))
theorem zpn {x0:aT5} {x1:aT1} {x2:Int} (h:zaB x0 x1 x2):∀ Q:D→Prop,Q (eI (Zf x0 x1 x2))→zfB [aq9 x0,aq2 x1,eI x2] Q:=fun Q q=>⟨x0,x1,x2,rfl,h,q⟩
def Jz:qO:=fun ds Q E=>∃ (x0:aT5) (x1:aT1) (x2:Int),ds=[aq9 x0,aq2 x1,eI x2]∧(Ym x0 x1 x2)∧Xy (QC x0 x1 x2) (fun r=>Q (eI r)) E
theorem zm2 {x0:aT5} {x1:aT1} {x2:Int} (h:Ym x0 x1 x2):∀ (Q:D→Prop) (E:Exn→Prop),Xy (QC x0 x1 x2) (fun r=>Q (eI r)) E→Jz [aq9 x0,aq2 x1,eI x2] Q E:=fun Q E q=>⟨x0,x1,x2,rfl,h,q⟩
theorem zm3 (c:∀ (x0:aT5) (x1:aT1) (x2:Int),zaB x0 x1 x2→Ym x0 x1 x2∧QC x0 x1 x2=.ok (Zf x0 x1 x2)):∀ ds Q,zfB ds Q→Jz ds Q fun _=>False:=by
 rintro ds Q ⟨x0,x1,x2,rfl,hp,q⟩
 obtain ⟨h1,h2⟩:=c x0 x1 x2 hp
 exact ⟨x0,x1,x2,rfl,h1,by rw [h2]; exact q⟩
def za4:zQ:=fun ds Q=>∃ (x0:aT5) (x1:Int),ds=[aq9 x0,eI x1]∧(XF x0 x1)∧Q ((eO aq2) (xg x0 x1))
theorem zg0 {x0:aT5} {x1:Int} (h:XF x0 x1):∀ Q:D→Prop,Q ((eO aq2) (xg x0 x1))→za4 [aq9 x0,eI x1] Q:=fun Q q=>⟨x0,x1,rfl,h,q⟩
def Xc:zQ:=fun ds Q=>∃ (x0:Unit) (x1:Int),ds=[zE x0,eI x1]∧(ZV x1)∧∀ r,Zd x1 r→Q (aq3 r)
theorem zgw {x0:Unit} {x1:Int} (h:ZV x1):∀ Q:D→Prop,(∀ r,Zd x1 r→Q (aq3 r))→Xc [zE x0,eI x1] Q:=fun Q q=>⟨x0,x1,rfl,h,q⟩
def Yw:zQ:=fun ds Q=>∃ (x0:Unit) (x1:aT1),ds=[zE x0,aq2 x1]∧(Ze x1)∧∀ r,jQ x1 r→Q (xZ r)
theorem zfC {x0:Unit} {x1:aT1} (h:Ze x1):∀ Q:D→Prop,(∀ r,jQ x1 r→Q (xZ r))→Yw [zE x0,aq2 x1] Q:=fun Q q=>⟨x0,x1,rfl,h,q⟩
def jT:zQ:=fun ds Q=>∃ (x0:aT5),ds=[aq9 x0]∧(jj x0)∧Q (xZ (yN x0))
theorem zcA {x0:aT5} (h:jj x0):∀ Q:D→Prop,Q (xZ (yN x0))→jT [aq9 x0] Q:=fun Q q=>⟨x0,rfl,h,q⟩
def Yp:zQ:=fun ds Q=>∃ (x0:aT2) (x1:aT2) (x2:Int),ds=[aq1 x0,aq1 x1,eI x2]∧(ZW x0 x1 x2)∧Q (eI (yS x0 x1 x2))
theorem zgx {x0:aT2} {x1:aT2} {x2:Int} (h:ZW x0 x1 x2):∀ Q:D→Prop,Q (eI (yS x0 x1 x2))→Yp [aq1 x0,aq1 x1,eI x2] Q:=fun Q q=>⟨x0,x1,x2,rfl,h,q⟩
def jm:zQ:=fun ds Q=>∃ (x0:aT5) (x1:Int),ds=[aq9 x0,eI x1]∧(qF x0 x1)∧Q (eI (zY x0 x1))
theorem zbb {x0:aT5} {x1:Int} (h:qF x0 x1):∀ Q:D→Prop,Q (eI (zY x0 x1))→jm [aq9 x0,eI x1] Q:=fun Q q=>⟨x0,x1,rfl,h,q⟩
def Z0:zQ:=fun ds Q=>∃ (x0:aT5),ds=[aq9 x0]∧(jR x0)∧Q (Xz (yd x0))
theorem zeD {x0:aT5} (h:jR x0):∀ Q:D→Prop,Q (Xz (yd x0))→Z0 [aq9 x0] Q:=fun Q q=>⟨x0,rfl,h,q⟩
def Xd:zQ:=fun ds Q=>∃ (x0:aT5) (x1:aT1) (x2:Int),ds=[aq9 x0,aq2 x1,eI x2]∧(ZX x0 x1 x2)∧Q (aq4 (qL x0 x1 x2))
theorem zgy {x0:aT5} {x1:aT1} {x2:Int} (h:ZX x0 x1 x2):∀ Q:D→Prop,Q (aq4 (qL x0 x1 x2))→Xd [aq9 x0,aq2 x1,eI x2] Q:=fun Q q=>⟨x0,x1,x2,rfl,h,q⟩
theorem jM:FnScope ["_law_pen_here","_law_many","_law_cell","_law_mixed","_law_got","_law_seed","_law_square"] ["_law_pen_here","_law_many"] (defScope kY):=⟨rfl,rfl,rfl,by decide+kernel,rfl,by decide+kernel,by decide+kernel⟩
theorem zji {P:Program} {w:World} {K:PySem.W.Frag} {mg:Str→Option Value} {base:Heap} (m_len:mg "len"=none) {fa:Addr} (cdv:Value) (A:Around) (outer:List PySem.Env) (s:Shared) (H:Hp) (E:XK):PSs (cxOf CX0 P w K mg base ["_law_pen_here","_law_many","_law_cell","_law_mixed","_law_got","_law_seed","_law_square"] "_law_pick" (defScope kY) fa cdv A outer s H E).nox (defBody kY) (zgQ K):=
 (pss_cons (ps_if (PW.pt (pw_and (pt_cmpR op_eq (pe_ix ix_list (pv 0) pe_int (fun _ _=>rfl)) pe_int (nomark _)) (pw_and1 (pt_cmpR op_lt (pe_ix ix_list (pv 0) pe_int (fun _ _=>rfl)) (pe_callB call_len rfl m_len Xg (pa_cons (pe_ix ix_list (pv 0) pe_int (fun _ _=>rfl)) pa_nil)) (nomark _))))) (pss_cons (ps_set (i:=2) jM.nd rfl (.inl rfl) (pe_ix ix_list (pe_ix ix_list (pv 0) pe_int (fun _ _=>rfl)) (pe_ix ix_list (pv 0) pe_int (fun _ _=>rfl)) (fun _ _=>rfl))) (pss_cons (ps_augS (pv 0) pe_int zmB pe_int ip_add set_list) (pss_one (ps_if (pt_cmpR op_ge (pv 2) (pe_op op_pow pe_int pe_int) (nomark _)) (pss_one (ps_asg (pv 2) (pg_sub (pv 0) pe_int set_list))) (pss_cons (ps_set (i:=3) jM.nd rfl (.inl rfl) (pe_op op_add (pe_op op_mulW (pe_op op_mod (pv 2) pe_int) pe_int) (pe_op op_mulW pe_int (pe_ix ix_list (pv 0) pe_int (fun _ _=>rfl))))) (pss_one (ps_asg (pe_op op_mod (pe_op op_add (pe_op op_mulW (pe_ix ix_list (pv 0) pe_int (fun _ _=>rfl)) pe_int) (pv 3)) pe_int) (pg_sub (pv 0) pe_int set_list)))))))) pss_nil)
  (pss_cons (ps_if (pt_cmpR op_gt (pe_ix ix_list (pv 0) pe_int (fun _ _=>rfl)) pe_int (nomark _)) (pss_cons (ps_set (i:=4) jM.nd rfl (.inl rfl) (pe_op op_mod (pe_ix ix_list (pv 0) pe_int (fun _ _=>rfl)) (pv 1))) (pss_cons (ps_asg (pe_op op_fdivW (pe_ix ix_list (pv 0) pe_int (fun _ _=>rfl)) (pv 1)) (pg_sub (pv 0) pe_int set_list)) (pss_one (ps_ret (pv 4))))) pss_nil) (pss_cons (ps_set (i:=5) jM.nd rfl (.inl rfl) (pe_ix ix_list (pv 0) pe_int (fun _ _=>rfl))) (pss_cons (ps_set (i:=6) jM.nd rfl (.inl rfl) (pe_op op_mod (pe_op op_mulW (pv 5) (pv 5)) pe_int)) (pss_cons (ps_set (i:=5) jM.nd rfl (.inl rfl) (pe_op op_mod (pe_op op_add (pe_op op_add (pe_op op_mulW (pv 6) pe_int) (pe_op op_mulW (pv 5) pe_int)) pe_int) pe_int)) (pss_cons (ps_asg (pe_op op_mod (pe_op op_add (pe_op op_add (pe_op op_mulW (pv 5) pe_int) (pe_op op_mod (pe_ix ix_list (pv 0) pe_int (fun _ _=>rfl)) pe_int)) pe_int) pe_int) (pg_sub (pv 0) pe_int set_list)) (pss_one (ps_ret (pe_op op_mod (pe_op op_add (pe_op op_fdivW (pv 5) pe_int) (pe_op op_mulW (pe_op op_mod (pv 5) pe_int) pe_int)) (pv 1))))))))))
theorem zhT {P:Program} {w:World} {K:PySem.W.Frag} {mg:Str→Option Value} {base:Heap} {k:Nat} (m_len:mg "len"=none) {f:Addr} {fd:FuncData} (F:FnP K "_law_pick" kY f fd) (gm:mg "_law_pick"=some (.ref f)):Fd P w K mg base (k+1) "_law_pick" zU:=
 Fd.pick F gm jM (fun _ _ _ _ _ _ us hl=>match us,hl with | [_,_],_=>rfl) fun cdv A outer s H E=>zji m_len cdv A outer s H E
theorem zjj:FnScope ["_law_script"] ["_law_script"] (defScope Z5):=⟨rfl,rfl,rfl,by decide+kernel,rfl,by decide+kernel,by decide+kernel⟩
theorem zkN {P:Program} {w:World} {K:PySem.W.Frag} {mg:Str→Option Value} {base:Heap} (m_len:mg "len"=none) (m_list:mg "list"=none) {fa:Addr} (cdv:Value) (A:Around) (outer:List PySem.Env) (s:Shared) (H:Hp) (E:XK):PSs (cxOf CX0 P w K mg base ["_law_script"] "_law_pen" (defScope Z5) fa cdv A outer s H E).nox (defBody Z5) (zqa K):=
 (pss_one (ps_ret (pe_lst (pa_cons (pe_callTy call_list_of rfl m_list zcj (pa_cons (pe_slice sl_list (pv 0) po_none (po_some pe_int)) pa_nil)) (pa_cons pe_int (pa_cons pe_int (pa_cons (pe_op op_add pe_int (pe_op op_mulW pe_int (pe_callB call_len rfl m_len Xg (pa_cons (pe_slice sl_list (pv 0) po_none (po_some pe_int)) pa_nil)))) pa_nil)))))))
theorem zjk {P:Program} {w:World} {K:PySem.W.Frag} {mg:Str→Option Value} {base:Heap} {k:Nat} (m_len:mg "len"=none) (m_list:mg "list"=none) {f:Addr} {fd:FuncData} (F:FnP K "_law_pen" Z5 f fd) (gm:mg "_law_pen"=some (.ref f)):zcm P w K mg base (k+1) "_law_pen":=
 zcm.of F gm zjj (fun _ _ _ _ _ _ us hl=>match us,hl with | [_],_=>rfl) fun cdv A outer s H E=>zkN m_len m_list cdv A outer s H E
theorem zfD:FnScope ["text","sign"] ["text"] (defScope Zh):=⟨rfl,rfl,rfl,by decide+kernel,rfl,by decide+kernel,by decide+kernel⟩
def za5:DS:=(ZM (zhg (Ko ltO leO (dC (.int 0)) (dCall (o1 zba) (zm (zu 0) zK)) (dC (.int 8))) (dCall (o1 ze7) (zm (dLc (qK zW (zu 0)) [1] (.nm 1) ZP (zP (o2 (inO id)) (zu 1) (dC (.str "abcdefghijklmnopqrstuvwxyz")))) zK))))
def zdd (z0:OkS) (rt:Bool→Prop):Prop:=((z0).1.length≤sizeLine)∧(((decide ((0:Int) < (zaz z0))&&decide ((zaz z0)≤(8:Int))))=true→((((sCh z0)).length≤1000000)∧(∀ x1∈(sCh z0),(((x1).1.cps.size=1)))))∧(rt ((decide ((0:Int) < (zaz z0))&&decide ((zaz z0)≤(8:Int)))&&(((sCh z0)).all (fun (x1:OkS)=>decide (zet x1∈sCs (⟨"abcdefghijklmnopqrstuvwxyz",by decide+kernel⟩:OkS))))))
theorem zkO {N:DE} (z0:OkS) {rt:Bool→Prop} (hrt:∀ r,rt r→N.rt (eB r)) (h:zdd z0 rt):za5 N [some (eS z0),none]:=
 (Ys (d:=eB ((decide ((0:Int) < (zaz z0))&&decide ((zaz z0)≤(8:Int)))&&(((sCh z0)).all (fun (x1:OkS)=>decide (zet x1∈sCs (⟨"abcdefghijklmnopqrstuvwxyz",by decide+kernel⟩:OkS)))))) (zov (ziO (ev_c (d:=eI 0)) (ev_call (ea_cons (qv 0 eS z0 rfl) ea_nil) (by exact (zoV h.1))) (@zow _ (0:Int) (zaz z0)) (fun hk=>(ev_c (d:=eI 8))) (fun hk=>(@zqc _ (zaz z0) (8:Int)))) (fun k2=>(ev_call (ea_cons (kZ (eX:=eS) (eY:=eB) (l:=(sCh z0)) (f:=(fun (x1:OkS)=>decide (zet x1∈sCs (⟨"abcdefghijklmnopqrstuvwxyz",by decide+kernel⟩:OkS)))) (fun x1=>[some (eS z0),some (eS x1)]) (ztN (s:=z0) (qv 0 eS z0 rfl)) (h.2.1 k2).1 (fun x1 N q=>(ju q)) (fun x1 hx=>(zB (qv 1 eS x1 rfl) (ev_c (d:=.str "abcdefghijklmnopqrstuvwxyz")) (ztM ((h.2.1 k2).2 x1 hx))))) ea_nil) (by exact zku)))) (qr eB) (by exact hrt _ h.2.2))
theorem zm4 {P:Program} {w:World} {K:PySem.W.Frag} {mg:Str→Option Value} {base:Heap} {k:Nat} (m_len:mg "len"=none) (m_all:mg "all"=none) (g_MOST_NAME:∃ t,mg "MOST_NAME"=some (.int 8 t)) (g_LETTERS:∃ t,mg "LETTERS"=some (.str "abcdefghijklmnopqrstuvwxyz" t)) {fa:Addr} (cdv:Value) (A:Around) (outer:List PySem.Env) (s:Shared) (H:Hp) (E:XK) (hr:Room k (A.deeper (envOfC "is_name" (defScope Zh) s.heap.objs.size fa cdv))):
  PDB (cxOf CX0 P w K mg base ["text","sign"] "is_name" (defScope Zh) fa cdv A outer s H E).nox (defBody Zh) za5:=
 have d:Gd (cxOf CX0 P w K mg base ["text","sign"] "is_name" (defScope Zh) fa cdv A outer s H E).nox k:=⟨rfl,zfD.nd,hr⟩
 (yR (s_ret (zhm (zoa ze5 zhd zA (yK YS m_len (za (zj 0) zp) Xg) (zfq g_MOST_NAME)) (zhl (yK (zeQ d.calm) m_all (za (Y6 (own:=[("sign",1)]) ⟨d.calm,d.nd,d.room⟩ (xH (zj 0)) (by kernel_rfl) (by decide) (fun _ _ _ _ _=>(yc 1 d.nd)) (fun _ _ _ _ _=>yQ) (fun _ _ _ _ _=>(Ku (zn9 d.u) (zj 1) (zoL g_LETTERS)))) zp) zho)))))
theorem zkP {P:Program} {w:World} {K:PySem.W.Frag} {mg:Str→Option Value} {base:Heap} {k:Nat} (m_len:mg "len"=none) (m_all:mg "all"=none) (g_MOST_NAME:∃ t,mg "MOST_NAME"=some (.int 8 t)) (g_LETTERS:∃ t,mg "LETTERS"=some (.str "abcdefghijklmnopqrstuvwxyz" t)) {f:Addr} {fd:FuncData} (F:FnP K "is_name" Zh f fd) (gm:mg "is_name"=some (.ref f)) {S:zQ} (hS:∀ ds Q,S ds Q→ds.length=1∧za5 (yU Q) (zH 2 ds)):Fd P w K mg base (k+1) "is_name" S:=
 Fd.of F gm zfD (fun _ _ _ _ _ _ us hl=>match us,hl with | [_],_=>rfl) (fun cdv A outer s H E hr=>zm4 m_len m_all g_MOST_NAME g_LETTERS cdv A outer s H E hr) hS
theorem zhU (c:∀ (x0:OkS),Xa x0→∀ K:Bool→Prop,K (qX x0)→zdd x0 K):∀ ds Q,XH ds Q→ds.length=1∧za5 (yU Q) (zH 2 ds):=by
 rintro ds Q ⟨x0,rfl,hp,q⟩
 exact ⟨rfl,zkO (N:=yU Q) x0 (rt:=fun r=>Q (eB r)) (fun r h=>⟨Np.h (e:=eB) r,h⟩) (c x0 hp _ q)⟩
theorem JV:FnScope ["symbols","names","name","x","y"] ["symbols"] (defScope yI):=⟨rfl,rfl,rfl,by decide+kernel,rfl,by decide+kernel,by decide+kernel⟩
def Jf:DS:=(X6 (zhf (dB (zP (o2 gtO) (dCall (o1 zba) (zm (zu 0) zK)) (dC (.int 8)))) (zhf (dB (zP (o2 ltO) (dUn (o1 zeW) (zu 1)) (dCall (o1 zba) (zm (zu 1) zK)))) (zca (zhe (dCall (o1 ze7) (zm (dLc (qK zW (zu 1)) [2] (.nm 2) ZP (dFn XH (zm (zu 2) zK))) zK)))))) (Jx (zja "BadSymbols" "BadSymbols")) Yq)
def Jg (z1:aT5) (z2:aT1) (rt:Unit→Prop) (kx:Exn→Prop):Prop:=((decide (((z1).length:Int) > (8:Int)))=false→(((z2).length < 1000)∧((decide (((DLm.YC z2).length:Int) < ((z2).length:Int)))=false→(((z2).length≤1000000)∧(∀ x2∈z2,((Xa x2)))))))∧(((decide (((z1).length:Int) > (8:Int))||(decide (((DLm.YC z2).length:Int) < ((z2).length:Int))||(!((z2).all (fun (x2:OkS)=>(qX x2))))))=true→(kx (xB "BadSymbols")))∧((decide (((z1).length:Int) > (8:Int))||(decide (((DLm.YC z2).length:Int) < ((z2).length:Int))||(!((z2).all (fun (x2:OkS)=>(qX x2))))))=false→(rt ())))
theorem zcB {N:DE} (z1:aT5) (z2:aT1) {rt:Unit→Prop} {kx:Exn→Prop} (hrt:∀ r,rt r→N.rt (eU r)) (hN:∀ ρ,rt ()→N.nx ρ) (hkx:∀ x ρ,kx x→N.ex x ρ) (h:Jg z1 z2 rt kx):Jf N [some (aq9 z1),some (aq2 z2),none,none,none]:=
 (ziV (et_or (Kg (zB (ev_call (ea_cons (qv 0 aq9 z1 rfl) ea_nil) (by exact (zc6 (e:=aq1) (l:=z1)))) (ev_c (d:=eI 8)) (@zr0 _ ((z1).length:Int) (8:Int)))) (fun k4=>(et_or (Kg (zB (ev_un (qv 1 aq2 z2 rfl) (zmO (f:=.f) (l:=z2) (h.1 k4).1)) (ev_call (ea_cons (qv 1 aq2 z2 rfl) ea_nil) (by exact (zc6 (e:=eS) (l:=z2)))) (@zow _ ((DLm.YC z2).length:Int) ((z2).length:Int)))) (fun k3=>(et_not (zhx (ev_call (ea_cons (kZ (eX:=eS) (eY:=eB) (l:=z2) (f:=(fun (x2:OkS)=>(qX x2))) (fun x2=>[some (aq9 z1),some (aq2 z2),some (eS x2),none,none]) (QT (e:=eS) (qv 1 aq2 z2 rfl)) ((h.1 k4).2 k3).1 (fun x2 N q=>(ju q)) (fun x2 hx=>(YH (ea_cons (qv 2 eS x2 rfl) ea_nil) (yr (qf eS) jB) (yW (ql eS) ZJ) (zjg (((h.1 k4).2 k3).2 x2 hx))))) ea_nil) (by exact zku)) zlw)))))) (fun hk=>(zcu (hkx _ _ (h.2.1 hk)))) (fun hk=>(hN _ (h.2.2 hk))))
def Yx:DS:=(zN (jr (.nm 1) (dLc (qK zW (zu 0)) [2,3,4] (.tp (.cons (.nm 2) (.cons (.nm 3) (.cons (.nm 4) .nil)))) ZP (zu 2))) (zN (Jq 1) Jf))
def Ql (z1:aT5) (rt:Unit→Prop) (kx:Exn→Prop):Prop:=((z1).length≤1000000)∧(Jg z1 ((z1).map (fun (x1:aT2)=>x1.1)) rt kx)
theorem zeE {N:DE} (z1:aT5) {rt:Unit→Prop} {kx:Exn→Prop} (hrt:∀ r,rt r→N.rt (eU r)) (hN:∀ ρ,rt ()→N.nx ρ) (hkx:∀ x ρ,kx x→N.ex x ρ) (h:Ql z1 rt kx):Yx N [some (aq9 z1),none,none,none,none]:=
 (qu (d:=aq3 ((z1).map (fun (x1:aT2)=>x1.1))) 1 (kZ (eX:=aq1) (eY:=eS) (l:=z1) (f:=(fun (x1:aT2)=>x1.1)) (fun x1=>[some (aq9 z1),none,some (eS x1.1),some (eI x1.2.1),some (eI x1.2.2)]) (QT (e:=aq1) (qv 0 aq9 z1 rfl)) h.1 (fun x1 N q=>(ziS (qR (ju (qR (ju (qR (ju (zau q))))))))) (fun x1 hx=>(qv 2 eS x1.1 rfl))) (qn aq3) (Yt 1 (e:=aq3) (e':=aq2) (v:=((z1).map (fun (x1:aT2)=>x1.1))) rfl (zcB (N:=N) z1 ((z1).map (fun (x1:aT2)=>x1.1)) hrt hN hkx h.2)))
theorem zfE {P:Program} {w:World} {K:PySem.W.Frag} {mg:Str→Option Value} {base:Heap} {k:Nat} (m_len:mg "len"=none) (m_set:mg "set"=none) (m_all:mg "all"=none) (g_MOST_SYMBOLS:∃ t,mg "MOST_SYMBOLS"=some (.int 8 t)) (f_is_name:Fd P w K mg base k "is_name" XH) (x_BadSymbols:zkJ P w K mg base k "BadSymbols" "BadSymbols") {fa:Addr} (cdv:Value) (A:Around) (outer:List PySem.Env) (s:Shared) (H:Hp) (E:XK) (hr:Room k (A.deeper (envOfC "need_symbols" (defScope yI) s.heap.objs.size fa cdv))):
  PDB (cxOf (CXG P w) P w K mg base ["symbols","names","name","x","y"] "need_symbols" (defScope yI) fa cdv A outer s H E) (defBody yI) Yx:=
 have d:Gd (cxOf (CXG P w) P w K mg base ["symbols","names","name","x","y"] "need_symbols" (defScope yI) fa cdv A outer s H E) k:=⟨rfl,JV.nd,hr⟩
 have hp:=zct (P:=P) (w:=w) (K:=K) (mg:=mg) (base:=base) (N:=["symbols","names","name","x","y"]) (qual:="need_symbols") (scope:=defScope yI) (f:=fa) (cdv:=cdv) (A:=A) (outer:=outer) (s:=s) (H:=H) (E:=E)
 (zJ (zaZ 1 (own:=[("name",2),("x",3),("y",4)]) ⟨d.calm,d.nd,d.room⟩ (xH (zj 0)) (by kernel_rfl) (by decide) (fun _ _ _ _ _=>(Jl d.calm (yP (yc 2 d.nd) (yP (yc 3 d.nd) (yP (yc 4 d.nd) Xv))))) (fun _ _ _ _ _=>yQ) (fun _ _ _ _ _=>(zj 2)))
  (Qu 1 (yR (s_if (zll (zfi (yM zke (yK YS m_len (za (zj 0) zp) Xg) (zfq g_MOST_SYMBOLS)) (zfi (yM ze5 (zkC d m_len m_set (zj 1)) (yK YS m_len (za (zj 1) zp) Xg)) (zeT (zcf (zce (yK (zeQ d.calm) m_all (za (Y6 (own:=[("name",2)]) ⟨d.calm,d.nd,d.room⟩ (xH (zj 1)) (by kernel_rfl) (by decide) (fun _ _ _ _ _=>(yc 2 d.nd)) (fun _ _ _ _ _=>yQ) (fun _ _ _ _ _=>(xV f_is_name hr (za (zj 2) zp)))) zp) zho))))))) (yR (zcs d.calm (zhL x_BadSymbols hr))) Qa))))
theorem zeF {P:Program} {w:World} {K:PySem.W.Frag} {mg:Str→Option Value} {base:Heap} {k:Nat} (m_len:mg "len"=none) (m_set:mg "set"=none) (m_all:mg "all"=none) (g_MOST_SYMBOLS:∃ t,mg "MOST_SYMBOLS"=some (.int 8 t)) (f_is_name:Fd P w K mg base k "is_name" XH) (x_BadSymbols:zkJ P w K mg base k "BadSymbols" "BadSymbols") {f:Addr} {fd:FuncData} (F:FnP K "need_symbols" yI f fd) (gm:mg "need_symbols"=some (.ref f)) {S:qO} (hS:∀ ds Q E,S ds Q E→ds.length=1∧Yx (zbZ Q E) (zH 5 ds)):Fx P w K mg base (k+1) "need_symbols" S:=
 Fx.of F gm JV (fun _ _ _ _ _ _ us hl=>match us,hl with | [_],_=>rfl) (fun cdv A outer s H E hr=>zfE m_len m_set m_all g_MOST_SYMBOLS f_is_name x_BadSymbols cdv A outer s H E hr) hS
theorem zcC (c:∀ (x0:aT5),xq x0→∀ (K:Unit→Prop) (KX:Exn→Prop),Xy (xr x0) K KX→Ql x0 K KX):∀ ds Q E,qC ds Q E→ds.length=1∧Yx (zbZ Q E) (zH 5 ds):=by
 rintro ds Q E ⟨x0,rfl,hp,q⟩
 exact ⟨rfl,zeE (N:=zbZ Q E) x0 (rt:=fun r=>Q (eU r)) (fun r h=>⟨Np.h (e:=eU) r,h⟩) (fun _ h=>h) (kx:=E) (fun _ _ h=>h) (c x0 hp _ _ q)⟩
theorem zcD:FnScope ["size"] ["size"] (defScope qH):=⟨rfl,rfl,rfl,by decide+kernel,rfl,by decide+kernel,by decide+kernel⟩
def QD:DS:=(X6 (zca (dB (Ko leO leO (dC (.int 1)) (zu 0) (dC (.int 8))))) (Jx (zja "BadSize" "BadSize")) Yq)
def zaD (z3:Int) (rt:Unit→Prop) (kx:Exn→Prop):Prop:=((decide ((1:Int)≤z3)&&decide (z3≤(8:Int)))=false→(kx (xB "BadSize")))∧((decide ((1:Int)≤z3)&&decide (z3≤(8:Int)))=true→(rt ()))
theorem zhV {N:DE} (z3:Int) {rt:Unit→Prop} {kx:Exn→Prop} (hrt:∀ r,rt r→N.rt (eU r)) (hN:∀ ρ,rt ()→N.nx ρ) (hkx:∀ x ρ,kx x→N.ex x ρ) (h:zaD z3 rt kx):QD N [some (eI z3)]:=
 (ziV (et_not (Kg (ziO (ev_c (d:=eI 1)) (qv 0 eI z3 rfl) (@zqc _ (1:Int) z3) (fun hk=>(ev_c (d:=eI 8))) (fun hk=>(@zqc _ z3 (8:Int)))))) (fun hk=>(zcu (hkx _ _ (h.1 (zlA hk))))) (fun hk=>(hN _ (h.2 (zlB hk)))))
theorem zjl {P:Program} {w:World} {K:PySem.W.Frag} {mg:Str→Option Value} {base:Heap} {k:Nat} (g_MOST_SIZE:∃ t,mg "MOST_SIZE"=some (.int 8 t)) (x_BadSize:zkJ P w K mg base k "BadSize" "BadSize") {fa:Addr} (cdv:Value) (A:Around) (outer:List PySem.Env) (s:Shared) (H:Hp) (E:XK) (hr:Room k (A.deeper (envOfC "need_size" (defScope qH) s.heap.objs.size fa cdv))):
  PDB (cxOf (CXG P w) P w K mg base ["size"] "need_size" (defScope qH) fa cdv A outer s H E) (defBody qH) QD:=
 have d:Gd (cxOf (CXG P w) P w K mg base ["size"] "need_size" (defScope qH) fa cdv A outer s H E) k:=⟨rfl,zcD.nd,hr⟩
 have hp:=zct (P:=P) (w:=w) (K:=K) (mg:=mg) (base:=base) (N:=["size"]) (qual:="need_size") (scope:=defScope qH) (f:=fa) (cdv:=cdv) (A:=A) (outer:=outer) (s:=s) (H:=H) (E:=E)
 (yR (s_if (zcf (zmy zhd zhd zA (zj 0) (zfq g_MOST_SIZE))) (yR (zcs d.calm (zhL x_BadSize hr))) Qa))
theorem zhW {P:Program} {w:World} {K:PySem.W.Frag} {mg:Str→Option Value} {base:Heap} {k:Nat} (g_MOST_SIZE:∃ t,mg "MOST_SIZE"=some (.int 8 t)) (x_BadSize:zkJ P w K mg base k "BadSize" "BadSize") {f:Addr} {fd:FuncData} (F:FnP K "need_size" qH f fd) (gm:mg "need_size"=some (.ref f)) {S:qO} (hS:∀ ds Q E,S ds Q E→ds.length=1∧QD (zbZ Q E) (zH 1 ds)):Fx P w K mg base (k+1) "need_size" S:=
 Fx.of F gm zcD (fun _ _ _ _ _ _ us hl=>match us,hl with | [_],_=>rfl) (fun cdv A outer s H E hr=>zjl g_MOST_SIZE x_BadSize cdv A outer s H E hr) hS
theorem zfF (c:∀ (x0:Int),qQ x0→∀ (K:Unit→Prop) (KX:Exn→Prop),Xy (jk x0) K KX→zaD x0 K KX):∀ ds Q E,jK ds Q E→ds.length=1∧QD (zbZ Q E) (zH 1 ds):=by
 rintro ds Q E ⟨x0,rfl,hp,q⟩
 exact ⟨rfl,zhV (N:=zbZ Q E) x0 (rt:=fun r=>Q (eU r)) (fun r h=>⟨Np.h (e:=eU) r,h⟩) (fun _ h=>h) (kx:=E) (fun _ _ h=>h) (c x0 hp _ _ q)⟩
theorem zfG:FnScope ["symbols"] ["symbols"] (defScope jU):=⟨rfl,rfl,rfl,by decide+kernel,rfl,by decide+kernel,by decide+kernel⟩
def za6:DS:=(ZM (dUn (o1 (zhF (.it 1) (.it 0))) (zu 0)))
def zde (z1:aT5) (rt:aT5→Prop):Prop:=rt ((z1).mergeSort (fun p q=>xU (YB ltI ltS) ((fun (x:aT2)=>(x.2.1,x.1)) p) ((fun (x:aT2)=>(x.2.1,x.1)) q)))
theorem zkQ {N:DE} (z1:aT5) {rt:aT5→Prop} (hrt:∀ r,rt r→N.rt (xZ r)) (h:zde z1 rt):za6 N [some (aq9 z1)]:=
 (Ys (d:=xZ ((z1).mergeSort (fun p q=>xU (YB ltI ltS) ((fun (x:aT2)=>(x.2.1,x.1)) p) ((fun (x:aT2)=>(x.2.1,x.1)) q)))) (ev_un (qv 0 aq9 z1 rfl) (zqw (e:=aq1) (eb:=(eT2 eI eS)) (k1:=(.it 1)) (k2:=(.it 0)) (l:=z1) (key:=(fun (x:aT2)=>(x.2.1,x.1))) (fun _=>rfl) (fun _=>⟨⟨by decide,.inl ⟨_,rfl⟩⟩,⟨by decide,.inr ⟨_,rfl⟩⟩⟩))) (qr xZ) (by exact hrt _ h))
theorem zm5 {P:Program} {w:World} {K:PySem.W.Frag} {mg:Str→Option Value} {base:Heap} {k:Nat} (m_sorted:mg "sorted"=none) {fa:Addr} (cdv:Value) (A:Around) (outer:List PySem.Env) (s:Shared) (H:Hp) (E:XK) (hl:zi0 (cxOf CX0 P w K mg base ["symbols"] "ordered" (defScope jU) fa cdv A outer s H E).nox) (hr:Room k (A.deeper (envOfC "ordered" (defScope jU) s.heap.objs.size fa cdv))):
  PDB (cxOf CX0 P w K mg base ["symbols"] "ordered" (defScope jU) fa cdv A outer s H E).nox (defBody jU) za6:=
 have d:Gd (cxOf CX0 P w K mg base ["symbols"] "ordered" (defScope jU) fa cdv A outer s H E).nox k:=⟨rfl,zfG.nd,hr⟩
 (yR (s_ret (zoO (x:="symbol") (k1:=(.it 1)) (k2:=(.it 0)) d hl m_sorted (zj 0) rfl rfl rfl rfl rfl (fun _ _ _ _ _=>rfl) (by decide) ⟨_,_,_,_,rfl,⟨_,_,_,_,rfl⟩,⟨_,_,_,_,rfl⟩,fun _=>⟨rfl,rfl⟩⟩)))
theorem zkR {P:Program} {w:World} {K:PySem.W.Frag} {mg:Str→Option Value} {base:Heap} {k:Nat} (m_sorted:mg "sorted"=none) {f:Addr} {fd:FuncData} (F:FnP K "ordered" jU f fd) (gm:mg "ordered"=some (.ref f)) (lam:zmP K base mg f "ordered") {S:zQ} (hS:∀ ds Q,S ds Q→ds.length=1∧za6 (yU Q) (zH 1 ds)):Fd P w K mg base (k+1) "ordered" S:=
 Fd.ofL F gm zfG (fun _ _ _ _ _ _ us hl=>match us,hl with | [_],_=>rfl) lam (fun cdv A outer s H E hl hr=>zm5 m_sorted cdv A outer s H E hl hr) hS
theorem zhX (c:∀ (x0:aT5),Zb x0→∀ K:aT5→Prop,K (zq x0)→zde x0 K):∀ ds Q,j7 ds Q→ds.length=1∧za6 (yU Q) (zH 1 ds):=by
 rintro ds Q ⟨x0,rfl,hp,q⟩
 exact ⟨rfl,zkQ (N:=yU Q) x0 (rt:=fun r=>Q (xZ r)) (fun r h=>⟨Np.h (e:=xZ) r,h⟩) (c x0 hp _ q)⟩
theorem zew:FnScope ["one","other","size"] ["one","other","size"] (defScope jE):=⟨rfl,rfl,rfl,by decide+kernel,rfl,by decide+kernel,by decide+kernel⟩
def JB:DS:=(zN (X6 (dB (zP (o2 ltO) (dCall (o1 znP) (zm (zP (o2 zcT) (zP (o2 ixD) (zu 0) (dC (.int 2))) (zP (o2 ixD) (zu 1) (dC (.int 2)))) zK)) (zu 2))) (zbi 2) (jg [0,1,2])) (ZM (dC (.int 0))))
def zb2 (z4:aT2) (z5:aT2) (z3:Int) (rt:Int→Prop):Prop:=(((zhy (z4.2.2 - z5.2.2)) < z3)→(rt z3))∧(¬((zhy (z4.2.2 - z5.2.2)) < z3)→(rt (0:Int)))
theorem zjm {N:DE} (z4:aT2) (z5:aT2) (z3:Int) {rt:Int→Prop} (hrt:∀ r,rt r→N.rt (eI r)) (h:zb2 z4 z5 z3 rt):JB N [some (aq1 z4),some (aq1 z5),some (eI z3)]:=
 (zbT (Kg (zB (ev_call (ea_cons (zB (zB (qv 0 aq1 z4 rfl) (ev_c (d:=eI 2)) (jN (ds:=[eS z4.1,eI z4.2.1,eI z4.2.2]) (d:=eI z4.2.2) rfl)) (zB (qv 1 aq1 z5 rfl) (ev_c (d:=eI 2)) (jN (ds:=[eS z5.1,eI z5.2.1,eI z5.2.2]) (d:=eI z5.2.2) rfl)) (@zco _ z4.2.2 z5.2.2)) ea_nil) (by exact (zrl (i:=(z4.2.2 - z5.2.2))))) (qv 2 eI z3 rfl) (@zow _ (zhy (z4.2.2 - z5.2.2)) z3))) (fun hk=>(zhA 2 (d:=eI z3) rfl (hrt _ (h.1 (of_decide_eq_true hk))))) (fun hk=>(QW (zkv (Ys (d:=eI (0:Int)) (ev_c (d:=eI 0)) (qr eI) (by exact hrt _ (h.2 (of_decide_eq_false hk))))) rfl)))
theorem zkS {P:Program} {w:World} {K:PySem.W.Frag} {mg:Str→Option Value} {base:Heap} {k:Nat} (m_abs:mg "abs"=none) {fa:Addr} (cdv:Value) (A:Around) (outer:List PySem.Env) (s:Shared) (H:Hp) (E:XK) (hr:Room k (A.deeper (envOfC "room_for" (defScope jE) s.heap.objs.size fa cdv))):
  PDB (cxOf CX0 P w K mg base ["one","other","size"] "room_for" (defScope jE) fa cdv A outer s H E).nox (defBody jE) JB:=
 have d:Gd (cxOf CX0 P w K mg base ["one","other","size"] "room_for" (defScope jE) fa cdv A outer s H E).nox k:=⟨rfl,zew.nd,hr⟩
 (zJ (s_if (yM ze5 (yK zlf m_abs (za (xG Xr (yG (zj 0) zA) (yG (zj 1) zA)) zp) zoh) (zj 2)) (yR (zhn 2)) (Jr [0,1,2]))
  (yR (s_ret zA)))
theorem zjn {P:Program} {w:World} {K:PySem.W.Frag} {mg:Str→Option Value} {base:Heap} {k:Nat} (m_abs:mg "abs"=none) {f:Addr} {fd:FuncData} (F:FnP K "room_for" jE f fd) (gm:mg "room_for"=some (.ref f)) {S:zQ} (hS:∀ ds Q,S ds Q→ds.length=3∧JB (yU Q) (zH 3 ds)):Fd P w K mg base (k+1) "room_for" S:=
 Fd.of F gm zew (fun _ _ _ _ _ _ us hl=>match us,hl with | [_,_,_],_=>rfl) (fun cdv A outer s H E hr=>zkS m_abs cdv A outer s H E hr) hS
theorem zgz (c:∀ (x0:aT2) (x1:aT2) (x2:Int),ZD x0 x1 x2→∀ K:Int→Prop,K (zV x0 x1 x2)→zb2 x0 x1 x2 K):∀ ds Q,jL ds Q→ds.length=3∧JB (yU Q) (zH 3 ds):=by
 rintro ds Q ⟨x0,x1,x2,rfl,hp,q⟩
 exact ⟨rfl,zjm (N:=yU Q) x0 x1 x2 (rt:=fun r=>Q (eI r)) (fun r h=>⟨Np.h (e:=eI) r,h⟩) (c x0 x1 x2 hp _ q)⟩
theorem zfH:FnScope ["row","size","whole","at"] ["row","size"] (defScope Zi):=⟨rfl,rfl,rfl,by decide+kernel,rfl,by decide+kernel,by decide+kernel⟩
def za7:DS:=(zN (jr (.nm 2) (dUn (o1 zkf) (dLc (zcb (zP (o2 zcT) (dCall (o1 zba) (zm (zu 0) zK)) (dC (.int 1)))) [3] (.nm 3) ZP (dFn jL (zm (zP (o2 ixD) (zu 0) (zu 3)) (zm (zP (o2 ixD) (zu 0) (zP (o2 XS) (zu 3) (dC (.int 1)))) (zm (zu 1) zK))))))) (ZM (zP (o2 zcT) (zu 2) (zP (o2 zcT) (zP (o2 ixD) (zP (o2 ixD) (zu 0) (dUn (o1 zgq) (dC (.int 1)))) (dC (.int 1))) (zP (o2 ixD) (zP (o2 ixD) (zu 0) (dC (.int 0))) (dC (.int 1)))))))
def zdf (z6:aT5) (z3:Int) (rt:Int→Prop):Prop:=(-1000000000000≤(((z6).length:Int) - (1:Int))∧(((z6).length:Int) - (1:Int))≤1000000000000)∧(((ZK 0 (((z6).length:Int) - (1:Int)))).length≤1000000)∧(∀ x1∈(ZK 0 (((z6).length:Int) - (1:Int))),(((atI z6 x1).isSome=true)∧((atI z6 (x1+(1:Int))).isSome=true)∧(ZD (gI z6 x1) (gI z6 (x1+(1:Int))) z3)))∧(((atI z6 (-(1:Int))).isSome=true)∧((atI z6 (0:Int)).isSome=true)∧(rt (((((ZK 0 (((z6).length:Int) - (1:Int)))).map (fun (x1:Int)=>(zV (gI z6 x1) (gI z6 (x1+(1:Int))) z3)))).sum - ((gI z6 (-(1:Int))).2.1 - (gI z6 (0:Int)).2.1))))
theorem zkT {N:DE} (z6:aT5) (z3:Int) {rt:Int→Prop} (hrt:∀ r,rt r→N.rt (eI r)) (h:zdf z6 z3 rt):za7 N [some (aq9 z6),some (eI z3),none,none]:=
 (qu (d:=eI (((((ZK 0 (((z6).length:Int) - (1:Int)))).map (fun (x1:Int)=>(zV (gI z6 x1) (gI z6 (x1+(1:Int))) z3)))).sum)) 2 (ev_un (kZ (eX:=eI) (eY:=eI) (l:=(ZK 0 (((z6).length:Int) - (1:Int)))) (f:=(fun (x1:Int)=>(zV (gI z6 x1) (gI z6 (x1+(1:Int))) z3))) (fun x1=>[some (aq9 z6),some (eI z3),none,some (eI x1)]) (zlx (zB (ev_call (ea_cons (qv 0 aq9 z6 rfl) ea_nil) (by exact (zc6 (e:=aq1) (l:=z6)))) (ev_c (d:=eI 1)) (@zco _ ((z6).length:Int) (1:Int))) h.1) h.2.1 (fun x1 N q=>(ju q)) (fun x1 hx=>(YH (ea_cons (zB (qv 0 aq9 z6 rfl) (qv 3 eI x1 rfl) (YG (e:=aq1) (h.2.2.1 x1 hx).1)) (ea_cons (zB (qv 0 aq9 z6 rfl) (zB (qv 3 eI x1 rfl) (ev_c (d:=eI 1)) (@zgV _ x1 (1:Int))) (YG (e:=aq1) (h.2.2.1 x1 hx).2.1)) (ea_cons (qv 1 eI z3 rfl) ea_nil))) (yr (qf aq1) (yr (qf aq1) (yr (qf eI) jB))) (yW (ql aq1) (yW (ql aq1) (yW (ql eI) ZJ))) (zcz (h.2.2.1 x1 hx).2.2)))) (zrm (f:=.o) (l:=(((ZK 0 (((z6).length:Int) - (1:Int)))).map (fun (x1:Int)=>(zV (gI z6 x1) (gI z6 (x1+(1:Int))) z3)))))) (qn eI) (Ys (d:=eI (((((ZK 0 (((z6).length:Int) - (1:Int)))).map (fun (x1:Int)=>(zV (gI z6 x1) (gI z6 (x1+(1:Int))) z3)))).sum - ((gI z6 (-(1:Int))).2.1 - (gI z6 (0:Int)).2.1))) (zB (qv 2 eI (((((ZK 0 (((z6).length:Int) - (1:Int)))).map (fun (x1:Int)=>(zV (gI z6 x1) (gI z6 (x1+(1:Int))) z3)))).sum) rfl) (zB (zB (zB (qv 0 aq9 z6 rfl) (ev_un (ev_c (d:=eI 1)) ziP) (YG (e:=aq1) h.2.2.2.1)) (ev_c (d:=eI 1)) (jN (ds:=[eS (gI z6 (-(1:Int))).1,eI (gI z6 (-(1:Int))).2.1,eI (gI z6 (-(1:Int))).2.2]) (d:=eI (gI z6 (-(1:Int))).2.1) rfl)) (zB (zB (qv 0 aq9 z6 rfl) (ev_c (d:=eI 0)) (YG (e:=aq1) h.2.2.2.2.1)) (ev_c (d:=eI 1)) (jN (ds:=[eS (gI z6 (0:Int)).1,eI (gI z6 (0:Int)).2.1,eI (gI z6 (0:Int)).2.2]) (d:=eI (gI z6 (0:Int)).2.1) rfl)) (@zco _ (gI z6 (-(1:Int))).2.1 (gI z6 (0:Int)).2.1)) (@zco _ ((((ZK 0 (((z6).length:Int) - (1:Int)))).map (fun (x1:Int)=>(zV (gI z6 x1) (gI z6 (x1+(1:Int))) z3)))).sum ((gI z6 (-(1:Int))).2.1 - (gI z6 (0:Int)).2.1))) (qr eI) (by exact hrt _ h.2.2.2.2.2)))
theorem zm6 {P:Program} {w:World} {K:PySem.W.Frag} {mg:Str→Option Value} {base:Heap} {k:Nat} (m_range:mg "range"=none) (m_len:mg "len"=none) (m_sum:mg "sum"=none) (f_room_for:Fd P w K mg base k "room_for" jL) {fa:Addr} (cdv:Value) (A:Around) (outer:List PySem.Env) (s:Shared) (H:Hp) (E:XK) (hr:Room k (A.deeper (envOfC "need_of" (defScope Zi) s.heap.objs.size fa cdv))):
  PDB (cxOf CX0 P w K mg base ["row","size","whole","at"] "need_of" (defScope Zi) fa cdv A outer s H E).nox (defBody Zi) za7:=
 have d:Gd (cxOf CX0 P w K mg base ["row","size","whole","at"] "need_of" (defScope Zi) fa cdv A outer s H E).nox k:=⟨rfl,zfH.nd,hr⟩
 (zJ (jf 2 d (zsh (zsi d.calm) m_sum (Y6 (own:=[("at",3)]) ⟨d.calm,d.nd,d.room⟩ (zrP m_range (xG Xr (yK YS m_len (za (zj 0) zp) Xg) zA)) (by kernel_rfl) (by decide) (fun _ _ _ _ _=>(yc 3 d.nd)) (fun _ _ _ _ _=>yQ) (fun _ _ _ _ _=>(xV f_room_for hr (za (yG (zj 0) (zj 3)) (za (yG (zj 0) (xG jH (zj 3) zA)) (za (zj 1) zp)))))) zoj))
  (yR (s_ret (xG Xr (zj 2) (xG Xr (yG (yG (zj 0) (zfh zA)) zA) (yG (yG (zj 0) zA) zA))))))
theorem zkU {P:Program} {w:World} {K:PySem.W.Frag} {mg:Str→Option Value} {base:Heap} {k:Nat} (m_range:mg "range"=none) (m_len:mg "len"=none) (m_sum:mg "sum"=none) (f_room_for:Fd P w K mg base k "room_for" jL) {f:Addr} {fd:FuncData} (F:FnP K "need_of" Zi f fd) (gm:mg "need_of"=some (.ref f)) {S:zQ} (hS:∀ ds Q,S ds Q→ds.length=2∧za7 (yU Q) (zH 4 ds)):Fd P w K mg base (k+1) "need_of" S:=
 Fd.of F gm zfH (fun _ _ _ _ _ _ us hl=>match us,hl with | [_,_],_=>rfl) (fun cdv A outer s H E hr=>zm6 m_range m_len m_sum f_room_for cdv A outer s H E hr) hS
theorem zhY (c:∀ (x0:aT5) (x1:Int),Xb x0 x1→∀ K:Int→Prop,K (yC x0 x1)→zdf x0 x1 K):∀ ds Q,XJ ds Q→ds.length=2∧za7 (yU Q) (zH 4 ds):=by
 rintro ds Q ⟨x0,x1,rfl,hp,q⟩
 exact ⟨rfl,zkT (N:=yU Q) x0 x1 (rt:=fun r=>Q (eI r)) (fun r h=>⟨Np.h (e:=eI) r,h⟩) (c x0 x1 hp _ q)⟩
theorem zcE:FnScope ["row","size","found","at","symbol","best","ahead","other","more","need_now","names"] ["row","size"] (defScope qZ):=⟨rfl,rfl,rfl,by decide+kernel,rfl,by decide+kernel,by decide+kernel⟩
def zbm:DS:=(zN (X7 5 zoD (zm (dFz (dLc (qK zW (zP (o2 ixD) (zu 2) (zu 6))) [9,10] (.tp (.cons (.nm 9) (.cons (.nm 10) .nil))) ZP (dTup (zm (zP (o2 XS) (zu 9) (zu 8)) (zm (zP (o2 XS) (zu 10) (Z6 (zm (zP (o2 ixD) (zu 4) (dC (.int 0))) zK))) zK))))) zK) Y5) (jg [6,8]))
def zbn (z6:aT5) (z3:Int) (z7:yX) (z8:Int) (z9:aT2) (z10:aT9) (z11:Int) (z12:Int) (rt:yX→Prop) (nx:aT9→Prop) (bk:aT9→Prop) (ct:aT9→Prop):Prop:=((atI z7 z11).isSome=true)∧(((gI z7 z11)).length≤1000000)∧(∀ x3∈(gI z7 z11),(((x3.2).length+([z9.1]).length≤sizeLine)))∧((z10).length+((((gI z7 z11)).map (fun (x3:aT6)=>((x3.1+z12),(x3.2++[z9.1]))))).length < 1000000)∧(nx (z10++(((gI z7 z11)).map (fun (x3:aT6)=>((x3.1+z12),(x3.2++[z9.1]))))))
theorem zfI {N:DE} (z6:aT5) (z3:Int) (z7:yX) (z8:Int) (z9:aT2) (z10:aT9) (z11:Int) (z12:Int) {rt:yX→Prop} {nx:aT9→Prop} {bk:aT9→Prop} {ct:aT9→Prop} (hrt:∀ r,rt r→N.rt (ji r)) (hnx:∀ (z10:aT9),nx z10→N.nx [some (aq9 z6),some (eI z3),some (ji z7),some (eI z8),some (aq1 z9),some (jC z10),none,none,none,none,none]) (hbk:∀ (z10:aT9),bk z10→N.bk [some (aq9 z6),some (eI z3),some (ji z7),some (eI z8),some (aq1 z9),some (jC z10),none,none,none,none,none]) (hct:∀ (z10:aT9),ct z10→N.ct [some (aq9 z6),some (eI z3),some (ji z7),some (eI z8),some (aq1 z9),some (jC z10),none,none,none,none,none]) (h:zbn z6 z3 z7 z8 z9 z10 z11 z12 rt nx bk ct):zbm N [some (aq9 z6),some (eI z3),some (ji z7),some (eI z8),some (aq1 z9),some (jC z10),some (eI z11),none,some (eI z12),none,none]:=
 (zmK 5 (e:=jh) (f:=.f) (l:=z10) (m:=(((gI z7 z11)).map (fun (x3:aT6)=>((x3.1+z12),(x3.2++[z9.1]))))) rfl (JQ (a:=zqS) (a':=yu) (kZ (eX:=jh) (eY:=zsL) (l:=(gI z7 z11)) (f:=(fun (x3:aT6)=>((x3.1+z12),(x3.2++[z9.1])))) (fun x3=>[some (aq9 z6),some (eI z3),some (ji z7),some (eI z8),some (aq1 z9),some (jC z10),some (eI z11),none,some (eI z12),some (eI x3.1),some (aq2 x3.2)]) (QT (e:=jh) (zB (ev_var 2 (e:=ji) (e':=(eL .b yu)) (v:=z7) rfl) (qv 6 eI z11 rfl) (YG (e:=yu) h.1))) h.2.1 (fun x3 N q=>(ziS (qR (ju (qR (ju (zau q))))))) (fun x3 hx=>(zcq (a:=eI) (x:=(x3.1+z12)) (b:=aq3) (y:=(x3.2++[z9.1])) (zB (qv 9 eI x3.1 rfl) (qv 8 eI z12 rfl) (@zgV _ x3.1 z12)) (zB (qv 10 aq2 x3.2 rfl) (yH (e:=eS) [z9.1] (ea_cons (zB (qv 4 aq1 z9 rfl) (ev_c (d:=eI 0)) (jN (ds:=[eS z9.1,eI z9.2.1,eI z9.2.2]) (d:=eS z9.1) rfl)) ea_nil) (Nat.le_of_ble_eq_true rfl)) (zc5 (e:=eS) (h.2.2.1 x3 hx))))))) (qn yu) h.2.2.2.1 (QW (hnx (z10++(((gI z7 z11)).map (fun (x3:aT6)=>((x3.1+z12),(x3.2++[z9.1]))))) h.2.2.2.2) rfl))
def zbo:DS:=(zN (X7 5 zff (zm (dTup (zm (zu 8) (zm (dFz (Z6 (zm (zP (o2 ixD) (zu 7) (dC (.int 0))) (zm (zP (o2 ixD) (zu 4) (dC (.int 0))) zK)))) zK))) zK) Y5) (zN (jg [7]) zbm))
def zbp (z6:aT5) (z3:Int) (z7:yX) (z8:Int) (z9:aT2) (z10:aT9) (z11:Int) (z5:aT2) (z12:Int) (rt:yX→Prop) (nx:aT9→Prop) (bk:aT9→Prop) (ct:aT9→Prop):Prop:=((z10).length < 1000000)∧(zbn z6 z3 z7 z8 z9 (z10++[(z12,[z5.1,z9.1])]) z11 z12 rt nx bk ct)
theorem zfJ {N:DE} (z6:aT5) (z3:Int) (z7:yX) (z8:Int) (z9:aT2) (z10:aT9) (z11:Int) (z5:aT2) (z12:Int) {rt:yX→Prop} {nx:aT9→Prop} {bk:aT9→Prop} {ct:aT9→Prop} (hrt:∀ r,rt r→N.rt (ji r)) (hnx:∀ (z10:aT9),nx z10→N.nx [some (aq9 z6),some (eI z3),some (ji z7),some (eI z8),some (aq1 z9),some (jC z10),none,none,none,none,none]) (hbk:∀ (z10:aT9),bk z10→N.bk [some (aq9 z6),some (eI z3),some (ji z7),some (eI z8),some (aq1 z9),some (jC z10),none,none,none,none,none]) (hct:∀ (z10:aT9),ct z10→N.ct [some (aq9 z6),some (eI z3),some (ji z7),some (eI z8),some (aq1 z9),some (jC z10),none,none,none,none,none]) (h:zbp z6 z3 z7 z8 z9 z10 z11 z5 z12 rt nx bk ct):zbo N [some (aq9 z6),some (eI z3),some (ji z7),some (eI z8),some (aq1 z9),some (jC z10),some (eI z11),some (aq1 z5),some (eI z12),none,none]:=
 (zc8 5 (e:=jh) (l:=z10) (v:=(z12,[z5.1,z9.1])) rfl (zcq (a:=eI) (x:=z12) (b:=aq2) (y:=[z5.1,z9.1]) (qv 8 eI z12 rfl) (JQ (a:=aq3) (a':=aq2) (yH (e:=eS) [z5.1,z9.1] (ea_cons (zB (qv 7 aq1 z5 rfl) (ev_c (d:=eI 0)) (jN (ds:=[eS z5.1,eI z5.2.1,eI z5.2.2]) (d:=eS z5.1) rfl)) (ea_cons (zB (qv 4 aq1 z9 rfl) (ev_c (d:=eI 0)) (jN (ds:=[eS z9.1,eI z9.2.1,eI z9.2.2]) (d:=eS z9.1) rfl)) ea_nil)) (Nat.le_of_ble_eq_true rfl)))) (Nb.h (e:=jh) (z12,[z5.1,z9.1])) h.1 (kJ (zfI (N:=N) z6 z3 z7 z8 z9 (z10++[(z12,[z5.1,z9.1])]) z11 z12 hrt hnx hbk hct h.2) rfl))
def zbq:DS:=(zN (jr (.nm 8) (zP (o2 zcT) (dFn jL (zm (zu 7) (zm (zu 4) (zm (zu 1) zK)))) (zP (o2 zcT) (zP (o2 ixD) (zu 4) (dC (.int 1))) (zP (o2 ixD) (zu 7) (dC (.int 1)))))) zbo)
def zbr (z6:aT5) (z3:Int) (z7:yX) (z8:Int) (z9:aT2) (z10:aT9) (z11:Int) (z5:aT2) (rt:yX→Prop) (nx:aT9→Prop) (bk:aT9→Prop) (ct:aT9→Prop):Prop:=(ZD z5 z9 z3)∧(zbp z6 z3 z7 z8 z9 z10 z11 z5 ((zV z5 z9 z3) - (z9.2.1 - z5.2.1)) rt nx bk ct)
theorem zfK {N:DE} (z6:aT5) (z3:Int) (z7:yX) (z8:Int) (z9:aT2) (z10:aT9) (z11:Int) (z5:aT2) {rt:yX→Prop} {nx:aT9→Prop} {bk:aT9→Prop} {ct:aT9→Prop} (hrt:∀ r,rt r→N.rt (ji r)) (hnx:∀ (z10:aT9),nx z10→N.nx [some (aq9 z6),some (eI z3),some (ji z7),some (eI z8),some (aq1 z9),some (jC z10),none,none,none,none,none]) (hbk:∀ (z10:aT9),bk z10→N.bk [some (aq9 z6),some (eI z3),some (ji z7),some (eI z8),some (aq1 z9),some (jC z10),none,none,none,none,none]) (hct:∀ (z10:aT9),ct z10→N.ct [some (aq9 z6),some (eI z3),some (ji z7),some (eI z8),some (aq1 z9),some (jC z10),none,none,none,none,none]) (h:zbr z6 z3 z7 z8 z9 z10 z11 z5 rt nx bk ct):zbq N [some (aq9 z6),some (eI z3),some (ji z7),some (eI z8),some (aq1 z9),some (jC z10),some (eI z11),some (aq1 z5),none,none,none]:=
 (qu (d:=eI ((zV z5 z9 z3) - (z9.2.1 - z5.2.1))) 8 (zB (YH (ea_cons (qv 7 aq1 z5 rfl) (ea_cons (qv 4 aq1 z9 rfl) (ea_cons (qv 1 eI z3 rfl) ea_nil))) (yr (qf aq1) (yr (qf aq1) (yr (qf eI) jB))) (yW (ql aq1) (yW (ql aq1) (yW (ql eI) ZJ))) (zcz h.1)) (zB (zB (qv 4 aq1 z9 rfl) (ev_c (d:=eI 1)) (jN (ds:=[eS z9.1,eI z9.2.1,eI z9.2.2]) (d:=eI z9.2.1) rfl)) (zB (qv 7 aq1 z5 rfl) (ev_c (d:=eI 1)) (jN (ds:=[eS z5.1,eI z5.2.1,eI z5.2.2]) (d:=eI z5.2.1) rfl)) (@zco _ z9.2.1 z5.2.1)) (@zco _ (zV z5 z9 z3) (z9.2.1 - z5.2.1))) (qn eI) (zfJ (N:=N) z6 z3 z7 z8 z9 z10 z11 z5 ((zV z5 z9 z3) - (z9.2.1 - z5.2.1)) hrt hnx hbk hct h.2))
def zbs:DS:=(zN (Jq 5) (zN (X7 2 zff (zm (dFz (dFn qd (zm (zu 5) zK))) zK) Y5) (jg [5])))
def zbt (z6:aT5) (z3:Int) (z7:yX) (z10:aT9) (rt:yX→Prop) (nx:yX→Prop) (bk:yX→Prop) (ct:yX→Prop):Prop:=(qY z10)∧((z7).length < 1000000)∧(nx (z7++[(zG z10)]))
theorem zfL {N:DE} (z6:aT5) (z3:Int) (z7:yX) (z10:aT9) {rt:yX→Prop} {nx:yX→Prop} {bk:yX→Prop} {ct:yX→Prop} (hrt:∀ r,rt r→N.rt (ji r)) (hnx:∀ (z7:yX),nx z7→N.nx [some (aq9 z6),some (eI z3),some (ji z7),none,none,none,none,none,none,none,none]) (hbk:∀ (z7:yX),bk z7→N.bk [some (aq9 z6),some (eI z3),some (ji z7),none,none,none,none,none,none,none,none]) (hct:∀ (z7:yX),ct z7→N.ct [some (aq9 z6),some (eI z3),some (ji z7),none,none,none,none,none,none,none,none]) (h:zbt z6 z3 z7 z10 rt nx bk ct):zbs N [some (aq9 z6),some (eI z3),some (ji z7),none,none,some (jC z10),none,none,none,none,none]:=
 (Yt 5 (e:=jC) (e':=yu) (v:=z10) rfl (zc8 2 (e:=yu) (l:=z7) (v:=(zG z10)) rfl (JQ (a:=jC) (a':=yu) (YH (ea_cons (qv 5 yu z10 rfl) ea_nil) (yr (qf yu) jB) (yW (ql yu) ZJ) (JT h.1))) (qn yu) h.2.1 (QW (hnx (z7++[(zG z10)]) h.2.2) rfl)))
def zbu:DS:=(zN (zfe (zgM qW (dSl (zu 0) dNo (dSo (zu 3)))) (.tp (.cons (.nm 6) (.cons (.nm 7) .nil))) zbq) (zN (jg [3,4]) zbs))
def zbv (z6:aT5) (z3:Int) (z7:yX) (z8:Int) (z9:aT2) (z10:aT9) (rt:yX→Prop) (nx:yX→Prop) (bk:yX→Prop) (ct:yX→Prop):Prop:=zaw (fun (x2:(Int×aT2)) (s:aT9) nx bk=>zbr z6 z3 z7 z8 z9 s x2.1 x2.2 rt (fun z10=>nx z10) (fun z10=>bk z10) (fun z10=>nx z10)) (fun s=>zbt z6 z3 z7 s rt nx bk ct) (YJ (xY z6 none (some z8))) z10
theorem zfM {N:DE} (z6:aT5) (z3:Int) (z7:yX) (z8:Int) (z9:aT2) (z10:aT9) {rt:yX→Prop} {nx:yX→Prop} {bk:yX→Prop} {ct:yX→Prop} (hrt:∀ r,rt r→N.rt (ji r)) (hnx:∀ (z7:yX),nx z7→N.nx [some (aq9 z6),some (eI z3),some (ji z7),none,none,none,none,none,none,none,none]) (hbk:∀ (z7:yX),bk z7→N.bk [some (aq9 z6),some (eI z3),some (ji z7),none,none,none,none,none,none,none,none]) (hct:∀ (z7:yX),ct z7→N.ct [some (aq9 z6),some (eI z3),some (ji z7),none,none,none,none,none,none,none,none]) (h:zbv z6 z3 z7 z8 z9 z10 rt nx bk ct):zbu N [some (aq9 z6),some (eI z3),some (ji z7),some (eI z8),some (aq1 z9),some (jC z10),none,none,none,none,none]:=
 (zbU (l:=(YJ (xY z6 none (some z8)))) (fun (s:aT9)=>[some (aq9 z6),some (eI z3),some (ji z7),some (eI z8),some (aq1 z9),some (jC s),none,none,none,none,none]) (eT2 eI aq1) (zmH (e:=aq1) (ziY (e:=aq1) (qv 0 aq9 z6 rfl) Qw (Qx (qv 3 eI z8 rfl)))) rfl h (fun s h=>(kJ (zfL (N:=N) z6 z3 z7 s hrt hnx hbk hct h) rfl)) (fun x2 s nx N' hn hc hb hr h=>(ziS (qR (ju (qR (ju (zau (zfK (N:=N') z6 z3 z7 z8 z9 s x2.1 x2.2 (zfn hr.1 hrt) (fun z10 hq=>(hn z10 hq)) (fun z10 hq=>(hb z10 hq)) (fun z10 hq=>(hc z10 hq)) h)))))))))
def zbw:DS:=(zN (jr (.nm 5) (Z6 zK)) zbu)
def zbx (z6:aT5) (z3:Int) (z7:yX) (z8:Int) (z9:aT2) (rt:yX→Prop) (nx:yX→Prop) (bk:yX→Prop) (ct:yX→Prop):Prop:=zbv z6 z3 z7 z8 z9 ([]:List aT6) rt nx bk ct
theorem zfN {N:DE} (z6:aT5) (z3:Int) (z7:yX) (z8:Int) (z9:aT2) {rt:yX→Prop} {nx:yX→Prop} {bk:yX→Prop} {ct:yX→Prop} (hrt:∀ r,rt r→N.rt (ji r)) (hnx:∀ (z7:yX),nx z7→N.nx [some (aq9 z6),some (eI z3),some (ji z7),none,none,none,none,none,none,none,none]) (hbk:∀ (z7:yX),bk z7→N.bk [some (aq9 z6),some (eI z3),some (ji z7),none,none,none,none,none,none,none,none]) (hct:∀ (z7:yX),ct z7→N.ct [some (aq9 z6),some (eI z3),some (ji z7),none,none,none,none,none,none,none,none]) (h:zbx z6 z3 z7 z8 z9 rt nx bk ct):zbw N [some (aq9 z6),some (eI z3),some (ji z7),some (eI z8),some (aq1 z9),none,none,none,none,none,none]:=
 (qu (d:=jC ([]:List aT6)) 5 (yH (e:=jh) [] ea_nil (Nat.le_of_ble_eq_true rfl)) (Nb.h (e:=jC) ([]:List aT6)) (zfM (N:=N) z6 z3 z7 z8 z9 ([]:List aT6) hrt hnx hbk hct h))
def zby:DS:=(zN (zfe (zgM qW (zu 0)) (.tp (.cons (.nm 3) (.cons (.nm 4) .nil))) zbw) (zbi 2))
def zbz (z6:aT5) (z3:Int) (z7:yX) (rt:yX→Prop):Prop:=zaw (fun (x1:(Int×aT2)) (s:yX) nx bk=>zbx z6 z3 s x1.1 x1.2 rt (fun z7=>nx z7) (fun z7=>bk z7) (fun z7=>nx z7)) (fun s=>rt s) (YJ z6) z7
theorem zfO {N:DE} (z6:aT5) (z3:Int) (z7:yX) {rt:yX→Prop} (hrt:∀ r,rt r→N.rt (ji r)) (h:zbz z6 z3 z7 rt):zby N [some (aq9 z6),some (eI z3),some (ji z7),none,none,none,none,none,none,none,none]:=
 (zbU (l:=(YJ z6)) (fun (s:yX)=>[some (aq9 z6),some (eI z3),some (ji s),none,none,none,none,none,none,none,none]) (eT2 eI aq1) (zoz (e:=aq1) (qv 0 aq9 z6 rfl)) rfl h (fun s h=>(zhA 2 (d:=ji s) rfl (hrt _ h))) (fun x1 s nx N' hn hc hb hr h=>(ziS (qR (ju (qR (ju (zau (zfN (N:=N') z6 z3 s x1.1 x1.2 (zfn hr.1 hrt) (fun z7 hq=>(hn z7 hq)) (fun z7 hq=>(hb z7 hq)) (fun z7 hq=>(hc z7 hq)) h)))))))))
def QF:DS:=(zN (jr (.nm 2) (Z6 zK)) zby)
def zaE (z6:aT5) (z3:Int) (rt:yX→Prop):Prop:=zbz z6 z3 ([]:List aT9) rt
theorem zhZ {N:DE} (z6:aT5) (z3:Int) {rt:yX→Prop} (hrt:∀ r,rt r→N.rt (ji r)) (h:zaE z6 z3 rt):QF N [some (aq9 z6),some (eI z3),none,none,none,none,none,none,none,none,none]:=
 (qu (d:=ji ([]:List aT9)) 2 (yH (e:=yu) [] ea_nil (Nat.le_of_ble_eq_true rfl)) (Nb.h (e:=ji) ([]:List aT9)) (zfO (N:=N) z6 z3 ([]:List aT9) hrt h))
theorem zjo {P:Program} {w:World} {K:PySem.W.Frag} {mg:Str→Option Value} {base:Heap} {k:Nat} (m_enumerate:mg "enumerate"=none) (f_room_for:Fd P w K mg base k "room_for" jL) (f_greatest_of:Fd P w K mg base k "greatest_of" qd) {fa:Addr} (cdv:Value) (A:Around) (outer:List PySem.Env) (s:Shared) (H:Hp) (E:XK) (hr:Room k (A.deeper (envOfC "chains_to" (defScope qZ) s.heap.objs.size fa cdv))):
  PDB (cxOf CX0 P w K mg base ["row","size","found","at","symbol","best","ahead","other","more","need_now","names"] "chains_to" (defScope qZ) fa cdv A outer s H E).nox (defBody qZ) QF:=
 have d:Gd (cxOf CX0 P w K mg base ["row","size","found","at","symbol","best","ahead","other","more","need_now","names"] "chains_to" (defScope qZ) fa cdv A outer s H E).nox k:=⟨rfl,zcE.nd,hr⟩
 (zJ (jf 2 d (qj zp))
  (zJ (zfj d PassesOwn.never (ziw m_enumerate (zj 0)) (Jl d.calm (yP (yc 3 d.nd) (yP (yc 4 d.nd) Xv))) (zJ (jf 5 d (qj zp))
  (zJ (zfj d PassesOwn.never (ziw m_enumerate (zes (zj 0) Y8 (Y9 (zj 3)))) (Jl d.calm (yP (yc 6 d.nd) (yP (yc 7 d.nd) Xv))) (zJ (jf 8 d (xG Xr (xV f_room_for hr (za (zj 7) (za (zj 4) (za (zj 1) zp)))) (xG Xr (yG (zj 4) zA) (yG (zj 7) zA))))
  (zJ (zfp Jj PySem.F.slot_list_append PySem.F.type_list_append mt_append 5 (za (X8 (za (zj 8) (za (JN (qj (za (yG (zj 7) zA) (za (yG (zj 4) zA) zp)))) zp))) zp))
  (Yr [7] (zJ (zfp zoE PySem.F.slot_list_extend PySem.F.type_list_extend zqo 5 (za (JN (Y6 (own:=[("need_now",9),("names",10)]) ⟨d.calm,d.nd,d.room⟩ (xH (yG (zj 2) (zj 6))) (by kernel_rfl) (by decide) (fun _ _ _ _ _=>(Jl d.calm (yP (yc 9 d.nd) (yP (yc 10 d.nd) Xv)))) (fun _ _ _ _ _=>yQ) (fun _ _ _ _ _=>(X8 (za (xG jH (zj 9) (zj 8)) (za (xG jH (zj 10) (qj (za (yG (zj 4) zA) zp))) zp)))))) zp))
  (Jr [6,8]))))))
  (Yr [3,4] (Qu 5 (zJ (zfp Jj PySem.F.slot_list_append PySem.F.type_list_append mt_append 2 (za (JN (xV f_greatest_of hr (za (zj 5) zp))) zp))
  (Jr [5])))))))
  (yR (zhn 2))))
theorem zh0 {P:Program} {w:World} {K:PySem.W.Frag} {mg:Str→Option Value} {base:Heap} {k:Nat} (m_enumerate:mg "enumerate"=none) (f_room_for:Fd P w K mg base k "room_for" jL) (f_greatest_of:Fd P w K mg base k "greatest_of" qd) {f:Addr} {fd:FuncData} (F:FnP K "chains_to" qZ f fd) (gm:mg "chains_to"=some (.ref f)) {S:zQ} (hS:∀ ds Q,S ds Q→ds.length=2∧QF (yU Q) (zH 11 ds)):Fd P w K mg base (k+1) "chains_to" S:=
 Fd.of F gm zcE (fun _ _ _ _ _ _ us hl=>match us,hl with | [_,_],_=>rfl) (fun cdv A outer s H E hr=>zjo m_enumerate f_room_for f_greatest_of cdv A outer s H E hr) hS
theorem zfP (c:∀ (x0:aT5) (x1:Int),ZS x0 x1→∀ K:yX→Prop,K (zX x0 x1)→zaE x0 x1 K):∀ ds Q,Yo ds Q→ds.length=2∧QF (yU Q) (zH 11 ds):=by
 rintro ds Q ⟨x0,x1,rfl,hp,q⟩
 exact ⟨rfl,zhZ (N:=yU Q) x0 x1 (rt:=fun r=>Q (ji r)) (fun r h=>⟨Np.h (e:=ji) r,h⟩) (c x0 x1 hp _ q)⟩
theorem zaF:FnScope ["rows","top","good","need_now","names"] ["rows"] (defScope yZ):=⟨rfl,rfl,rfl,by decide+kernel,rfl,by decide+kernel,by decide+kernel⟩
def JW:DS:=(zN (jr (.nm 2) (dLc (qK zW (zu 0)) [3,4] (.tp (.cons (.nm 3) (.cons (.nm 4) .nil))) (dB (zP (o2 (eqO id)) (zu 3) (zu 1))) (zu 4))) (zN (Jq 2) (ZM (Z6 (zm (dTup (zm (zu 1) (zm (dUn (o1 zlN) (zu 2)) zK))) zK)))))
def JX (z13:aT9) (z14:Int) (rt:aT9→Prop):Prop:=((z13).length≤1000000)∧(((((z13).filter (fun (x2:aT6)=>decide (x2.1=z14))).map (fun (x2:aT6)=>x2.2))≠[])∧(rt [(z14,(Qh (((z13).filter (fun (x2:aT6)=>decide (x2.1=z14))).map (fun (x2:aT6)=>x2.2))))]))
theorem zdg {N:DE} (z13:aT9) (z14:Int) {rt:aT9→Prop} (hrt:∀ r,rt r→N.rt (jC r)) (h:JX z13 z14 rt):JW N [some (yu z13),some (eI z14),none,none,none]:=
 (qu (d:=zqR (((z13).filter (fun (x2:aT6)=>decide (x2.1=z14))).map (fun (x2:aT6)=>x2.2))) 2 (by exact (ziU (eX:=jh) (eY:=aq2) (l:=z13) (c:=fun (x2:aT6)=>decide (x2.1=z14)) (f:=(fun (x2:aT6)=>x2.2)) (fun x2=>[some (yu z13),some (eI z14),none,some (eI x2.1),some (aq2 x2.2)]) (QT (e:=jh) (qv 0 yu z13 rfl)) h.1 (fun x2 N q=>(ziS (qR (ju (qR (ju (zau q))))))) (fun x2 hx=>(Kg (zB (qv 3 eI x2.1 rfl) (qv 1 eI z14 rfl) (ziQ (e:=eI) (e':=eI) (u:=x2.1) (v:=z14))))) (fun x2 hx hk=>(qv 4 aq2 x2.2 rfl)))) (qn zqR) (Yt 2 (e:=zqR) (e':=(eL .f aq2)) (v:=(((z13).filter (fun (x2:aT6)=>decide (x2.1=z14))).map (fun (x2:aT6)=>x2.2))) rfl (Ys (d:=jC [(z14,(Qh (((z13).filter (fun (x2:aT6)=>decide (x2.1=z14))).map (fun (x2:aT6)=>x2.2))))]) (yH (e:=jh) [(z14,(Qh (((z13).filter (fun (x2:aT6)=>decide (x2.1=z14))).map (fun (x2:aT6)=>x2.2))))] (ea_cons (zcq (a:=eI) (x:=z14) (b:=aq2) (y:=(Qh (((z13).filter (fun (x2:aT6)=>decide (x2.1=z14))).map (fun (x2:aT6)=>x2.2)))) (qv 1 eI z14 rfl) (ev_un (qv 2 (eL .f aq2) (((z13).filter (fun (x2:aT6)=>decide (x2.1=z14))).map (fun (x2:aT6)=>x2.2)) rfl) (zsj (f:=.f) (l:=(((z13).filter (fun (x2:aT6)=>decide (x2.1=z14))).map (fun (x2:aT6)=>x2.2))) h.2.1))) ea_nil) (Nat.le_of_ble_eq_true rfl)) (qr jC) (by exact hrt _ h.2.2))))
def JZ:DS:=(zN (jr (.nm 1) (dCall (o1 maxD) (zm (dLc (qK zW (zu 0)) [3,4] (.tp (.cons (.nm 3) (.cons (.nm 4) .nil))) ZP (zu 3)) zK))) JW)
def J8 (z13:aT9) (rt:aT9→Prop):Prop:=((z13).length≤1000000)∧(((z13).map (fun (x1:aT6)=>x1.1))≠[])∧(JX z13 (Xi ((z13).map (fun (x1:aT6)=>x1.1))) rt)
theorem zdh {N:DE} (z13:aT9) {rt:aT9→Prop} (hrt:∀ r,rt r→N.rt (jC r)) (h:J8 z13 rt):JZ N [some (yu z13),none,none,none,none]:=
 (qu (d:=eI (Xi ((z13).map (fun (x1:aT6)=>x1.1)))) 1 (ev_call (ea_cons (kZ (eX:=jh) (eY:=eI) (l:=z13) (f:=(fun (x1:aT6)=>x1.1)) (fun x1=>[some (yu z13),none,none,some (eI x1.1),some (aq2 x1.2)]) (QT (e:=jh) (qv 0 yu z13 rfl)) h.1 (fun x1 N q=>(ziS (qR (ju (qR (ju (zau q))))))) (fun x1 hx=>(qv 3 eI x1.1 rfl))) ea_nil) (by exact (zox h.2.1))) (qn eI) (zdg (N:=N) z13 (Xi ((z13).map (fun (x1:aT6)=>x1.1))) hrt h.2.2))
def YZ:DS:=(zN (X6 (dB (zP (o2 (eqO id)) (zu 0) (Z6 zK))) (ZM (Z6 zK)) Yq) JZ)
def QX (z13:aT9) (rt:aT9→Prop):Prop:=((z13=([]:List aT6))→(rt ([]:List aT6)))∧(¬(z13=([]:List aT6))→(J8 z13 rt))
theorem zfQ {N:DE} (z13:aT9) {rt:aT9→Prop} (hrt:∀ r,rt r→N.rt (jC r)) (h:QX z13 rt):YZ N [some (yu z13),none,none,none,none]:=
 (zbT (Kg (zB (qv 0 yu z13 rfl) (yH (e:=jh) [] ea_nil (Nat.le_of_ble_eq_true rfl)) (ziQ (e:=yu) (e':=jC) (u:=z13) (v:=([]:List aT6))))) (fun hk=>(Ys (d:=jC ([]:List aT6)) (yH (e:=jh) [] ea_nil (Nat.le_of_ble_eq_true rfl)) (qr jC) (by exact hrt _ (h.1 (of_decide_eq_true hk))))) (fun hk=>(w_next (zkv (zdh (N:=N) z13 hrt (h.2 (of_decide_eq_false hk)))))))
theorem zgA {P:Program} {w:World} {K:PySem.W.Frag} {mg:Str→Option Value} {base:Heap} {k:Nat} (m_max:mg "max"=none) (m_min:mg "min"=none) (m_len:mg "len"=none) {fa:Addr} (cdv:Value) (A:Around) (outer:List PySem.Env) (s:Shared) (H:Hp) (E:XK) (hl:zi0 (cxOf CX0 P w K mg base ["rows","top","good","need_now","names"] "greatest_of" (defScope yZ) fa cdv A outer s H E).nox) (hr:Room k (A.deeper (envOfC "greatest_of" (defScope yZ) s.heap.objs.size fa cdv))):
  PDB (cxOf CX0 P w K mg base ["rows","top","good","need_now","names"] "greatest_of" (defScope yZ) fa cdv A outer s H E).nox (defBody yZ) YZ:=
 have d:Gd (cxOf CX0 P w K mg base ["rows","top","good","need_now","names"] "greatest_of" (defScope yZ) fa cdv A outer s H E).nox k:=⟨rfl,zaF.nd,hr⟩
 (zJ (s_if (yM (QK d.u') (zj 0) (qj zp)) (yR (s_ret (qj zp))) Qa)
  (zJ (jf 1 d (yK (cr_maxD d.calm) m_max (za (Y6 (own:=[("need_now",3),("names",4)]) ⟨d.calm,d.nd,d.room⟩ (xH (zj 0)) (by kernel_rfl) (by decide) (fun _ _ _ _ _=>(Jl d.calm (yP (yc 3 d.nd) (yP (yc 4 d.nd) Xv)))) (fun _ _ _ _ _=>yQ) (fun _ _ _ _ _=>(zj 3))) zp) zoi))
  (zJ (zaZ 2 (own:=[("need_now",3),("names",4)]) ⟨d.calm,d.nd,d.room⟩ (xH (zj 0)) (by kernel_rfl) (by decide) (fun _ _ _ _ _=>(Jl d.calm (yP (yc 3 d.nd) (yP (yc 4 d.nd) Xv)))) (fun _ _ _ _ _=>(Kv (yM (QK d.u') (zj 3) (zj 1)))) (fun _ _ _ _ _=>(zj 4)))
  (Qu 2 (yR (s_ret (qj (za (X8 (za (zj 1) (za (zqx (x:="names") d hl m_min m_len (zj 2) rfl rfl rfl rfl rfl (fun _ _ _ _ _=>rfl) (by decide) (by decide) ⟨_,_,_,_,_,_,rfl⟩) zp))) zp))))))))
theorem zfR {P:Program} {w:World} {K:PySem.W.Frag} {mg:Str→Option Value} {base:Heap} {k:Nat} (m_max:mg "max"=none) (m_min:mg "min"=none) (m_len:mg "len"=none) {f:Addr} {fd:FuncData} (F:FnP K "greatest_of" yZ f fd) (gm:mg "greatest_of"=some (.ref f)) (lam:zmP K base mg f "greatest_of") {S:zQ} (hS:∀ ds Q,S ds Q→ds.length=1∧YZ (yU Q) (zH 5 ds)):Fd P w K mg base (k+1) "greatest_of" S:=
 Fd.ofL F gm zaF (fun _ _ _ _ _ _ us hl=>match us,hl with | [_],_=>rfl) lam (fun cdv A outer s H E hl hr=>zgA m_max m_min m_len cdv A outer s H E hl hr) hS
theorem zdi (c:∀ (x0:aT9),qY x0→∀ K:aT9→Prop,K (zG x0)→QX x0 K):∀ ds Q,qd ds Q→ds.length=1∧YZ (yU Q) (zH 5 ds):=by
 rintro ds Q ⟨x0,rfl,hp,q⟩
 exact ⟨rfl,zfQ (N:=yU Q) x0 (rt:=fun r=>Q (jC r)) (fun r h=>⟨Np.h (e:=jC) r,h⟩) (c x0 hp _ q)⟩
theorem zaG:FnScope ["symbols","size","every","pairs","pair"] ["symbols","size"] (defScope xW):=⟨rfl,rfl,rfl,by decide+kernel,rfl,by decide+kernel,by decide+kernel⟩
def J9:DS:=(zN (X6 (zhf (dB (zP (o2 (eqO id)) (zu 2) (Z6 zK))) (dB (zP (o2 leO) (zP (o2 ixD) (zP (o2 ixD) (zu 2) (dC (.int 0))) (dC (.int 0))) (dC (.int 0))))) (ZM (dC .non)) Yq) (ZM (zP (o2 ixD) (zu 2) (dC (.int 0)))))
def Ka (z15:aT9) (rt:zhS→Prop):Prop:=((decide (z15=([]:List aT6)))=false→(((atI z15 (0:Int)).isSome=true)))∧(((decide (z15=([]:List aT6))||decide ((gI z15 (0:Int)).1≤(0:Int)))=true→(rt (none:zhS)))∧((decide (z15=([]:List aT6))||decide ((gI z15 (0:Int)).1≤(0:Int)))=false→(((atI z15 (0:Int)).isSome=true)∧(rt (some (gI z15 (0:Int)))))))
theorem zdj {N:DE} (z15:aT9) {rt:zhS→Prop} (hrt:∀ r,rt r→N.rt (zb1 r)) (h:Ka z15 rt):J9 N [none,none,some (yu z15),none,none]:=
 (zbT (et_or (Kg (zB (qv 2 yu z15 rfl) (yH (e:=jh) [] ea_nil (Nat.le_of_ble_eq_true rfl)) (ziQ (e:=yu) (e':=jC) (u:=z15) (v:=([]:List aT6))))) (fun k3=>(Kg (zB (zB (zB (qv 2 yu z15 rfl) (ev_c (d:=eI 0)) (YG (e:=jh) (h.1 k3))) (ev_c (d:=eI 0)) (jN (ds:=[eI (gI z15 (0:Int)).1,aq2 (gI z15 (0:Int)).2]) (d:=eI (gI z15 (0:Int)).1) rfl)) (ev_c (d:=eI 0)) (@zqc _ (gI z15 (0:Int)).1 (0:Int)))))) (fun hk=>(Ys (d:=zb1 (none:zhS)) (ev_c (d:=eU ())) (qr zb1) (by exact hrt _ (h.2.1 hk)))) (fun hk=>(w_next (zkv (Ys (d:=zb1 (some (gI z15 (0:Int)))) (zB (qv 2 yu z15 rfl) (ev_c (d:=eI 0)) (YG (e:=jh) (h.2.2 hk).1)) (qr zb1) (by exact hrt _ (h.2.2 hk).2))))))
def Y0:DS:=(zN (jr (.nm 2) (dFn qd (zm (dFz (zoI (qK zW (dFn Yo (zm (dFz (dFn j7 (zm (zu 0) zK))) (zm (zu 1) zK)))) [3,4] (.nm 3) ZP (qK zW (zu 3)) [4] (.nm 4) ZP (zu 4))) zK))) (zN (Jq 2) (zN (jg [0,1]) J9)))
def QZ (z1:aT5) (z3:Int) (rt:zhS→Prop):Prop:=(Zb z1)∧(ZS (zq z1) z3)∧((((zX (zq z1) z3)).flatMap (fun x1=>x1)).length≤1000000)∧(qY (((zX (zq z1) z3)).flatMap (fun x1=>x1.map (fun y2=>y2))))∧(Ka (zG (((zX (zq z1) z3)).flatMap (fun x1=>x1.map (fun y2=>y2)))) rt)
theorem zfS {N:DE} (z1:aT5) (z3:Int) {rt:zhS→Prop} (hrt:∀ r,rt r→N.rt (zb1 r)) (h:QZ z1 z3 rt):Y0 N [some (aq9 z1),some (eI z3),none,none,none]:=
 (qu (d:=jC (zG (((zX (zq z1) z3)).flatMap (fun x1=>x1.map (fun y2=>y2))))) 2 (YH (ea_cons (JQ (a:=jC) (a':=yu) (zqr (eX:=yu) (eY:=jh) (eZ:=jh) (l:=(zX (zq z1) z3)) (l1:=(fun x1=>x1)) (f:=(fun x1 y2=>y2)) (fun x1=>[some (aq9 z1),some (eI z3),none,some (yu x1),none]) (fun x1 y2=>[some (aq9 z1),some (eI z3),none,some (yu x1),some (jh y2)]) (QT (e:=yu) (YH (ea_cons (JQ (a:=xZ) (a':=aq9) (YH (ea_cons (qv 0 aq9 z1 rfl) ea_nil) (yr (qf aq9) jB) (yW (ql aq9) ZJ) (zaC h.1))) (ea_cons (qv 1 eI z3 rfl) ea_nil)) (yr (qf aq9) (yr (qf eI) jB)) (yW (ql aq9) (yW (ql eI) ZJ)) (zgv h.2.1))) h.2.2.1 (fun x1 N q=>(ju q)) (fun x1 hx=>(QT (e:=jh) (qv 3 yu x1 rfl))) (fun x1 y2 N q=>(ju q)) (fun x1 hx y2 hy=>(qv 4 jh y2 rfl)))) ea_nil) (yr (qf yu) jB) (yW (ql yu) ZJ) (JT h.2.2.2.1)) (qn jC) (Yt 2 (e:=jC) (e':=yu) (v:=(zG (((zX (zq z1) z3)).flatMap (fun x1=>x1.map (fun y2=>y2))))) rfl (kJ (zdj (N:=N) (zG (((zX (zq z1) z3)).flatMap (fun x1=>x1.map (fun y2=>y2)))) hrt h.2.2.2.2) rfl)))
theorem zgB {P:Program} {w:World} {K:PySem.W.Frag} {mg:Str→Option Value} {base:Heap} {k:Nat} (f_greatest_of:Fd P w K mg base k "greatest_of" qd) (f_chains_to:Fd P w K mg base k "chains_to" Yo) (f_ordered:Fd P w K mg base k "ordered" j7) {fa:Addr} (cdv:Value) (A:Around) (outer:List PySem.Env) (s:Shared) (H:Hp) (E:XK) (hr:Room k (A.deeper (envOfC "worst_chain" (defScope xW) s.heap.objs.size fa cdv))):
  PDB (cxOf CX0 P w K mg base ["symbols","size","every","pairs","pair"] "worst_chain" (defScope xW) fa cdv A outer s H E).nox (defBody xW) Y0:=
 have d:Gd (cxOf CX0 P w K mg base ["symbols","size","every","pairs","pair"] "worst_chain" (defScope xW) fa cdv A outer s H E).nox k:=⟨rfl,zaG.nd,hr⟩
 (zJ (jf 2 d (xV f_greatest_of hr (za (JN (zsc (own:=[("pairs",3),("pair",4)]) [4] ⟨d.calm,d.nd,d.room⟩ (xH (xV f_chains_to hr (za (JN (xV f_ordered hr (za (zj 0) zp))) (za (zj 1) zp)))) (by kernel_rfl) (by decide) (by decide) (by decide) (fun _ _ _ _ _=>(yc 3 d.nd)) (fun _ _ _ _ _=>yQ) (fun _ _ _ _ _=>(xH (zj 3))) (fun _ _ _ _ _=>(yc 4 d.nd)) (fun _ _ _ _ _=>yQ) (fun _ _ _ _ _=>(zj 4)))) zp)))
  (Qu 2 (Yr [0,1] (zJ (s_if (zll (zfi (yM (QK d.u') (zj 2) (qj zp)) (zeT (yM zhd (yG (yG (zj 2) zA) zA) zA)))) (yR (s_ret Jk)) Qa)
  (yR (s_ret (yG (zj 2) zA)))))))
theorem zfT {P:Program} {w:World} {K:PySem.W.Frag} {mg:Str→Option Value} {base:Heap} {k:Nat} (f_greatest_of:Fd P w K mg base k "greatest_of" qd) (f_chains_to:Fd P w K mg base k "chains_to" Yo) (f_ordered:Fd P w K mg base k "ordered" j7) {f:Addr} {fd:FuncData} (F:FnP K "worst_chain" xW f fd) (gm:mg "worst_chain"=some (.ref f)) {S:zQ} (hS:∀ ds Q,S ds Q→ds.length=2∧Y0 (yU Q) (zH 5 ds)):Fd P w K mg base (k+1) "worst_chain" S:=
 Fd.of F gm zaG (fun _ _ _ _ _ _ us hl=>match us,hl with | [_,_],_=>rfl) (fun cdv A outer s H E hr=>zgB f_greatest_of f_chains_to f_ordered cdv A outer s H E hr) hS
theorem zdk (c:∀ (x0:aT5) (x1:Int),jP x0 x1→∀ K:zhS→Prop,K (yw x0 x1)→QZ x0 x1 K):∀ ds Q,j8 ds Q→ds.length=2∧Y0 (yU Q) (zH 5 ds):=by
 rintro ds Q ⟨x0,x1,rfl,hp,q⟩
 exact ⟨rfl,zfS (N:=yU Q) x0 x1 (rt:=fun r=>Q (zb1 r)) (fun r h=>⟨Np.h (e:=zb1) r,h⟩) (c x0 x1 hp _ q)⟩
theorem zlY:FnScope ["symbols","names","size","there","places","row","name","x","y","at"] ["symbols","names","size"] (defScope jx):=⟨rfl,rfl,rfl,by decide+kernel,rfl,by decide+kernel,by decide+kernel⟩
def zjp:DS:=(zN (jr (.nm 5) (dFn j7 (zm (zu 0) zK))) (zN (Jq 5) (ZM (dFn XJ (zm (dLc (qK zW (zu 4)) [9] (.nm 9) ZP (zP (o2 ixD) (zu 5) (zu 9))) (zm (zu 2) zK))))))
def zjq (z1:aT5) (z3:Int) (z17:aT3) (rt:Int→Prop) (kx:Exn→Prop):Prop:=(Zb z1)∧(((z17).length≤1000000)∧(∀ x5∈z17,(((atI (zq z1) x5).isSome=true)))∧(Xb ((z17).map (fun (x5:Int)=>(gI (zq z1) x5))) z3)∧(rt (yC ((z17).map (fun (x5:Int)=>(gI (zq z1) x5))) z3)))
theorem zm7 {N:DE} (z1:aT5) (z3:Int) (z17:aT3) {rt:Int→Prop} {kx:Exn→Prop} (hrt:∀ r,rt r→N.rt (eI r)) (hkx:∀ x ρ,kx x→N.ex x ρ) (h:zjq z1 z3 z17 rt kx):zjp N [some (aq9 z1),none,some (eI z3),none,some (aq5 z17),none,none,none,none,none]:=
 (qu (d:=xZ (zq z1)) 5 (YH (ea_cons (qv 0 aq9 z1 rfl) ea_nil) (yr (qf aq9) jB) (yW (ql aq9) ZJ) (zaC h.1)) (qn xZ) (Yt 5 (e:=xZ) (e':=aq9) (v:=(zq z1)) rfl (Ys (d:=eI (yC ((z17).map (fun (x5:Int)=>(gI (zq z1) x5))) z3)) (zkt (ea_cons (kZ (eX:=eI) (eY:=aq1) (l:=z17) (f:=(fun (x5:Int)=>(gI (zq z1) x5))) (fun x5=>[some (aq9 z1),none,some (eI z3),none,some (aq5 z17),some (aq9 (zq z1)),none,none,none,some (eI x5)]) (QT (e:=eI) (qv 4 aq5 z17 rfl)) h.2.1 (fun x5 N q=>(ju q)) (fun x5 hx=>(zB (qv 5 aq9 (zq z1) rfl) (qv 9 eI x5 rfl) (YG (e:=aq1) (h.2.2.1 x5 hx))))) (ea_cons (qv 2 eI z3 rfl) ea_nil)) (yr (Fz.h (e:=xZ) (e':=aq9) _) (yr (qf eI) jB)) (zqf (FlC.h (b:=false) (e:=xZ) _)) (zjh h.2.2.2.1) (WkC.h (e:=eI) (e':=eI) (yC ((z17).map (fun (x5:Int)=>(gI (zq z1) x5))) z3))) (qr eI) (by exact hrt _ h.2.2.2.2))))
def zjr:DS:=(zN (zda (zhI jK (zm (zu 2) zK))) zjp)
def zjs (z1:aT5) (z3:Int) (z17:aT3) (rt:Int→Prop) (kx:Exn→Prop):Prop:=(qQ z3)∧(Xy (jk z3) (fun _=>zjq z1 z3 z17 rt kx) kx)
theorem zm8 {N:DE} (z1:aT5) (z3:Int) (z17:aT3) {rt:Int→Prop} {kx:Exn→Prop} (hrt:∀ r,rt r→N.rt (eI r)) (hkx:∀ x ρ,kx x→N.ex x ρ) (h:zjs z1 z3 z17 rt kx):zjr N [some (aq9 z1),none,some (eI z3),none,some (aq5 z17),none,none,none,none,none]:=
 (zjb (ea_cons (qv 2 eI z3 rfl) ea_nil) (yr (qf eI) jB) (zfz h.1) (h.2.mono (fun _ z=>(zm7 (N:=N) z1 z3 z17 hrt hkx z)) (fun x z=>hkx x _ z)))
def zjt:DS:=(zN (X6 (dB (zP (o2 (eqO not)) (dUn (o1 zcw) (zu 4)) (zu 4))) (Jx (zja "BadChain" "BadChain")) Yq) zjr)
def zju (z1:aT5) (z3:Int) (z17:aT3) (rt:Int→Prop) (kx:Exn→Prop):Prop:=((z17).length < 64)∧((¬((zeA z17)=z17)→(kx (xB "BadChain")))∧(((zeA z17)=z17)→(zjs z1 z3 z17 rt kx)))
theorem zm9 {N:DE} (z1:aT5) (z3:Int) (z17:aT3) {rt:Int→Prop} {kx:Exn→Prop} (hrt:∀ r,rt r→N.rt (eI r)) (hkx:∀ x ρ,kx x→N.ex x ρ) (h:zju z1 z3 z17 rt kx):zjt N [some (aq9 z1),none,some (eI z3),none,some (aq5 z17),none,none,none,none,none]:=
 (zbT (Kg (zB (ev_un (qv 4 aq5 z17 rfl) (zkK (f:=.f) (l:=z17) h.1)) (qv 4 aq5 z17 rfl) (ztt (e:=aq6) (e':=aq5) (u:=(zeA z17)) (v:=z17)))) (fun hk=>(zcu (hkx _ _ (h.2.1 (of_decide_eq_false (zlA hk)))))) (fun hk=>(w_next (zkv (zm8 (N:=N) z1 z3 z17 hrt hkx (h.2.2 (of_decide_eq_true (zlB hk))))))))
def zjv:DS:=(zN (jr (.nm 4) (dLc (qK zW (zu 1)) [6] (.nm 6) ZP (zqz (zu 3) (zu 6)))) (zN (Jq 4) (zN (jg [1,3]) zjt)))
def zjw (z1:aT5) (z2:aT1) (z3:Int) (z16:aT1) (rt:Int→Prop) (kx:Exn→Prop):Prop:=((z2).length≤1000000)∧(∀ x4∈z2,((x4∈z16)))∧(zju z1 z3 ((z2).map (fun (x4:OkS)=>(((z16).idxOf x4:Nat):Int))) rt kx)
theorem zna {N:DE} (z1:aT5) (z2:aT1) (z3:Int) (z16:aT1) {rt:Int→Prop} {kx:Exn→Prop} (hrt:∀ r,rt r→N.rt (eI r)) (hkx:∀ x ρ,kx x→N.ex x ρ) (h:zjw z1 z2 z3 z16 rt kx):zjv N [some (aq9 z1),some (aq2 z2),some (eI z3),some (aq2 z16),none,none,none,none,none,none]:=
 (qu (d:=aq6 ((z2).map (fun (x4:OkS)=>(((z16).idxOf x4:Nat):Int)))) 4 (kZ (eX:=eS) (eY:=eI) (l:=z2) (f:=(fun (x4:OkS)=>(((z16).idxOf x4:Nat):Int))) (fun x4=>[some (aq9 z1),some (aq2 z2),some (eI z3),some (aq2 z16),none,none,some (eS x4),none,none,none]) (QT (e:=eS) (qv 1 aq2 z2 rfl)) h.1 (fun x4 N q=>(ju q)) (fun x4 hx=>(zsm (f:=.f) (l:=z16) (z:=x4) (qv 3 aq2 z16 rfl) (qv 6 eS x4 rfl) (h.2.1 x4 hx)))) (qn aq6) (Yt 4 (e:=aq6) (e':=aq5) (v:=((z2).map (fun (x4:OkS)=>(((z16).idxOf x4:Nat):Int)))) rfl (kJ (zm9 (N:=N) z1 z3 ((z2).map (fun (x4:OkS)=>(((z16).idxOf x4:Nat):Int))) hrt hkx h.2.2) rfl)))
def zjx:DS:=(zN (X6 (zhf (dB (zP (o2 ltO) (dCall (o1 zba) (zm (zu 1) zK)) (dC (.int 2)))) (zca (zhe (dCall (o1 ze7) (zm (dLc (qK zW (zu 1)) [6] (.nm 6) ZP (zP (o2 (inO id)) (zu 6) (zu 3))) zK))))) (Jx (zja "BadChain" "BadChain")) Yq) zjv)
def zjy (z1:aT5) (z2:aT1) (z3:Int) (z16:aT1) (rt:Int→Prop) (kx:Exn→Prop):Prop:=((decide (((z2).length:Int) < (2:Int)))=false→(((z2).length≤1000000)))∧(((decide (((z2).length:Int) < (2:Int))||(!((z2).all (fun (x2:OkS)=>decide (x2∈z16)))))=true→(kx (xB "BadChain")))∧((decide (((z2).length:Int) < (2:Int))||(!((z2).all (fun (x2:OkS)=>decide (x2∈z16)))))=false→(zjw z1 z2 z3 z16 rt kx)))
theorem znb {N:DE} (z1:aT5) (z2:aT1) (z3:Int) (z16:aT1) {rt:Int→Prop} {kx:Exn→Prop} (hrt:∀ r,rt r→N.rt (eI r)) (hkx:∀ x ρ,kx x→N.ex x ρ) (h:zjy z1 z2 z3 z16 rt kx):zjx N [some (aq9 z1),some (aq2 z2),some (eI z3),some (aq2 z16),none,none,none,none,none,none]:=
 (zbT (et_or (Kg (zB (ev_call (ea_cons (qv 1 aq2 z2 rfl) ea_nil) (by exact (zc6 (e:=eS) (l:=z2)))) (ev_c (d:=eI 2)) (@zow _ ((z2).length:Int) (2:Int)))) (fun k3=>(et_not (zhx (ev_call (ea_cons (kZ (eX:=eS) (eY:=eB) (l:=z2) (f:=(fun (x2:OkS)=>decide (x2∈z16))) (fun x2=>[some (aq9 z1),some (aq2 z2),some (eI z3),some (aq2 z16),none,none,some (eS x2),none,none,none]) (QT (e:=eS) (qv 1 aq2 z2 rfl)) (h.1 k3) (fun x2 N q=>(ju q)) (fun x2 hx=>(zB (qv 6 eS x2 rfl) (qv 3 aq2 z16 rfl) (ztv (e:=eS) (e':=eS) (u:=x2) (l:=z16))))) ea_nil) (by exact zku)) zlw)))) (fun hk=>(zcu (hkx _ _ (h.2.1 hk)))) (fun hk=>(w_next (zkv (zna (N:=N) z1 z2 z3 z16 hrt hkx (h.2.2 hk))))))
def zjz:DS:=(zN (jr (.nm 3) (dLc (qK zW (dFn j7 (zm (zu 0) zK))) [6,7,8] (.tp (.cons (.nm 6) (.cons (.nm 7) (.cons (.nm 8) .nil)))) ZP (zu 6))) (zN (Jq 3) zjx))
def zjA (z1:aT5) (z2:aT1) (z3:Int) (rt:Int→Prop) (kx:Exn→Prop):Prop:=(Zb z1)∧(((zq z1)).length≤1000000)∧(zjy z1 z2 z3 (((zq z1)).map (fun (x1:aT2)=>x1.1)) rt kx)
theorem znc {N:DE} (z1:aT5) (z2:aT1) (z3:Int) {rt:Int→Prop} {kx:Exn→Prop} (hrt:∀ r,rt r→N.rt (eI r)) (hkx:∀ x ρ,kx x→N.ex x ρ) (h:zjA z1 z2 z3 rt kx):zjz N [some (aq9 z1),some (aq2 z2),some (eI z3),none,none,none,none,none,none,none]:=
 (qu (d:=aq3 (((zq z1)).map (fun (x1:aT2)=>x1.1))) 3 (kZ (eX:=aq1) (eY:=eS) (l:=(zq z1)) (f:=(fun (x1:aT2)=>x1.1)) (fun x1=>[some (aq9 z1),some (aq2 z2),some (eI z3),none,none,none,some (eS x1.1),some (eI x1.2.1),some (eI x1.2.2),none]) (QT (e:=aq1) (YH (ea_cons (qv 0 aq9 z1 rfl) ea_nil) (yr (qf aq9) jB) (yW (ql aq9) ZJ) (zaC h.1))) h.2.1 (fun x1 N q=>(ziS (qR (ju (qR (ju (qR (ju (zau q))))))))) (fun x1 hx=>(qv 6 eS x1.1 rfl))) (qn aq3) (Yt 3 (e:=aq3) (e':=aq2) (v:=(((zq z1)).map (fun (x1:aT2)=>x1.1))) rfl (znb (N:=N) z1 z2 z3 (((zq z1)).map (fun (x1:aT2)=>x1.1)) hrt hkx h.2.2)))
def zh1:DS:=(zN (zda (zhI qC (zm (zu 0) zK))) zjz)
def zkV (z1:aT5) (z2:aT1) (z3:Int) (rt:Int→Prop) (kx:Exn→Prop):Prop:=(xq z1)∧(Xy (xr z1) (fun _=>zjA z1 z2 z3 rt kx) kx)
theorem zqT {N:DE} (z1:aT5) (z2:aT1) (z3:Int) {rt:Int→Prop} {kx:Exn→Prop} (hrt:∀ r,rt r→N.rt (eI r)) (hkx:∀ x ρ,kx x→N.ex x ρ) (h:zkV z1 z2 z3 rt kx):zh1 N [some (aq9 z1),some (aq2 z2),some (eI z3),none,none,none,none,none,none,none]:=
 (zjb (ea_cons (qv 0 aq9 z1 rfl) ea_nil) (yr (qf aq9) jB) (zcx h.1) (h.2.mono (fun _ z=>(znc (N:=N) z1 z2 z3 hrt hkx z)) (fun x z=>hkx x _ z)))
theorem zsM {P:Program} {w:World} {K:PySem.W.Frag} {mg:Str→Option Value} {base:Heap} {k:Nat} (m_len:mg "len"=none) (m_all:mg "all"=none) (m_sorted:mg "sorted"=none) (m_set:mg "set"=none) (f_need_symbols:Fx P w K mg base k "need_symbols" qC) (f_ordered:Fd P w K mg base k "ordered" j7) (f_need_size:Fx P w K mg base k "need_size" jK) (f_need_of:Fd P w K mg base k "need_of" XJ) (x_BadChain:zkJ P w K mg base k "BadChain" "BadChain") {fa:Addr} (cdv:Value) (A:Around) (outer:List PySem.Env) (s:Shared) (H:Hp) (E:XK) (hr:Room k (A.deeper (envOfC "need" (defScope jx) s.heap.objs.size fa cdv))):
  PDB (cxOf (CXG P w) P w K mg base ["symbols","names","size","there","places","row","name","x","y","at"] "need" (defScope jx) fa cdv A outer s H E) (defBody jx) zh1:=
 have d:Gd (cxOf (CXG P w) P w K mg base ["symbols","names","size","there","places","row","name","x","y","at"] "need" (defScope jx) fa cdv A outer s H E) k:=⟨rfl,zlY.nd,hr⟩
 have hp:=zct (P:=P) (w:=w) (K:=K) (mg:=mg) (base:=base) (N:=["symbols","names","size","there","places","row","name","x","y","at"]) (qual:="need") (scope:=defScope jx) (f:=fa) (cdv:=cdv) (A:=A) (outer:=outer) (s:=s) (H:=H) (E:=E)
 (zJ (zlS (zrr f_need_symbols hr (za (zj 0) zp)))
  (zJ (jf 3 d (Y6 (own:=[("name",6),("x",7),("y",8)]) ⟨d.calm,d.nd,d.room⟩ (xH (xV f_ordered hr (za (zj 0) zp))) (by kernel_rfl) (by decide) (fun _ _ _ _ _=>(Jl d.calm (yP (yc 6 d.nd) (yP (yc 7 d.nd) (yP (yc 8 d.nd) Xv))))) (fun _ _ _ _ _=>yQ) (fun _ _ _ _ _=>(zj 6))))
  (Qu 3 (zJ (s_if (zll (zfi (yM ze5 (yK YS m_len (za (zj 1) zp) Xg) zA) (zeT (zcf (zce (yK (zeQ d.calm) m_all (za (Y6 (own:=[("name",6)]) ⟨d.calm,d.nd,d.room⟩ (xH (zj 1)) (by kernel_rfl) (by decide) (fun _ _ _ _ _=>(yc 6 d.nd)) (fun _ _ _ _ _=>yQ) (fun _ _ _ _ _=>(Ku (zn9 d.u) (zj 6) (zj 3)))) zp) zho)))))) (yR (zcs d.calm (zhL x_BadChain hr))) Qa)
  (zJ (zaZ 4 (own:=[("name",6)]) ⟨d.calm,d.nd,d.room⟩ (xH (zj 1)) (by kernel_rfl) (by decide) (fun _ _ _ _ _=>(yc 6 d.nd)) (fun _ _ _ _ _=>yQ) (fun _ _ _ _ _=>(zsl (zj 3) (zj 6))))
  (Qu 4 (Yr [1,3] (zJ (s_if (yM (zbP d.u') (zjc d.calm m_sorted m_set (zj 4)) (zj 4)) (yR (zcs d.calm (zhL x_BadChain hr))) Qa)
  (zJ (zlS (zrr f_need_size hr (za (zj 2) zp)))
  (zJ (jf 5 d (xV f_ordered hr (za (zj 0) zp)))
  (Qu 5 (yR (s_ret (xV f_need_of hr (za (Y6 (own:=[("at",9)]) ⟨d.calm,d.nd,d.room⟩ (xH (zj 4)) (by kernel_rfl) (by decide) (fun _ _ _ _ _=>(yc 9 d.nd)) (fun _ _ _ _ _=>yQ) (fun _ _ _ _ _=>(yG (zj 5) (zj 9)))) (za (zj 2) zp))))))))))))))))
theorem zqU {P:Program} {w:World} {K:PySem.W.Frag} {mg:Str→Option Value} {base:Heap} {k:Nat} (m_len:mg "len"=none) (m_all:mg "all"=none) (m_sorted:mg "sorted"=none) (m_set:mg "set"=none) (f_need_symbols:Fx P w K mg base k "need_symbols" qC) (f_ordered:Fd P w K mg base k "ordered" j7) (f_need_size:Fx P w K mg base k "need_size" jK) (f_need_of:Fd P w K mg base k "need_of" XJ) (x_BadChain:zkJ P w K mg base k "BadChain" "BadChain") {f:Addr} {fd:FuncData} (F:FunD K "need" "need" (defArgs jx) (defBody jx) (defScope jx) [] [("size",V.int (2))] f fd) (gm:mg "need"=some (.ref f)) {S:qO} (hS:∀ ds Q E,S ds Q E→ds.length=3∧zh1 (zbZ Q E) (zH 10 ds)):FxK P w K mg base (k+1) "need" jx ["symbols","names","size"] [("size",V.int (2))] S:=
 FxK.of F gm zlY (fun cdv A outer s H E hr=>zsM m_len m_all m_sorted m_set f_need_symbols f_ordered f_need_size f_need_of x_BadChain cdv A outer s H E hr) hS
theorem znd (c:∀ (x0:aT5) (x1:aT1) (x2:Int),Ym x0 x1 x2→∀ (K:Int→Prop) (KX:Exn→Prop),Xy (QC x0 x1 x2) K KX→zkV x0 x1 x2 K KX):∀ ds Q E,Jz ds Q E→ds.length=3∧zh1 (zbZ Q E) (zH 10 ds):=by
 rintro ds Q E ⟨x0,x1,x2,rfl,hp,q⟩
 exact ⟨rfl,zqT (N:=zbZ Q E) x0 x1 x2 (rt:=fun r=>Q (eI r)) (fun r h=>⟨Np.h (e:=eI) r,h⟩) (kx:=E) (fun _ _ h=>h) (c x0 x1 x2 hp _ _ q)⟩
theorem zjB:FnScope ["symbols","size","found"] ["symbols","size"] (defScope jw):=⟨rfl,rfl,rfl,by decide+kernel,rfl,by decide+kernel,by decide+kernel⟩
def zg1:DS:=(zN (X6 (dB (zP (o2 (isO id)) (zu 2) (dC .non))) (ZM (dC .non)) Yq) (ZM (zP (o2 ixD) (zu 2) (dC (.int 1)))))
def zg2 (z7:zhS) (rt:aT7→Prop):Prop:=(((z7).isNone)=true→(rt (none:aT7)))∧(((z7).isNone)=false→(((z7).isSome=true)∧(rt (some (oG z7).2))))
theorem zkW {N:DE} (z7:zhS) {rt:aT7→Prop} (hrt:∀ r,rt r→N.rt ((eO aq2) r)) (h:zg2 z7 rt):zg1 N [none,none,some (zb1 z7)]:=
 (zbT (Kg (zB (qv 2 zb1 z7 rfl) (ev_c (d:=eU ())) (ztu (e:=jh) (v:=z7)))) (fun hk=>(Ys (d:=(eO aq2) (none:aT7)) (ev_c (d:=eU ())) (qr (eO aq2)) (by exact hrt _ (h.1 hk)))) (fun hk=>(w_next (zkv (Ys (d:=(eO aq2) (some (oG z7).2)) (zB (zut (e:=jh) (v:=z7) (qv 2 zb1 z7 rfl) (h.2 hk).1) (ev_c (d:=eI 1)) (jN (ds:=[eI (oG z7).1,aq2 (oG z7).2]) (d:=aq2 (oG z7).2) rfl)) (qr (eO aq2)) (by exact hrt _ (h.2 hk).2))))))
def zg3:DS:=(zN (jr (.nm 2) (dFn j8 (zm (zu 0) (zm (zu 1) zK)))) (zN (jg [0,1]) zg1))
def zg4 (z1:aT5) (z3:Int) (rt:aT7→Prop):Prop:=(jP z1 z3)∧(zg2 (yw z1 z3) rt)
theorem zkX {N:DE} (z1:aT5) (z3:Int) {rt:aT7→Prop} (hrt:∀ r,rt r→N.rt ((eO aq2) r)) (h:zg4 z1 z3 rt):zg3 N [some (aq9 z1),some (eI z3),none]:=
 (qu (d:=zb1 (yw z1 z3)) 2 (YH (ea_cons (qv 0 aq9 z1 rfl) (ea_cons (qv 1 eI z3 rfl) ea_nil)) (yr (qf aq9) (yr (qf eI) jB)) (yW (ql aq9) (yW (ql eI) ZJ)) (zeC h.1)) (qn zb1) (kJ (zkW (N:=N) (yw z1 z3) hrt h.2) rfl))
def zg5:DS:=(zN (zgN (dFn Yn (zm (zu 1) zK))) zg3)
def zg6 (z1:aT5) (z3:Int) (rt:aT7→Prop):Prop:=(ZR z3)∧(zg4 z1 z3 rt)
theorem zkY {N:DE} (z1:aT5) (z3:Int) {rt:aT7→Prop} (hrt:∀ r,rt r→N.rt ((eO aq2) r)) (h:zg6 z1 z3 rt):zg5 N [some (aq9 z1),some (eI z3),none]:=
 (zlC (YH (ea_cons (qv 1 eI z3 rfl) ea_nil) (yr (qf eI) jB) (yW (ql eI) ZJ) (zgu h.1)) (zkX (N:=N) z1 z3 hrt h.2))
def zeZ:DS:=(zN (zgN (dFn jA (zm (zu 0) zK))) zg5)
def zh2 (z1:aT5) (z3:Int) (rt:aT7→Prop):Prop:=(jy z1)∧(zg6 z1 z3 rt)
theorem zpo {N:DE} (z1:aT5) (z3:Int) {rt:aT7→Prop} (hrt:∀ r,rt r→N.rt ((eO aq2) r)) (h:zh2 z1 z3 rt):zeZ N [some (aq9 z1),some (eI z3),none]:=
 (zlC (YH (ea_cons (qv 0 aq9 z1 rfl) ea_nil) (yr (qf aq9) jB) (yW (ql aq9) ZJ) (zdc h.1)) (zkY (N:=N) z1 z3 hrt h.2))
theorem zqV {P:Program} {w:World} {K:PySem.W.Frag} {mg:Str→Option Value} {base:Heap} {k:Nat} (f_need_symbols:Fd P w K mg base k "need_symbols" jA) (f_need_size:Fd P w K mg base k "need_size" Yn) (f_worst_chain:Fd P w K mg base k "worst_chain" j8) {fa:Addr} (cdv:Value) (A:Around) (outer:List PySem.Env) (s:Shared) (H:Hp) (E:XK) (hr:Room k (A.deeper (envOfC "chain" (defScope jw) s.heap.objs.size fa cdv))):
  PDB (cxOf CX0 P w K mg base ["symbols","size","found"] "chain" (defScope jw) fa cdv A outer s H E).nox (defBody jw) zeZ:=
 have d:Gd (cxOf CX0 P w K mg base ["symbols","size","found"] "chain" (defScope jw) fa cdv A outer s H E).nox k:=⟨rfl,zjB.nd,hr⟩
 (zJ (zoe (xV f_need_symbols hr (za (zj 0) zp)))
  (zJ (zoe (xV f_need_size hr (za (zj 1) zp)))
  (zJ (jf 2 d (xV f_worst_chain hr (za (zj 0) (za (zj 1) zp))))
  (Yr [0,1] (zJ (s_if (yM ze6 (zj 2) Jk) (yR (s_ret Jk)) Qa)
  (yR (s_ret (yG (zj 2) zA))))))))
theorem zpp {P:Program} {w:World} {K:PySem.W.Frag} {mg:Str→Option Value} {base:Heap} {k:Nat} (f_need_symbols:Fd P w K mg base k "need_symbols" jA) (f_need_size:Fd P w K mg base k "need_size" Yn) (f_worst_chain:Fd P w K mg base k "worst_chain" j8) {f:Addr} {fd:FuncData} (F:FunD K "chain" "chain" (defArgs jw) (defBody jw) (defScope jw) [] [("size",V.int (2))] f fd) (gm:mg "chain"=some (.ref f)) {S:zQ} (hS:∀ ds Q,S ds Q→ds.length=2∧zeZ (yU Q) (zH 3 ds)):FdK P w K mg base (k+1) "chain" jw ["symbols","size"] [("size",V.int (2))] S:=
 FdK.of F gm zjB (fun cdv A outer s H E hr=>zqV f_need_symbols f_need_size f_worst_chain cdv A outer s H E hr) hS
theorem zkZ (c:∀ (x0:aT5) (x1:Int),XF x0 x1→∀ K:aT7→Prop,K (xg x0 x1)→zh2 x0 x1 K):∀ ds Q,za4 ds Q→ds.length=2∧zeZ (yU Q) (zH 3 ds):=by
 rintro ds Q ⟨x0,x1,rfl,hp,q⟩
 exact ⟨rfl,zpo (N:=yU Q) x0 x1 (rt:=fun r=>Q ((eO aq2) r)) (fun r h=>⟨Np.h (e:=(eO aq2)) r,h⟩) (c x0 x1 hp _ q)⟩
theorem zcF:FnScope ["_law_found","_law_due","_law_one","_law_other"] ["_law_found","_law_due"] (defScope qI):=⟨rfl,rfl,rfl,by decide+kernel,rfl,by decide+kernel,by decide+kernel⟩
def Xe (yg:zQ):DS:=(zN (X6 (zhe (dUn (o1 (xJ ["list","tuple"])) (zu 1))) (zN (X6 (dB (zP (o2 (eqO not)) (dUn (o1 (xJ ["list"])) (zu 0)) (dUn (o1 (xJ ["list"])) (zu 1)))) (ZM (dC (.bl false))) Yq)
 (zN (X6 (dB (zP (o2 (eqO not)) (dUn (o1 (xJ ["tuple"])) (zu 0)) (dUn (o1 (xJ ["tuple"])) (zu 1)))) (ZM (dC (.bl false))) Yq)
 (zN (X6 (dB (zP (o2 (eqO not)) (dCall (o1 zba) (zm (zu 0) zK)) (dCall (o1 zba) (zm (zu 1) zK)))) (ZM (dC (.bl false))) Yq)
 (ZM (dCall (o1 ze7) (zm (dLc (zms zW (zu 0) (zu 1)) [2,3] (.tp (.cons (.nm 2) (.cons (.nm 3) .nil))) ZP (dFn yg (zm (zu 2) (zm (zu 3) zK)))) zK)))))) Yq)
 (zN (X6 (zhf (dB (zP (o2 (isO id)) (zu 1) (dC .non))) (dB (zP (o2 (isO id)) (zu 0) (dC .non)))) (ZM (zhg (zP (o2 (isO id)) (zu 0) (dC .non)) (zP (o2 (isO id)) (zu 1) (dC .non)))) Yq)
 (zN (X6 (dB (zP (o2 (eqO not)) (dUn (o1 (xJ ["bool"])) (zu 1)) (dUn (o1 (xJ ["bool"])) (zu 0)))) (ZM (dC (.bl false))) Yq)
 (zN (X6 (dB (zP (o2 (eqO not)) (dUn (o1 (xJ ["int"])) (zu 1)) (dUn (o1 (xJ ["int"])) (zu 0)))) (ZM (dC (.bl false))) Yq)
 (ZM (zhg (zP (o2 (eqO id)) (dUn (o1 (xJ ["str"])) (zu 1)) (dUn (o1 (xJ ["str"])) (zu 0))) (zP (o2 (eqO id)) (zu 0) (zu 1))))))))
theorem zjC {P:Program} {w:World} {K:PySem.W.Frag} {mg:Str→Option Value} {base:Heap} {k:Nat} {yg:zQ} (m_isinstance:mg "isinstance"=none) (m_list:mg "list"=none) (m_tuple:mg "tuple"=none) (m_len:mg "len"=none) (m_all:mg "all"=none) (m_zip:mg "zip"=none) (m_bool:mg "bool"=none) (m_int:mg "int"=none) (m_str:mg "str"=none) (f__law_same:Fd P w K mg base k "_law_same" yg) {fa:Addr} (cdv:Value) (A:Around) (outer:List PySem.Env) (s:Shared) (H:Hp) (E:XK) (hr:Room k (A.deeper (envOfC "_law_same" (defScope qI) s.heap.objs.size fa cdv))):
  PDB (cxOf CX0 P w K mg base ["_law_found","_law_due","_law_one","_law_other"] "_law_same" (defScope qI) fa cdv A outer s H E).nox (defBody qI) (Xe yg):=
 have d:Gd (cxOf CX0 P w K mg base ["_law_found","_law_due","_law_one","_law_other"] "_law_same" (defScope qI) fa cdv A outer s H E).nox k:=⟨rfl,zcF.nd,hr⟩
 (zJ (s_if (zce (zp5 m_isinstance (zj 1) m_list m_tuple zcj zfk)) (zJ (s_if (yM (zbP d.u') (YT m_isinstance (zj 0) m_list zcj) (YT m_isinstance (zj 1) m_list zcj)) (yR (s_ret zfg)) Qa)
   (zJ (s_if (yM (zbP d.u') (YT m_isinstance (zj 0) m_tuple zfk) (YT m_isinstance (zj 1) m_tuple zfk)) (yR (s_ret zfg)) Qa)
   (zJ (s_if (yM (zbP d.u') (yK YS m_len (za (zj 0) zp) Xg) (yK YS m_len (za (zj 1) zp) Xg)) (yR (s_ret zfg)) Qa)
   (yR (s_ret (yK (zeQ d.calm) m_all (za (Y6 (own:=[("_law_one",2),("_law_other",3)]) ⟨d.calm,d.nd,d.room⟩ (zln m_zip (zj 0) (zj 1)) (by kernel_rfl) (by decide) (fun _ _ _ _ _=>(Jl d.calm (yP (yc 2 d.nd) (yP (yc 3 d.nd) Xv)))) (fun _ _ _ _ _=>yQ) (fun _ _ _ _ _=>(xV f__law_same hr (za (zj 2) (za (zj 3) zp))))) zp) zho)))))) Qa)
   (zJ (s_if (zll (zfi (yM ze6 (zj 1) Jk) (zeT (yM ze6 (zj 0) Jk)))) (yR (s_ret (zhm (Ku ze6 (zj 0) Jk) (zhl (Ku ze6 (zj 1) Jk))))) Qa)
   (zJ (s_if (yM (zbP d.u') (YT m_isinstance (zj 1) m_bool zlo) (YT m_isinstance (zj 0) m_bool zlo)) (yR (s_ret zfg)) Qa)
   (zJ (s_if (yM (zbP d.u') (YT m_isinstance (zj 1) m_int zok) (YT m_isinstance (zj 0) m_int zok)) (yR (s_ret zfg)) Qa)
   (yR (s_ret (zhm (Ku (QK d.u') (YT m_isinstance (zj 1) m_str zol) (YT m_isinstance (zj 0) m_str zol)) (zhl (Ku (QK d.u') (zj 0) (zj 1))))))))))
theorem zh3 {P:Program} {w:World} {K:PySem.W.Frag} {mg:Str→Option Value} {base:Heap} {k:Nat} {yg:zQ} (m_isinstance:mg "isinstance"=none) (m_list:mg "list"=none) (m_tuple:mg "tuple"=none) (m_len:mg "len"=none) (m_all:mg "all"=none) (m_zip:mg "zip"=none) (m_bool:mg "bool"=none) (m_int:mg "int"=none) (m_str:mg "str"=none) (f__law_same:Fd P w K mg base k "_law_same" yg) {f:Addr} {fd:FuncData} (F:FnP K "_law_same" qI f fd) (gm:mg "_law_same"=some (.ref f)) {S:zQ} (hS:∀ ds Q,S ds Q→ds.length=2∧(Xe yg) (yU Q) (zH 4 ds)):Fd P w K mg base (k+1) "_law_same" S:=
 Fd.of F gm zcF (fun _ _ _ _ _ _ us hl=>match us,hl with | [_,_],_=>rfl) (fun cdv A outer s H E hr=>zjC m_isinstance m_list m_tuple m_len m_all m_zip m_bool m_int m_str f__law_same cdv A outer s H E hr) hS
theorem zcG:FnScope ["_law_pen_here","_law_many","_law_tail","_law_at","_law_start","_law_step","_law_found","_law_k","_law_sign"] ["_law_pen_here","_law_many"] (defScope jc):=⟨rfl,rfl,rfl,by decide+kernel,rfl,by decide+kernel,by decide+kernel⟩
def zbA:DS:=(zN (X7 6 zff (zm (zP (o2 XS) (zP (o2 XS) (dSl (zu 2) dNo (dSo (zu 3))) (zu 8)) (dSl (zu 2) (dSo (zu 3)) dNo)) zK) Y5) (jg [8]))
def zbB (z19:Int) (z20:OkS) (z21:Int) (z22:Int) (z23:Int) (z24:aT1) (z26:OkS) (rt:aT1→Prop) (nx:aT1→Prop) (bk:aT1→Prop) (ct:aT1→Prop):Prop:=((z20).1.length≤sizeLine)∧(((Qg z20 none (some z21))).1.length+(z26).1.length≤sizeLine)∧((z20).1.length≤sizeLine)∧(((zbX (Qg z20 none (some z21)) z26)).1.length+((Qg z20 (some z21) none)).1.length≤sizeLine)∧((z24).length < 1000000)∧(nx (z24++[(zbX (zbX (Qg z20 none (some z21)) z26) (Qg z20 (some z21) none))]))
theorem zfU {N:DE} (z19:Int) (z20:OkS) (z21:Int) (z22:Int) (z23:Int) (z24:aT1) (z26:OkS) {rt:aT1→Prop} {nx:aT1→Prop} {bk:aT1→Prop} {ct:aT1→Prop} (hrt:∀ r,rt r→N.rt (aq3 r)) (hnx:∀ (z24:aT1),nx z24→N.nx [none,some (eI z19),some (eS z20),some (eI z21),some (eI z22),some (eI z23),some (aq3 z24),none,none]) (hbk:∀ (z24:aT1),bk z24→N.bk [none,some (eI z19),some (eS z20),some (eI z21),some (eI z22),some (eI z23),some (aq3 z24),none,none]) (hct:∀ (z24:aT1),ct z24→N.ct [none,some (eI z19),some (eS z20),some (eI z21),some (eI z22),some (eI z23),some (aq3 z24),none,none]) (h:zbB z19 z20 z21 z22 z23 z24 z26 rt nx bk ct):zbA N [none,some (eI z19),some (eS z20),some (eI z21),some (eI z22),some (eI z23),some (aq3 z24),none,some (eS z26)]:=
 (zc8 6 (e:=eS) (l:=z24) (v:=(zbX (zbX (Qg z20 none (some z21)) z26) (Qg z20 (some z21) none))) rfl (zB (zB (zoW (s:=z20) (qv 2 eS z20 rfl) Qw (Qx (qv 3 eI z21 rfl)) h.1) (qv 8 eS z26 rfl) (zoU h.2.1)) (zoW (s:=z20) (qv 2 eS z20 rfl) (Qx (qv 3 eI z21 rfl)) Qw h.2.2.1) (zoU h.2.2.2.1)) (qn eS) h.2.2.2.2.1 (QW (hnx (z24++[(zbX (zbX (Qg z20 none (some z21)) z26) (Qg z20 (some z21) none))]) h.2.2.2.2.2) rfl))
def zbC:DS:=(zN (jr (.nm 8) (zP (o2 ixD) (dC (.str "abcdefghijklmnopqrstuvwxyz")) (zP (o2 znM) (zP (o2 XS) (zu 4) (zP (o2 znL) (zu 5) (zu 7))) (dC (.int 26))))) (zN (jg [7]) zbA))
def zbD (z19:Int) (z20:OkS) (z21:Int) (z22:Int) (z23:Int) (z24:aT1) (z25:Int) (rt:aT1→Prop) (nx:aT1→Prop) (bk:aT1→Prop) (ct:aT1→Prop):Prop:=(MulOk z23 z25)∧(0 < (26:Int))∧(((⟨"abcdefghijklmnopqrstuvwxyz",by decide+kernel⟩:OkS)).1.length≤sizeLine∧(atI (sCs (⟨"abcdefghijklmnopqrstuvwxyz",by decide+kernel⟩:OkS)) ((z22+(z23 * z25)) % (26:Int))).isSome=true)∧(zbB z19 z20 z21 z22 z23 z24 (sAt (⟨"abcdefghijklmnopqrstuvwxyz",by decide+kernel⟩:OkS) ((z22+(z23 * z25)) % (26:Int))) rt nx bk ct)
theorem zfV {N:DE} (z19:Int) (z20:OkS) (z21:Int) (z22:Int) (z23:Int) (z24:aT1) (z25:Int) {rt:aT1→Prop} {nx:aT1→Prop} {bk:aT1→Prop} {ct:aT1→Prop} (hrt:∀ r,rt r→N.rt (aq3 r)) (hnx:∀ (z24:aT1),nx z24→N.nx [none,some (eI z19),some (eS z20),some (eI z21),some (eI z22),some (eI z23),some (aq3 z24),none,none]) (hbk:∀ (z24:aT1),bk z24→N.bk [none,some (eI z19),some (eS z20),some (eI z21),some (eI z22),some (eI z23),some (aq3 z24),none,none]) (hct:∀ (z24:aT1),ct z24→N.ct [none,some (eI z19),some (eS z20),some (eI z21),some (eI z22),some (eI z23),some (aq3 z24),none,none]) (h:zbD z19 z20 z21 z22 z23 z24 z25 rt nx bk ct):zbC N [none,some (eI z19),some (eS z20),some (eI z21),some (eI z22),some (eI z23),some (aq3 z24),some (eI z25),none]:=
 (qu (d:=eS (sAt (⟨"abcdefghijklmnopqrstuvwxyz",by decide+kernel⟩:OkS) ((z22+(z23 * z25)) % (26:Int)))) 8 (zB (ev_c (d:=.str "abcdefghijklmnopqrstuvwxyz")) (zB (zB (qv 4 eI z22 rfl) (zB (qv 5 eI z23 rfl) (qv 7 eI z25 rfl) (ztr h.1)) (@zgV _ z22 (z23 * z25))) (ev_c (d:=eI 26)) (zts h.2.1)) (ztL h.2.2.1)) (qn eS) (kJ (zfU (N:=N) z19 z20 z21 z22 z23 z24 (sAt (⟨"abcdefghijklmnopqrstuvwxyz",by decide+kernel⟩:OkS) ((z22+(z23 * z25)) % (26:Int))) hrt hnx hbk hct h.2.2.2) rfl))
def zbE:DS:=(zN (zfe (zcb (zu 1)) (.nm 7) zbC) (zbi 6))
def zbF (z19:Int) (z20:OkS) (z21:Int) (z22:Int) (z23:Int) (z24:aT1) (rt:aT1→Prop):Prop:=(-1000000000000≤z19∧z19≤1000000000000)∧(zaw (fun (x5:Int) (s:aT1) nx bk=>zbD z19 z20 z21 z22 z23 s x5 rt (fun z24=>nx z24) (fun z24=>bk z24) (fun z24=>nx z24)) (fun s=>rt s) (ZK 0 z19) z24)
theorem zfW {N:DE} (z19:Int) (z20:OkS) (z21:Int) (z22:Int) (z23:Int) (z24:aT1) {rt:aT1→Prop} (hrt:∀ r,rt r→N.rt (aq3 r)) (h:zbF z19 z20 z21 z22 z23 z24 rt):zbE N [none,some (eI z19),some (eS z20),some (eI z21),some (eI z22),some (eI z23),some (aq3 z24),none,none]:=
 (zbU (l:=(ZK 0 z19)) (fun (s:aT1)=>[none,some (eI z19),some (eS z20),some (eI z21),some (eI z22),some (eI z23),some (aq3 s),none,none]) eI (zlx (qv 1 eI z19 rfl) h.1) rfl h.2 (fun s h=>(zhA 6 (d:=aq3 s) rfl (hrt _ h))) (fun x5 s nx N' hn hc hb hr h=>(ju (zfV (N:=N') z19 z20 z21 z22 z23 s x5 (zfn hr.1 hrt) (fun z24 hq=>(hn z24 hq)) (fun z24 hq=>(hb z24 hq)) (fun z24 hq=>(hc z24 hq)) h))))
def zbG:DS:=(zN (jr (.nm 6) (Z6 zK)) zbE)
def Q5 (z19:Int) (z20:OkS) (z21:Int) (z22:Int) (z23:Int) (rt:aT1→Prop):Prop:=zbF z19 z20 z21 z22 z23 ([]:List OkS) rt
theorem zfX {N:DE} (z19:Int) (z20:OkS) (z21:Int) (z22:Int) (z23:Int) {rt:aT1→Prop} (hrt:∀ r,rt r→N.rt (aq3 r)) (h:Q5 z19 z20 z21 z22 z23 rt):zbG N [none,some (eI z19),some (eS z20),some (eI z21),some (eI z22),some (eI z23),none,none,none]:=
 (qu (d:=aq3 ([]:List OkS)) 6 (yH (e:=eS) [] ea_nil (Nat.le_of_ble_eq_true rfl)) (Nb.h (e:=aq3) ([]:List OkS)) (zfW (N:=N) z19 z20 z21 z22 z23 ([]:List OkS) hrt h))
def zbH:DS:=(zN (jr (.nm 5) (zP (o2 ixD) (Z6 (zm (dC (.int 1)) (zm (dC (.int 3)) (zm (dC (.int 5)) (zm (dC (.int 7)) (zm (dC (.int 9)) (zm (dC (.int 11)) zK))))))) (dFn zU (zm (zu 0) (zm (dC (.int 6)) zK))))) (zN (jg [0]) zbG))
def zbI (z18:Unit) (z19:Int) (z20:OkS) (z21:Int) (z22:Int) (rt:aT1→Prop):Prop:=Xo (6:Int) (fun r4=>((atI [(1:Int),(3:Int),(5:Int),(7:Int),(9:Int),(11:Int)] r4).isSome=true)∧(Q5 z19 z20 z21 z22 (gI [(1:Int),(3:Int),(5:Int),(7:Int),(9:Int),(11:Int)] r4) rt))
theorem zfY {N:DE} (z18:Unit) (z19:Int) (z20:OkS) (z21:Int) (z22:Int) {rt:aT1→Prop} (hrt:∀ r,rt r→N.rt (aq3 r)) (h:zbI z18 z19 z20 z21 z22 rt):zbH N [some (zE z18),some (eI z19),some (eS z20),some (eI z21),some (eI z22),none,none,none,none]:=
 (YX 5 (zcp (jO (d:=aq6 [(1:Int),(3:Int),(5:Int),(7:Int),(9:Int),(11:Int)]) (yH (e:=eI) [(1:Int),(3:Int),(5:Int),(7:Int),(9:Int),(11:Int)] (ea_cons (ev_c (d:=eI 1)) (ea_cons (ev_c (d:=eI 3)) (ea_cons (ev_c (d:=eI 5)) (ea_cons (ev_c (d:=eI 7)) (ea_cons (ev_c (d:=eI 9)) (ea_cons (ev_c (d:=eI 11)) ea_nil)))))) (Nat.le_of_ble_eq_true rfl)) (Qc (yE (jO (d:=zE z18) (qv 0 zE z18 rfl) (yE (jO (d:=eI (6:Int)) (ev_c (d:=eI 6)) (Xp (kh (yr (qf zE) (yr (qf eI) jB)) (yW (ql zE) (yW (ql eI) ZJ)) (YQ h (fun r4 hr4=>((YG (e:=eI) hr4.1) _ ⟨(qn eI),(kJ (zfX (N:=N) z19 z20 z21 z22 (gI [(1:Int),(3:Int),(5:Int),(7:Int),(9:Int),(11:Int)] r4) hrt hr4.2) rfl)⟩)))))))))))))
def zbJ:DS:=(zN (jr (.nm 4) (dFn zU (zm (zu 0) (zm (dC (.int 26)) zK)))) zbH)
def zbK (z18:Unit) (z19:Int) (z20:OkS) (z21:Int) (rt:aT1→Prop):Prop:=Xo (26:Int) (fun r3=>zbI z18 z19 z20 z21 r3 rt)
theorem zfZ {N:DE} (z18:Unit) (z19:Int) (z20:OkS) (z21:Int) {rt:aT1→Prop} (hrt:∀ r,rt r→N.rt (aq3 r)) (h:zbK z18 z19 z20 z21 rt):zbJ N [some (zE z18),some (eI z19),some (eS z20),some (eI z21),none,none,none,none,none]:=
 (YX 4 (Qc (yE (jO (d:=zE z18) (qv 0 zE z18 rfl) (yE (jO (d:=eI (26:Int)) (ev_c (d:=eI 26)) (Xp (kh (yr (qf zE) (yr (qf eI) jB)) (yW (ql zE) (yW (ql eI) ZJ)) (YQ h (fun r3 hr3=>⟨(qn eI),(zfY (N:=N) z18 z19 z20 z21 r3 hrt hr3)⟩))))))))))
def zbL:DS:=(zN (jr (.nm 3) (dFn zU (zm (zu 0) (zm (zP (o2 XS) (dCall (o1 zba) (zm (zu 2) zK)) (dC (.int 1))) zK)))) zbJ)
def Q6 (z18:Unit) (z19:Int) (z20:OkS) (rt:aT1→Prop):Prop:=((z20).1.length≤sizeLine)∧(Xo ((zaz z20)+(1:Int)) (fun r2=>zbK z18 z19 z20 r2 rt))
theorem zf0 {N:DE} (z18:Unit) (z19:Int) (z20:OkS) {rt:aT1→Prop} (hrt:∀ r,rt r→N.rt (aq3 r)) (h:Q6 z18 z19 z20 rt):zbL N [some (zE z18),some (eI z19),some (eS z20),none,none,none,none,none,none]:=
 (YX 3 (Qc (yE (jO (d:=zE z18) (qv 0 zE z18 rfl) (yE (jO (d:=eI ((zaz z20)+(1:Int))) (zB (ev_call (ea_cons (qv 2 eS z20 rfl) ea_nil) (by exact (zoV h.1))) (ev_c (d:=eI 1)) (@zgV _ (zaz z20) (1:Int))) (Xp (kh (yr (qf zE) (yr (qf eI) jB)) (yW (ql zE) (yW (ql eI) ZJ)) (YQ h.2 (fun r2 hr2=>⟨(qn eI),(zfZ (N:=N) z18 z19 z20 r2 hrt hr2)⟩))))))))))
def QG:DS:=(zN (jr (.nm 2) (zP (o2 ixD) (Z6 (zm (dC (.str "")) (zm (dC (.str "x")) (zm (dC (.str "oak")) (zm (dC (.str "mmmmmmm")) (zm (dC (.str "ab")) (zm (dC (.str "hill")) zK))))))) (dFn zU (zm (zu 0) (zm (dC (.int 6)) zK))))) zbL)
def zaH (z18:Unit) (z19:Int) (rt:aT1→Prop):Prop:=Xo (6:Int) (fun r1=>((atI [(⟨"",by decide+kernel⟩:OkS),(⟨"x",by decide+kernel⟩:OkS),(⟨"oak",by decide+kernel⟩:OkS),(⟨"mmmmmmm",by decide+kernel⟩:OkS),(⟨"ab",by decide+kernel⟩:OkS),(⟨"hill",by decide+kernel⟩:OkS)] r1).isSome=true)∧(Q6 z18 z19 (gI [(⟨"",by decide+kernel⟩:OkS),(⟨"x",by decide+kernel⟩:OkS),(⟨"oak",by decide+kernel⟩:OkS),(⟨"mmmmmmm",by decide+kernel⟩:OkS),(⟨"ab",by decide+kernel⟩:OkS),(⟨"hill",by decide+kernel⟩:OkS)] r1) rt))
theorem zh4 {N:DE} (z18:Unit) (z19:Int) {rt:aT1→Prop} (hrt:∀ r,rt r→N.rt (aq3 r)) (h:zaH z18 z19 rt):QG N [some (zE z18),some (eI z19),none,none,none,none,none,none,none]:=
 (YX 2 (zcp (jO (d:=aq3 [(⟨"",by decide+kernel⟩:OkS),(⟨"x",by decide+kernel⟩:OkS),(⟨"oak",by decide+kernel⟩:OkS),(⟨"mmmmmmm",by decide+kernel⟩:OkS),(⟨"ab",by decide+kernel⟩:OkS),(⟨"hill",by decide+kernel⟩:OkS)]) (yH (e:=eS) [(⟨"",by decide+kernel⟩:OkS),(⟨"x",by decide+kernel⟩:OkS),(⟨"oak",by decide+kernel⟩:OkS),(⟨"mmmmmmm",by decide+kernel⟩:OkS),(⟨"ab",by decide+kernel⟩:OkS),(⟨"hill",by decide+kernel⟩:OkS)] (ea_cons (ev_c (d:=.str "")) (ea_cons (ev_c (d:=.str "x")) (ea_cons (ev_c (d:=.str "oak")) (ea_cons (ev_c (d:=.str "mmmmmmm")) (ea_cons (ev_c (d:=.str "ab")) (ea_cons (ev_c (d:=.str "hill")) ea_nil)))))) (Nat.le_of_ble_eq_true rfl)) (Qc (yE (jO (d:=zE z18) (qv 0 zE z18 rfl) (yE (jO (d:=eI (6:Int)) (ev_c (d:=eI 6)) (Xp (kh (yr (qf zE) (yr (qf eI) jB)) (yW (ql zE) (yW (ql eI) ZJ)) (YQ h (fun r1 hr1=>((YG (e:=eS) hr1.1) _ ⟨(qn eS),(zf0 (N:=N) z18 z19 (gI [(⟨"",by decide+kernel⟩:OkS),(⟨"x",by decide+kernel⟩:OkS),(⟨"oak",by decide+kernel⟩:OkS),(⟨"mmmmmmm",by decide+kernel⟩:OkS),(⟨"ab",by decide+kernel⟩:OkS),(⟨"hill",by decide+kernel⟩:OkS)] r1) hrt hr1.2)⟩)))))))))))))
theorem zjD {P:Program} {w:World} {K:PySem.W.Frag} {mg:Str→Option Value} {base:Heap} {k:Nat} (m_len:mg "len"=none) (m_range:mg "range"=none) (f__law_pick:Fd P w K mg base k "_law_pick" zU) {fa:Addr} (cdv:Value) (A:Around) (outer:List PySem.Env) (s:Shared) (H:Hp) (E:XK) (hr:Room k (A.deeper (envOfC "_law_folk" (defScope jc) s.heap.objs.size fa cdv))):
  PDB (cxOf CX0 P w K mg base ["_law_pen_here","_law_many","_law_tail","_law_at","_law_start","_law_step","_law_found","_law_k","_law_sign"] "_law_folk" (defScope jc) fa cdv A outer s H E).nox (defBody jc) QG:=
 have d:Gd (cxOf CX0 P w K mg base ["_law_pen_here","_law_many","_law_tail","_law_at","_law_start","_law_step","_law_found","_law_k","_law_sign"] "_law_folk" (defScope jc) fa cdv A outer s H E).nox k:=⟨rfl,zcG.nd,hr⟩
 (zJ (jf 2 d (yG (qj (za j9 (za j9 (za j9 (za j9 (za j9 (za j9 zp))))))) (xV f__law_pick hr (za (zj 0) (za zA zp)))))
  (zJ (jf 3 d (xV f__law_pick hr (za (zj 0) (za (xG jH (yK YS m_len (za (zj 2) zp) Xg) zA) zp))))
  (zJ (jf 4 d (xV f__law_pick hr (za (zj 0) (za zA zp))))
  (zJ (jf 5 d (yG (qj (za zA (za zA (za zA (za zA (za zA (za zA zp))))))) (xV f__law_pick hr (za (zj 0) (za zA zp)))))
  (Yr [0] (zJ (jf 6 d (qj zp))
  (zJ (zfj d PassesOwn.never (zkn m_range (zj 1)) (yc 7 d.nd) (zJ (jf 8 d (yG j9 (xG zpS (xG jH (zj 4) (xG zpR (zj 5) (zj 7))) zA)))
  (Yr [7] (zJ (zfp Jj PySem.F.slot_list_append PySem.F.type_list_append mt_append 6 (za (xG jH (xG jH (zes (zj 2) Y8 (Y9 (zj 3))) (zj 8)) (zes (zj 2) (Y9 (zj 3)) Y8)) zp))
  (Jr [8])))))
  (yR (zhn 6)))))))))
theorem zh5 {P:Program} {w:World} {K:PySem.W.Frag} {mg:Str→Option Value} {base:Heap} {k:Nat} (m_len:mg "len"=none) (m_range:mg "range"=none) (f__law_pick:Fd P w K mg base k "_law_pick" zU) {f:Addr} {fd:FuncData} (F:FnP K "_law_folk" jc f fd) (gm:mg "_law_folk"=some (.ref f)) {S:zQ} (hS:∀ ds Q,S ds Q→ds.length=2∧QG (yU Q) (zH 9 ds)):Fd P w K mg base (k+1) "_law_folk" S:=
 Fd.of F gm zcG (fun _ _ _ _ _ _ us hl=>match us,hl with | [_,_],_=>rfl) (fun cdv A outer s H E hr=>zjD m_len m_range f__law_pick cdv A outer s H E hr) hS
theorem zf4 (c:∀ (x0:Unit) (x1:Int),ZV x1→∀ K:aT1→Prop,(∀ r,Zd x1 r→K r)→zaH x0 x1 K):∀ ds Q,Xc ds Q→ds.length=2∧QG (yU Q) (zH 9 ds):=by
 rintro ds Q ⟨x0,x1,rfl,hp,q⟩
 exact ⟨rfl,zh4 (N:=yU Q) x0 x1 (rt:=fun r=>Q (aq3 r)) (fun r h=>⟨Np.h (e:=aq3) r,h⟩) (c x0 x1 hp _ q)⟩
theorem zbM:FnScope ["_law_pen_here","_law_folk_here","_law_found","_law_far","_law_wide","_law_name"] ["_law_pen_here","_law_folk_here"] (defScope qG):=⟨rfl,rfl,rfl,by decide+kernel,rfl,by decide+kernel,by decide+kernel⟩
def zaI:DS:=(zN (X7 2 zff (zm (dTup (zm (zu 5) (zm (zP (o2 XS) (zu 3) (dFn zU (zm (zu 0) (zm (zu 4) zK)))) (zm (dFn zU (zm (zu 0) (zm (zP (o2 ixD) (Z6 (zm (zu 4) (zm (dC (.int 6)) zK))) (dFn zU (zm (zu 0) (zm (dC (.int 2)) zK)))) zK))) zK)))) zK) Y5) (jg [5]))
def zaJ (z18:Unit) (z27:aT1) (z24:aT5) (z28:Int) (z29:Int) (z30:OkS) (rt:aT5→Prop) (nx:aT5→Prop) (bk:aT5→Prop) (ct:aT5→Prop):Prop:=Xo z29 (fun r4=>Xo (2:Int) (fun r5=>((atI [z29,(6:Int)] r5).isSome=true)∧(Xo (gI [z29,(6:Int)] r5) (fun r6=>((z24).length < 1000000)∧(nx (z24++[(z30,(z28+r4),r6)]))))))
theorem zeG {N:DE} (z18:Unit) (z27:aT1) (z24:aT5) (z28:Int) (z29:Int) (z30:OkS) {rt:aT5→Prop} {nx:aT5→Prop} {bk:aT5→Prop} {ct:aT5→Prop} (hrt:∀ r,rt r→N.rt (xZ r)) (hnx:∀ (z24:aT5),nx z24→N.nx [some (zE z18),some (aq2 z27),some (xZ z24),some (eI z28),some (eI z29),none]) (hbk:∀ (z24:aT5),bk z24→N.bk [some (zE z18),some (aq2 z27),some (xZ z24),some (eI z28),some (eI z29),none]) (hct:∀ (z24:aT5),ct z24→N.ct [some (zE z18),some (aq2 z27),some (xZ z24),some (eI z28),some (eI z29),none]) (h:zaJ z18 z27 z24 z28 z29 z30 rt nx bk ct):zaI N [some (zE z18),some (aq2 z27),some (xZ z24),some (eI z28),some (eI z29),some (eS z30)]:=
 (zmJ 2 (e:=aq1) (l:=z24) rfl (ztD (yE (jO (d:=eS z30) (qv 5 eS z30 rfl) (yE (zcp (jO (d:=eI z28) (qv 3 eI z28 rfl) (Qc (yE (jO (d:=zE z18) (qv 0 zE z18 rfl) (yE (jO (d:=eI z29) (qv 4 eI z29 rfl) (Xp (kh (yr (qf zE) (yr (qf eI) jB)) (yW (ql zE) (yW (ql eI) ZJ)) (YQ h (fun r4 hr4=>((@zgV _ z28 r4) _ (yE (Qc (yE (jO (d:=zE z18) (qv 0 zE z18 rfl) (yE (zcp (jO (d:=aq6 [z29,(6:Int)]) (yH (e:=eI) [z29,(6:Int)] (ea_cons (qv 4 eI z29 rfl) (ea_cons (ev_c (d:=eI 6)) ea_nil)) (Nat.le_of_ble_eq_true rfl)) (Qc (yE (jO (d:=zE z18) (qv 0 zE z18 rfl) (yE (jO (d:=eI (2:Int)) (ev_c (d:=eI 2)) (Xp (kh (yr (qf zE) (yr (qf eI) jB)) (yW (ql zE) (yW (ql eI) ZJ)) (YQ hr4 (fun r5 hr5=>((YG (e:=eI) hr5.1) _ (Xp (kh (yr (qf zE) (yr (qf eI) jB)) (yW (ql zE) (yW (ql eI) ZJ)) (YQ hr5.2 (fun r6 hr6=>(Xp ⟨Nat.le_of_ble_eq_true rfl,(zoC (e:=aq1) (l:=z24) (v:=(z30,(z28+r4),r6)) (Nb.h (e:=aq1) (z30,(z28+r4),r6)) hr6.1 (QW (hnx (z24++[(z30,(z28+r4),r6)]) hr6.2) rfl))⟩)))))))))))))))))))))))))))))))))))))))
def zaK:DS:=(zN (zfe (qK qW (zu 1)) (.nm 5) zaI) (zbi 2))
def zaL (z18:Unit) (z27:aT1) (z24:aT5) (z28:Int) (z29:Int) (rt:aT5→Prop):Prop:=zaw (fun (x3:OkS) (s:aT5) nx bk=>zaJ z18 z27 s z28 z29 x3 rt (fun z24=>nx z24) (fun z24=>bk z24) (fun z24=>nx z24)) (fun s=>rt s) z27 z24
theorem zeH {N:DE} (z18:Unit) (z27:aT1) (z24:aT5) (z28:Int) (z29:Int) {rt:aT5→Prop} (hrt:∀ r,rt r→N.rt (xZ r)) (h:zaL z18 z27 z24 z28 z29 rt):zaK N [some (zE z18),some (aq2 z27),some (xZ z24),some (eI z28),some (eI z29),none]:=
 (zbU (l:=z27) (fun (s:aT5)=>[some (zE z18),some (aq2 z27),some (xZ s),some (eI z28),some (eI z29),none]) eS (zty (e:=eS) (qv 1 aq2 z27 rfl)) rfl h (fun s h=>(zhA 2 (d:=xZ s) rfl (hrt _ h))) (fun x3 s nx N' hn hc hb hr h=>(ju (zeG (N:=N') z18 z27 s z28 z29 x3 (zfn hr.1 hrt) (fun z24 hq=>(hn z24 hq)) (fun z24 hq=>(hb z24 hq)) (fun z24 hq=>(hc z24 hq)) h))))
def zaM:DS:=(zN (jr (.nm 4) (zP (o2 ixD) (Z6 (zm (dC (.int 3)) (zm (dC (.int 8)) (zm (dC (.int 20)) zK)))) (dFn zU (zm (zu 0) (zm (dC (.int 3)) zK))))) zaK)
def zaN (z18:Unit) (z27:aT1) (z24:aT5) (z28:Int) (rt:aT5→Prop):Prop:=Xo (3:Int) (fun r2=>((atI [(3:Int),(8:Int),(20:Int)] r2).isSome=true)∧(zaL z18 z27 z24 z28 (gI [(3:Int),(8:Int),(20:Int)] r2) rt))
theorem zeI {N:DE} (z18:Unit) (z27:aT1) (z24:aT5) (z28:Int) {rt:aT5→Prop} (hrt:∀ r,rt r→N.rt (xZ r)) (h:zaN z18 z27 z24 z28 rt):zaM N [some (zE z18),some (aq2 z27),some (xZ z24),some (eI z28),none,none]:=
 (YX 4 (zcp (jO (d:=aq6 [(3:Int),(8:Int),(20:Int)]) (yH (e:=eI) [(3:Int),(8:Int),(20:Int)] (ea_cons (ev_c (d:=eI 3)) (ea_cons (ev_c (d:=eI 8)) (ea_cons (ev_c (d:=eI 20)) ea_nil))) (Nat.le_of_ble_eq_true rfl)) (Qc (yE (jO (d:=zE z18) (qv 0 zE z18 rfl) (yE (jO (d:=eI (3:Int)) (ev_c (d:=eI 3)) (Xp (kh (yr (qf zE) (yr (qf eI) jB)) (yW (ql zE) (yW (ql eI) ZJ)) (YQ h (fun r2 hr2=>((YG (e:=eI) hr2.1) _ ⟨(qn eI),(zeH (N:=N) z18 z27 z24 z28 (gI [(3:Int),(8:Int),(20:Int)] r2) hrt hr2.2)⟩)))))))))))))
def zaO:DS:=(zN (jr (.nm 3) (zP (o2 ixD) (Z6 (zm (dC (.int 0)) (zm (dC (.int 0)) (zm (zP (o2 znN) (dC (.int 10)) (dC (.int 18))) (zm (dUn (o1 zgq) (zP (o2 znN) (dC (.int 10)) (dC (.int 18)))) zK))))) (dFn zU (zm (zu 0) (zm (dC (.int 4)) zK))))) zaM)
def zaP (z18:Unit) (z27:aT1) (z24:aT5) (rt:aT5→Prop):Prop:=(0≤(18:Int)∧(18:Int)≤1000∧((10:Int)).natAbs < 2 ^ 64)∧(0≤(18:Int)∧(18:Int)≤1000∧((10:Int)).natAbs < 2 ^ 64)∧(Xo (4:Int) (fun r1=>((atI [(0:Int),(0:Int),((10:Int) ^ ((18:Int)).toNat),(-((10:Int) ^ ((18:Int)).toNat))] r1).isSome=true)∧(zaN z18 z27 z24 (gI [(0:Int),(0:Int),((10:Int) ^ ((18:Int)).toNat),(-((10:Int) ^ ((18:Int)).toNat))] r1) rt)))
theorem zeJ {N:DE} (z18:Unit) (z27:aT1) (z24:aT5) {rt:aT5→Prop} (hrt:∀ r,rt r→N.rt (xZ r)) (h:zaP z18 z27 z24 rt):zaO N [some (zE z18),some (aq2 z27),some (xZ z24),none,none,none]:=
 (YX 3 (zcp (jO (d:=aq6 [(0:Int),(0:Int),((10:Int) ^ ((18:Int)).toNat),(-((10:Int) ^ ((18:Int)).toNat))]) (yH (e:=eI) [(0:Int),(0:Int),((10:Int) ^ ((18:Int)).toNat),(-((10:Int) ^ ((18:Int)).toNat))] (ea_cons (ev_c (d:=eI 0)) (ea_cons (ev_c (d:=eI 0)) (ea_cons (zB (ev_c (d:=eI 10)) (ev_c (d:=eI 18)) (zrk h.1)) (ea_cons (ev_un (zB (ev_c (d:=eI 10)) (ev_c (d:=eI 18)) (zrk h.2.1)) ziP) ea_nil)))) (Nat.le_of_ble_eq_true rfl)) (Qc (yE (jO (d:=zE z18) (qv 0 zE z18 rfl) (yE (jO (d:=eI (4:Int)) (ev_c (d:=eI 4)) (Xp (kh (yr (qf zE) (yr (qf eI) jB)) (yW (ql zE) (yW (ql eI) ZJ)) (YQ h.2.2 (fun r1 hr1=>((YG (e:=eI) hr1.1) _ ⟨(qn eI),(zeI (N:=N) z18 z27 z24 (gI [(0:Int),(0:Int),((10:Int) ^ ((18:Int)).toNat),(-((10:Int) ^ ((18:Int)).toNat))] r1) hrt hr1.2)⟩)))))))))))))
def XC:DS:=(zN (jr (.nm 2) (Z6 zK)) zaO)
def JC (z18:Unit) (z27:aT1) (rt:aT5→Prop):Prop:=zaP z18 z27 ([]:List aT2) rt
theorem zgC {N:DE} (z18:Unit) (z27:aT1) {rt:aT5→Prop} (hrt:∀ r,rt r→N.rt (xZ r)) (h:JC z18 z27 rt):XC N [some (zE z18),some (aq2 z27),none,none,none,none]:=
 (qu (d:=xZ ([]:List aT2)) 2 (yH (e:=aq1) [] ea_nil (Nat.le_of_ble_eq_true rfl)) (Nb.h (e:=xZ) ([]:List aT2)) (zeJ (N:=N) z18 z27 ([]:List aT2) hrt h))
theorem zh6 {P:Program} {w:World} {K:PySem.W.Frag} {mg:Str→Option Value} {base:Heap} {k:Nat} (f__law_pick:Fd P w K mg base k "_law_pick" zU) {fa:Addr} (cdv:Value) (A:Around) (outer:List PySem.Env) (s:Shared) (H:Hp) (E:XK) (hr:Room k (A.deeper (envOfC "_law_marks" (defScope qG) s.heap.objs.size fa cdv))):
  PDB (cxOf CX0 P w K mg base ["_law_pen_here","_law_folk_here","_law_found","_law_far","_law_wide","_law_name"] "_law_marks" (defScope qG) fa cdv A outer s H E).nox (defBody qG) XC:=
 have d:Gd (cxOf CX0 P w K mg base ["_law_pen_here","_law_folk_here","_law_found","_law_far","_law_wide","_law_name"] "_law_marks" (defScope qG) fa cdv A outer s H E).nox k:=⟨rfl,zbM.nd,hr⟩
 (zJ (jf 2 d (qj zp))
  (zJ (jf 3 d (yG (qj (za zA (za zA (za (xG zla zA zA) (za (zfh (xG zla zA zA)) zp))))) (xV f__law_pick hr (za (zj 0) (za zA zp)))))
  (zJ (jf 4 d (yG (qj (za zA (za zA (za zA zp)))) (xV f__law_pick hr (za (zj 0) (za zA zp)))))
  (zJ (zfj d PassesOwn.never (zlm (zj 1)) (yc 5 d.nd) (zJ (zfp Jj PySem.F.slot_list_append PySem.F.type_list_append mt_append 2 (za (X8 (za (zj 5) (za (xG jH (zj 3) (xV f__law_pick hr (za (zj 0) (za (zj 4) zp)))) (za (xV f__law_pick hr (za (zj 0) (za (yG (qj (za (zj 4) (za zA zp))) (xV f__law_pick hr (za (zj 0) (za zA zp)))) zp))) zp)))) zp))
  (Jr [5])))
  (yR (zhn 2))))))
theorem zgD {P:Program} {w:World} {K:PySem.W.Frag} {mg:Str→Option Value} {base:Heap} {k:Nat} (f__law_pick:Fd P w K mg base k "_law_pick" zU) {f:Addr} {fd:FuncData} (F:FnP K "_law_marks" qG f fd) (gm:mg "_law_marks"=some (.ref f)) {S:zQ} (hS:∀ ds Q,S ds Q→ds.length=2∧XC (yU Q) (zH 6 ds)):Fd P w K mg base (k+1) "_law_marks" S:=
 Fd.of F gm zbM (fun _ _ _ _ _ _ us hl=>match us,hl with | [_,_],_=>rfl) (fun cdv A outer s H E hr=>zh6 f__law_pick cdv A outer s H E hr) hS
theorem zeK (c:∀ (x0:Unit) (x1:aT1),Ze x1→∀ K:aT5→Prop,(∀ r,jQ x1 r→K r)→JC x0 x1 K):∀ ds Q,Yw ds Q→ds.length=2∧XC (yU Q) (zH 6 ds):=by
 rintro ds Q ⟨x0,x1,rfl,hp,q⟩
 exact ⟨rfl,zgC (N:=yU Q) x0 x1 (rt:=fun r=>Q (xZ r)) (fun r h=>⟨Np.h (e:=xZ) r,h⟩) (c x0 x1 hp _ q)⟩
theorem Jh:FnScope ["_law_marks_here","_law_row"] ["_law_marks_here"] (defScope yL):=⟨rfl,rfl,rfl,by decide+kernel,rfl,by decide+kernel,by decide+kernel⟩
def Z4:DS:=(ZM (dLc (qK zW (dCall (o1 ze8) (zm (dLc (qK zW (zu 0)) [1] (.nm 1) ZP (zP (o2 XS) (dTup (zm (zP (o2 ixD) (zu 1) (dC (.int 1))) zK)) (zu 1))) zK))) [1] (.nm 1) ZP (dSl (zu 1) (dSo (dC (.int 1))) dNo)))
def Xk (z31:aT5) (rt:aT5→Prop):Prop:=((z31).length≤1000000)∧((((((z31).map (fun (x3:aT2)=>(x3.2.1,x3)))).mergeSort (xU (zcr ltI ltS ltI ltI)))).length≤1000000)∧(rt ((((((z31).map (fun (x3:aT2)=>(x3.2.1,x3)))).mergeSort (xU (zcr ltI ltS ltI ltI)))).map (fun (x4:aT4)=>(x4).2)))
theorem zdl {N:DE} (z31:aT5) {rt:aT5→Prop} (hrt:∀ r,rt r→N.rt (xZ r)) (h:Xk z31 rt):Z4 N [some (aq9 z31),none]:=
 (Ys (d:=xZ ((((((z31).map (fun (x3:aT2)=>(x3.2.1,x3)))).mergeSort (xU (zcr ltI ltS ltI ltI)))).map (fun (x4:aT4)=>(x4).2))) (kZ (eX:=aq7) (eY:=aq1) (l:=((((z31).map (fun (x3:aT2)=>(x3.2.1,x3)))).mergeSort (xU (zcr ltI ltS ltI ltI)))) (f:=(fun (x4:aT4)=>(x4).2)) (fun x4=>[some (aq9 z31),some (aq7 x4)]) (QT (e:=aq7) (ev_call (ea_cons (kZ (eX:=aq1) (eY:=aq7) (l:=z31) (f:=(fun (x3:aT2)=>(x3.2.1,x3))) (fun x3=>[some (aq9 z31),some (aq1 x3)]) (QT (e:=aq1) (qv 0 aq9 z31 rfl)) h.1 (fun x3 N q=>(ju q)) (fun x3 hx1=>(zB (zql (a:=eI) (x:=x3.2.1) (zB (qv 1 aq1 x3 rfl) (ev_c (d:=eI 1)) (jN (ds:=[eS x3.1,eI x3.2.1,eI x3.2.2]) (d:=eI x3.2.1) rfl))) (qv 1 aq1 x3 rfl) (zqy (a:=eI) (b:=eS) (c:=eI) (d:=eI) (x:=x3.2.1) (y:=x3))))) ea_nil) (by exact (zoy (e:=aq7) (l:=((z31).map (fun (x3:aT2)=>(x3.2.1,x3)))))))) h.2.1 (fun x4 N q=>(ju q)) (fun x4 hx=>(zsk (a:=eI) (b:=eS) (c:=eI) (d:=eI) (x:=x4) (qv 1 aq7 x4 rfl) (Qx (ev_c (d:=eI 1))) Qw))) (qr xZ) (by exact hrt _ h.2.2))
theorem zeL {P:Program} {w:World} {K:PySem.W.Frag} {mg:Str→Option Value} {base:Heap} {k:Nat} (m_sorted:mg "sorted"=none) {fa:Addr} (cdv:Value) (A:Around) (outer:List PySem.Env) (s:Shared) (H:Hp) (E:XK) (hr:Room k (A.deeper (envOfC "_law_in_order" (defScope yL) s.heap.objs.size fa cdv))):
  PDB (cxOf CX0 P w K mg base ["_law_marks_here","_law_row"] "_law_in_order" (defScope yL) fa cdv A outer s H E).nox (defBody yL) Z4:=
 have d:Gd (cxOf CX0 P w K mg base ["_law_marks_here","_law_row"] "_law_in_order" (defScope yL) fa cdv A outer s H E).nox k:=⟨rfl,Jh.nd,hr⟩
 (yR (s_ret (Y6 (own:=[("_law_row",1)]) ⟨d.calm,d.nd,d.room⟩ (xH (yK (ziq d.u') m_sorted (za (Y6 (own:=[("_law_row",1)]) ⟨d.calm,d.nd,d.room⟩ (xH (zj 0)) (by kernel_rfl) (by decide) (fun _ _ _ _ _=>(yc 1 d.nd)) (fun _ _ _ _ _=>yQ) (fun _ _ _ _ _=>(xG jH (X8 (za (yG (zj 1) zA) zp)) (zj 1)))) zp) zc1)) (by kernel_rfl) (by decide) (fun _ _ _ _ _=>(yc 1 d.nd)) (fun _ _ _ _ _=>yQ) (fun _ _ _ _ _=>(zes (zj 1) (Y9 zA) Y8)))))
theorem zdm {P:Program} {w:World} {K:PySem.W.Frag} {mg:Str→Option Value} {base:Heap} {k:Nat} (m_sorted:mg "sorted"=none) {f:Addr} {fd:FuncData} (F:FnP K "_law_in_order" yL f fd) (gm:mg "_law_in_order"=some (.ref f)) {S:zQ} (hS:∀ ds Q,S ds Q→ds.length=1∧Z4 (yU Q) (zH 2 ds)):Fd P w K mg base (k+1) "_law_in_order" S:=
 Fd.of F gm Jh (fun _ _ _ _ _ _ us hl=>match us,hl with | [_],_=>rfl) (fun cdv A outer s H E hr=>zeL m_sorted cdv A outer s H E hr) hS
theorem zb3 (c:∀ (x0:aT5),jj x0→∀ K:aT5→Prop,K (yN x0)→Xk x0 K):∀ ds Q,jT ds Q→ds.length=1∧Z4 (yU Q) (zH 2 ds):=by
 rintro ds Q ⟨x0,rfl,hp,q⟩
 exact ⟨rfl,zdl (N:=yU Q) x0 (rt:=fun r=>Q (xZ r)) (fun r h=>⟨Np.h (e:=xZ) r,h⟩) (c x0 hp _ q)⟩
theorem zcH:FnScope ["_law_one","_law_other","_law_size_in"] ["_law_one","_law_other","_law_size_in"] (defScope jd):=⟨rfl,rfl,rfl,by decide+kernel,rfl,by decide+kernel,by decide+kernel⟩
def QH:DS:=(ZM (dIf (dB (zP (o2 ltO) (dCall (o1 znP) (zm (zP (o2 zcT) (zP (o2 ixD) (zu 0) (dC (.int 2))) (zP (o2 ixD) (zu 1) (dC (.int 2)))) zK)) (zu 2))) (zu 2) (dC (.int 0))))
def zaQ (z32:aT2) (z33:aT2) (z34:Int) (rt:Int→Prop):Prop:=rt (if (decide ((zhy (z32.2.2 - z33.2.2)) < z34))=true then z34 else (0:Int))
theorem zh7 {N:DE} (z32:aT2) (z33:aT2) (z34:Int) {rt:Int→Prop} (hrt:∀ r,rt r→N.rt (eI r)) (h:zaQ z32 z33 z34 rt):QH N [some (aq1 z32),some (aq1 z33),some (eI z34)]:=
 (Ys (d:=eI (if (decide ((zhy (z32.2.2 - z33.2.2)) < z34))=true then z34 else (0:Int))) (ev_if (e:=eI) (u:=z34) (v:=(0:Int)) (Kg (zB (ev_call (ea_cons (zB (zB (qv 0 aq1 z32 rfl) (ev_c (d:=eI 2)) (jN (ds:=[eS z32.1,eI z32.2.1,eI z32.2.2]) (d:=eI z32.2.2) rfl)) (zB (qv 1 aq1 z33 rfl) (ev_c (d:=eI 2)) (jN (ds:=[eS z33.1,eI z33.2.1,eI z33.2.2]) (d:=eI z33.2.2) rfl)) (@zco _ z32.2.2 z33.2.2)) ea_nil) (by exact (zrl (i:=(z32.2.2 - z33.2.2))))) (qv 2 eI z34 rfl) (@zow _ (zhy (z32.2.2 - z33.2.2)) z34))) (fun hq1=>(qv 2 eI z34 rfl)) (fun hq1=>(ev_c (d:=eI 0)))) (qr eI) (by exact hrt _ h))
theorem zjE {P:Program} {w:World} {K:PySem.W.Frag} {mg:Str→Option Value} {base:Heap} {k:Nat} (m_abs:mg "abs"=none) {fa:Addr} (cdv:Value) (A:Around) (outer:List PySem.Env) (s:Shared) (H:Hp) (E:XK) (hr:Room k (A.deeper (envOfC "_law_room" (defScope jd) s.heap.objs.size fa cdv))):
  PDB (cxOf CX0 P w K mg base ["_law_one","_law_other","_law_size_in"] "_law_room" (defScope jd) fa cdv A outer s H E).nox (defBody jd) QH:=
 have d:Gd (cxOf CX0 P w K mg base ["_law_one","_law_other","_law_size_in"] "_law_room" (defScope jd) fa cdv A outer s H E).nox k:=⟨rfl,zcH.nd,hr⟩
 (yR (s_ret (zob (yM ze5 (yK zlf m_abs (za (xG Xr (yG (zj 0) zA) (yG (zj 1) zA)) zp) zoh) (zj 2)) (zj 2) zA)))
theorem zh8 {P:Program} {w:World} {K:PySem.W.Frag} {mg:Str→Option Value} {base:Heap} {k:Nat} (m_abs:mg "abs"=none) {f:Addr} {fd:FuncData} (F:FnP K "_law_room" jd f fd) (gm:mg "_law_room"=some (.ref f)) {S:zQ} (hS:∀ ds Q,S ds Q→ds.length=3∧QH (yU Q) (zH 3 ds)):Fd P w K mg base (k+1) "_law_room" S:=
 Fd.of F gm zcH (fun _ _ _ _ _ _ us hl=>match us,hl with | [_,_,_],_=>rfl) (fun cdv A outer s H E hr=>zjE m_abs cdv A outer s H E hr) hS
theorem zf5 (c:∀ (x0:aT2) (x1:aT2) (x2:Int),ZW x0 x1 x2→∀ K:Int→Prop,K (yS x0 x1 x2)→zaQ x0 x1 x2 K):∀ ds Q,Yp ds Q→ds.length=3∧QH (yU Q) (zH 3 ds):=by
 rintro ds Q ⟨x0,x1,x2,rfl,hp,q⟩
 exact ⟨rfl,zh7 (N:=yU Q) x0 x1 x2 (rt:=fun r=>Q (eI r)) (fun r h=>⟨Np.h (e:=eI) r,h⟩) (c x0 x1 x2 hp _ q)⟩
theorem Qm:FnScope ["_law_rows","_law_size_in","_law_rooms","_law_one","_law_other"] ["_law_rows","_law_size_in"] (defScope yq):=⟨rfl,rfl,rfl,by decide+kernel,rfl,by decide+kernel,by decide+kernel⟩
def kW:DS:=(zN (jr (.nm 2) (dLc (zms zW (dSl (zu 0) dNo (dSo (dUn (o1 zgq) (dC (.int 1))))) (dSl (zu 0) (dSo (dC (.int 1))) dNo)) [3,4] (.tp (.cons (.nm 3) (.cons (.nm 4) .nil))) ZP (dFn Yp (zm (zu 3) (zm (zu 4) (zm (zu 1) zK)))))) (zN (Jq 2) (ZM (zP (o2 zcT) (dCall (o1 zkf) (zm (zu 2) zK)) (zP (o2 zcT) (zP (o2 ixD) (zP (o2 ixD) (zu 0) (dUn (o1 zgq) (dC (.int 1)))) (dC (.int 1))) (zP (o2 ixD) (zP (o2 ixD) (zu 0) (dC (.int 0))) (dC (.int 1))))))))
def Yy (z35:aT5) (z34:Int) (rt:Int→Prop):Prop:=(((((xY z35 none (some (-(1:Int))))).zip (xY z35 (some (1:Int)) none))).length≤1000000)∧(∀ x1∈(((xY z35 none (some (-(1:Int))))).zip (xY z35 (some (1:Int)) none)),((ZW x1.1 x1.2 z34)))∧(((atI z35 (-(1:Int))).isSome=true)∧((atI z35 (0:Int)).isSome=true)∧(rt (((((((xY z35 none (some (-(1:Int))))).zip (xY z35 (some (1:Int)) none))).map (fun (x1:aT8)=>(yS x1.1 x1.2 z34)))).sum - ((gI z35 (-(1:Int))).2.1 - (gI z35 (0:Int)).2.1))))
theorem zb4 {N:DE} (z35:aT5) (z34:Int) {rt:Int→Prop} (hrt:∀ r,rt r→N.rt (eI r)) (h:Yy z35 z34 rt):kW N [some (aq9 z35),some (eI z34),none,none,none]:=
 (qu (d:=aq6 (((((xY z35 none (some (-(1:Int))))).zip (xY z35 (some (1:Int)) none))).map (fun (x1:aT8)=>(yS x1.1 x1.2 z34)))) 2 (kZ (eX:=(eT2 aq1 aq1)) (eY:=eI) (l:=(((xY z35 none (some (-(1:Int))))).zip (xY z35 (some (1:Int)) none))) (f:=(fun (x1:aT8)=>(yS x1.1 x1.2 z34))) (fun x1=>[some (aq9 z35),some (eI z34),none,some (aq1 x1.1),some (aq1 x1.2)]) (zqh (e:=aq1) (e':=aq1) (ziY (e:=aq1) (qv 0 aq9 z35 rfl) Qw (Qx (ev_un (ev_c (d:=eI 1)) ziP))) (ziY (e:=aq1) (qv 0 aq9 z35 rfl) (Qx (ev_c (d:=eI 1))) Qw)) h.1 (fun x1 N q=>(ziS (qR (ju (qR (ju (zau q))))))) (fun x1 hx=>(YH (ea_cons (qv 3 aq1 x1.1 rfl) (ea_cons (qv 4 aq1 x1.2 rfl) (ea_cons (qv 1 eI z34 rfl) ea_nil))) (yr (qf aq1) (yr (qf aq1) (yr (qf eI) jB))) (yW (ql aq1) (yW (ql aq1) (yW (ql eI) ZJ))) (zgx (h.2.1 x1 hx))))) (qn aq6) (Yt 2 (e:=aq6) (e':=aq5) (v:=(((((xY z35 none (some (-(1:Int))))).zip (xY z35 (some (1:Int)) none))).map (fun (x1:aT8)=>(yS x1.1 x1.2 z34)))) rfl (Ys (d:=eI (((((((xY z35 none (some (-(1:Int))))).zip (xY z35 (some (1:Int)) none))).map (fun (x1:aT8)=>(yS x1.1 x1.2 z34)))).sum - ((gI z35 (-(1:Int))).2.1 - (gI z35 (0:Int)).2.1))) (zB (ev_call (ea_cons (qv 2 aq5 (((((xY z35 none (some (-(1:Int))))).zip (xY z35 (some (1:Int)) none))).map (fun (x1:aT8)=>(yS x1.1 x1.2 z34))) rfl) ea_nil) (by exact zrm)) (zB (zB (zB (qv 0 aq9 z35 rfl) (ev_un (ev_c (d:=eI 1)) ziP) (YG (e:=aq1) h.2.2.1)) (ev_c (d:=eI 1)) (jN (ds:=[eS (gI z35 (-(1:Int))).1,eI (gI z35 (-(1:Int))).2.1,eI (gI z35 (-(1:Int))).2.2]) (d:=eI (gI z35 (-(1:Int))).2.1) rfl)) (zB (zB (qv 0 aq9 z35 rfl) (ev_c (d:=eI 0)) (YG (e:=aq1) h.2.2.2.1)) (ev_c (d:=eI 1)) (jN (ds:=[eS (gI z35 (0:Int)).1,eI (gI z35 (0:Int)).2.1,eI (gI z35 (0:Int)).2.2]) (d:=eI (gI z35 (0:Int)).2.1) rfl)) (@zco _ (gI z35 (-(1:Int))).2.1 (gI z35 (0:Int)).2.1)) (@zco _ ((((((xY z35 none (some (-(1:Int))))).zip (xY z35 (some (1:Int)) none))).map (fun (x1:aT8)=>(yS x1.1 x1.2 z34)))).sum ((gI z35 (-(1:Int))).2.1 - (gI z35 (0:Int)).2.1))) (qr eI) (by exact hrt _ h.2.2.2.2))))
theorem zcI {P:Program} {w:World} {K:PySem.W.Frag} {mg:Str→Option Value} {base:Heap} {k:Nat} (m_zip:mg "zip"=none) (m_sum:mg "sum"=none) (f__law_room:Fd P w K mg base k "_law_room" Yp) {fa:Addr} (cdv:Value) (A:Around) (outer:List PySem.Env) (s:Shared) (H:Hp) (E:XK) (hr:Room k (A.deeper (envOfC "_law_chain_need" (defScope yq) s.heap.objs.size fa cdv))):
  PDB (cxOf CX0 P w K mg base ["_law_rows","_law_size_in","_law_rooms","_law_one","_law_other"] "_law_chain_need" (defScope yq) fa cdv A outer s H E).nox (defBody yq) kW:=
 have d:Gd (cxOf CX0 P w K mg base ["_law_rows","_law_size_in","_law_rooms","_law_one","_law_other"] "_law_chain_need" (defScope yq) fa cdv A outer s H E).nox k:=⟨rfl,Qm.nd,hr⟩
 (zJ (zaZ 2 (own:=[("_law_one",3),("_law_other",4)]) ⟨d.calm,d.nd,d.room⟩ (zln m_zip (zes (zj 0) Y8 (Y9 (zfh zA))) (zes (zj 0) (Y9 zA) Y8)) (by kernel_rfl) (by decide) (fun _ _ _ _ _=>(Jl d.calm (yP (yc 3 d.nd) (yP (yc 4 d.nd) Xv)))) (fun _ _ _ _ _=>yQ) (fun _ _ _ _ _=>(xV f__law_room hr (za (zj 3) (za (zj 4) (za (zj 1) zp))))))
  (Qu 2 (yR (s_ret (xG Xr (yK (zpW d.calm) m_sum (za (zj 2) zp) zoj) (xG Xr (yG (yG (zj 0) (zfh zA)) zA) (yG (yG (zj 0) zA) zA)))))))
theorem zb5 {P:Program} {w:World} {K:PySem.W.Frag} {mg:Str→Option Value} {base:Heap} {k:Nat} (m_zip:mg "zip"=none) (m_sum:mg "sum"=none) (f__law_room:Fd P w K mg base k "_law_room" Yp) {f:Addr} {fd:FuncData} (F:FnP K "_law_chain_need" yq f fd) (gm:mg "_law_chain_need"=some (.ref f)) {S:zQ} (hS:∀ ds Q,S ds Q→ds.length=2∧kW (yU Q) (zH 5 ds)):Fd P w K mg base (k+1) "_law_chain_need" S:=
 Fd.of F gm Qm (fun _ _ _ _ _ _ us hl=>match us,hl with | [_,_],_=>rfl) (fun cdv A outer s H E hr=>zcI m_zip m_sum f__law_room cdv A outer s H E hr) hS
theorem zaR (c:∀ (x0:aT5) (x1:Int),qF x0 x1→∀ K:Int→Prop,K (zY x0 x1)→Yy x0 x1 K):∀ ds Q,jm ds Q→ds.length=2∧kW (yU Q) (zH 5 ds):=by
 rintro ds Q ⟨x0,x1,rfl,hp,q⟩
 exact ⟨rfl,zb4 (N:=yU Q) x0 x1 (rt:=fun r=>Q (eI r)) (fun r h=>⟨Np.h (e:=eI) r,h⟩) (c x0 x1 hp _ q)⟩
theorem zaS:FnScope ["_law_rows","_law_found","_law_row","_law_some"] ["_law_rows"] (defScope xX):=⟨rfl,rfl,rfl,by decide+kernel,rfl,by decide+kernel,by decide+kernel⟩
def Kc:DS:=(zN (jr (.nm 1) (zP (o2 XS) (zu 1) (dFz (dLc (qK zW (zu 1)) [3] (.nm 3) ZP (zP (o2 XS) (zu 3) (Z6 (zm (zu 2) zK))))))) (jg [2]))
def Kd (z35:aT5) (z24:Qp) (z36:aT2) (rt:Qp→Prop) (nx:Qp→Prop) (bk:Qp→Prop) (ct:Qp→Prop):Prop:=((z24).length≤1000000)∧(∀ x2∈z24,(((x2).length+([z36]).length≤sizeLine)))∧((z24).length+(((z24).map (fun (x2:aT5)=>(x2++[z36])))).length≤sizeLine)∧(nx (z24++((z24).map (fun (x2:aT5)=>(x2++[z36])))))
theorem zdn {N:DE} (z35:aT5) (z24:Qp) (z36:aT2) {rt:Qp→Prop} {nx:Qp→Prop} {bk:Qp→Prop} {ct:Qp→Prop} (hrt:∀ r,rt r→N.rt (Xz r)) (hnx:∀ (z24:Qp),nx z24→N.nx [some (aq9 z35),some (Xz z24),none,none]) (hbk:∀ (z24:Qp),bk z24→N.bk [some (aq9 z35),some (Xz z24),none,none]) (hct:∀ (z24:Qp),ct z24→N.ct [some (aq9 z35),some (Xz z24),none,none]) (h:Kd z35 z24 z36 rt nx bk ct):Kc N [some (aq9 z35),some (Xz z24),some (aq1 z36),none]:=
 (qu (d:=Xz (z24++((z24).map (fun (x2:aT5)=>(x2++[z36]))))) 1 (zB (ev_var 1 (e:=Xz) (e':=(eL .b aq9)) (v:=z24) rfl) (JQ (a:=(eL .o xZ)) (a':=(eL .f aq9)) (kZ (eX:=aq9) (eY:=xZ) (l:=z24) (f:=(fun (x2:aT5)=>(x2++[z36]))) (fun x2=>[some (aq9 z35),some (Xz z24),some (aq1 z36),some (aq9 x2)]) (QT (e:=aq9) (ev_var 1 (e:=Xz) (e':=(eL .b aq9)) (v:=z24) rfl)) h.1 (fun x2 N q=>(ju q)) (fun x2 hx=>(zB (qv 3 aq9 x2 rfl) (yH (e:=aq1) [z36] (ea_cons (qv 2 aq1 z36 rfl) ea_nil) (Nat.le_of_ble_eq_true rfl)) (zc5 (e:=aq1) (h.2.1 x2 hx)))))) (zc5 (e:=aq9) h.2.2.1)) (qn Xz) (QW (hnx (z24++((z24).map (fun (x2:aT5)=>(x2++[z36])))) h.2.2.2) rfl))
def Ke:DS:=(zN (zfe (qK qW (zu 0)) (.nm 2) Kc) (ZM (dLc (qK zW (zu 1)) [3] (.nm 3) (dB (zP (o2 gtO) (dCall (o1 zba) (zm (zu 3) zK)) (dC (.int 1)))) (zu 3))))
def Kf (z35:aT5) (z24:Qp) (rt:Qp→Prop):Prop:=zaw (fun (x1:aT2) (s:Qp) nx bk=>Kd z35 s x1 rt (fun z24=>nx z24) (fun z24=>bk z24) (fun z24=>nx z24)) (fun s=>((s).length≤1000000)∧(rt ((s).filter (fun (x3:aT5)=>decide (((x3).length:Int) > (1:Int)))))) z35 z24
theorem zdo {N:DE} (z35:aT5) (z24:Qp) {rt:Qp→Prop} (hrt:∀ r,rt r→N.rt (Xz r)) (h:Kf z35 z24 rt):Ke N [some (aq9 z35),some (Xz z24),none,none]:=
 (zbU (l:=z35) (fun (s:Qp)=>[some (aq9 z35),some (Xz s),none,none]) aq1 (zty (e:=aq1) (qv 0 aq9 z35 rfl)) rfl h (fun s h=>(Ys (d:=Xz ((s).filter (fun (x3:aT5)=>decide (((x3).length:Int) > (1:Int))))) (zoA (ziU (eX:=aq9) (eY:=aq9) (l:=s) (c:=fun (x3:aT5)=>decide (((x3).length:Int) > (1:Int))) (f:=(fun (x3:aT5)=>x3)) (fun x3=>[some (aq9 z35),some (Xz s),none,some (aq9 x3)]) (QT (e:=aq9) (ev_var 1 (e:=Xz) (e':=(eL .b aq9)) (v:=s) rfl)) h.1 (fun x3 N q=>(ju q)) (fun x3 hx=>(Kg (zB (ev_call (ea_cons (qv 3 aq9 x3 rfl) ea_nil) (by exact (zc6 (e:=aq1) (l:=x3)))) (ev_c (d:=eI 1)) (@zr0 _ ((x3).length:Int) (1:Int))))) (fun x3 hx hk=>(qv 3 aq9 x3 rfl)))) (qr Xz) (by exact hrt _ h.2))) (fun x1 s nx N' hn hc hb hr h=>(ju (zdn (N:=N') z35 s x1 (zfn hr.1 hrt) (fun z24 hq=>(hn z24 hq)) (fun z24 hq=>(hb z24 hq)) (fun z24 hq=>(hc z24 hq)) h))))
def Y4:DS:=(zN (jr (.nm 1) (Z6 (zm (dFz (Z6 zK)) zK))) Ke)
def Q7 (z35:aT5) (rt:Qp→Prop):Prop:=Kf z35 [([]:List aT2)] rt
theorem zf6 {N:DE} (z35:aT5) {rt:Qp→Prop} (hrt:∀ r,rt r→N.rt (Xz r)) (h:Q7 z35 rt):Y4 N [some (aq9 z35),none,none,none]:=
 (qu (d:=Xz [([]:List aT2)]) 1 (yH (e:=aq9) [([]:List aT2)] (ea_cons (JQ (a:=xZ) (a':=aq9) (yH (e:=aq1) [] ea_nil (Nat.le_of_ble_eq_true rfl))) ea_nil) (Nat.le_of_ble_eq_true rfl)) (Nb.h (e:=Xz) [([]:List aT2)]) (zdo (N:=N) z35 [([]:List aT2)] hrt h))
theorem zgE {P:Program} {w:World} {K:PySem.W.Frag} {mg:Str→Option Value} {base:Heap} {k:Nat} (m_len:mg "len"=none) {fa:Addr} (cdv:Value) (A:Around) (outer:List PySem.Env) (s:Shared) (H:Hp) (E:XK) (hr:Room k (A.deeper (envOfC "_law_chains" (defScope xX) s.heap.objs.size fa cdv))):
  PDB (cxOf CX0 P w K mg base ["_law_rows","_law_found","_law_row","_law_some"] "_law_chains" (defScope xX) fa cdv A outer s H E).nox (defBody xX) Y4:=
 have d:Gd (cxOf CX0 P w K mg base ["_law_rows","_law_found","_law_row","_law_some"] "_law_chains" (defScope xX) fa cdv A outer s H E).nox k:=⟨rfl,zaS.nd,hr⟩
 (zJ (jf 1 d (qj (za (JN (qj zp)) zp)))
  (zJ (zfj d PassesOwn.never (zlm (zj 0)) (yc 2 d.nd) (zJ (jf 1 d (xG jH (zj 1) (JN (Y6 (own:=[("_law_some",3)]) ⟨d.calm,d.nd,d.room⟩ (xH (zj 1)) (by kernel_rfl) (by decide) (fun _ _ _ _ _=>(yc 3 d.nd)) (fun _ _ _ _ _=>yQ) (fun _ _ _ _ _=>(xG jH (zj 3) (qj (za (zj 2) zp))))))))
  (Jr [2])))
  (yR (s_ret (Y6 (own:=[("_law_some",3)]) ⟨d.calm,d.nd,d.room⟩ (xH (zj 1)) (by kernel_rfl) (by decide) (fun _ _ _ _ _=>(yc 3 d.nd)) (fun _ _ _ _ _=>(Kv (yM zke (yK YS m_len (za (zj 3) zp) Xg) zA))) (fun _ _ _ _ _=>(zj 3)))))))
theorem zf7 {P:Program} {w:World} {K:PySem.W.Frag} {mg:Str→Option Value} {base:Heap} {k:Nat} (m_len:mg "len"=none) {f:Addr} {fd:FuncData} (F:FnP K "_law_chains" xX f fd) (gm:mg "_law_chains"=some (.ref f)) {S:zQ} (hS:∀ ds Q,S ds Q→ds.length=1∧Y4 (yU Q) (zH 4 ds)):Fd P w K mg base (k+1) "_law_chains" S:=
 Fd.of F gm zaS (fun _ _ _ _ _ _ us hl=>match us,hl with | [_],_=>rfl) (fun cdv A outer s H E hr=>zgE m_len cdv A outer s H E hr) hS
theorem zdp (c:∀ (x0:aT5),jR x0→∀ K:Qp→Prop,K (yd x0)→Q7 x0 K):∀ ds Q,Z0 ds Q→ds.length=1∧Y4 (yU Q) (zH 4 ds):=by
 rintro ds Q ⟨x0,rfl,hp,q⟩
 exact ⟨rfl,zf6 (N:=yU Q) x0 (rt:=fun r=>Q (Xz r)) (fun r h=>⟨Np.h (e:=Xz) r,h⟩) (c x0 hp _ q)⟩
theorem zcJ:FnScope ["_law_marks_here","_law_folk_here","_law_size_in"] ["_law_marks_here","_law_folk_here","_law_size_in"] (defScope qJ):=⟨rfl,rfl,rfl,by decide+kernel,rfl,by decide+kernel,by decide+kernel⟩
theorem zf8:zkw "need" jx ["symbols","names","size"] 2 ["size"] [] (fun us _ ws=>us++ws):=fun D doc pm an cdv ct us mv ws h1 h2 h3=>match us,mv,ws,h1,h2,h3 with
 | [u0,u1],[],[w0],_,_,_=>rfl
def zbN:DS:=(zlR (zhI Jz (dKw 2 1 (fun us _ ws=>us++ws) [] (zm (zu 0) (zm (zu 1) zK)) (zm (zu 2) zK))))
def zbO (z31:aT5) (z27:aT1) (z34:Int) (rt:(Int ⊕ OkS)→Prop) (kx:Exn→Prop):Prop:=(Ym z31 z27 z34)∧(Xy (QC z31 z27 z34) (fun (r1:Int)=>rt (Sum.inl r1:(Int ⊕ OkS))) kx)
theorem zf9 {N:DE} (z31:aT5) (z27:aT1) (z34:Int) {rt:(Int ⊕ OkS)→Prop} {kx:Exn→Prop} (hrt:∀ r,rt r→N.rt (aq4 r)) (hkx:∀ x ρ,kx x→N.ex x ρ) (h:zbO z31 z27 z34 rt kx):zbN N [some (aq9 z31),some (aq2 z27),some (eI z34)]:=
 (zsv (e:=eI) (e':=eI) (zoH (xs:=[aq9 z31,aq2 z27,eI z34]) (ea_cons (qv 0 aq9 z31 rfl) (ea_cons (qv 1 aq2 z27 rfl) ea_nil)) (ea_cons (qv 2 eI z34 rfl) ea_nil) rfl rfl rfl) (yr (qf aq9) (yr (qf aq2) (yr (qf eI) jB))) (yW (ql aq9) (yW (ql aq2) (yW (ql eI) ZJ))) (zm2 h.1) (h.2.mono (fun r1 z=>hrt _ z) (fun x z=>hkx x _ z)))
def QJ:DS:=(zo4 zbN [("BadChain",(ZM (dC (.str "BadChain"))))])
def zaT (z31:aT5) (z27:aT1) (z34:Int) (rt:(Int ⊕ OkS)→Prop):Prop:=zbO z31 z27 z34 rt (hsW [("BadChain",rt (Sum.inr (⟨"BadChain",by decide+kernel⟩:OkS):(Int ⊕ OkS)))])
theorem zh9 {N:DE} (z31:aT5) (z27:aT1) (z34:Int) {rt:(Int ⊕ OkS)→Prop} (hrt:∀ r,rt r→N.rt (aq4 r)) (h:zaT z31 z27 z34 rt):QJ N [some (aq9 z31),some (aq2 z27),some (eI z34)]:=
 (ztT (.cons (fun hq ρ=>(Ys (d:=aq4 (Sum.inr (⟨"BadChain",by decide+kernel⟩:OkS):(Int ⊕ OkS))) (ev_c (d:=.str "BadChain")) (qr aq4) (by exact hrt _ hq))) .nil) (fun hkx2=>(zf9 (N:={ N with ex:=fun x ρ'=>Hs.at [("BadChain",(ZM (dC (.str "BadChain"))))] N x ρ'}) z31 z27 z34 hrt hkx2 h)))
theorem zjF {P:Program} {w:World} {K:PySem.W.Frag} {mg:Str→Option Value} {base:Heap} {k:Nat} (f_need:FxK P w K mg base k "need" jx ["symbols","names","size"] [("size",V.int (2))] Jz) (c_BadChain:∃ C,mg "BadChain"=some (.ref C)) (ap0:Apt K mg ["BadChain"]) {fa:Addr} (cdv:Value) (A:Around) (outer:List PySem.Env) (s:Shared) (H:Hp) (E:XK) (hr:Room k (A.deeper (envOfC "_law_told" (defScope qJ) s.heap.objs.size fa cdv))):
  PDB (cxOf CX0 P w K mg base ["_law_marks_here","_law_folk_here","_law_size_in"] "_law_told" (defScope qJ) fa cdv A outer s H E).nox (defBody qJ) QJ:=
 have d:Gd (cxOf CX0 P w K mg base ["_law_marks_here","_law_folk_here","_law_size_in"] "_law_told" (defScope qJ) fa cdv A outer s H E).nox k:=⟨rfl,zcJ.nd,hr⟩
 (yR (zsp rfl rfl (zpa c_BadChain (fun a oe pn=>(yR (s_ret j9))) zso) ap0 (fun pn xe hp=>have d:Gd (Cx.tr (cxOf CX0 P w K mg base ["_law_marks_here","_law_folk_here","_law_size_in"] "_law_told" (defScope qJ) fa cdv A outer s H E).nox pn xe) k:=⟨d.calm,d.nd,d.room⟩; (yR (zsn (zsu (g:=(fun us _ ws=>us++ws)) (ks:=["size"]) (kws:=[("size",V.int (2))]) (ms:=[]) (md:=[]) f_need hr ztJ zf8 (by simp) (by simp) rfl (fun _ _ _ _=>.nil) (za (zj 0) (za (zj 1) zp)) (zoF (zj 2) zhD)))))))
theorem zia {P:Program} {w:World} {K:PySem.W.Frag} {mg:Str→Option Value} {base:Heap} {k:Nat} (f_need:FxK P w K mg base k "need" jx ["symbols","names","size"] [("size",V.int (2))] Jz) (c_BadChain:∃ C,mg "BadChain"=some (.ref C)) (ap0:Apt K mg ["BadChain"]) {f:Addr} {fd:FuncData} (F:FnP K "_law_told" qJ f fd) (gm:mg "_law_told"=some (.ref f)) {S:zQ} (hS:∀ ds Q,S ds Q→ds.length=3∧QJ (yU Q) (zH 3 ds)):Fd P w K mg base (k+1) "_law_told" S:=
 Fd.of F gm zcJ (fun _ _ _ _ _ _ us hl=>match us,hl with | [_,_,_],_=>rfl) (fun cdv A outer s H E hr=>zjF f_need c_BadChain ap0 cdv A outer s H E hr) hS
theorem zga (c:∀ (x0:aT5) (x1:aT1) (x2:Int),ZX x0 x1 x2→∀ K:(Int ⊕ OkS)→Prop,K (qL x0 x1 x2)→zaT x0 x1 x2 K):∀ ds Q,Xd ds Q→ds.length=3∧QJ (yU Q) (zH 3 ds):=by
 rintro ds Q ⟨x0,x1,x2,rfl,hp,q⟩
 exact ⟨rfl,zh9 (N:=yU Q) x0 x1 x2 (rt:=fun r=>Q (aq4 r)) (fun r h=>⟨Np.h (e:=aq4) r,h⟩) (c x0 x1 x2 hp _ q)⟩
theorem zpq:FnScope ["_law_script","_law_pen_here","_law_k_turn","_law_marks_here","_law_size_in","_law_rows","_law_every","_law_greatest","_law_best","_law_due","_law_again_at","_law_found","_law_some","_law_good","_law_row","_law_pair"] ["_law_script"] (defScope JK):=⟨rfl,rfl,rfl,by decide+kernel,rfl,by decide+kernel,by decide+kernel⟩
theorem zeM:zkw "chain" jw ["symbols","size"] 1 ["size"] [] (fun us _ ws=>us++ws):=fun D doc pm an cdv ct us mv ws h1 h2 h3=>match us,mv,ws,h1,h2,h3 with
 | [u0],[],[w0],_,_,_=>rfl
theorem zjG:zkw "chain" jw ["symbols","size"] 1 [] ["size"] (fun us mv _=>us++mv):=fun D doc pm an cdv ct us mv ws h1 h2 h3=>match us,mv,ws,h1,h2,h3 with
 | [u0],[m0],[],_,_,_=>⟨_,_,_,_,_,_,rfl,rfl,rfl⟩
theorem zk0:zkw "need" jx ["symbols","names","size"] 2 [] ["size"] (fun us mv _=>us++mv):=fun D doc pm an cdv ct us mv ws h1 h2 h3=>match us,mv,ws,h1,h2,h3 with
 | [u0,u1],[m0],[],_,_,_=>⟨_,_,_,_,_,_,rfl,rfl,rfl⟩
def zjH:DS:=(zN (X7 11 zn7 zK Y5) (jg [11]))
def zjI (z18:Unit) (z31:aT5) (z34:Int) (z35:aT5) (z39:aT9) (z42:aT7) (z24:aT7) (rt:Bool→Prop) (nx:Prop) (bk:Prop) (ct:Prop):Prop:=((z24).isSome=true)∧(nx)
theorem zne {N:DE} (z18:Unit) (z31:aT5) (z34:Int) (z35:aT5) (z39:aT9) (z42:aT7) (z24:aT7) {rt:Bool→Prop} {nx:Prop} {bk:Prop} {ct:Prop} (hrt:∀ r,rt r→N.rt (eB r)) (hnx:nx→N.nx [none,some (zE z18),none,some (aq9 z31),some (eI z34),some (aq9 z35),some (yu z39),none,none,some ((eO aq2) z42),none,none,none,none,none,none]) (hbk:bk→N.bk [none,some (zE z18),none,some (aq9 z31),some (eI z34),some (aq9 z35),some (yu z39),none,none,some ((eO aq2) z42),none,none,none,none,none,none]) (hct:ct→N.ct [none,some (zE z18),none,some (aq9 z31),some (eI z34),some (aq9 z35),some (yu z39),none,none,some ((eO aq2) z42),none,none,none,none,none,none]) (h:zjI z18 z31 z34 z35 z39 z42 z24 rt nx bk ct):zjH N [none,some (zE z18),none,some (aq9 z31),some (eI z34),some (aq9 z35),some (yu z39),none,none,some ((eO aq2) z42),none,some ((eO aq3) z24),none,none,none,none]:=
 (ztX 11 (e:=aq3) (v:=z24) rfl h.1 (zr9 11 (e:=eS) (l:=((z24).getD default)) rfl (QW (hnx h.2) rfl)))
def zjJ:DS:=(X6 (dB (zP (o2 (isO not)) (zu 11) (dC .non))) zjH (jg [11]))
def zjK (z18:Unit) (z31:aT5) (z34:Int) (z35:aT5) (z39:aT9) (z42:aT7) (z24:aT7) (rt:Bool→Prop) (nx:Prop) (bk:Prop) (ct:Prop):Prop:=(((z24).isSome)=true→(zjI z18 z31 z34 z35 z39 z42 z24 rt nx bk ct))∧(((z24).isSome)=false→(nx))
theorem znf {N:DE} (z18:Unit) (z31:aT5) (z34:Int) (z35:aT5) (z39:aT9) (z42:aT7) (z24:aT7) {rt:Bool→Prop} {nx:Prop} {bk:Prop} {ct:Prop} (hrt:∀ r,rt r→N.rt (eB r)) (hnx:nx→N.nx [none,some (zE z18),none,some (aq9 z31),some (eI z34),some (aq9 z35),some (yu z39),none,none,some ((eO aq2) z42),none,none,none,none,none,none]) (hbk:bk→N.bk [none,some (zE z18),none,some (aq9 z31),some (eI z34),some (aq9 z35),some (yu z39),none,none,some ((eO aq2) z42),none,none,none,none,none,none]) (hct:ct→N.ct [none,some (zE z18),none,some (aq9 z31),some (eI z34),some (aq9 z35),some (yu z39),none,none,some ((eO aq2) z42),none,none,none,none,none,none]) (h:zjK z18 z31 z34 z35 z39 z42 z24 rt nx bk ct):zjJ N [none,some (zE z18),none,some (aq9 z31),some (eI z34),some (aq9 z35),some (yu z39),none,none,some ((eO aq2) z42),none,some ((eO aq3) z24),none,none,none,none]:=
 (ziV (Kg (zB (ev_var 11 (e:=(eO aq3)) (e':=aq8) (v:=z24) rfl) (ev_c (d:=eU ())) (zr1 (e:=(eL .b eS)) (v:=z24)))) (fun hk=>(zne (N:=N) z18 z31 z34 z35 z39 z42 z24 hrt hnx hbk hct (h.1 hk))) (fun hk=>(QW (hnx (h.2 hk)) rfl)))
def zjL:DS:=(zN (X6 (zca (zhe (dFn (yg 8) (zm (zu 11) (zm (zu 9) zK))))) (ZM (dC (.bl false))) Yq) zjJ)
def zjM (z18:Unit) (z31:aT5) (z34:Int) (z35:aT5) (z39:aT9) (z42:aT7) (z24:aT7) (rt:Bool→Prop) (nx:Prop) (bk:Prop) (ct:Prop):Prop:=((eO aq2) z24=(eO aq2) z42∧Pl 7 ((eO aq2) z24))∧((true=false→(rt false))∧(true=true→(zjK z18 z31 z34 z35 z39 z42 z24 rt nx bk ct)))
theorem zng {N:DE} (z18:Unit) (z31:aT5) (z34:Int) (z35:aT5) (z39:aT9) (z42:aT7) (z24:aT7) {rt:Bool→Prop} {nx:Prop} {bk:Prop} {ct:Prop} (hrt:∀ r,rt r→N.rt (eB r)) (hnx:nx→N.nx [none,some (zE z18),none,some (aq9 z31),some (eI z34),some (aq9 z35),some (yu z39),none,none,some ((eO aq2) z42),none,none,none,none,none,none]) (hbk:bk→N.bk [none,some (zE z18),none,some (aq9 z31),some (eI z34),some (aq9 z35),some (yu z39),none,none,some ((eO aq2) z42),none,none,none,none,none,none]) (hct:ct→N.ct [none,some (zE z18),none,some (aq9 z31),some (eI z34),some (aq9 z35),some (yu z39),none,none,some ((eO aq2) z42),none,none,none,none,none,none]) (h:zjM z18 z31 z34 z35 z39 z42 z24 rt nx bk ct):zjL N [none,some (zE z18),none,some (aq9 z31),some (eI z34),some (aq9 z35),some (yu z39),none,none,some ((eO aq2) z42),none,some ((eO aq3) z24),none,none,none,none]:=
 (zbT (et_not (zhx (zsz (ea_cons (ev_var 11 (e:=(eO aq3)) (e':=aq8) (v:=z24) rfl) (ea_cons (qv 9 (eO aq2) z42 rfl) ea_nil)) (yr (Fz.h (e:=aq8) (e':=(eO aq2)) _) (yr (qf (eO aq2)) jB)) (s_same h.1) (WkC.h (e:=eB) (e':=eB) true)) zlw)) (fun hk=>(Ys (d:=eB false) (ev_c (d:=eB false)) (qr eB) (by exact hrt _ (h.2.1 (zlA hk))))) (fun hk=>(w_next (zkv (znf (N:=N) z18 z31 z34 z35 z39 z42 z24 hrt hnx hbk hct (h.2.2 (zlB hk)))))))
def zjN:DS:=(zN (jr (.nm 11) (zqP za4 3 4)) (zN (jg [10]) zjL))
def zjO (z18:Unit) (z31:aT5) (z34:Int) (z35:aT5) (z39:aT9) (z42:aT7) (z43:Int) (rt:Bool→Prop) (nx:Prop) (bk:Prop) (ct:Prop):Prop:=(XF z31 z34)∧((xg z31 z34)≠some [])∧(zjM z18 z31 z34 z35 z39 z42 (xg z31 z34) rt nx bk ct)
theorem znh {N:DE} (z18:Unit) (z31:aT5) (z34:Int) (z35:aT5) (z39:aT9) (z42:aT7) (z43:Int) {rt:Bool→Prop} {nx:Prop} {bk:Prop} {ct:Prop} (hrt:∀ r,rt r→N.rt (eB r)) (hnx:nx→N.nx [none,some (zE z18),none,some (aq9 z31),some (eI z34),some (aq9 z35),some (yu z39),none,none,some ((eO aq2) z42),none,none,none,none,none,none]) (hbk:bk→N.bk [none,some (zE z18),none,some (aq9 z31),some (eI z34),some (aq9 z35),some (yu z39),none,none,some ((eO aq2) z42),none,none,none,none,none,none]) (hct:ct→N.ct [none,some (zE z18),none,some (aq9 z31),some (eI z34),some (aq9 z35),some (yu z39),none,none,some ((eO aq2) z42),none,none,none,none,none,none]) (h:zjO z18 z31 z34 z35 z39 z42 z43 rt nx bk ct):zjN N [none,some (zE z18),none,some (aq9 z31),some (eI z34),some (aq9 z35),some (yu z39),none,none,some ((eO aq2) z42),some (eI z43),none,none,none,none,none]:=
 (qu (d:=(eO aq3) (xg z31 z34)) 11 (zsK (e:=aq1) rfl rfl (zg0 h.1) h.2.1) (qn (eO aq3)) (kJ (zng (N:=N) z18 z31 z34 z35 z39 z42 (xg z31 z34) hrt hnx hbk hct h.2.2) rfl))
def zjP:DS:=(X6 (zca (zhe (dFn (yg 8) (zm (dFn Xd (zm (zu 3) (zm (dCall (o1 zle) (zm (zu 12) zK)) (zm (zu 4) zK)))) (zm (dIf (dB (zP (o2 (eqO not)) (zu 13) (Z6 zK))) (zP (o2 ixD) (zu 13) (dC (.int 0))) (dC (.str "BadChain"))) zK))))) (ZM (dC (.bl false))) (jg [3,4,12,13]))
def zjQ (z18:Unit) (z31:aT5) (z34:Int) (z44:aT1) (z45:aT3) (rt:Bool→Prop) (nx:Prop) (bk:Prop) (ct:Prop):Prop:=(ZX z31 z44 z34)∧(((!decide (z45=([]:List Int))))=true→(((atI z45 (0:Int)).isSome=true)))∧(aq4 (qL z31 z44 z34)=aq4 (if ((!decide (z45=([]:List Int))))=true then (Sum.inl (gI z45 (0:Int)):(Int ⊕ OkS)) else (Sum.inr (⟨"BadChain",by decide+kernel⟩:OkS):(Int ⊕ OkS)))∧Pl 7 (aq4 (qL z31 z44 z34)))∧((true=false→(rt false))∧(true=true→(nx)))
theorem zni {N:DE} (z18:Unit) (z31:aT5) (z34:Int) (z44:aT1) (z45:aT3) {rt:Bool→Prop} {nx:Prop} {bk:Prop} {ct:Prop} (hrt:∀ r,rt r→N.rt (eB r)) (hnx:nx→N.nx [none,some (zE z18),none,none,none,none,none,none,none,none,none,none,none,none,none,none]) (hbk:bk→N.bk [none,some (zE z18),none,none,none,none,none,none,none,none,none,none,none,none,none,none]) (hct:ct→N.ct [none,some (zE z18),none,none,none,none,none,none,none,none,none,none,none,none,none,none]) (h:zjQ z18 z31 z34 z44 z45 rt nx bk ct):zjP N [none,some (zE z18),none,some (aq9 z31),some (eI z34),none,none,none,none,none,none,none,some (aq2 z44),some (aq5 z45),none,none]:=
 (ziV (et_not (zhx (YH (ea_cons (zkt (ea_cons (qv 3 aq9 z31 rfl) (ea_cons (ev_call (ea_cons (qv 12 aq2 z44 rfl) ea_nil) (by exact (zr3 (e:=eS)))) (ea_cons (qv 4 eI z34 rfl) ea_nil))) (yr (qf aq9) (yr (Fz.h (e:=aq3) (e':=aq2) _) (yr (qf eI) jB))) (ztx (ql aq9) (zqf (FlC.h (b:=false) (e:=aq3) _))) (zgy h.1) (WkC.h (e:=aq4) (e':=aq4) (qL z31 z44 z34))) (ea_cons (ev_if (e:=aq4) (u:=(Sum.inl (gI z45 (0:Int)):(Int ⊕ OkS))) (v:=(Sum.inr (⟨"BadChain",by decide+kernel⟩:OkS):(Int ⊕ OkS))) (Kg (zB (qv 13 aq5 z45 rfl) (yH (e:=eI) [] ea_nil (Nat.le_of_ble_eq_true rfl)) (ztt (e:=aq5) (e':=aq6) (u:=z45) (v:=([]:List Int))))) (fun hq22=>(zsw (a:=eI) (b:=eS) (zB (qv 13 aq5 z45 rfl) (ev_c (d:=eI 0)) (YG (e:=eI) (h.2.1 hq22))))) (fun hq22=>(zsx (a:=eI) (b:=eS) (ev_c (d:=.str "BadChain"))))) ea_nil)) (yr (qf aq4) (yr (qf aq4) jB)) (yW (ql aq4) (yW (ql aq4) ZJ)) (s_same h.2.2.1)) zlw)) (fun hk=>(Ys (d:=eB false) (ev_c (d:=eB false)) (qr eB) (by exact hrt _ (h.2.2.2.1 (zlA hk))))) (fun hk=>(QW (hnx (h.2.2.2.2 (zlB hk))) rfl)))
def zjR:DS:=(zN (jr (.nm 13) (dLc (qK zW (zu 6)) [15] (.nm 15) (dB (zP (o2 (eqO id)) (zP (o2 ixD) (zu 15) (dC (.int 1))) (zu 12))) (zP (o2 ixD) (zu 15) (dC (.int 0))))) (zN (Jq 13) (zN (jg [6]) zjP)))
def zjS (z18:Unit) (z31:aT5) (z34:Int) (z39:aT9) (z44:aT1) (rt:Bool→Prop) (nx:Prop) (bk:Prop) (ct:Prop):Prop:=((z39).length≤1000000)∧(zjQ z18 z31 z34 z44 (((z39).filter (fun (x20:aT6)=>decide (x20.2=z44))).map (fun (x20:aT6)=>x20.1)) rt nx bk ct)
theorem znj {N:DE} (z18:Unit) (z31:aT5) (z34:Int) (z39:aT9) (z44:aT1) {rt:Bool→Prop} {nx:Prop} {bk:Prop} {ct:Prop} (hrt:∀ r,rt r→N.rt (eB r)) (hnx:nx→N.nx [none,some (zE z18),none,none,none,none,none,none,none,none,none,none,none,none,none,none]) (hbk:bk→N.bk [none,some (zE z18),none,none,none,none,none,none,none,none,none,none,none,none,none,none]) (hct:ct→N.ct [none,some (zE z18),none,none,none,none,none,none,none,none,none,none,none,none,none,none]) (h:zjS z18 z31 z34 z39 z44 rt nx bk ct):zjR N [none,some (zE z18),none,some (aq9 z31),some (eI z34),none,some (yu z39),none,none,none,none,none,some (aq2 z44),none,none,none]:=
 (qu (d:=aq6 (((z39).filter (fun (x20:aT6)=>decide (x20.2=z44))).map (fun (x20:aT6)=>x20.1))) 13 (ziU (eX:=jh) (eY:=eI) (l:=z39) (c:=fun (x20:aT6)=>decide (x20.2=z44)) (f:=(fun (x20:aT6)=>x20.1)) (fun x20=>[none,some (zE z18),none,some (aq9 z31),some (eI z34),none,some (yu z39),none,none,none,none,none,some (aq2 z44),none,none,some (jh x20)]) (QT (e:=jh) (qv 6 yu z39 rfl)) h.1 (fun x20 N q=>(ju q)) (fun x20 hx=>(Kg (zB (zB (qv 15 jh x20 rfl) (ev_c (d:=eI 1)) (jN (ds:=[eI x20.1,aq2 x20.2]) (d:=aq2 x20.2) rfl)) (qv 12 aq2 z44 rfl) (ziQ (e:=aq2) (e':=aq2) (u:=x20.2) (v:=z44))))) (fun x20 hx hk=>(zB (qv 15 jh x20 rfl) (ev_c (d:=eI 0)) (jN (ds:=[eI x20.1,aq2 x20.2]) (d:=eI x20.1) rfl)))) (qn aq6) (Yt 13 (e:=aq6) (e':=aq5) (v:=(((z39).filter (fun (x20:aT6)=>decide (x20.2=z44))).map (fun (x20:aT6)=>x20.1))) rfl (kJ (zni (N:=N) z18 z31 z34 z44 (((z39).filter (fun (x20:aT6)=>decide (x20.2=z44))).map (fun (x20:aT6)=>x20.1)) hrt hnx hbk hct h.2) rfl)))
def zjT:DS:=(zN (jr (.nm 12) (zP (o2 ixD) (Z6 (zm (zu 12) (zm (zu 12) (zm (dFz (dUn (o1 fun d Q=>match d with
  | .lst _ xs=>Q (.lst .o xs.reverse)
  | _=>False) (zu 12))) (zm (dFz (zP (o2 XS) (zu 12) (dSl (zu 12) (dSo (dUn (o1 zgq) (dC (.int 1)))) dNo))) (zm (dFz (zP (o2 XS) (zu 12) (Z6 (zm (dC (.str "nobody")) zK)))) (zm (dFz (dSl (zu 12) dNo (dSo (dC (.int 1))))) zK))))))) (dFn zU (zm (zu 1) (zm (dC (.int 6)) zK))))) zjR)
def zgb (z18:Unit) (z31:aT5) (z34:Int) (z39:aT9) (z44:aT1) (rt:Bool→Prop) (nx:Prop) (bk:Prop) (ct:Prop):Prop:=((z44).length+((xY z44 (some (-(1:Int))) none)).length≤sizeLine)∧((z44).length+([(⟨"nobody",by decide+kernel⟩:OkS)]).length≤sizeLine)∧(Xo (6:Int) (fun r19=>((atI [z44,z44,(z44).reverse,(z44++(xY z44 (some (-(1:Int))) none)),(z44++[(⟨"nobody",by decide+kernel⟩:OkS)]),(xY z44 none (some (1:Int)))] r19).isSome=true)∧(zjS z18 z31 z34 z39 (gI [z44,z44,(z44).reverse,(z44++(xY z44 (some (-(1:Int))) none)),(z44++[(⟨"nobody",by decide+kernel⟩:OkS)]),(xY z44 none (some (1:Int)))] r19) rt nx bk ct)))
theorem znk {N:DE} (z18:Unit) (z31:aT5) (z34:Int) (z39:aT9) (z44:aT1) {rt:Bool→Prop} {nx:Prop} {bk:Prop} {ct:Prop} (hrt:∀ r,rt r→N.rt (eB r)) (hnx:nx→N.nx [none,some (zE z18),none,none,none,none,none,none,none,none,none,none,none,none,none,none]) (hbk:bk→N.bk [none,some (zE z18),none,none,none,none,none,none,none,none,none,none,none,none,none,none]) (hct:ct→N.ct [none,some (zE z18),none,none,none,none,none,none,none,none,none,none,none,none,none,none]) (h:zgb z18 z31 z34 z39 z44 rt nx bk ct):zjT N [none,some (zE z18),none,some (aq9 z31),some (eI z34),none,some (yu z39),none,none,none,none,none,some (aq2 z44),none,none,none]:=
 (YX 12 (zcp (jO (d:=zqR [z44,z44,(z44).reverse,(z44++(xY z44 (some (-(1:Int))) none)),(z44++[(⟨"nobody",by decide+kernel⟩:OkS)]),(xY z44 none (some (1:Int)))]) (yH (e:=aq2) [z44,z44,(z44).reverse,(z44++(xY z44 (some (-(1:Int))) none)),(z44++[(⟨"nobody",by decide+kernel⟩:OkS)]),(xY z44 none (some (1:Int)))] (ea_cons (qv 12 aq2 z44 rfl) (ea_cons (qv 12 aq2 z44 rfl) (ea_cons (JQ (a:=aq3) (a':=aq2) (zsf (e:=eS) (qv 12 aq2 z44 rfl))) (ea_cons (JQ (a:=aq3) (a':=aq2) (zB (qv 12 aq2 z44 rfl) (ziY (e:=eS) (qv 12 aq2 z44 rfl) (Qx (ev_un (ev_c (d:=eI 1)) ziP)) Qw) (zc5 (e:=eS) h.1))) (ea_cons (JQ (a:=aq3) (a':=aq2) (zB (qv 12 aq2 z44 rfl) (yH (e:=eS) [(⟨"nobody",by decide+kernel⟩:OkS)] (ea_cons (ev_c (d:=.str "nobody")) ea_nil) (Nat.le_of_ble_eq_true rfl)) (zc5 (e:=eS) h.2.1))) (ea_cons (JQ (a:=aq3) (a':=aq2) (ziY (e:=eS) (qv 12 aq2 z44 rfl) Qw (Qx (ev_c (d:=eI 1))))) ea_nil)))))) (Nat.le_of_ble_eq_true rfl)) (Qc (yE (jO (d:=zE z18) (qv 1 zE z18 rfl) (yE (jO (d:=eI (6:Int)) (ev_c (d:=eI 6)) (Xp (kh (yr (qf zE) (yr (qf eI) jB)) (yW (ql zE) (yW (ql eI) ZJ)) (YQ h.2.2 (fun r19 hr19=>((YG (e:=aq2) hr19.1) _ ⟨(qn aq2),(znj (N:=N) z18 z31 z34 z39 (gI [z44,z44,(z44).reverse,(z44++(xY z44 (some (-(1:Int))) none)),(z44++[(⟨"nobody",by decide+kernel⟩:OkS)]),(xY z44 none (some (1:Int)))] r19) hrt hnx hbk hct hr19.2)⟩)))))))))))))
def zjU:DS:=(zN (jr (.nm 12) (dLc (qK zW (zu 5)) [14] (.nm 14) (dB (zP (o2 (eqO id)) (dFn zU (zm (zu 1) (zm (dC (.int 2)) zK))) (dC (.int 0)))) (zP (o2 ixD) (zu 14) (dC (.int 0))))) (zN (Jq 12) (zN (jg [5]) zjT)))
def zjV (z18:Unit) (z31:aT5) (z34:Int) (z35:aT5) (z39:aT9) (rt:Bool→Prop) (nx:Prop) (bk:Prop) (ct:Prop):Prop:=((z35).length≤1000000)∧(zaw (fun (x14:aT2) (s:List OkS) nx _=>(fun (x14:aT2) (KK15:Option OkS→Prop)=>Xo (2:Int) (fun r17=>((r17=(0:Int))→(KK15 (some x14.1)))∧(¬(r17=(0:Int))→(KK15 none)))) x14 (fun r=>nx (s++r.toList))) (fun r18=>zgb z18 z31 z34 z39 r18 rt nx bk ct) z35 [])
theorem znl {N:DE} (z18:Unit) (z31:aT5) (z34:Int) (z35:aT5) (z39:aT9) {rt:Bool→Prop} {nx:Prop} {bk:Prop} {ct:Prop} (hrt:∀ r,rt r→N.rt (eB r)) (hnx:nx→N.nx [none,some (zE z18),none,none,none,none,none,none,none,none,none,none,none,none,none,none]) (hbk:bk→N.bk [none,some (zE z18),none,none,none,none,none,none,none,none,none,none,none,none,none,none]) (hct:ct→N.ct [none,some (zE z18),none,none,none,none,none,none,none,none,none,none,none,none,none,none]) (h:zjV z18 z31 z34 z35 z39 rt nx bk ct):zjU N [none,some (zE z18),none,some (aq9 z31),some (eI z34),some (aq9 z35),some (yu z39),none,none,none,none,none,none,none,none,none]:=
 (YX 12 (zoM (eX:=aq1) (eY:=eS) (body:=(fun (x14:aT2) (KK15:Option OkS→Prop)=>Xo (2:Int) (fun r17=>((r17=(0:Int))→(KK15 (some x14.1)))∧(¬(r17=(0:Int))→(KK15 none))))) (K:=fun r18=>zgb z18 z31 z34 z39 r18 rt nx bk ct) (fun x14=>[none,some (zE z18),none,some (aq9 z31),some (eI z34),some (aq9 z35),some (yu z39),none,none,none,none,none,none,none,some (aq1 x14),none]) (QT (e:=aq1) (qv 5 aq9 z35 rfl)) h.1 h.2 (fun x14 N q=>(ju q)) (fun x14 KK15 G1 G0 k1KK15 k0KK15 hbKK15=>(zur (zcp (Qc (yE (jO (d:=zE z18) (qv 1 zE z18 rfl) (yE (jO (d:=eI (2:Int)) (ev_c (d:=eI 2)) (Xp (kh (yr (qf zE) (yr (qf eI) jB)) (yW (ql zE) (yW (ql eI) ZJ)) (YQ hbKK15 (fun r17 hr17=>(jO (d:=eI (0:Int)) (ev_c (d:=eI 0)) ((ziQ (e:=eI) (e':=eI) (u:=r17) (v:=(0:Int))) _ (ztE (ifl (fun hk16=>(jO (d:=eS x14.1) (zB (qv 14 aq1 x14 rfl) (ev_c (d:=eI 0)) (jN (ds:=[eS x14.1,eI x14.2.1,eI x14.2.2]) (d:=eS x14.1) rfl)) (k1KK15 _ (hr17.1 (of_decide_eq_true hk16))))) (fun hk16=>(k0KK15 (hr17.2 (of_decide_eq_false hk16)))))))))))))))))))) (fun r18 hr18=>⟨(qn aq3),(Yt 12 (e:=aq3) (e':=aq2) (v:=r18) rfl (kJ (znk (N:=N) z18 z31 z34 z39 r18 hrt hnx hbk hct hr18) rfl))⟩)))
def zlZ:DS:=(zN (zfe (zcb (dC (.int 2))) (.nm 10) zjN) (zN (jg [9]) zjU))
def zl0 (z18:Unit) (z31:aT5) (z34:Int) (z35:aT5) (z39:aT9) (z42:aT7) (rt:Bool→Prop) (nx:Prop) (bk:Prop) (ct:Prop):Prop:=(-1000000000000≤(2:Int)∧(2:Int)≤1000000000000)∧(zaw (fun (x13:Int) (s:Unit) nx bk=>zjO z18 z31 z34 z35 z39 z42 x13 rt (nx ()) (bk ()) (nx ())) (fun s=>zjV z18 z31 z34 z35 z39 rt nx bk ct) (ZK 0 (2:Int)) ())
theorem zpr {N:DE} (z18:Unit) (z31:aT5) (z34:Int) (z35:aT5) (z39:aT9) (z42:aT7) {rt:Bool→Prop} {nx:Prop} {bk:Prop} {ct:Prop} (hrt:∀ r,rt r→N.rt (eB r)) (hnx:nx→N.nx [none,some (zE z18),none,none,none,none,none,none,none,none,none,none,none,none,none,none]) (hbk:bk→N.bk [none,some (zE z18),none,none,none,none,none,none,none,none,none,none,none,none,none,none]) (hct:ct→N.ct [none,some (zE z18),none,none,none,none,none,none,none,none,none,none,none,none,none,none]) (h:zl0 z18 z31 z34 z35 z39 z42 rt nx bk ct):zlZ N [none,some (zE z18),none,some (aq9 z31),some (eI z34),some (aq9 z35),some (yu z39),none,none,some ((eO aq2) z42),none,none,none,none,none,none]:=
 (zbU (l:=(ZK 0 (2:Int))) (fun (s:Unit)=>[none,some (zE z18),none,some (aq9 z31),some (eI z34),some (aq9 z35),some (yu z39),none,none,some ((eO aq2) z42),none,none,none,none,none,none]) eI (zlx (ev_c (d:=eI 2)) h.1) rfl h.2 (fun s h=>(kJ (znl (N:=N) z18 z31 z34 z35 z39 hrt hnx hbk hct h) rfl)) (fun x13 s nx N' hn hc hb hr h=>(ju (znh (N:=N') z18 z31 z34 z35 z39 z42 x13 (zfn hr.1 hrt) (fun hq=>(hn () hq)) (fun hq=>(hb () hq)) (fun hq=>(hc () hq)) h))))
def zl1:DS:=(zN (jr (.nm 9) (dIf (dB (zP (o2 gtO) (zu 7) (dC (.int 0)))) (zP (o2 ixD) (zP (o2 ixD) (zu 8) (dC (.int 0))) (dC (.int 1))) (dC .non))) (zN (jg [7,8]) zlZ))
def zl2 (z18:Unit) (z31:aT5) (z34:Int) (z35:aT5) (z39:aT9) (z40:Int) (z41:aT9) (rt:Bool→Prop) (nx:Prop) (bk:Prop) (ct:Prop):Prop:=((decide (z40 > (0:Int)))=true→(((atI z41 (0:Int)).isSome=true)))∧(zl0 z18 z31 z34 z35 z39 (if (decide (z40 > (0:Int)))=true then (some (gI z41 (0:Int)).2) else (none:aT7)) rt nx bk ct)
theorem zps {N:DE} (z18:Unit) (z31:aT5) (z34:Int) (z35:aT5) (z39:aT9) (z40:Int) (z41:aT9) {rt:Bool→Prop} {nx:Prop} {bk:Prop} {ct:Prop} (hrt:∀ r,rt r→N.rt (eB r)) (hnx:nx→N.nx [none,some (zE z18),none,none,none,none,none,none,none,none,none,none,none,none,none,none]) (hbk:bk→N.bk [none,some (zE z18),none,none,none,none,none,none,none,none,none,none,none,none,none,none]) (hct:ct→N.ct [none,some (zE z18),none,none,none,none,none,none,none,none,none,none,none,none,none,none]) (h:zl2 z18 z31 z34 z35 z39 z40 z41 rt nx bk ct):zl1 N [none,some (zE z18),none,some (aq9 z31),some (eI z34),some (aq9 z35),some (yu z39),some (eI z40),some (yu z41),none,none,none,none,none,none,none]:=
 (qu (d:=(eO aq2) (if (decide (z40 > (0:Int)))=true then (some (gI z41 (0:Int)).2) else (none:aT7))) 9 (ev_if (e:=(eO aq2)) (u:=(some (gI z41 (0:Int)).2)) (v:=(none:aT7)) (Kg (zB (qv 7 eI z40 rfl) (ev_c (d:=eI 0)) (@zr0 _ z40 (0:Int)))) (fun hq12=>(zB (zB (qv 8 yu z41 rfl) (ev_c (d:=eI 0)) (YG (e:=jh) (h.1 hq12))) (ev_c (d:=eI 1)) (jN (ds:=[eI (gI z41 (0:Int)).1,aq2 (gI z41 (0:Int)).2]) (d:=aq2 (gI z41 (0:Int)).2) rfl))) (fun hq12=>(ev_c (d:=(eO aq2) none)))) (qn (eO aq2)) (kJ (zpr (N:=N) z18 z31 z34 z35 z39 (if (decide (z40 > (0:Int)))=true then (some (gI z41 (0:Int)).2) else (none:aT7)) hrt hnx hbk hct h.2) rfl))
def zl3:DS:=(zN (jr (.nm 8) (dCall (o1 ze8) (zm (dLc (qK zW (zu 6)) [15] (.nm 15) (dB (zP (o2 (eqO id)) (zP (o2 ixD) (zu 15) (dC (.int 0))) (zu 7))) (dTup (zm (dCall (o1 zba) (zm (zP (o2 ixD) (zu 15) (dC (.int 1))) zK)) (zm (zP (o2 ixD) (zu 15) (dC (.int 1))) zK)))) zK))) (zN (Jq 8) zl1))
def zl4 (z18:Unit) (z31:aT5) (z34:Int) (z35:aT5) (z39:aT9) (z40:Int) (rt:Bool→Prop) (nx:Prop) (bk:Prop) (ct:Prop):Prop:=((z39).length≤1000000)∧(zl2 z18 z31 z34 z35 z39 z40 (((((z39).filter (fun (x11:aT6)=>decide (x11.1=z40))).map (fun (x11:aT6)=>(((x11.2).length:Int),x11.2)))).mergeSort (xU (YB ltI (ltL ltS)))) rt nx bk ct)
theorem zpt {N:DE} (z18:Unit) (z31:aT5) (z34:Int) (z35:aT5) (z39:aT9) (z40:Int) {rt:Bool→Prop} {nx:Prop} {bk:Prop} {ct:Prop} (hrt:∀ r,rt r→N.rt (eB r)) (hnx:nx→N.nx [none,some (zE z18),none,none,none,none,none,none,none,none,none,none,none,none,none,none]) (hbk:bk→N.bk [none,some (zE z18),none,none,none,none,none,none,none,none,none,none,none,none,none,none]) (hct:ct→N.ct [none,some (zE z18),none,none,none,none,none,none,none,none,none,none,none,none,none,none]) (h:zl4 z18 z31 z34 z35 z39 z40 rt nx bk ct):zl3 N [none,some (zE z18),none,some (aq9 z31),some (eI z34),some (aq9 z35),some (yu z39),some (eI z40),none,none,none,none,none,none,none,none]:=
 (qu (d:=jC (((((z39).filter (fun (x11:aT6)=>decide (x11.1=z40))).map (fun (x11:aT6)=>(((x11.2).length:Int),x11.2)))).mergeSort (xU (YB ltI (ltL ltS))))) 8 (ev_call (ea_cons (ziU (eX:=jh) (eY:=jh) (l:=z39) (c:=fun (x11:aT6)=>decide (x11.1=z40)) (f:=(fun (x11:aT6)=>(((x11.2).length:Int),x11.2))) (fun x11=>[none,some (zE z18),none,some (aq9 z31),some (eI z34),some (aq9 z35),some (yu z39),some (eI z40),none,none,none,none,none,none,none,some (jh x11)]) (QT (e:=jh) (qv 6 yu z39 rfl)) h.1 (fun x11 N q=>(ju q)) (fun x11 hx=>(Kg (zB (zB (qv 15 jh x11 rfl) (ev_c (d:=eI 0)) (jN (ds:=[eI x11.1,aq2 x11.2]) (d:=eI x11.1) rfl)) (qv 7 eI z40 rfl) (ziQ (e:=eI) (e':=eI) (u:=x11.1) (v:=z40))))) (fun x11 hx hk=>(zcq (a:=eI) (x:=((x11.2).length:Int)) (b:=aq2) (y:=x11.2) (ev_call (ea_cons (zB (qv 15 jh x11 rfl) (ev_c (d:=eI 1)) (jN (ds:=[eI x11.1,aq2 x11.2]) (d:=aq2 x11.2) rfl)) ea_nil) (by exact (zc6 (e:=eS) (l:=x11.2)))) (zB (qv 15 jh x11 rfl) (ev_c (d:=eI 1)) (jN (ds:=[eI x11.1,aq2 x11.2]) (d:=aq2 x11.2) rfl))))) ea_nil) (by exact (zoy (e:=jh) (l:=(((z39).filter (fun (x11:aT6)=>decide (x11.1=z40))).map (fun (x11:aT6)=>(((x11.2).length:Int),x11.2))))))) (qn jC) (Yt 8 (e:=jC) (e':=yu) (v:=(((((z39).filter (fun (x11:aT6)=>decide (x11.1=z40))).map (fun (x11:aT6)=>(((x11.2).length:Int),x11.2)))).mergeSort (xU (YB ltI (ltL ltS))))) rfl (zps (N:=N) z18 z31 z34 z35 z39 z40 (((((z39).filter (fun (x11:aT6)=>decide (x11.1=z40))).map (fun (x11:aT6)=>(((x11.2).length:Int),x11.2)))).mergeSort (xU (YB ltI (ltL ltS)))) hrt hnx hbk hct h.2)))
def zl5:DS:=(zN (jr (.nm 7) (dCall (o1 maxD) (zm (zP (o2 XS) (dLc (qK zW (zu 6)) [15] (.nm 15) ZP (zP (o2 ixD) (zu 15) (dC (.int 0)))) (Z6 (zm (dC (.int 0)) zK))) zK))) zl3)
def zib (z18:Unit) (z31:aT5) (z34:Int) (z35:aT5) (z39:aT9) (rt:Bool→Prop) (nx:Prop) (bk:Prop) (ct:Prop):Prop:=((z39).length≤1000000)∧((((z39).map (fun (x10:aT6)=>x10.1))).length+([(0:Int)]).length≤sizeLine)∧((((z39).map (fun (x10:aT6)=>x10.1))++[(0:Int)])≠[])∧(zl4 z18 z31 z34 z35 z39 (Xi (((z39).map (fun (x10:aT6)=>x10.1))++[(0:Int)])) rt nx bk ct)
theorem zpu {N:DE} (z18:Unit) (z31:aT5) (z34:Int) (z35:aT5) (z39:aT9) {rt:Bool→Prop} {nx:Prop} {bk:Prop} {ct:Prop} (hrt:∀ r,rt r→N.rt (eB r)) (hnx:nx→N.nx [none,some (zE z18),none,none,none,none,none,none,none,none,none,none,none,none,none,none]) (hbk:bk→N.bk [none,some (zE z18),none,none,none,none,none,none,none,none,none,none,none,none,none,none]) (hct:ct→N.ct [none,some (zE z18),none,none,none,none,none,none,none,none,none,none,none,none,none,none]) (h:zib z18 z31 z34 z35 z39 rt nx bk ct):zl5 N [none,some (zE z18),none,some (aq9 z31),some (eI z34),some (aq9 z35),some (yu z39),none,none,none,none,none,none,none,none,none]:=
 (qu (d:=eI (Xi (((z39).map (fun (x10:aT6)=>x10.1))++[(0:Int)]))) 7 (ev_call (ea_cons (zB (kZ (eX:=jh) (eY:=eI) (l:=z39) (f:=(fun (x10:aT6)=>x10.1)) (fun x10=>[none,some (zE z18),none,some (aq9 z31),some (eI z34),some (aq9 z35),some (yu z39),none,none,none,none,none,none,none,none,some (jh x10)]) (QT (e:=jh) (qv 6 yu z39 rfl)) h.1 (fun x10 N q=>(ju q)) (fun x10 hx=>(zB (qv 15 jh x10 rfl) (ev_c (d:=eI 0)) (jN (ds:=[eI x10.1,aq2 x10.2]) (d:=eI x10.1) rfl)))) (yH (e:=eI) [(0:Int)] (ea_cons (ev_c (d:=eI 0)) ea_nil) (Nat.le_of_ble_eq_true rfl)) (zc5 (e:=eI) h.2.1)) ea_nil) (by exact (zox h.2.2.1))) (qn eI) (zpt (N:=N) z18 z31 z34 z35 z39 (Xi (((z39).map (fun (x10:aT6)=>x10.1))++[(0:Int)])) hrt hnx hbk hct h.2.2.2))
def zl6:DS:=(zN (jr (.nm 6) (dLc (qK zW (dFn Z0 (zm (zu 5) zK))) [12] (.nm 12) ZP (dTup (zm (dFn jm (zm (zu 12) (zm (zu 4) zK))) (zm (dLc (qK zW (zu 12)) [14] (.nm 14) ZP (zP (o2 ixD) (zu 14) (dC (.int 0)))) zK))))) (zN (Jq 6) zl5))
def zl7 (z18:Unit) (z31:aT5) (z34:Int) (z35:aT5) (rt:Bool→Prop) (nx:Prop) (bk:Prop) (ct:Prop):Prop:=(jR z35)∧(((yd z35)).length≤1000000)∧(∀ x6∈(yd z35),((qF x6 z34)∧((x6).length≤1000000)))∧(zib z18 z31 z34 z35 (((yd z35)).map (fun (x6:aT5)=>((zY x6 z34),((x6).map (fun (x7:aT2)=>x7.1))))) rt nx bk ct)
theorem zpv {N:DE} (z18:Unit) (z31:aT5) (z34:Int) (z35:aT5) {rt:Bool→Prop} {nx:Prop} {bk:Prop} {ct:Prop} (hrt:∀ r,rt r→N.rt (eB r)) (hnx:nx→N.nx [none,some (zE z18),none,none,none,none,none,none,none,none,none,none,none,none,none,none]) (hbk:bk→N.bk [none,some (zE z18),none,none,none,none,none,none,none,none,none,none,none,none,none,none]) (hct:ct→N.ct [none,some (zE z18),none,none,none,none,none,none,none,none,none,none,none,none,none,none]) (h:zl7 z18 z31 z34 z35 rt nx bk ct):zl6 N [none,some (zE z18),none,some (aq9 z31),some (eI z34),some (aq9 z35),none,none,none,none,none,none,none,none,none,none]:=
 (qu (d:=zqS (((yd z35)).map (fun (x6:aT5)=>((zY x6 z34),((x6).map (fun (x7:aT2)=>x7.1)))))) 6 (kZ (eX:=aq9) (eY:=zsL) (l:=(yd z35)) (f:=(fun (x6:aT5)=>((zY x6 z34),((x6).map (fun (x7:aT2)=>x7.1))))) (fun x6=>[none,some (zE z18),none,some (aq9 z31),some (eI z34),some (aq9 z35),none,none,none,none,none,none,some (aq9 x6),none,none,none]) (QT (e:=aq9) (YH (ea_cons (qv 5 aq9 z35 rfl) ea_nil) (yr (qf aq9) jB) (yW (ql aq9) ZJ) (zeD h.1))) h.2.1 (fun x6 N q=>(ju q)) (fun x6 hx=>(zcq (a:=eI) (x:=(zY x6 z34)) (b:=aq3) (y:=((x6).map (fun (x7:aT2)=>x7.1))) (YH (ea_cons (qv 12 aq9 x6 rfl) (ea_cons (qv 4 eI z34 rfl) ea_nil)) (yr (qf aq9) (yr (qf eI) jB)) (yW (ql aq9) (yW (ql eI) ZJ)) (zbb (h.2.2.1 x6 hx).1)) (kZ (eX:=aq1) (eY:=eS) (l:=x6) (f:=(fun (x7:aT2)=>x7.1)) (fun x7=>[none,some (zE z18),none,some (aq9 z31),some (eI z34),some (aq9 z35),none,none,none,none,none,none,some (aq9 x6),none,some (aq1 x7),none]) (QT (e:=aq1) (qv 12 aq9 x6 rfl)) (h.2.2.1 x6 hx).2 (fun x7 N q=>(ju q)) (fun x7 hx1=>(zB (qv 14 aq1 x7 rfl) (ev_c (d:=eI 0)) (jN (ds:=[eS x7.1,eI x7.2.1,eI x7.2.2]) (d:=eS x7.1) rfl))))))) (qn zqS) (Yt 6 (e:=zqS) (e':=yu) (v:=(((yd z35)).map (fun (x6:aT5)=>((zY x6 z34),((x6).map (fun (x7:aT2)=>x7.1)))))) rfl (zpu (N:=N) z18 z31 z34 z35 (((yd z35)).map (fun (x6:aT5)=>((zY x6 z34),((x6).map (fun (x7:aT2)=>x7.1))))) hrt hnx hbk hct h.2.2.2)))
def zl8:DS:=(zN (jr (.nm 5) (dFn jT (zm (zu 3) zK))) (zN (Jq 5) zl6))
def zic (z18:Unit) (z31:aT5) (z34:Int) (rt:Bool→Prop) (nx:Prop) (bk:Prop) (ct:Prop):Prop:=(jj z31)∧(zl7 z18 z31 z34 (yN z31) rt nx bk ct)
theorem zpw {N:DE} (z18:Unit) (z31:aT5) (z34:Int) {rt:Bool→Prop} {nx:Prop} {bk:Prop} {ct:Prop} (hrt:∀ r,rt r→N.rt (eB r)) (hnx:nx→N.nx [none,some (zE z18),none,none,none,none,none,none,none,none,none,none,none,none,none,none]) (hbk:bk→N.bk [none,some (zE z18),none,none,none,none,none,none,none,none,none,none,none,none,none,none]) (hct:ct→N.ct [none,some (zE z18),none,none,none,none,none,none,none,none,none,none,none,none,none,none]) (h:zic z18 z31 z34 rt nx bk ct):zl8 N [none,some (zE z18),none,some (aq9 z31),some (eI z34),none,none,none,none,none,none,none,none,none,none,none]:=
 (qu (d:=xZ (yN z31)) 5 (YH (ea_cons (qv 3 aq9 z31 rfl) ea_nil) (yr (qf aq9) jB) (yW (ql aq9) ZJ) (zcA h.1)) (qn xZ) (Yt 5 (e:=xZ) (e':=aq9) (v:=(yN z31)) rfl (zpv (N:=N) z18 z31 z34 (yN z31) hrt hnx hbk hct h.2)))
def zl9:DS:=(zN (jr (.nm 4) (zP (o2 XS) (dC (.int 1)) (dFn zU (zm (zu 1) (zm (dC (.int 8)) zK))))) zl8)
def zma (z18:Unit) (z31:aT5) (rt:Bool→Prop) (nx:Prop) (bk:Prop) (ct:Prop):Prop:=Xo (8:Int) (fun r5=>zic z18 z31 ((1:Int)+r5) rt nx bk ct)
theorem zpx {N:DE} (z18:Unit) (z31:aT5) {rt:Bool→Prop} {nx:Prop} {bk:Prop} {ct:Prop} (hrt:∀ r,rt r→N.rt (eB r)) (hnx:nx→N.nx [none,some (zE z18),none,none,none,none,none,none,none,none,none,none,none,none,none,none]) (hbk:bk→N.bk [none,some (zE z18),none,none,none,none,none,none,none,none,none,none,none,none,none,none]) (hct:ct→N.ct [none,some (zE z18),none,none,none,none,none,none,none,none,none,none,none,none,none,none]) (h:zma z18 z31 rt nx bk ct):zl9 N [none,some (zE z18),none,some (aq9 z31),none,none,none,none,none,none,none,none,none,none,none,none]:=
 (YX 4 (zcp (jO (d:=eI (1:Int)) (ev_c (d:=eI 1)) (Qc (yE (jO (d:=zE z18) (qv 1 zE z18 rfl) (yE (jO (d:=eI (8:Int)) (ev_c (d:=eI 8)) (Xp (kh (yr (qf zE) (yr (qf eI) jB)) (yW (ql zE) (yW (ql eI) ZJ)) (YQ h (fun r5 hr5=>((@zgV _ (1:Int) r5) _ ⟨(qn eI),(zpw (N:=N) z18 z31 ((1:Int)+r5) hrt hnx hbk hct hr5)⟩)))))))))))))
def zmb:DS:=(zN (jr (.nm 3) (dFn Yw (zm (zu 1) (zm (dFn Xc (zm (zu 1) (zm (dFn zU (zm (zu 1) (zm (dC (.int 8)) zK))) zK))) zK)))) (zN (Jq 3) (zN (jg [2]) zl9)))
def zmc (z18:Unit) (z38:Int) (rt:Bool→Prop) (nx:Prop) (bk:Prop) (ct:Prop):Prop:=Xo (8:Int) (fun r2=>(ZV r2)∧(∀ r3:aT1,Zd r2 r3→((Ze r3)∧(∀ r4:aT5,jQ r3 r4→(zma z18 r4 rt nx bk ct)))))
theorem zpy {N:DE} (z18:Unit) (z38:Int) {rt:Bool→Prop} {nx:Prop} {bk:Prop} {ct:Prop} (hrt:∀ r,rt r→N.rt (eB r)) (hnx:nx→N.nx [none,some (zE z18),none,none,none,none,none,none,none,none,none,none,none,none,none,none]) (hbk:bk→N.bk [none,some (zE z18),none,none,none,none,none,none,none,none,none,none,none,none,none,none]) (hct:ct→N.ct [none,some (zE z18),none,none,none,none,none,none,none,none,none,none,none,none,none,none]) (h:zmc z18 z38 rt nx bk ct):zmb N [none,some (zE z18),some (eI z38),none,none,none,none,none,none,none,none,none,none,none,none,none]:=
 (YX 3 (Qc (yE (jO (d:=zE z18) (qv 1 zE z18 rfl) (yE (Qc (yE (jO (d:=zE z18) (qv 1 zE z18 rfl) (yE (Qc (yE (jO (d:=zE z18) (qv 1 zE z18 rfl) (yE (jO (d:=eI (8:Int)) (ev_c (d:=eI 8)) (Xp (kh (yr (qf zE) (yr (qf eI) jB)) (yW (ql zE) (yW (ql eI) ZJ)) (YQ h (fun r2 hr2=>(Xp (kh (yr (qf zE) (yr (qf eI) jB)) (yW (ql zE) (yW (ql eI) ZJ)) (zgw hr2.1 _ (fun r3 hr3=>(Xp (zoK (e:=xZ) (e':=xZ) (yr (qf zE) (yr (Fz.h (e:=aq3) (e':=aq2) _) jB)) (ztx (ql zE) (zqf (FlC.h (b:=false) (e:=aq3) _))) (zfC (hr2.2 r3 hr3).1) (fun r4 hr4=>⟨(qn xZ),(Yt 3 (e:=xZ) (e':=aq9) (v:=r4) rfl (kJ (zpx (N:=N) z18 r4 hrt hnx hbk hct ((hr2.2 r3 hr3).2 r4 hr4)) rfl))⟩)))))))))))))))))))))))))
def zmd:DS:=(zN (zfe (zcb (dC (.int 3))) (.nm 2) zmb) (ZM (zhg (zP (o2 (eqO id)) (dFn za4 (dKw 1 0 (fun us mv _=>us++mv) [D.int (2)] (zm (dFz (Z6 (zm (dTup (zm (dC (.str "a")) (zm (dC (.int 3)) (zm (dC (.int 3)) zK)))) (zm (dTup (zm (dC (.str "b")) (zm (dC (.int 3)) (zm (dC (.int 4)) zK)))) zK)))) zK) zK)) (Z6 (zm (dC (.str "a")) (zm (dC (.str "b")) zK)))) (zP (o2 (eqO id)) (dFn zfB (dKw 2 0 (fun us mv _=>us++mv) [D.int (2)] (zm (Z6 (zm (dTup (zm (dC (.str "a")) (zm (dC (.int 3)) (zm (dC (.int 3)) zK)))) (zm (dTup (zm (dC (.str "b")) (zm (dC (.int 3)) (zm (dC (.int 4)) zK)))) zK))) (zm (Z6 (zm (dC (.str "a")) (zm (dC (.str "b")) zK))) zK)) zK)) (dC (.int 2))))))
def zme (z18:Unit) (rt:Bool→Prop):Prop:=(-1000000000000≤(3:Int)∧(3:Int)≤1000000000000)∧(zaw (fun (x1:Int) (s:Unit) nx bk=>zmc z18 x1 rt (nx ()) (bk ()) (nx ())) (fun s=>(XF [((⟨"a",by decide+kernel⟩:OkS),(3:Int),(3:Int)),((⟨"b",by decide+kernel⟩:OkS),(3:Int),(4:Int))] (2:Int))∧((decide ((xg [((⟨"a",by decide+kernel⟩:OkS),(3:Int),(3:Int)),((⟨"b",by decide+kernel⟩:OkS),(3:Int),(4:Int))] (2:Int))=(some [(⟨"a",by decide+kernel⟩:OkS),(⟨"b",by decide+kernel⟩:OkS)])))=true→((zaB [((⟨"a",by decide+kernel⟩:OkS),(3:Int),(3:Int)),((⟨"b",by decide+kernel⟩:OkS),(3:Int),(4:Int))] [(⟨"a",by decide+kernel⟩:OkS),(⟨"b",by decide+kernel⟩:OkS)] (2:Int))))∧(rt (decide ((xg [((⟨"a",by decide+kernel⟩:OkS),(3:Int),(3:Int)),((⟨"b",by decide+kernel⟩:OkS),(3:Int),(4:Int))] (2:Int))=(some [(⟨"a",by decide+kernel⟩:OkS),(⟨"b",by decide+kernel⟩:OkS)]))&&decide ((Zf [((⟨"a",by decide+kernel⟩:OkS),(3:Int),(3:Int)),((⟨"b",by decide+kernel⟩:OkS),(3:Int),(4:Int))] [(⟨"a",by decide+kernel⟩:OkS),(⟨"b",by decide+kernel⟩:OkS)] (2:Int))=(2:Int))))) (ZK 0 (3:Int)) ())
theorem zpz {N:DE} (z18:Unit) {rt:Bool→Prop} (hrt:∀ r,rt r→N.rt (eB r)) (h:zme z18 rt):zmd N [none,some (zE z18),none,none,none,none,none,none,none,none,none,none,none,none,none,none]:=
 (zbU (l:=(ZK 0 (3:Int))) (fun (s:Unit)=>[none,some (zE z18),none,none,none,none,none,none,none,none,none,none,none,none,none,none]) eI (zlx (ev_c (d:=eI 3)) h.1) rfl h.2 (fun s h=>(Ys (d:=eB (decide ((xg [((⟨"a",by decide+kernel⟩:OkS),(3:Int),(3:Int)),((⟨"b",by decide+kernel⟩:OkS),(3:Int),(4:Int))] (2:Int))=(some [(⟨"a",by decide+kernel⟩:OkS),(⟨"b",by decide+kernel⟩:OkS)]))&&decide ((Zf [((⟨"a",by decide+kernel⟩:OkS),(3:Int),(3:Int)),((⟨"b",by decide+kernel⟩:OkS),(3:Int),(4:Int))] [(⟨"a",by decide+kernel⟩:OkS),(⟨"b",by decide+kernel⟩:OkS)] (2:Int))=(2:Int)))) (zov (zB (YH (zoH (xs:=[aq9 [((⟨"a",by decide+kernel⟩:OkS),(3:Int),(3:Int)),((⟨"b",by decide+kernel⟩:OkS),(3:Int),(4:Int))],eI (2:Int)]) (ea_cons (JQ (a:=xZ) (a':=aq9) (yH (e:=aq1) [((⟨"a",by decide+kernel⟩:OkS),(3:Int),(3:Int)),((⟨"b",by decide+kernel⟩:OkS),(3:Int),(4:Int))] (ea_cons (zeV (a:=eS) (x:=(⟨"a",by decide+kernel⟩:OkS)) (b:=eI) (y:=(3:Int)) (c:=eI) (z:=(3:Int)) (ev_c (d:=.str "a")) (ev_c (d:=eI 3)) (ev_c (d:=eI 3))) (ea_cons (zeV (a:=eS) (x:=(⟨"b",by decide+kernel⟩:OkS)) (b:=eI) (y:=(3:Int)) (c:=eI) (z:=(4:Int)) (ev_c (d:=.str "b")) (ev_c (d:=eI 3)) (ev_c (d:=eI 4))) ea_nil)) (Nat.le_of_ble_eq_true rfl))) ea_nil) ea_nil rfl rfl rfl) (yr (qf aq9) (yr (qf eI) jB)) (yW (ql aq9) (yW (ql eI) ZJ)) (zg0 h.1)) (yH (e:=eS) [(⟨"a",by decide+kernel⟩:OkS),(⟨"b",by decide+kernel⟩:OkS)] (ea_cons (ev_c (d:=.str "a")) (ea_cons (ev_c (d:=.str "b")) ea_nil)) (Nat.le_of_ble_eq_true rfl)) (ziQ (e:=(eO aq2)) (e':=(eO aq3)) (u:=(xg [((⟨"a",by decide+kernel⟩:OkS),(3:Int),(3:Int)),((⟨"b",by decide+kernel⟩:OkS),(3:Int),(4:Int))] (2:Int))) (v:=(some [(⟨"a",by decide+kernel⟩:OkS),(⟨"b",by decide+kernel⟩:OkS)])))) (fun k23=>(zB (zkt (zoH (xs:=[xZ [((⟨"a",by decide+kernel⟩:OkS),(3:Int),(3:Int)),((⟨"b",by decide+kernel⟩:OkS),(3:Int),(4:Int))],aq3 [(⟨"a",by decide+kernel⟩:OkS),(⟨"b",by decide+kernel⟩:OkS)],eI (2:Int)]) (ea_cons (yH (e:=aq1) [((⟨"a",by decide+kernel⟩:OkS),(3:Int),(3:Int)),((⟨"b",by decide+kernel⟩:OkS),(3:Int),(4:Int))] (ea_cons (zeV (a:=eS) (x:=(⟨"a",by decide+kernel⟩:OkS)) (b:=eI) (y:=(3:Int)) (c:=eI) (z:=(3:Int)) (ev_c (d:=.str "a")) (ev_c (d:=eI 3)) (ev_c (d:=eI 3))) (ea_cons (zeV (a:=eS) (x:=(⟨"b",by decide+kernel⟩:OkS)) (b:=eI) (y:=(3:Int)) (c:=eI) (z:=(4:Int)) (ev_c (d:=.str "b")) (ev_c (d:=eI 3)) (ev_c (d:=eI 4))) ea_nil)) (Nat.le_of_ble_eq_true rfl)) (ea_cons (yH (e:=eS) [(⟨"a",by decide+kernel⟩:OkS),(⟨"b",by decide+kernel⟩:OkS)] (ea_cons (ev_c (d:=.str "a")) (ea_cons (ev_c (d:=.str "b")) ea_nil)) (Nat.le_of_ble_eq_true rfl)) ea_nil)) ea_nil rfl rfl rfl) (yr (Fz.h (e:=xZ) (e':=aq9) _) (yr (Fz.h (e:=aq3) (e':=aq2) _) (yr (qf eI) jB))) (zqf (FlC.h (b:=false) (e:=xZ) _)) (zpn (h.2.1 k23)) (WkC.h (e:=eI) (e':=eI) (Zf [((⟨"a",by decide+kernel⟩:OkS),(3:Int),(3:Int)),((⟨"b",by decide+kernel⟩:OkS),(3:Int),(4:Int))] [(⟨"a",by decide+kernel⟩:OkS),(⟨"b",by decide+kernel⟩:OkS)] (2:Int)))) (ev_c (d:=eI 2)) (ziQ (e:=eI) (e':=eI) (u:=(Zf [((⟨"a",by decide+kernel⟩:OkS),(3:Int),(3:Int)),((⟨"b",by decide+kernel⟩:OkS),(3:Int),(4:Int))] [(⟨"a",by decide+kernel⟩:OkS),(⟨"b",by decide+kernel⟩:OkS)] (2:Int))) (v:=(2:Int)))))) (qr eB) (by exact hrt _ h.2.2))) (fun x1 s nx N' hn hc hb hr h=>(ju (zpy (N:=N') z18 x1 (zfn hr.1 hrt) (fun hq=>(hn () hq)) (fun hq=>(hb () hq)) (fun hq=>(hc () hq)) h))))
def t_law:DS:=(zN (zoo 1 0) (zN (jg [0]) zmd))
def zpA (z37:aT3) (rt:Bool→Prop):Prop:=((z37).length≤63)∧(zme () rt)
theorem zsN {N:DE} (z37:aT3) {rt:Bool→Prop} (hrt:∀ r,rt r→N.rt (eB r)) (h:zpA z37 rt):t_law N [some (aq5 z37),none,none,none,none,none,none,none,none,none,none,none,none,none,none,none]:=
 (zr6 1 0 (f:=.f) (ns:=z37) rfl h.1 (kJ (zpz (N:=N) () hrt h.2) rfl))
theorem zt8 {P:Program} {w:World} {K:PySem.W.Frag} {mg:Str→Option Value} {base:Heap} {k:Nat} (m_range:mg "range"=none) (m_max:mg "max"=none) (m_sorted:mg "sorted"=none) (m_len:mg "len"=none) (m_list:mg "list"=none) (f__law_marks:Fd P w K mg base k "_law_marks" Yw) (f__law_folk:Fd P w K mg base k "_law_folk" Xc) (f__law_pick:Fd P w K mg base k "_law_pick" zU) (f__law_in_order:Fd P w K mg base k "_law_in_order" jT) (f__law_chains:Fd P w K mg base k "_law_chains" Z0) (f__law_chain_need:Fd P w K mg base k "_law_chain_need" jm) (f_chain:FdK P w K mg base k "chain" jw ["symbols","size"] [("size",V.int (2))] za4) (f__law_same:Fd P w K mg base k "_law_same" (yg 8)) (f__law_told:Fd P w K mg base k "_law_told" Xd) (f_need:FdK P w K mg base k "need" jx ["symbols","names","size"] [("size",V.int (2))] zfB) (f__law_pen:zcm P w K mg base k "_law_pen") {fa:Addr} (cdv:Value) (A:Around) (outer:List PySem.Env) (s:Shared) (H:Hp) (E:XK) (hr:Room k (A.deeper (envOfC "law" (defScope JK) s.heap.objs.size fa cdv))):
  PDB (cxOf CX0 P w K mg base ["_law_script","_law_pen_here","_law_k_turn","_law_marks_here","_law_size_in","_law_rows","_law_every","_law_greatest","_law_best","_law_due","_law_again_at","_law_found","_law_some","_law_good","_law_row","_law_pair"] "law" (defScope JK) fa cdv A outer s H E).nox (defBody JK) t_law:=
 have d:Gd (cxOf CX0 P w K mg base ["_law_script","_law_pen_here","_law_k_turn","_law_marks_here","_law_size_in","_law_rows","_law_every","_law_greatest","_law_best","_law_due","_law_again_at","_law_found","_law_some","_law_good","_law_row","_law_pair"] "law" (defScope JK) fa cdv A outer s H E).nox k:=⟨rfl,zpq.nd,hr⟩
 (zJ (ztm 1 0 f__law_pen hr d.nd)
  (Yr [0] (zJ (zfj d PassesOwn.never (zkn m_range zA) (yc 2 d.nd) (zJ (jf 3 d (xV f__law_marks hr (za (zj 1) (za (xV f__law_folk hr (za (zj 1) (za (xV f__law_pick hr (za (zj 1) (za zA zp))) zp))) zp))))
  (Qu 3 (Yr [2] (zJ (jf 4 d (xG jH zA (xV f__law_pick hr (za (zj 1) (za zA zp)))))
  (zJ (jf 5 d (xV f__law_in_order hr (za (zj 3) zp)))
  (Qu 5 (zJ (zaZ 6 (own:=[("_law_some",12)]) ⟨d.calm,d.nd,d.room⟩ (xH (xV f__law_chains hr (za (zj 5) zp))) (by kernel_rfl) (by decide) (fun _ _ _ _ _=>(yc 12 d.nd)) (fun _ _ _ _ _=>yQ) (fun _ _ _ _ _=>(X8 (za (xV f__law_chain_need hr (za (zj 12) (za (zj 4) zp))) (za (Y6 (own:=[("_law_row",14)]) ⟨d.calm,d.nd,d.room⟩ (xH (zj 12)) (by kernel_rfl) (by decide) (fun _ _ _ _ _=>(yc 14 d.nd)) (fun _ _ _ _ _=>yQ) (fun _ _ _ _ _=>(yG (zj 14) zA))) zp)))))
  (Qu 6 (zJ (jf 7 d (yK (cr_maxD d.calm) m_max (za (xG jH (Y6 (own:=[("_law_pair",15)]) ⟨d.calm,d.nd,d.room⟩ (xH (zj 6)) (by kernel_rfl) (by decide) (fun _ _ _ _ _=>(yc 15 d.nd)) (fun _ _ _ _ _=>yQ) (fun _ _ _ _ _=>(yG (zj 15) zA))) (qj (za zA zp))) zp) zoi))
  (zJ (jf 8 d (yK (ziq d.u') m_sorted (za (Y6 (own:=[("_law_pair",15)]) ⟨d.calm,d.nd,d.room⟩ (xH (zj 6)) (by kernel_rfl) (by decide) (fun _ _ _ _ _=>(yc 15 d.nd)) (fun _ _ _ _ _=>(Kv (yM (QK d.u') (yG (zj 15) zA) (zj 7)))) (fun _ _ _ _ _=>(X8 (za (yK YS m_len (za (yG (zj 15) zA) zp) Xg) (za (yG (zj 15) zA) zp))))) zp) zc1))
  (Qu 8 (zJ (jf 9 d (zob (yM zke (zj 7) zA) (yG (yG (zj 8) zA) zA) Jk))
  (Yr [7,8] (zJ (zfj d PassesOwn.never (zkn m_range zA) (yc 10 d.nd) (zJ (jf 11 d (zqQ 3 4 f_chain hr zeM (by simp)))
  (Yr [10] (zJ (s_if (zcf (zce (xV f__law_same hr (za (zj 11) (za (zj 9) zp))))) (yR (s_ret zfg)) Qa)
  (yR (s_if (yM zpT (zj 11) Jk) (zJ (zr8 ziv PySem.F.slot_list_reverse PySem.F.type_list_reverse mt_reverse 11)
  (Jr [11])) (Jr [11])))))))
  (Yr [9] (zJ (jf 12 d (Y6 (own:=[("_law_row",14)]) ⟨d.calm,d.nd,d.room⟩ (xH (zj 5)) (by kernel_rfl) (by decide) (fun _ _ _ _ _=>(yc 14 d.nd)) (fun _ _ _ _ _=>(Kv (yM (QK d.u') (xV f__law_pick hr (za (zj 1) (za zA zp))) zA))) (fun _ _ _ _ _=>(yG (zj 14) zA))))
  (Qu 12 (Yr [5] (zJ (jf 12 d (yG (qj (za (zj 12) (za (zj 12) (za (JN (zse (zj 12))) (za (JN (xG jH (zj 12) (zes (zj 12) (Y9 (zfh zA)) Y8))) (za (JN (xG jH (zj 12) (qj (za j9 zp)))) (za (JN (zes (zj 12) Y8 (Y9 zA))) zp))))))) (xV f__law_pick hr (za (zj 1) (za zA zp)))))
  (zJ (zaZ 13 (own:=[("_law_pair",15)]) ⟨d.calm,d.nd,d.room⟩ (xH (zj 6)) (by kernel_rfl) (by decide) (fun _ _ _ _ _=>(yc 15 d.nd)) (fun _ _ _ _ _=>(Kv (yM (QK d.u') (yG (zj 15) zA) (zj 12)))) (fun _ _ _ _ _=>(yG (zj 15) zA)))
  (Qu 13 (Yr [6] (yR (s_if (zcf (zce (xV f__law_same hr (za (xV f__law_told hr (za (zj 3) (za (zoc znR m_list (za (zj 12) zp) zcj) (za (zj 4) zp)))) (za (zob (yM (zbP d.u') (zj 13) (qj zp)) (yG (zj 13) zA) j9) zp))))) (yR (s_ret zfg)) (Jr [3,4,12,13]))))))))))))))))))))))))))
  (yR (s_ret (zhm (Ku (QK d.u') (zoG (g:=(fun us mv _=>us++mv)) (ks:=[]) (kws:=[("size",V.int (2))]) (ms:=[("size",V.int (2))]) (md:=[D.int (2)]) f_chain hr zrp zjG (by simp) (by simp) rfl (fun _ _ _ _=>(.cons (L1:=[]) (L2:=[]) .int .nil)) (za (JN (qj (za (X8 (za j9 (za zA (za zA zp)))) (za (X8 (za j9 (za zA (za zA zp)))) zp)))) zp) zhD) (qj (za j9 (za j9 zp)))) (zhl (Ku (QK d.u') (zoG (g:=(fun us mv _=>us++mv)) (ks:=[]) (kws:=[("size",V.int (2))]) (ms:=[("size",V.int (2))]) (md:=[D.int (2)]) f_need hr zrp zk0 (by simp) (by simp) rfl (fun _ _ _ _=>(.cons (L1:=[]) (L2:=[]) .int .nil)) (za (qj (za (X8 (za j9 (za zA (za zA zp)))) (za (X8 (za j9 (za zA (za zA zp)))) zp))) (za (qj (za j9 (za j9 zp))) zp)) zhD) zA))))))))
def zg7:zQ:=fun ds Q=>∃ ns:List Int,ds=[.lst .f (ns.map D.int)]∧ns.length≤63∧Q (.bl true)
theorem zpB (c:∀ ns:List Int,ns.length≤63→∀ K:Bool→Prop,K true→zpA ns K):∀ ds Q,zg7 ds Q→ds.length=1∧t_law (yU Q) (zH 16 ds):=by
 rintro ds Q ⟨ns,rfl,hl,q⟩
 exact ⟨rfl,zsN (N:=yU Q) ns (rt:=fun r=>Q (eB r)) (fun r h=>⟨Np.h (e:=eB) r,h⟩) (c ns hl _ q)⟩
abbrev abc:OkS:=⟨"abcdefghijklmnopqrstuvwxyz",by decide+kernel⟩
theorem zpC:sCs abc=(List.range 26).map (97+·):=by decide+kernel
theorem qM (s:OkS):s.1.length=(sCs s).length:=by
 show s.1.cps.size=s.1.cps.toList.length
 simp
theorem zcK (s:OkS):zaz s=((sCs s).length:Int):=by
 show ((s.1.length:Nat):Int)=_
 rw [qM]
theorem zqW (s:OkS):(sCh s).length=(sCs s).length:=by
 unfold sCh
 rw [List.length_map]
theorem znm {c:Nat} (h:c < 0x110000):zet (zi7 c)=c:=by
 show (#[c % 0x110000]:Array Nat).getD 0 0=c
 rw [Nat.mod_eq_of_lt h]; rfl
theorem zqX {c:Nat}:c∈sCs abc↔97≤c∧c≤122:=by
 rw [zpC,List.mem_map]
 constructor
 ·rintro ⟨k,hk,rfl⟩
  have:=List.mem_range.mp hk
  omega
 ·intro h
  exact ⟨c - 97,List.mem_range.mpr (by omega),by omega⟩
theorem zqY (s:OkS):((sCh s).all fun x1=>decide (zet x1∈sCs abc))=decide (∀ c∈sCs s,97≤c∧c≤122):=by
 unfold sCh
 rw [List.all_map]
 refine Bool.eq_iff_iff.mpr ?_
 rw [List.all_eq_true,decide_eq_true_eq]
 refine forall_congr' fun c=>forall_congr' fun hc=>?_
 show decide (zet (zi7 c)∈sCs abc)=true↔_
 rw [znm (zbW s hc),decide_eq_true_eq,zqX]
theorem znn (s:OkS) (h:Xa s) (K:Bool→Prop) (q:K (qX s)):zdd s K:=by
 have h:s.1.length≤100000:=h
 have h2:(100000:Nat)≤sizeLine:=by decide
 refine ⟨Nat.le_trans h h2,fun _=>⟨by rw [zqW,← qM]; omega,fun x hx=>?_⟩,?_⟩
 ·obtain ⟨c,_,rfl⟩:=List.mem_map.mp hx
  rfl
 ·have e:((decide ((0:Int) < zaz s)&&decide (zaz s≤(8:Int)))&&((sCh s).all fun x1=>decide (zet x1∈sCs abc)))=qX s:=by
   rw [zqY]
   unfold qX Nm
   rw [← Bool.decide_and,← Bool.decide_and]
   exact decide_eq_decide.mpr ⟨fun h=>⟨h.1.1,h.1.2,h.2⟩,fun h=>⟨⟨h.1,h.2.1⟩,h.2.2⟩⟩
  exact e ▸ q
theorem zmf {s:OkS} {i:Int} (h0:0≤i) (h1:i≤(sCs s).length):sCs (Qg s none (some i))=(sCs s).take i.toNat:=by
 unfold Qg
 rw [zkE (zhH s _ _)]
 have e:i=((i.toNat:Nat):Int):=by omega
 rw [e,HT.sIx_none,HT.sIx_nat,List.drop_zero,Nat.sub_zero,qM,Nat.min_eq_left (by omega)]
 rfl
theorem zmg {s:OkS} {i:Int} (h0:0≤i) (h1:i≤(sCs s).length):sCs (Qg s (some i) none)=(sCs s).drop i.toNat:=by
 unfold Qg
 rw [zkE (zhH s _ _)]
 have e:i=((i.toNat:Nat):Int):=by omega
 rw [e,HT.sIx_none,HT.sIx_nat,qM,Nat.min_eq_left (by omega)]
 exact List.take_of_length_le (by rw [List.length_drop]; exact Nat.le_refl _)
theorem zk1 {s:OkS} {i:Int} (h0:0≤i) (h1:i < (sCs s).length):(atI (sCs s) i).isSome=true∧sCs (sAt s i)=[(sCs s).getD i.toNat 0]:=by
 have e:i=((i.toNat:Nat):Int):=by omega
 have hl:i.toNat < (sCs s).length:=by omega
 obtain ⟨n,rfl⟩:∃ n:Nat,i=(n:Int):=⟨i.toNat,e⟩
 rw [Int.toNat_natCast] at hl ⊢
 have a:atI (sCs s) (n:Int)=some ((sCs s)[n]):=by rw [Jm hl,List.getElem?_eq_getElem hl]
 refine ⟨by rw [a]; rfl,?_⟩
 unfold sAt
 rw [a,Option.getD_some,List.getD_eq_getElem?_getD,List.getElem?_eq_getElem hl,Option.getD_some]
 have m:(sCs s)[n] < 0x110000:=zbW s (List.getElem_mem hl)
 generalize (sCs s)[n]=c at m
 show (zi7 c).1.cps.toList=[c]
 rw [zkD m]
theorem zb6 {α β:Type} {f:α→β}:∀ {l:List α},(∀ x∈l,∀ y∈l,f x=f y→x=y)→l.Nodup→(l.map f).Nodup
 | [],_,_=>List.nodup_nil
 | x::l,h,n=>by
  obtain ⟨n1,n2⟩:=List.nodup_cons.mp n
  rw [List.map_cons,List.nodup_cons]
  refine ⟨fun z=>?_,zb6 (fun a ha b hb=>h a (List.mem_cons_of_mem _ ha) b (List.mem_cons_of_mem _ hb)) n2⟩
  obtain ⟨y,hy,e⟩:=List.mem_map.mp z
  rw [h y (List.mem_cons_of_mem _ hy) x (List.mem_cons_self ..) e] at hy
  exact n1 hy
theorem zk2 {lo hi:Int}:(ZK lo hi).Nodup:=by
 unfold ZK
 exact zb6 (fun x _ y _ e=>by omega) List.nodup_range
def zcL:List OkS:=[(⟨"",by decide+kernel⟩:OkS),(⟨"x",by decide+kernel⟩:OkS),(⟨"oak",by decide+kernel⟩:OkS),(⟨"mmmmmmm",by decide+kernel⟩:OkS),(⟨"ab",by decide+kernel⟩:OkS),(⟨"hill",by decide+kernel⟩:OkS)]
theorem zjW:∀ t∈zcL,(sCs t).length≤7∧∀ c∈sCs t,97≤c∧c≤122:=by decide+kernel
theorem zsO {a b:Int} {i j:Int} (hb:b∈[(1:Int),3,5,7,9,11]) (hi:0≤i∧i < 26) (hj:0≤j∧j < 26) (e:(a+b * i) % 26=(a+b * j) % 26):i=j:=by
 simp only [List.mem_cons,List.not_mem_nil,or_false] at hb
 rcases hb with rfl | rfl | rfl | rfl | rfl | rfl <;> omega
def zdq (t:OkS) (at_:Int) (k:Int):OkS:=zbX (zbX (Qg t none (some at_)) (sAt abc k)) (Qg t (some at_) none)
theorem ze0:(sCs abc).length=26:=by decide+kernel
theorem zpD {t:OkS} {i k:Int} (h0:0≤i) (h1:i≤(sCs t).length) (k0:0≤k) (k1:k < 26):sCs (zdq t i k)=(sCs t).take i.toNat++[97+k.toNat]++(sCs t).drop i.toNat:=by
 unfold zdq
 rw [zhG,zhG,zmf h0 h1,zmg h0 h1,(zk1 k0 (by rw [ze0]; omega)).2]
 have:(sCs abc).getD k.toNat 0=97+k.toNat:=by
  rw [zpC,List.getD_eq_getElem?_getD,List.getElem?_map,List.getElem?_range (by omega)]
  rfl
 rw [this]
theorem zt9 {t:OkS} {i k:Int} (ht:t∈zcL) (h0:0≤i) (h1:i≤(sCs t).length) (k0:0≤k) (k1:k < 26):Nm (zdq t i k):=by
 obtain ⟨tl,tc⟩:=zjW t ht
 unfold Nm
 rw [zcK,zpD h0 h1 k0 k1]
 refine ⟨?_,?_,fun c hc=>?_⟩
 ·simp only [List.length_append,List.length_take,List.length_drop,List.length_cons,List.length_nil]; omega
 ·simp only [List.length_append,List.length_take,List.length_drop,List.length_cons,List.length_nil]; omega
 ·rcases List.mem_append.mp hc with hc | hc
  ·rcases List.mem_append.mp hc with hc | hc
   ·exact tc c (List.mem_of_mem_take hc)
   ·rw [List.mem_singleton.mp hc]; omega
  ·exact tc c (List.mem_of_mem_drop hc)
theorem zsP {t:OkS} {i k j:Int} (h0:0≤i) (h1:i≤(sCs t).length) (k0:0≤k) (k1:k < 26) (j0:0≤j) (j1:j < 26) (e:zdq t i k=zdq t i j):k=j:=by
 have e2:=congrArg sCs e
 rw [zpD h0 h1 k0 k1,zpD h0 h1 j0 j1] at e2
 have e3:=List.append_inj_left e2 (by simp)
 have e4:=List.append_inj_right e3 rfl
 have:97+k.toNat=97+j.toNat:=by simpa using e4
 omega
theorem zqZ (a b:OkS):(zbX a b).1.length=a.1.length+b.1.length:=by
 rw [qM,zhG,List.length_append,← qM,← qM]
theorem zjX (u:Unit) (many:Int) (h:ZV many) (K:List OkS→Prop) (q:∀ r,Zd many r→K r):zaH u many K:=by
 obtain ⟨m0,m1⟩:=h
 have sz:(1000:Nat)≤sizeLine:=by decide
 refine Zz (by decide) (by decide) fun r1 a1 b1=>?_
 obtain ⟨g1,g2⟩:=zax (l:=zcL) a1 b1
 refine ⟨g1,?_⟩
 show Q6 u many (gI zcL r1) K
 generalize gI zcL r1=t at g2
 obtain ⟨tl,tc⟩:=zjW t g2
 have tL:t.1.length≤sizeLine:=by rw [qM]; omega
 refine ⟨tL,Zz (by rw [zcK]; omega) (by rw [zcK]; omega) fun i i0 i1=>Zz (by decide) (by decide) fun st s0 s1=>Zz (by decide) (by decide) fun r4 a4 b4=>?_⟩
 rw [zcK] at i1
 have i1:i≤(sCs t).length:=by omega
 obtain ⟨g3,g4⟩:=zax (l:=[(1:Int),(3:Int),(5:Int),(7:Int),(9:Int),(11:Int)]) a4 b4
 refine ⟨g3,?_⟩
 show Q5 many t i st (gI [(1:Int),(3:Int),(5:Int),(7:Int),(9:Int),(11:Int)] r4) K
 generalize gI [(1:Int),(3:Int),(5:Int),(7:Int),(9:Int),(11:Int)] r4=b at g4
 have bb:0≤b∧b≤11:=by
  simp only [List.mem_cons,List.not_mem_nil,or_false] at g4
  omega
 refine ⟨by omega,Jc (fun pre s=>s=pre.map fun k=>zdq t i ((st+b * k) % 26)) rfl (fun pre k suf s nx bk el hI hn _=>?_) (fun s hI=>q s ?_)⟩
 ·have mk:k∈ZK 0 many:=by rw [el]; simp
  obtain ⟨k0,k1⟩:=zhB.mp mk
  have ell:=congrArg List.length el
  rw [zlD,List.length_append,List.length_cons] at ell
  have z0:0≤(st+b * k) % 26:=Int.emod_nonneg _ (by decide)
  have z1:(st+b * k) % 26 < 26:=Int.emod_lt_of_pos _ (by decide)
  have c1:(Qg t none (some i)).1.length≤7:=by rw [qM,zmf i0 i1,List.length_take]; omega
  have c2:(Qg t (some i) none).1.length≤7:=by rw [qM,zmg i0 i1,List.length_drop]; omega
  have c3:(sAt abc ((st+b * k) % 26)).1.length=1:=by rw [qM,(zk1 z0 (by rw [ze0]; omega)).2]; rfl
  refine ⟨ztF (by omega) (by omega),by decide,⟨by rw [qM]; show (sCs abc).length≤_; rw [ze0]; omega,(zk1 (s:=abc) z0 (by rw [ze0]; omega)).1⟩,tL,?_,tL,?_,?_,hn _ ?_⟩
  ·show (Qg t none (some i)).1.length+(sAt abc ((st+b * k) % 26)).1.length≤_
   omega
  ·show (zbX (Qg t none (some i)) (sAt abc ((st+b * k) % 26))).1.length+(Qg t (some i) none).1.length≤_
   rw [zqZ]; omega
  ·rw [hI,List.length_map]; omega
  ·rw [hI,List.map_append]; rfl
 ·rw [hI]
  refine ⟨by rw [List.length_map,zlD]; omega,?_,fun s hs=>?_⟩
  ·refine zb6 (fun x hx y hy e=>?_) zk2
   obtain ⟨x0,x1⟩:=zhB.mp hx
   obtain ⟨y0,y1⟩:=zhB.mp hy
   exact zsO g4 (by omega) (by omega) (zsP i0 i1 (Int.emod_nonneg _ (by decide)) (Int.emod_lt_of_pos _ (by decide)) (Int.emod_nonneg _ (by decide)) (Int.emod_lt_of_pos _ (by decide)) e)
  ·obtain ⟨k,hk,rfl⟩:=List.mem_map.mp hs
   exact zt9 g2 i0 i1 (Int.emod_nonneg _ (by decide)) (Int.emod_lt_of_pos _ (by decide))
/-- a strict order,total -/
structure Sto {α:Type} (lt:α→α→Bool):Prop where
 irr:∀ a,lt a a=false
 tr:∀ a b c,lt a b=true→lt b c=true→lt a c=true
 tri:∀ a b,lt a b=false→lt b a=false→a=b
theorem Sto.asy {α:Type} {lt:α→α→Bool} (h:Sto lt) {a b:α} (e:lt a b=true):lt b a=false:=by
 cases q:lt b a with
 | false=>rfl
 | true=>
  have:=h.tr a b a e q
  rw [h.irr] at this; cases this
theorem zno:Sto ltI:=⟨fun a=>by simp [ltI],fun a b c=>by simp only [ltI,decide_eq_true_eq]; omega,fun a b=>by simp only [ltI,decide_eq_false_iff_not]; omega⟩
theorem zpE:Sto ltS:=⟨fun a=>PyProof.Rows.strKind.irrefl _,fun a b c=>PyProof.Rows.strKind.trans _ _ _,fun a b h1 h2=>zqu (PyProof.Rows.strKind.total _ _ h1 h2)⟩
section
variable {α β γ:Type} {f:α→α→Bool} {g:β→β→Bool} {h:γ→γ→Bool}
theorem zgc (hf:Sto f) (hg:Sto g):Sto (YB f g):=⟨fun a=>by simp [YB,hf.irr,hg.irr],fun a b c e1 e2=>by
 simp only [YB,Bool.or_eq_true,Bool.and_eq_true,Bool.not_eq_true'] at *
 rcases e1 with e1 | ⟨e1,e1'⟩
 ·rcases e2 with e2 | ⟨e2,e2'⟩
  ·exact .inl (hf.tr _ _ _ e1 e2)
  ·cases q:f b.1 c.1 with
   | true=>exact .inl (hf.tr _ _ _ e1 q)
   | false=>exact .inl (by rw [← hf.tri _ _ q e2]; exact e1)
 ·rcases e2 with e2 | ⟨e2,e2'⟩
  ·cases q:f a.1 b.1 with
   | true=>exact .inl (hf.tr _ _ _ q e2)
   | false=>exact .inl (by rw [hf.tri _ _ q e1]; exact e2)
  ·cases q:f a.1 b.1 with
   | true=>
    cases q2:f b.1 c.1 with
    | true=>exact .inl (hf.tr _ _ _ q q2)
    | false=>exact .inl (by rw [← hf.tri _ _ q2 e2]; exact q)
   | false=>
    have e:=hf.tri _ _ q e1
    exact .inr ⟨by rw [e]; exact e2,hg.tr _ _ _ e1' e2'⟩,fun a b e1 e2=>by
 simp only [YB,Bool.or_eq_false_iff,Bool.and_eq_false_iff,Bool.not_eq_false'] at e1 e2
 have e:=hf.tri _ _ e1.1 e2.1
 refine Prod.ext e (hg.tri _ _ ?_ ?_)
 ·rcases e1.2 with z | z
  ·rw [e2.1] at z; cases z
  ·exact z
 ·rcases e2.2 with z | z
  ·rw [e1.1] at z; cases z
  ·exact z⟩
theorem zua (hf:Sto f) (hg:Sto g) (hh:Sto h):Sto (zoB f g h):=by
 have:zoB f g h=YB f (YB g h):=by funext x y; rfl
 rw [this]
 exact zgc hf (zgc hg hh)
theorem zuF (hf:Sto f):Sto (ltL f):=by
 refine ⟨fun a=>?_,fun a=>?_,fun a=>?_⟩
 ·induction a with
  | nil=>rfl
  | cons x a ih=>simp [ltL,hf.irr,ih]
 ·induction a with
  | nil=>intro b c e1 e2; cases b <;> cases c <;> simp_all [ltL]
  | cons x a ih=>
   intro b c e1 e2
   cases b with
   | nil=>simp [ltL] at e1
   | cons y b=>
    cases c with
    | nil=>simp [ltL] at e2
    | cons z c=>
     have t:=(zgc hf (⟨fun _=>rfl,fun _ _ _ h _=>h,fun a b _ _=>rfl⟩:Sto (fun (_ _:Unit)=>false))).tr
     simp only [ltL,Bool.or_eq_true,Bool.and_eq_true,Bool.not_eq_true'] at *
     rcases e1 with e1 | ⟨e1,e1'⟩
     ·rcases e2 with e2 | ⟨e2,e2'⟩
      ·exact .inl (hf.tr _ _ _ e1 e2)
      ·cases q:f y z with
       | true=>exact .inl (hf.tr _ _ _ e1 q)
       | false=>exact .inl (by rw [← hf.tri _ _ q e2]; exact e1)
     ·rcases e2 with e2 | ⟨e2,e2'⟩
      ·cases q:f x y with
       | true=>exact .inl (hf.tr _ _ _ q e2)
       | false=>exact .inl (by rw [hf.tri _ _ q e1]; exact e2)
      ·cases q:f x y with
       | true=>
        cases q2:f y z with
        | true=>exact .inl (hf.tr _ _ _ q q2)
        | false=>exact .inl (by rw [← hf.tri _ _ q2 e2]; exact q)
       | false=>
        have e:=hf.tri _ _ q e1
        exact .inr ⟨by rw [e]; exact e2,ih _ _ e1' e2'⟩
 ·induction a with
  | nil=>intro b e1 e2; cases b <;> simp_all [ltL]
  | cons x a ih=>
   intro b e1 e2
   cases b with
   | nil=>simp [ltL] at e2
   | cons y b=>
    simp only [ltL,Bool.or_eq_false_iff,Bool.and_eq_false_iff,Bool.not_eq_false'] at e1 e2
    have e:=hf.tri _ _ e1.1 e2.1
    rw [e,ih b (e1.2.elim (fun z=>by rw [e2.1] at z; cases z) id) (e2.2.elim (fun z=>by rw [e1.1] at z; cases z) id)]
theorem zid (hf:Sto f):∀ a b c,xU f a b=true→xU f b c=true→xU f a c=true:=fun a b c e1 e2=>by
 simp only [xU,Bool.not_eq_true'] at *
 cases q:f c a with
 | false=>rfl
 | true=>
  cases q2:f a b with
  | true=>rw [hf.tr _ _ _ q q2] at e2; cases e2
  | false=>rw [hf.tri _ _ q2 e1] at q; rw [q] at e2; cases e2
theorem zcM (hf:Sto f):∀ a b,(xU f a b||xU f b a)=true:=fun a b=>by
 simp only [xU,Bool.or_eq_true,Bool.not_eq_true']
 cases q:f b a with
 | false=>exact .inl rfl
 | true=>exact .inr (hf.asy q)
theorem zg8 (hf:Sto f) {a b:α} (e1:xU f a b=true) (e2:xU f b a=true):a=b:=by
 simp only [xU,Bool.not_eq_true'] at *
 exact hf.tri _ _ e2 e1
/-- by keys -/
theorem zsQ {key:β→α} (hf:Sto f):∀ a b c:β,xU f (key a) (key b)=true→xU f (key b) (key c)=true→xU f (key a) (key c)=true:=fun _ _ _=>zid hf _ _ _
theorem zq0 {key:β→α} (hf:Sto f):∀ a b:β,(xU f (key a) (key b)||xU f (key b) (key a))=true:=fun _ _=>zcM hf _ _
/-- sorted by keys of which no two are alike:the one such arrangement -/
theorem zgd {key:β→α} (hf:Sto f) {l m:List β} (inj:∀ x∈l,∀ y∈l,key x=key y→x=y) (p:m.Perm l) (s:m.Pairwise fun a b=>xU f (key a) (key b)=true):l.mergeSort (fun a b=>xU f (key a) (key b))=m:=by
 refine List.Perm.eq_of_pairwise (le:=fun a b=>xU f (key a) (key b)=true) (fun a b ha hb e1 e2=>?_) (List.pairwise_mergeSort (zsQ hf) (zq0 hf) l) s ((List.mergeSort_perm _ _).trans p.symm)
 exact inj a ((List.mergeSort_perm _ _).mem_iff.mp ha) b (p.mem_iff.mp hb) (zg8 hf e1 e2)
theorem zmh (hf:Sto f) (l:List α):(l.mergeSort (xU f)).Pairwise fun a b=>xU f a b=true:=List.pairwise_mergeSort (zid hf) (zcM hf) l
end
theorem zjY {s:OkS} (h:Nm s):s.1.length≤100000:=by
 have:=h.2.1
 rw [zcK] at this
 rw [qM]; omega
theorem znp (w:List Mk) (h:Zb w) (K:List Mk→Prop) (q:K (zq w)):zde w K:=q
theorem zcN (w:List Mk):(zq w).Perm w:=List.mergeSort_perm _ _
theorem Xf (w:List Mk):(zq w).length=w.length:=(zcN w).length_eq
theorem zk3 (a b:Mk) (s:Int) (h:ZD a b s) (K:Int→Prop) (q:K (zV a b s)):zb2 a b s K:=by
 unfold zV at q
 exact ⟨fun e=>by rw [if_pos e] at q; exact q,fun e=>by rw [if_neg e] at q; exact q⟩
theorem zjZ (a b:Mk) (s:Int) (h:ZW a b s) (K:Int→Prop) (q:K (yS a b s)):zaQ a b s K:=by
 have e:yS a b s=(if (decide ((zhy (a.2.2 - b.2.2)) < s))=true then s else (0:Int)):=by
  unfold yS zV
  simp only [decide_eq_true_eq]
 rw [e] at q; exact q
theorem zj0 {l:List aT1} (h:l≠[]):Qh l∈l:=by
 cases l with
 | nil=>exact absurd rfl h
 | cons x r=>
  show r.foldl _ x∈_
  clear h
  induction r generalizing x with
  | nil=>exact List.mem_cons_self ..
  | cons y r ih=>
   rw [List.foldl_cons]
   by_cases e:zez y x=true
   ·rw [if_pos e]
    exact List.mem_cons_of_mem _ (ih y)
   ·rw [if_neg e]
    rcases List.mem_cons.mp (ih x) with z | z
    ·rw [z]; exact List.mem_cons_self ..
    ·exact List.mem_cons_of_mem _ (List.mem_cons_of_mem _ z)
theorem zie {l:List qP} (h:l≠[]):(l.filter fun c=>decide (c.1=Xi (l.map (·.1)))).map (·.2)≠[]:=by
 have hm:l.map (·.1)≠[]:=fun z=>h (List.map_eq_nil_iff.mp z)
 obtain ⟨c,hc,e⟩:=List.mem_map.mp (za1 hm).1
 intro z
 have:c∈l.filter fun c=>decide (c.1=Xi (l.map (·.1))):=List.mem_filter.mpr ⟨hc,decide_eq_true e⟩
 rw [List.map_eq_nil_iff.mp z] at this
 cases this
theorem zgF (l:List qP) (h:qY l) (K:List qP→Prop) (q:K (zG l)):QX l K:=by
 have h:l.length≤1000:=h
 unfold zG at q
 refine ⟨fun e=>by rw [if_pos e] at q; exact q,fun e=>?_⟩
 rw [if_neg e] at q
 exact ⟨by omega,fun z=>e (List.map_eq_nil_iff.mp z),by omega,zie e,q⟩
theorem znq (l:List qP):(zG l).length≤1:=by
 unfold zG
 split <;> simp
theorem zj1 {l:List qP} {n:Nat} (h:∀ c∈l,c.2.length≤n):∀ c∈zG l,c.2.length≤n:=by
 intro c hc
 unfold zG at hc
 split at hc
 ·cases hc
 ·rename_i e
  rw [List.mem_singleton.mp hc]
  obtain ⟨d,hd,ed⟩:=List.mem_map.mp (zj0 (zie e))
  show (Qh _).length≤n
  rw [← ed]
  exact h d (List.mem_filter.mp hd).1
theorem zge {α:Type} {l:List α} {pre suf:List (Int×α)} {x:Int×α} (h:YJ l=pre++x::suf):x.1=(pre.length:Nat)∧l=pre.map (·.2)++x.2::suf.map (·.2):=by
 have e1:(YJ l)[pre.length]?=some x:=by rw [h]; simp
 have e2:(YJ l).map (·.2)=l:=by
  unfold YJ
  refine List.ext_getElem? fun i=>?_
  rw [List.getElem?_map,List.getElem?_mapIdx]
  cases l[i]? <;> rfl
 refine ⟨?_,by rw [← e2,h]; simp⟩
 unfold YJ at e1
 rw [List.getElem?_mapIdx] at e1
 cases e:l[pre.length]? with
 | none=>rw [e] at e1; cases e1
 | some y=>
  rw [e] at e1
  injection e1 with e1
  rw [← e1]
theorem zq1 {α:Type} {l:List α} {i:Nat} (h:i≤l.length):xY l none (some (i:Int))=l.take i:=by
 unfold xY
 have e:HT.sIx l.length l.length (some (i:Int))=i:=by
  unfold HT.sIx
  simp only [Int.toNat_natCast]
  rw [if_neg (by omega),Nat.min_eq_left h]
 rw [e]
 show (l.drop 0).take (i - 0)=_
 simp
theorem Yz {α:Type} [Inhabited α] {l:List α} {i:Nat} {x:α} (h:l[i]?=some x):(atI l (i:Int)).isSome=true∧gI l (i:Int)=x:=by
 obtain ⟨h1,h2⟩:=List.getElem?_eq_some_iff.mp h
 exact ⟨(zax (by omega) (by omega)).1,(zr7 h1).trans h2⟩
/-- how the chains stand -/
def znr (of:List (Mk×List qP)):Prop:=∀ q∈of,q.2.length≤1∧∀ c∈q.2,c.2.length≤of.length
theorem zns (s:Int) (p:Mk) (a b:List (Mk×List qP)):cands s p (a++b)=cands s p a++cands s p b:=List.flatMap_append
theorem zdr (s:Int) (p:Mk):∀ {of:List (Mk×List qP)},(∀ q∈of,q.2.length≤1)→(cands s p of).length≤2 * of.length
 | [],_=>Nat.le_refl _
 | q::of,h=>by
  have a:=h q (List.mem_cons_self ..)
  have b:=zdr s p (of:=of) fun x hx=>h x (List.mem_cons_of_mem _ hx)
  unfold cands at b ⊢
  rw [List.flatMap_cons,List.length_append,List.length_cons,List.length_cons,List.length_map]
  omega
theorem zj2 {s:Int} {p:Mk} {of:List (Mk×List qP)} (h:znr of):∀ c∈cands s p of,c.2.length≤of.length+1:=by
 intro c hc
 obtain ⟨q,hq,hc⟩:=List.mem_flatMap.mp hc
 have hn:0 < of.length:=List.length_pos_of_mem hq
 rcases List.mem_cons.mp hc with z | z
 ·rw [z]
  show 2≤_
  omega
 ·obtain ⟨d,hd,rfl⟩:=List.mem_map.mp z
  have:=(h q hq).2 d hd
  show (d.2++[p.1]).length≤_
  rw [List.length_append,List.length_singleton]
  omega
theorem zq2 {s:Int} {of:List (Mk×List qP)} {p:Mk} (h:znr of):znr (Kh s of p):=by
 intro q hq
 have el:(Kh s of p).length=of.length+1:=by simp [Kh]
 rw [el]
 rcases List.mem_append.mp hq with z | z
 ·exact ⟨(h q z).1,fun c hc=>Nat.le_succ_of_le ((h q z).2 c hc)⟩
 ·rw [List.mem_singleton.mp z]
  exact ⟨znq _,zj1 (zj2 h)⟩
theorem zcO {s:Int}:∀ (row:List Mk) {of:List (Mk×List qP)},znr of→znr (row.foldl (Kh s) of)∧(row.foldl (Kh s) of).map (·.1)=of.map (·.1)++row
 | [],of,h=>⟨h,by simp⟩
 | p::row,of,h=>by
  obtain ⟨a,b⟩:=zcO (s:=s) row (zq2 (s:=s) (p:=p) h)
  rw [List.foldl_cons]
  exact ⟨a,by rw [b]; simp [Kh]⟩
theorem ch0:znr []:=fun _ z=>nomatch z
theorem zj3 (row:List Mk) (s:Int) (h:ZS row s) (K:List (List qP)→Prop) (q:K (zX row s)):zaE row s K:=by
 have h:row.length≤8:=h
 refine Jc (fun pre (f:List (List qP))=>f=((pre.map (·.2)).foldl (Kh s) []).map (·.2)) rfl (fun pre x suf f nx bk el hI hn _=>?_) (fun f hI=>?_)
 ·obtain ⟨ex,er⟩:=zge el
  obtain ⟨cok,cfst⟩:=zcO (s:=s) (pre.map (·.2)) ch0
  rw [List.map_nil,List.nil_append] at cfst
  generalize ho:(pre.map (·.2)).foldl (Kh s) []=of at hI cok cfst
  have ol:of.length=pre.length:=by
   have:=congrArg List.length cfst
   simpa using this
  have pl:pre.length≤8:=by
   have:=congrArg List.length er
   simp only [List.length_append,List.length_map,List.length_cons] at this
   omega
  have ecut:xY row none (some x.1)=of.map (·.1):=by
   rw [ex,zq1 (by rw [er]; simp),cfst]
   conv=>lhs; rw [er]
   rw [List.take_append_of_le_length (by rw [List.length_map]; exact Nat.le_refl _)]
   exact List.take_of_length_le (by rw [List.length_map]; exact Nat.le_refl _)
  show zaw _ _ (YJ (xY row none (some x.1))) ([]:List qP)
  rw [ecut]
  refine Jc (fun pre2 (b:List qP)=>b=cands s x.2 (of.take pre2.length)) rfl (fun pre2 y suf2 b nx2 bk2 el2 hI2 hn2 _=>?_) (fun b hI2=>?_)
  ·obtain ⟨ey,er2⟩:=zge el2
   have p2:pre2.length < of.length:=by
    have:=congrArg List.length er2
    simp only [List.length_append,List.length_map,List.length_cons] at this
    omega
   have eq:of[pre2.length]?=some of[pre2.length]:=List.getElem?_eq_getElem p2
   generalize of[pre2.length]=z at eq
   have ez:z.1=y.2:=by
    have:(of.map (·.1))[pre2.length]?=some y.2:=by rw [er2]; simp
    rw [List.getElem?_map,eq] at this
    injection this
   have ef:f[pre2.length]?=some z.2:=by rw [hI,List.getElem?_map,eq]; rfl
   obtain ⟨g1,g2⟩:=Yz ef
   have hz:=cok z (List.mem_of_getElem? eq)
   have tk:of.take (pre2.length+1)=of.take pre2.length++[z]:=by rw [List.take_add_one,eq]; rfl
   have bl:b.length≤2 * pre2.length:=by
    rw [hI2]
    have:=zdr s x.2 (of:=of.take pre2.length) fun q hq=>(cok q (List.mem_of_mem_take hq)).1
    rw [List.length_take] at this
    omega
   refine ⟨trivial,by omega,?_⟩
   rw [ey]
   refine ⟨g1,?_⟩
   rw [g2]
   refine ⟨by omega,fun c hc=>?_,?_,hn2 _ ?_⟩
   ·have:=hz.2 c hc
    have l5:sizeLine=16777216:=sizeLine_eq
    simp only [List.length_singleton]
    omega
   ·rw [List.length_append,List.length_singleton,List.length_map]
    omega
   ·rw [List.length_append,List.length_singleton,tk,zns,← hI2,List.append_assoc]
    congr 1
    show _=[z].flatMap _
    rw [← ez]
    simp [cst]
  ·have el3:(YJ (of.map (·.1))).length=of.length:=by unfold YJ; simp
   rw [el3,List.take_length] at hI2
   have bl:=zdr s x.2 (of:=of) fun q hq=>(cok q hq).1
   refine ⟨?_,?_,hn _ ?_⟩
   ·show b.length≤1000
    rw [hI2]; omega
   ·rw [hI,List.length_map]; omega
   ·rw [hI,hI2,List.map_append,List.foldl_append,ho]
    simp [Kh]
 ·have:(YJ row).map (·.2)=row:=by
   unfold YJ
   refine List.ext_getElem? fun i=>?_
   rw [List.getElem?_map,List.getElem?_mapIdx]
   cases row[i]? <;> rfl
  rw [hI,this]; exact q
theorem zmi {α:Type}:∀ l:List (List α),l.flatMap (fun x=>x)=l.flatten
 | []=>rfl
 | x::l=>by rw [List.flatMap_cons,List.flatten_cons,zmi l]
theorem zcP {α:Type}:∀ l:List (List α),l.flatMap (fun x=>x.map fun y=>y)=l.flatten
 | []=>rfl
 | x::l=>by rw [List.flatMap_cons,List.flatten_cons,zcP l,List.map_id']
theorem zgf:∀ {ls:List (List qP)},(∀ l∈ls,l.length≤1)→ls.flatten.length≤ls.length
 | [],_=>Nat.le_refl _
 | l::ls,h=>by
  have a:=h l (List.mem_cons_self ..)
  have b:=zgf (ls:=ls) fun x hx=>h x (List.mem_cons_of_mem _ hx)
  rw [List.flatten_cons,List.length_append,List.length_cons]; omega
theorem zk4 (row:List Mk) (s:Int):(zX row s).length=row.length:=by
 obtain ⟨_,e⟩:=zcO (s:=s) row ch0
 have:=congrArg List.length e
 unfold zX
 simpa using this
theorem zif (row:List Mk) (s:Int):∀ l∈zX row s,l.length≤1:=fun l hl=>by
 obtain ⟨ok,_⟩:=zcO (s:=s) row ch0
 unfold zX at hl
 obtain ⟨q,hq,rfl⟩:=List.mem_map.mp hl
 exact (ok q hq).1
theorem zgG (w:List Mk) (s:Int) (h:jP w s) (K:Option qP→Prop) (q:K (yw w s)):QZ w s K:=by
 have h:w.length≤8:=h
 have hl:=zgf (zif (zq w) s)
 rw [zk4,Xf] at hl
 refine ⟨trivial,by show (zq w).length≤8; rw [Xf]; exact h,?_,?_,?_⟩
 ·first
   | (rw [zmi]; omega)
   | (rw [zcP]; omega)
 ·show (List.flatMap _ _).length≤1000
  rw [zcP]; omega
 ·rw [zcP]
  unfold yw at q
  generalize zG (zX (zq w) s).flatten=g at q
  cases g with
  | nil=>
   refine ⟨fun e=>?_,fun _=>q,fun e=>?_⟩
   ·cases e
   ·cases e
  | cons c r=>
   have e0:decide (c::r=([]:List qP))=false:=decide_eq_false (fun z=>nomatch z)
   have g0:gI (c::r) (0:Int)=c:=(Yz (l:=c::r) (i:=0) (x:=c) rfl).2
   have a0:(atI (c::r) (0:Int)).isSome=true:=(Yz (l:=c::r) (i:=0) (x:=c) rfl).1
   refine ⟨fun _=>a0,fun e=>?_,fun e=>⟨a0,?_⟩⟩
   ·rw [e0,Bool.false_or,decide_eq_true_eq] at e
    rw [g0] at e
    have q':K (if c.1≤0 then none else some c):=q
    rw [if_pos e] at q'; exact q'
   ·rw [e0,Bool.false_or,decide_eq_false_iff_not] at e
    rw [g0] at e
    have q':K (if c.1≤0 then none else some c):=q
    rw [if_neg e] at q'
    rw [g0]; exact q'
/-- moved -/
def mv (b:Int) (q:Mk×Int):Mk:=(q.1.1,q.1.2.1 - b+q.2,q.1.2.2)
theorem zq3 {w:List Mk} (h:(w.map (·.1)).Nodup):∀ x∈w,∀ y∈w,kyS x=kyS y→x=y:=by
 induction w with
 | nil=>intro x hx; cases hx
 | cons z w ih=>
  rw [List.map_cons,List.nodup_cons] at h
  have e:∀ x y:Mk,kyS x=kyS y→x.1=y.1:=fun x y q=>congrArg Prod.snd q
  intro x hx y hy q
  rcases List.mem_cons.mp hx with a | a
  ·rcases List.mem_cons.mp hy with b | b
   ·rw [a,b]
   ·exact absurd (List.mem_map.mpr ⟨y,b,(e x y q).symm.trans (by rw [a])⟩) h.1
  ·rcases List.mem_cons.mp hy with b | b
   ·exact absurd (List.mem_map.mpr ⟨x,a,(e x y q).trans (by rw [b])⟩) h.1
   ·exact ih h.2 x a y b q
theorem zub {α β γ δ:Type} {f:α→α→Bool} {g:β→β→Bool} {h:γ→γ→Bool} {k:δ→δ→Bool} (hf:Sto f) (hg:Sto g) (hh:Sto h) (hk:Sto k):Sto (zcr f g h k):=by
 have:zcr f g h k=YB f (zoB g h k):=by funext x y; rfl
 rw [this]
 exact zgc hf (zua hg hh hk)
def znt (x:Mk):Int×OkS×Int×Int:=(x.2.1,x)
theorem zj4 {w:List Mk} (hn:(w.map (·.1)).Nodup):(((w.map znt).mergeSort (xU (zcr ltI ltS ltI ltI))).map fun x=>x.2)=zq w:=by
 refine (zgd (zgc zno zpE) (key:=kyS) (zq3 hn) ?_ ?_).symm
 ·have p:(((w.map znt).mergeSort (xU (zcr ltI ltS ltI ltI))).map fun x=>x.2).Perm ((w.map znt).map fun x=>x.2):=(List.mergeSort_perm _ _).map _
  rw [List.map_map] at p
  have e:((fun x:Int×OkS×Int×Int=>x.2) ∘ znt)=id:=by funext x; rfl
  rw [e,List.map_id] at p
  exact p
 ·rw [List.pairwise_map]
  have pw:=zmh (zub zno zpE zno zno) (w.map znt)
  refine pw.imp_of_mem fun {a b} ha hb h=>?_
  have hq:∀ c∈(w.map znt).mergeSort (xU (zcr ltI ltS ltI ltI)),c.1=c.2.2.1:=fun c hc=>by
   obtain ⟨x,_,rfl⟩:=List.mem_map.mp ((List.mergeSort_perm _ _).mem_iff.mp hc)
   rfl
  have h4:zcr ltI ltS ltI ltI b a=false:=by simpa [xU] using h
  show (!YB ltI ltS (kyS b.2) (kyS a.2))=true
  have:YB ltI ltS (kyS b.2) (kyS a.2)=false:=by
   unfold zcr at h4
   unfold YB kyS
   rw [← hq a ha,← hq b hb]
   revert h4
   cases ltI b.1 a.1 <;> cases ltI a.1 b.1 <;> cases ltS b.2.1 a.2.1 <;> simp
  rw [this]; rfl
theorem zig (u:Unit) (folk:List OkS) (h:Ze folk) (K:List Mk→Prop) (q:∀ r,jQ folk r→K r):JC u folk K:=by
 have h:folk.length≤1000:=h
 refine ⟨by decide,by decide,Zz (by decide) (by decide) fun r1 a1 b1=>⟨(zax (l:=[_,_,_,_]) a1 b1).1,Zz (by decide) (by decide) fun r2 a2 b2=>⟨(zax (l:=[_,_,_]) a2 b2).1,?_⟩⟩⟩
 have hw:∀ z∈[(3:Int),8,20],3≤z∧z≤20:=by decide
 obtain ⟨w1,w2⟩:=hw _ (zax (l:=[(3:Int),(8:Int),(20:Int)]) a2 b2).2
 generalize gI [(3:Int),(8:Int),(20:Int)] r2=wide at w1 w2
 refine Jc (fun pre (f:List Mk)=>f.map (·.1)=pre) rfl (fun pre x suf f nx bk el hI hn _=>?_) (fun f hI=>q f hI)
 have el:=congrArg List.length el
 rw [List.length_append,List.length_cons] at el
 have fl:=congrArg List.length hI
 rw [List.length_map] at fl
 refine Zz (by omega) (by omega) fun r4 a4 b4=>Zz (by decide) (by decide) fun r5 a5 b5=>?_
 obtain ⟨g1,g2⟩:=zax (l:=[wide,(6:Int)]) a5 b5
 refine ⟨g1,?_⟩
 have g3:3≤gI [wide,(6:Int)] r5∧gI [wide,(6:Int)] r5≤20:=by
  rcases List.mem_cons.mp g2 with z | z
  ·rw [z]; exact ⟨w1,w2⟩
  ·rw [List.mem_singleton.mp z]; decide
 refine Zz (by omega) (by omega) fun r6 a6 b6=>⟨by omega,hn _ ?_⟩
 rw [List.map_append,hI]; rfl
def ndL (s:Int):Mk→List Mk→Int
 | _,[]=>0
 | o,p::r=>cst s o p+ndL s p r
theorem zgg (s:Int):∀ (r:List Mk) (o:Mk),yC (o::r) s=ndL s o r
 | [],o=>by
  show (0:Int) - (o.2.1 - o.2.1)=0
  omega
 | p::r,o=>by
  have ih:=zgg s r p
  have e1:yC (p::r) s=(((p::r).zip r).map fun q=>zV q.1 q.2 s).sum - ((r.getLastD p).2.1 - p.2.1):=by
   unfold yC
   rw [List.getLastD_cons]; rfl
  have e2:yC (o::p::r) s=(zV o p s+(((p::r).zip r).map fun q=>zV q.1 q.2 s).sum) - ((r.getLastD p).2.1 - o.2.1):=by
   unfold yC
   rw [List.getLastD_cons,List.getLastD_cons]; rfl
  rw [e2]
  rw [e1] at ih
  show _=cst s o p+ndL s p r
  rw [← ih]
  unfold cst
  omega
theorem zgh (s:Int) (p:Mk):∀ (r:List Mk) (o:Mk),ndL s o (r++[p])=ndL s o r+cst s (r.getLastD o) p
 | [],o=>by
  show cst s o p+0=0+cst s o p
  omega
 | q::r,o=>by
  show cst s o q+ndL s q (r++[p])=cst s o q+ndL s q r+cst s ((q::r).getLastD o) p
  rw [zgh s p r q,List.getLastD_cons]
  omega
/-- a chain:part of the row,of two or more -/
def ZF (s:Int) (row:List Mk) (m:Mk) (c:qP):Prop:=∃ o r,(o::r).Sublist row∧r≠[]∧r.getLastD o=m∧c.2=(o::r).map (·.1)∧c.1=ndL s o r
theorem znu {l:List qP}:∀ c∈zG l,c∈l:=by
 intro c hc
 unfold zG at hc
 split at hc
 ·cases hc
 ·rename_i e
  have hc:=List.mem_singleton.mp hc
  obtain ⟨d,hd,ed⟩:=List.mem_map.mp (zj0 (zie e))
  obtain ⟨d1,d2⟩:=List.mem_filter.mp hd
  have:c=d:=by rw [hc]; exact Prod.ext (of_decide_eq_true d2).symm ed.symm
  rw [this]; exact d1
theorem zj5 {s:Int} {p:Mk} {of:List (Mk×List qP)} (h:∀ q∈of,∀ c∈q.2,ZF s (of.map (·.1)) q.1 c):∀ c∈cands s p of,ZF s (of.map (·.1)++[p]) p c:=by
 intro c hc
 obtain ⟨q,hq,hc⟩:=List.mem_flatMap.mp hc
 rcases List.mem_cons.mp hc with z | z
 ·refine ⟨q.1,[p],?_,by simp,rfl,by rw [z]; rfl,by rw [z]; show cst s q.1 p=cst s q.1 p+0; omega⟩
  exact List.Sublist.append (List.singleton_sublist.mpr (List.mem_map.mpr ⟨q,hq,rfl⟩)) (List.Sublist.refl [p])
 ·obtain ⟨d,hd,rfl⟩:=List.mem_map.mp z
  obtain ⟨o,r,h1,h2,h3,h4,h5⟩:=h q hq d hd
  refine ⟨o,r++[p],List.Sublist.append h1 (List.Sublist.refl [p]),by simp,by simp,?_,?_⟩
  ·show d.2++[p.1]=_
   rw [h4,← List.cons_append,List.map_append]; rfl
  ·show d.1+cst s q.1 p=_
   rw [zgh,h3,h5]
theorem zeN (w:List Mk) (h:jj w) (K:List Mk→Prop) (q:K (yN w)):Xk w K:=by
 have h1:w.length≤1000:=h
 exact ⟨by omega,by rw [List.length_mergeSort,List.length_map]; omega,q⟩
theorem zk5 {w:List Mk} (hn:(w.map (·.1)).Nodup):yN w=zq w:=zj4 hn
theorem zpF {row:List Mk} (h:(row.map (·.1)).Nodup):∀ x∈row,∀ y∈row,x.1=y.1→x=y:=by
 induction row with
 | nil=>intro x hx; cases hx
 | cons z row ih=>
  rw [List.map_cons,List.nodup_cons] at h
  intro x hx y hy q
  rcases List.mem_cons.mp hx with a | a
  ·rcases List.mem_cons.mp hy with b | b
   ·rw [a,b]
   ·exact absurd (List.mem_map.mpr ⟨y,b,q.symm.trans (by rw [a])⟩) h.1
  ·rcases List.mem_cons.mp hy with b | b
   ·exact absurd (List.mem_map.mpr ⟨x,a,q.trans (by rw [b])⟩) h.1
   ·exact ih h.2 x a y b q
theorem zj6 {row:List Mk} (nd:(row.map (·.1)).Nodup) {p:Mk} (hp:p∈row):(atI row (((row.map (·.1)).idxOf p.1:Nat):Int)).isSome=true∧gI row (((row.map (·.1)).idxOf p.1:Nat):Int)=p:=by
 have hm:p.1∈row.map (·.1):=List.mem_map.mpr ⟨p,hp,rfl⟩
 have hj:(row.map (·.1)).idxOf p.1 < (row.map (·.1)).length:=List.idxOf_lt_length_iff.mpr hm
 have e:(row.map (·.1))[(row.map (·.1)).idxOf p.1]=p.1:=List.getElem_idxOf hj
 have hj2:(row.map (·.1)).idxOf p.1 < row.length:=by rw [List.length_map] at hj; exact hj
 rw [List.getElem_map] at e
 have same:=zpF nd _ (List.getElem_mem hj2) p hp e
 exact Yz (by rw [List.getElem?_eq_getElem hj2,same])
theorem zpG:∀ {L ns:List OkS},ns.Sublist L→L.Nodup→(ns.map fun n=>((L.idxOf n:Nat):Int)).Pairwise (·< ·):=by
 intro L ns h
 induction h with
 | slnil=>intro _; exact List.Pairwise.nil
 | cons a hs ih=>
  rename_i l1 l2
  intro nd
  rw [List.nodup_cons] at nd
  have ih:=ih nd.2
  rw [List.pairwise_map] at ih ⊢
  refine ih.imp_of_mem fun {x y} hx hy h=>?_
  have nx:∀ z∈l1,(a::l2).idxOf z=l2.idxOf z+1:=fun z hz=>by
   have ne:a≠z:=fun e=>nd.1 (by rw [e]; exact hs.subset hz)
   have nb:(a.1 == z.1)=false:=by
    rw [beq_eq_false_iff_ne]
    exact fun q=>ne (Subtype.ext q)
   simp [List.idxOf_cons,nb]
  rw [nx x hx,nx y hy]; omega
 | cons_cons a hs ih=>
  rename_i l1 l2
  intro nd
  rw [List.nodup_cons] at nd
  have ih:=ih nd.2
  have nx:∀ z∈l1,(a::l2).idxOf z=l2.idxOf z+1:=fun z hz=>by
   have ne:a≠z:=fun e=>nd.1 (by rw [e]; exact hs.subset hz)
   have nb:(a.1 == z.1)=false:=by
    rw [beq_eq_false_iff_ne]
    exact fun q=>ne (Subtype.ext q)
   simp [List.idxOf_cons,nb]
  rw [List.map_cons,List.pairwise_cons]
  refine ⟨fun b hb=>?_,?_⟩
  ·obtain ⟨z,hz,rfl⟩:=List.mem_map.mp hb
   rw [nx z hz,List.idxOf_cons_self]; omega
  ·rw [List.pairwise_map] at ih ⊢
   refine ih.imp_of_mem fun {x y} hx hy h=>?_
   rw [nx x hx,nx y hy]; omega
theorem zgi {w:List Mk} (h:(w.map (·.1)).Nodup):((zq w).map (·.1)).Nodup:=((zcN w).map (·.1)).nodup_iff.mpr h
theorem zsR {α:Type} [DecidableEq α] {l:List α}:(DLm.YC l).length < l.length↔¬l.Nodup:=by
 have p:(DLm.YC l).Perm (zc9 l):=(List.perm_ext_iff_of_nodup (DLm.zkz l) (Jv l)).mpr fun a=>DLm.zoP.trans zay.symm
 rw [p.length_eq]
 exact zlG
theorem zpH {α:Type} {m:Rx α} {K:α→Prop} {KX:Exn→Prop} {a:α} (q:Xy m K KX) (e:m=.ok a):K a:=by rw [e] at q; exact q
theorem zmj {α:Type} {m:Rx α} {K:α→Prop} {KX:Exn→Prop} {x:Exn} (q:Xy m K KX) (e:m=.error x):KX x:=by rw [e] at q; exact q
theorem zpI (w:List Mk):(decide ((w.length:Int) > (8:Int))||(decide (((DLm.YC (w.map (·.1))).length:Int) < ((w.map (·.1)).length:Int))||(!((w.map (·.1)).all fun x=>qX x))))=true↔¬JR w:=by
 have a:=zsR (l:=w.map (·.1))
 have n:((w.map (·.1)).all fun x=>qX x)=decide (∀ p∈w,Nm p.1):=by
  refine Bool.eq_iff_iff.mpr ?_
  rw [List.all_eq_true,decide_eq_true_eq]
  exact ⟨fun h p hp=>of_decide_eq_true (h _ (List.mem_map.mpr ⟨p,hp,rfl⟩)),fun h x hx=>by
   obtain ⟨p,hp,rfl⟩:=List.mem_map.mp hx
   exact decide_eq_true (h p hp)⟩
 rw [n]
 simp only [Bool.or_eq_true,decide_eq_true_eq,Bool.not_eq_true',decide_eq_false_iff_not]
 rw [show (((DLm.YC (w.map (·.1))).length:Int) < ((w.map (·.1)).length:Int))↔_ from (by omega:_↔(DLm.YC (w.map (·.1))).length < (w.map (·.1)).length).trans a]
 rw [show ((w.length:Int) > 8)↔¬w.length≤8 from by omega]
 unfold JR
 generalize (∀ p∈w,Nm p.1)=C
 generalize (w.map (·.1)).Nodup=B
 by_cases h1:w.length≤8 <;> by_cases h2:B <;> by_cases h3:C <;> simp [h1,h2,h3]
theorem zeO (w:List Mk) (h:xq w) (K:Unit→Prop) (KX:Exn→Prop) (q:Xy (xr w) K KX):Ql w K KX:=by
 obtain ⟨h1,h2⟩:=h
 refine ⟨by omega,fun e=>⟨by rw [List.length_map]; have:=of_decide_eq_false e; omega,fun _=>⟨by rw [List.length_map]; omega,fun x hx=>?_⟩⟩,fun e=>?_,fun e=>?_⟩
 ·obtain ⟨p,hp,rfl⟩:=List.mem_map.mp hx
  exact h2 p hp
 ·exact zmj q (if_neg ((zpI w).mp e))
 ·refine zpH q (if_pos (Classical.byContradiction fun z=>?_))
  have:=(zpI w).mpr z
  rw [show (decide ((w.length:Int) > (8:Int))||(decide (((DLm.YC (w.map (·.1))).length:Int) < ((w.map (·.1)).length:Int))||(!((w.map (·.1)).all fun x=>qX x))))=false from e] at this
  cases this
theorem zih (s:Int) (h:qQ s) (K:Unit→Prop) (KX:Exn→Prop) (q:Xy (jk s) K KX):zaD s K KX:=by
 refine ⟨fun e=>?_,fun e=>?_⟩
 ·refine zmj q (if_neg fun z=>?_)
  rw [← Bool.decide_and,decide_eq_false_iff_not] at e
  exact e z
 ·rw [← Bool.decide_and,decide_eq_true_eq] at e
  exact zpH q (if_pos e)
def nmK (a:List OkS):Int×List OkS:=((a.length:Int),a)
abbrev ltK:Int×List OkS→Int×List OkS→Bool:=YB ltI (ltL ltS)
theorem znv:Sto ltK:=zgc zno (zuF zpE)
def LeN (a b:List OkS):Prop:=xU ltK (nmK a) (nmK b)=true
theorem LeN.rf (a:List OkS):LeN a a:=by
 have:=zcM znv (nmK a) (nmK a)
 rwa [Bool.or_self] at this
theorem LeN.tr {a b c:List OkS} (h:LeN a b) (g:LeN b c):LeN a c:=zid znv _ _ _ h g
theorem LeN.anti {a b:List OkS} (h:LeN a b) (g:LeN b a):a=b:=congrArg Prod.snd (zg8 znv h g)
theorem zsS {a b:List OkS} (h:zez a b=false):LeN b a:=by
 show (!ltK (nmK a) (nmK b))=true
 rw [show ltK (nmK a) (nmK b)=false from h]; rfl
theorem zsT {a b:List OkS} (h:zez a b=true):LeN a b:=by
 show (!ltK (nmK b) (nmK a))=true
 rw [znv.asy (show ltK (nmK a) (nmK b)=true from h)]; rfl
theorem zpJ:∀ {l:List aT1},∀ x∈l,LeN (Qh l) x:=by
 intro l
 cases l with
 | nil=>intro x hx; cases hx
 | cons y r=>
  have key:∀ (r:List aT1) (y:List OkS),LeN (r.foldl (fun a z=>if zez z a then z else a) y) y∧∀ x∈r,LeN (r.foldl (fun a z=>if zez z a then z else a) y) x:=by
   intro r
   induction r with
   | nil=>exact fun y=>⟨LeN.rf y,fun _ z=>nomatch z⟩
   | cons z r ih=>
    intro y
    rw [List.foldl_cons]
    by_cases e:zez z y=true
    ·rw [if_pos e]
     obtain ⟨h1,h2⟩:=ih z
     exact ⟨h1.tr (zsT e),fun x hx=>(List.mem_cons.mp hx).elim (fun q=>by rw [q]; exact h1) (h2 x)⟩
    ·rw [if_neg e]
     obtain ⟨h1,h2⟩:=ih y
     exact ⟨h1,fun x hx=>(List.mem_cons.mp hx).elim (fun q=>by rw [q]; exact h1.tr (zsS (by simpa using e))) (h2 x)⟩
  intro x hx
  rcases List.mem_cons.mp hx with q | q
  ·rw [q]; exact (key r y).1
  ·exact (key r y).2 x q
/-- the greatest need,and of such the first names -/
def zgj (p:qP→Prop) (c:qP):Prop:=p c∧∀ d,p d→d.1≤c.1∧(d.1=c.1→LeN c.2 d.2)
/-- whatever is better than all of q is better than all of p -/
theorem zgj.up {p q:qP→Prop} {c:qP} (h:zgj q c) (sub:∀ d,q d→p d) (dom:∀ d,p d→∃ e,q e∧d.1≤e.1∧(d.1=e.1→LeN e.2 d.2)):zgj p c:=
 ⟨sub c h.1,fun d hd=>by
  obtain ⟨e,he,h1,h2⟩:=dom d hd
  obtain ⟨g1,g2⟩:=h.2 e he
  exact ⟨by omega,fun z=>(g2 (by omega)).tr (h2 (by omega))⟩⟩
theorem zgk {l:List qP} (h:l≠[]):∃ c,zG l=[c]∧zgj (·∈l) c:=by
 have hm:l.map (·.1)≠[]:=fun z=>h (List.map_eq_nil_iff.mp z)
 have e:zG l=[(Xi (l.map (·.1)),Qh ((l.filter fun c=>decide (c.1=Xi (l.map (·.1)))).map (·.2)))]:=if_neg h
 refine ⟨_,e,znu _ (by rw [e]; exact List.mem_cons_self ..),fun d hd=>?_⟩
 have le:d.1≤Xi (l.map (·.1)):=(za1 hm).2 _ (List.mem_map.mpr ⟨d,hd,rfl⟩)
 refine ⟨le,fun z=>?_⟩
 exact zpJ _ (List.mem_map.mpr ⟨d,List.mem_filter.mpr ⟨hd,decide_eq_true z⟩,rfl⟩)
theorem zmk {α:Type} {f:α→α→Bool}:∀ {a b:List α} (x:α),a.length=b.length→ltL f (a++[x]) (b++[x])=true→ltL f a b=true∨f x x=true
 | [],[],x,_,h=>by
  refine .inr ?_
  simpa [ltL] using h
 | [],_::_,_,h,_=>nomatch h
 | _::_,[],_,h,_=>nomatch h
 | p::a,q::b,x,hl,h=>by
  have hl:a.length=b.length:=by simpa using hl
  simp only [List.cons_append,ltL,Bool.or_eq_true,Bool.and_eq_true] at h ⊢
  rcases h with h | ⟨h1,h2⟩
  ·exact .inl (.inl h)
  ·rcases zmk x hl h2 with z | z
   ·exact .inl (.inr ⟨h1,z⟩)
   ·exact .inr z
theorem zpK {a b:List OkS} (x:OkS) (h:LeN a b):LeN (a++[x]) (b++[x]):=by
 have h:ltK (nmK b) (nmK a)=false:=by simpa [LeN,xU] using h
 show (!ltK (nmK (b++[x])) (nmK (a++[x])))=true
 cases e:ltK (nmK (b++[x])) (nmK (a++[x])) with
 | false=>rfl
 | true=>
  exfalso
  unfold ltK YB nmK at e h
  simp only [List.length_append,List.length_singleton,ltI,Bool.or_eq_true,Bool.and_eq_true,decide_eq_true_eq,Bool.or_eq_false_iff,decide_eq_false_iff_not,Bool.and_eq_false_iff,Bool.not_eq_true',Bool.not_eq_false'] at e h
  rcases e with e | ⟨e1,e2⟩
  ·exact h.1 (by omega)
  ·have hl:b.length=a.length:=by have:=h.1; omega
   rcases zmk x hl e2 with z | z
   ·rcases h.2 with g | g
    ·omega
    ·rw [g] at z; cases z
   ·rw [zpE.irr] at z; cases z
def znw (s:Int) (row:List Mk) (c:qP):Prop:=∃ m,ZF s row m c
theorem zml (o:Mk) (r:List Mk):(o::r).getLast?=some (r.getLastD o):=by
 rw [List.getLast?_cons,List.getLastD_eq_getLast?]
theorem sub_one {l:List Mk} {p:Mk} (h:l.Sublist [p]):l=[]∨l=[p]:=by
 cases h with
 | cons _ h=>exact .inl (List.sublist_nil.mp h)
 | cons_cons _ h=>exact .inr (by rw [List.sublist_nil.mp h])
theorem zq4 {o p:Mk} {r l1:List Mk} (e:o::r=l1++[p]):r.getLastD o=p:=by
 have h:=zml o r
 rw [e] at h
 simpa using h.symm
theorem zg9 {s:Int} {pre:List Mk} {p q:Mk} {d:qP} (ne:q≠p) (h:ZF s (pre++[p]) q d):ZF s pre q d:=by
 obtain ⟨o,r,h1,h2,h3,h4⟩:=h
 obtain ⟨l1,l2,e,s1,s2⟩:=List.sublist_append_iff.mp h1
 refine ⟨o,r,?_,h2,h3,h4⟩
 rcases sub_one s2 with z | z
 ·rw [z,List.append_nil] at e
  rw [e]; exact s1
 ·rw [z] at e
  exact absurd (h3.symm.trans (zq4 e)) ne
theorem zk6 {s:Int} {pre:List Mk} {p q:Mk} {d:qP} (h:ZF s pre q d):ZF s (pre++[p]) q d:=by
 obtain ⟨o,r,h1,h2⟩:=h
 exact ⟨o,r,h1.trans (List.sublist_append_left _ _),h2⟩
theorem znx {s:Int} {pre:List Mk} {p:Mk} {d:qP} (np:p∉pre) (h:ZF s (pre++[p]) p d):∃ o r,(o::r).Sublist pre∧d=(ndL s o r+cst s (r.getLastD o) p,(o::r).map (·.1)++[p.1]):=by
 obtain ⟨o,r,h1,h2,h3,h4,h5⟩:=h
 obtain ⟨l1,l2,e,s1,s2⟩:=List.sublist_append_iff.mp h1
 rcases sub_one s2 with z | z
 ·rw [z,List.append_nil] at e
  refine absurd ?_ np
  have:p∈o::r:=by
   rw [← h3]
   have h:=zml o r
   exact List.mem_of_getLast? h
  exact (e ▸ s1).subset this
 ·rw [z] at e
  cases l1 with
  | nil=>
   rw [List.nil_append] at e
   injection e with _ e
   exact absurd e h2
  | cons a l1=>
   rw [List.cons_append] at e
   injection e with e1 e2
   subst e1
   subst e2
   refine ⟨_,_,s1,Prod.ext ?_ ?_⟩
   ·rw [h5,zgh]
   ·rw [h4,← List.cons_append,List.map_append]; rfl
def zb7 (s:Int) (f:List (Mk×List qP)):Prop:=∀ q∈f,(q.2=[]∧∀ d,¬ZF s (f.map (·.1)) q.1 d)∨∃ c,q.2=[c]∧zgj (ZF s (f.map (·.1)) q.1) c
theorem zb7.all {s:Int} {f:List (Mk×List qP)} (h:zb7 s f):∀ q∈f,∀ c∈q.2,ZF s (f.map (·.1)) q.1 c:=fun q hq c hc=>by
 rcases h q hq with ⟨e,_⟩ | ⟨b,e,g⟩
 ·rw [e] at hc; cases hc
 ·rw [e] at hc
  rw [List.mem_singleton.mp hc]; exact g.1
theorem zny {s:Int} {p:Mk} {f:List (Mk×List qP)} (h:zb7 s f) (np:p∉f.map (·.1)):∀ d,ZF s (f.map (·.1)++[p]) p d→∃ e,e∈cands s p f∧d.1≤e.1∧(d.1=e.1→LeN e.2 d.2):=by
 intro d hd
 obtain ⟨o,r,h1,rfl⟩:=znx np hd
 have hm:r.getLastD o∈f.map (·.1):=h1.subset (List.mem_of_getLast? (zml o r))
 obtain ⟨q,hq,eq⟩:=List.mem_map.mp hm
 by_cases hr:r=[]
 ·subst hr
  refine ⟨(cst s q.1 p,[q.1.1,p.1]),List.mem_flatMap.mpr ⟨q,hq,List.mem_cons_self ..⟩,?_,fun _=>?_⟩
  ·rw [eq]
   show 0+cst s o p≤cst s o p
   omega
  ·rw [eq]; exact LeN.rf _
 ·have ch:ZF s (f.map (·.1)) q.1 (ndL s o r,(o::r).map (·.1)):=⟨o,r,h1,hr,eq.symm,rfl,rfl⟩
  rcases h q hq with ⟨_,g⟩ | ⟨c,e,g⟩
  ·exact absurd ch (g _)
  ·obtain ⟨g1,g2⟩:=g.2 _ ch
   refine ⟨(c.1+cst s q.1 p,c.2++[p.1]),List.mem_flatMap.mpr ⟨q,hq,List.mem_cons_of_mem _ (List.mem_map.mpr ⟨c,by rw [e]; exact List.mem_cons_self ..,rfl⟩)⟩,?_,fun z=>?_⟩
   ·rw [eq]
    show ndL s o r+_≤c.1+_
    have g1:ndL s o r≤c.1:=g1
    omega
   ·rw [eq] at z
    have z:ndL s o r+cst s (r.getLastD o) p=c.1+cst s (r.getLastD o) p:=z
    exact zpK p.1 (g2 (show ndL s o r=c.1 by omega))
theorem zq5 {s:Int} {p:Mk} {f:List (Mk×List qP)} (h:zb7 s f) (np:p∉f.map (·.1)):zb7 s (Kh s f p):=by
 have e:(Kh s f p).map (·.1)=f.map (·.1)++[p]:=by simp [Kh]
 intro q hq
 rw [e]
 rcases List.mem_append.mp hq with z | z
 ·have ne:q.1≠p:=fun w=>np (by rw [← w]; exact List.mem_map.mpr ⟨q,z,rfl⟩)
  rcases h q z with ⟨e1,g⟩ | ⟨c,e1,g⟩
  ·exact .inl ⟨e1,fun d hd=>g d (zg9 ne hd)⟩
  ·exact .inr ⟨c,e1,g.up (fun d=>zk6) fun d hd=>⟨d,zg9 ne hd,Int.le_refl _,fun _=>LeN.rf _⟩⟩
 ·rw [List.mem_singleton.mp z]
  have dom:=zny h np
  by_cases ec:cands s p f=[]
  ·refine .inl ⟨by show zG (cands s p f)=[]; rw [ec]; rfl,fun d hd=>?_⟩
   obtain ⟨e,he,_⟩:=dom d hd
   rw [ec] at he; cases he
  ·obtain ⟨c,e1,g⟩:=zgk ec
   exact .inr ⟨c,e1,g.up (fun d hd=>zj5 h.all d hd) dom⟩
theorem zj7 {s:Int}:∀ (row:List Mk) (f:List (Mk×List qP)),zb7 s f→(f.map (·.1)++row).Nodup→zb7 s (row.foldl (Kh s) f)∧(row.foldl (Kh s) f).map (·.1)=f.map (·.1)++row
 | [],f,h,_=>⟨h,by simp⟩
 | p::row,f,h,nd=>by
  have e:(Kh s f p).map (·.1)=f.map (·.1)++[p]:=by simp [Kh]
  have np:p∉f.map (·.1):=fun z=>(List.nodup_append.mp nd).2.2 _ z _ (List.mem_cons_self ..) rfl
  obtain ⟨g1,g2⟩:=zj7 row (Kh s f p) (zq5 h np) (by rw [e,List.append_assoc]; exact nd)
  exact ⟨g1,by rw [List.foldl_cons,g2,e,List.append_assoc]; rfl⟩
/-- of all chains the best one is told -/
theorem znz {s:Int} {row:List Mk} (nd:row.Nodup):(zG (zX row s).flatten=[]∧∀ d,¬znw s row d)∨∃ c,zG (zX row s).flatten=[c]∧zgj (znw s row) c:=by
 obtain ⟨g1,g2⟩:=zj7 (s:=s) row [] (fun _ z=>nomatch z) (by simpa using nd)
 rw [List.map_nil,List.nil_append] at g2
 have dom:∀ d,znw s row d→∃ e,e∈(zX row s).flatten∧d.1≤e.1∧(d.1=e.1→LeN e.2 d.2):=by
  rintro d ⟨m,hd⟩
  have hm:m∈row:=by
   obtain ⟨o,r,h1,_,h3,_⟩:=hd
   rw [← h3]
   exact h1.subset (List.mem_of_getLast? (zml o r))
  rw [← g2] at hm
  obtain ⟨q,hq,rfl⟩:=List.mem_map.mp hm
  rcases g1 q hq with ⟨_,g⟩ | ⟨c,e1,g⟩
  ·rw [g2] at g
   exact absurd hd (g d)
  ·rw [g2] at g
   exact ⟨c,List.mem_flatten.mpr ⟨q.2,List.mem_map.mpr ⟨q,hq,rfl⟩,by rw [e1]; exact List.mem_cons_self ..⟩,g.2 d hd⟩
 by_cases ec:(zX row s).flatten=[]
 ·refine .inl ⟨by rw [ec]; rfl,fun d hd=>?_⟩
  obtain ⟨e,he,_⟩:=dom d hd
  rw [ec] at he; cases he
 ·obtain ⟨c,e1,g⟩:=zgk ec
  refine .inr ⟨c,e1,g.up (fun d hd=>?_) dom⟩
  obtain ⟨l,hl,hd⟩:=List.mem_flatten.mp hd
  obtain ⟨q,hq,rfl⟩:=List.mem_map.mp hl
  have:=g1.all q hq d hd
  rw [g2] at this
  exact ⟨_,this⟩
theorem zgl {w:List Mk} {s:Int} (nd:(zq w).Nodup):(xg w s=none∧∀ d,znw s (zq w) d→d.1≤0)∨∃ c,xg w s=some c.2∧0 < c.1∧zgj (znw s (zq w)) c:=by
 unfold xg yw
 rcases znz (s:=s) nd with ⟨e,h⟩ | ⟨c,e,h⟩
 ·rw [e]
  exact .inl ⟨rfl,fun d hd=>absurd hd (h d)⟩
 ·rw [e]
  by_cases z:c.1≤0
  ·refine .inl ⟨by show (if c.1≤0 then none else some c).map _=_; rw [if_pos z]; rfl,fun d hd=>?_⟩
   have:=(h.2 d hd).1
   omega
  ·exact .inr ⟨c,by show (if c.1≤0 then none else some c).map _=_; rw [if_neg z]; rfl,by omega,h⟩
theorem zmm:∀ (l:List Mk) (f:List (List Mk)) (c:List Mk),c∈l.foldl (fun f r=>f++f.map fun c=>c++[r]) f↔∃ a∈f,∃ b,b.Sublist l∧c=a++b
 | [],f,c=>by
  rw [List.foldl_nil]
  exact ⟨fun h=>⟨c,h,[],List.Sublist.refl _,by simp⟩,fun ⟨a,ha,b,hb,e⟩=>by
   rw [List.sublist_nil.mp hb,List.append_nil] at e
   rw [e]; exact ha⟩
 | x::l,f,c=>by
  rw [List.foldl_cons,zmm l]
  constructor
  ·rintro ⟨a,ha,b,hb,rfl⟩
   rcases List.mem_append.mp ha with z | z
   ·exact ⟨a,z,b,hb.trans (List.sublist_cons_self _ _),rfl⟩
   ·obtain ⟨a',ha',rfl⟩:=List.mem_map.mp z
    exact ⟨a',ha',x::b,hb.cons_cons x,by rw [List.append_assoc]; rfl⟩
  ·rintro ⟨a,ha,b,hb,rfl⟩
   cases hb with
   | cons _ hb=>exact ⟨a,List.mem_append_left _ ha,b,hb,rfl⟩
   | cons_cons _ hb=>
    rename_i b
    exact ⟨a++[x],List.mem_append_right _ (List.mem_map.mpr ⟨a,ha,rfl⟩),b,hb,by rw [List.append_assoc]; rfl⟩
theorem zj8 {l c:List Mk}:c∈subs l↔c.Sublist l:=by
 unfold subs
 rw [zmm]
 exact ⟨fun ⟨a,ha,b,hb,e⟩=>by rw [e,List.mem_singleton.mp ha]; exact hb,fun h=>⟨[],List.mem_cons_self ..,c,h,rfl⟩⟩
theorem zj9:∀ (l:List Mk) (f:List (List Mk)),(l.foldl (fun f r=>f++f.map fun c=>c++[r]) f).length=2 ^ l.length * f.length
 | [],f=>by simp
 | x::l,f=>by
  rw [List.foldl_cons,zj9 l,List.length_append,List.length_map,List.length_cons,Nat.pow_succ,Nat.mul_assoc]
  congr 1
  omega
theorem zii {l:List Mk} (h:l.length≤8):(subs l).length≤256:=by
 have e:(subs l).length=2 ^ l.length * 1:=zj9 l [[]]
 rw [e,Nat.mul_one]
 exact Nat.pow_le_pow_right (by decide) h
theorem zrC {o:Mk} {r:List Mk}:(atI (o::r) (-(1:Int))).isSome=true∧gI (o::r) (-(1:Int))=(o::r).getLastD default:=by
 have e:atI (o::r) (-(1:Int))=some (r.getLastD o):=by
  have i:ixN (o::r).length (-(1:Int))=some r.length:=by
   unfold ixN
   rw [if_neg (by decide),List.length_cons,if_pos (by omega)]
   congr 1; omega
  unfold atI
  rw [i]
  show (o::r)[r.length]?=_
  have:=List.getLast?_eq_getElem? (l:=o::r)
  rw [List.length_cons,Nat.add_sub_cancel] at this
  rw [← this,List.getLast?_cons,List.getLastD_eq_getLast?]
 exact ⟨by rw [e]; rfl,by unfold gI; rw [e,List.getLastD_cons]; rfl⟩
theorem znA (row:List Mk) (s:Int) (h:Xb row s) (K:Int→Prop) (q:K (yC row s)):zdf row s K:=by
 obtain ⟨h1,h2⟩:=h
 cases row with
 | nil=>exact absurd rfl h1
 | cons o r=>
  have rl:(ZK 0 (((o::r).length:Int) - (1:Int))).length=r.length:=by
   unfold ZK
   rw [List.length_map,List.length_range,List.length_cons]
   omega
  have rm:∀ x∈ZK 0 (((o::r).length:Int) - (1:Int)),∃ i:Nat,x=i∧i < r.length:=fun x hx=>by
   unfold ZK at hx
   obtain ⟨i,hi,rfl⟩:=List.mem_map.mp hx
   rw [List.mem_range,List.length_cons] at hi
   exact ⟨i,by omega,by omega⟩
  obtain ⟨g1,g2⟩:=zrC (o:=o) (r:=r)
  have g0:=Yz (l:=o::r) (i:=0) (x:=o) rfl
  have lr:r.length≤1000:=by rw [List.length_cons] at h2; omega
  refine ⟨by rw [List.length_cons]; omega,by omega,fun x hx=>?_,g1,g0.1,?_⟩
  ·obtain ⟨i,rfl,hi⟩:=rm x hx
   exact ⟨(Yz (l:=o::r) (i:=i) (List.getElem?_eq_getElem (by rw [List.length_cons]; omega))).1,(Yz (l:=o::r) (i:=i+1) (List.getElem?_eq_getElem (by rw [List.length_cons]; omega))).1,trivial⟩
  ·have e:((ZK 0 (((o::r).length:Int) - (1:Int))).map fun x1=>zV (gI (o::r) x1) (gI (o::r) (x1+(1:Int))) s)=((o::r).zip r).map fun p=>zV p.1 p.2 s:=by
    refine List.ext_getElem (by rw [List.length_map,List.length_map,rl,List.length_zip,List.length_cons]; omega) fun i i1 i2=>?_
    rw [List.length_map,rl] at i1
    rw [List.getElem_map,List.getElem_map,List.getElem_zip]
    have er:(ZK 0 (((o::r).length:Int) - (1:Int)))[i]'(by rw [rl]; exact i1)=((i:Nat):Int):=by
     unfold ZK
     rw [List.getElem_map,List.getElem_range]; omega
    rw [er]
    rw [(Yz (l:=o::r) (i:=i) (List.getElem?_eq_getElem (by rw [List.length_cons]; omega))).2]
    have:=(Yz (l:=o::r) (i:=i+1) (List.getElem?_eq_getElem (by rw [List.length_cons]; omega))).2
    rw [show (((i+1:Nat):Int))=(i:Int)+1 by omega] at this
    rw [this]; rfl
   show K ((((ZK 0 (((o::r).length:Int) - (1:Int))).map fun x1=>zV (gI (o::r) x1) (gI (o::r) (x1+(1:Int))) s)).sum - ((gI (o::r) (-(1:Int))).2.1 - (gI (o::r) (0:Int)).2.1))
   have g02:gI (o::r) (0:Int)=o:=g0.2
   rw [e,g2,g02]
   exact q
theorem zka {α:Type}:∀ (r:List α) (o:α),(o::r).dropLast.zip r=(o::r).zip r
 | [],_=>rfl
 | p::r,o=>by
  show (o,p)::(p::r).dropLast.zip r=(o,p)::(p::r).zip r
  rw [zka r p]
theorem zpL {α:Type} {l:List α}:xY l none (some (-(1:Int)))=l.dropLast:=by
 have e:HT.sIx l.length l.length (some (-(1:Int)))=l.length - 1:=by
  show (if (-(1:Int)) < 0 then (-(1:Int)+(l.length:Int)).toNat else min (-(1:Int)).toNat l.length)=_
  rw [if_pos (by decide)]; omega
 unfold xY
 rw [e,HT.sIx_none,List.drop_zero,Nat.sub_zero,List.dropLast_eq_take]
theorem zq6 {α:Type} {o:α} {r:List α}:xY (o::r) (some (1:Int)) none=r:=by
 unfold xY
 have e:HT.sIx (o::r).length 0 (some (1:Int))=1:=by
  show (if (1:Int) < 0 then ((1:Int)+((o::r).length:Int)).toNat else min (1:Int).toNat (o::r).length)=1
  rw [if_neg (by decide),List.length_cons]
  show min 1 (r.length+1)=1
  omega
 have e2:HT.sIx (o::r).length (o::r).length none=(o::r).length:=rfl
 rw [e,e2,List.length_cons,Nat.add_sub_cancel]
 exact List.take_of_length_le (Nat.le_refl _)
theorem zcQ (row:List Mk) (s:Int) (h:qF row s) (K:Int→Prop) (q:K (zY row s)):Yy row s K:=by
 obtain ⟨h1,h2⟩:=h
 cases row with
 | nil=>exact absurd rfl h1
 | cons o r=>
  obtain ⟨g1,g2⟩:=zrC (o:=o) (r:=r)
  have g0:=Yz (l:=o::r) (i:=0) (x:=o) rfl
  have g02:gI (o::r) (0:Int)=o:=g0.2
  have lr:r.length≤1000:=by rw [List.length_cons] at h2; omega
  show _∧_∧_∧_∧K _
  rw [zpL,zq6,zka,g2,g02]
  exact ⟨by rw [List.length_zip]; omega,fun _ _=>trivial,g1,g0.1,q⟩
theorem zmn:∀ {L ns:List OkS},L.Nodup→(∀ x∈ns,x∈L)→(ns.map fun n=>((L.idxOf n:Nat):Int)).Pairwise (·< ·)→ns.Sublist L
 | [],ns,_,sub,_=>by
  cases ns with
  | nil=>exact List.Sublist.refl _
  | cons n r=>exact nomatch sub n (List.mem_cons_self ..)
 | a::L,ns,nd,sub,pw=>by
  rw [List.nodup_cons] at nd
  have nx:∀ z:OkS,z≠a→(a::L).idxOf z=L.idxOf z+1:=fun z hz=>by
   have nb:(a.1 == z.1)=false:=by
    rw [beq_eq_false_iff_ne]
    exact fun q=>hz (Subtype.ext q.symm)
   simp [List.idxOf_cons,nb]
  have go:∀ r:List OkS,(∀ x∈r,x≠a∧x∈a::L)→(r.map fun n=>(((a::L).idxOf n:Nat):Int)).Pairwise (·< ·)→r.Sublist L:=fun r hr h=>by
   refine zmn nd.2 (fun x hx=>(List.mem_cons.mp (hr x hx).2).resolve_left (hr x hx).1) ?_
   rw [List.pairwise_map] at h ⊢
   refine h.imp_of_mem fun {x y} hx hy h=>?_
   rw [nx x (hr x hx).1,nx y (hr y hy).1] at h
   omega
  cases ns with
  | nil=>exact List.nil_sublist _
  | cons n r=>
   rw [List.map_cons,List.pairwise_cons] at pw
   have big:∀ x∈r,x≠a:=fun x hx e=>by
    have:=pw.1 _ (List.mem_map.mpr ⟨x,hx,rfl⟩)
    rw [e,List.idxOf_cons_self] at this
    omega
   by_cases e:n=a
   ·subst e
    exact (go r (fun x hx=>⟨big x hx,sub x (List.mem_cons_of_mem _ hx)⟩) pw.2).cons_cons n
   ·refine (go (n::r) (fun x hx=>?_) (by rw [List.map_cons,List.pairwise_cons]; exact pw)).cons a
    rcases List.mem_cons.mp hx with z | z
    ·rw [z]; exact ⟨e,sub n (List.mem_cons_self ..)⟩
    ·exact ⟨big x z,sub x (List.mem_cons_of_mem _ z)⟩
theorem zq7 (w:List Mk) (ns:List OkS) (s:Int) (h:Ym w ns s) (K:Int→Prop) (KX:Exn→Prop) (q:Xy (QC w ns s) K KX):zkV w ns s K KX:=by
 obtain ⟨g,s18,hl⟩:=h
 have ol:(zq w).length≤8:=by rw [Xf]; exact g.1
 have nd:=zgi g.2.1
 refine ⟨⟨by have:=g.1; omega,fun p hp=>zjY (g.2.2 p hp)⟩,?_⟩
 rw [show xr w=.ok () from if_pos g]
 refine ⟨trivial,by omega,fun _=>by omega,fun e=>?_,fun e=>?_⟩
 ·refine zmj q (if_neg fun z=>?_)
  obtain ⟨z1,z2⟩:=z
  have all:(ns.all fun x2=>decide (x2∈(zq w).map (·.1)))=true:=List.all_eq_true.mpr fun x hx=>decide_eq_true (z2.subset hx)
  have e:(decide ((ns.length:Int) < 2)||(!(ns.all fun x2=>decide (x2∈(zq w).map (·.1)))))=true:=e
  rw [all,decide_eq_false (by omega)] at e
  cases e
 ·have e:(decide ((ns.length:Int) < 2)||(!(ns.all fun x2=>decide (x2∈(zq w).map (·.1)))))=false:=e
  rw [Bool.or_eq_false_iff,decide_eq_false_iff_not,Bool.not_eq_false',List.all_eq_true] at e
  have sub:∀ x∈ns,x∈(zq w).map (·.1):=fun x hx=>of_decide_eq_true (e.2 x hx)
  refine ⟨by omega,sub,by rw [List.length_map]; omega,fun z=>?_,fun z=>?_⟩
  ·refine zmj q (if_neg fun y=>z ?_)
   exact (zlU (zpG y.2 nd) fun p=>Iff.rfl).symm
  ·have pw:=zhQ (ns.map fun n=>((((zq w).map (·.1)).idxOf n:Nat):Int))
   rw [z] at pw
   have h5:ns.Sublist ((zq w).map (·.1)):=zmn nd sub pw
   have ok:OkN w ns:=⟨by have:=e.1; omega,h5⟩
   have q:=zpH q (if_pos ok)
   refine ⟨trivial,?_⟩
   rw [show jk s=.ok () from if_pos s18]
   refine ⟨trivial,by rw [List.length_map]; omega,fun x hx=>?_,⟨fun z=>?_,by rw [List.length_map,List.length_map]; omega⟩,?_⟩
   ·obtain ⟨n,hn,rfl⟩:=List.mem_map.mp hx
    obtain ⟨p,hp,e⟩:=List.mem_map.mp (sub n hn)
    have:=(zj6 nd hp).1
    rw [e] at this
    exact this
   ·have:=congrArg List.length z
    have:=ok.1
    rw [List.length_map,List.length_map,List.length_nil] at *
    omega
   ·show K (yC (List.map _ (List.map _ ns)) s)
    rw [List.map_map]
    exact q
theorem zeP (w:List Mk) (h:jy w):xq w∧xr w=.ok (Yv w):=
 ⟨⟨by have:=(show JR w from h).1; omega,fun p hp=>zjY ((show JR w from h).2.2 p hp)⟩,if_pos h⟩
theorem zij (s:Int) (h:ZR s):qQ s∧jk s=.ok (Qz s):=⟨trivial,if_pos h⟩
theorem zq8 (w:List Mk) (ns:List OkS) (s:Int) (h:zaB w ns s):Ym w ns s∧QC w ns s=.ok (Zf w ns s):=by
 obtain ⟨h1,h2,h3,h4⟩:=h
 refine ⟨⟨h1,⟨h2,h3⟩,?_⟩,if_pos h4⟩
 have:=h4.2.length_le
 rw [List.length_map,Xf] at this
 have:=h1.1
 omega
theorem zq9 (w:List Mk) (s:Int) (h:XF w s) (K:Option aT1→Prop) (q:K (xg w s)):zh2 w s K:=by
 obtain ⟨h1,h2,h3⟩:=h
 refine ⟨h1,⟨h2,h3⟩,h1.1,?_⟩
 unfold xg at q
 cases e:yw w s with
 | none=>
  rw [e] at q
  exact ⟨fun _=>q,fun z=>nomatch z⟩
 | some c=>
  rw [e] at q
  exact ⟨fun z=>(nomatch z),fun _=>⟨rfl,q⟩⟩
theorem zgH (l:List Mk) (h:jR l) (K:List (List Mk)→Prop) (q:K (yd l)):Q7 l K:=by
 have h:l.length≤8:=h
 have big:1000000≤sizeLine:=by decide
 refine Jc (fun pre f=>f=subs pre) rfl (fun pre x suf f nx bk el hf hn _=>?_) (fun f hf=>?_)
 ·have hl:pre.length+1≤8:=by
   have:=congrArg List.length el
   rw [List.length_append,List.length_cons] at this
   omega
  have hs:=zii (l:=pre) (by omega)
  subst hf
  refine ⟨by omega,fun c hc=>?_,by rw [List.length_map]; omega,hn _ ?_⟩
  ·have:=(zj8.mp hc).length_le
   rw [List.length_singleton]
   omega
  ·show _=(pre++[x]).foldl _ _
   rw [List.foldl_append]; rfl
 ·subst hf
  exact ⟨by have:=zii h; omega,q⟩
theorem Qn {l c:List Mk}:c∈yd l↔c.Sublist l∧1 < c.length:=by
 unfold yd
 rw [List.mem_filter,zj8]
 exact and_congr_right fun _=>by rw [decide_eq_true_eq]; omega
theorem zkb (w:List Mk) (ns:List OkS) (s:Int) (h:ZX w ns s) (K:Int ⊕ OkS→Prop) (q:K (qL w ns s)):zaT w ns s K:=by
 refine ⟨h,?_⟩
 unfold qL at q
 unfold QC
 by_cases e:OkN w ns
 ·rw [if_pos e] at q ⊢; exact q
 ·rw [if_neg e] at q ⊢
  exact ⟨fun _=>q,fun z=>absurd z (by decide+kernel)⟩
abbrev yV (w:List Mk) (s:Int):List qP:=(yd (zq w)).map fun c=>(zY c s,c.map (·.1))
theorem za8 {w:List Mk} {s:Int} {d:qP}:d∈yV w s↔znw s (zq w) d:=by
 constructor
 ·intro h
  obtain ⟨c,hc,rfl⟩:=List.mem_map.mp h
  obtain ⟨h1,h2⟩:=Qn.mp hc
  cases c with
  | nil=>simp at h2
  | cons o r=>
   refine ⟨_,o,r,h1,fun z=>?_,rfl,rfl,zgg s r o⟩
   rw [z] at h2; simp at h2
 ·rintro ⟨m,o,r,h1,h2,h3,h4,h5⟩
  refine List.mem_map.mpr ⟨o::r,Qn.mpr ⟨h1,?_⟩,Prod.ext ?_ h4.symm⟩
  ·cases r with
   | nil=>exact absurd rfl h2
   | cons x r=>simp
  ·exact (zgg s r o).trans h5.symm
theorem zha {w:List Mk} (nd:((zq w).map (·.1)).Nodup) {c:List Mk} (hc:c.Sublist (zq w)):rowOf w (c.map (·.1))=c:=by
 unfold rowOf
 rw [List.map_map]
 refine (List.map_congr_left fun p hp=>(zj6 nd (hc.subset hp)).2).trans ?_
 exact List.map_id' c
theorem ok_every {w:List Mk} {s:Int} {ns:List OkS} (nd:((zq w).map (·.1)).Nodup) (h:OkN w ns):(Zf w ns s,ns)∈yV w s:=by
 obtain ⟨c,hc,e⟩:=List.sublist_map_iff.mp h.2
 subst e
 refine List.mem_map.mpr ⟨c,Qn.mpr ⟨hc,by have:=h.1; rw [List.length_map] at this; omega⟩,Prod.ext ?_ rfl⟩
 show yC c s=yC (rowOf w _) s
 rw [zha nd hc]
theorem zkc {w:List Mk} {s:Int} {d:qP} (nd:((zq w).map (·.1)).Nodup) (h:d∈yV w s):OkN w d.2∧d.1=Zf w d.2 s:=by
 obtain ⟨c,hc,rfl⟩:=List.mem_map.mp h
 obtain ⟨h1,h2⟩:=Qn.mp hc
 refine ⟨⟨by show 2≤(c.map _).length; rw [List.length_map]; omega,h1.map _⟩,?_⟩
 show yC c s=yC (rowOf w _) s
 rw [zha nd h1]
theorem zk7 {w:List Mk} (h:(w.map (·.1)).Nodup):w.Nodup:=(List.pairwise_map.mp h).imp fun h e=>h (congrArg _ e)
def zra (w:List Mk) (s:Int):Option aT1:=
 let g:=Xi ((yV w s).map (·.1)++[0])
 let b:=(((yV w s).filter fun x=>decide (x.1=g)).map fun x=>((x.2.length:Int),x.2)).mergeSort (xU (YB ltI (ltL ltS)))
 if decide (g > 0)=true then some (gI b (0:Int)).2 else none
theorem znB {w:List Mk} {s:Int} (nd:((zq w).map (·.1)).Nodup):xg w s=zra w s∧
  (Xi ((yV w s).map (·.1)++[0]) > 0→(((yV w s).filter fun x=>decide (x.1=Xi ((yV w s).map (·.1)++[0]))).map fun x=>((x.2.length:Int),x.2))≠[]):=by
 have nd2:(zq w).Nodup:=zk7 nd
 have hg:=za1 (l:=(yV w s).map (·.1)++[0]) (by simp)
 unfold zra
 generalize Xi ((yV w s).map (·.1)++[0])=g at hg ⊢
 have g0:0≤g:=hg.2 0 (List.mem_append_right _ (List.mem_cons_self ..))
 have ge:∀ d∈yV w s,d.1≤g:=fun d hd=>hg.2 _ (List.mem_append_left _ (List.mem_map.mpr ⟨d,hd,rfl⟩))
 have at_:0 < g→∃ d∈yV w s,d.1=g:=fun z=>by
  rcases List.mem_append.mp hg.1 with y | y
  ·obtain ⟨d,hd,e⟩:=List.mem_map.mp y
   exact ⟨d,hd,e⟩
  ·have:=List.mem_singleton.mp y
   omega
 refine ⟨?_,fun z y=>?_⟩
 ·rcases zgl (s:=s) nd2 with ⟨e,h⟩ | ⟨c,e,h1,h2⟩
  ·have:¬0 < g:=fun z=>by
    obtain ⟨d,hd,e⟩:=at_ z
    have:=h d (za8.mp hd)
    omega
   rw [e]
   show none=if decide (g > 0)=true then _ else none
   rw [if_neg (by simpa using this)]
  ·have hc:=za8.mpr h2.1
   have cg:c.1=g:=by
    have l1:=ge c hc
    obtain ⟨d,hd,e⟩:=at_ (by omega)
    have:=(h2.2 d (za8.mp hd)).1
    omega
   rw [e]
   show some c.2=if decide (g > 0)=true then _ else none
   rw [if_pos (by rw [← cg]; simpa using h1)]
   congr 1
   have hm:nmK c.2∈((yV w s).filter fun x=>decide (x.1=g)).map fun x=>((x.2.length:Int),x.2):=List.mem_map.mpr ⟨c,List.mem_filter.mpr ⟨hc,decide_eq_true cg⟩,rfl⟩
   have pw:=zmh znv (((yV w s).filter fun x=>decide (x.1=g)).map fun x=>((x.2.length:Int),x.2))
   have pm:=List.mergeSort_perm (((yV w s).filter fun x=>decide (x.1=g)).map fun x=>((x.2.length:Int),x.2)) (xU (YB ltI (ltL ltS)))
   cases hb:(((yV w s).filter fun x=>decide (x.1=g)).map fun x=>((x.2.length:Int),x.2)).mergeSort (xU (YB ltI (ltL ltS))) with
   | nil=>
    rw [hb] at pm
    have:=pm.symm.subset hm
    cases this
   | cons y r=>
    rw [hb] at pm pw
    have g1:gI (y::r) (0:Int)=y:=(Yz (l:=y::r) (i:=0) rfl).2
    rw [g1]
    obtain ⟨d,hd,ed⟩:=List.mem_map.mp (pm.subset (List.mem_cons_self ..))
    obtain ⟨d1,d2⟩:=List.mem_filter.mp hd
    have d2:d.1=g:=of_decide_eq_true d2
    have y2:y=nmK d.2:=ed.symm
    rw [y2]
    refine LeN.anti ((h2.2 d (za8.mp d1)).2 (by omega)) ?_
    show xU ltK (nmK d.2) (nmK c.2)=true
    rw [← y2]
    rcases List.mem_cons.mp (pm.symm.subset hm) with z | z
    ·rw [z]
     have:=zcM znv y y
     rwa [Bool.or_self] at this
    ·exact (List.pairwise_cons.mp pw).1 _ z
 ·obtain ⟨d,hd,e⟩:=at_ z
  have:nmK d.2∈((yV w s).filter fun x=>decide (x.1=g)).map fun x=>((x.2.length:Int),x.2):=List.mem_map.mpr ⟨d,List.mem_filter.mpr ⟨hd,decide_eq_true e⟩,rfl⟩
  rw [y] at this
  cases this
theorem zpM {w:List Mk} {s:Int} (nd:((zq w).map (·.1)).Nodup):xg w s≠some []:=fun z=>by
 rcases zgl (s:=s) (zk7 nd) with ⟨e,_⟩ | ⟨c,e,_,h2⟩
 ·rw [e] at z; cases z
 ·rw [e] at z
  injection z with z
  obtain ⟨m,o,r,_,_,_,h4,_⟩:=h2.1
  rw [z] at h4
  cases h4
theorem zgm {α:Type} (l:List α) (a b:Option Int):(xY l a b).length≤l.length:=by
 unfold xY
 rw [List.length_take,List.length_drop]
 omega
theorem zsU {r:Option aT1} (h:∀ l,r=some l→l.length≤1000000):Pl 7 (eO aq2 r):=by
 cases r with
 | none=>exact True.intro
 | some l=>
  refine ⟨rfl,by rw [List.length_map]; exact h l rfl,fun x hx=>?_⟩
  obtain ⟨y,_,rfl⟩:=List.mem_map.mp hx
  exact y.2
theorem znC {w:List Mk} {s:Int} (nd:((zq w).map (·.1)).Nodup) (ol:(zq w).length≤8):∀ l,xg w s=some l→l.length≤1000000:=fun l e=>by
 rcases zgl (s:=s) (zk7 nd) with ⟨z,_⟩ | ⟨c,z,_,h2⟩
 ·rw [z] at e; cases e
 ·rw [z] at e
  injection e with e
  obtain ⟨m,o,r,h1,_,_,h4,_⟩:=h2.1
  rw [← e,h4,List.length_map]
  have:=h1.length_le
  omega
abbrev abW:List Mk:=[((⟨"a",by decide+kernel⟩:OkS),(3:Int),(3:Int)),((⟨"b",by decide+kernel⟩:OkS),(3:Int),(4:Int))]
theorem zk8:zq abW=abW:=zgd (key:=kyS) (zgc zno zpE) (by decide+kernel) (List.Perm.refl _) (by decide+kernel)
theorem zpN:xg abW 2=some [(⟨"a",by decide+kernel⟩:OkS),(⟨"b",by decide+kernel⟩:OkS)]:=by
 unfold xg yw
 rw [zk8]
 decide+kernel
theorem zrb:Zf abW [(⟨"a",by decide+kernel⟩:OkS),(⟨"b",by decide+kernel⟩:OkS)] 2=2:=by
 unfold Zf rowOf
 rw [zk8]
 decide+kernel
theorem zuc:OkN abW [(⟨"a",by decide+kernel⟩:OkS),(⟨"b",by decide+kernel⟩:OkS)]:=by
 unfold OkN
 rw [zk8]
 decide+kernel
theorem zud (u:Unit) (w:List Mk) (s:Int) (g:JR w) (h1:1≤s) (h8:s≤8) {rt:Bool→Prop} {nx bk ct:Prop} (q:nx):zic u w s rt nx bk ct:=by
 have nd:=zgi g.2.1
 have ol:(zq w).length≤8:=by rw [Xf]; exact g.1
 have big:1000000≤sizeLine:=by decide
 refine ⟨by have:=g.1; exact (show w.length≤1000 by omega),?_⟩
 rw [zk5 g.2.1]
 have cl:(yd (zq w)).length≤256:=Nat.le_trans (List.length_filter_le _ _) (zii ol)
 have el:(yV w s).length≤256:=by rw [List.length_map]; exact cl
 refine ⟨ol,by omega,fun c hc=>?_,?_⟩
 ·obtain ⟨z1,z2⟩:=Qn.mp hc
  have:=z1.length_le
  exact ⟨⟨fun z=>(by rw [z] at z2; cases z2),by omega⟩,by omega⟩
 show zib u w s (zq w) (yV w s) rt nx bk ct
 obtain ⟨due,dne⟩:=znB (s:=s) nd
 have hd:xg w s=zra w s:=due
 unfold zra at due
 refine ⟨by omega,by rw [List.length_map,List.length_singleton]; omega,by simp,by omega,fun z=>?_,⟨by decide,by decide⟩,?_⟩
 ·have z:=of_decide_eq_true z
  have hne:=dne z
  cases hb:(((yV w s).filter fun x=>decide (x.1=Xi ((yV w s).map (·.1)++[0]))).map fun x=>((x.2.length:Int),x.2)).mergeSort (xU (YB ltI (ltL ltS))) with
  | nil=>
   refine absurd ?_ hne
   have:=(List.mergeSort_perm (((yV w s).filter fun x=>decide (x.1=Xi ((yV w s).map (·.1)++[0]))).map fun x=>((x.2.length:Int),x.2)) (xU (YB ltI (ltL ltS)))).length_eq
   rw [hb] at this
   exact List.eq_nil_of_length_eq_zero this.symm
  | cons y r=>exact (Yz (l:=y::r) (i:=0) rfl).1
 ·refine zfo (fun _=>True) trivial (fun x _ _ nx2 bk2 _ hn _=>?_) (fun _ _=>?_)
  ·refine ⟨⟨g,h1,h8⟩,zpM nd,⟨congrArg _ due,zsU (znC nd ol)⟩,fun z=>(nomatch z),fun _=>⟨fun z=>⟨z,hn _ trivial⟩,fun _=>hn _ trivial⟩⟩
  ·refine ⟨by omega,Jc (fun pre f=>f.Sublist (pre.map (·.1))) (List.Sublist.refl _) (fun pre x suf f nx2 bk2 el2 hI hn _=>?_) (fun f hI=>?_)⟩
   ·refine Zz (by decide) (by decide) fun r _ _=>⟨fun _=>hn _ ?_,fun _=>hn _ ?_⟩
    ·rw [List.map_append]
     exact hI.append (List.Sublist.refl _)
    ·rw [List.map_append,show f++(none:Option OkS).toList=f++[] from rfl]
     exact hI.append (List.nil_sublist _)
   ·have fl:f.length≤8:=by
     have:=hI.length_le
     rw [List.length_map] at this
     omega
    refine ⟨?_,by rw [List.length_singleton]; omega,Zz (by decide) (by decide) fun r r0 r6=>?_⟩
    ·have:=zgm f (some (-(1:Int))) none
     omega
    ·obtain ⟨m1,m2⟩:=zax (l:=[f,f,f.reverse,(f++(xY f (some (-(1:Int))) none)),(f++[(⟨"nobody",by decide+kernel⟩:OkS)]),(xY f none (some (1:Int)))]) r0 (by simpa using r6)
     refine ⟨m1,?_⟩
     generalize gI [f,f,f.reverse,(f++(xY f (some (-(1:Int))) none)),(f++[(⟨"nobody",by decide+kernel⟩:OkS)]),(xY f none (some (1:Int)))] r=v at m2
     have vl:v.length≤60:=by
      have c1:=zgm f (some (-(1:Int))) none
      have c2:=zgm f none (some (1:Int))
      simp only [List.mem_cons,List.not_mem_nil,or_false] at m2
      rcases m2 with e | e | e | e | e | e <;> subst e <;> (try simp only [List.length_append,List.length_reverse,List.length_singleton]) <;> omega
     refine ⟨by omega,⟨g,⟨h1,h8⟩,vl⟩,fun z=>?_,⟨?_,?_⟩,fun z=>(nomatch z),fun _=>q⟩
     ·generalize hgd:((yV w s).filter fun x=>decide (x.2=v)).map (fun x=>x.1)=gd at z
      cases gd with
      | nil=>simp at z
      | cons a b=>exact (Yz (l:=a::b) (i:=0) rfl).1
     ·congr 1
      unfold qL
      by_cases ok:OkN w v
      ·rw [if_pos ok]
       have me:=ok_every (s:=s) nd ok
       have mg:Zf w v s∈((yV w s).filter fun x=>decide (x.2=v)).map (fun x=>x.1):=List.mem_map.mpr ⟨_,List.mem_filter.mpr ⟨me,decide_eq_true rfl⟩,rfl⟩
       have all:∀ a∈((yV w s).filter fun x=>decide (x.2=v)).map (fun x=>x.1),a=Zf w v s:=fun a ha=>by
        obtain ⟨d,hd,rfl⟩:=List.mem_map.mp ha
        obtain ⟨d1,d2⟩:=List.mem_filter.mp hd
        have d2:d.2=v:=of_decide_eq_true d2
        rw [(zkc nd d1).2,d2]
       generalize ((yV w s).filter fun x=>decide (x.2=v)).map (fun x=>x.1)=gd at mg all
       cases gd with
       | nil=>cases mg
       | cons a b=>
        have g0:gI (a::b) (0:Int)=a:=(Yz (l:=a::b) (i:=0) rfl).2
        rw [if_pos (by simp),g0,all a (List.mem_cons_self ..)]
      ·rw [if_neg ok]
       have em:((yV w s).filter fun x=>decide (x.2=v)).map (fun x=>x.1)=[]:=by
        cases hgd:((yV w s).filter fun x=>decide (x.2=v)).map (fun x=>x.1) with
        | nil=>rfl
        | cons a b=>
         exfalso
         have:a∈((yV w s).filter fun x=>decide (x.2=v)).map (fun x=>x.1):=by rw [hgd]; exact List.mem_cons_self ..
         obtain ⟨d,hd,rfl⟩:=List.mem_map.mp this
         obtain ⟨d1,d2⟩:=List.mem_filter.mp hd
         have d2:d.2=v:=of_decide_eq_true d2
         exact ok (d2 ▸ (zkc nd d1).1)
       rw [em,if_neg (by simp)]
     ·unfold qL
      by_cases ok:OkN w v
      ·rw [if_pos ok]; exact True.intro
      ·rw [if_neg ok]
       exact (show PyData.strOk ("BadChain":PySem.Str)=true by decide+kernel)
theorem zue (ns:List Int) (hl:ns.length≤63) (K:Bool→Prop) (q:K true):zpA ns K:=by
 refine ⟨hl,⟨by decide,by decide⟩,zfo (fun _=>True) trivial (fun x _ _ nx bk _ hn _=>?_) (fun _ _=>⟨⟨by decide+kernel,by decide,by decide⟩,fun _=>⟨by decide+kernel,by decide,by decide,zuc⟩,?_⟩)⟩
 ·refine Zz (by decide) (by decide) fun r r0 r8=>⟨⟨r0,by omega⟩,fun folk hf=>⟨by have:=hf.1; show folk.length≤1000; omega,fun w hw=>Zz (by decide) (by decide) fun t t0 t8=>zud _ w _ ?_ (by omega) (by omega) (hn _ trivial)⟩⟩
  have hw:w.map (·.1)=folk:=hw
  refine ⟨?_,by rw [hw]; exact hf.2.1,fun p hp=>hf.2.2 _ (by rw [← hw]; exact List.mem_map.mpr ⟨p,hp,rfl⟩)⟩
  have:=congrArg List.length hw
  rw [List.length_map] at this
  have:=hf.1
  omega
 ·have e:(decide (xg abW (2:Int)=some [(⟨"a",by decide+kernel⟩:OkS),(⟨"b",by decide+kernel⟩:OkS)])&&decide (Zf abW [(⟨"a",by decide+kernel⟩:OkS),(⟨"b",by decide+kernel⟩:OkS)] (2:Int)=(2:Int)))=true:=by
   rw [zpN,zrb]
   decide+kernel
  exact Eq.mpr (congrArg K e) q
theorem zgn {n:Nat} {xs:List D} {Q:D→Prop} {a b:Option D} (hn:0 < n) (hl:xs.length≤1000000) (px:∀ x∈xs,Pl (n - 1) x) (q:Q (.bl true)):(YK xs xs).length≤1000000∧
    Qo (G.tp (Gs.cons (G.nm 2) (Gs.cons (G.nm 3) Gs.nil))) ZP (dFn (yg n) (zm (zu 2) (zm (zu 3) zK))) [a,b,none,none] (YK xs xs) [] fun ys=>ze7 (D.lst Fl.o ys) fun d=>d.rt.np=true∧Q d.rt:=by
 obtain ⟨n,rfl⟩:∃ m,n=m+1:=⟨n - 1,by omega⟩
 rw [zip_self]
 refine ⟨by simpa using hl,zrV (h:=fun _=>.bl true) xs (fun x hx K k=>?_) ?_⟩
 ·have p:=px x hx
  have e1:x.vw=x:=D.zlu x p.pf
  have e2:x.fz=x:=D.znJ x p.pf
  rw [go2]
  simp only [↓zdB,↓ziz,↓Kw,↓ziA,↓ziB,↓zdC,↓Kz,↓q_c,↓zdD,↓zdE,↓zdF,↓ziD,↓q_if,↓KC,↓zdG,↓KD,↓zdH,↓zdI,↓ziC,↓zdJ,↓YW,↓zdK,↓ziE,↓ziF,↓zdL,↓KH,↓zdM,↓zdN,↓KJ,↓zdO,↓zdP,↓zdQ,↓ziG,↓zbj,↓KN,↓KQ,↓KR,↓KY,↓zdR,↓q_asg,↓zgs,↓zdS,↓KZ,↓ziH,↓K6,↓zdT,↓K7,↓K8,↓K9,↓zcg,↓zch,↓zdU,↓zci,↓zak,↓zal,zix,ziy,zdV,zdW,zdX,zdY,zdZ,zd0,zd1,zaa,zab,zac,zad,zae,zaf,zag,zd2,zd3,zd4,zd5,zd6,zd7,zd8,zah,zai,zaj,zd9,zea,zeb,zec,zed,zee,ziI,ziJ,↓ifT,↓ifF,ziK,true_and,and_true,Bool.and_true,Bool.true_and,List.set_cons_zero,if_true,↓ziL,↓zef,↓zeg,↓zan,zao,zap,Jo,zcl,zck,Xw,zam,zaq,zar,↓zas,↓QS,zeh,zei,zej,zek,zel,zem,zen,zeo,zep,items2,↓Y7,id_eq,List.set_cons_succ,id,e1,e2]
  exact ⟨x,rfl,p,by split <;> exact k⟩
 ·rw [List.nil_append,QS (g:=fun _=>true)]
  simp only [↓zdB,↓ziz,↓Kw,↓ziA,↓ziB,↓zdC,↓Kz,↓q_c,↓zdD,↓zdE,↓zdF,↓ziD,↓q_if,↓KC,↓zdG,↓KD,↓zdH,↓zdI,↓ziC,↓zdJ,↓YW,↓zdK,↓ziE,↓ziF,↓zdL,↓KH,↓zdM,↓zdN,↓KJ,↓zdO,↓zdP,↓zdQ,↓ziG,↓zbj,↓KN,↓KQ,↓KR,↓KY,↓zdR,↓q_asg,↓zgs,↓zdS,↓KZ,↓ziH,↓K6,↓zdT,↓K7,↓K8,↓K9,↓zcg,↓zch,↓zdU,↓zci,↓zak,↓zal,zix,ziy,zdV,zdW,zdX,zdY,zdZ,zd0,zd1,zaa,zab,zac,zad,zae,zaf,zag,zd2,zd3,zd4,zd5,zd6,zd7,zd8,zah,zai,zaj,zd9,zea,zeb,zec,zed,zee,ziI,ziJ,↓ifT,↓ifF,ziK,true_and,and_true,Bool.and_true,Bool.true_and,List.set_cons_zero,if_true,↓ziL,↓zef,↓zeg,↓zan,zao,zap,Jo,zcl,zck,Xw,zam,zaq,zar,↓zas,↓QS,zeh,zei,zej,zek,zel,zem,zen,zeo,zep,items2,↓Y7,id_eq,List.set_cons_succ,id]
  rw [show (xs.all fun _=>true)=true from List.all_eq_true.mpr fun _ _=>rfl]
  exact q
theorem zkd (n:Nat):∀ ds Q,yg (n+1) ds Q→ds.length=2∧Xe (yg n) (yU Q) (zH 4 ds):=by
 rintro ds Q ⟨x,rfl,px,q⟩
 refine ⟨rfl,?_⟩
 show Xe _ (yU Q) [some x,some x,none,none]
 unfold Xe
 cases x with
 | non=>simp only [↓zdB,↓ziz,↓Kw,↓ziA,↓ziB,↓zdC,↓Kz,↓q_c,↓zdD,↓zdE,↓zdF,↓ziD,↓q_if,↓KC,↓zdG,↓KD,↓zdH,↓zdI,↓ziC,↓zdJ,↓YW,↓zdK,↓ziE,↓ziF,↓zdL,↓KH,↓zdM,↓zdN,↓KJ,↓zdO,↓zdP,↓zdQ,↓ziG,↓zbj,↓KN,↓KQ,↓KR,↓KY,↓zdR,↓q_asg,↓zgs,↓zdS,↓KZ,↓ziH,↓K6,↓zdT,↓K7,↓K8,↓K9,↓zcg,↓zch,↓zdU,↓zci,↓zak,↓zal,zix,ziy,zdV,zdW,zdX,zdY,zdZ,zd0,zd1,zaa,zab,zac,zad,zae,zaf,zag,zd2,zd3,zd4,zd5,zd6,zd7,zd8,zah,zai,zaj,zd9,zea,zeb,zec,zed,zee,ziI,ziJ,↓ifT,↓ifF,ziK,true_and,and_true,Bool.and_true,Bool.true_and,List.set_cons_zero,if_true,↓ziL,↓zef,↓zeg,↓zan,zao,zap,Jo,zcl,zck,Xw,zam,zaq,zar,↓zas,↓QS,zeh,zei,zej,zek,zel,zem,zen,zeo,zep,items2,↓Y7,id_eq,List.set_cons_succ,id,↓xK,↓Zk,↓jW,↓Zm,↓Z8,↓Z9,↓qp,↓Yb,↓Zo,↓Yc,↓YL,↓YM,↓xO,↓Zq,↓jY,↓Zr,↓Yd,↓Ye,↓xQ,↓Zt,↓jZ,↓Zu,↓Yg,↓Yh,↓xR,↓Zv,↓j5,↓Zw,↓Yi,↓Yj,↓xT,↓Zx,↓j6,↓Zy,↓Yk,↓Yl,zkp,zgU,zgR,zgS,zgT,beq_self_eq_true,zmD,zmE,zmF]; exact q
 | int i=>simp only [↓zdB,↓ziz,↓Kw,↓ziA,↓ziB,↓zdC,↓Kz,↓q_c,↓zdD,↓zdE,↓zdF,↓ziD,↓q_if,↓KC,↓zdG,↓KD,↓zdH,↓zdI,↓ziC,↓zdJ,↓YW,↓zdK,↓ziE,↓ziF,↓zdL,↓KH,↓zdM,↓zdN,↓KJ,↓zdO,↓zdP,↓zdQ,↓ziG,↓zbj,↓KN,↓KQ,↓KR,↓KY,↓zdR,↓q_asg,↓zgs,↓zdS,↓KZ,↓ziH,↓K6,↓zdT,↓K7,↓K8,↓K9,↓zcg,↓zch,↓zdU,↓zci,↓zak,↓zal,zix,ziy,zdV,zdW,zdX,zdY,zdZ,zd0,zd1,zaa,zab,zac,zad,zae,zaf,zag,zd2,zd3,zd4,zd5,zd6,zd7,zd8,zah,zai,zaj,zd9,zea,zeb,zec,zed,zee,ziI,ziJ,↓ifT,↓ifF,ziK,true_and,and_true,Bool.and_true,Bool.true_and,List.set_cons_zero,if_true,↓ziL,↓zef,↓zeg,↓zan,zao,zap,Jo,zcl,zck,Xw,zam,zaq,zar,↓zas,↓QS,zeh,zei,zej,zek,zel,zem,zen,zeo,zep,items2,↓Y7,id_eq,List.set_cons_succ,id,↓xK,↓Zk,↓jW,↓Zm,↓Z8,↓Z9,↓qp,↓Yb,↓Zo,↓Yc,↓YL,↓YM,↓xO,↓Zq,↓jY,↓Zr,↓Yd,↓Ye,↓xQ,↓Zt,↓jZ,↓Zu,↓Yg,↓Yh,↓xR,↓Zv,↓j5,↓Zw,↓Yi,↓Yj,↓xT,↓Zx,↓j6,↓Zy,↓Yk,↓Yl,zkp,zgU,zgR,zgS,zgT,beq_self_eq_true,zmD,zmE,zmF,decide_true]; exact q
 | bl i=>simp only [↓zdB,↓ziz,↓Kw,↓ziA,↓ziB,↓zdC,↓Kz,↓q_c,↓zdD,↓zdE,↓zdF,↓ziD,↓q_if,↓KC,↓zdG,↓KD,↓zdH,↓zdI,↓ziC,↓zdJ,↓YW,↓zdK,↓ziE,↓ziF,↓zdL,↓KH,↓zdM,↓zdN,↓KJ,↓zdO,↓zdP,↓zdQ,↓ziG,↓zbj,↓KN,↓KQ,↓KR,↓KY,↓zdR,↓q_asg,↓zgs,↓zdS,↓KZ,↓ziH,↓K6,↓zdT,↓K7,↓K8,↓K9,↓zcg,↓zch,↓zdU,↓zci,↓zak,↓zal,zix,ziy,zdV,zdW,zdX,zdY,zdZ,zd0,zd1,zaa,zab,zac,zad,zae,zaf,zag,zd2,zd3,zd4,zd5,zd6,zd7,zd8,zah,zai,zaj,zd9,zea,zeb,zec,zed,zee,ziI,ziJ,↓ifT,↓ifF,ziK,true_and,and_true,Bool.and_true,Bool.true_and,List.set_cons_zero,if_true,↓ziL,↓zef,↓zeg,↓zan,zao,zap,Jo,zcl,zck,Xw,zam,zaq,zar,↓zas,↓QS,zeh,zei,zej,zek,zel,zem,zen,zeo,zep,items2,↓Y7,id_eq,List.set_cons_succ,id,↓xK,↓Zk,↓jW,↓Zm,↓Z8,↓Z9,↓qp,↓Yb,↓Zo,↓Yc,↓YL,↓YM,↓xO,↓Zq,↓jY,↓Zr,↓Yd,↓Ye,↓xQ,↓Zt,↓jZ,↓Zu,↓Yg,↓Yh,↓xR,↓Zv,↓j5,↓Zw,↓Yi,↓Yj,↓xT,↓Zx,↓j6,↓Zy,↓Yk,↓Yl,zkp,zgU,zgR,zgS,zgT,beq_self_eq_true,zmD,zmE,zmF]; exact q
 | str i=>
  have h:∀ m,Sh m (.str i):=fun m=>by
   unfold Pl at px
   unfold Sh
   exact px
  have e:(D.str i).vw=.str i:=rfl
  simp only [↓zdB,↓ziz,↓Kw,↓ziA,↓ziB,↓zdC,↓Kz,↓q_c,↓zdD,↓zdE,↓zdF,↓ziD,↓q_if,↓KC,↓zdG,↓KD,↓zdH,↓zdI,↓ziC,↓zdJ,↓YW,↓zdK,↓ziE,↓ziF,↓zdL,↓KH,↓zdM,↓zdN,↓KJ,↓zdO,↓zdP,↓zdQ,↓ziG,↓zbj,↓KN,↓KQ,↓KR,↓KY,↓zdR,↓q_asg,↓zgs,↓zdS,↓KZ,↓ziH,↓K6,↓zdT,↓K7,↓K8,↓K9,↓zcg,↓zch,↓zdU,↓zci,↓zak,↓zal,zix,ziy,zdV,zdW,zdX,zdY,zdZ,zd0,zd1,zaa,zab,zac,zad,zae,zaf,zag,zd2,zd3,zd4,zd5,zd6,zd7,zd8,zah,zai,zaj,zd9,zea,zeb,zec,zed,zee,ziI,ziJ,↓ifT,↓ifF,ziK,true_and,and_true,Bool.and_true,Bool.true_and,List.set_cons_zero,if_true,↓ziL,↓zef,↓zeg,↓zan,zao,zap,Jo,zcl,zck,Xw,zam,zaq,zar,↓zas,↓QS,zeh,zei,zej,zek,zel,zem,zen,zeo,zep,items2,↓Y7,id_eq,List.set_cons_succ,id,↓xK,↓Zk,↓jW,↓Zm,↓Z8,↓Z9,↓qp,↓Yb,↓Zo,↓Yc,↓YL,↓YM,↓xO,↓Zq,↓jY,↓Zr,↓Yd,↓Ye,↓xQ,↓Zt,↓jZ,↓Zu,↓Yg,↓Yh,↓xR,↓Zv,↓j5,↓Zw,↓Yi,↓Yj,↓xT,↓Zx,↓j6,↓Zy,↓Yk,↓Yl,zkp,zgU,zgR,zgS,zgT,beq_self_eq_true,zmD,zmE,zmF,e]; exact ⟨h _,h _,q⟩
 | pen=>unfold Pl at px; exact px.elim
 | tup xs=>
  have e:(D.tup xs).vw=.tup xs:=D.zlu _ px.pf
  simp only [↓zdB,↓ziz,↓Kw,↓ziA,↓ziB,↓zdC,↓Kz,↓q_c,↓zdD,↓zdE,↓zdF,↓ziD,↓q_if,↓KC,↓zdG,↓KD,↓zdH,↓zdI,↓ziC,↓zdJ,↓YW,↓zdK,↓ziE,↓ziF,↓zdL,↓KH,↓zdM,↓zdN,↓KJ,↓zdO,↓zdP,↓zdQ,↓ziG,↓zbj,↓KN,↓KQ,↓KR,↓KY,↓zdR,↓q_asg,↓zgs,↓zdS,↓KZ,↓ziH,↓K6,↓zdT,↓K7,↓K8,↓K9,↓zcg,↓zch,↓zdU,↓zci,↓zak,↓zal,zix,ziy,zdV,zdW,zdX,zdY,zdZ,zd0,zd1,zaa,zab,zac,zad,zae,zaf,zag,zd2,zd3,zd4,zd5,zd6,zd7,zd8,zah,zai,zaj,zd9,zea,zeb,zec,zed,zee,ziI,ziJ,↓ifT,↓ifF,ziK,true_and,and_true,Bool.and_true,Bool.true_and,List.set_cons_zero,if_true,↓ziL,↓zef,↓zeg,↓zan,zao,zap,Jo,zcl,zck,Xw,zam,zaq,zar,↓zas,↓QS,zeh,zei,zej,zek,zel,zem,zen,zeo,zep,items2,↓Y7,id_eq,List.set_cons_succ,id,↓xK,↓Zk,↓jW,↓Zm,↓Z8,↓Z9,↓qp,↓Yb,↓Zo,↓Yc,↓YL,↓YM,↓xO,↓Zq,↓jY,↓Zr,↓Yd,↓Ye,↓xQ,↓Zt,↓jZ,↓Zu,↓Yg,↓Yh,↓xR,↓Zv,↓j5,↓Zw,↓Yi,↓Yj,↓xT,↓Zx,↓j6,↓Zy,↓Yk,↓Yl,zkp,zgU,zgR,zgS,zgT,beq_self_eq_true,zmD,zmE,zmF,e,↓zri,↓zrY,decide_true]
  have hi:zW (.tup xs)=some xs:=by
   show (if D.nos xs=true then some xs else _)=_
   rw [if_pos (D.zht xs (by simpa [D.pf] using px.pf))]
  rw [if_pos (show zey (.tup xs)≠0 from fun z=>nomatch z),hi]
  cases n with
  | zero=>unfold Pl at px; exact px.elim
  | succ n=>exact zgn (Nat.succ_pos n) px.1 px.2 q
 | exc a dd ns xs=>unfold Pl at px; exact px.elim
 | con c k xs=>
  cases n with
  | zero=>exact absurd px fun px=>by cases c <;> (unfold Pl at px; exact px.elim)
  | succ n=>
  cases c with
  | dK _=>unfold Pl at px; exact px.elim
  | dT _=>unfold Pl at px; exact px.elim
  | ins _ _=>unfold Pl at px; exact px.elim
  | l=>
  have hk:k=.f:=px.1
  subst hk
  have e:(D.lst .f xs).vw=.lst .f xs:=rfl
  simp only [↓zdB,↓ziz,↓Kw,↓ziA,↓ziB,↓zdC,↓Kz,↓q_c,↓zdD,↓zdE,↓zdF,↓ziD,↓q_if,↓KC,↓zdG,↓KD,↓zdH,↓zdI,↓ziC,↓zdJ,↓YW,↓zdK,↓ziE,↓ziF,↓zdL,↓KH,↓zdM,↓zdN,↓KJ,↓zdO,↓zdP,↓zdQ,↓ziG,↓zbj,↓KN,↓KQ,↓KR,↓KY,↓zdR,↓q_asg,↓zgs,↓zdS,↓KZ,↓ziH,↓K6,↓zdT,↓K7,↓K8,↓K9,↓zcg,↓zch,↓zdU,↓zci,↓zak,↓zal,zix,ziy,zdV,zdW,zdX,zdY,zdZ,zd0,zd1,zaa,zab,zac,zad,zae,zaf,zag,zd2,zd3,zd4,zd5,zd6,zd7,zd8,zah,zai,zaj,zd9,zea,zeb,zec,zed,zee,ziI,ziJ,↓ifT,↓ifF,ziK,true_and,and_true,Bool.and_true,Bool.true_and,List.set_cons_zero,if_true,↓ziL,↓zef,↓zeg,↓zan,zao,zap,Jo,zcl,zck,Xw,zam,zaq,zar,↓zas,↓QS,zeh,zei,zej,zek,zel,zem,zen,zeo,zep,items2,↓Y7,id_eq,List.set_cons_succ,id,↓xK,↓Zk,↓jW,↓Zm,↓Z8,↓Z9,↓qp,↓Yb,↓Zo,↓Yc,↓YL,↓YM,↓xO,↓Zq,↓jY,↓Zr,↓Yd,↓Ye,↓xQ,↓Zt,↓jZ,↓Zu,↓Yg,↓Yh,↓xR,↓Zv,↓j5,↓Zw,↓Yi,↓Yj,↓xT,↓Zx,↓j6,↓Zy,↓Yk,↓Yl,zkp,zgU,zgR,zgS,zgT,beq_self_eq_true,zmD,zmE,zmF,e,↓zri,↓zrX,decide_true]
  rw [if_pos (show zey (.lst .f xs)≠0 from fun z=>nomatch z)]
  exact zgn (Nat.succ_pos n) px.2.1 px.2.2 q
theorem zcR {P:Program} {w:World} {K:PySem.W.Frag} {mg:Str→Option Value} {base:Heap} (m_isinstance:mg "isinstance"=none) (m_list:mg "list"=none) (m_tuple:mg "tuple"=none) (m_len:mg "len"=none) (m_all:mg "all"=none) (m_zip:mg "zip"=none) (m_bool:mg "bool"=none) (m_int:mg "int"=none) (m_str:mg "str"=none) {f:Addr} {fd:FuncData} (F:FnP K "_law_same" qI f fd) (gm:mg "_law_same"=some (.ref f)):∀ n,Fd P w K mg base n "_law_same" (yg n)
 | 0=>Fd.bot (ps:=["_law_found","_law_due"]) F gm (fun _ _ _ _ _ _ us hl=>match us,hl with | [_,_],_=>rfl)
 | n+1=>zh3 m_isinstance m_list m_tuple m_len m_all m_zip m_bool m_int m_str (zcR m_isinstance m_list m_tuple m_len m_all m_zip m_bool m_int m_str F gm n) F gm (zkd n)
theorem zrD:∀ ds Q,zg7 ds Q→ds.length=1∧t_law (yU Q) (zH 16 ds):=zpB zue
theorem JD:FnScope ["self","called"] ["self","called"] (defScope yh):=⟨rfl,rfl,rfl,by decide+kernel,rfl,by decide+kernel,by decide+kernel⟩
theorem JF {P:Program} {w:World} {K:PySem.W.Frag} {mg:Str→Option Value} {base:Heap} (m_V:mg "ValueError"=none) (vV:PySem.W.findCls K (.type "ValueError") (.type "type") "__init__"=some (.val (.builtin "ValueError.__init__"))) {f:Addr} {fd:FuncData} (F:FunD K "__init__" "SheetError.__init__" (defArgs yh) (defBody yh) (defScope yh) [] [] f fd):FnOk P w K mg base CX0 1 f fd ["self","called"] (zkH K):=
 F.ok (N:=["self","called"]) JD (fun vs H Q E h=>zss h) (fun cdv A outer s H vs Q E hr h=>⟨_,pss_cons (ps_expr (pe_veinit rfl m_V vV (pa_cons (pv 0) (pa_cons pe_str pa_nil)))) (pss_cons (ps_ost (pv 0) (pv 1)) pss_nil),zqJ h⟩)
theorem zaU:FnScope ["self"] ["self"] (defScope yD):=⟨rfl,rfl,rfl,by decide+kernel,rfl,by decide+kernel,by decide+kernel⟩
theorem zaV {P:Program} {w:World} {K:PySem.W.Frag} {mg:Str→Option Value} {base:Heap} {C0 f0:Addr} {fd0:FuncData} (q0:mg "SheetError"=some (.ref C0)) (cf:zqG K C0 f0 "__init__") (F0:FnOk P w K mg base CX0 1 f0 fd0 ["self","called"] (zkH K)) (b0:Binds K fd0 ["self","called"] []) {f:Addr} {fd:FuncData} (F:FunD K "__init__" "BadChain.__init__" (defArgs yD) (defBody yD) (defScope yD) [] [] f fd):FnOk P w K mg base CX0 2 f fd ["self"] (zmV K "BadChain"):=
 F.ok (N:=["self"]) zaU (fun vs H Q E h=>zkI h) (fun cdv A outer s H vs Q E hr h=>⟨_,pss_cons (ps_expr (zfx q0 cf.rd cf.at_ cf.kp F0 hr b0 .nil pass0 (pa_cons (pv 0) (pa_cons pe_str pa_nil)))) pss_nil,zhK h⟩)
theorem zbc:FnScope ["self"] ["self"] (defScope yO):=⟨rfl,rfl,rfl,by decide+kernel,rfl,by decide+kernel,by decide+kernel⟩
theorem zbd {P:Program} {w:World} {K:PySem.W.Frag} {mg:Str→Option Value} {base:Heap} {C0 f0:Addr} {fd0:FuncData} (q0:mg "SheetError"=some (.ref C0)) (cf:zqG K C0 f0 "__init__") (F0:FnOk P w K mg base CX0 1 f0 fd0 ["self","called"] (zkH K)) (b0:Binds K fd0 ["self","called"] []) {f:Addr} {fd:FuncData} (F:FunD K "__init__" "BadSize.__init__" (defArgs yO) (defBody yO) (defScope yO) [] [] f fd):FnOk P w K mg base CX0 2 f fd ["self"] (zmV K "BadSize"):=
 F.ok (N:=["self"]) zbc (fun vs H Q E h=>zkI h) (fun cdv A outer s H vs Q E hr h=>⟨_,pss_cons (ps_expr (zfx q0 cf.rd cf.at_ cf.kp F0 hr b0 .nil pass0 (pa_cons (pv 0) (pa_cons pe_str pa_nil)))) pss_nil,zhK h⟩)
theorem JG:FnScope ["self"] ["self"] (defScope yj):=⟨rfl,rfl,rfl,by decide+kernel,rfl,by decide+kernel,by decide+kernel⟩
theorem JH {P:Program} {w:World} {K:PySem.W.Frag} {mg:Str→Option Value} {base:Heap} {C0 f0:Addr} {fd0:FuncData} (q0:mg "SheetError"=some (.ref C0)) (cf:zqG K C0 f0 "__init__") (F0:FnOk P w K mg base CX0 1 f0 fd0 ["self","called"] (zkH K)) (b0:Binds K fd0 ["self","called"] []) {f:Addr} {fd:FuncData} (F:FunD K "__init__" "BadSymbols.__init__" (defArgs yj) (defBody yj) (defScope yj) [] [] f fd):FnOk P w K mg base CX0 2 f fd ["self"] (zmV K "BadSymbols"):=
 F.ok (N:=["self"]) JG (fun vs H Q E h=>zkI h) (fun cdv A outer s H vs Q E hr h=>⟨_,pss_cons (ps_expr (zfx q0 cf.rd cf.at_ cf.kp F0 hr b0 .nil pass0 (pa_cons (pv 0) (pa_cons pe_str pa_nil)))) pss_nil,zhK h⟩)
end DL
namespace DL
open PySem PySem.Spec PyProof.Rows L2
variable [Tb]
theorem up {P:Program} {w:World} {K:PySem.W.Frag} {mg:Str→Option Value} {base:Heap} {j k:Nat} {x:Str} {S:zQ} (F:Fd P w K mg base j x S) (h:j≤k):Fd P w K mg base k x S:=F.imp h fun _ _ z=>z
theorem upK {P:Program} {w:World} {K:PySem.W.Frag} {mg:Str→Option Value} {base:Heap} {j k:Nat} {x:Str} {st:Stmt} {ps:List Str} {kws:List (Str×V)} {S:zQ} (F:FdK P w K mg base j x st ps kws S) (h:j≤k):FdK P w K mg base k x st ps kws S:=F.imp h
theorem zuf {P:Program} {w:World} {K:PySem.W.Frag} {mg:Str→Option Value} {base:Heap} {j k:Nat} {x:Str} (F:zcm P w K mg base j x) (h:j≤k):zcm P w K mg base k x:=by
 obtain ⟨f,fd,ps,F,r⟩:=F
 exact ⟨f,fd,ps,F.mono h,r⟩
theorem okL {P:Program} {w:World} {K:PySem.W.Frag} {mg:Str→Option Value} {base:Heap} {k:Nat} {f:Addr} {fd:FuncData} (F:FnP K "law" JK f fd)
  (walk:∀ (cdv:Value) (A:Around) (outer:List PySem.Env) (s:Shared) (H:Hp) (E:XK),Room k (A.deeper (envOfC "law" (defScope JK) s.heap.objs.size f cdv))→PDB (cxOf CX0 P w K mg base ["_law_script","_law_pen_here","_law_k_turn","_law_marks_here","_law_size_in","_law_rows","_law_every","_law_greatest","_law_best","_law_due","_law_again_at","_law_found","_law_some","_law_good","_law_row","_law_pair"] "law" (defScope JK) f cdv A outer s H E).nox (defBody JK) t_law):FnOk P w K mg base CX0 (k+1) f fd ["_law_script"] (Q8 K zg7):=by
 refine F.ok zpq (fun vs H Q E h=>?_) (fun cdv A outer s H vs Q E hr h=>⟨_,PSs.nox (walk cdv A outer s H E hr),Q9 zrD h⟩)
 obtain ⟨P',M,ds,Q0,s,r,pf,q,_⟩:=h
 rw [r.len]
 exact (zrD _ _ q).1
theorem znD {K:PySem.W.Frag} {H:Hp} {a:Addr} {ns:List Int} (hT:∀ p∈Tb.T,jo H p.1 p.2) (hl:ns.length≤63) (hS:SqL K H a (ns.map V.int)) {E:XK}:Q8 K zg7 [.ref a] H (fun v _=>v=.bl true) E:=by
 refine ⟨[],[],[.lst .f (ns.map D.int)],fun d=>d=.bl true,⟨fun a l h=>(nomatch h),fun _ z=>z,fun _ z=>(nomatch z),hT⟩,?_,?_,⟨ns,rfl,hl,rfl⟩,fun v H' r=>?_⟩
 ·have r0:Rep K [] [] [] H (.ref a) (.lst .f (ns.map D.int)) []:=.lstF ⟨hS.elim (fun h=>.inl ⟨h,fun z=>(nomatch z)⟩) fun h=>.inr ⟨zik ns,h⟩,.inr (zik ns)⟩ (zc3 ns) (Jp _ fun x hx=>by
   obtain ⟨i,_,rfl⟩:=List.mem_map.mp hx
   rfl)
  have:=zf.cons r0 .nil
  simpa using this
 ·show ((true&&D.pfs (ns.map D.int))&&true)=true
  rw [Jp _ fun x hx=>by
   obtain ⟨i,_,rfl⟩:=List.mem_map.mp hx
   rfl]
  rfl
 ·obtain ⟨d,L,rfl,_,_,r,_⟩:=r
  exact r.Km.1
theorem facts {P:Program} {w:World} {K:PySem.W.Frag} {h:Heap} {mg:Str→Option Value} {f:Addr} (X:K.In h) (G:h.Ns mainGlobals mg) (hfa:mg ("law":Str)=some (.ref f)) (c:He.SaysD fa fn K) (hex:exF K=true) (hT:Tb.T=zfs K tf) (hcl:Tb.cl=He.ga K) (nd:ze1 tf K=true):
  ∃ fd:FuncData,(∀ (s:Shared) (v:Value),BindsTo s fd ⟨[v],[]⟩ [("_law_script",v)])∧∀ base:Heap,K.In base→base.Ns mainGlobals mg→(∀ p∈tf,LamX.TabB base mg (He.cT K p).1 (He.cT K p).2)→FnOk P w K mg base CX0 9 f fd ["_law_script"] (Q8 K zg7):=by
 obtain ⟨fd_is_name,F_is_name⟩:=c.def_ 0 (d:=zgI) rfl
 have q_is_name:=He.glo_ok X G (c.fact 0 (f:=.glo "is_name") rfl)
 obtain ⟨fd_need_symbols,F_need_symbols⟩:=c.def_ 1 (d:=Kl) rfl
 have q_need_symbols:=He.glo_ok X G (c.fact 1 (f:=.glo "need_symbols") rfl)
 obtain ⟨fd_need_size,F_need_size⟩:=c.def_ 2 (d:=zds) rfl
 have q_need_size:=He.glo_ok X G (c.fact 2 (f:=.glo "need_size") rfl)
 obtain ⟨fd_ordered,F_ordered⟩:=c.def_ 3 (d:=zgJ) rfl
 have q_ordered:=He.glo_ok X G (c.fact 3 (f:=.glo "ordered") rfl)
 obtain ⟨fd_room_for,F_room_for⟩:=c.def_ 4 (d:=ze2) rfl
 have q_room_for:=He.glo_ok X G (c.fact 4 (f:=.glo "room_for") rfl)
 obtain ⟨fd_need_of,F_need_of⟩:=c.def_ 5 (d:=zgK) rfl
 have q_need_of:=He.glo_ok X G (c.fact 5 (f:=.glo "need_of") rfl)
 obtain ⟨fd_chains_to,F_chains_to⟩:=c.def_ 6 (d:=zdu) rfl
 have q_chains_to:=He.glo_ok X G (c.fact 6 (f:=.glo "chains_to") rfl)
 obtain ⟨fd_greatest_of,F_greatest_of⟩:=c.def_ 7 (d:=zbe) rfl
 have q_greatest_of:=He.glo_ok X G (c.fact 7 (f:=.glo "greatest_of") rfl)
 obtain ⟨fd_worst_chain,F_worst_chain⟩:=c.def_ 8 (d:=zbf) rfl
 have q_worst_chain:=He.glo_ok X G (c.fact 8 (f:=.glo "worst_chain") rfl)
 obtain ⟨fd_need,F_need⟩:=c.def_ 9 (d:=znH) rfl
 have q_need:=He.glo_ok X G (c.fact 9 (f:=.glo "need") rfl)
 obtain ⟨fd_chain,F_chain⟩:=c.def_ 10 (d:=zk9) rfl
 have YW:=He.glo_ok X G (c.fact 10 (f:=.glo "chain") rfl)
 obtain ⟨fd__law_pen,F__law_pen⟩:=c.def_ 11 (d:=ze3) rfl
 have q__law_pen:=He.glo_ok X G (c.fact 11 (f:=.glo "_law_pen") rfl)
 obtain ⟨fd__law_pick,F__law_pick⟩:=c.def_ 12 (d:=zdv) rfl
 have q__law_pick:=He.glo_ok X G (c.fact 12 (f:=.glo "_law_pick") rfl)
 obtain ⟨fd__law_same,F__law_same⟩:=c.def_ 13 (d:=zdw) rfl
 have q__law_same:=He.glo_ok X G (c.fact 13 (f:=.glo "_law_same") rfl)
 obtain ⟨fd__law_folk,F__law_folk⟩:=c.def_ 14 (d:=zdx) rfl
 have q__law_folk:=He.glo_ok X G (c.fact 14 (f:=.glo "_law_folk") rfl)
 obtain ⟨fd__law_marks,F__law_marks⟩:=c.def_ 15 (d:=zb8) rfl
 have q__law_marks:=He.glo_ok X G (c.fact 15 (f:=.glo "_law_marks") rfl)
 obtain ⟨fd__law_in_order,F__law_in_order⟩:=c.def_ 16 (d:=JL) rfl
 have q__law_in_order:=He.glo_ok X G (c.fact 16 (f:=.glo "_law_in_order") rfl)
 obtain ⟨fd__law_room,F__law_room⟩:=c.def_ 17 (d:=zdy) rfl
 have q__law_room:=He.glo_ok X G (c.fact 17 (f:=.glo "_law_room") rfl)
 obtain ⟨fd__law_chain_need,F__law_chain_need⟩:=c.def_ 18 (d:=Qq) rfl
 have q__law_chain_need:=He.glo_ok X G (c.fact 18 (f:=.glo "_law_chain_need") rfl)
 obtain ⟨fd__law_chains,F__law_chains⟩:=c.def_ 19 (d:=zbg) rfl
 have q__law_chains:=He.glo_ok X G (c.fact 19 (f:=.glo "_law_chains") rfl)
 obtain ⟨fd__law_told,F__law_told⟩:=c.def_ 20 (d:=zdz) rfl
 have q__law_told:=He.glo_ok X G (c.fact 20 (f:=.glo "_law_told") rfl)
 obtain ⟨fd_law,F_law⟩:=c.def_ 21 (d:=zrd) rfl
 have q_law:=He.glo_ok X G (c.fact 21 (f:=.glo "law") rfl)
 have q_BadChain:=He.glo_ok X G (c.fact 22 (f:=.glo "BadChain") rfl)
 have q_BadSize:=He.glo_ok X G (c.fact 23 (f:=.glo "BadSize") rfl)
 have q_BadSymbols:=He.glo_ok X G (c.fact 24 (f:=.glo "BadSymbols") rfl)
 have q_SheetError:=He.glo_ok X G (c.fact 25 (f:=.glo "SheetError") rfl)
 obtain ⟨fd_SheetError___init__,F_SheetError___init__⟩:=c.def_ 22 (d:=YD) rfl
 obtain ⟨fd_BadChain___init__,F_BadChain___init__⟩:=c.def_ 23 (d:=Xl) rfl
 obtain ⟨fd_BadSize___init__,F_BadSize___init__⟩:=c.def_ 24 (d:=XM) rfl
 obtain ⟨fd_BadSymbols___init__,F_BadSymbols___init__⟩:=c.def_ 25 (d:=YF) rfl
 have m_len:=He.free_ok X G (c.fact 26 (f:=.free "len") rfl)
 have m_list:=He.free_ok X G (c.fact 27 (f:=.free "list") rfl)
 have m_all:=He.free_ok X G (c.fact 28 (f:=.free "all") rfl)
 have m_set:=He.free_ok X G (c.fact 29 (f:=.free "set") rfl)
 have m_sorted:=He.free_ok X G (c.fact 30 (f:=.free "sorted") rfl)
 have m_abs:=He.free_ok X G (c.fact 31 (f:=.free "abs") rfl)
 have m_range:=He.free_ok X G (c.fact 32 (f:=.free "range") rfl)
 have m_sum:=He.free_ok X G (c.fact 33 (f:=.free "sum") rfl)
 have m_enumerate:=He.free_ok X G (c.fact 34 (f:=.free "enumerate") rfl)
 have m_max:=He.free_ok X G (c.fact 35 (f:=.free "max") rfl)
 have m_min:=He.free_ok X G (c.fact 36 (f:=.free "min") rfl)
 have m_isinstance:=He.free_ok X G (c.fact 37 (f:=.free "isinstance") rfl)
 have m_tuple:=He.free_ok X G (c.fact 38 (f:=.free "tuple") rfl)
 have m_zip:=He.free_ok X G (c.fact 39 (f:=.free "zip") rfl)
 have m_bool:=He.free_ok X G (c.fact 40 (f:=.free "bool") rfl)
 have m_int:=He.free_ok X G (c.fact 41 (f:=.free "int") rfl)
 have m_str:=He.free_ok X G (c.fact 42 (f:=.free "str") rfl)
 have m_ValueError:=He.free_ok X G (c.fact 43 (f:=.free "ValueError") rfl)
 have g_MOST_NAME:=He.int_ok X G (c.fact 44 (f:=.int "MOST_NAME" (8)) rfl)
 have g_LETTERS:=He.str_ok X G (c.fact 45 (f:=.str "LETTERS" "abcdefghijklmnopqrstuvwxyz") rfl)
 have g_MOST_SYMBOLS:=He.int_ok X G (c.fact 46 (f:=.int "MOST_SYMBOLS" (8)) rfl)
 have g_MOST_SIZE:=He.int_ok X G (c.fact 47 (f:=.int "MOST_SIZE" (8)) rfl)
 have e:=hfa.symm.trans q_law
 cases e
 have b:=FunD.bindsA (ps:=["_law_script"]) F_law fun _ _ _ _ _ _ us hl=>match us,hl with | [_],_=>rfl
 refine ⟨fd_law,fun s v=>b s [v] rfl,fun base _ _ TBs=>?_⟩
 have l_ordered:zmP K base mg _ "ordered":=zlL F_ordered hT (p:=("ordered",none)) (List.mem_cons_self ..) rfl nd TBs
 have l_greatest_of:zmP K base mg _ "greatest_of":=zlL F_greatest_of hT (p:=("greatest_of",none)) (List.mem_cons_of_mem _ (List.mem_cons_self ..)) rfl nd TBs
 have hex:=hex
 unfold exF at hex
 simp only [Bool.and_eq_true] at hex
 obtain ⟨h0,h1,h2,h3,h4,h5⟩:=hex
 have hsup:=h5
 have o0:=JF (P:=P) (w:=w) (base:=base) m_ValueError (zqI h4) F_SheetError___init__
 have b0:Binds K fd_SheetError___init__ ["self","called"] []:=F_SheetError___init__.bindsN fun _ _ _ _ _ _ us hl=>match us,hl with | [_,_],_=>rfl
 have cf:=zqH h3
 have e_BadChain:Ex0 P w K mg base 2 "BadChain" "BadChain":=⟨_,_,fd_BadChain___init__,["self"],q_BadChain,zhJ h0,zaV q_SheetError cf o0 b0 F_BadChain___init__,F_BadChain___init__.bindsN fun _ _ _ _ _ _ us hl=>match us,hl with | [_],_=>rfl⟩
 have e_BadSize:Ex0 P w K mg base 2 "BadSize" "BadSize":=⟨_,_,fd_BadSize___init__,["self"],q_BadSize,zhJ h1,zbd q_SheetError cf o0 b0 F_BadSize___init__,F_BadSize___init__.bindsN fun _ _ _ _ _ _ us hl=>match us,hl with | [_],_=>rfl⟩
 have e_BadSymbols:Ex0 P w K mg base 2 "BadSymbols" "BadSymbols":=⟨_,_,fd_BadSymbols___init__,["self"],q_BadSymbols,zhJ h2,JH q_SheetError cf o0 b0 F_BadSymbols___init__,F_BadSymbols___init__.bindsN fun _ _ _ _ _ _ us hl=>match us,hl with | [_],_=>rfl⟩
 have k__law_pick:Fd P w K mg base 1 "_law_pick" zU:=zhT m_len F__law_pick q__law_pick
 have k__law_pen:zcm P w K mg base 8 "_law_pen":=zuf (zjk (k:=0) m_len m_list F__law_pen q__law_pen) (by decide)
 have k_is_name:Fd P w K mg base 1 "is_name" XH:=zkP m_len m_all g_MOST_NAME g_LETTERS F_is_name q_is_name (zhU znn)
 have k_ordered:Fd P w K mg base 1 "ordered" j7:=zkR m_sorted F_ordered q_ordered l_ordered (zhX znp)
 have k_room_for:Fd P w K mg base 1 "room_for" jL:=zjn m_abs F_room_for q_room_for (zgz zk3)
 have k_greatest_of:Fd P w K mg base 1 "greatest_of" qd:=zfR m_max m_min m_len F_greatest_of q_greatest_of l_greatest_of (zdi zgF)
 have k__law_in_order:Fd P w K mg base 1 "_law_in_order" jT:=zdm m_sorted F__law_in_order q__law_in_order (zb3 zeN)
 have k__law_room:Fd P w K mg base 1 "_law_room" Yp:=zh8 m_abs F__law_room q__law_room (zf5 zjZ)
 have k__law_chains:Fd P w K mg base 1 "_law_chains" Z0:=zf7 m_len F__law_chains q__law_chains (zdp zgH)
 have k_need_of:Fd P w K mg base 2 "need_of" XJ:=zkU m_range m_len m_sum (up k_room_for (by decide)) F_need_of q_need_of (zhY znA)
 have k_chains_to:Fd P w K mg base 2 "chains_to" Yo:=zh0 m_enumerate (up k_room_for (by decide)) (up k_greatest_of (by decide)) F_chains_to q_chains_to (zfP zj3)
 have k__law_folk:Fd P w K mg base 2 "_law_folk" Xc:=zh5 m_len m_range (up k__law_pick (by decide)) F__law_folk q__law_folk (zf4 zjX)
 have k__law_marks:Fd P w K mg base 2 "_law_marks" Yw:=zgD (up k__law_pick (by decide)) F__law_marks q__law_marks (zeK zig)
 have k__law_chain_need:Fd P w K mg base 2 "_law_chain_need" jm:=zb5 m_zip m_sum (up k__law_room (by decide)) F__law_chain_need q__law_chain_need (zaR zcQ)
 have k_worst_chain:Fd P w K mg base 3 "worst_chain" j8:=zfT (up k_greatest_of (by decide)) (up k_chains_to (by decide)) (up k_ordered (by decide)) F_worst_chain q_worst_chain (zdk zgG)
 have kx_need_symbols:Fx P w K mg base 4 "need_symbols" qC:=zeF m_len m_set m_all g_MOST_SYMBOLS (up k_is_name (by decide)) ⟨2,by decide,e_BadSymbols⟩ F_need_symbols q_need_symbols (zcC zeO)
 have k_need_symbols:Fd P w K mg base 4 "need_symbols" jA:=Fd.ofX kx_need_symbols (zcy zeP)
 have kx_need_size:Fx P w K mg base 4 "need_size" jK:=zhW g_MOST_SIZE ⟨2,by decide,e_BadSize⟩ F_need_size q_need_size (zfF zih)
 have k_need_size:Fd P w K mg base 4 "need_size" Yn:=Fd.ofX kx_need_size (zfA zij)
 have kx_need:FxK P w K mg base 5 "need" jx ["symbols","names","size"] [("size",V.int (2))] Jz:=zqU m_len m_all m_sorted m_set (kx_need_symbols.imp (by decide)) (up k_ordered (by decide)) (kx_need_size.imp (by decide)) (up k_need_of (by decide)) ⟨2,by decide,e_BadChain⟩ F_need q_need (znd zq7)
 have k_need:FdK P w K mg base 5 "need" jx ["symbols","names","size"] [("size",V.int (2))] zfB:=FdK.ofX kx_need (zm3 zq8)
 have k_chain:FdK P w K mg base 5 "chain" jw ["symbols","size"] [("size",V.int (2))] za4:=zpp (up k_need_symbols (by decide)) (up k_need_size (by decide)) (up k_worst_chain (by decide)) F_chain YW (zkZ zq9)
 have k__law_told:Fd P w K mg base 6 "_law_told" Xd:=zia (kx_need.imp (by decide)) ⟨_,q_BadChain⟩ (zsr X G hsup (by simp)) F__law_told q__law_told (zga zkb)
 have k__law_same:Fd P w K mg base 8 "_law_same" (yg 8):=zcR m_isinstance m_list m_tuple m_len m_all m_zip m_bool m_int m_str F__law_same q__law_same 8
 exact okL F_law fun cdv A outer s H E hr=>zt8 m_range m_max m_sorted m_len m_list (up k__law_marks (by decide)) (up k__law_folk (by decide)) (up k__law_pick (by decide)) (up k__law_in_order (by decide)) (up k__law_chains (by decide)) (up k__law_chain_need (by decide)) (upK k_chain (by decide)) (up k__law_same (by decide)) (up k__law_told (by decide)) (upK k_need (by decide)) k__law_pen cdv A outer s H E hr
end DL
open PySem PySem.W PySem.Calls PyProof.Rows
theorem PySem.Challenge.cw_scalesheet_k25_chains_and_their_needs_holds : PySem.Challenge.rw_scalesheet_k25_chains_and_their_needs.Holds := by
 w_on; o_law
 refine HandSHeadRun.head_any (r:=OpenLaw.row PySem.Challenge.rw_scalesheet_k25_chains_and_their_needs) (q:=view (OpenLaw.row PySem.Challenge.rw_scalesheet_k25_chains_and_their_needs).prog [34]) (H:=DL.hk) (ob:=DL.ob) (M:=20000) (loose:=DL.loose) (d:=HandSHeadRun.topDef (OpenLaw.row PySem.Challenge.rw_scalesheet_k25_chains_and_their_needs).prog 34) (kwd:=[]) DL.ob_eq
  (by kernel_rfl) (fun s=>by kernel_rfl) DL.run (by kernel_rfl) (by kernel_rfl) (by kernel_rfl) (by rfl) (by first | assumption | decide+kernel) (by decide+kernel) ⟨rfl,rfl,rfl,rfl,rfl,by decide+kernel⟩ ?hw ?hc
 case hw=>w_witness2
 case hc=>
  refine LamX.walk_ofTsE (l:=PySem.Challenge.rw_scalesheet_k25_chains_and_their_needs) (n:=63) (k:=9) (x:="_law_script") (CX:=fun _=>L2.CX0) rfl (by decide) (by kernel_rfl) ⟨rfl,by decide,by decide⟩ ?F (fun _ _ _ _ _ z=>z)
  intro w mg fa h Y G hmg0
  obtain ⟨K,KX,c⟩:=Y
  have hmg:mg ("law":PySem.Str)=some (.ref fa):=by
   have e:(HandSHeadRun.topDef (OpenLaw.row PySem.Challenge.rw_scalesheet_k25_chains_and_their_needs).prog 34).name=("law":PySem.Str):=by kernel_rfl
   rw [← e]
   exact hmg0
  letI:DL.Tb:={ T:=DL.zfs K DL.tf,cl:=He.ga K}
  obtain ⟨cm1,cm2⟩:=Bool.and_eq_true_iff.mp c.more
  obtain ⟨fd,hb,hF⟩:=DL.facts (P:=(PySem.Challenge.rw_scalesheet_k25_chains_and_their_needs).prog) (w:=w) KX G hmg c.t.d cm2 rfl rfl cm1
  refine ⟨K,KX,fd,DL.tf.map (He.cT K),DL.Q8 K DL.zg7,fun p hp=>?_,fun p hp=>?_,fun p hp=>?_,hb,fun H a ns hl _ hH hS=>DL.znD (DL.zoX hH) hl hS,fun base KB NB TB=>hF base KB NB fun p hp=>TB _ (List.mem_map.mpr ⟨p,hp,rfl⟩)⟩
  ·obtain ⟨r,hr,rfl⟩:=List.mem_map.mp hp
   exact c.empty r hr
  ·obtain ⟨r,hr,rfl⟩:=List.mem_map.mp hp
   exact c.out r hr
  ·obtain ⟨r,hr,rfl⟩:=List.mem_map.mp hp
   exact PySem.W.codeHd_of_K KX (c.hd r hr)
