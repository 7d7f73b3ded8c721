import PyProof.Rows.All
import Wide.All
import OpenK.AllK
import Wide.FinOn
import KE.KStateDown
import HandS.Defaults
import HandS.Words
import HandS.Call
import HandS.ExcInit
import HandS.Head0
import HandS.Head1
import HandS.Head2
import HandS.HeadEnd
import HandS.HeadHook1
import HandS.HeadHook2
import PySem.Challenge.RW_nudgebest_k81_a_keeper_refuses
import HandS.ForMost
import HandS.ForExc
import HandS.Wide
import HandS.IsInst
import HandS.CallSlots
import HandS.Style
import HandS.TupAny
import HandS.TupMul
import HandS.SortInts
import KE.KTupSum
import KE.GoesEnum
import HandS.More
import HandS.SetFor
import HandS.Conv
import HandS.Text
import KE.KRevSl
import HandS.ExcIs
import HandS.ExcField
import HandS.ExcValue
import KE.KExcIs
import PyProof.ReprRoads
import KE.DataFind
import KE.GoesZip
import KE.KDictZip
import PyProof.CollectWalk
import HandS.SortRule
import HandS.TupSets
import HandS.Dict
import PyProof.Rows.TupIter
import KE.SortData
import KE.KEqDict
import PyProof.EqKinds
import HandS.Deep
import HandS.Codes
import PyProof.StrBlock2
import HandS.RaiseFrom
import HandS.SuiteRaise
import HandS.ExcInitHot
set_option pp.maxSteps 40
set_option pp.deepTerms.threshold 1
set_option pp.proofs.threshold 1
set_option Elab.async false
set_option linter.all false
set_option maxRecDepth 100000
set_option maxHeartbeats 2000000
namespace DL
open PySem PySem.Spec PyProof.Rows L2
def frL {α:Type}:List Nat→(List Nat→α)→α
 | [],k=>k []
 | a::r,k=>HandSHeadRun.frNat a fun a=>frL r fun r=>k (a::r)
theorem ai1 {α:Type}:∀ (l:List Nat) (k:List Nat→α),frL l k=k l
 | [],_=>rfl
 | a::r,k=>by
  unfold frL
  rw [HandSHeadRun.frNat_eq,ai1 r]
def onO (o:Obj):List Addr:=match o.data with
 | .dict es _=>es.toList.flatMap fun e=>He.refV e.val
 | .func fd=>He.refV fd.code++He.refV fd.defaults
 | .cls cd=>[cd.ns]
 | _=>[]
def onA (g:Addr→Option Obj) (as:List Addr):List Addr:=as.flatMap fun a=>match g a with
 | some o=>onO o
 | none=>[]
def al9 (g:Addr→Option Obj) (names:List Str) (k:PySem.W.Frag→He.AlD):He.AlD :=
 frL (names.map fun x=>He.ga (He.frG g [mainGlobals]) x) fun A1=>frL (onA g A1) fun A2=>frL (onA g A2) fun A3=>frL (onA g A3) fun A4=>k (He.frG g (mainGlobals::PySem.cStatics::(A1++(A2++(A3++A4)))))
def atB (K:PySem.W.Frag) (d:He.DefD):Bool:=match d.at_.2 with
 | none=>(He.Fa.glo d.at_.1).ok K
 | some m=>(He.Fa.meth d.at_.1 m).ok K
def ai2 (fa:List He.Fa) (ex:PySem.W.Frag→List Bool) (fn:List He.DefD) (K:PySem.W.Frag):He.AlD :=
 ((fa.all fun f=>f.ok K) && ((ex K).all id && (fn.all fun d=>d.ok K && atB K d)),fn.map fun d=>He.fnW K d.at_)
def SaysX (fa:List He.Fa) (ex:PySem.W.Frag→List Bool) (fn:List He.DefD) (K:PySem.W.Frag):Prop:=ai2 fa ex fn K=He.valD fn
def obsX (names:List Str) (fa:List He.Fa) (ex:PySem.W.Frag→List Bool) (fn:List He.DefD) (g:Addr→Option Obj):He.AlD:=al9 g names (ai2 fa ex fn)
def hookX (names:List Str) (fa:List He.Fa) (ex:PySem.W.Frag→List Bool) (fn:List He.DefD):PySem.W.Hook where
 α:=He.AlD
 obs:=fun s=>obsX names fa ex fn s.heap.get?
 val:=fun _=>He.valD fn
 says:=fun _ h=>∃ K:PySem.W.Frag,K.In h∧SaysX fa ex fn K
 of:=fun _ s e=>by
  have e1:obsX names fa ex fn s.heap.get? = He.valD fn:=e
  unfold obsX al9 at e1
  simp only [ai1] at e1
  exact ⟨_,He.frG_in,e1⟩
 keeps:=fun _ _ _ ⟨K,hK,c⟩ k=>⟨K,PySem.W.Frag.In.keeps hK k,c⟩
theorem obsX_eq {names:List Str} {fa:List He.Fa} {ex:PySem.W.Frag→List Bool} {fn:List He.DefD} {g:Addr→Option Obj} {s:Shared} (h:∀ a,g a=s.heap.get? a):obsX names fa ex fn g=(hookX names fa ex fn).obs s:=by
 have e:g=s.heap.get? := funext h
 rw [e]<;>rfl
abbrev defAt (x:Str) (st:Stmt) (dfl:List He.Dv):He.DefD:=⟨(x,none),x,x,defArgs st,defBody st,defScope st,dfl,[]⟩
abbrev vm (C m q:Str) (st:Stmt):He.DefD:=⟨(C,some m),m,q,defArgs st,defBody st,defScope st,[],[]⟩
abbrev abu (C m q:Str) (st:Stmt) (dfl:List He.Dv):He.DefD:=⟨(C,some m),m,q,defArgs st,defBody st,defScope st,dfl,[]⟩
def ahj (K:PySem.W.Frag) (C:Addr):Bool:=(PySem.W.clsIn K C).isSome && (decide (PySem.W.findIn K (.ref C) "__getattribute__" = some (some (.builtin "BaseException.__getattribute__"))) && (decide (PySem.W.findIn K (.ref C) "__getattr__" = some none) &&
 (decide (PySem.W.subIn K (.ref C) (.type "BaseException")=some true) && (decide (PySem.W.findIn K (.ref C) "__class__" = some (some (.builtin "object.__class__"))) && (decide (PySem.W.specialIn K (.builtin "object.__class__") "__get__" = some (some (.builtin "getset_descriptor.__get__"))) &&
 (decide (PySem.W.takesIn K (.builtin "object.__class__")=some true) && (decide (PySem.W.mroIn K C (.type "object")=some true) && PySem.W.hasDictIn K C)))))))
def akH (C:Addr) (o:Obj):Bool:=match o.cls,o.data with
 | .type t,.cls cd=>decide (t="type") && (match cd.mro,o.slots.toList with
  | .ref C'::bm,[_,_,_,_,some (.builtin n),_]=>decide (C'=C) && (decide (n="ValueError.__new__") && (!cd.hasDel && (cd.hasDict && PySem.HandSPX.refsVE bm)))
  | _,_=>false)
 | _,_=>false
def anw (K:PySem.W.Frag) (C:Addr):Bool:=(match K.lookup C with
 | some o=>akH C o
 | none=>false) && (decide (PySem.W.findIn K (.ref C) "__setattr__" = some (some (.builtin "object.__setattr__"))) && (decide (PySem.W.subIn K (.ref C) (.type "BaseException")=some true) && (decide (PySem.W.typeIn K (.ref C)=some (.type "type")) && PySem.W.keepIn K (.ref C))))
def ai3 (K:PySem.W.Frag) (B:Addr):Bool:=decide (PySem.W.specialIn K (.ref B) "__getattribute__" = some (some (.builtin "type.__getattribute__"))) && (PySem.W.readsIn K B (.type "type") &&
 (match PySem.W.findCls K (.ref B) (.type "type") "__init__" with
 | some (.val (.builtin n))=>decide (n="ValueError.__init__")
 | _=>false))
def clsAt:Stmt→Nat→Stmt
 | .ClassDef _ _ _ body ..,j=>body.getD j (.Pass ⟨0,0,0,0⟩)
 | s,_=>s
end DL
set_option pp.deepTerms false
namespace pQ
open PySem PySem.Spec L2 DL
def cM (i : Nat) : Stmt := PySem.Challenge.pw_nudgebest_k81_a_keeper_refuses.main.body.getD i (.Pass ⟨0, 0, 0, 0⟩)
abbrev GF:Stmt:=cM 118
abbrev vU:Stmt:=cM 125
abbrev pU:Stmt:=cM 127
abbrev vW:Stmt:=cM 126
abbrev oN:Stmt:=cM 128
abbrev lu:Stmt:=cM 129
abbrev lA:Stmt:=cM 130
abbrev jA:Stmt:=cM 131
abbrev oW:Stmt:=cM 132
abbrev GJ:Stmt:=cM 133
abbrev vo:Stmt:=cM 134
abbrev KY:Stmt:=cM 119
abbrev zV:Stmt:=cM 124
abbrev Eb:Stmt:=cM 121
abbrev GP:Stmt:=cM 120
abbrev Ec:Stmt:=cM 135
abbrev zW:Stmt:=cM 136
abbrev mK:Stmt:=cM 137
abbrev yq:Stmt:=cM 116
abbrev GX:Stmt:=cM 117
abbrev GZ:Stmt:=cM 10
abbrev Qv:Stmt:=cM 11
abbrev yr:Stmt:=cM 12
abbrev su:Stmt:=cM 94
abbrev Ed:Stmt:=cM 30
abbrev vp:Stmt:=cM 31
abbrev G3:Stmt:=cM 32
abbrev Qw:Stmt:=cM 33
abbrev Qx:Stmt:=cM 34
abbrev KZ:Stmt:=cM 35
abbrev K6:Stmt:=cM 36
abbrev Ef:Stmt:=cM 37
abbrev G4:Stmt:=cM 38
abbrev G5:Stmt:=cM 39
abbrev G6:Stmt:=cM 40
abbrev vq:Stmt:=cM 42
abbrev sE:Stmt:=cM 49
abbrev uM:Stmt:=cM 50
abbrev Jj:Stmt:=cM 43
abbrev tR:Stmt:=cM 44
abbrev K7:Stmt:=cM 45
abbrev vX:Stmt:=cM 46
abbrev oO:Stmt:=cM 47
abbrev oR:Stmt:=cM 48
abbrev K8:Stmt:=cM 51
abbrev K9:Stmt:=cM 95
abbrev sG:Stmt:=cM 96
abbrev La:Stmt:=cM 97
abbrev V6:Stmt:=cM 18
abbrev G7:Stmt:=cM 98
abbrev sH:Stmt:=cM 99
abbrev Fp:Stmt:=cM 102
abbrev xP:Stmt:=cM 100
abbrev qW:Stmt:=cM 101
abbrev vY:Stmt:=cM 103
abbrev Jk:Stmt:=cM 104
abbrev qX:Stmt:=clsAt (cM 114) 0
abbrev Ld:Stmt:=cM 139
abbrev zX:Stmt:=cM 138
abbrev zY:Stmt:=cM 142
abbrev z8:Stmt:=cM 140
abbrev nA:Stmt:=clsAt (cM 114) 1
abbrev uN:Stmt:=clsAt (cM 114) 2
abbrev Eh:Stmt:=cM 113
abbrev vZ:Stmt:=clsAt (cM 114) 3
abbrev v7:Stmt:=clsAt (cM 114) 4
abbrev v8:Stmt:=clsAt (cM 114) 5
abbrev yt:Stmt:=clsAt (cM 114) 6
abbrev Ei:Stmt:=clsAt (cM 114) 7
abbrev G8:Stmt:=cM 141
abbrev Le:Stmt:=cM 144
abbrev z9:Stmt:=cM 145
abbrev uO:Stmt:=cM 146
abbrev Lf:Stmt:=cM 147
abbrev G9:Stmt:=cM 143
abbrev yu:Stmt:=clsAt (cM 114) 10
abbrev v9:Stmt:=clsAt (cM 114) 11
abbrev Hf:Stmt:=cM 148
abbrev Zm:Stmt:=cM 149
abbrev Lg:Stmt:=clsAt (cM 3) 0
def apm:List He.DefD:=[defAt "_law_take" GF [],defAt "_law_shuffled" vU [],defAt "_law_more_ties" pU [],defAt "_law_spanning" vW [],defAt "_law_web_wish" oN [],defAt "_law_pair_wish" lu [],defAt "_law_deal_wish" lA [],defAt "_law_stream_wish" jA [],defAt "_law_bench_wish" oW [],defAt "_law_wish" GJ [],defAt "_law_wishes" vo [],defAt "_law_low" KY []]
def apn:List He.DefD:=[defAt "_law_number" zV [],defAt "_law_minus" Eb [],defAt "_law_plus" GP [],defAt "_law_bound" Ec [],defAt "_law_weight" zW [],defAt "_law_task" mK [],defAt "_law_cell_at" yq [],defAt "_law_pool" GX [],defAt "is_whole" GZ [],defAt "shared" Qv [],defAt "is_fraction" yr [],defAt "look_at_prices" su []]
def apo:List He.DefD:=[defAt "is_within" Ed [],defAt "are_within" vp [],defAt "are_ties" G3 [],defAt "is_web" Qw [],defAt "is_way" Qx [],defAt "is_pair" KZ [],defAt "is_deal" K6 [],defAt "is_stream" Ef [],defAt "is_bench" G4 [],defAt "is_shape" G5 [],defAt "items_of" G6 [],defAt "are_counts" vq []]
def apq:List He.DefD:=[defAt "is_stream_plan" sE [],defAt "is_bench_plan" uM [],defAt "chosen" Jj [],defAt "is_way_plan" tR [],defAt "come_to" K7 [],defAt "is_tree_plan" vX [],defAt "is_pair_plan" oO [],defAt "is_deal_plan" oR [],defAt "is_plan" K8 [],defAt "is_wish" K9 [],defAt "look_at_wishes" sG [],defAt "is_side" La []]
def apr:List He.DefD:=[defAt "under" V6 [],defAt "is_bound" G7 [],defAt "look_at_bounds" sH [],defAt "has_way" Fp [],defAt "is_weight" xP [],defAt "look_at_weights" qW [],defAt "look_at_task" vY [],defAt "copied" Jk [],vm "Keeper" "__init__" "Keeper.__init__" qX,defAt "_law_row" Ld [],defAt "_law_deed" zX [],defAt "_law_looked" zY []]
def aps:List He.DefD:=[defAt "_law_behind" z8 [],vm "Keeper" "look_at_item" "Keeper.look_at_item" nA,vm "Keeper" "become" "Keeper.become" uN,defAt "with_part" Eh [],vm "Keeper" "price" "Keeper.price" vZ,abu "Keeper" "bound" "Keeper.bound" v7 [.non,.non],abu "Keeper" "weigh" "Keeper.weigh" v8 [],vm "Keeper" "wish" "Keeper.wish" yt,vm "Keeper" "by" "Keeper.by" Ei,defAt "_law_done" G8 [],defAt "_law_odd" Le [],defAt "_law_spoilt" z9 []]
def apt:List He.DefD:=[defAt "_law_is_number" uO [],defAt "_law_due" Lf [],defAt "_law_kind" G9 [],vm "Keeper" "task" "Keeper.task" yu,vm "Keeper" "deeds" "Keeper.deeds" v9,defAt "_law_made" Hf [],defAt "law" Zm [],vm "NoTask" "__init__" "NoTask.__init__" Lg]
def fnL:List He.DefD:=apm++apn++apo++apq++apr++aps++apt
def apu:List He.Fa:=[.free "len",.free "range",.free "tuple",.free "enumerate",.free "list",.free "min",.free "int",.free "zip",.free "abs",.free "isinstance",.free "bool",.free "all"]
def apv:List He.Fa:=[.free "sum",.free "str",.free "sorted",.free "max",.free "ValueError",.glo "NOUGHT_ratios",.int "MOST_ITEMS" 16,.int "MOST_PLACES" 10,.int "MOST_PAIRS" 6,.int "MOST_HANDS" 4,.int "MOST_ROOM" 6,.int "MOST_WORKS" 6]
def apw:List He.Fa:=[.int "MOST_FLOW" 9,.int "MOST_BENCH" 8,.glo "TIED",.int "MOST_WISHES" 4,.glo "WORDS",.glo "NoItem",.exc "NoItem",.glo "NoWish",.exc "NoWish",.glo "NoTask",.glo "NudgeError",.glo "Keeper"]
def apx:List He.Fa:=[.exm "NoTask" "NoTask" true,.exm "NoTask" "NudgeError" true,.exm "NoItem" "NudgeError" true,.exm "NoWish" "NudgeError" true,.noat "NoTask" "part",.noat "NoTask" "number",.cls "Keeper",.noat "Keeper" "kept",.noat "Keeper" "first",.noat "Keeper" "past",.mkr "Keeper"]
def faL:List He.Fa:=apu++apv++apw++apx
def exL (K:PySem.W.Frag):List Bool:=[He.tupB K "NOUGHT_ratios" [.int 0,.int 1],He.tupB K "TIED" [.str "way",.str "tree",.str "pair",.str "stream"],He.tupB K "WORDS" [.str "sum",.str "greatest"],ahj K (He.ga K "NoTask"),ahj K (He.ga K "NoItem"),ahj K (He.ga K "NoWish"),decide (PySem.W.kitOne K (.ref (He.ga K "NoTask")) (.ref (He.ga K "NoTask"))=some true),decide (PySem.W.kitOne K (.ref (He.ga K "NoItem")) (.ref (He.ga K "NoTask"))=some false),decide (PySem.W.kitOne K (.ref (He.ga K "NoItem")) (.ref (He.ga K "NoItem"))=some true),decide (PySem.W.kitOne K (.ref (He.ga K "NoItem")) (.ref (He.ga K "NoWish"))=some false),decide (PySem.W.kitOne K (.ref (He.ga K "NoItem")) (.type "ValueError")=some true),decide (PySem.W.kitOne K (.ref (He.ga K "NoWish")) (.ref (He.ga K "NoTask"))=some false),decide (PySem.W.kitOne K (.ref (He.ga K "NoWish")) (.ref (He.ga K "NoItem"))=some false),decide (PySem.W.kitOne K (.ref (He.ga K "NoWish")) (.ref (He.ga K "NoWish"))=some true),decide (PySem.W.kitOne K (.ref (He.ga K "NoWish")) (.type "ValueError")=some true),anw K (He.ga K "NoTask"),ai3 K (He.ga K "NudgeError")]
def apy:List Str:=["law","NudgeError","NoTask","NoItem","NoWish","NOUGHT_ratios","is_whole","shared","is_fraction","under","MOST_ITEMS","MOST_PLACES"]
def apz:List Str:=["MOST_PAIRS","MOST_HANDS","MOST_ROOM","MOST_WORKS","MOST_FLOW","MOST_BENCH","TIED","is_within","are_within","are_ties","is_web","is_way"]
def apA:List Str:=["is_pair","is_deal","is_stream","is_bench","is_shape","items_of","are_counts","chosen","is_way_plan","come_to","is_tree_plan","is_pair_plan"]
def apB:List Str:=["is_deal_plan","is_stream_plan","is_bench_plan","is_plan","MOST_WISHES","WORDS","look_at_prices","is_wish","look_at_wishes","is_side","is_bound","look_at_bounds"]
def apC:List Str:=["is_weight","look_at_weights","has_way","look_at_task","copied","with_part","Keeper","_law_cell_at","_law_pool","_law_take","_law_low","_law_plus"]
def apD:List Str:=["_law_minus","_law_number","_law_shuffled","_law_spanning","_law_more_ties","_law_web_wish","_law_pair_wish","_law_deal_wish","_law_stream_wish","_law_bench_wish","_law_wish","_law_wishes"]
def apE:List Str:=["_law_bound","_law_weight","_law_task","_law_deed","_law_row","_law_behind","_law_done","_law_looked","_law_kind","_law_odd","_law_spoilt","_law_is_number"]
def apF:List Str:=["_law_due","_law_made"]
def nmL:List Str:=apy++apz++apA++apB++apC++apD++apE++apF
def apG:List Str:=["_wall","__name__","NudgeError","NoTask","NoNumber","NoItem","NoWish","NOUGHT_ratios","ONE","is_whole","shared","is_fraction"]
def apH:List Str:=["lowest","plus","minus","times","over","under","total","MOST_ITEMS","MOST_PLACES","MOST_PAIRS","MOST_HANDS","MOST_ROOM"]
def apI:List Str:=["MOST_WORKS","MOST_FLOW","MOST_BENCH","TIED","is_within","are_within","are_ties","is_web","is_way","is_pair","is_deal","is_stream"]
def apJ:List Str:=["is_bench","is_shape","items_of","are_counts","chosen","is_way_plan","come_to","is_tree_plan","is_pair_plan","is_deal_plan","is_stream_plan","is_bench_plan"]
def apK:List Str:=["is_plan","cost","NOUGHT_walks","gone_along","least_fars","both_ways","arcs_left","still_needed","nearest","row_to","changed_along","best_stream"]
def apL:List Str:=["plan_with","best_way","by_prices","best_tree","put_in","best_pair","best_deal","goes_ahead","counts_in_order","best_bench","best_plan","changed"]
def apM:List Str:=["greatest","part_weight","weight_of","pulls","size_of","common","Board","Search","least_change","MOST_WISHES","WORDS","look_at_prices"]
def apO:List Str:=["is_wish","look_at_wishes","is_side","is_bound","look_at_bounds","is_weight","look_at_weights","has_way","look_at_task","copied","shown_fraction","shown_side"]
def apP:List Str:=["shown_two","shown_ties","shown_shape","shown","with_part","Keeper","_law_cell_at","_law_pool","_law_take","_law_low","_law_plus","_law_minus"]
def apQ:List Str:=["_law_times","_law_less","_law_number","_law_shuffled","_law_spanning","_law_more_ties","_law_web_wish","_law_pair_wish","_law_deal_wish","_law_stream_wish","_law_bench_wish","_law_wish"]
def aoK:List Str:=["_law_wishes","_law_bound","_law_weight","_law_task","_law_deed","_law_row","_law_behind","_law_done","_law_looked","_law_kind","_law_odd","_law_spoilt"]
def aoL:List Str:=["_law_is_number","_law_due","_law_made"]
def loL:List Str:=apG++apH++apI++apJ++apK++apL++apM++apO++apP++apQ++aoK++aoL
abbrev hkL:PySem.W.Hook:=hookX nmL faL exL fnL
def obL (s:PySem.W.SharedT):He.AlD:=obsX nmL faL exL fnL (HandSHeadRun.getT s)
theorem anx (s:PySem.W.SharedT):obL s=hkL.obs s.abs:=obsX_eq (HandSHeadRun.getT_eq s)
abbrev Nz : PySem.W.OpenRow := PySem.W.OpenLaw.row PySem.Challenge.rw_nudgebest_k81_a_keeper_refuses
theorem apR (w:World):HandSHeadRun.RunEq Nz (PySem.W.view Nz.prog [149]) hkL obL 30000 loL w:=by
 intro os
 kernel_rfl
end pQ
open PySem PySem.W PySem.Calls PyProof.Rows in
set_option maxHeartbeats 0 in
theorem pQ.ahk (hc : PySem.W.WalkO (PySem.W.view pQ.Nz.prog [149]) pQ.loL (PySem.W.XL (PySem.W.view pQ.Nz.prog [149]) []) pQ.hkL.says pQ.Nz.toRowW (HandSHeadRun.topDef pQ.Nz.prog 149) [] fun f vs => PySem.call f vs) : PySem.Challenge.rw_nudgebest_k81_a_keeper_refuses.Holds := by
 w_on;o_law
 refine HandSHeadRun.head_any (r:=pQ.Nz) (q:=view pQ.Nz.prog [149]) (H:=pQ.hkL) (ob:=pQ.obL) (M:=30000) (loose:=pQ.loL) (d:=HandSHeadRun.topDef pQ.Nz.prog 149) (kwd:=[]) pQ.anx
  (by kernel_rfl) (fun s=>by kernel_rfl) pQ.apR (by kernel_rfl) (by kernel_rfl) (by kernel_rfl) (by rfl) (by first | assumption | decide +kernel) (by decide +kernel) ⟨rfl,rfl,rfl,rfl,rfl,by decide +kernel⟩ ?hw hc
 case hw=>w_witness2
namespace pQ
end pQ
namespace DL
open PySem PySem.Spec PyProof.Rows L2
inductive D where
 | non | bl (b:Bool) | int (i:Int) | str (x:Str)
 | lst (xs:List D) | tup (xs:List D) | dJ (ns:List Int) | raw (v:V) | emp | key (ks:List Key)
mutual
inductive Rep (K:PySem.W.Frag) (H:Hp):V→D→Prop
 | non:Rep K H .non .non
 | bl (b:Bool):Rep K H (.bl b) (.bl b)
 | int (i:Int):Rep K H (.int i) (.int i)
 | str (x:Str):Rep K H (.str x) (.str x)
 | lst {a:Addr} {xs:List V} {ds:List D}:H a=some (.lst xs)→bH K H xs ds→Rep K H (.ref a) (.lst ds)
 | tup {a:Addr} {xs:List V} {ds:List D}:SqT K H a xs→bH K H xs ds→Rep K H (.ref a) (.tup ds)
 | dJ {a:Addr} {ns:List Int}:SqL K H a (ns.map V.int)→Rep K H (.ref a) (.dJ ns)
 | raw (v:V):Rep K H v (.raw v)
 | emp {a:Addr}:H a=some (.dK [])→Rep K H (.ref a) .emp
 | key {a:Addr} {ks:List Key}:H a=some (.tup (ks.map kV))→Rep K H (.ref a) (.key ks)
inductive bH (K:PySem.W.Frag) (H:Hp):List V→List D→Prop
 | nil:bH K H [] []
 | cons {v:V} {vs:List V} {d:D} {ds:List D}:Rep K H v d→bH K H vs ds→bH K H (v::vs) (d::ds)
end
section
variable {K:PySem.W.Frag} {H H':Hp}
theorem xQ {a:Addr} {xs:List V} (e:Same H H') (h:SqT K H a xs):SqT K H' a xs:=by
 rcases h with (h | ⟨o,h⟩) | h
 ·exact .inl (.inl (e _ _ h))
 ·exact .inl (.inr ⟨o,e _ _ h⟩)
 ·exact .inr h
mutual
theorem Rep.mono (e:Same H H'):∀ {v:V} {d:D},Rep K H v d→Rep K H' v d
 | _,_,.non => .non
 | _,_,.bl b => .bl b
 | _,_,.int i => .int i
 | _,_,.str x => .str x
 | _,_,.lst h r => .lst (e _ _ h) (bH.mono e r)
 | _,_,.tup h r => .tup (xQ e h) (bH.mono e r)
 | _,_,.dJ h => .dJ (e.seq h)
 | _,_,.raw v => .raw v
 | _,_,.emp h => .emp (e _ _ h)
 | _,_,.key h => .key (e _ _ h)
theorem bH.mono (e:Same H H'):∀ {vs:List V} {ds:List D},bH K H vs ds→bH K H' vs ds
 | _,_,.nil => .nil
 | _,_,.cons h r => .cons (Rep.mono e h) (bH.mono e r)
end
theorem bH.length:∀ {vs:List V} {ds:List D},bH K H vs ds→vs.length=ds.length
 | _,_,.nil=>rfl
 | _,_,.cons _ r=>congrArg (· + 1) r.length
theorem bH.get:∀ {vs:List V} {ds:List D} {i:Nat} {d:D},bH K H vs ds→ds[i]? = some d→∃ v,vs[i]? = some v∧Rep K H v d
 | _,_,_,_,.nil,h=>by simp at h
 | _,_,0,_,.cons a _,h=>by
  have e:=Option.some.inj h
  subst e
  exact ⟨_,rfl,a⟩
 | _,_,i+1,_,.cons _ r,h=>bH.get (i:=i) r h
theorem bH.append:∀ {vs ws:List V} {ds es:List D},bH K H vs ds→bH K H ws es→bH K H (vs++ws) (ds++es)
 | _,_,_,_,.nil,s=>s
 | _,_,_,_,.cons a r,s => .cons a (bH.append r s)
theorem bH.one {v:V} {d:D} (h:Rep K H v d):bH K H [v] [d] := .cons h .nil
theorem bH.take:∀ {vs:List V} {ds:List D} (n:Nat),bH K H vs ds→bH K H (vs.take n) (ds.take n)
 | _,_,0,_ => .nil
 | _,_,_+1,.nil => .nil
 | _,_,n+1,.cons a r => .cons a (bH.take n r)
theorem bH.drop:∀ {vs:List V} {ds:List D} (n:Nat),bH K H vs ds→bH K H (vs.drop n) (ds.drop n)
 | _,_,0,r=>r
 | _,_,_+1,.nil => .nil
 | _,_,n+1,.cons _ r=>bH.drop n r
theorem bH.set {v:V} {d:D} (h:Rep K H v d):∀ {vs:List V} {ds:List D} (n:Nat),bH K H vs ds→bH K H (vs.set n v) (ds.set n d)
 | _,_,_,.nil => .nil
 | _,_,0,.cons _ r => .cons h r
 | _,_,n+1,.cons a r => .cons a (bH.set h n r)
theorem bH.ints:∀ {vs:List V} {ns:List Int},bH K H vs (ns.map D.int)→vs=ns.map V.int
 | _,[],r=>by cases r;rfl
 | _,n::ns,r=>by
  cases r with
  | cons a r=>cases a;rw [bH.ints r];rfl
theorem bH.bls:∀ {vs:List V} {bs:List Bool},bH K H vs (bs.map D.bl)→vs=bs.map V.bl
 | _,[],r=>by cases r;rfl
 | _,n::ns,r=>by
  cases r with
  | cons a r=>cases a;rw [bH.bls r];rfl
theorem bH.ofInts:∀ (ns:List Int),bH K H (ns.map V.int) (ns.map D.int)
 | [] => .nil
 | n::ns => .cons (.int n) (bH.ofInts ns)
end
inductive C where
 | lst (ds:List D) | dk (kvs:List (Key × D)) | dt (kvs:List (List Key × D)) | ins (C dx:Addr) (fs:List (Str × D)) | own (x:Addr) | exc (cls:Value) (fs:Option (List (Str × D)))
 | zk (od:Obj) (vs:List (Key × V)) (kvs:List (Key × D)) | zt (od:Obj) (vs:List (List Key × V)) (kvs:List (List Key × D))
def Hg:Option C→Option (List D)
 | some (.lst ds)=>some ds
 | _=>none
@[simp] theorem Lh {ds:List D}:Hg (some (.lst ds))=some ds:=rfl
@[simp] theorem Hh:Hg none=none:=rfl
theorem Zo {o:Option C} {ds:List D} (h:Hg o=some ds):o=some (.lst ds):=by
 cases o with
 | none=>cases h
 | some c =>
  cases c with
  | lst es=>cases h;rfl
  | _=>cases h
abbrev M:=Addr→Option C
def cC (μ:M) (p:Addr) (c:C):M:=fun b=>if b=p then some c else μ b
def vA (μ:M) (p:Addr):M:=fun b=>if b=p then none else μ b
theorem aP {μ:M} {p:Addr} {c:C}:cC μ p c p=some c:=by unfold cC;rw [if_pos rfl]
theorem bL {μ:M} {p q:Addr} {c:C} (h:q≠p):cC μ p c q=μ q:=by unfold cC;rw [if_neg h]
theorem Cg {μ:M} {p:Addr} {c d:C}:cC (cC μ p c) p d=cC μ p d:=by funext b;unfold cC;split<;>rfl
theorem abv {μ:M} {p:Addr} {c:C} (h:μ p=none):vA (cC μ p c) p=μ:=by
 funext b
 unfold vA cC
 by_cases e:b=p
 ·rw [if_pos e,e,h]
 ·rw [if_neg e,if_neg e]
theorem Jl {μ:M} {p q:Addr} {c:C} (h:μ p=some c) (h':μ q=none):p≠q:=by
 intro e
 rw [e,h'] at h
 cases h
inductive jJ (K:PySem.W.Frag) (H:Hp):List (Str × V)→List (Str × D)→Prop
 | nil:jJ K H [] []
 | cons {x:Str} {v:V} {d:D} {vs:List (Str × V)} {ds:List (Str × D)}:Rep K H v d→jJ K H vs ds→jJ K H ((x,v)::vs) ((x,d)::ds)
theorem jJ.mono {K:PySem.W.Frag} {H H':Hp} (e:Same H H'):∀ {vs:List (Str × V)} {ds:List (Str × D)},jJ K H vs ds→jJ K H' vs ds
 | _,_,.nil => .nil
 | _,_,.cons h r => .cons (h.mono e) (jJ.mono e r)
inductive iK (K:PySem.W.Frag) (H:Hp) {κ:Type}:List (κ × V)→List (κ × D)→Prop
 | nil:iK K H [] []
 | cons {x:κ} {v:V} {d:D} {vs:List (κ × V)} {ds:List (κ × D)}:Rep K H v d→iK K H vs ds→iK K H ((x,v)::vs) ((x,d)::ds)
theorem iK.mono {K:PySem.W.Frag} {κ:Type} {H H':Hp} (e:Same H H'):∀ {vs:List (κ × V)} {ds:List (κ × D)},iK K H vs ds→iK K H' vs ds
 | _,_,.nil => .nil
 | _,_,.cons h r => .cons (h.mono e) (iK.mono e r)
def ExP (cls:Value) (a:Addr) (d:Option Addr) (h:Heap):Prop:=∃ (oe:Obj) (vs:Array Value),h.get? a=some oe∧oe.cls=cls∧oe.dict=d∧oe.data = .fields vs
def XOk (K:PySem.W.Frag) (Hc:Hp):Option Addr→Option (List (Str × D))→Prop
 | none,none=>True
 | some a,some fs=>∃ vs,Hc a=some (.xd vs)∧jJ K Hc vs fs
 | _,_=>False
theorem XOk.mono {K:PySem.W.Frag} {H H':Hp} (e:Same H H'):∀ {d:Option Addr} {fs:Option (List (Str × D))},XOk K H d fs→XOk K H' d fs
 | none,none,_=>True.intro
 | some a,some fs,⟨vs,h,r⟩=>⟨vs,e _ _ h,r.mono e⟩
def Jm (K:PySem.W.Frag) (Hc:Hp) (p:Addr):C→HO→Prop
 | .lst ds,o=>∃ vs,o = .lst vs∧bH K Hc vs ds
 | .dk kvs,o=>∃ vs,o = .dK vs∧iK K Hc vs kvs
 | .dt kvs,o=>∃ vs,o = .dT vs∧iK K Hc vs kvs
 | .zk od vs kvs,o=>o = .frz od (.dK vs)∧iK K Hc vs kvs
 | .zt od vs kvs,o=>o = .frz od (.dT vs)∧iK K Hc vs kvs
 | .ins C dx fs,o=>∃ vs,o = .ins C dx vs∧jJ K Hc vs fs
 | .own x,o=>o = .own x
 | .exc cls fs,o=>∃ φ d,o = .ext φ∧(∀ h,φ h→ExP cls p d h)∧XOk K Hc d fs
structure Split (K:PySem.W.Frag) (H Hc:Hp) (μ:M):Prop where
 cell:∀ p c,μ p=some c→Hc p=none∧∃ o,H p=some o∧Jm K Hc p c o
 rest:∀ p,μ p=none→H p=Hc p
theorem Jm.mono {K:PySem.W.Frag} {Hc bJ:Hp} {p:Addr} (e:Same Hc bJ):∀ {c:C} {o:HO},Jm K Hc p c o→Jm K bJ p c o
 | .lst _,_,⟨vs,h,r⟩=>⟨vs,h,r.mono e⟩
 | .dk _,_,⟨vs,h,r⟩=>⟨vs,h,r.mono e⟩
 | .dt _,_,⟨vs,h,r⟩=>⟨vs,h,r.mono e⟩
 | .zk _ _ _,_,⟨h,r⟩=>⟨h,r.mono e⟩
 | .zt _ _ _,_,⟨h,r⟩=>⟨h,r.mono e⟩
 | .ins _ _ _,_,⟨vs,h,r⟩=>⟨vs,h,r.mono e⟩
 | .own _,_,h=>h
 | .exc _ _,_,⟨φ,d,h1,h2,h3⟩=>⟨φ,d,h1,h2,h3.mono e⟩
section
variable {K:PySem.W.Frag} {H Hc:Hp} {μ:M}
theorem Split.same (s:Split K H Hc μ):Same Hc H:=fun a o h=>by
 cases e:μ a with
 | none=>rw [s.rest a e];exact h
 | some c=>rw [(s.cell a c e).1] at h;cases h
theorem Split.fresh (s:Split K H Hc μ) {p:Addr} (h:H p=none):μ p=none∧Hc p=none:=by
 cases e:μ p with
 | none=>exact ⟨rfl,by rw [← s.rest p e];exact h⟩
 | some c =>
  obtain ⟨_,o,ho,_⟩:=s.cell p c e
  rw [h] at ho
  cases ho
theorem oX {Hc:Hp} {p:Addr} {o:HO} (h:Hc p=none):Same Hc (upd Hc p o):=fun b x e=>by
 rw [upd_ne (ne_of_none e h)]
 exact e
theorem Split.data (s:Split K H Hc μ) {p:Addr} {o:HO} (h:H p=none):Split K (upd H p o) (upd Hc p o) μ:=by
 obtain ⟨h1,h2⟩:=s.fresh h
 refine ⟨fun q c e => ?_,fun q e => ?_⟩
 ·have ne:q≠p:=fun z=>by rw [z,h1] at e;cases e
  obtain ⟨a,o',b,c'⟩:=s.cell q c e
  exact ⟨by rw [upd_ne ne];exact a,o',by rw [upd_ne ne];exact b,c'.mono (oX h2)⟩
 ·by_cases ne:q=p
  ·rw [ne,upd_same,upd_same]
  ·rw [upd_ne ne,upd_ne ne]
   exact s.rest q e
theorem Split.new (s:Split K H Hc μ) {p:Addr} {o:HO} {c:C} (h:H p=none) (ok:Jm K Hc p c o):Split K (upd H p o) Hc (cC μ p c):=by
 obtain ⟨h1,h2⟩:=s.fresh h
 refine ⟨fun q c' e => ?_,fun q e => ?_⟩
 ·by_cases ne:q=p
  ·subst ne
   rw [aP] at e
   cases e
   exact ⟨h2,o,upd_same,ok⟩
  ·rw [bL ne] at e
   rw [upd_ne ne]
   exact s.cell q c' e
 ·by_cases ne:q=p
  ·subst ne
   rw [aP] at e
   cases e
  ·rw [bL ne] at e
   rw [upd_ne ne]
   exact s.rest q e
theorem Split.put (s:Split K H Hc μ) {p:Addr} {o:HO} {c c':C} (h:μ p=some c) (ok:Jm K Hc p c' o):Split K (upd H p o) Hc (cC μ p c'):=by
 refine ⟨fun q c2 e => ?_,fun q e => ?_⟩
 ·by_cases ne:q=p
  ·subst ne
   rw [aP] at e
   cases e
   exact ⟨(s.cell q c h).1,o,upd_same,ok⟩
  ·rw [bL ne] at e
   rw [upd_ne ne]
   exact s.cell q c2 e
 ·by_cases ne:q=p
  ·subst ne
   rw [aP] at e
   cases e
  ·rw [bL ne] at e
   rw [upd_ne ne]
   exact s.rest q e
end
def Sub (μ μ':M):Prop:=∀ p c,μ p=some c→μ' p=some c
theorem Sub.refl (μ:M):Sub μ μ:=fun _ _ h=>h
theorem Sub.trans {a b c:M} (h:Sub a b) (k:Sub b c):Sub a c:=fun p x e=>k p x (h p x e)
theorem Sub.new {μ:M} {p:Addr} {c:C} (h:μ p=none):Sub μ (cC μ p c):=fun q x e=>by
 rw [bL (Jl e h)]
 exact e
theorem Sub.upd {μ μ':M} (s:Sub μ μ') {p:Addr} {c:C}:Sub (cC μ p c) (cC μ' p c):=fun q x e=>by
 by_cases h:q=p
 ·subst h
  rw [aP] at e ⊢
  exact e
 ·rw [bL h] at e ⊢
  exact s q x e
theorem Sub.put {μ μ':M} (s:Sub μ μ') {p:Addr} {c:C} (h:μ p=none):Sub μ (cC μ' p c):=fun q x e=>by
 rw [bL (Jl e h)]
 exact s q x e
theorem Sub.del {μ:M} (p:Addr):Sub (vA μ p) μ:=fun q x e=>by
 unfold vA at e
 split at e
 ·cases e
 ·exact e
theorem Sub.fresh {μ μ':M} (s:Sub μ μ') {p:Addr} (h:μ' p=none):μ p=none:=by
 cases e:μ p with
 | none=>rfl
 | some c=>rw [s p c e] at h;cases h
theorem Split.sub {K:PySem.W.Frag} {H Hc:Hp} {μ μ':M} (s:Split K H Hc μ') (h:Sub μ μ'):∃ bJ,Same Hc bJ∧Split K H bJ μ∧∀ p,μ p=none→bJ p=H p:=by
 refine ⟨fun a=>match μ a with | none=>H a | some _=>none,?_,⟨?_,?_⟩,?_⟩
 ·intro a o e
  show (match μ a with | none=>H a | some _=>none)=some o
  cases m:μ a with
  | none=>exact s.same a o e
  | some c =>
   rw [(s.cell a c (h a c m)).1] at e
   cases e
 ·intro p c e
  obtain ⟨a,o,b,k⟩:=s.cell p c (h p c e)
  refine ⟨by show (match μ p with | none=>H p | some _=>none)=none;rw [e],o,b,k.mono ?_⟩
  intro a' o' e'
  show (match μ a' with | none=>H a' | some _=>none)=some o'
  cases m:μ a' with
  | none=>exact s.same a' o' e'
  | some c' =>
   rw [(s.cell a' c' (h a' c' m)).1] at e'
   cases e'
 ·intro p e
  show H p=(match μ p with | none=>H p | some _=>none)
  rw [e]
 ·intro p e
  show (match μ p with | none=>H p | some _=>none)=H p
  rw [e]
abbrev Sl:=List (Option D)
abbrev QD:=D→M→Prop
abbrev XD:=Value→Option (List (Str × D))→M→Prop
abbrev bZ:=XD→Sl→M→QD→Prop
abbrev DTT:=XD→Sl→M→(Bool→M→Prop)→Prop
abbrev iU:=XD→Sl→M→(List D→M→Prop)→Prop
structure bM where
 nx:Sl→M→Prop
 rt:QD
 bk:Sl→M→Prop
 ct:Sl→M→Prop
 xc:Sl→XD
abbrev bh:=bM→Sl→M→Prop
structure gM (K:PySem.W.Frag) (H:Hp) (σ:L2.St) (δ:Sl):Prop where
 len:σ.length=δ.length
 val:∀ (i:Nat) (d:D),δ[i]? = some (some d)→∃ v,σ[i]? = some (some v)∧Rep K H v d
theorem gM.mono {K:PySem.W.Frag} {H H':Hp} {σ:L2.St} {δ:Sl} (e:Same H H') (r:gM K H σ δ):gM K H' σ δ :=
 ⟨r.len,fun i d h=>let ⟨v,a,b⟩:=r.val i d h;⟨v,a,b.mono e⟩⟩
theorem gM.set {K:PySem.W.Frag} {H:Hp} {σ:L2.St} {δ:Sl} (r:gM K H σ δ) (i:Nat) {v:V} {d:D} (h:Rep K H v d):gM K H (σ.set i (some v)) (δ.set i (some d)):=by
 refine ⟨by rw [List.length_set,List.length_set];exact r.len,fun j e hj => ?_⟩
 by_cases ij:i=j
 ·subst ij
  by_cases hl:i<δ.length
  ·rw [List.getElem?_set_self hl] at hj
   cases hj
   exact ⟨v,by rw [List.getElem?_set_self (by rw [r.len];exact hl)],h⟩
  ·rw [List.getElem?_eq_none (by rw [List.length_set];omega)] at hj
   cases hj
 ·rw [List.getElem?_set_ne ij] at hj
  obtain ⟨u,a,b⟩:=r.val j e hj
  exact ⟨u,by rw [List.getElem?_set_ne ij];exact a,b⟩
theorem gM.unset {K:PySem.W.Frag} {H:Hp} {σ:L2.St} {δ:Sl} (r:gM K H σ δ) (i:Nat) (x:Option V):gM K H (σ.set i x) (δ.set i none):=by
 refine ⟨by rw [List.length_set,List.length_set];exact r.len,fun j e hj => ?_⟩
 by_cases ij:i=j
 ·subst ij
  by_cases hl:i<δ.length
  ·rw [List.getElem?_set_self hl] at hj
   cases hj
  ·rw [List.getElem?_eq_none (by rw [List.length_set];omega)] at hj
   cases hj
 ·rw [List.getElem?_set_ne ij] at hj
  obtain ⟨u,a,b⟩:=r.val j e hj
  exact ⟨u,by rw [List.getElem?_set_ne ij];exact a,b⟩
def pW (K:PySem.W.Frag) (Hc:Hp) (Qd:QD) (Q:VK):Prop:=∀ d μ',Qd d μ'→∀ v H' bJ,Same Hc bJ→Split K H' bJ μ'→Rep K bJ v d→Q v H'
def ahl (K:PySem.W.Frag) (Hc:Hp) (Qd:List D→M→Prop) (Q:List V→Hp→Prop):Prop:=∀ ds μ',Qd ds μ'→∀ vs H' bJ,Same Hc bJ→Split K H' bJ μ'→bH K bJ vs ds→Q vs H'
def ahm (K:PySem.W.Frag) (Hc:Hp) (Qd:Bool→M→Prop) (Q:Bool→Hp→Prop):Prop:=∀ b μ',Qd b μ'→∀ H' bJ,Same Hc bJ→Split K H' bJ μ'→Q b H'
def abw (K:PySem.W.Frag) (Hc:Hp) (Qd:Sl→M→Prop) (Q:L2.St→Hp→Prop):Prop:=∀ δ μ',Qd δ μ'→∀ σ H' bJ,Same Hc bJ→Split K H' bJ μ'→gM K bJ σ δ→Q σ H'
def yX (K:PySem.W.Frag) (Hc:Hp) (Xd:XD) (E:XK):Prop:=∀ cls fs μ',Xd cls fs μ'→∀ d H' bJ,Same Hc bJ→Split K H' bJ μ'→XOk K bJ d fs→E cls d H'
def abx (K:PySem.W.Frag) (Hc:Hp) (Wd:Sl→XD) (W:WX):Prop:=∀ δ cls fs μ',Wd δ cls fs μ'→∀ σ d H' bJ,Same Hc bJ→Split K H' bJ μ'→gM K bJ σ δ→XOk K bJ d fs→W cls d σ H'
section
variable {K:PySem.W.Frag} {Hc bJ:Hp}
theorem pW.mono {Qd:QD} {Q:VK} (e:Same Hc bJ) (r:pW K Hc Qd Q):pW K bJ Qd Q:=fun d μ h v H H2 s=>r d μ h v H H2 (e.trans s)
theorem ahm.mono {Qd:Bool→M→Prop} {Q:Bool→Hp→Prop} (e:Same Hc bJ) (r:ahm K Hc Qd Q):ahm K bJ Qd Q:=fun d μ h H H2 s=>r d μ h H H2 (e.trans s)
theorem ahl.mono {Qd:List D→M→Prop} {Q:List V→Hp→Prop} (e:Same Hc bJ) (r:ahl K Hc Qd Q):ahl K bJ Qd Q:=fun d μ h v H H2 s=>r d μ h v H H2 (e.trans s)
theorem abw.mono {Qd:Sl→M→Prop} {Q:L2.St→Hp→Prop} (e:Same Hc bJ) (r:abw K Hc Qd Q):abw K bJ Qd Q:=fun d μ h v H H2 s=>r d μ h v H H2 (e.trans s)
theorem yX.mono {Xd:XD} {E:XK} (e:Same Hc bJ) (r:yX K Hc Xd E):yX K bJ Xd E:=fun c f μ h d H H2 s=>r c f μ h d H H2 (e.trans s)
theorem abx.mono {Wd:Sl→XD} {W:WX} (e:Same Hc bJ) (r:abx K Hc Wd W):abx K bJ Wd W:=fun δ c f μ h σ d H H2 s=>r δ c f μ h σ d H H2 (e.trans s)
theorem abx.at {Wd:Sl→XD} {W:WX} {σ:L2.St} {δ:Sl} (r:abx K Hc Wd W) (rs:gM K Hc σ δ):yX K Hc (Wd δ) (fun cls d H=>W cls d σ H) :=
 fun cls fs μ' h d H' bJ e s x=>r δ cls fs μ' h σ d H' bJ e s (rs.mono e) x
end
def w6 (K:PySem.W.Frag) (W:WX) (t:bZ):TE:=fun σ H Q=>∃ δ μ Hc Qd Xd,Split K H Hc μ∧gM K Hc σ δ∧t Xd δ μ Qd∧pW K Hc Qd Q∧yX K Hc Xd (fun cls d H=>W cls d σ H)
def Tj (K:PySem.W.Frag) (W:WX) (t:DTT):TT:=fun σ H Q=>∃ δ μ Hc Qd Xd,Split K H Hc μ∧gM K Hc σ δ∧t Xd δ μ Qd∧ahm K Hc Qd Q∧yX K Hc Xd (fun cls d H=>W cls d σ H)
def upA (K:PySem.W.Frag) (W:WX) (t:iU):TA:=fun σ H Q=>∃ δ μ Hc Qd Xd,Split K H Hc μ∧gM K Hc σ δ∧t Xd δ μ Qd∧ahl K Hc Qd Q∧yX K Hc Xd (fun cls d H=>W cls d σ H)
structure ahn (K:PySem.W.Frag) (Hc:Hp) (Dd:bM) (W:WX) (D:Ends):Prop where
 nx:abw K Hc Dd.nx D.nx
 rt:pW K Hc Dd.rt D.rt
 bk:abw K Hc Dd.bk D.bk
 ct:abw K Hc Dd.ct D.ct
 xc:abx K Hc Dd.xc W
theorem ahn.mono {K:PySem.W.Frag} {Hc bJ:Hp} {Dd:bM} {W:WX} {D:Ends} (e:Same Hc bJ) (r:ahn K Hc Dd W D):ahn K bJ Dd W D:=⟨r.nx.mono e,r.rt.mono e,r.bk.mono e,r.ct.mono e,r.xc.mono e⟩
def upS (K:PySem.W.Frag) (W:WX) (t:bh):TS:=fun D σ H=>∃ δ μ Hc Dd,Split K H Hc μ∧gM K Hc σ δ∧t Dd δ μ∧ahn K Hc Dd W D
def DE (X:Cx) (W:WX) (e:Expr) (t:bZ):Prop:=PE X e (w6 X.K W t)
def DT (X:Cx) (W:WX) (e:Expr) (t:DTT):Prop:=PT X e (Tj X.K W t)
def DW (X:Cx) (W:WX) (e:Expr) (t:DTT):Prop:=PW X e (Tj X.K W t)
def DA (X:Cx) (W:WX) (es:List Expr) (t:iU):Prop:=PA X es (upA X.K W t)
def DS (X:Cx) (W:WX) (s:Stmt) (t:bh):Prop:=PS X s (upS X.K W t)
def pX (X:Cx) (W:WX) (ss:List Stmt) (t:bh):Prop:=PSs X ss (upS X.K W t)
section
variable {X:Cx}
theorem PE.imp {e:Expr} {t t':TE} (h:PE X e t) (i:∀ σ H Q,t' σ H Q→t σ H Q):PE X e t':=⟨fun pins s σ H Q I w=>h.run pins s σ H Q I (i σ H Q w)⟩
theorem PT.imp {e:Expr} {t t':TT} (h:PT X e t) (i:∀ σ H Q,t' σ H Q→t σ H Q):PT X e t':=⟨fun pins s σ H Q I w=>h.run pins s σ H Q I (i σ H Q w)⟩
theorem PW.imp {e:Expr} {t t':TT} (h:PW X e t) (i:∀ σ H Q,t' σ H Q→t σ H Q):PW X e t':=⟨fun wh pins s σ H Q I w=>h.run wh pins s σ H Q I (i σ H Q w)⟩
theorem PA.imp {es:List Expr} {t t':TA} (h:PA X es t) (i:∀ σ H Q,t' σ H Q→t σ H Q):PA X es t':=⟨fun pos pins s σ H Q I w=>h.run pos pins s σ H Q I (i σ H Q w)⟩
theorem PS.imp {s:Stmt} {t t':TS} (h:PS X s t) (i:∀ D σ H,t' D σ H→t D σ H):PS X s t':=⟨fun pins s σ H D I w=>h.run pins s σ H D I (i D σ H w)⟩
theorem PSs.imp {s:List Stmt} {t t':TS} (h:PSs X s t) (i:∀ D σ H,t' D σ H→t D σ H):PSs X s t':=⟨fun pins s σ H D I w=>h.run pins s σ H D I (i D σ H w)⟩
end
def ifB (b:Bool) (A B:Prop):Prop:=match b with
 | true=>A
 | false=>B
@[simp] theorem apS {A B:Prop}:ifB true A B=A:=rfl
@[simp] theorem apj {A B:Prop}:ifB false A B=B:=rfl
def Jo {α:Type} (o:Option α) (P:α→Prop):Prop:=match o with
 | some x=>P x
 | none=>False
theorem Jo.ex {α:Type} {o:Option α} {P:α→Prop} (h:Jo o P):∃ x,o=some x∧P x:=by
 cases o with
 | none=>exact h.elim
 | some x=>exact ⟨x,rfl,h⟩
theorem Jo.of {α:Type} {o:Option α} {P:α→Prop} {x:α} (e:o=some x) (h:P x):Jo o P:=by rw [e];exact h
@[simp] theorem Lj {α:Type} {x:α} {P:α→Prop}:Jo (some x) P=P x:=rfl
def Aa (o:Option D) (Q:QD) (μ:M):Prop:=match o with
 | some d=>Q d μ
 | none=>False
theorem Aa.ex {o:Option D} {Q:QD} {μ:M} (h:Aa o Q μ):∃ x,o=some x∧Q x μ:=by
 cases o with
 | none=>exact h.elim
 | some x=>exact ⟨x,rfl,h⟩
theorem Aa.of {o:Option D} {Q:QD} {μ:M} {x:D} (e:o=some x) (h:Q x μ):Aa o Q μ:=by rw [e];exact h
@[simp] theorem Ln {x:D} {Q:QD} {μ:M}:Aa (some x) Q μ=Q x μ:=rfl
def X6 (o:Option Bool) (Q:Bool→M→Prop) (μ:M):Prop:=match o with
 | some d=>Q d μ
 | none=>False
theorem X6.ex {o:Option Bool} {Q:Bool→M→Prop} {μ:M} (h:X6 o Q μ):∃ x,o=some x∧Q x μ:=by
 cases o with
 | none=>exact h.elim
 | some x=>exact ⟨x,rfl,h⟩
theorem X6.of {o:Option Bool} {Q:Bool→M→Prop} {μ:M} {x:Bool} (e:o=some x) (h:Q x μ):X6 o Q μ:=by rw [e];exact h
@[simp] theorem Lp {x:Bool} {Q:Bool→M→Prop} {μ:M}:X6 (some x) Q μ=Q x μ:=rfl
def dK:Key→D
 | .inl i => .int i
 | .inr x => .str x
theorem Ci {K:PySem.W.Frag} {H:Hp}:∀ ks:List Key,bH K H (ks.map kV) (ks.map dK)
 | [] => .nil
 | .inl i::ks => .cons (.int i) (Ci ks)
 | .inr x::ks => .cons (.str x) (Ci ks)
def view (μ:M):D→D
 | .key ks => .tup (ks.map dK)
 | .raw (.ref p)=>match Hg (μ p) with
  | some ds => .lst ds
  | none => .raw (.ref p)
 | d=>d
theorem ad6 {μ:M} {p:Addr}:view μ (.raw (.ref p))=(match Hg (μ p) with | some ds=>D.lst ds | none => .raw (.ref p)):=rfl
theorem rQ {μ:M} {p:Addr} {d:D} (h:view μ (.raw (.ref p))=d):(∃ ds,μ p=some (.lst ds)∧d = .lst ds)∨d = .raw (.ref p):=by
 rw [ad6] at h
 cases e:Hg (μ p) with
 | none=>rw [e] at h;exact .inr h.symm
 | some ds=>rw [e] at h;exact .inl ⟨ds,Zo e,h.symm⟩
section
variable {K:PySem.W.Frag} {H Hc:Hp} {μ:M} {v:V} {d:D}
theorem gq {ds:List D} (s:Split K H Hc μ) (r:Rep K Hc v d) (h:view μ d = .lst ds):∃ a vs,v = .ref a∧H a=some (.lst vs)∧bH K Hc vs ds:=by
 cases r with
 | lst hs ha =>
  cases (show D.lst _=D.lst ds from h)
  exact ⟨_,_,rfl,s.same _ _ hs,ha⟩
 | raw =>
  cases v with
  | ref p =>
   rcases rQ h with ⟨es,e,h'⟩ | h'
   ·cases h'
    obtain ⟨_,o,ho,vs,rfl,ra⟩:=s.cell p _ e
    exact ⟨p,vs,rfl,ho,ra⟩
   ·cases h'
  | _=>cases h
 | _=>cases h
theorem lB {ds:List D} (s:Split K H Hc μ) (r:Rep K Hc v d) (h:view μ d = .tup ds):∃ a vs,v = .ref a∧SqT K H a vs∧bH K Hc vs ds:=by
 cases r with
 | tup hs ha =>
  cases (show D.tup _=D.tup ds from h)
  exact ⟨_,_,rfl,xQ s.same hs,ha⟩
 | key hs =>
  cases (show D.tup _=D.tup ds from h)
  exact ⟨_,_,rfl,SqT.of (s.same _ _ hs),Ci _⟩
 | raw =>
  cases v with
  | ref p =>
   rcases rQ h with ⟨es,e,h'⟩ | h'<;>cases h'
  | _=>cases h
 | _=>cases h
theorem jV {i:Int} (r:Rep K Hc v d) (h:view μ d = .int i):v = .int i:=by
 cases r with
 | int j=>cases (show D.int _=D.int i from h);rfl
 | raw =>
  cases v with
  | ref p =>
   rcases rQ h with ⟨es,e,h'⟩ | h'<;>cases h'
  | _=>cases h
 | _=>cases h
theorem yZ {x:Str} (r:Rep K Hc v d) (h:view μ d = .str x):v = .str x:=by
 cases r with
 | str j=>cases (show D.str _=D.str x from h);rfl
 | raw =>
  cases v with
  | ref p =>
   rcases rQ h with ⟨es,e,h'⟩ | h'<;>cases h'
  | _=>cases h
 | _=>cases h
theorem ad7 {ns:List Int} (s:Split K H Hc μ) (r:Rep K Hc v d) (h:view μ d = .dJ ns):∃ a,v = .ref a∧SqL K H a (ns.map V.int):=by
 cases r with
 | dJ hs=>cases (show D.dJ _=D.dJ ns from h);exact ⟨_,rfl,s.same.seq hs⟩
 | raw =>
  cases v with
  | ref p =>
   rcases rQ h with ⟨es,e,h'⟩ | h'<;>cases h'
  | _=>cases h
 | _=>cases h
end
end DL
namespace DL
open PySem PySem.Spec L2
theorem Cj {K:PySem.W.Frag} {H Hc:Hp} {μ:M} {v:V} {d:D} (s:Split K H Hc μ) (r:Rep K Hc v d):Rep K H v (view μ d):=by
 cases r with
 | raw =>
  cases v with
  | ref p =>
   rcases rQ (μ:=μ) (p:=p) rfl with ⟨es,e,h'⟩ | h'
   ·rw [h']
    obtain ⟨_,o,ho,vs,rfl,ra⟩:=s.cell p _ e
    exact .lst ho (ra.mono s.same)
   ·rw [h']
    exact .raw _
  | _=>exact .raw _
 | non=>exact .non
 | bl b=>exact .bl b
 | int i=>exact .int i
 | str x=>exact .str x
 | lst h a=>exact .lst (s.same _ _ h) (a.mono s.same)
 | tup h a=>exact .tup (xQ s.same h) (a.mono s.same)
 | dJ h=>exact .dJ (s.same.seq h)
 | emp h=>exact .emp (s.same _ _ h)
 | key h=>exact .tup (SqT.of (s.same _ _ h)) (Ci _)
@[simp] theorem Qy {μ:M}:view μ .non = .non:=rfl
@[simp] theorem V7 {μ:M} {b}:view μ (.bl b) = .bl b:=rfl
@[simp] theorem Lq {μ:M} {i}:view μ (.int i) = .int i:=rfl
@[simp] theorem Lr {μ:M} {i}:view μ (.str i) = .str i:=rfl
@[simp] theorem Lw {μ:M} {i}:view μ (.lst i) = .lst i:=rfl
@[simp] theorem Ly {μ:M} {i}:view μ (.tup i) = .tup i:=rfl
@[simp] theorem Lz {μ:M}:view μ .emp = .emp:=rfl
@[simp] theorem apk {μ:M} {ks:List Key}:view μ (.key ks) = .tup (ks.map dK):=rfl
@[simp] theorem LC {μ:M} {i}:view μ (.dJ i) = .dJ i:=rfl
theorem gh {μ:M} {p:Addr} {ds:List D} (h:μ p=some (.lst ds)):view μ (.raw (.ref p)) = .lst ds:=by
 rw [ad6,h]
 rfl
theorem pW.new {K:PySem.W.Frag} {H Hc:Hp} {μ:M} {Qd:QD} {Q:VK} {vs:List V} {ds:List D} (rt:pW K Hc Qd Q) (s:Split K H Hc μ) (ra:bH K Hc vs ds) (q:Qd (.lst ds) μ):∀ p,H p=none→Q (.ref p) (upd H p (.lst vs)):=fun p hp=>by
 have f:=(s.fresh hp).2
 exact rt _ _ q _ _ (upd Hc p (.lst vs)) (oX f) (s.data hp) (.lst upd_same (ra.mono (oX f)))
theorem pW.newT {K:PySem.W.Frag} {H Hc:Hp} {μ:M} {Qd:QD} {Q:VK} {vs:List V} {ds:List D} (rt:pW K Hc Qd Q) (s:Split K H Hc μ) (ra:bH K Hc vs ds) (q:Qd (.tup ds) μ):∀ p,H p=none→Q (.ref p) (upd H p (.tup vs)):=fun p hp=>by
 have f:=(s.fresh hp).2
 exact rt _ _ q _ _ (upd Hc p (.tup vs)) (oX f) (s.data hp) (.tup (.inl (.inl upd_same)) (ra.mono (oX f)))
theorem pW.newC {K:PySem.W.Frag} {H Hc:Hp} {μ:M} {Qd:QD} {Q:VK} {vs:List V} {ds:List D} (rt:pW K Hc Qd Q) (s:Split K H Hc μ) (ra:bH K Hc vs ds) (q:∀ p,μ p=none→Qd (.raw (.ref p)) (cC μ p (.lst ds))):∀ p,H p=none→Q (.ref p) (upd H p (.lst vs)):=fun p hp =>
 rt _ _ (q p (s.fresh hp).1) _ _ Hc (Same.refl Hc) (s.new hp ⟨vs,rfl,ra⟩) (.raw _)
theorem pW.val {K:PySem.W.Frag} {H Hc:Hp} {μ:M} {Qd:QD} {Q:VK} {v:V} {d:D} (rt:pW K Hc Qd Q) (s:Split K H Hc μ) (r:Rep K Hc v d) (q:Qd d μ):Q v H:=rt _ _ q _ _ Hc (Same.refl Hc) s r
abbrev lU:=D→D→M→QD→Prop
def vB (K:PySem.W.Frag) (r:R2) (g:lU):Prop:=∀ (x y:V) (d e:D) (H Hc:Hp) (μ:M) (Q:VK) (Qd:QD),Split K H Hc μ→Rep K Hc x d→Rep K Hc y e→g d e μ Qd→pW K Hc Qd Q→r x y H Q
def T9 (g:lU) (x:D) (Q:QD) (y:D) (μ:M):Prop:=g x y μ Q
def X7 (g:lU) (tb:bZ) (W:XD) (δ:Sl) (Q:QD) (x:D) (μ:M):Prop:=tb W δ μ (T9 g x Q)
def aF (g:lU) (ta tb:bZ) (W:XD) (δ:Sl) (μ:M) (Q:QD):Prop:=ta W δ μ (X7 g tb W δ Q)
theorem Zq {K:PySem.W.Frag} {W:WX} {r:R2} {g:lU} {ta tb:bZ} (l:vB K r g):∀ σ H Q,w6 K W (aF g ta tb) σ H Q→tOp r (w6 K W ta) (w6 K W tb) σ H Q :=
 fun σ H Q ⟨δ,μ,Hc,Qd,Xd,s,rs,h,rt,rx⟩=>⟨δ,μ,Hc,_,Xd,s,rs,h,fun x μ1 h1 v H1 cA e1 s1 r1 =>
  ⟨δ,μ1,cA,_,Xd,s1,rs.mono e1,h1,fun y μ2 h2 w H2 dw e2 s2 r2=>l v w x y H2 dw μ2 Q Qd s2 (r1.mono e2) r2 h2 (rt.mono (e1.trans e2)),rx.mono e1⟩,rx⟩
theorem OpR.or {X:Cx} {f:Value→Value→Sem Value} {r1 r2:R2} (h1:OpR X f r1) (h2:OpR X f r2):OpR X f (fun x y H Q=>r1 x y H Q∨r2 x y H Q) :=
 fun pins s σ H x y v u Q I rx ry h=>h.elim (h1 pins s σ H x y v u Q I rx ry) (h2 pins s σ H x y v u Q I rx ry)
def cD:lU:=fun a b μ Q=>match view μ a,view μ b with
 | .int i,.int j=>Q (.int (i+j)) μ
 | .str x,.str y=>x.length+y.length≤sizeLine∧Q (.str (x++y)) μ
 | .lst xs,.lst ys=>xs.length+ys.length≤sizeLine∧Q (.lst (xs++ys)) μ
 | .tup xs,.tup ys=>xs.length+ys.length≤sizeLine∧Q (.tup (xs++ys)) μ
 | _,_=>False
def gI (c:Int→Int→Prop) (f:Int→Int→D):lU:=fun a b μ Q=>match view μ a,view μ b with
 | .int i,.int j=>c i j∧Q (f i j) μ
 | _,_=>False
def uP (f:Int→Int→D):lU:=fun a b μ Q=>match view μ a,view μ b with
 | .int i,.int j=>Q (f i j) μ
 | _,_=>False
def lW:lU:=fun a b μ Q=>match view μ a,view μ b with
 | .int i,.int j=>IntMulOk i j∧Q (.int (i*j)) μ
 | .lst xs,.int k=>(-(2^63)≤k∧k<2^63∧xs.length*k.toNat≤sizeLine)∧Q (.lst (List.replicate k.toNat xs).flatten) μ
 | .tup xs,.int k=>(xs≠[]∧2≤k∧k≤1000∧xs.length≤1000)∧Q (.tup (List.replicate k.toNat xs).flatten) μ
 | _,_=>False
section
variable {K:PySem.W.Frag}
theorem bH.rep {H:Hp} {xs:List V} {us:List D} (h:bH K H xs us):∀ k:Nat,bH K H (List.replicate k xs).flatten (List.replicate k us).flatten
 | 0 => .nil
 | k+1=>by
  rw [List.replicate_succ,List.replicate_succ,List.flatten_cons,List.flatten_cons]
  exact bH.append h (bH.rep h k)
theorem l_I {c:Int→Int→Prop} {fv:Int→Int→V} {f:Int→Int→D} (hf:∀ H i j,Rep K H (fv i j) (f i j)):vB K (rI c fv) (gI c f):=by
 intro x y d e H Hc μ Q Qd s rx ry h rt
 unfold gI at h
 split at h
 ·rename_i i j e1 e2
  exact ⟨i,j,jV rx e1,jV ry e2,h.1,rt.val s (hf _ _ _) h.2⟩
 ·exact h.elim
theorem oA {fv:Int→Int→V} {f:Int→Int→D} (hf:∀ H i j,Rep K H (fv i j) (f i j)):vB K (rI0 fv) (uP f):=by
 intro x y d e H Hc μ Q Qd s rx ry h rt
 unfold uP at h
 split at h
 ·rename_i i j e1 e2
  exact ⟨i,j,jV rx e1,jV ry e2,rt.val s (hf _ _ _) h⟩
 ·exact h.elim
def agP (K:PySem.W.Frag):R2:=fun x y H Q=>((rI0 fun i j => .int (i+j)) x y H Q∨(fun x y H Q=>∃ i j,x=V.str i∧y = .str j∧i.length+j.length≤sizeLine∧Q (.str (i++j)) H) x y H Q)∨(rCat x y H Q∨rCatA K x y H Q)
theorem aoM:vB K (agP K) cD:=by
 intro x y d e H Hc μ Q Qd s rx ry h rt
 unfold cD at h
 split at h
 ·rename_i i j e1 e2
  exact .inl (.inl ⟨i,j,jV rx e1,jV ry e2,rt.val s (.int _) h⟩)
 ·rename_i i j e1 e2
  exact .inl (.inr ⟨i,j,yZ rx e1,yZ ry e2,h.1,rt.val s (.str _) h.2⟩)
 ·rename_i xs ys e1 e2
  obtain ⟨a,vs,rfl,ha,ra⟩:=gq s rx e1
  obtain ⟨b,ws,rfl,hb,rb⟩:=gq s ry e2
  exact .inr (.inl ⟨a,b,vs,ws,rfl,rfl,ha,hb,by rw [ra.length,rb.length];exact h.1,rt.new s (ra.append rb) h.2⟩)
 ·rename_i xs ys e1 e2
  have own:∀ {v:V} {d:D} {zs:List D},Rep K Hc v d→view μ d = .tup zs→Rep K Hc v (.tup zs):=fun {v d zs} r e=>by
   cases r with
   | tup h3 h4 =>
    cases (show D.tup _=D.tup _ from e)
    exact .tup h3 h4
   | key h3 =>
    cases (show D.tup _=D.tup _ from e)
    exact .tup (SqT.of h3) (Ci _)
   | raw =>
    exfalso
    cases v with
    | ref a =>
     rcases rQ e with ⟨es,_,h'⟩ | h'<;>cases h'
    | _=>cases e
   | _=>cases e
  have o1:=own rx e1
  have o2:=own ry e2
  obtain ⟨a,vs,rfl,ha,ra⟩:=lB s rx e1
  obtain ⟨b,ws,rfl,hb,rb⟩:=lB s ry e2
  refine .inr (.inr ⟨a,b,vs,ws,rfl,rfl,ha,hb,by rw [ra.length,rb.length];exact h.1,fun z => ?_,fun _ z => ?_,fun _ _=>rt.newT s (ra.append rb) h.2⟩)
  ·subst z
   cases ra
   rw [List.nil_append] at h
   exact rt.val s o2 h.2
  ·subst z
   cases rb
   rw [List.append_nil] at h
   exact rt.val s o1 h.2
 ·exact h.elim
def aby (K:PySem.W.Frag):R2:=fun x y H Q=>(rI IntMulOk fun i j => .int (i*j)) x y H Q∨(rRep x y H Q∨rRepT K x y H Q)
theorem aoN:vB K (aby K) lW:=by
 intro x y d e H Hc μ Q Qd s rx ry h rt
 unfold lW at h
 split at h
 ·rename_i i j e1 e2
  exact .inl ⟨i,j,jV rx e1,jV ry e2,h.1,rt.val s (.int _) h.2⟩
 ·rename_i xs k e1 e2
  obtain ⟨a,vs,rfl,ha,ra⟩:=gq s rx e1
  exact .inr (.inl ⟨a,k,vs,rfl,jV ry e2,ha,h.1.1,h.1.2.1,by rw [ra.length];exact h.1.2.2,rt.new s (ra.rep _) h.2⟩)
 ·rename_i xs k e1 e2
  obtain ⟨a,vs,rfl,ha,ra⟩:=lB s rx e1
  refine .inr (.inr ⟨a,k,vs,rfl,jV ry e2,ha,fun z => ?_,h.1.2.1,h.1.2.2.1,by rw [ra.length];exact h.1.2.2.2,rt.newT s (ra.rep _) h.2⟩)
  subst z
  cases ra
  exact h.1.1 rfl
 ·exact h.elim
end
theorem ai4 {X:Cx}:OpR X (binaryOp .Add) (agP X.K):=(op_add.or op_add_str).or (op_cat.or op_catA)
theorem acE {X:Cx}:OpR X (binaryOp .Mult) (aby X.K) :=
 OpR.or (opI fun _ _ _ _ _ _ _ hc q=>PyProof.Rows.mul_int q hc) (OpR.or op_rep op_repT)
def Ek (i j:Int):Prop:=j≠0∧Builtin.divisionGoesByPylong i j=false
theorem akI {X:Cx}:OpR X (binaryOp .FloorDiv) (rI Ek fun i j => .int (i.fdiv j)):=opI fun _ _ _ _ _ _ _ hc q=>PyProof.Rows.floordiv_int hc.1 q (.inl hc.2)
mutual
def toP:D→PyData
 | .non => .none
 | .bl b => .bool b
 | .int i => .int i
 | .str x => .str x
 | .lst xs => .list (lC xs)
 | .tup xs => .tuple (lC xs)
 | .dJ _ => .none
 | .raw _ => .none
 | .emp => .none
 | .key _ => .none
def lC:List D→List PyData
 | []=>[]
 | x::xs=>toP x::lC xs
end
def okN:Nat→D→Bool
 | _,.non=>true
 | _,.bl _=>true
 | _,.int _=>true
 | _,.str x=>PyData.strOk x
 | n+1,.lst xs=>xs.all (okN n)
 | n+1,.tup xs=>xs.all (okN n)
 | _,_=>false
def tU (a b:D):Bool:=PyData.eqv (toP a) (toP b)
mutual
theorem V8 {K:PySem.W.Frag} {H:Hp}:∀ {n:Nat} {v:V} {d:D},okN n d=true→Rep K H v d→Dp K H v (toP d)
 | _,_,_,_,.non => .non
 | _,_,_,_,.bl b => .bl b
 | _,_,_,_,.int i => .int i
 | _,_,_,_,.str x => .str x
 | n+1,_,_,h,.lst a r => .lst (.inl (.inl a)) (Zr (n:=n) (by simpa [okN] using h) r)
 | n+1,_,_,h,.tup a r => .tup a (Zr (n:=n) (by simpa [okN] using h) r)
 | 0,_,_,h,.lst a r=>by simp [okN] at h
 | 0,_,_,h,.tup a r=>by simp [okN] at h
 | n,_,_,h,.dJ a=>by cases n<;>simp [okN] at h
 | n,v,_,h,.raw _=>by cases n<;>simp [okN] at h
 | n,_,_,h,.emp _=>by cases n<;>simp [okN] at h
 | n,_,_,h,.key _=>by cases n<;>simp [okN] at h
theorem Zr {K:PySem.W.Frag} {H:Hp}:∀ {n:Nat} {vs:List V} {ds:List D},(∀ d∈ds,okN n d=true)→bH K H vs ds→DpAll K H vs (lC ds)
 | _,_,_,_,.nil => .nil
 | n,_,_,h,.cons a r => .cons (V8 (h _ List.mem_cons_self) a) (Zr (fun d hd=>h d (List.mem_cons_of_mem _ hd)) r)
end
theorem agQ:∀ xs:List D,lC xs=xs.map toP
 | []=>rfl
 | x::xs=>by rw [lC,agQ xs,List.map_cons]
theorem IK:∀ (n:Nat) (d:D),okN n d=true→(toP d).canLay0=true∧(toP d).depth≤n
 | n,.non,_=>by simp [toP,PyData.canLay0,PyData.depth]
 | n,.bl _,_=>by simp [toP,PyData.canLay0,PyData.depth]
 | n,.int _,_=>by simp [toP,PyData.canLay0,PyData.depth]
 | n,.str x,h=>by
  have h':PyData.strOk x=true:=by cases n<;>simpa [okN] using h
  simp [toP,PyData.canLay0,PyData.depth,h']
 | 0,.lst xs,h=>by simp [okN] at h
 | 0,.tup xs,h=>by simp [okN] at h
 | n,.dJ _,h=>by cases n<;>simp [okN] at h
 | n,.raw _,h=>by cases n<;>simp [okN] at h
 | n,.emp,h=>by cases n<;>simp [okN] at h
 | n,.key _,h=>by cases n<;>simp [okN] at h
 | n + 1, .lst xs, h => by
  have h':∀ d∈xs,okN n d=true:=by simpa [okN] using h
  have key:∀ ys:List D,(∀ d∈ys,okN n d=true)→PyData.canLayAll0 (lC ys)=true∧PyData.depthAll (lC ys)≤n:=by
   intro ys
   induction ys with
   | nil=>intro _;simp [lC,PyData.canLayAll0,PyData.depthAll]
   | cons y ys ih =>
    intro hy
    have a:=IK n y (hy y List.mem_cons_self)
    have b:=ih fun d hd=>hy d (List.mem_cons_of_mem _ hd)
    simp only [lC,PyData.canLayAll0,PyData.depthAll]
    exact ⟨by rw [a.1,b.1];rfl,by omega⟩
  have z:=key xs h'
  simp only [toP,PyData.canLay0,PyData.depth]
  exact ⟨z.1,by omega⟩
 | n + 1, .tup xs, h => by
  have h':∀ d∈xs,okN n d=true:=by simpa [okN] using h
  have key:∀ ys:List D,(∀ d∈ys,okN n d=true)→PyData.canLayAll0 (lC ys)=true∧PyData.depthAll (lC ys)≤n:=by
   intro ys
   induction ys with
   | nil=>intro _;simp [lC,PyData.canLayAll0,PyData.depthAll]
   | cons y ys ih =>
    intro hy
    have a:=IK n y (hy y List.mem_cons_self)
    have b:=ih fun d hd=>hy d (List.mem_cons_of_mem _ hd)
    simp only [lC,PyData.canLayAll0,PyData.depthAll]
    exact ⟨by rw [a.1,b.1];rfl,by omega⟩
  have z:=key xs h'
  simp only [toP,PyData.canLay0,PyData.depth]
  exact ⟨z.1,by omega⟩
theorem LK {d:D} (h:okN 64 d=true):SeqAt.shaped (toP d)=true:=by
 have z:=IK 64 d h
 unfold SeqAt.shaped
 rw [z.1,decide_eq_true z.2]
 rfl
def eY:lU:=fun a b μ Q=>okN 64 (view μ a)=true∧okN 64 (view μ b)=true∧Q (.bl (tU (view μ a) (view μ b))) μ
def lV:lU:=fun a b μ Q=>okN 64 (view μ a)=true∧okN 64 (view μ b)=true∧Q (.bl (!tU (view μ a) (view μ b))) μ
theorem anz {K:PySem.W.Frag}:vB K (rEqD K) eY:=fun x y d e H Hc μ Q Qd s rx ry h rt =>
 ⟨_,_,V8 h.1 (Cj s rx),V8 h.2.1 (Cj s ry),LK h.1,LK h.2.1,rt.val s (.bl _) h.2.2⟩
theorem anA {K:PySem.W.Frag}:vB K (rNeD K) lV:=fun x y d e H Hc μ Q Qd s rx ry h rt =>
 ⟨_,_,V8 h.1 (Cj s rx),V8 h.2.1 (Cj s ry),LK h.1,LK h.2.1,rt.val s (.bl _) h.2.2⟩
def lD (neg:Bool):lU:=fun a b μ Q=>match a,b with
 | .bl x,.bl y=>Q (.bl (neg ^^ decide (x=y))) μ
 | .raw v,.non=>Q (.bl (neg ^^ decide (v = .non))) μ
 | .non,.non=>Q (.bl (neg ^^ true)) μ
 | _,.non=>Q (.bl (neg ^^ false)) μ
 | _,_=>False
def anB:R2:=fun x y H Q=>(y = .non∧Q (.bl (decide (x = .non))) H)∨rIsB x y H Q
def amA:R2:=fun x y H Q=>(y = .non∧Q (.bl (!decide (x = .non))) H)∨rNotB x y H Q
theorem anC {K:PySem.W.Frag}:vB K anB (lD false):=by
 intro x y d e H Hc μ Q Qd s rx ry h rt
 unfold lD at h
 split at h
 ·cases rx;cases ry
  rename_i a b
  exact .inr ⟨a,b,rfl,rfl,rt.val s (.bl _) (by simpa using h)⟩
 ·cases rx;cases ry
  exact .inl ⟨rfl,rt.val s (.bl _) (by simpa using h)⟩
 ·cases rx;cases ry
  exact .inl ⟨rfl,rt.val s (.bl _) (by simpa using h)⟩
 ·rename_i n1 n2
  cases ry
  refine .inl ⟨rfl,rt.val s (.bl _) ?_⟩
  have e:decide (x=V.non)=false:=decide_eq_false fun z=>by
   subst z
   cases rx
   ·exact n2 rfl
   ·exact n1 _ rfl
  rw [e]
  simpa using h
 ·exact h.elim
theorem amB {K:PySem.W.Frag}:vB K amA (lD true):=by
 intro x y d e H Hc μ Q Qd s rx ry h rt
 unfold lD at h
 split at h
 ·cases rx;cases ry
  rename_i a b
  exact .inr ⟨a,b,rfl,rfl,rt.val s (.bl _) (by simpa using h)⟩
 ·cases rx;cases ry
  exact .inl ⟨rfl,rt.val s (.bl _) (by simpa using h)⟩
 ·cases rx;cases ry
  exact .inl ⟨rfl,rt.val s (.bl _) (by simpa using h)⟩
 ·rename_i n1 n2
  cases ry
  refine .inl ⟨rfl,rt.val s (.bl _) ?_⟩
  have e:decide (x=V.non)=false:=decide_eq_false fun z=>by
   subst z
   cases rx
   ·exact n2 rfl
   ·exact n1 _ rfl
  rw [e]
  simpa using h
 ·exact h.elim
def aN:lU:=fun a b μ Q=>match view μ a,view μ b with
 | .lst xs,.int i=>Aa (atI xs i) Q μ
 | .tup xs,.int i=>Aa (atI xs i) Q μ
 | .dJ ns,.int i=>Aa ((atI ns i).map D.int) Q μ
 | .str z,.int i=>z.length≤sizeLine∧Aa ((atI z.cps.toList i).map fun c => .str ⟨#[c]⟩) Q μ
 | _,_=>False
theorem agR {K:PySem.W.Frag} {H:Hp} {vs:List V} {ds:List D} {i:Int} {d:D} (r:bH K H vs ds) (h:atI ds i=some d):∃ v,atI vs i=some v∧Rep K H v d:=by
 unfold atI at h ⊢
 rw [r.length]
 cases e:ixN ds.length i with
 | none=>rw [e] at h;cases h
 | some j =>
  rw [e] at h
  exact r.get h
theorem amC {α β:Type} {f:α→β} {xs:List α} {i:Int} {x:α} (h:atI xs i=some x):atI (xs.map f) i=some (f x):=by
 unfold atI at h ⊢
 rw [List.length_map]
 cases e:ixN xs.length i with
 | none=>rw [e] at h;cases h
 | some j =>
  rw [e] at h
  show (xs.map f)[j]? = some (f x)
  rw [List.getElem?_map,show xs[j]? = some x from h]
  rfl
theorem apT {K:PySem.W.Frag}:vB K (rIx K) aN:=by
 intro x y d e H Hc μ Q Qd s rx ry h rt
 unfold aN at h
 split at h
 ·rename_i xs i e1 e2
  obtain ⟨a,vs,rfl,ha,ra⟩:=gq s rx e1
  obtain ⟨z,hz,hq⟩:=h.ex
  obtain ⟨v,hv,rv⟩:=agR ra hz
  exact .inl ⟨a,vs,i,v,rfl,jV ry e2,SqL.of ha,hv,rt.val s rv hq⟩
 ·rename_i xs i e1 e2
  obtain ⟨a,vs,rfl,ha,ra⟩:=lB s rx e1
  obtain ⟨z,hz,hq⟩:=h.ex
  obtain ⟨v,hv,rv⟩:=agR ra hz
  exact .inr (.inl ⟨a,vs,i,v,rfl,jV ry e2,ha,hv,rt.val s rv hq⟩)
 ·rename_i ns i e1 e2
  obtain ⟨a,rfl,ha⟩:=ad7 s rx e1
  obtain ⟨z,hz,hq⟩:=h.ex
  obtain ⟨n,hn,rfl⟩:=Option.map_eq_some_iff.mp hz
  exact .inl ⟨a,_,i,_,rfl,jV ry e2,ha,amC hn,rt.val s (.int _) hq⟩
 ·rename_i z i e1 e2
  obtain ⟨c',hc',hq⟩:=h.2.ex
  obtain ⟨c,hc,rfl⟩:=Option.map_eq_some_iff.mp hc'
  exact .inr (.inr ⟨z,i,c,yZ rx e1,jV ry e2,h.1,hc,rt.val s (.str _) hq⟩)
 ·exact h.elim
def jd:D→Bool
 | .non=>true
 | .bl _=>true
 | .int _=>true
 | .str _=>true
 | _=>false
def inD (x:D) (xs:List D):Bool:=xs.any fun y=>tU y x
def gIn (neg:Bool):lU:=fun a b μ Q=>match view μ b with
 | .lst xs=>jd a=true∧xs.all jd=true∧Q (.bl (neg ^^ inD a xs)) μ
 | .tup xs=>jd a=true∧xs.all jd=true∧Q (.bl (neg ^^ inD a xs)) μ
 | .str z=>match a with
  | .str y=>Q (.bl (neg ^^ !(Builtin.Str.occurrences z y 0 z.length 1).isEmpty)) μ
  | _=>False
 | _=>False
theorem Ck {K:PySem.W.Frag} {H:Hp} {v:V} {d:D} (r:Rep K H v d) (h:jd d=true):flatV v=true∧∀ {w:V} {e:D},Rep K H w e→jd e=true→eqV w v=tU e d:=by
 cases r with
 | non=>refine ⟨rfl,fun r' h' => ?_⟩;cases r'<;>first | rfl | cases h'
 | bl=>refine ⟨rfl,fun r' h' => ?_⟩;cases r'<;>first | rfl | cases h'
 | int=>refine ⟨rfl,fun r' h' => ?_⟩;cases r'<;>first | rfl | cases h'
 | str=>refine ⟨rfl,fun r' h' => ?_⟩;cases r'<;>first | rfl | cases h'
 | _=>cases h
theorem Jp {K:PySem.W.Frag} {H:Hp} {v:V} {d:D} (r:Rep K H v d) (h:jd d=true):∀ {vs:List V} {ds:List D},bH K H vs ds→ds.all jd=true→vs.all flatV=true∧inV v vs=inD d ds
 | _,_,.nil,_=>⟨rfl,rfl⟩
 | _,_,.cons a ra,hf=>by
  rw [List.all_cons,Bool.and_eq_true] at hf
  obtain ⟨h1,h2⟩:=Jp r h ra hf.2
  obtain ⟨h3,_⟩:=Ck a hf.1
  refine ⟨by rw [List.all_cons,h3,h1];rfl,?_⟩
  unfold inV inD at h2 ⊢
  rw [List.any_cons,List.any_cons,h2,(Ck r h).2 a hf.1]
def anD (K:PySem.W.Frag):R2:=fun x y H Q=>rIn K false x y H Q∨(fun x y H Q=>∃ i j,x=V.str i∧y = .str j∧Q (.bl (!(Builtin.Str.occurrences j i 0 j.length 1).isEmpty)) H) x y H Q
def ai5 (K:PySem.W.Frag):R2:=fun x y H Q=>rIn K true x y H Q∨(fun x y H Q=>∃ i j,x=V.str i∧y = .str j∧Q (.bl !!(Builtin.Str.occurrences j i 0 j.length 1).isEmpty) H) x y H Q
theorem anE {K:PySem.W.Frag}:vB K (anD K) (gIn false):=by
 intro x y d e H Hc μ Q Qd s rx ry h rt
 unfold gIn at h
 split at h
 ·rename_i xs e1
  obtain ⟨a,vs,rfl,ha,ra⟩:=gq s ry e1
  obtain ⟨z1,z2⟩:=Jp rx h.1 ra h.2.1
  exact .inl ⟨a,vs,rfl,.inl (SqL.of ha),(Ck rx h.1).1,z1,rt.val s (.bl _) (by simpa [z2] using h.2.2)⟩
 ·rename_i xs e1
  obtain ⟨a,vs,rfl,ha,ra⟩:=lB s ry e1
  obtain ⟨z1,z2⟩:=Jp rx h.1 ra h.2.1
  exact .inl ⟨a,vs,rfl,.inr ha,(Ck rx h.1).1,z1,rt.val s (.bl _) (by simpa [z2] using h.2.2)⟩
 ·rename_i z e1
  split at h
  ·cases rx
   exact .inr ⟨_,z,rfl,yZ ry e1,rt.val s (.bl _) (by simpa using h)⟩
  ·exact h.elim
 ·exact h.elim
theorem amD {K:PySem.W.Frag}:vB K (ai5 K) (gIn true):=by
 intro x y d e H Hc μ Q Qd s rx ry h rt
 unfold gIn at h
 split at h
 ·rename_i xs e1
  obtain ⟨a,vs,rfl,ha,ra⟩:=gq s ry e1
  obtain ⟨z1,z2⟩:=Jp rx h.1 ra h.2.1
  exact .inl ⟨a,vs,rfl,.inl (SqL.of ha),(Ck rx h.1).1,z1,rt.val s (.bl _) (by simpa [z2] using h.2.2)⟩
 ·rename_i xs e1
  obtain ⟨a,vs,rfl,ha,ra⟩:=lB s ry e1
  obtain ⟨z1,z2⟩:=Jp rx h.1 ra h.2.1
  exact .inl ⟨a,vs,rfl,.inr ha,(Ck rx h.1).1,z1,rt.val s (.bl _) (by simpa [z2] using h.2.2)⟩
 ·rename_i z e1
  split at h
  ·cases rx
   exact .inr ⟨_,z,rfl,yZ ry e1,rt.val s (.bl _) (by simpa using h)⟩
  ·exact h.elim
 ·exact h.elim
section
variable {X:Cx} {W:WX} {a b c e:Expr} {pos:Pos} {ta tb tc te:bZ}
def aq (i:Nat) (_:XD) (δ:Sl) (μ:M) (Q:QD):Prop:=match δ[i]? with
 | some (some d)=>Q d μ
 | _=>False
def dC (d:D) (_:XD) (_:Sl) (μ:M) (Q:QD):Prop:=Q d μ
theorem ak (i:Nat) {x:Str} (hN:X.N[i]? = some x:=by rfl) (hv:Vis X.env.scope x:=by first | exact Or.inl rfl | exact Or.inr (Or.inl rfl) | exact Or.inr (Or.inr rfl)) (hd:(x == ("__debug__" : Str))=false:=by decide)
  (hcd:(x == ("__classdict__" : Str))=false:=by decide):DE X W (.Name x pos) (aq i):=PE.imp (pv i hN hv hd hcd) fun σ H Q ⟨δ,μ,Hc,Qd,Xd,s,rs,h,rt,rx⟩=>by
 unfold aq at h
 split at h
 ·rename_i d e1
  obtain ⟨v,h1,h2⟩:=rs.val i d e1
  exact ⟨v,h1,rt.val s h2 h⟩
 ·exact h.elim
theorem abz {v:V} {d:D} (h:PE X e (tC v)) (r:∀ Hc,Rep X.K Hc v d):DE X W e (dC d):=PE.imp h fun σ H Q ⟨δ,μ,Hc,Qd,Xd,s,rs,h,rt,rx⟩=>rt.val s (r Hc) h
theorem aA {i:Int} {j:Nat}:DE X W (.Constant (.int i) j pos) (dC (.int i)):=abz pe_int fun _ => .int _
theorem eO {i:Bool} {j:Nat}:DE X W (.Constant (.bool i) j pos) (dC (.bl i)):=abz pe_bl fun _ => .bl _
theorem dD {j:Nat}:DE X W (.Constant .none j pos) (dC .non):=abz pe_non fun _ => .non
theorem bK {i:Str} {j:Nat}:DE X W (.Constant (.str i) j pos) (dC (.str i)):=abz pe_str fun _ => .str _
theorem agS {x:Str} {v:V} {u:Value} {d:D} (hg:Gl X x) (hm:X.mg x=some u) (r:RelV v u) (rp:∀ Hc,Rep X.K Hc v d) (hd:(x == ("__debug__" : Str))=false:=by decide):DE X W (.Name x pos) (dC d):=abz (pe_glob hg hm r hd) rp
theorem Qz {op:Operator} {r:R2} {g:lU} (ho:OpR X (binaryOp op) r) (l:vB X.K r g) (ha:DE X W a ta) (hb:DE X W b tb):DE X W (.BinOp a op b pos) (aF g ta tb):=PE.imp (pe_op ho ha hb) (Zq l)
theorem bO (ha:DE X W a ta) (hb:DE X W b tb):DE X W (.BinOp a .Add b pos) (aF cD ta tb):=Qz ai4 aoM ha hb
theorem rE (ha:DE X W a ta) (hb:DE X W b tb):DE X W (.BinOp a .Sub b pos) (aF (uP fun i j => .int (i - j)) ta tb):=Qz op_sub (oA fun _ _ _ => .int _) ha hb
theorem jW (ha:DE X W a ta) (hb:DE X W b tb):DE X W (.BinOp a .Mult b pos) (aF lW ta tb):=Qz acE aoN ha hb
theorem V9 (ha:DE X W a ta) (hb:DE X W b tb):DE X W (.BinOp a .FloorDiv b pos) (aF (gI Ek fun i j => .int (i.fdiv j)) ta tb):=Qz akI (l_I fun _ _ _ => .int _) ha hb
theorem tV (ha:DE X W a ta) (hb:DE X W b tb):DE X W (.BinOp a .Mod b pos) (aF (gI (fun _ j=>j≠0) fun i j => .int (i.fmod j)) ta tb):=Qz op_modN (l_I fun _ _ _ => .int _) ha hb
theorem ai6 (ha:DE X W a ta) (hb:DE X W b tb):DE X W (.BinOp a .Pow b pos) (aF (gI CPow fun i j => .int (i^j.toNat)) ta tb):=Qz op_pow (l_I fun _ _ _ => .int _) ha hb
theorem aK (ha:DE X W a ta) (hb:DE X W b tb) (hs:PlainIx b:=by exact fun _ _=>rfl):DE X W (.Subscript a b pos) (aF aN ta tb):=PE.imp (pe_ix ix_seq ha hb hs) (Zq apT)
theorem Jq {op:CmpOp} {r:R2} {g:lU} (ho:OpR X (compareOp op) r) (l:vB X.K r g) (ha:DE X W a ta) (hb:DE X W b tb) (hm:behindInMarks op b=false):DE X W (.Compare a [op] [b] pos) (aF g ta tb):=PE.imp (pe_cmpR ho ha hb hm) (Zq l)
def kB (Q:Bool→M→Prop) (d:D) (μ:M):Prop:=match d with
 | .bl b=>Q b μ
 | _=>False
def dB (t:bZ) (W:XD) (δ:Sl) (μ:M) (Q:Bool→M→Prop):Prop:=t W δ μ (kB Q)
theorem Fq {op:CmpOp} {r:R2} {g:lU} (ho:OpR X (compareOp op) r) (l:vB X.K r g) (ha:DE X W a ta) (hb:DE X W b tb) (hm:behindInMarks op b=false):DT X W (.Compare a [op] [b] pos) (dB (aF g ta tb)) :=
 PT.imp (pt_cmpR ho ha hb hm) fun σ H Q ⟨δ,μ,Hc,Qd,Xd,s,rs,h,rt,rx⟩=>Zq l σ H _ ⟨δ,μ,Hc,_,Xd,s,rs,h,fun d μ' hd v H' bJ e1 s1 r1=>by
  cases r1 with
  | bl b=>exact ⟨b,rfl,rt b μ' hd H' bJ e1 s1⟩
  | _=>exact hd.elim,rx⟩
abbrev LQ:lU:=uP fun i j => .bl (decide (i<j))
abbrev Ce:lU:=uP fun i j => .bl (decide (i≤j))
abbrev gGt:lU:=uP fun i j => .bl (decide (j<i))
abbrev gGe:lU:=uP fun i j => .bl (decide (j≤i))
theorem aoO (ha:DE X W a ta) (hb:DE X W b tb):DE X W (.Compare a [.Lt] [b] pos) (aF LQ ta tb):=Jq op_lt (oA fun _ _ _ => .bl _) ha hb (nomark _)
theorem al' (ha:DE X W a ta) (hb:DE X W b tb):DE X W (.Compare a [.LtE] [b] pos) (aF Ce ta tb):=Jq op_le (oA fun _ _ _ => .bl _) ha hb (nomark _)
theorem ama (ha:DE X W a ta) (hb:DE X W b tb):DE X W (.Compare a [.GtE] [b] pos) (aF gGe ta tb):=Jq op_ge (oA fun _ _ _ => .bl _) ha hb (nomark _)
theorem yw {k:Nat} (hr:Room k X.A) (ha:DE X W a ta) (hb:DE X W b tb):DE X W (.Compare a [.Eq] [b] pos) (aF eY ta tb):=Jq (op_eqD hr.units) anz ha hb (nomark _)
theorem aoP {k:Nat} (hr:Room k X.A) (ha:DE X W a ta) (hb:DE X W b tb):DE X W (.Compare a [.NotEq] [b] pos) (aF lV ta tb):=Jq (op_neD hr.units) anA ha hb (nomark _)
theorem aho (ha:DE X W a ta) (hb:DE X W b tb):DE X W (.Compare a [.Is] [b] pos) (aF (lD false) ta tb):=Jq (OpR.or op_isN op_isBl) anC ha hb (nomark _)
theorem adI (ha:DE X W a ta) (hb:DE X W b tb) (hm:behindInMarks .In b=false:=by rfl):DE X W (.Compare a [.In] [b] pos) (aF (gIn false) ta tb):=Jq (OpR.or op_in_seq op_in_str) anE ha hb hm
theorem LR (ha:DE X W a ta) (hb:DE X W b tb):DT X W (.Compare a [.Lt] [b] pos) (dB (aF LQ ta tb)):=Fq op_lt (oA fun _ _ _ => .bl _) ha hb (nomark _)
theorem Wb (ha:DE X W a ta) (hb:DE X W b tb):DT X W (.Compare a [.Gt] [b] pos) (dB (aF gGt ta tb)):=Fq op_gt (oA fun _ _ _ => .bl _) ha hb (nomark _)
theorem fB {k:Nat} (hr:Room k X.A) (ha:DE X W a ta) (hb:DE X W b tb):DT X W (.Compare a [.Eq] [b] pos) (dB (aF eY ta tb)):=Fq (op_eqD hr.units) anz ha hb (nomark _)
theorem j7 {k:Nat} (hr:Room k X.A) (ha:DE X W a ta) (hb:DE X W b tb):DT X W (.Compare a [.NotEq] [b] pos) (dB (aF lV ta tb)):=Fq (op_neD hr.units) anA ha hb (nomark _)
theorem Hi (ha:DE X W a ta) (hb:DE X W b tb):DT X W (.Compare a [.Is] [b] pos) (dB (aF (lD false) ta tb)):=Fq (OpR.or op_isN op_isBl) anC ha hb (nomark _)
theorem Jr (ha:DE X W a ta) (hb:DE X W b tb):DT X W (.Compare a [.IsNot] [b] pos) (dB (aF (lD true) ta tb)):=Fq (OpR.or op_notN op_notBl) amB ha hb (nomark _)
theorem adJ (ha:DE X W a ta) (hb:DE X W b tb) (hm:behindInMarks .In b=false:=by rfl):DT X W (.Compare a [.In] [b] pos) (dB (aF (gIn false) ta tb)):=Fq (OpR.or op_in_seq op_in_str) anE ha hb hm
theorem X8 (ha:DE X W a ta) (hb:DE X W b tb) (hm:behindInMarks .NotIn b=false:=by rfl):DT X W (.Compare a [.NotIn] [b] pos) (dB (aF (gIn true) ta tb)):=Fq (OpR.or op_notIn_seq op_notIn_str) amD ha hb hm
def Wc (g':lU) (tc:bZ) (W:XD) (δ:Sl) (Q:QD) (y:D) (z:D) (μ:M):Prop:=match z with
 | .bl true=>tc W δ μ (T9 g' y Q)
 | .bl false=>Q (.bl false) μ
 | _=>False
def Oq (g g':lU) (tc:bZ) (W:XD) (δ:Sl) (Q:QD) (x:D) (y:D) (μ:M):Prop:=g x y μ (Wc g' tc W δ Q y)
def Ot (g g':lU) (tb tc:bZ) (W:XD) (δ:Sl) (Q:QD) (x:D) (μ:M):Prop:=tb W δ μ (Oq g g' tc W δ Q x)
def nY (g g':lU) (ta tb tc:bZ) (W:XD) (δ:Sl) (μ:M) (Q:QD):Prop:=ta W δ μ (Ot g g' tb tc W δ Q)
theorem amb {K:PySem.W.Frag} {r r':R2} {g g':lU} (l:vB K r g) (l':vB K r' g'):∀ σ H Q,w6 K W (nY g g' ta tb tc) σ H Q→tChain r r' (w6 K W ta) (w6 K W tb) (w6 K W tc) σ H Q :=
 fun σ H Q ⟨δ,μ,Hc,Qd,Xd,s,rs,h,rt,rx⟩=>⟨δ,μ,Hc,_,Xd,s,rs,h,fun x μ1 h1 v H1 cA e1 s1 r1 =>
  ⟨δ, μ1, cA, _, Xd, s1, rs.mono e1, h1, fun y μ2 h2 w H2 dw e2 s2 r2 => l v w x y H2 dw μ2 _ _ s2 (r1.mono e2) r2 h2 fun z μ3 h3 u H3 mU e3 s3 r3 => by
   cases r3 with
   | bl k =>
    refine ⟨k,rfl,?_⟩
    cases k with
    | true =>
     rw [if_pos rfl]
     exact ⟨δ,μ3,mU,_,Xd,s3,rs.mono ((e1.trans e2).trans e3),h3,fun q μ4 h4 u4 H4 Zt e4 s4 r4=>l' w u4 y q H4 Zt μ4 Q Qd s4 (r2.mono (e3.trans e4)) r4 h4 (rt.mono (((e1.trans e2).trans e3).trans e4)),rx.mono ((e1.trans e2).trans e3)⟩
    | false =>
     rw [if_neg Bool.false_ne_true]
     exact (rt.mono ((e1.trans e2).trans e3)).val s3 (.bl _) h3
   | _=>exact h3.elim,rx.mono e1⟩,rx⟩
theorem ad8 {op op':CmpOp} {r r':R2} {g g':lU} (ho:OpR X (compareOp op) r) (l:vB X.K r g) (ho':OpR X (compareOp op') r') (l':vB X.K r' g') (ha:DE X W a ta) (hb:DE X W b tb) (hc:DE X W c tc)
 (hm:lastMarks [op,op'] [b,c]=false:=by with_unfolding_all rfl):DE X W (.Compare a [op,op'] [b,c] pos) (nY g g' ta tb tc):=PE.imp (pe_chain ho ho' ha hb hc hm) (amb l l')
theorem za {op op':CmpOp} {r r':R2} {g g':lU} (ho:OpR X (compareOp op) r) (l:vB X.K r g) (ho':OpR X (compareOp op') r') (l':vB X.K r' g') (ha:DE X W a ta) (hb:DE X W b tb) (hc:DE X W c tc)
  (hm:lastMarks [op,op'] [b,c]=false:=by with_unfolding_all rfl):DT X W (.Compare a [op,op'] [b,c] pos) (dB (nY g g' ta tb tc)) :=
 PT.imp (pt_chain ho ho' ha hb hc hm) fun σ H Q ⟨δ,μ,Hc,Qd,Xd,s,rs,h,rt,rx⟩=>amb l l' σ H _ ⟨δ,μ,Hc,_,Xd,s,rs,h,fun d μ' hd v H' bJ e1 s1 r1=>by
  cases r1 with
  | bl b=>exact ⟨b,rfl,rt b μ' hd H' bJ e1 s1⟩
  | _=>exact hd.elim,rx⟩
def abA (μ:M) (d:D):Option Bool:=match view μ d with
 | .non=>some false
 | .bl b=>some b
 | .int i=>some (i != 0)
 | .lst xs=>some (!xs.isEmpty)
 | .tup xs=>some (!xs.isEmpty)
 | _=>none
def ad9 (Q:Bool→M→Prop) (d:D) (μ:M):Prop:=X6 (abA μ d) Q μ
def fu (t:bZ) (W:XD) (δ:Sl) (μ:M) (Q:Bool→M→Prop):Prop:=t W δ μ (ad9 Q)
theorem cW (ha:DE X W a ta) (he:∀ whole,isTrue a X.env whole=(do let v ← whole;standAt a.pos;holding [v] (truthy v)):=by intro _;rfl):DT X W a (fu ta) :=
 PT.imp (pt_truth ha he) fun σ H Q ⟨δ,μ,Hc,Qd,Xd,s,rs,h,rt,rx⟩=>by
  refine (show w6 X.K W ta σ H _ from ⟨δ,μ,Hc,_,Xd,s,rs,h,?_,rx⟩)
  intro d μ' hd v H' bJ e1 s1 r1
  obtain ⟨k,hk,hq⟩:=X6.ex hd
  refine ⟨k,?_,rt k μ' hq H' bJ e1 s1⟩
  have z:=Cj s1 r1
  unfold abA at hk
  split at hk
  ·rename_i ev;rw [ev] at z;cases z;exact (Option.some.inj hk).symm
  ·rename_i ev;rw [ev] at z;cases z;exact (Option.some.inj hk).symm
  ·rename_i ev;rw [ev] at z;cases z;exact (Option.some.inj hk).symm
  ·rename_i ev
   rw [ev] at z
   cases z with
   | lst h1 h2 =>
    refine .inl ⟨_,SqL.of h1,?_⟩
    rw [← Option.some.inj hk]
    cases h2<;>rfl
  ·rename_i ev
   rw [ev] at z
   cases z with
   | tup h1 h2 =>
    refine .inr (.inl ⟨_,h1,?_⟩)
    rw [← Option.some.inj hk]
    cases h2<;>rfl
  ·cases hk
def Zu (c:Bool) (u:DTT) (W:XD) (δ:Sl) (μ:M) (Q:Bool→M→Prop):Prop:=match c with
 | true=>u W δ μ Q
 | false=>Q false μ
def ad' (c:Bool) (u:DTT) (W:XD) (δ:Sl) (μ:M) (Q:Bool→M→Prop):Prop:=match c with
 | true=>Q true μ
 | false=>u W δ μ Q
def aea (u:DTT) (W:XD) (δ:Sl) (Q:Bool→M→Prop) (c:Bool) (μ:M):Prop:=Zu c u W δ μ Q
def kOr (u:DTT) (W:XD) (δ:Sl) (Q:Bool→M→Prop) (c:Bool) (μ:M):Prop:=ad' c u W δ μ Q
def aeb (Q:Bool→M→Prop) (c:Bool) (μ:M):Prop:=Q (!c) μ
def sJ (t u:DTT) (W:XD) (δ:Sl) (μ:M) (Q:Bool→M→Prop):Prop:=t W δ μ (aea u W δ Q)
def jy (t u:DTT) (W:XD) (δ:Sl) (μ:M) (Q:Bool→M→Prop):Prop:=t W δ μ (kOr u W δ Q)
def eX (t:DTT) (W:XD) (δ:Sl) (μ:M) (Q:Bool→M→Prop):Prop:=t W δ μ (aeb Q)
theorem akJ {c:Bool} {u:DTT} {W:XD} {δ:Sl} {μ:M} {Q:Bool→M→Prop} (h1:c=true→u W δ μ Q) (h2:c=false→Q false μ):Zu c u W δ μ Q:=by
 cases c with
 | true=>exact h1 rfl
 | false=>exact h2 rfl
theorem zG {c:Bool} {u:DTT} {W:XD} {δ:Sl} {μ:M} {Q:Bool→M→Prop} (h1:c=true→Q true μ) (h2:c=false→u W δ μ Q):ad' c u W δ μ Q:=by
 cases c with
 | true=>exact h1 rfl
 | false=>exact h2 rfl
theorem Ua {p:Prop} [Decidable p] {u:DTT} {W:XD} {δ:Sl} {μ:M} {Q:Bool→M→Prop} (h1:p→u W δ μ Q) (h2:¬ p→Q false μ):Zu (decide p) u W δ μ Q:=akJ (fun h=>h1 (of_decide_eq_true h)) (fun h=>h2 (of_decide_eq_false h))
theorem akK {p:Prop} [Decidable p] {u:DTT} {W:XD} {δ:Sl} {μ:M} {Q:Bool→M→Prop} (h1:p→Q true μ) (h2:¬ p→u W δ μ Q):ad' (decide p) u W δ μ Q:=zG (fun h=>h1 (of_decide_eq_true h)) (fun h=>h2 (of_decide_eq_false h))
variable {tA tB':DTT} {rest:List Expr}
theorem rF (ha:DT X W a tA):DW X W (.BoolOp .And [a] pos) tA:=pw_and1 ha
theorem gj (ha:DT X W a tA):DW X W (.BoolOp .Or [a] pos) tA:=pw_or1 ha
theorem tW (ha:DT X W a tA) (hb:DW X W (.BoolOp .And (b::rest) pos) tB'):DW X W (.BoolOp .And (a::b::rest) pos) (sJ tA tB') :=
 PW.imp (pw_and ha hb) fun σ H Q ⟨δ,μ,Hc,Qd,Xd,s,rs,h,rt,rx⟩=>⟨δ,μ,Hc,_,Xd,s,rs,h,fun c μ1 h1 H1 cA e1 s1=>by
  cases c with
  | true=>exact ⟨δ,μ1,cA,Qd,Xd,s1,rs.mono e1,h1,rt.mono e1,rx.mono e1⟩
  | false=>exact rt false μ1 h1 _ _ e1 s1,rx⟩
theorem fW (ha:DT X W a tA) (hb:DW X W (.BoolOp .Or (b::rest) pos) tB'):DW X W (.BoolOp .Or (a::b::rest) pos) (jy tA tB') :=
 PW.imp (pw_or ha hb) fun σ H Q ⟨δ,μ,Hc,Qd,Xd,s,rs,h,rt,rx⟩=>⟨δ,μ,Hc,_,Xd,s,rs,h,fun c μ1 h1 H1 cA e1 s1=>by
  cases c with
  | true=>exact rt true μ1 h1 _ _ e1 s1
  | false=>exact ⟨δ,μ1,cA,Qd,Xd,s1,rs.mono e1,h1,rt.mono e1,rx.mono e1⟩,rx⟩
theorem DW.dt (h:DW X W a tA):DT X W a tA:=PW.pt h
theorem cU (ha:DT X W a tA):DT X W (.UnaryOp .Not a pos) (eX tA) :=
 PT.imp (pt_not ha) fun σ H Q ⟨δ,μ,Hc,Qd,Xd,s,rs,h,rt,rx⟩=>⟨δ,μ,Hc,_,Xd,s,rs,h,fun c μ1 h1 H1 cA e1 s1=>rt _ _ h1 _ _ e1 s1,rx⟩
def Zv (c:Bool) (u:bZ) (W:XD) (δ:Sl) (μ:M) (Q:QD):Prop:=match c with
 | true=>u W δ μ Q
 | false=>Q (.bl false) μ
def ahp (c:Bool) (u:bZ) (W:XD) (δ:Sl) (μ:M) (Q:QD):Prop:=match c with
 | true=>Q (.bl true) μ
 | false=>u W δ μ Q
def Zw (u:bZ) (W:XD) (δ:Sl) (Q:QD) (d:D) (μ:M):Prop:=match d with
 | .bl c=>Zv c u W δ μ Q
 | _=>False
def aec (u:bZ) (W:XD) (δ:Sl) (Q:QD) (d:D) (μ:M):Prop:=match d with
 | .bl c=>ahp c u W δ μ Q
 | _=>False
def Zx (Q:QD) (d:D) (μ:M):Prop:=match d with
 | .bl c=>Q (.bl !c) μ
 | _=>False
def nD (t u:bZ) (W:XD) (δ:Sl) (μ:M) (Q:QD):Prop:=t W δ μ (Zw u W δ Q)
def Yb (t u:bZ) (W:XD) (δ:Sl) (μ:M) (Q:QD):Prop:=t W δ μ (aec u W δ Q)
def Ma (t:bZ) (W:XD) (δ:Sl) (μ:M) (Q:QD):Prop:=t W δ μ (Zx Q)
theorem Ub {c:Bool} {u:bZ} {W:XD} {δ:Sl} {μ:M} {Q:QD} (h1:c=true→u W δ μ Q) (h2:c=false→Q (.bl false) μ):Zv c u W δ μ Q:=by
 cases c with
 | true=>exact h1 rfl
 | false=>exact h2 rfl
theorem oY {op} {t:bZ} (h:DE X W a t):DE X W (.BoolOp op [a] pos) t:=pe_one h
theorem pY (ha:DE X W a ta) (hb:DE X W (.BoolOp .And (b::rest) pos) tb):DE X W (.BoolOp .And (a::b::rest) pos) (nD ta tb) :=
 PE.imp (pe_and ha hb) fun σ H Q ⟨δ,μ,Hc,Qd,Xd,s,rs,h,rt,rx⟩=>⟨δ,μ,Hc,_,Xd,s,rs,h,fun d μ1 h1 v H1 cA e1 s1 r1=>by
  cases r1 with
  | bl c =>
   refine ⟨c,rfl,?_⟩
   cases c with
   | true=>exact ⟨δ,μ1,cA,Qd,Xd,s1,rs.mono e1,h1,rt.mono e1,rx.mono e1⟩
   | false=>exact rt _ _ h1 _ _ _ e1 s1 (.bl _)
  | _=>exact h1.elim,rx⟩
theorem amc (ha:DE X W a ta) (hb:DE X W (.BoolOp .Or (b::rest) pos) tb):DE X W (.BoolOp .Or (a::b::rest) pos) (Yb ta tb) :=
 PE.imp (pe_or ha hb) fun σ H Q ⟨δ,μ,Hc,Qd,Xd,s,rs,h,rt,rx⟩=>⟨δ,μ,Hc,_,Xd,s,rs,h,fun d μ1 h1 v H1 cA e1 s1 r1=>by
  cases r1 with
  | bl c =>
   refine ⟨c,rfl,?_⟩
   cases c with
   | true=>exact rt _ _ h1 _ _ _ e1 s1 (.bl _)
   | false=>exact ⟨δ,μ1,cA,Qd,Xd,s1,rs.mono e1,h1,rt.mono e1,rx.mono e1⟩
  | _=>exact h1.elim,rx⟩
theorem aed (ha:DE X W a ta):DE X W (.UnaryOp .Not a pos) (Ma ta) :=
 PE.imp (pe_not ha) fun σ H Q ⟨δ,μ,Hc,Qd,Xd,s,rs,h,rt,rx⟩=>⟨δ,μ,Hc,_,Xd,s,rs,h,fun d μ1 h1 v H1 cA e1 s1 r1=>by
  cases r1 with
  | bl c=>exact ⟨c,rfl,rt _ _ h1 _ _ _ e1 s1 (.bl _)⟩
  | _=>exact h1.elim,rx⟩
def ifE (c:Bool) (ta tb:bZ) (W:XD) (δ:Sl) (μ:M) (Q:QD):Prop:=match c with
 | true=>ta W δ μ Q
 | false=>tb W δ μ Q
def aC (_:XD) (_:Sl) (μ:M) (Q:List D→M→Prop):Prop:=Q [] μ
def Ou (d:D) (Q:List D→M→Prop) (ds:List D) (μ:M):Prop:=Q (d::ds) μ
def Uc (r:iU) (W:XD) (δ:Sl) (Q:List D→M→Prop) (d:D) (μ:M):Prop:=r W δ μ (Ou d Q)
def ao (t:bZ) (r:iU) (W:XD) (δ:Sl) (μ:M) (Q:List D→M→Prop):Prop:=t W δ μ (Uc r W δ Q)
variable {es:List Expr} {tr:iU}
theorem au:DA X W [] aC:=PA.imp pa_nil fun σ H Q ⟨δ,μ,Hc,Qd,Xd,s,rs,h,rt,rx⟩=>rt _ _ h _ _ Hc (Same.refl _) s .nil
theorem aj (ha:DE X W e te) (hr:DA X W es tr) (hs:starEach (e::es) X.env=(false,eval e X.env)::starEach es X.env:=by rfl):DA X W (e::es) (ao te tr) :=
 PA.imp (pa_cons ha hr hs) fun σ H Q ⟨δ,μ,Hc,Qd,Xd,s,rs,h,rt,rx⟩=>⟨δ,μ,Hc,_,Xd,s,rs,h,fun d μ1 h1 v H1 cA e1 s1 r1 =>
  ⟨δ,μ1,cA,_,Xd,s1,rs.mono e1,h1,fun ds μ2 h2 vs H2 dw e2 s2 r2=>rt _ _ h2 _ _ _ (e1.trans e2) s2 (.cons (r1.mono e2) r2),rx.mono e1⟩,rx⟩
def kTup (Q:QD) (ds:List D) (μ:M):Prop:=ds.length≤sizeLine∧Q (.tup ds) μ
def ahq (Q:QD) (ds:List D) (μ:M):Prop:=ds.length≤sizeLine∧Q (.lst ds) μ
def NewC (ds:List D) (μ:M) (Q:QD):Prop:=∀ p,μ p=none→Q (.raw (.ref p)) (cC μ p (.lst ds))
def adK (Q:QD) (ds:List D) (μ:M):Prop:=ds.length≤sizeLine∧NewC ds μ Q
def dTup (t:iU) (W:XD) (δ:Sl) (μ:M) (Q:QD):Prop:=t W δ μ (kTup Q)
def d7 (t:iU) (W:XD) (δ:Sl) (μ:M) (Q:QD):Prop:=t W δ μ (ahq Q)
def Ab (t:iU) (W:XD) (δ:Sl) (μ:M) (Q:QD):Prop:=t W δ μ (adK Q)
theorem bf {x1} (h:DA X W es tr):DE X W (.Tuple es x1 pos) (dTup tr):=PE.imp (pe_tup h) fun σ H Q ⟨δ,μ,Hc,Qd,Xd,s,rs,h,rt,rx⟩=>⟨δ,μ,Hc,_,Xd,s,rs,h,fun ds μ1 h1 vs H1 cA e1 s1 r1 =>
 ⟨by rw [r1.length];exact h1.1,(rt.mono e1).newT s1 r1 h1.2⟩,rx⟩
theorem cX (h:DA X W es tr):DE X W (.List es pos) (d7 tr):=PE.imp (pe_lst h) fun σ H Q ⟨δ,μ,Hc,Qd,Xd,s,rs,h,rt,rx⟩=>⟨δ,μ,Hc,_,Xd,s,rs,h,fun ds μ1 h1 vs H1 cA e1 s1 r1 =>
 ⟨by rw [r1.length];exact h1.1,(rt.mono e1).new s1 r1 h1.2⟩,rx⟩
theorem Cm (h:DA X W es tr):DE X W (.List es pos) (Ab tr):=PE.imp (pe_lst h) fun σ H Q ⟨δ,μ,Hc,Qd,Xd,s,rs,h,rt,rx⟩=>⟨δ,μ,Hc,_,Xd,s,rs,h,fun ds μ1 h1 vs H1 cA e1 s1 r1 =>
 ⟨by rw [r1.length];exact h1.1,(rt.mono e1).newC s1 r1 h1.2⟩,rx⟩
def kFz (Q:QD) (d:D) (μ:M):Prop:=match d with
 | .raw (.ref p)=>∃ ds,μ p=some (.lst ds)∧Q (.lst ds) (vA μ p)
 | _=>False
def Gx (t:bZ) (W:XD) (δ:Sl) (μ:M) (Q:QD):Prop:=t W δ μ (kFz Q)
theorem Ac (h:DE X W e te):DE X W e (Gx te):=PE.imp h fun σ H Q ⟨δ,μ,Hc,Qd,Xd,s,rs,h,rt,rx⟩=>⟨δ,μ,Hc,_,Xd,s,rs,h,fun d μ1 h1 v H1 cA e1 s1 r1=>by
 cases r1 with
 | raw =>
  cases v with
  | ref p =>
   obtain ⟨ds,hp,hq⟩:=(show ∃ ds,μ1 p=some (.lst ds)∧Qd (.lst ds) (vA μ1 p) from h1)
   obtain ⟨_,o,ho,vs,rfl,ra⟩:=s1.cell p _ hp
   obtain ⟨dw,e2,s2,hh⟩:=s1.sub (Sub.del p)
   refine rt _ _ hq _ _ dw (e1.trans e2) s2 (.lst ?_ (ra.mono e2))
   rw [hh p (by unfold vA;rw [if_pos rfl])]
   exact ho
  | _=>exact h1.elim
 | _=>exact h1.elim,rx⟩
end
end DL
namespace DL
open PySem PySem.Spec L2
abbrev Ct:=List D→M→QD→XD→Prop
def Jt (K:PySem.W.Frag) (c:Ct):Sp:=fun vs H Q E=>∃ ds μ Hc Qd Xd,Split K H Hc μ∧bH K Hc vs ds∧c ds μ Qd Xd∧pW K Hc Qd Q∧yX K Hc Xd E
structure dW (P:Program) (w:World) (K:PySem.W.Frag) (mg:Str→Option Value) (base:Heap) (CX:CXT) (x qual:Str) (st:Stmt) (k:Nat) (ps:List Str) (c:Ct):Prop where
 ex:∃ f fd,Fun K x qual st f fd∧mg x=some (.ref f)∧FnOk P w K mg base CX k f fd ps (Jt K c)∧Binds K fd ps []
def Pw (CX:CXT) (X:Cx) (W:WX):Prop:=∀ σ,PassesAt CX X σ (WE W σ)
theorem bD {X:Cx} {W:WX}:Pw CX0 X W:=fun _ _ _ _ _ _ _ h=>h.elim
theorem rR {X:Cx} {W:WX} (tk:Takes X W):Pw (L2.CX X.prog X.w) X W:=fun σ=>passAt tk σ
def Zy (c:Ct) (W:XD) (Q:QD) (ds:List D) (μ:M):Prop:=c ds μ Q W
def dCall (c:Ct) (t:iU) (W:XD) (δ:Sl) (μ:M) (Q:QD):Prop:=t W δ μ (Zy c W Q)
abbrev W0:WX:=fun _ _ _ _=>False
def pick {α:Type} (pm:List Nat) (xs:List α):List α:=pm.filterMap (xs[·]?)
section
variable {X:Cx} {W:WX} {a b e:Expr} {es:List Expr} {pos p:Pos} {ta tb te:bZ} {tr tk:iU} {CX:CXT} {x qual:Str} {st:Stmt} {k:Nat} {ps:List Str} {c:Ct}
theorem aH (F:dW X.prog X.w X.K X.mg X.base CX x qual st k ps c) (hr:Room k X.A) (pw:Pw CX X W) (ha:DA X W (e::es) tr) (hg:Gl X x:=by rfl) (hdb:(x == ("__debug__" : Str))=false:=by decide)
  (he:starEach (e::es) X.env=(false,eval e X.env)::starEach es X.env:=by rfl) (hpl:(backTo pos (starEach es X.env)).any (·.1)=false:=by rfl):DE X W (.Call (.Name x p) (e::es) [] pos) (dCall c tr):=by
 obtain ⟨f,fd,FF,hm,G,bn⟩:=F.ex
 exact PE.imp (pe_callS G hr hg hm FF.kp bn pw ha hdb he hpl) fun σ H Q ⟨δ,μ,Hc,Qd,Xd,s,rs,h,rt,rx⟩=>⟨δ,μ,Hc,_,Xd,s,rs,h,fun ds μ1 h1 vs H1 cA e1 s1 r1 =>
  ⟨ds,μ1,cA,Qd,Xd,s1,r1,h1,rt.mono e1,rx.mono e1⟩,rx⟩
theorem bH.pick {K:PySem.W.Frag} {H:Hp} {vs:List V} {ds:List D} (r:bH K H vs ds):∀ pm:List Nat,bH K H (pick pm vs) (pick pm ds)
 | [] => .nil
 | i :: pm => by
  have ih:=bH.pick r pm
  unfold DL.pick at ih ⊢
  rw [List.filterMap_cons,List.filterMap_cons]
  cases e:ds[i]? with
  | none =>
   have z:vs[i]? = none:=by
    rw [List.getElem?_eq_none_iff] at e ⊢
    rw [r.length]
    exact e
   rw [z]
   exact ih
  | some d =>
   obtain ⟨v,hv,rv⟩:=r.get e
   rw [hv]
   exact .cons rv ih
theorem Mf {vs:List V} {us:List Value} (r:Vals vs us):∀ pm:List Nat,Vals (pick pm vs) (pick pm us)
 | [] => .nil
 | i :: pm => by
  have ih:=Mf r pm
  unfold DL.pick at ih ⊢
  rw [List.filterMap_cons,List.filterMap_cons]
  cases e:vs[i]? with
  | none =>
   rw [r.none_of e]
   exact ih
  | some d =>
   obtain ⟨v,hv,rv⟩:=r.get e
   rw [hv]
   exact .cons rv ih
def DK (X:Cx) (W:WX) (kws:List Keyword) (t:iU):Prop:=PK X kws (upA X.K W t)
theorem Zz:DK X W [] aC:=⟨fun pos pins s σ H Q I h=>pk_nil.run pos pins s σ H Q I (let ⟨δ,μ,Hc,Qd,Xd,s,rs,h,rt,rx⟩:=h;rt _ _ h _ _ Hc (Same.refl _) s .nil)⟩
theorem Ov {nm:Option Str} {kws:List Keyword} {kpos:Pos} (ha:DE X W e te) (hr:DK X W kws tr):DK X W (⟨nm,e,kpos⟩::kws) (ao te tr):=⟨fun pos pins s σ H Q I h=>(pk_cons (nm:=nm) (kpos:=kpos) ha hr).run pos pins s σ H Q I (let ⟨δ,μ,Hc,Qd,Xd,s,rs,h,rt,rx⟩:=h
 ⟨δ,μ,Hc,_,Xd,s,rs,h,fun d μ1 h1 v H1 cA e1 s1 r1 =>
  ⟨δ,μ1,cA,_,Xd,s1,rs.mono e1,h1,fun ds μ2 h2 vs H2 dw e2 s2 r2=>rt _ _ h2 _ _ _ (e1.trans e2) s2 (.cons (r1.mono e2) r2),rx.mono e1⟩,rx⟩)⟩
def Ud (m:Nat) (Q:List D→M→Prop) (ds:List D) (μ:M):Prop:=ds.length=m∧Q ds μ
def tX (m:Nat) (t:iU) (W:XD) (δ:Sl) (μ:M) (Q:List D→M→Prop):Prop:=t W δ μ (Ud m Q)
abbrev Ad:=List D→M→QD→Prop
def pZ (K:PySem.W.Frag) (r:List V→Hp→VK→Prop) (g:Ad):Prop:=∀ (vs:List V) (ds:List D) (H Hc:Hp) (μ:M) (Q:VK) (Qd:QD),Split K H Hc μ→bH K Hc vs ds→g ds μ Qd→pW K Hc Qd Q→r vs H Q
def kCB (g:Ad) (Q:QD) (ds:List D) (μ:M):Prop:=g ds μ Q
def bV (g:Ad) (t:iU) (W:XD) (δ:Sl) (μ:M) (Q:QD):Prop:=t W δ μ (kCB g Q)
theorem ai7 {K:PySem.W.Frag} {r:List V→Hp→VK→Prop} {g:Ad} (l:pZ K r g):∀ σ H Q,w6 K W (bV g tr) σ H Q→tCB r (upA K W tr) σ H Q :=
 fun σ H Q ⟨δ,μ,Hc,Qd,Xd,s,rs,h,rt,rx⟩=>⟨δ,μ,Hc,_,Xd,s,rs,h,fun ds μ1 h1 vs H1 cA e1 s1 r1=>l vs ds H1 cA μ1 Q Qd s1 r1 h1 (rt.mono e1),rx⟩
variable {id T:String} {r:List V→Hp→VK→Prop} {g:Ad}
theorem aY (hc:CallR X (.builtin id) r) (l:pZ X.K r g) (hm:X.mg x=none) (hv:bootBuiltins x=some (.builtin id)) (ha:DA X W (e::es) tr) (hg:Gl X x:=by rfl) (hn:x≠"__name__" := by decide) (hdb:(x == ("__debug__" : Str))=false:=by decide)
 (he:starEach (e::es) X.env=(false,eval e X.env)::starEach es X.env:=by rfl) (hpl:(backTo pos (starEach es X.env)).any (·.1)=false:=by rfl):DE X W (.Call (.Name x p) (e::es) [] pos) (bV g tr):=PE.imp (pe_callB hc hg hm hv ha hn hdb he hpl) (ai7 l)
theorem lN (hc:CallR X (.type T) r) (l:pZ X.K r g) (hm:X.mg x=none) (hv:bootBuiltins x=some (.type T)) (ha:DA X W (e::es) tr) (hg:Gl X x:=by rfl) (hn:x≠"__name__" := by decide) (hdb:(x == ("__debug__" : Str))=false:=by decide)
 (he:starEach (e::es) X.env=(false,eval e X.env)::starEach es X.env:=by rfl) (hpl:(backTo pos (starEach es X.env)).any (·.1)=false:=by rfl):DE X W (.Call (.Name x p) (e::es) [] pos) (bV g tr):=PE.imp (pe_callTy hc hg hm hv ha hn hdb he hpl) (ai7 l)
theorem gW {v:V} {u:Value} (hm:X.mg x=none) (hv:bootBuiltins x=some u) (r:RelV v u) (hg:Gl X x:=by rfl) (hn:x≠"__name__" := by decide) (hd:(x == ("__debug__" : Str))=false:=by decide):DE X W (.Name x p) (dC (.raw v)):=abz (pe_bltn hg hm hv r hn hd) fun _ => .raw v
end
def dX:Ad:=fun ds μ Q=>match ds with
 | [d]=>match view μ d with
  | .lst xs=>Q (.int xs.length) μ
  | .tup xs=>Q (.int xs.length) μ
  | .dJ ns=>Q (.int ns.length) μ
  | .str z=>z.length≤sizeLine∧Q (.int z.length) μ
  | _=>False
 | _=>False
theorem bH.one' {K:PySem.W.Frag} {H:Hp} {vs:List V} {d:D} (r:bH K H vs [d]):∃ v,vs=[v]∧Rep K H v d:=by
 cases r with
 | cons a r=>cases r;exact ⟨_,rfl,a⟩
theorem bH.NK {K:PySem.W.Frag} {H:Hp} {vs:List V} {d e:D} (r:bH K H vs [d,e]):∃ v u,vs=[v,u]∧Rep K H v d∧Rep K H u e:=by
 cases r with
 | cons a r =>
  obtain ⟨u,rfl,b⟩:=r.one'
  exact ⟨_,u,rfl,a,b⟩
theorem dF {K:PySem.W.Frag}:pZ K (fun xs H Q=>∃ x n,xs=[x]∧LenV K x H n∧Q (.int n) H) dX:=by
 intro vs ds H Hc μ Q Qd s ra h rt
 unfold dX at h
 split at h
 ·obtain ⟨v,rfl,r⟩:=ra.one'
  split at h
  ·rename_i xs e1
   obtain ⟨a,ws,rfl,ha,rb⟩:=gq s r e1
   exact ⟨_,_,rfl,.inl ⟨ws,SqL.of ha,rfl⟩,rt.val s (.int _) (by rw [rb.length];exact h)⟩
  ·rename_i xs e1
   obtain ⟨a,ws,rfl,ha,rb⟩:=lB s r e1
   exact ⟨_,_,rfl,.inr ⟨ws,ha,rfl⟩,rt.val s (.int _) (by rw [rb.length];exact h)⟩
  ·rename_i ns e1
   obtain ⟨a,rfl,ha⟩:=ad7 s r e1
   exact ⟨_,_,rfl,.inl ⟨_,ha,rfl⟩,rt.val s (.int _) (by rw [List.length_map];exact h)⟩
  ·rename_i z e1
   cases yZ r e1
   exact ⟨_,_,rfl,⟨h.1,rfl⟩,rt.val s (.int _) h.2⟩
  ·exact h.elim
 ·exact h.elim
def NP:Ad:=fun ds μ Q=>match ds with
 | [.int i]=>Q (.int (if i<0 then -i else i)) μ
 | _=>False
theorem adL {K:PySem.W.Frag}:pZ K (fun xs H Q=>∃ i,xs=[V.int i]∧Q (.int (if i<0 then -i else i)) H) NP:=by
 intro vs ds H Hc μ Q Qd s ra h rt
 unfold NP at h
 split at h
 ·obtain ⟨v,rfl,r⟩:=ra.one'
  cases r
  exact ⟨_,rfl,rt.val s (.int _) h⟩
 ·exact h.elim
def Mg:Ad:=fun ds μ Q=>match ds with
 | [.int i,.int j]=>Q (.int (if j > i then j else i)) μ
 | _=>False
def Hj:Ad:=fun ds μ Q=>match ds with
 | [.int i,.int j]=>Q (.int (if j<i then j else i)) μ
 | _=>False
theorem anF {K:PySem.W.Frag}:pZ K (fun xs H Q=>∃ i j,xs=[V.int i,V.int j]∧Q (.int (if j > i then j else i)) H) Mg:=by
 intro vs ds H Hc μ Q Qd s ra h rt
 unfold Mg at h
 split at h
 ·obtain ⟨v,u,rfl,r1,r2⟩:=ra.NK
  cases r1;cases r2
  exact ⟨_,_,rfl,rt.val s (.int _) h⟩
 ·exact h.elim
theorem ai8 {K:PySem.W.Frag}:pZ K (fun xs H Q=>∃ i j,xs=[V.int i,V.int j]∧Q (.int (if j<i then j else i)) H) Hj:=by
 intro vs ds H Hc μ Q Qd s ra h rt
 unfold Hj at h
 split at h
 ·obtain ⟨v,u,rfl,r1,r2⟩:=ra.NK
  cases r1;cases r2
  exact ⟨_,_,rfl,rt.val s (.int _) h⟩
 ·exact h.elim
def Ae:List D→Option (List Bool)
 | []=>some []
 | .bl b::ds=>(Ae ds).map (b :: ·)
 | _=>none
def intsOf:List D→Option (List Int)
 | []=>some []
 | .int b::ds=>(intsOf ds).map (b :: ·)
 | _=>none
theorem aee:∀ {ds:List D} {bs:List Bool},Ae ds=some bs→ds=bs.map D.bl
 | [],bs,h=>by cases h;rfl
 | .bl b::ds,bs,h=>by
  unfold Ae at h
  cases e:Ae ds with
  | none=>rw [e] at h;cases h
  | some cs =>
   rw [e] at h
   cases h
   rw [aee e]
   rfl
 | .non::_,_,h=>by cases h
 | .int _::_,_,h=>by cases h
 | .str _::_,_,h=>by cases h
 | .lst _::_,_,h=>by cases h
 | .tup _::_,_,h=>by cases h
 | .dJ _::_,_,h=>by cases h
 | .raw _::_,_,h=>by cases h
 | .emp::_,_,h=>by cases h
theorem Ue:∀ {ds:List D} {bs:List Int},intsOf ds=some bs→ds=bs.map D.int
 | [],bs,h=>by cases h;rfl
 | .int b::ds,bs,h=>by
  unfold intsOf at h
  cases e:intsOf ds with
  | none=>rw [e] at h;cases h
  | some cs =>
   rw [e] at h
   cases h
   rw [Ue e]
   rfl
 | .non::_,_,h=>by cases h
 | .bl _::_,_,h=>by cases h
 | .str _::_,_,h=>by cases h
 | .lst _::_,_,h=>by cases h
 | .tup _::_,_,h=>by cases h
 | .dJ _::_,_,h=>by cases h
 | .raw _::_,_,h=>by cases h
 | .emp::_,_,h=>by cases h
theorem Mh:∀ bs:List Bool,Ae (bs.map D.bl)=some bs
 | []=>rfl
 | b::bs=>by rw [List.map_cons,Ae,Mh bs];rfl
theorem Hl:∀ bs:List Int,intsOf (bs.map D.int)=some bs
 | []=>rfl
 | b::bs=>by rw [List.map_cons,intsOf,Hl bs];rfl
def NQ:Ad:=fun ds μ Q=>match ds with
 | [d]=>match view μ d with
  | .lst xs=>Aa ((Ae xs).map fun bs => .bl (bs.all fun b=>b)) Q μ
  | _=>False
 | _=>False
def QC:Ad:=fun ds μ Q=>match ds with
 | [d]=>match view μ d with
  | .lst xs=>Aa ((intsOf xs).map fun bs => .int bs.sum) Q μ
  | .tup xs=>Aa ((intsOf xs).map fun bs => .int bs.sum) Q μ
  | _=>False
 | _=>False
theorem adM {K:PySem.W.Frag}:pZ K (rAll K) NQ:=by
 intro vs ds H Hc μ Q Qd s ra h rt
 unfold NQ at h
 split at h
 ·obtain ⟨v,rfl,r⟩:=ra.one'
  split at h
  ·rename_i xs e1
   obtain ⟨a,ws,rfl,ha,rb⟩:=gq s r e1
   obtain ⟨bs',hb',hq⟩:=h.ex
   obtain ⟨bs,hb,rfl⟩:=Option.map_eq_some_iff.mp hb'
   rw [aee hb] at rb
   rw [rb.bls] at ha
   exact ⟨a,bs,rfl,SqL.of ha,rt.val s (.bl _) hq⟩
  ·exact h.elim
 ·exact h.elim
open PyProof.Rows in
theorem akL {prog:Program} {w:World} {A:Around} {E:Value→Shared→Prop} {s:Shared} {l:Addr} {its:List Value} {ns:List Int} {Q:Value→Shared→Prop} (hh:A.handled=none) (hl:s.heap.IsTuple l its.toArray) (hi:IntsAre its ns)
  (h:∀ h' tk t',(∀ b o,s.heap.get? b=some o→h'.get? b=some o)→Q (.int ns.sum t') { s with heap:=h',toks:=tk }):wpAny (model prog w) A (call (.builtin "sum") [.ref l]) Q E s:=by
 obtain ⟨xs,e⟩:=hi.allInts.items
 have hn:numsOf (intItems xs).toList=ns:=by rw [← e];exact hi.numsOf
 rw [nums_intItems] at hn
 rw [e] at hl
 refine PySem.W.ktm_sumG hh hl fun h' tk t' hk => ?_
 have:=h h' tk t' hk
 rw [preSum_eq,List.take_of_length_le (by simp),hn];exact this
def amd (K:PySem.W.Frag):List V→Hp→VK→Prop:=fun vs H Q=>∃ (a:Addr) (ns:List Int),vs=[V.ref a]∧(SqL K H a (ns.map V.int)∨SqT K H a (ns.map V.int))∧Q (.int ns.sum) H
theorem abB {X:Cx} (hc:X.calm=true):CallR X (.builtin "sum") (amd X.K):=by
 intro pins s σ H vs us Q I r h
 obtain ⟨a,ns,rfl,hs | hs,q⟩:=h
 ·exact cr_sum hc pins s σ H _ us Q I r ⟨a,ns,rfl,hs,q⟩
 ·obtain ⟨its,rv,hl,_⟩:=I.tuple hs
  rw [Vals.ref1 r]
  exact akL (I.ok.hd hc) hl rv.ints fun h' tk t' hk=>⟨.int _,H,I.kept hk,⟨_,rfl⟩,q⟩
theorem ahr {K:PySem.W.Frag}:pZ K (amd K) QC:=by
 intro vs ds H Hc μ Q Qd s ra h rt
 unfold QC at h
 split at h
 ·obtain ⟨v,rfl,r⟩:=ra.one'
  split at h
  ·rename_i xs e1
   obtain ⟨a,ws,rfl,ha,rb⟩:=gq s r e1
   obtain ⟨bs',hb',hq⟩:=h.ex
   obtain ⟨bs,hb,rfl⟩:=Option.map_eq_some_iff.mp hb'
   rw [Ue hb] at rb
   rw [rb.ints] at ha
   exact ⟨a,bs,rfl,.inl (SqL.of ha),rt.val s (.int _) hq⟩
  ·rename_i xs e1
   obtain ⟨a,ws,rfl,ha,rb⟩:=lB s r e1
   obtain ⟨bs',hb',hq⟩:=h.ex
   obtain ⟨bs,hb,rfl⟩:=Option.map_eq_some_iff.mp hb'
   rw [Ue hb] at rb
   rw [rb.ints] at ha
   exact ⟨a,bs,rfl,.inr ha,rt.val s (.int _) hq⟩
  ·exact h.elim
 ·exact h.elim
def El:Ad:=fun ds μ Q=>match ds with
 | [d]=>match view μ d with
  | .lst xs=>Q (.lst xs) μ
  | .tup xs=>Q (.lst xs) μ
  | _=>False
 | _=>False
def xR:Ad:=fun ds μ Q=>match ds with
 | [d]=>match view μ d with
  | .lst xs=>NewC xs μ Q
  | .tup xs=>NewC xs μ Q
  | _=>False
 | _=>False
abbrev agT (K:PySem.W.Frag):List V→Hp→VK→Prop:=fun xs H Q=>∃ p ys,xs=[.ref p]∧(SqL K H p ys∨SqT K H p ys)∧∀ l,H l=none→Q (.ref l) (upd H l (.lst ys))
theorem ai9 {K:PySem.W.Frag}:pZ K (agT K) El:=by
 intro vs ds H Hc μ Q Qd s ra h rt
 unfold El at h
 split at h
 ·obtain ⟨v,rfl,r⟩:=ra.one'
  split at h
  ·rename_i xs e1
   obtain ⟨a,ws,rfl,ha,rb⟩:=gq s r e1
   exact ⟨a,ws,rfl,.inl (SqL.of ha),rt.new s rb h⟩
  ·rename_i xs e1
   obtain ⟨a,ws,rfl,ha,rb⟩:=lB s r e1
   exact ⟨a,ws,rfl,.inr ha,rt.new s rb h⟩
  ·exact h.elim
 ·exact h.elim
theorem Wf {K:PySem.W.Frag}:pZ K (agT K) xR:=by
 intro vs ds H Hc μ Q Qd s ra h rt
 unfold xR at h
 split at h
 ·obtain ⟨v,rfl,r⟩:=ra.one'
  split at h
  ·rename_i xs e1
   obtain ⟨a,ws,rfl,ha,rb⟩:=gq s r e1
   exact ⟨a,ws,rfl,.inl (SqL.of ha),rt.newC s rb h⟩
  ·rename_i xs e1
   obtain ⟨a,ws,rfl,ha,rb⟩:=lB s r e1
   exact ⟨a,ws,rfl,.inr ha,rt.newC s rb h⟩
  ·exact h.elim
 ·exact h.elim
def qb:Ad:=fun ds μ Q=>match ds with
 | [d]=>match view μ d with
  | .lst xs=>Q (.tup xs) μ
  | _=>False
 | _=>False
theorem zH {K:PySem.W.Frag}:pZ K (fun xs H Q=>∃ p ys,xs=[.ref p]∧((SqL K H p ys∧∀ l,H l=none→Q (.ref l) (upd H l (.tup ys)))∨(SqT K H p ys∧Q (.ref p) H))) qb:=by
 intro vs ds H Hc μ Q Qd s ra h rt
 unfold qb at h
 split at h
 ·obtain ⟨v,rfl,r⟩:=ra.one'
  split at h
  ·rename_i xs e1
   obtain ⟨a,ws,rfl,ha,rb⟩:=gq s r e1
   exact ⟨a,ws,rfl,.inl ⟨SqL.of ha,rt.newT s rb h⟩⟩
  ·exact h.elim
 ·exact h.elim
def tyN:D→Option String
 | .non=>some "NoneType"
 | .bl _=>some "bool"
 | .int _=>some "int"
 | .str _=>some "str"
 | .lst _=>some "list"
 | .tup _=>some "tuple"
 | .emp=>some "dict"
 | _=>none
theorem anG {K:PySem.W.Frag} {H:Hp} {v:V} {d:D} {n:String} (r:Rep K H v d) (h:tyN d=some n):TyX K H v (.type n):=by
 cases r with
 | non=>cases h;exact .base .non
 | bl b=>cases h;exact .base (.bl b)
 | int b=>cases h;exact .base (.int b)
 | str b=>cases h;exact .base (.str b)
 | lst a _=>cases h;exact .base (.lst a)
 | tup a _ =>
  cases h
  rcases a with (a | ⟨o,a⟩) | ⟨o,its,n,a,b,_⟩
  ·exact .base (.tup a)
  ·exact .fTuple a
  ·exact .kTuple a b
 | emp a=>cases h;exact .base (.dK a)
 | _=>cases h
def iQ:String→String→Bool
 | "bool","int" => true
 | a,b=>a == b
def abC (T:String):lU:=fun a b μ Q=>match b with
 | .raw (.ty T')=>T'=T∧Aa ((tyN (view μ a)).map fun n => .bl (iQ n T)) Q μ
 | _=>False
theorem akM {d:D} {n T:String} (h:tyN d=some n) (hT:T="int" ∨ T="bool" ∨ T="str" ∨ T="list" ∨ T="tuple"):kitB n T=some (iQ n T):=by
 have hn:n="NoneType" ∨ n="bool" ∨ n="int" ∨ n="str" ∨ n="list" ∨ n="tuple" ∨ n="dict" := by
  cases d<;>first | (cases h;simp) | cases h
 rcases hn with rfl | rfl | rfl | rfl | rfl | rfl | rfl<;>rcases hT with rfl | rfl | rfl | rfl | rfl<;>decide +kernel
def jt (T:String):Ad:=fun ds μ Q=>match ds with
 | [a,b]=>abC T a b μ Q
 | _=>False
theorem mO {K:PySem.W.Frag} {T:String} (hT:T="int" ∨ T="bool" ∨ T="str" ∨ T="list" ∨ T="tuple"):pZ K (rIsi K) (jt T):=by
 intro vs ds H Hc μ Q Qd s ra h rt
 unfold jt at h
 split at h
 ·obtain ⟨v,u,rfl,r1,r2⟩:=ra.NK
  unfold abC at h
  split at h
  ·rename_i T'
   obtain ⟨e1,h2⟩:=h
   subst e1
   obtain ⟨n',hn',hq⟩:=h2.ex
   obtain ⟨n,hn,rfl⟩:=Option.map_eq_some_iff.mp hn'
   cases r2
   exact ⟨v,_,.type n,.type T',_,rfl,.ty _,anG (Cj s r1) hn,kit_ty (akM hn hT),rt.val s (.bl _) hq⟩
  ·exact h.elim
 ·exact h.elim
end DL
namespace DL
open PySem PySem.Spec L2
section
variable {X:Cx} {W:WX} {a b c e:Expr} {es:List Expr} {pos p:Pos} {ta tb te:bZ} {tr:iU} {st:Stmt} {rest body:List Stmt} {t u:bh}
def aX (E:bM) (δ:Sl) (μ:M):Prop:=E.nx δ μ
def aJ (t u:bh) (E:bM) (δ:Sl) (μ:M):Prop:=t { E with nx:=u E } δ μ
theorem aU:pX X W [] aX:=PSs.imp pss_nil fun D σ H ⟨δ,μ,Hc,Dd,s,rs,h,rt⟩=>rt.nx _ _ h _ _ Hc (Same.refl _) s rs
theorem aD (h1:DS X W st t) (h2:pX X W rest u):pX X W (st::rest) (aJ t u):=PSs.imp (pss_cons h1 h2) fun D σ H ⟨δ,μ,Hc,Dd,s,rs,h,rt⟩ =>
 ⟨δ,μ,Hc,{ Dd with nx:=u Dd },s,rs,h,⟨fun δ' μ' h' σ' H' bJ e' s' rs'=>⟨δ',μ',bJ,Dd,s',rs',h',rt.mono e'⟩,rt.rt,rt.bk,rt.ct,rt.xc⟩⟩
theorem aG (h1:DS X W st t):pX X W [st] t:=pss_one h1
def ZC (E:bM) (δ:Sl) (_:D) (μ:M):Prop:=E.nx δ μ
def gJ (te:bZ) (E:bM) (δ:Sl) (μ:M):Prop:=te (E.xc δ) δ μ (ZC E δ)
theorem fL (he:DE X W e te) (hs:swapsWith e none pos.line X.env=pure false:=by rfl):DS X W (.Expr e pos) (gJ te):=PS.imp (ps_expr he hs) fun D σ H ⟨δ,μ,Hc,Dd,s,rs,h,rt⟩ =>
 ⟨δ,μ,Hc,_,_,s,rs,h,fun d μ1 h1 v H1 cA e1 s1 r1=>rt.nx _ _ h1 _ _ _ e1 s1 (rs.mono e1),rt.xc.at rs⟩
def aW (te:bZ) (E:bM) (δ:Sl) (μ:M):Prop:=te (E.xc δ) δ μ E.rt
theorem aM (he:DE X W e te):DS X W (.Return (some e) pos) (aW te):=PS.imp (ps_ret he) fun D σ H ⟨δ,μ,Hc,Dd,s,rs,h,rt⟩=>⟨δ,μ,Hc,_,_,s,rs,h,rt.rt,rt.xc.at rs⟩
def ifS (b:Bool) (t u:bh) (E:bM) (δ:Sl) (μ:M):Prop:=match b with
 | true=>t E δ μ
 | false=>u E δ μ
theorem aef {b:Bool} {t u:bh} {E:bM} {δ:Sl} {μ:M} (h1:b=true→t E δ μ) (h2:b=false→u E δ μ):ifS b t u E δ μ:=by
 cases b with
 | true=>exact h1 rfl
 | false=>exact h2 rfl
theorem fD {p:Prop} [Decidable p] {t u:bh} {E:bM} {δ:Sl} {μ:M} (h1:p→t E δ μ) (h2:¬ p→u E δ μ):ifS (decide p) t u E δ μ:=aef (fun h=>h1 (of_decide_eq_true h)) (fun h=>h2 (of_decide_eq_false h))
theorem nU {p:Prop} [Decidable p] {t u:bh} {E:bM} {δ:Sl} {μ:M} (h1:¬ p→t E δ μ) (h2:p→u E δ μ):ifS (!decide p) t u E δ μ:=aef (fun h=>h1 (by simpa using h)) (fun h=>h2 (by simpa using h))
def kIf (t u:bh) (E:bM) (δ:Sl) (b:Bool) (μ:M):Prop:=ifS b t u E δ μ
def bY (c:DTT) (t u:bh) (E:bM) (δ:Sl) (μ:M):Prop:=c (E.xc δ) δ μ (kIf t u E δ)
theorem bG {tc:DTT} {sa sb:List Stmt} (hc:DT X W c tc) (ha:pX X W sa t) (hb:pX X W sb u):DS X W (.If c sa sb pos) (bY tc t u):=PS.imp (ps_if hc ha hb) fun D σ H ⟨δ,μ,Hc,Dd,s,rs,h,rt⟩ =>
 ⟨δ,μ,Hc,_,_,s,rs,h,fun b μ1 h1 H1 cA e1 s1=>by
  cases b with
  | true=>exact ⟨δ,μ1,cA,Dd,s1,rs.mono e1,h1,rt.mono e1⟩
  | false=>exact ⟨δ,μ1,cA,Dd,s1,rs.mono e1,h1,rt.mono e1⟩,rt.xc.at rs⟩
def abD (i:Nat) (E:bM) (δ:Sl) (d:D) (μ:M):Prop:=E.nx (δ.set i (some d)) μ
def aZ (i:Nat) (te:bZ) (E:bM) (δ:Sl) (μ:M):Prop:=te (E.xc δ) δ μ (abD i E δ)
theorem aQ {i:Nat} {x:Str} {pos':Pos} (hN:X.N.Nodup) (he:DE X W e te) (hi:X.N[i]? = some x:=by rfl) (hx:Loc X.env.scope x:=by first | exact .inl rfl | exact .inr rfl)
  (hs:swapsWith e (some (.Name x pos')) pos.line X.env=pure false:=by rfl) (hf:X.fn x=true∨X.env.scope.names.lookup x=some .local:=by first | exact .inl rfl | exact .inr rfl | assumption) :
  DS X W (.Assign [.Name x pos'] e pos) (aZ i te):=PS.imp (ps_set hN hi hx he hs hf) fun D σ H ⟨δ,μ,Hc,Dd,s,rs,h,rt⟩ =>
 ⟨δ,μ,Hc,_,_,s,rs,h,fun d μ1 h1 v H1 cA e1 s1 r1=>rt.nx _ _ h1 _ _ _ e1 s1 ((rs.mono e1).set i r1),rt.xc.at rs⟩
def abE (i j:Nat) (E:bM) (δ:Sl) (ds:List D) (μ:M):Prop:=match ds with
 | [d,e]=>E.nx ((δ.set i (some d)).set j (some e)) μ
 | _=>False
def dPar (i j:Nat) (tr:iU) (E:bM) (δ:Sl) (μ:M):Prop:=tr (E.xc δ) δ μ (abE i j E δ)
theorem ai' {i j:Nat} {x y:Str} {px py pt:Pos} {kt k2 pt2} (hN:X.N.Nodup) (ha:DA X W [a,b] tr) (hij:i≠j:=by decide) (hi:X.N[i]? = some x:=by rfl) (hj:X.N[j]? = some y:=by rfl) (hc:X.calm=true:=by rfl)
  (hx:X.env.scope.names.lookup x=some .local:=by rfl) (hy:X.env.scope.names.lookup y=some .local:=by rfl)
  (hw:swappedStores [.Tuple [.Name x px,.Name y py] kt pt] (.Tuple [a,b] k2 pt2) X.env=pure (some [x,y]):=by rfl)
  (hs:swapsWithSole [.Tuple [.Name x px,.Name y py] kt pt] (.Tuple [a,b] k2 pt2) pos.line X.env=pure false:=by rfl) :
  DS X W (.Assign [.Tuple [.Name x px,.Name y py] kt pt] (.Tuple [a,b] k2 pt2) pos) (dPar i j tr):=PS.imp (ps_par hc hN hi hj hij hx hy ha hw hs) fun D σ H ⟨δ,μ,Hc,Dd,s,rs,h,rt⟩ =>
 ⟨δ, μ, Hc, _, _, s, rs, h, fun ds μ1 h1 vs H1 cA e1 s1 r1 => by
  unfold abE at h1
  split at h1
  ·obtain ⟨v,w,rfl,ra,rb⟩:=r1.NK
   exact ⟨v,w,rfl,rt.nx _ _ h1 _ _ _ e1 s1 (((rs.mono e1).set i ra).set j rb)⟩
  ·exact h1.elim,rt.xc.at rs⟩
abbrev qT:=M→D→Option (List (Nat × D))
abbrev Ju:=M→List D→Option (List (Nat × D))
def bW (i:Nat):qT:=fun _ d=>some [(i,d)]
def j9 (fs:Ju):qT:=fun μ d=>match view μ d with
 | .tup ds=>fs μ ds
 | _=>none
def fH:Ju:=fun _ ds=>match ds with
 | []=>some []
 | _=>none
def bF (f:qT) (fs:Ju):Ju:=fun μ ds=>match ds with
 | d::ds=>(f μ d).bind fun b=>(fs μ ds).map (b ++ ·)
 | _=>none
def sets {α:Type} (bs:List (Nat × α)) (σ:List (Option α)):List (Option α):=bs.foldl (fun σ b=>σ.set b.1 (some b.2)) σ
theorem afW {α:Type} (as bs:List (Nat × α)) (σ:List (Option α)):sets (as++bs) σ=sets bs (sets as σ):=List.foldl_append ..
def zf (K:PySem.W.Frag) (H:Hp):List (Nat × V)→List (Nat × D)→Prop:=Paired fun x y=>x.1=y.1∧Rep K H x.2 y.2
theorem gM.sets {K:PySem.W.Frag} {H:Hp}:∀ {bs:List (Nat × V)} {cs:List (Nat × D)} {σ:L2.St} {δ:Sl},zf K H bs cs→gM K H σ δ→gM K H (sets bs σ) (sets cs δ)
 | _,_,_,_,.nil,r=>r
 | (i,v)::bs,(j,d)::cs,σ,δ,.cons h t,r=>by
  obtain ⟨h1,h2⟩:=h
  cases (show i=j from h1)
  exact gM.sets (bs:=bs) (cs:=cs) t (r.set i h2)
theorem zf.append {K:PySem.W.Frag} {H:Hp}:∀ {bs bs':List (Nat × V)} {cs cs':List (Nat × D)},zf K H bs cs→zf K H bs' cs'→zf K H (bs++bs') (cs++cs')
 | _,_,_,_,.nil,s=>s
 | _,_,_,_,.cons h t,s => .cons h (zf.append t s)
theorem zf.mono {K:PySem.W.Frag} {H H':Hp} (e:Same H H'):∀ {bs:List (Nat × V)} {cs:List (Nat × D)},zf K H bs cs→zf K H' bs cs
 | _,_,.nil => .nil
 | _,_,.cons h t => .cons ⟨h.1,h.2.mono e⟩ (zf.mono e t)
theorem zf.fst {K:PySem.W.Frag} {H:Hp}:∀ {bs:List (Nat × V)} {cs:List (Nat × D)},zf K H bs cs→bs.map (·.1)=cs.map (·.1)
 | _,_,.nil=>rfl
 | _,_,.cons h t=>by rw [List.map_cons,List.map_cons,h.1,zf.fst t]
def LG (K:PySem.W.Frag) (g:TG) (f:qT):Prop:=∀ (v:V) (d:D) (H Hc:Hp) (μ:M) (σ:L2.St) (Q:L2.St→Hp→Prop) (cs:List (Nat × D)),Split K H Hc μ→Rep K Hc v d→f μ d=some cs→(∀ bs,zf K Hc bs cs→Q (sets bs σ) H)→g v σ H Q
def LGs (K:PySem.W.Frag) (g:TGs) (f:Ju):Prop:=∀ (vs:List V) (ds:List D) (H Hc:Hp) (μ:M) (σ:L2.St) (Q:L2.St→Hp→Prop) (cs:List (Nat × D)),Split K H Hc μ→bH K Hc vs ds→f μ ds=some cs→(∀ bs,zf K Hc bs cs→Q (sets bs σ) H)→g vs σ H Q
theorem aO {K:PySem.W.Frag} {i:Nat}:LG K (gName i) (bW i):=fun v d H Hc μ σ Q cs s r h q=>by
 cases h
 exact q [(i,v)] (.cons ⟨rfl,r⟩ .nil)
theorem fP {K:PySem.W.Frag}:LGs K gNil fH:=fun vs ds H Hc μ σ Q cs s r h q=>by
 cases r with
 | nil=>cases h;exact ⟨rfl,q [] .nil⟩
 | cons _ _=>cases h
theorem bx {K:PySem.W.Frag} {g:TG} {gs:TGs} {f:qT} {fs:Ju} (h1:LG K g f) (h2:LGs K gs fs):LGs K (gCons g gs) (bF f fs):=fun vs ds H Hc μ σ Q cs s r h q=>by
 cases r with
 | nil=>cases h
 | @cons v vs d ds a ra =>
  have h':((f μ d).bind fun b=>(fs μ ds).map (b ++ ·))=some cs:=h
  cases e1:f μ d with
  | none=>rw [e1] at h';cases h'
  | some b1 =>
   rw [e1] at h'
   cases e2:fs μ ds with
   | none=>rw [Option.bind_some,e2] at h';cases h'
   | some b2 =>
    rw [Option.bind_some,e2] at h'
    cases h'
    refine ⟨v,vs,rfl,h1 v d H Hc μ σ _ b1 s a e1 fun bs rb=>h2 vs ds H Hc μ _ _ b2 s ra e2 fun bs2 rb2 => ?_⟩
    rw [← afW]
    exact q _ (rb.append rb2)
theorem fQ {K:PySem.W.Frag} {n:Nat} {gs:TGs} {fs:Ju} (h:LGs K gs fs) (hn:∀ μ ds cs,fs μ ds=some cs→ds.length=n):LG K (gTup K n gs) (j9 fs):=fun v d H Hc μ σ Q cs s r hf q=>by
 unfold j9 at hf
 split at hf
 ·rename_i ds e1
  obtain ⟨a,vs,rfl,ha,ra⟩:=lB s r e1
  exact ⟨a,vs,rfl,ha,by rw [ra.length];exact hn _ _ _ hf,h vs ds H Hc μ σ Q cs s ra hf q⟩
 ·cases hf
theorem fU:∀ (μ:M) ds cs,fH μ ds=some cs→ds.length=0:=fun μ ds cs h=>by
 cases ds with
 | nil=>rfl
 | cons _ _=>cases h
theorem bA {f:qT} {fs:Ju} {n:Nat} (h:∀ (μ:M) ds cs,fs μ ds=some cs→ds.length=n):∀ (μ:M) ds cs,bF f fs μ ds=some cs→ds.length=n+1:=fun μ ds cs hh=>by
 cases ds with
 | nil=>cases hh
 | cons d ds =>
  have h':((f μ d).bind fun b=>(fs μ ds).map (b ++ ·))=some cs:=hh
  cases e1:f μ d with
  | none=>rw [e1] at h';cases h'
  | some b1 =>
   rw [e1] at h'
   cases e2:fs μ ds with
   | none=>rw [Option.bind_some,e2] at h';cases h'
   | some b2=>rw [List.length_cons,h μ ds b2 e2]
def ZD (o:Option (List (Nat × D))) (E:bM) (δ:Sl) (μ:M):Prop:=match o with
 | some cs=>E.nx (sets cs δ) μ
 | none=>False
theorem ZD.ex {o:Option (List (Nat × D))} {E:bM} {δ:Sl} {μ:M} (h:ZD o E δ μ):∃ cs,o=some cs∧E.nx (sets cs δ) μ:=by
 cases o with
 | none=>exact h.elim
 | some x=>exact ⟨x,rfl,h⟩
def aeg (f:qT) (E:bM) (δ:Sl) (d:D) (μ:M):Prop:=ZD (f μ d) E δ μ
def xg (te:bZ) (f:qT) (E:bM) (δ:Sl) (μ:M):Prop:=te (E.xc δ) δ μ (aeg f E δ)
theorem xU {tg:Expr} {g:TG} {f:qT} (he:DE X W e te) (hg:PG X tg g) (lg:LG X.K g f) (hs:swapsWithSole [tg] e pos.line X.env=pure false:=by rfl) (hw:swappedStores [tg] e X.env=pure none:=by rfl)
  (h1:(assignEach [tg] X.env).map (·.2)=[assign tg X.env]:=by rfl):DS X W (.Assign [tg] e pos) (xg te f):=PS.imp (ps_asg he hg hs hw h1) fun D σ H ⟨δ,μ,Hc,Dd,s,rs,h,rt⟩ =>
 ⟨δ,μ,Hc,_,_,s,rs,h,fun d μ1 h1 v H1 cA e1 s1 r1=>by
  obtain ⟨cs,hc,hq⟩:=ZD.ex h1
  exact lg v d H1 cA μ1 σ _ cs s1 r1 hc fun bs rb=>rt.nx _ _ hq _ _ _ e1 s1 (gM.sets rb (rs.mono e1)),rt.xc.at rs⟩
def adN (o:Option Nat) (p:Addr) (ds:List D) (d:D) (E:bM) (δ:Sl) (μ:M):Prop:=match o with
 | some j=>E.nx δ (cC μ p (.lst (ds.set j d)))
 | none=>False
theorem adN.ex {o:Option Nat} {p:Addr} {ds:List D} {d:D} {E:bM} {δ:Sl} {μ:M} (h:adN o p ds d E δ μ):∃ j,o=some j∧E.nx δ (cC μ p (.lst (ds.set j d))):=by
 cases o with
 | none=>exact h.elim
 | some x=>exact ⟨x,rfl,h⟩
def IV (E:bM) (δ:Sl) (d o i:D) (μ:M):Prop:=match o,i with
 | .raw (.ref p),.int k=>∃ ds,μ p=some (.lst ds)∧adN (ixN ds.length k) p ds d E δ μ
 | _,_=>False
def Ow (ti:bZ) (E:bM) (δ:Sl) (d o:D) (μ:M):Prop:=ti (E.xc δ) δ μ (IV E δ d o)
def Ox (to ti:bZ) (E:bM) (δ:Sl) (d:D) (μ:M):Prop:=to (E.xc δ) δ μ (Ow ti E δ d)
def qd (te to ti:bZ) (E:bM) (δ:Sl) (μ:M):Prop:=te (E.xc δ) δ μ (Ox to ti E δ)
theorem sO {o i:Expr} {to ti:bZ} {pos':Pos} (he:DE X W e te) (ho:DE X W o to) (hi:DE X W i ti)
  (ha:∀ v,assign (.Subscript o i pos') X.env v=(do
   let ov ← holding [v] (eval o X.env)
   let iv ← holding [v,ov] (eval i X.env)
   standAt pos'
   holding [v,ov,iv] (setItem ov iv v)
   release [v,ov,iv] []):=by intro _;rfl) (hs:swapsWithSole [.Subscript o i pos'] e pos.line X.env=pure false:=by rfl) (hw:swappedStores [.Subscript o i pos'] e X.env=pure none:=by rfl)
  (h1:(assignEach [.Subscript o i pos'] X.env).map (·.2)=[assign (.Subscript o i pos') X.env]:=by rfl):DS X W (.Assign [.Subscript o i pos'] e pos) (qd te to ti) :=
 PS.imp (ps_asg he (pg_sub ho hi set_list ha) hs hw h1) fun D σ H ⟨δ,μ,Hc,Dd,s,rs,h,rt⟩ =>
 ⟨δ, μ, Hc, _, _, s, rs, h, fun d μ1 h1 v H1 cA e1 s1 r1 => ⟨δ, μ1, cA, _, _, s1, rs.mono e1, h1, fun o' μ2 h2 w H2 dw e2 s2 r2 => ⟨δ, μ2, dw, _, _, s2, rs.mono (e1.trans e2), h2, fun i' μ3 h3 z H3 mU e3 s3 r3 => by
  unfold IV at h3
  split at h3
  ·rename_i p k
   obtain ⟨ds,hp,h4⟩:=h3
   obtain ⟨j,hj,hq⟩:=h4.ex
   cases r2
   cases r3
   obtain ⟨_,ob,ho',vs,rfl,ra⟩:=s3.cell p _ hp
   refine ⟨p,vs,k,j,rfl,rfl,ho',by rw [ra.length];exact hj,?_⟩
   exact rt.nx _ _ hq _ _ mU ((e1.trans e2).trans e3) (s3.put hp ⟨_,rfl,ra.set (r1.mono (e2.trans e3)) j⟩) (rs.mono ((e1.trans e2).trans e3))
  ·exact h3.elim,(rt.xc.at rs).mono (e1.trans e2)⟩,(rt.xc.at rs).mono e1⟩,rt.xc.at rs⟩
def Less (I:Nat→Sl→M→Prop) (m:Nat) (δ:Sl) (μ:M):Prop:=∃ m',m'<m∧I m' δ μ
def Jv (c:DTT) (tb:bh) (E:bM) (δ:Sl) (μ:M):Prop:=∃ I:Nat→Sl→M→Prop,(∃ m,I m δ μ)∧∀ m δ μ,I m δ μ →
 c (E.xc δ) δ μ (kIf (fun _=>tb { E with nx:=Less I m,ct:=Less I m,bk:=E.nx }) aX E δ)
theorem while_by {c:DTT} {tb:bh} {E:bM} {δ:Sl} {μ:M} (I:Nat→Sl→M→Prop) {m:Nat} (h0:I m δ μ) (hs:∀ m δ μ,I m δ μ→c (E.xc δ) δ μ (kIf (fun _=>tb { E with nx:=Less I m,ct:=Less I m,bk:=E.nx }) aX E δ)):Jv c tb E δ μ:=⟨I,⟨m,h0⟩,hs⟩
theorem Jw {tc:DTT} {tb:bh} (hp:PassesOwn (model X.prog X.w) X.A X.env X.xe) (hc:DT X W c tc) (hb:pX X W body tb):DS X W (.While c body [] pos) (Jv tc tb) :=
 PS.imp (ps_while hp hc hb) fun D σ H ⟨δ,μ,Hc,Dd,s,rs,h,rt⟩=>by
  obtain ⟨I,⟨m0,w0⟩,turn⟩:=h
  refine ⟨fun m σ' H'=>∃ δ' μ' bJ,Same Hc bJ∧Split X.K H' bJ μ'∧gM X.K bJ σ' δ'∧I m δ' μ',⟨m0,δ,μ,Hc,Same.refl _,s,rs,w0⟩,?_⟩
  rintro m σ1 H1 ⟨δ1,μ1,cA,e1,s1,rs1,i1⟩
  refine ⟨δ1,μ1,cA,_,_,s1,rs1,turn m δ1 μ1 i1,fun b μ2 h2 H2 dw e2 s2 => ?_,(rt.xc.mono e1).at rs1⟩
  cases b with
  | true =>
   rw [if_pos rfl]
   refine ⟨fun σ' H'=>∃ m',m'<m∧∃ δ' μ' bJ,Same Hc bJ∧Split X.K H' bJ μ'∧gM X.K bJ σ' δ'∧I m' δ' μ',fun σ' H' ⟨m',hm,q⟩=>⟨m',hm,q⟩,δ1,μ2,dw,_,s2,rs1.mono e2,h2,?_⟩
   refine ⟨?_,rt.rt.mono (e1.trans e2),rt.nx.mono (e1.trans e2),?_,rt.xc.mono (e1.trans e2)⟩
   ·rintro δ3 μ3 ⟨m',hm,i3⟩ σ3 H3 mU e3 s3 rs3
    exact ⟨m',hm,δ3,μ3,mU,(e1.trans e2).trans e3,s3,rs3,i3⟩
   ·rintro δ3 μ3 ⟨m',hm,i3⟩ σ3 H3 mU e3 s3 rs3
    exact ⟨m',hm,δ3,μ3,mU,(e1.trans e2).trans e3,s3,rs3,i3⟩
  | false =>
   rw [if_neg Bool.false_ne_true]
   exact rt.nx _ _ h2 _ _ _ (e1.trans e2) s2 (rs1.mono e2)
end
end DL
namespace DL
open PySem PySem.Spec L2
structure Src where
 ds:List D
 ok:M→Prop
 mono:∀ μ p c,μ p=none→ok μ→ok (cC μ p c)
abbrev Src.dat (ds:List D):Src:=⟨ds,fun _=>True,fun _ _ _ _ _=>True.intro⟩
abbrev Src.Jx (p:Addr) (ds:List D):Src:=⟨ds,fun μ=>μ p=some (.lst ds),fun μ q c h e=>by rw [bL (Jl e h)];exact e⟩
def Wlk (K:PySem.W.Frag) (J:It) (S:Src) (uQ:Hp):Prop:=∀ (i:Nat) (H Hc:Hp) (μ:M),Same uQ Hc→Split K H Hc μ→S.ok μ →
 (∀ d,S.ds[i]? = some d→J.go i H∧∀ x H',J.yld i H x H'→∃ bJ,Same Hc bJ∧Split K H' bJ μ∧Rep K bJ x d)∧(i=S.ds.length→J.stop i H)
abbrev DTI:=XD→Sl→M→(Src→M→Prop)→Prop
def apU (K:PySem.W.Frag) (Hc:Hp) (Rd:Src→M→Prop) (R:It→Hp→Prop):Prop:=∀ S μ',Rd S μ'→∀ J H' bJ,Same Hc bJ→Split K H' bJ μ'→Wlk K J S bJ→R J H'
def upI (K:PySem.W.Frag) (W:WX) (t:DTI):TI:=fun σ H R=>∃ δ μ Hc Rd Xd,Split K H Hc μ∧gM K Hc σ δ∧t Xd δ μ Rd∧apU K Hc Rd R∧yX K Hc Xd (fun cls d H=>W cls d σ H)
def DI (X:Cx) (W:WX) (tg iter:Expr) (t:DTI):Prop:=PI X tg iter (upI X.K W t)
theorem PI.imp {X:Cx} {tg e:Expr} {t t':TI} (h:PI X tg e t) (i:∀ σ H Q,t' σ H Q→t σ H Q):PI X tg e t':=⟨fun pins s σ H Q I w=>h.run pins s σ H Q I (i σ H Q w)⟩
section
variable {X:Cx} {W:WX} {a b c e tg iter:Expr} {es:List Expr} {pos p:Pos} {ta tb te:bZ} {tr:iU} {st:Stmt} {rest body:List Stmt} {t u:bh} {ti:DTI}
def apV (K:PySem.W.Frag) (tl:TE):TI:=fun σ H R=>tl σ H fun x H1=>∃ a,x = .ref a∧(((∃ xs,SqL K H1 a xs)∧R (Itl K a) H1)∨((∃ xs,SqT K H1 a xs)∧R (Itt K a) H1))
theorem anH {l:Expr} {tl:TE} (hl:PE X l tl):PI X tg l (apV X.K tl):=by
 refine ⟨fun pins s σ H R I h => ?_⟩
 refine thn (hl.run pins s σ H _ I h) fun v s1 ⟨x,H1,I1,r1,q1⟩ => ?_
 obtain ⟨a,e,h | h⟩:=q1
 ·obtain ⟨⟨xs,hq⟩,q⟩:=h
  subst e
  cases r1
  obtain ⟨its,rv,p,hz⟩:=I1.list hq
  refine wpAny_pyIter_list p.isList ?_
  refine ⟨s1.heap.objs.size,[s1.heap.objs.size],_,_,H1,rfl,I1.kept (t':=s1.toks) fun b o e=>Heap.get?_push_of_some _ e,turn_list a _,⟨_,Heap.get?_push_size _ rfl,rfl,rfl⟩,fun b hb => ?_,q⟩
  have e:b=s1.heap.objs.size:=by simpa using hb
  subst e
  exact I1.fpOk (Nat.le_refl _) (I1.hok.fresh (Nat.le_refl _))
 ·obtain ⟨⟨xs,hq⟩,q⟩:=h
  subst e
  cases r1
  obtain ⟨its,rv,p,hz⟩:=I1.tuple hq
  refine wpAny_pyIter_tuple (show s1.heap.IsTuple a its.toArray from p) ?_
  refine ⟨s1.heap.objs.size,[s1.heap.objs.size],_,_,H1,rfl,I1.kept (t':=s1.toks) fun b o e=>Heap.get?_push_of_some _ e,turn_tuple a _,⟨_,Heap.get?_push_size _ rfl,rfl,rfl⟩,fun b hb => ?_,q⟩
  have e:b=s1.heap.objs.size:=by simpa using hb
  subst e
  exact I1.fpOk (Nat.le_refl _) (I1.hok.fresh (Nat.le_refl _))
theorem aeh {K:PySem.W.Frag} {ad:Addr} {S:Src} {uQ:Hp} (h:∀ H Hc μ,Same uQ Hc→Split K H Hc μ→S.ok μ→∃ vs,H ad=some (.lst vs)∧bH K Hc vs S.ds):Wlk K (Itl K ad) S uQ:=fun i H Hc μ e0 s ok=>by
 obtain ⟨vs,hv,ra⟩:=h H Hc μ e0 s ok
 refine ⟨fun d hd => ?_,fun hi=>⟨vs,SqL.of hv,by rw [ra.length];omega⟩⟩
 obtain ⟨v,h1,h2⟩:=ra.get hd
 refine ⟨⟨vs,v,SqL.of hv,h1⟩,fun x H' hy => ?_⟩
 obtain ⟨rfl,hx⟩:=hy
 have e:=hx vs (SqL.of hv)
 rw [h1] at e
 cases e
 exact ⟨Hc,Same.refl _,s,h2⟩
theorem amE {K:PySem.W.Frag} {ad:Addr} {S:Src} {uQ:Hp} {vs:List V} (h:SqT K uQ ad vs) (ra:bH K uQ vs S.ds):Wlk K (Itt K ad) S uQ:=fun i H Hc μ e0 s ok=>by
 have hv:SqT K H ad vs:=xQ s.same (xQ e0 h)
 refine ⟨fun d hd => ?_,fun hi=>⟨vs,hv,by rw [ra.length];omega⟩⟩
 obtain ⟨v,h1,h2⟩:=ra.get hd
 refine ⟨⟨vs,v,hv,h1⟩,fun x H' hy => ?_⟩
 obtain ⟨rfl,hx⟩:=hy
 have e:=hx vs hv
 rw [h1] at e
 cases e
 exact ⟨Hc,Same.refl _,s,h2.mono e0⟩
def srcOf (μ:M):D→Option Src
 | .lst xs=>some (.dat xs)
 | .tup xs=>some (.dat xs)
 | .raw (.ref p)=>match Hg (μ p) with
  | some xs=>some (.Jx p xs)
  | none=>none
 | _=>none
theorem aei {μ:M} {p:Addr} {S:Src} (h:srcOf μ (.raw (.ref p))=some S):∃ xs,μ p=some (.lst xs)∧S = .Jx p xs:=by
 have h':(match Hg (μ p) with | some xs=>some (Src.Jx p xs) | none=>none)=some S:=h
 cases e:Hg (μ p) with
 | none=>rw [e] at h';cases h'
 | some xs=>rw [e] at h';exact ⟨xs,Zo e,(Option.some.inj h').symm⟩
def Yc (o:Option Src) (R:Src→M→Prop) (μ:M):Prop:=match o with
 | some S=>R S μ
 | none=>False
theorem Yc.ex {o:Option Src} {R:Src→M→Prop} {μ:M} (h:Yc o R μ):∃ S,o=some S∧R S μ:=by
 cases o with
 | none=>exact h.elim
 | some x=>exact ⟨x,rfl,h⟩
@[simp] theorem Mi {S:Src} {R:Src→M→Prop} {μ:M}:Yc (some S) R μ=R S μ:=rfl
def ZF (R:Src→M→Prop) (d:D) (μ:M):Prop:=Yc (srcOf μ d) R μ
def fO (te:bZ) (W:XD) (δ:Sl) (μ:M) (R:Src→M→Prop):Prop:=te W δ μ (ZF R)
theorem fK (he:DE X W e te):DI X W tg e (fO te):=PI.imp (anH he) fun σ H R ⟨δ,μ,Hc,Rd,Xd,s,rs,h,ri,rx⟩=>by
 refine (show w6 X.K W te σ H _ from ⟨δ,μ,Hc,_,Xd,s,rs,h,?_,rx⟩)
 intro d μ1 h1 v H1 cA e1 s1 r1
 obtain ⟨S,hS,hR⟩:=Yc.ex h1
 cases r1 with
 | @lst ad vs ds ha ra =>
  cases (show some (Src.dat ds)=some S from hS)
  refine ⟨ad,rfl,.inl ⟨⟨vs,SqL.of (s1.same _ _ ha)⟩,ri _ _ hR _ _ _ e1 s1 (aeh fun H' bJ μ' e' s' _=>⟨vs,s'.same _ _ (e' _ _ ha),ra.mono e'⟩)⟩⟩
 | @tup ad vs ds ha ra =>
  cases (show some (Src.dat ds)=some S from hS)
  refine ⟨ad,rfl,.inr ⟨⟨vs,xQ s1.same ha⟩,ri _ _ hR _ _ _ e1 s1 (amE ha ra)⟩⟩
 | raw =>
  cases v with
  | ref p =>
   obtain ⟨xs,hp,rfl⟩:=aei hS
   obtain ⟨_,o,ho,vs,rfl,ra⟩:=s1.cell p _ hp
   refine ⟨p,rfl,.inl ⟨⟨vs,SqL.of ho⟩,ri _ _ hR _ _ _ e1 s1 (aeh fun H' bJ μ' e' s' hok => ?_)⟩⟩
   obtain ⟨_,o',ho',vs',rfl,ra'⟩:=s'.cell p _ (show μ' p=some (.lst xs) from hok)
   exact ⟨vs',ho',ra'⟩
  | _=>cases hS
 | _=>cases hS
def nZ (lo:Int) (n:Nat):List D:=(List.range n).map fun i => .int (lo+(i:Nat))
theorem ZG {lo:Int} {n i:Nat}:(nZ lo n)[i]? = if i<n then some (.int (lo+(i:Nat))) else none:=by
 unfold nZ
 rw [List.getElem?_map]
 by_cases h:i<n
 ·rw [List.getElem?_range h,if_pos h];rfl
 ·rw [List.getElem?_eq_none (by rw [List.length_range];omega),if_neg h];rfl
theorem xV {lo:Int} {n i:Nat} {d:D} (h:(nZ lo n)[i]? = some d):d = .int (lo+(i:Nat))∧i<n:=by
 rw [ZG] at h
 by_cases hi:i<n
 ·rw [if_pos hi] at h
  exact ⟨(Option.some.inj h).symm,hi⟩
 ·rw [if_neg hi] at h
  cases h
theorem oE {lo:Int} {n:Nat}:(nZ lo n).length=n:=by unfold nZ;rw [List.length_map,List.length_range]
theorem acF {K:PySem.W.Frag} {lo:Int} {n:Nat} {uQ:Hp}:Wlk K (Itr lo n) (.dat (nZ lo n)) uQ:=fun i H Hc μ e0 s ok=>by
 refine ⟨fun d hd => ?_,fun hi=>by rw [oE] at hi;exact Nat.le_of_eq hi.symm⟩
 rw [ZG] at hd
 split at hd
 ·rename_i hi
  cases hd
  refine ⟨hi,fun x H' hy => ?_⟩
  obtain ⟨rfl,rfl⟩:=hy
  exact ⟨Hc,Same.refl _,s,.int _⟩
 ·cases hd
def IW (R:Src→M→Prop) (ds:List D) (μ:M):Prop:=match ds with
 | [.int j]=>(-(2^62)≤j∧j<2^62)∧R (.dat (nZ 0 j.toNat)) μ
 | _=>False
def Ja (R:Src→M→Prop) (ds:List D) (μ:M):Prop:=match ds with
 | [.int i,.int j]=>(-(2^62)≤i∧i<2^62 ∧ -(2^62)≤j∧j<2^62)∧R (.dat (nZ i (j - i).toNat)) μ
 | _=>False
def lO (tr:iU) (W:XD) (δ:Sl) (μ:M) (R:Src→M→Prop):Prop:=tr W δ μ (IW R)
def zJ (tr:iU) (W:XD) (δ:Sl) (μ:M) (R:Src→M→Prop):Prop:=tr W δ μ (Ja R)
theorem mV {p pos:Pos} (hm:X.mg "range" = none) (ha:DA X W [a] tr) (hg:Gl X "range" := by rfl) (hs:starEach [a] X.env=[(false,eval a X.env)]:=by rfl):DI X W tg (.Call (.Name "range" p) [a] [] pos) (lO tr) :=
 PI.imp (pi_range1 hg hm ha hs) fun σ H R ⟨δ,μ,Hc,Rd,Xd,s,rs,h,ri,rx⟩=>⟨δ,μ,Hc,_,Xd,s,rs,h,fun ds μ1 h1 vs H1 cA e1 s1 r1=>by
  unfold IW at h1
  split at h1
  ·obtain ⟨v,rfl,r⟩:=r1.one'
   cases r
   exact ⟨_,rfl,h1.1.1,h1.1.2,ri _ _ h1.2 _ _ _ e1 s1 acF⟩
  ·exact h1.elim,rx⟩
theorem acG {p pos:Pos} (hm:X.mg "range" = none) (ha:DA X W [a,b] tr) (hg:Gl X "range" := by rfl) (hs:starEach [a,b] X.env=[(false,eval a X.env),(false,eval b X.env)]:=by rfl) (hs2:starEach [b] X.env=[(false,eval b X.env)]:=by rfl) :
  DI X W tg (.Call (.Name "range" p) [a,b] [] pos) (zJ tr) :=
 PI.imp (pi_range2 hg hm ha hs hs2) fun σ H R ⟨δ,μ,Hc,Rd,Xd,s,rs,h,ri,rx⟩=>⟨δ,μ,Hc,_,Xd,s,rs,h,fun ds μ1 h1 vs H1 cA e1 s1 r1=>by
  unfold Ja at h1
  split at h1
  ·obtain ⟨v,w,rfl,r,r'⟩:=r1.NK
   cases r;cases r'
   exact ⟨_,_,rfl,h1.1,ri _ _ h1.2 _ _ _ e1 s1 acF⟩
  ·exact h1.elim,rx⟩
def Ho (o:Option (List (Nat × D))) (tb:bh) (E:bM) (δ:Sl) (μ:M):Prop:=match o with
 | some cs=>tb E (sets cs δ) μ
 | none=>False
theorem Ho.ex {o:Option (List (Nat × D))} {tb:bh} {E:bM} {δ:Sl} {μ:M} (h:Ho o tb E δ μ):∃ cs,o=some cs∧tb E (sets cs δ) μ:=by
 cases o with
 | none=>exact h.elim
 | some x=>exact ⟨x,rfl,h⟩
def adP (ok:M→Prop) (f:qT) (tb:bh) (E:bM) (ds:List D) (δ:Sl) (μ:M):Prop:=∃ J:Nat→Sl→M→Prop,J 0 δ μ∧∀ i δ μ,J i δ μ→ok μ ∧
 (∀ d,ds[i]? = some d→Ho (f μ d) tb { E with nx:=J (i+1),ct:=J (i+1),bk:=E.nx } δ μ)∧(i=ds.length→E.nx δ μ)
def kFor (f:qT) (tb:bh) (E:bM) (δ:Sl) (S:Src) (μ:M):Prop:=adP S.ok f tb E S.ds δ μ
def j8 (ti:DTI) (f:qT) (tb:bh) (E:bM) (δ:Sl) (μ:M):Prop:=ti (E.xc δ) δ μ (kFor f tb E δ)
theorem agU {α:Type} {l:List α} {x:α} {i:Nat} (h:l[i]? = some x):l.drop i=x::l.drop (i+1):=by
 obtain ⟨hi,e⟩:=List.getElem?_eq_some_iff.mp h
 rw [List.drop_eq_getElem_cons hi,e]
theorem je {g:TG} {f:qT} {tb:bh} (hp:PassesOwn (model X.prog X.w) X.A X.env X.xe) (hi:DI X W tg iter ti) (hg:PG X tg g) (lg:LG X.K g f) (hb:pX X W body tb) (hc:X.calm=true:=by rfl)
    (hs:∀ x,foldedSetIterable iter X.env x=pure x:=by intro _;rfl):DS X W (.For tg iter body [] pos) (j8 ti f tb) :=
  PS.imp (ps_for hp hc hi hg hb hs) fun D σ H ⟨δ,μ,Hc,Dd,s,rs,h,rt⟩=>⟨δ,μ,Hc,_,_,s,rs,h,fun S μ1 h1 J H1 cA e1 s1 wk=>by
    obtain ⟨N,n0,ns⟩:=h1
    refine ⟨fun i m σ' H'=>i+m=S.ds.length∧∃ δ' μ' bJ,Same cA bJ∧Split X.K H' bJ μ'∧gM X.K bJ σ' δ'∧N i δ' μ',⟨S.ds.length,by omega,δ,μ1,cA,Same.refl _,s1,rs.mono e1,n0⟩,?_⟩
    rintro i m σ2 H2 ⟨hm,δ2,μ2,dw,e2,s2,rs2,l2⟩
    obtain ⟨ok2,l3,l4⟩:=ns i δ2 μ2 l2
    cases hd:S.ds[i]? with
    | none =>
      have hi:i=S.ds.length:=by
        have:=List.getElem?_eq_none_iff.mp hd
        omega
      refine .inl ⟨(wk i H2 dw μ2 e2 s2 ok2).2 (by omega),?_⟩
      exact rt.nx _ _ (l4 hi) _ _ _ (e1.trans e2) s2 rs2
    | some d =>
      obtain ⟨go,yl⟩:=(wk i H2 dw μ2 e2 s2 ok2).1 d hd
      refine .inr ⟨go,fun σ' H'=>∃ δ' μ' bJ,Same cA bJ∧Split X.K H' bJ μ'∧gM X.K bJ σ' δ'∧N (i+1) δ' μ',fun σ' H' q => ?_,fun x H' hy => ?_⟩
      · have hlt:i<S.ds.length:=(List.getElem?_eq_some_iff.mp hd).1
        exact ⟨m - 1,by omega,by omega,q⟩
      · obtain ⟨mU,e3,s3,r3⟩:=yl x H' hy
        obtain ⟨cs,hcs,hq⟩:=Ho.ex (l3 d hd)
        refine lg x d H' mU μ2 σ2 _ cs s3 r3 hcs fun bs rb => ?_
        refine ⟨sets cs δ2,μ2,mU,_,s3,gM.sets rb (rs2.mono e3),hq,?_⟩
        have e13:=(e1.trans e2).trans e3
        refine ⟨?_,rt.rt.mono e13,rt.nx.mono e13,?_,rt.xc.mono e13⟩
        · intro δ4 μ4 h4 σ4 H4 Zt e4 s4 rs4
          exact ⟨δ4,μ4,Zt,(e2.trans e3).trans e4,s4,rs4,h4⟩
        · intro δ4 μ4 h4 σ4 H4 Zt e4 s4 rs4
          exact ⟨δ4,μ4,Zt,(e2.trans e3).trans e4,s4,rs4,h4⟩,rt.xc.at rs⟩
abbrev XF:XD:=fun _ _ _=>False
def jB (_:XD) (_:Sl) (μ:M) (Q:Bool→M→Prop):Prop:=Q true μ
def kItem (acc:List D) (R:List D→M→Prop) (y:D) (μ:M):Prop:=acc.length<sizeLine∧R (acc++[y]) μ
def Wg (te:bZ) (δ:Sl) (acc:List D) (R:List D→M→Prop) (b:Bool) (μ:M):Prop:=match b with
 | true=>te XF δ μ (kItem acc R)
 | false=>R acc μ
theorem QF {te:bZ} {δ:Sl} {acc:List D} {R:List D→M→Prop} {b:Bool} {μ:M} (h1:b=true→te XF δ μ (kItem acc R)) (h2:b=false→R acc μ):Wg te δ acc R b μ:=by
 cases b with
 | true=>exact h1 rfl
 | false=>exact h2 rfl
def Hq (o:Option (List (Nat × D))) (tt:DTT) (te:bZ) (acc:List D) (R:List D→M→Prop) (δ:Sl) (μ:M):Prop:=match o with
 | some cs=>tt XF (sets cs δ) μ (Wg te (sets cs δ) acc R)
 | none=>False
theorem Hq.ex {o:Option (List (Nat × D))} {tt:DTT} {te:bZ} {acc:List D} {R:List D→M→Prop} {δ:Sl} {μ:M} (h:Hq o tt te acc R δ μ):∃ cs,o=some cs∧tt XF (sets cs δ) μ (Wg te (sets cs δ) acc R):=by
 cases o with
 | none=>exact h.elim
 | some x=>exact ⟨x,rfl,h⟩
def ZJ (ok:M→Prop) (f:qT) (tt:DTT) (te:bZ) (Q:List D→M→Prop) (δ:Sl) (ds:List D) (μ:M):Prop:=∃ J:Nat→List D→M→Prop,J 0 [] μ∧∀ i acc μ,J i acc μ→ok μ ∧
 (∀ d,ds[i]? = some d→Hq (f μ d) tt te acc (J (i+1)) δ μ)∧(i=ds.length→Q acc μ)
end
theorem aej {σ:L2.St} {vs:List Nat} {i:Nat} {x:Option V} (h:i∈vs):wipe (σ.set i x) vs=wipe σ vs:=by
 apply List.ext_getElem?
 intro j
 have key:∀ (τ:L2.St) (ws:List Nat) (j:Nat),(wipe τ ws)[j]? = if j∈ws then (if j<τ.length then some none else none) else τ[j]? := by
  intro τ ws
  induction ws with
  | nil=>intro j;simp [wipe]
  | cons w ws ih =>
   intro j
   unfold wipe
   by_cases e:w=j
   ·subst e
    by_cases hl:w<τ.length
    ·rw [List.getElem?_set_self (by rw [wipe_length];exact hl),if_pos List.mem_cons_self,if_pos hl]
    ·rw [List.getElem?_eq_none (by rw [List.length_set,wipe_length];omega),if_pos List.mem_cons_self,if_neg hl]
   ·rw [List.getElem?_set_ne e,ih j]
    by_cases hm:j∈ws
    ·rw [if_pos hm,if_pos (List.mem_cons_of_mem _ hm)]
    ·rw [if_neg hm,if_neg (by
      intro z
      rcases List.mem_cons.mp z with z | z
      ·exact e z.symm
      ·exact hm z)]
 rw [key,key]
 by_cases hm:j∈vs
 ·rw [if_pos hm,if_pos hm,List.length_set]
 ·rw [if_neg hm,if_neg hm,List.getElem?_set_ne]
  intro z
  subst z
  exact hm h
theorem acH {vs:List Nat}:∀ {bs:List (Nat × V)} {σ:L2.St},(∀ b∈bs,b.1∈vs)→wipe (sets bs σ) vs=wipe σ vs
 | [],_,_=>rfl
 | b::bs,σ,h=>by
  show wipe (sets bs (σ.set b.1 (some b.2))) vs=wipe σ vs
  rw [acH fun c hc=>h c (List.mem_cons_of_mem _ hc),aej (h b List.mem_cons_self)]
def Em (δ:Sl):List Nat→Sl
 | []=>δ
 | v::vs=>(Em δ vs).set v none
theorem gM.wipe {K:PySem.W.Frag} {H:Hp} {σ:L2.St} {δ:Sl} (r:gM K H σ δ):∀ vs:List Nat,gM K H (L2.wipe σ vs) (Em δ vs)
 | []=>r
 | v::vs=>(gM.wipe r vs).unset v none
def ZK (Q:QD) (acc:List D) (μ:M):Prop:=Q (.lst acc) μ
def ZL (Q:QD) (acc:List D) (μ:M):Prop:=NewC acc μ Q
def kLc (f:qT) (tt:DTT) (te:bZ) (vs:List Nat) (Q:List D→M→Prop) (δ:Sl) (S:Src) (μ:M):Prop:=ZJ S.ok f tt te Q (Em δ vs) S.ds μ
def nH (ti:DTI) (f:qT) (tt:DTT) (te:bZ) (vs:List Nat) (W:XD) (δ:Sl) (μ:M) (Q:QD):Prop:=ti W δ μ (kLc f tt te vs (ZK Q) δ)
def NT (ti:DTI) (f:qT) (tt:DTT) (te:bZ) (vs:List Nat) (W:XD) (δ:Sl) (μ:M) (Q:QD):Prop:=ti W δ μ (kLc f tt te vs (ZL Q) δ)
def zK (f:qT) (vs:List Nat):Prop:=∀ μ d cs,f μ d=some cs→∀ c∈cs,c.1∈vs
def QG (f:Ju) (vs:List Nat):Prop:=∀ μ d cs,f μ d=some cs→∀ c∈cs,c.1∈vs
theorem cR {i:Nat} {vs:List Nat} (h:i∈vs):zK (bW i) vs:=fun μ d cs e c hc=>by
 cases e
 rcases List.mem_cons.mp hc with rfl | z
 ·exact h
 ·cases z
theorem xX {vs:List Nat}:QG fH vs:=fun μ ds cs e c hc=>by
 cases ds with
 | nil=>cases e;cases hc
 | cons _ _=>cases e
theorem jc {f:qT} {fs:Ju} {vs:List Nat} (h1:zK f vs) (h2:QG fs vs):QG (bF f fs) vs:=fun μ ds cs e c hc=>by
 cases ds with
 | nil=>cases e
 | cons d ds =>
  have h':((f μ d).bind fun b=>(fs μ ds).map (b ++ ·))=some cs:=e
  cases e1:f μ d with
  | none=>rw [e1] at h';cases h'
  | some b1 =>
   rw [e1] at h'
   cases e2:fs μ ds with
   | none=>rw [Option.bind_some,e2] at h';cases h'
   | some b2 =>
    rw [Option.bind_some,e2] at h'
    cases h'
    rcases List.mem_append.mp hc with z | z
    ·exact h1 μ d b1 e1 c z
    ·exact h2 μ ds b2 e2 c z
theorem xY {fs:Ju} {vs:List Nat} (h:QG fs vs):zK (j9 fs) vs:=fun μ d cs e c hc=>by
 unfold j9 at e
 split at e
 ·exact h _ _ _ e c hc
 ·cases e
end DL
namespace DL
open PySem PySem.Spec PyProof.Rows L2
inductive Kd where
 | l | t
def oZ (K:PySem.W.Frag) (k:Kd) (H:Hp) (a:Addr) (xs:List V):Prop:=match k with
 | .l=>SqL K H a xs
 | .t=>SqT K H a xs
def uR (k:Kd) (h:Heap) (it a:Addr) (i:Nat):Prop:=match k with
 | .l=>h.IsListIter it a i
 | .t=>h.IsTupleIter it a i
def Yd (k:Kd) (h:Heap) (a:Addr) (items:Array Value):Prop:=match k with
 | .l=>h.IsList a items
 | .t=>h.IsTuple a items
def anI (k:Kd) (a:Addr):Obj:=match k with
 | .l=>{ cls := .type "list_iterator",data := .fields #[.ref a,.int 0 0] }
 | .t=>{ cls := .type "tuple_iterator",data := .fields #[.ref a,.int 0 0] }
theorem NZ (k:Kd) (a:Addr) (items:Array Value):Begins (.ref a) (anI k a) fun h=>Yd k h a items:=by
 cases k
 ·exact begins_list a items
 ·exact begins_tuple a items
theorem uU {prog:Program} {w:World} {A:Around} (hh:A.handled=none) (k:Kd) (it a:Addr) (hne:a≠it) (items:Array Value) :
  Draws prog w A it [it,a] items.size (fun i v=>items[i]? = some v) (fun i h=>uR k h it a i∧Yd k h a items):=by
 cases k
 ·exact Draws.list hh it a hne items
 ·exact Draws.tuple hh it a hne items
theorem uR.at {k:Kd} {h h':Heap} {it a:Addr} {i:Nat} (x:uR k h it a i) (e:∀ o,h.get? it=some o→h'.get? it=some o):uR k h' it a i:=by
 cases k
 ·exact (show h.IsListIter it a i from x).at e
 ·exact (show h.IsTupleIter it a i from x).at e
theorem uR.obj {k:Kd} {h:Heap} {it a:Addr} {i:Nat} (x:uR k h it a i):∃ o,h.get? it=some o∧∀ v,o.data ≠ .cell v:=by
 cases k
 ·obtain ⟨o,e,_,d⟩:=(show h.IsListIter it a i from x)
  exact ⟨o,e,fun v q=>by rw [d] at q;cases q⟩
 ·obtain ⟨o,e,_,d⟩:=(show h.IsTupleIter it a i from x)
  exact ⟨o,e,fun v q=>by rw [d] at q;cases q⟩
theorem uR.first {k:Kd} {h:Heap} {it a:Addr} (e:h.get? it=some (anI k a)):uR k h it a 0:=by
 cases k
 ·exact ⟨_,e,rfl,rfl⟩
 ·exact ⟨_,e,rfl,rfl⟩
theorem Yd.lt {k:Kd} {h:Heap} {a:Addr} {items:Array Value} (x:Yd k h a items):a<h.objs.size:=by
 cases k
 ·obtain ⟨o,e,_⟩:=(show h.IsList a items from x)
  exact Heap.lt_size e
 ·obtain ⟨o,e,_⟩:=(show h.IsTuple a items from x)
  exact Heap.lt_size e
section
variable {X:Cx} {pins:List (Addr × Obj)} {σ:L2.St} {H:Hp} {s:Shared} {a b:Addr} {xs ys:List V} {k:Kd}
theorem qG (I:Inv X pins σ H s) (h:oZ X.K k H a xs):∃ its:List Value,Vals xs its∧Yd k s.heap a its.toArray∧xs.length≤sizeLine:=by
 cases k
 ·obtain ⟨its,r,p,z⟩:=I.list h
  exact ⟨its,r,p.isList,z⟩
 ·obtain ⟨its,r,p,z⟩:=I.tuple h
  exact ⟨its,r,p,z⟩
theorem Cp (I:Inv X pins σ H s) (h:oZ X.K k H a xs) (h':oZ X.K k H a ys):xs=ys:=by
 cases k
 ·exact I.list_inj h h'
 ·exact I.tuple_inj h h'
end
theorem abF {P:Program} {w:World} {K:PySem.W.Frag} {elts:List Expr} {kk:Nat} {tpos:Pos} {J:It} {fp:List Addr} {z:Addr} {tn:Nat→Heap→Prop} (mem:z∈fp)
  (obj:∀ i h,tn i h→∀ b∈fp,∃ o,h.get? b=some o∧∀ v,o.data ≠ .cell v)
  (keep:∀ i h h',tn i h→(∀ b∈fp,∀ o,h.get? b=some o→h'.get? b=some o)→tn i h')
  (step:∀ (X:Cx),X.prog=P→X.w=w→X.K=K→X.calm=true→∀ (i:Nat) (pins:List (Addr × Obj)) (s:Shared) (σ:L2.St) (H:Hp),Inv X pins σ H s→tn i s.heap→J.go i H →
   ∃ fp' wr n Pt St Mid,WalksT P w X.A z fp' wr n Pt St Mid∧i<n∧St i s.heap∧(∀ b∈wr,b∈fp)∧(∀ h',St (i+1) h'→tn (i+1) h') ∧
    ∀ vals,Pt i vals→∃ xs:List V,Vals xs vals.toList∧xs.length≤sizeLine∧∀ T,H T=none→J.yld i H (.ref T) (upd H T (.tup xs)))
  (stop:∀ (X:Cx),X.prog=P→X.w=w→X.K=K→X.calm=true→∀ (i:Nat) (pins:List (Addr × Obj)) (s:Shared) (σ:L2.St) (H:Hp),Inv X pins σ H s→tn i s.heap→J.stop i H →
   ∃ fp' wr n Pt St Mid,WalksT P w X.A z fp' wr n Pt St Mid∧i=n∧St i s.heap∧(∀ b∈wr,b∈fp))
  (self:∀ (A:Around) (i:Nat) (s:Shared) (Q:Value→Shared→Prop) (E:Value→Shared→Prop),tn i s.heap→Q (.ref z) s→wpAny (model P w) A (pyIter (.ref z)) Q E s) :
  Turn P w K (.Tuple elts kk tpos) J fp z tn where
 mem:=mem
 obj:=obj
 keep:=keep
 item:=by
  intro X hP hw hK hc i pins s σ H E I hf st hg
  obtain ⟨fp',wr,n,Pt,St,Mid,W,hi,hst,hsub,hnx,hy⟩:=step X hP hw hK hc i pins s σ H I st hg
  refine W.item i s _ E hi hst fun T vals h' tk hP' hT hIs hM hk => ?_
  refine ⟨_,rfl,W.go elts kk tpos i T { s with heap:=h',toks:=tk } _ E hM fun h'' hst' hk' => ?_⟩
  obtain ⟨xs,rv,hl,hyl⟩:=hy vals hP'
  have hap:=W.apart i T h' hM
  have hT2:h''.IsTuple T vals:=hIs.at fun o e=>hk' T o hap e
  have new:ObjOk X.prog X.w (upd H T (.tup xs)) h'' T (.tup xs):=⟨hl,vals.toList,rv,hT2⟩
  have I1:Inv X pins σ (upd H T (.tup xs)) { s with heap:=h'',toks:=tk } :=
   I.turnedNew (t':=tk) (ch:=fp) (fun b o hb e=>hk' b o (fun q=>hb (hsub b q)) (hk b o (fun q=>hb (hsub b q)) e)) hf hT new
  refine ⟨.ref T,_,I1,rfl,hyl T (I.hok.fresh hT),hnx h'' hst',fun b hb => ?_⟩
  obtain ⟨o,e,_⟩:=obj i s.heap st b hb
  rw [upd_ne (Nat.ne_of_lt (Nat.lt_of_lt_of_le (Heap.lt_size e) hT))]
  exact (hf b hb).1
 done:=by
  intro X hP hw hK hc i pins s σ H E I hf st hg
  obtain ⟨fp',wr,n,Pt,St,Mid,W,hi,hst,hsub⟩:=stop X hP hw hK hc i pins s σ H I st hg
  subst hi
  exact W.done s _ E hst fun h' tk hk=>⟨rfl,I.turnedL (t':=tk) (ch:=fp) (fun b o hb e=>hk b o (fun q=>hb (hsub b q)) e) hf⟩
 self:=self
def ItE (K:PySem.W.Frag) (k:Kd) (a:Addr) (k₀:Int):It :=
 ⟨fun i H=>∃ (xs:List V) (x:V),oZ K k H a xs∧xs[i]? = some x,
  fun i H v H'=>∃ T x,v = .ref T∧H T=none∧H'=upd H T (.tup [.int (k₀+(i:Nat)),x])∧∀ xs,oZ K k H a xs→xs[i]? = some x,
  fun i H=>∃ xs:List V,oZ K k H a xs∧i=xs.length⟩
theorem ahs {P:Program} {w:World} {K:PySem.W.Frag} {elts:List Expr} {kk:Nat} {tpos:Pos} {k:Kd} {a e it:Addr} {k₀:Int} (hei:e≠it) (hea:e≠a) (hai:a≠it) :
  Turn P w K (.Tuple elts kk tpos) (ItE K k a k₀) [e,it] e (fun i h=>(∃ old,IsEnum h e it (k₀+(i:Int)) old)∧uR k h it a i):=by
 refine abF (by simp) ?_ ?_ ?_ ?_ ?_
 ·intro i h st b hb
  obtain ⟨⟨old,he⟩,hi⟩:=st
  have e':b=e∨b=it:=by simpa using hb
  rcases e' with z | z
  ·rw [z];exact ⟨_,he,fun v q=>nomatch q⟩
  ·rw [z];exact hi.obj
 ·intro i h h' st kp
  obtain ⟨⟨old,he⟩,hi⟩:=st
  exact ⟨⟨old,kp e (by simp) _ he⟩,hi.at fun o q=>kp it (by simp) o q⟩
 ·intro X hP hw hK hc i pins s σ H I st hg
  subst hP hw hK
  obtain ⟨he,hi⟩:=st
  obtain ⟨xs,x,hq,hx⟩:=hg
  obtain ⟨its,rv,p,hz⟩:=qG I hq
  have hl:=rv.length
  have hlt:i<xs.length:=(List.getElem?_eq_some_iff.mp hx).1
  refine ⟨_,_,_,_,_,_,WalksT.enumFrom k₀ (uU (show X.A.in1.handled=none from I.ok.hd hc) k it a hai its.toArray) e hei (by simp [hei,hea]) (by simp),by rw [List.size_toArray];omega,⟨he,hi,p⟩,fun b hb=>hb,fun h' st'=>⟨st'.1,st'.2.1⟩,?_⟩
  rintro vals ⟨t,u,hu,rfl⟩
  obtain ⟨u',hu',ru⟩:=rv.get hx
  have eu:its[i]? = some u:=by simpa using hu
  rw [eu] at hu'
  cases hu'
  exact ⟨[.int (k₀+(i:Nat)),x],.cons ⟨_,rfl⟩ (.cons ru .nil),by show 2≤sizeLine;decide,fun T hT=>⟨T,x,rfl,hT,rfl,fun ys hy=>by rw [Cp I hy hq];exact hx⟩⟩
 ·intro X hP hw hK hc i pins s σ H I st hg
  subst hP hw hK
  obtain ⟨he,hi⟩:=st
  obtain ⟨xs,hq,hx⟩:=hg
  obtain ⟨its,rv,p,hz⟩:=qG I hq
  have hl:=rv.length
  exact ⟨_,_,_,_,_,_,WalksT.enumFrom k₀ (uU (show X.A.in1.handled=none from I.ok.hd hc) k it a hai its.toArray) e hei (by simp [hei,hea]) (by simp),by rw [List.size_toArray];omega,⟨he,hi,p⟩,fun b hb=>hb⟩
 ·intro A i s Q E st h
  obtain ⟨⟨_,he⟩,_⟩:=st
  exact wpAny_pyIter_enum he h
def ZM (it:Addr):Obj:={ cls := .type "enumerate",data := .fields #[.none,.bool false,.ref it,rawInt 0,.none,.none] }
theorem amF {v:Value} {o:Obj} {H:Heap→Prop} (B:Begins v o H) :
  Meets (Builtin.«enumerate.__new__» ⟨[.type "enumerate",v],[]⟩) (fun _ R s=>H s.heap∧R (.ok (.ret (.ref (s.heap.push o).objs.size))) { s with heap:=(s.heap.push o).push (ZM s.heap.objs.size) }):=by
 refine .of_wp fun prog w A R st given => ?_
 have aqw:=sub_enumerate
 have begun:∀ {A':Around} {X:Value→Shared→Prop} {Q:Value→Shared→Prop},Q (.ref st.heap.objs.size) { st with heap:=st.heap.push o }→wpAny (model prog w) A' (pyIter v) Q X st:=fun q=>B.iter prog w _ _ st _ given.1 q
 have fin:=given.2
 wp_walk using begun
 refine wpAny_stack_any fun frames=>wpAny_pure ?_
 split
 ·rename_i cl _ _ _ _ _
  cases (cl == Value.type "enumerate")<;>(wp_walk using begun;exact ⟨_,rfl,fin⟩)
 ·wp_walk using begun
  exact ⟨_,rfl,fin⟩
theorem aek {prog:Program} {w:World} {A:Around} {E:Value→Shared→Prop} {s:Shared} {v:Value} {o:Obj} {H:Heap→Prop} {Q:Value→Shared→Prop} (B:Begins v o H) (given:H s.heap)
  (goal:∀ h',IsEnum h' (s.heap.objs.size+1) s.heap.objs.size 0 .none→h'.get? s.heap.objs.size=some o→h'.objs.size=s.heap.objs.size+2→(∀ c u,s.heap.get? c=some u→h'.get? c=some u)→Q (.ref (s.heap.objs.size+1)) { s with heap:=h' }) :
  wpAny (model prog w) A (call (.type "enumerate") [v]) Q E s:=by
 have one:(s.heap.push o).objs.size=s.heap.objs.size+1:=Heap.size_push ..
 have made:((s.heap.push o).push (ZM s.heap.objs.size)).get? (s.heap.objs.size+1)=some (ZM s.heap.objs.size):=by
  rw [← one]
  exact Heap.get?_push_size _ rfl
 have told:Q (.ref (s.heap.objs.size+1)) { s with heap:=(s.heap.push o).push (ZM s.heap.objs.size) } :=
  goal _ made (Heap.get?_push_of_some _ (Heap.get?_push_size _ B.free)) (by rw [Heap.size_push,one]) fun c u e=>Heap.get?_push_of_some _ (Heap.get?_push_of_some _ e)
 rw [← one] at made told
 exact callType_new F.called_enumerate (by decide) (F.typeCall_enumerate_1 _) (F.newCall_enumerate_1 _) (fun obj=>F.args_object_init_2 obj _) F.entry_enumerate_new (amF B) ⟨given,⟨_,made,rfl⟩,told⟩
abbrev ael {X:Cx} {pins:List (Addr × Obj)} {σ:L2.St} {H:Hp} {s:Shared} {fp:List Addr} (I:Inv X pins σ H s) (new:∀ c∈fp,s.heap.objs.size≤c) {c:Addr} (hc:c∈fp):=I.fpOk (new c hc) (I.hok.fresh (new c hc))
theorem aem {n:Nat} {l:List Nat}:∀ c∈l.map (n + ·),n≤c:=fun c h=>by obtain ⟨k,_,rfl⟩:=List.mem_map.mp h;exact Nat.le_add_right n k
def anJ (K:PySem.W.Frag) (ta:TA):TI:=fun σ H R=>ta σ H fun vs H1=>∃ k a xs,vs=[.ref a]∧oZ K k H1 a xs∧R (ItE K k a 0) H1
theorem akN {X:Cx} {e:Expr} {ta:TA} {p pos tpos:Pos} {elts:List Expr} {kk:Nat} (hg:Gl X "enumerate") (hm:X.mg "enumerate" = none) (ha:PA X [e] ta) (hs:starEach [e] X.env=[(false,eval e X.env)]:=by rfl) :
  PI X (.Tuple elts kk tpos) (.Call (.Name "enumerate" p) [e] [] pos) (anJ X.K ta):=by
 refine ⟨fun pins s σ H R I h => ?_⟩
 refine Call_ (ld_blt I hg hm boot_enumerate (PyProof.Rows.callWith_type1 (thn (ha.run pos pins s σ H _ I h) fun us s1 ⟨vs,H1,I1,r1,q1⟩ => ?_) hs rfl))
 obtain ⟨k,a,xs,ex,hq,q⟩:=q1
 subst ex
 cases r1 with
 | cons r rr =>
  cases rr
  cases r
  obtain ⟨its,rv,p',hz⟩:=qG I1 hq
  have la:=p'.lt
  refine aek (NZ k a its.toArray) p' fun h' he hit hsz hk=>wpAny_pyIter_enum he ?_
  refine ⟨s1.heap.objs.size+1,[s1.heap.objs.size+1,s1.heap.objs.size],_,_,H1,rfl,I1.kept (t':=s1.toks) hk,ahs (k:=k) (a:=a) (k₀:=0) (Nat.succ_ne_self _) (Nat.ne_of_gt (Nat.lt_succ_of_lt la)) (Nat.ne_of_lt la),⟨⟨.none,by simpa using he⟩,.first hit⟩,fun b hb=>ael I1 (aem (l:=[1,0])) hb,q⟩
def akO (K:PySem.W.Frag) (k1 k2:Kd) (a b:Addr):It :=
 ⟨fun i H=>∃ (xs ys:List V) (x y:V),oZ K k1 H a xs∧oZ K k2 H b ys∧xs[i]? = some x∧ys[i]? = some y,
  fun i H v H'=>∃ T x y,v = .ref T∧H T=none∧H'=upd H T (.tup [x,y])∧(∀ xs,oZ K k1 H a xs→xs[i]? = some x)∧∀ ys,oZ K k2 H b ys→ys[i]? = some y,
  fun i H=>∃ xs ys:List V,oZ K k1 H a xs∧oZ K k2 H b ys∧i=min xs.length ys.length⟩
theorem aht {P:Program} {w:World} {K:PySem.W.Frag} {elts:List Expr} {kk:Nat} {tpos:Pos} {k1 k2:Kd} {a b z TI TO i1 i2:Addr} (D:ZipSep2 z TI TO i1 i2 [i1,a] [i2,b]) (h1:a≠i1) (h2:b≠i2) :
  Turn P w K (.Tuple elts kk tpos) (akO K k1 k2 a b) [z,TI,TO,i1,i2] z (fun i h=>IsZip h z TI TO .none∧IsTupOf2 h TI (.ref i1) (.ref i2)∧(∃ x y,IsTupOf2 h TO x y)∧uR k1 h i1 a i∧uR k2 h i2 b i):=by
 refine abF (by simp) ?_ ?_ ?_ ?_ ?_
 ·intro i h st c hc
  obtain ⟨hz,hTI,⟨x,y,hTO⟩,e1,e2⟩:=st
  have e':c=z∨c=TI∨c=TO∨c=i1∨c=i2:=by simpa using hc
  rcases e' with q | q | q | q | q
  ·rw [q];exact ⟨_,hz,fun v q=>nomatch q⟩
  ·rw [q];exact ⟨_,hTI,fun v q=>nomatch q⟩
  ·rw [q];exact ⟨_,hTO,fun v q=>nomatch q⟩
  ·rw [q];exact e1.obj
  ·rw [q];exact e2.obj
 ·intro i h h' st kp
  obtain ⟨hz,hTI,⟨x,y,hTO⟩,e1,e2⟩:=st
  exact ⟨kp z (by simp) _ hz,kp TI (by simp) _ hTI,⟨x,y,kp TO (by simp) _ hTO⟩,e1.at fun o q=>kp i1 (by simp) o q,e2.at fun o q=>kp i2 (by simp) o q⟩
 ·intro X hP hw hK hc i pins s σ H I st hg
  subst hP hw hK
  obtain ⟨hz,hTI,hTO,e1,e2⟩:=st
  obtain ⟨xs,ys,x,y,hqx,hqy,hx,hy⟩:=hg
  obtain ⟨qH,Mj,p1,hz1⟩:=qG I hqx
  obtain ⟨its2,rv2,p2,hz2⟩:=qG I hqy
  have l1:=Mj.length
  have l2:=rv2.length
  have lt1:i<xs.length:=(List.getElem?_eq_some_iff.mp hx).1
  have lt2:i<ys.length:=(List.getElem?_eq_some_iff.mp hy).1
  have hh:X.A.in1.handled=none:=I.ok.hd hc
  refine ⟨_,_,_,_,_,_,WalksT.zipD2 D (uU hh k1 i1 a h1 qH.toArray) (uU hh k2 i2 b h2 its2.toArray),by rw [List.size_toArray,List.size_toArray];omega,⟨hz,hTI,hTO,⟨e1,p1⟩,⟨e2,p2⟩⟩,
   fun c hc' => ?_,fun h' st'=>⟨st'.1,st'.2.1,st'.2.2.1,st'.2.2.2.1.1,st'.2.2.2.2.1⟩,?_⟩
  ·have e':c=z∨c=TO∨c=i1∨c=i2:=by simpa using hc'
   rcases e' with q | q | q | q<;>simp [q]
  ·rintro vals ⟨u1,u2,hu1,hu2,rfl⟩
   obtain ⟨v1,hv1,akP⟩:=Mj.get hx
   obtain ⟨v2,hv2,akQ⟩:=rv2.get hy
   have f1:qH[i]? = some u1:=by simpa using hu1
   have f2:its2[i]? = some u2:=by simpa using hu2
   rw [f1] at hv1
   rw [f2] at hv2
   cases hv1
   cases hv2
   exact ⟨[x,y],.cons akP (.cons akQ .nil),by show 2≤sizeLine;decide,fun T hT=>⟨T,x,y,rfl,hT,rfl,fun l hl=>by rw [Cp I hl hqx];exact hx,fun l hl=>by rw [Cp I hl hqy];exact hy⟩⟩
 ·intro X hP hw hK hc i pins s σ H I st hg
  subst hP hw hK
  obtain ⟨hz,hTI,hTO,e1,e2⟩:=st
  obtain ⟨xs,ys,hqx,hqy,hi⟩:=hg
  obtain ⟨qH,Mj,p1,hz1⟩:=qG I hqx
  obtain ⟨its2,rv2,p2,hz2⟩:=qG I hqy
  have l1:=Mj.length
  have l2:=rv2.length
  have hh:X.A.in1.handled=none:=I.ok.hd hc
  refine ⟨_,_,_,_,_,_,WalksT.zipD2 D (uU hh k1 i1 a h1 qH.toArray) (uU hh k2 i2 b h2 its2.toArray),by rw [List.size_toArray,List.size_toArray,← l1,← l2];exact hi,⟨hz,hTI,hTO,⟨e1,p1⟩,⟨e2,p2⟩⟩,fun c hc' => ?_⟩
  have e':c=z∨c=TO∨c=i1∨c=i2:=by simpa using hc'
  rcases e' with q | q | q | q<;>simp [q]
 ·intro A i s Q E st h
  exact wpAny_pyIter_zip st.1 h
def aoQ (K:PySem.W.Frag) (ta:TA):TI:=fun σ H R=>ta σ H fun vs H1=>∃ k1 k2 a b xs ys,vs=[.ref a,.ref b]∧oZ K k1 H1 a xs∧oZ K k2 H1 b ys∧R (akO K k1 k2 a b) H1
theorem amG {X:Cx} {e e2:Expr} {ta:TA} {p pos tpos:Pos} {elts:List Expr} {kk:Nat} (hg:Gl X "zip") (hm:X.mg "zip" = none) (ha:PA X [e,e2] ta)
  (hs:starEach [e,e2] X.env=(false,eval e X.env)::starEach [e2] X.env:=by rfl) (hpl:(backTo pos (starEach [e2] X.env)).any (·.1)=false:=by rfl) :
  PI X (.Tuple elts kk tpos) (.Call (.Name "zip" p) [e,e2] [] pos) (aoQ X.K ta):=by
 refine ⟨fun pins s σ H R I h => ?_⟩
 refine Call_ (ld_blt I hg hm PyProof.Rows.boot_zip (PyProof.Rows.callWith_type1 (thn (ha.run pos pins s σ H _ I h) fun us s1 ⟨vs,H1,I1,r1,q1⟩ => ?_) hs hpl))
 obtain ⟨k1,k2,a,b,xs,ys,ex,hqx,hqy,q⟩:=q1
 subst ex
 cases r1 with
 | cons r rr =>
  cases rr with
  | cons r' rr =>
   cases rr
   cases r
   cases r'
   obtain ⟨qH,Mj,p1,_⟩:=qG I1 hqx
   obtain ⟨its2,rv2,p2,_⟩:=qG I1 hqy
   have la:=p1.lt
   have lb:=p2.lt
   refine zip_begins2 (NZ k1 a qH.toArray) (NZ k2 b its2.toArray) p1 p2 fun h' hz hTI hTO h1 h2 hsz hk=>wpAny_pyIter_zip hz ?_
   refine ⟨s1.heap.objs.size+4,[s1.heap.objs.size+4,s1.heap.objs.size+2,s1.heap.objs.size+3,s1.heap.objs.size,s1.heap.objs.size+1],_,_,H1,rfl,I1.kept (t':=s1.toks) hk,
    aht (k1:=k1) (k2:=k2) (zip_sep2 (fp1:=[a]) (fp2:=[b]) (fun c hc=>by rw [List.mem_singleton.mp hc];exact la) (fun c hc=>by rw [List.mem_singleton.mp hc];exact lb)) (Nat.ne_of_lt la) (Nat.ne_of_lt (Nat.lt_succ_of_lt lb)),⟨hz,hTI,⟨_,_,hTO⟩,.first h1,.first h2⟩,fun c hcm=>ael I1 (aem (l:=[4,2,3,0,1])) hcm,q⟩
def akR (K:PySem.W.Frag) (k1 k2 k3:Kd) (a b c:Addr):It :=
 ⟨fun i H=>∃ (xs ys zs:List V) (x y z:V),oZ K k1 H a xs∧oZ K k2 H b ys∧oZ K k3 H c zs∧xs[i]? = some x∧ys[i]? = some y∧zs[i]? = some z,
  fun i H v H'=>∃ T x y z,v = .ref T∧H T=none∧H'=upd H T (.tup [x,y,z])∧(∀ xs,oZ K k1 H a xs→xs[i]? = some x)∧(∀ ys,oZ K k2 H b ys→ys[i]? = some y)∧∀ zs,oZ K k3 H c zs→zs[i]? = some z,
  fun i H=>∃ xs ys zs:List V,oZ K k1 H a xs∧oZ K k2 H b ys∧oZ K k3 H c zs∧i=min (min xs.length ys.length) zs.length⟩
theorem ahu {P:Program} {w:World} {K:PySem.W.Frag} {elts:List Expr} {kk:Nat} {tpos:Pos} {k1 k2 k3:Kd} {a b c z TI TO i1 i2 i3:Addr} (D:ZipSep3 z TI TO i1 i2 i3 [i1,a] [i2,b] [i3,c]) (h1:a≠i1) (h2:b≠i2) (h3:c≠i3) :
  Turn P w K (.Tuple elts kk tpos) (akR K k1 k2 k3 a b c) [z,TI,TO,i1,i2,i3] z (fun i h=>IsZip h z TI TO .none∧IsTupOf3 h TI (.ref i1) (.ref i2) (.ref i3)∧(∃ x y u,IsTupOf3 h TO x y u)∧uR k1 h i1 a i∧uR k2 h i2 b i∧uR k3 h i3 c i):=by
 refine abF (by simp) ?_ ?_ ?_ ?_ ?_
 ·intro i h st c hc
  obtain ⟨hz,hTI,⟨x,y,u,hTO⟩,e1,e2,e3⟩:=st
  have e':c=z∨c=TI∨c=TO∨c=i1∨c=i2∨c=i3:=by simpa using hc
  rcases e' with q | q | q | q | q | q
  ·rw [q];exact ⟨_,hz,fun v q=>nomatch q⟩
  ·rw [q];exact ⟨_,hTI,fun v q=>nomatch q⟩
  ·rw [q];exact ⟨_,hTO,fun v q=>nomatch q⟩
  ·rw [q];exact e1.obj
  ·rw [q];exact e2.obj
  ·rw [q];exact e3.obj
 ·intro i h h' st kp
  obtain ⟨hz,hTI,⟨x,y,u,hTO⟩,e1,e2,e3⟩:=st
  exact ⟨kp z (by simp) _ hz,kp TI (by simp) _ hTI,⟨x,y,u,kp TO (by simp) _ hTO⟩,e1.at fun o q=>kp i1 (by simp) o q,e2.at fun o q=>kp i2 (by simp) o q,e3.at fun o q=>kp i3 (by simp) o q⟩
 ·intro X hP hw hK hc i pins s σ H I st hg
  subst hP hw hK
  obtain ⟨hz,hTI,hTO,e1,e2,e3⟩:=st
  obtain ⟨xs,ys,zs,x,y,u,hqx,hqy,hqz,hx,hy,hu⟩:=hg
  obtain ⟨qH,Mj,p1,hz1⟩:=qG I hqx
  obtain ⟨its2,rv2,p2,hz2⟩:=qG I hqy
  obtain ⟨abG,rv3,p3,hz3⟩:=qG I hqz
  have l1:=Mj.length
  have l2:=rv2.length
  have l3:=rv3.length
  have lt1:i<xs.length:=(List.getElem?_eq_some_iff.mp hx).1
  have lt2:i<ys.length:=(List.getElem?_eq_some_iff.mp hy).1
  have lt3:i<zs.length:=(List.getElem?_eq_some_iff.mp hu).1
  have hh:X.A.in1.handled=none:=I.ok.hd hc
  refine ⟨_,_,_,_,_,_,WalksT.zipD3 D (uU hh k1 i1 a h1 qH.toArray) (uU hh k2 i2 b h2 its2.toArray) (uU hh k3 i3 c h3 abG.toArray),by rw [List.size_toArray,List.size_toArray,List.size_toArray];omega,⟨hz,hTI,hTO,⟨e1,p1⟩,⟨e2,p2⟩,⟨e3,p3⟩⟩,
   fun c hc' => ?_,fun h' st'=>⟨st'.1,st'.2.1,st'.2.2.1,st'.2.2.2.1.1,st'.2.2.2.2.1.1,st'.2.2.2.2.2.1⟩,?_⟩
  ·have e':c=z∨c=TO∨c=i1∨c=i2∨c=i3:=by simpa using hc'
   rcases e' with q | q | q | q | q<;>simp [q]
  ·rintro vals ⟨u1,u2,u3,hu1,hu2,hu3,rfl⟩
   obtain ⟨v1,hv1,akP⟩:=Mj.get hx
   obtain ⟨v2,hv2,akQ⟩:=rv2.get hy
   obtain ⟨v3,hv3,apW⟩:=rv3.get hu
   have f1:qH[i]? = some u1:=by simpa using hu1
   have f2:its2[i]? = some u2:=by simpa using hu2
   have f3:abG[i]? = some u3:=by simpa using hu3
   rw [f1] at hv1
   rw [f2] at hv2
   rw [f3] at hv3
   cases hv1
   cases hv2
   cases hv3
   exact ⟨[x,y,u],.cons akP (.cons akQ (.cons apW .nil)),by show 3≤sizeLine;decide,fun T hT=>⟨T,x,y,u,rfl,hT,rfl,fun l hl=>by rw [Cp I hl hqx];exact hx,fun l hl=>by rw [Cp I hl hqy];exact hy,fun l hl=>by rw [Cp I hl hqz];exact hu⟩⟩
 ·intro X hP hw hK hc i pins s σ H I st hg
  subst hP hw hK
  obtain ⟨hz,hTI,hTO,e1,e2,e3⟩:=st
  obtain ⟨xs,ys,zs,hqx,hqy,hqz,hi⟩:=hg
  obtain ⟨qH,Mj,p1,hz1⟩:=qG I hqx
  obtain ⟨its2,rv2,p2,hz2⟩:=qG I hqy
  obtain ⟨abG,rv3,p3,hz3⟩:=qG I hqz
  have l1:=Mj.length
  have l2:=rv2.length
  have l3:=rv3.length
  have hh:X.A.in1.handled=none:=I.ok.hd hc
  refine ⟨_,_,_,_,_,_,WalksT.zipD3 D (uU hh k1 i1 a h1 qH.toArray) (uU hh k2 i2 b h2 its2.toArray) (uU hh k3 i3 c h3 abG.toArray),by rw [List.size_toArray,List.size_toArray,List.size_toArray,← l1,← l2,← l3];exact hi,⟨hz,hTI,hTO,⟨e1,p1⟩,⟨e2,p2⟩,⟨e3,p3⟩⟩,fun c hc' => ?_⟩
  have e':c=z∨c=TO∨c=i1∨c=i2∨c=i3:=by simpa using hc'
  rcases e' with q | q | q | q | q<;>simp [q]
 ·intro A i s Q E st h
  exact wpAny_pyIter_zip st.1 h
def aoR (K:PySem.W.Frag) (ta:TA):TI:=fun σ H R=>ta σ H fun vs H1=>∃ k1 k2 k3 a b c xs ys zs,vs=[.ref a,.ref b,.ref c]∧oZ K k1 H1 a xs∧oZ K k2 H1 b ys∧oZ K k3 H1 c zs∧R (akR K k1 k2 k3 a b c) H1
theorem amH {X:Cx} {e e2 e3:Expr} {ta:TA} {p pos tpos:Pos} {elts:List Expr} {kk:Nat} (hg:Gl X "zip") (hm:X.mg "zip" = none) (ha:PA X [e,e2,e3] ta)
  (hs:starEach [e,e2,e3] X.env=(false,eval e X.env)::starEach [e2,e3] X.env:=by rfl) (hpl:(backTo pos (starEach [e2,e3] X.env)).any (·.1)=false:=by rfl) :
  PI X (.Tuple elts kk tpos) (.Call (.Name "zip" p) [e,e2,e3] [] pos) (aoR X.K ta):=by
 refine ⟨fun pins s σ H R I h => ?_⟩
 refine Call_ (ld_blt I hg hm PyProof.Rows.boot_zip (PyProof.Rows.callWith_type1 (thn (ha.run pos pins s σ H _ I h) fun us s1 ⟨vs,H1,I1,r1,q1⟩ => ?_) hs hpl))
 obtain ⟨k1,k2,k3,a,b,c,xs,ys,zs,ex,hqx,hqy,hqz,q⟩:=q1
 subst ex
 cases r1 with
 | cons r rr =>
  cases rr with
  | cons r' rr =>
   cases rr with
   | cons r'' rr =>
   cases rr
   cases r
   cases r'
   cases r''
   obtain ⟨qH,Mj,p1,_⟩:=qG I1 hqx
   obtain ⟨its2,rv2,p2,_⟩:=qG I1 hqy
   obtain ⟨abG,rv3,p3,_⟩:=qG I1 hqz
   have la:=p1.lt
   have lb:=p2.lt
   have lc:=p3.lt
   refine zip_begins3 (NZ k1 a qH.toArray) (NZ k2 b its2.toArray) (NZ k3 c abG.toArray) p1 p2 p3 fun h' hz hTI hTO h1 h2 h3 hsz hk=>wpAny_pyIter_zip hz ?_
   refine ⟨s1.heap.objs.size+5,[s1.heap.objs.size+5,s1.heap.objs.size+3,s1.heap.objs.size+4,s1.heap.objs.size,s1.heap.objs.size+1,s1.heap.objs.size+2],_,_,H1,rfl,I1.kept (t':=s1.toks) hk,
    ahu (k1:=k1) (k2:=k2) (k3:=k3) (zip_sep3 (fp1:=[a]) (fp2:=[b]) (fp3:=[c]) (fun d hc=>by rw [List.mem_singleton.mp hc];exact la) (fun d hc=>by rw [List.mem_singleton.mp hc];exact lb) (fun d hc=>by rw [List.mem_singleton.mp hc];exact lc)) (Nat.ne_of_lt la) (Nat.ne_of_lt (Nat.lt_succ_of_lt lb)) (Nat.ne_of_lt (Nat.lt_succ_of_lt (Nat.lt_succ_of_lt lc))),⟨hz,hTI,⟨_,_,_,hTO⟩,.first h1,.first h2,.first h3⟩,fun d hcm=>ael I1 (aem (l:=[5,3,4,0,1,2])) hcm,q⟩
def N5 (K:PySem.W.Frag) (k:Kd) (a:Addr) (S:Src) (uQ:Hp):Prop:=∀ H Hc μ,Same uQ Hc→Split K H Hc μ→S.ok μ→∃ vs,oZ K k H a vs∧bH K Hc vs S.ds
theorem Oz {K:PySem.W.Frag} {H Hc:Hp} {μ:M} {v:V} {d:D} {S:Src} (s:Split K H Hc μ) (r:Rep K Hc v d) (h:srcOf μ d=some S):∃ k a,v = .ref a∧S.ok μ∧N5 K k a S Hc:=by
 cases r with
 | @lst ad vs ds ha ra =>
  cases (show some (Src.dat ds)=some S from h)
  exact ⟨.l,ad,rfl,True.intro,fun H' bJ μ' e' s' _=>⟨vs,SqL.of (s'.same _ _ (e' _ _ ha)),ra.mono e'⟩⟩
 | @tup ad vs ds ha ra =>
  cases (show some (Src.dat ds)=some S from h)
  exact ⟨.t,ad,rfl,True.intro,fun H' bJ μ' e' s' _=>⟨vs,xQ s'.same (xQ e' ha),ra.mono e'⟩⟩
 | raw =>
  cases v with
  | ref p =>
   obtain ⟨xs,hp,rfl⟩:=aei h
   refine ⟨.l,p,rfl,hp,fun H' bJ μ' e' s' hok => ?_⟩
   obtain ⟨_,o',ho',vs',rfl,ra'⟩:=s'.cell p _ (show μ' p=some (.lst xs) from hok)
   exact ⟨vs',SqL.of ho',ra'⟩
  | _=>cases h
 | _=>cases h
theorem N5.mono {K:PySem.W.Frag} {k:Kd} {a:Addr} {S:Src} {Hc bJ:Hp} (e:Same Hc bJ) (w:N5 K k a S Hc):N5 K k a S bJ:=fun H2 dw μ2 e2 s2 ok=>w H2 dw μ2 (e.trans e2) s2 ok
theorem abH {K:PySem.W.Frag} {H Hc:Hp} {μ:M} {T:Addr} {vs:List V} {ds:List D} (s:Split K H Hc μ) (hT:H T=none) (ra:bH K Hc vs ds):∃ bJ,Same Hc bJ∧Split K (upd H T (.tup vs)) bJ μ∧Rep K bJ (.ref T) (.tup ds) :=
 ⟨upd Hc T (.tup vs),oX (s.fresh hT).2,s.data hT,.tup (.inl (.inl upd_same)) (ra.mono (oX (s.fresh hT).2))⟩
def yx (n:Int) (ds:List D):List D:=ds.mapIdx fun i d => .tup [.int (n+(i:Nat)),d]
theorem Ug {n:Int} {ds:List D} {i:Nat}:(yx n ds)[i]? = ds[i]?.map fun d => .tup [.int (n+(i:Nat)),d]:=by unfold yx;rw [List.getElem?_mapIdx]
theorem acI {n:Int} {ds:List D}:(yx n ds).length=ds.length:=by unfold yx;rw [List.length_mapIdx]
abbrev Src.enum (n:Int) (S:Src):Src:=⟨yx n S.ds,S.ok,S.mono⟩
theorem akS {K:PySem.W.Frag} {k:Kd} {a:Addr} {S:Src} {uQ:Hp} {n:Int} (w:N5 K k a S uQ):Wlk K (ItE K k a n) (S.enum n) uQ:=fun i H Hc μ e0 s ok=>by
 obtain ⟨vs,hv,ra⟩:=w H Hc μ e0 s ok
 refine ⟨fun d hd => ?_,fun hi=>⟨vs,hv,by rw [ra.length];rw [acI] at hi;exact hi⟩⟩
 rw [Ug] at hd
 obtain ⟨d0,hd0,rfl⟩:=Option.map_eq_some_iff.mp hd
 obtain ⟨v,h1,h2⟩:=ra.get hd0
 refine ⟨⟨vs,v,hv,h1⟩,fun x H' hy => ?_⟩
 obtain ⟨T,x0,rfl,hT,rfl,hx⟩:=hy
 have e:=hx vs hv
 rw [h1] at e
 cases e
 exact abH s hT (.cons (.int _) (.cons h2 .nil))
def QH (xs ys:List D):List D:=List.zipWith (fun x y => .tup [x,y]) xs ys
theorem aen {xs ys:List D} {i:Nat} {d:D} (h:(QH xs ys)[i]? = some d):∃ x y,xs[i]? = some x∧ys[i]? = some y∧d = .tup [x,y]:=by
 unfold QH at h
 rw [List.getElem?_zipWith] at h
 split at h
 ·rename_i x y hx hy
  exact ⟨x,y,hx,hy,(Option.some.inj h).symm⟩
 ·cases h
theorem aeo {xs ys:List D}:(QH xs ys).length=min xs.length ys.length:=by unfold QH;rw [List.length_zipWith]
abbrev Src.zip (S T:Src):Src:=⟨QH S.ds T.ds,fun μ=>S.ok μ∧T.ok μ,fun μ p c h k=>⟨S.mono μ p c h k.1,T.mono μ p c h k.2⟩⟩
theorem akT {K:PySem.W.Frag} {k1 k2:Kd} {a b:Addr} {S T:Src} {uQ:Hp} (w1:N5 K k1 a S uQ) (w2:N5 K k2 b T uQ):Wlk K (akO K k1 k2 a b) (S.zip T) uQ:=fun i H Hc μ e0 s ok=>by
 obtain ⟨vs,hv,ra⟩:=w1 H Hc μ e0 s ok.1
 obtain ⟨ws,hw,rb⟩:=w2 H Hc μ e0 s ok.2
 refine ⟨fun d hd => ?_,fun hi=>⟨vs,ws,hv,hw,by rw [ra.length,rb.length];rw [aeo] at hi;exact hi⟩⟩
 obtain ⟨d1,d2,hd1,hd2,rfl⟩:=aen hd
 obtain ⟨v,h1,h2⟩:=ra.get hd1
 obtain ⟨u,h3,h4⟩:=rb.get hd2
 refine ⟨⟨vs,ws,v,u,hv,hw,h1,h3⟩,fun x H' hy => ?_⟩
 obtain ⟨T,x0,y0,rfl,hT,rfl,hx,hy⟩:=hy
 have e:=hx vs hv
 rw [h1] at e
 cases e
 have e:=hy ws hw
 rw [h3] at e
 cases e
 exact abH s hT (.cons h2 (.cons h4 .nil))
def QJ (xs ys zs:List D):List D:=List.zipWith (fun x yz => .tup [x,yz.1,yz.2]) xs (List.zip ys zs)
theorem aja {xs ys zs:List D} {i:Nat} {d:D} (h:(QJ xs ys zs)[i]? = some d):∃ x y z,xs[i]? = some x∧ys[i]? = some y∧zs[i]? = some z∧d = .tup [x,y,z]:=by
 unfold QJ at h
 rw [List.getElem?_zipWith] at h
 split at h
 ·rename_i x yz hx hy
  obtain ⟨y,z⟩:=yz
  obtain ⟨h1,h2⟩:=List.getElem?_zip_eq_some.mp hy
  exact ⟨x,y,z,hx,h1,h2,(Option.some.inj h).symm⟩
 ·cases h
theorem ajb {xs ys zs:List D}:(QJ xs ys zs).length=min (min xs.length ys.length) zs.length:=by unfold QJ;rw [List.length_zipWith,List.length_zip];omega
abbrev Src.zip3 (S T U:Src):Src:=⟨QJ S.ds T.ds U.ds,fun μ=>S.ok μ∧T.ok μ∧U.ok μ,fun μ p c h k=>⟨S.mono μ p c h k.1,T.mono μ p c h k.2.1,U.mono μ p c h k.2.2⟩⟩
theorem akU {K:PySem.W.Frag} {k1 k2 k3:Kd} {a b c:Addr} {S T U:Src} {uQ:Hp} (w1:N5 K k1 a S uQ) (w2:N5 K k2 b T uQ) (w3:N5 K k3 c U uQ):Wlk K (akR K k1 k2 k3 a b c) (S.zip3 T U) uQ:=fun i H Hc μ e0 s ok=>by
 obtain ⟨vs,hv,ra⟩:=w1 H Hc μ e0 s ok.1
 obtain ⟨ws,hw,rb⟩:=w2 H Hc μ e0 s ok.2.1
 obtain ⟨zs,hz,rc⟩:=w3 H Hc μ e0 s ok.2.2
 refine ⟨fun d hd => ?_,fun hi=>⟨vs,ws,zs,hv,hw,hz,by rw [ra.length,rb.length,rc.length];rw [ajb] at hi;exact hi⟩⟩
 obtain ⟨d1,d2,d3,hd1,hd2,hd3,rfl⟩:=aja hd
 obtain ⟨v,h1,h2⟩:=ra.get hd1
 obtain ⟨u,h3,h4⟩:=rb.get hd2
 obtain ⟨q,h5,h6⟩:=rc.get hd3
 refine ⟨⟨vs,ws,zs,v,u,q,hv,hw,hz,h1,h3,h5⟩,fun x H' hy => ?_⟩
 obtain ⟨T,x0,y0,z0,rfl,hT,rfl,hx,hy,hz'⟩:=hy
 have e:=hx vs hv
 rw [h1] at e
 cases e
 have e:=hy ws hw
 rw [h3] at e
 cases e
 have e:=hz' zs hz
 rw [h5] at e
 cases e
 exact abH s hT (.cons h2 (.cons h4 (.cons h6 .nil)))
def Wh (o p:Option Src) (F:Src→Src→Src) (R:Src→M→Prop) (μ:M):Prop:=match o,p with
 | some S,some T=>R (F S T) μ
 | _,_=>False
def Wi (o p q:Option Src) (F:Src→Src→Src→Src) (R:Src→M→Prop) (μ:M):Prop:=match o,p,q with
 | some S,some T,some U=>R (F S T U) μ
 | _,_,_=>False
@[simp] theorem Hr {S T:Src} {F:Src→Src→Src} {R:Src→M→Prop} {μ:M}:Wh (some S) (some T) F R μ=R (F S T) μ:=rfl
@[simp] theorem Ht {S T U:Src} {F:Src→Src→Src→Src} {R:Src→M→Prop} {μ:M}:Wi (some S) (some T) (some U) F R μ=R (F S T U) μ:=rfl
theorem Wh.ex {o p:Option Src} {F:Src→Src→Src} {R:Src→M→Prop} {μ:M} (h:Wh o p F R μ):∃ S T,o=some S∧p=some T∧R (F S T) μ:=by
 unfold Wh at h
 split at h
 ·exact ⟨_,_,rfl,rfl,h⟩
 ·exact h.elim
theorem Wi.ex {o p q:Option Src} {F:Src→Src→Src→Src} {R:Src→M→Prop} {μ:M} (h:Wi o p q F R μ):∃ S T U,o=some S∧p=some T∧q=some U∧R (F S T U) μ:=by
 unfold Wi at h
 split at h
 ·exact ⟨_,_,_,rfl,rfl,rfl,h⟩
 ·exact h.elim
def Wj (R:Src→M→Prop) (ds:List D) (μ:M):Prop:=match ds with
 | [d]=>Yc ((srcOf μ d).map (Src.enum 0)) R μ
 | _=>False
def Wk (R:Src→M→Prop) (ds:List D) (μ:M):Prop:=match ds with
 | [d,e]=>Wh (srcOf μ d) (srcOf μ e) Src.zip R μ
 | _=>False
def Wl (R:Src→M→Prop) (ds:List D) (μ:M):Prop:=match ds with
 | [d,e,f]=>Wi (srcOf μ d) (srcOf μ e) (srcOf μ f) Src.zip3 R μ
 | _=>False
def Af (tr:iU) (W:XD) (δ:Sl) (μ:M) (R:Src→M→Prop):Prop:=tr W δ μ (Wj R)
def Ml (tr:iU) (W:XD) (δ:Sl) (μ:M) (R:Src→M→Prop):Prop:=tr W δ μ (Wk R)
def Wm (tr:iU) (W:XD) (δ:Sl) (μ:M) (R:Src→M→Prop):Prop:=tr W δ μ (Wl R)
section
variable {X:Cx} {W:WX} {a b c:Expr} {tr:iU} {elts:List Expr} {kk:Nat} {tpos:Pos}
theorem bH.anK {K:PySem.W.Frag} {H:Hp} {vs:List V} {d e f:D} (r:bH K H vs [d,e,f]):∃ v u w,vs=[v,u,w]∧Rep K H v d∧Rep K H u e∧Rep K H w f:=by
 cases r with
 | cons a r =>
  obtain ⟨u,w,rfl,b,c⟩:=r.NK
  exact ⟨_,u,w,rfl,a,b,c⟩
theorem Jb {p pos:Pos} (hm:X.mg "enumerate" = none) (ha:DA X W [a] tr) (hg:Gl X "enumerate" := by rfl) (hs:starEach [a] X.env=[(false,eval a X.env)]:=by rfl):DI X W (.Tuple elts kk tpos) (.Call (.Name "enumerate" p) [a] [] pos) (Af tr) :=
 PI.imp (akN hg hm ha hs) fun σ H R ⟨δ,μ,Hc,Rd,Xd,s,rs,h,ri,rx⟩=>⟨δ,μ,Hc,_,Xd,s,rs,h,fun ds μ1 h1 vs H1 cA e1 s1 r1=>by
  unfold Wj at h1
  split at h1
  ·obtain ⟨v,rfl,r⟩:=r1.one'
   obtain ⟨S',hS',hR⟩:=Yc.ex h1
   obtain ⟨S,hS,rfl⟩:=Option.map_eq_some_iff.mp hS'
   obtain ⟨k,ad,rfl,ok,ws⟩:=Oz s1 r hS
   obtain ⟨xs,hx,_⟩:=ws _ _ _ (Same.refl _) s1 ok
   exact ⟨k,ad,xs,rfl,hx,ri _ _ hR _ _ _ e1 s1 (akS ws)⟩
  ·exact h1.elim,rx⟩
theorem abI {p pos:Pos} (hm:X.mg "zip" = none) (ha:DA X W [a,b] tr) (hg:Gl X "zip" := by rfl) (hs:starEach [a,b] X.env=(false,eval a X.env)::starEach [b] X.env:=by rfl) (hpl:(backTo pos (starEach [b] X.env)).any (·.1)=false:=by rfl) :
  DI X W (.Tuple elts kk tpos) (.Call (.Name "zip" p) [a,b] [] pos) (Ml tr) :=
 PI.imp (amG hg hm ha hs hpl) fun σ H R ⟨δ,μ,Hc,Rd,Xd,s,rs,h,ri,rx⟩=>⟨δ,μ,Hc,_,Xd,s,rs,h,fun ds μ1 h1 vs H1 cA e1 s1 r1=>by
  unfold Wk at h1
  split at h1
  ·obtain ⟨v,u,rfl,r,r'⟩:=r1.NK
   obtain ⟨S,T,hS,hT,hR⟩:=Wh.ex h1
   obtain ⟨k1,a1,rfl,ok1,ws1⟩:=Oz s1 r hS
   obtain ⟨k2,a2,rfl,ok2,ws2⟩:=Oz s1 r' hT
   obtain ⟨xs,hx,_⟩:=ws1 _ _ _ (Same.refl _) s1 ok1
   obtain ⟨ys,hy,_⟩:=ws2 _ _ _ (Same.refl _) s1 ok2
   exact ⟨k1,k2,a1,a2,xs,ys,rfl,hx,hy,ri _ _ hR _ _ _ e1 s1 (akT ws1 ws2)⟩
  ·exact h1.elim,rx⟩
theorem amI {p pos:Pos} (hm:X.mg "zip" = none) (ha:DA X W [a,b,c] tr) (hg:Gl X "zip" := by rfl) (hs:starEach [a,b,c] X.env=(false,eval a X.env)::starEach [b,c] X.env:=by rfl) (hpl:(backTo pos (starEach [b,c] X.env)).any (·.1)=false:=by rfl) :
  DI X W (.Tuple elts kk tpos) (.Call (.Name "zip" p) [a,b,c] [] pos) (Wm tr) :=
 PI.imp (amH hg hm ha hs hpl) fun σ H R ⟨δ,μ,Hc,Rd,Xd,s,rs,h,ri,rx⟩=>⟨δ,μ,Hc,_,Xd,s,rs,h,fun ds μ1 h1 vs H1 cA e1 s1 r1=>by
  unfold Wl at h1
  split at h1
  ·obtain ⟨v,u,q,rfl,r,r',r''⟩:=r1.anK
   obtain ⟨S,T,U,hS,hT,hU,hR⟩:=Wi.ex h1
   obtain ⟨k1,a1,rfl,ok1,ws1⟩:=Oz s1 r hS
   obtain ⟨k2,a2,rfl,ok2,ws2⟩:=Oz s1 r' hT
   obtain ⟨k3,a3,rfl,ok3,ws3⟩:=Oz s1 r'' hU
   obtain ⟨xs,hx,_⟩:=ws1 _ _ _ (Same.refl _) s1 ok1
   obtain ⟨ys,hy,_⟩:=ws2 _ _ _ (Same.refl _) s1 ok2
   obtain ⟨zs,hz,_⟩:=ws3 _ _ _ (Same.refl _) s1 ok3
   exact ⟨k1,k2,k3,a1,a2,a3,xs,ys,zs,rfl,hx,hy,hz,ri _ _ hR _ _ _ e1 s1 (akU ws1 ws2 ws3)⟩
  ·exact h1.elim,rx⟩
end
end DL
namespace DL
open PySem PySem.Spec PyProof.Rows L2
theorem pW.put {K:PySem.W.Frag} {H Hc:Hp} {μ:M} {Qd:QD} {Q:VK} {v:V} {d:D} {p:Addr} {c c':C} {o:HO} (rt:pW K Hc Qd Q) (s:Split K H Hc μ) (hp:μ p=some c) (ok:Jm K Hc p c' o) (r:Rep K Hc v d) (q:Qd d (cC μ p c')):Q v (upd H p o) :=
 rt _ _ q _ _ Hc (Same.refl _) (s.put hp ok) r
theorem pW.putL {K:PySem.W.Frag} {H Hc:Hp} {μ:M} {Qd:QD} {Q:VK} {v:V} {d:D} {p:Addr} {c:C} {vs:List V} {ds:List D} (rt:pW K Hc Qd Q) (s:Split K H Hc μ) (hp:μ p=some c) (ra:bH K Hc vs ds) (r:Rep K Hc v d) (q:Qd d (cC μ p (.lst ds))):Q v (upd H p (.lst vs)) :=
 rt.put s hp (c' := .lst ds) ⟨vs,rfl,ra⟩ r q
abbrev Xu:=D→List D→M→QD→Prop
def LMt (K:PySem.W.Frag) (r:V→List V→Hp→VK→Prop) (g:Xu):Prop:=∀ (v:V) (d:D) (vs:List V) (ds:List D) (H Hc:Hp) (μ:M) (Q:VK) (Qd:QD),Split K H Hc μ→Rep K Hc v d→bH K Hc vs ds→g d ds μ Qd→pW K Hc Qd Q→r v vs H Q
def isL (μ:M) (d:D):Prop:=∃ ds,view μ d = .lst ds
theorem o7 {μ:M} {p:Addr} {ds:List D} (h:μ p=some (.lst ds)):isL μ (.raw (.ref p)):=⟨ds,gh h⟩
theorem amJ {μ:M} {ds:List D}:isL μ (.lst ds):=⟨ds,rfl⟩
def kM2 (g:Xu) (d:D) (Q:QD) (ds:List D) (μ:M):Prop:=g d ds μ Q
def kM1 (g:Xu) (tr:iU) (W:XD) (δ:Sl) (Q:QD) (d:D) (μ:M):Prop:=isL μ d∧tr W δ μ (kM2 g d Q)
def dM (g:Xu) (to:bZ) (tr:iU) (W:XD) (δ:Sl) (μ:M) (Q:QD):Prop:=to W δ μ (kM1 g tr W δ Q)
section
variable {X:Cx} {W:WX} {o e:Expr} {es:List Expr} {to:bZ} {tr:iU} {name:Str} {apos cpos:Pos} {id:String} {r:V→List V→Hp→VK→Prop} {g:Xu}
theorem FT (slot:Slot "list" name id) (hty:typeOf (.builtin id)=pure (.type "method_descriptor")) (hm:MtR X id r) (l:LMt X.K r g) (ho:DE X W o to) (ha:DA X W (e::es) tr)
  (hbase:attributeBase o name X.env (eval o X.env)=eval o X.env:=by rfl)
  (hfew:((backTo cpos (starEach (e::es) X.env)).all (fun x => !x.1) && (backToKw cpos (keywordEach [] X.env)).all (fun x=>x.1.isSome)
   && decide ((e::es).length+([]:List Keyword).length+(if ([]:List Keyword).isEmpty then 0 else 1)<30))=true:=by rfl)
  (hline:(apos.endLine == cpos.line)=true:=by rfl) (hs:starEach (e::es) X.env=(false,eval e X.env)::starEach es X.env:=by rfl) (hplain:(backTo cpos (starEach es X.env)).any (·.1)=false:=by rfl) :
  DE X W (.Call (.Attribute o name apos) (e::es) [] cpos) (dM g to tr) :=
 PE.imp (pe_bm F.plainAttrs_list slot hty hm ho ha hbase hfew hline hs hplain) fun σ H Q ⟨δ,μ,Hc,Qd,Xd,s,rs,h,rt,rx⟩=>⟨δ,μ,Hc,_,Xd,s,rs,h,fun d μ1 h1 v H1 cA e1 s1 r1=>by
  obtain ⟨⟨ds0,hv⟩,h2⟩:=h1
  obtain ⟨a,vs0,rfl,ha0,_⟩:=gq s1 r1 hv
  exact ⟨.inl ⟨rfl,vs0,SqL.of ha0⟩,δ,μ1,cA,_,Xd,s1,rs.mono e1,h2,fun ds μ2 h3 vs H2 dw e2 s2 r2=>l _ d vs ds H2 dw μ2 Q Qd s2 (r1.mono e2) r2 h3 (rt.mono (e1.trans e2)),rx.mono e1⟩,rx⟩
end
theorem QK {K:PySem.W.Frag} {H Hc:Hp} {μ:M} {p:Addr} {ds:List D} (s:Split K H Hc μ) (h:μ p=some (.lst ds)):∃ vs,H p=some (.lst vs)∧bH K Hc vs ds:=by
 obtain ⟨_,o,ho,vs,rfl,ra⟩:=s.cell p _ h
 exact ⟨vs,ho,ra⟩
theorem zL {K:PySem.W.Frag} {H:Hp} {v u:V} (r:Rep K H v (.raw u)):v=u:=by cases r;rfl
def nJ:Xu:=fun d ds μ Q=>match d,ds with
 | .raw (.ref p),[y]=>∃ xs,μ p=some (.lst xs)∧xs.length<sizeLine∧Q .non (cC μ p (.lst (xs++[y])))
 | _,_=>False
def Cq:Xu:=fun d ds μ Q=>match d,ds with
 | .raw (.ref p),[.int i,y]=>∃ xs,μ p=some (.lst xs)∧xs.length<sizeLine∧0≤i∧i<2^63∧Q .non (cC μ p (.lst (xs.take i.toNat++[y]++xs.drop i.toNat)))
 | _,_=>False
def QL:Xu:=fun d ds μ Q=>match d,ds with
 | .raw (.ref p),[.int i]=>∃ xs k y,μ p=some (.lst xs) ∧ -(2^63)≤i∧i<2^63∧seqIndex? i xs.length=some k∧xs[k]? = some y∧Q y (cC μ p (.lst (xs.eraseIdx k)))
 | _,_=>False
def Jy:Xu:=fun d ds μ Q=>match ds with
 | [.int k]=>∃ ns:List Int,view μ d = .lst (ns.map D.int)∧Q (.int (ns.count k:Nat)) μ
 | _=>False
theorem bH.reverse {K:PySem.W.Frag} {H:Hp}:∀ {vs:List V} {ds:List D},bH K H vs ds→bH K H vs.reverse ds.reverse
 | _,_,.nil => .nil
 | _,_,.cons a r=>by rw [List.reverse_cons,List.reverse_cons];exact (bH.reverse r).append (.cons a .nil)
theorem bH.eraseIdx {K:PySem.W.Frag} {H:Hp}:∀ {vs:List V} {ds:List D} (n:Nat),bH K H vs ds→bH K H (vs.eraseIdx n) (ds.eraseIdx n)
 | _,_,_,.nil => .nil
 | _,_,0,.cons _ r=>r
 | _,_,n+1,.cons a r => .cons a (bH.eraseIdx n r)
section
variable {K:PySem.W.Frag}
theorem vC:LMt K rAppend nJ:=by
 intro v d vs ds H Hc μ Q Qd s r ra h rt
 unfold nJ at h
 split at h
 ·obtain ⟨xs,hp,hl,q⟩:=h
  obtain ⟨us,hu,ru⟩:=QK s hp
  obtain ⟨y,rfl,ry⟩:=ra.one'
  cases zL r
  exact ⟨_,us,y,rfl,rfl,hu,by rw [ru.length];exact hl,rt.putL s hp (ru.append (.cons ry .nil)) .non q⟩
 ·exact h.elim
theorem akV:LMt K (fun x vs H Q=>∃ (l:Addr) (xs:List V) (i:Int) (y:V),x = .ref l∧vs=[.int i,y]∧H l=some (.lst xs)∧xs.length<sizeLine∧0≤i∧i<2^63 ∧
  Q .non (upd H l (.lst (xs.take i.toNat++[y]++xs.drop i.toNat)))) Cq:=by
 intro v d vs ds H Hc μ Q Qd s r ra h rt
 unfold Cq at h
 split at h
 ·obtain ⟨xs,hp,hl,h0,h1,q⟩:=h
  obtain ⟨us,hu,ru⟩:=QK s hp
  obtain ⟨i',y,rfl,ri,ry⟩:=ra.NK
  cases zL r
  cases ri
  exact ⟨_,us,_,y,rfl,rfl,hu,by rw [ru.length];exact hl,h0,h1,rt.putL s hp (((ru.take _).append (.cons ry .nil)).append (ru.drop _)) .non q⟩
 ·exact h.elim
theorem anL:LMt K rPopAt QL:=by
 intro v d vs ds H Hc μ Q Qd s r ra h rt
 unfold QL at h
 split at h
 ·obtain ⟨xs,k,y,hp,h1,h2,hk,hy,q⟩:=h
  obtain ⟨us,hu,ru⟩:=QK s hp
  obtain ⟨i',rfl,ri⟩:=ra.one'
  cases zL r
  cases ri
  obtain ⟨u,hu',ru'⟩:=ru.get hy
  exact ⟨_,us,_,k,u,rfl,rfl,hu,h1,h2,by rw [ru.length];exact hk,hu',rt.putL s hp (ru.eraseIdx k) ru' q⟩
 ·exact h.elim
theorem amK:LMt K (rCntI K) Jy:=by
 intro v d vs ds H Hc μ Q Qd s r ra h rt
 unfold Jy at h
 split at h
 ·obtain ⟨ns,hv,q⟩:=h
  obtain ⟨a,us,rfl,hu,ru⟩:=gq s r hv
  obtain ⟨i',rfl,ri⟩:=ra.one'
  cases ri
  rw [ru.ints] at hu
  exact ⟨a,ns,_,rfl,rfl,SqL.of hu,rt.val s (.int _) q⟩
 ·exact h.elim
end
section
variable {X:Cx} {W:WX} {o e:Expr} {es:List Expr} {to:bZ} {tr:iU} {apos cpos:Pos}
end
def cutD (xs:List D) (lo hi:Option Int):List D:=(xs.drop (HT.sIx xs.length 0 lo)).take (HT.sIx xs.length xs.length hi - HT.sIx xs.length 0 lo)
theorem agV {K:PySem.W.Frag} {H:Hp} {vs:List V} {ds:List D} {lo hi:Option Int} (r:bH K H vs ds):bH K H (cutV vs lo hi) (cutD ds lo hi):=by
 unfold cutV cutD
 rw [r.length]
 exact (r.drop _).take _
theorem akW {xs:List D} {lo hi:Option Int} (h:HT.sIx xs.length 0 lo=0∧HT.sIx xs.length xs.length hi=xs.length):cutD xs lo hi=xs:=by
 unfold cutD
 rw [h.1,h.2,List.drop_zero,Nat.sub_zero,List.take_length]
abbrev Uh:=XD→Sl→M→(Option Int→M→Prop)→Prop
def apY (K:PySem.W.Frag) (Hc:Hp) (Qd:Option Int→M→Prop) (Q:Option Int→Hp→Prop):Prop:=∀ b μ',Qd b μ'→∀ H' bJ,Same Hc bJ→Split K H' bJ μ'→Q b H'
def upO (K:PySem.W.Frag) (W:WX) (t:Uh):TO:=fun σ H Q=>∃ δ μ Hc Qd Xd,Split K H Hc μ∧gM K Hc σ δ∧t Xd δ μ Qd∧apY K Hc Qd Q∧yX K Hc Xd (fun cls d H=>W cls d σ H)
def ZP (X:Cx) (W:WX) (e:Option Expr) (t:Uh):Prop:=PO X e (upO X.K W t)
def cJ (_:XD) (_:Sl) (μ:M) (Q:Option Int→M→Prop):Prop:=Q none μ
def kPart (Q:Option Int→M→Prop) (d:D) (μ:M):Prop:=match d with
 | .int i=>Q (some i) μ
 | _=>False
def dR (t:bZ) (W:XD) (δ:Sl) (μ:M) (Q:Option Int→M→Prop):Prop:=t W δ μ (kPart Q)
theorem PO.imp {X:Cx} {e:Option Expr} {t t':TO} (h:PO X e t) (i:∀ σ H Q,t' σ H Q→t σ H Q):PO X e t':=⟨fun pins s σ H Q I w=>h.run pins s σ H Q I (i σ H Q w)⟩
abbrev DRS:=D→Option Int→Option Int→M→QD→Prop
def aep (g:DRS) (d:D) (lo:Option Int) (Q:QD) (hi:Option Int) (μ:M):Prop:=g d lo hi μ Q
def aer (g:DRS) (d:D) (th:Uh) (W:XD) (δ:Sl) (Q:QD) (lo:Option Int) (μ:M):Prop:=th W δ μ (aep g d lo Q)
def aes (g:DRS) (tl th:Uh) (W:XD) (δ:Sl) (Q:QD) (d:D) (μ:M):Prop:=tl W δ μ (aer g d th W δ Q)
def abJ (g:DRS) (te:bZ) (tl th:Uh) (W:XD) (δ:Sl) (μ:M) (Q:QD):Prop:=te W δ μ (aes g tl th W δ Q)
def gSl:DRS:=fun d lo hi μ Q=>match view μ d with
 | .lst xs=>Q (.lst (cutD xs lo hi)) μ
 | .tup xs=>Q (.tup (cutD xs lo hi)) μ
 | .str z=>z.length≤sizeLine∧Q (.str (cutS z lo hi)) μ
 | _=>False
abbrev jU:=abJ gSl
def ajc (K:PySem.W.Frag):V→Option Int→Option Int→Hp→VK→Prop:=fun x lo hi H Q=>rSlL K x lo hi H Q∨(rSlA K x lo hi H Q∨rSlS x lo hi H Q)
def LSl (K:PySem.W.Frag) (r:V→Option Int→Option Int→Hp→VK→Prop) (g:DRS):Prop:=∀ (v:V) (d:D) (lo hi:Option Int) (H Hc:Hp) (μ:M) (Q:VK) (Qd:QD),Split K H Hc μ→Rep K Hc v d→g d lo hi μ Qd→pW K Hc Qd Q→r v lo hi H Q
theorem apZ {K:PySem.W.Frag}:LSl K (ajc K) gSl:=by
 intro v d lo hi H Hc μ Q Qd s r h rt
 unfold gSl at h
 split at h
 ·rename_i xs e1
  obtain ⟨a,vs,rfl,ha,ra⟩:=gq s r e1
  exact .inl ⟨a,vs,rfl,SqL.of ha,rt.new s (agV ra) h⟩
 ·rename_i xs e1
  obtain ⟨a,vs,rfl,ha,ra⟩:=lB s r e1
  refine .inr (.inl ⟨a,vs,rfl,ha,fun hw => ?_,fun _=>rt.newT s (agV ra) h⟩)
  rw [ra.length] at hw
  rw [akW hw] at h
  cases r with
  | tup h3 h4 =>
   cases (show D.tup _=D.tup _ from e1)
   exact rt.val s (.tup h3 h4) h
  | key h3 =>
   cases (show D.tup _=D.tup _ from e1)
   exact rt.val s (.tup (SqT.of h3) (Ci _)) h
  | raw =>
   exfalso
   rcases rQ e1 with ⟨es,_,h'⟩ | h'<;>cases h'
  | lst h3 h4=>cases e1
  | dJ h3=>cases e1
  | emp h3=>cases e1
 ·rename_i z e1
  exact .inr (.inr ⟨z,yZ r e1,h.1,rt.val s (.str _) h.2⟩)
 ·exact h.elim
section
variable {X:Cx} {W:WX} {a e:Expr} {lo hi:Option Expr} {te:bZ} {tl th:Uh} {g:DRS} {p2 pos:Pos}
theorem dY:ZP X W none cJ:=PO.imp po_none fun σ H Q ⟨δ,μ,Hc,Qd,Xd,s,rs,h,rt,rx⟩=>rt _ _ h _ _ (Same.refl _) s
theorem dI (h:DE X W e te):ZP X W (some e) (dR te):=PO.imp (po_some h) fun σ H Q ⟨δ,μ,Hc,Qd,Xd,s,rs,h,rt,rx⟩=>⟨δ,μ,Hc,_,Xd,s,rs,h,fun d μ1 h1 v H1 cA e1 s1 r1=>by
 unfold kPart at h1
 split at h1
 ·cases r1
  exact ⟨_,rfl,rt _ _ h1 _ _ e1 s1⟩
 ·exact h1.elim,rx⟩
theorem anM (l:LSl X.K (ajc X.K) g) (he:DE X W e te) (hl:ZP X W lo tl) (hu:ZP X W hi th):DE X W (.Subscript e (.Slice lo hi none p2) pos) (abJ g te tl th) :=
 PE.imp (pe_slice (SlR.or sl_list (SlR.or sl_tupA sl_str)) he hl hu) fun σ H Q ⟨δ,μ,Hc,Qd,Xd,s,rs,h,rt,rx⟩=>⟨δ,μ,Hc,_,Xd,s,rs,h,fun d μ1 h1 v H1 cA e1 s1 r1 =>
  ⟨δ,μ1,cA,_,Xd,s1,rs.mono e1,h1,fun o1 μ2 h2 H2 dw e2 s2=>⟨δ,μ2,dw,_,Xd,s2,rs.mono (e1.trans e2),h2,fun o2 μ3 h3 H3 mU e3 s3 =>
   l v d o1 o2 H3 mU μ3 Q Qd s3 (r1.mono (e2.trans e3)) h3 (rt.mono ((e1.trans e2).trans e3)),rx.mono (e1.trans e2)⟩,rx.mono e1⟩,rx⟩
theorem gD (he:DE X W e te) (hl:ZP X W lo tl) (hu:ZP X W hi th):DE X W (.Subscript e (.Slice lo hi none p2) pos) (jU te tl th):=anM apZ he hl hu
end
def abK (g:List D→M→QD→Prop) (Q:QD) (d:D) (μ:M):Prop:=match d with
 | .int j=>(-(2^62)≤j∧j≤16777216)∧g (nZ 0 j.toNat) μ Q
 | _=>False
def QM (g:List D→M→QD→Prop) (t:bZ) (W:XD) (δ:Sl) (μ:M) (Q:QD):Prop:=t W δ μ (abK g Q)
def QS (ds:List D) (μ:M) (Q:QD):Prop:=Q (.lst ds) μ
def anN (K:PySem.W.Frag) (g:List D→M→QD→Prop):Prop:=∀ {H Hc:Hp} {μ:M} {Qd:QD} {Q:VK} {vs:List V} {ds:List D},pW K Hc Qd Q→Split K H Hc μ→bH K Hc vs ds→g ds μ Qd→∀ p,H p=none→Q (.ref p) (upd H p (.lst vs))
theorem ZQ {K:PySem.W.Frag}:anN K QS:=fun rt s ra q=>rt.new s ra q
theorem ajd {K:PySem.W.Frag} {H:Hp} {a:Int}:∀ n:Nat,bH K H ((List.range n).map fun i=>V.int (a+(i:Nat))) (nZ a n)
 | 0 => .nil
 | n+1=>by
  unfold nZ
  rw [List.range_succ,List.map_append,List.map_append]
  exact (ajd n).append (.cons (.int _) .nil)
section
variable {X:Cx} {W:WX} {a b:Expr} {ta tb:bZ} {g:List D→M→QD→Prop} {p pos p' pos':Pos}
theorem ZR (ln:anN X.K g) (hm:X.mg "list" = none) (hmr:X.mg "range" = none) (ha:DE X W a ta) (hc:X.calm=true:=by rfl) (hg:Gl X "list" := by rfl) (hgr:Gl X "range" := by rfl)
  (na:starEach [a] X.env=(false,eval a X.env)::starEach [] X.env:=by rfl) (na':starEach [.Call (.Name "range" p) [a] [] pos] X.env=(false,eval (.Call (.Name "range" p) [a] [] pos) X.env)::starEach [] X.env:=by rfl) :
  DE X W (.Call (.Name "list" p') [.Call (.Name "range" p) [a] [] pos] [] pos') (QM g ta) :=
 PE.imp (pe_listRg hc hg hm (prg_1 hgr hmr ha na) na') fun σ H Q ⟨δ,μ,Hc,Qd,Xd,s,rs,h,rt,rx⟩=>⟨δ,μ,Hc,_,Xd,s,rs,h,fun d μ1 h1 v H1 cA e1 s1 r1=>by
  unfold abK at h1
  split at h1
  ·rename_i j
   cases r1
   refine ⟨j,rfl,⟨by decide,by decide,h1.1.1,by omega,by rw [Int.sub_zero];omega⟩,?_⟩
   have:=ajd (K:=X.K) (H:=cA) (a:=0) j.toNat
   unfold rgV
   rw [Int.sub_zero]
   exact ln (rt.mono e1) s1 this h1.2
  ·exact h1.elim,rx⟩
end
def yC:lU:=fun a b μ Q=>match view μ a,view μ b with
 | .lst xs,.int k=>(-(2^63)≤k∧k<2^63∧xs.length*k.toNat≤sizeLine)∧NewC (List.replicate k.toNat xs).flatten μ Q
 | _,_=>False
theorem anO {K:PySem.W.Frag}:vB K (aby K) yC:=by
 intro x y d e H Hc μ Q Qd s rx ry h rt
 unfold yC at h
 split at h
 ·rename_i xs k e1 e2
  obtain ⟨a,vs,rfl,ha,ra⟩:=gq s rx e1
  exact .inr (.inl ⟨a,k,vs,rfl,jV ry e2,ha,h.1.1,h.1.2.1,by rw [ra.length];exact h.1.2.2,rt.newC s (ra.rep _) h.2⟩)
 ·exact h.elim
section
variable {X:Cx} {W:WX} {a b:Expr} {ta tb:bZ} {pos:Pos}
theorem OD (ha:DE X W a ta) (hb:DE X W b tb):DE X W (.BinOp a .Mult b pos) (aF yC ta tb):=Qz acE anO ha hb
end
def Ui:Ad:=fun ds μ Q=>match ds with
 | [.int i]=>Q (.int i) μ
 | [.bl b]=>Q (.int (if b then 1 else 0)) μ
 | _=>False
theorem ame {K:PySem.W.Frag}:pZ K (fun xs H Q=>(∃ i,xs=[.int i]∧Q (.int i) H)∨∃ k,xs=[.bl k]∧Q (.int (if k then 1 else 0)) H) Ui:=by
 intro vs ds H Hc μ Q Qd s ra h rt
 unfold Ui at h
 split at h
 ·obtain ⟨v,rfl,r⟩:=ra.one'
  cases r
  exact .inl ⟨_,rfl,rt.val s (.int _) h⟩
 ·obtain ⟨v,rfl,r⟩:=ra.one'
  cases r
  exact .inr ⟨_,rfl,rt.val s (.int _) h⟩
 ·exact h.elim
def zM:Ad:=fun ds μ Q=>match ds with
 | [d]=>∃ ns:List Int,view μ d = .lst (ns.map D.int)∧∀ ns':List Int,ns'.Perm ns→ns'.Pairwise (· ≤ ·)→Q (.lst (ns'.map D.int)) μ
 | _=>False
theorem aeu {K:PySem.W.Frag}:pZ K (rSortedI K) zM:=by
 intro vs ds H Hc μ Q Qd s ra h rt
 unfold zM at h
 split at h
 ·obtain ⟨v,rfl,r⟩:=ra.one'
  obtain ⟨ns,hv,q⟩:=h
  obtain ⟨a,ws,rfl,ha,rb⟩:=gq s r hv
  rw [rb.ints] at ha
  exact ⟨a,ns,rfl,SqL.of ha,fun ns' p h1 h2 hp=>rt.new s (.ofInts ns') (q ns' h1 h2) p hp⟩
 ·exact h.elim
def QT:Ad:=fun ds μ Q=>match ds with
 | [d]=>∃ ns:List Int,view μ d = .lst (ns.map D.int)∧0<ns.length∧∀ m,m∈ns→(∀ y,y∈ns→y≤m)→Q (.int m) μ
 | _=>False
theorem anP {K:PySem.W.Frag}:pZ K (rMax K) QT:=by
 intro vs ds H Hc μ Q Qd s ra h rt
 unfold QT at h
 split at h
 ·obtain ⟨v,rfl,r⟩:=ra.one'
  obtain ⟨ns,hv,h0,q⟩:=h
  obtain ⟨a,ws,rfl,ha,rb⟩:=gq s r hv
  rw [rb.ints] at ha
  exact ⟨a,ns,rfl,SqL.of ha,h0,fun m h1 h2=>rt.val s (.int _) (q m h1 h2)⟩
 ·exact h.elim
def Uj (_:XD) (_:Sl) (μ:M) (Q:QD):Prop:=Q .emp μ
theorem anQ {X:Cx} {W:WX} {pos:Pos}:DE X W (.Dict [] [] pos) Uj:=PE.imp pe_dnewK fun σ H Q ⟨δ,μ,Hc,Qd,Xd,s,rs,h,rt,rx⟩ p hp =>
 rt _ _ h _ _ (upd Hc p (.dK [])) (oX (s.fresh hp).2) (s.data hp) (.emp upd_same)
end DL
namespace DL
open PySem PySem.Spec PyProof.Rows L2
theorem akX (xs:Array Value):((List.range xs.size).filterMap fun (m:Nat)=>xs[(((xs.size:Int) - 1)+(m:Int)*(-1)).toNat]?).toArray=xs.toList.reverse.toArray:=by
 congr 1
 apply List.ext_getElem?
 intro i
 have e:((List.range xs.size).filterMap fun (m:Nat)=>xs[(((xs.size:Int) - 1)+(m:Int)*(-1)).toNat]?)=(List.range xs.size).pmap (fun m (h:m<xs.size)=>xs[xs.size - 1 - m]) (fun m hm=>List.mem_range.mp hm):=by
  have key:∀ (l:List Nat) (hl:∀ m∈l,m<xs.size),(l.filterMap fun (m:Nat)=>xs[(((xs.size:Int) - 1)+(m:Int)*(-1)).toNat]?)=l.pmap (fun m (h:m<xs.size)=>xs[xs.size - 1 - m]) hl:=by
   intro l
   induction l with
   | nil=>intro _;rfl
   | cons m l ih =>
    intro hl
    have hm:=hl m List.mem_cons_self
    have e1:(((xs.size:Int) - 1)+(m:Int)*(-1)).toNat=xs.size - 1 - m:=by omega
    rw [List.filterMap_cons,e1,Array.getElem?_eq_getElem (by omega),List.pmap_cons]
    simp only
    rw [ih fun k hk=>hl k (List.mem_cons_of_mem _ hk)]
  exact key _ _
 rw [e]
 by_cases hi:i<xs.size
 ·rw [List.getElem?_eq_getElem (by simpa using hi),List.getElem?_eq_getElem (by simpa using hi)]
  simp
 ·rw [List.getElem?_eq_none (by simpa using hi),List.getElem?_eq_none (by simpa using hi)]
section
variable {prog:Program} {w:World} {A:Around} {E:Value→Shared→Prop} {s:Shared}
theorem Ye {sl:Addr} {t:Tok} {n:Nat} {Q:Int × Int × Nat→Shared→Prop} (hs:s.heap.IsSliceOf sl .none .none (.int (-1) t))
  (h:Q ((n:Int) - 1,-1,n) s):wpAny (model prog w) A (Builtin.Slice.sliceApplied (.ref sl) (pure (n:Int))) Q E s:=by
 obtain ⟨os,hos,hcs,hds⟩:=id hs
 unfold Builtin.Slice.sliceApplied Builtin.Slice.sliceFields
 refine wpAny_bind (wpAny_bind (wpAny_field hos hds (x := .none) rfl (wpAny_bind (wpAny_field hos hds (x := .none) rfl (wpAny_bind (wpAny_field hos hds (x := .int (-1) t) rfl (wpAny_pure ?_)))))))
 refine wpAny_bind (slicePart_int ?_)
 show wpAny _ _ (if ((-1:Int) == 0)=true then _ else _) _ _ s
 rw [if_neg (by decide)]
 refine wpAny_bind (slicePart_none (wpAny_bind (slicePart_none (wpAny_bind (wpAny_pure ?_)))))
 have e1:Builtin.Slice.sliceAdjust none none (-1) (n:Int)=((n:Int) - 1,-1):=by
  unfold Builtin.Slice.sliceAdjust
  simp
 have e2:Builtin.Slice.slicePlaces ((n:Int) - 1) (-1) (-1)=n:=by
  unfold Builtin.Slice.slicePlaces
  simp
  split<;>omega
 show wpAny _ _ (match Builtin.Slice.sliceAdjust none none (-1) (n:Int) with | (lo,hi)=>pure (lo,(-1:Int),Builtin.Slice.slicePlaces lo hi (-1))) _ _ s
 rw [e1]
 show wpAny _ _ (pure ((n:Int) - 1,(-1:Int),Builtin.Slice.slicePlaces ((n:Int) - 1) (-1) (-1))) _ _ s
 rw [e2]
 exact wpAny_pure h
theorem Xe {t sl:Addr} {u:Tok} {items:Array Value} {Q:Value→Shared→Prop} (tup:IsTup s.heap t items) (cut:s.heap.IsSliceOf sl .none .none (.int (-1) u))
  (goal:Q (.ref s.heap.objs.size) { s with heap:=s.heap.push { cls := .type "tuple",data := .seq items.toList.reverse.toArray } }) (few:items.size≤sizeLine) :
  wpAny (model prog w) A (getItem (.ref t) (.ref sl)) Q E s:=by
 have tyT:=tup.typeIs
 have tyS:s.TypeIs (.ref sl) "slice" := by obtain ⟨o,ho,hc,_⟩:=cut;exact ⟨o,ho,hc⟩
 have fits:sizeOk (.seq items.toList.reverse.toArray):=by
  show items.toList.reverse.toArray.size≤sizeLine
  simpa using few
 have body:∀ {P:Value→Shared→Prop} {X:Value→Shared→Prop},P (.ref s.heap.objs.size) { s with heap:=s.heap.push { cls := .type "tuple",data := .seq items.toList.reverse.toArray } }→wpAny (model prog w) A (call (.builtin "tuple.__getitem__") [.ref t,.ref sl]) P X s:=by
  intro P X done
  refine wpAny_call_entry PyProof.Rows.slot_tuple_getitem tyT PyProof.Rows.entry_tuple_getitem ?_ (PyProof.Rows.args_tuple_getitem _ _)
  unfold Builtin.«tuple.__getitem__»
  obtain ⟨ot,hot,hct,nt,hdt⟩:=id tup
  generalize hA:Builtin.Slice.sliceApplied=SA
  wp_walk
  subst hA
  rw [hdt]
  refine wpAny_pure (wpAny_pure (wpAny_bind (wpAny_typeOf tyS ?_)))
  rw [if_pos (by decide)]
  refine wpAny_bind (Ye cut ?_)
  have other:((((items.size:Nat):Int) - 1) == 0 && (-1:Int) == 1 && items.size == items.size)=false:=by simp
  dsimp only
  rw [other,if_neg Bool.false_ne_true,akX]
  unfold Builtin.Tuple.tupleExact
  refine wpAny_bind (wpAny_newObj_type ?_ fits)
  exact wpAny_pure ⟨_,rfl,done⟩
 unfold getItem
 generalize hS : @callSpecial? = CS
 wp_walk
 subst hS
 exact wpAny_callSpecial?_slot tyT PyProof.Rows.slot_tuple_getitem (body (wpAny_pure goal))
end
def ap0 (K:PySem.W.Frag):V→Hp→VK→Prop:=fun x H Q=>∃ a xs,x = .ref a∧((SqL K H a xs∧∀ p,H p=none→Q (.ref p) (upd H p (.lst xs.reverse)))∨(SqT K H a xs∧∀ p,H p=none→Q (.ref p) (upd H p (.tup xs.reverse))))
section
variable {X:Cx} {e:Expr} {te:TE} {pos p1 p2 p3:Pos} {j:Nat}
theorem sizeV {xs:List V} {its:List Value} (r:Vals xs its):its.toArray.size=xs.length:=by
 have:=r.length
 simp [this]
theorem aje {pins:List (Addr × Obj)} {σ:L2.St} {H:Hp} {s:Shared} {Q:VK} {o:HO} {ob:Obj} (I:Inv X pins σ H s) (ok:∀ H',ObjOk X.prog X.w H' (s.heap.push ob) s.heap.objs.size o) (goal:∀ p,H p=none→Q (.ref p) (upd H p o)) :
  EP X pins σ Q (.ref s.heap.objs.size) { s with heap:=s.heap.push ob } :=
 ⟨.ref _,_,I.laid (t':=s.toks) (o:=o) (fun _ _ e=>Heap.get?_push_of_some _ e) (Nat.le_refl _) (ok _),rfl,goal _ (I.hok.fresh (Nat.le_refl _))⟩
theorem anR (he:PE X e te):PE X (.Subscript e (.Slice none none (some (.UnaryOp .USub (.Constant (.int 1) j p1) p3)) p2) pos) (fun σ H Q=>te σ H fun x H1=>ap0 X.K x H1 Q):=by
 refine ⟨fun pins s σ H Q I h => ?_⟩
 refine Subscript_ (thn (he.run pins s σ H _ I h) fun v s1 ⟨x,H1,I1,r1,q1⟩ => ?_)
 have hm:PE X (.UnaryOp .USub (.Constant (.int 1) j p1) p3) _:=pe_un un_neg pe_int
 refine wpAny_Slice ?_
 rw [evalPart_none]
 refine wpAny_pure ?_
 refine wpAny_pure ?_
 rw [evalPart_some]
 refine thn (hm.run pins s1 σ H1 (fun y H2=>y = .int (-1)∧H2=H1) I1 ⟨1,rfl,rfl,rfl⟩) fun vk s3 ⟨y,H3,I3,ry,ey,eH⟩ => ?_
 subst ey eH
 obtain ⟨tk,rfl⟩:=ry
 have I4:Inv X pins σ H3 { s3 with heap:=s3.heap.push { cls := .type "slice",data := .fields #[.none,.none,.int (-1) tk] } }:=I3.kept (t':=s3.toks) fun b ob q=>Heap.get?_push_of_some _ q
 show wpAny (model X.prog X.w) X.A (subscriptTail e (.Slice none none (some (.UnaryOp .USub (.Constant (.int 1) j p1) p3)) p2) v (.ref s3.heap.objs.size)) (EP X pins σ Q) X.xe { s3 with heap:=s3.heap.push { cls := .type "slice",data := .fields #[.none,.none,.int (-1) tk] } }
 obtain ⟨a,xs,rfl,⟨hq,q⟩ | ⟨hq,q⟩⟩:=q1
 ·cases r1
  obtain ⟨its,r,p,hz⟩:=I4.list hq
  refine tail_any (ops:=[.ref a,_]) p.isList.typeIs PySem.slot_list_getitem.lookup (wpAny_getItem_list_slice p.isList (Heap.IsSliceOf.new ..) .none .none (.int (-1) tk) (by decide) ?_ (by rw [sizeV r];exact hz)) (by with_unfolding_all rfl)
  rw [PySem.W.krv_pick]
  exact aje (o := .lst xs.reverse) I4 (fun _=>⟨by rw [List.length_reverse];exact hz,its.reverse,0,r.reverse,Heap.get?_push_size _ rfl⟩) q
 ·cases r1
  obtain ⟨its,r,p,hz⟩:=I4.tuple hq
  exact tail_any (ops:=[.ref a,_]) p.typeIs PyProof.Rows.slot_tuple_getitem.lookup (Xe p (Heap.IsSliceOf.new ..) (aje (o := .tup xs.reverse) I4 (fun _=>⟨by rw [List.length_reverse];exact hz,its.reverse,r.reverse,IsTup.new _ _⟩) q) (by rw [sizeV r];exact hz)) (by with_unfolding_all rfl)
end
def abL (Q:QD) (d:D) (μ:M):Prop:=match view μ d with
 | .lst xs=>Q (.lst xs.reverse) μ
 | .tup xs=>Q (.tup xs.reverse) μ
 | _=>False
def abM (t:bZ) (W:XD) (δ:Sl) (μ:M) (Q:QD):Prop:=t W δ μ (abL Q)
section
variable {X:Cx} {W:WX} {e:Expr} {te:bZ} {pos p1 p2 p3:Pos} {j:Nat}
theorem anS (he:DE X W e te):DE X W (.Subscript e (.Slice none none (some (.UnaryOp .USub (.Constant (.int 1) j p1) p3)) p2) pos) (abM te) :=
 PE.imp (anR he) fun σ H Q ⟨δ,μ,Hc,Qd,Xd,s,rs,h,rt,rx⟩=>(show w6 X.K W te σ H _ from ⟨δ,μ,Hc,_,Xd,s,rs,h,fun d μ1 h1 v H1 cA e1 s1 r1=>by
  unfold abL at h1
  split at h1
  ·rename_i xs ev
   obtain ⟨a,vs,rfl,ha,ra⟩:=gq s1 r1 ev
   exact ⟨a,vs,rfl,.inl ⟨SqL.of ha,(rt.mono e1).new s1 ra.reverse h1⟩⟩
  ·rename_i xs ev
   obtain ⟨a,vs,rfl,ha,ra⟩:=lB s1 r1 ev
   exact ⟨a,vs,rfl,.inr ⟨ha,(rt.mono e1).newT s1 ra.reverse h1⟩⟩
  ·exact h1.elim,rx⟩)
end
end DL
namespace DL
open PySem PySem.Spec L2
def hide (H:Hp) (p:Addr):Hp:=fun b=>if b=p then none else H b
theorem zN {H:Hp} {p:Addr}:hide H p p=none:=by unfold hide;rw [if_pos rfl]
theorem hide_ne {H:Hp} {p b:Addr} (h:b≠p):hide H p b=H b:=by unfold hide;rw [if_neg h]
theorem ajf {H:Hp} {p b:Addr} {o:HO} (h:hide H p b=some o):b≠p∧H b=some o:=by
 unfold hide at h
 split at h
 ·cases h
 ·rename_i n;exact ⟨n,h⟩
section
variable {X:Cx} {pins:List (Addr × Obj)} {σ:L2.St} {H:Hp} {s:Shared} {p:Addr} {xs:List V}
theorem Yg (I:L2.Inv X pins σ H s) (hp:H p=some (.lst xs)):∃ its n,Vals xs its∧xs.length≤sizeLine∧s.heap.get? p=some { cls := .type "list",data := .seq its.toArray n }∧L2.Inv X ((p,{ cls := .type "list",data := .seq its.toArray n })::pins) σ (hide H p) s:=by
 obtain ⟨z,its,n,r,e⟩:=I.hok p _ hp
 refine ⟨its,n,r,z,e,?_⟩
 have neO:∀ b u,H b=some u→(∀ ys,u ≠ .lst ys)→hide H p b=some u:=fun b u hb hu=>by
  rw [hide_ne]
  ·exact hb
  ·intro z
   rw [z,hp] at hb
   exact hu xs (Option.some.inj hb).symm
 have hf:∀ b∈X.fs,H b=none:=fun b hb=>by
  obtain ⟨_,o,ho,_⟩:=I.ok.funs.mem hb
  exact I.base.free b o ho (I.ok.frf b hb) fun z=>I.ok.exfs b z hb
 have hn:∀ b,H b=none→hide H p b=none:=fun b hb=>by
  by_cases e:b=p
  ·rw [e];exact zN
  ·rw [hide_ne e];exact hb
 refine ⟨I.ok,I.os,I.bare,⟨I.base.keep,I.base.slot,fun b o e n hx=>hn b (I.base.free b o e n hx),I.base.there,fun b ys e=>neO _ _ (I.base.tups b ys e) (fun _ z=>nomatch z),fun b o u e=>neO _ _ (I.base.frzs b o u e) (fun _ z=>nomatch z),fun b ps e => ?_⟩,I.loc,I.cell,hn _ I.free,fun x c e=>hn _ (I.freeC x c e),fun q hq => ?_,fun b u e => ?_,I.len⟩
 ·obtain ⟨more,q⟩:=I.base.tbls b ps e
  exact ⟨more,neO _ _ q (fun _ z=>nomatch z)⟩
 ·rcases List.mem_append.mp hq with hq | hq
  ·obtain ⟨h1,h2,h3⟩:=I.pin q (List.mem_append_left _ hq)
   exact ⟨h1,hn _ h2,h3⟩
  ·rcases List.mem_cons.mp hq with rfl | hq
   ·refine ⟨e,zN,fun z => ?_,fun z => ?_,fun v z=>nomatch z⟩
    ·have:=I.free
     rw [← z,hp] at this
     cases this
    ·have:=hf _ z
     rw [hp] at this
     cases this
   ·obtain ⟨h1,h2,h3⟩:=I.pin q (List.mem_append_right _ hq)
    exact ⟨h1,hn _ h2,h3⟩
 ·obtain ⟨_,e'⟩:=ajf e
  exact (I.hok b u e').stay (fun _ _ _ q=>q) (fun c q=>neO _ _ q (fun _ z=>nomatch z)) fun c ys q=>neO _ _ q (fun _ z=>nomatch z)
theorem Cr {its:List Value} {n:Nat} {H':Hp} {s':Shared} {σ':L2.St} (I:L2.Inv X pins σ H s) (hp:H p=some (.lst xs)) (r:Vals xs its) (z:xs.length≤sizeLine) (J:L2.Inv X ((p,{ cls := .type "list",data := .seq its.toArray n })::pins) σ' H' s') :
  H' p=none∧L2.Inv X pins σ' (upd H' p (.lst xs)) s':=by
 obtain ⟨e,hn,_⟩:=J.pin (p,_) (List.mem_append_right _ List.mem_cons_self)
 refine ⟨hn,?_⟩
 have neN:∀ b,H b=none→b≠p:=fun b hb z=>by rw [z,hp] at hb;cases hb
 have neS:∀ b u,H' b=some u→upd H' p (.lst xs) b=some u:=fun b u hb=>by
  rw [upd_ne]
  ·exact hb
  ·intro z
   have hn':H' p=none:=hn
   rw [z,hn'] at hb
   cases hb
 have up:∀ b,b≠p→H' b=none→upd H' p (.lst xs) b=none:=fun b hb h=>by rw [upd_ne hb];exact h
 refine ⟨J.ok,J.os,J.bare,⟨J.base.keep,J.base.slot,fun b o e n hx=>up b (neN b (I.base.free b o e n hx)) (J.base.free b o e n hx),J.base.there,fun b ys e=>neS _ _ (J.base.tups b ys e),fun b o u e=>neS _ _ (J.base.frzs b o u e),fun b ps e => ?_⟩,J.loc,J.cell,up _ (neN _ I.free) J.free,fun x c e=>up _ (neN _ (I.freeC x c e)) (J.freeC x c e),fun q hq => ?_,fun b u e' => ?_,J.len⟩
 ·obtain ⟨more,q⟩:=J.base.tbls b ps e
  exact ⟨more,neS _ _ q⟩
 ·have hq':q∈X.pn++((p,{ cls := .type "list",data := .seq its.toArray n })::pins):=by
   rcases List.mem_append.mp hq with h | h
   ·exact List.mem_append_left _ h
   ·exact List.mem_append_right _ (List.mem_cons_of_mem _ h)
  obtain ⟨h1,h2,h3⟩:=J.pin q hq'
  exact ⟨h1,up _ (neN _ (I.pin q hq).2.1) h2,h3⟩
 ·by_cases hb:b=p
  ·subst hb
   rw [upd_same] at e'
   cases e'
   exact ⟨z,its,n,r,e⟩
  ·rw [upd_ne hb] at e'
   exact (J.hok b u e').stay (fun _ _ _ q=>q) (fun c q=>neS _ _ q) fun c ys q=>neS _ _ q
theorem Wn {e:Expr} {t:TE} (h:PE X e t):PE X e (fun σ H Q=>∃ p xs,H p=some (.lst xs)∧t σ (hide H p) fun v H'=>H' p=none→Q v (upd H' p (.lst xs))):=by
 refine ⟨fun pins s σ H Q I ⟨p,xs,hp,hw⟩ => ?_⟩
 obtain ⟨its,n,r,z,e,J⟩:=Yg I hp
 refine thn (h.run _ s σ _ _ J hw) fun v s1 ⟨x,H1,J1,r1,q1⟩ => ?_
 exact ⟨x,_,(Cr I hp r z J1).2,r1,q1 (Cr I hp r z J1).1⟩
theorem QV {es:List Expr} {t:TT} (h:PTs X es t):PTs X es (fun σ H Q=>∃ p xs,H p=some (.lst xs)∧t σ (hide H p) fun v H'=>H' p=none→Q v (upd H' p (.lst xs))):=by
 refine ⟨fun pins s σ H Q I ⟨p,xs,hp,hw⟩ => ?_⟩
 obtain ⟨its,n,r,z,e,J⟩:=Yg I hp
 refine thn (h.run _ s σ _ _ J hw) fun v s1 ⟨H1,J1,q1⟩ => ?_
 exact ⟨_,(Cr I hp r z J1).2,q1 (Cr I hp r z J1).1⟩
theorem Wq {tg:Expr} {g:TG} (h:PG X tg g):PG X tg (fun v σ H Q=>∃ p xs,H p=some (.lst xs)∧g v σ (hide H p) fun σ' H'=>H' p=none→Q σ' (upd H' p (.lst xs))):=by
 refine ⟨fun pins s σ H v u Q I rv ⟨p,xs,hp,hw⟩ => ?_⟩
 obtain ⟨its,n,r,z,e,J⟩:=Yg I hp
 refine thn (h.run _ s σ _ v u _ J rv hw) fun _ s1 ⟨σ1,H1,J1,q1⟩ => ?_
 exact ⟨σ1,_,(Cr I hp r z J1).2,q1 (Cr I hp r z J1).1⟩
end
theorem ahv {K:PySem.W.Frag} {H Hc:Hp} {μ:M} {p:Addr} {ds:List D} (s:Split K H Hc (cC μ p (.lst ds))) (hn:μ p=none):Split K (hide H p) Hc μ∧∃ xs,H p=some (.lst xs)∧bH K Hc xs ds:=by
 obtain ⟨h1,o,h2,xs,rfl,ra⟩:=s.cell p _ aP
 refine ⟨⟨fun q c e => ?_,fun q e => ?_⟩,xs,h2,ra⟩
 ·have ne:q≠p:=fun z=>by rw [z,hn] at e;cases e
  rw [hide_ne ne]
  exact s.cell q c (by rw [bL ne];exact e)
 ·by_cases ne:q=p
  ·rw [ne,zN,h1]
  ·rw [hide_ne ne]
   exact s.rest q (by rw [bL ne];exact e)
theorem Hu {K:PySem.W.Frag} {H Hc:Hp} {μ:M} {p:Addr} {ds:List D} {xs:List V} (s:Split K H Hc μ) (hp:H p=none) (ra:bH K Hc xs ds):μ p=none∧Split K (upd H p (.lst xs)) Hc (cC μ p (.lst ds)):=⟨(s.fresh hp).1,s.new hp ⟨xs,rfl,ra⟩⟩
def aev (t:TE):TE:=fun σ H Q=>∃ p xs,H p=some (.lst xs)∧t σ (hide H p) fun v H'=>H' p=none→Q v (upd H' p (.lst xs))
def ZS (t:TT):TT:=fun σ H Q=>∃ p xs,H p=some (.lst xs)∧t σ (hide H p) fun v H'=>H' p=none→Q v (upd H' p (.lst xs))
def aew (g:TG):TG:=fun v σ H Q=>∃ p xs,H p=some (.lst xs)∧g v σ (hide H p) fun σ' H'=>H' p=none→Q σ' (upd H' p (.lst xs))
theorem Wr {K : PySem.W.Frag} {W : WX} {ti : DTI} {g : TG} {f : qT} {tt : DTT} {te : bZ} {vs : List Nat} (lg : LG K g f) (sl : zK f vs) {σ : L2.St} {H Hc : Hp} {μ : M} {δ : Sl} {Xd : XD} {Q : VK} {Qe : List D → M → Prop}
    (s:Split K H Hc μ) (rs:gM K Hc σ δ) (h:ti Xd δ μ (kLc f tt te vs Qe δ)) (rx:yX K Hc Xd (fun cls d H=>W cls d σ H))
    (fin:∀ p acc μ' H' bJ,Same Hc bJ→Split K H' bJ (cC μ' p (.lst acc))→μ' p=none→Qe acc μ'→Q (.ref p) H'):tLc (upI K W ti) (aew g) (ZS (Tj K W0 tt)) (aev (w6 K W0 te)) vs σ H Q:=by
  refine ⟨δ,μ,Hc,_,Xd,s,rs,h,fun S μ1 h1 J H1 cA e1 s1 wk => ?_,rx⟩
  intro p hp
  obtain ⟨N,n0,ns⟩:=h1
  refine ⟨fun i m H'=>i+m=S.ds.length∧∃ μ' bJ acc,Same cA bJ∧Split K H' bJ (cC μ' p (.lst acc))∧μ' p=none∧N i acc μ',⟨S.ds.length,by omega,μ1,cA,[],Same.refl _,(Hu s1 hp .nil).2,(Hu s1 hp (.nil:bH K cA [] [])).1,n0⟩,?_⟩
  rintro i m H2 ⟨hm,μ2,dw,acc,e2,s2,n2,l2⟩
  obtain ⟨ok2,l3,l4⟩:=ns i acc μ2 l2
  cases hd:S.ds[i]? with
  | none =>
    have hi:i=S.ds.length:=by
      have:=List.getElem?_eq_none_iff.mp hd
      omega
    exact .inl ⟨(wk i H2 dw _ e2 s2 (S.mono _ _ _ n2 ok2)).2 (by omega),fin p acc μ2 H2 dw (e1.trans e2) s2 n2 (l4 hi)⟩
  | some d =>
    obtain ⟨go,yl⟩:=(wk i H2 dw _ e2 s2 (S.mono _ _ _ n2 ok2)).1 d hd
    refine .inr ⟨go,fun H'=>∃ μ' bJ acc,Same cA bJ∧Split K H' bJ (cC μ' p (.lst acc))∧μ' p=none∧N (i+1) acc μ',fun H' q => ?_,fun x H' hy => ?_⟩
    · have hlt:i<S.ds.length:=(List.getElem?_eq_some_iff.mp hd).1
      exact ⟨m - 1,by omega,by omega,q⟩
    · obtain ⟨mU,e3,s3,r3⟩:=yl x H' hy
      obtain ⟨cs,hcs,hq⟩:=Hq.ex (l3 d hd)
      obtain ⟨s3h,xs,hx,ra⟩:=ahv s3 n2
      have e03:=(e1.trans e2).trans e3
      have rs3:gM K mU (wipe σ vs) (Em δ vs):=(rs.mono e03).wipe vs
      refine ⟨p,xs,hx,lg x d _ mU μ2 _ _ cs s3h r3 hcs fun bs rb => ?_⟩
      intro hn4
      refine ⟨by
        rw [acH fun b hb => ?_]
        · have key:∀ (τ:L2.St) (ws:List Nat),wipe (wipe τ ws) ws=wipe τ ws:=fun τ ws=>by
            have k2:∀ (us:List Nat),(∀ u∈us,u∈ws)→wipe (wipe τ us) ws=wipe τ ws:=by
              intro us
              induction us with
              | nil=>intro _;rfl
              | cons u us ih =>
                intro hu
                show wipe ((wipe τ us).set u none) ws=wipe τ ws
                rw [aej (hu u List.mem_cons_self),ih fun z hz=>hu z (List.mem_cons_of_mem _ hz)]
            exact k2 ws fun _ h=>h
          exact key σ vs
        · have z:=rb.fst
          have m1:b.1∈bs.map (·.1):=List.mem_map.mpr ⟨b,hb,rfl⟩
          rw [z] at m1
          obtain ⟨c,hc,ec⟩:=List.mem_map.mp m1
          rw [← ec]
          exact sl μ2 d cs hcs c hc,?_⟩
      -- the tests
      refine ⟨p,xs,upd_same,sets cs (Em δ vs),μ2,mU,_,XF,?_,gM.sets rb rs3,hq,?_,fun _ _ _ z=>z.elim⟩
      · have e:hide (upd (hide H' p) p (.lst xs)) p=hide H' p:=by
          funext b
          by_cases hb:b=p
          · rw [hb,zN,zN]
          · rw [hide_ne hb,upd_ne hb]
        rw [e]
        exact s3h
      · intro b μ4 h4 H4 Zt e4 s4 hn5
        cases b with
        | true =>
          rw [if_pos rfl]
          refine ⟨p,xs,upd_same,sets cs (Em δ vs),μ4,Zt,_,XF,?_,(gM.sets rb rs3).mono e4,h4,?_,fun _ _ _ z=>z.elim⟩
          · have e:hide (upd H4 p (.lst xs)) p=H4:=by
              funext b
              by_cases hb:b=p
              · rw [hb,zN,hn5]
              · rw [hide_ne hb,upd_ne hb]
            rw [e]
            exact s4
          · intro y μ5 h5 v H5 Hc5 e5 s5 r5 hn6
            refine ⟨xs,upd_same,by rw [ra.length];exact h5.1,μ5,Hc5,acc++[y],((e2.trans e3).trans e4).trans e5,?_,(s5.fresh hn6).1,h5.2⟩
            have e:upd (upd H5 p (.lst xs)) p (.lst (xs++[v]))=upd H5 p (.lst (xs++[v])):=upd_upd
            rw [e]
            exact (Hu s5 hn6 ((ra.mono (e4.trans e5)).append (bH.one r5))).2
        | false =>
          rw [if_neg Bool.false_ne_true]
          exact ⟨μ4,Zt,acc,(e2.trans e3).trans e4,(Hu s4 hn5 (ra.mono e4)).2,(s4.fresh hn5).1,h4⟩
def DTs (X:Cx) (W:WX) (es:List Expr) (t:DTT):Prop:=PTs X es (Tj X.K W t)
section
variable {X:Cx} {W:WX} {elt tg iter c:Expr} {ifs:List Expr} {scope:Scope} {own:List (Str × Nat)} {pos:Pos} {ti:DTI} {g:TG} {f:qT} {tt:DTT} {te:bZ}
theorem fG:DTs X W [] jB:=⟨fun pins s σ H Q I h=>pts_nil.run pins s σ H Q I (let ⟨δ,μ,Hc,Qd,Xd,s,rs,h,rt,rx⟩:=h;rt _ _ h _ Hc (Same.refl _) s)⟩
theorem Ws (h:DT X W c tt):DTs X W [c] tt:=pts_one h
theorem aex {K:PySem.W.Frag} {Hc:Hp} {Qd:QD} {Q:VK} (rt:pW K Hc Qd Q):∀ p acc μ' H' bJ,Same Hc bJ→Split K H' bJ (cC μ' p (.lst acc))→μ' p=none→Qd (.lst acc) μ'→Q (.ref p) H':=fun p acc μ' H' bJ e s n q=>by
 obtain ⟨h1,o,h2,xs,rfl,ra⟩:=s.cell p _ aP
 obtain ⟨dw,e2,s2,hh⟩:=s.sub (Sub.new n)
 exact rt _ _ q _ _ dw (e.trans e2) s2 (.lst (by rw [hh p n];exact h2) (ra.mono e2))
theorem aey {K:PySem.W.Frag} {Hc:Hp} {Qd:QD} {Q:VK} (rt:pW K Hc Qd Q):∀ p acc μ' H' bJ,Same Hc bJ→Split K H' bJ (cC μ' p (.lst acc))→μ' p=none→(∀ p,μ' p=none→Qd (.raw (.ref p)) (cC μ' p (.lst acc)))→Q (.ref p) H':=fun p acc μ' H' bJ e s n q=>rt _ _ (q p n) _ _ _ e s (.raw _)
theorem pF (hN:X.N.Nodup) (hi:DI X W tg iter ti) (ok:BlkOk X.N X.env.scope scope own) (lg:LG X.K g f) (sl:zK f (own.map (·.2)))
  (hg:∀ (s:Shared) (H:Hp) (C:Addr) (cl:List (Str × Addr)) (fp:List Addr),PG (X.blk s H scope (compEnvC scope cl C X.env) fp) tg g) (ht:∀ (s:Shared) (H:Hp) (C:Addr) (cl:List (Str × Addr)) (fp:List Addr),DTs (X.blk s H scope (compEnvC scope cl C X.env) fp) W0 ifs tt)
  (he:∀ (s:Shared) (H:Hp) (C:Addr) (cl:List (Str × Addr)) (fp:List Addr),DE (X.blk s H scope (compEnvC scope cl C X.env) fp) W0 elt te) (hc:X.calm=true:=by rfl) (hs:∀ x,foldedSetIterable iter X.env x=pure x:=by intro _;rfl) :
  DE X W (.ListComp elt [⟨tg,iter,ifs,0⟩] scope pos) (nH ti f tt te (own.map (·.2))) :=
 PE.imp (pe_lc (g:=aew g) (tt:=ZS (Tj X.K W0 tt)) (te:=aev (w6 X.K W0 te)) hc hN hi ok (fun s H C cl fp=>Wq (hg s H C cl fp)) (fun s H C cl fp=>QV (t:=Tj X.K W0 tt) (ht s H C cl fp)) (fun s H C cl fp=>Wn (t:=w6 X.K W0 te) (he s H C cl fp)) hs) fun σ H Q ⟨δ,μ,Hc,Qd,Xd,s,rs,h,rt,rx⟩=>Wr lg sl s rs h rx (aex rt)
theorem ajg (hN:X.N.Nodup) (hi:DI X W tg iter ti) (ok:BlkOk X.N X.env.scope scope own) (lg:LG X.K g f) (sl:zK f (own.map (·.2)))
  (hg:∀ (s:Shared) (H:Hp) (C:Addr) (cl:List (Str × Addr)) (fp:List Addr),PG (X.blk s H scope (compEnvC scope cl C X.env) fp) tg g) (ht:∀ (s:Shared) (H:Hp) (C:Addr) (cl:List (Str × Addr)) (fp:List Addr),DTs (X.blk s H scope (compEnvC scope cl C X.env) fp) W0 ifs tt)
  (he:∀ (s:Shared) (H:Hp) (C:Addr) (cl:List (Str × Addr)) (fp:List Addr),DE (X.blk s H scope (compEnvC scope cl C X.env) fp) W0 elt te) (hc:X.calm=true:=by rfl) (hs:∀ x,foldedSetIterable iter X.env x=pure x:=by intro _;rfl) :
  DE X W (.ListComp elt [⟨tg,iter,ifs,0⟩] scope pos) (NT ti f tt te (own.map (·.2))) :=
 PE.imp (pe_lc (g:=aew g) (tt:=ZS (Tj X.K W0 tt)) (te:=aev (w6 X.K W0 te)) hc hN hi ok (fun s H C cl fp=>Wq (hg s H C cl fp)) (fun s H C cl fp=>QV (t:=Tj X.K W0 tt) (ht s H C cl fp)) (fun s H C cl fp=>Wn (t:=w6 X.K W0 te) (he s H C cl fp)) hs) fun σ H Q ⟨δ,μ,Hc,Qd,Xd,s,rs,h,rt,rx⟩=>Wr lg sl s rs h rx (aey rt)
theorem qI {i:Nat} {y:Str} {py spos:Pos} (hN:X.N.Nodup) (hi:DI X W tg iter ti) (ok:BlkOk X.N X.env.scope scope own) (lg:LG X.K g f) (sl:zK f (own.map (·.2)))
  (hg:∀ (s:Shared) (H:Hp) (C:Addr) (cl:List (Str × Addr)) (fp:List Addr),PG (X.blk s H scope (compEnvC scope cl C X.env) fp) tg g) (ht:∀ (s:Shared) (H:Hp) (C:Addr) (cl:List (Str × Addr)) (fp:List Addr),DTs (X.blk s H scope (compEnvC scope cl C X.env) fp) W0 ifs tt)
  (he:∀ (s:Shared) (H:Hp) (C:Addr) (cl:List (Str × Addr)) (fp:List Addr),DE (X.blk s H scope (compEnvC scope cl C X.env) fp) W0 elt te) (hsw:swapsWith (.ListComp elt [⟨tg,iter,ifs,0⟩] scope pos) (some (.Name y py)) spos.line X.env=pure true)
  (hy:X.N[i]? = some y:=by rfl) (hyl:X.env.scope.names.lookup y=some .local:=by rfl) (hc:X.calm=true:=by rfl) (hs:∀ x,foldedSetIterable iter X.env x=pure x:=by intro _;rfl) :
  DS X W (.Assign [.Name y py] (.ListComp elt [⟨tg,iter,ifs,0⟩] scope pos) spos) (aZ i (nH ti f tt te (own.map (·.2)))) :=
 PS.imp (ps_setLc (g:=aew g) (tt:=ZS (Tj X.K W0 tt)) (te:=aev (w6 X.K W0 te)) hc hN hy hyl hsw hi ok (fun s H C cl fp=>Wq (hg s H C cl fp)) (fun s H C cl fp=>QV (t:=Tj X.K W0 tt) (ht s H C cl fp)) (fun s H C cl fp=>Wn (t:=w6 X.K W0 te) (he s H C cl fp)) hs) fun D σ H ⟨δ,μ,Hc,Dd,s,rs,h,rt⟩ =>
  Wr (Q:=fun x H1=>gName i x σ H1 D.nx) lg sl s rs h (rt.xc.at rs) (aex (Qd:=fun d μ1=>Dd.nx (δ.set i (some d)) μ1) fun d μ1 h1 v H1 cA e1 s1 r1=>rt.nx _ _ h1 _ _ _ e1 s1 ((rs.mono e1).set i r1))
theorem acJ {i:Nat} {y:Str} {py spos:Pos} (hN:X.N.Nodup) (hi:DI X W tg iter ti) (ok:BlkOk X.N X.env.scope scope own) (lg:LG X.K g f) (sl:zK f (own.map (·.2)))
  (hg:∀ (s:Shared) (H:Hp) (C:Addr) (cl:List (Str × Addr)) (fp:List Addr),PG (X.blk s H scope (compEnvC scope cl C X.env) fp) tg g) (ht:∀ (s:Shared) (H:Hp) (C:Addr) (cl:List (Str × Addr)) (fp:List Addr),DTs (X.blk s H scope (compEnvC scope cl C X.env) fp) W0 ifs tt)
  (he:∀ (s:Shared) (H:Hp) (C:Addr) (cl:List (Str × Addr)) (fp:List Addr),DE (X.blk s H scope (compEnvC scope cl C X.env) fp) W0 elt te) (hsw:swapsWith (.ListComp elt [⟨tg,iter,ifs,0⟩] scope pos) (some (.Name y py)) spos.line X.env=pure true)
  (hy:X.N[i]? = some y:=by rfl) (hyl:X.env.scope.names.lookup y=some .local:=by rfl) (hc:X.calm=true:=by rfl) (hs:∀ x,foldedSetIterable iter X.env x=pure x:=by intro _;rfl) :
  DS X W (.Assign [.Name y py] (.ListComp elt [⟨tg,iter,ifs,0⟩] scope pos) spos) (aZ i (NT ti f tt te (own.map (·.2)))) :=
 PS.imp (ps_setLc (g:=aew g) (tt:=ZS (Tj X.K W0 tt)) (te:=aev (w6 X.K W0 te)) hc hN hy hyl hsw hi ok (fun s H C cl fp=>Wq (hg s H C cl fp)) (fun s H C cl fp=>QV (t:=Tj X.K W0 tt) (ht s H C cl fp)) (fun s H C cl fp=>Wn (t:=w6 X.K W0 te) (he s H C cl fp)) hs) fun D σ H ⟨δ,μ,Hc,Dd,s,rs,h,rt⟩ =>
  Wr (Q:=fun x H1=>gName i x σ H1 D.nx) lg sl s rs h (rt.xc.at rs) (aey (Qd:=fun d μ1=>Dd.nx (δ.set i (some d)) μ1) fun d μ1 h1 v H1 cA e1 s1 r1=>rt.nx _ _ h1 _ _ _ e1 s1 ((rs.mono e1).set i r1))
end
end DL
namespace DL
open PySem PySem.Spec L2
section
variable {X:Cx} {W:WX} {e:Expr} {pos p:Pos}
def Jz (C:Addr) (E:bM) (δ:Sl) (μ:M):Prop:=E.xc δ (.ref C) none μ
theorem aez {C:Addr} (tk:Takes X W) (he:PMk X e (fun _ H Q=>Q (.ref C) none H)) (hc:X.calm=true:=by rfl):DS X W (.Raise (some e) none pos) (Jz C) :=
 PS.imp (ps_raise hc tk he) fun D σ H ⟨δ,μ,Hc,Dd,s,rs,h,rt⟩=>rt.xc δ _ none μ h σ none H Hc (Same.refl _) s rs True.intro
end
def Fin (Q:QD):QD:=fun d μ=>∃ μ',Sub μ' μ∧Q d μ'
theorem Fin.of {Q:QD} {d:D} {μ:M} (h:Q d μ):Fin Q d μ:=⟨μ,Sub.refl _,h⟩
def sS (Xd:XD):XD:=fun c f μ=>∃ μ',Sub μ' μ∧Xd c f μ'
def aeA (Q:QD) (_:Sl) (μ:M):Prop:=Fin Q .non μ
def ends (Q:QD) (Xd:XD):bM:={ nx:=aeA Q,rt:=Fin Q,bk:=fun _ _=>False,ct:=fun _ _=>False,xc:=fun _=>Xd }
def ZV (N:List Str) (ds:List D):Sl:=ds.map some++List.replicate (N.length - ds.length) none
theorem jF {K:PySem.W.Frag} {Hc:Hp} {Qd:QD} {Q:VK} (rt:pW K Hc Qd Q):pW K Hc (Fin Qd) Q:=fun d μ ⟨μ',sb,h⟩ v H' bJ e s r=>by
 obtain ⟨dw,e2,s2,_⟩:=s.sub sb
 exact rt d μ' h v H' dw (e.trans e2) s2 (r.mono e2)
theorem JB {K:PySem.W.Frag} {Hc:Hp} {Xd:XD} {E:XK} (rt:yX K Hc Xd E):yX K Hc (sS Xd) E:=fun c f μ ⟨μ',sb,h⟩ d H' bJ e s x=>by
 obtain ⟨dw,e2,s2,_⟩:=s.sub sb
 exact rt c f μ' h d H' dw (e.trans e2) s2 (x.mono e2)
theorem oF {K:PySem.W.Frag} {Hc:Hp} {N:List Str} {vs:List V} {ds:List D} (r:bH K Hc vs ds):gM K Hc (L2.start N vs) (ZV N ds):=by
 unfold L2.start ZV
 refine ⟨by simp [r.length],fun i d h => ?_⟩
 by_cases hi:i<ds.length
 ·rw [List.getElem?_append_left (by rw [List.length_map];exact hi),List.getElem?_map] at h
  cases e:ds[i]? with
  | none=>rw [e] at h;cases h
  | some d' =>
   rw [e] at h
   cases h
   obtain ⟨v,h1,h2⟩:=r.get e
   exact ⟨v,by rw [List.getElem?_append_left (by rw [List.length_map,r.length];exact hi),List.getElem?_map,h1];rfl,h2⟩
 ·rw [List.getElem?_append_right (by rw [List.length_map];omega)] at h
  rw [List.getElem?_replicate] at h
  split at h
  ·cases h
  ·cases h
section
variable {P:Program} {w:World} {K:PySem.W.Frag} {mg:Str→Option Value} {base:Heap}
theorem ap1 {x qual:Str} {st:Stmt} {f:Addr} {fd:FuncData} {N ps:List Str} {k:Nat} {c:Ct} {t:bh} (F:Fun K x qual st f fd) (hm:mg x=some (.ref f)) (bn:Binds K fd ps []) (S:FnScope N ps (defScope st)) (len:∀ ds μ Q Xd,c ds μ Q Xd→ds.length=ps.length)
  (hd:∀ (cdv:Value) (A:Around) (outer:List Env) (s:Shared) (H:Hp) (E:XK),Room k (A.deeper (PyProof.Rows.envOfC qual (defScope st) s.heap.objs.size f cdv))→pX (cxOf CX0 P w K mg base N qual (defScope st) f cdv A outer s H E).nox W0 (defBody st) t)
  (hb:∀ ds μ Q Xd,c ds μ Q Xd→t (ends Q XF) (ZV N ds) μ):dW P w K mg base CX0 x qual st (k+1) ps c:=by
 refine ⟨f,fd,F,hm,?_,bn⟩
 refine F.ok S (fun vs H Q E ⟨ds,μ,Hc,Qd,Xd,s,ra,h,rt,rx⟩=>by rw [ra.length];exact len _ _ _ _ h) (fun cdv A outer s H vs Q E hr h => ?_)
 obtain ⟨ds,μ,Hc,Qd,Xd,sp,ra,h,rt,rx⟩:=h
 refine ⟨_,hd cdv A outer s H E hr,_,μ,Hc,_,sp,oF ra,hb _ _ _ _ h,?_⟩
 exact ⟨fun δ μ' h' σ H' bJ e' s' rs'=>jF rt _ _ h' _ _ _ e' s' .non,jF rt,fun _ _ z=>z.elim,fun _ _ z=>z.elim,fun _ _ _ _ z=>z.elim⟩
theorem ap2 {x qual:Str} {st:Stmt} {f:Addr} {fd:FuncData} {N ps:List Str} {k:Nat} {c:Ct} {t:bh} (F:Fun K x qual st f fd) (hm:mg x=some (.ref f)) (bn:Binds K fd ps []) (S:FnScope N ps (defScope st)) (len:∀ ds μ Q Xd,c ds μ Q Xd→ds.length=ps.length)
  (hd:∀ (cdv:Value) (A:Around) (outer:List Env) (s:Shared) (H:Hp) (E:XK),Room k (A.deeper (PyProof.Rows.envOfC qual (defScope st) s.heap.objs.size f cdv)) →
   Takes (cxOf (L2.CX P w) P w K mg base N qual (defScope st) f cdv A outer s H E) (fun cls d _ H'=>E cls d H')→pX (cxOf (L2.CX P w) P w K mg base N qual (defScope st) f cdv A outer s H E) (fun cls d _ H'=>E cls d H') (defBody st) t)
  (hb:∀ ds μ Q Xd,c ds μ Q Xd→t (ends Q (sS Xd)) (ZV N ds) μ):dW P w K mg base (L2.CX P w) x qual st (k+1) ps c:=by
 refine ⟨f,fd,F,hm,?_,bn⟩
 refine F.okX S (fun vs H Q E ⟨ds,μ,Hc,Qd,Xd,s,ra,h,rt,rx⟩=>by rw [ra.length];exact len _ _ _ _ h) (fun cdv A outer s H vs Q E hr h => ?_)
 obtain ⟨ds,μ,Hc,Qd,Xd,sp,ra,h,rt,rx⟩:=h
 refine ⟨_,hd cdv A outer s H E hr (takes_of rfl rfl rfl rfl),_,μ,Hc,_,sp,oF ra,hb _ _ _ _ h,?_⟩
 exact ⟨fun δ μ' h' σ H' bJ e' s' rs'=>jF rt _ _ h' _ _ _ e' s' .non,jF rt,fun _ _ z=>z.elim,fun _ _ z=>z.elim,fun δ cls fs μ' h' σ d H' bJ e' s' rs' xo=>JB rx cls fs μ' h' d H' bJ e' s' xo⟩
end
def ajh (n:Nat) (ds:List D):Sl:=ds.map some++List.replicate (n - ds.length) none
def HB (c:Ct) (t:bh) (n:Nat):Prop:=∀ ds μ Q Xd,c ds μ Q Xd→t (ends Q XF) (ajh n ds) μ
def vD (c:Ct) (t:bh) (n:Nat):Prop:=∀ ds μ Q Xd,c ds μ Q Xd→t (ends Q (sS Xd)) (ajh n ds) μ
def Len (c:Ct) (n:Nat):Prop:=∀ ds μ Q Xd,c ds μ Q Xd→ds.length=n
section
variable {P:Program} {w:World} {K:PySem.W.Frag} {mg:Str→Option Value} {base:Heap} {x qual:Str} {st:Stmt} {f:Addr} {fd:FuncData} {N ps:List Str} {k n m:Nat} {c:Ct} {t:bh}
theorem ap3 (F:Fun K x qual st f fd) (hm:mg x=some (.ref f)) (bn:Binds K fd ps []) (S:FnScope N ps (defScope st)) (len:Len c m) (hb:HB c t n)
  (hd:∀ (cdv:Value) (A:Around) (outer:List Env) (s:Shared) (H:Hp) (E:XK),Room k (A.deeper (PyProof.Rows.envOfC qual (defScope st) s.heap.objs.size f cdv))→pX (cxOf CX0 P w K mg base N qual (defScope st) f cdv A outer s H E).nox W0 (defBody st) t)
  (hn:N.length=n:=by rfl) (hp:ps.length=m:=by rfl):dW P w K mg base CX0 x qual st (k+1) ps c:=by
 subst hn hp
 exact ap1 F hm bn S len hd hb
theorem ap4 (F:Fun K x qual st f fd) (hm:mg x=some (.ref f)) (bn:Binds K fd ps []) (S:FnScope N ps (defScope st)) (len:Len c m) (hb:vD c t n)
  (hd:∀ (cdv:Value) (A:Around) (outer:List Env) (s:Shared) (H:Hp) (E:XK),Room k (A.deeper (PyProof.Rows.envOfC qual (defScope st) s.heap.objs.size f cdv)) →
   Takes (cxOf (L2.CX P w) P w K mg base N qual (defScope st) f cdv A outer s H E) (fun cls d _ H'=>E cls d H')→pX (cxOf (L2.CX P w) P w K mg base N qual (defScope st) f cdv A outer s H E) (fun cls d _ H'=>E cls d H') (defBody st) t)
  (hn:N.length=n:=by rfl) (hp:ps.length=m:=by rfl):dW P w K mg base (L2.CX P w) x qual st (k+1) ps c:=by
 subst hn hp
 exact ap2 F hm bn S len hd hb
end
end DL
namespace DL
open PySem PySem.Spec L2
def KC (K:PySem.W.Frag) (mg:Str→Option Value) (x:Str) (d:D):Prop:=∃ v u,mg x=some u∧RelV v u∧∀ H,Rep K H v d
section
variable {X:Cx} {W:WX} {a:Expr} {pos:Pos} {ta:bZ}
theorem pG {x:Str} {d:D} (h:KC X.K X.mg x d) (hg:Gl X x:=by rfl) (hd:(x == ("__debug__" : Str))=false:=by decide):DE X W (.Name x pos) (dC d):=by
 obtain ⟨v,u,h1,h2,h3⟩:=h
 exact agS hg h1 h2 h3 hd
def abN (Q:QD) (d:D) (μ:M):Prop:=match d with
 | .int i=>Q (.int (-i)) μ
 | _=>False
def Yh (t:bZ) (W:XD) (δ:Sl) (μ:M) (Q:QD):Prop:=t W δ μ (abN Q)
theorem anT (ha:DE X W a ta):DE X W (.UnaryOp .USub a pos) (Yh ta):=PE.imp (pe_un un_neg ha) fun σ H Q ⟨δ,μ,Hc,Qd,Xd,s,rs,h,rt,rx⟩=>⟨δ,μ,Hc,_,Xd,s,rs,h,fun d μ1 h1 v H1 cA e1 s1 r1=>by
 unfold abN at h1
 split at h1
 ·cases r1
  exact ⟨_,rfl,(rt.mono e1).val s1 (.int _) h1⟩
 ·exact h1.elim,rx⟩
end
structure akY (K:PySem.W.Frag) (mg:Str→Option Value) (x:Str) (C:Addr):Prop where
 g:mg x=some (.ref C)
 x:PySem.W.excIn K C [.type "ValueError",.type "Exception",.type "BaseException",.type "object"] "ValueError.__new__" = true
 k:PySem.W.keepIn K (.ref C)=true
 b:PySem.W.subIn K (.ref C) (.type "BaseException")=some true
 t:PySem.W.typeIn K (.ref C)=some (.type "type")
def aeB:Ct:=fun ds μ Q _=>∃ ns:List Int,ds=[.dJ ns]∧ns.length≤63∧∀ μ',Q (.bl true) μ'
theorem amL {K:PySem.W.Frag} {H:Hp} {a:Addr} {ns:List Int} (hl:ns.length≤63) (h:SqL K H a (ns.map V.int)):Jt K aeB [.ref a] H (fun v _=>v = .bl true) fun _ _ _=>False :=
 ⟨[.dJ ns],fun _=>none,H,fun d _=>d = .bl true,XF,⟨fun _ _ z=>(nomatch z),fun _ _=>rfl⟩,.cons (.dJ h) .nil,⟨ns,rfl,hl,fun _=>rfl⟩,fun d μ' e v H' bJ _ _ r=>by subst e;cases r;rfl,fun _ _ _ z=>z.elim⟩
theorem akZ {K:PySem.W.Frag} {x qual:Str} {st:Stmt} {f:Addr} {fd fd':FuncData} (F:Fun K x qual st f fd) (G:Fun K x qual st f fd'):fd=fd':=by
 obtain ⟨_,_,_,_,_,_,_,_,_,_,l,_⟩:=F.ex
 obtain ⟨_,_,_,_,_,_,_,_,_,_,l',_⟩:=G.ex
 rw [l] at l'
 injection l' with l'
 injection l' with _ _ l' _
 injection l'
theorem QW {t u:bh} {E:bM} {δ:Sl} {μ:M}:ifS true t u E δ μ=t E δ μ:=rfl
theorem Mp {t u:bh} {E:bM} {δ:Sl} {μ:M}:ifS false t u E δ μ=u E δ μ:=rfl
theorem Hv {u:DTT} {W:XD} {δ:Sl} {μ:M} {Q:Bool→M→Prop}:Zu true u W δ μ Q=u W δ μ Q:=rfl
theorem En {u:DTT} {W:XD} {δ:Sl} {μ:M} {Q:Bool→M→Prop}:Zu false u W δ μ Q=Q false μ:=rfl
theorem Mq {u:DTT} {W:XD} {δ:Sl} {μ:M} {Q:Bool→M→Prop}:ad' true u W δ μ Q=Q true μ:=rfl
theorem Hw {u:DTT} {W:XD} {δ:Sl} {μ:M} {Q:Bool→M→Prop}:ad' false u W δ μ Q=u W δ μ Q:=rfl
theorem Eo {u:bZ} {W:XD} {δ:Sl} {μ:M} {Q:QD}:Zv true u W δ μ Q=u W δ μ Q:=rfl
theorem Ag {u:bZ} {W:XD} {δ:Sl} {μ:M} {Q:QD}:Zv false u W δ μ Q=Q (.bl false) μ:=rfl
theorem Hz {u:bZ} {W:XD} {δ:Sl} {μ:M} {Q:QD}:ahp true u W δ μ Q=Q (.bl true) μ:=rfl
theorem Ep {u:bZ} {W:XD} {δ:Sl} {μ:M} {Q:QD}:ahp false u W δ μ Q=u W δ μ Q:=rfl
theorem QX {t u:bZ} {W:XD} {δ:Sl} {μ:M} {Q:QD}:ifE true t u W δ μ Q=t W δ μ Q:=rfl
theorem Mr {t u:bZ} {W:XD} {δ:Sl} {μ:M} {Q:QD}:ifE false t u W δ μ Q=u W δ μ Q:=rfl
theorem Ah {g':lU} {tc:bZ} {W:XD} {δ:Sl} {Q:QD} {y:D} {μ:M}:Wc g' tc W δ Q y (.bl true) μ=tc W δ μ (T9 g' y Q):=rfl
theorem yD {g':lU} {tc:bZ} {W:XD} {δ:Sl} {Q:QD} {y:D} {μ:M}:Wc g' tc W δ Q y (.bl false) μ=Q (.bl false) μ:=rfl
theorem HD {g':lU} {tc:bZ} {W:XD} {δ:Sl} {Q:QD} {y:D} {μ:M} {b:Bool} (h1:b=true→tc W δ μ (T9 g' y Q)) (h2:b=false→Q (.bl false) μ):Wc g' tc W δ Q y (.bl b) μ:=by
 cases b with
 | true=>exact h1 rfl
 | false=>exact h2 rfl
theorem HF {te:bZ} {δ:Sl} {acc:List D} {R:List D→M→Prop} {μ:M}:Wg te δ acc R true μ=te XF δ μ (kItem acc R):=rfl
theorem Es {te:bZ} {δ:Sl} {acc:List D} {R:List D→M→Prop} {μ:M}:Wg te δ acc R false μ=R acc μ:=rfl
theorem HJ {j:Nat} {p:Addr} {ds:List D} {d:D} {E:bM} {δ:Sl} {μ:M}:adN (some j) p ds d E δ μ=E.nx δ (cC μ p (.lst (ds.set j d))):=rfl
theorem HS {cs:List (Nat × D)} {E:bM} {δ:Sl} {μ:M}:ZD (some cs) E δ μ=E.nx (sets cs δ) μ:=rfl
theorem HW {cs:List (Nat × D)} {tb:bh} {E:bM} {δ:Sl} {μ:M}:Ho (some cs) tb E δ μ=tb E (sets cs δ) μ:=rfl
theorem HX {cs:List (Nat × D)} {tt:DTT} {te:bZ} {acc:List D} {R:List D→M→Prop} {δ:Sl} {μ:M}:Hq (some cs) tt te acc R δ μ=tt XF (sets cs δ) μ (Wg te (sets cs δ) acc R):=rfl
theorem yE:iQ "dict" "int" = false:=by decide
theorem wj:iQ "dict" "bool" = false:=by decide
theorem yF:iQ "dict" "str" = false:=by decide
theorem wu:iQ "dict" "list" = false:=by decide
theorem uV:iQ "dict" "tuple" = false:=by decide
theorem qY:iQ "NoneType" "int" = false:=by decide
theorem qj:iQ "NoneType" "bool" = false:=by decide
theorem qZ:iQ "NoneType" "str" = false:=by decide
theorem ql:iQ "NoneType" "list" = false:=by decide
theorem pH:iQ "NoneType" "tuple" = false:=by decide
theorem yG:iQ "bool" "int" = true:=by decide
theorem wz:iQ "bool" "bool" = true:=by decide
theorem yH:iQ "bool" "str" = false:=by decide
theorem wA:iQ "bool" "list" = false:=by decide
theorem uW:iQ "bool" "tuple" = false:=by decide
theorem Ai:iQ "int" "int" = true:=by decide
theorem yI:iQ "int" "bool" = false:=by decide
theorem Aj:iQ "int" "str" = false:=by decide
theorem yJ:iQ "int" "list" = false:=by decide
theorem wB:iQ "int" "tuple" = false:=by decide
theorem Ak:iQ "str" "int" = false:=by decide
theorem yK:iQ "str" "bool" = false:=by decide
theorem Am:iQ "str" "str" = true:=by decide
theorem yL:iQ "str" "list" = false:=by decide
theorem wC:iQ "str" "tuple" = false:=by decide
theorem yM:iQ "list" "int" = false:=by decide
theorem wD:iQ "list" "bool" = false:=by decide
theorem yN:iQ "list" "str" = false:=by decide
theorem wF:iQ "list" "list" = true:=by decide
theorem uX:iQ "list" "tuple" = false:=by decide
theorem wG:iQ "tuple" "int" = false:=by decide
theorem uY:iQ "tuple" "bool" = false:=by decide
theorem wH:iQ "tuple" "str" = false:=by decide
theorem uZ:iQ "tuple" "list" = false:=by decide
theorem sU:iQ "tuple" "tuple" = true:=by decide
theorem ju {a b:Int}:tU (.int a) (.int b)=decide (a=b):=by
 show (a == b)=_
 by_cases h:a=b
 ·subst h;simp
 ·rw [decide_eq_false h];simpa using h
theorem ux {a b:Str}:tU (.str a) (.str b)=decide (a=b):=by
 show (a == b)=_
 by_cases h:a=b
 ·subst h;simp
 ·rw [decide_eq_false h];simpa using h
theorem ZW {a b:Bool}:tU (.bl a) (.bl b)=decide (a=b):=by
 cases a<;>cases b<;>rfl
def QZ (xs ys:List D):Bool:=PyData.eqvAll (lC xs) (lC ys)
theorem Jc {a b:List D}:tU (.tup a) (.tup b)=QZ a b:=rfl
theorem OJ {a b:List D}:tU (.lst a) (.lst b)=QZ a b:=rfl
theorem Cu:QZ [] []=true:=rfl
theorem rW {x y:D} {xs ys:List D}:QZ (x::xs) (y::ys)=(tU x y && QZ xs ys):=rfl
def nM (μ μ':M) (p:Addr):Prop:=∀ q,q≠p→μ' q=μ q
theorem nM.refl (μ:M) (p:Addr):nM μ μ p:=fun _ _=>rfl
theorem nM.trans {a b c:M} {p:Addr} (h:nM a b p) (k:nM b c p):nM a c p:=fun q n=>(k q n).trans (h q n)
theorem nM.upd {μ:M} {p:Addr} {c:C}:nM μ (cC μ p c) p:=fun _ n=>bL n
theorem JC {α:Type} {x:α} {xs:List α}:atI (x::xs) 0=some x:=by
 unfold atI ixN
 rw [if_pos (Int.le_refl 0),if_pos (by rw [List.length_cons];omega)]
 rfl
theorem Wt {α:Type} {x y:α} {xs:List α}:atI (x::y::xs) 1=some y:=by
 unfold atI ixN
 rw [if_pos (by omega),if_pos (by rw [List.length_cons,List.length_cons];omega)]
 rfl
theorem Wu {α:Type} {x y z:α} {xs:List α}:atI (x::y::z::xs) 2=some z:=by
 unfold atI ixN
 rw [if_pos (by omega),if_pos (by rw [List.length_cons,List.length_cons,List.length_cons];omega)]
 rfl
theorem ak0 {n:Nat}:ixN (n+1) 0=some 0:=by
 unfold ixN
 rw [if_pos (Int.le_refl 0),if_pos (by omega)]
 rfl
theorem amM {n:Nat}:ixN (n+2) 1=some 1:=by
 unfold ixN
 rw [if_pos (by omega),if_pos (by omega)]
 rfl
theorem mW {α:Type} {xs:List α} {i:Int} (h0:0≤i) (h1:i<xs.length):∃ x,atI xs i=some x∧xs[i.toNat]? = some x:=by
 unfold atI ixN
 rw [if_pos h0,if_pos h1]
 have:i.toNat<xs.length:=by omega
 exact ⟨xs[i.toNat],by show xs[i.toNat]? = _;rw [List.getElem?_eq_getElem this],by rw [List.getElem?_eq_getElem this]⟩
theorem acK {i j:Int} {a b:Nat} (ha:i.natAbs<2^a) (hb:j.natAbs<2^b) (h:a+b≤900000):IntMulOk i j :=
 (wide_mul (a:=a+1) (b:=b+1) (Nat.lt_of_lt_of_le ha (Nat.pow_le_pow_right (by decide) (by omega))) (Nat.lt_of_lt_of_le hb (Nat.pow_le_pow_right (by decide) (by omega))) (by omega) (by omega) (by omega)).ok
theorem qJ {x y:Int} (h1 : -9000000000000000000<x) (h2:x<9000000000000000000) (h3 : -9000000000000000000<y) (h4:y<9000000000000000000):IntMulOk x y:=by
 have e:(2:Nat)^63=9223372036854775808:=by decide
 exact acK (a:=63) (b:=63) (by omega) (by omega) (by decide)
theorem acL {i j:Int} {b:Nat} (h:j≠0) (hb:j.natAbs<2^b) (h9:b≤8999):Ek i j :=
 ⟨h,PyProof.noPylong_of_log2 (Nat.lt_of_lt_of_le (PySem.Flt.log2_lt_of (by omega) (Nat.lt_of_lt_of_le hb (Nat.pow_le_pow_right (by decide) (Nat.le_succ b)))) (by omega))⟩
theorem afX {i j:Int} (h:j≠0) (hb:j.natAbs<1073741824):Ek i j:=⟨h,PyProof.noPylong_small hb⟩
end DL
namespace DL
open PySem PySem.Spec L2
theorem ak1 {α:Type} {xs:List α} {i:Nat} {x:α} (h:xs[i]? = some x):xs=xs.take i++x::xs.drop (i+1):=by
 rw [← agU h,List.take_append_drop]
theorem aji {α:Type} {enc:α→D} {xs:List α} {i:Nat} {d:D} (h:(xs.map enc)[i]? = some d):∃ x,xs[i]? = some x∧d=enc x:=by
 rw [List.getElem?_map] at h
 obtain ⟨t,h1,h2⟩:=Option.map_eq_some_iff.mp h
 exact ⟨t,h1,h2.symm⟩
theorem take_snoc {α:Type} {l:List α} {i:Nat} {x:α} (h:l[i]? = some x):l.take (i+1)=l.take i++[x]:=by
 rw [List.take_add_one,h]
 rfl
theorem wI {α:Type} {ok:M→Prop} {f:qT} {tb:bh} {E:bM} {enc:α→D} {xs:List α} {δ:Sl} {μ:M} (J:List α→Sl→M→Prop) (h0:J [] δ μ)
  (ht:∀ (pre:List α) (x:α) (post:List α) (δ:Sl) (μ:M),xs=pre++x::post→J pre δ μ→ok μ∧Ho (f μ (enc x)) tb { E with nx:=J (pre++[x]),ct:=J (pre++[x]),bk:=E.nx } δ μ)
  (he:∀ δ μ,J xs δ μ→ok μ∧E.nx δ μ):adP ok f tb E (xs.map enc) δ μ:=by
 refine ⟨fun i δ μ=>i≤xs.length∧J (xs.take i) δ μ,⟨Nat.zero_le _,by rw [List.take_zero];exact h0⟩,?_⟩
 rintro i δ μ ⟨hi,hJ⟩
 have key:∀ d,(xs.map enc)[i]? = some d→ok μ∧Ho (f μ d) tb { E with nx:=fun δ μ=>i+1≤xs.length∧J (xs.take (i+1)) δ μ,ct:=fun δ μ=>i+1≤xs.length∧J (xs.take (i+1)) δ μ,bk:=E.nx } δ μ:=by
  intro d hd
  obtain ⟨x,hx,rfl⟩:=aji hd
  have z:=ht (xs.take i) x (xs.drop (i+1)) δ μ (ak1 hx) hJ
  have hl:i+1≤xs.length:=(List.getElem?_eq_some_iff.mp hx).1
  rw [take_snoc hx]
  have e:J (xs.take i++[x])=fun δ μ=>i+1≤xs.length∧J (xs.take i++[x]) δ μ:=by
   funext δ μ
   exact propext ⟨fun h=>⟨hl,h⟩,fun h=>h.2⟩
  rw [e] at z
  exact z
 refine ⟨?_,fun d hd=>(key d hd).2,fun he' => ?_⟩
 ·cases hd:(xs.map enc)[i]? with
  | some d=>exact (key d hd).1
  | none =>
   have:=List.getElem?_eq_none_iff.mp hd
   rw [List.length_map] at this
   rw [List.take_of_length_le this] at hJ
   exact (he δ μ hJ).1
 ·rw [List.length_map] at he'
  rw [he',List.take_length] at hJ
  exact (he δ μ hJ).2
theorem aeC {α σ:Type} {ok:M→Prop} {f:qT} {tb:bh} {E:bM} {enc:α→D} {xs:List α} {δ:Sl} {μ:M} (step:σ→α→σ) (s0:σ) (St:σ→Sl→M→Prop) (h0:St s0 δ μ) (hok:∀ s δ μ,St s δ μ→ok μ)
  (ht:∀ (pre:List α) (x:α) (post:List α) (s:σ) (δ:Sl) (μ:M),xs=pre++x::post→s=pre.foldl step s0→St s δ μ→Ho (f μ (enc x)) tb { E with nx:=St (step s x),ct:=St (step s x),bk:=E.nx } δ μ)
  (he:∀ δ μ,St (xs.foldl step s0) δ μ→E.nx δ μ):adP ok f tb E (xs.map enc) δ μ:=by
 refine wI (fun pre δ μ=>St (pre.foldl step s0) δ μ) h0 (fun pre x post δ μ e hJ=>⟨hok _ _ _ hJ,?_⟩) (fun δ μ hJ=>⟨hok _ _ _ hJ,he δ μ hJ⟩)
 have z:=ht pre x post _ δ μ e rfl hJ
 have e2:(pre++[x]).foldl step s0=step (pre.foldl step s0) x:=by rw [List.foldl_append];rfl
 rw [e2]
 exact z
theorem zip_map {α β:Type} {e1:α→D} {e2:β→D} {xs:List α} {ys:List β}:QH (xs.map e1) (ys.map e2)=(xs.zip ys).map fun p => .tup [e1 p.1,e2 p.2]:=by
 unfold QH
 rw [List.zipWith_map,List.zip,List.map_zipWith]
theorem ak2 {α β γ:Type} {e1:α→D} {e2:β→D} {e3:γ→D} {xs:List α} {ys:List β} {zs:List γ}:QJ (xs.map e1) (ys.map e2) (zs.map e3)=(xs.zip (ys.zip zs)).map fun p => .tup [e1 p.1,e2 p.2.1,e3 p.2.2]:=by
 unfold QJ
 rw [List.zip_map,List.zipWith_map]
 generalize ys.zip zs=ws
 rw [List.zip,List.map_zipWith]
 rfl
theorem Yi {α:Type} {e1:α→D} {xs:List α}:yx 0 (xs.map e1)=xs.zipIdx.map fun p => .tup [.int ((p.2:Nat):Int),e1 p.1]:=by
 apply List.ext_getElem?
 intro i
 rw [Ug,List.getElem?_map,List.getElem?_map,List.getElem?_zipIdx]
 cases xs[i]? with
 | none=>rfl
 | some x=>simp
theorem HY {n:Nat}:nZ 0 n=(List.range n).map fun i:Nat=>D.int (i:Int):=by
 unfold nZ
 apply List.map_congr_left
 intro i _
 rw [Int.zero_add]
def cNo:Ct:=fun _ _ _ _=>False
theorem anU {P:Program} {w:World} {K:PySem.W.Frag} {mg:Str→Option Value} {base:Heap} {CX:CXT} {x qual:Str} {st:Stmt} {f:Addr} {fd:FuncData} {k:Nat} {ps:List Str} (F:Fun K x qual st f fd) (hm:mg x=some (.ref f)) (bn:Binds K fd ps []):dW P w K mg base CX x qual st k ps cNo :=
 ⟨f,fd,F,hm,⟨fun vs H Q E h=>by obtain ⟨_,_,_,_,_,_,_,z,_⟩:=h;exact z.elim,fun A outer s H args us vs Q E hr he hb hv h=>by obtain ⟨_,_,_,_,_,_,_,z,_⟩:=h;exact z.elim⟩,bn⟩
end DL
namespace DL
open PySem PySem.Spec PyProof.Rows L2
def exH (cls:Value) (a:Addr) (d:Option Addr):HO := .ext (ExP cls a d)
theorem anV {P:Program} {w:World} {H:Hp} {h:Heap} {a:Addr} {cls:Value} {d:Option Addr} (x:ExP cls a d h):ObjOk P w H h a (exH cls a d):=by
 obtain ⟨oe,vs,e,r⟩:=x
 exact ⟨⟨oe,vs,e,r⟩,⟨oe,e⟩,fun _ _ ⟨o,v,q,z⟩ k=>⟨o,v,k o q,z⟩⟩
section
variable {X:Cx} {pins:List (Addr × Obj)} {σ:L2.St} {H:Hp} {s:Shared}
theorem track {a:Addr} {o:HO} (I:Inv X pins σ H s) (h0:X.s_0.heap.get? a=none) (na:H a=none) (nL:a≠X.env.locals) (nC:∀ y c,X.env.cells.lookup y=some c→c≠a) (nP:∀ p∈X.pn++pins,p.1≠a)
    (new:ObjOk X.prog X.w (upd H a o) s.heap a o):Inv X pins σ (upd H a o) s:=by
  have old:∀ b u,X.s_0.heap.get? b=some u→b≠a:=fun b u e z=>by rw [z,h0] at e;cases e
  have b1:=I.base
  refine { ok:=I.ok,os:=I.os,bare:=I.bare,loc:=I.loc,cell:=I.cell,len:=I.len,free := ?_,freeC := ?_,pin := ?_,hok := ?_,base := ?_ }
  · exact { keep:=b1.keep,slot:=b1.slot,there:=b1.there,free:=fun b u e n x=>by rw [upd_ne (old b u e)];exact b1.free b u e n x,
            tups:=fun b xs e=>by rw [upd_ne (ne_of_none (b1.tups b xs e) na)];exact b1.tups b xs e,frzs:=fun b u y e=>by rw [upd_ne (ne_of_none (b1.frzs b u y e) na)];exact b1.frzs b u y e,
            tbls:=fun b ps e=>by
              obtain ⟨m,q⟩:=b1.tbls b ps e
              exact ⟨m,by rw [upd_ne (ne_of_none q na)];exact q⟩ }
  · rw [upd_ne (Ne.symm nL)]
    exact I.free
  · intro y c e
    rw [upd_ne (nC y c e)]
    exact I.freeC y c e
  · intro p hp
    obtain ⟨q1,q2,q3⟩:=I.pin p hp
    exact ⟨q1,by rw [upd_ne (nP p hp)];exact q2,q3⟩
  · exact I.hok.laidN (fun _ _ e=>e) na new
end
def aoS (E:Ends) (i:Nat) (a:Addr) (cls:Value) (d:Option Addr):Ends :=
 { nx:=fun σ H=>H a=none→E.nx (σ.set i none) (upd H a (exH cls a d)),rt:=fun v H=>H a=none→E.rt v (upd H a (exH cls a d)),bk:=fun σ H=>H a=none→E.bk (σ.set i none) (upd H a (exH cls a d)),ct:=fun σ H=>H a=none→E.ct (σ.set i none) (upd H a (exH cls a d)) }
def amf (K:PySem.W.Frag) (c:Value) (i:Nat) (ts:Addr→TS) (Wo:WX) (E:Ends):WX:=fun cls d σ H =>
 ∃ b,PySem.W.exmOne K cls c=some b∧(b=true→∀ a,H a=none→ts a (aoS E i a cls d) (σ.set i (some (.ref a))) H)∧(b=false→Wo cls d σ H)
section
variable {X:Cx} {x n:Str} {c:Value} {i:Nat} {body suite:List Stmt} {b0:Stmt} {np pos pos':Pos} {tb:WX→TS} {ts:Addr→TS} {Wo:WX}
structure Ms (X:Cx) (pins:List (Addr × Obj)) (a:Addr):Prop where
 frame:a ∉ frs (X.env::X.outer)
 begin_:X.s_0.heap.get? a=none
 pinned:∀ p∈X.pn++pins,p.1≠a
 cells:∀ y cc,X.env.cells.lookup y=some cc→cc≠a
theorem Ms.locals {pins:List (Addr × Obj)} {a:Addr} (L:Ms X pins a) (own:X.env.frame=some X.env.locals):a≠X.env.locals:=by
 rintro rfl
 exact L.frame (List.mem_filterMap.mpr ⟨X.env,List.mem_cons_self,own⟩)
theorem Ms.outer {pins:List (Addr × Obj)} {a:Addr} (L:Ms X pins a):a ∉ X.fs:=by
 intro there
 obtain ⟨env,he,q⟩:=List.mem_filterMap.mp there
 exact L.frame (List.mem_filterMap.mpr ⟨env,List.mem_cons_of_mem _ he,q⟩)
theorem Ms.of {pins:List (Addr × Obj)} {a:Addr} {σ:L2.St} {H:Hp} {s:Shared} (I:Inv X pins σ H s) (hX:X.ex=[]) (frame:a ∉ frs (X.env::X.outer)) (new:s.heap.get? a=none):Ms X pins a:=by
 have absent:∀ {o},s.heap.get? a=some o→False:=fun {o} e=>by rw [new] at e;cases e
 refine ⟨frame,?_,fun p hp e => ?_,fun y cc hy e => ?_⟩
 ·cases q:X.s_0.heap.get? a with
  | none=>rfl
  | some o =>
   obtain ⟨o',e⟩:=I.base.there a o q (by rw [hX];exact List.not_mem_nil)
   exact (absent e).elim
 ·exact absent (e ▸ (I.pin p hp).1)
 ·obtain ⟨v,o,ho,_⟩:=I.cell y cc hy
  exact absent (e ▸ ho)
theorem Et {pins:List (Addr × Obj)} {a:Addr} {oe:Obj} {ve:Array Value} {cls:Value} {d:Option Addr} {σ':L2.St} {H':Hp} {s':Shared} {Q:Shared→Prop} (okX:X.Ok) (L:Ms X pins a) (own:X.env.frame=some X.env.locals) (hND:X.N.Nodup) (hix:X.N[i]? = some n) (hloc:X.env.kindOf n=some .local)
  (kind:oe.cls=cls∧oe.dict=d) (dat:oe.data = .fields ve) (S:Inv (X.suite a ((a,oe)::(X.pn++pins))) [] σ' H' s') (goal:H' a=none→∀ s7,Inv X pins (σ'.set i none) (upd H' a (exH cls a d)) s7→Q s7) :
  wpAny (model X.prog X.w) X.A (do bindName X.env n .none;unbindBehindTheSuite X.env n pos') (fun _ s7=>Q s7) X.xe s':=by
 have pin:=S.pin (a,oe) (List.mem_append_left _ List.mem_cons_self)
 exact gone_ok (track (S.unsuite okX) L.begin_ pin.2.1 (L.locals own) L.cells L.pinned (anV ⟨oe,ve,pin.1,kind.1,kind.2,dat⟩)) hND hix hloc (goal pin.2.1)
theorem ahw (hst:X.stack=X.env::X.outer) (Uk:X.env.frame=some X.env.locals) (hX:X.ex=[]) (hND:X.N.Nodup) (hix:X.N[i]? = some n) (hloc:X.env.kindOf n=some .local) (hnm:Names X x c) (tkO:Takes X Wo)
  (hbody:∀ (W:WX) (pn:List (Addr × Obj)) (xe:Value→Shared→Prop),Takes (X.tr pn xe) W→PassesOwn (model X.prog X.w) X.A X.env xe→PSs (X.tr pn xe) body (tb W))
  (hsuite:∀ (a:Addr) (oe:Obj) (pn:List (Addr × Obj)),PSs (X.suite a ((a,oe)::pn)) (b0::suite) (ts a)) :
  PS X (.Try body [.ExceptHandler (some (.Name x np)) (some n) (b0::suite) pos'] [] [] pos) (fun E σ H=>tb (amf X.K c i ts Wo E) E σ H):=by
 constructor
 intro pins s σ H E I h
 have okX:=I.ok
 refine wpAny_Try_except (wpAny_mono ((hbody (amf X.K c i ts Wo E) (X.pn++pins) _ ?caught PassesOwn.looking).run [] s σ H E (I.toTry _) h) ?through fun _ _ he=>he)
 case through =>
  intro f s1 fin
  match f,fin with
  | .next,⟨_,_,J,q⟩=>exact wpAny_execs_nil ⟨_,_,J.ofTry okX,q⟩
  | .brk,⟨_,_,J,q⟩=>exact ⟨_,_,J.ofTry okX,q⟩
  | .cont,⟨_,_,J,q⟩=>exact ⟨_,_,J.ofTry okX,q⟩
  | .ret _,⟨_,_,_,J,r,q⟩=>exact ⟨_,_,_,J.ofTry okX,r,q⟩
 case caught =>
  rintro u s' ⟨a,B,sI,_,σ1,H1,cls,d,rfl,K0,ground,ups,air,na,os,ag,b,hb,yes,no⟩
  have K1:=K0.ofTry okX
  rw [show (X.tr (X.pn++pins) _).stack=X.env::X.outer from hst] at air
  show wpAny (model X.prog X.w) X.A (noteFrame (.ref a) X.env) _ _ _
  refine Sky.land Zc.steady (okX.frames.trans (by rw [hst])) Uk air fun h3 fl3 up3 => ?_
  have K3:Inv X pins σ1 H1 { s' with heap:=h3 }:=K1.landed ground fl3.1 (ups.trans up3) os ag
  obtain ⟨o3,v3,g3,z3,d3⟩:=fl3.there
  have frame:a ∉ frs (X.env::X.outer):=fun there=>by
   obtain ⟨_,o',e',ap5⟩:=fl3.2.2.1.mem there
   rw [g3] at e'
   cases e'
   exact ap5 _ d3
  have L:Ms X pins a := .of K1 hX frame (by
   cases q:sI.heap.get? a with
   | none=>rfl
   | some o =>
    have:=ground a o q (by rw [show (X.tr (X.pn++pins) _).stack=X.env::X.outer from hst];exact frame)
    rw [fl3.2.1] at this
    cases this)
  have S3:=K3.suite g3 d3 na (L.locals Uk) L.outer
  have name:∀ {Q:Value→Shared→Prop} {F:Value→Shared→Prop},Q c { s' with heap:=h3 }→wpAny (model X.prog X.w) (X.A.mark (some (.ref a))) (eval (.Name x np) X.env) Q F { s' with heap:=h3 }:=by
   intro Q F q
   rcases hnm with ⟨gl,db,m | ⟨m,v,nn⟩⟩
   ·exact ld_glob (X:=X.suite a _) S3 gl m q db
   ·exact ld_blt (X:=X.suite a _) S3 gl m v q nn db
  have kind:=PySem.W.exm_one (M:=model X.prog X.w) K3.kIn (fun A Q E s k q=>wpAny_typeOf_ref (k _ _ g3) (z3.1.symm ▸ q)) hb
  refine wpAny_handleBy_cons (codeAny_handlers_test (name (kind.here ?_))) (fun z=>by cases z)
  match b with
  | false =>
   have pass:wpAny (model X.prog X.w) X.A (setFlight (.ref a) X.env.frame) (fun _ s4=>wpAny (model X.prog X.w) X.A (throw (.ref a):Sem Flow) (SP X pins E) X.xe s4) X.xe { s' with heap:=h3 }:=by
    rw [Uk]
    exact HandSPX.setFlight_upZ fl3 fun h4 hh4 up4=>wpAny_throw (tkO _ _ ⟨a,B,sI,pins,σ1,H1,cls,d,rfl,K1,ground,(ups.trans up3).trans up4,.inr (.inr (by rw [hst];exact hh4)),na,os,ag,no rfl⟩)
   obtain ⟨_,_,_,oe,vs,T,oT,ts',he,hz,hd,h1,hr⟩:=id fl3
   refine wpAny_handleBy_nil ?_
   unfold PySem.passOn
   refine wpAny_bind (wpAny_field he hd h1 ?_)
   rw [if_neg (show ¬ ((Value.ref T == Value.none)=true) by simp)]
   first | exact wpAny_bind (wpAny_pure (wpAny_bind pass)) | exact wpAny_bind pass
  | true =>
   refine codeAny_handlers_suite_as (HandSPX.lands_againZ fl3 fun h4 fl4 up4 => ?_)
   have K4:Inv X pins σ1 H1 { s' with heap:=h4 }:=K1.landed ground fl4.1 ((ups.trans up3).trans up4) os ag
   obtain ⟨o4,v4,g4,z4,d4⟩:=fl4.there
   refine store_ok (X:=X.suite a ((a,o4)::(X.pn++pins))) (v := .ref a) (K4.suite g4 d4 na (L.locals Uk) L.outer) hND hix (Or.inl hloc) rfl (fun s5 S5 => ?_) (.inr hloc)
   refine wpAny_mono ((hsuite a o4 (X.pn++pins)).run [] s5 _ H1 _ S5 (yes rfl a na)) (fun f s6 fin => ?_) fun _ _ z=>z.elim
   match f,fin with
   | .next,⟨_,_,S6,q⟩=>exact Et okX L Uk hND hix hloc z4 d4 S6 fun k s7 J=>⟨_,_,J,q k⟩
   | .brk,⟨_,_,S6,q⟩=>exact Et okX L Uk hND hix hloc z4 d4 S6 fun k s7 J=>⟨_,_,J,q k⟩
   | .cont,⟨_,_,S6,q⟩=>exact Et okX L Uk hND hix hloc z4 d4 S6 fun k s7 J=>⟨_,_,J,q k⟩
   | .ret _,⟨_,_,_,S6,r,q⟩=>exact Et okX L Uk hND hix hloc z4 d4 S6 fun k s7 J=>⟨_,_,_,J,r,q k⟩
end
def Q5 (i:Nat) (a:Addr) (c:C) (R:Sl→M→Prop) (δ:Sl) (μ:M):Prop:=R (δ.set i none) (cC μ a c)
def Ul (a:Addr) (c:C) (R:QD) (d:D) (μ:M):Prop:=R d (cC μ a c)
def ZX (i:Nat) (a:Addr) (c:C) (E:bM):bM:={ nx:=Q5 i a c E.nx,rt:=Ul a c E.rt,bk:=Q5 i a c E.bk,ct:=Q5 i a c E.ct,xc:=fun _=>XF }
def aoT (K:PySem.W.Frag) (c:Value) (i:Nat) (ts:Addr→bh) (E:bM) (δ:Sl) (cls:Value) (fs:Option (List (Str × D))) (μ:M):Prop:=∃ b,PySem.W.exmOne K cls c=some b ∧
 (b=true→∀ a,μ a=none→ts a (ZX i a (.exc cls fs) E) (δ.set i (some (.raw (.ref a)))) μ)∧(b=false→E.xc δ cls fs μ)
def Mu (K:PySem.W.Frag) (c:Value) (i:Nat) (tb:bh) (ts:Addr→bh) (E:bM) (δ:Sl) (μ:M):Prop:=tb { E with xc:=aoT K c i ts E } δ μ
theorem Mv {K:PySem.W.Frag} {H Hc:Hp} {μ:M} {a:Addr} {cls:Value} {d:Option Addr} {fs:Option (List (Str × D))} (s:Split K H Hc μ) (n:H a=none) (xo:XOk K Hc d fs):Split K (upd H a (exH cls a d)) Hc (cC μ a (.exc cls fs)) :=
 s.new n (c := .exc cls fs) ⟨ExP cls a d,d,rfl,fun _ h=>h,xo⟩
theorem abO {X:Cx} {W:WX} {x n:Str} {c:Value} {i:Nat} {body suite:List Stmt} {b0:Stmt} {np pos pos':Pos} {tb:bh} {ts:Addr→bh} (hN:X.N.Nodup) (hc:Names X x c) (tk:Takes X W)
  (hb:∀ (W':WX) (pn:List (Addr × Obj)) (xe:Value→Shared→Prop),Takes (X.tr pn xe) W'→PassesOwn (model X.prog X.w) X.A X.env xe→pX (X.tr pn xe) W' body tb)
  (hsu:∀ (a:Addr) (pn:List (Addr × Obj)),pX (X.suite a pn) W0 (b0::suite) (ts a)) (hs:X.stack=X.env::X.outer:=by rfl) (hf:X.env.frame=some X.env.locals:=by rfl) (hx:X.ex=[]:=by rfl) (hi:X.N[i]? = some n:=by rfl) (hln:X.env.kindOf n=some .local:=by rfl) :
  DS X W (.Try body [.ExceptHandler (some (.Name x np)) (some n) (b0::suite) pos'] [] [] pos) (Mu X.K c i tb ts) :=
 PS.imp (ahw (i:=i) (tb:=fun W'=>upS X.K W' tb) (ts:=fun a=>upS X.K W0 (ts a)) (Wo:=W) hs hf hx hN hi hln hc tk (fun W' pn xe tk' po=>hb W' pn xe tk' po) (fun a oe pn=>hsu a ((a,oe)::pn)))
  fun D σ H ⟨δ,μ,Hc,Dd,s,rs,h,rt⟩=>⟨δ,μ,Hc,_,s,rs,h,⟨rt.nx,rt.rt,rt.bk,rt.ct,fun δ1 cls fs μ1 hx σ1 d H1 cA e1 s1 rs1 xo=>by
   obtain ⟨b,hb,h1,h2⟩:=hx
   refine ⟨b,hb,fun hb1 a ha => ?_,fun hb0=>rt.xc _ _ _ _ (h2 hb0) _ _ _ _ e1 s1 rs1 xo⟩
   refine ⟨_,μ1,cA,_,s1,rs1.set i (.raw _),h1 hb1 a (s1.fresh ha).1,?_⟩
   refine ⟨fun δ2 μ2 q2 σ2 H2 dw e2 s2 rs2 n => ?_,fun d2 μ2 q2 v2 H2 dw e2 s2 r2 n => ?_,fun δ2 μ2 q2 σ2 H2 dw e2 s2 rs2 n => ?_,fun δ2 μ2 q2 σ2 H2 dw e2 s2 rs2 n => ?_,fun _ _ _ _ z=>z.elim⟩
   ·exact rt.nx _ _ q2 _ _ _ (e1.trans e2) (Mv s2 n (xo.mono e2)) (rs2.unset i none)
   ·exact rt.rt _ _ q2 _ _ _ (e1.trans e2) (Mv s2 n (xo.mono e2)) r2
   ·exact rt.bk _ _ q2 _ _ _ (e1.trans e2) (Mv s2 n (xo.mono e2)) (rs2.unset i none)
   ·exact rt.ct _ _ q2 _ _ _ (e1.trans e2) (Mv s2 n (xo.mono e2)) (rs2.unset i none)⟩⟩
end DL
namespace DL
open PySem PySem.Spec PyProof.Rows L2
structure FW (K:PySem.W.Frag) (C:Addr):Prop where
 cl:(PySem.W.clsIn K C).isSome=true
 ga:PySem.W.findIn K (.ref C) "__getattribute__" = some (some (.builtin "BaseException.__getattribute__"))
 gt:PySem.W.findIn K (.ref C) "__getattr__" = some none
 sb:PySem.W.subIn K (.ref C) (.type "BaseException")=some true
 ca:PySem.W.findIn K (.ref C) "__class__" = some (some (.builtin "object.__class__"))
 sp:PySem.W.specialIn K (.builtin "object.__class__") "__get__" = some (some (.builtin "getset_descriptor.__get__"))
 tk:PySem.W.takesIn K (.builtin "object.__class__")=some true
 mo:PySem.W.mroIn K C (.type "object")=some true
 hd:PySem.W.hasDictIn K C=true
def ahx:V→Option Value
 | .ref C=>some (.ref C)
 | .ty T=>some (.type T)
 | _=>none
theorem ajj {v:V} {cv u:Value} (h:ahx v=some cv) (r:RelV v u):u=cv:=by
 cases v with
 | ref C=>cases h;exact r
 | ty T=>cases h;exact r
 | _=>cases h
def Z0:List V→Option (List Value)
 | []=>some []
 | v::vs=>match ahx v,Z0 vs with
  | some c,some cs=>some (c::cs)
  | _,_=>none
theorem agW:∀ {vs:List V} {cs us:List Value},Z0 vs=some cs→Vals vs us→us=cs
 | [],_,_,h,r=>by cases h;cases r;rfl
 | v :: vs, cs, _, h, .cons r rr => by
  unfold Z0 at h
  split at h
  ·rename_i c cs' e1 e2
   cases h
   rw [ajj e1 r,agW e2 rr]
  ·cases h
def ExT (K:PySem.W.Frag) (H:Hp) (a C:Addr) (d:Option Addr):Prop:=∃ φ,H a=some (.ext φ)∧(∀ h,φ h→ExP (.ref C) a d h)∧(∀ dd,d=some dd→∃ fs,H dd=some (.xd fs))
theorem aeD {X:Cx} {pins:List (Addr × Obj)} {σ:L2.St} {H:Hp} {s:Shared} {a C:Addr} {d:Option Addr} (I:Inv X pins σ H s) (t:ExT X.K H a C d):∃ oe od,PySem.W.InstAt s.heap a oe C od∧∀ dd,d=some dd→∃ o,od=some o∧s.heap.get? dd=some o:=by
 obtain ⟨φ,ha,hφ,hd⟩:=t
 have ok:ObjOk X.prog X.w H s.heap a (.ext φ):=I.hok a _ ha
 obtain ⟨oe,vs,e1,e2,e3,e4⟩:=hφ _ ok.1
 have nc:PySem.W.notCls oe=true:=by unfold PySem.W.notCls;rw [e4]<;>rfl
 cases d with
 | none=>exact ⟨oe,none,⟨e1,e2,nc,by rw [e3];trivial⟩,fun dd z=>by cases z⟩
 | some dd =>
  obtain ⟨fs,hf⟩:=hd dd rfl
  have ox:ObjOk X.prog X.w H s.heap dd (.xd fs):=I.hok dd _ hf
  obtain ⟨mA,hns,_⟩:=ox
  obtain ⟨od,ho,_⟩:=lookIn_ns hns
  exact ⟨oe,some od,⟨e1,e2,nc,by rw [e3];exact ho⟩,fun d' z=>by cases z;exact ⟨od,rfl,ho⟩⟩
def anW (K:PySem.W.Frag):List V→Hp→VK→Prop:=fun xs H Q=>∃ (a C:Addr) (d:Option Addr) (b:Bool),ExT K H a C d∧FW K C∧Q (.bl b) H ∧
 ((∃ c cv,xs=[.ref a,c]∧ahx c=some cv∧PySem.W.kitOne K (.ref C) cv=some b)∨(∃ t cs cvs,xs=[.ref a,.ref t]∧SqT K H t cs∧Z0 cs=some cvs∧PySem.W.kitAny K (.ref C) cvs=some b))
theorem Q6 {X:Cx}:CallR X (.builtin "isinstance") (anW X.K):=by
 intro pins s σ H xs us Q I r h
 obtain ⟨a,C,d,b,hT,hC,q,h⟩:=h
 obtain ⟨oe,od,J,_⟩:=aeD I hT
 rcases h with ⟨c,cv,rfl,hcv,e⟩ | ⟨t,cs,cvs,rfl,ht,hcs,e⟩
 ·cases r with
  | cons r1 rr =>
   cases rr with
   | cons r2 rr =>
    cases rr
    cases r1
    rw [ajj hcv r2]
    exact PySem.W.kia_one (PySem.W.kitx_exc hC.cl hC.ga hC.gt hC.sb hC.ca hC.sp hC.tk hC.mo) I.kIn J e (fun z=>nomatch z) fun tk=>⟨.bl b,H,I.kept (t':=tk) fun _ _ z=>z,rfl,q⟩
 ·cases r with
  | cons r1 rr =>
   cases rr with
   | cons r2 rr =>
    cases rr
    cases r1
    cases r2
    obtain ⟨its,rv,it,_⟩:=qG (k := .t) I ht
    have ec:=agW hcs rv
    subst ec
    obtain ⟨o,e1,e2,n,e3⟩:=it
    obtain ⟨oc,od',oda,osl⟩:=o
    have e2':oc = .type "tuple" := e2
    have e3':oda = .seq its.toArray n:=e3
    subst e2' e3'
    exact PySem.W.kia_tup (PySem.W.kitx_exc hC.cl hC.ga hC.gt hC.sb hC.ca hC.sp hC.tk hC.mo) I.kIn J e1 e (fun z=>nomatch z) fun tk=>⟨.bl b,H,I.kept (t':=tk) fun _ _ z=>z,rfl,q⟩
def Z4:List D→Option (List V)
 | []=>some []
 | .raw v::ds=>(Z4 ds).map (v :: ·)
 | _=>none
theorem aeE {K:PySem.W.Frag} {H:Hp}:∀ {vs:List V} {ds:List D} {ws:List V},bH K H vs ds→Z4 ds=some ws→vs=ws
 | _,[],_,.nil,h=>by cases h;rfl
 | _,d::ds,ws,.cons r rr,h=>by
  cases d with
  | raw v =>
   have ev:=zL r
   subst ev
   have h':(Z4 ds).map (_ :: ·)=some ws:=h
   obtain ⟨w,e1,e2⟩:=Option.map_eq_some_iff.mp h'
   rw [aeE rr e1]
   exact e2
  | _=>cases h
inductive ahy (K:PySem.W.Frag) (cls:Value) (b:Bool):D→Prop
 | one {v:V} {cv:Value}:ahx v=some cv→PySem.W.kitOne K cls cv=some b→ahy K cls b (.raw v)
 | any {ds:List D} {vs:List V} {cvs:List Value}:Z4 ds=some vs→Z0 vs=some cvs→PySem.W.kitAny K cls cvs=some b→ahy K cls b (.tup ds)
def aeF (K:PySem.W.Frag):Ad:=fun ds μ Q=>∃ a C fs b d,ds=[.raw (.ref a),d]∧μ a=some (.exc (.ref C) fs)∧FW K C∧ahy K (.ref C) b d∧Q (.bl b) μ
theorem ajk {K:PySem.W.Frag} {H Hc:Hp} {μ:M} {a C:Addr} {fs:Option (List (Str × D))} (s:Split K H Hc μ) (h:μ a=some (.exc (.ref C) fs)):∃ d,ExT K H a C d∧XOk K Hc d fs:=by
 obtain ⟨_,o,ho,φ,d,rfl,hφ,xo⟩:=s.cell a _ h
 refine ⟨d,⟨φ,ho,hφ,fun dd z => ?_⟩,xo⟩
 subst z
 cases fs with
 | none=>exact xo.elim
 | some fs =>
  obtain ⟨vs,hv,_⟩:=xo
  exact ⟨vs,s.same _ _ hv⟩
theorem adQ {K:PySem.W.Frag}:pZ K (anW K) (aeF K):=by
 intro vs ds H Hc μ Q Qd s ra h rt
 obtain ⟨a,C,fs,b,d,rfl,hm,hC,hk,hq⟩:=h
 obtain ⟨v,u,rfl,r1,r2⟩:=ra.NK
 cases zL r1
 obtain ⟨dd,hT,_⟩:=ajk s hm
 refine ⟨a,C,dd,b,hT,hC,rt.val s (.bl _) hq,?_⟩
 cases hk with
 | one h1 h2=>exact .inl ⟨_,_,by rw [zL r2],h1,h2⟩
 | any h1 h2 h3 =>
  cases r2 with
  | tup hs hr =>
   have e:=aeE hr h1
   subst e
   exact .inr ⟨_,_,_,rfl,xQ s.same hs,h2,h3⟩
def kXf (K:PySem.W.Frag) (f:Str) (Q:QD) (d:D) (μ:M):Prop:=∃ a C fs v,d = .raw (.ref a)∧μ a=some (.exc (.ref C) (some fs))∧FW K C∧PySem.W.findIn K (.ref C) f=some none∧fs.lookup f=some v∧Q v μ
def Um (K:PySem.W.Frag) (f:Str) (te:bZ) (W:XD) (δ:Sl) (μ:M) (Q:QD):Prop:=te W δ μ (kXf K f Q)
theorem jJ.look {K:PySem.W.Frag} {H:Hp} {f:Str} {d:D}:∀ {vs:List (Str × V)} {fs:List (Str × D)},jJ K H vs fs→fs.lookup f=some d→∃ v,vs.lookup f=some v∧Rep K H v d
 | _,_,.nil,h=>by cases h
 | _,_,.cons (x:=x) r rr,h=>by
  rw [List.lookup_cons] at h ⊢
  split at h
  ·cases h
   exact ⟨_,rfl,r⟩
  ·exact jJ.look rr h
def tXk (K:PySem.W.Frag) (f:Str) (te:TE):TE:=fun σ H Q=>te σ H fun x H1=>∃ a C dd fs v,x = .ref a∧ExT K H1 a C (some dd)∧FW K C∧PySem.W.findIn K (.ref C) f=some none∧H1 dd=some (.xd fs)∧fs.lookup f=some v∧Q v H1
theorem aoU {X:Cx} {e:Expr} {te:TE} {pos:Pos} {f:Str} (he:PE X e te) (hb:attributeBase e f X.env (eval e X.env)=eval e X.env:=by rfl):PE X (.Attribute e f pos) (tXk X.K f te):=by
 refine ⟨fun pins s σ H Q I h => ?_⟩
 refine attr_of hb (thn (he.run pins s σ H _ I h) fun u s1 hh => ?_)
 obtain ⟨x,H1,I1,rx,a,C,dd,fs,v,rfl,hT,hC,hn,ea,l,q⟩:=hh
 obtain rfl:u=Value.ref a:=rx
 obtain ⟨oe,od,J,hod⟩:=aeD I1 hT
 obtain ⟨o,rfl,ho⟩:=hod dd rfl
 have hx:ObjOk X.prog X.w H1 s1.heap dd (.xd fs):=I1.hok dd _ ea
 obtain ⟨mA,hns,hr⟩:=hx
 obtain ⟨od',ho',hl⟩:=lookIn_ns hns
 have eo:=ho.symm.trans ho'
 cases eo
 obtain ⟨u,hu,ru⟩:=RelO.some_of (v:=v) (o:=mA f) (by rw [← l];exact hr f)
 exact HandSPX.exc_get I1.kIn J hC.ga hC.gt hC.sb (PySem.W.findObj_own hC.hd hn rfl (by rw [hl,hu])) (handed_of ru) ⟨v,H1,I1.tok _,ru,q⟩
theorem Wv {X:Cx} {W:WX} {e:Expr} {te:bZ} {pos:Pos} {f:Str} (he:DE X W e te) (hb:attributeBase e f X.env (eval e X.env)=eval e X.env:=by rfl):DE X W (.Attribute e f pos) (Um X.K f te) :=
 PE.imp (aoU he hb) fun σ H Q ⟨δ,μ,Hc,Qd,Xd,s,rs,h,rt,rx⟩=>⟨δ,μ,Hc,_,Xd,s,rs,h,fun d μ1 h1 v H1 cA e1 s1 r1=>by
  obtain ⟨a,C,fs,w,rfl,hm,hC,hn,hl,hq⟩:=h1
  cases zL r1
  obtain ⟨dd,hT,xo⟩:=ajk s1 hm
  cases dd with
  | none=>exact xo.elim
  | some dd =>
   obtain ⟨vs,hv,rf⟩:=xo
   obtain ⟨u,hu,ru⟩:=rf.look hl
   exact ⟨a,C,dd,vs,u,rfl,hT,hC,hn,s1.same _ _ hv,hu,(rt.mono e1).val s1 ru hq⟩,rx⟩
theorem aeG {X:Cx} {W:WX} {x:Str} {C:Addr} {pos:Pos} (hm:X.mg x=some (.ref C)) (hg:Gl X x:=by rfl) (hd:(x == ("__debug__" : Str))=false:=by decide):DE X W (.Name x pos) (dC (.raw (.ref C))):=agS (v := .ref C) hg hm rfl (fun _ => .raw _) hd
end DL
namespace DL
open PySem PySem.Spec PyProof.Rows L2
structure FnG (P:Program) (w:World) (K:PySem.W.Frag) (mg:Str→Option Value) (base:Heap) (CX:CXT) (k:Nat) (f:Addr) (fd:FuncData) (ps:List Str) (sp:Sp):Prop where
 len:∀ vs H Q E,sp vs H Q E→vs.length=ps.length
 run:∀ (A:Around) (outer:List Env) (s:Shared) (H:Hp) (args:Args) (us:List Value) (vs:List V) (Q:VK) (E:XK),A.guards=some []→Room k A→Env0 P w K mg base A outer s H→BindsTo s fd args (ps.zip us)→Vals vs us→sp vs H Q E →
  codeAny (model P w) A (.call (.ref f) args) (CR CX outer P w H s Q E) s
theorem FnG.of {P:Program} {w:World} {K:PySem.W.Frag} {mg:Str→Option Value} {base:Heap} {CX:CXT} {k:Nat} {f:Addr} {fd:FuncData} {ps:List Str} {sp:Sp} (F:FnOk P w K mg base CX k f fd ps sp):FnG P w K mg base CX k f fd ps sp :=
 ⟨F.len,fun A outer s H args us vs Q E _=>F.run A outer s H args us vs Q E⟩
structure Uo (K:PySem.W.Frag) (a:Addr) (vs:List Value) (h:Heap) (H:Hp):Prop where
 list:h.get? a=some { cls := .type "list",data := .seq vs.toArray }
 lone:∀ b u,H b=some u→b=a
 apart:∀ u,H a=some u→K.lookup a=none
section
variable {K:PySem.W.Frag} {a:Addr} {vs:List Value} {h:Heap} {H:Hp}
theorem Uo.free (L:Uo K a vs h H) {b:Addr} (away:b=a→False):H b=none:=by
 cases e:H b with
 | none=>rfl
 | some u=>exact (away (L.lone b u e)).elim
theorem Uo.ns (L:Uo K a vs h H) {b:Addr} {m:Str→Option Value} (n:h.Ns b m):(hidT h H).Ns b m:=by
 obtain ⟨o,es,ep,here,dict,rest⟩:=n
 have away:b=a→False:=by
  rintro rfl
  rw [L.list] at here
  cases here
  cases dict
 exact ⟨o,es,ep,hidT_get here (L.free away),dict,rest⟩
theorem Uo.kin (L:Uo K a vs h H) (inK:K.In h):K.In (hidT h H):=fun b o e=>hidT_get (inK b o e) (by
 cases q:H b with
 | none=>rfl
 | some u =>
  have eb:=L.lone b u q
  rw [eb] at e q
  rw [L.apart u q] at e
  cases e)
theorem Uo.env {P:Program} {w:World} {mg mb:Str→Option Value} {s:Shared} (L:Uo K a vs s.heap H) (inK:K.In s.heap) (glo:s.heap.Ns mainGlobals mg) (blt:s.heap.Ns builtinsNs mb) (boot:∀ x:Str,x≠"__name__" → mb x=bootBuiltins x)
  (noL:s.heap.NoLimit) (aoV:s.gens = #[]) (hok:HOk P w H s.heap):Env0 P w K mg (hidT s.heap H) callerA [] s H:=by
 obtain ⟨mc,c1,c2⟩:=noL
 have m:Mod K mg (hidT s.heap H):=⟨L.kin inK,L.ns glo,⟨mb,L.ns blt,boot⟩,⟨mc,L.ns c1,c2⟩⟩
 constructor
 case mod=>exact m
 case hok=>exact hok
 case bs=>exact fun b o e=>of_hidT e
 case bsz=>exact Nat.le_of_eq (hidT_size _ _)
 case bare=>exact .of_eq aoV
 case frf=>exact fun b hb=>(List.not_mem_nil hb).elim
 all_goals first | rfl | trivial
end
end DL
namespace DL
open PySem PySem.Spec PyProof.Rows L2
section
variable {X:Cx} {W:WX} {a b:Expr} {ta tb:bZ} {pos:Pos}
end
mutual
def rsz:D→Nat
 | .int i=>i.natAbs.log2+3
 | .str x=>(reprText x).length
 | .lst xs=>2+JD xs
 | .tup xs=>3+JD xs
 | _=>5
def JD:List D→Nat
 | []=>0
 | x::xs=>rsz x+2+JD xs
end
def lens:List Str→Nat
 | []=>0
 | x::xs=>x.length+2+lens xs
theorem Xv:∀ (ts:List Str) (k:Nat) (acc:Str),(textFrom k acc ts).length≤acc.length+lens ts
 | [],_,_=>Nat.le_refl _
 | t::ts,k,acc=>by
  have h:=Xv ts (k+1) (acc++(if k > 0 then ", " else "" : String)++t)
  rw [strLen_append,strLen_append] at h
  have e:(((if k > 0 then ", " else "" : String):Str)).length≤2:=by split<;>decide
  show (textFrom (k+1) (acc++(if k > 0 then ", " else "" : String)++t) ts).length≤acc.length+(t.length+2+lens ts)
  omega
theorem join_le:∀ ts:List Str,(Str.join ", " ts).length≤lens ts
 | []=>Nat.le_refl _
 | [x]=>by show x.length≤x.length+2+0;omega
 | x::y::r=>by
  have ih:=join_le (y::r)
  show (x++(", " : Str)++Str.join ", " (y::r)).length≤x.length+2+lens (y::r)
  rw [strLen_append,strLen_append]
  have e:((", " : Str)).length=2:=by decide
  omega
theorem afY (i:Int):((toString i:String):Str).length≤i.natAbs.log2+3:=by
 have h:=int_text_length_le (a:=i) (k:=i.natAbs.log2+1) (by omega) (by omega)
 rw [PySem.ofString_length]
 omega
mutual
theorem shown_le:∀ (n:Nat) (d:D),okN n d=true→(toP d).shown.length≤rsz d
 | n,.non,_=>by decide
 | n,.bl b,_=>by cases b<;>decide
 | n,.int i,_=>afY i
 | n,.str x,_=>Nat.le_refl _
 | 0,.lst xs,h=>by simp [okN] at h
 | 0,.tup xs,h=>by simp [okN] at h
 | n+1,.lst xs,h=>by
  have h1:=Uq n xs (by simpa [okN] using h)
  have h2:=Xv (PyData.shownAll (lC xs)) 0 "["
  show (textFrom 0 "[" (PyData.shownAll (lC xs))++"]").length≤2+JD xs
  rw [strLen_append]
  have e1:(("[" : String):Str).length=1:=by decide
  have e2:(("]" : String):Str).length=1:=by decide
  omega
 | n+1,.tup xs,h=>by
  have h1:=Uq n xs (by simpa [okN] using h)
  have h2:=join_le (PyData.shownAll (lC xs))
  show (("(" : Str)++Str.join ", " (PyData.shownAll (lC xs))++(if (PyData.shownAll (lC xs)).length == 1 then ",)" else ")" : String)).length≤3+JD xs
  rw [strLen_append,strLen_append]
  have e1:(("(" : String):Str).length=1:=by decide
  have e2:(((if (PyData.shownAll (lC xs)).length == 1 then ",)" else ")" : String)):Str).length≤2:=by split<;>decide
  omega
 | n,.dJ _,h=>by cases n<;>simp [okN] at h
 | n,.raw _,h=>by cases n<;>simp [okN] at h
 | n,.emp,h=>by cases n<;>simp [okN] at h
 | n,.key _,h=>by cases n<;>simp [okN] at h
theorem Uq:∀ (n:Nat) (xs:List D),(∀ d∈xs,okN n d=true)→lens (PyData.shownAll (lC xs))≤JD xs
 | _,[],_=>Nat.le_refl _
 | n,x::xs,h=>by
  have h1:=shown_le n x (h x List.mem_cons_self)
  have h2:=Uq n xs fun d hd=>h d (List.mem_cons_of_mem _ hd)
  show (toP x).shown.length+2+lens (PyData.shownAll (lC xs))≤rsz x+2+JD xs
  omega
end
section
variable {P:Program} {w:World} {K:PySem.W.Frag} {mg:Str→Option Value} {base:Heap} {x qual:Str} {st:Stmt} {f:Addr} {fd:FuncData} {N ps:List Str} {k n m:Nat} {c:Ct} {t:bh}
end
section
variable {X:Cx} {W:WX} {e:Expr} {es:List Expr} {pos p:Pos} {tr:iU} {CX:CXT} {x qual:Str} {st:Stmt} {k:Nat} {ps:List Str} {c:Ct}
end
end DL
namespace DL
open PySem PySem.Spec PyProof.Rows L2
theorem Xw:∀ {xs:List D},(∀ d∈xs,(toP d).plain=true)→PyData.plainAll (lC xs)=true
 | [],_=>rfl
 | x::xs,h=>by
  show ((toP x).plain && PyData.plainAll (lC xs))=true
  rw [h x List.mem_cons_self,Xw fun d hd=>h d (List.mem_cons_of_mem _ hd)]
  rfl
end DL
namespace DL
open PySem PySem.Spec PyProof.Rows L2
def Ib (lo hi st:Option Int) (n:Nat):List Nat:=sliceRange (sliceBounds lo hi st n).1 (sliceBounds lo hi st n).2.1 (sliceBounds lo hi st n).2.2
def ap6 (K:PySem.W.Frag) (te:TE) (tl th ts:TO):TE:=fun σ H Q=>te σ H fun x H1=>tl σ H1 fun lo H2=>th σ H2 fun hi H3=>ts σ H3 fun st H4=>∃ a xs,x = .ref a∧SqL K H4 a xs∧st≠some 0 ∧
 ∀ p,H4 p=none→Q (.ref p) (upd H4 p (.lst (pick (Ib lo hi st xs.length) xs)))
theorem ajl {X:Cx} {e st:Expr} {lo hi:Option Expr} {te:TE} {tl th ts:TO} {p2 pos:Pos} (he:PE X e te) (hl:PO X lo tl) (hu:PO X hi th) (hs:PO X (some st) ts):PE X (.Subscript e (.Slice lo hi (some st) p2) pos) (ap6 X.K te tl th ts):=by
 refine ⟨fun pins s σ H Q I h => ?_⟩
 refine Subscript_ (thn (he.run pins s σ H _ I h) fun v s1 ⟨x,H1,I1,r1,q1⟩ => ?_)
 refine wpAny_Slice (thn (hl.run pins s1 σ H1 _ I1 q1) fun vl s2 ⟨l,H2,I2,pl,q2⟩=>thn (hu.run pins s2 σ H2 _ I2 q2) fun vu s3 ⟨u,H3,I3,pu,q3⟩=>thn (hs.run pins s3 σ H3 _ I3 q3) fun vs s4 ⟨o,H4,I4,ps,q4⟩ => ?_)
 obtain ⟨a,xs,ex,hx,h0,q⟩:=q4
 subst ex
 cases r1
 have I5:Inv X pins σ H4 { s4 with heap:=s4.heap.push { cls := .type "slice",data := .fields #[vl,vu,vs] } }:=I4.kept (t':=s4.toks) fun b ob q=>Heap.get?_push_of_some _ q
 obtain ⟨its,r,ht,hz⟩:=I5.list hx
 have hlen:=r.length
 show wpAny (model X.prog X.w) X.A (subscriptTail e (.Slice lo hi (some st) p2) (.ref a) (.ref s4.heap.objs.size)) (EP X pins σ Q) X.xe { s4 with heap:=s4.heap.push { cls := .type "slice",data := .fields #[vl,vu,vs] } }
 refine tail_any (ops:=[.ref a,.ref s4.heap.objs.size]) ht.isList.typeIs (PySem.slot_list_getitem.lookup) ?_ (by with_unfolding_all rfl)
 refine wpAny_getItem_list_slice ht.isList (Heap.IsSliceOf.new _ vl vu vs) pl pu ps h0 ?_ (by rw [List.size_toArray];omega)
 have e:slicePick its.toArray l u o=(pick (Ib l u o xs.length) its).toArray:=by
  unfold slicePick pick Ib
  rw [List.size_toArray,hlen]
  have ef:(fun i:Nat=>its.toArray[i]?)=fun i:Nat=>its[i]? := funext fun i=>by simp
  rw [ef]
 rw [e]
 refine ⟨.ref _,_,I5.laid (t':=s4.toks) (o := .lst (pick (Ib l u o xs.length) xs)) (fun b ob q=>Heap.get?_push_of_some _ q) (Nat.le_refl _) ?_,rfl,q _ (I5.hok.fresh (Nat.le_refl _))⟩
 refine ⟨?_,_,0,Mf r _,Heap.get?_push_size _ rfl⟩
 have l1:=slicePick_size_le its.toArray l u o
 rw [e,List.size_toArray,List.size_toArray] at l1
 rw [(Mf r _).length]
 omega
theorem ajm {w n m:Nat} (hn:1≤n) (hw:w<m):Ib (some (w:Int)) none (some (n:Int)) m=(List.range ((m - w+(n - 1)) / n)).map fun k=>w+n*k:=by
 unfold Ib sliceBounds sliceRange
 simp only [Option.getD_some]
 have h1:(n:Int) > 0:=by omega
 have h2:¬ ((w:Int)<0):=by omega
 have h3:max (0:Int) (min (w:Int) (m:Int))=w:=by omega
 simp only [h1,h2,if_true,if_false,h3]
 have h4:(w:Int)<(m:Int):=by omega
 simp only [h4,if_true]
 have e:((m:Int) - w+n - 1) / n=(((m - w+(n - 1)) / n:Nat):Int):=by
  rw [Int.natCast_ediv]
  congr 1
  omega
 rw [e,Int.toNat_natCast]
 refine List.map_congr_left fun k _ => ?_
 have:(w:Int)+(n:Int)*(k:Int)=((w+n*k:Nat):Int):=by push_cast;rfl
 rw [this,Int.toNat_natCast]
def abP (Q:QD) (x:D) (lo hi st:Option Int) (μ:M):Prop:=match view μ x with
 | .lst xs=>st≠some 0∧Q (.lst (pick (Ib lo hi st xs.length) xs)) μ
 | _=>False
def Ww (Q:QD) (x:D) (lo hi:Option Int) (st:Option Int) (μ:M):Prop:=abP Q x lo hi st μ
def Z5 (ts:Uh) (W:XD) (δ:Sl) (Q:QD) (x:D) (lo:Option Int) (hi:Option Int) (μ:M):Prop:=ts W δ μ (Ww Q x lo hi)
def Z6 (th ts:Uh) (W:XD) (δ:Sl) (Q:QD) (x:D) (lo:Option Int) (μ:M):Prop:=th W δ μ (Z5 ts W δ Q x lo)
def Z7 (tl th ts:Uh) (W:XD) (δ:Sl) (Q:QD) (x:D) (μ:M):Prop:=tl W δ μ (Z6 th ts W δ Q x)
def abQ (te:bZ) (tl th ts:Uh) (W:XD) (δ:Sl) (μ:M) (Q:QD):Prop:=te W δ μ (Z7 tl th ts W δ Q)
theorem anY {X:Cx} {W:WX} {e st:Expr} {lo hi:Option Expr} {te:bZ} {tl th ts:Uh} {p2 pos:Pos} (he:DE X W e te) (hl:ZP X W lo tl) (hu:ZP X W hi th) (hs:ZP X W (some st) ts):DE X W (.Subscript e (.Slice lo hi (some st) p2) pos) (abQ te tl th ts) :=
  PE.imp (ajl he hl hu hs) fun σ H Q ⟨δ,μ,Hc,Qd,Xd,s,rs,h,rt,rx⟩=>⟨δ,μ,Hc,_,Xd,s,rs,h,fun d μ1 h1 v H1 cA e1 s1 r1 =>
    ⟨δ, μ1, cA, _, Xd, s1, rs.mono e1, h1, fun o1 μ2 h2 H2 dw e2 s2 => ⟨δ, μ2, dw, _, Xd, s2, rs.mono (e1.trans e2), h2, fun o2 μ3 h3 H3 mU e3 s3 =>
      ⟨δ, μ3, mU, _, Xd, s3, rs.mono ((e1.trans e2).trans e3), h3, fun o3 μ4 h4 H4 Zt e4 s4 => by
        unfold Ww abP at h4
        split at h4
        · rename_i xs ex
          obtain ⟨a,vs,rfl,ha,ra⟩:=gq s4 (r1.mono ((e2.trans e3).trans e4)) ex
          refine ⟨a,vs,rfl,SqL.of ha,h4.1,?_⟩
          rw [ra.length]
          exact (rt.mono (((e1.trans e2).trans e3).trans e4)).new s4 (ra.pick _) h4.2
        · exact h4.elim,rx.mono ((e1.trans e2).trans e3)⟩,rx.mono (e1.trans e2)⟩,rx.mono e1⟩,rx⟩
end DL
namespace DL
open PySem PySem.Spec PyProof.Rows L2
section
variable {prog:Program} {w:World} {A:Around} {E:Value→Shared→Prop}
def abR (z j1 j2:Addr) (R1 R2:Nat→Value→Prop) (U1 U2:Nat→Heap→Prop) (i:Nat) (old new:Heap) (v:Value):Prop :=
 ∃ (t:Addr) (x y:Value),v = .ref t∧old.objs.size≤t∧R1 i x∧R2 i y∧IsTupOf2 new t x y∧U1 (i+1) new∧U2 (i+1) new∧∀ c o,c≠z→c≠j1→c≠j2→old.get? c=some o→new.get? c=some o
theorem ak3 {z TI TO T j1 j2:Addr} {f:Bool} {oT:Obj} {g1 g2:List Addr} {m1 m2 i:Nat} {R1 R2:Nat→Value→Prop} {U1 U2:Nat→Heap→Prop} {st:Shared} {Q:PySem.Fin→Shared→Prop}
  (apart:ZipSep2 z TI TO j1 j2 g1 g2) (first:Draws prog w A j1 g1 m1 R1 U1) (second:Draws prog w A j2 g2 m2 R2 U2) (held:IsZipHeld st.heap z TI TO T f) (alive:st.heap.get? T=some oT)
  (pair:IsTupOf2 st.heap TI (.ref j1) (.ref j2)) (u1:U1 i st.heap) (u2:U2 i st.heap) (b1:i<m1) (b2:i<m2)
  (goal:∀ v h' tk,abR z j1 j2 R1 R2 U1 U2 i st.heap h' v→IsZipHeld h' z TI TO T true→Q (.done (.ret v)) { st with heap:=h',toks:=tk }) :
  wpAny (model prog w) A (Builtin.«zip.__next__» ⟨[.ref z],[]⟩) Q E st:=by
 obtain ⟨hp,gs,dr,tk,os⟩:=st
 unfold Builtin.«zip.__next__»
 generalize hF:Builtin.SmallTypes.ownedTupleIsFree=F
 wp_walk
 subst hF
 refine wpAny_tupleHeld_zip held alive fun h0 held0 Ie => ?_
 have v1:U1 i h0:=first.over u1 Ie apart.zf1
 have v2:U2 i h0:=second.over u2 Ie apart.zf2
 dsimp only
 rw [if_neg Bool.false_ne_true]
 simp only [List.forIn_toArray,List.forIn_cons,List.forIn_nil]
 refine wpAny_bind (wpAny_bind (wpAny_bind (wpAny_holding ?_)))
 show wpAny _ _ (do let x ← Builtin.SmallTypes.nextOf (.ref j1);pure (some x)) _ _ _
 refine wpAny_bind (first.item i _ _ _ b1 v1 fun x h1 tk1 rx n1 Q7=>wpAny_pure (wpAny_pure ?_))
 have v2':U2 i h1:=second.over v2 Q7 apart.sep1_2
 refine wpAny_bind (wpAny_bind (wpAny_holding ?_))
 show wpAny _ _ (do let y ← Builtin.SmallTypes.nextOf (.ref j2);pure (some y)) _ _ _
 refine wpAny_bind (second.item i _ _ _ b2 v2' fun y h2 tk2 ry n2 adR=>wpAny_pure (wpAny_pure (wpAny_pure ?_)))
 have n1':U1 (i+1) h2:=first.over n1 adR apart.sep2_1
 refine wpAny_bind (wpAny_newTuple ?_ (show 2≤sizeLine by decide))
 have zj1:z≠j1:=fun e=>apart.zf1 (e ▸ apart.mem1)
 have zj2:z≠j2:=fun e=>apart.zf2 (e ▸ apart.mem2)
 refine wpAny_pure (goal _ _ _ ⟨h2.objs.size,x,y,rfl,?_,rx,ry,?_,?_,?_,?_⟩ ?_)
 ·rw [adR.1,Q7.1,Ie.1]
  exact Nat.le_refl _
 ·exact Heap.get?_push_size _ rfl
 ·exact first.frame _ _ _ n1' fun b _ o e=>Heap.get?_push_of_some _ e
 ·exact second.frame _ _ _ n2 fun b _ o e=>Heap.get?_push_of_some _ e
 ·intro c o cz c1 c2 e
  refine Heap.get?_push_of_some _ ?_
  rw [adR.2 c c2,Q7.2 c c1,Ie.2 c cz]
  exact e
 ·refine Heap.get?_push_of_some _ ?_
  rw [adR.2 z zj2,Q7.2 z zj1]
  exact held0
theorem amN {z TI TO T j1 j2:Addr} {f:Bool} {oT:Obj} {g1 g2:List Addr} {m1 m2 i:Nat} {R1 R2:Nat→Value→Prop} {U1 U2:Nat→Heap→Prop} {st:Shared} {Q:PySem.Fin→Shared→Prop}
  (apart:ZipSep2 z TI TO j1 j2 g1 g2) (first:Draws prog w A j1 g1 m1 R1 U1) (second:Draws prog w A j2 g2 m2 R2 U2) (held:IsZipHeld st.heap z TI TO T f) (alive:st.heap.get? T=some oT)
  (pair:IsTupOf2 st.heap TI (.ref j1) (.ref j2)) (u1:U1 i st.heap) (u2:U2 i st.heap) (over:i=min m1 m2)
  (goal:∀ h' tk e,(∀ c o,c≠z→c≠j1→c≠j2→st.heap.get? c=some o→h'.get? c=some o)→(∃ o,h'.get? e=some o∧o.cls = .type "StopIteration")→E (.ref e) { st with heap:=h',toks:=tk }) :
  wpAny (model prog w) A (Builtin.«zip.__next__» ⟨[.ref z],[]⟩) Q E st:=by
 obtain ⟨hp,gs,dr,tk,os⟩:=st
 unfold Builtin.«zip.__next__»
 generalize hF:Builtin.SmallTypes.ownedTupleIsFree=F
 wp_walk
 subst hF
 refine wpAny_tupleHeld_zip held alive fun h0 held0 Ie => ?_
 have v1:U1 i h0:=first.over u1 Ie apart.zf1
 have v2:U2 i h0:=second.over u2 Ie apart.zf2
 dsimp only
 rw [if_neg Bool.false_ne_true]
 simp only [List.forIn_toArray,List.forIn_cons,List.forIn_nil]
 refine wpAny_bind (wpAny_bind (wpAny_bind (wpAny_holding ?_)))
 show wpAny _ _ (do let x ← Builtin.SmallTypes.nextOf (.ref j1);pure (some x)) _ _ _
 by_cases short:i=m1
 ·subst short
  refine wpAny_bind (first.done _ _ _ v1 fun h1 e ext stop => ?_)
  exact goal _ _ _ (fun c o cz c1 c2 h=>ext c o c1 (by rw [Ie.2 c cz];exact h)) stop
 ·refine wpAny_bind (first.item i _ _ _ (by omega) v1 fun x h1 tk1 rx n1 Q7=>wpAny_pure (wpAny_pure ?_))
  have v2':U2 i h1:=second.over v2 Q7 apart.sep1_2
  refine wpAny_bind (wpAny_bind (wpAny_holding ?_))
  show wpAny _ _ (do let y ← Builtin.SmallTypes.nextOf (.ref j2);pure (some y)) _ _ _
  have im:i=m2:=by omega
  subst im
  refine wpAny_bind (second.done _ _ _ v2' fun h2 e ext stop => ?_)
  exact goal _ _ _ (fun c o cz c1 c2 h=>ext c o c2 (by rw [Q7.2 c c1,Ie.2 c cz];exact h)) stop
theorem ak4 {z TI TO T j1 j2:Addr} {f:Bool} {oT:Obj} {g1 g2:List Addr} {m1 m2 i:Nat} {R1 R2:Nat→Value→Prop} {U1 U2:Nat→Heap→Prop} {st:Shared} {Q:Option Value→Shared→Prop}
  (apart:ZipSep2 z TI TO j1 j2 g1 g2) (first:Draws prog w A.in1 j1 g1 m1 R1 U1) (second:Draws prog w A.in1 j2 g2 m2 R2 U2) (held:IsZipHeld st.heap z TI TO T f) (alive:st.heap.get? T=some oT)
  (pair:IsTupOf2 st.heap TI (.ref j1) (.ref j2)) (u1:U1 i st.heap) (u2:U2 i st.heap) (b1:i<m1) (b2:i<m2)
  (goal:∀ v h' tk,abR z j1 j2 R1 R2 U1 U2 i st.heap h' v→IsZipHeld h' z TI TO T true→Q (some v) { st with heap:=h',toks:=tk }) :
  wpAny (model prog w) A (pyNext (.ref z)) Q E st:=by
 have ty:st.TypeIs (.ref z) "zip" := ⟨_,held,rfl⟩
 have run:∀ {P:Value→Shared→Prop} {X:Value→Shared→Prop},(∀ v h' tk,abR z j1 j2 R1 R2 U1 U2 i st.heap h' v→IsZipHeld h' z TI TO T true→P v { st with heap:=h',toks:=tk }) →
   wpAny (model prog w) A (call (.builtin "zip.__next__") [.ref z]) P X st:=fun k =>
  wpAny_call_entry F.slot_zip_next ty F.entry_zip_next (ak3 apart first second held alive pair u1 u2 b1 b2 fun v h' tk a b=>⟨v,rfl,k v h' tk a b⟩)
 unfold pyNext
 exact wpAny_bind (wpAny_attempt (wpAny_callSpecial?_slot ty F.slot_zip_next (run fun v h' tk a b=>wpAny_pure (goal v h' tk a b))))
theorem ahz {I S:Addr} {res:Value} {n:Nat} {s0:Shared} {St:Nat→List Value→Heap→Prop} {Mid:Nat→List Value→Value→Heap→Prop} {R:Result→Shared→Prop}
  (draw:∀ i acc h t (Q:Option Value→Shared→Prop) (X:Value→Shared→Prop),i<n→St i acc h→(∀ v h' tk,Mid i acc v h'→Q (some v) { s0 with heap:=h',toks:=tk })→wpAny (model prog w) A.in1 (pyNext (.ref I)) Q X { s0 with heap:=h,toks:=t })
  (stop:∀ acc h t (Q:Option Value→Shared→Prop) (X:Value→Shared→Prop),St n acc h→(∀ h' tk,R (.ok (.ret res)) { s0 with heap:=h',toks:=tk }→Q none { s0 with heap:=h',toks:=tk })→wpAny (model prog w) A.in1 (pyNext (.ref I)) Q X { s0 with heap:=h,toks:=t })
  (keep:∀ i acc v h,Mid i acc v h→∃ c,h.get? S=some { cls := .type "list",data := .seq acc.toArray c }∧∀ h',h'.get? S=some { cls := .type "list",data := .seq (acc++[v]).toArray (c+1) }→Heap.SameBut S h h'→St (i+1) (acc++[v]) h')
  (short:∀ i acc v h,Mid i acc v h→acc.length≤sizeLine) :
  ∀ (k i:Nat) (acc:List Value) (h:Heap) (t:Nat),i+k=n→St i acc h→codeAny (model prog w) A (.builtin "list.extend.loop" ⟨[.ref S,.ref I,res],[]⟩) R { s0 with heap:=h,toks:=t }:=by
 intro k
 induction k with
 | zero =>
  intro i acc h t e st
  obtain rfl:i=n:=by omega
  refine codeAny_builtin F.entry_extend_loop ?_
  rw [Around.under_plainId F.plain_extend_loop _]
  unfold Builtin.«list.extend.loop»
  exact wpAny_bind (stop acc h t _ _ st fun h' tk r=>wpAny_pure r)
 | succ k ih =>
  intro i acc h t e st
  refine codeAny_builtin F.entry_extend_loop ?_
  rw [Around.under_plainId F.plain_extend_loop _]
  unfold Builtin.«list.extend.loop»
  refine wpAny_bind (draw i acc h t _ _ (by omega) st fun v h' tk mid => ?_)
  obtain ⟨c,here,next⟩:=keep i acc v h' mid
  have few:acc.toArray.size≤sizeLine:=by rw [List.size_toArray];exact short i acc v h' mid
  refine wpAny_bind (listUpdate_at (s:={ s0 with heap:=h',toks:=tk }) (f:=(·.push v)) here rfl ?_ few (by rw [Array.size_push];omega))
  refine wpAny_pure ⟨plainId_quiet F.plain_extend_loop _,ih (i+1) (acc++[v]) _ tk (by omega) (next _ ?_ (Heap.SameBut.update ..))⟩
  rw [Heap.get?_update_self _ here rfl]
  simp [Obj.mapSeq]
structure Q8 (z TI TO j1 j2 S:Addr) (R1 R2:Nat→Value→Prop) (U1 U2:Nat→Heap→Prop) (base:Heap) (i:Nat) (acc:List Value) (h:Heap):Prop where
 len:acc.length=i
 lst:∃ c,h.get? S=some { cls := .type "list",data := .seq acc.toArray c }
 two:IsTupOf2 h TI (.ref j1) (.ref j2)
 one:U1 i h
 other:U2 i h
 got:∀ j v,acc[j]? = some v→∃ t x y,v = .ref t∧S<t∧R1 j x∧R2 j y∧IsTupOf2 h t x y
 zip:(i=0∧IsZip h z TI TO .none∧∃ a b,IsTupOf2 h TO a b)∨(0<i∧∃ t f o,S<t∧IsZipHeld h z TI TO t f∧h.get? t=some o)
 old:∀ b o,b≠z→b≠TO→b≠j1→b≠j2→b≠S→base.get? b=some o→h.get? b=some o
 big:S<h.objs.size
def ak5 (z TI TO j1 j2 S:Addr) (R1 R2:Nat→Value→Prop) (U1 U2:Nat→Heap→Prop) (base:Heap) (i:Nat) (acc:List Value) (v:Value) (h:Heap):Prop :=
 acc.length=i∧(∃ c,h.get? S=some { cls := .type "list",data := .seq acc.toArray c }) ∧
  ∀ h',(∃ c,h'.get? S=some { cls := .type "list",data := .seq (acc++[v]).toArray c })→Heap.SameBut S h h'→Q8 z TI TO j1 j2 S R1 R2 U1 U2 base (i+1) (acc++[v]) h'
theorem aeH {z TI TO j1 j2 S t:Addr} {g1 g2:List Addr} {m1 m2 i:Nat} {R1 R2:Nat→Value→Prop} {U1 U2:Nat→Heap→Prop} {base h h':Heap} {acc:List Value} {x y:Value}
  (apart:ZipSep2 z TI TO j1 j2 g1 g2) (first:Draws prog w A.in1 j1 g1 m1 R1 U1) (second:Draws prog w A.in1 j2 g2 m2 R2 U2) (S1:S ∉ g1) (S2:S ∉ g2) (low:z<S∧TI<S∧TO<S∧j1<S∧j2<S)
  (G:Q8 z TI TO j1 j2 S R1 R2 U1 U2 base i acc h) (new:h.objs.size≤t) (rx:R1 i x) (ry:R2 i y) (is:IsTupOf2 h' t x y) (u1:U1 (i+1) h') (u2:U2 (i+1) h')
  (kept:∀ c o,c≠z→c≠TO→c≠j1→c≠j2→h.get? c=some o→h'.get? c=some o) (held:∃ t2 f o,S<t2∧IsZipHeld h' z TI TO t2 f∧h'.get? t2=some o):ak5 z TI TO j1 j2 S R1 R2 U1 U2 base i acc (.ref t) h':=by
 obtain ⟨l1,l2,l3,l4,l5⟩:=low
 have St:S<t:=Nat.lt_of_lt_of_le G.big new
 have above:∀ {c o},S≤c→h.get? c=some o→h'.get? c=some o:=fun {c o} hc=>kept c o (Nat.ne_of_gt (Nat.lt_of_lt_of_le l1 hc)) (Nat.ne_of_gt (Nat.lt_of_lt_of_le l3 hc)) (Nat.ne_of_gt (Nat.lt_of_lt_of_le l4 hc)) (Nat.ne_of_gt (Nat.lt_of_lt_of_le l5 hc))
 obtain ⟨c0,hl⟩:=G.lst
 refine ⟨G.len,⟨c0,above (Nat.le_refl S) hl⟩,fun h2 lst same => ?_⟩
 have on:∀ {c o},c≠S→h'.get? c=some o→h2.get? c=some o:=fun {c o} hc e=>by rw [same.2 c hc];exact e
 refine ⟨by rw [List.length_append,G.len];rfl,lst,on (Nat.ne_of_lt l2) (kept _ _ apart.TIz apart.TITO apart.TIi1 apart.TIi2 G.two),first.over u1 same S1,second.over u2 same S2,fun j v hj => ?_,.inr ⟨Nat.succ_pos i,?_⟩,fun b o bz bT b1 b2 bS e => ?_,?_⟩
 ·by_cases old:j<acc.length
  ·rw [List.getElem?_append_left old] at hj
   obtain ⟨u,p,q,rfl,a1,a2,a3,a4⟩:=G.got j v hj
   exact ⟨u,p,q,rfl,a1,a2,a3,on (Nat.ne_of_gt a1) (above (Nat.le_of_lt a1) a4)⟩
  ·rw [List.getElem?_append_right (by omega)] at hj
   have e0:j - acc.length=0:=by
    have:=(List.getElem?_eq_some_iff.mp hj).1
    rw [List.length_singleton] at this
    omega
   rw [e0] at hj
   cases hj
   have:j=i:=by have:=G.len;omega
   subst this
   exact ⟨t,x,y,rfl,St,rx,ry,on (Nat.ne_of_gt St) is⟩
 ·obtain ⟨t2,f,o,a1,a2,a3⟩:=held
  exact ⟨t2,f,o,a1,on (Nat.ne_of_lt l1) a2,on (Nat.ne_of_gt a1) a3⟩
 ·exact on bS (kept b o bz bT b1 b2 (G.old b o bz bT b1 b2 bS e))
 ·obtain ⟨c,e⟩:=lst
  exact Heap.lt_size e
theorem ajn {z TI TO j1 j2 S:Addr} {g1 g2:List Addr} {m1 m2 i:Nat} {R1 R2:Nat→Value→Prop} {U1 U2:Nat→Heap→Prop} {base:Heap} {acc:List Value} {st:Shared} {Q:Option Value→Shared→Prop}
  (apart:ZipSep2 z TI TO j1 j2 g1 g2) (first:Draws prog w A.in1 j1 g1 m1 R1 U1) (second:Draws prog w A.in1 j2 g2 m2 R2 U2) (Sz:S≠z) (STO:S≠TO) (STI:S≠TI) (S1:S ∉ g1) (S2:S ∉ g2) (hi:i<min m1 m2)
  (low:z<S∧TI<S∧TO<S∧j1<S∧j2<S)
  (G:Q8 z TI TO j1 j2 S R1 R2 U1 U2 base i acc st.heap) (goal:∀ v h' tk,ak5 z TI TO j1 j2 S R1 R2 U1 U2 base i acc v h'→Q (some v) { st with heap:=h',toks:=tk }) :
  wpAny (model prog w) A (pyNext (.ref z)) Q E st:=by
 obtain ⟨Gz⟩:Nonempty (Q8 z TI TO j1 j2 S R1 R2 U1 U2 base i acc st.heap):=⟨G⟩
 rcases G.zip with ⟨rfl,free,a,b,own⟩ | ⟨pos,t2,f,o,hS,held,alive⟩
 ·refine wpAny_pyNext_zipD2_item apart first second free G.two own G.one G.other (by omega) (by omega) fun x y h' tk rx ry hz hTO u1 u2 is size kept=>goal _ _ _ ?_
  exact aeH apart first second S1 S2 low G (Nat.le_refl _) rx ry is u1 u2 kept ⟨_,false,_,G.big,hz,is⟩
 ·refine ak4 apart first second held alive G.two G.one G.other (by omega) (by omega) fun v h' tk stepped still=>goal _ _ _ ?_
  obtain ⟨t,x,y,rfl,new,rx,ry,is,u1,u2,kept⟩:=stepped
  obtain ⟨l1,l2,l3,l4,l5⟩:=low
  exact aeH apart first second S1 S2 ⟨l1,l2,l3,l4,l5⟩ G new rx ry is u1 u2 (fun c o cz _ c1 c2 e=>kept c o cz c1 c2 e) ⟨t2,true,o,hS,still,kept t2 o (Nat.ne_of_gt (Nat.lt_trans l1 hS)) (Nat.ne_of_gt (Nat.lt_trans l4 hS)) (Nat.ne_of_gt (Nat.lt_trans l5 hS)) alive⟩
structure Q9 (z TO j1 j2 S:Addr) (R1 R2:Nat→Value→Prop) (base:Heap) (n:Nat) (acc:List Value) (h:Heap):Prop where
 len:acc.length=n
 lst:∃ c,h.get? S=some { cls := .type "list",data := .seq acc.toArray c }
 got:∀ j v,acc[j]? = some v→∃ t x y,v = .ref t∧S<t∧R1 j x∧R2 j y∧IsTupOf2 h t x y
 old:∀ b o,b≠z→b≠TO→b≠j1→b≠j2→b≠S→base.get? b=some o→h.get? b=some o
theorem Q8.over {z TI TO j1 j2 S:Addr} {R1 R2:Nat→Value→Prop} {U1 U2:Nat→Heap→Prop} {base h h':Heap} {i:Nat} {acc:List Value} (G:Q8 z TI TO j1 j2 S R1 R2 U1 U2 base i acc h) (low:z<S∧TI<S∧TO<S∧j1<S∧j2<S)
  (kept:∀ c o,c≠z→c≠TO→c≠j1→c≠j2→h.get? c=some o→h'.get? c=some o):Q9 z TO j1 j2 S R1 R2 base i acc h':=by
 obtain ⟨l1,l2,l3,l4,l5⟩:=low
 have above:∀ {c o},S≤c→h.get? c=some o→h'.get? c=some o:=fun {c o} hc=>kept c o (Nat.ne_of_gt (Nat.lt_of_lt_of_le l1 hc)) (Nat.ne_of_gt (Nat.lt_of_lt_of_le l3 hc)) (Nat.ne_of_gt (Nat.lt_of_lt_of_le l4 hc)) (Nat.ne_of_gt (Nat.lt_of_lt_of_le l5 hc))
 refine ⟨G.len,?_,fun j v hj => ?_,fun b o bz bT b1 b2 bS e=>kept b o bz bT b1 b2 (G.old b o bz bT b1 b2 bS e)⟩
 ·obtain ⟨c,e⟩:=G.lst
  exact ⟨c,above (Nat.le_refl S) e⟩
 ·obtain ⟨t,x,y,e,a1,a2,a3,a4⟩:=G.got j v hj
  exact ⟨t,x,y,e,a1,a2,a3,above (Nat.le_of_lt a1) a4⟩
theorem ajo {z TI TO j1 j2 S:Addr} {g1 g2:List Addr} {m1 m2:Nat} {R1 R2:Nat→Value→Prop} {U1 U2:Nat→Heap→Prop} {base:Heap} {acc:List Value} {st:Shared} {Q:Option Value→Shared→Prop}
  (apart:ZipSep2 z TI TO j1 j2 g1 g2) (first:Draws prog w A.in1 j1 g1 m1 R1 U1) (second:Draws prog w A.in1 j2 g2 m2 R2 U2) (low:z<S∧TI<S∧TO<S∧j1<S∧j2<S)
  (G:Q8 z TI TO j1 j2 S R1 R2 U1 U2 base (min m1 m2) acc st.heap) (goal:∀ h' tk,Q9 z TO j1 j2 S R1 R2 base (min m1 m2) acc h'→Q none { st with heap:=h',toks:=tk }) :
  wpAny (model prog w) A (pyNext (.ref z)) Q E st:=by
 rcases G.zip with ⟨e0,free,a,b,own⟩ | ⟨pos,t2,f,o,hS,held,alive⟩
 ·exact wpAny_pyNext_zipD2_end apart first second free G.two own G.one G.other (Nat.min_le_left _ _) (Nat.min_le_right _ _) (by omega) fun h' tk kept=>goal _ _ (G.over low kept)
 ·have ty:st.TypeIs (.ref z) "zip" := ⟨_,held,rfl⟩
  unfold pyNext
  refine wpAny_bind (wpAny_attempt (wpAny_callSpecial?_slot ty F.slot_zip_next (wpAny_call_entry F.slot_zip_next ty F.entry_zip_next (amN apart first second held alive G.two G.one G.other rfl fun h' tk e kept stop => ?_))))
  obtain ⟨o',he,hc⟩:=stop
  refine wpAny_bind (wpAny_isInstance (b:=true) ⟨o',he,hc⟩ ?sub (wpAny_pure (goal h' tk (G.over low fun c o cz _ c1 c2 e=>kept c o cz c1 c2 e))))
  case sub=>exact isSubtype_stop
theorem afZ:typeLookup (.type "zip") "__len__" = pure none:=by rw [typeLookup_type,builtinLookup_eq_fast];kernel_rfl
theorem aeI:typeLookup (.type "zip") "__length_hint__" = pure none:=by rw [typeLookup_type,builtinLookup_eq_fast];kernel_rfl
theorem ajp {z TI TO j1 j2:Addr} {g1 g2:List Addr} {m1 m2:Nat} {R1 R2:Nat→Value→Prop} {U1 U2:Nat→Heap→Prop} {a b:Value} {st:Shared} {R:Result→Shared→Prop}
  (apart:ZipSep2 z TI TO j1 j2 g1 g2) (first:Draws prog w A.in1.in1 j1 g1 m1 R1 U1) (second:Draws prog w A.in1.in1 j2 g2 m2 R2 U2) (free:IsZip st.heap z TI TO .none) (two:IsTupOf2 st.heap TI (.ref j1) (.ref j2)) (own:IsTupOf2 st.heap TO a b)
  (u1:U1 0 st.heap) (u2:U2 0 st.heap) (f1:∀ c∈g1,c<st.heap.objs.size) (f2:∀ c∈g2,c<st.heap.objs.size) (few:min m1 m2≤sizeLine)
  (goal:∀ h' tk acc,Q9 z TO j1 j2 st.heap.objs.size R1 R2 st.heap (min m1 m2) acc h'→R (.ok (.ret (.ref st.heap.objs.size))) { st with heap:=h',toks:=tk }) :
  codeAny (model prog w) A (.builtin "proto.collect" ⟨[.ref z],[]⟩) R st:=by
 have ty:st.TypeIs (.ref z) "zip" := ⟨_,free,rfl⟩
 refine codeAny_builtin F.entry_proto_collect ?_
 rw [Around.under_plainId F.plain_proto_collect _]
 unfold Builtin.«proto.collect»
 wp_walk
 refine ⟨plainId_quiet F.plain_list_iadd _,codeAny_builtin F.entry_list_iadd ?_⟩
 rw [Around.under_plainId F.plain_list_iadd _]
 have amg:IsZip (st.heap.push { cls := .type "list",data := .seq #[] }) z TI TO .none:=Heap.get?_push_of_some _ free
 have ty1:Shared.TypeIs { st with heap:=st.heap.push { cls := .type "list",data := .seq #[] } } (.ref z) "zip" := ⟨_,amg,rfl⟩
 have ne:Builtin.List.listSameRef (.ref st.heap.objs.size) (.ref z)=false:=by
  have:st.heap.objs.size≠z:=Nat.ne_of_gt (Heap.lt_size free)
  simp [Builtin.List.listSameRef,this]
 unfold Builtin.«list.__iadd__» Builtin.List.listExtendWith
 have aqy:=afZ
 have aqx:=aeI
 generalize hI:pyIter=PI
 wp_walk
 subst hI
 refine wpAny_pyIter_zip amg ?_
 refine wpAny_bind (wpAny_holding ?_)
 unfold Builtin.List.listLengthHint
 wp_walk
 have S0:(st.heap.push { cls := .type "list",data := .seq #[] }).get? st.heap.objs.size=some { cls := .type "list",data := .seq #[] }:=Heap.get?_push_size _ rfl
 have S2:=Heap.get?_update_self (Obj.mapSeq fun x:Array Value=>x.pop) (Heap.get?_update_self (Obj.mapSeq fun x:Array Value=>x.push Value.none) S0 rfl) rfl
 generalize hh:((st.heap.push { cls := .type "list",data := .seq #[] }).update st.heap.objs.size (Obj.mapSeq fun x=>x.push Value.none)).update st.heap.objs.size (Obj.mapSeq fun x=>x.pop)=h3 at S2 ⊢
 have on:∀ c o,st.heap.get? c=some o→h3.get? c=some o:=fun c o e=>by
  have ne:c≠st.heap.objs.size:=Nat.ne_of_lt (Heap.lt_size e)
  rw [← hh,(Heap.SameBut.update ..).2 c ne,(Heap.SameBut.update ..).2 c ne]
  exact Heap.get?_push_of_some _ e
 have low:z<st.heap.objs.size∧TI<st.heap.objs.size∧TO<st.heap.objs.size∧j1<st.heap.objs.size∧j2<st.heap.objs.size:=⟨Heap.lt_size free,Heap.lt_size two,Heap.lt_size own,f1 _ apart.mem1,f2 _ apart.mem2⟩
 have n1:st.heap.objs.size ∉ g1:=fun h=>Nat.lt_irrefl _ (f1 _ h)
 have n2:st.heap.objs.size ∉ g2:=fun h=>Nat.lt_irrefl _ (f2 _ h)
 have start:Q8 z TI TO j1 j2 st.heap.objs.size R1 R2 U1 U2 st.heap 0 [] h3:=⟨rfl,⟨_,S2⟩,on _ _ two,first.frame _ _ _ u1 fun c _ o e=>on c o e,second.frame _ _ _ u2 fun c _ o e=>on c o e,(fun j v h=>by simp at h),.inl ⟨rfl,on _ _ free,_,_,on _ _ own⟩,fun c o _ _ _ _ _ e=>on c o e,Heap.lt_size S2⟩
 refine ⟨plainId_quiet F.plain_extend_loop _,?_⟩
 refine ahz (s0:=st) (n:=min m1 m2) (St:=Q8 z TI TO j1 j2 st.heap.objs.size R1 R2 U1 U2 st.heap) (Mid:=fun i acc v h=>i<min m1 m2∧ak5 z TI TO j1 j2 st.heap.objs.size R1 R2 U1 U2 st.heap i acc v h) ?draw ?stop ?keep ?short _ 0 [] h3 st.toks (Nat.zero_add _) start
 case draw =>
  intro i acc h t Q X hi G q
  exact ajn (A:=A.in1) (st:={ st with heap:=h,toks:=t }) apart first second (Nat.ne_of_gt low.1) (Nat.ne_of_gt low.2.2.1) (Nat.ne_of_gt low.2.1) n1 n2 hi low G fun v h' tk mid=>q v h' tk ⟨hi,mid⟩
 case stop =>
  intro acc h t Q X G q
  exact ajo (A:=A.in1) (st:={ st with heap:=h,toks:=t }) apart first second low G fun h' tk all=>q h' tk (goal h' tk acc all)
 case keep =>
  rintro i acc v h ⟨_,_,⟨c,e⟩,next⟩
  exact ⟨c,e,fun h' e' same=>next h' ⟨_,e'⟩ same⟩
 case short =>
  rintro i acc v h ⟨hi,len,_⟩
  omega
theorem ajq {z TI TO j1 j2:Addr} {g1 g2:List Addr} {m1 m2:Nat} {R1 R2:Nat→Value→Prop} {U1 U2:Nat→Heap→Prop} {a b:Value} {st:Shared} {Q:Value→Shared→Prop}
  (apart:ZipSep2 z TI TO j1 j2 g1 g2) (first:Draws prog w A.in1.in1.in1 j1 g1 m1 R1 U1) (second:Draws prog w A.in1.in1.in1 j2 g2 m2 R2 U2) (wh1:∀ i v,R1 i v→∃ n t,v = .int n t) (wh2:∀ i v,R2 i v→∃ n t,v = .int n t)
  (free:IsZip st.heap z TI TO .none) (two:IsTupOf2 st.heap TI (.ref j1) (.ref j2)) (own:IsTupOf2 st.heap TO a b) (u1:U1 0 st.heap) (u2:U2 0 st.heap) (f1:∀ c∈g1,c<st.heap.objs.size) (f2:∀ c∈g2,c<st.heap.objs.size) (few:min m1 m2≤sizeLine)
  (goal:∀ h' tk acc d (out:List Value) (k:Value→Int × Int),Q9 z TO j1 j2 st.heap.objs.size R1 R2 st.heap (min m1 m2) acc h'→st.heap.objs.size<d→(∀ v∈acc,v ≠ .ref d)→(∃ n,h'.get? d=some (seqObj "list" out.toArray n)) →
   SrtO.Srtd (fun v u=>SrtO.lexB (k v) (k u)) out→out.Perm acc→(∀ v∈acc,Srt.IsPair h' v (k v).1 (k v).2)→Q (.ref d) { st with heap:=h',toks:=tk }) :
  wpAny (model prog w) A (call (.builtin "sorted") [.ref z]) Q E st:=by
 classical
 refine Calls.call_function_entry kind_sorted plain_sorted entry_sorted (args_sorted1 _) ?_
 unfold Builtin.«sorted» collect
 generalize hC : @call=C
 wp_walk
 subst hC
 refine ajp (A:=A.in1) apart first second free two own u1 u2 f1 f2 few fun h1 tk acc all => ?_
 obtain ⟨c,here⟩:=all.lst
 have anZ:acc.length≤sizeLine:=by rw [all.len];exact few
 have pairs:∀ v∈acc,∃ x y,Srt.IsPair h1 v x y:=fun v hv=>by
  obtain ⟨j,hj⟩:=List.getElem?_of_mem hv
  obtain ⟨t,x,y,rfl,_,rx,ry,is⟩:=all.got j v hj
  obtain ⟨n1,t1,rfl⟩:=wh1 _ _ rx
  obtain ⟨n2,t2,rfl⟩:=wh2 _ _ ry
  exact ⟨n1,n2,t,_,t1,t2,_,rfl,is,rfl,rfl⟩
 obtain ⟨k,hk⟩:∃ k:Value→Int × Int,∀ v∈acc,Srt.IsPair h1 v (k v).1 (k v).2 :=
  ⟨fun v=>if h:∃ p:Int × Int,Srt.IsPair h1 v p.1 p.2 then h.choose else (0,0),fun v hv=>by
   obtain ⟨x,y,p⟩:=pairs v hv
   have h:∃ p:Int × Int,Srt.IsPair h1 v p.1 p.2:=⟨(x,y),p⟩
   show Srt.IsPair h1 v (if h:∃ p:Int × Int,Srt.IsPair h1 v p.1 p.2 then h.choose else (0,0)).1 (if h:∃ p:Int × Int,Srt.IsPair h1 v p.1 p.2 then h.choose else (0,0)).2
   rw [dif_pos h]
   exact h.choose_spec⟩
 generalize hC : @call=C
 wp_walk
 subst hC
 have onto:∀ {c o},h1.get? c=some o→(h1.push (seqObj "list" acc.toArray 0)).get? c=some o:=fun e=>Heap.get?_push_of_some _ e
 have last:(h1.push (seqObj "list" acc.toArray 0)).get? h1.objs.size=some (seqObj "list" acc.toArray 0):=Heap.get?_push_size _ rfl
 refine wpAny_call_entry slot_list_sort ⟨_,last,rfl⟩ entry_list_sort (SrtO.list_sort_ord (SrtO.swo_lex k) last anZ (fun many => ?sortable) fun out so st'=>⟨_,rfl,?fin⟩) (args_list_sort _)
 case sortable =>
  refine SrtO.pairs_sortableO (by omega) (fun v hv=>(hk v hv).keeps fun c o e _=>onto e) fun o e => ?_
  rw [last] at e
  cases e
  exact fun z=>absurd (Value.type.inj z) (by decide)
 case fin =>
  have after:∀ {c o},h1.get? c=some o→(sortedHeap (h1.push (seqObj "list" acc.toArray 0)) h1.objs.size acc out.toArray).get? c=some o:=fun {c o} e=>by
   rw [sortedHeap_old (Nat.ne_of_lt (Heap.lt_size e)) (Heap.lt_size (onto e))]
   exact onto e
  refine wpAny_pure ⟨_,rfl,goal _ tk acc h1.objs.size out k ⟨all.len,⟨c,after here⟩,fun j v hj => ?_,fun c o cz cT c1 c2 cS e=>after (all.old c o cz cT c1 c2 cS e)⟩ (Heap.lt_size here) (fun v hv e => ?_) (sortedHeap_at last) so st'.perm fun v hv=>(hk v hv).keeps fun c o e _=>after e⟩
  ·obtain ⟨t,x,y,e,a1,a2,a3,a4⟩:=all.got j v hj
   exact ⟨t,x,y,e,a1,a2,a3,after a4⟩
  ·obtain ⟨j,hj⟩:=List.getElem?_of_mem hv
   obtain ⟨t,x,y,e',_,_,_,is⟩:=all.got j v hj
   rw [e'] at e
   cases e
   exact Nat.lt_irrefl _ (Heap.lt_size is)
end
end DL
namespace DL
open PySem PySem.Spec PyProof.Rows L2
def an0 (P1 P2:Nat→Value→Prop) (S:Addr) (h:Heap) (acc:Array Value):Prop:=∀ j v,acc[j]? = some v→∃ T x1 x2,v = .ref T∧S<T∧P1 j x1∧P2 j x2∧IsTupOf2 h T x1 x2
theorem ahA {prog:Program} {w:World} {A:Around} {E:Value→Shared→Prop} {s:Shared} {z TI TO i1 i2:Addr} {fp1 fp2:List Addr} {n1 n2:Nat} {P1 P2:Nat→Value→Prop} {St1 St2:Nat→Heap→Prop} {a1 a2:Value} {Q:Value→Shared→Prop}
  (Sp:ZipSep2 z TI TO i1 i2 fp1 fp2) (D1:Draws prog w A.in1.in1.in1 i1 fp1 n1 P1 St1) (D2:Draws prog w A.in1.in1.in1 i2 fp2 n2 P2 St2) (hp1:∀ i v,P1 i v→∃ n t,v = .int n t) (hp2:∀ i v,P2 i v→∃ n t,v = .int n t)
  (hz:IsZip s.heap z TI TO .none) (hTI:IsTupOf2 s.heap TI (.ref i1) (.ref i2)) (hTO:IsTupOf2 s.heap TO a1 a2) (st1:St1 0 s.heap) (st2:St2 0 s.heap) (hf1:∀ b∈fp1,b<s.heap.objs.size) (hf2:∀ b∈fp2,b<s.heap.objs.size) (hn:n1≤sizeLine)
  (hQ:∀ h' tk acc d (out:List Value) (k:Value→Int × Int),(∀ b o,b≠z→b≠TO→b≠i1→b≠i2→s.heap.get? b=some o→h'.get? b=some o)→s.heap.objs.size≤d→(∃ n,h'.get? d=some (seqObj "list" out.toArray n)) →
   acc.size=min n1 n2→an0 P1 P2 s.heap.objs.size h' acc→(∀ v∈acc,∃ T,v = .ref T∧T≠d)→SrtO.Srtd (fun v u=>SrtO.lexB (k v) (k u)) out→out.Perm acc.toList→(∀ v∈acc,Srt.IsPair h' v (k v).1 (k v).2)→Q (.ref d) { s with heap:=h',toks:=tk }) :
  wpAny (model prog w) A (call (.builtin "sorted") [.ref z]) Q E s:=by
 refine ajq Sp D1 D2 hp1 hp2 hz hTI hTO st1 st2 hf1 hf2 (Nat.le_trans (Nat.min_le_left _ _) hn) fun h' tk acc d out k all hd ne hdo hs hperm adS => ?_
 refine hQ h' tk acc.toArray d out k (fun b o bz bT b1 b2 e=>all.old b o bz bT b1 b2 (Nat.ne_of_lt (Heap.lt_size e)) e) (Nat.le_of_lt hd) hdo (by rw [List.size_toArray,all.len]) (fun j v hj=>all.got j v (by simpa using hj)) (fun v hv => ?_) hs hperm fun v hv=>adS v (by simpa using hv)
 have hv':v∈acc:=by simpa using hv
 obtain ⟨j,hj⟩:=List.getElem?_of_mem hv'
 obtain ⟨t,_,_,e,_⟩:=all.got j v hj
 exact ⟨t,e,fun q=>ne v hv' (by rw [e,q])⟩
theorem ak6 {X:Cx} {pins:List (Addr × Obj)} {σ:L2.St} {H H':Hp} {s:Shared} {h':Heap} {t':Nat} (I:Inv X pins σ H s) (k:∀ b u,s.heap.get? b=some u→h'.get? b=some u) (hs:Same H H')
  (hl:∀ a o,H' a=some o→H a=none→s.heap.objs.size≤a∧ObjOk X.prog X.w H' h' a o):Inv X pins σ H' { s with heap:=h',toks:=t' }:=by
 have fr:∀ b,b<s.heap.objs.size→H b=none→H' b=none:=fun b hb n=>by
  cases e:H' b with
  | none=>rfl
  | some o=>exact absurd (hl b o e n).1 (Nat.not_le.mpr hb)
 refine I.un ⟨fun b u q _ _ _=>k b u q,fun b u q _ _ _=>⟨u.slots,k b u q⟩,fun b u q n _=>fr b (Heap.lt_size q) n,fun b u q _=>⟨u,k b u q⟩,fun b xs q=>hs _ _ q,fun b u xs q=>hs _ _ q,fun b ps q=>⟨#[],by rw [hs _ _ q];simp⟩⟩ fun a o e => ?_
 cases q:H a with
 | none=>exact (hl a o e q).2
 | some u =>
  have:=hs _ _ q
  rw [e] at this
  cases this
  exact (I.hok a o q).stay (fun c v _ z=>k c v z) (fun c z=>hs _ _ z) fun c xs z=>hs _ _ z
theorem ahB {K:PySem.W.Frag} {H Hc H':Hp} {μ:M} (s:Split K H Hc μ) (hs:Same H H'):∃ bJ,Same Hc bJ∧Split K H' bJ μ∧∀ a,H a=none→bJ a=H' a:=by
 have key:∀ a,H a=none→Hc a=none:=fun a h=>(s.fresh h).2
 have sm:Same Hc fun a=>match H a with | none=>H' a | some _=>Hc a:=fun a o e=>by
  show (match H a with | none=>H' a | some _=>Hc a)=some o
  cases q:H a with
  | none=>rw [key a q] at e;cases e
  | some _=>exact e
 refine ⟨fun a=>match H a with | none=>H' a | some _=>Hc a,sm,⟨fun p c e => ?_,fun p e => ?_⟩,fun a h => ?_⟩
 ·obtain ⟨a,o,b,k⟩:=s.cell p c e
  refine ⟨?_,o,hs _ _ b,k.mono sm⟩
  show (match H p with | none=>H' p | some _=>Hc p)=none
  rw [b]
  exact a
 ·show H' p=(match H p with | none=>H' p | some _=>Hc p)
  cases q:H p with
  | none=>rfl
  | some o=>rw [hs _ _ q,← s.rest p e,q]
 ·show (match H a with | none=>H' a | some _=>Hc a)=H' a
  rw [h]
def xZ (p q:Int × Int):Prop:=SrtO.lexB q p=false
def an1 (K:PySem.W.Frag) (ta:TA):TE:=fun σ H Q=>ta σ H fun vs H1=>∃ (k1 k2:Kd) (a b:Addr) (ns ms:List Int),vs=[.ref a,.ref b]∧oZ K k1 H1 a (ns.map V.int)∧oZ K k2 H1 b (ms.map V.int) ∧
 ∀ (H':Hp) (d:Addr) (ps:List (Int × Int)) (ts:List Addr),Same H1 H'→ps.Perm (ns.zip ms)→ps.Pairwise xZ→H1 d=none→H' d=some (.lst (ts.map V.ref))→ts.length=ps.length →
  (∀ (j:Nat) t p,ts[j]? = some t→ps[j]? = some p→H1 t=none∧H' t=some (.tup [.int p.1,.int p.2]))→Q (.ref d) H'
theorem ak7 {X:Cx} {e e2:Expr} {ta:TA} {p p' pos pos':Pos} (hc:X.calm=true) (hg':Gl X "sorted") (hm':X.mg "sorted" = none) (hg:Gl X "zip") (hm:X.mg "zip" = none) (ha:PA X [e,e2] ta)
  (na':starEach [.Call (.Name "zip" p) [e,e2] [] pos] X.env=(false,eval (.Call (.Name "zip" p) [e,e2] [] pos) X.env)::starEach [] X.env:=by rfl)
  (hs:starEach [e,e2] X.env=(false,eval e X.env)::starEach [e2] X.env:=by rfl) (hpl:(backTo pos (starEach [e2] X.env)).any (·.1)=false:=by rfl) :
  PE X (.Call (.Name "sorted" p') [.Call (.Name "zip" p) [e,e2] [] pos] [] pos') (an1 X.K ta):=by
 refine ⟨fun pins s σ H Q I h => ?_⟩
 refine Call_ (ld_blt (u := .builtin "sorted") I hg' hm' (by decide +kernel) ?_)
 refine callWith_builtin1 (args_cons ?_ na') na' (by rfl)
 refine Call_ (ld_blt I hg hm PyProof.Rows.boot_zip (PyProof.Rows.callWith_type1 (thn (ha.run pos pins s σ H _ I h) fun us s1 ⟨vs,H1,I1,r1,q1⟩ => ?_) hs hpl))
 obtain ⟨k1,k2,a,b,ns,ms,ex,hqx,hqy,q⟩:=q1
 subst ex
 cases r1 with
 | cons r rr =>
  cases rr with
  | cons r' rr =>
   cases rr
   cases r
   cases r'
   obtain ⟨qH,Mj,p1,z1⟩:=qG I1 hqx
   obtain ⟨its2,rv2,p2,z2⟩:=qG I1 hqy
   have la:=p1.lt
   have lb:=p2.lt
   have l1:=Mj.length
   have l2:=rv2.length
   rw [List.length_map] at l1 l2
   have hh:∀ A',A'=X.A→A'.in1.in1.in1.handled=none:=fun A' e=>by rw [e];exact I1.ok.hd hc
   refine zip_begins2 (NZ k1 a qH.toArray) (NZ k2 b its2.toArray) p1 p2 fun h' hz hTI hTO h1 h2 hsz hk=>args_nil ?_
   have Sp:ZipSep2 (s1.heap.objs.size+4) (s1.heap.objs.size+2) (s1.heap.objs.size+3) s1.heap.objs.size (s1.heap.objs.size+1) [s1.heap.objs.size,a] [s1.heap.objs.size+1,b] :=
    zip_sep2 (fp1:=[a]) (fp2:=[b]) (fun c hc=>by rw [List.mem_singleton.mp hc];exact la) (fun c hc=>by rw [List.mem_singleton.mp hc];exact lb)
   have D1:=uU (prog:=X.prog) (w:=X.w) (hh X.A rfl) k1 s1.heap.objs.size a (Nat.ne_of_lt la) qH.toArray
   have D2:=uU (prog:=X.prog) (w:=X.w) (hh X.A rfl) k2 (s1.heap.objs.size+1) b (Nat.ne_of_lt (Nat.lt_succ_of_lt lb)) its2.toArray
   have sq1:Yd k1 h' a qH.toArray:=(NZ k1 a qH.toArray).keeps _ _ p1 fun b o e=>hk _ _ e
   have sq2:Yd k2 h' b its2.toArray:=(NZ k2 b its2.toArray).keeps _ _ p2 fun b o e=>hk _ _ e
   have i1:∀ (j:Nat) (v:Value),qH.toArray[j]? = some v→∃ (n:Int) (t:Tok),ns[j]? = some n∧v=Value.int n t:=fun j v e=>by
    have e':qH[j]? = some v:=by simpa using e
    have hl:j<ns.length:=by
     have:=(List.getElem?_eq_some_iff.mp e').1
     omega
    have en:ns[j]? = some ns[j]:=List.getElem?_eq_getElem hl
    obtain ⟨u,hu,ru⟩:=Mj.get (x:=V.int ns[j]) (by rw [List.getElem?_map,en];rfl)
    rw [e'] at hu
    cases hu
    obtain ⟨t,rfl⟩:=ru
    exact ⟨_,t,en,rfl⟩
   have i2:∀ (j:Nat) (v:Value),its2.toArray[j]? = some v→∃ (n:Int) (t:Tok),ms[j]? = some n∧v=Value.int n t:=fun j v e=>by
    have e':its2[j]? = some v:=by simpa using e
    have hl:j<ms.length:=by
     have:=(List.getElem?_eq_some_iff.mp e').1
     omega
    have en:ms[j]? = some ms[j]:=List.getElem?_eq_getElem hl
    obtain ⟨u,hu,ru⟩:=rv2.get (x:=V.int ms[j]) (by rw [List.getElem?_map,en];rfl)
    rw [e'] at hu
    cases hu
    obtain ⟨t,rfl⟩:=ru
    exact ⟨_,t,en,rfl⟩
   have big:∀ c∈[s1.heap.objs.size,a],c<h'.objs.size:=fun c hc=>by
    rcases List.mem_cons.mp hc with rfl | hc
    ·omega
    ·rw [List.mem_singleton.mp hc];exact Nat.lt_of_lt_of_le la (by omega)
   have ap7:∀ c∈[s1.heap.objs.size+1,b],c<h'.objs.size:=fun c hc=>by
    rcases List.mem_cons.mp hc with rfl | hc
    ·omega
    ·rw [List.mem_singleton.mp hc];exact Nat.lt_of_lt_of_le lb (by omega)
   refine ahA (s:={ s1 with heap:=h' }) Sp D1 D2 (fun j v e=>let ⟨n,t,_,e2⟩:=i1 j v e;⟨n,t,e2⟩) (fun j v e=>let ⟨n,t,_,e2⟩:=i2 j v e;⟨n,t,e2⟩) hz hTI hTO ⟨.first h1,sq1⟩ ⟨.first h2,sq2⟩ big ap7 (by rw [List.size_toArray,← l1];rw [List.length_map] at z1;exact z1) fun h3 tk acc d out k hk3 hd hdo hsa hG hne ap8 hperm adS => ?_
   replace hk3:∀ b o,b≠s1.heap.objs.size+4→b≠s1.heap.objs.size+3→b≠s1.heap.objs.size→b≠s1.heap.objs.size+1→h'.get? b=some o→h3.get? b=some o:=hk3
   replace hd:h'.objs.size≤d:=hd
   replace hG:an0 (fun i v=>qH.toArray[i]? = some v) (fun i v=>its2.toArray[i]? = some v) h'.objs.size h3 acc:=hG
   have keep:∀ b o,s1.heap.get? b=some o→h3.get? b=some o:=fun b o e=>by
    have lt:∀ n,b≠s1.heap.objs.size+n:=fun n=>Nat.ne_of_lt (Nat.lt_of_lt_of_le (Heap.lt_size e) (Nat.le_add_right _ _))
    exact hk3 b o (lt 4) (lt 3) (lt 0) (lt 1) (hk b o e)
   -- what stands at the kept tuples
   have hz':acc.toList.map k=ns.zip ms:=by
    apply List.ext_getElem?
    intro j
    rw [List.getElem?_map]
    cases ej:acc.toList[j]? with
    | none =>
     have l3:=List.getElem?_eq_none_iff.mp ej
     rw [Array.length_toList,hsa,List.size_toArray,List.size_toArray] at l3
     symm
     show (ns.zip ms)[j]? = none
     rw [List.getElem?_eq_none_iff,List.length_zip]
     omega
    | some v =>
     have ea:acc[j]? = some v:=by rw [← Array.getElem?_toList];exact ej
     have hv:v∈acc:=Array.mem_of_getElem? ea
     obtain ⟨T,x1,x2,rfl,_,q1,q2,t⟩:=hG j v ea
     obtain ⟨n,tn,en,rfl⟩:=i1 j x1 q1
     obtain ⟨m,tm,em,rfl⟩:=i2 j x2 q2
     obtain ⟨T',o,t1,t2,nn,e1,e2,e3,e4⟩:=adS _ hv
     cases e1
     rw [t] at e2
     cases e2
     injection e4 with e4 _
     have e5:=congrArg Array.toList e4
     injection e5 with e5 e6
     injection e6 with e6 _
     injection e5 with e5 _
     injection e6 with e6 _
     symm
     show (ns.zip ms)[j]? = some (k (.ref T))
     rw [List.getElem?_zip_eq_some (z:=(n,m)) |>.mpr ⟨en,em⟩,e5,e6]
   have hrefs:∀ v∈out,∃ T,v = .ref T:=fun v hv=>by
    obtain ⟨T,e,_⟩:=hne v (Array.mem_def.mpr (hperm.mem_iff.mp hv))
    exact ⟨T,e⟩
   let adr:Value→Addr:=fun v=>match v with | .ref T=>T | _=>0
   have hout:out=(out.map adr).map Value.ref:=by
    rw [List.map_map]
    conv=>lhs;rw [← List.map_id out]
    refine List.map_congr_left fun v hv => ?_
    obtain ⟨T,rfl⟩:=hrefs v hv
    rfl
   let H':Hp:=fun x=>if x=d then some (.lst ((out.map adr).map V.ref)) else if x∈out.map adr then some (.tup [.int (k (.ref x)).1,.int (k (.ref x)).2]) else H1 x
   have low:∀ T,T∈out.map adr→h'.objs.size<T∧T≠d∧Srt.IsPair h3 (.ref T) (k (.ref T)).1 (k (.ref T)).2:=fun T hT=>by
    obtain ⟨v,hv,rfl⟩:=List.mem_map.mp hT
    have hva:v∈acc:=Array.mem_def.mpr (hperm.mem_iff.mp hv)
    obtain ⟨T,rfl,hd'⟩:=hne v hva
    obtain ⟨j,hj,e⟩:=Array.mem_iff_getElem.mp hva
    obtain ⟨T',x1,x2,e1,l,_⟩:=hG j _ (by rw [Array.getElem?_eq_getElem hj,e])
    cases e1
    exact ⟨l,hd',adS _ hva⟩
   have amh:H1 d=none:=I1.hok.fresh (Nat.le_trans (by omega) hd)
   have ami:∀ T,T∈out.map adr→H1 T=none:=fun T hT=>I1.hok.fresh (Nat.le_trans (by omega) (Nat.le_of_lt (low T hT).1))
   have same:Same H1 H':=fun x o e=>by
    show (if x=d then _ else if x∈out.map adr then _ else H1 x)=some o
    rw [if_neg (fun z=>by rw [z,amh] at e;cases e),if_neg (fun z=>by rw [ami x z] at e;cases e)]
    exact e
   have atT:∀ T,T∈out.map adr→H' T=some (.tup [.int (k (.ref T)).1,.int (k (.ref T)).2]):=fun T hT=>by
    show (if T=d then _ else if T∈out.map adr then _ else H1 T)=_
    rw [if_neg (low T hT).2.1,if_pos hT]
   have atd:H' d=some (.lst ((out.map adr).map V.ref)):=if_pos rfl
   have aqz:out.length=min ns.length ms.length:=by rw [hperm.length_eq,Array.length_toList,hsa,List.size_toArray,List.size_toArray,← l1,← l2]
   rw [List.length_map] at z1
   have I4 : Inv X pins σ H' { s1 with heap := h3, toks := tk } := ak6 I1 keep same fun x o e n => by
    by_cases hx:x=d
    ·subst hx
     rw [atd] at e
     cases e
     obtain ⟨nn,hn⟩:=hdo
     refine ⟨Nat.le_trans (by omega) hd,by rw [List.length_map,List.length_map];omega,out,nn,?_,hn⟩
     conv=>arg 2;rw [hout]
     generalize out.map adr=ts
     induction ts with
     | nil=>exact .nil
     | cons t ts ih=>exact .cons rfl ih
    ·by_cases hT:x∈out.map adr
     ·rw [atT x hT] at e
      cases e
      obtain ⟨T',ob,t1,t2,nn,e1,e2,e3,e4⟩:=(low x hT).2.2
      cases e1
      exact ⟨Nat.le_trans (by omega) (Nat.le_of_lt (low x hT).1),by show 2≤sizeLine;decide,_,.cons ⟨t1,rfl⟩ (.cons ⟨t2,rfl⟩ .nil),ob,e2,e3,nn,e4⟩
     ·have:H' x=H1 x:=by
       show (if x=d then _ else if x∈out.map adr then _ else H1 x)=H1 x
       rw [if_neg hx,if_neg hT]
      rw [this,n] at e
      cases e
   refine ⟨.ref d,H',I4,rfl,q H' d (out.map k) (out.map adr) same (by rw [← hz'];exact hperm.map k) (SrtO.srtd_map (lt:=SrtO.lexB) (f:=k) ap8) amh atd (by rw [List.length_map,List.length_map]) fun j t p et ep => ?_⟩
   have hT:=List.mem_of_getElem? et
   refine ⟨ami t hT,?_⟩
   rw [atT t hT]
   rw [List.getElem?_map] at et ep
   obtain ⟨v,ev,rfl⟩:=Option.map_eq_some_iff.mp et
   rw [ev] at ep
   cases ep
   obtain ⟨T,rfl⟩:=hrefs v (List.mem_of_getElem? ev)
   rfl
def Ra:List D→Option (List Int)
 | []=>some []
 | .int i::r=>(Ra r).map (i :: ·)
 | _::_=>none
theorem acM:∀ ns:List Int,Ra (ns.map D.int)=some ns
 | []=>rfl
 | n::ns=>by
  show (Ra (ns.map D.int)).map (n :: ·)=_
  rw [acM ns]
  rfl
theorem Rb:∀ {ds:List D} {ns:List Int},Ra ds=some ns→ds=ns.map D.int
 | [],_,h=>by cases h;rfl
 | .int i::r,ns,h=>by
  obtain ⟨ms,h1,rfl⟩:=Option.map_eq_some_iff.mp (show (Ra r).map (i :: ·)=some ns from h)
  rw [Rb h1]
  rfl
def pairD (p:Int × Int):D := .tup [.int p.1,.int p.2]
def ak8 (o p:Option (List Int)) (Q:QD) (μ:M):Prop:=match o,p with
 | some ns,some ms=>∀ ps:List (Int × Int),ps.Perm (ns.zip ms)→ps.Pairwise xZ→Q (.lst (ps.map pairD)) μ
 | _,_=>False
theorem Mw {ns ms:List Int} {Q:QD} {μ:M}:ak8 (some ns) (some ms) Q μ=∀ ps:List (Int × Int),ps.Perm (ns.zip ms)→ps.Pairwise xZ→Q (.lst (ps.map pairD)) μ:=rfl
def Ur (μ:M) (d:D):Option (List Int):=match view μ d with
 | .lst xs=>Ra xs
 | .tup xs=>Ra xs
 | _=>none
def O2 (Q:QD) (ds:List D) (μ:M):Prop:=match ds with
 | [d,e]=>ak8 (Ur μ d) (Ur μ e) Q μ
 | _=>False
def O3 (tr:iU) (W:XD) (δ:Sl) (μ:M) (Q:QD):Prop:=tr W δ μ (O2 Q)
theorem agX {K:PySem.W.Frag} {H Hc:Hp} {μ:M} {v:V} {d:D} {ns:List Int} (s:Split K H Hc μ) (r:Rep K Hc v d) (h:Ur μ d=some ns):∃ k a,v = .ref a∧oZ K k H a (ns.map V.int):=by
 unfold Ur at h
 split at h
 ·rename_i xs e
  obtain ⟨a,vs,rfl,ha,ra⟩:=gq s r e
  rw [Rb h] at ra
  rw [ra.ints] at ha
  exact ⟨.l,a,rfl,SqL.of ha⟩
 ·rename_i xs e
  obtain ⟨a,vs,rfl,ha,ra⟩:=lB s r e
  rw [Rb h] at ra
  rw [ra.ints] at ha
  exact ⟨.t,a,rfl,ha⟩
 ·cases h
theorem ak9 {X:Cx} {W:WX} {a b:Expr} {tr:iU} {p p' pos pos':Pos} (hm':X.mg "sorted" = none) (hm:X.mg "zip" = none) (ha:DA X W [a,b] tr) (hc:X.calm=true:=by rfl) (hg':Gl X "sorted" := by rfl) (hg:Gl X "zip" := by rfl)
    (na':starEach [.Call (.Name "zip" p) [a,b] [] pos] X.env=(false,eval (.Call (.Name "zip" p) [a,b] [] pos) X.env)::starEach [] X.env:=by rfl)
    (hs:starEach [a,b] X.env=(false,eval a X.env)::starEach [b] X.env:=by rfl) (hpl:(backTo pos (starEach [b] X.env)).any (·.1)=false:=by rfl) :
    DE X W (.Call (.Name "sorted" p') [.Call (.Name "zip" p) [a,b] [] pos] [] pos') (O3 tr) :=
  PE.imp (ak7 hc hg' hm' hg hm ha na' hs hpl) fun σ H Q ⟨δ,μ,Hc,Qd,Xd,s,rs,h,rt,rx⟩=>⟨δ,μ,Hc,_,Xd,s,rs,h,fun ds μ1 h1 vs H1 cA e1 s1 r1=>by
    unfold O2 at h1
    split at h1
    · obtain ⟨v,u,rfl,r,r'⟩:=r1.NK
      unfold ak8 at h1
      split at h1
      · rename_i ns ms en em
        obtain ⟨k1,a1,rfl,q1⟩:=agX s1 r en
        obtain ⟨k2,a2,rfl,q2⟩:=agX s1 r' em
        refine ⟨k1,k2,a1,a2,ns,ms,rfl,q1,q2,fun H' d ps ts sm hp hs hd atd hl at_ => ?_⟩
        obtain ⟨bJ,e2,s2,hn⟩:=ahB s1 sm
        refine rt _ _ (h1 ps hp hs) _ _ _ (e1.trans e2) s2 (.lst (by rw [hn d hd];exact atd) ?_)
        have key:∀ (ts:List Addr) (ps:List (Int × Int)),ts.length=ps.length→(∀ (j:Nat) t p,ts[j]? = some t→ps[j]? = some p→H1 t=none∧H' t=some (.tup [.int p.1,.int p.2]))→bH X.K bJ (ts.map V.ref) (ps.map pairD):=by
          intro ts
          induction ts with
          | nil =>
            intro ps hl _
            cases ps with
            | nil=>exact .nil
            | cons p ps=>cases hl
          | cons t ts ih =>
            intro ps hl hat
            cases ps with
            | nil=>cases hl
            | cons p ps =>
              obtain ⟨a,b⟩:=hat 0 t p rfl rfl
              refine .cons (.tup (.inl (.inl (by rw [hn t a];exact b))) (.cons (.int _) (.cons (.int _) .nil))) (ih ps (by simpa using hl) fun j t' p' h1 h2=>hat (j+1) t' p' h1 h2)
        exact key ts ps hl at_
      · exact h1.elim
    · exact h1.elim,rx⟩
end DL
namespace DL
open PySem PySem.Spec PyProof.Rows L2
def valD {κ:Type} [DecidableEq κ] (kvs:List (κ × D)) (k:κ):Option D:=(kvs.find? fun kv=>decide (kv.1=k)).map (·.2)
def putD {κ:Type} [DecidableEq κ] (kvs:List (κ × D)) (k:κ) (v:D):List (κ × D):=if (kvs.any fun kv=>decide (kv.1=k))=true then kvs.map (fun kv=>if kv.1=k then (kv.1,v) else kv) else kvs++[(k,v)]
def O4 (kvs more:List (Key × D)):List (Key × D):=more.foldl (fun acc kv=>putD acc kv.1 kv.2) kvs
section
variable {K:PySem.W.Frag} {H:Hp} {κ:Type} [DecidableEq κ]
theorem iK.len:∀ {vs:List (κ × V)} {ds:List (κ × D)},iK K H vs ds→vs.length=ds.length
 | _,_,.nil=>rfl
 | _,_,.cons _ r=>congrArg (· + 1) r.len
theorem iK.val {k:κ}:∀ {vs:List (κ × V)} {ds:List (κ × D)},iK K H vs ds→(valV vs k=none∧valD ds k=none)∨∃ v d,valV vs k=some v∧valD ds k=some d∧Rep K H v d
 | _,_,.nil => .inl ⟨rfl,rfl⟩
 | _,_,.cons (x:=x) (v:=v) (d:=d) (vs:=vs) (ds:=ds) h r=>by
  by_cases e:x=k
  ·refine .inr ⟨v,d,?_,?_,h⟩
   ·unfold valV;rw [List.find?_cons];simp [e]
   ·unfold valD;rw [List.find?_cons];simp [e]
  ·rcases iK.val (k:=k) r with ⟨a,b⟩ | ⟨v',d',a,b,c⟩
   ·refine .inl ⟨?_,?_⟩
    ·unfold valV at a ⊢;rw [List.find?_cons];simpa [e] using a
    ·unfold valD at b ⊢;rw [List.find?_cons];simpa [e] using b
   ·refine .inr ⟨v',d',?_,?_,c⟩
    ·unfold valV at a ⊢;rw [List.find?_cons];simpa [e] using a
    ·unfold valD at b ⊢;rw [List.find?_cons];simpa [e] using b
theorem iK.amj {k:κ}:∀ {vs:List (κ × V)} {ds:List (κ × D)},iK K H vs ds→(vs.any fun kv=>decide (kv.1=k))=(ds.any fun kv=>decide (kv.1=k))
 | _,_,.nil=>rfl
 | _,_,.cons _ r=>by rw [List.any_cons,List.any_cons,r.amj]
theorem iK.aeJ {k:κ} {v:V} {d:D} (h:Rep K H v d):∀ {vs:List (κ × V)} {ds:List (κ × D)},iK K H vs ds→iK K H (vs.map fun kv=>if kv.1=k then (kv.1,v) else kv) (ds.map fun kv=>if kv.1=k then (kv.1,d) else kv)
 | _,_,.nil => .nil
 | _,_,.cons (x:=x) h' r=>by
  rw [List.map_cons,List.map_cons]
  by_cases e:x=k
  ·rw [if_pos e,if_pos e]
   exact .cons h (iK.aeJ h r)
  ·rw [if_neg e,if_neg e]
   exact .cons h' (iK.aeJ h r)
theorem iK.snoc {k:κ} {v:V} {d:D} (h:Rep K H v d):∀ {vs:List (κ × V)} {ds:List (κ × D)},iK K H vs ds→iK K H (vs++[(k,v)]) (ds++[(k,d)])
 | _,_,.nil => .cons h .nil
 | _,_,.cons h' r => .cons h' (iK.snoc h r)
theorem iK.put {k:κ} {v:V} {d:D} {vs:List (κ × V)} {ds:List (κ × D)} (h:Rep K H v d) (r:iK K H vs ds):iK K H (putK vs k v) (putD ds k d):=by
 unfold putK putD
 rw [r.amj]
 split
 ·exact r.aeJ h
 ·exact r.snoc h
end
theorem iK.merge {K:PySem.W.Frag} {H:Hp} {ms:List (Key × V)} {es:List (Key × D)} (h:iK K H ms es):∀ {vs:List (Key × V)} {ds:List (Key × D)},iK K H vs ds→iK K H (mergeK vs ms) (O4 ds es):=by
 induction h with
 | nil=>intro vs ds r;exact r
 | cons h q ih=>intro vs ds r;exact ih (r.put h)
def keyD:D→Option Key
 | .int i=>some (.inl i)
 | .str x=>some (.inr x)
 | _=>none
theorem aeK {K:PySem.W.Frag} {H:Hp} {v:V} {d:D} {k:Key} (r:Rep K H v d) (h:keyD d=some k):v=kV k:=by
 cases r<;>cases h<;>rfl
@[simp] theorem Rc {i:Int}:keyD (.int i)=some (.inl i):=rfl
@[simp] theorem Rf {x:Str}:keyD (.str x)=some (.inr x):=rfl
def Us (neg:Bool):lU:=fun y x μ Q=>match x with
 | .raw (.ref p)=>∃ kvs,μ p=some (.dk kvs)∧Jo (keyD y) fun k=>Q (.bl ((valD kvs k).isSome ^^ neg)) μ
 | _=>False
theorem abS {K:PySem.W.Frag} {H Hc:Hp} {μ:M} {p:Addr} {kvs:List (Key × D)} (s:Split K H Hc μ) (h:μ p=some (.dk kvs)):∃ vs,H p=some (.dK vs)∧iK K Hc vs kvs:=by
 obtain ⟨_,o,ho,vs,rfl,r⟩:=s.cell p _ h
 exact ⟨vs,ho,r⟩
theorem aoW {K:PySem.W.Frag}:vB K (fun y x H Q=>∃ a o,x=V.ref a∧DGet H a y o∧Q (.bl o.isSome) H) (Us false):=by
 intro x y d e H Hc μ Q Qd s rx ry h rt
 unfold Us at h
 split at h
 ·rename_i p
  obtain ⟨kvs,hp,h⟩:=h
  obtain ⟨k,hk,q⟩:=Jo.ex h
  obtain ⟨vs,ho,r⟩:=abS s hp
  cases ry
  have:=aeK rx hk
  subst this
  refine ⟨p,_,rfl,DGet.k ho,rt.val s (.bl _) ?_⟩
  rw [Bool.xor_false] at q
  rcases r.val (k:=k) with ⟨a,b⟩ | ⟨v',d',a,b,_⟩
  ·rw [a];rw [b] at q;exact q
  ·rw [a];rw [b] at q;exact q
 ·exact h.elim
section
variable {X:Cx} {W:WX} {a b e:Expr} {ta tb te:bZ} {pos:Pos} {k:Nat}
theorem dt_of {t:bZ} {r:TE} {op:CmpOp} (h:PT X (.Compare a [op] [b] pos) (tB r)) (i:∀ σ H Q,w6 X.K W t σ H Q→r σ H Q):DT X W (.Compare a [op] [b] pos) (dB t) :=
 PT.imp h fun σ H Q ⟨δ,μ,Hc,Qd,Xd,s,rs,h,rt,rx⟩=>i σ H _ ⟨δ,μ,Hc,_,Xd,s,rs,h,fun d μ' hd v H' bJ e1 s1 r1=>by
  cases r1 with
  | bl b=>exact ⟨b,rfl,rt b μ' hd H' bJ e1 s1⟩
  | _=>exact hd.elim,rx⟩
theorem an2 (hr:Room k X.A) (ha:DE X W a ta) (hb:DE X W b tb) (hm:behindInMarks .In b=false:=by rfl):DT X W (.Compare a [.In] [b] pos) (dB (aF (Us false) ta tb)):=dt_of (pt_cmp (pc_din (hu_of hr) ha hb) hm) (Zq aoW)
def O5 (E:bM) (δ:Sl) (d o i:D) (μ:M):Prop:=match o with
 | .raw (.ref p)=>∃ kvs,μ p=some (.dk kvs)∧kvs.length<sizeLine∧Jo (keyD i) fun k=>E.nx δ (cC μ p (.dk (putD kvs k d)))
 | _=>False
def Ut (ti:bZ) (E:bM) (δ:Sl) (d o:D) (μ:M):Prop:=ti (E.xc δ) δ μ (O5 E δ d o)
def Uu (to ti:bZ) (E:bM) (δ:Sl) (d:D) (μ:M):Prop:=to (E.xc δ) δ μ (Ut ti E δ d)
def Wx (te to ti:bZ) (E:bM) (δ:Sl) (μ:M):Prop:=te (E.xc δ) δ μ (Uu to ti E δ)
theorem amO {o i:Expr} {to ti:bZ} {pos':Pos} (hr:Room k X.A) (he:DE X W e te) (ho:DE X W o to) (hi:DE X W i ti) (hs:swapsWith e (some (.Subscript o i pos')) pos.line X.env=pure false:=by rfl) :
  DS X W (.Assign [.Subscript o i pos'] e pos) (Wx te to ti) :=
 PS.imp (ps_dput (hu_of hr) ho hi he hs) fun D σ H ⟨δ,μ,Hc,Dd,s,rs,h,rt⟩ =>
 ⟨δ, μ, Hc, _, _, s, rs, h, fun d μ1 h1 v H1 cA e1 s1 r1 => ⟨δ, μ1, cA, _, _, s1, rs.mono e1, h1, fun o' μ2 h2 w H2 dw e2 s2 r2 => ⟨δ, μ2, dw, _, _, s2, rs.mono (e1.trans e2), h2, fun i' μ3 h3 z H3 mU e3 s3 r3 => by
  unfold O5 at h3
  split at h3
  ·rename_i p
   obtain ⟨kvs,hp,hl,h4⟩:=h3
   obtain ⟨k,hk,hq⟩:=Jo.ex h4
   obtain ⟨vs,hoo,r⟩:=abS s3 hp
   cases r2
   have:=aeK r3 hk
   subst this
   refine ⟨p,_,rfl,DPut.k hoo (by rw [r.len];exact hl),?_⟩
   exact rt.nx _ _ hq _ _ mU ((e1.trans e2).trans e3) (s3.put hp ⟨_,rfl,r.put (r1.mono (e2.trans e3))⟩) (rs.mono ((e1.trans e2).trans e3))
  ·exact h3.elim,(rt.xc.at rs).mono (e1.trans e2)⟩,(rt.xc.at rs).mono e1⟩,rt.xc.at rs⟩
end
abbrev DTD:=XD→Sl→M→(List (D × D)→M→Prop)→Prop
def Wy (_:XD) (_:Sl) (μ:M) (Q:List (D × D)→M→Prop):Prop:=Q [] μ
def O6 (x y:D) (Q:List (D × D)→M→Prop) (r:List (D × D)) (μ:M):Prop:=Q ((x,y)::r) μ
def O7 (r:DTD) (W:XD) (δ:Sl) (Q:List (D × D)→M→Prop) (x y:D) (μ:M):Prop:=r W δ μ (O6 x y Q)
def O8 (tv:bZ) (r:DTD) (W:XD) (δ:Sl) (Q:List (D × D)→M→Prop) (x:D) (μ:M):Prop:=tv W δ μ (O7 r W δ Q x)
def O9 (tk tv:bZ) (r:DTD) (W:XD) (δ:Sl) (μ:M) (Q:List (D × D)→M→Prop):Prop:=tk W δ μ (O8 tv r W δ Q)
inductive Yj (K:PySem.W.Frag) (H:Hp):List (V × V)→List (D × D)→Prop
 | nil:Yj K H [] []
 | cons {v u:V} {d e:D} {vs:List (V × V)} {ds:List (D × D)}:Rep K H v d→Rep K H u e→Yj K H vs ds→Yj K H ((v,u)::vs) ((d,e)::ds)
def upP (K:PySem.W.Frag) (W:WX) (t:DTD) (σ:L2.St) (H:Hp) (Q:List (V × V)→Hp→Prop):Prop:=∃ δ μ Hc Qd Xd,Split K H Hc μ∧gM K Hc σ δ∧t Xd δ μ Qd ∧
 (∀ ds μ',Qd ds μ'→∀ vs H' bJ,Same Hc bJ→Split K H' bJ μ'→Yj K bJ vs ds→Q vs H')∧yX K Hc Xd (fun cls d H=>W cls d σ H)
structure DPs (X:Cx) (W:WX) (pos:Pos) (keys:List (Option Expr)) (values:List Expr) (t:DTD):Prop where
 ex:∃ trs,PPs X pos keys values trs∧∀ σ H Q,upP X.K W t σ H Q→tPairs trs σ H Q
theorem amP {X:Cx} {W:WX} {pos:Pos}:DPs X W pos [] [] Wy:=⟨[],pps_nil,fun σ H Q ⟨δ,μ,Hc,Qd,Xd,s,rs,h,rt,rx⟩=>rt _ _ h _ _ Hc (Same.refl _) s .nil⟩
theorem ak' {X:Cx} {W:WX} {pos:Pos} {k v:Expr} {ks:List (Option Expr)} {vs:List Expr} {tk tv:bZ} {r:DTD} (hk:DE X W k tk) (hv:DE X W v tv) (hr:DPs X W pos ks vs r):DPs X W pos (some k::ks) (v::vs) (O9 tk tv r):=by
 obtain ⟨trs,hp,hi⟩:=hr.ex
 refine ⟨_,pps_cons hk hv hp,fun σ H Q ⟨δ,μ,Hc,Qd,Xd,s,rs,h,rt,rx⟩=>⟨δ,μ,Hc,_,Xd,s,rs,h,fun d μ1 h1 x H1 cA e1 s1 r1=>⟨δ,μ1,cA,_,Xd,s1,rs.mono e1,h1,fun d2 μ2 h2 y H2 dw e2 s2 r2 => ?_,rx.mono e1⟩,rx⟩⟩
 exact hi σ H2 _ ⟨δ,μ2,dw,_,Xd,s2,rs.mono (e1.trans e2),h2,fun ds μ3 h3 ps H3 mU e3 s3 r3=>rt _ _ h3 _ _ _ ((e1.trans e2).trans e3) s3 (.cons (r1.mono (e2.trans e3)) (r2.mono e3) r3),rx.mono (e1.trans e2)⟩
def Mx:List (D × D)→Option (List (Key × D))
 | []=>some []
 | (x,y)::r=>match keyD x,Mx r with
  | some k,some l=>some ((k,y)::l)
  | _,_=>none
theorem acN {K:PySem.W.Frag} {H:Hp}:∀ {vs:List (V × V)} {ds:List (D × D)} {kds:List (Key × D)},Yj K H vs ds→Mx ds=some kds→∃ kvs:List (Key × V),vs=kvs.map (fun kv=>(kV kv.1,kv.2))∧iK K H kvs kds
 | _,_,_,.nil,h=>by cases h;exact ⟨[],rfl,.nil⟩
 | _,_,kds,.cons (d:=d) (ds:=ds) r1 r2 r,h=>by
  have h:(match keyD d,Mx ds with | some k,some l=>some ((k,_)::l) | _,_=>none)=some kds:=h
  split at h
  ·rename_i k l e1 e2
   cases h
   obtain ⟨kvs,rfl,rk⟩:=acN r e2
   have:=aeK r1 e1
   subst this
   exact ⟨(k,_)::kvs,rfl,.cons r2 rk⟩
  ·cases h
def Z8 (p:Addr) (Q:QD) (ps:List (D × D)) (μ:M):Prop:=μ p=some (.dk [])∧ps.length≤15∧Jo (Mx ps) fun kvs=>Q (.raw (.ref p)) (cC μ p (.dk (O4 [] kvs)))
def Wz (t:DTD) (W:XD) (δ:Sl) (μ:M) (Q:QD):Prop:=∀ p,μ p=none→t W δ (cC μ p (.dk [])) (Z8 p Q)
theorem Yj.len {K:PySem.W.Frag} {H:Hp}:∀ {vs:List (V × V)} {ds:List (D × D)},Yj K H vs ds→vs.length=ds.length
 | _,_,.nil=>rfl
 | _,_,.cons _ _ r=>congrArg (· + 1) r.len
theorem amQ {X:Cx} {W:WX} {pos:Pos} {keys:List (Option Expr)} {values:List Expr} {t:DTD} (h:DPs X W pos keys values t) (hall:keys.all (·.isSome)=true:=by rfl) (hl:keys.length=values.length:=by rfl) (h0:keys≠[]:=by exact fun z=>by cases z)
  (h15:keys.length≤15:=by decide):DE X W (.Dict keys values pos) (Wz t):=by
 obtain ⟨trs,hp,hi⟩:=h.ex
 refine PE.imp (pe_disp hp hall hl h0 h15) fun σ H Q ⟨δ,μ,Hc,Qd,Xd,s,rs,h,rt,rx⟩ p hp => ?_
 have s1:Split X.K (upd H p (.dK [])) Hc (cC μ p (.dk [])):=s.new hp ⟨[],rfl,.nil⟩
 refine hi σ _ _ ⟨δ,_,Hc,_,Xd,s1,rs,h p (s.fresh hp).1,fun ds μ2 h2 ps H2 dw e2 s2 r2 => ?_,rx⟩
 obtain ⟨hμ,aqA,h3⟩:=h2
 obtain ⟨kds,hk,q⟩:=Jo.ex h3
 obtain ⟨vs,hv,rv⟩:=abS s2 hμ
 cases rv
 obtain ⟨kvs,rfl,rk⟩:=acN r2 hk
 refine ⟨hv,kvs,rfl,?_,?_⟩
 ·have:=r2.len
  rw [List.length_map] at this
  omega
 ·exact rt _ _ q _ _ dw e2 (s2.put hμ ⟨_,rfl,iK.merge rk .nil⟩) (.raw _)
end DL
namespace DL
open PySem PySem.Spec PyProof.Rows L2
def amk (K:PySem.W.Frag):V→List V→Hp→VK→Prop:=fun x xs H Q=>∃ (a:Addr) (vs:List V) (v:V) (ds:List PyData) (d:PyData) (j:Nat),x = .ref a∧xs=[v]∧H a=some (.lst vs)∧DpAll K H vs ds∧Dp K H v d∧PyData.plainAll ds=true∧d.plain=true∧d.depth≤64∧PySem.SeqAt.dataPlace ds d=some j∧Q .non (upd H a (.lst (vs.eraseIdx j)))
theorem amR {X:Cx} {k:Nat} (hr:Room k X.A):MtR X "list.remove" (amk X.K):=by
 intro pins s σ H x xs v us Q I rx rxs h
 obtain ⟨a,vs,y,ds,d,j,rfl,rfl,hs,hds,hd,p1,p2,dep,hj,q⟩:=h
 cases rx
 obtain ⟨u,rfl,ru⟩:=rxs.one
 obtain ⟨z,its,n,rv,hl,e⟩:=I.lstM hs
 obtain ⟨as,rs⟩:=Dp.readsAll I _ _ _ hds rv
 obtain ⟨bs,rx⟩:=Dp.reads I _ _ _ hd ru
 have big:=hr.un
 refine PySem.SeqAt.remove_list_data (vs:=its.toArray) ⟨_,e,rfl,n,rfl⟩ (by simpa using rs) rx p1 p2 (by have:=Nat.min_le_right (PyData.depthAll ds) d.depth;omega) hj (by rw [List.size_toArray];omega) ?_
 have le:(its.eraseIdx j).length≤its.length:=List.length_eraseIdx_le ..
 refine ⟨.non,_,I.lset (its':=its.eraseIdx j) (t':=s.toks) hs e ?_ (rv.eraseIdx j) ?_,rfl,q⟩
 ·show its.toArray.eraseIdxIfInBounds j=(its.eraseIdx j).toArray
  rw [List.eraseIdxIfInBounds_toArray]
 ·have:=(rv.eraseIdx j).length
  omega
def zj:Xu:=fun d ds μ Q=>match d,ds with
 | .raw (.ref p),[y]=>∃ (xs:List D) (j:Nat),μ p=some (.lst xs)∧okN 64 (.lst xs)=true∧okN 64 y=true∧xs.findIdx? (fun z=>tU z y)=some j∧Q .non (cC μ p (.lst (xs.eraseIdx j)))
 | _,_=>False
theorem findIdx_map {α β:Type} (f:α→β) (p:β→Bool):∀ (xs:List α),(xs.map f).findIdx? p=xs.findIdx? fun x=>p (f x)
 | []=>rfl
 | x::xs=>by
  rw [List.map_cons,List.findIdx?_cons,List.findIdx?_cons,findIdx_map f p xs]
theorem an3 {K:PySem.W.Frag}:LMt K (amk K) zj:=by
 intro v d vs ds H Hc μ Q Qd s r ra h rt
 unfold zj at h
 split at h
 ·rename_i p y
  obtain ⟨xs,j,hp,h1,h2,hj,q⟩:=h
  obtain ⟨us,hu,ru⟩:=QK s hp
  obtain ⟨w,rfl,rw'⟩:=ra.one'
  cases zL r
  have hall:∀ z∈xs,okN 63 z=true:=List.all_eq_true.mp h1
  refine ⟨_,us,w,lC xs,toP y,j,rfl,rfl,hu,Zr hall (ru.mono s.same),V8 h2 (rw'.mono s.same),Xw fun z hz=>PyData.plain_of_canLay0 _ (IK 63 z (hall z hz)).1,PyData.plain_of_canLay0 _ (IK 64 y h2).1,(IK 64 y h2).2,?_,rt.putL s hp (ru.eraseIdx j) .non q⟩
  unfold PySem.SeqAt.dataPlace
  rw [agQ,findIdx_map]
  exact hj
 ·exact h.elim
end DL
set_option maxHeartbeats 4000000
namespace DL
open PySem PySem.Spec PyProof.Rows L2
structure ahC (K:PySem.W.Frag) (B:Addr):Prop where
 ga:PySem.W.specialIn K (.ref B) "__getattribute__" = some (some (.builtin "type.__getattribute__"))
 rd:PySem.W.readsIn K B (.type "type")=true
 fi:PySem.W.findCls K (.ref B) (.type "type") "__init__" = some (.val (.builtin "ValueError.__init__"))
section
variable {X:Cx} {e:Expr} {es:List Expr} {ta:TA} {p p1 p2 pos:Pos}
theorem ahD {x:Str} {B:Addr} {pl:Sem Bool} (T:ahC X.K B) (hg:Gl X x) (hm:X.mg x=some (.ref B)) (ha:PA X (e::es) ta) (hdb:(x == ("__debug__" : Str))=false:=by decide)
  (hc:eval (.Call (.Attribute (.Name x p1) "__init__" p2) (e::es) [] pos) X.env=(do
   let ov ← eval (.Name x p1) X.env
   standAt p2.atName
   let (f,first) ← holding [ov] (getMethod ov "__init__" pl)
   callWith pos f first (backTo pos (starEach (e::es) X.env)) (backToKw pos (keywordEach [] X.env))):=by rfl)
  (he:starEach (e::es) X.env=(false,eval e X.env)::starEach es X.env:=by rfl) (hpl:(backTo pos (starEach es X.env)).any (·.1)=false:=by rfl) :
  PE X (.Call (.Attribute (.Name x p1) "__init__" p2) (e::es) [] pos) (tVeI X.K ta):=by
 constructor
 intro pins s σ H Q I h
 have args:∀ {s1:Shared} {H1:Hp} {us:List Value} {vs:List V},Inv X pins σ H1 s1→Vals vs us→(∃ (a C:Addr) (ws:List V),vs = .ref a::ws∧ws.length≤1000∧OexC X.K C∧H1 a=some (exo a C none)∧Q .non H1) →
   wpAny (model X.prog X.w) X.A (call (.builtin "ValueError.__init__") us) (EP X pins σ Q) X.xe s1:=by
  rintro s1 H1 us vs J r ⟨a,C,ws,rfl,few,own,here,q⟩
  cases r with
  | @cons _ u _ rest r0 rr =>
   cases (show u=Value.ref a from r0)
   have short:rest.length≤sizeLine:=by
    have:=Paired.length rr
    rw [sizeLine_eq]
    omega
   exact oinit_ok own J here short fun s' K'=>⟨V.non,H1,K',rfl,q⟩
 exact PySem.W.methodCall_KW (ld_glob I hg hm (PySem.W.method_cls I.kIn T.ga (PySem.W.cls_value I.kIn T.rd T.fi (by decide +kernel)
  (PyProof.Rows.callWith_method1 (thn (ha.run pos pins _ σ H _ (I.tok _) h) fun us s1 ⟨vs,H1,J,r,k⟩=>args J r k) he hpl))) hdb) hc
def spI (K:PySem.W.Frag) (fs:List Str):Sp:=fun vs H Q _=>∃ (a C:Addr) (ws:List V),vs = .ref a::ws∧ws.length=fs.length∧OexC K C∧(∀ f∈fs,PySem.W.findIn K (.ref C) f=some none)∧H a=some (exo a C none) ∧
 ∀ dx,H dx=none→dx≠a→Q .non (upd (upd H dx (exd dx (fs.zip ws).reverse)) a (exo a C (some dx)))
theorem ap9 {H:Hp} {a b:Addr} {o p q:HO} (h:b≠a):upd (upd (upd H b o) a p) b q=upd (upd H b q) a p:=by
 funext c
 by_cases h1:c=a
 ·rw [h1,upd_ne (Ne.symm h),upd_same,upd_same]
 ·by_cases h2:c=b
  ·rw [h2,upd_same,upd_ne h,upd_same]
  ·rw [upd_ne h2,upd_ne h1,upd_ne h2,upd_ne h1,upd_ne h2]
def ajr (K:PySem.W.Frag) (m f1 f2:Str):TS:=tSeq (tDrop (tVeI K (tCons (tVar 0) (tCons (tC (.str m)) tNil)))) (tSeq (tOst K f1 (tVar 0) (tVar 1)) (tOst K f2 (tVar 0) (tVar 2)))
theorem ajs {K:PySem.W.Frag} {m f1 f2:Str} {N:List Str} {vs:List V} {H:Hp} {Q:VK} {E:XK} (hN:N.length=3) (h:spI K [f1,f2] vs H Q E):ajr K m f1 f2 { nx:=fun _ H'=>Q .non H',rt:=Q } (L2.start N vs) H:=by
 obtain ⟨a,C,ws,rfl,hl,T,hf,ha,q⟩:=h
 obtain ⟨x,y,rfl⟩:∃ x y,ws=[x,y]:=by
  match ws,hl with
  | [x,y],_=>exact ⟨x,y,rfl⟩
 have es:L2.start N [V.ref a,x,y]=[some (.ref a),some x,some y]:=by
  unfold L2.start
  rw [hN]
  rfl
 rw [es]
 refine ⟨.ref a,rfl,a,C,[V.str m],rfl,(by show 1≤1000;decide),T,ha,x,rfl,.ref a,rfl,a,C,rfl,T,hf f1 (by simp),.inl ⟨ha,fun dx h1 h2 => ?_⟩⟩
 refine ⟨y,rfl,.ref a,rfl,a,C,rfl,T,hf f2 (by simp),.inr ⟨dx,[(f1,x)],upd_same,?_,(by show 1≤900;decide),?_⟩⟩
 ·rw [upd_ne h2,upd_same]
 ·rw [ap9 h2]
  exact q dx h1 h2
end
structure Uv (P:Program) (w:World) (K:PySem.W.Frag) (mg:Str→Option Value) (base:Heap) (x:Str) (C:Addr) (fs:List Str):Prop where
 T:OexC K C
 g:mg x=some (.ref C)
 no:∀ f∈fs,PySem.W.findIn K (.ref C) f=some none
 ex:∃ (fI:Addr) (fd:FuncData) (ps:List Str),PySem.W.findIn K (.ref C) "__init__" = some (some (.ref fI))∧PySem.W.typeIn K (.ref fI)=some (.type "function")∧FnOk P w K mg base CX0 1 fI fd ps (spI K fs)∧Binds K fd ps []
section
variable {P:Program} {w:World} {K:PySem.W.Frag} {mg:Str→Option Value} {base:Heap} {x qual:Str} {st:Stmt} {C f:Addr} {fd:FuncData} {N ps:List Str} {m f1 f2:Str}
theorem aoX (T:OexC K C) (g:mg x=some (.ref C)) (no:∀ f∈[f1,f2],PySem.W.findIn K (.ref C) f=some none) (iC:PySem.W.findIn K (.ref C) "__init__" = some (some (.ref f))) (tI:PySem.W.typeIn K (.ref f)=some (.type "function"))
  (F:Fun K "__init__" qual st f fd) (bn:Binds K fd ps []) (S:FnScope N ps (defScope st)) (hn:N.length=3) (hp:ps.length=3)
  (hd:∀ (cdv:Value) (A:Around) (outer:List Env) (s:Shared) (H:Hp) (E:XK),PSs (cxOf CX0 P w K mg base N qual (defScope st) f cdv A outer s H E).nox (defBody st) (ajr K m f1 f2)):Uv P w K mg base x C [f1,f2]:=by
 refine ⟨T,g,no,f,fd,ps,iC,tI,?_,bn⟩
 refine F.ok (k:=0) S (fun vs H Q E ⟨a,C,ws,e,hl,_⟩=>by rw [e,hp];show ws.length+1=3;rw [hl];rfl) (fun cdv A outer s H vs Q E hr h=>⟨_,hd cdv A outer s H E,ajs hn h⟩)
end
def Pa (C:Addr) (fs:List Str) (E:bM) (δ:Sl) (ds:List D) (μ:M):Prop:=ds.length=fs.length∧E.xc δ (.ref C) (some (fs.zip ds).reverse) μ
def lX (C:Addr) (fs:List Str) (tr:iU) (E:bM) (δ:Sl) (μ:M):Prop:=tr (E.xc δ) δ μ (Pa C fs E δ)
theorem jJ.append {K:PySem.W.Frag} {H:Hp}:∀ {vs us:List (Str × V)} {ds es:List (Str × D)},jJ K H vs ds→jJ K H us es→jJ K H (vs++us) (ds++es)
 | _,_,_,_,.nil,r=>r
 | _,_,_,_,.cons h r,r2 => .cons h (jJ.append r r2)
theorem aeL {K:PySem.W.Frag} {H:Hp}:∀ {fs:List Str} {vs:List V} {ds:List D},bH K H vs ds→jJ K H (fs.zip vs).reverse (fs.zip ds).reverse
 | [],_,_,_ => .nil
 | f::fs,_,_,.nil => .nil
 | f::fs,_,_,.cons h r=>by
  rw [List.zip_cons_cons,List.zip_cons_cons,List.reverse_cons,List.reverse_cons]
  exact (aeL r).append (.cons h .nil)
theorem af0 {H:Hp} {a d:Addr} {fs:List (Str × V)} {o:HO} {o2 o3:HO} (ha:H a=none) (hd:d≠a):upd (del (upd (upd (upd H a o) d o2) a o3) a) d (.xd fs)=upd H d (.xd fs):=by
 funext c
 by_cases h2:c=d
 ·rw [h2,upd_same,upd_same]
 ·rw [upd_ne h2,upd_ne h2]
  by_cases h1:c=a
  ·rw [h1,del_same,ha]
  ·rw [del_ne h1,upd_ne h1,upd_ne h2,upd_ne h1]
section
variable {X:Cx} {W:WX} {e:Expr} {es:List Expr} {tr:iU} {p pos pos':Pos} {x:Str} {C:Addr} {fs:List Str}
theorem oH (T:Uv X.prog X.w X.K X.mg X.base x C fs) (hr:Room 2 X.A) (tk:Takes X W) (ha:DA X W (e::es) tr) (hfs:fs.length≤1000:=by decide) (hc:X.calm=true:=by rfl) (hg:Gl X x:=by rfl) (hdb:(x == ("__debug__" : Str))=false:=by decide)
  (he:starEach (e::es) X.env=(false,eval e X.env)::starEach es X.env:=by rfl) (hpl:(backTo pos (starEach es X.env)).any (·.1)=false:=by rfl):DS X W (.Raise (some (.Call (.Name x p) (e::es) [] pos)) none pos') (lX C fs tr):=by
 obtain ⟨TT,g,no,fI,fd,ps,iC,tI,F1,bn⟩:=T
 refine PS.imp (ps_raise hc tk (pmk_oex TT iC tI F1 hr bn .nil (fun _ _ _ _ _ _ _ z=>z.elim) hg g ha hdb he hpl)) fun D σ H ⟨δ,μ,Hc,Dd,s,rs,h,rt⟩ => ?_
 refine ⟨δ,μ,Hc,_,_,s,rs,h,fun ds μ1 ⟨hl,hx⟩ vs H1 cA e1 s1 r1 => ?_,rt.xc.at rs⟩
 refine ⟨?_,fun a hna=>⟨a,C,vs,by rw [List.append_nil],by rw [r1.length];exact hl,TT,no,upd_same,fun dx hd hda=>⟨rfl,dx,(fs.zip vs).reverse,upd_same,?_,?_,?_⟩⟩⟩
 ·rw [r1.length,hl]
  exact hfs
 ·rw [upd_ne hda,upd_same]
 ·rw [upd_ne hda] at hd
  exact hd
 ·rw [upd_ne hda] at hd
  rw [af0 hna hda]
  refine rt.xc δ _ _ μ1 hx σ (some dx) _ (upd cA dx (.xd (fs.zip vs).reverse)) (e1.trans (oX (s1.fresh hd).2)) (s1.data hd) (rs.mono (e1.trans (oX (s1.fresh hd).2))) ⟨_,upd_same,(aeL r1).mono (oX (s1.fresh hd).2)⟩
end
section
variable {X:Cx} {W:WX} {e:Expr} {es:List Expr} {ta:TA} {tr:iU} {te:bZ} {p pos:Pos} {x:Str} {C:Addr} {fs:List Str}
end
end DL
namespace DL
open PySem
end DL
namespace DL
open PySem PySem.Spec L2
section
variable {W:XD} {δ:Sl} {μ:M} {te tb:bZ} {tr:iU} {d x y:D} {ds:List D}
def lY (te:bZ) (W:XD) (δ:Sl) (μ:M) (d:D):Prop:=∀ Q:QD,Q d μ→te W δ μ Q
def Yk (tr:iU) (W:XD) (δ:Sl) (μ:M) (ds:List D):Prop:=∀ Q:List D→M→Prop,Q ds μ→tr W δ μ Q
theorem fZ:Yk aC W δ μ []:=fun Q q=>q
theorem aR (h1:lY te W δ μ d) (h2:Yk tr W δ μ ds):Yk (ao te tr) W δ μ (d::ds):=fun Q q=>h1 _ (h2 _ q)
theorem jw (h:Yk tr W δ μ ds) (hl:ds.length≤sizeLine):lY (dTup tr) W δ μ (.tup ds):=fun Q q=>h _ ⟨hl,q⟩
theorem wJ (h:Yk tr W δ μ ds) (hl:ds.length≤sizeLine):lY (d7 tr) W δ μ (.lst ds):=fun Q q=>h _ ⟨hl,q⟩
theorem ajt {g:lU} (h1:lY te W δ μ x) (h2:lY tb W δ μ y) (h:∀ Q:QD,Q d μ→g x y μ Q):lY (aF g te tb) W δ μ d:=fun Q q=>h1 _ (h2 _ (h Q q))
theorem WD {i:Nat} {E:bM} {rest:bh} (h:lY te (E.xc δ) δ μ d) (q:rest E (δ.set i (some d)) μ):aJ (aZ i te) rest E δ μ:=h _ q
theorem aju {i:Nat} {g:lU} {E:bM} {rest:bh} (h:lY te (E.xc δ) δ μ x) (q:X7 g tb (E.xc δ) δ (abD i { E with nx:=rest E } δ) x μ):aJ (aZ i (aF g te tb)) rest E δ μ:=h _ q
end
end DL
set_option maxHeartbeats 2000000
namespace DL
open PySem PySem.Spec L2
mutual
inductive DV (μ μ2:M):D→D→Prop
 | same (d:D):DV μ μ2 d d
 | Jx {p:Addr} {ds es:List D}:μ p=some (.lst ds)→μ2 p=none→DVA μ μ2 ds es→DV μ μ2 (.raw (.ref p)) (.lst es)
 | lst {ds es:List D}:DVA μ μ2 ds es→DV μ μ2 (.lst ds) (.lst es)
 | tup {ds es:List D}:DVA μ μ2 ds es→DV μ μ2 (.tup ds) (.tup es)
inductive DVA (μ μ2:M):List D→List D→Prop
 | nil:DVA μ μ2 [] []
 | cons {d e:D} {ds es:List D}:DV μ μ2 d e→DVA μ μ2 ds es→DVA μ μ2 (d::ds) (e::es)
end
theorem DVA.same {μ μ2:M}:∀ ds:List D,DVA μ μ2 ds ds
 | [] => .nil
 | d::ds => .cons (.same d) (DVA.same ds)
section
variable {K:PySem.W.Frag} {H Hc dw:Hp} {μ μ2:M}
mutual
theorem DV.rep (s:Split K H Hc μ) (e2:Same Hc dw) (hh:∀ p,μ2 p=none→dw p=H p):∀ {d e:D} {v:V},DV μ μ2 d e→Rep K Hc v d→Rep K dw v e
 | _,_,_,.same d,r=>r.mono e2
 | _,_,v,.Jx (p:=p) hp hn va,r=>by
  cases r with
  | raw =>
   obtain ⟨_,o,ho,vs,rfl,ra⟩:=s.cell p _ hp
   exact .lst (by rw [hh p hn];exact ho) (DVA.rep s e2 hh va ra)
 | _,_,v,.lst va,r=>by
  cases r with
  | lst h ra=>exact .lst (e2 _ _ h) (DVA.rep s e2 hh va ra)
 | _,_,v,.tup va,r=>by
  cases r with
  | tup h ra=>exact .tup (xQ e2 h) (DVA.rep s e2 hh va ra)
theorem DVA.rep (s:Split K H Hc μ) (e2:Same Hc dw) (hh:∀ p,μ2 p=none→dw p=H p):∀ {ds es:List D} {vs:List V},DVA μ μ2 ds es→bH K Hc vs ds→bH K dw vs es
 | _,_,_,.nil,r=>by cases r;exact .nil
 | _,_,_,.cons a va,r=>by
  cases r with
  | cons x ra=>exact .cons (DV.rep s e2 hh a x) (DVA.rep s e2 hh va ra)
end
end
def noM:M:=fun _=>none
def ala (μ:M):List Nat→Sl→(Sl→Prop)→Prop
 | [],δ,P=>P δ
 | i::is,δ,P=>∃ d e,δ[i]? = some (some d)∧DV μ noM d e∧ala μ is (δ.set i (some e)) P
theorem ala.rep {K:PySem.W.Frag} {H Hc dw:Hp} {μ:M} (s:Split K H Hc μ) (e2:Same Hc dw) (hh:∀ p,noM p=none→dw p=H p) {P:Sl→Prop}:∀ {is:List Nat} {δ δ0:Sl} {σ:L2.St},ala μ is δ P→gM K Hc σ δ0→gM K dw σ δ→(∀ i∈is,δ[i]? = δ0[i]? ∨ True)→(∀ i d,δ[i]? = some (some d)→δ0[i]? = some (some d)∨i ∉ is)→is.Nodup→∃ δ',P δ'∧gM K dw σ δ':=by
 intro is
 induction is with
 | nil=>intro δ δ0 σ h r0 r _ _ _;exact ⟨δ,h,r⟩
 | cons i is ih =>
  rintro δ δ0 σ ⟨d,e,hd,v,h⟩ r0 r hx hy hnd
  have h0:δ0[i]? = some (some d):=(hy i d hd).resolve_right fun z=>z List.mem_cons_self
  obtain ⟨u,hu,ru⟩:=r0.val i d h0
  have re:=v.rep s e2 hh ru
  have r2:=r.set i re
  have eσ:σ.set i (some u)=σ:=by
   obtain ⟨hi,e⟩:=List.getElem?_eq_some_iff.mp hu
   rw [← e,List.set_getElem_self]
  rw [eσ] at r2
  refine ih (δ0:=δ0) h r0 r2 (fun _ _ => .inr trivial) (fun j d' hj => ?_) (List.nodup_cons.mp hnd).2
  by_cases hji:i=j
  ·subst hji
   exact .inr (List.nodup_cons.mp hnd).1
  ·rw [List.getElem?_set_ne hji] at hj
   rcases hy j d' hj with z | z
   ·exact .inl z
   ·exact .inr fun w=>z (List.mem_cons_of_mem _ w)
section
variable {X:Cx} {W:WX} {e:Expr} {te:bZ}
def aeM (Q:QD) (d:D) (μ:M):Prop:=∃ μ2 e,Sub μ2 μ∧DV μ μ2 d e∧Q e μ2
def Yl (t:bZ) (W:XD) (δ:Sl) (μ:M) (Q:QD):Prop:=t W δ μ (aeM Q)
theorem aeN (h:DE X W e te):DE X W e (Yl te):=PE.imp h fun σ H Q ⟨δ,μ,Hc,Qd,Xd,s,rs,h,rt,rx⟩=>⟨δ,μ,Hc,_,Xd,s,rs,h,fun d μ1 h1 v H1 cA e1 s1 r1=>by
 obtain ⟨μ2,e,sb,v,q⟩:=h1
 obtain ⟨dw,e2,s2,hh⟩:=s1.sub sb
 exact rt _ _ q _ _ dw (e1.trans e2) s2 (v.rep s1 e2 hh r1),rx⟩
end
end DL
namespace DL
open PySem PySem.Spec L2
abbrev Rg (K:PySem.W.Frag) (x qual:Str) (st:Stmt) (dvs:List V) (f:Addr) (fd:FuncData):Prop:=FunD K x qual (defArgs st) (defBody st) (defScope st) dvs [] f fd
structure Ym (P:Program) (w:World) (K:PySem.W.Frag) (mg:Str→Option Value) (base:Heap) (CX:CXT) (x qual:Str) (st:Stmt) (k:Nat) (ps:List Str) (dvs:List V) (c:Ct):Prop where
 ex:∃ f fd,Rg K x qual st dvs f fd∧mg x=some (.ref f)∧FnOk P w K mg base CX k f fd ps (Jt K c)
def ahE (K:PySem.W.Frag) (x qual:Str) (st:Stmt) (dvs:List V) (ps ks:List Str) (m n:Nat) (pm:List Nat):Prop:=∀ (f:Addr) (fd:FuncData),Rg K x qual st dvs f fd →
 ∃ its,Vals dvs its∧∀ (s:Shared) (us:List Value),K.In s.heap→us.length=n→BindsTo s fd ⟨us.take m,ks.zip (us.drop m)⟩ (ps.zip (pick pm (us++its)))
section
variable {x qual:Str} {st:Stmt} {ps:List Str}
theorem abT {K:PySem.W.Frag} {dvs:List V} {ks:List Str} {m n:Nat} {pm:List Nat} (hd:dvs≠[])
  (h:∀ (T:Addr) (kV doc pmv:Value) (an:Option Addr) (cdv ct:Value) (us its:List Value),us.length=n→its.length=dvs.length →
   ∃ k,bindArgs (PySem.W.fnOf x qual (defArgs st) (defBody st) (defScope st) (.ref T) kV doc pmv an cdv ct) ⟨us.take m,ks.zip (us.drop m)⟩=seqItems? (.ref T) >>= k∧k (some its.toArray)=pure (ps.zip (pick pm (us++its)))) :
  ahE K x qual st dvs ps ks m n pm:=fun f fd F=>by
 obtain ⟨oc,od,dV,kV,doc,pmv,an,cdv,ct,osl,rfl,lk,hcd,hD,hK⟩:=F.ex
 rcases hD with ⟨e,_⟩ | ⟨_,T,o,its,q,rfl,lT,oT,rT⟩
 ·exact absurd e hd
 ·refine ⟨its,rT,fun s us X hl => ?_⟩
  obtain ⟨k,e1,e2⟩:=h T kV doc pmv an cdv ct us its hl rT.length.symm
  refine BindsTo.of_looks fun M => ?_
  rw [e1]
  exact looks_items X lT oT (.of_pure e2)
end
section
variable {X:Cx} {W:WX} {a b e:Expr} {es:List Expr} {pos p:Pos} {ta tb te:bZ} {tr tk:iU} {CX:CXT} {x qual:Str} {st:Stmt} {k:Nat} {ps:List Str} {c:Ct} {dvs:List V} {u5:List D}
end
section
variable {P:Program} {w:World} {K:PySem.W.Frag} {mg:Str→Option Value} {base:Heap} {x qual:Str} {st:Stmt} {f:Addr} {fd:FuncData} {N ps:List Str} {k n m:Nat} {c:Ct} {t:bh} {dvs:List V}
theorem aoY (F:Rg K x qual st dvs f fd) (hm:mg x=some (.ref f)) (S:FnScope N ps (defScope st)) (len:Len c m) (hb:HB c t n)
  (hd:∀ (cdv:Value) (A:Around) (outer:List Env) (s:Shared) (H:Hp) (E:XK),Room k (A.deeper (PyProof.Rows.envOfC qual (defScope st) s.heap.objs.size f cdv))→pX (cxOf CX0 P w K mg base N qual (defScope st) f cdv A outer s H E).nox W0 (defBody st) t)
  (hn:N.length=n:=by rfl) (hp:ps.length=m:=by rfl):Ym P w K mg base CX0 x qual st (k+1) ps dvs c:=by
 subst hn hp
 refine ⟨f,fd,F,hm,?_⟩
 refine F.ok S (fun vs H Q E ⟨ds,μ,Hc,Qd,Xd,s,ra,h,rt,rx⟩=>by rw [ra.length];exact len _ _ _ _ h) (fun cdv A outer s H vs Q E hr h => ?_)
 obtain ⟨ds,μ,Hc,Qd,Xd,sp,ra,h,rt,rx⟩:=h
 refine ⟨_,(hd cdv A outer s H E hr).nox,_,μ,Hc,_,sp,oF ra,hb _ _ _ _ h,?_⟩
 exact ⟨fun δ μ' h' σ H' bJ e' s' rs'=>jF rt _ _ h' _ _ _ e' s' .non,jF rt,fun _ _ z=>z.elim,fun _ _ z=>z.elim,fun _ _ _ _ z=>z.elim⟩
end
end DL
namespace DL
open PySem PySem.Spec PyProof.Rows L2
def rA (f:Str) (d:D):List (Str × D)→List (Str × D)
 | []=>[(f,d)]
 | (g,x)::r=>if g=f then (g,d)::r else (g,x)::rA f d r
section
variable {K:PySem.W.Frag} {H:Hp}
theorem jJ.put {f:Str} {v:V} {d:D} (h:Rep K H v d):∀ {vs:List (Str × V)} {ds:List (Str × D)},jJ K H vs ds→jJ K H (putF f v vs) (rA f d ds)
 | _,_,.nil => .cons h .nil
 | _,_,.cons (x:=g) a r=>by
  unfold putF rA
  by_cases e:g=f
  ·rw [if_pos e,if_pos e]
   exact .cons h r
  ·rw [if_neg e,if_neg e]
   exact .cons a (jJ.put h r)
theorem jJ.get {f:Str} {d:D}:∀ {vs:List (Str × V)} {ds:List (Str × D)},jJ K H vs ds→ds.lookup f=some d→∃ v,vs.lookup f=some v∧Rep K H v d
 | _,_,.nil,h=>by cases h
 | _,_,.cons (x:=g) a r,h=>by
  rw [List.lookup_cons] at h ⊢
  cases e:f == g with
  | true =>
   rw [e] at h
   cases h
   exact ⟨_,rfl,a⟩
  | false =>
   rw [e] at h
   exact jJ.get r h
theorem jJ.no {f:Str}:∀ {vs:List (Str × V)} {ds:List (Str × D)},jJ K H vs ds→ds.lookup f=none→vs.lookup f=none
 | _,_,.nil,_=>rfl
 | _,_,.cons (x:=g) a r,h=>by
  rw [List.lookup_cons] at h ⊢
  cases e:f == g with
  | true =>
   rw [e] at h
   cases h
  | false =>
   rw [e] at h
   exact jJ.no r h
theorem jJ.len:∀ {vs:List (Str × V)} {ds:List (Str × D)},jJ K H vs ds→vs.length=ds.length
 | _,_,.nil=>rfl
 | _,_,.cons _ r=>congrArg (· + 1) (jJ.len r)
theorem Cv {Hc:Hp} {μ:M} {a C dx:Addr} {fs:List (Str × D)} (s:Split K H Hc μ) (h:μ a=some (.ins C dx fs)):∃ vs,H a=some (.ins C dx vs)∧jJ K Hc vs fs:=by
 obtain ⟨_,o,ho,vs,rfl,r⟩:=s.cell a _ h
 exact ⟨vs,ho,r⟩
end
def abU (C:Addr) (f:Str) (Q:QD) (d:D) (μ:M):Prop:=match d with
 | .raw (.ref a)=>∃ dx fs e,μ a=some (.ins C dx fs)∧fs.lookup f=some e∧Q e μ
 | _=>False
def oG (C:Addr) (f:Str) (te:bZ) (W:XD) (δ:Sl) (μ:M) (Q:QD):Prop:=te W δ μ (abU C f Q)
def Cy (C:Addr) (f:Str) (E:bM) (δ:Sl) (d o:D) (μ:M):Prop:=match o with
 | .raw (.ref a)=>∃ dx fs,μ a=some (.ins C dx fs)∧fs.length<1000∧E.nx δ (cC μ a (.ins C dx (rA f d fs)))
 | _=>False
def JF (C:Addr) (f:Str) (to:bZ) (E:bM) (δ:Sl) (d:D) (μ:M):Prop:=to (E.xc δ) δ μ (Cy C f E δ d)
def wL (C:Addr) (f:Str) (te to:bZ) (E:bM) (δ:Sl) (μ:M):Prop:=te (E.xc δ) δ μ (JF C f to E δ)
section
variable {X:Cx} {W:WX} {e o:Expr} {te to:bZ} {f:Str} {C:Addr} {pos pos':Pos}
theorem lE (c:Cls X.K C) (n:NoAttr X.K C f) (he:DE X W e te) (hb:attributeBase e f X.env (eval e X.env)=eval e X.env:=by rfl):DE X W (.Attribute e f pos) (oG C f te) :=
 PE.imp (pe_fld he hb) fun σ H Q ⟨δ,μ,Hc,Qd,Xd,s,rs,h,rt,rx⟩=>⟨δ,μ,Hc,_,Xd,s,rs,h,fun d μ1 h1 v H1 cA e1 s1 r1=>by
  unfold abU at h1
  split at h1
  ·rename_i a
   obtain ⟨dx,fs,e2,hμ,hl,q⟩:=h1
   cases r1
   obtain ⟨vs,hH,rf⟩:=Cv s1 hμ
   obtain ⟨v,hv,rv⟩:=rf.get hl
   exact ⟨a,C,dx,vs,v,rfl,hH,c,n,hv,rt _ _ q _ _ cA e1 s1 rv⟩
  ·exact h1.elim,rx⟩
theorem Z9 (c:Cls X.K C) (n:NoAttr X.K C f) (he:DE X W e te) (ho:DE X W o to) (hs:swapsWith e (some (.Attribute o f pos')) pos.line X.env=pure false:=by rfl):DS X W (.Assign [.Attribute o f pos'] e pos) (wL C f te to) :=
 PS.imp (ps_fld ho he hs) fun D σ H ⟨δ,μ,Hc,Dd,s,rs,h,rt⟩=>⟨δ,μ,Hc,_,_,s,rs,h,fun d μ1 h1 v H1 cA e1 s1 r1 =>
  ⟨δ, μ1, cA, _, _, s1, rs.mono e1, h1, fun d2 μ2 h2 v2 H2 dw e2 s2 r2 => by
   unfold Cy at h2
   split at h2
   ·rename_i a
    obtain ⟨dx,fs,hμ,hl,q⟩:=h2
    cases r2
    obtain ⟨vs,hH,rf⟩:=Cv s2 hμ
    refine ⟨a,C,dx,vs,rfl,hH,c,n,by rw [rf.len];exact hl,?_⟩
    exact rt.nx _ _ q _ _ dw (e1.trans e2) (s2.put hμ ⟨_,rfl,rf.put (r1.mono e2)⟩) (rs.mono (e1.trans e2))
   ·exact h2.elim,(rt.xc.at rs).mono e1⟩,rt.xc.at rs⟩
end
theorem alb {K:PySem.W.Frag} {x qual:Str} {st:Stmt} {ps ks:List Str} {m n:Nat} {pm:List Nat}
  (h:∀ (kV doc pmv:Value) (an:Option Addr) (cdv ct:Value) (us:List Value),us.length=n→bindArgs (PySem.W.fnOf x qual (defArgs st) (defBody st) (defScope st) .none kV doc pmv an cdv ct) ⟨us.take m,ks.zip (us.drop m)⟩=pure (ps.zip (pick pm us))) :
  ahE K x qual st [] ps ks m n pm:=fun f fd F=>by
 obtain ⟨oc,od,dV,kV,doc,pmv,an,cdv,ct,osl,rfl,lk,hcd,hD,hK⟩:=F.ex
 rcases hD with ⟨_,rfl⟩ | ⟨e,_⟩
 ·refine ⟨[],.nil,fun s us X hl => ?_⟩
  rw [List.append_nil]
  exact .of_eq (h kV doc pmv an cdv ct us hl)
 ·exact absurd rfl e
structure abV (P:Program) (w:World) (K:PySem.W.Frag) (mg:Str→Option Value) (base:Heap) (CX:CXT) (C:Addr) (m qual:Str) (st:Stmt) (k:Nat) (ps:List Str) (dvs:List V) (c:Ct):Prop where
 ex:∃ f fd,Rg K m qual st dvs f fd∧Meth K C m f∧FnOk P w K mg base CX k f fd ps (Jt K c)
section
variable {X:Cx} {W:WX} {CX:CXT} {f:Addr} {fd:FuncData} {k n m:Nat} {pm:List Nat} {ps ks:List Str} {c:Ct} {dvs:List V} {u5:List D}
theorem an4 {pins:List (Addr × Obj)} {σ:L2.St} {H Hc:Hp} {s:Shared} {Q:VK} {us ws its:List Value} {vs zs:List V} {ds es:List D} {μ:M} {Qd:QD} {Xd:XD} (G:FnOk X.prog X.w X.K X.mg X.base CX k f fd ps (Jt X.K c)) (hr:Room k X.A) (pw:Pw CX X W)
  (I:Inv X pins σ H s) (rI:Vals dvs its) (kb:∀ (s:Shared) (us:List Value),X.K.In s.heap→us.length=n→BindsTo s fd ⟨us.take m,ks.zip (us.drop m)⟩ (ps.zip (pick pm (us++its)))) (rv:Vals vs us) (rz:Vals zs ws) (hm:us.length=m)
  (sp:Split X.K H Hc μ) (rd:bH X.K Hc (vs++zs) (ds++es)) (rf:bH X.K Hc dvs u5) (hn:(ds++es).length=n) (h:c (pick pm ((ds++es)++u5)) μ Qd Xd) (rt:pW X.K Hc Qd Q) (rx:yX X.K Hc Xd (WE W σ)) :
  wpAny (model X.prog X.w) X.A (call (.ref f) us (ks.zip ws)) (EP X pins σ Q) X.xe s:=by
 have both:Vals (vs++zs) (us++ws):=rv.append rz
 have many:(us++ws).length=n:=by rw [← both.length,rd.length];exact hn
 have b:=kb s (us++ws) I.kIn many
 rw [List.take_left' hm,List.drop_left' hm] at b
 have want:Jt X.K c (pick pm ((vs++zs)++dvs)) H Q (WE W σ):=⟨_,μ,Hc,Qd,Xd,sp,(rd.append rf).pick pm,h,rt,rx⟩
 have ran:=G.run X.A X.stack s H ⟨us,ks.zip ws⟩ _ _ Q (WE W σ) hr I.env0 b (Mf (both.append rI) pm) want
 refine wpAny_call (codeAny_mono ran fun r s' got => ?_)
 match r,got with
 | .error e,got=>exact pw σ pins H s e s' I got
 | .ok (.ret u),got=>exact I.after got
end
def Ao (c:Ct) (n:Nat) (pm:List Nat) (u5:List D) (W:XD) (Q:QD) (o:D) (ds es:List D) (μ:M):Prop:=(o::ds++es).length=n∧c (pick pm ((o::ds++es)++u5)) μ Q W
def Pb (c:Ct) (n:Nat) (pm:List Nat) (u5:List D) (tk:iU) (W:XD) (δ:Sl) (Q:QD) (o:D) (ds:List D) (μ:M):Prop:=tk W δ μ (Ao c n pm u5 W Q o ds)
def JG (C:Addr) (nm:Str) (c:Ct) (n:Nat) (pm:List Nat) (u5:List D) (tr tk:iU) (W:XD) (δ:Sl) (Q:QD) (o:D) (μ:M):Prop:=match o with
 | .raw (.ref a)=>(∃ dx fs,μ a=some (.ins C dx fs)∧fs.lookup nm=none)∧tr W δ μ (Pb c n pm u5 tk W δ Q o)
 | _=>False
def qm (C:Addr) (nm:Str) (c:Ct) (n:Nat) (pm:List Nat) (u5:List D) (to:bZ) (tr tk:iU) (W:XD) (δ:Sl) (μ:M) (Q:QD):Prop:=to W δ μ (JG C nm c n pm u5 tr tk W δ Q)
section
variable {X:Cx} {W:WX} {o e:Expr} {es:List Expr} {pos apos:Pos} {to:bZ} {tr tk:iU} {CX:CXT} {C:Addr} {nm qual:Str} {st:Stmt} {k n m:Nat} {pm:List Nat} {ps ks:List Str} {c:Ct} {dvs:List V} {u5:List D} {kws:List Keyword} {pl:Sem Bool}
theorem Yn (F:abV X.prog X.w X.K X.mg X.base CX C nm qual st k ps dvs c) (cl:Cls X.K C) (hr:Room k X.A) (pw:Pw CX X W) (kb:ahE X.K nm qual st dvs ps ks (m+1) n pm) (rf:∀ H,bH X.K H dvs u5) (ho:DE X W o to) (ha:DA X W (e::es) tr) (hkw:DK X W kws tk)
  (hall:(backToKw pos (keywordEach kws X.env)).all (·.1.isSome)=true:=by rfl) (hks:(backToKw pos (keywordEach kws X.env)).filterMap (·.1)=ks:=by rfl)
  (he:starEach (e::es) X.env=(false,eval e X.env)::starEach es X.env:=by rfl)
  (hpl:((backTo pos (starEach (e::es) X.env)).any (·.1) || (backToKw pos (keywordEach kws X.env)).any (·.1.isNone))=false:=by rfl)
  (ht:eval (.Call (.Attribute o nm apos) (e::es) kws pos) X.env=(do
   let ov ← eval o X.env
   standAt apos.atName
   let (f,first) ← holding [ov] (getMethod ov nm pl)
   callWith pos f first (backTo pos (starEach (e::es) X.env)) (backToKw pos (keywordEach kws X.env))):=by rfl) :
  DE X W (.Call (.Attribute o nm apos) (e::es) kws pos) (qm C nm c n pm u5 to (tX m tr) tk):=by
 obtain ⟨f,fd,FF,hm,G⟩:=F.ex
 obtain ⟨its,rI,kb⟩:=kb f fd FF
 constructor
 intro pins s σ H Q I ⟨δ,μ,Hc,Qd,Xd,sp,rs,h,rt,rx⟩
 have at_:=ho.run pins s σ H (fun v H1=>∃ a dx fs μ1 cA,v = .ref a∧Same Hc cA∧Split X.K H1 cA μ1∧μ1 a=some (.ins C dx fs)∧fs.lookup nm=none∧tX m tr Xd δ μ1 (Pb c n pm u5 tk Xd δ Qd (.raw (.ref a)))) I ⟨δ,μ,Hc,_,Xd,sp,rs,h,fun d μ1 h1 v H1 cA e1 s1 r1=>by
  unfold JG at h1
  split at h1
  ·rename_i a
   obtain ⟨⟨dx,fs,hμ,hl⟩,h2⟩:=h1
   cases r1
   exact ⟨a,dx,fs,μ1,cA,rfl,e1,s1,hμ,hl,h2⟩
  ·exact h1.elim,rx⟩
 refine PySem.W.methodCall_KW (pl:=pl) (thn at_ ?_) ht
 rintro u s1 ⟨_,H1,I1,ru,a,dx,fs,μ1,cA,rfl,e1,sp1,hμ,hl,h1⟩
 obtain rfl:u=Value.ref a:=ru
 obtain ⟨vs0,hH,rf0⟩:=Cv sp1 hμ
 refine getmeth_ok I1 hH cl hm (rf0.no hl) ?_
 refine PySem.W.callWith_KW (first:=[.ref a]) (h₀:=X.base) I.ok.mod.kin hm.kp hall (thn (ha.run pos pins s1 σ H1 (fun vs H2=>∃ ds μ2 dw,Same cA dw∧Split X.K H2 dw μ2∧bH X.K dw vs ds∧ds.length=m∧tk Xd δ μ2 (Ao c n pm u5 Xd Qd (.raw (.ref a)) ds)) I1
  ⟨δ,μ1,cA,_,Xd,sp1,rs.mono e1,h1,fun ds μ2 h2 vs H2 dw e2 s2 r2=>⟨ds,μ2,dw,e2,s2,r2,h2.1,h2.2⟩,rx.mono e1⟩) ?_) hpl he
 rintro us s2 ⟨vs,H2,I2,rv,ds,μ2,dw,e2,sp2,rd,hd,h2⟩
 refine thn (hkw.run pos pins s2 σ H2 (fun zs H3=>∃ es μ3 mU,Same dw mU∧Split X.K H3 mU μ3∧bH X.K mU zs es∧Ao c n pm u5 Xd Qd (.raw (.ref a)) ds es μ3) I2 ⟨δ,μ2,dw,_,Xd,sp2,rs.mono (e1.trans e2),h2,fun es μ3 h3 zs H3 mU e3 s3 r3=>⟨es,μ3,mU,e3,s3,r3,h3⟩,rx.mono (e1.trans e2)⟩) ?_
 rintro ws s3 ⟨zs,H3,I3,rz,es',μ3,mU,e3,sp3,re,hn,hc⟩
 refine ⟨I3.kIn,?_⟩
 rw [hks]
 exact an4 (m:=m+1) (us := .ref a::us) (vs := .ref a::vs) (ds := .raw (.ref a)::ds) G hr pw I3 rI kb (.cons rfl rv) rz (by rw [List.length_cons,← rv.length,rd.length,hd]) sp3 (.cons (.raw _) ((rd.mono e3).append re)) (rf _) hn hc (rt.mono (e1.trans (e2.trans e3))) (rx.mono (e1.trans (e2.trans e3)))
theorem ajv (F:abV X.prog X.w X.K X.mg X.base CX C nm qual st k ps dvs c) (cl:Cls X.K C) (hr:Room k X.A) (pw:Pw CX X W) (kb:ahE X.K nm qual st dvs ps ks 1 n pm) (rf:∀ H,bH X.K H dvs u5) (ho:DE X W o to) (hkw:DK X W kws tk)
  (hall:(backToKw pos (keywordEach kws X.env)).all (·.1.isSome)=true:=by rfl) (hks:(backToKw pos (keywordEach kws X.env)).filterMap (·.1)=ks:=by rfl)
  (hpl:((backTo pos (starEach [] X.env)).any (·.1) || (backToKw pos (keywordEach kws X.env)).any (·.1.isNone))=false:=by rfl)
  (ht:eval (.Call (.Attribute o nm apos) [] kws pos) X.env=(do
   let ov ← eval o X.env
   standAt apos.atName
   let (f,first) ← holding [ov] (getMethod ov nm pl)
   callWith pos f first (backTo pos (starEach [] X.env)) (backToKw pos (keywordEach kws X.env))):=by rfl) :
  DE X W (.Call (.Attribute o nm apos) [] kws pos) (qm C nm c n pm u5 to aC tk):=by
 obtain ⟨f,fd,FF,hm,G⟩:=F.ex
 obtain ⟨its,rI,kb⟩:=kb f fd FF
 constructor
 intro pins s σ H Q I ⟨δ,μ,Hc,Qd,Xd,sp,rs,h,rt,rx⟩
 have at_:=ho.run pins s σ H (fun v H1=>∃ a dx fs μ1 cA,v = .ref a∧Same Hc cA∧Split X.K H1 cA μ1∧μ1 a=some (.ins C dx fs)∧fs.lookup nm=none∧tk Xd δ μ1 (Ao c n pm u5 Xd Qd (.raw (.ref a)) [])) I ⟨δ,μ,Hc,_,Xd,sp,rs,h,fun d μ1 h1 v H1 cA e1 s1 r1=>by
  unfold JG at h1
  split at h1
  ·rename_i a
   obtain ⟨⟨dx,fs,hμ,hl⟩,h2⟩:=h1
   cases r1
   exact ⟨a,dx,fs,μ1,cA,rfl,e1,s1,hμ,hl,h2⟩
  ·exact h1.elim,rx⟩
 refine PySem.W.methodCall_KW (pl:=pl) (thn at_ ?_) ht
 rintro u s1 ⟨_,H1,I1,ru,a,dx,fs,μ1,cA,rfl,e1,sp1,hμ,hl,h1⟩
 obtain rfl:u=Value.ref a:=ru
 obtain ⟨vs0,hH,rf0⟩:=Cv sp1 hμ
 refine getmeth_ok I1 hH cl hm (rf0.no hl) ?_
 refine PySem.W.callWith_KW0 (first:=[.ref a]) (h₀:=X.base) I.ok.mod.kin hm.kp hall (thn (hkw.run pos pins s1 σ H1 (fun zs H3=>∃ es μ3 mU,Same cA mU∧Split X.K H3 mU μ3∧bH X.K mU zs es∧Ao c n pm u5 Xd Qd (.raw (.ref a)) [] es μ3) I1 ⟨δ,μ1,cA,_,Xd,sp1,rs.mono e1,h1,fun es μ3 h3 zs H3 mU e3 s3 r3=>⟨es,μ3,mU,e3,s3,r3,h3⟩,rx.mono e1⟩) ?_) hpl
 rintro ws s3 ⟨zs,H3,I3,rz,es',μ3,mU,e3,sp3,re,hn,hc⟩
 refine ⟨I3.kIn,?_⟩
 rw [hks]
 exact an4 (m:=1) (us:=[.ref a]) (vs:=[.ref a]) (ds:=[.raw (.ref a)]) G hr pw I3 rI kb (.cons rfl .nil) rz rfl sp3 (.cons (.raw _) re) (rf _) hn hc (rt.mono (e1.trans e3)) (rx.mono (e1.trans e3))
end
structure aqa (P:Program) (w:World) (K:PySem.W.Frag) (mg:Str→Option Value) (base:Heap) (CX:CXT) (x:Str) (C:Addr) (qual:Str) (st:Stmt) (k:Nat) (ps:List Str) (dvs:List V) (c:Ct):Prop where
 g:mg x=some (.ref C)
 ex:∃ f fd,Rg K "__init__" qual st dvs f fd∧Mk K C f∧FnOk P w K mg base CX k f fd ps (Jt K c)
def aac (Q:QD) (x:Addr) (d:D) (μ:M):Prop:=d = .non∧Q (.raw (.ref x)) μ
def aeO (C x dx:Addr) (μ:M):M:=cC (cC μ dx (.own x)) x (.ins C dx [])
section
variable {X:Cx} {W:WX} {CX:CXT} {f C:Addr} {fd:FuncData} {k n m:Nat} {pm:List Nat} {ps ks:List Str} {c:Ct} {dvs:List V} {u5:List D}
theorem ahF {K:PySem.W.Frag} {H Hc:Hp} {μ:M} {x dx:Addr} (s:Split K H Hc μ) (hx:H x=none) (hd:H dx=none) (ne:dx≠x):Split K (upd (upd H dx (.own x)) x (.ins C dx [])) Hc (aeO C x dx μ):=by
 have s1:=s.new (c := .own x) hd rfl
 exact s1.new (c := .ins C dx []) (by rw [upd_ne (Ne.symm ne)];exact hx) ⟨[],rfl,.nil⟩
end
section
variable {X:Cx} {W:WX} {e:Expr} {es:List Expr} {pos p:Pos} {tr tk:iU} {CX:CXT} {C:Addr} {x qual:Str} {st:Stmt} {k n m:Nat} {pm:List Nat} {ps ks:List Str} {c:Ct} {dvs:List V} {u5:List D} {kws:List Keyword}
end
end DL
namespace DL
open PySem PySem.Spec PyProof.Rows L2
structure wM (P:Program) (w:World) (K:PySem.W.Frag) (mg:Str→Option Value) (base:Heap) (CX:CXT) (C:Addr) (m qual:Str) (st:Stmt) (k:Nat) (ps:List Str) (c:Ct):Prop where
 ex:∃ f fd,Fun K m qual st f fd∧Meth K C m f∧FnOk P w K mg base CX k f fd ps (Jt K c)∧Binds K fd ps []
structure adT (P:Program) (w:World) (K:PySem.W.Frag) (mg:Str→Option Value) (base:Heap) (CX:CXT) (x:Str) (C:Addr) (qual:Str) (st:Stmt) (k:Nat) (ps:List Str) (c:Ct):Prop where
 g:mg x=some (.ref C)
 ex:∃ f fd,Fun K "__init__" qual st f fd∧Mk K C f∧FnOk P w K mg base CX k f fd ps (Jt K c)∧Binds K fd ps []
def abW (c:Ct) (W:XD) (Q:QD) (o:D) (ds:List D) (μ:M):Prop:=c (o::ds) μ Q W
def Yo (C:Addr) (nm:Str) (c:Ct) (tr:iU) (W:XD) (δ:Sl) (Q:QD) (o:D) (μ:M):Prop:=match o with
 | .raw (.ref a)=>∃ dx fs,μ a=some (.ins C dx fs)∧fs.lookup nm=none∧tr W δ μ (abW c W Q (.raw (.ref a)))
 | _=>False
def jD (C:Addr) (nm:Str) (c:Ct) (to:bZ) (tr:iU) (W:XD) (δ:Sl) (μ:M) (Q:QD):Prop:=to W δ μ (Yo C nm c tr W δ Q)
section
variable {X:Cx} {W:WX} {o e:Expr} {es:List Expr} {pos apos:Pos} {to:bZ} {tr:iU} {CX:CXT} {C:Addr} {nm qual:Str} {st:Stmt} {k:Nat} {ps:List Str} {c:Ct} {pl:Sem Bool}
theorem rG (F:wM X.prog X.w X.K X.mg X.base CX C nm qual st k ps c) (cl:Cls X.K C) (hr:Room k X.A) (pw:Pw CX X W) (ho:DE X W o to) (ha:DA X W (e::es) tr)
  (hst:starEach (e::es) X.env=(false,eval e X.env)::starEach es X.env:=by rfl) (hpl:(backTo pos (starEach es X.env)).any (·.1)=false:=by rfl)
  (ht:eval (.Call (.Attribute o nm apos) (e::es) [] pos) X.env=(do
   let ov ← eval o X.env
   standAt apos.atName
   let (f,first) ← holding [ov] (getMethod ov nm pl)
   callWith pos f first (backTo pos (starEach (e::es) X.env)) (backToKw pos (keywordEach [] X.env))):=by rfl) :
  DE X W (.Call (.Attribute o nm apos) (e::es) [] pos) (jD C nm c to tr):=by
 obtain ⟨f,fd,FF,hm,G,bn⟩:=F.ex
 refine ⟨fun pins s σ H Q I ⟨δ,μ,Hc,Qd,Xd,sp,rs,h,rt,rx⟩ => ?_⟩
 have at_:=ho.run pins s σ H (fun v H1=>∃ a dx fs μ1 cA,v = .ref a∧Same Hc cA∧Split X.K H1 cA μ1∧μ1 a=some (.ins C dx fs)∧fs.lookup nm=none∧tr Xd δ μ1 (abW c Xd Qd (.raw (.ref a)))) I
  ⟨δ, μ, Hc, _, Xd, sp, rs, h, fun d μ1 h1 v H1 cA e1 s1 r1 => by
   unfold Yo at h1
   split at h1
   ·rename_i a
    obtain ⟨dx,fs,hμ,hl,h2⟩:=h1
    cases r1
    exact ⟨a,dx,fs,μ1,cA,rfl,e1,s1,hμ,hl,h2⟩
   ·exact h1.elim,rx⟩
 refine PySem.W.methodCall_KW (pl:=pl) (thn at_ ?_) ht
 rintro u s1 ⟨_,H1,I1,ru,a,dx,fs,μ1,cA,rfl,e1,sp1,hμ,hl,h1⟩
 obtain rfl:u=Value.ref a:=ru
 obtain ⟨vs0,hH,rf0⟩:=Cv sp1 hμ
 refine getmeth_ok I1 hH cl hm (rf0.no hl) ?_
 refine PySem.W.callWith_K (first:=[.ref a]) (h₀:=X.base) I.ok.mod.kin hm.kp (thn (ha.run pos pins s1 σ H1 (fun vs H2=>∃ ds μ2 dw,Same cA dw∧Split X.K H2 dw μ2∧bH X.K dw vs ds∧c (.raw (.ref a)::ds) μ2 Qd Xd) I1
  ⟨δ,μ1,cA,_,Xd,sp1,rs.mono e1,h1,fun ds μ2 h2 vs H2 dw e2 s2 r2=>⟨ds,μ2,dw,e2,s2,r2,h2⟩,rx.mono e1⟩) fun us s2 ⟨vs,H2,I2,r,ds,μ2,dw,e2,sp2,rd,h2⟩=>⟨I2.kIn,?_⟩) hst hpl
 exact run_fnS (us := .ref a::us) (vs := .ref a::vs) (E:=WE W) G hr bn (pw σ) I2 (.cons rfl r) ⟨.raw (.ref a)::ds,μ2,dw,Qd,Xd,sp2,.cons (.raw _) rd,h2,rt.mono (e1.trans e2),rx.mono (e1.trans e2)⟩
theorem Yp (F:wM X.prog X.w X.K X.mg X.base CX C nm qual st k ps c) (cl:Cls X.K C) (hr:Room k X.A) (pw:Pw CX X W) (ho:DE X W o to)
  (ht:eval (.Call (.Attribute o nm apos) [] [] pos) X.env=(do
   let ov ← eval o X.env
   standAt apos.atName
   let (f,first) ← holding [ov] (getMethod ov nm pl)
   callWith pos f first (backTo pos (starEach [] X.env)) (backToKw pos (keywordEach [] X.env))):=by rfl) :
  DE X W (.Call (.Attribute o nm apos) [] [] pos) (jD C nm c to aC):=by
 obtain ⟨f,fd,FF,hm,G,bn⟩:=F.ex
 refine ⟨fun pins s σ H Q I ⟨δ,μ,Hc,Qd,Xd,sp,rs,h,rt,rx⟩ => ?_⟩
 have at_:=ho.run pins s σ H (fun v H1=>∃ a dx fs μ1 cA,v = .ref a∧Same Hc cA∧Split X.K H1 cA μ1∧μ1 a=some (.ins C dx fs)∧fs.lookup nm=none∧c [.raw (.ref a)] μ1 Qd Xd) I
  ⟨δ, μ, Hc, _, Xd, sp, rs, h, fun d μ1 h1 v H1 cA e1 s1 r1 => by
   unfold Yo at h1
   split at h1
   ·rename_i a
    obtain ⟨dx,fs,hμ,hl,h2⟩:=h1
    cases r1
    exact ⟨a,dx,fs,μ1,cA,rfl,e1,s1,hμ,hl,h2⟩
   ·exact h1.elim,rx⟩
 refine PySem.W.methodCall_KW (pl:=pl) (thn at_ ?_) ht
 rintro u s1 ⟨_,H1,I1,ru,a,dx,fs,μ1,cA,rfl,e1,sp1,hμ,hl,h1⟩
 obtain rfl:u=Value.ref a:=ru
 obtain ⟨vs0,hH,rf0⟩:=Cv sp1 hμ
 refine getmeth_ok I1 hH cl hm (rf0.no hl) ?_
 exact PySem.W.callWith_K0 (first:=[.ref a]) I1.kIn hm.kp (run_fnS (us:=[.ref a]) (vs:=[.ref a]) (E:=WE W) G hr bn (pw σ) I1 (.cons rfl .nil) ⟨[.raw (.ref a)],μ1,cA,Qd,Xd,sp1,.cons (.raw _) .nil,h1,rt.mono e1,rx.mono e1⟩)
end
def kMk (c:Ct) (C:Addr) (W:XD) (Q:QD) (ds:List D) (μ:M):Prop:=∀ x dx,μ x=none→μ dx=none→dx≠x→c (.raw (.ref x)::ds) (aeO C x dx μ) (aac Q x) W
def Xx (C:Addr) (c:Ct) (tr:iU) (W:XD) (δ:Sl) (μ:M) (Q:QD):Prop:=tr W δ μ (kMk c C W Q)
section
variable {X:Cx} {W:WX} {e:Expr} {es:List Expr} {pos p:Pos} {tr:iU} {CX:CXT} {C:Addr} {x qual:Str} {st:Stmt} {k:Nat} {ps:List Str} {c:Ct}
theorem aml (F:adT X.prog X.w X.K X.mg X.base CX x C qual st k ps c) (hr:Room (k+1) X.A) (pw:Pw CX X W) (ha:DA X W (e::es) tr) (hg:Gl X x:=by rfl) (hdb:(x == ("__debug__" : Str))=false:=by decide)
  (he:starEach (e::es) X.env=(false,eval e X.env)::starEach es X.env:=by rfl) (hpl:(backTo pos (starEach es X.env)).any (·.1)=false:=by rfl) :
  DE X W (.Call (.Name x p) (e::es) [] pos) (Xx C c tr):=by
 obtain ⟨g,f,fd,FF,hM,G,bn⟩:=F
 refine ⟨fun pins s σ H Q I ⟨δ,μ,Hc,Qd,Xd,sp,rs,h,rt,rx⟩ => ?_⟩
 refine wpAny_Call_Name_kw (ld_glob I hg g ?_ hdb)
 refine PySem.W.callWith_K (h₀:=X.base) I.ok.mod.kin hM.kp (thn (ha.run pos pins s σ H (fun vs H2=>∃ ds μ2 dw,Same Hc dw∧Split X.K H2 dw μ2∧bH X.K dw vs ds∧kMk c C Xd Qd ds μ2) I
  ⟨δ,μ,Hc,_,Xd,sp,rs,h,fun ds μ2 h2 vs H2 dw e2 s2 r2=>⟨ds,μ2,dw,e2,s2,r2,h2⟩,rx⟩) fun us s2 ⟨vs,H2,I2,rv,ds,μ2,dw,e2,sp2,rd,h2⟩=>⟨I2.kIn,?_⟩) he hpl
 have f1:H2 (s2.heap.objs.size+1)=none:=I2.hok.fresh (Nat.le_succ _)
 have f2:H2 s2.heap.objs.size=none:=I2.hok.fresh (Nat.le_refl _)
 have ne:s2.heap.objs.size≠s2.heap.objs.size+1:=Nat.ne_of_lt (Nat.lt_succ_self _)
 have want:=h2 _ _ (sp2.fresh f1).1 (sp2.fresh f2).1 ne
 have I3:=Inv.made (C:=C) I2
 have sp3:=ahF (C:=C) sp2 f1 f2 ne
 have all:bH X.K dw (V.ref (s2.heap.objs.size+1)::vs) (.raw (.ref (s2.heap.objs.size+1))::ds) := .cons (.raw _) rd
 have self:Vals (V.ref (s2.heap.objs.size+1)::vs) (Value.ref (s2.heap.objs.size+1)::us) := .cons rfl rv
 have rt2:pW X.K dw (aac Qd (s2.heap.objs.size+1)) (fun v H4=>v = .non∧Q (.ref (s2.heap.objs.size+1)) H4):=fun d μ' ⟨e,q⟩ v H' bJ e' s' r=>by
  subst e
  cases r
  exact ⟨rfl,rt _ _ q _ _ _ (e2.trans e') s' (.raw _)⟩
 have goal:Jt X.K c (V.ref (s2.heap.objs.size+1)::vs) _ (fun v H4=>v = .non∧Q (.ref (s2.heap.objs.size+1)) H4) (WE W σ):=⟨_,_,dw,aac Qd (s2.heap.objs.size+1),Xd,sp3,all,want,rt2,rx.mono e2⟩
 have hl:(Value.ref (s2.heap.objs.size+1)::us).length=ps.length:=by rw [← self.length];exact G.len _ _ _ _ goal
 have b:=bn _ (Value.ref (s2.heap.objs.size+1)::us) I3.kIn (by rw [List.append_nil];exact hl)
 rw [List.append_nil] at b
 have ran:=G.run _ X.stack _ _ ⟨Value.ref (s2.heap.objs.size+1)::us,[]⟩ _ _ _ (WE W σ) (hr.make C us []) (I3.env0.make C us []) b self goal
 refine wpAny_call (make_map (f:=f) I2.kIn hM.makes hM.init (beq_iff_eq.mp hM.fn) (codeAny_mono ran fun r s' got => ?_))
 match r,got with
 | .error e,got=>exact pw σ pins _ _ e s' I3 got
 | .ok (.ret u),got =>
  obtain ⟨v,H',I4,rv3,ev,q3⟩:=I3.after got
  subst ev
  exact ⟨rv3,V.ref (s2.heap.objs.size+1),H',I4,rfl,q3⟩
end
section
variable {P:Program} {w:World} {K:PySem.W.Frag} {mg:Str→Option Value} {base:Heap} {x nm qual:Str} {st:Stmt} {f C:Addr} {fd:FuncData} {N ps:List Str} {k n m:Nat} {c:Ct} {t:bh}
theorem ajw (F:Fun K nm qual st f fd) (S:FnScope N ps (defScope st)) (len:Len c m) (hb:HB c t n)
  (hd:∀ (cdv:Value) (A:Around) (outer:List Env) (s:Shared) (H:Hp) (E:XK),Room k (A.deeper (PyProof.Rows.envOfC qual (defScope st) s.heap.objs.size f cdv))→pX (cxOf CX0 P w K mg base N qual (defScope st) f cdv A outer s H E).nox W0 (defBody st) t)
  (hn:N.length=n:=by rfl) (hp:ps.length=m:=by rfl):FnOk P w K mg base CX0 (k+1) f fd ps (Jt K c):=by
 subst hn hp
 refine F.ok S (fun vs H Q E ⟨ds,μ,Hc,Qd,Xd,s,ra,h,rt,rx⟩=>by rw [ra.length];exact len _ _ _ _ h) (fun cdv A outer s H vs Q E hr h => ?_)
 obtain ⟨ds,μ,Hc,Qd,Xd,sp,ra,h,rt,rx⟩:=h
 refine ⟨_,hd cdv A outer s H E hr,_,μ,Hc,_,sp,oF ra,hb _ _ _ _ h,?_⟩
 exact ⟨fun δ μ' h' σ H' bJ e' s' rs'=>jF rt _ _ h' _ _ _ e' s' .non,jF rt,fun _ _ z=>z.elim,fun _ _ z=>z.elim,fun _ _ _ _ z=>z.elim⟩
theorem amS {CX:CXT} (F:Fun K nm qual st f fd) (mt:Meth K C nm f) (bn:Binds K fd ps []):wM P w K mg base CX C nm qual st k ps cNo :=
 ⟨f,fd,F,mt,⟨fun vs H Q E h=>by obtain ⟨_,_,_,_,_,_,_,z,_⟩:=h;exact z.elim,fun A outer s H args us vs Q E hr he hb hv h=>by obtain ⟨_,_,_,_,_,_,_,z,_⟩:=h;exact z.elim⟩,bn⟩
theorem ajx (F:Fun K nm qual st f fd) (S:FnScope N ps (defScope st)) (len:Len c m) (hb:vD c t n)
  (hd:∀ (cdv:Value) (A:Around) (outer:List Env) (s:Shared) (H:Hp) (E:XK),Room k (A.deeper (PyProof.Rows.envOfC qual (defScope st) s.heap.objs.size f cdv)) →
   Takes (cxOf (L2.CX P w) P w K mg base N qual (defScope st) f cdv A outer s H E) (fun cls d _ H'=>E cls d H')→pX (cxOf (L2.CX P w) P w K mg base N qual (defScope st) f cdv A outer s H E) (fun cls d _ H'=>E cls d H') (defBody st) t)
  (hn:N.length=n:=by rfl) (hp:ps.length=m:=by rfl):FnOk P w K mg base (L2.CX P w) (k+1) f fd ps (Jt K c):=by
 subst hn hp
 refine F.okX S (fun vs H Q E ⟨ds,μ,Hc,Qd,Xd,s,ra,h,rt,rx⟩=>by rw [ra.length];exact len _ _ _ _ h) (fun cdv A outer s H vs Q E hr h => ?_)
 obtain ⟨ds,μ,Hc,Qd,Xd,sp,ra,h,rt,rx⟩:=h
 refine ⟨_,hd cdv A outer s H E hr (takes_of rfl rfl rfl rfl),_,μ,Hc,_,sp,oF ra,hb _ _ _ _ h,?_⟩
 exact ⟨fun δ μ' h' σ H' bJ e' s' rs'=>jF rt _ _ h' _ _ _ e' s' .non,jF rt,fun _ _ z=>z.elim,fun _ _ z=>z.elim,fun δ cls fs μ' h' σ d H' bJ e' s' rs' xo=>JB rx cls fs μ' h' d H' bJ e' s' xo⟩
end
end DL
namespace DL
open PySem PySem.Spec PyProof.Rows L2
end DL
namespace DL
open PySem PySem.Spec PyProof.Rows L2
section
variable {prog:Program} {w:World} {A:Around} {E:Value→Shared→Prop} {s:Shared}
end
end DL
namespace DL
open PySem PySem.Spec PyProof.Rows L2 PySem.W
end DL
set_option maxHeartbeats 4000000
namespace DL
open PySem PySem.Spec PyProof.Rows L2
section
variable {prog:Program} {w:World} {A:Around} {E:Value→Shared→Prop} {s:Shared}
end
end DL
namespace PySem.SeqAt
open MeetsSeq
end PySem.SeqAt
namespace DL
open PySem PySem.Spec PyProof.Rows L2
section
variable {prog:Program} {w:World} {A:Around} {E:Value→Shared→Prop} {s:Shared}
end
section
variable {X:Cx} {W:WX} {a b:Expr} {ta tb:bZ} {pos:Pos}
end
end DL
set_option maxHeartbeats 2000000
namespace DL
open PySem PySem.Spec PyProof.Rows L2
section
variable {X:Cx} {W:WX} {a b:Expr} {ta tb:bZ} {pos:Pos}
end
end DL
namespace DL
open PySem PySem.Spec PyProof.Rows L2
abbrev DRT:=Str→D→M→QD→Prop
section
variable {X:Cx} {W:WX} {o e:Expr} {to te:bZ} {name:Str} {apos pos:Pos} {id:String} {r:V→List V→Hp→VK→Prop} {g:DRT}
end
section
variable {X:Cx} {W:WX} {e tg:Expr} {te:bZ}
end
section
variable {X:Cx} {W:WX} {e:Expr} {es:List Expr} {tr:iU} {x:Str} {p pos:Pos}
structure Tbl (P:Program) (w:World) (K:PySem.W.Frag) (mg:Str→Option Value) (base:Heap) (k:Nat) (tbl:List (Addr × Ct)):Prop where
 at_:∀ q∈tbl,C8.CalAt P w K mg base k q.1 (Jt K q.2)
theorem Tbl.nil {P:Program} {w:World} {K:PySem.W.Frag} {mg:Str→Option Value} {base:Heap} {k:Nat}:Tbl P w K mg base k []:=⟨fun _ h=>nomatch h⟩
theorem Tbl.cons {P:Program} {w:World} {K:PySem.W.Frag} {mg:Str→Option Value} {base:Heap} {k k':Nat} {y qual:Str} {st:Stmt} {ps:List Str} {c:Ct} {f:Addr} {tbl:List (Addr × Ct)} (F:dW P w K mg base CX0 y qual st k' ps c) (hm:mg y=some (.ref f)) (hk:k'≤k) (T:Tbl P w K mg base k tbl):Tbl P w K mg base k ((f,c)::tbl):=by
 obtain ⟨f',fd,FF,hm',G,bn⟩:=F.ex
 cases hm.symm.trans hm'
 refine ⟨fun q hq => ?_⟩
 rcases List.mem_cons.mp hq with rfl | hq
 ·exact ⟨fd,ps,⟨G.len,fun A outer s H args us vs Q E hr=>G.run A outer s H args us vs Q E (hr.mono hk)⟩,FF.kp,bn⟩
 ·exact T.at_ q hq
end
end DL
namespace DL
open PySem PySem.Spec L2
section
variable {X:Cx} {W:WX} {fe e:Expr} {es:List Expr} {tf:bZ} {tr:iU} {pos:Pos}
end
end DL
namespace DL
open PySem PySem.Spec PyProof.Rows L2
theorem dW.conv {P:Program} {w:World} {K:PySem.W.Frag} {mg:Str→Option Value} {base:Heap} {CX:CXT} {x qual:Str} {st:Stmt} {k:Nat} {ps:List Str} {c c':Ct} (F:dW P w K mg base CX x qual st k ps c) (h:∀ ds μ Q X,c' ds μ Q X→c ds μ (aeM Q) X) :
  dW P w K mg base CX x qual st k ps c':=by
 obtain ⟨f,fd,FF,hm,G,B⟩:=F.ex
 refine ⟨f,fd,FF,hm,G.imp fun vs H Q E ⟨ds,μ,Hc,Qd,Xd,s,ra,hc,rt,rx⟩=>⟨ds,μ,Hc,aeM Qd,Xd,s,ra,h _ _ _ _ hc,?_,rx⟩,B⟩
 rintro d μ1 h1 v H1 cA e1 s1 r1
 obtain ⟨μ2,e,sb,va,q⟩:=h1
 obtain ⟨dw,e2,s2,hh⟩:=s1.sub sb
 exact rt _ _ q _ _ dw (e1.trans e2) s2 (va.rep s1 e2 hh r1)
end DL
namespace DL
open PySem PySem.Spec PyProof.Rows L2
theorem Ym.conv {P:Program} {w:World} {K:PySem.W.Frag} {mg:Str→Option Value} {base:Heap} {CX:CXT} {x qual:Str} {st:Stmt} {k:Nat} {ps:List Str} {dvs:List V} {c c':Ct} (F:Ym P w K mg base CX x qual st k ps dvs c) (h:∀ ds μ Q X,c' ds μ Q X→c ds μ (aeM Q) X) :
  Ym P w K mg base CX x qual st k ps dvs c':=by
 obtain ⟨f,fd,FF,hm,G⟩:=F.ex
 refine ⟨f,fd,FF,hm,G.imp fun vs H Q E ⟨ds,μ,Hc,Qd,Xd,s,ra,hc,rt,rx⟩=>⟨ds,μ,Hc,aeM Qd,Xd,s,ra,h _ _ _ _ hc,?_,rx⟩⟩
 rintro d μ1 h1 v H1 cA e1 s1 r1
 obtain ⟨μ2,e,sb,va,q⟩:=h1
 obtain ⟨dw,e2,s2,hh⟩:=s1.sub sb
 exact rt _ _ q _ _ dw (e1.trans e2) s2 (va.rep s1 e2 hh r1)
section
variable {P:Program} {w:World} {K:PySem.W.Frag} {mg:Str→Option Value} {base:Heap} {x qual:Str} {st:Stmt} {f:Addr} {fd:FuncData} {N ps:List Str} {k n m:Nat} {c:Ct} {t:bh} {dvs:List V}
theorem aoZ (F:Rg K x qual st dvs f fd) (hm:mg x=some (.ref f)) (S:FnScope N ps (defScope st)) (len:Len c m) (hb:vD c t n)
  (hd:∀ (cdv:Value) (A:Around) (outer:List Env) (s:Shared) (H:Hp) (E:XK),Room k (A.deeper (PyProof.Rows.envOfC qual (defScope st) s.heap.objs.size f cdv)) →
   Takes (cxOf (L2.CX P w) P w K mg base N qual (defScope st) f cdv A outer s H E) (fun cls d _ H'=>E cls d H')→pX (cxOf (L2.CX P w) P w K mg base N qual (defScope st) f cdv A outer s H E) (fun cls d _ H'=>E cls d H') (defBody st) t)
  (hn:N.length=n:=by rfl) (hp:ps.length=m:=by rfl):Ym P w K mg base (L2.CX P w) x qual st (k+1) ps dvs c:=by
 subst hn hp
 refine ⟨f,fd,F,hm,F.ok S (fun vs H Q E z => ?_) fun cdv A outer s H vs Q E hr z => ?_⟩
 ·obtain ⟨ds,_,_,_,_,_,ra,hc,_⟩:=z
  exact ra.length.trans (len _ _ _ _ hc)
 ·obtain ⟨ds,μ,Hc,Qd,Xd,sp,ra,hc,rt,rx⟩:=z
  refine ⟨_,hd cdv A outer s H E hr (takes_of rfl rfl rfl rfl),_,μ,Hc,_,sp,oF ra,hb _ _ _ _ hc,fun δ μ' h' σ H' bJ e' s' rs'=>jF rt _ _ h' _ _ _ e' s' .non,jF rt,fun _ _ z=>z.elim,fun _ _ z=>z.elim,?_⟩
  exact fun δ cls fs μ' h' σ d H' bJ e' s' rs' xo=>JB rx cls fs μ' h' d H' bJ e' s' xo
end
end DL
namespace DL
open PySem PySem.Spec PyProof.Rows L2
section
variable {prog:Program} {w:World} {A:Around} {E:Value→Shared→Prop} {s:Shared}
def told (h:Heap) (a x1:Addr):Heap:=(h.update a (Obj.mapFields (·.setIfInBounds 3 (.ref x1)))).update a (Obj.mapFields (·.setIfInBounds 4 (.bool true)))
theorem tells {a x1:Addr} {oe:Obj} {vs:Array Value} {α:Type} {k:Sem α} {Q:α→Shared→Prop} (ha:s.heap.get? a=some oe) (hd:oe.data = .fields vs) (h4:4<vs.size)
  (h:wpAny (model prog w) A k Q E { s with heap:=told s.heap a x1 }):wpAny (model prog w) A (do setField (.ref a) 3 (.ref x1);setField (.ref a) 4 (.bool true);k) Q E s:=by
 have d3:=Obj.data_mapFields hd (·.setIfInBounds 3 (.ref x1))
 have a3:=Heap.get?_update_self (Obj.mapFields (·.setIfInBounds 3 (.ref x1))) ha (Obj.isFreed_of_fields d3)
 refine wpAny_bind (wpAny_setField ha hd (by omega) ?_)
 exact wpAny_bind (wpAny_setField a3 d3 (by rw [HotX.set_size];exact h4) h)
end
end DL
set_option maxHeartbeats 4000000
namespace DL
open PySem PySem.Spec PyProof.Rows L2 HotX
section
variable {X:Cx} {pins:List (Addr × Obj)} {σ:L2.St} {H:Hp} {s:Shared}
end
section
variable {X:Cx} {pins:List (Addr × Obj)} {n:Str} {pos:Pos} {i:Nat} {a:Addr} {oe:Obj}
end
section
variable {X:Cx} {x n:Str} {c:Value} {i:Nat} {body suite:List Stmt} {b0:Stmt} {np pos pos':Pos} {tb:WX→TS} {ts:Addr→Value→TS} {Wo:WX}
end
section
variable {X:Cx} {W:WX} {e:Expr} {t:L2.St→Hp→XK→Prop} {i:Nat} {n:Str} {np pos:Pos} {a:Addr} {oe:Obj}
end
section
variable {X:Cx} {x m:Str} {C:Addr} {j:Nat} {p p2 pos:Pos}
end
section
variable {X:Cx} {W:WX} {x y n m:Str} {c:Value} {C2:Addr} {i j:Nat} {body:List Stmt} {np p p2 p3 p4 p5 pos pos':Pos} {tb:bh}
end
section
variable {X:Cx} {W:WX} {e:Expr} {es:List Expr} {ta:TA} {tr:iU} {p pos pos':Pos} {x:Str} {C:Addr} {fs:List Str}
end
section
variable {P:Program} {w:World} {K:PySem.W.Frag} {mg:Str→Option Value} {base:Heap} {x qual:Str} {st:Stmt} {f:Addr} {fd:FuncData} {N ps:List Str} {k n m:Nat} {c:Ct} {t:bh}
end
end DL
set_option maxHeartbeats 2000000
namespace DL
open PySem PySem.Spec PyProof.Rows L2
abbrev ahG (K:PySem.W.Frag) (nm q:Str) (st:Stmt) (f:Addr):Prop:=∃ (oc:Value) (od an:Option Addr) (sl:Array (Option Value)) (kV doc pm cdv ct:Value),
 K.lookup f=some ⟨oc,od,.func (PySem.W.fnOf nm q (defArgs st) (defBody st) (defScope st) .none kV doc pm an cdv ct),sl⟩∧PySem.W.codeIn K cdv q=true∧PySem.W.keepIn K (.ref f)=true
abbrev an5 (K:PySem.W.Frag) (q:Str) (st:Stmt) (f:Addr):Prop:=PySem.W.nsIn K mainGlobals q=some (some (.ref f))∧ahG K q q st f
abbrev an6 (K:PySem.W.Frag) (C:Addr) (m q:Str) (st:Stmt) (f:Addr):Prop:=PySem.W.findIn K (.ref C) m=some (some (.ref f))∧ahG K m q st f∧PySem.W.isFn K (.ref f)=true
structure Here (P:Program) (w:World) (K:PySem.W.Frag) (mg:Str→Option Value) (base:Heap) (q:Str) (st:Stmt):Prop where
 ex:∃ f fd,Fun K q q st f fd∧mg q=some (.ref f)
structure sV (P:Program) (w:World) (K:PySem.W.Frag) (mg:Str→Option Value) (base:Heap) (C:Addr) (m q:Str) (st:Stmt):Prop where
 ex:∃ f fd,Fun K m q st f fd∧Meth K C m f
structure WK (P:Program) (w:World) (K:PySem.W.Frag) (mg:Str→Option Value) (base:Heap) (x:Str) (C:Addr) (q:Str) (st:Stmt):Prop where
 gc:mg x=some (.ref C)
 ex:∃ f fd,Fun K "__init__" q st f fd∧Mk K C f
structure aad (P:Program) (w:World) (K:PySem.W.Frag) (mg:Str→Option Value) (base:Heap) (q:Str) (st:Stmt) (dvs:List V):Prop where
 ex:∃ f fd,Rg K q q st dvs f fd∧mg q=some (.ref f)
section
variable {P:Program} {w:World} {K:PySem.W.Frag} {mg:Str→Option Value} {base:Heap} {q nm x:Str} {st:Stmt} {f C:Addr} {N ps:List Str} {k n:Nat} {c:Ct} {t:bh}
theorem ahG.fn (h:ahG K nm q st f):∃ fd,Fun K nm q st f fd:=by
 obtain ⟨oc,od,an,sl,kV,doc,pm,cdv,ct,l,c,k⟩:=h
 exact ⟨_,fun_mk l c k⟩
theorem an5.at {h:Heap} (g:an5 K q st f) (X:K.In h) (G:h.Ns mainGlobals mg):Here P w K mg base q st:=by
 obtain ⟨fd,F⟩:=g.2.fn
 exact ⟨f,fd,F,PySem.W.mg_of X G g.1⟩
theorem an6.at (g:an6 K C nm q st f):sV P w K mg base C nm q st:=by
 obtain ⟨fd,F⟩:=g.2.1.fn
 exact ⟨f,fd,F,⟨g.1,g.2.2,F.kp⟩⟩
abbrev Uw (nm q:Str) (st:Stmt) (ps:List Str):Prop:=∀ (kV doc pm:Value) (an:Option Addr) (cdv ct:Value) (us:List Value),us.length=ps.length→bindArgs (PySem.W.fnOf nm q (defArgs st) (defBody st) (defScope st) .none kV doc pm an cdv ct) ⟨us,[]⟩=pure (ps.zip us)
theorem Here.eZ (L:Here P w K mg base q st) (S:FnScope N ps (defScope st)) (len:Len c ps.length) (hb:HB c t n)
  (hd:∀ (f:Addr) (cdv:Value) (A:Around) (outer:List Env) (s:Shared) (H:Hp) (E:XK),Room k (A.deeper (PyProof.Rows.envOfC q (defScope st) s.heap.objs.size f cdv))→pX (cxOf CX0 P w K mg base N q (defScope st) f cdv A outer s H E).nox W0 (defBody st) t)
  (bn:Uw q q st ps) (hn:N.length=n:=by rfl):dW P w K mg base CX0 q q st (k+1) ps c:=by
 obtain ⟨f,fd,F,hm⟩:=L.ex
 exact ap3 F hm (F.binds bn) S len hb (hd f) hn rfl
theorem Here.Aq (L:Here P w K mg base q st) (S:FnScope N ps (defScope st)) (len:Len c ps.length) (hb:vD c t n)
  (hd:∀ (f:Addr) (cdv:Value) (A:Around) (outer:List Env) (s:Shared) (H:Hp) (E:XK),Room k (A.deeper (PyProof.Rows.envOfC q (defScope st) s.heap.objs.size f cdv)) →
   Takes (cxOf (L2.CX P w) P w K mg base N q (defScope st) f cdv A outer s H E) (fun cls d _ H'=>E cls d H')→pX (cxOf (L2.CX P w) P w K mg base N q (defScope st) f cdv A outer s H E) (fun cls d _ H'=>E cls d H') (defBody st) t)
  (bn:Uw q q st ps) (hn:N.length=n:=by rfl):dW P w K mg base (L2.CX P w) q q st (k+1) ps c:=by
 obtain ⟨f,fd,F,hm⟩:=L.ex
 exact ap4 F hm (F.binds bn) S len hb (hd f) hn rfl
theorem Here.no {CX:CXT} (L:Here P w K mg base q st) (bn:Uw q q st ps):dW P w K mg base CX q q st k ps cNo:=by
 obtain ⟨f,fd,F,hm⟩:=L.ex
 exact anU F hm (F.binds bn)
theorem sV.eZ (L:sV P w K mg base C nm q st) (S:FnScope N ps (defScope st)) (len:Len c ps.length) (hb:HB c t n)
  (hd:∀ (f:Addr) (cdv:Value) (A:Around) (outer:List Env) (s:Shared) (H:Hp) (E:XK),Room k (A.deeper (PyProof.Rows.envOfC q (defScope st) s.heap.objs.size f cdv))→pX (cxOf CX0 P w K mg base N q (defScope st) f cdv A outer s H E).nox W0 (defBody st) t)
  (bn:Uw nm q st ps) (hn:N.length=n:=by rfl):wM P w K mg base CX0 C nm q st (k+1) ps c:=by
 obtain ⟨f,fd,F,mt⟩:=L.ex
 exact ⟨f,fd,F,mt,ajw F S len hb (hd f) hn rfl,F.binds bn⟩
theorem sV.Aq (L:sV P w K mg base C nm q st) (S:FnScope N ps (defScope st)) (len:Len c ps.length) (hb:vD c t n)
  (hd:∀ (f:Addr) (cdv:Value) (A:Around) (outer:List Env) (s:Shared) (H:Hp) (E:XK),Room k (A.deeper (PyProof.Rows.envOfC q (defScope st) s.heap.objs.size f cdv)) →
   Takes (cxOf (L2.CX P w) P w K mg base N q (defScope st) f cdv A outer s H E) (fun cls d _ H'=>E cls d H')→pX (cxOf (L2.CX P w) P w K mg base N q (defScope st) f cdv A outer s H E) (fun cls d _ H'=>E cls d H') (defBody st) t)
  (bn:Uw nm q st ps) (hn:N.length=n:=by rfl):wM P w K mg base (L2.CX P w) C nm q st (k+1) ps c:=by
 obtain ⟨f,fd,F,mt⟩:=L.ex
 exact ⟨f,fd,F,mt,ajx F S len hb (hd f) hn rfl,F.binds bn⟩
theorem sV.no {CX:CXT} (L:sV P w K mg base C nm q st) (bn:Uw nm q st ps):wM P w K mg base CX C nm q st k ps cNo:=by
 obtain ⟨f,fd,F,mt⟩:=L.ex
 exact amS F mt (F.binds bn)
theorem WK.eZ (L:WK P w K mg base x C q st) (S:FnScope N ps (defScope st)) (len:Len c ps.length) (hb:HB c t n)
  (hd:∀ (f:Addr) (cdv:Value) (A:Around) (outer:List Env) (s:Shared) (H:Hp) (E:XK),Room k (A.deeper (PyProof.Rows.envOfC q (defScope st) s.heap.objs.size f cdv))→pX (cxOf CX0 P w K mg base N q (defScope st) f cdv A outer s H E).nox W0 (defBody st) t)
  (bn:Uw "__init__" q st ps) (hn:N.length=n:=by rfl):adT P w K mg base CX0 x C q st (k+1) ps c:=by
 obtain ⟨f,fd,F,mt⟩:=L.ex
 exact ⟨L.gc,f,fd,F,mt,ajw F S len hb (hd f) hn rfl,F.binds bn⟩
theorem WK.Aq (L:WK P w K mg base x C q st) (S:FnScope N ps (defScope st)) (len:Len c ps.length) (hb:vD c t n)
  (hd:∀ (f:Addr) (cdv:Value) (A:Around) (outer:List Env) (s:Shared) (H:Hp) (E:XK),Room k (A.deeper (PyProof.Rows.envOfC q (defScope st) s.heap.objs.size f cdv)) →
   Takes (cxOf (L2.CX P w) P w K mg base N q (defScope st) f cdv A outer s H E) (fun cls d _ H'=>E cls d H')→pX (cxOf (L2.CX P w) P w K mg base N q (defScope st) f cdv A outer s H E) (fun cls d _ H'=>E cls d H') (defBody st) t)
  (bn:Uw "__init__" q st ps) (hn:N.length=n:=by rfl):adT P w K mg base (L2.CX P w) x C q st (k+1) ps c:=by
 obtain ⟨f,fd,F,mt⟩:=L.ex
 exact ⟨L.gc,f,fd,F,mt,ajx F S len hb (hd f) hn rfl,F.binds bn⟩
theorem aad.eZ {dvs:List V} (L:aad P w K mg base q st dvs) (S:FnScope N ps (defScope st)) (len:Len c ps.length) (hb:HB c t n)
  (hd:∀ (f:Addr) (cdv:Value) (A:Around) (outer:List Env) (s:Shared) (H:Hp) (E:XK),Room k (A.deeper (PyProof.Rows.envOfC q (defScope st) s.heap.objs.size f cdv))→pX (cxOf CX0 P w K mg base N q (defScope st) f cdv A outer s H E).nox W0 (defBody st) t)
  (hn:N.length=n:=by rfl):Ym P w K mg base CX0 q q st (k+1) ps dvs c:=by
 obtain ⟨f,fd,F,hm⟩:=L.ex
 exact aoY F hm S len hb (hd f) hn rfl
theorem aad.Aq {dvs:List V} (L:aad P w K mg base q st dvs) (S:FnScope N ps (defScope st)) (len:Len c ps.length) (hb:vD c t n)
  (hd:∀ (f:Addr) (cdv:Value) (A:Around) (outer:List Env) (s:Shared) (H:Hp) (E:XK),Room k (A.deeper (PyProof.Rows.envOfC q (defScope st) s.heap.objs.size f cdv)) →
   Takes (cxOf (L2.CX P w) P w K mg base N q (defScope st) f cdv A outer s H E) (fun cls d _ H'=>E cls d H')→pX (cxOf (L2.CX P w) P w K mg base N q (defScope st) f cdv A outer s H E) (fun cls d _ H'=>E cls d H') (defBody st) t)
  (hn:N.length=n:=by rfl):Ym P w K mg base (L2.CX P w) q q st (k+1) ps dvs c:=by
 obtain ⟨f,fd,F,hm⟩:=L.ex
 exact aoZ F hm S len hb (hd f) hn rfl
theorem cH {X:Cx} {pos:Pos} {x:Str} (i:Nat) (hN:X.N.Nodup) (hi:X.N[i]? = some x:=by rfl) (hx:Loc X.env.scope x:=by first | exact Or.inl rfl | exact Or.inr rfl) (hf:X.fn x=true∨X.env.scope.names.lookup x=some .local:=by first | exact .inl rfl | exact .inr rfl | assumption):PG X (.Name x pos) (gName i):=pg_name hN hi hx hf
end
end DL
namespace DL
open PySem PySem.Spec PyProof.Rows L2
section
variable {P:Program} {w:World} {K:PySem.W.Frag} {mg:Str→Option Value} {base h:Heap} {fa:List He.Fa} {ex:PySem.W.Frag→List Bool} {fn:List He.DefD}
theorem SaysX.parts (c:SaysX fa ex fn K):(fa.all fun f=>f.ok K)=true∧(ex K).all id=true∧(fn.all fun d=>d.ok K && atB K d)=true:=by
 obtain ⟨c1,c2⟩:=He.ba (show ((fa.all fun f=>f.ok K) && ((ex K).all id && (fn.all fun d=>d.ok K && atB K d)))=true from congrArg (fun z:He.AlD=>z.1) c)
 exact ⟨c1,He.ba c2⟩
theorem SaysX.fact (c:SaysX fa ex fn K) (i:Nat) {f:He.Fa} (h:fa[i]? = some f:=by rfl):f.ok K=true:=List.all_eq_true.mp c.parts.1 f (List.mem_of_getElem? h)
theorem SaysX.more (c:SaysX fa ex fn K) (i:Nat) {b:Bool} (h:(ex K)[i]? = some b:=by rfl):b=true:=List.all_eq_true.mp c.parts.2.1 b (List.mem_of_getElem? h)
theorem SaysX.def_ (c:SaysX fa ex fn K) {i:Nat} {d:He.DefD} (h:fn[i]? = some d):(∃ fd,FunD K d.name d.qual d.params d.body d.scope (d.dvs K) (d.kws K) (He.fAd K d.at_) fd)∧atB K d=true:=by
 have c2:=List.all_eq_true.mp c.parts.2.2 d (List.mem_of_getElem? h)
 obtain ⟨k1,k2⟩:=He.ba c2
 have e:fn.map (fun d=>He.fnW K d.at_)=fn.map He.DefD.val:=congrArg (fun z:He.AlD=>z.2) c
 have e2:(fn.map fun d=>He.fnW K d.at_)[i]? = (fn.map He.DefD.val)[i]? := by rw [e]
 rw [List.getElem?_map,List.getElem?_map,h] at e2
 exact ⟨He.DefD.funD (Option.some.inj e2) k1,k2⟩
theorem Yq {x q:Str} {st:Stmt} {f:Addr} {fd:FuncData} (F:FunD K x q (defArgs st) (defBody st) (defScope st) [] [] f fd):Fun K x q st f fd:=by
 obtain ⟨oc,od,dV,kV,doc,pm,an,cdv,ct,osl,e,lk,cd,dv,_⟩:=F.ex
 rcases dv with ⟨_,rfl⟩ | ⟨ne,_⟩
 ·exact ⟨⟨oc,od,kV,doc,pm,an,cdv,ct,osl,e,lk,cd⟩,F.kp⟩
 ·exact absurd rfl ne
theorem SaysX.hd (c:SaysX fa ex fn K) (X:K.In h) (G:h.Ns mainGlobals mg) (i:Nat) {x:Str} {st:Stmt} (e:fn[i]? = some (defAt x st []):=by rfl):Here P w K mg base x st:=by
 obtain ⟨⟨fd,F⟩,a⟩:=c.def_ e
 exact ⟨_,fd,Yq F,He.glo_ok X G a⟩
theorem SaysX.hv (c:SaysX fa ex fn K) (X:K.In h) (G:h.Ns mainGlobals mg) (i:Nat) {x:Str} {st:Stmt} {dfl:List He.Dv} {dvs:List V} (e:fn[i]? = some (defAt x st dfl):=by rfl) (ev:dfl.map (He.Dv.v K)=dvs:=by rfl):aad P w K mg base x st dvs:=by
 obtain ⟨⟨fd,F⟩,a⟩:=c.def_ e
 subst ev
 exact ⟨_,fd,F,He.glo_ok X G a⟩
theorem SaysX.hm (c:SaysX fa ex fn K) (i:Nat) {C m q:Str} {st:Stmt} (e:fn[i]? = some (vm C m q st):=by rfl):sV P w K mg base (He.ga K C) m q st:=by
 obtain ⟨⟨fd,F⟩,a⟩:=c.def_ e
 exact ⟨_,fd,Yq F,He.meth_ok a⟩
theorem SaysX.hi (c:SaysX fa ex fn K) (X:K.In h) (G:h.Ns mainGlobals mg) (i:Nat) {C q:Str} {st:Stmt} (g:(He.Fa.glo C).ok K=true) (m:(He.Fa.mkr C).ok K=true) (e:fn[i]? = some (vm C "__init__" q st):=by rfl):WK P w K mg base C (He.ga K C) q st:=by
 obtain ⟨⟨fd,F⟩,a⟩:=c.def_ e
 exact ⟨He.glo_ok X G g,_,fd,Yq F,He.mkr_ok m⟩
theorem aeP (X:K.In h) (G:h.Ns mainGlobals mg) {x:Str} {vs:List He.Dv} {ds:List D} (g:(He.Fa.glo x).ok K=true) (t:He.tupB K x vs=true) (r:∀ H,bH K H (vs.map (He.Dv.v K)) ds):KC K mg x (.tup ds) :=
 ⟨.ref (He.ga K x),_,He.glo_ok X G g,rfl,fun H => .tup (He.tupB_ok t H) (r H)⟩
theorem Ar (X:K.In h) (G:h.Ns mainGlobals mg) {x:Str} {i:Int} (c:(He.Fa.int x i).ok K=true):KC K mg x (.int i):=by
 obtain ⟨t,e⟩:=He.int_ok X G c
 exact ⟨.int i,_,e,⟨t,rfl⟩,fun _ => .int _⟩
theorem an7 (X:K.In h) (G:h.Ns mainGlobals mg) {x:Str} (g:(He.Fa.glo x).ok K=true) (c:(He.Fa.exc x).ok K=true):akY K mg x (He.ga K x):=by
 obtain ⟨a,b,d,e⟩:=He.exc_ok c
 exact ⟨He.glo_ok X G g,a,b,d,e⟩
theorem aeQ {C:Addr} (c:ahj K C=true):FW K C:=by
 obtain ⟨a1,c⟩:=He.ba c
 obtain ⟨a2,c⟩:=He.ba c
 obtain ⟨a3,c⟩:=He.ba c
 obtain ⟨a4,c⟩:=He.ba c
 obtain ⟨a5,c⟩:=He.ba c
 obtain ⟨a6,c⟩:=He.ba c
 obtain ⟨a7,c⟩:=He.ba c
 obtain ⟨a8,a9⟩:=He.ba c
 exact ⟨a1,of_decide_eq_true a2,of_decide_eq_true a3,of_decide_eq_true a4,of_decide_eq_true a5,of_decide_eq_true a6,of_decide_eq_true a7,of_decide_eq_true a8,a9⟩
theorem amT {C:Addr} {o:Obj} (c:akH C o=true):∃ nm q N bs bm sn sub ab col dd k0 k1 k2 k3 k5,o=excClassObj nm q C N bs bm true sn sub ab col dd k0 k1 k2 k3 k5 "ValueError.__new__" ∧ PySem.HandSPX.refsVE bm=true:=by
 obtain ⟨oc,od,dt,sl⟩:=o
 unfold akH at c
 dsimp only at c
 split at c
 ·rename_i t cd
  obtain ⟨c1,c2⟩:=He.ba c
  obtain rfl:t="type" := of_decide_eq_true c1
  split at c2
  ·rename_i C' bm k0 k1 k2 k3 n k5 em es
   obtain ⟨d1,c2⟩:=He.ba c2
   obtain ⟨d2,c2⟩:=He.ba c2
   obtain ⟨d3,c2⟩:=He.ba c2
   obtain ⟨d4,d5⟩:=He.ba c2
   obtain rfl:C'=C:=of_decide_eq_true d1
   obtain rfl:n="ValueError.__new__" := of_decide_eq_true d2
   obtain ⟨m1,m2,m3,m4,m5,m6,m7,m8,m9,m10,m11⟩:=cd
   dsimp only at em d3 d4
   subst em
   obtain rfl:m6=true:=d4
   obtain rfl:m11=false:=by cases m11 with | true=>cases d3 | false=>rfl
   obtain ⟨l⟩:=sl
   obtain rfl:l=[k0,k1,k2,k3,some (.builtin "ValueError.__new__"),k5]:=es
   exact ⟨m1,m5,m4,m2,bm,m7,m8,m9,m10,od,k0,k1,k2,k3,k5,rfl,d5⟩
  ·cases c2
 ·cases c
theorem amU {C:Addr} (c:anw K C=true):OexC K C:=by
 obtain ⟨a1,c⟩:=He.ba c
 obtain ⟨a2,c⟩:=He.ba c
 obtain ⟨a3,c⟩:=He.ba c
 obtain ⟨a4,a5⟩:=He.ba c
 refine ⟨?_,of_decide_eq_true a2,of_decide_eq_true a3,of_decide_eq_true a4,a5⟩
 cases e:K.lookup C with
 | none =>
  rw [e] at a1
  cases a1
 | some o =>
  rw [e] at a1
  obtain ⟨nm,q,N,bs,bm,sn,sub,ab,col,dd,k0,k1,k2,k3,k5,rfl,h⟩:=amT a1
  exact ⟨nm,q,N,bs,bm,sn,sub,ab,col,dd,k0,k1,k2,k3,k5,rfl,h⟩
theorem alc {B:Addr} (c:ai3 K B=true):ahC K B:=by
 obtain ⟨a1,c⟩:=He.ba c
 obtain ⟨a2,a3⟩:=He.ba c
 refine ⟨of_decide_eq_true a1,a2,?_⟩
 split at a3
 ·rename_i n e
  rw [e,of_decide_eq_true a3]
 ·cases a3
end
end DL
namespace DL
open PySem PySem.Spec PyProof.Rows L2
structure JH (P:Program) (w:World) (K:PySem.W.Frag) (mg:Str→Option Value) (base:Heap) (C:Addr) (m q:Str) (st:Stmt) (dvs:List V):Prop where
 ex:∃ f fd,Rg K m q st dvs f fd∧Meth K C m f
section
variable {P:Program} {w:World} {K:PySem.W.Frag} {mg:Str→Option Value} {base h:Heap} {q nm x:Str} {st:Stmt} {f C:Addr} {N ps:List Str} {k n:Nat} {c:Ct} {t:bh} {dvs:List V}
theorem JH.eZ (L:JH P w K mg base C nm q st dvs) (S:FnScope N ps (defScope st)) (len:Len c ps.length) (hb:HB c t n)
  (hd:∀ (f:Addr) (cdv:Value) (A:Around) (outer:List Env) (s:Shared) (H:Hp) (E:XK),Room k (A.deeper (PyProof.Rows.envOfC q (defScope st) s.heap.objs.size f cdv))→pX (cxOf CX0 P w K mg base N q (defScope st) f cdv A outer s H E).nox W0 (defBody st) t)
  (hn:N.length=n:=by rfl):abV P w K mg base CX0 C nm q st (k+1) ps dvs c:=by
 subst hn
 obtain ⟨f,fd,F,mt⟩:=L.ex
 refine ⟨f,fd,F,mt,F.ok S (fun vs H Q E ⟨ds,μ,Hc,Qd,Xd,s,ra,h,rt,rx⟩=>by rw [ra.length];exact len _ _ _ _ h) (fun cdv A outer s H vs Q E hr h => ?_)⟩
 obtain ⟨ds,μ,Hc,Qd,Xd,sp,ra,h,rt,rx⟩:=h
 refine ⟨_,(hd f cdv A outer s H E hr).nox,_,μ,Hc,_,sp,oF ra,hb _ _ _ _ h,?_⟩
 exact ⟨fun δ μ' h' σ H' bJ e' s' rs'=>jF rt _ _ h' _ _ _ e' s' .non,jF rt,fun _ _ z=>z.elim,fun _ _ z=>z.elim,fun _ _ _ _ z=>z.elim⟩
theorem JH.Aq (L:JH P w K mg base C nm q st dvs) (S:FnScope N ps (defScope st)) (len:Len c ps.length) (hb:vD c t n)
  (hd:∀ (f:Addr) (cdv:Value) (A:Around) (outer:List Env) (s:Shared) (H:Hp) (E:XK),Room k (A.deeper (PyProof.Rows.envOfC q (defScope st) s.heap.objs.size f cdv)) →
   Takes (cxOf (L2.CX P w) P w K mg base N q (defScope st) f cdv A outer s H E) (fun cls d _ H'=>E cls d H')→pX (cxOf (L2.CX P w) P w K mg base N q (defScope st) f cdv A outer s H E) (fun cls d _ H'=>E cls d H') (defBody st) t)
  (hn:N.length=n:=by rfl):abV P w K mg base (L2.CX P w) C nm q st (k+1) ps dvs c:=by
 subst hn
 obtain ⟨f,fd,F,mt⟩:=L.ex
 refine ⟨f,fd,F,mt,F.ok S (fun vs H Q E z => ?_) fun cdv A outer s H vs Q E hr z => ?_⟩
 ·obtain ⟨ds,_,_,_,_,_,ra,hc,_⟩:=z
  exact ra.length.trans (len _ _ _ _ hc)
 ·obtain ⟨ds,μ,Hc,Qd,Xd,sp,ra,hc,rt,rx⟩:=z
  refine ⟨_,hd f cdv A outer s H E hr (takes_of rfl rfl rfl rfl),_,μ,Hc,_,sp,oF ra,hb _ _ _ _ hc,fun δ μ' h' σ H' bJ e' s' rs'=>jF rt _ _ h' _ _ _ e' s' .non,jF rt,fun _ _ z=>z.elim,fun _ _ z=>z.elim,?_⟩
  exact fun δ cls fs μ' h' σ d H' bJ e' s' rs' xo=>JB rx cls fs μ' h' d H' bJ e' s' xo
structure ajy (P:Program) (w:World) (K:PySem.W.Frag) (mg:Str→Option Value) (base:Heap) (x:Str) (C:Addr) (q:Str) (st:Stmt) (dvs:List V):Prop where
 gc:mg x=some (.ref C)
 ex:∃ f fd,Rg K "__init__" q st dvs f fd∧Mk K C f
theorem ajy.Aq (L:ajy P w K mg base x C q st dvs) (S:FnScope N ps (defScope st)) (len:Len c ps.length) (hb:vD c t n)
  (hd:∀ (f:Addr) (cdv:Value) (A:Around) (outer:List Env) (s:Shared) (H:Hp) (E:XK),Room k (A.deeper (PyProof.Rows.envOfC q (defScope st) s.heap.objs.size f cdv)) →
   Takes (cxOf (L2.CX P w) P w K mg base N q (defScope st) f cdv A outer s H E) (fun cls d _ H'=>E cls d H')→pX (cxOf (L2.CX P w) P w K mg base N q (defScope st) f cdv A outer s H E) (fun cls d _ H'=>E cls d H') (defBody st) t)
  (hn:N.length=n:=by rfl):aqa P w K mg base (L2.CX P w) x C q st (k+1) ps dvs c:=by
 subst hn
 obtain ⟨f,fd,F,mt⟩:=L.ex
 refine ⟨L.gc,f,fd,F,mt,F.ok S (fun vs H Q E z => ?_) fun cdv A outer s H vs Q E hr z => ?_⟩
 ·obtain ⟨ds,_,_,_,_,_,ra,hc,_⟩:=z
  exact ra.length.trans (len _ _ _ _ hc)
 ·obtain ⟨ds,μ,Hc,Qd,Xd,sp,ra,hc,rt,rx⟩:=z
  refine ⟨_,hd f cdv A outer s H E hr (takes_of rfl rfl rfl rfl),_,μ,Hc,_,sp,oF ra,hb _ _ _ _ hc,fun δ μ' h' σ H' bJ e' s' rs'=>jF rt _ _ h' _ _ _ e' s' .non,jF rt,fun _ _ z=>z.elim,fun _ _ z=>z.elim,?_⟩
  exact fun δ cls fs μ' h' σ d H' bJ e' s' rs' xo=>JB rx cls fs μ' h' d H' bJ e' s' xo
variable {fa:List He.Fa} {ex:PySem.W.Frag→List Bool} {fn:List He.DefD}
theorem SaysX.hmv (c:SaysX fa ex fn K) (i:Nat) {C m q:Str} {st:Stmt} {dfl:List He.Dv} {dvs:List V} (e:fn[i]? = some (abu C m q st dfl):=by rfl) (ev:dfl.map (He.Dv.v K)=dvs:=by rfl):JH P w K mg base (He.ga K C) m q st dvs:=by
 obtain ⟨⟨fd,F⟩,a⟩:=c.def_ e
 subst ev
 exact ⟨_,fd,F,He.meth_ok a⟩
end
section
variable {X:Cx} {W:WX} {e:Expr} {es:List Expr} {pos p:Pos} {tr tk:iU} {CX:CXT} {C:Addr} {x qual:Str} {st:Stmt} {k n:Nat} {pm:List Nat} {ps ks:List Str} {c:Ct} {dvs:List V} {u5:List D} {kws:List Keyword}
end
end DL
local macro_rules | `(tactic| walk_at "r") => `(tactic| simp only [DL.aJ,DL.aZ,DL.abD,DL.bV,DL.kCB,DL.ao,DL.Uc,DL.Ou,DL.aC,DL.aq,DL.dC,DL.aF,DL.X7,DL.T9,DL.dB,DL.kB,DL.bY,DL.kIf,DL.aW,DL.dTup,DL.kTup,DL.d7,DL.ahq,DL.Ab,DL.adK,DL.dCall,DL.Zy,DL.tX,DL.Ud,DL.aX,DL.gJ,DL.ZC,DL.dPar,DL.abE,DL.xg,DL.aeg,DL.qd,DL.Ox,DL.Ow,DL.IV,DL.fu,DL.ad9,DL.sJ,DL.aea,DL.jy,DL.kOr,DL.eX,DL.aeb,DL.nD,DL.Zw,DL.Yb,DL.aec,DL.Ma,DL.Zx,DL.nY,DL.Ot,DL.Oq,DL.Ah,DL.yD,DL.Yh,DL.abN,DL.Gx,DL.kFz,DL.Jz,DL.j8,DL.kFor,DL.fO,DL.ZF,DL.lO,DL.IW,DL.zJ,DL.Ja,DL.nH,DL.kLc,DL.NT,DL.ZK,DL.ZL,DL.jB,DL.Em,DL.kItem,DL.HF,DL.Es,DL.HJ,DL.HS,DL.HW,DL.HX,DL.QW,DL.Mp,DL.Hv,DL.En,DL.Mq,DL.Hw,DL.Eo,DL.Ag,DL.Hz,DL.Ep,DL.QX,DL.Mr,DL.srcOf,DL.bW,DL.j9,DL.fH,DL.bF,DL.sets,List.foldl_cons,List.foldl_nil,DL.gI,DL.uP,DL.cD,DL.lW,DL.aN,DL.eY,DL.lV,DL.lD,DL.gIn,DL.dX,DL.NP,DL.Mg,DL.Hj,DL.NQ,DL.QC,DL.El,DL.xR,DL.qb,DL.jt,DL.abC,DL.tyN,DL.qY,DL.qj,DL.qZ,DL.ql,DL.pH,DL.yG,DL.wz,DL.yH,DL.wA,DL.uW,DL.Ai,DL.yI,DL.Aj,DL.yJ,DL.wB,DL.Ak,DL.yK,DL.Am,DL.yL,DL.wC,DL.yM,DL.wD,DL.yN,DL.wF,DL.uX,DL.wG,DL.uY,DL.wH,DL.uZ,DL.sU,DL.abA,DL.Ae,DL.Qy,DL.V7,DL.Lq,DL.Lr,DL.Lw,DL.Ly,DL.LC,DL.ends,DL.aeA,DL.Lj,DL.Ln,DL.Lp,DL.Mi,List.getElem?_cons_zero,List.getElem?_cons_succ,List.set_cons_zero,List.set_cons_succ,DL.JC,DL.Wt,DL.Wu,List.length_cons,List.length_nil,DL.pick,List.filterMap_cons,List.filterMap_nil,List.nil_append,List.cons_append,List.map_cons,List.map_nil,Option.map_some,Option.bind_some,true_and,and_true,Bool.false_eq_true,Bool.not_true,Bool.not_false,Bool.xor_false,Bool.xor_true,Bool.false_xor,Bool.true_xor,decide_true,decide_false,Nat.zero_add,Nat.reduceAdd,not_true_eq_false,not_false_eq_true,DL.ju,DL.ux,DL.ZW,DL.Jc,DL.OJ,DL.Cu,DL.rW,Bool.and_true,Bool.and_false,List.all_cons,List.all_nil,List.any_cons,List.any_nil,Bool.and_self,DL.dM,DL.kM1,DL.kM2,DL.nJ,DL.Cq,DL.QL,DL.Jy,DL.abJ,DL.aes,DL.aer,DL.aep,DL.gSl,DL.cJ,DL.dR,DL.kPart,DL.QM,DL.abK,DL.QS,DL.yC,DL.Ui,DL.zM,DL.QT,DL.Af,DL.Wj,DL.Ml,DL.Wk,DL.Wm,DL.Wl,DL.Hr,DL.Ht,DL.abM,DL.abL,DL.Uj,DL.Lz,DL.yE,DL.wj,DL.yF,DL.wu,DL.uV,DL.Lh,DL.Hh,DL.Mu,DL.ZX,DL.Q5,DL.Ul,DL.Um,DL.O3,DL.O2,DL.Ur,DL.Mw,DL.abQ,DL.Z7,DL.Z6,DL.Z5,DL.Ww,DL.abP,DL.Us,DL.Rc,DL.Rf,DL.Wx,DL.Uu,DL.Ut,DL.O5,DL.Wy,DL.O9,DL.O8,DL.O7,DL.O6,DL.Wz,DL.Z8,DL.Mx,DL.O4,DL.zj,DL.lX,DL.Pa,DL.jD,DL.Yo,DL.abW,DL.oG,DL.abU,DL.wL,DL.JF,DL.Cy,DL.Xx,DL.kMk,DL.rA])
local macro_rules | `(tactic| simp! only [$xs,*]) => `(tactic| simp only [DL.aJ,DL.aZ,DL.abD,DL.bV,DL.kCB,DL.ao,DL.Uc,DL.Ou,DL.aC,DL.aq,DL.dC,DL.aF,DL.X7,DL.T9,DL.dB,DL.kB,DL.bY,DL.kIf,DL.aW,DL.dTup,DL.kTup,DL.d7,DL.ahq,DL.Ab,DL.adK,DL.dCall,DL.Zy,DL.tX,DL.Ud,DL.aX,DL.gJ,DL.ZC,DL.dPar,DL.abE,DL.xg,DL.aeg,DL.qd,DL.Ox,DL.Ow,DL.IV,DL.fu,DL.ad9,DL.sJ,DL.aea,DL.jy,DL.kOr,DL.eX,DL.aeb,DL.nD,DL.Zw,DL.Yb,DL.aec,DL.Ma,DL.Zx,DL.nY,DL.Ot,DL.Oq,DL.Ah,DL.yD,DL.Yh,DL.abN,DL.Gx,DL.kFz,DL.Jz,DL.j8,DL.kFor,DL.fO,DL.ZF,DL.lO,DL.IW,DL.zJ,DL.Ja,DL.nH,DL.kLc,DL.NT,DL.ZK,DL.ZL,DL.jB,DL.Em,DL.kItem,DL.HF,DL.Es,DL.HJ,DL.HS,DL.HW,DL.HX,DL.QW,DL.Mp,DL.Hv,DL.En,DL.Mq,DL.Hw,DL.Eo,DL.Ag,DL.Hz,DL.Ep,DL.QX,DL.Mr,DL.srcOf,DL.bW,DL.j9,DL.fH,DL.bF,DL.sets,List.foldl_cons,List.foldl_nil,DL.gI,DL.uP,DL.cD,DL.lW,DL.aN,DL.eY,DL.lV,DL.lD,DL.gIn,DL.dX,DL.NP,DL.Mg,DL.Hj,DL.NQ,DL.QC,DL.El,DL.xR,DL.qb,DL.jt,DL.abC,DL.tyN,DL.qY,DL.qj,DL.qZ,DL.ql,DL.pH,DL.yG,DL.wz,DL.yH,DL.wA,DL.uW,DL.Ai,DL.yI,DL.Aj,DL.yJ,DL.wB,DL.Ak,DL.yK,DL.Am,DL.yL,DL.wC,DL.yM,DL.wD,DL.yN,DL.wF,DL.uX,DL.wG,DL.uY,DL.wH,DL.uZ,DL.sU,DL.abA,DL.Ae,DL.Qy,DL.V7,DL.Lq,DL.Lr,DL.Lw,DL.Ly,DL.LC,DL.ends,DL.aeA,DL.Lj,DL.Ln,DL.Lp,DL.Mi,List.getElem?_cons_zero,List.getElem?_cons_succ,List.set_cons_zero,List.set_cons_succ,DL.JC,DL.Wt,DL.Wu,List.length_cons,List.length_nil,DL.pick,List.filterMap_cons,List.filterMap_nil,List.nil_append,List.cons_append,List.map_cons,List.map_nil,Option.map_some,Option.bind_some,true_and,and_true,Bool.false_eq_true,Bool.not_true,Bool.not_false,Bool.xor_false,Bool.xor_true,Bool.false_xor,Bool.true_xor,decide_true,decide_false,Nat.zero_add,Nat.reduceAdd,not_true_eq_false,not_false_eq_true,DL.ju,DL.ux,DL.ZW,DL.Jc,DL.OJ,DL.Cu,DL.rW,Bool.and_true,Bool.and_false,List.all_cons,List.all_nil,List.any_cons,List.any_nil,Bool.and_self,DL.dM,DL.kM1,DL.kM2,DL.nJ,DL.Cq,DL.QL,DL.Jy,DL.abJ,DL.aes,DL.aer,DL.aep,DL.gSl,DL.cJ,DL.dR,DL.kPart,DL.QM,DL.abK,DL.QS,DL.yC,DL.Ui,DL.zM,DL.QT,DL.Af,DL.Wj,DL.Ml,DL.Wk,DL.Wm,DL.Wl,DL.Hr,DL.Ht,DL.abM,DL.abL,DL.Uj,DL.Lz,DL.yE,DL.wj,DL.yF,DL.wu,DL.uV,DL.Lh,DL.Hh,DL.Mu,DL.ZX,DL.Q5,DL.Ul,DL.Um,DL.O3,DL.O2,DL.Ur,DL.Mw,DL.abQ,DL.Z7,DL.Z6,DL.Z5,DL.Ww,DL.abP,DL.Us,DL.Rc,DL.Rf,DL.Wx,DL.Uu,DL.Ut,DL.O5,DL.Wy,DL.O9,DL.O8,DL.O7,DL.O6,DL.Wz,DL.Z8,DL.Mx,DL.O4,DL.zj,DL.lX,DL.Pa,DL.jD,DL.Yo,DL.abW,DL.oG,DL.abU,DL.wL,DL.JF,DL.Cy,DL.Xx,DL.kMk,DL.rA,$xs,*])
local macro_rules | `(tactic| walk_at "s") => `(tactic| simp only [DL.aZ,DL.abD,DL.bV,DL.kCB,DL.ao,DL.Uc,DL.Ou,DL.aC,DL.aq,DL.dC,DL.aF,DL.X7,DL.T9,DL.dB,DL.kB,DL.bY,DL.kIf,DL.aW,DL.dTup,DL.kTup,DL.d7,DL.ahq,DL.Ab,DL.adK,DL.dCall,DL.Zy,DL.tX,DL.Ud,DL.aX,DL.gJ,DL.ZC,DL.dPar,DL.abE,DL.xg,DL.aeg,DL.qd,DL.Ox,DL.Ow,DL.IV,DL.fu,DL.ad9,DL.sJ,DL.aea,DL.jy,DL.kOr,DL.eX,DL.aeb,DL.nD,DL.Zw,DL.Yb,DL.aec,DL.Ma,DL.Zx,DL.nY,DL.Ot,DL.Oq,DL.Ah,DL.yD,DL.Yh,DL.abN,DL.Gx,DL.kFz,DL.Jz,DL.j8,DL.kFor,DL.fO,DL.ZF,DL.lO,DL.IW,DL.zJ,DL.Ja,DL.nH,DL.kLc,DL.NT,DL.ZK,DL.ZL,DL.jB,DL.Em,DL.kItem,DL.HF,DL.Es,DL.HJ,DL.HS,DL.HW,DL.HX,DL.QW,DL.Mp,DL.Hv,DL.En,DL.Mq,DL.Hw,DL.Eo,DL.Ag,DL.Hz,DL.Ep,DL.QX,DL.Mr,DL.srcOf,DL.bW,DL.j9,DL.fH,DL.bF,DL.sets,List.foldl_cons,List.foldl_nil,DL.gI,DL.uP,DL.cD,DL.lW,DL.aN,DL.eY,DL.lV,DL.lD,DL.gIn,DL.dX,DL.NP,DL.Mg,DL.Hj,DL.NQ,DL.QC,DL.El,DL.xR,DL.qb,DL.jt,DL.abC,DL.tyN,DL.qY,DL.qj,DL.qZ,DL.ql,DL.pH,DL.yG,DL.wz,DL.yH,DL.wA,DL.uW,DL.Ai,DL.yI,DL.Aj,DL.yJ,DL.wB,DL.Ak,DL.yK,DL.Am,DL.yL,DL.wC,DL.yM,DL.wD,DL.yN,DL.wF,DL.uX,DL.wG,DL.uY,DL.wH,DL.uZ,DL.sU,DL.abA,DL.Ae,DL.Qy,DL.V7,DL.Lq,DL.Lr,DL.Lw,DL.Ly,DL.LC,DL.ends,DL.aeA,DL.Lj,DL.Ln,DL.Lp,DL.Mi,List.getElem?_cons_zero,List.getElem?_cons_succ,List.set_cons_zero,List.set_cons_succ,DL.JC,DL.Wt,DL.Wu,List.length_cons,List.length_nil,DL.pick,List.filterMap_cons,List.filterMap_nil,List.nil_append,List.cons_append,List.map_cons,List.map_nil,Option.map_some,Option.bind_some,true_and,and_true,Bool.false_eq_true,Bool.not_true,Bool.not_false,Bool.xor_false,Bool.xor_true,Bool.false_xor,Bool.true_xor,decide_true,decide_false,Nat.zero_add,Nat.reduceAdd,not_true_eq_false,not_false_eq_true,DL.ju,DL.ux,DL.ZW,DL.Jc,DL.OJ,DL.Cu,DL.rW,Bool.and_true,Bool.and_false,List.all_cons,List.all_nil,List.any_cons,List.any_nil,Bool.and_self,DL.dM,DL.kM1,DL.kM2,DL.nJ,DL.Cq,DL.QL,DL.Jy,DL.abJ,DL.aes,DL.aer,DL.aep,DL.gSl,DL.cJ,DL.dR,DL.kPart,DL.QM,DL.abK,DL.QS,DL.yC,DL.Ui,DL.zM,DL.QT,DL.Af,DL.Wj,DL.Ml,DL.Wk,DL.Wm,DL.Wl,DL.Hr,DL.Ht,DL.abM,DL.abL,DL.Uj,DL.Lz,DL.yE,DL.wj,DL.yF,DL.wu,DL.uV,DL.Lh,DL.Hh,DL.Mu,DL.ZX,DL.Q5,DL.Ul,DL.Um,DL.O3,DL.O2,DL.Ur,DL.Mw,DL.abQ,DL.Z7,DL.Z6,DL.Z5,DL.Ww,DL.abP,DL.Us,DL.Rc,DL.Rf,DL.Wx,DL.Uu,DL.Ut,DL.O5,DL.Wy,DL.O9,DL.O8,DL.O7,DL.O6,DL.Wz,DL.Z8,DL.Mx,DL.O4,DL.zj,DL.lX,DL.Pa,DL.jD,DL.Yo,DL.abW,DL.oG,DL.abU,DL.wL,DL.JF,DL.Cy,DL.Xx,DL.kMk,DL.rA])
local macro_rules | `(tactic| walk_at "l") => `(tactic| simp only [DL.aJ,DL.aZ,DL.abD,DL.bV,DL.kCB,DL.aq,DL.dC,DL.aF,DL.X7,DL.T9,DL.dB,DL.kB,DL.bY,DL.kIf,DL.aW,DL.dCall,DL.Zy,DL.tX,DL.Ud,DL.aX,DL.gJ,DL.ZC,DL.dPar,DL.abE,DL.xg,DL.aeg,DL.qd,DL.Ox,DL.Ow,DL.IV,DL.fu,DL.ad9,DL.sJ,DL.aea,DL.jy,DL.kOr,DL.eX,DL.aeb,DL.nD,DL.Zw,DL.Yb,DL.aec,DL.Ma,DL.Zx,DL.nY,DL.Ot,DL.Oq,DL.Ah,DL.yD,DL.Yh,DL.abN,DL.Gx,DL.kFz,DL.Jz,DL.j8,DL.kFor,DL.fO,DL.ZF,DL.lO,DL.IW,DL.zJ,DL.Ja,DL.nH,DL.kLc,DL.NT,DL.ZK,DL.ZL,DL.jB,DL.Em,DL.kItem,DL.HF,DL.Es,DL.HJ,DL.HS,DL.HW,DL.HX,DL.QW,DL.Mp,DL.Hv,DL.En,DL.Mq,DL.Hw,DL.Eo,DL.Ag,DL.Hz,DL.Ep,DL.QX,DL.Mr,DL.srcOf,DL.bW,DL.j9,DL.fH,DL.bF,DL.sets,List.foldl_cons,List.foldl_nil,DL.gI,DL.uP,DL.cD,DL.lW,DL.aN,DL.eY,DL.lV,DL.lD,DL.gIn,DL.dX,DL.NP,DL.Mg,DL.Hj,DL.NQ,DL.QC,DL.El,DL.xR,DL.qb,DL.jt,DL.abC,DL.tyN,DL.qY,DL.qj,DL.qZ,DL.ql,DL.pH,DL.yG,DL.wz,DL.yH,DL.wA,DL.uW,DL.Ai,DL.yI,DL.Aj,DL.yJ,DL.wB,DL.Ak,DL.yK,DL.Am,DL.yL,DL.wC,DL.yM,DL.wD,DL.yN,DL.wF,DL.uX,DL.wG,DL.uY,DL.wH,DL.uZ,DL.sU,DL.abA,DL.Ae,DL.Qy,DL.V7,DL.Lq,DL.Lr,DL.Lw,DL.Ly,DL.LC,DL.ends,DL.aeA,DL.Lj,DL.Ln,DL.Lp,DL.Mi,List.getElem?_cons_zero,List.getElem?_cons_succ,List.set_cons_zero,List.set_cons_succ,DL.JC,DL.Wt,DL.Wu,List.length_cons,List.length_nil,DL.pick,List.filterMap_cons,List.filterMap_nil,List.nil_append,List.cons_append,List.map_cons,List.map_nil,Option.map_some,Option.bind_some,true_and,and_true,Bool.false_eq_true,Bool.not_true,Bool.not_false,Bool.xor_false,Bool.xor_true,Bool.false_xor,Bool.true_xor,decide_true,decide_false,Nat.zero_add,Nat.reduceAdd,not_true_eq_false,not_false_eq_true,DL.ju,DL.ux,DL.ZW,DL.Jc,DL.OJ,DL.Cu,DL.rW,Bool.and_true,Bool.and_false,List.all_cons,List.all_nil,List.any_cons,List.any_nil,Bool.and_self,DL.dM,DL.kM1,DL.kM2,DL.nJ,DL.Cq,DL.QL,DL.Jy,DL.abJ,DL.aes,DL.aer,DL.aep,DL.gSl,DL.cJ,DL.dR,DL.kPart,DL.QM,DL.abK,DL.QS,DL.yC,DL.Ui,DL.zM,DL.QT,DL.Af,DL.Wj,DL.Ml,DL.Wk,DL.Wm,DL.Wl,DL.Hr,DL.Ht,DL.abM,DL.abL,DL.Uj,DL.Lz,DL.yE,DL.wj,DL.yF,DL.wu,DL.uV,DL.Lh,DL.Hh,DL.Mu,DL.ZX,DL.Q5,DL.Ul,DL.Um,DL.O3,DL.O2,DL.Ur,DL.Mw,DL.abQ,DL.Z7,DL.Z6,DL.Z5,DL.Ww,DL.abP,DL.Us,DL.Rc,DL.Rf,DL.Wx,DL.Uu,DL.Ut,DL.O5,DL.Wy,DL.O9,DL.O8,DL.O7,DL.O6,DL.Wz,DL.Z8,DL.Mx,DL.O4,DL.zj,DL.lX,DL.Pa,DL.jD,DL.Yo,DL.abW,DL.oG,DL.abU,DL.wL,DL.JF,DL.Cy,DL.Xx,DL.kMk,DL.rA])
namespace Fr
def lZ (a b:Int):Int:=(Nat.gcd a.natAbs b.natAbs:Nat)
def by_ (t b:Int):Int:=if b<0 then 0 - lZ t b else lZ t b
def low (t b:Int):Int × Int:=(t.fdiv (by_ t b),b.fdiv (by_ t b))
theorem aeR {t b:Int} (h:b≠0):0<lZ t b:=by
 unfold lZ
 have:0<Nat.gcd t.natAbs b.natAbs:=Nat.gcd_pos_of_pos_right _ (Int.natAbs_pos.mpr h)
 omega
theorem aae {t b:Int} (h:b≠0):by_ t b≠0:=by
 have:=aeR (t:=t) h
 unfold by_
 split<;>omega
theorem Ft {t b:Int}:(by_ t b).natAbs=Nat.gcd t.natAbs b.natAbs:=by
 unfold by_ lZ
 split<;>omega
theorem ao0 {t b:Int} (h:b≠0):(by_ t b).natAbs≤b.natAbs:=by
 rw [Ft]
 exact Nat.gcd_le_right _ (Int.natAbs_pos.mpr h)
theorem ald {t b:Int}:by_ t b∣t:=by
 rw [← Int.natAbs_dvd_natAbs,Ft]
 exact Nat.gcd_dvd_left _ _
theorem ale {t b:Int}:by_ t b∣b:=by
 rw [← Int.natAbs_dvd_natAbs,Ft]
 exact Nat.gcd_dvd_right _ _
theorem agY {x g:Int} (hg:g≠0) (h:g∣x):x.fdiv g*g=x:=by
 rw [Int.fdiv_eq_ediv_of_dvd h]
 exact Int.ediv_mul_cancel h
theorem ahH {t b:Int} (h:b≠0):(low t b).1*by_ t b=t:=agY (aae h) ald
theorem adU {t b:Int} (h:b≠0):(low t b).2*by_ t b=b:=agY (aae h) ale
theorem oU {t b:Int} (h:b≠0):1≤(low t b).2:=by
 have e:=adU (t:=t) h
 have hg:=aeR (t:=t) h
 by_cases hb:b<0
 ·have eb:by_ t b = - lZ t b:=by unfold by_;rw [if_pos hb];omega
  rw [eb] at e
  rcases Int.lt_or_le (low t b).2 1 with hl | hl
  ·exfalso
   have:0≤(low t b).2 * -lZ t b:=by
    have h1:(low t b).2≤0:=by omega
    have:=Int.mul_nonneg_of_nonpos_of_nonpos h1 (show -lZ t b≤0 by omega)
    exact this
   omega
  ·exact hl
 ·have eb:by_ t b=lZ t b:=by unfold by_;rw [if_neg hb]
  rw [eb] at e
  rcases Int.lt_or_le (low t b).2 1 with hl | hl
  ·exfalso
   have:(low t b).2*lZ t b≤0:=Int.mul_nonpos_of_nonpos_of_nonneg (by omega) (by omega)
   omega
  ·exact hl
theorem Pg {t b:Int} (h:b≠0):Nat.gcd (low t b).1.natAbs (low t b).2.natAbs=1:=by
 have e1:(low t b).1.natAbs*Nat.gcd t.natAbs b.natAbs=t.natAbs:=by rw [← Ft (t:=t) (b:=b),← Int.natAbs_mul,ahH h]
 have e2:(low t b).2.natAbs*Nat.gcd t.natAbs b.natAbs=b.natAbs:=by rw [← Ft (t:=t) (b:=b),← Int.natAbs_mul,adU h]
 have hp:0<Nat.gcd t.natAbs b.natAbs:=Nat.gcd_pos_of_pos_right _ (Int.natAbs_pos.mpr h)
 have e3:=Nat.gcd_mul_right (low t b).1.natAbs (Nat.gcd t.natAbs b.natAbs) (low t b).2.natAbs
 rw [e1,e2] at e3
 have:Nat.gcd (low t b).1.natAbs (low t b).2.natAbs*Nat.gcd t.natAbs b.natAbs=1*Nat.gcd t.natAbs b.natAbs:=by rw [← e3,Nat.one_mul]
 exact Nat.eq_of_mul_eq_mul_right hp this
theorem jf {t b:Int} (h:b≠0):(low t b).1*b=t*(low t b).2:=by
 have e1:=ahH (t:=t) h
 have e2:=adU (t:=t) h
 calc (low t b).1*b=(low t b).1*((low t b).2*by_ t b):=by rw [e2]
  _=((low t b).1*by_ t b)*(low t b).2:=by rw [Int.mul_comm (low t b).2,Int.mul_assoc]
  _=t*(low t b).2:=by rw [e1]
theorem amV {t b:Int} (h:b≠0):(low t b).1.natAbs≤t.natAbs:=by
 have e1:(low t b).1.natAbs*(by_ t b).natAbs=t.natAbs:=by rw [← Int.natAbs_mul,ahH h]
 have hp:1≤(by_ t b).natAbs:=Int.natAbs_pos.mpr (aae h)
 calc (low t b).1.natAbs=(low t b).1.natAbs*1:=(Nat.mul_one _).symm
  _≤(low t b).1.natAbs*(by_ t b).natAbs:=Nat.mul_le_mul_left _ hp
  _=t.natAbs:=e1
theorem amW {t b:Int} (h:b≠0):(low t b).2.natAbs≤b.natAbs:=by
 have e1:(low t b).2.natAbs*(by_ t b).natAbs=b.natAbs:=by rw [← Int.natAbs_mul,adU h]
 have hp:1≤(by_ t b).natAbs:=Int.natAbs_pos.mpr (aae h)
 calc (low t b).2.natAbs=(low t b).2.natAbs*1:=(Nat.mul_one _).symm
  _≤(low t b).2.natAbs*(by_ t b).natAbs:=Nat.mul_le_mul_left _ hp
  _=b.natAbs:=e1
theorem ahI {x y u v:Int} (hy:1≤y) (hv:1≤v) (h1:Nat.gcd x.natAbs y.natAbs=1) (h2:Nat.gcd u.natAbs v.natAbs=1) (e:x*v=u*y):x=u∧y=v:=by
 have en:x.natAbs*v.natAbs=u.natAbs*y.natAbs:=by rw [← Int.natAbs_mul,← Int.natAbs_mul,e]
 have d1:y.natAbs∣v.natAbs:=by
  have:y.natAbs∣x.natAbs*v.natAbs:=⟨u.natAbs,by rw [en,Nat.mul_comm]⟩
  exact Nat.Coprime.dvd_of_dvd_mul_left (by rw [Nat.coprime_comm];exact h1) this
 have d2:v.natAbs∣y.natAbs:=by
  have:v.natAbs∣u.natAbs*y.natAbs:=⟨x.natAbs,by rw [← en,Nat.mul_comm]⟩
  exact Nat.Coprime.dvd_of_dvd_mul_left (by rw [Nat.coprime_comm];exact h2) this
 have ev:y.natAbs=v.natAbs:=Nat.dvd_antisymm d1 d2
 have eyv:y=v:=by omega
 subst eyv
 exact ⟨Int.eq_of_mul_eq_mul_right (by omega) e,rfl⟩
theorem sW {t b x y:Int} (h:b≠0) (hy:1≤y) (hc:Nat.gcd x.natAbs y.natAbs=1) (e:x*b=t*y):low t b=(x,y):=by
 have e1:=jf (t:=t) h
 have e2:(low t b).1*y=x*(low t b).2:=by
  have:(low t b).1*y*b=x*(low t b).2*b:=by
   calc (low t b).1*y*b=((low t b).1*b)*y:=by rw [Int.mul_assoc,Int.mul_comm y,← Int.mul_assoc]
    _=t*(low t b).2*y:=by rw [e1]
    _=(t*y)*(low t b).2:=by rw [Int.mul_assoc,Int.mul_comm (low t b).2,← Int.mul_assoc]
    _=(x*b)*(low t b).2:=by rw [e]
    _=x*(low t b).2*b:=by rw [Int.mul_assoc,Int.mul_comm b,← Int.mul_assoc]
  exact Int.eq_of_mul_eq_mul_right h this
 obtain ⟨a,c⟩:=ahI (oU h) hy (Pg h) hc e2
 exact Prod.ext a c
structure Ok (n:Nat) (f:Int × Int):Prop where
 pos:1≤f.2
 cop:Nat.gcd f.1.natAbs f.2.natAbs=1
 tb:f.1.natAbs<2^n
 bb:f.2.natAbs<2^n
theorem Ok.ne {n:Nat} {f:Int × Int} (h:Ok n f):f.2≠0:=by have:=h.pos;omega
theorem Ok.mono {n m:Nat} {f:Int × Int} (h:Ok n f) (l:n≤m):Ok m f:=⟨h.pos,h.cop,Nat.lt_of_lt_of_le h.tb (Nat.pow_le_pow_right (by decide) l),Nat.lt_of_lt_of_le h.bb (Nat.pow_le_pow_right (by decide) l)⟩
theorem Ok.self {n:Nat} {f:Int × Int} (h:Ok n f):low f.1 f.2=f:=sW h.ne h.pos h.cop rfl
theorem Ph {n:Nat} {t b:Int} (h:b≠0) (ht:t.natAbs<2^n) (hb:b.natAbs<2^n):Ok n (low t b):=⟨oU h,Pg h,Nat.lt_of_le_of_lt (amV h) ht,Nat.lt_of_le_of_lt (amW h) hb⟩
theorem mul_lt {x y:Int} {a b:Nat} (ha:x.natAbs<2^a) (hb:y.natAbs<2^b):(x*y).natAbs<2^(a+b):=L2.wide_lt ha hb
theorem an8 {x y:Int} {a:Nat} (ha:x.natAbs<2^a) (hb:y.natAbs<2^a):(x+y).natAbs<2^(a+1):=by
 rw [Nat.pow_succ]
 omega
theorem sub_lt {x y:Int} {a:Nat} (ha:x.natAbs<2^a) (hb:y.natAbs<2^a):(x - y).natAbs<2^(a+1):=by
 rw [Nat.pow_succ]
 omega
theorem Cz {x:Int} {a b:Nat} (h:x.natAbs<2^a) (l:a≤b):x.natAbs<2^b:=Nat.lt_of_lt_of_le h (Nat.pow_le_pow_right (by decide) l)
theorem oh {x y:Int} (h:x≠0) (k:y≠0):x*y≠0:=Int.mul_ne_zero h k
def o8 (f g:Int × Int):Int × Int:=low (f.1*g.2+g.1*f.2) (f.2*g.2)
def sX (f g:Int × Int):Int × Int:=low (f.1*g.2 - g.1*f.2) (f.2*g.2)
theorem an9 {n m:Nat} {f g:Int × Int} (h:Ok n f) (k:Ok m g):Ok (n+m+1) (o8 f g):=by
 refine Ph (oh h.ne k.ne) (an8 (mul_lt h.tb k.bb) ?_) (Cz (mul_lt h.bb k.bb) (by omega))
 rw [Nat.add_comm n m]
 exact mul_lt k.tb h.bb
end Fr
set_option exponentiation.threshold 20000
namespace NB
open PySem PySem.Spec L2 DL Fr
def fr (f:Int × Int):D := .tup [.int f.1,.int f.2]
abbrev aeS:D := .tup [.int 0,.int 1]
structure Sz (f:Int × Int):Prop where
 ne:f.2≠0
 tb:f.1.natAbs<2^4000
 bb:f.2.natAbs<2^4000
def Yr:Ct:=fun ds μ Q _=>∃ a b:Int,ds=[.int a,.int b]∧Q (.int (lZ a b)) μ
def alf:Ct:=fun ds μ Q _=>∃ t b:Int,ds=[.int t,.int b]∧b≠0∧b.natAbs<2^8100∧Q (fr (low t b)) μ
def Ux:Ct:=fun ds μ Q _=>∃ f g,ds=[fr f,fr g]∧Sz f∧Sz g∧Q (fr (o8 f g)) μ
def Pj:Ct:=fun ds μ Q _=>∃ f g,ds=[fr f,fr g]∧Sz f∧Sz g∧Q (fr (sX f g)) μ
def Jd:Ct:=fun ds μ Q _=>∃ f g,ds=[fr f,fr g]∧Sz f∧Sz g∧Q (.bl (decide (f.1*g.2<g.1*f.2))) μ
def dO (μ:M) (p:Addr):Prop:=∃ c s:Int,μ p=some (.lst [.int c,.int s])∧0≤c∧0≤s∧s<2147483647
def Uy:Ct:=fun ds μ Q _=>∃ (ns:List Int) (k:Int),ds=[.dJ ns,.int k]∧0≤k∧∀ c:Int,Q (.int c) μ
def Pk:Ct:=fun ds μ Q _=>∃ (ns:List Int) (k:Int),ds=[.dJ ns,.int k]∧0≤k∧k<100∧∀ p μ',μ p=none→dO μ' p→nM μ μ' p→Q (.raw (.ref p)) μ'
def cQ:Ct:=fun ds μ Q _=>∃ (p:Addr) (m:Int),ds=[.raw (.ref p),.int m]∧dO μ p∧0<m∧m<2^100∧∀ r μ',0≤r→r<m→dO μ' p→nM μ μ' p→Q (.int r) μ'
def aaf:Ct:=alf
def Ys:bh :=
 (aJ (aZ 0 (bV NP (ao (aq 0) aC)))
  (aJ (aZ 1 (bV NP (ao (aq 1) aC)))
  (aJ (Jv (dB (aF gGt (aq 1) (dC (.int 0)))) (dPar 0 1 (ao (aq 1) (ao (aF (gI (fun _ j=>j≠0) fun i j => .int (i.fmod j)) (aq 0) (aq 1)) aC))))
  (aW (aq 0)))))
def abX:bh :=
 (aW (aF LQ (aF lW (aF aN (aq 0) (dC (.int 0))) (aF aN (aq 1) (dC (.int 1)))) (aF lW (aF aN (aq 1) (dC (.int 0))) (aF aN (aq 0) (dC (.int 1))))))
def FZ:bh :=
 (aJ (bY (dB (aF LQ (aq 1) (bV dX (ao (aq 0) aC)))) (aW (aF aN (aq 0) (aq 1))) aX)
  (aW (dC (.int 0))))
def Rh:bh :=
 (aJ (aZ 2 (dCall Uy (ao (aq 0) (ao (aq 1) aC))))
  (aJ (aZ 3 (aF (gI (fun _ j=>j≠0) fun i j => .int (i.fmod j)) (aF lW (aF cD (aF cD (aF (gI (fun _ j=>j≠0) fun i j => .int (i.fmod j)) (aq 2) (dC (.int 2147483629))) (aF lW (aF lW (dC (.int 7919)) (aq 1)) (aq 1))) (dC (.int 1))) (dC (.int 48271))) (dC (.int 2147483647))))
  (aJ (bY (dB (aF LQ (aq 2) (aF (gI CPow fun i j => .int (i^j.toNat)) (dC (.int 10)) (dC (.int 18))))) (aZ 2 (dC (.int 0))) aX)
  (aW (Ab (ao (aq 2) (ao (aF (gI (fun _ j=>j≠0) fun i j => .int (i.fmod j)) (aF lW (aq 3) (aq 3)) (dC (.int 2147483629))) aC)))))))
def Ri:bh :=
 (aJ (bY (dB (aF gGt (aF aN (aq 0) (dC (.int 0))) (dC (.int 0)))) (aJ (aZ 2 (aF (gI (fun _ j=>j≠0) fun i j => .int (i.fmod j)) (aF aN (aq 0) (dC (.int 0))) (aq 1)))
  (aJ (qd (aF (gI Ek fun i j => .int (i.fdiv j)) (aF aN (aq 0) (dC (.int 0))) (aq 1)) (aq 0) (dC (.int 0)))
  (aW (aq 2)))) aX)
  (aJ (qd (aF (gI (fun _ j=>j≠0) fun i j => .int (i.fmod j)) (aF cD (aF lW (aF aN (aq 0) (dC (.int 1))) (dC (.int 48271))) (dC (.int 11))) (dC (.int 2147483647))) (aq 0) (dC (.int 1)))
  (aW (aF (gI (fun _ j=>j≠0) fun i j => .int (i.fmod j)) (aF (gI Ek fun i j => .int (i.fdiv j)) (aF (gI (fun _ j=>j≠0) fun i j => .int (i.fmod j)) (aF lW (aF aN (aq 0) (dC (.int 1))) (aF aN (aq 0) (dC (.int 1)))) (dC (.int 2147483629))) (dC (.int 64))) (aq 1)))))
def Uz:bh :=
 (aJ (aZ 2 (bV NP (ao (aq 0) aC)))
  (aJ (aZ 3 (bV NP (ao (aq 1) aC)))
  (aJ (Jv (dB (aF gGt (aq 3) (dC (.int 0)))) (dPar 2 3 (ao (aq 3) (ao (aF (gI (fun _ j=>j≠0) fun i j => .int (i.fmod j)) (aq 2) (aq 3)) aC))))
  (aJ (bY (dB (aF LQ (aq 1) (dC (.int 0)))) (aZ 2 (aF (uP fun i j => .int (i - j)) (dC (.int 0)) (aq 2))) aX)
  (aW (dTup (ao (aF (gI Ek fun i j => .int (i.fdiv j)) (aq 0) (aq 2)) (ao (aF (gI Ek fun i j => .int (i.fdiv j)) (aq 1) (aq 2)) aC))))))))
theorem aeT {a b:Int}:lZ (if a<0 then -a else a) (if b<0 then -b else b)=lZ a b:=by
 unfold lZ
 have h1:(if a<0 then -a else a).natAbs=a.natAbs:=by split<;>omega
 have h2:(if b<0 then -b else b).natAbs=b.natAbs:=by split<;>omega
 rw [h1,h2]
theorem acO {x y:Int} (hx:0≤x) (hy:0<y):lZ y (x.fmod y)=lZ x y:=by
 unfold lZ
 have e:(x.fmod y).natAbs=x.natAbs % y.natAbs:=by
  rw [Int.fmod_eq_emod_of_nonneg x (by omega)]
  obtain ⟨n,rfl⟩:=Int.eq_ofNat_of_zero_le hx
  obtain ⟨m,rfl⟩:=Int.eq_ofNat_of_zero_le (Int.le_of_lt hy)
  rfl
 rw [e,Nat.gcd_comm,← Nat.gcd_rec,Nat.gcd_comm]
theorem acP {x:Int} (hx:0≤x):lZ x 0=x:=by
 unfold lZ
 simp
 omega
theorem ajz:HB Yr Ys 2:=by
 intro ds μ Q X h
 obtain ⟨a,b,rfl,q⟩:=h
 show Ys (ends Q XF) [some (.int a),some (.int b)] μ
 simp! only [Ys]
 refine while_by (fun m δ μ'=>∃ x y:Int,δ=[some (.int x),some (.int y)]∧0≤x∧0≤y∧lZ x y=lZ a b∧m=y.toNat∧μ'=μ) ⟨_,_,rfl,by split<;>omega,by split<;>omega,aeT,rfl,rfl⟩ ?_
 rintro m δ μ' ⟨x,y,rfl,hx,hy,hg,rfl,rfl⟩
 walk_at "r"
 refine fD (fun h0 => ?_) (fun h => ?_)
 ·have e1:=Int.fmod_nonneg_of_pos x h0
  have e2:=Int.fmod_lt_of_pos x h0
  walk_at "r"
  refine ⟨by omega,(x.fmod y).toNat,by omega,y,x.fmod y,rfl,by omega,by omega,?_,rfl,rfl⟩
  rw [acO hx h0,hg]
 ·have h0:y=0:=by omega
  subst h0
  rw [acP hx] at hg
  walk_at "r"
  exact .of (by rw [hg];exact q)
theorem mok {x y:Int} (hx:x.natAbs<2^4000) (hy:y.natAbs<2^4000):IntMulOk x y:=acK hx hy (by decide)
theorem alg:HB Jd abX 2:=by
 intro ds μ Q X h
 obtain ⟨⟨a,b⟩,⟨c,d⟩,rfl,hf,hg,q⟩:=h
 show abX (ends Q XF) [some (fr (a,b)),some (fr (c,d))] μ
 simp! only [abX,fr]
 exact ⟨mok hf.tb hg.bb,mok hg.tb hf.bb,.of q⟩
theorem Ok.sz {n:Nat} {f:Int × Int} (h:Ok n f) (l:n≤4000):Sz f:=⟨h.ne,Cz h.tb l,Cz h.bb l⟩
theorem ajA:Ok 1 ((0,1):Int × Int):=⟨by decide,by decide,by decide,by decide⟩
theorem take_succ {α:Type} {l:List α} {i:Nat} {x:α} (h:l[i]? = some x):l.take (i+1)=l.take i++[x]:=by
 rw [List.take_add_one,h]
 rfl
theorem abY:HB Uy FZ 2:=by
 intro ds μ Q X h
 obtain ⟨ns,k,rfl,hk,q⟩:=h
 show FZ (ends Q XF) [some (.dJ ns),some (.int k)] μ
 simp! only [FZ]
 refine fD (fun h => ?_) (fun h => ?_)
 ·obtain ⟨x,e,_⟩:=mW hk h
  simp! only [e]
  exact .of (q _)
 ·walk_at "r"
  exact .of (q _)
theorem af2:HB Pk Rh 4:=by
 intro ds μ Q X h
 obtain ⟨ns,k,rfl,hk,hk2,q⟩:=h
 show Rh (ends Q XF) [some (.dJ ns),some (.int k),none,none] μ
 simp! only [Rh]
 refine ⟨ns,k,rfl,hk,fun c => ?_⟩
 walk_at "r"
 have e0:∀ x:Int,0≤x.fmod 2147483629∧x.fmod 2147483629<2147483629:=fun x=>⟨Int.fmod_nonneg_of_pos x (by decide),Int.fmod_lt_of_pos x (by decide)⟩
 have e1:∀ x:Int,0≤x.fmod 2147483647∧x.fmod 2147483647<2147483647:=fun x=>⟨Int.fmod_nonneg_of_pos x (by decide),Int.fmod_lt_of_pos x (by decide)⟩
 have kk:0≤7919*k*k∧7919*k*k<2^40:=by
  have h1:0≤k*k:=Int.mul_nonneg hk hk
  have h2:k*k≤100*100:=Int.mul_le_mul (by omega) (by omega) hk (by decide)
  have h3:7919*k*k=7919*(k*k):=Int.mul_assoc ..
  omega
 have a1:=e0 c
 have m1:IntMulOk 7919 k:=qJ (by omega) (by omega) (by omega) (by omega)
 have m2:IntMulOk (7919*k) k:=qJ (by omega) (by omega) (by omega) (by omega)
 have m3:IntMulOk (c.fmod 2147483629+7919*k*k+1) 48271:=qJ (by omega) (by omega) (by omega) (by omega)
 refine ⟨by decide,m1,m2,m3,by decide,⟨by decide,by decide,by decide⟩,?_⟩
 generalize (c.fmod 2147483629+7919*k*k+1)*48271=y
 have b1:=e1 y
 have m4:IntMulOk (y.fmod 2147483647) (y.fmod 2147483647):=qJ (by omega) (by omega) (by omega) (by omega)
 have b2:=e0 (y.fmod 2147483647*y.fmod 2147483647)
 refine fD (fun h => ?_) (fun h => ?_)
 ·walk_at "r"
  refine ⟨m4,by decide,by decide,fun p hp => .of (q p _ hp ⟨0,_,aP,by decide,b2.1,by omega⟩ nM.upd)⟩
 ·walk_at "r"
  refine ⟨m4,by decide,by decide,fun p hp => .of (q p _ hp ⟨c,_,aP,?_,b2.1,by omega⟩ nM.upd)⟩
  have z:¬ c<10^Int.toNat 18:=h
  have:(10:Int)^Int.toNat 18=1000000000000000000:=by decide
  omega
theorem af3:HB cQ Ri 3:=by
 intro ds μ Q X h
 obtain ⟨p,m,rfl,⟨c,s,hp,hc,hs,hs2⟩,h0,h1,q⟩:=h
 show Ri (ends Q XF) [some (.raw (.ref p)),some (.int m),none] μ
 have e0:=Int.fmod_nonneg_of_pos c h0
 have e1:=Int.fmod_lt_of_pos c h0
 have aqB:(2:Nat)^100=1267650600228229401496703205376:=by decide
 have hd:∀ x,Ek x m:=fun x=>acL (b:=100) (by omega) (by omega) (by decide)
 simp! only [Ri,gh hp]
 refine fD (fun h => ?_) (fun h => ?_)
 ·simp! only [gh hp]
  refine ⟨by omega,hd _,_,hp,?_⟩
  simp! only [ak0]
  have ef:0≤c.fdiv m:=by rw [Int.fdiv_eq_ediv_of_nonneg c (by omega)];exact Int.ediv_nonneg hc (by omega)
  exact .of (q _ _ e0 e1 ⟨_,s,aP,ef,hs,hs2⟩ nM.upd)
 ·have m1:IntMulOk s 48271:=qJ (by omega) (by omega) (by omega) (by omega)
  simp! only [gh hp]
  refine ⟨m1,by decide,_,hp,?_⟩
  simp! only [amM]
  have hv:(cC μ p (C.lst [D.int c,D.int ((s*48271+11).fmod 2147483647)])) p=some (C.lst [D.int c,D.int ((s*48271+11).fmod 2147483647)]):=aP
  simp! only [gh hv]
  generalize s*48271+11=y
  have b1:0≤y.fmod 2147483647∧y.fmod 2147483647<2147483647:=⟨Int.fmod_nonneg_of_pos _ (by decide),Int.fmod_lt_of_pos _ (by decide)⟩
  have m4:IntMulOk (y.fmod 2147483647) (y.fmod 2147483647):=qJ (by omega) (by omega) (by omega) (by omega)
  refine ⟨m4,by decide,afX (by decide) (by decide),by omega,.of (q _ _ (Int.fmod_nonneg_of_pos _ h0) (Int.fmod_lt_of_pos _ h0) ⟨_,_,aP,hc,b1.1,b1.2⟩ nM.upd)⟩
theorem ahJ:HB aaf Uz 4:=by
 intro ds μ Q X h
 obtain ⟨t,b,rfl,hb,hz,q⟩:=h
 show Uz (ends Q XF) [some (.int t),some (.int b),none,none] μ
 simp! only [Uz]
 refine while_by (fun m δ μ'=>∃ x y:Int,δ=[some (.int t),some (.int b),some (.int x),some (.int y)]∧0≤x∧0≤y∧lZ x y=lZ t b∧m=y.toNat∧μ'=μ) ⟨_,_,rfl,by split<;>omega,by split<;>omega,aeT,rfl,rfl⟩ ?_
 rintro m δ μ' ⟨x,y,rfl,hx,hy,hg,rfl,rfl⟩
 walk_at "r"
 refine fD (fun h0 => ?_) (fun h => ?_)
 ·have e1:=Int.fmod_nonneg_of_pos x h0
  have e2:=Int.fmod_lt_of_pos x h0
  walk_at "r"
  refine ⟨by omega,(x.fmod y).toNat,by omega,y,x.fmod y,rfl,by omega,by omega,?_,rfl,rfl⟩
  rw [acO hx h0,hg]
 ·have h0:y=0:=by omega
  subst h0
  rw [acP hx] at hg
  have e:by_ t b=if b<0 then 0 - x else x:=by rw [hg];rfl
  have hd:∀ x,Ek x (by_ t b):=fun x=>acL (aae hb) (Nat.lt_of_le_of_lt (ao0 hb) hz) (by decide)
  walk_at "r"
  refine fD (fun h => ?_) (fun h => ?_)
  ·rw [if_pos h] at e
   walk_at "r"
   rw [← e]
   exact ⟨hd _,hd _,by decide,.of q⟩
  ·rw [if_neg h] at e
   walk_at "r"
   rw [← e]
   exact ⟨hd _,hd _,by decide,.of q⟩
end NB
namespace NB
def Tn (F:List ((Int × Int) × Int)):Int→List Nat→Int→Prop
 | h,[],e=>h=e
 | h,i::is,e=>∃ t,F[i]? = some (t,1)∧(t.1=h∨t.2=h)∧Tn F (t.1+t.2 - h) is e
theorem Tn.snoc {F:List ((Int × Int) × Int)} {j:Nat} {t:Int × Int} (hj:F[j]? = some (t,1)):∀ {a:Int} {is:List Nat} {c:Int},Tn F a is c→(t.1=c∨t.2=c)→Tn F a (is++[j]) (t.1+t.2 - c)
 | a,[],c,h,ht=>by
  cases (show a=c from h)
  exact ⟨t,hj,ht,rfl⟩
 | a,i::is,c,h,ht=>by
  obtain ⟨u,h1,h2,h3⟩:=h
  exact ⟨u,h1,h2,Tn.snoc hj h3 ht⟩
def Down (m:Int) (F:List ((Int × Int) × Int)):Prop:=∀ p:Int,1≤p→p<m→∃ (j:Nat) (t:Int × Int),F[j]? = some (t,1)∧((t.1=p∧0≤t.2∧t.2<p)∨(t.2=p∧0≤t.1∧t.1<p))
theorem alh {m:Int} {F:List ((Int × Int) × Int)} (hd:Down m F):∀ (n:Nat) (a b:Int),0≤a→a<m→0≤b→b<m→a+b≤n →
  ∃ is,Tn F a is b∧is.Nodup∧∀ i∈is,∃ t c,F[i]? = some (t,c)∧t.1≤max a b∧t.2≤max a b:=by
 intro n
 induction n with
 | zero =>
  intro a b h1 h2 h3 h4 h5
  have ea:a=0:=by omega
  have eb:b=0:=by omega
  subst ea eb
  exact ⟨[],rfl,List.nodup_nil,by simp⟩
 | succ n ih =>
  intro a b h1 h2 h3 h4 h5
  rcases Int.lt_trichotomy a b with h | h | h
  ·obtain ⟨j,t,hj,ht⟩:=hd b (by omega) h4
   have hq:∃ q,0≤q∧q<b∧(t.1=q∨t.2=q)∧t.1+t.2 - q=b:=by
    rcases ht with ⟨e,e1,e2⟩ | ⟨e,e1,e2⟩
    ·exact ⟨t.2,e1,e2,.inr rfl,by omega⟩
    ·exact ⟨t.1,e1,e2,.inl rfl,by omega⟩
   obtain ⟨q,q0,q1,q2,q3⟩:=hq
   obtain ⟨is,t1,t2,t3⟩:=ih a q h1 h2 q0 (by omega) (by omega)
   have hmx:t.1≤b∧t.2≤b∧(t.1=b∨t.2=b):=by omega
   refine ⟨is++[j],q3 ▸ t1.snoc hj q2,?_,fun i hi => ?_⟩
   ·refine List.nodup_append.mpr ⟨t2,by simp,fun x hx y hy => ?_⟩
    rw [List.mem_singleton] at hy
    subst hy
    intro e
    subst e
    obtain ⟨u,c,k1,k2,k3⟩:=t3 x hx
    rw [hj] at k1
    cases k1
    omega
   ·rcases List.mem_append.mp hi with hi | hi
    ·obtain ⟨u,c,k1,k2,k3⟩:=t3 i hi
     exact ⟨u,c,k1,by omega,by omega⟩
    ·rw [List.mem_singleton] at hi
     subst hi
     exact ⟨t,1,hj,by omega,by omega⟩
  ·subst h
   exact ⟨[],rfl,List.nodup_nil,by simp⟩
  ·obtain ⟨j,t,hj,ht⟩:=hd a (by omega) h2
   have hq:∃ q,0≤q∧q<a∧(t.1=a∨t.2=a)∧t.1+t.2 - a=q:=by
    rcases ht with ⟨e,e1,e2⟩ | ⟨e,e1,e2⟩
    ·exact ⟨t.2,e1,e2,.inl e,by omega⟩
    ·exact ⟨t.1,e1,e2,.inr e,by omega⟩
   obtain ⟨q,q0,q1,q2,q3⟩:=hq
   obtain ⟨is,t1,t2,t3⟩:=ih q b q0 (by omega) h3 h4 (by omega)
   have hmx:t.1≤a∧t.2≤a∧(t.1=a∨t.2=a):=by omega
   refine ⟨j::is,⟨t,hj,q2,q3 ▸ t1⟩,List.nodup_cons.mpr ⟨fun hx => ?_,t2⟩,fun i hi => ?_⟩
   ·obtain ⟨u,c,k1,k2,k3⟩:=t3 j hx
    rw [hj] at k1
    cases k1
    omega
   ·rcases List.mem_cons.mp hi with hi | hi
    ·subst hi
     exact ⟨t,1,hj,by omega,by omega⟩
    ·obtain ⟨u,c,k1,k2,k3⟩:=t3 i hi
     exact ⟨u,c,k1,by omega,by omega⟩
def ind (n:Nat) (is:List Nat):List Int:=(List.range n).map fun i=>if i∈is then 1 else 0
theorem pK {n:Nat} {is:List Nat}:(ind n is).length=n:=by unfold ind;rw [List.length_map,List.length_range]
theorem Pn {n:Nat} {is:List Nat} {i:Nat} (h:i<n):(ind n is)[i]? = some (if i∈is then 1 else 0):=by
 unfold ind
 rw [List.getElem?_map,List.getElem?_range h]
 rfl
theorem amX {n:Nat}:ind n []=List.replicate n 0:=by
 apply List.ext_getElem?
 intro i
 by_cases h:i<n
 ·rw [Pn h,List.getElem?_replicate,if_pos h]
  simp
 ·rw [List.getElem?_eq_none (by rw [pK];omega),List.getElem?_eq_none (by rw [List.length_replicate];omega)]
theorem amY {n:Nat} {is:List Nat} {j:Nat}:(ind n is).set j 1=ind n (is++[j]):=by
 apply List.ext_getElem?
 intro i
 by_cases h:i<n
 ·rw [Pn h]
  by_cases e:j=i
  ·subst e
   rw [List.getElem?_set_self (by rw [pK];exact h)]
   simp
  ·rw [List.getElem?_set_ne e,Pn h]
   simp [Ne.symm e]
 ·rw [List.getElem?_eq_none (by rw [List.length_set,pK];omega),List.getElem?_eq_none (by rw [pK];omega)]
theorem adh {α:Type} {l:List α} {i:Nat} {x:α} (h:i<l.length):l.take i++[x]++l.drop (i+1)=l.set i x:=by
 rw [List.set_eq_take_append_cons_drop,if_pos h]
 simp
abbrev Row:=List (Int × List Nat)
def WL (F:List ((Int × Int) × Int)) (b:Int) (x:Int × List Nat):Prop:=Tn F b x.2 x.1∧x.2.Nodup∧∀ i∈x.2,i<F.length
def ahK (F:List ((Int × Int) × Int)) (e:Int) (x:Int × List Nat):Prop:=∃ is,Tn F x.1 is e∧is.Nodup∧(∀ i∈is,i ∉ x.2)∧∀ i∈is,i<F.length
def step1 (F:List ((Int × Int) × Int)) (x:Int × List Nat) (i:Nat):Row:=match F[i]? with
 | some (t,c)=>if c=1∧(t.1=x.1∨t.2=x.1)∧i ∉ x.2 then [(t.1+t.2 - x.1,x.2++[i])] else []
 | none=>[]
def ext (F:List ((Int × Int) × Int)) (x:Int × List Nat) (n:Nat):Row:=(List.range n).flatMap (step1 F x)
theorem Rj {F:List ((Int × Int) × Int)} {x:Int × List Nat} {n:Nat}:ext F x (n+1)=ext F x n++step1 F x n:=by
 unfold ext
 rw [List.range_succ,List.flatMap_append,List.flatMap_singleton]
theorem ali {F:List ((Int × Int) × Int)} {x y:Int × List Nat} {i:Nat} (h:y∈step1 F x i):∃ t,F[i]? = some (t,1)∧(t.1=x.1∨t.2=x.1)∧i ∉ x.2∧y=(t.1+t.2 - x.1,x.2++[i]):=by
 unfold step1 at h
 split at h
 ·rename_i t c e
  split at h
  ·rename_i hc
   obtain ⟨rfl,h2,h3⟩:=hc
   rw [List.mem_singleton] at h
   exact ⟨t,e,h2,h3,h⟩
  ·cases h
 ·cases h
theorem ext_mem {F:List ((Int × Int) × Int)} {x y:Int × List Nat} {n:Nat} (h:y∈ext F x n):∃ i t,i<n∧F[i]? = some (t,1)∧(t.1=x.1∨t.2=x.1)∧i ∉ x.2∧y=(t.1+t.2 - x.1,x.2++[i]):=by
 unfold ext at h
 obtain ⟨i,hi,hy⟩:=List.mem_flatMap.mp h
 obtain ⟨t,h1,h2,h3,h4⟩:=ali hy
 exact ⟨i,t,List.mem_range.mp hi,h1,h2,h3,h4⟩
theorem ajB {F:List ((Int × Int) × Int)} {b:Int} {x y:Int × List Nat} {n:Nat} (hx:WL F b x) (h:y∈ext F x n):WL F b y:=by
 obtain ⟨i,t,_,h1,h2,h3,rfl⟩:=ext_mem h
 refine ⟨hx.1.snoc h1 h2,List.nodup_append.mpr ⟨hx.2.1,by simp,fun a ha c hc => ?_⟩,fun j hj => ?_⟩
 ·rw [List.mem_singleton] at hc
  subst hc
  exact fun e=>h3 (e ▸ ha)
 ·rcases List.mem_append.mp hj with hj | hj
  ·exact hx.2.2 j hj
  ·rw [List.mem_singleton] at hj
   subst hj
   exact (List.getElem?_eq_some_iff.mp h1).1
theorem alj {F:List ((Int × Int) × Int)} {e:Int} {x:Int × List Nat} (h:ahK F e x) (hne:x.1≠e):∃ y∈ext F x F.length,ahK F e y:=by
 obtain ⟨is,h1,h2,h3,h4⟩:=h
 cases is with
 | nil=>exact absurd (show x.1=e from h1) hne
 | cons i is =>
  obtain ⟨t,k1,k2,k3⟩:=h1
  have ni:=List.nodup_cons.mp h2
  refine ⟨(t.1+t.2 - x.1,x.2++[i]),?_,is,k3,ni.2,fun j hj => ?_,fun j hj=>h4 j (List.mem_cons_of_mem _ hj)⟩
  ·unfold ext
   refine List.mem_flatMap.mpr ⟨i,List.mem_range.mpr (h4 i List.mem_cons_self),?_⟩
   unfold step1
   rw [k1]
   dsimp only
   rw [if_pos ⟨rfl,k2,h3 i List.mem_cons_self⟩]
   exact List.mem_singleton_self _
  ·intro hm
   rcases List.mem_append.mp hm with hm | hm
   ·exact h3 j (List.mem_cons_of_mem _ hj) hm
   ·rw [List.mem_singleton] at hm
    subst hm
    exact ni.1 hj
def UG (m:Nat) (x:Int × List Nat):Nat:=(m+1)^(m - x.2.length)
def qK (m:Nat) (R:Row):Nat:=(R.map (UG m)).sum
theorem acQ:∀ {is L:List Nat},is.Nodup→is ⊆ L→is.length≤L.length
 | [],_,_,_=>Nat.zero_le _
 | a::r,L,h,hs=>by
  have hn:=List.nodup_cons.mp h
  have ha:a∈L:=hs List.mem_cons_self
  have:=acQ (is:=r) (L:=L.erase a) hn.2 fun x hx=>(List.mem_erase_of_ne (show x≠a from fun e=>hn.1 (e ▸ hx))).mpr (hs (List.mem_cons_of_mem _ hx))
  rw [List.length_erase_of_mem ha] at this
  have hp:=List.length_pos_of_mem ha
  rw [List.length_cons]
  omega
theorem acR {m:Nat} {is:List Nat} (h:is.Nodup) (hl:∀ i∈is,i<m):is.length≤m:=by
 have:is ⊆ List.range m:=fun i hi=>List.mem_range.mpr (hl i hi)
 have:=acQ h this
 rwa [List.length_range] at this
theorem alk {F:List ((Int × Int) × Int)} {x:Int × List Nat} {i:Nat}:qK F.length (step1 F x i)≤(F.length+1)^(F.length - (x.2.length+1)):=by
 unfold step1
 split
 ·split
  ·unfold qK UG
   simp
  ·exact Nat.zero_le _
 ·exact Nat.zero_le _
theorem aeU {m:Nat} {R S:Row}:qK m (R++S)=qK m R+qK m S:=by
 unfold qK
 rw [List.map_append,List.sum_append]
theorem agZ {F:List ((Int × Int) × Int)} {x:Int × List Nat}:∀ n:Nat,qK F.length (ext F x n)≤n*(F.length+1)^(F.length - (x.2.length+1))
 | 0=>by simp [ext,qK]
 | n+1=>by
  rw [Rj,aeU,Nat.succ_mul]
  exact Nat.add_le_add (agZ n) alk
theorem alm {F:List ((Int × Int) × Int)} {b:Int} {x:Int × List Nat} (hx:WL F b x):qK F.length (ext F x F.length)<UG F.length x:=by
 have hl:=acR hx.2.1 hx.2.2
 rcases Nat.lt_or_ge x.2.length F.length with h | h
 ·refine Nat.lt_of_le_of_lt (agZ F.length) ?_
  unfold UG
  have e:F.length - x.2.length=(F.length - (x.2.length+1))+1:=by omega
  rw [e,Nat.pow_succ,Nat.mul_comm]
  exact Nat.mul_lt_mul_of_pos_left (Nat.lt_succ_self _) (Nat.pow_pos (Nat.succ_pos _))
 ·have hx0:ext F x F.length=[]:=by
   apply List.eq_nil_iff_forall_not_mem.mpr
   intro y hy
   have k:=ajB hx hy
   obtain ⟨i,t,_,_,_,_,rfl⟩:=ext_mem hy
   have:=acR k.2.1 k.2.2
   rw [List.length_append] at this
   have e1:[i].length=1:=rfl
   omega
  rw [hx0]
  unfold UG qK
  exact Nat.pow_pos (Nat.succ_pos _)
end NB
namespace NB
theorem ag0 {m:Nat}:∀ R:Row,R.length≤qK m R
 | []=>Nat.zero_le _
 | x::R=>by
  have h:=ag0 (m:=m) R
  have h2:1≤UG m x:=Nat.pow_pos (Nat.succ_pos _)
  show R.length+1≤((x::R).map (UG m)).sum
  rw [List.map_cons,List.sum_cons]
  unfold qK at h
  omega
theorem ag1 {F:List ((Int × Int) × Int)} {x:Int × List Nat}:∀ n:Nat,(ext F x n).length≤n
 | 0=>by simp [ext]
 | n + 1 => by
  rw [Rj,List.length_append]
  have h:=ag1 (F:=F) (x:=x) n
  have h2:(step1 F x n).length≤1:=by
   unfold step1
   split
   ·split<;>simp
   ·simp
  omega
theorem ahL {m:Nat} {b:Int} (h:m≤7):qK m [(b,[])]≤2097152:=by
 have e:qK m [(b,[])]=(m+1)^m:=by simp [qK,UG]
 rw [e]
 exact Nat.le_trans (Nat.pow_le_pow_left (show m+1≤8 by omega) m) (Nat.le_trans (Nat.pow_le_pow_right (by decide) h) (by decide))
end NB
namespace NB
open PySem PySem.Spec L2 DL Fr
def u6 {α:Type} (p:Addr) (μ:M) (Q:QD) (ok:α→Prop) (d:α→D):Prop:=∀ x μ',ok x→dO μ' p→nM μ μ' p→Q (d x) μ'
structure N6 (f:Int × Int):Prop where
 k:Ok 5 f
 n:0≤f.1
 d:f.2∣12
def sY:Ct:=fun ds μ Q _=>∃ p:Addr,ds=[.raw (.ref p)]∧dO μ p∧u6 p μ Q N6 fr
def qu:Ct:=fun ds μ Q _=>∃ (p:Addr) (xs:List D),ds=[.raw (.ref p),.lst xs]∧dO μ p∧xs.length≤1000∧u6 p μ Q (fun ys:List D=>ys.Perm xs) D.lst
def Par (i:Nat) (t:Int × Int):Prop:=(t.1=(i:Int)+1∧0≤t.2∧t.2≤i)∨(t.2=(i:Int)+1∧0≤t.1∧t.1≤i)
def Span (many:Int) (T:List (Int × Int)):Prop:=(T.length:Int)=many - 1∧∀ i t,T[i]? = some t→Par i t
def Ig:Ct:=fun ds μ Q _=>∃ (p:Addr) (m:Int),ds=[.raw (.ref p),.int m]∧dO μ p∧2≤m∧m≤1000∧u6 p μ Q (Span m) fun T => .lst (T.map fr)
def tY (many:Int) (t:Int × Int):Prop:=0≤t.1∧t.1<many∧0≤t.2∧t.2<many∧t.1≠t.2
def tk (x:(Int × Int) × Int):D := .tup [fr x.1,.int x.2]
def More (many limit:Int) (T:List (Int × Int)) (F:List ((Int × Int) × Int)):Prop:=∃ E:List (Int × Int),(E.length:Int)≤limit∧(∀ t∈E,tY many t)∧F.Perm (T.map (·,1)++E.map (·,0))
def Eu:Ct:=fun ds μ Q _=>∃ (p:Addr) (T:List (Int × Int)) (m l:Int),ds=[.raw (.ref p),.lst (T.map fr),.int m,.int l]∧dO μ p∧2≤m∧m≤1000∧0≤l∧l≤100∧T.length≤100∧u6 p μ Q (More m l T) fun F => .lst (F.map tk)
structure aqb (ns:List Int):Prop where
 ne:1≤ns.length
 le:ns.length≤16
 bd:∀ n∈ns,0≤n∧n≤100
def eE (F:List ((Int × Int) × Int)):D := .tup (F.map fun x=>fr x.1)
def fl (ns:List Int) (x:(Int × Int) × Int):List Int :=
 (ns.set x.1.1.toNat (ns.getD x.1.1.toNat 0+x.2)).set x.1.2.toNat ((ns.set x.1.1.toNat (ns.getD x.1.1.toNat 0+x.2)).getD x.1.2.toNat 0 - x.2)
def flow (m:Nat) (F:List (Int × Int)) (cs:List Int):List Int:=(F.zip cs).foldl fl (List.replicate m 0)
def rB (lasts:List Int):List Int→Int→List Int→List Int
 | [],_,acc=>acc
 | o::os,t,acc=>rB lasts os (t+lasts.getD o.toNat 0) (acc.set o.toNat (t+lasts.getD o.toNat 0))
def upTo (n:Nat):List Int:=(List.range n).map Int.ofNat
inductive gY:D→List Int→Prop
 | tree {m:Int} {T:List (Int × Int)} {F:List ((Int × Int) × Int)} (hm:2≤m∧m≤5) (sp:Span m T) (mo:More m 3 T F):gY (.tup [.str (PySem.Str.ofString "tree"),.int m,eE F]) (F.map (·.2))
 | way {m b e:Int} {T:List (Int × Int)} {F:List ((Int × Int) × Int)} {is:List Nat} (hm:2≤m∧m≤5) (sp:Span m T) (mo:More m 3 T F) (hb:0≤b∧b<m) (he:0≤e∧e<m) (ne:b≠e) (tr:WL F b (e,is)) :
  gY (.tup [.str (PySem.Str.ofString "way"),.int m,eE F,.int b,.int e]) (ind F.length is)
 | pair {m:Int} {R:List Int} {E:List (Int × Int)} {F:List ((Int × Int) × Int)} (hm:1≤m∧m≤4) (hR:R.Perm (upTo m.toNat)) (hE:E.length≤3) (ok:∀ t∈E,0≤t.1∧t.1<m∧0≤t.2∧t.2<m) (pf:F.Perm ((R.mapIdx fun i r=>(((i:Int),r),(1:Int)))++E.map (·,0))) :
  gY (.tup [.str (PySem.Str.ofString "pair"),.int m,eE F]) (F.map (·.2))
 | deal {h w:Nat} {dh rooms:List Int} (hh:1≤h∧h≤3) (hw:1≤w) (hwl:h*w≤6) (dl:dh.length=w) (db:∀ d∈dh,0≤d∧d<h) (rl:rooms.length=h) (rb:∀ (i:Nat) (r:Int),rooms[i]? = some r→(dh.count (i:Int):Int)≤r∧r≤6) :
  gY (.tup [.str (PySem.Str.ofString "deal"),.tup (rooms.map D.int),.int (w:Int)]) ((List.range h).flatMap fun (i:Nat)=>dh.map fun d=>if d=(i:Int) then 1 else 0)
 | stream {m:Int} {T:List (Int × Int)} {F:List ((Int × Int) × Int)} {rooms cs:List Int} (hm:2≤m∧m≤4) (sp:Span m T) (mo:More m 1 (T.take 3) F) (rl:rooms.length=F.length) (rb:∀ r∈rooms,1≤r∧r≤2) (cl:cs.length=F.length)
  (cb:∀ (i:Nat) (c r:Int),cs[i]? = some c→rooms[i]? = some r→0≤c∧c≤r) :
  gY (.tup [.str (PySem.Str.ofString "stream"),.int m,eE F,.tup (rooms.map D.int),.tup ((flow m.toNat (F.map (·.1)) cs).map D.int)]) cs
 | bench {lasts order:List Int} (h1:1≤lasts.length∧lasts.length≤4) (lb:∀ l∈lasts,1≤l∧l≤4) (ho:order.Perm (upTo lasts.length)) :
  gY (.tup [.str (PySem.Str.ofString "bench"),.tup (lasts.map D.int)]) (rB lasts order 0 (List.replicate lasts.length 0))
def bR (x:D × List Int):D := .tup [x.1,.lst (x.2.map D.int)]
def aeV (x:D × List Int):Prop:=gY x.1 x.2
def jX:Ct:=fun ds μ Q _=>∃ p:Addr,ds=[.raw (.ref p)]∧dO μ p∧u6 p μ Q aeV bR
def Ih:Ct:=fun ds μ Q _=>∃ (p:Addr) (w:Int),ds=[.raw (.ref p),.int w]∧dO μ p∧u6 p μ Q aeV bR
def Je (w:Int) (x:D × List Int):Prop:=∃ lasts order:List Int,x=(.tup [.str (PySem.Str.ofString "bench"),.tup (lasts.map D.int)],rB lasts order 0 (List.replicate lasts.length 0))∧(1≤lasts.length∧lasts.length≤8)∧(∀ l∈lasts,1≤l∧l≤4)∧order.Perm (upTo lasts.length)∧(lasts.length:Int)=w
theorem Je.wish {w:Int} {x:D × List Int} (h:Je w x) (hw:w≤4):gY x.1 x.2:=by
 obtain ⟨lasts,order,rfl,h1,lb,ho,e⟩:=h
 exact gY.bench ⟨h1.1,by omega⟩ lb ho
theorem Je.hd {w:Int} {x:D × List Int} (h:Je w x):∃ ls,x.1 = .tup [.str (PySem.Str.ofString "bench"),.tup ls]:=by
 obtain ⟨lasts,order,rfl,_⟩:=h
 exact ⟨_,rfl⟩
def Av:Ct:=fun ds μ Q _=>∃ (p:Addr) (w:Int),ds=[.raw (.ref p),.int w]∧1≤w∧w≤8∧dO μ p∧u6 p μ Q (Je w) bR
def Rk:bh :=
 (aW (dCall aaf (ao (aF cD (aF lW (aF aN (aq 0) (dC (.int 0))) (aF aN (aq 1) (dC (.int 1)))) (aF lW (aF aN (aq 1) (dC (.int 0))) (aF aN (aq 0) (dC (.int 1))))) (ao (aF lW (aF aN (aq 0) (dC (.int 1))) (aF aN (aq 1) (dC (.int 1)))) aC))))
def N7:bh :=
 (aW (dCall aaf (ao (aF (uP fun i j => .int (i - j)) (aF lW (aF aN (aq 0) (dC (.int 0))) (aF aN (aq 1) (dC (.int 1)))) (aF lW (aF aN (aq 1) (dC (.int 0))) (aF aN (aq 0) (dC (.int 1))))) (ao (aF lW (aF aN (aq 0) (dC (.int 1))) (aF aN (aq 1) (dC (.int 1)))) aC))))
def JK:bh :=
 (aJ (aZ 1 (aF aN (d7 (ao (dC (.int 1)) (ao (dC (.int 1)) (ao (dC (.int 2)) (ao (dC (.int 3)) (ao (dC (.int 4)) (ao (dC (.int 6)) aC))))))) (dCall cQ (ao (aq 0) (ao (dC (.int 6)) aC)))))
  (aW (dCall aaf (ao (dCall cQ (ao (aq 0) (ao (dC (.int 13)) aC))) (ao (aq 1) aC)))))
def CG:bh :=
 (aJ (aZ 2 (Ab aC))
  (aJ (j8 (fO (aq 1)) (bW 3) (gJ (dM Cq (aq 2) (ao (dCall cQ (ao (aq 0) (ao (aF cD (bV dX (ao (aq 2) aC)) (dC (.int 1))) aC))) (ao (aq 3) aC)))))
  (aW (Gx (aq 2)))))
def CJ:bh :=
 (aJ (aZ 2 (Ab aC))
  (aJ (j8 (zJ (ao (dC (.int 1)) (ao (aq 1) aC))) (bW 3) (aJ (aZ 4 (dCall cQ (ao (aq 0) (ao (aq 3) aC))))
  (gJ (dM nJ (aq 2) (ao (aF aN (d7 (ao (dTup (ao (aq 3) (ao (aq 4) aC))) (ao (dTup (ao (aq 4) (ao (aq 3) aC))) aC))) (dCall cQ (ao (aq 0) (ao (dC (.int 2)) aC)))) aC)))))
  (aW (Gx (aq 2)))))
def Ax:bh :=
 (aJ (aZ 4 (NT (fO (aq 1)) (bW 8) jB (dTup (ao (aq 8) (ao (dC (.int 1)) aC))) [8]))
  (aJ (j8 (lO (ao (dCall cQ (ao (aq 0) (ao (aF cD (aq 3) (dC (.int 1))) aC))) aC)) (bW 5) (aJ (aZ 6 (dCall cQ (ao (aq 0) (ao (aq 2) aC))))
  (aJ (aZ 7 (aF (gI (fun _ j=>j≠0) fun i j => .int (i.fmod j)) (aF cD (aF cD (aq 6) (dC (.int 1))) (dCall cQ (ao (aq 0) (ao (aF (uP fun i j => .int (i - j)) (aq 2) (dC (.int 1))) aC)))) (aq 2)))
  (gJ (dM nJ (aq 4) (ao (dTup (ao (dTup (ao (aq 6) (ao (aq 7) aC))) (ao (dC (.int 0)) aC))) aC))))))
  (aW (dCall qu (ao (aq 0) (ao (Gx (aq 4)) aC))))))
def CK:bh :=
 (aJ (aZ 2 (aF cD (dC (.int 2)) (dCall cQ (ao (aq 0) (ao (dC (.int 4)) aC)))))
  (aJ (aZ 3 (dCall Eu (ao (aq 0) (ao (dCall Ig (ao (aq 0) (ao (aq 2) aC))) (ao (aq 2) (ao (dC (.int 3)) aC))))))
  (aJ (aZ 4 (bV qb (ao (nH (fO (aq 3)) (j9 (bF (bW 12) (bF (bW 13) fH))) jB (aq 12) [12,13]) aC)))
  (aJ (aZ 5 (nH (fO (aq 3)) (j9 (bF (bW 12) (bF (bW 13) fH))) jB (aq 13) [12,13]))
  (aJ (bY (dB (aF eY (aq 1) (dC (.int 1)))) (aW (dTup (ao (dTup (ao (dC (.str (PySem.Str.ofString "tree"))) (ao (aq 2) (ao (aq 4) aC)))) (ao (aq 5) aC)))) aX)
  (aJ (aZ 6 (dCall cQ (ao (aq 0) (ao (aq 2) aC))))
  (aJ (aZ 7 (aF (gI (fun _ j=>j≠0) fun i j => .int (i.fmod j)) (aF cD (aF cD (aq 6) (dC (.int 1))) (dCall cQ (ao (aq 0) (ao (aF (uP fun i j => .int (i - j)) (aq 2) (dC (.int 1))) aC)))) (aq 2)))
  (aJ (aZ 8 (Ab (ao (dTup (ao (aq 6) (ao (aF lW (d7 (ao (dC (.int 0)) aC)) (bV dX (ao (aq 4) aC))) aC))) aC)))
  (aJ (Jv (dB (aF lV (aF aN (aF aN (aq 8) (dC (.int 0))) (dC (.int 0))) (aq 7))) (aJ (xg (dM QL (aq 8) (ao (dC (.int 0)) aC)) (j9 (bF (bW 9) (bF (bW 10) fH))))
  (j8 (Af (ao (aq 4) aC)) (j9 (bF (bW 11) (bF (bW 12) fH))) (bY (sJ (dB (aF eY (aF aN (aq 5) (aq 11)) (dC (.int 1)))) (sJ (dB (aF (gIn false) (aq 9) (aq 12))) (dB (aF eY (aF aN (aq 10) (aq 11)) (dC (.int 0)))))) (gJ (dM nJ (aq 8) (ao (dTup (ao (aF (uP fun i j => .int (i - j)) (aF cD (aF aN (aq 12) (dC (.int 0))) (aF aN (aq 12) (dC (.int 1)))) (aq 9)) (ao (aF cD (aF cD (jU (aq 10) cJ (dR (aq 11))) (d7 (ao (dC (.int 1)) aC))) (jU (aq 10) (dR (aF cD (aq 11) (dC (.int 1)))) cJ)) aC))) aC))) aX))))
  (aW (dTup (ao (dTup (ao (dC (.str (PySem.Str.ofString "way"))) (ao (aq 2) (ao (aq 4) (ao (aq 6) (ao (aq 7) aC)))))) (ao (aF aN (aF aN (aq 8) (dC (.int 0))) (dC (.int 1))) aC)))))))))))))
def Ay:bh :=
 (aJ (aZ 1 (aF cD (dC (.int 1)) (dCall cQ (ao (aq 0) (ao (dC (.int 4)) aC)))))
  (aJ (aZ 2 (dCall qu (ao (aq 0) (ao (QM QS (aq 1)) aC))))
  (aJ (aZ 3 (NT (lO (ao (aq 1) aC)) (bW 5) jB (dTup (ao (dTup (ao (aq 5) (ao (aF aN (aq 2) (aq 5)) aC))) (ao (dC (.int 1)) aC))) [5]))
  (aJ (j8 (lO (ao (dCall cQ (ao (aq 0) (ao (dC (.int 4)) aC))) aC)) (bW 4) (gJ (dM nJ (aq 3) (ao (dTup (ao (dTup (ao (dCall cQ (ao (aq 0) (ao (aq 1) aC))) (ao (dCall cQ (ao (aq 0) (ao (aq 1) aC))) aC))) (ao (dC (.int 0)) aC))) aC))))
  (aJ (aZ 3 (dCall qu (ao (aq 0) (ao (Gx (aq 3)) aC))))
  (aW (dTup (ao (dTup (ao (dC (.str (PySem.Str.ofString "pair"))) (ao (aq 1) (ao (bV qb (ao (nH (fO (aq 3)) (j9 (bF (bW 6) (bF (bW 7) fH))) jB (aq 6) [6,7]) aC)) aC)))) (ao (nH (fO (aq 3)) (j9 (bF (bW 6) (bF (bW 7) fH))) jB (aq 7) [6,7]) aC)))))))))
def Az:bh :=
 (aJ (aZ 1 (aF cD (dC (.int 1)) (dCall cQ (ao (aq 0) (ao (dC (.int 3)) aC)))))
  (aJ (aZ 2 (aF cD (dC (.int 1)) (dCall cQ (ao (aq 0) (ao (aF aN (d7 (ao (dC (.int 6)) (ao (dC (.int 3)) (ao (dC (.int 2)) aC)))) (aF (uP fun i j => .int (i - j)) (aq 1) (dC (.int 1)))) aC)))))
  (aJ (aZ 3 (nH (lO (ao (aq 2) aC)) (bW 7) jB (dCall cQ (ao (aq 0) (ao (aq 1) aC))) [7]))
  (aJ (aZ 4 (bV qb (ao (nH (lO (ao (aq 1) aC)) (bW 6) jB (bV Hj (ao (dC (.int 6)) (ao (aF cD (dM Jy (aq 3) (ao (aq 6) aC)) (dCall cQ (ao (aq 0) (ao (dC (.int 2)) aC)))) aC))) [6]) aC)))
  (aJ (aZ 5 (d7 aC))
  (aJ (j8 (lO (ao (aq 1) aC)) (bW 6) (aZ 5 (aF cD (aq 5) (nH (fO (aq 3)) (bW 8) jB (bV Ui (ao (aF eY (aq 8) (aq 6)) aC)) [8]))))
  (aW (dTup (ao (dTup (ao (dC (.str (PySem.Str.ofString "deal"))) (ao (aq 4) (ao (aq 2) aC)))) (ao (aq 5) aC))))))))))
def xq:bh :=
 (aJ (aZ 1 (aF cD (dC (.int 2)) (dCall cQ (ao (aq 0) (ao (dC (.int 3)) aC)))))
  (aJ (aZ 2 (dCall Eu (ao (aq 0) (ao (jU (dCall Ig (ao (aq 0) (ao (aq 1) aC))) cJ (dR (dC (.int 3)))) (ao (aq 1) (ao (dC (.int 1)) aC))))))
  (aJ (aZ 3 (bV qb (ao (nH (fO (aq 2)) (j9 (bF (bW 7) (bF (bW 9) fH))) jB (aq 7) [7,9]) aC)))
  (aJ (aZ 4 (bV qb (ao (nH (fO (aq 3)) (bW 7) jB (aF cD (dC (.int 1)) (dCall cQ (ao (aq 0) (ao (dC (.int 2)) aC)))) [7]) aC)))
  (aJ (aZ 5 (nH (fO (aq 4)) (bW 10) jB (dCall cQ (ao (aq 0) (ao (aF cD (aq 10) (dC (.int 1))) aC))) [10]))
  (aJ (aZ 6 (aF yC (d7 (ao (dC (.int 0)) aC)) (aq 1)))
  (aJ (j8 (Ml (ao (aq 3) (ao (aq 5) aC))) (j9 (bF (bW 7) (bF (bW 8) fH))) (aJ (qd (aF cD (aF aN (aq 6) (aF aN (aq 7) (dC (.int 0)))) (aq 8)) (aq 6) (aF aN (aq 7) (dC (.int 0))))
  (qd (aF (uP fun i j => .int (i - j)) (aF aN (aq 6) (aF aN (aq 7) (dC (.int 1)))) (aq 8)) (aq 6) (aF aN (aq 7) (dC (.int 1))))))
  (aW (dTup (ao (dTup (ao (dC (.str (PySem.Str.ofString "stream"))) (ao (aq 1) (ao (aq 3) (ao (aq 4) (ao (bV qb (ao (aq 6) aC)) aC)))))) (ao (aq 5) aC)))))))))))
def zm:bh :=
 (aJ (aZ 2 (bV qb (ao (nH (lO (ao (aq 1) aC)) (bW 5) jB (aF cD (dC (.int 1)) (dCall cQ (ao (aq 0) (ao (dC (.int 4)) aC)))) [5]) aC)))
  (aJ (aZ 3 (aF yC (d7 (ao (dC (.int 0)) aC)) (aq 1)))
  (aJ (aZ 4 (dC (.int 0)))
  (aJ (j8 (fO (dCall qu (ao (aq 0) (ao (QM QS (aq 1)) aC)))) (bW 5) (aJ (aZ 4 (aF cD (aq 4) (aF aN (aq 2) (aq 5))))
  (qd (aq 4) (aq 3) (aq 5))))
  (aW (dTup (ao (dTup (ao (dC (.str (PySem.Str.ofString "bench"))) (ao (aq 2) aC))) (ao (Gx (aq 3)) aC))))))))
def Rm:bh :=
 (aJ (aZ 1 (dCall cQ (ao (aq 0) (ao (dC (.int 7)) aC))))
  (aJ (bY (jy (dB (aF LQ (aq 1) (dC (.int 2)))) (dB (aF eY (aq 1) (dC (.int 6))))) (aW (dCall Ih (ao (aq 0) (ao (aF (gI (fun _ j=>j≠0) fun i j => .int (i.fmod j)) (aq 1) (dC (.int 2))) aC)))) aX)
  (aJ (bY (dB (aF eY (aq 1) (dC (.int 2)))) (aW (dCall jX (ao (aq 0) aC))) aX)
  (aJ (bY (dB (aF eY (aq 1) (dC (.int 3)))) (aW (dCall jX (ao (aq 0) aC))) aX)
  (aJ (bY (dB (aF eY (aq 1) (dC (.int 4)))) (aW (dCall jX (ao (aq 0) aC))) aX)
  (aW (dCall Av (ao (aq 0) (ao (aF cD (dC (.int 1)) (dCall cQ (ao (aq 0) (ao (dC (.int 4)) aC)))) aC)))))))))
theorem af4:HB Ux Rk 2:=by
 intro ds μ Q X h
 obtain ⟨⟨a,b⟩,⟨c,d⟩,rfl,hf,hg,q⟩:=h
 show Rk (ends Q XF) [some (fr (a,b)),some (fr (c,d))] μ
 simp! only [Rk,fr]
 exact ⟨mok hf.tb hg.bb,mok hg.tb hf.bb,mok hf.bb hg.bb,_,_,rfl,oh hf.ne hg.ne,Cz (mul_lt hf.bb hg.bb) (by omega),.of q⟩
theorem aeW:HB Pj N7 2:=by
 intro ds μ Q X h
 obtain ⟨⟨a,b⟩,⟨c,d⟩,rfl,hf,hg,q⟩:=h
 show N7 (ends Q XF) [some (fr (a,b)),some (fr (c,d))] μ
 simp! only [N7,fr]
 exact ⟨mok hf.tb hg.bb,mok hg.tb hf.bb,mok hf.bb hg.bb,_,_,rfl,oh hf.ne hg.ne,Cz (mul_lt hf.bb hg.bb) (by omega),.of q⟩
theorem abZ {t b:Int} (hb:b≠0):(low t b).2∣b:=by
 have e:=jf (t:=t) hb
 have g:Nat.gcd (low t b).2.natAbs (low t b).1.natAbs=1:=by rw [Nat.gcd_comm];exact Pg hb
 have d:(low t b).2.natAbs∣(low t b).1.natAbs*b.natAbs:=by
  rw [← Int.natAbs_mul,e,Int.natAbs_mul]
  exact Nat.dvd_mul_left _ _
 exact Int.natAbs_dvd_natAbs.mp (Nat.Coprime.dvd_of_dvd_mul_left g d)
theorem adi:HB sY JK 2:=by
 intro ds μ Q X h
 obtain ⟨p,rfl,hp,q⟩:=h
 show JK (ends Q XF) [some (.raw (.ref p)),none] μ
 simp! only [JK]
 refine ⟨by decide,p,_,rfl,hp,by decide,by decide,fun r μ1 a1 b1 h1 o1 => ?_⟩
 walk_at "r"
 obtain ⟨x,ex,hx⟩:=mW (xs:=[D.int 1,D.int 1,D.int 2,D.int 3,D.int 4,D.int 6]) (i:=r) a1 (by show r<6;exact b1)
 rw [ex]
 obtain ⟨b,rfl,hb0,hb,hbd⟩:∃ t:Int,x = .int t∧1≤t∧t≤6∧t∣12:=by
  have hr:r.toNat=0∨r.toNat=1∨r.toNat=2∨r.toNat=3∨r.toNat=4∨r.toNat=5:=by omega
  rcases hr with e | e | e | e | e | e<;>rw [e] at hx<;>cases hx<;>exact ⟨_,rfl,by decide,by decide,by decide⟩
 walk_at "r"
 refine ⟨p,_,rfl,h1,by decide,by decide,fun r2 μ2 a2 b2 h2 o2 => ?_⟩
 walk_at "r"
 have z:(2:Nat)^8100=2^8*2^8092:=by rw [← Nat.pow_add]
 have hz:b.natAbs<2^8100:=Cz (a:=5) (by omega) (by decide)
 refine ⟨_,_,rfl,by omega,hz,.of (q (low r2 b) μ2 ⟨Ph (by omega) (by omega) (by omega),?_,Int.dvd_trans (abZ (by omega)) hbd⟩ h2 (o1.trans o2))⟩
 have e:=jf (t:=r2) (b:=b) (by omega)
 have e2:=oU (t:=r2) (b:=b) (by omega)
 have e3:0≤r2*(low r2 b).2:=Int.mul_nonneg a2 (by omega)
 rw [← e] at e3
 rcases Int.lt_or_le (low r2 b).1 0 with h | h
 ·have:=Int.mul_neg_of_neg_of_pos h (show 0<b by omega)
  omega
 ·exact h
def jC (μ μ':M) (p c:Addr):Prop:=∀ q,q≠p→q≠c→μ' q=μ q
theorem jC.del {μ μ':M} {p c:Addr} (h0:μ c=none) (h:jC μ μ' p c):nM μ (vA μ' c) p:=fun q hq=>by
 unfold vA
 by_cases e:q=c
 ·rw [if_pos e,e,h0]
 ·rw [if_neg e]
  exact h q hq e
theorem jC.step {μ μ' μ2:M} {p c:Addr} (h:jC μ μ' p c) (o:nM μ' μ2 p):jC μ μ2 p c:=fun q h1 h2=>(o q h1).trans (h q h1 h2)
theorem jC.put {μ μ':M} {p c:Addr} {x:C} (h:jC μ μ' p c):jC μ (cC μ' c x) p c:=fun q h1 h2=>by rw [bL h2];exact h q h1 h2
theorem jC.new {μ μ':M} {p c:Addr} {x:C} (o:nM μ μ' p):jC μ (cC μ' c x) p c:=fun q h1 h2=>by rw [bL h2];exact o q h1
theorem uz {μ:M} {p c:Addr} (h:dO μ p) (h0:μ c=none):c≠p:=fun e=>by
 obtain ⟨_,_,h,_⟩:=h
 rw [← e,h0] at h
 cases h
theorem qL {μ:M} {p c:Addr} (hne:c≠p) (h:dO μ p):dO (vA μ c) p:=by
 obtain ⟨a,b,h,r⟩:=h
 exact ⟨a,b,by unfold vA;rw [if_neg (Ne.symm hne)];exact h,r⟩
theorem fY {μ:M} {p c:Addr} {x:C} (hne:c≠p) (h:dO μ p):dO (cC μ c x) p:=by
 obtain ⟨a,b,h,r⟩:=h
 exact ⟨a,b,by rw [bL (Ne.symm hne)];exact h,r⟩
theorem mj {μ μ':M} {p c:Addr} {x:Option C} (o:nM μ μ' p) (hne:c≠p) (h:μ c=x):μ' c=x:=(o c hne).trans h
theorem aln {α:Type} {ys zs:List α} {d:α} (r:Nat) (h:ys.Perm zs):(ys.take r++[d]++ys.drop r).Perm (zs++[d]):=by
 have h1:(ys.take r++[d]++ys.drop r).Perm (d::ys):=by
  have:=List.perm_middle (a:=d) (l₁:=ys.take r) (l₂:=ys.drop r)
  rw [List.take_append_drop] at this
  simpa using this
 refine h1.trans ((List.Perm.cons d h).trans ?_)
 have:=List.perm_append_comm (l₁:=[d]) (l₂:=zs)
 simpa using this
theorem aag:HB qu CG 4:=by
 intro ds μ Q X h
 obtain ⟨p,xs,rfl,hp,hl,q⟩:=h
 show CG (ends Q XF) [some (.raw (.ref p)),some (.lst xs),none,none] μ
 simp! only [CG]
 refine ⟨by decide,fun c hc => ?_⟩
 have hne:=uz hp hc
 walk_at "r"
 refine ⟨fun i δ μ'=>∃ ys x,ys.Perm (xs.take i)∧δ=[some (.raw (.ref p)),some (.lst xs),some (.raw (.ref c)),x]∧dO μ' p∧μ' c=some (.lst ys)∧jC μ μ' p c,
  ⟨[],none,by simp,rfl,fY hne hp,aP,jC.new (nM.refl _ _)⟩,?_⟩
 rintro i δ μ' ⟨ys,x,hys,rfl,hp',hc',ho⟩
 have hyl:ys.length≤1000:=by rw [hys.length_eq,List.length_take];omega
 refine ⟨trivial,fun d hd => ?_,fun hi => ?_⟩
 ·simp! only [gh hc']
  refine ⟨o7 hc',p,_,rfl,hp',by omega,by omega,fun r μ2 a2 b2 h2 o2 => ?_⟩
  walk_at "r"
  refine ⟨ys,mj o2 hne hc',Nat.lt_of_le_of_lt hyl (by decide),a2,by omega,?_⟩
  exact ⟨_,_,by rw [take_succ hd];exact aln _ hys,rfl,fY hne h2,aP,(ho.step o2).put⟩
 ·walk_at "r"
  refine ⟨ys,hc',.of (q ys _ ?_ (qL hne hp') (ho.del hc))⟩
  rw [hi,List.take_length] at hys
  exact hys
theorem aah : HB Ig CJ 5 := by
  intro ds μ Q X h
  obtain ⟨p,m,rfl,hp,hm,hm2,q⟩:=h
  show CJ (ends Q XF) [some (.raw (.ref p)),some (.int m),none,none,none] μ
  simp! only [CJ]
  refine ⟨by decide,fun c hc => ?_⟩
  have hne:=uz hp hc
  walk_at "r"
  refine ⟨⟨by decide,by decide,by omega,by omega⟩,?_⟩
  refine ⟨fun i δ μ'=>∃ (T:List (Int × Int)) (x y:Option D),T.length=i∧(∀ i t,T[i]? = some t→Par i t)∧i≤(m - 1).toNat∧δ=[some (.raw (.ref p)),some (.int m),some (.raw (.ref c)),x,y]∧dO μ' p∧μ' c=some (.lst (T.map fr))∧jC μ μ' p c,
    ⟨[],none,none,rfl,by simp,by omega,rfl,fY hne hp,aP,jC.new (nM.refl _ _)⟩,?_⟩
  rintro i δ μ' ⟨T,x,y,hT,hpar,hi,rfl,hp',hc',ho⟩
  refine ⟨trivial,fun d hd => ?_,fun hi => ?_⟩
  · obtain ⟨rfl,hlt⟩:=xV hd
    walk_at "r"
    refine ⟨p,_,rfl,hp',by omega,by omega,fun r μ2 a2 b2 h2 o2 => ?_⟩
    walk_at "r"
    have hc2:=mj o2 hne hc'
    refine ⟨o7 hc2,by decide,by decide,by decide,p,_,rfl,h2,by decide,by decide,fun r2 μ3 a3 b3 h3 o3 => ?_⟩
    walk_at "r"
    obtain ⟨z,ez,hz⟩:=mW (xs:=[D.tup [.int (1+(i:Int)),.int r],D.tup [.int r,.int (1+(i:Int))]]) (i:=r2) a3 (by show r2<2;exact b3)
    rw [ez]
    obtain ⟨t,rfl,ht⟩:∃ t,z=fr t∧Par i t:=by
      have hr:r2.toNat=0∨r2.toNat=1:=by omega
      rcases hr with e | e<;>rw [e] at hz<;>cases hz
      · exact ⟨(1+(i:Int),r),rfl,.inl ⟨by show 1+(i:Int)=i+1;omega,a2,by show r≤i;omega⟩⟩
      · exact ⟨(r,1+(i:Int)),rfl,.inr ⟨by show 1+(i:Int)=i+1;omega,a2,by show r≤i;omega⟩⟩
    walk_at "r"
    refine ⟨T.map fr,mj o3 hne hc2,by rw [List.length_map,hT];exact Nat.lt_of_lt_of_le (show i<1000 by omega) (by decide),?_⟩
    refine ⟨T++[t],_,_,by rw [List.length_append,hT];rfl,fun j u hu => ?_,by omega,rfl,fY hne h3,?_,((ho.step o2).step o3).put⟩
    · by_cases hj:j<T.length
      · rw [List.getElem?_append_left hj] at hu
        exact hpar j u hu
      · rw [List.getElem?_append_right (by omega)] at hu
        have:j - T.length=0:=by
          rcases Nat.eq_zero_or_pos (j - T.length) with e | e
          · exact e
          · rw [List.getElem?_eq_none (by simp;omega)] at hu
            cases hu
        rw [this] at hu
        cases hu
        have:j=i:=by omega
        rw [this]
        exact ht
    · rw [aP,List.map_append]
      rfl
  · walk_at "r"
    rw [oE] at hi
    exact ⟨_,hc',.of (q T _ ⟨by omega,hpar⟩ (qL hne hp') (ho.del hc))⟩
theorem map_some {α:Type} {f:α→D} {T:List α} {i:Nat} {d:D} (h:(T.map f)[i]? = some d):∃ t,T[i]? = some t∧d=f t:=by
 rw [List.getElem?_map] at h
 obtain ⟨t,h1,h2⟩:=Option.map_eq_some_iff.mp h
 exact ⟨t,h1,h2.symm⟩
theorem CP {α : Type} {f : α → D} {T : List α} : ∀ {ys : List D}, ys.Perm (T.map f) → ∃ S : List α, ys = S.map f ∧ S.Perm T := by
  intro ys h
  have:∀ {a b:List D},a.Perm b→∀ T:List α,b=T.map f→∃ S:List α,a=S.map f∧S.Perm T:=by
    intro a b h
    induction h with
    | nil=>intro T e;cases T with
      | nil=>exact ⟨[],rfl,.refl _⟩
      | cons _ _=>cases e
    | cons x _ ih=>intro T e;cases T with
      | nil=>cases e
      | cons t T =>
        rw [List.map_cons] at e
        injection e with e1 e2
        obtain ⟨S,h1,h2⟩:=ih T e2
        exact ⟨t::S,by rw [List.map_cons,h1,e1],h2.cons t⟩
    | swap x y l => intro T e
                    match T,e with
                    | t::u::T,e =>
                      rw [List.map_cons,List.map_cons] at e
                      injection e with e1 e2
                      injection e2 with e2 e3
                      exact ⟨u::t::T,by rw [List.map_cons,List.map_cons,e1,e2,e3],.swap ..⟩
                    | [_],e=>cases e
                    | [],e=>cases e
    | trans _ _ ih1 ih2 =>
      intro T e
      obtain ⟨S,h1,h2⟩:=ih2 T e
      obtain ⟨R,h3,h4⟩:=ih1 S h1
      exact ⟨R,h3,h4.trans h2⟩
  exact this h T rfl
theorem amZ {a b:Int} (h:0<b):a.fmod b=a % b:=Int.fmod_eq_emod_of_nonneg a (Int.le_of_lt h)
theorem aeX {m a r:Int} (hm:2≤m) (ha:0≤a) (ha2:a<m) (hr:0≤r) (hr2:r<m - 1):0≤(a+1+r).fmod m∧(a+1+r).fmod m<m∧a≠(a+1+r).fmod m:=by
 rw [amZ (by omega)]
 have h1:=Int.emod_nonneg (a+1+r) (show m≠0 by omega)
 have h2:=Int.emod_lt_of_pos (a+1+r) (show 0<m by omega)
 refine ⟨h1,h2,fun e => ?_⟩
 by_cases h:a+1+r<m
 ·rw [Int.emod_eq_of_lt (by omega) h] at e
  omega
 ·have:(a+1+r) % m=a+1+r - m:=by
   rw [← Int.sub_emod_right,Int.emod_eq_of_lt (by omega) (by omega)]
  omega
theorem Yt:HB Eu Ax 9:=by
 intro ds μ Q X h
 obtain ⟨p,T,m,l,rfl,hp,hm,hm2,hl,hl2,hTl,q⟩:=h
 show Ax (ends Q XF) [some (.raw (.ref p)),some (.lst (T.map fr)),some (.int m),some (.int l),none,none,none,none,none] μ
 simp! only [Ax]
 refine ⟨fun i acc μ'=>μ'=μ∧acc=(T.take i).map fun t=>tk (t,1),⟨rfl,by simp⟩,?_⟩
 rintro i acc μ' ⟨rfl,rfl⟩
 refine ⟨trivial,fun d hd => ?_,fun hi => ?_⟩
 ·obtain ⟨t,ht,rfl⟩:=map_some hd
  walk_at "r"
  refine ⟨by decide,?_,?_⟩
  ·rw [List.length_map,List.length_take]
   exact Nat.lt_of_le_of_lt (show min i T.length≤100 by omega) (by decide)
  ·rw [take_succ ht,List.map_append]
   rfl
 ·rw [List.length_map] at hi
  subst hi
  rw [List.take_length]
  intro c hc
  have hne:=uz hp hc
  walk_at "r"
  refine ⟨p,_,rfl,fY hne hp,by omega,by omega,fun r μ1 a1 b1 h1 o1 => ?_⟩
  walk_at "r"
  refine ⟨⟨by omega,by omega⟩,?_⟩
  have hc1:=mj o1 hne aP
  have ho1:jC μ' μ1 p c:=(jC.new (nM.refl _ _)).step o1
  refine ⟨fun i δ μ2=>∃ (E:List (Int × Int)) (x y z:Option D),E.length=i∧(∀ t∈E,tY m t)∧δ=[some (.raw (.ref p)),some (.lst (T.map fr)),some (.int m),some (.int l),some (.raw (.ref c)),x,y,z,none]∧dO μ2 p ∧
   μ2 c=some (.lst ((T.map (·,(1:Int))++E.map (·,(0:Int))).map tk))∧jC μ' μ2 p c,⟨[],none,none,none,rfl,by simp,rfl,h1,?_,ho1⟩,?_⟩
  ·rw [hc1]
   simp
  ·rintro i δ μ2 ⟨E,x,y,z,hE,hT,rfl,hp2,hc2,ho2⟩
   refine ⟨trivial,fun d hd => ?_,fun hi => ?_⟩
   ·obtain ⟨rfl,hlt⟩:=xV hd
    walk_at "r"
    refine ⟨p,_,rfl,hp2,by omega,by omega,fun r2 μ3 a3 b3 h3 o3 => ?_⟩
    walk_at "r"
    refine ⟨p,_,rfl,h3,by omega,by omega,fun r3 μ4 a4 b4 h4 o4 => ?_⟩
    walk_at "r"
    have hc4:=mj o4 hne (mj o3 hne hc2)
    obtain ⟨k1,k2,k3⟩:=aeX hm a3 b3 a4 b4
    refine ⟨by omega,o7 hc4,by decide,by decide,_,hc4,?_,?_⟩
    ·rw [List.length_map,List.length_append,List.length_map,List.length_map]
     exact Nat.lt_of_lt_of_le (show T.length+E.length<1000 by omega) (by decide)
    ·refine ⟨E++[(r2,(r2+1+r3).fmod m)],_,_,_,by rw [List.length_append,hE];rfl,fun t ht => ?_,rfl,fY hne h4,?_,((ho2.step o3).step o4).put⟩
     ·rcases List.mem_append.mp ht with h | h
      ·exact hT t h
      ·rw [List.mem_singleton.mp h]
       exact ⟨a3,b3,k1,k2,k3⟩
     ·rw [aP]
      simp [tk,fr]
   ·rw [oE] at hi
    walk_at "r"
    refine ⟨_,hc2,p,_,rfl,qL hne hp2,?_,fun ys μ5 hys h5 o5 => ?_⟩
    ·rw [List.length_map,List.length_append,List.length_map,List.length_map]
     omega
    ·obtain ⟨S,rfl,hS⟩:=CP hys
     exact .of (q S μ5 ⟨E,by omega,hT,hS⟩ h5 ((ho2.del hc).trans o5))
theorem gH {α:Type} {xs:List α} {ok:M→Prop} {enc g:α→D} {f:qT} {tt:DTT} {te:bZ} {Q:List D→M→Prop} {δ:Sl} {μ:M} (ho:ok μ) (hl:xs.length<sizeLine)
  (st:∀ x∈xs,∀ (acc:List D) (R:List D→M→Prop),acc.length<sizeLine→R (acc++[g x]) μ→Hq (f μ (enc x)) tt te acc R δ μ) (q:Q (xs.map g) μ):ZJ ok f tt te Q δ (xs.map enc) μ:=by
 refine ⟨fun i acc μ'=>μ'=μ∧acc=(xs.take i).map g,⟨rfl,by simp⟩,?_⟩
 rintro i acc μ' ⟨rfl,rfl⟩
 refine ⟨ho,fun d hd => ?_,fun hi => ?_⟩
 ·obtain ⟨x,hx,rfl⟩:=map_some hd
  refine st x (List.mem_of_getElem? hx) _ _ ?_ ⟨rfl,?_⟩
  ·rw [List.length_map,List.length_take]
   exact Nat.lt_of_le_of_lt (Nat.min_le_right _ _) hl
  ·rw [take_succ hx,List.map_append]
   rfl
 ·rw [List.length_map] at hi
  rw [hi,List.take_length]
  exact q
theorem atI_nat {α:Type} {xs:List α} {i:Nat}:atI xs (i:Int)=xs[i]? := by
 unfold atI ixN
 rw [if_pos (by omega)]
 by_cases h:i<xs.length
 ·rw [if_pos (by omega)]
  rfl
 ·rw [if_neg (by omega),List.getElem?_eq_none (by omega)]
  rfl
theorem ixN_nat {n i:Nat} (h:i<n):ixN n (i:Int)=some i:=by
 unfold ixN
 rw [if_pos (by omega),if_pos (by omega)]
 rfl
theorem Ro {xs:List D} {i:Nat}:cutD xs none (some (i:Int))=xs.take i:=by
 unfold cutD
 rw [HT.sIx_none,HT.sIx_nat,Nat.sub_zero,List.drop_zero]
 by_cases h:i≤xs.length
 ·rw [Nat.min_eq_left h]
 ·rw [Nat.min_eq_right (by omega),List.take_length,List.take_of_length_le (by omega)]
theorem JL {xs:List D} {i:Nat}:cutD xs (some ((i:Int)+1)) none=xs.drop (i+1):=by
 unfold cutD
 rw [HT.sIx_none,show ((i:Int)+1)=((i+1:Nat):Int) by omega,HT.sIx_nat]
 by_cases h:i+1≤xs.length
 ·rw [Nat.min_eq_left h,List.take_of_length_le (by rw [List.length_drop];omega)]
 ·rw [Nat.min_eq_right (by omega),Nat.sub_self,List.take_zero,List.drop_eq_nil_of_le (by omega)]
theorem Pq {h a b:Int}:inD (.int h) [.int a,.int b]=decide (a=h∨b=h):=by
 unfold inD
 rw [List.any_cons,List.any_cons,List.any_nil,ju,ju,Bool.or_false,Bool.decide_or]
theorem More.len {m l:Int} {T:List (Int × Int)} {F:List ((Int × Int) × Int)} (h:More m l T F):T.length≤F.length∧(F.length:Int)≤T.length+l:=by
 obtain ⟨E,h1,_,h3⟩:=h
 have:=h3.length_eq
 rw [List.length_append,List.length_map,List.length_map] at this
 omega
theorem More.bit {m l:Int} {T:List (Int × Int)} {F:List ((Int × Int) × Int)} (h:More m l T F):∀ x∈F,x.2=0∨x.2=1:=fun x hx=>by
 obtain ⟨E,h1,_,h3⟩:=h
 rcases List.mem_append.mp (h3.mem_iff.mp hx) with h | h
 ·obtain ⟨t,_,rfl⟩:=List.mem_map.mp h
  exact .inr rfl
 ·obtain ⟨t,_,rfl⟩:=List.mem_map.mp h
  exact .inl rfl
theorem ag3 {m l:Int} {T:List (Int × Int)} {F:List ((Int × Int) × Int)} (sp:Span m T) (h:More m l T F):Down m F:=fun p h1 h2=>by
 obtain ⟨E,_,_,h3⟩:=h
 have hi:(p - 1).toNat<T.length:=by have:=sp.1;omega
 have hg:=List.getElem?_eq_getElem hi
 have hp:=sp.2 _ _ hg
 have hm:(T[(p - 1).toNat],(1:Int))∈F:=h3.mem_iff.mpr (List.mem_append_left _ (List.mem_map.mpr ⟨_,List.getElem_mem hi,rfl⟩))
 obtain ⟨j,hj⟩:=List.getElem?_of_mem hm
 refine ⟨j,_,hj,?_⟩
 unfold Par at hp
 omega
def N8 (n:Nat) (x:Int × List Nat):D := .tup [.int x.1,.lst ((ind n x.2).map D.int)]
theorem ahM {m b e:Int} {F:List ((Int × Int) × Int)} (hd:Down m F) (hb:0≤b) (hb2:b<m) (he:0≤e) (he2:e<m):ahK F e (b,[]):=by
 obtain ⟨is,h1,h2,h3⟩:=alh hd (b+e).toNat b e hb hb2 he he2 (by omega)
 refine ⟨is,h1,h2,by simp,fun i hi => ?_⟩
 obtain ⟨t,c,k,_⟩:=h3 i hi
 exact (List.getElem?_eq_some_iff.mp k).1
theorem sq0 {n:Nat}:seqIndex? 0 (n+1)=some 0:=by
 unfold seqIndex?
 simp
theorem aai : HB Ih CK 14 := by
  intro ds μ Q X h
  obtain ⟨p,w,rfl,hp,q⟩:=h
  show CK (ends Q XF) [some (.raw (.ref p)),some (.int w),none,none,none,none,none,none,none,none,none,none,none,none] μ
  simp! only [CK]
  refine ⟨p,_,rfl,hp,by decide,by decide,fun r1 μ1 a1 b1 h1 o1 => ?_⟩
  walk_at "r"
  refine ⟨p,_,rfl,h1,by omega,by omega,fun T μ2 hT h2 o2 => ?_⟩
  have hTl:=hT.1
  walk_at "r"
  refine ⟨p,T,_,_,rfl,h2,by omega,by omega,by decide,by decide,by omega,fun F μ3 hF h3 o3 => ?_⟩
  have hFl:=hF.len
  have hFs:F.length<sizeLine:=Nat.lt_of_lt_of_le (show F.length<1000 by omega) (by decide)
  generalize hm:(2:Int)+r1=m at *
  walk_at "r"
  refine gH (enc:=tk) (g:=fun x=>fr x.1) trivial hFs (fun x hx acc R ha hR => ?_) ?_
  · simp! only [tk]
    exact ⟨ha,hR⟩
  walk_at "r"
  refine gH (enc:=tk) (g:=fun x => .int x.2) trivial hFs (fun x hx acc R ha hR => ?_) ?_
  · simp! only [tk]
    exact ⟨ha,hR⟩
  have e5:(F.map fun x=>D.int x.2)=(F.map (·.2)).map D.int:=by rw [List.map_map];rfl
  have o3':=(o1.trans o2).trans o3
  walk_at "r"
  refine ⟨rfl,rfl,fD (fun h => ?_) (fun h => ?_)⟩
  · walk_at "r"
    refine ⟨by show 3≤sizeLine;decide,by show 2≤sizeLine;decide,.of ?_⟩
    rw [e5]
    exact q (_,_) μ3 (gY.tree ⟨by omega,by omega⟩ hT hF) h3 o3'
  · walk_at "r"
    refine ⟨p,_,rfl,h3,by omega,by omega,fun b μ4 a4 b4 h4 o4 => ?_⟩
    walk_at "r"
    refine ⟨p,_,rfl,h4,by omega,by omega,fun r μ5 a5 b5 h5 o5 => ?_⟩
    have o5':=(o3'.trans o4).trans o5
    obtain ⟨k1,k2,k3⟩:=aeX (show 2≤m by omega) a4 b4 a5 b5
    walk_at "r"
    generalize (b+1+r).fmod m=e at *
    refine ⟨by omega,by decide,⟨by omega,by rw [List.length_map];omega,?_⟩,by decide,by decide,fun c hc => ?_⟩
    · rw [List.length_map]
      show 1*F.length≤sizeLine
      omega
    have hne:=uz h5 hc
    have hd:=ag3 hT hF
    have aqc:[D.tup [D.int b,D.lst (List.replicate (((F.map fun x=>fr x.1).length:Int)).toNat [D.int 0]).flatten]]=[((b,[]):Int × List Nat)].map (N8 F.length):=by
      rw [List.map_cons,List.map_nil,N8,amX,List.length_map,Int.toNat_natCast,List.flatten_replicate_singleton,List.map_replicate]
    rw [aqc]
    walk_at "r"
    refine while_by (fun n δ μ'=>∃ (R:Row) (x9 x10 x11 x12:Option D),δ=[some (.raw (.ref p)),some (.int w),some (.int m),some (.lst (F.map tk)),some (eE F),some (.lst ((F.map (·.2)).map D.int)),some (.int b),some (.int e),some (.raw (.ref c)),x9,x10,x11,x12,none] ∧
      dO μ' p∧μ' c=some (.lst (R.map (N8 F.length)))∧jC μ μ' p c∧(∀ x∈R,WL F b x)∧(∃ x∈R,ahK F e x)∧n=qK F.length R∧n≤2097152)
      ⟨[(b,[])],none,none,none,none,by rw [e5];rfl,fY hne h5,aP,jC.new o5',?_,⟨_,List.mem_singleton_self _,ahM hd a4 b4 k1 k2⟩,rfl,ahL (by omega)⟩ ?_
    · intro x hx
      rw [List.mem_singleton.mp hx]
      exact ⟨rfl,List.nodup_nil,by simp⟩
    rintro n δ μ' ⟨R,x9,x10,x11,x12,rfl,hp',hc',ho,hR,hH,rfl,hw⟩
    cases R with
    | nil=>obtain ⟨x,hx,_⟩:=hH;cases hx
    | cons x R =>
      rw [List.map_cons] at hc'
      simp! only [gh hc',N8]
      refine ⟨rfl,rfl,nU (fun hx => ?_) (fun hx => ?_)⟩
      · walk_at "r"
        refine ⟨o7 hc',_,0,_,hc',by decide,by decide,sq0,rfl,?_⟩
        simp! only [N8,eE]
        have hxo:=hR x List.mem_cons_self
        refine ⟨fun i δ μ2=>i≤F.length∧∃ (x11 x12:Option D),δ=[some (.raw (.ref p)),some (.int w),some (.int m),some (.lst (F.map tk)),some (eE F),some (.lst ((F.map (·.2)).map D.int)),some (.int b),some (.int e),some (.raw (.ref c)),some (.int x.1),some (.lst ((ind F.length x.2).map D.int)),x11,x12,none] ∧
          dO μ2 p∧μ2 c=some (.lst ((R++ext F x i).map (N8 F.length)))∧jC μ μ2 p c,⟨Nat.zero_le _,x11,x12,rfl,fY hne hp',?_,ho.put⟩,?_⟩
        · rw [aP]
          simp [ext,N8]
        rintro i δ μ2 ⟨hil,x11,x12,rfl,hp2,hc2,ho2⟩
        refine ⟨trivial,fun d hd => ?_,fun hi => ?_⟩
        · have hd2:(yx 0 (F.map fun x=>fr x.1))[i]? = some d:=hd
          rw [Ug,List.getElem?_map] at hd2
          cases hFi:F[i]? with
          | none=>rw [hFi] at hd2;cases hd2
          | some y =>
            rw [hFi] at hd2
            cases hd2
            obtain ⟨⟨t1,t2⟩,cc⟩:=y
            have hlt:i<F.length:=(List.getElem?_eq_some_iff.mp hFi).1
            have g1:((F.map (·.2)).map D.int)[i]? = some (.int cc):=by rw [List.getElem?_map,List.getElem?_map,hFi];rfl
            have g2:((ind F.length x.2).map D.int)[i]? = some (.int (if i∈x.2 then 1 else 0)):=by rw [List.getElem?_map,Pn hlt];rfl
            have no:step1 F x i=[]→(fun i δ μ2=>i≤F.length∧∃ (x11 x12:Option D),δ=[some (.raw (.ref p)),some (.int w),some (.int m),some (.lst (F.map tk)),some (eE F),some (.lst ((F.map (·.2)).map D.int)),some (.int b),some (.int e),some (.raw (.ref c)),some (.int x.1),some (.lst ((ind F.length x.2).map D.int)),x11,x12,none] ∧
                dO μ2 p∧μ2 c=some (.lst ((R++ext F x i).map (N8 F.length)))∧jC μ μ2 p c) (i+1) [some (.raw (.ref p)),some (.int w),some (.int m),some (.lst (F.map tk)),some (eE F),some (.lst ((F.map (·.2)).map D.int)),some (.int b),some (.int e),some (.raw (.ref c)),some (.int x.1),some (.lst ((ind F.length x.2).map D.int)),some (.int (i:Int)),some (fr (t1,t2)),none] μ2:=fun hs =>
              ⟨hlt,_,_,rfl,hp2,by rw [Rj,hs,List.append_nil];exact hc2,ho2⟩
            simp! only [fr,Int.zero_add,atI_nat,g1,g2,Pq,jd]
            refine ⟨rfl,rfl,Ua (fun hk1 => ?_) (fun hk1 => ?_)⟩
            · simp! only [fr,Int.zero_add,atI_nat,g1,g2,Pq,jd]
              refine Ua (fun hk2 => ?_) (fun hk2 => ?_)
              · simp! only [fr,Int.zero_add,atI_nat,g1,g2,Pq,jd]
                refine ⟨rfl,rfl,fD (fun hk3 => ?_) (fun hk3 => ?_)⟩
                · simp! only [fr,Int.zero_add,atI_nat,g1,g2,Pq,jd,Ro,JL]
                  have hrl:=ag0 (m:=F.length) R
                  have hel:=ag1 (F:=F) (x:=x) i
                  have hw2:qK F.length R≤qK F.length (x::R):=by
                    show (R.map (UG F.length)).sum≤((x::R).map (UG F.length)).sum
                    rw [List.map_cons,List.sum_cons]
                    omega
                  have hle:(ind F.length x.2).length=F.length:=pK
                  have hni:i ∉ x.2:=fun z=>by rw [if_pos z] at hk3;exact absurd hk3 (by decide)
                  have hs:step1 F x i=[(t1+t2 - x.1,x.2++[i])]:=by
                    unfold step1
                    rw [hFi]
                    dsimp only
                    rw [if_pos ⟨hk1,hk2,hni⟩]
                  have sz:16777216≤sizeLine:=by decide
                  have aqd:(((ind F.length x.2).map D.int).take i++[D.int 1]++((ind F.length x.2).map D.int).drop (i+1))=(ind F.length (x.2++[i])).map D.int:=by
                    rw [adh (by rw [List.length_map,hle];exact hlt),← amY,List.map_set]
                  refine ⟨o7 hc2,by decide,?_,?_,by decide,_,hc2,?_,hlt,_,_,rfl,fY hne hp2,?_,ho2.put⟩
                  · rw [List.length_take,List.length_map,hle]
                    omega
                  · rw [List.length_append,List.length_take,List.length_drop,List.length_map,hle]
                    show min i F.length+1+(F.length - (i+1))≤sizeLine
                    omega
                  · rw [List.length_map,List.length_append]
                    omega
                  · rw [aP,aqd,Rj,hs]
                    simp [N8]
                · walk_at "r"
                  refine no ?_
                  unfold step1
                  rw [hFi]
                  dsimp only
                  rw [if_neg fun z=>hk3 (by rw [if_neg z.2.2])]
              · walk_at "r"
                refine no ?_
                unfold step1
                rw [hFi]
                dsimp only
                rw [if_neg fun z=>hk2 z.2.1]
            · walk_at "r"
              refine no ?_
              unfold step1
              rw [hFi]
              dsimp only
              rw [if_neg fun z=>hk1 z.1]
        · have hi2:i=F.length:=by
            have:i=(yx 0 (F.map fun x=>fr x.1)).length:=hi
            rw [acI,List.length_map] at this
            exact this
          subst hi2
          have hless:qK F.length (R++ext F x F.length)<qK F.length (x::R):=by
            rw [aeU]
            have:=alm hxo
            show _<((x::R).map (UG F.length)).sum
            rw [List.map_cons,List.sum_cons]
            unfold qK at *
            omega
          refine ⟨_,hless,R++ext F x F.length,_,_,_,_,rfl,hp2,hc2,ho2,fun y hy => ?_,?_,rfl,by omega⟩
          · rcases List.mem_append.mp hy with h | h
            · exact hR y (List.mem_cons_of_mem _ h)
            · exact ajB hxo h
          · obtain ⟨y,hy,hH⟩:=hH
            rcases List.mem_cons.mp hy with h | h
            · subst h
              obtain ⟨z,hz,hz2⟩:=alj hH hx
              exact ⟨z,List.mem_append_right _ hz,hz2⟩
            · exact ⟨y,List.mem_append_left _ h,hH⟩
      · simp! only [gh hc',N8]
        refine ⟨by show 5≤sizeLine;decide,by show 2≤sizeLine;decide,⟨vA μ' c,Sub.del c,?_⟩⟩
        exact q (_,_) _ (gY.way ⟨by omega,by omega⟩ hT hF ⟨a4,b4⟩ ⟨k1,k2⟩ k3 (hx ▸ hR x List.mem_cons_self)) (qL hne hp') (ho.del ((o5' c hne).symm.trans hc))
def Ba {α β:Type} (P:α→β→Prop) (xs:List α) (ys:List β):Prop:=ys.length=xs.length∧∀ (i:Nat) x y,xs[i]? = some x→ys[i]? = some y→P x y
theorem Ba.nil {α β:Type} {P:α→β→Prop}:Ba P [] []:=⟨rfl,fun i x y h=>by simp at h⟩
theorem Ba.snoc {α β:Type} {P:α→β→Prop} {xs:List α} {ys:List β} {x:α} {y:β} (h:Ba P xs ys) (hp:P x y):Ba P (xs++[x]) (ys++[y]):=by
 refine ⟨by rw [List.length_append,List.length_append,h.1];rfl,fun i u v h1 h2 => ?_⟩
 by_cases hi:i<xs.length
 ·rw [List.getElem?_append_left hi] at h1
  rw [List.getElem?_append_left (by rw [h.1];exact hi)] at h2
  exact h.2 i u v h1 h2
 ·rw [List.getElem?_append_right (by omega)] at h1
  rw [List.getElem?_append_right (by rw [h.1];omega),h.1] at h2
  cases e:i - xs.length with
  | zero =>
   rw [e] at h1 h2
   cases h1
   cases h2
   exact hp
  | succ n =>
   rw [e] at h1
   simp at h1
theorem Ba.mem {α β:Type} {P:α→β→Prop} {xs:List α} {ys:List β} (h:Ba P xs ys) {y:β} (hy:y∈ys):∃ x∈xs,P x y:=by
 obtain ⟨i,hi⟩:=List.getElem?_of_mem hy
 have hl:i<xs.length:=by rw [← h.1];exact (List.getElem?_eq_some_iff.mp hi).1
 exact ⟨xs[i],List.getElem_mem hl,h.2 i _ y (List.getElem?_eq_getElem hl) hi⟩
theorem rY {α β:Type} {xs:List α} {ok:M→Prop} {enc:α→D} {g:β→D} {P:α→β→Prop} {p:Addr} {f:qT} {tt:DTT} {te:bZ} {Q:List D→M→Prop} {δ:Sl} {μ:M} (ho:∀ μ',nM μ μ' p→ok μ') (hp:dO μ p) (hl:xs.length<sizeLine)
  (st:∀ x∈xs,∀ (acc:List D) (R:List D→M→Prop) (μ':M),dO μ' p→nM μ μ' p→acc.length<sizeLine→(∀ y μ2,P x y→dO μ2 p→nM μ' μ2 p→R (acc++[g y]) μ2)→Hq (f μ' (enc x)) tt te acc R δ μ')
  (q:∀ (ys:List β) μ',Ba P xs ys→dO μ' p→nM μ μ' p→Q (ys.map g) μ'):ZJ ok f tt te Q δ (xs.map enc) μ:=by
 refine ⟨fun i acc μ'=>∃ ys:List β,acc=ys.map g∧Ba P (xs.take i) ys∧dO μ' p∧nM μ μ' p,⟨[],rfl,.nil,hp,nM.refl _ _⟩,?_⟩
 rintro i acc μ' ⟨ys,rfl,h2,hp',o⟩
 refine ⟨ho μ' o,fun d hd => ?_,fun hi => ?_⟩
 ·obtain ⟨x,hx,rfl⟩:=map_some hd
  refine st x (List.mem_of_getElem? hx) _ _ _ hp' o ?_ fun y μ2 hy h3 o3=>⟨ys++[y],by rw [List.map_append];rfl,by rw [take_succ hx];exact h2.snoc hy,h3,o.trans o3⟩
  rw [List.length_map,h2.1,List.length_take]
  exact Nat.lt_of_le_of_lt (Nat.min_le_right _ _) hl
 ·rw [List.length_map] at hi
  subst hi
  rw [List.take_length] at h2
  exact q ys μ' h2 hp' o
theorem Ii {a:Int} {n:Nat}:nZ a n=(List.range n).map fun i:Nat=>D.int (a+(i:Nat)):=rfl
theorem Ew {n:Nat}:nZ 0 n=(upTo n).map D.int:=by
 unfold nZ upTo
 rw [List.map_map]
 apply List.map_congr_left
 intro i _
 show D.int (0+(i:Int))=D.int (Int.ofNat i)
 rw [Int.zero_add]
 rfl
theorem lG {n:Nat}:(upTo n).length=n:=by unfold upTo;rw [List.length_map,List.length_range]
theorem CQ {ns:List Int} {i:Int} (h0:0≤i) (h1:i<ns.length):atI (ns.map D.int) i=some (.int (ns.getD i.toNat 0)):=by
 obtain ⟨x,e1,e2⟩:=mW (xs:=ns.map D.int) h0 (by rw [List.length_map];exact h1)
 rw [e1,← e2,List.getElem?_map,List.getD_eq_getElem?_getD]
 have:i.toNat<ns.length:=by omega
 rw [List.getElem?_eq_getElem this]
 rfl
theorem Jf {n:Nat} {i:Int} (h0:0≤i) (h1:i<n):ixN n i=some i.toNat:=by
 unfold ixN
 rw [if_pos h0,if_pos h1]
theorem Yu:HB jX Ay 8:=by
 intro ds μ Q X h
 obtain ⟨p,rfl,hp,q⟩:=h
 show Ay (ends Q XF) [some (.raw (.ref p)),none,none,none,none,none,none,none] μ
 simp! only [Ay]
 refine ⟨p,_,rfl,hp,by decide,by decide,fun r1 μ1 a1 b1 h1 o1 => ?_⟩
 walk_at "r"
 generalize hm:(1:Int)+r1=m at *
 have hmn:(m.toNat:Int)=m:=by omega
 refine ⟨⟨by omega,by omega⟩,p,_,rfl,h1,by rw [oE];omega,fun ys μ2 hys h2 o2 => ?_⟩
 rw [Ew] at hys
 obtain ⟨R,rfl,hR⟩:=CP hys
 have hRl:R.length=m.toNat:=by rw [hR.length_eq,lG]
 walk_at "r"
 refine ⟨⟨by omega,by omega⟩,?_⟩
 rw [Ii]
 have sz:16777216≤sizeLine:=by decide
 refine gH (enc:=fun i:Nat=>D.int (0+(i:Nat))) (g:=fun i:Nat=>tk (((i:Int),R.getD i 0),1)) trivial (by rw [List.length_range];omega) (fun i hi acc R' ha hR' => ?_) ?_
 ·have hi':=List.mem_range.mp hi
  have e:=CQ (ns:=R) (i:=(i:Int)) (by omega) (by omega)
  simp! only [Int.zero_add,e]
  exact ⟨by decide,by decide,ha,hR'⟩
 intro c hc
 have o2':=o1.trans o2
 have hne:=uz h2 hc
 have e0:((List.range m.toNat).map fun i:Nat=>tk (((i:Int),R.getD i 0),1))=(R.mapIdx fun i r=>(((i:Int),r),(1:Int))).map tk:=by
  apply List.ext_getElem?
  intro i
  rw [List.getElem?_map,List.getElem?_map,List.getElem?_mapIdx]
  by_cases hi:i<m.toNat
  ·rw [List.getElem?_range hi,List.getElem?_eq_getElem (show i<R.length by omega)]
   simp [List.getD_eq_getElem?_getD,List.getElem?_eq_getElem (show i<R.length by omega)]
  ·rw [List.getElem?_eq_none (by rw [List.length_range];omega),List.getElem?_eq_none (show R.length≤i by omega)]
   rfl
 rw [e0]
 generalize hB:(R.mapIdx fun i r=>(((i:Int),r),(1:Int)))=B
 have hBl:B.length=m.toNat:=by rw [← hB,List.length_mapIdx,hRl]
 walk_at "r"
 refine ⟨p,_,rfl,fY hne h2,by decide,by decide,fun r3 μ3 a3 b3 h3 o3 => ?_⟩
 walk_at "r"
 refine ⟨⟨by omega,by omega⟩,?_⟩
 refine ⟨fun i δ μ2=>∃ (E:List (Int × Int)) (x:Option D),E.length=i∧(∀ t∈E,0≤t.1∧t.1<m∧0≤t.2∧t.2<m)∧δ=[some (.raw (.ref p)),some (.int m),some (.lst (R.map D.int)),some (.raw (.ref c)),x,none,none,none]∧dO μ2 p ∧
   μ2 c=some (.lst ((B++E.map (·,(0:Int))).map tk))∧jC μ μ2 p c,⟨[],none,rfl,by simp,rfl,h3,?_,(jC.new o2').step o3⟩,?_⟩
 ·rw [mj o3 hne aP]
  simp
 ·rintro i δ μ4 ⟨E,x,hE,hT,rfl,hp4,hc4,ho4⟩
  refine ⟨trivial,fun d hd => ?_,fun hi => ?_⟩
  ·obtain ⟨rfl,hlt⟩:=xV hd
   walk_at "r"
   refine ⟨o7 hc4,p,_,rfl,hp4,by omega,by omega,fun r5 μ5 a5 b5 h5 o5 => ?_⟩
   walk_at "r"
   refine ⟨p,_,rfl,h5,by omega,by omega,fun r6 μ6 a6 b6 h6 o6 => ?_⟩
   walk_at "r"
   refine ⟨by decide,by decide,_,mj o6 hne (mj o5 hne hc4),?_,?_⟩
   ·rw [List.length_map,List.length_append,List.length_map,hBl]
    omega
   ·refine ⟨E++[(r5,r6)],_,by rw [List.length_append,hE];rfl,fun t ht => ?_,rfl,fY hne h6,?_,((ho4.step o5).step o6).put⟩
    ·rcases List.mem_append.mp ht with h | h
     ·exact hT t h
     ·rw [List.mem_singleton.mp h]
      exact ⟨a5,b5,a6,b6⟩
    ·rw [aP]
     simp [tk,fr]
  ·rw [oE] at hi
   walk_at "r"
   refine ⟨_,hc4,p,_,rfl,qL hne hp4,?_,fun ys μ5 hys h5 o5 => ?_⟩
   ·rw [List.length_map,List.length_append,List.length_map,hBl]
    omega
   ·obtain ⟨F,rfl,hF⟩:=CP hys
    have hFl:F.length≤20:=by rw [hF.length_eq,List.length_append,List.length_map,hBl];omega
    walk_at "r"
    refine gH (enc:=tk) (g:=fun x=>fr x.1) trivial (by omega) (fun x hx acc R ha hR => ?_) ?_
    ·simp! only [tk]
     exact ⟨ha,hR⟩
    walk_at "r"
    refine ⟨by show 3≤sizeLine;decide,?_⟩
    refine gH (enc:=tk) (g:=fun x => .int x.2) trivial (by omega) (fun x hx acc R ha hR => ?_) ?_
    ·simp! only [tk]
     exact ⟨ha,hR⟩
    walk_at "r"
    have e5:(F.map fun x=>D.int x.2)=(F.map (·.2)).map D.int:=by rw [List.map_map];rfl
    refine ⟨by show 2≤sizeLine;decide,.of ?_⟩
    rw [e5]
    exact q (_,_) μ5 (gY.pair (R:=R) (E:=E) ⟨by omega,by omega⟩ hR (by omega) hT (hB ▸ hF)) h5 ((ho4.del ((o2' c hne).symm.trans hc)).trans o5)
theorem Yv:HB jX Az 9:=by
 intro ds μ Q X h
 obtain ⟨p,rfl,hp,q⟩:=h
 show Az (ends Q XF) [some (.raw (.ref p)),none,none,none,none,none,none,none,none] μ
 have sz:16777216≤sizeLine:=by decide
 simp! only [Az]
 refine ⟨p,_,rfl,hp,by decide,by decide,fun r1 μ1 a1 b1 h1 o1 => ?_⟩
 walk_at "r"
 obtain ⟨z,ez,hz⟩:=mW (xs:=[D.int 6,D.int 3,D.int 2]) (i:=1+r1 - 1) (by omega) (by show 1+r1 - 1<3;omega)
 rw [ez]
 obtain ⟨h,hh⟩:∃ h:Nat,(1:Int)+r1=h:=⟨(1+r1).toNat,by omega⟩
 obtain ⟨k,rfl,k0,kb⟩:∃ k:Int,z = .int k∧2≤k∧(h:Int)*k≤6:=by
  have hr:(1+r1 - 1).toNat=0∨(1+r1 - 1).toNat=1∨(1+r1 - 1).toNat=2:=by omega
  rcases hr with e | e | e<;>rw [e] at hz<;>cases hz
  ·exact ⟨6,rfl,by decide,by omega⟩
  ·exact ⟨3,rfl,by decide,by omega⟩
  ·exact ⟨2,rfl,by decide,by omega⟩
 rw [hh]
 refine ⟨by decide,p,_,rfl,h1,by omega,?_,fun r2 μ2 a2 b2 h2 o2 => ?_⟩
 ·have:1*k≤(h:Int)*k:=Int.mul_le_mul_of_nonneg_right (by omega) (by omega)
  omega
 obtain ⟨w,hw⟩:∃ w:Nat,(1:Int)+r2=w:=⟨(1+r2).toNat,by omega⟩
 have hw6:h*w≤6:=by
  have:(h:Int)*w≤(h:Int)*k:=Int.mul_le_mul_of_nonneg_left (by omega) (by omega)
  have e:((h*w:Nat):Int)=(h:Int)*w:=Int.natCast_mul h w
  omega
 have hw7:w≤6:=Nat.le_trans (Nat.le_mul_of_pos_left w (show 0<h by omega)) hw6
 walk_at "r"
 rw [hw]
 refine ⟨⟨by omega,by omega⟩,?_⟩
 rw [Ii]
 refine rY (p:=p) (P:=fun _ d=>0≤d∧d<(h:Int)) (g:=D.int) (fun _ _=>trivial) h2 (by rw [List.length_range];omega) (fun x hx acc R μ' hp' o' ha hR => ?_) (fun dh μ3 hd h3 o3 => ?_)
 ·walk_at "r"
  exact ⟨p,_,rfl,hp',by omega,by omega,fun r3 μ4 a4 b4 h4 o4=>⟨ha,hR r3 μ4 ⟨a4,b4⟩ h4 o4⟩⟩
 have hdl:dh.length=w:=by rw [hd.1,List.length_range];omega
 have hdb:∀ d∈dh,0≤d∧d<(h:Int):=fun d hm=>(hd.mem hm).elim fun _ z=>z.2
 walk_at "r"
 refine ⟨⟨by omega,by omega⟩,?_⟩
 rw [Ii]
 refine rY (xs:=List.range (h:Int).toNat) (enc:=fun i:Nat=>D.int (0+(i:Nat))) (p:=p) (P:=fun (i:Nat) (r:Int)=>((dh.count (i:Int):Nat):Int)≤r∧r≤6) (g:=D.int) (fun _ _=>trivial) h3 (by rw [List.length_range];omega) (fun x hx acc R μ' hp' o' ha hR => ?_) (fun rooms μ4 hr h4 o4 => ?_)
 ·simp! only [Int.zero_add]
  have hcl:=List.count_le_length (a:=(x:Int)) (l:=dh)
  refine ⟨amJ,dh,rfl,p,_,rfl,hp',by decide,by decide,fun r3 μ4 a4 b4 h4 o4 => ?_⟩
  walk_at "r"
  refine ⟨ha,hR _ μ4 ⟨?_,?_⟩ h4 o4⟩
  ·split<;>omega
  ·split<;>omega
 have hrl:rooms.length=h:=by rw [hr.1,List.length_range];omega
 walk_at "r"
 refine ⟨by decide,⟨by omega,by omega⟩,?_⟩
 have hone:∀ i:Nat,(dh.map fun d=>if d=(i:Int) then (1:Int) else 0).length=w:=fun i=>by rw [List.length_map,hdl]
 have hfl:∀ i:Nat,((List.range i).flatMap fun (i:Nat)=>dh.map fun d=>if d=(i:Int) then (1:Int) else 0).length=i*w:=by
  intro i
  induction i with
  | zero=>simp
  | succ i ih=>rw [List.range_succ,List.flatMap_append,List.length_append,ih,List.flatMap_singleton,hone,Nat.succ_mul]
 refine ⟨fun i δ μ'=>μ'=μ4∧i≤h∧∃ x:Option D,δ=[some (.raw (.ref p)),some (.int h),some (.int w),some (.lst (dh.map D.int)),some (.tup (rooms.map D.int)),some (.lst (((List.range i).flatMap fun (i:Nat)=>dh.map fun d=>if d=(i:Int) then (1:Int) else 0).map D.int)),x,none,none],
  ⟨rfl,Nat.zero_le _,none,rfl⟩,?_⟩
 rintro i δ μ' ⟨rfl,hih,x,rfl⟩
 refine ⟨trivial,fun d hd => ?_,fun hi => ?_⟩
 ·obtain ⟨rfl,hlt⟩:=xV hd
  walk_at "r"
  refine gH (enc:=D.int) (g:=fun d=>D.int (if d=(i:Int) then 1 else 0)) trivial (by omega) (fun d hd' acc R ha hR => ?_) ?_
  ·simp! only [Int.zero_add]
   refine ⟨rfl,rfl,ha,?_⟩
   simpa using hR
  ·walk_at "r"
   have hlt':i<h:=by omega
   have hiw:i*w+w≤6:=Nat.le_trans (by rw [← Nat.succ_mul];exact Nat.mul_le_mul_right w hlt') hw6
   refine ⟨?_,by omega,some (.int (0+(i:Nat))),?_⟩
   ·rw [List.length_map,List.length_map,hfl,hdl]
    omega
   ·rw [List.range_succ,List.flatMap_append,List.flatMap_singleton,List.map_append,List.map_map]
    rfl
 ·rw [oE] at hi
  have aqe:i=h:=by omega
  subst aqe
  walk_at "r"
  exact ⟨by decide,by decide,.of (q (_,_) μ' (gY.deal ⟨by omega,by omega⟩ (by omega) hw6 hdl hdb hrl fun j r hj=>hr.2 j j r (by
   rw [List.getElem?_range]
   have:=(List.getElem?_eq_some_iff.mp hj).1
   omega) hj) h4 (((o1.trans o2).trans o3).trans o4))⟩
theorem Yw {m:Int} {T:List (Int × Int)} (sp:Span m T):∀ t∈T,tY m t:=fun t ht=>by
 obtain ⟨i,hi⟩:=List.getElem?_of_mem ht
 have h1:=sp.2 i t hi
 have h2:=(List.getElem?_eq_some_iff.mp hi).1
 have h3:=sp.1
 unfold Par at h1
 unfold tY
 omega
theorem aeY {m l:Int} {T:List (Int × Int)} {F:List ((Int × Int) × Int)} (h:More m l T F) (ht:∀ t∈T,tY m t):∀ x∈F,tY m x.1:=fun x hx=>by
 obtain ⟨E,_,h2,h3⟩:=h
 rcases List.mem_append.mp (h3.mem_iff.mp hx) with h | h
 ·obtain ⟨t,h4,rfl⟩:=List.mem_map.mp h
  exact ht t h4
 ·obtain ⟨t,h4,rfl⟩:=List.mem_map.mp h
  exact h2 t h4
theorem ajC {xs:List D}:cutD xs none (some 3)=xs.take 3:=Ro (i:=3)
theorem aaj {ns:List Int} {x:(Int × Int) × Int}:(fl ns x).length=ns.length:=by unfold fl;rw [List.length_set,List.length_set]
theorem Yx {xs:List ((Int × Int) × Int)}:∀ {ns:List Int},(xs.foldl fl ns).length=ns.length:=by
 induction xs with
 | nil=>intro ns;rfl
 | cons x xs ih=>intro ns;rw [List.foldl_cons,ih,aaj]
theorem UJ:HB jX xq 11:=by
 intro ds μ Q X h
 obtain ⟨p,rfl,hp,q⟩:=h
 show xq (ends Q XF) [some (.raw (.ref p)),none,none,none,none,none,none,none,none,none,none] μ
 have sz:16777216≤sizeLine:=by decide
 simp! only [xq]
 refine ⟨p,_,rfl,hp,by decide,by decide,fun r1 μ1 a1 b1 h1 o1 => ?_⟩
 walk_at "r"
 generalize hm:(2:Int)+r1=m at *
 refine ⟨p,_,rfl,h1,by omega,by omega,fun T μ2 hT h2 o2 => ?_⟩
 have hTl:=hT.1
 simp! only [ajC]
 refine ⟨p,T.take 3,_,_,by rw [List.map_take],h2,by omega,by omega,by decide,by decide,by rw [List.length_take];omega,fun F μ3 hF h3 o3 => ?_⟩
 have hFl:=hF.len
 have hFt:∀ x∈F,tY m x.1:=aeY hF fun t ht=>Yw hT t (List.mem_of_mem_take ht)
 rw [List.length_take] at hFl
 walk_at "r"
 refine gH (enc:=tk) (g:=fun x=>fr x.1) trivial (by omega) (fun x hx acc R ha hR => ?_) ?_
 ·simp! only [tk]
  exact ⟨ha,hR⟩
 walk_at "r"
 refine rY (xs:=F) (enc:=fun x=>fr x.1) (p:=p) (P:=fun _ (r:Int)=>1≤r∧r≤2) (g:=D.int) (fun _ _=>trivial) h3 (by omega) (fun x hx acc R μ' hp' o' ha hR => ?_) (fun rooms μ4 hr h4 o4 => ?_)
 ·walk_at "r"
  exact ⟨p,_,rfl,hp',by decide,by decide,fun r3 μ4 a4 b4 h4 o4=>⟨ha,hR _ μ4 ⟨by omega,by omega⟩ h4 o4⟩⟩
 have hrb:∀ r∈rooms,1≤r∧r≤2:=fun r hm=>(hr.mem hm).elim fun _ z=>z.2
 walk_at "r"
 refine rY (xs:=rooms) (enc:=D.int) (p:=p) (P:=fun (r c:Int)=>0≤c∧c≤r) (g:=D.int) (fun _ _=>trivial) h4 (by rw [hr.1];omega) (fun x hx acc R μ' hp' o' ha hR => ?_) (fun cs μ5 hcs h5 o5 => ?_)
 ·have:=hrb x hx
  walk_at "r"
  exact ⟨p,_,rfl,hp',by omega,by omega,fun r3 μ4 a4 b4 h4 o4=>⟨ha,hR _ μ4 ⟨by omega,by omega⟩ h4 o4⟩⟩
 have o5':=(((o1.trans o2).trans o3).trans o4).trans o5
 have hcl:cs.length=F.length:=by rw [hcs.1,hr.1]
 walk_at "r"
 refine ⟨by decide,⟨by omega,by omega,by show 1*m.toNat≤sizeLine;omega⟩,fun c hc => ?_⟩
 have hne:=uz h5 hc
 have e0:(List.replicate m.toNat [D.int 0]).flatten=(List.replicate m.toNat (0:Int)).map D.int:=by rw [List.flatten_replicate_singleton,List.map_replicate]
 rw [e0]
 walk_at "r"
 generalize hz:(F.map (·.1)).zip cs=zs
 have hzl:zs.length=F.length:=by rw [← hz,List.length_zip,List.length_map,hcl,Nat.min_self]
 refine ⟨fun i δ μ'=>i≤zs.length∧∃ (x y:Option D),δ=[some (.raw (.ref p)),some (.int m),some (.lst (F.map tk)),some (eE F),some (.tup (rooms.map D.int)),some (.lst (cs.map D.int)),some (.raw (.ref c)),x,y,none,none]∧dO μ' p ∧
  μ' c=some (.lst (((zs.take i).foldl fl (List.replicate m.toNat 0)).map D.int))∧jC μ μ' p c,⟨Nat.zero_le _,none,none,rfl,fY hne h5,aP,jC.new o5'⟩,?_⟩
 rintro i δ μ' ⟨hil,x,y,rfl,hp',hc',ho⟩
 refine ⟨trivial,fun d hd => ?_,fun hi => ?_⟩
 ·obtain ⟨d1,d2,hd1,hd2,rfl⟩:=aen (show (QH (F.map fun x=>fr x.1) (cs.map D.int))[i]? = some d from hd)
  obtain ⟨f,hf,rfl⟩:=map_some hd1
  obtain ⟨n,hn,rfl⟩:=map_some hd2
  obtain ⟨t1,t2,t3,t4,_⟩:=hFt f (List.mem_of_getElem? hf)
  have hzi:zs[i]? = some (f.1,n):=by
   rw [← hz,List.getElem?_zip_eq_some]
   exact ⟨by rw [List.getElem?_map,hf];rfl,hn⟩
  have hlt:i<zs.length:=(List.getElem?_eq_some_iff.mp hzi).1
  generalize hN:(zs.take i).foldl fl (List.replicate m.toNat 0)=N at *
  have hNl:N.length=m.toNat:=by rw [← hN,Yx,List.length_replicate]
  have e1:=CQ (ns:=N) (i:=f.1.1) t1 (by omega)
  simp! only [fr,gh hc',e1]
  refine ⟨_,hc',?_⟩
  rw [List.length_map,Jf t1 (by omega)]
  walk_at "r"
  rw [← List.map_set]
  have e2:=CQ (ns:=N.set f.1.1.toNat (N.getD f.1.1.toNat 0+n)) (i:=f.1.2) t3 (by rw [List.length_set];omega)
  simp! only [fr,gh (aP (μ:=μ') (p:=c) (c:=C.lst ((N.set f.1.1.toNat (N.getD f.1.1.toNat 0+n)).map D.int))),e2]
  refine ⟨_,aP,?_⟩
  rw [List.length_map,List.length_set,Jf t3 (by omega)]
  walk_at "r"
  rw [← List.map_set,Cg]
  refine ⟨hlt,_,_,rfl,fY hne hp',?_,ho.put⟩
  rw [aP,take_succ hzi,List.foldl_append,hN]
  rfl
 ·have hi2:i=zs.length:=by
   have:i=(QH (F.map fun x=>fr x.1) (cs.map D.int)).length:=hi
   rw [aeo,List.length_map,List.length_map,hcl,Nat.min_self] at this
   omega
  subst hi2
  rw [List.take_length] at hc'
  simp! only [gh hc']
  refine ⟨by show 5≤sizeLine;decide,by show 2≤sizeLine;decide,⟨vA μ' c,Sub.del c,?_⟩⟩
  rw [← hz]
  exact q (_,_) _ (gY.stream ⟨by omega,by omega⟩ hT hF hr.1 hrb hcl fun j n r h1 h2=>hcs.2 j r n h2 h1) (qL hne hp') (ho.del ((o5' c hne).symm.trans hc))
theorem zP {lasts:List Int}:∀ (os:List Int) (t:Int) (acc:List Int),(rB lasts os t acc).length=acc.length
 | [],_,_=>rfl
 | o::os,t,acc=>by rw [rB,zP os,List.length_set]
theorem aeZ {lasts:List Int} (hl:∀ l∈lasts,1≤l∧l≤4):∀ (os:List Int) (t:Int) (acc:List Int) (B:Int),0≤t→t+4*os.length≤B→(∀ n∈acc,0≤n∧n≤B)→∀ n∈rB lasts os t acc,0≤n∧n≤B
 | [],_,_,_,_,_,h=>h
 | o :: os, t, acc, B, ht, hB, h => by
  have hx:0≤lasts.getD o.toNat 0∧lasts.getD o.toNat 0≤4:=by
   rw [List.getD_eq_getElem?_getD]
   cases e:lasts[o.toNat]? with
   | none=>simp
   | some l=>have:=hl l (List.mem_of_getElem? e);simp;omega
  rw [rB]
  rw [List.length_cons] at hB
  refine aeZ hl os _ _ B (by omega) (by omega) fun n hn => ?_
  rcases List.mem_or_eq_of_mem_set hn with h1 | h1
  ·exact h n h1
  ·rw [h1]
   omega
theorem perm_range {R:List Int} {n:Nat} (h:R.Perm (upTo n)):∀ r∈R,0≤r∧r<n:=fun r hr=>by
 have:=h.mem_iff.mp hr
 unfold upTo at this
 obtain ⟨i,hi,rfl⟩:=List.mem_map.mp this
 have:=List.mem_range.mp hi
 exact ⟨Int.natCast_nonneg i,by show ((i:Nat):Int)<n;omega⟩
theorem Xf:HB Av zm 6:=by
 intro ds μ Q X h
 obtain ⟨p,w,rfl,hw,hw8,hp,q⟩:=h
 show zm (ends Q XF) [some (.raw (.ref p)),some (.int w),none,none,none,none] μ
 have sz:16777216≤sizeLine:=by decide
 simp! only [zm]
 refine ⟨⟨by omega,by omega⟩,?_⟩
 rw [Ii]
 refine rY (xs:=List.range w.toNat) (enc:=fun i:Nat=>D.int (0+(i:Nat))) (p:=p) (P:=fun _ (r:Int)=>1≤r∧r≤4) (g:=D.int) (fun _ _=>trivial) hp (by rw [List.length_range];omega) (fun x hx acc R μ' hp' o' ha hR => ?_) (fun lasts μ1 hl h1 o1 => ?_)
 ·walk_at "r"
  exact ⟨p,_,rfl,hp',by decide,by decide,fun r3 μ4 a4 b4 h4 o4=>⟨ha,hR _ μ4 ⟨by omega,by omega⟩ h4 o4⟩⟩
 have hll:lasts.length=w.toNat:=by rw [hl.1,List.length_range]
 have hlb:∀ r∈lasts,1≤r∧r≤4:=fun r hm=>(hl.mem hm).elim fun _ z=>z.2
 walk_at "r"
 refine ⟨by decide,⟨by omega,by omega,by show 1*w.toNat≤sizeLine;omega⟩,fun c hc => ?_⟩
 have hne:=uz h1 hc
 have e0:(List.replicate w.toNat [D.int 0]).flatten=(List.replicate lasts.length (0:Int)).map D.int:=by rw [List.flatten_replicate_singleton,List.map_replicate,hll]
 rw [e0]
 walk_at "r"
 refine ⟨⟨by omega,by omega⟩,p,_,rfl,fY hne h1,by rw [oE];omega,fun ys μ2 hys h2 o2 => ?_⟩
 rw [Ew] at hys
 obtain ⟨R,rfl,hR⟩:=CP hys
 have hRb:=perm_range hR
 rw [← hll] at hR hRb
 walk_at "r"
 refine ⟨fun i δ μ'=>∃ (t:Int) (acc:List Int) (x:Option D),acc.length=lasts.length∧rB lasts (R.drop i) t acc=rB lasts R 0 (List.replicate lasts.length 0)∧δ=[some (.raw (.ref p)),some (.int w),some (.tup (lasts.map D.int)),some (.raw (.ref c)),some (.int t),x]∧dO μ' p ∧
  μ' c=some (.lst (acc.map D.int))∧jC μ μ' p c,⟨0,List.replicate lasts.length 0,none,List.length_replicate,rfl,rfl,h2,mj o2 hne aP,(jC.new o1).step o2⟩,?_⟩
 rintro i δ μ' ⟨t,acc,x,hal,hdn,rfl,hp',hc',ho⟩
 refine ⟨trivial,fun d hd => ?_,fun hi => ?_⟩
 ·obtain ⟨o,ho',rfl⟩:=map_some hd
  obtain ⟨b1,b2⟩:=hRb o (List.mem_of_getElem? ho')
  have e1:=CQ (ns:=lasts) (i:=o) b1 b2
  simp! only [e1]
  refine ⟨_,hc',?_⟩
  rw [List.length_map,Jf b1 (by omega)]
  walk_at "r"
  rw [← List.map_set]
  refine ⟨_,_,_,by rw [List.length_set];exact hal,?_,rfl,fY hne hp',aP,ho.put⟩
  rw [← hdn,agU ho']
  rfl
 ·rw [List.length_map] at hi
  subst hi
  rw [List.drop_length] at hdn
  walk_at "r"
  refine ⟨by show 2≤sizeLine;decide,_,hc',by show 2≤sizeLine;decide,.of ?_⟩
  rw [show acc=_ from hdn]
  exact q (_,_) _ ⟨lasts,R,rfl,⟨by omega,by omega⟩,hlb,hR,by omega⟩ (qL hne hp') (ho.del ((o1 c hne).symm.trans hc))
theorem af5 : HB jX Rm 2 := by
 intro ds μ Q X h
 obtain ⟨p,rfl,hp,q⟩:=h
 show Rm (ends Q XF) [some (.raw (.ref p)),none] μ
 simp! only [Rm]
 refine ⟨p,_,rfl,hp,by decide,by decide,fun r μ1 a1 b1 h1 o1 => ?_⟩
 have fin:∀ {E:bM},E=ends Q XF→u6 p μ1 (fun d μ=>E.rt d μ) aeV bR:=fun e x μ2 hx h2 o2=>by subst e;exact .of (q x μ2 hx h2 (o1.trans o2))
 have Pr:Ih [.raw (.ref p),.int (r.fmod 2)] μ1 (Fin Q) XF:=⟨p,_,rfl,h1,fun x μ2 hx h2 o2 => .of (q x μ2 hx h2 (o1.trans o2))⟩
 have oth:jX [.raw (.ref p)] μ1 (Fin Q) XF:=⟨p,rfl,h1,fun x μ2 hx h2 o2 => .of (q x μ2 hx h2 (o1.trans o2))⟩
 walk_at "r"
 refine akK (fun h => ?_) (fun h => ?_)
 ·walk_at "r"
  exact ⟨by decide,Pr⟩
 ·walk_at "r"
  refine ⟨rfl,rfl,fD (fun h => ?_) (fun h => ?_)⟩
  ·walk_at "r"
   exact ⟨by decide,Pr⟩
  ·walk_at "r"
   refine ⟨rfl,rfl,fD (fun h => ?_) (fun h => ?_)⟩
   ·walk_at "r"
    exact oth
   ·walk_at "r"
    refine ⟨rfl,rfl,fD (fun h => ?_) (fun h => ?_)⟩
    ·walk_at "r"
     exact oth
    ·walk_at "r"
     refine ⟨rfl,rfl,fD (fun h => ?_) (fun h => ?_)⟩
     ·walk_at "r"
      exact oth
     ·walk_at "r"
      refine ⟨p,_,rfl,h1,by decide,by decide,fun r2 μ2 a2 b2 h2 o2 => ?_⟩
      walk_at "r"
      exact ⟨p,_,rfl,by omega,by omega,h2,fun x μ3 hx h3 o3 => .of (q x μ3 (hx.wish (by omega)) h3 ((o1.trans o2).trans o3))⟩
theorem gY.UL {s:D} {ns:List Int} (h:gY s ns):aqb ns:=by
 cases h with
 | tree hm sp mo =>
  have h1:=sp.1
  have h2:=mo.len
  refine ⟨by rw [List.length_map];omega,by rw [List.length_map];omega,fun n hn => ?_⟩
  obtain ⟨x,hx,rfl⟩:=List.mem_map.mp hn
  rcases mo.bit x hx with e | e<;>rw [e]<;>decide
 | way hm sp mo hb he ne tr =>
  have h1:=sp.1
  have h2:=mo.len
  refine ⟨by rw [pK];omega,by rw [pK];omega,fun n hn => ?_⟩
  unfold ind at hn
  obtain ⟨i,_,rfl⟩:=List.mem_map.mp hn
  split<;>decide
 | @pair m R E F hm hR hE ok pf =>
  have hl:=pf.length_eq
  have hRl:=hR.length_eq
  rw [lG] at hRl
  rw [List.length_append,List.length_mapIdx,List.length_map] at hl
  refine ⟨by rw [List.length_map];omega,by rw [List.length_map];omega,fun n hn => ?_⟩
  obtain ⟨x,hx,rfl⟩:=List.mem_map.mp hn
  rcases List.mem_append.mp (pf.mem_iff.mp hx) with h | h
  ·obtain ⟨i,hi⟩:=List.getElem?_of_mem h
   rw [List.getElem?_mapIdx] at hi
   obtain ⟨r,_,rfl⟩:=Option.map_eq_some_iff.mp hi
   exact ⟨by show (0:Int)≤1;decide,by show (1:Int)≤100;decide⟩
  ·obtain ⟨t,_,rfl⟩:=List.mem_map.mp h
   exact ⟨by show (0:Int)≤0;decide,by show (0:Int)≤100;decide⟩
 | @deal h w dh rooms hh hw hwl dl db rl rb =>
  have hfl:∀ i:Nat,((List.range i).flatMap fun (i:Nat)=>dh.map fun d=>if d=(i:Int) then (1:Int) else 0).length=i*w:=by
   intro i
   induction i with
   | zero=>simp
   | succ i ih=>rw [List.range_succ,List.flatMap_append,List.length_append,ih,List.flatMap_singleton,List.length_map,dl,Nat.succ_mul]
  refine ⟨by rw [hfl];exact Nat.mul_pos hh.1 hw,by rw [hfl];omega,fun n hn => ?_⟩
  obtain ⟨i,_,hi⟩:=List.mem_flatMap.mp hn
  obtain ⟨d,_,rfl⟩:=List.mem_map.mp hi
  split<;>decide
 | @stream m T F rooms cs hm sp mo rl rb cl cb =>
  have h1:=sp.1
  have h2:=mo.len
  rw [List.length_take] at h2
  refine ⟨by omega,by omega,fun n hn => ?_⟩
  obtain ⟨i,hi⟩:=List.getElem?_of_mem hn
  have hl:i<rooms.length:=by have:=(List.getElem?_eq_some_iff.mp hi).1;omega
  have h3:=cb i n _ hi (List.getElem?_eq_getElem hl)
  have h4:=rb _ (List.getElem_mem hl)
  omega
 | @bench lasts order h1 lb ho =>
  refine ⟨by rw [zP,List.length_replicate];omega,by rw [zP,List.length_replicate];omega,?_⟩
  have hol:=ho.length_eq
  rw [lG] at hol
  exact aeZ lb order 0 _ 100 (by decide) (by omega) fun n hn=>by
   rw [List.eq_of_mem_replicate hn]
   decide
end NB
namespace Fr
theorem ahN {a b c:Int} (h:c≠0) (e:a*c=b*c):a=b:=Int.eq_of_mul_eq_mul_right h e
theorem rg1 {x y t b u v:Int} (c1:x*v=u*y) (e:t*v=u*b):x*b*v=t*y*v:=by grind
theorem rg2 {x y z w t b u v:Int} (c1:x*b=t*y) (c2:z*v=u*w):(x*w+z*y)*(b*v)=(t*v+u*b)*(y*w):=by grind
theorem rg3 {x y z w t b u v:Int} (c1:x*b=t*y) (c2:z*v=u*w):(x*w - z*y)*(b*v)=(t*v - u*b)*(y*w):=by grind
theorem Pu {t b u v:Int} (hb:b≠0) (hv:v≠0) (e:t*v=u*b):low t b=low u v:=by
 have c1:=jf (t:=u) hv
 have p1:=oU (t:=u) hv
 refine sW (x:=(low u v).1) (y:=(low u v).2) hb p1 (Pg hv) ?_
 exact ahN hv (rg1 c1 e)
theorem am0 {t b u v:Int} (hb:b≠0) (hv:v≠0):o8 (low t b) (low u v)=low (t*v+u*b) (b*v):=by
 have c1:=jf (t:=t) hb
 have c2:=jf (t:=u) hv
 have p1:=oU (t:=t) hb
 have p2:=oU (t:=u) hv
 exact Pu (oh (by omega) (by omega)) (oh hb hv) (rg2 c1 c2)
theorem am1 {t b u v:Int} (hb:b≠0) (hv:v≠0):sX (low t b) (low u v)=low (t*v - u*b) (b*v):=by
 have c1:=jf (t:=t) hb
 have c2:=jf (t:=u) hv
 have p1:=oU (t:=t) hb
 have p2:=oU (t:=u) hv
 exact Pu (oh (by omega) (by omega)) (oh hb hv) (rg3 c1 c2)
end Fr
namespace NB
open PySem PySem.Spec L2 DL Fr
mutual
theorem zp:∀ d:D,tU d d=true
 | .non=>rfl
 | .bl b=>by cases b<;>rfl
 | .int i=>by rw [ju];simp
 | .str x=>by rw [ux];simp
 | .lst xs=>by rw [OJ];exact UW xs
 | .tup xs=>by rw [Jc];exact UW xs
 | .dJ _=>rfl
 | .raw _=>rfl
 | .emp=>rfl
 | .key _=>rfl
theorem UW:∀ xs:List D,QZ xs xs=true
 | []=>rfl
 | x::xs=>by rw [rW,zp x,UW xs];rfl
end
theorem ag4 {n:Nat} {xs:List D} (h:∀ d∈xs,okN n d=true):okN (n+1) (.lst xs)=true:=by
 unfold okN
 exact List.all_eq_true.mpr h
theorem mD {n:Nat} {i:Int}:okN n (.int i)=true:=by cases n<;>rfl
theorem U0 {f:Int × Int} {n:Nat}:okN (n+1) (fr f)=true:=by
 show (List.all [D.int f.1,D.int f.2] (okN n))=true
 rw [List.all_cons,List.all_cons,mD,mD]
 rfl
theorem ag5 {fs:List (Int × Int)} {n:Nat}:okN (n+2) (.lst (fs.map fr))=true:=ag4 fun d hd=>by
 obtain ⟨f,_,rfl⟩:=List.mem_map.mp hd
 exact U0
theorem CV {ns:List Int} {n:Nat}:okN (n+2) (.lst (ns.map D.int))=true:=ag4 fun d hd=>by
 obtain ⟨f,_,rfl⟩:=List.mem_map.mp hd
 exact mD
theorem an' {f g:Int × Int}:tU (fr f) (fr g)=decide (f=g):=by
 unfold fr
 rw [Jc,rW,rW,Cu,ju,ju,Bool.and_true]
 by_cases h:f=g
 ·subst h;simp
 ·rw [decide_eq_false h]
  cases f;cases g
  simp at h ⊢
  exact h
end NB
namespace NB
open PySem PySem.Spec L2 DL Fr
def dN:D→Bool
 | .raw _=>false
 | .dJ _=>false
 | .key _=>false
 | _=>true
theorem lQ {n:Nat} {d:D} (h:okN n d=true):dN d=true:=by
 cases d<;>first | rfl | (cases n<;>simp [okN] at h)
theorem iT:∀ {n m:Nat} {d:D},okN n d=true→n≤m→okN m d=true
 | n,m,.non,_,_=>by cases m<;>rfl
 | n,m,.bl _,_,_=>by cases m<;>rfl
 | n,m,.int _,_,_=>by cases m<;>rfl
 | n,m,.str x,h,_=>by cases n<;>cases m<;>exact h
 | 0,m,.lst xs,h,_=>by simp [okN] at h
 | 0,m,.tup xs,h,_=>by simp [okN] at h
 | n+1,0,.lst xs,h,l=>absurd l (by omega)
 | n+1,0,.tup xs,h,l=>absurd l (by omega)
 | n+1,m+1,.lst xs,h,l=>by
  unfold okN at h ⊢
  exact List.all_eq_true.mpr fun x hx=>iT (List.all_eq_true.mp h x hx) (by omega)
 | n+1,m+1,.tup xs,h,l=>by
  unfold okN at h ⊢
  exact List.all_eq_true.mpr fun x hx=>iT (List.all_eq_true.mp h x hx) (by omega)
 | n,m,.dJ _,h,_=>by cases n<;>simp [okN] at h
 | n,m,.key _,h,_=>by cases n<;>simp [okN] at h
 | n,m,.raw _,h,_=>by cases n<;>simp [okN] at h
 | n,m,.emp,h,_=>by cases n<;>simp [okN] at h
def tZ:D→Bool
 | .int _=>true
 | _=>false
def eU (lo hi:Int):D→Bool
 | .int i=>decide (lo≤i) && decide (i≤hi)
 | _=>false
def cP (m lo hi:Int):D→Bool
 | .tup xs=>decide ((xs.length:Int)=m) && xs.all (eU lo hi)
 | _=>false
def qw:Ct:=fun ds μ Q _=>∃ d,ds=[d]∧dN d=true∧Q (.bl (tZ d)) μ
def uD:Ct:=fun ds μ Q _=>∃ d lo hi,ds=[d,.int lo,.int hi]∧dN d=true∧Q (.bl (eU lo hi d)) μ
def alo (d:D):Prop:=dN d=true∧∀ xs,d = .tup xs→xs.length<1000∧∀ x∈xs,okN 40 x=true
def mX:Ct:=fun ds μ Q _=>∃ d m lo hi,ds=[d,.int m,.int lo,.int hi]∧alo d∧Q (.bl (cP m lo hi d)) μ
def aak:D→Bool
 | .tup [a,b]=>tU a b
 | _=>false
def Ge (many:Int) (unlike:Bool) (t:D):Bool:=cP 2 0 (many - 1) t && !(unlike && aak t)
def lH (many:Int) (unlike:Bool):D→Bool
 | .tup xs=>(decide ((1:Int)≤xs.length) && decide ((xs.length:Int)≤16)) && xs.all (Ge many unlike)
 | _=>false
def aoa (d:D):Prop:=dN d=true∧∀ xs,d = .tup xs→xs.length<1000∧∀ x∈xs,alo x
def Ij:Ct:=fun ds μ Q _=>∃ d m u,ds=[d,.int m,.bl u]∧aoa d∧Q (.bl (lH m u d)) μ
abbrev mY:D := .int 16
abbrev yO:D := .int 10
abbrev Bb:D := .int 6
abbrev Bc:D := .int 4
abbrev Ey:D := .int 6
abbrev Bf:D := .int 6
abbrev kh:D := .int 9
abbrev Bg:D := .int 8
abbrev aal:D := .tup [.str (PySem.Str.ofString "way"),.str (PySem.Str.ofString "tree"),.str (PySem.Str.ofString "pair"),.str (PySem.Str.ofString "stream")]
def Rp:bh :=
 (aW (nD (bV (jt "int") (ao (aq 0) (ao (dC (.raw (.ty "int"))) aC))) (Ma (bV (jt "bool") (ao (aq 0) (ao (dC (.raw (.ty "bool"))) aC))))))
def Oa:bh :=
 (aW (nD (dCall qw (ao (aq 0) aC)) (nY Ce Ce (aq 1) (aq 0) (aq 2))))
def Bh:bh :=
 (aJ (bY (jy (eX (fu (bV (jt "tuple") (ao (aq 0) (ao (dC (.raw (.ty "tuple"))) aC))))) (dB (aF lV (bV dX (ao (aq 0) aC)) (aq 1)))) (aW (dC (.bl false))) aX)
  (aW (bV NQ (ao (nH (fO (aq 0)) (bW 4) jB (dCall uD (ao (aq 4) (ao (aq 2) (ao (aq 3) aC)))) [4]) aC))))
def Ik:bh :=
 (aJ (bY (jy (eX (fu (bV (jt "tuple") (ao (aq 0) (ao (dC (.raw (.ty "tuple"))) aC))))) (eX (dB (nY Ce Ce (dC (.int 1)) (bV dX (ao (aq 0) aC)) (dC mY))))) (aW (dC (.bl false))) aX)
  (aJ (j8 (fO (aq 0)) (bW 3) (bY (jy (eX (fu (dCall mX (ao (aq 3) (ao (dC (.int 2)) (ao (dC (.int 0)) (ao (aF (uP fun i j => .int (i - j)) (aq 1) (dC (.int 1))) aC))))))) (sJ (fu (aq 2)) (dB (aF eY (aF aN (aq 3) (dC (.int 0))) (aF aN (aq 3) (dC (.int 1))))))) (aW (dC (.bl false))) aX))
  (aW (dC (.bl true)))))
theorem af6:HB qw Rp 1:=by
 intro ds μ Q X h
 obtain ⟨d,rfl,hp,q⟩:=h
 show Rp (ends Q XF) [some d] μ
 cases d with
 | raw _=>cases hp
 | dJ _=>cases hp
 | key _=>cases hp
 | _ =>
  simp! only [Rp]
  exact .of q
theorem ae0:HB uD Oa 3:=by
 intro ds μ Q X h
 obtain ⟨d,lo,hi,rfl,hp,q⟩:=h
 show Oa (ends Q XF) [some d,some (.int lo),some (.int hi)] μ
 simp! only [Oa]
 refine ⟨d,rfl,hp,?_⟩
 cases d with
 | raw _=>cases hp
 | dJ _=>cases hp
 | key _=>cases hp
 | int i =>
  simp! only [tZ]
  refine HD (fun h1 => ?_) (fun h1 => ?_)
  ·walk_at "r"
   rw [eU,h1] at q
   exact .of q
  ·rw [eU,h1] at q
   exact .of q
 | _ =>
  simp! only [tZ]
  exact .of q
theorem adk:HB mX Bh 5:=by
 intro ds μ Q X h
 obtain ⟨d,m,lo,hi,rfl,⟨hp,hr⟩,q⟩:=h
 show Bh (ends Q XF) [some d,some (.int m),some (.int lo),some (.int hi),none] μ
 cases d with
 | raw _=>cases hp
 | dJ _=>cases hp
 | key _=>cases hp
 | tup xs =>
  obtain ⟨hl,hx⟩:=hr xs rfl
  have sz:16777216≤sizeLine:=by decide
  simp! only [Bh]
  refine ⟨rfl,rfl,nU (fun h1 => ?_) (fun h1 => ?_)⟩
  ·walk_at "r"
   rw [cP,decide_eq_false h1] at q
   exact .of q
  ·walk_at "r"
   rw [cP,decide_eq_true h1,Bool.true_and] at q
   have e0:xs=xs.map id:=(List.map_id xs).symm
   rw [e0]
   refine gH (enc:=id) (g:=fun x => .bl (eU lo hi x)) trivial (by omega) (fun x hx' acc R ha hR => ?_) ?_
   ·simp! only [id]
    exact ⟨x,lo,hi,rfl,lQ (hx x hx'),ha,hR⟩
   ·have e1:(xs.map fun x=>D.bl (eU lo hi x))=(xs.map (eU lo hi)).map D.bl:=by rw [List.map_map];rfl
    rw [e1]
    simp! only [Mh]
    refine .of ?_
    have e2:(xs.map (eU lo hi)).all (fun b=>b)=xs.all (eU lo hi):=by rw [List.all_map];rfl
    rw [e2]
    exact q
 | _ =>
  simp! only [Bh]
  exact .of q
theorem af7 {xs:List D} {p:D→Bool} {ok:M→Prop} {f:qT} {tt:DTT} {te:bZ} {Q:List D→M→Prop} {δ:Sl} {μ:M} (ho:ok μ) (hl:xs.length<sizeLine)
  (st:∀ x∈xs,∀ (acc:List D) (R:List D→M→Prop),acc.length<sizeLine→(p x=true→R (acc++[x]) μ)→(p x=false→R acc μ)→Hq (f μ x) tt te acc R δ μ) (q:Q (xs.filter p) μ):ZJ ok f tt te Q δ xs μ:=by
 refine ⟨fun i acc μ'=>μ'=μ∧acc=(xs.take i).filter p,⟨rfl,by simp⟩,?_⟩
 rintro i acc μ' ⟨rfl,rfl⟩
 refine ⟨ho,fun d hd => ?_,fun hi => ?_⟩
 ·refine st d (List.mem_of_getElem? hd) _ _ ?_ (fun h=>⟨rfl,?_⟩) (fun h=>⟨rfl,?_⟩)
  ·refine Nat.lt_of_le_of_lt (List.length_filter_le _ _) ?_
   rw [List.length_take]
   exact Nat.lt_of_le_of_lt (Nat.min_le_right _ _) hl
  ·rw [take_succ hd,List.filter_append,List.filter_cons_of_pos h,List.filter_nil]
  ·rw [take_succ hd,List.filter_append,List.filter_cons_of_neg (by rw [h];decide),List.filter_nil,List.append_nil]
 ·rw [hi,List.take_length]
  exact q
theorem ahO {xs:List D}:QZ xs []=xs.isEmpty:=by cases xs<;>rfl
theorem alp {lo hi:Int} {t:D} (h:cP 2 lo hi t=true):∃ a b:Int,t = .tup [.int a,.int b]:=by
 cases t with
 | tup xs =>
  rw [cP,Bool.and_eq_true] at h
  have hl:(xs.length:Int)=2:=of_decide_eq_true h.1
  match xs,hl with
  | [x,y],_ =>
   have h2:=h.2
   rw [List.all_cons,List.all_cons,Bool.and_eq_true,Bool.and_eq_true] at h2
   cases x with
   | int a =>
    cases y with
    | int b=>exact ⟨a,b,rfl⟩
    | _=>exact absurd h2.2.1 Bool.false_ne_true
   | _=>exact absurd h2.1 Bool.false_ne_true
  | [],hl=>exact absurd hl (by decide)
  | [_],hl=>simp at hl
  | _::_::_::_,hl=>simp at hl;omega
 | _=>cases h
theorem ae1 {xs:List D} {p:D→Bool} {i:Nat} {d:D} (hd:xs[i]? = some d) (h:(xs.take i).all p=true) (hp:p d=true):(xs.take (i+1)).all p=true:=by
 rw [take_succ hd,List.all_append,h,List.all_cons,hp]
 rfl
theorem all_false {xs:List D} {p:D→Bool} {d:D} (hd:d∈xs) (hp:p d=false):xs.all p=false:=by
 rw [List.all_eq_false]
 exact ⟨d,hd,by rw [hp];decide⟩
theorem af8 : HB Ij Ik 4 := by
 intro ds μ Q X h
 obtain ⟨d,m,u,rfl,⟨hp,hr⟩,q⟩:=h
 show Ik (ends Q XF) [some d,some (.int m),some (.bl u),none] μ
 cases d with
 | raw _=>cases hp
 | dJ _=>cases hp
 | key _=>cases hp
 | tup xs =>
  obtain ⟨hl,hx⟩:=hr xs rfl
  simp! only [Ik]
  have bad:((decide ((1:Int)≤xs.length) && decide ((xs.length:Int)≤16))=false)→Fin Q (.bl false) μ:=fun h=>by
   rw [lH,h] at q
   exact .of q
  refine HD (fun h1 => ?_) (fun h1 => ?_)
  ·walk_at "r"
   refine nU (fun h2 => ?_) (fun h2 => ?_)
   ·walk_at "r"
    exact bad (by rw [h1,decide_eq_false h2];rfl)
   ·walk_at "r"
    rw [lH,h1,decide_eq_true h2,Bool.true_and,Bool.true_and] at q
    refine ⟨fun i δ μ'=>μ'=μ∧(xs.take i).all (Ge m u)=true∧∃ x,δ=[some (.tup xs),some (.int m),some (.bl u),x],⟨rfl,by simp,none,rfl⟩,?_⟩
    rintro i δ μ' ⟨rfl,hall,x,rfl⟩
    refine ⟨trivial,fun t ht => ?_,fun hi => ?_⟩
    ·have hm:=List.mem_of_getElem? ht
     walk_at "r"
     refine ⟨t,2,0,m - 1,rfl,hx t hm,?_⟩
     have no:Ge m u t=false→Fin Q (.bl false) μ':=fun h=>by
      rw [all_false hm h] at q
      exact .of q
     cases hw:cP 2 0 (m - 1) t with
     | false =>
      walk_at "r"
      exact no (by unfold Ge;rw [hw];rfl)
     | true =>
      obtain ⟨a,b,rfl⟩:=alp hw
      walk_at "r"
      cases u with
      | false =>
       walk_at "r"
       exact ⟨ae1 ht hall (by unfold Ge;rw [hw];rfl),_,rfl⟩
      | true =>
       walk_at "r"
       refine ⟨rfl,rfl,fD (fun hab => ?_) (fun hab => ?_)⟩
       ·walk_at "r"
        exact no (by unfold Ge;rw [hw];simp [aak,ju,hab])
       ·walk_at "r"
        exact ⟨ae1 ht hall (by unfold Ge;rw [hw];simp [aak,ju,hab]),_,rfl⟩
    ·rw [hi,List.take_length] at hall
     walk_at "r"
     rw [hall] at q
     exact .of q
  ·walk_at "r"
   exact bad (by rw [h1];rfl)
 | _ =>
  simp! only [Ik]
  exact .of q
def uf:Nat→D→Bool
 | _,.non=>true
 | _,.bl _=>true
 | _,.int _=>true
 | _,.str x=>PyData.strOk x
 | n+1,.lst xs=>decide (xs.length<1000) && xs.all (uf n)
 | n+1,.tup xs=>decide (xs.length<1000) && xs.all (uf n)
 | _,_=>false
theorem jK:∀ {n:Nat} {d:D},uf n d=true→okN n d=true
 | n,.non,_=>by cases n<;>rfl
 | n,.bl _,_=>by cases n<;>rfl
 | n,.int _,_=>by cases n<;>rfl
 | n,.str x,h=>by cases n<;>exact h
 | 0,.lst xs,h=>by simp [uf] at h
 | 0,.tup xs,h=>by simp [uf] at h
 | n+1,.lst xs,h=>by
  unfold uf at h
  unfold okN
  rw [Bool.and_eq_true] at h
  exact List.all_eq_true.mpr fun x hx=>jK (List.all_eq_true.mp h.2 x hx)
 | n+1,.tup xs,h=>by
  unfold uf at h
  unfold okN
  rw [Bool.and_eq_true] at h
  exact List.all_eq_true.mpr fun x hx=>jK (List.all_eq_true.mp h.2 x hx)
 | n,.dJ _,h=>by cases n<;>simp [uf] at h
 | n,.key _,h=>by cases n<;>simp [uf] at h
 | n,.raw _,h=>by cases n<;>simp [uf] at h
 | n,.emp,h=>by cases n<;>simp [uf] at h
theorem wN {n:Nat} {xs:List D} (h:uf (n+1) (.tup xs)=true):xs.length<1000∧∀ x∈xs,uf n x=true:=by
 unfold uf at h
 rw [Bool.and_eq_true] at h
 exact ⟨of_decide_eq_true h.1,List.all_eq_true.mp h.2⟩
theorem JM {n:Nat} {d:D} (h:uf n d=true) (hn:n≤41):alo d:=by
 refine ⟨lQ (jK h),fun xs e => ?_⟩
 subst e
 cases n with
 | zero=>simp [uf] at h
 | succ n =>
  obtain ⟨h1,h2⟩:=wN h
  exact ⟨h1,fun x hx=>iT (jK (h2 x hx)) (by omega)⟩
theorem ae2 {n:Nat} {d:D} (h:uf n d=true) (hn:n≤42):aoa d:=by
 refine ⟨lQ (jK h),fun xs e => ?_⟩
 subst e
 cases n with
 | zero=>simp [uf] at h
 | succ n =>
  obtain ⟨h1,h2⟩:=wN h
  exact ⟨h1,fun x hx=>JM (h2 x hx) (by omega)⟩
def o9 (xs:List D) (i:Nat):D:=xs.getD i .non
def numOf:D→Int
 | .int i=>i
 | _=>0
theorem U3 {xs:List D} {i:Nat} {k:Int} (hk:k=(i:Int)) (h:i<xs.length):atI xs k=some (o9 xs i):=by
 rw [hk,NB.atI_nat,List.getElem?_eq_getElem h]
 unfold o9
 rw [List.getD_eq_getElem?_getD,List.getElem?_eq_getElem h]
 rfl
theorem ab0 {xs:List D} {i:Nat} (h:i<xs.length):o9 xs i∈xs:=by
 unfold o9
 rw [List.getD_eq_getElem?_getD,List.getElem?_eq_getElem h]
 exact List.getElem_mem h
theorem within_int {lo hi:Int} {d:D} (h:eU lo hi d=true):d = .int (numOf d):=by
 cases d with
 | int i=>rfl
 | _=>cases h
def pq (n:Int) (xs:List D):Bool:=decide ((xs.length:Int)=n) && (eU 2 10 (o9 xs 1) && lH (numOf (o9 xs 1)) true (o9 xs 2))
def JN:Ct:=fun ds μ Q _=>∃ xs n,ds=[.tup xs,.int n]∧3≤n∧uf 40 (.tup xs)=true∧Q (.bl (pq n xs)) μ
def Yy:bh :=
 (aJ (bY (jy (dB (aF lV (bV dX (ao (aq 0) aC)) (aq 1))) (eX (fu (dCall uD (ao (aF aN (aq 0) (dC (.int 1))) (ao (dC (.int 2)) (ao (dC yO) aC))))))) (aW (dC (.bl false))) aX)
  (aW (dCall Ij (ao (aF aN (aq 0) (dC (.int 2))) (ao (aF aN (aq 0) (dC (.int 1))) (ao (dC (.bl true)) aC))))))
theorem ajD:HB JN Yy 2:=by
 intro ds μ Q X h
 obtain ⟨xs,n,rfl,hn,hs,q⟩:=h
 show Yy (ends Q XF) [some (.tup xs),some (.int n)] μ
 obtain ⟨_,hsx⟩:=wN hs
 simp! only [Yy]
 refine ⟨rfl,rfl,zG (fun h => ?_) (fun h => ?_)⟩
 ·walk_at "r"
  have h':¬ (xs.length:Int)=n:=by simpa using h
  rw [pq,decide_eq_false h'] at q
  exact .of q
 ·have h':(xs.length:Int)=n:=by simpa using h
  rw [pq,decide_eq_true h',Bool.true_and] at q
  have e1:=U3 (xs:=xs) (i:=1) (k:=1) rfl (by omega)
  have e2:=U3 (xs:=xs) (i:=2) (k:=2) rfl (by omega)
  simp! only [e1,e2]
  refine ⟨_,_,_,rfl,lQ (jK (hsx _ (ab0 (by omega)))),?_⟩
  cases hw:eU 2 10 (o9 xs 1) with
  | false =>
   walk_at "r"
   rw [hw] at q
   exact .of q
  | true =>
   rw [hw,Bool.true_and] at q
   have ei:=within_int hw
   simp! only [e1,e2]
   exact ⟨_,numOf (o9 xs 1),true,by rw [← ei],ae2 (hsx _ (ab0 (by omega))) (by decide),.of q⟩
def U4 (xs:List D):Bool:=pq 5 xs && (cP 2 0 (numOf (o9 xs 1) - 1) (.tup (xs.drop 3)) && !tU (o9 xs 3) (o9 xs 4))
def Yz:Ct:=fun ds μ Q _=>∃ xs,ds=[.tup xs]∧uf 40 (.tup xs)=true∧Q (.bl (U4 xs)) μ
theorem ae3 {n:Int} {xs:List D} (h:pq n xs=true):(xs.length:Int)=n∧o9 xs 1 = .int (numOf (o9 xs 1)):=by
 unfold pq at h
 rw [Bool.and_eq_true,Bool.and_eq_true] at h
 exact ⟨of_decide_eq_true h.1,within_int h.2.1⟩
theorem ajE {xs:List D}:cutD xs (some 3) none=xs.drop 3:=JL (i:=2)
def YB:bh :=
 (aJ (bY (eX (fu (dCall JN (ao (aq 0) (ao (dC (.int 5)) aC))))) (aW (dC (.bl false))) aX)
  (aW (nD (dCall mX (ao (jU (aq 0) (dR (dC (.int 3))) cJ) (ao (dC (.int 2)) (ao (dC (.int 0)) (ao (aF (uP fun i j => .int (i - j)) (aF aN (aq 0) (dC (.int 1))) (dC (.int 1))) aC))))) (aF lV (aF aN (aq 0) (dC (.int 3))) (aF aN (aq 0) (dC (.int 4)))))))
theorem ajF:HB Yz YB 1:=by
 intro ds μ Q X h
 obtain ⟨xs,rfl,hs,q⟩:=h
 show YB (ends Q XF) [some (.tup xs)] μ
 obtain ⟨_,hsx⟩:=wN hs
 simp! only [YB]
 refine ⟨xs,5,rfl,by decide,hs,?_⟩
 cases hw:pq 5 xs with
 | false =>
  walk_at "r"
  rw [U4,hw] at q
  exact .of q
 | true =>
  rw [U4,hw,Bool.true_and] at q
  obtain ⟨hl,e1⟩:=ae3 hw
  have a1:=U3 (xs:=xs) (i:=1) (k:=1) rfl (by omega)
  have a3:=U3 (xs:=xs) (i:=3) (k:=3) rfl (by omega)
  have a4:=U3 (xs:=xs) (i:=4) (k:=4) rfl (by omega)
  rw [e1] at a1
  simp! only [ajE,a1]
  refine ⟨.tup (xs.drop 3),2,0,_,rfl,⟨rfl,fun ys e => ?_⟩,?_⟩
  ·cases e
   exact ⟨by rw [List.length_drop];omega,fun x hx=>iT (jK (hsx x (List.mem_of_mem_drop hx))) (by decide)⟩
  ·cases hr:cP 2 0 (numOf (o9 xs 1) - 1) (.tup (xs.drop 3)) with
   | false =>
    walk_at "r"
    rw [hr] at q
    exact .of q
   | true =>
    rw [hr,Bool.true_and] at q
    simp! only [a3,a4]
    have v:∀ i,i<xs.length→view μ (o9 xs i)=o9 xs i∧okN 64 (o9 xs i)=true:=fun i hi=>by
     have h1:=jK (hsx _ (ab0 hi))
     have h2:=lQ h1
     refine ⟨?_,iT h1 (by decide)⟩
     cases e:o9 xs i with
     | raw _=>rw [e] at h2;cases h2
     | key _=>rw [e] at h2;cases h2
     | _=>rfl
    obtain ⟨v3,o3⟩:=v 3 (by omega)
    obtain ⟨v4,o4⟩:=v 4 (by omega)
    rw [v3,v4]
    exact ⟨o3,o4,.of q⟩
end NB
namespace NB
open PySem PySem.Spec L2 DL Fr
theorem len2 {xs:List D} (h:(xs.length:Int)=2):∃ a b,xs=[a,b]:=by
 match xs,h with
 | [a,b],_=>exact ⟨a,b,rfl⟩
 | [],h=>exact absurd h (by decide)
 | [_],h=>simp at h
 | _::_::_::_,h=>simp at h;omega
theorem aob {xs:List D} (h:(xs.length:Int)=3):∃ a b c,xs=[a,b,c]:=by
 match xs,h with
 | [a,b,c],_=>exact ⟨a,b,c,rfl⟩
 | [],h=>exact absurd h (by decide)
 | [_],h=>simp at h
 | [_,_],h=>simp at h
 | _::_::_::_::_,h=>simp at h;omega
theorem aoc {xs:List D} (h:(xs.length:Int)=5):∃ a b c d e,xs=[a,b,c,d,e]:=by
 match xs,h with
 | [a,b,c,d,e],_=>exact ⟨a,b,c,d,e,rfl⟩
 | [],h=>exact absurd h (by decide)
 | [_],h=>simp at h
 | [_,_],h=>simp at h
 | [_,_,_],h=>simp at h
 | [_,_,_,_],h=>simp at h
 | _::_::_::_::_::_::_,h=>simp at h;omega
theorem U5 {α:Type} {a b c d:α} {xs:List α}:atI (a::b::c::d::xs) 3=some d:=by
 have:=NB.atI_nat (xs:=a::b::c::d::xs) (i:=3)
 simpa using this
theorem YC {α:Type} {a b c d e:α} {xs:List α}:atI (a::b::c::d::e::xs) 4=some e:=by
 have:=NB.atI_nat (xs:=a::b::c::d::e::xs) (i:=4)
 simpa using this
def Il:List D→Bool
 | [_,.int m,t]=>eU 1 6 (.int m) && lH m false t
 | _=>false
def u9:List D→Bool
 | [_,.tup rs,.int w]=>(decide ((1:Int)≤rs.length) && decide ((rs.length:Int)≤4)) && (cP rs.length 0 6 (.tup rs) && (eU 1 6 (.int w) && decide ((rs.length:Int)*w≤16)))
 | _=>false
def sumOf:D→Int
 | .tup xs=>(xs.map numOf).sum
 | _=>0
def zQ:List D→Bool
 | [w,.int m,.tup ts,r,n]=>pq 5 [w,.int m,.tup ts,r,n] && (cP ts.length 1 9 r && (cP m (-9) 9 n && decide (sumOf n=0)))
 | _=>false
def vG:List D→Bool
 | [_,.tup ls]=>(decide ((1:Int)≤ls.length) && decide ((ls.length:Int)≤8)) && cP ls.length 1 9 (.tup ls)
 | _=>false
theorem ajG {xs:List D} (h:¬ (xs.length:Int)=3):Il xs=false:=by
 unfold Il
 split
 ·exact absurd rfl h
 ·rfl
theorem ajH {xs:List D} (h:¬ (xs.length:Int)=3):u9 xs=false:=by
 unfold u9
 split
 ·exact absurd rfl h
 ·rfl
theorem ahP {xs:List D} (h:¬ (xs.length:Int)=2):vG xs=false:=by
 unfold vG
 split
 ·exact absurd rfl h
 ·rfl
def WM:D→List D→Bool
 | .str w,xs=>if w=PySem.Str.ofString "pair" then Il xs else if w=PySem.Str.ofString "deal" then u9 xs else if w=PySem.Str.ofString "bench" then vG xs else false
 | _,_=>false
def kindB:D→List D→Bool
 | .str w,xs=>if w=PySem.Str.ofString "way" then U4 xs else if w=PySem.Str.ofString "tree" then pq 3 xs else if w=PySem.Str.ofString "stream" then zQ xs else WM (.str w) xs
 | _,_=>false
def ug:D→Bool
 | .tup (w::xs)=>kindB w (w::xs)
 | _=>false
def aam (f:List D→Bool):Ct:=fun ds μ Q _=>∃ xs,ds=[.tup xs]∧uf 40 (.tup xs)=true∧Q (.bl (f xs)) μ
def U6:Ct:=aam Il
def U7:Ct:=aam u9
def Oc:Ct:=aam zQ
def Rq:Ct:=aam vG
def Thing (d:D):Prop:=dN d=true∧∀ xs,d = .tup xs→uf 40 (.tup xs)=true
def Rr:Ct:=fun ds μ Q _=>∃ d,ds=[d]∧Thing d∧Q (.bl (ug d)) μ
def U8:bh :=
 (aJ (bY (jy (dB (aF lV (bV dX (ao (aq 0) aC)) (dC (.int 3)))) (eX (fu (dCall uD (ao (aF aN (aq 0) (dC (.int 1))) (ao (dC (.int 1)) (ao (dC Bb) aC))))))) (aW (dC (.bl false))) aX)
  (aW (dCall Ij (ao (aF aN (aq 0) (dC (.int 2))) (ao (aF aN (aq 0) (dC (.int 1))) (ao (dC (.bl false)) aC))))))
def U9:bh :=
 (aJ (bY (jy (dB (aF lV (bV dX (ao (aq 0) aC)) (dC (.int 3)))) (jy (eX (fu (bV (jt "tuple") (ao (aF aN (aq 0) (dC (.int 1))) (ao (dC (.raw (.ty "tuple"))) aC))))) (eX (dB (nY Ce Ce (dC (.int 1)) (bV dX (ao (aF aN (aq 0) (dC (.int 1))) aC)) (dC Bc)))))) (aW (dC (.bl false))) aX)
  (aJ (bY (jy (eX (fu (dCall mX (ao (aF aN (aq 0) (dC (.int 1))) (ao (bV dX (ao (aF aN (aq 0) (dC (.int 1))) aC)) (ao (dC (.int 0)) (ao (dC Ey) aC))))))) (eX (fu (dCall uD (ao (aF aN (aq 0) (dC (.int 2))) (ao (dC (.int 1)) (ao (dC Bf) aC))))))) (aW (dC (.bl false))) aX)
  (aW (aF Ce (aF lW (bV dX (ao (aF aN (aq 0) (dC (.int 1))) aC)) (aF aN (aq 0) (dC (.int 2)))) (dC mY)))))
def Od:bh :=
 (aJ (bY (jy (eX (fu (dCall JN (ao (aq 0) (ao (dC (.int 5)) aC))))) (eX (fu (dCall mX (ao (aF aN (aq 0) (dC (.int 3))) (ao (bV dX (ao (aF aN (aq 0) (dC (.int 2))) aC)) (ao (dC (.int 1)) (ao (dC kh) aC)))))))) (aW (dC (.bl false))) aX)
  (aW (nD (dCall mX (ao (aF aN (aq 0) (dC (.int 4))) (ao (aF aN (aq 0) (dC (.int 1))) (ao (aF (uP fun i j => .int (i - j)) (dC (.int 0)) (dC kh)) (ao (dC kh) aC))))) (aF eY (bV QC (ao (aF aN (aq 0) (dC (.int 4))) aC)) (dC (.int 0))))))
def Ru:bh :=
 (aJ (bY (jy (dB (aF lV (bV dX (ao (aq 0) aC)) (dC (.int 2)))) (jy (eX (fu (bV (jt "tuple") (ao (aF aN (aq 0) (dC (.int 1))) (ao (dC (.raw (.ty "tuple"))) aC))))) (eX (dB (nY Ce Ce (dC (.int 1)) (bV dX (ao (aF aN (aq 0) (dC (.int 1))) aC)) (dC Bg)))))) (aW (dC (.bl false))) aX)
  (aW (dCall mX (ao (aF aN (aq 0) (dC (.int 1))) (ao (bV dX (ao (aF aN (aq 0) (dC (.int 1))) aC)) (ao (dC (.int 1)) (ao (dC kh) aC)))))))
def Im:bh :=
 (aJ (bY (jy (eX (fu (bV (jt "tuple") (ao (aq 0) (ao (dC (.raw (.ty "tuple"))) aC))))) (jy (dB (aF eY (aq 0) (dTup aC))) (eX (fu (bV (jt "str") (ao (aF aN (aq 0) (dC (.int 0))) (ao (dC (.raw (.ty "str"))) aC))))))) (aW (dC (.bl false))) aX)
  (aJ (bY (dB (aF eY (aF aN (aq 0) (dC (.int 0))) (dC (.str (PySem.Str.ofString "way"))))) (aW (dCall Yz (ao (aq 0) aC))) aX)
  (aJ (bY (dB (aF eY (aF aN (aq 0) (dC (.int 0))) (dC (.str (PySem.Str.ofString "tree"))))) (aW (dCall JN (ao (aq 0) (ao (dC (.int 3)) aC)))) aX)
  (aJ (bY (dB (aF eY (aF aN (aq 0) (dC (.int 0))) (dC (.str (PySem.Str.ofString "pair"))))) (aW (dCall U6 (ao (aq 0) aC))) aX)
  (aJ (bY (dB (aF eY (aF aN (aq 0) (dC (.int 0))) (dC (.str (PySem.Str.ofString "deal"))))) (aW (dCall U7 (ao (aq 0) aC))) aX)
  (aJ (bY (dB (aF eY (aF aN (aq 0) (dC (.int 0))) (dC (.str (PySem.Str.ofString "stream"))))) (aW (dCall Oc (ao (aq 0) aC))) aX)
  (aW (nD (aF eY (aF aN (aq 0) (dC (.int 0))) (dC (.str (PySem.Str.ofString "bench")))) (dCall Rq (ao (aq 0) aC))))))))))
def Bj:bh :=
 (aJ (bY (dB (aF (gIn false) (aF aN (aq 0) (dC (.int 0))) (dC aal))) (aW (bV dX (ao (aF aN (aq 0) (dC (.int 2))) aC))) aX)
  (aJ (bY (dB (aF eY (aF aN (aq 0) (dC (.int 0))) (dC (.str (PySem.Str.ofString "deal"))))) (aW (aF lW (bV dX (ao (aF aN (aq 0) (dC (.int 1))) aC)) (aF aN (aq 0) (dC (.int 2))))) aX)
  (aW (bV dX (ao (aF aN (aq 0) (dC (.int 1))) aC)))))
theorem ahQ:HB U6 U8 1:=by
 intro ds μ Q X h
 obtain ⟨xs,rfl,hs,q⟩:=h
 show U8 (ends Q XF) [some (.tup xs)] μ
 obtain ⟨_,hsx⟩:=wN hs
 simp! only [U8]
 refine ⟨rfl,rfl,zG (fun h => ?_) (fun h => ?_)⟩
 ·have h':¬ (xs.length:Int)=3:=by simpa using h
  rw [ajG h'] at q
  walk_at "r"
  exact .of q
 ·have h':(xs.length:Int)=3:=by simpa using h
  obtain ⟨a,b,c,rfl⟩:=aob h'
  have hb:=jK (hsx b (by simp))
  have hc:=hsx c (by simp)
  walk_at "r"
  refine ⟨b,1,6,rfl,lQ hb,?_⟩
  cases b with
  | int m =>
   cases hw:eU 1 6 (.int m) with
   | false =>
    rw [Il,hw] at q
    walk_at "r"
    exact .of q
   | true =>
    rw [Il,hw,Bool.true_and] at q
    walk_at "r"
    exact ⟨c,m,false,rfl,ae2 hc (by decide),.of q⟩
  | _ =>
   simp! only [eU]
   exact .of q
theorem af9:HB Rq Ru 1:=by
 intro ds μ Q X h
 obtain ⟨xs,rfl,hs,q⟩:=h
 show Ru (ends Q XF) [some (.tup xs)] μ
 obtain ⟨_,hsx⟩:=wN hs
 simp! only [Ru]
 refine ⟨rfl,rfl,zG (fun h => ?_) (fun h => ?_)⟩
 ·have h':¬ (xs.length:Int)=2:=by simpa using h
  rw [ahP h'] at q
  walk_at "r"
  exact .of q
 ·have h':(xs.length:Int)=2:=by simpa using h
  obtain ⟨a,b,rfl⟩:=len2 h'
  have hb:=hsx b (by simp)
  have hp:=lQ (jK hb)
  cases b with
  | raw _=>cases hp
  | dJ _=>cases hp
  | key _=>cases hp
  | tup ls =>
   walk_at "r"
   refine HD (fun h1 => ?_) (fun h1 => ?_)
   ·walk_at "r"
    cases h2:decide ((ls.length:Int)≤8) with
    | false =>
     rw [vG,h1,h2] at q
     walk_at "r"
     exact .of q
    | true =>
     rw [vG,h1,h2,Bool.true_and,Bool.true_and] at q
     walk_at "r"
     exact ⟨_,_,_,_,rfl,JM hb (by decide),.of q⟩
   ·rw [vG,h1] at q
    walk_at "r"
    exact .of q
  | _ =>
   walk_at "r"
   exact .of q
theorem ahR : HB U7 U9 1 := by
 intro ds μ Q X h
 obtain ⟨xs,rfl,hs,q⟩:=h
 show U9 (ends Q XF) [some (.tup xs)] μ
 obtain ⟨_,hsx⟩:=wN hs
 simp! only [U9]
 refine ⟨rfl,rfl,zG (fun h => ?_) (fun h => ?_)⟩
 ·have h':¬ (xs.length:Int)=3:=by simpa using h
  rw [ajH h'] at q
  walk_at "r"
  exact .of q
 ·have h' : (xs.length : Int) = 3 := by simpa using h
  obtain ⟨a,b,c,rfl⟩:=aob h'
  have hb:=hsx b (by simp)
  have hc:=lQ (jK (hsx c (by simp)))
  have hp:=lQ (jK hb)
  cases b with
  | raw _=>cases hp
  | dJ _=>cases hp
  | key _=>cases hp
  | tup rs =>
   have bad:∀ {β:Bool},(∀ w,c = .int w→u9 [a,.tup rs,c]=false)→Fin Q (.bl false) μ:=fun hh=>by
    have:u9 [a,.tup rs,c]=false:=by
     cases c with
     | int w=>exact hh w rfl
     | _=>rfl
    rw [this] at q
    exact .of q
   walk_at "r"
   refine HD (fun h1 => ?_) (fun h1 => ?_)
   ·walk_at "r"
    cases h2:decide ((rs.length:Int)≤4) with
    | false =>
     walk_at "r"
     exact bad (β:=true) fun w e=>by subst e;rw [u9,h1,h2];rfl
    | true =>
     walk_at "r"
     refine ⟨_,_,_,_,rfl,JM hb (by decide),?_⟩
     cases h3:cP rs.length 0 6 (.tup rs) with
     | false =>
      walk_at "r"
      exact bad (β:=true) fun w e=>by subst e;rw [u9,h1,h2,h3];rfl
     | true =>
      walk_at "r"
      refine ⟨c,1,6,rfl,hc,?_⟩
      cases c with
      | int w =>
       cases h4:eU 1 6 (.int w) with
       | false =>
        walk_at "r"
        exact bad (β:=true) fun w e=>by cases e;rw [u9,h1,h2,h3,h4];rfl
       | true =>
        rw [u9,h1,h2,h3,h4] at q
        rw [eU,Bool.and_eq_true] at h4
        have l1:(rs.length:Int)≤4:=of_decide_eq_true h2
        have l2:=of_decide_eq_true h4.1
        have l3:=of_decide_eq_true h4.2
        walk_at "r"
        exact ⟨qJ (by omega) (by omega) (by omega) (by omega),.of q⟩
      | _ =>
       simp! only [eU]
       exact .of q
   ·walk_at "r"
    exact bad (β:=true) fun w e=>by subst e;rw [u9,h1];rfl
  | _ =>
   walk_at "r"
   exact .of q
theorem sum_ints {xs:List D} {lo hi m:Int} (h:cP m lo hi (.tup xs)=true):intsOf xs=some (xs.map numOf):=by
 rw [cP,Bool.and_eq_true] at h
 have h2:=h.2
 have e:xs=(xs.map numOf).map D.int:=by
  rw [List.map_map]
  conv=>lhs;rw [← List.map_id xs]
  apply List.map_congr_left
  intro x hx
  exact within_int (List.all_eq_true.mp h2 x hx)
 conv=>lhs;rw [e]
 exact Hl _
theorem ahS {xs:List D} (h:pq 5 xs=true):∃ w m ts r n,xs=[w,.int m,.tup ts,r,n]:=by
 obtain ⟨hl,h1⟩:=ae3 h
 obtain ⟨a,b,c,d,e,rfl⟩:=aoc hl
 have h1':b = .int (numOf b):=h1
 unfold pq at h
 rw [Bool.and_eq_true,Bool.and_eq_true] at h
 have h2:lH (numOf b) true c=true:=h.2.2
 cases c with
 | tup ts=>exact ⟨a,numOf b,ts,d,e,by rw [← h1']⟩
 | _=>cases h2
theorem ahT {xs:List D} (h:pq 5 xs=false):zQ xs=false:=by
 unfold zQ
 split
 ·rw [h];rfl
 ·rfl
theorem ae4:HB Oc Od 1:=by
 intro ds μ Q X h
 obtain ⟨xs,rfl,hs,q⟩:=h
 show Od (ends Q XF) [some (.tup xs)] μ
 obtain ⟨_,hsx⟩:=wN hs
 simp! only [Od]
 refine ⟨xs,5,rfl,by decide,hs,?_⟩
 cases hw:pq 5 xs with
 | false =>
  rw [ahT hw] at q
  walk_at "r"
  exact .of q
 | true =>
  obtain ⟨w,m,ts,r,n,rfl⟩:=ahS hw
  rw [zQ,hw,Bool.true_and] at q
  have hr:=hsx r (by simp)
  have hn:=hsx n (by simp)
  simp! only [U5,YC]
  refine ⟨_,_,_,_,rfl,JM hr (by decide),?_⟩
  cases h1:cP ts.length 1 9 r with
  | false =>
   rw [h1] at q
   walk_at "r"
   exact .of q
  | true =>
   rw [h1,Bool.true_and] at q
   simp! only [U5,YC]
   refine ⟨n,m,-9,9,rfl,JM hn (by decide),?_⟩
   cases h2:cP m (-9) 9 n with
   | false =>
    rw [h2] at q
    walk_at "r"
    exact .of q
   | true =>
    rw [h2,Bool.true_and] at q
    cases n with
    | tup ns =>
     simp! only [U5,YC,sum_ints h2]
     exact ⟨rfl,rfl,.of q⟩
    | _=>cases h2
theorem Va {p:Prop} [Decidable p] {t u:bh} {E:bM} {δ:Sl} {μ:M} (h1:p→t E δ μ) (h2:¬ p→u E δ μ):ifS (decide p) t u E δ μ:=fD h1 h2
theorem af':HB Rr Im 1:=by
 intro ds μ Q X h
 obtain ⟨d,rfl,⟨hp,ht⟩,q⟩:=h
 show Im (ends Q XF) [some d] μ
 cases d with
 | raw _=>cases hp
 | dJ _=>cases hp
 | key _=>cases hp
 | tup xs =>
  have hs:=ht xs rfl
  obtain ⟨_,hsx⟩:=wN hs
  have hok:okN 64 (.tup xs)=true:=iT (jK hs) (by decide)
  simp! only [Im]
  refine ⟨by decide,hok,rfl,?_⟩
  cases xs with
  | nil =>
   simp! only [Cu]
   exact .of q
  | cons w xs =>
   have e0:QZ (w::xs) []=false:=rfl
   have hw:=lQ (jK (hsx w (by simp)))
   cases w with
   | raw _=>cases hw
   | dJ _=>cases hw
   | key _=>cases hw
   | str w =>
    simp! only [e0]
    refine ⟨iT (jK (hsx _ (by simp))) (by decide),by decide +kernel,Va (fun h => ?_) (fun h0 => ?_)⟩
    ·walk_at "r"
     subst h
     exact ⟨_,rfl,hs,.of q⟩
    walk_at "r"
    refine ⟨iT (jK (hsx _ (by simp))) (by decide),by decide +kernel,Va (fun h => ?_) (fun h1 => ?_)⟩
    ·walk_at "r"
     subst h
     exact ⟨_,_,rfl,by decide,hs,.of q⟩
    walk_at "r"
    refine ⟨iT (jK (hsx _ (by simp))) (by decide),by decide +kernel,Va (fun h => ?_) (fun h2 => ?_)⟩
    ·walk_at "r"
     subst h
     exact ⟨_,rfl,hs,.of q⟩
    walk_at "r"
    refine ⟨iT (jK (hsx _ (by simp))) (by decide),by decide +kernel,Va (fun h => ?_) (fun h3 => ?_)⟩
    ·walk_at "r"
     subst h
     exact ⟨_,rfl,hs,.of q⟩
    walk_at "r"
    refine ⟨iT (jK (hsx _ (by simp))) (by decide),by decide +kernel,Va (fun h => ?_) (fun h4 => ?_)⟩
    ·walk_at "r"
     subst h
     exact ⟨_,rfl,hs,.of q⟩
    walk_at "r"
    have e1:ug (.tup (.str w::xs))=if w=PySem.Str.ofString "bench" then vG (.str w::xs) else false:=by
     show kindB (.str w) (.str w::xs)=_
     unfold kindB WM
     dsimp only
     rw [if_neg h0,if_neg h1,if_neg h4,if_neg h2,if_neg h3]
    rw [e1] at q
    refine ⟨iT (jK (hsx _ (by simp))) (by decide),by decide +kernel,Ub (fun h => ?_) (fun h => ?_)⟩
    ·have h':=of_decide_eq_true h
     rw [if_pos h'] at q
     walk_at "r"
     exact ⟨_,rfl,hs,.of q⟩
    ·have h':=of_decide_eq_false h
     rw [if_neg h'] at q
     exact .of q
   | _ =>
    simp! only [e0]
    exact .of q
 | _ =>
  simp! only [Im]
  exact .of q
def aan (d:D) (n:Int):Prop :=
 (∃ w m ts r,d = .tup (.str w::m :: .tup ts::r)∧(w=PySem.Str.ofString "way" ∨ w=PySem.Str.ofString "tree" ∨ w=PySem.Str.ofString "pair" ∨ w=PySem.Str.ofString "stream")∧n=ts.length) ∨
 (∃ rs v,d = .tup [.str (PySem.Str.ofString "deal"),.tup rs,.int v]∧0≤v∧v≤1000∧rs.length≤1000∧n=rs.length*v) ∨
 (∃ ls,d = .tup [.str (PySem.Str.ofString "bench"),.tup ls]∧n=ls.length)
def Io:Ct:=fun ds μ Q _=>∃ d n,ds=[d]∧aan d n∧Q (.int n) μ
theorem alq {w:Str} (h:w=PySem.Str.ofString "way" ∨ w=PySem.Str.ofString "tree" ∨ w=PySem.Str.ofString "pair" ∨ w=PySem.Str.ofString "stream") :
  inD (.str w) [.str (PySem.Str.ofString "way"),.str (PySem.Str.ofString "tree"),.str (PySem.Str.ofString "pair"),.str (PySem.Str.ofString "stream")]=true:=by
 rcases h with h | h | h | h<;>subst h<;>decide +kernel
theorem aga:HB Io Bj 1:=by
 intro ds μ Q X h
 obtain ⟨d,n,rfl,h,q⟩:=h
 show Bj (ends Q XF) [some d] μ
 rcases h with ⟨w,m,ts,r,rfl,hw,rfl⟩ | ⟨rs,v,rfl,h0,h1,h2,rfl⟩ | ⟨ls,rfl,rfl⟩
 ·simp! only [Bj,alq hw,jd]
  exact .of q
 ·have e:inD (.str (PySem.Str.ofString "deal")) [.str (PySem.Str.ofString "way"),.str (PySem.Str.ofString "tree"),.str (PySem.Str.ofString "pair"),.str (PySem.Str.ofString "stream")]=false:=by decide +kernel
  simp! only [Bj,e,jd]
  exact ⟨by decide +kernel,by decide +kernel,qJ (by omega) (by omega) (by omega) (by omega),.of q⟩
 ·have e:inD (.str (PySem.Str.ofString "bench")) [.str (PySem.Str.ofString "way"),.str (PySem.Str.ofString "tree"),.str (PySem.Str.ofString "pair"),.str (PySem.Str.ofString "stream")]=false:=by decide +kernel
  simp! only [Bj,e,jd]
  refine ⟨by decide +kernel,by decide +kernel,fD (fun h=>absurd h (by decide +kernel)) (fun _ => ?_)⟩
  walk_at "r"
  exact .of q
end NB
namespace NB
open PySem PySem.Spec L2 DL Fr
def jg (L:Nat):Nat→D→Bool
 | _,.non=>true
 | _,.bl _=>true
 | _,.int _=>true
 | _,.str x=>PyData.strOk x
 | n+1,.lst xs=>decide (xs.length≤L) && xs.all (jg L n)
 | n+1,.tup xs=>decide (xs.length≤L) && xs.all (jg L n)
 | _,_=>false
theorem aao:∀ {L n:Nat} {d:D},jg L n d=true→L<1000→uf n d=true
 | _,n,.non,_,_=>by cases n<;>rfl
 | _,n,.bl _,_,_=>by cases n<;>rfl
 | _,n,.int _,_,_=>by cases n<;>rfl
 | _,n,.str x,h,_=>by cases n<;>exact h
 | _,0,.lst xs,h,_=>by simp [jg] at h
 | _,0,.tup xs,h,_=>by simp [jg] at h
 | L,n+1,.lst xs,h,l=>by
  unfold jg at h
  unfold uf
  rw [Bool.and_eq_true] at h ⊢
  exact ⟨decide_eq_true (Nat.lt_of_le_of_lt (of_decide_eq_true h.1) l),List.all_eq_true.mpr fun x hx=>aao (List.all_eq_true.mp h.2 x hx) l⟩
 | L,n+1,.tup xs,h,l=>by
  unfold jg at h
  unfold uf
  rw [Bool.and_eq_true] at h ⊢
  exact ⟨decide_eq_true (Nat.lt_of_le_of_lt (of_decide_eq_true h.1) l),List.all_eq_true.mpr fun x hx=>aao (List.all_eq_true.mp h.2 x hx) l⟩
 | _,n,.dJ _,h,_=>by cases n<;>simp [jg] at h
 | _,n,.key _,h,_=>by cases n<;>simp [jg] at h
 | _,n,.raw _,h,_=>by cases n<;>simp [jg] at h
 | _,n,.emp,h,_=>by cases n<;>simp [jg] at h
theorem YD:∀ {L M n m:Nat} {d:D},jg L n d=true→L≤M→n≤m→jg M m d=true
 | _,_,n,m,.non,_,_,_=>by cases m<;>rfl
 | _,_,n,m,.bl _,_,_,_=>by cases m<;>rfl
 | _,_,n,m,.int _,_,_,_=>by cases m<;>rfl
 | _,_,n,m,.str x,h,_,_=>by cases n<;>cases m<;>exact h
 | _,_,0,m,.lst xs,h,_,_=>by simp [jg] at h
 | _,_,0,m,.tup xs,h,_,_=>by simp [jg] at h
 | _,_,n+1,0,_,_,_,l=>absurd l (by omega)
 | L,M,n+1,m+1,.lst xs,h,l,k=>by
  unfold jg at h ⊢
  rw [Bool.and_eq_true] at h ⊢
  exact ⟨decide_eq_true (Nat.le_trans (of_decide_eq_true h.1) l),List.all_eq_true.mpr fun x hx=>YD (List.all_eq_true.mp h.2 x hx) l (by omega)⟩
 | L,M,n+1,m+1,.tup xs,h,l,k=>by
  unfold jg at h ⊢
  rw [Bool.and_eq_true] at h ⊢
  exact ⟨decide_eq_true (Nat.le_trans (of_decide_eq_true h.1) l),List.all_eq_true.mpr fun x hx=>YD (List.all_eq_true.mp h.2 x hx) l (by omega)⟩
 | _,_,n,_,.dJ _,h,_,_=>by cases n<;>simp [jg] at h
 | _,_,n,_,.key _,h,_,_=>by cases n<;>simp [jg] at h
 | _,_,n,_,.raw _,h,_,_=>by cases n<;>simp [jg] at h
 | _,_,n,_,.emp,h,_,_=>by cases n<;>simp [jg] at h
theorem uE {L n:Nat} {xs:List D} (h1:xs.length≤L) (h2:∀ x∈xs,jg L n x=true):jg L (n+1) (.tup xs)=true:=by
 unfold jg
 rw [Bool.and_eq_true]
 exact ⟨decide_eq_true h1,List.all_eq_true.mpr h2⟩
theorem jG {L n:Nat} {i:Int}:jg L n (.int i)=true:=by cases n<;>rfl
theorem aod {L n:Nat} {f:Int × Int} (h:2≤L):jg L (n+1) (fr f)=true:=uE h fun x hx=>by
 simp only [List.mem_cons,List.not_mem_nil,or_false] at hx
 rcases hx with rfl | rfl<;>exact jG
theorem Rv {L n:Nat} {ns:List Int} (h:ns.length≤L):jg L (n+1) (.tup (ns.map D.int))=true:=uE (by rw [List.length_map];exact h) fun x hx=>by
 obtain ⟨i,_,rfl⟩:=List.mem_map.mp hx
 exact jG
theorem Rw {L n:Nat} {F:List ((Int × Int) × Int)} (h:F.length≤L) (h2:2≤L):jg L (n+2) (eE F)=true:=uE (by rw [List.length_map];exact h) fun x hx=>by
 obtain ⟨i,_,rfl⟩:=List.mem_map.mp hx
 exact aod h2
def rZ:Nat→D→Bool
 | _,.bl _=>false
 | n+1,.tup xs=>xs.all (rZ n)
 | _,.int _=>true
 | _,.str _=>true
 | _,_=>false
theorem uF {n:Nat} {i:Int}:rZ n (.int i)=true:=by cases n<;>rfl
theorem Jg {n:Nat} {i:Str}:rZ n (.str i)=true:=by cases n<;>rfl
theorem Rx {n:Nat} {ns:List Int}:rZ (n+1) (.tup (ns.map D.int))=true:=by
 unfold rZ
 refine List.all_eq_true.mpr fun x hx => ?_
 obtain ⟨i,_,rfl⟩:=List.mem_map.mp hx
 exact uF
theorem Ry {n:Nat} {F:List ((Int × Int) × Int)}:rZ (n+2) (eE F)=true:=by
 unfold eE rZ
 refine List.all_eq_true.mpr fun x hx => ?_
 obtain ⟨i,_,rfl⟩:=List.mem_map.mp hx
 show rZ (n+1) (.tup [.int i.1.1,.int i.1.2])=true
 unfold rZ
 rw [List.all_cons,List.all_cons,uF,uF]
 rfl
theorem ab1 {m:Int} {T:List (Int × Int)} (h:Span m T):∀ t∈T,tY m t:=fun t ht=>by
 obtain ⟨i,hi⟩:=List.getElem?_of_mem ht
 have hp:=h.2 i t hi
 have hl:=(List.getElem?_eq_some_iff.mp hi).1
 have:=h.1
 unfold Par at hp
 unfold tY
 omega
theorem Mz {m l:Int} {T:List (Int × Int)} {F:List ((Int × Int) × Int)} (ht:∀ t∈T,tY m t) (h:More m l T F):∀ x∈F,tY m x.1:=fun x hx=>by
 obtain ⟨E,_,h2,h3⟩:=h
 rcases List.mem_append.mp (h3.mem_iff.mp hx) with h | h
 ·obtain ⟨t,k,rfl⟩:=List.mem_map.mp h
  exact ht t k
 ·obtain ⟨t,k,rfl⟩:=List.mem_map.mp h
  exact h2 t k
theorem ab2 {m:Int} {u:Bool} {t:Int × Int} (h0:0≤t.1∧t.1<m∧0≤t.2∧t.2<m) (h1:u=true→t.1≠t.2):Ge m u (fr t)=true:=by
 have e1:cP 2 0 (m - 1) (fr t)=true:=by
  show (decide ((([D.int t.1,D.int t.2]:List D).length:Int)=2) && ([D.int t.1,D.int t.2]:List D).all (eU 0 (m - 1)))=true
  rw [List.all_cons,List.all_cons,List.all_nil,eU,eU,decide_eq_true h0.1,decide_eq_true (show t.1≤m - 1 by omega),decide_eq_true h0.2.2.1,decide_eq_true (show t.2≤m - 1 by omega)]
  rfl
 unfold Ge
 rw [e1,Bool.true_and]
 cases u with
 | false=>rfl
 | true =>
  have:aak (fr t)=false:=by
   show tU (.int t.1) (.int t.2)=false
   rw [ju]
   exact decide_eq_false (h1 rfl)
  rw [this]
  rfl
theorem Ez {m:Int} {u:Bool} {F:List ((Int × Int) × Int)} (h1:1≤F.length) (h2:F.length≤16) (h:∀ x∈F,(0≤x.1.1∧x.1.1<m∧0≤x.1.2∧x.1.2<m)∧(u=true→x.1.1≠x.1.2)):lH m u (eE F)=true:=by
 unfold eE lH
 dsimp only
 rw [List.length_map,decide_eq_true (show (1:Int)≤F.length by omega),decide_eq_true (show (F.length:Int)≤16 by omega),Bool.true_and,Bool.true_and]
 refine List.all_eq_true.mpr fun d hd => ?_
 obtain ⟨x,hx,rfl⟩:=List.mem_map.mp hd
 exact ab2 (h x hx).1 (h x hx).2
theorem within_of {lo hi i:Int} (h1:lo≤i) (h2:i≤hi):eU lo hi (.int i)=true:=by
 rw [eU,decide_eq_true h1,decide_eq_true h2]
 rfl
theorem rH {m lo hi:Int} {ns:List Int} (h:(ns.length:Int)=m) (h2:∀ n∈ns,lo≤n∧n≤hi):cP m lo hi (.tup (ns.map D.int))=true:=by
 rw [cP,List.length_map,decide_eq_true h,Bool.true_and]
 refine List.all_eq_true.mpr fun d hd => ?_
 obtain ⟨x,hx,rfl⟩:=List.mem_map.mp hd
 exact within_of (h2 x hx).1 (h2 x hx).2
theorem sum_set:∀ {ns:List Int} {i:Nat} {v:Int},i<ns.length→(ns.set i v).sum=ns.sum - ns.getD i 0+v
 | [],i,v,h=>by simp at h
 | n::ns,0,v,_=>by simp;omega
 | n::ns,i+1,v,h=>by
  rw [List.set_cons_succ,List.sum_cons,List.sum_cons,sum_set (by simpa using h)]
  simp only [List.getD_cons_succ]
  omega
theorem aoe {ns:List Int} {x:(Int × Int) × Int} (h1:0≤x.1.1∧x.1.1<ns.length) (h2:0≤x.1.2∧x.1.2<ns.length):(fl ns x).sum=ns.sum:=by
 unfold fl
 have k1:x.1.1.toNat<ns.length:=by omega
 have k2:x.1.2.toNat<ns.length:=by omega
 rw [sum_set (by rw [List.length_set];exact k2),sum_set k1]
 omega
theorem getD_mem {ns:List Int} {i:Nat} (h:i<ns.length):ns.getD i 0∈ns:=by
 rw [List.getD_eq_getElem?_getD,List.getElem?_eq_getElem h]
 exact List.getElem_mem h
theorem ao1 {ns:List Int} {x:(Int × Int) × Int} {b:Int} (h1:0≤x.1.1∧x.1.1<ns.length) (h2:0≤x.1.2∧x.1.2<ns.length) (hne:x.1.1≠x.1.2) (hc:0≤x.2∧x.2≤2) (hb:∀ n∈ns,-b≤n∧n≤b):∀ n∈fl ns x,-(b+2)≤n∧n≤b+2:=fun n hn=>by
 have k1:x.1.1.toNat<ns.length:=by omega
 have k2:x.1.2.toNat<ns.length:=by omega
 have b1:=hb _ (getD_mem k1)
 have b2:=hb _ (getD_mem k2)
 unfold fl at hn
 have e:(ns.set x.1.1.toNat (ns.getD x.1.1.toNat 0+x.2)).getD x.1.2.toNat 0=ns.getD x.1.2.toNat 0:=by
  rw [List.getD_eq_getElem?_getD,List.getElem?_set_ne (by omega),← List.getD_eq_getElem?_getD]
 rw [e] at hn
 rcases List.mem_or_eq_of_mem_set hn with h | h
 ·rcases List.mem_or_eq_of_mem_set h with h | h
  ·have:=hb n h
   omega
  ·omega
 ·omega
theorem aap:∀ (zs:List ((Int × Int) × Int)) (ns:List Int) (b:Int),(∀ x∈zs,tY ns.length x.1∧0≤x.2∧x.2≤2)→(∀ n∈ns,-b≤n∧n≤b) →
  (zs.foldl fl ns).length=ns.length∧(zs.foldl fl ns).sum=ns.sum∧∀ n∈zs.foldl fl ns,-(b+2*zs.length)≤n∧n≤b+2*zs.length
 | [],ns,b,_,hb=>⟨rfl,rfl,fun n hn=>by have:=hb n hn;simp;omega⟩
 | x::zs,ns,b,h,hb=>by
  have hx:=h x List.mem_cons_self
  unfold tY at hx
  have i1:=ao1 (b:=b) ⟨hx.1.1,hx.1.2.1⟩ ⟨hx.1.2.2.1,hx.1.2.2.2.1⟩ hx.1.2.2.2.2 hx.2 hb
  have i2:=aap zs (fl ns x) (b+2) (fun y hy=>by rw [aaj];exact h y (List.mem_cons_of_mem _ hy)) i1
  refine ⟨by rw [List.foldl_cons,i2.1,aaj],by rw [List.foldl_cons,i2.2.1,aoe ⟨hx.1.1,hx.1.2.1⟩ ⟨hx.1.2.2.1,hx.1.2.2.2.1⟩],fun n hn => ?_⟩
  have:=i2.2.2 n hn
  rw [List.length_cons]
  omega
theorem am2 {m:Int} {F:List ((Int × Int) × Int)} {rooms cs:List Int} (hm:2≤m) (ht:∀ x∈F,tY m x.1) (hl:F.length≤4) (rl:rooms.length=F.length) (rb:∀ r∈rooms,1≤r∧r≤2) (cl:cs.length=F.length)
  (cb:∀ (i:Nat) (c r:Int),cs[i]? = some c→rooms[i]? = some r→0≤c∧c≤r) :
  ((flow m.toNat (F.map (·.1)) cs).length:Int)=m∧(flow m.toNat (F.map (·.1)) cs).sum=0∧∀ n∈flow m.toNat (F.map (·.1)) cs,-9≤n∧n≤9:=by
 unfold flow
 have hz:∀ x∈(F.map (·.1)).zip cs,tY (List.replicate m.toNat (0:Int)).length x.1∧0≤x.2∧x.2≤2:=fun x hx=>by
  rw [List.length_replicate]
  obtain ⟨i,hi⟩:=List.getElem?_of_mem hx
  obtain ⟨t,c⟩:=x
  rw [List.getElem?_zip_eq_some,List.getElem?_map] at hi
  obtain ⟨h1,h2⟩:=hi
  dsimp only at h1 h2
  obtain ⟨y,hy,rfl⟩:=Option.map_eq_some_iff.mp h1
  have a:=ht y (List.mem_of_getElem? hy)
  have hlt:i<rooms.length:=by rw [rl];exact (List.getElem?_eq_some_iff.mp hy).1
  have b:=cb i c _ h2 (List.getElem?_eq_getElem hlt)
  have d:=rb _ (List.getElem_mem hlt)
  have e:((m.toNat:Nat):Int)=m:=by omega
  rw [e]
  exact ⟨a,b.1,Int.le_trans b.2 d.2⟩
 obtain ⟨a,b,c⟩:=aap ((F.map (·.1)).zip cs) (List.replicate m.toNat 0) 0 hz (fun n hn=>by rw [List.eq_of_mem_replicate hn];decide)
 refine ⟨by rw [a,List.length_replicate];omega,by rw [b];simp,fun n hn => ?_⟩
 have:=c n hn
 have l:((F.map (·.1)).zip cs).length≤4:=by rw [List.length_zip,List.length_map];omega
 omega
structure ajI (s:D) (n:Nat):Prop where
 shape:ug s=true
 items:aan s n
 small:jg 16 3 s=true
 nob:rZ 3 s=true
 tup:∃ w xs,s = .tup (.str w::xs)
theorem ae5 {a b c d e:D} (h1:jg 16 2 a=true) (h2:jg 16 2 b=true) (h3:jg 16 2 c=true) (h4:jg 16 2 d=true) (h5:jg 16 2 e=true):jg 16 3 (.tup [a,b,c,d,e])=true:=uE (by simp) fun x hx=>by
 simp only [List.mem_cons,List.not_mem_nil,or_false] at hx
 rcases hx with rfl | rfl | rfl | rfl | rfl<;>assumption
theorem Vb {a b c:D} (h1:jg 16 2 a=true) (h2:jg 16 2 b=true) (h3:jg 16 2 c=true):jg 16 3 (.tup [a,b,c])=true:=uE (by simp) fun x hx=>by
 simp only [List.mem_cons,List.not_mem_nil,or_false] at hx
 rcases hx with rfl | rfl | rfl<;>assumption
theorem am3 {a b:D} (h1:jg 16 2 a=true) (h2:jg 16 2 b=true):jg 16 3 (.tup [a,b])=true:=uE (by simp) fun x hx=>by
 simp only [List.mem_cons,List.not_mem_nil,or_false] at hx
 rcases hx with rfl | rfl<;>assumption
theorem ae6 {a b c d e:D} (h1:rZ 2 a=true) (h2:rZ 2 b=true) (h3:rZ 2 c=true) (h4:rZ 2 d=true) (h5:rZ 2 e=true):rZ 3 (.tup [a,b,c,d,e])=true:=by
 show ([a,b,c,d,e]:List D).all (rZ 2)=true
 rw [List.all_cons,List.all_cons,List.all_cons,List.all_cons,List.all_cons,h1,h2,h3,h4,h5]
 rfl
theorem Vc {a b c:D} (h1:rZ 2 a=true) (h2:rZ 2 b=true) (h3:rZ 2 c=true):rZ 3 (.tup [a,b,c])=true:=by
 show ([a,b,c]:List D).all (rZ 2)=true
 rw [List.all_cons,List.all_cons,List.all_cons,h1,h2,h3]
 rfl
theorem am4 {a b:D} (h1:rZ 2 a=true) (h2:rZ 2 b=true):rZ 3 (.tup [a,b])=true:=by
 show ([a,b]:List D).all (rZ 2)=true
 rw [List.all_cons,List.all_cons,h1,h2]
 rfl
theorem gY.facts {s:D} {ns:List Int} (h:gY s ns):ajI s ns.length:=by
 cases h with
 | tree hm sp mo =>
  rename_i m T F
  have h1:=sp.1
  have h2:=mo.len
  have ht:=Mz (ab1 sp) mo
  refine ⟨?_,.inl ⟨_,_,F.map (fun x=>fr x.1),[],rfl,.inr (.inl rfl),by rw [List.length_map,List.length_map]⟩,Vb (by decide +kernel) jG (Rw (by omega) (by decide)),Vc Jg uF Ry,_,_,rfl⟩
  show pq 3 [.str (PySem.Str.ofString "tree"),.int m,eE F]=true
  unfold pq
  rw [show o9 [.str (PySem.Str.ofString "tree"),.int m,eE F] 1 = .int m from rfl,show o9 [.str (PySem.Str.ofString "tree"),.int m,eE F] 2=eE F from rfl,within_of (by omega) (by omega),
   Ez (by omega) (by omega) fun x hx=>by have:=ht x hx;unfold tY at this;exact ⟨⟨this.1,this.2.1,this.2.2.1,this.2.2.2.1⟩,fun _=>this.2.2.2.2⟩]
  rfl
 | way hm sp mo hb he ne tr =>
  rename_i m b e T F is
  have h1:=sp.1
  have h2:=mo.len
  have ht:=Mz (ab1 sp) mo
  refine ⟨?_,.inl ⟨_,_,F.map (fun x=>fr x.1),_,rfl,.inl rfl,by rw [pK,List.length_map]⟩,ae5 (by decide +kernel) jG (Rw (by omega) (by decide)) jG jG,ae6 Jg uF Ry uF uF,_,_,rfl⟩
  show U4 [.str (PySem.Str.ofString "way"),.int m,eE F,.int b,.int e]=true
  have hw:pq 5 [.str (PySem.Str.ofString "way"),.int m,eE F,.int b,.int e]=true:=by
   unfold pq
   rw [show o9 [.str (PySem.Str.ofString "way"),.int m,eE F,.int b,.int e] 1 = .int m from rfl,show o9 [.str (PySem.Str.ofString "way"),.int m,eE F,.int b,.int e] 2=eE F from rfl,within_of (by omega) (by omega),
    Ez (by omega) (by omega) fun x hx=>by have:=ht x hx;unfold tY at this;exact ⟨⟨this.1,this.2.1,this.2.2.1,this.2.2.2.1⟩,fun _=>this.2.2.2.2⟩]
   rfl
  unfold U4
  rw [hw,Bool.true_and]
  have e1:cP 2 0 (m - 1) (.tup ([b,e].map D.int))=true:=rH rfl fun n hn=>by
   simp only [List.mem_cons,List.not_mem_nil,or_false] at hn
   rcases hn with rfl | rfl<;>omega
  have e2:cP 2 0 (numOf (o9 [.str (PySem.Str.ofString "way"),.int m,eE F,.int b,.int e] 1) - 1) (.tup (List.drop 3 [.str (PySem.Str.ofString "way"),.int m,eE F,.int b,.int e]))=true:=e1
  rw [e2,Bool.true_and]
  show (!tU (.int b) (.int e))=true
  rw [ju,decide_eq_false ne]
  rfl
 | pair hm hR hE ok pf =>
  rename_i m R E F
  have hl:F.length=m.toNat+E.length:=by
   rw [pf.length_eq,List.length_append,List.length_mapIdx,List.length_map,hR.length_eq,lG]
  have hRm:∀ r∈R,0≤r∧r<m:=fun r hr=>by
   have:=hR.mem_iff.mp hr
   unfold upTo at this
   obtain ⟨i,hi,rfl⟩:=List.mem_map.mp this
   have:=List.mem_range.mp hi
   show (0:Int)≤(i:Int)∧(i:Int)<m
   omega
  have hRl:R.length=m.toNat:=by rw [hR.length_eq,lG]
  refine ⟨?_,.inl ⟨_,_,F.map (fun x=>fr x.1),[],rfl,.inr (.inr (.inl rfl)),by rw [List.length_map,List.length_map]⟩,Vb (by decide +kernel) jG (Rw (by omega) (by decide)),Vc Jg uF Ry,_,_,rfl⟩
  show Il [.str (PySem.Str.ofString "pair"),.int m,eE F]=true
  unfold Il
  dsimp only
  rw [within_of (by omega) (by omega),Ez (by omega) (by omega) fun x hx => ?_]
  ·rfl
  ·refine ⟨?_,fun z=>by cases z⟩
   rcases List.mem_append.mp (pf.mem_iff.mp hx) with h | h
   ·obtain ⟨i,hi⟩:=List.getElem?_of_mem h
    rw [List.getElem?_mapIdx] at hi
    obtain ⟨r,hr,rfl⟩:=Option.map_eq_some_iff.mp hi
    have a:=hRm r (List.mem_of_getElem? hr)
    have b:=(List.getElem?_eq_some_iff.mp hr).1
    show 0≤(i:Int)∧(i:Int)<m∧0≤r∧r<m
    omega
   ·obtain ⟨t,k,rfl⟩:=List.mem_map.mp h
    exact ok t k
 | deal hh hw hwl dl db rl rb =>
  rename_i h w dh rooms
  have hw6:w≤6:=Nat.le_trans (Nat.le_mul_of_pos_left w (by omega)) hwl
  have hrb:∀ r∈rooms,0≤r∧r≤6:=fun r hr=>by
   obtain ⟨i,hi⟩:=List.getElem?_of_mem hr
   have:=rb i r hi
   omega
  have hlen:((List.range h).flatMap fun (i:Nat)=>dh.map fun d=>if d=(i:Int) then (1:Int) else 0).length=h*w:=by
   have:∀ k:Nat,((List.range k).flatMap fun (i:Nat)=>dh.map fun d=>if d=(i:Int) then (1:Int) else 0).length=k*w:=by
    intro k
    induction k with
    | zero=>simp
    | succ k ih=>rw [List.range_succ,List.flatMap_append,List.length_append,ih,List.flatMap_singleton,List.length_map,dl,Nat.succ_mul]
   exact this h
  refine ⟨?_,.inr (.inl ⟨rooms.map D.int,w,rfl,by omega,by omega,by rw [List.length_map];omega,by rw [hlen,List.length_map,rl];exact Int.natCast_mul h w⟩),Vb (by decide +kernel) (Rv (by omega)) jG,Vc Jg Rx uF,_,_,rfl⟩
  show u9 [.str (PySem.Str.ofString "deal"),.tup (rooms.map D.int),.int w]=true
  unfold u9
  dsimp only
  have e:((h*w:Nat):Int)=(h:Int)*w:=Int.natCast_mul h w
  rw [rH (by rw [List.length_map]) hrb,within_of (by omega) (by omega),List.length_map,rl,decide_eq_true (show (1:Int)≤h by omega),decide_eq_true (show (h:Int)≤4 by omega),decide_eq_true (show (h:Int)*w≤16 by omega)]
  rfl
 | stream hm sp mo rl rb cl cb =>
  rename_i m T F rooms
  have h1:=sp.1
  have h2:=mo.len
  rw [List.length_take] at h2
  have ht:=Mz (fun t ht=>ab1 sp t (List.mem_of_mem_take ht)) mo
  obtain ⟨f1,f2,f3⟩:=am2 (by omega) ht (by omega) rl rb cl cb
  refine ⟨?_,.inl ⟨_,_,F.map (fun x=>fr x.1),_,rfl,.inr (.inr (.inr rfl)),by rw [cl,List.length_map]⟩,ae5 (by decide +kernel) jG (Rw (by omega) (by decide)) (Rv (by omega)) (Rv (by omega)),ae6 Jg uF Ry Rx Rx,_,_,rfl⟩
  generalize flow m.toNat (F.map (·.1)) ns=needs at *
  show zQ [.str (PySem.Str.ofString "stream"),.int m,.tup (F.map fun x=>fr x.1),.tup (rooms.map D.int),.tup (needs.map D.int)]=true
  have hw:pq 5 [.str (PySem.Str.ofString "stream"),.int m,.tup (F.map fun x=>fr x.1),.tup (rooms.map D.int),.tup (needs.map D.int)]=true:=by
   unfold pq
   rw [show o9 [.str (PySem.Str.ofString "stream"),.int m,.tup (F.map fun x=>fr x.1),.tup (rooms.map D.int),.tup (needs.map D.int)] 1 = .int m from rfl,show o9 [.str (PySem.Str.ofString "stream"),.int m,.tup (F.map fun x=>fr x.1),.tup (rooms.map D.int),.tup (needs.map D.int)] 2=eE F from rfl,within_of (by omega) (by omega),
    Ez (by omega) (by omega) fun x hx=>by have:=ht x hx;unfold tY at this;exact ⟨⟨this.1,this.2.1,this.2.2.1,this.2.2.2.1⟩,fun _=>this.2.2.2.2⟩]
   rfl
  unfold zQ
  dsimp only
  have e3:sumOf (.tup (needs.map D.int))=0:=by
   show ((needs.map D.int).map numOf).sum=0
   rw [List.map_map,show (numOf ∘ D.int)=id from rfl,List.map_id]
   exact f2
  rw [hw,rH (by rw [List.length_map,rl]) (fun r hr=>⟨(rb r hr).1,by have:=(rb r hr).2;omega⟩),rH f1 f3,decide_eq_true e3]
  rfl
 | bench h1 lb ho =>
  rename_i lasts order
  refine ⟨?_,.inr (.inr ⟨_,rfl,by rw [zP,List.length_replicate,List.length_map]⟩),am3 (by decide +kernel) (Rv (by omega)),am4 Jg Rx,_,_,rfl⟩
  show vG [.str (PySem.Str.ofString "bench"),.tup (lasts.map D.int)]=true
  unfold vG
  dsimp only
  rw [rH (by rw [List.length_map]) (fun r hr=>⟨(lb r hr).1,by have:=(lb r hr).2;omega⟩),List.length_map,decide_eq_true (show (1:Int)≤lasts.length by omega),decide_eq_true (show (lasts.length:Int)≤8 by omega)]
  rfl
theorem ae7 {L n:Nat} {d:D} (h:jg L n d=true) (hL:L<1000) (hn:n≤40):Thing d:=by
 have h1:=aao h hL
 refine ⟨lQ (jK h1),fun xs e => ?_⟩
 subst e
 exact aao (YD h (Nat.le_refl _) hn) hL
end NB
namespace NB
open PySem PySem.Spec L2 DL Fr
abbrev Fc:=Int × Int
def cY:Option Fc→D
 | none => .non
 | some f=>fr f
def fV (b:Option Fc × Option Fc):D := .tup [cY b.1,cY b.2]
def iZ (w:Fc × Fc):D := .tup [fr w.1,fr w.2]
def eV (st:List Int × List Int) (x:(Int × Int) × Nat):List Int × List Int :=
 if (decide (x.1.1∈st.2))=decide (x.1.2∈st.2) then st else (st.1.set x.2 1,st.2++[x.1.1,x.1.2].filter fun p => !decide (p∈st.2))
def jY (F:List (Int × Int)) (st:List Int × List Int) (_:Nat):List Int × List Int:=F.zipIdx.foldl eV st
def grow (F:List (Int × Int)) (n:Nat):List Int × List Int:=(List.range n).foldl (jY F) (List.replicate n 0,[0])
inductive Beside:D × List Int→D × List Int→Prop
 | tree {m b e:Int} {F:List ((Int × Int) × Int)} {ns:List Int}:F.length=ns.length→Beside (.tup [.str (PySem.Str.ofString "way"),.int m,eE F,.int b,.int e],ns) (.tup [.str (PySem.Str.ofString "tree"),.int m,eE F],(grow (F.map (·.1)) ns.length).1)
 | bench {w:Str} {r:List D} {ns:List Int} {x:D × List Int}:w≠PySem.Str.ofString "way" → ns.length≤4→Je ns.length x→Beside (.tup (.str w::r),ns) x
def pA (ws:List (D × List Int)):Prop:=∃ w,gY w.1 w.2∧(ws=[w]∨∃ w2,Beside w w2∧ws.Perm [w,w2])
def zq (w:D × List Int):Bool:=match w.1 with
 | .tup (.str x::_)=>decide (x=PySem.Str.ofString "way")
 | _=>false
structure Rz (walked:Bool) (price:Fc) (b:Option Fc × Option Fc):Prop where
 lo:∀ f,b.1=some f→Ok 20 f∧f.1*price.2≤price.1*f.2
 hi:∀ f,b.2=some f→Ok 20 f∧price.1*f.2≤f.1*price.2
 wk:walked=true→∃ f,b.1=some f∧0≤f.1
 d:(∀ f,b.1=some f→f.2∣12)∧∀ f,b.2=some f→f.2∣12
structure WQ (w:Fc × Fc):Prop where
 dn:Ok 3 w.1
 up:Ok 3 w.2
 dp:0<w.1.1
 pp:0<w.2.1
structure Task where
 prices:List Fc
 wishes:List (D × List Int)
 bounds:List (Option Fc × Option Fc)
 weights:List (Fc × Fc)
 word:Str
def Task.d (t:Task):D := .tup [.lst (t.prices.map fr),.lst (t.wishes.map bR),.lst (t.bounds.map fV),.lst (t.weights.map iZ),.str t.word]
structure Fv (t:Task):Prop where
 ws:pA t.wishes
 pl:∀ w∈t.wishes,w.2.length=t.prices.length
 n1:1≤t.prices.length
 n2:t.prices.length≤16
 pr:∀ f∈t.prices,Ok 9 f
 pw:t.wishes.any zq=true→∀ f∈t.prices,0≤f.1
 bd:Ba (Rz (t.wishes.any zq)) t.prices t.bounds
 wl:t.weights.length=t.prices.length
 wg:∀ w∈t.weights,WQ w
 wd:t.word=PySem.Str.ofString "sum" ∨ t.word=PySem.Str.ofString "greatest"
 pd:∀ f∈t.prices,f.2∣12
def YF:Ct:=fun ds μ Q _=>∃ p:Addr,ds=[.raw (.ref p)]∧dO μ p∧u6 p μ Q pA fun ws => .lst (ws.map bR)
def ab3:Ct:=fun ds μ Q _=>∃ (p:Addr) (f:Fc) (b:Bool),ds=[.raw (.ref p),fr f,.bl b]∧Ok 9 f∧f.2∣12∧(b=true→0≤f.1)∧dO μ p∧u6 p μ Q (Rz b f) fV
def RB:Ct:=fun ds μ Q _=>∃ p:Addr,ds=[.raw (.ref p)]∧dO μ p∧u6 p μ Q WQ iZ
def aaq:Ct:=fun ds μ Q _=>∃ p:Addr,ds=[.raw (.ref p)]∧dO μ p∧u6 p μ Q Fv Task.d
def wO:bh :=
 (aW (dCall qu (ao (aq 0) (ao (Gx (aq 2)) aC))))
def JQ:bh :=
 (aJ (aZ 1 (dCall jX (ao (aq 0) aC)))
  (aJ (aZ 2 (Ab (ao (aq 1) aC)))
  (aJ (aZ 3 (bV dX (ao (aF aN (aq 1) (dC (.int 1))) aC)))
  (aJ (bY (dB (aF eY (dCall cQ (ao (aq 0) (ao (dC (.int 3)) aC))) (dC (.int 0)))) (bY (dB (aF eY (aF aN (aF aN (aq 1) (dC (.int 0))) (dC (.int 0))) (dC (.str (PySem.Str.ofString "way"))))) (aJ (aZ 4 (aF yC (d7 (ao (dC (.int 0)) aC)) (aq 3)))
  (aJ (aZ 5 (d7 (ao (dC (.int 0)) aC)))
  (aJ (j8 (lO (ao (aq 3) aC)) (bW 6) (j8 (Af (ao (aF aN (aF aN (aq 1) (dC (.int 0))) (dC (.int 2))) aC)) (j9 (bF (bW 7) (bF (bW 8) fH))) (bY (dB (aF lV (aF (gIn false) (aF aN (aq 8) (dC (.int 0))) (aq 5)) (aF (gIn false) (aF aN (aq 8) (dC (.int 1))) (aq 5)))) (aJ (qd (dC (.int 1)) (aq 4) (aq 7))
  (aZ 5 (aF cD (aq 5) (nH (fO (aq 8)) (bW 9) (dB (aF (gIn true) (aq 9) (aq 5))) (aq 9) [9])))) aX)))
  (gJ (dM nJ (aq 2) (ao (dTup (ao (dTup (ao (dC (.str (PySem.Str.ofString "tree"))) (ao (aF aN (aF aN (aq 1) (dC (.int 0))) (dC (.int 1))) (ao (aF aN (aF aN (aq 1) (dC (.int 0))) (dC (.int 2))) aC)))) (ao (Gx (aq 4)) aC))) aC)))))) (bY (dB (aF LQ (aq 3) (dC (.int 5)))) (gJ (dM nJ (aq 2) (ao (dCall Av (ao (aq 0) (ao (aq 3) aC))) aC))) aX)) aX)
  wO))))
def Gf:bh :=
 (aW (dTup (ao (aq 5) (ao (aq 6) aC))))
def Gg:bh :=
 (aJ (bY (dB (aF (lD true) (aq 4) (dC .non))) (aZ 6 (dCall Ux (ao (aq 1) (ao (aq 4) aC)))) aX)
  Gf)
def yP:bh :=
 (aJ (bY (sJ (fu (aq 2)) (jy (dB (aF (lD false) (aq 5) (dC .non))) (dB (aF LQ (aF aN (aq 5) (dC (.int 0))) (dC (.int 0)))))) (aZ 5 (dTup (ao (dC (.int 0)) (ao (dC (.int 1)) aC)))) aX)
  Gg)
def Oe:bh :=
 (aJ (aZ 3 (aF aN (d7 (ao (dC .non) (ao (dTup (ao (dC (.int 0)) (ao (dC (.int 1)) aC))) (ao (dCall sY (ao (aq 0) aC)) (ao (dCall sY (ao (aq 0) aC)) aC))))) (dCall cQ (ao (aq 0) (ao (dC (.int 4)) aC)))))
  (aJ (aZ 4 (aF aN (d7 (ao (dC .non) (ao (dC .non) (ao (dTup (ao (dC (.int 0)) (ao (dC (.int 1)) aC))) (ao (dCall sY (ao (aq 0) aC)) aC))))) (dCall cQ (ao (aq 0) (ao (dC (.int 4)) aC)))))
  (aJ (aZ 5 (dC .non))
  (aJ (aZ 6 (dC .non))
  (aJ (bY (dB (aF (lD true) (aq 3) (dC .non))) (aZ 5 (dCall Pj (ao (aq 1) (ao (aq 3) aC)))) aX)
  yP)))))
def JR:bh :=
 (aJ (aZ 1 (d7 (ao (dTup (ao (dC (.int 1)) (ao (dC (.int 1)) aC))) (ao (dTup (ao (dC (.int 1)) (ao (dC (.int 1)) aC))) (ao (dTup (ao (dC (.int 2)) (ao (dC (.int 1)) aC))) (ao (dTup (ao (dC (.int 1)) (ao (dC (.int 2)) aC))) (ao (dTup (ao (dC (.int 3)) (ao (dC (.int 1)) aC))) (ao (dTup (ao (dC (.int 2)) (ao (dC (.int 3)) aC))) aC))))))))
  (aJ (aZ 2 (aF aN (aq 1) (dCall cQ (ao (aq 0) (ao (dC (.int 6)) aC)))))
  (aW (dTup (ao (aq 2) (ao (aF aN (aq 1) (dCall cQ (ao (aq 0) (ao (dC (.int 6)) aC)))) aC))))))
def JT:bh :=
 (aJ (aZ 7 (nH (fO (aq 4)) (bW 11) jB (dCall RB (ao (aq 0) aC)) [11]))
  (aW (dTup (ao (aq 4) (ao (aq 1) (ao (aq 6) (ao (aq 7) (ao (aF aN (d7 (ao (dC (.str (PySem.Str.ofString "sum"))) (ao (dC (.str (PySem.Str.ofString "greatest"))) aC))) (dCall cQ (ao (aq 0) (ao (dC (.int 2)) aC)))) aC))))))))
def JV:bh :=
 (aJ (aZ 5 (dCall cQ (ao (aq 0) (ao (dC (.int 3)) aC))))
  (aJ (aZ 6 (nH (fO (aq 4)) (bW 11) jB (dCall ab3 (ao (aq 0) (ao (aq 11) (ao (aq 3) aC)))) [11]))
  (aJ (bY (dB (aF eY (aq 5) (dC (.int 0)))) (aZ 6 (nH (fO (aq 4)) (bW 11) jB (dTup (ao (aF aN (d7 (ao (dC .non) (ao (dTup (ao (dC (.int 0)) (ao (dC (.int 1)) aC))) aC))) (bV Ui (ao (aq 3) aC))) (ao (dC .non) aC))) [11])) aX)
  JT)))
def RD:bh :=
 (aJ (aZ 1 (dCall YF (ao (aq 0) aC)))
  (aJ (aZ 2 (bV dX (ao (aF aN (aF aN (aq 1) (dC (.int 0))) (dC (.int 1))) aC)))
  (aJ (aZ 3 (aF (gIn false) (dC (.str (PySem.Str.ofString "way"))) (nH (fO (aq 1)) (j9 (bF (bW 8) (bF (bW 9) fH))) jB (aF aN (aq 8) (dC (.int 0))) [8,9])))
  (aJ (aZ 4 (nH (lO (ao (aq 2) aC)) (bW 10) jB (dCall sY (ao (aq 0) aC)) [10]))
  (aJ (bY (sJ (eX (fu (aq 3))) (dB (aF eY (dCall cQ (ao (aq 0) (ao (dC (.int 2)) aC))) (dC (.int 0))))) (aZ 4 (nH (fO (aq 4)) (bW 11) jB (dCall Pj (ao (aq 11) (ao (dTup (ao (dC (.int 4)) (ao (dC (.int 1)) aC))) aC))) [11])) aX)
  JV)))))
theorem adl:HB RB JR 3:=by
 intro ds μ Q X h
 obtain ⟨p,rfl,hp,q⟩:=h
 show JR (ends Q XF) [some (.raw (.ref p)),none,none] μ
 have e:∀ r:Int,0≤r→r<6→∃ f:Fc,atI [D.tup [D.int 1,D.int 1],D.tup [D.int 1,D.int 1],D.tup [D.int 2,D.int 1],D.tup [D.int 1,D.int 2],D.tup [D.int 3,D.int 1],D.tup [D.int 2,D.int 3]] r=some (fr f)∧Ok 3 f∧0<f.1:=fun r h0 h1=>by
  obtain ⟨x,ex,hx⟩:=mW (xs:=[D.tup [D.int 1,D.int 1],D.tup [D.int 1,D.int 1],D.tup [D.int 2,D.int 1],D.tup [D.int 1,D.int 2],D.tup [D.int 3,D.int 1],D.tup [D.int 2,D.int 3]]) h0 (by show r<6;exact h1)
  rw [ex]
  have hr:r.toNat=0∨r.toNat=1∨r.toNat=2∨r.toNat=3∨r.toNat=4∨r.toNat=5:=by omega
  rcases hr with e | e | e | e | e | e<;>rw [e] at hx<;>cases hx
  ·exact ⟨(1,1),rfl,⟨by decide,by decide,by decide,by decide⟩,by decide⟩
  ·exact ⟨(1,1),rfl,⟨by decide,by decide,by decide,by decide⟩,by decide⟩
  ·exact ⟨(2,1),rfl,⟨by decide,by decide,by decide,by decide⟩,by decide⟩
  ·exact ⟨(1,2),rfl,⟨by decide,by decide,by decide,by decide⟩,by decide⟩
  ·exact ⟨(3,1),rfl,⟨by decide,by decide,by decide,by decide⟩,by decide⟩
  ·exact ⟨(2,3),rfl,⟨by decide,by decide,by decide,by decide⟩,by decide⟩
 simp! only [JR]
 (repeat (refine And.intro ?cjx ?_;(case cjx=>first | decide | omega | assumption | (refine ⟨?_,?_,?_,?_⟩<;>first | decide | (simp;done)) | (simp;done))))
 refine ⟨p,_,rfl,hp,by decide,by decide,fun r μ1 a1 b1 h1 o1 => ?_⟩
 obtain ⟨f,ef,hf,hf0⟩:=e r a1 b1
 simp! only [ef]
 refine ⟨p,_,rfl,h1,by decide,by decide,fun r2 μ2 a2 b2 h2 o2 => ?_⟩
 obtain ⟨g,eg,hg,hg0⟩:=e r2 a2 b2
 simp! only [eg]
 exact ⟨by decide,.of (q (f,g) μ2 ⟨hf,hg,hf0,hg0⟩ h2 (o1.trans o2))⟩
theorem ajJ {n m:Nat} {f g:Fc} (h:Ok n f) (k:Ok m g):Ok (n+m+1) (sX f g):=by
 refine Ph (oh h.ne k.ne) ?_ (Cz (mul_lt h.bb k.bb) (by omega))
 exact sub_lt (mul_lt h.tb k.bb) (by have:=mul_lt k.tb h.bb;rwa [Nat.add_comm] at this)
theorem aar {n:Nat} {f:Fc} (h:Ok n f):0<f.2:=by have:=h.pos;omega
theorem ao2 {a b c d x y:Int} (h:x*(b*d)=(a*d - c*b)*y) (hc:0≤c) (hb:0<b) (hd:0<d) (hy:0<y):x*b≤a*y:=by
 have h1:x*b*d≤a*y*d:=by
  have e1:x*b*d=x*(b*d):=by rw [Int.mul_assoc]
  have e2:(a*d - c*b)*y=a*y*d - c*b*y:=by rw [Int.sub_mul];congr 1;rw [Int.mul_right_comm]
  rw [e1,h,e2]
  have:0≤c*b*y:=Int.mul_nonneg (Int.mul_nonneg hc (by omega)) (by omega)
  omega
 exact Int.le_of_mul_le_mul_right h1 hd
theorem ao3 {a b c d x y:Int} (h:x*(b*d)=(a*d+c*b)*y) (hc:0≤c) (hb:0<b) (hd:0<d) (hy:0<y):a*y≤x*b:=by
 have h1:a*y*d≤x*b*d:=by
  have e1:x*b*d=x*(b*d):=by rw [Int.mul_assoc]
  have e2:(a*d+c*b)*y=a*y*d+c*b*y:=by rw [Int.add_mul];congr 1;rw [Int.mul_right_comm]
  rw [e1,h,e2]
  have:0≤c*b*y:=Int.mul_nonneg (Int.mul_nonneg hc (by omega)) (by omega)
  omega
 exact Int.le_of_mul_le_mul_right h1 hd
theorem sub_le {n m:Nat} {f g:Fc} (h:Ok n f) (k:Ok m g) (hg:0≤g.1):(sX f g).1*f.2≤f.1*(sX f g).2 :=
 ao2 (jf (oh h.ne k.ne)) hg (aar h) (aar k) (by have:=oU (t:=f.1*g.2 - g.1*f.2) (oh h.ne k.ne);show 0<(low _ _).2;omega)
theorem aof {n m:Nat} {f g:Fc} (h:Ok n f) (k:Ok m g) (hg:0≤g.1):f.1*(o8 f g).2≤(o8 f g).1*f.2 :=
 ao3 (jf (oh h.ne k.ne)) hg (aar h) (aar k) (by have:=oU (t:=f.1*g.2+g.1*f.2) (oh h.ne k.ne);show 0<(low _ _).2;omega)
theorem WR:Ok 1 ((0,1):Fc):=ajA
theorem ahU {neg:Bool} {f:Fc} {μ:M} {Q:QD}:lD neg (fr f) .non μ Q=Q (.bl (neg ^^ false)) μ:=rfl
theorem adV {n:Nat} {f:Fc} (h:Ok n f) (d:f.2∣12):∃ m,f=low m 12:=by
 obtain ⟨c,e⟩:=d
 have hp:=h.pos
 exact ⟨f.1*c,(sW (by decide) hp h.cop (by rw [e,Int.mul_comm f.2 c,Int.mul_assoc])).symm⟩
theorem WT {t b:Int} (h:b≠0):(low t b).2≠0:=by have:=oU (t:=t) h;omega
theorem ajK {n m:Nat} {f g:Fc} (h:Ok n f) (d:f.2∣12) (k:Ok m g) (e:g.2∣12):(sX f g).2∣12:=by
 obtain ⟨x,rfl⟩:=adV h d
 obtain ⟨y,rfl⟩:=adV k e
 have:sX (low x 12) (low y 12)=low (x - y) 12:=by
  refine Pu (oh (WT (by decide)) (WT (by decide))) (by decide) ?_
  have e1:=jf (t:=x) (b:=12) (by decide)
  have e2:=jf (t:=y) (b:=12) (by decide)
  grind
 rw [this]
 exact abZ (by decide)
theorem aog {n m:Nat} {f g:Fc} (h:Ok n f) (d:f.2∣12) (k:Ok m g) (e:g.2∣12):(o8 f g).2∣12:=by
 obtain ⟨x,rfl⟩:=adV h d
 obtain ⟨y,rfl⟩:=adV k e
 have:o8 (low x 12) (low y 12)=low (x+y) 12:=by
  refine Pu (oh (WT (by decide)) (WT (by decide))) (by decide) ?_
  have e1:=jf (t:=x) (b:=12) (by decide)
  have e2:=jf (t:=y) (b:=12) (by decide)
  grind
 rw [this]
 exact abZ (by decide)
theorem ae8:HB ab3 Oe 7:=by
 intro ds μ Q X h
 obtain ⟨p,f,b,rfl,hf,hd,hb,hp,q⟩:=h
 show Oe (ends Q XF) [some (.raw (.ref p)),some (fr f),some (.bl b),none,none,none,none] μ
 have opt:∀ (g h:Fc) (r:Int),N6 g→N6 h→0≤r→r<4→∃ o:Option Fc,atI [D.non,D.tup [D.int 0,D.int 1],fr g,fr h] r=some (cY o)∧∀ k,o=some k→N6 k:=fun g h r hg hh r0 r4=>by
  obtain ⟨x,ex,hx⟩:=mW (xs:=[D.non,D.tup [D.int 0,D.int 1],fr g,fr h]) r0 (by show r<4;exact r4)
  rw [ex]
  have hr:r.toNat=0∨r.toNat=1∨r.toNat=2∨r.toNat=3:=by omega
  rcases hr with e | e | e | e<;>rw [e] at hx<;>cases hx
  ·exact ⟨none,rfl,fun k hk=>by cases hk⟩
  ·exact ⟨some (0,1),rfl,fun k hk=>by cases hk;exact ⟨WR.mono (by decide),by decide,by decide⟩⟩
  ·exact ⟨some g,rfl,fun k hk=>by cases hk;exact hg⟩
  ·exact ⟨some h,rfl,fun k hk=>by cases hk;exact hh⟩
 have aqf:∀ (h:Fc) (r:Int),N6 h→0≤r→r<4→∃ o:Option Fc,atI [D.non,D.non,D.tup [D.int 0,D.int 1],fr h] r=some (cY o)∧∀ k,o=some k→N6 k:=fun h r hh r0 r4=>by
  obtain ⟨x,ex,hx⟩:=mW (xs:=[D.non,D.non,D.tup [D.int 0,D.int 1],fr h]) r0 (by show r<4;exact r4)
  rw [ex]
  have hr:r.toNat=0∨r.toNat=1∨r.toNat=2∨r.toNat=3:=by omega
  rcases hr with e | e | e | e<;>rw [e] at hx<;>cases hx
  ·exact ⟨none,rfl,fun k hk=>by cases hk⟩
  ·exact ⟨none,rfl,fun k hk=>by cases hk⟩
  ·exact ⟨some (0,1),rfl,fun k hk=>by cases hk;exact ⟨WR.mono (by decide),by decide,by decide⟩⟩
  ·exact ⟨some h,rfl,fun k hk=>by cases hk;exact hh⟩
 simp! only [Oe]
 refine ⟨by decide,p,rfl,hp,fun g1 μ1 hg1 h1 o1 => ?_⟩
 walk_at "r"
 refine ⟨p,rfl,h1,fun g2 μ2 hg2 h2 o2 => ?_⟩
 walk_at "r"
 refine ⟨by decide,p,_,rfl,h2,by decide,by decide,fun r μ3 a3 b3 h3 o3 => ?_⟩
 obtain ⟨dn,edn,hdn⟩:=opt g1 g2 r hg1 hg2 a3 b3
 simp! only [edn]
 refine ⟨by decide,p,rfl,h3,fun g3 μ4 hg3 h4 o4 => ?_⟩
 walk_at "r"
 refine ⟨by decide,p,_,rfl,h4,by decide,by decide,fun r2 μ5 a5 b5 h5 o5 => ?_⟩
 obtain ⟨up,eup,hup⟩:=aqf g3 r2 hg3 a5 b5
 have oo:=(((o1.trans o2).trans o3).trans o4).trans o5
 have aqg:∀ k,dn=some k→(Ok 20 (sX f k)∧(sX f k).1*f.2≤f.1*(sX f k).2)∧(sX f k).2∣12:=fun k e=>⟨⟨(ajJ hf (hdn k e).1).mono (by decide),sub_le hf (hdn k e).1 (hdn k e).2⟩,ajK hf hd (hdn k e).1 (hdn k e).3⟩
 have aoh:∀ k,up=some k→(Ok 20 (o8 f k)∧f.1*(o8 f k).2≤(o8 f k).1*f.2)∧(o8 f k).2∣12:=fun k e=>⟨⟨(an9 hf (hup k e).1).mono (by decide),aof hf (hup k e).1 (hup k e).2⟩,aog hf hd (hup k e).1 (hup k e).3⟩
 have ret:∀ (lo hi:Option Fc),Rz b f (lo,hi)→Gf (ends Q XF) [some (.raw (.ref p)),some (fr f),some (.bl b),some (cY dn),some (cY up),some (cY lo),some (cY hi)] μ5:=fun lo hi hh=>by
  simp! only [Gf]
  exact ⟨by decide,.of (q (lo,hi) μ5 hh h5 oo)⟩
 have fin:∀ lo:Option Fc,(∀ k,lo=some k→(Ok 20 k∧k.1*f.2≤f.1*k.2)∧k.2∣12)→(b=true→∃ k,lo=some k∧0≤k.1) →
   Gg (ends Q XF) [some (.raw (.ref p)),some (fr f),some (.bl b),some (cY dn),some (cY up),some (cY lo),some .non] μ5:=fun lo hlo hw=>by
  cases up with
  | none=>exact ret lo none ⟨(fun k e=>(hlo k e).1),(fun k e=>by cases e),hw,(fun k e=>(hlo k e).2),(fun k e=>by cases e)⟩
  | some k =>
   have r2:=ret lo (some (o8 f k)) ⟨(fun k e=>(hlo k e).1),(fun j e=>by cases e;exact (aoh k rfl).1),hw,(fun k e=>(hlo k e).2),(fun j e=>by cases e;exact (aoh k rfl).2)⟩
   simp! only [Gg,cY,ahU]
   exact ⟨f,k,rfl,Ok.sz hf (by decide),Ok.sz (hup k rfl).1 (by decide),r2⟩
 have mid:∀ lo:Option Fc,(∀ k,lo=some k→(Ok 20 k∧k.1*f.2≤f.1*k.2)∧k.2∣12) →
   yP (ends Q XF) [some (.raw (.ref p)),some (fr f),some (.bl b),some (cY dn),some (cY up),some (cY lo),some .non] μ5:=fun lo hlo=>by
  cases b with
  | false=>exact fin lo hlo fun z=>by cases z
  | true =>
   have f0:=hb rfl
   have z1:=fin (some (0,1)) (fun k e=>by cases e;exact ⟨⟨WR.mono (by decide),by show 0*f.2≤f.1*1;omega⟩,by decide⟩) (fun _=>⟨_,rfl,by decide⟩)
   cases lo with
   | none =>
    simp! only [yP,cY]
    exact ⟨by decide,z1⟩
   | some k =>
    obtain ⟨k1,k2⟩:=k
    have z2:=fun h=>fin (some (k1,k2)) hlo (fun _=>⟨_,rfl,h⟩)
    simp! only [yP,cY,ahU,fr]
    refine fD (fun h => ?_) (fun h => ?_)
    ·walk_at "r"
     exact ⟨by decide,z1⟩
    ·exact z2 (by show 0≤k1;omega)
 simp! only [eup]
 cases dn with
 | none=>exact mid none fun k e=>by cases e
 | some k =>
  have r2:=mid (some (sX f k)) fun j e=>by cases e;exact aqg k rfl
  simp! only [cY,ahU]
  exact ⟨f,k,rfl,Ok.sz hf (by decide),Ok.sz (hdn k rfl).1 (by decide),r2⟩
theorem RG {a:Int} {ns:List Int}:inD (.int a) (ns.map D.int)=decide (a∈ns):=by
 unfold inD
 rw [List.any_map]
 by_cases h:a∈ns
 ·rw [decide_eq_true h]
  exact List.any_eq_true.mpr ⟨a,h,by show tU (.int a) (.int a)=true;rw [ju];simp⟩
 ·rw [decide_eq_false h,List.any_eq_false]
  intro x hx
  show ¬ tU (.int x) (.int a)=true
  rw [ju]
  simp
  intro e
  rw [e] at hx
  exact h hx
theorem MF {ns:List Int}:(ns.map D.int).all jd=true:=by
 rw [List.all_map]
 exact List.all_eq_true.mpr fun x _=>rfl
theorem Vd:∀ (xs:List ((Int × Int) × Nat)) (st:List Int × List Int),(xs.foldl eV st).1.length=st.1.length∧(xs.foldl eV st).2.length≤st.2.length+2*xs.length
 | [],st=>⟨rfl,by simp⟩
 | x :: xs, st => by
  have h:=Vd xs (eV st x)
  have k:(eV st x).1.length=st.1.length∧(eV st x).2.length≤st.2.length+2:=by
   unfold eV
   split
   ·exact ⟨rfl,by omega⟩
   ·refine ⟨by rw [List.length_set],?_⟩
    rw [List.length_append]
    have:=List.length_filter_le (fun p => !decide (p∈st.2)) [x.1.1,x.1.2]
    simp only [List.length_cons,List.length_nil] at this
    omega
  rw [List.foldl_cons,List.length_cons]
  omega
theorem MJ {F:List (Int × Int)}:∀ (xs:List Nat) (st:List Int × List Int),(xs.foldl (jY F) st).1.length=st.1.length∧(xs.foldl (jY F) st).2.length≤st.2.length+2*F.length*xs.length
 | [],st=>⟨rfl,by simp⟩
 | x::xs,st=>by
  have h:=MJ (F:=F) xs (jY F st x)
  have k:=Vd F.zipIdx st
  rw [List.length_zipIdx] at k
  have k':(jY F st x).1.length=st.1.length∧(jY F st x).2.length≤st.2.length+2*F.length:=k
  rw [List.foldl_cons,List.length_cons,Nat.mul_add]
  omega
theorem gY.aoi {s:D} {ns:List Int} (h:gY s ns):(∃ m b e F,s = .tup [.str (PySem.Str.ofString "way"),.int m,eE F,.int b,.int e]∧F.length=ns.length∧F.length≤7) ∨
  (∃ w r,s = .tup (.str w::r)∧PyData.strOk w=true∧w≠PySem.Str.ofString "way"):=by
 cases h with
 | way hm sp mo hb he ne tr =>
  rename_i m b e T F is
  have h1:=sp.1
  have h2:=mo.len
  exact .inl ⟨m,b,e,F,rfl,by rw [pK],by omega⟩
 | tree=>exact .inr ⟨_,_,rfl,by decide +kernel,by decide +kernel⟩
 | pair=>exact .inr ⟨_,_,rfl,by decide +kernel,by decide +kernel⟩
 | deal=>exact .inr ⟨_,_,rfl,by decide +kernel,by decide +kernel⟩
 | stream=>exact .inr ⟨_,_,rfl,by decide +kernel,by decide +kernel⟩
 | bench=>exact .inr ⟨_,_,rfl,by decide +kernel,by decide +kernel⟩
theorem adn : HB YF JQ 10 := by
 intro ds μ Q X h
 obtain ⟨p,rfl,hp,q⟩:=h
 show JQ (ends Q XF) [some (.raw (.ref p)),none,none,none,none,none,none,none,none,none] μ
 have sz:16777216≤sizeLine:=by decide
 simp! only [JQ]
 refine ⟨p,rfl,hp,fun w μ1 hw h1 o1 => ?_⟩
 obtain ⟨sh,ns⟩:=w
 have hc1:1≤ns.length:=(gY.UL hw).ne
 have hc2:ns.length≤16:=(gY.UL hw).le
 have hw':gY sh ns:=hw
 simp! only [bR]
 refine ⟨by decide,fun c hc => ?_⟩
 have hne:=uz h1 hc
 walk_at "r"
 refine ⟨p,_,rfl,fY hne h1,by decide,by decide,fun r μ2 a2 b2 h2 o2 => ?_⟩
 have hc2':μ2 c=some (.lst [bR (sh,ns)]):=mj o2 hne aP
 have ho2:jC μ μ2 p c:=(jC.new o1).step o2
 have hcm:μ c=none:=(o1 c hne).symm.trans hc
 have fin:∀ (ws:List (D × List Int)) (μ':M) x4 x5 x6 x7 x8,dO μ' p→μ' c=some (.lst (ws.map bR))→jC μ μ' p c→ws.length≤2→(∀ vs:List (D × List Int),vs.Perm ws→pA vs) →
   wO (ends Q XF) [some (.raw (.ref p)),some (bR (sh,ns)),some (.raw (.ref c)),some (.int ns.length),x4,x5,x6,x7,x8,none] μ':=fun ws μ' x4 x5 x6 x7 x8 hp' hc' ho' hl hok=>by
  simp! only [wO]
  refine ⟨_,hc',p,_,rfl,qL hne hp',by rw [List.length_map];omega,fun ys μ3 hys h3 o3 => ?_⟩
  obtain ⟨vs,rfl,hv⟩:=CP hys
  exact .of (q vs μ3 (hok vs hv) h3 ((ho'.del hcm).trans o3))
 have one:∀ (μ':M) x4 x5 x6 x7 x8,dO μ' p→μ' c=some (.lst [bR (sh,ns)])→jC μ μ' p c→wO (ends Q XF) [some (.raw (.ref p)),some (bR (sh,ns)),some (.raw (.ref c)),some (.int ns.length),x4,x5,x6,x7,x8,none] μ':=fun μ' x4 x5 x6 x7 x8 h1 h2 h3 =>
  fin [(sh,ns)] μ' x4 x5 x6 x7 x8 h1 h2 h3 (by simp) fun vs hv=>⟨(sh,ns),hw,.inl (List.perm_singleton.mp hv)⟩
 rw [List.length_map]
 walk_at "r"
 refine ⟨rfl,rfl,fD (fun hr => ?_) (fun hr=>one _ _ _ _ _ _ h2 hc2' ho2)⟩
 rcases hw'.aoi with ⟨m,b,e,F,rfl,hFl,hF7⟩ | ⟨w,rr,rfl,hwo,hww⟩
 ·walk_at "r"
  refine ⟨by decide +kernel,by decide +kernel,?_⟩
  refine ⟨by decide,⟨by omega,by omega,by show 1*(ns.length:Int).toNat≤sizeLine;omega⟩,fun c2 ahV => ?_⟩
  have alr:c2≠p:=uz h2 ahV
  have aqh:c2≠c:=fun z=>by rw [z,hc2'] at ahV;cases ahV
  have ahW:c≠c2:=fun z=>aqh z.symm
  have e0:(List.replicate (ns.length:Int).toNat [D.int 0]).flatten=(List.replicate ns.length (0:Int)).map D.int:=by rw [List.flatten_replicate_singleton,List.map_replicate,Int.toNat_natCast]
  rw [e0]
  walk_at "r"
  refine ⟨by decide,⟨by omega,by omega⟩,?_⟩
  rw [Int.toNat_natCast,HY]
  have hz:∀ q,q≠p→q≠c→q≠c2→(cC μ2 c2 (.lst ((List.replicate ns.length (0:Int)).map D.int))) q=μ q:=fun q h1 h2 h3=>by rw [bL h3];exact ho2 q h1 h2
  generalize hμ3:cC μ2 c2 (.lst ((List.replicate ns.length (0:Int)).map D.int))=μ3 at *
  have g3:dO μ3 p:=by rw [← hμ3];exact fY alr h2
  have g3c:μ3 c=some (.lst [bR (.tup [.str (PySem.Str.ofString "way"),.int m,eE F,.int b,.int e],ns)]):=by rw [← hμ3,bL ahW];exact hc2'
  have aqC:μ3 c2=some (.lst ((List.replicate ns.length (0:Int)).map D.int)):=by rw [← hμ3,aP]
  refine aeC (jY (F.map (·.1))) (List.replicate ns.length 0,[0]) (fun st δ μ'=>∃ x6 x7 x8,δ=[some (.raw (.ref p)),some (bR (.tup [.str (PySem.Str.ofString "way"),.int m,eE F,.int b,.int e],ns)),some (.raw (.ref c)),some (.int ns.length),some (.raw (.ref c2)),some (.lst (st.2.map D.int)),x6,x7,x8,none] ∧
   μ'=cC μ3 c2 (.lst (st.1.map D.int))) ⟨_,_,_,rfl,by rw [← hμ3,Cg]⟩ (fun _ _ _ _=>trivial) ?_ ?_
  ·rintro pre x post st δ μ' hpre hst ⟨x6,x7,x8,rfl,rfl⟩
   have b1:=MJ (F:=F.map (·.1)) pre (List.replicate ns.length 0,[0])
   rw [← hst,List.length_map,List.length_replicate] at b1
   have hpl:pre.length≤16:=by
    have:=congrArg List.length hpre
    rw [List.length_range,List.length_append] at this
    omega
   have b2:st.2.length≤1+14*16:=by
    have h1:2*F.length*pre.length≤14*16:=Nat.mul_le_mul (by omega) hpl
    have h2:=b1.2
    simp only [List.length_cons,List.length_nil] at h2
    omega
   simp! only [bR,eE]
   have ee:yx 0 (F.map fun x=>fr x.1)=(F.map (·.1)).zipIdx.map fun p => .tup [.int ((p.2:Nat):Int),fr p.1]:=by
    rw [show (F.map fun x=>fr x.1)=(F.map (·.1)).map fr by rw [List.map_map];rfl,Yi]
   rw [ee]
   refine aeC eV st (fun st δ μ'=>∃ x7 x8,δ=[some (.raw (.ref p)),some (bR (.tup [.str (PySem.Str.ofString "way"),.int m,eE F,.int b,.int e],ns)),some (.raw (.ref c)),some (.int ns.length),some (.raw (.ref c2)),some (.lst (st.2.map D.int)),some (.int (x:Int)),x7,x8,none] ∧
    μ'=cC μ3 c2 (.lst (st.1.map D.int))) ⟨_,_,rfl,rfl⟩ (fun _ _ _ _=>trivial) ?_ ?_
   ·rintro pre2 ⟨⟨t1,t2⟩,i⟩ post2 st2 δ μ' Bl hst2 ⟨x7,x8,rfl,rfl⟩
    have k1:=Vd pre2 st
    rw [← hst2] at k1
    have hi:i<ns.length∧pre2.length≤7:=by
     have hl:=congrArg List.length Bl
     rw [List.length_zipIdx,List.length_map,List.length_append,List.length_cons] at hl
     have hm:((t1,t2),i)∈(F.map (·.1)).zipIdx:=by rw [Bl];simp
     have:=List.mem_zipIdx hm
     rw [List.length_map] at this
     omega
    have hl2:st2.2.length≤1000:=by omega
    simp! only [fr,RG,jd,MF]
    refine ⟨rfl,rfl,?_⟩
    by_cases hh:decide (t1∈st2.2)=decide (t2∈st2.2)
    ·have e1:eV st2 ((t1,t2),i)=st2:=by unfold eV;exact if_pos hh
     rw [e1,hh]
     walk_at "r"
     exact ⟨_,_,rfl⟩
    ·have e1:eV st2 ((t1,t2),i)=(st2.1.set i 1,st2.2++[t1,t2].filter fun p => !decide (p∈st2.2)):=by unfold eV;exact if_neg hh
     rw [e1]
     refine aef (fun _ => ?_) (fun z=>absurd z (by simpa using hh))
     walk_at "r"
     refine ⟨_,aP,?_⟩
     have hs1:st2.1.length=ns.length:=by rw [k1.1,b1.1]
     rw [List.length_map,ixN_nat (by omega)]
     simp! only [fr]
     rw [Cg,← List.map_set]
     refine af7 (p:=fun d=>match d with | .int a => !decide (a∈st2.2) | _=>false) trivial (by show 2<sizeLine;omega) (fun x hx acc R ha h1 h2 => ?_) ?_
     ·simp only [List.mem_cons,List.not_mem_nil,or_false] at hx
      rcases hx with rfl | rfl
      ·simp! only [RG,jd,MF]
       exact QF (fun h=>⟨ha,h1 h⟩) (fun h=>h2 h)
      ·simp! only [RG,jd,MF]
       exact QF (fun h=>⟨ha,h1 h⟩) (fun h=>h2 h)
     ·have e2:([D.int t1,D.int t2].filter fun d=>match d with | .int a => !decide (a∈st2.2) | _=>false)=([t1,t2].filter fun p => !decide (p∈st2.2)).map D.int:=by
       rw [List.filter_cons,List.filter_cons,List.filter_nil,List.filter_cons,List.filter_cons,List.filter_nil]
       dsimp only
       split<;>split<;>rfl
      rw [e2]
      have e3:=List.length_filter_le (fun p => !decide (p∈st2.2)) [t1,t2]
      simp only [List.length_cons,List.length_nil] at e3
      walk_at "r"
      rw [← List.map_append]
      exact ⟨by rw [List.length_map,List.length_map];omega,_,_,rfl⟩
   ·rintro δ μ' ⟨x7,x8,rfl,rfl⟩
    exact ⟨_,_,_,rfl,rfl⟩
  ·rintro δ μ' ⟨x6,x7,x8,rfl,rfl⟩
   have hg:(List.range ns.length).foldl (jY (F.map (·.1))) (List.replicate ns.length 0,[0])=grow (F.map (·.1)) ns.length:=rfl
   rw [hg]
   generalize hG:grow (F.map (·.1)) ns.length=G at *
   simp! only [bR]
   have u1:cC μ3 c2 (.lst (G.1.map D.int)) c=some (.lst [bR (.tup [.str (PySem.Str.ofString "way"),.int m,eE F,.int b,.int e],ns)]):=by rw [bL ahW];exact g3c
   have pd:dO (vA (cC μ3 c2 (.lst (G.1.map D.int))) c2) p:=qL alr (fY alr g3)
   have u2:vA (cC μ3 c2 (.lst (G.1.map D.int))) c2 c=some (.lst [bR (.tup [.str (PySem.Str.ofString "way"),.int m,eE F,.int b,.int e],ns)]):=by
    unfold vA
    rw [if_neg ahW]
    exact u1
   refine ⟨o7 u1,by decide,_,aP,by decide,_,u2,by show 1<sizeLine;omega,?_⟩
   refine fin [(.tup [.str (PySem.Str.ofString "way"),.int m,eE F,.int b,.int e],ns),(.tup [.str (PySem.Str.ofString "tree"),.int m,eE F],G.1)] _ _ _ _ _ _ (fY hne pd) aP ?_ (by simp) fun vs hv=>⟨_,hw,.inr ⟨_,?_,hv⟩⟩
   ·intro z h1 h2
    rw [bL h2]
    unfold vA
    split
    ·rename_i e
     subst e
     have:=ho2 z h1 h2
     rw [ahV] at this
     exact this
    ·rename_i e
     rw [bL e]
     exact hz z h1 h2 e
   ·exact hG ▸ .tree hFl
 ·have hwq:tU (.str w) (.str (PySem.Str.ofString "way"))=false:=by rw [ux];exact decide_eq_false hww
  walk_at "r"
  refine ⟨hwo,by decide +kernel,fD (fun z=>absurd z hww) (fun _ => ?_)⟩
  walk_at "r"
  refine fD (fun h5 => ?_) (fun _=>one _ _ _ _ _ _ h2 hc2' ho2)
  walk_at "r"
  refine ⟨o7 hc2',p,_,rfl,by omega,by omega,h2,fun x μ3 hx h3 o3 => ?_⟩
  walk_at "r"
  refine ⟨_,mj o3 hne hc2',by show 1<sizeLine;omega,?_⟩
  exact fin [(.tup (.str w::rr),ns),x] _ _ _ _ _ _ (fY hne h3) aP (ho2.step o3).put (by simp) fun vs hv=>⟨_,hw,.inr ⟨_,.bench hww (by omega) hx,hv⟩⟩
theorem Beside.len {w w2:D × List Int} (h:Beside w w2):w2.2.length=w.2.length:=by
 cases h with
 | tree h =>
  rename_i m b e F ns
  show (grow (F.map (·.1)) ns.length).1.length=ns.length
  unfold grow
  rw [(MJ (F:=F.map (·.1)) _ _).1,List.length_replicate]
 | bench _ _ h =>
  obtain ⟨lasts,order,rfl,_,_,_,e⟩:=h
  dsimp only
  rw [zP,List.length_replicate]
  omega
theorem Beside.head {w w2:D × List Int} (h:Beside w w2):∃ x r,w2.1 = .tup (.str x::r):=by
 cases h with
 | tree h=>exact ⟨_,_,rfl⟩
 | bench _ _ h =>
  obtain ⟨ls,e⟩:=h.hd
  exact ⟨_,_,e⟩
structure am5 (ws:List (D × List Int)) (n:Nat):Prop where
 n1:1≤n
 n2:n≤16
 ne:ws≠[]
 l2:ws.length≤2
 len:∀ w∈ws,w.2.length=n
 head:∀ w∈ws,∃ x r,w.1 = .tup (.str x::r)
theorem pA.facts {ws:List (D × List Int)} (h:pA ws):∃ n,am5 ws n:=by
 obtain ⟨w,hw,h⟩:=h
 have hc:=gY.UL hw
 have hh:∃ x r,w.1 = .tup (.str x::r):=(gY.facts hw).tup
 refine ⟨w.2.length,hc.ne,hc.le,?_,?_,?_,?_⟩
 ·rcases h with rfl | ⟨w2,_,hp⟩
  ·simp
  ·intro e
   rw [e] at hp
   exact absurd hp.length_eq (by simp)
 ·rcases h with rfl | ⟨w2,_,hp⟩
  ·simp
  ·rw [hp.length_eq];simp
 ·intro v hv
  rcases h with rfl | ⟨w2,hb,hp⟩
  ·rw [List.mem_singleton.mp hv]
  ·have:=hp.mem_iff.mp hv
   simp only [List.mem_cons,List.not_mem_nil,or_false] at this
   rcases this with rfl | rfl
   ·rfl
   ·exact hb.len
 ·intro v hv
  rcases h with rfl | ⟨w2,hb,hp⟩
  ·rw [List.mem_singleton.mp hv];exact hh
  ·have:=hp.mem_iff.mp hv
   simp only [List.mem_cons,List.not_mem_nil,or_false] at this
   rcases this with rfl | rfl
   ·exact hh
   ·exact hb.head
def WW (w:D × List Int):Str:=match w.1 with
 | .tup (.str x::_)=>x
 | _=>PySem.Str.ofString ""
theorem in_words:∀ {ws:List (D × List Int)},(∀ w∈ws,∃ x r,w.1 = .tup (.str x::r))→inD (.str (PySem.Str.ofString "way")) (ws.map fun w=>D.str (WW w))=ws.any zq
 | [],_=>rfl
 | w::ws,h=>by
  have ih:=in_words (ws:=ws) fun v hv=>h v (List.mem_cons_of_mem _ hv)
  obtain ⟨x,r,e⟩:=h w List.mem_cons_self
  unfold inD at ih ⊢
  rw [List.map_cons,List.any_cons,List.any_cons,ih,ux]
  unfold WW zq
  rw [e]
theorem ahX {ws:List (D × List Int)}:(ws.map fun w=>D.str (WW w)).all jd=true:=by
 rw [List.all_map]
 exact List.all_eq_true.mpr fun x _=>rfl
theorem agb:HB aaq RD 12:=by
 intro ds μ Q X h
 obtain ⟨p,rfl,hp,q⟩:=h
 show RD (ends Q XF) [some (.raw (.ref p)),none,none,none,none,none,none,none,none,none,none,none] μ
 have sz:16777216≤sizeLine:=by decide
 simp! only [RD]
 refine ⟨p,rfl,hp,fun ws μ1 hws h1 o1 => ?_⟩
 obtain ⟨n,hf⟩:=hws.facts
 have n1:=hf.n1
 have n2:=hf.n2
 obtain ⟨w0,hw0,at0⟩:∃ w0,w0∈ws∧atI (ws.map bR) 0=some (bR w0):=by
  cases ws with
  | nil=>exact absurd rfl hf.ne
  | cons a b=>exact ⟨a,List.mem_cons_self,JC⟩
 have e0:((w0.2.length:Nat):Int)=n:=by rw [hf.len w0 hw0]
 simp! only [at0,bR]
 rw [List.length_map,e0]
 refine gH (xs:=ws) (enc:=bR) (g:=fun w => .str (WW w)) trivial (by have:=hf.l2;omega) (fun w hw acc R ha hR => ?_) ?_
 ·obtain ⟨x,r,e⟩:=hf.head w hw
  have e2:WW w=x:=by unfold WW;rw [e]
  rw [e2] at hR
  simp! only [bR,e]
  exact ⟨ha,hR⟩
 simp! only [in_words hf.head,ahX,jd]
 generalize hW:ws.any zq=W at *
 refine ⟨⟨by omega,by omega⟩,?_⟩
 rw [Int.toNat_natCast,HY]
 refine rY (xs:=List.range n) (enc:=fun i:Nat=>D.int (i:Int)) (p:=p) (P:=fun _ f=>N6 f) (g:=fr) (fun _ _=>trivial) h1 (by rw [List.length_range];omega) (fun x hx acc R μ' hp' o' ha hR => ?_) (fun fs μ2 hfs h2 o2 => ?_)
 ·walk_at "r"
  exact ⟨p,rfl,hp',fun f μ3 hf h3 o3=>⟨ha,hR f μ3 hf h3 o3⟩⟩
 have hfl:fs.length=n:=by rw [hfs.1,List.length_range]
 have hfo:∀ f∈fs,N6 f:=fun f hf=>(hfs.mem hf).elim fun _ z=>z.2
 have o12:=o1.trans o2
 have aoj:∀ (fs:List Fc) (bs:List (Option Fc × Option Fc)) (x5:Option D) (μ':M),fs.length=n→(∀ f∈fs,Ok 9 f∧f.2∣12)→(W=true→∀ f∈fs,0≤f.1)→Ba (Rz W) fs bs→dO μ' p→nM μ μ' p →
   JT (ends Q XF) [some (.raw (.ref p)),some (.lst (ws.map bR)),some (.int n),some (.bl W),some (.lst (fs.map fr)),x5,some (.lst (bs.map fV)),none,none,none,none,none] μ':=fun fs bs x5 μ' hl hk hk2 hb hp' ho'=>by
  simp! only [JT]
  refine rY (xs:=fs) (enc:=fr) (p:=p) (P:=fun _ w=>WQ w) (g:=iZ) (fun _ _=>trivial) hp' (by omega) (fun x hx acc R μ' hp' o' ha hR => ?_) (fun gs μ4 hgs h4 o4 => ?_)
  ·walk_at "r"
   exact ⟨p,rfl,hp',fun f μ3 hf h3 o3=>⟨ha,hR f μ3 hf h3 o3⟩⟩
  walk_at "r"
  refine ⟨by decide,p,_,rfl,h4,by decide,by decide,fun r μ5 a5 b5 h5 o5 => ?_⟩
  obtain ⟨x,ex,hx⟩:=mW (xs:=[D.str (PySem.Str.ofString "sum"),D.str (PySem.Str.ofString "greatest")]) a5 (by show r<2;exact b5)
  obtain ⟨wd,rfl,hwd⟩:∃ wd,x = .str wd∧(wd=PySem.Str.ofString "sum" ∨ wd=PySem.Str.ofString "greatest"):=by
   have hr:r.toNat=0∨r.toNat=1:=by omega
   rcases hr with e | e<;>rw [e] at hx<;>cases hx
   ·exact ⟨_,rfl,.inl rfl⟩
   ·exact ⟨_,rfl,.inr rfl⟩
  simp! only [ex]
  refine ⟨by decide,.of (q ⟨fs,ws,bs,gs,wd⟩ μ5 ⟨hws,fun w hw=>by rw [hf.len w hw];exact hl.symm,by show 1≤fs.length;omega,by show fs.length≤16;omega,(fun f h=>(hk f h).1),fun z=>hk2 (hW ▸ z),by show Ba (Rz (ws.any zq)) fs bs;rw [hW];exact hb,by show gs.length=fs.length;exact hgs.1,fun w hw=>(hgs.mem hw).elim fun _ z=>z.2,hwd,(fun f h=>(hk f h).2)⟩ h5 ((ho'.trans o4).trans o5))⟩
 have als:∀ (fs:List Fc) (μ':M),fs.length=n→(∀ f∈fs,Ok 9 f∧f.2∣12)→(W=true→∀ f∈fs,0≤f.1)→dO μ' p→nM μ μ' p →
   JV (ends Q XF) [some (.raw (.ref p)),some (.lst (ws.map bR)),some (.int n),some (.bl W),some (.lst (fs.map fr)),none,none,none,none,none,none,none] μ':=fun fs μ' hl hk hk2 hp' ho'=>by
  simp! only [JV]
  refine ⟨p,_,rfl,hp',by decide,by decide,fun r μ3 a3 b3 h3 o3 => ?_⟩
  walk_at "r"
  refine rY (xs:=fs) (enc:=fr) (p:=p) (P:=Rz W) (g:=fV) (fun _ _=>trivial) h3 (by omega) (fun x hx acc R μ' hp' o' ha hR => ?_) (fun bs μ4 hbs h4 o4 => ?_)
  ·walk_at "r"
   exact ⟨p,x,W,rfl,(hk x hx).1,(hk x hx).2,fun z=>hk2 z x hx,hp',fun f μ3 hf h3 o3=>⟨ha,hR f μ3 hf h3 o3⟩⟩
  have o34:=(ho'.trans o3).trans o4
  walk_at "r"
  refine ⟨rfl,rfl,fD (fun _ => ?_) (fun _=>aoj fs bs _ μ4 hl hk hk2 hbs h4 o34)⟩
  walk_at "r"
  have z:∀ f∈fs,Rz W f ((if W then some (0,1) else none:Option Fc),none):=fun f hf=>by
   cases W with
   | false=>exact ⟨(fun k e=>by cases e),(fun k e=>by cases e),(fun e=>by cases e),(fun k e=>by cases e),(fun k e=>by cases e)⟩
   | true=>exact ⟨(fun k e=>by cases e;exact ⟨WR.mono (by decide),by have:=hk2 rfl f hf;show 0*f.2≤f.1*1;omega⟩),(fun k e=>by cases e),(fun _=>⟨_,rfl,by decide⟩),(fun k e=>by cases e;exact by decide),(fun k e=>by cases e)⟩
  refine gH (enc:=fr) (g:=fun _=>fV ((if W then some (0,1) else none:Option Fc),none)) trivial (by omega) (fun x hx acc R ha hR => ?_) ?_
  ·cases W with
   | false =>
    walk_at "r"
    exact ⟨by decide,by decide,by decide,ha,hR⟩
   | true =>
    walk_at "r"
    exact ⟨by decide,by decide,by decide,ha,hR⟩
  walk_at "r"
  have e5:(fs.map fun _=>fV ((if W then some (0,1) else none:Option Fc),none))=(fs.map fun _=>((if W then some (0,1) else none:Option Fc),(none:Option Fc))).map fV:=by rw [List.map_map];rfl
  rw [e5]
  refine aoj fs _ _ μ4 hl hk hk2 ⟨by rw [List.length_map],fun i x y h1 h2 => ?_⟩ h4 o34
  rw [List.getElem?_map] at h2
  obtain ⟨f,_,rfl⟩:=Option.map_eq_some_iff.mp h2
  exact z x (List.mem_of_getElem? h1)
 cases W with
 | true =>
  exact als fs μ2 hfl (fun f hf=>⟨(hfo f hf).1.mono (by decide),(hfo f hf).3⟩) (fun _ f hf=>(hfo f hf).2) h2 o12
 | false =>
  walk_at "r"
  refine ⟨p,_,rfl,h2,by decide,by decide,fun r μ3 a3 b3 h3 o3 => ?_⟩
  walk_at "r"
  refine ⟨rfl,rfl,fD (fun _ => ?_) (fun _=>als fs μ3 hfl (fun f hf=>⟨(hfo f hf).1.mono (by decide),(hfo f hf).3⟩) (fun z=>by cases z) h3 (o12.trans o3))⟩
  walk_at "r"
  have ok4:Ok 3 ((4,1):Fc):=⟨by decide,by decide,by decide,by decide⟩
  refine gH (enc:=fr) (g:=fun f=>fr (sX f (4,1))) trivial (by omega) (fun f hf acc R ha hR => ?_) ?_
  ·walk_at "r"
   exact ⟨by decide,f,(4,1),rfl,Ok.sz (hfo f hf).1 (by decide),Ok.sz ok4 (by decide),ha,hR⟩
  walk_at "r"
  have e5:(fs.map fun f=>fr (sX f (4,1)))=(fs.map fun f=>sX f (4,1)).map fr:=by rw [List.map_map];rfl
  rw [e5]
  refine als _ μ3 (by rw [List.length_map];exact hfl) (fun f hf => ?_) (fun z=>by cases z) h3 (o12.trans o3)
  obtain ⟨g,hg,rfl⟩:=List.mem_map.mp hf
  exact ⟨ajJ (hfo g hg).1 ok4,ajK (hfo g hg).1 (hfo g hg).3 ok4 (by decide)⟩
end NB
namespace NB
open PySem PySem.Spec L2 DL Fr
abbrev Tis:=List (Int × Int)
inductive bQ where
 | way (m:Int) (ts:Tis) (b e:Int) | tree (m:Int) (ts:Tis) | pair (m:Int) (ts:Tis) | deal (rs:List Int) (w:Int) | stream (m:Int) (ts:Tis) (rs ns:List Int) | bench (ls:List Int)
def jx (ts:Tis):D := .tup (ts.map fr)
def iV (ns:List Int):D := .tup (ns.map D.int)
def bQ.word:bQ→Str
 | .way _ _ _ _=>PySem.Str.ofString "way"
 | .tree _ _=>PySem.Str.ofString "tree"
 | .pair _ _=>PySem.Str.ofString "pair"
 | .deal _ _=>PySem.Str.ofString "deal"
 | .stream _ _ _ _=>PySem.Str.ofString "stream"
 | .bench _=>PySem.Str.ofString "bench"
def bQ.rest:bQ→List D
 | .way m ts b e=>[.int m,jx ts,.int b,.int e]
 | .tree m ts=>[.int m,jx ts]
 | .pair m ts=>[.int m,jx ts]
 | .deal rs w=>[iV rs,.int w]
 | .stream m ts rs ns=>[.int m,jx ts,iV rs,iV ns]
 | .bench ls=>[iV ls]
def bQ.d (s:bQ):D := .tup (.str s.word::s.rest)
def uh (m:Int) (t:Int × Int):Prop:=0≤t.1∧t.1<m∧0≤t.2∧t.2<m
structure Web (m:Int) (ts:Tis):Prop where
 m2:2≤m
 m10:m≤10
 l1:1≤ts.length
 Xy:ts.length≤16
 tie:∀ t∈ts,tY m t
def bQ.Ok:bQ→Prop
 | .way m ts b e=>Web m ts∧(0≤b∧b<m)∧(0≤e∧e<m)∧b≠e
 | .tree m ts=>Web m ts
 | .pair m ts=>(1≤m∧m≤6)∧(1≤ts.length∧ts.length≤16)∧∀ t∈ts,uh m t
 | .deal rs w=>(1≤rs.length∧rs.length≤4)∧(∀ r∈rs,0≤r∧r≤6)∧(1≤w∧w≤6)∧(rs.length:Int)*w≤16
 | .stream m ts rs ns=>Web m ts∧rs.length=ts.length∧(∀ r∈rs,1≤r∧r≤9)∧(ns.length:Int)=m∧(∀ n∈ns,-9≤n∧n≤9)∧ns.sum=0
 | .bench ls=>(1≤ls.length∧ls.length≤8)∧∀ l∈ls,1≤l∧l≤9
def bQ.items:bQ→Int
 | .way _ ts _ _=>ts.length
 | .tree _ ts=>ts.length
 | .pair _ ts=>ts.length
 | .deal rs w=>rs.length*w
 | .stream _ ts _ _=>ts.length
 | .bench ls=>ls.length
theorem uG {lo hi:Int} {d:D}:eU lo hi d=true↔∃ i,d = .int i∧lo≤i∧i≤hi:=by
 constructor
 ·intro h
  cases d with
  | int i =>
   rw [eU,Bool.and_eq_true] at h
   exact ⟨i,rfl,of_decide_eq_true h.1,of_decide_eq_true h.2⟩
  | _=>cases h
 ·rintro ⟨i,rfl,h1,h2⟩
  exact within_of h1 h2
theorem aas:∀ {lo hi:Int} {xs:List D},xs.all (eU lo hi)=true→∃ ns:List Int,xs=ns.map D.int∧∀ n∈ns,lo≤n∧n≤hi
 | _,_,[],_=>⟨[],rfl,by simp⟩
 | lo,hi,x::xs,h=>by
  rw [List.all_cons,Bool.and_eq_true] at h
  obtain ⟨i,rfl,h1,h2⟩:=uG.mp h.1
  obtain ⟨ns,rfl,h3⟩:=aas h.2
  exact ⟨i::ns,rfl,fun n hn=>by
   rcases List.mem_cons.mp hn with e | hn
   ·rw [e];exact ⟨h1,h2⟩
   ·exact h3 n hn⟩
theorem mF {m lo hi:Int} {d:D}:cP m lo hi d=true↔∃ ns:List Int,d=iV ns∧(ns.length:Int)=m∧∀ n∈ns,lo≤n∧n≤hi:=by
 constructor
 ·intro h
  cases d with
  | tup xs =>
   rw [cP,Bool.and_eq_true] at h
   obtain ⟨ns,rfl,h2⟩:=aas h.2
   exact ⟨ns,rfl,by have:=of_decide_eq_true h.1;rwa [List.length_map] at this,h2⟩
  | _=>cases h
 ·rintro ⟨ns,rfl,h1,h2⟩
  exact rH h1 h2
theorem alu {m:Int} {u:Bool} {d:D}:Ge m u d=true↔∃ t:Int × Int,d=fr t∧uh m t∧(u=true→t.1≠t.2):=by
 constructor
 ·intro h
  unfold Ge at h
  rw [Bool.and_eq_true] at h
  obtain ⟨ns,rfl,hl,hn⟩:=mF.mp h.1
  match ns,hl with
  | [a,b],_ =>
   have ha:=hn a (by simp)
   have hb:=hn b (by simp)
   refine ⟨(a,b),rfl,⟨by show 0≤a;omega,by show a<m;omega,by show 0≤b;omega,by show b<m;omega⟩,fun hu e => ?_⟩
   have h2:=h.2
   have:aak (iV [a,b])=true:=by
    show tU (.int a) (.int b)=true
    rw [ju]
    exact decide_eq_true e
   rw [hu,this] at h2
   cases h2
  | [],hl=>exact absurd hl (by decide)
  | [_],hl=>simp at hl
  | _::_::_::_,hl=>simp at hl;omega
 ·rintro ⟨t,rfl,h1,h2⟩
  exact ab2 h1 h2
theorem ae9:∀ {m:Int} {u:Bool} {xs:List D},xs.all (Ge m u)=true→∃ ts:Tis,xs=ts.map fr∧∀ t∈ts,uh m t∧(u=true→t.1≠t.2)
 | _,_,[],_=>⟨[],rfl,by simp⟩
 | m,u,x::xs,h=>by
  rw [List.all_cons,Bool.and_eq_true] at h
  obtain ⟨t,rfl,h1⟩:=alu.mp h.1
  obtain ⟨ts,rfl,h3⟩:=ae9 h.2
  exact ⟨t::ts,rfl,fun n hn=>by
   rcases List.mem_cons.mp hn with e | hn
   ·rw [e];exact h1
   ·exact h3 n hn⟩
theorem Bm {m:Int} {u:Bool} {d:D}:lH m u d=true↔∃ ts:Tis,d=jx ts∧(1≤ts.length∧ts.length≤16)∧∀ t∈ts,uh m t∧(u=true→t.1≠t.2):=by
 constructor
 ·intro h
  cases d with
  | tup xs =>
   rw [lH,Bool.and_eq_true,Bool.and_eq_true] at h
   obtain ⟨ts,rfl,h2⟩:=ae9 h.2
   have a:=of_decide_eq_true h.1.1
   have b:=of_decide_eq_true h.1.2
   rw [List.length_map] at a b
   exact ⟨ts,rfl,⟨by omega,by omega⟩,h2⟩
  | _=>cases h
 ·rintro ⟨ts,rfl,⟨h1,h2⟩,h3⟩
  unfold jx lH
  dsimp only
  rw [List.length_map,decide_eq_true (show (1:Int)≤ts.length by omega),decide_eq_true (show (ts.length:Int)≤16 by omega),Bool.true_and,Bool.true_and]
  refine List.all_eq_true.mpr fun d hd => ?_
  obtain ⟨x,hx,rfl⟩:=List.mem_map.mp hd
  exact ab2 (h3 x hx).1 (h3 x hx).2
theorem CZ {n:Int} {xs:List D} (hn:3≤n):pq n xs=true↔∃ w m ts r,xs=w :: .int m::jx ts::r∧(r.length:Int)=n - 3∧Web m ts:=by
 constructor
 ·intro h
  unfold pq at h
  rw [Bool.and_eq_true,Bool.and_eq_true] at h
  have hl:=of_decide_eq_true h.1
  match xs,hl with
  | a::b::c::r,hl =>
   obtain ⟨m,hb,h1,h2⟩:=uG.mp (show eU 2 10 b=true from h.2.1)
   subst hb
   obtain ⟨ts,hc,h3,h4⟩:=Bm.mp (show lH m true c=true from h.2.2)
   subst hc
   simp at hl
   exact ⟨a,m,ts,r,rfl,by omega,h1,h2,h3.1,h3.2,fun t ht=>⟨(h4 t ht).1.1,(h4 t ht).1.2.1,(h4 t ht).1.2.2.1,(h4 t ht).1.2.2.2,(h4 t ht).2 rfl⟩⟩
  | [],hl=>simp at hl;omega
  | [_],hl=>simp at hl;omega
  | [_,_],hl=>simp at hl;omega
 ·rintro ⟨w,m,ts,r,rfl,hr,hw⟩
  unfold pq
  rw [show o9 (w :: .int m::jx ts::r) 1 = .int m from rfl,show o9 (w :: .int m::jx ts::r) 2=jx ts from rfl,within_of hw.m2 hw.m10,decide_eq_true (show ((w :: .int m::jx ts::r:List D).length:Int)=n by simp;omega)]
  rw [show lH (numOf (.int m)) true (jx ts)=true from Bm.mpr ⟨ts,rfl,⟨hw.l1,hw.Xy⟩,fun t ht=>by have:=hw.tie t ht;exact ⟨⟨this.1,this.2.1,this.2.2.1,this.2.2.2.1⟩,fun _=>this.2.2.2.2⟩⟩]
  rfl
theorem ajL {d : D} (h : ug d = true) : ∃ s : bQ, d = s.d ∧ s.Ok := by
 cases d with
 | tup xs =>
  cases xs with
  | nil=>cases h
  | cons w xs =>
   replace h:kindB w (w::xs)=true:=h
   cases w with
   | str w =>
    unfold kindB at h
    dsimp only at h
    split at h
    ·rename_i e
     subst e
     unfold U4 at h
     rw [Bool.and_eq_true,Bool.and_eq_true] at h
     obtain ⟨w',m,ts,r,e,hr,hw⟩:=(CZ (by decide)).mp h.1
     cases e
     obtain ⟨ns,en,hl,hn⟩:=mF.mp h.2.1
     have en':r=ns.map D.int:=by injection en
     match ns,hl with
     | [b,e],_ =>
      subst en'
      have hb:=hn b (by simp)
      have he:=hn e (by simp)
      have hm:numOf (o9 (D.str (PySem.Str.ofString "way")::D.int m::jx ts::[b,e].map D.int) 1)=m:=rfl
      rw [hm] at hb he
      have hne:=h.2.2
      refine ⟨.way m ts b e,rfl,hw,⟨hb.1,by omega⟩,⟨he.1,by omega⟩,fun z => ?_⟩
      subst z
      have:tU (o9 (D.str (PySem.Str.ofString "way")::D.int m::jx ts::[b,b].map D.int) 3) (o9 (D.str (PySem.Str.ofString "way")::D.int m::jx ts::[b,b].map D.int) 4)=true:=by
       show tU (.int b) (.int b)=true
       rw [ju];simp
      rw [this] at hne
      cases hne
     | [],hl=>exact absurd hl (by decide)
     | [_],hl=>simp at hl
     | _::_::_::_,hl=>simp at hl;omega
    ·split at h
     ·rename_i e
      subst e
      obtain ⟨w',m,ts,r,e,hr,hw⟩:=(CZ (by decide)).mp h
      cases e
      have:r=[]:=by cases r with | nil=>rfl | cons _ _=>simp at hr;omega
      subst this
      exact ⟨.tree m ts,rfl,hw⟩
     ·split at h
      ·rename_i e
       subst e
       unfold zQ at h
       split at h
       ·rename_i w' m ts r n e
        cases e
        rw [Bool.and_eq_true,Bool.and_eq_true,Bool.and_eq_true] at h
        obtain ⟨w',m',ts',r',e,hr,hw⟩:=(CZ (by decide)).mp h.1
        cases e
        obtain ⟨rs,e1,l1,b1⟩:=mF.mp h.2.1
        obtain ⟨ns,e2,l2,b2⟩:=mF.mp h.2.2.1
        subst e1 e2
        have hs:=of_decide_eq_true h.2.2.2
        refine ⟨.stream m ts' rs ns,rfl,hw,by rw [List.length_map] at l1;omega,b1,l2,b2,?_⟩
        have:((ns.map D.int).map numOf).sum=0:=hs
        rwa [List.map_map,show (numOf ∘ D.int)=id from rfl,List.map_id] at this
       ·cases h
      ·unfold WM at h
       dsimp only at h
       split at h
       ·rename_i e
        subst e
        unfold Il at h
        split at h
        ·rename_i w' m t e
         cases e
         rw [Bool.and_eq_true] at h
         obtain ⟨i,ei,h1,h2⟩:=uG.mp h.1
         cases ei
         obtain ⟨ts,rfl,h3,h4⟩:=Bm.mp h.2
         exact ⟨.pair m ts,rfl,⟨h1,h2⟩,h3,fun t ht=>(h4 t ht).1⟩
        ·cases h
       ·split at h
        ·rename_i e
         subst e
         unfold u9 at h
         split at h
         ·rename_i w' rs v e
          cases e
          rw [Bool.and_eq_true,Bool.and_eq_true,Bool.and_eq_true,Bool.and_eq_true] at h
          obtain ⟨ns,en,l1,b1⟩:=mF.mp h.2.1
          have en':rs=ns.map D.int:=by injection en
          subst en'
          obtain ⟨i,ei,h1,h2⟩:=uG.mp h.2.2.1
          cases ei
          have a:=of_decide_eq_true h.1.1
          have b:=of_decide_eq_true h.1.2
          have c:=of_decide_eq_true h.2.2.2
          rw [List.length_map] at a b c
          exact ⟨.deal ns v,rfl,⟨by omega,by omega⟩,b1,⟨h1,h2⟩,c⟩
         ·cases h
        ·split at h
         ·rename_i e
          subst e
          unfold vG at h
          split at h
          ·rename_i w' ls e
           cases e
           rw [Bool.and_eq_true,Bool.and_eq_true] at h
           obtain ⟨ns,en,l1,b1⟩:=mF.mp h.2
           have en':ls=ns.map D.int:=by injection en
           subst en'
           have a:=of_decide_eq_true h.1.1
           have b:=of_decide_eq_true h.1.2
           rw [List.length_map] at a b
           exact ⟨.bench ns,rfl,⟨by omega,by omega⟩,b1⟩
          ·cases h
         ·cases h
   | _=>cases h
 | _=>cases h
theorem ae' {s:bQ} {n:Int} (h:aan s.d n):n=s.items:=by
 rcases h with ⟨w,m,ts,r,e,hw,rfl⟩ | ⟨rs,v,e,_,_,_,rfl⟩ | ⟨ls,e,rfl⟩
 ·cases s with
  | way m ts b e'=>cases e;show (((ts.map fr).length:Nat):Int)=ts.length;rw [List.length_map]
  | tree m ts=>cases e;show (((ts.map fr).length:Nat):Int)=ts.length;rw [List.length_map]
  | pair m ts=>cases e;show (((ts.map fr).length:Nat):Int)=ts.length;rw [List.length_map]
  | stream m ts rs ns=>cases e;show (((ts.map fr).length:Nat):Int)=ts.length;rw [List.length_map]
  | deal rs v=>cases e
  | bench ls=>cases e
 ·cases s with
  | deal rs v=>cases e;show (((rs.map D.int).length:Nat):Int)*v=rs.length*v;rw [List.length_map]
  | _ =>
   exfalso
   injection e with e
   injection e with e1 e2
   injection e1 with e1
   dsimp only [bQ.word] at e1
   revert e1
   decide +kernel
 ·cases s with
  | bench ls=>cases e;show (((ls.map D.int).length:Nat):Int)=ls.length;rw [List.length_map]
  | _ =>
   exfalso
   injection e with e
   injection e with e1 e2
   injection e1 with e1
   dsimp only [bQ.word] at e1
   revert e1
   decide +kernel
theorem gY.Tp {d:D} {ns:List Int} (h:gY d ns):∃ s:bQ,d=s.d∧s.Ok∧s.items=ns.length:=by
 have f:=h.facts
 obtain ⟨s,rfl,ok⟩:=ajL f.shape
 exact ⟨s,rfl,ok,(ae' f.items).symm⟩
theorem oJ {F:List ((Int × Int) × Int)}:eE F=jx (F.map (·.1)):=by
 unfold eE jx
 rw [List.map_map]
 rfl
theorem afa {a b:Tis} (h:jx a=jx b):a=b:=by
 unfold jx at h
 injection h with h
 have:∀ (a b:Tis),a.map fr=b.map fr→a=b:=by
  intro a
  induction a with
  | nil=>intro b h;cases b with | nil=>rfl | cons _ _=>cases h
  | cons x a ih =>
   intro b h
   cases b with
   | nil=>cases h
   | cons y b =>
    rw [List.map_cons,List.map_cons] at h
    injection h with h1 h2
    rw [ih b h2]
    obtain ⟨x1,x2⟩:=x
    obtain ⟨y1,y2⟩:=y
    unfold fr at h1
    injection h1 with h1
    injection h1 with e1 h1
    injection h1 with e2 _
    injection e1 with e1
    injection e2 with e2
    dsimp only at e1 e2
    rw [e1,e2]
 exact this a b h
theorem Beside.Tp {w w2:D × List Int} (hw:gY w.1 w.2) (h:Beside w w2):∃ s:bQ,w2.1=s.d∧s.Ok∧s.items=w2.2.length:=by
 have hl:=h.len
 cases h with
 | tree e =>
  rename_i m b e' F ns
  obtain ⟨s,es,ok,it⟩:=gY.Tp hw
  cases s with
  | way m2 ts b2 e2 =>
   have es':D.tup [.str (PySem.Str.ofString "way"),.int m,eE F,.int b,.int e']=D.tup [.str (PySem.Str.ofString "way"),.int m2,jx ts,.int b2,.int e2]:=es
   rw [oJ] at es'
   injection es' with es'
   injection es' with _ es'
   injection es' with e3 es'
   injection es' with e4 es'
   injection e3 with e3
   have e5:=afa e4
   refine ⟨.tree m2 ts,?_,ok.1,?_⟩
   ·show D.tup [.str (PySem.Str.ofString "tree"),.int m,eE F]=D.tup [.str (PySem.Str.ofString "tree"),.int m2,jx ts]
    rw [oJ,e3,e5]
   ·rw [hl]
    exact it
  | _ =>
   exfalso
   injection es with e
   injection e with e1 e2
   injection e1 with e1
   dsimp only [bQ.word] at e1
   revert e1
   decide +kernel
 | bench hh hl hb=>exact gY.Tp (hb.wish (by omega))
theorem pA.Tp {ws:List (D × List Int)} (h:pA ws):∀ w∈ws,∃ s:bQ,w.1=s.d∧s.Ok∧s.items=w.2.length:=by
 obtain ⟨w,hw,h⟩:=h
 intro v hv
 rcases h with rfl | ⟨w2,hb,hp⟩
 ·rw [List.mem_singleton.mp hv];exact gY.Tp hw
 ·have:=hp.mem_iff.mp hv
  simp only [List.mem_cons,List.not_mem_nil,or_false] at this
  rcases this with rfl | rfl
  ·exact gY.Tp hw
  ·exact hb.Tp hw
end NB
namespace NB
open PySem PySem.Spec L2 DL Fr
def jE:D→Bool
 | .tup [.int a,.int b]=>decide (1≤b) && decide (lZ a b=1)
 | _=>false
def Bo (d:D):Prop:=dN d=true∧∀ xs,d = .tup xs→∀ x∈xs,dN x=true
def uo:Ct:=fun ds μ Q _=>∃ d,ds=[d]∧Bo d∧Q (.bl (jE d)) μ
def yQ:bh :=
 (aJ (bY (jy (eX (fu (bV (jt "tuple") (ao (aq 0) (ao (dC (.raw (.ty "tuple"))) aC))))) (jy (dB (aF lV (bV dX (ao (aq 0) aC)) (dC (.int 2)))) (jy (eX (fu (dCall qw (ao (aF aN (aq 0) (dC (.int 0))) aC)))) (eX (fu (dCall qw (ao (aF aN (aq 0) (dC (.int 1))) aC))))))) (aW (dC (.bl false))) aX)
  (aW (nD (aF gGe (aF aN (aq 0) (dC (.int 1))) (dC (.int 1))) (aF eY (dCall Yr (ao (aF aN (aq 0) (dC (.int 0))) (ao (aF aN (aq 0) (dC (.int 1))) aC))) (dC (.int 1))))))
theorem ab4 : HB uo yQ 1 := by
 intro ds μ Q X h
 obtain ⟨d,rfl,⟨hp,hx⟩,q⟩:=h
 show yQ (ends Q XF) [some d] μ
 cases d with
 | raw _=>cases hp
 | dJ _=>cases hp
 | key _=>cases hp
 | tup xs =>
  have hx:=hx xs rfl
  simp! only [yQ]
  refine ⟨rfl,rfl,zG (fun h => ?_) (fun h => ?_)⟩
  ·have h':¬ (xs.length:Int)=2:=by simpa using h
   have e:jE (.tup xs)=false:=by
    unfold jE
    split
    ·rename_i e;cases e;exact absurd rfl h'
    ·rfl
   rw [e] at q
   walk_at "r"
   exact .of q
  ·have h':(xs.length:Int)=2:=by simpa using h
   obtain ⟨a,b,rfl⟩:=len2 h'
   walk_at "r"
   refine ⟨a,rfl,hx a (by simp),?_⟩
   cases a with
   | int x =>
    simp! only [tZ]
    refine ⟨b,rfl,hx b (by simp),?_⟩
    cases b with
    | int y =>
     simp! only [tZ]
     refine Ub (fun h1 => ?_) (fun h1 => ?_)
     ·rw [jE,h1,Bool.true_and] at q
      walk_at "r"
      refine ⟨_,_,rfl,?_⟩
      walk_at "r"
      exact ⟨rfl,rfl,.of q⟩
     ·rw [jE,h1] at q
      exact .of q
    | _ =>
     simp! only [tZ]
     exact .of q
   | _ =>
    simp! only [tZ]
    exact .of q
 | _ =>
  simp! only [yQ]
  exact .of q
theorem Ve {d:D}:jE d=true↔∃ f:Fc,d=fr f∧1≤f.2∧Nat.gcd f.1.natAbs f.2.natAbs=1:=by
 constructor
 ·intro h
  unfold jE at h
  split at h
  ·rename_i a b
   rw [Bool.and_eq_true] at h
   have h2:=of_decide_eq_true h.2
   unfold lZ at h2
   exact ⟨(a,b),rfl,of_decide_eq_true h.1,by show Nat.gcd a.natAbs b.natAbs=1;omega⟩
  ·cases h
 ·rintro ⟨f,rfl,h1,h2⟩
  show (decide (1≤f.2) && decide (lZ f.1 f.2=1))=true
  rw [decide_eq_true h1]
  unfold lZ
  rw [h2]
  rfl
theorem JW {α:Type} {xs:List α} {keep:α→Bool} {ok:M→Prop} {enc g:α→D} {f:qT} {tt:DTT} {te:bZ} {Q:List D→M→Prop} {δ:Sl} {μ:M} (ho:ok μ) (hl:xs.length<sizeLine)
  (st:∀ x∈xs,∀ (acc:List D) (R:List D→M→Prop),acc.length<sizeLine→(keep x=true→R (acc++[g x]) μ)→(keep x=false→R acc μ)→Hq (f μ (enc x)) tt te acc R δ μ) (q:Q ((xs.filter keep).map g) μ):ZJ ok f tt te Q δ (xs.map enc) μ:=by
 refine ⟨fun i acc μ'=>μ'=μ∧acc=((xs.take i).filter keep).map g,⟨rfl,by simp⟩,?_⟩
 rintro i acc μ' ⟨rfl,rfl⟩
 refine ⟨ho,fun d hd => ?_,fun hi => ?_⟩
 ·rw [List.getElem?_map] at hd
  obtain ⟨x,hx,rfl⟩:=Option.map_eq_some_iff.mp hd
  refine st x (List.mem_of_getElem? hx) _ _ ?_ (fun h=>⟨rfl,?_⟩) (fun h=>⟨rfl,?_⟩)
  ·rw [List.length_map]
   refine Nat.lt_of_le_of_lt (List.length_filter_le _ _) ?_
   rw [List.length_take]
   exact Nat.lt_of_le_of_lt (Nat.min_le_right _ _) hl
  ·rw [take_succ hx,List.filter_append,List.filter_cons_of_pos h,List.filter_nil,List.map_append]
   rfl
  ·rw [take_succ hx,List.filter_append,List.filter_cons_of_neg (by rw [h];decide),List.filter_nil,List.append_nil]
 ·rw [List.length_map] at hi
  rw [hi,List.take_length]
  exact q
structure Ip (t:Task):Prop where
 n1:1≤t.prices.length
 n2:t.prices.length≤16
 pr:∀ f∈t.prices,Ok 300 f
 w1:1≤t.wishes.length
 wl:t.wishes.length≤4
 ws:∀ w∈t.wishes,w.2.length=t.prices.length∧∃ s:bQ,w.1=s.d∧s.Ok∧s.items=w.2.length
 bl:t.bounds.length=t.prices.length
 bd:∀ b∈t.bounds,(∀ f,b.1=some f→Ok 300 f)∧(∀ f,b.2=some f→Ok 300 f)
 gl:t.weights.length=t.prices.length
theorem Fv.p {t:Task} (h:Fv t):Ip t where
 n1:=h.n1
 n2:=h.n2
 pr:=fun f hf=>(h.pr f hf).mono (by decide)
 w1:=by obtain ⟨n,f⟩:=h.ws.facts;exact List.length_pos_iff.mpr f.ne
 wl:=by obtain ⟨n,f⟩:=h.ws.facts;have:=f.l2;omega
 ws:=fun w hw=>⟨h.pl w hw,h.ws.Tp w hw⟩
 bl:=h.bd.1
 bd:=fun b hb=>by
  obtain ⟨f,hf,k⟩:=h.bd.mem hb
  exact ⟨fun g e=>(k.lo g e).1.mono (by decide),fun g e=>(k.hi g e).1.mono (by decide)⟩
 gl:=h.wl
theorem MK:∀ {a b:List Int},QZ (a.map D.int) (b.map D.int)=decide (a=b)
 | [],[]=>rfl
 | [],y::b=>by rw [decide_eq_false (by simp)];rfl
 | x::a,[]=>by rw [decide_eq_false (by simp)];rfl
 | x :: a, y :: b => by
  rw [List.map_cons,List.map_cons,rW,ju,MK]
  by_cases h1:x=y
  ·by_cases h2:a=b
   ·rw [decide_eq_true h1,decide_eq_true h2,decide_eq_true (by rw [h1,h2])];rfl
   ·rw [decide_eq_true h1,decide_eq_false h2,decide_eq_false (show ¬ (x::a=y::b) from fun z=>h2 (by injection z))];rfl
  ·rw [decide_eq_false h1,decide_eq_false (show ¬ (x::a=y::b) from fun z=>h1 (by injection z))];rfl
theorem agc (n:Nat):(upTo n).Pairwise (· ≤ ·):=by
 unfold upTo
 rw [List.pairwise_map]
 exact List.pairwise_le_range.imp fun h=>Int.ofNat_le.mpr h
theorem ado {a b:List Int} (h:a.Perm b) (ha:a.Pairwise (· ≤ ·)) (hb:b.Pairwise (· ≤ ·)):a=b:=h.eq_of_pairwise (fun _ _ _ _ h1 h2=>Int.le_antisymm h1 h2) ha hb
def Bp {α:Type} [Inhabited α] (xs:List α) (ns:List Int):List α:=ns.map fun i=>xs.getD i.toNat default
def bQ.tied:bQ→Bool
 | .deal _ _=>false
 | .bench _=>false
 | _=>true
def ao4:D→Str
 | .tup (.str w::_)=>w
 | _=>PySem.Str.ofString ""
def aok (w:Str):Bool:=decide (w=PySem.Str.ofString "deal") || decide (w=PySem.Str.ofString "bench")
def Task.tied (t:Task):Bool:=t.wishes.all fun w => !aok (ao4 w.1)
theorem vH {n:Nat} {i:Int}:i∈upTo n↔0≤i∧i<n:=by
 unfold upTo
 rw [List.mem_map]
 constructor
 ·rintro ⟨k,hk,rfl⟩
  have:=List.mem_range.mp hk
  show (0:Int)≤(k:Int)∧(k:Int)<n
  omega
 ·rintro ⟨h0,h1⟩
  exact ⟨i.toNat,List.mem_range.mpr (by omega),by show ((i.toNat:Nat):Int)=i;omega⟩
theorem ag6 (ts:Tis):okN 2 (jx ts)=true:=by
 show (ts.map fr).all (okN 1)=true
 rw [List.all_map]
 exact List.all_eq_true.mpr fun x _=>rfl
theorem acS (ns:List Int):okN 2 (iV ns)=true:=by
 show (ns.map D.int).all (okN 1)=true
 rw [List.all_map]
 exact List.all_eq_true.mpr fun x _=>rfl
theorem am6 (s:bQ):okN 3 s.d=true:=by
 show (D.str s.word::s.rest).all (okN 2)=true
 refine List.all_eq_true.mpr fun x hx => ?_
 cases s<;>(dsimp only [bQ.rest,bQ.word] at hx;simp only [List.mem_cons,List.not_mem_nil,or_false] at hx;rcases hx with rfl | hx)<;>first
  | (decide +kernel)
  | skip
 all_goals (repeat' first | (subst hx;first | rfl | exact ag6 _ | exact acS _) | (rcases hx with rfl | hx;first | rfl | exact ag6 _ | exact acS _))
def bQ.many:bQ→Int
 | .way m _ _ _=>m
 | .tree m _=>m
 | .pair m _=>m
 | .stream m _ _ _=>m
 | _=>0
theorem tY.inP {m:Int} {t:Int × Int} (h:tY m t):uh m t:=⟨h.1,h.2.1,h.2.2.1,h.2.2.2.1⟩
end NB
namespace NB
open PySem PySem.Spec L2 DL Fr
def ab5 (d:D):Prop:=dN d=true∧∀ xs,d = .lst xs→xs.length≤1000∧∀ x∈xs,dN x=true
def afb:D→Bool
 | .int i=>decide (0≤i)
 | _=>false
def Dc (m:Int):D→Bool
 | .lst xs=>decide ((xs.length:Int)=m) && xs.all afb
 | _=>false
def cG (ts:Tis) (ns:List Int):Tis:=((ts.zip ns).filter fun x=>decide (0<x.2)).map (·.1)
inductive zu (e:Int):Int→List Int→Tis→Prop
 | done {been:List Int}:zu e e been []
 | step {here:Int} {been:List Int} {left:Tis} {t:Int × Int}:here≠e→left.filter (fun t=>decide (t.1=here) || decide (t.2=here))=[t]→t.1+t.2 - here ∉ been→zu e (t.1+t.2 - here) (been++[t.1+t.2 - here]) (left.erase t)→zu e here been left
inductive Reach (ts:Tis) (a:Int):Int→Prop
 | refl:Reach ts a a
 | fwd {x y:Int}:Reach ts a x→(x,y)∈ts→Reach ts a y
 | bwd {x y:Int}:Reach ts a x→(y,x)∈ts→Reach ts a y
def RJ (m:Int) (ts:Tis):Prop:=(ts.length:Int)=m - 1∧∀ p,0≤p→p<m→Reach ts 0 p
def WY (m:Int) (ts:Tis):Prop:=(ts.map (·.1)).Perm (upTo m.toNat)∧(ts.map (·.2)).Perm (upTo m.toNat)
def Px (ns:List Int) (h w k:Nat):List Int:=(List.range h).map fun i=>ns.getD (i*w+k) 0
def vI (ns:List Int) (w i:Nat):List Int:=(ns.drop (i*w)).take w
def adW (rs:List Int) (w:Nat) (ns:List Int):Prop:=(∀ k,k<w→(Px ns rs.length w k).sum=1)∧∀ (i:Nat) r,rs[i]? = some r→(vI ns w i).sum≤r
def Py (m:Int) (ts:Tis) (rs nd ns:List Int):Prop:=(∀ (i:Nat) c r,ns[i]? = some c→rs[i]? = some r→c≤r)∧flow m.toNat ts ns=nd
def aol (ps:List (Int × Int)):Prop:=∀ (k:Nat) p,ps[k]? = some p→p.1=((ps.take (k+1)).map (·.2)).sum
def aat (ls ns:List Int):Prop:=∃ ps:List (Int × Int),ps.Perm (ns.zip ls)∧ps.Pairwise xZ∧aol ps
def RK:bQ→List Int→Prop
 | .way _ ts b e,ns=>(∀ n∈ns,n≤1)∧zu e b [b] (cG ts ns)
 | .tree m ts,ns=>(∀ n∈ns,n≤1)∧RJ m (cG ts ns)
 | .pair m ts,ns=>(∀ n∈ns,n≤1)∧WY m (cG ts ns)
 | .deal rs w,ns=>(∀ n∈ns,n≤1)∧adW rs w.toNat ns
 | .stream m ts rs nd,ns=>Py m ts rs nd ns
 | .bench ls,ns=>aat ls ns
structure Cn (m:Int) (ns:List Int):Prop where
 l:(ns.length:Int)=m
 p:∀ n∈ns,0≤n
def ahY (s:bQ) (d:D):Prop:=∃ ns:List Int,d = .lst (ns.map D.int)∧Cn s.items ns∧RK s ns
def Tells (P:Prop) (Q:QD) (μ:M):Prop:=∀ b:Bool,(b=true↔P)→Q (.bl b) μ
def JX:Ct:=fun ds μ Q _=>∃ d m,ds=[d,.int m]∧ab5 d∧Q (.bl (Dc m d)) μ
def JZ:Ct:=fun ds μ Q _=>∃ (a b:D) (r:List D) (ts:Tis) (ns:List Int),ds=[.tup (a::b::jx ts::r),.lst (ns.map D.int)]∧ts.length≤1000∧∀ p,μ p=none→Q (.raw (.ref p)) (cC μ p (.lst ((cG ts ns).map fr)))
def Gh:Ct:=fun ds μ Q _=>∃ (m:Int) (ts:Tis) (b e:Int) (ns:List Int),ds=[(bQ.way m ts b e).d,.lst (ns.map D.int)]∧ts.length≤1000∧Tells (zu e b [b] (cG ts ns)) Q μ
def Vf:Ct:=fun ds μ Q _=>∃ (m:Int) (ts:Tis) (b:Int),ds=[.int m,.lst (ts.map fr),.int b]∧m≤1000∧(∀ t∈ts,uh m t)∧(0≤b∧b<m)∧∀ xs:List Int,xs.Nodup→(∀ p,p∈xs↔Reach ts b p)→Q (.lst (xs.map D.int)) μ
def Df:Ct:=fun ds μ Q _=>∃ (m:Int) (ts:Tis) (ns:List Int),ds=[(bQ.tree m ts).d,.lst (ns.map D.int)]∧ts.length≤1000∧(1≤m∧m≤1000)∧(∀ t∈ts,uh m t)∧Tells (RJ m (cG ts ns)) Q μ
def Dg:Ct:=fun ds μ Q _=>∃ (m:Int) (ts:Tis) (ns:List Int),ds=[(bQ.pair m ts).d,.lst (ns.map D.int)]∧ts.length≤1000∧(1≤m∧m≤1000)∧Tells (WY m (cG ts ns)) Q μ
def Dh:Ct:=fun ds μ Q _=>∃ (rs:List Int) (w:Nat) (ns:List Int),ds=[(bQ.deal rs w).d,.lst (ns.map D.int)]∧(1≤w∧w≤1000)∧(1≤rs.length∧rs.length≤1000)∧ns.length=rs.length*w∧Tells (adW rs w ns) Q μ
def zA:Ct:=fun ds μ Q _=>∃ (m:Int) (ts:Tis) (rs nd ns:List Int),ds=[(bQ.stream m ts rs nd).d,.lst (ns.map D.int)]∧(1≤m∧m≤1000)∧rs.length=ts.length∧ns.length=ts.length∧(∀ t∈ts,uh m t)∧Tells (Py m ts rs nd ns) Q μ
def Bq:Ct:=fun ds μ Q _=>∃ (ls ns:List Int),ds=[(bQ.bench ls).d,.lst (ns.map D.int)]∧Tells (aat ls ns) Q μ
def Vg:Ct:=fun ds μ Q _=>∃ (s:bQ) (d:D),ds=[s.d,d]∧s.Ok∧ab5 d∧Tells (ahY s d) Q μ
def Br:bh :=
 (aJ (bY (jy (eX (fu (bV (jt "list") (ao (aq 0) (ao (dC (.raw (.ty "list"))) aC))))) (dB (aF lV (bV dX (ao (aq 0) aC)) (aq 1)))) (aW (dC (.bl false))) aX)
  (aW (bV NQ (ao (nH (fO (aq 0)) (bW 2) jB (nD (dCall qw (ao (aq 2) aC)) (aF gGe (aq 2) (dC (.int 0)))) [2]) aC))))
def YG:bh :=
 (aW (NT (Ml (ao (aF aN (aq 0) (dC (.int 2))) (ao (aq 1) aC))) (j9 (bF (bW 2) (bF (bW 3) fH))) (dB (aF gGt (aq 3) (dC (.int 0)))) (aq 2) [2,3]))
def MN:bh :=
 (aJ (Jv (dB (aF lV (aq 2) (aF aN (aq 0) (dC (.int 4))))) (aJ (aZ 5 (nH (fO (aq 3)) (bW 6) (dB (aF (gIn false) (aq 2) (aq 6))) (aq 6) [6]))
  (aJ (bY (dB (aF lV (bV dX (ao (aq 5) aC)) (dC (.int 1)))) (aW (dC (.bl false))) aX)
  (aJ (gJ (dM zj (aq 3) (ao (aF aN (aq 5) (dC (.int 0))) aC)))
  (aJ (aZ 2 (aF (uP fun i j => .int (i - j)) (aF cD (aF aN (aF aN (aq 5) (dC (.int 0))) (dC (.int 0))) (aF aN (aF aN (aq 5) (dC (.int 0))) (dC (.int 1)))) (aq 2)))
  (aJ (bY (dB (aF (Us false) (aq 2) (aq 4))) (aW (dC (.bl false))) aX)
  (Wx (dC (.bl true)) (aq 4) (aq 2))))))))
  (aW (aF eY (aq 3) (d7 aC))))
def Gi:bh :=
 (aJ (aZ 2 (aF aN (aq 0) (dC (.int 3))))
  (aJ (aZ 3 (dCall JZ (ao (aq 0) (ao (aq 1) aC))))
  (aJ (aZ 4 (Wz (O9 (aq 2) (dC (.bl true)) Wy)))
  MN)))
def Vh:bh :=
 (aJ (aZ 3 (Ab (ao (aq 2) aC)))
  (aJ (aZ 4 (dC (.int 0)))
  (aJ (Jv (dB (aF LQ (aq 4) (bV dX (ao (aq 3) aC)))) (aJ (j8 (fO (aq 1)) (j9 (bF (bW 5) (bF (bW 6) fH))) (j8 (fO (d7 (ao (dTup (ao (aq 5) (ao (aq 6) aC))) (ao (dTup (ao (aq 6) (ao (aq 5) aC))) aC)))) (j9 (bF (bW 7) (bF (bW 8) fH))) (bY (sJ (dB (aF eY (aq 7) (aF aN (aq 3) (aq 4)))) (dB (aF (gIn true) (aq 8) (aq 3)))) (gJ (dM nJ (aq 3) (ao (aq 8) aC))) aX)))
  (aZ 4 (aF cD (aq 4) (dC (.int 1))))))
  (aW (Gx (aq 3))))))
def Di:bh :=
 (aJ (aZ 2 (Gx (dCall JZ (ao (aq 0) (ao (aq 1) aC)))))
  (aW (nD (aF eY (bV dX (ao (aq 2) aC)) (aF (uP fun i j => .int (i - j)) (aF aN (aq 0) (dC (.int 1))) (dC (.int 1)))) (aF eY (bV dX (ao (dCall Vf (ao (aF aN (aq 0) (dC (.int 1))) (ao (aq 2) (ao (dC (.int 0)) aC)))) aC)) (aF aN (aq 0) (dC (.int 1)))))))
def Dj:bh :=
 (aJ (aZ 2 (Gx (dCall JZ (ao (aq 0) (ao (aq 1) aC)))))
  (aJ (aZ 3 (QM QS (aF aN (aq 0) (dC (.int 1)))))
  (aW (nD (aF eY (bV zM (ao (nH (fO (aq 2)) (bW 4) jB (aF aN (aq 4) (dC (.int 0))) [4]) aC)) (aq 3)) (aF eY (bV zM (ao (nH (fO (aq 2)) (bW 4) jB (aF aN (aq 4) (dC (.int 1))) [4]) aC)) (aq 3))))))
def Dk:bh :=
 (aJ (xg (jU (aq 0) (dR (dC (.int 1))) cJ) (j9 (bF (bW 2) (bF (bW 3) fH))))
  (aJ (j8 (lO (ao (aq 3) aC)) (bW 4) (bY (dB (aF lV (bV QC (ao (abQ (aq 1) (dR (aq 4)) cJ (dR (aq 3))) aC)) (dC (.int 1)))) (aW (dC (.bl false))) aX))
  (aJ (aZ 5 (nH (lO (ao (bV dX (ao (aq 2) aC)) aC)) (bW 6) jB (bV QC (ao (jU (aq 1) (dR (aF lW (aq 6) (aq 3))) (dR (aF cD (aF lW (aq 6) (aq 3)) (aq 3)))) aC)) [6]))
  (aW (bV NQ (ao (nH (Ml (ao (aq 5) (ao (aq 2) aC))) (j9 (bF (bW 7) (bF (bW 8) fH))) jB (aF Ce (aq 7) (aq 8)) [7,8]) aC))))))
def zB:bh :=
 (aJ (aZ 2 (aF yC (d7 (ao (dC (.int 0)) aC)) (aF aN (aq 0) (dC (.int 1)))))
  (aJ (j8 (Wm (ao (aF aN (aq 0) (dC (.int 2))) (ao (aF aN (aq 0) (dC (.int 3))) (ao (aq 1) aC)))) (j9 (bF (bW 3) (bF (bW 4) (bF (bW 5) fH)))) (aJ (bY (dB (aF gGt (aq 5) (aq 4))) (aW (dC (.bl false))) aX)
  (aJ (qd (aF cD (aF aN (aq 2) (aF aN (aq 3) (dC (.int 0)))) (aq 5)) (aq 2) (aF aN (aq 3) (dC (.int 0))))
  (qd (aF (uP fun i j => .int (i - j)) (aF aN (aq 2) (aF aN (aq 3) (dC (.int 1)))) (aq 5)) (aq 2) (aF aN (aq 3) (dC (.int 1)))))))
  (aW (aF eY (bV qb (ao (aq 2) aC)) (aF aN (aq 0) (dC (.int 4)))))))
def Bs:bh :=
 (aJ (aZ 2 (dC (.int 0)))
  (aJ (j8 (fO (O3 (ao (aq 1) (ao (aF aN (aq 0) (dC (.int 1))) aC)))) (j9 (bF (bW 3) (bF (bW 4) fH))) (aJ (aZ 2 (aF cD (aq 2) (aq 4)))
  (bY (dB (aF lV (aq 3) (aq 2))) (aW (dC (.bl false))) aX)))
  (aW (dC (.bl true)))))
def Vi:bh :=
 (aJ (bY (eX (fu (dCall JX (ao (aq 1) (ao (dCall Io (ao (aq 0) aC)) aC))))) (aW (dC (.bl false))) aX)
  (aJ (bY (dB (aF eY (aF aN (aq 0) (dC (.int 0))) (dC (.str (PySem.Str.ofString "stream"))))) (aW (dCall zA (ao (aq 0) (ao (aq 1) aC)))) aX)
  (aJ (bY (dB (aF eY (aF aN (aq 0) (dC (.int 0))) (dC (.str (PySem.Str.ofString "bench"))))) (aW (dCall Bq (ao (aq 0) (ao (aq 1) aC)))) aX)
  (aJ (bY (dB (aF gGt (bV QT (ao (aq 1) aC)) (dC (.int 1)))) (aW (dC (.bl false))) aX)
  (aJ (bY (dB (aF eY (aF aN (aq 0) (dC (.int 0))) (dC (.str (PySem.Str.ofString "way"))))) (aW (dCall Gh (ao (aq 0) (ao (aq 1) aC)))) aX)
  (aJ (bY (dB (aF eY (aF aN (aq 0) (dC (.int 0))) (dC (.str (PySem.Str.ofString "tree"))))) (aW (dCall Df (ao (aq 0) (ao (aq 1) aC)))) aX)
  (aJ (bY (dB (aF eY (aF aN (aq 0) (dC (.int 0))) (dC (.str (PySem.Str.ofString "pair"))))) (aW (dCall Dg (ao (aq 0) (ao (aq 1) aC)))) aX)
  (aW (dCall Dh (ao (aq 0) (ao (aq 1) aC)))))))))))
theorem adp:HB JX Br 3:=by
 intro ds μ Q X h
 obtain ⟨d,m,rfl,⟨hp,hr⟩,q⟩:=h
 show Br (ends Q XF) [some d,some (.int m),none] μ
 have sz:16777216≤sizeLine:=by decide
 cases d with
 | raw _=>cases hp
 | dJ _=>cases hp
 | key _=>cases hp
 | lst xs =>
  obtain ⟨hl,hx⟩:=hr xs rfl
  simp! only [Br]
  refine ⟨rfl,rfl,nU (fun h1 => ?_) (fun h1 => ?_)⟩
  ·walk_at "r"
   rw [Dc,decide_eq_false h1] at q
   exact .of q
  ·walk_at "r"
   rw [Dc,decide_eq_true (by simpa using h1),Bool.true_and] at q
   have em:xs=xs.map id:=(List.map_id xs).symm
   rw [em]
   refine gH (enc:=id) (g:=fun x => .bl (afb x)) trivial (by omega) (fun x hx' acc R ha hR => ?_) ?_
   ·walk_at "r"
    refine ⟨x,rfl,hx x hx',?_⟩
    cases x with
    | int i =>
     simp! only [tZ]
     exact ⟨ha,hR⟩
    | _ =>
     simp! only [tZ]
     exact ⟨ha,hR⟩
   ·walk_at "r"
    have e:(xs.map fun x=>D.bl (afb x))=(xs.map afb).map D.bl:=by rw [List.map_map];rfl
    rw [e,Mh]
    walk_at "r"
    rw [List.all_map]
    exact .of q
 | _ =>
  simp! only [Br]
  exact .of q
theorem ajM:HB JZ YG 4:=by
 intro ds μ Q X h
 obtain ⟨a,b,r,ts,ns,rfl,hl,q⟩:=h
 show YG (ends Q XF) [some (.tup (a::b::jx ts::r)),some (.lst (ns.map D.int)),none,none] μ
 have sz:16777216≤sizeLine:=by decide
 simp! only [YG,jx]
 rw [zip_map]
 refine JW (keep:=fun x:(Int × Int) × Int=>decide (0<x.2)) (g:=fun x=>fr x.1) trivial (by rw [List.length_zip];omega) (fun x hx acc R ha h1 h2 => ?_) ?_
 ·walk_at "r"
  refine QF (fun h => ?_) (fun h=>h2 h)
  walk_at "r"
  exact ⟨ha,h1 h⟩
 ·have e:((ts.zip ns).filter fun x=>decide (0<x.2)).map (fun x=>fr x.1)=(cG ts ns).map fr:=by unfold cG;rw [List.map_map];rfl
  rw [e]
  walk_at "r"
  exact fun p hp => .of (q p hp)
theorem afc {ns ns':List Int} {n:Nat} (h1:ns'.Perm ns) (h2:ns'.Pairwise (· ≤ ·)):decide (ns'=upTo n)=true↔ns.Perm (upTo n):=by
 rw [decide_eq_true_eq]
 constructor
 ·intro e
  rw [e] at h1
  exact h1.symm
 ·intro h
  exact ado (h1.trans h) h2 (agc n)
theorem aau:HB Dg Dj 5:=by
 intro ds μ Q X h
 obtain ⟨m,ts,ns,rfl,hl,⟨hm1,hm2⟩,q⟩:=h
 show Dj (ends Q XF) [some (bQ.pair m ts).d,some (.lst (ns.map D.int)),none,none,none] μ
 have sz:16777216≤sizeLine:=by decide
 have hcl:(cG ts ns).length≤1000:=by
  unfold cG
  rw [List.length_map]
  refine Nat.le_trans (List.length_filter_le _ _) ?_
  rw [List.length_zip]
  omega
 simp! only [Dj,bQ.d,bQ.rest]
 refine ⟨_,_,[],ts,ns,rfl,hl,fun p hp => ?_⟩
 walk_at "r"
 refine ⟨_,aP,?_⟩
 rw [abv hp]
 refine ⟨⟨by omega,by omega⟩,?_⟩
 rw [Ew]
 have vfr:∀ (μ:M) (f:Int × Int),view μ (fr f) = .tup [.int f.1,.int f.2]:=fun _ _=>rfl
 refine gH (enc:=fr) (g:=fun t => .int t.1) trivial (by omega) (fun x hx acc R ha hR => ?_) ?_
 ·simp! only [vfr]
  exact ⟨ha,hR⟩
 have e1:∀ g:Int × Int→Int,(cG ts ns).map (fun t=>D.int (g t))=((cG ts ns).map g).map D.int:=fun g=>by rw [List.map_map];rfl
 rw [e1]
 walk_at "r"
 refine ⟨_,rfl,fun ns1 a1 b1 => ?_⟩
 refine ⟨CV,CV,?_⟩
 rw [MK]
 cases hb:decide (ns1=upTo m.toNat) with
 | false =>
  walk_at "r"
  refine .of (q false ⟨(fun z=>by cases z),fun h => ?_⟩)
  rw [← hb]
  exact (afc a1 b1).mpr h.1
 | true =>
  walk_at "r"
  refine gH (enc:=fr) (g:=fun t => .int t.2) trivial (by omega) (fun x hx acc R ha hR => ?_) ?_
  ·simp! only [vfr]
   exact ⟨ha,hR⟩
  rw [e1]
  walk_at "r"
  refine ⟨_,rfl,fun ns2 a2 b2 => ?_⟩
  refine ⟨CV,CV,?_⟩
  rw [MK]
  refine .of (q _ ?_)
  rw [afc a2 b2]
  exact ⟨fun h=>⟨(afc a1 b1).mp hb,h⟩,fun h=>h.2⟩
theorem agd (a b:Int × Int) (h1:xZ a b) (h2:xZ b a):a=b:=by
 have e1:=SrtO.lexB_no.mp h1
 have e2:=SrtO.lexB_no.mp h2
 refine Prod.ext ?_ ?_<;>omega
theorem afd {a b:List (Int × Int)} (h:a.Perm b) (ha:a.Pairwise xZ) (hb:b.Pairwise xZ):a=b:=List.Perm.eq_of_pairwise (fun x y _ _=>agd x y) ha hb h
theorem YH:HB Bq Bs 5:=by
 intro ds μ Q X h
 obtain ⟨ls,ns,rfl,q⟩:=h
 show Bs (ends Q XF) [some (bQ.bench ls).d,some (.lst (ns.map D.int)),none,none,none] μ
 simp! only [Bs,bQ.d,bQ.rest,iV,acM]
 intro ps hp hs
 have tel:aol ps↔aat ls ns:=⟨fun h=>⟨ps,hp,hs,h⟩,fun ⟨ps',hp',hs',h⟩=>by rw [afd (hp.trans hp'.symm) hs hs'];exact h⟩
 refine wI (enc:=pairD) (fun pre δ μ'=>μ'=μ∧(∀ (k:Nat) p,pre[k]? = some p→p.1=((ps.take (k+1)).map (·.2)).sum)∧∃ x y,δ=[some (bQ.bench ls).d,some (.lst (ns.map D.int)),some (.int ((pre.map (·.2)).sum)),x,y]) ⟨rfl,(fun k p h=>by simp at h),_,_,rfl⟩ ?_ ?_
 ·rintro pre x post δ μ' hx ⟨rfl,hpre,y,z,rfl⟩
  refine ⟨trivial,?_⟩
  have es:(pre++[x]).map (·.2)=pre.map (·.2)++[x.2]:=by rw [List.map_append];rfl
  have et:ps.take (pre.length+1)=pre++[x]:=by
   have:=take_snoc (show ps[pre.length]? = some x by rw [hx];simp)
   rw [this,hx]
   simp
  have ex:ps[pre.length]? = some x:=by rw [hx];simp
  simp! only [pairD]
  refine ⟨rfl,rfl,nU (fun h1 => ?_) (fun h1 => ?_)⟩
  ·walk_at "r"
   refine .of (q false ⟨(fun z=>by cases z),fun h => ?_⟩)
   have:=tel.mpr h _ x ex
   rw [et,es,List.sum_append] at this
   simp at this
   exact (h1 this).elim
  ·walk_at "r"
   have h1:x.1=(pre.map (·.2)).sum+x.2:=by simpa using h1
   refine ⟨fun k p hk => ?_,some (.int x.1),some (.int x.2),?_⟩
   ·rcases Nat.lt_trichotomy k pre.length with hkl | hkl | hkl
    ·rw [List.getElem?_append_left hkl] at hk
     exact hpre k p hk
    ·subst hkl
     rw [List.getElem?_append_right (Nat.le_refl _),Nat.sub_self] at hk
     cases hk
     rw [et,es,List.sum_append]
     simpa using h1
    ·rw [List.getElem?_eq_none (by simp;omega)] at hk
     cases hk
   ·rw [es,List.sum_append]
    simp
 ·rintro δ μ' ⟨rfl,hpre,y,z,rfl⟩
  refine ⟨trivial,?_⟩
  walk_at "r"
  exact .of (q true ⟨fun _=>tel.mp hpre,fun _=>rfl⟩)
theorem Xg:HB zA zB 6:=by
 intro ds μ Q X h
 obtain ⟨m,ts,rs,nd,ns,rfl,⟨hm1,hm2⟩,hrl,hnl,ht,q⟩:=h
 show zB (ends Q XF) [some (bQ.stream m ts rs nd).d,some (.lst (ns.map D.int)),none,none,none,none] μ
 have sz:16777216≤sizeLine:=by decide
 have a3:∀ {a b c d e:D},atI [a,b,c,d,e] 3=some d:=rfl
 have a4:∀ {a b c d e:D},atI [a,b,c,d,e] 4=some e:=rfl
 simp! only [zB,bQ.d,bQ.rest]
 refine ⟨by decide,⟨by omega,by omega,by show 1*m.toNat≤sizeLine;omega⟩,fun c hc => ?_⟩
 have e0:(List.replicate m.toNat [D.int 0]).flatten=(List.replicate m.toNat (0:Int)).map D.int:=by rw [List.flatten_replicate_singleton,List.map_replicate]
 rw [e0]
 simp! only [a3,jx,iV]
 rw [ak2]
 refine wI (enc:=fun p:(Int × Int) × (Int × Int)=>D.tup [fr p.1,.int p.2.1,.int p.2.2]) (fun pre δ μ'=>(∀ x∈pre,x.2.2≤x.2.1)∧μ'=cC μ c (.lst (((pre.map fun x=>(x.1,x.2.2)).foldl fl (List.replicate m.toNat 0)).map D.int))∧∃ x y z,δ=[some (bQ.stream m ts rs nd).d,some (.lst (ns.map D.int)),some (.raw (.ref c)),x,y,z]) ⟨(fun x hx=>by cases hx),rfl,_,_,_,rfl⟩ ?_ ?_
 ·rintro pre x post δ μ' hx ⟨hle,rfl,y,z,u,rfl⟩
  refine ⟨trivial,?_⟩
  have hm:x∈ts.zip (rs.zip ns):=by rw [hx];exact List.mem_append_right _ List.mem_cons_self
  obtain ⟨⟨t1,t2⟩,r,n⟩:=x
  have hmt:=List.of_mem_zip hm
  have hmr:=List.of_mem_zip hmt.2
  have hin:=ht _ hmt.1
  obtain ⟨i1,i2,i3,i4⟩:=hin
  have i1:0≤t1:=i1
  have i2:t1<m:=i2
  have i3:0≤t2:=i3
  have i4:t2<m:=i4
  walk_at "r"
  refine fD (fun h1 => ?_) (fun h1 => ?_)
  ·walk_at "r"
   refine ⟨μ,Sub.new hc,q false ⟨(fun z=>by cases z),fun h => ?_⟩⟩
   obtain ⟨i,hi,ei⟩:=List.mem_iff_getElem.mp hmt.2
   have e1:(rs.zip ns)[i]? = some (r,n):=by rw [List.getElem?_eq_getElem hi,ei]
   have e2:=List.getElem?_zip_eq_some.mp e1
   have:=h.1 i n r e2.2 e2.1
   exfalso
   exact absurd h1 (by show ¬ r<n;omega)
  ·generalize hN:(pre.map fun x=>(x.1,x.2.2)).foldl fl (List.replicate m.toNat 0)=N at *
   have hNl:N.length=m.toNat:=by rw [← hN,Yx,List.length_replicate]
   have hc':∀ x,(cC μ c (.lst x)) c=some (.lst x):=fun x=>aP
   have e1:=CQ (ns:=N) (i:=t1) i1 (by omega)
   simp! only [fr,gh (hc' _),e1]
   refine ⟨_,hc' _,?_⟩
   rw [List.length_map,Jf i1 (by omega)]
   walk_at "r"
   rw [← List.map_set]
   have e2:=CQ (ns:=N.set t1.toNat (N.getD t1.toNat 0+n)) (i:=t2) i3 (by rw [List.length_set];omega)
   rw [Cg]
   simp! only [fr,gh (hc' _),e2]
   refine ⟨_,hc' _,?_⟩
   rw [List.length_map,List.length_set,Jf i3 (by omega)]
   walk_at "r"
   rw [← List.map_set,Cg]
   refine ⟨fun x hx => ?_,?_,_,_,_,rfl⟩
   ·rcases List.mem_append.mp hx with h | h
    ·exact hle x h
    ·rw [List.mem_singleton.mp h]
     show n≤r
     have:¬ r<n:=h1
     omega
   ·rw [List.map_append,List.foldl_append,hN]
    rfl
 ·rintro δ μ' ⟨hle,rfl,y,z,u,rfl⟩
  refine ⟨trivial,?_⟩
  have ez:(ts.zip (rs.zip ns)).map (fun x=>(x.1,x.2.2))=ts.zip ns:=by
   apply List.ext_getElem?
   intro i
   rw [List.getElem?_map]
   by_cases hi:i<ts.length
   ·have h1:ts[i]? = some ts[i]:=List.getElem?_eq_getElem hi
    have h2:rs[i]? = some (rs[i]'(by omega)):=List.getElem?_eq_getElem (by omega)
    have h3:ns[i]? = some (ns[i]'(by omega)):=List.getElem?_eq_getElem (by omega)
    have z1:(rs.zip ns)[i]? = some (rs[i]'(by omega),ns[i]'(by omega)):=List.getElem?_zip_eq_some.mpr ⟨h2,h3⟩
    have z2:(ts.zip (rs.zip ns))[i]? = some (ts[i],(rs[i]'(by omega),ns[i]'(by omega))):=List.getElem?_zip_eq_some.mpr ⟨h1,z1⟩
    have z3:(ts.zip ns)[i]? = some (ts[i],ns[i]'(by omega)):=List.getElem?_zip_eq_some.mpr ⟨h1,h3⟩
    rw [z2,z3]
    rfl
   ·rw [List.getElem?_eq_none (by rw [List.length_zip];omega),List.getElem?_eq_none (by rw [List.length_zip];omega)]
    rfl
  rw [ez]
  have hc':∀ x,(cC μ c (.lst x)) c=some (.lst x):=fun x=>aP
  simp! only [gh (hc' _),bQ.d,bQ.rest,a4,iV]
  have ot:∀ ks:List Int,okN 64 (.tup (ks.map D.int))=true:=fun ks=>CV (n:=62)
  refine ⟨ot _,ot _,?_⟩
  rw [MK]
  refine ⟨μ,Sub.new hc,q _ ?_⟩
  rw [decide_eq_true_eq]
  constructor
  ·intro h
   refine ⟨fun i cc r h1 h2 => ?_,h⟩
   have hi:=(List.getElem?_eq_some_iff.mp h1).1
   have h3:ts[i]? = some (ts[i]'(by omega)):=List.getElem?_eq_getElem (by omega)
   exact hle _ (List.mem_of_getElem? (List.getElem?_zip_eq_some (z:=(ts[i]'(by omega),(r,cc))) |>.mpr ⟨h3,List.getElem?_zip_eq_some.mpr ⟨h2,h1⟩⟩))
  ·exact fun h=>h.2
theorem ajN {xs:List D}:cutD xs (some 1) none=xs.drop 1:=JL (i:=0)
theorem ajO {ns:List Int} {h w k:Nat} (hl:ns.length=h*w) (hk:k<w) (hh:1≤h):pick (Ib (some (k:Int)) none (some (w:Int)) ns.length) ns=Px ns h w k:=by
 have hlt:k<ns.length:=by
  rw [hl]
  exact Nat.lt_of_lt_of_le hk (Nat.le_mul_of_pos_left w hh)
 rw [ajm (by omega) hlt]
 have e:(ns.length - k+(w - 1)) / w=h:=by
  rw [hl]
  have h1:h*w - k+(w - 1)=h*w+(w - 1 - k):=by
   have:k≤h*w:=by rw [← hl];omega
   omega
  rw [h1,Nat.add_comm,Nat.add_mul_div_right _ _ (by omega),Nat.div_eq_of_lt (by omega),Nat.zero_add]
 rw [e]
 unfold pick Px
 rw [List.filterMap_map]
 have:∀ i∈List.range h,((fun x=>ns[x]?) ∘ fun j=>k+w*j) i=some (ns.getD (i*w+k) 0):=fun i hi=>by
  have hi:=List.mem_range.mp hi
  have lt:i*w+k<ns.length:=by
   rw [hl]
   have:(i+1)*w≤h*w:=Nat.mul_le_mul_right w hi
   rw [Nat.add_mul] at this
   omega
  show ns[k+w*i]? = _
  rw [show k+w*i=i*w+k by rw [Nat.mul_comm];omega,List.getD_eq_getElem?_getD,List.getElem?_eq_getElem lt]
  rfl
 generalize List.range h=l at this
 induction l with
 | nil=>rfl
 | cons a l ih =>
  rw [List.filterMap_cons,this a List.mem_cons_self,List.map_cons,ih fun i hi=>this i (List.mem_cons_of_mem _ hi)]
theorem alv {ns:List Int} {w i:Nat}:cutD (ns.map D.int) (some ((i*w:Nat):Int)) (some ((i*w+w:Nat):Int))=(vI ns w i).map D.int:=by
 unfold cutD vI
 rw [HT.sIx_nat,HT.sIx_nat,List.length_map,← List.map_drop,← List.map_take]
 congr 1
 by_cases h:i*w≤ns.length
 ·rw [Nat.min_eq_left h]
  by_cases h2:i*w+w≤ns.length
  ·rw [Nat.min_eq_left h2]
   congr 1
   omega
  ·rw [Nat.min_eq_right (by omega),List.take_of_length_le (by rw [List.length_drop];omega),List.take_of_length_le (by rw [List.length_drop];omega)]
 ·have h1:min (i*w) ns.length=ns.length:=by omega
  rw [h1,List.drop_of_length_le (Nat.le_refl _),List.drop_of_length_le (by omega),List.take_nil,List.take_nil]
theorem ahZ {ns:List Int} {h w k:Nat} (hl:ns.length=h*w) (hk:k<w) (hh:1≤h):(Ib (some (k:Int)) none (some (w:Int)) ns.length).filterMap (fun x=>(ns.map D.int)[x]?)=(Px ns h w k).map D.int:=by
 rw [← ajO hl hk hh]
 unfold pick
 rw [List.map_filterMap]
 congr 1
 funext i
 rw [List.getElem?_map]
theorem aav:HB Dh Dk 9:=by
 intro ds μ Q X h
 obtain ⟨rs,w,ns,rfl,⟨hw1,hw2⟩,⟨hr1,hr2⟩,hnl,q⟩:=h
 show Dk (ends Q XF) [some (bQ.deal rs w).d,some (.lst (ns.map D.int)),none,none,none,none,none,none,none] μ
 have sz:16777216≤sizeLine:=by decide
 simp! only [Dk,bQ.d,bQ.rest,ajN,List.drop_succ_cons,List.drop_zero]
 refine ⟨⟨by omega,by omega⟩,?_⟩
 rw [Int.toNat_natCast,HY]
 refine wI (enc:=fun i:Nat=>D.int (i:Int)) (fun pre δ μ'=>μ'=μ∧(∀ k∈pre,(Px ns rs.length w k).sum=1)∧∃ x,δ=[some (bQ.deal rs w).d,some (.lst (ns.map D.int)),some (iV rs),some (.int w),x,none,none,none,none]) ⟨rfl,(fun k hk=>by cases hk),_,rfl⟩ ?_ ?_
 ·rintro pre k post δ μ' hx ⟨rfl,hpre,x,rfl⟩
  refine ⟨trivial,?_⟩
  have hk:k<w:=by
   have:k∈List.range w:=by rw [hx];exact List.mem_append_right _ List.mem_cons_self
   exact List.mem_range.mp this
  simp! only [List.length_map]
  refine ⟨(fun z=>by injection z with z;omega),?_⟩
  rw [ahZ hnl hk hr1]
  simp! only [Hl]
  refine ⟨rfl,rfl,nU (fun h1 => ?_) (fun h1 => ?_)⟩
  ·walk_at "r"
   refine .of (q false ⟨(fun z=>by cases z),fun h => ?_⟩)
   exact (h1 (h.1 k hk)).elim
  ·walk_at "r"
   refine ⟨fun j hj => ?_,_,rfl⟩
   rcases List.mem_append.mp hj with h | h
   ·exact hpre j h
   ·rw [List.mem_singleton.mp h]
    simpa using h1
 ·rintro δ μ' ⟨rfl,hpre,x,rfl⟩
  refine ⟨trivial,?_⟩
  simp! only [iV,List.length_map]
  refine ⟨⟨by omega,by omega⟩,?_⟩
  rw [Int.toNat_natCast,HY]
  refine gH (enc:=fun i:Nat=>D.int (i:Int)) (g:=fun i:Nat=>D.int (vI ns w i).sum) trivial (by rw [List.length_range];omega) (fun i hi acc R ha hR => ?_) ?_
  ·have hi:=List.mem_range.mp hi
   have hle:i*w≤1000*1000:=Nat.mul_le_mul (by omega) hw2
   have em:(i:Int)*(w:Int)=((i*w:Nat):Int):=by push_cast;rfl
   have em2:((i*w:Nat):Int)+(w:Int)=((i*w+w:Nat):Int):=by push_cast;rfl
   simp! only [em,em2]
   refine ⟨qJ (by omega) (by omega) (by omega) (by omega),qJ (by omega) (by omega) (by omega) (by omega),?_⟩
   rw [alv]
   simp! only [Hl]
   exact ⟨ha,hR⟩
  have e1:(List.range rs.length).map (fun i=>D.int (vI ns w i).sum)=((List.range rs.length).map fun i=>(vI ns w i).sum).map D.int:=by rw [List.map_map];rfl
  rw [e1]
  walk_at "r"
  rw [zip_map]
  refine gH (g:=fun x:Int × Int=>D.bl (decide (x.1≤x.2))) trivial (by rw [List.length_zip,List.length_map,List.length_range];omega) (fun x hx acc R ha hR => ?_) ?_
  ·walk_at "r"
   exact ⟨ha,hR⟩
  have e2:∀ zs:List (Int × Int),zs.map (fun x=>D.bl (decide (x.1≤x.2)))=(zs.map fun x=>decide (x.1≤x.2)).map D.bl:=fun zs=>by rw [List.map_map];rfl
  rw [e2]
  simp! only [Mh]
  refine .of (q _ ?_)
  rw [List.all_map,List.all_eq_true]
  constructor
  ·intro h
   refine ⟨fun k hk=>hpre k (List.mem_range.mpr hk),fun i r hr => ?_⟩
   have hi:=(List.getElem?_eq_some_iff.mp hr).1
   have:=h ((vI ns w i).sum,r) (List.mem_of_getElem? (i:=i) (List.getElem?_zip_eq_some.mpr ⟨by rw [List.getElem?_map,List.getElem?_range hi];rfl,hr⟩))
   simpa using this
  ·intro h x hx
   obtain ⟨i,hi,e⟩:=List.mem_iff_getElem.mp hx
   have e':(((List.range rs.length).map fun i=>(vI ns w i).sum).zip rs)[i]? = some x:=by rw [List.getElem?_eq_getElem hi,e]
   have e3:=List.getElem?_zip_eq_some.mp e'
   have hil:=(List.getElem?_eq_some_iff.mp e3.2).1
   rw [List.getElem?_map,List.getElem?_range hil] at e3
   have e4:(vI ns w i).sum=x.1:=Option.some.inj e3.1
   have:=h.2 i x.2 e3.2
   show decide (x.1≤x.2)=true
   rw [← e4]
   exact decide_eq_true this
abbrev touch (here:Int) (t:Int × Int):Bool:=decide (t.1=here) || decide (t.2=here)
theorem zu.inv {e here:Int} {been:List Int} {left:Tis} (h:zu e here been left):(here=e∧left=[])∨(here≠e∧∃ t,left.filter (touch here)=[t]∧t.1+t.2 - here ∉ been∧zu e (t.1+t.2 - here) (been++[t.1+t.2 - here]) (left.erase t)):=by
 cases h with
 | done=>exact .inl ⟨rfl,rfl⟩
 | step h1 h2 h3 h4=>exact .inr ⟨h1,_,h2,h3,h4⟩
theorem afe {ts:Tis}:okN 64 (.lst (ts.map fr))=true:=ag5 (n:=62)
theorem afg {t:Int × Int}:∀ {left:Tis},t∈left→∃ j,(left.map fr).findIdx? (fun z=>tU z (fr t))=some j∧(left.map fr).eraseIdx j=(left.erase t).map fr
 | [],h=>by cases h
 | x :: left, h => by
  rw [List.map_cons,List.findIdx?_cons,an']
  by_cases e:x=t
  ·subst e
   refine ⟨0,by simp,?_⟩
   simp
  ·obtain ⟨j,h1,h2⟩:=afg (left:=left) (by
    rcases List.mem_cons.mp h with h | h
    ·exact absurd h.symm e
    ·exact h)
   refine ⟨j+1,?_,?_⟩
   ·rw [decide_eq_false e,h1]
    rfl
   ·rw [List.eraseIdx_cons_succ,h2,List.erase_cons_tail (by simpa using e),List.map_cons]
theorem alw {kvs:List (Key × D)} {k j:Key} {d:D}:(valD (putD kvs k d) j).isSome=(decide (j=k) || (valD kvs j).isSome):=by
 have key:∀ (l:List (Key × D)),(valD l j).isSome=l.any fun kv=>decide (kv.1=j):=fun l=>by
  unfold valD
  rw [Option.isSome_map]
  induction l with
  | nil=>rfl
  | cons x l ih =>
   rw [List.find?_cons,List.any_cons]
   cases decide (x.1=j) with
   | true=>rfl
   | false=>simpa using ih
 rw [key,key]
 unfold putD
 split
 ·rename_i h
  rw [List.any_map]
  by_cases e:j=k
  ·subst e
   rw [decide_eq_true rfl,Bool.true_or,← h]
   congr 1
   funext kv
   show decide ((if kv.1=j then (kv.1,d) else kv).1=j)=_
   split<;>rfl
  ·rw [decide_eq_false e,Bool.false_or]
   congr 1
   funext kv
   show decide ((if kv.1=k then (kv.1,d) else kv).1=j)=_
   split<;>rfl
 ·rw [List.any_append,List.any_cons,List.any_nil,Bool.or_false,Bool.or_comm]
  congr 1
  by_cases e:j=k
  ·subst e;rfl
  ·rw [decide_eq_false e,decide_eq_false (fun z=>e z.symm)]
theorem alx {kvs:List (Key × D)} {k:Key} {d:D}:(putD kvs k d).length≤kvs.length+1:=by
 unfold putD
 split
 ·rw [List.length_map];omega
 ·rw [List.length_append];simp
def aqi (m:Int) (ts:Tis) (b e:Int) (ns:List Int) (p q:Addr) (μ:M) (n:Nat) (δ:Sl) (μ':M):Prop:=∃ (here:Int) (left:Tis) (been:List Int) (kvs:List (Key × D)) (x:Option D),
 δ=[some (bQ.way m ts b e).d,some (.lst (ns.map D.int)),some (.int here),some (.raw (.ref p)),some (.raw (.ref q)),x,none]∧n=left.length∧μ' p=some (.lst (left.map fr))∧μ' q=some (.dk kvs) ∧
 (∀ k:Int,(valD kvs (.inl k)).isSome=decide (k∈been))∧left.length+kvs.length≤1001∧(∀ a,a≠p→a≠q→μ' a=μ a)∧(zu e here been left↔zu e b [b] (cG ts ns))
theorem ab6 : HB Gh Gi 7 := by
 intro ds μ Q X h
 obtain ⟨m,ts,b,e,ns,rfl,hl,tel⟩:=h
 show Gi (ends Q XF) [some (bQ.way m ts b e).d,some (.lst (ns.map D.int)),none,none,none,none,none] μ
 have sz:16777216≤sizeLine:=by decide
 have a3:∀ {a b c d e:D},atI [a,b,c,d,e] 3=some d:=rfl
 have a4:∀ {a b c d e:D},atI [a,b,c,d,e] 4=some e:=rfl
 have hcl:(cG ts ns).length≤1000:=by
  unfold cG
  rw [List.length_map]
  refine Nat.le_trans (List.length_filter_le _ _) ?_
  rw [List.length_zip]
  omega
 simp! only [Gi,bQ.d,bQ.rest,a3]
 refine ⟨_,_,_,ts,ns,rfl,hl,fun p hp => ?_⟩
 walk_at "r"
 intro q hq
 have hqp:q≠p:=fun z=>by rw [z,aP] at hq;cases hq
 have hq0:μ q=none:=by rw [bL hqp] at hq;exact hq
 refine ⟨aP,by decide,?_⟩
 simp! only [MN]
 have sub:∀ μ':M,(∀ a,a≠p→a≠q→μ' a=μ a)→Sub μ μ':=fun μ' h a c e=>by
  rw [h a (Jl e hp) (Jl e hq0)]
  exact e
 refine while_by (aqi m ts b e ns p q μ) (m:=(cG ts ns).length) ⟨b,cG ts ns,[b],[(.inl b,.bl true)],none,rfl,rfl,?_,?_,fun k => ?_,?_,fun a h1 h2 => ?_,Iff.rfl⟩ ?_
 ·rw [bL (Ne.symm hqp),bL (Ne.symm hqp),aP]
 ·rw [aP]
  rfl
 ·show ((List.find? (fun kv:Key × D=>decide (kv.1 = .inl k)) [(.inl b,D.bl true)]).map (·.2)).isSome=_
  rw [Option.isSome_map,List.find?_cons]
  by_cases e:b=k
  ·subst e;simp
  ·have:decide ((Sum.inl b:Key) = .inl k)=false:=decide_eq_false fun z=>e (by injection z)
   rw [this]
   simp [Ne.symm e]
 ·show _+1≤1001
  omega
 ·rw [bL h2,bL h2,bL h1]
 rintro n δ μ' ⟨here,left,been,kvs,x,rfl,rfl,hp',hq',hk,hlen,hoth,hw⟩
 simp! only [bQ.d,bQ.rest,a4]
 refine ⟨rfl,rfl,nU (fun h0 => ?_) (fun h0 => ?_)⟩
 ·simp! only [hp']
  refine JW (xs:=left) (enc:=fr) (keep:=touch here) (g:=fr) hp' (by omega) (fun t ht acc R ha h1 h2 => ?_) ?_
  ·have vt:view μ' (fr t) = .tup [.int t.1,.int t.2]:=rfl
   have ei:inD (.int here) [.int t.1,.int t.2]=touch here t:=by rw [Pq,Bool.decide_or]
   simp! only [vt,ei,jd]
   refine QF (fun h => ?_) (fun h=>h2 h)
   walk_at "r"
   exact ⟨ha,h1 h⟩
  simp! only [List.length_map]
  refine ⟨rfl,rfl,nU (fun h1 => ?_) (fun h1 => ?_)⟩
  ·walk_at "r"
   refine ⟨μ,sub μ' hoth,tel false ⟨(fun z=>by cases z),fun h => ?_⟩⟩
   rcases (hw.mpr h).inv with ⟨z,_⟩ | ⟨_,t,ht,_⟩
   ·exact (h0 z).elim
   ·rw [ht] at h1
    exact (h1 rfl).elim
  ·have hf1:(left.filter (touch here)).length=1:=by omega
   obtain ⟨t,ht⟩:=List.length_eq_one_iff.mp hf1
   have htl:t∈left:=(List.mem_filter.mp (show t∈left.filter (touch here) by rw [ht];exact List.mem_cons_self)).1
   obtain ⟨j,hj1,hj2⟩:=afg htl
   have vt:∀ μ:M,view μ (fr t) = .tup [.int t.1,.int t.2]:=fun _=>rfl
   simp! only [ht]
   refine ⟨o7 hp',_,j,hp',afe,U0,hj1,?_⟩
   rw [hj2]
   simp! only [vt]
   have hq2:(cC μ' p (.lst ((left.erase t).map fr))) q=some (.dk kvs):=by rw [bL hqp];exact hq'
   refine ⟨kvs,hq2,?_⟩
   simp! only [hk]
   have hel:(left.erase t).length+1=left.length:=by
    rw [List.length_erase_of_mem htl]
    have:=List.length_pos_of_mem htl
    omega
   have amm:∀ c,∀ a,a≠p→a≠q→(cC μ' p c) a=μ a:=fun c a h1 h2=>by rw [bL h1];exact hoth a h1 h2
   cases hb:decide (t.1+t.2 - here∈been) with
   | true =>
    walk_at "r"
    refine ⟨μ,sub _ (amm _),tel false ⟨(fun z=>by cases z),fun h => ?_⟩⟩
    rcases (hw.mpr h).inv with ⟨z,_⟩ | ⟨_,t',ht',hnb,_⟩
    ·exact (h0 z).elim
    ·rw [ht] at ht'
     cases ht'
     exact (hnb (of_decide_eq_true hb)).elim
   | false =>
    walk_at "r"
    refine ⟨kvs,hq2,by omega,?_⟩
    have hnb:t.1+t.2 - here ∉ been:=of_decide_eq_false hb
    have hpl:=alx (kvs:=kvs) (k := .inl (t.1+t.2 - here)) (d := .bl true)
    refine ⟨(left.erase t).length,by omega,t.1+t.2 - here,left.erase t,been++[t.1+t.2 - here],putD kvs (.inl (t.1+t.2 - here)) (.bl true),_,rfl,rfl,?_,aP,fun k => ?_,by omega,fun a h1 h2 => ?_,?_⟩
    ·rw [bL (Ne.symm hqp),aP]
    ·rw [alw,hk]
     by_cases ek:k=t.1+t.2 - here
     ·rw [ek];simp
     ·have:decide ((Sum.inl k:Key) = .inl (t.1+t.2 - here))=false:=decide_eq_false fun z=>ek (by injection z)
      rw [this]
      simp [ek]
    ·rw [bL h2];exact amm _ a h1 h2
    ·rw [← hw]
     constructor
     ·exact fun h => .step h0 ht hnb h
     ·intro h
      rcases h.inv with ⟨z,_⟩ | ⟨_,t',ht',_,h'⟩
      ·exact (h0 z).elim
      ·rw [ht] at ht'
       cases ht'
       exact h'
 ·have h0:here=e:=by simpa using h0
  subst h0
  simp! only [gh hp']
  refine ⟨by decide,afe,rfl,?_⟩
  rw [ahO]
  refine ⟨μ,sub μ' hoth,tel _ ?_⟩
  rw [← hw]
  cases left with
  | nil=>exact ⟨fun _ => .done,fun _=>rfl⟩
  | cons t r =>
   constructor
   ·intro z;cases z
   ·intro h
    rcases h.inv with ⟨_,z⟩ | ⟨z,_⟩
    ·cases z
    ·exact (z rfl).elim
structure Found (m:Int) (ts:Tis) (b:Int) (fs:List Int):Prop where
 nd:fs.Nodup
 bd:∀ x∈fs,0≤x∧x<m
 rc:∀ x∈fs,Reach ts b x
 be:b∈fs
def amn (fs:List Int) (c:Int) (t:Int × Int):Prop:=(t.1=c→t.2∈fs)∧(t.2=c→t.1∈fs)
theorem Found.len {m:Int} {ts:Tis} {b:Int} {fs:List Int} (h:Found m ts b fs):fs.length≤m.toNat:=by
 have:=h.nd.length_le_of_subset (l₂:=upTo m.toNat) (fun x hx=>vH.mpr ⟨(h.bd x hx).1,by have:=h.bd x hx;omega⟩)
 rw [lG] at this
 exact this
theorem Found.add {m:Int} {ts:Tis} {b x:Int} {fs:List Int} (h:Found m ts b fs) (hn:x ∉ fs) (hb:0≤x∧x<m) (hr:Reach ts b x):Found m ts b (fs++[x]):=by
 refine ⟨?_,fun y hy => ?_,fun y hy => ?_,List.mem_append_left _ h.be⟩
 ·rw [List.nodup_append]
  refine ⟨h.nd,by simp,fun y hy z hz e => ?_⟩
  rw [List.mem_singleton.mp hz] at e
  exact hn (e ▸ hy)
 ·rcases List.mem_append.mp hy with h' | h'
  ·exact h.bd y h'
  ·rw [List.mem_singleton.mp h'];exact hb
 ·rcases List.mem_append.mp hy with h' | h'
  ·exact h.rc y h'
  ·rw [List.mem_singleton.mp h'];exact hr
def ah0 (m:Int) (ts:Tis) (b:Int) (p:Addr) (n:Nat) (δ:Sl):Prop:=∃ x y z u,δ=[some (.int m),some (.lst (ts.map fr)),some (.int b),some (.raw (.ref p)),some (.int n),x,y,z,u]
theorem ah1 : HB Vf Vh 9 := by
 intro ds μ Q X h
 obtain ⟨m,ts,b,rfl,hm,hts,hb,q⟩:=h
 show Vh (ends Q XF) [some (.int m),some (.lst (ts.map fr)),some (.int b),none,none,none,none,none,none] μ
 have sz:16777216≤sizeLine:=by decide
 simp! only [Vh]
 refine ⟨by decide,fun p hp => ?_⟩
 walk_at "r"
 refine while_by (fun k δ μ'=>∃ (n:Nat) (fs:List Int),ah0 m ts b p n δ∧Found m ts b fs∧n≤fs.length∧k=m.toNat - n∧(∀ (i:Nat) c,i<n→fs[i]? = some c→∀ t∈ts,amn fs c t)∧μ'=cC μ p (.lst (fs.map D.int)))
  (m:=m.toNat) ⟨0,[b],⟨_,_,_,_,rfl⟩,⟨by simp,(fun x hx=>by rw [List.mem_singleton.mp hx];exact hb),(fun x hx=>by rw [List.mem_singleton.mp hx];exact .refl),List.mem_singleton.mpr rfl⟩,by simp,rfl,(fun i c hi=>by omega),rfl⟩ ?_
 rintro k δ μ' ⟨n,fs,⟨x,y,z,u,rfl⟩,hF,hn,rfl,hnear,rfl⟩
 have hc:∀ l,(cC μ p (.lst l)) p=some (.lst l):=fun l=>aP
 have hlen:=hF.len
 simp! only [gh (hc _),List.length_map]
 refine fD (fun h0 => ?_) (fun h0 => ?_)
 ·have hnl:n<fs.length:=by omega
  obtain ⟨c,ec⟩:∃ c,fs[n]? = some c:=⟨_,List.getElem?_eq_getElem hnl⟩
  have hcr:=hF.rc c (List.mem_of_getElem? ec)
  walk_at "r"
  refine wI (enc:=fr) (fun pre δ μ'=>∃ fs':List Int,fs <+: fs'∧Found m ts b fs'∧(∀ t∈pre,amn fs' c t)∧ah0 m ts b p n δ∧μ'=cC μ p (.lst (fs'.map D.int))) ⟨fs,List.prefix_refl _,hF,(fun t ht=>by cases ht),⟨_,_,_,_,rfl⟩,rfl⟩ ?_ ?_
  ·rintro pre t post δ μ' hx ⟨fs',hpre,hF',hnr,⟨x,y,z,u,rfl⟩,rfl⟩
   refine ⟨trivial,?_⟩
   have htm:t∈ts:=by rw [hx];exact List.mem_append_right _ List.mem_cons_self
   obtain ⟨i1,i2,i3,i4⟩:=hts t htm
   simp! only [fr]
   refine ⟨by decide,by decide,by decide,?_⟩
   have eL:[D.tup [D.int t.1,D.int t.2],D.tup [D.int t.2,D.int t.1]]=[(t.1,t.2),(t.2,t.1)].map fr:=rfl
   rw [eL]
   refine wI (enc:=fr) (fun pr δ μ'=>∃ PB:List Int,fs' <+: PB∧Found m ts b PB∧(∀ a∈pr,a.1=c→a.2∈PB)∧ah0 m ts b p n δ∧μ'=cC μ p (.lst (PB.map D.int))) ⟨fs',List.prefix_refl _,hF',(fun t ht=>by cases ht),⟨_,_,_,_,rfl⟩,rfl⟩ ?_ ?_
   ·rintro pr a po δ μ' hx2 ⟨PB,Bl,hF2,ab7,⟨x,y,z,u,rfl⟩,rfl⟩
    refine ⟨trivial,?_⟩
    have ham:a∈[(t.1,t.2),(t.2,t.1)]:=by rw [hx2];exact List.mem_append_right _ List.mem_cons_self
    have hab:0≤a.2∧a.2<m:=by
     simp only [List.mem_cons,List.not_mem_nil,or_false] at ham
     rcases ham with rfl | rfl
     ·exact ⟨i3,i4⟩
     ·exact ⟨i1,i2⟩
    have har:a.1=c→Reach ts b a.2:=fun e=>by
     simp only [List.mem_cons,List.not_mem_nil,or_false] at ham
     rcases ham with rfl | rfl
     ·exact .fwd (by rw [← e] at hcr;exact hcr) htm
     ·exact .bwd (by rw [← e] at hcr;exact hcr) htm
    have hl2:=hF2.len
    have ec2:PB[n]? = some c:=by
     obtain ⟨r,er⟩:=hpre.trans Bl
     rw [← er,List.getElem?_append_left hnl]
     exact ec
    have ea:atI (PB.map D.int) (n:Int)=some (.int c):=by rw [NB.atI_nat,List.getElem?_map,ec2];rfl
    simp! only [fr,gh (hc _),ea]
    refine ⟨rfl,rfl,Ua (fun h1 => ?_) (fun h1 => ?_)⟩
    ·simp! only [gh (hc _),RG,jd,MF]
     cases hin:decide (a.2∈PB) with
     | true =>
      walk_at "r"
      refine ⟨PB,Bl,hF2,fun w hw e => ?_,⟨_,_,_,_,rfl⟩,rfl⟩
      rcases List.mem_append.mp hw with h | h
      ·exact ab7 w h e
      ·rw [List.mem_singleton.mp h];exact of_decide_eq_true hin
     | false =>
      walk_at "r"
      refine ⟨o7 (hc _),_,hc _,by rw [List.length_map];omega,?_⟩
      rw [Cg]
      refine ⟨PB++[a.2],Bl.trans (List.prefix_append _ _),hF2.add (of_decide_eq_false hin) hab (har h1),fun w hw e => ?_,⟨_,_,_,_,rfl⟩,by rw [List.map_append];rfl⟩
      rcases List.mem_append.mp hw with h | h
      ·exact List.mem_append_left _ (ab7 w h e)
      ·rw [List.mem_singleton.mp h];exact List.mem_append_right _ (List.mem_singleton.mpr rfl)
    ·walk_at "r"
     refine ⟨PB,Bl,hF2,fun w hw e => ?_,⟨_,_,_,_,rfl⟩,rfl⟩
     rcases List.mem_append.mp hw with h | h
     ·exact ab7 w h e
     ·rw [List.mem_singleton.mp h] at e
      exact (h1 e).elim
   ·rintro δ μ' ⟨PB,Bl,hF2,ab7,hS,rfl⟩
    refine ⟨trivial,PB,hpre.trans Bl,hF2,fun w hw => ?_,hS,rfl⟩
    rcases List.mem_append.mp hw with h | h
    ·have:=hnr w h
     exact ⟨fun e=>Bl.subset (this.1 e),fun e=>Bl.subset (this.2 e)⟩
    ·rw [List.mem_singleton.mp h]
     exact ⟨fun e=>ab7 (t.1,t.2) (by simp) e,fun e=>ab7 (t.2,t.1) (by simp) e⟩
  ·rintro δ μ' ⟨fs',hpre,hF',hnr,⟨x,y,z,u,rfl⟩,rfl⟩
   refine ⟨trivial,?_⟩
   walk_at "r"
   have hl':=hF'.len
   have hle:=hpre.length_le
   refine ⟨m.toNat - (n+1),by omega,n+1,fs',⟨x,y,z,u,by simp⟩,hF',by omega,rfl,fun i c' hi hc' w hw => ?_,rfl⟩
   obtain ⟨r,er⟩:=hpre
   by_cases hin:i=n
   ·subst hin
    have:fs'[i]? = some c:=by rw [← er,List.getElem?_append_left hnl];exact ec
    rw [this] at hc'
    cases hc'
    exact hnr w hw
   ·have hi':i<n:=by omega
    rw [← er,List.getElem?_append_left (by omega)] at hc'
    have:=hnear i c' hi' hc' w hw
    exact ⟨fun e=>by rw [← er];exact List.mem_append_left _ (this.1 e),fun e=>by rw [← er];exact List.mem_append_left _ (this.2 e)⟩
 ·have hnl:n=fs.length:=by omega
  walk_at "r"
  refine ⟨_,hc _,?_⟩
  rw [abv hp]
  refine .of (q fs hF.nd fun x=>⟨hF.rc x,fun hr => ?_⟩)
  induction hr with
  | refl=>exact hF.be
  | fwd _ ht ih =>
   obtain ⟨i,hi,e⟩:=List.mem_iff_getElem.mp ih
   exact (hnear i _ (by omega) (by rw [List.getElem?_eq_getElem hi,e]) _ ht).1 rfl
  | bwd _ ht ih =>
   obtain ⟨i,hi,e⟩:=List.mem_iff_getElem.mp ih
   exact (hnear i _ (by omega) (by rw [List.getElem?_eq_getElem hi,e]) _ ht).2 rfl
theorem yc:okN 64 (D.str (PySem.Str.ofString "way"))=true:=by decide +kernel
theorem uH:okN 64 (D.str (PySem.Str.ofString "tree"))=true:=by decide +kernel
theorem uI:okN 64 (D.str (PySem.Str.ofString "pair"))=true:=by decide +kernel
theorem uJ:okN 64 (D.str (PySem.Str.ofString "deal"))=true:=by decide +kernel
theorem oK:okN 64 (D.str (PySem.Str.ofString "stream"))=true:=by decide +kernel
theorem qM:okN 64 (D.str (PySem.Str.ofString "bench"))=true:=by decide +kernel
theorem jh:decide (PySem.Str.ofString "way" = PySem.Str.ofString "stream")=false:=by decide +kernel
theorem jL:decide (PySem.Str.ofString "way" = PySem.Str.ofString "bench")=false:=by decide +kernel
theorem kE:decide (PySem.Str.ofString "way" = PySem.Str.ofString "tree")=false:=by decide +kernel
theorem kJ:decide (PySem.Str.ofString "way" = PySem.Str.ofString "pair")=false:=by decide +kernel
theorem ig:decide (PySem.Str.ofString "tree" = PySem.Str.ofString "stream")=false:=by decide +kernel
theorem ji:decide (PySem.Str.ofString "tree" = PySem.Str.ofString "bench")=false:=by decide +kernel
theorem kW:decide (PySem.Str.ofString "tree" = PySem.Str.ofString "way")=false:=by decide +kernel
theorem jM:decide (PySem.Str.ofString "tree" = PySem.Str.ofString "pair")=false:=by decide +kernel
theorem iy:decide (PySem.Str.ofString "pair" = PySem.Str.ofString "stream")=false:=by decide +kernel
theorem jj:decide (PySem.Str.ofString "pair" = PySem.Str.ofString "bench")=false:=by decide +kernel
theorem kY:decide (PySem.Str.ofString "pair" = PySem.Str.ofString "way")=false:=by decide +kernel
theorem jN:decide (PySem.Str.ofString "pair" = PySem.Str.ofString "tree")=false:=by decide +kernel
theorem iz:decide (PySem.Str.ofString "deal" = PySem.Str.ofString "stream")=false:=by decide +kernel
theorem jk:decide (PySem.Str.ofString "deal" = PySem.Str.ofString "bench")=false:=by decide +kernel
theorem kZ:decide (PySem.Str.ofString "deal" = PySem.Str.ofString "way")=false:=by decide +kernel
theorem jO:decide (PySem.Str.ofString "deal" = PySem.Str.ofString "tree")=false:=by decide +kernel
theorem jP:decide (PySem.Str.ofString "deal" = PySem.Str.ofString "pair")=false:=by decide +kernel
theorem gR:decide (PySem.Str.ofString "stream" = PySem.Str.ofString "bench")=false:=by decide +kernel
theorem jm:decide (PySem.Str.ofString "stream" = PySem.Str.ofString "way")=false:=by decide +kernel
theorem iD:decide (PySem.Str.ofString "stream" = PySem.Str.ofString "tree")=false:=by decide +kernel
theorem iG:decide (PySem.Str.ofString "stream" = PySem.Str.ofString "pair")=false:=by decide +kernel
theorem gU:decide (PySem.Str.ofString "bench" = PySem.Str.ofString "stream")=false:=by decide +kernel
theorem jQ:decide (PySem.Str.ofString "bench" = PySem.Str.ofString "way")=false:=by decide +kernel
theorem jo:decide (PySem.Str.ofString "bench" = PySem.Str.ofString "tree")=false:=by decide +kernel
theorem jr:decide (PySem.Str.ofString "bench" = PySem.Str.ofString "pair")=false:=by decide +kernel
theorem aly {m:Int} {ts:Tis} {b:Int} (hts:∀ t∈ts,uh m t) (hb:0≤b∧b<m) {p:Int} (h:Reach ts b p):0≤p∧p<m:=by
 induction h with
 | refl=>exact hb
 | fwd _ ht _=>have:=hts _ ht;exact ⟨this.2.2.1,this.2.2.2⟩
 | bwd _ ht _=>have:=hts _ ht;exact ⟨this.1,this.2.1⟩
theorem ajP {m:Int} {ts:Tis} {xs:List Int} (hm:1≤m) (hts:∀ t∈ts,uh m t) (hn:xs.Nodup) (hx:∀ p,p∈xs↔Reach ts 0 p):(xs.length:Int)=m↔∀ p,0≤p→p<m→Reach ts 0 p:=by
 have sub:xs ⊆ upTo m.toNat:=fun x h=>by
  have:=aly hts ⟨by omega,by omega⟩ ((hx x).mp h)
  exact vH.mpr ⟨this.1,by omega⟩
 have le:=hn.length_le_of_subset sub
 rw [lG] at le
 constructor
 ·intro hl p h0 h1
  refine (hx p).mp ?_
  by_cases hp:p∈xs
  ·exact hp
  ·have n2:(p::xs).Nodup:=List.nodup_cons.mpr ⟨hp,hn⟩
   have:=n2.length_le_of_subset (l₂:=upTo m.toNat) (fun x h=>by
    rcases List.mem_cons.mp h with rfl | h
    ·exact vH.mpr ⟨h0,by omega⟩
    ·exact sub h)
   rw [lG,List.length_cons] at this
   omega
 ·intro h
  have nu:(upTo m.toNat).Nodup:=by
   unfold upTo
   exact List.Pairwise.map _ (fun a b e z=>e (Int.ofNat.inj z)) List.nodup_range
  have:=nu.length_le_of_subset (l₂:=xs) (fun x hx'=>by
   have:=vH.mp hx'
   exact (hx x).mpr (h x this.1 (by omega)))
  rw [lG] at this
  omega
theorem ah2 {ts:Tis} {ns:List Int} {t:Int × Int} (h:t∈cG ts ns):t∈ts:=by
 obtain ⟨x,hx,rfl⟩:=List.mem_map.mp h
 exact (List.of_mem_zip (show (x.1,x.2)∈ts.zip ns from (List.mem_filter.mp hx).1)).1
theorem aaw:HB Df Di 3:=by
 intro ds μ Q X h
 obtain ⟨m,ts,ns,rfl,hl,⟨hm1,hm2⟩,hts,q⟩:=h
 show Di (ends Q XF) [some (bQ.tree m ts).d,some (.lst (ns.map D.int)),none] μ
 have htc:∀ t∈cG ts ns,uh m t:=fun t h=>hts t (ah2 h)
 simp! only [Di,bQ.d,bQ.rest]
 refine ⟨_,_,[],ts,ns,rfl,hl,fun p hp => ?_⟩
 walk_at "r"
 refine ⟨_,aP,?_⟩
 rw [abv hp]
 simp! only [List.length_map]
 refine ⟨rfl,rfl,?_⟩
 cases h1:decide (((cG ts ns).length:Int)=m - 1) with
 | false =>
  walk_at "r"
  exact .of (q false ⟨(fun z=>by cases z),fun h=>(of_decide_eq_false h1 h.1).elim⟩)
 | true =>
  walk_at "r"
  refine ⟨m,cG ts ns,0,rfl,by omega,htc,⟨by omega,by omega⟩,fun xs hn hx => ?_⟩
  simp! only [List.length_map]
  refine ⟨rfl,rfl,.of (q _ ?_)⟩
  rw [decide_eq_true_eq,ajP hm1 htc hn hx]
  exact ⟨fun h=>⟨of_decide_eq_true h1,h⟩,fun h=>h.2⟩
theorem acT {s:bQ} (h:s.Ok):aan s.d s.items:=by
 cases s with
 | way m ts b e=>exact .inl ⟨_,_,_,_,rfl,.inl rfl,by rw [List.length_map];rfl⟩
 | tree m ts=>exact .inl ⟨_,_,_,_,rfl,.inr (.inl rfl),by rw [List.length_map];rfl⟩
 | pair m ts=>exact .inl ⟨_,_,_,_,rfl,.inr (.inr (.inl rfl)),by rw [List.length_map];rfl⟩
 | deal rs w=>exact .inr (.inl ⟨_,_,rfl,by have:=h.2.2.1;omega,by have:=h.2.2.1;omega,by rw [List.length_map];have:=h.1;omega,by rw [List.length_map];rfl⟩)
 | stream m ts rs nd=>exact .inl ⟨_,_,_,_,rfl,.inr (.inr (.inr rfl)),by rw [List.length_map];rfl⟩
 | bench ls=>exact .inr (.inr ⟨_,rfl,by rw [List.length_map];rfl⟩)
theorem afh:∀ {xs:List D},xs.all afb=true→∃ ns:List Int,xs=ns.map D.int∧∀ n∈ns,0≤n
 | [],_=>⟨[],rfl,by simp⟩
 | x :: xs, h => by
  rw [List.all_cons,Bool.and_eq_true] at h
  obtain ⟨ns,rfl,h2⟩:=afh h.2
  cases x with
  | int i =>
   exact ⟨i::ns,rfl,fun n hn=>by
    rcases List.mem_cons.mp hn with rfl | hn
    ·exact of_decide_eq_true h.1
    ·exact h2 n hn⟩
  | _=>exact absurd h.1 (by intro z;cases z)
theorem ints_inj {a b:List Int} (h:a.map D.int=b.map D.int):a=b:=List.map_inj_right (fun x y e=>by injection e) |>.mp h
theorem ajQ {s:bQ} {ns:List Int} (hc:Cn s.items ns):ahY s (.lst (ns.map D.int))↔RK s ns:=by
 constructor
 ·rintro ⟨ms,e,_,h⟩
  injection e with e
  rw [ints_inj e]
  exact h
 ·exact fun h=>⟨ns,rfl,hc,h⟩
theorem Xz {m:Int} {d:D}:Dc m d=true↔∃ ns:List Int,d = .lst (ns.map D.int)∧Cn m ns:=by
 constructor
 ·intro h
  cases d with
  | lst xs =>
   rw [Dc,Bool.and_eq_true] at h
   obtain ⟨ns,rfl,h2⟩:=afh h.2
   have:=of_decide_eq_true h.1
   rw [List.length_map] at this
   exact ⟨ns,rfl,this,h2⟩
  | _=>cases h
 ·rintro ⟨ns,rfl,h1,h2⟩
  rw [Dc,List.length_map,decide_eq_true h1,Bool.true_and,List.all_map,List.all_eq_true]
  exact fun n hn=>decide_eq_true (h2 n hn)
theorem ajR {m:Int} {t:Int × Int} (h:tY m t):uh m t:=⟨h.1,h.2.1,h.2.2.1,h.2.2.2.1⟩
theorem ah3:HB Vg Vi 2:=by
 intro ds μ Q X h
 obtain ⟨s,d,rfl,hok,hd,q⟩:=h
 show Vi (ends Q XF) [some s.d,some d] μ
 simp! only [Vi]
 refine ⟨_,_,rfl,acT hok,?_⟩
 walk_at "r"
 refine ⟨d,_,rfl,hd,?_⟩
 cases hc:Dc s.items d with
 | false =>
  walk_at "r"
  refine .of (q false ⟨(fun z=>by cases z),fun ⟨ns,e,h,_⟩ => ?_⟩)
  rw [Xz.mpr ⟨ns,e,h⟩] at hc
  cases hc
 | true =>
  obtain ⟨ns,rfl,hcn⟩:=Xz.mp hc
  have q':Tells (RK s ns) Q μ:=fun b hb=>q b (hb.trans (ajQ hcn).symm)
  have mx:∀ m:Int,m∈ns→(∀ y∈ns,y≤m)→(decide (1<m)=true↔¬ ∀ n∈ns,n≤1):=fun m hm hmx=>by
   rw [decide_eq_true_eq]
   constructor
   ·intro h1 h2
    have:=h2 m hm
    omega
   ·intro h1
    by_cases h2:1<m
    ·exact h2
    ·exact (h1 fun n hn=>by have:=hmx n hn;omega).elim
  have fin:∀ {P:Prop} {k:QD},Tells ((∀ n∈ns,n≤1)∧P) k μ→¬ (∀ n∈ns,n≤1)→k (.bl false) μ:=fun h hn=>h false ⟨(fun z=>by cases z),fun z=>(hn z.1).elim⟩
  have fin2:∀ {P:Prop} {k:QD},Tells ((∀ n∈ns,n≤1)∧P) k μ→¬ ¬ (∀ n∈ns,n≤1)→Tells P k μ:=fun h hn b hb=>h b ⟨fun z=>⟨Classical.not_not.mp hn,hb.mp z⟩,fun z=>hb.mpr z.2⟩
  have toF:∀ {P:Prop},Tells P Q μ→Tells P (DL.Fin Q) μ:=fun h b hb => .of (h b hb)
  have hl:=hcn.l
  cases s with
  | stream m ts rs nd =>
   obtain ⟨hw,hrl,hrb,hnl,hnb,hsum⟩:=hok
   have hl:(ns.length:Int)=ts.length:=hl
   have h2:=hw.m2
   have h10:=hw.m10
   simp! only [bQ.d,bQ.word,yc,uH,uI,uJ,oK,qM,jh,jL,kE,kJ,ig,ji,kW,jM,iy,jj,kY,jN,iz,jk,kZ,jO,jP,gR,jm,iD,iG,gU,jQ,jo,jr]
   exact ⟨m,ts,rs,nd,ns,rfl,⟨by omega,by omega⟩,hrl,by omega,fun t ht=>ajR (hw.tie t ht),toF q'⟩
  | bench ls =>
   simp! only [bQ.d,bQ.word,yc,uH,uI,uJ,oK,qM,jh,jL,kE,kJ,ig,ji,kW,jM,iy,jj,kY,jN,iz,jk,kZ,jO,jP,gR,jm,iD,iG,gU,jQ,jo,jr]
   exact ⟨ls,ns,rfl,toF q'⟩
  | way m ts b e =>
   obtain ⟨hw,_,_,_⟩:=hok
   have hl:(ns.length:Int)=ts.length:=hl
   have h1:=hw.l1
   have h16:=hw.Xy
   simp! only [bQ.d,bQ.word,yc,uH,uI,uJ,oK,qM,jh,jL,kE,kJ,ig,ji,kW,jM,iy,jj,kY,jN,iz,jk,kZ,jO,jP,gR,jm,iD,iG,gU,jQ,jo,jr]
   refine ⟨ns,rfl,by omega,fun mm YJ hm2' => ?_⟩
   have hmm:=mx mm YJ hm2'
   cases hd:decide (1<mm) with
   | true =>
    walk_at "r"
    exact .of (fin q' (hmm.mp hd))
   | false =>
    simp! only [bQ.d,bQ.word,yc,uH,uI,uJ,oK,qM,jh,jL,kE,kJ,ig,ji,kW,jM,iy,jj,kY,jN,iz,jk,kZ,jO,jP,gR,jm,iD,iG,gU,jQ,jo,jr]
    exact ⟨m,ts,b,e,ns,rfl,by omega,fin2 (toF q') (fun z=>by rw [hmm.mpr z] at hd;cases hd)⟩
  | tree m ts =>
   have hw:Web m ts:=hok
   have hl:(ns.length:Int)=ts.length:=hl
   have h1:=hw.l1
   have h16:=hw.Xy
   have h2:=hw.m2
   have h10:=hw.m10
   simp! only [bQ.d,bQ.word,yc,uH,uI,uJ,oK,qM,jh,jL,kE,kJ,ig,ji,kW,jM,iy,jj,kY,jN,iz,jk,kZ,jO,jP,gR,jm,iD,iG,gU,jQ,jo,jr]
   refine ⟨ns,rfl,by omega,fun mm YJ hm2' => ?_⟩
   have hmm:=mx mm YJ hm2'
   cases hd:decide (1<mm) with
   | true =>
    walk_at "r"
    exact .of (fin q' (hmm.mp hd))
   | false =>
    simp! only [bQ.d,bQ.word,yc,uH,uI,uJ,oK,qM,jh,jL,kE,kJ,ig,ji,kW,jM,iy,jj,kY,jN,iz,jk,kZ,jO,jP,gR,jm,iD,iG,gU,jQ,jo,jr]
    exact ⟨m,ts,ns,rfl,by omega,⟨by omega,by omega⟩,fun t ht=>ajR (hw.tie t ht),fin2 (toF q') (fun z=>by rw [hmm.mpr z] at hd;cases hd)⟩
  | pair m ts =>
   obtain ⟨hm,hll,ht⟩:=hok
   have hl:(ns.length:Int)=ts.length:=hl
   simp! only [bQ.d,bQ.word,yc,uH,uI,uJ,oK,qM,jh,jL,kE,kJ,ig,ji,kW,jM,iy,jj,kY,jN,iz,jk,kZ,jO,jP,gR,jm,iD,iG,gU,jQ,jo,jr]
   refine ⟨ns,rfl,by omega,fun mm YJ hm2' => ?_⟩
   have hmm:=mx mm YJ hm2'
   cases hd:decide (1<mm) with
   | true =>
    walk_at "r"
    exact .of (fin q' (hmm.mp hd))
   | false =>
    simp! only [bQ.d,bQ.word,yc,uH,uI,uJ,oK,qM,jh,jL,kE,kJ,ig,ji,kW,jM,iy,jj,kY,jN,iz,jk,kZ,jO,jP,gR,jm,iD,iG,gU,jQ,jo,jr]
    exact ⟨m,ts,ns,rfl,by omega,⟨by omega,by omega⟩,fin2 (toF q') (fun z=>by rw [hmm.mpr z] at hd;cases hd)⟩
  | deal rs w =>
   obtain ⟨hr,hrb,hw,hrw⟩:=hok
   have hl:(ns.length:Int)=rs.length*w:=hl
   obtain ⟨w,rfl⟩:∃ n:Nat,w=n:=⟨w.toNat,by omega⟩
   have hl':ns.length=rs.length*w:=by
    have:((rs.length*w:Nat):Int)=rs.length*w:=by push_cast;rfl
    omega
   have hpos:0<ns.length:=by
    rw [hl']
    exact Nat.mul_pos (by omega) (by omega)
   simp! only [bQ.d,bQ.word,yc,uH,uI,uJ,oK,qM,jh,jL,kE,kJ,ig,ji,kW,jM,iy,jj,kY,jN,iz,jk,kZ,jO,jP,gR,jm,iD,iG,gU,jQ,jo,jr]
   refine ⟨ns,rfl,hpos,fun mm YJ hm2' => ?_⟩
   have hmm:=mx mm YJ hm2'
   cases hd:decide (1<mm) with
   | true =>
    walk_at "r"
    exact .of (fin q' (hmm.mp hd))
   | false =>
    simp! only [bQ.d,bQ.word,yc,uH,uI,uJ,oK,qM,jh,jL,kE,kJ,ig,ji,kW,jM,iy,jj,kY,jN,iz,jk,kZ,jO,jP,gR,jm,iD,iG,gU,jQ,jo,jr]
    have q2:Tells ((∀ n∈ns,n≤1)∧adW rs w ns) Q μ:=q'
    exact ⟨rs,w,ns,rfl,⟨by omega,by omega⟩,⟨by omega,by omega⟩,hl',fin2 (toF q2) (fun z=>by rw [hmm.mpr z] at hd;cases hd)⟩
end NB
namespace NB
open PySem PySem.Spec L2 DL Fr
def yR:Int→Tis→List Int
 | _,[]=>[]
 | h,t::ts=>(t.1+t.2 - h)::yR (t.1+t.2 - h) ts
def Path:Int→Tis→Int→Prop
 | h,[],e=>h=e
 | h,t::ts,e=>(t.1=h∨t.2=h)∧Path (t.1+t.2 - h) ts e
theorem afi:∀ {tl:Tis} {h e:Int},Path h tl e→e∈h::yR h tl
 | [],h,e,p=>by rw [show h=e from p];exact List.mem_cons_self
 | t::tl,h,e,p=>List.mem_cons_of_mem _ (afi p.2)
theorem aax:∀ {tl:Tis} {h e:Int},Path h tl e→∀ t∈tl,t.1∈h::yR h tl∧t.2∈h::yR h tl
 | [],_,_,_,t,ht=>by cases ht
 | u :: tl, h, e, p, t, ht => by
  rcases List.mem_cons.mp ht with rfl | ht
  ·have hn:t.1+t.2 - h∈h::yR h (t::tl):=List.mem_cons_of_mem _ List.mem_cons_self
   rcases p.1 with e1 | e1
   ·rw [show t.1+t.2 - h=t.2 by omega] at hn
    exact ⟨by rw [e1];exact List.mem_cons_self,hn⟩
   ·rw [show t.1+t.2 - h=t.1 by omega] at hn
    exact ⟨hn,by rw [e1];exact List.mem_cons_self⟩
  ·have:=aax p.2 t ht
   exact ⟨List.mem_cons_of_mem _ this.1,List.mem_cons_of_mem _ this.2⟩
theorem acU:∀ {tl:Tis} {h e:Int} {been:List Int} {left:Tis},Path h tl e→(h::yR h tl).Nodup→left.Perm tl→(∀ p∈yR h tl,p ∉ been)→zu e h been left
 | [],h,e,been,left,p,_,hl,_=>by
  rw [List.perm_nil.mp hl,show h=e from p]
  exact .done
 | t :: tl, h, e, been, left, p, hn, hl, hb => by
  have hn':=List.nodup_cons.mp hn
  have he:e∈yR h (t::tl):=afi p.2
  have hne:h≠e:=fun z=>hn'.1 (z ▸ he)
  have hf:(t::tl).filter (touch h)=[t]:=by
   rw [List.filter_cons_of_pos (by rcases p.1 with z | z<;>simp [touch,z])]
   congr 1
   rw [List.filter_eq_nil_iff]
   intro u hu
   have:=aax p.2 u hu
   have h1:u.1≠h:=fun z=>hn'.1 (z ▸ this.1)
   have h2:u.2≠h:=fun z=>hn'.1 (z ▸ this.2)
   simp [touch,h1,h2]
  have hf2:left.filter (touch h)=[t]:=List.perm_singleton.mp (by have:=hl.filter (touch h);rwa [hf] at this)
  have htl:t∈left:=(List.mem_filter.mp (show t∈left.filter (touch h) by rw [hf2];exact List.mem_cons_self)).1
  have hn2:=List.nodup_cons.mp hn'.2
  refine .step hne hf2 (hb _ List.mem_cons_self) (acU p.2 hn'.2 ?_ fun q hq => ?_)
  ·have:=hl.erase t
   rwa [List.erase_cons_head] at this
  ·intro hm
   rcases List.mem_append.mp hm with hm | hm
   ·exact hb q (List.mem_cons_of_mem _ hq) hm
   ·rw [List.mem_singleton.mp hm] at hq
    exact hn2.1 hq
def mx (t:Int × Int):Int:=max t.1 t.2
theorem ab8 {t:Int × Int} {h:Int} (ht:t.1=h∨t.2=h) (hne:t.1≠t.2):(h<t.1+t.2 - h∧mx t=t.1+t.2 - h)∨(t.1+t.2 - h<h∧mx t=h):=by
 unfold mx
 omega
theorem afj:∀ {tl:Tis} {h e:Int},Path h tl e→(∀ t∈tl,t.1≠t.2)→(h::tl.map mx).Nodup→∀ p∈yR h tl,h<p
 | [],_,_,_,_,_,p,hp=>by cases hp
 | t :: tl, h, e, pa, hne, hn, p, hp => by
  have h1:=List.nodup_cons.mp hn
  have hm:mx t≠h:=fun z=>h1.1 (by rw [← z];exact List.mem_cons_self)
  rcases ab8 pa.1 (hne t List.mem_cons_self) with ⟨a,b⟩ | ⟨_,b⟩
  ·rcases List.mem_cons.mp hp with rfl | hp
   ·exact a
   ·have:=afj pa.2 (fun u hu=>hne u (List.mem_cons_of_mem _ hu)) (by rw [← b];exact h1.2) p hp
    omega
  ·exact (hm b).elim
theorem Vj:∀ {tl:Tis} {x e h:Int},Path x tl e→(∀ t∈tl,t.1≠t.2)→x<h→(tl.map mx).Nodup→h ∉ tl.map mx→h ∉ yR x tl
 | [],_,_,_,_,_,_,_,_,hp=>by cases hp
 | t :: tl, x, e, h, pa, hne, hx, hn, hm, hp => by
  have h1:=List.nodup_cons.mp hn
  have hmt:mx t≠h:=fun z=>hm (by rw [← z];exact List.mem_cons_self)
  have hm':h ∉ tl.map mx:=fun z=>hm (List.mem_cons_of_mem _ z)
  have hne':∀ u∈tl,u.1≠u.2:=fun u hu=>hne u (List.mem_cons_of_mem _ hu)
  rcases ab8 pa.1 (hne t List.mem_cons_self) with ⟨a,b⟩ | ⟨a,b⟩
  ·rcases List.mem_cons.mp hp with z | hp
   ·exact hmt (b.trans z.symm)
   ·by_cases hlt:t.1+t.2 - x<h
    ·exact Vj pa.2 hne' hlt h1.2 hm' hp
    ·have:=afj pa.2 hne' (by rw [← b];exact hn) h hp
     omega
  ·rcases List.mem_cons.mp hp with z | hp
   ·omega
   ·exact Vj pa.2 hne' (by omega) h1.2 hm' hp
theorem aay:∀ {tl:Tis} {h e:Int},Path h tl e→(∀ t∈tl,t.1≠t.2)→(tl.map mx).Nodup→(h::yR h tl).Nodup
 | [],_,_,_,_,_=>by simp [yR]
 | t :: tl, h, e, pa, hne, hn => by
  have h1:=List.nodup_cons.mp hn
  have hne':∀ u∈tl,u.1≠u.2:=fun u hu=>hne u (List.mem_cons_of_mem _ hu)
  refine List.nodup_cons.mpr ⟨fun hp => ?_,aay pa.2 hne' h1.2⟩
  rcases ab8 pa.1 (hne t List.mem_cons_self) with ⟨a,b⟩ | ⟨a,b⟩
  ·rcases List.mem_cons.mp hp with z | hp
   ·omega
   ·have:=afj pa.2 hne' (by rw [← b];exact hn) h hp
    omega
  ·rcases List.mem_cons.mp hp with z | hp
   ·omega
   ·exact Vj pa.2 hne' a h1.2 (by rw [← b];exact h1.1) hp
theorem ajS {i:Nat} {t:Int × Int} (h:Par i t):mx t=(i:Int)+1∧t.1≠t.2:=by
 unfold Par at h
 unfold mx
 omega
theorem agf {m l:Int} {T:List (Int × Int)} {F:List ((Int × Int) × Int)} (sp:Span m T) (mo:More m l T F):F.Pairwise fun a b=>a.2=1→b.2=1→mx a.1≠mx b.1:=by
 obtain ⟨E,_,_,hp⟩:=mo
 refine (hp.symm.pairwise ?_ fun h h1 h2 e=>h h2 h1 e.symm)
 rw [List.pairwise_append]
 refine ⟨?_,?_,?_⟩
 ·rw [List.pairwise_map,List.pairwise_iff_getElem]
  intro i j hi hj hij _ _ e
  have h1:=(ajS (sp.2 i _ (List.getElem?_eq_getElem hi))).1
  have h2:=(ajS (sp.2 j _ (List.getElem?_eq_getElem hj))).1
  rw [h1,h2] at e
  omega
 ·rw [List.pairwise_map]
  exact List.pairwise_iff_getElem.mpr fun i j _ _ _ h=>by cases h
 ·intro a ha b hb _ h
  obtain ⟨x,_,rfl⟩:=List.mem_map.mp hb
  cases h
theorem zip_self {α β:Type}:∀ (F:List (α × β)),(F.map (·.1)).zip (F.map (·.2))=F
 | []=>rfl
 | x::F=>by
  rw [List.map_cons,List.map_cons,List.zip_cons_cons,zip_self F]
theorem aaz (F:List ((Int × Int) × Int)):cG (F.map (·.1)) (F.map (·.2))=(F.filter fun x=>decide (0<x.2)).map (·.1):=by
 unfold cG
 rw [zip_self]
theorem agg {m l:Int} {T:List (Int × Int)} {F:List ((Int × Int) × Int)} (mo:More m l T F):(cG (F.map (·.1)) (F.map (·.2))).Perm T:=by
 obtain ⟨E,_,_,hp⟩:=mo
 rw [aaz]
 refine ((hp.filter _).map _).trans ?_
 rw [List.filter_append,List.map_append]
 have e1:((T.map fun t=>((t,1):(Int × Int) × Int)).filter fun x=>decide (0<x.2)).map (·.1)=T:=by
  rw [List.filter_eq_self.mpr (fun x hx=>by obtain ⟨t,_,rfl⟩:=List.mem_map.mp hx;rfl),List.map_map]
  exact List.map_id _
 have e2:((E.map fun t=>((t,0):(Int × Int) × Int)).filter fun x=>decide (0<x.2))=[]:=by
  rw [List.filter_eq_nil_iff]
  intro x hx
  obtain ⟨t,_,rfl⟩:=List.mem_map.mp hx
  simp
 rw [e1,e2,List.map_nil,List.append_nil]
theorem Reach.mono {ts us:Tis} {a b:Int} (h:∀ t∈ts,t∈us) (r:Reach ts a b):Reach us a b:=by
 induction r with
 | refl=>exact .refl
 | fwd _ ht ih=>exact .fwd ih (h _ ht)
 | bwd _ ht ih=>exact .bwd ih (h _ ht)
theorem Ir {m:Int} {T:Tis} (sp:Span m T):∀ (n:Nat) (p:Int),p≤n→0≤p→p<m→Reach T 0 p
 | 0,p,h,h0,_=>by
  have:p=0:=by omega
  subst this
  exact .refl
 | n + 1, p, h, h0, hm => by
  by_cases hp:p≤n
  ·exact Ir sp n p hp h0 hm
  ·have hi:p.toNat - 1<T.length:=by have:=sp.1;omega
   have ht:=sp.2 _ _ (List.getElem?_eq_getElem hi)
   have hmem:T[p.toNat - 1]∈T:=List.getElem_mem hi
   generalize T[p.toNat - 1]=t at ht hmem
   rcases ht with ⟨a,b,c⟩ | ⟨a,b,c⟩
   ·have r:=Ir sp n t.2 (by omega) b (by omega)
    refine .bwd r ?_
    rw [show ((p,t.2):Int × Int)=t from Prod.ext (by show p=t.1;omega) rfl]
    exact hmem
   ·have r:=Ir sp n t.1 (by omega) b (by omega)
    refine .fwd r ?_
    rw [show ((t.1,p):Int × Int)=t from Prod.ext rfl (by show p=t.2;omega)]
    exact hmem
theorem ajT {m l:Int} {T:Tis} {F:List ((Int × Int) × Int)} (sp:Span m T) (mo:More m l T F):RJ m (cG (F.map (·.1)) (F.map (·.2))):=by
 have hp:=agg mo
 refine ⟨by rw [hp.length_eq];exact sp.1,fun p h0 h1 => ?_⟩
 exact (Ir sp p.toNat p (by omega) h0 h1).mono fun t ht=>hp.mem_iff.mpr ht
theorem afk {F:List ((Int × Int) × Int)}:∀ {is:List Nat} {h e:Int},Tn F h is e→Path h (is.map fun i=>(F.getD i ((0,0),0)).1) e
 | [],h,e,t=>(show h=e from t)
 | i::is,h,e,⟨t,hi,ht,r⟩=>by
  have e1:(F.getD i ((0,0),0)).1=t:=by rw [List.getD_eq_getElem?_getD,hi];rfl
  show ((F.getD i ((0,0),0)).1.1=h∨(F.getD i ((0,0),0)).1.2=h)∧Path ((F.getD i ((0,0),0)).1.1+(F.getD i ((0,0),0)).1.2 - h) _ e
  rw [e1]
  exact ⟨ht,afk r⟩
theorem acV {F:List ((Int × Int) × Int)}:∀ {is:List Nat} {h e:Int},Tn F h is e→∀ i∈is,∃ t,F[i]? = some (t,1)
 | [],_,_,_,i,hi=>by cases hi
 | j::is,h,e,⟨t,hj,_,r⟩,i,hi=>by
  rcases List.mem_cons.mp hi with rfl | hi
  ·exact ⟨t,hj⟩
  ·exact acV r i hi
theorem ah4 {F:List ((Int × Int) × Int)} {is:List Nat} (hn:is.Nodup) (hl:∀ i∈is,i<F.length):(cG (F.map (·.1)) (ind F.length is)).Perm (is.map fun i=>(F.getD i ((0,0),0)).1):=by
 have e:(F.map (·.1)).zip (ind F.length is)=(List.range F.length).map fun i=>((F.getD i ((0,0),0)).1,if i∈is then (1:Int) else 0):=by
  apply List.ext_getElem?
  intro i
  rw [List.getElem?_map]
  by_cases hi:i<F.length
  ·rw [List.getElem?_range hi]
   rw [List.getElem?_zip_eq_some (z:=((F.getD i ((0,0),0)).1,if i∈is then (1:Int) else 0)) |>.mpr ⟨?_,Pn hi⟩]
   ·rfl
   ·rw [List.getElem?_map,List.getElem?_eq_getElem hi,List.getD_eq_getElem?_getD,List.getElem?_eq_getElem hi]
    rfl
  ·rw [List.getElem?_eq_none (by rw [List.length_zip,List.length_map,pK];omega),List.getElem?_eq_none (by rw [List.length_range];omega)]
   rfl
 unfold cG
 rw [e,List.filter_map,List.map_map]
 have hp:((List.range F.length).filter fun i=>decide (i∈is)).Perm is:=by
  rw [List.perm_ext_iff_of_nodup (List.nodup_range.filter _) hn]
  intro i
  rw [List.mem_filter,List.mem_range]
  constructor
  ·intro h;exact of_decide_eq_true h.2
  ·intro h;exact ⟨hl i h,decide_eq_true h⟩
 have hf:((fun x:(Int × Int) × Int=>decide (0<x.2)) ∘ fun i=>((F.getD i ((0,0),0)).1,if i∈is then (1:Int) else 0))=fun i=>decide (i∈is):=by
  funext i
  show decide ((0:Int)<if i∈is then 1 else 0)=_
  split<;>rename_i h<;>simp [h]
 rw [hf]
 exact hp.map _
theorem alz {m l b e:Int} {T:Tis} {F:List ((Int × Int) × Int)} {is:List Nat} (sp:Span m T) (mo:More m l T F) (tr:WL F b (e,is)):zu e b [b] (cG (F.map (·.1)) (ind F.length is)):=by
 obtain ⟨t1,t2,t3⟩:=tr
 have pa:=afk (show Tn F b is e from t1)
 have tk:=acV (show Tn F b is e from t1)
 have apart:=List.pairwise_iff_getElem.mp (agf sp mo)
 have hat:∀ i (hi:i∈is),∃ t,F[i]? = some (t,1)∧(F.getD i ((0,0),0)).1=t:=fun i hi=>by
  obtain ⟨t,ht⟩:=tk i hi
  exact ⟨t,ht,by rw [List.getD_eq_getElem?_getD,ht];rfl⟩
 have hne:∀ t∈is.map (fun i=>(F.getD i ((0,0),0)).1),t.1≠t.2:=fun t ht=>by
  obtain ⟨i,hi,rfl⟩:=List.mem_map.mp ht
  obtain ⟨t,h1,h2⟩:=hat i hi
  rw [h2]
  exact (Mz (Yw sp) mo _ (List.mem_of_getElem? h1)).2.2.2.2
 have hnd:((is.map fun i=>(F.getD i ((0,0),0)).1).map mx).Nodup:=by
  rw [List.map_map]
  show List.Pairwise _ _
  rw [List.pairwise_map]
  refine List.Pairwise.imp_of_mem (R:=(· ≠ ·)) (fun {i j} hi hj hij => ?_) t2
  obtain ⟨ti,h1,h2⟩:=hat i hi
  obtain ⟨tj,h3,h4⟩:=hat j hj
  show mx (F.getD i ((0,0),0)).1≠mx (F.getD j ((0,0),0)).1
  rw [h2,h4]
  obtain ⟨li,ei⟩:=List.getElem?_eq_some_iff.mp h1
  obtain ⟨lj,ej⟩:=List.getElem?_eq_some_iff.mp h3
  rcases Nat.lt_or_gt_of_ne hij with h | h
  ·have:=apart i j li lj h
   rw [ei,ej] at this
   exact this rfl rfl
  ·have:=apart j i lj li h
   rw [ei,ej] at this
   exact fun z=>this rfl rfl z.symm
 have nd:=aay pa hne hnd
 exact acU pa nd (ah4 t2 t3) fun p hp hm=>(List.nodup_cons.mp nd).1 (by rw [List.mem_singleton.mp hm] at hp;exact hp)
theorem RL {α β γ:Type} (f:Nat→α→β) (g:β→γ) (R:List α):(R.mapIdx f).map g=R.mapIdx fun i r=>g (f i r):=by
 apply List.ext_getElem?
 intro i
 rw [List.getElem?_map,List.getElem?_mapIdx,List.getElem?_mapIdx]
 cases R[i]? <;> rfl
theorem ajU {m:Int} {R:List Int} {E:List (Int × Int)} {F:List ((Int × Int) × Int)} (hm:1≤m) (hR:R.Perm (upTo m.toNat)) (pf:F.Perm ((R.mapIdx fun i r=>(((i:Int),r),(1:Int)))++E.map (·,0))):WY m (cG (F.map (·.1)) (F.map (·.2))):=by
 have hp:(cG (F.map (·.1)) (F.map (·.2))).Perm (R.mapIdx fun i r=>((i:Int),r)):=by
  rw [aaz]
  refine ((pf.filter _).map _).trans ?_
  rw [List.filter_append,List.map_append]
  have e1:((R.mapIdx fun i r=>(((i:Int),r),(1:Int))).filter fun x=>decide (0<x.2)).map (·.1)=R.mapIdx fun i r=>((i:Int),r):=by
   rw [List.filter_eq_self.mpr (fun x hx=>by
    obtain ⟨i,hi,rfl⟩:=List.mem_mapIdx.mp hx
    rfl),RL]
  have e2:((E.map fun t=>((t,0):(Int × Int) × Int)).filter fun x=>decide (0<x.2))=[]:=by
   rw [List.filter_eq_nil_iff]
   intro x hx
   obtain ⟨t,_,rfl⟩:=List.mem_map.mp hx
   simp
  rw [e1,e2,List.map_nil,List.append_nil]
 have hl:R.length=m.toNat:=by rw [hR.length_eq,lG]
 refine ⟨(hp.map _).trans ?_,(hp.map _).trans ?_⟩
 ·rw [RL]
  have:(R.mapIdx fun i r=>(i:Int))=upTo m.toNat:=by
   apply List.ext_getElem?
   intro i
   rw [List.getElem?_mapIdx]
   unfold upTo
   rw [List.getElem?_map]
   by_cases hi:i<m.toNat
   ·rw [List.getElem?_range hi,List.getElem?_eq_getElem (by omega)]
    rfl
   ·rw [List.getElem?_eq_none (by omega),List.getElem?_eq_none (by rw [List.length_range];omega)]
    rfl
  rw [this]
 ·rw [RL]
  have:(R.mapIdx fun _ r=>r)=R:=by
   apply List.ext_getElem?
   intro i
   rw [List.getElem?_mapIdx]
   cases R[i]? <;> rfl
  rw [this]
  exact hR
def EY (h:Nat) (dh:List Int):List Int:=(List.range h).flatMap fun (i:Nat)=>dh.map fun d=>if d=(i:Int) then 1 else 0
theorem aaA {h:Nat} {dh:List Int}:EY (h+1) dh=EY h dh++dh.map fun d=>if d=(h:Int) then 1 else 0:=by
 unfold EY
 rw [List.range_succ,List.flatMap_append]
 simp
theorem Vk {h:Nat} {dh:List Int}:(EY h dh).length=h*dh.length:=by
 induction h with
 | zero=>simp [EY]
 | succ h ih=>rw [aaA,List.length_append,ih,List.length_map,Nat.add_mul,Nat.one_mul]
theorem YK {dh:List Int} {k:Nat} (hk:k<dh.length):∀ {h i:Nat},i<h→(EY h dh)[i*dh.length+k]? = some (if dh[k]=(i:Int) then 1 else 0)
 | 0,i,hi=>by omega
 | h + 1, i, hi => by
  rw [aaA]
  by_cases e:i<h
  ·have:i*dh.length+k<(EY h dh).length:=by
    rw [Vk]
    have:(i+1)*dh.length≤h*dh.length:=Nat.mul_le_mul_right _ e
    rw [Nat.add_mul] at this
    omega
   rw [List.getElem?_append_left this]
   exact YK hk e
  ·have e:i=h:=by omega
   subst e
   rw [List.getElem?_append_right (by rw [Vk];omega),Vk,Nat.add_sub_cancel_left,List.getElem?_map,List.getElem?_eq_getElem hk]
   rfl
theorem ag7 {d:Int}:∀ n:Nat,((List.range n).map fun i:Nat=>if d=(i:Int) then (1:Int) else 0).sum=if 0≤d∧d<n then 1 else 0
 | 0=>by
  rw [if_neg (by omega)]
  rfl
 | n + 1 => by
  rw [List.range_succ,List.map_append,List.sum_append,ag7 n]
  show _+((if d=(n:Int) then 1 else 0)+0)=_
  by_cases e:d=n
  ·rw [if_pos e,if_neg (by omega),if_pos (by omega)]
   rfl
  ·rw [if_neg e]
   by_cases e2:0≤d∧d<n
   ·rw [if_pos e2,if_pos (by omega)]
    rfl
   ·rw [if_neg e2,if_neg (by omega)]
    rfl
theorem acW {i:Int}:∀ dh:List Int,(dh.map fun d=>if d=i then (1:Int) else 0).sum=(dh.count i:Nat)
 | []=>rfl
 | d :: r => by
  rw [List.map_cons,List.sum_cons,acW r,List.count_cons]
  by_cases e:d=i
  ·rw [if_pos e]
   simp [e]
   omega
  ·rw [if_neg e]
   simp [e]
theorem ajV {h i:Nat} {dh:List Int} (hi:i<h):vI (EY h dh) dh.length i=dh.map fun d=>if d=(i:Int) then 1 else 0:=by
 unfold vI
 apply List.ext_getElem?
 intro k
 rw [List.getElem?_take]
 by_cases hk:k<dh.length
 ·rw [if_pos hk,List.getElem?_drop,YK hk hi,List.getElem?_map,List.getElem?_eq_getElem hk]
  rfl
 ·rw [if_neg hk,List.getElem?_map,List.getElem?_eq_none (by omega)]
  rfl
theorem ajW {h w:Nat} {dh rooms:List Int} (dl:dh.length=w) (db:∀ d∈dh,0≤d∧d<h) (rl:rooms.length=h) (rb:∀ (i:Nat) (r:Int),rooms[i]? = some r→(dh.count (i:Int):Int)≤r∧r≤6):adW rooms w (EY h dh):=by
 subst dl
 refine ⟨fun k hk => ?_,fun i r hr => ?_⟩
 ·unfold Px
  rw [rl]
  have e:(List.range h).map (fun i=>(EY h dh).getD (i*dh.length+k) 0)=(List.range h).map fun i:Nat=>if dh[k]=(i:Int) then (1:Int) else 0:=by
   refine List.map_congr_left fun i hi => ?_
   rw [List.getD_eq_getElem?_getD,YK hk (List.mem_range.mp hi)]
   rfl
  rw [e,ag7,if_pos (db _ (List.getElem_mem hk))]
 ·have hi:i<h:=by rw [← rl];exact (List.getElem?_eq_some_iff.mp hr).1
  rw [ajV hi,acW]
  exact (rb i r hr).1
def Fb (lasts:List Int):List Int→Int→List (Int × Int)
 | [],_=>[]
 | o::os,t=>(t+lasts.getD o.toNat 0,lasts.getD o.toNat 0)::Fb lasts os (t+lasts.getD o.toNat 0)
theorem aaB {lasts:List Int}:∀ {os:List Int} {t:Int} {acc:List Int} {j:Nat},(∀ o∈os,o.toNat≠j)→(rB lasts os t acc)[j]? = acc[j]?
 | [],_,_,_,_=>rfl
 | o::os,t,acc,j,h=>by
  show (rB lasts os _ _)[j]? = _
  rw [aaB fun x hx=>h x (List.mem_cons_of_mem _ hx),List.getElem?_set_ne (h o List.mem_cons_self)]
theorem aaC {lasts:List Int}:∀ {os:List Int} {t:Int} {acc:List Int},(os.map Int.toNat).Nodup→(∀ o∈os,o.toNat<acc.length)→os.map (fun o=>((rB lasts os t acc).getD o.toNat 0,lasts.getD o.toNat 0))=Fb lasts os t
 | [],_,_,_,_=>rfl
 | o :: os, t, acc, hn, hl => by
  rw [List.map_cons] at hn
  have h1:=List.nodup_cons.mp hn
  show _::_=_::_
  congr 1
  ·have:(rB lasts os (t+lasts.getD o.toNat 0) (acc.set o.toNat (t+lasts.getD o.toNat 0)))[o.toNat]? = some (t+lasts.getD o.toNat 0):=by
    rw [aaB (fun x hx e=>h1.1 (by rw [← e];exact List.mem_map.mpr ⟨x,hx,rfl⟩)),List.getElem?_set_self (hl o List.mem_cons_self)]
   show ((rB lasts os (t+lasts.getD o.toNat 0) (acc.set o.toNat (t+lasts.getD o.toNat 0))).getD o.toNat 0,_)=_
   rw [List.getD_eq_getElem?_getD,this]
   rfl
  ·exact aaC h1.2 fun x hx=>by rw [List.length_set];exact hl x (List.mem_cons_of_mem _ hx)
theorem aaD {lasts:List Int} (hp:∀ l∈lasts,1≤l):∀ {os:List Int} {t:Int},(∀ o∈os,o.toNat<lasts.length)→∀ p∈Fb lasts os t,t<p.1
 | [],_,_,p,h=>by cases h
 | o :: os, t, hl, p, h => by
  have ho:1≤lasts.getD o.toNat 0:=by
   have:=hl o List.mem_cons_self
   rw [List.getD_eq_getElem?_getD,List.getElem?_eq_getElem this]
   exact hp _ (List.getElem_mem this)
  rcases List.mem_cons.mp h with rfl | h
  ·show t<t+_
   omega
  ·have:=aaD hp (fun x hx=>hl x (List.mem_cons_of_mem _ hx)) p h
   omega
theorem XC {lasts:List Int} (hp:∀ l∈lasts,1≤l):∀ {os:List Int} {t:Int},(∀ o∈os,o.toNat<lasts.length)→(Fb lasts os t).Pairwise xZ
 | [],_,_=>List.Pairwise.nil
 | o::os,t,hl=>by
  refine List.pairwise_cons.mpr ⟨fun p h => ?_,XC hp fun x hx=>hl x (List.mem_cons_of_mem _ hx)⟩
  have:=aaD hp (fun x hx=>hl x (List.mem_cons_of_mem _ hx)) p h
  unfold xZ
  rw [SrtO.lexB_no]
  show ¬ (p.1<t+lasts.getD o.toNat 0∨_)
  omega
theorem XH {lasts:List Int}:∀ {os:List Int} {t:Int} (k:Nat) (p:Int × Int),(Fb lasts os t)[k]? = some p→p.1=t+(((Fb lasts os t).take (k+1)).map (·.2)).sum
 | [],_,k,p,h=>by simp [Fb] at h
 | o::os,t,0,p,h=>by
  cases h
  simp [Fb]
 | o::os,t,k+1,p,h=>by
  have:=XH (os:=os) (t:=t+lasts.getD o.toNat 0) k p h
  rw [this,Fb,List.take_succ_cons,List.map_cons,List.sum_cons,Int.add_assoc]
theorem ah5 {lasts order:List Int} (lb:∀ l∈lasts,1≤l) (ho:order.Perm (upTo lasts.length)):aat lasts (rB lasts order 0 (List.replicate lasts.length 0)):=by
 have hlt:∀ o∈order,o.toNat<lasts.length:=fun o h=>by
  have:=vH.mp (ho.mem_iff.mp h)
  omega
 have hmp:(order.map Int.toNat).Perm (List.range lasts.length):=by
  have:=ho.map Int.toNat
  unfold upTo at this
  rw [List.map_map] at this
  have e:(Int.toNat ∘ Int.ofNat)=id:=rfl
  rw [e,List.map_id] at this
  exact this
 have hnd:(order.map Int.toNat).Nodup:=hmp.symm.nodup List.nodup_range
 have hr:=aaC (lasts:=lasts) (t:=0) (acc:=List.replicate lasts.length 0) hnd (fun o h=>by rw [List.length_replicate];exact hlt o h)
 generalize hN:rB lasts order 0 (List.replicate lasts.length 0)=N at hr ⊢
 have hNl:N.length=lasts.length:=by rw [← hN,zP,List.length_replicate]
 refine ⟨Fb lasts order 0,?_,XC lb hlt,fun k p h=>by rw [XH k p h];omega⟩
 rw [← hr]
 have e1:order.map (fun o=>(N.getD o.toNat 0,lasts.getD o.toNat 0))=(order.map Int.toNat).map fun i=>(N.getD i 0,lasts.getD i 0):=by rw [List.map_map];rfl
 have e2:N.zip lasts=(List.range lasts.length).map fun i=>(N.getD i 0,lasts.getD i 0):=by
  apply List.ext_getElem?
  intro i
  rw [List.getElem?_map]
  by_cases hi:i<lasts.length
  ·rw [List.getElem?_range hi]
   refine List.getElem?_zip_eq_some.mpr ⟨?_,?_⟩
   ·rw [List.getElem?_eq_getElem (by omega)]
    show _=some (N.getD i 0)
    rw [List.getD_eq_getElem?_getD,List.getElem?_eq_getElem (by omega)]
    rfl
   ·rw [List.getElem?_eq_getElem hi]
    show _=some (lasts.getD i 0)
    rw [List.getD_eq_getElem?_getD,List.getElem?_eq_getElem hi]
    rfl
  ·rw [List.getElem?_eq_none (by rw [List.length_zip];omega),List.getElem?_eq_none (by rw [List.length_range];omega)]
   rfl
 rw [e1,e2]
 exact hmp.map _
theorem aom {n:Nat} {is:List Nat}:∀ x∈ind n is,0≤x∧x≤1:=fun x h=>by
 obtain ⟨i,_,rfl⟩:=List.mem_map.mp h
 split<;>omega
theorem agh {m l:Int} {T:Tis} {F:List ((Int × Int) × Int)} (mo:More m l T F):∀ x∈F,0≤x.2∧x.2≤1:=fun x h=>by
 obtain ⟨E,_,_,hp⟩:=mo
 rcases List.mem_append.mp (hp.mem_iff.mp h) with h | h
 ·obtain ⟨t,_,rfl⟩:=List.mem_map.mp h
  exact ⟨show (0:Int)≤1 by decide,show (1:Int)≤1 by decide⟩
 ·obtain ⟨t,_,rfl⟩:=List.mem_map.mp h
  exact ⟨show (0:Int)≤0 by decide,show (0:Int)≤1 by decide⟩
theorem RM {a b:Tis} (h:a.map fr=b.map fr):a=b:=by
 induction a generalizing b with
 | nil=>cases b with
  | nil=>rfl
  | cons=>cases h
 | cons x a ih=>cases b with
  | nil=>cases h
  | cons y b =>
   injection h with h1 h2
   rw [ih h2]
   injection h1 with h1
   injection h1 with h3 h4
   injection h4 with h4 _
   injection h3 with h3
   injection h4 with h4
   rw [show x=y from Prod.ext h3 h4]
theorem wQ {a b:bQ} (h:a.d=b.d):a=b:=by
 injection h with h
 injection h with h1 h2
 injection h1 with h1
 cases a<;>cases b<;>first
  | (exfalso;dsimp only [bQ.word] at h1;exact absurd h1 (by decide +kernel))
  | skip
 case way.way m ts b e m' ts' b' e' =>
  injection h2 with e1 h2;injection h2 with e2 h2;injection h2 with e3 h2;injection h2 with e4 h2
  injection e1 with e1;injection e2 with e2;injection e3 with e3;injection e4 with e4
  rw [e1,RM e2,e3,e4]
 case tree.tree m ts m' ts' =>
  injection h2 with e1 h2;injection h2 with e2 h2
  injection e1 with e1;injection e2 with e2
  rw [e1,RM e2]
 case pair.pair m ts m' ts' =>
  injection h2 with e1 h2;injection h2 with e2 h2
  injection e1 with e1;injection e2 with e2
  rw [e1,RM e2]
 case deal.deal rs w rs' w' =>
  injection h2 with e1 h2;injection h2 with e2 h2
  injection e1 with e1;injection e2 with e2
  rw [ints_inj e1,e2]
 case stream.stream m ts rs k m' ts' rs' k' =>
  injection h2 with e1 h2;injection h2 with e2 h2;injection h2 with e3 h2;injection h2 with e4 h2
  injection e1 with e1;injection e2 with e2;injection e3 with e3;injection e4 with e4
  rw [e1,RM e2,ints_inj e3,ints_inj e4]
 case bench.bench ls ls' =>
  injection h2 with e1 h2
  injection e1 with e1
  rw [ints_inj e1]
theorem gY.plan {d:D} {ns:List Int} (h:gY d ns):∃ s:bQ,d=s.d∧s.Ok∧Cn s.items ns∧RK s ns:=by
 obtain ⟨s,hs,hok,hit⟩:=h.Tp
 have cn:∀ n∈ns,0≤n:=fun n hn=>((gY.UL h).bd n hn).1
 refine ⟨s,hs,hok,⟨hit.symm,cn⟩,?_⟩
 cases h with
 | tree hm sp mo =>
  rename_i m T F
  rw [oJ] at hs
  rw [← wQ (a := .tree m (F.map Prod.fst)) hs]
  refine ⟨fun n hn => ?_,ajT sp mo⟩
  obtain ⟨x,hx,rfl⟩:=List.mem_map.mp hn
  exact (agh mo x hx).2
 | way hm sp mo hb he ne tr =>
  rename_i m b e T F is
  rw [oJ] at hs
  rw [← wQ (a := .way m (F.map Prod.fst) b e) hs]
  exact ⟨fun n hn=>(aom n hn).2,alz sp mo tr⟩
 | pair hm hR hE ok pf =>
  rename_i m R E F
  rw [oJ] at hs
  rw [← wQ (a := .pair m (F.map Prod.fst)) hs]
  refine ⟨fun n hn => ?_,ajU hm.1 hR pf⟩
  obtain ⟨x,hx,rfl⟩:=List.mem_map.mp hn
  rcases List.mem_append.mp (pf.mem_iff.mp hx) with h | h
  ·obtain ⟨i,hi,rfl⟩:=List.mem_mapIdx.mp h
   exact Int.le_refl 1
  ·obtain ⟨t,_,rfl⟩:=List.mem_map.mp h
   exact (show (0:Int)≤1 by decide)
 | deal hh hw hwl dl db rl rb =>
  rename_i h w dh rooms
  rw [← wQ (a := .deal rooms w) hs]
  refine ⟨fun n hn => ?_,ajW dl db rl rb⟩
  obtain ⟨i,_,hn⟩:=List.mem_flatMap.mp hn
  obtain ⟨d,_,rfl⟩:=List.mem_map.mp hn
  split<;>omega
 | stream hm sp mo rl rb cl cb =>
  rename_i m T F rooms
  rw [oJ] at hs
  rw [← wQ (a := .stream m (F.map Prod.fst) rooms (flow m.toNat (F.map Prod.fst) ns)) hs]
  exact ⟨fun i c r h1 h2=>(cb i c r h1 h2).2,rfl⟩
 | bench h1 lb ho =>
  rename_i lasts order
  rw [← wQ (a := .bench lasts) hs]
  exact ah5 (fun l h=>(lb l h).1) ho
end NB
namespace NB
open PySem PySem.Spec L2 DL Fr
theorem ajX {ns:List Int} (h:ns.length≤1000):ab5 (.lst (ns.map D.int)):=⟨rfl,fun xs e=>by
 injection e with e
 subst e
 refine ⟨by rw [List.length_map];exact h,fun x hx => ?_⟩
 obtain ⟨n,_,rfl⟩:=List.mem_map.mp hx
 rfl⟩
end NB
namespace NB
open PySem PySem.Spec L2 DL Fr
abbrev yS:D := .int 4
abbrev W3:D := .tup [.str (PySem.Str.ofString "sum"),.str (PySem.Str.ofString "greatest")]
def NoT (C:Addr) (X:XD) (μ:M) (part number:D):Prop:=X (.ref C) (some [("number",number),("part",part)]) μ
def rJ (f:D→Bool) (xs:List D):Option Nat:=xs.findIdx? fun x => !f x
def Fd:D→Bool
 | .non=>true
 | d=>jE d
def MP:Ct:=fun ds μ Q _=>∃ d,ds=[d]∧Bo d∧Q (.bl (Fd d)) μ
def Vl (d:D):Prop:=∀ f:Fc,d=fr f→f.1.natAbs<2^4000∧f.2.natAbs<2^4000
def PL:D→Bool
 | .tup [.int a,.int b]=>jE (.tup [.int a,.int b]) && decide (0<a)
 | _=>false
def Dm:D→Bool
 | .tup [x,y]=>PL x && PL y
 | _=>false
def RowW (d:D):Prop:=Bo d∧∀ xs,d = .tup xs→∀ x∈xs,Bo x∧Vl x
def Og:Ct:=fun ds μ Q _=>∃ d,ds=[d]∧RowW d∧Q (.bl (Dm d)) μ
def Iu (many:Int) (w:D):Prop:=∃ (s:bQ) (p:D),w = .tup [s.d,p]∧s.Ok∧s.items=many∧ahY s p
def W4 (w:D):Prop:=dN w=true∧∀ s p,w = .tup [s,p]→Thing s∧ab5 p
def Vm:Ct:=fun ds μ Q _=>∃ (w:D) (many:Int),ds=[w,.int many]∧W4 w∧Tells (Iu many w) Q μ
def lowOk (p:Fc) (walked:Bool):D→Bool
 | .non => !walked
 | .tup [.int a,.int b] => !(walked && decide (a*1<0*b)) && !decide (p.1*b<a*p.2)
 | _=>false
def afl (p:Fc):D→Bool
 | .non=>true
 | .tup [.int a,.int b] => !decide (a*p.2<p.1*b)
 | _=>false
def vJ (p:Fc) (walked:Bool):D→Bool
 | .tup [lo,hi]=>(Fd lo && Fd hi) && (lowOk p walked lo && afl p hi)
 | _=>false
def RN:Ct:=fun ds μ Q _=>∃ (d:D) (p:Fc) (w:Bool),ds=[d,fr p,.bl w]∧RowW d∧Sz p∧Q (.bl (vJ p w d)) μ
def Look (C:Addr) (μ:M) (Q:QD) (X:XD) (part:Str) (o:Option D):Prop:=(o=none→Q .non μ)∧∀ n,o=some n→NoT C X μ (.str part) n
def pN:D→Option D
 | .lst xs=>if 1≤xs.length∧xs.length≤16 then (rJ jE xs).map (fun i:Nat=>D.int (i:Int)) else some .non
 | _=>some .non
def Bt (P:D→Prop) (d:D):Prop:=dN d=true∧∀ xs,d = .lst xs→xs.length≤1000∧∀ x∈xs,P x
def Gj (C:Addr):Ct:=fun ds μ Q X=>∃ d,ds=[d]∧Bt Bo d∧Look C μ Q X (PySem.Str.ofString "prices") (pN d)
def M4:bh :=
 (aW (Yb (aF (lD false) (aq 0) (dC .non)) (dCall uo (ao (aq 0) aC))))
def Fe:bh :=
 (aJ (bY (jy (eX (fu (bV (jt "tuple") (ao (aq 0) (ao (dC (.raw (.ty "tuple"))) aC))))) (dB (aF lV (bV dX (ao (aq 0) aC)) (dC (.int 2))))) (aW (dC (.bl false))) aX)
  (aW (bV NQ (ao (nH (fO (aq 0)) (bW 1) jB (nD (dCall uo (ao (aq 1) aC)) (dCall Jd (ao (dC aeS) (ao (aq 1) aC)))) [1]) aC))))
def M5:bh :=
 (aJ (bY (jy (eX (fu (bV (jt "tuple") (ao (aq 0) (ao (dC (.raw (.ty "tuple"))) aC))))) (jy (dB (aF lV (bV dX (ao (aq 0) aC)) (dC (.int 2)))) (eX (fu (dCall Rr (ao (aF aN (aq 0) (dC (.int 0))) aC)))))) (aW (dC (.bl false))) aX)
  (aW (nD (aF eY (dCall Io (ao (aF aN (aq 0) (dC (.int 0))) aC)) (aq 1)) (dCall Vg (ao (aF aN (aq 0) (dC (.int 0))) (ao (aF aN (aq 0) (dC (.int 1))) aC))))))
def Iv:bh :=
 (aJ (bY (jy (eX (fu (bV (jt "tuple") (ao (aq 0) (ao (dC (.raw (.ty "tuple"))) aC))))) (jy (dB (aF lV (bV dX (ao (aq 0) aC)) (dC (.int 2)))) (jy (eX (fu (dCall MP (ao (aF aN (aq 0) (dC (.int 0))) aC)))) (eX (fu (dCall MP (ao (aF aN (aq 0) (dC (.int 1))) aC))))))) (aW (dC (.bl false))) aX)
  (aJ (xg (aq 0) (j9 (bF (bW 3) (bF (bW 4) fH))))
  (aJ (bY (sJ (fu (aq 2)) (jy (dB (aF (lD false) (aq 3) (dC .non))) (fu (dCall Jd (ao (aq 3) (ao (dC aeS) aC)))))) (aW (dC (.bl false))) aX)
  (aJ (bY (sJ (dB (aF (lD true) (aq 3) (dC .non))) (fu (dCall Jd (ao (aq 1) (ao (aq 3) aC))))) (aW (dC (.bl false))) aX)
  (aW (Yb (aF (lD false) (aq 4) (dC .non)) (Ma (dCall Jd (ao (aq 4) (ao (aq 1) aC))))))))))
def tD (bB:Addr):bh :=
 (aJ (bY (jy (eX (fu (bV (jt "list") (ao (aq 0) (ao (dC (.raw (.ty "list"))) aC))))) (eX (dB (nY Ce Ce (dC (.int 1)) (bV dX (ao (aq 0) aC)) (dC mY))))) (lX bB ["part","number"] (ao (dC (.str (PySem.Str.ofString "prices"))) (ao (dC .non) aC))) aX)
  (j8 (Af (ao (aq 0) aC)) (j9 (bF (bW 1) (bF (bW 2) fH))) (bY (eX (fu (dCall uo (ao (aq 2) aC)))) (lX bB ["part","number"] (ao (dC (.str (PySem.Str.ofString "prices"))) (ao (aq 1) aC))) aX)))
theorem ah6:HB MP M4 1:=by
 intro ds μ Q X h
 obtain ⟨d,rfl,hr,q⟩:=h
 show M4 (ends Q XF) [some d] μ
 have hp:=hr.1
 cases d with
 | raw _=>cases hp
 | dJ _=>cases hp
 | key _=>cases hp
 | non =>
  simp! only [M4]
  exact .of q
 | _ =>
  simp! only [M4]
  exact ⟨_,rfl,hr,.of q⟩
theorem yd {ns:List Int} {m lo hi:Int} (hl:(ns.length:Int)=m) (h:∀ n∈ns,lo≤n∧n≤hi):cP m lo hi (iV ns)=true:=mF.mpr ⟨ns,rfl,hl,h⟩
theorem alA {s:bQ} (h:s.Ok):ug s.d=true:=by
 cases s with
 | way m ts b e =>
  obtain ⟨hw,hb,he,hne⟩:=h
  rw [show (bQ.way m ts b e).d = .tup (.str (PySem.Str.ofString "way")::[.int m,jx ts,.int b,.int e]) from rfl]
  unfold ug
  dsimp only
  unfold kindB
  dsimp only
  rw [if_pos rfl]
  unfold U4
  rw [Bool.and_eq_true,Bool.and_eq_true]
  refine ⟨(CZ (by decide)).mpr ⟨_,m,ts,[.int b,.int e],rfl,rfl,hw⟩,?_,?_⟩
  ·exact yd (ns:=[b,e]) rfl fun n hn=>by
    simp only [List.mem_cons,List.not_mem_nil,or_false] at hn
    rcases hn with rfl | rfl
    ·exact ⟨hb.1,by show n≤m - 1;omega⟩
    ·exact ⟨he.1,by show n≤m - 1;omega⟩
  ·show (!tU (.int b) (.int e))=true
   rw [ju,decide_eq_false hne]
   rfl
 | tree m ts =>
  have hw:Web m ts:=h
  rw [show (bQ.tree m ts).d = .tup (.str (PySem.Str.ofString "tree")::[.int m,jx ts]) from rfl]
  unfold ug
  dsimp only
  unfold kindB
  dsimp only
  rw [if_neg (by decide +kernel),if_pos rfl]
  exact (CZ (by decide)).mpr ⟨_,m,ts,[],rfl,rfl,hw⟩
 | pair m ts =>
  obtain ⟨hm,hl,ht⟩:=h
  rw [show (bQ.pair m ts).d = .tup (.str (PySem.Str.ofString "pair")::[.int m,jx ts]) from rfl]
  unfold ug
  dsimp only
  unfold kindB
  dsimp only
  rw [if_neg (by decide +kernel),if_neg (by decide +kernel),if_neg (by decide +kernel)]
  unfold WM
  dsimp only
  rw [if_pos rfl]
  show (eU 1 6 (.int m) && lH m false (jx ts))=true
  rw [Bool.and_eq_true]
  exact ⟨uG.mpr ⟨m,rfl,hm⟩,Bm.mpr ⟨ts,rfl,hl,fun t h=>⟨ht t h,fun z=>by cases z⟩⟩⟩
 | deal rs w =>
  obtain ⟨hr,hb,hw,hrw⟩:=h
  rw [show (bQ.deal rs w).d = .tup (.str (PySem.Str.ofString "deal")::[iV rs,.int w]) from rfl]
  unfold ug
  dsimp only
  unfold kindB
  dsimp only
  rw [if_neg (by decide +kernel),if_neg (by decide +kernel),if_neg (by decide +kernel)]
  unfold WM
  dsimp only
  rw [if_neg (by decide +kernel),if_pos rfl]
  show ((decide ((1:Int)≤(rs.map D.int).length) && decide (((rs.map D.int).length:Int)≤4)) && (cP (rs.map D.int).length 0 6 (iV rs) && (eU 1 6 (.int w) && decide (((rs.map D.int).length:Int)*w≤16))))=true
  rw [List.length_map,Bool.and_eq_true,Bool.and_eq_true,Bool.and_eq_true,Bool.and_eq_true]
  exact ⟨⟨decide_eq_true (by omega),decide_eq_true (by omega)⟩,yd rfl hb,uG.mpr ⟨w,rfl,hw⟩,decide_eq_true hrw⟩
 | stream m ts rs ns =>
  obtain ⟨hw,hrl,hrb,hnl,hnb,hsum⟩:=h
  rw [show (bQ.stream m ts rs ns).d = .tup (.str (PySem.Str.ofString "stream")::[.int m,jx ts,iV rs,iV ns]) from rfl]
  unfold ug
  dsimp only
  unfold kindB
  dsimp only
  rw [if_neg (by decide +kernel),if_neg (by decide +kernel),if_pos rfl]
  show (pq 5 _ && (cP (ts.map fr).length 1 9 (iV rs) && (cP m (-9) 9 (iV ns) && decide (sumOf (iV ns)=0))))=true
  rw [Bool.and_eq_true,Bool.and_eq_true,Bool.and_eq_true]
  refine ⟨(CZ (by decide)).mpr ⟨_,m,ts,[iV rs,iV ns],rfl,rfl,hw⟩,yd (by rw [List.length_map];omega) hrb,yd hnl hnb,decide_eq_true ?_⟩
  show ((ns.map D.int).map numOf).sum=0
  have:(ns.map D.int).map numOf=ns:=by rw [List.map_map];exact List.map_id'' (fun _=>rfl) ns
  rw [this]
  exact hsum
 | bench ls =>
  obtain ⟨hl,hb⟩:=h
  rw [show (bQ.bench ls).d = .tup (.str (PySem.Str.ofString "bench")::[iV ls]) from rfl]
  unfold ug
  dsimp only
  unfold kindB
  dsimp only
  rw [if_neg (by decide +kernel),if_neg (by decide +kernel),if_neg (by decide +kernel)]
  unfold WM
  dsimp only
  rw [if_neg (by decide +kernel),if_neg (by decide +kernel),if_pos rfl]
  show ((decide ((1:Int)≤(ls.map D.int).length) && decide (((ls.map D.int).length:Int)≤8)) && cP (ls.map D.int).length 1 9 (iV ls))=true
  rw [List.length_map,Bool.and_eq_true,Bool.and_eq_true]
  exact ⟨⟨decide_eq_true (by omega),decide_eq_true (by omega)⟩,yd rfl hb⟩
theorem ah7:HB Vm M5 2:=by
 intro ds μ Q X h
 obtain ⟨w,many,rfl,⟨hp,hw⟩,q⟩:=h
 show M5 (ends Q XF) [some w,some (.int many)] μ
 have no:¬ Iu many w→Q (.bl false) μ:=fun hn=>q false ⟨(fun z=>by cases z),fun z=>(hn z).elim⟩
 cases w with
 | raw _=>cases hp
 | dJ _=>cases hp
 | key _=>cases hp
 | tup xs =>
  simp! only [M5]
  refine ⟨rfl,rfl,zG (fun h => ?_) (fun h => ?_)⟩
  ·have h':¬ (xs.length:Int)=2:=by simpa using h
   walk_at "r"
   exact .of (no fun ⟨s,p,e,_⟩=>h' (by injection e with e;rw [e];rfl))
  ·have h':(xs.length:Int)=2:=by simpa using h
   obtain ⟨a,b,rfl⟩:=len2 h'
   obtain ⟨ha,hb⟩:=hw a b rfl
   walk_at "r"
   refine ⟨a,rfl,ha,?_⟩
   cases hs:ug a with
   | false =>
    walk_at "r"
    refine .of (no fun ⟨s,p,e,ok,_⟩ => ?_)
    injection e with e
    injection e with e _
    rw [e,alA ok] at hs
    cases hs
   | true =>
    obtain ⟨s,rfl,ok⟩:=ajL hs
    walk_at "r"
    refine ⟨s.d,s.items,rfl,acT ok,?_⟩
    walk_at "r"
    refine ⟨rfl,rfl,Ub (fun h1 => ?_) (fun h1 => ?_)⟩
    ·have h1:s.items=many:=by simpa using h1
     walk_at "r"
     refine ⟨s,b,rfl,ok,hb,fun t ht => .of (q t (ht.trans ⟨fun z=>⟨s,b,rfl,ok,h1,z⟩,fun ⟨s',p',e,_,_,z⟩ => ?_⟩))⟩
     injection e with e
     injection e with e e'
     injection e' with e' _
     rw [wQ e,e']
     exact z
    ·have h1:¬ s.items=many:=by simpa using h1
     refine .of (no fun ⟨s',p',e,_,h2,_⟩=>h1 ?_)
     injection e with e
     injection e with e _
     rw [wQ e]
     exact h2
 | _ =>
  simp! only [M5]
  exact .of (no fun ⟨s,p,e,_⟩=>by cases e)
theorem Vn:Sz (0,1):=⟨by decide,Nat.pow_pos (by decide),Nat.one_lt_two_pow (by decide)⟩
theorem sz_of {f:Fc} (h:jE (fr f)=true) (hs:Vl (fr f)):Sz f:=by
 obtain ⟨g,e,h1,_⟩:=Ve.mp h
 obtain ⟨a,b⟩:=hs f rfl
 have:f=g:=by
  obtain ⟨f1,f2⟩:=f
  obtain ⟨g1,g2⟩:=g
  injection e with e
  injection e with e1 e
  injection e with e2 _
  cases e1
  cases e2
  rfl
 subst this
 exact ⟨by omega,a,b⟩
theorem W6 {d:D} (h:jE d=true):∃ f:Fc,d=fr f:=let ⟨f,e,_⟩:=Ve.mp h;⟨f,e⟩
theorem alB {d:D} (h:jE d=false):PL d=false:=by
 unfold PL
 split
 ·rw [h];rfl
 ·rfl
theorem afm : HB Og Fe 2 := by
 intro ds μ Q X h
 obtain ⟨d,rfl,⟨hr,hx⟩,q⟩:=h
 show Fe (ends Q XF) [some d,none] μ
 have hp:=hr.1
 cases d with
 | raw _=>cases hp
 | dJ _=>cases hp
 | key _=>cases hp
 | tup xs =>
  have hx:=hx xs rfl
  simp! only [Fe]
  refine ⟨rfl,rfl,nU (fun h => ?_) (fun h => ?_)⟩
  ·have h':¬ (xs.length:Int)=2:=by simpa using h
   have e:Dm (.tup xs)=false:=by
    unfold Dm
    split
    ·rename_i e;cases e;exact absurd rfl h'
    ·rfl
   rw [e] at q
   walk_at "r"
   exact .of q
  ·have h':(xs.length:Int)=2:=by simpa using h
   obtain ⟨a,b,rfl⟩:=len2 h'
   walk_at "r"
   refine gH (xs:=[a,b]) (enc:=id) (g:=fun x=>D.bl (PL x)) trivial (by show 2<sizeLine;decide) (fun x hx' acc R ha hR => ?_) ?_
   ·obtain ⟨h1,h2⟩:=hx x hx'
    simp! only [id]
    refine ⟨x,rfl,h1,?_⟩
    cases hf:jE x with
    | false =>
     rw [alB hf] at hR
     walk_at "r"
     exact ⟨ha,hR⟩
    | true =>
     obtain ⟨f,rfl⟩:=W6 hf
     walk_at "r"
     refine ⟨(0,1),f,rfl,Vn,sz_of hf h2,?_⟩
     have e:decide ((0,1).1*f.2<f.1*((0,1):Fc).2)=PL (fr f):=by
      show decide (0*f.2<f.1*1)=(jE (fr f) && decide (0<f.1))
      rw [hf,Bool.true_and]
      exact decide_eq_decide.mpr (by omega)
     rw [e]
     exact ⟨ha,hR⟩
   walk_at "r"
   exact .of q
 | _ =>
  simp! only [Fe]
  exact .of q
theorem side_of {d:D} (h:Fd d=true):d = .non∨∃ f:Fc,d=fr f∧jE (fr f)=true:=by
 cases d with
 | non=>exact .inl rfl
 | tup xs =>
  have h':jE (.tup xs)=true:=h
  obtain ⟨f,e⟩:=W6 h'
  exact .inr ⟨f,e,by rw [← e];exact h'⟩
 | _=>cases h
theorem agi : HB RN Iv 5 := by
 intro ds μ Q X h
 obtain ⟨d,p,w,rfl,⟨hr,hx⟩,hs,q⟩:=h
 show Iv (ends Q XF) [some d,some (fr p),some (.bl w),none,none] μ
 have hp:=hr.1
 cases d with
 | raw _=>cases hp
 | dJ _=>cases hp
 | key _=>cases hp
 | tup xs =>
  have hx:=hx xs rfl
  simp! only [Iv]
  refine ⟨rfl,rfl,zG (fun h => ?_) (fun h => ?_)⟩
  ·have h':¬ (xs.length:Int)=2:=by simpa using h
   have e:vJ p w (.tup xs)=false:=by
    unfold vJ
    split
    ·rename_i e;cases e;exact absurd rfl h'
    ·rfl
   rw [e] at q
   walk_at "r"
   exact .of q
  ·have h' : (xs.length : Int) = 2 := by simpa using h
   obtain ⟨a,b,rfl⟩:=len2 h'
   obtain ⟨a1,a2⟩:=hx a (by simp)
   obtain ⟨b1,b2⟩:=hx b (by simp)
   rw [vJ] at q
   walk_at "r"
   refine ⟨a,rfl,a1,?_⟩
   cases ha:Fd a with
   | false =>
    rw [ha] at q
    walk_at "r"
    exact .of q
   | true =>
    walk_at "r"
    refine ⟨b,rfl,b1,?_⟩
    cases hb:Fd b with
    | false =>
     rw [ha,hb] at q
     walk_at "r"
     exact .of q
    | true =>
     rw [ha,hb,Bool.true_and,Bool.true_and] at q
     rcases side_of hb with rfl | ⟨g,rfl,hg⟩
     ·rcases side_of ha with rfl | ⟨f,rfl,hf⟩
      ·cases w with
       | true =>
        walk_at "r"
        exact .of q
       | false =>
        simp! only [fr]
        exact .of q
      ·have hsf:=sz_of hf a2
       unfold lowOk at q
       dsimp only [fr] at q
       cases w with
       | true =>
        simp! only [fr]
        refine ⟨f,(0,1),rfl,hsf,Vn,?_⟩
        dsimp only
        cases h1:decide (f.1*1<0*f.2) with
        | true =>
         rw [h1] at q
         walk_at "r"
         exact .of q
        | false =>
         rw [h1] at q
         simp! only [fr]
         refine ⟨p,f,rfl,hs,hsf,?_⟩
         cases h2:decide (p.1*f.2<f.1*p.2) with
         | true =>
          rw [h2] at q
          walk_at "r"
          exact .of q
         | false =>
          rw [h2] at q
          simp! only [fr]
          exact .of q
       | false =>
        simp! only [fr]
        refine ⟨p,f,rfl,hs,hsf,?_⟩
        cases h2:decide (p.1*f.2<f.1*p.2) with
        | true =>
         rw [h2] at q
         walk_at "r"
         exact .of q
        | false =>
         rw [h2] at q
         simp! only [fr]
         exact .of q
     ·rcases side_of ha with rfl | ⟨f,rfl,hf⟩
      ·cases w with
       | true =>
        walk_at "r"
        exact .of q
       | false =>
        simp! only [fr]
        refine ⟨g,p,rfl,sz_of hg b2,hs,?_⟩
        walk_at "r"
        exact .of q
      ·have hsf:=sz_of hf a2
       unfold lowOk at q
       dsimp only [fr] at q
       cases w with
       | true =>
        simp! only [fr]
        refine ⟨f,(0,1),rfl,hsf,Vn,?_⟩
        dsimp only
        cases h1:decide (f.1*1<0*f.2) with
        | true =>
         rw [h1] at q
         walk_at "r"
         exact .of q
        | false =>
         rw [h1] at q
         simp! only [fr]
         refine ⟨p,f,rfl,hs,hsf,?_⟩
         cases h2:decide (p.1*f.2<f.1*p.2) with
         | true =>
          rw [h2] at q
          walk_at "r"
          exact .of q
         | false =>
          rw [h2] at q
          simp! only [fr]
          refine ⟨g,p,rfl,sz_of hg b2,hs,?_⟩
          walk_at "r"
          exact .of q
       | false =>
        simp! only [fr]
        refine ⟨p,f,rfl,hs,hsf,?_⟩
        cases h2:decide (p.1*f.2<f.1*p.2) with
        | true =>
         rw [h2] at q
         walk_at "r"
         exact .of q
        | false =>
         rw [h2] at q
         simp! only [fr]
         refine ⟨g,p,rfl,sz_of hg b2,hs,?_⟩
         walk_at "r"
         exact .of q
 | _ =>
  simp! only [Iv]
  exact .of q
theorem agj {f:D→Bool} {xs pre post:List D} {x:D} (h:xs=pre++x::post) (hp:∀ y∈pre,f y=true) (hx:f x=false):rJ f xs=some pre.length:=by
 unfold rJ
 rw [h,List.findIdx?_append,List.findIdx?_eq_none_iff.mpr (fun y hy=>by rw [hp y hy];rfl),List.findIdx?_cons,hx]
 simp
theorem Fg {f:D→Bool} {xs:List D} (h:∀ y∈xs,f y=true):rJ f xs=none:=List.findIdx?_eq_none_iff.mpr fun y hy=>by rw [h y hy];rfl
theorem ag8 {xs:List D} {pre post:List (D × Nat)} {x:D} {i:Nat} (h:xs.zipIdx=pre++(x,i)::post):xs=pre.map (·.1)++x::post.map (·.1)∧i=pre.length:=by
 have h1:xs=(pre++(x,i)::post).map (·.1):=by rw [← h,List.zipIdx_map_fst]
 refine ⟨by rw [h1,List.map_append];rfl,?_⟩
 have h2:(xs.zipIdx)[pre.length]? = some (x,i):=by rw [h,List.getElem?_append_right (Nat.le_refl _),Nat.sub_self];rfl
 rw [List.getElem?_zipIdx] at h2
 obtain ⟨y,_,e⟩:=Option.map_eq_some_iff.mp h2
 have:=congrArg Prod.snd e
 simp at this
 omega
theorem Xh {C:Addr}:vD (Gj C) (tD C) 3:=by
 intro ds μ Q X h
 obtain ⟨d,rfl,⟨hp,hx⟩,hl⟩:=h
 show tD C (ends Q (sS X)) [some d,none,none] μ
 cases d with
 | raw _=>cases hp
 | dJ _=>cases hp
 | key _=>cases hp
 | lst xs =>
  obtain ⟨hx1,hx2⟩:=hx xs rfl
  simp! only [tD]
  have bad:¬ (1≤xs.length∧xs.length≤16)→NoT C X μ (.str (PySem.Str.ofString "prices")) .non:=fun hn=>hl.2 _ (by unfold pN;dsimp only;rw [if_neg hn])
  cases h1:decide ((1:Int)≤xs.length) with
  | false =>
   have h1:=of_decide_eq_false h1
   walk_at "r"
   exact ⟨μ,Sub.refl _,bad fun z=>by omega⟩
  | true =>
   have h1:=of_decide_eq_true h1
   walk_at "r"
   cases h2:decide ((xs.length:Int)≤16) with
   | false =>
    have h2:=of_decide_eq_false h2
    walk_at "r"
    exact ⟨μ,Sub.refl _,bad fun z=>by omega⟩
   | true =>
    have h2:=of_decide_eq_true h2
    have ep:pN (.lst xs)=(rJ jE xs).map (fun i:Nat=>D.int (i:Int)):=by unfold pN;dsimp only;rw [if_pos ⟨by omega,by omega⟩]
    rw [ep] at hl
    walk_at "r"
    have em:yx 0 xs=xs.zipIdx.map fun p => .tup [.int ((p.2:Nat):Int),id p.1]:=by
     have:=Yi (e1:=id) (xs:=xs)
     rw [List.map_id] at this
     exact this
    rw [em]
    refine wI (fun pre δ μ'=>μ'=μ∧(∀ p∈pre,jE p.1=true)∧∃ y z,δ=[some (.lst xs),y,z]) ⟨rfl,(fun p hp=>by cases hp),_,_,rfl⟩ ?_ ?_
    ·rintro pre ⟨x,i⟩ post δ μ' hz ⟨rfl,hg,y,z,rfl⟩
     obtain ⟨e1,e2⟩:=ag8 hz
     refine ⟨trivial,?_⟩
     simp! only [id]
     refine ⟨x,rfl,hx2 x (by rw [e1];exact List.mem_append_right _ List.mem_cons_self),?_⟩
     cases hf:jE x with
     | false =>
      have ef:=agj e1 (fun y hy=>by obtain ⟨p,hp',rfl⟩:=List.mem_map.mp hy;exact hg p hp') hf
      rw [List.length_map,← e2] at ef
      walk_at "r"
      exact ⟨μ',Sub.refl _,hl.2 _ (by rw [ef];rfl)⟩
     | true =>
      walk_at "r"
      refine ⟨fun p hp' => ?_,_,_,rfl⟩
      rcases List.mem_append.mp hp' with h | h
      ·exact hg p h
      ·rw [List.mem_singleton.mp h];exact hf
    ·rintro δ μ' ⟨rfl,hg,y,z,rfl⟩
     refine ⟨trivial,?_⟩
     have en:rJ jE xs=none:=Fg fun y hy=>by
      obtain ⟨i,hi⟩:=List.getElem?_of_mem hy
      exact hg (y,i) (List.mem_zipIdx_iff_getElem?.mpr hi)
     exact .of (hl.1 (by rw [en];rfl))
 | _ =>
  simp! only [tD]
  exact ⟨μ,Sub.refl _,hl.2 _ rfl⟩
end NB
namespace NB
open PySem PySem.Spec L2 DL Fr
def Fw (g:D→Nat→Bool) (xs:List D):Option Nat:=xs.zipIdx.findIdx? fun p => !g p.1 p.2
theorem RP {f:D→Bool} {xs:List D}:Fw (fun x _=>f x) xs=rJ f xs:=by
 unfold Fw rJ
 have:xs.findIdx? (fun x => !f x)=(xs.zipIdx.map Prod.fst).findIdx? (fun x => !f x):=by rw [List.zipIdx_map_fst]
 rw [this,List.findIdx?_map]
 rfl
theorem YL {ok:M→Prop} {f:qT} {tb:bh} {E:bM} {xs:List D} {δ:Sl} {μ:M} {g:D→Nat→Bool} (J:Sl→Prop) (h0:J δ) (hok:ok μ)
  (ht:∀ x i δ,xs[i]? = some x→J δ→∀ E':bM,E'.xc=E.xc→E'.rt=E.rt→(g x i=false→Fw g xs=some i)→(g x i=true→∀ δ',J δ'→E'.nx δ' μ)→Ho (f μ (.tup [.int (i:Nat),x])) tb E' δ μ)
  (he:Fw g xs=none→∀ δ,J δ→E.nx δ μ):adP ok f tb E (yx 0 xs) δ μ:=by
 have em:yx 0 xs=xs.zipIdx.map fun p => .tup [.int ((p.2:Nat):Int),id p.1]:=by
  have:=Yi (e1:=id) (xs:=xs)
  rw [List.map_id] at this
  exact this
 rw [em]
 refine wI (fun pre δ μ'=>μ'=μ∧(∀ p∈pre,g p.1 p.2=true)∧J δ) ⟨rfl,(fun p hp=>by cases hp),h0⟩ ?_ ?_
 ·rintro pre ⟨x,i⟩ post δ μ' hz ⟨rfl,hg,hJ⟩
  have hi:i=pre.length:=(ag8 hz).2
  have hx:xs[i]? = some x:=List.mem_zipIdx_iff_getElem?.mp (by rw [hz];exact List.mem_append_right _ List.mem_cons_self)
  refine ⟨hok,ht x i δ hx hJ { E with nx:=_,ct:=_,bk:=_ } rfl rfl (fun hf => ?_) (fun hf δ' hJ'=>⟨rfl,fun p hp' => ?_,hJ'⟩)⟩
  ·unfold Fw
   rw [hz,List.findIdx?_append,List.findIdx?_eq_none_iff.mpr (fun y hy=>by rw [hg y hy];rfl),List.findIdx?_cons]
   subst hi
   simp [hf]
  ·rcases List.mem_append.mp hp' with h | h
   ·exact hg p h
   ·rw [List.mem_singleton.mp h];exact hf
 ·rintro δ μ' ⟨rfl,hg,hJ⟩
  exact ⟨hok,he (List.findIdx?_eq_none_iff.mpr fun p hp=>by rw [hg p hp];rfl) δ hJ⟩
noncomputable def RQ (many:Int) (w:D):Bool := @decide (Iu many w) (Classical.propDecidable _)
theorem Vo {many:Int} {w:D}:RQ many w=true↔Iu many w:=by
 unfold RQ
 exact @decide_eq_true_iff _ (Classical.propDecidable _)
def ab9 (o:Option Nat):Option D:=o.map fun i:Nat=>D.int (i:Int)
noncomputable def pO (many:Int):D→Option D
 | .lst xs=>if 1≤xs.length∧xs.length≤4 then ab9 (rJ (RQ many) xs) else some .non
 | _=>some .non
def wR (ps:List Fc) (w:Bool):D→Option D
 | .lst xs=>if xs.length=ps.length then ab9 (Fw (fun x i=>vJ (ps.getD i (0,1)) w x) xs) else some .non
 | _=>some .non
def tE (many:Nat):D→Option D
 | .lst xs=>if xs.length=many then ab9 (rJ Dm xs) else some .non
 | _=>some .non
def Gk (C:Addr):Ct:=fun ds μ Q X=>∃ (d:D) (many:Int),ds=[d,.int many]∧Bt W4 d∧Look C μ Q X (PySem.Str.ofString "wishes") (pO many d)
def Gm (C:Addr):Ct:=fun ds μ Q X=>∃ (d:D) (ps:List Fc) (w:Bool),ds=[d,.lst (ps.map fr),.bl w]∧Bt RowW d∧(∀ p∈ps,Sz p)∧Look C μ Q X (PySem.Str.ofString "bounds") (wR ps w d)
def Dq (C:Addr):Ct:=fun ds μ Q X=>∃ (d:D) (many:Nat),ds=[d,.int many]∧Bt RowW d∧Look C μ Q X (PySem.Str.ofString "weights") (tE many d)
def ab':D→Bool
 | .tup [.tup (.str x::_),_]=>decide (x=PySem.Str.ofString "way")
 | _=>false
def Vp:Ct:=fun ds μ Q _=>∃ ws:List (Str × List D × D),ds=[.lst (ws.map fun w => .tup [.tup (.str w.1::w.2.1),w.2.2])]∧ws.length≤1000∧Q (.bl (ws.any fun w=>decide (w.1=PySem.Str.ofString "way"))) μ
def tG (bB:Addr):bh :=
 (aJ (bY (jy (eX (fu (bV (jt "list") (ao (aq 0) (ao (dC (.raw (.ty "list"))) aC))))) (eX (dB (nY Ce Ce (dC (.int 1)) (bV dX (ao (aq 0) aC)) (dC yS))))) (lX bB ["part","number"] (ao (dC (.str (PySem.Str.ofString "wishes"))) (ao (dC .non) aC))) aX)
  (j8 (Af (ao (aq 0) aC)) (j9 (bF (bW 2) (bF (bW 3) fH))) (bY (eX (fu (dCall Vm (ao (aq 3) (ao (aq 1) aC))))) (lX bB ["part","number"] (ao (dC (.str (PySem.Str.ofString "wishes"))) (ao (aq 2) aC))) aX)))
def tH (bB:Addr):bh :=
 (aJ (bY (jy (eX (fu (bV (jt "list") (ao (aq 0) (ao (dC (.raw (.ty "list"))) aC))))) (dB (aF lV (bV dX (ao (aq 0) aC)) (bV dX (ao (aq 1) aC))))) (lX bB ["part","number"] (ao (dC (.str (PySem.Str.ofString "bounds"))) (ao (dC .non) aC))) aX)
  (j8 (Af (ao (aq 0) aC)) (j9 (bF (bW 3) (bF (bW 4) fH))) (bY (eX (fu (dCall RN (ao (aq 4) (ao (aF aN (aq 1) (aq 3)) (ao (aq 2) aC)))))) (lX bB ["part","number"] (ao (dC (.str (PySem.Str.ofString "bounds"))) (ao (aq 3) aC))) aX)))
def rC (bB:Addr):bh :=
 (aJ (bY (jy (eX (fu (bV (jt "list") (ao (aq 0) (ao (dC (.raw (.ty "list"))) aC))))) (dB (aF lV (bV dX (ao (aq 0) aC)) (aq 1)))) (lX bB ["part","number"] (ao (dC (.str (PySem.Str.ofString "weights"))) (ao (dC .non) aC))) aX)
  (j8 (Af (ao (aq 0) aC)) (j9 (bF (bW 2) (bF (bW 3) fH))) (bY (eX (fu (dCall Og (ao (aq 3) aC)))) (lX bB ["part","number"] (ao (dC (.str (PySem.Str.ofString "weights"))) (ao (aq 2) aC))) aX)))
def Vq:bh :=
 (aW (aF (gIn false) (dC (.str (PySem.Str.ofString "way"))) (nH (fO (aq 0)) (j9 (bF (bW 1) (bF (bW 2) fH))) jB (aF aN (aq 1) (dC (.int 0))) [1,2])))
def wU (bB:Addr):bh :=
 (aJ (bY (jy (eX (fu (bV (jt "tuple") (ao (aq 0) (ao (dC (.raw (.ty "tuple"))) aC))))) (dB (aF lV (bV dX (ao (aq 0) aC)) (dC (.int 5))))) (lX bB ["part","number"] (ao (dC .non) (ao (dC .non) aC))) aX)
  (aJ (xg (aq 0) (j9 (bF (bW 1) (bF (bW 2) (bF (bW 3) (bF (bW 4) (bF (bW 5) fH)))))))
  (aJ (gJ (dCall (Gj bB) (ao (aq 1) aC)))
  (aJ (gJ (dCall (Gk bB) (ao (aq 2) (ao (bV dX (ao (aq 1) aC)) aC))))
  (aJ (gJ (dCall (Gm bB) (ao (aq 3) (ao (aq 1) (ao (dCall Vp (ao (aq 2) aC)) aC)))))
  (aJ (gJ (dCall (Dq bB) (ao (aq 4) (ao (bV dX (ao (aq 1) aC)) aC))))
  (bY (jy (eX (fu (bV (jt "str") (ao (aq 5) (ao (dC (.raw (.ty "str"))) aC))))) (dB (aF (gIn true) (aq 5) (dC W3)))) (lX bB ["part","number"] (ao (dC (.str (PySem.Str.ofString "word"))) (ao (dC .non) aC))) aX)))))))
theorem Xi {C:Addr}:vD (Gk C) (tG C) 4:=by
 intro ds μ Q X h
 obtain ⟨d,many,rfl,⟨hp,hx⟩,hl⟩:=h
 show tG C (ends Q (sS X)) [some d,some (.int many),none,none] μ
 cases d with
 | raw _=>cases hp
 | dJ _=>cases hp
 | key _=>cases hp
 | lst xs =>
  obtain ⟨hx1,hx2⟩:=hx xs rfl
  simp! only [tG]
  have bad:¬ (1≤xs.length∧xs.length≤4)→NoT C X μ (.str (PySem.Str.ofString "wishes")) .non:=fun hn=>hl.2 _ (by unfold pO;dsimp only;rw [if_neg hn])
  cases h1:decide ((1:Int)≤xs.length) with
  | false =>
   have h1:=of_decide_eq_false h1
   walk_at "r"
   exact ⟨μ,Sub.refl _,bad fun z=>by omega⟩
  | true =>
   have h1:=of_decide_eq_true h1
   walk_at "r"
   cases h2:decide ((xs.length:Int)≤4) with
   | false =>
    have h2:=of_decide_eq_false h2
    walk_at "r"
    exact ⟨μ,Sub.refl _,bad fun z=>by omega⟩
   | true =>
    have h2:=of_decide_eq_true h2
    have ep:pO many (.lst xs)=ab9 (rJ (RQ many) xs):=by unfold pO;dsimp only;rw [if_pos ⟨by omega,by omega⟩]
    rw [ep] at hl
    walk_at "r"
    refine YL (g:=fun x _=>RQ many x) (fun δ=>∃ y z,δ=[some (.lst xs),some (.int many),y,z]) ⟨_,_,rfl⟩ trivial ?_ ?_
    ·rintro x i δ hxi ⟨y,z,rfl⟩ E' hE hE2 hf ht
     walk_at "r"
     refine ⟨x,many,rfl,hx2 x (List.mem_of_getElem? hxi),fun b hb => ?_⟩
     have eb:b=RQ many x:=Bool.eq_iff_iff.mpr (hb.trans Vo.symm)
     subst eb
     cases hw:RQ many x with
     | false =>
      walk_at "r"
      rw [hE]
      exact ⟨μ,Sub.refl _,hl.2 _ (by rw [← RP,hf hw];rfl)⟩
     | true =>
      walk_at "r"
      exact ht hw _ ⟨_,_,rfl⟩
    ·rintro hn δ ⟨y,z,rfl⟩
     exact .of (hl.1 (by rw [← RP,hn];rfl))
 | _ =>
  simp! only [tG]
  exact ⟨μ,Sub.refl _,hl.2 _ rfl⟩
theorem Xj {C:Addr}:vD (Gm C) (tH C) 5:=by
 intro ds μ Q X h
 obtain ⟨d,ps,w,rfl,⟨hp,hx⟩,hs,hl⟩:=h
 show tH C (ends Q (sS X)) [some d,some (.lst (ps.map fr)),some (.bl w),none,none] μ
 cases d with
 | raw _=>cases hp
 | dJ _=>cases hp
 | key _=>cases hp
 | lst xs =>
  obtain ⟨hx1,hx2⟩:=hx xs rfl
  simp! only [tH]
  refine ⟨rfl,rfl,?_⟩
  rw [List.length_map]
  refine nU (fun h => ?_) (fun h => ?_)
  ·have h:¬ xs.length=ps.length:=fun z=>h (by rw [z])
   walk_at "r"
   exact ⟨μ,Sub.refl _,hl.2 _ (by unfold wR;dsimp only;rw [if_neg h])⟩
  ·have h:xs.length=ps.length:=by omega
   have ep:wR ps w (.lst xs)=ab9 (Fw (fun x i=>vJ (ps.getD i (0,1)) w x) xs):=by unfold wR;dsimp only;rw [if_pos h]
   rw [ep] at hl
   walk_at "r"
   refine YL (g:=fun x i=>vJ (ps.getD i (0,1)) w x) (fun δ=>∃ y z,δ=[some (.lst xs),some (.lst (ps.map fr)),some (.bl w),y,z]) ⟨_,_,rfl⟩ trivial ?_ ?_
   ·rintro x i δ hxi ⟨y,z,rfl⟩ E' hE hE2 hf ht
    have hi:i<ps.length:=by rw [← h];exact (List.getElem?_eq_some_iff.mp hxi).1
    have hpi:ps[i]? = some (ps.getD i (0,1)):=by rw [List.getD_eq_getElem?_getD,List.getElem?_eq_getElem hi];rfl
    have ea:atI (ps.map fr) (i:Int)=some (fr (ps.getD i (0,1))):=by rw [atI_nat,List.getElem?_map,hpi];rfl
    simp! only [ea]
    refine ⟨x,ps.getD i (0,1),w,rfl,hx2 x (List.mem_of_getElem? hxi),hs _ (List.mem_of_getElem? hpi),?_⟩
    cases hw:vJ (ps.getD i (0,1)) w x with
    | false =>
     walk_at "r"
     rw [hE]
     exact ⟨μ,Sub.refl _,hl.2 _ (by rw [hf hw];rfl)⟩
    | true =>
     walk_at "r"
     exact ht hw _ ⟨_,_,rfl⟩
   ·rintro hn δ ⟨y,z,rfl⟩
    exact .of (hl.1 (by rw [hn];rfl))
 | _ =>
  simp! only [tH]
  exact ⟨μ,Sub.refl _,hl.2 _ rfl⟩
theorem Vr {C:Addr}:vD (Dq C) (rC C) 4:=by
 intro ds μ Q X h
 obtain ⟨d,many,rfl,⟨hp,hx⟩,hl⟩:=h
 show rC C (ends Q (sS X)) [some d,some (.int many),none,none] μ
 cases d with
 | raw _=>cases hp
 | dJ _=>cases hp
 | key _=>cases hp
 | lst xs =>
  obtain ⟨hx1,hx2⟩:=hx xs rfl
  simp! only [rC]
  refine ⟨rfl,rfl,?_⟩
  refine nU (fun h => ?_) (fun h => ?_)
  ·have h:¬ xs.length=many:=fun z=>h (by rw [z])
   walk_at "r"
   exact ⟨μ,Sub.refl _,hl.2 _ (by unfold tE;dsimp only;rw [if_neg h])⟩
  ·have h:xs.length=many:=by omega
   have ep:tE many (.lst xs)=ab9 (rJ Dm xs):=by unfold tE;dsimp only;rw [if_pos h]
   rw [ep] at hl
   walk_at "r"
   refine YL (g:=fun x i=>Dm x) (fun δ=>∃ y z,δ=[some (.lst xs),some (.int many),y,z]) ⟨_,_,rfl⟩ trivial ?_ ?_
   ·rintro x i δ hxi ⟨y,z,rfl⟩ E' hE hE2 hf ht
    walk_at "r"
    refine ⟨x,rfl,hx2 x (List.mem_of_getElem? hxi),?_⟩
    cases hw:Dm x with
    | false =>
     walk_at "r"
     rw [hE]
     exact ⟨μ,Sub.refl _,hl.2 _ (by rw [← RP,hf hw];rfl)⟩
    | true =>
     walk_at "r"
     exact ht hw _ ⟨_,_,rfl⟩
   ·rintro hn δ ⟨y,z,rfl⟩
    exact .of (hl.1 (by rw [← RP,hn];rfl))
 | _ =>
  simp! only [rC]
  exact ⟨μ,Sub.refl _,hl.2 _ rfl⟩
theorem ag9 {w:Str} {α:Type} {f:α→Str}:∀ {ws:List α},inD (.str w) (ws.map fun a=>D.str (f a))=ws.any fun a=>decide (f a=w)
 | []=>rfl
 | a::ws=>by
  have ih:=ag9 (w:=w) (f:=f) (ws:=ws)
  unfold inD at ih ⊢
  rw [List.map_cons,List.any_cons,List.any_cons,ih,ux]
theorem flat_strs {α:Type} {f:α→Str} {ws:List α}:(ws.map fun w=>D.str (f w)).all jd=true:=by
 rw [List.all_map]
 exact List.all_eq_true.mpr fun x _=>rfl
theorem ah8:HB Vp Vq 3:=by
 intro ds μ Q X h
 obtain ⟨ws,rfl,hl,q⟩:=h
 show Vq (ends Q XF) [some _,none,none] μ
 have sz:16777216≤sizeLine:=by decide
 simp! only [Vq]
 refine gH (xs:=ws) (enc:=fun w => .tup [.tup (.str w.1::w.2.1),w.2.2]) (g:=fun w => .str w.1) trivial (by omega) (fun w hw acc R ha hR => ?_) ?_
 ·walk_at "r"
  exact ⟨ha,hR⟩
 simp! only [ag9,flat_strs,jd]
 exact .of q
def afn (d:D):Prop:=Bo d∧Vl d
structure Bu (d:D):Prop where
 p:dN d=true
 t:∀ a b c e w,d = .tup [a,b,c,e,w]→Bt afn a∧Bt W4 b∧Bt RowW c∧Bt RowW e∧dN w=true
def acd:D→Fc
 | .tup [.int a,.int b]=>(a,b)
 | _=>(0,1)
def rK:D→List D
 | .lst xs=>xs
 | _=>[]
def aaE:D→Bool
 | .str w=>decide (PySem.Str.ofString "sum" = w) || decide (PySem.Str.ofString "greatest" = w)
 | _=>false
noncomputable def dU:D→Option (D × D)
 | .tup [a,b,c,e,w]=>match pN a with
  | some n=>some (.str (PySem.Str.ofString "prices"),n)
  | none=>match pO (rK a).length b with
   | some n=>some (.str (PySem.Str.ofString "wishes"),n)
   | none=>match wR ((rK a).map acd) ((rK b).any ab') c with
    | some n=>some (.str (PySem.Str.ofString "bounds"),n)
    | none=>match tE (rK a).length e with
     | some n=>some (.str (PySem.Str.ofString "weights"),n)
     | none=>if aaE w then none else some (.str (PySem.Str.ofString "word"),.non)
 | _=>some (.non,.non)
def Vs (C:Addr):Ct:=fun ds μ Q X=>∃ d,ds=[d]∧Bu d∧(dU d=none→Q .non μ)∧∀ a b,dU d=some (a,b)→NoT C X μ a b
theorem ah9 {P R:D→Prop} {d:D} (h:Bt P d) (i:∀ x,P x→R x):Bt R d:=⟨h.1,fun xs e=>⟨(h.2 xs e).1,fun x hx=>i x ((h.2 xs e).2 x hx)⟩⟩
theorem Vt {f:D→Bool} {xs:List D} (h:rJ f xs=none):∀ x∈xs,f x=true:=fun x hx=>by
 have:=List.findIdx?_eq_none_iff.mp h x hx
 simpa using this
theorem ajY {a:D} (h:pN a=none):∃ ps:List Fc,a = .lst (ps.map fr)∧(∀ p∈ps,jE (fr p)=true)∧(rK a).map acd=ps∧1≤ps.length∧ps.length≤16:=by
 cases a with
 | lst xs =>
  unfold pN at h
  dsimp only at h
  split at h
  ·rename_i hl
   have hf:=Vt (Option.map_eq_none_iff.mp h)
   have e:∀ ys:List D,(∀ y∈ys,jE y=true)→ys=(ys.map acd).map fr:=by
    intro ys hy
    rw [List.map_map]
    refine (List.map_id ys).symm.trans (List.map_congr_left fun y h => ?_)
    obtain ⟨f,rfl⟩:=W6 (hy y h)
    rfl
   refine ⟨xs.map acd,by rw [← e xs hf],fun p hp => ?_,rfl,by rw [List.length_map];exact hl.1,by rw [List.length_map];exact hl.2⟩
   obtain ⟨y,hy,rfl⟩:=List.mem_map.mp hp
   obtain ⟨f,rfl⟩:=W6 (hf y hy)
   exact hf _ hy
  ·cases h
 | _=>cases h
theorem ajZ {b:D} {many:Int} (h:pO many b=none):∃ ws:List (Str × List D × D),b = .lst (ws.map fun w => .tup [.tup (.str w.1::w.2.1),w.2.2])∧(rK b).any ab'=(ws.any fun w=>decide (w.1=PySem.Str.ofString "way"))∧(∀ w∈rK b,Iu many w)∧ws.length≤4∧1≤ws.length:=by
 cases b with
 | lst xs =>
  unfold pO at h
  dsimp only at h
  split at h
  ·rename_i hl
   have hf:=Vt (Option.map_eq_none_iff.mp h)
   have hw:∀ w∈xs,Iu many w:=fun w hw=>Vo.mp (hf w hw)
   have key:∀ ys:List D,(∀ w∈ys,Iu many w)→∃ ws:List (Str × List D × D),ys=(ws.map fun w => .tup [.tup (.str w.1::w.2.1),w.2.2])∧ys.any ab'=(ws.any fun w=>decide (w.1=PySem.Str.ofString "way")):=by
    intro ys
    induction ys with
    | nil=>exact fun _=>⟨[],rfl,rfl⟩
    | cons y ys ih =>
     intro hy
     obtain ⟨ws,e1,e2⟩:=ih fun w hw=>hy w (List.mem_cons_of_mem _ hw)
     obtain ⟨s,p,e,_⟩:=hy y List.mem_cons_self
     subst e
     refine ⟨(s.word,s.rest,p)::ws,by rw [List.map_cons,← e1];rfl,?_⟩
     rw [List.any_cons,List.any_cons,e2]
     rfl
   obtain ⟨ws,e1,e2⟩:=key xs hw
   have hlen:xs.length=ws.length:=by rw [e1,List.length_map]
   exact ⟨ws,by rw [e1],e2,hw,by omega,by omega⟩
  ·cases h
 | _=>cases h
theorem aaF {C:Addr}:vD (Vs C) (wU C) 6:=by
 intro ds μ Q X h
 obtain ⟨d,rfl,ht,hq,hx⟩:=h
 show wU C (ends Q (sS X)) [some d,none,none,none,none,none] μ
 have hp:=ht.p
 cases d with
 | raw _=>cases hp
 | dJ _=>cases hp
 | key _=>cases hp
 | tup xs =>
  simp! only [wU]
  refine ⟨rfl,rfl,nU (fun h => ?_) (fun h => ?_)⟩
  ·have h:¬ (xs.length:Int)=5:=by simpa using h
   walk_at "r"
   refine ⟨μ,Sub.refl _,hx _ _ ?_⟩
   unfold dU
   split
   ·rename_i e
    injection e with e
    subst e
    exact absurd rfl h
   ·rfl
  ·have h:(xs.length:Int)=5:=by simpa using h
   obtain ⟨a,b,c,e,w,rfl⟩:=aoc h
   obtain ⟨ha,hb,hc,he,hw⟩:=ht.t a b c e w rfl
   unfold dU at hq hx
   dsimp only at hq hx
   walk_at "r"
   refine ⟨a,rfl,ah9 ha fun x h=>h.1,fun hn => ?_,fun n hn=>⟨μ,Sub.refl _,hx _ _ (by rw [hn])⟩⟩
   rw [hn] at hq hx
   dsimp only at hq hx
   obtain ⟨ps,rfl,hfr,hps,p1,p2⟩:=ajY hn
   have hsz:∀ p∈ps,Sz p:=fun p hp=>sz_of (hfr p hp) ((ha.2 _ rfl).2 _ (List.mem_map_of_mem hp)).2
   rw [hps] at hq hx
   have e1:(rK (.lst (ps.map fr))).length=(ps.map fr).length:=rfl
   rw [e1] at hq hx
   walk_at "r"
   refine ⟨b,_,rfl,hb,fun hn2 => ?_,fun n hn2=>⟨μ,Sub.refl _,hx _ _ (by rw [hn2])⟩⟩
   rw [hn2] at hq hx
   dsimp only at hq hx
   obtain ⟨ws,rfl,hwy,_,hw4,_⟩:=ajZ hn2
   rw [hwy] at hq hx
   walk_at "r"
   refine ⟨ws,rfl,by omega,?_⟩
   walk_at "r"
   refine ⟨c,ps,_,rfl,hc,hsz,fun hn3 => ?_,fun n hn3=>⟨μ,Sub.refl _,hx _ _ (by rw [hn3])⟩⟩
   rw [hn3] at hq hx
   dsimp only at hq hx
   walk_at "r"
   refine ⟨e,_,rfl,he,fun hn4 => ?_,fun n hn4=>⟨μ,Sub.refl _,hx _ _ (by rw [hn4])⟩⟩
   rw [hn4] at hq hx
   dsimp only at hq hx
   cases w with
   | raw _=>cases hw
   | dJ _=>cases hw
   | key _=>cases hw
   | str z =>
    simp! only [jd]
    have ei:inD (.str z) [.str (PySem.Str.ofString "sum"),.str (PySem.Str.ofString "greatest")]=aaE (.str z):=by
     unfold inD aaE
     rw [List.any_cons,List.any_cons,List.any_nil,ux,ux,Bool.or_false]
    rw [ei]
    cases hwb:aaE (.str z) with
    | true =>
     walk_at "r"
     exact .of (hq (by rw [hwb];rfl))
    | false =>
     walk_at "r"
     exact ⟨μ,Sub.refl _,hx _ _ (by rw [hwb];rfl)⟩
   | _ =>
    walk_at "r"
    exact ⟨μ,Sub.refl _,hx _ _ rfl⟩
 | _ =>
  simp! only [wU]
  exact ⟨μ,Sub.refl _,hx _ _ rfl⟩
end NB
namespace NB
open PySem PySem.Spec L2 DL Fr
abbrev M6:=D × List Int
def M7 (w:M6) (q:Addr):D := .tup [w.1,.raw (.ref q)]
structure Dr (μ0 μ:M) (ws:List M6) (qs:List Addr):Prop where
 len:qs.length=ws.length
 sub:Sub μ0 μ
 new:∀ q∈qs,μ0 q=none
 nd:qs.Nodup
 at_:∀ (i:Nat) (q:Addr) (w:M6),qs[i]? = some q→ws[i]? = some w→μ q=some (.lst (w.2.map D.int))
theorem Dr.nil {μ:M}:Dr μ μ [] []:=⟨rfl,Sub.refl _,(fun _ h=>by cases h),List.nodup_nil,(fun i q w h=>by simp at h)⟩
theorem Dr.snoc {μ0 μ:M} {ws:List M6} {qs:List Addr} {w:M6} {q:Addr} (o:Dr μ0 μ ws qs) (hq:μ q=none):Dr μ0 (cC μ q (.lst (w.2.map D.int))) (ws++[w]) (qs++[q]):=by
 have amo:q ∉ qs:=fun h=>by
  obtain ⟨i,hi⟩:=List.getElem?_of_mem h
  have hl:=(List.getElem?_eq_some_iff.mp hi).1
  obtain ⟨w',hw'⟩:∃ w',ws[i]? = some w':=⟨_,List.getElem?_eq_getElem (by rw [← o.len];exact hl)⟩
  rw [o.at_ i q w' hi hw'] at hq
  cases hq
 refine ⟨by rw [List.length_append,List.length_append,o.len];rfl,o.sub.trans (Sub.new hq),fun p hp => ?_,?_,fun i p w' hp hw => ?_⟩
 ·rcases List.mem_append.mp hp with h | h
  ·exact o.new p h
  ·rw [List.mem_singleton.mp h]
   exact o.sub.fresh hq
 ·rw [List.nodup_append]
  refine ⟨o.nd,by simp,fun a ha b hb e => ?_⟩
  rw [List.mem_singleton.mp hb] at e
  exact amo (e ▸ ha)
 ·by_cases hi:i<qs.length
  ·rw [List.getElem?_append_left hi] at hp
   rw [List.getElem?_append_left (by rw [← o.len];exact hi)] at hw
   have ne:p≠q:=fun e=>amo (e ▸ List.mem_of_getElem? hp)
   rw [bL ne]
   exact o.at_ i p w' hp hw
  ·have il:i=qs.length:=by
    have:=(List.getElem?_eq_some_iff.mp hp).1
    rw [List.length_append,List.length_singleton] at this
    omega
   subst il
   rw [List.getElem?_append_right (Nat.le_refl _),Nat.sub_self] at hp
   rw [o.len,List.getElem?_append_right (Nat.le_refl _),Nat.sub_self] at hw
   cases hp
   cases hw
   exact aP
theorem Dr.more {μ0 μ:M} {ws:List M6} {qs:List Addr} {p:Addr} {c:C} (o:Dr μ0 μ ws qs) (hp:μ p=none):Dr μ0 (cC μ p c) ws qs:=by
 refine ⟨o.len,o.sub.trans (Sub.new hp),o.new,o.nd,fun i q w hq hw => ?_⟩
 have z:=o.at_ i q w hq hw
 rw [bL (fun e=>by rw [e,hp] at z;cases z)]
 exact z
theorem acX {μ:M}:∀ {ws:List M6} {qs:List Addr},qs.length=ws.length→(∀ (i:Nat) (q:Addr) (w:M6),qs[i]? = some q→ws[i]? = some w→μ q=some (.lst (w.2.map D.int)))→DVA μ noM (List.zipWith M7 ws qs) (ws.map bR)
 | [],[],_,_ => .nil
 | w::ws,q::qs,hl,h => .cons (.tup (.cons (.same _) (.cons (.Jx (h 0 q w rfl rfl) rfl (.same _)) .nil))) (acX (by simpa using hl) fun i p v hp hv=>h (i+1) p v hp hv)
def alC (p0 p1 p2 p3:Addr) (word:Str):D := .tup [.raw (.ref p0),.raw (.ref p1),.raw (.ref p2),.raw (.ref p3),.str word]
structure xr (μ0 μ:M) (t:Task) (p0 p1 p2 p3:Addr) (qs:List Addr):Prop where
 w:Dr μ0 μ t.wishes qs
 c0:μ p0=some (.lst (t.prices.map fr))
 c1:μ p1=some (.lst (List.zipWith M7 t.wishes qs))
 c2:μ p2=some (.lst (t.bounds.map fV))
 c3:μ p3=some (.lst (t.weights.map iZ))
 n0:μ0 p0=none
 n1:μ0 p1=none
 n2:μ0 p2=none
 n3:μ0 p3=none
 ne:[p0,p1,p2,p3].Nodup
 nq:∀ p∈[p0,p1,p2,p3],p ∉ qs
theorem xr.dv {μ0 μ:M} {t:Task} {p0 p1 p2 p3:Addr} {qs:List Addr} (o:xr μ0 μ t p0 p1 p2 p3 qs):DV μ noM (alC p0 p1 p2 p3 t.word) t.d :=
 .tup (.cons (.Jx o.c0 rfl (DVA.same _)) (.cons (.Jx o.c1 rfl (acX o.w.len o.w.at_)) (.cons (.Jx o.c2 rfl (DVA.same _)) (.cons (.Jx o.c3 rfl (DVA.same _)) (.cons (.same _) .nil)))))
def Fx:Ct:=fun ds μ Q _=>∃ t:Task,ds=[t.d]∧Ip t∧∀ p0 p1 p2 p3 qs μ',xr μ μ' t p0 p1 p2 p3 qs→Q (alC p0 p1 p2 p3 t.word) μ'
def Vu:bh :=
 (aJ (xg (aq 0) (j9 (bF (bW 1) (bF (bW 2) (bF (bW 3) (bF (bW 4) (bF (bW 5) fH)))))))
  (aW (dTup (ao (bV xR (ao (aq 1) aC)) (ao (NT (fO (aq 2)) (j9 (bF (bW 6) (bF (bW 7) fH))) jB (dTup (ao (aq 6) (ao (bV xR (ao (aq 7) aC)) aC))) [6,7]) (ao (bV xR (ao (aq 3) aC)) (ao (bV xR (ao (aq 4) aC)) (ao (aq 5) aC))))))))
theorem alD {ws:List M6} {qs:List Addr} {w:M6} {q:Addr} (h:qs.length=ws.length):List.zipWith M7 (ws++[w]) (qs++[q])=List.zipWith M7 ws qs++[M7 w q]:=by
 rw [List.zipWith_append h.symm]
 rfl
theorem ah':HB Fx Vu 8:=by
 intro ds μ Q X h
 obtain ⟨t,rfl,ht,q⟩:=h
 show Vu (ends Q XF) [some t.d,none,none,none,none,none,none,none] μ
 have sz:16777216≤sizeLine:=by decide
 have hw:=ht.wl
 simp! only [Vu,Task.d]
 intro p0 h0
 walk_at "r"
 refine ⟨fun i acc μ'=>∃ qs,Dr (cC μ p0 (.lst (t.prices.map fr))) μ' (t.wishes.take i) qs∧acc=List.zipWith M7 (t.wishes.take i) qs,⟨[],by rw [List.take_zero];exact .nil,by simp⟩,?_⟩
 rintro i acc μ' ⟨qs,o,rfl⟩
 refine ⟨trivial,fun d hd => ?_,fun hi => ?_⟩
 ·obtain ⟨w,hx,rfl⟩:=aji hd
  simp! only [bR]
  intro p hp
  walk_at "r"
  have e:=take_snoc hx
  refine ⟨by decide,?_,qs++[p],?_,?_⟩
  ·rw [List.length_zipWith,List.length_take]
   omega
  ·rw [e]
   exact o.snoc hp
  ·rw [e,alD o.len]
   rfl
 ·rw [List.length_map] at hi
  subst hi
  rw [List.take_length] at o ⊢
  intro p1 h1
  walk_at "r"
  intro p2 h2
  walk_at "r"
  intro p3 h3
  walk_at "r"
  have u0:(cC μ p0 (.lst (t.prices.map fr))) p0=some (.lst (t.prices.map fr)):=aP
  have f1:μ' p0=some (.lst (t.prices.map fr)):=o.sub _ _ u0
  have n10:p1≠p0:=fun e=>by rw [e,f1] at h1;cases h1
  have a1:(cC μ' p1 (.lst (List.zipWith M7 t.wishes qs))) p0=some (.lst (t.prices.map fr)):=by rw [bL (Ne.symm n10)];exact f1
  have n20:p2≠p0:=fun e=>by rw [e,a1] at h2;cases h2
  have n21:p2≠p1:=fun e=>by rw [e,aP] at h2;cases h2
  have n30:p3≠p0:=fun e=>by rw [e,bL (Ne.symm n20),a1] at h3;cases h3
  have n31:p3≠p1:=fun e=>by rw [e,bL (Ne.symm n21),aP] at h3;cases h3
  have n32:p3≠p2:=fun e=>by rw [e,aP] at h3;cases h3
  have z2:μ' p2=none:=by rw [bL n21] at h2;exact h2
  have z3:μ' p3=none:=by rw [bL n32,bL n31] at h3;exact h3
  have full:∀ {p:Addr},p∈qs→∃ c,μ' p=some c:=fun {p} hp=>by
   obtain ⟨j,hj⟩:=List.getElem?_of_mem hp
   have hl:=(List.getElem?_eq_some_iff.mp hj).1
   exact ⟨_,o.at_ j p _ hj (List.getElem?_eq_getElem (by rw [← o.len];exact hl))⟩
  have off:∀ {p:Addr},μ' p=none→p ∉ qs:=fun hp hm=>by obtain ⟨c,e⟩:=full hm;rw [e] at hp;cases hp
  have low:∀ {p:Addr},μ' p=none→μ p=none:=fun {p} hp=>(Sub.new h0).fresh (o.sub.fresh hp)
  have base:Dr μ μ' t.wishes qs:=⟨o.len,(Sub.new h0).trans o.sub,fun q hq=>(Sub.new h0).fresh (o.new q hq),o.nd,o.at_⟩
  have p0q:p0 ∉ qs:=fun hm=>by rw [o.new p0 hm] at u0;cases u0
  refine ⟨by decide,.of (q p0 p1 p2 p3 qs _ ⟨((base.more h1).more h2).more h3,?_,?_,?_,aP,h0,low h1,low z2,low z3,?_,?_⟩)⟩
  ·rw [bL (Ne.symm n30),bL (Ne.symm n20)]
   exact a1
  ·rw [bL (Ne.symm n31),bL (Ne.symm n21),aP]
  ·rw [bL (Ne.symm n32),aP]
  ·simp [Ne.symm n10,Ne.symm n20,Ne.symm n30,Ne.symm n21,Ne.symm n31,Ne.symm n32]
  ·intro p hp
   simp only [List.mem_cons,List.not_mem_nil,or_false] at hp
   rcases hp with rfl | rfl | rfl | rfl
   ·exact p0q
   ·exact off h1
   ·exact off z2
   ·exact off z3
section
variable {μ0 μ:M} {t:Task} {p0 p1 p2 p3:Addr} {qs:List Addr}
theorem xr.mem (o:xr μ0 μ t p0 p1 p2 p3 qs) {p:Addr} (h:p∈[p0,p1,p2,p3]):∃ c,μ p=some c:=by
 simp only [List.mem_cons,List.not_mem_nil,or_false] at h
 rcases h with rfl | rfl | rfl | rfl
 ·exact ⟨_,o.c0⟩
 ·exact ⟨_,o.c1⟩
 ·exact ⟨_,o.c2⟩
 ·exact ⟨_,o.c3⟩
theorem xr.off (o:xr μ0 μ t p0 p1 p2 p3 qs) {p:Addr} (h:μ p=none):p ∉ [p0,p1,p2,p3]∧p ∉ qs:=by
 refine ⟨fun m => ?_,fun m => ?_⟩
 ·obtain ⟨c,e⟩:=o.mem m
  rw [h] at e
  cases e
 ·obtain ⟨j,hj⟩:=List.getElem?_of_mem m
  have hl:=(List.getElem?_eq_some_iff.mp hj).1
  have e:=o.w.at_ j p _ hj (List.getElem?_eq_getElem (by rw [← o.w.len];exact hl))
  rw [h] at e
  cases e
theorem xr.nums (o:xr μ0 μ t p0 p1 p2 p3 qs):p0≠p1∧p0≠p2∧p0≠p3∧p1≠p2∧p1≠p3∧p2≠p3:=by
 have h:=o.ne
 simp only [List.nodup_cons,List.mem_cons,List.not_mem_nil,or_false,not_or] at h
 exact ⟨h.1.1,h.1.2.1,h.1.2.2,h.2.1.1,h.2.1.2,h.2.2.1⟩
theorem xr.prices {fs:List Fc} {p:Addr} (o:xr μ0 μ t p0 p1 p2 p3 qs) (hp:μ p=none):xr μ0 (cC μ p (.lst (fs.map fr))) { t with prices:=fs } p p1 p2 p3 qs:=by
 obtain ⟨off1,off2⟩:=o.off hp
 obtain ⟨_,_,_,e12,e13,e23⟩:=o.nums
 simp only [List.mem_cons,List.not_mem_nil,or_false,not_or] at off1
 obtain ⟨_,h1,h2,h3⟩:=off1
 refine ⟨o.w.more hp,aP,?_,?_,?_,o.w.sub.fresh hp,o.n1,o.n2,o.n3,?_,fun x hx => ?_⟩
 ·rw [bL (Ne.symm h1)];exact o.c1
 ·rw [bL (Ne.symm h2)];exact o.c2
 ·rw [bL (Ne.symm h3)];exact o.c3
 ·simp [h1,h2,h3,e12,e13,e23]
 ·rcases List.mem_cons.mp hx with rfl | hx
  ·exact off2
  ·exact o.nq x (List.mem_cons_of_mem _ hx)
theorem xr.bounds {bs:List (Option Fc × Option Fc)} {p:Addr} (o:xr μ0 μ t p0 p1 p2 p3 qs) (hp:μ p=none):xr μ0 (cC μ p (.lst (bs.map fV))) { t with bounds:=bs } p0 p1 p p3 qs:=by
 obtain ⟨off1,off2⟩:=o.off hp
 obtain ⟨e01,_,e03,_,e13,_⟩:=o.nums
 simp only [List.mem_cons,List.not_mem_nil,or_false,not_or] at off1
 obtain ⟨h0,h1,_,h3⟩:=off1
 refine ⟨o.w.more hp,?_,?_,aP,?_,o.n0,o.n1,o.w.sub.fresh hp,o.n3,?_,fun x hx => ?_⟩
 ·rw [bL (Ne.symm h0)];exact o.c0
 ·rw [bL (Ne.symm h1)];exact o.c1
 ·rw [bL (Ne.symm h3)];exact o.c3
 ·simp [Ne.symm h0,Ne.symm h1,h3,e01,e03,e13]
 ·simp only [List.mem_cons,List.not_mem_nil,or_false] at hx
  rcases hx with rfl | rfl | rfl | rfl
  ·exact o.nq _ (by simp)
  ·exact o.nq _ (by simp)
  ·exact off2
  ·exact o.nq _ (by simp)
end
theorem Dr.off {μ0 μ:M} {ws:List M6} {qs:List Addr} (o:Dr μ0 μ ws qs) {p:Addr} (h:μ p=none):p ∉ qs:=fun m=>by
 obtain ⟨j,hj⟩:=List.getElem?_of_mem m
 have hl:=(List.getElem?_eq_some_iff.mp hj).1
 have e:=o.at_ j p _ hj (List.getElem?_eq_getElem (by rw [← o.len];exact hl))
 rw [h] at e
 cases e
end NB
namespace KP
open PySem PySem.Spec L2 DL Fr NB
structure TP where
 a:List D
 b:List D
 c:List D
 e:List D
 w:D
def TP.d (T:TP):D := .tup [.lst T.a,.lst T.b,.lst T.c,.lst T.e,T.w]
def d9 (t:Task):TP:=⟨t.prices.map fr,t.wishes.map bR,t.bounds.map fV,t.weights.map iZ,.str t.word⟩
def mZ (xs:List D) (k:Nat) (d:D):List D:=xs.take k++[d]++xs.drop (k+1)
theorem alE {xs:List D} {k:Nat} {d:D} (h:k<xs.length):(mZ xs k d).length=xs.length:=by
 unfold mZ
 rw [List.length_append,List.length_append,List.length_take,List.length_drop,List.length_singleton]
 omega
theorem alF {xs:List D} {k:Nat} {d x:D} (h:x∈mZ xs k d):x=d∨x∈xs:=by
 rcases List.mem_append.mp h with h | h
 ·rcases List.mem_append.mp h with h | h
  ·exact .inr (List.mem_of_mem_take h)
  ·exact .inl (List.mem_singleton.mp h)
 ·exact .inr (List.mem_of_mem_drop h)
inductive cI
 | price (i p:D)
 | bound (i a b:D)
 | weigh (i a b:D)
 | wish (i p:D)
 | by_ (w:D)
def cI.d:cI→D
 | .price i p => .tup [.str (PySem.Str.ofString "price"),i,p]
 | .bound i a b => .tup [.str (PySem.Str.ofString "bound"),i,a,b]
 | .weigh i a b => .tup [.str (PySem.Str.ofString "weigh"),i,a,b]
 | .wish i p => .tup [.str (PySem.Str.ofString "wish"),i,p]
 | .by_ w => .tup [.str (PySem.Str.ofString "by"),w]
def gA (i:D) (n:Nat):Option Nat:=match i with
 | .int k=>if 0≤k∧k<n then some k.toNat else none
 | _=>none
theorem vK {i:D} {n k:Nat} (h:gA i n=some k):i = .int k∧k<n:=by
 unfold gA at h
 split at h
 ·rename_i z
  split at h
  ·rename_i hz
   cases h
   exact ⟨by rw [Int.toNat_of_nonneg hz.1],by omega⟩
  ·cases h
 ·cases h
def shapeOf:D→D
 | .tup (s::_)=>s
 | _ => .non
inductive Due
 | item
 | wish
 | task (T:TP)
def due (T:TP):cI→Due
 | .price i p=>match gA i T.a.length with
  | none => .item
  | some k => .task { T with a:=mZ T.a k p }
 | .bound i a b=>match gA i T.a.length with
  | none => .item
  | some k => .task { T with c:=mZ T.c k (.tup [a,b]) }
 | .weigh i a b=>match gA i T.a.length with
  | none => .item
  | some k => .task { T with e:=mZ T.e k (.tup [a,b]) }
 | .wish i p=>match gA i T.b.length with
  | none => .wish
  | some k => .task { T with b:=mZ T.b k (.tup [shapeOf (T.b.getD k .non),p]) }
 | .by_ w => .task { T with w:=w }
def kfs (d first:D) (p:Addr):List (Str × D):=[("kept",d),("first",first),("past",.raw (.ref p))]
theorem aj0 {x:Str} {d:D} {r:List (Str × D)}:((x,d)::r).lookup x=some d:=by rw [List.lookup_cons,beq_self_eq_true]
theorem PN {x y:Str} {d:D} {r:List (Str × D)} (h:(x == y)=false):((y,d)::r).lookup x=r.lookup x:=by rw [List.lookup_cons,h]
theorem jZ {d f:D} {p:Addr}:(kfs d f p).lookup (PySem.Str.ofString "kept")=some d:=aj0
theorem ag' {d f:D} {p:Addr}:(kfs d f p).lookup (PySem.Str.ofString "past")=some (.raw (.ref p)):=(PN (by decide +kernel)).trans ((PN (by decide +kernel)).trans aj0)
theorem rD {d f:D} {p:Addr} {x:Str} (h1:(x == (PySem.Str.ofString "kept" : Str))=false) (h2:(x == (PySem.Str.ofString "first" : Str))=false) (h3:(x == (PySem.Str.ofString "past" : Str))=false):(kfs d f p).lookup x=none:=(PN h1).trans ((PN h2).trans ((PN h3).trans rfl))
theorem am7 {d e f:D} {p:Addr}:rA (PySem.Str.ofString "kept") d (kfs e f p)=kfs d f p:=by
 unfold kfs rA
 rw [if_pos rfl]
structure fX (C:Addr) (μ:M) (a:Addr) (t:Task) (first:D) (p:Addr) (past:List D):Prop where
 ins:∃ dx,μ a=some (.ins C dx (kfs t.d first p))
 J5:μ p=some (.lst past)
 ne:a≠p
 ok:Ip t
 few:past.length≤1000
def Off (μ μ':M) (a p:Addr):Prop:=∀ b,b≠a→b≠p→μ' b=μ b
theorem Off.refl {μ:M} {a p:Addr}:Off μ μ a p:=fun _ _ _=>rfl
theorem Off.trans {μ μ1 μ2:M} {a p:Addr} (h:Off μ μ1 a p) (k:Off μ1 μ2 a p):Off μ μ2 a p:=fun b x y=>(k b x y).trans (h b x y)
def pP (C CT a:Addr) (t:Task) (first:D) (p:Addr) (past:List D) (d:D) (μ:M) (Q:QD) (X:XD):Prop :=
 Bu d∧(dU d=none→∃ t',d=t'.d∧Ip t'∧∀ μ',fX C μ' a t' first p (past++[t.d])→Off μ μ' a p→Q .non μ')∧∀ x y,dU d=some (x,y)→NoT CT X μ x y
def wV:Ct:=fun ds μ Q _=>∃ (xs:List D) (k:Nat) (d:D),ds=[.lst xs,.int k,d]∧k<xs.length∧xs.length≤1000∧Q (.lst (mZ xs k d)) μ
def P0 (C CI:Addr):Ct:=fun ds μ Q X=>∃ (a:Addr) (i:D) (t:Task) (f:D) (p:Addr) (ps:List D),ds=[.raw (.ref a),i]∧fX C μ a t f p ps∧dN i=true∧(gA i t.prices.length=none→X (.ref CI) none μ)∧∀ k,gA i t.prices.length=some k→Q .non μ
def vL (C CT:Addr):Ct:=fun ds μ Q X=>∃ (a:Addr) (d:D) (t:Task) (f:D) (p:Addr) (ps:List D),ds=[.raw (.ref a),d]∧fX C μ a t f p ps∧ps.length<1000∧pP C CT a t f p ps d μ Q X
def Done (C CI CT CW a:Addr) (t:Task) (first:D) (p:Addr) (past:List D) (δ:cI) (μ:M) (Q:QD) (X:XD):Prop:=match due (d9 t) δ with
 | .item=>X (.ref CI) none μ
 | .wish=>X (.ref CW) none μ
 | .task T=>pP C CT a t first p past T.d μ Q X
def numOf:cI→D
 | .price i _=>i
 | .bound i _ _=>i
 | .weigh i _ _=>i
 | .wish i _=>i
 | .by_ _ => .int 0
def aaG (C CI CT CW:Addr) (args:List D) (δ:cI) (a:Addr):Ct:=fun ds μ Q X=>∃ (t:Task) (f:D) (p:Addr) (ps:List D),ds = .raw (.ref a)::args∧fX C μ a t f p ps∧ps.length<1000∧dN (numOf δ)=true∧Done C CI CT CW a t f p ps δ μ Q X
def RW (C CI CT:Addr):Ct:=fun ds μ Q X=>∃ (CW a:Addr) (i x:D),aaG C CI CT CW [i,x] (.price i x) a ds μ Q X
def tK (C CI CT:Addr):Ct:=fun ds μ Q X=>∃ (CW a:Addr) (i x y:D),aaG C CI CT CW [i,x,y] (.bound i x y) a ds μ Q X
def RX (C CI CT:Addr):Ct:=fun ds μ Q X=>∃ (CW a:Addr) (i x y:D),aaG C CI CT CW [i,x,y] (.weigh i x y) a ds μ Q X
def W7 (C CT CW:Addr):Ct:=fun ds μ Q X=>∃ (CI a:Addr) (i x:D),aaG C CI CT CW [i,x] (.wish i x) a ds μ Q X
def adX (C CT:Addr):Ct:=fun ds μ Q X=>∃ (CI CW a:Addr) (x:D),aaG C CI CT CW [x] (.by_ x) a ds μ Q X
def Jh (C:Addr):Ct:=fun ds μ Q _=>∃ (a:Addr) (t:Task) (f:D) (p:Addr) (ps:List D),ds=[.raw (.ref a)]∧fX C μ a t f p ps∧Q t.d μ
def R3 (C:Addr):Ct:=fun ds μ Q _=>∃ (a:Addr) (t:Task) (f:D) (p:Addr) (ps:List D),ds=[.raw (.ref a)]∧fX C μ a t f p ps∧Q (.int ps.length) μ
def Qa (C CT:Addr):Ct:=fun ds μ Q X=>∃ (a dx:Addr) (d:D),ds=[.raw (.ref a),d]∧μ a=some (.ins C dx [])∧Bu d ∧
 (dU d=none→∃ t,d=t.d∧Ip t∧∀ μ' p,μ p=none→fX C μ' a t (.lst (t.prices.map fr)) p []→(∀ b,b≠a→b≠p→μ' b=μ b)→Q .non μ')∧∀ x y,dU d=some (x,y)→NoT CT X μ x y
def Oh:bh :=
 (aW (aF cD (aF cD (jU (aq 0) cJ (dR (aq 1))) (d7 (ao (aq 2) aC))) (jU (aq 0) (dR (aF cD (aq 1) (dC (.int 1)))) cJ)))
def xG (c2' bB:Addr):bh :=
 (aJ (gJ (dCall (Vs bB) (ao (aq 1) aC)))
  (aJ (wL c2' "kept" (Yl (dCall Fx (ao (aq 1) aC))) (aq 0))
  (aJ (wL c2' "first" (bV El (ao (aF aN (aq 1) (dC (.int 0))) aC)) (aq 0))
  (wL c2' "past" (Ab aC) (aq 0)))))
def rM (c2' c3':Addr):bh :=
 (bY (jy (eX (fu (dCall qw (ao (aq 1) aC)))) (eX (dB (nY Ce LQ (dC (.int 0)) (aq 1) (bV dX (ao (aF aN (oG c2' "kept" (aq 0)) (dC (.int 0))) aC)))))) (Jz c3') aX)
def Bv (c2' bB:Addr):bh :=
 (aJ (gJ (dCall (Vs bB) (ao (aq 1) aC)))
  (aJ (gJ (dM nJ (oG c2' "past" (aq 0)) (ao (oG c2' "kept" (aq 0)) aC)))
  (wL c2' "kept" (Yl (dCall Fx (ao (aq 1) aC))) (aq 0))))
def Ds (c2' c3' bB:Addr):bh :=
 (aJ (gJ (jD c2' "look_at_item" (P0 c2' c3') (aq 0) (ao (aq 1) aC)))
  (gJ (jD c2' "become" (vL c2' bB) (aq 0) (ao (aF cD (dTup (ao (dCall wV (ao (aF aN (oG c2' "kept" (aq 0)) (dC (.int 0))) (ao (aq 1) (ao (aq 2) aC)))) aC)) (jU (oG c2' "kept" (aq 0)) (dR (dC (.int 1))) cJ)) aC))))
def Dt (c2' c3' bB:Addr):bh :=
 (aJ (gJ (jD c2' "look_at_item" (P0 c2' c3') (aq 0) (ao (aq 1) aC)))
  (gJ (jD c2' "become" (vL c2' bB) (aq 0) (ao (aF cD (aF cD (jU (oG c2' "kept" (aq 0)) cJ (dR (dC (.int 2)))) (dTup (ao (dCall wV (ao (aF aN (oG c2' "kept" (aq 0)) (dC (.int 2))) (ao (aq 1) (ao (dTup (ao (aq 2) (ao (aq 3) aC))) aC)))) aC))) (jU (oG c2' "kept" (aq 0)) (dR (dC (.int 3))) cJ)) aC))))
def Du (c2' c3' bB:Addr):bh :=
 (aJ (gJ (jD c2' "look_at_item" (P0 c2' c3') (aq 0) (ao (aq 1) aC)))
  (gJ (jD c2' "become" (vL c2' bB) (aq 0) (ao (aF cD (aF cD (jU (oG c2' "kept" (aq 0)) cJ (dR (dC (.int 3)))) (dTup (ao (dCall wV (ao (aF aN (oG c2' "kept" (aq 0)) (dC (.int 3))) (ao (aq 1) (ao (dTup (ao (aq 2) (ao (aq 3) aC))) aC)))) aC))) (jU (oG c2' "kept" (aq 0)) (dR (dC (.int 4))) cJ)) aC))))
def Gn (c2' bB c1':Addr):bh :=
 (aJ (bY (jy (eX (fu (dCall qw (ao (aq 1) aC)))) (eX (dB (nY Ce LQ (dC (.int 0)) (aq 1) (bV dX (ao (aF aN (oG c2' "kept" (aq 0)) (dC (.int 1))) aC)))))) (Jz c1') aX)
  (aJ (aZ 3 (dCall wV (ao (aF aN (oG c2' "kept" (aq 0)) (dC (.int 1))) (ao (aq 1) (ao (dTup (ao (aF aN (aF aN (aF aN (oG c2' "kept" (aq 0)) (dC (.int 1))) (aq 1)) (dC (.int 0))) (ao (aq 2) aC))) aC)))))
  (gJ (jD c2' "become" (vL c2' bB) (aq 0) (ao (aF cD (aF cD (jU (oG c2' "kept" (aq 0)) cJ (dR (dC (.int 1)))) (dTup (ao (aq 3) aC))) (jU (oG c2' "kept" (aq 0)) (dR (dC (.int 2))) cJ)) aC)))))
def Oi (c2' bB:Addr):bh :=
 (gJ (jD c2' "become" (vL c2' bB) (aq 0) (ao (aF cD (jU (oG c2' "kept" (aq 0)) cJ (dR (dC (.int 4)))) (dTup (ao (aq 1) aC))) aC)))
def Gp (c2':Addr):bh :=
 (aW (Yl (dCall Fx (ao (oG c2' "kept" (aq 0)) aC))))
def Dy (c2':Addr):bh :=
 (aW (bV dX (ao (oG c2' "past" (aq 0)) aC)))
theorem afo:HB wV Oh 3:=by
 intro ds μ Q X h
 obtain ⟨xs,k,d,rfl,hk,hl,q⟩:=h
 show Oh (ends Q XF) [some (.lst xs),some (.int k),some d] μ
 have sz:16777216≤sizeLine:=by decide
 have e1:cutD xs none (some (k:Int))=xs.take k:=Ro
 have e2:cutD xs (some ((k:Int)+1)) none=xs.drop (k+1):=JL
 have l1:(xs.take k).length≤1000:=by rw [List.length_take];omega
 have l2:(xs.drop (k+1)).length≤1000:=by rw [List.length_drop];omega
 simp! only [Oh]
 rw [e1,e2]
 exact ⟨by decide,by omega,by rw [List.length_append,List.length_singleton];omega,.of q⟩
theorem Vv {i:D} {n:Nat}:(tZ i=false→gA i n=none)∧∀ k,i = .int k→(decide (0≤k) && decide (k<n))=(gA i n).isSome:=by
 constructor
 ·intro h
  cases i with
  | int k=>cases h
  | _=>rfl
 ·rintro k rfl
  unfold gA
  dsimp only
  by_cases h:0≤k∧k<n
  ·rw [if_pos h,decide_eq_true h.1,decide_eq_true h.2]
   rfl
  ·rw [if_neg h]
   by_cases h1:0≤k
   ·rw [decide_eq_true h1,decide_eq_false (fun z=>h ⟨h1,z⟩)]
    rfl
   ·rw [decide_eq_false h1]
    rfl
theorem Oj {C CI:Addr}:vD (P0 C CI) (rM C CI) 2:=by
 intro ds μ Q X h
 obtain ⟨a,i,t,f,p,ps,rfl,⟨⟨dx,ins⟩,J5,ne,ok,few⟩,pi,hno,hyes⟩:=h
 show rM C CI (ends Q (sS X)) [some (.raw (.ref a)),some i] μ
 have sz:16777216≤sizeLine:=by decide
 obtain ⟨w1,w2⟩:=Vv (i:=i) (n:=t.prices.length)
 simp! only [rM]
 refine ⟨i,rfl,pi,?_⟩
 cases hw:tZ i with
 | false =>
  walk_at "r"
  exact ⟨μ,Sub.refl _,hno (w1 hw)⟩
 | true =>
  obtain ⟨k,rfl⟩:∃ k,i = .int k:=by
   cases i with
   | int k=>exact ⟨k,rfl⟩
   | _=>cases hw
  have w2:=w2 k rfl
  have fin:∀ b,b=(gA (.int k) t.prices.length).isSome→(b=true→Q .non μ)∧(b=false→X (.ref CI) none μ):=fun b e=>by
   cases h:gA (.int k) t.prices.length with
   | none =>
    rw [h] at e
    exact ⟨fun z=>(by rw [e] at z;cases z),fun _=>hno h⟩
   | some j =>
    rw [h] at e
    exact ⟨fun _=>hyes j h,fun z=>(by rw [e] at z;cases z)⟩
  walk_at "r"
  cases h0:decide (0≤k) with
  | false =>
   rw [h0] at w2
   walk_at "r"
   exact ⟨μ,Sub.refl _,(fin _ w2).2 rfl⟩
  | true =>
   rw [h0] at w2
   walk_at "r"
   refine ⟨dx,_,_,ins,jZ,?_⟩
   simp! only [Task.d,List.length_map]
   cases h1:decide (k<t.prices.length) with
   | false =>
    rw [h1] at w2
    walk_at "r"
    exact ⟨μ,Sub.refl _,(fin _ w2).2 rfl⟩
   | true =>
    rw [h1] at w2
    walk_at "r"
    exact .of ((fin _ w2).1 rfl)
theorem aaH {μ μ2:M}:∀ {ws:List M6} {qs:List Addr},qs.length=ws.length→(∀ q∈qs,μ2 q=none)→(∀ (i:Nat) (q:Addr) (w:M6),qs[i]? = some q→ws[i]? = some w→μ q=some (.lst (w.2.map D.int)))→DVA μ μ2 (List.zipWith M7 ws qs) (ws.map bR)
 | [],[],_,_,_ => .nil
 | w::ws,q::qs,hl,hn,h => .cons (.tup (.cons (.same _) (.cons (.Jx (h 0 q w rfl rfl) (hn q List.mem_cons_self) (DVA.same _)) .nil))) (aaH (by simpa using hl) (fun p hp=>hn p (List.mem_cons_of_mem _ hp)) fun i p v hp hv=>h (i+1) p v hp hv)
theorem dv2 {μ0 μ:M} {t:Task} {p0 p1 p2 p3:Addr} {qs:List Addr} (o:xr μ0 μ t p0 p1 p2 p3 qs):DV μ μ0 (alC p0 p1 p2 p3 t.word) t.d :=
 .tup (.cons (.Jx o.c0 o.n0 (DVA.same _)) (.cons (.Jx o.c1 o.n1 (aaH o.w.len o.w.new o.w.at_)) (.cons (.Jx o.c2 o.n2 (DVA.same _)) (.cons (.Jx o.c3 o.n3 (DVA.same _)) (.cons (.same _) .nil)))))
theorem YM {C CT:Addr}:vD (vL C CT) (Bv C CT) 2:=by
 intro ds μ Q X h
 obtain ⟨a,d,t,f,p,ps,rfl,⟨⟨dx,ins⟩,J5,ne,ok,few⟩,hl,tt,yes,no⟩:=h
 show Bv C CT (ends Q (sS X)) [some (.raw (.ref a)),some d] μ
 have sz:16777216≤sizeLine:=by decide
 simp! only [Bv]
 refine ⟨d,rfl,tt,fun hn => ?_,fun x y e=>⟨μ,Sub.refl _,no x y e⟩⟩
 obtain ⟨t',rfl,tp,q⟩:=yes hn
 walk_at "r"
 refine ⟨dx,_,_,ins,ag',o7 J5,dx,_,_,ins,jZ,_,J5,by omega,?_⟩
 simp! only [DL.Yl]
 refine ⟨t',rfl,tp,fun p0 p1 p2 p3 qs μ3 o3 => ?_⟩
 have aqj:cC μ p (.lst (ps++[t.d])) a=some (.ins C dx (kfs t.d f p)):=by rw [bL ne];exact ins
 refine ⟨cC μ p (.lst (ps++[t.d])),t'.d,o3.w.sub,dv2 o3,?_⟩
 walk_at "r"
 refine ⟨dx,_,aqj,show 3<1000 by decide,.of (q _ ⟨⟨dx,?_⟩,?_,ne,tp,?_⟩ fun b ha hb => ?_)⟩
 ·rw [aP,am7]
 ·rw [bL (Ne.symm ne),aP]
 ·rw [List.length_append,List.length_singleton]
  omega
 ·rw [bL ha,bL hb]
section
variable {C CI CT CW a:Addr} {t:Task} {f:D} {p:Addr} {ps:List D} {μ:M} {Q:QD} {X:XD}
theorem pB:(d9 t).a.length=t.prices.length:=List.length_map ..
theorem J8:(d9 t).b.length=t.wishes.length:=List.length_map ..
theorem aia {i x:D} (d:Done C CI CT CW a t f p ps (.price i x) μ Q X):(gA i t.prices.length=none→X (.ref CI) none μ)∧∀ k,gA i t.prices.length=some k→pP C CT a t f p ps ({ d9 t with a:=mZ (d9 t).a k x }:TP).d μ Q X:=by
 unfold Done due at d
 dsimp only at d
 rw [pB] at d
 exact ⟨fun h=>(by rw [h] at d;exact d),fun k h=>(by rw [h] at d;exact d)⟩
theorem aib {i x y:D} (d:Done C CI CT CW a t f p ps (.bound i x y) μ Q X):(gA i t.prices.length=none→X (.ref CI) none μ)∧∀ k,gA i t.prices.length=some k→pP C CT a t f p ps ({ d9 t with c:=mZ (d9 t).c k (.tup [x,y]) }:TP).d μ Q X:=by
 unfold Done due at d
 dsimp only at d
 rw [pB] at d
 exact ⟨fun h=>(by rw [h] at d;exact d),fun k h=>(by rw [h] at d;exact d)⟩
theorem aic {i x y:D} (d:Done C CI CT CW a t f p ps (.weigh i x y) μ Q X):(gA i t.prices.length=none→X (.ref CI) none μ)∧∀ k,gA i t.prices.length=some k→pP C CT a t f p ps ({ d9 t with e:=mZ (d9 t).e k (.tup [x,y]) }:TP).d μ Q X:=by
 unfold Done due at d
 dsimp only at d
 rw [pB] at d
 exact ⟨fun h=>(by rw [h] at d;exact d),fun k h=>(by rw [h] at d;exact d)⟩
theorem aj1 {i x:D} (d:Done C CI CT CW a t f p ps (.wish i x) μ Q X):(gA i t.wishes.length=none→X (.ref CW) none μ)∧∀ k,gA i t.wishes.length=some k→pP C CT a t f p ps ({ d9 t with b:=mZ (d9 t).b k (.tup [shapeOf ((d9 t).b.getD k .non),x]) }:TP).d μ Q X:=by
 unfold Done due at d
 dsimp only at d
 rw [J8] at d
 exact ⟨fun h=>(by rw [h] at d;exact d),fun k h=>(by rw [h] at d;exact d)⟩
theorem pP.imp {d:D} {past:List D} {Q1:QD} {X1:XD} (h:pP C CT a t f p past d μ Q X) (hq:∀ μ',Q .non μ'→Q1 .non μ') (hx:∀ z w,X z w μ→X1 z w μ):pP C CT a t f p past d μ Q1 X1 :=
 ⟨h.1,fun e=>(h.2.1 e).imp fun t' ⟨e1,e2,e3⟩=>⟨e1,e2,fun μ' k o=>hq μ' (e3 μ' k o)⟩,fun x y e=>hx _ _ (h.2.2 x y e)⟩
end
theorem amq {a b c e w:D}:cutD [a,b,c,e,w] (some 1) none=[b,c,e,w]:=rfl
theorem amr {a b c e w:D}:cutD [a,b,c,e,w] none (some 2)=[a,b]:=rfl
theorem ams {a b c e w:D}:cutD [a,b,c,e,w] (some 3) none=[e,w]:=rfl
theorem amt {a b c e w:D}:cutD [a,b,c,e,w] none (some 3)=[a,b,c]:=rfl
theorem ao5 {a b c e w:D}:cutD [a,b,c,e,w] (some 4) none=[w]:=rfl
theorem ao6 {a b c e w:D}:cutD [a,b,c,e,w] none (some 1)=[a]:=rfl
theorem amu {a b c e w:D}:cutD [a,b,c,e,w] (some 2) none=[c,e,w]:=rfl
theorem adY {a b c e w:D}:cutD [a,b,c,e,w] none (some 4)=[a,b,c,e]:=rfl
theorem aaI {C CI CT:Addr}:vD (RW C CI CT) (Ds C CI CT) 3:=by
 intro ds μ Q X h
 obtain ⟨CW,a,i,x,t,f,p,ps,rfl,ka,hl,pi,dn⟩:=h
 obtain ⟨⟨dx,ins⟩,J5,ne,ok,few⟩:=id ka
 show Ds C CI CT (ends Q (sS X)) [some (.raw (.ref a)),some i,some x] μ
 have sz:16777216≤sizeLine:=by decide
 obtain ⟨d1,d2⟩:=aia dn
 have n2:=ok.n2
 simp! only [Ds]
 refine ⟨dx,_,ins,rD (by decide +kernel) (by decide +kernel) (by decide +kernel),a,i,t,f,p,ps,rfl,ka,pi,fun hn=>⟨μ,Sub.refl _,d1 hn⟩,fun k hk => ?_⟩
 obtain ⟨rfl,hk2⟩:=vK hk
 walk_at "r"
 refine ⟨dx,_,ins,rD (by decide +kernel) (by decide +kernel) (by decide +kernel),dx,_,_,ins,jZ,?_⟩
 simp! only [Task.d]
 refine ⟨t.prices.map fr,k,x,rfl,by rw [List.length_map];exact hk2,by rw [List.length_map];omega,?_⟩
 walk_at "r"
 refine ⟨by decide,dx,_,_,ins,jZ,?_⟩
 simp! only [Task.d,amq]
 refine ⟨by decide,a,_,t,f,p,ps,rfl,ka,hl,(d2 k hk).imp (fun μ' q => .of q) fun z w x=>⟨μ,Sub.refl _,x⟩⟩
theorem aaJ {C CI CT:Addr}:vD (tK C CI CT) (Dt C CI CT) 4:=by
 intro ds μ Q X h
 obtain ⟨CW,a,i,x,y,t,f,p,ps,rfl,ka,hl,pi,dn⟩:=h
 obtain ⟨⟨dx,ins⟩,J5,ne,ok,few⟩:=id ka
 show Dt C CI CT (ends Q (sS X)) [some (.raw (.ref a)),some i,some x,some y] μ
 have sz:16777216≤sizeLine:=by decide
 obtain ⟨d1,d2⟩:=aib dn
 have n2:=ok.n2
 have bl:(t.bounds.map fV).length=t.prices.length:=by rw [List.length_map];exact ok.bl
 simp! only [Dt]
 refine ⟨dx,_,ins,rD (by decide +kernel) (by decide +kernel) (by decide +kernel),a,i,t,f,p,ps,rfl,ka,pi,fun hn=>⟨μ,Sub.refl _,d1 hn⟩,fun k hk => ?_⟩
 obtain ⟨rfl,hk2⟩:=vK hk
 walk_at "r"
 refine ⟨dx,_,ins,rD (by decide +kernel) (by decide +kernel) (by decide +kernel),dx,_,_,ins,jZ,?_⟩
 simp! only [Task.d,amr]
 refine ⟨dx,_,_,ins,jZ,?_⟩
 simp! only [Task.d]
 refine ⟨(show 2≤sizeLine by decide),t.bounds.map fV,k,.tup [x,y],rfl,by rw [bl];exact hk2,by rw [bl];omega,?_⟩
 walk_at "r"
 refine ⟨by decide,by decide,dx,_,_,ins,jZ,?_⟩
 simp! only [Task.d,ams]
 refine ⟨by decide,a,_,t,f,p,ps,rfl,ka,hl,(d2 k hk).imp (fun μ' q => .of q) fun z w x=>⟨μ,Sub.refl _,x⟩⟩
theorem aaK {C CI CT:Addr}:vD (RX C CI CT) (Du C CI CT) 4:=by
 intro ds μ Q X h
 obtain ⟨CW,a,i,x,y,t,f,p,ps,rfl,ka,hl,pi,dn⟩:=h
 obtain ⟨⟨dx,ins⟩,J5,ne,ok,few⟩:=id ka
 show Du C CI CT (ends Q (sS X)) [some (.raw (.ref a)),some i,some x,some y] μ
 have sz:16777216≤sizeLine:=by decide
 obtain ⟨d1,d2⟩:=aic dn
 have n2:=ok.n2
 have bl:(t.weights.map iZ).length=t.prices.length:=by rw [List.length_map];exact ok.gl
 simp! only [Du]
 refine ⟨dx,_,ins,rD (by decide +kernel) (by decide +kernel) (by decide +kernel),a,i,t,f,p,ps,rfl,ka,pi,fun hn=>⟨μ,Sub.refl _,d1 hn⟩,fun k hk => ?_⟩
 obtain ⟨rfl,hk2⟩:=vK hk
 walk_at "r"
 refine ⟨dx,_,ins,rD (by decide +kernel) (by decide +kernel) (by decide +kernel),dx,_,_,ins,jZ,?_⟩
 simp! only [Task.d,amt]
 refine ⟨dx,_,_,ins,jZ,?_⟩
 simp! only [Task.d]
 refine ⟨(show 2≤sizeLine by decide),t.weights.map iZ,k,.tup [x,y],rfl,by rw [bl];exact hk2,by rw [bl];omega,?_⟩
 walk_at "r"
 refine ⟨by decide,by decide,dx,_,_,ins,jZ,?_⟩
 simp! only [Task.d,ao5]
 refine ⟨by decide,a,_,t,f,p,ps,rfl,ka,hl,(d2 k hk).imp (fun μ' q => .of q) fun z w x=>⟨μ,Sub.refl _,x⟩⟩
theorem afp {C CT:Addr}:vD (adX C CT) (Oi C CT) 2:=by
 intro ds μ Q X h
 obtain ⟨CI,CW,a,x,t,f,p,ps,rfl,ka,hl,pi,dn⟩:=h
 obtain ⟨⟨dx,ins⟩,J5,ne,ok,few⟩:=id ka
 show Oi C CT (ends Q (sS X)) [some (.raw (.ref a)),some x] μ
 have sz:16777216≤sizeLine:=by decide
 simp! only [Oi]
 refine ⟨dx,_,ins,rD (by decide +kernel) (by decide +kernel) (by decide +kernel),dx,_,_,ins,jZ,?_⟩
 simp! only [Task.d,adY]
 refine ⟨by decide,by decide,a,_,t,f,p,ps,rfl,ka,hl,pP.imp (show pP C CT a t f p ps _ μ Q X from dn) (fun μ' q => .of q) fun z w x=>⟨μ,Sub.refl _,x⟩⟩
theorem ace {C:Addr}:HB (Jh C) (Gp C) 1:=by
 intro ds μ Q X h
 obtain ⟨a,t,f,p,ps,rfl,⟨⟨dx,ins⟩,J5,ne,ok,few⟩,q⟩:=h
 show Gp C (ends Q XF) [some (.raw (.ref a))] μ
 have sz:16777216≤sizeLine:=by decide
 simp! only [Gp,DL.Yl]
 refine ⟨dx,_,_,ins,jZ,t,rfl,ok,fun p0 p1 p2 p3 qs μ3 o3=>⟨μ,t.d,o3.w.sub,dv2 o3,.of q⟩⟩
theorem aaL {C:Addr}:HB (R3 C) (Dy C) 1:=by
 intro ds μ Q X h
 obtain ⟨a,t,f,p,ps,rfl,⟨⟨dx,ins⟩,J5,ne,ok,few⟩,q⟩:=h
 show Dy C (ends Q XF) [some (.raw (.ref a))] μ
 have sz:16777216≤sizeLine:=by decide
 simp! only [Dy]
 refine ⟨dx,_,_,ins,ag',?_⟩
 simp! only [gh J5]
 exact .of q
theorem acf {ws:List M6} {j:Nat} (h:j<ws.length):atI (ws.map bR) (j:Int)=some (bR (ws.getD j (.non,[]))):=by
 obtain ⟨x,e1,e2⟩:=mW (xs:=ws.map bR) (i:=(j:Int)) (by omega) (by rw [List.length_map];omega)
 rw [e1,← e2,Int.toNat_natCast,List.getElem?_map,List.getD_eq_getElem?_getD,List.getElem?_eq_getElem h]
 rfl
theorem YQ {t:Task} {j:Nat} (h:j<t.wishes.length):shapeOf ((d9 t).b.getD j .non)=(t.wishes.getD j (.non,[])).1:=by
 show shapeOf ((t.wishes.map bR).getD j .non)=_
 rw [List.getD_eq_getElem?_getD,List.getElem?_map,List.getD_eq_getElem?_getD,List.getElem?_eq_getElem h]
 rfl
theorem acg {C CT CW:Addr}:vD (W7 C CT CW) (Gn C CT CW) 4:=by
 intro ds μ Q X h
 obtain ⟨CI,a,i,x,t,f,p,ps,rfl,ka,hl,pi,dn⟩:=h
 obtain ⟨⟨dx,ins⟩,J5,ne,ok,few⟩:=id ka
 show Gn C CT CW (ends Q (sS X)) [some (.raw (.ref a)),some i,some x,none] μ
 have sz:16777216≤sizeLine:=by decide
 obtain ⟨d1,d2⟩:=aj1 dn
 have w4:=ok.wl
 obtain ⟨w1,w2⟩:=Vv (i:=i) (n:=t.wishes.length)
 simp! only [Gn]
 refine ⟨i,rfl,pi,?_⟩
 cases hw:tZ i with
 | false =>
  walk_at "r"
  exact ⟨μ,Sub.refl _,d1 (w1 hw)⟩
 | true =>
  obtain ⟨k,rfl⟩:∃ k,i = .int k:=by
   cases i with
   | int k=>exact ⟨k,rfl⟩
   | _=>cases hw
  have w2:=w2 k rfl
  have fin:∀ b,b=(gA (.int k) t.wishes.length).isSome→(b=true→∃ j,gA (.int k) t.wishes.length=some j)∧(b=false→X (.ref CW) none μ):=fun b e=>by
   cases h:gA (.int k) t.wishes.length with
   | none =>
    rw [h] at e
    exact ⟨fun z=>(by rw [e] at z;cases z),fun _=>d1 h⟩
   | some j =>
    rw [h] at e
    exact ⟨fun _=>⟨j,rfl⟩,fun z=>(by rw [e] at z;cases z)⟩
  walk_at "r"
  cases h0:decide (0≤k) with
  | false =>
   rw [h0] at w2
   walk_at "r"
   exact ⟨μ,Sub.refl _,(fin _ w2).2 rfl⟩
  | true =>
   rw [h0] at w2
   walk_at "r"
   refine ⟨dx,_,_,ins,jZ,?_⟩
   simp! only [Task.d,List.length_map]
   cases h1:decide (k<t.wishes.length) with
   | false =>
    rw [h1] at w2
    walk_at "r"
    exact ⟨μ,Sub.refl _,(fin _ w2).2 rfl⟩
   | true =>
    rw [h1] at w2
    obtain ⟨j,hj⟩:=(fin _ w2).1 rfl
    obtain ⟨e,hk2⟩:=vK hj
    injection e with e
    subst e
    walk_at "r"
    refine ⟨dx,_,_,ins,jZ,?_⟩
    simp! only [Task.d]
    refine ⟨dx,_,_,ins,jZ,?_⟩
    simp! only [Task.d]
    have aw:=acf hk2
    rw [aw]
    have es:=YQ hk2
    generalize t.wishes.getD j (.non,[])=w0 at es
    simp! only [bR]
    rw [← es]
    refine ⟨by decide,t.wishes.map bR,j,.tup [shapeOf ((d9 t).b.getD j .non),x],rfl,by rw [List.length_map];exact hk2,by rw [List.length_map];omega,?_⟩
    walk_at "r"
    refine ⟨dx,_,ins,rD (by decide +kernel) (by decide +kernel) (by decide +kernel),dx,_,_,ins,jZ,?_⟩
    simp! only [Task.d,ao6]
    refine ⟨by decide,by decide,dx,_,_,ins,jZ,?_⟩
    simp! only [Task.d,amu]
    refine ⟨by decide,a,_,t,f,p,ps,rfl,ka,hl,(d2 j hj).imp (fun μ' q => .of q) fun z w x=>⟨μ,Sub.refl _,x⟩⟩
theorem Vw {C CT:Addr}:vD (Qa C CT) (xG C CT) 2:=by
 intro ds μ Q X h
 obtain ⟨a,dx,d,rfl,ins,tt,yes,no⟩:=h
 show xG C CT (ends Q (sS X)) [some (.raw (.ref a)),some d] μ
 have sz:16777216≤sizeLine:=by decide
 simp! only [xG]
 refine ⟨d,rfl,tt,fun hn => ?_,fun x y e=>⟨μ,Sub.refl _,no x y e⟩⟩
 obtain ⟨t,rfl,tp,q⟩:=yes hn
 have n2:=tp.n2
 simp! only [DL.Yl]
 refine ⟨t,rfl,tp,fun p0 p1 p2 p3 qs μ3 o3=>⟨μ,t.d,o3.w.sub,dv2 o3,?_⟩⟩
 have p1:rA (PySem.Str.ofString "kept") t.d []=[(PySem.Str.ofString "kept",t.d)]:=rfl
 have n1:¬ (PySem.Str.ofString "kept" : Str)=PySem.Str.ofString "first" := by decide +kernel
 have n2':¬ (PySem.Str.ofString "kept" : Str)=PySem.Str.ofString "past" := by decide +kernel
 have n3:¬ (PySem.Str.ofString "first" : Str)=PySem.Str.ofString "past" := by decide +kernel
 have p2:rA (PySem.Str.ofString "first") (.lst (t.prices.map fr)) [(PySem.Str.ofString "kept",t.d)]=[(PySem.Str.ofString "kept",t.d),(PySem.Str.ofString "first",.lst (t.prices.map fr))]:=by
  unfold rA
  rw [if_neg n1]
  rfl
 have p3:∀ l,rA (PySem.Str.ofString "past") (.raw (.ref l)) [(PySem.Str.ofString "kept",t.d),(PySem.Str.ofString "first",.lst (t.prices.map fr))]=kfs t.d (.lst (t.prices.map fr)) l:=fun l=>by
  unfold rA
  rw [if_neg n2']
  unfold rA
  rw [if_neg n3]
  rfl
 walk_at "r"
 refine ⟨dx,[],ins,(by decide),?_⟩
 rw [p1]
 generalize hM:cC μ a (.ins C dx [(PySem.Str.ofString "kept",t.d)])=M1
 have iM:M1 a=some (.ins C dx [(PySem.Str.ofString "kept",t.d)]):=by rw [← hM];exact aP
 have oM:∀ b,b≠a→M1 b=μ b:=fun b hb=>by rw [← hM];exact bL hb
 simp! only [Task.d]
 refine ⟨dx,_,iM,show 1<1000 by decide,by decide,?_⟩
 rw [show (.tup [.lst (t.prices.map fr),.lst (t.wishes.map bR),.lst (t.bounds.map fV),.lst (t.weights.map iZ),.str t.word]:D)=t.d from rfl,p2]
 generalize hM2:cC M1 a (.ins C dx [(PySem.Str.ofString "kept",t.d),(PySem.Str.ofString "first",.lst (t.prices.map fr))])=M2
 have iM2:M2 a=some (.ins C dx [(PySem.Str.ofString "kept",t.d),(PySem.Str.ofString "first",.lst (t.prices.map fr))]):=by rw [← hM2];exact aP
 have oM2:∀ b,b≠a→M2 b=μ b:=fun b hb=>by rw [← hM2,bL hb];exact oM b hb
 intro p hp
 have pa:p≠a:=fun e=>by rw [e,iM2] at hp;cases hp
 walk_at "r"
 refine ⟨dx,[(PySem.Str.ofString "kept",t.d),(PySem.Str.ofString "first",.lst (t.prices.map fr))],by rw [bL (Ne.symm pa)];exact iM2,(show 2<1000 by decide),?_⟩
 rw [p3]
 refine .of (q _ p (by rw [← oM2 p pa];exact hp) ⟨⟨dx,aP⟩,by rw [bL pa,aP],Ne.symm pa,tp,Nat.zero_le _⟩ fun b ha hb=>by rw [bL ha,bL hb,oM2 b ha])
end KP
namespace NB
open PySem PySem.Spec L2 DL Fr
def qU (L:List Int) (p:Int):Int:=L.getD p.toNat 0
def joinL (L:List Int) (t:Int × Int):List Int:=L.map fun x=>if x=qU L t.2 then qU L t.1 else x
theorem Reach.trans {ts:Tis} {a b c:Int} (h:Reach ts a b) (k:Reach ts b c):Reach ts a c:=by
 induction k with
 | refl=>exact h
 | fwd _ ht ih=>exact .fwd ih ht
 | bwd _ ht ih=>exact .bwd ih ht
theorem Reach.symm {ts:Tis} {a b:Int} (h:Reach ts a b):Reach ts b a:=by
 induction h with
 | refl=>exact .refl
 | fwd _ ht ih=>exact (Reach.bwd .refl ht).trans ih
 | bwd _ ht ih=>exact (Reach.fwd .refl ht).trans ih
theorem Reach.sub {ts us:Tis} {a b:Int} (h:∀ t∈ts,t∈us) (r:Reach ts a b):Reach us a b:=by
 induction r with
 | refl=>exact .refl
 | fwd _ ht ih=>exact .fwd ih (h _ ht)
 | bwd _ ht ih=>exact .bwd ih (h _ ht)
structure Lab (m:Nat) (ts:Tis) (L:List Int):Prop where
 len:L.length=m
 bd:∀ x∈L,0≤x∧x<m
 sound:∀ p q:Nat,p<m→q<m→qU L p=qU L q→Reach ts p q
 tied:∀ t∈ts,qU L t.1=qU L t.2
theorem Dz {m:Nat} {L:List Int} {t:Int × Int} {p:Int} (hl:L.length=m) (h0:0≤p) (h1:p<m):qU (joinL L t) p=if qU L p=qU L t.2 then qU L t.1 else qU L p:=by
 unfold qU joinL
 rw [List.getD_eq_getElem?_getD,List.getElem?_map,List.getElem?_eq_getElem (by omega)]
 show (if L[p.toNat]=_ then _ else L[p.toNat])=_
 rw [List.getD_eq_getElem?_getD (i:=p.toNat),List.getElem?_eq_getElem (by omega)]
 rfl
theorem am8 {m:Nat} {L:List Int} {p:Int} (hl:L.length=m) (h0:0≤p) (h1:p<m):qU L p∈L:=by
 unfold qU
 rw [List.getD_eq_getElem?_getD,List.getElem?_eq_getElem (by omega)]
 exact List.getElem_mem _
theorem Lab.start (m:Nat):Lab m [] (upTo m):=by
 refine ⟨lG,fun x h=>vH.mp h,fun p q hp hq e => ?_,fun t ht=>by cases ht⟩
 have h:∀ i:Nat,i<m→qU (upTo m) i=i:=fun i hi=>by
  unfold qU upTo
  rw [List.getD_eq_getElem?_getD,List.getElem?_map,Int.toNat_natCast,List.getElem?_range hi]
  rfl
 rw [h p hp,h q hq] at e
 rw [e]
 exact .refl
theorem Lab.keep {m:Nat} {ts:Tis} {L:List Int} {t:Int × Int} (h:Lab m ts L) (e:qU L t.1=qU L t.2):Lab m (ts++[t]) L :=
 ⟨h.len,h.bd,fun p q hp hq e=>(h.sound p q hp hq e).sub fun u hu=>List.mem_append_left _ hu,fun u hu=>by
  rcases List.mem_append.mp hu with hu | hu
  ·exact h.tied u hu
  ·rw [List.mem_singleton.mp hu];exact e⟩
theorem Lab.join {m:Nat} {ts:Tis} {L:List Int} {t:Int × Int} (h:Lab m ts L) (hts:∀ u∈ts,uh m u) (ht:uh m t):Lab m (ts++[t]) (joinL L t):=by
 obtain ⟨t1,t2,t3,t4⟩:=ht
 have sub:∀ {a b:Int},Reach ts a b→Reach (ts++[t]) a b:=fun r=>r.sub fun u hu=>List.mem_append_left _ hu
 have htm:t∈ts++[t]:=List.mem_append_right _ (List.mem_singleton.mpr rfl)
 have rt:Reach (ts++[t]) t.1 t.2 := .fwd .refl htm
 have i1:((t.1.toNat:Nat):Int)=t.1:=Int.toNat_of_nonneg t1
 have i2:((t.2.toNat:Nat):Int)=t.2:=Int.toNat_of_nonneg t3
 refine ⟨by unfold joinL;rw [List.length_map];exact h.len,fun x hx => ?_,fun p q hp hq e => ?_,fun u hu => ?_⟩
 ·obtain ⟨y,hy,rfl⟩:=List.mem_map.mp hx
  split
  ·exact h.bd _ (am8 h.len t1 t2)
  ·exact h.bd y hy
 ·rw [Dz h.len (by omega) (by omega),Dz h.len (by omega) (by omega)] at e
  have toT:∀ r:Nat,r<m→qU L r=qU L t.2→Reach (ts++[t]) r t.2:=fun r hr e=>by
   have:=h.sound r t.2.toNat hr (by omega) (by rw [i2];exact e)
   rw [i2] at this
   exact sub this
  have toO:∀ r:Nat,r<m→qU L r=qU L t.1→Reach (ts++[t]) r t.1:=fun r hr e=>by
   have:=h.sound r t.1.toNat hr (by omega) (by rw [i1];exact e)
   rw [i1] at this
   exact sub this
  by_cases h1:qU L p=qU L t.2
  ·by_cases h2:qU L q=qU L t.2
   ·exact (toT p hp h1).trans (toT q hq h2).symm
   ·rw [if_pos h1,if_neg h2] at e
    exact ((toT p hp h1).trans rt.symm).trans (toO q hq e.symm).symm
  ·by_cases h2:qU L q=qU L t.2
   ·rw [if_neg h1,if_pos h2] at e
    exact ((toO p hp e).trans rt).trans (toT q hq h2).symm
   ·rw [if_neg h1,if_neg h2] at e
    exact sub (h.sound p q hp hq e)
 ·rcases List.mem_append.mp hu with hu | hu
  ·obtain ⟨u1,u2,u3,u4⟩:=hts u hu
   rw [Dz h.len u1 u2,Dz h.len u3 u4,h.tied u hu]
  ·rw [List.mem_singleton.mp hu,Dz h.len t1 t2,Dz h.len t3 t4,if_pos rfl]
   split<;>rfl
theorem am9 (n:Nat):(upTo n).Nodup:=by
 unfold upTo
 exact List.Pairwise.map _ (fun a b e z=>e (Int.ofNat.inj z)) List.nodup_range
end NB
namespace NB
open PySem PySem.Spec L2 DL Fr
structure Sh (n c:Nat) (d:D):Prop where
 ok:okN n d=true
 sh:(toP d).showable=true
 sz:rsz d≤c
theorem Sh.mono {n c n' c':Nat} {d:D} (h:Sh n c d) (h1:n≤n') (h2:c≤c'):Sh n' c' d:=⟨iT h.ok h1,h.sh,Nat.le_trans h.sz h2⟩
theorem afq {i:Int} (h:i.natAbs<2^300):Sh 0 303 (.int i):=by
 have hl:i.natAbs.log2<301:=by
  by_cases h0:i.natAbs=0
  ·rw [h0];decide
  ·have:=(Nat.log2_lt h0 (k:=300)).mpr h
   omega
 refine ⟨rfl,?_,?_⟩
 ·show decide (i.natAbs.log2<1920)=true
  exact decide_eq_true (by omega)
 ·show i.natAbs.log2+3≤303
  omega
theorem tL {i:Int} (h1 : -1000≤i) (h2:i≤1000):Sh 0 303 (.int i):=afq (by
 have:(1001:Nat)<2^300:=by decide
 omega)
theorem aon:Sh 0 5 .non:=⟨rfl,rfl,Nat.le_refl _⟩
theorem afr {n c:Nat}:∀ {xs:List D},(∀ x∈xs,Sh n c x)→(PyData.showableAll (lC xs)=true)∧JD xs≤(c+2)*xs.length
 | [],_=>⟨rfl,Nat.le_refl _⟩
 | x :: xs, h => by
  obtain ⟨h1,h2⟩:=afr (xs:=xs) fun y hy=>h y (List.mem_cons_of_mem _ hy)
  have hx:=h x List.mem_cons_self
  constructor
  ·show ((toP x).showable && PyData.showableAll (lC xs))=true
   rw [hx.sh,h1]
   rfl
  ·show rsz x+2+JD xs≤(c+2)*(xs.length+1)
   have:=hx.sz
   rw [Nat.mul_add,Nat.mul_one]
   omega
theorem Fy {n c k:Nat} {xs:List D} (hl:xs.length≤k) (h:∀ x∈xs,Sh n c x):Sh (n+1) (3+(c+2)*k) (.tup xs):=by
 obtain ⟨h1,h2⟩:=afr h
 refine ⟨List.all_eq_true.mpr fun x hx=>(h x hx).ok,h1,?_⟩
 show 3+JD xs≤_
 have:=Nat.mul_le_mul_left (c+2) hl
 omega
theorem Vx {n c k:Nat} {xs:List D} (hl:xs.length≤k) (h:∀ x∈xs,Sh n c x):Sh (n+1) (3+(c+2)*k) (.lst xs):=by
 obtain ⟨h1,h2⟩:=afr h
 refine ⟨List.all_eq_true.mpr fun x hx=>(h x hx).ok,h1,?_⟩
 show 2+JD xs≤_
 have:=Nat.mul_le_mul_left (c+2) hl
 omega
theorem amv {f:Int × Int} (h1:f.1.natAbs<2^300) (h2:f.2.natAbs<2^300):Sh 1 613 (fr f):=Fy (n:=0) (c:=303) (k:=2) (xs:=[.int f.1,.int f.2]) (by simp) fun x hx=>by
 simp only [List.mem_cons,List.not_mem_nil,or_false] at hx
 rcases hx with rfl | rfl
 ·exact afq h1
 ·exact afq h2
theorem adZ {n:Nat} {f:Fc} (h:Ok n f) (hn:n≤300):Sh 1 613 (fr f):=by
 have h:=h.mono hn
 exact amv h.tb h.bb
theorem aaM {m:Int} {ts:Tis} (hm:m≤1000) (hl:ts.length≤16) (h:∀ t∈ts,uh m t):Sh 2 9843 (jx ts):=Fy (c:=613) (k:=16) (by rw [List.length_map];exact hl) fun x hx=>by
 obtain ⟨t,ht,rfl⟩:=List.mem_map.mp hx
 obtain ⟨a,b,c,d⟩:=h t ht
 have:(1000:Nat)<2^300:=by decide
 exact amv (by omega) (by omega)
theorem R4 {ns:List Int} (hl:ns.length≤16) (h:∀ n∈ns,-1000≤n∧n≤1000):Sh 1 4883 (iV ns):=Fy (c:=303) (k:=16) (by rw [List.length_map];exact hl) fun x hx=>by
 obtain ⟨t,ht,rfl⟩:=List.mem_map.mp hx
 exact tL (h t ht).1 (h t ht).2
theorem am' {ns:List Int} (hl:ns.length≤16) (h:∀ n∈ns,-1000≤n∧n≤1000):Sh 1 4883 (.lst (ns.map D.int)):=Vx (c:=303) (k:=16) (by rw [List.length_map];exact hl) fun x hx=>by
 obtain ⟨t,ht,rfl⟩:=List.mem_map.mp hx
 exact tL (h t ht).1 (h t ht).2
theorem ana (s:bQ):Sh 2 9843 (.str s.word):=by
 cases s<;>(dsimp only [bQ.word];exact ⟨by decide +kernel,rfl,by decide +kernel⟩)
theorem vM {x:D} {n c:Nat} (h:Sh n c x) (h1:n≤2) (h2:c≤9843):Sh 2 9843 x:=h.mono h1 h2
theorem aoo {s:bQ} (ok:s.Ok):Sh 3 49228 s.d:=by
 refine Fy (n:=2) (c:=9843) (k:=5) (xs := .str s.word::s.rest) (by cases s<;>simp [bQ.rest]) fun x hx => ?_
 rcases List.mem_cons.mp hx with rfl | hx
 ·exact ana s
 ·cases s with
  | way m ts b e =>
   obtain ⟨Pr,hb,he,_⟩:=ok
   have:=Pr.m10
   have:=Pr.m2
   simp only [bQ.rest,List.mem_cons,List.not_mem_nil,or_false] at hx
   rcases hx with rfl | rfl | rfl | rfl
   ·exact vM (tL (by omega) (by omega)) (by decide) (by decide)
   ·exact aaM (by omega) Pr.Xy fun t ht=>tY.inP (Pr.tie t ht)
   ·exact vM (tL (by omega) (by omega)) (by decide) (by decide)
   ·exact vM (tL (by omega) (by omega)) (by decide) (by decide)
  | tree m ts =>
   have:=Web.m10 ok
   have:=Web.m2 ok
   simp only [bQ.rest,List.mem_cons,List.not_mem_nil,or_false] at hx
   rcases hx with rfl | rfl
   ·exact vM (tL (by omega) (by omega)) (by decide) (by decide)
   ·exact aaM (by omega) (Web.Xy ok) fun t ht=>tY.inP (Web.tie ok t ht)
  | pair m ts =>
   obtain ⟨hm,hl,ht⟩:=ok
   simp only [bQ.rest,List.mem_cons,List.not_mem_nil,or_false] at hx
   rcases hx with rfl | rfl
   ·exact vM (tL (by omega) (by omega)) (by decide) (by decide)
   ·exact aaM (by omega) hl.2 ht
  | deal rs w =>
   obtain ⟨hl,hr,hw,_⟩:=ok
   simp only [bQ.rest,List.mem_cons,List.not_mem_nil,or_false] at hx
   rcases hx with rfl | rfl
   ·exact vM (R4 (by omega) fun n hn=>by have:=hr n hn;omega) (by decide) (by decide)
   ·exact vM (tL (by omega) (by omega)) (by decide) (by decide)
  | stream m ts rs k =>
   obtain ⟨Pr,hrl,hr,hk,hkb,_⟩:=ok
   have:=Pr.m10
   have:=Pr.m2
   have:=Pr.Xy
   simp only [bQ.rest,List.mem_cons,List.not_mem_nil,or_false] at hx
   rcases hx with rfl | rfl | rfl | rfl
   ·exact vM (tL (by omega) (by omega)) (by decide) (by decide)
   ·exact aaM (by omega) Pr.Xy fun t ht=>tY.inP (Pr.tie t ht)
   ·exact vM (R4 (by omega) fun n hn=>by have:=hr n hn;omega) (by decide) (by decide)
   ·exact vM (R4 (by omega) fun n hn=>by have:=hkb n hn;omega) (by decide) (by decide)
  | bench ls =>
   obtain ⟨hl,hr⟩:=ok
   simp only [bQ.rest,List.mem_cons,List.not_mem_nil,or_false] at hx
   subst hx
   exact vM (R4 (by omega) fun n hn=>by have:=hr n hn;omega) (by decide) (by decide)
theorem aj2 {o:Option Fc} (h:∀ f,o=some f→Ok 300 f):Sh 1 613 (cY o):=by
 cases o with
 | none=>exact aon.mono (by decide) (by decide)
 | some f=>exact adZ (h f rfl) (Nat.le_refl _)
theorem acY:∀ (xs:List ((Int × Int) × Nat)) (st:List Int × List Int),(∀ n∈st.1,n=0∨n=1)→∀ n∈(xs.foldl eV st).1,n=0∨n=1
 | [],_,h=>h
 | x :: xs, st, h => by
  refine acY xs (eV st x) ?_
  unfold eV
  split
  ·exact h
  ·intro n hn
   rcases List.mem_or_eq_of_mem_set hn with hn | hn
   ·exact h n hn
   ·exact .inr hn
theorem acZ {F:List (Int × Int)}:∀ (xs:List Nat) (st:List Int × List Int),(∀ n∈st.1,n=0∨n=1)→∀ n∈(xs.foldl (jY F) st).1,n=0∨n=1
 | [],_,h=>h
 | x::xs,st,h=>acZ xs (jY F st x) (acY F.zipIdx st h)
theorem Vy {F:List (Int × Int)} {n:Nat}:∀ i∈(grow F n).1,i=0∨i=1:=acZ _ _ fun i hi => .inl (List.eq_of_mem_replicate hi)
theorem pA.UL {ws:List (D × List Int)} (h:pA ws):∀ w∈ws,∀ n∈w.2,-1000≤n∧n≤1000:=by
 obtain ⟨w,hw,h⟩:=h
 have hc:=gY.UL hw
 have h1:∀ n∈w.2,-1000≤n∧n≤1000:=fun n hn=>by have:=hc.bd n hn;omega
 intro v hv
 rcases h with rfl | ⟨w2,hb,hp⟩
 ·rw [List.mem_singleton.mp hv];exact h1
 ·have:=hp.mem_iff.mp hv
  simp only [List.mem_cons,List.not_mem_nil,or_false] at this
  rcases this with rfl | rfl
  ·exact h1
  ·cases hb with
   | tree e =>
    intro n hn
    rcases Vy n hn with e | e<;>omega
   | bench _ hl hb=>exact fun n hn=>by have:=(gY.UL (hb.wish (by omega))).bd n hn;omega
theorem Sh.shown {n c:Nat} {d:D} (h:Sh n c d) (hc:c≤16777216):(toP d).shown.length≤sizeLine:=by
 have:=shown_le n d h.ok
 have:=h.sz
 have sz:16777216≤sizeLine:=by decide
 omega
end NB
namespace NB
open PySem PySem.Spec L2 DL Fr
theorem qN {F:Tis} {cs:List Int} {t:Int × Int}:t∈cG F cs↔∃ (i:Nat) (c:Int),F[i]? = some t∧cs[i]? = some c∧0<c:=by
 unfold cG
 rw [List.mem_map]
 constructor
 ·rintro ⟨⟨u,c⟩,h,rfl⟩
  rw [List.mem_filter] at h
  obtain ⟨i,hi⟩:=List.getElem?_of_mem h.1
  rw [List.getElem?_zip_eq_some] at hi
  exact ⟨i,c,hi.1,hi.2,of_decide_eq_true h.2⟩
 ·rintro ⟨i,c,h1,h2,h3⟩
  refine ⟨(t,c),List.mem_filter.mpr ⟨List.mem_of_getElem? (i:=i) (List.getElem?_zip_eq_some.mpr ⟨h1,h2⟩),decide_eq_true h3⟩,rfl⟩
theorem aaN:∀ {F:Tis} {cs:List Int} {i:Nat} {t:Int × Int} {c:Int},F[i]? = some t→cs[i]? = some c→c≤0→(cG F (cs.set i 1)).length=(cG F cs).length+1
 | [],_,_,_,_,h,_,_=>by simp at h
 | _,[],_,_,_,_,h,_=>by simp at h
 | f::F,d::cs,0,t,c,h1,h2,h3=>by
  have e:d=c:=by simpa using h2
  subst e
  unfold cG
  rw [List.set_cons_zero,List.zip_cons_cons,List.zip_cons_cons,List.filter_cons_of_pos (by show decide ((0:Int)<1)=true;decide),List.filter_cons_of_neg (by simpa using h3)]
  rfl
 | f::F,d::cs,i+1,t,c,h1,h2,h3=>by
  have ih:=aaN (F:=F) (cs:=cs) (i:=i) (by simpa using h1) (by simpa using h2) h3
  unfold cG at ih ⊢
  rw [List.set_cons_succ,List.zip_cons_cons,List.zip_cons_cons]
  rw [List.length_map,List.length_map] at ih
  rw [List.filter_cons,List.filter_cons]
  split
  ·rw [List.length_map,List.length_map,List.length_cons,List.length_cons,ih]
  ·rw [List.length_map,List.length_map,ih]
structure W8 (F:Tis) (m:Int) (st:List Int × List Int):Prop where
 len:st.1.length=F.length
 nd:st.2.Nodup
 z:(0:Int)∈st.2
 bd:∀ p∈st.2,0≤p∧p<m
 cnt:(cG F st.1).length+1=st.2.length
 ends:∀ t∈cG F st.1,t.1∈st.2∧t.2∈st.2
 reach:∀ p∈st.2,Reach (cG F st.1) 0 p
theorem aj3 {st:List Int × List Int} {x:(Int × Int) × Nat}:(∀ p∈st.2,p∈(eV st x).2)∧((x.1.1∈st.2∨x.1.2∈st.2)→x.1.1∈(eV st x).2∧x.1.2∈(eV st x).2):=by
 unfold eV
 split
 ·rename_i h
  have h:(x.1.1∈st.2)↔(x.1.2∈st.2):=decide_eq_decide.mp h
  refine ⟨fun p hp=>hp,fun hh => ?_⟩
  rcases hh with hh | hh
  ·exact ⟨hh,h.mp hh⟩
  ·exact ⟨h.mpr hh,hh⟩
 ·refine ⟨fun p hp=>List.mem_append_left _ hp,fun _ => ?_⟩
  have key:∀ p:Int,p=x.1.1∨p=x.1.2→p∈st.2++[x.1.1,x.1.2].filter fun p => !decide (p∈st.2):=fun p hp=>by
   by_cases hs:p∈st.2
   ·exact List.mem_append_left _ hs
   ·refine List.mem_append_right _ (List.mem_filter.mpr ⟨by simpa using hp,by simpa using hs⟩)
  exact ⟨key _ (.inl rfl),key _ (.inr rfl)⟩
theorem aie {F:Tis} {m:Int} {st:List Int × List Int} {x:(Int × Int) × Nat} (hx:F[x.2]? = some x.1) (ht:∀ t∈F,uh m t) (h:W8 F m st):W8 F m (eV st x):=by
 obtain ⟨⟨a,b⟩,i⟩:=x
 obtain ⟨cs,seen⟩:=st
 unfold eV
 dsimp only at hx ⊢
 split
 ·exact h
 ·rename_i hne
  have hne:¬ ((a∈seen)↔(b∈seen)):=fun z=>hne (decide_eq_decide.mpr z)
  have hil:i<F.length:=(List.getElem?_eq_some_iff.mp hx).1
  have hlen:cs.length=F.length:=h.len
  obtain ⟨c,hc⟩:∃ c,cs[i]? = some c:=⟨_,List.getElem?_eq_getElem (by omega)⟩
  have hc0:c≤0:=by
   rcases Int.lt_or_le 0 c with h1 | h1
   ·have:=h.ends _ (qN.mpr ⟨i,c,hx,hc,h1⟩)
    exact absurd ⟨fun _=>this.2,fun _=>this.1⟩ hne
   ·exact h1
  have hin:=ht _ (List.mem_of_getElem? hx)
  obtain ⟨i1,i2,i3,i4⟩:=hin
  have aqk:=aaN hx hc hc0
  have hnew:(a,b)∈cG F (cs.set i 1):=qN.mpr ⟨i,1,hx,by rw [List.getElem?_set_self (by omega)],by decide⟩
  have hsub:∀ t∈cG F cs,t∈cG F (cs.set i 1):=fun t h'=>by
   obtain ⟨j,d,h1,h2,h3⟩:=qN.mp h'
   have:j≠i:=fun z=>by rw [z,hc] at h2;injection h2 with h2;omega
   exact qN.mpr ⟨j,d,h1,by rw [List.getElem?_set_ne (Ne.symm this)];exact h2,h3⟩
  have hold:∀ t∈cG F (cs.set i 1),t=(a,b)∨t∈cG F cs:=fun t h'=>by
   obtain ⟨j,d,h1,h2,h3⟩:=qN.mp h'
   by_cases hj:j=i
   ·rw [hj,hx] at h1
    injection h1 with h1
    exact .inl h1.symm
   ·rw [List.getElem?_set_ne (Ne.symm hj)] at h2
    exact .inr (qN.mpr ⟨j,d,h1,h2,h3⟩)
  have fin:∀ (o n:Int),o∈seen→n ∉ seen→(o=a∧n=b∨o=b∧n=a)→W8 F m (cs.set i 1,seen++[n]):=fun o n ho hn hon=>by
   have hnb:0≤n∧n<m:=by rcases hon with ⟨_,rfl⟩ | ⟨_,rfl⟩<;>exact ⟨by assumption,by assumption⟩
   refine ⟨by rw [List.length_set];exact hlen,?_,List.mem_append_left _ h.z,?_,?_,?_,?_⟩
   ·rw [List.nodup_append]
    exact ⟨h.nd,by simp,fun p hp q hq e=>by rw [List.mem_singleton.mp hq] at e;rw [e] at hp;exact hn hp⟩
   ·intro p hp
    rcases List.mem_append.mp hp with hp | hp
    ·exact h.bd p hp
    ·rw [List.mem_singleton.mp hp];exact hnb
   ·have:=h.cnt
    dsimp only at this ⊢
    rw [aqk,List.length_append,this]
    rfl
   ·intro t h'
    rcases hold t h' with rfl | h'
    ·rcases hon with ⟨rfl,rfl⟩ | ⟨rfl,rfl⟩
     ·exact ⟨List.mem_append_left _ ho,List.mem_append_right _ (by simp)⟩
     ·exact ⟨List.mem_append_right _ (by simp),List.mem_append_left _ ho⟩
    ·exact ⟨List.mem_append_left _ (h.ends t h').1,List.mem_append_left _ (h.ends t h').2⟩
   ·intro p hp
    rcases List.mem_append.mp hp with hp | hp
    ·exact (h.reach p hp).sub hsub
    ·rw [List.mem_singleton.mp hp]
     have r:=(h.reach o ho).sub hsub
     rcases hon with ⟨rfl,rfl⟩ | ⟨rfl,rfl⟩
     ·exact .fwd r hnew
     ·exact .bwd r hnew
  by_cases ha:a∈seen
  ·have hb:b ∉ seen:=fun z=>hne ⟨fun _=>z,fun _=>ha⟩
   have e:[a,b].filter (fun p => !decide (p∈seen))=[b]:=by simp [ha,hb]
   rw [e]
   exact fin a b ha hb (.inl ⟨rfl,rfl⟩)
  ·have hb:b∈seen:=Classical.byContradiction fun z=>hne ⟨fun h=>absurd h ha,fun h=>absurd h z⟩
   have e:[a,b].filter (fun p => !decide (p∈seen))=[a]:=by simp [ha,hb]
   rw [e]
   exact fin b a hb ha (.inr ⟨rfl,rfl⟩)
theorem aaO {F:Tis} {m:Int} (ht:∀ t∈F,uh m t):∀ (xs:List ((Int × Int) × Nat)) (st:List Int × List Int),(∀ x∈xs,F[x.2]? = some x.1)→W8 F m st →
  W8 F m (xs.foldl eV st)∧(∀ p∈st.2,p∈(xs.foldl eV st).2)∧∀ x∈xs,(x.1.1∈st.2∨x.1.2∈st.2)→x.1.1∈(xs.foldl eV st).2∧x.1.2∈(xs.foldl eV st).2
 | [],st,_,h=>⟨h,fun p hp=>hp,fun x hx=>by cases hx⟩
 | x::xs,st,hx,h=>by
  obtain ⟨g1,g2⟩:=aj3 (st:=st) (x:=x)
  obtain ⟨h1,h2,h3⟩:=aaO ht xs (eV st x) (fun y hy=>hx y (List.mem_cons_of_mem _ hy)) (aie (hx x List.mem_cons_self) ht h)
  rw [List.foldl_cons]
  refine ⟨h1,fun p hp=>h2 p (g1 p hp),fun y hy hh => ?_⟩
  rcases List.mem_cons.mp hy with rfl | hy
  ·exact ⟨h2 _ (g2 hh).1,h2 _ (g2 hh).2⟩
  ·exact h3 y hy (hh.imp (g1 _) (g1 _))
theorem ac0 {F:Tis} {m:Int} (ht:∀ t∈F,uh m t) (hm:1≤m) (hd:∀ p:Int,1≤p→p<m→∃ q:Int,0≤q∧q<p∧((p,q)∈F∨(q,p)∈F)):∀ k:Nat,
  W8 F m ((List.range k).foldl (jY F) (List.replicate F.length 0,[0]))∧∀ p:Int,0≤p→p≤k→p<m→p∈((List.range k).foldl (jY F) (List.replicate F.length 0,[0])).2
 | 0 => by
  have hc:cG F (List.replicate F.length 0)=[]:=by
   refine List.eq_nil_iff_forall_not_mem.mpr fun t h => ?_
   obtain ⟨i,c,_,h2,h3⟩:=qN.mp h
   have:=List.eq_of_mem_replicate (List.mem_of_getElem? h2)
   omega
  rw [List.range_zero,List.foldl_nil]
  refine ⟨⟨by simp,by simp,by simp,fun p hp => ?_,by rw [hc];rfl,fun t h => ?_,fun p hp => ?_⟩,fun p h1 h2 h3 => ?_⟩
  ·rw [List.mem_singleton.mp hp];omega
  ·rw [hc] at h;cases h
  ·rw [List.mem_singleton.mp hp];exact .refl
  ·have:p=0:=by omega
   rw [this];simp
 | k + 1 => by
  obtain ⟨h1,h2⟩:=ac0 ht hm hd k
  rw [List.range_succ,List.foldl_append]
  obtain ⟨g1,g2,g3⟩:=aaO ht F.zipIdx _ (fun x hx=>List.mem_zipIdx_iff_getElem?.mp hx) h1
  refine ⟨g1,fun p p1 p2 p3 => ?_⟩
  by_cases hp:p≤k
  ·exact g2 p (h2 p p1 hp p3)
  ·obtain ⟨q,q1,q2,hq⟩:=hd p (by omega) p3
   have hqs:=h2 q q1 (by omega) (by omega)
   rcases hq with hq | hq
   ·obtain ⟨i,hi⟩:=List.getElem?_of_mem hq
    exact (g3 ((p,q),i) (List.mem_zipIdx_iff_getElem?.mpr hi) (.inr hqs)).1
   ·obtain ⟨i,hi⟩:=List.getElem?_of_mem hq
    exact (g3 ((q,p),i) (List.mem_zipIdx_iff_getElem?.mpr hi) (.inl hqs)).2
theorem aif {F:Tis} {m:Int} {n:Nat} (hn:n=F.length) (hl:m - 1≤n) (ht:∀ t∈F,uh m t) (hm:1≤m) (hd:∀ p:Int,1≤p→p<m→∃ q:Int,0≤q∧q<p∧((p,q)∈F∨(q,p)∈F)):RJ m (cG F (grow F n).1):=by
 obtain ⟨h1,h2⟩:=ac0 ht hm hd n
 unfold grow
 rw [show (List.replicate n (0:Int))=List.replicate F.length 0 by rw [hn]]
 have hp:((List.range n).foldl (jY F) (List.replicate F.length 0,[0])).2.Perm (upTo m.toNat):=by
  refine (List.perm_ext_iff_of_nodup h1.nd (am9 _)).mpr fun p => ?_
  rw [vH]
  refine ⟨fun h => ?_,fun h=>h2 p h.1 (by omega) (by omega)⟩
  have:=h1.bd p h
  omega
 have hc:=h1.cnt
 have hl2:=hp.length_eq
 rw [lG] at hl2
 refine ⟨by omega,fun p p1 p2=>h1.reach p (h2 p p1 (by omega) p2)⟩
theorem Beside.plan {w w2:D × List Int} (hw:gY w.1 w.2) (h:Beside w w2):∃ s:bQ,w2.1=s.d∧s.Ok∧Cn s.items w2.2∧RK s w2.2:=by
 cases h with
 | bench hne hl hb=>exact (hb.wish (by omega)).plan
 | tree hl =>
  rename_i m b e F ns
  obtain ⟨s0,hs0,ok0,zz⟩:=Beside.Tp hw (.tree (m:=m) (b:=b) (e:=e) (F:=F) (ns:=ns) hl)
  refine ⟨.tree m (F.map (·.1)),by show D.tup _=_;rw [oJ];rfl,?_,⟨?_,?_⟩,?_,?_⟩
  ·have:s0 = .tree m (F.map (·.1)):=wQ (by rw [← hs0];show D.tup _=_;rw [oJ];rfl)
   rw [this] at ok0
   exact ok0
  ·have:=MJ (F:=F.map (·.1)) (List.range ns.length) (List.replicate ns.length 0,[0])
   show (((grow (F.map (·.1)) ns.length).1.length:Nat):Int)=((F.map (·.1)).length:Nat)
   rw [List.length_map,hl]
   unfold grow
   rw [this.1,List.length_replicate]
  ·intro n hn
   rcases Vy n hn with rfl | rfl<;>decide
  ·intro n hn
   rcases Vy n hn with rfl | rfl<;>decide
  ·dsimp only at hw
   generalize hs:D.tup [.str (PySem.Str.ofString "way"),.int m,eE F,.int b,.int e]=s at hw
   cases hw with
   | way hm sp mo hb he ne tr =>
    rename_i b' e' T F' is
    injection hs with hs
    injection hs with _ hs
    injection hs with e1 hs
    injection hs with e2 _
    injection e1 with e1
    subst e1
    have eF:F.map (·.1)=F'.map (·.1):=by
     rw [oJ,oJ] at e2
     exact afa e2
    have dn:=ag3 sp mo
    have lm:=mo.len
    have lF:F.length=F'.length:=by have:=congrArg List.length eF;rwa [List.length_map,List.length_map] at this
    have tt:=aeY mo (Yw sp)
    rw [eF]
    have sl:=sp.1
    refine aif (by rw [pK,List.length_map]) (by rw [pK];omega) (fun t h => ?_) (by omega) (fun p p1 p2 => ?_)
    ·obtain ⟨x,hx,rfl⟩:=List.mem_map.mp h
     exact (tt x hx).inP
    ·obtain ⟨j,t,hj,ht⟩:=dn p p1 p2
     have hm:t∈F'.map (·.1):=List.mem_map.mpr ⟨(t,1),List.mem_of_getElem? hj,rfl⟩
     obtain ⟨t1,t2⟩:=t
     dsimp only at ht
     rcases ht with ⟨rfl,h1,h2⟩ | ⟨rfl,h1,h2⟩
     ·exact ⟨t2,h1,h2,.inl hm⟩
     ·exact ⟨t1,h1,h2,.inr hm⟩
   | _=>(injection hs with hs;injection hs with hs _;injection hs with hs;exact absurd hs (by decide +kernel))
theorem pA.plan {ws:List (D × List Int)} (h:pA ws):∀ w∈ws,∃ s:bQ,w.1=s.d∧s.Ok∧Cn s.items w.2∧RK s w.2:=by
 obtain ⟨w0,hw0,h⟩:=h
 intro w hw
 rcases h with rfl | ⟨w2,hb,hp⟩
 ·rw [List.mem_singleton.mp hw];exact hw0.plan
 ·rcases List.mem_cons.mp (hp.mem_iff.mp hw) with rfl | hw
  ·exact hw0.plan
  ·rw [List.mem_singleton.mp hw];exact hb.plan hw0
end NB
namespace NB
open PySem PySem.Spec L2 DL Fr
theorem alG {n i:Nat} (h:i<n):(NB.upTo n)[i]? = some (i:Int):=by
 unfold NB.upTo
 rw [List.getElem?_map,List.getElem?_range h]
 rfl
section
variable {α β:Type} [Inhabited α] [Inhabited β]
theorem alH {xs:List α}:(NB.upTo xs.length).map (fun i=>xs.getD i.toNat default)=xs:=by
 apply List.ext_getElem?
 intro i
 rw [List.getElem?_map]
 by_cases h:i<xs.length
 ·rw [alG h,List.getElem?_eq_getElem h]
  show some (xs.getD ((i:Int)).toNat default)=_
  rw [List.getD_eq_getElem?_getD,Int.toNat_natCast,List.getElem?_eq_getElem h]
  rfl
 ·rw [List.getElem?_eq_none (by rw [lG];omega),List.getElem?_eq_none (by omega)]
  rfl
theorem pick_perm {xs:List α} {ns:List Int} (h:ns.Perm (NB.upTo xs.length)):(Bp xs ns).Perm xs:=by
 have e:=h.map fun i=>xs.getD i.toNat default
 rw [alH] at e
 exact e
theorem afs {xs:List α} {ys:List β} {ns:List Int} (hl:xs.length=ys.length) (h:∀ i∈ns,0≤i∧i<xs.length):(Bp xs ns).zip (Bp ys ns)=Bp (xs.zip ys) ns:=by
 unfold Bp
 rw [List.zip_map,List.zip_eq_zipWith,List.zipWith_self,List.map_map]
 apply List.map_congr_left
 intro i hi
 obtain ⟨h0,h1⟩:=h i hi
 have l1:i.toNat<xs.length:=by omega
 have l2:i.toNat<ys.length:=by omega
 show (xs.getD i.toNat default,ys.getD i.toNat default)=(xs.zip ys).getD i.toNat default
 rw [List.getD_eq_getElem?_getD,List.getD_eq_getElem?_getD,List.getD_eq_getElem?_getD,show (xs.zip ys)[i.toNat]? = some (xs[i.toNat],ys[i.toNat]) from List.getElem?_zip_eq_some.mpr ⟨List.getElem?_eq_getElem l1,List.getElem?_eq_getElem l2⟩,List.getElem?_eq_getElem l1,List.getElem?_eq_getElem l2]
 rfl
end
theorem aha {ns:List Int} {n:Nat} (h:ns.Perm (NB.upTo n)):∀ i∈ns,0≤i∧i<(n:Int):=fun i hi=>vH.mp (h.mem_iff.mp hi)
theorem zu.perm {e here:Int} {been:List Int} {left:Tis} (w:zu e here been left):∀ {left':Tis},left.Perm left'→zu e here been left':=by
 induction w with
 | done =>
  intro left' h
  rw [List.nil_perm.mp h]
  exact .done
 | @step here been left t h1 h2 h3 _ ih =>
  intro left' h
  refine .step h1 ?_ h3 (ih (h.erase _))
  have:=h.filter (fun t:Int × Int=>decide (t.1=here) || decide (t.2=here))
  rw [h2] at this
  exact List.perm_singleton.mp this.symm
theorem RJ.perm {m:Int} {ts us:Tis} (h:ts.Perm us) (t:RJ m ts):RJ m us :=
 ⟨by rw [← h.length_eq];exact t.1,fun p h1 h2=>(t.2 p h1 h2).mono fun x hx=>h.mem_iff.mp hx⟩
theorem WY.perm {m:Int} {ts us:Tis} (h:ts.Perm us) (t:WY m ts):WY m us:=⟨(h.symm.map _).trans t.1,(h.symm.map _).trans t.2⟩
def dlt (j:Int) (x:(Int × Int) × Int):Int:=(if x.1.1=j then x.2 else 0) - (if x.1.2=j then x.2 else 0)
theorem aop {ns:List Int} {x:(Int × Int) × Int} {j:Nat} (hx:uh ns.length x.1):(fl ns x).getD j 0=ns.getD j 0+dlt j x:=by
 obtain ⟨⟨a,b⟩,c⟩:=x
 obtain ⟨a0,a1,b0,b1⟩:=hx
 dsimp only at a0 a1 b0 b1
 obtain ⟨a,rfl⟩:=Int.eq_ofNat_of_zero_le a0
 obtain ⟨b,rfl⟩:=Int.eq_ofNat_of_zero_le b0
 have a1:a<ns.length:=by omega
 have b1:b<ns.length:=by omega
 unfold fl dlt
 dsimp only
 rw [Int.toNat_natCast,Int.toNat_natCast]
 have ahb:∀ (l:List Int) (i:Nat) (v:Int),i<l.length→(l.set i v).getD j 0=if i=j then v else l.getD j 0:=fun l i v hi=>by
  rw [List.getD_eq_getElem?_getD,List.getElem?_set]
  by_cases e:i=j
  ·subst e
   rw [if_pos rfl,if_pos hi,if_pos rfl]
   rfl
  ·rw [if_neg e,if_neg e,List.getD_eq_getElem?_getD]
 have alI:∀ (l:List Int) (i k:Nat) (v:Int),i<l.length→(l.set i v).getD k 0=if i=k then v else l.getD k 0:=fun l i k v hi=>by
  rw [List.getD_eq_getElem?_getD,List.getElem?_set]
  by_cases e:i=k
  ·subst e
   rw [if_pos rfl,if_pos hi,if_pos rfl]
   rfl
  ·rw [if_neg e,if_neg e,List.getD_eq_getElem?_getD]
 rw [ahb _ _ _ (by rw [List.length_set];exact b1),ahb _ _ _ a1,alI _ _ _ _ a1]
 by_cases h1:a=j<;>by_cases h2:b=j<;>by_cases h3:a=b<;>simp [h1,h2,h3]<;>omega
theorem aft {j:Nat}:∀ {xs:List ((Int × Int) × Int)} {ns:List Int},(∀ x∈xs,uh ns.length x.1)→(xs.foldl fl ns).getD j 0=ns.getD j 0+(xs.map (dlt j)).sum
 | [],ns,_=>by simp
 | x::xs,ns,h=>by
  rw [List.foldl_cons,aft (fun y hy=>by rw [aaj];exact h y (List.mem_cons_of_mem _ hy)),aop (h x List.mem_cons_self),List.map_cons,List.sum_cons]
  omega
theorem alJ {a b:List Int} (h:a.Perm b):a.sum=b.sum:=by
 induction h with
 | nil=>rfl
 | cons x _ ih=>rw [List.sum_cons,List.sum_cons,ih]
 | swap x y l=>rw [List.sum_cons,List.sum_cons,List.sum_cons,List.sum_cons];omega
 | trans _ _ h1 h2=>rw [h1,h2]
theorem ahc {m:Nat} {ts:Tis} {cs nd:List Int} (ht:∀ t∈ts,uh m t) (hl:nd.length=m):flow m ts cs=nd↔∀ j,j<m→((ts.zip cs).map (dlt j)).sum=nd.getD j 0:=by
 have hz:∀ x∈ts.zip cs,uh (List.replicate m (0:Int)).length x.1:=fun x hx=>by
  rw [List.length_replicate]
  obtain ⟨a,b⟩:=x
  exact ht a (List.of_mem_zip hx).1
 have hr:∀ j:Nat,(List.replicate m (0:Int)).getD j 0=0:=fun j=>by
  rw [List.getD_eq_getElem?_getD,List.getElem?_replicate]
  split<;>rfl
 have hg:∀ j,(flow m ts cs).getD j 0=((ts.zip cs).map (dlt j)).sum:=fun j=>by
  unfold flow
  rw [aft hz,hr]
  omega
 have hfl:(flow m ts cs).length=m:=by unfold flow;rw [Yx,List.length_replicate]
 constructor
 ·rintro e j _
  rw [← hg,e]
 ·intro h
  apply List.ext_getElem?
  intro j
  by_cases hj:j<m
  ·have h1:=h j hj
   rw [← hg,List.getD_eq_getElem?_getD,List.getD_eq_getElem?_getD,List.getElem?_eq_getElem (by omega),List.getElem?_eq_getElem (by omega)] at h1
   rw [List.getElem?_eq_getElem (by omega),List.getElem?_eq_getElem (by omega)]
   exact congrArg some h1
  ·rw [List.getElem?_eq_none (by omega),List.getElem?_eq_none (by omega)]
theorem Py.pick {m:Int} {ts:Tis} {rs nd cs ns:List Int} (hm:0≤m) (ht:∀ t∈ts,uh m t) (hr:rs.length=ts.length) (hc:cs.length=ts.length) (hn:(nd.length:Int)=m) (h:ns.Perm (NB.upTo ts.length)) (p:Py m ts rs nd cs):Py m (Bp ts ns) (Bp rs ns) nd (Bp cs ns):=by
 obtain ⟨p1,p2⟩:=p
 have hm':((m.toNat:Nat):Int)=m:=by omega
 refine ⟨fun i c r h1 h2 => ?_,?_⟩
 ·have hz:(c,r)∈(Bp cs ns).zip (Bp rs ns):=List.mem_of_getElem? (List.getElem?_zip_eq_some.mpr ⟨h1,h2⟩)
  rw [afs (by rw [hc,hr]) (by rw [hc];exact aha h)] at hz
  have hz:=(pick_perm (xs:=cs.zip rs) (by rw [List.length_zip,hc,hr,Nat.min_self];exact h)).mem_iff.mp hz
  obtain ⟨j,hj⟩:=List.getElem?_of_mem hz
  obtain ⟨j1,j2⟩:=List.getElem?_zip_eq_some.mp hj
  exact p1 j c r j1 j2
 ·have htp:∀ t∈Bp ts ns,uh m.toNat t:=fun t h'=>by rw [hm'];exact ht t ((pick_perm h).mem_iff.mp h')
  rw [ahc htp (by omega)]
  intro j hj
  rw [afs hc.symm (aha h)]
  have e:=(ahc (fun t h'=>by rw [hm'];exact ht t h') (by omega)).mp p2 j hj
  rw [← e]
  exact alJ ((pick_perm (xs:=ts.zip cs) (by rw [List.length_zip,hc,Nat.min_self];exact h)).map _)
end NB
namespace Fr
def q (f:Int × Int):Rat:=(f.1:Rat) / (f.2:Rat)
end Fr
namespace NB
open PySem PySem.Spec L2 DL Fr
structure alK (n:Nat) (walked:Bool) (price:Fc) (b:Option Fc × Option Fc):Prop where
 lo:∀ f,b.1=some f→Ok n f∧f.1*price.2≤price.1*f.2
 hi:∀ f,b.2=some f→Ok n f∧price.1*f.2≤f.1*price.2
 wk:walked=true→∃ f,b.1=some f∧0≤f.1
structure GoodW (m:Nat) (w:D × List Int):Prop where
 l:w.2.length=m
 bd:∀ c∈w.2,-1000≤c∧c≤1000
 pl:∃ s:bQ,w.1=s.d∧s.Ok∧Cn s.items w.2∧RK s w.2
structure tM (n:Nat) (t:Task):Prop where
 n1:1≤t.prices.length
 n2:t.prices.length≤16
 pr:∀ f∈t.prices,Ok n f
 w1:1≤t.wishes.length
 w4:t.wishes.length≤4
 ws:∀ w∈t.wishes,GoodW t.prices.length w
 bd:Ba (alK n (t.wishes.any zq)) t.prices t.bounds
 wl:t.weights.length=t.prices.length
 wg:∀ w∈t.weights,WQ w
 wd:t.word=PySem.Str.ofString "sum" ∨ t.word=PySem.Str.ofString "greatest"
theorem Fv.g {t:Task} (h:Fv t):tM 20 t where
 n1:=h.n1
 n2:=h.n2
 pr:=fun f hf=>(h.pr f hf).mono (by decide)
 w1:=h.p.w1
 w4:=h.p.wl
 ws:=fun w hw=>⟨h.pl w hw,h.ws.UL w hw,h.ws.plan w hw⟩
 bd:=⟨h.bd.1,fun i x y hx hy=>let z:=h.bd.2 i x y hx hy;⟨z.lo,z.hi,z.wk⟩⟩
 wl:=h.wl
 wg:=h.wg
 wd:=h.wd
section
variable {n:Nat} {t:Task}
theorem tM.mono {m:Nat} (h:tM n t) (l:n≤m):tM m t :=
 ⟨h.n1,h.n2,fun f hf=>(h.pr f hf).mono l,h.w1,h.w4,h.ws,⟨h.bd.1,fun i x y hx hy=>let z:=h.bd.2 i x y hx hy;⟨fun f e=>⟨(z.lo f e).1.mono l,(z.lo f e).2⟩,fun f e=>⟨(z.hi f e).1.mono l,(z.hi f e).2⟩,z.wk⟩⟩,h.wl,h.wg,h.wd⟩
theorem tM.bdn (h:tM n t):∀ b∈t.bounds,(∀ f,b.1=some f→Ok n f)∧(∀ f,b.2=some f→Ok n f):=fun b hb=>by
 obtain ⟨f,_,z⟩:=h.bd.mem hb
 exact ⟨fun f e=>(z.lo f e).1,fun f e=>(z.hi f e).1⟩
theorem GoodW.Tp {m:Nat} {w:D × List Int} (h:GoodW m w):∃ s:bQ,w.1=s.d∧s.Ok∧s.items=w.2.length:=by
 obtain ⟨s,e,ok,hc,_⟩:=h.pl
 exact ⟨s,e,ok,hc.l.symm⟩
theorem tM.p (h:tM n t) (l:n≤300):Ip t where
 n1:=h.n1
 n2:=h.n2
 pr:=fun f hf=>(h.pr f hf).mono l
 w1:=h.w1
 wl:=h.w4
 ws:=fun w hw=>⟨(h.ws w hw).l,(h.ws w hw).Tp⟩
 bl:=h.bd.1
 bd:=fun b hb=>⟨fun f e=>((h.bdn b hb).1 f e).mono l,fun f e=>((h.bdn b hb).2 f e).mono l⟩
 gl:=h.wl
theorem anb {m:Nat} {w:D × List Int} (hm:m≤16) (h:GoodW m w):Sh 4 98463 (bR w):=by
 obtain ⟨s,es,ok,_⟩:=h.pl
 refine Fy (n:=3) (c:=49228) (k:=2) (xs:=[w.1,.lst (w.2.map D.int)]) (by simp) fun y hy => ?_
 simp only [List.mem_cons,List.not_mem_nil,or_false] at hy
 rcases hy with rfl | rfl
 ·rw [es];exact aoo ok
 ·exact (am' (by rw [h.l];exact hm) h.bd).mono (by decide) (by decide)
theorem tM.sh (h:tM n t) (l:n≤300):Sh 6 1969328 t.d:=by
 have hn:=h.n2
 refine Fy (n:=5) (c:=393863) (k:=5) (by simp) fun x hx => ?_
 simp only [List.mem_cons,List.not_mem_nil,or_false] at hx
 rcases hx with rfl | rfl | rfl | rfl | rfl
 ·exact (Vx (n:=1) (c:=613) (k:=16) (by rw [List.length_map];exact hn) fun x hx=>by
   obtain ⟨f,hf,rfl⟩:=List.mem_map.mp hx
   exact adZ (h.pr f hf) l).mono (by decide) (by decide)
 ·exact (Vx (n:=4) (c:=98463) (k:=4) (by rw [List.length_map];exact h.w4) fun x hx=>by
   obtain ⟨w,hw,rfl⟩:=List.mem_map.mp hx
   exact anb hn (h.ws w hw)).mono (by decide) (by decide)
 ·exact (Vx (n:=2) (c:=1233) (k:=16) (by rw [List.length_map,h.bd.1];exact hn) fun x hx=>by
   obtain ⟨b,hb,rfl⟩:=List.mem_map.mp hx
   refine Fy (n:=1) (c:=613) (k:=2) (xs:=[cY b.1,cY b.2]) (by simp) fun y hy => ?_
   simp only [List.mem_cons,List.not_mem_nil,or_false] at hy
   rcases hy with rfl | rfl
   ·exact aj2 fun f e=>((h.bdn b hb).1 f e).mono l
   ·exact aj2 fun f e=>((h.bdn b hb).2 f e).mono l).mono (by decide) (by decide)
 ·exact (Vx (n:=2) (c:=1233) (k:=16) (by rw [List.length_map,h.wl];exact hn) fun x hx=>by
   obtain ⟨b,hb,rfl⟩:=List.mem_map.mp hx
   refine Fy (n:=1) (c:=613) (k:=2) (xs:=[fr b.1,fr b.2]) (by simp) fun y hy => ?_
   simp only [List.mem_cons,List.not_mem_nil,or_false] at hy
   rcases hy with rfl | rfl
   ·exact adZ (h.wg b hb).dn (by decide)
   ·exact adZ (h.wg b hb).up (by decide)).mono (by decide) (by decide)
 ·rcases h.wd with e | e<;>rw [e]<;>exact ⟨by decide +kernel,rfl,by decide +kernel⟩
end
theorem J9 {n:Nat} {f:Fc} (h:Ok n f):jE (fr f)=true:=Ve.mpr ⟨f,rfl,h.pos,h.cop⟩
theorem agk {n:Nat} {W:Bool} {f:Fc} {b:Option Fc × Option Fc} (h:alK n W f b):vJ f W (fV b)=true:=by
 obtain ⟨lo,hi⟩:=b
 obtain ⟨h1,h2,h3⟩:=h
 dsimp only at h1 h2 h3
 have a1:Fd (cY lo)=true:=by
  cases lo with
  | none=>rfl
  | some g=>exact J9 (h1 g rfl).1
 have a2:Fd (cY hi)=true:=by
  cases hi with
  | none=>rfl
  | some g=>exact J9 (h2 g rfl).1
 have a3:lowOk f W (cY lo)=true:=by
  cases lo with
  | none =>
   cases W with
   | false=>rfl
   | true=>obtain ⟨g,e,_⟩:=h3 rfl;cases e
  | some g =>
   show (!(W && decide (g.1*1<0*g.2)) && !decide (f.1*g.2<g.1*f.2))=true
   have z1:=(h1 g rfl).2
   rw [decide_eq_false (show ¬ f.1*g.2<g.1*f.2 by omega)]
   cases W with
   | false=>rfl
   | true =>
    obtain ⟨g',e,h0⟩:=h3 rfl
    cases e
    rw [decide_eq_false (by omega)]
    rfl
 have a4:afl f (cY hi)=true:=by
  cases hi with
  | none=>rfl
  | some g =>
   show (!decide (g.1*f.2<f.1*g.2))=true
   have z1:=(h2 g rfl).2
   rw [decide_eq_false (show ¬ g.1*f.2<f.1*g.2 by omega)]
   rfl
 show ((Fd (cY lo) && Fd (cY hi)) && (lowOk f W (cY lo) && afl f (cY hi)))=true
 rw [a1,a2,a3,a4]
 rfl
theorem GoodW.ao7 {m:Nat} {w:D × List Int} (h:GoodW m w):Iu m (bR w):=by
 obtain ⟨s,e,ok,hc,hp⟩:=h.pl
 exact ⟨s,_,by unfold bR;rw [e],ok,by rw [← hc.l,h.l],w.2,rfl,hc,hp⟩
theorem tM.look {n:Nat} {t:Task} (h:tM n t):dU t.d=none:=by
 have n1:=h.n1
 have n2:=h.n2
 have e1:pN (.lst (t.prices.map fr))=none:=by
  unfold pN
  dsimp only
  rw [List.length_map,if_pos ⟨n1,n2⟩,Fg fun y hy=>by obtain ⟨f,hf,rfl⟩:=List.mem_map.mp hy;exact J9 (h.pr f hf)]
  rfl
 have e2:pO (rK (.lst (t.prices.map fr))).length (.lst (t.wishes.map bR))=none:=by
  unfold pO
  dsimp only
  rw [List.length_map,if_pos ⟨h.w1,h.w4⟩,Fg fun y hy=>by
   obtain ⟨v,hv,rfl⟩:=List.mem_map.mp hy
   refine Vo.mpr ?_
   show Iu (((t.prices.map fr).length:Nat):Int) _
   rw [List.length_map]
   exact (h.ws v hv).ao7]
  rfl
 have ef:(rK (.lst (t.prices.map fr))).map acd=t.prices:=by
  show (t.prices.map fr).map acd=_
  rw [List.map_map]
  exact List.map_id'' (fun _=>rfl) _
 have ew:(rK (.lst (t.wishes.map bR))).any ab'=t.wishes.any zq:=by
  show (t.wishes.map bR).any ab'=_
  rw [List.any_map]
  congr 1
  funext w
  obtain ⟨d,ns⟩:=w
  show ab' (.tup [d,_])=zq (d,ns)
  cases d with
  | tup xs =>
   cases xs with
   | nil=>rfl
   | cons x xs=>cases x<;>rfl
  | _=>rfl
 have e3:wR t.prices (t.wishes.any zq) (.lst (t.bounds.map fV))=none:=by
  unfold wR
  dsimp only
  rw [List.length_map,if_pos h.bd.1]
  have:Fw (fun x i=>vJ (t.prices.getD i (0,1)) (t.wishes.any zq) x) (t.bounds.map fV)=none:=by
   refine List.findIdx?_eq_none_iff.mpr fun p hp => ?_
   obtain ⟨x,i⟩:=p
   have hx:=List.mem_zipIdx_iff_getElem?.mp hp
   obtain ⟨b,hb,rfl⟩:=map_some hx
   have hi:i<t.prices.length:=by rw [← h.bd.1];exact (List.getElem?_eq_some_iff.mp hb).1
   have hpi:t.prices[i]? = some (t.prices.getD i (0,1)):=by rw [List.getD_eq_getElem?_getD,List.getElem?_eq_getElem hi];rfl
   have:=agk (h.bd.2 i _ b hpi hb)
   show (!vJ (t.prices.getD i (0,1)) (t.wishes.any zq) (fV b))=false
   rw [this]
   rfl
  rw [this]
  rfl
 have e4:tE (rK (.lst (t.prices.map fr))).length (.lst (t.weights.map iZ))=none:=by
  unfold tE
  dsimp only
  rw [List.length_map,if_pos (by rw [h.wl];show _=(t.prices.map fr).length;rw [List.length_map]),Fg fun y hy=>by
   obtain ⟨w,hw,rfl⟩:=List.mem_map.mp hy
   have g:=h.wg w hw
   show ((jE (fr w.1) && decide (0<w.1.1)) && (jE (fr w.2) && decide (0<w.2.1)))=true
   rw [J9 g.dn,J9 g.up,decide_eq_true g.dp,decide_eq_true g.pp]
   rfl]
  rfl
 have e5:aaE (.str t.word)=true:=by
  rcases h.wd with e | e<;>rw [e]<;>decide +kernel
 show dU (.tup [.lst (t.prices.map fr),.lst (t.wishes.map bR),.lst (t.bounds.map fV),.lst (t.weights.map iZ),.str t.word])=none
 unfold dU
 dsimp only
 rw [e1]
 dsimp only
 rw [e2]
 dsimp only
 rw [ef,ew,e3]
 dsimp only
 rw [e4]
 dsimp only
 rw [e5]
 rfl
theorem ahd {s:bQ} (ok:s.Ok):jg 20 4 s.d=true:=by
 have w:jg 20 3 (.str s.word)=true:=by cases s<;>(dsimp only [bQ.word];decide +kernel)
 have tis:∀ {ts:Tis},ts.length≤16→jg 20 3 (jx ts)=true:=fun {ts} h=>uE (by rw [List.length_map];omega) fun x hx=>by
  obtain ⟨t,_,rfl⟩:=List.mem_map.mp hx
  exact uE (by simp) fun y hy=>by
   simp only [List.mem_cons,List.not_mem_nil,or_false] at hy
   rcases hy with rfl | rfl<;>exact jG
 have its:∀ {ns:List Int},ns.length≤20→jg 20 3 (iV ns)=true:=fun {ns} h=>uE (by rw [List.length_map];omega) fun x hx=>by
  obtain ⟨t,_,rfl⟩:=List.mem_map.mp hx
  exact jG
 refine uE (by cases s<;>simp [bQ.rest]) fun x hx => ?_
 rcases List.mem_cons.mp hx with rfl | hx
 ·exact w
 cases s with
 | way m ts b e =>
  have l:=ok.1.Xy
  simp only [bQ.rest,List.mem_cons,List.not_mem_nil,or_false] at hx
  rcases hx with rfl | rfl | rfl | rfl
  ·exact jG
  ·exact tis l
  ·exact jG
  ·exact jG
 | tree m ts =>
  have l:=Web.Xy ok
  simp only [bQ.rest,List.mem_cons,List.not_mem_nil,or_false] at hx
  rcases hx with rfl | rfl
  ·exact jG
  ·exact tis l
 | pair m ts =>
  have l:=ok.2.1.2
  simp only [bQ.rest,List.mem_cons,List.not_mem_nil,or_false] at hx
  rcases hx with rfl | rfl
  ·exact jG
  ·exact tis l
 | deal rs w =>
  have l:=ok.1.2
  simp only [bQ.rest,List.mem_cons,List.not_mem_nil,or_false] at hx
  rcases hx with rfl | rfl
  ·exact its (by omega)
  ·exact jG
 | stream m ts rs k =>
  have l:=ok.1.Xy
  have l2:=ok.2.1
  have l3:=ok.2.2.2.1
  have l4:=ok.1.m10
  simp only [bQ.rest,List.mem_cons,List.not_mem_nil,or_false] at hx
  rcases hx with rfl | rfl | rfl | rfl
  ·exact jG
  ·exact tis l
  ·exact its (by omega)
  ·exact its (by omega)
 | bench ls =>
  have l:=ok.1.2
  simp only [bQ.rest,List.mem_cons,List.not_mem_nil,or_false] at hx
  subst hx
  exact its (by omega)
theorem alL {f:Fc}:Bo (fr f):=⟨rfl,fun xs e=>by
 injection e with e
 subst e
 intro x hx
 simp only [List.mem_cons,List.not_mem_nil,or_false] at hx
 rcases hx with rfl | rfl<;>rfl⟩
theorem anc {n:Nat} {f:Fc} (h:Ok n f) (l:n≤4000):Vl (fr f):=fun g e=>by
 injection e with e
 injection e with e1 e2
 injection e2 with e2 _
 injection e1 with e1
 injection e2 with e2
 rw [← e1,← e2]
 exact ⟨(h.mono l).tb,(h.mono l).bb⟩
theorem ahe:Vl .non:=fun g e=>by cases e
theorem afu:Bo .non:=⟨rfl,fun xs e=>by cases e⟩
theorem tM.twice {n:Nat} {t:Task} (h:tM n t) (l:t.wishes.length≤2):tM n { t with wishes:=t.wishes++t.wishes }:=by
 have ha:(t.wishes++t.wishes).any zq=t.wishes.any zq:=by rw [List.any_append,Bool.or_self]
 exact ⟨h.n1,h.n2,h.pr,by show 1≤(t.wishes++t.wishes).length;rw [List.length_append];have:=h.w1;omega,by show (t.wishes++t.wishes).length≤4;rw [List.length_append];omega,fun w hw=>h.ws w ((List.mem_append.mp hw).elim id id),by
  show Ba (alK n ((t.wishes++t.wishes).any zq)) t.prices t.bounds
  rw [ha]
  exact h.bd,h.wl,h.wg,h.wd⟩
end NB
namespace NB
open PySem PySem.Spec L2 DL Fr
structure Parts (K:Int) (B:Nat):Prop where
 pos:1≤K
 kb:K.natAbs<2^2000
 bb:B<2^2000
def alM (n P:Nat) (arcs:List (Int × Int × Int)):Prop:=∀ x∈arcs,(0≤x.1∧x.1<n)∧(0≤x.2.1∧x.2.1<n)∧x.2.2.natAbs≤P
theorem Parts.sz {K:Int} {B:Nat} {m:Int} (h:Parts K B) (hm:m.natAbs≤B):Sz (low m K) :=
 NB.Ok.sz (Ph (n:=2000) (by have:=h.pos;omega) (Nat.lt_of_le_of_lt hm h.bb) h.kb) (by decide)
theorem aj4 {K a b:Int} (h:1≤K):o8 (low a K) (low b K)=low (a+b) K:=by
 have hk:K≠0:=by omega
 rw [am0 hk hk]
 refine Pu (oh hk hk) hk ?_
 grind
theorem aj5 {K a b:Int} (h:1≤K):sX (low a K) (low b K)=low (a - b) K:=by
 have hk:K≠0:=by omega
 rw [am1 hk hk]
 refine Pu (oh hk hk) hk ?_
 grind
end NB
namespace NB
open PySem PySem.Spec L2 DL Fr
theorem alM.add {n P:Nat} {as:List (Int × Int × Int)} {x:Int × Int × Int} (h:alM n P as) (h1:0≤x.1∧x.1<n) (h2:0≤x.2.1∧x.2.1<n) (h3:x.2.2.natAbs≤P):alM n P (as++[x]):=fun y hy=>by
 rcases List.mem_append.mp hy with hy | hy
 ·exact h y hy
 ·rw [List.mem_singleton.mp hy]
  exact ⟨h1,h2,h3⟩
end NB
namespace NB
open PySem PySem.Spec L2 DL Fr
def PrX (fs:List (Int × Int)):Prop:=∃ (K:Int) (ps:List Int),1≤K∧K.natAbs<2^1900∧fs=ps.map (fun p=>low p K)∧∀ p∈ps,p.natAbs<2^1900
theorem PrX.ok {fs:List (Int × Int)} (h:PrX fs):∀ f∈fs,Ok 1900 f:=by
 obtain ⟨K,ps,k1,k2,rfl,hp⟩:=h
 intro f hf
 obtain ⟨p,hm,rfl⟩:=List.mem_map.mp hf
 exact Ph (by omega) (hp p hm) k2
end NB
namespace NB
open PySem PySem.Spec L2 DL Fr
def Lk (K:Int) (B:Nat) (f:Int × Int):Prop:=∃ m:Int,m.natAbs≤B∧f=low m K
section
variable {K L:Int} {A B n:Nat} {f g:Int × Int}
theorem Lk.ok (h:Lk K B f) (hk:1≤K) (h1:K.natAbs<2^n) (h2:B<2^n):Ok n f:=by
 obtain ⟨m,hm,rfl⟩:=h
 exact Ph (by omega) (Nat.lt_of_le_of_lt hm h2) h1
theorem Lk.pos (h:Lk K B f) (hk:1≤K):1≤f.2:=by
 obtain ⟨m,hm,rfl⟩:=h
 exact oU (by omega)
theorem Lk.mono (h:Lk K A f) (l:A≤B):Lk K B f:=by
 obtain ⟨m,hm,rfl⟩:=h
 exact ⟨m,Nat.le_trans hm l,rfl⟩
theorem Lk.add (hk:1≤K) (h:Lk K A f) (k:Lk K B g):Lk K (A+B) (o8 f g):=by
 obtain ⟨m,hm,rfl⟩:=h
 obtain ⟨l,hl,rfl⟩:=k
 exact ⟨m+l,by omega,aj4 hk⟩
theorem Lk.sub (hk:1≤K) (h:Lk K A f) (k:Lk K B g):Lk K (A+B) (sX f g):=by
 obtain ⟨m,hm,rfl⟩:=h
 obtain ⟨l,hl,rfl⟩:=k
 exact ⟨m - l,by omega,aj5 hk⟩
theorem Lk.zero (hk:1≤K):Lk K 0 (0,1):=⟨0,Nat.le_refl _,(sW (by omega) (by decide) (by decide) (by simp)).symm⟩
theorem Lk.int (hk:1≤K) {x:Int} (hx:x.natAbs≤B):Lk K (B*K.natAbs) (x,1):=⟨x*K,by rw [Int.natAbs_mul];exact Nat.mul_le_mul_right _ hx,(sW (by omega) (by show (1:Int)≤1;decide) (by show Nat.gcd x.natAbs 1=1;exact Nat.gcd_one_right _) (by show x*K=x*K*1;omega)).symm⟩
theorem Lk.of (hf:Ok n f) (hk:1≤K) (hd:f.2∣K) (ht:f.1.natAbs≤A):Lk K (A*K.natAbs) f:=by
 obtain ⟨c,rfl⟩:=hd
 have hp:=hf.pos
 have hc:1≤c:=by
  by_cases h:1≤c
  ·exact h
  ·have:=Int.mul_le_mul_of_nonneg_left (show c≤0 by omega) (show 0≤f.2 by omega)
   omega
 refine ⟨f.1*c,?_,(sW (by omega) hp hf.cop (by rw [Int.mul_comm f.2 c,Int.mul_assoc])).symm⟩
 rw [Int.natAbs_mul,Int.natAbs_mul]
 exact Nat.mul_le_mul ht (Nat.le_mul_of_pos_left _ (by omega))
theorem Lk.neg (hk:1≤K) (h:Lk K A f):Lk K A (0 - f.1,f.2):=by
 obtain ⟨m,hm,rfl⟩:=h
 have k0:K≠0:=by omega
 refine ⟨-m,by omega,(sW k0 (oU k0) ?_ ?_).symm⟩
 ·have:=Pg (t:=m) k0
  show Nat.gcd (0 - (low m K).1).natAbs _=1
  rwa [show (0 - (low m K).1).natAbs=(low m K).1.natAbs by omega]
 ·have:=jf (t:=m) k0
  show (0 - (low m K).1)*K = -m*(low m K).2
  rw [Int.sub_mul,this,Int.neg_mul]
  omega
theorem Lk.abs (hk:1≤K) (h:Lk K A f):Lk K A ((f.1.natAbs:Int),f.2):=by
 by_cases h0:0≤f.1
 ·rw [show ((f.1.natAbs:Int),f.2)=f by rw [show ((f.1.natAbs:Nat):Int)=f.1 by omega]]
  exact h
 ·rw [show ((f.1.natAbs:Int),f.2)=(0 - f.1,f.2) by rw [show ((f.1.natAbs:Nat):Int)=0 - f.1 by omega]]
  exact h.neg hk
end
theorem PrX.lk {fs:List (Int × Int)} (h:PrX fs):∃ K:Int,1≤K∧K.natAbs<2^1900∧∀ f∈fs,Lk K (2^1900) f:=by
 obtain ⟨K,ps,h1,h2,rfl,hp⟩:=h
 refine ⟨K,h1,h2,fun f hf => ?_⟩
 obtain ⟨p,hm,rfl⟩:=List.mem_map.mp hf
 exact ⟨p,Nat.le_of_lt (hp p hm),rfl⟩
end NB
namespace KP
open PySem PySem.Spec L2 DL Fr NB
def Tq (B:Nat) (o:Option Fc):Prop:=∀ f,o=some f→Lk 12 B f
structure gG (B:Nat) (t:Task):Prop where
 p:Ip t
 pr:∀ f∈t.prices,Lk 12 B f
 bd:∀ b∈t.bounds,Tq B b.1∧Tq B b.2
 wg:∀ w∈t.weights,WQ w
 wd:t.word=PySem.Str.ofString "sum" ∨ t.word=PySem.Str.ofString "greatest"
 pl:∀ w∈t.wishes,∀ x∈w.2,x.natAbs≤1000
theorem Tq.mono {A B:Nat} {o:Option Fc} (h:Tq A o) (l:A≤B):Tq B o:=fun f e=>(h f e).mono l
theorem gG.mono {A B:Nat} {t:Task} (h:gG A t) (l:A≤B):gG B t :=
 ⟨h.p,fun f hf=>(h.pr f hf).mono l,fun b hb=>⟨(h.bd b hb).1.mono l,(h.bd b hb).2.mono l⟩,h.wg,h.wd,h.pl⟩
theorem DG {B:Nat} {f:Fc} (h:Lk 12 B f) (l:B<2^25):Ok 25 f:=h.ok (by decide) (by decide) l
def B0:Nat:=2^20*12
theorem ach {n:Nat} {f:Fc} (h:Ok n f) (l:n≤20) (d:f.2∣12):Lk 12 B0 f :=
 Lk.of (A:=2^20) (K:=12) h (by decide) d (Nat.le_of_lt (h.mono l).tb)
theorem afv {t:Task} (h:Fv t):gG B0 t:=by
 refine ⟨h.p,fun f hf=>ach (h.pr f hf) (by decide) (h.pd f hf),fun b hb => ?_,h.wg,h.wd,fun w hw x hx => ?_⟩
 ·obtain ⟨i,hi⟩:=List.mem_iff_getElem?.mp hb
  have hl:i<t.prices.length:=by rw [← h.bd.1];exact (List.getElem?_eq_some_iff.mp hi).1
  have g:=h.bd.2 i _ b (List.getElem?_eq_getElem hl) hi
  exact ⟨fun f e=>ach (g.lo f e).1 (by decide) (g.d.1 f e),fun f e=>ach (g.hi f e).1 (by decide) (g.d.2 f e)⟩
 ·have g:=(h.g.ws w hw).bd x hx
  omega
theorem ahf {t:Task} (h:Fv t):dU t.d=none:=h.g.look
structure TPT (T:TP):Prop where
 a:T.a.length≤1000∧∀ x∈T.a,afn x
 b:T.b.length≤1000∧∀ x∈T.b,W4 x
 c:T.c.length≤1000∧∀ x∈T.c,RowW x
 e:T.e.length≤1000∧∀ x∈T.e,RowW x
 w:dN T.w=true
theorem R5 {P:D→Prop} {xs:List D} (h:xs.length≤1000∧∀ x∈xs,P x):Bt P (.lst xs):=⟨rfl,fun ys e=>by
 injection e with e
 subst e
 exact h⟩
theorem TPT.task {T:TP} (h:TPT T):Bu T.d:=⟨rfl,fun a b c e w he=>by
 injection he with he
 injection he with e1 he
 injection he with e2 he
 injection he with e3 he
 injection he with e4 he
 injection he with e5 _
 subst e1 e2 e3 e4 e5
 exact ⟨R5 h.a,R5 h.b,R5 h.c,R5 h.e,h.w⟩⟩
theorem M8 {x y:D} (h1:Bo x∧Vl x) (h2:Bo y∧Vl y) (hp:dN x=true∧dN y=true):RowW (.tup [x,y]):=by
 refine ⟨⟨rfl,fun xs e z hz => ?_⟩,fun xs e z hz => ?_⟩
 ·injection e with e
  subst e
  simp only [List.mem_cons,List.not_mem_nil,or_false] at hz
  rcases hz with rfl | rfl
  ·exact hp.1
  ·exact hp.2
 ·injection e with e
  subst e
  simp only [List.mem_cons,List.not_mem_nil,or_false] at hz
  rcases hz with rfl | rfl
  ·exact h1
  ·exact h2
theorem zR {n:Nat} {f:Fc} (h:Ok n f) (l:n≤300):afn (fr f):=⟨alL,anc h (by omega)⟩
theorem aaP {B:Nat} {o:Option Fc} (h:Tq B o) (l:B<2^25):Bo (cY o)∧Vl (cY o):=by
 cases o with
 | none=>exact ⟨afu,ahe⟩
 | some f=>exact zR (DG (h f rfl) l) (by decide)
theorem alN {d:D} {ns:List Int} {n:Nat} (hl:ns.length≤16) (hs:∃ s:bQ,d=s.d∧s.Ok∧s.items=n):W4 (bR (d,ns)):=by
 refine ⟨rfl,fun s p e => ?_⟩
 injection e with e
 injection e with e1 e2
 injection e2 with e2 _
 subst e1 e2
 obtain ⟨s,rfl,ok,_⟩:=hs
 exact ⟨ae7 (ahd ok) (by decide) (by decide),ajX (show ns.length≤1000 by omega)⟩
theorem M9 {o:Option Fc}:dN (cY o)=true:=by cases o<;>rfl
theorem gG.tpt {B:Nat} {t:Task} (h:gG B t) (l:B<2^25):TPT (d9 t):=by
 have n2:=h.p.n2
 refine ⟨⟨?_,fun x hx => ?_⟩,⟨?_,fun x hx => ?_⟩,⟨?_,fun x hx => ?_⟩,⟨?_,fun x hx => ?_⟩,rfl⟩
 ·show (t.prices.map fr).length≤_
  rw [List.length_map]
  omega
 ·obtain ⟨f,hf,rfl⟩:=List.mem_map.mp (show x∈t.prices.map fr from hx)
  exact zR (DG (h.pr f hf) l) (by decide)
 ·have:=h.p.wl
  show (t.wishes.map bR).length≤_
  rw [List.length_map]
  omega
 ·obtain ⟨w,hw,rfl⟩:=List.mem_map.mp (show x∈t.wishes.map bR from hx)
  have g:=h.p.ws w hw
  exact alN (by omega) g.2
 ·show (t.bounds.map fV).length≤_
  rw [List.length_map,h.p.bl]
  omega
 ·obtain ⟨b,hb,rfl⟩:=List.mem_map.mp (show x∈t.bounds.map fV from hx)
  have g:=h.bd b hb
  exact M8 (aaP g.1 l) (aaP g.2 l) ⟨M9,M9⟩
 ·show (t.weights.map iZ).length≤_
  rw [List.length_map,h.p.gl]
  omega
 ·obtain ⟨w,hw,rfl⟩:=List.mem_map.mp (show x∈t.weights.map iZ from hx)
  have g:=h.wg w hw
  exact M8 (zR g.dn (by decide)) (zR g.up (by decide)) ⟨rfl,rfl⟩
theorem R6 {α:Type} {enc:α→D} {xs:List α} {k:Nat} {x:α} (h:k<xs.length):mZ (xs.map enc) k (enc x)=(xs.set k x).map enc:=by
 unfold mZ
 rw [List.set_eq_take_append_cons_drop,if_pos h,List.map_append,List.map_cons,List.map_take,List.map_drop,List.append_assoc]
 rfl
inductive pJ (B:Nat) (t:Task):cI→Prop
 | price {k:Nat} {f:Fc}:k<t.prices.length→Lk 12 B f→pJ B t (.price (.int k) (fr f))
 | bound {k:Nat} {x y:Option Fc}:k<t.prices.length→Tq B x→Tq B y→pJ B t (.bound (.int k) (cY x) (cY y))
 | weigh {k:Nat} {f g:Fc}:k<t.prices.length→WQ (f,g)→pJ B t (.weigh (.int k) (fr f) (fr g))
 | by_ {w:Str}:w=PySem.Str.ofString "sum" ∨ w=PySem.Str.ofString "greatest" → pJ B t (.by_ (.str w))
 | wish {k:Nat} {ns:List Int}:k<t.wishes.length→ns.length=t.prices.length→(∀ x∈ns,x.natAbs≤1000)→pJ B t (.wish (.int k) (.lst (ns.map D.int)))
theorem Ji {k n:Nat} (h:k<n):gA (.int (k:Int)) n=some k:=by
 unfold gA
 dsimp only
 rw [if_pos ⟨by omega,by omega⟩,Int.toNat_natCast]
theorem vN {α:Type} {xs:List α} {k:Nat} {x y:α} (h:y∈xs.set k x):y=x∨y∈xs:=by
 rcases List.mem_or_eq_of_mem_set h with h | h
 ·exact .inr h
 ·exact .inl h
theorem pJ.due {A B:Nat} {t:Task} {δ:cI} (h:pJ B t δ) (K:gG A t) (l:A≤B) (l2:B<2^25):∃ t',KP.due (d9 t) δ = .task (d9 t')∧gG B t':=by
 have K':=K.mono l
 obtain ⟨n1,n2,pr,w1,wl,ws,bl,bd,gl⟩:=K'.p
 cases h with
 | @price k f hk hf =>
  refine ⟨{ t with prices:=t.prices.set k f },?_,⟨⟨by show 1≤(t.prices.set k f).length;rw [List.length_set];exact n1,by show (t.prices.set k f).length≤16;rw [List.length_set];exact n2,fun g hg => ?_,w1,wl,fun w hw => ?_,?_,bd,?_⟩,fun g hg => ?_,K'.bd,K'.wg,K'.wd,K'.pl⟩⟩
  ·unfold KP.due
   dsimp only
   rw [pB,Ji hk]
   dsimp only
   congr 1
   show ({ d9 t with a:=mZ (t.prices.map fr) k (fr f) }:TP)=_
   rw [R6 hk]
   rfl
  ·rcases vN hg with rfl | hg
   ·exact (DG hf l2).mono (by decide)
   ·exact pr g hg
  ·show w.2.length=(t.prices.set k f).length∧_
   rw [List.length_set]
   exact ws w hw
  ·show t.bounds.length=(t.prices.set k f).length
   rw [List.length_set]
   exact bl
  ·show t.weights.length=(t.prices.set k f).length
   rw [List.length_set]
   exact gl
  ·rcases vN hg with rfl | hg
   ·exact hf
   ·exact K'.pr g hg
 | @bound k x y hk hx hy =>
  have hkb:k<t.bounds.length:=by omega
  refine ⟨{ t with bounds:=t.bounds.set k (x,y) },?_,⟨⟨n1,n2,pr,w1,wl,ws,?_,fun b hb => ?_,gl⟩,K'.pr,fun b hb => ?_,K'.wg,K'.wd,K'.pl⟩⟩
  ·unfold KP.due
   dsimp only
   rw [pB,Ji hk]
   dsimp only
   congr 1
   show ({ d9 t with c:=mZ (t.bounds.map fV) k (fV (x,y)) }:TP)=_
   rw [R6 hkb]
   rfl
  ·show (t.bounds.set k (x,y)).length=_
   rw [List.length_set]
   exact bl
  ·rcases vN hb with rfl | hb
   ·exact ⟨fun f e=>(DG (hx f e) l2).mono (by decide),fun f e=>(DG (hy f e) l2).mono (by decide)⟩
   ·exact bd b hb
  ·rcases vN hb with rfl | hb
   ·exact ⟨hx,hy⟩
   ·exact K'.bd b hb
 | @weigh k f g hk hw =>
  have hkb:k<t.weights.length:=by omega
  refine ⟨{ t with weights:=t.weights.set k (f,g) },?_,⟨⟨n1,n2,pr,w1,wl,ws,bl,bd,?_⟩,K'.pr,K'.bd,fun w h => ?_,K'.wd,K'.pl⟩⟩
  ·unfold KP.due
   dsimp only
   rw [pB,Ji hk]
   dsimp only
   congr 1
   show ({ d9 t with e:=mZ (t.weights.map iZ) k (iZ (f,g)) }:TP)=_
   rw [R6 hkb]
   rfl
  ·show (t.weights.set k (f,g)).length=_
   rw [List.length_set]
   exact gl
  ·rcases vN h with rfl | h
   ·exact hw
   ·exact K'.wg w h
 | @by_ w hw=>exact ⟨{ t with word:=w },rfl,⟨⟨n1,n2,pr,w1,wl,ws,bl,bd,gl⟩,K'.pr,K'.bd,K'.wg,hw,K'.pl⟩⟩
 | @wish k ns hk hl hn =>
  obtain ⟨d0,p0,e0⟩:∃ d0 p0,t.wishes.getD k (.non,[])=(d0,p0):=⟨_,_,rfl⟩
  have m0:(d0,p0)∈t.wishes:=by
   rw [← e0,List.getD_eq_getElem?_getD,List.getElem?_eq_getElem hk]
   exact List.getElem_mem hk
  refine ⟨{ t with wishes:=t.wishes.set k (d0,ns) },?_,⟨⟨n1,n2,pr,?_,?_,fun w h => ?_,bl,bd,gl⟩,K'.pr,K'.bd,K'.wg,K'.wd,fun w h x hx => ?_⟩⟩
  ·unfold KP.due
   dsimp only
   rw [J8,Ji hk]
   dsimp only
   rw [YQ hk,e0]
   congr 1
   show ({ d9 t with b:=mZ (t.wishes.map bR) k (bR (d0,ns)) }:TP)=_
   rw [R6 hk]
   rfl
  ·show 1≤(t.wishes.set k (d0,ns)).length
   rw [List.length_set]
   exact w1
  ·show (t.wishes.set k (d0,ns)).length≤4
   rw [List.length_set]
   exact wl
  ·rcases vN h with rfl | h
   ·obtain ⟨a1,s,e1,e2,e3⟩:=ws _ m0
    exact ⟨hl,s,e1,e2,by rw [e3];show ((p0.length:Nat):Int)=(ns.length:Nat);rw [hl];exact congrArg _ a1⟩
   ·exact ws w h
  ·rcases vN h with rfl | h
   ·exact hn x hx
   ·exact K'.pl w h x hx
end KP
namespace KP
open PySem PySem.Spec L2 DL Fr NB
def vf:Option (D × D)→D
 | none => .non
 | some (a,b) => .lst [.str (PySem.Str.ofString "task"),a,b]
def vO:Ct:=fun ds μ Q _=>∃ d,ds=[d]∧Bu d∧Q (vf (dU d)) μ
def vP:Ct:=fun ds μ Q _=>∃ (T T':TP) (δ:cI),ds=[T.d,δ.d]∧TPT T∧T.c.length=T.a.length∧T.e.length=T.a.length∧due T δ = .task T'∧(∀ k,k<T.b.length→∃ s p,T.b.getD k .non = .tup [s,p])∧Q T'.d μ
def aaQ:Ct:=fun ds μ Q _=>∃ (p:Addr) (ls:List Int),ds=[.raw (.ref p),iV ls]∧dO μ p∧1≤ls.length∧ls.length≤8∧(∀ l∈ls,1≤l∧l≤9)∧u6 p μ Q (fun ns:List Int=>ns.length=ls.length∧∀ x∈ns,x.natAbs≤1000) fun ns => .lst (ns.map D.int)
def aaR:Ct:=fun ds μ Q _=>∃ (p:Addr) (t:Task) (B:Nat),ds=[t.d,.raw (.ref p)]∧dO μ p∧gG B t∧B+384<2^25∧u6 p μ Q (pJ (B+384) t) cI.d
def Qc:cI→Prop
 | .bound _ x y=>dN x=true∧dN y=true
 | _=>True
def Vz (C CI CT CW:Addr):Ct:=fun ds μ Q X=>∃ (a:Addr) (t:Task) (f:D) (p:Addr) (ps:List D) (δ:cI),ds=[.raw (.ref a),δ.d]∧fX C μ a t f p ps∧ps.length<1000∧dN (numOf δ)=true∧Qc δ∧Done C CI CT CW a t f p ps δ μ Q X
def Told (C a:Addr) (t:Task) (first:D) (p:Addr) (past:List D) (δ:cI) (μ:M) (Q:QD):Prop:=match due (d9 t) δ with
 | .item=>Q (.lst [.bl true,.bl false,.bl true]) μ
 | .wish=>Q (.lst [.bl false,.bl true,.bl true]) μ
 | .task T=>Bu T.d∧(dU T.d=none→∃ t',T.d=t'.d∧Ip t'∧∀ μ',fX C μ' a t' first p (past++[t.d])→Off μ μ' a p→Q .non μ')∧∀ x y,dU T.d=some (x,y)→Q (.lst [.str (PySem.Str.ofString "task"),x,y]) μ
def FJ (C:Addr):Ct:=fun ds μ Q _=>∃ (a:Addr) (t:Task) (f:D) (p:Addr) (ps:List D) (δ:cI),ds=[.raw (.ref a),δ.d]∧fX C μ a t f p ps∧ps.length<1000∧dN (numOf δ)=true∧Qc δ∧Told C a t f p ps δ μ Q
def DN (K:PySem.W.Frag) (bB:Addr):bh :=
 (aJ (bY (dB (aF (lD false) (aq 1) (dC .non))) (aW (dC .non)) aX)
  (aW (d7 (ao (dC (.str (PySem.Str.ofString "task"))) (ao (Um K "part" (aq 1)) (ao (Um K "number" (aq 1)) aC))))))
def Ka (K:PySem.W.Frag) (bB:Addr):bh :=
 (aJ (aZ 1 (dC .non))
  (aJ (Mu K (.ref bB) 2 (gJ (dCall (Vs bB) (ao (aq 0) aC))) (fun _=>(aZ 1 (aq 2))))
  (DN K bB)))
def wW:bh :=
 (aW (aF cD (dTup (ao (aq 2) (ao (aF cD (aF cD (jU (aq 3) cJ (dR (aq 7))) (d7 (ao (dTup (ao (aF aN (aF aN (aq 3) (aq 7)) (dC (.int 0))) (ao (aF aN (aq 1) (dC (.int 2))) aC))) aC))) (jU (aq 3) (dR (aF cD (aq 7) (dC (.int 1)))) cJ)) aC))) (jU (aq 0) (dR (dC (.int 2))) cJ)))
def mG:bh :=
 (aJ (bY (dB (aF eY (aF aN (aq 1) (dC (.int 0))) (dC (.str (PySem.Str.ofString "weigh"))))) (aW (aF cD (jU (aq 0) cJ (dR (dC (.int 3)))) (dTup (ao (aF cD (aF cD (jU (aq 5) cJ (dR (aq 7))) (d7 (ao (jU (aq 1) (dR (dC (.int 2))) cJ) aC))) (jU (aq 5) (dR (aF cD (aq 7) (dC (.int 1)))) cJ)) (ao (aq 6) aC))))) aX)
  wW)
def iH:bh :=
 (aJ (bY (dB (aF eY (aF aN (aq 1) (dC (.int 0))) (dC (.str (PySem.Str.ofString "bound"))))) (aW (aF cD (aF cD (jU (aq 0) cJ (dR (dC (.int 2)))) (dTup (ao (aF cD (aF cD (jU (aq 4) cJ (dR (aq 7))) (d7 (ao (jU (aq 1) (dR (dC (.int 2))) cJ) aC))) (jU (aq 4) (dR (aF cD (aq 7) (dC (.int 1)))) cJ)) aC))) (jU (aq 0) (dR (dC (.int 3))) cJ))) aX)
  mG)
def fM:bh :=
 (aJ (aZ 7 (aF aN (aq 1) (dC (.int 1))))
  (aJ (bY (dB (aF eY (aF aN (aq 1) (dC (.int 0))) (dC (.str (PySem.Str.ofString "price"))))) (aW (aF cD (dTup (ao (aF cD (aF cD (jU (aq 2) cJ (dR (aq 7))) (d7 (ao (aF aN (aq 1) (dC (.int 2))) aC))) (jU (aq 2) (dR (aF cD (aq 7) (dC (.int 1)))) cJ)) aC)) (jU (aq 0) (dR (dC (.int 1))) cJ))) aX)
  iH))
def g8:bh :=
 (aJ (xg (aq 0) (j9 (bF (bW 2) (bF (bW 3) (bF (bW 4) (bF (bW 5) (bF (bW 6) fH)))))))
  (aJ (bY (dB (aF eY (aF aN (aq 1) (dC (.int 0))) (dC (.str (PySem.Str.ofString "by"))))) (aW (aF cD (jU (aq 0) cJ (dR (dC (.int 4)))) (dTup (ao (aF aN (aq 1) (dC (.int 1))) aC)))) aX)
  fM))
def VB:bh :=
 (aJ (aZ 2 (aF yC (d7 (ao (dC (.int 0)) aC)) (bV dX (ao (aq 1) aC))))
  (aJ (aZ 3 (dC (.int 0)))
  (aJ (j8 (fO (dCall qu (ao (aq 0) (ao (QM QS (bV dX (ao (aq 1) aC))) aC)))) (bW 4) (aJ (aZ 3 (aF cD (aq 3) (aF aN (aq 1) (aq 4))))
  (qd (aq 3) (aq 2) (aq 4))))
  (aW (Gx (aq 2))))))
structure Kl (K:PySem.W.Frag) (C:Addr):Prop where
 x:PySem.W.exmOne K (.ref C) (.ref C)=some true
 ek:FW K C
 part:PySem.W.findIn K (.ref C) "part" = some none
 number:PySem.W.findIn K (.ref C) "number" = some none
theorem adq {K:PySem.W.Frag} {C:Addr} (kn:Kl K C):HB vO (Ka K C) 3:=by
 intro ds μ Q X h
 obtain ⟨d,rfl,ht,q⟩:=h
 show Ka K C (ends Q XF) [some d,none,none] μ
 have sz:16777216≤sizeLine:=by decide
 simp! only [Ka]
 refine ⟨d,rfl,ht,fun hn => ?_,fun a b hn => ?_⟩
 ·rw [hn] at q
  simp! only [DN]
  exact .of q
 ·rw [hn] at q
  refine ⟨true,kn.x,fun _ p hp => ?_,fun z=>(by cases z)⟩
  have en:decide (V.ref p=V.non)=false:=decide_eq_false (fun z=>by cases z)
  simp! only [DN,en]
  refine ⟨p,C,_,_,rfl,aP,kn.ek,kn.part,rfl,?_⟩
  walk_at "r"
  refine ⟨p,C,_,_,rfl,aP,kn.ek,kn.number,rfl,?_⟩
  walk_at "r"
  exact ⟨by decide,μ,Sub.new hp,q⟩
theorem ad0 {xs:List D} {k:Nat}:cutD xs none (some (k:Int))=xs.take k:=Ro
theorem ad1 {xs:List D} {k:Nat}:cutD xs (some ((k:Int)+1)) none=xs.drop (k+1):=JL
theorem Tr:decide (PySem.Str.ofString "price" = PySem.Str.ofString "price")=true:=by decide +kernel
theorem afw:decide (PySem.Str.ofString "price" = PySem.Str.ofString "wish")=false:=by decide +kernel
theorem aii:decide (PySem.Str.ofString "price" = PySem.Str.ofString "by")=false:=by decide +kernel
theorem Tt:decide (PySem.Str.ofString "bound" = PySem.Str.ofString "price")=false:=by decide +kernel
theorem Tv:decide (PySem.Str.ofString "bound" = PySem.Str.ofString "bound")=true:=by decide +kernel
theorem afx:decide (PySem.Str.ofString "bound" = PySem.Str.ofString "wish")=false:=by decide +kernel
theorem aij:decide (PySem.Str.ofString "bound" = PySem.Str.ofString "by")=false:=by decide +kernel
theorem Tw:decide (PySem.Str.ofString "weigh" = PySem.Str.ofString "price")=false:=by decide +kernel
theorem Tz:decide (PySem.Str.ofString "weigh" = PySem.Str.ofString "bound")=false:=by decide +kernel
theorem TF:decide (PySem.Str.ofString "weigh" = PySem.Str.ofString "weigh")=true:=by decide +kernel
theorem afy:decide (PySem.Str.ofString "weigh" = PySem.Str.ofString "wish")=false:=by decide +kernel
theorem aik:decide (PySem.Str.ofString "weigh" = PySem.Str.ofString "by")=false:=by decide +kernel
theorem VD:decide (PySem.Str.ofString "wish" = PySem.Str.ofString "price")=false:=by decide +kernel
theorem VF:decide (PySem.Str.ofString "wish" = PySem.Str.ofString "bound")=false:=by decide +kernel
theorem VG:decide (PySem.Str.ofString "wish" = PySem.Str.ofString "weigh")=false:=by decide +kernel
theorem XJ:decide (PySem.Str.ofString "wish" = PySem.Str.ofString "wish")=true:=by decide +kernel
theorem aj6:decide (PySem.Str.ofString "wish" = PySem.Str.ofString "by")=false:=by decide +kernel
theorem aaS:decide (PySem.Str.ofString "by" = PySem.Str.ofString "price")=false:=by decide +kernel
theorem aaT:decide (PySem.Str.ofString "by" = PySem.Str.ofString "bound")=false:=by decide +kernel
theorem aaU:decide (PySem.Str.ofString "by" = PySem.Str.ofString "weigh")=false:=by decide +kernel
theorem VH:decide (PySem.Str.ofString "by" = PySem.Str.ofString "wish")=false:=by decide +kernel
theorem ane:decide (PySem.Str.ofString "by" = PySem.Str.ofString "by")=true:=by decide +kernel
theorem amw {a b x y:D}:cutD [a,b,x,y] (some 2) none=[x,y]:=rfl
theorem W9 {xs:List D} {k:Nat} {d:D} (h:xs.length≤1000):(xs.take k).length+1≤sizeLine∧(xs.take k++[d]).length+(xs.drop (k+1)).length≤sizeLine:=by
 have sz:16777216≤sizeLine:=by decide
 rw [List.length_append,List.length_take,List.length_drop,List.length_singleton]
 omega
section
variable {T:TP} {k:Nat} {x y w s p:D} {Q:QD} {μ:M}
theorem ao8 (q:Q (.tup [.lst T.a,.lst T.b,.lst T.c,.lst T.e,w]) μ):g8 (ends Q XF) [some T.d,some (cI.by_ w).d,none,none,none,none,none,none] μ:=by
 simp! only [g8,TP.d,cI.d,adY,aaS,aaT,aaU,VH,ane]
 exact ⟨by decide +kernel,by decide +kernel,by decide,by decide,.of q⟩
theorem aj7 {E:bM} (h:fM E [some (.tup [.lst T.a,.lst T.b,.lst T.c,.lst T.e,T.w]),some (.tup [.str (PySem.Str.ofString "price"),.int (k:Int),x]),some (.lst T.a),some (.lst T.b),some (.lst T.c),some (.lst T.e),some T.w,none] μ):g8 E [some T.d,some (cI.price (.int (k:Int)) x).d,none,none,none,none,none,none] μ:=by
 simp! only [g8,TP.d,cI.d,aii]
 exact ⟨by decide +kernel,by decide +kernel,h⟩
theorem aj8 {E:bM} (h:fM E [some (.tup [.lst T.a,.lst T.b,.lst T.c,.lst T.e,T.w]),some (.tup [.str (PySem.Str.ofString "bound"),.int (k:Int),x,y]),some (.lst T.a),some (.lst T.b),some (.lst T.c),some (.lst T.e),some T.w,none] μ):g8 E [some T.d,some (cI.bound (.int (k:Int)) x y).d,none,none,none,none,none,none] μ:=by
 simp! only [g8,TP.d,cI.d,aij]
 exact ⟨by decide +kernel,by decide +kernel,h⟩
theorem aj9 {E:bM} (h:fM E [some (.tup [.lst T.a,.lst T.b,.lst T.c,.lst T.e,T.w]),some (.tup [.str (PySem.Str.ofString "weigh"),.int (k:Int),x,y]),some (.lst T.a),some (.lst T.b),some (.lst T.c),some (.lst T.e),some T.w,none] μ):g8 E [some T.d,some (cI.weigh (.int (k:Int)) x y).d,none,none,none,none,none,none] μ:=by
 simp! only [g8,TP.d,cI.d,aik]
 exact ⟨by decide +kernel,by decide +kernel,h⟩
theorem alO {E:bM} (h:fM E [some (.tup [.lst T.a,.lst T.b,.lst T.c,.lst T.e,T.w]),some (.tup [.str (PySem.Str.ofString "wish"),.int (k:Int),x]),some (.lst T.a),some (.lst T.b),some (.lst T.c),some (.lst T.e),some T.w,none] μ):g8 E [some T.d,some (cI.wish (.int (k:Int)) x).d,none,none,none,none,none,none] μ:=by
 simp! only [g8,TP.d,cI.d,aj6]
 exact ⟨by decide +kernel,by decide +kernel,h⟩
theorem alP (l:T.a.length≤1000) (q:Q (.tup [.lst (mZ T.a k x),.lst T.b,.lst T.c,.lst T.e,T.w]) μ):fM (ends Q XF) [some (.tup [.lst T.a,.lst T.b,.lst T.c,.lst T.e,T.w]),some (.tup [.str (PySem.Str.ofString "price"),.int (k:Int),x]),some (.lst T.a),some (.lst T.b),some (.lst T.c),some (.lst T.e),some T.w,none] μ:=by
 obtain ⟨s1,s2⟩:=W9 (xs:=T.a) (k:=k) (d:=x) l
 simp! only [fM,amq,ad0,ad1,Tr]
 exact ⟨by decide +kernel,by decide +kernel,by decide,s1,s2,by decide,by decide,.of q⟩
theorem aj' {E:bM} (h:iH E [some (.tup [.lst T.a,.lst T.b,.lst T.c,.lst T.e,T.w]),some (.tup [.str (PySem.Str.ofString "bound"),.int (k:Int),x,y]),some (.lst T.a),some (.lst T.b),some (.lst T.c),some (.lst T.e),some T.w,some (.int (k:Int))] μ):fM E [some (.tup [.lst T.a,.lst T.b,.lst T.c,.lst T.e,T.w]),some (.tup [.str (PySem.Str.ofString "bound"),.int (k:Int),x,y]),some (.lst T.a),some (.lst T.b),some (.lst T.c),some (.lst T.e),some T.w,none] μ:=by
 simp! only [fM,Tt]
 exact ⟨by decide +kernel,by decide +kernel,h⟩
theorem akb {E:bM} (h:iH E [some (.tup [.lst T.a,.lst T.b,.lst T.c,.lst T.e,T.w]),some (.tup [.str (PySem.Str.ofString "weigh"),.int (k:Int),x,y]),some (.lst T.a),some (.lst T.b),some (.lst T.c),some (.lst T.e),some T.w,some (.int (k:Int))] μ):fM E [some (.tup [.lst T.a,.lst T.b,.lst T.c,.lst T.e,T.w]),some (.tup [.str (PySem.Str.ofString "weigh"),.int (k:Int),x,y]),some (.lst T.a),some (.lst T.b),some (.lst T.c),some (.lst T.e),some T.w,none] μ:=by
 simp! only [fM,Tw]
 exact ⟨by decide +kernel,by decide +kernel,h⟩
theorem alQ {E:bM} (h:iH E [some (.tup [.lst T.a,.lst T.b,.lst T.c,.lst T.e,T.w]),some (.tup [.str (PySem.Str.ofString "wish"),.int (k:Int),x]),some (.lst T.a),some (.lst T.b),some (.lst T.c),some (.lst T.e),some T.w,some (.int (k:Int))] μ):fM E [some (.tup [.lst T.a,.lst T.b,.lst T.c,.lst T.e,T.w]),some (.tup [.str (PySem.Str.ofString "wish"),.int (k:Int),x]),some (.lst T.a),some (.lst T.b),some (.lst T.c),some (.lst T.e),some T.w,none] μ:=by
 simp! only [fM,VD]
 exact ⟨by decide +kernel,by decide +kernel,h⟩
theorem aoq {R rest:bh} {E:bM} (h:R { E with nx:=rest E } [some (.tup [.lst T.a,.lst T.b,.lst T.c,.lst T.e,T.w]),some (.tup [.str (PySem.Str.ofString "bound"),.int (k:Int),x,y]),some (.lst T.a),some (.lst T.b),some (.lst T.c),some (.lst T.e),some T.w,some (.int (k:Int))] μ):aJ (bY (dB (aF eY (aF aN (aq 1) (dC (.int 0))) (dC (.str (PySem.Str.ofString "bound"))))) R aX) rest E [some (.tup [.lst T.a,.lst T.b,.lst T.c,.lst T.e,T.w]),some (.tup [.str (PySem.Str.ofString "bound"),.int (k:Int),x,y]),some (.lst T.a),some (.lst T.b),some (.lst T.c),some (.lst T.e),some T.w,some (.int (k:Int))] μ:=by
 simp! only [Tv]
 exact ⟨by decide +kernel,by decide +kernel,h⟩
theorem ao9 {te:bZ} {E:bM} {d:D} (hd:lY te (E.xc [some (.tup [.lst T.a,.lst T.b,.lst T.c,.lst T.e,T.w]),some (.tup [.str (PySem.Str.ofString "bound"),.int (k:Int),x,y]),some (.lst T.a),some (.lst T.b),some (.lst T.c),some (.lst T.e),some T.w,some (.int (k:Int))]) [some (.tup [.lst T.a,.lst T.b,.lst T.c,.lst T.e,T.w]),some (.tup [.str (PySem.Str.ofString "bound"),.int (k:Int),x,y]),some (.lst T.a),some (.lst T.b),some (.lst T.c),some (.lst T.e),some T.w,some (.int (k:Int))] μ d) (q:E.rt (.tup [.lst T.a,.lst T.b,d,.lst T.e,T.w]) μ):aW (aF cD (aF cD (jU (aq 0) cJ (dR (dC (.int 2)))) (dTup (ao te aC))) (jU (aq 0) (dR (dC (.int 3))) cJ)) E [some (.tup [.lst T.a,.lst T.b,.lst T.c,.lst T.e,T.w]),some (.tup [.str (PySem.Str.ofString "bound"),.int (k:Int),x,y]),some (.lst T.a),some (.lst T.b),some (.lst T.c),some (.lst T.e),some T.w,some (.int (k:Int))] μ:=by
 simp! only [amr]
 refine hd _ ?_
 simp! only [ams]
 exact ⟨by decide,(show 3≤sizeLine by decide),(show 5≤sizeLine by decide),q⟩
theorem alR (l:T.c.length≤1000) (q:Q (.tup [.lst T.a,.lst T.b,.lst (mZ T.c k (.tup [x,y])),.lst T.e,T.w]) μ):iH (ends Q XF) [some (.tup [.lst T.a,.lst T.b,.lst T.c,.lst T.e,T.w]),some (.tup [.str (PySem.Str.ofString "bound"),.int (k:Int),x,y]),some (.lst T.a),some (.lst T.b),some (.lst T.c),some (.lst T.e),some T.w,some (.int (k:Int))] μ:=by
 obtain ⟨s1,s2⟩:=W9 (xs:=T.c) (k:=k) (d := .tup [x,y]) l
 unfold iH
 refine aoq ?_
 refine ao9 (d := .lst (mZ T.c k (.tup [x,y]))) (fun Q q => ?_) (.of q)
 simp! only [ad0,ad1,amw]
 exact ⟨by decide,s1,s2,q⟩
theorem akc {E:bM} (h:mG E [some (.tup [.lst T.a,.lst T.b,.lst T.c,.lst T.e,T.w]),some (.tup [.str (PySem.Str.ofString "weigh"),.int (k:Int),x,y]),some (.lst T.a),some (.lst T.b),some (.lst T.c),some (.lst T.e),some T.w,some (.int (k:Int))] μ):iH E [some (.tup [.lst T.a,.lst T.b,.lst T.c,.lst T.e,T.w]),some (.tup [.str (PySem.Str.ofString "weigh"),.int (k:Int),x,y]),some (.lst T.a),some (.lst T.b),some (.lst T.c),some (.lst T.e),some T.w,some (.int (k:Int))] μ:=by
 simp! only [iH,Tz]
 exact ⟨by decide +kernel,by decide +kernel,h⟩
theorem alS {E:bM} (h:mG E [some (.tup [.lst T.a,.lst T.b,.lst T.c,.lst T.e,T.w]),some (.tup [.str (PySem.Str.ofString "wish"),.int (k:Int),x]),some (.lst T.a),some (.lst T.b),some (.lst T.c),some (.lst T.e),some T.w,some (.int (k:Int))] μ):iH E [some (.tup [.lst T.a,.lst T.b,.lst T.c,.lst T.e,T.w]),some (.tup [.str (PySem.Str.ofString "wish"),.int (k:Int),x]),some (.lst T.a),some (.lst T.b),some (.lst T.c),some (.lst T.e),some T.w,some (.int (k:Int))] μ:=by
 simp! only [iH,VF]
 exact ⟨by decide +kernel,by decide +kernel,h⟩
theorem aor {R rest:bh} {E:bM} (h:R { E with nx:=rest E } [some (.tup [.lst T.a,.lst T.b,.lst T.c,.lst T.e,T.w]),some (.tup [.str (PySem.Str.ofString "weigh"),.int (k:Int),x,y]),some (.lst T.a),some (.lst T.b),some (.lst T.c),some (.lst T.e),some T.w,some (.int (k:Int))] μ):aJ (bY (dB (aF eY (aF aN (aq 1) (dC (.int 0))) (dC (.str (PySem.Str.ofString "weigh"))))) R aX) rest E [some (.tup [.lst T.a,.lst T.b,.lst T.c,.lst T.e,T.w]),some (.tup [.str (PySem.Str.ofString "weigh"),.int (k:Int),x,y]),some (.lst T.a),some (.lst T.b),some (.lst T.c),some (.lst T.e),some T.w,some (.int (k:Int))] μ:=by
 simp! only [TF]
 exact ⟨by decide +kernel,by decide +kernel,h⟩
theorem ao' {te:bZ} {E:bM} {d:D} (hd:lY te (E.xc [some (.tup [.lst T.a,.lst T.b,.lst T.c,.lst T.e,T.w]),some (.tup [.str (PySem.Str.ofString "weigh"),.int (k:Int),x,y]),some (.lst T.a),some (.lst T.b),some (.lst T.c),some (.lst T.e),some T.w,some (.int (k:Int))]) [some (.tup [.lst T.a,.lst T.b,.lst T.c,.lst T.e,T.w]),some (.tup [.str (PySem.Str.ofString "weigh"),.int (k:Int),x,y]),some (.lst T.a),some (.lst T.b),some (.lst T.c),some (.lst T.e),some T.w,some (.int (k:Int))] μ d) (q:E.rt (.tup [.lst T.a,.lst T.b,.lst T.c,d,T.w]) μ):aW (aF cD (jU (aq 0) cJ (dR (dC (.int 3)))) (dTup (ao te (ao (aq 6) aC)))) E [some (.tup [.lst T.a,.lst T.b,.lst T.c,.lst T.e,T.w]),some (.tup [.str (PySem.Str.ofString "weigh"),.int (k:Int),x,y]),some (.lst T.a),some (.lst T.b),some (.lst T.c),some (.lst T.e),some T.w,some (.int (k:Int))] μ:=by
 simp! only [amt]
 refine hd _ ?_
 walk_at "r"
 exact ⟨by decide,by decide,q⟩
theorem alT (l:T.e.length≤1000) (q:Q (.tup [.lst T.a,.lst T.b,.lst T.c,.lst (mZ T.e k (.tup [x,y])),T.w]) μ):mG (ends Q XF) [some (.tup [.lst T.a,.lst T.b,.lst T.c,.lst T.e,T.w]),some (.tup [.str (PySem.Str.ofString "weigh"),.int (k:Int),x,y]),some (.lst T.a),some (.lst T.b),some (.lst T.c),some (.lst T.e),some T.w,some (.int (k:Int))] μ:=by
 obtain ⟨s1,s2⟩:=W9 (xs:=T.e) (k:=k) (d := .tup [x,y]) l
 unfold mG
 refine aor ?_
 refine ao' (d := .lst (mZ T.e k (.tup [x,y]))) (fun Q q => ?_) (.of q)
 simp! only [ad0,ad1,amw]
 exact ⟨by decide,s1,s2,q⟩
theorem alU {E:bM} (h:wW E [some (.tup [.lst T.a,.lst T.b,.lst T.c,.lst T.e,T.w]),some (.tup [.str (PySem.Str.ofString "wish"),.int (k:Int),x]),some (.lst T.a),some (.lst T.b),some (.lst T.c),some (.lst T.e),some T.w,some (.int (k:Int))] μ):mG E [some (.tup [.lst T.a,.lst T.b,.lst T.c,.lst T.e,T.w]),some (.tup [.str (PySem.Str.ofString "wish"),.int (k:Int),x]),some (.lst T.a),some (.lst T.b),some (.lst T.c),some (.lst T.e),some T.w,some (.int (k:Int))] μ:=by
 simp! only [mG,VG]
 exact ⟨by decide +kernel,by decide +kernel,h⟩
theorem anf (l:T.b.length≤1000) (hk:atI T.b (k:Int)=some (.tup [s,p])) (q:Q (.tup [.lst T.a,.lst (mZ T.b k (.tup [s,x])),.lst T.c,.lst T.e,T.w]) μ):wW (ends Q XF) [some (.tup [.lst T.a,.lst T.b,.lst T.c,.lst T.e,T.w]),some (.tup [.str (PySem.Str.ofString "wish"),.int (k:Int),x]),some (.lst T.a),some (.lst T.b),some (.lst T.c),some (.lst T.e),some T.w,some (.int (k:Int))] μ:=by
 obtain ⟨s1,s2⟩:=W9 (xs:=T.b) (k:=k) (d := .tup [s,x]) l
 simp! only [wW,amu,ad0,ad1,hk]
 exact ⟨(show 2≤sizeLine by decide),by decide,s1,s2,by decide,(show 5≤sizeLine by decide),.of q⟩
end
theorem adt:HB vP g8 8:=by
 intro ds μ Q X h
 obtain ⟨T,T',δ,rfl,ht,lc,le,hd,hb,q⟩:=h
 show g8 (ends Q XF) [some T.d,some δ.d,none,none,none,none,none,none] μ
 cases δ with
 | price i x =>
  unfold due at hd
  dsimp only at hd
  cases hn:gA i T.a.length with
  | none=>rw [hn] at hd;cases hd
  | some k =>
   rw [hn] at hd
   injection hd with hd
   subst hd
   obtain ⟨rfl,hk⟩:=vK hn
   exact aj7 (alP ht.a.1 q)
 | bound i x y =>
  unfold due at hd
  dsimp only at hd
  cases hn:gA i T.a.length with
  | none=>rw [hn] at hd;cases hd
  | some k =>
   rw [hn] at hd
   injection hd with hd
   subst hd
   obtain ⟨rfl,hk⟩:=vK hn
   exact aj8 (aj' (alR ht.c.1 q))
 | weigh i x y =>
  unfold due at hd
  dsimp only at hd
  cases hn:gA i T.a.length with
  | none=>rw [hn] at hd;cases hd
  | some k =>
   rw [hn] at hd
   injection hd with hd
   subst hd
   obtain ⟨rfl,hk⟩:=vK hn
   exact aj9 (akb (akc (alT ht.e.1 q)))
 | by_ w =>
  injection hd with hd
  subst hd
  exact ao8 q
 | wish i x =>
  unfold due at hd
  dsimp only at hd
  cases hn:gA i T.b.length with
  | none=>rw [hn] at hd;cases hd
  | some k =>
   rw [hn] at hd
   injection hd with hd
   subst hd
   obtain ⟨rfl,hk⟩:=vK hn
   obtain ⟨s,p,e⟩:=hb k hk
   have at_:atI T.b (k:Int)=some (.tup [s,p]):=by
    obtain ⟨y,e1,e2⟩:=mW (xs:=T.b) (i:=(k:Int)) (by omega) (by omega)
    rw [e1,← e2,Int.toNat_natCast,← e,List.getD_eq_getElem?_getD,List.getElem?_eq_getElem hk]
    rfl
   rw [e] at q
   exact alO (alQ (alS (alU (anf ht.b.1 at_ q))))
theorem ail:HB aaQ VB 5:=by
 intro ds μ Q X h
 obtain ⟨p,ls,rfl,hp,h1,h8,hl,q⟩:=h
 show VB (ends Q XF) [some (.raw (.ref p)),some (.tup (ls.map D.int)),none,none,none] μ
 have sz:16777216≤sizeLine:=by decide
 simp! only [VB,List.length_map]
 refine ⟨by decide,⟨by omega,by omega,by show 1*ls.length≤sizeLine;omega⟩,fun c hc => ?_⟩
 have hne:=uz hp hc
 have e0:(List.replicate ((ls.length:Nat):Int).toNat [D.int 0]).flatten=(List.replicate ls.length (0:Int)).map D.int:=by rw [List.flatten_replicate_singleton,List.map_replicate];rfl
 rw [e0]
 simp! only [List.length_map]
 refine ⟨⟨by omega,by omega⟩,p,_,rfl,fY hne hp,by rw [oE];omega,fun ys μ2 hys h2 o2 => ?_⟩
 rw [Ew] at hys
 obtain ⟨R,rfl,hR⟩:=CP hys
 have hRb:=perm_range hR
 have hRl:R.length=ls.length:=by rw [hR.length_eq,lG];omega
 walk_at "r"
 refine ⟨fun i δ μ'=>∃ (t:Int) (acc:List Int) (x:Option D),acc.length=ls.length∧0≤t∧t≤9*i∧(∀ z∈acc,0≤z∧z≤9*i)∧δ=[some (.raw (.ref p)),some (.tup (ls.map D.int)),some (.raw (.ref c)),some (.int t),x]∧dO μ' p ∧
  μ' c=some (.lst (acc.map D.int))∧jC μ μ' p c,⟨0,List.replicate ls.length 0,none,List.length_replicate,by decide,by decide,fun z hz=>by rw [List.eq_of_mem_replicate hz];exact ⟨by decide,by decide⟩,rfl,h2,mj o2 hne aP,(jC.new (nM.refl _ _)).step o2⟩,?_⟩
 rintro i δ μ' ⟨t,acc,x,hal,t0,t1,hb,rfl,hp',hc',ho⟩
 refine ⟨trivial,fun d hd => ?_,fun hi => ?_⟩
 ·obtain ⟨o,ho',rfl⟩:=map_some hd
  obtain ⟨b1,b2⟩:=hRb o (List.mem_of_getElem? ho')
  have e1:=CQ (ns:=ls) (i:=o) b1 (by omega)
  have hm:ls.getD o.toNat 0∈ls:=by
   rw [List.getD_eq_getElem?_getD,List.getElem?_eq_getElem (by omega)]
   exact List.getElem_mem (by omega)
  have hv:=hl _ hm
  simp! only [e1]
  refine ⟨_,hc',?_⟩
  rw [List.length_map,Jf b1 (by omega)]
  walk_at "r"
  rw [← List.map_set]
  refine ⟨_,_,_,by rw [List.length_set];exact hal,?_,?_,fun z hz => ?_,rfl,fY hne hp',aP,ho.put⟩
  ·omega
  ·omega
  ·rcases vN hz with rfl | hz
   ·omega
   ·have:=hb z hz
    omega
 ·rw [List.length_map] at hi
  subst hi
  walk_at "r"
  refine ⟨_,hc',.of ?_⟩
  exact q acc _ ⟨hal,fun z hz=>by have:=hb z hz;omega⟩ (qL hne hp') (ho.del hc)
end KP
namespace KP
open PySem PySem.Spec L2 DL Fr NB
def tO (c2' c3' bB c1':Addr):bh :=
 (aJ (bY (dB (aF eY (aF aN (aq 1) (dC (.int 0))) (dC (.str (PySem.Str.ofString "price"))))) (aW (jD c2' "price" (RW c2' c3' bB) (aq 0) (ao (aF aN (aq 1) (dC (.int 1))) (ao (aF aN (aq 1) (dC (.int 2))) aC)))) aX)
  (aJ (bY (dB (aF eY (aF aN (aq 1) (dC (.int 0))) (dC (.str (PySem.Str.ofString "bound"))))) (aJ (bY (dB (aF (lD false) (aF aN (aq 1) (dC (.int 2))) (dC .non))) (aW (qm c2' "bound" (tK c2' c3' bB) 3 [0,1,3,2] [D.non,D.non] (aq 0) (tX 1 (ao (aF aN (aq 1) (dC (.int 1))) aC)) (ao (aF aN (aq 1) (dC (.int 3))) aC))) aX)
  (aJ (bY (dB (aF (lD false) (aF aN (aq 1) (dC (.int 3))) (dC .non))) (aW (qm c2' "bound" (tK c2' c3' bB) 3 [0,2,1,4] [D.non,D.non] (aq 0) aC (ao (aF aN (aq 1) (dC (.int 2))) (ao (aF aN (aq 1) (dC (.int 1))) aC)))) aX)
  (aW (qm c2' "bound" (tK c2' c3' bB) 4 [0,1,2,3] [D.non,D.non] (aq 0) (tX 3 (ao (aF aN (aq 1) (dC (.int 1))) (ao (aF aN (aq 1) (dC (.int 2))) (ao (aF aN (aq 1) (dC (.int 3))) aC)))) aC)))) aX)
  (aJ (bY (dB (aF eY (aF aN (aq 1) (dC (.int 0))) (dC (.str (PySem.Str.ofString "weigh"))))) (aW (qm c2' "weigh" (RX c2' c3' bB) 4 [0,1,3,2] [] (aq 0) (tX 1 (ao (aF aN (aq 1) (dC (.int 1))) aC)) (ao (aF aN (aq 1) (dC (.int 3))) (ao (aF aN (aq 1) (dC (.int 2))) aC)))) aX)
  (aJ (bY (dB (aF eY (aF aN (aq 1) (dC (.int 0))) (dC (.str (PySem.Str.ofString "wish"))))) (aW (jD c2' "wish" (W7 c2' bB c1') (aq 0) (ao (aF aN (aq 1) (dC (.int 1))) (ao (aF aN (aq 1) (dC (.int 2))) aC)))) aX)
  (aW (jD c2' "by" (adX c2' bB) (aq 0) (ao (aF aN (aq 1) (dC (.int 1))) aC)))))))
def lJ (K:PySem.W.Frag) (c2' c3' bB c1' Nb:Addr):bh :=
 (aJ (bY (dB (aF (lD false) (aq 2) (dC .non))) (aW (aq 3)) aX)
  (aJ (bY (fu (bV (aeF K) (ao (aq 2) (ao (dC (.raw (.ref bB))) aC)))) (aW (d7 (ao (dC (.str (PySem.Str.ofString "task"))) (ao (Um K "part" (aq 2)) (ao (Um K "number" (aq 2)) aC))))) aX)
  (aJ (aZ 5 (d7 (ao (bV (aeF K) (ao (aq 2) (ao (dC (.raw (.ref c3'))) aC))) (ao (bV (aeF K) (ao (aq 2) (ao (dC (.raw (.ref c1'))) aC))) (ao (bV (aeF K) (ao (aq 2) (ao (dC (.raw (.ty "ValueError"))) aC))) aC)))))
  (aW (aq 5)))))
def R7 (K:PySem.W.Frag) (c2' c3' bB c1' Nb:Addr):bh :=
 (aJ (aZ 2 (dC .non))
  (aJ (aZ 3 (dC .non))
  (aJ (Mu K (.ref Nb) 4 (aZ 3 (dCall (Vz c2' c3' bB c1') (ao (aq 0) (ao (aq 1) aC)))) (fun _=>(aZ 2 (aq 4))))
  (lJ K c2' c3' bB c1' Nb))))
section
variable {C CI CT CW a:Addr} {t:Task} {f:D} {p:Addr} {ps:List D} {μ:M} {Q:QD} {X:XD}
theorem Done.imp {δ:cI} {Q1:QD} {X1:XD} (h:Done C CI CT CW a t f p ps δ μ Q X) (hq:∀ μ',Q .non μ'→Q1 .non μ') (hx:∀ z w,X z w μ→X1 z w μ):Done C CI CT CW a t f p ps δ μ Q1 X1:=by
 unfold Done at h ⊢
 cases e:due (d9 t) δ with
 | item=>rw [e] at h;exact hx _ _ h
 | wish=>rw [e] at h;exact hx _ _ h
 | task T=>rw [e] at h;exact pP.imp h hq hx
end
theorem aos {x:D} {μ:M} {Q:QD} (h:dN x=true) (h1:x = .non→Q (.bl true) μ) (h2:x ≠ .non→Q (.bl false) μ):lD false x .non μ Q:=by
 cases x with
 | raw _=>cases h
 | dJ _=>cases h
 | key _=>cases h
 | non=>exact h1 rfl
 | _=>exact h2 (fun z=>by cases z)
def bndB (c2' c3' bB:Addr):bh :=
 (aJ (bY (dB (aF (lD false) (aF aN (aq 1) (dC (.int 2))) (dC .non))) (aW (qm c2' "bound" (tK c2' c3' bB) 3 [0,1,3,2] [D.non,D.non] (aq 0) (tX 1 (ao (aF aN (aq 1) (dC (.int 1))) aC)) (ao (aF aN (aq 1) (dC (.int 3))) aC))) aX)
  (aJ (bY (dB (aF (lD false) (aF aN (aq 1) (dC (.int 3))) (dC .non))) (aW (qm c2' "bound" (tK c2' c3' bB) 3 [0,2,1,4] [D.non,D.non] (aq 0) aC (ao (aF aN (aq 1) (dC (.int 2))) (ao (aF aN (aq 1) (dC (.int 1))) aC)))) aX)
  (aW (qm c2' "bound" (tK c2' c3' bB) 4 [0,1,2,3] [D.non,D.non] (aq 0) (tX 3 (ao (aF aN (aq 1) (dC (.int 1))) (ao (aF aN (aq 1) (dC (.int 2))) (ao (aF aN (aq 1) (dC (.int 3))) aC)))) aC))))
theorem akd {c2' c3' bB c1':Addr}:tO c2' c3' bB c1' =
 (aJ (bY (dB (aF eY (aF aN (aq 1) (dC (.int 0))) (dC (.str (PySem.Str.ofString "price"))))) (aW (jD c2' "price" (RW c2' c3' bB) (aq 0) (ao (aF aN (aq 1) (dC (.int 1))) (ao (aF aN (aq 1) (dC (.int 2))) aC)))) aX)
  (aJ (bY (dB (aF eY (aF aN (aq 1) (dC (.int 0))) (dC (.str (PySem.Str.ofString "bound"))))) (bndB c2' c3' bB) aX)
  (aJ (bY (dB (aF eY (aF aN (aq 1) (dC (.int 0))) (dC (.str (PySem.Str.ofString "weigh"))))) (aW (qm c2' "weigh" (RX c2' c3' bB) 4 [0,1,3,2] [] (aq 0) (tX 1 (ao (aF aN (aq 1) (dC (.int 1))) aC)) (ao (aF aN (aq 1) (dC (.int 3))) (ao (aF aN (aq 1) (dC (.int 2))) aC)))) aX)
  (aJ (bY (dB (aF eY (aF aN (aq 1) (dC (.int 0))) (dC (.str (PySem.Str.ofString "wish"))))) (aW (jD c2' "wish" (W7 c2' bB c1') (aq 0) (ao (aF aN (aq 1) (dC (.int 1))) (ao (aF aN (aq 1) (dC (.int 2))) aC)))) aX)
  (aW (jD c2' "by" (adX c2' bB) (aq 0) (ao (aF aN (aq 1) (dC (.int 1))) aC))))))):=rfl
theorem ake {te:bZ} {T R:bh} {E:bM} {δ:Sl} {μ:M} {x:D} (hd:lY te (E.xc δ) δ μ x) (h:dN x=true) (hT:x = .non→T { E with nx:=R E } δ μ) (hR:x ≠ .non→R E δ μ):aJ (bY (dB (aF (lD false) te (dC .non))) T aX) R E δ μ :=
 hd _ (aos h (fun e=>hT e) fun e=>hR e)
theorem at3 {a b c d:D}:atI [a,b,c,d] 3=some d:=rfl
theorem ahg {δ:Sl} {xs:List D} {k:Int} {d:D} {W:XD} {μ:M} (h1:δ[1]? = some (some (.tup xs))) (h2:atI xs k=some d):lY (aF aN (aq 1) (dC (.int k))) W δ μ d:=fun Q q=>by
 unfold aF aq
 rw [h1]
 show Aa (atI xs k) Q μ
 rw [h2]
 exact q
theorem agl {C CI CT CW:Addr}:vD (Vz C CI CT CW) (tO C CI CT CW) 2:=by
 intro ds μ Q X h
 obtain ⟨a,t,f,p,ps,δ,rfl,ka,hl,pi,pb,dn⟩:=h
 obtain ⟨⟨dx,ins⟩,J5,ne,ok,few⟩:=id ka
 show tO C CI CT CW (ends Q (sS X)) [some (.raw (.ref a)),some δ.d] μ
 have sz:16777216≤sizeLine:=by decide
 have dn':Done C CI CT CW a t f p ps δ μ (fun d μ=>DL.Fin Q d μ) (sS X):=dn.imp (fun μ' q => .of q) fun z w x=>⟨μ,Sub.refl _,x⟩
 have px:Qc δ:=pb
 cases δ with
 | price i x =>
  simp! only [tO,cI.d,Tr]
  refine ⟨by decide +kernel,by decide +kernel,dx,_,ins,rD (by decide +kernel) (by decide +kernel) (by decide +kernel),CW,a,i,x,t,f,p,ps,rfl,ka,hl,pi,dn'⟩
 | bound i x y =>
  rw [akd]
  simp! only [cI.d,Tv,Tt]
  refine ⟨by decide +kernel,by decide +kernel,by decide +kernel,by decide +kernel,?_⟩
  have lk:∃ dx fs,μ a=some (.ins C dx fs)∧fs.lookup (PySem.Str.ofString "bound")=none:=⟨dx,_,ins,rD (by decide +kernel) (by decide +kernel) (by decide +kernel)⟩
  have dn2:tK C CI CT [.raw (.ref a),i,x,y] μ (fun d μ=>DL.Fin Q d μ) (sS X):=⟨CW,a,i,x,y,t,f,p,ps,rfl,ka,hl,pi,dn'⟩
  unfold bndB
  refine ake (ahg rfl rfl) px.1 (fun e => ?_) fun e => ?_
  ·subst e
   simp! only [DL.qm,DL.JG,DL.Pb,DL.Ao,at3]
   exact ⟨lk,dn2⟩
  ·refine ake (ahg rfl rfl) px.2 (fun e => ?_) fun e => ?_
   ·subst e
    simp! only [DL.qm,DL.JG,DL.Pb,DL.Ao,at3]
    exact ⟨lk,dn2⟩
   ·simp! only [DL.qm,DL.JG,DL.Pb,DL.Ao,at3]
    exact ⟨lk,dn2⟩
 | weigh i x y =>
  simp! only [tO,cI.d,TF,Tw,Tz,DL.qm,DL.JG,DL.Pb,DL.Ao,at3]
  refine ⟨by decide +kernel,by decide +kernel,by decide +kernel,by decide +kernel,by decide +kernel,by decide +kernel,⟨dx,_,ins,rD (by decide +kernel) (by decide +kernel) (by decide +kernel)⟩,?_⟩
  exact ⟨CW,a,i,x,y,t,f,p,ps,rfl,ka,hl,pi,dn'⟩
 | wish i x =>
  simp! only [tO,cI.d,VG,VD,VF,XJ]
  refine ⟨by decide +kernel,by decide +kernel,by decide +kernel,by decide +kernel,by decide +kernel,by decide +kernel,by decide +kernel,by decide +kernel,dx,_,ins,rD (by decide +kernel) (by decide +kernel) (by decide +kernel),CI,a,i,x,t,f,p,ps,rfl,ka,hl,pi,dn'⟩
 | by_ w =>
  simp! only [tO,cI.d,aaU,aaS,aaT,VH]
  refine ⟨by decide +kernel,by decide +kernel,by decide +kernel,by decide +kernel,by decide +kernel,by decide +kernel,by decide +kernel,by decide +kernel,dx,_,ins,rD (by decide +kernel) (by decide +kernel) (by decide +kernel),CI,CW,a,w,t,f,p,ps,rfl,ka,hl,pi,dn'⟩
structure Kk (K:PySem.W.Frag) (CI CT CW CN:Addr):Prop where
 xT:PySem.W.exmOne K (.ref CT) (.ref CN)=some true
 xI:PySem.W.exmOne K (.ref CI) (.ref CN)=some true
 xW:PySem.W.exmOne K (.ref CW) (.ref CN)=some true
 eT:FW K CT
 eI:FW K CI
 eW:FW K CW
 part:PySem.W.findIn K (.ref CT) "part" = some none
 number:PySem.W.findIn K (.ref CT) "number" = some none
 tt:PySem.W.kitOne K (.ref CT) (.ref CT)=some true
 it:PySem.W.kitOne K (.ref CI) (.ref CT)=some false
 ii:PySem.W.kitOne K (.ref CI) (.ref CI)=some true
 iw:PySem.W.kitOne K (.ref CI) (.ref CW)=some false
 iv:PySem.W.kitOne K (.ref CI) (.type "ValueError")=some true
 wt:PySem.W.kitOne K (.ref CW) (.ref CT)=some false
 wi:PySem.W.kitOne K (.ref CW) (.ref CI)=some false
 ww:PySem.W.kitOne K (.ref CW) (.ref CW)=some true
 wv:PySem.W.kitOne K (.ref CW) (.type "ValueError")=some true
section
variable {K:PySem.W.Frag} {C CI CT CW CN:Addr} {Q:QD} {μ:M}
theorem akf {a b e g:Option D} {d:D} (q:Q d μ):lJ K C CI CT CW CN (ends Q XF) [a,b,some .non,some d,e,g] μ:=by
 simp! only [lJ]
 exact .of q
theorem akg {a b e g h:Option D} {p:Addr} {x y:D} (k:Kk K CI CT CW CN) (hp:μ p=none) (q:Q (.lst [.str (PySem.Str.ofString "task"),x,y]) μ):lJ K C CI CT CW CN (ends Q XF) [a,b,some (.raw (.ref p)),e,g,h] (cC μ p (.exc (.ref CT) (some [("number",y),("part",x)]))):=by
 have en:decide (V.ref p=V.non)=false:=decide_eq_false (fun z=>by cases z)
 simp! only [lJ,en]
 refine ⟨p,_,_,true,_,rfl,aP,k.eT,.one rfl k.tt,?_⟩
 walk_at "r"
 refine ⟨p,CT,_,_,rfl,aP,k.eT,k.part,rfl,?_⟩
 walk_at "r"
 refine ⟨p,CT,_,_,rfl,aP,k.eT,k.number,rfl,?_⟩
 walk_at "r"
 exact ⟨by decide,μ,Sub.new hp,q⟩
theorem akh {a b e g h:Option D} {p:Addr} (k:Kk K CI CT CW CN) (hp:μ p=none) (q:Q (.lst [.bl true,.bl false,.bl true]) μ):lJ K C CI CT CW CN (ends Q XF) [a,b,some (.raw (.ref p)),e,g,h] (cC μ p (.exc (.ref CI) none)):=by
 have en:decide (V.ref p=V.non)=false:=decide_eq_false (fun z=>by cases z)
 simp! only [lJ,en]
 refine ⟨p,_,_,_,_,rfl,aP,k.eI,.one rfl k.it,?_⟩
 walk_at "r"
 refine ⟨p,_,_,_,_,rfl,aP,k.eI,.one rfl k.ii,?_⟩
 walk_at "r"
 refine ⟨p,_,_,_,_,rfl,aP,k.eI,.one rfl k.iw,?_⟩
 walk_at "r"
 refine ⟨p,_,_,_,_,rfl,aP,k.eI,.one rfl k.iv,?_⟩
 walk_at "r"
 exact ⟨by decide,μ,Sub.new hp,q⟩
theorem aki {a b e g h:Option D} {p:Addr} (k:Kk K CI CT CW CN) (hp:μ p=none) (q:Q (.lst [.bl false,.bl true,.bl true]) μ):lJ K C CI CT CW CN (ends Q XF) [a,b,some (.raw (.ref p)),e,g,h] (cC μ p (.exc (.ref CW) none)):=by
 have en:decide (V.ref p=V.non)=false:=decide_eq_false (fun z=>by cases z)
 simp! only [lJ,en]
 refine ⟨p,_,_,_,_,rfl,aP,k.eW,.one rfl k.wt,?_⟩
 walk_at "r"
 refine ⟨p,_,_,_,_,rfl,aP,k.eW,.one rfl k.wi,?_⟩
 walk_at "r"
 refine ⟨p,_,_,_,_,rfl,aP,k.eW,.one rfl k.ww,?_⟩
 walk_at "r"
 refine ⟨p,_,_,_,_,rfl,aP,k.eW,.one rfl k.wv,?_⟩
 walk_at "r"
 exact ⟨by decide,μ,Sub.new hp,q⟩
end
theorem agm {K:PySem.W.Frag} {C CI CT CW CN:Addr} (k:Kk K CI CT CW CN):HB (FJ C) (R7 K C CI CT CW CN) 6:=by
 intro ds μ Q X h
 obtain ⟨a,t,f,p,ps,δ,rfl,ka,hl,pi,pb,told⟩:=h
 show R7 K C CI CT CW CN (ends Q XF) [some (.raw (.ref a)),some δ.d,none,none,none,none] μ
 have sz:16777216≤sizeLine:=by decide
 simp! only [R7]
 refine ⟨a,t,f,p,ps,δ,rfl,ka,hl,pi,pb,?_⟩
 unfold Told at told
 unfold Done
 cases e:due (d9 t) δ with
 | item =>
  rw [e] at told
  refine ⟨true,k.xI,fun _ p hp => ?_,fun z=>(by cases z)⟩
  walk_at "r"
  exact akh k hp told
 | wish =>
  rw [e] at told
  refine ⟨true,k.xW,fun _ p hp => ?_,fun z=>(by cases z)⟩
  walk_at "r"
  exact aki k hp told
 | task T =>
  rw [e] at told
  obtain ⟨t1,t2,t3⟩:=told
  refine ⟨t1,fun hn => ?_,fun x y hn => ?_⟩
  ·obtain ⟨t',e1,e2,q⟩:=t2 hn
   refine ⟨t',e1,e2,fun μ' k1 o1 => ?_⟩
   walk_at "r"
   exact akf (q μ' k1 o1)
  ·refine ⟨true,k.xT,fun _ p hp => ?_,fun z=>(by cases z)⟩
   walk_at "r"
   exact akg k hp (t3 x y hn)
end KP
namespace KP
open PySem PySem.Spec L2 DL Fr NB
def yU:bh :=
 (aW (dTup (ao (dC (.str (PySem.Str.ofString "wish"))) (ao (aq 16) (ao (aF aN (d7 (ao (aq 18) (ao (abM (aq 18)) (ao (aF lW (d7 (ao (dC (.int 0)) aC)) (bV dX (ao (aq 18) aC))) (ao (aq 18) aC))))) (dCall cQ (ao (aq 1) (ao (dC (.int 4)) aC)))) aC)))))
def Bw:bh :=
 (aJ (aZ 16 (dCall cQ (ao (aq 1) (ao (bV dX (ao (aq 3) aC)) aC))))
  (aJ (xg (aF aN (aq 3) (aq 16)) (j9 (bF (bW 17) (bF (bW 18) fH))))
  (aJ (bY (sJ (dB (aF eY (aF aN (aq 17) (dC (.int 0))) (dC (.str (PySem.Str.ofString "bench"))))) (dB (aF eY (aq 10) (dC (.int 5))))) (aW (dTup (ao (dC (.str (PySem.Str.ofString "wish"))) (ao (aq 16) (ao (dCall aaQ (ao (aq 1) (ao (aF aN (aq 17) (dC (.int 1))) aC))) aC))))) aX)
  yU)))
def Bx:bh :=
 (aJ (bY (dB (aF eY (aq 10) (dC (.int 4)))) (aW (dTup (ao (dC (.str (PySem.Str.ofString "by"))) (ao (aF aN (d7 (ao (dC (.str (PySem.Str.ofString "sum"))) (ao (dC (.str (PySem.Str.ofString "greatest"))) aC))) (dCall cQ (ao (aq 1) (ao (dC (.int 2)) aC)))) aC)))) aX)
  Bw)
def BJ:bh :=
 (aJ (bY (dB (aF eY (aq 10) (dC (.int 3)))) (aJ (xg (dCall RB (ao (aq 1) aC)) (j9 (bF (bW 14) (bF (bW 15) fH))))
  (aW (dTup (ao (dC (.str (PySem.Str.ofString "weigh"))) (ao (aq 7) (ao (aq 14) (ao (aq 15) aC))))))) aX)
  Bx)
def BK:bh :=
 (aJ (bY (dB (aF eY (aq 10) (dC (.int 2)))) (aJ (aZ 12 (dCall Pj (ao (aF aN (aq 2) (aq 7)) (ao (dCall sY (ao (aq 1) aC)) aC))))
  (aJ (aZ 11 (d7 (ao (dC .non) (ao (aq 12) (ao (aF aN (aq 2) (aq 7)) (ao (dTup (ao (dC (.int 0)) (ao (dC (.int 1)) aC))) aC))))))
  (aJ (aZ 13 (aF aN (d7 (ao (dC .non) (ao (dCall Ux (ao (aF aN (aq 2) (aq 7)) (ao (dCall sY (ao (aq 1) aC)) aC))) (ao (aF aN (aq 2) (aq 7)) aC)))) (dCall cQ (ao (aq 1) (ao (dC (.int 3)) aC)))))
  (aW (dTup (ao (dC (.str (PySem.Str.ofString "bound"))) (ao (aq 7) (ao (aF aN (aq 11) (dCall cQ (ao (aq 1) (ao (dC (.int 4)) aC)))) (ao (aq 13) aC))))))))) aX)
  BJ)
def Kc:bh :=
 (aJ (bY (dB (aF LQ (aq 10) (dC (.int 2)))) (aJ (aZ 11 (nH (fO (d7 (ao (aq 8) (ao (aq 9) (ao (aF aN (aq 2) (aq 7)) aC))))) (bW 19) (dB (aF (lD true) (aq 19) (dC .non))) (aq 19) [19]))
  (aJ (aZ 11 (aF cD (aq 11) (d7 (ao (dCall Ux (ao (aF aN (aq 2) (aq 7)) (ao (dCall sY (ao (aq 1) aC)) aC))) aC))))
  (aW (dTup (ao (dC (.str (PySem.Str.ofString "price"))) (ao (aq 7) (ao (aF aN (aq 11) (dCall cQ (ao (aq 1) (ao (bV dX (ao (aq 11) aC)) aC)))) aC))))))) aX)
  BK)
def R8:bh :=
 (aJ (xg (aq 0) (j9 (bF (bW 2) (bF (bW 3) (bF (bW 4) (bF (bW 5) (bF (bW 6) fH)))))))
  (aJ (aZ 7 (dCall cQ (ao (aq 1) (ao (bV dX (ao (aq 2) aC)) aC))))
  (aJ (xg (aF aN (aq 4) (aq 7)) (j9 (bF (bW 8) (bF (bW 9) fH))))
  (aJ (aZ 10 (dCall cQ (ao (aq 1) (ao (dC (.int 7)) aC))))
  Kc))))
theorem apa {lo hi:Option Fc} {f:Fc}:([lo,hi,some f].filter Option.isSome).map cY=([lo,hi,some f].filterMap id).map fr:=by cases lo<;>cases hi<;>rfl
theorem afz {f:Fc} (h:N6 f):Lk 12 384 f:=by
 have t:=h.k.tb
 exact (Lk.of (A:=31) (K:=12) h.k (by decide) h.d (by omega)).mono (by decide)
theorem ain {B:Nat} {f:Fc} (h:Lk 12 B f) (l:B<2^25):Sz f:=NB.Ok.sz (DG h l) (by decide)
theorem afA {f:Fc} (h:N6 f):Sz f:=NB.Ok.sz h.k (by decide)
section
variable {t:Task} {p:Addr} {k B:Nat} {lo hi:Option Fc} {w:Int} {Q:QD} {μ:M}
def dδ (t:Task) (p:Addr) (k:Nat) (lo hi:Option Fc) (w:Int):Sl:=[some t.d,some (.raw (.ref p)),some (.lst (t.prices.map fr)),some (.lst (t.wishes.map bR)),some (.lst (t.bounds.map fV)),some (.lst (t.weights.map iZ)),some (.str t.word),some (.int (k:Int)),some (cY lo),some (cY hi),some (.int w),none,none,none,none,none,none,none,none,none]
theorem YS (hk:k<t.prices.length):∃ f,f∈t.prices∧atI (t.prices.map fr) (k:Int)=some (fr f):=by
 obtain ⟨y,e1,e2⟩:=mW (xs:=t.prices.map fr) (i:=(k:Int)) (by omega) (by rw [List.length_map];omega)
 rw [Int.toNat_natCast,List.getElem?_map,List.getElem?_eq_getElem hk] at e2
 injection e2 with e2
 exact ⟨t.prices[k],List.getElem_mem hk,by rw [e1,← e2]⟩
theorem aot {fs:List Fc} {r:Int} (h0:0≤r) (h1:r<fs.length):∃ f,f∈fs∧atI (fs.map fr) r=some (fr f):=by
 obtain ⟨y,e1,e2⟩:=mW (xs:=fs.map fr) (i:=r) h0 (by rw [List.length_map];exact h1)
 rw [List.getElem?_map] at e2
 have hr:r.toNat<fs.length:=by omega
 rw [List.getElem?_eq_getElem hr] at e2
 injection e2 with e2
 exact ⟨fs[r.toNat],List.getElem_mem hr,by rw [e1,← e2]⟩
theorem aio (K:gG B t) (l:B+384<2^25) (hk:k<t.prices.length) (hlo:Tq B lo) (hhi:Tq B hi) (hp:dO μ p) (q:u6 p μ Q (pJ (B+384) t) cI.d) (hn:¬ w<2→BK (ends Q XF) (dδ t p k lo hi w) μ) :
  Kc (ends Q XF) (dδ t p k lo hi w) μ:=by
 have sz:16777216≤sizeLine:=by decide
 obtain ⟨f,hf,ef⟩:=YS hk
 have lf:=K.pr f hf
 unfold dδ at hn ⊢
 simp! only [Kc]
 refine fD (fun h => ?_) hn
 simp! only [ef]
 refine ⟨by decide,?_⟩
 rw [show ([cY lo,cY hi,fr f]:List D)=[lo,hi,some f].map cY from rfl]
 refine JW (enc:=cY) (keep:=Option.isSome) (g:=cY) trivial (by show 3<sizeLine;decide) (fun o ho acc R ha h1 h2 => ?_) ?_
 ·cases o with
  | none =>
   simp! only [cY]
   exact h2 rfl
  | some g =>
   simp! only [cY,fr]
   exact ⟨ha,h1 rfl⟩
 rw [apa]
 generalize hL:[lo,hi,some f].filterMap id=Ls
 have mem:∀ g∈Ls,Lk 12 B g:=fun g hg=>by
  rw [← hL] at hg
  obtain ⟨o,ho,e⟩:=List.mem_filterMap.mp hg
  simp only [List.mem_cons,List.not_mem_nil,or_false] at ho
  rcases ho with rfl | rfl | rfl
  ·exact hlo g e
  ·exact hhi g e
  ·cases e
   exact lf
 have ll:Ls.length≤3:=by rw [← hL];exact List.length_filterMap_le ..
 simp! only [ef]
 refine ⟨p,rfl,hp,fun g μ1 hg h1 o1 => ?_⟩
 have lx:Lk 12 (B+384) (o8 f g):=Lk.add (by decide) lf (afz hg)
 walk_at "r"
 refine ⟨f,g,rfl,ain lf (by omega),afA hg,(show 1≤sizeLine by decide),by rw [List.length_map];show Ls.length+1≤sizeLine;omega,?_⟩
 have e1:Ls.map fr++[fr (o8 f g)]=(Ls++[o8 f g]).map fr:=by rw [List.map_append];rfl
 have mem2:∀ x∈Ls++[o8 f g],Lk 12 (B+384) x:=fun x hx=>by
  rcases List.mem_append.mp hx with hx | hx
  ·exact (mem x hx).mono (by omega)
  ·rw [List.mem_singleton.mp hx]
   exact lx
 have l2:(Ls++[o8 f g]).length≤4:=by rw [List.length_append,List.length_singleton];omega
 have l3:1≤(Ls++[o8 f g]).length:=by rw [List.length_append,List.length_singleton];omega
 rw [e1]
 generalize Ls++[o8 f g]=L2 at *
 simp! only [List.length_map]
 refine ⟨p,_,rfl,h1,by omega,by omega,fun r μ2 a2 b2 h2 o2 => ?_⟩
 obtain ⟨x,hx,ex⟩:=aot a2 b2
 simp! only [ex]
 exact ⟨by decide,.of (q (.price (.int (k:Int)) (fr x)) μ2 (.price hk (mem2 x hx)) h2 (o1.trans o2))⟩
theorem aip (K:gG B t) (l:B+384<2^25) (hk:k<t.prices.length) (hp:dO μ p) (q:u6 p μ Q (pJ (B+384) t) cI.d) (hn:¬ w=2→BJ (ends Q XF) (dδ t p k lo hi w) μ) :
  BK (ends Q XF) (dδ t p k lo hi w) μ:=by
 have sz:16777216≤sizeLine:=by decide
 obtain ⟨f,hf,ef⟩:=YS hk
 have lf:=K.pr f hf
 unfold dδ at hn ⊢
 simp! only [BK]
 refine ⟨mD,mD,fD (fun h => ?_) hn⟩
 simp! only [ef]
 refine ⟨p,rfl,hp,fun g μ1 hg h1 o1 => ?_⟩
 have lx:Lk 12 (B+384) (sX f g):=Lk.sub (by decide) lf (afz hg)
 simp! only [ef]
 refine ⟨f,g,rfl,ain lf (by omega),afA hg,?_⟩
 simp! only [ef]
 refine ⟨by decide,by decide,p,rfl,h1,fun g2 μ2 hg2 h2 o2 => ?_⟩
 have ly:Lk 12 (B+384) (o8 f g2):=Lk.add (by decide) lf (afz hg2)
 have lf':Lk 12 (B+384) f:=lf.mono (by omega)
 simp! only [ef]
 refine ⟨f,g2,rfl,ain lf (by omega),afA hg2,?_⟩
 simp! only [ef]
 refine ⟨by decide,p,_,rfl,h2,by decide,by decide,fun r μ3 a3 b3 h3 o3 => ?_⟩
 obtain ⟨y,hy,ey⟩:∃ y:Option Fc,Tq (B+384) y∧atI [.non,fr (o8 f g2),fr f] r=some (cY y):=by
  have:r=0∨r=1∨r=2:=by omega
  rcases this with rfl | rfl | rfl
  ·exact ⟨none,fun _ z=>(by cases z),rfl⟩
  ·exact ⟨some _,fun x e=>(by injection e with e;subst e;exact ly),rfl⟩
  ·exact ⟨some _,fun x e=>(by injection e with e;subst e;exact lf'),rfl⟩
 simp! only [ey]
 refine ⟨p,_,rfl,h3,by decide,by decide,fun r4 μ4 a4 b4 h4 o4 => ?_⟩
 obtain ⟨z,hz,ez⟩:∃ y:Option Fc,Tq (B+384) y∧atI [.non,fr (sX f g),fr f,.tup [.int 0,.int 1]] r4=some (cY y):=by
  have:r4=0∨r4=1∨r4=2∨r4=3:=by omega
  rcases this with rfl | rfl | rfl | rfl
  ·exact ⟨none,fun _ z=>(by cases z),rfl⟩
  ·exact ⟨some _,fun x e=>(by injection e with e;subst e;exact lx),rfl⟩
  ·exact ⟨some _,fun x e=>(by injection e with e;subst e;exact lf'),rfl⟩
  ·exact ⟨some (0,1),fun x e=>(by injection e with e;subst e;exact (Lk.zero (by decide)).mono (by omega)),rfl⟩
 simp! only [ez]
 exact ⟨by decide,.of (q (.bound (.int (k:Int)) (cY z) (cY y)) μ4 (.bound hk hz hy) h4 (((o1.trans o2).trans o3).trans o4))⟩
theorem aiq (hk:k<t.prices.length) (hp:dO μ p) (q:u6 p μ Q (pJ (B+384) t) cI.d) (hn:¬ w=3→Bx (ends Q XF) (dδ t p k lo hi w) μ) :
  BJ (ends Q XF) (dδ t p k lo hi w) μ:=by
 have sz:16777216≤sizeLine:=by decide
 unfold dδ at hn ⊢
 simp! only [BJ]
 refine ⟨mD,mD,fD (fun h => ?_) hn⟩
 walk_at "r"
 refine ⟨p,rfl,hp,fun g μ1 hg h1 o1 => ?_⟩
 simp! only [iZ]
 exact ⟨by decide,.of (q (.weigh (.int (k:Int)) (fr g.1) (fr g.2)) μ1 (.weigh hk hg) h1 o1)⟩
theorem ang (hp:dO μ p) (q:u6 p μ Q (pJ (B+384) t) cI.d) (hn:¬ w=4→Bw (ends Q XF) (dδ t p k lo hi w) μ) :
  Bx (ends Q XF) (dδ t p k lo hi w) μ:=by
 have sz:16777216≤sizeLine:=by decide
 unfold dδ at hn ⊢
 simp! only [Bx]
 refine ⟨mD,mD,fD (fun h => ?_) hn⟩
 walk_at "r"
 refine ⟨by decide,p,_,rfl,hp,by decide,by decide,fun r μ1 a1 b1 h1 o1 => ?_⟩
 obtain ⟨s,hs,es⟩:∃ s:Str,(s=PySem.Str.ofString "sum" ∨ s=PySem.Str.ofString "greatest")∧atI [D.str (PySem.Str.ofString "sum"),D.str (PySem.Str.ofString "greatest")] r=some (.str s):=by
  have:r=0∨r=1:=by omega
  rcases this with rfl | rfl
  ·exact ⟨_,.inl rfl,rfl⟩
  ·exact ⟨_,.inr rfl,rfl⟩
 simp! only [es]
 exact ⟨by decide,.of (q (.by_ (.str s)) μ1 (.by_ hs) h1 o1)⟩
theorem anh:decide (PySem.Str.ofString "bench" = PySem.Str.ofString "bench")=true:=by decide +kernel
theorem aql:decide (PySem.Str.ofString "way" = PySem.Str.ofString "bench")=false:=by decide +kernel
theorem aqm:decide (PySem.Str.ofString "tree" = PySem.Str.ofString "bench")=false:=by decide +kernel
theorem aqn:decide (PySem.Str.ofString "pair" = PySem.Str.ofString "bench")=false:=by decide +kernel
theorem aqo:decide (PySem.Str.ofString "deal" = PySem.Str.ofString "bench")=false:=by decide +kernel
theorem aqp:decide (PySem.Str.ofString "stream" = PySem.Str.ofString "bench")=false:=by decide +kernel
theorem alV (s:bQ):(∃ ls,s = .bench ls)∨decide (s.word=PySem.Str.ofString "bench")=false:=by
 cases s with
 | bench ls=>exact .inl ⟨ls,rfl⟩
 | way _ _ _ _=>exact .inr aql
 | tree _ _=>exact .inr aqm
 | pair _ _=>exact .inr aqn
 | deal _ _=>exact .inr aqo
 | stream _ _ _ _=>exact .inr aqp
theorem ani (s:bQ):okN 64 (.str s.word)=true:=by
 cases s with
 | way _ _ _ _=>exact (by decide +kernel:okN 64 (.str (PySem.Str.ofString "way"))=true)
 | tree _ _=>exact (by decide +kernel:okN 64 (.str (PySem.Str.ofString "tree"))=true)
 | pair _ _=>exact (by decide +kernel:okN 64 (.str (PySem.Str.ofString "pair"))=true)
 | deal _ _=>exact (by decide +kernel:okN 64 (.str (PySem.Str.ofString "deal"))=true)
 | stream _ _ _ _=>exact (by decide +kernel:okN 64 (.str (PySem.Str.ofString "stream"))=true)
 | bench _=>exact (by decide +kernel:okN 64 (.str (PySem.Str.ofString "bench"))=true)
theorem ac1 {j:Nat} {ns:List Int} {d:D} (hj:j<t.wishes.length) (nl:ns.length=t.prices.length) (n2:t.prices.length≤16) (pl:∀ x∈ns,x.natAbs≤1000) (hp:dO μ p) (q:u6 p μ Q (pJ (B+384) t) cI.d) :
  yU (ends Q XF) [some t.d,some (.raw (.ref p)),some (.lst (t.prices.map fr)),some (.lst (t.wishes.map bR)),some (.lst (t.bounds.map fV)),some (.lst (t.weights.map iZ)),some (.str t.word),some (.int (k:Int)),some (cY lo),some (cY hi),some (.int w),none,none,none,none,none,some (.int (j:Int)),some d,some (.lst (ns.map D.int)),none] μ:=by
 have sz:16777216≤sizeLine:=by decide
 simp! only [yU,List.length_map]
 refine ⟨by decide,⟨by omega,by omega,by omega⟩,by decide,p,_,rfl,hp,by decide,by decide,fun r μ2 a2 b2 h2 o2 => ?_⟩
 have e0:(List.replicate ((ns.length:Nat):Int).toNat [D.int 0]).flatten=(List.replicate ns.length (0:Int)).map D.int:=by rw [List.flatten_replicate_singleton,List.map_replicate];rfl
 obtain ⟨ms,ml,mb,em⟩:∃ ms:List Int,ms.length=t.prices.length∧(∀ x∈ms,x.natAbs≤1000)∧atI [D.lst (ns.map D.int),D.lst (ns.map D.int).reverse,D.lst (List.replicate ((ns.length:Nat):Int).toNat [D.int 0]).flatten,D.lst (ns.map D.int)] r=some (.lst (ms.map D.int)):=by
  have:r=0∨r=1∨r=2∨r=3:=by omega
  rcases this with rfl | rfl | rfl | rfl
  ·exact ⟨ns,nl,pl,rfl⟩
  ·exact ⟨ns.reverse,by rw [List.length_reverse];exact nl,fun x hx=>pl x (List.mem_reverse.mp hx),by rw [List.map_reverse];rfl⟩
  ·exact ⟨List.replicate ns.length 0,by rw [List.length_replicate];exact nl,fun x hx=>by rw [List.eq_of_mem_replicate hx];decide,by rw [← e0];rfl⟩
  ·exact ⟨ns,nl,pl,rfl⟩
 simp! only [em]
 exact ⟨by decide,.of (q (.wish (.int (j:Int)) (.lst (ms.map D.int))) μ2 (.wish hj ml mb) h2 o2)⟩
def Ke:bh:=(bY (sJ (dB (aF eY (aF aN (aq 17) (dC (.int 0))) (dC (.str (PySem.Str.ofString "bench"))))) (dB (aF eY (aq 10) (dC (.int 5))))) (aW (dTup (ao (dC (.str (PySem.Str.ofString "wish"))) (ao (aq 16) (ao (dCall aaQ (ao (aq 1) (ao (aF aN (aq 17) (dC (.int 1))) aC))) aC))))) aX)
def ais (TAIL:bh):bh:=(aJ (aZ 16 (dCall cQ (ao (aq 1) (ao (bV dX (ao (aq 3) aC)) aC))))
 (aJ (xg (aF aN (aq 3) (aq 16)) (j9 (bF (bW 17) (bF (bW 18) fH))))
 (aJ Ke
 TAIL)))
theorem ait:Bw=ais yU:=rfl
theorem anj {TAIL:bh} {E:bM} (K:gG B t) (hp:dO μ p)
  (h:∀ (j:Nat) (s:bQ) (ns:List Int) (μ1:M),j<t.wishes.length→ns.length=t.prices.length→(∀ x∈ns,x.natAbs≤1000)→s.Ok→s.items=ns.length→dO μ1 p→nM μ μ1 p →
   aJ Ke TAIL E [some t.d,some (.raw (.ref p)),some (.lst (t.prices.map fr)),some (.lst (t.wishes.map bR)),some (.lst (t.bounds.map fV)),some (.lst (t.weights.map iZ)),some (.str t.word),some (.int (k:Int)),some (cY lo),some (cY hi),some (.int w),none,none,none,none,none,some (.int (j:Int)),some s.d,some (.lst (ns.map D.int)),none] μ1):ais TAIL E [some t.d,some (.raw (.ref p)),some (.lst (t.prices.map fr)),some (.lst (t.wishes.map bR)),some (.lst (t.bounds.map fV)),some (.lst (t.weights.map iZ)),some (.str t.word),some (.int (k:Int)),some (cY lo),some (cY hi),some (.int w),none,none,none,none,none,none,none,none,none] μ:=by
 have sz:16777216≤sizeLine:=by decide
 have w1:=K.p.w1
 have wl:=K.p.wl
 unfold ais
 generalize hG:aJ Ke TAIL=G at h ⊢
 simp! only [List.length_map]
 refine ⟨p,_,rfl,hp,by omega,by omega,fun r μ1 a1 b1 h1 o1 => ?_⟩
 obtain ⟨j,rfl⟩:∃ j:Nat,r=j:=⟨r.toNat,by omega⟩
 have hj:j<t.wishes.length:=by omega
 have aw:=acf hj
 obtain ⟨⟨d0,ns⟩,e0⟩:∃ w0,t.wishes.getD j (.non,[])=w0:=⟨_,rfl⟩
 have m0:(d0,ns)∈t.wishes:=by
  rw [← e0,List.getD_eq_getElem?_getD,List.getElem?_eq_getElem hj]
  exact List.getElem_mem hj
 rw [e0] at aw
 obtain ⟨nl,s,rfl,sok,si⟩:=K.p.ws _ m0
 simp! only [aw,bR]
 exact h j s ns μ1 hj nl (K.pl _ m0) sok si h1 o1
theorem aiu {TAIL:bh} {E:bM} {j:Nat} {ns:List Int} {s:bQ} (hs:decide (s.word=PySem.Str.ofString "bench")=false) (h:TAIL E [some t.d,some (.raw (.ref p)),some (.lst (t.prices.map fr)),some (.lst (t.wishes.map bR)),some (.lst (t.bounds.map fV)),some (.lst (t.weights.map iZ)),some (.str t.word),some (.int (k:Int)),some (cY lo),some (cY hi),some (.int w),none,none,none,none,none,some (.int (j:Int)),some s.d,some (.lst (ns.map D.int)),none] μ):aJ Ke TAIL E [some t.d,some (.raw (.ref p)),some (.lst (t.prices.map fr)),some (.lst (t.wishes.map bR)),some (.lst (t.bounds.map fV)),some (.lst (t.weights.map iZ)),some (.str t.word),some (.int (k:Int)),some (cY lo),some (cY hi),some (.int w),none,none,none,none,none,some (.int (j:Int)),some s.d,some (.lst (ns.map D.int)),none] μ:=by
 rw [show s.d = .tup (.str s.word::s.rest) from rfl] at h ⊢
 simp! only [Ke,hs]
 exact ⟨ani s,by decide +kernel,h⟩
theorem agn {TAIL:bh} {E:bM} {j:Nat} {ns ls:List Int} (h:TAIL E [some t.d,some (.raw (.ref p)),some (.lst (t.prices.map fr)),some (.lst (t.wishes.map bR)),some (.lst (t.bounds.map fV)),some (.lst (t.weights.map iZ)),some (.str t.word),some (.int (k:Int)),some (cY lo),some (cY hi),some (.int w),none,none,none,none,none,some (.int (j:Int)),some (bQ.bench ls).d,some (.lst (ns.map D.int)),none] μ) (h5:aaQ [.raw (.ref p),iV ls] μ (Uc aC (E.xc [some t.d,some (.raw (.ref p)),some (.lst (t.prices.map fr)),some (.lst (t.wishes.map bR)),some (.lst (t.bounds.map fV)),some (.lst (t.weights.map iZ)),some (.str t.word),some (.int (k:Int)),some (cY lo),some (cY hi),some (.int w),none,none,none,none,none,some (.int (j:Int)),some (bQ.bench ls).d,some (.lst (ns.map D.int)),none]) [some t.d,some (.raw (.ref p)),some (.lst (t.prices.map fr)),some (.lst (t.wishes.map bR)),some (.lst (t.bounds.map fV)),some (.lst (t.weights.map iZ)),some (.str t.word),some (.int (k:Int)),some (cY lo),some (cY hi),some (.int w),none,none,none,none,none,some (.int (j:Int)),some (bQ.bench ls).d,some (.lst (ns.map D.int)),none] (Ou (.int (j:Int)) (Ou (.str (PySem.Str.ofString "wish")) (DL.kTup E.rt)))) (E.xc [some t.d,some (.raw (.ref p)),some (.lst (t.prices.map fr)),some (.lst (t.wishes.map bR)),some (.lst (t.bounds.map fV)),some (.lst (t.weights.map iZ)),some (.str t.word),some (.int (k:Int)),some (cY lo),some (cY hi),some (.int w),none,none,none,none,none,some (.int (j:Int)),some (bQ.bench ls).d,some (.lst (ns.map D.int)),none])):aJ Ke TAIL E [some t.d,some (.raw (.ref p)),some (.lst (t.prices.map fr)),some (.lst (t.wishes.map bR)),some (.lst (t.bounds.map fV)),some (.lst (t.weights.map iZ)),some (.str t.word),some (.int (k:Int)),some (cY lo),some (cY hi),some (.int w),none,none,none,none,none,some (.int (j:Int)),some (bQ.bench ls).d,some (.lst (ns.map D.int)),none] μ:=by
 rw [show (bQ.bench ls).d = .tup [.str (PySem.Str.ofString "bench"),iV ls] from rfl] at h h5 ⊢
 simp! only [Ke,anh]
 refine ⟨by decide +kernel,by decide +kernel,mD,mD,fD (fun h => ?_) fun _=>h⟩
 walk_at "r"
 exact h5
theorem akj (K:gG B t) (hp:dO μ p) (q:u6 p μ Q (pJ (B+384) t) cI.d) :
  Bw (ends Q XF) (dδ t p k lo hi w) μ:=by
 have n2:=K.p.n2
 unfold dδ
 rw [ait]
 refine anj K hp fun j s ns μ1 hj nl pl sok si h1 o1 => ?_
 have q1:u6 p μ1 Q (pJ (B+384) t) cI.d:=fun x μ' hx hp' o'=>q x μ' hx hp' (o1.trans o')
 rcases alV s with ⟨ls,rfl⟩ | hs
 ·have ok:(1≤ls.length∧ls.length≤8)∧∀ l∈ls,1≤l∧l≤9:=sok
  have sl:ns.length=ls.length:=by
   have:((ls.length:Nat):Int)=ns.length:=si
   omega
  refine agn (ac1 hj nl n2 pl h1 q1) ⟨p,ls,rfl,h1,ok.1.1,ok.1.2,ok.2,fun ms μ2 hm h2 o2 => ?_⟩
  walk_at "r"
  exact ⟨by decide,.of (q1 (.wish (.int (j:Int)) (.lst (ms.map D.int))) μ2 (.wish hj (by omega) hm.2) h2 o2)⟩
 ·exact aiu hs (ac1 hj nl n2 pl h1 q1)
end
theorem ago:HB aaR R8 20:=by
 intro ds μ Q X h
 obtain ⟨p,t,B,rfl,hp,K,l,q⟩:=h
 show R8 (ends Q XF) [some t.d,some (.raw (.ref p)),none,none,none,none,none,none,none,none,none,none,none,none,none,none,none,none,none,none] μ
 have sz:16777216≤sizeLine:=by decide
 have n1:=K.p.n1
 have n2:=K.p.n2
 simp! only [R8,Task.d,List.length_map]
 refine ⟨p,_,rfl,hp,by omega,by omega,fun r μ1 a1 b1 h1 o1 => ?_⟩
 obtain ⟨k,rfl⟩:∃ k:Nat,r=k:=⟨r.toNat,by omega⟩
 have hk:k<t.prices.length:=by omega
 obtain ⟨b,hb,eb⟩:∃ b,b∈t.bounds∧atI (t.bounds.map fV) (k:Int)=some (fV b):=by
  have hkb:k<t.bounds.length:=by rw [K.p.bl];exact hk
  obtain ⟨y,e1,e2⟩:=mW (xs:=t.bounds.map fV) (i:=(k:Int)) (by omega) (by rw [List.length_map];omega)
  rw [Int.toNat_natCast,List.getElem?_map,List.getElem?_eq_getElem hkb] at e2
  injection e2 with e2
  exact ⟨t.bounds[k],List.getElem_mem hkb,by rw [e1,← e2]⟩
 obtain ⟨hlo,hhi⟩:=K.bd b hb
 simp! only [eb,fV]
 refine ⟨p,_,rfl,h1,by decide,by decide,fun w μ2 a2 b2 h2 o2 => ?_⟩
 walk_at "r"
 have q':u6 p μ2 Q (pJ (B+384) t) cI.d:=fun x μ' hx hp' o'=>q x μ' hx hp' ((o1.trans o2).trans o')
 exact aio K l hk hlo hhi h2 q' fun _=>aip K l hk h2 q' fun _=>aiq hk h2 q' fun _=>ang h2 q' fun _=>akj K h2 q'
end KP
namespace pQ
open PySem PySem.Spec L2 DL Fr NB KP
def flK:D→Bool
 | .non=>true
 | .int _=>true
 | .str x=>PyData.strOk x
 | _=>false
theorem Xa {o:Option Nat} {n:D} (h:o.map (fun i:Nat=>D.int (i:Int))=some n):flK n=true:=by
 cases o with
 | none=>cases h
 | some i=>cases h;rfl
theorem ahh {d a b:D} (h:dU d=some (a,b)):flK a=true∧flK b=true:=by
 have hp:∀ {x n},pN x=some n→flK n=true:=fun {x n} h=>by
  unfold pN at h
  split at h
  ·split at h
   ·exact Xa h
   ·cases h;rfl
  ·cases h;rfl
 have hw:∀ {m x n},pO m x=some n→flK n=true:=fun {m x n} h=>by
  unfold pO at h
  split at h
  ·split at h
   ·exact Xa h
   ·cases h;rfl
  ·cases h;rfl
 have hb:∀ {ps w x n},wR ps w x=some n→flK n=true:=fun {ps w x n} h=>by
  unfold wR at h
  split at h
  ·split at h
   ·exact Xa h
   ·cases h;rfl
  ·cases h;rfl
 have hg:∀ {m x n},tE m x=some n→flK n=true:=fun {m x n} h=>by
  unfold tE at h
  split at h
  ·split at h
   ·exact Xa h
   ·cases h;rfl
  ·cases h;rfl
 unfold dU at h
 split at h
 ·split at h
  ·rename_i e
   cases h
   exact ⟨by decide +kernel,hp e⟩
  ·split at h
   ·rename_i e
    cases h
    exact ⟨by decide +kernel,hw e⟩
   ·split at h
    ·rename_i e
     cases h
     exact ⟨by decide +kernel,hb e⟩
    ·split at h
     ·rename_i e
      cases h
      exact ⟨by decide +kernel,hg e⟩
     ·split at h
      ·cases h
      ·cases h
       exact ⟨by decide +kernel,rfl⟩
 ·cases h
  exact ⟨rfl,rfl⟩
abbrev vg:D := .tup [.int 0,.int 1]
def Nf:Ct:=fun ds μ Q _=>∃ (d:D) (n:Nat),ds=[d,.int n]∧dN d=true∧Q (.bl (gA d n).isSome) μ
def aiv (n:Nat) (d:D):Prop:=dN d=true∧gA d n=none
def Xb:Ct:=fun ds μ Q _=>∃ (p:Addr) (n:Nat),ds=[.raw (.ref p),.int n]∧dO μ p∧1≤n∧n≤1000∧u6 p μ Q (aiv n) id
structure aou (d:D):Prop where
 p:dN d=true
 r:Bo d
 s:Vl d
 l:ab5 d
structure vQ (t:Task) (δ:cI):Prop where
 p:dN (numOf δ)=true
 b:Qc δ
 t:∀ T,due (d9 t) δ = .task T→TPT T
def R9:Ct:=fun ds μ Q _=>∃ (p:Addr) (t:Task) (B:Nat),ds=[t.d,.raw (.ref p)]∧dO μ p∧gG B t∧B<2^25∧u6 p μ Q (vQ t) cI.d
noncomputable def Kf:KP.Due→D
 | .item => .lst [.bl true,.bl false,.bl true]
 | .wish => .lst [.bl false,.bl true,.bl true]
 | .task T=>vf (dU T.d)
def Xc:Ct:=fun ds μ Q _=>∃ (t:Task) (B:Nat) (δ:cI),ds=[t.d,δ.d]∧gG B t∧B<2^25∧vQ t δ∧Q (Kf (due (d9 t) δ)) μ
def FP:Ct:=fun ds μ Q _=>∃ d,ds=[d]∧Bu d∧(dU d=none→∃ t:Task,d=t.d∧Ip t)∧Q (vf (dU d)) μ
def VJ:bh :=
 (aW (aF aN (d7 (ao (dC .non) (ao (dC (.bl true)) (ao (dC (.bl false)) (ao (Yh (dC (.int 1))) (ao (aq 1) (ao (dC (.str (PySem.Str.ofString "0"))) (ao (d7 (ao (dC (.int 0)) aC)) (ao (dTup (ao (dC (.int 0)) aC)) (ao (aF (gI CPow fun i j => .int (i^j.toNat)) (dC (.int 10)) (dC (.int 20))) (ao Uj aC))))))))))) (dCall cQ (ao (aq 0) (ao (dC (.int 10)) aC)))))
def qC:bh :=
 (aW (nD (bV (jt "int") (ao (aq 0) (ao (dC (.raw (.ty "int"))) aC))) (nD (Ma (bV (jt "bool") (ao (aq 0) (ao (dC (.raw (.ty "bool"))) aC)))) (nY Ce LQ (dC (.int 0)) (aq 0) (aq 1)))))
def uK:bh :=
 (aW (dCall vO (ao (dCall vP (ao (aq 0) (ao (aq 1) aC))) aC)))
def qO:bh :=
 (aJ (bY (sJ (dB (aF eY (aF aN (aq 1) (dC (.int 0))) (dC (.str (PySem.Str.ofString "wish"))))) (eX (fu (dCall Nf (ao (aF aN (aq 1) (dC (.int 1))) (ao (bV dX (ao (aF aN (aq 0) (dC (.int 1))) aC)) aC)))))) (aW (d7 (ao (dC (.bl false)) (ao (dC (.bl true)) (ao (dC (.bl true)) aC))))) aX)
  uK)
def zU:bh :=
 (aJ (bY (sJ (dB (aF (gIn false) (aF aN (aq 1) (dC (.int 0))) (dTup (ao (dC (.str (PySem.Str.ofString "price"))) (ao (dC (.str (PySem.Str.ofString "bound"))) (ao (dC (.str (PySem.Str.ofString "weigh"))) aC)))))) (eX (fu (dCall Nf (ao (aF aN (aq 1) (dC (.int 1))) (ao (bV dX (ao (aF aN (aq 0) (dC (.int 0))) aC)) aC)))))) (aW (d7 (ao (dC (.bl true)) (ao (dC (.bl false)) (ao (dC (.bl true)) aC))))) aX)
  qO)
def Kg (K:PySem.W.Frag) (c2' bB:Addr):bh :=
 (aJ (bY (dB (aF (lD false) (aq 1) (dC .non))) (aW (dC .non)) aX)
  (aW (d7 (ao (dC (.str (PySem.Str.ofString "task"))) (ao (Um K "part" (aq 1)) (ao (Um K "number" (aq 1)) aC))))))
def Sd (K:PySem.W.Frag) (c2' bB:Addr):bh :=
 (aJ (aZ 1 (dC .non))
  (aJ (Mu K (.ref bB) 2 (gJ (Xx c2' (Qa c2' bB) (ao (aq 0) aC))) (fun _=>(aZ 1 (aq 2))))
  (Kg K c2' bB)))
theorem YT:HB Nf qC 2:=by
 intro ds μ Q X h
 obtain ⟨d,n,rfl,hp,q⟩:=h
 show qC (ends Q XF) [some d,some (.int n)] μ
 have sz:16777216≤sizeLine:=by decide
 cases d with
 | raw _=>cases hp
 | dJ _=>cases hp
 | key _=>cases hp
 | int k =>
  have w:=(Vv (i := .int k) (n:=n)).2 k rfl
  rw [← w] at q
  simp! only [qC]
  cases h0:decide (0≤k) with
  | false =>
   rw [h0] at q
   walk_at "r"
   exact .of q
  | true =>
   rw [h0] at q
   walk_at "r"
   exact .of q
 | bl b =>
  simp! only [qC]
  exact .of q
 | _ =>
  simp! only [qC]
  exact .of q
theorem aci {k:Int} {n:Nat} (h:¬ (0≤k∧k<n)):gA (.int k) n=none:=if_neg h
def afB (n:Nat):List D:=[.non,.bl true,.bl false,.int (-1),.int n,.str (PySem.Str.ofString "0"),.lst [.int 0],.tup [.int 0],.int (10^Int.toNat 20),.emp]
theorem ank {n:Nat}:(afB n).length=10:=rfl
theorem aov {n:Nat} (n1:1≤n) (nl:n≤1000):∀ d∈afB n,aiv n d:=by
 intro d hd
 unfold afB at hd
 simp only [List.mem_cons,List.not_mem_nil,or_false] at hd
 rcases hd with rfl | rfl | rfl | rfl | rfl | rfl | rfl | rfl | rfl | rfl
 ·exact ⟨rfl,rfl⟩
 ·exact ⟨rfl,rfl⟩
 ·exact ⟨rfl,rfl⟩
 ·exact ⟨rfl,aci (by omega)⟩
 ·exact ⟨rfl,aci (by omega)⟩
 ·exact ⟨rfl,rfl⟩
 ·exact ⟨rfl,rfl⟩
 ·exact ⟨rfl,rfl⟩
 ·exact ⟨rfl,aci (by rw [show (10:Int)^Int.toNat 20=100000000000000000000 by decide];omega)⟩
 ·exact ⟨rfl,rfl⟩
theorem anl {a:Option D} {n:Nat} {W:XD} {μ:M}:lY (d7 (ao (dC .non) (ao (dC (.bl true)) (ao (dC (.bl false)) (ao (Yh (dC (.int 1))) (ao (aq 1) (ao (dC (.str (PySem.Str.ofString "0"))) (ao (d7 (ao (dC (.int 0)) aC)) (ao (dTup (ao (dC (.int 0)) aC)) (ao (aF (gI CPow fun i j => .int (i^j.toNat)) (dC (.int 10)) (dC (.int 20))) (ao Uj aC))))))))))) W [a,some (.int n)] μ (.lst (afB n)):=by
 have cp:CPow 10 20:=⟨by decide,by decide,by decide⟩
 have l1:1≤sizeLine:=by decide
 have g1:Yk (ao (aF (gI CPow fun i j => .int (i^j.toNat)) (dC (.int 10)) (dC (.int 20))) (ao Uj aC)) W [a,some (.int n)] μ [.int (10^Int.toNat 20),.emp]:=aR (fun Q q=>⟨cp,q⟩) (aR (fun Q q=>q) fZ)
 exact wJ (aR (fun Q q=>q) (aR (fun Q q=>q) (aR (fun Q q=>q) (aR (fun Q q=>q) (aR (fun Q q=>q) (aR (fun Q q=>q) (aR (wJ (aR (fun Q q=>q) fZ) l1) (aR (jw (aR (fun Q q=>q) fZ) l1) g1)))))))) (by show 10≤sizeLine;decide)
theorem aow {g:lU} {te tb:bZ} {E:bM} {δ:Sl} {μ:M} {x:D} (h:lY te (E.xc δ) δ μ x) (q:X7 g tb (E.xc δ) δ E.rt x μ):aW (aF g te tb) E δ μ:=h _ q
theorem aiw:HB Xb VJ 2:=by
 intro ds μ Q X h
 obtain ⟨p,n,rfl,hp,n1,nl,q⟩:=h
 show VJ (ends Q XF) [some (.raw (.ref p)),some (.int n)] μ
 have ho:=aov n1 nl
 have hl:=ank (n:=n)
 unfold VJ
 refine aow anl ?_
 generalize afB n=L at *
 walk_at "r"
 refine ⟨p,_,rfl,hp,by decide,by decide,fun r μ1 a1 b1 h1 o1 => ?_⟩
 obtain ⟨v,v1,v2⟩:=mW (xs:=L) a1 (by rw [hl];exact b1)
 simp! only [v1]
 exact .of (q v μ1 (ho v (List.mem_of_getElem? v2)) h1 o1)
theorem agp {K:PySem.W.Frag} {C CT:Addr} (kn:Kl K CT):HB FP (Sd K C CT) 3:=by
 intro ds μ Q X h
 obtain ⟨d,rfl,ht,hg,q⟩:=h
 show Sd K C CT (ends Q XF) [some d,none,none] μ
 have sz:16777216≤sizeLine:=by decide
 simp! only [Sd,DL.Xx,DL.kMk]
 intro x dx hx hdx hne
 have ix:aeO C x dx μ x=some (.ins C dx []):=aP
 have sb:Sub μ (aeO C x dx μ):=fun b c e=>by
  have b1:b≠x:=fun z=>by rw [z,hx] at e;cases e
  have b2:b≠dx:=fun z=>by rw [z,hdx] at e;cases e
  show cC (cC μ dx (.own x)) x (.ins C dx []) b=some c
  rw [bL b1,bL b2]
  exact e
 refine ⟨x,dx,d,rfl,ix,ht,fun hn => ?_,fun y z hn => ?_⟩
 ·obtain ⟨t,e,tp⟩:=hg hn
  refine ⟨t,e,tp,fun μ' p hp k o => ?_⟩
  rw [hn] at q
  simp! only [DL.aac,Kg]
  refine ⟨μ,fun b c e => ?_,q⟩
  have b1:b≠x:=fun z=>by rw [z,hx] at e;cases e
  have e2:=sb b c e
  have b3:b≠p:=fun z=>by rw [z,hp] at e2;cases e2
  rw [o b b1 b3]
  exact e2
 ·rw [hn] at q
  refine ⟨true,kn.x,fun _ p hp => ?_,fun z=>(by cases z)⟩
  have en:decide (V.ref p=V.non)=false:=decide_eq_false (fun z=>by cases z)
  simp! only [Kg,en]
  refine ⟨p,CT,_,_,rfl,aP,kn.ek,kn.part,rfl,?_⟩
  walk_at "r"
  refine ⟨p,CT,_,_,rfl,aP,kn.ek,kn.number,rfl,?_⟩
  walk_at "r"
  exact ⟨by decide,μ,sb.trans (Sub.new hp),q⟩
theorem anm:inD (.str (PySem.Str.ofString "price")) [.str (PySem.Str.ofString "price"),.str (PySem.Str.ofString "bound"),.str (PySem.Str.ofString "weigh")]=true:=by decide +kernel
theorem ano:inD (.str (PySem.Str.ofString "bound")) [.str (PySem.Str.ofString "price"),.str (PySem.Str.ofString "bound"),.str (PySem.Str.ofString "weigh")]=true:=by decide +kernel
theorem anp:inD (.str (PySem.Str.ofString "weigh")) [.str (PySem.Str.ofString "price"),.str (PySem.Str.ofString "bound"),.str (PySem.Str.ofString "weigh")]=true:=by decide +kernel
theorem aox:inD (.str (PySem.Str.ofString "wish")) [.str (PySem.Str.ofString "price"),.str (PySem.Str.ofString "bound"),.str (PySem.Str.ofString "weigh")]=false:=by decide +kernel
theorem aqq:inD (.str (PySem.Str.ofString "by")) [.str (PySem.Str.ofString "price"),.str (PySem.Str.ofString "bound"),.str (PySem.Str.ofString "weigh")]=false:=by decide +kernel
section
variable {t:Task} {B:Nat} {w:Str} {i:D} {r:List D} {Q:QD} {μ:M}
theorem aix (hp:dN i=true) (hin:inD (.str w) [.str (PySem.Str.ofString "price"),.str (PySem.Str.ofString "bound"),.str (PySem.Str.ofString "weigh")]=true)
  (h0:gA i t.prices.length=none→Q (.lst [.bl true,.bl false,.bl true]) μ) (h1:∀ k,gA i t.prices.length=some k→qO (ends Q XF) [some t.d,some (.tup (.str w::i::r))] μ) :
  zU (ends Q XF) [some t.d,some (.tup (.str w::i::r))] μ:=by
 have hf:jd (.str w)=true:=rfl
 have nl:=(List.length_map (f:=fr) (as:=t.prices))
 simp! only [zU,hin]
 refine ⟨by decide,hf,by decide +kernel,?_⟩
 simp! only [Task.d]
 refine ⟨i,t.prices.length,by rw [nl],hp,?_⟩
 cases hn:gA i t.prices.length with
 | none =>
  walk_at "r"
  exact ⟨by decide,.of (h0 hn)⟩
 | some k =>
  walk_at "r"
  exact h1 k hn
theorem akk (hin:inD (.str w) [.str (PySem.Str.ofString "price"),.str (PySem.Str.ofString "bound"),.str (PySem.Str.ofString "weigh")]=false) (h:qO (ends Q XF) [some t.d,some (.tup (.str w::r))] μ) :
  zU (ends Q XF) [some t.d,some (.tup (.str w::r))] μ:=by
 have hf:jd (.str w)=true:=rfl
 simp! only [zU,hin]
 exact ⟨by decide,hf,by decide +kernel,h⟩
theorem aaV (hw:decide (w=PySem.Str.ofString "wish")=false) (ok:okN 64 (.str w)=true) (h:uK (ends Q XF) [some t.d,some (.tup (.str w::r))] μ) :
  qO (ends Q XF) [some t.d,some (.tup (.str w::r))] μ:=by
 simp! only [qO,hw]
 exact ⟨ok,by decide +kernel,h⟩
theorem apb (hp:dN i=true) (h0:gA i t.wishes.length=none→Q (.lst [.bl false,.bl true,.bl true]) μ) (h1:∀ k,gA i t.wishes.length=some k→uK (ends Q XF) [some t.d,some (.tup (.str (PySem.Str.ofString "wish")::i::r))] μ) :
  qO (ends Q XF) [some t.d,some (.tup (.str (PySem.Str.ofString "wish")::i::r))] μ:=by
 have nl:=(List.length_map (f:=bR) (as:=t.wishes))
 simp! only [qO,XJ]
 refine ⟨by decide +kernel,by decide +kernel,?_⟩
 simp! only [Task.d]
 refine ⟨i,t.wishes.length,by rw [nl],hp,?_⟩
 cases hn:gA i t.wishes.length with
 | none =>
  walk_at "r"
  exact ⟨by decide,.of (h0 hn)⟩
 | some k =>
  walk_at "r"
  exact h1 k hn
theorem apc {δ:cI} {T:TP} (K:gG B t) (l:B<2^25) (hd:due (d9 t) δ = .task T) (so:vQ t δ) (q:Q (vf (dU T.d)) μ):uK (ends Q XF) [some t.d,some δ.d] μ:=by
 simp! only [uK]
 refine ⟨d9 t,T,δ,rfl,K.tpt l,?_,?_,hd,fun k hk => ?_,?_⟩
 ·show (t.bounds.map fV).length=(t.prices.map fr).length
  rw [List.length_map,List.length_map]
  exact K.p.bl
 ·show (t.weights.map iZ).length=(t.prices.map fr).length
  rw [List.length_map,List.length_map]
  exact K.p.gl
 ·have hk:k<(t.wishes.map bR).length:=hk
  rw [List.length_map] at hk
  show ∃ s p,(t.wishes.map bR).getD k .non = .tup [s,p]
  rw [List.getD_eq_getElem?_getD,List.getElem?_map,List.getElem?_eq_getElem hk]
  exact ⟨_,_,rfl⟩
 ·walk_at "r"
  exact ⟨T.d,rfl,(so.t T hd).task,.of q⟩
end
theorem aiy:HB Xc zU 2:=by
 intro ds μ Q X h
 obtain ⟨t,B,δ,rfl,K,l,so,q⟩:=h
 show zU (ends Q XF) [some t.d,some δ.d] μ
 have pi:=so.p
 have item:∀ (hn:due (d9 t) δ = .item),Q (.lst [.bl true,.bl false,.bl true]) μ:=fun hn=>by rw [hn] at q;exact q
 have wish:∀ (hn:due (d9 t) δ = .wish),Q (.lst [.bl false,.bl true,.bl true]) μ:=fun hn=>by rw [hn] at q;exact q
 have task:∀ T,due (d9 t) δ = .task T→uK (ends Q XF) [some t.d,some δ.d] μ:=fun T hn=>apc K l hn so (by rw [hn] at q;exact q)
 cases δ with
 | price i x=>exact aix (r:=[x]) pi anm (fun hn=>item (by unfold KP.due;dsimp only;rw [pB,hn])) fun k hn=>aaV afw (by decide +kernel) (task _ (by unfold KP.due;dsimp only;rw [pB,hn]))
 | bound i x y=>exact aix (r:=[x,y]) pi ano (fun hn=>item (by unfold KP.due;dsimp only;rw [pB,hn])) fun k hn=>aaV afx (by decide +kernel) (task _ (by unfold KP.due;dsimp only;rw [pB,hn]))
 | weigh i x y=>exact aix (r:=[x,y]) pi anp (fun hn=>item (by unfold KP.due;dsimp only;rw [pB,hn])) fun k hn=>aaV afy (by decide +kernel) (task _ (by unfold KP.due;dsimp only;rw [pB,hn]))
 | by_ w=>exact akk (r:=[w]) aqq (aaV VH (by decide +kernel) (task _ rfl))
 | wish i x=>exact akk (r:=[i,x]) aox (apb (r:=[x]) pi (fun hn=>wish (by unfold KP.due;dsimp only;rw [J8,hn])) fun k hn=>task _ (by unfold KP.due;dsimp only;rw [J8,hn]))
end pQ
namespace pQ
open PySem PySem.Spec L2 DL Fr NB KP
def DP:bh :=
 (aJ (aZ 7 (d7 (ao (dTup (ao (dC (.str (PySem.Str.ofString "price"))) (ao (aq 2) (ao (aq 6) aC)))) (ao (dTup (ao (dC (.str (PySem.Str.ofString "price"))) (ao (aq 2) (ao (aq 4) aC)))) (ao (dTup (ao (dC (.str (PySem.Str.ofString "price"))) (ao (aq 5) (ao (aq 4) aC)))) (ao (dTup (ao (dC (.str (PySem.Str.ofString "bound"))) (ao (aq 2) (ao (aq 6) (ao (aq 6) aC))))) aC))))))
  (aJ (aZ 7 (aF cD (aq 7) (d7 (ao (dTup (ao (dC (.str (PySem.Str.ofString "bound"))) (ao (aq 5) (ao (aq 4) (ao (aq 6) aC))))) (ao (dTup (ao (dC (.str (PySem.Str.ofString "weigh"))) (ao (aq 2) (ao (dTup (ao (dC (.int 1)) (ao (dC (.int 1)) aC))) (ao (dTup (ao (dC (.int 1)) (ao (dC (.int 1)) aC))) aC))))) (ao (dTup (ao (dC (.str (PySem.Str.ofString "weigh"))) (ao (aq 5) (ao (dTup (ao (dC (.int 1)) (ao (dC (.int 1)) aC))) (ao (aq 4) aC))))) aC))))))
  (aJ (aZ 7 (aF cD (aq 7) (d7 (ao (dTup (ao (dC (.str (PySem.Str.ofString "wish"))) (ao (aq 3) (ao (aF aN (aF aN (aF aN (aq 0) (dC (.int 1))) (dC (.int 0))) (dC (.int 1))) aC)))) (ao (dTup (ao (dC (.str (PySem.Str.ofString "wish"))) (ao (dC (.int 0)) (ao (aq 4) aC)))) (ao (dTup (ao (dC (.str (PySem.Str.ofString "wish"))) (ao (dC (.int 0)) (ao (dC .non) aC)))) (ao (dTup (ao (dC (.str (PySem.Str.ofString "by"))) (ao (aq 4) aC))) (ao (dTup (ao (dC (.str (PySem.Str.ofString "by"))) (ao (dC (.str (PySem.Str.ofString "Sum"))) aC))) aC))))))))
  (aW (aF aN (aq 7) (dCall cQ (ao (aq 1) (ao (dC (.int 12)) aC))))))))
def Qg:bh :=
 (aJ (aZ 5 (dCall cQ (ao (aq 1) (ao (bV dX (ao (aF aN (aq 0) (dC (.int 0))) aC)) aC))))
  (aJ (aZ 6 (aF aN (aF aN (aq 0) (dC (.int 0))) (aq 5)))
  DP))
def Qh:bh :=
 (aJ (aZ 4 (aF aN (d7 (ao (dC .non) (ao (dC (.int 1)) (ao (dC (.str (PySem.Str.ofString "1"))) (ao (dTup (ao (dC (.int 2)) (ao (dC (.int 2)) aC))) (ao (d7 (ao (dC (.int 1)) (ao (dC (.int 1)) aC))) (ao (dTup (ao (dC (.int 1)) (ao (dC (.int 0)) aC))) (ao (dTup (ao (dC (.bl true)) (ao (dC (.int 1)) aC))) (ao (dTup aC) aC))))))))) (dCall cQ (ao (aq 1) (ao (dC (.int 8)) aC)))))
  Qg)
def Kh:bh :=
 (aJ (aZ 2 (dCall Xb (ao (aq 1) (ao (bV dX (ao (aF aN (aq 0) (dC (.int 0))) aC)) aC))))
  (aJ (aZ 3 (dCall Xb (ao (aq 1) (ao (bV dX (ao (aF aN (aq 0) (dC (.int 1))) aC)) aC))))
  Qh))
def afC:List D:=[.non,.int 1,.str (PySem.Str.ofString "1"),.tup [.int 2,.int 2],.lst [.int 1,.int 1],.tup [.int 1,.int 0],.tup [.bl true,.int 1],.tup []]
theorem anq:afC.length=8:=rfl
theorem akl {a b:Int} (h:a.natAbs<2^4000∧b.natAbs<2^4000):Vl (.tup [.int a,.int b]):=fun f e=>by
 injection e with e
 injection e with e1 e2
 injection e2 with e2 _
 injection e1 with e1
 injection e2 with e2
 rw [← e1,← e2]
 exact h
theorem aoy:∀ d∈afC,aou d:=by
 have big:(2:Nat)<2^4000:=Nat.lt_of_lt_of_le (show 2<2^2 by decide) (Nat.pow_le_pow_right (by decide) (by decide))
 intro d hd
 unfold afC at hd
 simp only [List.mem_cons,List.not_mem_nil,or_false] at hd
 have row:∀ {x y:D},dN x=true→dN y=true→Bo (.tup [x,y]):=fun h1 h2=>⟨rfl,fun xs e z hz=>by
  injection e with e
  subst e
  simp only [List.mem_cons,List.not_mem_nil,or_false] at hz
  rcases hz with rfl | rfl
  ·exact h1
  ·exact h2⟩
 rcases hd with rfl | rfl | rfl | rfl | rfl | rfl | rfl | rfl
 ·exact ⟨rfl,afu,ahe,⟨rfl,fun xs e=>(by cases e)⟩⟩
 ·exact ⟨rfl,⟨rfl,fun xs e=>(by cases e)⟩,fun f e=>(by cases e),⟨rfl,fun xs e=>(by cases e)⟩⟩
 ·exact ⟨rfl,⟨rfl,fun xs e=>(by cases e)⟩,fun f e=>(by cases e),⟨rfl,fun xs e=>(by cases e)⟩⟩
 ·exact ⟨rfl,row rfl rfl,akl ⟨big,big⟩,⟨rfl,fun xs e=>(by cases e)⟩⟩
 ·refine ⟨rfl,⟨rfl,fun xs e=>(by cases e)⟩,fun f e=>(by cases e),⟨rfl,fun xs e => ?_⟩⟩
  injection e with e
  subst e
  refine ⟨by decide,fun x hx => ?_⟩
  simp only [List.mem_cons,List.not_mem_nil,or_false] at hx
  rcases hx with rfl | rfl<;>rfl
 ·exact ⟨rfl,row rfl rfl,akl ⟨Nat.lt_trans (by decide) big,Nat.lt_trans (by decide) big⟩,⟨rfl,fun xs e=>(by cases e)⟩⟩
 ·exact ⟨rfl,row rfl rfl,fun f e=>(by injection e with e;injection e with e1 _;cases e1),⟨rfl,fun xs e=>(by cases e)⟩⟩
 ·exact ⟨rfl,⟨rfl,fun xs e x hx=>(by injection e with e;subst e;cases hx)⟩,fun f e=>(by injection e with e;cases e),⟨rfl,fun xs e=>(by cases e)⟩⟩
theorem anr {a b c e:Option D} {r:Sl} {W:XD} {μ:M}:lY (d7 (ao (dC .non) (ao (dC (.int 1)) (ao (dC (.str (PySem.Str.ofString "1"))) (ao (dTup (ao (dC (.int 2)) (ao (dC (.int 2)) aC))) (ao (d7 (ao (dC (.int 1)) (ao (dC (.int 1)) aC))) (ao (dTup (ao (dC (.int 1)) (ao (dC (.int 0)) aC))) (ao (dTup (ao (dC (.bl true)) (ao (dC (.int 1)) aC))) (ao (dTup aC) aC))))))))) W (a::b::c::e::r) μ (.lst afC):=by
 have l2:2≤sizeLine:=by decide
 have g:∀ {d:D},lY (dC d) W (a::b::c::e::r) μ d:=fun Q q=>q
 have p2:∀ {x y:D},Yk (ao (dC x) (ao (dC y) aC)) W (a::b::c::e::r) μ [x,y]:=aR g (aR g fZ)
 exact wJ (aR g (aR g (aR g (aR (jw p2 l2) (aR (wJ p2 l2) (aR (jw p2 l2) (aR (jw p2 l2) (aR (jw fZ (by show 0≤sizeLine;decide)) fZ)))))))) (by show 8≤sizeLine;decide)
def Gq:D := .tup [.int 1,.int 1]
def spL (oi ow th:D) (k:Nat) (f:Fc) (pl:D):List cI:=[.price oi (fr f),.price oi th,.price (.int k) th,.bound oi (fr f) (fr f),.bound (.int k) th (fr f),.weigh oi Gq Gq,.weigh (.int k) Gq th,.wish ow pl,.wish (.int 0) th,.wish (.int 0) .non,.by_ th,.by_ (.str (PySem.Str.ofString "Sum"))]
section
variable {t:Task} {B k:Nat} {oi ow th pl:D} {f:Fc}
theorem Sq {δ:cI} (h:due (d9 t) δ = .item) (p:dN (numOf δ)=true) (b:Qc δ):vQ t δ:=⟨p,b,fun T e=>by rw [h] at e;cases e⟩
theorem Km {P:D→Prop} {xs:List D} {k:Nat} {d:D} (hk:k<xs.length) (h:xs.length≤1000∧∀ x∈xs,P x) (hd:P d):(mZ xs k d).length≤1000∧∀ x∈mZ xs k d,P x:=⟨by rw [alE hk];exact h.1,fun x hx=>by
 rcases alF hx with rfl | hx
 ·exact hd
 ·exact h.2 x hx⟩
theorem apd (K:gG B t) (l:B<2^25) (h1:aiv t.prices.length oi) (h2:aiv t.wishes.length ow) (h3:aou th) (hk:k<t.prices.length) (hf:Lk 12 B f):∀ δ∈spL oi ow th k f pl,vQ t δ:=by
 have T:=K.tpt l
 have pf:=zR (DG hf l) (by decide)
 have p1:Bo Gq∧Vl Gq:=zR (n:=1) (f:=(1,1)) ⟨by decide,by decide,by decide,by decide⟩ (by decide)
 have w1:=K.p.w1
 have ki:gA (.int (k:Int)) (d9 t).a.length=some k:=by rw [pB];exact Ji hk
 have k0:gA (.int 0) (d9 t).b.length=some 0:=by rw [J8];exact Ji (k:=0) (by omega)
 have oi0:gA oi (d9 t).a.length=none:=by rw [pB];exact h1.2
 have ow0:gA ow (d9 t).b.length=none:=by rw [J8];exact h2.2
 have hka:k<(d9 t).a.length:=by rw [pB];exact hk
 have hkc:k<(d9 t).c.length:=by
  show k<(t.bounds.map fV).length
  rw [List.length_map,K.p.bl]
  exact hk
 have hke:k<(d9 t).e.length:=by
  show k<(t.weights.map iZ).length
  rw [List.length_map,K.p.gl]
  exact hk
 have hkb:0<(d9 t).b.length:=by rw [J8];omega
 have sh:Thing (shapeOf ((d9 t).b.getD 0 .non)):=by
  rw [YQ (by omega)]
  have m0:t.wishes.getD 0 (.non,[])∈t.wishes:=by
   rw [List.getD_eq_getElem?_getD,List.getElem?_eq_getElem (by omega)]
   exact List.getElem_mem _
  obtain ⟨_,s,e,ok,_⟩:=K.p.ws _ m0
  rw [e]
  exact ae7 (ahd ok) (by decide) (by decide)
 have wish:∀ {x:D},ab5 x→W4 (.tup [shapeOf ((d9 t).b.getD 0 .non),x]):=fun {x} hx=>⟨rfl,fun s p e=>by
  injection e with e
  injection e with e1 e2
  injection e2 with e2 _
  subst e1 e2
  exact ⟨sh,hx⟩⟩
 intro δ hδ
 unfold spL at hδ
 simp only [List.mem_cons,List.not_mem_nil,or_false] at hδ
 rcases hδ with rfl | rfl | rfl | rfl | rfl | rfl | rfl | rfl | rfl | rfl | rfl | rfl
 ·exact Sq (by unfold KP.due;dsimp only;rw [oi0]) h1.1 trivial
 ·exact Sq (by unfold KP.due;dsimp only;rw [oi0]) h1.1 trivial
 ·refine ⟨rfl,trivial,fun U e => ?_⟩
  unfold KP.due at e
  dsimp only at e
  rw [ki] at e
  injection e with e
  subst e
  exact ⟨Km hka T.a ⟨h3.r,h3.s⟩,T.b,T.c,T.e,T.w⟩
 ·exact Sq (by unfold KP.due;dsimp only;rw [oi0]) h1.1 ⟨rfl,rfl⟩
 ·refine ⟨rfl,⟨h3.p,rfl⟩,fun U e => ?_⟩
  unfold KP.due at e
  dsimp only at e
  rw [ki] at e
  injection e with e
  subst e
  exact ⟨T.a,T.b,Km hkc T.c (M8 ⟨h3.r,h3.s⟩ pf ⟨h3.p,rfl⟩),T.e,T.w⟩
 ·exact Sq (by unfold KP.due;dsimp only;rw [oi0]) h1.1 trivial
 ·refine ⟨rfl,trivial,fun U e => ?_⟩
  unfold KP.due at e
  dsimp only at e
  rw [ki] at e
  injection e with e
  subst e
  exact ⟨T.a,T.b,T.c,Km hke T.e (M8 p1 ⟨h3.r,h3.s⟩ ⟨rfl,h3.p⟩),T.w⟩
 ·exact ⟨h2.1,trivial,fun U e=>by unfold KP.due at e;dsimp only at e;rw [ow0] at e;cases e⟩
 ·refine ⟨rfl,trivial,fun U e => ?_⟩
  unfold KP.due at e
  dsimp only at e
  rw [k0] at e
  injection e with e
  subst e
  exact ⟨T.a,Km hkb T.b (wish h3.l),T.c,T.e,T.w⟩
 ·refine ⟨rfl,trivial,fun U e => ?_⟩
  unfold KP.due at e
  dsimp only at e
  rw [k0] at e
  injection e with e
  subst e
  exact ⟨T.a,Km hkb T.b (wish ⟨rfl,fun xs e=>(by cases e)⟩),T.c,T.e,T.w⟩
 ·refine ⟨rfl,trivial,fun U e => ?_⟩
  injection e with e
  subst e
  exact ⟨T.a,T.b,T.c,T.e,h3.p⟩
 ·refine ⟨rfl,trivial,fun U e => ?_⟩
  injection e with e
  subst e
  exact ⟨T.a,T.b,T.c,T.e,rfl⟩
variable {p:Addr} {Q:QD} {μ:M}
theorem aqr {x0:D} (K:gG B t) (pl0:atI (t.wishes.map bR) 0=some (.tup [x0,pl])) (hp:dO μ p) (q:∀ δ∈spL oi ow th k f pl,∀ μ',dO μ' p→nM μ μ' p→Q δ.d μ') :
  DP (ends Q XF) [some t.d,some (.raw (.ref p)),some oi,some ow,some th,some (.int (k:Int)),some (fr f),none] μ:=by
 have l1:1≤sizeLine:=by decide
 have l2:2≤sizeLine:=by decide
 have l3:3≤sizeLine:=by decide
 have l4:4≤sizeLine:=by decide
 have gc:∀ {W:XD} {δ:Sl} {d:D},lY (dC d) W δ μ d:=fun Q q=>q
 have v:∀ {W:XD} {r:Sl},lY (aq 2) W (some t.d::some (.raw (.ref p))::some oi::some ow::some th::some (.int (k:Int))::some (fr f)::r) μ oi:=fun Q q=>q
 have v3:∀ {W:XD} {r:Sl},lY (aq 3) W (some t.d::some (.raw (.ref p))::some oi::some ow::some th::some (.int (k:Int))::some (fr f)::r) μ ow:=fun Q q=>q
 have v4:∀ {W:XD} {r:Sl},lY (aq 4) W (some t.d::some (.raw (.ref p))::some oi::some ow::some th::some (.int (k:Int))::some (fr f)::r) μ th:=fun Q q=>q
 have v5:∀ {W:XD} {r:Sl},lY (aq 5) W (some t.d::some (.raw (.ref p))::some oi::some ow::some th::some (.int (k:Int))::some (fr f)::r) μ (.int (k:Int)):=fun Q q=>q
 have v6:∀ {W:XD} {r:Sl},lY (aq 6) W (some t.d::some (.raw (.ref p))::some oi::some ow::some th::some (.int (k:Int))::some (fr f)::r) μ (fr f):=fun Q q=>q
 have o1:∀ {W:XD} {δ:Sl},lY (dTup (ao (dC (.int 1)) (ao (dC (.int 1)) aC))) W δ μ Gq:=jw (aR gc (aR gc fZ)) l2
 unfold DP
 refine WD (wJ (aR (jw (aR gc (aR v (aR v6 fZ))) l3) (aR (jw (aR gc (aR v (aR v4 fZ))) l3) (aR (jw (aR gc (aR v5 (aR v4 fZ))) l3) (aR (jw (aR gc (aR v (aR v6 (aR v6 fZ)))) l4) fZ)))) l4) ?_
 simp only [List.set_cons_succ,List.set_cons_zero]
 refine WD (ajt (y := .lst [(cI.bound (.int (k:Int)) th (fr f)).d,(cI.weigh oi Gq Gq).d,(cI.weigh (.int (k:Int)) Gq th).d]) (d := .lst [(cI.price oi (fr f)).d,(cI.price oi th).d,(cI.price (.int (k:Int)) th).d,(cI.bound oi (fr f) (fr f)).d,(cI.bound (.int (k:Int)) th (fr f)).d,(cI.weigh oi Gq Gq).d,(cI.weigh (.int (k:Int)) Gq th).d]) (fun Q q=>q)
  (wJ (aR (jw (aR gc (aR v5 (aR v4 (aR v6 fZ)))) l4) (aR (jw (aR gc (aR v (aR o1 (aR o1 fZ)))) l4) (aR (jw (aR gc (aR v5 (aR o1 (aR v4 fZ)))) l4) fZ))) l3) fun Q q=>⟨by show 7≤sizeLine;decide,q⟩) ?_
 simp only [List.set_cons_succ,List.set_cons_zero]
 have gp:∀ {W:XD} {r:Sl},lY (aF aN (aF aN (aF aN (aq 0) (dC (.int 1))) (dC (.int 0))) (dC (.int 1))) W (some t.d::some (.raw (.ref p))::some oi::some ow::some th::some (.int (k:Int))::some (fr f)::r) μ pl:=fun Q q=>by
  simp! only [Task.d,pl0]
  exact q
 refine WD (ajt (y := .lst [(cI.wish ow pl).d,(cI.wish (.int 0) th).d,(cI.wish (.int 0) .non).d,(cI.by_ th).d,(cI.by_ (.str (PySem.Str.ofString "Sum"))).d]) (d := .lst ((spL oi ow th k f pl).map cI.d)) (fun Q q=>q)
  (wJ (aR (jw (aR gc (aR v3 (aR gp fZ))) l3) (aR (jw (aR gc (aR gc (aR v4 fZ))) l3) (aR (jw (aR gc (aR gc (aR gc fZ))) l3) (aR (jw (aR gc (aR v4 fZ)) l2) (aR (jw (aR gc (aR gc fZ)) l2) fZ))))) (by show 5≤sizeLine;decide)) fun Q q=>⟨by show 12≤sizeLine;decide,q⟩) ?_
 simp only [List.set_cons_succ,List.set_cons_zero]
 have hl:(spL oi ow th k f pl).length=12:=rfl
 generalize spL oi ow th k f pl=L at *
 walk_at "r"
 refine ⟨p,_,rfl,hp,by decide,by decide,fun r μ1 a1 b1 h1 o1 => ?_⟩
 obtain ⟨y,e1,e2⟩:=mW (xs:=L.map cI.d) (i:=r) a1 (by rw [List.length_map,hl];exact b1)
 have hr:r.toNat<L.length:=by omega
 rw [List.getElem?_map,List.getElem?_eq_getElem hr] at e2
 injection e2 with e2
 simp! only [e1]
 rw [← e2]
 exact .of (q _ (List.getElem_mem hr) μ1 h1 o1)
end
theorem adu:HB R9 Kh 8:=by
 intro ds μ Q X h
 obtain ⟨p,t,B,rfl,hp,K,l,q⟩:=h
 show Kh (ends Q XF) [some t.d,some (.raw (.ref p)),none,none,none,none,none,none] μ
 have sz:16777216≤sizeLine:=by decide
 have n1:=K.p.n1
 have n2:=K.p.n2
 have w1:=K.p.w1
 have wl:=K.p.wl
 simp! only [Kh,Task.d,List.length_map]
 refine ⟨p,t.prices.length,rfl,hp,n1,by omega,fun oi μ1 ho1 h1 o1 => ?_⟩
 simp! only [id,List.length_map]
 refine ⟨p,t.wishes.length,rfl,h1,w1,by omega,fun ow μ2 ho2 h2 o2 => ?_⟩
 rw [show (.tup [.lst (t.prices.map fr),.lst (t.wishes.map bR),.lst (t.bounds.map fV),.lst (t.weights.map iZ),.str t.word]:D)=t.d from rfl]
 simp! only [id]
 unfold Qh
 refine aju anr ?_
 have hth:=aoy
 have hl8:=anq
 generalize afC=L at *
 walk_at "r"
 refine ⟨p,_,rfl,h2,by decide,by decide,fun r μ3 a3 b3 h3 o3 => ?_⟩
 obtain ⟨th,e1,e2⟩:=mW (xs:=L) (i:=r) a3 (by rw [hl8];exact b3)
 have ht:=hth th (List.mem_of_getElem? e2)
 simp! only [e1,Qg,Task.d,List.length_map]
 refine ⟨p,_,rfl,h3,by omega,by omega,fun r2 μ4 a4 b4 h4 o4 => ?_⟩
 obtain ⟨k,rfl⟩:∃ k:Nat,r2=k:=⟨r2.toNat,by omega⟩
 have hk:k<t.prices.length:=by omega
 obtain ⟨f,hf,ef⟩:=YS hk
 simp! only [ef]
 rw [show (.tup [.lst (t.prices.map fr),.lst (t.wishes.map bR),.lst (t.bounds.map fV),.lst (t.weights.map iZ),.str t.word]:D)=t.d from rfl]
 refine aqr (x0:=(t.wishes.getD 0 (.non,[])).1) (pl := .lst ((t.wishes.getD 0 (.non,[])).2.map D.int)) K (acf (j:=0) (by omega)) h4 fun δ hδ μ' hp' o' => ?_
 exact q δ μ' (apd K l ho1 ho2 ht hk (K.pr f hf) δ hδ) hp' ((((o1.trans o2).trans o3).trans o4).trans o')
end pQ
namespace pQ
open PySem PySem.Spec L2 DL Fr NB KP
def aiz (c2' c3' bB c1':Addr):bh :=
 (aJ (aZ 1 (dCall aaq (ao (dCall Pk (ao (aq 0) (ao (dC (.int 0)) aC))) aC)))
  (aJ (aZ 2 (Xx c2' (Qa c2' bB) (ao (aq 1) aC)))
  (aJ (aZ 3 (dC (.int 0)))
  (aJ (j8 (zJ (ao (dC (.int 1)) (ao (bV Mg (ao (dC (.int 2)) (ao (bV Hj (ao (bV dX (ao (aq 0) aC)) (ao (dC (.int 31)) aC))) aC))) aC))) (bW 4) (aJ (aZ 5 (dCall Pk (ao (aq 0) (ao (aq 4) aC))))
  (aJ (aZ 6 (dCall aaR (ao (aq 1) (ao (aq 5) aC))))
  (aJ (bY (sJ (dB (aF eY (dCall cQ (ao (aq 5) (ao (dC (.int 3)) aC))) (dC (.int 0)))) (dB (aF (lD false) (dCall vO (ao (dCall vP (ao (aq 1) (ao (aq 6) aC))) aC)) (dC .non)))) (aJ (gJ (dCall (Vz c2' c3' bB c1') (ao (aq 2) (ao (aq 6) aC))))
  (aJ (aZ 1 (dCall vP (ao (aq 1) (ao (aq 6) aC))))
  (aZ 3 (aF cD (aq 3) (dC (.int 1)))))) aX)
  (aJ (aZ 6 (dCall R9 (ao (aq 1) (ao (aq 5) aC))))
  (aJ (aZ 7 (dCall Xc (ao (aq 1) (ao (aq 6) aC))))
  (aJ (bY (dB (aF (lD true) (aq 7) (dC .non))) (bY (jy (dB (aF lV (dCall (FJ c2') (ao (aq 2) (ao (aq 6) aC))) (aq 7))) (dB (aF lV (dCall (FJ c2') (ao (aq 2) (ao (aq 6) aC))) (aq 7)))) (aW (dC (.bl false))) aX) aX)
  (bY (jy (dB (aF lV (jD c2' "task" (Jh c2') (aq 2) aC) (aq 1))) (dB (aF lV (jD c2' "deeds" (R3 c2') (aq 2) aC) (aq 3)))) (aW (dC (.bl false))) aX))))))))
  (aJ (aZ 8 (d7 (ao (dC .non) (ao (dC (.int 0)) (ao (dC (.str (PySem.Str.ofString "task"))) (ao (d7 aC) (ao (dTup aC) (ao (bV El (ao (aq 1) aC)) (ao (jU (aq 1) cJ (dR (dC (.int 4)))) (ao (aF cD (aq 1) (dTup (ao (dC (.int 1)) aC))) (ao (aF cD (jU (aq 1) cJ (dR (dC (.int 4)))) (dTup (ao (dC .non) aC))) aC)))))))))))
  (aJ (j8 (fO (aq 8)) (bW 9) (bY (jy (dB (aF lV (dCall FP (ao (aq 9) aC)) (dCall vO (ao (aq 9) aC)))) (dB (aF (lD false) (dCall FP (ao (aq 9) aC)) (dC .non)))) (aW (dC (.bl false))) aX))
  (aW (nD (aF eY (jD c2' "task" (Jh c2') (aq 2) aC) (aq 1)) (aF (lD false) (dCall FP (ao (aq 1) aC)) (dC .non))))))))))
def b0 (c2' c3' bB c1':Addr):bh:=(aZ 5 (dCall Pk (ao (aq 0) (ao (aq 4) aC))))
def b1 (c2' c3' bB c1':Addr):bh:=(aZ 6 (dCall aaR (ao (aq 1) (ao (aq 5) aC))))
def b2 (c2' c3' bB c1':Addr):bh:=(bY (sJ (dB (aF eY (dCall cQ (ao (aq 5) (ao (dC (.int 3)) aC))) (dC (.int 0)))) (dB (aF (lD false) (dCall vO (ao (dCall vP (ao (aq 1) (ao (aq 6) aC))) aC)) (dC .non)))) (aJ (gJ (dCall (Vz c2' c3' bB c1') (ao (aq 2) (ao (aq 6) aC))))
 (aJ (aZ 1 (dCall vP (ao (aq 1) (ao (aq 6) aC))))
 (aZ 3 (aF cD (aq 3) (dC (.int 1)))))) aX)
def b3 (c2' c3' bB c1':Addr):bh:=(aZ 6 (dCall R9 (ao (aq 1) (ao (aq 5) aC))))
def b4 (c2' c3' bB c1':Addr):bh:=(aZ 7 (dCall Xc (ao (aq 1) (ao (aq 6) aC))))
def b5 (c2' c3' bB c1':Addr):bh:=(bY (dB (aF (lD true) (aq 7) (dC .non))) (bY (jy (dB (aF lV (dCall (FJ c2') (ao (aq 2) (ao (aq 6) aC))) (aq 7))) (dB (aF lV (dCall (FJ c2') (ao (aq 2) (ao (aq 6) aC))) (aq 7)))) (aW (dC (.bl false))) aX) aX)
def b6 (c2' c3' bB c1':Addr):bh:=(bY (jy (dB (aF lV (jD c2' "task" (Jh c2') (aq 2) aC) (aq 1))) (dB (aF lV (jD c2' "deeds" (R3 c2') (aq 2) aC) (aq 3)))) (aW (dC (.bl false))) aX)
def aiA (c2' c3' bB c1':Addr):bh:=(aJ (b0 c2' c3' bB c1') (aJ (b1 c2' c3' bB c1') (aJ (b2 c2' c3' bB c1') (aJ (b3 c2' c3' bB c1') (aJ (b4 c2' c3' bB c1') (aJ (b5 c2' c3' bB c1') (b6 c2' c3' bB c1')))))))
def alW (c2' c3' bB c1':Addr):bh:=(j8 (zJ (ao (dC (.int 1)) (ao (bV Mg (ao (dC (.int 2)) (ao (bV Hj (ao (bV dX (ao (aq 0) aC)) (ao (dC (.int 31)) aC))) aC))) aC))) (bW 4) (aiA c2' c3' bB c1'))
def l0 (c2' c3' bB c1':Addr):bh:=(aZ 1 (dCall aaq (ao (dCall Pk (ao (aq 0) (ao (dC (.int 0)) aC))) aC)))
def l1 (c2' c3' bB c1':Addr):bh:=(aZ 2 (Xx c2' (Qa c2' bB) (ao (aq 1) aC)))
def l2 (c2' c3' bB c1':Addr):bh:=(aZ 3 (dC (.int 0)))
def l4 (c2' c3' bB c1':Addr):bh:=(aZ 8 (d7 (ao (dC .non) (ao (dC (.int 0)) (ao (dC (.str (PySem.Str.ofString "task"))) (ao (d7 aC) (ao (dTup aC) (ao (bV El (ao (aq 1) aC)) (ao (jU (aq 1) cJ (dR (dC (.int 4)))) (ao (aF cD (aq 1) (dTup (ao (dC (.int 1)) aC))) (ao (aF cD (jU (aq 1) cJ (dR (dC (.int 4)))) (dTup (ao (dC .non) aC))) aC)))))))))))
def l5 (c2' c3' bB c1':Addr):bh:=(j8 (fO (aq 8)) (bW 9) (bY (jy (dB (aF lV (dCall FP (ao (aq 9) aC)) (dCall vO (ao (aq 9) aC)))) (dB (aF (lD false) (dCall FP (ao (aq 9) aC)) (dC .non)))) (aW (dC (.bl false))) aX))
def l6 (c2' c3' bB c1':Addr):bh:=(aW (nD (aF eY (jD c2' "task" (Jh c2') (aq 2) aC) (aq 1)) (aF (lD false) (dCall FP (ao (aq 1) aC)) (dC .non))))
theorem alX {c2' c3' bB c1':Addr}:aiz c2' c3' bB c1'=(aJ (l0 c2' c3' bB c1') (aJ (l1 c2' c3' bB c1') (aJ (l2 c2' c3' bB c1') (aJ (alW c2' c3' bB c1') (aJ (l4 c2' c3' bB c1') (aJ (l5 c2' c3' bB c1') (l6 c2' c3' bB c1'))))))):=rfl
section
variable {C CI CT CW a q p:Addr} {t:Task} {f:D} {ps:List D} {μ μ':M} {B:Nat} {ns:List Int}
theorem Ss (h:fX C μ a t f q ps) (o:nM μ μ' p) (h1:a≠p) (h2:q≠p):fX C μ' a t f q ps :=
 ⟨h.ins.imp fun dx e=>(o a h1).trans e,(o q h2).trans h.J5,h.ne,h.ok,h.few⟩
theorem aoz (h:fX C μ a t f q ps):∃ x,μ a=some x:=h.ins.elim fun _ e=>⟨_,e⟩
theorem alY (h:dO μ p) (o:Off μ μ' a q) (h1:p≠a) (h2:p≠q):dO μ' p:=by
 obtain ⟨x,y,e,r⟩:=h
 exact ⟨x,y,(o p h1 h2).trans e,r⟩
theorem afD (K:gG B t):okN 64 t.d=true:=by
 have h:=K.p
 refine List.all_eq_true.mpr fun d hd => ?_
 simp only [List.mem_cons,List.not_mem_nil,or_false] at hd
 have opt:∀ o:Option Fc,okN 61 (cY o)=true:=fun o=>by
  cases o with
  | none=>rfl
  | some f=>exact U0 (n:=60)
 have word:okN 63 (.str t.word)=true:=by
  rcases K.wd with e | e<;>rw [e]<;>decide +kernel
 rcases hd with rfl | rfl | rfl | rfl | rfl
 ·exact ag5 (n:=61)
 ·refine List.all_eq_true.mpr fun x hx => ?_
  obtain ⟨w,hw,rfl⟩:=List.mem_map.mp hx
  obtain ⟨_,s,e,_⟩:=h.ws w hw
  rw [show w=(w.1,w.2) from rfl,e]
  refine List.all_eq_true.mpr fun z hz => ?_
  simp only [List.mem_cons,List.not_mem_nil,or_false] at hz
  rcases hz with rfl | rfl
  ·exact iT (am6 s) (by decide)
  ·exact CV (n:=59)
 ·refine List.all_eq_true.mpr fun x hx => ?_
  obtain ⟨b,hb,rfl⟩:=List.mem_map.mp hx
  refine List.all_eq_true.mpr fun z hz => ?_
  simp only [List.mem_cons,List.not_mem_nil,or_false] at hz
  rcases hz with rfl | rfl
  ·exact opt _
  ·exact opt _
 ·refine List.all_eq_true.mpr fun x hx => ?_
  obtain ⟨b,hb,rfl⟩:=List.mem_map.mp hx
  refine List.all_eq_true.mpr fun z hz => ?_
  simp only [List.mem_cons,List.not_mem_nil,or_false] at hz
  rcases hz with rfl | rfl
  ·exact U0 (n:=60)
  ·exact U0 (n:=60)
 ·exact word
theorem ad2 {d:D} (h:flK d=true):okN 62 d=true:=by
 cases d with
 | str x=>exact h
 | raw _=>cases h
 | dJ _=>cases h
 | key _=>cases h
 | lst _=>cases h
 | tup _=>cases h
 | emp=>cases h
 | bl _=>cases h
 | non=>rfl
 | int _=>rfl
theorem ant (u:KP.Due):okN 64 (Kf u)=true:=by
 cases u with
 | item=>rfl
 | wish=>rfl
 | task T =>
  show okN 64 (vf (dU T.d))=true
  cases e:dU T.d with
  | none=>rfl
  | some z =>
   obtain ⟨x,y⟩:=z
   obtain ⟨h1,h2⟩:=ahh e
   refine List.all_eq_true.mpr fun z hz => ?_
   simp only [List.mem_cons,List.not_mem_nil,or_false] at hz
   rcases hz with rfl | rfl | rfl
   ·exact (by decide +kernel:okN 63 (.str (PySem.Str.ofString "task"))=true)
   ·exact iT (ad2 h1) (by decide)
   ·exact iT (ad2 h2) (by decide)
theorem behind_of {δ:cI} {T:TP} {Q:QD} {X:XD} (K:gG B t) (l:B<2^25) (hd:due (d9 t) δ = .task T) (q:Q T.d μ):vP [t.d,δ.d] μ Q X:=by
 refine ⟨d9 t,T,δ,rfl,K.tpt l,?_,?_,hd,fun k hk => ?_,q⟩
 ·show (t.bounds.map fV).length=(t.prices.map fr).length
  rw [List.length_map,List.length_map]
  exact K.p.bl
 ·show (t.weights.map iZ).length=(t.prices.map fr).length
  rw [List.length_map,List.length_map]
  exact K.p.gl
 ·have hk:k<(t.wishes.map bR).length:=hk
  rw [List.length_map] at hk
  show ∃ s p,(t.wishes.map bR).getD k .non = .tup [s,p]
  rw [List.getD_eq_getElem?_getD,List.getElem?_map,List.getElem?_eq_getElem hk]
  exact ⟨_,_,rfl⟩
variable {x4 x5 x6 x7 x8 x9:Option D} {k:Int} {TAIL:bh} {E:bM}
theorem aoA (hk0:0≤k) (hk1:k<100) (K:gG B t) (l:B+384<2^25) (ka:fX C μ a t f q ps)
  (h:∀ μ' p δ,dO μ' p→a≠p→q≠p→fX C μ' a t f q ps→pJ (B+384) t δ→TAIL E [some (.dJ ns),some t.d,some (.raw (.ref a)),some (.int ps.length),some (.int k),some (.raw (.ref p)),some δ.d,x7,x8,x9] μ') :
  aJ (b0 C CI CT CW) (aJ (b1 C CI CT CW) TAIL) E [some (.dJ ns),some t.d,some (.raw (.ref a)),some (.int ps.length),some (.int k),x5,x6,x7,x8,x9] μ:=by
 have sz:16777216≤sizeLine:=by decide
 simp! only [b0]
 refine ⟨ns,k,rfl,hk0,hk1,fun p μ1 hp hP ho => ?_⟩
 have ap:a≠p:=fun e=>by obtain ⟨x,hx⟩:=aoz ka;rw [e,hp] at hx;cases hx
 have qp:q≠p:=fun e=>by have hx:=ka.J5;rw [e,hp] at hx;cases hx
 simp! only [b1]
 refine ⟨p,t,B,rfl,hP,K,l,fun δ μ2 hd h2 o2 => ?_⟩
 walk_at "r"
 exact h μ2 p δ h2 ap qp (Ss (Ss ka ho ap qp) o2 ap qp) hd
theorem aoB (K:gG B t) (l:B+384<2^25) (ka:fX C μ a t f q ps) (hl:ps.length<1000) (hn:dU t.d=none) {δ:cI} (hd:pJ (B+384) t δ) (hp:dO μ p) (ap:a≠p) (qp:q≠p)
  (h:∀ t' ps' μ',dO μ' p→fX C μ' a t' f q ps'→gG (B+384) t'→dU t'.d=none→ps'.length≤ps.length+1→TAIL E [some (.dJ ns),some t'.d,some (.raw (.ref a)),some (.int ps'.length),some (.int k),some (.raw (.ref p)),some δ.d,x7,x8,x9] μ') :
  aJ (b2 C CI CT CW) TAIL E [some (.dJ ns),some t.d,some (.raw (.ref a)),some (.int ps.length),some (.int k),some (.raw (.ref p)),some δ.d,x7,x8,x9] μ:=by
 have sz:16777216≤sizeLine:=by decide
 obtain ⟨t',alZ,K'⟩:=hd.due K (by omega) l
 simp! only [b2]
 refine ⟨p,_,rfl,hp,by decide,by decide,fun r μ1 a1 b1 h1 o1 => ?_⟩
 have ka1:=Ss ka o1 ap qp
 walk_at "r"
 refine ⟨mD,mD,?_⟩
 have tt:Bu t'.d:=(K'.tpt l).task
 have nx:∀ μ',dO μ' p→fX C μ' a t f q ps→TAIL E [some (.dJ ns),some t.d,some (.raw (.ref a)),some (.int ps.length),some (.int k),some (.raw (.ref p)),some δ.d,x7,x8,x9] μ':=fun μ' h1 h2=>h t ps μ' h1 h2 (K.mono (by omega)) hn (by omega)
 cases h0:decide (r=0) with
 | false =>
  walk_at "r"
  exact nx μ1 h1 ka1
 | true =>
  walk_at "r"
  refine behind_of K (by omega) alZ ?_
  walk_at "r"
  refine ⟨t'.d,rfl,tt,?_⟩
  cases e:dU t'.d with
  | some z =>
   obtain ⟨z1,z2⟩:=z
   simp! only [vf]
   exact nx μ1 h1 ka1
  | none =>
   simp! only [vf]
   have pd:dN (numOf δ)=true∧Qc δ:=by cases hd<;>first | exact ⟨rfl,trivial⟩ | exact ⟨rfl,M9,M9⟩
   refine ⟨a,t,f,q,ps,δ,rfl,ka1,hl,pd.1,pd.2,?_⟩
   unfold Done
   rw [alZ]
   refine ⟨tt,fun _=>⟨t',rfl,K'.p,fun μ2 k2 o2 => ?_⟩,fun x y z=>by rw [show dU (d9 t').d=none from e] at z;cases z⟩
   walk_at "r"
   refine behind_of K (by omega) alZ ?_
   walk_at "r"
   have hq:=h t' (ps++[t.d]) μ2 (alY h1 o2 (Ne.symm ap) (Ne.symm qp)) k2 K' e (by rw [List.length_append,List.length_singleton];omega)
   rw [List.length_append,List.length_singleton,Int.natCast_add] at hq
   exact hq
theorem aoC (K:gG B t) (l:B<2^25) (ka:fX C μ a t f q ps) (hp:dO μ p) (ap:a≠p) (qp:q≠p)
  (h:∀ δ μ',fX C μ' a t f q ps→vQ t δ→TAIL E [some (.dJ ns),some t.d,some (.raw (.ref a)),some (.int ps.length),x4,some (.raw (.ref p)),some δ.d,some (Kf (KP.due (d9 t) δ)),x8,x9] μ') :
  aJ (b3 C CI CT CW) (aJ (b4 C CI CT CW) TAIL) E [some (.dJ ns),some t.d,some (.raw (.ref a)),some (.int ps.length),x4,some (.raw (.ref p)),x6,x7,x8,x9] μ:=by
 have sz:16777216≤sizeLine:=by decide
 simp! only [b3]
 refine ⟨p,t,B,rfl,hp,K,l,fun δ μ1 so h1 o1 => ?_⟩
 have ka1:=Ss ka o1 ap qp
 simp! only [b4]
 refine ⟨t,B,δ,rfl,K,l,so,?_⟩
 walk_at "r"
 exact h δ μ1 ka1 so
theorem anu {δ:cI} {Q:QD} {X:XD} (so:vQ t δ) (ka:fX C μ a t f q ps) (hl:ps.length<1000) (hne:Kf (KP.due (d9 t) δ) ≠ .non) (h:Q (Kf (KP.due (d9 t) δ)) μ):FJ C [.raw (.ref a),δ.d] μ Q X:=by
 refine ⟨a,t,f,q,ps,δ,rfl,ka,hl,so.p,so.b,?_⟩
 unfold Told
 cases e:KP.due (d9 t) δ with
 | item=>rw [e] at h;exact h
 | wish=>rw [e] at h;exact h
 | task T =>
  rw [e] at h hne
  refine ⟨(so.t T e).task,fun hn=>absurd (show vf (dU T.d) = .non by rw [hn];rfl) hne,fun x y hn => ?_⟩
  have h:Q (vf (dU T.d)) μ:=h
  rw [hn] at h
  exact h
theorem ahi {d:D} {μ:M} (h:dN d=true):view μ d=d:=by
 cases d with
 | raw _=>cases h
 | dJ _=>cases h
 | key _=>cases h
 | _=>rfl
theorem is_not {x:D} {Q:QD} (h:dN x=true) (h1:x = .non→Q (.bl false) μ) (h2:x ≠ .non→Q (.bl true) μ):lD true x .non μ Q:=by
 cases x with
 | raw _=>cases h
 | dJ _=>cases h
 | key _=>cases h
 | non=>exact h1 rfl
 | _=>exact h2 (fun z=>by cases z)
theorem if_not {te:bZ} {T:bh} {E:bM} {R:bh} {δ:Sl} {x:D} (hd:lY te (E.xc δ) δ μ x) (h:dN x=true) (hR:x = .non→R E δ μ) (hT:x ≠ .non→T { E with nx:=R E } δ μ):aJ (bY (dB (aF (lD true) te (dC .non))) T aX) R E δ μ :=
 hd _ (is_not h (fun e=>hR e) fun e=>hT e)
theorem aoD (ka:fX C μ a t f q ps) (hl:ps.length<1000) {δ:cI} (so:vQ t δ) (h:TAIL E [some (.dJ ns),some t.d,some (.raw (.ref a)),some (.int ps.length),x4,x5,some δ.d,some (Kf (KP.due (d9 t) δ)),x8,x9] μ) :
  aJ (b5 C CI CT CW) TAIL E [some (.dJ ns),some t.d,some (.raw (.ref a)),some (.int ps.length),x4,x5,some δ.d,some (Kf (KP.due (d9 t) δ)),x8,x9] μ:=by
 have sz:16777216≤sizeLine:=by decide
 have ok:=ant (KP.due (d9 t) δ)
 have kd:Kf (KP.due (d9 t) δ) ≠ .non→∀ (Q:QD) (X:XD),Q (Kf (KP.due (d9 t) δ)) μ→FJ C [.raw (.ref a),δ.d] μ Q X:=fun hne Q X h=>anu so ka hl hne h
 have pl:dN (Kf (KP.due (d9 t) δ))=true:=lQ ok
 generalize Kf (KP.due (d9 t) δ)=V at *
 refine if_not (te:=aq 7) (x:=V) (fun Q q=>q) pl (fun e=>h) fun e => ?_
 walk_at "r"
 refine kd e _ _ ?_
 walk_at "r"
 rw [ahi pl]
 refine ⟨ok,ok,?_⟩
 rw [zp]
 walk_at "r"
 refine kd e _ _ ?_
 walk_at "r"
 rw [ahi pl]
 refine ⟨ok,ok,?_⟩
 rw [zp]
 walk_at "r"
 exact h
theorem aoE (K:gG B t) (ka:fX C μ a t f q ps) (h:E.nx [some (.dJ ns),some t.d,some (.raw (.ref a)),some (.int ps.length),x4,x5,x6,x7,x8,x9] μ) :
  b6 C CI CT CW E [some (.dJ ns),some t.d,some (.raw (.ref a)),some (.int ps.length),x4,x5,x6,x7,x8,x9] μ:=by
 have sz:16777216≤sizeLine:=by decide
 have ok:=afD K
 obtain ⟨dx,ins⟩:=ka.ins
 have lk1:=rD (d:=t.d) (f:=f) (p:=q) (x:=PySem.Str.ofString "task") (by decide +kernel) (by decide +kernel) (by decide +kernel)
 have lk2:=rD (d:=t.d) (f:=f) (p:=q) (x:=PySem.Str.ofString "deeds") (by decide +kernel) (by decide +kernel) (by decide +kernel)
 simp! only [b6]
 refine ⟨dx,_,ins,lk1,a,t,f,q,ps,rfl,ka,?_⟩
 walk_at "r"
 refine ⟨ok,ok,?_⟩
 rw [zp]
 walk_at "r"
 refine ⟨dx,_,ins,lk2,a,t,f,q,ps,rfl,ka,?_⟩
 walk_at "r"
 exact ⟨mD,mD,h⟩
theorem body (hk0:0≤k) (hk1:k<100) (K:gG B t) (l:B+384<2^25) (ka:fX C μ a t f q ps) (hl:ps.length<900) (hn:dU t.d=none)
  (h:∀ t' ps' y5 y6 y7 μ',fX C μ' a t' f q ps'→gG (B+384) t'→dU t'.d=none→ps'.length≤ps.length+1→E.nx [some (.dJ ns),some t'.d,some (.raw (.ref a)),some (.int ps'.length),some (.int k),y5,y6,y7,x8,x9] μ') :
  aiA C CI CT CW E [some (.dJ ns),some t.d,some (.raw (.ref a)),some (.int ps.length),some (.int k),x5,x6,x7,x8,x9] μ:=by
 unfold aiA
 exact aoA hk0 hk1 K l ka fun μ1 p δ h1 ap qp ka1 hd=>aoB K l ka1 (by omega) hn hd h1 ap qp fun t' ps' μ2 h2 ka2 K2 hn2 hl2=>aoC K2 l ka2 h2 ap qp fun δ2 μ3 ka3 so=>aoD ka3 (by omega) so (aoE K2 ka3 (h t' ps' _ _ _ μ3 ka3 K2 hn2 hl2))
theorem ape (K:gG B0 t) (ka:fX C μ a t f q []) (hn:dU t.d=none)
  (h:∀ t' ps' y4 y5 y6 y7 μ',fX C μ' a t' f q ps'→gG (B0+384*100) t'→dU t'.d=none→TAIL E [some (.dJ ns),some t'.d,some (.raw (.ref a)),some (.int ps'.length),y4,y5,y6,y7,none,none] μ') :
  aJ (alW C CI CT CW) TAIL E [some (.dJ ns),some t.d,some (.raw (.ref a)),some (.int 0),none,none,none,none,none,none] μ:=by
 have sz:16777216≤sizeLine:=by decide
 have big:B0+384*100<2^25:=by decide
 simp! only [alW]
 refine ⟨by constructor<;>(try constructor)<;>(try constructor)<;>(try split)<;>(try split)<;>omega,?_⟩
 refine ⟨fun i δ μ'=>∃ t' ps' y4 y5 y6 y7,δ=[some (.dJ ns),some t'.d,some (.raw (.ref a)),some (.int ps'.length),y4,y5,y6,y7,none,none]∧fX C μ' a t' f q ps'∧gG (B0+384*i) t'∧dU t'.d=none∧ps'.length≤i,⟨t,[],_,_,_,_,rfl,ka,K.mono (by omega),hn,Nat.zero_le _⟩,?_⟩
 rintro i δ μ1 ⟨t',ps',y4,y5,y6,y7,rfl,ka',K',hn',hl'⟩
 refine ⟨trivial,fun d hd => ?_,fun hi => ?_⟩
 ·have hk:∃ k:Int,d = .int k∧0≤k∧k<100∧i<90:=by
   obtain ⟨rfl,hi⟩:=xV hd
   refine ⟨_,rfl,by omega,?_,?_⟩
   ·revert hi
    split<;>(try split)<;>omega
   ·revert hi
    split<;>(try split)<;>omega
  obtain ⟨k,rfl,hk0,hk1,hi9⟩:=hk
  walk_at "r"
  refine body hk0 hk1 K' (Nat.lt_of_le_of_lt (by omega:_≤B0+384*100) big) ka' (by omega) hn' fun t2 ps2 z5 z6 z7 μ2 ka2 K2 hn2 hl2 => ?_
  exact ⟨t2,ps2,_,_,_,_,rfl,ka2,K2.mono (by omega),hn2,by omega⟩
 ·have hi9:i≤90:=by
   rw [oE] at hi
   revert hi
   split<;>(try split)<;>omega
  walk_at "r"
  exact h t' ps' _ _ _ _ μ1 ka' (K'.mono (by omega)) hn'
def thL (t:Task):List D:=[.non,.int 0,.str (PySem.Str.ofString "task"),.lst [],.tup [],.lst [.lst (t.prices.map fr),.lst (t.wishes.map bR),.lst (t.bounds.map fV),.lst (t.weights.map iZ),.str t.word],.tup [.lst (t.prices.map fr),.lst (t.wishes.map bR),.lst (t.bounds.map fV),.lst (t.weights.map iZ)],
 .tup [.lst (t.prices.map fr),.lst (t.wishes.map bR),.lst (t.bounds.map fV),.lst (t.weights.map iZ),.str t.word,.int 1],.tup [.lst (t.prices.map fr),.lst (t.wishes.map bR),.lst (t.bounds.map fV),.lst (t.weights.map iZ),.non]]
theorem al0 {d:D} (h:dN d=true) (hn:∀ a b c e w,d ≠ .tup [a,b,c,e,w]):Bu d:=⟨h,fun a b c e w he=>absurd he (hn a b c e w)⟩
theorem anv {d:D} (hn:∀ a b c e w,d ≠ .tup [a,b,c,e,w]):dU d=some (.non,.non):=by
 unfold dU
 split
 ·exact absurd rfl (hn _ _ _ _ _)
 ·rfl
theorem akm (hn:dU t.d=none):dU (.tup [.lst (t.prices.map fr),.lst (t.wishes.map bR),.lst (t.bounds.map fV),.lst (t.weights.map iZ),.non])=some (.str (PySem.Str.ofString "word"),.non):=by
 unfold Task.d dU at hn
 dsimp only at hn
 unfold dU
 dsimp only
 cases e1:pN (.lst (t.prices.map fr)) with
 | some n=>rw [e1] at hn;cases hn
 | none =>
  rw [e1] at hn
  dsimp only at hn ⊢
  cases e2:pO ((rK (.lst (t.prices.map fr))).length) (.lst (t.wishes.map bR)) with
  | some n=>rw [e2] at hn;cases hn
  | none =>
   rw [e2] at hn
   dsimp only at hn ⊢
   split
   ·rename_i n e3
    rw [e3] at hn
    cases hn
   ·rename_i e3
    rw [e3] at hn
    dsimp only at hn
    split
    ·rename_i n e4
     rw [e4] at hn
     cases hn
    ·rfl
theorem apf (K:gG B t) (l:B<2^25) (hn:dU t.d=none):∀ d∈thL t,Bu d∧∃ x y,dU d=some (x,y):=by
 intro d hd
 unfold thL at hd
 simp only [List.mem_cons,List.not_mem_nil,or_false] at hd
 have no:∀ {d:D},dN d=true→(∀ a b c e w,d ≠ .tup [a,b,c,e,w])→Bu d∧∃ x y,dU d=some (x,y):=fun h1 h2=>⟨al0 h1 h2,_,_,anv h2⟩
 rcases hd with rfl | rfl | rfl | rfl | rfl | rfl | rfl | rfl | rfl
 ·exact no rfl fun a b c e w z=>by cases z
 ·exact no rfl fun a b c e w z=>by cases z
 ·exact no rfl fun a b c e w z=>by cases z
 ·exact no rfl fun a b c e w z=>by cases z
 ·exact no rfl fun a b c e w z=>by injection z with z;cases z
 ·exact no rfl fun a b c e w z=>by cases z
 ·exact no rfl fun a b c e w z=>by injection z with z;injection z with _ z;injection z with _ z;injection z with _ z;injection z with _ z;cases z
 ·exact no rfl fun a b c e w z=>by injection z with z;injection z with _ z;injection z with _ z;injection z with _ z;injection z with _ z;injection z with _ z;cases z
 ·have T:=K.tpt l
  exact ⟨TPT.task (T:={ d9 t with w := .non }) ⟨T.a,T.b,T.c,T.e,rfl⟩,_,_,akm hn⟩
theorem al1 {d:D}:okN 64 (vf (dU d))=true:=by
 cases e:dU d with
 | none=>rfl
 | some z =>
  obtain ⟨x,y⟩:=z
  obtain ⟨h1,h2⟩:=ahh e
  refine List.all_eq_true.mpr fun z hz => ?_
  simp only [List.mem_cons,List.not_mem_nil,or_false] at hz
  rcases hz with rfl | rfl | rfl
  ·exact (by decide +kernel:okN 63 (.str (PySem.Str.ofString "task"))=true)
  ·exact iT (ad2 h1) (by decide)
  ·exact iT (ad2 h2) (by decide)
theorem aoF {W:XD} {r:Sl}:lY (d7 (ao (dC .non) (ao (dC (.int 0)) (ao (dC (.str (PySem.Str.ofString "task"))) (ao (d7 aC) (ao (dTup aC) (ao (bV El (ao (aq 1) aC)) (ao (jU (aq 1) cJ (dR (dC (.int 4)))) (ao (aF cD (aq 1) (dTup (ao (dC (.int 1)) aC))) (ao (aF cD (jU (aq 1) cJ (dR (dC (.int 4)))) (dTup (ao (dC .non) aC))) aC)))))))))) W (some (.dJ ns)::some t.d::r) μ (.lst (thL t)):=by
 have gc:∀ {W:XD} {δ:Sl} {d:D},lY (dC d) W δ μ d:=fun Q q=>q
 have l0:0≤sizeLine:=by decide
 have l1:1≤sizeLine:=by decide
 have l5:5≤sizeLine:=by decide
 refine wJ (aR gc (aR gc (aR gc (aR (wJ fZ l0) (aR (jw fZ l0) (aR (fun Q q => ?_) (aR (fun Q q => ?_) (aR (fun Q q => ?_) (aR (fun Q q => ?_) fZ))))))))) (by show 9≤sizeLine;decide)
 ·simp! only [Task.d]
  exact q
 ·simp! only [Task.d,adY]
  exact q
 ·simp! only [Task.d]
  exact ⟨by decide,(show 6≤sizeLine by decide),q⟩
 ·simp! only [Task.d,adY]
  exact ⟨by decide,(show 5≤sizeLine by decide),q⟩
theorem aqs (K:gG B t) (l:B<2^25) (hn:dU t.d=none) (h:∀ y9,TAIL E [some (.dJ ns),some t.d,some (.raw (.ref a)),some (.int ps.length),x4,x5,x6,x7,some (.lst (thL t)),y9] μ) :
  aJ (l4 C CI CT CW) (aJ (l5 C CI CT CW) TAIL) E [some (.dJ ns),some t.d,some (.raw (.ref a)),some (.int ps.length),x4,x5,x6,x7,x8,x9] μ:=by
 have sz:16777216≤sizeLine:=by decide
 unfold l4
 refine WD aoF ?_
 simp only [List.set_cons_succ,List.set_cons_zero]
 have ok:=apf K l hn
 generalize thL t=L at *
 have e0:L=L.map id:=(List.map_id L).symm
 simp! only [l5]
 rw [e0]
 refine wI (fun pre δ μ'=>μ'=μ∧∃ y9,δ=[some (.dJ ns),some t.d,some (.raw (.ref a)),some (.int ps.length),x4,x5,x6,x7,some (.lst L),y9]) ⟨rfl,x9,by rw [← e0]⟩ ?_ ?_
 ·rintro pre d post δ μ' e ⟨rfl,y9,rfl⟩
  have hd:d∈L:=by rw [e];exact List.mem_append_right _ List.mem_cons_self
  obtain ⟨tt,x,y,hx⟩:=ok d hd
  have hok:okN 64 (vf (dU d))=true:=al1
  rw [hx] at hok
  refine ⟨trivial,?_⟩
  simp! only [id]
  refine ⟨d,rfl,tt,fun z=>(by rw [hx] at z;cases z),?_⟩
  walk_at "r"
  refine ⟨d,rfl,tt,?_⟩
  rw [hx]
  simp! only [vf]
  refine ⟨hok,hok,?_⟩
  rw [zp,zp]
  walk_at "r"
  refine ⟨d,rfl,tt,fun z=>(by rw [hx] at z;cases z),?_⟩
  rw [hx]
  simp! only [vf]
  exact ⟨_,rfl⟩
 ·rintro δ μ' ⟨rfl,y9,rfl⟩
  refine ⟨trivial,?_⟩
  walk_at "r"
  exact h y9
theorem s_end (K:gG B t) (l:B<2^25) (hn:dU t.d=none) (ka:fX C μ a t f q ps) {Q:QD} (hq:Q (.bl true) μ) :
  l6 C CI CT CW (ends Q XF) [some (.dJ ns),some t.d,some (.raw (.ref a)),some (.int ps.length),x4,x5,x6,x7,x8,x9] μ:=by
 have sz:16777216≤sizeLine:=by decide
 have ok:=afD K
 obtain ⟨dx,ins⟩:=ka.ins
 have lk1:=rD (d:=t.d) (f:=f) (p:=q) (x:=PySem.Str.ofString "task") (by decide +kernel) (by decide +kernel) (by decide +kernel)
 simp! only [l6]
 refine ⟨dx,_,ins,lk1,a,t,f,q,ps,rfl,ka,?_⟩
 walk_at "r"
 refine ⟨ok,ok,?_⟩
 rw [zp]
 walk_at "r"
 refine ⟨t.d,rfl,(K.tpt l).task,fun _=>⟨t,rfl,K.p⟩,?_⟩
 rw [hn]
 simp! only [vf]
 exact .of hq
theorem aoG (K:gG B t) (l:B<2^25) (hn:dU t.d=none) (h:∀ a q μ',fX C μ' a t (.lst (t.prices.map fr)) q []→TAIL E [some (.dJ ns),some t.d,some (.raw (.ref a)),some (.int 0),none,none,none,none,none,none] μ') :
  aJ (l1 C CI CT CW) (aJ (l2 C CI CT CW) TAIL) E [some (.dJ ns),some t.d,none,none,none,none,none,none,none,none] μ:=by
 have sz:16777216≤sizeLine:=by decide
 simp! only [l1,DL.Xx,DL.kMk]
 intro x dx hx hdx hne
 have ix:aeO C x dx μ x=some (.ins C dx []):=aP
 refine ⟨x,dx,t.d,rfl,ix,(K.tpt l).task,fun _=>⟨t,rfl,K.p,fun μ' p hp k o => ?_⟩,fun y z e=>(by rw [hn] at e;cases e)⟩
 simp! only [DL.aac,l2]
 exact h x p μ' k
theorem aoH (h:∀ t μ',Fv t→TAIL E [some (.dJ ns),some t.d,none,none,none,none,none,none,none,none] μ') :
  aJ (l0 C CI CT CW) TAIL E [some (.dJ ns),none,none,none,none,none,none,none,none,none] μ:=by
 simp! only [l0]
 refine ⟨ns,0,rfl,by decide,by decide,fun p μ1 hp hP ho => ?_⟩
 walk_at "r"
 refine ⟨p,rfl,hP,fun t μ2 ht h2 o2 => ?_⟩
 walk_at "r"
 exact h t μ2 ht
end
theorem aoI {C CI CT CW:Addr}:HB aeB (aiz C CI CT CW) 10:=by
 intro ds μ Q X h
 obtain ⟨ns,rfl,hl,q⟩:=h
 show aiz C CI CT CW (ends Q XF) [some (.dJ ns),none,none,none,none,none,none,none,none,none] μ
 rw [alX]
 have big:B0+384*100<2^25:=by decide
 have aqt:B0<2^25:=by decide
 refine aoH fun t μ1 ht=>aoG (afv ht) aqt (ahf ht) fun a p μ2 ka=>ape (afv ht) ka (ahf ht) fun t' ps' y4 y5 y6 y7 μ3 ka' K' hn'=>aqs K' big hn' fun y9=>s_end K' big hn' ka' (q _)
end pQ
namespace pQ
open PySem PySem.Spec L2 DL Fr NB KP
local macro_rules | `(tactic| walk_at "len") => `(tactic| (intro ds μ Q X h;first | (obtain ⟨_,_,_,_,⟨_,_,e,_⟩ | ⟨_,_,e,_⟩⟩:=h<;>(subst e;rfl)) | (obtain ⟨_,e,_⟩:=h;subst e;rfl) | (obtain ⟨_,_,e,_⟩:=h;subst e;rfl) | (obtain ⟨_,_,_,e,_⟩:=h;subst e;rfl) | (obtain ⟨_,_,_,_,e,_⟩:=h;subst e;rfl) | (obtain ⟨_,_,_,_,_,e,_⟩:=h;subst e;rfl) | (obtain ⟨_,_,_,_,_,_,e,_⟩:=h;subst e;rfl) | (obtain ⟨_,_,_,_,_,_,_,e,_⟩:=h;subst e;rfl) | (obtain ⟨_,_,_,_,_,_,_,_,e,_⟩:=h;subst e;rfl) | (obtain ⟨_,_,_,_,_,_,_,_,_,e,_⟩:=h;subst e;rfl) | (obtain ⟨_,_,_,_,_,_,_,_,_,_,e,_⟩:=h;subst e;rfl) | (obtain ⟨_,_,_,_,_,_,_,_,_,_,_,e,_⟩:=h;subst e;rfl) | (obtain ⟨_,_,_,_,_,_,_,_,_,_,_,_,e,_⟩:=h;subst e;rfl) | (obtain ⟨e,_⟩:=h;subst e;rfl)))
local macro_rules | `(tactic| walk_at "sc") => `(tactic| exact ⟨rfl,rfl,rfl,by decide +kernel,rfl,by decide +kernel,by decide +kernel⟩)
local macro_rules | `(tactic| walk_at "bn") => `(tactic| (intro _ _ _ _ _ _ us hl;first | (match us,hl with | [],_=>rfl) | (match us,hl with | [_],_=>rfl) | (match us,hl with | [_,_],_=>rfl) | (match us,hl with | [_,_,_],_=>rfl) | (match us,hl with | [_,_,_,_],_=>rfl) | (match us,hl with | [_,_,_,_,_],_=>rfl) | (match us,hl with | [_,_,_,_,_,_],_=>rfl) | (match us,hl with | [_,_,_,_,_,_,_],_=>rfl) | (match us,hl with | [_,_,_,_,_,_,_,_],_=>rfl) | (match us,hl with | [_,_,_,_,_,_,_,_,_],_=>rfl)))
structure Txt (K:PySem.W.Frag) (mg:Str→Option Value) (bB c3' c1' Nb c2':Addr):Prop where
 dG:mg "len" = none
 j5:mg "range" = none
 jH:mg "tuple" = none
 uL:mg "enumerate" = none
 pC:mg "list" = none
 amx:mg "min" = none
 ad3:mg "int" = none
 aaW:mg "zip" = none
 ad4:mg "abs" = none
 cO:mg "isinstance" = none
 akn:mg "bool" = none
 ad5:mg "all" = none
 aiB:mg "sum" = none
 amy:mg "str" = none
 YW:mg "sorted" = none
 amz:mg "max" = none
 afE:mg "ValueError" = none
 vg:KC K mg "NOUGHT_ratios" vg
 mY:KC K mg "MOST_ITEMS" mY
 yO:KC K mg "MOST_PLACES" yO
 Bb:KC K mg "MOST_PAIRS" Bb
 Bc:KC K mg "MOST_HANDS" Bc
 Ey:KC K mg "MOST_ROOM" Ey
 Bf:KC K mg "MOST_WORKS" Bf
 kh:KC K mg "MOST_FLOW" kh
 Bg:KC K mg "MOST_BENCH" Bg
 aal:KC K mg "TIED" aal
 yS:KC K mg "MOST_WISHES" yS
 W3:KC K mg "WORDS" W3
 Ko:akY K mg "NoItem" c3'
 Kr:akY K mg "NoWish" c1'
 Sv:mg "NoTask" = some (.ref bB)
 al2:mg "NoItem" = some (.ref c3')
 al3:mg "NoWish" = some (.ref c1')
 VL:mg "NudgeError" = some (.ref Nb)
 aqu:mg "Keeper" = some (.ref c2')
 Nh:PySem.W.exmOne K (.ref bB) (.ref bB)=some true
 T6:PySem.W.exmOne K (.ref bB) (.ref Nb)=some true
 T7:PySem.W.exmOne K (.ref c3') (.ref Nb)=some true
 T8:PySem.W.exmOne K (.ref c1') (.ref Nb)=some true
 VN:FW K bB
 ako:FW K c3'
 akp:FW K c1'
 YX:PySem.W.kitOne K (.ref bB) (.ref bB)=some true
 YZ:PySem.W.kitOne K (.ref c3') (.ref bB)=some false
 Y0:PySem.W.kitOne K (.ref c3') (.ref c3')=some true
 Y4:PySem.W.kitOne K (.ref c3') (.ref c1')=some false
 Sw:PySem.W.kitOne K (.ref c3') (.type "ValueError")=some true
 Y5:PySem.W.kitOne K (.ref c1') (.ref bB)=some false
 Y6:PySem.W.kitOne K (.ref c1') (.ref c3')=some false
 Y7:PySem.W.kitOne K (.ref c1') (.ref c1')=some true
 Sy:PySem.W.kitOne K (.ref c1') (.type "ValueError")=some true
 al4:OexC K bB
 wX:PySem.W.findIn K (.ref bB) "part" = some none
 tQ:PySem.W.findIn K (.ref bB) "number" = some none
 adw:ahC K Nb
 bU:Cls K c2'
 cZ:NoAttr K c2' "kept"
 aaX:NoAttr K c2' "first"
 DQ:NoAttr K c2' "past"
theorem XM:FnScope ["_law_pool_here","_law_count_of","_law_found"] ["_law_pool_here","_law_count_of"] (defScope GF):=by walk_at "sc"
theorem BL:FnScope ["_law_pool_here","_law_some","_law_found","_law_one"] ["_law_pool_here","_law_some"] (defScope vU):=by walk_at "sc"
theorem mH:FnScope ["_law_pool_here","_law_ties","_law_count_of","_law_limit","_law_found","_law_turn","_law_one","_law_other","_law_tie"] ["_law_pool_here","_law_ties","_law_count_of","_law_limit"] (defScope pU):=by walk_at "sc"
theorem vh:FnScope ["_law_pool_here","_law_count_of","_law_ties","_law_place","_law_other"] ["_law_pool_here","_law_count_of"] (defScope vW):=by walk_at "sc"
theorem dH:FnScope ["_law_pool_here","_law_way","_law_count_of","_law_found","_law_ties","_law_plan","_law_begin","_law_end","_law_row_here","_law_here","_law_counts","_law_thing_at","_law_tie","_law_told"] ["_law_pool_here","_law_way"] (defScope oN):=by walk_at "sc"
theorem eG:FnScope ["_law_pool_here","_law_count_of","_law_rights","_law_found","_law_turn","_law_left","_law_tie","_law_told"] ["_law_pool_here"] (defScope lu):=by walk_at "sc"
theorem d8:FnScope ["_law_pool_here","_law_hands","_law_works","_law_dealt","_law_rooms","_law_plan","_law_hand","_law_work","_law_one"] ["_law_pool_here"] (defScope lA):=by walk_at "sc"
theorem cV:FnScope ["_law_pool_here","_law_count_of","_law_found","_law_ties","_law_rooms","_law_plan","_law_needs","_law_tie","_law_count","_law_told","_law_space"] ["_law_pool_here"] (defScope jA):=by walk_at "sc"
theorem iJ:FnScope ["_law_pool_here","_law_works","_law_lasts","_law_plan","_law_done_here","_law_work"] ["_law_pool_here","_law_works"] (defScope oW):=by walk_at "sc"
theorem XQ:FnScope ["_law_pool_here","_law_way"] ["_law_pool_here"] (defScope GJ):=by walk_at "sc"
theorem gK:FnScope ["_law_pool_here","_law_first","_law_found","_law_count_of","_law_tree","_law_seen","_law_turn","_law_thing_at","_law_tie","_law_place"] ["_law_pool_here"] (defScope vo):=by walk_at "sc"
theorem BP:FnScope ["_law_top","_law_bottom","_law_one","_law_other"] ["_law_top","_law_bottom"] (defScope KY):=by walk_at "sc"
theorem TJ:FnScope ["_law_pool_here","_law_bottom"] ["_law_pool_here"] (defScope zV):=by walk_at "sc"
theorem afF:FnScope ["_law_one","_law_other"] ["_law_one","_law_other"] (defScope Eb):=by walk_at "sc"
theorem agq:FnScope ["_law_one","_law_other"] ["_law_one","_law_other"] (defScope GP):=by walk_at "sc"
theorem nj:FnScope ["_law_pool_here","_law_price","_law_walked","_law_fall","_law_rise","_law_lower","_law_upper"] ["_law_pool_here","_law_price","_law_walked"] (defScope Ec):=by walk_at "sc"
theorem Gr:FnScope ["_law_pool_here","_law_some","_law_fall"] ["_law_pool_here"] (defScope zW):=by walk_at "sc"
theorem fj:FnScope ["_law_pool_here","_law_wishes_here","_law_count_of","_law_walked","_law_prices","_law_tight","_law_bounds","_law_weights","_law_shape","_law_plan","_law_thing_at","_law_price"] ["_law_pool_here"] (defScope mK):=by walk_at "sc"
theorem acj:FnScope ["_law_script","_law_k"] ["_law_script","_law_k"] (defScope yq):=by walk_at "sc"
theorem Fj:FnScope ["_law_script","_law_k","_law_cell","_law_seed"] ["_law_script","_law_k"] (defScope GX):=by walk_at "sc"
theorem agr:FnScope ["thing"] ["thing"] (defScope GZ):=by walk_at "sc"
theorem Nk:FnScope ["one","other"] ["one","other"] (defScope Qv):=by walk_at "sc"
theorem acn:FnScope ["thing"] ["thing"] (defScope yr):=by walk_at "sc"
theorem xH:FnScope ["prices","number","price"] ["prices"] (defScope su):=by walk_at "sc"
theorem afG:FnScope ["thing","least","most"] ["thing","least","most"] (defScope Ed):=by walk_at "sc"
theorem Gu:FnScope ["thing","many","least","most","one"] ["thing","many","least","most"] (defScope vp):=by walk_at "sc"
theorem XR:FnScope ["thing","many","unlike","tie"] ["thing","many","unlike"] (defScope G3):=by walk_at "sc"
theorem akq:FnScope ["thing","size"] ["thing","size"] (defScope Qw):=by walk_at "sc"
theorem akr:FnScope ["thing"] ["thing"] (defScope Qx):=by walk_at "sc"
theorem aiC:FnScope ["thing"] ["thing"] (defScope KZ):=by walk_at "sc"
theorem aiD:FnScope ["thing"] ["thing"] (defScope K6):=by walk_at "sc"
theorem afH:FnScope ["thing"] ["thing"] (defScope Ef):=by walk_at "sc"
theorem ags:FnScope ["thing"] ["thing"] (defScope G4):=by walk_at "sc"
theorem agt:FnScope ["thing"] ["thing"] (defScope G5):=by walk_at "sc"
theorem agu:FnScope ["shape"] ["shape"] (defScope G6):=by walk_at "sc"
theorem Gv:FnScope ["thing","many","count"] ["thing","many"] (defScope vq):=by walk_at "sc"
theorem ou:FnScope ["shape","plan","needs","tie","room","count"] ["shape","plan"] (defScope sE):=by walk_at "sc"
theorem pD:FnScope ["shape","plan","done","count","last"] ["shape","plan"] (defScope uM):=by walk_at "sc"
theorem Nm:FnScope ["shape","plan","tie","count"] ["shape","plan"] (defScope Jj):=by walk_at "sc"
theorem mJ:FnScope ["shape","plan","here","left","been","onward","tie"] ["shape","plan"] (defScope tR):=by walk_at "sc"
theorem qD:FnScope ["many","ties","begin","found","at","one","other","here","there"] ["many","ties","begin"] (defScope K7):=by walk_at "sc"
theorem Np:FnScope ["shape","plan","ties"] ["shape","plan"] (defScope vX):=by walk_at "sc"
theorem lK:FnScope ["shape","plan","ties","places","tie"] ["shape","plan"] (defScope oO):=by walk_at "sc"
theorem iW:FnScope ["shape","plan","rooms","works","work","loads","hand","load","room"] ["shape","plan"] (defScope oR):=by walk_at "sc"
theorem aiE:FnScope ["shape","thing"] ["shape","thing"] (defScope K8):=by walk_at "sc"
theorem aiF:FnScope ["thing","many"] ["thing","many"] (defScope K9):=by walk_at "sc"
theorem xJ:FnScope ["wishes","many","number","wish"] ["wishes","many"] (defScope sG):=by walk_at "sc"
theorem aiG:FnScope ["thing"] ["thing"] (defScope La):=by walk_at "sc"
theorem al5:FnScope ["one","other"] ["one","other"] (defScope V6):=by walk_at "sc"
theorem Ol:FnScope ["thing","price","walked","low","high"] ["thing","price","walked"] (defScope G7):=by walk_at "sc"
theorem xK:FnScope ["bounds","prices","walked","number","bound"] ["bounds","prices","walked"] (defScope sH):=by walk_at "sc"
theorem Iw:FnScope ["wishes","shape","plan"] ["wishes"] (defScope Fp):=by walk_at "sc"
theorem Ks:FnScope ["thing","one"] ["thing"] (defScope xP):=by walk_at "sc"
theorem vR:FnScope ["weights","many","number","weight"] ["weights","many"] (defScope qW):=by walk_at "sc"
theorem nO:FnScope ["thing","prices","wishes","bounds","weights","word"] ["thing"] (defScope vY):=by walk_at "sc"
theorem qF:FnScope ["task","prices","wishes","bounds","weights","word","shape","plan"] ["task"] (defScope Jk):=by walk_at "sc"
theorem VP:FnScope ["self","task"] ["self","task"] (defScope qX):=by walk_at "sc"
theorem BR:FnScope ["_law_pool_here","_law_lasts","_law_found","_law_done_here","_law_work"] ["_law_pool_here","_law_lasts"] (defScope Ld):=by walk_at "sc"
theorem dZ:FnScope ["_law_task_here","_law_pool_here","_law_prices","_law_wishes_here","_law_bounds","_law_weights","_law_word","_law_at","_law_lower","_law_upper","_law_way","_law_some","_law_less_here","_law_other","_law_fall","_law_rise","_law_number_here","_law_shape","_law_plan","_law_one"] ["_law_task_here","_law_pool_here"] (defScope zX):=by walk_at "sc"
theorem yV:FnScope ["_law_task_here","_law_kept","e"] ["_law_task_here"] (defScope zY):=by walk_at "sc"
theorem nW:FnScope ["_law_task_here","_law_deed_here","_law_prices","_law_wishes_here","_law_bounds","_law_weights","_law_word","_law_at"] ["_law_task_here","_law_deed_here"] (defScope z8):=by walk_at "sc"
theorem Om:FnScope ["self","item"] ["self","item"] (defScope nA):=by walk_at "sc"
theorem Y8:FnScope ["self","task"] ["self","task"] (defScope uN):=by walk_at "sc"
theorem afI:FnScope ["some","number","one"] ["some","number","one"] (defScope Eh):=by walk_at "sc"
theorem aaY:FnScope ["self","item","price"] ["self","item","price"] (defScope vZ):=by walk_at "sc"
theorem aaZ:FnScope ["self","item","low","high"] ["self","item","low","high"] (defScope v7):=by walk_at "sc"
theorem aa0:FnScope ["self","item","down","up"] ["self","item","down","up"] (defScope v8):=by walk_at "sc"
theorem Qi:FnScope ["self","number","plan","wishes"] ["self","number","plan"] (defScope yt):=by walk_at "sc"
theorem afJ:FnScope ["self","word"] ["self","word"] (defScope Ei):=by walk_at "sc"
theorem agv:FnScope ["_law_keeper","_law_deed_here"] ["_law_keeper","_law_deed_here"] (defScope G8):=by walk_at "sc"
theorem aiH:FnScope ["_law_pool_here","_law_count_of"] ["_law_pool_here","_law_count_of"] (defScope Le):=by walk_at "sc"
theorem jT:FnScope ["_law_task_here","_law_pool_here","_law_odd_here","_law_wish_here","_law_thing","_law_at","_law_price","_law_some"] ["_law_task_here","_law_pool_here"] (defScope z9):=by walk_at "sc"
theorem Y9:FnScope ["_law_thing","_law_count_of"] ["_law_thing","_law_count_of"] (defScope uO):=by walk_at "sc"
theorem aiI:FnScope ["_law_task_here","_law_deed_here"] ["_law_task_here","_law_deed_here"] (defScope Lf):=by walk_at "sc"
theorem qP:FnScope ["_law_keeper","_law_deed_here","_law_kept","_law_told","e","_law_kinds"] ["_law_keeper","_law_deed_here"] (defScope G9):=by walk_at "sc"
theorem aco:FnScope ["self"] ["self"] (defScope yu):=by walk_at "sc"
theorem aa1:FnScope ["self"] ["self"] (defScope v9):=by walk_at "sc"
theorem Fl:FnScope ["_law_thing","_law_kept","e"] ["_law_thing"] (defScope Hf):=by walk_at "sc"
theorem rN:FnScope ["_law_script","_law_task_here","_law_keeper","_law_stood","_law_k","_law_pool_here","_law_deed_here","_law_due_here","_law_things","_law_thing"] ["_law_script"] (defScope Zm):=by walk_at "sc"
section
variable (P:Program) (w:World) (K:PySem.W.Frag) (mg:Str→Option Value) (base:Heap) (bB c3' c1' Nb c2':Addr)
abbrev fJ:Prop:=dW P w K mg base CX0 "_law_take" "_law_take" GF 1 ["_law_pool_here","_law_count_of"] cQ
abbrev oV:Prop:=dW P w K mg base CX0 "_law_shuffled" "_law_shuffled" vU 2 ["_law_pool_here","_law_some"] qu
abbrev BW:Prop:=dW P w K mg base CX0 "_law_more_ties" "_law_more_ties" pU 3 ["_law_pool_here","_law_ties","_law_count_of","_law_limit"] Eu
abbrev DR:Prop:=dW P w K mg base CX0 "_law_spanning" "_law_spanning" vW 2 ["_law_pool_here","_law_count_of"] Ig
abbrev Ql:Prop:=dW P w K mg base CX0 "_law_web_wish" "_law_web_wish" oN 4 ["_law_pool_here","_law_way"] Ih
abbrev Nq:Prop:=dW P w K mg base CX0 "_law_pair_wish" "_law_pair_wish" lu 3 ["_law_pool_here"] jX
abbrev Nr:Prop:=dW P w K mg base CX0 "_law_deal_wish" "_law_deal_wish" lA 2 ["_law_pool_here"] jX
abbrev Gy:Prop:=dW P w K mg base CX0 "_law_stream_wish" "_law_stream_wish" jA 4 ["_law_pool_here"] jX
abbrev zE:Prop:=dW P w K mg base CX0 "_law_bench_wish" "_law_bench_wish" oW 3 ["_law_pool_here","_law_works"] Av
abbrev aa2:Prop:=dW P w K mg base CX0 "_law_wish" "_law_wish" GJ 5 ["_law_pool_here"] jX
abbrev VR:Prop:=dW P w K mg base CX0 "_law_wishes" "_law_wishes" vo 6 ["_law_pool_here"] YF
abbrev Nt:Prop:=dW P w K mg base CX0 "_law_low" "_law_low" KY 1 ["_law_top","_law_bottom"] aaf
abbrev BX:Prop:=dW P w K mg base CX0 "_law_number" "_law_number" zV 2 ["_law_pool_here"] sY
abbrev Fo:Prop:=dW P w K mg base CX0 "_law_minus" "_law_minus" Eb 2 ["_law_one","_law_other"] Pj
abbrev SJ:Prop:=dW P w K mg base CX0 "_law_plus" "_law_plus" GP 2 ["_law_one","_law_other"] Ux
abbrev XS:Prop:=dW P w K mg base CX0 "_law_bound" "_law_bound" Ec 3 ["_law_pool_here","_law_price","_law_walked"] ab3
abbrev Ku:Prop:=dW P w K mg base CX0 "_law_weight" "_law_weight" zW 2 ["_law_pool_here"] RB
abbrev aa3:Prop:=dW P w K mg base CX0 "_law_task" "_law_task" mK 7 ["_law_pool_here"] aaq
abbrev TQ:Prop:=dW P w K mg base CX0 "_law_cell_at" "_law_cell_at" yq 1 ["_law_script","_law_k"] Uy
abbrev aa4:Prop:=dW P w K mg base CX0 "_law_pool" "_law_pool" GX 2 ["_law_script","_law_k"] Pk
abbrev wY:Prop:=dW P w K mg base CX0 "is_whole" "is_whole" GZ 1 ["thing"] qw
abbrev afK:Prop:=dW P w K mg base CX0 "shared" "shared" Qv 1 ["one","other"] Yr
abbrev yW:Prop:=dW P w K mg base CX0 "is_fraction" "is_fraction" yr 2 ["thing"] uo
abbrev Kv:Prop:=dW P w K mg base (L2.CX P w) "look_at_prices" "look_at_prices" su 3 ["prices"] (Gj bB)
abbrev yg:Prop:=dW P w K mg base CX0 "is_within" "is_within" Ed 2 ["thing","least","most"] uD
abbrev rO:Prop:=dW P w K mg base CX0 "are_within" "are_within" vp 3 ["thing","many","least","most"] mX
abbrev SM:Prop:=dW P w K mg base CX0 "are_ties" "are_ties" G3 4 ["thing","many","unlike"] Ij
abbrev SN:Prop:=dW P w K mg base CX0 "is_web" "is_web" Qw 5 ["thing","size"] JN
abbrev afL:Prop:=dW P w K mg base CX0 "is_way" "is_way" Qx 6 ["thing"] Yz
abbrev ac2:Prop:=dW P w K mg base CX0 "is_pair" "is_pair" KZ 5 ["thing"] U6
abbrev ac3:Prop:=dW P w K mg base CX0 "is_deal" "is_deal" K6 4 ["thing"] U7
abbrev X3:Prop:=dW P w K mg base CX0 "is_stream" "is_stream" Ef 6 ["thing"] Oc
abbrev aa5:Prop:=dW P w K mg base CX0 "is_bench" "is_bench" G4 4 ["thing"] Rq
abbrev aa6:Prop:=dW P w K mg base CX0 "is_shape" "is_shape" G5 7 ["thing"] Rr
abbrev SQ:Prop:=dW P w K mg base CX0 "items_of" "items_of" G6 1 ["shape"] Io
abbrev V1:Prop:=dW P w K mg base CX0 "are_counts" "are_counts" vq 2 ["thing","many"] JX
abbrev Kw:Prop:=dW P w K mg base CX0 "is_stream_plan" "is_stream_plan" sE 1 ["shape","plan"] zA
abbrev Nu:Prop:=dW P w K mg base CX0 "is_bench_plan" "is_bench_plan" uM 1 ["shape","plan"] Bq
abbrev S7:Prop:=dW P w K mg base CX0 "chosen" "chosen" Jj 1 ["shape","plan"] JZ
abbrev TV:Prop:=dW P w K mg base CX0 "is_way_plan" "is_way_plan" tR 2 ["shape","plan"] Gh
abbrev ac4:Prop:=dW P w K mg base CX0 "come_to" "come_to" K7 1 ["many","ties","begin"] Vf
abbrev Qm:Prop:=dW P w K mg base CX0 "is_tree_plan" "is_tree_plan" vX 2 ["shape","plan"] Df
abbrev Qn:Prop:=dW P w K mg base CX0 "is_pair_plan" "is_pair_plan" oO 2 ["shape","plan"] Dg
abbrev Qo:Prop:=dW P w K mg base CX0 "is_deal_plan" "is_deal_plan" oR 1 ["shape","plan"] Dh
abbrev ac5:Prop:=dW P w K mg base CX0 "is_plan" "is_plan" K8 3 ["shape","thing"] Vg
abbrev ac6:Prop:=dW P w K mg base CX0 "is_wish" "is_wish" K9 8 ["thing","many"] Vm
abbrev Ky:Prop:=dW P w K mg base (L2.CX P w) "look_at_wishes" "look_at_wishes" sG 9 ["wishes","many"] (Gk bB)
abbrev ac7:Prop:=dW P w K mg base CX0 "is_side" "is_side" La 3 ["thing"] MP
abbrev acp:Prop:=dW P w K mg base CX0 "under" "under" V6 1 ["one","other"] Jd
abbrev aa7:Prop:=dW P w K mg base CX0 "is_bound" "is_bound" G7 4 ["thing","price","walked"] RN
abbrev Kz:Prop:=dW P w K mg base (L2.CX P w) "look_at_bounds" "look_at_bounds" sH 5 ["bounds","prices","walked"] (Gm bB)
abbrev ac8:Prop:=dW P w K mg base CX0 "has_way" "has_way" Fp 1 ["wishes"] Vp
abbrev X4:Prop:=dW P w K mg base CX0 "is_weight" "is_weight" xP 3 ["thing"] Og
abbrev GD:Prop:=dW P w K mg base (L2.CX P w) "look_at_weights" "look_at_weights" qW 4 ["weights","many"] (Dq bB)
abbrev wZ:Prop:=dW P w K mg base (L2.CX P w) "look_at_task" "look_at_task" vY 10 ["thing"] (Vs bB)
abbrev S8:Prop:=dW P w K mg base CX0 "copied" "copied" Jk 1 ["task"] Fx
abbrev xM:Prop:=adT P w K mg base (L2.CX P w) "Keeper" c2' "Keeper.__init__" qX 12 ["self","task"] (Qa c2' bB)
abbrev ac9:Prop:=dW P w K mg base CX0 "_law_row" "_law_row" Ld 3 ["_law_pool_here","_law_lasts"] aaQ
abbrev aa8:Prop:=dW P w K mg base CX0 "_law_deed" "_law_deed" zX 4 ["_law_task_here","_law_pool_here"] aaR
abbrev KD:Prop:=dW P w K mg base CX0 "_law_looked" "_law_looked" zY 12 ["_law_task_here"] vO
abbrev KH:Prop:=dW P w K mg base CX0 "_law_behind" "_law_behind" z8 1 ["_law_task_here","_law_deed_here"] vP
abbrev nQ:Prop:=wM P w K mg base (L2.CX P w) c2' "look_at_item" "Keeper.look_at_item" nA 2 ["self","item"] (P0 c2' c3')
abbrev nR:Prop:=wM P w K mg base (L2.CX P w) c2' "become" "Keeper.become" uN 12 ["self","task"] (vL c2' bB)
abbrev yh:Prop:=dW P w K mg base CX0 "with_part" "with_part" Eh 1 ["some","number","one"] wV
abbrev Qp:Prop:=wM P w K mg base (L2.CX P w) c2' "price" "Keeper.price" vZ 13 ["self","item","price"] (RW c2' c3' bB)
abbrev Qq:Prop:=abV P w K mg base (L2.CX P w) c2' "bound" "Keeper.bound" v7 13 ["self","item","low","high"] [V.non,V.non] (tK c2' c3' bB)
abbrev Qs:Prop:=abV P w K mg base (L2.CX P w) c2' "weigh" "Keeper.weigh" v8 13 ["self","item","down","up"] [] (RX c2' c3' bB)
abbrev TX:Prop:=wM P w K mg base (L2.CX P w) c2' "wish" "Keeper.wish" yt 13 ["self","number","plan"] (W7 c2' bB c1')
abbrev X5:Prop:=wM P w K mg base (L2.CX P w) c2' "by" "Keeper.by" Ei 13 ["self","word"] (adX c2' bB)
abbrev S9:Prop:=dW P w K mg base (L2.CX P w) "_law_done" "_law_done" G8 14 ["_law_keeper","_law_deed_here"] (Vz c2' c3' bB c1')
abbrev ac':Prop:=dW P w K mg base CX0 "_law_odd" "_law_odd" Le 2 ["_law_pool_here","_law_count_of"] Xb
abbrev V2:Prop:=dW P w K mg base CX0 "_law_spoilt" "_law_spoilt" z9 3 ["_law_task_here","_law_pool_here"] R9
abbrev Nv:Prop:=dW P w K mg base CX0 "_law_is_number" "_law_is_number" uO 1 ["_law_thing","_law_count_of"] Nf
abbrev ada:Prop:=dW P w K mg base CX0 "_law_due" "_law_due" Lf 13 ["_law_task_here","_law_deed_here"] Xc
abbrev aa9:Prop:=dW P w K mg base CX0 "_law_kind" "_law_kind" G9 15 ["_law_keeper","_law_deed_here"] (FJ c2')
abbrev TY:Prop:=wM P w K mg base CX0 c2' "task" "Keeper.task" yu 10 ["self"] (Jh c2')
abbrev Qt:Prop:=wM P w K mg base CX0 c2' "deeds" "Keeper.deeds" v9 1 ["self"] (R3 c2')
abbrev aa':Prop:=dW P w K mg base CX0 "_law_made" "_law_made" Hf 14 ["_law_thing"] FP
abbrev apg:Prop:=dW P w K mg base CX0 "law" "law" Zm 16 ["_law_script"] aeB
end
theorem aiJ:FnScope ["self","part","number"] ["self","part","number"] (defScope Lg):=⟨rfl,rfl,rfl,by decide +kernel,rfl,by decide +kernel,by decide +kernel⟩
theorem aks {P:Program} {w:World} {K:PySem.W.Frag} {mg:Str→Option Value} {base:Heap} {bB c3' c1' Nb c2':Addr} {f:Addr} {fd:FuncData} (T:Txt K mg bB c3' c1' Nb c2') (F:Fun K "__init__" "NoTask.__init__" Lg f fd) (bn:Binds K fd ["self","part","number"] []) (iC:PySem.W.findIn K (.ref bB) "__init__" = some (some (.ref f))) (tI:PySem.W.typeIn K (.ref f)=some (.type "function")):Uv P w K mg base "NoTask" bB ["part","number"] :=
 aoX (m:="no task") T.al4 T.Sv (fun f hf=>by simp only [List.mem_cons,List.not_mem_nil,or_false] at hf;rcases hf with rfl | rfl;exact T.wX;exact T.tQ) iC tI F bn aiJ rfl rfl (fun cdv A outer s H E=>(pss_cons (ps_expr (ahD T.adw rfl T.VL (pa_cons (pe_var (i:=0) rfl (Or.inl rfl)) (pa_cons pe_str pa_nil)))) (pss_cons (ps_ost (pe_var (i:=0) rfl (Or.inl rfl)) (pe_var (i:=1) rfl (Or.inl rfl))) (pss_one (ps_ost (pe_var (i:=0) rfl (Or.inl rfl)) (pe_var (i:=2) rfl (Or.inl rfl)))))))
section
variable {P:Program} {w:World} {K:PySem.W.Frag} {mg:Str→Option Value} {base:Heap} {bB c3' c1' Nb c2':Addr} (T:Txt K mg bB c3' c1' Nb c2')
include T
theorem agw (L:Here P w K mg base "_law_take" GF)  : fJ P w K mg base:=L.eZ XM (by walk_at "len") (af3) (fun f cdv A outer s H E hr =>
 (aD (bG (Wb (aK (ak 0) aA) aA) (aD (aQ (i:=2) XM.nd (tV (aK (ak 0) aA) (ak 1)))
  (aD (sO (V9 (aK (ak 0) aA) (ak 1)) (ak 0) aA)
  (aG (aM (ak 2))))) aU)
  (aD (sO (tV (bO (jW (aK (ak 0) aA) aA) aA) aA) (ak 0) aA)
  (aG (aM (tV (V9 (tV (jW (aK (ak 0) aA) (aK (ak 0) aA)) aA) aA) (ak 1))))))) (by walk_at "bn")
theorem abb (L:Here P w K mg base "_law_shuffled" vU) (aV:fJ P w K mg base):oV P w K mg base:=L.eZ BL (by walk_at "len") (aag) (fun f cdv A outer s H E hr =>
 (aD (aQ (i:=2) BL.nd (Cm au))
  (aD (je PassesOwn.never (fK (ak 1)) (cH 3 BL.nd) aO (aG (fL (FT PySem.F.slot_list_insert PySem.F.type_list_insert mt_insert akV (ak 2) (aj (aH aV (hr.mono (by decide)) bD (aj (ak 0) (aj (bO (aY call_len dF T.dG (by decide +kernel) (aj (ak 2) au)) aA) au))) (aj (ak 3) au))))))
  (aG (aM (Ac (ak 2))))))) (by walk_at "bn")
theorem Za (L:Here P w K mg base "_law_more_ties" pU) (aV:fJ P w K mg base) (iI:oV P w K mg base):BW P w K mg base:=L.eZ mH (by walk_at "len") (Yt) (fun f cdv A outer s H E hr =>
 (aD (acJ (i:=4) (own:=[("_law_tie",8)]) mH.nd (fK (ak 1)) (blkOk_by (N:=["_law_pool_here","_law_ties","_law_count_of","_law_limit","_law_found","_law_turn","_law_one","_law_other","_law_tie"]) (sc:=defScope pU) (by decide +kernel)) aO (cR (by decide)) (fun _ _ _ _ _=>(cH 8 mH.nd)) (fun _ _ _ _ _=>fG) (fun _ _ _ _ _=>(bf (aj (ak 8) (aj aA au)))) (sw_true rfl rfl rfl (by decide +kernel)))
  (aD (je PassesOwn.never (mV T.j5 (aj (aH aV (hr.mono (by decide)) bD (aj (ak 0) (aj (bO (ak 3) aA) au))) au)) (cH 5 mH.nd) aO (aD (aQ (i:=6) mH.nd (aH aV (hr.mono (by decide)) bD (aj (ak 0) (aj (ak 2) au))))
  (aD (aQ (i:=7) mH.nd (tV (bO (bO (ak 6) aA) (aH aV (hr.mono (by decide)) bD (aj (ak 0) (aj (rE (ak 2) aA) au)))) (ak 2)))
  (aG (fL (FT PySem.F.slot_list_append PySem.F.type_list_append mt_append vC (ak 4) (aj (bf (aj (bf (aj (ak 6) (aj (ak 7) au))) (aj aA au))) au)))))))
  (aG (aM (aH iI (hr.mono (by decide)) bD (aj (ak 0) (aj (Ac (ak 4)) au)))))))) (by walk_at "bn")
theorem abd (L:Here P w K mg base "_law_spanning" vW) (aV:fJ P w K mg base):DR P w K mg base:=L.eZ vh (by walk_at "len") (aah) (fun f cdv A outer s H E hr =>
 (aD (aQ (i:=2) vh.nd (Cm au))
  (aD (je PassesOwn.never (acG T.j5 (aj aA (aj (ak 1) au))) (cH 3 vh.nd) aO (aD (aQ (i:=4) vh.nd (aH aV (hr.mono (by decide)) bD (aj (ak 0) (aj (ak 3) au))))
  (aG (fL (FT PySem.F.slot_list_append PySem.F.type_list_append mt_append vC (ak 2) (aj (aK (cX (aj (bf (aj (ak 3) (aj (ak 4) au))) (aj (bf (aj (ak 4) (aj (ak 3) au))) au))) (aH aV (hr.mono (by decide)) bD (aj (ak 0) (aj aA au)))) au))))))
  (aG (aM (Ac (ak 2))))))) (by walk_at "bn")
theorem abe (L:Here P w K mg base "_law_web_wish" oN) (aV:fJ P w K mg base) (BZ:BW P w K mg base) (DY:DR P w K mg base):Ql P w K mg base:=L.eZ dH (by walk_at "len") (aai) (fun f cdv A outer s H E hr =>
 (aD (aQ (i:=2) dH.nd (bO aA (aH aV (hr.mono (by decide)) bD (aj (ak 0) (aj aA au)))))
  (aD (aQ (i:=3) dH.nd (aH BZ (hr.mono (by decide)) bD (aj (ak 0) (aj (aH DY (hr.mono (by decide)) bD (aj (ak 0) (aj (ak 2) au))) (aj (ak 2) (aj aA au))))))
  (aD (aQ (i:=4) dH.nd (lN call_tuple_of zH T.jH (by decide +kernel) (aj (pF (own:=[("_law_tie",12),("_law_told",13)]) dH.nd (fK (ak 3)) (blkOk_by (N:=["_law_pool_here","_law_way","_law_count_of","_law_found","_law_ties","_law_plan","_law_begin","_law_end","_law_row_here","_law_here","_law_counts","_law_thing_at","_law_tie","_law_told"]) (sc:=defScope oN) (by decide +kernel)) (fQ (bx aO (bx aO fP)) (bA (bA fU))) (xY (jc (cR (by decide)) (jc (cR (by decide)) xX))) (fun _ _ _ _ _=>(pg_tup rfl (pgs_cons (cH 12 dH.nd) (pgs_cons (cH 13 dH.nd) pgs_nil)))) (fun _ _ _ _ _=>fG) (fun _ _ _ _ _=>(ak 12))) au)))
  (aD (qI (i:=5) (own:=[("_law_tie",12),("_law_told",13)]) dH.nd (fK (ak 3)) (blkOk_by (N:=["_law_pool_here","_law_way","_law_count_of","_law_found","_law_ties","_law_plan","_law_begin","_law_end","_law_row_here","_law_here","_law_counts","_law_thing_at","_law_tie","_law_told"]) (sc:=defScope oN) (by decide +kernel)) (fQ (bx aO (bx aO fP)) (bA (bA fU))) (xY (jc (cR (by decide)) (jc (cR (by decide)) xX))) (fun _ _ _ _ _=>(pg_tup rfl (pgs_cons (cH 12 dH.nd) (pgs_cons (cH 13 dH.nd) pgs_nil)))) (fun _ _ _ _ _=>fG) (fun _ _ _ _ _=>(ak 13)) (sw_true rfl rfl rfl (by decide +kernel)))
  (aD (bG (fB hr (ak 1) aA) (aG (aM (bf (aj (bf (aj bK (aj (ak 2) (aj (ak 4) au)))) (aj (ak 5) au))))) aU)
  (aD (aQ (i:=6) dH.nd (aH aV (hr.mono (by decide)) bD (aj (ak 0) (aj (ak 2) au))))
  (aD (aQ (i:=7) dH.nd (tV (bO (bO (ak 6) aA) (aH aV (hr.mono (by decide)) bD (aj (ak 0) (aj (rE (ak 2) aA) au)))) (ak 2)))
  (aD (aQ (i:=8) dH.nd (Cm (aj (bf (aj (ak 6) (aj (jW (cX (aj aA au)) (aY call_len dF T.dG (by decide +kernel) (aj (ak 4) au))) au))) au)))
  (aD (Jw PassesOwn.never (j7 hr (aK (aK (ak 8) aA) aA) (ak 7)) (aD (xU (FT PySem.F.slot_list_pop PySem.F.type_list_pop mt_popAt anL (ak 8) (aj aA au)) (pg_tup rfl (pgs_cons (cH 9 dH.nd) (pgs_cons (cH 10 dH.nd) pgs_nil))) (fQ (bx aO (bx aO fP)) (bA (bA fU))))
  (aG (je PassesOwn.never (Jb T.uL (aj (ak 4) au)) (pg_tup rfl (pgs_cons (cH 11 dH.nd) (pgs_cons (cH 12 dH.nd) pgs_nil))) (fQ (bx aO (bx aO fP)) (bA (bA fU))) (aG (bG (DW.dt (tW (fB hr (aK (ak 5) (ak 11)) aA) (tW (adJ (ak 9) (ak 12)) (rF (fB hr (aK (ak 10) (ak 11)) aA))))) (aG (fL (FT PySem.F.slot_list_append PySem.F.type_list_append mt_append vC (ak 8) (aj (bf (aj (rE (bO (aK (ak 12) aA) (aK (ak 12) aA)) (ak 9)) (aj (bO (bO (gD (ak 10) dY (dI (ak 11))) (cX (aj aA au))) (gD (ak 10) (dI (bO (ak 11) aA)) dY)) au))) au)))) aU))))))
  (aG (aM (bf (aj (bf (aj bK (aj (ak 2) (aj (ak 4) (aj (ak 6) (aj (ak 7) au)))))) (aj (aK (aK (ak 8) aA) aA) au))))))))))))))) (by walk_at "bn")
theorem Zb (L:Here P w K mg base "_law_pair_wish" lu) (aV:fJ P w K mg base) (iI:oV P w K mg base):Nq P w K mg base:=L.eZ eG (by walk_at "len") (Yu) (fun f cdv A outer s H E hr =>
 (aD (aQ (i:=1) eG.nd (bO aA (aH aV (hr.mono (by decide)) bD (aj (ak 0) (aj aA au)))))
  (aD (aQ (i:=2) eG.nd (aH iI (hr.mono (by decide)) bD (aj (ak 0) (aj (ZR ZQ T.pC T.j5 (ak 1)) au))))
  (aD (acJ (i:=3) (own:=[("_law_left",5)]) eG.nd (mV T.j5 (aj (ak 1) au)) (blkOk_by (N:=["_law_pool_here","_law_count_of","_law_rights","_law_found","_law_turn","_law_left","_law_tie","_law_told"]) (sc:=defScope lu) (by decide +kernel)) aO (cR (by decide)) (fun _ _ _ _ _=>(cH 5 eG.nd)) (fun _ _ _ _ _=>fG) (fun _ _ _ _ _=>(bf (aj (bf (aj (ak 5) (aj (aK (ak 2) (ak 5)) au))) (aj aA au)))) (sw_true rfl rfl rfl (by decide +kernel)))
  (aD (je PassesOwn.never (mV T.j5 (aj (aH aV (hr.mono (by decide)) bD (aj (ak 0) (aj aA au))) au)) (cH 4 eG.nd) aO (aG (fL (FT PySem.F.slot_list_append PySem.F.type_list_append mt_append vC (ak 3) (aj (bf (aj (bf (aj (aH aV (hr.mono (by decide)) bD (aj (ak 0) (aj (ak 1) au))) (aj (aH aV (hr.mono (by decide)) bD (aj (ak 0) (aj (ak 1) au))) au))) (aj aA au))) au)))))
  (aD (aQ (i:=3) eG.nd (aH iI (hr.mono (by decide)) bD (aj (ak 0) (aj (Ac (ak 3)) au))))
  (aG (aM (bf (aj (bf (aj bK (aj (ak 1) (aj (lN call_tuple_of zH T.jH (by decide +kernel) (aj (pF (own:=[("_law_tie",6),("_law_told",7)]) eG.nd (fK (ak 3)) (blkOk_by (N:=["_law_pool_here","_law_count_of","_law_rights","_law_found","_law_turn","_law_left","_law_tie","_law_told"]) (sc:=defScope lu) (by decide +kernel)) (fQ (bx aO (bx aO fP)) (bA (bA fU))) (xY (jc (cR (by decide)) (jc (cR (by decide)) xX))) (fun _ _ _ _ _=>(pg_tup rfl (pgs_cons (cH 6 eG.nd) (pgs_cons (cH 7 eG.nd) pgs_nil)))) (fun _ _ _ _ _=>fG) (fun _ _ _ _ _=>(ak 6))) au)) au)))) (aj (pF (own:=[("_law_tie",6),("_law_told",7)]) eG.nd (fK (ak 3)) (blkOk_by (N:=["_law_pool_here","_law_count_of","_law_rights","_law_found","_law_turn","_law_left","_law_tie","_law_told"]) (sc:=defScope lu) (by decide +kernel)) (fQ (bx aO (bx aO fP)) (bA (bA fU))) (xY (jc (cR (by decide)) (jc (cR (by decide)) xX))) (fun _ _ _ _ _=>(pg_tup rfl (pgs_cons (cH 6 eG.nd) (pgs_cons (cH 7 eG.nd) pgs_nil)))) (fun _ _ _ _ _=>fG) (fun _ _ _ _ _=>(ak 7))) au))))))))))) (by walk_at "bn")
theorem Zd (L:Here P w K mg base "_law_deal_wish" lA) (aV:fJ P w K mg base):Nr P w K mg base:=L.eZ d8 (by walk_at "len") (Yv) (fun f cdv A outer s H E hr =>
 (aD (aQ (i:=1) d8.nd (bO aA (aH aV (hr.mono (by decide)) bD (aj (ak 0) (aj aA au)))))
  (aD (aQ (i:=2) d8.nd (bO aA (aH aV (hr.mono (by decide)) bD (aj (ak 0) (aj (aK (cX (aj aA (aj aA (aj aA au)))) (rE (ak 1) aA)) au)))))
  (aD (aQ (i:=3) d8.nd (pF (own:=[("_law_work",7)]) d8.nd (mV T.j5 (aj (ak 2) au)) (blkOk_by (N:=["_law_pool_here","_law_hands","_law_works","_law_dealt","_law_rooms","_law_plan","_law_hand","_law_work","_law_one"]) (sc:=defScope lA) (by decide +kernel)) aO (cR (by decide)) (fun _ _ _ _ _=>(cH 7 d8.nd)) (fun _ _ _ _ _=>fG) (fun _ _ _ _ _=>(aH aV (hr.mono (by decide)) bD (aj (ak 0) (aj (ak 1) au))))))
  (aD (aQ (i:=4) d8.nd (lN call_tuple_of zH T.jH (by decide +kernel) (aj (pF (own:=[("_law_hand",6)]) d8.nd (mV T.j5 (aj (ak 1) au)) (blkOk_by (N:=["_law_pool_here","_law_hands","_law_works","_law_dealt","_law_rooms","_law_plan","_law_hand","_law_work","_law_one"]) (sc:=defScope lA) (by decide +kernel)) aO (cR (by decide)) (fun _ _ _ _ _=>(cH 6 d8.nd)) (fun _ _ _ _ _=>fG) (fun _ _ _ _ _=>(aY (call_min2 rfl) ai8 T.amx (by decide +kernel) (aj aA (aj (bO (FT PySem.F.slot_list_count PySem.F.type_list_count mt_lcount amK (ak 3) (aj (ak 6) au)) (aH aV (hr.mono (by decide)) bD (aj (ak 0) (aj aA au)))) au))))) au)))
  (aD (aQ (i:=5) d8.nd (cX au))
  (aD (je PassesOwn.never (mV T.j5 (aj (ak 1) au)) (cH 6 d8.nd) aO (aG (aQ (i:=5) d8.nd (bO (ak 5) (pF (own:=[("_law_one",8)]) d8.nd (fK (ak 3)) (blkOk_by (N:=["_law_pool_here","_law_hands","_law_works","_law_dealt","_law_rooms","_law_plan","_law_hand","_law_work","_law_one"]) (sc:=defScope lA) (by decide +kernel)) aO (cR (by decide)) (fun _ _ _ _ _=>(cH 8 d8.nd)) (fun _ _ _ _ _=>fG) (fun _ _ _ _ _=>(lN call_int1 ame T.ad3 (by decide +kernel) (aj (yw hr (ak 8) (ak 6)) au))))))))
  (aG (aM (bf (aj (bf (aj bK (aj (ak 4) (aj (ak 2) au)))) (aj (ak 5) au)))))))))))) (by walk_at "bn")
theorem V3 (L:Here P w K mg base "_law_stream_wish" jA) (aV:fJ P w K mg base) (BZ:BW P w K mg base) (DY:DR P w K mg base):Gy P w K mg base:=L.eZ cV (by walk_at "len") (UJ) (fun f cdv A outer s H E hr =>
 (aD (aQ (i:=1) cV.nd (bO aA (aH aV (hr.mono (by decide)) bD (aj (ak 0) (aj aA au)))))
  (aD (aQ (i:=2) cV.nd (aH BZ (hr.mono (by decide)) bD (aj (ak 0) (aj (gD (aH DY (hr.mono (by decide)) bD (aj (ak 0) (aj (ak 1) au))) dY (dI aA)) (aj (ak 1) (aj aA au))))))
  (aD (aQ (i:=3) cV.nd (lN call_tuple_of zH T.jH (by decide +kernel) (aj (pF (own:=[("_law_tie",7),("_law_told",9)]) cV.nd (fK (ak 2)) (blkOk_by (N:=["_law_pool_here","_law_count_of","_law_found","_law_ties","_law_rooms","_law_plan","_law_needs","_law_tie","_law_count","_law_told","_law_space"]) (sc:=defScope jA) (by decide +kernel)) (fQ (bx aO (bx aO fP)) (bA (bA fU))) (xY (jc (cR (by decide)) (jc (cR (by decide)) xX))) (fun _ _ _ _ _=>(pg_tup rfl (pgs_cons (cH 7 cV.nd) (pgs_cons (cH 9 cV.nd) pgs_nil)))) (fun _ _ _ _ _=>fG) (fun _ _ _ _ _=>(ak 7))) au)))
  (aD (aQ (i:=4) cV.nd (lN call_tuple_of zH T.jH (by decide +kernel) (aj (pF (own:=[("_law_tie",7)]) cV.nd (fK (ak 3)) (blkOk_by (N:=["_law_pool_here","_law_count_of","_law_found","_law_ties","_law_rooms","_law_plan","_law_needs","_law_tie","_law_count","_law_told","_law_space"]) (sc:=defScope jA) (by decide +kernel)) aO (cR (by decide)) (fun _ _ _ _ _=>(cH 7 cV.nd)) (fun _ _ _ _ _=>fG) (fun _ _ _ _ _=>(bO aA (aH aV (hr.mono (by decide)) bD (aj (ak 0) (aj aA au)))))) au)))
  (aD (qI (i:=5) (own:=[("_law_space",10)]) cV.nd (fK (ak 4)) (blkOk_by (N:=["_law_pool_here","_law_count_of","_law_found","_law_ties","_law_rooms","_law_plan","_law_needs","_law_tie","_law_count","_law_told","_law_space"]) (sc:=defScope jA) (by decide +kernel)) aO (cR (by decide)) (fun _ _ _ _ _=>(cH 10 cV.nd)) (fun _ _ _ _ _=>fG) (fun _ _ _ _ _=>(aH aV (hr.mono (by decide)) bD (aj (ak 0) (aj (bO (ak 10) aA) au)))) (sw_true rfl rfl rfl (by decide +kernel)))
  (aD (aQ (i:=6) cV.nd (OD (cX (aj aA au)) (ak 1)))
  (aD (je PassesOwn.never (abI T.aaW (aj (ak 3) (aj (ak 5) au))) (pg_tup rfl (pgs_cons (cH 7 cV.nd) (pgs_cons (cH 8 cV.nd) pgs_nil))) (fQ (bx aO (bx aO fP)) (bA (bA fU))) (aD (sO (bO (aK (ak 6) (aK (ak 7) aA)) (ak 8)) (ak 6) (aK (ak 7) aA))
  (aG (sO (rE (aK (ak 6) (aK (ak 7) aA)) (ak 8)) (ak 6) (aK (ak 7) aA)))))
  (aG (aM (bf (aj (bf (aj bK (aj (ak 1) (aj (ak 3) (aj (ak 4) (aj (lN call_tuple_of zH T.jH (by decide +kernel) (aj (ak 6) au)) au)))))) (aj (ak 5) au))))))))))))) (by walk_at "bn")
theorem Xk (L:Here P w K mg base "_law_bench_wish" oW) (aV:fJ P w K mg base) (iI:oV P w K mg base):zE P w K mg base:=L.eZ iJ (by walk_at "len") (Xf) (fun f cdv A outer s H E hr =>
 (aD (aQ (i:=2) iJ.nd (lN call_tuple_of zH T.jH (by decide +kernel) (aj (pF (own:=[("_law_work",5)]) iJ.nd (mV T.j5 (aj (ak 1) au)) (blkOk_by (N:=["_law_pool_here","_law_works","_law_lasts","_law_plan","_law_done_here","_law_work"]) (sc:=defScope oW) (by decide +kernel)) aO (cR (by decide)) (fun _ _ _ _ _=>(cH 5 iJ.nd)) (fun _ _ _ _ _=>fG) (fun _ _ _ _ _=>(bO aA (aH aV (hr.mono (by decide)) bD (aj (ak 0) (aj aA au)))))) au)))
  (aD (aQ (i:=3) iJ.nd (OD (cX (aj aA au)) (ak 1)))
  (aD (aQ (i:=4) iJ.nd aA)
  (aD (je PassesOwn.never (fK (aH iI (hr.mono (by decide)) bD (aj (ak 0) (aj (ZR ZQ T.pC T.j5 (ak 1)) au)))) (cH 5 iJ.nd) aO (aD (aQ (i:=4) iJ.nd (bO (ak 4) (aK (ak 2) (ak 5))))
  (aG (sO (ak 4) (ak 3) (ak 5)))))
  (aG (aM (bf (aj (bf (aj bK (aj (ak 2) au))) (aj (Ac (ak 3)) au)))))))))) (by walk_at "bn")
theorem agx (L:Here P w K mg base "_law_wish" GJ) (aV:fJ P w K mg base) (acq:Ql P w K mg base) (abf:Nq P w K mg base) (abg:Nr P w K mg base) (Xl:Gy P w K mg base) (zF:zE P w K mg base):aa2 P w K mg base:=L.eZ XQ (by walk_at "len") (af5) (fun f cdv A outer s H E hr =>
 (aD (aQ (i:=1) XQ.nd (aH aV (hr.mono (by decide)) bD (aj (ak 0) (aj aA au))))
  (aD (bG (DW.dt (fW (LR (ak 1) aA) (gj (fB hr (ak 1) aA)))) (aG (aM (aH acq (hr.mono (by decide)) bD (aj (ak 0) (aj (tV (ak 1) aA) au))))) aU)
  (aD (bG (fB hr (ak 1) aA) (aG (aM (aH abf (hr.mono (by decide)) bD (aj (ak 0) au)))) aU)
  (aD (bG (fB hr (ak 1) aA) (aG (aM (aH abg (hr.mono (by decide)) bD (aj (ak 0) au)))) aU)
  (aD (bG (fB hr (ak 1) aA) (aG (aM (aH Xl (hr.mono (by decide)) bD (aj (ak 0) au)))) aU)
  (aG (aM (aH zF (hr.mono (by decide)) bD (aj (ak 0) (aj (bO aA (aH aV (hr.mono (by decide)) bD (aj (ak 0) (aj aA au)))) au))))))))))) (by walk_at "bn")
theorem adx (L:Here P w K mg base "_law_wishes" vo) (aiK:aa2 P w K mg base) (aV:fJ P w K mg base) (zF:zE P w K mg base) (iI:oV P w K mg base):VR P w K mg base:=L.eZ gK (by walk_at "len") (adn) (fun f cdv A outer s H E hr =>
 (aD (aQ (i:=1) gK.nd (aH aiK (hr.mono (by decide)) bD (aj (ak 0) au)))
  (aD (aQ (i:=2) gK.nd (Cm (aj (ak 1) au)))
  (aD (aQ (i:=3) gK.nd (aY call_len dF T.dG (by decide +kernel) (aj (aK (ak 1) aA) au)))
  (aD (bG (fB hr (aH aV (hr.mono (by decide)) bD (aj (ak 0) (aj aA au))) aA) (aG (bG (fB hr (aK (aK (ak 1) aA) aA) bK) (aD (aQ (i:=4) gK.nd (OD (cX (aj aA au)) (ak 3)))
  (aD (aQ (i:=5) gK.nd (cX (aj aA au)))
  (aD (je PassesOwn.never (mV T.j5 (aj (ak 3) au)) (cH 6 gK.nd) aO (aG (je PassesOwn.never (Jb T.uL (aj (aK (aK (ak 1) aA) aA) au)) (pg_tup rfl (pgs_cons (cH 7 gK.nd) (pgs_cons (cH 8 gK.nd) pgs_nil))) (fQ (bx aO (bx aO fP)) (bA (bA fU))) (aG (bG (j7 hr (adI (aK (ak 8) aA) (ak 5)) (adI (aK (ak 8) aA) (ak 5))) (aD (sO aA (ak 4) (ak 7))
  (aG (aQ (i:=5) gK.nd (bO (ak 5) (pF (own:=[("_law_place",9)]) gK.nd (fK (ak 8)) (blkOk_by (N:=["_law_pool_here","_law_first","_law_found","_law_count_of","_law_tree","_law_seen","_law_turn","_law_thing_at","_law_tie","_law_place"]) (sc:=defScope vo) (by decide +kernel)) aO (cR (by decide)) (fun _ _ _ _ _=>(cH 9 gK.nd)) (fun _ _ _ _ _=>(Ws (X8 (ak 9) (ak 5)))) (fun _ _ _ _ _=>(ak 9))))))) aU)))))
  (aG (fL (FT PySem.F.slot_list_append PySem.F.type_list_append mt_append vC (ak 2) (aj (bf (aj (bf (aj bK (aj (aK (aK (ak 1) aA) aA) (aj (aK (aK (ak 1) aA) aA) au)))) (aj (Ac (ak 4)) au))) au))))))) (aG (bG (LR (ak 3) aA) (aG (fL (FT PySem.F.slot_list_append PySem.F.type_list_append mt_append vC (ak 2) (aj (aH zF (hr.mono (by decide)) bD (aj (ak 0) (aj (ak 3) au))) au)))) aU)))) aU)
  (aG (aM (aH iI (hr.mono (by decide)) bD (aj (ak 0) (aj (Ac (ak 2)) au)))))))))) (by walk_at "bn")
theorem aiL (L:Here P w K mg base "_law_low" KY)  : Nt P w K mg base:=L.eZ BP (by walk_at "len") (ahJ) (fun f cdv A outer s H E hr =>
 (aD (aQ (i:=2) BP.nd (aY call_abs adL T.ad4 (by decide +kernel) (aj (ak 0) au)))
  (aD (aQ (i:=3) BP.nd (aY call_abs adL T.ad4 (by decide +kernel) (aj (ak 1) au)))
  (aD (Jw PassesOwn.never (Wb (ak 3) aA) (aG (ai' (i:=2) (j:=3) BP.nd (aj (ak 3) (aj (tV (ak 2) (ak 3)) au)))))
  (aD (bG (LR (ak 1) aA) (aG (aQ (i:=2) BP.nd (rE aA (ak 2)))) aU)
  (aG (aM (bf (aj (V9 (ak 0) (ak 2)) (aj (V9 (ak 1) (ak 2)) au)))))))))) (by walk_at "bn")
theorem ady (L:Here P w K mg base "_law_number" zV) (aV:fJ P w K mg base) (FQ:Nt P w K mg base):BX P w K mg base:=L.eZ TJ (by walk_at "len") (adi) (fun f cdv A outer s H E hr =>
 (aD (aQ (i:=1) TJ.nd (aK (cX (aj aA (aj aA (aj aA (aj aA (aj aA (aj aA au))))))) (aH aV (hr.mono (by decide)) bD (aj (ak 0) (aj aA au)))))
  (aG (aM (aH FQ (hr.mono (by decide)) bD (aj (aH aV (hr.mono (by decide)) bD (aj (ak 0) (aj aA au))) (aj (ak 1) au))))))) (by walk_at "bn")
theorem afM (L:Here P w K mg base "_law_minus" Eb) (FQ:Nt P w K mg base):Fo P w K mg base:=L.eZ afF (by walk_at "len") (aeW) (fun f cdv A outer s H E hr =>
 (aG (aM (aH FQ (hr.mono (by decide)) bD (aj (rE (jW (aK (ak 0) aA) (aK (ak 1) aA)) (jW (aK (ak 1) aA) (aK (ak 0) aA))) (aj (jW (aK (ak 0) aA) (aK (ak 1) aA)) au)))))) (by walk_at "bn")
theorem agy (L:Here P w K mg base "_law_plus" GP) (FQ:Nt P w K mg base):SJ P w K mg base:=L.eZ agq (by walk_at "len") (af4) (fun f cdv A outer s H E hr =>
 (aG (aM (aH FQ (hr.mono (by decide)) bD (aj (bO (jW (aK (ak 0) aA) (aK (ak 1) aA)) (jW (aK (ak 1) aA) (aK (ak 0) aA))) (aj (jW (aK (ak 0) aA) (aK (ak 1) aA)) au)))))) (by walk_at "bn")
theorem afN (L:Here P w K mg base "_law_bound" Ec) (lM:BX P w K mg base) (aV:fJ P w K mg base) (yj:Fo P w K mg base) (Iz:SJ P w K mg base):XS P w K mg base:=L.eZ nj (by walk_at "len") (ae8) (fun f cdv A outer s H E hr =>
 (aD (aQ (i:=3) nj.nd (aK (cX (aj dD (aj (bf (aj aA (aj aA au))) (aj (aH lM (hr.mono (by decide)) bD (aj (ak 0) au)) (aj (aH lM (hr.mono (by decide)) bD (aj (ak 0) au)) au))))) (aH aV (hr.mono (by decide)) bD (aj (ak 0) (aj aA au)))))
  (aD (aQ (i:=4) nj.nd (aK (cX (aj dD (aj dD (aj (bf (aj aA (aj aA au))) (aj (aH lM (hr.mono (by decide)) bD (aj (ak 0) au)) au))))) (aH aV (hr.mono (by decide)) bD (aj (ak 0) (aj aA au)))))
  (aD (aQ (i:=5) nj.nd dD)
  (aD (aQ (i:=6) nj.nd dD)
  (aD (bG (Jr (ak 3) dD) (aG (aQ (i:=5) nj.nd (aH yj (hr.mono (by decide)) bD (aj (ak 1) (aj (ak 3) au))))) aU)
  (aD (bG (DW.dt (tW (cW (ak 2)) (rF (DW.dt (fW (Hi (ak 5) dD) (gj (LR (aK (ak 5) aA) aA))))))) (aG (aQ (i:=5) nj.nd (bf (aj aA (aj aA au))))) aU)
  (aD (bG (Jr (ak 4) dD) (aG (aQ (i:=6) nj.nd (aH Iz (hr.mono (by decide)) bD (aj (ak 1) (aj (ak 4) au))))) aU)
  (aG (aM (bf (aj (ak 5) (aj (ak 6) au))))))))))))) (by walk_at "bn")
theorem adz (L:Here P w K mg base "_law_weight" zW) (aV:fJ P w K mg base):Ku P w K mg base:=L.eZ Gr (by walk_at "len") (adl) (fun f cdv A outer s H E hr =>
 (aD (aQ (i:=1) Gr.nd (cX (aj (bf (aj aA (aj aA au))) (aj (bf (aj aA (aj aA au))) (aj (bf (aj aA (aj aA au))) (aj (bf (aj aA (aj aA au))) (aj (bf (aj aA (aj aA au))) (aj (bf (aj aA (aj aA au))) au))))))))
  (aD (aQ (i:=2) Gr.nd (aK (ak 1) (aH aV (hr.mono (by decide)) bD (aj (ak 0) (aj aA au)))))
  (aG (aM (bf (aj (ak 2) (aj (aK (ak 1) (aH aV (hr.mono (by decide)) bD (aj (ak 0) (aj aA au)))) au)))))))) (by walk_at "bn")
theorem agz (L:Here P w K mg base "_law_task" mK) (afO:VR P w K mg base) (lM:BX P w K mg base) (aV:fJ P w K mg base) (yj:Fo P w K mg base) (agA:XS P w K mg base) (KJ:Ku P w K mg base):aa3 P w K mg base:=L.eZ fj (by walk_at "len") (agb) (fun f cdv A outer s H E hr =>
 (aD (aQ (i:=1) fj.nd (aH afO (hr.mono (by decide)) bD (aj (ak 0) au)))
  (aD (aQ (i:=2) fj.nd (aY call_len dF T.dG (by decide +kernel) (aj (aK (aK (ak 1) aA) aA) au)))
  (aD (aQ (i:=3) fj.nd (adI bK (pF (own:=[("_law_shape",8),("_law_plan",9)]) fj.nd (fK (ak 1)) (blkOk_by (N:=["_law_pool_here","_law_wishes_here","_law_count_of","_law_walked","_law_prices","_law_tight","_law_bounds","_law_weights","_law_shape","_law_plan","_law_thing_at","_law_price"]) (sc:=defScope mK) (by decide +kernel)) (fQ (bx aO (bx aO fP)) (bA (bA fU))) (xY (jc (cR (by decide)) (jc (cR (by decide)) xX))) (fun _ _ _ _ _=>(pg_tup rfl (pgs_cons (cH 8 fj.nd) (pgs_cons (cH 9 fj.nd) pgs_nil)))) (fun _ _ _ _ _=>fG) (fun _ _ _ _ _=>(aK (ak 8) aA)))))
  (aD (qI (i:=4) (own:=[("_law_thing_at",10)]) fj.nd (mV T.j5 (aj (ak 2) au)) (blkOk_by (N:=["_law_pool_here","_law_wishes_here","_law_count_of","_law_walked","_law_prices","_law_tight","_law_bounds","_law_weights","_law_shape","_law_plan","_law_thing_at","_law_price"]) (sc:=defScope mK) (by decide +kernel)) aO (cR (by decide)) (fun _ _ _ _ _=>(cH 10 fj.nd)) (fun _ _ _ _ _=>fG) (fun _ _ _ _ _=>(aH lM (hr.mono (by decide)) bD (aj (ak 0) au))) (sw_true rfl rfl rfl (by decide +kernel)))
  (aD (bG (DW.dt (tW (cU (cW (ak 3))) (rF (fB hr (aH aV (hr.mono (by decide)) bD (aj (ak 0) (aj aA au))) aA)))) (aG (qI (i:=4) (own:=[("_law_price",11)]) fj.nd (fK (ak 4)) (blkOk_by (N:=["_law_pool_here","_law_wishes_here","_law_count_of","_law_walked","_law_prices","_law_tight","_law_bounds","_law_weights","_law_shape","_law_plan","_law_thing_at","_law_price"]) (sc:=defScope mK) (by decide +kernel)) aO (cR (by decide)) (fun _ _ _ _ _=>(cH 11 fj.nd)) (fun _ _ _ _ _=>fG) (fun _ _ _ _ _=>(aH yj (hr.mono (by decide)) bD (aj (ak 11) (aj (bf (aj aA (aj aA au))) au)))) (sw_true rfl rfl rfl (by decide +kernel)))) aU)
  (aD (aQ (i:=5) fj.nd (aH aV (hr.mono (by decide)) bD (aj (ak 0) (aj aA au))))
  (aD (qI (i:=6) (own:=[("_law_price",11)]) fj.nd (fK (ak 4)) (blkOk_by (N:=["_law_pool_here","_law_wishes_here","_law_count_of","_law_walked","_law_prices","_law_tight","_law_bounds","_law_weights","_law_shape","_law_plan","_law_thing_at","_law_price"]) (sc:=defScope mK) (by decide +kernel)) aO (cR (by decide)) (fun _ _ _ _ _=>(cH 11 fj.nd)) (fun _ _ _ _ _=>fG) (fun _ _ _ _ _=>(aH agA (hr.mono (by decide)) bD (aj (ak 0) (aj (ak 11) (aj (ak 3) au))))) (sw_true rfl rfl rfl (by decide +kernel)))
  (aD (bG (fB hr (ak 5) aA) (aG (qI (i:=6) (own:=[("_law_price",11)]) fj.nd (fK (ak 4)) (blkOk_by (N:=["_law_pool_here","_law_wishes_here","_law_count_of","_law_walked","_law_prices","_law_tight","_law_bounds","_law_weights","_law_shape","_law_plan","_law_thing_at","_law_price"]) (sc:=defScope mK) (by decide +kernel)) aO (cR (by decide)) (fun _ _ _ _ _=>(cH 11 fj.nd)) (fun _ _ _ _ _=>fG) (fun _ _ _ _ _=>(bf (aj (aK (cX (aj dD (aj (bf (aj aA (aj aA au))) au))) (lN call_int1 ame T.ad3 (by decide +kernel) (aj (ak 3) au))) (aj dD au)))) (sw_true rfl rfl rfl (by decide +kernel)))) aU)
  (aD (qI (i:=7) (own:=[("_law_price",11)]) fj.nd (fK (ak 4)) (blkOk_by (N:=["_law_pool_here","_law_wishes_here","_law_count_of","_law_walked","_law_prices","_law_tight","_law_bounds","_law_weights","_law_shape","_law_plan","_law_thing_at","_law_price"]) (sc:=defScope mK) (by decide +kernel)) aO (cR (by decide)) (fun _ _ _ _ _=>(cH 11 fj.nd)) (fun _ _ _ _ _=>fG) (fun _ _ _ _ _=>(aH KJ (hr.mono (by decide)) bD (aj (ak 0) au))) (sw_true rfl rfl rfl (by decide +kernel)))
  (aG (aM (bf (aj (ak 4) (aj (ak 1) (aj (ak 6) (aj (ak 7) (aj (aK (cX (aj bK (aj bK au))) (aH aV (hr.mono (by decide)) bD (aj (ak 0) (aj aA au)))) au)))))))))))))))))) (by walk_at "bn")
theorem acr (L:Here P w K mg base "_law_cell_at" yq)  : TQ P w K mg base:=L.eZ acj (by walk_at "len") (abY) (fun f cdv A outer s H E hr =>
 (aD (bG (LR (ak 1) (aY call_len dF T.dG (by decide +kernel) (aj (ak 0) au))) (aG (aM (aK (ak 0) (ak 1)))) aU)
  (aG (aM aA)))) (by walk_at "bn")
theorem agB (L:Here P w K mg base "_law_pool" GX) (adA:TQ P w K mg base):aa4 P w K mg base:=L.eZ Fj (by walk_at "len") (af2) (fun f cdv A outer s H E hr =>
 (aD (aQ (i:=2) Fj.nd (aH adA (hr.mono (by decide)) bD (aj (ak 0) (aj (ak 1) au))))
  (aD (aQ (i:=3) Fj.nd (tV (jW (bO (bO (tV (ak 2) aA) (jW (jW aA (ak 1)) (ak 1))) aA) aA) aA))
  (aD (bG (LR (ak 2) (ai6 aA aA)) (aG (aQ (i:=2) Fj.nd aA)) aU)
  (aG (aM (Cm (aj (ak 2) (aj (tV (jW (ak 3) (ak 3)) aA) au))))))))) (by walk_at "bn")
theorem agC (L:Here P w K mg base "is_whole" GZ)  : wY P w K mg base:=L.eZ agr (by walk_at "len") (af6) (fun f cdv A outer s H E hr =>
 (aG (aM (pY (aY call_isi (mO (by decide)) T.cO (by decide +kernel) (aj (ak 0) (aj (gW T.ad3 (by decide +kernel) rfl) au))) (oY (aed (aY call_isi (mO (by decide)) T.cO (by decide +kernel) (aj (ak 0) (aj (gW T.akn (by decide +kernel) rfl) au))))))))) (by walk_at "bn")
theorem akt (L:Here P w K mg base "shared" Qv)  : afK P w K mg base:=L.eZ Nk (by walk_at "len") (ajz) (fun f cdv A outer s H E hr =>
 (aD (aQ (i:=0) Nk.nd (aY call_abs adL T.ad4 (by decide +kernel) (aj (ak 0) au)))
  (aD (aQ (i:=1) Nk.nd (aY call_abs adL T.ad4 (by decide +kernel) (aj (ak 1) au)))
  (aD (Jw PassesOwn.never (Wb (ak 1) aA) (aG (ai' (i:=0) (j:=1) Nk.nd (aj (ak 1) (aj (tV (ak 0) (ak 1)) au)))))
  (aG (aM (ak 0))))))) (by walk_at "bn")
theorem acs (L:Here P w K mg base "is_fraction" yr) (mQ:wY P w K mg base) (al6:afK P w K mg base):yW P w K mg base:=L.eZ acn (by walk_at "len") (ab4) (fun f cdv A outer s H E hr =>
 (aD (bG (DW.dt (fW (cU (cW (aY call_isi (mO (by decide)) T.cO (by decide +kernel) (aj (ak 0) (aj (gW T.jH (by decide +kernel) rfl) au))))) (fW (j7 hr (aY call_len dF T.dG (by decide +kernel) (aj (ak 0) au)) aA) (fW (cU (cW (aH mQ (hr.mono (by decide)) bD (aj (aK (ak 0) aA) au)))) (gj (cU (cW (aH mQ (hr.mono (by decide)) bD (aj (aK (ak 0) aA) au))))))))) (aG (aM eO)) aU)
  (aG (aM (pY (ama (aK (ak 0) aA) aA) (oY (yw hr (aH al6 (hr.mono (by decide)) bD (aj (aK (ak 0) aA) (aj (aK (ak 0) aA) au))) aA))))))) (by walk_at "bn")
theorem Xm (L:Here P w K mg base "look_at_prices" su) (uw:yW P w K mg base) (gQ:Uv P w K mg base "NoTask" bB ["part","number"]):Kv P w K mg base bB:=L.Aq xH (by walk_at "len") (Xh) (fun f cdv A outer s H E hr tk =>
 (aD (bG (DW.dt (fW (cU (cW (aY call_isi (mO (by decide)) T.cO (by decide +kernel) (aj (ak 0) (aj (gW T.pC (by decide +kernel) rfl) au))))) (gj (cU (za op_le (oA fun _ _ _ => .bl _) op_le (oA fun _ _ _ => .bl _) aA (aY call_len dF T.dG (by decide +kernel) (aj (ak 0) au)) (pG T.mY)))))) (aG (oH gQ (hr.mono (by decide)) tk (aj bK (aj dD au)))) aU)
  (aG (je (passes_of rfl) (Jb T.uL (aj (ak 0) au)) (pg_tup rfl (pgs_cons (cH 1 xH.nd) (pgs_cons (cH 2 xH.nd) pgs_nil))) (fQ (bx aO (bx aO fP)) (bA (bA fU))) (aG (bG (cU (cW (aH uw (hr.mono (by decide)) bD (aj (ak 2) au)))) (aG (oH gQ (hr.mono (by decide)) tk (aj bK (aj (ak 1) au)))) aU)))))) (by walk_at "bn")
theorem afP (L:Here P w K mg base "is_within" Ed) (mQ:wY P w K mg base):yg P w K mg base:=L.eZ afG (by walk_at "len") (ae0) (fun f cdv A outer s H E hr =>
 (aG (aM (pY (aH mQ (hr.mono (by decide)) bD (aj (ak 0) au)) (oY (ad8 op_le (oA fun _ _ _ => .bl _) op_le (oA fun _ _ _ => .bl _) (ak 1) (ak 0) (ak 2))))))) (by walk_at "bn")
theorem adB (L:Here P w K mg base "are_within" vp) (qQ:yg P w K mg base):rO P w K mg base:=L.eZ Gu (by walk_at "len") (adk) (fun f cdv A outer s H E hr =>
 (aD (bG (DW.dt (fW (cU (cW (aY call_isi (mO (by decide)) T.cO (by decide +kernel) (aj (ak 0) (aj (gW T.jH (by decide +kernel) rfl) au))))) (gj (j7 hr (aY call_len dF T.dG (by decide +kernel) (aj (ak 0) au)) (ak 1))))) (aG (aM eO)) aU)
  (aG (aM (aY (cr_all rfl) adM T.ad5 (by decide +kernel) (aj (pF (own:=[("one",4)]) Gu.nd (fK (ak 0)) (blkOk_by (N:=["thing","many","least","most","one"]) (sc:=defScope vp) (by decide +kernel)) aO (cR (by decide)) (fun _ _ _ _ _=>(cH 4 Gu.nd)) (fun _ _ _ _ _=>fG) (fun _ _ _ _ _=>(aH qQ (hr.mono (by decide)) bD (aj (ak 4) (aj (ak 2) (aj (ak 3) au)))))) au)))))) (by walk_at "bn")
theorem agD (L:Here P w K mg base "are_ties" G3) (jR:rO P w K mg base):SM P w K mg base:=L.eZ XR (by walk_at "len") (af8) (fun f cdv A outer s H E hr =>
 (aD (bG (DW.dt (fW (cU (cW (aY call_isi (mO (by decide)) T.cO (by decide +kernel) (aj (ak 0) (aj (gW T.jH (by decide +kernel) rfl) au))))) (gj (cU (za op_le (oA fun _ _ _ => .bl _) op_le (oA fun _ _ _ => .bl _) aA (aY call_len dF T.dG (by decide +kernel) (aj (ak 0) au)) (pG T.mY)))))) (aG (aM eO)) aU)
  (aD (je PassesOwn.never (fK (ak 0)) (cH 3 XR.nd) aO (aG (bG (DW.dt (fW (cU (cW (aH jR (hr.mono (by decide)) bD (aj (ak 3) (aj aA (aj aA (aj (rE (ak 1) aA) au))))))) (gj (DW.dt (tW (cW (ak 2)) (rF (fB hr (aK (ak 3) aA) (aK (ak 3) aA)))))))) (aG (aM eO)) aU)))
  (aG (aM eO))))) (by walk_at "bn")
theorem aku (L:Here P w K mg base "is_web" Qw) (qQ:yg P w K mg base) (Tc:SM P w K mg base):SN P w K mg base:=L.eZ akq (by walk_at "len") (ajD) (fun f cdv A outer s H E hr =>
 (aD (bG (DW.dt (fW (j7 hr (aY call_len dF T.dG (by decide +kernel) (aj (ak 0) au)) (ak 1)) (gj (cU (cW (aH qQ (hr.mono (by decide)) bD (aj (aK (ak 0) aA) (aj aA (aj (pG T.yO) au))))))))) (aG (aM eO)) aU)
  (aG (aM (aH Tc (hr.mono (by decide)) bD (aj (aK (ak 0) aA) (aj (aK (ak 0) aA) (aj eO au)))))))) (by walk_at "bn")
theorem akv (L:Here P w K mg base "is_way" Qx) (KN:SN P w K mg base) (jR:rO P w K mg base):afL P w K mg base:=L.eZ akr (by walk_at "len") (ajF) (fun f cdv A outer s H E hr =>
 (aD (bG (cU (cW (aH KN (hr.mono (by decide)) bD (aj (ak 0) (aj aA au))))) (aG (aM eO)) aU)
  (aG (aM (pY (aH jR (hr.mono (by decide)) bD (aj (gD (ak 0) (dI aA) dY) (aj aA (aj aA (aj (rE (aK (ak 0) aA) aA) au))))) (oY (aoP hr (aK (ak 0) aA) (aK (ak 0) aA)))))))) (by walk_at "bn")
theorem aiM (L:Here P w K mg base "is_pair" KZ) (qQ:yg P w K mg base) (Tc:SM P w K mg base):ac2 P w K mg base:=L.eZ aiC (by walk_at "len") (ahQ) (fun f cdv A outer s H E hr =>
 (aD (bG (DW.dt (fW (j7 hr (aY call_len dF T.dG (by decide +kernel) (aj (ak 0) au)) aA) (gj (cU (cW (aH qQ (hr.mono (by decide)) bD (aj (aK (ak 0) aA) (aj aA (aj (pG T.Bb) au))))))))) (aG (aM eO)) aU)
  (aG (aM (aH Tc (hr.mono (by decide)) bD (aj (aK (ak 0) aA) (aj (aK (ak 0) aA) (aj eO au)))))))) (by walk_at "bn")
theorem aiN (L:Here P w K mg base "is_deal" K6) (jR:rO P w K mg base) (qQ:yg P w K mg base):ac3 P w K mg base:=L.eZ aiD (by walk_at "len") (ahR) (fun f cdv A outer s H E hr =>
 (aD (bG (DW.dt (fW (j7 hr (aY call_len dF T.dG (by decide +kernel) (aj (ak 0) au)) aA) (fW (cU (cW (aY call_isi (mO (by decide)) T.cO (by decide +kernel) (aj (aK (ak 0) aA) (aj (gW T.jH (by decide +kernel) rfl) au))))) (gj (cU (za op_le (oA fun _ _ _ => .bl _) op_le (oA fun _ _ _ => .bl _) aA (aY call_len dF T.dG (by decide +kernel) (aj (aK (ak 0) aA) au)) (pG T.Bc))))))) (aG (aM eO)) aU)
  (aD (bG (DW.dt (fW (cU (cW (aH jR (hr.mono (by decide)) bD (aj (aK (ak 0) aA) (aj (aY call_len dF T.dG (by decide +kernel) (aj (aK (ak 0) aA) au)) (aj aA (aj (pG T.Ey) au))))))) (gj (cU (cW (aH qQ (hr.mono (by decide)) bD (aj (aK (ak 0) aA) (aj aA (aj (pG T.Bf) au))))))))) (aG (aM eO)) aU)
  (aG (aM (al' (jW (aY call_len dF T.dG (by decide +kernel) (aj (aK (ak 0) aA) au)) (aK (ak 0) aA)) (pG T.mY))))))) (by walk_at "bn")
theorem afQ (L:Here P w K mg base "is_stream" Ef) (KN:SN P w K mg base) (jR:rO P w K mg base):X3 P w K mg base:=L.eZ afH (by walk_at "len") (ae4) (fun f cdv A outer s H E hr =>
 (aD (bG (DW.dt (fW (cU (cW (aH KN (hr.mono (by decide)) bD (aj (ak 0) (aj aA au))))) (gj (cU (cW (aH jR (hr.mono (by decide)) bD (aj (aK (ak 0) aA) (aj (aY call_len dF T.dG (by decide +kernel) (aj (aK (ak 0) aA) au)) (aj aA (aj (pG T.kh) au)))))))))) (aG (aM eO)) aU)
  (aG (aM (pY (aH jR (hr.mono (by decide)) bD (aj (aK (ak 0) aA) (aj (aK (ak 0) aA) (aj (rE aA (pG T.kh)) (aj (pG T.kh) au))))) (oY (yw hr (aY (abB rfl) ahr T.aiB (by decide +kernel) (aj (aK (ak 0) aA) au)) aA))))))) (by walk_at "bn")
theorem agE (L:Here P w K mg base "is_bench" G4) (jR:rO P w K mg base):aa5 P w K mg base:=L.eZ ags (by walk_at "len") (af9) (fun f cdv A outer s H E hr =>
 (aD (bG (DW.dt (fW (j7 hr (aY call_len dF T.dG (by decide +kernel) (aj (ak 0) au)) aA) (fW (cU (cW (aY call_isi (mO (by decide)) T.cO (by decide +kernel) (aj (aK (ak 0) aA) (aj (gW T.jH (by decide +kernel) rfl) au))))) (gj (cU (za op_le (oA fun _ _ _ => .bl _) op_le (oA fun _ _ _ => .bl _) aA (aY call_len dF T.dG (by decide +kernel) (aj (aK (ak 0) aA) au)) (pG T.Bg))))))) (aG (aM eO)) aU)
  (aG (aM (aH jR (hr.mono (by decide)) bD (aj (aK (ak 0) aA) (aj (aY call_len dF T.dG (by decide +kernel) (aj (aK (ak 0) aA) au)) (aj aA (aj (pG T.kh) au))))))))) (by walk_at "bn")
theorem agF (L:Here P w K mg base "is_shape" G5) (al7:afL P w K mg base) (KN:SN P w K mg base) (akx:ac2 P w K mg base) (aky:ac3 P w K mg base) (agG:X3 P w K mg base) (aiO:aa5 P w K mg base):aa6 P w K mg base:=L.eZ agt (by walk_at "len") (af') (fun f cdv A outer s H E hr =>
 (aD (bG (DW.dt (fW (cU (cW (aY call_isi (mO (by decide)) T.cO (by decide +kernel) (aj (ak 0) (aj (gW T.jH (by decide +kernel) rfl) au))))) (fW (fB hr (ak 0) (bf au)) (gj (cU (cW (aY call_isi (mO (by decide)) T.cO (by decide +kernel) (aj (aK (ak 0) aA) (aj (gW T.amy (by decide +kernel) rfl) au))))))))) (aG (aM eO)) aU)
  (aD (bG (fB hr (aK (ak 0) aA) bK) (aG (aM (aH al7 (hr.mono (by decide)) bD (aj (ak 0) au)))) aU)
  (aD (bG (fB hr (aK (ak 0) aA) bK) (aG (aM (aH KN (hr.mono (by decide)) bD (aj (ak 0) (aj aA au))))) aU)
  (aD (bG (fB hr (aK (ak 0) aA) bK) (aG (aM (aH akx (hr.mono (by decide)) bD (aj (ak 0) au)))) aU)
  (aD (bG (fB hr (aK (ak 0) aA) bK) (aG (aM (aH aky (hr.mono (by decide)) bD (aj (ak 0) au)))) aU)
  (aD (bG (fB hr (aK (ak 0) aA) bK) (aG (aM (aH agG (hr.mono (by decide)) bD (aj (ak 0) au)))) aU)
  (aG (aM (pY (yw hr (aK (ak 0) aA) bK) (oY (aH aiO (hr.mono (by decide)) bD (aj (ak 0) au))))))))))))) (by walk_at "bn")
theorem agH (L:Here P w K mg base "items_of" G6)  : SQ P w K mg base:=L.eZ agu (by walk_at "len") (aga) (fun f cdv A outer s H E hr =>
 (aD (bG (adJ (aK (ak 0) aA) (pG T.aal)) (aG (aM (aY call_len dF T.dG (by decide +kernel) (aj (aK (ak 0) aA) au)))) aU)
  (aD (bG (fB hr (aK (ak 0) aA) bK) (aG (aM (jW (aY call_len dF T.dG (by decide +kernel) (aj (aK (ak 0) aA) au)) (aK (ak 0) aA)))) aU)
  (aG (aM (aY call_len dF T.dG (by decide +kernel) (aj (aK (ak 0) aA) au))))))) (by walk_at "bn")
theorem adC (L:Here P w K mg base "are_counts" vq) (mQ:wY P w K mg base):V1 P w K mg base:=L.eZ Gv (by walk_at "len") (adp) (fun f cdv A outer s H E hr =>
 (aD (bG (DW.dt (fW (cU (cW (aY call_isi (mO (by decide)) T.cO (by decide +kernel) (aj (ak 0) (aj (gW T.pC (by decide +kernel) rfl) au))))) (gj (j7 hr (aY call_len dF T.dG (by decide +kernel) (aj (ak 0) au)) (ak 1))))) (aG (aM eO)) aU)
  (aG (aM (aY (cr_all rfl) adM T.ad5 (by decide +kernel) (aj (pF (own:=[("count",2)]) Gv.nd (fK (ak 0)) (blkOk_by (N:=["thing","many","count"]) (sc:=defScope vq) (by decide +kernel)) aO (cR (by decide)) (fun _ _ _ _ _=>(cH 2 Gv.nd)) (fun _ _ _ _ _=>fG) (fun _ _ _ _ _=>(pY (aH mQ (hr.mono (by decide)) bD (aj (ak 2) au)) (oY (ama (ak 2) aA))))) au)))))) (by walk_at "bn")
theorem Xn (L:Here P w K mg base "is_stream_plan" sE)  : Kw P w K mg base:=L.eZ ou (by walk_at "len") (Xg) (fun f cdv A outer s H E hr =>
 (aD (aQ (i:=2) ou.nd (OD (cX (aj aA au)) (aK (ak 0) aA)))
  (aD (je PassesOwn.never (amI T.aaW (aj (aK (ak 0) aA) (aj (aK (ak 0) aA) (aj (ak 1) au)))) (pg_tup rfl (pgs_cons (cH 3 ou.nd) (pgs_cons (cH 4 ou.nd) (pgs_cons (cH 5 ou.nd) pgs_nil)))) (fQ (bx aO (bx aO (bx aO fP))) (bA (bA (bA fU)))) (aD (bG (Wb (ak 5) (ak 4)) (aG (aM eO)) aU)
  (aD (sO (bO (aK (ak 2) (aK (ak 3) aA)) (ak 5)) (ak 2) (aK (ak 3) aA))
  (aG (sO (rE (aK (ak 2) (aK (ak 3) aA)) (ak 5)) (ak 2) (aK (ak 3) aA))))))
  (aG (aM (yw hr (lN call_tuple_of zH T.jH (by decide +kernel) (aj (ak 2) au)) (aK (ak 0) aA))))))) (by walk_at "bn")
theorem Ze (L:Here P w K mg base "is_bench_plan" uM)  : Nu P w K mg base:=L.eZ pD (by walk_at "len") (YH) (fun f cdv A outer s H E hr =>
 (aD (aQ (i:=2) pD.nd aA)
  (aD (je PassesOwn.never (fK (ak9 T.YW T.aaW (aj (ak 1) (aj (aK (ak 0) aA) au)))) (pg_tup rfl (pgs_cons (cH 3 pD.nd) (pgs_cons (cH 4 pD.nd) pgs_nil))) (fQ (bx aO (bx aO fP)) (bA (bA fU))) (aD (aQ (i:=2) pD.nd (bO (ak 2) (ak 4)))
  (aG (bG (j7 hr (ak 3) (ak 2)) (aG (aM eO)) aU))))
  (aG (aM eO))))) (by walk_at "bn")
theorem akz (L:Here P w K mg base "chosen" Jj)  : S7 P w K mg base:=L.eZ Nm (by walk_at "len") (ajM) (fun f cdv A outer s H E hr =>
 (aG (aM (ajg (own:=[("tie",2),("count",3)]) Nm.nd (abI T.aaW (aj (aK (ak 0) aA) (aj (ak 1) au))) (blkOk_by (N:=["shape","plan","tie","count"]) (sc:=defScope Jj) (by decide +kernel)) (fQ (bx aO (bx aO fP)) (bA (bA fU))) (xY (jc (cR (by decide)) (jc (cR (by decide)) xX))) (fun _ _ _ _ _=>(pg_tup rfl (pgs_cons (cH 2 Nm.nd) (pgs_cons (cH 3 Nm.nd) pgs_nil)))) (fun _ _ _ _ _=>(Ws (Wb (ak 3) aA))) (fun _ _ _ _ _=>(ak 2)))))) (by walk_at "bn")
theorem acu (L:Here P w K mg base "is_way_plan" tR) (KQ:S7 P w K mg base):TV P w K mg base:=L.eZ mJ (by walk_at "len") (ab6) (fun f cdv A outer s H E hr =>
 (aD (aQ (i:=2) mJ.nd (aK (ak 0) aA))
  (aD (aQ (i:=3) mJ.nd (aH KQ (hr.mono (by decide)) bD (aj (ak 0) (aj (ak 1) au))))
  (aD (aQ (i:=4) mJ.nd (amQ (ak' (ak 2) eO amP)))
  (aD (Jw PassesOwn.never (j7 hr (ak 2) (aK (ak 0) aA)) (aD (qI (i:=5) (own:=[("tie",6)]) mJ.nd (fK (ak 3)) (blkOk_by (N:=["shape","plan","here","left","been","onward","tie"]) (sc:=defScope tR) (by decide +kernel)) aO (cR (by decide)) (fun _ _ _ _ _=>(cH 6 mJ.nd)) (fun _ _ _ _ _=>(Ws (adJ (ak 2) (ak 6)))) (fun _ _ _ _ _=>(ak 6)) (sw_true rfl rfl rfl (by decide +kernel)))
  (aD (bG (j7 hr (aY call_len dF T.dG (by decide +kernel) (aj (ak 5) au)) aA) (aG (aM eO)) aU)
  (aD (fL (FT PySem.F.slot_list_remove PySem.F.type_list_remove (amR hr) an3 (ak 3) (aj (aK (ak 5) aA) au)))
  (aD (aQ (i:=2) mJ.nd (rE (bO (aK (aK (ak 5) aA) aA) (aK (aK (ak 5) aA) aA)) (ak 2)))
  (aD (bG (an2 hr (ak 2) (ak 4)) (aG (aM eO)) aU)
  (aG (amO hr eO (ak 4) (ak 2)))))))))
  (aG (aM (yw hr (ak 3) (cX au))))))))) (by walk_at "bn")
theorem aiP (L:Here P w K mg base "come_to" K7)  : ac4 P w K mg base:=L.eZ qD (by walk_at "len") (ah1) (fun f cdv A outer s H E hr =>
 (aD (aQ (i:=3) qD.nd (Cm (aj (ak 2) au)))
  (aD (aQ (i:=4) qD.nd aA)
  (aD (Jw PassesOwn.never (LR (ak 4) (aY call_len dF T.dG (by decide +kernel) (aj (ak 3) au))) (aD (je PassesOwn.never (fK (ak 1)) (pg_tup rfl (pgs_cons (cH 5 qD.nd) (pgs_cons (cH 6 qD.nd) pgs_nil))) (fQ (bx aO (bx aO fP)) (bA (bA fU))) (aG (je PassesOwn.never (fK (cX (aj (bf (aj (ak 5) (aj (ak 6) au))) (aj (bf (aj (ak 6) (aj (ak 5) au))) au)))) (pg_tup rfl (pgs_cons (cH 7 qD.nd) (pgs_cons (cH 8 qD.nd) pgs_nil))) (fQ (bx aO (bx aO fP)) (bA (bA fU))) (aG (bG (DW.dt (tW (fB hr (ak 7) (aK (ak 3) (ak 4))) (rF (X8 (ak 8) (ak 3))))) (aG (fL (FT PySem.F.slot_list_append PySem.F.type_list_append mt_append vC (ak 3) (aj (ak 8) au)))) aU)))))
  (aG (aQ (i:=4) qD.nd (bO (ak 4) aA)))))
  (aG (aM (Ac (ak 3)))))))) (by walk_at "bn")
theorem abh (L:Here P w K mg base "is_tree_plan" vX) (KQ:S7 P w K mg base) (akA:ac4 P w K mg base):Qm P w K mg base:=L.eZ Np (by walk_at "len") (aaw) (fun f cdv A outer s H E hr =>
 (aD (aQ (i:=2) Np.nd (Ac (aH KQ (hr.mono (by decide)) bD (aj (ak 0) (aj (ak 1) au)))))
  (aG (aM (pY (yw hr (aY call_len dF T.dG (by decide +kernel) (aj (ak 2) au)) (rE (aK (ak 0) aA) aA)) (oY (yw hr (aY call_len dF T.dG (by decide +kernel) (aj (aH akA (hr.mono (by decide)) bD (aj (aK (ak 0) aA) (aj (ak 2) (aj aA au)))) au)) (aK (ak 0) aA)))))))) (by walk_at "bn")
theorem abj (L:Here P w K mg base "is_pair_plan" oO) (KQ:S7 P w K mg base):Qn P w K mg base:=L.eZ lK (by walk_at "len") (aau) (fun f cdv A outer s H E hr =>
 (aD (aQ (i:=2) lK.nd (Ac (aH KQ (hr.mono (by decide)) bD (aj (ak 0) (aj (ak 1) au)))))
  (aD (aQ (i:=3) lK.nd (ZR ZQ T.pC T.j5 (aK (ak 0) aA)))
  (aG (aM (pY (yw hr (aY cr_sortedI aeu T.YW (by decide +kernel) (aj (pF (own:=[("tie",4)]) lK.nd (fK (ak 2)) (blkOk_by (N:=["shape","plan","ties","places","tie"]) (sc:=defScope oO) (by decide +kernel)) aO (cR (by decide)) (fun _ _ _ _ _=>(cH 4 lK.nd)) (fun _ _ _ _ _=>fG) (fun _ _ _ _ _=>(aK (ak 4) aA))) au)) (ak 3)) (oY (yw hr (aY cr_sortedI aeu T.YW (by decide +kernel) (aj (pF (own:=[("tie",4)]) lK.nd (fK (ak 2)) (blkOk_by (N:=["shape","plan","ties","places","tie"]) (sc:=defScope oO) (by decide +kernel)) aO (cR (by decide)) (fun _ _ _ _ _=>(cH 4 lK.nd)) (fun _ _ _ _ _=>fG) (fun _ _ _ _ _=>(aK (ak 4) aA))) au)) (ak 3))))))))) (by walk_at "bn")
theorem abk (L:Here P w K mg base "is_deal_plan" oR)  : Qo P w K mg base:=L.eZ iW (by walk_at "len") (aav) (fun f cdv A outer s H E hr =>
 (aD (xU (gD (ak 0) (dI aA) dY) (pg_tup rfl (pgs_cons (cH 2 iW.nd) (pgs_cons (cH 3 iW.nd) pgs_nil))) (fQ (bx aO (bx aO fP)) (bA (bA fU))))
  (aD (je PassesOwn.never (mV T.j5 (aj (ak 3) au)) (cH 4 iW.nd) aO (aG (bG (j7 hr (aY (abB rfl) ahr T.aiB (by decide +kernel) (aj (anY (ak 1) (dI (ak 4)) dY (dI (ak 3))) au)) aA) (aG (aM eO)) aU)))
  (aD (qI (i:=5) (own:=[("hand",6)]) iW.nd (mV T.j5 (aj (aY call_len dF T.dG (by decide +kernel) (aj (ak 2) au)) au)) (blkOk_by (N:=["shape","plan","rooms","works","work","loads","hand","load","room"]) (sc:=defScope oR) (by decide +kernel)) aO (cR (by decide)) (fun _ _ _ _ _=>(cH 6 iW.nd)) (fun _ _ _ _ _=>fG) (fun _ _ _ _ _=>(aY (abB rfl) ahr T.aiB (by decide +kernel) (aj (gD (ak 1) (dI (jW (ak 6) (ak 3))) (dI (bO (jW (ak 6) (ak 3)) (ak 3)))) au))) (sw_true rfl rfl rfl (by decide +kernel)))
  (aG (aM (aY (cr_all rfl) adM T.ad5 (by decide +kernel) (aj (pF (own:=[("load",7),("room",8)]) iW.nd (abI T.aaW (aj (ak 5) (aj (ak 2) au))) (blkOk_by (N:=["shape","plan","rooms","works","work","loads","hand","load","room"]) (sc:=defScope oR) (by decide +kernel)) (fQ (bx aO (bx aO fP)) (bA (bA fU))) (xY (jc (cR (by decide)) (jc (cR (by decide)) xX))) (fun _ _ _ _ _=>(pg_tup rfl (pgs_cons (cH 7 iW.nd) (pgs_cons (cH 8 iW.nd) pgs_nil)))) (fun _ _ _ _ _=>fG) (fun _ _ _ _ _=>(al' (ak 7) (ak 8)))) au)))))))) (by walk_at "bn")
theorem aiQ (L:Here P w K mg base "is_plan" K8) (afR:V1 P w K mg base) (Td:SQ P w K mg base) (Zf:Kw P w K mg base) (abl:Nu P w K mg base) (adD:TV P w K mg base) (acv:Qm P w K mg base) (acw:Qn P w K mg base) (acy:Qo P w K mg base):ac5 P w K mg base:=L.eZ aiE (by walk_at "len") (ah3) (fun f cdv A outer s H E hr =>
 (aD (bG (cU (cW (aH afR (hr.mono (by decide)) bD (aj (ak 1) (aj (aH Td (hr.mono (by decide)) bD (aj (ak 0) au)) au))))) (aG (aM eO)) aU)
  (aD (bG (fB hr (aK (ak 0) aA) bK) (aG (aM (aH Zf (hr.mono (by decide)) bD (aj (ak 0) (aj (ak 1) au))))) aU)
  (aD (bG (fB hr (aK (ak 0) aA) bK) (aG (aM (aH abl (hr.mono (by decide)) bD (aj (ak 0) (aj (ak 1) au))))) aU)
  (aD (bG (Wb (aY (cr_max rfl) anP T.amz (by decide +kernel) (aj (ak 1) au)) aA) (aG (aM eO)) aU)
  (aD (bG (fB hr (aK (ak 0) aA) bK) (aG (aM (aH adD (hr.mono (by decide)) bD (aj (ak 0) (aj (ak 1) au))))) aU)
  (aD (bG (fB hr (aK (ak 0) aA) bK) (aG (aM (aH acv (hr.mono (by decide)) bD (aj (ak 0) (aj (ak 1) au))))) aU)
  (aD (bG (fB hr (aK (ak 0) aA) bK) (aG (aM (aH acw (hr.mono (by decide)) bD (aj (ak 0) (aj (ak 1) au))))) aU)
  (aG (aM (aH acy (hr.mono (by decide)) bD (aj (ak 0) (aj (ak 1) au))))))))))))) (by walk_at "bn")
theorem aiR (L:Here P w K mg base "is_wish" K9) (aiS:aa6 P w K mg base) (Td:SQ P w K mg base) (akB:ac5 P w K mg base):ac6 P w K mg base:=L.eZ aiF (by walk_at "len") (ah7) (fun f cdv A outer s H E hr =>
 (aD (bG (DW.dt (fW (cU (cW (aY call_isi (mO (by decide)) T.cO (by decide +kernel) (aj (ak 0) (aj (gW T.jH (by decide +kernel) rfl) au))))) (fW (j7 hr (aY call_len dF T.dG (by decide +kernel) (aj (ak 0) au)) aA) (gj (cU (cW (aH aiS (hr.mono (by decide)) bD (aj (aK (ak 0) aA) au)))))))) (aG (aM eO)) aU)
  (aG (aM (pY (yw hr (aH Td (hr.mono (by decide)) bD (aj (aK (ak 0) aA) au)) (ak 1)) (oY (aH akB (hr.mono (by decide)) bD (aj (aK (ak 0) aA) (aj (aK (ak 0) aA) au))))))))) (by walk_at "bn")
theorem Xo (L:Here P w K mg base "look_at_wishes" sG) (akC:ac6 P w K mg base) (gQ:Uv P w K mg base "NoTask" bB ["part","number"]):Ky P w K mg base bB:=L.Aq xJ (by walk_at "len") (Xi) (fun f cdv A outer s H E hr tk =>
 (aD (bG (DW.dt (fW (cU (cW (aY call_isi (mO (by decide)) T.cO (by decide +kernel) (aj (ak 0) (aj (gW T.pC (by decide +kernel) rfl) au))))) (gj (cU (za op_le (oA fun _ _ _ => .bl _) op_le (oA fun _ _ _ => .bl _) aA (aY call_len dF T.dG (by decide +kernel) (aj (ak 0) au)) (pG T.yS)))))) (aG (oH gQ (hr.mono (by decide)) tk (aj bK (aj dD au)))) aU)
  (aG (je (passes_of rfl) (Jb T.uL (aj (ak 0) au)) (pg_tup rfl (pgs_cons (cH 2 xJ.nd) (pgs_cons (cH 3 xJ.nd) pgs_nil))) (fQ (bx aO (bx aO fP)) (bA (bA fU))) (aG (bG (cU (cW (aH akC (hr.mono (by decide)) bD (aj (ak 3) (aj (ak 1) au))))) (aG (oH gQ (hr.mono (by decide)) tk (aj bK (aj (ak 2) au)))) aU)))))) (by walk_at "bn")
theorem aiT (L:Here P w K mg base "is_side" La) (uw:yW P w K mg base):ac7 P w K mg base:=L.eZ aiG (by walk_at "len") (ah6) (fun f cdv A outer s H E hr =>
 (aG (aM (amc (aho (ak 0) dD) (oY (aH uw (hr.mono (by decide)) bD (aj (ak 0) au))))))) (by walk_at "bn")
theorem al8 (L:Here P w K mg base "under" V6)  : acp P w K mg base:=L.eZ al5 (by walk_at "len") (alg) (fun f cdv A outer s H E hr =>
 (aG (aM (aoO (jW (aK (ak 0) aA) (aK (ak 1) aA)) (jW (aK (ak 1) aA) (aK (ak 0) aA)))))) (by walk_at "bn")
theorem agI (L:Here P w K mg base "is_bound" G7) (adb:ac7 P w K mg base) (Qu:acp P w K mg base):aa7 P w K mg base:=L.eZ Ol (by walk_at "len") (agi) (fun f cdv A outer s H E hr =>
 (aD (bG (DW.dt (fW (cU (cW (aY call_isi (mO (by decide)) T.cO (by decide +kernel) (aj (ak 0) (aj (gW T.jH (by decide +kernel) rfl) au))))) (fW (j7 hr (aY call_len dF T.dG (by decide +kernel) (aj (ak 0) au)) aA) (fW (cU (cW (aH adb (hr.mono (by decide)) bD (aj (aK (ak 0) aA) au)))) (gj (cU (cW (aH adb (hr.mono (by decide)) bD (aj (aK (ak 0) aA) au))))))))) (aG (aM eO)) aU)
  (aD (xU (ak 0) (pg_tup rfl (pgs_cons (cH 3 Ol.nd) (pgs_cons (cH 4 Ol.nd) pgs_nil))) (fQ (bx aO (bx aO fP)) (bA (bA fU))))
  (aD (bG (DW.dt (tW (cW (ak 2)) (rF (DW.dt (fW (Hi (ak 3) dD) (gj (cW (aH Qu (hr.mono (by decide)) bD (aj (ak 3) (aj (pG T.vg) au)))))))))) (aG (aM eO)) aU)
  (aD (bG (DW.dt (tW (Jr (ak 3) dD) (rF (cW (aH Qu (hr.mono (by decide)) bD (aj (ak 1) (aj (ak 3) au))))))) (aG (aM eO)) aU)
  (aG (aM (amc (aho (ak 4) dD) (oY (aed (aH Qu (hr.mono (by decide)) bD (aj (ak 4) (aj (ak 1) au))))))))))))) (by walk_at "bn")
theorem Xp (L:Here P w K mg base "look_at_bounds" sH) (aiU:aa7 P w K mg base) (gQ:Uv P w K mg base "NoTask" bB ["part","number"]):Kz P w K mg base bB:=L.Aq xK (by walk_at "len") (Xj) (fun f cdv A outer s H E hr tk =>
 (aD (bG (DW.dt (fW (cU (cW (aY call_isi (mO (by decide)) T.cO (by decide +kernel) (aj (ak 0) (aj (gW T.pC (by decide +kernel) rfl) au))))) (gj (j7 hr (aY call_len dF T.dG (by decide +kernel) (aj (ak 0) au)) (aY call_len dF T.dG (by decide +kernel) (aj (ak 1) au)))))) (aG (oH gQ (hr.mono (by decide)) tk (aj bK (aj dD au)))) aU)
  (aG (je (passes_of rfl) (Jb T.uL (aj (ak 0) au)) (pg_tup rfl (pgs_cons (cH 3 xK.nd) (pgs_cons (cH 4 xK.nd) pgs_nil))) (fQ (bx aO (bx aO fP)) (bA (bA fU))) (aG (bG (cU (cW (aH aiU (hr.mono (by decide)) bD (aj (ak 4) (aj (aK (ak 1) (ak 3)) (aj (ak 2) au)))))) (aG (oH gQ (hr.mono (by decide)) tk (aj bK (aj (ak 3) au)))) aU)))))) (by walk_at "bn")
theorem aiV (L:Here P w K mg base "has_way" Fp)  : ac8 P w K mg base:=L.eZ Iw (by walk_at "len") (ah8) (fun f cdv A outer s H E hr =>
 (aG (aM (adI bK (pF (own:=[("shape",1),("plan",2)]) Iw.nd (fK (ak 0)) (blkOk_by (N:=["wishes","shape","plan"]) (sc:=defScope Fp) (by decide +kernel)) (fQ (bx aO (bx aO fP)) (bA (bA fU))) (xY (jc (cR (by decide)) (jc (cR (by decide)) xX))) (fun _ _ _ _ _=>(pg_tup rfl (pgs_cons (cH 1 Iw.nd) (pgs_cons (cH 2 Iw.nd) pgs_nil)))) (fun _ _ _ _ _=>fG) (fun _ _ _ _ _=>(aK (ak 1) aA))))))) (by walk_at "bn")
theorem afS (L:Here P w K mg base "is_weight" xP) (uw:yW P w K mg base) (Qu:acp P w K mg base):X4 P w K mg base:=L.eZ Ks (by walk_at "len") (afm) (fun f cdv A outer s H E hr =>
 (aD (bG (DW.dt (fW (cU (cW (aY call_isi (mO (by decide)) T.cO (by decide +kernel) (aj (ak 0) (aj (gW T.jH (by decide +kernel) rfl) au))))) (gj (j7 hr (aY call_len dF T.dG (by decide +kernel) (aj (ak 0) au)) aA)))) (aG (aM eO)) aU)
  (aG (aM (aY (cr_all rfl) adM T.ad5 (by decide +kernel) (aj (pF (own:=[("one",1)]) Ks.nd (fK (ak 0)) (blkOk_by (N:=["thing","one"]) (sc:=defScope xP) (by decide +kernel)) aO (cR (by decide)) (fun _ _ _ _ _=>(cH 1 Ks.nd)) (fun _ _ _ _ _=>fG) (fun _ _ _ _ _=>(pY (aH uw (hr.mono (by decide)) bD (aj (ak 1) au)) (oY (aH Qu (hr.mono (by decide)) bD (aj (pG T.vg) (aj (ak 1) au))))))) au)))))) (by walk_at "bn")
theorem V4 (L:Here P w K mg base "look_at_weights" qW) (agJ:X4 P w K mg base) (gQ:Uv P w K mg base "NoTask" bB ["part","number"]):GD P w K mg base bB:=L.Aq vR (by walk_at "len") (Vr) (fun f cdv A outer s H E hr tk =>
 (aD (bG (DW.dt (fW (cU (cW (aY call_isi (mO (by decide)) T.cO (by decide +kernel) (aj (ak 0) (aj (gW T.pC (by decide +kernel) rfl) au))))) (gj (j7 hr (aY call_len dF T.dG (by decide +kernel) (aj (ak 0) au)) (ak 1))))) (aG (oH gQ (hr.mono (by decide)) tk (aj bK (aj dD au)))) aU)
  (aG (je (passes_of rfl) (Jb T.uL (aj (ak 0) au)) (pg_tup rfl (pgs_cons (cH 2 vR.nd) (pgs_cons (cH 3 vR.nd) pgs_nil))) (fQ (bx aO (bx aO fP)) (bA (bA fU))) (aG (bG (cU (cW (aH agJ (hr.mono (by decide)) bD (aj (ak 3) au)))) (aG (oH gQ (hr.mono (by decide)) tk (aj bK (aj (ak 2) au)))) aU)))))) (by walk_at "bn")
theorem abm (L:Here P w K mg base "look_at_task" vY) (Zg:Kv P w K mg base bB) (Zh:Ky P w K mg base bB) (Zi:Kz P w K mg base bB) (akD:ac8 P w K mg base) (Xq:GD P w K mg base bB) (gQ:Uv P w K mg base "NoTask" bB ["part","number"]):wZ P w K mg base bB:=L.Aq nO (by walk_at "len") (aaF) (fun f cdv A outer s H E hr tk =>
 (aD (bG (DW.dt (fW (cU (cW (aY call_isi (mO (by decide)) T.cO (by decide +kernel) (aj (ak 0) (aj (gW T.jH (by decide +kernel) rfl) au))))) (gj (j7 hr (aY call_len dF T.dG (by decide +kernel) (aj (ak 0) au)) aA)))) (aG (oH gQ (hr.mono (by decide)) tk (aj dD (aj dD au)))) aU)
  (aD (xU (ak 0) (pg_tup rfl (pgs_cons (cH 1 nO.nd) (pgs_cons (cH 2 nO.nd) (pgs_cons (cH 3 nO.nd) (pgs_cons (cH 4 nO.nd) (pgs_cons (cH 5 nO.nd) pgs_nil)))))) (fQ (bx aO (bx aO (bx aO (bx aO (bx aO fP))))) (bA (bA (bA (bA (bA fU)))))))
  (aD (fL (aH Zg (hr.mono (by decide)) (rR tk) (aj (ak 1) au)))
  (aD (fL (aH Zh (hr.mono (by decide)) (rR tk) (aj (ak 2) (aj (aY call_len dF T.dG (by decide +kernel) (aj (ak 1) au)) au))))
  (aD (fL (aH Zi (hr.mono (by decide)) (rR tk) (aj (ak 3) (aj (ak 1) (aj (aH akD (hr.mono (by decide)) bD (aj (ak 2) au)) au)))))
  (aD (fL (aH Xq (hr.mono (by decide)) (rR tk) (aj (ak 4) (aj (aY call_len dF T.dG (by decide +kernel) (aj (ak 1) au)) au))))
  (aG (bG (DW.dt (fW (cU (cW (aY call_isi (mO (by decide)) T.cO (by decide +kernel) (aj (ak 5) (aj (gW T.amy (by decide +kernel) rfl) au))))) (gj (X8 (ak 5) (pG T.W3))))) (aG (oH gQ (hr.mono (by decide)) tk (aj bK (aj dD au)))) aU))))))))) (by walk_at "bn")
theorem akE (L:Here P w K mg base "copied" Jk)  : S8 P w K mg base:=L.eZ qF (by walk_at "len") (ah') (fun f cdv A outer s H E hr =>
 (aD (xU (ak 0) (pg_tup rfl (pgs_cons (cH 1 qF.nd) (pgs_cons (cH 2 qF.nd) (pgs_cons (cH 3 qF.nd) (pgs_cons (cH 4 qF.nd) (pgs_cons (cH 5 qF.nd) pgs_nil)))))) (fQ (bx aO (bx aO (bx aO (bx aO (bx aO fP))))) (bA (bA (bA (bA (bA fU)))))))
  (aG (aM (bf (aj (lN call_list_of Wf T.pC (by decide +kernel) (aj (ak 1) au)) (aj (ajg (own:=[("shape",6),("plan",7)]) qF.nd (fK (ak 2)) (blkOk_by (N:=["task","prices","wishes","bounds","weights","word","shape","plan"]) (sc:=defScope Jk) (by decide +kernel)) (fQ (bx aO (bx aO fP)) (bA (bA fU))) (xY (jc (cR (by decide)) (jc (cR (by decide)) xX))) (fun _ _ _ _ _=>(pg_tup rfl (pgs_cons (cH 6 qF.nd) (pgs_cons (cH 7 qF.nd) pgs_nil)))) (fun _ _ _ _ _=>fG) (fun _ _ _ _ _=>(bf (aj (ak 6) (aj (lN call_list_of Wf T.pC (by decide +kernel) (aj (ak 7) au)) au))))) (aj (lN call_list_of Wf T.pC (by decide +kernel) (aj (ak 3) au)) (aj (lN call_list_of Wf T.pC (by decide +kernel) (aj (ak 4) au)) (aj (ak 5) au)))))))))) (by walk_at "bn")
theorem V5 (L:WK P w K mg base "Keeper" c2' "Keeper.__init__" qX) (rP:wZ P w K mg base bB) (KR:S8 P w K mg base):xM P w K mg base bB c2':=L.Aq VP (by walk_at "len") (Vw) (fun f cdv A outer s H E hr tk =>
 (aD (fL (aH rP (hr.mono (by decide)) (rR tk) (aj (ak 1) au)))
  (aD (Z9 T.bU T.cZ (aeN (aH KR (hr.mono (by decide)) bD (aj (ak 1) au))) (ak 0))
  (aD (Z9 T.bU T.aaX (lN call_list_of ai9 T.pC (by decide +kernel) (aj (aK (ak 1) aA) au)) (ak 0))
  (aG (Z9 T.bU T.DQ (Cm au) (ak 0))))))) (by walk_at "bn")
theorem aiW (L:Here P w K mg base "_law_row" Ld) (iI:oV P w K mg base):ac9 P w K mg base:=L.eZ BR (by walk_at "len") (KP.ail) (fun f cdv A outer s H E hr =>
 (aD (aQ (i:=2) BR.nd (OD (cX (aj aA au)) (aY call_len dF T.dG (by decide +kernel) (aj (ak 1) au))))
  (aD (aQ (i:=3) BR.nd aA)
  (aD (je PassesOwn.never (fK (aH iI (hr.mono (by decide)) bD (aj (ak 0) (aj (ZR ZQ T.pC T.j5 (aY call_len dF T.dG (by decide +kernel) (aj (ak 1) au))) au)))) (cH 4 BR.nd) aO (aD (aQ (i:=3) BR.nd (bO (ak 3) (aK (ak 1) (ak 4))))
  (aG (sO (ak 3) (ak 2) (ak 4)))))
  (aG (aM (Ac (ak 2)))))))) (by walk_at "bn")
theorem agK (L:Here P w K mg base "_law_deed" zX) (aV:fJ P w K mg base) (Iz:SJ P w K mg base) (lM:BX P w K mg base) (yj:Fo P w K mg base) (KJ:Ku P w K mg base) (akF:ac9 P w K mg base):aa8 P w K mg base:=L.eZ dZ (by walk_at "len") (ago) (fun f cdv A outer s H E hr =>
 (aD (xU (ak 0) (pg_tup rfl (pgs_cons (cH 2 dZ.nd) (pgs_cons (cH 3 dZ.nd) (pgs_cons (cH 4 dZ.nd) (pgs_cons (cH 5 dZ.nd) (pgs_cons (cH 6 dZ.nd) pgs_nil)))))) (fQ (bx aO (bx aO (bx aO (bx aO (bx aO fP))))) (bA (bA (bA (bA (bA fU)))))))
  (aD (aQ (i:=7) dZ.nd (aH aV (hr.mono (by decide)) bD (aj (ak 1) (aj (aY call_len dF T.dG (by decide +kernel) (aj (ak 2) au)) au))))
  (aD (xU (aK (ak 4) (ak 7)) (pg_tup rfl (pgs_cons (cH 8 dZ.nd) (pgs_cons (cH 9 dZ.nd) pgs_nil))) (fQ (bx aO (bx aO fP)) (bA (bA fU))))
  (aD (aQ (i:=10) dZ.nd (aH aV (hr.mono (by decide)) bD (aj (ak 1) (aj aA au))))
  (aD (bG (LR (ak 10) aA) (aD (qI (i:=11) (own:=[("_law_one",19)]) dZ.nd (fK (cX (aj (ak 8) (aj (ak 9) (aj (aK (ak 2) (ak 7)) au))))) (blkOk_by (N:=["_law_task_here","_law_pool_here","_law_prices","_law_wishes_here","_law_bounds","_law_weights","_law_word","_law_at","_law_lower","_law_upper","_law_way","_law_some","_law_less_here","_law_other","_law_fall","_law_rise","_law_number_here","_law_shape","_law_plan","_law_one"]) (sc:=defScope zX) (by decide +kernel)) aO (cR (by decide)) (fun _ _ _ _ _=>(cH 19 dZ.nd)) (fun _ _ _ _ _=>(Ws (Jr (ak 19) dD))) (fun _ _ _ _ _=>(ak 19)) (sw_true rfl rfl rfl (by decide +kernel)))
  (aD (aQ (i:=11) dZ.nd (bO (ak 11) (cX (aj (aH Iz (hr.mono (by decide)) bD (aj (aK (ak 2) (ak 7)) (aj (aH lM (hr.mono (by decide)) bD (aj (ak 1) au)) au))) au))))
  (aG (aM (bf (aj bK (aj (ak 7) (aj (aK (ak 11) (aH aV (hr.mono (by decide)) bD (aj (ak 1) (aj (aY call_len dF T.dG (by decide +kernel) (aj (ak 11) au)) au)))) au)))))))) aU)
  (aD (bG (fB hr (ak 10) aA) (aD (aQ (i:=12) dZ.nd (aH yj (hr.mono (by decide)) bD (aj (aK (ak 2) (ak 7)) (aj (aH lM (hr.mono (by decide)) bD (aj (ak 1) au)) au))))
  (aD (aQ (i:=11) dZ.nd (cX (aj dD (aj (ak 12) (aj (aK (ak 2) (ak 7)) (aj (bf (aj aA (aj aA au))) au))))))
  (aD (aQ (i:=13) dZ.nd (aK (cX (aj dD (aj (aH Iz (hr.mono (by decide)) bD (aj (aK (ak 2) (ak 7)) (aj (aH lM (hr.mono (by decide)) bD (aj (ak 1) au)) au))) (aj (aK (ak 2) (ak 7)) au)))) (aH aV (hr.mono (by decide)) bD (aj (ak 1) (aj aA au)))))
  (aG (aM (bf (aj bK (aj (ak 7) (aj (aK (ak 11) (aH aV (hr.mono (by decide)) bD (aj (ak 1) (aj aA au)))) (aj (ak 13) au)))))))))) aU)
  (aD (bG (fB hr (ak 10) aA) (aD (xU (aH KJ (hr.mono (by decide)) bD (aj (ak 1) au)) (pg_tup rfl (pgs_cons (cH 14 dZ.nd) (pgs_cons (cH 15 dZ.nd) pgs_nil))) (fQ (bx aO (bx aO fP)) (bA (bA fU))))
  (aG (aM (bf (aj bK (aj (ak 7) (aj (ak 14) (aj (ak 15) au)))))))) aU)
  (aD (bG (fB hr (ak 10) aA) (aG (aM (bf (aj bK (aj (aK (cX (aj bK (aj bK au))) (aH aV (hr.mono (by decide)) bD (aj (ak 1) (aj aA au)))) au))))) aU)
  (aD (aQ (i:=16) dZ.nd (aH aV (hr.mono (by decide)) bD (aj (ak 1) (aj (aY call_len dF T.dG (by decide +kernel) (aj (ak 3) au)) au))))
  (aD (xU (aK (ak 3) (ak 16)) (pg_tup rfl (pgs_cons (cH 17 dZ.nd) (pgs_cons (cH 18 dZ.nd) pgs_nil))) (fQ (bx aO (bx aO fP)) (bA (bA fU))))
  (aD (bG (DW.dt (tW (fB hr (aK (ak 17) aA) bK) (rF (fB hr (ak 10) aA)))) (aG (aM (bf (aj bK (aj (ak 16) (aj (aH akF (hr.mono (by decide)) bD (aj (ak 1) (aj (aK (ak 17) aA) au))) au)))))) aU)
  (aG (aM (bf (aj bK (aj (ak 16) (aj (aK (cX (aj (ak 18) (aj (anS (ak 18)) (aj (jW (cX (aj aA au)) (aY call_len dF T.dG (by decide +kernel) (aj (ak 18) au))) (aj (ak 18) au))))) (aH aV (hr.mono (by decide)) bD (aj (ak 1) (aj aA au)))) au)))))))))))))))))) (by walk_at "bn")
theorem adE (L:Here P w K mg base "_law_looked" zY) (rP:wZ P w K mg base bB):KD P w K mg base:=L.eZ yV (by walk_at "len") (adq ⟨T.Nh,T.VN,T.wX,T.tQ⟩) (fun f cdv A outer s H E hr =>
 (aD (aQ (i:=1) yV.nd dD)
  (aD (abO (i:=2) yV.nd ⟨rfl,by decide,Or.inl T.Sv⟩ takes0 (fun W2 pn2 xe2 tk2 po2=>(aG (fL (aH rP (hr.mono (by decide)) (rR tk2) (aj (ak 0) au))))) (fun a3 pn3=>(aG (aQ (i:=1) yV.nd (ak 2)))))
  (aD (bG (Hi (ak 1) dD) (aG (aM dD)) aU)
  (aG (aM (cX (aj bK (aj (Wv (ak 1)) (aj (Wv (ak 1)) au)))))))))) (by walk_at "bn")
theorem adF (L:Here P w K mg base "_law_behind" z8)  : KH P w K mg base:=L.eZ nW (by walk_at "len") (adt) (fun f cdv A outer s H E hr =>
 (aD (xU (ak 0) (pg_tup rfl (pgs_cons (cH 2 nW.nd) (pgs_cons (cH 3 nW.nd) (pgs_cons (cH 4 nW.nd) (pgs_cons (cH 5 nW.nd) (pgs_cons (cH 6 nW.nd) pgs_nil)))))) (fQ (bx aO (bx aO (bx aO (bx aO (bx aO fP))))) (bA (bA (bA (bA (bA fU)))))))
  (aD (bG (fB hr (aK (ak 1) aA) bK) (aG (aM (bO (gD (ak 0) dY (dI aA)) (bf (aj (aK (ak 1) aA) au))))) aU)
  (aD (aQ (i:=7) nW.nd (aK (ak 1) aA))
  (aD (bG (fB hr (aK (ak 1) aA) bK) (aG (aM (bO (bf (aj (bO (bO (gD (ak 2) dY (dI (ak 7))) (cX (aj (aK (ak 1) aA) au))) (gD (ak 2) (dI (bO (ak 7) aA)) dY)) au)) (gD (ak 0) (dI aA) dY)))) aU)
  (aD (bG (fB hr (aK (ak 1) aA) bK) (aG (aM (bO (bO (gD (ak 0) dY (dI aA)) (bf (aj (bO (bO (gD (ak 4) dY (dI (ak 7))) (cX (aj (gD (ak 1) (dI aA) dY) au))) (gD (ak 4) (dI (bO (ak 7) aA)) dY)) au))) (gD (ak 0) (dI aA) dY)))) aU)
  (aD (bG (fB hr (aK (ak 1) aA) bK) (aG (aM (bO (gD (ak 0) dY (dI aA)) (bf (aj (bO (bO (gD (ak 5) dY (dI (ak 7))) (cX (aj (gD (ak 1) (dI aA) dY) au))) (gD (ak 5) (dI (bO (ak 7) aA)) dY)) (aj (ak 6) au)))))) aU)
  (aG (aM (bO (bf (aj (ak 2) (aj (bO (bO (gD (ak 3) dY (dI (ak 7))) (cX (aj (bf (aj (aK (aK (ak 3) (ak 7)) aA) (aj (aK (ak 1) aA) au))) au))) (gD (ak 3) (dI (bO (ak 7) aA)) dY)) au))) (gD (ak 0) (dI aA) dY))))))))))) (by walk_at "bn")
theorem Oo (L:sV P w K mg base c2' "look_at_item" "Keeper.look_at_item" nA) (mQ:wY P w K mg base):nQ P w K mg base c3' c2':=L.Aq Om (by walk_at "len") (Oj) (fun f cdv A outer s H E hr tk =>
 (aG (bG (DW.dt (fW (cU (cW (aH mQ (hr.mono (by decide)) bD (aj (ak 1) au)))) (gj (cU (za op_le (oA fun _ _ _ => .bl _) op_lt (oA fun _ _ _ => .bl _) aA (ak 1) (aY call_len dF T.dG (by decide +kernel) (aj (aK (lE T.bU T.cZ (ak 0)) aA) au))))))) (aG (aez tk (pmk_own PySem.F.excBase_ValueError T.Ko.x T.Ko.g T.Ko.k (raises_own T.Ko.b T.Ko.t) rfl))) aU))) (by walk_at "bn")
theorem Zj (L:sV P w K mg base c2' "become" "Keeper.become" uN) (rP:wZ P w K mg base bB) (KR:S8 P w K mg base):nR P w K mg base bB c2':=L.Aq Y8 (by walk_at "len") (YM) (fun f cdv A outer s H E hr tk =>
 (aD (fL (aH rP (hr.mono (by decide)) (rR tk) (aj (ak 1) au)))
  (aD (fL (FT PySem.F.slot_list_append PySem.F.type_list_append mt_append vC (lE T.bU T.DQ (ak 0)) (aj (lE T.bU T.cZ (ak 0)) au)))
  (aG (Z9 T.bU T.cZ (aeN (aH KR (hr.mono (by decide)) bD (aj (ak 1) au))) (ak 0)))))) (by walk_at "bn")
theorem afT (L:Here P w K mg base "with_part" Eh)  : yh P w K mg base:=L.eZ afI (by walk_at "len") (afo) (fun f cdv A outer s H E hr =>
 (aG (aM (bO (bO (gD (ak 0) dY (dI (ak 1))) (cX (aj (ak 2) au))) (gD (ak 0) (dI (bO (ak 1) aA)) dY))))) (by walk_at "bn")
theorem abn (L:sV P w K mg base c2' "price" "Keeper.price" vZ) (j6:nQ P w K mg base c3' c2') (iY:nR P w K mg base bB c2') (qR:yh P w K mg base):Qp P w K mg base bB c3' c2':=L.Aq aaY (by walk_at "len") (aaI) (fun f cdv A outer s H E hr tk =>
 (aD (fL (rG j6 T.bU (hr.mono (by decide)) (rR tk) (ak 0) (aj (ak 1) au)))
  (aG (fL (rG iY T.bU (hr.mono (by decide)) (rR tk) (ak 0) (aj (bO (bf (aj (aH qR (hr.mono (by decide)) bD (aj (aK (lE T.bU T.cZ (ak 0)) aA) (aj (ak 1) (aj (ak 2) au)))) au)) (gD (lE T.bU T.cZ (ak 0)) (dI aA) dY)) au)))))) (by walk_at "bn")
theorem abo (L:JH P w K mg base c2' "bound" "Keeper.bound" v7 [V.non,V.non]) (j6:nQ P w K mg base c3' c2') (iY:nR P w K mg base bB c2') (qR:yh P w K mg base):Qq P w K mg base bB c3' c2':=L.Aq aaZ (by walk_at "len") (aaJ) (fun f cdv A outer s H E hr tk =>
 (aD (fL (rG j6 T.bU (hr.mono (by decide)) (rR tk) (ak 0) (aj (ak 1) au)))
  (aG (fL (rG iY T.bU (hr.mono (by decide)) (rR tk) (ak 0) (aj (bO (bO (gD (lE T.bU T.cZ (ak 0)) dY (dI aA)) (bf (aj (aH qR (hr.mono (by decide)) bD (aj (aK (lE T.bU T.cZ (ak 0)) aA) (aj (ak 1) (aj (bf (aj (ak 2) (aj (ak 3) au))) au)))) au))) (gD (lE T.bU T.cZ (ak 0)) (dI aA) dY)) au)))))) 
theorem abp (L:JH P w K mg base c2' "weigh" "Keeper.weigh" v8 []) (j6:nQ P w K mg base c3' c2') (iY:nR P w K mg base bB c2') (qR:yh P w K mg base):Qs P w K mg base bB c3' c2':=L.Aq aa0 (by walk_at "len") (aaK) (fun f cdv A outer s H E hr tk =>
 (aD (fL (rG j6 T.bU (hr.mono (by decide)) (rR tk) (ak 0) (aj (ak 1) au)))
  (aG (fL (rG iY T.bU (hr.mono (by decide)) (rR tk) (ak 0) (aj (bO (bO (gD (lE T.bU T.cZ (ak 0)) dY (dI aA)) (bf (aj (aH qR (hr.mono (by decide)) bD (aj (aK (lE T.bU T.cZ (ak 0)) aA) (aj (ak 1) (aj (bf (aj (ak 2) (aj (ak 3) au))) au)))) au))) (gD (lE T.bU T.cZ (ak 0)) (dI aA) dY)) au)))))) 
theorem acz (L:sV P w K mg base c2' "wish" "Keeper.wish" yt) (mQ:wY P w K mg base) (qR:yh P w K mg base) (iY:nR P w K mg base bB c2'):TX P w K mg base bB c1' c2':=L.Aq Qi (by walk_at "len") (acg) (fun f cdv A outer s H E hr tk =>
 (aD (bG (DW.dt (fW (cU (cW (aH mQ (hr.mono (by decide)) bD (aj (ak 1) au)))) (gj (cU (za op_le (oA fun _ _ _ => .bl _) op_lt (oA fun _ _ _ => .bl _) aA (ak 1) (aY call_len dF T.dG (by decide +kernel) (aj (aK (lE T.bU T.cZ (ak 0)) aA) au))))))) (aG (aez tk (pmk_own PySem.F.excBase_ValueError T.Kr.x T.Kr.g T.Kr.k (raises_own T.Kr.b T.Kr.t) rfl))) aU)
  (aD (aQ (i:=3) Qi.nd (aH qR (hr.mono (by decide)) bD (aj (aK (lE T.bU T.cZ (ak 0)) aA) (aj (ak 1) (aj (bf (aj (aK (aK (aK (lE T.bU T.cZ (ak 0)) aA) (ak 1)) aA) (aj (ak 2) au))) au)))))
  (aG (fL (rG iY T.bU (hr.mono (by decide)) (rR tk) (ak 0) (aj (bO (bO (gD (lE T.bU T.cZ (ak 0)) dY (dI aA)) (bf (aj (ak 3) au))) (gD (lE T.bU T.cZ (ak 0)) (dI aA) dY)) au))))))) (by walk_at "bn")
theorem afU (L:sV P w K mg base c2' "by" "Keeper.by" Ei) (iY:nR P w K mg base bB c2'):X5 P w K mg base bB c2':=L.Aq afJ (by walk_at "len") (afp) (fun f cdv A outer s H E hr tk =>
 (aG (fL (rG iY T.bU (hr.mono (by decide)) (rR tk) (ak 0) (aj (bO (gD (lE T.bU T.cZ (ak 0)) dY (dI aA)) (bf (aj (ak 1) au))) au))))) (by walk_at "bn")
theorem agL (L:Here P w K mg base "_law_done" G8) (acA:Qp P w K mg base bB c3' c2') (Ea:Qq P w K mg base bB c3' c2') (acB:Qs P w K mg base bB c3' c2') (adG:TX P w K mg base bB c1' c2') (agM:X5 P w K mg base bB c2'):S9 P w K mg base bB c3' c1' c2':=L.Aq agv (by walk_at "len") (agl) (fun f cdv A outer s H E hr tk =>
 (aD (bG (fB hr (aK (ak 1) aA) bK) (aG (aM (rG acA T.bU (hr.mono (by decide)) (rR tk) (ak 0) (aj (aK (ak 1) aA) (aj (aK (ak 1) aA) au))))) aU)
  (aD (bG (fB hr (aK (ak 1) aA) bK) (aD (bG (Hi (aK (ak 1) aA) dD) (aG (aM (Yn Ea T.bU (hr.mono (by decide)) (rR tk) (abT (ks:=["high"]) (m:=2) (n:=3) (pm:=[0,1,3,2]) (fun z=>by cases z) fun _ _ _ _ _ _ _ us its hl hi=>match us,hl,its,hi with | [_,_,_],_,[_,_],_=>⟨_,rfl,rfl⟩) (fun _=>(.cons .non (.cons .non .nil))) (ak 0) (aj (aK (ak 1) aA) au) (Ov (aK (ak 1) aA) Zz)))) aU)
  (aD (bG (Hi (aK (ak 1) aA) dD) (aG (aM (ajv Ea T.bU (hr.mono (by decide)) (rR tk) (abT (ks:=["low","item"]) (m:=1) (n:=3) (pm:=[0,2,1,4]) (fun z=>by cases z) fun _ _ _ _ _ _ _ us its hl hi=>match us,hl,its,hi with | [_,_,_],_,[_,_],_=>⟨_,rfl,rfl⟩) (fun _=>(.cons .non (.cons .non .nil))) (ak 0) (Ov (aK (ak 1) aA) (Ov (aK (ak 1) aA) Zz))))) aU)
  (aG (aM (Yn Ea T.bU (hr.mono (by decide)) (rR tk) (abT (ks:=[]) (m:=4) (n:=4) (pm:=[0,1,2,3]) (fun z=>by cases z) fun _ _ _ _ _ _ _ us its hl hi=>match us,hl,its,hi with | [_,_,_,_],_,[_,_],_=>⟨_,rfl,rfl⟩) (fun _=>(.cons .non (.cons .non .nil))) (ak 0) (aj (aK (ak 1) aA) (aj (aK (ak 1) aA) (aj (aK (ak 1) aA) au))) Zz))))) aU)
  (aD (bG (fB hr (aK (ak 1) aA) bK) (aG (aM (Yn acB T.bU (hr.mono (by decide)) (rR tk) (alb (ks:=["up","down"]) (m:=2) (n:=4) (pm:=[0,1,3,2]) fun _ _ _ _ _ _ us hl=>match us,hl with | [_,_,_,_],_=>rfl) (fun _ => .nil) (ak 0) (aj (aK (ak 1) aA) au) (Ov (aK (ak 1) aA) (Ov (aK (ak 1) aA) Zz))))) aU)
  (aD (bG (fB hr (aK (ak 1) aA) bK) (aG (aM (rG adG T.bU (hr.mono (by decide)) (rR tk) (ak 0) (aj (aK (ak 1) aA) (aj (aK (ak 1) aA) au))))) aU)
  (aG (aM (rG agM T.bU (hr.mono (by decide)) (rR tk) (ak 0) (aj (aK (ak 1) aA) au))))))))) (by walk_at "bn")
theorem aiX (L:Here P w K mg base "_law_odd" Le) (aV:fJ P w K mg base):ac' P w K mg base:=L.eZ aiH (by walk_at "len") (aiw) (fun f cdv A outer s H E hr =>
 (aG (aM (aK (cX (aj dD (aj eO (aj eO (aj (anT aA) (aj (ak 1) (aj bK (aj (cX (aj aA au)) (aj (bf (aj aA au)) (aj (ai6 aA aA) (aj anQ au))))))))))) (aH aV (hr.mono (by decide)) bD (aj (ak 0) (aj aA au))))))) (by walk_at "bn")
theorem adH (L:Here P w K mg base "_law_spoilt" z9) (ade:ac' P w K mg base) (aV:fJ P w K mg base):V2 P w K mg base:=L.eZ jT (by walk_at "len") (adu) (fun f cdv A outer s H E hr =>
 (aD (aQ (i:=2) jT.nd (aH ade (hr.mono (by decide)) bD (aj (ak 1) (aj (aY call_len dF T.dG (by decide +kernel) (aj (aK (ak 0) aA) au)) au))))
  (aD (aQ (i:=3) jT.nd (aH ade (hr.mono (by decide)) bD (aj (ak 1) (aj (aY call_len dF T.dG (by decide +kernel) (aj (aK (ak 0) aA) au)) au))))
  (aD (aQ (i:=4) jT.nd (aK (cX (aj dD (aj aA (aj bK (aj (bf (aj aA (aj aA au))) (aj (cX (aj aA (aj aA au))) (aj (bf (aj aA (aj aA au))) (aj (bf (aj eO (aj aA au))) (aj (bf au) au))))))))) (aH aV (hr.mono (by decide)) bD (aj (ak 1) (aj aA au)))))
  (aD (aQ (i:=5) jT.nd (aH aV (hr.mono (by decide)) bD (aj (ak 1) (aj (aY call_len dF T.dG (by decide +kernel) (aj (aK (ak 0) aA) au)) au))))
  (aD (aQ (i:=6) jT.nd (aK (aK (ak 0) aA) (ak 5)))
  (aD (aQ (i:=7) jT.nd (cX (aj (bf (aj bK (aj (ak 2) (aj (ak 6) au)))) (aj (bf (aj bK (aj (ak 2) (aj (ak 4) au)))) (aj (bf (aj bK (aj (ak 5) (aj (ak 4) au)))) (aj (bf (aj bK (aj (ak 2) (aj (ak 6) (aj (ak 6) au))))) au))))))
  (aD (aQ (i:=7) jT.nd (bO (ak 7) (cX (aj (bf (aj bK (aj (ak 5) (aj (ak 4) (aj (ak 6) au))))) (aj (bf (aj bK (aj (ak 2) (aj (bf (aj aA (aj aA au))) (aj (bf (aj aA (aj aA au))) au))))) (aj (bf (aj bK (aj (ak 5) (aj (bf (aj aA (aj aA au))) (aj (ak 4) au))))) au))))))
  (aD (aQ (i:=7) jT.nd (bO (ak 7) (cX (aj (bf (aj bK (aj (ak 3) (aj (aK (aK (aK (ak 0) aA) aA) aA) au)))) (aj (bf (aj bK (aj aA (aj (ak 4) au)))) (aj (bf (aj bK (aj aA (aj dD au)))) (aj (bf (aj bK (aj (ak 4) au))) (aj (bf (aj bK (aj bK au))) au))))))))
  (aG (aM (aK (ak 7) (aH aV (hr.mono (by decide)) bD (aj (ak 1) (aj aA au))))))))))))))) (by walk_at "bn")
theorem Zk (L:Here P w K mg base "_law_is_number" uO)  : Nv P w K mg base:=L.eZ Y9 (by walk_at "len") (YT) (fun f cdv A outer s H E hr =>
 (aG (aM (pY (aY call_isi (mO (by decide)) T.cO (by decide +kernel) (aj (ak 0) (aj (gW T.ad3 (by decide +kernel) rfl) au))) (pY (aed (aY call_isi (mO (by decide)) T.cO (by decide +kernel) (aj (ak 0) (aj (gW T.akn (by decide +kernel) rfl) au)))) (oY (ad8 op_le (oA fun _ _ _ => .bl _) op_lt (oA fun _ _ _ => .bl _) aA (ak 0) (ak 1)))))))) (by walk_at "bn")
theorem aiY (L:Here P w K mg base "_law_due" Lf) (Ny:Nv P w K mg base) (Ca:KD P w K mg base) (Cd:KH P w K mg base):ada P w K mg base:=L.eZ aiI (by walk_at "len") (aiy) (fun f cdv A outer s H E hr =>
 (aD (bG (DW.dt (tW (adJ (aK (ak 1) aA) (bf (aj bK (aj bK (aj bK au))))) (rF (cU (cW (aH Ny (hr.mono (by decide)) bD (aj (aK (ak 1) aA) (aj (aY call_len dF T.dG (by decide +kernel) (aj (aK (ak 0) aA) au)) au)))))))) (aG (aM (cX (aj eO (aj eO (aj eO au)))))) aU)
  (aD (bG (DW.dt (tW (fB hr (aK (ak 1) aA) bK) (rF (cU (cW (aH Ny (hr.mono (by decide)) bD (aj (aK (ak 1) aA) (aj (aY call_len dF T.dG (by decide +kernel) (aj (aK (ak 0) aA) au)) au)))))))) (aG (aM (cX (aj eO (aj eO (aj eO au)))))) aU)
  (aG (aM (aH Ca (hr.mono (by decide)) bD (aj (aH Cd (hr.mono (by decide)) bD (aj (ak 0) (aj (ak 1) au))) au))))))) (by walk_at "bn")
theorem agN (L:Here P w K mg base "_law_kind" G9) (Tf:S9 P w K mg base bB c3' c1' c2'):aa9 P w K mg base c2':=L.eZ qP (by walk_at "len") (agm ⟨T.T6,T.T7,T.T8,T.VN,T.ako,T.akp,T.wX,T.tQ,T.YX,T.YZ,T.Y0,T.Y4,T.Sw,T.Y5,T.Y6,T.Y7,T.Sy⟩) (fun f cdv A outer s H E hr =>
 (aD (aQ (i:=2) qP.nd dD)
  (aD (aQ (i:=3) qP.nd dD)
  (aD (abO (i:=4) qP.nd ⟨rfl,by decide,Or.inl T.VL⟩ takes0 (fun W2 pn2 xe2 tk2 po2=>(aG (aQ (i:=3) qP.nd (aH Tf (hr.mono (by decide)) (rR tk2) (aj (ak 0) (aj (ak 1) au)))))) (fun a3 pn3=>(aG (aQ (i:=2) qP.nd (ak 4)))))
  (aD (bG (Hi (ak 2) dD) (aG (aM (ak 3))) aU)
  (aD (bG (cW (aY Q6 adQ T.cO (by decide +kernel) (aj (ak 2) (aj (aeG T.Sv) au)))) (aG (aM (cX (aj bK (aj (Wv (ak 2)) (aj (Wv (ak 2)) au)))))) aU)
  (aD (aQ (i:=5) qP.nd (cX (aj (aY Q6 adQ T.cO (by decide +kernel) (aj (ak 2) (aj (aeG T.al2) au))) (aj (aY Q6 adQ T.cO (by decide +kernel) (aj (ak 2) (aj (aeG T.al3) au))) (aj (aY Q6 adQ T.cO (by decide +kernel) (aj (ak 2) (aj (gW T.afE (by decide +kernel) rfl) au))) au)))))
  (aG (aM (ak 5)))))))))) (by walk_at "bn")
theorem acC (L:sV P w K mg base c2' "task" "Keeper.task" yu) (KR:S8 P w K mg base):TY P w K mg base c2':=L.eZ aco (by walk_at "len") (ace) (fun f cdv A outer s H E hr =>
 (aG (aM (aeN (aH KR (hr.mono (by decide)) bD (aj (lE T.bU T.cZ (ak 0)) au)))))) (by walk_at "bn")
theorem abq (L:sV P w K mg base c2' "deeds" "Keeper.deeds" v9)  : Qt P w K mg base c2':=L.eZ aa1 (by walk_at "len") (aaL) (fun f cdv A outer s H E hr =>
 (aG (aM (aY call_len dF T.dG (by decide +kernel) (aj (lE T.bU T.DQ (ak 0)) au))))) (by walk_at "bn")
theorem agO (L:Here P w K mg base "_law_made" Hf) (xO:xM P w K mg base bB c2'):aa' P w K mg base:=L.eZ Fl (by walk_at "len") (agp ⟨T.Nh,T.VN,T.wX,T.tQ⟩) (fun f cdv A outer s H E hr =>
 (aD (aQ (i:=1) Fl.nd dD)
  (aD (abO (i:=2) Fl.nd ⟨rfl,by decide,Or.inl T.Sv⟩ takes0 (fun W2 pn2 xe2 tk2 po2=>(aG (fL (aml xO (hr.mono (by decide)) (rR tk2) (aj (ak 0) au))))) (fun a3 pn3=>(aG (aQ (i:=1) Fl.nd (ak 2)))))
  (aD (bG (Hi (ak 1) dD) (aG (aM dD)) aU)
  (aG (aM (cX (aj bK (aj (Wv (ak 1)) (aj (Wv (ak 1)) au)))))))))) (by walk_at "bn")
theorem aoJ (L:Here P w K mg base "law" Zm) (aiZ:aa3 P w K mg base) (abr:aa4 P w K mg base) (xO:xM P w K mg base bB c2') (ai0:aa8 P w K mg base) (aV:fJ P w K mg base) (Ca:KD P w K mg base) (Cd:KH P w K mg base) (Tf:S9 P w K mg base bB c3' c1' c2') (afV:V2 P w K mg base) (akG:ada P w K mg base) (abt:aa9 P w K mg base c2') (T5:TY P w K mg base c2') (acD:Qt P w K mg base c2') (Tg:aa' P w K mg base):apg P w K mg base:=L.eZ rN (by walk_at "len") (aoI) (fun f cdv A outer s H E hr =>
 (aD (aQ (i:=1) rN.nd (aH aiZ (hr.mono (by decide)) bD (aj (aH abr (hr.mono (by decide)) bD (aj (ak 0) (aj aA au))) au)))
  (aD (aQ (i:=2) rN.nd (aml xO (hr.mono (by decide)) (rR takes0) (aj (ak 1) au)))
  (aD (aQ (i:=3) rN.nd aA)
  (aD (je PassesOwn.never (acG T.j5 (aj aA (aj (aY (call_max2 rfl) anF T.amz (by decide +kernel) (aj aA (aj (aY (call_min2 rfl) ai8 T.amx (by decide +kernel) (aj (aY call_len dF T.dG (by decide +kernel) (aj (ak 0) au)) (aj aA au))) au))) au))) (cH 4 rN.nd) aO (aD (aQ (i:=5) rN.nd (aH abr (hr.mono (by decide)) bD (aj (ak 0) (aj (ak 4) au))))
  (aD (aQ (i:=6) rN.nd (aH ai0 (hr.mono (by decide)) bD (aj (ak 1) (aj (ak 5) au))))
  (aD (bG (DW.dt (tW (fB hr (aH aV (hr.mono (by decide)) bD (aj (ak 5) (aj aA au))) aA) (rF (Hi (aH Ca (hr.mono (by decide)) bD (aj (aH Cd (hr.mono (by decide)) bD (aj (ak 1) (aj (ak 6) au))) au)) dD)))) (aD (fL (aH Tf (hr.mono (by decide)) (rR takes0) (aj (ak 2) (aj (ak 6) au))))
  (aD (aQ (i:=1) rN.nd (aH Cd (hr.mono (by decide)) bD (aj (ak 1) (aj (ak 6) au))))
  (aG (aQ (i:=3) rN.nd (bO (ak 3) aA))))) aU)
  (aD (aQ (i:=6) rN.nd (aH afV (hr.mono (by decide)) bD (aj (ak 1) (aj (ak 5) au))))
  (aD (aQ (i:=7) rN.nd (aH akG (hr.mono (by decide)) bD (aj (ak 1) (aj (ak 6) au))))
  (aD (bG (Jr (ak 7) dD) (aG (bG (DW.dt (fW (j7 hr (aH abt (hr.mono (by decide)) bD (aj (ak 2) (aj (ak 6) au))) (ak 7)) (gj (j7 hr (aH abt (hr.mono (by decide)) bD (aj (ak 2) (aj (ak 6) au))) (ak 7))))) (aG (aM eO)) aU)) aU)
  (aG (bG (DW.dt (fW (j7 hr (Yp T5 T.bU (hr.mono (by decide)) bD (ak 2)) (ak 1)) (gj (j7 hr (Yp acD T.bU (hr.mono (by decide)) bD (ak 2)) (ak 3))))) (aG (aM eO)) aU)))))))))
  (aD (aQ (i:=8) rN.nd (cX (aj dD (aj aA (aj bK (aj (cX au) (aj (bf au) (aj (lN call_list_of ai9 T.pC (by decide +kernel) (aj (ak 1) au)) (aj (gD (ak 1) dY (dI aA)) (aj (bO (ak 1) (bf (aj aA au))) (aj (bO (gD (ak 1) dY (dI aA)) (bf (aj dD au))) au)))))))))))
  (aD (je PassesOwn.never (fK (ak 8)) (cH 9 rN.nd) aO (aG (bG (DW.dt (fW (j7 hr (aH Tg (hr.mono (by decide)) bD (aj (ak 9) au)) (aH Ca (hr.mono (by decide)) bD (aj (ak 9) au))) (gj (Hi (aH Tg (hr.mono (by decide)) bD (aj (ak 9) au)) dD)))) (aG (aM eO)) aU)))
  (aG (aM (pY (yw hr (Yp T5 T.bU (hr.mono (by decide)) bD (ak 2)) (ak 1)) (oY (aho (aH Tg (hr.mono (by decide)) bD (aj (ak 1) au)) dD)))))))))))) (by walk_at "bn")
end
theorem all_mk {l:PySem.W.OpenLaw} {w:World} {K:PySem.W.Frag} {h:Heap} {mg:Str→Option Value} {fa:Addr} (X:K.In h) (G:h.Ns mainGlobals mg) (hfa:mg "law" = some (.ref fa)) (c:SaysX faL exL fnL K) :
  ∃ fd:FuncData,(∀ (s:Shared) (v:Value),BindsTo s fd ⟨[v],[]⟩ [("_law_script",v)])∧∀ base:Heap,K.In base→base.Ns mainGlobals mg→FnOk l.prog w K mg base CX0 16 fa fd ["_law_script"] (Jt K aeB):=by
 have T:Txt K mg (He.ga K "NoTask") (He.ga K "NoItem") (He.ga K "NoWish") (He.ga K "NudgeError") (He.ga K "Keeper"):=⟨He.free_ok X G (c.fact 0),He.free_ok X G (c.fact 1),He.free_ok X G (c.fact 2),He.free_ok X G (c.fact 3),He.free_ok X G (c.fact 4),He.free_ok X G (c.fact 5),He.free_ok X G (c.fact 6),He.free_ok X G (c.fact 7),He.free_ok X G (c.fact 8),He.free_ok X G (c.fact 9),He.free_ok X G (c.fact 10),He.free_ok X G (c.fact 11),He.free_ok X G (c.fact 12),He.free_ok X G (c.fact 13),He.free_ok X G (c.fact 14),He.free_ok X G (c.fact 15),He.free_ok X G (c.fact 16),aeP X G (c.fact 17) (c.more 0) (fun _=>(.cons (.int _) (.cons (.int _) .nil))),Ar X G (c.fact 18),Ar X G (c.fact 19),Ar X G (c.fact 20),Ar X G (c.fact 21),Ar X G (c.fact 22),Ar X G (c.fact 23),Ar X G (c.fact 24),Ar X G (c.fact 25),aeP X G (c.fact 26) (c.more 1) (fun _=>(.cons (.str _) (.cons (.str _) (.cons (.str _) (.cons (.str _) .nil))))),Ar X G (c.fact 27),aeP X G (c.fact 28) (c.more 2) (fun _=>(.cons (.str _) (.cons (.str _) .nil))),an7 X G (c.fact 29) (c.fact 30),an7 X G (c.fact 31) (c.fact 32),He.glo_ok X G (c.fact 33),He.glo_ok X G (c.fact 29),He.glo_ok X G (c.fact 31),He.glo_ok X G (c.fact 34),He.glo_ok X G (c.fact 35),He.exm_ok (c.fact 36),He.exm_ok (c.fact 37),He.exm_ok (c.fact 38),He.exm_ok (c.fact 39),aeQ (c.more 3),aeQ (c.more 4),aeQ (c.more 5),of_decide_eq_true (c.more 6),of_decide_eq_true (c.more 7),of_decide_eq_true (c.more 8),of_decide_eq_true (c.more 9),of_decide_eq_true (c.more 10),of_decide_eq_true (c.more 11),of_decide_eq_true (c.more 12),of_decide_eq_true (c.more 13),of_decide_eq_true (c.more 14),amU (c.more 15),He.noat_ok (c.fact 40),He.noat_ok (c.fact 41),alc (c.more 16),He.cls_ok (c.fact 42),He.noat_ok (c.fact 43),He.noat_ok (c.fact 44),He.noat_ok (c.fact 45)⟩
 obtain ⟨f0,fd0,F0,m0⟩:=(c.hd X G 78:Here l.prog w K mg h "law" Zm).ex
 have e:=hfa.symm.trans m0
 cases e
 have bl:∀ (s:Shared) (v:Value),BindsTo s fd0 ⟨[v],[]⟩ [("_law_script",v)]:=by
  obtain ⟨_,_,_,_,_,_,_,_,_,rfl,_,_⟩:=F0.ex
  exact fun s v => .of_eq rfl
 refine ⟨fd0,bl,fun base _ _ => ?_⟩
 obtain ⟨apl,aph,adf,adg⟩:=(c.hm (P:=l.prog) (w:=w) (base:=base) (mg:=mg) 79 (C:="NoTask") (m:="__init__") (q:="NoTask.__init__") (st:=Lg)).ex
 have gQ:=aks (P:=l.prog) (w:=w) (base:=base) T adf (adf.binds (ps:=["self","part","number"]) fun _ _ _ _ _ _ us hl=>match us,hl with | [_,_,_],_=>rfl) adg.at_ (beq_iff_eq.mp adg.fn)
 have D1:=agw (P:=l.prog) (w:=w) (base:=base) T (c.hd X G 0)
 have D2:=abb (P:=l.prog) (w:=w) (base:=base) T (c.hd X G 1) D1
 have D3:=Za (P:=l.prog) (w:=w) (base:=base) T (c.hd X G 2) D1 D2
 have D4:=abd (P:=l.prog) (w:=w) (base:=base) T (c.hd X G 3) D1
 have D5:=abe (P:=l.prog) (w:=w) (base:=base) T (c.hd X G 4) D1 D3 D4
 have D6:=Zb (P:=l.prog) (w:=w) (base:=base) T (c.hd X G 5) D1 D2
 have D7:=Zd (P:=l.prog) (w:=w) (base:=base) T (c.hd X G 6) D1
 have D8:=V3 (P:=l.prog) (w:=w) (base:=base) T (c.hd X G 7) D1 D3 D4
 have D9:=Xk (P:=l.prog) (w:=w) (base:=base) T (c.hd X G 8) D1 D2
 have D10:=agx (P:=l.prog) (w:=w) (base:=base) T (c.hd X G 9) D1 D5 D6 D7 D8 D9
 have D11:=adx (P:=l.prog) (w:=w) (base:=base) T (c.hd X G 10) D10 D1 D9 D2
 have D12:=aiL (P:=l.prog) (w:=w) (base:=base) T (c.hd X G 11)
 have D13:=ady (P:=l.prog) (w:=w) (base:=base) T (c.hd X G 12) D1 D12
 have D14:=afM (P:=l.prog) (w:=w) (base:=base) T (c.hd X G 13) D12
 have D15:=agy (P:=l.prog) (w:=w) (base:=base) T (c.hd X G 14) D12
 have D16:=afN (P:=l.prog) (w:=w) (base:=base) T (c.hd X G 15) D13 D1 D14 D15
 have D17:=adz (P:=l.prog) (w:=w) (base:=base) T (c.hd X G 16) D1
 have D18:=agz (P:=l.prog) (w:=w) (base:=base) T (c.hd X G 17) D11 D13 D1 D14 D16 D17
 have D19:=acr (P:=l.prog) (w:=w) (base:=base) T (c.hd X G 18)
 have D20:=agB (P:=l.prog) (w:=w) (base:=base) T (c.hd X G 19) D19
 have D21:=agC (P:=l.prog) (w:=w) (base:=base) T (c.hd X G 20)
 have D22:=akt (P:=l.prog) (w:=w) (base:=base) T (c.hd X G 21)
 have D23:=acs (P:=l.prog) (w:=w) (base:=base) T (c.hd X G 22) D21 D22
 have D24:=Xm (P:=l.prog) (w:=w) (base:=base) T (c.hd X G 23) D23 gQ
 have D25:=afP (P:=l.prog) (w:=w) (base:=base) T (c.hd X G 24) D21
 have D26:=adB (P:=l.prog) (w:=w) (base:=base) T (c.hd X G 25) D25
 have D27:=agD (P:=l.prog) (w:=w) (base:=base) T (c.hd X G 26) D26
 have D28:=aku (P:=l.prog) (w:=w) (base:=base) T (c.hd X G 27) D25 D27
 have D29:=akv (P:=l.prog) (w:=w) (base:=base) T (c.hd X G 28) D28 D26
 have D30:=aiM (P:=l.prog) (w:=w) (base:=base) T (c.hd X G 29) D25 D27
 have D31:=aiN (P:=l.prog) (w:=w) (base:=base) T (c.hd X G 30) D26 D25
 have D32:=afQ (P:=l.prog) (w:=w) (base:=base) T (c.hd X G 31) D28 D26
 have D33:=agE (P:=l.prog) (w:=w) (base:=base) T (c.hd X G 32) D26
 have D34:=agF (P:=l.prog) (w:=w) (base:=base) T (c.hd X G 33) D29 D28 D30 D31 D32 D33
 have D35:=agH (P:=l.prog) (w:=w) (base:=base) T (c.hd X G 34)
 have D36:=adC (P:=l.prog) (w:=w) (base:=base) T (c.hd X G 35) D21
 have D37:=Xn (P:=l.prog) (w:=w) (base:=base) T (c.hd X G 36)
 have D38:=Ze (P:=l.prog) (w:=w) (base:=base) T (c.hd X G 37)
 have D39:=akz (P:=l.prog) (w:=w) (base:=base) T (c.hd X G 38)
 have D40:=acu (P:=l.prog) (w:=w) (base:=base) T (c.hd X G 39) D39
 have D41:=aiP (P:=l.prog) (w:=w) (base:=base) T (c.hd X G 40)
 have D42:=abh (P:=l.prog) (w:=w) (base:=base) T (c.hd X G 41) D39 D41
 have D43:=abj (P:=l.prog) (w:=w) (base:=base) T (c.hd X G 42) D39
 have D44:=abk (P:=l.prog) (w:=w) (base:=base) T (c.hd X G 43)
 have D45:=aiQ (P:=l.prog) (w:=w) (base:=base) T (c.hd X G 44) D36 D35 D37 D38 D40 D42 D43 D44
 have D46:=aiR (P:=l.prog) (w:=w) (base:=base) T (c.hd X G 45) D34 D35 D45
 have D47:=Xo (P:=l.prog) (w:=w) (base:=base) T (c.hd X G 46) D46 gQ
 have D48:=aiT (P:=l.prog) (w:=w) (base:=base) T (c.hd X G 47) D23
 have D49:=al8 (P:=l.prog) (w:=w) (base:=base) T (c.hd X G 48)
 have D50:=agI (P:=l.prog) (w:=w) (base:=base) T (c.hd X G 49) D48 D49
 have D51:=Xp (P:=l.prog) (w:=w) (base:=base) T (c.hd X G 50) D50 gQ
 have D52:=aiV (P:=l.prog) (w:=w) (base:=base) T (c.hd X G 51)
 have D53:=afS (P:=l.prog) (w:=w) (base:=base) T (c.hd X G 52) D23 D49
 have D54:=V4 (P:=l.prog) (w:=w) (base:=base) T (c.hd X G 53) D53 gQ
 have D55:=abm (P:=l.prog) (w:=w) (base:=base) T (c.hd X G 54) D24 D47 D51 D52 D54 gQ
 have D56:=akE (P:=l.prog) (w:=w) (base:=base) T (c.hd X G 55)
 have D57:=V5 (P:=l.prog) (w:=w) (base:=base) T (c.hi X G 56 (c.fact 35) (c.fact 46)) D55 D56
 have D58:=aiW (P:=l.prog) (w:=w) (base:=base) T (c.hd X G 57) D2
 have D59:=agK (P:=l.prog) (w:=w) (base:=base) T (c.hd X G 58) D1 D15 D13 D14 D17 D58
 have D60:=adE (P:=l.prog) (w:=w) (base:=base) T (c.hd X G 59) D55
 have D61:=adF (P:=l.prog) (w:=w) (base:=base) T (c.hd X G 60)
 have D62:=Oo (P:=l.prog) (w:=w) (base:=base) T (c.hm 61) D21
 have D63:=Zj (P:=l.prog) (w:=w) (base:=base) T (c.hm 62) D55 D56
 have D64:=afT (P:=l.prog) (w:=w) (base:=base) T (c.hd X G 63)
 have D65:=abn (P:=l.prog) (w:=w) (base:=base) T (c.hm 64) D62 D63 D64
 have D66:=abo (P:=l.prog) (w:=w) (base:=base) T (c.hmv 65) D62 D63 D64
 have D67:=abp (P:=l.prog) (w:=w) (base:=base) T (c.hmv 66) D62 D63 D64
 have D68:=acz (P:=l.prog) (w:=w) (base:=base) T (c.hm 67) D21 D64 D63
 have D69:=afU (P:=l.prog) (w:=w) (base:=base) T (c.hm 68) D63
 have D70:=agL (P:=l.prog) (w:=w) (base:=base) T (c.hd X G 69) D65 D66 D67 D68 D69
 have D71:=aiX (P:=l.prog) (w:=w) (base:=base) T (c.hd X G 70) D1
 have D72:=adH (P:=l.prog) (w:=w) (base:=base) T (c.hd X G 71) D71 D1
 have D73:=Zk (P:=l.prog) (w:=w) (base:=base) T (c.hd X G 72)
 have D74:=aiY (P:=l.prog) (w:=w) (base:=base) T (c.hd X G 73) D73 D60 D61
 have D75:=agN (P:=l.prog) (w:=w) (base:=base) T (c.hd X G 74) D70
 have D76:=acC (P:=l.prog) (w:=w) (base:=base) T (c.hm 75) D56
 have D77:=abq (P:=l.prog) (w:=w) (base:=base) T (c.hm 76)
 have D78:=agO (P:=l.prog) (w:=w) (base:=base) T (c.hd X G 77) D57
 have D79:=aoJ (P:=l.prog) (w:=w) (base:=base) T (c.hd X G 78) D18 D20 D57 D59 D1 D60 D61 D70 D72 D74 D75 D76 D77 D78
 obtain ⟨f',fd',FF,hm',GG,_⟩:=D79.ex
 have e1:=hm'.symm.trans m0
 cases e1
 have e2:=akZ FF F0
 subst e2
 exact GG
end pQ
open PySem PySem.W PySem.Calls PyProof.Rows
set_option maxHeartbeats 0 in
theorem PySem.Challenge.cw_nudgebest_k81_a_keeper_refuses_holds : PySem.Challenge.rw_nudgebest_k81_a_keeper_refuses.Holds := by
 refine pQ.ahk ?_
 refine L2.walk_ofE (l := PySem.Challenge.rw_nudgebest_k81_a_keeper_refuses) (n := 63) (k := 16) (x := "_law_script") (CX := L2.CX0) rfl (by decide) (by kernel_rfl) ⟨rfl, by decide, by decide⟩ ?F (fun _ _ _ _ z => z)
 intro w mg fa h Y G aqv
 obtain ⟨K,KX,c⟩:=Y
 have hmg:mg ("law" : PySem.Str)=some (.ref fa):=by
  have e:(HandSHeadRun.topDef pQ.Nz.prog 149).name=("law" : PySem.Str):=by kernel_rfl
  rw [← e]
  exact aqv
 obtain ⟨fd, hb, hF⟩ := pQ.all_mk (l := PySem.Challenge.rw_nudgebest_k81_a_keeper_refuses) (w := w) KX G hmg c
 exact ⟨K,fd,DL.Jt K DL.aeB,KX,hb,fun H a ns hl _ hS=>DL.amL hl hS,hF⟩