import PyProof.Rows.All
import PyProof.ExcClass2
import PyProof.ExcArgsOwn
import PyProof.ExcBaseAll.Exception
import PyProof.ExcAttrAll.Exception
import KE.KLam
import KE.KDictOf
import KE.KEqDict
import KE.RegKIsAll
import Open.Tops
import Wide.FinOn
import OpenK.AllK
import Wide.All
import Lean
import PySem.Challenge.RW_nz0546_01
set_option Elab.async false
set_option maxRecDepth 100000
set_option linter.all false
set_option genInjectivity false
set_option genSizeOf false
set_option genSizeOfSpec false
namespace Mine
open PySem PySem.W PySem.Calls PyProof.Rows
noncomputable def qg(tb:String->Option Builtin) (p:Program) (w:World) (cZ:Nat) (ann:Option Value):Nat->SharedT->Thread->Option SharedT
 |0,_,_=>none
 |n+1,s,t=>match through t with
  |true=>some s
  |false=>match stepOk cZ ann t with
   |false=>none
   |true=>match stepT (denote tb) p w s t with
    |some (s',t')=>qg tb p w cZ ann n s' t'
    |none=>none
theorem w6{tb:String->Option Builtin}{p:Program}{w:World}{cZ:Nat}{ann:Option Value}(n:Nat):∀(s s':SharedT) (t:Thread),qg tb p w cZ ann n s t=some s'->topRun tb p w cZ ann n s.abs t=some s'.abs:=by
 induction n with
 |zero=>exact fun _ _ _ h=>nomatch h
 |succ n ih =>
  intro s s' t h
  unfold qg at h
  unfold topRun
  cases ht:through t with
  |true=>rw[ht] at h;(injection h with h;subst h);rfl
  |false =>
   rw[ht] at h
   cases hk:stepOk cZ ann t with
   |false=>rw[hk] at h;injection h
   |true =>
    rw[hk] at h
    cases hs:stepT (denote tb) p w s t with
    |none=>rw[hs] at h;injection h
    |some r =>
     obtain⟨w7,t₂⟩:=r
     rw[hs] at h
     dsimp only at h ⊢
     rw[stepT_spec hs]
     exact ih _ _ _ h
noncomputable def o9(P:Params) (x:Str):Int:=if x.cps.isEmpty then 0 else reduceHash (P.strHash x.cps)
noncomputable def uU(vs:List Value):Obj:={ cls:=.type "tuple",data:=.seq vs.toArray }
noncomputable def texts(t:Nat):List Str->List Value
 |[]=>[]
 |x::r=>.str x t::texts (t+1) r
noncomputable def Mk{α:Type}(x:Expr) (VJ:Str->α) (int:Int->α) (str:Str->α) (tup:List Expr->α) (no:α):α:=Expr.casesOn (motive_1:=fun _=>α) x (fun _ _ _=>no) (fun _ _ _=>no) (fun _ _ _ _=>no) (fun _ _ _=>no) (fun _ _ _ _=>no) (fun _ _ _ _=>no) (fun _ _ _=>no) (fun _ _ _=>no) (fun _ _ _ _=>no) (fun _ _ _ _=>no) (fun _ _ _ _ _=>no) (fun _ _ _ _=>no) (fun _ _=>no) (fun _ _=>no) (fun _ _=>no) (fun _ _ _ _=>no) (fun _ _ _ _=>no) (fun _ _ _ _=>no) (fun _ _=>no) (fun c _ _=>match c with| .int i=>int i|.str s=>str s|_=>no) (fun _ _ _=>no) (fun _ _ _=>no) (fun _ _=>no) (fun x _=>VJ x) (fun _ _=>no) (fun l _ _=>tup l) (fun _ _ _ _=>no)
noncomputable def Js{α:Type}(x:Stmt) (fn:Str->Arguments->List Stmt->Scope->Pos->α) (cl:Str->List Expr->List Stmt->List Str->Pos->α) (asg:List Expr->Expr->Pos->α) (no:α):α:=Stmt.casesOn (motive_2:=fun _=>α) x (fun a b c _ _ _ d _ _ p=>fn a b c d p) (fun _ _ _ _ _ _ _ _ _ _=>no) (fun a b _ c _ _ _ _ _ d p=>cl a b c d p) (fun _ _=>no) (fun _ _=>no) (fun t v p=>asg t v p) (fun _ _ _ _ _ _ _=>no) (fun _ _ _ _=>no) (fun _ _ _ _ _=>no) (fun _ _ _ _ _=>no) (fun _ _ _ _ _=>no) (fun _ _ _ _=>no) (fun _ _ _ _=>no) (fun _ _ _=>no) (fun _ _ _=>no) (fun _ _ _=>no) (fun _ _ _=>no) (fun _ _ _ _ _=>no) (fun _ _ _ _ _=>no) (fun _ _ _=>no) (fun _ _=>no) (fun _ _ _ _=>no) (fun _ _=>no) (fun _ _=>no) (fun _ _=>no) (fun _=>no) (fun _=>no) (fun _=>no)
noncomputable def consts(t:Nat):List Expr->List Value
 |[]=>[]
 |x::r=>Mk x (fun _=>.none::consts t r) (fun i=>.int i t::consts (t+1) r) (fun s=>.str s t::consts (t+1) r) (fun _=>.none::consts t r) (.none::consts t r)
noncomputable def qA:Str:="/claim/cut.py"
abbrev Row:=Nat×Nat×Nat×Nat
noncomputable def UB(qn name:Str) (args:Arguments) (body:List Stmt) (sc:Scope) (pos:Pos) (pm:Value):Row->List Obj
 |(f,t,g,k) =>
 let fd:FuncData:={ name:=name,qualname:=qn,params:=args,body:=.stmts body,scope:=sc,globals:=builtinsNs,closure:=[],defaults:=.none,kwdefaults:=.none }
 let lo (l1 l2:Value):List Obj:=[{ cls:=.none,data:=.func fd },{ cls:=.type "code",data:=.fields #[.str name t,.str qn (t+1),.str qA (t+2),rawInt pos.line,rawInt args.args.length,rawInt 0,rawInt 0,rawInt 3,.ref f,.bool true,rawInt 181,.ref (f+1),.none,l1,l2,.ref (g-2),rawInt (k-2:Nat),rawInt pos.line,.str qA (k-1)] },
  { cls:=.type "function",data:=.func { fd with globals:=mainGlobals,defaults:=(match args.defaults with| []=>.none|_=>.ref (f-1)),pyModule:=pm,code:=.ref (g-1),builtins:=builtinsNs } }]
 let rest:List Obj:=uU []::{ cls:=.none,data:=.fields #[] }::(match g-f with
  |4=>lo .none .none
  |_=>let c:=(localNames args sc (.stmts body)).getD ([],[]);uU (texts (t+3) c.1)::uU (texts (t+3+c.1.length) c.2)::lo (.ref (f+2)) (.ref (f+3)))
 match args.defaults with
 |[]=>rest
 |ds=>uU (consts (t-1) ds)::rest
noncomputable def CC(P:Params) (x:Str) (k a:Nat):DictEntry:=⟨o9 P x,.str x k,.ref a⟩
noncomputable def VK(P:Params) (s:Stmt) (w:Row):List DictEntry :=
 let d (x:Str):List DictEntry:=[CC P x w.2.2.2 w.2.2.1]
 Js s (fun x _ _ _ _=>d x) (fun x _ _ _ _=>d x) (fun ts v _=>Mk (ts.headD default) (fun x=>Mk v (fun _=>[]) (fun i=>[⟨o9 P x,.str x w.2.2.2,.int i w.2.1⟩]) (fun _=>[]) (fun _=>d x) []) (fun _=>[]) (fun _=>[]) (fun _=>[]) []) []
noncomputable def VL(s:Stmt) (w:Row):List Value :=
 Js s (fun _ _ _ _ pos=>[rawInt pos.line,rawInt pos.col,.ref (w.2.2.1-1)]) (fun _ _ _ _ pos=>[rawInt pos.line,rawInt pos.col,.ref (w.1+5)]) (fun _ _ _=>[]) []
noncomputable def Jt(P:Params):List Stmt->List Row->List DictEntry
 |s::r,w::q=>VK P s w++Jt P r q
 |_,_=>[]
noncomputable def Ju:List Stmt->List Row->List Value
 |s::r,w::q=>VL s w++Ju r q
 |_,_=>[]
noncomputable def defsOf(l:List Stmt):List Stmt:=l.filter fun s=>Js s (fun _ _ _ _ _=>true) (fun _ _ _ _ _=>false) (fun _ _ _=>false) false
noncomputable def Iu(c:Str) (pm:Value):List Stmt->List Row->List Obj
 |s::r,w::q=>Js s (fun name args body sc pos=>UB (c ++ "." ++ name) name args body sc pos pm w++Iu c pm r q) (fun _ _ _ _ _=>[]) (fun _ _ _=>[]) []
 |_,_=>[]
noncomputable def Ri(P:Params) (c:Str) (kind:Nat) (body:List Stmt) (sa:List Str) (pos:Pos) (pm:Value):Row->Nat×Nat×List Row->List Obj
 |(b,t,_,_),(s,ks,ms) =>
 let bt:List Value:=match kind with| 0=>[]|1=>[.type "Exception"]|_=>[.ref 24]
 let me:List DictEntry:=Jt P (defsOf body) ms
 let e0:DictEntry:=⟨o9 P "__module__",.str "__module__" (t+7),pm⟩
 let e2:DictEntry:=⟨o9 P "__firstlineno__",.str "__firstlineno__" (t+11),.int pos.line (t+10)⟩
 let e3:DictEntry:=CC P "__static_attributes__" ks s
 let u:=ks+1
 let dE (k:Nat):DictEntry:=⟨o9 P "__doc__",.str "__doc__" k,.none⟩
 let MT (k:Nat):Obj:={ cls:=.type "getset_descriptor",data:=.fields #[.str "__weakref__" k,.ref (s+2),.builtin "ExceptionGroup.__weakref__",.none] }
 let bs:List Value:=match kind with| 0=>[.type "object"]|_=>bt
 let s0:Option Value:=match kind with| 0=>none|_=>some (.ref b)
 let sub:List Value:=match kind with| 1=>[.ref 44]|_=>[]
 let ty (l:List Value) (n:String):Obj:=Obj.mk (.type "type") none (.cls { name:=c,bases:=bs,mro:=.ref (s+2)::l,ns:=s+1,qualname:=c,subclasses:=sub }) #[s0,none,some (.str c t),some (.str c (t+8)),some (.builtin n),some (.bool true)]
 let ns (l:List DictEntry) (n:Nat):Obj:={ cls:=.type "dict",data:=.dict (e0::e2::me++e3::l).toArray n }
 [uU bt,{ cls:=.type "builtin_function_or_method",data:=.fields #[.builtin "type.__prepare__",.type "type"] },
  { cls:=.type "dict",data:=.dict (e0::⟨o9 P "__qualname__",.str "__qualname__" (t+9),.str c (t+8)⟩::e2::me++[e3]).toArray (4+ms.length) },
  uU [],{ cls:=.none,data:=.fields (Ju (defsOf body) ms).toArray },
  { cls:=.type "code",data:=.fields #[.str c (t+2),.str c (t+3),.str qA (t+4),rawInt pos.line,rawInt 0,rawInt 0,rawInt 0,rawInt 0,.ref (b+3),.bool false,rawInt 181,.ref (b+4),.none,.none,.none,.none,rawInt (t+5:Nat),rawInt pos.line,.str qA (t+6)] },
  { cls:=.type "frame",slots:=#[some (.ref (b+5)),some (.ref 3),some (.ref (b+2)),none,some pm,none,some (.ref 0)] }]++Iu c pm (defsOf body) ms++[uU (texts (ks-sa.length) sa)] ++
 (match kind with
  |0=>[ns [CC P "__dict__" (u+1) (s+3),CC P "__weakref__" (u+3) (s+4),dE (u+4)] 4,ty [.type "object"] "object.__new__",{ cls:=.type "getset_descriptor",data:=.fields #[.str "__dict__" u,.ref (s+2),.builtin "function.__dict__",.builtin "function.__dict__#set"] },MT (u+2)]
  |1=>[ns [CC P "__weakref__" (u+1) (s+3),dE (u+2)] 3,ty [.type "Exception",.type "BaseException",.type "object"] "Exception.__new__",MT u]
  |_=>[ns [dE u] 2,ty [.ref 24,.type "Exception",.type "BaseException",.type "object"] "Exception.__new__"]) ++
 [{ cls:=.type "super",data:=.fields #[.ref (s+2),.ref (s+2),.ref (s+2)] },{ cls:=.type "builtin_function_or_method",data:=.fields #[.builtin "object.__init_subclass__",.ref (s+2)] }]
noncomputable def uV(P:Params) (pm:Value):List Stmt->List Row->List (Nat×Nat×List Row)->List Obj
 |s::r,w::q,cs=>Js s (fun name args body sc pos=>UB name name args body sc pos pm w++uV P pm r q cs)
   (fun c bases body sa pos=>match cs with
    |d::cs=>Ri P c (match bases with| b::_=>Mk b (fun x=>if x==("Exception" : Str) then 1 else 2) (fun _=>0) (fun _=>0) (fun _=>0) 0|_=>0) body sa pos pm w d++uV P pm r q cs
    |[]=>[])
   (fun _ v _=>Mk v (fun _=>uV P pm r q cs) (fun _=>uV P pm r q cs) (fun x=>uV P (.str x w.2.1) r q cs) (fun es=>uU (consts w.2.1 es)::uV P pm r q cs) (uV P pm r q cs)) (uV P pm r q cs)
 |_,_,_=>[]
noncomputable def iP(pm:Value):List Stmt->List Row->Value
 |s::r,w::q=>Js s (fun _ _ _ _ _=>iP pm r q) (fun _ _ _ _ _=>iP pm r q) (fun _ v _=>Mk v (fun _=>iP pm r q) (fun _=>iP pm r q) (fun x=>iP (.str x w.2.1) r q) (fun _=>iP pm r q) (iP pm r q)) (iP pm r q)
 |_,_=>pm
noncomputable def Iv:List Row:=[(0,187,0,0),(15,189,24,208),(28,209,44,233),(0,234,0,0),(0,236,0,237),(47,238,63,266),(68,267,84,295),(89,296,113,338),(118,339,134,369),(139,370,156,404),(161,405,167,411),(168,412,174,417),(175,418,181,424),(182,425,188,431),(189,432,195,439),(196,440,202,447),(203,448,209,454),(210,455,216,461),(217,462,223,468),(224,469,230,475),(0,476,0,0),(231,478,237,485),(238,486,244,493),(245,494,251,502),(252,503,256,508),(257,509,263,516),(264,517,268,522),(0,523,0,0),(269,525,269,527),(270,528,270,530),(271,531,271,533),(272,534,278,541),(279,542,285,550),(286,551,292,557),(293,558,299,564),(300,565,306,571),(307,572,313,578),(314,579,320,586),(321,587,327,596),(328,597,334,606),(0,607,0,0),(335,609,341,617),(342,618,348,629),(349,630,353,635),(354,636,360,645),(361,646,367,656),(368,657,374,670),(375,671,381,681),(382,682,388,692),(389,693,395,701),(396,702,402,709),(403,710,409,720),(410,721,416,732),(417,733,423,742),(424,743,430,751),(431,752,437,763),(438,764,444,779),(446,780,450,785),(0,786,0,0),(451,788,457,794),(458,795,464,801),(465,802,471,808),(472,809,478,815),(479,816,485,826),(486,827,492,836),(493,837,499,847),(500,848,506,861),(507,862,513,874),(514,875,520,882),(521,883,527,893),(528,894,534,904),(535,905,541,915),(542,916,548,924),(549,925,553,930),(554,931,558,936),(559,937,565,948),(566,949,570,954),(571,955,577,966),(578,967,584,974),(585,975,591,985),(592,986,598,1000),(599,1001,605,1008),(606,1009,610,1014),(611,1015,615,1020),(616,1021,622,1027),(623,1028,629,1039),(0,1040,0,0),(0,1042,0,1043),(630,1044,636,1053),(637,1054,643,1060),(644,1061,650,1070),(651,1071,657,1080),(658,1081,664,1088),(665,1089,671,1100),(672,1101,678,1110),(679,1111,685,1123),(686,1124,692,1140),(693,1141,699,1149),(700,1150,704,1155),(706,1157,712,1164),(713,1165,719,1174),(720,1175,726,1183),(727,1184,733,1192),(734,1193,740,1201),(741,1202,747,1220),(748,1221,754,1232),(0,1233,0,0),(0,1235,0,1236),(755,1237,761,1244),(762,1245,768,1254),(769,1255,775,1262),(776,1263,782,1269),(783,1270,789,1278),(790,1279,796,1288),(797,1289,803,1296),(804,1297,810,1305),(811,1306,817,1314),(818,1315,824,1322),(825,1323,831,1332),(832,1333,838,1339),(839,1340,845,1349),(846,1350,852,1357),(853,1358,857,1363),(858,1364,864,1371),(865,1372,869,1377),(870,1378,876,1384),(0,1385,0,0),(877,1387,883,1395),(884,1396,890,1405),(891,1406,897,1413),(898,1414,904,1421),(905,1422,911,1434),(912,1435,918,1447),(919,1448,925,1456),(926,1457,932,1465),(933,1466,939,1483),(940,1484,946,1499),(947,1500,953,1512),(954,1513,960,1525),(961,1526,967,1536),(968,1537,972,1542),(973,1543,979,1554),(980,1555,986,1562),(987,1563,993,1577),(994,1578,1000,1591),(1001,1592,1007,1602),(1008,1603,1014,1614),(1015,1615,1021,1624),(0,1625,0,0),(1022,1627,1028,1637),(1029,1638,1035,1644),(1036,1645,1042,1652),(1043,1653,1049,1661),(1050,1662,1054,1667),(1055,1668,1061,1677),(1062,1678,1066,1683),(1067,1684,1071,1689),(1072,1690,1078,1697),(1079,1698,1083,1703)]
noncomputable def Rj:List (Nat×Nat×List Row):=[(22,201,[]),(42,230,[(35,221,41,228)]),(61,259,[(54,250,60,256)]),(82,288,[(75,279,81,285)]),(111,331,[(97,308,103,317),(104,318,110,325)]),(132,362,[(125,351,131,358)]),(154,397,[(147,382,153,391)])]
noncomputable def bd:List Stmt:=Challenge.pw_nz0546_01.main.body
noncomputable def setName(v:Value):List DictEntry->List DictEntry
 |e::r=>{ e with val:=v }::r
 |[]=>[]
noncomputable def MU(P:Params) (k:Nat):List Obj :=
 let l:=bd.take k
 let q:=Iv.take k
 [boot_o_0 P,boot_o_1 P,(match k with
   |0=>boot_o_2 P
   |_=>match boot_o_2 P with
    |⟨c,d,.dict es n,sl⟩=>⟨c,d,.dict (es++#[⟨o9 P "type.__subclasses__.Exception.0",.str "type.__subclasses__.Exception.0" 205,rawInt 24⟩,⟨o9 P "type.__subclasses__.Exception.n",.str "type.__subclasses__.Exception.n" 206,rawInt 1⟩]) (n+2),sl⟩
    |o=>o),
  (match boot_o_3 P with
   |⟨c,d,.dict es n,sl⟩=>let m:=Jt P l q;⟨c,d,.dict ((setName (iP ((es.toList.head?.map (·.val)).getD .none) l q) es.toList)++m).toArray (n+m.length),sl⟩
   |o=>o),
  boot_o_4 P,boot_o_5 P,boot_o_6 P,boot_o_7 P,boot_o_8 P,boot_o_9 P,boot_o_10 P,
  uU [],{ cls:=.none,data:=.fields (Ju l q).toArray },
  { cls:=.type "code",data:=.fields #[.str "<module>" 182,.str "<module>" 183,.str qA 184,rawInt 1,rawInt 0,rawInt 0,rawInt 0,rawInt 0,.ref 11,.bool false,rawInt 181,.ref 12,.none,.none,.none,.none,rawInt 185,rawInt 1,.str qA 186] },
  { cls:=.type "frame",slots:=#[some (.ref 13),some (.ref 3),some (.ref 3),none,some (.str "__main__" 164),none,some (.ref 0)] }]
noncomputable def zT(P:Params) (k:Nat):List Obj:=MU P k++uV P .none (bd.take k) (Iv.take k) Rj
noncomputable def uW:List Obj->List Obj
 |a::_::r=>a::uW r
 |l=>l
noncomputable def qB:Nat->List Obj->BT
 |0,_=>.nil
 |_+1,[]=>.nil
 |n+1,a::r=>.node a (qB n (uW r)) (qB n (uW r.tail))
noncomputable def FI:Nat->Nat×Nat
 |0=>(15,187)
 |10=>(161,405)
 |60=>(458,795)
 |85=>(623,1028)
 |110=>(769,1255)
 |126=>(877,1385)
 |143=>(987,1563)
 |_=>(1084,1704)
noncomputable def Sn(w:World) (os:OsState) (k:Nat):SharedT:={ tree:=qB 11 (zT w.params k),n:=(FI k).1,life:={ },gens:=#[],drawn:={ },toks:=(FI k).2,os:=os }
noncomputable def yW:Env:={ scope:=Challenge.pw_nz0546_01.main.scope,locals:=mainNs,globals:=mainNs,cells:=[],code:=Value.ref 13,frame:=some 14 }
noncomputable def FL:Code:=PySem.Code.body bd yW
noncomputable def p0:Pos:={ line:=0,col:=0,endLine:=0,endCol:=0 }
noncomputable def MV(s:Stmt):Pos:=Js s (fun _ _ _ _ p=>p) (fun _ _ _ _ p=>p) (fun _ _ p=>p) p0
noncomputable def posK(k:Nat):Pos:=match k with| 0=>p0|k+1=>match bd.drop k with| s::_=>MV s|[]=>p0
def eu(a b:Nat):Prop:=∀(w:World) (os:OsState),segRunT treeTable Challenge.pw_nz0546_01 w 11 (some (.ref 6)) 1 20000 (Sn w os a)
  (piecesOf ((bd.drop a).take (b-a)) yW FL (posK a) [topFrame p0])=some (.next,Sn w os b,FL,posK b)
theorem tN(n:Nat):∀l:List Obj,l.length<n->(∀i:Nat,(uW l)[i]? = l[2*i]?)/\2*(uW l).length<=l.length+1:=by
 induction n with
 |zero=>exact fun l h=>absurd h (Nat.not_lt_zero _)
 |succ n ih =>
  intro l h
  cases l with
  |nil=>exact⟨fun i=>rfl,Nat.zero_le _⟩
  |cons a l=>cases l with
   |nil=>exact⟨fun i=>by cases i<;>rfl,Nat.le_refl _⟩
   |cons b r =>
    have z:=ih r (Nat.lt_of_succ_lt (Nat.lt_of_succ_lt_succ h))
    exact⟨fun i=>by
     cases i with
     |zero=>rfl
     |succ i=>exact z.1 i,Nat.succ_le_succ (Nat.succ_le_succ z.2)⟩
theorem w9(l:List Obj):∀i:Nat,(uW l)[i]? = l[2*i]?:=(tN _ l (Nat.lt_succ_self _)).1
theorem xd(l:List Obj):2*(uW l).length<=l.length+1:=(tN _ l (Nat.lt_succ_self _)).2
theorem half_lt{o k p:Nat}(h:2*o<=k+1) (h2:k+1<p*2):o<p:=by omega
theorem CD(j:Nat) (h:(j+1) % 2=1):2*((j+1) / 2)=j:=by omega
theorem A1(j:Nat) (h:¬(j+2) % 2=1):2*((j+2) / 2-1)=j:=by
 rw[Nat.add_div_right j (by decide),Nat.succ_sub_one]
 exact Nat.mul_div_cancel' (Nat.dvd_of_mod_eq_zero ((Nat.mod_two_eq_zero_or_one j).resolve_right fun q=>h ((Nat.add_mod_right j 2).trans q)))
theorem FN(n:Nat):∀(l:List Obj) (i:Nat),l.length<2 ^ n->(qB n l).get i=l[i]?:=by
 induction n with
 |zero =>
  intro l i h
  cases l with
  |nil=>rfl
  |cons=>exact absurd h (Nat.not_lt.mpr (Nat.succ_le_succ (Nat.zero_le _)))
 |succ n ih =>
  intro l i h
  cases l with
  |nil=>rfl
  |cons a r =>
   have hp:r.length+1<2 ^ n*2:=h
   show(BT.node a (qB n (uW r)) (qB n (uW r.tail))).get i=_
   rw[BT.get_node,ih _ _ (half_lt (xd r) hp),ih _ _ (half_lt (Nat.le_trans (xd r.tail) (Nat.succ_le_succ (List.length_tail▸Nat.sub_le ..))) hp),w9,w9]
   cases i with
   |zero=>rfl
   |succ j =>
    rw[if_neg (Nat.succ_ne_zero j)]
    by_cases q:(j+1) % 2=1
    ·rw[if_pos q,CD j q];rfl
    ·rw[if_neg q]
     cases j with
     |zero=>exact absurd rfl q
     |succ j=>rw[A1 j q];cases r<;>rfl
theorem tP{l:List Obj}{n:Nat}(hn:l.length=n) (h:n<2048) (life:Life):absHeap (qB 11 l) n life=⟨l.toArray,life⟩:=by
 unfold absHeap BT.list
 congr 2
 apply List.ext_getElem?
 intro i
 rw[List.getElem?_map]
 by_cases q:i<n
 ·rw[List.getElem?_range q,Option.map_some,FN 11 l i (by omega),List.getElem?_eq_getElem (by omega)];rfl
 ·rw[List.getElem?_eq_none (by rw[List.length_range];omega),List.getElem?_eq_none (by omega)];rfl
theorem VM:eu 0 10:=fun w os=>by kernel_rfl
theorem VN:eu 10 60:=fun w os=>by kernel_rfl
theorem VO:eu 60 85:=fun w os=>by kernel_rfl
theorem VP:eu 85 110:=fun w os=>by kernel_rfl
theorem VQ:eu 110 126:=fun w os=>by kernel_rfl
theorem VR:eu 126 143:=fun w os=>by kernel_rfl
theorem VS:eu 143 159:=fun w os=>by kernel_rfl
noncomputable def fR(w:World) (os:OsState):Shared:=⟨boot_heap w.params,Array.mk [],boot_drawn,boot_toks,os⟩
@[irreducible] noncomputable def hE (P:Params):Heap:=⟨(zT P 159).toArray,{ }⟩
noncomputable def kh(w:World) (os:OsState):Shared:=⟨hE w.params,#[],{ },1704,os⟩
theorem Rk(w:World) (os:OsState):(Sn w os 0).abs=⟨⟨(zT w.params 0).toArray,{ }⟩,#[],{ },187,os⟩:=by
 unfold Sn SharedT.abs
 rw[tP (n:=(FI 0).1) (by kernel_rfl) (by decide)];rfl
theorem Rl(w:World) (os:OsState):(Sn w os 159).abs=kh w os:=by
 unfold Sn SharedT.abs
 rw[tP (n:=(FI 159).1) (by kernel_rfl) (by decide)];unfold kh hE;rfl
theorem Rm(w:World) (os:OsState):topGo treeTable Challenge.pw_nz0546_01 w 11 (some (.ref 6)) 12 (fR w os) (topStub Challenge.pw_nz0546_01)=some (⟨⟨(zT w.params 0).toArray,{ }⟩,#[],{ },187,os⟩,⟨denote treeTable (.body bd yW),FL,p0,[topFrame p0]⟩):=by kernel_rfl
theorem Rn(w:World) (os:OsState):segRunT treeTable Challenge.pw_nz0546_01 w 11 (some (.ref 6)) 1 10 (Sn w os 0) (blockOf bd yW FL p0 [topFrame p0])=some (.next,Sn w os 0,FL,posK 0):=by kernel_rfl
theorem Ro(w:World) (os:OsState):qg treeTable Challenge.pw_nz0546_01 w 11 (some (.ref 6)) 5 (Sn w os 159) ⟨doneF .next,FL,posK 159,[topFrame p0]⟩=some (Sn w os 159):=by kernel_rfl
theorem qC{a b N:Nat}{w:World}{os:OsState}{r:Shared}(h:eu a b) (wW:a<=b) (k:topRun treeTable Challenge.pw_nz0546_01 w 11 (some (.ref 6)) N (Sn w os b).abs (restOf (bd.drop b) yW FL (posK b) [topFrame p0])=some r) :
  topRun treeTable Challenge.pw_nz0546_01 w 11 (some (.ref 6)) (20000+N) (Sn w os a).abs (restOf (bd.drop a) yW FL (posK a) [topFrame p0])=some r:=by
 have e:bd.drop a=(bd.drop a).take (b-a)++bd.drop b:=by
  have h1:=(List.take_append_drop (b-a) (bd.drop a)).symm
  rwa [List.drop_drop,show a+(b-a)=b by omega] at h1
 rw[e]
 exact piece_app (segRun_of (h w os)) k
theorem Jv(p1:eu 0 10) (p2:eu 10 60) (p3:eu 60 85) (p4:eu 85 110) (p5:eu 110 126) (p6:eu 126 143) (p7:eu 143 159) (w:World) (os:OsState) :
  topRun treeTable Challenge.pw_nz0546_01 w 11 (some (.ref 6)) 200000 (fR w os) (topStub Challenge.pw_nz0546_01)=some (kh w os):=by
 have z:bd.drop 159=[]:=List.drop_eq_nil_of_le (by decide +kernel)
 have k7:=w6 _ _ _ _ (Ro w os)
 have k8:topRun treeTable Challenge.pw_nz0546_01 w 11 (some (.ref 6)) 5 (Sn w os 159).abs (restOf (bd.drop 159) yW FL (posK 159) [topFrame p0])=some (Sn w os 159).abs:=by
  rw[z];exact piece_nil k7
 have k:=qC p1 (by omega) (qC p2 (by omega) (qC p3 (by omega) (qC p4 (by omega) (qC p5 (by omega) (qC p6 (by omega) (qC p7 (by omega) k8))))))
 have k9:=piece_block (segRun_of (Rn w os)) k
 rw[Rl,Rk] at k9
 have VT:=go_top (Rm w os) k9
 exact topRun_mono 59973 _ _ _ _ VT
noncomputable def MW:Program:={ Challenge.pw_nz0546_01 with main:={ Challenge.pw_nz0546_01.main with body:=bd.drop 158 } }
noncomputable def uX:List Str:=(Challenge.pw_nz0546_01.boundNames).filter fun k=>!(k==Str.ofString "law")
theorem VU(w:World):(fencedOpening treeTable Challenge.pw_nz0546_01 w 200000).map (fun s=>(s.heap,s.gens,s.drawn,s.toks))=some (boot_heap w.params,Array.mk [],boot_drawn,boot_toks) :=
 boot_open (by kernel_rfl) (by rfl) (fun s=>rfl) w
theorem Rp(w:World) (os:OsState):(staticsOk (importedModules Challenge.pw_nz0546_01.main.body) (fR w os).heap (kh w os).heap&&namesBound Challenge.pw_nz0546_01 (kh w os).heap&&gensDone (kh w os)&&laidKept (fR w os).heap (kh w os).heap)=true:=by kernel_rfl
theorem VV(w:World) (os:OsState):((fR w os).heap.isNs mainGlobals&&(fR w os).gens.size==0)=true:=by kernel_rfl
theorem st1(w:World) (os:OsState):(fR w os).heap.objs.size=11:=by kernel_rfl
theorem st2(w:World) (os:OsState):(fR w os).heap.nsMap mainGlobals "__annotations__" = some (.ref 6):=by kernel_rfl
theorem MX(w:World) (os:OsState):openSeen MW uX (importedModules Challenge.pw_nz0546_01.main.body) (fun _=>true) true (kh w os)=openGood MW uX:=by kernel_rfl
end Mine
namespace Mine
open PySem
abbrev Tx:=List Nat
noncomputable def tx(s:Tx):Str:=⟨s.toArray⟩
inductive ie|null|missing|aQ|symbol|call|aJ
@[reducible] noncomputable def ie.CG:ie->Bool
 |.aQ=>true
 |.aJ=>true
 |_=>false
set_option genCtorIdx false in
inductive PV
 |none
 |bool (b:Bool)
 |int (i:Int)
 |str (s:Tx)
 |tup (l:List PV)
 |lst (l:List PV)
 |aK (l:List (Tx×PV))
 |eW (l:List (Int×PV))
 |inst (c:ie) (fs:List (Tx×PV))
noncomputable def PV.ctorIdx(t:PV):Nat:=PV.casesOn (motive_1:=fun _=>Nat) t 0 (fun _=>1) (fun _=>2) (fun _=>3) (fun _=>4) (fun _=>5) (fun _=>6) (fun _=>7) (fun _ _=>8)
set_option genCtorIdx false in
inductive AV
 |t (d:PV)
 |r (i:Nat)
noncomputable def AV.ctorIdx(t:AV):Nat:=AV.casesOn (motive:=fun _=>Nat) t (fun _=>0) (fun _=>1)
set_option genCtorIdx false in
inductive Node
 |fz (d:PV)
 |lst (l:List PV)
 |aK (l:List (Tx×PV))
 |eW (l:List (Int×PV))
 |inst (c:ie) (fs:List (Tx×AV))
noncomputable def Node.ctorIdx(t:Node):Nat:=Node.casesOn (motive:=fun _=>Nat) t (fun _=>0) (fun _=>1) (fun _=>2) (fun _=>3) (fun _ _=>4)
noncomputable def lim:Nat:=4096
inductive yX|add|sub|mul|fdiv|mod
inductive Cm|eq|ne|lt|le|gt|ge|is|eg|oq|sQ
inductive Bi|len|max2|qD|abs|chr|list|dZ|dict|mq|isStr
inductive Mt|append|extend|pop|reverse|index|xe|qE
set_option genCtorIdx false in
inductive E
 |none
 |bool (b:Bool)
 |int (i:Int)
 |str (s:Tx)
 |var (i:Nat)
 |glob (i:Int) (x:Tx)
 |attr (e:E) (f:Tx)
 |bin (o:yX) (a b:E)
 |neg (a:E)
 |not (a:E)
 |cmp (o:Cm) (a b:E)
 |and (l:List E)
 |or (l:List E)
 |ite (c a b:E)
 |list (l:List E)
 |tup (l:List E)
 |dz (ks:List Tx) (vs:List E)
 |CH
 |sub (a i:E)
 |slice (a:E) (lo hi:Option E)
 |call (f:Nat) (l:List E)
 |new (c:ie) (f:Nat) (l:List E)
 |copy (f:Nat) (a:E)
 |bi (b:Bi) (l:List E)
 |b4 (m:Mt) (a:E) (l:List E)
 |comp (x:Nat) (src:E) (cond:Option E) (elt:E)
 |cO (x:Nat) (src:List E) (cond:Option E) (elt:E)
 |pg (x:Nat) (src key val:E)
 |CI (pre:Tx) (e:E) (post:Tx)
 |kept (e:E)
 |pure (e:E)
noncomputable def E.ctorIdx(t:E):Nat:=E.casesOn (motive_1:=fun _=>Nat) t 0 (fun _=>1) (fun _=>2) (fun _=>3) (fun _=>4) (fun _ _=>5) (fun _ _=>6) (fun _ _ _=>7) (fun _=>8) (fun _=>9) (fun _ _ _=>10) (fun _=>11) (fun _=>12) (fun _ _ _=>13) (fun _=>14) (fun _=>15) (fun _ _=>16) 17 (fun _ _=>18) (fun _ _ _=>19) (fun _ _=>20) (fun _ _ _=>21) (fun _ _=>22) (fun _ _=>23) (fun _ _ _=>24) (fun _ _ _ _=>25) (fun _ _ _ _=>26) (fun _ _ _ _=>27) (fun _ _ _=>28) (fun _=>29) (fun _=>30)
set_option genCtorIdx false in
inductive S
 |assign (x:Nat) (e:E)
 |qh (x y:Nat) (e:E)
 |setattr (o:E) (f:Tx) (e:E)
 |dP (o i e:E)
 |qi (o i:E)
 |expr (e:E)
 |ifs (c:E) (a b:List S)
 |gp (x:Nat) (src:E) (body:List S)
 |forR (x:Nat) (src:List E) (body:List S)
 |ret (e:E)
 |FP
 |raise (e:E)
 |cont
 |bad
 |cut (n:Nat) (s:S)
noncomputable def S.ctorIdx(t:S):Nat:=S.casesOn (motive_1:=fun _=>Nat) t (fun _ _=>0) (fun _ _ _=>1) (fun _ _ _=>2) (fun _ _ _=>3) (fun _ _=>4) (fun _=>5) (fun _ _ _=>6) (fun _ _ _=>7) (fun _ _ _=>8) (fun _=>9) 10 (fun _=>11) 12 13 (fun _ _=>14)
abbrev aB:=List Node
abbrev Gm:=List (Option AV)
abbrev R(α:Type):=Option (Except (Tx×aB) (α×aB))
@[reducible] noncomputable def ok {α:Type}(a:α) (st:aB):R α:=some (.ok (a,st))
noncomputable def R.bind{α β:Type}:R α->(α->aB->R β)->R β
 |some (.ok (a,st)),f=>f a st
 |some (.error m),_=>some (.error m)
 |Option.none,_=>Option.none
noncomputable def ie.n:ie->Nat|.null=>0|.missing=>1|.aQ=>2|.symbol=>3|.call=>4|.aJ=>5
mutual
noncomputable def i8:Nat->aB->AV->Option (PV×aB)
 |_,st,.t d=>some (d,st)
 |0,_,.r _=>Option.none
 |n+1,st,.r i=>match st[i]? with
  |some (.fz d)=>some (d,st)
  |some (.lst l)=>some (.lst l,st.set i (.fz (.lst l)))
  |some (.aK l)=>some (.aK l,st.set i (.fz (.aK l)))
  |some (.eW l)=>some (.eW l,st.set i (.fz (.eW l)))
  |some (.inst c fs)=>match qb n st fs with
   |some (ds,st')=>match st'[i]? with
    |some (.inst c' fs')=>if c'.n=c.n/\fs'.map (·.1)=fs.map (·.1) then some (.inst c ds,st'.set i (.fz (.inst c ds))) else Option.none
    |_=>Option.none
   |Option.none=>Option.none
  |Option.none=>Option.none
noncomputable def qb:Nat->aB->List (Tx×AV)->Option (List (Tx×PV)×aB)
 |_,st,[]=>some ([],st)
 |0,_,_::_=>Option.none
 |n+1,st,(f,a)::r=>match i8 n st a with
  |some (d,st')=>match qb n st' r with
   |some (ds,dQ)=>some ((f,d)::ds,dQ)
   |Option.none=>Option.none
  |Option.none=>Option.none
end
noncomputable def cT:Nat:=24
noncomputable def eX(st:aB) (a:AV):R PV:=match i8 cT st a with
 |some (d,st')=>ok d st'
 |Option.none=>Option.none
noncomputable def fE:aB->List AV->R (List PV)
 |st,[]=>ok [] st
 |st,a::r=>(eX st a).bind fun d st=>(fE st r).bind fun ds st=>ok (d::ds) st
noncomputable def Jw:Option Node->Option PV
 |some (.fz d)=>some d
 |some (.lst l)=>some (.lst l)
 |some (.aK l)=>some (.aK l)
 |some (.eW l)=>some (.eW l)
 |_=>Option.none
noncomputable def vw(st:aB):AV->Option PV
 |.t d=>some d
 |.r i=>Jw st[i]?
noncomputable def cj{α:Type}(k:Tx):List (Tx×α)->Option α
 |[]=>Option.none
 |p::r=>if p.1=k then some p.2 else cj k r
noncomputable def gP{α:Type}(k:Int):List (Int×α)->Option α
 |[]=>Option.none
 |p::r=>if p.1=k then some p.2 else gP k r
noncomputable def putK{α:Type}(k:Tx) (v:α) (l:List (Tx×α)):List (Tx×α):=if l.any (fun p=>decide (p.1=k)) then l.map (fun p=>if p.1=k then(p.1,v) else p) else l++[(k,v)]
noncomputable def xg{α:Type}(k:Int) (v:α) (l:List (Int×α)):List (Int×α):=if l.any (fun p=>decide (p.1=k)) then l.map (fun p=>if p.1=k then(p.1,v) else p) else l++[(k,v)]
noncomputable def FQ{α:Type}(k:Tx) (l:List (Tx×α)):List (Tx×α):=l.filter fun p=>decide (p.1≠k)
noncomputable def truth:PV->Option Bool
 |.none=>some false
 |.bool b=>some b
 |_=>Option.none
noncomputable def isNone:PV->Bool
 |.none=>true
 |_=>false
noncomputable def fQ:PV->Bool
 |.none=>true
 |.int _=>true
 |.str _=>true
 |_=>false
noncomputable def ja:PV->PV->Bool
 |.none,e=>isNone e
 |.int i,e=>(match e with| .int j=>decide (i=j)|_=>false)
 |.str s,e=>(match e with| .str t=>decide (s=t)|_=>false)
 |_,_=>false
noncomputable def m7:Nat->PV->Bool
 |0,d=>fQ d
 |n+1,d=>match d with
  |.tup l=>l.all (m7 n)
  |.lst l=>l.all (m7 n)
  |.aK l=>l.isEmpty
  |d=>fQ d
noncomputable def MY:PV->Bool
 |.aK l=>l.all fun p=>m7 8 p.2
 |_=>false
noncomputable def Cu(d:PV):Bool:=m7 8 d||MY d
noncomputable def CK:PV->Bool
 |.tup l=>l.all Cu
 |_=>false
open Classical in
noncomputable def qF(d e:PV):Option Bool:=if d=e/\CK d=true then some true else Option.none
noncomputable def tQ(a b:Nat) (d e:PV):Option Bool:=if a=b then(if a=0 then some true else qF d e) else some false
noncomputable def eqT(d e:PV):Option Bool:=if fQ d&&fQ e then some (ja d e) else match d with
 |.lst l=>(match e with| .lst k=>tQ l.length k.length d e|_=>qF d e)
 |.aK l=>(match e with| .aK k=>tQ l.length k.length d e|_=>qF d e)
 |_=>qF d e
noncomputable def arith:yX->Int->Int->Option Int
 |.add,a,b=>some (a+b)
 |.sub,a,b=>some (a-b)
 |.mul,_,_=>Option.none
 |.fdiv,a,b=>if b=0\/b.natAbs ≥ 1048576 then Option.none else some (Int.fdiv a b)
 |.mod,a,b=>if b=0 then Option.none else some (Int.fmod a b)
noncomputable def A3:Cm->Int->Int->Bool
 |.lt,a,b=>decide (a<b)
 |.le,a,b=>decide (a<=b)
 |.gt,a,b=>decide (b<a)
 |.ge,a,b=>decide (b<=a)
 |_,_,_=>false
noncomputable def Fv(d:PV) (l:List PV):Option Bool:=if fQ d&&l.all fQ then some (l.any fun e=>ja e d) else Option.none
noncomputable def isIn(d:PV):PV->Option Bool
 |.lst l=>Fv d l
 |.tup l=>Fv d l
 |.aK l=>(match d with| .str k=>some (cj k l).isSome|_=>Option.none)
 |.eW l=>(match d with| .int k=>some (gP k l).isSome|_=>Option.none)
 |_=>Option.none
noncomputable def MZ(o:Cm) (d e:PV):Option Bool:=match d with
 |.int a=>(match e with| .int b=>some (A3 o a b)|_=>Option.none)
 |_=>Option.none
noncomputable def qG(o:Cm) (d e:PV):Option Bool:=match o with
 |.eq=>eqT d e
 |.ne=>(eqT d e).map (!·)
 |.is=>if isNone e then some (isNone d) else Option.none
 |.eg=>if isNone e then some (!isNone d) else Option.none
 |.oq=>isIn d e
 |.sQ=>(isIn d e).map (!·)
 |o=>MZ o d e
noncomputable def alloc(st:aB) (nd:Node):R AV:=ok (.r st.length) (st++[nd])
noncomputable def sV(o:Option PV) (st:aB):R AV:=match o with| some r=>ok (.t r) st|Option.none=>Option.none
noncomputable def m9(o:Option Int) (st:aB):R AV:=match o with| some r=>ok (.t (.int r)) st|Option.none=>Option.none
noncomputable def jI(o:Option Bool) (st:aB):R AV:=match o with| some r=>ok (.t (.bool r)) st|Option.none=>Option.none
noncomputable def isAdd:yX->Bool|.add=>true|_=>false
noncomputable def isMul:yX->Bool|.mul=>true|_=>false
noncomputable def rep1(l:List PV) (n:Int) (st:aB):R AV:=match l with
 |[d]=>if -2000<=n/\n<=2000 then alloc st (.lst (List.replicate n.toNat d)) else Option.none
 |_=>Option.none
noncomputable def Jx(a b:List PV) (st:aB):R AV:=if a.length+b.length<=lim then alloc st (.lst (a++b)) else Option.none
noncomputable def Jy(o:yX) (st:aB) (d e:PV):R AV:=match d with
 |.int a=>(match e with| .int b=>m9 (arith o a b) st|_=>Option.none)
 |.lst a=>(match e with
  |.lst b=>if isAdd o then Jx a b st else Option.none
  |.int n=>if isMul o then rep1 a n st else Option.none
  |_=>Option.none)
 |_=>Option.none
noncomputable def Ml:Option Int->Nat
 |some i=>i.toNat
 |Option.none=>0
noncomputable def M0(n:Nat):Option Int->Nat
 |some i=>i.toNat
 |Option.none=>n
noncomputable def cut(l:List PV) (lo hi:Option Int):List PV:=(l.take (M0 l.length hi)).drop (Ml lo)
noncomputable def xh(l:List PV) (i:PV):Option PV:=match i with| .int k=>if 0<=k then l[k.toNat]? else Option.none|_=>Option.none
noncomputable def item(d:PV) (i:PV):Option PV:=match d with
 |.lst l=>xh l i
 |.tup l=>xh l i
 |.aK l=>(match i with| .str k=>cj k l|_=>Option.none)
 |_=>Option.none
noncomputable def A4:PV->Option Int
 |.lst l=>some l.length
 |.tup l=>some l.length
 |.aK l=>some l.length
 |.eW l=>some l.length
 |_=>Option.none
noncomputable def cI(a b:Int):List PV:=(List.range (b-a).toNat).map fun(k:Nat)=>PV.int (a+(k:Int))
noncomputable def intsOf:List PV->Option (List Int)
 |[]=>some []
 |.int i::r=>(intsOf r).map (i::·)
 |_=>Option.none
noncomputable def maxOf:List Int->Option Int
 |[]=>Option.none
 |a::r=>some (r.foldl max a)
noncomputable def idxOf(d:PV):List PV->Nat->Option Nat
 |[],_=>Option.none
 |e::r,n=>if ja e d then some n else idxOf d r (n+1)
noncomputable def Mm(b:Bi) (st:aB) (x:PV):R AV:=match b with
 |.len=>m9 (A4 x) st
 |.qD=>(match x with| .lst l=>m9 ((intsOf l).bind maxOf) st|_=>Option.none)
 |.abs=>(match x with| .int i=>ok (.t (.int i.natAbs)) st|_=>Option.none)
 |.chr=>(match x with| .int i=>if 0<=i/\i<128 then ok (.t (.str [i.toNat])) st else Option.none|_=>Option.none)
 |.list=>(match x with| .lst l=>alloc st (.lst l)|_=>Option.none)
 |.dict=>(match x with| .aK l=>alloc st (.aK l)|_=>Option.none)
 |_=>Option.none
noncomputable def Iw(st:aB) (x y:PV):R AV:=match x with
 |.int a=>(match y with| .int b=>ok (.t (.int (max a b))) st|_=>Option.none)
 |_=>Option.none
noncomputable def xj(b:Bi) (st:aB):List PV->R AV
 |[x]=>Mm b st x
 |[x,y]=>(match b with| .max2=>Iw st x y|_=>Option.none)
 |_=>Option.none
noncomputable def yY:Option Node->Option Bool
 |some (.inst c _)=>some c.CG
 |some (.fz (.inst c _))=>some c.CG
 |_=>Option.none
noncomputable def yZ:PV->Option Bool
 |.inst c _=>some c.CG
 |.none=>some false
 |.str _=>some false
 |_=>Option.none
noncomputable def oz(st:aB):AV->Option Bool
 |.t d=>yZ d
 |.r i=>yY st[i]?
noncomputable def A5(o:Option AV) (st:aB):R AV:=match o with| some r=>ok r st|Option.none=>Option.none
noncomputable def M4(f:Tx):Option Node->Option AV
 |some (.inst _ fs)=>cj f fs
 |some (.fz (.inst _ fs))=>(cj f fs).map AV.t
 |_=>Option.none
noncomputable def M5(f:Tx):PV->Option AV
 |.inst _ fs=>(cj f fs).map AV.t
 |_=>Option.none
noncomputable def uY(st:aB) (a:AV) (f:Tx):R AV:=match a with
 |.t d=>A5 (M5 f d) st
 |.r i=>A5 (M4 f st[i]?) st
inductive MK|list|tup|dict
noncomputable def UC:Mt->Option MK|.xe=>Option.none|.qE=>Option.none|_=>some .list
noncomputable def VW:Mt->Option MK|.index=>some .tup|_=>Option.none
noncomputable def VX:Mt->Option MK|.xe=>some .dict|.qE=>some .dict|_=>Option.none
noncomputable def mQ(m:Mt):Option PV->Option MK
 |some (.lst _)=>UC m
 |some (.tup _)=>VW m
 |some (.aK _)=>VX m
 |_=>Option.none
noncomputable def xm(m:Mt) (st:aB) (a:AV):Option MK:=mQ m (vw st a)
noncomputable def sN:PV->Bool
 |.str _=>true
 |.none=>true
 |_=>false
noncomputable def ng(l:List PV):Bool:=l.all sN
noncomputable def Mn{α:Type}(a:AV) (f:Nat->Option α):Option α:=match a with| .r i=>f i|_=>Option.none
noncomputable def FT(o:Option Node) (st:aB) (i:Nat) (d:PV):R AV:=match o with
 |some (.lst xs)=>if xs.length<2000 then ok (.t .none) (st.set i (.lst (xs++[d]))) else Option.none
 |_=>Option.none
noncomputable def M6(o:Option Node) (st:aB) (i:Nat) (d:PV):R AV:=match o with
 |some (.lst xs)=>(match d with| .lst ys=>if xs.length+ys.length<2000 then ok (.t .none) (st.set i (.lst (xs++ys))) else Option.none|_=>Option.none)
 |_=>Option.none
noncomputable def M7(o:Option Node) (st:aB) (i:Nat):R AV:=match o with
 |some (.lst xs)=>sV xs.getLast? (st.set i (.lst xs.dropLast))
 |_=>Option.none
noncomputable def M8(o:Option Node) (st:aB) (i:Nat):R AV:=match o with
 |some (.lst xs)=>ok (.t .none) (st.set i (.lst xs.reverse))
 |_=>Option.none
noncomputable def FU(d:PV) (xs:List PV) (st:aB):R AV:=match d with
 |.str _=>if ng xs then m9 ((idxOf d xs 0).map fun n=>(n:Int)) st else Option.none
 |_=>Option.none
noncomputable def M9(k:MK) (o:Option PV) (d:PV) (st:aB):R AV:=match o with
 |some (.lst xs)=>(match k with| .list=>FU d xs st|_=>Option.none)
 |some (.tup xs)=>(match k with| .tup=>FU d xs st|_=>Option.none)
 |_=>Option.none
noncomputable def CL(o:Option PV) (k e:PV) (st:aB):R AV:=match o with
 |some (.aK xs)=>(match k with| .str x=>ok (.t ((cj x xs).getD e)) st|_=>Option.none)
 |_=>Option.none
noncomputable def mu(m:Mt) (k:MK) (st:aB) (a:AV):List PV->R AV
 |[]=>(match m with
  |.pop=>Mn a fun i=>M7 st[i]? st i
  |.reverse=>Mn a fun i=>M8 st[i]? st i
  |_=>Option.none)
 |[d]=>(match m with
  |.append=>Mn a fun i=>FT st[i]? st i d
  |.extend=>Mn a fun i=>M6 st[i]? st i d
  |.index=>M9 k (vw st a) d st
  |.xe=>CL (vw st a) d .none st
  |_=>Option.none)
 |[d,e]=>(match m with| .qE=>CL (vw st a) d e st|_=>Option.none)
 |_=>Option.none
noncomputable def mw:PV->Option (List PV)
 |.lst l=>some l
 |.tup l=>some l
 |.aK l=>if l.all (fun p=>decide (p.1.length<=4096)&&p.1.all (· < 0x110000)) then some (l.map fun p=>.str p.1) else Option.none
 |_=>Option.none
noncomputable def under(n:Nat):AV->Bool
 |.r i=>decide (i<n)
 |_=>true
noncomputable def dO(n:Nat):Node->Bool
 |.inst _ fs=>fs.all fun p=>under n p.2
 |_=>true
noncomputable def back(n:Nat) (st:aB):Option aB:=if(st.take n).all (dO n) then some (st.take n) else Option.none
noncomputable def dh(n:Nat):Gm->aB->Option (Gm×aB)
 |[],st=>some ([],st)
 |some (.r i)::g,st=>if i<n then(dh n g st).map fun q=>(some (.r i)::q.1,q.2) else match i8 cT st (.r i) with
  |some (d,st')=>(dh n g st').map fun q=>(some (.t d)::q.1,q.2)
  |Option.none=>Option.none
 |x::g,st=>(dh n g st).map fun q=>(x::q.1,q.2)
noncomputable def kj(n m:Nat) (g:Gm) (st:aB):Option (Gm×aB):=match dh n g st with
 |some (g',st')=>match back m st' with
  |some dQ=>some (g',dQ)
  |Option.none=>Option.none
 |Option.none=>Option.none
noncomputable def settle(n:Nat) (g:Gm) (st:aB):Option (Gm×aB):=kj n n g st
noncomputable def cV(st:aB) (a:AV):Option Bool:=(vw st a).bind truth
abbrev fy:=Nat->List AV->aB->R AV
noncomputable def uZ(st:aB):List AV->R (List PV)
 |[]=>ok [] st
 |a::r=>match vw st a with
  |some d=>(uZ st r).bind fun ds st=>ok (d::ds) st
  |Option.none=>Option.none
noncomputable def A6:AV->Option Int
 |.t (.int b)=>some b
 |_=>Option.none
noncomputable def Na(a b:Int):Option (List PV):=if(-2000<=a/\a<=2000)/\-2000<=b/\b<=2000 then some (cI a b) else Option.none
noncomputable def sR:List AV->Option (List PV)
 |[x]=>(A6 x).bind fun b=>if -2000<=b/\b<=2000 then some (cI 0 b) else Option.none
 |[x,y]=>(A6 x).bind fun a=>(A6 y).bind fun b=>Na a b
 |_=>Option.none
noncomputable def Nb(d:PV):Option (Tx×PV):=match d with
 |.tup [.str k,v]=>some (k,v)
 |_=>Option.none
noncomputable def FW:List PV->Option (List (Tx×PV))
 |[]=>some []
 |d::r=>match Nb d with
  |some p=>(FW r).map (p::·)
  |Option.none=>Option.none
noncomputable def turns(f:PV->aB->R (Option PV)):List PV->aB->R (List PV)
 |[],st=>ok [] st
 |d::ds,st=>match f d st with
  |some (.ok (o,st'))=>match back st.length st' with
   |some dQ=>(turns f ds dQ).bind fun l Nc=>ok (match o with| some e=>e::l|Option.none=>l) Nc
   |Option.none=>Option.none
  |_=>Option.none
noncomputable def gq{α:Type}(b:Option Bool) (x y:Option α):Option α:=match b with
 |some true=>x
 |some false=>y
 |Option.none=>Option.none
noncomputable def oB{α β:Type}(o:Option α) (f:α->Option β):Option β:=match o with| some a=>f a|Option.none=>Option.none
abbrev Kv:=Gm->aB->R AV
noncomputable def A7(o:Option (Option AV)) (st:aB):R AV:=match o with| some (some a)=>ok a st|_=>Option.none
noncomputable def y9(o:yX) (st:aB) (d e:Option PV):R AV:=oB d fun d=>oB e fun e=>Jy o st d e
noncomputable def gk(o:Cm) (st:aB) (d e:Option PV):R AV:=oB d fun d=>oB e fun e=>jI (qG o d e) st
noncomputable def sW(st:aB) (d e:Option PV):R AV:=oB d fun d=>oB e fun e=>sV (item d e) st
noncomputable def Jz(a:AV) (st:aB):R AV:=match a with| .t (.int i)=>ok (.t (.int (-i))) st|_=>Option.none
noncomputable def FY(b:Option Bool) (st:aB):R AV:=match b with| some b=>ok (.t (.bool (!b))) st|Option.none=>Option.none
noncomputable def k1{β:Type}(P:aB->AV->R β) (k:Kv) (g:Gm) (st:aB):R β:=(k g st).bind fun a st=>P st a
noncomputable def k2{β:Type}(P:aB->AV->AV->R β) (k k':Kv) (g:Gm) (st:aB):R β:=(k g st).bind fun a st=>(k' g st).bind fun b st=>P st a b
noncomputable def kN{β:Type}(P:aB->List AV->R β) (k:Gm->aB->R (List AV)) (g:Gm) (st:aB):R β:=(k g st).bind fun as st=>P st as
noncomputable def CM(f:Tx) (st:aB) (a:AV):R AV:=uY st a f
noncomputable def Nd(o:yX) (st:aB) (a b:AV):R AV:=y9 o st (vw st a) (vw st b)
noncomputable def Nf(o:Cm) (st:aB) (a b:AV):R AV:=gk o st (vw st a) (vw st b)
noncomputable def Ng(st:aB) (a b:AV):R AV:=sW st (vw st a) (vw st b)
noncomputable def JA(st:aB) (a:AV):R AV:=Jz a st
noncomputable def A8(st:aB) (a:AV):R AV:=FY (cV st a) st
noncomputable def CN(st:aB) (as:List AV):R AV:=(fE st as).bind fun ds st=>alloc st (.lst ds)
noncomputable def JB(st:aB) (as:List AV):R AV:=(fE st as).bind fun ds st=>ok (.t (.tup ds)) st
noncomputable def CO(ks:List Tx) (st:aB) (as:List AV):R AV:=(fE st as).bind fun ds st=>if ks.length=ds.length then alloc st (.aK (ks.zip ds)) else Option.none
noncomputable def Iz(C:fy) (f:Nat) (st:aB) (as:List AV):R AV:=C f as st
noncomputable def Nh(i:Nat) (a:AV) (st:aB):R AV:=match a with
 |.t .none=>ok (.r i) st
 |_=>Option.none
noncomputable def A9(C:fy) (c:ie) (f:Nat) (st:aB) (as:List AV):R AV:=(C f (.r st.length::as) (st++[.inst c []])).bind fun a st'=>Nh st.length a st'
noncomputable def xo(C:fy) (f:Nat) (st:aB) (a:AV):R AV:=match oz st a with
 |some true=>C f [a] st
 |_=>Option.none
noncomputable def JC:PV->Option Bool
 |.str _=>some true
 |.none=>some false
 |.inst _ _=>some false
 |.tup _=>some false
 |_=>Option.none
noncomputable def Ni:AV->Option Bool
 |.t d=>JC d
 |_=>Option.none
noncomputable def UD(n:Int) (st:aB):R AV:=if -2000<=n/\n<=2000 then alloc st (.lst (cI 0 n)) else Option.none
noncomputable def one{β:Type}(as:List AV) (P:AV->Option β):Option β:=match as with| [a]=>P a|_=>Option.none
noncomputable def FZ(b:Bi) (st:aB) (as:List AV):R AV:=match b with
 |.mq=>one as fun a=>jI (oz st a) st
 |.isStr=>one as fun a=>jI (Ni a) st
 |.dZ=>one as fun a=>oB (A6 a) fun n=>UD n st
 |b=>(uZ st as).bind fun ds st=>xj b st ds
noncomputable def u0(o:Option MK) (m:Mt) (a:AV) (ks:Gm->aB->R (List AV)) (g:Gm) (st:aB):R AV:=oB o fun k=>(ks g st).bind fun as st=>(fE st as).bind fun ds st=>mu m k st a ds
noncomputable def IA(m:Mt) (k:Kv) (ks:Gm->aB->R (List AV)) (g:Gm) (st:aB):R AV:=(k g st).bind fun a st=>u0 (xm m st a) m a ks g st
noncomputable def F0(k x y:Kv) (g:Gm) (st:aB):R AV:=(k g st).bind fun a st=>gq (cV st a) (x g st) (y g st)
noncomputable def F1(k x:Kv) (g:Gm) (st:aB):R AV:=(k g st).bind fun a st=>gq (cV st a) (x g st) (ok a st)
noncomputable def QG(k x:Kv) (g:Gm) (st:aB):R AV:=(k g st).bind fun a st=>gq (cV st a) (ok a st) (x g st)
noncomputable def UE(a:AV) (st:aB):R (Option Int):=match a with| .t (.int i)=>if 0<=i then ok (some i) st else Option.none|_=>Option.none
noncomputable def IB(st:aB) (a:AV):R (Option Int):=UE a st
noncomputable def UG(o:Option PV) (p q:Option Int) (st:aB):R AV:=match o with
 |some (.lst l)=>alloc st (.lst (cut l p q))
 |_=>Option.none
noncomputable def CP(k:Kv) (k1 k2:Gm->aB->R (Option Int)) (g:Gm) (st:aB):R AV:=(k g st).bind fun a st=>(k1 g st).bind fun p st=>(k2 g st).bind fun q st=>UG (vw st a) p q st
noncomputable def eY(st:aB) (a:AV):R Bool:=oB (cV st a) fun r=>ok r st
noncomputable def nh(st:aB) (a:AV):R (List PV):=(eX st a).bind fun d st=>oB (mw d) fun l=>ok l st
noncomputable def qH(st:aB) (as:List AV):R (List PV):=oB (sR as) fun l=>ok l st
noncomputable def ju(x:Nat) (kt:Gm->aB->R Bool) (ke:Kv) (g:Gm) (d:PV) (st:aB):R (Option PV) :=
 (kt (g.set x (some (.t d))) st).bind fun b st=>if b then(ke (g.set x (some (.t d))) st).bind fun a st=>(eX st a).bind fun d st=>ok (some d) st else ok Option.none st
noncomputable def qI(src:Gm->aB->R (List PV)) (f:Gm->PV->aB->R (Option PV)) (g:Gm) (st:aB):R AV:=(src g st).bind fun items st=>(turns (f g) items st).bind fun l st=>alloc st (.lst l)
noncomputable def JD(kk:AV) (vd:PV) (st:aB):R (Option PV):=match kk with
 |.t (.str kt)=>if kt=[115,104,97,114,101,100] then Option.none else ok (some (.tup [.str kt,vd])) st
 |_=>Option.none
noncomputable def oA(x:Nat) (kk kv:Kv) (g:Gm) (d:PV) (st:aB):R (Option PV) :=
 (kk (g.set x (some (.t d))) st).bind fun k st=>(kv (g.set x (some (.t d))) st).bind fun v st=>(eX st v).bind fun vd st=>JD k vd st
noncomputable def F2(l:List PV) (st:aB):R AV:=oB (FW l) fun ps=>if(ps.map (·.1)).Nodup then alloc st (.aK ps) else Option.none
noncomputable def za(src:Gm->aB->R (List PV)) (f:Gm->PV->aB->R (Option PV)) (g:Gm) (st:aB):R AV:=(src g st).bind fun items st=>(turns (f g) items st).bind fun l st=>F2 l st
noncomputable def CQ(p q:Tx) (st:aB) (a:AV):R AV:=match a with| .t (.str s)=>if s.length<=1000 then ok (.t (.str (p++s++q))) st else Option.none|_=>Option.none
noncomputable def zU:R AV->R AV
 |some (.ok p)=>some (.ok p)
 |some (.error (m,st'))=>ok (.t (.str m)) st'
 |Option.none=>Option.none
noncomputable def qJ(k:Kv) (ks:Gm->aB->R (List AV)) (g:Gm) (st:aB):R (List AV):=(k g st).bind fun a st=>(ks g st).bind fun as st=>ok (a::as) st
noncomputable def kq(n:Nat) (d:PV) (st:aB):R AV:=match back n st with
 |some st=>ok (.t d) st
 |Option.none=>Option.none
noncomputable def Ba(own:Bool) (n:Nat) (a:AV) (st:aB):R AV:=match own with
 |true=>ok a st
 |false=>(eX st a).bind fun d st=>kq n d st
noncomputable def xq(k:Kv) (g:Gm) (st:aB):R AV:=(k g st).bind fun a st'=>Ba false st.length a st'
mutual
noncomputable def ev(C:fy):E->Kv
 |.none=>fun _ st=>ok (.t .none) st
 |.bool b=>fun _ st=>ok (.t (.bool b)) st
 |.int i=>fun _ st=>ok (.t (.int i)) st
 |.str s=>fun _ st=>ok (.t (.str s)) st
 |.var i=>fun g st=>A7 g[i]? st
 |.glob i _=>fun _ st=>ok (.t (.int i)) st
 |.attr e f=>k1 (CM f) (ev C e)
 |.bin o x y=>k2 (Nd o) (ev C x) (ev C y)
 |.neg x=>k1 JA (ev C x)
 |.not x=>k1 A8 (ev C x)
 |.cmp o x y=>k2 (Nf o) (ev C x) (ev C y)
 |.and l=>ni C l
 |.or l=>u5 C l
 |.ite c x y=>F0 (ev C c) (ev C x) (ev C y)
 |.list l=>kN CN (gj C l)
 |.tup l=>kN JB (gj C l)
 |.dz ks l=>kN (CO ks) (gj C l)
 |.CH=>fun _ st=>alloc st (.eW [])
 |.sub x i=>k2 Ng (ev C x) (ev C i)
 |.slice x lo hi=>CP (ev C x) (QH C lo) (QH C hi)
 |.call f l=>kN (Iz C f) (gj C l)
 |.new c f l=>kN (A9 C c f) (gj C l)
 |.copy f x=>k1 (xo C f) (ev C x)
 |.bi b l=>kN (FZ b) (gj C l)
 |.b4 m x l=>IA m (ev C x) (gj C l)
 |.comp x src c e=>qI (k1 nh (ev C src)) (ju x (Bb C c) (ev C e))
 |.cO x src c e=>qI (kN qH (gj C src)) (ju x (Bb C c) (ev C e))
 |.pg x src k v=>za (k1 nh (ev C src)) (oA x (ev C k) (ev C v))
 |.CI p x q=>k1 (CQ p q) (ev C x)
 |.kept x=>fun g st=>zU (ev C x g st)
 |.pure x=>xq (ev C x)
noncomputable def gj(C:fy):List E->Gm->aB->R (List AV)
 |[]=>fun _ st=>ok [] st
 |e::r=>qJ (ev C e) (gj C r)
noncomputable def QH(C:fy):Option E->Gm->aB->R (Option Int)
 |Option.none=>fun _ st=>ok Option.none st
 |some e=>k1 IB (ev C e)
noncomputable def ni(C:fy):List E->Kv
 |[]=>fun _ _=>Option.none
 |e::r=>match r with
  |[]=>ev C e
  |_::_=>F1 (ev C e) (ni C r)
noncomputable def u5(C:fy):List E->Kv
 |[]=>fun _ _=>Option.none
 |e::r=>match r with
  |[]=>ev C e
  |_::_=>QG (ev C e) (u5 C r)
noncomputable def Bb(C:fy):Option E->Gm->aB->R Bool
 |Option.none=>fun _ st=>ok true st
 |some c=>k1 eY (ev C c)
end
set_option genCtorIdx false in
inductive Out
 |next (g:Gm) (st:aB)
 |ret (a:AV) (st:aB)
 |cont (g:Gm) (st:aB)
 |exc (m:Tx) (st:aB)
noncomputable def Out.ctorIdx(t:Out):Nat:=Out.casesOn (motive:=fun _=>Nat) t (fun _ _=>0) (fun _ _=>1) (fun _ _=>2) (fun _ _=>3)
noncomputable def R.out{α:Type}:R α->(α->aB->Option Out)->Option Out
 |some (.ok (a,st)),f=>f a st
 |some (.error (m,st)),_=>some (.exc m st)
 |Option.none,_=>Option.none
noncomputable def b9:Tx:=[115,104,97,114,101,100]
noncomputable def Nj:PV->Bool
 |.inst .aQ _=>true
 |_=>false
noncomputable def Nk(st:aB) (i:Nat):Option Node->Option aB
 |some (.fz d)=>if Nj d then some st else Option.none
 |some (.inst .aQ _)=>some st
 |some (.inst .aJ fs)=>some (st.set i (.inst .aQ fs))
 |_=>Option.none
noncomputable def F3(st:aB) (i:Nat) (f:Tx) (a:AV):Option Node->Option aB
 |some (.inst c fs)=>some (st.set i (.inst c (putK f a fs)))
 |_=>Option.none
noncomputable def xr(st:aB) (o:AV) (f:Tx) (a:AV):Option aB:=match o with
 |.t d=>if f=b9/\Nj d=true then some st else Option.none
 |.r i=>if f=b9 then Nk st i st[i]? else F3 st i f a st[i]?
noncomputable def Nl(st:aB) (i:Nat) (l:List PV) (k d:PV):Option aB:=match k with
 |.int n=>if 0<=n/\n<l.length then some (st.set i (.lst (l.set n.toNat d))) else Option.none
 |_=>Option.none
noncomputable def Nm(st:aB) (i:Nat) (l:List (Tx×PV)) (k d:PV):Option aB:=match k with
 |.str x=>if x≠b9/\l.length<2000 then some (st.set i (.aK (putK x d l))) else Option.none
 |_=>Option.none
noncomputable def Np(st:aB) (i:Nat) (l:List (Int×PV)) (k d:PV):Option aB:=match k with
 |.int n=>if l.length<2000 then some (st.set i (.eW (xg n d l))) else Option.none
 |_=>Option.none
noncomputable def xu(o:Option Node) (st:aB) (i:Nat) (k:PV) (d:PV):Option aB:=match o with
 |some (.lst l)=>Nl st i l k d
 |some (.aK l)=>Nm st i l k d
 |some (.eW l)=>Np st i l k d
 |_=>Option.none
noncomputable def Bc(st:aB) (o:AV) (k:PV) (d:PV):Option aB:=Mn o fun i=>xu st[i]? st i k d
noncomputable def Rq(st:aB) (i:Nat) (l:List (Tx×PV)) (k:PV):Option aB:=match k with
 |.str x=>if(cj x l).isSome then some (st.set i (.aK (FQ x l))) else Option.none
 |_=>Option.none
noncomputable def Nq(o:Option Node) (st:aB) (i:Nat) (k:PV):Option aB:=match o with
 |some (.aK l)=>Rq st i l k
 |_=>Option.none
noncomputable def Rt(st:aB) (o:AV) (k:PV):Option aB:=Mn o fun i=>Nq st[i]? st i k
noncomputable def loop(f:Gm->aB->Option Out) (x n:Nat):List PV->Gm->aB->Option (Gm×aB)
 |[],g,st=>some (g,st)
 |d::ds,g,st=>match f (g.set x (some (.t d))) st with
  |some (.next g' st')=>match settle n g' st' with
   |some (F4,dQ)=>loop f x n ds F4 dQ
   |Option.none=>Option.none
  |some (.cont g' st')=>match settle n g' st' with
   |some (F4,dQ)=>loop f x n ds F4 dQ
   |Option.none=>Option.none
  |_=>Option.none
noncomputable def CR:Option (Gm×aB)->Option Out
 |some (g,st)=>some (.next g st)
 |Option.none=>Option.none
abbrev Ks:=Gm->aB->Option Out
noncomputable def JE(x y:Nat) (g:Gm) (st:aB):Option PV->Option Out
 |some (.tup [d,e])=>some (.next ((g.set x (some (.t d))).set y (some (.t e))) st)
 |_=>Option.none
noncomputable def pn(o:Option aB) (g:Gm):Option Out:=match o with
 |some st=>some (.next g st)
 |Option.none=>Option.none
noncomputable def u6(a:AV) (st:aB):Option Out:=match a with| .t (.str m)=>some (.exc m st)|_=>Option.none
noncomputable def iA(x:Nat) (k:Kv):Ks:=fun g st=>(k g st).out fun a st=>some (.next (g.set x (some a)) st)
noncomputable def xw(x y:Nat) (k:Kv):Ks:=fun g st=>(k g st).out fun a st=>JE x y g st (vw st a)
noncomputable def xx(f:Tx) (ko ke:Kv):Ks:=fun g st=>(ke g st).out fun a st=>(ko g st).out fun b st=>pn (xr st b f a) g
noncomputable def xy(ko ki ke:Kv):Ks:=fun g st=>(ke g st).out fun a st=>(ko g st).out fun b st=>(ki g st).out fun k st=>(eX st a).out fun d st=>oB (vw st k) fun kd=>pn (Bc st b kd d) g
noncomputable def xA(ko ki:Kv):Ks:=fun g st=>(ko g st).out fun b st=>(ki g st).out fun k st=>oB (vw st k) fun kd=>pn (Rt st b kd) g
noncomputable def IC(k:Kv):Ks:=fun g st=>(k g st).out fun _ st=>some (.next g st)
noncomputable def F5(k:Kv) (a b:Ks):Ks:=fun g st=>(k g st).out fun t st=>gq (cV st t) (a g st) (b g st)
noncomputable def kFor(x:Nat) (src:Gm->aB->R (List PV)) (f:Ks):Ks:=fun g st=>(src g st).out fun items st=>CR (loop f x st.length items g st)
noncomputable def Nr(k:Kv):Ks:=fun g st=>(k g st).out fun a st=>some (.ret a st)
noncomputable def CS(k:Kv):Ks:=fun g st=>(k g st).out fun a st=>u6 a st
noncomputable def JF(a b:Ks):Ks:=fun g st=>match a g st with
 |some (.next g' st')=>b g' st'
 |q=>q
noncomputable def qK(n:Nat) (a:Ks):Ks:=fun g st=>match a g st with
 |some (.next g' st')=>if n<=st.length then CR (kj n st.length g' st') else Option.none
 |q=>q
mutual
noncomputable def ex(C:fy):S->Ks
 |.assign x e=>iA x (ev C e)
 |.qh x y e=>xw x y (ev C e)
 |.setattr o f e=>xx f (ev C o) (ev C e)
 |.dP o i e=>xy (ev C o) (ev C i) (ev C e)
 |.qi o i=>xA (ev C o) (ev C i)
 |.expr e=>IC (ev C e)
 |.ifs c a b=>F5 (ev C c) (bO C a) (bO C b)
 |.gp x src body=>kFor x (k1 nh (ev C src)) (bO C body)
 |.forR x src body=>kFor x (kN qH (gj C src)) (bO C body)
 |.ret e=>Nr (ev C e)
 |.FP=>fun _ st=>some (.ret (.t .none) st)
 |.raise e=>CS (ev C e)
 |.cont=>fun g st=>some (.cont g st)
 |.bad=>fun _ _=>Option.none
 |.cut n s=>qK n (ex C s)
noncomputable def bO(C:fy):List S->Ks
 |[]=>fun g st=>some (.next g st)
 |s::r=>JF (ex C s) (bO C r)
end
structure Fn where
 np:Nat
 df:List PV
 nl:Nat
 ref:Bool
 own:Bool
 body:List S
noncomputable def Fn.start(F:Fn) (as:List AV):Option Gm :=
 if as.length<=F.np/\F.np<=as.length+F.df.length then some ((as++(F.df.drop (as.length+F.df.length-F.np)).map AV.t).map some++List.replicate F.nl Option.none) else Option.none
noncomputable def CT(own:Bool) (n:Nat):Option Out->R AV
 |some (.ret a st)=>Ba own n a st
 |some (.next _ st)=>Ba own n (.t .none) st
 |some (.exc m st)=>some (.error (m,st))
 |_=>Option.none
noncomputable def JG(st:aB):Option (PV×aB)->R AV
 |some (d,_)=>ok (.t d) st
 |Option.none=>Option.none
noncomputable def zc(st:aB):Option Out->R AV
 |some (.ret a st')=>JG st (i8 cT st' a)
 |some (.next _ _)=>ok (.t .none) st
 |some (.exc m _)=>some (.error (m,st))
 |_=>Option.none
noncomputable def fB(C:fy) (F:Fn) (as:List AV) (st:aB):R AV:=match F.ref with
 |true=>oB (F.start as) fun g=>CT F.own st.length (bO C F.body g st)
 |false=>(fE st as).bind fun ds st=>oB (F.start (ds.map AV.t)) fun g=>zc st (bO C F.body g [])
noncomputable def call(T:Nat->Fn):Nat->fy
 |0,_,_,_=>Option.none
 |k+1,f,as,st=>fB (call T k) (T f) as st
end Mine
namespace Mine
open PySem PySem.W PySem.Calls PyProof.Rows
theorem kr{a b:Tx}(h:tx a=tx b):a=b:=List.toArray_inj (congrArg Str.cps h)
noncomputable def sX(s:Tx):Bool:=decide (s.length<=lim)&&s.all (· < 0x110000)
noncomputable def fj:Str:=Str.ofString "shared"
noncomputable def fieldNames:List Str:=["kind","items","attrs","shared","loose","name","tags","code","message"]
inductive gm(h:Heap) (a dx C:Addr) (m:Str->Option Value):Prop
 |mk (o:Obj) (e:h.get? a=some o) (c:o.cls=.ref C) (nd:∀c,o.data≠.cls c) (hd:o.dict=some dx) (ne:dx≠a) (n:h.Ns1 dx m) (ed:h.ExactDictFk dx) (w:Within m fieldNames)
structure Cx where
 prog:Program
 w:World
 h₀:Heap
 os:OsState
 mg:Str->Option Value
 mb:Str->Option Value
 cA:ie->Addr
 mR:Addr
 fA:Nat->Addr
 fd:Nat->FuncData
 P:Addr -- the table of the law's own code's inner codes
 nj:Str -- the name that bK lambdas bear
@[reducible] noncomputable def Cx.cZ (cx:Cx):Nat:=cx.h₀.objs.size
set_option genCtorIdx false in
inductive FO
 |lst (vs:List Value) (n:Nat)
 |tup (vs:List Value)
 |dS (kvs:List (Str×Value)) (ep:Nat)
 |dI (kvs:List (Int×Value))
 |ins (c:ie) (dx:Addr) (gs:List (Tx×Value))
 |CU
 |pq
noncomputable def FO.ctorIdx(t:FO):Nat:=FO.casesOn (motive:=fun _=>Nat) t (fun _ _=>0) (fun _=>1) (fun _ _=>2) (fun _=>3) (fun _ _ _=>4) 5 6
set_option genCtorIdx false in
inductive Lg
 |out
 |nd (i:Nat)
 |fz (o:FO)
noncomputable def Lg.ctorIdx(t:Lg):Nat:=Lg.casesOn (motive:=fun _=>Nat) t 0 (fun _=>1) (fun _=>2)
inductive mz(cx:Cx) (h:Heap) (a dx:Addr) (c:ie) (gs:List (Tx×Value)):Prop
 |mk (m:Str->Option Value) (i:gm h a dx (cx.cA c) m) (sh:c=.aQ->∃v,m fj=some v) (f:∀p∈gs,tx p.1≠fj/\m (tx p.1)=some p.2)
inductive ID(cx:Cx) (h:Heap) (a:Addr):Prop
 |mk (o:Obj) (fs:Array Value) (t:Tok) (e:h.get? a=some o) (d:o.data=.fields fs) (q:fs[1]? = some (.str cx.nj t))
structure Be(h:Heap) (a:Addr) (items:Array Value):Prop where
 tup:IsTup h a items
 dict:∀o,h.get? a=some o->o.dict=none
noncomputable def Is(cx:Cx) (h:Heap) (a:Addr):FO->Prop
 |.lst vs n=>h.get? a=some { cls:=.type "list",data:=.seq vs.toArray n }
 |.tup vs=>Be h a vs.toArray
 |.dS kvs ep=>h.DictAt (strKind cx.prog cx.w) a kvs ep
 |.dI kvs=>h.DictOf (intKind cx.prog cx.w) a kvs
 |.ins c dx gs=>mz cx h a dx c gs
 |.CU=>ID cx h a
 |.pq=>True
abbrev Pl:=Addr×Addr
structure Wd where
 G:Addr->Lg
 as:List Pl
 st:aB
 s:Shared
@[reducible] noncomputable def Wd.h (w:Wd):Heap:=w.s.heap
@[reducible] noncomputable def Wd.n (w:Wd):Nat:=w.s.heap.objs.size
inductive Sh:FO->PV->List Value->List PV->Prop
 |lst {vs:List Value}{l:List PV}{n:Nat}(z:l.length<=lim):Sh (.lst vs n) (.lst l) vs l
 |tup {vs:List Value}{l:List PV}(z:l.length<=lim):Sh (.tup vs) (.tup l) vs l
 |dS {kvs:List (Str×Value)}{ep:Nat}{l:List (Tx×PV)}(z:l.length<=lim) (k:kvs.map (·.1)=l.map (fun p=>tx p.1)) (n:fj∉kvs.map (·.1)):Sh (.dS kvs ep) (.aK l) (kvs.map (·.2)) (l.map (·.2))
 |dI {kvs:List (Int×Value)}{l:List (Int×PV)}(z:l.length<=lim) (k:kvs.map (·.1)=l.map (·.1)):Sh (.dI kvs) (.eW l) (kvs.map (·.2)) (l.map (·.2))
 |ins {c:ie}{dx:Addr}{gs:List (Tx×Value)}{fs:List (Tx×PV)}(k:gs.map (·.1)=fs.map (·.1)):Sh (.ins c dx gs) (.inst c fs) (gs.map (·.2)) (fs.map (·.2))
mutual
inductive Rep(G:Addr->Lg):Value->PV->Prop
 |none:Rep G .none .none
 |bool (b:Bool):Rep G (.bool b) (.bool b)
 |int (i:Int) (t:Tok):Rep G (.int i t) (.int i)
 |str (s:Tx) (t:Tok) (z:sX s=true):Rep G (.str (tx s) t) (.str s)
 |ref {a:Addr}{o:FO}{d:PV}{vs:List Value}{l:List PV}(g:G a=.fz o) (q:Sh o d vs l) (r:bh G vs l):Rep G (.ref a) d
inductive bh(G:Addr->Lg):List Value->List PV->Prop
 |nil:bh G [] []
 |cons {v:Value}{vs:List Value}{d:PV}{l:List PV}(x:Rep G v d) (r:bh G vs l):bh G (v::vs) (d::l)
end
@[reducible] noncomputable def Sub (G G':Addr->Lg):Prop:=∀a o,G a=.fz o->G' a=.fz o
mutual
theorem Rep.mono{G G':Addr->Lg}(hs:Sub G G'):∀{v:Value}{d:PV},Rep G v d->Rep G' v d
 |_,_,.none=>.none
 |_,_,.bool b=>.bool b
 |_,_,.int i t=>.int i t
 |_,_,.str s t z=>.str s t z
 |_,_,.ref g q r=>.ref (hs _ _ g) q (bh.mono hs r)
theorem bh.mono{G G':Addr->Lg}(hs:Sub G G'):∀{vs:List Value}{l:List PV},bh G vs l->bh G' vs l
 |_,_,.nil=>.nil
 |_,_,.cons x r=>.cons (Rep.mono hs x) (bh.mono hs r)
end
theorem bh.ind{G:Addr->Lg}{M:∀vs l,bh G vs l->Prop}(h0:M [] [] .nil) (h1:∀(v:Value) (vs:List Value) (d:PV) (l:List PV) (x:Rep G v d) (r:bh G vs l),M vs l r->M (v::vs) (d::l) (.cons x r)){vs:List Value}{l:List PV}(r:bh G vs l):M vs l r :=
 bh.rec (motive_1:=fun _ _ _=>True) (motive_2:=M) trivial (fun _=>trivial) (fun _ _=>trivial) (fun _ _ _=>trivial) (fun _ _ _ _=>trivial) h0 (fun x r _ ih=>h1 _ _ _ _ x r ih) r
inductive JH(l:List PV):FO->List Value->List PV->Prop
 |mk {vs:List Value}{n:Nat}(z:l.length<=lim):JH l (.lst vs n) vs l
inductive JI(l:List PV):FO->List Value->List PV->Prop
 |mk {vs:List Value}(z:l.length<=lim):JI l (.tup vs) vs l
inductive JJ(l:List (Tx×PV)):FO->List Value->List PV->Prop
 |mk {kvs:List (Str×Value)}{ep:Nat}(z:l.length<=lim) (k:kvs.map (·.1)=l.map (fun p=>tx p.1)) (n:fj∉kvs.map (·.1)):JJ l (.dS kvs ep) (kvs.map (·.2)) (l.map (·.2))
inductive JK(c:ie) (fs:List (Tx×PV)):FO->List Value->List PV->Prop
 |mk {dx:Addr}{gs:List (Tx×Value)}(k:gs.map (·.1)=fs.map (·.1)):JK c fs (.ins c dx gs) (gs.map (·.2)) (fs.map (·.2))
noncomputable def VY(o:FO) (vs:List Value) (ds:List PV):PV->Prop
 |.lst l=>JH l o vs ds
 |.tup l=>JI l o vs ds
 |.aK l=>JJ l o vs ds
 |.inst c fs=>JK c fs o vs ds
 |_=>True
theorem Sh.inv{o:FO}{d:PV}{vs:List Value}{ds:List PV}(q:Sh o d vs ds):VY o vs ds d:=by
 induction q with
 |lst z=>exact .mk z
 |tup z=>exact .mk z
 |dS z k n=>exact .mk z k n
 |ins k=>exact .mk k
 |_=>trivial
theorem Sh.Ru{o:FO}{c:ie}{fs:List (Tx×PV)}{vs:List Value}{ds:List PV}(q:Sh o (.inst c fs) vs ds):JK c fs o vs ds:=q.inv
theorem Sh.QI{o:FO}{l:List PV}{vs:List Value}{ds:List PV}(q:Sh o (.lst l) vs ds):JH l o vs ds:=q.inv
theorem Sh.QJ{o:FO}{l:List PV}{vs:List Value}{ds:List PV}(q:Sh o (.tup l) vs ds):JI l o vs ds:=q.inv
theorem Sh.Mp{o:FO}{l:List (Tx×PV)}{vs:List Value}{ds:List PV}(q:Sh o (.aK l) vs ds):JJ l o vs ds:=q.inv
noncomputable def Nt:PV->Bool
 |.none=>false
 |.bool _=>false
 |.int _=>false
 |.str _=>false
 |_=>true
inductive Nu(G:Addr->Lg) (d:PV):Value->Prop
 |mk {a:Addr}{o:FO}{vs:List Value}{l:List PV}(g:G a=.fz o) (q:Sh o d vs l) (r:bh G vs l):Nu G d (.ref a)
theorem Rep.big{G:Addr->Lg}{v:Value}{d:PV}(x:Rep G v d):Nt d=true->Nu G d v:=by
 cases x with
 |ref g q r=>exact fun _=>.mk g q r
 |_=>exact fun h=>nomatch h
inductive u7(as:List Pl) (v:Value) (i:Nat):Prop
 |mk (p:Pl) (e:as[i]? = some p) (q:v=.ref p.1)
noncomputable def cQ(G:Addr->Lg) (as:List Pl) (v:Value):AV->Prop
 |.t d=>Rep G v d
 |.r i=>u7 as v i
@[reducible] noncomputable def Pre (as Bf:List Pl):Prop:=∀(i:Nat) (p:Pl),as[i]? = some p->Bf[i]? = some p
inductive oE(G:Addr->Lg) (as:List Pl):List (Tx×Value)->List (Tx×AV)->Prop
 |nil:oE G as [] []
 |cons {f:Tx}{v:Value}{a:AV}{gs:List (Tx×Value)}{fs:List (Tx×AV)}(x:cQ G as v a) (r:oE G as gs fs):oE G as ((f,v)::gs) ((f,a)::fs)
noncomputable def Cv:Node->Option PV
 |.lst l=>some (.lst l)
 |.aK l=>some (.aK l)
 |.eW l=>some (.eW l)
 |_=>Option.none
inductive gu(cx:Cx) (G:Addr->Lg) (as:List Pl) (h:Heap) (p:Pl):Node->Prop
 |fz {d:PV}(r:Rep G (.ref p.1) d):gu cx G as h p (.fz d)
 |tr {nd:Node}{d:PV}{o:FO}{vs:List Value}{l:List PV}(e:Cv nd=some d) (i:Is cx h p.1 o) (q:Sh o d vs l) (r:bh G vs l):gu cx G as h p nd
 |inst {c:ie}{gs:List (Tx×Value)}{fs:List (Tx×AV)}(i:mz cx h p.1 p.2 c gs) (r:oE G as gs fs):gu cx G as h p (.inst c fs)
noncomputable def own:Node->Pl->List Addr
 |.fz _,_=>[]
 |.inst _ _,p=>[p.1,p.2]
 |_,p=>[p.1]
structure eV(cx:Cx) (w:Wd):Prop where
 len:w.as.length=w.st.length
 nodes:∀(i:Nat) (p:Pl) (nd:Node),w.as[i]? = some p->w.st[i]? = some nd->gu cx w.G w.as w.h p nd
 fq:∀(i:Nat) (p:Pl) (nd:Node),w.as[i]? = some p->w.st[i]? = some nd->∀a∈own nd p,w.G a=.nd i
 fz:∀a o,w.G a=.fz o->Is cx w.h a o
 pq:∀a c dx gs,w.G a=.fz (.ins c dx gs)->w.G dx=.fz .pq
 lo:∀a,w.G a≠.out->cx.cZ<=a
 live:∀a,w.G a≠.out->∃o,w.h.get? a=some o
section
variable {cx:Cx}{h h':Heap}{a dx:Addr}{o:FO}
theorem gm.fk{C:Addr}{m:Str->Option Value}:gm h a dx C m->h.InstFk a C m
 |.mk o e c nd hd ne n ed _=>⟨o,e,c,nd,.inr ⟨dx,hd,ne,n,ed⟩⟩
theorem gm.congr{C:Addr}{m:Str->Option Value}(e:h'.get? a=h.get? a) (ed:h'.get? dx=h.get? dx):gm h a dx C m->gm h' a dx C m
 |.mk o e1 c nd hd ne ⟨o1,es,ep,g,r⟩ ⟨o2,g2,r2⟩ w=>.mk o (e.trans e1) c nd hd ne ⟨o1,es,ep,ed.trans g,r⟩ ⟨o2,ed.trans g2,r2⟩ w
theorem Is.congr(e:h'.get? a=h.get? a):∀{o:FO},(∀c dx gs,o=.ins c dx gs->h'.get? dx=h.get? dx)->Is cx h a o->Is cx h' a o
 |.lst _ _,_,q=>e.trans q
 |.tup _,_,⟨⟨o,q,r⟩,d⟩=>⟨⟨o,e.trans q,r⟩,fun o q=>d o (e.symm.trans q)⟩
 |.dS _ _,_,⟨o,es,q,r⟩=>⟨o,es,e.trans q,r⟩
 |.dI _,_,⟨o,es,ep,q,⟨o',r⟩,s⟩=>⟨o,es,ep,e.trans q,⟨o',r⟩,s⟩
 |.ins c dx gs,k,.mk m i sh f=>.mk m (i.congr e (k c dx gs rfl)) sh f
 |.CU,_,.mk o fs t q d r=>.mk o fs t (e.trans q) d r
 |.pq,_,_=>trivial
theorem u9{p:Pl}{d:PV}:∀{nd:Node},Cv nd=some d->p.1∈own nd p
 |.lst _,_=>.head _
 |.aK _,_=>.head _
 |.eW _,_=>.head _
theorem Sh.IE{nd:Node}{d:PV}{vs:List Value}{l:List PV}{c:ie}{gs:List (Tx×Value)}(e:Cv nd=some d) (q:Sh o d vs l) (z:o=.ins c dx gs):False:=by
 induction q with
 |ins=>cases nd<;>cases e
 |_=>injection z
theorem gu.congr{G:Addr->Lg}{as:List Pl}{p:Pl}{nd:Node}(k:∀a∈own nd p,h'.get? a=h.get? a):gu cx G as h p nd->gu cx G as h' p nd
 |.fz r=>.fz r
 |.tr e i q r=>.tr e (i.congr (k _ (u9 e)) fun _ _ _ z=>(q.IE e z).elim) q r
 |.inst (.mk m i sh f) r=>.inst (.mk m (i.congr (k _ (.head _)) (k _ (.tail _ (.head _)))) sh f) r
theorem cQ.mono{G G':Addr->Lg}{as Bf:List Pl}(hs:Sub G G') (ha:Pre as Bf){v:Value}:∀{x:AV},cQ G as v x->cQ G' Bf v x
 |.t _,r=>Rep.mono hs r
 |.r _,.mk p e q=>.mk p (ha _ _ e) q
theorem oE.mono{G G':Addr->Lg}{as Bf:List Pl}(hs:Sub G G') (ha:Pre as Bf){gs:List (Tx×Value)}{fs:List (Tx×AV)}(r:oE G as gs fs):oE G' Bf gs fs:=by
 induction r with
 |nil=>exact .nil
 |cons x _ ih=>exact .cons (x.mono hs ha) ih
theorem gu.mono{G G':Addr->Lg}{as Bf:List Pl}{p:Pl}{nd:Node}(hs:Sub G G') (ha:Pre as Bf):gu cx G as h p nd->gu cx G' Bf h p nd
 |.fz r=>.fz (r.mono hs)
 |.tr e i q r=>.tr e i q (r.mono hs)
 |.inst i r=>.inst i (r.mono hs ha)
end
section
variable {cx:Cx}{w:Wd}{s':Shared}
theorem eV.step(S:eV cx w) (k:∀a,w.G a≠.out->s'.heap.get? a=w.h.get? a):eV cx { w with s:=s' } where
 len:=S.len
 nodes i p nd e1 e2:=(S.nodes i p nd e1 e2).congr fun a ha=>k a (S.fq i p nd e1 e2 a ha▸fun q=>by injection q)
 fq:=S.fq
 fz a o e:=(S.fz a o e).congr (k a (e▸fun q=>by injection q)) fun c dx gs z=>k dx (S.pq a c dx gs (z▸e)▸fun q=>by injection q)
 pq:=S.pq
 lo:=S.lo
 live a ha:=(k a ha).symm▸S.live a ha
inductive Nv{α:Type}(l:List α) (i j:Nat) (y x:α):Prop
 |here (e:j=i) (q:x=y)
 |there (n:j≠i) (q:l[j]? = some x)
theorem qL{α:Type}{l:List α}{i j:Nat}{y x:α}(e:(l.set i y)[j]? = some x):Nv l i j y x:=by
 rw[List.getElem?_set] at e
 by_cases q:i=j
 ·rw[if_pos q] at e
  split at e
  ·exact .here q.symm (Option.some.inj e).symm
  ·injection e
 ·rw[if_neg q] at e;exact .there (Ne.symm q) e
theorem JL{G:Addr->Lg}{a:Addr}{i j:Nat}(e:G a=.nd i) (q:G a=.nd j):i=j:=by
 rw[e] at q;injection q
theorem eV.set(S:eV cx w){i:Nat}{p:Pl}{nd nd':Node}(e1:w.as[i]? = some p) (e2:w.st[i]? = some nd) (ho:∀a∈own nd' p,a∈own nd p)
  (k:∀a,a∉own nd p->w.G a≠.out->s'.heap.get? a=w.h.get? a) (lv:∀a∈own nd p,∃o,s'.heap.get? a=some o) (r:gu cx w.G w.as s'.heap p nd'):eV cx { w with st:=w.st.set i nd',s:=s' } where
 len:=S.len.trans (List.length_set ..).symm
 nodes j q x f1 f2:=by
  induction qL f2 with
  |here e z=>subst e z;rw[e1] at f1;(injection f1 with f1;subst f1);exact r
  |there n z=>exact(S.nodes j q x f1 z).congr fun a ha=>k a (fun y=>n (JL (S.fq j q x f1 z a ha) (S.fq i p nd e1 e2 a y))) (S.fq j q x f1 z a ha▸fun q=>by injection q)
 fq j q x f1 f2 a ha:=by
  induction qL f2 with
  |here e z=>subst e z;rw[e1] at f1;(injection f1 with f1;subst f1);exact S.fq j p nd e1 e2 a (ho a ha)
  |there n z=>exact S.fq j q x f1 z a ha
 fz a o e:=by
  have no:∀b y,w.G b=.fz y->b∉own nd p:=fun b y e z=>by rw[S.fq i p nd e1 e2 b z] at e;injection e
  exact(S.fz a o e).congr (k a (no a o e) (e▸fun q=>by injection q)) fun c dx gs z=>k dx (no dx _ (S.pq a c dx gs (z▸e))) (S.pq a c dx gs (z▸e)▸fun q=>by injection q)
 pq:=S.pq
 lo:=S.lo
 live a ha:=by
  by_cases q:a∈own nd p
  ·exact lv a q
  ·exact(k a q ha).symm▸S.live a ha
noncomputable def put(G:Addr->Lg) (l:List Addr) (x:Lg):Addr->Lg:=fun a=>if a∈l then x else G a
theorem iQ{G:Addr->Lg}{l:List Addr}{x:Lg}{a:Addr}(h:a∈l):put G l x a=x:=if_pos h
theorem cE{G:Addr->Lg}{l:List Addr}{x:Lg}{a:Addr}(h:a∉l):put G l x a=G a:=if_neg h
theorem qj{G:Addr->Lg}{l:List Addr}{x:Lg}(h:∀a∈l,∀o,G a≠.fz o):Sub G (put G l x):=fun a o e=>(cE fun q=>h a q o e).trans e
theorem qM{α:Type}{l:List α}{x:α}{i:Nat}{p:α}(e:l[i]? = some p):(l++[x])[i]? = some p:=by
 rw[List.getElem?_append_left (List.getElem?_eq_some_iff.mp e).1];exact e
inductive JM{α:Type}(l:List α) (i:Nat) (y x:α):Prop
 |here (e:i=l.length) (q:x=y)
 |there (q:l[i]? = some x)
theorem lD{α:Type}{l:List α}{i:Nat}{y x:α}(e:(l++[y])[i]? = some x):JM l i y x:=by
 rcases Nat.lt_or_ge i l.length with hj|hj
 ·rw[List.getElem?_append_left hj] at e;exact .there e
 ·rw[List.getElem?_append_right hj] at e
  cases hz:i-l.length with
  |zero=>rw[hz] at e;exact .here (by omega) (Option.some.inj e).symm
  |succ n=>rw[hz] at e;injection e
theorem eV.push(S:eV cx w){p:Pl}{nd:Node}(k:∀a,w.G a≠.out->s'.heap.get? a=w.h.get? a) (hn:∀a∈own nd p,w.G a=.out/\cx.cZ<=a) (lv:∀a∈own nd p,∃o,s'.heap.get? a=some o)
  (r:gu cx (put w.G (own nd p) (.nd w.st.length)) (w.as++[p]) s'.heap p nd):eV cx ⟨put w.G (own nd p) (.nd w.st.length),w.as++[p],w.st++[nd],s'⟩:=by
 have S':=S.step k
 have sub:Sub w.G (put w.G (own nd p) (.nd w.st.length)):=qj fun a ha o e=>by rw[(hn a ha).1] at e;injection e
 have old:∀a,w.G a≠.out->put w.G (own nd p) (.nd w.st.length) a=w.G a:=fun a ha=>cE fun q=>ha (hn a q).1
 have UH:∀a o,put w.G (own nd p) (.nd w.st.length) a=.fz o->w.G a=.fz o:=fun a o e=>by
  by_cases q:a∈own nd p
  ·rw[iQ q] at e;injection e
  ·rwa [cE q] at e
 constructor
 ·show(w.as++[p]).length=(w.st++[nd]).length
  rw[List.length_append,List.length_append,S.len];rfl
 ·intro j q x f1 f2
  induction lD f1 with
  |here e z =>
   subst e z
   induction lD f2 with
   |here _ z=>subst z;exact r
   |there z=>exact absurd (List.getElem?_eq_some_iff.mp z).1 (by rw[S.len];exact Nat.lt_irrefl _)
  |there z=>induction lD f2 with
   |here e _=>exact absurd (List.getElem?_eq_some_iff.mp z).1 (by rw[e,S.len];exact Nat.lt_irrefl _)
   |there y=>exact(S'.nodes j q x z y).mono sub fun _ _ e=>qM e
 ·intro j q x f1 f2 a ha
  induction lD f1 with
  |here e z =>
   subst e z
   induction lD f2 with
   |here _ z=>subst z;exact(iQ ha).trans (congrArg Lg.nd S.len.symm)
   |there z=>exact absurd (List.getElem?_eq_some_iff.mp z).1 (by rw[S.len];exact Nat.lt_irrefl _)
  |there z=>induction lD f2 with
   |here e _=>exact absurd (List.getElem?_eq_some_iff.mp z).1 (by rw[e,S.len];exact Nat.lt_irrefl _)
   |there y=>have e:=S.fq j q x z y a ha;exact(old a (e▸fun q=>by injection q)).trans e
 ·exact fun a o e=>S'.fz a o (UH a o e)
 ·exact fun a c dx gs e=>sub _ _ (S.pq a c dx gs (UH a _ e))
 ·intro a ha
  by_cases q:a∈own nd p
  ·exact(hn a q).2
  ·exact S.lo a fun z=>ha ((cE q).trans z)
 ·intro a ha
  by_cases q:a∈own nd p
  ·exact lv a q
  ·exact S'.live a fun z=>ha ((cE q).trans z)
end
inductive vc(G:Addr->Lg) (cv:Value):Prop
 |mk (c:Addr) (e:cv=.ref c) (g:G c=.fz .CU)
inductive ku(cx:Cx) (w:Wd):Prop
 |mk (ps:Array Value) (e:w.h.get? cx.P=some { cls:=.none,data:=.fields ps }) (t:TriplesOk ps.toList) (c:∀pos cv,codeAmong pos ps.toList=some cv->vc w.G cv)
theorem vc.mono{G G':Addr->Lg}{cv:Value}(hs:Sub G G'):vc G cv->vc G' cv
 |.mk c e g=>.mk c e (hs _ _ g)
theorem ku.step{cx:Cx}{w w':Wd}(hP:w'.h.get? cx.P=w.h.get? cx.P) (hs:Sub w.G w'.G):ku cx w->ku cx w'
 |.mk ps e t c=>.mk ps (hP.trans e) t fun pos cv q=>(c pos cv q).mono hs
structure Inv(cx:Cx) (w:Wd):Prop where
 rel:eV cx w
 old:OldK cx.h₀ w.h
 os:w.s.os=cx.os
 gens:w.s.gens=#[]
 lim:w.h.NoLimit
 low:cStatics<cx.cZ
 jb:cx.P<cx.cZ
 ge:cx.cZ<=w.n
 tab:ku cx w
noncomputable def nq(h h':Heap) (a:Addr):Prop:=∀o,h.get? a=some o->∃sl,h'.get? a=some { o with slots:=sl }
theorem nq.trans{h h' UI:Heap}{a:Addr}(x:nq h h' a) (y:nq h' UI a):nq h UI a:=fun o e =>
 let⟨_,e'⟩:=x o e;let⟨sl,e''⟩:=y _ e';⟨sl,e''⟩
theorem nq.of_eq{h h':Heap}{a:Addr}(k:h'.get? a=h.get? a):nq h h' a:=fun o e=>⟨o.slots,k.trans e⟩
theorem nq.ns{h h':Heap}{a:Addr}(x:nq h h' a){m:Str->Option Value}:h.Ns a m->h'.Ns a m
 |⟨o,es,ep,e,r⟩=>let⟨_,e'⟩:=x o e;⟨_,es,ep,e',r⟩
structure Ev(cx:Cx) (fr:List Addr) (W:Addr->Prop) (w w':Wd):Prop where
 inv:Inv cx w'
 size:w.n<=w'.n
 keep:∀a,cx.cZ<=a->a<w.n->w.G a=.out->a∉fr->¬W a->∀o,w.h.get? a=some o->w'.h.get? a=some o
 frame:∀a,a∈fr->¬W a->nq w.h w'.h a
 sub:Sub w.G w'.G
 pre:Pre w.as w'.as
 out:∀a,a<w.n->w.G a=.out->w'.G a=.out
@[reducible] noncomputable def ou:Addr->Prop:=fun _=>False
structure iB(cx:Cx) (w:Wd) (a:Addr):Prop where
 ge:cx.cZ<=a
 lt:a<w.n
 out:w.G a=.out
section
variable {cx:Cx}{fr:List Addr}{W:Addr->Prop}{w w' zV:Wd}{s':Shared}
theorem Ev.refl(I:Inv cx w):Ev cx fr W w w:=⟨I,Nat.le_refl _,fun _ _ _ _ _ _ _ e=>e,fun _ _ _=>nq.of_eq rfl,fun _ _ q=>q,fun _ _ q=>q,fun _ _ q=>q⟩
theorem Ev.trans(x:Ev cx fr W w w') (y:Ev cx fr W w' zV):Ev cx fr W w zV where
 inv:=y.inv
 size:=Nat.le_trans x.size y.size
 keep a h1 h2 h3 h4 h5 o e:=y.keep a h1 (Nat.lt_of_lt_of_le h2 x.size) (x.out a h2 h3) h4 h5 o (x.keep a h1 h2 h3 h4 h5 o e)
 frame a h1 h2:=(x.frame a h1 h2).trans (y.frame a h1 h2)
 sub a o e:=y.sub a o (x.sub a o e)
 pre i p e:=y.pre i p (x.pre i p e)
 out a h1 h2:=y.out a (Nat.lt_of_lt_of_le h1 x.size) (x.out a h1 h2)
theorem Ev.weaken{Rv:List Addr}{W':Addr->Prop}(x:Ev cx fr W w w') (hw:∀a,a<w.n->W a->W' a) (hf:∀a,a<w.n->(a∈fr↔a∈Rv)) (hl:∀a∈Rv,a<w.n):Ev cx Rv W' w w' :=
 ⟨x.inv,x.size,fun a h1 h2 h3 h4 h5=>x.keep a h1 h2 h3 (fun z=>h4 ((hf a h2).mp z)) fun z=>h5 (hw a h2 z),fun a h1 h2=>x.frame a ((hf a (hl a h1)).mpr h1) fun z=>h2 (hw a (hl a h1) z),x.sub,x.pre,x.out⟩
theorem iB.ev{a:Addr}(p:iB cx w a) (x:Ev cx fr W w w'):iB cx w' a:=⟨p.ge,Nat.lt_of_lt_of_le p.lt x.size,x.out a p.lt p.out⟩
theorem eV.lt(S:eV cx w){a:Addr}(h:w.G a≠.out):a<w.n:=let⟨_,e⟩:=S.live a h;Heap.lt_size e
theorem eV.mC(S:eV cx w){a:Addr}(h:w.n<=a):w.G a=.out:=Classical.byContradiction fun q=>Nat.not_lt.mpr h (S.lt q)
theorem lE{h h':Heap}{a:Addr}(k:∀b o,h.get? b=some o->h'.get? b=some o) (e:∃o,h.get? a=some o):h'.get? a=h.get? a:=let⟨o,q⟩:=e;(k a o q).trans q.symm
theorem Inv.keeps(I:Inv cx w) (k:∀b o,w.h.get? b=some o->s'.heap.get? b=some o) (h1:s'.os=w.s.os) (h2:s'.gens=w.s.gens) (hz:w.n<=s'.heap.objs.size):Ev cx fr W w { w with s:=s' } where
 inv:=⟨I.rel.step fun a ha=>lE k (I.rel.live a ha),I.old.step_keeps k,h1.trans I.os,h2.trans I.gens,I.lim.keeps k,I.low,I.jb,Nat.le_trans I.ge hz,
  let⟨_,e,_,_⟩:=I.tab;I.tab.step (lE k ⟨_,e⟩) fun _ _ q=>q⟩
 size:=hz
 keep a _ _ _ _ _:=k a
 frame a _ _:=fun o e=>⟨o.slots,k a o e⟩
 sub _ _ q:=q
 pre _ _ q:=q
 out _ _ q:=q
noncomputable def Wd.push(w:Wd) (p:Pl) (nd:Node) (s':Shared):Wd:=⟨put w.G (own nd p) (.nd w.st.length),w.as++[p],w.st++[nd],s'⟩
theorem Inv.push{p:Pl}{nd:Node}(I:Inv cx w) (k:∀b o,w.h.get? b=some o->s'.heap.get? b=some o) (h1:s'.os=w.s.os) (h2:s'.gens=w.s.gens) (hz:w.n<=s'.heap.objs.size) (hn:∀a∈own nd p,w.n<=a)
  (lv:∀a∈own nd p,∃o,s'.heap.get? a=some o) (r:gu cx (w.push p nd s').G (w.as++[p]) s'.heap p nd):Ev cx fr W w (w.push p nd s'):=by
 have no:∀a,a<w.n->a∉own nd p:=fun a h q=>Nat.not_lt.mpr (hn a q) h
 have sub:Sub w.G (w.push p nd s').G:=qj fun a q o e=>no a (I.rel.lt (e▸fun q=>by injection q)) q
 exact⟨⟨I.rel.push (fun a ha=>lE k (I.rel.live a ha)) (fun a ha=>⟨I.rel.mC (hn a ha),Nat.le_trans I.ge (hn a ha)⟩) lv r,I.old.step_keeps k,h1.trans I.os,h2.trans I.gens,I.lim.keeps k,I.low,I.jb,Nat.le_trans I.ge hz,
  let⟨_,e,_,_⟩:=I.tab;I.tab.step (lE k ⟨_,e⟩) sub⟩,hz,fun a _ _ _ _ _=>k a,fun a _ _ o e=>⟨o.slots,k a o e⟩,sub,fun _ _=>qM,fun a h e=>(cE (no a h)).trans e⟩
end
noncomputable def ez(l:List Env):List Addr:=l.filterMap (·.frame)
noncomputable def bJ:Str:=Str.ofString "message"
inductive CV(cx:Cx) (N:Nat) (w:Wd) (a:Addr) (vs:Array Value):Prop
 |mk (T:Addr) (oT:Obj) (ts:Array Value) (h1:vs[1]? = some (.ref T)) (h2:T≠a) (h3:w.h.get? T=some oT) (h4:oT.data=.fields ts) (h5:ts[3]? = some .none) (p:iB cx w T) (n:N<=T)
inductive CW(cx:Cx) (l:List Env) (N:Nat) (w:Wd) (a:Addr) (m:Tx) (vs:Array Value):Prop
 |mk (dx:Addr) (oe:Obj) (mm:Str->Option Value) (t:Tok) (h2:w.h.get? a=some oe) (h3:oe.cls=.ref cx.mR) (h4:oe.dict=some dx) (h5:oe.data=.fields vs) (p:iB cx w a) (n:N<=a) (h6:dx≠a) (h7:dx∉ez l)
  (h8:w.h.Ns1 dx mm) (h9:w.h.ExactDictFk dx) (Mq:mm bJ=some (.str (tx m) t)) (IF:sX m=true)
inductive ve(cx:Cx) (l:List Env) (N:Nat) (w:Wd) (e:Value) (m:Tx):Prop
 |mk (a:Addr) (vs:Array Value) (q:e=.ref a) (x:CW cx l N w a m vs) (t:CV cx N w a vs)
inductive xB(cx:Cx) (l:List Env) (N:Nat) (w:Wd) (e:Value) (m:Tx):Prop
 |mk (a:Addr) (vs:Array Value) (q:e=.ref a) (x:CW cx l N w a m vs) (t:vs[1]? = some .none\/CV cx N w a vs)
section
variable {cx:Cx}{l:List Env}{N N':Nat}{w:Wd}{e:Value}{m:Tx}{a:Addr}{vs:Array Value}
theorem CV.mono(hn:N'<=N):CV cx N w a vs->CV cx N' w a vs
 |.mk T oT ts h1 h2 h3 h4 h5 p n=>.mk T oT ts h1 h2 h3 h4 h5 p (Nat.le_trans hn n)
theorem CW.mono(hn:N'<=N):CW cx l N w a m vs->CW cx l N' w a m vs
 |.mk dx oe mm t h2 h3 h4 h5 p n h6 h7 h8 h9 Mq IF=>.mk dx oe mm t h2 h3 h4 h5 p (Nat.le_trans hn n) h6 h7 h8 h9 Mq IF
theorem ve.mono(hn:N'<=N):ve cx l N w e m->ve cx l N' w e m
 |.mk a vs q x t=>.mk a vs q (x.mono hn) (t.mono hn)
theorem xB.mono(hn:N'<=N):xB cx l N w e m->xB cx l N' w e m
 |.mk a vs q x t=>.mk a vs q (x.mono hn) (t.imp id (·.mono hn))
theorem ve.toS:ve cx l N w e m->xB cx l N w e m
 |.mk a vs q x t=>.mk a vs q x (.inr t)
end
abbrev iC(cx:Cx) (l:List Env) (w w':Wd):Prop:=Ev cx (ez l) ou w w'
structure bT{α β:Type}(cx:Cx) (l:List Env) (w:Wd) (r:R β) (Rel:α->β->Wd->Prop) (Q:α->Shared->Prop) (E:Value->Shared->Prop):Prop where
 ne:r≠none
 ok:∀(b:β) (a:α) (w':Wd),r=some (.ok (b,w'.st))->iC cx l w w'->Rel a b w'->Q a w'.s
 err:∀(m:Tx) (e:Value) (w':Wd),r=some (.error (m,w'.st))->iC cx l w w'->ve cx l w.n w' e m->E e w'.s
noncomputable def Wp{α β:Type}(cx:Cx) (A:Around) (l:List Env) (w:Wd) (x:Sem α) (r:R β) (Rel:α->β->Wd->Prop):Prop :=
 ∀Q E,bT cx l w r Rel Q E->wpAny (model cx.prog cx.w) A x Q E w.s
section
variable {α β γ δ:Type}{cx:Cx}{A:Around}{l:List Env}{w w':Wd}{x:Sem α}{r r':R β}{f:β->aB->R γ}{Rel:α->β->Wd->Prop}{Rel2:δ->γ->Wd->Prop}{Q:δ->Shared->Prop}{E:Value->Shared->Prop}{Q0:α->Shared->Prop}
theorem Wp.none:Wp cx A l w x (Option.none:R β) Rel:=fun _ _ T=>absurd rfl T.ne
theorem Wp.ite{c:Prop} [Decidable c] (h:c->Wp cx A l w x r Rel):Wp cx A l w x (if c then r else Option.none) Rel:=by
 by_cases q:c
 ·rw[if_pos q];exact h q
 ·rw[if_neg q];exact .none
theorem Wp.oB{ε:Type}{o:Option ε}{f:ε->R β}(h:∀v,o=some v->Wp cx A l w x (f v) Rel):Wp cx A l w x (Mine.oB o f) Rel:=by
 induction o with
 |none=>exact .none
 |some v=>exact h v rfl
theorem bT.later(T:bT cx l w (r.bind f) Rel2 Q E){b:β}(e:r=some (.ok (b,w'.st))) (ev:iC cx l w w'):bT cx l w' (f b w'.st) Rel2 Q E:=by
 subst e
 exact⟨T.ne,fun b a zV e x rel=>T.ok b a zV e (ev.trans x) rel,fun m e zV q x z=>T.err m e zV q (ev.trans x) (z.mono ev.size)⟩
theorem bT.fails(T:bT cx l w (r.bind f) Rel2 Q E){m:Tx}{e:Value}(q:r=some (.error (m,w'.st))) (ev:iC cx l w w') (z:ve cx l w.n w' e m):E e w'.s:=by
 subst q
 exact T.err m e w' rfl ev z
theorem Wp.step(hx:Wp cx A l w x r Rel) (T:bT cx l w (r.bind f) Rel2 Q E) (k:∀b a w',iC cx l w w'->Rel a b w'->bT cx l w' (f b w'.st) Rel2 Q E->Q0 a w'.s):wpAny (model cx.prog cx.w) A x Q0 E w.s :=
 hx Q0 E ⟨fun e=>T.ne (by rw[e];rfl),fun b a w' e ev rel=>k b a w' ev rel (T.later e ev),fun _ _ _ q ev z=>T.fails q ev z⟩
theorem bT.done{a:δ}{b:γ}(T:bT cx l w (Mine.ok b w.st) Rel2 Q E) (I:Inv cx w) (r:Rel2 a b w):Q a w.s:=T.ok b a w rfl (.refl I) r
theorem bT.at{a:δ}{b:γ}(T:bT cx l w (Mine.ok b w'.st) Rel2 Q E) (ev:iC cx l w w') (r:Rel2 a b w'):Q a w'.s:=T.ok b a w' rfl ev r
end
@[reducible] noncomputable def cH (v:Value) (a:AV) (w:Wd):Prop:=cQ w.G w.as v a
theorem Inv.toks{cx:Cx}{fr:List Addr}{W:Addr->Prop}{w:Wd}{s':Shared}(I:Inv cx w) (h0:s'.heap=w.h) (h1:s'.os=w.s.os) (h2:s'.gens=w.s.gens):Ev cx fr W w { w with s:=s' }:=I.keeps (fun _ _ e=>h0▸e) h1 h2 (h0▸Nat.le_refl _)
noncomputable def Mr(G:Addr->Lg) (nd:Node) (p:Pl) (o:FO):Addr->Lg:=put (put G (own nd p) (.fz .pq)) [p.1] (.fz o)
inductive Rx(G:Addr->Lg) (nd:Node) (p:Pl) (o:FO) (a:Addr):Prop
 |here (e:a=p.1) (q:Mr G nd p o a=.fz o)
 |own (h:a∈own nd p) (q:Mr G nd p o a=.fz .pq)
 |else(h:a∉own nd p) (q:Mr G nd p o a=G a)
theorem pA{G:Addr->Lg}{nd:Node}{p:Pl}{o:FO}(a:Addr):Rx G nd p o a:=by
 by_cases e:a=p.1
 ·exact .here e (iQ (by rw[e];exact .head _))
 ·have n:a∉[p.1]:=fun q=>e (List.mem_singleton.mp q)
  by_cases h:a∈own nd p
  ·exact .own h ((cE n).trans (iQ h))
  ·exact .else h ((cE n).trans (cE h))
noncomputable def Wd.fr(w:Wd) (i:Nat) (nd:Node) (p:Pl) (o:FO) (d:PV):Wd:=⟨Mr w.G nd p o,w.as,w.st.set i (.fz d),w.s⟩
section
variable {cx:Cx}{fr:List Addr}{W:Addr->Prop}{w:Wd}{i:Nat}{p:Pl}{nd:Node}{o:FO}{d:PV}
theorem Inv.freeze(I:Inv cx w) (e1:w.as[i]? = some p) (e2:w.st[i]? = some nd) (hp:p.1∈own nd p) (hi:Is cx w.h p.1 o) (hd:∀c dx gs,o=.ins c dx gs->dx∈own nd p/\dx≠p.1)
  (r:Rep (w.fr i nd p o d).G (.ref p.1) d):Ev cx fr W w (w.fr i nd p o d):=by
 have S:=I.rel
 have no:∀a,a∈own nd p->w.G a=.nd i:=S.fq i p nd e1 e2
 have sub:Sub w.G (w.fr i nd p o d).G:=fun a y e=>by
  induction pA (G:=w.G) (nd:=nd) (p:=p) (o:=o) a with
  |here z q=>rw[z,no _ hp] at e;injection e
  |own h q=>rw[no a h] at e;injection e
  |«else» h q=>exact q.trans e
 have qN:∀a,(w.fr i nd p o d).G a≠.out->w.G a≠.out:=fun a n z=>by
  induction pA (G:=w.G) (nd:=nd) (p:=p) (o:=o) a with
  |here e q=>rw[e,no _ hp] at z;injection z
  |own h q=>rw[no a h] at z;injection z
  |«else» h q=>exact n (q.trans z)
 refine⟨⟨⟨S.len.trans (List.length_set ..).symm,fun j q x f1 f2=>?_,fun j q x f1 f2 a ha=>?_,fun a y e=>?_,fun a c dx gs e=>?_,fun a ha=>S.lo a (qN a ha),fun a ha=>S.live a (qN a ha)⟩,
  I.old,I.os,I.gens,I.lim,I.low,I.jb,I.ge,ku.step (w:=w) (w':=w.fr i nd p o d) rfl sub I.tab⟩,Nat.le_refl _,fun _ _ _ _ _ _ _ e=>e,fun _ _ _=>nq.of_eq rfl,sub,fun _ _ e=>e,fun a _ e=>?_⟩
 ·induction qL f2 with
  |here e z=>subst e z;obtain rfl:q=p:=Option.some.inj (f1.symm.trans e1);exact .fz r
  |there n z=>exact(S.nodes j q x f1 z).mono sub fun _ _ e=>e
 ·induction qL f2 with
  |here e z=>subst z;cases ha
  |there n z =>
   have g:=S.fq j q x f1 z a ha
   induction pA (G:=w.G) (nd:=nd) (p:=p) (o:=o) a with
   |here e y=>rw[e,no _ hp] at g;(injection g with g;subst g);exact absurd rfl n
   |own h y=>rw[no a h] at g;(injection g with g;subst g);exact absurd rfl n
   |«else» h y=>exact y.trans g
 ·induction pA (G:=w.G) (nd:=nd) (p:=p) (o:=o) a with
  |here z q=>rw[z];have:=q.symm.trans e;(injection this with this;subst this);exact hi
  |own h q=>have:=q.symm.trans e;(injection this with this;subst this);trivial
  |«else» h q=>exact S.fz a y (q.symm.trans e)
 ·induction pA (G:=w.G) (nd:=nd) (p:=p) (o:=o) a with
  |here z q =>
   have:=q.symm.trans e
   injection this with this;subst this
   have UJ:=hd c dx gs rfl;have h1:=UJ.1;have h2:=UJ.2
   induction pA (G:=w.G) (nd:=nd) (p:=p) (o:=.ins c dx gs) dx with
   |here e _=>exact absurd e h2
   |own _ q=>exact q
   |«else» h _=>exact absurd h1 h
  |own h q=>have:=q.symm.trans e;cases this
  |«else» h q=>exact sub dx _ (S.pq a c dx gs (q.symm.trans e))
 ·induction pA (G:=w.G) (nd:=nd) (p:=p) (o:=o) a with
  |here z q=>rw[z,no _ hp] at e;injection e
  |own h q=>rw[no a h] at e;injection e
  |«else» h q=>exact q.trans e
inductive Ry(cx:Cx) (w:Wd) (v:Value) (d:PV) (st':aB):Prop
 |mk (G':Addr->Lg) (ev:∀fr W,Ev cx fr W w ⟨G',w.as,st',w.s⟩) (r:Rep G' v d)
inductive Rz(cx:Cx) (w:Wd) (vs:List Value) (ds:List PV) (st':aB):Prop
 |mk (G':Addr->Lg) (ev:∀fr W,Ev cx fr W w ⟨G',w.as,st',w.s⟩) (r:bh G' vs ds)
theorem Inv.zW{vs:List Value}{l:List PV}(I:Inv cx w) (e1:w.as[i]? = some p) (e2:w.st[i]? = some nd) (hp:p.1∈own nd p) (hi:Is cx w.h p.1 o) (hd:∀c dx gs,o=.ins c dx gs->dx∈own nd p/\dx≠p.1)
  (q:Sh o d vs l) (r:bh w.G vs l):Ry cx w (.ref p.1) d (w.st.set i (.fz d)):=by
 have sub:Sub w.G (Mr w.G nd p o):=fun a y e=>by
  induction pA (G:=w.G) (nd:=nd) (p:=p) (o:=o) a with
  |here z q=>rw[z,I.rel.fq i p nd e1 e2 _ hp] at e;injection e
  |own h q=>rw[I.rel.fq i p nd e1 e2 a h] at e;injection e
  |«else» h q=>exact q.trans e
 have z:Rep (Mr w.G nd p o) (.ref p.1) d:=.ref (iQ (.head _)) q (r.mono sub)
 exact .mk _ (fun fr W=>I.freeze e1 e2 hp hi hd z) z
end
inductive RA(cx:Cx) (w:Wd) (gs:List (Tx×Value)) (ds:List (Tx×PV)) (st':aB):Prop
 |mk (G':Addr->Lg) (ev:∀fr W,Ev cx fr W w ⟨G',w.as,st',w.s⟩) (k:gs.map (·.1)=ds.map (·.1)) (r:bh G' (gs.map (·.2)) (ds.map (·.2)))
section
variable {cx:Cx}{w:Wd}{v:Value}{a:AV}{d:PV}{st':aB}{q:Tx×aB}
theorem gm.ne{h:Heap}{a dx C:Addr}{m:Str->Option Value}:gm h a dx C m->dx≠a
 |.mk _ _ _ _ _ ne _ _ _=>ne
theorem gu.freeze{i:Nat}{p:Pl}{nd:Node}(I:Inv cx w) (e1:w.as[i]? = some p) (e2:w.st[i]? = some nd) (hd:Cv nd=some d):Ry cx w (.ref p.1) d (w.st.set i (.fz d)):=by
 induction I.rel.nodes i p nd e1 e2 with
 |fz r=>injection hd
 |tr e j q r=>(injection e.symm.trans hd with zx;subst zx);exact I.zW e1 e2 (u9 e) j (fun _ _ _ z=>(q.IE e z).elim) q r
 |inst j r=>injection hd
mutual
theorem fO:∀(n:Nat){w:Wd}{a:AV}{d:PV}{st':aB}{v:Value},Inv cx w->cQ w.G w.as v a->i8 n w.st a=some (d,st')->Ry cx w v d st'
 |0,_,.r _,_,_,_,_,_,e=>nomatch e
 |0,_,.t _,_,_,_,I,r,e=>by cases e;exact .mk _ (fun _ _=>.refl I) r
 |_+1,_,.t _,_,_,_,I,r,e=>by cases e;exact .mk _ (fun _ _=>.refl I) r
 |n+1,w,.r i,d,st',_,I,.mk p hp rfl,e=>by
  unfold i8 at e
  cases hn:w.st[i]? with
  |none=>rw[hn] at e;injection e
  |some nd =>
   rw[hn] at e
   induction nd with
   |fz d0=>cases e;cases I.rel.nodes i p _ hp hn with| fz r=>exact .mk _ (fun _ _=>.refl I) r|tr e=>injection e
   |lst l=>cases e;exact gu.freeze I hp hn rfl
   |aK l=>cases e;exact gu.freeze I hp hn rfl
   |eW l=>cases e;exact gu.freeze I hp hn rfl
   |inst c fs =>
    cases I.rel.nodes i p _ hp hn with
    |tr e=>injection e
    |@inst _ gs _ j r =>
     dsimp only at e
     cases h1:qb n w.st fs with
     |none=>rw[h1] at e;injection e
     |some x =>
      rw[h1] at e
      obtain⟨ds,st1⟩:=x
      obtain⟨G1,tR,k,rr⟩:=qO n I r h1
      dsimp only at e
      cases h2:st1[i]? with
      |none=>rw[h2] at e;injection e
      |some VZ =>
       rw[h2] at e
       induction VZ with
       |inst c' fs' =>
        dsimp only at e
        split at e
        ·cases e
         have ne:=let⟨_,i,_,_⟩:=j;i.ne
         obtain⟨G2,wX,r2⟩:=Inv.zW (w:=⟨G1,w.as,st1,w.s⟩) (o:=.ins c p.2 gs) (d:=.inst c ds) (tR [] ou).inv hp h2 (.head _) j (fun _ _ _ z=>by cases z;exact⟨.tail _ (.head _),ne⟩) (.ins k) rr
         exact .mk G2 (fun fr W=>(tR fr W).trans (wX fr W)) r2
        ·injection e
       |_=>injection e
theorem qO:∀(n:Nat){w:Wd}{fs:List (Tx×AV)}{ds:List (Tx×PV)}{st':aB}{gs:List (Tx×Value)},Inv cx w->oE w.G w.as gs fs->qb n w.st fs=some (ds,st')->RA cx w gs ds st'
 |0,_,[],_,_,_,I,.nil,e=>by cases e;exact .mk _ (fun _ _=>.refl I) rfl .nil
 |_+1,_,[],_,_,_,I,.nil,e=>by cases e;exact .mk _ (fun _ _=>.refl I) rfl .nil
 |0,_,_::_,_,_,_,_,_,e=>nomatch e
 |n+1,w,(f,a)::fs,ds,st',_,I,.cons x r,e=>by
  unfold qb at e
  cases h1:i8 n w.st a with
  |none=>rw[h1] at e;injection e
  |some y =>
   rw[h1] at e
   obtain⟨d,st1⟩:=y
   obtain⟨G1,tR,r1⟩:=fO n I x h1
   dsimp only at e
   cases h2:qb n st1 fs with
   |none=>rw[h2] at e;injection e
   |some y =>
    rw[h2] at e
    obtain⟨Zq,st2⟩:=y
    cases e
    obtain⟨G2,wX,k,r2⟩:=qO (w:=⟨G1,w.as,st1,w.s⟩) n (tR [] ou).inv (r.mono (tR [] ou).sub fun _ _ e=>e) h2
    exact .mk G2 (fun fr W=>(tR fr W).trans (wX fr W)) (congrArg (f::·) k) (.cons (r1.mono (wX [] ou).sub) r2)
end
inductive dB(G:Addr->Lg) (as:List Pl):List Value->List AV->Prop
 |nil:dB G as [] []
 |cons {v:Value}{vs:List Value}{a:AV}{l:List AV}(x:cQ G as v a) (r:dB G as vs l):dB G as (v::vs) (a::l)
theorem dB.mono{G G':Addr->Lg}{as Bf:List Pl}(hs:Sub G G') (ha:Pre as Bf){vs:List Value}{l:List AV}(r:dB G as vs l):dB G' Bf vs l:=by
 induction r with
 |nil=>exact .nil
 |cons x _ ih=>exact .cons (x.mono hs ha) ih
theorem dB.length{G:Addr->Lg}{as:List Pl}{vs:List Value}{l:List AV}(r:dB G as vs l):vs.length=l.length:=by
 induction r with
 |nil=>rfl
 |cons _ _ ih=>exact congrArg Nat.succ ih
theorem nt{r:R PV}(e:eX w.st a=r):r=none\/∃d st',i8 cT w.st a=some (d,st')/\r=ok d st':=by
 subst e
 unfold eX
 induction i8 cT w.st a with
 |none=>exact .inl rfl
 |some x=>exact .inr ⟨_,_,rfl,rfl⟩
theorem bT.eX{γ δ:Type}{l:List Env}{f:PV->aB->R γ}{Rel2:δ->γ->Wd->Prop}{Q:δ->Shared->Prop}{E:Value->Shared->Prop}{P:Prop}(I:Inv cx w) (r:cQ w.G w.as v a) (T:bT cx l w ((Mine.eX w.st a).bind f) Rel2 Q E)
  (k:∀d G' st',iC cx l w ⟨G',w.as,st',w.s⟩->Rep G' v d->bT cx l ⟨G',w.as,st',w.s⟩ (f d st') Rel2 Q E->P):P:=by
 rcases nt (w:=w) (a:=a) rfl with e|⟨d,st',h,e⟩
 ·exact absurd (by rw[e];rfl) T.ne
 ·obtain⟨G',ev,r'⟩:=fO _ I r h
  exact k d G' st' (ev _ _) r' (T.later (w':=⟨G',w.as,st',w.s⟩) e (ev _ _))
theorem mS:∀{w:Wd}{as:List AV}{vs:List Value},Inv cx w->dB w.G w.as vs as->fE w.st as=none\/∃ds st',fE w.st as=ok ds st'/\Rz cx w vs ds st'
 |w,[],_,I,.nil=>.inr ⟨[],w.st,rfl,.mk _ (fun _ _=>.refl I) .nil⟩
 |w,a::as,_,I,.cons x r=>by
  unfold fE
  rcases nt (w:=w) (a:=a) rfl with e|⟨d,st1,h,e⟩
  ·rw[e];exact .inl rfl
  ·rw[e]
   obtain⟨G1,tR,r1⟩:=fO _ I x h
   rcases mS (w:=⟨G1,w.as,st1,w.s⟩) (as:=as) (tR [] ou).inv (r.mono (tR [] ou).sub fun _ _ e=>e) with e|⟨ds,st2,e,G2,wX,r2⟩
   ·exact .inl (by show R.bind (fE st1 as) _=_;rw[e];rfl)
   ·exact .inr ⟨d::ds,st2,by show R.bind (fE st1 as) _=_;rw[e];rfl,.mk G2 (fun fr W=>(tR fr W).trans (wX fr W)) (.cons (r1.mono (wX [] ou).sub) r2)⟩
theorem bT.fE{γ δ:Type}{l:List Env}{as:List AV}{vs:List Value}{f:List PV->aB->R γ}{Rel2:δ->γ->Wd->Prop}{Q:δ->Shared->Prop}{E:Value->Shared->Prop}{P:Prop}(I:Inv cx w) (r:dB w.G w.as vs as) (T:bT cx l w ((Mine.fE w.st as).bind f) Rel2 Q E)
  (k:∀ds G' st',iC cx l w ⟨G',w.as,st',w.s⟩->bh G' vs ds->bT cx l ⟨G',w.as,st',w.s⟩ (f ds st') Rel2 Q E->P):P:=by
 rcases mS I r with e|⟨ds,st',e,G',ev,r'⟩
 ·exact absurd (by rw[e];rfl) T.ne
 ·exact k ds G' st' (ev _ _) r' (T.later (w':=⟨G',w.as,st',w.s⟩) e (ev _ _))
end
structure Kx where
 A:Around
 l:List Env
 env:Env
 vs:List (Str×Nat)
inductive JN(h:Heap) (a:Addr):Prop
 |mk (o:Obj) (e:h.get? a=some o) (d:∀vs,o.data≠.fields vs)
structure dN(cx:Cx) (l:List Env) (w:Wd):Prop where
 at':∀a∈ez l,iB cx w a
 ob:∀a∈ez l,JN w.h a
 env:∀e∈l,e.scope.kind≠.module/\∃L,e.frame=some L
structure zd(cx:Cx) (K:Kx) (w:Wd) (c:Addr):Prop where
 dU:iB cx w c
 JO:c∉ez K.l
 ne:c≠K.env.locals
 cell:∃v,w.h.IsCell c v
structure j6(cx:Cx) (K:Kx) (w:Wd):Prop where
 fn:K.env.scope.kind=.function
 glob:K.env.globals=mainGlobals
 blt:K.env.builtins=builtinsNs
 dU:iB cx w K.env.locals
 ns:∃m,w.h.Ns K.env.locals m
 cell:∀x c,K.env.cells.lookup x=some c->zd cx K w c
 apart:∀x y c,K.env.cells.lookup x=some c->K.env.cells.lookup y=some c->x=y
 kinds:∀x,K.env.kindOf x=some .cell\/K.env.kindOf x=some .free->∃c,K.env.cells.lookup x=some c
inductive pB(env:Env) (h:Heap) (x:Str) (v:Value):Prop
 |loc (k:env.kindOf x=some .local) (m:Str->Option Value) (n:h.Ns env.locals m) (e:m x=some v)
 |cell (k:env.kindOf x=some .cell\/env.kindOf x=some .free) (c:Addr) (e:env.cells.lookup x=some c) (z:h.IsCell c (some v))
inductive CX(K:Kx) (w:Wd) (x:Str) (a:AV):Prop
 |mk (v:Value) (h:pB K.env w.h x v) (r:cQ w.G w.as v a)
structure At(cx:Cx) (K:Kx) (g:Gm) (w:Wd):Prop where
 inv:Inv cx w
 fr:dN cx K.l w
 eo:j6 cx K w
 vars:∀x i a,(x,i)∈K.vs->g[i]? = some (some a)->CX K w x a
section
variable {cx:Cx}{l:List Env}{W:Addr->Prop}{w w':Wd}{K:Kx}{g:Gm}{a:Addr}
theorem dN.Bg(x:dN cx l w) (y:Ev cx (ez l) W w w') (h:∀a∈ez l,¬W a):dN cx l w' where
 at' a ha:=(x.at' a ha).ev y
 ob a ha:=let⟨o,e,d⟩:=x.ob a ha;let⟨_,e'⟩:=y.frame a ha (h a ha) o e;⟨_,e',d⟩
 env:=x.env
theorem dN.ev(x:dN cx l w) (y:iC cx l w w'):dN cx l w':=x.Bg y fun _ _ q=>q
structure nu(K:Kx) (a:Addr):Prop where
 fr:a∉ez K.l
 loc:a≠K.env.locals
 cell:∀x c,K.env.cells.lookup x=some c->c≠a
theorem xC{m:Str->Option Value}(y:Ev cx (ez l) W w w') (p:iB cx w a) (hw:¬W a) (n:w.h.Ns a m):w'.h.Ns a m:=by
 by_cases q:a∈ez l
 ·exact(y.frame a q hw).ns n
 ·let⟨o,es,ep,e,r⟩:=n
  exact⟨o,es,ep,y.keep a p.ge p.lt p.out q hw o e,r⟩
theorem zd.CY{c:Addr}{v:Option Value}(x:zd cx K w c) (y:Ev cx (ez K.l) W w w') (hw:¬W c):w.h.IsCell c v->w'.h.IsCell c v
 |⟨o,e,d⟩=>⟨o,y.keep c x.dU.ge x.dU.lt x.dU.out x.JO hw o e,d⟩
theorem j6.Bg(x:j6 cx K w) (y:Ev cx (ez K.l) W w w') (hW:∀a,W a->nu K a):j6 cx K w' where
 fn:=x.fn
 glob:=x.glob
 blt:=x.blt
 dU:=x.dU.ev y
 ns:=let⟨m,n⟩:=x.ns;⟨m,xC y x.dU (fun q=>(hW _ q).loc rfl) n⟩
 cell n c e:=let z:=x.cell n c e;⟨z.dU.ev y,z.JO,z.ne,let⟨v,q⟩:=z.cell;⟨v,z.CY y (fun q=>(hW _ q).cell n c e rfl) q⟩⟩
 apart:=x.apart
 kinds:=x.kinds
theorem pB.ev{x:Str}{v:Value}(O:j6 cx K w) (y:Ev cx (ez K.l) W w w') (hl:¬W K.env.locals) (hc:∀c,K.env.cells.lookup x=some c->¬W c):pB K.env w.h x v->pB K.env w'.h x v
 |.loc k m n e=>.loc k m (xC y O.dU hl n) e
 |.cell k c e z=>.cell k c e ((O.cell x c e).CY y (hc c e) z)
theorem cQ.ev{fr:List Addr}{v:Value}{x:AV}(r:cQ w.G w.as v x) (y:Ev cx fr W w w'):cQ w'.G w'.as v x:=r.mono y.sub y.pre
theorem At.Bg(x:At cx K g w) (y:Ev cx (ez K.l) W w w') (hW:∀a,W a->nu K a):At cx K g w' where
 inv:=y.inv
 fr:=x.fr.Bg y fun _ h q=>(hW _ q).fr h
 eo:=x.eo.Bg y hW
 vars n i a e1 e2:=let⟨v,h,r⟩:=x.vars n i a e1 e2;⟨v,h.ev x.eo y (fun q=>(hW _ q).loc rfl) fun c e q=>(hW _ q).cell n c e rfl,r.ev y⟩
theorem At.ev(x:At cx K g w) (y:iC cx K.l w w'):At cx K g w':=x.Bg y fun _ q=>q.elim
theorem Bh{M:Model}{A:Around}{E:Value->Shared->Prop}{s:Shared}{env:Env}{x:Str}{v:Value}{Q:Value->Shared->Prop}(hk:env.scope.kind=.function) (hn:(x==("__classdict__" : Str))=false) (h:Q v s):pB env s.heap x v->wpAny M A (loadName env x) Q E s
 |.loc k _ n e=>wpAny_loadName_local hk k n e h
 |.cell (.inl k) _ e z=>wpAny_loadName_cell hk k e z h
 |.cell (.inr k) _ e z=>wpAny_loadName_free hk k e z h hn
structure fS(K:Kx) (x:Str) (i:Nat):Prop where
 kind:K.env.kindOf x=some .local\/K.env.kindOf x=some .cell
 at':∀j,(x,j)∈K.vs->j=i
 uniq:∀y,(y,i)∈K.vs->y=x
inductive Spot(env:Env) (x:Str) (b:Addr):Prop
 |loc (k:env.kindOf x=some .local) (e:b=env.locals)
 |cell (k:env.kindOf x=some .cell) (e:env.cells.lookup x=some b)
@[reducible] noncomputable def Wd.at (w:Wd) (s':Shared):Wd:={ w with s:=s' }
theorem qP{h₀ h h':Heap}{a:Addr}(K:OldK h₀ h) (ha:h₀.objs.size<=a) (hs:Heap.ExtBut a h h'):OldK h₀ h':=by
 have ne:∀b o,h₀.get? b=some o->b≠a:=fun b o e=>Nat.ne_of_lt (Nat.lt_of_lt_of_le (Heap.lt_size e) ha)
 refine⟨fun b o e=>?_,fun b o e=>let⟨o',ho'⟩:=K.there b o e;⟨o',hs b o' (ne b o e) ho'⟩⟩
 rcases K.old b o e with x|⟨t,hc,vs,more,hv,x⟩|⟨rfl,hc,⟨o',es,n,ho',r⟩,z⟩
 ·exact .inl (hs b _ (ne b o e) x)
 ·exact .inr (.inl ⟨t,hc,vs,more,hv,hs b _ (ne b o e) x⟩)
 ·exact .inr (.inr ⟨rfl,hc,⟨o',es,n,hs _ _ (ne _ o e) ho',r⟩,fun key=>by rw[OldK.staticOf_congr ((hs _ _ (ne _ o e) ho').trans ho'.symm) key];exact z key⟩)
theorem Inv.ext{fr:List Addr}{b:Addr}{s':Shared}(I:Inv cx w) (p:iB cx w b) (hs:Heap.ExtBut b w.h s'.heap) (hz:w.n<=s'.heap.objs.size) (h1:s'.os=w.s.os) (h2:s'.gens=w.s.gens):Ev cx fr (fun c=>c=b) w (w.at s') where
 inv:=⟨I.rel.step fun c hc=>let⟨o,e⟩:=I.rel.live c hc;(hs c o (fun q=>hc (q▸p.out)) e).trans e.symm,qP I.old p.ge hs,h1.trans I.os,h2.trans I.gens,I.lim.extBut hs (Nat.ne_of_lt (Nat.lt_of_lt_of_le I.low p.ge)),I.low,I.jb,Nat.le_trans I.ge hz,
  let⟨_,e,_,_⟩:=I.tab;I.tab.step ((hs _ _ (Nat.ne_of_lt (Nat.lt_of_lt_of_le I.jb p.ge)) e).trans e.symm) fun _ _ q=>q⟩
 size:=hz
 keep c _ _ _ _ hw o e:=hs c o hw e
 frame c _ hw:=fun o e=>⟨o.slots,hs c o hw e⟩
 sub _ _ q:=q
 pre _ _ q:=q
 out _ _ q:=q
theorem Inv.dU{fr:List Addr}{b:Addr}{s':Shared}(I:Inv cx w) (p:iB cx w b) (hs:Heap.SameBut b w.h s'.heap) (h1:s'.os=w.s.os) (h2:s'.gens=w.s.gens):Ev cx fr (fun c=>c=b) w (w.at s'):=I.ext p hs.extBut (Nat.le_of_eq hs.1.symm) h1 h2
theorem iB.same{b:Addr}{s':Shared}(p:iB cx w a) (hs:Heap.SameBut b w.h s'.heap):iB cx (w.at s') a:=⟨p.ge,Nat.lt_of_lt_of_le p.lt (Nat.le_of_eq hs.1.symm),p.out⟩
theorem At.store{x:Str}{i:Nat}{v:Value}{a:AV}{s':Shared}(X:At cx K g w) (V:fS K x i) (I:Inv cx (w.at s')) (fr:dN cx K.l (w.at s')) (eo:j6 cx K (w.at s')) (r:cQ w.G w.as v a) (hx:pB K.env s'.heap x v)
  (ho:∀y u,y≠x->pB K.env w.h y u->pB K.env s'.heap y u):At cx K (g.set i (some a)) (w.at s') where
 inv:=I
 fr:=fr
 eo:=eo
 vars y j c e1 e2:=by
  cases qL e2 with
  |here e q=>(injection q with q;subst q);subst e;cases V.uniq y e1;exact⟨v,hx,r⟩
  |there n q =>
   obtain⟨u,h1,h2⟩:=X.vars y j c e1 q
   exact⟨u,ho y u (fun z=>n (V.at' j (z▸e1))) h1,h2⟩
theorem Ns.unique{h:Heap}{m m':Str->Option Value}:h.Ns a m->h.Ns a m'->m=m'
 |⟨o,es,ep,q,d,_,f⟩,⟨o',es',ep',q',d',_,f'⟩=>by
  injection q.symm.trans q' with zx;subst zx
  injection d.symm.trans d' with zx;subst zx
  exact funext fun n=>(f n).symm.trans (f' n)
theorem dN.same{b:Addr}{s':Shared}(x:dN cx l w) (hs:Heap.SameBut b w.h s'.heap) (hb:b∈ez l->JN s'.heap b):dN cx l (w.at s') where
 at' a ha:=(x.at' a ha).same hs
 ob a ha:=by
  by_cases q:a=b
  ·exact q▸hb (q▸ha)
  ·obtain⟨o,e,d⟩:=x.ob a ha;exact⟨o,(hs.2 a q).trans e,d⟩
 env:=x.env
theorem j6.same{b:Addr}{s':Shared}(x:j6 cx K w) (hs:Heap.SameBut b w.h s'.heap) (hn:∃m,s'.heap.Ns K.env.locals m) (hc:∀y c,K.env.cells.lookup y=some c->∃v,s'.heap.IsCell c v):j6 cx K (w.at s') where
 fn:=x.fn
 glob:=x.glob
 blt:=x.blt
 dU:=x.dU.same hs
 ns:=hn
 cell y c e:=let z:=x.cell y c e;⟨z.dU.same hs,z.JO,z.ne,hc y c e⟩
 apart:=x.apart
 kinds:=x.kinds
theorem jg{h h':Heap}{b c:Addr}{v:Option Value}(hs:Heap.SameBut b h h') (n:c≠b):h.IsCell c v->h'.IsCell c v
 |⟨o,e,d⟩=>⟨o,(hs.2 c n).trans e,d⟩
theorem qQ{M:Model}{A:Around}{E:Value->Shared->Prop}{x:Str}{i:Nat}{v:Value}{a:AV}{Q:Unit->Shared->Prop}(X:At cx K g w) (V:fS K x i) (r:cQ w.G w.as v a)
  (h:∀b s',Spot K.env x b->Ev cx (ez K.l) (fun c=>c=b) w (w.at s')->At cx K (g.set i (some a)) (w.at s')->Q () s'):wpAny M A (storeName K.env x v) Q E w.s:=by
 obtain⟨m,hm⟩:=X.eo.ns
 rcases V.kind with hx|hx
 ·refine wpAny_storeName_local hx hm (fun h' hn hs=>?_) (by rw[X.eo.fn];rfl)
  have ev:=X.inv.dU (fr:=ez K.l) (s':=⟨h',w.s.gens,w.s.drawn,w.s.toks+1,w.s.os⟩) X.eo.dU hs rfl rfl
  refine h _ _ (.loc hx rfl) ev (X.store V ev.inv (X.fr.same hs fun _=>?_) (X.eo.same hs ⟨_,hn⟩ fun y c e=>?_) r (.loc hx _ hn (if_pos rfl)) fun y u hy=>?_)
  ·let⟨o,es,ep,e,d,_⟩:=hn
   exact⟨o,e,fun vs q=>by rw[d] at q;injection q⟩
  ·obtain⟨_,_,q,v,z⟩:=X.eo.cell y c e
   exact⟨v,jg hs q z⟩
  ·rintro(⟨k,m',n',e⟩|⟨k,c,e,z⟩)
   ·cases Ns.unique n' hm;exact .loc k _ hn ((if_neg hy).trans e)
   ·exact .cell k c e (jg hs (X.eo.cell y c e).ne z)
 ·obtain⟨c,hc⟩:=X.eo.kinds x (.inl hx)
  have z:=X.eo.cell x c hc
  obtain⟨V0,z0⟩:=z.cell
  refine wpAny_storeName_cell X.eo.fn hx hc z0 fun h' hz hs=>?_
  have ev:=X.inv.dU (fr:=ez K.l) (s':=⟨h',w.s.gens,w.s.drawn,w.s.toks,w.s.os⟩) z.dU hs rfl rfl
  have V3:h'.Ns K.env.locals m:=hm.sameBut hs (Ne.symm z.ne)
  refine h _ _ (.cell hx hc) ev (X.store V ev.inv (X.fr.same hs fun q=>absurd q z.JO) (X.eo.same hs ⟨m,V3⟩ fun y d e=>?_) r (.cell (.inl hx) c hc hz) fun y u hy=>?_)
  ·by_cases q:d=c
   ·exact q▸⟨_,hz⟩
   ·obtain⟨v,y⟩:=(X.eo.cell y d e).cell;exact⟨v,jg hs q y⟩
  ·rintro(⟨k,m',n',e⟩|⟨k,d,e,q⟩)
   ·exact .loc k m' (n'.sameBut hs (Ne.symm z.ne)) e
   ·exact .cell k d e (jg hs (fun qq=>hy (X.eo.apart y x d e (qq▸hc))) q)
end
inductive Vw(cx:Cx) (w:Wd):Value->PV->Prop
 |none:Vw cx w .none .none
 |bool (b:Bool):Vw cx w (.bool b) (.bool b)
 |int (i:Int) (t:Tok):Vw cx w (.int i t) (.int i)
 |str (s:Tx) (t:Tok) (z:sX s=true):Vw cx w (.str (tx s) t) (.str s)
 |ref {a:Addr}{o:FO}{d:PV}{vs:List Value}{l:List PV}(ge:cx.cZ<=a) (i:Is cx w.h a o) (q:Sh o d vs l) (r:bh w.G vs l):Vw cx w (.ref a) d
inductive Nx(cx:Cx) (w:Wd) (d:PV):Value->Prop
 |mk {a:Addr}{o:FO}{vs:List Value}{l:List PV}(ge:cx.cZ<=a) (i:Is cx w.h a o) (q:Sh o d vs l) (r:bh w.G vs l):Nx cx w d (.ref a)
theorem Vw.big{cx:Cx}{w:Wd}{v:Value}{d:PV}(x:Vw cx w v d):Nt d=true->Nx cx w d v:=by
 cases x with
 |ref ge i q r=>exact fun _=>.mk ge i q r
 |_=>exact fun h=>nomatch h
inductive vf(cx:Cx) (w:Wd) (v:Value):Option PV->Prop
 |none:vf cx w v Option.none
 |some {d:PV}(x:Vw cx w v d):vf cx w v (some d)
noncomputable def clsName:ie->Str
 |.null=>"Null"
 |.missing=>"Missing"
 |.aQ=>"Vector"
 |.symbol=>"Symbol"
 |.call=>"Call"
 |.aJ=>"Vector"
noncomputable def fT:ie->Nat
 |.null=>0
 |.missing=>1
 |.aQ=>2
 |.symbol=>4
 |.call=>5
 |.aJ=>2
noncomputable def fu:List Tx:=[[107,105,110,100],[105,116,101,109,115],[97,116,116,114,115],[115,104,97,114,101,100],[108,111,111,115,101],[110,97,109,101],[116,97,103,115],[99,111,100,101]]
theorem kC:∀f∈fu,typeLookup (.type "object") (tx f)=pure none:=by
 intro f hf
 rw[typeLookup_type,builtinLookup_eq_fast]
 revert f
 refine List.forall_mem_cons.mpr ⟨by kernel_rfl,?_⟩
 repeat(refine List.forall_mem_cons.mpr ⟨by kernel_rfl,?_⟩)
 exact fun _ q=>nomatch q
inductive oG(C N:Addr):Obj->Prop
 |mk (nm q:Str) (bs:List Value) (sn:List Str) (sub:List Value) (col:Option Bool) (dd:Option Addr) (k0 k1 k2 k3 k5:Option Value):oG C N (excClassObj nm q C N bs [.type "object"] true sn sub false col dd k0 k1 k2 k3 k5 "object.__new__")
theorem oG.cls{C N:Addr}{o:Obj}(x:oG C N o):o.cls≠.none:=by cases x;exact fun q=>by injection q
structure IG(cx:Cx) (c:ie) (N:Addr) (mN:Str->Option Value):Prop where
 obj:∃o,cx.h₀.get? (cx.cA c)=some o/\oG (cx.cA c) N o
 ns:cx.h₀.Ns N mN
 Ny:∀o,cx.h₀.get? N=some o->o.cls≠.none
 ga:mN "__getattribute__" = none
 RB:mN "__getattr__" = none
 sa:mN "__setattr__" = none
 fields:∀f∈fu,mN (tx f)=none
 init:mN "__init__" = some (.ref (cx.fA (fT c)))
 copy:c=.aQ->mN "copy" = some (.ref (cx.fA 3))
inductive II(cx:Cx) (c:ie):Prop
 |mk (N:Addr) (mN:Str->Option Value) (x:IG cx c N mN)
noncomputable def cy:List Str:=["isinstance","len","list","max","range","dict","abs","chr","str"]
structure Base(cx:Cx) (nm:Nat->Option Str):Prop where
 g:cx.h₀.Ns mainGlobals cx.mg
 gC:∀o,cx.h₀.get? mainGlobals=some o->o.cls≠.none
 b:cx.h₀.Ns builtinsNs cx.mb
 bC:∀o,cx.h₀.get? builtinsNs=some o->o.cls≠.none
 blt:∀x∈cy,cx.mg x=none/\cx.mb x=bootBuiltins x
 cls:∀c,II cx c
 cg:∀c,cx.mg (clsName c)=some (.ref (cx.cA c))
 fg:∀k x,nm k=some x->cx.mg x=some (.ref (cx.fA k))
 most:∃t,cx.mg "MOST_LENGTH" = some (.int 1000000 t)
 sys:sysModules<cx.cZ
 v0:cx.cA .aJ=cx.cA .aQ
section
variable {cx:Cx}{nm:Nat->Option Str}{w:Wd}{K:Kx}{g:Gm}{v:Value}{a:AV}{d:PV}{h:Heap}{A:Around}{l:List Env}{E:Value->Shared->Prop}{Q:Value->Shared->Prop}{G:Addr->Lg}{as:List Pl}{f:Tx}
theorem Rep.vw(S:eV cx w):Rep w.G v d->Vw cx w v d
 |.none=>.none
 |.bool b=>.bool b
 |.int i t=>.int i t
 |.str s t z=>.str s t z
 |.ref e q r=>.ref (S.lo _ (e▸fun q=>by injection q)) (S.fz _ _ e) q r
theorem gu.vw{p:Pl}{i:Nat}{nd:Node}(S:eV cx w) (e1:w.as[i]? = some p) (e2:w.st[i]? = some nd):vf cx w (.ref p.1) (Jw (some nd)):=by
 cases S.nodes i p nd e1 e2 with
 |fz r=>exact .some (r.vw S)
 |tr e j q r =>
  have z:=Vw.ref (S.lo _ (S.fq i p nd e1 e2 _ (u9 e)▸fun q=>by injection q)) j q r
  cases nd<;>first| (cases e;exact .some z)|injection e
 |inst=>exact .none
theorem cQ.vw(S:eV cx w):∀{a:AV},cQ w.G w.as v a->vf cx w v (vw w.st a)
 |.t _,r=>.some (Rep.vw S r)
 |.r i,.mk p e q=>by
  subst q
  show vf cx w _ (Jw w.st[i]?)
  cases h:w.st[i]? with
  |none=>exact .none
  |some nd=>exact gu.vw S e h
theorem OldK.tS{a:Addr}{m:Str->Option Value}(K:OldK cx.h₀ h) (n:cx.h₀.Ns a m) (hc:∀o,cx.h₀.get? a=some o->o.cls≠.none):h.Ns a m:=by
 obtain⟨o,es,ep,e,r⟩:=n
 exact⟨o,es,ep,K.get_of_cls e (hc o e),r⟩
structure F6(h:Heap) (C N:Addr) (mN:Str->Option Value):Prop where
 obj:∃o,h.get? C=some o/\oG C N o
 ns:h.Ns N mN
theorem OldK.cls{c:ie}{N:Addr}{mN:Str->Option Value}(K:OldK cx.h₀ h) (X:IG cx c N mN):F6 h (cx.cA c) N mN where
 obj:=let⟨o,e,z⟩:=X.obj;⟨o,K.get_of_cls e z.cls,z⟩
 ns:=OldK.tS K X.ns X.Ny
noncomputable def SE(cx:Cx) (K:Kx) (x:Expr) (f:Kv):Prop:=∀g w,At cx K g w->Wp cx K.A K.l w (eval x K.env) (f g w.st) cH
theorem bT.same{s':Shared}(T:bT cx l w (Mine.ok a w.st) cH Q E) (I:Inv cx w) (r:cQ w.G w.as v a) (h0:s'.heap=w.h:=by rfl) (h1:s'.os=w.s.os:=by rfl) (h2:s'.gens=w.s.gens:=by rfl):Q v s':=T.ok a v (w.at s') rfl (I.toks h0 h1 h2) r
theorem F7{k:Nat}{pos:Pos}:SE cx K (.Constant .none k pos) fun _ st=>ok (.t .none) st:=fun _ _ X _ _ T=>wpAny_Constant_none (T.done X.inv Rep.none)
theorem F8{b:Bool}{k:Nat}{pos:Pos}:SE cx K (.Constant (.bool b) k pos) fun _ st=>ok (.t (.bool b)) st:=fun _ _ X _ _ T=>wpAny_Constant_bool (T.done X.inv (Rep.bool b))
theorem JP{i:Int}{k:Nat}{pos:Pos}:SE cx K (.Constant (.int i) k pos) fun _ st=>ok (.t (.int i)) st:=fun _ _ X _ _ T=>wpAny_Constant_int (T.same X.inv (Rep.int i _))
theorem JQ{x:Tx}{k:Nat}{pos:Pos}(hx:sX x=true):SE cx K (.Constant (.str (tx x)) k pos) fun _ st=>ok (.t (.str x)) st:=fun _ _ X _ _ T=>wpAny_Constant_str (T.same X.inv (Rep.str x _ hx))
theorem JR{x:Str}{pos:Pos}{o:Option (Option AV)}(I:Inv cx w) (hk:K.env.scope.kind=.function) (hd:(x==("__debug__" : Str))=false) (hn:(x==("__classdict__" : Str))=false) (h:∀a,o=some (some a)->CX K w x a) :
  Wp cx A l w (eval (.Name x pos) K.env) (A7 o w.st) cH:=by
 induction o with
 |none=>exact .none
 |some o=>induction o with
  |none=>exact .none
  |some a=>exact fun Q E T=>let⟨v,h1,h2⟩:=h a rfl;wpAny_Name (Bh hk hn (T.done I h2) h1) hd
theorem JS{x:Str}{i:Nat}{pos:Pos}(hx:(x,i)∈K.vs) (hd:(x==("__debug__" : Str))=false) (hn:(x==("__classdict__" : Str))=false):SE cx K (.Name x pos) fun g st=>A7 g[i]? st :=
 fun _ _ X=>JR X.inv X.eo.fn hd hn fun a e=>X.vars x i a hx e
theorem gw{x:Str}{pos:Pos}(X:At cx K g w) (B:Base cx nm) (hk:K.env.kindOf x=some .globalImplicit) (hd:(x==("__debug__" : Str))=false) (hv:cx.mg x=some v) (h:Q v w.s) :
  wpAny (model cx.prog cx.w) A (eval (.Name x pos) K.env) Q E w.s :=
 Name_function_global X.eo.fn hk (loadGlobal_global (by rw[X.eo.glob];exact OldK.tS X.inv.old B.g B.gC) hv h) hd
theorem iL{x:Str}{pos:Pos}(X:At cx K g w) (B:Base cx nm) (hk:K.env.kindOf x=some .globalImplicit) (hd:(x==("__debug__" : Str))=false) (hu:x∈cy) (hv:bootBuiltins x=some v) (h:Q v w.s) :
  wpAny (model cx.prog cx.w) A (eval (.Name x pos) K.env) Q E w.s :=
 Name_function_global X.eo.fn hk (loadGlobal_builtin (by rw[X.eo.glob];exact OldK.tS X.inv.old B.g B.gC) (B.blt x hu).1 (by rw[X.eo.blt];exact OldK.tS X.inv.old B.b B.bC) ((B.blt x hu).2.trans hv) h) hd
theorem F9{pos:Pos}(B:Base cx nm) (hk:K.env.kindOf "MOST_LENGTH" = some .globalImplicit):SE cx K (.Name "MOST_LENGTH" pos) fun _ st=>ok (.t (.int 1000000)) st:=fun _ _ X _ _ T =>
 let⟨t,ht⟩:=B.most;gw X B hk (by decide) ht (T.done X.inv (Rep.int 1000000 t))
theorem Rep.handed(r:Rep G v d):handedOut v=pure v:=by cases r<;>rfl
theorem cQ.handed:∀{a:AV},cQ G as v a->handedOut v=pure v
 |.t _,r=>Rep.handed r
 |.r _,.mk _ _ q=>q▸rfl
inductive V4(G:Addr->Lg) (as:List Pl) (gs:List (Tx×Value)) (f:Tx) (b:AV):Prop
 |mk (u:Value) (m:(f,u)∈gs) (r:cQ G as u b)
theorem oE.find{b:AV}{gs:List (Tx×Value)}{fs:List (Tx×AV)}(x:oE G as gs fs) (e:cj f fs=some b):V4 G as gs f b:=by
 induction x with
 |nil=>injection e
 |@cons k u c gs fs x r ih =>
  unfold cj at e
  by_cases h:k=f
  ·rw[if_pos h] at e;(injection e with e;subst e);exact .mk u (h▸.head _) x
  ·rw[if_neg h] at e;obtain⟨u,m,r⟩:=ih e;exact .mk u (.tail _ m) r
theorem oE.zX:∀{gs:List (Tx×Value)}{fs:List (Tx×PV)},gs.map (·.1)=fs.map (·.1)->bh G (gs.map (·.2)) (fs.map (·.2))->oE G as gs (fs.map fun p=>(p.1,.t p.2))
 |[],[],_,_=>.nil
 |(_,_)::_,(_,_)::_,e,.cons x r=>by
  obtain⟨q,e'⟩:=List.cons.inj e
  subst q
  exact .cons x (oE.zX e' r)
theorem zY:∀{fs:List (Tx×PV)},cj f (fs.map fun p=>(p.1,AV.t p.2))=(cj f fs).map AV.t
 |[]=>rfl
 |(k,_)::fs=>by
  show(if k=f then _ else cj f (fs.map _))=Option.map AV.t (if k=f then _ else cj f fs)
  by_cases h:k=f
  ·rw[if_pos h,if_pos h];rfl
  ·rw[if_neg h,if_neg h];exact zY
theorem xD{a dx:Addr}{c:ie}{gs:List (Tx×Value)}{fs:List (Tx×AV)}(I:Inv cx w) (B:Base cx nm) (hf:f∈fu) (i:mz cx w.h a dx c gs) (x:oE w.G w.as gs fs):Wp cx A l w (getAttr (.ref a) (tx f) true) (A5 (cj f fs) w.st) cH:=by
 cases h:cj f fs with
 |none=>exact .none
 |some b =>
  obtain⟨u,m,r⟩:=x.find h
  obtain⟨mm,i,_,hm⟩:=i
  obtain⟨N,mN,X⟩:=B.cls c
  have hX:=OldK.cls I.old X
  obtain⟨o,hC,z⟩:=hX.obj
  induction z
  exact fun Q E T=>load_attrFk hC hX.ns X.ga (X.fields f hf) (kC f hf) i.fk (hm _ m).2 r.handed (T.same I r)
theorem Ga(I:Inv cx w) (B:Base cx nm) (hf:f∈fu):∀{a:AV},cQ w.G w.as v a->Wp cx A l w (getAttr v (tx f) true) (CM f w.st a) cH:=by
 have tree:∀(d:PV),Rep w.G v d->Wp cx A l w (getAttr v (tx f) true) (A5 (M5 f d) w.st) cH:=fun d r=>by
  cases r with
  |ref e q r =>
   induction q with
   |ins k=>have z:=xD (A:=A) (l:=l) I B hf (I.rel.fz _ _ e) (oE.zX k r);rw[zY] at z;exact z
   |_=>exact .none
  |_=>exact .none
 intro a r
 induction a with
 |t d=>exact tree d r
 |r i =>
  obtain⟨p,e,rfl⟩:=r
  show Wp cx A l w _ (A5 (M4 f w.st[i]?) w.st) cH
  cases h:w.st[i]? with
  |none=>exact .none
  |some nd =>
   cases I.rel.nodes i p nd e h with
   |fz r=>have z:=tree _ r;rename_i d;cases d<;>first| exact z|exact .none
   |tr e=>cases nd<;>first| exact .none|injection e
   |inst j x=>exact xD I B hf j x
end
end Mine
namespace Mine
open PySem PySem.W PySem.Calls PyProof.Rows PySem.SeqAt
noncomputable def Fy(cx:Cx) (A:Around) (s:Shared) (y x:Value) (b:Bool):Prop:=∀(E:Value->Shared->Prop) (Q:Bool->Shared->Prop),Q b s->wpAny (model cx.prog cx.w) A (eqBool y x) Q E s
structure CZ(cx:Cx) (A:Around) (s:Shared) (y x:Value) (b:Bool):Prop where
 eq:∀(E:Value->Shared->Prop) (Q:Value->Shared->Prop),Q (.bool b) s->wpAny (model cx.prog cx.w) A (compareOp .Eq y x) Q E s
 ne:∀(E:Value->Shared->Prop) (Q:Value->Shared->Prop),Q (.bool (!b)) s->wpAny (model cx.prog cx.w) A (compareOp .NotEq y x) Q E s
section
variable {cx:Cx}{A:Around}{s:Shared}{w:Wd}{v u:Value}{d e:PV}{b:Bool}{G:Addr->Lg}
theorem Fy.of(h:EqAt A s v u b):Fy cx A s v u b:=h cx.prog cx.w
theorem CZ.of(h1:RcAt A s v u b) (h2:RcNeAt A s v u (!b)):CZ cx A s v u b:=⟨h1 cx.prog cx.w,h2 cx.prog cx.w⟩
theorem Fy.of_refs{l m:Addr}(IJ:l≠m) (h:CZ cx A s (.ref l) (.ref m) b):Fy cx A s (.ref l) (.ref m) b:=fun E Q hq=>by
 unfold eqBool
 refine wpAny_holding ?_
 refine wpAny_ite_split (fun wW=>absurd (by have:=eq_of_beq wW;injection this) IJ) (fun _=>?_)
 exact wpAny_bind (h.eq E _ (wpAny_truthy_bool hq))
theorem JT{l m:Addr}{items mT:Array Value}(hl:IsTup s.heap l items) (hb:IsTup s.heap m mT) (hu:A.units<cLine) (hz:items.size=mT.size)
  (he:∀p∈items.toList.zip mT.toList,Fy cx A.in1 s p.1 p.2 true):∀E Q,Q (.bool true) s->wpAny (model cx.prog cx.w) A (compareOp .Eq (.ref l) (.ref m)) Q E s:=fun E Q h=>by
 obtain⟨⟨cls,dd,data,sl⟩,ho,hc,n,hd⟩:=hl
 obtain⟨⟨RC,dd2,data2,sl2⟩,Gb,JU,n2,hd2⟩:=hb
 simp only at hc hd JU hd2
 subst hc hd JU hd2
 refine wpAny_richCompare_same_room (op:=.Eq) ⟨_,ho,rfl⟩ ⟨_,Gb,rfl⟩ PySem.F.slot_tuple_eq (wpAny_call_entry PySem.F.slot_tuple_eq ⟨_,ho,rfl⟩ PySem.F.entry_tuple_eq ?_ (PySem.F.args_tuple_eq_2 _ _)) hu
 have f2:=AutoSeq1.sub_tuple_tuple
 wp_walk using AutoSeq1.wpAny_loadPart' ho,AutoSeq1.wpAny_loadPart' Gb,wpAny_forIn_list _ (fun rest b s'=>b.1=none/\s'=s/\∀p∈rest,Fy cx A.in1 s p.1 p.2 true) _
 case turn =>
  rintro⟨y,x⟩ rest b s' ⟨hb',rfl,hR⟩
  refine wpAny_bind (hR _ (.head _) _ _ ?_)
  wp_walk
  exact⟨rfl,rfl,fun p hp=>hR p (.tail _ hp)⟩
 case fin =>
  rintro⟨b1,b2⟩ s' ⟨hb',rfl,_⟩
  subst hb'
  wp_walk
  exact⟨_,rfl,fun z=>(nomatch z),by simpa [Builtin.Tuple.tupleCompareSizes,hz] using h⟩
 case h=>exact⟨rfl,rfl,he⟩
theorem tup_ne{l m:Addr}{items mT:Array Value}(hl:IsTup s.heap l items) (hb:IsTup s.heap m mT) (hu:A.units<cLine) (hz:items.size=mT.size)
  (he:∀p∈items.toList.zip mT.toList,Fy cx A.in1 s p.1 p.2 true):∀E Q,Q (.bool false) s->wpAny (model cx.prog cx.w) A (compareOp .NotEq (.ref l) (.ref m)) Q E s:=fun E Q h=>by
 obtain⟨⟨cls,dd,data,sl⟩,ho,hc,n,hd⟩:=hl
 obtain⟨⟨RC,dd2,data2,sl2⟩,Gb,JU,n2,hd2⟩:=hb
 simp only at hc hd JU hd2
 subst hc hd JU hd2
 refine wpAny_richCompare_same_room (op:=.NotEq) ⟨_,ho,rfl⟩ ⟨_,Gb,rfl⟩ PySem.F.slot_tuple_ne (wpAny_call_entry PySem.F.slot_tuple_ne ⟨_,ho,rfl⟩ PySem.F.entry_tuple_ne ?_ (PySem.F.args_tuple_ne_2 _ _)) hu
 have f2:=AutoSeq1.sub_tuple_tuple
 wp_walk using AutoSeq1.wpAny_loadPart' ho,AutoSeq1.wpAny_loadPart' Gb,wpAny_forIn_list _ (fun rest b s'=>b.1=none/\s'=s/\∀p∈rest,Fy cx A.in1 s p.1 p.2 true) _
 case turn =>
  rintro⟨y,x⟩ rest b s' ⟨hb',rfl,hR⟩
  refine wpAny_bind (hR _ (.head _) _ _ ?_)
  wp_walk
  exact⟨rfl,rfl,fun p hp=>hR p (.tail _ hp)⟩
 case fin =>
  rintro⟨b1,b2⟩ s' ⟨hb',rfl,_⟩
  subst hb'
  wp_walk
  exact⟨_,rfl,fun z=>(nomatch z),by simpa [Builtin.Tuple.tupleCompareSizes,hz,bne] using h⟩
 case h=>exact⟨rfl,rfl,he⟩
noncomputable def toPy:PV->PyData
 |.int i=>.int i
 |.str s=>.str (tx s)
 |_=>.none
theorem Sh.ze{o:FO}{vs:List Value}{l:List PV}(q:Sh o d vs l) (h:fQ d=true):False:=by cases q<;>injection h
theorem flat(h:fQ d=true):Rep G v d->PyProof.V.Flat v (toPy d)
 |.none=>fun _=>.none
 |.int i t=>fun _=>.int i t
 |.str s t _=>fun _=>.str (tx s) t
 |.bool _=>nomatch h
 |.ref _ q _=>(q.ze h).elim
theorem C0(s t:Tx):(tx s==tx t)=decide (s=t):=by
 by_cases h:s=t
 ·subst h;rw[decide_eq_true rfl,beq_self_eq_true]
 ·rw[decide_eq_false h];exact beq_eq_false_iff_ne.mpr fun z=>h (kr z)
theorem Nz(x:Vw cx w v d) (y:Vw cx w u e) (hd:fQ d=true) (he:fQ e=true):CZ cx A w.s v u (ja d e):=by
 induction x with
 |none=>induction y with
  |none=>exact .of RcAt.none_none RcNeAt.none_none
  |int j t=>exact .of (RcAt.none_int j t) (RcNeAt.none_int j t)
  |str s t=>exact .of (RcAt.none_str _ t) (RcNeAt.none_str _ t)
  |bool=>injection he
  |ref _ _ q=>exact(q.ze he).elim
 |int i t=>induction y with
  |none=>exact .of (RcAt.int_none i t) (RcNeAt.int_none i t)
  |int j t'=>exact .of (RcAt.int_int i t j t') (RcNeAt.int_int i t j t')
  |str s t'=>exact .of (RcAt.int_str i t _ t') (RcNeAt.int_str i t _ t')
  |bool=>injection he
  |ref _ _ q=>exact(q.ze he).elim
 |str s t=>induction y with
  |none=>exact .of (RcAt.str_none _ t) (RcNeAt.str_none _ t)
  |int j t'=>exact .of (RcAt.str_int _ t j t') (RcNeAt.str_int _ t j t')
  |str s' t' =>
   have z:CZ cx A w.s (.str (tx s) t) (.str (tx s') t') (tx s==tx s'):=.of (RcAt.str_str _ t _ t') (RcNeAt.str_str _ t _ t')
   rw[C0] at z;exact z
  |bool=>injection he
  |ref _ _ q=>exact(q.ze he).elim
 |bool=>injection hd
 |ref _ _ q=>exact(q.ze hd).elim
theorem JV:∀{d e:PV},fQ d=true->fQ e=true->PyData.eqv (toPy d) (toPy e)=ja d e
 |.none,.none,_,_=>rfl
 |.none,.int _,_,_=>rfl
 |.none,.str _,_,_=>rfl
 |.int _,.none,_,_=>rfl
 |.int _,.int _,_,_=>rfl
 |.int _,.str _,_,_=>rfl
 |.str _,.none,_,_=>rfl
 |.str _,.int _,_,_=>rfl
 |.str s,.str t,_,_=>C0 s t
theorem C1(x:Rep G v d) (y:Rep G u e) (hd:fQ d=true) (he:fQ e=true):EqAt A s v u (ja d e):=JV hd he▸keq_flat (flat hd x) (flat he y)
theorem tT:∀{d:PV},fQ d=true->ja d d=true
 |.none,_=>rfl
 |.int _,_=>decide_eq_true rfl
 |.str _,_=>decide_eq_true rfl
inductive RD(G:Addr->Lg) (v u:Value) (l:List PV):Prop
 |mk (d:PV) (m:d∈l) (x:Rep G v d) (y:Rep G u d)
theorem bh.both{vs us:List Value}{l:List PV}(r:bh G vs l) (q:bh G us l):∀p∈vs.zip us,RD G p.1 p.2 l:=by
 induction r using bh.ind generalizing us with
 |h0=>exact fun _ h=>nomatch h
 |h1 v vs d l x r ih =>
  cases q with
  |cons y q =>
   intro p h
   rcases List.mem_cons.mp h with rfl|h
   ·exact .mk d (.head _) x y
   ·cases ih q p h with| mk e m a b=>exact .mk e (.tail _ m) a b
theorem bh.length{vs:List Value}{l:List PV}(r:bh G vs l):vs.length=l.length:=by
 induction r using bh.ind with
 |h0=>rfl
 |h1 v vs d l x r ih=>exact congrArg Nat.succ ih
theorem all_true(n:Nat):(List.range n).all (fun _=>true)=true:=List.all_eq_true.mpr fun _ _=>rfl
theorem zZ{p p':Program}{w w':World}{h:Heap}{a:Addr}(d:h.DictOf (strKind p w) a []):h.DictOf (strKind p' w') a []:=by
 obtain⟨o,es,ep,e,ex,hd,_,pp,_⟩:=d
 have:es=#[]:=by
  cases he:es.toList with
  |nil=>exact Array.toList_eq_nil_iff.mp he
  |cons x r=>rw[he] at pp;cases pp
 subst this
 exact⟨o,_,ep,e,ex,hd,fun e he=>absurd he (by simp),.nil,by simp⟩
theorem JW{α:Type}{vs us:List α}(j:Nat) (h1:j<vs.toArray.size) (h2:j<us.toArray.size):(vs.toArray[j],us.toArray[j])∈vs.zip us :=
 by
 simp only[List.size_toArray] at h1 h2
 exact List.mem_iff_getElem.mpr ⟨j,by rw[List.length_zip];omega,by simp⟩
noncomputable def xE(cx:Cx) (w:Wd) (A:Around) (l:List PV):Prop:=∀d∈l,∀{v u:Value},Rep w.G v d->Rep w.G u d->EqAt A w.s v u true
theorem xE.at{vs us:List Value}{l:List PV}(h:xE cx w A l) (r:bh w.G vs l) (r':bh w.G us l) (j:Nat) (h1:j<vs.toArray.size) (h2:j<us.toArray.size):EqAt A w.s vs.toArray[j] us.toArray[j] true :=
 let⟨d,m,a,b⟩:=bh.both r r' _ (JW j h1 h2)
 h d m a b
theorem vg(S:eV cx w) (hs:sysModules<cx.cZ){a:Addr}{o:FO}(g:w.G a=.fz o):(a==sysModules)=false:=beq_eq_false_iff_ne.mpr (Nat.ne_of_gt (Nat.lt_of_lt_of_le hs (S.lo _ (g▸fun q=>nomatch q))))
theorem C2(S:eV cx w){l:List PV}(h:xE cx w A.in1 l) (hu:A.units<cLine) (x:Rep w.G v (.tup l)) (y:Rep w.G u (.tup l)):EqAt A w.s v u true:=by
 induction x.big rfl with| @mk a _ vs _ g q r =>
 induction y.big rfl with| @mk b _ us _ g' q' r' =>
 by_cases wW:a=b
 ·exact wW▸EqAt.same _
 induction q.QJ with| mk z =>
 induction q'.QJ with| mk z' =>
 have:=RcAt.tuples (e:=fun _=>true) (S.fz _ _ g).tup (S.fz _ _ g').tup hu (h.at r r')
 rw[all_true,List.size_toArray,List.size_toArray,r.length,r'.length,beq_self_eq_true] at this
 exact EqAt.of_refs wW this
theorem C3(S:eV cx w){l:List PV}(h:xE cx w A.in1 l) (hu:A.units<cLine) (x:Rep w.G v (.lst l)) (y:Rep w.G u (.lst l)):EqAt A w.s v u true:=by
 induction x.big rfl with| @mk a _ vs _ g q r =>
 induction y.big rfl with| @mk b _ us _ g' q' r' =>
 by_cases wW:a=b
 ·exact wW▸EqAt.same _
 induction q.QI with| mk z =>
 induction q'.QI with| mk z' =>
 have:=RcAt.lists (e:=fun _=>true) (Heap.PlainList.isList ⟨_,S.fz _ _ g⟩) (Heap.PlainList.isList ⟨_,S.fz _ _ g'⟩) (r.length.trans r'.length.symm) hu (h.at r r')
 rw[all_true] at this
 exact EqAt.of_refs wW this
theorem C4(S:eV cx w) (hs:sysModules<cx.cZ) (hu:A.units<cLine) (x:Rep w.G v (.aK [])) (y:Rep w.G u (.aK [])):EqAt A w.s v u true:=by
 induction x.big rfl with| @mk a _ vs _ g q r =>
 induction y.big rfl with| @mk b _ us _ g' q' r' =>
 by_cases wW:a=b
 ·exact wW▸EqAt.same _
 induction q.Mp with| mk z k n =>
 induction q'.Mp with| mk z' k' n' =>
 obtain rfl:=List.map_eq_nil_iff.mp k
 obtain rfl:=List.map_eq_nil_iff.mp k'
 exact EqAt.of_refs wW fun prog w' E Q h=>keq_eq (r:=true) (vg S hs g) (vg S hs g') (zZ (p':=prog) (w':=w') (Heap.DictAt.dictOf (S.fz _ _ g))) (zZ (Heap.DictAt.dictOf (S.fz _ _ g'))) hu (fun _=>.nil) h
theorem tU(S:eV cx w) (hs:sysModules<cx.cZ) (n:Nat):∀{A:Around}{v u:Value}{d:PV},m7 n d=true->Rep w.G v d->Rep w.G u d->A.units+n<cLine->EqAt A w.s v u true:=by
 induction n with
 |zero=>exact fun h x y _=>tT h▸C1 x y h h
 |succ n ih =>
  intro A v u d h x y hu
  have Gc:A.units<cLine:=Nat.lt_of_le_of_lt (Nat.le_add_right ..) hu
  have it:∀{l:List PV},l.all (m7 n)=true->xE cx w A.in1 l:=fun h d m v u a b=>ih (List.all_eq_true.mp h d m) a b (by rw[show A.in1.units=A.units+1 from rfl,Nat.add_assoc,Nat.add_comm 1];exact hu)
  by_cases hd:fQ d=true
  ·exact tT hd▸C1 x y hd hd
  cases d with
  |tup l=>exact C2 S (it h) Gc x y
  |lst l=>exact C3 S (it h) Gc x y
  |aK l =>
   obtain rfl:=List.isEmpty_iff.mp h
   exact C4 S hs Gc x y
  |_=>exact absurd h hd
end
section
variable {cx:Cx}{A:Around}{w:Wd}{v u:Value}{d e:PV}{b:Bool}{G:Addr->Lg}
theorem pF:∀{kvs:List (Str×Value)},(kvs.map (·.1)).Nodup->∀p∈kvs,valueAt kvs p.1=some p.2
 |p::kvs,nd,_,.head _=>by
  unfold valueAt
  rw[List.find?_cons,decide_eq_true rfl];rfl
 |q::kvs,nd,p,.tail _ h=>by
  obtain⟨h1,h2⟩:=List.nodup_cons.mp nd
  have ih:=pF h2 p h
  unfold valueAt at ih ⊢
  have h0:decide (q.1=p.1)=false:=decide_eq_false fun z=>h1 (by show q.1∈_;rw[z];exact List.mem_map_of_mem (f:=(·.1)) h)
  rw[List.find?_cons,h0]
  exact ih
theorem Ge(S:eV cx w) (hs:sysModules<cx.cZ) (hu:A.units+8<cLine){kb:List (Str×Value)}:∀{ka k':List (Str×Value)}{l:List PV},ka.map (·.1)=k'.map (·.1)->bh w.G (ka.map (·.2)) l->bh w.G (k'.map (·.2)) l ->
  (∀p∈k',valueAt kb p.1=some p.2)->(∀d∈l,m7 8 d=true)->KeqHits A w.s kb ka true:=by
 intro ka
 induction ka with
 |nil=>exact fun _ _ _ _ _=>.nil
 |cons p ka ih =>
  intro k' l e r q hm hf
  cases k' with
  |nil=>injection e
  |cons p' k' =>
   cases r with| cons r1 r2 =>
   cases q with| cons q1 q2 =>
   have e1:p.1=p'.1:=(List.cons.inj e).1
   exact .hit (e:=true) (b:=true) (e1▸hm _ (.head _)) (tU S hs 8 (hf _ (.head _)) r1 q1 hu) (ih (List.cons.inj e).2 r2 q2 (fun p hp=>hm p (.tail _ hp)) fun d hd=>hf d (.tail _ hd))
theorem z5{a c:Addr}{ka kb:List (Str×Value)}(ha:(a==sysModules)=false) (hb:(c==sysModules)=false) (da:w.h.DictOf (strKind cx.prog cx.w) a ka) (db:w.h.DictOf (strKind cx.prog cx.w) c kb) (hu:A.units<cLine)
  (hits:ka.length=kb.length->KeqHits A.in1 w.s kb ka true):CZ cx A w.s (.ref a) (.ref c) (ka.length==kb.length) :=
 ⟨fun E Q h=>keq_eq ha hb da db hu hits (by rw[Bool.and_true];exact h),fun E Q h=>keq_ne ha hb da db hu hits (by rw[Bool.and_true];exact h)⟩
theorem Gf{a c:Addr}{vs us:List Value}(l1:w.h.IsList a vs.toArray) (l2:w.h.IsList c us.toArray) (hu:A.units<cLine) (h:vs.length=us.length->vs.length=0):CZ cx A w.s (.ref a) (.ref c) (vs.length==us.length):=by
 by_cases e:vs.length=us.length
 ·have he:∀j (h1:j<vs.toArray.size) (h2:j<us.toArray.size),EqAt A.in1 w.s vs.toArray[j] us.toArray[j] true:=fun j h1 _=>absurd h1 (by rw[List.size_toArray,h e];exact Nat.not_lt_zero _)
  have z1:=RcAt.lists (e:=fun _=>true) l1 l2 e hu he
  have z2:=RcNeAt.lists (e:=fun _=>true) l1 l2 e hu he
  rw[all_true] at z1 z2
  rw[e,beq_self_eq_true]
  exact .of z1 z2
 ·rw[beq_eq_false_iff_ne.mpr e]
  exact .of (RcAt.lists_lengths l1 l2 (bne_iff_ne.mpr e) hu) (RcNeAt.lists_lengths l1 l2 (bne_iff_ne.mpr e) hu)
theorem C5{a:Addr}{ka:List (Str×Value)}(d:w.h.DictOf (strKind cx.prog cx.w) a ka):(ka.map (·.1)).Nodup:=by
 obtain⟨_,_,_,JX⟩:=d;have nd:=JX.2.2.2.2.2;exact nd
theorem big(hs:sysModules<cx.cZ){a:Addr}(h:cx.cZ<=a):(a==sysModules)=false:=beq_eq_false_iff_ne.mpr (Nat.ne_of_gt (Nat.lt_of_lt_of_le hs h))
theorem map_len{α β:Type}{f:α->β}{l k:List α}(e:l.map f=k.map f):l.length=k.length:=by have:=congrArg List.length e;rwa [List.length_map,List.length_map] at this
theorem C6(S:eV cx w) (hs:sysModules<cx.cZ) (hu:A.units+10<cLine){l:List (Tx×PV)}(h:∀p∈l,m7 8 p.2=true) (x:Rep w.G v (.aK l)) (y:Rep w.G u (.aK l)):Fy cx A w.s v u true:=by
 induction x.big rfl with| @mk a _ vs _ g q r =>
 induction y.big rfl with| @mk c _ us _ g' q' r' =>
 by_cases wW:a=c
 ·exact wW▸.of (EqAt.same _)
 induction q.Mp with| mk z k n =>
 induction q'.Mp with| mk z' k' n' =>
 have e:=k.trans k'.symm
 have db:=Heap.DictAt.dictOf (S.fz _ _ g')
 have z:=z5 (A:=A) (vg S hs g) (vg S hs g') (Heap.DictAt.dictOf (S.fz _ _ g)) db (Nat.lt_of_le_of_lt (Nat.le_add_right ..) hu) fun _ =>
  Ge S hs (by show A.units+1+8<cLine;omega) e r r' (pF (C5 db)) fun d hd=>by
   obtain⟨p,hp,rfl⟩:=List.mem_map.mp hd
   exact h p hp
 rw[map_len e,beq_self_eq_true] at z
 exact .of_refs wW z
theorem C7(S:eV cx w) (hs:sysModules<cx.cZ) (hu:A.units+10<cLine) (h:Cu d=true) (x:Rep w.G v d) (y:Rep w.G u d):Fy cx A w.s v u true:=by
 rcases(Bool.or_eq_true _ _).mp h with h|h
 ·exact .of (tU S hs 8 h x y (by omega))
 ·cases d with
  |aK l=>exact C6 S hs hu (List.all_eq_true.mp h) x y
  |_=>injection h
inductive Gg:PV->PV->Bool->Prop
 |sc {d e:PV}(hd:fQ d=true) (he:fQ e=true):Gg d e (ja d e)
 |lst {l k:List PV}(h:l.length=k.length->l.length=0):Gg (.lst l) (.lst k) (l.length==k.length)
 |QK {l k:List (Tx×PV)}(h:l.length=k.length->l.length=0):Gg (.aK l) (.aK k) (l.length==k.length)
 |same {d:PV}(h:CK d=true):Gg d d true
theorem lF(h:qF d e=some b):Gg d e b:=by
 unfold qF at h
 split at h
 ·rename_i q;(injection h with h;subst h);obtain⟨rfl,q⟩:=q;exact .same q
 ·injection h
theorem tV{m n:Nat}(h:tQ m n d e=some b) (k:(m=n->m=0)->Gg d e (m==n)):Gg d e b:=by
 unfold tQ at h
 split at h
 ·rename_i q
  split at h
  ·rename_i z;(injection h with h;subst h);have:=k fun _=>z;rwa [q,beq_self_eq_true] at this
  ·exact lF h
 ·rename_i q;(injection h with h;subst h);have:=k fun z=>absurd z q;rwa [beq_eq_false_iff_ne.mpr q] at this
theorem z6(h:eqT d e=some b):Gg d e b:=by
 unfold eqT at h
 split at h
 ·rename_i q
  injection h with h;subst h
  obtain⟨h1,h2⟩:=Bool.and_eq_true_iff.mp q
  exact .sc h1 h2
 ·cases d with
  |lst l=>cases e with
   |lst k=>exact tV h .lst
   |_=>exact lF h
  |aK l=>cases e with
   |aK k=>exact tV h .QK
   |_=>exact lF h
  |_=>exact lF h
theorem JY(hu:A.units<cLine){l k:List PV}(x:Vw cx w v (.lst l)) (y:Vw cx w u (.lst k)) (h:l.length=k.length->l.length=0):CZ cx A w.s v u (l.length==k.length):=by
 induction x.big rfl with| mk ge i q r =>
 induction y.big rfl with| mk RE i' q' r' =>
 induction q.QI with| mk z =>
 induction q'.QI with| mk z' =>
 rw[<-r.length,<-r'.length] at h ⊢
 exact Gf (Heap.PlainList.isList ⟨_,i⟩) (Heap.PlainList.isList ⟨_,i'⟩) hu h
theorem JZ(hs:sysModules<cx.cZ) (hu:A.units<cLine){l k:List (Tx×PV)}(x:Vw cx w v (.aK l)) (y:Vw cx w u (.aK k)) (h:l.length=k.length->l.length=0):CZ cx A w.s v u (l.length==k.length):=by
 induction x.big rfl with| mk ge i q r =>
 induction y.big rfl with| mk RE i' q' r' =>
 induction q.Mp with| @mk ka _ z k1 n =>
 induction q'.Mp with| @mk kb _ z' k2 n' =>
 have e1:=congrArg List.length k1
 have e2:=congrArg List.length k2
 rw[List.length_map,List.length_map] at e1 e2
 rw[<-e1,<-e2] at h ⊢
 refine z5 (big hs ge) (big hs RE) (Heap.DictAt.dictOf i) (Heap.DictAt.dictOf i') hu fun e=>?_
 rw[List.eq_nil_of_length_eq_zero (h e)]
 exact .nil
theorem J0(S:eV cx w) (hs:sysModules<cx.cZ) (hu:A.units+16<cLine){l:List PV}(x:Vw cx w v (.tup l)) (y:Vw cx w u (.tup l)) (h:CK (.tup l)=true):CZ cx A w.s v u true:=by
 induction x.big rfl with| mk ge i q r =>
 induction y.big rfl with| mk RE i' q' r' =>
 induction q.QJ with| mk z =>
 induction q'.QJ with| mk z' =>
 have Gc:A.units<cLine:=Nat.lt_of_le_of_lt (Nat.le_add_right ..) hu
 have he:=fun p hp=>let⟨d,m,a,b⟩:=bh.both r r' p hp;C7 (A:=A.in1) S hs (by show A.units+1+10<cLine;omega) (List.all_eq_true.mp h d m) a b
 have hz:=r.length.trans r'.length.symm
 exact⟨JT i.tup i'.tup Gc hz he,tup_ne i.tup i'.tup Gc hz he⟩
theorem C8(S:eV cx w) (hs:sysModules<cx.cZ) (hu:A.units+16<cLine) (x:Vw cx w v d) (y:Vw cx w u e) (h:Gg d e b):CZ cx A w.s v u b:=by
 have Gc:A.units<cLine:=Nat.lt_of_le_of_lt (Nat.le_add_right ..) hu
 induction h with
 |sc hd he=>exact Nz x y hd he
 |lst h=>exact JY Gc x y h
 |QK h=>exact JZ hs Gc x y h
 |@same d h =>
  cases d with
  |tup l=>exact J0 S hs hu x y h
  |_=>injection h
end
noncomputable def NB:Cm->CmpOp
 |.eq=>.Eq
 |.ne=>.NotEq
 |.lt=>.Lt
 |.le=>.LtE
 |.gt=>.Gt
 |.ge=>.GtE
 |.is=>.Is
 |.eg=>.IsNot
 |.oq=>.In
 |.sQ=>.NotIn
noncomputable def J3(cx:Cx) (A:Around) (s:Shared) (o:CmpOp) (v u:Value) (b:Bool):Prop:=∀(E:Value->Shared->Prop) (Q:Value->Shared->Prop),(∀tk,Q (.bool b) { s with toks:=tk })->wpAny (model cx.prog cx.w) A (compareOp o v u) Q E s
structure RG(cx:Cx) (A:Around) (s:Shared) (v u:Value) (b:Bool):Prop where
 oq:J3 cx A s .In v u b
 sQ:J3 cx A s .NotIn v u (!b)
noncomputable def UK:Value->PV
 |.int i _=>.int i
 |.str s _=>.str s.cps.toList
 |_=>.none
noncomputable def Cw(d:PV) (v:Value):Bool:=ja (UK v) d
section
variable {cx:Cx}{A:Around}{w:Wd}{v u:Value}{d e:PV}{b:Bool}{G:Addr->Lg}{o:Cm}
theorem zf(h:fQ d=true):Rep G v d->UK v=d
 |.none=>rfl
 |.int _ _=>rfl
 |.str _ _ _=>rfl
 |.bool _=>nomatch h
 |.ref _ q _=>(q.ze h).elim
theorem Vw.rep(h:fQ d=true):Vw cx w v d->Rep w.G v d
 |.none=>.none
 |.int i t=>.int i t
 |.str s t z=>.str s t z
 |.bool _=>nomatch h
 |.ref _ _ q _=>(q.ze h).elim
theorem z7{vs:List Value}{l:List PV}(r:bh G vs l):l.all fQ=true->vs.any (Cw d)=l.any fun e=>ja e d:=by
 induction r using bh.ind with
 |h0=>exact fun _=>rfl
 |h1 v vs e l x r ih =>
  intro h
  obtain⟨h1,h2⟩:=Bool.and_eq_true_iff.mp h
  rw[List.any_cons,List.any_cons,ih h2,show Cw d v=ja e d from congrArg (ja · d) (zf h1 x)]
theorem xF(y:Rep w.G u d) (hd:fQ d=true){vs:List Value}{l:List PV}(r:bh w.G vs l):l.all fQ=true->∀v∈vs,EqAt A w.s v u (Cw d v):=by
 induction r using bh.ind with
 |h0=>exact fun _ _ q=>nomatch q
 |h1 v vs e l x r ih =>
  intro h z hz
  obtain⟨h1,h2⟩:=Bool.and_eq_true_iff.mp h
  rcases List.mem_cons.mp hz with rfl|hz
  ·rw[show Cw d z=ja e d from congrArg (ja · d) (zf h1 x)];exact C1 x y h1 hd
  ·exact ih h2 z hz
theorem any_toArray{vs:List Value}{f:Value->Bool}:vs.toArray.any f=vs.any f:=List.any_toArray
inductive RH(d:PV) (l:List PV) (b:Bool):Prop
 |mk (h:fQ d=true) (k:l.all fQ=true) (e:(l.any fun e=>ja e d)=b)
theorem z8{l:List PV}(h:Fv d l=some b):RH d l b:=by
 unfold Fv at h
 split at h
 ·rename_i q;(injection h with h;subst h);exact .mk (Bool.and_eq_true_iff.mp q).1 (Bool.and_eq_true_iff.mp q).2 rfl
 ·injection h
theorem in_list{a:Addr}{vs:List Value}{l:List PV}(i:w.h.PlainList a vs.toArray) (x:Vw cx w v d) (r:bh w.G vs l):RH d l b->RG cx A w.s v (.ref a) b
 |.mk hd hl q=>by
  have he:=fun y hy=>xF (A:=A.in1) (x.rep hd) hd r hl y (List.mem_toArray.mp hy)
  have q:=any_toArray.trans ((z7 r hl).trans q)
  exact⟨fun E Q h=>in_listAt _ (Heap.PlainList.isList i) he (by rw[q];exact h _),fun E Q h=>notIn_listAt _ (Heap.PlainList.isList i) he (by rw[q];exact h _)⟩
theorem J4{a:Addr}{vs:List Value}{l:List PV}(i:IsTup w.h a vs.toArray) (x:Vw cx w v d) (r:bh w.G vs l):RH d l b->RG cx A w.s v (.ref a) b
 |.mk hd hl q=>by
  have he:=fun y hy=>xF (A:=A.in1) (x.rep hd) hd r hl y (List.mem_toArray.mp hy)
  have q:=any_toArray.trans ((z7 r hl).trans q)
  exact⟨fun E Q h=>in_tupleAt _ i he (by rw[q];exact h _),fun E Q h=>notIn_tupleAt _ i he (by rw[q];exact h _)⟩
inductive Val(G:Addr->Lg) (o:Option Value):Option PV->Prop
 |none (e:o=none):Val G o none
 |some {d:PV}(v:Value) (e:o=some v) (r:Rep G v d):Val G o (some d)
theorem pG{K:Type} [DecidableEq K] {k:K}{v:Value}{kvs:List (K×Value)}:valueAt ((k,v)::kvs) k=some v:=by
 unfold valueAt;rw[List.find?_cons,decide_eq_true rfl];rfl
theorem nv{K:Type} [DecidableEq K] {k j:K}{v:Value}{kvs:List (K×Value)}(h:k≠j):valueAt ((k,v)::kvs) j=valueAt kvs j:=by
 unfold valueAt;rw[List.find?_cons,decide_eq_false h]
theorem lG{k:Tx}{kvs:List (Str×Value)}:∀{l:List (Tx×PV)},kvs.map (·.1)=l.map (fun p=>tx p.1)->bh G (kvs.map (·.2)) (l.map (·.2))->Val G (valueAt kvs (tx k)) (cj k l):=by
 induction kvs with
 |nil =>
  intro l q r
  cases l with
  |nil=>exact .none rfl
  |cons=>injection q
 |cons p kvs ih =>
  intro l q r
  cases l with
  |nil=>injection q
  |cons e l =>
   cases r with| cons x r =>
   obtain⟨j,v⟩:=p
   obtain rfl:j=tx e.1:=(List.cons.inj q).1
   unfold cj
   by_cases h:e.1=k
   ·rw[if_pos h,<-h,pG];exact .some v rfl x
   ·rw[if_neg h,nv fun z=>h (kr z)];exact ih (List.cons.inj q).2 r
theorem Bj{k:Int}{kvs:List (Int×Value)}:∀{l:List (Int×PV)},kvs.map (·.1)=l.map (·.1)->bh G (kvs.map (·.2)) (l.map (·.2))->Val G (valueAt kvs k) (gP k l):=by
 induction kvs with
 |nil =>
  intro l q r
  cases l with
  |nil=>exact .none rfl
  |cons=>injection q
 |cons p kvs ih =>
  intro l q r
  cases l with
  |nil=>injection q
  |cons e l =>
   cases r with| cons x r =>
   obtain⟨j,v⟩:=p
   obtain rfl:j=e.1:=(List.cons.inj q).1
   unfold gP
   by_cases h:e.1=k
   ·rw[if_pos h,<-h,pG];exact .some v rfl x
   ·rw[if_neg h,nv h];exact ih (List.cons.inj q).2 r
theorem Val.isSome{o:Option Value}{q:Option PV}(x:Val G o q):o.isSome=q.isSome:=by
 induction x with
 |none e=>rw[e];rfl
 |some v e r=>rw[e];rfl
theorem z9(hs:sysModules<cx.cZ) (x:Vw cx w v d) (y:Vw cx w u e) (h:isIn d e=some b):RG cx A w.s v u b:=by
 induction y with
 |ref ge i q r =>
  induction q with
  |lst z=>exact in_list ⟨_,i⟩ x r (z8 h)
  |tup z=>exact J4 i.tup x r (z8 h)
  |dS z k n =>
   induction x with
   |str t tk =>
    injection h with h;subst h
    have z:=(lG (k:=t) k r).isSome
    exact⟨fun E Q h=>wpAny_in_of (knd:=strKind cx.prog cx.w) (strKind_is _ _ _ _) (big hs ge) (Heap.DictOf.mapOf (Heap.DictAt.dictOf i)) (by rw[z];exact h _),
     fun E Q h=>wpAny_notIn_of (knd:=strKind cx.prog cx.w) (strKind_is _ _ _ _) (big hs ge) (Heap.DictOf.mapOf (Heap.DictAt.dictOf i)) (by rw[z];exact h _)⟩
   |ref _ _ q _=>cases q<;>injection h
   |_=>injection h
  |dI z k =>
   induction x with
   |int t tk =>
    injection h with h;subst h
    have z:=(Bj (k:=t) k r).isSome
    exact⟨fun E Q h=>wpAny_in_of (knd:=intKind cx.prog cx.w) (intKind_is _ _ _ _) (big hs ge) (Heap.DictOf.mapOf i) (by rw[z];exact h _),
     fun E Q h=>wpAny_notIn_of (knd:=intKind cx.prog cx.w) (intKind_is _ _ _ _) (big hs ge) (Heap.DictOf.mapOf i) (by rw[z];exact h _)⟩
   |ref _ _ q _=>cases q<;>injection h
   |_=>injection h
  |ins k=>injection h
 |_=>injection h
theorem Vw.isNone(x:Vw cx w v d):isNone d=(v==.none):=by
 induction x with
 |ref _ _ q _=>induction q<;>rfl
 |_=>rfl
inductive NC(o:Cm):Value->Value->Bool->Prop
 |mk (i j:Int) (t t':Tok):NC o (.int i t) (.int j t') (A3 o i j)
theorem qk(x:Vw cx w v d) (y:Vw cx w u e) (h:MZ o d e=some b):NC o v u b:=by
 induction x with
 |int i t=>induction y with
  |int j t'=>(injection h with h;subst h);exact .mk i j t t'
  |ref _ _ q _=>cases q<;>injection h
  |_=>injection h
 |ref _ _ q _=>cases q<;>injection h
 |_=>injection h
theorem UL(y:Vw cx w u e){c:Bool}(h:(if isNone e then some c else Option.none)=some b):u=.none/\b=c:=by
 split at h
 ·rename_i q;(injection h with h;subst h);exact⟨eq_of_beq (y.isNone.symm.trans q),rfl⟩
 ·injection h
theorem C9(S:eV cx w) (hs:sysModules<cx.cZ) (hu:A.units+16<cLine) (x:Vw cx w v d) (y:Vw cx w u e) (h:qG o d e=some b):J3 cx A w.s (NB o) v u b:=by
 induction o with
 |eq=>exact fun E Q k=>(C8 S hs hu x y (z6 h)).eq E Q (k _)
 |ne =>
  obtain⟨c,q,z⟩:=Option.map_eq_some_iff.mp h
  exact z▸fun E Q k=>(C8 S hs hu x y (z6 q)).ne E Q (k _)
 |lt=>cases qk x y h;exact fun E Q k=>PySem.P.lt_int (k _)
 |le=>cases qk x y h;exact fun E Q k=>PySem.P.le_int (k _)
 |gt=>cases qk x y h;exact fun E Q k=>PySem.P.gt_int (k _)
 |ge=>cases qk x y h;exact fun E Q k=>PySem.P.ge_int (k _)
 |is =>
  obtain⟨q,z⟩:=UL y h
  exact q▸z▸x.isNone▸fun E Q k=>is_none (k _)
 |eg =>
  obtain⟨q,z⟩:=UL y h
  exact q▸z▸x.isNone▸fun E Q k=>isNot_none (k _)
 |oq=>exact(z9 hs x y h).oq
 |sQ =>
  obtain⟨c,q,z⟩:=Option.map_eq_some_iff.mp h
  exact z▸(z9 hs x y q).sQ
end
end Mine
namespace Mine
open PySem PySem.W PySem.Calls PyProof.Rows
@[reducible] noncomputable def J5 (b c:Bool) (_:Wd):Prop:=b=c
noncomputable def ST(cx:Cx) (K:Kx) (x:Expr) (f:Kv):Prop:=∀g w,At cx K g w->Wp cx K.A K.l w (isTrue x K.env (eval x K.env)) (k1 eY f g w.st) J5
structure SX(cx:Cx) (K:Kx) (x:Expr) (f:Kv):Prop where
 v:SE cx K x f
 t:ST cx K x f
section
variable {cx:Cx}{nm:Nat->Option Str}{w w':Wd}{K:Kx}{g:Gm}{v u:Value}{a b:AV}{A:Around}{l:List Env}{E:Value->Shared->Prop}{x y:Expr}{f f':Kv}{pos:Pos}{α β:Type}{st:aB}
theorem R.bind_assoc{γ:Type}{r:R α}{p:α->aB->R β}{q:β->aB->R γ}:(r.bind p).bind q=r.bind fun a st=>(p a st).bind q:=by
 induction r with
 |none=>rfl
 |some z=>induction z<;>rfl
theorem R.bind_congr{r:R α}{p q:α->aB->R β}(h:∀a st,p a st=q a st):r.bind p=r.bind q:=congrArg _ (funext fun a=>funext (h a))
theorem jv{p:AV->aB->R β}{q:Bool->aB->R β}(h:∀a st,p a st=Mine.oB (cV st a) fun b=>q b st):(f g st).bind p=(k1 eY f g st).bind q:=by
 unfold k1
 rw[R.bind_assoc]
 refine R.bind_congr fun a st=>(h a st).trans ?_
 unfold eY
 induction cV st a<;>rfl
theorem ql{o:Option Bool}{x y:Option α}:gq o x y=Mine.oB o fun b=>gq (some b) x y:=by induction o<;>rfl
theorem Bk{Q:Bool->Shared->Prop}{s':Shared}(x:vf cx w v o){b:Bool}(q:o.bind truth=some b) (h:Q b s'):wpAny (model cx.prog cx.w) A (truthy v) Q E s':=by
 induction x with
 |none=>injection q
 |some x =>
  induction x with
  |none=>(injection q with q;subst q);exact truthy_none h
  |bool=>(injection q with q;subst q);exact wpAny_truthy_bool h
  |ref _ _ z _=>cases z<;>injection q
  |_=>injection q
theorem lH{Q:Bool->Shared->Prop}{δ:Type}{Rel:δ->β->Wd->Prop}{Q2:δ->Shared->Prop}{k:Bool->R β}(I:Inv cx w) (x:cQ w.G w.as v a) (T:bT cx l w (Mine.oB (cV w.st a) k) Rel Q2 E)
  (h:∀b,cV w.st a=some b->bT cx l w (k b) Rel Q2 E->Q b w.s):wpAny (model cx.prog cx.w) A (truthy v) Q E w.s:=by
 have key:∀o,cV w.st a=o->bT cx l w (Mine.oB o k) Rel Q2 E->wpAny (model cx.prog cx.w) A (truthy v) Q E w.s:=fun o e T=>by
  induction o with
  |none=>exact absurd rfl T.ne
  |some b=>exact Bk (x.vw I.rel) e (h b e T)
 exact key _ rfl T
theorem ST.of(ih:SE cx K x f) (he:∀whole,isTrue x K.env whole=(do let v <-whole;standAt x.pos;holding [v] (truthy v)):=by intro;rfl):ST cx K x f:=fun g w X _ _ T =>
 wpAny_isTrue_value ((ih g w X).step T fun _ _ _ ev r T=>lH ev.inv r T fun _ _ T=>T.done ev.inv rfl) (he _)
theorem SX.of(ih:SE cx K x f) (he:∀whole,isTrue x K.env whole=(do let v <-whole;standAt x.pos;holding [v] (truthy v)):=by intro;rfl):SX cx K x f:=⟨ih,.of ih he⟩
theorem bT.at2{Rel:α->β->Wd->Prop}{Q:α->Shared->Prop}{o o':Option PV}{k:PV->PV->R β}(T:bT cx l w (Mine.oB o fun d=>Mine.oB o' fun e=>k d e) Rel Q E) (x:vf cx w v o) (y:vf cx w u o'){p:Prop}
  (h:∀d e,Vw cx w v d->Vw cx w u e->bT cx l w (k d e) Rel Q E->p):p:=by
 induction x with
 |none=>exact absurd rfl T.ne
 |some x=>induction y with
  |none=>exact absurd rfl T.ne
  |some y=>exact h _ _ x y T
theorem bT.jI{Rel:α->AV->Wd->Prop}{Q:α->Shared->Prop}{o:Option Bool}(T:bT cx l w (Mine.jI o w.st) Rel Q E){p:Prop}(h:∀b,o=some b->bT cx l w (Mine.ok (.t (.bool b)) w.st) Rel Q E->p):p:=by
 induction o with
 |none=>exact absurd rfl T.ne
 |some b=>exact h b rfl T
theorem bT.RI{Rel:α->Bool->Wd->Prop}{Q:α->Shared->Prop}{o:Option Bool}(T:bT cx l w ((Mine.jI o w.st).bind fun a st=>eY st a) Rel Q E){p:Prop}(h:∀b,o=some b->bT cx l w (Mine.ok b w.st) Rel Q E->p):p:=by
 induction o with
 |none=>exact absurd rfl T.ne
 |some b=>exact h b rfl T
theorem bT.RJ{o:Cm}{Rel:α->Bool->Wd->Prop}{Q:α->Shared->Prop}{d e:Option PV}(T:bT cx l w ((gk o w.st d e).bind fun a st=>eY st a) Rel Q E) (x:vf cx w v d) (y:vf cx w u e){p:Prop}
  (h:∀d e b,Vw cx w v d->Vw cx w u e->qG o d e=some b->bT cx l w (Mine.ok b w.st) Rel Q E->p):p:=by
 induction x with
 |none=>exact absurd rfl T.ne
 |some x=>induction y with
  |none=>exact absurd rfl T.ne
  |some y=>exact T.RI fun b q T=>h _ _ b x y q T
theorem bT.gk{o:Cm}{Rel:α->AV->Wd->Prop}{Q:α->Shared->Prop}{d e:Option PV}(T:bT cx l w (Mine.gk o w.st d e) Rel Q E) (x:vf cx w v d) (y:vf cx w u e){p:Prop}
  (h:∀d e b,Vw cx w v d->Vw cx w u e->qG o d e=some b->bT cx l w (Mine.ok (.t (.bool b)) w.st) Rel Q E->p):p :=
 T.at2 x y fun d e x y T=>T.jI fun b q T=>h d e b x y q T
theorem SX.cmp{o:Cm}(B:Base cx nm) (hu:K.A.units+16<cLine) (hm:behindInMarks (NB o) y=false) (h1:SE cx K x f) (h2:SE cx K y f'):SX cx K (.Compare x [NB o] [y] pos) (k2 (Nf o) f f') where
 v g w X Q E T:=wpAny_Compare1 ((h1 g w X).step T fun a v w1 e1 r1 T=>(h2 g w1 (X.ev e1)).step T fun b u w2 e2 r2 T =>
  T.gk ((r1.ev e2).vw e2.inv.rel) (r2.vw e2.inv.rel) fun _ _ c x y q T=>C9 e2.inv.rel B.sys hu x y q E _ fun _=>T.same e2.inv (Rep.bool c)) hm
 t g w X Q E T:=by
  unfold k1 k2 at T
  rw[R.bind_assoc] at T
  refine wpAny_isTrue_Compare1 ((h1 g w X).step T fun a v w1 e1 r1 T=>?_) hm
  rw[R.bind_assoc] at T
  exact(h2 g w1 (X.ev e1)).step T fun b u w2 e2 r2 T =>
   bT.RJ T ((r1.ev e2).vw e2.inv.rel) (r2.vw e2.inv.rel) fun _ _ c x y q T=>C9 e2.inv.rel B.sys hu x y q E _ fun _=>wpAny_truthy_bool (T.ok c c (w2.at _) rfl (e2.inv.toks rfl rfl rfl) rfl)
theorem SX.not(h:SX cx K x f):SX cx K (.UnaryOp .Not x pos) (k1 A8 f) where
 v g w X Q E T:=by
  have e:k1 A8 f g w.st=(f g w.st).bind fun a st=>Mine.oB (cV st a) fun b=>ok (.t (.bool (!b))) st:=R.bind_congr fun a st=>by
   unfold A8;induction cV st a<;>rfl
  rw[e] at T
  exact wpAny_UnaryOp ((h.v g w X).step T fun a v w1 e1 r T=>not_value (lH e1.inv r T fun b _ T=>T.done e1.inv (Rep.bool _)))
 t g w X Q E T:=by
  have e:k1 eY (k1 A8 f) g w.st=(k1 eY f g w.st).bind fun b st=>ok (!b) st:=by
   show(R.bind _ _).bind _=_
   rw[R.bind_assoc]
   exact jv fun a st=>by unfold A8;induction cV st a<;>rfl
  rw[e] at T
  rw[arm_isTrue_UnaryOp]
  exact wpAny_bind ((h.t g w X).step T fun b c w1 e1 r T=>wpAny_pure (T.done e1.inv (congrArg _ r)))
theorem qR{β γ:Type}{o:Option Bool}{x y:R β}{f:β->aB->R γ}:R.bind (gq o x y) f=gq o (x.bind f) (y.bind f):=by
 induction o with
 |none=>rfl
 |some b=>induction b<;>rfl
theorem Gh{o:Option Bool}{r:R Bool}:gq o r (Mine.oB o fun b=>ok b st)=Mine.oB o fun b=>gq (some b) r (ok false st):=by
 induction o with
 |none=>rfl
 |some b=>induction b<;>rfl
theorem J6{o:Option Bool}{r:R Bool}:gq o (Mine.oB o fun b=>ok b st) r=Mine.oB o fun b=>gq (some b) (ok true st) r:=by
 induction o with
 |none=>rfl
 |some b=>induction b<;>rfl
theorem SX.ite{z:Expr}{f2:Kv}(h:ST cx K x f) (h1:SX cx K y f') (h2:SX cx K z f2):SX cx K (.IfExp x y z pos) (F0 f f' f2) where
 v g w X Q E T:=by
  have e:F0 f f' f2 g w.st=(k1 eY f g w.st).bind fun b st=>gq (some b) (f' g st) (f2 g st):=jv fun a st=>ql
  rw[e] at T
  refine wpAny_IfExp ((h g w X).step T fun b c w1 e1 r T=>?_)
  cases r
  cases b with
  |true=>exact h1.v g w1 (X.ev e1) Q E T
  |false=>exact h2.v g w1 (X.ev e1) Q E T
 t g w X Q E T:=by
  have e:k1 eY (F0 f f' f2) g w.st=(k1 eY f g w.st).bind fun b st=>gq (some b) (k1 eY f' g st) (k1 eY f2 g st):=by
   show(R.bind _ _).bind _=_
   rw[R.bind_assoc]
   exact jv fun a st=>qR.trans ql
  rw[e] at T
  rw[arm_isTrue_IfExp]
  refine wpAny_bind ((h g w X).step T fun b c w1 e1 r T=>?_)
  cases r
  cases b with
  |true=>exact h1.t g w1 (X.ev e1) Q E T
  |false=>exact h2.t g w1 (X.ev e1) Q E T
structure BX(cx:Cx) (K:Kx) (op:BoolOp) (pos:Pos) (xs:List Expr) (f:Kv):Prop where
 v:∀g w,At cx K g w->Wp cx K.A K.l w (boolOp pos op (evalEach xs K.env)) (f g w.st) cH
 t:∀g w,At cx K g w->Wp cx K.A K.l w (allTrue op xs K.env) (k1 eY f g w.st) J5
theorem SX.bool{op:BoolOp}{xs:List Expr}(h:BX cx K op pos xs f):SX cx K (.BoolOp op xs pos) f where
 v g w X Q E T:=by rw[arm_eval_BoolOp];exact h.v g w X Q E T
 t g w X Q E T:=wpAny_isTrue_BoolOp (h.t g w X Q E T)
theorem BX.RK(h:SX cx K x f):BX cx K .And pos [x] f where
 v:=h.v
 t g w X Q E T:=wpAny_allTrue_And_cons (h.t g w X _ E ⟨T.ne,fun b c w1 e1 ev r=>by
  cases r
  have z:=T.ok b b w1 e1 ev rfl
  cases b with
  |true=>exact wpAny_allTrue_And_nil z
  |false=>exact z,T.err⟩)
theorem BX.V5(h:SX cx K x f):BX cx K .Or pos [x] f where
 v:=h.v
 t g w X Q E T:=wpAny_allTrue_Or_cons (h.t g w X _ E ⟨T.ne,fun b c w1 e1 ev r=>by
  cases r
  have z:=T.ok b b w1 e1 ev rfl
  cases b with
  |true=>exact z
  |false=>exact wpAny_allTrue_Or_nil z,T.err⟩)
theorem BX.and{xs:List Expr}(h:SX cx K x f) (r:BX cx K .And pos (y::xs) f'):BX cx K .And pos (x::y::xs) (F1 f f') where
 v g w X Q E T:=by
  have e:F1 f f' g w.st=(f g w.st).bind fun a st=>Mine.oB (cV st a) fun b=>gq (some b) (f' g st) (ok a st):=R.bind_congr fun a st=>ql
  rw[e] at T
  refine wpAny_bind ((h.v g w X).step T fun a v w1 e1 rel T=>wpAny_bind (wpAny_standAt (wpAny_bind (wpAny_holding (lH e1.inv rel T fun b _ T=>?_)))))
  induction b with
  |true=>exact r.v g w1 (X.ev e1) Q E T
  |false=>exact wpAny_pure (T.done e1.inv rel)
 t g w X Q E T:=by
  have e:k1 eY (F1 f f') g w.st=(k1 eY f g w.st).bind fun b st=>gq (some b) (k1 eY f' g st) (ok false st):=by
   show(R.bind _ _).bind _=_
   rw[R.bind_assoc]
   exact jv fun a st=>qR.trans Gh
  rw[e] at T
  refine wpAny_allTrue_And_cons ((h.t g w X).step T fun b c w1 e1 rel T=>?_)
  cases rel
  cases b with
  |true=>exact r.t g w1 (X.ev e1) Q E T
  |false=>exact T.done e1.inv rfl
theorem BX.or{xs:List Expr}(h:SX cx K x f) (r:BX cx K .Or pos (y::xs) f'):BX cx K .Or pos (x::y::xs) (QG f f') where
 v g w X Q E T:=by
  have e:QG f f' g w.st=(f g w.st).bind fun a st=>Mine.oB (cV st a) fun b=>gq (some b) (ok a st) (f' g st):=R.bind_congr fun a st=>ql
  rw[e] at T
  refine wpAny_bind ((h.v g w X).step T fun a v w1 e1 rel T=>wpAny_bind (wpAny_standAt (wpAny_bind (wpAny_holding (lH e1.inv rel T fun b _ T=>?_)))))
  induction b with
  |true=>exact wpAny_pure (T.done e1.inv rel)
  |false=>exact r.v g w1 (X.ev e1) Q E T
 t g w X Q E T:=by
  have e:k1 eY (QG f f') g w.st=(k1 eY f g w.st).bind fun b st=>gq (some b) (ok true st) (k1 eY f' g st):=by
   show(R.bind _ _).bind _=_
   rw[R.bind_assoc]
   exact jv fun a st=>qR.trans J6
  rw[e] at T
  refine wpAny_allTrue_Or_cons ((h.t g w X).step T fun b c w1 e1 rel T=>?_)
  cases rel
  cases b with
  |true=>exact T.done e1.inv rfl
  |false=>exact r.t g w1 (X.ev e1) Q E T
end
structure iR(w:Wd) (s':Shared):Prop where
 k:∀b o,w.h.get? b=some o->s'.heap.get? b=some o
 os:s'.os=w.s.os
 gens:s'.gens=w.s.gens
 z:w.n<=s'.heap.objs.size
noncomputable def Wd.zg(w:Wd) (o:FO) (s':Shared):Wd:=⟨put w.G [w.n] (.fz o),w.as,w.st,s'⟩
section
variable {cx:Cx}{nm:Nat->Option Str}{w w':Wd}{K:Kx}{v u:Value}{A:Around}{l:List Env}{E:Value->Shared->Prop}{Q:Value->Shared->Prop}{d:PV}{o:FO}{us:List Value}{ds:List PV}{s':Shared}{nd:Node}
theorem iR.push{ob:Obj}{tk:Nat}:iR w { w.s with heap:=w.h.push ob,toks:=tk }:=⟨fun _ _ e=>Heap.get?_push_of_some _ e,rfl,rfl,by show _<=(w.h.push ob).objs.size;rw[Heap.size_push];exact Nat.le_succ _⟩
theorem iR.keep(g:iR w s'){a:Addr}(S:eV cx w) (h:w.G a≠.out):s'.heap.get? a=w.h.get? a:=lE g.k (S.live a h)
theorem iR.ev{fr:List Addr}{W:Addr->Prop}(g:iR w s') (I:Inv cx w):Ev cx fr W w (w.at s'):=I.keeps g.k g.os g.gens g.z
theorem qS{p:Pl}(e:Cv nd=some d):own nd p=[p.1]:=by cases nd<;>first| rfl|injection e
theorem gy{α:Type}{l:List α}{x:α}{n:Nat}(e:n=l.length):(l++[x])[n]? = some x:=by
 subst e;rw[List.getElem?_append_right (Nat.le_refl _),Nat.sub_self];rfl
theorem bT.J7(T:bT cx l w (alloc w.st nd) cH Q E) (I:Inv cx w) (g:iR w s') (e:Cv nd=some d) (i:Is cx s'.heap w.n o) (lv:∃o,s'.heap.get? w.n=some o) (q:Sh o d us ds) (r:bh w.G us ds):Q (.ref w.n) s':=by
 have ho:own nd (w.n,0)=[w.n]:=qS e
 have hn:∀a∈own nd (w.n,0),w.n<=a:=fun a h=>Nat.le_of_eq (List.mem_singleton.mp (ho▸h)).symm
 have sub:Sub w.G (w.push (w.n,0) nd s').G:=qj fun a h o e=>Nat.not_lt.mpr (hn a h) (I.rel.lt (e▸fun q=>by injection q))
 exact T.ok _ _ (w.push (w.n,0) nd s') rfl (I.push g.k g.os g.gens g.z hn (fun a h=>List.mem_singleton.mp (ho▸h)▸lv) (.tr e i q (r.mono sub))) (.mk _ (gy I.rel.len.symm) rfl)
theorem bT.Bl(T:bT cx l w (alloc w.st (.lst ds)) cH Q E) (I:Inv cx w) (g:iR w s') (i:s'.heap.PlainList w.n us.toArray) (hl:ds.length<=lim) (r:bh w.G us ds):Q (.ref w.n) s' :=
 let⟨n,e⟩:=i;T.J7 (o:=.lst us n) I g rfl e ⟨_,e⟩ (.lst hl) r
theorem Inv.zg{fr:List Addr}{W:Addr->Prop}(I:Inv cx w) (g:iR w s') (i:Is cx s'.heap w.n o) (hd:∀c dx gs,o≠.ins c dx gs) (lv:∃o,s'.heap.get? w.n=some o):Ev cx fr W w (w.zg o s'):=by
 have S:=I.rel
 have S':=S.step (s':=s') fun a h=>g.keep S h
 have no:∀a,w.G a≠.out->a∉[w.n]:=fun a h q=>Nat.lt_irrefl _ (List.mem_singleton.mp q▸S.lt h)
 have old:∀a,w.G a≠.out->(w.zg o s').G a=w.G a:=fun a h=>cE (no a h)
 have sub:Sub w.G (w.zg o s').G:=fun a y e=>(old a (e▸fun q=>by injection q)).trans e
 refine⟨⟨⟨S.len,fun i p nd e1 e2=>(S'.nodes i p nd e1 e2).mono sub fun _ _ e=>e,fun i p nd e1 e2 a h=>?_,fun a y e=>?_,fun a c dx gs e=>?_,fun a h=>?_,fun a h=>?_⟩,
  I.old.step_keeps g.k,g.os.trans I.os,g.gens.trans I.gens,I.lim.keeps g.k,I.low,I.jb,Nat.le_trans I.ge g.z,let⟨_,e,_,_⟩:=I.tab;ku.step (w:=w) (w':=w.zg o s') (lE g.k ⟨_,e⟩) sub I.tab⟩,
  g.z,fun a _ _ _ _ _=>g.k a,fun a _ _ o e=>⟨o.slots,g.k a o e⟩,sub,fun _ _ e=>e,fun a h e=>(cE fun q=>Nat.lt_irrefl _ (List.mem_singleton.mp q▸h)).trans e⟩
 ·have e:=S.fq i p nd e1 e2 a h
  exact(old a (e▸fun q=>by injection q)).trans e
 ·by_cases q:a∈[w.n]
  ·cases(iQ q).symm.trans e
   exact List.mem_singleton.mp q▸i
  ·exact S'.fz a y ((cE q).symm.trans e)
 ·by_cases q:a∈[w.n]
  ·cases(iQ q).symm.trans e
   exact absurd rfl (hd c dx gs)
  ·exact sub _ _ (S.pq a c dx gs ((cE q).symm.trans e))
 ·by_cases q:a∈[w.n]
  ·exact List.mem_singleton.mp q▸I.ge
  ·exact S.lo a fun z=>h ((cE q).trans z)
 ·by_cases q:a∈[w.n]
  ·exact List.mem_singleton.mp q▸lv
  ·exact S'.live a fun z=>h ((cE q).trans z)
theorem bT.RL(T:bT cx l w (Mine.ok (.t (.tup ds)) w.st) cH Q E) (I:Inv cx w) (g:iR w s') (i:Be s'.heap w.n us.toArray) (hl:ds.length<=lim) (r:bh w.G us ds):Q (.ref w.n) s':=by
 have ev:=I.zg (o:=.tup us) (fr:=ez l) (W:=ou) g i (fun _ _ _ q=>by injection q) (let⟨⟨_,e,_⟩,_⟩:=i;⟨_,e⟩)
 exact T.ok _ _ (w.zg (.tup us) s') rfl ev (Rep.ref (iQ (.head _)) (.tup hl) (r.mono ev.sub))
@[reducible] noncomputable def jh (us:List Value):Obj:={ cls:=.type "list",data:=.seq us.toArray }
@[reducible] noncomputable def J8 (us:List Value):Obj:={ cls:=.type "tuple",data:=.seq us.toArray }
theorem ny{h:Heap}:(h.push (jh us)).PlainList h.objs.size us.toArray:=⟨_,Heap.get?_push_size _ rfl⟩
theorem Gi{h:Heap}:Be (h.push (J8 us)) h.objs.size us.toArray:=⟨⟨_,Heap.get?_push_size _ rfl,rfl,_,rfl⟩,fun o q=>by rw[Heap.get?_push_size _ rfl] at q;(injection q with q;subst q);rfl⟩
theorem bh.append{G:Addr->Lg}{vs us:List Value}{l k:List PV}(r:bh G vs l) (q:bh G us k):bh G (vs++us) (l++k):=by
 induction r using bh.ind with
 |h0=>exact q
 |h1 v vs d l x r ih=>exact .cons x ih
theorem bh.replicate{G:Addr->Lg}(x:Rep G v d):∀n,bh G (List.replicate n v) (List.replicate n d)
 |0=>.nil
 |n+1=>.cons x (bh.replicate x n)
theorem PlainList.typeIs{s:Shared}{a:Addr}{bK:Array Value}(x:s.heap.PlainList a bK):s.TypeIs (.ref a) "list":=let⟨_,e⟩:=x;⟨_,e,rfl⟩
theorem qT{s:Shared}{a b:Addr}{us ws:List Value}(ha:s.heap.PlainList a us.toArray) (hb:s.heap.PlainList b ws.toArray) (hsz:us.length+ws.length<=lim)
  (h:Q (.ref s.heap.objs.size) { s with heap:=s.heap.push (jh (us++ws)) }):wpAny (model cx.prog cx.w) A (binaryOp .Add (.ref a) (.ref b)) Q E s:=by
 obtain⟨n,ho⟩:=id ha
 obtain⟨n2,Gb⟩:=id hb
 refine concat_meets (PlainList.typeIs ha) (PlainList.typeIs hb) noFill_list_add seq_list_add PySem.F.slot_list_add PySem.F.entry_list_add (PySem.F.args_list_add_2 _ _)
  (list_addW a b us.toArray ws.toArray n n2 none none #[] #[] (by rw[List.size_toArray,List.size_toArray];exact Nat.le_trans hsz (by decide))) ⟨ho,Gb,?_⟩
 rw[List.append_toArray]
 exact h
theorem j7(v:Value):∀(n:Nat) (acc:Array Value),List.foldl (fun x1 x2=>x1++x2) acc (List.replicate n #[v])=acc++(List.replicate n v).toArray
 |0,_=>Array.append_empty.symm
 |n+1,acc=>by
  rw[List.replicate_succ,List.foldl_cons,j7 v n,List.replicate_succ,Array.append_assoc]
  exact congrArg _ (Array.ext' (by rw[Array.toList_append];rfl))
theorem sY{s:Shared}{a:Addr}{v:Value}{x:Int}{u:Tok}(ha:s.heap.PlainList a #[v]) (h1:-2000<=x) (h2:x<=2000)
  (h:Q (.ref s.heap.objs.size) { s with heap:=s.heap.push (jh (List.replicate x.toNat v)) }):wpAny (model cx.prog cx.w) A (binaryOp .Mult (.ref a) (.int x u)) Q E s:=by
 obtain⟨k,hl⟩:=id ha
 refine wpAny_binaryOp_repeat_ref (T:="list") (U:="int") (by decide) ⟨_,hl,rfl⟩ (fun s'=>typeIs_int s' x u) noFill_list_mul PySem.F.fills_int_mul PySem.F.slot_int_rmul repeat_list PySem.F.slot_int_index.lookup
  (call_meets PySem.F.slot_int_rmul (typeIs_int s x u) PySem.F.entry_int_rmul (PySem.F.args_int_rmul_2 _ _) (int___rmul___int_list x u a #[v] k)
   ⟨hl,rfl,⟨_,hl,rfl⟩,call_meets PySem.F.slot_list_mul ⟨_,hl,rfl⟩ PySem.F.entry_list_mul (PySem.F.args_list_mul_2 _ _)
    (AutoListH.list___mul___list_int_3 a #[v] k x u (by simp[Builtin.List.listFitsIndex];omega) (by simp;omega) (by simp[Builtin.List.listTooLong,sizeLine];omega))
    ⟨hl,?_⟩⟩)
 have e:List.foldl (fun x1 x2=>x1++x2) #[] (List.replicate (if(#[v]:Array Value).isEmpty=true then 0 else x.toNat) #[v])=(List.replicate x.toNat v).toArray :=
  (j7 v x.toNat #[]).trans Array.empty_append
 show wants Q E _ _
 rw[e]
 exact h
end
noncomputable def QL:yX->Operator
 |.add=>.Add
 |.sub=>.Sub
 |.mul=>.Mult
 |.fdiv=>.FloorDiv
 |.mod=>.Mod
theorem Bm{a b:Int}(hb:b.natAbs<1048576):¬(Builtin.divisionGoesByPylong a b)=true:=by
 unfold Builtin.divisionGoesByPylong
 simp only[Bool.and_eq_true,decide_eq_true_eq]
 intro h
 have h0:(if(b==0)=true then 0 else b.natAbs.log2 / 30+1)<=300:=by
  split
  ·omega
  ·by_cases h0:b.natAbs=0
   ·rw[h0];decide
   ·have:=(Nat.log2_lt h0).mpr (show b.natAbs<2 ^ 20 from hb);omega
 omega
inductive Ar(o:yX) (a b c:Int):Prop
 |add (h:o=.add) (e:c=a+b)
 |sub (h:o=.sub) (e:c=a-b)
 |fdiv (h:o=.fdiv) (z:b≠0) (k:b.natAbs<1048576) (e:c=Int.fdiv a b)
 |mod (h:o=.mod) (z:b≠0) (e:c=Int.fmod a b)
theorem Aa{α:Type}{c:Prop} [Decidable c] {x y:α}(h:(if c then none else some x)=some y):¬c/\x=y:=by
 by_cases q:c
 ·rw[if_pos q] at h;injection h
 ·rw[if_neg q] at h;exact⟨q,Option.some.inj h⟩
theorem Bo{o:yX}{a b c:Int}(h:arith o a b=some c):Ar o a b c:=by
 induction o with
 |add=>(injection h with h;subst h);exact .add rfl rfl
 |sub=>(injection h with h;subst h);exact .sub rfl rfl
 |mul=>injection h
 |fdiv=>let⟨q,e⟩:=Aa h;exact .fdiv rfl (fun z=>q (.inl z)) (Nat.lt_of_not_le fun z=>q (.inr z)) e.symm
 |mod=>let⟨q,e⟩:=Aa h;exact .mod rfl q e.symm
section
variable {cx:Cx}{nm:Nat->Option Str}{w w':Wd}{K:Kx}{v u:Value}{A:Around}{l:List Env}{E:Value->Shared->Prop}{Q:Value->Shared->Prop}{d e:PV}{us:List Value}{ds:List PV}{s':Shared}{x y:Expr}{f f':Kv}{pos:Pos}
theorem bT.no{α β:Type}{Rel:α->β->Wd->Prop}{Q:α->Shared->Prop}{p:Prop}(T:bT cx l w none Rel Q E):p:=absurd rfl T.ne
theorem bT.m9{α:Type}{Rel:α->AV->Wd->Prop}{Q:α->Shared->Prop}{o:Option Int}(T:bT cx l w (Mine.m9 o w.st) Rel Q E){p:Prop}(h:∀b,o=some b->bT cx l w (Mine.ok (.t (.int b)) w.st) Rel Q E->p):p:=by
 induction o with
 |none=>exact T.no
 |some b=>exact h b rfl T
theorem bT.sV{α:Type}{Rel:α->AV->Wd->Prop}{Q:α->Shared->Prop}{o:Option PV}(T:bT cx l w (Mine.sV o w.st) Rel Q E){p:Prop}(h:∀b,o=some b->bT cx l w (Mine.ok (.t b) w.st) Rel Q E->p):p:=by
 induction o with
 |none=>exact T.no
 |some b=>exact h b rfl T
theorem bT.ite{α β:Type}{Rel:α->β->Wd->Prop}{Q:α->Shared->Prop}{c:Prop} [Decidable c] {r:R β}(T:bT cx l w (if c then r else none) Rel Q E){p:Prop}(h:c->bT cx l w r Rel Q E->p):p:=by
 by_cases q:c
 ·rw[if_pos q] at T;exact h q T
 ·rw[if_neg q] at T;exact T.no
theorem bT.ND{α β:Type}{Rel:α->β->Wd->Prop}{Q:α->Shared->Prop}{c:Bool}{r:R β}(T:bT cx l w (if c then r else none) Rel Q E){p:Prop}(h:c=true->bT cx l w r Rel Q E->p):p:=T.ite h
theorem Gj{o:yX}{a b c:Int}{t t':Tok}{s:Shared}(h:Ar o a b c) (k:Q (.int c s.toks) { s with toks:=s.toks+1 }):wpAny (model cx.prog cx.w) A (binaryOp (QL o) (.int a t) (.int b t')) Q E s:=by
 induction h with
 |add h e=>subst h e;exact AutoIntOps.add_0 k
 |sub h e=>subst h e;exact AutoIntOps.sub_0 k
 |fdiv h z n e=>subst h e;exact AutoIntOps.floordiv_1 (fun q=>z (eq_of_beq q)) (Bm n) k
 |mod h z e=>subst h e;exact AutoIntOps.mod_1 (fun q=>z (eq_of_beq q)) k
theorem J9{o:yX}(I:Inv cx w) (x:Vw cx w v d) (y:Vw cx w u e) (T:bT cx l w (Jy o w.st d e) cH Q E):wpAny (model cx.prog cx.w) A (binaryOp (QL o) v u) Q E w.s:=by
 induction x with
 |int a t =>
  induction y with
  |int b t'=>exact T.m9 fun c h T=>Gj (Bo h) (T.same I (Rep.int c _))
  |ref _ _ q _=>induction q<;>exact T.no
  |_=>exact T.no
 |ref _ i q r =>
  induction q with
  |lst z =>
   induction y with
   |int n t' =>
    induction o with
    |mul =>
     cases r with
     |nil=>exact T.no
     |cons x r=>cases r with
      |cons=>exact T.no
      |nil=>exact bT.ite T fun hc T=>sY ⟨_,i⟩ hc.1 hc.2 (T.Bl I .push ny (by rw[List.length_replicate];unfold lim;omega) (bh.replicate x _))
    |_=>exact T.no
   |ref _ i' q' r' =>
    induction q' with
    |lst z' =>
     induction o with
     |add=>exact bT.ite T fun hc T=>qT ⟨_,i⟩ ⟨_,i'⟩ (by rw[r.length,r'.length];exact hc) (T.Bl I .push ny (by rw[List.length_append];exact hc) (r.append r'))
     |_=>exact T.no
    |_=>exact T.no
   |_=>exact T.no
  |_=>exact T.no
 |_=>exact T.no
theorem SE.bin{o:yX}(h1:SE cx K x f) (h2:SE cx K y f'):SE cx K (.BinOp x (QL o) y pos) (k2 (Nd o) f f'):=fun g w X Q E T =>
 wpAny_BinOp ((h1 g w X).step T fun _ _ _ e1 r1 T=>(h2 g _ (X.ev e1)).step T fun _ _ _ e2 r2 T=>T.at2 ((r1.ev e2).vw e2.inv.rel) (r2.vw e2.inv.rel) fun _ _ x y T=>J9 e2.inv x y T)
theorem Ka{a:AV}(I:Inv cx w) (r:cQ w.G w.as v a) (T:bT cx l w (JA w.st a) cH Q E):wpAny (model cx.prog cx.w) A (unaryOp .USub v) Q E w.s:=by
 induction a with
 |r i=>exact T.no
 |t d=>cases d with
  |int i=>cases r with
   |int=>exact PySem.P.neg_int (T.same I (Rep.int _ _))
   |ref _ q _=>cases q
  |_=>exact T.no
theorem SE.neg(h:SE cx K x f):SE cx K (.UnaryOp .USub x pos) (k1 JA f):=fun g w X Q E T =>
 wpAny_UnaryOp ((h g w X).step T fun _ _ _ e1 r1 T=>Ka e1.inv r1 T)
theorem jw{o:Value}{T id:String}{s:Shared}{Qb:Bool->Shared->Prop}(hT:s.TypeIs o T) (hl:typeLookup (.type T) "__getitem__" = pure (some (.builtin id))) (h:Qb false s):wpAny (model cx.prog cx.w) A (getitemInPython o) Qb E s:=by
 rw[getitemInPython_of_ne hT.not_modules]
 refine wpAny_bind (wpAny_specialOf hT hl ?_)
 first| exact wpAny_pure h|exact wpAny_bind (wpAny_pure h)
inductive NF(cx:Cx) (A:Around) (w:Wd) (v u:Value) (r:PV):Prop
 |mk (T id:String) (t:w.s.TypeIs v T) (k:typeLookup (.type T) "__getitem__" = pure (some (.builtin id)))
  (h:∀(E:Value->Shared->Prop) (Q:Value->Shared->Prop),(∀y tk,Rep w.G y r->Q y { w.s with toks:=tk })->wpAny (model cx.prog cx.w) A (getItem v u) Q E w.s)
inductive V6(G:Addr->Lg) (vs:List Value) (i:Nat) (d:PV):Prop
 |mk (v:Value) (e:vs[i]? = some v) (r:Rep G v d)
theorem bh.get{G:Addr->Lg}{vs:List Value}{l:List PV}(r:bh G vs l):∀{i:Nat}{d:PV},l[i]? = some d->V6 G vs i d:=by
 induction r using bh.ind with
 |h0=>exact fun q=>nomatch q
 |h1 v vs d l x r ih =>
  intro i e h
  induction i with
  |zero=>(injection h with h;subst h);exact .mk _ rfl x
  |succ i=>cases ih (i:=i) h with| mk u q x=>exact .mk u q x
inductive UM(l:List PV) (r:PV):PV->Prop
 |mk (k:Int) (h:0<=k) (e:l[k.toNat]? = some r):UM l r (.int k)
theorem tW{l:List PV}{r:PV}(h:xh l e=some r):UM l r e:=by
 cases e with
 |int k =>
  unfold xh at h
  dsimp only at h
  split at h
  ·rename_i q;exact .mk k q h
  ·injection h
 |_=>injection h
theorem Gk{r:PV}(x:Vw cx w v d) (y:Vw cx w u e) (h:item d e=some r):NF cx A w v u r:=by
 induction x with
 |ref _ i q rr =>
  induction q with
  |lst z =>
   obtain⟨k,hk,hi⟩:=tW h
   cases y with
   |int k t =>
    obtain⟨y,e,ry⟩:=rr.get hi
    have qU:k.toNat<_:=(List.getElem?_eq_some_iff.mp hi).1
    unfold lim at z
    exact .mk "list" _ (Heap.PlainList.isList ⟨_,i⟩).typeIs slot_list_getitem.lookup fun E Q h=>wpAny_getItem_list (Heap.PlainList.isList ⟨_,i⟩) hk (by omega) (List.getElem?_toArray.trans e) (h y _ ry)
   |ref _ _ q _=>cases q
  |tup z =>
   obtain⟨k,hk,hi⟩:=tW h
   cases y with
   |int k t =>
    obtain⟨y,e,ry⟩:=rr.get hi
    have qU:k.toNat<_:=(List.getElem?_eq_some_iff.mp hi).1
    have hsz:=rr.length
    unfold lim at z
    exact .mk "tuple" _ i.tup.typeIs slot_tuple_getitem.lookup fun E Q h=>PyProof.Rows.getItem_tuple i.tup (by omega) (by omega) (seqIndex_of hk (by rw[List.size_toArray,hsz];omega)) (List.getElem?_toArray.trans e) (h y _ ry)
   |ref _ _ q _=>cases q
  |dS z k n =>
   induction y with
   |str t tk =>
    have vl:=lG (k:=t) k rr
    have h':cj t _=some r:=h
    rw[h'] at vl
    cases vl with
    |some y e ry=>exact .mk "dict" _ (Heap.DictOf.typeIs (Heap.DictAt.dictOf i)) slot_dict_getitem.lookup fun E Q h=>wpAny_getItem_of (knd:=strKind cx.prog cx.w) (strKind_is _ _ _ _) (Heap.DictOf.mapOf (Heap.DictAt.dictOf i)) e (h y _ ry)
   |ref _ _ q _=>cases q<;>injection h
   |_=>injection h
  |_=>injection h
 |_=>injection h
theorem SE.sub(RM:∀o i,subscripted y false o i=operate [o,i] (getItem o i)) (h1:SE cx K x f) (h2:SE cx K y f'):SE cx K (.Subscript x y pos) (k2 Ng f f'):=fun g w X Q E T=>by
 rw[eval_Subscript]
 refine wpAny_bind ((h1 g w X).step T fun a v w1 e1 r1 T=>wpAny_bind (wpAny_holding ((h2 g w1 (X.ev e1)).step T fun b u w2 e2 r2 T=>wpAny_bind (wpAny_standAt ?_))))
 refine T.at2 ((r1.ev e2).vw e2.inv.rel) (r2.vw e2.inv.rel) fun d e x y T=>T.sV fun r h T=>?_
 obtain⟨T',id,hT,hl,hg⟩:=Gk (A:=K.A) x y h
 refine wpAny_bind (jw hT hl ?_)
 rw[RM]
 exact wpAny_bind (wpAny_operating (hg _ _ fun z tk rz=>wpAny_bind (wpAny_letTemporaryGo (wpAny_pure (T.same e2.inv rz)))))
end
structure Dc(v:Value) (o:Option Int) (_:Wd):Prop where
 p:IsPart v o
 z:∀i,o=some i->0<=i
noncomputable def SO(cx:Cx) (K:Kx) (x:Option Expr) (f:Gm->aB->R (Option Int)):Prop:=∀g w,At cx K g w->Wp cx K.A K.l w (evalPart x K.env) (f g w.st) Dc
theorem minD{α:Type}{l:List α}{n a b:Nat}(h:l.length=n):(l.take b).drop a=(l.take (min b n)).drop (min a n):=by
 apply List.ext_getElem?
 intro i
 simp only[List.getElem?_drop,List.getElem?_take]
 rcases Nat.le_total a n with ha|ha
 ·rw[Nat.min_eq_left ha]
  by_cases hb:a+i<n
  ·have:(a+i<b)↔(a+i<min b n):=by omega
   simp only[this]
  ·rw[List.getElem?_eq_none (h▸Nat.le_of_not_lt hb)];split<;>split<;>rfl
 ·rw[List.getElem?_eq_none (show l.length<=a+i by omega),List.getElem?_eq_none (show l.length<=min a n+i by omega)];split<;>split<;>rfl
noncomputable def xG(o:Option Int) (d:Int) (n:Nat):Int:=match o with
 |none=>d
 |some i=>max 0 (min (if i<0 then i+n else i) n)
theorem Dd(k n:Nat):max 0 (min (if(k:Int)<0 then(k:Int)+n else k) (n:Int))=((min k n:Nat):Int):=by
 rw[if_neg (Int.not_lt.mpr (Int.natCast_nonneg k)),show min (k:Int) (n:Int)=((min k n:Nat):Int) by omega]
 exact Int.max_eq_right (Int.natCast_nonneg _)
theorem tX{i:Int}{d:Int}{n:Nat}(h:0<=i):xG (some i) d n=((min i.toNat n:Nat):Int):=by
 obtain⟨k,rfl⟩:=Int.eq_ofNat_of_zero_le h
 exact Dd k n
theorem bounds{lo hi:Option Int}{n:Nat}(RN:∀i,lo=some i->0<=i) (RP:∀i,hi=some i->0<=i):sliceBounds lo hi none n=(((min (Ml lo) n:Nat):Int),((min (M0 n hi) n:Nat):Int),1):=by
 have e:sliceBounds lo hi none n=(xG lo 0 n,xG hi n n,1):=rfl
 have h1:xG lo 0 n=((min (Ml lo) n:Nat):Int):=by
  induction lo with
  |none=>exact congrArg Nat.cast (Nat.zero_min n).symm
  |some i=>exact tX (RN i rfl)
 have h2:xG hi n n=((min (M0 n hi) n:Nat):Int):=by
  induction hi with
  |none=>exact congrArg Nat.cast (Nat.min_self n).symm
  |some i=>exact tX (RP i rfl)
 rw[e,h1,h2]
section
variable {cx:Cx}{nm:Nat->Option Str}{w w':Wd}{K:Kx}{v u:Value}{A:Around}{l:List Env}{E:Value->Shared->Prop}{Q:Value->Shared->Prop}{d e:PV}{us:List Value}{ds:List PV}{s':Shared}{x y:Expr}{f f':Kv}{pos:Pos}{G:Addr->Lg}
theorem SO.none:SO cx K Option.none fun _ st=>ok Option.none st:=fun _ _ X _ _ T=>wpAny_pure (T.done X.inv ⟨.none,fun _ h=>nomatch h⟩)
theorem SO.some(h:SE cx K x f):SO cx K (some x) (k1 IB f):=fun g w X Q E T=>(h g w X).step T fun a v w1 e1 r T=>by
 cases a with
 |r i=>exact T.no
 |t d=>cases d with
  |int i=>cases r with
   |int _ t=>exact bT.ite T fun hi T=>T.done e1.inv ⟨.int i t,fun j q=>by(injection q with q;subst q);exact hi⟩
   |ref _ q _=>cases q
  |_=>exact T.no
theorem bh.take{vs:List Value}{l:List PV}(n:Nat) (r:bh G vs l):bh G (vs.take n) (l.take n):=by
 induction r using bh.ind generalizing n with
 |h0=>rw[List.take_nil,List.take_nil];exact .nil
 |h1 v vs d l x r ih =>
  induction n with
  |zero=>exact .nil
  |succ n=>exact .cons x (ih n)
theorem bh.drop{vs:List Value}{l:List PV}(n:Nat) (r:bh G vs l):bh G (vs.drop n) (l.drop n):=by
 induction r using bh.ind generalizing n with
 |h0=>rw[List.drop_nil,List.drop_nil];exact .nil
 |h1 v vs d l x r ih =>
  induction n with
  |zero=>exact .cons x r
  |succ n=>exact ih n
inductive RQ(G:Addr->Lg) (us:List Value) (ds:List PV) (lo hi:Option Int):Prop
 |mk (ws:List Value) (e:slicePick us.toArray lo hi none=ws.toArray) (r:bh G ws (cut ds lo hi))
theorem Kc{lo hi:Option Int}(r:bh G us ds) (RN:∀i,lo=some i->0<=i) (RP:∀i,hi=some i->0<=i):RQ G us ds lo hi:=by
 have e:cut ds lo hi=(ds.take (min (M0 us.length hi) us.length)).drop (min (Ml lo) us.length):=by rw[r.length];exact minD rfl
 refine .mk ((us.drop (min (Ml lo) us.length)).take (min (M0 us.length hi) us.length-min (Ml lo) us.length)) ?_ ?_
 ·unfold slicePick
  rw[List.size_toArray,bounds RN RP]
  simp only[sliceRange_one,pick_run]
 ·rw[e,List.drop_take]
  exact(r.drop _).take _
theorem iR.trans{s1:Shared}(x:iR w s1) (y:iR (w.at s1) s'):iR w s':=⟨fun b o e=>y.k b o (x.k b o e),y.os.trans x.os,y.gens.trans x.gens,Nat.le_trans x.z y.z⟩
theorem bT.NG{α β:Type}{Rel:α->β->Wd->Prop}{Q:α->Shared->Prop}{r:R β}(T:bT cx l w r Rel Q E) (I:Inv cx w) (g:iR w s'):bT cx l (w.at s') r Rel Q E :=
 ⟨T.ne,fun b a zV e x rel=>T.ok b a zV e ((g.ev I).trans x) rel,fun m e zV q x z=>T.err m e zV q ((g.ev I).trans x) (z.mono g.z)⟩
theorem De{p:Addr}{u1 u2:Value}{b c:Option Int}(I:Inv cx w) (i:w.h.PlainList p us.toArray) (z:ds.length<=lim) (r:bh w.G us ds) (r1:Dc u1 b w) (r2:Dc u2 c w) (T:bT cx l w (alloc w.st (.lst (cut ds b c))) cH Q E){s1:Shared}
  (hs:s1={ w.s with heap:=w.h.push { cls:=.type "slice",data:=.fields #[u1,u2,.none] } }):wpAny (model cx.prog cx.w) A (getItem (.ref p) (.ref w.n)) Q E s1:=by
 obtain⟨ws,e1,rw'⟩:=Kc r r1.z r2.z
 subst hs
 have g:=iR.push (w:=w) (ob:={ cls:=.type "slice",data:=.fields #[u1,u2,.none] }) (tk:=w.s.toks)
 refine wpAny_getItem_list_slice ((Heap.PlainList.isList i).push _) (Heap.IsSliceOf.new ..) r1.p r2.p .none (by decide) ?_ (by rw[List.size_toArray,r.length];exact Nat.le_trans z (by decide))
 rw[e1]
 refine(T.NG I g).Bl (us:=ws) (g.ev (fr:=[]) (W:=ou) I).inv .push ny ?_ rw'
 unfold cut
 rw[List.length_drop,List.length_take]
 omega
theorem SE.slice{lo hi:Option Expr}{p:Pos}{f1 f2:Gm->aB->R (Option Int)}(h:SE cx K x f) (h1:SO cx K lo f1) (h2:SO cx K hi f2):SE cx K (.Subscript x (.Slice lo hi none p) pos) (CP f f1 f2):=fun g w X Q E T=>by
 rw[eval_Subscript]
 refine wpAny_bind ((h g w X).step T fun a v w0 e0 r0 T=>wpAny_bind (wpAny_holding (wpAny_Slice ?_)))
 refine(h1 g w0 (X.ev e0)).step T fun b u1 w1 e1 r1 T=>(h2 g w1 ((X.ev e0).ev e1)).step T fun c u2 w2 e2 r2 T=>?_
 rw[evalPart_none]
 refine wpAny_pure (wpAny_bind (wpAny_standAt ?_))
 have key:∀{o:Option PV},vf cx w2 v o->bT cx K.l w2 (UG o b c w2.st) cH Q E->wpAny (model cx.prog cx.w) K.A (getitemInPython v >>= fun q=>subscripted (.Slice lo hi Option.none p) q v (.ref w2.n) >>= fun r=>letTemporaryGo x v r >>= fun _=>pure r) Q E { w2.s with heap:=w2.h.push { cls:=.type "slice",data:=.fields #[u1,u2,.none] } }:=fun y T=>by
  induction y with
  |none=>exact T.no
  |some y =>
   induction y with
   |ref _ i q r =>
    induction q with
    |lst z =>
     refine wpAny_bind (jw (T:="list") ((Heap.PlainList.isList ⟨_,i⟩).push _).typeIs list_getitem_lookup ?_)
     show wpAny _ K.A (operate [_,_] (getItem _ _) >>= _) _ _ _
     refine wpAny_bind (wpAny_operating (De (Q:=fun r s=>wpAny _ _ (letTemporaryGo _ _ r >>= fun _=>pure r) Q E s) e2.inv ⟨_,i⟩ z r ⟨r1.p,r1.z⟩ r2 ⟨T.ne,fun b' a' w' q' x' rel=>wpAny_bind (wpAny_letTemporaryGo (wpAny_pure (T.ok b' a' w' q' x' rel))),T.err⟩ rfl))
    |_=>exact T.no
   |_=>exact T.no
 exact key (((r0.ev e1).ev e2).vw e2.inv.rel) T
end
theorem Inv.adopt{cx:Cx}{fr:List Addr}{w w0:Wd}{s':Shared}{nd:Node}{d:PV}{o:FO}{us:List Value}{ds:List PV}{a:Addr}(I:Inv cx w) (p:iB cx w a) (hs:Heap.SameBut a w.h s'.heap) (h1:s'.os=w.s.os) (h2:s'.gens=w.s.gens)
  (e:Cv nd=some d) (i:Is cx s'.heap a o) (lv:∃o,s'.heap.get? a=some o) (q:Sh o d us ds) (r:bh w.G us ds) (ev:Ev cx fr (fun b=>b=a) w0 w) (hz:w0.n<=a):Ev cx fr ou w0 (w.push (a,0) nd s'):=by
 have I1:=(I.dU (fr:=[]) p hs h1 h2).inv
 have ho:own nd (a,0)=[a]:=qS e
 have hb:∀b∈own nd (a,0),b=a:=fun b h=>List.mem_singleton.mp (ho▸h)
 have sub:Sub w.G (w.push (a,0) nd s').G:=qj fun b h o e=>by
  have z:=p.out
  rw[<-hb b h,e] at z
  injection z
 have ne:∀c,c<w0.n->c≠a:=fun c h=>Nat.ne_of_lt (Nat.lt_of_lt_of_le h hz)
 exact⟨⟨eV.push (w:=w.at s') I1.rel (fun _ _=>rfl) (fun b h=>hb b h▸⟨p.out,p.ge⟩) (fun b h=>hb b h▸lv) (.tr e i q (r.mono sub)),I1.old,I1.os,I1.gens,I1.lim,I1.low,I1.jb,I1.ge,ku.step (w:=w.at s') (w':=w.push (a,0) nd s') rfl sub I1.tab⟩,
  Nat.le_trans ev.size (Nat.le_of_eq hs.1.symm),fun c h1 h2 h3 h4 _ o e=>(hs.2 c (ne c h2)).trans (ev.keep c h1 h2 h3 h4 (ne c h2) o e),fun c h _ o e =>
   let n:=ne c (Heap.lt_size e);let⟨sl,e'⟩:=ev.frame c h n o e;⟨sl,(hs.2 c n).trans e'⟩,fun b o e=>sub b o (ev.sub b o e),fun _ _ e=>qM (ev.pre _ _ e),
  fun c h e=>(cE fun q=>ne c h (hb c q)).trans (ev.out c h e)⟩
structure RS(n:Nat) (us:List Value) (as:List AV) (w:Wd):Prop where
 r:dB w.G w.as us as
 n:us.length=n
structure NH(cx:Cx) (ts:List Tx) (ps:List (Value×Value)) (as:List AV) (w:Wd):Prop where
 c:Carries (strKind cx.prog cx.w) ps ((ts.map tx).zip (ps.map (·.2)))
 r:dB w.G w.as (ps.map (·.2)) as
 n:ps.length=ts.length
inductive KeysAre:List Tx->List (Option Expr)->Prop
 |nil:KeysAre [] []
 |cons {t:Tx}{k:Nat}{p:Pos}{ts:List Tx}{xs:List (Option Expr)}:KeysAre ts xs->KeysAre (t::ts) (some (Expr.Constant (.str (tx t)) k p)::xs)
theorem KeysAre.length{ts:List Tx}{xs:List (Option Expr)}(h:KeysAre ts xs):xs.length=ts.length:=by
 induction h with
 |nil=>rfl
 |cons _ ih=>exact congrArg Nat.succ ih
theorem KeysAre.all{ts:List Tx}{xs:List (Option Expr)}(h:KeysAre ts xs):xs.all (·.isSome)=true:=by
 induction h with
 |nil=>rfl
 |cons _ ih=>exact ih
structure SA(cx:Cx) (K:Kx) (xs:List Expr) (f:Gm->aB->R (List AV)):Prop where
 head:∀x r,xs=x::r->starEach xs K.env=(false,eval x K.env)::starEach r K.env
 plain:∀pos,(backTo pos (starEach xs K.env)).any (·.1)=false
 w:∀pos g w,At cx K g w->Wp cx K.A K.l w (spliced (backTo pos (starEach xs K.env))) (f g w.st) (RS xs.length)
 p:∀{ts NI},KeysAre ts NI->ts.length=xs.length->∀pos g w,At cx K g w->Wp cx K.A K.l w (evalPairs (pairTrees NI xs K.env pos)) (f g w.st) (NH cx ts)
section
variable {cx:Cx}{nm:Nat->Option Str}{w w':Wd}{K:Kx}{g:Gm}{v u:Value}{A:Around}{l:List Env}{E:Value->Shared->Prop}{Q:Value->Shared->Prop}{d e:PV}{us:List Value}{ds:List PV}{s':Shared}{x y:Expr}{f f':Kv}{pos:Pos}{xs:List Expr}{fs:Gm->aB->R (List AV)}
theorem At.toks(X:At cx K g w){tk:Nat}:iC cx K.l w (w.at { w.s with toks:=tk }):=X.inv.toks rfl rfl rfl
theorem bT.start{α β:Type}{Rel:α->β->Wd->Prop}{Q:α->Shared->Prop}{r:R β}(T:bT cx l w r Rel Q E) (ev:iC cx l w w'):bT cx l w' r Rel Q E :=
 ⟨T.ne,fun b a zV e x rel=>T.ok b a zV e (ev.trans x) rel,fun m e zV q x z=>T.err m e zV q (ev.trans x) (z.mono ev.size)⟩
theorem bT.run{α β γ δ:Type}{x:Sem α}{r:R β}{k:β->aB->R γ}{Rel:α->β->Wd->Prop}{Rel2:δ->γ->Wd->Prop}{Q:δ->Shared->Prop}{Q0:α->Shared->Prop}(T:bT cx l w (r.bind k) Rel2 Q E) (ev:iC cx l w w') (h:Wp cx A l w' x r Rel)
  (go:∀b a w1,iC cx l w' w1->Rel a b w1->bT cx l w (k b w1.st) Rel2 Q E->Q0 a w1.s):wpAny (model cx.prog cx.w) A x Q0 E w'.s :=
 h Q0 E ⟨fun e=>T.ne (by rw[e];rfl),fun b a w1 e e1 rel=>go b a w1 e1 rel (by subst e;exact T),fun m e w1 q e1 z=>by
  subst q
  exact T.err m e w1 rfl (ev.trans e1) (z.mono ev.size)⟩
theorem bT.ji{γ δ:Type}{w1:Wd}{as:List AV}{vs:List Value}{f:List PV->aB->R γ}{Rel2:δ->γ->Wd->Prop}{Q:δ->Shared->Prop}{P:Prop}(I:Inv cx w1) (r:dB w1.G w1.as vs as) (T:bT cx l w ((Mine.fE w1.st as).bind f) Rel2 Q E)
  (k:∀ds G' st',iC cx l w1 ⟨G',w1.as,st',w1.s⟩->bh G' vs ds->bT cx l w (f ds st') Rel2 Q E->P):P:=by
 rcases mS I r with e|⟨ds,st',e,G',ev,r'⟩
 ·exact absurd (by rw[e];rfl) T.ne
 ·exact k ds G' st' (ev _ _) r' (by rw[e] at T;exact T)
theorem SA.nil:SA cx K [] fun _ st=>ok [] st where
 head _ _ q:=nomatch q
 plain _:=rfl
 w _ _ _ X _ _ T:=wpAny_items_nil (T.done X.inv ⟨.nil,rfl⟩)
 p hk hl _ _ _ X _ _ T:=by
  induction hk with
  |nil=>exact evalPairs_nil (T.done X.inv ⟨trivial,.nil,rfl⟩)
  |cons=>injection hl
theorem dB.ev{fr:List Addr}{as:List AV}(r:dB w.G w.as us as) (y:Ev cx fr ou w w'):dB w'.G w'.as us as:=r.mono y.sub y.pre
theorem SA.cons(he:∀rest,starEach (x::rest) K.env=(false,eval x K.env)::starEach rest K.env) (h:SE cx K x f) (r:SA cx K xs fs):SA cx K (x::xs) (qJ f fs) where
 head _ _ q:=by cases q;exact he _
 plain pos:=by rw[he];exact r.plain pos
 w pos g w X Q E T:=wpAny_items_cons ((h g w X).step T fun a v w1 e1 r1 T=>(r.w pos g w1 (X.ev e1)).step T fun b us w2 e2 r2 T=>T.done e2.inv ⟨.cons (r1.ev e2) r2.r,congrArg Nat.succ r2.n⟩) (he xs)
 p hk hl pos g w X Q E T:=by
  induction hk with
  |nil=>injection hl
  |cons hk =>
   have e0:=X.toks (tk:=w.s.toks+1)
   exact evalPairs_cons (wpAny_Constant_str (wpAny_bind (Wp.step (w:=w.at _) (h g _ (X.ev e0)) (T.start e0) fun a v w1 e1 r1 T=>wpAny_bind (wpAny_standAt (wpAny_pure
    ((r.p hk (Nat.succ.inj hl) pos g w1 ((X.ev e0).ev e1)).step T fun b us w2 e2 r2 T=>T.done e2.inv ⟨⟨strKind_is _ _ _ _,rfl,r2.c⟩,.cons (r1.ev e2) r2.r,congrArg Nat.succ r2.n⟩))))))
theorem SE.list(r:SA cx K xs fs) (hl:xs.length<=100):SE cx K (.List xs pos) (kN CN fs):=fun g w X Q E T =>
 wpAny_List ((r.w pos g w X).step T fun as us w1 e1 r1 T=>T.fE e1.inv r1.r fun ds G' st' e2 r2 T =>
  have hn:us.length<=100:=Nat.le_trans (Nat.le_of_eq r1.n) hl
  ⟨Nat.le_trans hn (by decide),T.Bl (w:=⟨G',w1.as,st',w1.s⟩) e2.inv .push ny (r2.length▸Nat.le_trans hn (by decide)) r2⟩)
theorem SE.tup{k:Nat}(r:SA cx K xs fs) (hl:xs.length<=100):SE cx K (.Tuple xs k pos) (kN JB fs):=fun g w X Q E T =>
 wpAny_Tuple ((r.w pos g w X).step T fun as us w1 e1 r1 T=>T.fE e1.inv r1.r fun ds G' st' e2 r2 T =>
  have hn:us.length<=100:=Nat.le_trans (Nat.le_of_eq r1.n) hl
  ⟨Nat.le_trans hn (by decide),T.RL (w:=⟨G',w1.as,st',w1.s⟩) e2.inv .push Gi (r2.length▸Nat.le_trans hn (by decide)) r2⟩)
@[reducible] noncomputable def zh:Obj:={ cls:=.type "dict",data:=.dict #[] }
theorem iB.new{ob:Obj}(I:Inv cx w):iB cx (w.at { w.s with heap:=w.h.push ob }) w.n:=⟨I.ge,by show w.n<(w.h.push ob).objs.size;rw[Heap.size_push];exact Nat.lt_succ_self _,I.rel.mC (Nat.le_refl _)⟩
theorem dN.fresh{a:Addr}(x:dN cx l w) (h:w.n<=a):a∉ez l:=fun q=>Nat.not_lt.mpr h (x.at' a q).lt
theorem stored_new{K:Type} [DecidableEq K] {acc:List (K×Value)}{k:K}{v:Value}(h:k∉acc.map (·.1)):stored acc k v=acc++[(k,v)]:=by
 rw[stored,if_neg]
 rw[List.any_eq_true];rintro⟨kv,hkv,he⟩
 exact h (List.mem_map.mpr ⟨kv,hkv,of_decide_eq_true he⟩)
theorem qV{K:Type} [DecidableEq K]:∀(kvs acc:List (K×Value)),((acc++kvs).map (·.1)).Nodup->merged acc kvs=acc++kvs
 |[],acc,_=>(List.append_nil acc).symm
 |(k,v)::kvs,acc,h=>by
  have h1:k∉acc.map (·.1):=by
   rw[List.map_append,List.nodup_append] at h
   intro q
   exact h.2.2 k q k (.head _) rfl
  show merged (stored acc k v) kvs=_
  rw[stored_new h1,qV kvs _ (by rw[List.append_assoc];exact h),List.append_assoc]
  rfl
theorem Df{ts:List Tx}(h:ts.Nodup):(ts.map tx).Nodup:=List.Pairwise.map tx (fun _ _ n e=>n (kr e)) h
theorem qm{α β:Type}{a:List α}{b:List β}(h:a.length=b.length):(a.zip b).map (·.1)=a:=List.map_fst_zip (Nat.le_of_eq h)
theorem Ab{α β:Type}{a:List α}{b:List β}(h:a.length=b.length):(a.zip b).map (·.2)=b:=List.map_snd_zip (Nat.le_of_eq h.symm)
theorem lI{t:Tx}(h:tx t=fj):t=b9:=kr (h.trans (by decide))
theorem Sh.ofKeys{ep:Nat}{ts:List Tx}(hn:us.length=ts.length) (hd:ts.length=ds.length) (hz:ts.length<=lim) (hs:b9∉ts):Sh (.dS ((ts.map tx).zip us) ep) (.aK (ts.zip ds)) us ds:=by
 have h1:(ts.map tx).length=us.length:=by rw[List.length_map,hn]
 have z:=Sh.dS (ep:=ep) (kvs:=(ts.map tx).zip us) (l:=ts.zip ds) (by rw[List.length_zip];exact Nat.le_trans (Nat.min_le_left _ _) hz)
  (by rw[qm h1,show(fun p:Tx×PV=>tx p.1)=tx ∘ Prod.fst from rfl,<-List.map_map,qm hd])
  (by rw[qm h1];intro q;obtain⟨t,ht,he⟩:=List.mem_map.mp q;exact hs (lI he▸ht))
 rwa [Ab h1,Ab hd] at z
theorem SE.dict{ts:List Tx}{NI:List (Option Expr)}(r:SA cx K xs fs) (hk:KeysAre ts NI) (hl:ts.length=xs.length) (h0:xs≠[]) (hlen:xs.length<=15) (V7:ts.Nodup) (IK:b9∉ts):SE cx K (.Dict NI xs pos) (kN (CO ts) fs):=fun g w X Q E T=>by
 have UN:=hk.length.trans hl
 refine wpAny_Dict_walk (knd:=strKind cx.prog cx.w) hk.all UN (fun e=>h0 (List.length_eq_zero_iff.mp (by rw[<-UN,e];rfl))) (by omega) ?_
 have e0:iC cx K.l w (w.at { w.s with heap:=w.h.push zh }):=iR.push.ev X.inv
 have pv:iB cx (w.at { w.s with heap:=w.h.push zh }) w.n:=.new X.inv
 refine T.run e0 (r.p hk hl pos g _ (X.ev e0)) fun as ps w1 e1 r1 T=>T.ji e1.inv r1.r fun ds G' st' e2 r2 T=>bT.ite T fun hd T=>?_
 refine⟨_,r1.c,e1.keep _ pv.ge pv.lt pv.out (X.fr.fresh (Nat.le_refl _)) (fun q=>q) |> fun k=>?_,fun h' Gl IL=>?_⟩
 ·obtain⟨o,es,ep,q,z⟩:=Heap.DictOf.new (knd:=strKind cx.prog cx.w) w.h
  exact⟨o,es,ep,k o q,z⟩
 ·have hn:(ps.map (·.2)).length=ts.length:=(List.length_map ..).trans r1.n
  rw[qV _ [] (by rw[List.nil_append,qm ((List.length_map ..).trans hn.symm)];exact Df V7)] at Gl
  obtain⟨ep,Gl⟩:=Gl.dictAt
  have hd2:Is cx h' w.n (.dS ((ts.map tx).zip (ps.map (·.2))) ep):=Gl
  exact T.ok _ _ (Wd.push ⟨G',w1.as,st',w1.s⟩ (w.n,0) (.aK (ts.zip ds)) { w1.s with heap:=h',toks:=w1.s.toks+ps.length }) rfl
   (Inv.adopt (w:=⟨G',w1.as,st',w1.s⟩) e2.inv ((pv.ev e1).ev e2) IL rfl rfl rfl hd2 (let⟨_,_,e,_⟩:=Gl;⟨_,e⟩) (.ofKeys hn hd (Nat.le_trans (by omega:ts.length<=15) (by decide)) IK) r2 (((e0.trans e1).trans e2).weaken (fun _ _ q=>q.elim) (fun _ _=>.rfl) fun a q=>(X.fr.at' a q).lt) (Nat.le_refl _)) (.mk _ (gy e2.inv.rel.len.symm) rfl)
theorem SE.IM{nd:Node}{o:FO}(e:Cv nd=some d) (i:∀h,Is cx (Heap.push h zh) h.objs.size o) (q:Sh o d [] []):SE cx K (.Dict [] [] pos) fun _ st=>alloc st nd:=fun g w X Q E T =>
 wpAny_Dict_empty (T.J7 X.inv .push e (i _) ⟨_,Heap.get?_push_size _ rfl⟩ q .nil)
end
theorem size_update(h:Heap) (a:Addr) (f:Obj->Obj):(h.update a f).objs.size=h.objs.size:=by
 unfold Heap.update;split<;>simp
theorem oH{M:Model}{Γ:Ctx}{p:Pos}{t:Sem Fin}{fs:List Frame}{s s':Shared}{e:End}(h:Runs M Γ p t fs s e s'):s.heap.objs.size<=s'.heap.objs.size:=by
 induction h<;>(try simp only[Shared.setGen,size_update,Heap.size_push] at *)<;>omega
theorem zj{M:Model}{Γ:Ctx}{p:Pos}{g:Nat}{r:Resume}{s s':Shared}{res:GenResult}(h:Wakes M Γ p g r s res s'):s.heap.objs.size<=s'.heap.objs.size:=by
 unfold Wakes at h
 split at h
 ·exact h.elim
 ·split at h
  ·obtain⟨RT,cz,hr,_,_,rfl⟩:=h;exact(oH hr:(s.setGen g .running).heap.objs.size<=cz.heap.objs.size)
  ·rw[h.2];exact Nat.le_refl _
  ·rw[h.2];exact Nat.le_refl _
 ·obtain⟨RT,cz,hr,_,_,rfl⟩:=h;exact(oH hr:(s.setGen g .running).heap.objs.size<=cz.heap.objs.size)
 ·rw[h.2];exact Nat.le_refl _
 ·rw[h.2];exact Nat.le_refl _
theorem Gn{α:Type}(M:Model) (Γ:Ctx) (n:Nat) (t:Sem α):∀(Q:α->Pos->Shared->Prop) (E:Value->Pos->Shared->Prop) (p:Pos) (s:Shared),n<=s.heap.objs.size->Sem.wp M Γ t Q E p s ->
  Sem.wp M Γ t (fun a p' s'=>n<=s'.heap.objs.size/\Q a p' s') (fun e p' s'=>n<=s'.heap.objs.size/\E e p' s') p s:=by
 have pu:∀(h:Heap) (o:Obj),n<=h.objs.size->n<=(h.push o).objs.size:=fun h o q=>by rw[Heap.size_push];omega
 induction t with
 |pure a=>intro Q E p s hn h;exact⟨hn,h⟩
 |raise e=>intro Q E p s hn h;exact⟨hn,h⟩
 |rule _ k ih=>intro Q E p s hn h;exact ih () Q E p s hn h
 |«at» p' k ih=>intro Q E p s hn h;exact ih () Q E p' s hn h
 |load a _ k ih=>intro Q E p s hn h;obtain⟨o,ho,h⟩:=h;exact⟨o,ho,ih o Q E p s hn h⟩
 |update a _ f k ih=>intro Q E p s hn h;exact⟨h.1,ih () Q E p _ (by show n<=(s.heap.update a f).objs.size;rw[size_update];exact hn) h.2⟩
 |loadIfAlive a k ih=>intro Q E p s hn h;exact ih _ Q E p s hn h
 |point _ k ih=>intro Q E p s hn h;exact ih () Q E p s hn h
 |alloc o k ih=>intro Q E p s hn h;exact ih _ Q E p _ (pu _ _ hn) h
 |fresh k ih=>intro Q E p s hn h;exact ih _ Q E p _ hn h
 |ask k ih=>intro Q E p s hn h;exact ih _ Q E p s hn h
 |choose src m k ih=>intro Q E p s hn h;exact⟨h.1,ih _ Q E p _ hn h.2⟩
 |os q _ k ih=>intro Q E p s hn h;exact ih _ Q E p _ hn h
 |call c hd _ _ k ih=>intro Q E p s hn h;obtain⟨r,s',hr,h⟩:=h;exact⟨r,s',hr,ih r Q E p s' (Nat.le_trans hn (oH hr)) h⟩
 |handled own k ih=>intro Q E p s hn h;exact ih _ Q E p s hn h
 |genState g k ih=>intro Q E p s hn h;obtain⟨st,hs,h⟩:=h;exact⟨st,hs,ih _ Q E p s hn h⟩
 |newGen c k ih=>intro Q E p s hn h;exact ih _ Q E p _ hn h
 |resume g r _ k ih=>intro Q E p s hn h;obtain⟨res,s',hw,h⟩:=h;exact⟨res,s',hw,ih res Q E p s' (Nat.le_trans hn (zj hw)) h⟩
 |stack k ih=>intro Q E p s hn h;exact ih _ Q E p s hn h
 |thread k ih=>intro Q E p s hn h;exact ih _ Q E p s hn h
 |_=>intro Q E p s _ h;exact h
theorem eB{α:Type}{M:Model}{A:Around}{s:Shared}{t:Sem α}{Q:α->Shared->Prop}{E:Value->Shared->Prop}(h:wpAny M A t (fun a s'=>s.heap.objs.size<=s'.heap.objs.size->Q a s') (fun e s'=>s.heap.objs.size<=s'.heap.objs.size->E e s') s):wpAny M A t Q E s :=
 fun Γ p QM=>Sem.wp_mono M Γ t (fun _ _ _ x=>x.2 x.1) (fun _ _ _ x=>x.2 x.1) p s (Gn M Γ _ t _ _ p s (Nat.le_refl _) (h Γ p QM))
structure Cy(cx:Cx) (D:Frag):Prop where
 V8:D.In cx.h₀
 cls:∀a o,D.lookup a=some o->o.cls≠.none
 plain:∀c,plainGet D (cx.cA c) "__class__" = true
 RU:∀c,hasDictIn D (cx.cA c)=true
 Kd:∀c,findIn D (.ref (cx.cA c)) "__class__" = some (some (.builtin "object.__class__"))
 get:specialIn D (.builtin "object.__class__") "__get__" = some (some (.builtin "getset_descriptor.__get__"))
 takes:takesIn D (.builtin "object.__class__")=some true
 mro:∀c,mroIn D (cx.cA c) (.type "object")=some true
 CG:∀c,kitOne D (.ref (cx.cA c)) (.ref (cx.cA .aQ))=some c.CG
 RV:kitOne D (.type "NoneType") (.ref (cx.cA .aQ))=some false
 RW:kitOne D (.type "str") (.ref (cx.cA .aQ))=some false
 V9:∀c,kitOne D (.ref (cx.cA c)) (.type "str")=some false
 RX:kitOne D (.type "str") (.type "str")=some true
 NJ:kitOne D (.type "NoneType") (.type "str")=some false/\kitOne D (.type "tuple") (.type "str")=some false
 makes:∀c,makesIn D (cx.cA c)=true
 init:∀c,findIn D (.ref (cx.cA c)) "__init__" = some (some (.ref (cx.fA (fT c))))
 fn:∀c,typeIn D (.ref (cx.fA (fT c)))=some (.type "function")
section
variable {cx:Cx}{D:Frag}{nm:Nat->Option Str}{w w':Wd}{K:Kx}{g:Gm}{v u:Value}{a:AV}{A:Around}{l:List Env}{E:Value->Shared->Prop}{Q:Value->Shared->Prop}{d e:PV}{us:List Value}{ds:List PV}{s':Shared}{b:Bool}
theorem Cy.here(X:Cy cx D){h:Heap}(O:OldK cx.h₀ h):D.In h:=fun a o e=>O.get_of_cls (X.V8 a o e) (X.cls a o e)
noncomputable def Gp(cx:Cx) (A:Around) (w:Wd) (v t:Value) (b:Bool):Prop:=∀(E:Value->Shared->Prop) (Q:Value->Shared->Prop),(∀tk,Q (.bool b) { w.s with toks:=tk })->wpAny (model cx.prog cx.w) A (PySem.call (.builtin "isinstance") [v,t]) Q E w.s
theorem Bp{o:Obj}(nd:∀c,o.data≠.cls c):notCls o=true:=by
 unfold notCls
 split
 ·rename_i c' hc;exact absurd hc (nd c')
 ·rfl
theorem qW{a dx:Addr}{c:ie}{gs:List (Tx×Value)}{t:Value}(KB:Cy cx D) (I:Inv cx w) (e:kitOne D (.ref (cx.cA c)) t=some b):mz cx w.h a dx c gs->Gp cx A w (.ref a) t b
 |.mk m (.mk o e1 cc nd hd ne n ⟨od,ed,_⟩ _) _ _=>fun E Q h =>
  kia_one (kitx_own (KB.plain c) (KB.RU c) (KB.Kd c) KB.get KB.takes (KB.mro c)) (KB.here I.old) (show InstAt w.h a o (cx.cA c) (some od) from⟨e1,cc,Bp nd,by rw[hd];exact ed⟩) e (fun q=>by injection q) h
theorem tY(KB:Cy cx D) (I:Inv cx w) (r:Rep w.G v d) (q:yZ d=some b):Gp cx A w v (.ref (cx.cA .aQ)) b:=by
 cases r with
 |none=>(injection q with q;subst q);exact fun E Q h=>kia_one kitx_none (KB.here I.old) trivial KB.RV (fun q=>by injection q) h
 |str=>(injection q with q;subst q);exact fun E Q h=>kia_one kitx_str (KB.here I.old) trivial KB.RW (fun q=>by injection q) h
 |ref e z r =>
  induction z with
  |ins k=>(injection q with q;subst q);exact qW KB I (KB.CG _) (I.rel.fz _ _ e)
  |_=>injection q
 |_=>injection q
theorem Dg(KB:Cy cx D) (I:Inv cx w) (r:cQ w.G w.as v a) (q:oz w.st a=some b):Gp cx A w v (.ref (cx.cA .aQ)) b:=by
 induction a with
 |t d=>exact tY KB I r q
 |r i =>
  obtain⟨p,hp,rfl⟩:=r
  have q:yY w.st[i]? = some b:=q
  cases hn:w.st[i]? with
  |none=>rw[hn] at q;injection q
  |some nd =>
   rw[hn] at q
   cases I.rel.nodes i p nd hp hn with
   |fz r =>
    rename_i d
    cases d with
    |inst c fs=>exact tY KB I r q
    |_=>injection q
   |tr e=>cases nd<;>first| (cases q;done)|(injection e;done)
   |inst i r=>(injection q with q;subst q);exact qW KB I (KB.CG _) i
theorem Dh(KB:Cy cx D) (I:Inv cx w) (r:Rep w.G v d) (q:JC d=some b):Gp cx A w v (.type "str") b:=by
 cases r with
 |none=>(injection q with q;subst q);exact fun E Q h=>kia_one kitx_none (KB.here I.old) trivial KB.NJ.1 (fun q=>by injection q) h
 |str=>(injection q with q;subst q);exact fun E Q h=>kia_one kitx_str (KB.here I.old) trivial KB.RX (fun q=>by injection q) h
 |ref e z r =>
  induction z with
  |ins k=>(injection q with q;subst q);exact qW KB I (KB.V9 _) (I.rel.fz _ _ e)
  |tup z =>
   injection q with q;subst q
   obtain⟨⟨o,e1,e2,_⟩,_⟩:=I.rel.fz _ _ e
   exact fun E Q h=>kia_one kitx_tuple (KB.here I.old) ⟨o,e1,e2⟩ KB.NJ.2 (fun q=>by injection q) h
  |_=>injection q
 |_=>injection q
end
noncomputable def zk:Bi->Value
 |.len=>.builtin "len"
 |.max2=>.builtin "max"
 |.qD=>.builtin "max"
 |.abs=>.builtin "abs"
 |.chr=>.builtin "chr"
 |.list=>.type "list"
 |.dict=>.type "dict"
 |_=>.none
section
variable {cx:Cx}{D:Frag}{nm:Nat->Option Str}{w w':Wd}{K:Kx}{g:Gm}{v u:Value}{a:AV}{A:Around}{l:List Env}{E:Value->Shared->Prop}{Q:Value->Shared->Prop}{d e:PV}{us:List Value}{ds:List PV}{s':Shared}{b:Bool}{G:Addr->Lg}
inductive Ms(cx:Cx) (w:Wd):List Value->List PV->Prop
 |nil:Ms cx w [] []
 |cons {v:Value}{vs:List Value}{d:PV}{l:List PV}(x:Vw cx w v d) (r:Ms cx w vs l):Ms cx w (v::vs) (d::l)
inductive QN(cx:Cx) (w:Wd) (us:List Value):R (List PV)->Prop
 |none:QN cx w us none
 |ok (ds:List PV) (x:Ms cx w us ds):QN cx w us (Mine.ok ds w.st)
theorem tZ(S:eV cx w):∀{sS:List AV}{us:List Value},dB w.G w.as us sS->QN cx w us (uZ w.st sS)
 |[],_,.nil=>.ok [] .nil
 |a::sS,_,.cons x r=>by
  unfold uZ
  generalize vw w.st a=o,x.vw S=y
  induction y with
  |none=>exact .none
  |some y =>
   dsimp only
   generalize uZ w.st sS=q,tZ S r=z
   induction z with
   |none=>exact .none
   |ok ds z=>exact .ok _ (.cons y z)
theorem bT.uZ{γ δ:Type}{as:List AV}{f:List PV->aB->R γ}{Rel2:δ->γ->Wd->Prop}{Q:δ->Shared->Prop}{P:Prop}(I:Inv cx w) (r:dB w.G w.as us as) (T:bT cx l w ((Mine.uZ w.st as).bind f) Rel2 Q E)
  (k:∀ds,Ms cx w us ds->bT cx l w (f ds w.st) Rel2 Q E->P):P:=by
 have key:∀{q},QN cx w us q->bT cx l w (q.bind f) Rel2 Q E->P:=fun z T=>by
  induction z with
  |none=>exact T.no
  |ok ds z=>exact k ds z T
 exact key (tZ I.rel r) T
theorem bT.grown(T:bT cx l w (Mine.ok a w.st) cH Q E) (I:Inv cx w) (gr:iR w s') (r:cQ w.G w.as v a):Q v s':=T.ok _ _ (w.at s') rfl (gr.ev I) r
theorem gQ{α β γ:Type}{f:α->γ}{h:β->γ}{l:List α}{k:List β}(e:l.map f=k.map h):l.length=k.length:=by have:=congrArg List.length e;rwa [List.length_map,List.length_map] at this
theorem Ke(I:Inv cx w) (hs:sysModules<cx.cZ) (x:Vw cx w v d) (T:bT cx l w (m9 (A4 d) w.st) cH Q E):wpAny (model cx.prog cx.w) A (PySem.call (.builtin "len") [v]) Q E w.s:=by
 induction x with
 |ref ge i q r =>
  induction q with
  |lst z=>unfold lim at z;exact kun_lenL (Heap.PlainList.isList ⟨_,i⟩) (by rw[List.size_toArray,r.length]) (by omega) (T.same I (Rep.int _ _))
  |tup z=>unfold lim at z;exact kun_lenT i.tup (by rw[List.size_toArray,r.length]) (by omega) (T.same I (Rep.int _ _))
  |dS z k n=>unfold lim at z;exact call_len_dict (big hs ge) (Heap.DictAt.dictOf i) (by rw[gQ k];omega) (gQ k▸T.same I (Rep.int _ _))
  |dI z k=>unfold lim at z;exact call_len_dict (big hs ge) i (by rw[gQ k];omega) (gQ k▸T.same I (Rep.int _ _))
  |ins=>exact T.no
 |_=>exact T.no
inductive NK(us:List Value) (ns:List Int):Prop
 |mk (xs:List (Int×Tok)) (e:us.toArray=intItems xs.toArray) (q:xs.map (·.1)=ns)
theorem pH:∀{l:List PV}{us:List Value}{ns:List Int},bh G us l->intsOf l=some ns->NK us ns
 |[],_,_,.nil,e=>by(injection e with e;subst e);exact .mk [] (by simp[intItems]) rfl
 |d::l,_,ns,.cons x r,e=>by
  cases x with
  |int i t =>
   obtain⟨Zr,e',rfl⟩:=Option.map_eq_some_iff.mp e
   obtain⟨xs,h1,h2⟩:=pH r e'
   refine .mk ((i,t)::xs) ?_ (congrArg (i::·) h2)
   have h1:=congrArg Array.toList h1
   apply Array.toList_inj.mp
   simp[intItems] at h1 ⊢
   exact h1
  |ref _ q _=>cases q<;>injection e
  |_=>injection e
theorem jJ:∀{l:List Int}{a:Int},a<=l.foldl max a
 |[],_=>Int.le_refl _
 |b::_,a=>Int.le_trans (Int.le_max_left a b) jJ
theorem qX:∀{l:List Int}{a x:Int},x∈a::l->x<=l.foldl max a
 |_,_,_,.head _=>jJ
 |b::_,a,_,.tail _ (.head _)=>Int.le_trans (Int.le_max_right a b) jJ
 |_::l,_,_,.tail _ (.tail _ h)=>qX (l:=l) (.tail _ h)
theorem max_mem:∀{l:List Int}{a:Int},l.foldl max a∈a::l
 |[],_=>.head _
 |b::l,a=>by
  show l.foldl max (max a b)∈_
  rcases List.mem_cons.mp (max_mem (l:=l) (a:=max a b)) with q|q
  ·rw[q]
   rcases Int.le_total a b with h|h
   ·rw[Int.max_eq_right h];exact .tail _ (.head _)
   ·rw[Int.max_eq_left h];exact .head _
  ·exact .tail _ (.tail _ q)
theorem Kf{ns:List Int}{n m:Int}(h:m∈n::ns) (k:∀y∈n::ns,y<=m):m=ns.foldl max n:=Int.le_antisymm (qX h) (k _ max_mem)
theorem Gq(hh:A.handled=none) (I:Inv cx w) (x:Vw cx w v d) (T:bT cx l w (Mm .qD w.st d) cH Q E):wpAny (model cx.prog cx.w) A (PySem.call (.builtin "max") [v]) Q E w.s:=by
 induction x with
 |ref ge i q r =>
  induction q with
  |lst z =>
   rename_i vs k m0
   have T:bT cx l w (m9 ((intsOf k).bind maxOf) w.st) cH Q E:=T
   cases h:intsOf k with
   |none=>rw[h] at T;exact T.no
   |some ns =>
    rw[h] at T
    induction ns with
    |nil=>exact T.no
    |cons n ns =>
     obtain⟨xs,e1,e2⟩:=pH r h
     have i:=Heap.PlainList.isList ⟨_,i⟩
     rw[e1] at i
     have hlen:xs.toArray.size=(n::ns).length:=by rw[List.size_toArray,<-e2,List.length_map]
     refine eB (max_intList hh i (hlen▸Nat.succ_pos _) fun v h' tk hv hk hsz=>?_)
     obtain⟨t,rfl⟩:=intItems_at hv
     have hn:∀i,numAt xs.toArray i=(n::ns).getD i 0:=fun i=>by rw[<-e2];simp[numAt_eq]
     obtain⟨g1,g2⟩:=argBest_gt (numAt xs.toArray) (xs.toArray.size-1)
     generalize argBest (fun i j=>decide (numAt xs.toArray i>numAt xs.toArray j)) (xs.toArray.size-1)=j at *
     refine(fun hm:numAt xs.toArray j=ns.foldl max n=>?_) (Kf (by rw[hn];exact getD_mem (by rw[<-hlen];have:=Nat.succ_pos ns.length;rw[List.length_cons] at hlen;omega)) fun y hy=>?_)
     ·rw[hm];exact bT.grown T I ⟨hk,rfl,rfl,hsz⟩ (Rep.int _ _)
     ·obtain⟨i,hi,rfl⟩:=mem_getD hy
      rw[<-hn i];exact g2 i (by omega)
  |_=>exact T.no
 |_=>exact T.no
theorem Kg(I:Inv cx w) (x:Vw cx w v d) (T:bT cx l w (Mm .abs w.st d) cH Q E):wpAny (model cx.prog cx.w) A (PySem.call (.builtin "abs") [v]) Q E w.s:=by
 induction x with
 |int i t =>
  refine call_abs_int fun u tk=>?_
  have:(if i<0 then -i else i)=(i.natAbs:Int):=by split<;>omega
  rw[this]
  exact T.same I (Rep.int _ _)
 |ref _ _ q _=>induction q<;>exact T.no
 |_=>exact T.no
theorem Kh(I:Inv cx w) (x:Vw cx w v d) (T:bT cx l w (Mm .chr w.st d) cH Q E):wpAny (model cx.prog cx.w) A (PySem.call (.builtin "chr") [v]) Q E w.s:=by
 induction x with
 |int i t=>exact bT.ite T fun hc T=>PySem.P.chr_of_int (by simp;omega) (T.same I (Rep.str [i.toNat] _ (by simp[sX,lim];omega)))
 |ref _ _ q _=>induction q<;>exact T.no
 |_=>exact T.no
theorem Gr(I:Inv cx w) (x:Vw cx w v d) (T:bT cx l w (Mm .list w.st d) cH Q E):wpAny (model cx.prog cx.w) A (PySem.call (.type "list") [v]) Q E w.s:=by
 induction x with
 |ref ge i q r =>
  induction q with
  |lst z =>
   have ho:=i
   have z':=z
   unfold lim at z'
   exact eB (call_list_seq (hsz:=by rw[List.size_toArray,r.length];exact Nat.le_trans z (by decide)) _ (.inl rfl) ho rfl rfl fun h' c' hk hD hsz=>bT.Bl T I ⟨hk,rfl,rfl,hsz⟩ ⟨c',hD⟩ z r)
  |_=>exact T.no
 |_=>exact T.no
theorem Gu(I:Inv cx w) (hs:sysModules<cx.cZ) (x:Vw cx w v d) (T:bT cx l w (Mm .dict w.st d) cH Q E):wpAny (model cx.prog cx.w) A (PySem.call (.type "dict") [v]) Q E w.s:=by
 induction x with
 |ref ge i q r =>
  induction q with
  |dS z k n =>
   refine kt_call_dict (big hs ge) (Heap.DictAt.dictOf i) (by rw[gQ k];exact Nat.le_trans z (by decide)) fun h' hd IL=>?_
   have Di:∀b o,w.h.get? b=some o->h'.get? b=some o:=fun b o e=>by
    rw[IL.2 b (Nat.ne_of_lt (Heap.lt_size e))];exact Heap.get?_push_of_some _ e
   obtain⟨ep,hd⟩:=hd.dictAt
   exact bT.J7 (o:=.dS _ ep) T I ⟨Di,rfl,rfl,by rw[IL.1,Heap.size_push];exact Nat.le_succ _⟩ rfl hd (let⟨_,_,e,_⟩:=hd;⟨_,e⟩) (.dS z k n) r
  |_=>exact T.no
 |_=>exact T.no
theorem Gw(hh:A.handled=none) (I:Inv cx w) (x:Vw cx w v d) (y:Vw cx w u e) (T:bT cx l w (Iw w.st d e) cH Q E):wpAny (model cx.prog cx.w) A (PySem.call (.builtin "max") [v,u]) Q E w.s:=by
 induction x with
 |int i t =>
  induction y with
  |int j t' =>
   refine eB (max_two_ints hh fun h' tk hk hsz=>?_)
   have T:bT cx l w (Mine.ok (.t (.int (max i j))) w.st) cH Q E:=T
   by_cases hc:j>i
   ·rw[if_pos hc]
    rw[Int.max_eq_right (Int.le_of_lt hc)] at T
    exact T.grown I ⟨hk,rfl,rfl,hsz⟩ (Rep.int _ _)
   ·rw[if_neg hc]
    rw[Int.max_eq_left (Int.not_lt.mp hc)] at T
    exact T.grown I ⟨hk,rfl,rfl,hsz⟩ (Rep.int _ _)
  |ref _ _ q _=>induction q<;>exact T.no
  |_=>exact T.no
 |ref _ _ q _=>induction q<;>exact T.no
 |_=>exact T.no
theorem NL{b:Bi}(B:Base cx nm) (hh:A.handled=none) (I:Inv cx w) (x:Ms cx w us ds) (T:bT cx l w (xj b w.st ds) cH Q E):wpAny (model cx.prog cx.w) A (PySem.call (zk b) us) Q E w.s:=by
 cases x with
 |nil=>exact T.no
 |cons x r =>
  cases r with
  |nil =>
   cases b with
   |len=>exact Ke I B.sys x T
   |qD=>exact Gq hh I x T
   |abs=>exact Kg I x T
   |chr=>exact Kh I x T
   |list=>exact Gr I x T
   |dict=>exact Gu I B.sys x T
   |_=>exact T.no
  |cons y r =>
   cases r with
   |nil =>
    cases b with
    |max2=>exact Gw hh I x y T
    |_=>exact T.no
   |cons=>exact T.no
end
section
variable {cx:Cx}{D:Frag}{nm:Nat->Option Str}{w w':Wd}{K:Kx}{g:Gm}{v u:Value}{a:AV}{A:Around}{l:List Env}{E:Value->Shared->Prop}{Q:Value->Shared->Prop}{d e:PV}{us:List Value}{ds:List PV}{s':Shared}{b:Bool}{G:Addr->Lg}{x y:Expr}{xs:List Expr}{f:Kv}{fs:Gm->aB->R (List AV)}{p p2 pos RY:Pos}
theorem SA.call{f:Value}{s:Shared}(r:SA cx K (x::xs) fs) (hf:(∃id,f=.builtin id)\/∃T,f=.type T)
  (h:wpAny (model cx.prog cx.w) A (spliced (backTo pos (starEach (x::xs) K.env))) (fun us cz=>wpAny (model cx.prog cx.w) A (PySem.call f us) Q E cz) E s) :
  wpAny (model cx.prog cx.w) A (callWith pos f [] (backTo pos (starEach (x::xs) K.env)) []) Q E s:=by
 have hp:=r.plain pos
 rw[r.head x xs rfl] at h hp ⊢
 rcases hf with⟨id,rfl⟩|⟨T,rfl⟩
 ·exact Calls.callWith_builtin hp (evalArgs_plain h)
 ·exact PySem.callWith_type hp (evalArgs_plain h)
theorem RZ{β:Type}{P:aB->List AV->R β}{st:aB}:kN P (qJ f fun _ st=>ok [] st) g st=(f g st).bind fun a st=>P st [a]:=R.bind_assoc
theorem SE.bi{b:Bi}{n:Str}(B:Base cx nm) (hh:K.A.handled=none) (hb:∀st as,FZ b st as=(uZ st as).bind fun ds st=>xj b st ds) (hf:(∃id,zk b=.builtin id)\/∃T,zk b=.type T)
  (hx:bootBuiltins n=some (zk b)) (hu:n∈cy) (hk:K.env.kindOf n=some .globalImplicit) (hd:(n==("__debug__" : Str))=false) (r:SA cx K (x::xs) fs):SE cx K (.Call (.Name n p) (x::xs) [] pos) (kN (FZ b) fs):=fun g w X Q E T =>
 wpAny_Call_Name_kw (iL X B hk hd hu hx (r.call hf ((r.w pos g w X).step T fun as us w1 e1 r1 T=>bT.uZ e1.inv r1.r (hb _ _▸T) fun _ x T=>NL B hh e1.inv x T)))
theorem UO{t:Value}{n:Str}{f2:AV->aB->R AV}(B:Base cx nm) (X:At cx K g w) (hk:K.env.kindOf "isinstance" = some .globalImplicit) (he:∀rest,starEach (x::rest) K.env=(false,eval x K.env)::starEach rest K.env) (h:SE cx K x f)
  (T:bT cx K.l w ((f g w.st).bind f2) cH Q E) (ht:∀{w1:Wd}{Q1:Value->Shared->Prop},iC cx K.l w w1->Q1 t w1.s->wpAny (model cx.prog cx.w) K.A (eval (.Name n p2) K.env) Q1 E w1.s)
  (k:∀a v w1,iC cx K.l w w1->cH v a w1->bT cx K.l w1 (f2 a w1.st) cH Q E->wpAny (model cx.prog cx.w) K.A (PySem.call (.builtin "isinstance") [v,t]) Q E w1.s) :
  wpAny (model cx.prog cx.w) K.A (eval (.Call (.Name "isinstance" p) [x,.Name n p2] [] pos) K.env) Q E w.s:=by
 refine wpAny_Call_Name_kw (iL X B hk (by decide) (by decide) rfl ?_)
 have key:wpAny (model cx.prog cx.w) K.A (spliced (backTo pos (starEach [x,.Name n p2] K.env))) (fun us cz=>wpAny (model cx.prog cx.w) K.A (PySem.call (.builtin "isinstance") us) Q E cz) E w.s :=
  wpAny_items_cons ((h g w X).step T fun a v w1 e1 r1 T=>wpAny_items_cons (ht e1 (wpAny_items_nil (k a v w1 e1 r1 T))) rfl) (he _)
 have e1:starEach [x,.Name n p2] K.env=(false,eval x K.env)::starEach [.Name n p2] K.env:=he _
 rw[e1] at key ⊢
 exact Calls.callWith_builtin rfl (evalArgs_plain key)
theorem SE.mq(B:Base cx nm) (KB:Cy cx D) (hk:K.env.kindOf "isinstance" = some .globalImplicit) (NN:K.env.kindOf "Vector" = some .globalImplicit)
  (he:∀rest,starEach (x::rest) K.env=(false,eval x K.env)::starEach rest K.env) (h:SE cx K x f):SE cx K (.Call (.Name "isinstance" p) [x,.Name "Vector" p2] [] pos) (kN (FZ .mq) (qJ f fun _ st=>ok [] st)):=fun g w X Q E T =>
 UO (f2:=fun a st=>jI (oz st a) st) B X hk he h (by rw[RZ] at T;exact T) (fun e q=>gw (X.ev e) B NN (by decide) (B.cg .aQ) q)
  fun a v w1 e1 r1 T=>T.jI fun b q T=>Dg KB e1.inv r1 q E Q fun _=>T.same e1.inv (Rep.bool b)
theorem SE.isStr(B:Base cx nm) (KB:Cy cx D) (hk:K.env.kindOf "isinstance" = some .globalImplicit) (NN:K.env.kindOf "str" = some .globalImplicit)
  (he:∀rest,starEach (x::rest) K.env=(false,eval x K.env)::starEach rest K.env) (h:SE cx K x f):SE cx K (.Call (.Name "isinstance" p) [x,.Name "str" p2] [] pos) (kN (FZ .isStr) (qJ f fun _ st=>ok [] st)):=fun g w X Q E T =>
 UO (f2:=fun a st=>jI (Ni a) st) B X hk he h (by rw[RZ] at T;exact T) (fun e q=>iL (X.ev e) B NN (by decide) (by decide) rfl q)
  fun a v w1 e1 r1 T=>T.jI fun b q T2=>by
   induction a with
   |t d=>exact Dh KB e1.inv r1 q E Q fun _=>T2.same e1.inv (Rep.bool b)
   |r i=>injection q
theorem Bq{ys:Array Value}{n:Nat}{a:Int}(h1:ys.size=n) (h2:∀(j:Nat) (v:Value),ys[j]? = some v->∃t,v=.int (a+(j:Int)*1) t):bh G ys.toList ((List.range n).map fun(k:Nat)=>PV.int (a+(k:Int))):=by
 have key:∀(xs:List Value) (m:Nat),(∀(j:Nat) (v:Value),xs[j]? = some v->∃t,v=.int (a+((m+j:Nat):Int)) t)->bh G xs ((List.range' m xs.length).map fun(k:Nat)=>PV.int (a+(k:Int))):=by
  intro xs
  induction xs with
  |nil=>intro m _;exact .nil
  |cons x xs ih =>
   intro m hx
   obtain⟨t,rfl⟩:=hx 0 x rfl
   refine .cons (Rep.int _ _) (ih (m+1) fun j v e=>?_)
   obtain⟨t,rfl⟩:=hx (j+1) v e
   exact⟨t,by rw[show m+(j+1)=m+1+j by omega]⟩
 have:=key ys.toList 0 fun j v e=>by
  obtain⟨t,rfl⟩:=h2 j v (Array.getElem?_toList.symm.trans e)
  exact⟨t,by rw[Int.mul_one,Nat.zero_add]⟩
 rw[List.range_eq_range',<-h1]
 exact this
theorem rangeSize_one(a b:Int):Builtin.Range.rangeSize a b 1=((b-a).toNat:Int):=by
 show(if a<b then(b-a-1) / 1+1 else 0)=_
 by_cases h:a<b
 ·rw[if_pos h,Int.ediv_one,Int.sub_add_cancel,Int.toNat_of_nonneg (Int.sub_nonneg_of_le (Int.le_of_lt h))]
 ·rw[if_neg h,Int.toNat_of_nonpos (Int.sub_nonpos_of_le (Int.not_lt.mp h))];rfl
theorem t6{a b:Int}:(cI a b).length=(b-a).toNat:=by unfold cI;rw[List.length_map,List.length_range]
theorem list_range{n:Int}{t:Tok}{s1:Shared}(hh:A.handled=none) (I:Inv cx w) (h:-2000<=n/\n<=2000) (T:bT cx l w (alloc w.st (.lst (cI 0 n))) cH Q E)
  (hs:s1={ w.s with heap:=w.h.push { cls:=.type "range",data:=.fields #[.int 0 w.s.toks,.int n t,.int 1 (w.s.toks+1)] },toks:=w.s.toks+1+1 }):wpAny (model cx.prog cx.w) A (PySem.call (.type "list") [.ref w.n]) Q E s1:=by
 subst hs
 have hR:IsRange (w.h.push { cls:=.type "range",data:=.fields #[.int 0 w.s.toks,.int n t,.int 1 (w.s.toks+1)] }) w.n 0 n 1 w.s.toks t (w.s.toks+1):=Heap.get?_push_size _ rfl
 have g:=iR.push (w:=w) (ob:={ cls:=.type "range",data:=.fields #[.int 0 w.s.toks,.int n t,.int 1 (w.s.toks+1)] }) (tk:=w.s.toks+1+1)
 refine eB (call_list_range hh hR (small_one (by omega) (by omega) (by omega) (by omega)) (rangeSize_one 0 n) (by omega) fun h' tk R1 c' hk hD NO hz=>?_)
 exact(T.NG I g).Bl (us:=R1.toList) (g.ev (fr:=[]) (W:=ou) I).inv ⟨hk,rfl,rfl,hz⟩ ⟨c',hD⟩ (by rw[t6];unfold lim;omega) (Bq (a:=0) NO.1 NO.2)
theorem SE.dZ(B:Base cx nm) (hh:K.A.handled=none) (hk:K.env.kindOf "list" = some .globalImplicit) (NN:K.env.kindOf "range" = some .globalImplicit)
  (he:∀rest,starEach (x::rest) K.env=(false,eval x K.env)::starEach rest K.env) (h:SE cx K x f):SE cx K (.Call (.Name "list" p) [.Call (.Name "range" p2) [x] [] RY] [] pos) (kN (FZ .dZ) (qJ f fun _ st=>ok [] st)):=fun g w X Q E T=>by
 rw[RZ] at T
 refine wpAny_Call_Name_kw (iL X B hk (by decide) (by decide) rfl (PySem.callWith_type1 (?_:wpAny _ _ (eval _ _) _ _ _)))
 refine wpAny_Call_Name_kw (iL X B NN (by decide) (by decide) rfl ((SA.cons he h .nil).call (.inr ⟨_,rfl⟩) (wpAny_items_cons ((h g w X).step T fun a v w1 e1 r1 T=>wpAny_items_nil ?_) (he _))))
 induction a with
 |r i=>exact T.no
 |t d=>cases d with
  |int n=>cases r1 with
   |int _ t=>exact bT.ite T fun hn T=>call_range_1 (list_range hh e1.inv hn T rfl)
   |ref _ q _=>cases q
  |_=>exact T.no
end
end Mine
namespace Mine
open PySem PySem.W PySem.Calls PyProof.Rows PySem.SeqAt
section
variable {cx:Cx}{nm:Nat->Option Str}{w w':Wd}{K:Kx}{g:Gm}{v u:Value}{a b:AV}{A:Around}{l:List Env}{E:Value->Shared->Prop}{Q:Value->Shared->Prop}{d e d0:PV}{us:List Value}{ds xs ys:List PV}{s':Shared}{G:Addr->Lg}{i:Nat}{p:Pl}{nd nd':Node}{o:FO}
theorem Inv.upd{fr:List Addr}{W:Addr->Prop}(I:Inv cx w) (e1:w.as[i]? = some p) (e2:w.st[i]? = some nd) (o1:Cv nd=some d0) (o2:Cv nd'=some d) (hs:Heap.SameBut p.1 w.h s'.heap) (h1:s'.os=w.s.os) (h2:s'.gens=w.s.gens)
  (j:Is cx s'.heap p.1 o) (lv:∃o,s'.heap.get? p.1=some o) (q:Sh o d us ds) (r:bh w.G us ds) (hf:∀a∈fr,w.G a=.out):Ev cx fr W w ⟨w.G,w.as,w.st.set i nd',s'⟩:=by
 have o1:own nd p=[p.1]:=qS o1
 have fq:=I.rel.fq i p nd e1 e2 p.1 (o1▸.head _)
 have qN:∀a,w.G a=.out->a≠p.1:=fun a h q=>by rw[q,fq] at h;injection h
 have hp:cx.cZ<=p.1:=I.rel.lo _ (fq▸fun q=>by injection q)
 exact⟨⟨I.rel.set e1 e2 (fun a h=>o1.symm▸(qS o2)▸h) (fun a h _=>hs.2 a fun q=>h (o1.symm▸q▸.head _)) (fun a h=>List.mem_singleton.mp (o1▸h)▸lv) (.tr o2 j q r),
  I.old.step_same hp hs,h1.trans I.os,h2.trans I.gens,I.lim.sameBut hs (Nat.ne_of_lt (Nat.lt_of_lt_of_le I.low hp)),I.low,I.jb,Nat.le_trans I.ge (Nat.le_of_eq hs.1.symm),ku.step (w:=w) (w':=⟨w.G,w.as,w.st.set i nd',s'⟩) (hs.2 _ (Nat.ne_of_lt (Nat.lt_of_lt_of_le I.jb hp))) (fun _ _ q=>q) I.tab⟩,
  Nat.le_of_eq hs.1.symm,fun a _ _ h _ _ o e=>(hs.2 a (qN a h)).trans e,fun a h _=>nq.of_eq (hs.2 a (qN a (hf a h))),fun _ _ q=>q,fun _ _ q=>q,fun _ _ q=>q⟩
inductive NP(cx:Cx) (w:Wd) (i:Nat) (v:Value) (xs:List PV):Prop
 |mk (p:Pl) (us:List Value) (hp:w.as[i]? = some p) (q:v=.ref p.1) (z:xs.length<=lim) (h:w.h.PlainList p.1 us.toArray) (r:bh w.G us xs)
theorem xH(I:Inv cx w) (hn:w.st[i]? = some (.lst xs)):u7 w.as v i->NP cx w i v xs
 |.mk p hp q=>by
  cases I.rel.nodes i p _ hp hn with
  |tr e j q' r=>(injection e with e;subst e);cases q' with| lst z=>exact .mk p _ hp q z ⟨_,j⟩ r
theorem bT.Gx(T:bT cx l w (Mine.ok b (w.st.set i (.lst ys))) cH Q E) (I:Inv cx w) (fr:dN cx l w) (hp:w.as[i]? = some p) (hn:w.st[i]? = some (.lst xs)) (hs:Heap.SameBut p.1 w.h s'.heap) (qo:s'.heap.PlainList p.1 us.toArray) (r:bh w.G us ys) (z:ys.length<=lim)
  (rb:cQ w.G w.as v b) (h1:s'.os=w.s.os:=by rfl) (h2:s'.gens=w.s.gens:=by rfl):Q v s' :=
 let⟨n,e⟩:=qo;T.ok _ _ ⟨w.G,w.as,w.st.set i (.lst ys),s'⟩ rfl (I.upd (o:=.lst us n) hp hn rfl rfl hs h1 h2 e ⟨_,e⟩ (.lst z) r fun a h=>(fr.at' a h).out) rb
theorem lJ{h:Heap}{b:Addr}{items:Array Value}{n:Nat}(ho:h.get? b=some { cls:=.type "list",dict:=none,data:=.seq items n,slots:=#[] }) (f:Array Value->Array Value):(h.update b (Obj.mapSeq f)).PlainList b (f items):=⟨_,IsL.update ho f⟩
theorem Br(I:Inv cx w) (fr:dN cx l w) (rel:u7 w.as v i) (x:Rep w.G u d) (T:bT cx l w (FT w.st[i]? w.st i d) cH Q E):wpAny (model cx.prog cx.w) A (PySem.call (.builtin "list.append") [v,u]) Q E w.s:=by
 cases hn:w.st[i]? with
 |none=>rw[hn] at T;exact T.no
 |some nd =>
  rw[hn] at T
  induction nd with
  |lst xs =>
    refine bT.ite T fun hc T=>?_
    obtain⟨p,us,hp,rfl,z,h1,h2⟩:=xH I hn rel
    have e:=h2.length
    exact wpAny_list_append_plain (hsz:=by rw[List.size_toArray,e];exact Nat.le_trans z (by decide)) h1 fun h' qo hs=>T.Gx (us:=us++[u]) I fr hp hn hs (by rw[List.push_toArray] at qo;exact qo) (h2.append (.cons x .nil)) (by rw[List.length_append];unfold lim;exact Nat.le_trans (Nat.succ_le_of_lt hc) (by decide)) Rep.none
  |_=>exact T.no
theorem Bs(I:Inv cx w) (fr:dN cx l w) (rel:u7 w.as v i) (x:Rep w.G u d) (T:bT cx l w (M6 w.st[i]? w.st i d) cH Q E):wpAny (model cx.prog cx.w) A (PySem.call (.builtin "list.extend") [v,u]) Q E w.s:=by
 cases hn:w.st[i]? with
 |none=>rw[hn] at T;exact T.no
 |some nd =>
  rw[hn] at T
  induction nd with
  |lst xs =>
   cases x with
   |ref g q rb =>
    induction q with
    |lst zb =>
     refine bT.ite T fun hc T=>?_
     obtain⟨p,us',hp,rfl,z,h1,h2⟩:=xH I hn rel
     obtain⟨n,ho⟩:=id h1
     have Gb:=I.rel.fz _ _ g
     rename_i ws _ n2 _
     have e1:=h2.length
     have e2:=rb.length
     refine call_meets PySem.F.slot_list_extend ⟨_,ho,rfl⟩ PySem.F.entry_list_extend (PySem.F.args_list_extend_2 _ _)
      (PySem.AutoSeq1.list_extend_list_list_0 p.1 us'.toArray n _ ws.toArray n2 (by simp[Builtin.List.listTooLong,sizeLine];intros;omega) (by simp[sizeLine];omega) (by simp[sizeLine];omega)) ⟨ho,Gb,?_⟩
     have qo:=lJ ho (fun x=>x++ws.toArray)
     rw[List.append_toArray] at qo
     exact T.Gx I fr hp hn (Heap.SameBut.update ..) qo (h2.append rb) (by rw[List.length_append];unfold lim;omega) Rep.none
    |_=>exact T.no
   |_=>exact T.no
  |_=>exact T.no
theorem Kl(I:Inv cx w) (fr:dN cx l w) (rel:u7 w.as v i) (T:bT cx l w (M7 w.st[i]? w.st i) cH Q E):wpAny (model cx.prog cx.w) A (PySem.call (.builtin "list.pop") [v]) Q E w.s:=by
 cases hn:w.st[i]? with
 |none=>rw[hn] at T;exact T.no
 |some nd =>
  rw[hn] at T
  induction nd with
  |lst xs =>
   have T:bT cx l w (sV xs.getLast? (w.st.set i (.lst xs.dropLast))) cH Q E:=T
   cases hl:xs.getLast? with
   |none=>rw[hl] at T;exact T.no
   |some d =>
    rw[hl] at T
    obtain⟨p,us',hp,rfl,z,h1,h2⟩:=xH I hn rel
    obtain⟨n,ho⟩:=id h1
    have e1:=h2.length
    unfold lim at z
    obtain⟨u,hu,ru⟩:=h2.get (i:=xs.length-1) (by rw[<-List.getLast?_eq_getElem?];exact hl)
    refine call_meets PySem.F.slot_list_pop ⟨_,ho,rfl⟩ PySem.F.entry_list_pop (PySem.F.args_list_pop_1 _) (PySem.MeetsSeq.list_pop_last p.1 us'.toArray n u (by simp[e1,hu]) (by simp[sizeLine];omega)) ⟨ho,?_⟩
    have qo:=lJ ho (fun xs=>xs.eraseIdxIfInBounds (us'.toArray.size-1))
    have ed:us'.toArray.eraseIdxIfInBounds (us'.toArray.size-1)=us'.dropLast.toArray:=Array.toList_inj.mp (by simp[List.eraseIdx_length_sub_one])
    rw[ed] at qo
    exact bT.Gx T I fr hp hn (Heap.SameBut.update ..) qo (by rw[List.dropLast_eq_take,List.dropLast_eq_take,e1];exact h2.take _) (by rw[List.length_dropLast];unfold lim;omega) ru
  |_=>exact T.no
theorem bh.reverse{vs:List Value}{l:List PV}(r:bh G vs l):bh G vs.reverse l.reverse:=by
 induction r using bh.ind with
 |h0=>exact .nil
 |h1 v vs d l x r ih=>rw[List.reverse_cons,List.reverse_cons];exact ih.append (.cons x .nil)
theorem zl(I:Inv cx w) (fr:dN cx l w) (rel:u7 w.as v i) (T:bT cx l w (M8 w.st[i]? w.st i) cH Q E):wpAny (model cx.prog cx.w) A (PySem.call (.builtin "list.reverse") [v]) Q E w.s:=by
 cases hn:w.st[i]? with
 |none=>rw[hn] at T;exact T.no
 |some nd =>
  rw[hn] at T
  induction nd with
  |lst xs =>
   obtain⟨p,us',hp,rfl,z,h1,h2⟩:=xH I hn rel
   obtain⟨n,ho⟩:=id h1
   have e1:=h2.length
   have z':=z
   unfold lim at z'
   refine call_meets PySem.F.slot_list_reverse ⟨_,ho,rfl⟩ PySem.F.entry_list_reverse (PySem.F.args_list_reverse_1 _) (PySem.AutoSeq1.list_reverse_list_0 p.1 us'.toArray n (by simp[sizeLine];omega)) ⟨ho,?_⟩
   have qo:=lJ ho (fun x=>x.reverse)
   rw[List.reverse_toArray] at qo
   exact bT.Gx T I fr hp hn (Heap.SameBut.update ..) qo h2.reverse (by rw[List.length_reverse];exact z) Rep.none
  |_=>exact T.no
end
noncomputable def Ac:Mt->Str
 |.append=>"append"
 |.extend=>"extend"
 |.pop=>"pop"
 |.reverse=>"reverse"
 |.index=>"index"
 |.xe=>"get"
 |.qE=>"get"
noncomputable def R2(k:MK):String:=match k with
 |.tup=>"tuple.index"
 |_=>"list.index"
noncomputable def IP(m:Mt) (k:MK):String:=match m with
 |.append=>"list.append"
 |.extend=>"list.extend"
 |.pop=>"list.pop"
 |.reverse=>"list.reverse"
 |.index=>R2 k
 |.xe=>"dict.get"
 |.qE=>"dict.get"
theorem xJ(l:Addr) (items:Array Value) (x:Value) (e:Value->Bool) (he:∀y,y∈items->MeetsSeq.EqGives y x (e y)) (j:Nat) (hj:j<items.size)
  (hit:e items[j]=true) (Wa:∀m (hm:m<items.size),m<j->e items[m]=false) :
  Meets (Builtin.«tuple.index» ⟨[.ref l,x],[]⟩) (fun _ R s=>IsTup s.heap l items/\R (.ok (.ret (.int j s.toks))) { s with toks:=s.toks+1 }):=by
 intro prog w A R s hs
 have NQ:=s;have hp:=NQ.1;have g:=NQ.2;have d:=NQ.3;have tk:=NQ.4;have os:=NQ.5
 have JX:=hs;have ht:=JX.1;have hq:=JX.2
 obtain⟨o,ho,hc,n,hd⟩:=id ht
 unfold Builtin.«tuple.index»
 wp_walk using ho
 rw[hd]
 refine wpAny_pure (wpAny_pure ?_)
 dsimp only
 refine wpAny_bind (wpAny_pure (wpAny_bind (wpAny_pure (wpAny_bind ?_))))
 rw[Std.Legacy.Range.forIn_eq_forIn_range']
 simp only[Std.Legacy.Range.size,Nat.sub_zero,Nat.min_self,Nat.add_sub_cancel,Nat.div_one]
 have key:∀(k i:Nat) (Q:Option PySem.Fin×Unit->Shared->Prop) (E:Value->Shared->Prop) (s:Shared),i+k=items.size->i<=j->Q (some (.done (.ret (.int j s.toks))),()) { s with toks:=s.toks+1 } ->
   wpAny (model prog w) A.in1 (forIn (List.range' i k) ((none:Option PySem.Fin),()) fun(i:Nat) _ =>
    match items[i]? with
    |some y=>do
     if <-eqBool y x then do
       let r <-retInt (i:Int)
       pure (ForInStep.done (some r,()))
      else pure (ForInStep.yield (none,()))
    |_=>pure (ForInStep.yield (none,()))) Q E s:=by
  intro k
  induction k with
  |zero=>intro i Q E s h1 h2 _;exact absurd hj (by omega)
  |succ k ih =>
   intro i Q E s h1 h2 hQ
   have qU:i<items.size:=by omega
   rw[List.range'_succ,List.forIn_cons]
   have hi:items[i]? = some items[i]:=by simp[qU]
   simp only[hi]
   refine wpAny_bind (wpAny_bind (he _ (Array.getElem_mem qU) prog w _ _ _ _ ?_))
   by_cases Wb:i=j
   ·subst Wb
    rw[hit]
    simp only[if_true]
    exact wpAny_bind (wpAny_bind (wpAny_mkInt (wpAny_pure (wpAny_pure (wpAny_pure hQ)))))
   ·rw[Wa i qU (by omega)]
    simp only[Bool.false_eq_true,if_false]
    exact wpAny_pure (ih (i+1) Q E s (by omega) (by omega) hQ)
 refine key items.size 0 _ _ _ (by omega) (by omega) ?_
 exact wpAny_pure hq
section
variable {cx:Cx}{nm:Nat->Option Str}{w w':Wd}{K:Kx}{g:Gm}{v u:Value}{a b:AV}{A:Around}{l:List Env}{E:Value->Shared->Prop}{Q:Value->Shared->Prop}{d e d0:PV}{us:List Value}{ds xs ys:List PV}{s':Shared}{G:Addr->Lg}{i:Nat}{p:Pl}{nd nd':Node}{o:FO}{y:Tx}
inductive R3(us:List Value) (y:Tx) (k n:Nat):Prop
 |mk (j:Nat) (e:n=k+j) (h:j<us.length) (hit:Cw (.str y) us[j]=true) (no:∀m (hm:m<us.length),m<j->Cw (.str y) us[m]=false)
theorem Gy:∀{d:PV},sN d=true->fQ d=true
 |.none,_=>rfl
 |.str _,_=>rfl
theorem Dj{us:List Value}{xs:List PV}(r:bh G us xs):∀{k n:Nat},ng xs=true->idxOf (.str y) xs k=some n->R3 us y k n:=by
 induction r using bh.ind with
 |h0=>exact fun _ q=>nomatch q
 |h1 u us d xs x r ih =>
  intro k n hs q
  obtain⟨h1,h2⟩:=Bool.and_eq_true_iff.mp hs
  have e:Cw (.str y) u=ja d (.str y):=congrArg (ja · _) (zf (Gy h1) x)
  unfold idxOf at q
  cases h:ja d (.str y) with
  |true =>
   rw[h] at q e
   injection q with q;subst q
   exact .mk 0 rfl (Nat.succ_pos _) e fun m _ z=>absurd z (Nat.not_lt_zero _)
  |false =>
   rw[h] at q e
   obtain⟨j,e1,h3,hit,no⟩:=ih h2 q
   exact .mk (j+1) (by omega) (Nat.succ_lt_succ h3) hit fun m hm z=>by
    induction m with
    |zero=>exact e
    |succ m=>exact no m (Nat.lt_of_succ_lt_succ hm) (Nat.lt_of_succ_lt_succ z)
theorem Gz{t:Tok}(r:Rep G u d) (hs:sN d=true):MeetsSeq.EqGives u (.str (tx y) t) (Cw (.str y) u):=by
 cases r with
 |none=>exact fun prog w A E s Q hq=>(EqAt.none_str (A:=A) (s:=s) (tx y) t) prog w E Q hq
 |str s t' _ =>
  have:Cw (.str y) (.str (tx s) t')=((tx s).cps.toList==(tx y).cps.toList):=by
   show decide (s=y)=(s==y)
   exact Bool.eq_iff_iff.mpr (by rw[decide_eq_true_iff,beq_iff_eq])
  rw[this]
  exact SeqRoads2.EqGives.str _ _ _ _
 |ref _ q _=>cases q<;>injection hs
 |_=>injection hs
theorem pJ{t:Tok}{us:List Value}{xs:List PV}(r:bh G us xs):ng xs=true->∀z∈us,MeetsSeq.EqGives z (.str (tx y) t) (Cw (.str y) z):=by
 induction r using bh.ind with
 |h0=>exact fun _ _ q=>nomatch q
 |h1 u us d xs x r ih =>
  intro hs z hz
  obtain⟨h1,h2⟩:=Bool.and_eq_true_iff.mp hs
  rcases List.mem_cons.mp hz with rfl|hz
  ·exact Gz x h1
  ·exact ih h2 z hz
theorem xK{o:Option Nat}{c:Int}(h:Option.map (fun n=>n) (o >>= fun a=>pure (a:Int))=some c):∃n,o=some n/\(n:Int)=c:=by
 induction o with
 |none=>injection h
 |some n=>(injection h with h;subst h);exact⟨n,rfl,rfl⟩
theorem Dk{k:MK}{o:Option PV}(I:Inv cx w) (y:vf cx w v o) (x:Vw cx w u e) (T:bT cx l w (M9 k o e w.st) cH Q E):wpAny (model cx.prog cx.w) A (PySem.call (.builtin (IP .index k)) [v,u]) Q E w.s:=by
 induction y with
 |none=>exact T.no
 |some y =>
  induction y with
  |ref ge i q r =>
   induction q with
   |lst z =>
    induction k with
    |list =>
     rename_i us xs m0
     have T:bT cx l w (FU e xs w.st) cH Q E:=T
     induction x with
     |str t tk =>
       refine bT.ND T fun hs T=>T.m9 fun c q T=>?_
       obtain⟨n,hn,rfl⟩:=xK q
       obtain⟨j,e1,h1,hit,no⟩:=Dj r hs hn
       obtain rfl:n=j:=e1.trans (Nat.zero_add _)
       have hl:=r.length
       unfold lim at z
       have ho:=i
       exact call_meets PySem.F.slot_list_index ⟨_,ho,rfl⟩ PySem.F.entry_list_index (PySem.F.args_list_index_2 _ _)
        (MeetsSeq.list_index _ us.toArray _ (.str (tx t) tk) (Cw (.str t)) (fun z hz=>pJ r hs z (List.mem_toArray.mp hz)) n h1 (by omega) hit no) ⟨ho,T.same I (Rep.int _ _)⟩
     |ref _ _ q _=>induction q<;>exact T.no
     |_=>exact T.no
    |_=>exact T.no
   |tup z =>
    induction k with
    |tup =>
     rename_i us xs
     have T:bT cx l w (FU e xs w.st) cH Q E:=T
     induction x with
     |str t tk =>
       refine bT.ND T fun hs T=>T.m9 fun c q T=>?_
       obtain⟨n,hn,rfl⟩:=xK q
       obtain⟨j,e1,h1,hit,no⟩:=Dj r hs hn
       obtain rfl:n=j:=e1.trans (Nat.zero_add _)
       exact call_meets PySem.F.slot_tuple_index i.tup.typeIs PySem.F.entry_tuple_index (PySem.F.args_tuple_index_2 _ _)
        (xJ _ us.toArray (.str (tx t) tk) (Cw (.str t)) (fun z hz=>pJ r hs z (List.mem_toArray.mp hz)) n h1 hit no) ⟨i.tup,T.same I (Rep.int _ _)⟩
     |ref _ _ q _=>induction q<;>exact T.no
     |_=>exact T.no
    |_=>exact T.no
   |_=>exact T.no
  |_=>exact T.no
theorem Ad{c:PV}{x:Value}{o:Option Value}{q:Option PV}(I:Inv cx w) (vl:Val w.G o q) (rx:Rep w.G x c) (T:bT cx l w (Mine.ok (.t (q.getD c)) w.st) cH Q E){tk:Nat}:Q (o.getD x) { w.s with toks:=tk }:=by
 induction vl with
 |none e=>rw[e];exact T.same I rx
 |some y e ry=>rw[e];exact T.same I ry
inductive R4(cx:Cx) (w:Wd) (q:Option PV) (c:PV) (v u:Value) (r:R AV):Prop
 |no (h:r=none)
 |ok (a:Addr) (kvs:List (Str×Value)) (t:Tx) (tk:Tok) (o:Option PV) (h1:v=.ref a) (h2:u=.str (tx t) tk) (ge:cx.cZ<=a) (i:w.h.DictOf (strKind cx.prog cx.w) a kvs) (vl:Val w.G (valueAt kvs (tx t)) o) (e:r=Mine.ok (.t (o.getD c)) w.st)
theorem Dl{c:PV}{q:Option PV}(y:vf cx w v q) (z:Vw cx w u e):R4 cx w q c v u (CL q e c w.st):=by
 induction y with
 |none=>exact .no rfl
 |some y =>
  induction y with
  |ref ge i q r =>
   induction q with
   |dS zz k n =>
    induction z with
    |str t tk=>exact .ok _ _ t tk _ rfl rfl ge (Heap.DictAt.dictOf i) (lG k r) rfl
    |ref _ _ q _=>induction q<;>exact .no rfl
    |_=>exact .no rfl
   |_=>exact .no rfl
  |_=>exact .no rfl
theorem GA{q:Option PV}(hs:sysModules<cx.cZ) (I:Inv cx w) (y:vf cx w v q) (z:Vw cx w u e) (T:bT cx l w (CL q e .none w.st) cH Q E):wpAny (model cx.prog cx.w) A (PySem.call (.builtin "dict.get") [v,u]) Q E w.s:=by
 induction Dl (c:=.none) y z with
 |no h=>rw[h] at T;exact T.no
 |ok a kvs t tk o h1 h2 ge i vl e =>
  subst h1 h2
  exact call_meetsIn PySem.F.slot_dict_get (Heap.DictOf.typeIs i) PySem.F.entry_dict_get (PySem.F.args_dict_get_2 _ _) (meets_dict_get (strKind cx.prog cx.w) a (k:=tx t) (strKind_is _ _ _ _) (big hs ge)) ⟨valueAt kvs,Heap.DictOf.mapOf i,Ad I vl .none (e▸T)⟩
theorem GB{c:PV}{x:Value}{q:Option PV}(hs:sysModules<cx.cZ) (I:Inv cx w) (y:vf cx w v q) (z:Vw cx w u e) (rx:Rep w.G x c) (T:bT cx l w (CL q e c w.st) cH Q E):wpAny (model cx.prog cx.w) A (PySem.call (.builtin "dict.get") [v,u,x]) Q E w.s:=by
 induction Dl (c:=c) y z with
 |no h=>rw[h] at T;exact T.no
 |ok a kvs t tk o h1 h2 ge i vl e =>
  subst h1 h2
  exact call_meetsIn PySem.F.slot_dict_get (Heap.DictOf.typeIs i) PySem.F.entry_dict_get (PySem.F.args_dict_get_3 _ _ _) (meets_dict_get_default (strKind cx.prog cx.w) a (k:=tx t) (strKind_is _ _ _ _) (big hs ge) x) ⟨valueAt kvs,Heap.DictOf.mapOf i,Ad I vl rx (e▸T)⟩
end
end Mine
namespace Mine
open PySem PySem.W PySem.Calls PyProof.Rows
noncomputable def mU:Expr->Bool
 |.Call f l _ _=>(match l with| []=>(match f with| .Name _ _=>false|_=>true)|_::_=>true)
 |_=>true
theorem gz{o:Expr}{name:Str}{env:Env}{whole:Sem Value}(h:mU o=true):attributeBase o name env whole=whole:=by
 unfold attributeBase
 split
 ·injection h
 ·rfl
section
variable {cx:Cx}{nm:Nat->Option Str}{w w':Wd}{K:Kx}{g:Gm}{v u:Value}{a b:AV}{A:Around}{l:List Env}{E:Value->Shared->Prop}{Q:Value->Shared->Prop}{d e d0:PV}{us:List Value}{ds xs ys:List PV}{m:Mt}{k:MK}{x:Expr}{f:Kv}{fs:Gm->aB->R (List AV)}
inductive MethAt(w:Wd) (m:Mt) (k:MK) (v:Value):Prop
 |mk (T:String) (pa:PlainAttrs T) (slot:Slot T (Ac m) (IP m k)) (ty:typeOf (.builtin (IP m k))=pure (.type "method_descriptor")) (hT:w.s.TypeIs v T) (hd:∀a,v=.ref a->∃ob,w.h.get? a=some ob/\ob.dict=none)
theorem NR(hT:w.s.TypeIs v "list") (hd:∀a,v=.ref a->∃ob,w.h.get? a=some ob/\ob.dict=none) (q:UC m=some k):MethAt w m k v:=by
 induction m with
 |append=>(injection q with q;subst q);exact .mk _ _root_.PySem.F.plainAttrs_list _root_.PySem.F.slot_list_append _root_.PySem.F.type_list_append hT hd
 |extend=>(injection q with q;subst q);exact .mk _ _root_.PySem.F.plainAttrs_list _root_.PySem.F.slot_list_extend _root_.PySem.F.type_list_extend hT hd
 |pop=>(injection q with q;subst q);exact .mk _ _root_.PySem.F.plainAttrs_list _root_.PySem.F.slot_list_pop _root_.PySem.F.type_list_pop hT hd
 |reverse=>(injection q with q;subst q);exact .mk _ _root_.PySem.F.plainAttrs_list _root_.PySem.F.slot_list_reverse _root_.PySem.F.type_list_reverse hT hd
 |index=>(injection q with q;subst q);exact .mk _ _root_.PySem.F.plainAttrs_list _root_.PySem.F.slot_list_index _root_.PySem.F.type_list_index hT hd
 |_=>injection q
theorem nA{a:Addr}{ob:Obj}(e:w.h.get? a=some ob) (d:ob.dict=none):∀c,Value.ref a=.ref c->∃ob,w.h.get? c=some ob/\ob.dict=none:=fun _ q=>by(injection q with q;subst q);exact⟨ob,e,d⟩
theorem GC{o:Option PV}(y:vf cx w v o) (q:mQ m o=some k):MethAt w m k v:=by
 induction y with
 |none=>injection q
 |some y =>
  induction y with
  |ref ge i z r =>
   induction z with
   |lst z=>have ho:=i;exact NR ⟨_,ho,rfl⟩ (nA ho rfl) q
   |tup z =>
    obtain⟨⟨ob,ho,h2⟩,hd⟩:=i
    induction m with
    |index=>(injection q with q;subst q);exact .mk _ _root_.PySem.F.plainAttrs_tuple _root_.PySem.F.slot_tuple_index _root_.PySem.F.type_tuple_index (IsTup.typeIs ⟨ob,ho,h2⟩) (nA ho (hd ob ho))
    |_=>injection q
   |dS z k' n =>
    have hT:=Heap.DictOf.typeIs (Heap.DictAt.dictOf i)
    obtain⟨ob,es,ho,ex,_⟩:=i
    induction m with
    |xe=>(injection q with q;subst q);exact .mk _ _root_.PySem.F.plainAttrs_dict _root_.PySem.F.slot_dict_get _root_.PySem.F.type_dict_get hT (nA ho ex.2.1)
    |qE=>(injection q with q;subst q);exact .mk _ _root_.PySem.F.plainAttrs_dict _root_.PySem.F.slot_dict_get _root_.PySem.F.type_dict_get hT (nA ho ex.2.1)
    |_=>injection q
   |_=>injection q
  |_=>injection q
theorem NS(I:Inv cx w) (fr:dN cx l w) (rel:cQ w.G w.as v a) (T:bT cx l w (mu m k w.st a []) cH Q E):wpAny (model cx.prog cx.w) A (PySem.call (.builtin (IP m k)) [v]) Q E w.s:=by
 induction m with
 |pop=>induction a with
  |t=>exact T.no
  |r i=>exact Kl I fr rel T
 |reverse=>induction a with
  |t=>exact T.no
  |r i=>exact zl I fr rel T
 |_=>exact T.no
theorem NT(B:Base cx nm) (I:Inv cx w) (fr:dN cx l w) (rel:cQ w.G w.as v a) (x:Rep w.G u d) (T:bT cx l w (mu m k w.st a [d]) cH Q E):wpAny (model cx.prog cx.w) A (PySem.call (.builtin (IP m k)) [v,u]) Q E w.s:=by
 induction m with
 |append=>induction a with
  |t=>exact T.no
  |r i=>exact Br I fr rel x T
 |extend=>induction a with
  |t=>exact T.no
  |r i=>exact Bs I fr rel x T
 |index=>exact Dk I (rel.vw I.rel) (x.vw I.rel) T
 |xe=>exact GA B.sys I (rel.vw I.rel) (x.vw I.rel) T
 |_=>exact T.no
theorem GD(B:Base cx nm) (I:Inv cx w) (fr:dN cx l w) (rel:cQ w.G w.as v a) (r:bh w.G us ds) (T:bT cx l w (mu m k w.st a ds) cH Q E):wpAny (model cx.prog cx.w) A (PySem.call (.builtin (IP m k)) (v::us)) Q E w.s:=by
 cases r with
 |nil=>exact NS I fr rel T
 |cons x r =>
  cases r with
  |nil=>exact NT B I fr rel x T
  |cons y r =>
   cases r with
   |nil =>
    induction m with
    |qE=>exact GB B.sys I (rel.vw I.rel) (x.vw I.rel) y T
    |_=>exact T.no
   |cons=>exact T.no
theorem SE.b4{apos pos:Pos}{xs:List Expr}(B:Base cx nm) (hb:mU x=true) (hl:(apos.endLine==pos.line)=true) (hlen:xs.length<10) (h:SE cx K x f) (r:SA cx K xs fs):SE cx K (.Call (.Attribute x (Ac m) apos) xs [] pos) (IA m f fs):=fun g w X Q E T=>by
 refine wpAny_Call_method_lateS (gz hb) (by rw[<-List.not_any_eq_all_not,r.plain];exact decide_eq_true (by show xs.length+0+0<30;omega)) hl ?_
 refine(h g w X).step T fun a v w1 e1 r1 T=>?_
 have key:∀{o},xm m w1.st a=o->bT cx K.l w1 (u0 o m a fs g w1.st) cH Q E->MethodOnS cx.prog cx.w K.A E (Ac m) v pos (backTo pos (starEach xs K.env)) Q w1.s:=fun{o} q T=>by
  induction o with
  |none=>exact T.no
  |some k =>
   obtain⟨T',pa,slot,hty,hT,hd⟩:=GC (r1.vw e1.inv.rel) q
   refine⟨T',IP m k,pa,slot,hty,hT,hd,?_⟩
   have key:wpAny (model cx.prog cx.w) K.A (spliced (backTo pos (starEach xs K.env))) (fun us cz=>wpAny (model cx.prog cx.w) K.A (PySem.call (.builtin (IP m k)) (v::us)) Q E cz) E w1.s :=
    (r.w pos g w1 (X.ev e1)).step T fun as us w2 e2 r2 T=>T.fE e2.inv r2.r fun ds G' st' e3 r3 T =>
     GD (w:=⟨G',w2.as,st',w2.s⟩) B e3.inv ((X.fr.ev (e1.trans e2)).ev e3) ((r1.ev e2).ev e3) r3 T
   have hp:=r.plain pos
   induction xs with
   |nil=>exact callWith_method0 fun Γ p QM=>key Γ p QM Γ p QM
   |cons y ys =>
    rw[r.head y ys rfl] at key hp ⊢
    exact Calls.callWith_builtin hp (evalArgs_plain key)
 exact key rfl T
end
theorem iM(a b:Tx):tx (a++b)=tx a++tx b:=by
 show(⟨(a++b).toArray⟩ : Str)=⟨a.toArray++b.toArray⟩
 rw[List.append_toArray]
theorem vh(a:Tx):(tx a).length=a.length:=List.size_toArray ..
theorem UP{p x q:Tx}:Str.empty++tx p++tx x++tx q=tx (p++x++q):=by
 show tx []++tx p++tx x++tx q=_
 rw[<-iM,<-iM,<-iM,List.nil_append]
theorem Wc{p x:Tx}:Str.empty++tx p++tx x=tx (p++x):=by
 show tx []++tx p++tx x=_
 rw[<-iM,<-iM,List.nil_append]
theorem R5{p x q:Tx}(hp:sX p=true) (hx:sX x=true) (hq:sX q=true) (h1:p.length<=100) (h2:q.length<=100) (h3:x.length<=1000):sX (p++x++q)=true:=by
 unfold sX at hp hx hq ⊢
 rw[List.all_append,List.all_append,(Bool.and_eq_true_iff.mp hp).2,(Bool.and_eq_true_iff.mp hx).2,(Bool.and_eq_true_iff.mp hq).2]
 exact Bool.and_eq_true_iff.mpr ⟨decide_eq_true (by rw[List.length_append,List.length_append];unfold lim;omega),rfl⟩
section
variable {cx:Cx}{w:Wd}{K:Kx}{v:Value}{a:AV}{l:List Env}{E:Value->Shared->Prop}{Q:Value->Shared->Prop}{x:Expr}{f:Kv}
inductive We(cx:Cx) (l:List Env) (w:Wd) (p q:Tx) (v:Value) (Q:Value->Shared->Prop) (E:Value->Shared->Prop):Prop
 |mk (x:Tx) (t:Tok) (e:v=.str (tx x) t) (z:sX x=true) (h:x.length<=1000) (T:bT cx l w (Mine.ok (.t (.str (p++x++q))) w.st) cH Q E)
theorem NU{p q:Tx}(r:cQ w.G w.as v a) (T:bT cx l w (CQ p q w.st a) cH Q E):We cx l w p q v Q E:=by
 induction a with
 |r i=>exact T.no
 |t d=>cases d with
  |str x=>cases r with
   |str _ t z=>exact bT.ite T fun h T=>.mk x t rfl z h T
   |ref _ q _=>cases q
  |_=>exact T.no
theorem SE.CI{p q:Tx}{k1 k2:Nat}{p1 p2 p3 pos:Pos}(hp:sX p=true) (hq:sX q=true) (qo:p.length<=100) (Wf:q.length<=100) (h:SE cx K x f) :
  SE cx K (.JoinedStr [.Constant (.str (tx p)) k1 p1,.FormattedValue x (-1) none p2,.Constant (.str (tx q)) k2 p3] pos) (Mine.k1 (CQ p q) f):=fun g w X Q E T=>by
 refine wpAny_JoinedStr ?_
 have e0:=X.toks (tk:=w.s.toks+1)
 refine wpAny_Constant_str ⟨tx p,_,rfl,by show(tx []++tx p).length<=_;rw[<-iM,vh];exact Nat.le_trans qo (by decide),?_⟩
 refine wpAny_FormattedValue_plain (Wp.step (w:=w.at _) (h g _ (X.ev e0)) (T.start e0) fun a v w1 e1 r1 T=>?_)
 obtain⟨x,t,rfl,z,hc,T⟩:=NU r1 T
 have hz:(Str.empty++tx p++tx x++tx q).length<=sizeLine:=by rw[UP,vh,List.length_append,List.length_append];exact Nat.le_trans (by omega:_<=1200) (by decide)
 have fin:∀t' k',∃y t,Value.str (tx x) t'=.str y t/\(Str.empty++tx p++y).length<=sizeLine/\wpAny (model cx.prog cx.w) K.A (eval (.Constant (.str (tx q)) k2 p3) K.env) (fun v cz=>∃y1 t1,v=.str y1 t1/\(Str.empty++tx p++y++y1).length<=sizeLine /\
   (Str.empty++tx p++y++y1).length<=sizeLine/\Q (.str (Str.empty++tx p++y++y1) cz.toks) { cz with toks:=cz.toks+1 }) E { w1.s with toks:=k' }:=fun t' k' =>
  ⟨tx x,t',rfl,by rw[Wc,vh,List.length_append];exact Nat.le_trans (by omega:_<=1200) (by decide),wpAny_Constant_str ⟨tx q,_,rfl,hz,hz,by rw[UP];exact T.same e1.inv (Rep.str _ _ (R5 hp z hq qo Wf hc))⟩⟩
 exact wpAny_formatField_str (fin _ _) (fin _ _) (by rw[vh];exact Nat.le_trans hc (by decide))
end
inductive vj(cx:Cx) (w:Wd) (I:Addr) (ds:List PV):Prop
 |list {m:Nat}(a:Addr) (us vs:List Value) (i:Nat) (g:w.G a=.fz (.lst us m)) (h:w.h.IsListIter I a i) (le:i<=us.length) (e:us.drop i=vs) (r:bh w.G vs ds):vj cx w I ds
 |tup (a:Addr) (us vs:List Value) (i:Nat) (g:w.G a=.fz (.tup us)) (h:w.h.IsTupleIter I a i) (le:i<=us.length) (e:us.drop i=vs) (r:bh w.G vs ds):vj cx w I ds
 |dict (a:Addr) (kvs:List (Str×Value)) (ep i:Nat) (l:List Tx) (g:w.G a=.fz (.dS kvs ep)) (h:w.h.IsKeyIter I a i kvs.length ep) (le:i<=kvs.length) (k:(kvs.map (·.1)).drop i=l.map tx) (ok:∀s∈l,sX s=true) (e:l.map .str=ds):vj cx w I ds
 |range (x:Int) (n:Nat) (h:IsRangeIter w.h I x n 1) (e:(List.range n).map (fun(k:Nat)=>PV.int (x+(k:Int)))=ds):vj cx w I ds
structure Km{α:Type}(l:List α) (i:Nat) (a:α) (r:List α):Prop where
 lt:i<l.length
 at':l[i]? = some a
 rest:l.drop (i+1)=r
theorem vn{α:Type}{l:List α}{i:Nat}{a:α}{r:List α}(e:l.drop i=a::r):Km l i a r:=by
 have h:i<l.length:=Nat.lt_of_not_le fun q=>by rw[List.drop_eq_nil_of_le q] at e;injection e
 rw[List.drop_eq_getElem_cons h] at e
 cases e
 exact⟨h,List.getElem?_eq_getElem h,rfl⟩
theorem qY{α:Type}{l:List α}{i:Nat}(e:l.drop i=[]) (h:i<=l.length):i=l.length:=Nat.le_antisymm h (List.drop_eq_nil_iff.mp e)
section
variable {cx:Cx}{nm:Nat->Option Str}{w w':Wd}{A:Around}{E:Value->Shared->Prop}{I:Addr}{d:PV}{ds:List PV}{fr:List Addr}{W:Addr->Prop}{v:Value}
theorem Ev.obj(y:Ev cx fr W w w') (p:iB cx w I) (h1:I∉fr) (h2:¬W I):∀o,w.h.get? I=some o->w'.h.get? I=some o:=y.keep I p.ge p.lt p.out h1 h2
theorem vj.mv(y:Ev cx fr W w w') (p:iB cx w I) (h1:I∉fr) (h2:¬W I):vj cx w I ds->vj cx w' I ds
 |.list a us vs i g h le e r=>.list a us vs i (y.sub _ _ g) (h.at (y.obj p h1 h2)) le e (r.mono y.sub)
 |.tup a us vs i g h le e r=>.tup a us vs i (y.sub _ _ g) (h.at (y.obj p h1 h2)) le e (r.mono y.sub)
 |.dict a kvs ep i l g h le k ok e=>.dict a kvs ep i l (y.sub _ _ g) (h.at (y.obj p h1 h2)) le k ok e
 |.range x n h e=>.range x n (y.obj p h1 h2 _ h) e
theorem Inv.exts{s':Shared}(J:Inv cx w) (p:iB cx w I) (hk:∀b o,b∉[I]->w.h.get? b=some o->s'.heap.get? b=some o) (hz:w.n<=s'.heap.objs.size) (h1:s'.os=w.s.os) (h2:s'.gens=w.s.gens):∀fr,Ev cx fr (fun c=>c=I) w (w.at s') :=
 fun _=>J.ext p (fun b o hb e=>hk b o (fun q=>hb (List.mem_singleton.mp q)) e) hz h1 h2
theorem iB.t7{a:Addr}{o:FO}(p:iB cx w I) (g:w.G a=.fz o):a≠I:=fun q=>by have:=p.out;rw[<-q,g] at this;injection this
section
variable {fp:List Addr}{n i:Nat}{P:Nat->Value->Prop}{St:Nat->Heap->Prop}{Q:Option Value->Shared->Prop}
theorem lK(X:Walks cx.prog cx.w A I fp [I] n P St) (J:Inv cx w) (p:iB cx w I) (hi:i<n) (st:St i w.h) (h:∀v s',P i v->St (i+1) s'.heap->(∀fr,Ev cx fr (fun c=>c=I) w (w.at s'))->Q (some v) s'):wpAny (model cx.prog cx.w) A (pyNext (.ref I)) Q E w.s :=
 eB (X.item i w.s _ _ hi st fun v _ _ h1 h2 h3 hz=>h v _ h1 h2 (J.exts p h3 hz rfl rfl))
theorem lM(X:Walks cx.prog cx.w A I fp [I] n P St) (J:Inv cx w) (p:iB cx w I) (st:St n w.h) (h:∀s',(∀fr,Ev cx fr (fun c=>c=I) w (w.at s'))->Q none s'):wpAny (model cx.prog cx.w) A (pyNext (.ref I)) Q E w.s :=
 eB (X.done w.s _ _ st fun _ _ h3 hz=>h _ (J.exts p h3 hz rfl rfl))
end
theorem qZ{x:Int}{n:Nat}:(List.range (n+1)).map (fun(k:Nat)=>PV.int (x+(k:Int)))=PV.int x::(List.range n).map (fun(k:Nat)=>PV.int (x+1+(k:Int))):=by
 rw[List.range_succ_eq_map,List.map_cons,List.map_map]
 exact congr (congrArg _ (congrArg PV.int (Int.add_zero x))) (List.map_congr_left fun k _=>congrArg PV.int (by show x+((k+1:Nat):Int)=_;omega))
theorem vj.next{Q:Option Value->Shared->Prop}(hh:A.handled=none) (J:Inv cx w) (p:iB cx w I) (it:vj cx w I (d::ds)) (h:∀v s',Rep w.G v d->(∀fr,Ev cx fr (fun c=>c=I) w (w.at s'))->vj cx (w.at s') I ds->Q (some v) s') :
  wpAny (model cx.prog cx.w) A (pyNext (.ref I)) Q E w.s:=by
 cases it with
 |list a us vs i g hI le e r =>
  cases r with| cons x r =>
  have z:=vn e
  exact lK (Walks.list hh I a (p.t7 g) us.toArray) J p (by rw[List.size_toArray];exact z.lt) ⟨hI,Heap.PlainList.isList ⟨_,J.rel.fz _ _ g⟩⟩ fun v s' hv st ev =>
   h v s' (Option.some.inj (z.at'.symm.trans ((List.getElem?_toArray).symm.trans hv))▸x) ev (.list a us _ (i+1) g st.1 z.lt z.rest r)
 |tup a us vs i g hI le e r =>
  cases r with| cons x r =>
  have z:=vn e
  exact lK (Walks.tuple hh I a (p.t7 g) us.toArray) J p (by rw[List.size_toArray];exact z.lt) ⟨hI,Be.tup (J.rel.fz _ _ g)⟩ fun v s' hv st ev =>
   h v s' (Option.some.inj (z.at'.symm.trans ((List.getElem?_toArray).symm.trans hv))▸x) ev (.tup a us _ (i+1) g st.1 z.lt z.rest r)
 |dict a kvs ep i l g hI le k ok e =>
  cases l with
  |nil=>injection e
  |cons t l =>
   cases e
   have z:=vn k
   have hi:i<kvs.length:=List.length_map (f:=(·.1)) (as:=kvs)▸z.lt
   refine lK (Walks.dictKeys hh I a (p.t7 g) kvs ep) J p hi ⟨hI,J.rel.fz _ _ g⟩ fun v s' hv st ev=>?_
   obtain⟨y,x,hx,hv⟩:=hv
   have hy:=z.at'
   rw[List.getElem?_map,hx] at hy
   injection hy with hy;subst hy
   obtain⟨tk,rfl⟩:=Value.isStrOf_shape (show Value.isStrOf (tx t) v=true from hv)
   exact h _ s' (.str t tk (ok t (.head _))) ev (.dict a kvs ep (i+1) l g st.1 hi z.rest (fun s q=>ok s (.tail _ q)) rfl)
 |range x n hI e =>
  cases n with
  |zero=>injection e
  |succ n =>
   rw[qZ] at e
   cases e
   refine lK (i:=0) (Walks.range hh I x 1 (n+1)) J p (Nat.succ_pos n) (by rw[show x+((0:Nat):Int)*1=x by omega,show((n+1:Nat):Int)-((0:Nat):Int)=((n+1:Nat):Int) by omega];exact hI) fun v s' hv st ev=>?_
   obtain⟨t,rfl⟩:=hv
   rw[show x+((0+1:Nat):Int)*1=x+1 by omega,show((n+1:Nat):Int)-((0+1:Nat):Int)=(n:Int) by omega] at st
   exact h _ s' (by rw[show x+((0:Nat):Int)*1=x by omega];exact .int x t) ev (.range (x+1) n st rfl)
theorem vj.done{Q:Option Value->Shared->Prop}(hh:A.handled=none) (J:Inv cx w) (p:iB cx w I) (it:vj cx w I []) (h:∀s',(∀fr,Ev cx fr (fun c=>c=I) w (w.at s'))->Q none s') :
  wpAny (model cx.prog cx.w) A (pyNext (.ref I)) Q E w.s:=by
 induction it with
 |list a us vs i g hI le e r =>
  cases r
  cases qY e le
  exact lM (Walks.list hh I a (p.t7 g) us.toArray) J p ⟨hI,Heap.PlainList.isList ⟨_,J.rel.fz _ _ g⟩⟩ h
 |tup a us vs i g hI le e r =>
  cases r
  cases qY e le
  exact lM (Walks.tuple hh I a (p.t7 g) us.toArray) J p ⟨hI,Be.tup (J.rel.fz _ _ g)⟩ h
 |dict a kvs ep i l g hI le k ok e =>
  induction l with
  |cons=>injection e
  |nil =>
   cases(qY k (Nat.le_trans le (Nat.le_of_eq (List.length_map ..).symm))).trans (List.length_map ..)
   exact lM (Walks.dictKeys hh I a (p.t7 g) kvs ep) J p ⟨hI,J.rel.fz _ _ g⟩ h
 |range x n hI e =>
  induction n with
  |succ n=>rw[qZ] at e;injection e
  |zero=>exact lM (Walks.range hh I x 1 0) J p (by rw[show x+((0:Nat):Int)*1=x by omega];exact hI) h
end
noncomputable def Wd.cut(w:Wd) (n:Nat) (st:aB):Wd:=⟨w.G,w.as.take n,st,w.s⟩
structure IQ(n:Nat) (st st':aB):Prop where
 eq:st'=st.take n
 refs:∀nd∈st.take n,dO n nd=true
theorem q7{n:Nat}{st st':aB}(e:back n st=some st'):IQ n st st':=by
 unfold back at e
 split at e
 ·rename_i h;(injection e with e;subst e);exact⟨rfl,List.all_eq_true.mp h⟩
 ·injection e
theorem qp{α:Type}{l:List α}{n i:Nat}{x:α}(e:(l.take n)[i]? = some x):i<n/\l[i]? = some x:=by
 rw[List.getElem?_take] at e
 split at e
 ·exact⟨by assumption,e⟩
 ·injection e
theorem xM{α:Type}{l:List α}{n i:Nat}{x:α}(h:i<n) (e:l[i]? = some x):(l.take n)[i]? = some x:=by rw[List.getElem?_take,if_pos h];exact e
section
variable {cx:Cx}{w w0:Wd}{n:Nat}{st':aB}{fr:List Addr}{W:Addr->Prop}
theorem cQ.cut{G:Addr->Lg}{as:List Pl}{v:Value}:∀{a:AV},under n a=true->cQ G as v a->cQ G (as.take n) v a
 |.t _,_,r=>r
 |.r _,h,.mk p e q=>.mk p (xM (of_decide_eq_true h) e) q
theorem oE.cut{G:Addr->Lg}{as:List Pl}{gs:List (Tx×Value)}{fs:List (Tx×AV)}(r:oE G as gs fs):(∀p∈fs,under n p.2=true)->oE G (as.take n) gs fs:=by
 induction r with
 |nil=>exact fun _=>.nil
 |cons x _ ih=>exact fun h=>.cons (x.cut (h _ (.head _))) (ih fun p q=>h p (.tail _ q))
theorem gu.cut{G:Addr->Lg}{as:List Pl}{h:Heap}{p:Pl}{nd:Node}(r:dO n nd=true):gu cx G as h p nd->gu cx G (as.take n) h p nd
 |.fz x=>.fz x
 |.tr e i q x=>.tr e i q x
 |.inst i x=>.inst i (x.cut (List.all_eq_true.mp r))
theorem eV.back(S:eV cx w) (e:IQ n w.st st'):eV cx (w.cut n st') where
 len:=by obtain⟨rfl,_⟩:=e;exact(List.length_take ..).trans ((congrArg (min n) S.len).trans (List.length_take ..).symm)
 nodes i p nd e1 e2:=let q:=e.eq▸e2;(S.nodes i p nd (qp e1).2 (qp q).2).cut (e.refs nd (List.mem_of_getElem? q))
 fq i p nd e1 e2:=S.fq i p nd (qp e1).2 (qp (e.eq▸e2)).2
 fz:=S.fz
 pq:=S.pq
 lo:=S.lo
 live:=S.live
theorem Ev.back(x:Ev cx fr W w0 w) (hn:w0.as.length<=n) (e:back n w.st=some st'):Ev cx fr W w0 (w.cut n st') where
 inv:=⟨x.inv.rel.back (q7 e),x.inv.old,x.inv.os,x.inv.gens,x.inv.lim,x.inv.low,x.inv.jb,x.inv.ge,let⟨ps,e,t,c⟩:=x.inv.tab;⟨ps,e,t,c⟩⟩
 size:=x.size
 keep:=x.keep
 frame:=x.frame
 sub:=x.sub
 pre i p e:=xM (Nat.lt_of_lt_of_le (List.getElem?_eq_some_iff.mp e).1 hn) (x.pre i p e)
 out:=x.out
end
noncomputable def q8(env:Env):List (Str×NameKind)->List (Str×Addr)->List (Str×Addr)
 |[],cs=>cs
 |x::r,cs=>q8 env r (if x.2==.free then(x.1,(env.cells.lookup x.1).getD 0)::cs else cs)
noncomputable def jc(scope:Scope) (env:Env):List (Str×Addr):=q8 env scope.names []
abbrev vo(env:Env) (l:List (Str×NameKind)):Prop:=∀x∈l,x.2=.free->∃c,env.cells.lookup x.1=some c
theorem gM{scope:Scope}{env:Env}(h:vo env scope.names):closureFor scope env=pure (jc scope env):=by
 have key:∀(l:List (Str×NameKind)) (cs:List (Str×Addr)),vo env l ->
   (forIn l cs fun(x:Str×NameKind) cs=>(do
    let(name,kind):=x
    if kind==.free then do
     let c <-cellOf env name
     pure (ForInStep.yield ((name,c)::cs))
    else pure (ForInStep.yield cs):Sem (ForInStep (List (Str×Addr)))))=pure (q8 env l cs):=by
  intro l
  induction l with
  |nil=>intro cs _;rfl
  |cons x l ih =>
   intro cs hl
   rw[List.forIn_cons]
   have UQ:vo env l:=fun y hy=>hl y (.tail _ hy)
   cases hk:(x.2==NameKind.free) with
   |true =>
    obtain⟨c,hc⟩:=hl x (.head _) (eq_of_beq hk)
    have z:=ih ((x.1,c)::cs) UQ
    simp only[q8,hk,if_true,hc,Option.getD_some,cellOf]
    exact z
   |false =>
    simp only[q8,hk,Bool.false_eq_true,if_false]
    exact ih cs UQ
 have:=key scope.names [] h
 unfold closureFor jc
 first
  |exact this
  |(rw[this];rfl)
  |(show(forIn scope.names [] _ >>= fun r=>pure r)=_;rw[this];rfl)
theorem lN{env:Env}{y:Str}:∀{l:List (Str×NameKind)}{cs:List (Str×Addr)},vo env l->(q8 env l cs).lookup y=if(y,NameKind.free)∈l then env.cells.lookup y else cs.lookup y
 |[],_,_=>by rw[if_neg (List.not_mem_nil)];rfl
 |(n,k)::r,cs,h=>by
  have hr:vo env r:=fun x hx=>h x (.tail _ hx)
  rw[q8,lN hr]
  by_cases q:(y,NameKind.free)∈r
  ·rw[if_pos q,if_pos (.tail _ q)]
  ·rw[if_neg q]
   cases hk:(k==NameKind.free) with
   |true =>
    cases eq_of_beq hk
    obtain⟨c,hc⟩:=h (n,.free) (.head _) rfl
    rw[if_pos rfl,hc]
    by_cases z:y=n
    ·subst z;rw[List.lookup_cons,beq_self_eq_true,if_pos (.head _),hc];rfl
    ·rw[List.lookup_cons,beq_eq_false_iff_ne.mpr z,if_neg]
     intro m;cases m with
     |head=>exact z rfl
     |tail _ m=>exact q m
   |false =>
    rw[if_neg Bool.false_ne_true,if_neg]
    intro m;cases m with
    |head=>injection hk
    |tail _ m=>exact q m
theorem q9{α:Type}{f:Str->α->α}{x:Str}:∀{l:List (Str×α)},(l.map fun p=>(p.1,f p.1 p.2)).lookup x=(l.lookup x).map (f x)
 |[]=>rfl
 |(n,k)::r=>by
  rw[List.map_cons,List.lookup_cons,List.lookup_cons]
  cases h:x==n with
  |true=>cases eq_of_beq h;rfl
  |false=>exact q9
noncomputable def vp(env:Env) (x:Str) (k:NameKind):NameKind:=if(k==.free&&env.scope.kind==.function&&env.kindOf x==some .cell)=true then .cell else k
theorem gA{scope:Scope}{cl:List (Str×Addr)}{C:Addr}{env:Env}{x:Str}:(compEnvC scope cl C env).kindOf x=(scope.names.lookup x).map (vp env x):=by
 rw[<-q9 (f:=vp env)]
 show List.lookup x (scope.names.map _)=_
 exact congrArg (List.lookup x) (List.map_congr_left fun p _=>by
  unfold vp
  by_cases h:(p.2==.free&&env.scope.kind==.function&&env.kindOf p.1==some .cell)=true
  ·rw[if_pos h];exact if_pos h
  ·rw[if_neg h];exact if_neg h)
theorem mem_lookup{α:Type}{x:Str}{k:α}:∀{l:List (Str×α)},l.lookup x=some k->(x,k)∈l
 |[],h=>nomatch h
 |(n,k')::r,h=>by
  rw[List.lookup_cons] at h
  cases q:x==n with
  |true=>rw[q] at h;(injection h with h;subst h);cases eq_of_beq q;exact .head _
  |false=>rw[q] at h;exact .tail _ (mem_lookup h)
structure ig(K:Kx) (scope:Scope) (x:Str) (ix:Nat):Prop where
 kind:scope.kind=.function
 ri:∀y∈scope.names,y.2≠.cell
 locals:∀y∈scope.names,y.2=.local->scope.names.lookup y.1=some .local
 NV:scope.names.lookup x=some .local
 free:∀y∈scope.names,y.2=.free->K.env.kindOf y.1=some .cell\/K.env.kindOf y.1=some .free
noncomputable def vq(scope:Scope) (x:Str) (ix:Nat) (vs:List (Str×Nat)):List (Str×Nat):=(x,ix)::vs.filter fun p=>scope.names.lookup p.1==some .free&&p.2 != ix
noncomputable def jx(K:Kx) (scope:Scope) (x:Str) (ix:Nat) (C:Addr):Kx:=⟨K.A,K.l,compEnvC scope (jc scope K.env) C K.env,vq scope x ix K.vs⟩
section
variable {cx:Cx}{K:Kx}{w:Wd}{g:Gm}{scope:Scope}{x y:Str}{ix:Nat}{C c:Addr}
theorem ig.has(O:ig K scope x ix) (eo:j6 cx K w):vo K.env scope.names:=fun y hy hf=>eo.kinds y.1 (O.free y hy hf)
theorem ig.up(O:ig K scope x ix) (eo:j6 cx K w) (e:(jc scope K.env).lookup y=some c):K.env.cells.lookup y=some c:=by
 unfold jc at e
 rw[lN (O.has eo)] at e
 split at e
 ·exact e
 ·injection e
theorem ig.R6(O:ig K scope x ix):fS (jx K scope x ix C) x ix where
 kind:=.inl (by show Env.kindOf (compEnvC ..) x=_;rw[gA,O.NV];rfl)
 at' j h:=by
  cases h with
  |head=>rfl
  |tail _ h=>have:=(List.mem_filter.mp h).2;rw[O.NV] at this;injection this
 uniq y h:=by
  cases h with
  |head=>rfl
  |tail _ h=>have:=(Bool.and_eq_true_iff.mp (List.mem_filter.mp h).2).2;rw[bne_self_eq_false] at this;injection this
theorem At.comp(O:ig K scope x ix) (X:At cx K g w) (hC:iB cx w C) (hn:∃m,w.h.Ns C m) (hc:∀x c,K.env.cells.lookup x=some c->c≠C):At cx (jx K scope x ix C) (g.set ix none) w where
 inv:=X.inv
 fr:=X.fr
 eo:={
  fn:=O.kind
  glob:=X.eo.glob
  blt:=X.eo.blt
  dU:=hC
  ns:=hn
  cell:=fun y c e=>let z:=X.eo.cell y c (O.up X.eo e);⟨z.dU,z.JO,hc y c (O.up X.eo e),z.cell⟩
  apart:=fun y z c e1 e2=>X.eo.apart y z c (O.up X.eo e1) (O.up X.eo e2)
  kinds:=fun y hy=>by
   have hm:(y,NameKind.free)∈scope.names:=by
    unfold jx at hy
    dsimp only at hy
    rw[gA] at hy
    cases q:scope.names.lookup y with
    |none=>rw[q] at hy;rcases hy with h|h<;>injection h
    |some k =>
     rw[q] at hy
     have nc:=O.ri _ (mem_lookup q)
     induction k<;>first| exact mem_lookup q|exact absurd rfl nc|(rcases hy with h|h<;>cases h)
   obtain⟨c,hc⟩:=X.eo.kinds y (O.free _ hm rfl)
   exact⟨c,by show(jc scope K.env).lookup y=_;unfold jc;rw[lN (O.has X.eo),if_pos hm];exact hc⟩ }
 vars y j a e1 e2:=by
  cases e1 with
  |head=>rw[List.getElem?_set] at e2;rw[if_pos rfl] at e2;split at e2<;>cases e2
  |tail _ e1 =>
   obtain⟨e1,q⟩:=List.mem_filter.mp e1
   obtain⟨q1,q2⟩:=Bool.and_eq_true_iff.mp q
   have hl:=eq_of_beq q1
   rw[List.getElem?_set_ne (fun z=>bne_iff_ne.mp q2 z.symm)] at e2
   obtain⟨v,h1,h2⟩:=X.vars y j a e1 e2
   have hm:=mem_lookup hl
   have hf:=O.free _ hm rfl
   refine⟨v,?_,h2⟩
   induction h1 with
   |loc k=>rcases hf with q|q<;>cases k.symm.trans q
   |cell k c e z =>
    refine .cell ?_ c (by show(jc scope K.env).lookup y=_;unfold jc;rw[lN (O.has X.eo),if_pos hm];exact e) z
    show Env.kindOf (compEnvC ..) y=_\/Env.kindOf (compEnvC ..) y=_
    rw[gA,hl]
    by_cases h:(NameKind.free==.free&&K.env.scope.kind==.function&&K.env.kindOf y==some .cell)=true
    ·exact .inl (congrArg some (if_pos h))
    ·exact .inr (congrArg some (if_neg h))
end
noncomputable def R.bn{α β:Type}:R α->(α->aB->R β)->R β
 |some (.ok (a,st)),f=>f a st
 |_,_=>Option.none
inductive Mu(cx:Cx) (v:Value) (ds:List PV) (w:Wd):Prop
 |val (d:PV) (r:Rep w.G v d) (e:mw d=some ds)
 |sR (a:Addr) (x y:Int) (t u z:Tok) (q:v=.ref a) (h:IsRange w.h a x y 1 t u z) (hx:-2000<=x/\x<=2000) (hy:-2000<=y/\y<=2000) (e:cI x y=ds)
noncomputable def Src(cx:Cx) (K:Kx) (x:Expr) (f:Gm->aB->R (List PV)):Prop:=∀g w,At cx K g w->Wp cx K.A K.l w (eval x K.env) (f g w.st) (Mu cx)
section
variable {α β γ:Type}{r:R α}
theorem lP{f:α->aB->R β}{k:β->aB->R γ}:(r.bind f).bn k=r.bn fun a st=>(f a st).bn k:=by
 induction r with
 |none=>rfl
 |some z=>induction z<;>rfl
theorem rj{f:PV->aB->R (Option PV)}{d:PV}{ds done:List PV}{st:aB}:(turns f (d::ds) st).bind (fun l st=>ok (done++l) st) =
  (f d st).bn fun o st'=>oB (back st.length st') fun st2=>(turns f ds st2).bind fun l st=>ok ((done++o.toList)++l) st:=by
 have fin:∀(o:Option PV) (q:R (List PV)),(q.bind fun l st=>ok (match o with| some e=>e::l|none=>l) st).bind (fun l st=>ok (done++l) st)=q.bind fun l st=>ok ((done++o.toList)++l) st:=fun o q=>by
  rw[R.bind_assoc]
  refine R.bind_congr fun l st=>?_
  induction o with
  |none=>exact congrArg (fun x=>ok x st) (by rw[Option.toList,List.append_nil])
  |some e=>exact congrArg (fun x=>ok x st) (List.append_cons ..)
 have e:turns f (d::ds) st=(match f d st with
  |some (.ok (o,st'))=>match back st.length st' with
   |some dQ=>(turns f ds dQ).bind fun l Mv=>ok (match o with| some e=>e::l|none=>l) Mv
   |none=>none
  |_=>none):=rfl
 rw[e]
 induction f d st with
 |none=>rfl
 |some z=>induction z with
  |error=>rfl
  |ok z =>
   obtain⟨o,st'⟩:=z
   show R.bind (match back st.length st' with| some dQ=>_|none=>none) _=oB (back st.length st') _
   induction back st.length st' with
   |none=>rfl
   |some st2=>exact fin o (turns f ds st2)
end
section
variable {cx:Cx}{nm:Nat->Option Str}{w w' w0:Wd}{K:Kx}{g:Gm}{v u:Value}{a:AV}{A:Around}{l:List Env}{E:Value->Shared->Prop}{Q:Value->Shared->Prop}{d e:PV}{us:List Value}{ds:List PV}{x y:Expr}{xs:List Expr}{f:Kv}{fs:Gm->aB->R (List AV)}{p pos:Pos}{I b:Addr}
theorem bT.oB{α β γ:Type}{Rel:α->β->Wd->Prop}{Q:α->Shared->Prop}{o:Option γ}{k:γ->R β}(T:bT cx l w (Mine.oB o k) Rel Q E){p:Prop}(h:∀c,o=some c->bT cx l w (k c) Rel Q E->p):p:=by
 induction o with
 |none=>exact T.no
 |some c=>exact h c rfl T
theorem Src.val(h:SE cx K x f):Src cx K x (k1 nh f):=fun g w X _ _ T =>
 (h g w X).step T fun _ _ _ e1 r1 T=>T.eX e1.inv r1 fun d _ _ e2 r2 T=>T.oB fun _ e T=>T.done e2.inv (.val d r2 e)
theorem Src.range(B:Base cx nm) (hk:K.env.kindOf "range" = some .globalImplicit) (r:SA cx K (x::xs) fs):Src cx K (.Call (.Name "range" p) (x::xs) [] pos) (kN qH fs):=fun g w X Q E T=>by
 refine wpAny_Call_Name_kw (iL X B hk (by decide) (by decide) rfl (r.call (.inr ⟨_,rfl⟩) ((r.w pos g w X).step T fun as us w1 e1 r1 T=>T.oB fun ds e T=>?_)))
 have fin:∀{ob:Obj}{tk:Nat}(x y:Int) (t u z:Tok),IsRange (w1.h.push ob) w1.n x y 1 t u z->(-2000<=x/\x<=2000)->(-2000<=y/\y<=2000)->cI x y=ds->Q (.ref w1.n) { w1.s with heap:=w1.h.push ob,toks:=tk } :=
  fun x y t u z h hx hy e=>T.ok _ _ (w1.at _) rfl (iR.push.ev e1.inv) (.sR _ x y t u z rfl h hx hy e)
 obtain⟨r,_⟩:=r1
 cases r with
 |nil=>injection e
 |@cons v us a as ra r =>
  have int:∀{v:Value}{a:AV}{i:Int},cQ w1.G w1.as v a->A6 a=some i->∃t,v=.int i t:=fun{v a i} r e=>by
   cases a with
   |r=>injection e
   |t d=>cases d with
    |int j=>(injection e with e;subst e);cases r with
     |int _ t=>exact⟨t,rfl⟩
     |ref _ q=>cases q
    |_=>injection e
  cases r with
  |nil =>
   obtain⟨i,hi,e⟩:=Option.bind_eq_some_iff.mp e
   obtain⟨t,rfl⟩:=int ra hi
   split at e
   ·rename_i h;exact call_range_1 (fin 0 i _ _ _ (Heap.get?_push_size _ rfl) (by decide) h (Option.some.inj e))
   ·injection e
  |@cons v2 us a2 as rb r =>
   cases r with
   |cons=>injection e
   |nil =>
    obtain⟨i,hi,e⟩:=Option.bind_eq_some_iff.mp e
    obtain⟨j,hj,e⟩:=Option.bind_eq_some_iff.mp e
    obtain⟨t,rfl⟩:=int ra hi
    obtain⟨t2,rfl⟩:=int rb hj
    unfold Na at e
    split at e
    ·rename_i h;exact call_range_2 (fin i j _ _ _ (Heap.get?_push_size _ rfl) h.1 h.2 (Option.some.inj e))
    ·injection e
theorem Mu.iter(hs:sysModules<cx.cZ) (J:Inv cx w) (it:Mu cx v ds w) (h:∀ob,vj cx (w.at { w.s with heap:=w.h.push ob }) w.n ds->Q (.ref w.n) { w.s with heap:=w.h.push ob }):wpAny (model cx.prog cx.w) A (pyIter v) Q E w.s:=by
 induction it with
 |val d r e =>
  cases r with
  |ref g q r =>
   induction q with
   |lst z=>(injection e with e;subst e);exact wpAny_pyIter_list (Heap.PlainList.isList ⟨_,J.rel.fz _ _ g⟩) (h _ (.list _ _ _ 0 g ⟨_,Heap.get?_push_size _ rfl,rfl,rfl⟩ (Nat.zero_le _) rfl r))
   |tup z=>(injection e with e;subst e);exact wpAny_pyIter_tuple (Be.tup (J.rel.fz _ _ g)) (h _ (.tup _ _ _ 0 g ⟨_,Heap.get?_push_size _ rfl,rfl,rfl⟩ (Nat.zero_le _) rfl r))
   |@dS kvs ep l z k n =>
    unfold mw at e
    dsimp only at e
    split at e
    ·rename_i ok
     injection e with e;subst e
     exact wpAny_pyIter_dict (big hs (J.rel.lo _ (g▸fun q=>by injection q))) (J.rel.fz _ _ g) (h _ (.dict _ kvs ep 0 (l.map (·.1)) g ⟨_,Heap.get?_push_size _ rfl,rfl,rfl⟩ (Nat.zero_le _) (by rw[List.drop_zero,List.map_map];exact k)
      (fun s hs=>by obtain⟨p,hp,rfl⟩:=List.mem_map.mp hs;exact List.all_eq_true.mp ok p hp) (List.map_map ..)))
    ·injection e
   |_=>injection e
  |_=>injection e
 |sR a x y t u z q hR hx hy e =>
  subst q
  refine wpAny_pyIter_range hR (small_one (by omega) (by omega) (by omega) (by omega)) (h _ (.range x (y-x).toNat ?_ e))
  rw[rangeSize_one]
  exact Heap.get?_push_size _ rfl
theorem Mu.lim(it:Mu cx v ds w):ds.length<=Mine.lim:=by
 induction it with
 |sR _ x y _ _ _ _ _ hx hy e=>rw[<-e,t6];unfold Mine.lim;omega
 |val d r e =>
  cases r with
  |ref g q r=>induction q with
   |lst z=>(injection e with e;subst e);exact z
   |tup z=>(injection e with e;subst e);exact z
   |dS z =>
    unfold mw at e
    dsimp only at e
    split at e
    ·(injection e with e;subst e);rw[List.length_map];exact z
    ·injection e
   |_=>injection e
  |_=>injection e
theorem vj.self(it:vj cx w I ds) (h:Q (.ref I) w.s):wpAny (model cx.prog cx.w) A (pyIter (.ref I)) Q E w.s:=by
 induction it with
 |list _ _ _ _ _ hI=>exact wpAny_pyIter_listiter hI h
 |tup _ _ _ _ _ hI=>exact wpAny_pyIter_tupleiter hI h
 |dict _ _ _ _ _ _ hI=>exact wpAny_pyIter_keyiter hI h
 |range _ _ hI=>exact wpAny_pyIter_rangeiter hI h
theorem At.turn{x:Str}{i:Nat}{px:Pos}{M:Option Value->Shared->Prop}{Qb:Unit->Shared->Prop}{E1:Value->Shared->Prop}(hh:K.A.handled=none) (X:At cx K g w) (V:fS K x i) (p:iB cx w I) (fI:nu K I) (it:vj cx w I (d::ds))
  (hM:∀v s',wpAny (model cx.prog cx.w) K.A (assign (.Name x px) K.env v) Qb E1 s'->M (some v) s')
  (hb:∀b s',Spot K.env x b->Ev cx (ez K.l) (fun c=>c=I\/c=b) w (w.at s')->At cx K (g.set i (some (.t d))) (w.at s')->vj cx (w.at s') I ds->Qb () s'):wpAny (model cx.prog cx.w) K.A (pyNext (.ref I)) M E w.s :=
 it.next hh X.inv p fun v s1 rv ev Wg=>hM v s1 (wpAny_assign_Name (qQ (w:=w.at s1) (a:=.t d) (X.Bg (ev _) fun a q=>q▸fI) V rv fun b s2 hs wX X2 =>
  have nb:I≠b:=by
   induction hs with
   |loc _ e=>exact e▸fI.loc
   |cell _ e=>exact(fI.cell _ _ e).symm
  have wd:∀{W W':Addr->Prop}{w1 w2:Wd},(∀a,W a->W' a)->Ev cx (ez K.l) W w1 w2->Ev cx (ez K.l) W' w1 w2:=fun h y=>⟨y.inv,y.size,fun a h1 h2 h3 h4 h5=>y.keep a h1 h2 h3 h4 fun q=>h5 (h a q),fun a h1 h2=>y.frame a h1 fun q=>h2 (h a q),y.sub,y.pre,y.out⟩
  hb b s2 hs ((wd (fun _=>.inl) (ev _)).trans (wd (fun _=>.inr) wX)) X2 (Wg.mv wX (p.ev (ev [])) fI.fr nb)))
end
abbrev Acc:=Addr->Wd->List PV->Prop
structure CF(cx:Cx) (K:Kx) (w0:Wd) (I D:Addr) (B:Acc):Prop where
 hh:K.A.handled=none
 nI:nu K I
 nD:nu K D
 ne:I≠D
 hI:w0.n<=I
 hD:w0.n<=D
 hC:w0.n<=K.env.locals
 lim:∀a∈ez K.l,a<w0.n
 mono:∀{w w':Wd}{W:Addr->Prop}{done:List PV},Ev cx (ez K.l) W w w'->iB cx w D->¬W D->B D w done->B D w' done
structure CE(cx:Cx) (K:Kx) (w0:Wd) (D:Addr) (B:Acc) (g:Gm) (done:List PV) (w:Wd):Prop where
 at':At cx K g w
 ev:iC cx K.l w0 w
 pD:iB cx w D
 acc:B D w done
structure CJ(cx:Cx) (K:Kx) (w0:Wd) (I D:Addr) (B:Acc) (g:Gm) (ds done:List PV) (w:Wd):Prop where
 c:CE cx K w0 D B g done w
 it:vj cx w I ds
 pI:iB cx w I
 len:done.length+ds.length<=lim
inductive LI(cx:Cx) (K:Kx) (w0:Wd) (I D:Addr) (B:Acc) (g:Gm) (P:R (List PV)->Prop) (f:PV->aB->R (Option PV)) (n:Nat) (s:Shared):Prop
 |mk (ds done:List PV) (w:Wd) (hn:ds.length=n) (hs:w.s=s) (J:CJ cx K w0 I D B g ds done w) (T:P ((turns f ds w.st).bind fun l st=>ok (done++l) st))
section
variable {cx:Cx}{nm:Nat->Option Str}{w w' w0 w1:Wd}{K:Kx}{g:Gm}{v u:Value}{A:Around}{l:List Env}{E:Value->Shared->Prop}{d:PV}{ds done:List PV}{I D:Addr}{B:Acc}{x:Str}{ix:Nat}{P:R (List PV)->Prop}{f:PV->aB->R (Option PV)}{W W':Addr->Prop}
theorem Ev.wide{fr:List Addr}(y:Ev cx fr W w w') (h:∀a,W a->W' a):Ev cx fr W' w w':=⟨y.inv,y.size,fun a h1 h2 h3 h4 h5=>y.keep a h1 h2 h3 h4 fun q=>h5 (h a q),fun a h1 h2=>y.frame a h1 fun q=>h2 (h a q),y.sub,y.pre,y.out⟩
theorem Ev.over{fr:List Addr}(x:Ev cx fr W' w0 w) (y:Ev cx fr W w w') (hW:∀a,W a->w0.n<=a\/W' a) (hf:∀a∈fr,a<w0.n):Ev cx fr W' w0 w' where
 inv:=y.inv
 size:=Nat.le_trans x.size y.size
 keep a h1 h2 h3 h4 h5 o e:=y.keep a h1 (Nat.lt_of_lt_of_le h2 x.size) (x.out a h2 h3) h4 (fun q=>(hW a q).elim (fun q=>Nat.not_lt.mpr q h2) h5) o (x.keep a h1 h2 h3 h4 h5 o e)
 frame a h1 h2:=(x.frame a h1 h2).trans (y.frame a h1 fun q=>(hW a q).elim (fun q=>Nat.not_lt.mpr q (hf a h1)) h2)
 sub a o e:=y.sub a o (x.sub a o e)
 pre i p e:=y.pre i p (x.pre i p e)
 out a h1 h2:=y.out a (Nat.lt_of_lt_of_le h1 x.size) (x.out a h1 h2)
theorem At.weak{g':Gm}(X:At cx K g w) (h:∀(i:Nat) (a:AV),g'[i]? = some (some a)->g[i]? = some (some a)):At cx K g' w:=⟨X.inv,X.fr,X.eo,fun x i a e1 e2=>X.vars x i a e1 (h i a e2)⟩
theorem Wp.bn{α β γ:Type}{x:Sem α}{r:R β}{k:β->aB->R γ}{Rel:α->β->Wd->Prop}{P:R γ->Prop}{Q0:α->Shared->Prop}(hx:Wp cx A l w x r Rel) (hP:P Option.none->False) (T:P (r.bn k)) (go:∀b a w1,iC cx l w w1->Rel a b w1->P (k b w1.st)->Q0 a w1.s):wpAny (model cx.prog cx.w) A x Q0 E w.s :=
 hx Q0 E ⟨fun e=>hP (by rw[e] at T;exact T),fun b a w1 e ev rel=>go b a w1 ev rel (by subst e;exact T),fun m e w1 q _ _=>(hP (by subst q;exact T)).elim⟩
theorem qt{α γ:Type}{o:Option α}{k:α->Option γ}{P:Option γ->Prop}(hP:P Option.none->False) (T:P (Mine.oB o k)){p:Prop}(h:∀c,o=some c->P (k c)->p):p:=by
 induction o with
 |none=>exact(hP T).elim
 |some c=>exact h c rfl T
theorem CJ.next(F:CF cx K w0 I D B){Dm:List PV}{st2:aB}(J:CJ cx K w0 I D B (g.set ix (some (.t d))) ds done w1) (y:Ev cx (ez K.l) (fun a=>a=D) w1 w') (e:back w1.st.length w'.st=some st2)
  (acc:B D (w'.cut w1.st.length st2) Dm) (hl:Dm.length<=done.length+1) (hn:done.length+1+ds.length<=lim):CJ cx K w0 I D B (g.set ix none) ds Dm (w'.cut w1.st.length st2):=by
 have z:=y.back (n:=w1.st.length) (Nat.le_of_eq J.c.at'.inv.rel.len) e
 exact⟨⟨(J.c.at'.Bg z fun a q=>q▸F.nD).weak fun i a h=>by
   rw[List.getElem?_set] at h ⊢
   split at h
   ·split at h<;>cases h
   ·rename_i q;rw[if_neg q];exact h,
  J.c.ev.over z (fun a q=>.inl (q▸F.hD)) F.lim,J.c.pD.ev z,acc⟩,J.it.mv z J.pI F.nI.fr F.ne,J.pI.ev z,by omega⟩
theorem CJ.turn{px:Pos}{Rr:Result->Shared->Prop}{E1 E2:Value->Shared->Prop}{Bd:Shared->Prop}(F:CF cx K w0 I D B) (V:fS K x ix) (hx:K.env.kindOf x=some .local) (J:CJ cx K w0 I D B (g.set ix none) ds done w)
  (h0:∀s',ds=[]->CE cx K w0 D B (g.set ix none) done (w.at s')->Rr (.ok .next) s')
  (h1:∀d Cz s',ds=d::Cz->CJ cx K w0 I D B (g.set ix (some (.t d))) Cz done (w.at s')->done.length+1+Cz.length<=lim->Bd s') :
  wpAny (model cx.prog cx.w) K.A (pyNext (.ref I)) (fun r cz=>match r with
   |none=>Rr (.ok .next) cz
   |some v=>wpAny (model cx.prog cx.w) K.A (assign (.Name x px) K.env v) (fun _ w7=>Bd w7) E1 cz) E2 w.s:=by
 obtain⟨⟨X,ev,pD,acc⟩,it,pI,len⟩:=J
 induction ds with
 |nil =>
  exact it.done F.hh X.inv pI fun s' z=>h0 s' rfl ⟨X.Bg (z _) fun a q=>q▸F.nI,ev.over (z _) (fun a q=>.inl (q▸F.hI)) F.lim,pD.ev (z []),F.mono (z _) pD F.ne.symm acc⟩
 |cons d ds =>
  refine X.turn F.hh V pI F.nI it (M:=fun r cz=>match r with
   |none=>Rr (.ok .next) cz
   |some v=>wpAny (model cx.prog cx.w) K.A (assign (.Name x px) K.env v) (fun _ w7=>Bd w7) E1 cz) (fun v s' h=>h) fun b s' hb y X it=>?_
  have eb:b=K.env.locals:=by
   induction hb with
   |loc _ e=>exact e
   |cell k _=>cases hx.symm.trans k
  subst eb
  rw[List.length_cons] at len
  rw[List.set_set] at X
  exact h1 d ds s' rfl ⟨⟨X,ev.over y (fun a q=>.inl (q.elim (fun q=>q▸F.hI) fun q=>q▸F.hC)) F.lim,pD.ev y,F.mono y pD (fun q=>q.elim F.ne.symm F.nD.loc) acc⟩,it,pI.ev y,by omega⟩ (by omega)
noncomputable def Fz(cx:Cx) (K:Kx) (ifs:List Expr) (k:Gm->aB->R Bool):Prop :=
 ∀g w,At cx K g w->Wp cx K.A K.l w (forIn ifs true fun c r=>if r=true then do let ok <-isTrue c K.env (eval c K.env);pure (ForInStep.yield ok) else pure (ForInStep.yield r)) (k g w.st) J5
theorem Fz.nil:Fz cx K [] fun _ st=>ok true st:=fun _ _ X _ _ T=>wpAny_tests_nil (T.done X.inv rfl)
theorem Fz.one{c:Expr}{k:Kv}(h:ST cx K c k):Fz cx K [c] (k1 eY k):=fun g w X Q E T=>wpAny_tests_one (h g w X Q E T)
noncomputable def vt:Acc:=fun D w done=>∃us:List Value,w.h.PlainList D us.toArray/\bh w.G us done
theorem lQ{fr:List Addr}(hD:D∉fr) (y:Ev cx fr W w w') (p:iB cx w D) (h:¬W D):vt D w done->vt D w' done
 |⟨us,a,r⟩=>⟨us,a.at (y.obj p hD h),r.mono y.sub⟩
theorem bT.NW{γ:Type}{w1:Wd}{v:Value}{a:AV}{k:PV->aB->R γ}{P:R γ->Prop}(I:Inv cx w1) (r:cQ w1.G w1.as v a) (hP:P Option.none->False) (T:P ((Mine.eX w1.st a).bn k)){p:Prop}(h:∀d G' st',iC cx l w1 ⟨G',w1.as,st',w1.s⟩->Rep G' v d->P (k d st')->p):p:=by
 rcases nt (w:=w1) (a:=a) rfl with e|⟨d,st',e,e'⟩
 ·exact(hP (by rw[e] at T;exact T)).elim
 ·obtain⟨G',ev,r'⟩:=fO _ I r e
  exact h d G' st' (ev _ _) r' (by rw[e'] at T;exact T)
theorem t8{elt iter:Expr}{ifs:List Expr}{px pos:Pos}{sc':Scope}{kt:Gm->aB->R Bool}{ke:Kv}{Rr:Result->Shared->Prop}(F:CF cx K w0 I D vt) (V:fS K x ix) (hx:K.env.kindOf x=some .local) (ht:Fz cx K ifs kt) (he:SE cx K elt ke)
  (hP:P Option.none->False) (J:CJ cx K w0 I D vt (g.set ix none) ds [] w) (T:P (turns (ju ix kt ke g) ds w.st)) (hR:∀done w',CE cx K w0 D vt (g.set ix none) done w'->done.length<=lim->P (ok done w'.st)->Rr (.ok .next) w'.s) :
  codeAny (model cx.prog cx.w) K.A (.compLoop (.ListComp elt [⟨.Name x px,iter,ifs,0⟩] sc' pos) 0 (.ref I) (.ref D) K.env) Rr w.s:=by
 refine codeAny_compLoop_tests (LI cx K w0 I D vt (g.set ix none) P (ju ix kt ke g)) (fun n s L=>?_) ds.length ⟨ds,[],w,rfl,rfl,J,by
  have:(fun(l:List PV) st=>ok ([]++l) st)=ok:=rfl
  rw[this]
  cases h:turns (ju ix kt ke g) ds w.st with
  |none=>rw[h] at T;exact(hP T).elim
  |some z=>rw[h] at T;induction z<;>exact T⟩
 obtain⟨ds,done,w,rfl,rfl,J,T⟩:=L
 refine J.turn F V hx (fun s' e C=>?_) fun d Cz s' e J1 hn=>?_
 ·subst e;exact hR done (w.at s') C (Nat.le_trans (Nat.le_add_right ..) J.len) (by rw[<-List.append_nil done];exact T)
 ·subst e
  rw[rj] at T
  unfold ju at T
  rw[lP] at T
  refine(ht _ _ J1.c.at').bn hP T fun b c w3 e3 Wh T=>?_
  cases Wh
  cases b with
  |false =>
   refine qt hP T fun st2 e T=>?_
   exact⟨Cz.length,Nat.lt_succ_self _,.mk Cz done (w3.cut w.st.length st2) rfl rfl (J1.next F (e3.wide fun _ q=>q.elim) e (lQ (w':=w3) (W:=ou) F.nD.fr e3 J1.c.pD (fun q=>q) J1.c.acc :) (Nat.le_succ _) hn) (by rw[Option.toList,List.append_nil] at T;exact T)⟩
  |true =>
   rw[if_pos rfl,lP] at T
   refine(he _ _ (J1.c.at'.ev e3)).bn hP T fun a v w4 e4 rv T=>?_
   rw[lP] at T
   refine bT.NW (l:=K.l) e4.inv rv hP T fun d' G' st' e5 rd T=>qt hP T fun st2 e T=>?_
   have Dn:=(e3.trans e4).trans e5
   obtain⟨us,pl,ru⟩:=lQ F.nD.fr Dn J1.c.pD (fun q=>q) J1.c.acc
   have hsz:us.toArray.size<=sizeLine:=by rw[List.size_toArray,ru.length];exact Nat.le_trans (by omega:done.length<=lim) (by decide)
   refine wpAny_list_append_plain (hsz:=hsz) pl fun h6 R7 R8=>?_
   exact⟨Cz.length,Nat.lt_succ_self _,.mk Cz (done++[d']) _ rfl rfl (J1.next (w':=⟨G',w4.as,st',{ w4.s with heap:=h6 }⟩) F ((Dn.wide fun _ q=>q.elim).trans (e5.inv.dU (w:=⟨G',w4.as,st',w4.s⟩) (J1.c.pD.ev Dn) R8 rfl rfl)) e
    ⟨us++[v],by rw[<-List.push_toArray];exact R7,ru.append (.cons rd .nil)⟩ (by rw[List.length_append];exact Nat.le_refl _) hn) T⟩
end
structure R9(cx:Cx) (D:Addr) (w:Wd) (done:List PV) (ps:List (Tx×PV)) (kvs:List (Str×Value)):Prop where
 e:FW done=some ps
 d:w.h.DictOf (strKind cx.prog cx.w) D kvs
 len:kvs.length<=done.length
 sh:b9∉ps.map (·.1)
 r:(ps.map (·.1)).Nodup->kvs.map (·.1)=ps.map (fun p=>tx p.1)/\bh w.G (kvs.map (·.2)) (ps.map (·.2))
noncomputable def xN(cx:Cx):Acc:=fun D w done=>∃ps kvs,R9 cx D w done ps kvs
theorem Dp{k:Tx}{d:PV}{l:List PV}:∀{ps:List (Tx×PV)},FW l=some ps->FW (l++[.tup [.str k,d]])=some (ps++[(k,d)]):=by
 induction l with
 |nil=>exact fun e=>by(injection e with e;subst e);rfl
 |cons x l ih =>
  intro ps e
  have key:∀o:Option (Tx×PV),(match o with| some p=>(FW l).map (p::·)|none=>none)=some ps->(match o with| some p=>(FW (l++[.tup [.str k,d]])).map (p::·)|none=>none)=some (ps++[(k,d)]):=fun o e=>by
   induction o with
   |none=>injection e
   |some p =>
    obtain⟨qs,h,rfl⟩:=Option.map_eq_some_iff.mp e
    exact congrArg (Option.map (p::·)) (ih h)
  exact key (Nb x) e
section
variable {cx:Cx}{nm:Nat->Option Str}{w w' w0 w1:Wd}{K:Kx}{g:Gm}{v u:Value}{A:Around}{l:List Env}{E:Value->Shared->Prop}{d:PV}{ds done items:List PV}{I D:Addr}{B:Acc}{x:Str}{ix:Nat}{P:R (List PV)->Prop}{f:PV->aB->R (Option PV)}{W W':Addr->Prop}{nd:Node}{o:FO}{us:List Value}{scope:Scope}{px pos:Pos}{iter:Expr}
theorem t9{fr:List Addr}(hD:D∉fr) (y:Ev cx fr W w w') (p:iB cx w D) (h:¬W D):xN cx D w done->xN cx D w' done
 |⟨ps,kvs,a⟩=>⟨ps,kvs,a.e,a.d.at (y.obj p hD h),a.len,a.sh,fun n=>⟨(a.r n).1,(a.r n).2.mono y.sub⟩⟩
theorem zm{kx vx:Expr}{sc':Scope}{kk kv:Kv}{Rr:Result->Shared->Prop}(F:CF cx K w0 I D (xN cx)) (V:fS K x ix) (hx:K.env.kindOf x=some .local) (hk:SE cx K kx kk) (hv:SE cx K vx kv)
  (hP:P Option.none->False) (J:CJ cx K w0 I D (xN cx) (g.set ix none) ds [] w) (T:P (turns (oA ix kk kv g) ds w.st)) (hR:∀done w',CE cx K w0 D (xN cx) (g.set ix none) done w'->done.length<=lim->P (ok done w'.st)->Rr (.ok .next) w'.s) :
  codeAny (model cx.prog cx.w) K.A (.compLoop (.DictComp kx vx [⟨.Name x px,iter,[],0⟩] sc' pos) 0 (.ref I) (.ref D) K.env) Rr w.s:=by
 refine codeAny_compLoop_testsD (LI cx K w0 I D (xN cx) (g.set ix none) P (oA ix kk kv g)) (fun n s L=>?_) ds.length ⟨ds,[],w,rfl,rfl,J,by
  have:(fun(l:List PV) st=>ok ([]++l) st)=ok:=rfl
  rw[this]
  cases h:turns (oA ix kk kv g) ds w.st with
  |none=>rw[h] at T;exact(hP T).elim
  |some z=>rw[h] at T;induction z<;>exact T⟩
 obtain⟨ds,done,w,rfl,rfl,J,T⟩:=L
 refine J.turn F V hx (fun s' e C=>?_) fun d Cz s' e J1 hn=>wpAny_tests_nil ?_
 ·subst e;exact hR done (w.at s') C (Nat.le_trans (Nat.le_add_right ..) J.len) (by rw[<-List.append_nil done];exact T)
 ·subst e
  rw[if_pos rfl]
  rw[rj] at T
  unfold oA at T
  rw[lP] at T
  refine(hk _ _ J1.c.at').bn hP T fun b c w3 e3 rk T=>?_
  rw[lP] at T
  refine(hv _ _ (J1.c.at'.ev e3)).bn hP T fun a v w4 e4 rv T=>?_
  rw[lP] at T
  refine bT.NW (l:=K.l) e4.inv rv hP T fun d' G' st' e5 rd T=>?_
  induction b with
  |r=>exact(hP T).elim
  |t b=>cases b with
   |str kt =>
    cases rk with
    |ref _ q=>cases q
    |str _ tk _ =>
    by_cases hs:kt=[115,104,97,114,101,100]
    ·rw[JD,if_pos hs] at T;exact(hP T).elim
    ·rw[JD,if_neg hs] at T
     refine qt hP T fun st2 e T=>?_
     have Dn:=(e3.trans e4).trans e5
     obtain⟨ps,kvs,a⟩:=t9 F.nD.fr Dn J1.c.pD (fun q=>q) J1.c.acc
     refine wpAny_dictSet_pairs (knd:=strKind cx.prog cx.w) (k:=tx kt) (hsz:=Nat.le_trans a.len (Nat.le_trans (by omega:done.length<=lim) (by decide))) (strKind_is _ _ _ _) a.d fun h6 R7 R8=>?_
     exact⟨Cz.length,Nat.lt_succ_self _,.mk Cz (done++[PV.tup [PV.str kt,d']]) _ rfl rfl (J1.next (w':=⟨G',w4.as,st',{ w4.s with heap:=h6,toks:=w4.s.toks+1 }⟩) F ((Dn.wide fun _ q=>q.elim).trans (e5.inv.dU (w:=⟨G',w4.as,st',w4.s⟩) (J1.c.pD.ev Dn) R8 rfl rfl)) e
      ⟨ps++[(kt,d')],stored kvs (tx kt) v,Dp a.e,R7,by rw[List.length_append];exact Nat.le_trans (stored_length_le ..) (Nat.succ_le_succ a.len),fun q=>by
       rw[List.map_append] at q
       rcases List.mem_append.mp q with q|q
       ·exact a.sh q
       ·exact hs (List.mem_singleton.mp q).symm,fun n=>by
       rw[List.map_append] at n
       have JX:=List.nodup_append.mp n;have n1:=JX.1;have n3:=JX.2.2
       have Mw:=a.r n1;have r1:=Mw.1;have r2:=Mw.2
       have nk:tx kt∉kvs.map (·.1):=fun q=>by
        rw[r1] at q
        obtain⟨p,NX⟩:=List.mem_map.mp q;have hp:=NX.1;have he:=NX.2
        exact n3 p.1 (List.mem_map_of_mem hp) kt (.head _) (kr he)
       rw[stored_new nk,List.map_append,List.map_append,List.map_append,List.map_append,r1]
       exact⟨rfl,r2.append (.cons rd .nil)⟩⟩ (by rw[List.length_append];exact Nat.le_refl _) hn) T⟩
   |_=>exact(hP T).elim
theorem oJ{e:Expr}{Dq:Sem Value}{RR:Value->Addr->Result->Shared->Prop}(hs:sysModules<cx.cZ) (hh:K.A.handled=none) (X:At cx K g w) (O:ig K scope x ix) (it:Mu cx v items w)
  (Bt:∀(w':Wd) (Q:Value->Shared->Prop),(∀ob,B w'.n (w'.at { w'.s with heap:=w'.h.push ob }) []->Q (.ref w'.n) { w'.s with heap:=w'.h.push ob })->wpAny (model cx.prog cx.w) K.A Dq Q E w'.s)
  (mono:∀{D:Addr}{w w':Wd}{W:Addr->Prop}{done:List PV},D∉ez K.l->Ev cx (ez K.l) W w w'->iB cx w D->¬W D->B D w done->B D w' done)
  (NY:∀I D C s4,CF cx (jx K scope x ix C) w I D B->CJ cx (jx K scope x ix C) w I D B (g.set ix none) items [] (w.at s4)->codeAny (model cx.prog cx.w) K.A (.compStart e 0 (.ref I) (.ref D) (compEnvC scope (jc scope K.env) C K.env)) (RR (.ref D) C) s4) :
  wpAny (model cx.prog cx.w) K.A (pyIter v) (fun it w7=>wpAny (model cx.prog cx.w) K.A Dq (fun acc Kn=>wpAny (model cx.prog cx.w) K.A (newFunctionEnv scope K.env.globals (jc scope K.env) [] K.env.qual none .none (some K.env)) (fun NZ Sa =>
    codeAny (model cx.prog cx.w) K.A (.compStart e 0 it acc { NZ with scope:=relabel scope K.env }) (RR acc NZ.locals) Sa) E Kn) E w7) E w.s:=by
 refine it.iter hs X.inv fun yR Sb=>?_
 have e2:iC cx K.l w (w.at { w.s with heap:=w.h.push yR }):=iR.push.ev X.inv
 refine Bt (w.at { w.s with heap:=w.h.push yR }) _ fun GF acc=>?_
 have e3:iC cx K.l (w.at { w.s with heap:=w.h.push yR }) (w.at { w.s with heap:=(w.h.push yR).push GF }):=iR.push.ev e2.inv
 refine wpAny_newFunctionEnv O.ri (fun _ h=>nomatch h) (fun h4 hn N5=>?_) O.kind
 have e4:iC cx K.l (w.at { w.s with heap:=(w.h.push yR).push GF }) (w.at { w.s with heap:=h4,toks:=w.s.toks+0 }) :=
  e3.inv.keeps (fun b o q=>(N5.2 b (Nat.ne_of_lt (Heap.lt_size q))).trans (Heap.get?_push_of_some _ q)) rfl rfl (by rw[N5.1];exact Nat.le_trans (Nat.le_succ _) (Nat.le_of_eq (Heap.size_push ..).symm))
 have z1:(w.h.push yR).objs.size=w.n+1:=Heap.size_push ..
 have z2:((w.h.push yR).push GF).objs.size=w.n+2:=(Heap.size_push ..).trans (congrArg Nat.succ z1)
 have p1:=iB.new (ob:=yR) X.inv
 have p2:=iB.new (ob:=GF) e2.inv
 have hC:iB cx (w.at { w.s with heap:=h4,toks:=w.s.toks+0 }) ((w.h.push yR).push GF).objs.size :=
  ⟨Nat.le_trans X.inv.ge (by rw[z2];exact Nat.le_add_right ..),by show _<h4.objs.size;rw[N5.1];exact Nat.lt_of_lt_of_le (Nat.lt_succ_self _) (Nat.le_of_eq (Heap.size_push ..).symm),X.inv.rel.mC (by show w.n<=_;rw[z2];exact Nat.le_add_right ..)⟩
 have lc:∀y c,K.env.cells.lookup y=some c->c<w.n:=fun y c q=>(X.eo.cell y c q).dU.lt
 have fresh:∀a,w.n<=a->a<w.n+2->nu (jx K scope x ix ((w.h.push yR).push GF).objs.size) a:=fun a h1 h2 =>
  ⟨X.fr.fresh h1,fun q=>by rw[show a=((w.h.push yR).push GF).objs.size from q,z2] at h2;exact Nat.lt_irrefl _ h2,fun y c q z=>Nat.not_lt.mpr h1 (z▸lc y c (O.up X.eo q))⟩
 have n1:(w.at { w.s with heap:=w.h.push yR }).n=w.n+1:=z1
 have QO:=e3.trans e4
 have hD:w.n∉ez K.l:=X.fr.fresh (Nat.le_refl _)
 have UR:(w.at { w.s with heap:=w.h.push yR }).n∉ez K.l:=X.fr.fresh (by rw[n1];exact Nat.le_succ _)
 refine NY w.n (w.at { w.s with heap:=w.h.push yR }).n _ _ ⟨hh,fresh _ (Nat.le_refl _) (by omega),fresh _ (by rw[n1];exact Nat.le_succ _) (by rw[n1];omega),by rw[n1];exact Nat.ne_of_lt (Nat.lt_succ_self _),Nat.le_refl _,by rw[n1];exact Nat.le_succ _,
  by show w.n<=((w.h.push yR).push GF).objs.size;rw[z2];exact Nat.le_add_right ..,fun a q=>(X.fr.at' a q).lt,fun y p n b=>mono UR y p n b⟩
  ⟨⟨At.comp O ((X.ev e2).ev QO) hC ⟨_,hn⟩ fun y c q z=>?_,e2.trans QO,p2.ev e4,mono UR e4 p2 (fun q=>q) acc⟩,Sb.mv QO p1 hD fun q=>q,p1.ev QO,by rw[List.length_nil,Nat.zero_add];exact it.lim⟩
 refine Nat.not_lt.mpr ?_ (lc y c q)
 show w.n<=c
 rw[z]
 show w.n<=((w.h.push yR).push GF).objs.size
 rw[z2]
 exact Nat.le_add_right ..
structure N6(cx:Cx) (l:List Env) (w0 w:Wd) (C:Addr):Prop where
 ev:iC cx l w0 w
 pC:iB cx w C
 ns:∃m,w.h.Ns C m
theorem CE.fin(F:CF cx K w0 I D B) (c:CE cx K w0 D B g done w) (e:Cv nd=some d) (i:Is cx w.h D o) (lv:∃o,w.h.get? D=some o) (q:Sh o d us ds) (r:bh w.G us ds):N6 cx K.l w0 (w.push (D,0) nd w.s) K.env.locals where
 ev:=c.at'.inv.adopt c.pD (Heap.SameBut.refl ..) rfl rfl e i lv q r (c.ev.wide fun _ q=>q.elim) F.hD
 pC:=⟨c.at'.eo.dU.ge,c.at'.eo.dU.lt,(cE fun q=>F.nD.loc (List.mem_singleton.mp (qS (p:=(D,0)) e▸q)).symm).trans c.at'.eo.dU.out⟩
 ns:=c.at'.eo.ns
inductive N7(cx:Cx) (w:Wd) (D:Addr) (nd:Node):Prop
 |mk (d:PV) (o:FO) (us:List Value) (ds:List PV) (e:Cv nd=some d) (i:Is cx w.h D o) (lv:∃o,w.h.get? D=some o) (q:Sh o d us ds) (r:bh w.G us ds)
theorem ua(hl:done.length<=lim):vt D w done->N7 cx w D (.lst done)
 |⟨us,⟨n,e⟩,r⟩=>.mk _ (.lst us n) us done rfl e ⟨_,e⟩ (.lst hl) r
theorem Bu{ps:List (Tx×PV)}(hl:done.length<=lim) (e:FW done=some ps) (n:(ps.map (·.1)).Nodup):xN cx D w done->N7 cx w D (.aK ps)
 |⟨ps',kvs,a⟩=>by
  injection a.e.symm.trans e with zx;subst zx
  obtain⟨r1,r2⟩:=a.r n
  obtain⟨ep,di⟩:=a.d.dictAt
  refine .mk _ (.dS kvs ep) _ _ rfl di (let⟨_,_,e,_⟩:=di;⟨_,e⟩) (.dS ?_ r1 fun q=>?_) r2
  ·rw[<-List.length_map (f:=fun p:Tx×PV=>tx p.1),<-r1,List.length_map];exact Nat.le_trans a.len hl
  ·rw[r1] at q
   obtain⟨p,hp,he⟩:=List.mem_map.mp q
   exact a.sh (List.mem_map.mpr ⟨p,hp,lI he⟩)
theorem SE.comp{elt:Expr}{ifs:List Expr}{k:Gm->aB->R (List PV)}{kt:Gm->aB->R Bool}{ke:Kv}(B:Base cx nm) (hh:K.A.handled=none) (O:ig K scope x ix) (hs:∀y,foldedSetIterable iter K.env y=pure y)
  (h1:Src cx K iter k) (ht:∀C,Fz cx (jx K scope x ix C) ifs kt) (he:∀C,SE cx (jx K scope x ix C) elt ke):SE cx K (.ListComp elt [⟨.Name x px,iter,ifs,0⟩] scope pos) (qI k (ju ix kt ke)):=fun g w X Q E T=>by
 rw[eval_ListComp]
 refine wpAny_comprehension_free (use:=none) rfl hs (gM (O.has X.eo)) O.kind O.locals ((h1 g w X).step T fun items v w1 e1 it T=>?_)
 refine oJ (RR:=fun acc C=>compPost (model cx.prog cx.w) K.A E none Q acc C) (B:=vt) B.sys hh (X.ev e1) O it (fun w' Q h=>wpAny_newList (h _ ⟨[],⟨_,Heap.get?_push_size _ rfl⟩,.nil⟩)) (fun hD y p n b=>lQ hD y p n b) fun I D C s4 F J=>?_
 have loop:=t8 (elt:=elt) (iter:=iter) (px:=px) (pos:=pos) (sc':=scope) (Rr:=compPost (model cx.prog cx.w) K.A E none Q (.ref D) C) (P:=fun r=>bT cx K.l w1 (r.bind fun l st=>alloc st (.lst l)) cH Q E) F O.R6 (by show Env.kindOf (compEnvC ..) x=_;rw[gA,O.NV];rfl) (ht C) (he C) (fun T=>T.no) J T fun done w' c hl T=>by
  induction ua (cx:=cx) hl c.acc with
  |mk d o us ds e i lv q r =>
   obtain⟨ev,pC,m,hm⟩:=c.fin F e i lv q r
   exact⟨m,hm,fun h' IL=>T.ok _ _ ((w'.push (D,0) (.lst done) w'.s).at { w'.s with heap:=h' }) rfl (ev.over (ev.inv.dU (fr:=ez K.l) pC IL rfl rfl) (fun a q=>.inl (q▸F.hC)) F.lim) (.mk _ (gy c.at'.inv.rel.len.symm) rfl)⟩
 exact codeAny_compStart_list loop (J.it.self loop)
end
noncomputable def Dr(env:Env) (a:Addr):Prop:=a=env.locals\/∃x,env.cells.lookup x=some a
abbrev Ds(cx:Cx) (K:Kx) (w w':Wd):Prop:=Ev cx (ez K.l) (Dr K.env) w w'
structure gS(cx:Cx) (K:Kx) (w:Wd) (r:Option Out) (Q:Flow->Shared->Prop) (E:Value->Shared->Prop):Prop where
 ne:r≠none
 next:∀(g:Gm) (w':Wd),r=some (.next g w'.st)->Ds cx K w w'->At cx K g w'->Q .next w'.s
 cont:∀(g:Gm) (w':Wd),r=some (.cont g w'.st)->Ds cx K w w'->At cx K g w'->Q .cont w'.s
 ret:∀(a:AV) (v:Value) (g:Gm) (w':Wd),r=some (.ret a w'.st)->Ds cx K w w'->At cx K g w'->cQ w'.G w'.as v a->Q (.ret v) w'.s
 exc:∀(m:Tx) (e:Value) (g:Gm) (w':Wd),r=some (.exc m w'.st)->Ds cx K w w'->At cx K g w'->xB cx K.l w.n w' e m->E e w'.s
noncomputable def jK(cx:Cx) (K:Kx) (x:Stmt) (f:Ks):Prop:=∀g w,At cx K g w->∀Q E,gS cx K w (f g w.st) Q E->wpAny (model cx.prog cx.w) K.A (exec x K.env) Q E w.s
noncomputable def sZ(cx:Cx) (K:Kx) (x:List Stmt) (f:Ks):Prop:=∀g w,At cx K g w->∀Q E,gS cx K w (f g w.st) Q E->wpAny (model cx.prog cx.w) K.A (execs x K.env) Q E w.s
section
variable {cx:Cx}{nm:Nat->Option Str}{w w' w0 w1:Wd}{K:Kx}{g g':Gm}{v u:Value}{a:AV}{Q:Flow->Shared->Prop}{E:Value->Shared->Prop}{d:PV}{r:Option Out}{x y:Str}{i ix:Nat}{e:Expr}{f:Kv}{px py pos oM:Pos}{F G:Ks}{scope:Scope}{iter:Expr}{W:Addr->Prop}
theorem gS.no{p:Prop}(T:gS cx K w none Q E):p:=absurd rfl T.ne
theorem gS.later(T:gS cx K w r Q E) (ev:Ds cx K w w'):gS cx K w' r Q E :=
 ⟨T.ne,fun g w1 e y=>T.next g w1 e (ev.trans y),fun g w1 e y=>T.cont g w1 e (ev.trans y),fun a v g w1 e y=>T.ret a v g w1 e (ev.trans y),fun m e g w1 q y X z=>T.exc m e g w1 q (ev.trans y) X (z.mono ev.size)⟩
theorem Ev.oN{fr:List Addr}(y:Ev cx fr ou w w'):Ev cx fr W w w':=y.wide fun _ q=>q.elim
theorem Wp.oN{α β:Type}{x:Sem α}{r:R β}{k:β->aB->Option Out}{Rel:α->β->Wd->Prop}{Q0:α->Shared->Prop}(hx:Wp cx K.A K.l w x r Rel) (X:At cx K g w) (T:gS cx K w (r.out k) Q E)
  (go:∀b a w',iC cx K.l w w'->At cx K g w'->Rel a b w'->gS cx K w' (k b w'.st) Q E->Q0 a w'.s):wpAny (model cx.prog cx.w) K.A x Q0 E w.s :=
 hx Q0 E ⟨fun e=>T.ne (by rw[e];rfl),fun b a w' e ev rel=>go b a w' ev (X.ev ev) rel (by subst e;exact gS.later T ev.oN),fun m e w' q ev z=>by subst q;exact T.exc m e g w' rfl ev.oN (X.ev ev) z.toS⟩
theorem gS.done(T:gS cx K w (some (.next g w.st)) Q E) (X:At cx K g w):Q .next w.s:=T.next g w rfl (.refl X.inv) X
theorem gS.oB{γ:Type}{o:Option γ}{k:γ->Option Out}(T:gS cx K w (Mine.oB o k) Q E){p:Prop}(h:∀c,o=some c->gS cx K w (k c) Q E->p):p:=by
 induction o with
 |none=>exact T.no
 |some c=>exact h c rfl T
theorem rm{α β:Type}{r:R α}{p:α->aB->R β}{q:β->aB->Option Out}:(r.bind p).out q=r.out fun a st=>(p a st).out q:=by
 induction r with
 |none=>rfl
 |some z=>induction z<;>rfl
theorem jK.bad{x:Stmt}:jK cx K x fun _ _=>none:=fun _ _ _ _ _ T=>T.no
theorem sZ.nil:sZ cx K [] fun g st=>some (.next g st):=fun _ _ X _ _ T=>wpAny_execs_nil (T.done X)
theorem sZ.cons{x:Stmt}{xs:List Stmt}(h1:jK cx K x F) (h2:sZ cx K xs G):sZ cx K (x::xs) (JF F G):=fun g w X Q E T=>by
 unfold JF at T
 refine wpAny_execs_cons (h1 g w X _ _ ⟨fun q=>T.ne (by rw[q]),fun g1 w1 e ev X1=>?_,fun g1 w1 e ev X1=>?_,fun a v g1 w1 e ev X1 r=>?_,fun m u g1 w1 e ev X1 q=>?_⟩)
 ·rw[e] at T;exact h2 g1 w1 X1 Q E (T.later ev)
 ·rw[e] at T;exact T.cont g1 w1 rfl ev X1
 ·rw[e] at T;exact T.ret a v g1 w1 rfl ev X1 r
 ·rw[e] at T;exact T.exc m u g1 w1 rfl ev X1 q
theorem oO{Q0:Unit->Shared->Prop}(X:At cx K g w) (V:fS K x i) (r:cQ w.G w.as v a) (h:∀s',Ds cx K w (w.at s')->At cx K (g.set i (some a)) (w.at s')->Q0 () s'):wpAny (model cx.prog cx.w) K.A (storeName K.env x v) Q0 E w.s :=
 qQ X V r fun b s' hb ev X'=>h s' (ev.wide fun c q=>by
  induction hb with
  |loc _ e=>exact .inl (q.trans e)
  |cell _ e=>exact .inr ⟨x,q▸e⟩) X'
theorem jK.assign(hs:swapsWith e (some (.Name x px)) pos.line K.env=pure false) (V:fS K x i) (h:SE cx K e f):jK cx K (.Assign [.Name x px] e pos) (iA i f):=fun g w X Q E T =>
 wpAny_Assign_Name ((h g w X).oN X T fun _ _ _ _ X1 r T=>oO X1 V r fun s' ev X2=>T.next _ (Wd.at _ s') rfl ev X2) hs
theorem jK.ret(h:SE cx K e f):jK cx K (.Return (some e) pos) (Nr f):=fun g w X Q E T=>wpAny_Return_some ((h g w X).oN X T fun a v w1 _ X1 r T=>T.ret a v g w1 rfl (.refl X1.inv) X1 r)
theorem jK.FP:jK cx K (.Return none pos) fun _ st=>some (.ret (.t .none) st):=fun g w X Q E T=>wpAny_Return_none (T.ret _ .none g w rfl (.refl X.inv) X Rep.none)
theorem jK.cont:jK cx K (.Continue pos) fun g st=>some (.cont g st):=fun g w X Q E T=>wpAny_Continue (T.cont g w rfl (.refl X.inv) X)
theorem jK.expr(hi:interactive K.env=false) (hs:swapsWith e none pos.line K.env=pure false) (h:SE cx K e f):jK cx K (.Expr e pos) (IC f):=fun g w X Q E T=>wpAny_Expr_any ((h g w X).oN X T fun _ _ _ _ X1 _ T=>T.done X1) hi hs
theorem jK.ifs{xs ys:List Stmt}(h:ST cx K e f) (h1:sZ cx K xs F) (h2:sZ cx K ys G):jK cx K (.If e xs ys pos) (F5 f F G):=fun g w X Q E T=>by
 have e0:F5 f F G g w.st=(k1 eY f g w.st).out fun b st=>gq (some b) (F g st) (G g st):=by
  unfold k1
  rw[rm]
  unfold F5
  refine congrArg _ (funext fun a=>funext fun st=>?_)
  unfold eY
  cases cV st a<;>rfl
 rw[e0] at T
 refine wpAny_If ((h g w X).oN X T fun b c w1 _ X1 r T=>?_)
 cases r
 cases b with
 |true=>exact h1 g w1 X1 Q E T
 |false=>exact h2 g w1 X1 Q E T
theorem uc{D C:Addr}{n:Nat}{j:Nat}(X:At cx K g w0) (z:N6 cx K.l w0 w C) (V:fS K y j) (hC:w0.n<=C) (r:cQ w.G w.as (.ref D) (.r n)) (T:gS cx K w0 (some (.next (g.set j (some (.r n))) w.st)) Q E) :
  wpAny (model cx.prog cx.w) K.A (assign (.Name y py) K.env (.ref D)) (fun _ N8=>∃m,N8.heap.Ns C m/\∀h',Heap.SameBut C N8.heap h'->Q .next { N8 with heap:=h' }) E w.s:=by
 have fC:nu K C:=⟨X.fr.fresh hC,fun q=>Nat.not_lt.mpr hC (q▸X.eo.dU.lt),fun y c e q=>Nat.not_lt.mpr hC (q▸(X.eo.cell y c e).dU.lt)⟩
 obtain⟨m,hm⟩:=z.ns
 refine wpAny_assign_Name (qQ (X.ev z.ev) V r fun b s3 hb IS X3=>?_)
 have nb:C≠b:=by
  induction hb with
  |loc _ e=>exact e▸fC.loc
  |cell _ e=>exact(fC.cell _ _ e).symm
 have pC:=z.pC.ev IS
 have ev:Ds cx K w0 (w.at s3):=z.ev.oN.trans (IS.wide fun c q=>by
  induction hb with
  |loc _ e=>exact .inl (q.trans e)
  |cell _ e=>exact .inr ⟨y,q▸e⟩)
 refine⟨m,xC IS z.pC nb hm,fun h4 N5=>?_⟩
 have Mx:=X3.inv.dU (fr:=ez K.l) (s':={ s3 with heap:=h4 }) pC N5 rfl rfl
 exact T.next _ ((w.at s3).at { s3 with heap:=h4 }) rfl (ev.over Mx (fun a q=>.inl (q▸hC)) fun a q=>(X.fr.at' a q).lt) (X3.Bg Mx fun a q=>q▸fC)
theorem jK.zo{elt:Expr}{ifs:List Expr}{k:Gm->aB->R (List PV)}{kt:Gm->aB->R Bool}{ke:Kv}{j:Nat}(B:Base cx nm) (hh:K.A.handled=none) (O:ig K scope x ix) (hf:∀y,foldedSetIterable iter K.env y=pure y)
  (hs:swapsWith (.ListComp elt [⟨.Name x px,iter,ifs,0⟩] scope oM) (some (.Name y py)) pos.line K.env=pure true) (V:fS K y j)
  (h1:Src cx K iter k) (ht:∀C,Fz cx (jx K scope x ix C) ifs kt) (he:∀C,SE cx (jx K scope x ix C) elt ke):jK cx K (.Assign [.Name y py] (.ListComp elt [⟨.Name x px,iter,ifs,0⟩] scope oM) pos) (iA j (qI k (ju ix kt ke))):=fun g w X Q E T=>by
 unfold iA qI at T
 rw[rm] at T
 rw[exec_Assign_Name_used _ _ _ _ hs]
 refine wpAny_bind (wpAny_standAt (wpAny_bind ?_))
 show wpAny _ K.A (do let _ <-comprehension (.ListComp elt [⟨.Name x px,iter,ifs,0⟩] scope oM) scope K.env _ (newList []) false (eval iter K.env) (some (PySem.assign (.Name y py) K.env))) _ _ w.s
 refine wpAny_bind (wpAny_mono (wpAny_comprehension_free (use:=some (PySem.assign (.Name y py) K.env)) (Q:=fun _ s'=>Q .next s') rfl hf (gM (O.has X.eo)) O.kind O.locals ((h1 g w X).oN X T fun items v w1 e1 X1 it T=>?_)) (fun _ s' hq=>wpAny_pure (wpAny_pure hq)) fun _ _ e=>e)
 refine oJ (RR:=fun acc C=>compPost (model cx.prog cx.w) K.A E (some (PySem.assign (.Name y py) K.env)) (fun _ s'=>Q .next s') acc C) (B:=vt) B.sys hh X1 O it (fun w' Q h=>wpAny_newList (h _ ⟨[],⟨_,Heap.get?_push_size _ rfl⟩,.nil⟩)) (fun hD y p n b=>lQ hD y p n b) fun I D C s4 F J=>?_
 have loop:=t8 (elt:=elt) (iter:=iter) (px:=px) (pos:=oM) (sc':=scope) (Rr:=compPost (model cx.prog cx.w) K.A E (some (PySem.assign (.Name y py) K.env)) (fun _ s'=>Q .next s') (.ref D) C) (P:=fun r=>gS cx K w1 ((r.bind fun l st=>alloc st (.lst l)).out fun a st=>some (.next (g.set j (some a)) st)) Q E) F O.R6 (by show Env.kindOf (compEnvC ..) x=_;rw[gA,O.NV];rfl) (ht C) (he C) (fun T=>T.no) J T fun done w' c hl T=>by
  induction ua (cx:=cx) hl c.acc with
  |mk d o us ds e i lv q r=>exact uc (w:=w'.push (D,0) (.lst done) w'.s) X1 (c.fin F e i lv q r) V F.hC (.mk _ (gy c.at'.inv.rel.len.symm) rfl) T
 exact codeAny_compStart_list loop (J.it.self loop)
theorem jK.xO{kx vx:Expr}{k:Gm->aB->R (List PV)}{kk kv:Kv}{j:Nat}(B:Base cx nm) (hh:K.A.handled=none) (O:ig K scope x ix) (hf:∀y,foldedSetIterable iter K.env y=pure y)
  (hs:swapsWith (.DictComp kx vx [⟨.Name x px,iter,[],0⟩] scope oM) (some (.Name y py)) pos.line K.env=pure true) (V:fS K y j)
  (h1:Src cx K iter k) (hk:∀C,SE cx (jx K scope x ix C) kx kk) (hv:∀C,SE cx (jx K scope x ix C) vx kv):jK cx K (.Assign [.Name y py] (.DictComp kx vx [⟨.Name x px,iter,[],0⟩] scope oM) pos) (iA j (za k (oA ix kk kv))):=fun g w X Q E T=>by
 unfold iA za at T
 rw[rm] at T
 rw[exec_Assign_Name_used _ _ _ _ hs]
 refine wpAny_bind (wpAny_standAt (wpAny_bind ?_))
 show wpAny _ K.A (do let _ <-comprehension (.DictComp kx vx [⟨.Name x px,iter,[],0⟩] scope oM) scope K.env _ newDict false (eval iter K.env) (some (PySem.assign (.Name y py) K.env))) _ _ w.s
 refine wpAny_bind (wpAny_mono (wpAny_comprehension_free (use:=some (PySem.assign (.Name y py) K.env)) (Q:=fun _ s'=>Q .next s') rfl hf (gM (O.has X.eo)) O.kind O.locals ((h1 g w X).oN X T fun items v w1 e1 X1 it T=>?_)) (fun _ s' hq=>wpAny_pure (wpAny_pure hq)) fun _ _ e=>e)
 refine oJ (RR:=fun acc C=>compPost (model cx.prog cx.w) K.A E (some (PySem.assign (.Name y py) K.env)) (fun _ s'=>Q .next s') acc C) (B:=xN cx) B.sys hh X1 O it (fun w' Q h=>?_) (fun hD y p n b=>t9 hD y p n b) fun I D C s4 F J=>?_
 ·simp only[newDict,newObj]
  exact wpAny_bind (wpAny_alloc (wpAny_pure (h _ ⟨[],[],rfl,Heap.DictOf.new _,Nat.le_refl _,List.not_mem_nil,fun _=>⟨rfl,.nil⟩⟩)))
 have loop:=zm (iter:=iter) (px:=px) (pos:=oM) (sc':=scope) (Rr:=compPost (model cx.prog cx.w) K.A E (some (PySem.assign (.Name y py) K.env)) (fun _ s'=>Q .next s') (.ref D) C) (P:=fun r=>gS cx K w1 ((r.bind F2).out fun a st=>some (.next (g.set j (some a)) st)) Q E) F O.R6 (by show Env.kindOf (compEnvC ..) x=_;rw[gA,O.NV];rfl) (hk C) (hv C) (fun T=>T.no) J T fun done w' c hl T=>by
  have T:gS cx K w1 (R.out (F2 done w'.st) fun a st=>some (.next (g.set j (some a)) st)) Q E:=T
  unfold F2 at T
  cases hp:FW done with
  |none=>rw[hp] at T;exact T.no
  |some ps =>
   rw[hp] at T
   by_cases hn:(ps.map (·.1)).Nodup
   ·unfold oB at T
    dsimp only at T
    rw[if_pos hn] at T
    induction Bu hl hp hn c.acc with
    |mk d o us ds e i lv q r=>exact uc (w:=w'.push (D,0) (.aK ps) w'.s) X1 (c.fin F e i lv q r) V F.hC (.mk _ (gy c.at'.inv.rel.len.symm) rfl) T
   ·unfold oB at T
    dsimp only at T
    rw[if_neg hn] at T;exact T.no
 exact codeAny_compStart_dict loop (J.it.self loop)
end
theorem rq:∀f∈fu,tx f∈fieldNames:=by decide
theorem jL:tx b9=fj:=by decide
section
variable {cx:Cx}{nm:Nat->Option Str}{w w':Wd}{K:Kx}{g:Gm}{v u:Value}{a b:AV}{A:Around}{E:Value->Shared->Prop}{d:PV}{i:Nat}{p:Pl}{nd nd':Node}{fr:List Addr}{W:Addr->Prop}{s':Shared}{c:Addr}{x dx C:Addr}{m:Str->Option Value}{f:Tx}{h h':Heap}{cl:ie}{gs:List (Tx×Value)}{fs:List (Tx×AV)}{G:Addr->Lg}{as:List Pl}{st':aB}
theorem Inv.Sd(I:Inv cx w) (e1:w.as[i]? = some p) (e2:w.st[i]? = some nd) (ho:∀a∈own nd' p,a∈own nd p) (hc:c∈own nd p) (hs:Heap.ExtBut c w.h s'.heap) (hz:w.n<=s'.heap.objs.size) (h1:s'.os=w.s.os) (h2:s'.gens=w.s.gens)
  (lv:∃o,s'.heap.get? c=some o) (r:gu cx w.G w.as s'.heap p nd') (hf:∀a∈fr,w.G a=.out):Ev cx fr W w ⟨w.G,w.as,w.st.set i nd',s'⟩:=by
 have fq:=I.rel.fq i p nd e1 e2 c hc
 have qN:∀a,w.G a=.out->a≠c:=fun a h q=>by rw[q,fq] at h;injection h
 have hp:cx.cZ<=c:=I.rel.lo _ (fq▸fun q=>by injection q)
 have same:∀a,a≠c->(∃o,w.h.get? a=some o)->s'.heap.get? a=w.h.get? a:=fun a q ⟨o,e⟩=>(hs a o q e).trans e.symm
 have nC:cx.P≠c:=Nat.ne_of_lt (Nat.lt_of_lt_of_le I.jb hp)
 exact⟨⟨I.rel.set e1 e2 ho (fun a h g=>same a (fun q=>h (q▸hc)) (I.rel.live a g)) (fun a h=>by
   by_cases q:a=c
   ·exact q▸lv
   ·obtain⟨o,e⟩:=I.rel.live a (I.rel.fq i p nd e1 e2 a h▸fun q=>by injection q)
    exact⟨o,hs a o q e⟩) r,
  qP I.old hp hs,h1.trans I.os,h2.trans I.gens,I.lim.extBut hs (Nat.ne_of_lt (Nat.lt_of_lt_of_le I.low hp)),I.low,I.jb,Nat.le_trans I.ge hz,let⟨_,e,_,_⟩:=I.tab;ku.step (w:=w) (w':=⟨w.G,w.as,w.st.set i nd',s'⟩) (same _ nC ⟨_,e⟩) (fun _ _ q=>q) I.tab⟩,
  hz,fun a _ _ h _ _ o e=>hs a o (qN a h) e,fun a h _ o e=>⟨o.slots,hs a o (qN a (hf a h)) e⟩,fun _ _ q=>q,fun _ _ q=>q,fun _ _ q=>q⟩
theorem Ns1.unique{m m':Str->Option Value}(x:h.Ns1 dx m) (y:h.Ns1 dx m'):m=m':=Ns.unique x.ns y.ns
theorem mz.share(hi:gm h x dx C m) (QS:gm h' x dx C fun y=>if y=fj then some v else m y) (hs:Heap.ExtBut dx h h'):mz cx h c dx cl gs->mz cx h' c dx cl gs
 |.mk m2 (.mk o2 e2 c2 nd2 hd2 ne2 n2 ed2 w2) sh f=>by
  obtain⟨o,e,cc,nd,hd,ne,n,ed,ww⟩:=hi
  obtain⟨_,_,_,_,_,_,n',ed',w'⟩:=QS
  cases Ns1.unique n n2
  exact .mk _ (.mk o2 (hs _ _ ne2.symm e2) c2 nd2 hd2 ne2 n' ed' w') (fun _=>⟨v,if_pos rfl⟩) fun p hp=>⟨(f p hp).1,(if_neg (f p hp).1).trans (f p hp).2⟩
theorem Inv.shared(I:Inv cx w) (hd:w.G dx=.fz .pq) (hs:Heap.ExtBut dx w.h s'.heap) (hz:w.n<=s'.heap.objs.size) (h1:s'.os=w.s.os) (h2:s'.gens=w.s.gens) (lv:∃o,s'.heap.get? dx=some o)
  (hu:∀{c cl gs},mz cx w.h c dx cl gs->mz cx s'.heap c dx cl gs) (hf:∀a∈fr,w.G a=.out):Ev cx fr W w (w.at s'):=by
 have S:=I.rel
 have qN:∀a,w.G a=.out->a≠dx:=fun a h q=>by rw[q,hd] at h;injection h
 have hp:cx.cZ<=dx:=S.lo _ (hd▸fun q=>by injection q)
 have same:∀a,a≠dx->(∃o,w.h.get? a=some o)->s'.heap.get? a=w.h.get? a:=fun a q ⟨o,e⟩=>(hs a o q e).trans e.symm
 have k:∀a,a≠dx->w.G a≠.out->s'.heap.get? a=w.h.get? a:=fun a q g=>same a q (S.live a g)
 refine⟨⟨⟨S.len,fun i p nd e1 e2=>(S.nodes i p nd e1 e2).congr fun a ha=>?_,S.fq,fun a o e=>?_,S.pq,S.lo,fun a ha=>?_⟩,qP I.old hp hs,h1.trans I.os,h2.trans I.gens,I.lim.extBut hs (Nat.ne_of_lt (Nat.lt_of_lt_of_le I.low hp)),I.low,I.jb,Nat.le_trans I.ge hz,
  let⟨_,e,_,_⟩:=I.tab;I.tab.step (same _ (Nat.ne_of_lt (Nat.lt_of_lt_of_le I.jb hp)) ⟨_,e⟩) fun _ _ q=>q⟩,hz,fun a _ _ h _ _ o e=>hs a o (qN a h) e,fun a h _ o e=>⟨o.slots,hs a o (qN a (hf a h)) e⟩,fun _ _ q=>q,fun _ _ q=>q,fun _ _ q=>q⟩
 ·have g:=S.fq i p nd e1 e2 a ha
  exact k a (fun q=>by rw[q,hd] at g;injection g) (g▸fun q=>by injection q)
 ·by_cases q:a=dx
  ·rw[q,hd] at e;(injection e with e;subst e);trivial
  ·have ka:=k a q (e▸fun q=>by injection q)
   by_cases z:∃c gs,o=.ins c dx gs
   ·obtain⟨c,gs,rfl⟩:=z;exact hu (S.fz a _ e)
   ·exact(S.fz a o e).congr ka fun c d gs y=>k d (fun q=>z ⟨c,gs,q▸y⟩) (S.pq a c d gs (y▸e)▸fun q=>by injection q)
 ·by_cases q:a=dx
  ·exact q▸lv
  ·exact(k a q ha).symm▸S.live a ha
theorem GG{o o':Obj}(h1:o.cls=o'.cls) (h2:o.dict=o'.dict) (h3:o.data=o'.data) (h4:o.slots=o'.slots):o=o':=congr (congr (congr (congrArg Obj.mk h1) h2) h3) h4
theorem mE{Q:Unit->Shared->Prop}(I:Inv cx w) (B:Base cx nm) (hf:f∈fu) (hi:gm w.h x dx (cx.cA cl) m)
  (hq:∀h' tk,gm h' x dx (cx.cA cl) (fun y=>if y=tx f then some v else m y)->Heap.ExtBut dx w.h h'->w.n<=h'.objs.size->Q () { w.s with heap:=h',toks:=tk }):wpAny (model cx.prog cx.w) A (setAttr (.ref x) (tx f) v) Q E w.s:=by
 obtain⟨N,mN,X⟩:=B.cls cl
 have hX:=OldK.cls I.old X
 obtain⟨o,hC,z⟩:=hX.obj
 induction z
 obtain⟨ox,ex,ec,nd,hd,ne,n,ed,ww⟩:=id hi
 have Wi:x≠cx.cA cl:=fun q=>by
  rw[q,hC] at ex
  injection ex with ex;subst ex
  exact nd _ rfl
 refine eB (store_attrFk PySem.F.store_object hC hX.ns X.sa (X.fields f hf) (kC f hf) Wi hi.fk (fun h1 Dt hI hk N9 hz=>?_) ww)
 obtain⟨Wj,e1,c1,d1,s1,Du⟩:=N9 ox ex
 cases GG c1 ((Du dx hd).trans hd.symm) d1 s1
 refine hq h1 Dt ?_ (fun b o hb e=>?_) hz
 ·obtain⟨o2,e2,c2,nd2,h2⟩:=hI
  injection e1.symm.trans e2 with zx;subst zx
  rcases h2 with⟨z,_⟩|⟨d,z1,z2,z3,z4⟩
  ·injection hd.symm.trans z
  ·injection hd.symm.trans z1 with zx;subst zx
   exact .mk _ e1 c2 nd2 hd z2 z3 z4 fun y hy=>by
    by_cases q:y=tx f
    ·exact q▸rq f hf
    ·exact ww y (by rwa [if_neg q] at hy)
 ·by_cases q:b=x
  ·subst q;(injection ex.symm.trans e with zx;subst zx);exact e1
  ·exact hk b o q (fun Wk Zs e0 e2 z=>by
    injection ex.symm.trans e0 with zx;subst zx
    injection hd.symm.trans e2 with zx;subst zx
    exact hb z) e
theorem gm.live:gm h x dx C m->∃o,h.get? dx=some o
 |.mk _ _ _ _ _ _ ⟨o,_,_,e,_⟩ _ _=>⟨o,e⟩
theorem Dv{α:Type}{k:Tx}{v:α}{l:List (Tx×α)}{q:Tx×α}(h:q∈putK k v l):q=(k,v)\/(q∈l/\q.1≠k):=by
 unfold putK at h
 split at h
 ·obtain⟨p,hp,he⟩:=List.mem_map.mp h
  split at he
  ·rename_i e;left;rw[<-he,e]
  ·rename_i e;right;rw[<-he];exact⟨hp,e⟩
 ·rename_i hn
  rcases List.mem_append.mp h with h|h
  ·exact .inr ⟨h,fun e=>hn (List.any_eq_true.mpr ⟨q,h,decide_eq_true e⟩)⟩
  ·exact .inl (List.mem_singleton.mp h)
theorem oE.put(rv:cQ G as v a) (r:oE G as gs fs):oE G as (putK f v gs) (putK f a fs):=by
 have map:oE G as (gs.map fun p=>if p.1=f then(p.1,v) else p) (fs.map fun p=>if p.1=f then(p.1,a) else p):=by
  induction r with
  |nil=>exact .nil
  |@cons k _ _ _ _ x _ ih =>
   by_cases h:k=f
   ·rw[List.map_cons,List.map_cons,if_pos h,if_pos h];exact .cons rv ih
   ·rw[List.map_cons,List.map_cons,if_neg h,if_neg h];exact .cons x ih
 have any:gs.any (fun p=>decide (p.1=f))=fs.any (fun p=>decide (p.1=f)):=by
  clear map
  induction r with
  |nil=>rfl
  |cons _ _ ih=>rw[List.any_cons,List.any_cons,ih]
 have app:∀{gs fs},oE G as gs fs->oE G as (gs++[(f,v)]) (fs++[(f,a)]):=fun r=>by
  induction r with
  |nil=>exact .cons rv .nil
  |cons x _ ih=>exact .cons x ih
 unfold putK
 rw[any]
 split
 ·exact map
 ·exact app r
theorem pK{Q:Unit->Shared->Prop}(I:Inv cx w) (B:Base cx nm) (ir:∀a∈fr,w.G a=.out) (hs:Nj d=true) (r:Rep w.G u d) (h:∀s',Ev cx fr ou w (w.at s')->Q () s'):wpAny (model cx.prog cx.w) A (setAttr u (tx b9) v) Q E w.s:=by
 cases d with
 |inst c fs =>
  induction r.big rfl with| mk gx q r =>
  induction q.Ru with| mk k =>
  have hd:=I.rel.pq _ _ _ _ gx
  induction I.rel.fz _ _ gx with| mk m i sh fm =>
  refine mE I B (by decide) i fun h' tk i' hs hz=>h _ ?_
  rw[jL] at i'
  exact I.shared (s':={ w.s with heap:=h',toks:=tk }) hd hs hz rfl rfl i'.live (fun z=>z.share i i' hs) ir
 |_=>injection hs
noncomputable def Dw(cx:Cx) (w:Wd) (f:Tx) (v:Value) (c c':ie) (fs fs':List (Tx×AV)):Prop:=∀(gs:List (Tx×Value)) (m:Str->Option Value),oE w.G w.as gs fs->(c=.aQ->∃v,m fj=some v)->(∀p∈gs,tx p.1≠fj/\m (tx p.1)=some p.2) ->
 ∃Se,oE w.G w.as Se fs'/\(c'=.aQ->∃u,(if fj=tx f then some v else m fj)=some u)/\∀p∈Se,tx p.1≠fj/\(if tx p.1=tx f then some v else m (tx p.1))=some p.2
theorem gu.Ru{h:Heap}{as:List Pl}{c:ie}{fs:List (Tx×AV)}(x:gu cx G as h p (.inst c fs)):∃gs,mz cx h p.1 p.2 c gs/\oE G as gs fs:=by
 cases x with
 |inst i r=>exact⟨_,i,r⟩
 |tr e=>exact nomatch e
theorem oQ{Q:Unit->Shared->Prop}{c c':ie}{fs fs':List (Tx×AV)}(I:Inv cx w) (B:Base cx nm) (ir:∀a∈fr,w.G a=.out) (hf:f∈fu) (hp:w.as[i]? = some p) (hn:w.st[i]? = some (.inst c fs)) (e2:cx.cA c'=cx.cA c) (k:Dw cx w f v c c' fs fs')
  (h:∀s',Ev cx fr ou w ⟨w.G,w.as,w.st.set i (.inst c' fs'),s'⟩->Q () s'):wpAny (model cx.prog cx.w) A (setAttr (.ref p.1) (tx f) v) Q E w.s:=by
 obtain⟨gs,ia,r⟩:=(I.rel.nodes i p _ hp hn).Ru
 induction ia with| mk m ii sh fm =>
 obtain⟨Se,r',z⟩:=k _ _ r sh fm
 exact mE I B hf ii fun h' tk i' hs hz=>h _ (I.Sd (nd':=.inst c' fs') (s':={ w.s with heap:=h',toks:=tk }) hp hn (fun _ q=>q) (.tail _ (.head _)) hs hz rfl rfl i'.live (.inst (.mk _ (e2.symm▸i') z.1 z.2) r') ir)
theorem xP{c:ie}{fs:List (Tx×AV)}:Dw cx w b9 v c .aQ fs fs:=fun gs m r _ fm =>
 ⟨gs,r,fun _=>⟨v,if_pos jL.symm⟩,fun p hp=>⟨(fm p hp).1,(if_neg fun q=>(fm p hp).1 (q.trans jL)).trans (fm p hp).2⟩⟩
theorem GH{c:ie}{fs:List (Tx×AV)}(IK:¬f=b9) (ra:cQ w.G w.as v a):Dw cx w f v c c fs (putK f a fs):=fun gs m r sh fm =>
 have es:tx f≠fj:=fun q=>IK (lI q)
 ⟨putK f v gs,r.put ra,fun q=>let⟨u,e⟩:=sh q;⟨u,(if_neg es.symm).trans e⟩,fun q hq=>by
  rcases Dv hq with rfl|⟨h1,h2⟩
  ·exact⟨es,if_pos rfl⟩
  ·exact⟨(fm q h1).1,(if_neg fun z=>h2 (kr z)).trans (fm q h1).2⟩⟩
theorem set_same{nd:Node}{st:aB}(hn:st[i]? = some nd):st.set i nd=st:=by
 obtain⟨hi,he⟩:=List.getElem?_eq_some_iff.mp hn
 rw[<-he];exact List.set_getElem_self hi
theorem gu.Wl{h:Heap}{as:List Pl}(x:gu cx G as h p (.fz d)):Rep G (.ref p.1) d:=by
 cases x with
 |fz r=>exact r
 |tr e=>exact nomatch e
theorem Ko{Q:Unit->Shared->Prop}(I:Inv cx w) (B:Base cx nm) (ir:∀a∈fr,w.G a=.out) (hp:w.as[i]? = some p) (hn:w.st[i]? = some nd) (e:Nk w.st i (some nd)=some st') (h:∀s',Ev cx fr ou w ⟨w.G,w.as,st',s'⟩->Q () s'):wpAny (model cx.prog cx.w) A (setAttr (.ref p.1) (tx b9) v) Q E w.s:=by
 cases nd with
 |fz d =>
  by_cases q:Nj d=true
  ·cases(if_pos q).symm.trans e;exact pK I B ir q (I.rel.nodes i p _ hp hn).Wl h
  ·cases(if_neg q).symm.trans e
 |inst c fs =>
  cases c with
  |aQ=>(injection e with e;subst e);exact oQ (c':=.aQ) (fs':=fs) I B ir (by decide) hp hn rfl (xP (cx:=cx)) (by rw[set_same hn];exact h)
  |aJ=>(injection e with e;subst e);exact oQ (c':=.aQ) (fs':=fs) I B ir (by decide) hp hn B.v0.symm (xP (cx:=cx)) h
  |_=>injection e
 |_=>injection e
theorem GI{Q:Unit->Shared->Prop}(I:Inv cx w) (B:Base cx nm) (ir:∀a∈fr,w.G a=.out) (hf:f∈fu) (rb:cQ w.G w.as u b) (ra:cQ w.G w.as v a) (e:xr w.st b f a=some st')
  (h:∀s',Ev cx fr ou w ⟨w.G,w.as,st',s'⟩->Q () s'):wpAny (model cx.prog cx.w) A (setAttr u (tx f) v) Q E w.s:=by
 cases b with
 |t d =>
  by_cases q:f=b9/\Nj d=true
  ·cases(if_pos q).symm.trans e
   obtain⟨rfl,q⟩:=q
   exact pK I B ir q rb h
  ·cases(if_neg q).symm.trans e
 |r j =>
  induction rb with| mk p hp z =>
  rw[z]
  by_cases IK:f=b9
  ·have e2:Nk w.st j w.st[j]? = some st':=(if_pos IK).symm.trans e
   clear e
   subst IK
   revert e2
   cases hn:w.st[j]? with
   |none=>exact fun e=>nomatch e
   |some nd=>exact fun e=>Ko I B ir hp hn e h
  ·have e2:F3 w.st j f a w.st[j]? = some st':=(if_neg IK).symm.trans e
   clear e
   revert e2
   cases hn:w.st[j]? with
   |none=>exact fun e=>nomatch e
   |some nd =>
    intro e
    cases nd with
    |inst c fs=>(injection e with e;subst e);exact oQ (c':=c) I B ir hf hp hn rfl (GH IK ra) h
    |_=>injection e
theorem dN.out{l:List Env}(x:dN cx l w):∀a∈ez l,w.G a=.out:=fun a h=>(x.at' a h).out
theorem jK.setattr{o e:Expr}{fo fe:Kv}{pos' pos:Pos}{f:Tx}(B:Base cx nm) (hf:f∈fu) (hs:swapsWith e (some (.Attribute o (tx f) pos')) pos.line K.env=pure false) (h1:SE cx K o fo) (h2:SE cx K e fe):jK cx K (.Assign [.Attribute o (tx f) pos'] e pos) (xx f fo fe):=fun g w X Q E T =>
 plainObj_wpAny_Assign_Attribute ((h2 g w X).oN X T fun a v w1 _ X1 ra T=>(h1 g w1 X1).oN X1 T fun b u w2 e2 X2 rb T=>by
  cases hq:xr w2.st b f a with
  |none=>rw[hq] at T;exact T.no
  |some st' =>
   rw[hq] at T
   exact GI X2.inv B X2.fr.out hf rb (ra.ev e2) hq fun s' ev=>T.next g ⟨w2.G,w2.as,st',s'⟩ rfl ev.oN (X2.ev ev)) hs
end
inductive vv{κ Kp:Type}(G:Addr->Lg) (f:κ->Kp):List (Kp×Value)->List (κ×PV)->Prop
 |nil:vv G f [] []
 |cons {k:κ}{v:Value}{d:PV}{a:List (Kp×Value)}{b:List (κ×PV)}(x:Rep G v d) (r:vv G f a b):vv G f ((f k,v)::a) ((k,d)::b)
section
variable {κ Kp:Type}{G:Addr->Lg}{f:κ->Kp}{kvs:List (Kp×Value)}{ds:List (κ×PV)}{v:Value}{d:PV}{k:κ}
theorem vv.of:∀{ds:List (κ×PV)},kvs.map (·.1)=ds.map (fun p=>f p.1)->bh G (kvs.map (·.2)) (ds.map (·.2))->vv G f kvs ds:=by
 induction kvs with
 |nil =>
  intro ds e r
  cases ds with
  |nil=>exact .nil
  |cons=>injection e
 |cons kv kvs ih =>
  intro ds e r
  cases ds with
  |nil=>injection e
  |cons p ds =>
   obtain⟨k',v⟩:=kv
   obtain⟨e1,e2⟩:=List.cons.inj e
   subst e1
   cases r with| cons x r=>exact .cons x (ih e2 r)
theorem vv.keys(r:vv G f kvs ds):kvs.map (·.1)=ds.map (fun p=>f p.1):=by
 induction r with
 |nil=>rfl
 |cons _ _ ih=>exact congrArg (List.cons _) ih
theorem vv.Kq(r:vv G f kvs ds):bh G (kvs.map (·.2)) (ds.map (·.2)):=by
 induction r with
 |nil=>exact .nil
 |cons x _ ih=>exact .cons x ih
variable [DecidableEq κ] [DecidableEq Kp]
theorem GJ(hf:∀a b,f a=f b->a=b){a:κ}:decide (f a=f k)=decide (a=k):=by
 by_cases h:a=k
 ·rw[h,decide_eq_true rfl,decide_eq_true rfl]
 ·rw[decide_eq_false h,decide_eq_false fun q=>h (hf _ _ q)]
noncomputable def xQ(k:κ) (d:PV) (l:List (κ×PV)):List (κ×PV):=if l.any (fun p=>decide (p.1=k)) then l.map (fun p=>if p.1=k then(p.1,d) else p) else l++[(k,d)]
theorem vv.put(hf:∀a b,f a=f b->a=b) (x:Rep G v d) (r:vv G f kvs ds):vv G f (stored kvs (f k) v) (xQ k d ds):=by
 have any:kvs.any (fun p=>decide (p.1=f k))=ds.any (fun p=>decide (p.1=k)):=by
  induction r with
  |nil=>rfl
  |cons _ _ ih=>exact congr (congrArg or (GJ hf)) ih
 unfold xQ stored
 rw[any]
 clear any
 split
 ·rename_i hh
  clear hh
  induction r with
  |nil=>exact .nil
  |@cons j _ _ _ _ y _ ih =>
   rw[List.map_cons,List.map_cons]
   by_cases h:j=k
   ·rw[if_pos h,if_pos (h▸rfl)];exact .cons x ih
   ·rw[if_neg h,if_neg fun q=>h (hf _ _ q)];exact .cons y ih
 ·rename_i hh
  clear hh
  induction r with
  |nil=>exact .cons x .nil
  |cons y _ ih=>exact .cons y ih
theorem vv.without(hf:∀a b,f a=f b->a=b) (r:vv G f kvs ds):vv G f (without kvs (f k)) (ds.filter fun p=>decide (p.1≠k)):=by
 unfold PySem.without
 induction r with
 |nil=>exact .nil
 |@cons j _ _ _ _ y _ ih =>
  by_cases h:j=k
  ·rw[List.filter_cons,List.filter_cons,if_neg (show ¬decide (f j≠f k)=true from fun q=>of_decide_eq_true q (congrArg f h)),if_neg (show ¬decide (j≠k)=true from fun q=>of_decide_eq_true q h)];exact ih
  ·rw[List.filter_cons,List.filter_cons,if_pos (show decide (f j≠f k)=true from decide_eq_true fun q=>h (hf _ _ q)),if_pos (show decide (j≠k)=true from decide_eq_true h)];exact .cons y ih
theorem xR:(xQ k d ds).length<=ds.length+1:=by
 unfold xQ
 split
 ·rw[List.length_map];exact Nat.le_succ _
 ·rw[List.length_append];exact Nat.le_refl _
theorem Bv{j:κ}(h:j∈(xQ k d ds).map (·.1)):j=k\/j∈ds.map (·.1):=by
 unfold xQ at h
 split at h
 ·rw[List.map_map] at h
  obtain⟨p,hp,e⟩:=List.mem_map.mp h
  refine .inr (List.mem_map.mpr ⟨p,hp,e▸?_⟩)
  show p.1=(if p.1=k then(p.1,d) else p).1
  split<;>rfl
 ·rw[List.map_append] at h
  exact(List.mem_append.mp h).elim .inr fun h=>.inl (List.mem_singleton.mp h)
end
section
variable {cx:Cx}{nm:Nat->Option Str}{w w':Wd}{K:Kx}{g:Gm}{v u kv:Value}{a b:AV}{A:Around}{E:Value->Shared->Prop}{d kd:PV}{i:Nat}{p:Pl}{nd nd':Node}{fr:List Addr}{W:Addr->Prop}{s':Shared}{st':aB}{ls:List (Tx×PV)}{li:List (Int×PV)}
theorem bh.set{G:Addr->Lg}{vs:List Value}{l:List PV}(x:Rep G v d) (r:bh G vs l):∀n,bh G (vs.set n v) (l.set n d):=by
 induction r using bh.ind with
 |h0=>exact fun _=>.nil
 |h1 v vs d l y r ih =>
  intro n
  induction n with
  |zero=>exact .cons x r
  |succ n=>exact .cons y (ih n)
inductive Oa(cx:Cx) (w:Wd) (i:Nat) (v:Value) (ls:List (Tx×PV)):Prop
 |mk (p:Pl) (kvs:List (Str×Value)) (ep:Nat) (hp:w.as[i]? = some p) (q:v=.ref p.1) (z:ls.length<=lim) (h:w.h.DictAt (strKind cx.prog cx.w) p.1 kvs ep) (r:vv w.G tx kvs ls) (n:b9∉ls.map (·.1))
theorem IT(I:Inv cx w) (hn:w.st[i]? = some (.aK ls)):u7 w.as v i->Oa cx w i v ls
 |.mk p hp q=>by
  cases I.rel.nodes i p _ hp hn with
  |tr e j q' r=>(injection e with e;subst e);cases q' with| dS z k n=>exact .mk p _ _ hp q z j (.of k r) fun h=>n (k▸by obtain⟨p,hp,e⟩:=List.mem_map.mp h;exact List.mem_map.mpr ⟨p,hp,e▸jL⟩)
theorem Inv.Oc{kvs:List (Str×Value)}{ls':List (Tx×PV)}(I:Inv cx w) (ir:∀a∈fr,w.G a=.out) (hp:w.as[i]? = some p) (hn:w.st[i]? = some (.aK ls)) (hs:Heap.SameBut p.1 w.h s'.heap) (h1:s'.os=w.s.os) (h2:s'.gens=w.s.gens)
  (hd:s'.heap.DictOf (strKind cx.prog cx.w) p.1 kvs) (r:vv w.G tx kvs ls') (z:ls'.length<=Mine.lim) (n:b9∉ls'.map (·.1)):Ev cx fr W w ⟨w.G,w.as,w.st.set i (.aK ls'),s'⟩:=by
 obtain⟨ep,hd⟩:=hd.dictAt
 refine I.upd (o:=.dS kvs ep) (nd':=.aK ls') hp hn rfl rfl hs h1 h2 hd (let⟨_,_,e,_⟩:=hd;⟨_,e⟩) (.dS z r.keys fun q=>?_) r.Kq ir
 rw[r.keys] at q
 obtain⟨p,hp,he⟩:=List.mem_map.mp q
 exact n (List.mem_map.mpr ⟨p,hp,lI he⟩)
theorem Dy{t:Tx}:Vw cx w v (.str t)->∃tk,v=.str (tx t) tk
 |.str _ tk _=>⟨tk,rfl⟩
 |.ref _ _ q _=>nomatch q
theorem Dz{t:Int}:Vw cx w v (.int t)->∃tk,v=.int t tk
 |.int _ tk=>⟨tk,rfl⟩
 |.ref _ _ q _=>nomatch q
theorem rt{α:Type}{c:Prop} [Decidable c] {x y:α}(h:(if c then some x else none)=some y):c/\x=y:=by
 by_cases q:c
 ·rw[if_pos q] at h;exact⟨q,Option.some.inj h⟩
 ·rw[if_neg q] at h;injection h
theorem GK{Q:Unit->Shared->Prop}(I:Inv cx w) (ir:∀a∈fr,w.G a=.out) (rb:cQ w.G w.as u b) (rk:Vw cx w kv kd) (rv:Rep w.G v d) (e:Bc w.st b kd d=some st') (h:∀s',Ev cx fr ou w ⟨w.G,w.as,st',s'⟩->Q () s') :
  wpAny (model cx.prog cx.w) A (setItem u kv v) Q E w.s:=by
 induction b with
 |t=>injection e
 |r i =>
  replace e:xu w.st[i]? w.st i kd d=some st':=e
  cases hn:w.st[i]? with
  |none=>rw[hn] at e;injection e
  |some nd =>
   rw[hn] at e
   induction nd with
   |lst l =>
    cases kd with
    |int n =>
     obtain⟨hb,rfl⟩:=rt e
     obtain⟨t,rfl⟩:=Dz rk
     obtain⟨p,us,hp,rfl,z,hl,r⟩:=xH I hn rb
     obtain⟨n0,ho⟩:=id hl
     have hlen:=r.length
     have z':l.length<=4096:=z
     have qo:=lJ ho (·.setIfInBounds n.toNat v)
     rw[List.setIfInBounds_toArray] at qo
     obtain⟨m,qo⟩:=qo
     exact ki_setAt ho hb.1 (by omega) (by rw[List.size_toArray];omega) (h _ (I.upd (o:=.lst (us.set n.toNat v) m) (nd':=.lst (l.set n.toNat d)) hp hn rfl rfl (Heap.SameBut.update ..) rfl rfl qo ⟨_,qo⟩ (.lst (by rw[List.length_set];exact z)) (r.set rv _) ir))
    |_=>injection e
   |aK l =>
    cases kd with
    |str y =>
     obtain⟨hb,rfl⟩:=rt e
     obtain⟨t,rfl⟩:=Dy rk
     obtain⟨p,kvs,ep,hp,rfl,z,hd,r,n⟩:=IT I hn rb
     refine wpAny_setItem_pairs (knd:=strKind cx.prog cx.w) (k:=tx y) (strKind_is _ _ _ _) hd.dictOf (fun h1 Du hs=>h _ ?_) ?_
     ·exact I.Oc (s':={ w.s with heap:=h1,toks:=w.s.toks+1 }) (ls':=xQ y d l) ir hp hn hs rfl rfl Du (r.put (fun _ _=>kr) rv) (Nat.le_trans xR (Nat.le_trans (Nat.succ_le_of_lt hb.2) (by decide))) fun q=>(Bv q).elim (fun q=>hb.1 q.symm) n
     ·rw[gQ r.keys];exact Nat.le_trans z (by decide)
    |_=>injection e
   |eW l =>
    cases kd with
    |int y =>
     obtain⟨hb,rfl⟩:=rt e
     obtain⟨t,rfl⟩:=Dz rk
     obtain⟨p,hp,rfl⟩:=rb
     cases I.rel.nodes i p _ hp hn with
     |tr e hd q r =>
      injection e with e;subst e
      cases q with
      |dI z k =>
       have r:vv w.G (fun x:Int=>x) _ _:=.of k r
       refine wpAny_setItem_pairs (knd:=intKind cx.prog cx.w) (k:=y) (intKind_is _ _ _ _) hd (fun h1 Du hs=>h _ ?_) ?_
       ·have rp:=r.put (k:=y) (fun _ _ q=>q) rv
        exact I.upd (o:=.dI (stored _ y v)) (nd':=.eW (xQ y d l)) (s':={ w.s with heap:=h1,toks:=w.s.toks+1 }) hp hn rfl rfl hs rfl rfl Du (let⟨_,_,_,e,_⟩:=Du;⟨_,e⟩) (.dI (Nat.le_trans xR (Nat.le_trans (Nat.succ_le_of_lt hb) (by decide))) rp.keys) rp.Kq ir
       ·rw[gQ k];exact Nat.le_trans z (by decide)
    |_=>injection e
   |_=>injection e
theorem jK.dP{o i e:Expr}{fo fi fe:Kv}{pos' pos:Pos}(hs:swapsWith e (some (.Subscript o i pos')) pos.line K.env=pure false) (h1:SE cx K o fo) (h2:SE cx K i fi) (h3:SE cx K e fe):jK cx K (.Assign [.Subscript o i pos'] e pos) (xy fo fi fe):=fun g w X Q E T =>
 wpAny_Assign_Subscript ((h3 g w X).oN X T fun a v w1 _ X1 ra T=>(h1 g w1 X1).oN X1 T fun b u w2 e2 X2 rb T=>(h2 g w2 X2).oN X2 T fun k kv w3 e3 X3 rk T=>by
  rcases nt (w:=w3) (a:=a) rfl with e|⟨d,st',e,e'⟩
  ·rw[e] at T;exact T.no
  ·rw[e'] at T
   obtain⟨G',ev,rd⟩:=fO _ X3.inv (ra.ev (e2.trans e3)) e
   have ev:=ev (ez K.l) ou
   have X4:=X3.ev ev
   refine gS.oB (T.later ev.oN) fun kd hk T=>?_
   have rk:=cQ.vw X4.inv.rel (rk.ev ev)
   rw[show vw (Wd.st ⟨G',w3.as,st',w3.s⟩) k=some kd from hk] at rk
   cases rk with| some rk =>
   cases hq:Bc st' b kd d with
   |none=>rw[hq] at T;exact T.no
   |some Wm =>
    rw[hq] at T
    exact GK (w:=⟨G',w3.as,st',w3.s⟩) X4.inv X4.fr.out ((rb.ev e3).ev ev) rk rd hq fun s' ev=>T.next g ⟨G',w3.as,Wm,s'⟩ rfl ev.oN (X4.ev ev)) hs
theorem Bw{t:Tx}{kvs:List (Str×Value)}{ls:List (Tx×PV)}{G:Addr->Lg}(r:vv G tx kvs ls) (h:(cj t ls).isSome=true):(valueAt kvs (tx t)).isSome=true:=(lG r.keys r.Kq).isSome.trans h
theorem jK.qi{o i:Expr}{fo fi:Kv}{pos' pos:Pos}(h1:SE cx K o fo) (h2:SE cx K i fi):jK cx K (.Delete [.Subscript o i pos'] pos) (xA fo fi):=fun g w X Q E T =>
 wpAny_Delete (wpAny_deleteEach_cons (delete_Subscript ((h1 g w X).oN X T fun b u w1 _ X1 rb T=>(h2 g w1 X1).oN X1 T fun k kv w2 e2 X2 rk T=>gS.oB T fun kd hk T=>by
  have rk:=cQ.vw X2.inv.rel rk
  rw[hk] at rk
  cases rk with| some rk =>
  have rb:=rb.ev e2
  induction b with
  |t=>exact T.no
  |r i =>
   replace T:gS cx K w2 (pn (Nq w2.st[i]? w2.st i kd) g) Q E:=T
   cases hn:w2.st[i]? with
   |none=>rw[hn] at T;exact T.no
   |some nd =>
    rw[hn] at T
    induction nd with
    |aK l =>
     cases kd with
     |str y =>
      replace T:gS cx K w2 (pn (if(cj y l).isSome then some (w2.st.set i (.aK (FQ y l))) else none) g) Q E:=T
      split at T
      ·rename_i hf
       obtain⟨t,rfl⟩:=Dy rk
       obtain⟨p,kvs,ep,hp,rfl,z,hd,r,n⟩:=IT X2.inv hn rb
       have hd:=hd.dictOf
       unfold delItem
       refine wpAny_holding (wpAny_bind (wpAny_sequenceKey hd.typeIs (by decide) (wpAny_bind (wpAny_callSpecial?_slot (name:=Str.ofString "__delitem__") hd.typeIs PySem.F.slot_dict_delitem
        (call_meetsIn PySem.F.slot_dict_delitem hd.typeIs PySem.F.entry_dict_delitem (PySem.F.args_dict_delitem_2 _ _) (meets_dict_delitem_pairs (k:=tx y) (strKind cx.prog cx.w) p.1 (strKind_is _ _ _ _)) ⟨kvs,hd,by rw[gQ r.keys];exact Nat.le_trans z (by decide),Bw r hf,fun h1 Du hs=>wpAny_pure (wpAny_deleteEach_nil ?_)⟩)))))
       have ev:=X2.inv.Oc (fr:=ez K.l) (W:=ou) (s':={ w2.s with heap:=h1,toks:=w2.s.toks+1 }) (ls':=FQ y l) X2.fr.out hp hn hs rfl rfl Du (r.without (k:=y) fun _ _=>kr) (Nat.le_trans (List.length_filter_le ..) z) fun q=>by
        obtain⟨q,hq,he⟩:=List.mem_map.mp q
        exact n (List.mem_map.mpr ⟨q,(List.mem_filter.mp hq).1,he⟩)
       exact T.next g ⟨w2.G,w2.as,w2.st.set i (.aK (FQ y l)),{ w2.s with heap:=h1,toks:=w2.s.toks+1 }⟩ rfl ev.oN (X2.ev ev)
      ·exact T.no
     |_=>exact T.no
    |_=>exact T.no)))
end
section
variable {cx:Cx}{nm:Nat->Option Str}{w w' w0 w1:Wd}{K:Kx}{g g':Gm}{v u:Value}{a:AV}{Q:Flow->Shared->Prop}{E:Value->Shared->Prop}{x y:Str}{i j n:Nat}{e:Expr}{f:Kv}{px py pt pos:Pos}{F:Ks}{I:Addr}{d:PV}{ds:List PV}{st':aB}{iter:Expr}{body:List Stmt}{k:Gm->aB->R (List PV)}
theorem xS{s:Shared}{E:Value->Shared->Prop}{A:Around}{t:Addr}{items:Array Value}{targets:List (Bool×(Value->Sem Unit))}{Q:Unit->Shared->Prop}(hh:A.handled=none) (ht:s.heap.IsTuple t items) (hn:targets.length=items.size) (Od:targets.findIdx? (·.1)=none)
  (h:∀h',Heap.ExtBut s.heap.objs.size s.heap h'->s.heap.objs.size<=h'.objs.size->wpAny (model cx.prog cx.w) A (assignInOrder (targets.map (·.2)) items.toList) Q E { s with heap:=h' }):wpAny (model cx.prog cx.w) A (unpack (.ref t) targets) Q E s:=by
 unfold unpack
 rw[hn,Od]
 refine wpAny_bind (wpAny_holding (eB (wpAny_unpackItems_tuple hh ht ?_)))
 exact fun h' hx hz=>h h' hx hz
inductive Pair(cx:Cx) (w:Wd) (v:Value) (x y:Nat) (g:Gm):Option Out->Prop
 |no:Pair cx w v x y g none
 |mk (a:Addr) (u1 u2:Value) (d1 d2:PV) (q:v=.ref a) (i:IsTup w.h a #[u1,u2]) (r1:Rep w.G u1 d1) (r2:Rep w.G u2 d2):Pair cx w v x y g (some (.next ((g.set x (some (.t d1))).set y (some (.t d2))) w.st))
theorem GN{o:Option PV}(z:vf cx w v o):Pair cx w v i j g (JE i j g w.st o):=by
 induction z with
 |none=>exact .no
 |some z=>induction z with
  |ref ge h q r=>induction q with
   |tup z=>cases r with
    |nil=>exact .no
    |cons x r=>cases r with
     |nil=>exact .no
     |cons y r=>cases r with
      |nil=>exact .mk _ _ _ _ _ rfl h.tup x y
      |cons=>exact .no
   |_=>exact .no
  |_=>exact .no
theorem jK.qh{z} (hh:K.A.handled=none) (hs:swapsWithSole [.Tuple [.Name x px,.Name y py] z pt] e pos.line K.env=pure false) (hw:swappedStores [.Tuple [.Name x px,.Name y py] z pt] e K.env=pure none) (V1:fS K x i) (V2:fS K y j) (h:SE cx K e f) :
  jK cx K (.Assign [.Tuple [.Name x px,.Name y py] z pt] e pos) (xw i j f):=fun g w X Q E T =>
 wpAny_Assign_stores ((h g w X).oN X T fun a v w1 _ X1 r T=>by
  have p:=GN (i:=i) (j:=j) (g:=g) (r.vw X1.inv.rel)
  revert T p
  generalize JE i j g w1.st (vw w1.st a)=o
  intro T p
  induction p with
  |no=>exact T.no
  |mk a u1 u2 d1 d2 q ht r1 r2 =>
   subst q
   show wpAny _ K.A (PySem.assign (.Tuple [.Name x px,.Name y py] z pt) K.env (.ref a)) _ _ _
   rw[arm_assign_Tuple]
   refine wpAny_bind (wpAny_standAt ?_)
   show wpAny _ K.A (unpack (.ref a) [(false,PySem.assign (.Name x px) K.env),(false,PySem.assign (.Name y py) K.env)]) _ _ _
   refine xS hh ht rfl rfl fun h2 Kr Wn=>?_
   have wX:iC cx K.l w1 (w1.at { w1.s with heap:=h2 }):=X1.inv.keeps (fun b o e=>Kr b o (Nat.ne_of_lt (Heap.lt_size e)) e) rfl rfl Wn
   show wpAny _ K.A (assignInOrder [PySem.assign (.Name x px) K.env,PySem.assign (.Name y py) K.env] [u1,u2]) _ _ _
   unfold assignInOrder
   refine wpAny_bind (wpAny_holding (wpAny_assign_Name (oO (a:=.t d1) (X1.ev wX) V1 r1 fun s3 IS X3=>?_)))
   unfold assignInOrder
   refine wpAny_bind (wpAny_holding (wpAny_assign_Name (oO (w:=w1.at s3) (a:=.t d2) X3 V2 (r2.mono IS.sub) fun s4 Mx X4=>?_)))
   unfold assignInOrder
   exact wpAny_pure (T.next _ (w1.at s4) rfl ((wX.oN.trans IS).trans Mx) X4)) hs hw
inductive Bx(cx:Cx) (w:Wd) (n:Nat) (g g':Gm) (st':aB):Prop
 |mk (G':Addr->Lg) (ev:∀fr W,Ev cx fr W w ⟨G',w.as,st',w.s⟩) (r:∀(j:Nat) (a':AV),g'[j]? = some (some a')->∃a,g[j]? = some (some a)/\(∀v,cQ w.G w.as v a->cQ G' w.as v a')/\under n a'=true)
theorem vz(n:Nat) (x:Option AV) (g:Gm) (st:aB):dh n (x::g) st=match x with
 |some (.r i)=>if i<n then(dh n g st).map fun q=>(some (.r i)::q.1,q.2) else match i8 cT st (.r i) with
  |some (d,st')=>(dh n g st').map fun q=>(some (.t d)::q.1,q.2)
  |Option.none=>Option.none
 |x=>(dh n g st).map fun q=>(x::q.1,q.2):=by
 induction x with
 |none=>rfl
 |some a=>induction a<;>rfl
theorem Bx.cons{x x':Option AV}{G1:Addr->Lg}{st1:aB}(ev:∀fr W,Ev cx fr W w ⟨G1,w.as,st1,w.s⟩) (h:∀a',x'=some a'->∃a,x=some a/\(∀v,cQ w.G w.as v a->cQ G1 w.as v a')/\under n a'=true)
  (z:Bx cx ⟨G1,w.as,st1,w.s⟩ n g g' st'):Bx cx w n (x::g) (x'::g') st':=by
 obtain⟨G',ev',r⟩:=z
 refine .mk G' (fun fr W=>(ev fr W).trans (ev' fr W)) fun j a' q=>?_
 induction j with
 |zero =>
  obtain⟨a,e,h,u⟩:=h a' (Option.some.inj q)
  exact⟨a,congrArg some e,fun v r=>(h v r).mono (ev' [] ou).sub fun _ _ e=>e,u⟩
 |succ j =>
  obtain⟨a,e,h,u⟩:=r j a' q
  exact⟨a,e,fun v r=>h v (r.mono (ev [] ou).sub fun _ _ e=>e),u⟩
theorem zp{g:Gm}:∀{g':Gm}{w:Wd}{st':aB},Inv cx w->dh n g w.st=some (g',st')->Bx cx w n g g' st':=by
 induction g with
 |nil=>exact fun I e=>by cases e;exact .mk _ (fun _ _=>.refl I) fun _ _ q=>nomatch q
 |cons x g ih =>
  intro g' w st' I e
  rw[vz] at e
  have plain:(∀a,x=some a->under n a=true)->(dh n g w.st).map (fun q=>(x::q.1,q.2))=some (g',st')->Bx cx w n (x::g) g' st':=fun h e=>by
   obtain⟨⟨g1,st1⟩,e1,e2⟩:=Option.map_eq_some_iff.mp e
   cases e2
   exact Bx.cons (G1:=w.G) (st1:=w.st) (fun _ _=>.refl I) (fun a e=>⟨a,e,fun _ r=>r,h a e⟩) (ih I e1)
  induction x with
  |none=>exact plain (fun a q=>nomatch q) e
  |some a =>
   induction a with
   |t d=>exact plain (fun a q=>by(injection q with q;subst q);rfl) e
   |r i =>
    dsimp only at e
    split at e
    ·rename_i hi;exact plain (fun a q=>by(injection q with q;subst q);exact decide_eq_true hi) e
    ·cases h1:i8 cT w.st (.r i) with
     |none=>rw[h1] at e;injection e
     |some q =>
      obtain⟨d,st1⟩:=q
      rw[h1] at e
      obtain⟨⟨g2,st2⟩,e1,e2⟩:=Option.map_eq_some_iff.mp e
      cases e2
      have hp:∃p,w.as[i]? = some p:=by
       cases hn:w.st[i]? with
       |none=>unfold cT i8 at h1;rw[hn] at h1;injection h1
       |some nd=>exact⟨_,List.getElem?_eq_getElem (I.rel.len▸(List.getElem?_eq_some_iff.mp hn).1)⟩
      obtain⟨p,hp⟩:=hp
      obtain⟨G1,ev,r1⟩:=fO _ I (v:=.ref p.1) (a:=.r i) (u7.mk p hp rfl) h1
      refine .cons ev (fun a q=>?_) (ih (w:=⟨G1,w.as,st1,w.s⟩) (ev [] ou).inv e1)
      injection q with q;subst q
      refine⟨_,rfl,fun v r=>?_,rfl⟩
      obtain⟨p',hp',rfl⟩:=r
      injection hp.symm.trans hp' with zx;subst zx
      exact r1
inductive GP(cx:Cx) (K:Kx) (w:Wd) (n:Nat) (g':Gm) (st':aB):Prop
 |mk (G':Addr->Lg) (X:At cx K g' ⟨G',w.as.take n,st',w.s⟩) (ev:∀{fr W w0},Ev cx fr W w0 w->w0.as.length<=n->Ev cx fr W w0 ⟨G',w.as.take n,st',w.s⟩) (eq:∃st1:aB,st'=st1.take n/\st1.length=w.as.length)
theorem zq{m:Nat}(h:n<=m):under n a=true->under m a=true:=by
 induction a with
 |t d=>exact fun _=>rfl
 |r i=>exact fun q=>decide_eq_true (Nat.lt_of_lt_of_le (of_decide_eq_true q) h)
theorem At.kj{m:Nat}(Sf:n<=m) (X:At cx K g w) (e:kj n m g w.st=some (g',st')):GP cx K w m g' st':=by
 unfold Mine.kj at e
 cases h1:dh n g w.st with
 |none=>rw[h1] at e;injection e
 |some q =>
  obtain⟨g1,st1⟩:=q
  rw[h1] at e
  dsimp only at e
  cases h2:back m st1 with
  |none=>rw[h2] at e;injection e
  |some st2 =>
   rw[h2] at e
   cases e
   obtain⟨G',ev,hz⟩:=zp X.inv h1
   have fr:=X.fr.ev (ev _ _)
   have eo:=X.eo.Bg (ev _ ou) fun _ q=>q.elim
   have S:=(ev [] ou).inv.rel
   have z:=(ev (ez K.l) ou).inv
   have iv:Inv cx ⟨G',w.as.take m,_,w.s⟩:=⟨S.back (q7 h2),z.old,z.os,z.gens,z.lim,z.low,z.jb,z.ge,let⟨ps,e,t,c⟩:=z.tab;⟨ps,e,t,c⟩⟩
   exact .mk G' ⟨iv,⟨fun a h=>let p:=fr.at' a h;⟨p.ge,p.lt,p.out⟩,fr.ob,fr.env⟩,⟨eo.fn,eo.glob,eo.blt,⟨eo.dU.ge,eo.dU.lt,eo.dU.out⟩,eo.ns,fun y c e=>let z:=eo.cell y c e;⟨⟨z.dU.ge,z.dU.lt,z.dU.out⟩,z.JO,z.ne,z.cell⟩,eo.apart,eo.kinds⟩,
    fun y j a e1 e2=>let⟨a0,e3,e4,u⟩:=hz j a e2;let⟨v,v1,v2⟩:=X.vars y j a0 e1 e3;⟨v,v1,(e4 v v2).cut (zq Sf u)⟩⟩
    (fun y h=>(y.trans (ev _ _)).back h h2) ⟨st1,(q7 h2).eq,S.len.symm⟩
theorem jK.cut{x:Stmt}(h:jK cx K x F):jK cx K x (qK n F):=fun g w X Q E T=>by
 unfold qK at T
 refine h g w X Q E ⟨fun q=>T.ne (by rw[q]),fun g1 w1 e ev X1=>?_,fun g1 w1 e ev X1=>?_,fun a v g1 w1 e ev X1 r=>?_,fun m u g1 w1 e ev X1 q=>?_⟩
 ·rw[e] at T
  dsimp only at T
  split at T
  ·rename_i hn
   cases hc:Mine.kj n w.st.length g1 w1.st with
   |none=>rw[hc] at T;exact T.no
   |some q =>
    obtain⟨g2,st2⟩:=q
    rw[hc] at T
    obtain⟨G',X',ev',_,_,_⟩:=X1.kj hn hc
    exact T.next g2 ⟨G',w1.as.take w.st.length,st2,w1.s⟩ rfl (ev' ev (Nat.le_of_eq X.inv.rel.len)) X'
  ·exact T.no
 ·rw[e] at T;exact T.cont g1 w1 rfl ev X1
 ·rw[e] at T;exact T.ret a v g1 w1 rfl ev X1 r
 ·rw[e] at T;exact T.exc m u g1 w1 rfl ev X1 q
structure FJ(cx:Cx) (K:Kx) (w0:Wd) (I:Addr) (g:Gm) (ds:List PV) (w:Wd):Prop where
 at':At cx K g w
 ev:Ds cx K w0 w
 it:vj cx w I ds
 pI:iB cx w I
 len:w.as.length=w0.as.length
inductive LF(cx:Cx) (K:Kx) (w0:Wd) (I:Addr) (P:Option (Gm×aB)->Prop) (f:Ks) (i:Nat) (n:Nat) (s:Shared):Prop
 |mk (g:Gm) (ds:List PV) (w:Wd) (hn:ds.length=n) (hs:w.s=s) (J:FJ cx K w0 I g ds w) (T:P (loop f i w0.as.length ds g w.st))
theorem By{f:Ks}{g:Gm}{st:aB}:loop f i n (d::ds) g st=match f (g.set i (some (.t d))) st with
  |some (.next g' st')=>oB (settle n g' st') fun q=>loop f i n ds q.1 q.2
  |some (.cont g' st')=>oB (settle n g' st') fun q=>loop f i n ds q.1 q.2
  |_=>Option.none:=by
 have e:loop f i n (d::ds) g st=(match f (g.set i (some (.t d))) st with
  |some (.next g' st')=>match settle n g' st' with
   |some (F4,dQ)=>loop f i n ds F4 dQ
   |Option.none=>Option.none
  |some (.cont g' st')=>match settle n g' st' with
   |some (F4,dQ)=>loop f i n ds F4 dQ
   |Option.none=>Option.none
  |_=>Option.none):=rfl
 rw[e]
 cases f (g.set i (some (.t d))) st with
 |none=>rfl
 |some o=>induction o with
  |next g' st'=>show(match settle n g' st' with| some (F4,dQ)=>_|none=>none)=oB (settle n g' st') _;cases settle n g' st'<;>rfl
  |cont g' st'=>show(match settle n g' st' with| some (F4,dQ)=>_|none=>none)=oB (settle n g' st') _;cases settle n g' st'<;>rfl
  |_=>rfl
theorem FJ.next{P:Option (Gm×aB)->Prop}{g2:Gm}(hP:P none->False) (fI:nu K I) (nI:¬Dr K.env I) (J:FJ cx K w0 I g ds w) (ev:Ds cx K w w') (X:At cx K g2 w') (T:P (oB (settle w0.as.length g2 w'.st) fun q=>loop F i w0.as.length ds q.1 q.2)) :
  LF cx K w0 I P F i ds.length w'.s:=qt hP T fun q e T=>by
 obtain⟨g3,Mv⟩:=q
 obtain⟨G',X',ev',st1,e1,e2⟩:=X.kj (Nat.le_refl _) e
 have hl:=J.len
 have z:=ev' ev (Nat.le_of_eq hl)
 have ln:w0.as.length<=w'.as.length:=Nat.le_of_not_lt fun q=>by
  have:=ev.pre w'.as.length (w.as[w'.as.length]'(hl▸q)) (List.getElem?_eq_getElem _)
  rw[List.getElem?_eq_none (Nat.le_refl _)] at this
  injection this
 exact .mk g3 ds ⟨G',w'.as.take w0.as.length,Mv,w'.s⟩ rfl rfl ⟨X',J.ev.trans z,J.it.mv z J.pI fI.fr nI,J.pI.ev z,(List.length_take ..).trans (Nat.min_eq_left ln)⟩ T
theorem jK.for(B:Base cx nm) (hh:K.A.handled=none) (hs:∀y,foldedSetIterable iter K.env y=pure y) (V:fS K x i) (h1:Src cx K iter k) (h2:sZ cx K body F):jK cx K (.For (.Name x px) iter body [] pos) (kFor i k F):=fun g w X Q E T =>
 wpAny_For ((h1 g w X).oN X T fun items v w1 _ X1 it T=>it.iter B.sys X1.inv fun ob Sb=>by
  have e2:iC cx K.l w1 (w1.at { w1.s with heap:=w1.h.push ob }):=iR.push.ev X1.inv
  have p2:=iB.new (ob:=ob) X1.inv
  have lt:∀a,Dr K.env a->a<w1.n:=fun a h=>h.elim (fun e=>e▸X1.eo.dU.lt) fun⟨y,e⟩=>(X1.eo.cell y a e).dU.lt
  have fI:nu K w1.n:=⟨X1.fr.fresh (Nat.le_refl _),fun q=>Nat.lt_irrefl _ (lt _ (.inl q)),fun y c e q=>Nat.lt_irrefl _ (q▸lt c (.inr ⟨y,e⟩))⟩
  have nI:¬Dr K.env w1.n:=fun q=>Nat.lt_irrefl _ (lt _ q)
  have ll:w1.st.length=w1.as.length:=X1.inv.rel.len.symm
  rw[ll] at T
  refine codeAny_forLoop (LF cx K w1 w1.n (fun r=>gS cx K w1 (CR r) Q E) F i) (fun n s L=>?_) items.length (.mk g items (w1.at { w1.s with heap:=w1.h.push ob }) rfl rfl ⟨X1.ev e2,e2.oN,Sb,p2,rfl⟩ T)
  obtain⟨g,ds,w,rfl,rfl,J,T⟩:=L
  have ov:∀{b:Addr}{s':Shared},Spot K.env x b->Ev cx (ez K.l) (fun c=>c=w1.n\/c=b) w (w.at s')->Ds cx K w1 (w.at s'):=fun hb y=>J.ev.over y (fun a q=>q.elim (fun q=>.inl (Nat.le_of_eq q.symm)) fun q=>.inr (by
   induction hb with
   |loc _ e=>exact .inl (q.trans e)
   |cell _ e=>exact .inr ⟨x,q▸e⟩)) fun a q=>(X1.fr.at' a q).lt
  induction ds with
  |nil=>exact J.it.done hh J.at'.inv J.pI fun s' y=>wpAny_execs_nil (T.next g (w.at s') rfl (J.ev.over (y _) (fun a q=>.inl (Nat.le_of_eq q.symm)) fun a q=>(X1.fr.at' a q).lt) (J.at'.Bg (y _) fun a q=>q▸fI))
  |cons d ds =>
   rw[By] at T
   refine J.at'.turn hh V J.pI fI J.it (M:=fun r cz=>match r with
    |none=>wpAny (model cx.prog cx.w) K.A (execs [] K.env) (fun f Kn=>_) _ cz
    |some v=>wpAny (model cx.prog cx.w) K.A (PySem.assign (.Name x px) K.env v) _ _ cz) (fun v s' h=>h) fun b s' hb y X2 Wo=>?_
   have J2:FJ cx K w1 w1.n (g.set i (some (.t d))) ds (w.at s'):=⟨X2,ov hb y,Wo,J.pI.ev y,J.len⟩
   refine h2 _ _ X2 _ _ ⟨fun q=>T.ne (by rw[q];rfl),fun g' w' e ev X'=>?_,fun g' w' e ev X'=>?_,fun a v g' w' e=>?_,fun m u g' w' e=>?_⟩
   ·rw[e] at T;exact⟨ds.length,Nat.lt_succ_self _,J2.next (fun T=>T.no) fI nI ev X' T⟩
   ·rw[e] at T;exact⟨ds.length,Nat.lt_succ_self _,J2.next (fun T=>T.no) fI nI ev X' T⟩
   ·rw[e] at T;exact T.no
   ·rw[e] at T;exact T.no) hs
end
theorem rC(o:Obj) (f:Array Value->Array Value):(o.mapFields f).dict=o.dict:=by
 unfold Obj.mapFields;split<;>rfl
structure Lt(fr:List Addr) (e:Addr) (oe:Obj) (vs:Array Value) (h h':Heap) (T:Addr):Prop where
 lo:h.objs.size<=T
 hi:T<h'.objs.size
 keep:∀b o,b∉fr->b≠e->h.get? b=some o->h'.get? b=some o
 slots:∀b,b≠e->nq h h' b
 exc:∃My,h'.get? e=some My/\My.cls=oe.cls/\My.dict=oe.dict/\My.data=.fields (vs.setIfInBounds 1 (.ref T))
 top:∃oT ts,h'.get? T=some oT/\oT.data=.fields ts/\ts[3]? = some .none
theorem nB{M:Model}{A:Around}{E:Value->Shared->Prop}{s:Shared}{base:Heap}{env:Env}{outer:List Env}{L e:Addr}{oe:Obj}{vs:Array Value}{head:Value}{GQ:Bool}{Q:Unit->Shared->Prop}
  (ir:A.frames=some (env::outer)) (hl:s.heap.FunFrames base (env::outer)) (hf:env.frame=some L)
  (he:s.heap.get? e=some oe) (hd:oe.data=.fields vs) (hsz:1<vs.size)
  (h:∀h' T,Lt (ez (env::outer)) e oe vs s.heap h' T->Q () { s with heap:=h' }) :
  wpAny M A (do let a <-frameOf env;let pl <-entryPlaceOf L GQ;let b <-EntryCells.newEntry head a .none (rawInt L) .none pl;setField (.ref e) 1 b) (fun _ s'=>wpAny M A (setFlight (.ref e) none) Q E s') E s:=by
 have Sg:e∉ez (env::outer):=fun hm=>by
  obtain⟨_,o,ho,Si⟩:=hl.mem hm
  rw[he] at ho;(injection ho with ho;subst ho);exact Si vs hd
 refine wpAny_bind (wpAny_frameOf_fun ir hl hf fun iS Ae=>?_)
 refine wpAny_bind (wpAny_entryPlaceOf fun pl qo=>?_)
 unfold EntryCells.newEntry newFields
 refine wpAny_bind (wpAny_newObj_type ?_ (qo.sizeOk5 _ _ _ _ _))
 have DA:iS.get? e=some oe:=(Ae.2.1 e Sg).trans he
 generalize Bt:({ cls:=.type "traceback",dict:=none,data:=.fields ([head,.ref L,.none,rawInt L,.none]++(if pl.isEmpty then List.replicate 6 Value.none else pl)).toArray }:Obj)=tb
 have Wq:∃ts,tb.data=.fields ts/\3<ts.size:=by
  refine⟨_,by rw[<-Bt],?_⟩
  simp only[List.size_toArray,List.length_append,List.length_cons,List.length_nil];omega
 obtain⟨ts,htd,hts⟩:=Wq
 clear Bt
 have US:iS.objs.size≠e:=Nat.ne_of_gt (Heap.lt_size DA)
 refine wpAny_setField (Heap.get?_push_of_some tb DA) hd hsz ?_
 have DB:=Obj.data_mapFields hd (·.setIfInBounds 1 (Value.ref iS.objs.size))
 have DC:=Heap.get?_update_self (Obj.mapFields (·.setIfInBounds 1 (Value.ref iS.objs.size))) (Heap.get?_push_of_some tb DA) (Obj.isFreed_of_fields DB)
 have IU:((iS.push tb).update e (Obj.mapFields (·.setIfInBounds 1 (Value.ref iS.objs.size)))).objs.size=iS.objs.size+1:=(size_update ..).trans (Heap.size_push ..)
 have DE:∀b,b≠e->((iS.push tb).update e (Obj.mapFields (·.setIfInBounds 1 (Value.ref iS.objs.size)))).get? b=(iS.push tb).get? b:=fun b hb=>Heap.get?_update_other _ _ hb.symm
 generalize(iS.push tb).update e (Obj.mapFields (·.setIfInBounds 1 (Value.ref iS.objs.size)))=h3 at DC IU DE
 have IW:h3.get? iS.objs.size=some tb:=(DE _ US).trans (Heap.get?_push_size iS (Obj.isFreed_of_fields htd))
 unfold setFlight
 refine wpAny_bind (wpAny_field DC DB (x:=.ref iS.objs.size) (by rw[Array.getElem?_setIfInBounds_self_of_lt hsz]) ?_)
 rw[if_pos (show(Value.ref iS.objs.size != Value.none)=true from rfl)]
 refine wpAny_setField IW htd hts (h _ iS.objs.size ?_)
 have keep:∀b o,b≠e->iS.get? b=some o->(h3.update iS.objs.size (Obj.mapFields (·.setIfInBounds 3 ((none:Option Addr).elim Value.none fun f=>rawInt f)))).get? b=some o:=fun b o Oe hb =>
  (Heap.get?_update_other _ _ (Nat.ne_of_gt (Heap.lt_size hb))).trans ((DE b Oe).trans (Heap.get?_push_of_some _ hb))
 exact⟨Nat.le_of_eq Ae.1.symm,Nat.lt_of_lt_of_eq (Nat.lt_succ_self _) (IU.symm.trans (size_update ..).symm),fun b o hb Oe e'=>keep b o Oe ((Ae.2.1 b hb).trans e'),fun b Oe o e'=>let⟨sl,hs⟩:=Ae.2.2 b o e';⟨sl,keep b _ Oe hs⟩,
  ⟨_,(Heap.get?_update_other _ _ US).trans DC,Obj.cls_mapFields _ _,rC _ _,DB⟩,⟨_,_,Heap.get?_update_self _ IW (Obj.isFreed_of_fields (Obj.data_mapFields htd _)),Obj.data_mapFields htd _,Array.getElem?_setIfInBounds_self_of_lt hts⟩⟩
section
variable {cx:Cx}{l:List Env}{w w':Wd}{env:Env}{s':Shared}{A:Around}{E:Value->Shared->Prop}{fr:List Addr}{W:Addr->Prop}{N:Nat}{e:Value}{m:Tx}{L:Addr}
theorem DF{h₀ h h':Heap}(K:OldK h₀ h) (hs:∀b o,b<h₀.objs.size->h.get? b=some o->h'.get? b=some o):OldK h₀ h':=by
 have lt:∀b o,h₀.get? b=some o->b<h₀.objs.size:=fun b o e=>Heap.lt_size e
 refine⟨fun b o e=>?_,fun b o e=>let⟨o',ho'⟩:=K.there b o e;⟨o',hs b o' (lt b o e) ho'⟩⟩
 rcases K.old b o e with x|⟨t,hc,vs,more,hv,x⟩|⟨rfl,hc,⟨o',es,n,ho',r⟩,z⟩
 ·exact .inl (hs b _ (lt b o e) x)
 ·exact .inr (.inl ⟨t,hc,vs,more,hv,hs b _ (lt b o e) x⟩)
 ·exact .inr (.inr ⟨rfl,hc,⟨o',es,n,hs _ _ (lt _ o e) ho',r⟩,fun key=>by rw[OldK.staticOf_congr ((hs _ _ (lt _ o e) ho').trans ho'.symm) key];exact z key⟩)
theorem Inv.Wr(I:Inv cx w) (hW:∀a,W a->w.G a=.out/\cx.cZ<=a) (hf:∀a∈fr,w.G a=.out/\cx.cZ<=a) (k:∀a o,¬W a->a∉fr->w.h.get? a=some o->s'.heap.get? a=some o) (u:∀a∈fr,¬W a->nq w.h s'.heap a)
  (hz:w.n<=s'.heap.objs.size) (h1:s'.os=w.s.os) (h2:s'.gens=w.s.gens):Ev cx fr W w (w.at s'):=by
 have kk:∀a,(w.G a≠.out\/a<cx.cZ)->(∃o,w.h.get? a=some o)->s'.heap.get? a=w.h.get? a:=fun a h ⟨o,e⟩ =>
  have no:∀{p:Prop},(w.G a=.out/\cx.cZ<=a)->p:=fun q=>(h.elim (fun h=>h q.1) fun h=>Nat.not_lt.mpr q.2 h).elim
  (k a o (fun q=>no (hW a q)) (fun q=>no (hf a q)) e).trans e.symm
 have low:∀a o,a<cx.cZ->w.h.get? a=some o->s'.heap.get? a=some o:=fun a o h e=>(kk a (.inr h) ⟨o,e⟩).trans e
 exact⟨⟨I.rel.step fun a h=>kk a (.inl h) (I.rel.live a h),DF I.old low,h1.trans I.os,h2.trans I.gens,let⟨mc,hmc,Mz⟩:=I.lim;⟨mc,hmc.at' fun o e=>low _ o I.low e,Mz⟩,I.low,I.jb,Nat.le_trans I.ge hz,
  let⟨_,e,_,_⟩:=I.tab;I.tab.step (kk _ (.inr I.jb) ⟨_,e⟩) fun _ _ q=>q⟩,hz,fun a _ _ _ h4 h5 o e=>k a o h5 h4 e,u,fun _ _ q=>q,fun _ _ q=>q,fun _ _ q=>q⟩
theorem dN.BA(fr:dN cx l w):w.h.FunFrames (default:Heap) l:=by
 have h1:=fr.ob
 have h2:=fr.env
 clear fr
 induction l with
 |nil=>trivial
 |cons e l ih =>
  obtain⟨hk,L,hL⟩:=h2 e (.head _)
  have hs:ez (e::l)=L::ez l:=by unfold ez;rw[List.filterMap_cons,hL]
  rw[hs] at h1
  obtain⟨o,ho,hd⟩:=h1 L (.head _)
  exact⟨hk,⟨L,o,hL,rfl,ho,hd⟩,ih (fun a ha=>h1 a (.tail _ ha)) fun e he=>h2 e (.tail _ he)⟩
theorem fJ(hf:env.frame=some L):ez (env::l)=L::ez l:=by unfold ez;rw[List.filterMap_cons,hf]
theorem ve.out(hf:env.frame=some L):ve cx (env::l) N w e m->ve cx l N w e m
 |.mk a vs q (.mk dx oe mm t h2 h3 h4 h5 p n h6 h7 h8 h9 Mq IF) tr=>.mk a vs q (.mk dx oe mm t h2 h3 h4 h5 p n h6 (fun q=>h7 (by rw[fJ hf];exact .tail _ q)) h8 h9 Mq IF) tr
theorem Ns1.get{h h':Heap}{a:Addr}{m:Str->Option Value}{o:Obj}(n:h.Ns1 a m) (e:h.get? a=some o) (e':h'.get? a=some o):h'.Ns1 a m :=
 let⟨_,es,ep,e1,r⟩:=n;⟨o,es,ep,e',by(injection e.symm.trans e1 with zx;subst zx);exact r⟩
theorem pM{Q:Unit->Shared->Prop}(ir:A.frames=some (env::l)) (hf:env.frame=some L) (I:Inv cx w) (fr:dN cx (env::l) w) (x:xB cx (env::l) N w e m)
  (hQ:∀s',Ev cx (ez (env::l)) (fun a=>N<=a) w (w.at s')->ve cx (env::l) N (w.at s') e m->Q () s'):wpAny (model cx.prog cx.w) A (noteFrame e env) (fun _ w7=>wpAny (model cx.prog cx.w) A (setFlight e none) Q E w7) E w.s:=by
 obtain⟨a,vs,rfl,⟨dx,oe,mm,t,he,hc,GR,hd,pa,hNa,IJ,hnfr,Ku,QT,Of,Og⟩,hvs⟩:=x
 have hl:=fr.BA
 obtain⟨od,es,ep,hod,MA,hn1r⟩:=id Ku
 have Ws:∀{b:Addr}{o:Obj}{us:Array Value},b∈ez (env::l)->w.h.get? b=some o->o.data≠.fields us:=fun hb e d=>let⟨_,e',Gl⟩:=fr.ob _ hb;by(injection e.symm.trans e' with zx;subst zx);exact Gl _ d
 have fin:∀(X:Addr->Prop) (h1 h2:Heap) (T:Addr),(∀b,X b->N<=b/\w.G b=.out/\cx.cZ<=b/\b≠a/\b≠dx/\b∉ez (env::l))->h1.objs.size=w.n->(∀b o,¬X b->w.h.get? b=some o->h1.get? b=some o)->Lt (ez (env::l)) a oe vs h1 h2 T->Q () { w.s with heap:=h2 }:=fun X h1 h2 T hX hz k1 y=>by
  have hT:w.n<=T:=hz▸y.lo
  have ev:Ev cx (ez (env::l)) (fun b=>X b\/b=a) w (w.at { w.s with heap:=h2 }):=by
   refine I.Wr (fun b h=>?_) (fun b h=>⟨(fr.at' b h).out,(fr.at' b h).ge⟩) (fun b o h1 h2 e=>y.keep b o h2 (fun q=>h1 (.inr q)) (k1 b o (fun q=>h1 (.inl q)) e)) (fun b h h' o e=>?_) (Nat.le_trans hT (Nat.le_of_lt y.hi)) rfl rfl
   ·rcases h with h|rfl
    ·exact⟨(hX b h).2.1,(hX b h).2.2.1⟩
    ·exact⟨pa.out,pa.ge⟩
   ·exact y.slots b (fun q=>h' (.inr q)) o (k1 b o (fun q=>h' (.inl q)) e)
  have UT:h2.get? dx=some od:=y.keep dx od hnfr IJ (k1 dx od (fun q=>(hX dx q).2.2.2.2.1 rfl) hod)
  obtain⟨My,z1,z2,z3,z4⟩:=y.exc
  obtain⟨oT,ts,w1,w2,w3⟩:=y.top
  have MB:T≠a:=fun q=>Nat.not_lt.mpr hT (q▸pa.lt)
  have Oh:1<vs.size:=by
   rcases hvs with q|⟨_,_,_,q,_⟩<;>exact(Array.getElem?_eq_some_iff.mp q).1
  refine hQ _ (ev.wide fun b h=>h.elim (fun h=>(hX b h).1) fun h=>h▸hNa) (.mk a _ rfl (.mk dx My mm t z1 (z2.trans hc) (z3.trans GR) z4 (pa.ev ev) hNa IJ hnfr (Ns1.get Ku hod UT) ?_ Of Og) (.mk T oT ts (Array.getElem?_setIfInBounds_self_of_lt Oh) MB w1 w2 w3 ⟨Nat.le_trans I.ge hT,y.hi,I.rel.mC hT⟩ (Nat.le_trans (Nat.le_trans hNa (Nat.le_of_lt pa.lt)) hT)))
  obtain⟨o,e1,r⟩:=QT
  injection e1.symm.trans hod with zx;subst zx
  exact⟨_,UT,r⟩
 unfold noteFrame
 simp only[hf]
 rcases hvs with h1|⟨T,oT,ts,h1,MB,hT,DG,h3,pT,hNT⟩
 ·refine wpAny_bind (wpAny_field he hd h1 ?_)
  rw[if_neg (by decide)]
  exact nB ir hl hf he hd (Array.getElem?_eq_some_iff.mp h1).1 fun h2 T y=>fin (fun _=>False) w.h h2 T (fun _ q=>q.elim) rfl (fun _ _ _ e=>e) y
 ·refine wpAny_bind (wpAny_field he hd h1 ?_)
  rw[if_pos (show(Value.ref T != Value.none)=true from rfl)]
  refine wpAny_bind (wpAny_field hT DG h3 ?_)
  rw[if_neg (show ¬((Value.none==rawInt L)=true) from by simp[rawInt])]
  refine wpAny_bind (wpAny_setField hT DG (Array.getElem?_eq_some_iff.mp h3).1 ?_)
  have other:∀b,b≠T->(w.h.update T (Obj.mapFields (·.setIfInBounds 3 Value.none))).get? b=w.h.get? b:=fun b hb=>Heap.get?_update_other _ _ (Ne.symm hb)
  have hz:(w.h.update T (Obj.mapFields (·.setIfInBounds 3 Value.none))).objs.size=w.n:=size_update ..
  have Wt:T∉ez (env::l):=fun q=>Ws q hT DG
  have Wu:dx≠T:=fun q=>by subst q;(injection hod.symm.trans hT with zx;subst zx);rw[DG] at MA;injection MA
  refine nB ir (hl.of_keeps fun b o hb Si=>⟨o,(other b fun q=>?_).trans hb,rfl⟩) hf ((other a MB.symm).trans he) hd (Array.getElem?_eq_some_iff.mp h1).1 fun h2 T2 y =>
   fin (fun b=>b=T) _ h2 T2 (fun b q=>q▸⟨hNT,pT.out,pT.ge,MB,Wu.symm,Wt⟩) hz (fun b o hb e=>(other b hb).trans e) y
  subst q
  injection hb.symm.trans hT with zx;subst zx
  exact Si ts DG
theorem kD{Q:Unit->Shared->Prop}(ir:A.frames=some (env::l)) (hf:env.frame=some L) (I:Inv cx w) (fr:dN cx (env::l) w) (x:xB cx (env::l) N w e m)
  (hQ:∀s',Ev cx (ez (env::l)) (fun a=>N<=a) w (w.at s')->ve cx (env::l) N (w.at s') e m->Q () s'):wpAny (model cx.prog cx.w) A («leaving» env e) Q E w.s:=by
 unfold«leaving»
 exact wpAny_bind (pM ir hf I fr x hQ)
end
theorem Kw{x y:Str}(h:x≠y):(x==y)=false:=beq_eq_false_iff_ne.mpr h
theorem mV{α:Type}{x:Str}{ps:List Str}:∀{us:List α}{i:Nat},ps.Nodup->ps[i]? = some x->(ps.zip us).lookup x=us[i]?:=by
 induction ps with
 |nil=>exact fun _ e=>nomatch e
 |cons p ps ih =>
  intro us i hn e
  obtain⟨h1,h2⟩:=List.nodup_cons.mp hn
  cases us with
  |nil=>rfl
  |cons u us =>
   rw[List.zip_cons_cons,List.lookup_cons]
   cases i with
   |zero=>(injection e with e;subst e);rw[beq_self_eq_true];rfl
   |succ i=>rw[Kw (show x≠p from fun q=>h1 (q▸List.mem_of_getElem? e))];exact ih h2 e
theorem zu{fin:List (Str×Value)}{ps:List Str}:∀{vals:List Value},ps.length=vals.length->(∀(i:Nat) (x:Str),ps[i]? = some x->fin.lookup x=vals[i]?)->ps.filterMap (fun n=>(fin.lookup n).map (n,·))=ps.zip vals:=by
 induction ps with
 |nil=>exact fun _ _=>rfl
 |cons p ps ih =>
  intro vals h hl
  induction vals with
  |nil=>injection h
  |cons v vals =>
   rw[List.filterMap_cons,hl 0 p rfl]
   exact congrArg (List.cons _) (ih (Nat.succ.inj h) fun i x e=>hl (i+1) x e)
inductive nE(h:Heap) (fd:FuncData):List Value->Prop
 |no (e:fd.defaults=.none):nE h fd []
 |one (T:Addr) (o:Obj) (n:Nat) (d:Value) (e:fd.defaults=.ref T) (ho:h.get? T=some o) (hd:o.data=.seq #[d] n):nE h fd [d]
theorem rD{M:Model}{A:Around}{E:Value->Shared->Prop}{s:Shared}{fd:FuncData}{ds:List Value}{Q:Option (Array Value)->Shared->Prop}(h:nE s.heap fd ds) (hq:∀d,(d.getD #[]).toList=ds->Q d s):wpAny M A (seqItems? fd.defaults) Q E s:=by
 induction h with
 |no e=>rw[e];exact wpAny_pure (hq none rfl)
 |one T o n d e ho hd=>rw[e];exact wpAny_seqItems ho hd (hq _ rfl)
structure Plain(fd:FuncData) (ps:List Str):Prop where
 GS:fd.params.posonlyargs=[]
 args:fd.params.args.map (·.arg)=ps
 vararg:fd.params.vararg=none
 kwonly:fd.params.kwonlyargs=[]
 kwarg:fd.params.kwarg=none
 nodup:ps.Nodup
inductive Given(us:List Value) (n:Nat):List Value->List Value->Prop
 |all (ds:List Value) (h:us.length=n) (k:ds.length<=n):Given us n ds us
 |one (d:Value) (h:us.length+1=n):Given us n [d] (us++[d])
section
variable {us ds vals:List Value}{ps:List Str}{n:Nat}
theorem Given.len(g:Given us n ds vals):n=vals.length:=by
 induction g with
 |all _ h=>exact h.symm
 |one d h=>rw[List.length_append];exact h.symm
theorem Given.le(g:Given us n ds vals):us.length<=n:=by
 induction g with
 |all _ h=>exact Nat.le_of_eq h
 |one d h=>exact Nat.le_of_succ_le (Nat.le_of_eq h)
theorem Given.dl(g:Given us n ds vals):ds.length<=n/\n-ds.length<=us.length:=by
 induction g with
 |all _ h k=>exact⟨k,h▸Nat.sub_le ..⟩
 |one d h=>exact⟨h▸Nat.le_add_left ..,by rw[<-h];exact Nat.le_refl _⟩
theorem Given.missing(g:Given us ps.length ds vals) (hn:ps.Nodup):List.filter (fun n=>(List.lookup n (ps.zip us)).isNone) (List.take (ps.length-(ds.drop (ds.length-ps.length)).length) ps)=[]:=by
 rw[Nat.sub_eq_zero_of_le g.dl.1,List.drop_zero]
 rw[List.filter_eq_nil_iff]
 intro x hx
 obtain⟨i,hi,he⟩:=List.mem_take_iff_getElem.mp hx
 have QS:i<ps.length-ds.length:=Nat.lt_of_lt_of_le hi (Nat.min_le_left ..)
 rw[mV hn (by rw[<-he];exact List.getElem?_eq_getElem (Nat.lt_of_lt_of_le QS (Nat.sub_le ..))),List.getElem?_eq_getElem (Nat.lt_of_lt_of_le QS g.dl.2)]
 exact Bool.false_ne_true
noncomputable def DH(x:Str×Value) (r:List (Str×Value)):Sem (ForInStep (List (Str×Value))):=if(List.lookup x.1 r).isNone=true then pure (ForInStep.yield (r++[(x.1,x.2)])) else pure (ForInStep.yield r)
theorem Given.fill(g:Given us ps.length ds vals) (hn:ps.Nodup) (h1:ds.length<=1):forIn ((ps.drop (ps.length-(ds.drop (ds.length-ps.length)).length)).zip (ds.drop (ds.length-ps.length))) (ps.zip us) DH=pure (ps.zip vals):=by
 have z1:ds.length-ps.length=0:=Nat.sub_eq_zero_of_le g.dl.1
 rw[z1,List.drop_zero]
 cases ds with
 |nil=>cases g with| all=>rw[List.zip_nil_right];rfl
 |cons d ds =>
  cases List.eq_nil_of_length_eq_zero (Nat.le_zero.mp (Nat.le_of_succ_le_succ h1))
  obtain⟨qs,q,rfl⟩ : ∃qs q,ps=qs++[q]:=⟨ps.dropLast,ps.getLast (fun z=>by have:=g.dl.1;rw[z] at this;exact absurd this (Nat.not_succ_le_zero 0)),(List.dropLast_concat_getLast _).symm⟩
  have hz:(qs++[q]).length-[d].length=qs.length:=by rw[List.length_append];rfl
  rw[hz,List.drop_left]
  have ha:=mV (us:=us) hn (gy rfl:(qs++[q])[qs.length]? = some q)
  show DH (q,d) ((qs++[q]).zip us) >>= _=_
  unfold DH
  cases g with
  |all _ h=>rw[if_neg (by rw[ha,List.getElem?_eq_getElem (by rw[h,List.length_append];exact Nat.lt_succ_self _)];exact Bool.false_ne_true)];rfl
  |one d' h =>
   have hq:us.length=qs.length:=by rw[List.length_append] at h;exact Nat.succ.inj h
   have e:(qs++[q]).zip us=qs.zip us:=by
    have:=List.zip_append (r₁:=[q]) (r₂:=([]:List Value)) hq.symm
    rw[List.append_nil,List.zip_nil_right,List.append_nil] at this
    exact this
   rw[if_pos (by rw[ha,List.getElem?_eq_none (Nat.le_of_eq hq)];rfl),List.zip_append hq.symm,e]
   rfl
end
theorem oR{α:Type}{M:Model}{A:Around}{E:Value->Shared->Prop}{s:Shared}{Q:α->Shared->Prop}{c:Prop} [Decidable c] {x y:Sem α}(h:¬c) (k:wpAny M A y Q E s):wpAny M A (if c then x else y) Q E s:=by rw[if_neg h];exact k
theorem BB{M:Model}{A:Around}{E:Value->Shared->Prop}{Q:List (Str×Value)->Shared->Prop}{s:Shared}{us ds vals:List Value}{ar:List Arg}{nm qn kd df bd sc gl cl Ky kdf doc pm an cd ct bt} (hd:∀Q:Option (Array Value)->Shared->Prop,(∀d,(d.getD #[]).toList=ds->Q d s)->wpAny M A (seqItems? Ky) Q E s)
  (g:Given us (ar.map (·.arg)).length ds vals) (hn:(ar.map (·.arg)).Nodup) (h1:ds.length<=1) (hq:Q ((ar.map (·.arg)).zip vals) s):wpAny M A (bindArgs ⟨nm,qn,⟨[],ar,none,[],kd,none,df⟩,bd,sc,gl,cl,Ky,kdf,doc,pm,an,cd,ct,bt⟩ ⟨us,[]⟩) Q E s :=
 wpAny_bind (wpAny_pure (wpAny_bind (hd _ fun d MA =>
  oR (fun q=>Nat.not_lt.mpr g.le (of_decide_eq_true (Bool.and_eq_true_iff.mp q).1)) (oR (fun q=>Bool.false_ne_true ((congrArg (fun l:List Str=>!l.isEmpty) ((show Given us (ar.map (·.arg)).length (d.getD #[]).toList vals from MA.symm▸g).missing hn)).symm.trans q))
   (wpAny_bind (wpAny_of_eq ((show Given us (ar.map (·.arg)).length (d.getD #[]).toList vals from MA.symm▸g).fill hn (MA.symm▸h1)) (wpAny_bind (wpAny_pure (oR (fun q=>nomatch q) (wpAny_pure (show Q (List.filterMap _ (ar.map (·.arg)++[])) s from
    (List.append_nil (ar.map (·.arg))).symm▸(zu (fin:=(ar.map (·.arg)).zip vals) g.len fun i x e=>mV hn e).symm▸hq)))))))))))
theorem args_eq{p:Arguments}(h1:p.posonlyargs=[]) (h2:p.vararg=none) (h3:p.kwonlyargs=[]) (h4:p.kwarg=none):p=⟨[],p.args,none,[],p.kw_defaults,none,p.defaults⟩ :=
 match p,h1,h2,h3,h4 with
 |⟨_,a,_,_,b,_,c⟩,h1,h2,h3,h4=>congrFun (congr (congrFun (congr (congr (congrFun (congrArg Arguments.mk h1) a) h2) h3) b) h4) c
theorem jj{s:Shared}{fd:FuncData}{us ds vals:List Value}{ps:List Str}(P:Plain fd ps) (hd:nE s.heap fd ds) (g:Given us ps.length ds vals):BindsTo s fd ⟨us,[]⟩ (ps.zip vals):=fun M A E Q hq=>by
 cases P.args
 exact Eq.subst (motive:=fun p=>wpAny M A (bindArgs { fd with params:=p } ⟨us,[]⟩) Q E s) (args_eq P.GS P.vararg P.kwonly P.kwarg).symm (BB (fun Q=>rD hd) g P.nodup (by induction hd<;>exact Nat.le_of_ble_eq_true rfl) hq)
theorem xT{B:List (Str×Value)->(Str->Option Value)->Str->Option Value}{c:Str->Prop}(h0:∀m,B [] m=m) (h1:∀n v r m,c n->B ((n,v)::r) m=B r fun y=>if y=n then some v else m y) (h2:∀n v r m,¬c n->B ((n,v)::r) m=B r m)
  {y:Str}(hy:c y){ps:List Str}:∀{vals:List Value}{m:Str->Option Value}{j:Nat}{v:Value},ps.Nodup->ps[j]? = some y->vals[j]? = some v->B (ps.zip vals) m y=some v:=by
 have out:∀{ps:List Str}{vals:List Value}{m:Str->Option Value},y∉ps->B (ps.zip vals) m y=m y:=fun{ps}=>by
  induction ps with
  |nil=>intro vals m _;exact congrFun (h0 m) y
  |cons p ps ih =>
   intro vals m h
   induction vals with
   |nil=>exact congrFun (h0 m) y
   |cons u vals =>
    rw[List.zip_cons_cons]
    by_cases hp:c p
    ·rw[h1 _ _ _ _ hp,ih fun q=>h (.tail _ q)];exact if_neg (show ¬y=p from fun q=>h (q▸.head _))
    ·rw[h2 _ _ _ _ hp];exact ih fun q=>h (.tail _ q)
 induction ps with
 |nil=>exact fun _ e=>nomatch e
 |cons p ps ih =>
  intro vals m j v hn e1 e2
  obtain⟨n1,n2⟩:=List.nodup_cons.mp hn
  induction vals with
  |nil=>injection e2
  |cons u vals =>
   rw[List.zip_cons_cons]
   induction j with
   |zero=>(injection e1 with e1;subst e1);(injection e2 with e2;subst e2);rw[h1 _ _ _ _ hy,out n1];exact if_pos rfl
   |succ j =>
    by_cases hp:c p
    ·rw[h1 _ _ _ _ hp];exact ih n2 e1 e2
    ·rw[h2 _ _ _ _ hp];exact ih n2 e1 e2
theorem ud{k:Str->Option NameKind}{y:Str}{ps:List Str}{vals:List Value}{m:Str->Option Value}{j:Nat}{v:Value}(hn:ps.Nodup) (e1:ps[j]? = some y) (e2:vals[j]? = some v) (hk:k y=some .local):bindL k (ps.zip vals) m y=some v :=
 xT (B:=bindL k) (c:=fun x=>k x=some .local) (fun _=>rfl) (fun n v r m h=>congrArg (bindL k r) (if_pos h)) (fun n v r m h=>congrArg (bindL k r) (if_neg h)) hk hn e1 e2
theorem BC{k:Str->Option NameKind}{y:Str}{ps:List Str}{vals:List Value}{m:Str->Option Value}{j:Nat}{v:Value}(hn:ps.Nodup) (e1:ps[j]? = some y) (e2:vals[j]? = some v) (hk:k y≠some .local):bindC k (ps.zip vals) m y=some v :=
 xT (B:=bindC k) (c:=fun x=>k x≠some .local) (fun _=>rfl) (fun n v r m h=>congrArg (bindC k r) (if_neg h)) (fun n v r m h=>congrArg (bindC k r) (if_pos (Classical.not_not.mp h))) hk hn e1 e2
theorem rE{x:Str}{names:List (Str×NameKind)}:∀{n:Nat}{acc:List (Str×Addr)},((x,NameKind.cell)∈names\/∃c,acc.lookup x=some c)->∃c,(cellsFrom n names acc).lookup x=some c:=by
 induction names with
 |nil=>exact fun h=>h.elim (fun h=>nomatch h) id
 |cons p r ih =>
  intro n acc h
  obtain⟨y,k⟩:=p
  unfold cellsFrom
  cases hk:(k==NameKind.cell) with
  |true =>
   refine ih (h.elim (fun h=>?_) fun⟨c,h⟩=>.inr ?_)
   ·cases h with
    |head=>exact .inr ⟨n,by rw[List.lookup_cons,beq_self_eq_true]⟩
    |tail _ h=>exact .inl h
   ·rw[List.lookup_cons]
    cases x==y with
    |true=>exact⟨n,rfl⟩
    |false=>exact⟨c,h⟩
  |false =>
   refine ih (h.elim (fun h=>?_) .inr)
   cases h with
   |head=>injection hk
   |tail _ h=>exact .inl h
structure FnAt(cx:Cx) (f:Nat) (Fd:Fn) (ps:List Str) (ds:List Value) (vs:List (Str×Nat)) (body:List Stmt):Prop where
 obj:∃o,cx.h₀.get? (cx.fA f)=some o/\o.cls≠.none/\o.data=.func (cx.fd f)
 code:∃c oc fs t,(cx.fd f).code=.ref c/\cx.h₀.get? c=some oc/\oc.cls≠.none/\oc.data=.fields fs/\fs[1]? = some (.str (cx.fd f).qualname t)
 body:(cx.fd f).body=.stmts body
 Sj:(cx.fd f).closure=[]
 glob:(cx.fd f).globals=mainGlobals
 blt:(cx.fd f).builtins=builtinsNs
 co:(cx.fd f).scope.isCoroutine=false
 gen:(cx.fd f).scope.isGenerator=false
 kind:(cx.fd f).scope.kind=.function
 plain:Plain (cx.fd f) ps
 np:ps.length=Fd.np
 pk:∀x∈ps,(cx.fd f).scope.names.lookup x=some .local\/(cx.fd f).scope.names.lookup x=some .cell
 free:∀x,(cx.fd f).scope.names.lookup x≠some .free
 Wv:∀y j,(y,j)∈vs->j<Fd.np->ps[j]? = some y
 defs:nE cx.h₀ (cx.fd f) ds
 Oi:∀T o,(cx.fd f).defaults=.ref T->cx.h₀.get? T=some o->o.cls≠.none
 Ky:∀G,bh G ds Fd.df
 dl:ds.length<=ps.length
noncomputable def d7(cx:Cx) (f:Nat) (L:Addr):Env:=callEnvC (cx.fd f) L (cx.fA f)
noncomputable def pN(cx:Cx) (A:Around) (l:List Env) (f:Nat) (vs:List (Str×Nat)) (L:Addr):Kx:=⟨A.deeper (d7 cx f L),d7 cx f L::l,d7 cx f L,vs⟩
structure GU(cx:Cx) (A:Around) (l:List Env) (f:Nat) (vs:List (Str×Nat)) (g:Gm) (w:Wd) (s1:Shared):Prop where
 at':At cx (pN cx A l f vs w.n) g (w.at s1)
 ev:iC cx l w (w.at s1)
 new:∀a,Dr (d7 cx f w.n) a->w.n<=a
section
variable {cx:Cx}{l:List Env}{w w' w1:Wd}{vs:List (Str×Nat)}{g:Gm}{s1:Shared}{A:Around}{E:Value->Shared->Prop}{f:Nat}{Fd:Fn}{ps:List Str}{ds us vals:List Value}{body:List Stmt}{C:fy}{sS:List AV}{h:Heap}{W:Addr->Prop}
theorem FnAt.defAt(X:FnAt cx f Fd ps ds vs body) (K:OldK cx.h₀ h):nE h (cx.fd f) ds:=by
 have d:=X.defs
 induction d with
 |no e=>exact .no e
 |one T o n d e ho hd=>exact .one T o n d e (K.get_of_cls ho (X.Oi T o e ho)) hd
theorem dB.of{G:Addr->Lg}{as:List Pl}{vs:List Value}{l:List PV}(r:bh G vs l):dB G as vs (l.map AV.t):=by
 induction r using bh.ind with
 |h0=>exact .nil
 |h1 v vs d l x r ih=>exact .cons x ih
theorem dB.append{G:Addr->Lg}{as:List Pl}{a b:List Value}{x y:List AV}(r:dB G as a x) (q:dB G as b y):dB G as (a++b) (x++y):=by
 induction r with
 |nil=>exact q
 |cons x _ ih=>exact .cons x ih
theorem dB.get{G:Addr->Lg}{as:List Pl}{us:List Value}{x:List AV}(r:dB G as us x):∀{i:Nat}{a:AV},x[i]? = some a->∃v,us[i]? = some v/\cQ G as v a:=by
 induction r with
 |nil=>exact fun e=>nomatch e
 |cons x _ ih =>
  intro i a e
  induction i with
  |zero=>(injection e with e;subst e);exact⟨_,rfl,x⟩
  |succ i=>exact ih (i:=i) e
inductive IX(w:Wd) (us ds:List Value) (n:Nat) (g:Gm):Prop
 |mk (vals:List Value) (as:List AV) (gv:Given us n ds vals) (r:dB w.G w.as vals as) (hg:∀(j:Nat) (a:AV),g[j]? = some (some a)->j<n/\as[j]? = some a)
theorem BD{a p d:Nat}(hd:d<=1) (hb:a<=p/\p<=a+d) (hq:¬a=p):a+1=p/\d=1 :=
 have h:a+1<=p:=Nat.lt_of_le_of_ne hb.1 hq
 have e:d=1:=Nat.le_antisymm hd (Nat.le_of_add_le_add_left (Nat.le_trans h hb.2))
 ⟨Nat.le_antisymm h (e▸hb.2),e⟩
theorem begun(hd:ds.length<=1) (dl:ds.length<=Fd.np) (rd:bh w.G ds Fd.df) (r:dB w.G w.as us sS) (e:Fd.start sS=some g):IX w us ds Fd.np g:=by
 unfold Fn.start at e
 split at e
 ·rename_i hb
  injection e with e;subst e
  have h1:=r.length
  have h2:=rd.length
  have fin:∀{vals:List Value}{ex:List PV},Given us Fd.np ds vals->dB w.G w.as vals (sS++ex.map AV.t)->IX w us ds Fd.np ((sS++ex.map AV.t).map some++List.replicate Fd.nl none):=fun{vals ex} gv ra =>
   have hl:((sS++ex.map AV.t).map some).length=Fd.np:=(List.length_map ..).trans (ra.length.symm.trans gv.len.symm)
   .mk vals _ gv ra fun j a q=>by
    by_cases hj:j<Fd.np
    ·rw[List.getElem?_append_left (hl.symm▸hj),List.getElem?_map] at q
     obtain⟨a',e1,e2⟩:=Option.map_eq_some_iff.mp q
     injection e2 with e2;subst e2
     exact⟨hj,e1⟩
    ·rw[List.getElem?_append_right (hl.symm▸Nat.le_of_not_lt hj)] at q
     cases(List.mem_replicate.mp (List.mem_of_getElem? q)).2
  by_cases hq:sS.length=Fd.np
  ·rw[hq,Nat.add_sub_cancel_left,List.drop_eq_nil_of_le (Nat.le_refl _)]
   exact fin (ex:=[]) (.all ds (h1.trans hq) dl) (by rw[List.map_nil,List.append_nil];exact r)
  ·have hz:=BD hd (h2▸hb) hq
   obtain⟨d,rfl⟩:=List.length_eq_one_iff.mp hz.2
   rw[show sS.length+Fd.df.length-Fd.np=0 by rw[<-h2,<-hz.1];exact Nat.sub_self _,List.drop_zero]
   exact fin (.one d (by rw[h1];exact hz.1)) (r.append (.of rd))
 ·injection e
theorem FnAt.entry(X:FnAt cx f Fd ps ds vs body) (I:Inv cx w) (fr:dN cx l w) (hv:∀y j a,(y,j)∈vs->g[j]? = some (some a)->∃v,ps[j]? = some y/\vals[j]? = some v/\cQ w.G w.as v a)
  (IY:InCallC w.s (d7 cx f w.n).locals (bindL (d7 cx f w.n).kindOf (ps.zip vals) fun _=>none) (d7 cx f w.n).cells (bindC (d7 cx f w.n).kindOf (ps.zip vals) fun _=>none) s1):GU cx A l f vs g w s1:=by
 obtain⟨⟨⟨h1,tk,Kz⟩,yS,Di,hfresh⟩,nF,hapart,habove⟩:=IY
 have yS:s1.heap.Ns w.n _:=yS
 have qU:w.n<s1.heap.objs.size:=by obtain⟨o,_,_,e,_⟩:=yS;exact Heap.lt_size e
 have ev:iC cx l w (w.at s1):=I.keeps Di (by rw[Kz]) (by rw[Kz]) (Nat.le_of_lt qU)
 have pL:iB cx (w.at s1) w.n:=⟨I.ge,qU,I.rel.mC (Nat.le_refl _)⟩
 have MC:=fr.ev ev
 have Sk:ez (d7 cx f w.n::l)=w.n::ez l:=fJ rfl
 obtain⟨oL,esL,epL,eoL,dL,_⟩:=id yS
 have wW:∀y c,(d7 cx f w.n).cells.lookup y=some c->w.n<c:=fun y c e=>habove y c (PySem.mem_of_lookup e)
 have ck:∀y,(d7 cx f w.n).kindOf y=some .cell->∃c,(d7 cx f w.n).cells.lookup y=some c:=fun y hy=>rE (.inl (PySem.mem_of_lookup hy))
 refine⟨⟨ev.inv,⟨fun a ha=>?_,fun a ha=>?_,fun e he=>?_⟩,⟨X.kind,X.glob,X.blt,pL,⟨_,yS⟩,fun y c e=>?_,fun y z c e1 e2=>name_of_addr hapart (PySem.mem_of_lookup e1) (PySem.mem_of_lookup e2),fun y hy=>?_⟩,fun y j a e1 e2=>?_⟩,ev,fun a h=>h.elim (fun h=>Nat.le_of_eq h.symm) fun⟨y,e⟩=>Nat.le_of_lt (wW y a e)⟩
 ·rw[show ez (pN cx A l f vs w.n).l=w.n::ez l from Sk] at ha
  cases ha with
  |head=>exact pL
  |tail _ ha=>exact MC.at' a ha
 ·rw[show ez (pN cx A l f vs w.n).l=w.n::ez l from Sk] at ha
  cases ha with
  |head=>exact⟨oL,eoL,fun vs q=>by rw[dL] at q;injection q⟩
  |tail _ ha=>exact MC.ob a ha
 ·cases he with
  |head=>exact⟨fun q=>(by rw[show(d7 cx f w.n).scope.kind=.function from X.kind] at q;injection q),_,rfl⟩
  |tail _ he=>exact MC.env e he
 ·have hc:=wW y c e
  refine⟨⟨Nat.le_trans I.ge (Nat.le_of_lt hc),(nF y c e).lt,I.rel.mC (Nat.le_of_lt hc)⟩,fun q=>?_,Nat.ne_of_gt hc,_,nF y c e⟩
  rw[show ez (pN cx A l f vs w.n).l=w.n::ez l from Sk] at q
  cases q with
  |head=>exact Nat.lt_irrefl _ hc
  |tail _ q=>exact Nat.lt_asymm hc (fr.at' c q).lt
 ·exact hy.elim (ck y) fun hy=>absurd hy (X.free y)
 ·obtain⟨v,hy,tR,rv⟩:=hv y j a e1 e2
  refine⟨v,?_,rv.ev ev⟩
  rcases X.pk y (List.mem_of_getElem? hy) with hk|hk
  ·exact .loc hk _ yS (ud X.plain.nodup hy tR hk)
  ·obtain⟨c,hc⟩:=ck y hk
   refine .cell (.inl hk) c hc ?_
   have z:=nF y c hc
   rw[BC X.plain.nodup hy tR (fun q=>by cases(show(cx.fd f).scope.names.lookup y=some .local from q).symm.trans hk)] at z
   exact z
theorem Ev.pop{env:Env}{L:Addr}(hf:env.frame=some L) (y:Ev cx (ez (env::l)) W w w'):Ev cx (ez l) (fun a=>W a\/a=L) w w':=by
 rw[fJ hf] at y
 exact⟨y.inv,y.size,fun a h1 h2 h3 h4 h5=>y.keep a h1 h2 h3 (fun q=>by
  cases q with
  |head=>exact h5 (.inr rfl)
  |tail _ q=>exact h4 q) fun q=>h5 (.inl q),fun a h1 h2=>y.frame a (.tail _ h1) fun q=>h2 (.inl q),y.sub,y.pre,y.out⟩
noncomputable def BodyOk(cx:Cx) (A:Around) (l:List Env) (C:fy) (f:Nat) (Fd:Fn) (vs:List (Str×Nat)) (body:List Stmt):Prop:=∀L,sZ cx (pN cx A l f vs L) body (bO C Fd.body)
noncomputable def post(Q E:Value->Shared->Prop):Result->Shared->Prop:=fun r s'=>match r with
 |.ok (.ret v)=>Q v s'
 |.ok _=>False
 |.error e=>E e s'
noncomputable def Callee(cx:Cx) (A:Around) (l:List Env) (C:fy) (f:Nat):Prop :=
 ∀w us sS,Inv cx w->dN cx l w->dB w.G w.as us sS->∀Q E,bT cx l w (C f sS w.st) cH Q E->codeAny (model cx.prog cx.w) A (.call (.ref (cx.fA f)) ⟨us,[]⟩) (post Q E) w.s
structure Sl(cx:Cx) (l:List Env) (w:Wd) (r:Option Out) (Q:Value->Shared->Prop) (E:Value->Shared->Prop):Prop where
 ne:r≠none
 nc:∀g st,r≠some (.cont g st)
 next:∀(g:Gm) (w':Wd),r=some (.next g w'.st)->iC cx l w w'->Q .none w'.s
 ret:∀(a:AV) (v:Value) (w':Wd),r=some (.ret a w'.st)->iC cx l w w'->cQ w'.G w'.as v a->Q v w'.s
 exc:∀(m:Tx) (e:Value) (w':Wd),r=some (.exc m w'.st)->iC cx l w w'->ve cx l w.n w' e m->E e w'.s
theorem nE.le{fd:FuncData}(d:nE h fd ds):ds.length<=1:=by induction d<;>exact Nat.le_of_ble_eq_true rfl
theorem FnAt.run{Q:Value->Shared->Prop}(X:FnAt cx f Fd ps ds vs body) (gT:A.depth<recursionLimit) (ir:A.frames=some l) (hb:BodyOk cx A l C f Fd vs body) (I:Inv cx w) (fr:dN cx l w) (ar:dB w.G w.as us sS) (GV:Fd.start sS=some g)
  (T:Sl cx l w (bO C Fd.body g w.st) Q E):codeAny (model cx.prog cx.w) A (.call (.ref (cx.fA f)) ⟨us,[]⟩) (post Q E) w.s:=by
 obtain⟨o,ho,hc,hd⟩:=X.obj
 obtain⟨c,oc,fs,t,c1,c2,c3,c4,c5⟩:=X.code
 have da:=X.defAt I.old
 obtain⟨vals,as,gv,ra,hg⟩:=begun (w:=w) da.le (X.np▸X.dl) (X.Ky _) ar GV
 rw[<-X.np] at gv hg
 refine codeAny_call_function gT (I.old.get_of_cls ho hc) hd X.co X.gen X.body ⟨c,oc,fs,t,c1,I.old.get_of_cls c2 c3,c4,c5⟩ (jj X.plain da gv _ _ _ _ ?_)
 rw[X.Sj]
 refine wpAny_newFunctionEnv_cells X.kind (fun p hp=>(X.pk p.1 (List.of_mem_zip hp).1).imp id fun q=>⟨q,let⟨c,hc⟩:=rE (n:=w.n+1) (acc:=[]) (.inl (PySem.mem_of_lookup q));by rw[hc];rfl⟩) fun env he s1 x=>?_
 cases(he:env=d7 cx f w.n)
 refine⟨I.lim.keeps x.toInCall.keep,codeAny_func ?_⟩
 obtain⟨X1,tR,new⟩:=X.entry (A:=A) I fr (fun y j a e1 e2=>let⟨hj,ea⟩:=hg j a e2;let⟨v,q,r⟩:=ra.get ea;⟨v,X.Wv y j e1 (X.np▸hj),q,r⟩) x
 have lim:∀a∈ez l,a<w.n:=fun a q=>(fr.at' a q).lt
 have GW:∀{w'},Ds cx (pN cx A l f vs w.n) (w.at s1) w'->iC cx l w w':=fun y=>tR.over (y.pop rfl) (fun a q=>.inl (q.elim (new a) fun q=>Nat.le_of_eq q.symm)) lim
 exact hb w.n g (w.at s1) X1 _ _ ⟨T.ne,fun g' w' e y _=>T.next g' w' e (GW y),fun g' w' e _ _=>absurd e (T.nc _ _),fun a v g' w' e y _ r=>T.ret a v w' e (GW y) r,fun m u g' w' e y X' q =>
  kD (N:=w.n) (Around.frames_deeper ir) rfl X'.inv X'.fr (q.mono tR.size) fun s2 z zx=>T.exc m u (w'.at s2) e ((GW y).over (z.pop rfl) (fun a q=>.inl (q.elim id fun q=>Nat.le_of_eq q.symm)) lim) (zx.out rfl)⟩
noncomputable def hide(G:Addr->Lg):Addr->Lg:=fun a=>match G a with| .nd _=>.out|x=>x
noncomputable def nG(G G':Addr->Lg):Addr->Lg:=fun a=>match G a with| .nd i=>.nd i|_=>G' a
theorem lR{G:Addr->Lg}{a:Addr}{o:FO}:hide G a=.fz o↔G a=.fz o:=by
 unfold hide
 cases G a with
 |nd=>exact⟨fun q=>(by injection q),fun q=>(by injection q)⟩
 |_=>exact Iff.rfl
theorem kF{G:Addr->Lg}{a:Addr}(h:G a=.out):hide G a=.out:=by unfold hide;rw[h]
theorem Af{G:Addr->Lg}{a:Addr}{i:Nat}(h:G a=.nd i):hide G a=.out:=by unfold hide;rw[h]
theorem vC{G G':Addr->Lg}{a:Addr}{i:Nat}(h:G a=.nd i):nG G G' a=.nd i:=by unfold nG;rw[h]
theorem gB{G G':Addr->Lg}{a:Addr}(h:∀i,G a≠.nd i):nG G G' a=G' a:=by
 unfold nG
 cases q:G a with
 |nd i=>exact absurd q (h i)
 |_=>rfl
noncomputable def Wd.alone(w:Wd):Wd:=⟨hide w.G,[],[],w.s⟩
noncomputable def Wd.fU(w w':Wd):Wd:=⟨nG w.G w'.G,w.as,w.st,w'.s⟩
theorem Inv.alone(I:Inv cx w):Inv cx w.alone where
 rel:={ len:=rfl,nodes:=fun _ _ _ q=>(nomatch q),fq:=fun _ _ _ q=>(nomatch q),fz:=fun a o e=>I.rel.fz a o (lR.mp e),pq:=fun a c dx gs e=>lR.mpr (I.rel.pq a c dx gs (lR.mp e)),lo:=fun a h=>I.rel.lo a fun q=>h (kF q),live:=fun a h=>I.rel.live a fun q=>h (kF q) }
 old:=I.old
 os:=I.os
 gens:=I.gens
 lim:=I.lim
 low:=I.low
 jb:=I.jb
 ge:=I.ge
 tab:=let⟨ps,e,t,c⟩:=I.tab;⟨ps,e,t,fun pos cv q=>(c pos cv q).mono fun _ _=>lR.mpr⟩
theorem iB.alone{a:Addr}(p:iB cx w a):iB cx w.alone a:=⟨p.ge,p.lt,kF p.out⟩
theorem dN.alone(x:dN cx l w):dN cx l w.alone:=⟨fun a h=>(x.at' a h).alone,x.ob,x.env⟩
theorem bh.sub{G G':Addr->Lg}{vs:List Value}{l:List PV}(r:bh G vs l) (h:∀a o,G a=.fz o->G' a=.fz o):bh G' vs l:=r.mono h
theorem rF(I:Inv cx w) (y:iC cx l w.alone w'):Sub w'.G (w.fU w').G:=fun a o e=>by
 refine(gB fun i q=>?_).trans e
 have:=y.out a (I.rel.lt (q▸fun z=>by injection z)) (Af q)
 rw[this] at e
 injection e
theorem Ev.fU(I:Inv cx w) (fr:dN cx l w) (y:iC cx l w.alone w'):iC cx l w (w.fU w'):=by
 have S:=I.rel
 have sub:=rF I y
 have out:∀a,a<w.n->w.G a=.out->(w.fU w').G a=.out:=fun a h e=>(gB fun i q=>by rw[e] at q;injection q).trans (y.out a h (kF e))
 have up:Sub w.G (w.fU w').G:=fun a o e=>sub a o (y.sub a o (lR.mpr e))
 have nd:∀{a i},w.G a=.nd i->w'.h.get? a=w.h.get? a:=fun{a i} e=>by
  have g:w.G a≠.out:=e▸fun q=>by injection q
  obtain⟨o,q⟩:=S.live a g
  exact(y.keep a (S.lo a g) (S.lt g) (Af e) (fun z=>g (fr.at' a z).out) (fun z=>z) o q).trans q.symm
 refine⟨⟨⟨S.len,fun i p n e1 e2=>((S.nodes i p n e1 e2).congr fun a ha=>nd (S.fq i p n e1 e2 a ha)).mono up fun _ _ e=>e,fun i p n e1 e2 a ha=>vC (S.fq i p n e1 e2 a ha),fun a o e=>?_,fun a c dx gs e=>?_,fun a h=>?_,fun a h=>?_⟩,y.inv.old,y.inv.os,y.inv.gens,y.inv.lim,y.inv.low,y.inv.jb,y.inv.ge,
  let⟨ps,e,t,c⟩:=y.inv.tab;⟨ps,e,t,fun pos cv q=>(c pos cv q).mono sub⟩⟩,y.size,fun a h1 h2 h3 h4 h5=>y.keep a h1 h2 (kF h3) h4 h5,y.frame,up,fun _ _ e=>e,out⟩
 ·replace e:nG w.G w'.G a=.fz o:=e
  cases q:w.G a with
  |nd i=>rw[vC q] at e;injection e
  |_=>rw[gB (fun i z=>by rw[q] at z;injection z)] at e;exact y.inv.rel.fz a o e
 ·replace e:nG w.G w'.G a=_:=e
  cases q:w.G a with
  |nd i=>rw[vC q] at e;injection e
  |_=>rw[gB (fun i z=>by rw[q] at z;injection z)] at e;exact sub _ _ (y.inv.rel.pq a c dx gs e)
 ·replace h:nG w.G w'.G a≠_:=h
  cases q:w.G a with
  |nd i=>exact S.lo a (q▸fun z=>by injection z)
  |_=>rw[gB (fun i z=>by rw[q] at z;injection z)] at h;exact y.inv.rel.lo a h
 ·replace h:nG w.G w'.G a≠_:=h
  cases q:w.G a with
  |nd i=>obtain⟨o,e⟩:=S.live a (q▸fun z=>by injection z);exact⟨o,(nd q).trans e⟩
  |_=>rw[gB (fun i z=>by rw[q] at z;injection z)] at h;exact y.inv.rel.live a h
theorem ve.fU{e:Value}{m:Tx}(I:Inv cx w):ve cx l w.n w' e m->ve cx l w.n (w.fU w') e m
 |.mk a vs q (.mk dx oe mm t h2 h3 h4 h5 p n h6 h7 h8 h9 Mq IF) (.mk T oT ts w1 w2 w3 w4 w5 pT nT) =>
  have pv:∀{a},w.n<=a->iB cx w' a->iB cx (w.fU w') a:=fun n p=>⟨p.ge,p.lt,(gB fun i q=>by rw[I.rel.mC n] at q;injection q).trans p.out⟩
  .mk a vs q (.mk dx oe mm t h2 h3 h4 h5 (pv n p) n h6 h7 h8 h9 Mq IF) (.mk T oT ts w1 w2 w3 w4 w5 (pv nT pT) nT)
theorem vH{Q:Value->Shared->Prop}{own:Bool}{a:AV}{v:Value}(I:Inv cx w) (y:iC cx l w w') (r:cQ w'.G w'.as v a) (T:bT cx l w (Ba own w.st.length a w'.st) cH Q E):Q v w'.s:=by
 induction own with
 |true=>exact T.ok _ v w' rfl y r
 |false =>
  replace T:bT cx l w ((Mine.eX w'.st a).bind fun d st=>kq w.st.length d st) cH Q E:=T
  rcases nt (w:=w') (a:=a) rfl with q|⟨d,st1,q,q'⟩
  ·rw[q] at T;exact T.no
  ·rw[q'] at T
   obtain⟨G',ev,rd⟩:=fO _ y.inv r q
   replace T:bT cx l w (kq w.st.length d st1) cH Q E:=T
   unfold kq at T
   cases hk:back w.st.length st1 with
   |none=>rw[hk] at T;exact T.no
   |some st2=>rw[hk] at T;exact T.ok _ v (Wd.cut ⟨G',w'.as,st1,w'.s⟩ _ st2) rfl ((y.trans (ev _ _)).back (w:=⟨G',w'.as,st1,w'.s⟩) (Nat.le_of_eq I.rel.len) hk) rd
theorem zv(X:FnAt cx f Fd ps ds vs body) (gT:A.depth<recursionLimit) (ir:A.frames=some l) (hb:BodyOk cx A l C f Fd vs body) (I:Inv cx w) (fr:dN cx l w) (ar:dB w.G w.as us sS){Q:Value->Shared->Prop}
  (T:bT cx l w (fB C Fd sS w.st) cH Q E):codeAny (model cx.prog cx.w) A (.call (.ref (cx.fA f)) ⟨us,[]⟩) (post Q E) w.s:=by
 unfold fB at T
 cases Oj:Fd.ref with
 |true =>
  rw[Oj] at T
  exact T.oB fun g GV T=>X.run gT ir hb I fr ar GV ⟨fun q=>T.ne (by rw[q];rfl),fun g' st q=>T.ne (by rw[q];rfl),fun g' w' e y=>vH I y (show cQ _ _ _ (.t .none) from Rep.none) (e▸T),fun a v w' e y r=>vH I y r (e▸T),fun m u w' e y z=>bT.err (e▸T) m u w' rfl y z⟩
 |false =>
  rw[Oj] at T
  refine T.fE I ar fun Cz G' st' e1 r1 T=>T.oB fun g GV T=>?_
  have I1:=e1.inv
  have MC:=fr.ev e1
  have bs:∀{w'},iC cx l (Wd.alone ⟨G',w.as,st',w.s⟩) w'->iC cx l ⟨G',w.as,st',w.s⟩ (Wd.fU ⟨G',w.as,st',w.s⟩ w'):=fun y=>y.fU I1 MC
  refine X.run (w:=Wd.alone ⟨G',w.as,st',w.s⟩) gT ir hb I1.alone MC.alone (.of (r1.sub fun _ _=>lR.mpr)) GV ⟨fun q=>T.ne (by rw[show bO C Fd.body g []=none from q];rfl),fun g' st q=>T.ne (by rw[show bO C Fd.body g []=_ from q];rfl),fun g' w' e y=>?_,fun a v w' e y r=>?_,fun m u w' e y z=>?_⟩
  ·rw[show bO C Fd.body g []=_ from e] at T
   exact T.ok _ .none (Wd.fU ⟨G',w.as,st',w.s⟩ w') rfl (bs y) Rep.none
  ·rw[show bO C Fd.body g []=_ from e] at T
   replace T:bT cx l ⟨G',w.as,st',w.s⟩ (JG st' (i8 cT w'.st a)) cH Q E:=T
   cases hq:i8 cT w'.st a with
   |none=>rw[hq] at T;exact T.no
   |some q =>
    rw[hq] at T
    obtain⟨G2,ev,rd⟩:=fO _ y.inv r hq
    have y2:=y.trans (ev _ _)
    exact T.ok _ v (Wd.fU ⟨G',w.as,st',w.s⟩ ⟨G2,w'.as,q.2,w'.s⟩) rfl (bs y2) (rd.mono (rF I1 y2))
  ·rw[show bO C Fd.body g []=_ from e] at T
   exact T.err m u (Wd.fU ⟨G',w.as,st',w.s⟩ w') rfl (bs y) (z.fU I1)
end
inductive gU(h:Heap) (a:Addr) (fd:FuncData):Prop
 |mk (o:Obj) (e:h.get? a=some o) (c:o.cls=.type "function") (d:o.data=.func fd)
theorem gU.old{h₀ h:Heap}{a:Addr}{fd:FuncData}(K:OldK h₀ h):gU h₀ a fd->gU h a fd
 |.mk o e c d=>.mk o (K.get_of_cls e (by rw[c];exact fun q=>by injection q)) c d
section
variable {cx:Cx}{D:Frag}{nm:Nat->Option Str}{K:Kx}{g:Gm}{w w':Wd}{s:Shared}{E:Value->Shared->Prop}{Q:Value->Shared->Prop}{f:Nat}{C:fy}{x:Str}{p pos apos:Pos}{xs:List Expr}{fs:Gm->aB->R (List AV)}{us:List Value}{as:List AV}{c:ie}{v:Value}{a:AV}{k:Kv}{o:Expr}
theorem SA.args{A:Around}{fv:Value}{Q:Args->Shared->Prop}(r:SA cx K xs fs) (h:wpAny (model cx.prog cx.w) A (spliced (backTo pos (starEach xs K.env))) (fun us cz=>Q ⟨us,[]⟩ cz) E s) :
  wpAny (model cx.prog cx.w) A (evalArgs fv true (backTo pos (starEach xs K.env)) []) Q E s:=by
 induction xs with
 |nil=>exact wpAny_bind (wpAny_mono h (fun us s1 q=>wpAny_bind (wpAny_pure (wpAny_holding (wpAny_bind (wpAny_evalAll_nil (wpAny_bind (wpAny_pure (wpAny_pure q)))))))) fun _ _ q=>q)
 |cons y ys =>
  rw[r.head y ys rfl] at h ⊢
  exact evalArgs_plain h
theorem SE.call(B:Base cx nm) (hx:nm f=some x) (hk:K.env.kindOf x=some .globalImplicit) (hd:(x==("__debug__" : Str))=false) (O:gU cx.h₀ (cx.fA f) (cx.fd f)) (hC:Callee cx K.A K.l C f) (r:SA cx K xs fs) :
  SE cx K (.Call (.Name x p) xs [] pos) (kN (Iz C f) fs):=fun g w X Q E T =>
 let⟨o,ho,hc,Gl⟩:=O
 wpAny_Call_Name_kw (gw X B hk hd (B.fg f x hx) (Calls.callWith_function (o:=o) (fd:=cx.fd f) (r.args ((r.w pos g w X).step T fun as us w1 e1 r1 T =>
  ⟨⟨e1.inv.old.get_of_cls ho (by rw[hc];exact fun q=>by injection q),Gl⟩,wpAny_call (hC w1 us as e1.inv (X.fr.ev e1) r1.r Q E T)⟩))))
theorem s6{M:Model}{A:Around}{C:Addr}{args:List (Bool×Sem Value)}(GV:args.any (·.1)=false)
  (h:wpAny M A (evalArgs (.ref C) true args []) (fun as cz=>(∃N o,cz.heap.get? C=some o/\oG C N o)/\wpAny M A (PySem.call (.ref C) as.pos as.kw) Q E cz) E s) :
  wpAny M A (callWith pos (.ref C) [] args []) Q E s:=by
 unfold callWith
 refine wpAny_bind (wpAny_holding (wpAny_mono h (fun as cz iS=>?_) fun _ _ x=>x))
 obtain⟨⟨N,o,e,hC⟩,hc⟩:=iS
 induction hC with
 |mk nm q bs sn sub col dd k0 k1 k2 k3 k5 =>
 have f1:=tc_lookup
 have hT:cz.TypeIs (.ref C) "type":=⟨_,e,rfl⟩
 refine wpAny_bind (wpAny_standAt ?_)
 show wpAny _ _ (keeperOf (.ref C) >>= _) _ _ _
 unfold keeperOf specialOf
 repeat(any_goals(first| assumption|with_reducible refine wpAny_loadPart_at e ?_|with_reducible refine wpAny_load' e ?_|wp_step))
 rw[if_pos (by rfl),GV]
 show wpAny _ _ (PySem.call (.ref C) ([]++as.pos) as.kw >>= fun r=>do holding [r] point;pure r) _ _ _
 exact wpAny_bind (wpAny_mono hc (fun r s' hr=>wpAny_bind (wpAny_holding (wpAny_point (wpAny_pure hr)))) fun _ _ x=>x)
noncomputable def Ol(cx:Cx) (c:ie) (s:Shared):Shared:={ s with heap:=(s.heap.push emptyDict).push (instObj (cx.cA c) s.heap.objs.size) }
noncomputable def Wd.inst(cx:Cx) (c:ie) (w:Wd):Wd:=w.push (w.n+1,w.n) (.inst c []) (Ol cx c w.s)
theorem DI{fr:List Addr}{W:Addr->Prop}(hc:c≠.aQ) (I:Inv cx w):Ev cx fr W w (w.inst cx c):=by
 have hd:((w.h.push emptyDict).push (instObj (cx.cA c) w.n)).get? w.n=some emptyDict:=Heap.get?_push_of_some _ (Heap.get?_push_size _ rfl)
 have hx:((w.h.push emptyDict).push (instObj (cx.cA c) w.n)).get? (w.n+1)=some (instObj (cx.cA c) w.n):=by
  have:=Heap.get?_push_size (w.h.push emptyDict) (o:=instObj (cx.cA c) w.n) rfl
  rwa [Heap.size_push] at this
 have hz:(Ol cx c w.s).heap.objs.size=w.n+1+1:=by show((w.h.push emptyDict).push (instObj (cx.cA c) w.n)).objs.size=_;rw[Heap.size_push,Heap.size_push]
 refine I.push (fun b o e=>Heap.get?_push_of_some _ (Heap.get?_push_of_some _ e)) rfl rfl (by rw[hz];exact Nat.le_add_right _ 2) (List.forall_mem_cons.mpr ⟨Nat.le_succ _,List.forall_mem_cons.mpr ⟨Nat.le_refl _,fun _ q=>nomatch q⟩⟩)
  (List.forall_mem_cons.mpr ⟨⟨_,hx⟩,List.forall_mem_cons.mpr ⟨⟨_,hd⟩,fun _ q=>nomatch q⟩⟩) (.inst (gs:=[]) (.mk (fun _=>none) (.mk _ hx rfl (fun c q=>by injection q) rfl (Nat.ne_of_lt (Nat.lt_succ_self _)) (Heap.Ns1.of_empty ⟨_,#[],_,hd,rfl,fun e he=>absurd he (by simp),fun _=>rfl⟩) ⟨_,hd,rfl,rfl⟩ fun y hy=>absurd rfl hy) (fun q=>absurd q hc) fun _ q=>nomatch q) .nil)
theorem bT.split{α β γ δ:Type}{l:List Env}{r:R β}{f:β->aB->R γ}{Rel:α->β->Wd->Prop}{Rel2:δ->γ->Wd->Prop}{Q:δ->Shared->Prop}{Q0:α->Shared->Prop}(T:bT cx l w (r.bind f) Rel2 Q E)
  (k:∀b a w',iC cx l w w'->Rel a b w'->bT cx l w' (f b w'.st) Rel2 Q E->Q0 a w'.s):bT cx l w r Rel Q0 E :=
 ⟨fun e=>T.ne (by rw[e];rfl),fun b a w' e ev rel=>k b a w' ev rel (T.later e ev),fun _ _ _ q ev z=>T.fails q ev z⟩
theorem DJ{G:Addr->Lg}:Rep G v .none->v=.none
 |.none=>rfl
 |.ref _ q _=>nomatch q
theorem GX{l:List Env}{b:Value}{z:AV}{i:Nat}(I:Inv cx w') (r:cQ w'.G w'.as b z) (rs:u7 w'.as v i) (T:bT cx l w' (Nh i z w'.st) cH Q E):b=.none/\Q v w'.s:=by
 induction z with
 |r=>exact T.no
 |t d=>cases d with
  |none=>exact⟨DJ r,T.done I rs⟩
  |_=>exact T.no
theorem SE.new(B:Base cx nm) (KB:Cy cx D) (hc:c≠.aQ) (hk:K.env.kindOf (clsName c)=some .globalImplicit) (hd:(clsName c==("__debug__" : Str))=false)
  (hC:∀us,Callee cx (K.A.under (.builtin "type.__call__" ⟨.ref (cx.cA c)::us,[]⟩)) K.l C (fT c)) (r:SA cx K xs fs) :
  SE cx K (.Call (.Name (clsName c) p) xs [] pos) (kN (A9 C c (fT c)) fs):=fun g w X Q E T=>by
 refine wpAny_Call_Name_kw (gw X B hk hd (B.cg c) (s6 (r.plain pos) (r.args ((r.w pos g w X).step T fun as us w1 e1 r1 T=>?_))))
 obtain⟨N,mN,XC⟩:=B.cls c
 have KI:=KB.here e1.inv.old
 obtain⟨oc,h1,h2⟩:=(OldK.cls e1.inv.old XC).obj
 refine⟨⟨N,oc,h1,h2⟩,wpAny_call (make_core (makes_of KI (KB.makes c)) (looks_findIn KI (KB.init c)) (fun self=>bind_fn KI self (KB.fn c)) (.inl rfl) ?_)⟩
 have e2:iC cx K.l w1 (w1.inst cx c):=DI hc e1.inv
 have hs:(w1.inst cx c).as[w1.st.length]? = some (w1.n+1,w1.n):=gy e1.inv.rel.len.symm
 have T1:bT cx K.l (w1.inst cx c) (C (fT c) (.r w1.st.length::as) (w1.inst cx c).st) cH (fun v s'=>v=.none/\Q (.ref (w1.n+1)) s') E:=(T.start e2).split fun z b w' e3 r3 T=>GX e3.inv r3 (.mk _ (e3.pre _ _ hs) rfl) T
 refine codeAny_mono (hC _ (w1.inst cx c) (.ref (w1.n+1)::us) (.r w1.st.length::as) e2.inv ((X.fr.ev e1).ev e2) (.cons (.mk _ hs rfl) (r1.r.ev e2)) _ _ T1) fun r s' z=>?_
 induction r with
 |error e=>exact z
 |ok fl=>induction fl with
  |ret v=>exact z
  |_=>exact z.elim
theorem Base.vec(B:Base cx nm):c.CG=true->cx.cA c=cx.cA .aQ:=fun q=>by cases c<;>first| rfl|exact B.v0|injection q
theorem pO{d:PV}(S:eV cx w) (B:Base cx nm) (r:Rep w.G v d) (e:yZ d=some true):∃x dx m,v=.ref x/\gm w.h x dx (cx.cA .aQ) m:=by
 cases r with
 |ref g z r =>
  induction z with
  |@ins cl _ _ _ _=>cases S.fz _ _ g with
   |mk m i=>exact⟨_,_,m,rfl,B.vec (Option.some.inj e)▸i⟩
  |_=>injection e
 |_=>cases e
theorem xU(S:eV cx w) (B:Base cx nm) (r:cQ w.G w.as v a) (e:oz w.st a=some true):∃x dx m,v=.ref x/\gm w.h x dx (cx.cA .aQ) m:=by
 induction a with
 |t d=>exact pO S B r e
 |r i =>
  obtain⟨p,hp,rfl⟩:=r
  replace e:yY w.st[i]? = some true:=e
  cases hn:w.st[i]? with
  |none=>rw[hn] at e;injection e
  |some nd =>
   rw[hn] at e
   cases S.nodes i p nd hp hn with
   |@fz d r=>exact pO S B r (by cases d<;>first| exact e|injection e)
   |tr q=>cases nd<;>first| (cases q;done)|(injection e;done)
   |@inst cl _ _ i=>induction i with
    |mk m i=>exact⟨_,_,m,rfl,B.vec (Option.some.inj e)▸i⟩
theorem xV:typeLookup (.type "object") "copy" = pure none:=by rw[typeLookup_type,builtinLookup_eq_fast];kernel_rfl
theorem gm.GY{h:Heap}{x dx C:Addr}{m:Str->Option Value}:gm h x dx C m->m "copy" = none
 |.mk _ _ _ _ _ _ _ _ w=>Classical.byContradiction fun q=>absurd (w "copy" q) (by decide)
theorem SE.copy(B:Base cx nm) (hb:mU o=true) (hl:(apos.endLine==pos.line)=true) (O:gU cx.h₀ (cx.fA 3) (cx.fd 3)) (hC:Callee cx K.A K.l C 3) (h1:SE cx K o k) :
  SE cx K (.Call (.Attribute o "copy" apos) [] [] pos) (k1 (xo C 3) k):=fun g w X Q E T=>by
 rw[arm_eval_Call,gz hb]
 refine wpAny_bind ((h1 g w X).step T fun a v w1 e1 r1 T=>wpAny_bind (wpAny_standAt ?_))
 cases hq:oz w1.st a with
 |none=>unfold xo at T;rw[hq] at T;exact T.no
 |some b =>
  induction b with
  |false=>unfold xo at T;rw[hq] at T;exact T.no
  |true =>
   unfold xo at T
   rw[hq] at T
   have I:=e1.inv
   obtain⟨x,dx,m,rfl,hi⟩:=xU I.rel B r1 hq
   obtain⟨N,mN,XC⟩:=B.cls .aQ
   obtain⟨⟨oc,h1,h2⟩,yS⟩:=OldK.cls I.old XC
   obtain⟨of,hof,hofc,hofd⟩:=O.old I.old
   induction h2 with
   |mk UU q bs sn sub col dd k0 k1 k2 k3 k5 =>
   unfold methodCall
   refine wpAny_bind (wpAny_holding (method_ofFk h1 yS XC.ga XC.RB (XC.copy rfl) hof hofc xV hi.fk hi.GY (wpAny_bind (wpAny_of_eq (show methodCallPos true o K.env apos pos=pure pos from by unfold methodCallPos;simp[hl]) (callWith_meth0 hofd hof (wpAny_call ?_))))))
   exact hC w1 [.ref x] [a] I (X.fr.ev e1) (.cons r1 .nil) Q E T
end
@[reducible] noncomputable def iD:List Value:=[.type "Exception",.type "BaseException",.type "object"]
inductive oS(C D N:Addr):Obj->Prop
 |mk (nm q:Str) (bs:List Value) (sn:List Str) (sub:List Value) (ab:Bool) (col:Option Bool) (dd:Option Addr) (k0 k1 k2 k3 k5:Option Value):oS C D N (excClassObj nm q C N bs (.ref D::iD) true sn sub ab col dd k0 k1 k2 k3 k5 "Exception.__new__")
inductive Here(h:Heap) (a:Addr):Prop
 |mk (o:Obj) (e:h.get? a=some o) (c:o.cls≠.none)
structure jy(h:Heap) (C D N:Addr) (mN mD:Str->Option Value):Prop where
 obj:∃o,h.get? C=some o/\oS C D N o
 ns:h.Ns N mN
 Ny:Here h N
 base:∃c0 dd cd sl,h.get? D=some { cls:=c0,dict:=dd,data:=.cls cd,slots:=sl }/\c0≠.none/\h.Ns cd.ns mD/\Here h cd.ns
noncomputable def KA(h h':Heap):Prop:=∀b o,h.get? b=some o->o.cls≠.none->h'.get? b=some o
theorem Ah{h h':Heap}{N:Addr}{m:Str->Option Value}(k:KA h h'):Here h N->h.Ns N m->h'.Ns N m
 |.mk o e c,⟨o',es,ep,e',r⟩=>⟨o',es,ep,k N o' e' (by(injection e.symm.trans e' with zx;subst zx);exact c),r⟩
theorem Here.keep{h h':Heap}{N:Addr}(k:KA h h'):Here h N->Here h' N
 |.mk o e c=>.mk o (k _ _ e c) c
theorem jy.keep{h h':Heap}{C D N:Addr}{mN mD:Str->Option Value}(R:jy h C D N mN mD) (k:KA h h'):jy h' C D N mN mD where
 obj:=let⟨o,e,z⟩:=R.obj;⟨o,k _ _ e (by induction z;exact fun q=>by injection q),z⟩
 ns:=Ah k R.Ny R.ns
 Ny:=R.Ny.keep k
 base:=let⟨c0,dd,cd,sl,e,c,n,x⟩:=R.base;⟨c0,dd,cd,sl,k _ _ e c,c,Ah k x n,x.keep k⟩
theorem kG:typeLookup (.type "Exception") bJ=pure none:=by rw[typeLookup_type,builtinLookup_eq_fast];kernel_rfl
section
variable {M:Model}{prog:Program}{w:World}{A:Around}{E:Value->Shared->Prop}{s:Shared}{C D N e dx fI:Addr}{mN mD:Str->Option Value}{oe oI:Obj}{v iP:Value}{vs:Array Value}{tk:Tok}{rest:List Value}
theorem gD(R:jy s.heap C D N mN mD){name:Str}{y z:Option Value}{Q:Option Value->Shared->Prop}(hz:(match mN name with| some v=>some v|none=>y)=z) (h1:mD name=none) (hB:typeLookup (.type "Exception") name=pure y)
  (hq:Q z s):wpAny M A (typeLookup (.ref C) name) Q E s:=by
 subst hz
 obtain⟨o,hC,hO⟩:=R.obj
 induction hO with
 |mk nm q bs sn sub ab col dd k0 k1 k2 k3 k5 =>
 obtain⟨c0,dd',cd,sl,hD,_,hND,_⟩:=R.base
 have kH:lookupAlong iD name=pure y:=by
  rw[typeLookup_eq,F.excBase_Exception.mroIs] at hB;exact hB
 rw[typeLookup_eq]
 refine wpAny_bind (wpAny_mroOf_exc hC ?_)
 rw[lookupAlong_cons]
 refine wpAny_bind (wpAny_classOwn_exc hC R.ns ?_)
 cases hv:mN name with
 |some v=>rw[hv] at hq;exact wpAny_pure hq
 |none =>
  rw[hv] at hq
  dsimp only
  rw[lookupAlong_cons]
  refine wpAny_bind (wpAny_classOwn_cls hD hND ?_)
  rw[h1]
  dsimp only
  rw[kH]
  exact wpAny_pure hq
theorem vI{Q:Unit->Shared->Prop}(hC:∃o,s.heap.get? C=some o/\oS C D N o) (he:s.heap.get? e=some oe) (hc:oe.cls=.ref C) (hq:Q () s) :
  wpAny M A (checkBuiltinCall "object.__setattr__" ⟨[.ref e,iP,v],[]⟩) Q E s:=by
 obtain⟨o,hC,hO⟩:=hC
 induction hO with
 |mk nm q bs sn sub ab col dd k0 k1 k2 k3 k5 =>
 have SF:=F.store_Exception
 have Om:(Value.ref C::.ref D::iD).contains (.type "object")=true:=rfl
 have ha:=SF.args (.ref e) iP v
 simp only[checkBuiltinCall,SF.kind,SF.split]
 refine wpAny_bind ?_
 unfold isInstance
 repeat(first| (with_reducible refine wpAny_loadPart_at he ?_;rw[hc])|(with_reducible refine wpAny_isSubtype_exc hC ?_;rw[Om])|wp_step)
 exact hq
structure QU(h h':Heap) (e dx:Addr) (oe:Obj) (v:Value):Prop where
 at':h'.get? e=some { oe with dict:=some dx }
 ge:h.objs.size<=dx
 ex:h'.ExactDictFk dx
 ns:h'.Ns1 dx (fun y=>if y=bJ then some v else none)
 keep:∀b o,b≠e->h.get? b=some o->h'.get? b=some o
@[reducible] noncomputable def qu:Obj:={ cls:=.type "dict",data:=.dict #[] }
theorem BE{o:Obj}{dd:Option Addr}(h:o.isFreed=false):({ o with dict:=dd }:Obj).isFreed=false:=by
 obtain⟨oc,od,odt,osl⟩:=o
 induction odt<;>first| rfl|exact h
theorem BF{Q:Fin->Shared->Prop}{h:Heap}(hx:h.get? e=some oe)
  (hz:∀h' Dt,QU h h' e h.objs.size oe v->Q (.done (.ret .none)) { s with heap:=h',toks:=Dt }) :
  wpAny M A (Builtin.ObjectAttr.storeInDict h.objs.size (.str bJ tk) bJ v) Q E { s with heap:=(h.push qu).update e fun o=>{ cls:=o.cls,dict:=some h.objs.size,data:=o.data,slots:=o.slots } }:=by
 have Oo:(h.push qu).get? e=some oe:=Heap.get?_push_of_some _ hx
 have UW:e≠h.objs.size:=Nat.ne_of_lt (Heap.lt_size hx)
 have UX:=(Heap.get?_update_ne (h.push qu) _ _ (fun o=>{ cls:=o.cls,dict:=some h.objs.size,data:=o.data,slots:=o.slots }) UW.symm).trans (Heap.get?_push_at (o:=qu) rfl rfl)
 unfold Builtin.ObjectAttr.storeInDict Builtin.ObjectAttr.newKeyGuard
 refine wpAny_bind (wpAny_pure (wpAny_bind (wpAny_nsSet1EFk (Heap.Ns1.of_empty ⟨_,#[],_,UX,rfl,fun e he=>absurd he (by simp),fun _=>rfl⟩) fun h' UY hs KC=>?_)))
 obtain⟨oD,esD,epD,hoD,hdD,hcD⟩:=UY.count (Within.cons bJ v Within.nil)
 refine wpAny_bind (wpAny_lookBehind hoD (by rw[hdD];exact pastItsLine_dict (Nat.le_trans hcD (by rw[List.length_cons,List.length_nil,sizeLine_eq];omega))) ?_)
 wp_walk
 obtain⟨Ww,e',c',d'⟩:=KC _ UX
 exact hz h' _ ⟨(hs.2 e UW).trans (Heap.get?_update_self _ Oo (BE (Heap.get?_some_iff.mp hx).2)),Nat.le_refl _,⟨Ww,e',c',d'⟩,UY,fun b o Wx hb=>(hs.2 b (Nat.ne_of_lt (Heap.lt_size hb))).trans ((Heap.get?_update_ne _ _ _ _ Wx).trans (Heap.get?_push_of_some _ hb))⟩
structure mF(mN mD:Str->Option Value) (fI:Addr):Prop where
 init:mN "__init__" = some (.ref fI)
 Oq:mD "__init__" = none
 set:mN "__setattr__" = none
 Sm:mD "__setattr__" = none
 msg:mN bJ=none
 KD:mD bJ=none
 ga:mN "__getattribute__" = none
 Wy:mD "__getattribute__" = none
 RB:mN "__getattr__" = none
 So:mD "__getattr__" = none
theorem vJ{Q:Fin->Shared->Prop}(R:jy s.heap C D N mN mD) (X:mF mN mD fI) (hx:s.heap.get? e=some oe) (hc:oe.cls=.ref C) (Sp:oe.dict=none) (vK:oe.data=.fields vs)
  (hq:∀h' Dt,QU s.heap h' e s.heap.objs.size oe v->Q (.done (.ret .none)) { s with heap:=h',toks:=Dt }) :
  wpAny (model prog w) A (Builtin.«object.__setattr__» ⟨[.ref e,.str bJ tk,v],[]⟩) Q E s:=by
 have SF:=F.store_Exception
 have Ot:=SF.passes (.ref e)
 obtain⟨o,hC,hO⟩:=R.obj
 induction hO with
 |mk nm q bs sn sub ab col dd k0 k1 k2 k3 k5 =>
 unfold Builtin.«object.__setattr__»
 repeat(first| rw[refuse_eq]|(rw[refuseLoop_ref,refuseLoop_ref,Ot])|(with_reducible refine wpAny_loadPart_at hx ?_;rw[hc])|with_reducible refine wpAny_mroOf_exc hC ?_|(with_reducible refine gD (by exact R) (by rw[X.msg]) X.KD kG ?_)|wp_step)
 rw[Sp,if_neg (by simp[typeHasDict]),vK]
 refine wpAny_bind (wpAny_alloc' ?_)
 refine wpAny_bind (wpAny_update' (Heap.get?_push_of_some _ hx) ?_)
 exact wpAny_pure (BF hx hq)
theorem vO{Q:Unit->Shared->Prop}(R:jy s.heap C D N mN mD) (X:mF mN mD fI) (hx:s.heap.get? e=some oe) (hc:oe.cls=.ref C) (Sp:oe.dict=none) (vK:oe.data=.fields vs)
  (hq:∀h' Dt,QU s.heap h' e s.heap.objs.size oe v->Q () { s with heap:=h',toks:=Dt }):wpAny (model prog w) A (setAttr (.ref e) bJ v) Q E s:=by
 have SF:=F.store_Exception
 have f3:=SF.slot.bind (.ref e)
 unfold setAttr callSpecial? specialOf
 repeat(any_goals(first| assumption|(with_reducible refine wpAny_loadPart_at hx ?_;rw[hc])|(with_reducible refine gD (by exact R) (by rw[X.set]) X.Sm SF.slot.lookup ?_)|wp_step))
 refine codeAny_call_builtin SF.slot.plain SF.entry (vI R.obj hx hc (vJ R X hx hc Sp vK fun h' Dt z=>?_))
 repeat(any_goals(first| assumption|wp_step))
 exact hq h' Dt z
@[reducible] noncomputable def vV (C T:Addr):Obj:={ cls:=.ref C,data:=.fields #[.ref T,.none,.none,.none,.bool false,.none] }
@[reducible] noncomputable def nH (h:Heap) (C:Addr) (rest:List Value):Heap:=(h.push { cls:=.type "tuple",data:=.seq rest.toArray }).push (vV C h.objs.size)
theorem dj{h:Heap}(b:Addr) (o:Obj) (e:h.get? b=some o):(nH h C rest).get? b=some o:=Heap.get?_push_of_some _ (Heap.get?_push_of_some _ e)
theorem kI{h:Heap}:(nH h C rest).get? (h.objs.size+1)=some (vV C h.objs.size):=by
 have:=Heap.get?_push_size (h.push { cls:=.type "tuple",data:=.seq rest.toArray }) (o:=vV C h.objs.size) rfl
 rwa [Heap.size_push] at this
theorem jd{Q:PySem.Fin->Shared->Prop}(R:jy s.heap C D N mN mD) (X:mF mN mD fI) (Sq:s.heap.get? fI=some oI) (Ss:oI.cls=.type "function")
  (hq:wpAny (model prog w) A (PySem.call (.ref fI) (.ref (s.heap.objs.size+1)::rest)) (fun r s'=>r=.none/\Q (.done (.ret (.ref (s.heap.objs.size+1)))) s') E { s with heap:=nH s.heap C rest }) (kH:rest.length<=sizeLine) :
  wpAny (model prog w) A (Builtin.«type.__call__» ⟨.ref C::rest,[]⟩) Q E s:=by
 obtain⟨o,hC,hO⟩:=R.obj
 induction hO with
 |mk nm q bs sn sub ab col dd k0 k1 k2 k3 k5 =>
 have Fx:=F.excBase_Exception
 obtain⟨c0,dd',cd,sl,hD,_,hND,_⟩:=R.base
 have T:OwnTail s.heap iD (.ref D::iD):=.own hD hND X.Oq .base
 repeat(first| with_reducible refine wpAny_loadPart_at hC ?_|with_reducible refine wpAny_madeBy_exc hC ?_|wp_step)
 refine codeAny_call_builtin_code (Code.quiet_builtin _ Fx.quiet) (wpAny_check_new_subT Fx T hC ?_)
 refine codeAny_exc_new_subT Fx T hC ?_ kH
 show wpAny _ _ _ _ _ _
 have Su:=kI (C:=C) (rest:=rest) (h:=s.heap)
 have Wz:(Value.ref C::.ref D::iD).contains (.ref C)=true:=by simp
 unfold isInstance
 repeat(first| with_reducible refine wpAny_loadPart_at Su ?_|(with_reducible refine wpAny_isSubtype_exc (dj _ _ hC) ?_;rw[Wz])|wp_step)
 show wpAny _ _ (typeLookup (.ref C) _) _ _ _
 refine wpAny_typeLookup_tail (dj _ _ hC) (R.ns.keeps dj) (T.keeps dj) Fx.mroIs Fx.init.lookup ?_
 rw[X.init]
 refine wpAny_holding (wpAny_bind ?_)
 unfold bindSpecial
 refine wpAny_bind (wpAny_typeOf (T:="function") ⟨_,dj _ _ Sq,Ss⟩ ?_)
 rw[if_pos (by decide)]
 refine wpAny_pure (wpAny_bind (wpAny_mono hq (fun r s' hr=>?_) fun _ _ x=>x))
 obtain⟨rfl,hQ⟩:=hr
 wp_walk
 exact hQ
theorem kJ{Q:Value->Shared->Prop}(R:jy s.heap C D N mN mD) (X:mF mN mD fI) (Sq:s.heap.get? fI=some oI) (Ss:oI.cls=.type "function")
  (hq:wpAny (model prog w) (A.under (.builtin "type.__call__" ⟨.ref C::rest,[]⟩)) (PySem.call (.ref fI) (.ref (s.heap.objs.size+1)::rest)) (fun r s'=>r=.none/\Q (.ref (s.heap.objs.size+1)) s') E { s with heap:=nH s.heap C rest }) (kH:rest.length<=sizeLine) :
  wpAny (model prog w) A (PySem.call (.ref C) rest) Q E s:=by
 obtain⟨o,hC,hO⟩:=R.obj
 induction hO with
 |mk nm q bs sn sub ab col dd k0 k1 k2 k3 k5 =>
 have f1:=tc_lookup
 have f2:=tc_bind (.ref C)
 have hT:s.TypeIs (.ref C) "type":=⟨_,hC,rfl⟩
 refine wpAny_call (codeAny_of_tree ?_)
 show wpAny _ _ (callAny (.ref C) _) _ _ _
 repeat(any_goals(first| assumption|with_reducible refine wpAny_loadPart_at hC ?_|wp_step))
 refine⟨rfl,?_⟩
 refine codeAny_call_builtin_at (Code.quiet_builtin _ (by decide +kernel)) entry_typeCall (wpAny_check_type_call_sub hC (jd R X Sq Ss ?_ kH))
 exact hq
theorem rG{env:Env}{x:Sem Value}{Q:Flow->Shared->Prop}(hh:A.handled=none)
  (h:wpAny (model prog w) A x (fun v cz=>∃e oe vs,v=.ref e/\(∃o,cz.heap.get? C=some o/\oS C D N o)/\cz.heap.get? e=some oe/\oe.cls=.ref C/\oe.data=.fields vs/\vs[1]? = some .none/\E (.ref e) cz) E s) :
  wpAny (model prog w) A (raiseStmt env (some x) none) Q E s:=by
 have Om:(Value.ref C::.ref D::iD).contains (.type "BaseException")=true:=rfl
 unfold raiseStmt
 refine wpAny_bind (wpAny_mono h (fun v cz iS=>?_) fun _ _ x=>x)
 obtain⟨e,oe,vs,rfl,⟨o,hC,hO⟩,he,hc,vK,Oh,hE⟩:=iS
 induction hO with
 |mk nm q bs sn sub ab col dd k0 k1 k2 k3 k5 =>
 repeat(first| (with_reducible refine wpAny_loadPart_at he ?_;rw[hc])|with_reducible refine wpAny_loadPart_at hC ?_|(with_reducible refine wpAny_isSubtype_exc hC ?_;rw[Om])|wp_step)
 rw[vK]
 refine wpAny_pure ?_
 rw[Oh]
 refine wpAny_pure ?_
 rw[if_neg (by decide)]
 exact wpAny_pure (wpAny_raiseNew_none hh hE)
end
noncomputable def ue:Str:=Str.ofString "self"
structure zw(fd:FuncData):Prop where
 body:∃p1 p2 p3 p4,fd.body=.stmts [.Assign [.Attribute (.Name ue p1) bJ p2] (.Name bJ p3) p4]
 co:fd.scope.isCoroutine=false
 gen:fd.scope.isGenerator=false
 kind:fd.scope.kind=.function
 plain:Plain fd [ue,bJ]
 Ky:fd.defaults=.none
 cells:∀x∈fd.scope.names,x.2≠.cell
 l1:fd.scope.names.lookup ue=some .local
 l2:fd.scope.names.lookup bJ=some .local
structure rH(h:Heap) (fI:Addr) (fd:FuncData):Prop where
 obj:gU h fI fd
 code:h.CodeRec fd.code fd.qualname
theorem rH.keep{h h':Heap}{fI:Addr}{fd:FuncData}(k:∀b o,h.get? b=some o->h'.get? b=some o) (X:rH h fI fd):rH h' fI fd where
 obj:=let⟨o,e,c,d⟩:=X.obj;⟨o,k _ _ e,c,d⟩
 code:=let⟨c,oc,fs,t,a,b,r⟩:=X.code;⟨c,oc,fs,t,a,k _ _ b,r⟩
inductive pP(cx:Cx):Prop
 |mk (D N:Addr) (mN mD:Str->Option Value) (fI:Addr) (fd:FuncData) (R:jy cx.h₀ cx.mR D N mN mD) (X:mF mN mD fI) (O:gU cx.h₀ fI fd) (c:Addr) (oc:Obj) (fs:Array Value) (t:Tok) (e1:fd.code=.ref c) (e2:cx.h₀.get? c=some oc) (e3:oc.cls≠.none)
   (e4:oc.data=.fields fs) (e5:fs[1]? = some (.str fd.qualname t)) (F:zw fd) (g:cx.mg "Refusal" = some (.ref cx.mR))
section
variable {cx:Cx}{nm:Nat->Option Str}{w w':Wd}{K:Kx}{g:Gm}{s:Shared}{A:Around}{E:Value->Shared->Prop}{C D N e fI:Addr}{mN mD:Str->Option Value}{fd:FuncData}{oe:Obj}{v:Value}{vs:Array Value}{a:AV}{m:Tx}{t:Tok}
theorem DK{Q:Value->Shared->Prop}(gT:A.depth<recursionLimit) (R:jy s.heap C D N mN mD) (X:mF mN mD fI) (O:rH s.heap fI fd) (F:zw fd) (Sv:s.heap.NoLimit)
  (he:s.heap.get? e=some oe) (WA:oe.cls=.ref C) (QT:oe.dict=none) (s7:oe.data=.fields vs)
  (hQ:∀h0 h' tk dx,(∀b o,s.heap.get? b=some o->h0.get? b=some o)->s.heap.objs.size<h0.objs.size->QU h0 h' e dx oe v->h0.objs.size<=h'.objs.size->Q .none { s with heap:=h',toks:=tk }) :
  wpAny (model cx.prog cx.w) A (PySem.call (.ref fI) [.ref e,v]) Q E s:=by
 obtain⟨⟨o,ho,_,hd⟩,hcr⟩:=O
 obtain⟨p1,p2,p3,p4,hb⟩:=F.body
 refine wpAny_call (codeAny_call_def gT ho hd Sv hcr hb (jj F.plain (.no F.Ky) (.all [] rfl (Nat.zero_le _))) F.cells ?_ (fun h0 yS Sw=>?_) F.co F.gen F.kind)
 ·exact List.forall_mem_cons.mpr ⟨F.l1,List.forall_mem_cons.mpr ⟨F.l2,fun _ q=>nomatch q⟩⟩
 ·have lt:s.heap.objs.size<h0.objs.size:=by obtain⟨o,_,_,q,_⟩:=yS;exact Heap.lt_size q
  refine wpAny_execs_cons (plainObj_wpAny_Assign_Attribute (ldc F.kind F.l2 yS (v:=v) rfl (ldc F.kind F.l1 yS (v:=.ref e) rfl (eB (vO (by exact R.keep fun b o e _=>Sw b o e) X (Sw e oe he) WA QT s7 fun h' Dt z=>?_)))))
  exact fun hz=>wpAny_execs_nil (hQ h0 h' Dt _ Sw lt z hz)
structure Made(cx:Cx) (w:Wd) (u:Value) (h':Heap):Prop where
 keep:∀b o,w.h.get? b=some o->h'.get? b=some o
 at':∃dx,h'.get? (w.n+1)=some { vV cx.mR w.n with dict:=some dx }/\w.n+1<dx/\h'.ExactDictFk dx/\h'.Ns1 dx (fun y=>if y=bJ then some u else none)
theorem Made.size{h':Heap}(M:Made cx w v h'):w.n+1<h'.objs.size:=let⟨_,e,_⟩:=M.at';Heap.lt_size e
theorem DL{Q:Value->Shared->Prop}(gT:A.depth+1<recursionLimit) (RO:pP cx) (I:Inv cx w) (hq:∀h' tk,Made cx w v h'->Q (.ref (w.n+1)) { w.s with heap:=h',toks:=tk }) :
  wpAny (model cx.prog cx.w) A (PySem.call (.ref cx.mR) [v]) Q E w.s:=by
 obtain⟨D,N,mN,mD,fI,fd,R0,X,O,c,oc,fs,t,e1,e2,e3,e4,e5,F,_⟩:=RO
 have R:=R0.keep fun b o e c=>I.old.get_of_cls e c
 have O1:rH w.h fI fd:=⟨O.old I.old,c,oc,fs,t,e1,I.old.get_of_cls e2 e3,e4,e5⟩
 have O2:=O1.keep (dj (C:=cx.mR) (rest:=[v]))
 obtain⟨o,ho,hc,_⟩:=O1.obj
 refine kJ R X ho hc (DK (s:={ w.s with heap:=nH w.h cx.mR [v] }) gT (R.keep fun b o e _=>dj b o e) X O2 F (I.lim.keeps dj) kI rfl rfl rfl fun h0 h' tk dx k0 lt z zz=>⟨rfl,hq h' tk ⟨fun b o e=>z.keep b o (Nat.ne_of_lt (Nat.lt_succ_of_lt (Heap.lt_size e))) (k0 b o (dj b o e)),dx,z.at',Nat.lt_of_lt_of_le (Heap.lt_size (k0 _ _ kI)) z.ge,z.ex,z.ns⟩⟩) (by simp[sizeLine])
theorem Made.exc{l:List Env}{h':Heap}{tk:Nat}(I:Inv cx w) (fr:dN cx l w) (hm:sX m=true) (M:Made cx w (.str (tx m) t) h'):iC cx l w (w.at { w.s with heap:=h',toks:=tk })/\xB cx l w.n (w.at { w.s with heap:=h',toks:=tk }) (.ref (w.n+1)) m:=by
 obtain⟨dx,z1,z2,z3,z4⟩:=M.at'
 have ev:iC cx l w (w.at { w.s with heap:=h',toks:=tk }):=I.keeps M.keep rfl rfl (Nat.le_of_lt (Nat.lt_of_succ_lt M.size))
 exact⟨ev,.mk (w.n+1) _ rfl (.mk dx _ _ t z1 rfl rfl rfl ⟨Nat.le_succ_of_le I.ge,M.size,I.rel.mC (Nat.le_succ _)⟩ (Nat.le_succ _) (Nat.ne_of_gt z2) (fr.fresh (Nat.le_of_lt (Nat.lt_of_succ_lt z2))) z4 z3 (if_pos rfl) hm) (.inl rfl)⟩
theorem GZ{G:Addr->Lg}:Rep G v (.str m)->∃t,v=.str (tx m) t/\sX m=true
 |.str _ t z=>⟨t,rfl,z⟩
 |.ref _ q _=>nomatch q
theorem BG{Q:Flow->Shared->Prop}{p:Prop}(r:cQ w.G w.as v a) (T:gS cx K w (u6 a w.st) Q E) (h:∀m t,v=.str (tx m) t->sX m=true->gS cx K w (some (.exc m w.st)) Q E->p):p:=by
 induction a with
 |r i=>exact T.no
 |t d=>cases d with
  |str m=>obtain⟨t,e,z⟩:=GZ r;exact h m t e z T
  |_=>exact T.no
theorem jK.raise{np oM pos:Pos}{e:Expr}{k:Kv}(B:Base cx nm) (RO:pP cx) (hh:K.A.handled=none) (gT:K.A.depth+1<recursionLimit) (hk:K.env.kindOf "Refusal" = some .globalImplicit)
  (he:∀rest,starEach (e::rest) K.env=(false,eval e K.env)::starEach rest K.env) (h1:SE cx K e k):jK cx K (.Raise (some (.Call (.Name "Refusal" np) [e] [] oM)) none pos) (CS k):=fun g w X Q E T=>by
 obtain⟨D,N,mN,mD,fI,fd,R0,_,_,_,_,_,_,_,_,_,_,_,_,hg⟩:=id RO
 have r:SA cx K [e] (qJ k fun _ st=>ok [] st):=.cons he h1 .nil
 rw[arm_exec_Raise]
 refine wpAny_bind (wpAny_standAt (rG (C:=cx.mR) (D:=D) (N:=N) hh (wpAny_bind (wpAny_mono (wpAny_Call_ofName (gw (Q:=_) X B hk (by decide) hg ?_)) (fun v Kn Sx=>wpAny_bind (wpAny_standAt (wpAny_pure Sx))) fun _ _ x=>x))))
 unfold callWith
 refine wpAny_bind (wpAny_holding (r.args (wpAny_items_cons (Wp.oN (h1 g w X) X T fun a v w1 e1 X1 r1 T=>wpAny_items_nil (wpAny_bind (wpAny_standAt ?_))) (he []))))
 refine BG r1 T fun m t e hm T=>?_
 subst e
 have R:=R0.keep fun b o e c=>X1.inv.old.get_of_cls e c
 obtain⟨o,ho,hO⟩:=R.obj
 have main:wpAny (model cx.prog cx.w) K.A (PySem.call (.ref cx.mR) [.str (tx m) t]) (fun v cz=>∃e oe vs,v=.ref e/\(∃o,cz.heap.get? cx.mR=some o/\oS cx.mR D N o)/\cz.heap.get? e=some oe/\oe.cls=.ref cx.mR/\oe.data=.fields vs/\vs[1]? = some .none/\E (.ref e) cz) E w1.s :=
  DL gT RO X1.inv fun h' tk M=>by
   obtain⟨ev,x⟩:=M.exc (tk:=tk) X1.inv X1.fr hm
   obtain⟨dx,z,_⟩:=M.at'
   exact⟨_,_,_,rfl,⟨o,M.keep _ _ ho,hO⟩,z,rfl,rfl,rfl,T.exc m _ g (w1.at { w1.s with heap:=h',toks:=tk }) rfl ev.oN (X1.ev ev) x⟩
 induction hO with
 |mk UU q bs sn sub ab col dd k0 k1 k2 k3 k5 =>
 refine wpAny_bind (wpAny_keeperOf_exc ho ?_)
 rw[show((backTo oM (starEach [e] K.env)).any (fun x=>x.1)||(backToKw oM (keywordEach [] K.env)).any fun x=>x.1.isNone)=false from by rw[r.plain oM];rfl]
 exact wpAny_bind (wpAny_mono main (fun _ _ h=>wpAny_bind (wpAny_holding (wpAny_point (wpAny_pure h)))) fun _ _ x=>x)
end
section
variable {M:Model}{prog:Program}{w:World}{A:Around}{E:Value->Shared->Prop}{s:Shared}{C D N a dx fI:Addr}{mN mD mm:Str->Option Value}{o:Obj}{v iP:Value}{vs:Array Value}{tk:Tok}
theorem vW{Q:Unit->Shared->Prop}(hC:∃o,s.heap.get? C=some o/\oS C D N o) (hx:s.heap.get? a=some o) (hc:o.cls=.ref C) (hq:Q () s):wpAny M A (checkBuiltinCall "BaseException.__getattribute__" ⟨[.ref a,iP],[]⟩) Q E s:=by
 obtain⟨o',hC,hO⟩:=hC
 induction hO with
 |mk nm q bs sn sub ab col dd k0 k1 k2 k3 k5 =>
 have hk:builtinKind "BaseException.__getattribute__" = some .slot:=by decide +kernel
 have KE:splitId "BaseException.__getattribute__" = some ("BaseException","__getattribute__"):=by decide +kernel
 have Om:(Value.ref C::.ref D::iD).contains (.type "BaseException")=true:=rfl
 have ha:=F.args_bexc_ga (.ref a) iP
 simp only[checkBuiltinCall,hk,KE]
 refine wpAny_bind ?_
 unfold isInstance
 repeat(first| (with_reducible refine wpAny_loadPart_at hx ?_;rw[hc])|(with_reducible refine wpAny_isSubtype_exc hC ?_;rw[Om])|wp_step)
 exact hq
theorem vX{Q:PySem.Fin->Shared->Prop}(R:jy s.heap C D N mN mD) (X:mF mN mD fI) (hx:s.heap.get? a=some o) (hc:o.cls=.ref C) (vK:o.data=.fields vs) (GR:o.dict=some dx) (yS:s.heap.Ns1 dx mm) (hv:mm bJ=some v)
  (hq:Q (.done (.ret v)) s):wpAny (model prog w) A (Builtin.«object.__getattribute__» ⟨[.ref a,.str bJ tk],[]⟩) Q E s:=by
 obtain⟨o',hC,hO⟩:=R.obj
 induction hO with
 |mk nm q bs sn sub ab col dd k0 k1 k2 k3 k5 =>
 repeat(any_goals(first| assumption|(with_reducible refine wpAny_loadPart_at hx ?_;rw[hc])|(with_reducible refine gD (z:=none) (by exact R) (by rw[X.msg]) X.KD kG ?_)|wp_step))
 try (refine gD (z:=none) (by exact R) (by rw[X.msg]) X.KD kG ?_)
 repeat(any_goals(first| assumption|(with_reducible refine wpAny_loadPart_at hx ?_;rw[hc])|wp_step))
 rw[vK]
 dsimp only
 unfold instanceDict
 repeat(first| (with_reducible refine wpAny_loadPart_at hx ?_;rw[hc])|with_reducible refine wpAny_loadPart_at hC ?_|wp_step)
 rw[GR]
 repeat(first| (with_reducible refine wpAny_nsGet yS.ns ?_;rw[hv])|wp_step)
 exact hq
theorem vY{expr:Bool}{Q:Value->Shared->Prop}(R:jy s.heap C D N mN mD) (X:mF mN mD fI) (hx:s.heap.get? a=some o) (hc:o.cls=.ref C) (vK:o.data=.fields vs) (GR:o.dict=some dx) (yS:s.heap.Ns1 dx mm) (hv:mm bJ=some v) (hh:handedOut v=pure v)
  (hq:Q v { s with toks:=s.toks+1 }):wpAny (model prog w) A (getAttr (.ref a) bJ expr) Q E s:=by
 have FB:=F.attrBase_Exception
 have f3:=FB.ga.bind (.ref a)
 have Zt:(expr&&onTheHeap (Value.builtin "BaseException.__getattribute__"))=false:=by induction expr<;>rfl
 have Kr:(Value.builtin "BaseException.__getattribute__" == Value.builtin "object.__getattribute__")=false:=by decide +kernel
 have Zu:(onTheHeap (Value.ref C)&&Value.builtin "BaseException.__getattribute__" == Value.builtin "object.__getattribute__")=false:=by rw[Kr];rfl
 unfold getAttr getAttrBy
 repeat(any_goals(first| assumption|(with_reducible refine wpAny_loadPart_at hx ?_;rw[hc])|wp_step))
 refine gD (by exact R) (by rw[X.ga]) X.Wy FB.ga.lookup ?_
 repeat(any_goals(first| assumption|(with_reducible refine wpAny_loadPart_at hx ?_;rw[hc])|(with_reducible refine gD (z:=none) (by exact R) (by rw[X.RB]) X.So FB.noGetattr ?_)|wp_step))
 refine codeAny_call_builtin FB.ga.plain F.entry_bexc_ga (vW (by exact R.obj) hx hc (vX (by exact R) X hx hc vK GR yS hv ?_))
 show wpAny _ _ (handedOut v) _ _ _
 rw[hh]
 exact wpAny_pure hq
end
structure uf(cx:Cx):Prop where
 code:∃c,(cx.fd 83).code=.ref c/\CodeHd cx.h₀ c cx.P
 bt:cx.h₀.BuiltinsAt cx.mg cx.P
 ne:mainGlobals≠cx.P/\cx.P≠cStatics
 tab:∃IZ,cx.h₀.get? cx.P=some (tabObj IZ)
 q:cx.nj=((cx.fd 83).qualname ++ ".<locals>.") ++ "<lambda>"
theorem s8{pos:Pos}{a b:Int}{c cv:Value}(l:List Value) (h:TriplesOk l) (e:codeAmong pos (l++[rawInt a,rawInt b,c])=some cv):codeAmong pos l=some cv\/cv=c:=by
 fun_induction TriplesOk l with
 |case1 =>
  right
  simp only[List.nil_append,codeAmong,rawInt] at e
  split at e
  ·exact(Option.some.inj e).symm
  ·injection e
 |case2 a' t b' u x rest ih =>
  simp only[List.cons_append,codeAmong] at e ⊢
  split at e
  ·rename_i hc;rw[if_pos hc];exact .inl e
  ·rename_i hc;rw[if_neg hc];exact ih h e
 |case3 l h1 h2=>exact h.elim
theorem rI{h₀ h:Heap}{c P:Addr}(K:OldK h₀ h) (x:CodeHd h₀ c P):CodeHd h c P:=by
 obtain⟨o,vs,file,tf,flags,tg,inF,text,tt,e,ec,r⟩:=x
 exact⟨o,vs,file,tf,flags,tg,inF,text,tt,K.get_of_cls e (by rw[ec];exact fun q=>by injection q),ec,r⟩
theorem BH{h:Heap}{c P:Addr}(x:CodeHd h c P):c≠P:=by obtain⟨_,_,_,_,_,_,_,_,_,_,_,_,_,_,_,_,_,_,q⟩:=x;exact q
theorem BI{h h':Heap}{c P:Addr}(k:∀o,h.get? c=some o->h'.get? c=some o) (x:CodeHd h c P):CodeHd h' c P:=by
 obtain⟨o,vs,file,tf,flags,tg,inF,text,tt,e,r⟩:=x
 exact⟨o,vs,file,tf,flags,tg,inF,text,tt,k _ e,r⟩
theorem rJ{h₀ h:Heap}{P:Addr}{mg:Str->Option Value}(K:OldK h₀ h) (x:h₀.BuiltinsAt mg P):h.BuiltinsAt mg P:=by
 obtain⟨bm,o,e1,e2,e3,e4,e5,e6,r⟩:=x
 exact⟨bm,o,e1,e2,e3,e4,K.get_of_cls e5 (by rw[e6];exact fun q=>by injection q),e6,r⟩
noncomputable def Wd.CU(w:Wd) (c:Addr) (s':Shared):Wd:=⟨put w.G [c] (.fz .CU),w.as,w.st,s'⟩
theorem Inv.lam{cx:Cx}{w:Wd}{fr:List Addr}{W:Addr->Prop}{c:Addr}{ps more:Array Value}{s1:Shared}(LO:uf cx) (I:Inv cx w) (hP:w.h.get? cx.P=some (tabObj ps)) (WB:s1.heap.get? cx.P=some (tabObj (ps++more))) (hx:Heap.ExtBut cx.P w.h s1.heap) (hz:w.n<=s1.heap.objs.size) (hc:w.n<=c) (h1:s1.os=w.s.os) (h2:s1.gens=w.s.gens) (i:ID cx s1.heap c)
  (G0:ku cx (w.CU c s1)) (hf:∀a∈fr,cx.cZ<=a):Ev cx fr W w (w.CU c s1):=by
 have S:=I.rel
 have WC:∀a,cx.cZ<=a->a≠cx.P:=fun a ha q=>Nat.not_lt.mpr ha (q▸I.jb)
 have kk:∀a,cx.cZ<=a->∀o,w.h.get? a=some o->s1.heap.get? a=some o:=fun a ha o e=>hx a o (WC a ha) e
 have S':=S.step (s':=s1) fun a h=>let⟨o,e⟩:=S.live a h;(kk a (S.lo a h) o e).trans e.symm
 have no:∀a,w.G a≠.out->a∉[c]:=fun a h q=>Nat.not_lt.mpr hc (by rw[<-List.mem_singleton.mp q];exact S.lt h)
 have old:∀a,w.G a≠.out->(w.CU c s1).G a=w.G a:=fun a h=>cE (no a h)
 have sub:Sub w.G (w.CU c s1).G:=fun a y e=>(old a (e▸fun q=>by injection q)).trans e
 obtain⟨c0,h0,hC⟩:=LO.code
 obtain⟨IZ,Sy⟩:=LO.tab
 have MD:=rI I.old hC
 refine⟨⟨⟨S.len,fun i p nd e1 e2=>(S'.nodes i p nd e1 e2).mono sub fun _ _ e=>e,fun i p nd e1 e2 a h=>?_,fun a y e=>?_,fun a d dx gs e=>?_,fun a h=>?_,fun a h=>?_⟩,
  I.old.step_table (hC.tab Sy) (MD.tab hP) ((BI (fun o e=>hx _ _ (BH MD) e) MD).tab WB) hx LO.ne.2,h1.trans I.os,h2.trans I.gens,I.lim.extBut hx (Ne.symm LO.ne.2),I.low,I.jb,Nat.le_trans I.ge hz,G0⟩,
  hz,fun a h _ _ _ _=>kk a h,fun a h _ o e=>⟨o.slots,kk a (hf a h) o e⟩,sub,fun _ _ e=>e,fun a h e=>(cE fun q=>Nat.not_lt.mpr hc (by rw[<-List.mem_singleton.mp q];exact h)).trans e⟩
 ·have e:=S.fq i p nd e1 e2 a h
  exact(old a (e▸fun q=>by injection q)).trans e
 ·by_cases q:a∈[c]
  ·cases(iQ q).symm.trans e
   exact List.mem_singleton.mp q▸i
  ·exact S'.fz a y ((cE q).symm.trans e)
 ·by_cases q:a∈[c]
  ·cases(iQ q).symm.trans e
  ·exact sub _ _ (S.pq a d dx gs ((cE q).symm.trans e))
 ·by_cases q:a∈[c]
  ·exact List.mem_singleton.mp q▸Nat.le_trans I.ge hc
  ·exact S.lo a fun z=>h ((cE q).trans z)
 ·by_cases q:a∈[c]
  ·induction i with
   |mk o _ _ e=>exact⟨o,List.mem_singleton.mp q▸e⟩
  ·exact S'.live a fun z=>h ((cE q).trans z)
structure WD(cx:Cx) (w w':Wd) (f:Addr) (fd:FuncData):Prop where
 ev:∀{fr W},(∀a∈fr,cx.cZ<=a)->Ev cx fr W w w'
 as:w'.as=w.as
 st:w'.st=w.st
 obj:gU w'.h f fd
 code:w'.h.CodeRec fd.code cx.nj
 ge:w.n<=f
theorem DM{cx:Cx}{nm:Nat->Option Str}{w:Wd}{K:Kx}{g:Gm}{E:Value->Shared->Prop}{scope:Scope}{params:Arguments}{body:Expr}{pos:Pos}{jc:List (Str×Addr)}{Q:Value->Shared->Prop}(LO:uf cx) (B:Base cx nm) (X:At cx K g w) (Ai:K.env.code=(cx.fd 83).code) (DN:K.env.qual ++ "<lambda>" = cx.nj)
  (Sz:defaultsOf params K.env=([],[])) (UZ:closureFor scope K.env=pure jc)
  (h:∀f w' pm ug I0,WD cx w w' f (kla_fn "<lambda>" cx.nj params body scope jc pm ug I0)->Q (.ref f) w'.s):wpAny (model cx.prog cx.w) K.A (eval (.Lambda params body scope pos) K.env) Q E w.s:=by
 refine kla_eval Sz ?_
 rw[DN]
 have I:=X.inv
 obtain⟨ps,hP,ht,hall⟩:=I.tab
 obtain⟨c0,h0,hC⟩:=LO.code
 have MD:=rI I.old hC
 have U0:=rJ I.old LO.bt
 have hg:=OldK.tS I.old B.g B.gC
 cases hm:codeAmong pos ps.toList with
 |none =>
  refine kla_makeFunction UZ X.eo.glob hg (Ai.trans h0) MD hP ht hm LO.ne.1 U0 fun c' I0 h1 tk hx SD qU SG G0=>?_
  have kp:∀(ob:Obj) b o,h1.get? b=some o->(h1.push ob).get? b=some o:=fun ob b o e=>Heap.get?_push_of_some _ e
  have Ou:w.n<=h1.objs.size:=Nat.le_of_lt (Nat.lt_of_le_of_lt SD qU)
  obtain⟨c2,oc,fs,t,q1,q2,q3,q4⟩:=id SG
  injection q1 with q1;subst q1
  have tab:∀{s1:Shared},s1.heap.get? cx.P=some (tabObj (ps++#[rawInt pos.line,rawInt pos.col,.ref c']))->ku cx (w.CU c' s1):=fun e=>.mk _ e (by rw[Array.toList_append];exact TriplesOk_snoc _ _ _ _ ht) fun pos' cv q=>by
   rw[Array.toList_append] at q
   rcases s8 _ ht q with q|q
   ·obtain⟨c3,z1,z2⟩:=hall pos' cv q
    exact .mk c3 z1 ((cE fun q=>Nat.not_lt.mpr SD (by rw[<-List.mem_singleton.mp q];exact I.rel.lt (z2▸fun q=>by injection q))).trans z2)
   ·exact .mk c' q (iQ (.head _))
  exact h _ (w.CU c' _) _ _ _ ⟨fun hf=>I.lam LO hP (kp _ _ _ G0) (fun b o hb e=>kp _ b o (hx b o hb e)) (by rw[Heap.size_push];exact Nat.le_succ_of_le Ou) SD rfl rfl (.mk oc fs t (kp _ _ _ q2) q3 q4) (tab (kp _ _ _ G0)) hf,rfl,rfl,.mk _ (Heap.get?_push_size _ rfl) rfl rfl,⟨c',oc,fs,t,rfl,kp _ _ _ q2,q3,q4⟩,Ou⟩
 |some cv =>
  refine kla_makeFunctionHit UZ X.eo.glob hg (Ai.trans h0) MD hP ht hm U0 fun I0 h1 tk k1 Ou=>?_
  obtain⟨c',rfl,hF⟩:=hall pos cv hm
  obtain⟨oc,fs,t,q2,q3,q4⟩:=I.rel.fz _ _ hF
  have kp:∀(ob:Obj) b o,w.h.get? b=some o->(h1.push ob).get? b=some o:=fun ob b o e=>Heap.get?_push_of_some _ (k1 b o e)
  exact h _ (w.at _) _ _ _ ⟨fun _=>I.keeps (kp _) rfl rfl (by rw[Heap.size_push];exact Nat.le_succ_of_le Ou),rfl,rfl,.mk _ (Heap.get?_push_size _ rfl) rfl rfl,⟨c',oc,fs,t,rfl,kp _ _ _ q2,q3,q4⟩,Ou⟩
noncomputable def iu:Str:=Str.ofString "error"
noncomputable def zy:Str:=Str.ofString "ask"
theorem Ns1.same{h h':Heap}{a b:Addr}{m:Str->Option Value}(hs:Heap.SameBut b h h') (n:a≠b):h.Ns1 a m->h'.Ns1 a m
 |⟨o,es,ep,e,r⟩=>⟨o,es,ep,(hs.2 a n).trans e,r⟩
section
variable {cx:Cx}{nm:Nat->Option Str}{w w':Wd}{K:Kx}{g:Gm}{env:Env}{l:List Env}{A:Around}{E:Value->Shared->Prop}{scope:Scope}{L1:Addr}{N N0:Nat}{e:Value}{m:Tx}{mL:Str->Option Value}{p4 p5 p6 p7 p8:Pos}
structure SH(e dx T L1:Addr):Prop where
 he:e≠L1
 hd:dx≠L1
 hT:T≠L1
 hq:dx≠T
theorem ve.apart{a dx T:Addr}{oe oT oL:Obj}{vs ts:Array Value}{mm:Str->Option Value}{h:Heap}(he:h.get? a=some oe) (hd:oe.data=.fields vs) (hT:h.get? T=some oT) (DG:oT.data=.fields ts) (hn:h.Ns1 dx mm) (hL:h.get? L1=some oL) (QV:∀vs,oL.data≠.fields vs) (hx:dx≠L1):SH a dx T L1 where
 he q:=by subst q;(injection he.symm.trans hL with zx;subst zx);exact QV vs hd
 hd:=hx
 hT q:=by subst q;(injection hT.symm.trans hL with zx;subst zx);exact QV ts DG
 hq q:=by
  subst q
  obtain⟨o,es,ep,e1,hdd,_⟩:=hn
  injection e1.symm.trans hT with zx;subst zx
  rw[DG] at hdd;injection hdd
theorem zA{A':Around}{E':Value->Shared->Prop}{a dx D Nn fI:Addr}{oe:Obj}{vs:Array Value}{mm mN mD:Str->Option Value}{t:Tok}{s:Shared}{Q:Flow->Shared->Prop}(ME:env.scope.kind=.function) (Ov:env.kindOf iu=some .local) (R:jy s.heap cx.mR D Nn mN mD) (X:mF mN mD fI)
  (he:s.heap.get? a=some oe) (hc:oe.cls=.ref cx.mR) (hd:oe.data=.fields vs) (GR:oe.dict=some dx) (Ku:s.heap.Ns1 dx mm) (Of:mm bJ=some (.str (tx m) t)) (hn:s.heap.Ns env.locals mL) (WE:mL iu=some (.ref a))
  (hQ:∀h' tk,Heap.SameBut env.locals s.heap h'->Q (.ret (.str (tx m) t)) { s with heap:=h',toks:=tk }) :
  wpAny (model cx.prog cx.w) A (execs [.Return (some (.Attribute (.Name iu p5) bJ p6)) p7] env) (fun fl s'=>wpAny (model cx.prog cx.w) A' (do bindName env iu .none;unbindBehindTheSuite env iu p8) (fun _ N8=>Q fl N8) E' s') E s:=by
 have SI:(env.scope.kind==.class||(env.scope.kind==.module&&env.locals != env.globals))=false:=by rw[ME];rfl
 refine wpAny_execs_cons (wpAny_Return_some (Attribute_any_ (wpAny_Name (wpAny_loadName_local ME Ov hn WE ?_) (by decide)) (by with_unfolding_all rfl)))
 refine vY R X he hc hd GR Ku Of rfl ?_
 exact wpAny_nameGoes Ov hn SI fun h3 m3 QW MF=>hQ h3 _ MF
theorem xW{Q:Flow->Shared->Prop}(B:Base cx nm) (RO:pP cx) (ME:env.scope.kind=.function) (WG:env.globals=mainGlobals) (SJ:env.locals=L1) (ir:env.frame=some L1)
  (WH:env.kindOf "Refusal" = some .globalImplicit) (Ov:env.kindOf iu=some .local) (I:Inv cx w) (fr:dN cx (env::l) w) (U1:N0<=L1) (WI:N0<=N) (x:ve cx (env::l) N w e m) (hn:w.h.Ns L1 mL)
  (hQ:∀s' t,Ev cx (ez l) (fun a=>N0<=a) w (w.at s')->sX m=true->Q (.ret (.str (tx m) t)) s') :
  wpAny (model cx.prog cx.w) A (handleBy e env [.ExceptHandler (some (.Name "Refusal" p4)) (some iu) [.Return (some (.Attribute (.Name iu p5) bJ p6)) p7] p8]) Q E w.s:=by
 obtain⟨a,vs,rfl,⟨dx,oe,mm,t,he,hc,GR,hd,pa,hNa,IJ,hnfr,Ku,QT,Of,Og⟩,⟨T,oT,ts,Oh,MB,hT,DG,h3,pT,hNT⟩⟩:=x
 obtain⟨D,Nn,mN,mD,fI,_,R0,X,_,_,_,_,_,_,_,_,_,_,_,hg⟩:=RO
 obtain⟨o,hC,hO⟩:=(R0.keep fun b o e c=>I.old.get_of_cls e c).obj
 induction hO with
 |mk UU q bs sn sub ab col dd k0 k1 k2 k3 k5 =>
 have SI:(env.scope.kind==.class||(env.scope.kind==.module&&env.locals != env.globals))=false:=by rw[ME];rfl
 have hL:L1∈ez (env::l):=by rw[fJ ir];exact .head _
 obtain⟨oL,hoL,QV⟩:=fr.ob L1 hL
 have ap:=ve.apart he hd hT DG Ku hoL QV fun q=>hnfr (q▸hL)
 subst SJ
 refine wpAny_handleBy_cons (codeAny_handlers_test ?_) (by intro q;injection q)
 refine Name_function_global ME WH (loadGlobal_global (by rw[WG];exact OldK.tS I.old B.g B.gC) hg ?_) (by decide)
 refine wpAny_excMatches_sub_self hC he hc rfl (codeAny_handlers_suite_as (wpAny_setFlight_none he hd Oh hT DG (Array.getElem?_eq_some_iff.mp h3).1 ?_))
 have Kz:Heap.SameBut T w.h (w.h.update T (Obj.mapFields (·.setIfInBounds 3 .none))):=Heap.SameBut.update ..
 have tR:Ev cx (ez l) (fun c=>c=T) w (w.at { w.s with heap:=w.h.update T (Obj.mapFields (·.setIfInBounds 3 .none)) }):=I.dU pT Kz rfl rfl
 refine wpAny_storeName_local Ov (hn.sameBut Kz (Ne.symm ap.hT)) (fun h2 WJ SK=>?_) SI
 have pL:=(fr.at' _ hL).ev tR
 have wX:Ev cx (ez l) (fun c=>c=env.locals) _ (w.at ⟨h2,w.s.gens,w.s.drawn,w.s.toks+1,w.s.os⟩):=tR.inv.dU pL SK rfl rfl
 refine zA ME Ov (by exact R0.keep fun b o e c=>wX.inv.old.get_of_cls e c) X ((SK.2 a ap.he).trans ((Kz.2 a (Ne.symm MB)).trans he)) hc hd GR (Ns1.same SK ap.hd (Ns1.same Kz ap.hq Ku)) Of WJ (if_pos rfl) fun h' tk MF=>?_
 have IS:Ev cx (ez l) (fun c=>c=env.locals) _ (w.at ⟨h',w.s.gens,w.s.drawn,tk,w.s.os⟩):=wX.inv.dU (pL.ev wX) MF rfl rfl
 exact hQ _ t (((tR.wide fun _ q=>q▸Nat.le_trans WI hNT).trans (wX.wide fun _ q=>q▸U1)).trans (IS.wide fun _ q=>q▸U1)) Og
structure iT(env:Env) (scope:Scope) (vs yT:List (Str×Nat)):Prop where
 kind:scope.kind=.function
 co:scope.isCoroutine=false
 gen:scope.isGenerator=false
 ri:∀y∈scope.names,y.2≠.cell
 free:∀y∈scope.names,y.2=.free->env.kindOf y.1=some .cell\/env.kindOf y.1=some .free
 vars:∀y j,(y,j)∈yT->(y,j)∈vs/\scope.names.lookup y=some .free
theorem dN.cons{L:Addr}(fr:dN cx l w) (hf:env.frame=some L) (hk:env.scope.kind≠.module) (p:iB cx w L) (ho:JN w.h L):dN cx (env::l) w where
 at' a ha:=by
  rw[fJ hf] at ha
  cases ha with
  |head=>exact p
  |tail _ ha=>exact fr.at' a ha
 ob a ha:=by
  rw[fJ hf] at ha
  cases ha with
  |head=>exact ho
  |tail _ ha=>exact fr.ob a ha
 env e he:=by
  cases he with
  |head=>exact⟨hk,L,hf⟩
  |tail _ he=>exact fr.env e he
theorem dN.tail{L:Addr}(fr:dN cx (env::l) w) (hf:env.frame=some L):dN cx l w :=
 ⟨fun a ha=>fr.at' a (by rw[fJ hf];exact .tail _ ha),fun a ha=>fr.ob a (by rw[fJ hf];exact .tail _ ha),fun e he=>fr.env e (.tail _ he)⟩
theorem iT.has{vs yT:List (Str×Nat)}(O:iT K.env scope vs yT) (X:j6 cx K w):vo K.env scope.names:=fun y hy hf=>X.kinds y.1 (O.free y hy hf)
theorem uh{y:Str}(h:vo env scope.names) (m:(y,NameKind.free)∈scope.names):(jc scope env).lookup y=env.cells.lookup y:=by unfold jc;rw[lN h,if_pos m]
theorem lS{y:Str}{c:Addr}(h:vo env scope.names) (e:(jc scope env).lookup y=some c):env.cells.lookup y=some c:=by
 unfold jc at e
 rw[lN h] at e
 by_cases q:(y,NameKind.free)∈scope.names
 ·rw[if_pos q] at e;exact e
 ·rw[if_neg q] at e;injection e
noncomputable def v5(cx:Cx) (K:Kx) (scope:Scope) (L f:Addr) (ug:Value):Env:=newEnv scope L mainGlobals (jc scope K.env) (cx.nj ++ ".<locals>.") (some f) ug none builtinsNs
theorem At.lam{A2:Around}{l2:List Env}{f L:Addr}{ug:Value}{yT:List (Str×Nat)}(O:iT K.env scope K.vs yT) (X:At cx K g w) (nF:∀y c,K.env.cells.lookup y=some c->c∉ez l2/\c≠L)
  (fr:dN cx (v5 cx K scope L f ug::l2) w) (hn:∃m,w.h.Ns L m):At cx ⟨A2,v5 cx K scope L f ug::l2,v5 cx K scope L f ug,yT⟩ g w:=by
 have KG:=O.has X.eo
 have ir:ez (v5 cx K scope L f ug::l2)=L::ez l2:=fJ rfl
 have pL:=fr.at' L (by rw[ir];exact .head _)
 refine⟨X.inv,fr,⟨O.kind,rfl,rfl,pL,hn,fun y c e=>?_,fun y z c e1 e2=>X.eo.apart y z c (lS KG e1) (lS KG e2),fun y hy=>?_⟩,fun y j a e1 e2=>?_⟩
 ·obtain⟨p,q,r,z⟩:=X.eo.cell y c (lS KG e)
  obtain⟨h1,h2⟩:=nF y c (lS KG e)
  exact⟨p,fun q=>by
   rw[show ez (Kx.l ⟨A2,v5 cx K scope L f ug::l2,v5 cx K scope L f ug,yT⟩)=L::ez l2 from ir] at q
   cases q with
   |head=>exact h2 rfl
   |tail _ q=>exact h1 q,h2,z⟩
 ·replace hy:scope.names.lookup y=some .cell\/scope.names.lookup y=some .free:=hy
  rcases hy with hy|hy
  ·exact absurd rfl (O.ri _ (PySem.mem_of_lookup hy))
  ·have m:=PySem.mem_of_lookup hy
   exact let⟨c,e⟩:=KG _ m rfl;⟨c,(uh KG m).trans e⟩
 ·obtain⟨h1,h2⟩:=O.vars y j e1
  obtain⟨v,h3,h4⟩:=X.vars y j a h1 e2
  have m:=PySem.mem_of_lookup h2
  refine⟨v,?_,h4⟩
  rcases h3 with⟨k,_⟩|⟨k,c,e5,z⟩
  ·rcases O.free _ m rfl with q|q<;>rw[q] at k<;>cases k
  ·exact .cell (.inr h2) c ((uh KG m).trans e5) z
end
noncomputable def noParams:Arguments:={ posonlyargs:=[],args:=[],vararg:=none,kwonlyargs:=[],kw_defaults:=[],kwarg:=none,defaults:=[] }
section
variable {cx:Cx}{nm:Nat->Option Str}{w w':Wd}{K:Kx}{g:Gm}{l2:List Env}{A2:Around}{E:Value->Shared->Prop}{Q:Value->Shared->Prop}{scope:Scope}{f:Addr}{x:Expr}{k:Kv}{yT:List (Str×Nat)}{pm ug I0:Value}
noncomputable def KH(cx:Cx) (A2:Around) (l2:List Env) (scope:Scope) (yT:List (Str×Nat)) (x:Expr) (k:Kv):Prop:=∀env,env.scope=scope->SE cx ⟨A2.deeper env,env::l2,env,yT⟩ x k
theorem DO(gT:A2.depth<recursionLimit) (ir:A2.frames=some l2) (O:iT K.env scope K.vs yT) (X:At cx K g w) (fr:dN cx l2 w) (nF:∀y c,K.env.cells.lookup y=some c->c∉ez l2)
  (Ob:gU w.h f (kla_fn "<lambda>" cx.nj noParams x scope (jc scope K.env) pm ug I0)) (Cd:w.h.CodeRec ug cx.nj) (hx:KH cx A2 l2 scope yT x k) (T:bT cx l2 w (k g w.st) cH Q E) :
  codeAny (model cx.prog cx.w) A2 (.call (.ref f) ⟨[],[]⟩) (post Q E) w.s:=by
 obtain⟨o,ho,_,hd⟩:=Ob
 refine kla_callFunE gT ho hd O.co O.gen rfl Cd (jj (us:=[]) (ds:=[]) (ps:=[]) ⟨rfl,rfl,rfl,rfl,rfl,.nil⟩ (.no rfl) (.all [] rfl (Nat.le_refl _)) _ _ _ _ ?_)
 refine wpAny_newFunctionEnv O.ri (fun p hp=>nomatch hp) (fun h3 QW MF=>⟨X.inv.lim.fresh _ MF,kla_codeExpr ?_⟩) O.kind
 have k3:∀b o,w.h.get? b=some o->h3.get? b=some o:=fun b o e=>MF.extBut b o (Nat.ne_of_lt (Heap.lt_size e)) (Heap.get?_push_of_some _ e)
 have qU:w.n<h3.objs.size:=by obtain⟨o,_,_,e,_⟩:=QW;exact Heap.lt_size e
 have ev:∀{fr W},Ev cx fr W w (w.at { w.s with heap:=h3,toks:=w.s.toks+0 }):=X.inv.keeps k3 rfl rfl (Nat.le_of_lt qU)
 have lim:∀a∈ez l2,a<w.n:=fun a q=>(fr.at' a q).lt
 have WK:=(fr.ev ev).cons (env:=v5 cx K scope w.n f ug) rfl (by show scope.kind≠_;rw[O.kind];exact fun q=>by injection q) ⟨X.inv.ge,qU,X.inv.rel.mC (Nat.le_refl _)⟩ (let⟨o,es,ep,e,d,_⟩:=QW;⟨o,e,fun vs q=>by rw[d] at q;injection q⟩)
 have X3:=At.lam (A2:=A2.deeper (v5 cx K scope w.n f ug)) O (X.ev ev) (fun y c e=>⟨nF y c e,Nat.ne_of_lt (X.eo.cell y c e).dU.lt⟩) WK ⟨_,QW⟩
 have GW:∀{w'},iC cx (v5 cx K scope w.n f ug::l2) (w.at { w.s with heap:=h3,toks:=w.s.toks+0 }) w'->iC cx l2 w w':=fun y=>ev.over (y.pop rfl) (fun a q=>.inl (q.elim False.elim fun q=>Nat.le_of_eq q.symm)) lim
 exact hx _ rfl g _ X3 _ _ ⟨T.ne,fun b v w' e y r=>T.ok b v w' e (GW y) r,fun m u w' e y z=>kD (N:=h3.objs.size) (Around.frames_deeper ir) rfl y.inv (X3.fr.ev y) z.toS fun s2 y2 z2 =>
  T.err m u (w'.at s2) e ((GW y).over (y2.pop rfl) (fun a q=>.inl (q.elim (Nat.le_trans (Nat.le_of_lt qU)) fun q=>Nat.le_of_eq q.symm)) lim) ((z2.out rfl).mono (Nat.le_of_lt qU))⟩
@[reducible] noncomputable def I2 (p1 p2 p3 p4 p5 p6 p7 p8 p9:Pos):List Stmt:=[.Try [.Return (some (.Call (.Name zy p1) [] [] p2)) p3] [.ExceptHandler (some (.Name "Refusal" p4)) (some iu) [.Return (some (.Attribute (.Name iu p5) bJ p6)) p7] p8] [] [] p9]
structure rK(cx:Cx) (Fd:Fn):Prop where
 fn:∃p1 p2 p3 p4 p5 p6 p7 p8 p9,FnAt cx 82 Fd [zy] [] [] (I2 p1 p2 p3 p4 p5 p6 p7 p8 p9)
 obj:gU cx.h₀ (cx.fA 82) (cx.fd 82)
 ask:(cx.fd 82).scope.names.lookup zy=some .local
 err:(cx.fd 82).scope.names.lookup iu=some .local
 ref:(cx.fd 82).scope.names.lookup ("Refusal" : Str)=some .globalImplicit
theorem BJ{Fd:Fn}(B:Base cx nm) (RO:pP cx) (KP:rK cx Fd) (O:iT K.env scope K.vs yT) (X:At cx K g w) (ir:K.A.frames=some K.l) (gT:K.A.depth+2<recursionLimit) (hx:KH cx (K.A.deeper (d7 cx 82 w.n)) (d7 cx 82 w.n::K.l) scope yT x k)
  (Ob:gU w.h f (kla_fn "<lambda>" cx.nj noParams x scope (jc scope K.env) pm ug I0)) (Cd:w.h.CodeRec ug cx.nj) (T:bT cx K.l w (zU (k g w.st)) cH Q E) :
  codeAny (model cx.prog cx.w) K.A (.call (.ref (cx.fA 82)) ⟨[.ref f],[]⟩) (post Q E) w.s:=by
 obtain⟨p1,p2,p3,p4,p5,p6,p7,p8,p9,FK⟩:=KP.fn
 obtain⟨o,ho,hc,hd⟩:=FK.obj
 obtain⟨c,oc,fs,t,c1,c2,c3,c4,c5⟩:=FK.code
 refine codeAny_call_function (Nat.lt_of_le_of_lt (Nat.le_add_right _ 2) gT) (X.inv.old.get_of_cls ho hc) hd FK.co FK.gen FK.body ⟨c,oc,fs,t,c1,X.inv.old.get_of_cls c2 c3,c4,c5⟩ (jj FK.plain (FK.defAt X.inv.old) (.all [] rfl (Nat.zero_le _)) _ _ _ _ ?_)
 rw[FK.Sj]
 refine wpAny_newFunctionEnv_cells FK.kind (fun p hp=>.inl (by rw[List.mem_singleton.mp (List.of_mem_zip hp).1];exact KP.ask)) fun env he s2 IY=>?_
 cases(he:env=d7 cx 82 w.n)
 refine⟨X.inv.lim.keeps IY.toInCall.keep,codeAny_func ?_⟩
 obtain⟨X2,ev,_⟩:=FK.entry (A:=K.A) (g:=g) (vals:=[.ref f]) X.inv X.fr (fun _ _ _ q=>nomatch q) IY
 have qU:w.n<s2.heap.objs.size:=by obtain⟨o,_,_,e,_⟩:=IY.toInCall.ns;exact Heap.lt_size e
 have WL:=ud (m:=fun _=>none) (k:=(d7 cx 82 w.n).kindOf) (ps:=[zy]) (vals:=[.ref f]) (j:=0) FK.plain.nodup rfl rfl KP.ask
 obtain⟨of,hof,hofc,hofd⟩:=Ob
 have SM:=IY.toInCall.keep
 have lim:∀a∈ez K.l,a<w.n:=fun a q=>(X.fr.at' a q).lt
 have GW:∀{w'},iC cx (d7 cx 82 w.n::K.l) (w.at s2) w'->iC cx K.l w w':=fun y=>ev.over (y.pop rfl) (fun a q=>.inl (q.elim False.elim fun q=>Nat.le_of_eq q.symm)) lim
 have nF:∀y c,K.env.cells.lookup y=some c->c∉ez (d7 cx 82 w.n::K.l):=fun y c e q=>by
  rw[fJ (env:=d7 cx 82 w.n) rfl] at q
  cases q with
  |head=>exact Nat.lt_irrefl _ (X.eo.cell y _ e).dU.lt
  |tail _ q=>exact(X.eo.cell y c e).JO q
 refine wpAny_execs_cons (wpAny_Try_except (wpAny_execs_cons (wpAny_Return_some (wpAny_Call_Name_kw (wpAny_Name (wpAny_loadName_local X2.eo.fn KP.ask IY.toInCall.ns WL ?_) (by decide))))))
 refine Calls.callWith_function (o:=of) (fd:=kla_fn "<lambda>" cx.nj noParams x scope (jc scope K.env) pm ug I0) ((SA.nil (cx:=cx) (K:=pN cx K.A K.l 82 [] w.n)).args (wpAny_items_nil ⟨⟨SM _ _ hof,hofd⟩,wpAny_call ?_⟩))
 refine DO (Nat.lt_of_succ_lt gT) (Around.frames_deeper ir) O (X.ev ev) X2.fr nF (.mk of (SM _ _ hof) hofc hofd) (let⟨c,oc,fs,t,a,b,r⟩:=Cd;⟨c,oc,fs,t,a,SM _ _ b,r⟩) hx ⟨fun q=>T.ne (by rw[show k g w.st=none from q];rfl),fun b v w' e y r=>?_,fun m u w' e y z=>?_⟩
 ·have e':k g w.st=some (.ok (b,w'.st)):=e
  exact T.ok b v w' (by rw[e'];rfl) (GW y) r
 ·have e':k g w.st=some (.error (m,w'.st)):=e
  have pL:iB cx (w.at s2) w.n:=⟨X.inv.ge,qU,X.inv.rel.mC (Nat.le_refl _)⟩
  refine pM (N:=s2.heap.objs.size) (Around.frames_deeper ir) (L:=w.n) rfl y.inv (X2.fr.ev y) z.toS fun s3 y3 z3=>?_
  have WM:Ev cx (ez K.l) (fun a=>w.n<=a) w (w'.at s3):=((GW y).wide fun _ q=>q.elim).trans ((y3.pop rfl).wide fun a q=>q.elim (Nat.le_trans (Nat.le_of_lt qU)) fun q=>Nat.le_of_eq q.symm)
  refine xW (N0:=w.n) B RO X2.eo.fn X2.eo.glob rfl rfl KP.ref KP.err y3.inv ((X2.fr.ev y).Bg y3 fun a h q=>Nat.not_lt.mpr q (X2.fr.at' a h).lt) (Nat.le_refl _) (Nat.le_of_lt qU) z3
   (xC (l:=d7 cx 82 w.n::K.l) y3 (pL.ev y) (fun q=>Nat.not_lt.mpr q qU) (xC (l:=d7 cx 82 w.n::K.l) y pL (fun q=>q) IY.toInCall.ns)) fun s' t WN Og=>?_
  exact T.ok (.t (.str m)) _ (w'.at s') (by rw[e'];rfl) ((Ev.refl X.inv).over (WM.trans WN) (fun _ q=>.inl q) lim) (Rep.str m t Og)
theorem SE.kept{p pos SN:Pos}{Fd:Fn}{Aj:Str}(B:Base cx nm) (LO:uf cx) (RO:pP cx) (KP:rK cx Fd) (Sf:nm 82=some Aj) (WO:(Aj==("__debug__" : Str))=false)
  (hk:K.env.kindOf Aj=some .globalImplicit) (O:iT K.env scope K.vs yT) (Ai:K.env.code=(cx.fd 83).code) (DN:K.env.qual ++ "<lambda>" = cx.nj)
  (ir:K.A.frames=some K.l) (gT:K.A.depth+2<recursionLimit)
  (hx:∀L,KH cx (K.A.deeper (d7 cx 82 L)) (d7 cx 82 L::K.l) scope yT x k) :
  SE cx K (.Call (.Name Aj p) [.Lambda noParams x scope SN] [] pos) (fun g st=>zU (k g st)):=fun g w X Q E T=>by
 obtain⟨oK,hoK,hcK,hdK⟩:=KP.obj
 refine wpAny_Call_Name_kw (gw X B hk WO (B.fg 82 _ Sf) (Calls.callWith_function (o:=oK) (fd:=cx.fd 82) (evalArgs_plain (wpAny_items_cons (DM LO B X Ai DN rfl (gM (O.has X.eo)) fun f w1 pm ug I0 L=>?_) rfl))))
 have ev:iC cx K.l w w1:=L.ev fun a ha=>(X.fr.at' a ha).ge
 refine wpAny_items_nil ⟨⟨ev.inv.old.get_of_cls hoK (by rw[hcK];exact fun q=>by injection q),hdK⟩,wpAny_call (BJ B RO KP O (X.ev ev) ir gT (hx _) L.obj L.code ?_)⟩
 rw[L.st]
 exact T.start ev
end
noncomputable def oX(o:Option Expr):List Expr:=match o with| some x=>[x]|none=>[]
noncomputable def Ow(l:List Comprehension):List Expr:=match l with
 |⟨t,it,ifs,_⟩::_=>t::it::ifs
 |[]=>[]
noncomputable def kids:Expr->List Expr
 |.BinOp a _ b _=>[a,b]
 |.UnaryOp _ a _=>[a]
 |.Compare a _ l _=>a::l
 |.BoolOp _ l _=>l
 |.IfExp a b c _=>[a,b,c]
 |.List l _=>l
 |.Tuple l _ _=>l
 |.Dict ks l _=>l++ks.flatMap oX
 |.Subscript a b _=>[a,b]
 |.Slice a b _ _=>[(oX a).headD default,(oX b).headD default]
 |.Call f l _ _=>f::l
 |.Attribute a _ _=>[a]
 |.ListComp e g _ _=>e::Ow g
 |.DictComp k v g _ _=>k::v::Ow g
 |.JoinedStr l _=>l
 |.FormattedValue a _ _ _=>[a]
 |.Lambda _ b _ _=>[b]
 |_=>[]
noncomputable def bY(i:Nat) (x:Expr):Expr:=(kids x).getD i default
noncomputable def rest(x:Expr):List Expr:=(kids x).drop 1
noncomputable def G3:Expr->Nat×Str×Scope×Option Expr
 |.Constant _ k _=>(k,default,default,none)
 |.Tuple _ k _=>(k,default,default,none)
 |.Name n _=>(0,n,default,none)
 |.ListComp _ _ s _=>(0,default,s,none)
 |.DictComp _ _ _ s _=>(0,default,s,none)
 |.Lambda _ _ s _=>(0,default,s,none)
 |.Slice a _ _ _=>(0,default,default,a)
 |_=>(0,default,default,none)
noncomputable def KJ(x:Expr):Nat:=(G3 x).1
noncomputable def d8(x:Expr):Str:=(G3 x).2.1
noncomputable def fF(x:Expr):Scope:=(G3 x).2.2.1
noncomputable def G4(c:Const) (x:Expr):Expr:=.Constant c (KJ x) x.pos
noncomputable def G5(t:Tx) (x:Expr):Expr:=G4 (.str (tx t)) x
noncomputable def jm(n:Str) (x:Expr):Expr:=.Name n x.pos
noncomputable def Ak:List Tx->List Expr->List (Option Expr)
 |[],_=>[]
 |t::ts,l=>some (G5 t (l.headD default))::Ak ts (l.drop 1)
noncomputable def kK(f:Expr) (l:List Expr) (x:Expr):Expr:=.Call f l [] x.pos
noncomputable def v7(x:Expr) (it:Expr) (ifs:List Expr):List Comprehension:=[⟨jm (d8 x) x,it,ifs,0⟩]
noncomputable def DP:Bi->Str
 |.len=>"len"
 |.max2=>"max"
 |.qD=>"max"
 |.abs=>"abs"
 |.chr=>"chr"
 |.list=>"list"
 |.dict=>"dict"
 |_=>"isinstance"
noncomputable def U3(b:Bi) (l:List Expr) (x:Expr):Expr:=match b with
 |.mq=>kK (jm "isinstance" (bY 0 x)) (l++[jm "Vector" (bY 2 x)]) x
 |.isStr=>kK (jm "isinstance" (bY 0 x)) (l++[jm "str" (bY 2 x)]) x
 |.dZ=>kK (jm "list" (bY 0 x)) [kK (jm "range" (bY 0 (bY 1 x))) l (bY 1 x)] x
 |b=>kK (jm (DP b) (bY 0 x)) l x
noncomputable def DQ(b:Bi) (x:Expr):List Expr:=match b with| .dZ=>rest (bY 1 x)|_=>rest x
noncomputable def G6(a:Expr) (n:Str) (x:Expr):Expr:=.Attribute a n x.pos
noncomputable def eL:E->Expr->Expr:=E.rec (motive_1:=fun _=>Expr->Expr) (motive_2:=fun _=>List Expr->List Expr) (motive_3:=fun _=>Expr->Option Expr)
 (fun x=>G4 .none x) (fun b x=>G4 (.bool b) x) (fun i x=>G4 (.int i) x) (fun s x=>G5 s x) (fun _ x=>jm (d8 x) x) (fun _ _ x=>jm "MOST_LENGTH" x)
 (fun _ f a x=>G6 (a (bY 0 x)) (tx f) x) (fun o _ _ a b x=>.BinOp (a (bY 0 x)) (QL o) (b (bY 1 x)) x.pos) (fun _ a x=>.UnaryOp .USub (a (bY 0 x)) x.pos) (fun _ a x=>.UnaryOp .Not (a (bY 0 x)) x.pos)
 (fun o _ _ a b x=>.Compare (a (bY 0 x)) [NB o] [b (bY 1 x)] x.pos) (fun _ l x=>.BoolOp .And (l (kids x)) x.pos) (fun _ l x=>.BoolOp .Or (l (kids x)) x.pos) (fun _ _ _ c a b x=>.IfExp (c (bY 0 x)) (a (bY 1 x)) (b (bY 2 x)) x.pos)
 (fun _ l x=>.List (l (kids x)) x.pos) (fun _ l x=>.Tuple (l (kids x)) (KJ x) x.pos) (fun ks _ l x=>.Dict (Ak ks ((kids x).drop ks.length)) (l (kids x)) x.pos) (fun x=>.Dict [] [] x.pos)
 (fun _ _ a i x=>.Subscript (a (bY 0 x)) (i (bY 1 x)) x.pos) (fun _ _ _ a lo hi x=>.Subscript (a (bY 0 x)) (.Slice (lo (bY 0 (bY 1 x))) (hi (bY 1 (bY 1 x))) none (bY 1 x).pos) x.pos)
 (fun _ _ l x=>kK (jm (d8 (bY 0 x)) (bY 0 x)) (l (rest x)) x) (fun c _ _ l x=>kK (jm (clsName c) (bY 0 x)) (l (rest x)) x) (fun _ _ a x=>kK (G6 (a (bY 0 (bY 0 x))) "copy" (bY 0 x)) [] x)
 (fun b _ l x=>U3 b (l (DQ b x)) x) (fun m _ _ a l x=>kK (G6 (a (bY 0 (bY 0 x))) (Ac m) (bY 0 x)) (l (rest x)) x)
 (fun _ _ _ _ src c e x=>.ListComp (e (bY 0 x)) (v7 (bY 1 x) (src (bY 2 x)) (oX (c (bY 3 x)))) (fF x) x.pos)
 (fun _ _ _ _ src c e x=>.ListComp (e (bY 0 x)) (v7 (bY 1 x) (kK (jm "range" (bY 0 (bY 2 x))) (src (rest (bY 2 x))) (bY 2 x)) (oX (c (bY 3 x)))) (fF x) x.pos)
 (fun _ _ _ _ src k v x=>.DictComp (k (bY 0 x)) (v (bY 1 x)) (v7 (bY 2 x) (src (bY 3 x)) []) (fF x) x.pos)
 (fun p _ q e x=>.JoinedStr [G5 p (bY 0 x),.FormattedValue (e (bY 0 (bY 1 x))) (-1) none (bY 1 x).pos,G5 q (bY 2 x)] x.pos)
 (fun _ e x=>kK (jm (d8 (bY 0 x)) (bY 0 x)) [.Lambda noParams (e (bY 0 (bY 1 x))) (fF (bY 1 x)) (bY 1 x).pos] x)
 (fun _ e x=>e x)
 (fun _=>[]) (fun _ _ e l xs=>e (xs.headD default)::l (xs.drop 1)) (fun _=>none) (fun _ e x=>some (e x))
noncomputable def Ox(l:List E) (xs:List Expr):List Expr:=kids (eL (.list l) (.List xs default))
noncomputable def SP(x:Expr):Option Expr:=(G3 x).2.2.2
noncomputable def SQ(o:Option E) (x:Expr):Option Expr:=SP (bY 1 (eL (.slice .none o none) (.Subscript default (.Slice (some x) none none default) default)))
noncomputable def rL(k:Nat) (x:Expr):Bool:=!(Nat.beq x.ctorIdx k)
noncomputable def plainArg(x:Expr):Bool:=rL 22 x
noncomputable def Al(x:Expr):Bool:=rL 15 x&&rL 0 x&&rL 3 x&&rL 5 x
noncomputable def xX(x:Expr):Bool:=rL 26 x
noncomputable def iN(x:Expr):Bool:=rL 7 x
structure Cn where
 kd:Str->Option NameKind
 vs:List (Str×Nat)
 lw:Bool
noncomputable def gl(Γ:Cn) (n:Str):Bool:=decide (Γ.kd n=some .globalImplicit)
noncomputable def gI(Γ:Cn) (n:Str):Bool:=gl Γ n&&!(n==("__debug__" : Str))
noncomputable def Oz(kd:Str->Option NameKind) (x:Str) (k:NameKind):NameKind:=if(k==.free&&kd x==some .cell)=true then .cell else k
noncomputable def Cn.comp(Γ:Cn) (scope:Scope) (x:Str) (ix:Nat):Cn:=⟨fun z=>(scope.names.lookup z).map (Oz Γ.kd z),vq scope x ix Γ.vs,Γ.lw⟩
noncomputable def DR(scope:Scope) (vs:List (Str×Nat)):List (Str×Nat):=vs.filter fun p=>scope.names.lookup p.1==some .free
noncomputable def Cn.lam(Γ:Cn) (scope:Scope):Cn:=⟨fun z=>scope.names.lookup z,DR scope Γ.vs,false⟩
noncomputable def freeOk(Γ:Cn) (scope:Scope):Bool:=scope.names.all fun z=>z.2 != .free||Γ.kd z.1==some .cell||Γ.kd z.1==some .free
noncomputable def DS(scope:Scope):Bool:=scope.names.all fun z=>z.2 != .cell
noncomputable def KL(Γ:Cn) (scope:Scope) (x:Str):Bool:=decide (scope.kind=.function)&&DS scope&&scope.names.all (fun z=>z.2 != .local||scope.names.lookup z.1==some .local)&&scope.names.lookup x==some .local&&freeOk Γ scope
noncomputable def DT(Γ:Cn) (scope:Scope):Bool:=decide (scope.kind=.function)&&!scope.isCoroutine&&!scope.isGenerator&&DS scope&&freeOk Γ scope
noncomputable def OA(Γ:Cn) (b:Bi) (n:Nat):Bool:=match b with
 |.mq=>decide (n=1)&&gl Γ "isinstance" && gl Γ "Vector"
 |.isStr=>decide (n=1)&&gl Γ "isinstance" && gl Γ "str"
 |.dZ=>decide (n=1)&&gl Γ "list" && gl Γ "range"
 |b=>decide (0<n)&&gl Γ (DP b)
noncomputable def rM(nm:Nat->Option Str):E->Cn->Expr->Bool:=E.rec (motive_1:=fun _=>Cn->Expr->Bool) (motive_2:=fun _=>Cn->List Expr->Bool) (motive_3:=fun _=>Cn->Expr->Bool)
 (fun _ _=>true) (fun _ _ _=>true) (fun _ _ _=>true) (fun s _ _=>sX s) (fun i Γ x=>decide ((d8 x,i)∈Γ.vs)&&!(d8 x==("__debug__" : Str))&&!(d8 x==("__classdict__" : Str))) (fun i _ Γ x=>decide (i=1000000)&&gl Γ "MOST_LENGTH")
 (fun e f a Γ x=>a Γ (bY 0 x)&&decide (f∈fu)&&mU (eL e (bY 0 x))) (fun _ _ _ a b Γ x=>a Γ (bY 0 x)&&b Γ (bY 1 x)) (fun _ a Γ x=>a Γ (bY 0 x)) (fun _ a Γ x=>a Γ (bY 0 x))
 (fun o _ e a b Γ x=>a Γ (bY 0 x)&&b Γ (bY 1 x)&&!behindInMarks (NB o) (eL e (bY 1 x))) (fun _ l Γ x=>l Γ (kids x)) (fun _ l Γ x=>l Γ (kids x)) (fun _ _ _ c a b Γ x=>c Γ (bY 0 x)&&a Γ (bY 1 x)&&b Γ (bY 2 x))
 (fun l ok Γ x=>ok Γ (kids x)&&decide (l.length<=100)) (fun l ok Γ x=>ok Γ (kids x)&&decide (l.length<=100)) (fun ks l ok Γ x=>ok Γ (kids x)&&decide (ks.length=l.length)&&decide (l.length<=15)&&decide ks.Nodup&&decide (b9∉ks)) (fun _ _=>true)
 (fun _ e a i Γ x=>a Γ (bY 0 x)&&i Γ (bY 1 x)&&xX (eL e (bY 1 x))) (fun _ _ _ a lo hi Γ x=>a Γ (bY 0 x)&&(hi Γ (bY 1 (bY 1 x))&&lo Γ (bY 0 (bY 1 x))))
 (fun f _ l Γ x=>l Γ (rest x)&&decide (nm f=some (d8 (bY 0 x)))&&gI Γ (d8 (bY 0 x))) (fun c f _ l Γ x=>l Γ (rest x)&&decide (c.n≠2)&&decide (f=fT c)&&gI Γ (clsName c)) (fun f e a Γ x=>a Γ (bY 0 (bY 0 x))&&decide (f=3)&&mU (eL e (bY 0 (bY 0 x)))&&((bY 0 x).pos.endLine==x.pos.line))
 (fun b l ok Γ x=>ok Γ (DQ b x)&&OA Γ b l.length) (fun m e l a ok Γ x=>a Γ (bY 0 (bY 0 x))&&ok Γ (rest x)&&mU (eL e (bY 0 (bY 0 x)))&&((bY 0 x).pos.endLine==x.pos.line)&&decide (l.length<10))
 (fun ix s _ _ src c e Γ x=>src Γ (bY 2 x)&&c (Γ.comp (fF x) (d8 (bY 1 x)) ix) (bY 3 x)&&e (Γ.comp (fF x) (d8 (bY 1 x)) ix) (bY 0 x)&&KL Γ (fF x) (d8 (bY 1 x))&&iN (eL s (bY 2 x)))
 (fun ix s _ _ src c e Γ x=>src Γ (rest (bY 2 x))&&c (Γ.comp (fF x) (d8 (bY 1 x)) ix) (bY 3 x)&&e (Γ.comp (fF x) (d8 (bY 1 x)) ix) (bY 0 x)&&KL Γ (fF x) (d8 (bY 1 x))&&decide (0<s.length)&&gl Γ "range")
 (fun _ _ _ _ _ _ _ _ _=>false)
 (fun p _ q e Γ x=>e Γ (bY 0 (bY 1 x))&&sX p&&sX q&&decide (p.length<=100)&&decide (q.length<=100))
 (fun _ e Γ x=>e (Γ.lam (fF (bY 1 x))) (bY 0 (bY 1 x))&&Γ.lw&&decide (nm 82=some (d8 (bY 0 x)))&&gI Γ (d8 (bY 0 x))&&DT Γ (fF (bY 1 x)))
 (fun e a Γ x=>a Γ x&&Al (eL e x))
 (fun _ _=>true) (fun e _ a l Γ xs=>a Γ (xs.headD default)&&l Γ (xs.drop 1)&&plainArg (eL e (xs.headD default))) (fun _ _=>true) (fun _ a Γ x=>a Γ x)
noncomputable def U4(nm:Nat->Option Str) (l:List E) (Γ:Cn) (xs:List Expr):Bool:=rM nm (.and l) Γ (.BoolOp .And xs default)
noncomputable def SR(nm:Nat->Option Str) (o:Option E) (Γ:Cn) (x:Expr):Bool:=rM nm (.slice .none o none) Γ (.Subscript default (.Slice (some x) none none default) default)
theorem aP{a b:Bool}(h:(a&&b)=true){p:Prop}(k:a=true->b=true->p):p:=by
 induction a with
 |false=>injection h
 |true=>exact k rfl h
theorem BK{a:Bool}(h:(!a)=true):a=false:=by cases a<;>first| rfl|injection h
theorem SE.attr{cx:Cx}{nm:Nat->Option Str}{K:Kx}{x:Expr}{f:Tx}{k:Kv}{pos:Pos}(B:Base cx nm) (hf:f∈fu) (hb:mU x=true) (h:SE cx K x k):SE cx K (.Attribute x (tx f) pos) (k1 (CM f) k):=fun g w X Q E T =>
 Attribute_any_ ((h g w X).step T fun a v w1 e1 r1 T=>Ga e1.inv B hf r1 Q E T) (by rw[arm_eval_Attribute,gz hb])
theorem eZ{e:Expr}{env:Env}(h:plainArg e=true):∀rest,starEach (e::rest) env=(false,eval e env)::starEach rest env:=fun rest=>by
 cases e<;>first| rfl|injection h
theorem nJ{y:Expr}(h:xX y=true) (o i:Value):subscripted y false o i=operate [o,i] (getItem o i):=by
 cases y<;>first| rfl|injection h
theorem fV{y:Expr}{env:Env}(h:iN y=true) (x:Value):foldedSetIterable y env x=pure x:=by
 cases y<;>first| rfl|injection h
structure kM(cx:Cx) (D U:Nat) (Γ:Cn) (K:Kx):Prop where
 fn:K.env.scope.kind=.function
 kd:∀y,K.env.kindOf y=Γ.kd y
 vs:K.vs=Γ.vs
 CA:Γ.lw=true->K.env.code=(cx.fd 83).code/\K.env.qual ++ "<lambda>" = cx.nj
 fr:K.A.frames=some K.l
 hh:K.A.handled=none
 d:K.A.depth<=D+if Γ.lw then 0 else 2
 u:K.A.units<=U+if Γ.lw then 0 else 6
structure Hyp(cx:Cx) (F:Frag) (nm:Nat->Option Str) (C:fy) (D U:Nat):Prop where
 B:Base cx nm
 KB:Cy cx F
 RO:pP cx
 O:∀f x,nm f=some x->gU cx.h₀ (cx.fA f) (cx.fd f)
 O3:gU cx.h₀ (cx.fA 3) (cx.fd 3)
 LO:uf cx
 kept:∃Fd,rK cx Fd
 hC:∀f A l,A.frames=some l->A.handled=none->A.depth<=D+3->A.units<=U+12->Callee cx A l C f
 hD:D+8<recursionLimit
 hU:U+40<cLine
section
variable {cx:Cx}{F:Frag}{nm:Nat->Option Str}{C:fy}{D U:Nat}{Γ:Cn}{K:Kx}{x y:Expr}{n:Str}{scope:Scope}{ix:Nat}{k:Kv}
theorem le_if{a d:Nat}{b:Bool}{m:Nat}(h:a<=d+if b then 0 else m):a<=d+m:=by
 induction b with
 |true=>exact Nat.le_trans h (Nat.add_le_add_left (Nat.zero_le m) d)
 |false=>exact h
theorem kM.callee(R:kM cx D U Γ K) (H:Hyp cx F nm C D U) (f:Nat):Callee cx K.A K.l C f:=H.hC f _ _ R.fr R.hh (Nat.le_succ_of_le (le_if R.d)) (Nat.le_trans (le_if R.u) (Nat.add_le_add_left (by decide) U))
theorem kM.units(R:kM cx D U Γ K) (H:Hyp cx F nm C D U):K.A.units+16<cLine:=Nat.lt_of_le_of_lt (Nat.add_le_add_right (Nat.le_trans (le_if R.u) (Nat.add_le_add_left (by decide:6<=24) U)) 16) H.hU
theorem kM.gl(R:kM cx D U Γ K) (h:gl Γ n=true):K.env.kindOf n=some .globalImplicit:=(R.kd n).trans (of_decide_eq_true h)
theorem kM.gI(R:kM cx D U Γ K) (h:gI Γ n=true):K.env.kindOf n=some .globalImplicit/\(n==("__debug__" : Str))=false:=aP h fun a b=>⟨R.gl a,BK b⟩
theorem Am(R:kM cx D U Γ K) (h:freeOk Γ scope=true):∀y∈scope.names,y.2=.free->K.env.kindOf y.1=some .cell\/K.env.kindOf y.1=some .free:=fun z hz hf=>by
 have q:=List.all_eq_true.mp h z hz
 rw[R.kd]
 simp only[Bool.or_eq_true,bne_iff_ne,beq_iff_eq] at q
 exact q.elim (fun q=>q.elim (fun q=>absurd hf q) .inl) .inr
theorem DU(h:DS scope=true):∀y∈scope.names,y.2≠.cell:=fun z hz=>bne_iff_ne.mp (List.all_eq_true.mp h z hz)
theorem oU{x:Str}(R:kM cx D U Γ K) (h:KL Γ scope x=true):ig K scope x ix:=aP h fun h h5=>aP h fun h h4=>aP h fun h h3=>aP h fun h1 h2 =>
 ⟨of_decide_eq_true h1,DU h2,fun z hz hl=>by
  have q:=List.all_eq_true.mp h3 z hz
  simp only[Bool.or_eq_true,bne_iff_ne,beq_iff_eq] at q
  exact q.resolve_left fun q=>q hl,eq_of_beq h4,Am R h5⟩
theorem kM.comp{x:Str}{A:Addr}(R:kM cx D U Γ K) (h:KL Γ scope x=true):kM cx D U (Γ.comp scope x ix) (jx K scope x ix A) where
 fn:=aP h fun h _=>aP h fun h _=>aP h fun h _=>aP h fun h _=>of_decide_eq_true h
 kd y:=by
  refine gA.trans (congrArg (fun f=>(scope.names.lookup y).map f) (funext fun k=>?_))
  unfold vp Oz
  rw[R.fn,R.kd,show(ScopeKind.function==ScopeKind.function)=true from rfl,Bool.and_true]
 vs:=by show vq _ _ _ K.vs=vq _ _ _ Γ.vs;rw[R.vs]
 CA:=R.CA
 fr:=R.fr
 hh:=R.hh
 d:=R.d
 u:=R.u
theorem xY(R:kM cx D U Γ K) (h:DT Γ scope=true):iT K.env scope K.vs (DR scope Γ.vs):=aP h fun h h5=>aP h fun h h4=>aP h fun h h3=>aP h fun h1 h2 =>
 ⟨of_decide_eq_true h1,BK h2,BK h3,DU h4,Am R h5,fun y j m=>let⟨a,b⟩:=List.mem_filter.mp m;⟨R.vs▸a,eq_of_beq b⟩⟩
noncomputable def Gd(cx:Cx) (D U:Nat) (Γ:Cn) (x:Expr) (k:Kv):Prop:=∀K,kM cx D U Γ K->SX cx K x k
inductive GL(cx:Cx) (C:fy) (D U:Nat) (Γ:Cn):List Expr->List E->Prop
 |nil:GL cx C D U Γ [] []
 |cons {x:Expr}{e:E}{xs:List Expr}{l:List E}(p:plainArg x=true) (h:Gd cx D U Γ x (ev C e)) (r:GL cx C D U Γ xs l):GL cx C D U Γ (x::xs) (e::l)
variable {xs:List Expr}{l:List E}
theorem GL.length(r:GL cx C D U Γ xs l):xs.length=l.length:=by
 induction r with
 |nil=>rfl
 |cons _ _ _ ih=>exact congrArg Nat.succ ih
theorem GL.sa(r:GL cx C D U Γ xs l) (R:kM cx D U Γ K):SA cx K xs (gj C l):=by
 induction r with
 |nil=>exact .nil
 |cons p h _ ih=>exact .cons (eZ p) (h K R).v ih
theorem GL.and{pos:Pos}(r:GL cx C D U Γ xs l) (R:kM cx D U Γ K):BX cx K .And pos xs (ni C l):=by
 induction r with
 |nil=>exact⟨fun _ _ _=>.none,fun _ _ _=>.none⟩
 |cons p h r ih=>induction r with
  |nil=>exact .RK (h K R)
  |cons=>exact .and (h K R) ih
theorem GL.or{pos:Pos}(r:GL cx C D U Γ xs l) (R:kM cx D U Γ K):BX cx K .Or pos xs (u5 C l):=by
 induction r with
 |nil=>exact⟨fun _ _ _=>.none,fun _ _ _=>.none⟩
 |cons p h r ih=>induction r with
  |nil=>exact .V5 (h K R)
  |cons=>exact .or (h K R) ih
theorem Gd.of(h:∀K,kM cx D U Γ K->SE cx K x k) (he:∀K:Kx,∀whole,isTrue x K.env whole=(do let v <-whole;standAt x.pos;holding [v] (truthy v)):=by intro _ _;rfl):Gd cx D U Γ x k:=fun K R=>.of (h K R) (he K)
theorem xZ:∀{ts:List Tx}{l:List Expr},KeysAre ts (Ak ts l)
 |[],_=>.nil
 |_::_,_=>.cons xZ
theorem zB{env:Env}(h:Al x=true):∀whole,isTrue x env whole=(do let v <-whole;standAt x.pos;holding [v] (truthy v)):=by
 cases x<;>first| exact fun _=>rfl|injection h
theorem SE.pure(h:SE cx K x k):SE cx K x (xq k):=fun g w X Q E T=>h g w X Q E ⟨fun q=>T.ne (by unfold xq;rw[q];rfl),fun b a w' e ev r=>by
 unfold xq at T
 rw[e] at T
 have T:bT cx K.l w (Ba false w.st.length b w'.st) cH Q E:=T
 exact vH X.inv ev r T,fun m e w' q ev z=>by
 unfold xq at T
 rw[q] at T
 exact T.err m e w' rfl ev z⟩
theorem G7{ts:List Tx}{kl:List Expr}{pos:Pos}(r:GL cx C D U Γ xs l) (h1:ts.length=l.length) (h2:l.length<=15) (h3:ts.Nodup) (h4:b9∉ts):Gd cx D U Γ (.Dict (Ak ts kl) xs pos) (ev C (.dz ts l)):=.of fun K R=>by
 induction r with
 |nil =>
  induction ts with
  |nil=>exact SE.IM (nd:=.aK []) (o:=.dS [] 0) rfl (fun h=>⟨_,#[],Heap.get?_push_size _ rfl,⟨rfl,rfl,rfl⟩,rfl,fun _ he=>by simp at he,.nil,List.nodup_nil⟩) (.dS (kvs:=[]) (l:=[]) (Nat.zero_le _) rfl fun q=>nomatch q)
  |cons=>injection h1
 |cons p h r=>exact SE.dict ((GL.cons p h r).sa R) xZ (h1.trans (GL.cons p h r).length.symm) (fun q=>nomatch q) ((GL.cons p h r).length▸h2) h3 h4
theorem v8{elt:Expr}{x:Str}{px pos:Pos}{iter:Expr}{c:Option E}{src:Gm->aB->R (List PV)}{e:E}{y:Option Expr}(H:Hyp cx F nm C D U) (hc:KL Γ scope x=true) (hi:iN iter=true) (h1:∀K,kM cx D U Γ K->Src cx K iter src)
  (ht:∀K,kM cx D U (Γ.comp scope x ix) K->Fz cx K (oX y) (Bb C c)) (he:Gd cx D U (Γ.comp scope x ix) elt (ev C e)):Gd cx D U Γ (.ListComp elt [⟨.Name x px,iter,oX y,0⟩] scope pos) (qI src (ju ix (Bb C c) (ev C e))):=.of fun K R =>
 SE.comp H.B R.hh (oU R hc) (fV hi) (h1 K R) (fun A=>ht _ (R.comp hc)) fun A=>(he _ (R.comp hc)).v
theorem oW{z:Expr}(H:Hyp cx F nm C D U) (h1:decide (0<l.length)=true) (h2:gl Γ "range" = true) (r:GL cx C D U Γ xs l):∀K,kM cx D U Γ K->Src cx K (kK (jm "range" (bY 0 z)) xs z) (kN qH (gj C l)):=fun K R=>by
 induction r with
 |nil=>injection h1
 |cons p q r=>exact .range H.B (R.gl h2) ((GL.cons p q r).sa R)
theorem KN{c:ie}{z z':Expr}(H:Hyp cx F nm C D U) (hc:decide (c.n≠2)=true) (hg:gI Γ (clsName c)=true) (r:GL cx C D U Γ xs l) (K:Kx) (R:kM cx D U Γ K):SE cx K (kK (jm (clsName c) z') xs z) (kN (A9 C c (fT c)) (gj C l)) :=
 SE.new H.B H.KB (fun q=>by subst q;injection hc) (R.gI hg).1 (R.gI hg).2 (fun us=>H.hC _ _ _ R.fr R.hh (Nat.add_le_add_right (le_if R.d) 1) (Nat.le_trans (Nat.add_le_add (le_if R.u) (show(Code.builtin "type.__call__" ⟨[],[]⟩).cUnits<=6 from by decide +kernel)) (Nat.le_refl _))) (r.sa R)
theorem G8{z z' z2:Expr}{n:Str}{e:E}(H:Hyp cx F nm C D U) (hl:Γ.lw=true) (hn:nm 82=some n) (hg:gI Γ n=true) (hs:DT Γ scope=true) (ih:Gd cx D U (Γ.lam scope) x (ev C e)):Gd cx D U Γ (kK (jm n z') [.Lambda noParams x scope z2.pos] z) (ev C (.kept e)):=.of fun K R=>by
 obtain⟨Fd,KP⟩:=H.kept
 have d:=R.d
 have u:=R.u
 rw[hl] at d u
 refine SE.kept H.B H.LO H.RO KP hn (R.gI hg).2 (R.gI hg).1 (xY R hs) (R.CA hl).1 (R.CA hl).2 R.fr (Nat.lt_of_le_of_lt (Nat.add_le_add d (by decide:2<=8)) H.hD) fun L env he=>?_
 subst he
 exact(ih ⟨(K.A.deeper (d7 cx 82 L)).deeper env,env::d7 cx 82 L::K.l,env,DR env.scope Γ.vs⟩ ⟨(xY R hs).kind,fun _=>rfl,rfl,fun q=>(nomatch q),Around.frames_deeper (Around.frames_deeper R.fr),R.hh,Nat.add_le_add_right d 2,Nat.add_le_add_right u 6⟩).v
theorem mW{z:Expr}{b:Bi}{n:Str}(H:Hyp cx F nm C D U) (r:GL cx C D U Γ xs l) (h:(decide (0<l.length)&&gl Γ n)=true) (hb:∀st as,FZ b st as=(uZ st as).bind fun ds st=>xj b st ds) (hf:(∃id,zk b=.builtin id)\/∃T,zk b=.type T)
  (hx:bootBuiltins n=some (zk b)) (hu:n∈cy) (hd:(n==("__debug__" : Str))=false):Gd cx D U Γ (kK (jm n (bY 0 z)) xs z) (kN (FZ b) (gj C l)):=.of fun K R=>aP h fun h1 h2=>by
 induction r with
 |nil=>injection h1
 |cons p q r=>exact SE.bi H.B R.hh hb hf hx hu (R.gl h2) hd ((GL.cons p q r).sa R)
theorem GL.one(r:GL cx C D U Γ xs l) (h:decide (l.length=1)=true){p:Prop}(k:∀x e,xs=[x]->l=[e]->plainArg x=true->Gd cx D U Γ x (ev C e)->p):p:=by
 induction r with
 |nil=>injection h
 |cons a b r=>induction r with
  |nil=>exact k _ _ rfl rfl a b
  |cons=>exact absurd (of_decide_eq_true h) (fun q=>nomatch q)
theorem OB{b:Bi}{z:Expr}(H:Hyp cx F nm C D U) (r:GL cx C D U Γ xs l) (h:OA Γ b l.length=true):Gd cx D U Γ (U3 b xs z) (ev C (.bi b l)):=by
 induction b with
 |mq=>exact aP h fun h h3=>aP h fun h1 h2=>r.one h1 fun x e q1 q2 p g=>by subst q1 q2;exact .of fun K R=>SE.mq H.B H.KB (R.gl h2) (R.gl h3) (eZ p) (g K R).v
 |isStr=>exact aP h fun h h3=>aP h fun h1 h2=>r.one h1 fun x e q1 q2 p g=>by subst q1 q2;exact .of fun K R=>SE.isStr H.B H.KB (R.gl h2) (R.gl h3) (eZ p) (g K R).v
 |dZ=>exact aP h fun h h3=>aP h fun h1 h2=>r.one h1 fun x e q1 q2 p g=>by subst q1 q2;exact .of fun K R=>SE.dZ H.B R.hh (R.gl h2) (R.gl h3) (eZ p) (g K R).v
 |len=>exact mW H r h (fun _ _=>rfl) (.inl ⟨_,rfl⟩) rfl (by decide) (by decide)
 |max2=>exact mW H r h (fun _ _=>rfl) (.inl ⟨_,rfl⟩) rfl (by decide) (by decide)
 |qD=>exact mW H r h (fun _ _=>rfl) (.inl ⟨_,rfl⟩) rfl (by decide) (by decide)
 |abs=>exact mW H r h (fun _ _=>rfl) (.inl ⟨_,rfl⟩) rfl (by decide) (by decide)
 |chr=>exact mW H r h (fun _ _=>rfl) (.inl ⟨_,rfl⟩) rfl (by decide) (by decide)
 |list=>exact mW H r h (fun _ _=>rfl) (.inr ⟨_,rfl⟩) rfl (by decide) (by decide)
 |dict=>exact mW H r h (fun _ _=>rfl) (.inr ⟨_,rfl⟩) rfl (by decide) (by decide)
noncomputable def M1(cx:Cx) (nm:Nat->Option Str) (C:fy) (D U:Nat) (e:E):Prop:=∀Γ x,rM nm e Γ x=true->Gd cx D U Γ (eL e x) (ev C e)
noncomputable def M2(cx:Cx) (nm:Nat->Option Str) (C:fy) (D U:Nat) (l:List E):Prop:=∀Γ xs,U4 nm l Γ xs=true->GL cx C D U Γ (Ox l xs) l
structure GO(cx:Cx) (C:fy) (D U:Nat) (Γ:Cn) (x:Option Expr) (o:Option E):Prop where
 so:∀K,kM cx D U Γ K->SO cx K x (QH C o)
 st:∀K,kM cx D U Γ K->Fz cx K (oX x) (Bb C o)
noncomputable def M3(cx:Cx) (nm:Nat->Option Str) (C:fy) (D U:Nat) (o:Option E):Prop:=∀Γ x,SR nm o Γ x=true->GO cx C D U Γ (SQ o x) o
theorem gE(H:Hyp cx F nm C D U) (e:E):M1 cx nm C D U e:=E.rec (motive_1:=M1 cx nm C D U) (motive_2:=M2 cx nm C D U) (motive_3:=M3 cx nm C D U)
 (fun Γ x h=>.of fun K R=>F7) (fun b Γ x h=>.of fun K R=>F8) (fun i Γ x h=>.of fun K R=>JP) (fun s Γ x h=>.of fun K R=>JQ h)
 (fun i Γ x h=>.of fun K R=>aP h fun h h3=>aP h fun h1 h2=>JS (R.vs▸of_decide_eq_true h1) (BK h2) (BK h3))
 (fun i t Γ x h=>.of fun K R=>aP h fun h1 h2=>(of_decide_eq_true h1:i=1000000)▸F9 H.B (R.gl h2))
 (fun e f ih Γ x h=>.of fun K R=>aP h fun h h3=>aP h fun h1 h2=>SE.attr H.B (of_decide_eq_true h2) h3 (ih Γ _ h1 K R).v)
 (fun o a b ow yU Γ x h=>.of fun K R=>aP h fun h1 h2=>SE.bin (ow Γ _ h1 K R).v (yU Γ _ h2 K R).v)
 (fun a ih Γ x h K R=>.of (SE.neg (ih Γ _ h K R).v))
 (fun a ih Γ x h K R=>.not (ih Γ _ h K R))
 (fun o a b ow yU Γ x h K R=>aP h fun h h3=>aP h fun h1 h2=>.cmp H.B (R.units H) (BK h3) (ow Γ _ h1 K R).v (yU Γ _ h2 K R).v)
 (fun l ih Γ x h K R=>.bool ((ih Γ _ h).and R)) (fun l ih Γ x h K R=>.bool ((ih Γ _ h).or R))
 (fun c a b KO ow yU Γ x h K R=>aP h fun h h3=>aP h fun h1 h2=>.ite (KO Γ _ h1 K R).t (ow Γ _ h2 K R) (yU Γ _ h3 K R))
 (fun l ih Γ x h=>.of fun K R=>aP h fun h1 h2=>SE.list ((ih Γ _ h1).sa R) ((ih Γ _ h1).length▸of_decide_eq_true h2))
 (fun l ih Γ x h=>.of fun K R=>aP h fun h1 h2=>SE.tup ((ih Γ _ h1).sa R) ((ih Γ _ h1).length▸of_decide_eq_true h2))
 (fun ks l ih Γ x h=>aP h fun h h5=>aP h fun h h4=>aP h fun h h3=>aP h fun h1 h2=>G7 (ih Γ _ h1) (of_decide_eq_true h2) (of_decide_eq_true h3) (of_decide_eq_true h4) (of_decide_eq_true h5))
 (fun Γ x h=>.of fun K R=>SE.IM (nd:=.eW []) (o:=.dI []) rfl (fun h=>Heap.DictOf.new h) (.dI (kvs:=[]) (l:=[]) (Nat.zero_le _) rfl))
 (fun a i ow OC Γ x h=>.of fun K R=>aP h fun h h3=>aP h fun h1 h2=>SE.sub (nJ h3) (ow Γ _ h1 K R).v (OC Γ _ h2 K R).v)
 (fun a lo hi ow An SS Γ x h=>.of fun K R=>aP h fun h1 h=>aP h fun h3 h2=>SE.slice (ow Γ _ h1 K R).v ((An Γ _ h2).so K R) ((SS Γ _ h3).so K R))
 (fun f l ih Γ x h=>.of fun K R=>aP h fun h h3=>aP h fun h1 h2=>SE.call H.B (of_decide_eq_true h2) (R.gI h3).1 (R.gI h3).2 (H.O f _ (of_decide_eq_true h2)) (R.callee H f) ((ih Γ _ h1).sa R))
 (fun c f l ih Γ x h=>aP h fun h h4=>aP h fun h h3=>aP h fun h1 h2=>(of_decide_eq_true h3:f=fT c)▸.of fun K R=>KN H h2 h4 (ih Γ _ h1) K R)
 (fun f a ih Γ x h=>aP h fun h h4=>aP h fun h h3=>aP h fun h1 h2=>(of_decide_eq_true h2:f=3)▸.of fun K R=>SE.copy H.B h3 h4 H.O3 (R.callee H 3) (ih Γ _ h1 K R).v)
 (fun b l ih Γ x h=>aP h fun h1 h2=>OB H (ih Γ _ h1) h2)
 (fun m a l ow An Γ x h=>.of fun K R=>aP h fun h h5=>aP h fun h h4=>aP h fun h h3=>aP h fun h1 h2=>SE.b4 H.B h3 h4 ((An Γ _ h2).length▸of_decide_eq_true h5) (ow Γ _ h1 K R).v ((An Γ _ h2).sa R))
 (fun ix s c e DV KO DW Γ x h=>aP h fun h h5=>aP h fun h h4=>aP h fun h h3=>aP h fun h1 h2=>v8 H h4 h5 (fun K R=>.val (DV Γ _ h1 K R).v) (fun K R=>(KO _ _ h2).st K R) (DW _ _ h3))
 (fun ix s c e DV KO DW Γ x h=>aP h fun h h6=>aP h fun h h5=>aP h fun h h4=>aP h fun h h3=>aP h fun h1 h2=>v8 H h4 rfl (oW H h5 h6 (DV Γ _ h1)) (fun K R=>(KO _ _ h2).st K R) (DW _ _ h3))
 (fun _ _ _ _ _ _ _ _ _ h=>nomatch h)
 (fun p e q ih Γ x h=>.of fun K R=>aP h fun h h5=>aP h fun h h4=>aP h fun h h3=>aP h fun h1 h2=>SE.CI h2 h3 (of_decide_eq_true h4) (of_decide_eq_true h5) (ih Γ _ h1 K R).v)
 (fun e ih Γ x h=>aP h fun h h5=>aP h fun h h4=>aP h fun h h3=>aP h fun h1 h2=>G8 H h2 (of_decide_eq_true h3) h4 h5 (ih _ _ h1))
 (fun e ih Γ x h=>aP h fun h1 h2=>.of (fun K R=>(ih Γ x h1 K R).v.pure) fun K=>zB h2)
 (fun Γ xs h=>.nil) (fun e l DW An Γ xs h=>aP h fun h h3=>aP h fun h1 h2=>.cons h3 (DW Γ _ h1) (An Γ _ h2)) (fun Γ x h=>⟨fun K R=>.none,fun K R=>.nil⟩) (fun e ih Γ x h=>⟨fun K R=>.some (ih Γ _ h K R).v,fun K R=>.one (ih Γ _ h K R).t⟩) e
end
noncomputable def fW(x:Expr):Bool:=rL 8 x&&rL 9 x&&rL 10 x
theorem gV{v:Expr}{t:Option Expr}{n:Nat}{env:Env}(h:fW v=true):swapsWith v t n env=pure false:=by
 cases v<;>first| rfl|injection h
theorem zC{t v:Expr}{n:Nat}{env:Env}(h:fW v=true):swapsWithSole [t] v n env=pure false:=by unfold swapsWithSole;exact gV h
noncomputable def DX(x:Expr):Bool:=rL 25 x
theorem v9{env:Env}{a b:Expr}{z:Nat}{pt:Pos}{v:Expr}(h:DX v=true):swappedStores [.Tuple [a,b] z pt] v env=pure none:=by
 cases v<;>first| rfl|injection h
noncomputable def I3:Stmt->List Expr×List Stmt×List Stmt
 |.Assign ts v _=>(v::ts,[],[])
 |.Delete ts _=>(ts,[],[])
 |.Expr v _=>([v],[],[])
 |.If t a b _=>([t],a,b)
 |.For t it a _ _=>([t,it],a,[])
 |.Return v _=>(oX v,[],[])
 |.Raise v _ _=>(oX v,[],[])
 |_=>([],[],[])
noncomputable def SV(x:Stmt):List Expr:=(I3 x).1
noncomputable def wc(x:Stmt):List Stmt×List Stmt:=(I3 x).2
noncomputable def kS(i:Nat) (x:Stmt):Expr:=(SV x).getD i default
noncomputable def OD(x:Expr):Expr:=jm (d8 x) x
noncomputable def OE(a i x:Expr):Expr:=.Subscript a i x.pos
noncomputable def OF:S->Stmt->Stmt:=S.rec (motive_1:=fun _=>Stmt->Stmt) (motive_2:=fun _=>List Stmt->List Stmt)
 (fun _ e x=>.Assign [OD (kS 1 x)] (eL e (kS 0 x)) x.pos)
 (fun _ _ e x=>.Assign [.Tuple [OD (bY 0 (kS 1 x)),OD (bY 1 (kS 1 x))] (KJ (kS 1 x)) (kS 1 x).pos] (eL e (kS 0 x)) x.pos)
 (fun o f e x=>.Assign [G6 (eL o (bY 0 (kS 1 x))) (tx f) (kS 1 x)] (eL e (kS 0 x)) x.pos)
 (fun o i e x=>.Assign [OE (eL o (bY 0 (kS 1 x))) (eL i (bY 1 (kS 1 x))) (kS 1 x)] (eL e (kS 0 x)) x.pos)
 (fun o i x=>.Delete [OE (eL o (bY 0 (kS 0 x))) (eL i (bY 1 (kS 0 x))) (kS 0 x)] x.pos)
 (fun e x=>.Expr (eL e (kS 0 x)) x.pos)
 (fun c _ _ a b x=>.If (eL c (kS 0 x)) (a (wc x).1) (b (wc x).2) x.pos)
 (fun _ src _ b x=>.For (OD (kS 0 x)) (eL src (kS 1 x)) (b (wc x).1) [] x.pos)
 (fun _ src _ b x=>.For (OD (kS 0 x)) (kK (jm "range" (bY 0 (kS 1 x))) (Ox src (rest (kS 1 x))) (kS 1 x)) (b (wc x).1) [] x.pos)
 (fun e x=>.Return (some (eL e (kS 0 x))) x.pos) (fun x=>.Return none x.pos)
 (fun e x=>.Raise (some (kK (jm "Refusal" (bY 0 (kS 0 x))) [eL e (bY 1 (kS 0 x))] (kS 0 x))) none x.pos)
 (fun x=>.Continue x.pos) (fun x=>x) (fun _ _ s=>s) (fun _=>[]) (fun _ _ s l xs=>s (xs.headD default)::l (xs.drop 1))
noncomputable def zD(l:List S) (xs:List Stmt):List Stmt:=(wc (OF (.ifs .none l []) (.If default xs [] default))).1
noncomputable def MG(Γ:Cn) (y:Str) (i:Nat):Bool:=(Γ.kd y==some .local||Γ.kd y==some .cell)&&Γ.vs.all (fun p=>p.1 != y||p.2==i)&&Γ.vs.all (fun p=>p.2 != i||p.1==y)
noncomputable def QX(Γ:Cn) (scope:Scope) (y:Str) (py cp:Pos):Bool:=Γ.kd y==some .local&&py.line==cp.line&&!(scope.names.any fun(n,k)=>n==y&&(k==.local||k==.cell))
noncomputable def G9(nm:Nat->Option Str) (e:E) (Γ:Cn) (x:Expr) (y:Str) (py:Pos):Bool:=match e with
 |.comp _ _ _ _=>rM nm e Γ x
 |.cO _ _ _ _=>rM nm e Γ x
 |.pg ix src k v=>rM nm src Γ (bY 3 x)&&rM nm k (Γ.comp (fF x) (d8 (bY 2 x)) ix) (bY 0 x)&&rM nm v (Γ.comp (fF x) (d8 (bY 2 x)) ix) (bY 1 x)&&QX Γ (fF x) y py x.pos&&KL Γ (fF x) (d8 (bY 2 x))&&iN (eL src (bY 3 x))
 |_=>false
noncomputable def U5(nm:Nat->Option Str):S->Cn->Stmt->Bool:=S.rec (motive_1:=fun _=>Cn->Stmt->Bool) (motive_2:=fun _=>Cn->List Stmt->Bool)
 (fun i e Γ x=>MG Γ (d8 (kS 1 x)) i&&cond (fW (eL e (kS 0 x))) (rM nm e Γ (kS 0 x)) (G9 nm e Γ (kS 0 x) (d8 (kS 1 x)) (kS 1 x).pos))
 (fun i j e Γ x=>rM nm e Γ (kS 0 x)&&MG Γ (d8 (bY 0 (kS 1 x))) i&&MG Γ (d8 (bY 1 (kS 1 x))) j&&fW (eL e (kS 0 x))&&DX (eL e (kS 0 x)))
 (fun o f e Γ x=>rM nm o Γ (bY 0 (kS 1 x))&&rM nm e Γ (kS 0 x)&&fW (eL e (kS 0 x))&&decide (f∈fu))
 (fun o i e Γ x=>rM nm o Γ (bY 0 (kS 1 x))&&rM nm i Γ (bY 1 (kS 1 x))&&rM nm e Γ (kS 0 x)&&fW (eL e (kS 0 x)))
 (fun o i Γ x=>rM nm o Γ (bY 0 (kS 0 x))&&rM nm i Γ (bY 1 (kS 0 x)))
 (fun e Γ x=>rM nm e Γ (kS 0 x)&&fW (eL e (kS 0 x)))
 (fun c _ _ a b Γ x=>rM nm c Γ (kS 0 x)&&(b Γ (wc x).2&&a Γ (wc x).1))
 (fun i src _ b Γ x=>rM nm src Γ (kS 1 x)&&b Γ (wc x).1&&MG Γ (d8 (kS 0 x)) i&&iN (eL src (kS 1 x)))
 (fun i src _ b Γ x=>U4 nm src Γ (rest (kS 1 x))&&b Γ (wc x).1&&MG Γ (d8 (kS 0 x)) i&&decide (0<src.length)&&gl Γ "range")
 (fun e Γ x=>rM nm e Γ (kS 0 x)) (fun _ _=>true) (fun e Γ x=>rM nm e Γ (bY 1 (kS 0 x))&&gl Γ "Refusal" && plainArg (eL e (bY 1 (kS 0 x)))) (fun _ _=>true) (fun _ _=>true) (fun _ _ s=>s)
 (fun _ _=>true) (fun _ _ a l Γ xs=>a Γ (xs.headD default)&&l Γ (xs.drop 1))
noncomputable def SW(nm:Nat->Option Str) (l:List S) (Γ:Cn) (xs:List Stmt):Bool:=U5 nm (.ifs .none l []) Γ (.If default xs [] default)
section
variable {cx:Cx}{F:Frag}{nm:Nat->Option Str}{C:fy}{D U:Nat}{Γ:Cn}{K:Kx}{x v:Expr}{y:Str}{scope:Scope}{ix i:Nat}{k:Kv}{py pos:Pos}
theorem kO(R:kM cx D U Γ K) (h:MG Γ y i=true):fS K y i:=aP h fun h h3=>aP h fun h1 h2=>by
 simp only[Bool.or_eq_true,beq_iff_eq,bne_iff_ne,List.all_eq_true] at h1 h2 h3
 exact⟨R.kd y▸h1,fun j m=>(h2 _ (R.vs▸m)).resolve_left fun q=>q rfl,fun z m=>(h3 _ (R.vs▸m)).resolve_left fun q=>q rfl⟩
theorem rN{elt:Expr}{gens:List Comprehension}{cp:Pos}{n:Nat}(R:kM cx D U Γ K):swapsWith (.ListComp elt gens scope cp) (some (.Name y py)) n K.env=pure (QX Γ scope y py cp):=by
 show(pure (K.env.blockKind==.function&&K.env.kindOf y==some .local&&py.line==(Expr.ListComp elt gens scope cp).pos.line&&!(scope.names.any fun(n,k)=>n==y&&(k==.local||k==.cell))):Sem Bool)=_
 have hb:K.env.blockKind=.function:=by unfold Env.blockKind;rw[R.fn];rfl
 rw[hb,R.kd]
 rfl
theorem zE{kx vx:Expr}{gens:List Comprehension}{cp:Pos}{n:Nat}(R:kM cx D U Γ K):swapsWith (.DictComp kx vx gens scope cp) (some (.Name y py)) n K.env=pure (QX Γ scope y py cp):=by
 show(pure (K.env.blockKind==.function&&K.env.kindOf y==some .local&&py.line==(Expr.DictComp kx vx gens scope cp).pos.line&&!(scope.names.any fun(n,k)=>n==y&&(k==.local||k==.cell))):Sem Bool)=_
 have hb:K.env.blockKind=.function:=by unfold Env.blockKind;rw[R.fn];rfl
 rw[hb,R.kd]
 rfl
theorem mX(H:Hyp cx F nm C D U):∀l,M2 cx nm C D U l
 |[]=>fun Γ xs h=>.nil
 |e::l=>fun Γ xs h=>aP h fun h h3=>aP h fun h1 h2=>.cons h3 (gE H e Γ _ h1) (mX H l Γ _ h2)
theorem rO(H:Hyp cx F nm C D U):∀o,M3 cx nm C D U o
 |none=>fun Γ x h=>⟨fun K R=>.none,fun K R=>.nil⟩
 |some e=>fun Γ x h=>⟨fun K R=>.some (gE H e Γ _ h K R).v,fun K R=>.one (gE H e Γ _ h K R).t⟩
theorem rP{elt:Expr}{z:Str}{px cp:Pos}{iter:Expr}{c:Option E}{src:Gm->aB->R (List PV)}{e:E}{o:Option Expr}(H:Hyp cx F nm C D U) (R:kM cx D U Γ K) (V:fS K y i) (hc:KL Γ scope z=true) (hi:iN iter=true) (h1:∀K,kM cx D U Γ K->Src cx K iter src)
  (ht:∀K,kM cx D U (Γ.comp scope z ix) K->Fz cx K (oX o) (Bb C c)) (he:Gd cx D U (Γ.comp scope z ix) elt (ev C e)):jK cx K (.Assign [.Name y py] (.ListComp elt [⟨.Name z px,iter,oX o,0⟩] scope cp) pos) (iA i (qI src (ju ix (Bb C c) (ev C e)))):=by
 cases U6:QX Γ scope y py cp with
 |false=>exact .assign ((rN R).trans (congrArg pure U6)) V (v8 H hc hi h1 ht he K R).v
 |true=>exact .zo H.B R.hh (oU R hc) (fV hi) ((rN R).trans (congrArg pure U6)) V (h1 K R) (fun A=>ht _ (R.comp hc)) fun A=>(he _ (R.comp hc)).v
inductive we:E->Prop
 |comp (ix:Nat) (s:E) (c:Option E) (e:E):we (.comp ix s c e)
 |cO (ix:Nat) (s:List E) (c:Option E) (e:E):we (.cO ix s c e)
 |pg (ix:Nat) (s k v:E):we (.pg ix s k v)
theorem BL{e:E}(h:G9 nm e Γ x y py=true):we e:=by
 cases e with
 |comp=>exact .comp ..
 |cO=>exact .cO ..
 |pg=>exact .pg ..
 |_=>exact absurd h Bool.false_ne_true
theorem DY(H:Hyp cx F nm C D U) (R:kM cx D U Γ K) (V:fS K y i) (e:E) (h:G9 nm e Γ x y py=true):jK cx K (.Assign [.Name y py] (eL e x) pos) (iA i (ev C e)):=by
 have E1:=gE H
 induction BL h with
 |comp ix s c e=>exact aP h fun h h5=>aP h fun h h4=>aP h fun h h3=>aP h fun h1 h2=>rP H R V h4 h5 (fun K R=>.val (E1 s Γ _ h1 K R).v) (fun K R=>(rO H c _ _ h2).st K R) (E1 e _ _ h3)
 |cO ix s c e=>exact aP h fun h h6=>aP h fun h h5=>aP h fun h h4=>aP h fun h h3=>aP h fun h1 h2=>rP H R V h4 rfl (oW H h5 h6 (mX H s Γ _ h1)) (fun K R=>(rO H c _ _ h2).st K R) (E1 e _ _ h3)
 |pg ix s k v=>exact aP h fun h h6=>aP h fun h h5=>aP h fun h h4=>aP h fun h h3=>aP h fun h1 h2=>jK.xO H.B R.hh (oU R h5) (fV h6) ((zE R).trans (congrArg pure h4)) V (.val (E1 s Γ _ h1 K R).v) (fun A=>(E1 k _ _ h2 _ (R.comp h5)).v) fun A=>(E1 v _ _ h3 _ (R.comp h5)).v
theorem BN(H:Hyp cx F nm C D U) (R:kM cx D U Γ K) (V:fS K y i) (e:E) (h:cond (fW (eL e x)) (rM nm e Γ x) (G9 nm e Γ x y py)=true):jK cx K (.Assign [.Name y py] (eL e x) pos) (iA i (ev C e)):=by
 induction hp:fW (eL e x) with
 |true=>rw[hp] at h;exact .assign (gV hp) V (gE H e Γ x h K R).v
 |false=>rw[hp] at h;exact DY H R V e h
noncomputable def N1(cx:Cx) (nm:Nat->Option Str) (C:fy) (D U:Nat) (s:S):Prop:=∀Γ x,U5 nm s Γ x=true->∀K,kM cx D U Γ K->jK cx K (OF s x) (ex C s)
noncomputable def N2(cx:Cx) (nm:Nat->Option Str) (C:fy) (D U:Nat) (l:List S):Prop:=∀Γ xs,SW nm l Γ xs=true->∀K,kM cx D U Γ K->sZ cx K (zD l xs) (bO C l)
theorem zF(H:Hyp cx F nm C D U) (l:List S):N2 cx nm C D U l :=
 have E1:=gE H
 S.rec_1 (motive_1:=N1 cx nm C D U) (motive_2:=N2 cx nm C D U)
 (fun i e Γ x h K R=>aP h fun h1 h2=>BN H R (kO R h1) e h2)
 (fun i j e Γ x h K R=>aP h fun h h5=>aP h fun h h4=>aP h fun h h3=>aP h fun h1 h2=>.qh R.hh (zC h4) (v9 h5) (kO R h2) (kO R h3) (E1 e Γ _ h1 K R).v)
 (fun o f e Γ x h K R=>aP h fun h h4=>aP h fun h h3=>aP h fun h1 h2=>.setattr H.B (of_decide_eq_true h4) (gV h3) (E1 o Γ _ h1 K R).v (E1 e Γ _ h2 K R).v)
 (fun o i e Γ x h K R=>aP h fun h h4=>aP h fun h h3=>aP h fun h1 h2=>.dP (gV h4) (E1 o Γ _ h1 K R).v (E1 i Γ _ h2 K R).v (E1 e Γ _ h3 K R).v)
 (fun o i Γ x h K R=>aP h fun h1 h2=>.qi (E1 o Γ _ h1 K R).v (E1 i Γ _ h2 K R).v)
 (fun e Γ x h K R=>aP h fun h1 h2=>.expr (show interactive K.env=false by unfold interactive;rw[R.fn];rfl) (gV h2) (E1 e Γ _ h1 K R).v)
 (fun c a b ow yU Γ x h K R=>aP h fun h1 h=>aP h fun h3 h2=>.ifs (E1 c Γ _ h1 K R).t (ow Γ _ h2 K R) (yU Γ _ h3 K R))
 (fun i s b ih Γ x h K R=>aP h fun h h4=>aP h fun h h3=>aP h fun h1 h2=>.for H.B R.hh (fV h4) (kO R h3) (.val (E1 s Γ _ h1 K R).v) (ih Γ _ h2 K R))
 (fun i s b ih Γ x h K R=>aP h fun h h5=>aP h fun h h4=>aP h fun h h3=>aP h fun h1 h2=>.for H.B R.hh (fV rfl) (kO R h3) (oW H h4 h5 (mX H s Γ _ h1) K R) (ih Γ _ h2 K R))
 (fun e Γ x h K R=>.ret (E1 e Γ _ h K R).v) (fun Γ x h K R=>.FP)
 (fun e Γ x h K R=>aP h fun h h3=>aP h fun h1 h2=>.raise H.B H.RO R.hh (Nat.lt_of_le_of_lt (Nat.add_le_add (le_if R.d) (by decide:1<=6)) H.hD) (R.gl h2) (eZ h3) (E1 e Γ _ h1 K R).v)
 (fun Γ x h K R=>.cont) (fun Γ x h K R=>.bad) (fun _ _ ih Γ x h K R=>(ih Γ x h K R).cut)
 (fun Γ xs h K R=>.nil) (fun s l DV An Γ xs h K R=>aP h fun h1 h2=>.cons (DV Γ _ h1 K R) (An Γ _ h2 K R)) l
end
structure OG(cx:Cx) (F:Frag) (nm:Nat->Option Str) (T:Nat->Fn):Prop where
 B:Base cx nm
 KB:Cy cx F
 RO:pP cx
 O:∀f x,nm f=some x->gU cx.h₀ (cx.fA f) (cx.fd f)
 O3:gU cx.h₀ (cx.fA 3) (cx.fd 3)
 LO:uf cx
 kept:∃Fd,rK cx Fd
 fns:∀f,(∃ps ds vs body,FnAt cx f (T f) ps ds vs body/\zD (T f).body body=body/\SW nm (T f).body ⟨fun y=>(cx.fd f).scope.names.lookup y,vs,decide (f=83)⟩ body=true)\/∀C as st,fB C (T f) as st=none
theorem Ao{D k n m r L:Nat}(h:D+m*(k+1)+r<L) (hn:n<=m):D+m+r<L/\D+m+m*k+r<L/\D+n<L:=by
 rw[Nat.mul_succ,Nat.add_comm (m*k) m,<-Nat.add_assoc] at h
 have h2:D+m+r<L:=Nat.lt_of_le_of_lt (Nat.add_le_add_right (Nat.le_add_right _ _) r) h
 exact⟨h2,h,Nat.lt_of_le_of_lt (Nat.le_trans (Nat.add_le_add_left hn D) (Nat.le_add_right _ r)) h2⟩
theorem walk{cx:Cx}{F:Frag}{nm:Nat->Option Str}{T:Nat->Fn}(S:OG cx F nm T) (k:Nat):∀(D U:Nat),D+4*k+8<recursionLimit->U+16*k+40<cLine->∀(f:Nat) (A:Around) (l:List Env),A.frames=some l->A.handled=none->A.depth<=D+3->A.units<=U+12->Callee cx A l (call T k) f:=by
 induction k with
 |zero=>exact fun D U _ _ f A l _ _ _ _ w us sS I fr ar Q E T=>T.no
 |succ k ih =>
  intro D U hD hU f A l h1 h2 h3 h4
  rcases S.fns f with⟨ps,ds,vs,body,X,hd,hc⟩|hn
  ·have Mw:=Ao hD (by decide:3<=4);have d1:=Mw.1;have d2:=Mw.2.1;have d3:=Mw.2.2
   have NX:=Ao hU (Nat.zero_le 16);have u1:=NX.1;have u2:=NX.2.1
   have H:Hyp cx F nm (call T k) (D+4) (U+16):=⟨S.B,S.KB,S.RO,S.O,S.O3,S.LO,S.kept,ih _ _ d2 u2,d1,u1⟩
   have hb:BodyOk cx A l (call T k) f (T f) vs body:=fun L=>by
    have z:=zF H (T f).body _ body hc (pN cx A l f vs L) ⟨X.kind,fun y=>rfl,rfl,fun hl=>?_,Around.frames_deeper h1,h2,Nat.le_trans (Nat.add_le_add_right h3 1) (Nat.le_add_right _ _),Nat.le_trans (Nat.add_le_add_right h4 3) (Nat.le_trans (Nat.add_le_add_left (by decide:15<=16) U) (Nat.le_add_right _ _))⟩
    ·rw[hd] at z;exact z
    ·obtain rfl:=of_decide_eq_true hl
     exact⟨rfl,S.LO.q.symm⟩
   exact fun w us sS I fr ar Q E T'=>zv X (Nat.lt_of_le_of_lt h3 d3) h1 hb I fr ar T'
  ·exact fun w us sS I fr ar Q E T'=>absurd (hn _ _ _) T'.ne
end Mine
namespace Mine
open PySem
noncomputable def bq:Tx:=[78,85,76,76]
noncomputable def aj:Tx:=[107,105,110,100]
noncomputable def az:Tx:=[97,116,116,114,115]
noncomputable def bF:Tx:=[109,105,115,115,105,110,103]
noncomputable def ai:Tx:=[105,116,101,109,115]
noncomputable def kP:Tx:=[115,104,97,114,101,100]
noncomputable def aX:Tx:=[108,111,111,115,101]
noncomputable def cU:Tx:=[115,121,109,98,111,108]
noncomputable def iw:Tx:=[110,97,109,101]
noncomputable def aI:Tx:=[108,97,110,103,117,97,103,101]
noncomputable def b6:Tx:=[116,97,103,115]
noncomputable def jM:Tx:=[99,111,100,101]
noncomputable def wg:Tx:=[77,79,83,84,95,76,69,78,71,84,72]
noncomputable def aa:Tx:=[105,110,116,101,103,101,114]
noncomputable def ao:Tx:=[99,104,97,114,97,99,116,101,114]
noncomputable def bG:Tx:=[110,97,109,101,115]
noncomputable def mG:Tx:=[101,110,118,105,114,111,110,109,101,110,116]
noncomputable def dX:Tx:=[100,105,109]
noncomputable def bP:Tx:=[100,105,109,110,97,109,101,115]
noncomputable def bZ:Tx:=[99,97,110,39,116,32,109,105,120,32,78,65,115,32,119,105,116,104,32,110,101,103,97,116,105,118,101,32,115,117,98,115,99,114,105,112,116,115]
noncomputable def b3:Tx:=[99,97,110,39,116,32,109,105,120,32,112,111,115,105,116,105,118,101,32,97,110,100,32,110,101,103,97,116,105,118,101,32,115,117,98,115,99,114,105,112,116,115]
noncomputable def bw:Tx:=[108,111,103,105,99,97,108]
noncomputable def aY:Tx:=[100,111,117,98,108,101]
noncomputable def fX:Tx:=[105,110,118,97,108,105,100,32,115,117,98,115,99,114,105,112,116,32,116,121,112,101,32,39]
noncomputable def t_:Tx:=[39]
noncomputable def aE:Tx:=[108,105,115,116]
noncomputable def cJ:Tx:=[101,120,112,114,101,115,115,105,111,110]
noncomputable def bH:Tx:=[112,97,105,114,108,105,115,116]
noncomputable def eN:Tx:=[60,78,65,62]
noncomputable def bQ:Tx:=[115,117,98,115,99,114,105,112,116,32,111,117,116,32,111,102,32,98,111,117,110,100,115]
noncomputable def pQ:Tx:=[97]
noncomputable def pR:Tx:=[98]
noncomputable def jN:Tx:=[97,98]
noncomputable def jz:Tx:=[97,98,99]
noncomputable def BO:Tx:=[99]
noncomputable def e7:Tx:=[105,110,118,97,108,105,100,32,115,117,98,115,99,114,105,112,116,32,116,121,112,101,32,39,108,105,115,116,39]
noncomputable def SY:Tx:=[102]
noncomputable def S0:Tx:=[120]
noncomputable def QY:Tx:=[119]
noncomputable def QZ:Tx:=[121]
noncomputable def OH:Tx:=[122]
noncomputable def iy:Tx:=[117,110,105,116]
noncomputable def MH:Tx:=[109]
noncomputable def f0:Fn:=⟨1,[],0,true,true,[.setattr (.var 0) aj (.str bq),.setattr (.var 0) az .none]⟩
noncomputable def f1:Fn:=⟨1,[],0,true,true,[.setattr (.var 0) aj (.str bF),.setattr (.var 0) az .none]⟩
noncomputable def f2:Fn:=⟨4,[.none],0,true,true,[.setattr (.var 0) aj (.var 1),.setattr (.var 0) ai (.var 2),.setattr (.var 0) az (.var 3),.setattr (.var 0) kP (.bool false),.setattr (.var 0) aX (.bool false)]⟩
noncomputable def f3:Fn:=⟨1,[],1,true,true,[.assign 1 .none,.ifs (.cmp .eg (.attr (.var 0) az) .none) [.assign 1 (.bi .dict [(.attr (.var 0) az)])] [],.ret (.new .aJ 2 [(.attr (.var 0) aj),(.bi .list [(.attr (.var 0) ai)]),(.var 1)])]⟩
noncomputable def f4:Fn:=⟨2,[],0,true,true,[.setattr (.var 0) aj (.str cU),.setattr (.var 0) iw (.var 1),.setattr (.var 0) az .none]⟩
noncomputable def f5:Fn:=⟨4,[.none],0,true,true,[.setattr (.var 0) aj (.str aI),.setattr (.var 0) ai (.var 1),.setattr (.var 0) b6 (.var 2),.setattr (.var 0) az (.var 3),.setattr (.var 0) jM .none]⟩
noncomputable def f6:Fn:=⟨1,[],0,false,false,[.ifs (.cmp .gt (.var 0) (.glob 1000000 wg)) [.bad] [],.ret (.var 0)]⟩
noncomputable def f7:Fn:=⟨1,[],0,false,false,[.ret (.new .aJ 2 [(.str aa),(.bi .list [(.var 0)])])]⟩
noncomputable def f8:Fn:=⟨1,[],0,false,false,[.ret (.new .aJ 2 [(.str ao),(.bi .list [(.var 0)])])]⟩
noncomputable def f9:Fn:=⟨2,[],0,true,true,[.ifs (.cmp .eg (.var 1) .none) [.setattr (.var 0) az (.dz [bG] [(.call 8 [(.var 1)])])] [],.ret (.var 0)]⟩
noncomputable def WQ:Fn:=⟨1,[],0,false,false,[.ret (.bi .mq [(.var 0)])]⟩
noncomputable def WR:Fn:=⟨1,[],0,true,true,[.ifs (.attr (.var 0) aX) [.bad] [],.ret (.copy 3 (.var 0))]⟩
noncomputable def WS:Fn:=⟨1,[],0,false,false,[.ifs (.bi .mq [(.var 0)]) [.setattr (.var 0) kP (.bool true)] [],.ret (.var 0)]⟩
noncomputable def WT:Fn:=⟨2,[],0,true,true,[.ifs (.cmp .is (.attr (.var 0) az) .none) [.ret .none] [],.ret (.b4 .xe (.attr (.var 0) az) [(.var 1)])]⟩
noncomputable def WU:Fn:=⟨2,[],0,true,true,[.ifs (.and [(.cmp .eg (.attr (.var 0) az) .none),(.cmp .oq (.var 1) (.attr (.var 0) az))]) [.qi (.attr (.var 0) az) (.var 1),.ifs (.cmp .eq (.bi .len [(.attr (.var 0) az)]) (.int 0)) [.bad] []] []]⟩
noncomputable def WV:Fn:=⟨3,[],0,true,true,[.ifs (.cmp .is (.attr (.var 0) az) .none) [.setattr (.var 0) az (.dz [] [])] [],.dP (.attr (.var 0) az) (.var 1) (.call 12 [(.var 2)])]⟩
noncomputable def WW:Fn:=⟨1,[],3,true,true,[.ifs (.cmp .eq (.attr (.var 0) aj) (.str aI)) [.bad,.bad] [],.ifs (.cmp .eq (.attr (.var 0) aj) (.str mG)) [.bad] [],.assign 1 (.call 17 [(.var 0)]),.ifs (.and [(.cmp .eg (.var 1) .none),(.cmp .eq (.bi .len [(.var 1)]) (.int 1))]) [.assign 2 (.call 18 [(.var 0)]),.ret (.ite (.cmp .is (.var 2) .none) .none (.sub (.var 2) (.int 0)))] [],.assign 3 (.call 13 [(.var 0),(.str bG)]),.ifs (.cmp .is (.var 3) .none) [.ret .none] [],.ret (.bi .list [(.attr (.var 3) ai)])]⟩
noncomputable def WX:Fn:=⟨1,[],1,true,true,[.assign 1 (.call 13 [(.var 0),(.str dX)]),.ifs (.cmp .is (.var 1) .none) [.ret .none] [],.ret (.bi .list [(.attr (.var 1) ai)])]⟩
noncomputable def WY:Fn:=⟨1,[],2,true,true,[.assign 1 (.call 13 [(.var 0),(.str bP)]),.ifs (.cmp .is (.var 1) .none) [.ret .none] [],.ret (.comp 2 (.attr (.var 1) ai) none (.ite (.cmp .eq (.attr (.var 2) aj) (.str bq)) .none (.bi .list [(.attr (.var 2) ai)])))]⟩
noncomputable def WZ:Fn:=⟨1,[],0,false,false,[.ret (.and [(.cmp .eg (.var 0) .none),(.cmp .gt (.sub (.var 0) (.int 1)) (.int 0))])]⟩
noncomputable def W0:Fn:=⟨1,[],1,false,false,[.ifs (.not (.call 19 [(.var 0)])) [.bad] [],.assign 1 (.bin .fdiv (.bi .abs [(.sub (.var 0) (.int 0))]) (.sub (.var 0) (.int 1))),.ret (.ite (.cmp .ge (.sub (.var 0) (.int 0)) (.int 0)) (.var 1) (.bin .sub (.int 0) (.var 1)))]⟩
noncomputable def W1:Fn:=⟨1,[],2,false,false,[.ifs (.cmp .eq (.attr (.var 0) aj) (.str aa)) [.ret (.attr (.var 0) ai)] [],.assign 1 (.list []),.gp 2 (.attr (.var 0) ai) [.ifs (.or [(.cmp .is (.var 2) .none),(.cmp .eq (.sub (.var 2) (.int 1)) (.int 0))]) [.expr (.b4 .append (.var 1) [.none])] [.expr (.b4 .append (.var 1) [(.call 20 [(.var 2)])])]],.ret (.var 1)]⟩
noncomputable def W2:Fn:=⟨2,[],4,false,false,[.assign 2 (.bi .len [(.var 0)]),.ifs (.cmp .eq (.var 2) (.int 0)) [.ret (.list [])] [],.assign 3 (.list []),.forR 4 [(.bi .max2 [(.var 1),(.var 2)])] [.assign 5 (.sub (.var 0) (.bin .mod (.var 4) (.var 2))),.ifs (.cmp .is (.var 5) .none) [.expr (.b4 .append (.var 3) [.none])] [.ifs (.cmp .ne (.var 5) (.int 0)) [.expr (.b4 .append (.var 3) [(.var 4)])] []]],.ret (.var 3)]⟩
noncomputable def W4:Fn:=⟨2,[],5,false,false,[.assign 2 (.list []),.assign 3 .CH,.assign 4 (.bool false),.gp 5 (.var 0) [.ifs (.cmp .is (.var 5) .none) [.assign 4 (.bool true),.expr (.b4 .append (.var 2) [.none])] [.ifs (.cmp .gt (.var 5) (.int 0)) [.expr (.b4 .append (.var 2) [(.bin .sub (.var 5) (.int 1))])] [.ifs (.cmp .lt (.var 5) (.int 0)) [.dP (.var 3) (.bin .sub (.neg (.var 5)) (.int 1)) (.bool true)] []]]],.ifs (.cmp .eq (.bi .len [(.var 3)]) (.int 0)) [.ret (.var 2)] [],.ifs (.var 4) [.raise (.str bZ)] [],.ifs (.cmp .gt (.bi .len [(.var 2)]) (.int 0)) [.raise (.str b3)] [],.ret (.cO 6 [(.var 1)] (some (.cmp .sQ (.var 6) (.var 3))) (.var 6))]⟩
noncomputable def W5:Fn:=⟨1,[],3,false,false,[.assign 1 (.dz [] []),.ifs (.cmp .eg (.var 0) .none) [.forR 2 [(.bi .len [(.var 0)])] [.assign 3 (.sub (.var 0) (.var 2)),.ifs (.and [(.cmp .eg (.var 3) .none),(.cmp .ne (.var 3) (.str [])),(.cmp .sQ (.var 3) (.var 1))]) [.dP (.var 1) (.var 3) (.var 2)] []]] [],.ret (.var 1)]⟩
noncomputable def W6:Fn:=⟨2,[],3,false,false,[.assign 2 (.call 24 [(.var 1)]),.assign 3 (.list []),.gp 4 (.var 0) [.ifs (.and [(.cmp .eg (.var 4) .none),(.cmp .oq (.var 4) (.var 2))]) [.expr (.b4 .append (.var 3) [(.sub (.var 2) (.var 4))])] [.expr (.b4 .append (.var 3) [.none])]],.ret (.var 3)]⟩
noncomputable def W7:Fn:=⟨4,[],1,false,false,[.assign 4 (.attr (.var 0) aj),.ifs (.cmp .eq (.var 4) (.str bF)) [.bad] [],.ifs (.cmp .eq (.var 4) (.str bq)) [.ret (.tup [(.list []),.none])] [],.ifs (.cmp .eq (.var 4) (.str bw)) [.ret (.tup [(.call 22 [(.attr (.var 0) ai),(.var 1)]),.none])] [],.ifs (.or [(.cmp .eq (.var 4) (.str aa)),(.cmp .eq (.var 4) (.str aY))]) [.ret (.tup [(.call 23 [(.call 21 [(.var 0)]),(.var 1)]),.none])] [],.ifs (.cmp .eq (.var 4) (.str ao)) [.ifs (.var 3) [.bad] [],.ret (.tup [(.call 25 [(.attr (.var 0) ai),(.var 2)]),.none])] [],.raise (.CI fX (.var 4) t_)]⟩
noncomputable def W8:Fn:=⟨3,[],0,false,false,[.ifs (.cmp .is (.var 0) .none) [.bad] [],.ifs (.not (.var 2)) [.bad] [],.ret (.b4 .qE (.call 24 [(.var 1)]) [(.var 0),(.neg (.int 1))])]⟩
noncomputable def W9:Fn:=⟨2,[],0,false,false,[.ifs (.cmp .is (.var 0) .none) [.bad] [],.ifs (.cmp .gt (.var 0) (.int 0)) [.ret (.bin .sub (.var 0) (.int 1))] [],.bad,.bad,.bad,.bad,.bad]⟩
noncomputable def Xa:Fn:=⟨4,[],1,false,false,[.assign 4 (.attr (.var 0) aj),.ifs (.cmp .eq (.var 4) (.str cU)) [.bad] [],.ifs (.cmp .sQ (.var 4) (.tup [(.str bw),(.str aa),(.str aY),(.str ao)])) [.bad,.bad] [],.ifs (.cmp .eq (.bi .len [(.attr (.var 0) ai)]) (.int 0)) [.bad] [],.ifs (.cmp .gt (.bi .len [(.attr (.var 0) ai)]) (.int 1)) [.bad] [],.ifs (.cmp .eq (.var 4) (.str ao)) [.ret (.call 27 [(.sub (.attr (.var 0) ai) (.int 0)),(.var 2),(.var 3)])] [],.ifs (.cmp .eq (.var 4) (.str bw)) [.bad] [],.ret (.call 28 [(.sub (.call 21 [(.var 0)]) (.int 0)),(.var 1)])]⟩
noncomputable def Xb:Fn:=⟨2,[],1,false,false,[.ifs (.or [(.cmp .is (.var 1) .none),(.cmp .sQ (.attr (.var 0) aj) (.tup [(.str aa),(.str aY),(.str ao)]))]) [.ret (.bool false)] [],.assign 2 (.call 17 [(.var 0)]),.ret (.and [(.cmp .eg (.var 2) .none),(.cmp .eq (.bi .len [(.var 2)]) (.int 2)),(.cmp .eq (.sub (.var 2) (.int 1)) (.bi .len [(.var 1)]))])]⟩
noncomputable def Xc:Fn:=⟨3,[.none],0,false,false,[.ifs (.not (.call 30 [(.var 0),(.var 1)])) [.ret .none] [],.bad,.bad,.bad,.bad,.bad]⟩
noncomputable def Xd:Fn:=⟨1,[],0,false,false,[.ifs (.cmp .oq (.var 0) (.tup [(.str aE),(.str cJ),(.str bH)])) [.ret (.new .null 0 [])] [],.ret .none]⟩
noncomputable def Xe:Fn:=⟨1,[],0,false,false,[.ret (.cmp .oq (.var 0) (.tup [(.str aE),(.str cJ),(.str bH)]))]⟩
noncomputable def Xf:Fn:=⟨1,[],0,false,false,[.ifs (.cmp .eq (.var 0) (.str bH)) [.ret (.str aE)] [],.ret (.var 0)]⟩
noncomputable def Xg:Fn:=⟨2,[],3,false,false,[.assign 2 (.list []),.assign 3 (.bi .len [(.attr (.var 0) ai)]),.gp 4 (.var 1) [.ifs (.or [(.cmp .is (.var 4) .none),(.cmp .ge (.var 4) (.var 3))]) [.expr (.b4 .append (.var 2) [(.call 32 [(.attr (.var 0) aj)])])] [.expr (.b4 .append (.var 2) [(.sub (.attr (.var 0) ai) (.var 4))])]],.ret (.var 2)]⟩
noncomputable def Xh:Fn:=⟨2,[],2,false,false,[.assign 2 (.list []),.gp 3 (.var 1) [.ifs (.or [(.cmp .is (.var 3) .none),(.cmp .ge (.var 3) (.bi .len [(.var 0)]))]) [.expr (.b4 .append (.var 2) [(.str eN)])] [.expr (.b4 .append (.var 2) [(.sub (.var 0) (.var 3))])]],.ret (.var 2)]⟩
noncomputable def Xi:Fn:=⟨2,[],3,true,true,[.assign 2 (.call 16 [(.var 0)]),.assign 3 (.sub (.call 26 [(.var 1),(.bi .len [(.attr (.var 0) ai)]),(.var 2),(.bool false)]) (.int 0)),.assign 4 (.new .aJ 2 [(.call 34 [(.attr (.var 0) aj)]),(.call 35 [(.var 0),(.var 3)])]),.ifs (.cmp .eg (.var 2) .none) [.expr (.call 9 [(.var 4),(.call 36 [(.var 2),(.var 3)])])] [],.ret (.var 4)]⟩
noncomputable def Xj:Fn:=⟨1,[],1,false,false,[.assign 1 (.call 13 [(.var 0),(.str bP)]),.ifs (.cmp .is (.var 1) .none) [.ret .none] [],.ret (.call 16 [(.var 1)])]⟩
noncomputable def Xk:Fn:=⟨2,[],3,false,false,[.assign 2 (.bool false),.assign 3 (.list []),.gp 4 (.var 0) [.ifs (.cmp .is (.var 4) .none) [.bad] [.assign 2 (.bool true),.expr (.b4 .append (.var 3) [(.call 12 [(.call 8 [(.var 4)])])])]],.ifs (.not (.var 2)) [.bad] [],.ret (.call 9 [(.new .aJ 2 [(.str aE),(.var 3)]),(.var 1)])]⟩
noncomputable def Xl:Fn:=⟨4,[],1,true,true,[.setattr (.var 0) az (.dz [dX] [(.call 7 [(.var 1)])]),.ifs (.cmp .eg (.var 2) .none) [.assign 4 (.call 39 [(.var 2),(.var 3)]),.ifs (.cmp .eg (.var 4) .none) [.dP (.attr (.var 0) az) (.str bP) (.var 4)] []] []]⟩
noncomputable def Xm:Fn:=⟨3,[],3,true,true,[.assign 3 (.call 37 [(.var 0),(.var 1)]),.ifs (.and [(.var 2),(.cmp .eq (.bi .len [(.attr (.var 3) ai)]) (.int 1))]) [.ret (.var 3)] [],.assign 4 (.call 16 [(.var 3)]),.assign 5 .none,.ifs (.cmp .eg (.var 4) .none) [.assign 5 (.list [(.var 4)])] [],.expr (.call 40 [(.var 3),(.list [(.bi .len [(.attr (.var 3) ai)])]),(.var 5),(.call 38 [(.var 0)])]),.ret (.var 3)]⟩
noncomputable def Xn:Fn:=⟨2,[],6,false,false,[.ifs (.cmp .ne (.bi .len [(.var 1)]) (.int 1)) [.bad] [],.assign 2 (.new .aJ 2 [(.str aE),(.bi .list [(.attr (.var 0) ai)])]),.assign 4 (.comp 3 (.attr (.var 0) b6) none (.ite (.cmp .eg (.var 3) .none) (.var 3) (.str []))),.assign 5 (.sub (.call 26 [(.sub (.var 1) (.int 0)),(.bi .len [(.attr (.var 2) ai)]),(.var 4),(.bool false)]) (.int 0)),.ifs (.cmp .eq (.bi .len [(.var 5)]) (.int 0)) [.ret (.new .null 0 [])] [],.assign 6 (.list []),.gp 7 (.var 5) [.ifs (.or [(.cmp .is (.var 7) .none),(.cmp .ge (.var 7) (.bi .len [(.attr (.var 0) b6)])),(.cmp .eq (.sub (.attr (.var 0) b6) (.var 7)) (.str []))]) [.expr (.b4 .append (.var 6) [.none])] [.expr (.b4 .append (.var 6) [(.sub (.attr (.var 0) b6) (.var 7))])]],.ret (.new .call 5 [(.call 35 [(.var 2),(.var 5)]),(.var 6)])]⟩
noncomputable def Xo:Fn:=⟨4,[],2,false,false,[.ifs (.cmp .eq (.attr (.var 0) aj) (.str bq)) [.bad] [],.ifs (.or [(.cmp .eq (.bi .len [(.var 1)]) (.int 0)),(.and [(.cmp .eq (.bi .len [(.var 1)]) (.int 1)),(.cmp .eq (.attr (.sub (.var 1) (.int 0)) aj) (.str bF))])]) [.ifs (.and [(.cmp .ne (.attr (.var 0) aj) (.str aI)),(.not (.call 10 [(.var 0)]))]) [.bad] [],.ret (.var 0)] [],.ifs (.cmp .eq (.attr (.var 0) aj) (.str aI)) [.ret (.call 42 [(.var 0),(.var 1)])] [],.ifs (.not (.call 10 [(.var 0)])) [.bad] [],.assign 4 (.call 17 [(.var 0)]),.ifs (.cmp .eq (.bi .len [(.var 1)]) (.int 1)) [.assign 5 (.call 31 [(.sub (.var 1) (.int 0)),(.var 4),(.call 18 [(.var 0)])]),.ifs (.cmp .eg (.var 5) .none) [.bad] [],.ifs (.and [(.cmp .eg (.var 4) .none),(.cmp .eq (.bi .len [(.var 4)]) (.int 1))]) [.ret (.call 41 [(.var 0),(.sub (.var 1) (.int 0)),(.var 2)])] [],.ret (.call 37 [(.var 0),(.sub (.var 1) (.int 0))])] [],.bad,.bad]⟩
noncomputable def Xp:Fn:=⟨3,[],3,false,false,[.ifs (.cmp .eq (.attr (.var 0) aj) (.str bq)) [.bad] [],.ifs (.cmp .eq (.attr (.var 0) aj) (.str mG)) [.bad,.bad] [],.ifs (.cmp .eq (.attr (.var 0) aj) (.str aI)) [.assign 4 (.comp 3 (.attr (.var 0) b6) none (.ite (.cmp .eg (.var 3) .none) (.var 3) (.str []))),.assign 5 (.call 29 [(.var 1),(.bi .len [(.attr (.var 0) ai)]),(.var 4),(.var 2)]),.ifs (.or [(.cmp .is (.var 5) .none),(.cmp .lt (.var 5) (.int 0)),(.cmp .ge (.var 5) (.bi .len [(.attr (.var 0) ai)]))]) [.raise (.str bQ)] [],.ret (.sub (.attr (.var 0) ai) (.var 5))] [],.bad,.bad]⟩
noncomputable def Xq:Fn:=⟨1,[],0,false,false,[.ret (.and [(.call 10 [(.var 0)]),(.not (.call 33 [(.attr (.var 0) aj)])),(.cmp .gt (.bi .len [(.attr (.var 0) ai)]) (.int 1))])]⟩
noncomputable def Xr:Fn:=⟨3,[],1,false,false,[.ifs (.or [(.cmp .eq (.bi .len [(.var 1)]) (.int 0)),(.cmp .eq (.attr (.sub (.var 1) (.int 0)) aj) (.str bF))]) [.bad] [],.ifs (.cmp .gt (.bi .len [(.var 1)]) (.int 1)) [.bad,.bad,.bad] [],.assign 3 (.sub (.var 1) (.int 0)),.ifs (.or [(.not (.call 45 [(.var 3)])),(.not (.or [(.call 33 [(.attr (.var 0) aj)]),(.cmp .eq (.attr (.var 0) aj) (.str aI))]))]) [.ret (.call 44 [(.var 0),(.var 3),(.var 2)])] [],.bad,.bad,.bad]⟩
noncomputable def Xs:Fn:=⟨1,[],1,false,false,[.assign 1 (.tup [(.str bq),(.str bw),(.str aa),(.str aY),(.str ao),(.str aE),(.str cJ)]),.ifs (.cmp .oq (.var 0) (.var 1)) [.ret (.b4 .index (.var 1) [(.var 0)])] [],.bad]⟩
noncomputable def Xu:Fn:=⟨1,[],3,false,false,[.assign 1 (.tup [(.str bq),(.str bw),(.str aa),(.str aY),(.str ao),(.str aE),(.str cJ)]),.assign 2 (.int 0),.gp 3 (.var 0) [.assign 2 (.bi .max2 [(.var 2),(.call 47 [(.var 3)])])],.ret (.sub (.var 1) (.var 2))]⟩
noncomputable def Xv:Fn:=⟨4,[],0,false,false,[.ifs (.cmp .eq (.var 0) (.var 2)) [.bad] [],.ifs (.or [(.cmp .eq (.var 2) (.str aE)),(.cmp .eq (.var 2) (.str cJ)),(.cmp .eq (.var 2) (.str bH))]) [.ret (.ite (.call 50 [(.var 0)]) (.call 12 [(.new .aJ 2 [(.var 0),(.list [(.var 1)])])]) (.var 1))] [],.bad,.bad,.bad,.bad,.bad]⟩
noncomputable def Xw:Fn:=⟨1,[],0,false,false,[.ret (.cmp .oq (.var 0) (.tup [(.str bw),(.str aa),(.str aY),(.str ao)]))]⟩
noncomputable def Xx:Fn:=⟨2,[],0,true,true,[.ifs (.cmp .eg (.var 1) .none) [.bad] [],.ret (.var 0)]⟩
noncomputable def Xy:Fn:=⟨3,[],2,false,false,[.ifs (.not (.bi .mq [(.var 0)])) [.bad] [],.assign 3 (.attr (.var 0) ai),.ifs (.cmp .ne (.attr (.var 0) aj) (.var 1)) [.assign 3 (.comp 4 (.attr (.var 0) ai) none (.call 49 [(.attr (.var 0) aj),(.var 4),(.var 1),(.var 2)]))] [],.ret (.call 51 [(.new .aJ 2 [(.var 1),(.bi .list [(.var 3)])]),(.call 16 [(.var 0)])])]⟩
noncomputable def Xz:Fn:=⟨1,[],0,false,false,[.ret (.call 52 [(.var 0),(.str aE),(.list [])])]⟩
noncomputable def XD:Fn:=⟨3,[],0,false,false,[.ifs (.or [(.cmp .eq (.attr (.var 0) aj) (.var 1)),(.and [(.call 33 [(.attr (.var 0) aj)]),(.call 33 [(.var 1)])])]) [.ret (.attr (.var 0) ai)] [],.ifs (.call 33 [(.var 1)]) [.ret (.attr (.call 53 [(.var 0)]) ai)] [],.bad]⟩
noncomputable def XE:Fn:=⟨3,[],0,true,true,[.ifs (.cmp .eq (.attr (.var 0) aj) (.var 1)) [.ret (.call 11 [(.var 0)])] [],.bad,.bad,.bad]⟩
noncomputable def XF:Fn:=⟨2,[],0,false,false,[.ifs (.call 10 [(.var 0)]) [.ret (.var 0)] [],.ifs (.call 33 [(.attr (.var 1) aj)]) [.ret (.new .aJ 2 [(.str aE),(.list [(.var 0)])])] [],.bad,.bad]⟩
noncomputable def XG:Fn:=⟨2,[],0,false,false,[.ret (.call 48 [(.list [(.call 34 [(.attr (.var 0) aj)]),(.call 34 [(.attr (.var 1) aj)])])])]⟩
noncomputable def XH:Fn:=⟨4,[],3,true,true,[.assign 4 (.bi .len [(.attr (.var 0) ai)]),.forR 5 [(.var 4),(.call 6 [(.var 1)])] [.expr (.b4 .append (.attr (.var 0) ai) [(.call 32 [(.attr (.var 0) aj)])])],.expr (.call 14 [(.var 0),(.str dX)]),.expr (.call 14 [(.var 0),(.str bP)]),.ifs (.and [(.cmp .is (.var 2) .none),(.cmp .is (.var 3) .none)]) [.FP] [],.assign 6 (.bin .mul (.list [(.str [])]) (.var 4)),.ifs (.cmp .eg (.var 2) .none) [.assign 6 (.bi .list [(.var 2)])] [],.ifs (.cmp .eg (.var 3) .none) [.expr (.b4 .extend (.var 6) [(.var 3)])] [],.expr (.b4 .extend (.var 6) [(.bin .mul (.list [(.str [])]) (.bin .sub (.var 1) (.bi .len [(.var 6)])))]),.expr (.call 15 [(.var 0),(.str bG),(.call 8 [(.var 6)])])]⟩
noncomputable def XI:Fn:=⟨3,[],4,true,true,[.assign 3 (.bi .len [(.var 2)]),.assign 4 (.call 33 [(.attr (.var 0) aj)]),.forR 5 [(.bi .len [(.var 1)])] [.ifs (.cmp .eg (.sub (.var 1) (.var 5)) .none) [.assign 6 (.sub (.var 2) (.bin .mod (.var 5) (.var 3))),.ifs (.var 4) [.expr (.call 12 [(.var 6)])] [],.dP (.attr (.var 0) ai) (.sub (.var 1) (.var 5)) (.var 6)] []]]⟩
noncomputable def XJ:Fn:=⟨2,[],0,false,false,[.ifs (.cmp .gt (.bi .len [(.attr (.var 1) ai)]) (.int 1)) [.bad] []]⟩
noncomputable def XK:Fn:=⟨1,[],2,false,false,[.assign 1 (.int 0),.gp 2 (.var 0) [.ifs (.and [(.cmp .eg (.var 2) .none),(.cmp .ge (.var 2) (.var 1))]) [.assign 1 (.bin .add (.var 2) (.int 1))] []],.ret (.var 1)]⟩
noncomputable def XM:Fn:=⟨2,[],10,false,false,[.assign 2 (.call 16 [(.var 0)]),.assign 3 (.call 6 [(.bi .max2 [(.bi .len [(.attr (.var 0) ai)]),(.call 61 [(.var 1)])])]),.assign 4 .CH,.gp 5 (.var 1) [.ifs (.cmp .eg (.var 5) .none) [.dP (.var 4) (.var 5) (.bool true)] []],.assign 6 (.list []),.assign 7 (.list []),.forR 8 [(.var 3)] [.ifs (.cmp .sQ (.var 8) (.var 4)) [.assign 9 (.cmp .lt (.var 8) (.bi .len [(.attr (.var 0) ai)])),.expr (.b4 .append (.var 6) [(.ite (.var 9) (.sub (.attr (.var 0) ai) (.var 8)) (.new .null 0 []))]),.ifs (.cmp .eg (.var 2) .none) [.expr (.b4 .append (.var 7) [(.ite (.var 9) (.sub (.var 2) (.var 8)) (.str []))])] []] []],.assign 10 (.new .aJ 2 [(.attr (.var 0) aj),(.var 6)]),.ifs (.cmp .eg (.attr (.var 0) az) .none) [.gp 11 (.attr (.var 0) az) [.ifs (.cmp .sQ (.var 11) (.tup [(.str bG),(.str dX),(.str bP)])) [.bad] []]] [],.ifs (.cmp .eg (.var 2) .none) [.expr (.call 15 [(.var 10),(.str bG),(.call 8 [(.var 7)])])] [],.ret (.var 10)]⟩
noncomputable def XN:Fn:=⟨5,[],5,false,false,[.assign 5 (.call 16 [(.var 0)]),.assign 3 (.call 56 [(.var 3),(.var 0)]),.expr (.call 60 [(.var 1),(.var 3)]),.assign 6 (.call 57 [(.var 0),(.var 3)]),.ifs (.and [(.cmp .gt (.bi .len [(.var 1)]) (.int 0)),(.cmp .eq (.bi .len [(.attr (.var 3) ai)]) (.int 0))]) [.bad] [],.assign 7 (.call 55 [(.var 0),(.var 6),(.var 4)]),.ifs (.cmp .eq (.bi .len [(.var 1)]) (.int 0)) [.bad] [],.ifs (.cmp .ne (.bin .mod (.bi .len [(.var 1)]) (.bi .len [(.attr (.var 3) ai)])) (.int 0)) [.bad] [],.assign 8 (.call 54 [(.var 3),(.var 6),(.var 4)]),.assign 9 (.call 61 [(.var 1)]),.ifs (.cmp .gt (.var 9) (.bi .len [(.attr (.var 7) ai)])) [.expr (.call 58 [(.var 7),(.var 9),(.var 5),(.var 2)])] [],.expr (.call 59 [(.var 7),(.var 1),(.var 8)]),.ret (.var 7)]⟩
noncomputable def XO:Fn:=⟨4,[],2,false,false,[.ifs (.cmp .eq (.attr (.var 0) aj) (.str bq)) [.bad,.bad,.bad,.bad] [],.qh 4 5 (.call 26 [(.var 1),(.bi .len [(.attr (.var 0) ai)]),(.call 16 [(.var 0)]),(.bool true)]),.ifs (.cmp .eq (.attr (.var 2) aj) (.str bq)) [.ifs (.call 33 [(.attr (.var 0) aj)]) [.ret (.call 62 [(.var 0),(.var 4)])] [],.bad,.bad] [],.ret (.call 63 [(.var 0),(.var 4),(.var 5),(.var 2),(.var 3)])]⟩
noncomputable def XQ:Fn:=⟨1,[],4,false,false,[.assign 1 (.new .aJ 2 [(.str aE),(.bi .list [(.attr (.var 0) ai)])]),.assign 2 (.list []),.assign 3 (.bool false),.gp 4 (.attr (.var 0) b6) [.expr (.b4 .append (.var 2) [(.ite (.cmp .is (.var 4) .none) (.str []) (.var 4))]),.assign 3 (.or [(.var 3),(.cmp .eg (.var 4) .none)])],.ifs (.var 3) [.expr (.call 15 [(.var 1),(.str bG),(.call 8 [(.var 2)])])] [],.ret (.var 1)]⟩
noncomputable def XR:Fn:=⟨1,[],3,false,false,[.ifs (.cmp .eq (.bi .len [(.attr (.var 0) ai)]) (.int 0)) [.ret (.new .null 0 [])] [],.assign 1 (.call 16 [(.var 0)]),.assign 2 (.bin .mul (.list [.none]) (.bi .len [(.attr (.var 0) ai)])),.ifs (.cmp .eg (.var 1) .none) [.assign 2 (.comp 3 (.var 1) none (.ite (.or [(.cmp .is (.var 3) .none),(.cmp .eq (.var 3) (.str []))]) .none (.var 3)))] [],.ret (.new .call 5 [(.bi .list [(.attr (.var 0) ai)]),(.var 2)])]⟩
noncomputable def XS:Fn:=⟨4,[],2,false,false,[.ifs (.cmp .eq (.attr (.var 0) aj) (.str aI)) [.ret (.call 66 [(.call 67 [(.call 65 [(.var 0)]),(.var 1),(.var 2),(.var 3)])])] [],.ifs (.and [(.cmp .ne (.attr (.var 0) aj) (.str bq)),(.not (.call 10 [(.var 0)]))]) [.bad] [],.ifs (.cmp .eq (.bi .len [(.var 1)]) (.int 0)) [.bad] [],.ifs (.cmp .eq (.bi .len [(.var 1)]) (.int 1)) [.assign 4 (.call 17 [(.var 0)]),.assign 5 (.call 31 [(.sub (.var 1) (.int 0)),(.var 4),(.call 18 [(.var 0)])]),.ifs (.and [(.cmp .eg (.var 5) .none),(.cmp .ne (.attr (.var 2) aj) (.str bq))]) [.bad] [],.ret (.call 64 [(.var 0),(.sub (.var 1) (.int 0)),(.var 2),(.var 3)])] [],.bad,.bad,.bad]⟩
noncomputable def XT:Fn:=⟨2,[],0,false,false,[.ifs (.call 33 [(.attr (.var 0) aj)]) [.ret (.attr (.var 0) aj)] [],.bad,.bad,.bad]⟩
noncomputable def XU:Fn:=⟨5,[],4,false,false,[.assign 5 (.call 16 [(.var 0)]),.ifs (.not (.call 33 [(.attr (.var 0) aj)])) [.bad,.bad] [],.assign 6 (.call 68 [(.var 0),(.var 3)]),.assign 7 (.call 55 [(.var 0),(.var 6),(.var 4)]),.ifs (.cmp .ge (.var 1) (.bi .len [(.attr (.var 7) ai)])) [.assign 8 .none,.ifs (.cmp .eg (.var 2) .none) [.assign 8 (.list [(.var 2)])] [],.expr (.call 58 [(.var 7),(.bin .add (.var 1) (.int 1)),(.var 5),(.var 8)])] [],.ifs (.call 33 [(.var 6)]) [.dP (.attr (.var 7) ai) (.var 1) (.call 12 [(.var 3)])] [.bad],.ret (.var 7)]⟩
noncomputable def XW:Fn:=⟨4,[],3,false,false,[.ifs (.cmp .eq (.attr (.var 0) aj) (.str bq)) [.bad,.bad,.bad,.bad] [],.assign 4 (.bi .len [(.attr (.var 0) ai)]),.assign 5 (.call 29 [(.var 1),(.var 4),(.call 16 [(.var 0)]),(.bool true)]),.ifs (.cmp .is (.var 5) .none) [.bad] [],.ifs (.and [(.cmp .eq (.attr (.var 2) aj) (.str bq)),(.call 33 [(.attr (.var 0) aj)])]) [.ifs (.or [(.cmp .lt (.var 5) (.int 0)),(.cmp .ge (.var 5) (.var 4))]) [.ret (.var 0)] [],.ret (.call 62 [(.var 0),(.list [(.var 5)])])] [],.assign 6 .none,.ifs (.cmp .lt (.var 5) (.int 0)) [.assign 5 (.var 4),.assign 6 (.ite (.cmp .eq (.attr (.var 1) aj) (.str cU)) (.attr (.var 1) iw) (.sub (.attr (.var 1) ai) (.int 0)))] [],.ret (.call 69 [(.var 0),(.var 5),(.var 6),(.var 2),(.var 3)])]⟩
noncomputable def XX:Fn:=⟨4,[],0,false,false,[.ifs (.cmp .eq (.attr (.var 0) aj) (.str aI)) [.ret (.call 66 [(.call 71 [(.call 65 [(.var 0)]),(.var 1),(.var 2),(.var 3)])])] [],.ifs (.and [(.cmp .ne (.attr (.var 0) aj) (.str bq)),(.not (.call 10 [(.var 0)]))]) [.bad] [],.ifs (.cmp .eq (.bi .len [(.var 1)]) (.int 1)) [.ret (.call 70 [(.var 0),(.sub (.var 1) (.int 0)),(.var 2),(.var 3)])] [],.bad,.bad,.bad]⟩
noncomputable def XY:Fn:=⟨4,[],1,false,false,[.ifs (.or [(.cmp .eq (.bi .len [(.var 1)]) (.int 0)),(.cmp .eq (.attr (.sub (.var 1) (.int 0)) aj) (.str bF))]) [.bad] [],.ifs (.cmp .gt (.bi .len [(.var 1)]) (.int 1)) [.bad,.bad,.bad,.bad] [],.assign 4 (.sub (.var 1) (.int 0)),.ifs (.and [(.call 45 [(.var 4)]),(.or [(.call 33 [(.attr (.var 0) aj)]),(.cmp .eq (.attr (.var 0) aj) (.str aI))])]) [.bad] [],.ret (.call 71 [(.var 0),(.list [(.var 4)]),(.var 2),(.var 3)])]⟩
noncomputable def XZ:Fn:=⟨4,[],0,false,false,[.ifs (.cmp .eq (.attr (.var 0) aj) (.str aI)) [.ret (.call 66 [(.call 73 [(.call 65 [(.var 0)]),(.var 1),(.var 2),(.var 3)])])] [],.ifs (.cmp .eq (.attr (.var 0) aj) (.str bq)) [.bad] [],.ifs (.not (.call 10 [(.var 0)])) [.bad] [],.ifs (.not (.call 33 [(.attr (.var 0) aj)])) [.bad,.bad] [],.ret (.call 70 [(.var 0),(.call 8 [(.list [(.var 1)])]),(.var 2),(.var 3)])]⟩
noncomputable def X0:Fn:=⟨1,[],4,true,true,[.assign 1 (.list []),.gp 2 (.slice (.var 0) none (some (.int 40))) [.assign 3 (.ite (.cmp .ge (.var 2) (.int 0)) (.var 2) (.bin .sub (.int 7) (.var 2))),.expr (.b4 .append (.var 1) [(.bin .mod (.var 3) (.int 1024))]),.assign 3 (.bin .fdiv (.var 3) (.int 1024)),.forR 4 [(.int 30)] [.ifs (.cmp .gt (.var 3) (.int 0)) [.expr (.b4 .append (.var 1) [(.bin .mod (.var 3) (.int 1024))]),.assign 3 (.bin .fdiv (.var 3) (.int 1024))] []]],.assign 1 (.slice (.var 1) none (some (.int 160))),.expr (.b4 .reverse (.var 1) []),.ret (.var 1)]⟩
noncomputable def X5:Fn:=⟨1,[],0,true,false,[.ret (.ite (.cmp .ne (.var 0) (.list [])) (.b4 .pop (.var 0) []) (.int 0))]⟩
noncomputable def X6:Fn:=⟨1,[],1,true,false,[.assign 1 (.bin .mod (.call 75 [(.var 0)]) (.int 8)),.ret (.sub (.list [(.str pQ),(.str pR),(.str jN),(.str jz),(.str []),.none,(.str BO),(.bi .chr [(.bin .add (.int 97) (.bin .mod (.call 75 [(.var 0)]) (.int 26)))])]) (.var 1))]⟩
noncomputable def X7:Fn:=⟨1,[],2,true,false,[.assign 1 (.bin .mod (.call 75 [(.var 0)]) (.int 10)),.ifs (.cmp .eq (.var 1) (.int 0)) [.ret .none] [],.ifs (.cmp .lt (.var 1) (.int 8)) [.ret (.tup [(.ite (.cmp .gt (.var 1) (.int 5)) (.bin .sub (.bin .mod (.call 75 [(.var 0)]) (.int 14)) (.int 4)) (.bin .mod (.call 75 [(.var 0)]) (.int 12))),(.int 1)])] [],.ifs (.cmp .eq (.var 1) (.int 8)) [.ret (.sub (.list [(.tup [(.int 0),(.int 0)]),(.tup [(.int 1),(.int 0)]),(.tup [(.neg (.int 1)),(.int 0)])]) (.bin .mod (.call 75 [(.var 0)]) (.int 3)))] [],.assign 2 (.bin .sub (.bin .mod (.call 75 [(.var 0)]) (.int 41)) (.int 10)),.ret (.ite (.cmp .eq (.bin .mod (.var 2) (.int 2)) (.int 0)) (.tup [(.bin .fdiv (.var 2) (.int 2)),(.int 1)]) (.tup [(.var 2),(.int 2)]))]⟩
noncomputable def X8:Fn:=⟨1,[],8,true,false,[.assign 1 (.bin .mod (.call 75 [(.var 0)]) (.int 7)),.assign 2 (.bin .mod (.call 75 [(.var 0)]) (.int 10)),.ifs (.cmp .eq (.var 1) (.int 0)) [.ret (.new .missing 1 [])] [],.ifs (.cmp .eq (.var 1) (.int 1)) [.ret (.new .null 0 [])] [],.ifs (.cmp .eq (.var 1) (.int 2)) [.ret (.new .aJ 2 [(.str bw),(.cO 3 [(.var 2)] none (.sub (.list [(.int 1),(.int 0),.none]) (.bin .mod (.call 75 [(.var 0)]) (.int 3))))])] [],.ifs (.cmp .eq (.var 1) (.int 3)) [.assign 5 (.cO 4 [(.var 2)] none (.call 77 [(.var 0)])),.ret (.new .aJ 2 [(.str aa),(.comp 6 (.var 5) none (.ite (.or [(.cmp .is (.var 6) .none),(.cmp .ne (.sub (.var 6) (.int 1)) (.int 1))]) .none (.sub (.var 6) (.int 0))))])] [],.ifs (.cmp .eq (.var 1) (.int 4)) [.ret (.new .aJ 2 [(.str aY),(.cO 7 [(.var 2)] none (.call 77 [(.var 0)]))])] [],.ifs (.cmp .eq (.var 1) (.int 5)) [.ret (.new .aJ 2 [(.str ao),(.cO 8 [(.var 2)] none (.call 76 [(.var 0)]))])] [],.ret (.new .aJ 2 [(.str aE),(.list [])])]⟩
noncomputable def Yb:Fn:=⟨2,[],2,false,false,[.assign 2 (.list []),.gp 3 (.var 1) [.ifs (.or [(.cmp .is (.var 3) .none),(.and [(.cmp .eq (.var 0) (.str aY)),(.cmp .eq (.sub (.var 3) (.int 1)) (.int 0))])]) [.expr (.b4 .append (.var 2) [.none])] [.ifs (.cmp .eq (.var 0) (.str aY)) [.expr (.b4 .append (.var 2) [(.ite (.cmp .ge (.sub (.var 3) (.int 0)) (.int 0)) (.bin .fdiv (.sub (.var 3) (.int 0)) (.sub (.var 3) (.int 1))) (.neg (.bin .fdiv (.neg (.sub (.var 3) (.int 0))) (.sub (.var 3) (.int 1)))))])] [.expr (.b4 .append (.var 2) [(.var 3)])]]],.ret (.var 2)]⟩
noncomputable def Yc:Fn:=⟨4,[],11,false,false,[.assign 4 (.attr (.var 0) aj),.ifs (.cmp .eq (.var 4) (.str bF)) [.ret (.tup [(.bi .dZ [(.var 1)]),.none])] [],.ifs (.cmp .eq (.var 4) (.str bq)) [.ret (.tup [(.list []),.none])] [],.ifs (.cmp .eq (.var 4) (.str aE)) [.ret (.str e7)] [],.ifs (.cmp .eq (.var 4) (.str bw)) [.assign 5 (.list []),.forR 6 [(.ite (.cmp .ne (.attr (.var 0) ai) (.list [])) (.bi .max2 [(.var 1),(.bi .len [(.attr (.var 0) ai)])]) (.int 0))] [.assign 7 (.sub (.attr (.var 0) ai) (.bin .mod (.var 6) (.bi .len [(.attr (.var 0) ai)]))),.ifs (.cmp .ne (.var 7) (.int 0)) [.expr (.b4 .append (.var 5) [(.ite (.cmp .eq (.var 7) (.int 1)) (.var 6) .none)])] []],.ret (.tup [(.var 5),.none])] [],.ifs (.cmp .eq (.var 4) (.str ao)) [.assign 5 (.list []),.assign 8 (.list []),.gp 7 (.attr (.var 0) ai) [.assign 9 (.and [(.cmp .eg (.var 7) .none),(.cmp .ne (.var 7) (.str []))]),.ifs (.and [(.var 9),(.cmp .eg (.var 2) .none),(.cmp .oq (.var 7) (.var 2))]) [.expr (.b4 .append (.var 5) [(.b4 .index (.var 2) [(.var 7)])])] [.ifs (.not (.var 3)) [.expr (.b4 .append (.var 5) [.none])] [.bad]]],.ret (.tup [(.var 5),(.ite (.var 3) (.var 8) .none)])] [],.assign 10 (.call 79 [(.var 4),(.attr (.var 0) ai)]),.assign 12 (.comp 11 (.var 10) (some (.and [(.cmp .eg (.var 11) .none),(.cmp .lt (.var 11) (.int 0))])) (.var 11)),.ifs (.cmp .eq (.var 12) (.list [])) [.ret (.tup [(.comp 13 (.var 10) (some (.cmp .ne (.var 13) (.int 0))) (.ite (.cmp .is (.var 13) .none) .none (.bin .sub (.var 13) (.int 1)))),.none])] [],.ifs (.cmp .oq .none (.var 10)) [.ret (.str bZ)] [],.ifs (.cmp .gt (.bi .qD [(.var 10)]) (.int 0)) [.ret (.str b3)] [],.ret (.tup [(.cO 14 [(.var 1)] (some (.cmp .sQ (.bin .sub (.neg (.var 14)) (.int 1)) (.var 10))) (.var 14)),.none])]⟩
noncomputable def Yd:Fn:=⟨1,[],4,false,false,[.ifs (.or [(.bi .isStr [(.var 0)]),(.cmp .is (.var 0) .none)]) [.ret (.var 0)] [],.ifs (.cmp .eq (.attr (.var 0) aj) (.str bq)) [.ret (.str bq)] [],.ifs (.cmp .eq (.attr (.var 0) aj) (.str cU)) [.ret (.tup [(.str cU),(.attr (.var 0) iw)])] [],.ifs (.cmp .eq (.attr (.var 0) aj) (.str aI)) [.ret (.tup [(.str aI),(.comp 1 (.attr (.var 0) ai) none (.call 81 [(.var 1)])),(.bi .list [(.attr (.var 0) b6)])])] [],.assign 2 (.dz [] []),.ifs (.cmp .eg (.attr (.var 0) az) .none) [.assign 2 (.pg 3 (.attr (.var 0) az) (.var 3) (.call 81 [(.sub (.attr (.var 0) az) (.var 3))]))] [],.ifs (.cmp .oq (.attr (.var 0) aj) (.tup [(.str aE),(.str cJ),(.str bH)])) [.ret (.tup [(.attr (.var 0) aj),(.comp 4 (.attr (.var 0) ai) none (.call 81 [(.var 4)])),(.var 2)])] [],.ret (.tup [(.attr (.var 0) aj),(.bi .list [(.attr (.var 0) ai)]),(.var 2)])]⟩
noncomputable def Ye:Fn:=⟨1,[],0,false,false,[.bad]⟩
noncomputable def Yg:Fn:=⟨1,[],42,false,false,[.assign 1 (.call 74 [.var 0]),.assign 2 (.bin .mod (.call 75 [.var 1]) (.int 5)),.cut 3 (.assign 4 (.bin .add (.pure (.list [.none])) (.pure (.cO 3 [.var 2] none (.sub (.pure (.list [.none,.str pQ,.str pR,.str jN])) (.bin .mod (.call 75 [.var 1]) (.int 4))))))),.cut 3 (.assign 6 (.bin .add (.pure (.list [.pure (.new .symbol 4 [.str SY])])) (.pure (.cO 5 [.var 2] none (.ite (.cmp .ne (.var 5) (.int 2)) (.pure (.new .aJ 2 [.str aa,.pure (.list [.var 5])])) (.pure (.new .symbol 4 [.str S0]))))))),.cut 3 (.assign 7 (.new .call 5 [.var 6,.var 4])),.assign 8 (.call 81 [.var 7]),.assign 9 (.bi .len [.var 6]),.cut 3 (.assign 11 (.comp 10 (.var 4) none (.ite (.cmp .is (.var 10) .none) (.str []) (.var 10)))),.forR 12 [.bin .add (.int 1) (.bin .mod (.call 75 [.var 1]) (.int 2))] [.assign 13 (.call 78 [.var 1]),.assign 14 (.call 80 [.var 13,.var 9,.var 11,.bool false]),.assign 15 (.call 81 [.kept (.call 43 [.var 7,.pure (.list [.var 13]),.bool true,.bool true])]),.ifs (.bi .isStr [.var 14]) [.assign 16 (.var 14)] [.ifs (.cmp .eq (.attr (.var 13) aj) (.str bF)) [.assign 16 (.var 8)] [.ifs (.cmp .eq (.sub (.var 14) (.int 0)) (.pure (.list []))) [.assign 16 (.str bq)] [.cut 3 (.assign 18 (.comp 17 (.sub (.var 14) (.int 0)) none (.ite (.and [.cmp .eg (.var 17) .none,.cmp .lt (.var 17) (.var 9)]) (.sub (.sub (.var 8) (.int 1)) (.var 17)) (.str bq)))),.assign 16 (.tup [.str aI,.var 18,.pure (.comp 19 (.sub (.var 14) (.int 0)) none (.ite (.and [.cmp .eg (.var 19) .none,.cmp .lt (.var 19) (.var 9)]) (.sub (.var 4) (.var 19)) .none))])]]],.ifs (.cmp .ne (.var 15) (.var 16)) [.bad] []],.assign 20 (.bin .add (.int 1) (.bin .mod (.call 75 [.var 1]) (.bin .add (.var 9) (.int 1)))),.assign 15 (.call 81 [.kept (.call 46 [.var 7,.pure (.list [.pure (.new .aJ 2 [.str aa,.pure (.list [.var 20])])]),.bool true])]),.ifs (.cmp .ne (.var 15) (.ite (.cmp .le (.var 20) (.var 9)) (.sub (.sub (.var 8) (.int 1)) (.bin .sub (.var 20) (.int 1))) (.str bQ))) [.bad] [],.assign 21 (.sub (.pure (.list [.pure (.new .aJ 2 [.str ao,.pure (.list [.str QY])]),.pure (.new .symbol 4 [.str QZ]),.pure (.new .null 0 [])])) (.bin .mod (.call 75 [.var 1]) (.int 3))),.assign 22 (.call 81 [.var 21]),.assign 23 (.bin .add (.int 1) (.bin .mod (.call 75 [.var 1]) (.var 9))),.ifs (.cmp .eq (.attr (.var 21) aj) (.str bq)) [.assign 16 (.tup [.str aI,.pure (.bin .add (.pure (.slice (.sub (.var 8) (.int 1)) none (some (.bin .sub (.var 23) (.int 1))))) (.pure (.slice (.sub (.var 8) (.int 1)) (some (.var 23)) none))),.pure (.bin .add (.pure (.slice (.var 4) none (some (.bin .sub (.var 23) (.int 1))))) (.pure (.slice (.var 4) (some (.var 23)) none)))]),.assign 16 (.ite (.cmp .eq (.sub (.var 16) (.int 1)) (.pure (.list []))) (.str bq) (.var 16))] [.assign 16 (.tup [.str aI,.pure (.bin .add (.pure (.bin .add (.pure (.slice (.sub (.var 8) (.int 1)) none (some (.bin .sub (.var 23) (.int 1))))) (.pure (.list [.var 22])))) (.pure (.slice (.sub (.var 8) (.int 1)) (some (.var 23)) none))),.var 4])],.ifs (.cmp .ne (.call 81 [.call 72 [.var 7,.pure (.list [.pure (.new .aJ 2 [.str aa,.pure (.list [.var 23])])]),.var 21,.pure (.list [])]]) (.var 16)) [.bad] [],.ifs (.cmp .ne (.call 81 [.call 67 [.var 7,.pure (.list [.pure (.new .aJ 2 [.str aa,.pure (.list [.var 23])])]),.var 21,.pure (.list [])]]) (.var 16)) [.bad] [],.assign 24 (.sub (.pure (.list [.str pQ,.str pR,.str OH])) (.bin .mod (.call 75 [.var 1]) (.int 3))),.ifs (.cmp .oq (.var 24) (.var 4)) [.assign 23 (.b4 .index (.var 4) [.var 24]),.ifs (.cmp .eq (.attr (.var 21) aj) (.str bq)) [.assign 16 (.tup [.str aI,.pure (.bin .add (.pure (.slice (.sub (.var 8) (.int 1)) none (some (.var 23)))) (.pure (.slice (.sub (.var 8) (.int 1)) (some (.bin .add (.var 23) (.int 1))) none))),.pure (.bin .add (.pure (.slice (.var 4) none (some (.var 23)))) (.pure (.slice (.var 4) (some (.bin .add (.var 23) (.int 1))) none)))])] [.assign 16 (.tup [.str aI,.pure (.bin .add (.pure (.bin .add (.pure (.slice (.sub (.var 8) (.int 1)) none (some (.var 23)))) (.pure (.list [.var 22])))) (.pure (.slice (.sub (.var 8) (.int 1)) (some (.bin .add (.var 23) (.int 1))) none))),.var 4])]] [.assign 16 (.ite (.cmp .eq (.attr (.var 21) aj) (.str bq)) (.var 8) (.tup [.str aI,.pure (.bin .add (.sub (.var 8) (.int 1)) (.pure (.list [.var 22]))),.pure (.bin .add (.var 4) (.pure (.list [.var 24])))]))],.ifs (.or [.cmp .ne (.call 81 [.call 73 [.var 7,.var 24,.var 21,.pure (.list [])]]) (.var 16),.cmp .ne (.call 81 [.var 7]) (.var 8)]) [.bad] [],.cut 3 (.assign 26 (.cO 25 [.var 2] none (.call 76 [.var 1]))),.cut 3 (.assign 28 (.new .aJ 2 [.str bH,.pure (.cO 27 [.var 2] none (.pure (.new .aJ 2 [.str aa,.pure (.list [.var 27])]))),.pure (.dz [bG] [.pure (.new .aJ 2 [.str ao,.var 26])])])),.assign 30 (.new .aJ 2 [.str aa,.pure (.cO 29 [.bin .add (.var 2) (.int 1)] none (.bin .add (.int 10) (.var 29))),.dz [dX] [.pure (.new .aJ 2 [.str aa,.pure (.list [.bin .add (.var 2) (.int 1)])])]]),.assign 31 .none,.cut 3 (.ifs (.cmp .eq (.bin .mod (.call 75 [.var 1]) (.int 2)) (.int 1)) [.assign 31 (.cO 32 [.bin .add (.var 2) (.int 1)] none (.bi .chr [.bin .add (.int 97) (.var 32)])),.dP (.attr (.var 30) az) (.str bP) (.pure (.new .aJ 2 [.str aE,.pure (.list [.pure (.new .aJ 2 [.str ao,.var 31])])]))] []),.assign 13 (.call 78 [.var 1]),.assign 14 (.call 80 [.var 13,.var 2,.var 26,.bool false]),.assign 15 (.call 81 [.kept (.call 43 [.var 28,.pure (.list [.var 13]),.bool true,.bool true])]),.ifs (.bi .isStr [.var 14]) [.ifs (.cmp .ne (.var 15) (.var 14)) [.bad] []] [.ifs (.cmp .ne (.attr (.var 13) aj) (.str bF)) [.cut 3 (.assign 18 (.comp 33 (.sub (.var 14) (.int 0)) none (.ite (.and [.cmp .eg (.var 33) .none,.cmp .lt (.var 33) (.var 2)]) (.tup [.str aa,.pure (.list [.var 33]),.pure (.dz [] [])]) (.str bq)))),.cut 3 (.assign 35 (.comp 34 (.sub (.var 14) (.int 0)) none (.ite (.and [.cmp .eg (.var 34) .none,.cmp .lt (.var 34) (.var 2)]) (.sub (.var 26) (.var 34)) (.str eN)))),.ifs (.cmp .ne (.var 15) (.tup [.str aE,.var 18,.pure (.dz [bG] [.tup [.str ao,.var 35,.pure (.dz [] [])]])])) [.bad] []] []],.assign 14 (.call 80 [.var 13,.bin .add (.var 2) (.int 1),.var 31,.bool false]),.gp 36 (.pure (.list [.bool false,.bool true])) [.assign 15 (.call 81 [.kept (.call 43 [.var 30,.pure (.list [.var 13]),.var 36,.bool true])]),.ifs (.bi .isStr [.var 14]) [.ifs (.cmp .ne (.var 15) (.var 14)) [.bad] [],.cont] [],.ifs (.cmp .eq (.attr (.var 13) aj) (.str bF)) [.cont] [],.cut 3 (.assign 18 (.comp 37 (.sub (.var 14) (.int 0)) none (.ite (.and [.cmp .eg (.var 37) .none,.cmp .le (.var 37) (.var 2)]) (.bin .add (.int 10) (.var 37)) .none))),.assign 35 .none,.ifs (.cmp .eg (.var 31) .none) [.assign 35 (.tup [.str ao,.pure (.comp 38 (.sub (.var 14) (.int 0)) none (.ite (.and [.cmp .eg (.var 38) .none,.cmp .le (.var 38) (.var 2)]) (.sub (.var 31) (.var 38)) (.str eN))),.pure (.dz [] [])])] [],.assign 39 (.ite (.and [.var 36,.cmp .eq (.bi .len [.var 18]) (.int 1)]) (.dz [] []) (.dz [dX] [.tup [.str aa,.pure (.list [.bi .len [.var 18]]),.pure (.dz [] [])]])),.cut 3 (.ifs (.and [.cmp .eg (.var 35) .none,.cmp .eq (.var 39) (.pure (.dz [] []))]) [.assign 39 (.dz [bG] [.var 35])] [.ifs (.cmp .eg (.var 35) .none) [.dP (.var 39) (.str bP) (.tup [.str aE,.pure (.list [.var 35]),.pure (.dz [] [])])] []]),.ifs (.cmp .ne (.var 15) (.tup [.str aa,.var 18,.var 39])) [.bad] []],.assign 40 (.new .aJ 2 [.str aa,.pure (.list [.int 1,.int 2,.int 3,.int 4]),.dz [dX,iy] [.pure (.new .aJ 2 [.str aa,.pure (.list [.int 2,.int 2])]),.pure (.new .aJ 2 [.str ao,.pure (.list [.str MH])])]]),.cut 3 (.ifs (.cmp .eq (.bin .mod (.call 75 [.var 1]) (.int 2)) (.int 1)) [.dP (.attr (.var 40) az) (.str bP) (.pure (.new .aJ 2 [.str aE,.pure (.list [.pure (.new .aJ 2 [.str ao,.pure (.list [.str pQ,.str pR])]),.pure (.new .null 0 [])])]))] []),.assign 41 (.bin .add (.int 1) (.bin .mod (.call 75 [.var 1]) (.int 8))),.assign 15 (.call 81 [.call 67 [.var 40,.pure (.list [.pure (.new .aJ 2 [.str aa,.pure (.list [.var 41])])]),.pure (.new .aJ 2 [.str aa,.pure (.list [.int 9])]),.pure (.list [])]]),.assign 16 (.call 81 [.var 40]),.ifs (.cmp .gt (.var 41) (.int 4)) [.cut 3 (.assign 39 (.dz [iy] [.sub (.sub (.var 16) (.int 2)) (.str iy)])),.ret (.cmp .eq (.var 15) (.tup [.str aa,.pure (.bin .add (.pure (.bin .add (.pure (.list [.int 1,.int 2,.int 3,.int 4])) (.pure (.bin .mul (.pure (.list [.none])) (.bin .sub (.var 41) (.int 5)))))) (.pure (.list [.int 9]))),.var 39]))] [],.ret (.cmp .eq (.var 15) (.tup [.str aa,.pure (.cO 42 [.int 1,.int 5] none (.ite (.cmp .eq (.var 42) (.var 41)) (.int 9) (.var 42))),.sub (.var 16) (.int 2)]))]⟩
noncomputable def T:Nat->Fn
 |0=>f0
 |1=>f1
 |2=>f2
 |3=>f3
 |4=>f4
 |5=>f5
 |6=>f6
 |7=>f7
 |8=>f8
 |9=>f9
 |10=>WQ
 |11=>WR
 |12=>WS
 |13=>WT
 |14=>WU
 |15=>WV
 |16=>WW
 |17=>WX
 |18=>WY
 |19=>WZ
 |20=>W0
 |21=>W1
 |22=>W2
 |23=>W4
 |24=>W5
 |25=>W6
 |26=>W7
 |27=>W8
 |28=>W9
 |29=>Xa
 |30=>Xb
 |31=>Xc
 |32=>Xd
 |33=>Xe
 |34=>Xf
 |35=>Xg
 |36=>Xh
 |37=>Xi
 |38=>Xj
 |39=>Xk
 |40=>Xl
 |41=>Xm
 |42=>Xn
 |43=>Xo
 |44=>Xp
 |45=>Xq
 |46=>Xr
 |47=>Xs
 |48=>Xu
 |49=>Xv
 |50=>Xw
 |51=>Xx
 |52=>Xy
 |53=>Xz
 |54=>XD
 |55=>XE
 |56=>XF
 |57=>XG
 |58=>XH
 |59=>XI
 |60=>XJ
 |61=>XK
 |62=>XM
 |63=>XN
 |64=>XO
 |65=>XQ
 |66=>XR
 |67=>XS
 |68=>XT
 |69=>XU
 |70=>XW
 |71=>XX
 |72=>XY
 |73=>XZ
 |74=>X0
 |75=>X5
 |76=>X6
 |77=>X7
 |78=>X8
 |79=>Yb
 |80=>Yc
 |81=>Yd
 |82=>Ye
 |83=>Yg
 |_=>⟨0,[],0,true,false,[.bad]⟩
noncomputable def Q3:Nat->List (Str×Nat)
 |0=>[("self",0)]
 |1=>[("self",0)]
 |2=>[("self",0),("kind",1),("items",2),("attrs",3)]
 |3=>[("self",0),("attrs",1)]
 |4=>[("self",0),("name",1)]
 |5=>[("self",0),("items",1),("tags",2),("attrs",3)]
 |6=>[("n",0)]
 |7=>[("items",0)]
 |8=>[("items",0)]
 |9=>[("v",0),("names",1)]
 |10=>[("v",0)]
 |11=>[("v",0)]
 |12=>[("v",0)]
 |13=>[("v",0),("name",1)]
 |14=>[("v",0),("name",1)]
 |15=>[("v",0),("name",1),("value",2)]
 |16=>[("v",0),("dims",1),("rows",2),("names",3)]
 |17=>[("v",0),("dims",1)]
 |18=>[("v",0),("found",1)]
 |19=>[("x",0)]
 |20=>[("x",0),("found",1)]
 |21=>[("ix",0),("found",1),("item",2)]
 |22=>[("items",0),("n",1),("count",2),("places",3),("i",4),("item",5)]
 |23=>[("items",0),("n",1),("places",2),("left_out",3),("lacks",4),("item",5)]
 |24=>[("names",0),("table",1),("i",2),("name",3)]
 |25=>[("texts",0),("names",1),("table",2),("places",3),("item",4)]
 |26=>[("ix",0),("n",1),("names",2),("extend",3),("kind",4)]
 |27=>[("item",0),("names",1),("exact",2)]
 |28=>[("item",0),("n",1)]
 |29=>[("ix",0),("n",1),("names",2),("exact",3),("kind",4)]
 |30=>[("ix",0),("dims",1),("shape",2)]
 |31=>[("ix",0),("dims",1),("dimnames",2)]
 |32=>[("kind",0)]
 |33=>[("kind",0)]
 |34=>[("kind",0)]
 |35=>[("v",0),("places",1),("found",2),("n",3),("place",4)]
 |36=>[("names",0),("places",1),("found",2),("place",3)]
 |37=>[("v",0),("ix",1),("names",2),("places",3),("result",4)]
 |38=>[("v",0),("dimnames",1)]
 |39=>[("lists",0),("heads",1),("filled",2),("items",3),("texts",4)]
 |40=>[("result",0),("extents",1),("lists",2),("heads",3),("value",4)]
 |41=>[("v",0),("ix",1),("drop",2),("result",3),("names",4),("lists",5)]
 |42=>[("v",0),("indexes",1),("row",2),("tags",4),("places",5),("picked",6),("place",7)]
 |43=>[("v",0),("indexes",1),("drop",2),("exact",3),("dims",4),("places",5)]
 |44=>[("v",0),("ix",1),("exact",2),("tags",4),("place",5)]
 |45=>[("ix",0)]
 |46=>[("v",0),("indexes",1),("exact",2),("ix",3)]
 |47=>[("kind",0),("kinds",1)]
 |48=>[("kinds",0),("names",1),("most",2),("kind",3)]
 |49=>[("kind",0),("item",1),("to",2),("notes",3)]
 |50=>[("kind",0)]
 |51=>[("v",0),("names",1)]
 |52=>[("v",0),("kind",1),("notes",2),("items",3)]
 |53=>[("v",0)]
 |54=>[("v",0),("kind",1),("notes",2)]
 |55=>[("v",0),("kind",1),("notes",2)]
 |56=>[("value",0),("target",1)]
 |57=>[("v",0),("value",1)]
 |58=>[("v",0),("count",1),("names",2),("added",3),("n",4),("i",5),("texts",6)]
 |59=>[("v",0),("places",1),("items",2),("count",3),("listed",4),("i",5),("item",6)]
 |60=>[("places",0),("value",1)]
 |61=>[("places",0),("count",1),("place",2)]
 |62=>[("v",0),("places",1),("names",2),("count",3),("gone",4),("place",5),("items",6),("kept_names",7),("i",8),("inside",9),("result",10),("name",11)]
 |63=>[("v",0),("places",1),("added",2),("value",3),("notes",4),("names",5),("kind",6),("result",7),("items",8),("count",9)]
 |64=>[("v",0),("ix",1),("value",2),("notes",3),("places",4),("added",5)]
 |65=>[("v",0),("result",1),("names",2),("filled",3),("tag",4)]
 |66=>[("v",0),("names",1),("tags",2)]
 |67=>[("v",0),("indexes",1),("value",2),("notes",3),("dims",4),("places",5)]
 |68=>[("v",0),("value",1)]
 |69=>[("v",0),("place",1),("name",2),("value",3),("notes",4),("names",5),("kind",6),("result",7),("added",8)]
 |70=>[("v",0),("ix",1),("value",2),("notes",3),("n",4),("place",5),("name",6)]
 |71=>[("v",0),("parts",1),("value",2),("notes",3)]
 |72=>[("v",0),("indexes",1),("value",2),("notes",3),("ix",4)]
 |73=>[("v",0),("name",1),("value",2),("notes",3)]
 |74=>[("script",0),("row",1),("cell",2),("figure",3),("lap",4)]
 |75=>[("row",0)]
 |76=>[("row",0),("choice",1)]
 |77=>[("row",0),("kind",1),("n",2)]
 |78=>[("row",0),("kind",1),("many",2),("numbers_in",5)]
 |79=>[("kind",0),("items",1),("found",2),("item",3)]
 |80=>[("ix",0),("n",1),("names",2),("extend",3),("kind",4),("found",5),("spot",6),("item",7),("added",8),("good",9),("cuts",10),("below",12)]
 |81=>[("v",0),("attrs",2)]
 |83=>[("script",0),("row",1),("many",2),("tags",4),("items",6),("v",7),("held",8),("n",9),("named_so",11),("lap",12),("ix",13),("found",14),("told",15),("due",16),("shown",18),("at",20),("value",21),("put",22),("spot",23),("name",24),("names",26),("pairs",28),("line",30),("heads",31),("labels_of",35),("drop",36),("attrs",39),("square",40),("far",41)]
 |_=>[]
noncomputable def Hf:Nat->Option Str
 |6=>some "room"
 |7=>some "integer"
 |8=>some "character"
 |9=>some "named"
 |10=>some "is_vector"
 |11=>some "own"
 |12=>some "share"
 |13=>some "get_attr"
 |14=>some "drop_attr"
 |15=>some "put_attr"
 |16=>some "names_of"
 |17=>some "dim_of"
 |18=>some "dimnames_of"
 |19=>some "is_finite"
 |20=>some "to_whole"
 |21=>some "whole_subscripts"
 |22=>some "logical_places"
 |23=>some "whole_places"
 |24=>some "first_places"
 |25=>some "name_places"
 |26=>some "positions"
 |27=>some "one_name"
 |28=>some "one_whole"
 |29=>some "one_place"
 |30=>some "is_matrix_index"
 |31=>some "matrix_index"
 |32=>some "lacking_item"
 |33=>some "is_list_kind"
 |34=>some "result_kind"
 |35=>some "items_at"
 |36=>some "names_at"
 |37=>some "subset_vector"
 |38=>some "heads_of_dimnames"
 |39=>some "dimnames_value"
 |40=>some "put_shape"
 |41=>some "subset_row"
 |42=>some "subset_call"
 |43=>some "subset_any"
 |44=>some "element_step"
 |45=>some "is_long_index"
 |46=>some "element"
 |47=>some "kind_order"
 |48=>some "common_kind"
 |49=>some "item_as"
 |50=>some "is_atomic_kind"
 |51=>some "with_names"
 |52=>some "as_kind"
 |53=>some "as_list"
 |54=>some "converted_items"
 |55=>some "raised"
 |56=>some "value_vector"
 |57=>some "assigned_kind"
 |58=>some "extend_vector"
 |59=>some "put_items"
 |60=>some "check_places"
 |61=>some "first_count"
 |62=>some "delete_places"
 |63=>some "assign_places"
 |64=>some "assign_vector"
 |65=>some "list_of_call"
 |66=>some "call_of_list"
 |67=>some "assign_any"
 |68=>some "element_kind"
 |69=>some "put_element"
 |70=>some "assign_step"
 |71=>some "assign_down"
 |72=>some "assign_element"
 |73=>some "assign_dollar"
 |74=>some "_law_row"
 |75=>some "_law_next"
 |76=>some "_law_text"
 |77=>some "_law_number"
 |78=>some "_law_index"
 |79=>some "_law_cut"
 |80=>some "_law_due"
 |81=>some "_law_view"
 |82=>some "_law_kept"
 |83=>some "law"
 |_=>none
end Mine
namespace Mine
open PySem PySem.W PySem.Calls PyProof.Rows
noncomputable def jO(P:Params) (a:Addr):Obj:=((hE P).get? a).getD default
theorem Hg{P:Params}{a:Addr}(h:((hE P).get? a).isSome=true):(hE P).get? a=some (jO P a):=by
 unfold jO;cases e:(hE P).get? a with
 |none=>rw[e] at h;cases h
 |some o=>rfl
noncomputable def Yh:List Addr:=[60,81,103,110,131,153,167,181,188,195,209,223,230,237,244,251,256,263,268,306,320,341,348,353,360,367,381,395,402,409,430,450,457,464,478,485,492,499,520,534,541,565,570,577,610,622,629,761,768,831,838,864,869,876,883,890,897,904,911,918,925,932,939,946,953,967,972,979,986,993,1000,1007,1014,1021,1028,1035,1042,1049,1054,1061,1066,1071,1078,1083]
noncomputable def CB(k:Nat):Addr:=Yh.getD k 0
noncomputable def s9:ie->Addr|.null=>63|.missing=>84|.aQ=>113|.symbol=>134|.call=>156|.aJ=>113
noncomputable def U7:ie->Nat|.null=>238|.missing=>267|.aQ=>296|.symbol=>339|.call=>370|.aJ=>296
noncomputable def sU(o:Obj):FuncData:=match o.data with| .func fd=>fd|_=>default
noncomputable def DZ(o:Obj):Array Value:=match o.data with| .fields vs=>vs|_=>#[]
noncomputable def Hh(v:Value):Addr:=match v with| .ref a=>a|_=>0
noncomputable def S1(v:Value):Tok:=match v with| .str _ t=>t|_=>0
noncomputable def nK(P:Params) (k:Nat):FuncData:=sU (jO P (CB k))
noncomputable def x6(w:World) (os:OsState):Cx where
 prog:=Challenge.pw_nz0546_01
 w:=w
 h₀:=hE w.params
 os:=os
 mg:=(hE w.params).nsMap mainGlobals
 mb:=(hE w.params).nsMap builtinsNs
 cA:=s9
 mR:=44
 fA:=CB
 fd:=nK w.params
 P:=1080
 nj:=("law" ++ ".<locals>.") ++ "<lambda>"
noncomputable def jk(fd:FuncData):List Stmt:=match fd.body with| .stmts b=>b|_=>[]
noncomputable def BP(fd:FuncData):Addr:=Hh fd.code
noncomputable def I4(P:Params) (a:Addr):List (Option Obj):=let o:=jO P a;let c:=BP (sU o);[some { cls:=.type "function",dict:=o.dict,data:=.func (sU o),slots:=o.slots },some { cls:=.type "code",dict:=(jO P c).dict,data:=.fields (DZ (jO P c)),slots:=(jO P c).slots }]
noncomputable def I5(P:Params) (fd:FuncData):List Value:=[.ref (BP fd),.str fd.qualname (S1 ((DZ (jO P (BP fd))).getD 1 .none))]
noncomputable def OI(P:Params) (a:Addr):List (Option Obj)×List (Option Value)×FuncBody:=let fd:=sU (jO P a);([(hE P).get? a,(hE P).get? (BP fd)],[some fd.code,(DZ (jO P (BP fd)))[1]?],fd.body)
noncomputable def OJ(P:Params) (a:Addr) (F:Fn):List (Option Obj)×List (Option Value)×FuncBody:=let fd:=sU (jO P a);(I4 P a,(I5 P fd).map some,.stmts (zD F.body (jk fd)))
theorem Hi(w:World):((List.range 84).map fun k=>OI w.params (CB k))=(List.range 84).map fun k=>OJ w.params (CB k) (T k):=by kernel_rfl
theorem OL(w:World):((List.range 84).all fun k=>SW Hf (T k).body ⟨fun y=>(nK w.params k).scope.names.lookup y,Q3 k,decide (k=83)⟩ (jk (nK w.params k)))=true:=by kernel_rfl
noncomputable def OM(fd:FuncData):List Str:=fd.params.args.map (·.arg)
noncomputable def Yi(fd:FuncData) (ps:List Str):Bool:=(ps.all fun x=>fd.scope.names.lookup x==some .local||fd.scope.names.lookup x==some .cell)&&fd.scope.names.all (fun q=>q.2 != .free)&&decide ps.Nodup
noncomputable def Yj(ps:List Str) (np:Nat) (vs:List (Str×Nat)):Bool:=(vs.all fun q=>!decide (q.2<np)||ps[q.2]? == some q.1)&&decide (ps.length=np)
theorem Hj(w:World):((List.range 84).all fun k=>Yi (nK w.params k) (OM (nK w.params k))&&Yj (OM (nK w.params k)) (T k).np (Q3 k))=true:=by kernel_rfl
noncomputable def I6(fd:FuncData):(List (Str×Addr)×List Addr×List Bool)×ScopeKind×List Arg×List Arg×Option Arg×Option Arg:=((fd.closure,[fd.globals,fd.builtins],[fd.scope.isCoroutine,fd.scope.isGenerator]),fd.scope.kind,fd.params.posonlyargs,fd.params.kwonlyargs,fd.params.vararg,fd.params.kwarg)
noncomputable def I7:(List (Str×Addr)×List Addr×List Bool)×ScopeKind×List Arg×List Arg×Option Arg×Option Arg:=(([],[mainGlobals,builtinsNs],[false,false]),.function,[],[],none,none)
theorem Hl(w:World):((List.range 84).map fun k=>I6 (nK w.params k))=(List.range 84).map fun _=>I7:=by kernel_rfl
noncomputable def S2(o:Obj):Nat:=match o.data with| .seq _ n=>n|_=>0
noncomputable def ON(P:Params) (fd:FuncData) (df:List PV):Value×Option Obj×List PV:=(fd.defaults,cond df.isEmpty none ((hE P).get? (Hh fd.defaults)),df)
noncomputable def OO(P:Params) (fd:FuncData) (df:List PV):Value×Option Obj×List PV:=let o:=jO P (Hh fd.defaults);cond df.isEmpty (.none,none,[]) (.ref (Hh fd.defaults),some { cls:=.type "tuple",dict:=o.dict,data:=.seq #[.none] (S2 o),slots:=o.slots },[.none])
theorem KQ(w:World):((List.range 84).map fun k=>ON w.params (nK w.params k) (T k).df)=(List.range 84).map fun k=>OO w.params (nK w.params k) (T k).df:=by kernel_rfl
theorem OP:((List.range 84).all fun k=>decide ((T k).df.length<=(T k).np))=true:=by kernel_rfl
section
variable {w:World}{os:OsState}{k:Nat}
theorem atK{α:Type}{f g:Nat->α}(h:(List.range 84).map f=(List.range 84).map g) (hk:k<84):f k=g k:=List.map_inj_left.mp h k (List.mem_range.mpr hk)
theorem KR{f:Nat->Bool}(h:(List.range 84).all f=true) (hk:k<84):f k=true:=List.all_eq_true.mp h k (List.mem_range.mpr hk)
noncomputable def S3(F:Fn):List Value:=F.df.map fun _=>.none
theorem Ho{P:Params}{fd:FuncData}{df:List PV}(h:ON P fd df=OO P fd df):nE (hE P) fd (df.map fun _=>.none)/\(∀T o,fd.defaults=.ref T->(hE P).get? T=some o->o.cls≠.none)/\∀G,bh G (df.map fun _=>.none) df:=by
 cases df with
 |nil =>
  obtain⟨h1,_⟩:=Prod.ext_iff.mp h
  have h1:fd.defaults=.none:=h1
  refine⟨.no h1,fun T o e=>?_,fun G=>.nil⟩
  rw[h1] at e;cases e
 |cons d r =>
  obtain⟨h1,h⟩:=Prod.ext_iff.mp h
  obtain⟨h2,h3⟩:=Prod.ext_iff.mp h
  cases(h3:d::r=[.none])
  refine⟨.one _ _ _ .none h1 h2 rfl,fun T o e g=>?_,fun G=>.cons .none .nil⟩
  cases(show fd.defaults=_ from h1).symm.trans e
  cases(show _=some _ from h2).symm.trans g
  exact fun q=>by cases q
theorem Hp(hk:k<84):gU (x6 w os).h₀ ((x6 w os).fA k) ((x6 w os).fd k)/\FnAt (x6 w os) k (T k) (OM (nK w.params k)) (S3 (T k)) (Q3 k) (jk (nK w.params k))/\zD (T k).body (jk (nK w.params k))=jk (nK w.params k):=by
 obtain⟨h1,h⟩:=Prod.ext_iff.mp (atK (Hi w) hk)
 obtain⟨h2,h3⟩:=Prod.ext_iff.mp h
 obtain⟨o1,h1⟩:=List.cons.inj h1
 obtain⟨o2,_⟩:=List.cons.inj h1
 obtain⟨c1,h2⟩:=List.cons.inj h2
 obtain⟨c2,_⟩:=List.cons.inj h2
 obtain⟨r1,r⟩:=Prod.ext_iff.mp (atK (Hl w) hk)
 obtain⟨r2,r⟩:=Prod.ext_iff.mp r
 obtain⟨r3,r⟩:=Prod.ext_iff.mp r
 obtain⟨r4,r⟩:=Prod.ext_iff.mp r
 obtain⟨r5,r6⟩:=Prod.ext_iff.mp r
 obtain⟨r1,r⟩:=Prod.ext_iff.mp r1
 obtain⟨r7,r8⟩:=Prod.ext_iff.mp r
 obtain⟨d1,d2,d3⟩:=Ho (atK (KQ w) hk)
 have b:(nK w.params k).body=.stmts (zD (T k).body (jk (nK w.params k))):=h3
 have e:zD (T k).body (jk (nK w.params k))=jk (nK w.params k):=by
  have z:=congrArg (fun b=>match b with| .stmts l=>l|_=>[]) b
  exact z.symm
 refine aP (KR (Hj w) hk) fun s1 s2=>aP s1 fun s1 s3=>aP s1 fun s1 s4=>aP s2 fun s2 s5=>⟨.mk _ o1 rfl rfl,⟨⟨_,o1,(fun q=>by cases q),rfl⟩,⟨_,_,_,_,Option.some.inj c1,o2,(fun q=>by cases q),rfl,c2⟩,b.trans (congrArg _ e),r1,(List.cons.inj r7).1,(List.cons.inj (List.cons.inj r7).2).1,(List.cons.inj r8).1,(List.cons.inj (List.cons.inj r8).2).1,r2,⟨r3,rfl,r5,r4,r6,of_decide_eq_true s3⟩,of_decide_eq_true s5,fun x hx=>?_,fun x q=>?_,fun y j m hj=>?_,d1,d2,d3,?_⟩,e⟩
 ·exact(Bool.or_eq_true _ _▸List.all_eq_true.mp s1 x hx).imp eq_of_beq eq_of_beq
 ·exact absurd (show false=true from List.all_eq_true.mp s4 _ (PySem.mem_of_lookup q)) Bool.false_ne_true
 ·have z:=List.all_eq_true.mp s2 _ m
  rw[decide_eq_true hj] at z
  exact eq_of_beq z
 ·rw[of_decide_eq_true s5]
  exact Nat.le_trans (Nat.le_of_eq (List.length_map ..)) (of_decide_eq_true (KR OP hk))
end
section
variable (w:World) (os:OsState)
theorem OQ{P:Params}{a:Addr}(h:(hE P).isNs a=true):(hE P).Ns a ((hE P).nsMap a):=.of_isNs h
noncomputable def OR(v:Value):Bool:=match v with| .none=>false|_=>true
noncomputable def kQ(P:Params) (a:Addr):Bool:=OR (jO P a).cls
theorem jA{P:Params}{a:Addr}(h:kQ P a=true):∀o,(hE P).get? a=some o->o.cls≠.none:=fun o e q=>by
 unfold kQ jO at h
 rw[e] at h
 replace h:OR o.cls=true:=h
 rw[q] at h
 cases h
noncomputable def rQ:List ie:=[.null,.missing,.aQ,.symbol,.call,.aJ]
theorem kR(c:ie):c∈rQ:=by
 induction c
 ·exact .head _
 ·exact .tail _ (.head _)
 ·exact .tail _ (.tail _ (.head _))
 ·exact .tail _ (.tail _ (.tail _ (.head _)))
 ·exact .tail _ (.tail _ (.tail _ (.tail _ (.head _))))
 ·exact .tail _ (.tail _ (.tail _ (.tail _ (.tail _ (.head _)))))
noncomputable def S4(P:Params) (c:ie):Bool :=
 let C:=s9 c
 let m:=(hE P).nsMap (C-1)
 (hE P).isNs (C-1)&&kQ P (C-1)&&Option.isNone (m "__getattribute__")&&Option.isNone (m "__getattr__")&&Option.isNone (m "__setattr__")&&(fu.all fun f=>Option.isNone (m (tx f)))
theorem D0:rQ.all (S4 w.params)=true:=by kernel_rfl
noncomputable def I8(P:Params) (c:ie):Option Obj×Option Value×Option Value:=let m:=(hE P).nsMap (s9 c-1);((hE P).get? (s9 c),m "__init__",m "copy")
noncomputable def OS(c:ie):Option Obj×Option Value×Option Value:=(some (excClassObj (clsName c) (clsName c) (s9 c) (s9 c-1) [.type "object"] [.type "object"] true [] [] false none none none none (some (.str (clsName c) (U7 c))) (some (.str (clsName c) (U7 c+8))) (some (.bool true)) "object.__new__"),some (.ref (CB (fT c))),cond c.CG (some (.ref (CB 3))) none)
theorem D3:rQ.map (I8 w.params)=rQ.map OS:=by kernel_rfl
theorem OT(c:ie):II (x6 w os) c:=by
 have q:I8 w.params c=OS c:=List.map_inj_left.mp (D3 w) c (kR c)
 obtain⟨q1,q⟩:=Prod.ext_iff.mp q
 obtain⟨q2,q3⟩:=Prod.ext_iff.mp q
 exact aP (List.all_eq_true.mp (D0 w) c (kR c)) fun h h6=>aP h fun h h5=>aP h fun h h4=>aP h fun h h3=>aP h fun h1 h2 =>
  .mk _ _ ⟨⟨_,q1,.mk ..⟩,OQ h1,jA h2,Option.isNone_iff_eq_none.mp h3,Option.isNone_iff_eq_none.mp h4,Option.isNone_iff_eq_none.mp h5,fun f hf=>Option.isNone_iff_eq_none.mp (List.all_eq_true.mp h6 f hf),q2,fun q=>by subst q;exact q3⟩
noncomputable def Yk(P:Params):Bool:=(hE P).isNs mainGlobals&&kQ P mainGlobals&&(hE P).isNs builtinsNs&&kQ P builtinsNs&&decide (sysModules<(hE P).objs.size)
theorem KS:Yk w.params=true:=by kernel_rfl
noncomputable def Yl(P:Params):(List (Option Value)×List (Option Value))×List (Option Value)×List (Option Value)×List (Option Value) :=
 let m:=(hE P).nsMap mainGlobals
 let b:=(hE P).nsMap builtinsNs
 ((cy.map m,cy.map b),rQ.map (fun c=>m (clsName c)),(List.range 84).map (fun k=>match Hf k with| some x=>m x|none=>none),[m "MOST_LENGTH",m "Refusal",m "__builtins__",m "law"])
noncomputable def Ym:(List (Option Value)×List (Option Value))×List (Option Value)×List (Option Value)×List (Option Value) :=
 ((cy.map fun _=>none,cy.map bootBuiltins),rQ.map (fun c=>some (.ref (s9 c))),(List.range 84).map (fun k=>match Hf k with| some x=>some (.ref (CB k))|none=>none),[some (.int 1000000 236),some (.ref 44),some (.ref 4),some (.ref 1083)])
theorem D4:Yl w.params=Ym:=by kernel_rfl
theorem KU(j:Nat):Hf (j+84)=none:=by kernel_rfl
theorem D5{k:Nat}{x:Str}(h:Hf k=some x):k<84:=by
 rcases Nat.lt_or_ge k 84 with q|q
 ·exact q
 ·obtain⟨j,rfl⟩:=Nat.exists_eq_add_of_le q
  rw[Nat.add_comm,KU] at h
  cases h
theorem x7(P:Params):(hE P).objs.size=1084:=by kernel_rfl
theorem names4:(hE w.params).nsMap mainGlobals "MOST_LENGTH" = some (.int 1000000 236)/\(hE w.params).nsMap mainGlobals "Refusal" = some (.ref 44)/\(hE w.params).nsMap mainGlobals "__builtins__" = some (.ref 4)/\(hE w.params).nsMap mainGlobals "law" = some (.ref 1083):=by
 obtain⟨_,q⟩:=Prod.ext_iff.mp (D4 w)
 obtain⟨_,q⟩:=Prod.ext_iff.mp q
 obtain⟨_,q⟩:=Prod.ext_iff.mp q
 obtain⟨a,q⟩:=List.cons.inj q
 obtain⟨b,q⟩:=List.cons.inj q
 obtain⟨c,q⟩:=List.cons.inj q
 exact⟨a,b,c,(List.cons.inj q).1⟩
theorem OU:Base (x6 w os) Hf:=by
 obtain⟨q1,q⟩:=Prod.ext_iff.mp (D4 w)
 obtain⟨q3,q⟩:=Prod.ext_iff.mp q
 obtain⟨q4,_⟩:=Prod.ext_iff.mp q
 obtain⟨q1,q2⟩:=Prod.ext_iff.mp q1
 replace q1:cy.map ((hE w.params).nsMap mainGlobals)=cy.map fun _=>none:=q1
 replace q2:cy.map ((hE w.params).nsMap builtinsNs)=cy.map bootBuiltins:=q2
 replace q3:rQ.map (fun c=>(hE w.params).nsMap mainGlobals (clsName c))=rQ.map fun c=>some (.ref (s9 c)):=q3
 replace q4:(List.range 84).map (fun k=>match Hf k with| some x=>(hE w.params).nsMap mainGlobals x|none=>none)=(List.range 84).map fun k=>match Hf k with| some x=>some (.ref (CB k))|none=>none:=q4
 refine aP (KS w) fun h h5=>aP h fun h h4=>aP h fun h h3=>aP h fun h1 h2=>⟨OQ h1,jA h2,OQ h3,jA h4,fun x hx=>⟨List.map_inj_left.mp q1 x hx,List.map_inj_left.mp q2 x hx⟩,OT w os,fun c=>List.map_inj_left.mp q3 c (kR c),fun k x e=>?_,⟨_,(names4 w).1⟩,of_decide_eq_true h5,rfl⟩
 have z:=List.map_inj_left.mp q4 k (List.mem_range.mpr (D5 e))
 rw[e] at z
 exact z
end
section
variable (w:World) (os:OsState)
noncomputable def kL:List Addr:=[63,62,84,83,113,112,134,133,156,155,60,81,103,131,153]
noncomputable def kE(P:Params):Frag:=kL.map fun a=>(a,jO P a)
theorem rR{f:Addr->Obj}{a:Addr}{o:Obj}:∀{l:List Addr},(l.map fun a=>(a,f a)).lookup a=some o->a∈l/\o=f a
 |[],h=>by cases h
 |b::r,h=>by
  rw[List.map_cons,List.lookup_cons] at h
  cases q:a==b with
  |true=>rw[q] at h;cases h;rw[eq_of_beq q];exact⟨.head _,rfl⟩
  |false=>rw[q] at h;have:=rR h;exact⟨.tail _ this.1,this.2⟩
noncomputable def kB(P:Params) (c:ie):Bool:=plainGet (kE P) (s9 c) "__class__" && hasDictIn (kE P) (s9 c)&&makesIn (kE P) (s9 c)
noncomputable def kV(P:Params) (c:ie):(List (Option (Option Value))×List (Option Bool))×Option Value :=
 (([findIn (kE P) (.ref (s9 c)) "__class__",findIn (kE P) (.ref (s9 c)) "__init__"],[mroIn (kE P) (s9 c) (.type "object"),kitOne (kE P) (.ref (s9 c)) (.ref 113),kitOne (kE P) (.ref (s9 c)) (.type "str")]),typeIn (kE P) (.ref (CB (fT c))))
noncomputable def kW(c:ie):(List (Option (Option Value))×List (Option Bool))×Option Value:=(([some (some (.builtin "object.__class__")),some (some (.ref (CB (fT c))))],[some true,some c.CG,some false]),some (.type "function"))
noncomputable def Yn(P:Params):Option (Option Value)×List (Option Bool):=(specialIn (kE P) (.builtin "object.__class__") "__get__",[takesIn (kE P) (.builtin "object.__class__"),kitOne (kE P) (.type "NoneType") (.ref 113),kitOne (kE P) (.type "str") (.ref 113),kitOne (kE P) (.type "str") (.type "str"),kitOne (kE P) (.type "NoneType") (.type "str"),kitOne (kE P) (.type "tuple") (.type "str")])
theorem OV:(rQ.all (kB w.params)&&kL.all fun a=>((hE w.params).get? a).isSome&&kQ w.params a)=true:=by kernel_rfl
theorem OW:rQ.map (kV w.params)=rQ.map kW:=by kernel_rfl
theorem OX:Yn w.params=(some (some (.builtin "getset_descriptor.__get__")),[some true,some false,some false,some true,some false,some false]):=by kernel_rfl
theorem nL{α:Type}{a b c x y z:α}{r t:List α}(h:a::b::c::r=x::y::z::t):a=x/\b=y/\c=z/\r=t :=
 let⟨h1,h⟩:=List.cons.inj h;let⟨h2,h⟩:=List.cons.inj h;let⟨h3,h⟩:=List.cons.inj h;⟨h1,h2,h3,h⟩
theorem um(c:ie):findIn (kE w.params) (.ref (s9 c)) "__class__" = some (some (.builtin "object.__class__"))/\findIn (kE w.params) (.ref (s9 c)) "__init__" = some (some (.ref (CB (fT c))))/\mroIn (kE w.params) (s9 c) (.type "object")=some true/\kitOne (kE w.params) (.ref (s9 c)) (.ref 113)=some c.CG /\
  kitOne (kE w.params) (.ref (s9 c)) (.type "str")=some false/\typeIn (kE w.params) (.ref (CB (fT c)))=some (.type "function"):=by
 obtain⟨q,q6⟩:=Prod.ext_iff.mp (List.map_inj_left.mp (OW w) c (kR c))
 obtain⟨q1,q⟩:=Prod.ext_iff.mp q
 obtain⟨q1,q2⟩:=List.cons.inj q1
 obtain⟨q3,q4,q5,_⟩:=nL q
 exact⟨q1,(List.cons.inj q2).1,q3,q4,q5,q6⟩
theorem S5:Cy (x6 w os) (kE w.params):=aP (OV w) fun h1 h2=>by
 obtain⟨g0,q⟩:=Prod.ext_iff.mp (OX w)
 obtain⟨g1,g2,g3,q⟩:=nL q
 obtain⟨g4,g5,g6,_⟩:=nL q
 have k:∀c,kB w.params c=true:=fun c=>List.all_eq_true.mp h1 c (kR c)
 have at':∀a o,(kE w.params).lookup a=some o->(hE w.params).get? a=some o/\o.cls≠.none:=fun a o e=>by
  obtain⟨m,rfl⟩:=rR e
  exact aP (List.all_eq_true.mp h2 a m) fun e1 e2=>⟨Hg e1,jA e2 _ (Hg e1)⟩
 exact⟨fun a o e=>(at' a o e).1,fun a o e=>(at' a o e).2,fun c=>aP (k c) fun h _=>aP h fun h _=>h,fun c=>aP (k c) fun h _=>aP h fun _ h=>h,fun c=>(um w c).1,g0,g1,fun c=>(um w c).2.2.1,fun c=>(um w c).2.2.2.1,g2,g3,fun c=>(um w c).2.2.2.2.1,g4,⟨g5,g6⟩,
  fun c=>aP (k c) fun _ h=>h,fun c=>(um w c).2.1,fun c=>(um w c).2.2.2.2.2⟩
end
section
variable (w:World) (os:OsState)
noncomputable def S6(o:Obj):ClassData:=match o.data with| .cls cd=>cd|_=>⟨"",[],[],0,"",true,[],[],false,none,false⟩
noncomputable def Aq(P:Params):FuncData:=sU (jO P 41)
noncomputable def S7(P:Params):Bool:=(hE P).isNs 43&&(hE P).isNs 23&&([43,23].all fun a=>((hE P).get? a).isSome&&kQ P a)&&((Aq P).scope.names.all fun x=>x.2 != .cell)
theorem As:S7 w.params=true:=by kernel_rfl
theorem OY:[("__init__" : Str),"__setattr__",bJ,"__getattribute__","__getattr__"].map (fun x=>((hE w.params).nsMap 43 x,(hE w.params).nsMap 23 x))=[(some (.ref 41),none),(none,none),(none,none),(none,none),(none,none)]:=by kernel_rfl
noncomputable def S8(P:Params):List (Option Obj)×List (Option Value)×Addr×FuncBody×Value :=
 let c:=BP (Aq P)
 ([(hE P).get? 44,(hE P).get? 24,(hE P).get? 41,(hE P).get? c],[some (Aq P).code,(DZ (jO P c))[1]?],(S6 (jO P 24)).ns,(Aq P).body,(Aq P).defaults)
noncomputable def S9(P:Params):List (Option Obj)×List (Option Value)×Addr×FuncBody×Value :=
 ([some (excClassObj "Refusal" "Refusal" 44 43 [.ref 24] (.ref 24::iD) true [] [] false none none (some (.ref 28)) none (some (.str "Refusal" 209)) (some (.str "Refusal" 217)) (some (.bool true)) "Exception.__new__"),
  some { cls:=.type "type",dict:=none,data:=.cls (S6 (jO P 24)),slots:=(jO P 24).slots }]++I4 P 41,(I5 P (Aq P)).map some,23,.stmts [.Assign [.Attribute (.Name ue ⟨7,8,7,12⟩) bJ ⟨7,8,7,20⟩] (.Name bJ ⟨7,23,7,30⟩) ⟨7,8,7,30⟩],.none)
theorem Au:S8 w.params=S9 w.params:=by kernel_rfl
theorem Tc:(I6 (Aq w.params)).2=I7.2:=by kernel_rfl
theorem OZ:[(Aq w.params).scope.isCoroutine,(Aq w.params).scope.isGenerator]=[false,false]:=by kernel_rfl
theorem Td:((Aq w.params).params.args.map (·.arg),(Aq w.params).scope.names.lookup ue,(Aq w.params).scope.names.lookup bJ)=([ue,bJ],some .local,some .local):=by kernel_rfl
theorem I9{P:Params}{a:Addr}(h:(((hE P).get? a).isSome&&kQ P a)=true):Here (hE P) a:=aP h fun h1 h2=>.mk _ (Hg h1) (jA h2 _ (Hg h1))
theorem KV:mF ((hE w.params).nsMap 43) ((hE w.params).nsMap 23) 41:=by
 obtain⟨a,b,c,q⟩:=nL (OY w)
 obtain⟨d,q⟩:=List.cons.inj q
 obtain⟨e,_⟩:=List.cons.inj q
 obtain⟨a1,a2⟩:=Prod.mk.inj a
 obtain⟨b1,b2⟩:=Prod.mk.inj b
 obtain⟨c1,c2⟩:=Prod.mk.inj c
 obtain⟨d1,d2⟩:=Prod.mk.inj d
 obtain⟨e1,e2⟩:=Prod.mk.inj e
 exact⟨a1,a2,b1,b2,c1,c2,d1,d2,e1,e2⟩
theorem O0:zw (Aq w.params):=by
 obtain⟨_,q⟩:=Prod.ext_iff.mp (Au w)
 obtain⟨_,q⟩:=Prod.ext_iff.mp q
 obtain⟨_,q⟩:=Prod.ext_iff.mp q
 obtain⟨b,d⟩:=Prod.ext_iff.mp q
 obtain⟨k,r⟩:=Prod.ext_iff.mp (Tc w)
 obtain⟨r1,r⟩:=Prod.ext_iff.mp r
 obtain⟨r2,r⟩:=Prod.ext_iff.mp r
 obtain⟨r3,r4⟩:=Prod.ext_iff.mp r
 obtain⟨c1,c⟩:=List.cons.inj (OZ w)
 obtain⟨p,l⟩:=Prod.mk.inj (Td w)
 obtain⟨l1,l2⟩:=Prod.mk.inj l
 exact aP (As w) fun h h4=>⟨⟨_,_,_,_,b⟩,c1,(List.cons.inj c).1,k,⟨r1,p,r3,r2,r4,by decide⟩,d,fun x hx=>bne_iff_ne.mp (List.all_eq_true.mp h4 x hx),l1,l2⟩
theorem KW:pP (x6 w os):=by
 obtain⟨o,q⟩:=Prod.ext_iff.mp (Au w)
 obtain⟨v,q⟩:=Prod.ext_iff.mp q
 obtain⟨n,_⟩:=Prod.ext_iff.mp q
 obtain⟨o1,o2,o3,o4⟩:=nL o
 obtain⟨c1,v⟩:=List.cons.inj v
 have n:(S6 (jO w.params 24)).ns=23:=n
 refine aP (As w) fun h _=>aP h fun h h3=>aP h fun h1 h2=>.mk 24 43 ((hE w.params).nsMap 43) ((hE w.params).nsMap 23) 41 (Aq w.params) ⟨⟨_,o1,.mk ..⟩,OQ h1,I9 (List.all_eq_true.mp h3 43 (.head _)),⟨_,_,_,_,o2,(fun q=>by cases q),?_,?_⟩⟩ (KV w) (.mk _ o3 rfl rfl) _ _ _ _ (Option.some.inj c1) (List.cons.inj o4).1 (fun q=>by cases q) rfl (List.cons.inj v).1 (O0 w) (names4 w).2.1
 ·rw[n];exact OQ h2
 ·rw[n];exact I9 (List.all_eq_true.mp h3 23 (.tail _ (.head _)))
end
section
variable (w:World) (os:OsState)
noncomputable def fC(P:Params):Array Value:=DZ (jO P 1082)
theorem O4:[(hE w.params).get? 1082,(hE w.params).get? 1080,(hE w.params).get? 4]=[some { cls:=.type "code",data:=.fields (fC w.params) },some (tabObj #[]),some { cls:=.type "module",dict:=some builtinsNs,data:=.plain }]:=by kernel_rfl
theorem Te:((fC w.params)[11]?,[11,18,7,9,10].map (fun i=>(fC w.params).getD i .none))=(some (.ref 1080),[.ref 1080,.str qA 1702,rawInt 3,.bool true,rawInt 181]):=by kernel_rfl
theorem Tf:((nK w.params 83).code,(nK w.params 83).qualname)=(Value.ref 1082,("law" : Str)):=by kernel_rfl
theorem O5:((nK w.params 82).params.args.map (·.arg),(nK w.params 82).body,[zy,iu,("Refusal" : Str)].map (fun x=>(nK w.params 82).scope.names.lookup x)) =
  ([zy],.stmts (I2 ⟨1290,15,1290,18⟩ ⟨1290,15,1290,20⟩ ⟨1290,8,1290,20⟩ ⟨1291,11,1291,18⟩ ⟨1292,15,1292,20⟩ ⟨1292,15,1292,28⟩ ⟨1292,8,1292,28⟩ ⟨1291,4,1292,28⟩ ⟨1289,4,1292,28⟩),[some .local,some .local,some .globalImplicit]):=by kernel_rfl
theorem Yo:S3 (T 82)=[]:=by kernel_rfl
theorem KX:uf (x6 w os):=by
 obtain⟨l1,l2,l3,_⟩:=nL (O4 w)
 obtain⟨l4,l⟩:=Prod.mk.inj (Te w)
 obtain⟨l5,l6,l7,l⟩:=nL l
 obtain⟨l8,l⟩:=List.cons.inj l
 obtain⟨Yp,l11⟩:=Prod.mk.inj (Tf w)
 exact⟨⟨1082,Yp,_,_,_,_,_,_,_,_,_,l1,rfl,rfl,l4,l5,l6,l7,l8,(List.cons.inj l).1,by show(1082:Nat)≠1080;decide⟩,⟨4,_,(names4 w).2.2.1,by decide,by decide,by show(4:Nat)≠1080;decide,l3,rfl,rfl,rfl⟩,(by show mainGlobals≠1080/\1080≠cStatics;decide),⟨_,l2⟩,(by show _=((nK w.params 83).qualname ++ ".<locals>.") ++ "<lambda>";rw[l11];rfl)⟩
theorem Hq{k:Nat}(hk:k<84):gU (x6 w os).h₀ ((x6 w os).fA k) ((x6 w os).fd k)/\FnAt (x6 w os) k (T k) (OM (nK w.params k)) (S3 (T k)) (Q3 k) (jk (nK w.params k))/\zD (T k).body (jk (nK w.params k))=jk (nK w.params k):=Hp hk
theorem O6:rK (x6 w os) (T 82):=by
 obtain⟨k1,k⟩:=Prod.mk.inj (O5 w)
 obtain⟨k2,k⟩:=Prod.mk.inj k
 obtain⟨a,b,c,_⟩:=nL k
 obtain⟨O,X,_⟩:=Hq w os (k:=82) (by decide)
 have hb:jk (nK w.params 82)=_:=congrArg (fun b=>match b with| .stmts l=>l|_=>[]) k2
 rw[show OM (nK w.params 82)=[zy] from k1,hb,Yo] at X
 exact⟨⟨_,_,_,_,_,_,_,_,_,⟨X.obj,X.code,X.body,X.Sj,X.glob,X.blt,X.co,X.gen,X.kind,X.plain,X.np,X.pk,X.free,(fun y j e=>nomatch e),X.defs,X.Oi,X.Ky,X.dl⟩⟩,O,a,b,c⟩
theorem Tg(j:Nat):T (j+84)=⟨0,[],0,true,false,[.bad]⟩:=by kernel_rfl
theorem Hr{C:fy}{as:List AV}{st:aB}:fB C ⟨0,[],0,true,false,[.bad]⟩ as st=none:=by
 show oB (Fn.start _ as) _=none
 cases Fn.start ⟨0,[],0,true,false,[.bad]⟩ as<;>rfl
theorem O7:OG (x6 w os) (kE w.params) Hf T where
 B:=OU w os
 KB:=S5 w os
 RO:=KW w os
 O:=fun f x e=>(Hq w os (D5 e)).1
 O3:=(Hq w os (k:=3) (by decide)).1
 LO:=KX w os
 kept:=⟨_,O6 w os⟩
 fns:=fun f=>by
  rcases Nat.lt_or_ge f 84 with q|q
  ·obtain⟨_,X,h⟩:=Hq w os q
   exact .inl ⟨_,_,_,_,X,h,KR (OL w) q⟩
  ·refine .inr fun C as st=>?_
   obtain⟨j,rfl⟩:=Nat.exists_eq_add_of_le q
   rw[Nat.add_comm,Tg]
   exact Hr
end
end Mine
namespace Mine
open PySem
theorem cG{α:Type}(a:α) (l:List α):(a::l)[0]? = some a:=rfl
theorem cP{α:Type}(a:α) (l:List α) (i:Nat):(a::l)[i+1]? = l[i]?:=rfl
theorem af{α β} (a:α) st (f:α->aB->R β):R.bind (ok a st) f=f a st:=rfl
theorem x8{α β} m (f:α->aB->R β):R.bind (some (.error m)) f=some (.error m):=rfl
theorem aF{α} (a:α) st (f:α->aB->Option Out):R.out (ok a st) f=f a st:=rfl
theorem Av{α} m st (f:α->aB->Option Out):R.out (some (.error (m,st))) f=some (.exc m st):=rfl
noncomputable def pick(b:Option Bool) (C:fy) (x y:List S) (g:Gm) (st:aB):Option Out:=gq b (bO C x g st) (bO C y g st)
theorem aS(C x y g st):pick (some true) C x y g st=bO C x g st:=rfl
theorem bD(C x y g st):pick (some false) C x y g st=bO C y g st:=rfl
theorem aM(C c a b g st):ex C (.ifs c a b) g st=(ev C c g st).out fun t st=>pick (cV st t) C a b g st:=rfl
theorem bx(C e g st):ex C (.expr e) g st=(ev C e g st).out fun _ st=>some (.next g st):=rfl
theorem aC(C x e g st):ex C (.assign x e) g st=(ev C e g st).out fun a st=>some (.next (g.set x (some a)) st):=rfl
theorem aW(C e g st):ex C (.ret e) g st=(ev C e g st).out fun a st=>some (.ret a st):=rfl
theorem rS(C e g st):ex C (.raise e) g st=(ev C e g st).out fun a st=>u6 a st:=rfl
theorem rT(m st):u6 (.t (.str m)) st=some (.exc m st):=rfl
noncomputable def Ja(k:Option PV) (st:aB) (b:AV) (d:PV) (g:Gm):Option Out:=oB k fun k=>pn (Bc st b k d) g
theorem rU(C o i e g st):ex C (.dP o i e) g st=(ev C e g st).out fun a st=>(ev C o g st).out fun b st=>(ev C i g st).out fun k st=>(eX st a).out fun d st=>Ja (vw st k) st b d g:=rfl
theorem Aw(k st b d g):Ja (some k) st b d g=pn (Bc st b k d) g:=rfl
theorem Ax(st g):pn (some st) g=some (.next g st):=rfl
noncomputable def mH(o:Option Out) (C:fy) (r:List S):Option Out:=match o with
 |some (.next g' st')=>bO C r g' st'
 |q=>q
theorem ah(C s r g st):bO C (s::r) g st=mH (ex C s g st) C r:=rfl
theorem aL(C g st):bO C [] g st=some (.next g st):=rfl
theorem au(C r g st):mH (some (.next g st)) C r=bO C r g st:=rfl
theorem bB(C r g st):mH (some (.ret g st)) C r=some (.ret g st):=rfl
theorem kT(C r g st):mH (some (.exc g st)) C r=some (.exc g st):=rfl
theorem av(C i g st):ev C (.var i) g st=A7 (g[i]?) st:=rfl
theorem ay(a st):A7 (some (some a)) st=ok a st:=rfl
theorem aH(C g st):ev C .none g st=ok (.t .none) st:=rfl
theorem bI(C s g st):ev C (.str s) g st=ok (.t (.str s)) st:=rfl
theorem bg(C s g st):ev C (.int s) g st=ok (.t (.int s)) st:=rfl
theorem wh(C s g st):ev C (.bool s) g st=ok (.t (.bool s)) st:=rfl
theorem cS(C e f g st):ev C (.attr e f) g st=(ev C e g st).bind fun a st=>uY st a f:=rfl
theorem aG(C o x y g st):ev C (.cmp o x y) g st=(ev C x g st).bind fun a st=>(ev C y g st).bind fun b st=>gk o st (vw st a) (vw st b):=rfl
theorem aV(st d):vw st (.t d)=some d:=rfl
theorem cR(st i):vw st (.r i)=Jw (st[i]?):=rfl
theorem bX(l):Jw (some (.lst l))=some (.lst l):=rfl
theorem Jb(l):Jw (some (.aK l))=some (.aK l):=rfl
theorem uo(l):Jw (some (.eW l))=some (.eW l):=rfl
theorem bk(st d):gk .is st (some d) (some .none)=ok (.t (.bool (isNone d))) st:=rfl
theorem cu(st d):gk .eg st (some d) (some .none)=ok (.t (.bool (!isNone d))) st:=rfl
theorem eE(st a b):gk .ge st (some (.int a)) (some (.int b))=ok (.t (.bool (decide (b<=a)))) st:=rfl
theorem dY(st a b):gk .gt st (some (.int a)) (some (.int b))=ok (.t (.bool (decide (b<a)))) st:=rfl
theorem fY(st a b):gk .lt st (some (.int a)) (some (.int b))=ok (.t (.bool (decide (a<b)))) st:=rfl
theorem cK(st a b):gk .eq st (some (.int a)) (some (.int b))=ok (.t (.bool (decide (a=b)))) st:=rfl
theorem gW(st a b):gk .ne st (some (.int a)) (some (.int b))=ok (.t (.bool (!decide (a=b)))) st:=rfl
theorem cX(st a b):gk .eq st (some (.str a)) (some (.str b))=ok (.t (.bool (decide (a=b)))) st:=rfl
theorem iU(st a b):gk .ne st (some (.str a)) (some (.str b))=ok (.t (.bool (!decide (a=b)))) st:=rfl
theorem x9(st b):gk .ne st (some .none) (some (.int b))=ok (.t (.bool true)) st:=rfl
theorem D6(st b):gk .eq st (some .none) (some (.int b))=ok (.t (.bool false)) st:=rfl
theorem uq(st k l):gk .oq st (some (.str k)) (some (.aK l))=ok (.t (.bool (cj k l).isSome)) st:=rfl
theorem ur(st k l):gk .sQ st (some (.str k)) (some (.aK l))=ok (.t (.bool (!(cj k l).isSome))) st:=rfl
theorem uu(st k l):gk .sQ st (some (.int k)) (some (.eW l))=ok (.t (.bool (!(gP k l).isSome))) st:=rfl
theorem isNone_none:isNone .none=true:=rfl
theorem bN(i):isNone (.int i)=false:=rfl
theorem cB(i):isNone (.str i)=false:=rfl
theorem e8(i):isNone (.tup i)=false:=rfl
theorem mY(i):isNone (.lst i)=false:=rfl
theorem ak(st b):cV st (.t (.bool b))=some b:=rfl
noncomputable def Th(b:Option Bool) (a:AV) (C:fy) (r:List E) (g:Gm) (st:aB):R AV:=gq b (ok a st) (u5 C r g st)
theorem dD(C l g st):ev C (.or l) g st=u5 C l g st:=rfl
theorem fD(C e g st):u5 C [e] g st=ev C e g st:=rfl
theorem dF(C e f r g st):u5 C (e::f::r) g st=(ev C e g st).bind fun a st=>Th (cV st a) a C (f::r) g st:=rfl
theorem j8(a C r g st):Th (some true) a C r g st=ok a st:=rfl
theorem e9(a C r g st):Th (some false) a C r g st=u5 C r g st:=rfl
noncomputable def KY(b:Option Bool) (a:AV) (C:fy) (r:List E) (g:Gm) (st:aB):R AV:=gq b (ni C r g st) (ok a st)
theorem dm(C l g st):ev C (.and l) g st=ni C l g st:=rfl
theorem eT(C e g st):ni C [e] g st=ev C e g st:=rfl
theorem dw(C e f r g st):ni C (e::f::r) g st=(ev C e g st).bind fun a st=>KY (cV st a) a C (f::r) g st:=rfl
theorem eF(a C r g st):KY (some true) a C r g st=ni C r g st:=rfl
theorem kU(a C r g st):KY (some false) a C r g st=ok a st:=rfl
noncomputable def KZ(b:Option Bool) (C:fy) (x y:E) (g:Gm) (st:aB):R AV:=gq b (ev C x g st) (ev C y g st)
theorem cL(C c x y g st):ev C (.ite c x y) g st=(ev C c g st).bind fun a st=>KZ (cV st a) C x y g st:=rfl
theorem fZ(C x y g st):KZ (some true) C x y g st=ev C x g st:=rfl
theorem gf(C x y g st):KZ (some false) C x y g st=ev C y g st:=rfl
theorem kX(C x g st):ev C (.not x) g st=(ev C x g st).bind fun a st=>FY (cV st a) st:=rfl
theorem kY(b st):FY (some b) st=ok (.t (.bool (!b))) st:=rfl
theorem aA(C g st):gj C [] g st=ok [] st:=rfl
theorem aq(C e r g st):gj C (e::r) g st=(ev C e g st).bind fun a st=>(gj C r g st).bind fun as st=>ok (a::as) st:=rfl
noncomputable def Jc(k:Option MK) (m:Mt) (a:AV) (C:fy) (l:List E) (g:Gm) (st:aB):R AV:=u0 k m a (gj C l) g st
theorem br(C m x l g st):ev C (.b4 m x l) g st=(ev C x g st).bind fun a st=>Jc (xm m st a) m a C l g st:=rfl
theorem bu(k m a C l g st):Jc (some k) m a C l g st=(gj C l g st).bind fun as st=>(fE st as).bind fun ds st=>mu m k st a ds:=rfl
theorem aU(m st a):xm m st a=mQ m (vw st a):=rfl
theorem aZ(l):mQ .append (some (.lst l))=some .list:=rfl
theorem D7(l):mQ .index (some (.lst l))=some .list:=rfl
theorem uv(l):mQ .qE (some (.aK l))=some .dict:=rfl
theorem D9(l):mQ .pop (some (.lst l))=some .list:=rfl
theorem ji(st):fE st []=ok [] st:=rfl
theorem cM(st d):fE st [.t d]=ok [d] st:=rfl
theorem mJ(st d e):fE st [.t d,.t e]=ok [d,e] st:=rfl
theorem dH(st d):eX st (.t d)=ok d st:=rfl
theorem bf(st k i d):mu .append k st (.r i) [d]=FT (st[i]?) st i d:=rfl
theorem bV(xs st i d):FT (some (.lst xs)) st i d=if xs.length<2000 then ok (.t .none) (st.set i (.lst (xs++[d]))) else Option.none:=rfl
theorem bW(C f l g st):ev C (.call f l) g st=(gj C l g st).bind fun as st=>C f as st:=rfl
theorem bR(C x i g st):ev C (.sub x i) g st=(ev C x g st).bind fun a st=>(ev C i g st).bind fun b st=>sW st (vw st a) (vw st b):=rfl
theorem fG(st l) (n:Nat):sW st (some (.lst l)) (some (.int n))=sV (l[n]?) st:=rfl
theorem nM(st d l):sW st (some (.tup (d::l))) (some (.int 0))=ok (.t d) st:=rfl
theorem gO(st d e l):sW st (some (.tup (d::e::l))) (some (.int 1))=ok (.t e) st:=rfl
theorem Hs(st d l):sW st (some (.lst (d::l))) (some (.int 0))=ok (.t d) st:=rfl
theorem K0(st l k):sW st (some (.aK l)) (some (.str k))=sV (cj k l) st:=rfl
theorem fH(st d):sV (some d) st=ok (.t d) st:=rfl
theorem b7(C o x y g st):ev C (.bin o x y) g st=(ev C x g st).bind fun a st=>(ev C y g st).bind fun b st=>y9 o st (vw st a) (vw st b):=rfl
theorem ya(st a b):y9 .add st (some (.int a)) (some (.int b))=ok (.t (.int (a+b))) st:=rfl
theorem eO(st a b):y9 .sub st (some (.int a)) (some (.int b))=ok (.t (.int (a-b))) st:=rfl
theorem fc(st a b) (h:b≠0):y9 .mod st (some (.int a)) (some (.int b))=ok (.t (.int (a.fmod b))) st:=by
 show(match(if b=0 then none else some (a.fmod b)) with| some c=>ok (AV.t (.int c)) st|none=>none)=_
 rw[if_neg h]
theorem gF(st a b) (h:¬(b=0\/b.natAbs ≥ 1048576)):y9 .fdiv st (some (.int a)) (some (.int b))=ok (.t (.int (a.fdiv b))) st:=by
 show(match(if b=0\/b.natAbs ≥ 1048576 then none else some (a.fdiv b)) with| some c=>ok (AV.t (.int c)) st|none=>none)=_
 rw[if_neg h]
theorem oY(C x g st):ev C (.neg x) g st=(ev C x g st).bind fun a st=>Jz a st:=rfl
theorem oZ(i st):Jz (.t (.int i)) st=ok (.t (.int (-i))) st:=rfl
theorem cC(C l g st):ev C (.bi .len l) g st=(gj C l g st).bind fun as st=>(uZ st as).bind fun ds st=>xj .len st ds:=rfl
theorem yb(C l g st):ev C (.bi .abs l) g st=(gj C l g st).bind fun as st=>(uZ st as).bind fun ds st=>xj .abs st ds:=rfl
theorem Ea(C l g st):ev C (.bi .max2 l) g st=(gj C l g st).bind fun as st=>(uZ st as).bind fun ds st=>xj .max2 st ds:=rfl
theorem uw(C l g st):ev C (.bi .qD l) g st=(gj C l g st).bind fun as st=>(uZ st as).bind fun ds st=>xj .qD st ds:=rfl
noncomputable def K1(o:Option PV) (st:aB):R (List PV):=match o with| some d=>ok [d] st|none=>none
theorem ek(st a):uZ st [a]=K1 (vw st a) st:=by
 show(match vw st a with| some d=>R.bind (uZ st []) fun ds st=>ok (d::ds) st|none=>none)=_
 unfold K1
 cases vw st a<;>rfl
theorem cY(d st):K1 (some d) st=ok [d] st:=rfl
theorem O8(st d e):uZ st [.t d,.t e]=ok [d,e] st:=rfl
theorem gn(l st):xj .len st [.lst l]=ok (.t (.int l.length)) st:=rfl
theorem Ay(l st):xj .len st [.eW l]=ok (.t (.int l.length)) st:=rfl
theorem Jd(i st):xj .abs st [.int i]=ok (.t (.int i.natAbs)) st:=rfl
theorem O9(a b st):xj .max2 st [.int a,.int b]=ok (.t (.int (max a b))) st:=rfl
noncomputable def Pa(o:Option Bool) (st:aB):R Bool:=oB o fun r=>ok r st
theorem j9(C g st):Bb C none g st=ok true st:=rfl
theorem mK(C c g st):Bb C (some c) g st=(ev C c g st).bind fun b st=>Pa (cV st b) st:=rfl
theorem jn(b st):Pa (some b) st=ok b st:=rfl
theorem Eb(st i k d):Bc st (.r i) k d=xu (st[i]?) st i k d:=rfl
theorem Ht(l st i n d):xu (some (.eW l)) st i (.int n) d=if l.length<2000 then some (st.set i (.eW (xg n d l))) else Option.none:=rfl
theorem Hu(l st i x d):xu (some (.aK l)) st i (.str x) d=if x≠b9/\l.length<2000 then some (st.set i (.aK (putK x d l))) else Option.none:=rfl
theorem eG(C l g st):ev C (.tup l) g st=(gj C l g st).bind fun as st=>(fE st as).bind fun ds st=>ok (.t (.tup ds)) st:=rfl
theorem eH(C l g st):ev C (.list l) g st=(gj C l g st).bind fun as st=>(fE st as).bind fun ds st=>alloc st (.lst ds):=rfl
theorem bS(st nd):alloc st nd=ok (.r st.length) (st++[nd]):=rfl
noncomputable def U8(as:List AV) (st:aB):R AV:=one as fun a=>oB (A6 a) fun n=>UD n st
theorem Pb(n st):U8 [.t (.int n)] st=if -2000<=n/\n<=2000 then alloc st (.lst (cI 0 n)) else Option.none:=rfl
theorem Hv(C l g st):ev C (.bi .dZ l) g st=(gj C l g st).bind fun as st=>U8 as st:=rfl
theorem wj(l:List PV):eqT (.lst l) (.lst [])=some (decide (l.length=0)):=by
 show tQ l.length 0 _ _=_
 unfold tQ
 by_cases h:l.length=0
 ·rw[if_pos h,if_pos h,decide_eq_true h]
 ·rw[if_neg h,decide_eq_false h]
theorem rV(st l):gk .ne st (some (.lst l)) (some (.lst []))=ok (.t (.bool (!decide (l.length=0)))) st:=by
 show jI ((eqT (.lst l) (.lst [])).map (!·)) st=_
 rw[wj];rfl
theorem nN(st l):gk .eq st (some (.lst l)) (some (.lst []))=ok (.t (.bool (decide (l.length=0)))) st:=by
 show jI (eqT (.lst l) (.lst [])) st=_
 rw[wj];rfl
theorem BQ(C l g st):ev C (.bi .list l) g st=(gj C l g st).bind fun as st=>(uZ st as).bind fun ds st=>xj .list st ds:=rfl
theorem K2(l st):xj .list st [.lst l]=alloc st (.lst l):=rfl
theorem BR(st b):gk .eq st (some .none) (some (.str b))=ok (.t (.bool false)) st:=rfl
theorem jo:(!true)=false:=rfl
theorem iE:(!false)=true:=rfl
theorem nO(C:fy):∀(a b:List S) (g:Gm) (st:aB),bO C (a++b) g st=mH (bO C a g st) C b
 |[],b,g,st=>rfl
 |s::a,b,g,st=>by
  rw[List.cons_append,ah,ah]
  cases h:ex C s g st with
  |none=>rfl
  |some o=>induction o with
   |next g' st'=>exact nO C a b g' st'
   |ret _ _=>rfl
   |cont _ _=>rfl
   |exc _ _=>rfl
theorem aN{C:fy}(n:Nat){l:List S}{g g':Gm}{st st':aB}{o:Option Out}(h1:bO C (l.take n) g st=some (.next g' st')) (h2:bO C (l.drop n) g' st'=o):bO C l g st=o:=by
 rw[<-List.take_append_drop n l,nO,h1]
 exact h2
theorem bE{C:fy}{s:S}{r:List S}{g g':Gm}{st st':aB}{o:Option Out}(h1:ex C s g st=some (.next g' st')) (h2:bO C r g' st'=o):bO C (s::r) g st=o:=by
 rw[ah,h1];exact h2
theorem bz{T:Nat->Fn}{k f:Nat}{ds:List PV}{g:Gm}{a:AV}{st st' dQ:aB}{d:PV}(hr:(T f).ref=false) (hs:(T f).start (ds.map AV.t)=some g) (hb:bO (call T k) (T f).body g []=some (.ret a st'))
  (hf:i8 cT st' a=some (d,dQ)):call T (k+1) f (ds.map AV.t) st=ok (.t d) st:=by
 have e:∀(ds:List PV) (st:aB),fE st (ds.map AV.t)=ok ds st:=by
  intro ds;induction ds with
  |nil=>intro st;rfl
  |cons d ds ih =>
   intro st
   show R.bind (ok d st) (fun d st=>(fE st (ds.map AV.t)).bind fun ds st=>ok (d::ds) st)=_
   rw[af,ih,af]
 show fB (call T k) (T f) (ds.map AV.t) st=_
 simp only[fB,hr,e,af,hs]
 show zc st (bO (call T k) (T f).body g [])=_
 rw[hb]
 show JG st (i8 cT st' a)=_
 rw[hf]
 rfl
theorem fK{T:Nat->Fn}{k f:Nat}{ds:List PV}{g:Gm}{st st':aB}{m:Tx}(hr:(T f).ref=false) (hs:(T f).start (ds.map AV.t)=some g) (hb:bO (call T k) (T f).body g []=some (.exc m st')):call T (k+1) f (ds.map AV.t) st=some (.error (m,st)):=by
 have e:∀(ds:List PV) (st:aB),fE st (ds.map AV.t)=ok ds st:=by
  intro ds;induction ds with
  |nil=>intro st;rfl
  |cons d ds ih =>
   intro st
   show R.bind (ok d st) (fun d st=>(fE st (ds.map AV.t)).bind fun ds st=>ok (d::ds) st)=_
   rw[af,ih,af]
 show fB (call T k) (T f) (ds.map AV.t) st=_
 simp only[fB,hr,e,af,hs]
 show zc st (bO (call T k) (T f).body g [])=_
 rw[hb]
 rfl
theorem gX:∀(ds:List PV) (st:aB),fE st (ds.map AV.t)=ok ds st
 |[],st=>rfl
 |d::ds,st=>by
  show R.bind (ok d st) (fun d st=>(fE st (ds.map AV.t)).bind fun ds st=>ok (d::ds) st)=_
  rw[af,gX ds st,af]
theorem Ec{T:Nat->Fn}{k f:Nat}{as:List AV}{ds:List PV}{st st':aB}(hr:(T f).ref=false) (h:fE st as=ok ds st'):call T (k+1) f as st=call T (k+1) f (ds.map AV.t) st':=by
 show fB (call T k) (T f) as st=fB (call T k) (T f) (ds.map AV.t) st'
 simp only[fB,hr,h,gX]
theorem dJ{T:Nat->Fn}{k f:Nat}{l:List E}{g:Gm}{as:List AV}{ds:List PV}{st st1 st2:aB}{r:R AV}(h1:gj (call T (k+1)) l g st=ok as st1) (hr:(T f).ref=false) (h2:fE st1 as=ok ds st2) (h3:call T (k+1) f (ds.map AV.t) st2=r) :
  ev (call T (k+1)) (.call f l) g st=r:=by
 show R.bind (gj (call T (k+1)) l g st) _=r
 rw[h1,af,<-h3]
 exact Ec hr h2
def Turn(f:Gm->aB->Option Out) (n:Nat) (g:Gm) (st:aB) (g':Gm) (st':aB):Prop:=∃g1 st1,(f g st=some (.next g1 st1)\/f g st=some (.cont g1 st1))/\settle n g1 st1=some (g',st')
theorem ux{f:Gm->aB->Option Out}{x n:Nat}{d:PV}{ds:List PV}{g g':Gm}{st st':aB}(h:Turn f n (g.set x (some (.t d))) st g' st'):loop f x n (d::ds) g st=loop f x n ds g' st':=by
 obtain⟨g1,st1,h1|h1,h2⟩:=h<;>simp only[loop,h1,h2]
theorem uy{α:Type}{f:Gm->aB->Option Out}{x n:Nat}(enc:α->PV) (Inv:List α->Gm->aB->Prop) :
  ∀(items pre:List α) (g:Gm) (st:aB),Inv pre g st->(∀(p:List α) (a:α) (q:List α) (g:Gm) (st:aB),pre++items=p++a::q->Inv p g st->∃g' st',Turn f n (g.set x (some (.t (enc a)))) st g' st'/\Inv (p++[a]) g' st') ->
   ∃g' st',loop f x n (items.map enc) g st=some (g',st')/\Inv (pre++items) g' st'
 |[],pre,g,st,h,_=>⟨g,st,rfl,by rw[List.append_nil];exact h⟩
 |a::r,pre,g,st,h,hs=>by
  obtain⟨g1,st1,t,i⟩:=hs pre a r g st rfl h
  have e:pre++a::r=(pre++[a])++r:=by rw[List.append_assoc];rfl
  obtain⟨g2,st2,t2,i2⟩:=uy enc Inv r (pre++[a]) g1 st1 i (by rw[<-e];exact hs)
  exact⟨g2,st2,by rw[List.map_cons,ux t];exact t2,by rw[e];exact i2⟩
theorem dK{α:Type}{f:Gm->aB->Option Out}{x n:Nat}(enc:α->PV) (Inv:List α->Gm->aB->Prop) (items:List α) (g:Gm) (st:aB) (h0:Inv [] g st)
  (hs:∀(p:List α) (a:α) (q:List α) (g:Gm) (st:aB),items=p++a::q->Inv p g st->∃g' st',Turn f n (g.set x (some (.t (enc a)))) st g' st'/\Inv (p++[a]) g' st') :
  ∃g' st',loop f x n (items.map enc) g st=some (g',st')/\Inv items g' st':=uy enc Inv items [] g st h0 hs
theorem yc{k:Kv}{g:Gm}{st st1 st2:aB}{a:AV}{d:PV}{items:List PV}(h1:k g st=ok a st1) (h2:eX st1 a=ok d st2) (h3:mw d=some items):k1 nh k g st=ok items st2:=by
 show R.bind (k g st) _=_
 rw[h1,af]
 show R.bind (eX st1 a) _=_
 rw[h2,af,h3];rfl
theorem wk{k:Gm->aB->R (List AV)}{g:Gm}{st st1:aB}{as:List AV}{items:List PV}(h1:k g st=ok as st1) (h3:sR as=some items):kN qH k g st=ok items st1:=by
 show R.bind (k g st) _=_
 rw[h1,af]
 show oB (sR as) _=_
 rw[h3];rfl
theorem eS{C:fy}{x:Nat}{src:E}{body:List S}{g g':Gm}{st st1 st2 st':aB}{a:AV}{d:PV}{items:List PV}(h1:ev C src g st=ok a st1) (h2:eX st1 a=ok d st2) (h3:mw d=some items)
  (h4:loop (bO C body) x st2.length items g st2=some (g',st')):ex C (.gp x src body) g st=some (.next g' st'):=by
 have e:k1 nh (ev C src) g st=ok items st2:=yc h1 h2 h3
 show R.out (k1 nh (ev C src) g st) _=_
 rw[e,aF,h4];rfl
theorem kZ{C:fy}{x:Nat}{src:List E}{body:List S}{g g':Gm}{st st1 st':aB}{as:List AV}{items:List PV}(h1:gj C src g st=ok as st1) (h3:sR as=some items)
  (h4:loop (bO C body) x st1.length items g st1=some (g',st')):ex C (.forR x src body) g st=some (.next g' st'):=by
 have e:kN qH (gj C src) g st=ok items st1:=wk h1 h3
 show R.out (kN qH (gj C src) g st) _=_
 rw[e,aF,h4];rfl
theorem jB{α:Type}{f:PV->aB->R (Option PV)}{st:aB}(enc:α->PV) (φ:α->Option PV):∀(items:List α),(∀d∈items,∃st',f (enc d) st=some (.ok (φ d,st'))/\back st.length st'=some st)->turns f (items.map enc) st=ok (items.filterMap φ) st
 |[],_=>rfl
 |d::ds,h=>by
  obtain⟨st',h1,h2⟩:=h d (.head _)
  have ih:=jB enc φ ds fun e he=>h e (.tail _ he)
  simp only[List.map_cons,turns,h1,h2,ih,af]
  cases h3:φ d with
  |none=>rw[List.filterMap_cons_none h3]
  |some e=>rw[List.filterMap_cons_some h3]
theorem lT{α:Type}{f:PV->aB->R (Option PV)}{st:aB}(enc φ:α->PV) (items:List α) (h:∀d∈items,∃st',f (enc d) st=some (.ok (some (φ d),st'))/\back st.length st'=some st):turns f (items.map enc) st=ok (items.map φ) st:=by
 rw[jB enc (fun a=>some (φ a)) items h]
 rw[show(fun a=>some (φ a))=some ∘ φ from rfl,List.filterMap_eq_map]
noncomputable def dM(C:fy) (x:Nat) (c:Option E) (e:E) (g:Gm):PV->aB->R (Option PV):=fun d st=>(Bb C c (g.set x (some (.t d))) st).bind fun b st=>if b then(ev C e (g.set x (some (.t d))) st).bind fun a st=>(eX st a).bind fun d st=>ok (some d) st else ok Option.none st
theorem dW{C:fy}{x:Nat}{src:E}{c:Option E}{e:E}{g:Gm}{st st1 st2:aB}{a:AV}{d:PV}{items l:List PV}(h1:ev C src g st=ok a st1) (h2:eX st1 a=ok d st2) (h3:mw d=some items) (h4:turns (dM C x c e g) items st2=ok l st2) :
  ev C (.comp x src c e) g st=alloc st2 (.lst l):=by
 have q:k1 nh (ev C src) g st=ok items st2:=yc h1 h2 h3
 show R.bind (k1 nh (ev C src) g st) _=_
 rw[q,af]
 show R.bind (turns (dM C x c e g) items st2) _=_
 rw[h4,af]
theorem pS{C:fy}{x:Nat}{src:List E}{c:Option E}{e:E}{g:Gm}{st st1:aB}{as:List AV}{items l:List PV}(h1:gj C src g st=ok as st1) (h3:sR as=some items) (h4:turns (dM C x c e g) items st1=ok l st1) :
  ev C (.cO x src c e) g st=alloc st1 (.lst l):=by
 have q:kN qH (gj C src) g st=ok items st1:=wk h1 h3
 show R.bind (kN qH (gj C src) g st) _=_
 rw[q,af]
 show R.bind (turns (dM C x c e g) items st1) _=_
 rw[h4,af]
theorem yd(n:Nat):cI 0 n=(List.range n).map fun(k:Nat)=>PV.int k:=by
 unfold cI
 rw[Int.sub_zero,Int.toNat_natCast]
 exact List.map_congr_left fun k _=>by rw[Int.zero_add]
theorem nP{n:Nat}(h:n<=2000):sR [.t (.int n)]=some ((List.range n).map fun(k:Nat)=>PV.int k):=by
 show(if -2000<=(n:Int)/\(n:Int)<=2000 then some (cI 0 n) else none)=_
 rw[if_pos ⟨by omega,by omega⟩,yd]
noncomputable def vec(k:Tx) (l:List PV) (at_:PV):PV:=.inst .aQ [(aj,.str k),(ai,.lst l),(az,at_),(aX,.bool false)]
noncomputable def cW:PV:=.inst .null [(aj,.str bq),(az,.none)]
noncomputable def pU:PV:=.inst .missing [(aj,.str bF),(az,.none)]
noncomputable def Ti(n:Tx):PV:=.inst .symbol [(aj,.str cU),(iw,.str n),(az,.none)]
noncomputable def bA(l tags:List PV):PV:=.inst .call [(aj,.str aI),(ai,.lst l),(b6,.lst tags),(az,.none),(jM,.none)]
noncomputable def bodyOf(l:List S) (i:Nat):List S:=match l[i]? with
 |some (.gp _ _ b)=>b
 |some (.forR _ _ b)=>b
 |_=>[]
noncomputable def cF:Option Nat->PV
 |none=>.none
 |some i=>.int i
theorem kc:cF none=.none:=rfl
theorem kg(i:Nat):cF (some i)=.int i:=rfl
noncomputable def iZ:Option Int->PV
 |none=>.none
 |some i=>.int i
theorem qc:iZ none=.none:=rfl
theorem l0(i:Int):iZ (some i)=.int i:=rfl
noncomputable def aD:Option Tx->PV
 |none=>.none
 |some s=>.str s
theorem rW:aD none=.none:=rfl
theorem jC(i:Tx):aD (some i)=.str i:=rfl
theorem gg(k l a st):uY st (.t (vec k l a)) ai=ok (.t (.lst l)) st:=rfl
theorem wm(k l a st):uY st (.t (vec k l a)) aj=ok (.t (.str k)) st:=rfl
theorem Pc{α:Type}(a b:α):(if false=true then a else b)=b:=rfl
theorem ye(l a st):uY st (.t (bA l a)) ai=ok (.t (.lst l)) st:=rfl
theorem qv(l a st):uY st (.t (bA l a)) b6=ok (.t (.lst a)) st:=rfl
noncomputable def aT(l:List PV) (lk:PV) (p:Option Nat):PV:=match p.bind (l[·]?) with
 |none=>lk
 |some d=>d
theorem zG(l lk):aT l lk none=lk:=rfl
theorem rX(l lk){i:Nat}(h:l.length<=i):aT l lk (some i)=lk:=by
 show(match l[i]? with| none=>lk|some d=>d)=lk
 rw[List.getElem?_eq_none h]
theorem wo(l lk){i:Nat}(h:i<l.length):aT l lk (some i)=l[i]:=by
 show(match l[i]? with| none=>lk|some d=>d)=l[i]
 rw[List.getElem?_eq_getElem h]
theorem bL{p:Prop} [Decidable p] (h:¬p):decide p=false:=decide_eq_false h
theorem dG{p:Prop} [Decidable p] (h:p):decide p=true:=decide_eq_true h
theorem c6{α:Sort _}{p:Prop} [Decidable p] {a b:α}(h:p):(if p then a else b)=a:=if_pos h
theorem l9{α:Sort _}{p:Prop} [Decidable p] {a b:α}(h:¬p):(if p then a else b)=b:=if_neg h
theorem K3:bodyOf (T 35).body 2=[.ifs (.or [(.cmp .is (.var 4) .none),(.cmp .ge (.var 4) (.var 3))]) [.expr (.b4 .append (.var 2) [(.call 32 [(.attr (.var 0) aj)])])] [.expr (.b4 .append (.var 2) [(.sub (.attr (.var 0) ai) (.var 4))])]]:=rfl
theorem K4(C:fy) (kd:Tx) (l:List PV) (a lk ps:PV) (hC:∀st,C 32 [.t (.str kd)] st=ok (.t lk) st) (found:List PV) (hf:found.length<2000) (p:Option Nat) :
 bO C (bodyOf (T 35).body 2) [some (.t (vec kd l a)),some (.t ps),some (.r 0),some (.t (.int l.length)),some (.t (cF p))] [.lst found]
  = some (.next [some (.t (vec kd l a)),some (.t ps),some (.r 0),some (.t (.int l.length)),some (.t (cF p))] [.lst (found++[aT l lk p])]):=by
 rw[K3]
 induction p with
 |none=>simp only[af,aF,aS,aM,bx,ah,aL,au,av,ay,aH,cS,aG,aV,cR,bX,bk,isNone_none,ak,dD,dF,j8,aA,aq,br,bu,aU,aZ,cM,bf,bV,bW,wm,cG,cP,List.set_cons_zero,kc,c6 hf,hC,zG]
 |some i=>
  by_cases h:l.length<=i
  ·simp only[af,aF,aS,aM,bx,ah,aL,au,av,ay,aH,cS,aG,aV,cR,bX,bk,eE,bN,ak,dD,fD,dF,e9,aA,aq,br,bu,aU,aZ,cM,bf,bV,bW,wm,cG,cP,List.set_cons_zero,kg,c6 hf,hC,rX l lk h,Int.ofNat_le,dG h]
  ·simp only[af,aF,bD,aM,bx,ah,aL,au,av,ay,aH,cS,aG,aV,cR,bX,bk,eE,bN,ak,dD,fD,dF,e9,aA,aq,br,bu,aU,aZ,cM,bf,bV,bR,fG,fH,gg,cG,cP,List.set_cons_zero,kg,c6 hf,wo l lk (Nat.lt_of_not_le h),Int.ofNat_le,bL h,List.getElem?_eq_getElem (Nat.lt_of_not_le h)]
theorem nQ(k:Nat) (kd:Tx) (l:List PV) (a lk:PV) (hk:∀st,call T (k+1) 32 [.t (.str kd)] st=ok (.t lk) st) (ps:List (Option Nat)) (Sy:ps.length<2000) (st:aB) :
  call T (k+2) 35 [.t (vec kd l a),.t (.lst (ps.map cF))] st=ok (.t (.lst (ps.map (aT l lk)))) st:=by
 obtain⟨g',st',h1,x,rfl,rfl⟩:=dK (f:=bO (call T (k+1)) (bodyOf (T 35).body 2)) (x:=4) (n:=1) cF
  (fun pre g st=>∃x,g=[some (.t (vec kd l a)),some (.t (.lst (ps.map cF))),some (.r 0),some (.t (.int l.length)),x]/\st=[.lst (pre.map (aT l lk))])
  ps [some (.t (vec kd l a)),some (.t (.lst (ps.map cF))),some (.r 0),some (.t (.int l.length)),none] [.lst []] ⟨_,rfl,rfl⟩ (by
   rintro p b q g st e ⟨x,rfl,rfl⟩
   refine⟨_,_,⟨_,_,.inl (K4 _ kd l a lk _ hk _ ?_ b),rfl⟩,_,rfl,?_⟩
   ·have:=congrArg List.length e;simp at this ⊢;omega
   ·rw[List.map_append];rfl)
 refine bz (ds:=[vec kd l a,.lst (ps.map cF)]) rfl rfl (aN 2 (g':=[some (.t (vec kd l a)),some (.t (.lst (ps.map cF))),some (.r 0),some (.t (.int l.length)),none]) (st':=[.lst []]) rfl (bE (eS rfl rfl rfl h1) rfl)) rfl
theorem BS(k:Nat) (st:aB):call T (k+2) 32 [.t (.str aE)] st=ok (.t cW) st:=rfl
theorem tn(k:Nat) (st:aB):call T (k+2) 32 [.t (.str bH)] st=ok (.t cW) st:=rfl
theorem nR(k:Nat) (st:aB):call T (k+2) 32 [.t (.str aa)] st=ok (.t .none) st:=rfl
theorem K5:bodyOf (T 36).body 1=[.ifs (.or [(.cmp .is (.var 3) .none),(.cmp .ge (.var 3) (.bi .len [(.var 0)]))]) [.expr (.b4 .append (.var 2) [(.str eN)])] [.expr (.b4 .append (.var 2) [(.sub (.var 0) (.var 3))])]]:=rfl
theorem K6(C:fy) (l:List PV) (ps:PV) (found:List PV) (hf:found.length<2000) (p:Option Nat) :
 bO C (bodyOf (T 36).body 1) [some (.t (.lst l)),some (.t ps),some (.r 0),some (.t (cF p))] [.lst found]
  = some (.next [some (.t (.lst l)),some (.t ps),some (.r 0),some (.t (cF p))] [.lst (found++[aT l (.str eN) p])]):=by
 rw[K5]
 induction p with
 |none=>simp only[af,aF,aS,aM,bx,ah,aL,au,av,ay,aH,bI,aG,aV,cR,bX,bk,isNone_none,ak,dD,dF,j8,aA,aq,br,bu,aU,aZ,cM,bf,bV,cG,cP,List.set_cons_zero,kc,c6 hf,zG]
 |some i=>
  by_cases h:l.length<=i
  ·simp only[af,aF,aS,aM,bx,ah,aL,au,av,ay,aH,bI,aG,aV,cR,bX,bk,eE,bN,ak,dD,fD,dF,e9,aA,aq,br,bu,aU,aZ,cM,bf,bV,cC,ek,cY,gn,cG,cP,List.set_cons_zero,kg,c6 hf,rX l (.str eN) h,Int.ofNat_le,dG h]
  ·simp only[af,aF,bD,aM,bx,ah,aL,au,av,ay,aH,aG,aV,cR,bX,bk,eE,bN,ak,dD,fD,dF,e9,aA,aq,br,bu,aU,aZ,cM,bf,bV,bR,fG,fH,cC,ek,cY,gn,cG,cP,List.set_cons_zero,kg,c6 hf,wo l (.str eN) (Nat.lt_of_not_le h),Int.ofNat_le,bL h,List.getElem?_eq_getElem (Nat.lt_of_not_le h)]
theorem yf(k:Nat) (l:List PV) (ps:List (Option Nat)) (Sy:ps.length<2000) (st:aB) :
  call T (k+1) 36 [.t (.lst l),.t (.lst (ps.map cF))] st=ok (.t (.lst (ps.map (aT l (.str eN))))) st:=by
 obtain⟨g',st',h1,x,rfl,rfl⟩:=dK (f:=bO (call T k) (bodyOf (T 36).body 1)) (x:=3) (n:=1) cF
  (fun pre g st=>∃x,g=[some (.t (.lst l)),some (.t (.lst (ps.map cF))),some (.r 0),x]/\st=[.lst (pre.map (aT l (.str eN)))])
  ps [some (.t (.lst l)),some (.t (.lst (ps.map cF))),some (.r 0),none] [.lst []] ⟨_,rfl,rfl⟩ (by
   rintro p b q g st e ⟨x,rfl,rfl⟩
   refine⟨_,_,⟨_,_,.inl (K6 _ l _ _ ?_ b),rfl⟩,_,rfl,?_⟩
   ·have:=congrArg List.length e;simp at this ⊢;omega
   ·rw[List.map_append];rfl)
 exact bz (ds:=[.lst l,.lst (ps.map cF)]) rfl rfl (aN 1 (g':=[some (.t (.lst l)),some (.t (.lst (ps.map cF))),some (.r 0),none]) (st':=[.lst []]) rfl (bE (eS rfl rfl rfl h1) rfl)) rfl
noncomputable def fP:Option (Int×Int)->PV
 |none=>.none
 |some (a,b)=>.tup [.int a,.int b]
noncomputable def cutD(a b:Int):Int:=if 0<=a then(a.natAbs:Int).fdiv b else 0-(a.natAbs:Int).fdiv b
noncomputable def iF:Option (Int×Int)->Option Int
 |none=>none
 |some (a,b)=>if b=0 then none else some (cutD a b)
noncomputable def FA:Option (Int×Int)->Prop
 |none=>True
 |some (_,b)=>0<=b/\b<1048576
theorem K7:(T 20).body=[.ifs (.not (.call 19 [(.var 0)])) [.bad] [],.assign 1 (.bin .fdiv (.bi .abs [(.sub (.var 0) (.int 0))]) (.sub (.var 0) (.int 1))),.ret (.ite (.cmp .ge (.sub (.var 0) (.int 0)) (.int 0)) (.var 1) (.bin .sub (.int 0) (.var 1)))]:=rfl
theorem uz(k:Nat) (a b:Int) (hb:0<b) (st:aB):call T (k+1) 19 [.t (.tup [.int a,.int b])] st=ok (.t (.bool true)) st:=by
 refine bz (ds:=[.tup [.int a,.int b]]) (a:=.t (.bool true)) (st':=[]) rfl rfl ?_ rfl
 show bO _ [.ret (.and [(.cmp .eg (.var 0) .none),(.cmp .gt (.sub (.var 0) (.int 1)) (.int 0))])] [some (.t (.tup [.int a,.int b]))] []=some (.ret _ [])
 simp only[af,aF,aW,ah,bB,av,ay,aH,bg,aG,aV,cu,dY,e8,ak,dm,eT,dw,eF,bR,gO,iE,cG,dG hb]
theorem Ed(k:Nat) (a b:Int) (hb:0<b) (Zv:b<1048576) (st:aB):call T (k+2) 20 [.t (.tup [.int a,.int b])] st=ok (.t (.int (cutD a b))) st:=by
 refine bz (ds:=[.tup [.int a,.int b]]) (a:=.t (.int (cutD a b))) (st':=[]) rfl rfl ?_ rfl
 rw[K7]
 show bO _ _ [some (.t (.tup [.int a,.int b])),none] []=_
 have h2:¬(b=0\/b.natAbs ≥ 1048576):=by omega
 unfold cutD
 by_cases h:0<=a
 ·simp only[af,aF,bD,aM,aC,aW,ah,aL,au,bB,av,ay,bg,aG,aV,eE,ak,cL,fZ,kX,kY,aA,aq,bW,bR,nM,gO,b7,yb,ek,cY,Jd,jo,cG,cP,List.set_cons_zero,List.set_cons_succ,uz k a b hb,gF _ _ _ h2,dG h,c6 h]
 ·simp only[af,aF,bD,aM,aC,aW,ah,aL,au,bB,av,ay,bg,aG,aV,eE,ak,cL,gf,kX,kY,aA,aq,bW,bR,nM,gO,b7,eO,yb,ek,cY,Jd,jo,cG,cP,List.set_cons_zero,List.set_cons_succ,uz k a b hb,gF _ _ _ h2,bL h,l9 h]
theorem K8:bodyOf (T 21).body 2=[.ifs (.or [(.cmp .is (.var 2) .none),(.cmp .eq (.sub (.var 2) (.int 1)) (.int 0))]) [.expr (.b4 .append (.var 1) [.none])] [.expr (.b4 .append (.var 1) [(.call 20 [(.var 2)])])]]:=rfl
theorem K9(k:Nat) (v:AV) (found:List PV) (hf:found.length<2000) (p:Option (Int×Int)) (hp:FA p) :
 bO (call T (k+2)) (bodyOf (T 21).body 2) [some v,some (.r 0),some (.t (fP p))] [.lst found]
  = some (.next [some v,some (.r 0),some (.t (fP p))] [.lst (found++[iZ (iF p)])]):=by
 rw[K8]
 match p,hp with
 |none,_=>simp only[af,aF,aS,aM,bx,ah,aL,au,av,ay,aH,aG,aV,cR,bX,bk,isNone_none,ak,dD,dF,j8,aA,aq,br,bu,aU,aZ,cM,bf,bV,cG,cP,List.set_cons_zero,qc,c6 hf,fP,iF]
 |some (a,b),hp =>
  by_cases h:b=0
  ·subst h;simp only[af,aF,aS,aM,bx,ah,aL,au,av,ay,aH,bg,aG,aV,cR,bX,bk,cK,e8,ak,dD,fD,dF,e9,aA,aq,br,bu,aU,aZ,cM,bf,bV,bR,gO,cG,cP,List.set_cons_zero,qc,if_true,decide_true,c6 hf,fP,iF]
  ·have h1:0<b:=by have:=hp.1;omega
   simp only[af,aF,bD,aM,bx,ah,aL,au,av,ay,aH,bg,aG,aV,cR,bX,bk,cK,e8,ak,dD,fD,dF,e9,aA,aq,br,bu,aU,aZ,cM,bf,bV,bW,bR,gO,cG,cP,List.set_cons_zero,l0,c6 hf,fP,iF,bL h,l9 h,Ed k a b h1 hp.2]
theorem wu(k:Nat) (l:List (Option (Int×Int))) (a:PV) (hl:l.length<2000) (hd:∀p∈l,FA p) (st:aB) :
  call T (k+3) 21 [.t (vec aY (l.map fP) a)] st=ok (.t (.lst (l.map fun p=>iZ (iF p)))) st:=by
 obtain⟨g',st',h1,x,rfl,rfl⟩:=dK (f:=bO (call T (k+2)) (bodyOf (T 21).body 2)) (x:=2) (n:=1) fP
  (fun pre g st=>∃x,g=[some (.t (vec aY (l.map fP) a)),some (.r 0),x]/\st=[.lst (pre.map (fun p=>iZ (iF p)))])
  l [some (.t (vec aY (l.map fP) a)),some (.r 0),none] [.lst []] ⟨_,rfl,rfl⟩ (by
   rintro p b q g st e ⟨x,rfl,rfl⟩
   refine⟨_,_,⟨_,_,.inl (K9 _ _ _ ?_ b (hd b ?_)),rfl⟩,_,rfl,?_⟩
   ·have:=congrArg List.length e;simp at this ⊢;omega
   ·rw[e];simp
   ·rw[List.map_append];rfl)
 exact bz (ds:=[vec aY (l.map fP) a]) rfl rfl (aN 2 (g':=[some (.t (vec aY (l.map fP) a)),some (.r 0),none]) (st':=[.lst []]) rfl (bE (eS rfl rfl rfl h1) rfl)) rfl
theorem jq(k:Nat) (l:List PV) (a:PV) (st:aB):call T (k+3) 21 [.t (vec aa l a)] st=ok (.t (.lst l)) st:=rfl
noncomputable def rY:Option Int->Option (Option Nat)
 |none=>some none
 |some i=>if 0<i then some (some (i-1).toNat) else none
noncomputable def posOf(l:List (Option Int)):List (Option Nat):=l.filterMap rY
noncomputable def qd(D:List (Int×PV)):Option Int->List (Int×PV)
 |none=>D
 |some i=>if i<0 then xg (-i-1) (.bool true) D else D
noncomputable def jP(l:List (Option Int)):List (Int×PV):=l.foldl qd []
noncomputable def iW:Option Int->Bool
 |none=>false
 |some i=>decide (i<0)
noncomputable def iz(l:List (Option Int)):Bool:=l.any iW
noncomputable def dR(l:List (Option Int)):Bool:=l.any Option.isNone
theorem zH{α:Type}(k k':Int) (v:α):∀(l:List (Int×α)),(gP k (xg k' v l)).isSome=(decide (k'=k)||(gP k l).isSome):=by
 have h1:∀(l:List (Int×α)),(gP k (l.map (fun p=>if p.1=k' then(p.1,v) else p))).isSome=(gP k l).isSome:=by
  intro l;induction l with
  |nil=>rfl
  |cons p r ih =>
   simp only[List.map_cons,gP]
   by_cases h:p.1=k'
   ·rw[if_pos h];by_cases h2:p.1=k<;>simp[h2,ih]
   ·rw[if_neg h];by_cases h2:p.1=k<;>simp[h2,ih]
 have h2:∀(l:List (Int×α)),(gP k (l++[(k',v)])).isSome=(decide (k'=k)||(gP k l).isSome):=by
  intro l;induction l with
  |nil=>simp only[List.nil_append,gP];by_cases h:k'=k<;>simp[h]
  |cons p r ih=>simp only[List.cons_append,gP];by_cases h:p.1=k<;>simp[h,ih]
 have h3:∀(l:List (Int×α)),l.any (fun p=>decide (p.1=k'))=true->k'=k->(gP k l).isSome=true:=by
  intro l;induction l with
  |nil=>intro h;injection h
  |cons p r ih =>
   intro h e;simp only[gP]
   by_cases h2:p.1=k
   ·simp[h2]
   ·rw[if_neg h2];refine ih ?_ e;simpa [e,h2] using h
 intro l
 unfold xg
 by_cases h:l.any (fun p=>decide (p.1=k'))=true
 ·rw[if_pos h,h1]
  by_cases e:k'=k
  ·rw[h3 l h e];simp
  ·simp[e]
 ·rw[if_neg h,h2]
theorem yg{α:Type}(k:Int) (v:α) (l:List (Int×α)):(xg k v l).length<=l.length+1/\0<(xg k v l).length:=by
 unfold xg
 by_cases h:l.any (fun p=>decide (p.1=k))=true
 ·rw[if_pos h];induction l with
  |nil=>injection h
  |cons=>simp
 ·rw[if_neg h];simp
theorem lU(l:List (Option Int)) (a:Option Int):jP (l++[a])=qd (jP l) a:=by
 unfold jP;rw[List.foldl_append];rfl
theorem snoc_ind{α:Type}{P:List α->Prop}(h0:P []) (hs:∀l a,P l->P (l++[a])) (l:List α):P l:=by
 have:∀(r:List α),P r.reverse:=by
  intro r;induction r with
  |nil=>exact h0
  |cons a r ih=>rw[List.reverse_cons];exact hs _ _ ih
 have h:=this l.reverse
 rwa [List.reverse_reverse] at h
theorem Ef(l:List (Option Int)):(jP l).length<=l.length:=by
 induction l using snoc_ind with
 |h0=>exact Nat.le_refl _
 |hs l a ih =>
  rw[lU,List.length_append]
  induction a with
  |none=>simp[qd];omega
  |some i =>
   simp only[qd]
   by_cases h:i<0
   ·rw[if_pos h];have:=(yg (-i-1) (.bool true) (jP l)).1;simp;omega
   ·rw[if_neg h];simp;omega
theorem yh(l:List (Option Int)):(jP l).length=0↔iz l=false:=by
 induction l using snoc_ind with
 |h0=>exact⟨fun _=>rfl,fun _=>rfl⟩
 |hs l a ih =>
  rw[lU,iz,List.any_append]
  rw[iz] at ih
  induction a with
  |none=>simp only[qd,List.any_cons,List.any_nil,iW,Bool.or_false];exact ih
  |some i =>
   simp only[qd,List.any_cons,List.any_nil,iW,Bool.or_false]
   by_cases h:i<0
   ·rw[if_pos h];have:=(yg (-i-1) (.bool true) (jP l)).2
    rw[decide_eq_true h,Bool.or_true]
    exact⟨fun e=>by omega,fun e=>by injection e⟩
   ·rw[if_neg h,decide_eq_false h,Bool.or_false];exact ih
theorem uA(l:List (Option Int)) (k:Nat):(gP (k:Int) (jP l)).isSome=decide (some (-(k:Int)-1)∈l):=by
 induction l using snoc_ind with
 |h0=>rfl
 |hs l a ih =>
  rw[lU]
  induction a with
  |none=>simp only[qd];rw[ih];simp
  |some i =>
   simp only[qd]
   by_cases h:i<0
   ·rw[if_pos h,zH,ih]
    have e1:(-i-1=(k:Int))↔(-(k:Int)-1=i):=by omega
    simp only[List.mem_append,List.mem_singleton,Option.some.injEq,Bool.decide_or,e1]
    exact Bool.or_comm _ _
   ·rw[if_neg h,ih]
    have e1:¬(-(k:Int)-1=i):=by omega
    simp only[List.mem_append,List.mem_singleton,Option.some.injEq,e1,or_false]
theorem La:bodyOf (T 23).body 3=[.ifs (.cmp .is (.var 5) .none) [.assign 4 (.bool true),.expr (.b4 .append (.var 2) [.none])] [.ifs (.cmp .gt (.var 5) (.int 0)) [.expr (.b4 .append (.var 2) [(.bin .sub (.var 5) (.int 1))])] [.ifs (.cmp .lt (.var 5) (.int 0)) [.dP (.var 3) (.bin .sub (.neg (.var 5)) (.int 1)) (.bool true)] []]]]:=rfl
theorem zI(l:List (Option Int)) (a:Option Int):posOf (l++[a])=posOf l++(rY a).toList:=by
 unfold posOf;rw[List.filterMap_append]
 cases h:rY a with
 |none=>rw[List.filterMap_cons_none h];rfl
 |some b=>rw[List.filterMap_cons_some h];rfl
theorem uB(l:List (Option Int)):(posOf l).length<=l.length:=List.length_filterMap_le _ _
theorem wz(l:List (Option Int)) (a:Option Int):dR (l++[a])=(dR l||a.isNone):=by
 unfold dR;rw[List.any_append];simp
theorem Lb(C:fy) (v n:AV) (pre:List (Option Int)) (hf:pre.length<2000) (p:Option Int) :
 bO C (bodyOf (T 23).body 3) [some v,some n,some (.r 0),some (.r 1),some (.t (.bool (dR pre))),some (.t (iZ p)),none] [.lst ((posOf pre).map cF),.eW (jP pre)]
  = some (.next [some v,some n,some (.r 0),some (.r 1),some (.t (.bool (dR (pre++[p])))),some (.t (iZ p)),none] [.lst ((posOf (pre++[p])).map cF),.eW (jP (pre++[p]))]):=by
 rw[La,wz,zI,lU,List.map_append]
 have h1:(posOf pre).length<2000:=Nat.lt_of_le_of_lt (uB pre) hf
 have h2:(jP pre).length<2000:=Nat.lt_of_le_of_lt (Ef pre) hf
 match p with
 |none=>simp only[af,aF,aS,aM,bx,aC,ah,aL,au,av,ay,aH,wh,aG,aV,cR,bX,bk,isNone_none,ak,aA,aq,br,bu,aU,aZ,cM,bf,bV,cG,cP,List.set_cons_zero,List.set_cons_succ,kc,qc,List.length_map,c6 h1,rY,qd,Option.toList,List.map_cons,List.map_nil,Option.isNone,Bool.or_true]
 |some i =>
  by_cases h:0<i
  ·have h3:¬i<0:=by omega
   have h4:((i-1).toNat:Int)=i-1:=Int.toNat_of_nonneg (by omega)
   simp only[af,aF,aS,bD,aM,bx,ah,aL,au,av,ay,aH,bg,aG,aV,cR,bX,bk,dY,bN,ak,aA,aq,br,bu,aU,aZ,cM,bf,bV,b7,eO,cG,cP,List.set_cons_zero,kg,l0,List.length_map,c6 h1,rY,qd,Option.toList,List.map_cons,List.map_nil,Option.isNone,Bool.or_false,dG h,c6 h,l9 h3,h4]
  ·by_cases h3:i<0
   ·simp only[af,aF,aS,bD,aM,rU,Aw,Ax,ah,aL,au,av,ay,aH,bg,wh,aG,aV,bk,dY,fY,bN,ak,dH,b7,eO,oY,oZ,Eb,Ht,cG,cP,List.set_cons_zero,List.set_cons_succ,l0,c6 h2,rY,qd,Option.toList,List.map_nil,Option.isNone,Bool.or_false,bL h,l9 h,c6 h3,dG h3,List.append_nil]
   ·simp only[af,aF,bD,aM,ah,aL,au,av,ay,aH,bg,aG,aV,bk,dY,fY,bN,ak,cG,cP,l0,rY,qd,Option.toList,List.map_nil,Option.isNone,Bool.or_false,bL h,l9 h,l9 h3,bL h3,List.append_nil]
noncomputable def gG(l:List (Option Int)) (n:Nat):List (Option Nat):=(List.range n).filterMap fun(k:Nat)=>if some (-(k:Int)-1)∈l then none else some (some k)
noncomputable def cD(l:List (Option Int)) (n:Nat):Except Tx (List (Option Nat)) :=
 if iz l=false then .ok (posOf l) else if dR l=true then .error bZ else if 0<(posOf l).length then .error b3 else .ok (gG l n)
noncomputable def Eg:Except Tx (List (Option Nat))->aB->R AV
 |.ok pl,st=>ok (.t (.lst (pl.map cF))) st
 |.error m,st=>some (.error (m,st))
theorem nS(k:Nat) (l:List (Option Int)) (n:Nat) (hl:l.length<2000) (hn:n<=2000) (st:aB):call T (k+1) 23 [.t (.lst (l.map iZ)),.t (.int n)] st=Eg (cD l n) st:=by
 obtain⟨g',st',h1,x,rfl,rfl⟩:=dK (f:=bO (call T k) (bodyOf (T 23).body 3)) (x:=5) (n:=2) iZ
  (fun pre g st=>∃x,g=[some (.t (.lst (l.map iZ))),some (.t (.int n)),some (.r 0),some (.r 1),some (.t (.bool (dR pre))),x,none]/\st=[.lst ((posOf pre).map cF),.eW (jP pre)])
  l [some (.t (.lst (l.map iZ))),some (.t (.int n)),some (.r 0),some (.r 1),some (.t (.bool false)),none,none] [.lst [],.eW []] ⟨_,rfl,rfl⟩ (by
   rintro p b q g st e ⟨x,rfl,rfl⟩
   refine⟨_,_,⟨_,_,.inl (Lb _ _ _ _ ?_ b),rfl⟩,_,rfl,rfl⟩
   have:=congrArg List.length e;simp at this ⊢;omega)
 have pre:=fun{o:Option Out} h2=>aN (C:=call T k) (l:=(T 23).body) (o:=o) 3 (g:=[some (.t (.lst (l.map iZ))),some (.t (.int n)),none,none,none,none,none]) (st:=[]) (g':=[some (.t (.lst (l.map iZ))),some (.t (.int n)),some (.r 0),some (.r 1),some (.t (.bool false)),none,none]) (st':=[.lst [],.eW []]) rfl
  (bE (eS rfl rfl rfl h1) h2)
 change (∀{o:Option Out},bO (call T k) [.ifs (.cmp .eq (.bi .len [(.var 3)]) (.int 0)) [.ret (.var 2)] [],.ifs (.var 4) [.raise (.str bZ)] [],.ifs (.cmp .gt (.bi .len [(.var 2)]) (.int 0)) [.raise (.str b3)] [],.ret (.cO 6 [(.var 1)] (some (.cmp .sQ (.var 6) (.var 3))) (.var 6))] _ _=o->_) at pre
 unfold cD
 by_cases n1:iz l=false
 ·rw[if_pos n1]
  have n2:((jP l).length:Int)=0:=by have:=(yh l).2 n1;omega
  exact bz (ds:=[.lst (l.map iZ),.int n]) rfl rfl (pre (by simp only[af,aF,aS,aM,aW,ah,bB,av,ay,bg,aG,aV,cR,uo,cK,ak,aA,aq,cC,ek,cY,Ay,cG,cP,dG n2];rfl)) rfl
 ·rw[if_neg n1]
  have n2:¬((jP l).length:Int)=0:=fun e=>n1 ((yh l).1 (by omega))
  by_cases m1:dR l=true
  ·rw[if_pos m1]
   exact fK (ds:=[.lst (l.map iZ),.int n]) rfl rfl (pre (by simp only[af,aF,aS,bD,aM,rS,rT,ah,aL,au,kT,av,ay,bI,bg,aG,aV,cR,uo,cK,ak,aA,aq,cC,ek,cY,Ay,cG,cP,bL n2,m1];rfl))
  ·rw[if_neg m1]
   by_cases p1:0<(posOf l).length
   ·rw[if_pos p1]
    have p2:(0:Int)<((posOf l).length:Int):=by omega
    exact fK (ds:=[.lst (l.map iZ),.int n]) rfl rfl (pre (by simp only[af,aF,aS,bD,aM,rS,rT,ah,aL,au,kT,av,ay,bI,bg,aG,aV,cR,bX,uo,dY,cK,ak,aA,aq,cC,ek,cY,gn,Ay,cG,cP,List.length_map,bL n2,(Bool.not_eq_true _).mp m1,dG p2];rfl))
   ·rw[if_neg p1]
    have p2:¬(0:Int)<((posOf l).length:Int):=by omega
    have h3:turns (dM (call T k) 6 (some (.cmp .sQ (.var 6) (.var 3))) (.var 6) [some (.t (.lst (l.map iZ))),some (.t (.int n)),some (.r 0),some (.r 1),some (.t (.bool (dR l))),x,none]) ((List.range n).map fun(k:Nat)=>PV.int k) [.lst ((posOf l).map cF),.eW (jP l)]
      = ok ((List.range n).filterMap fun(k:Nat)=>if some (-(k:Int)-1)∈l then none else some (PV.int k)) [.lst ((posOf l).map cF),.eW (jP l)]:=by
     refine jB _ _ _ fun d _=>⟨[.lst ((posOf l).map cF),.eW (jP l)],?_,rfl⟩
     unfold dM
     by_cases q:some (-(d:Int)-1)∈l
     ·simp only[af,av,ay,aG,aV,cR,uo,uu,ak,dH,mK,jn,jo,Pc,cG,cP,List.set_cons_zero,List.set_cons_succ,uA,dG q,c6 q]
     ·simp only[af,av,ay,aG,aV,cR,uo,uu,ak,dH,mK,jn,iE,cG,cP,List.set_cons_zero,List.set_cons_succ,if_true,uA,bL q,l9 q]
    have h4:((List.range n).filterMap fun(k:Nat)=>if some (-(k:Int)-1)∈l then none else some (PV.int k))=(gG l n).map cF:=by
     unfold gG
     rw[List.map_filterMap]
     congr 1;funext j
     by_cases q:some (-(j:Int)-1)∈l
     ·rw[if_pos q,if_pos q];rfl
     ·rw[if_neg q,if_neg q];rfl
    rw[h4] at h3
    refine bz (ds:=[.lst (l.map iZ),.int n]) (a:=.r 2) (st':=[.lst ((posOf l).map cF),.eW (jP l),.lst ((gG l n).map cF)]) rfl rfl (pre ?_) rfl
    have h5:=pS (C:=call T k) (src:=[.var 1]) (g:=[some (.t (.lst (l.map iZ))),some (.t (.int n)),some (.r 0),some (.r 1),some (.t (.bool (dR l))),x,none]) (st:=[.lst ((posOf l).map cF),.eW (jP l)]) rfl (nP hn) h3
    rw[(Bool.not_eq_true _).mp m1] at h5
    simp only[af,aF,bD,aM,aW,ah,aL,au,bB,av,ay,bg,aG,aV,cR,bX,uo,dY,cK,ak,aA,aq,cC,ek,cY,gn,Ay,cG,cP,List.length_map,List.cons_append,List.nil_append,List.length_cons,List.length_nil,Nat.zero_add,Nat.reduceAdd,bL n2,(Bool.not_eq_true _).mp m1,bL p2,h5,alloc]
noncomputable def zJ(k:Nat):Option (Option Int)->Option (Option Nat)
 |some none=>some none
 |some (some v)=>if v=0 then none else some (some k)
 |none=>none
noncomputable def wA(l:List (Option Int)) (k:Nat):Option (Option Nat):=zJ k (l[k % l.length]?)
noncomputable def jQ(l:List (Option Int)) (n:Nat):List (Option Nat):=if l.length=0 then[] else(List.range (max n l.length)).filterMap (wA l)
theorem Lc:bodyOf (T 22).body 3=[.assign 5 (.sub (.var 0) (.bin .mod (.var 4) (.var 2))),.ifs (.cmp .is (.var 5) .none) [.expr (.b4 .append (.var 3) [.none])] [.ifs (.cmp .ne (.var 5) (.int 0)) [.expr (.b4 .append (.var 3) [(.var 4)])] []]]:=rfl
theorem jD(a b:Nat):(a:Int).fmod (b:Int)=((a % b:Nat):Int):=(Int.ofNat_fmod a b).symm
theorem Ld(C:fy) (l:List (Option Int)) (hl:0<l.length) (n x:Option AV) (found:List (Option Nat)) (hf:found.length<2000) (k:Nat) :
 bO C (bodyOf (T 22).body 3) [some (.t (.lst (l.map iZ))),n,some (.t (.int l.length)),some (.r 0),some (.t (.int k)),x] [.lst (found.map cF)]
  = some (.next [some (.t (.lst (l.map iZ))),n,some (.t (.int l.length)),some (.r 0),some (.t (.int k)),some (.t (iZ (l[k % l.length]'(Nat.mod_lt _ hl))))] [.lst ((found++(wA l k).toList).map cF)]):=by
 have hj:k % l.length<l.length:=Nat.mod_lt _ hl
 have h1:((l.length:Int))≠0:=by omega
 have h2:(l.map iZ)[k % l.length]? = some (iZ l[k % l.length]):=by rw[List.getElem?_map,List.getElem?_eq_getElem hj];rfl
 rw[Lc]
 unfold wA
 rw[List.getElem?_eq_getElem hj]
 generalize l[k % l.length]=q at h2
 match q,h2 with
 |none,h2=>simp only[af,aF,aS,aM,bx,aC,ah,aL,au,av,ay,aH,aG,aV,cR,bX,bk,isNone_none,ak,aA,aq,br,bu,aU,aZ,cM,bf,bV,bR,fG,fH,b7,cG,cP,List.set_cons_zero,List.set_cons_succ,kc,qc,List.length_map,c6 hf,fc _ _ _ h1,jD,h2,zJ,Option.toList,List.map_append,List.map_cons,List.map_nil]
 |some v,h2 =>
  by_cases h:v=0
  ·simp only[af,aF,bD,aM,aC,ah,aL,au,av,ay,aH,bg,aG,aV,bk,gW,bN,ak,bR,fG,fH,b7,jo,cG,cP,List.set_cons_zero,List.set_cons_succ,l0,fc _ _ _ h1,jD,h2,zJ,Option.toList,List.append_nil,dG h,c6 h]
  ·simp only[af,aF,aS,bD,aM,bx,aC,ah,aL,au,av,ay,aH,bg,aG,aV,cR,bX,bk,gW,bN,ak,aA,aq,br,bu,aU,aZ,cM,bf,bV,bR,fG,fH,b7,iE,cG,cP,List.set_cons_zero,List.set_cons_succ,kg,l0,List.length_map,c6 hf,fc _ _ _ h1,jD,h2,zJ,Option.toList,List.map_append,List.map_cons,List.map_nil,bL h,l9 h]
theorem k6{α β:Type}(f:α->Option β) (l:List α) (a:α):(l++[a]).filterMap f=l.filterMap f++(f a).toList:=by
 rw[List.filterMap_append]
 cases h:f a with
 |none=>rw[List.filterMap_cons_none h];rfl
 |some b=>rw[List.filterMap_cons_some h];rfl
theorem rZ(k:Nat) (l:List (Option Int)) (n:Nat) (hl:l.length<2000) (hn:n<2000) (st:aB):call T (k+1) 22 [.t (.lst (l.map iZ)),.t (.int n)] st=ok (.t (.lst ((jQ l n).map cF))) st:=by
 unfold jQ
 by_cases h0:l.length=0
 ·rw[if_pos h0]
  obtain rfl:=List.eq_nil_of_length_eq_zero h0
  exact bz (ds:=[.lst [],.int n]) rfl rfl rfl rfl
 ·rw[if_neg h0]
  have Tj:0<l.length:=Nat.pos_of_ne_zero h0
  have Tn:¬((l.length:Int)=0):=by omega
  obtain⟨g',st',h1,x,y,rfl,rfl⟩:=dK (f:=bO (call T k) (bodyOf (T 22).body 3)) (x:=4) (n:=1) (fun(k:Nat)=>PV.int k)
   (fun pre g st=>∃x y,g=[some (.t (.lst (l.map iZ))),some (.t (.int n)),some (.t (.int l.length)),some (.r 0),x,y]/\st=[.lst ((pre.filterMap (wA l)).map cF)])
   (List.range (max n l.length)) [some (.t (.lst (l.map iZ))),some (.t (.int n)),some (.t (.int l.length)),some (.r 0),none,none] [.lst []] ⟨_,_,rfl,rfl⟩ (by
    rintro p b q g st e ⟨x,y,rfl,rfl⟩
    refine⟨_,_,⟨_,_,.inl (Ld _ l Tj _ _ _ ?_ b),rfl⟩,_,_,rfl,?_⟩
    ·have:=congrArg List.length e;have h:=List.length_filterMap_le (wA l) p;simp at this ⊢;omega
    ·rw[k6];rfl)
  have hr:sR [.t (.int (max (n:Int) (l.length:Int)))]=some ((List.range (max n l.length)).map fun(k:Nat)=>PV.int k):=by
   rw[show max (n:Int) (l.length:Int)=((max n l.length:Nat):Int) by omega]
   exact nP (by omega)
  refine bz (ds:=[.lst (l.map iZ),.int n]) (g:=[some (.t (.lst (l.map iZ))),some (.t (.int n)),none,none,none,none]) rfl rfl (aN 3 (g':=[some (.t (.lst (l.map iZ))),some (.t (.int n)),some (.t (.int l.length)),some (.r 0),none,none]) (st':=[.lst []]) ?_ (bE (kZ rfl hr h1) rfl)) rfl
  show bO _ [.assign 2 (.bi .len [(.var 0)]),.ifs (.cmp .eq (.var 2) (.int 0)) [.ret (.list [])] [],.assign 3 (.list [])] _ _=_
  simp only[af,aF,bD,aM,aC,ah,aL,au,av,ay,bg,aG,aV,cK,ak,aA,aq,ji,cC,ek,cY,gn,eH,bS,cG,cP,List.set_cons_zero,List.set_cons_succ,List.length_map,List.nil_append,List.length_nil,bL Tn]
noncomputable def d9(s:Tx):List (Option Tx)->Option Nat
 |[]=>none
 |a::r=>if a=some s then some 0 else(d9 s r).map (· + 1)
theorem uC(s:Tx) (a:Option Tx):∀(l:List (Option Tx)),d9 s (l++[a])=match d9 s l with
  |some i=>some i
  |none=>if a=some s then some l.length else none
 |[]=>by
  show(if a=some s then some 0 else(d9 s []).map _)=if a=some s then some 0 else none
  rfl
 |b::r=>by
  show(if b=some s then some 0 else(d9 s (r++[a])).map (· + 1))=match(if b=some s then some 0 else(d9 s r).map (· + 1)) with
   |some i=>some i
   |none=>if a=some s then some (r.length+1) else none
  by_cases h:b=some s
  ·rw[if_pos h,if_pos h]
  ·rw[if_neg h,if_neg h,uC s a r]
   cases d9 s r with
   |some i=>rfl
   |none=>by_cases h2:a=some s<;>simp[h2]
theorem wB{s:Tx}{l:List (Option Tx)}{i:Nat}(h:d9 s l=some i):i<l.length:=by
 induction l generalizing i with
 |nil=>injection h
 |cons a r ih =>
  rw[d9] at h
  by_cases h2:a=some s
  ·rw[if_pos h2] at h;(injection h with h;subst h);simp
  ·rw[if_neg h2] at h
   obtain⟨j,hj,rfl⟩:=Option.map_eq_some_iff.mp h
   have:=ih hj;simp;omega
noncomputable def qe(D:List (Tx×PV)) (i:Nat):Option Tx->List (Tx×PV)
 |none=>D
 |some s=>if s=[] then D else if(cj s D).isSome=true then D else D++[(s,.int i)]
noncomputable def yi:List (Option Tx)->List (Tx×PV)×Nat:=fun l=>l.foldl (fun q x=>(qe q.1 q.2 x,q.2+1)) ([],0)
noncomputable def wY(l:List (Option Tx)):List (Tx×PV):=(yi l).1
theorem uD(l:List (Option Tx)) (a:Option Tx):yi (l++[a])=(qe (yi l).1 (yi l).2 a,(yi l).2+1):=by
 unfold yi;rw[List.foldl_append];rfl
theorem Eh(l:List (Option Tx)):(yi l).2=l.length:=by
 induction l using snoc_ind with
 |h0=>rfl
 |hs l a ih=>rw[uD];show(yi l).2+1=_;rw[ih];simp
theorem r9(l:List (Option Tx)) (a:Option Tx):wY (l++[a])=qe (wY l) l.length a:=by
 unfold wY;rw[uD,Eh]
theorem Ei(D:List (Tx×PV)) (i:Nat) (a:Option Tx):(qe D i a).length<=D.length+1:=by
 induction a with
 |none=>simp[qe]
 |some s =>
  simp only[qe]
  by_cases h:s=[]
  ·rw[if_pos h];omega
  ·rw[if_neg h];by_cases h2:(cj s D).isSome=true
   ·rw[if_pos h2];omega
   ·rw[if_neg h2];simp
theorem Hw(l:List (Option Tx)):(wY l).length<=l.length:=by
 induction l using snoc_ind with
 |h0=>exact Nat.le_refl _
 |hs l a ih=>rw[r9];have:=Ei (wY l) l.length a;simp;omega
theorem uE{α:Type}(s t:Tx) (v:α):∀(D:List (Tx×α)),cj s (D++[(t,v)])=match cj s D with
  |some d=>some d
  |none=>if t=s then some v else none
 |[]=>rfl
 |p::r=>by
  show(if p.1=s then some p.2 else cj s (r++[(t,v)]))=match(if p.1=s then some p.2 else cj s r) with
   |some d=>some d
   |none=>if t=s then some v else none
  by_cases h:p.1=s
  ·rw[if_pos h,if_pos h]
  ·rw[if_neg h,if_neg h,uE s t v r]
theorem Ej(s:Tx) (l:List (Option Tx)):cj s (wY l)=if s=[] then none else(d9 s l).map fun(i:Nat)=>PV.int i:=by
 induction l using snoc_ind with
 |h0=>by_cases h:s=[]<;>simp[h]<;>rfl
 |hs l a ih =>
  rw[r9,uC]
  induction a with
  |none =>
   simp only[qe];rw[ih]
   by_cases h:s=[]
   ·rw[if_pos h,if_pos h]
   ·rw[if_neg h,if_neg h];cases d9 s l<;>simp
  |some t =>
   simp only[qe]
   by_cases ht:t=[]
   ·rw[if_pos ht,ih]
    by_cases h:s=[]
    ·rw[if_pos h,if_pos h]
    ·have:¬(some t=some s):=fun e=>h (by rw[<-Option.some.inj e,ht])
     rw[if_neg h,if_neg h];cases d9 s l<;>simp[this]
   ·rw[if_neg ht]
    by_cases hd:(cj t (wY l)).isSome=true
    ·rw[if_pos hd,ih]
     by_cases h:s=[]
     ·rw[if_pos h,if_pos h]
     ·rw[if_neg h,if_neg h]
      cases hs:d9 s l with
      |some i=>rfl
      |none =>
       by_cases e:t=s
       ·subst e;rw[ih,if_neg h,hs] at hd;injection hd
       ·simp[e]
    ·rw[if_neg hd,uE,ih]
     by_cases h:s=[]
     ·have:¬(t=s):=fun e=>ht (e.trans h)
      rw[if_pos h,if_pos h];simp[this]
     ·rw[if_neg h,if_neg h]
      cases hs:d9 s l with
      |some i=>rfl
      |none=>by_cases e:t=s<;>simp[e]
theorem BU{α:Type}{s:Tx}{v:α}:∀{D:List (Tx×α)},cj s D=none->putK s v D=D++[(s,v)]:=by
 intro D h
 have:D.any (fun p=>decide (p.1=s))=false:=by
  induction D with
  |nil=>rfl
  |cons p r ih =>
   rw[cj] at h
   by_cases e:p.1=s
   ·rw[if_pos e] at h;injection h
   ·rw[if_neg e] at h;rw[List.any_cons,ih h,decide_eq_false e];rfl
 unfold putK
 rw[this];rfl
noncomputable def fM:Option (List (Option Tx))->PV
 |none=>.none
 |some l=>.lst (l.map aD)
noncomputable def okN(o:Option (List (Option Tx))):Prop:=∀l,o=some l->l.length<2000/\∀s,some s∈l->s≠b9
noncomputable def zK(o:Option (List (Option Tx))):List (Tx×PV):=match o with
 |none=>[]
 |some l=>wY l
theorem Le:(T 24).body=[.assign 1 (.dz [] []),.ifs (.cmp .eg (.var 0) .none) [.forR 2 [(.bi .len [(.var 0)])] [.assign 3 (.sub (.var 0) (.var 2)),.ifs (.and [(.cmp .eg (.var 3) .none),(.cmp .ne (.var 3) (.str [])),(.cmp .sQ (.var 3) (.var 1))]) [.dP (.var 1) (.var 3) (.var 2)] []]] [],.ret (.var 1)]:=rfl
noncomputable def Pd:List S:=[.assign 3 (.sub (.var 0) (.var 2)),.ifs (.and [(.cmp .eg (.var 3) .none),(.cmp .ne (.var 3) (.str [])),(.cmp .sQ (.var 3) (.var 1))]) [.dP (.var 1) (.var 3) (.var 2)] []]
theorem Lf(C:fy) (l p:List (Option Tx)) (x:Option AV) (a:Option Tx) (hp:p.length<2000) (ha:l[p.length]? = some a) (hs:∀s,a=some s->s≠b9) :
 bO C Pd [some (.t (.lst (l.map aD))),some (.r 0),some (.t (.int p.length)),x] [.aK (wY p)]
  = some (.next [some (.t (.lst (l.map aD))),some (.r 0),some (.t (.int p.length)),some (.t (aD a))] [.aK (wY (p++[a]))]):=by
 have h2:(l.map aD)[p.length]? = some (aD a):=by rw[List.getElem?_map,ha];rfl
 have h3:(wY p).length<2000:=Nat.lt_of_le_of_lt (Hw p) hp
 rw[r9]
 unfold Pd
 match a,hs,h2 with
 |none,_,h2=>simp only[af,aF,bD,aM,aC,ah,aL,au,av,ay,aH,aG,aV,cu,isNone_none,ak,dm,dw,kU,bR,fG,fH,jo,cG,cP,List.set_cons_zero,List.set_cons_succ,rW,h2,qe]
 |some s,hs,h2 =>
  by_cases h:s=[]
  ·simp only[af,aF,bD,aM,aC,ah,aL,au,av,ay,aH,bI,aG,aV,cu,iU,cB,ak,dm,dw,eF,kU,bR,fG,fH,jo,iE,cG,cP,List.set_cons_zero,List.set_cons_succ,jC,h2,qe,dG h,c6 h]
  ·by_cases h4:(cj s (wY p)).isSome=true
   ·simp only[af,aF,bD,aM,aC,ah,aL,au,av,ay,aH,bI,aG,aV,cR,Jb,cu,iU,ur,cB,ak,dm,eT,dw,eF,bR,fG,fH,jo,iE,cG,cP,List.set_cons_zero,List.set_cons_succ,jC,if_true,h2,qe,bL h,l9 h,h4]
   ·have h5:cj s (wY p)=none:=by simpa using h4
    have h6:s≠b9/\(wY p).length<2000:=⟨hs s rfl,h3⟩
    simp only[af,aF,aS,aM,aC,rU,Aw,Ax,ah,aL,au,av,ay,aH,bI,aG,aV,cR,Jb,cu,iU,ur,cB,ak,dm,eT,dw,eF,dH,bR,fG,fH,Eb,Hu,iE,cG,cP,List.set_cons_zero,List.set_cons_succ,jC,h2,qe,bL h,l9 h,h5,Option.isSome,Bool.false_eq_true,if_false,c6 h6,BU h5]
theorem BV{n:Nat}{p q:List Nat}{a:Nat}(e:List.range n=p++a::q):a=p.length/\p.length<n:=by
 have h1:=congrArg List.length e
 have h2:=congrArg (fun l=>l[p.length]?) e
 simp at h1 h2
 have h3:p.length<n:=by omega
 rw[List.getElem?_range h3] at h2
 exact⟨(Option.some.inj h2).symm,h3⟩
theorem jR(k:Nat) (o:Option (List (Option Tx))) (ho:okN o) (st:aB):call T (k+1) 24 [.t (fM o)] st=ok (.t (.aK (zK o))) st:=by
 match o,ho with
 |none,_=>rfl
 |some l,ho =>
  obtain⟨hl,hs⟩:=ho l rfl
  obtain⟨g',st',h1,x,y,rfl,rfl⟩:=dK (f:=bO (call T k) Pd) (x:=2) (n:=1) (fun(k:Nat)=>PV.int k)
   (fun pre g st=>∃x y,g=[some (.t (.lst (l.map aD))),some (.r 0),x,y]/\st=[.aK (wY (l.take pre.length))])
   (List.range l.length) [some (.t (.lst (l.map aD))),some (.r 0),none,none] [.aK []] ⟨_,_,rfl,rfl⟩ (by
    rintro p b q g st e ⟨x,y,rfl,rfl⟩
    obtain⟨rfl,hb⟩:=BV e
    have e1:(l.take p.length).length=p.length:=by rw[List.length_take];omega
    have ht:=Lf (call T k) l (l.take p.length) y (l[p.length]) (by omega) (by rw[e1];exact List.getElem?_eq_getElem hb) (fun s Yq=>hs s (by rw[<-Yq];exact List.getElem_mem hb))
    rw[e1] at ht
    refine⟨_,_,⟨_,_,.inl ht,rfl⟩,_,_,rfl,?_⟩
    show[Node.aK _]=_
    rw[List.length_append,List.length_singleton,List.take_add_one,List.getElem?_eq_getElem hb];rfl)
  rw[List.length_range,List.take_length] at h1
  refine bz (ds:=[.lst (l.map aD)]) (g:=[some (.t (.lst (l.map aD))),none,none,none]) (a:=.r 0) (st':=[.aK (wY l)]) rfl rfl ?_ rfl
  rw[Le]
  have h2:ex (call T k) (.forR 2 [(.bi .len [(.var 0)])] Pd) [some (.t (.lst (l.map aD))),some (.r 0),none,none] [.aK []]=some (.next [some (.t (.lst (l.map aD))),some (.r 0),x,y] [.aK (wY l)]):=by
   refine kZ (st1:=[.aK []]) (as:=[.t (.int l.length)]) ?_ (nP (Nat.le_of_lt hl)) h1
   simp only[af,av,ay,aV,aA,aq,cC,ek,cY,gn,cG,List.length_map]
  refine aN 1 (g':=[some (.t (.lst (l.map aD))),some (.r 0),none,none]) (st':=[.aK []]) rfl ?_
  show bO _ [.ifs (.cmp .eg (.var 0) .none) [.forR 2 [(.bi .len [(.var 0)])] Pd] [],.ret (.var 1)] _ _=_
  simp only[af,aF,aS,aM,aW,ah,aL,au,bB,av,ay,aH,aG,aV,cu,mY,ak,iE,cG,cP,h2]
noncomputable def ff(o:Option (List (Option Tx))):Option Tx->Option Nat
 |none=>none
 |some s=>if s=[] then none else o.bind (d9 s)
theorem uF(s:Tx) (o:Option (List (Option Tx))):cj s (zK o)=(ff o (some s)).map fun(i:Nat)=>PV.int i:=by
 induction o with
 |none=>show none=_;by_cases h:s=[]<;>simp[ff,h]
 |some l =>
  show cj s (wY l)=_
  rw[Ej]
  by_cases h:s=[]<;>simp[ff,h]
theorem Lh:bodyOf (T 25).body 2=[.ifs (.and [(.cmp .eg (.var 4) .none),(.cmp .oq (.var 4) (.var 2))]) [.expr (.b4 .append (.var 3) [(.sub (.var 2) (.var 4))])] [.expr (.b4 .append (.var 3) [.none])]]:=rfl
theorem Li(C:fy) (o:Option (List (Option Tx))) (u v:Option AV) (found:List (Option Nat)) (hf:found.length<2000) (a:Option Tx) :
 bO C (bodyOf (T 25).body 2) [u,v,some (.t (.aK (zK o))),some (.r 0),some (.t (aD a))] [.lst (found.map cF)]
  = some (.next [u,v,some (.t (.aK (zK o))),some (.r 0),some (.t (aD a))] [.lst ((found++[ff o a]).map cF)]):=by
 rw[Lh]
 match a with
 |none=>simp only[af,aF,bD,aM,bx,ah,aL,au,av,ay,aH,aG,aV,cR,bX,cu,isNone_none,ak,dm,dw,kU,aA,aq,br,bu,aU,aZ,cM,bf,bV,jo,cG,cP,List.set_cons_zero,kc,rW,List.length_map,c6 hf,List.map_append,List.map_cons,List.map_nil,ff]
 |some s =>
  have h:=uF s o
  generalize ff o (some s)=q at h
  induction q with
  |none=>simp only[af,aF,bD,aM,bx,ah,aL,au,av,ay,aH,aG,aV,cR,bX,cu,uq,cB,ak,dm,eT,dw,eF,aA,aq,br,bu,aU,aZ,cM,bf,bV,iE,cG,cP,List.set_cons_zero,kc,jC,List.length_map,c6 hf,List.map_append,List.map_cons,List.map_nil,h,Option.map,Option.isSome]
  |some i=>simp only[af,aF,aS,aM,bx,ah,aL,au,av,ay,aH,aG,aV,cR,bX,cu,uq,cB,ak,dm,eT,dw,eF,aA,aq,br,bu,aU,aZ,cM,bf,bV,bR,K0,fH,iE,cG,cP,List.set_cons_zero,kg,jC,List.length_map,c6 hf,List.map_append,List.map_cons,List.map_nil,h,Option.map,Option.isSome]
theorem yj(k:Nat) (l:List (Option Tx)) (o:Option (List (Option Tx))) (ho:okN o) (hl:l.length<2000) (st:aB):call T (k+2) 25 [.t (.lst (l.map aD)),.t (fM o)] st=ok (.t (.lst ((l.map (ff o)).map cF))) st:=by
 obtain⟨g',st',h1,x,rfl,rfl⟩:=dK (f:=bO (call T (k+1)) (bodyOf (T 25).body 2)) (x:=4) (n:=1) aD
  (fun pre g st=>∃x,g=[some (.t (.lst (l.map aD))),some (.t (fM o)),some (.t (.aK (zK o))),some (.r 0),x]/\st=[.lst ((pre.map (ff o)).map cF)])
  l [some (.t (.lst (l.map aD))),some (.t (fM o)),some (.t (.aK (zK o))),some (.r 0),none] [.lst []] ⟨_,rfl,rfl⟩ (by
   rintro p b q g st e ⟨x,rfl,rfl⟩
   refine⟨_,_,⟨_,_,.inl (Li _ o _ _ _ ?_ b),rfl⟩,_,rfl,?_⟩
   ·have:=congrArg List.length e;simp at this ⊢;omega
   ·rw[List.map_append (l₁:=p)];rfl)
 refine bz (ds:=[.lst (l.map aD),fM o]) (g:=[some (.t (.lst (l.map aD))),some (.t (fM o)),none,none,none]) rfl rfl (aN 2 (g':=[some (.t (.lst (l.map aD))),some (.t (fM o)),some (.t (.aK (zK o))),some (.r 0),none]) (st':=[.lst []]) ?_ (bE (eS rfl rfl rfl h1) rfl)) rfl
 show bO _ [.assign 2 (.call 24 [(.var 1)]),.assign 3 (.list [])] _ _=_
 simp only[af,aF,aC,ah,aL,au,av,ay,aA,aq,ji,bW,eH,bS,cG,cP,List.set_cons_zero,List.set_cons_succ,List.nil_append,List.length_nil,jR k o ho]
set_option genCtorIdx false in
inductive Ix
 |missing|null|list
 |logical (l:List (Option Int))
 |integer (l:List (Option Int))
 |eK (l:List (Option (Int×Int)))
 |character (l:List (Option Tx))
noncomputable def Ix.ctorIdx(t:Ix):Nat:=Ix.casesOn (motive:=fun _=>Nat) t 0 1 2 (fun _=>3) (fun _=>4) (fun _=>5) (fun _=>6)
noncomputable def Ix.pv:Ix->PV
 |.missing=>pU
 |.null=>cW
 |.list=>vec aE [] .none
 |.logical l=>vec bw (l.map iZ) .none
 |.integer l=>vec aa (l.map iZ) .none
 |.eK l=>vec aY (l.map fP) .none
 |.character l=>vec ao (l.map aD) .none
noncomputable def Ix.ok:Ix->Prop
 |.logical l=>l.length<1000/\∀v,some v∈l->v=0\/v=1
 |.integer l=>l.length<1000
 |.eK l=>l.length<1000/\∀p∈l,FA p
 |.character l=>l.length<1000
 |_=>True
noncomputable def iG(n:Nat) (o:Option (List (Option Tx))):Ix->Except Tx (List (Option Nat))
 |.missing=>.ok ((List.range n).map some)
 |.null=>.ok []
 |.list=>.error e7
 |.logical l=>.ok (jQ l n)
 |.integer l=>cD l n
 |.eK l=>cD (l.map iF) n
 |.character l=>.ok (l.map (ff o))
noncomputable def zL:Except Tx (List (Option Nat))->aB->R AV
 |.ok pl,st=>Mine.ok (.t (.tup [.lst (pl.map cF),.none])) st
 |.error m,st=>some (.error (m,st))
noncomputable def tu:Except Tx (List (Option Nat))->aB->R AV
 |.ok pl,st=>Mine.ok (.t (.tup [.lst (pl.map cF),.none])) st
 |.error m,st=>Mine.ok (.t (.str m)) st
theorem o5:(T 26).body=[.assign 4 (.attr (.var 0) aj),.ifs (.cmp .eq (.var 4) (.str bF)) [.bad] [],.ifs (.cmp .eq (.var 4) (.str bq)) [.ret (.tup [(.list []),.none])] [],.ifs (.cmp .eq (.var 4) (.str bw)) [.ret (.tup [(.call 22 [(.attr (.var 0) ai),(.var 1)]),.none])] [],.ifs (.or [(.cmp .eq (.var 4) (.str aa)),(.cmp .eq (.var 4) (.str aY))]) [.ret (.tup [(.call 23 [(.call 21 [(.var 0)]),(.var 1)]),.none])] [],.ifs (.cmp .eq (.var 4) (.str ao)) [.ifs (.var 3) [.bad] [],.ret (.tup [(.call 25 [(.attr (.var 0) ai),(.var 2)]),.none])] [],.raise (.CI fX (.var 4) t_)]:=rfl
theorem positions(k:Nat) (ix:Ix) (hx:ix.ok) (hm:ix≠.missing) (n:Nat) (hn:n<1000) (o:Option (List (Option Tx))) (ho:okN o) (st:aB):call T (k+5) 26 [.t ix.pv,.t (.int n),.t (fM o),.t (.bool false)] st=zL (iG n o ix) st:=by
 match ix,hx,hm with
 |.null,_,_=>rfl
 |.list,_,_=>exact fK (ds:=[(Ix.list).pv,.int n,fM o,.bool false]) rfl rfl rfl
 |.logical l,hx,_ =>
  refine bz (ds:=[(Ix.logical l).pv,.int n,fM o,.bool false]) (a:=.t (.tup [.lst ((jQ l n).map cF),.none])) (st':=[]) rfl rfl (aN 3 (g':=[some (.t (vec bw (l.map iZ) .none)),some (.t (.int n)),some (.t (fM o)),some (.t (.bool false)),some (.t (.str bw))]) (st':=[]) rfl ?_) rfl
  rw[o5]
  simp only[af,aF,aS,aM,aW,ah,bB,av,ay,aH,bI,cS,aG,aV,cX,ak,aA,aq,mJ,bW,eG,gg,cG,cP,decide_true,List.drop_succ_cons,List.drop_zero,rZ _ l n (by have:=hx.1;omega) (by omega)]
 |.integer l,hx,_ =>
  have hx:l.length<1000:=hx
  have pre:=fun{o1:Option Out} h2=>aN (C:=call T (k+4)) (l:=(T 26).body) (o:=o1) 4 (g:=[some (.t (vec aa (l.map iZ) .none)),some (.t (.int n)),some (.t (fM o)),some (.t (.bool false)),none]) (st:=[]) (g':=[some (.t (vec aa (l.map iZ) .none)),some (.t (.int n)),some (.t (fM o)),some (.t (.bool false)),some (.t (.str aa))]) (st':=[]) rfl h2
  show _=zL (cD l n) st
  have h:=nS (k+3) l n (by omega) (by omega) []
  cases hw:cD l n with
  |ok pl =>
   rw[hw] at h
   refine bz (ds:=[(Ix.integer l).pv,.int n,fM o,.bool false]) (a:=.t (.tup [.lst (pl.map cF),.none])) (st':=[]) rfl rfl (pre ?_) rfl
   rw[o5]
   simp only[af,aF,aS,aM,aW,ah,bB,av,ay,aH,bI,aG,aV,cX,ak,dD,dF,j8,aA,aq,mJ,bW,eG,cG,cP,decide_true,List.drop_succ_cons,List.drop_zero,jq,h,Eg]
  |error m =>
   rw[hw] at h
   refine fK (ds:=[(Ix.integer l).pv,.int n,fM o,.bool false]) (st':=[]) rfl rfl (pre ?_)
   rw[o5]
   simp only[af,x8,aF,Av,aS,aM,aW,ah,kT,av,ay,aH,bI,aG,aV,cX,ak,dD,dF,j8,aA,aq,bW,eG,cG,cP,decide_true,List.drop_succ_cons,List.drop_zero,jq,h,Eg]
 |.eK l,hx,_ =>
  have pre:=fun{o1:Option Out} h2=>aN (C:=call T (k+4)) (l:=(T 26).body) (o:=o1) 4 (g:=[some (.t (vec aY (l.map fP) .none)),some (.t (.int n)),some (.t (fM o)),some (.t (.bool false)),none]) (st:=[]) (g':=[some (.t (vec aY (l.map fP) .none)),some (.t (.int n)),some (.t (fM o)),some (.t (.bool false)),some (.t (.str aY))]) (st':=[]) rfl h2
  show _=zL (cD (l.map iF) n) st
  have h:=nS (k+3) (l.map iF) n (by have:=hx.1;simp;omega) (by omega) []
  have To:=wu (k+1) l .none (by have:=hx.1;omega) hx.2 []
  rw[show(l.map fun p=>iZ (iF p))=(l.map iF).map iZ by rw[List.map_map];rfl] at To
  cases hw:cD (l.map iF) n with
  |ok pl =>
   rw[hw] at h
   refine bz (ds:=[(Ix.eK l).pv,.int n,fM o,.bool false]) (a:=.t (.tup [.lst (pl.map cF),.none])) (st':=[]) rfl rfl (pre ?_) rfl
   rw[o5]
   simp only[af,aF,aS,aM,aW,ah,bB,av,ay,aH,bI,aG,aV,cX,ak,dD,fD,dF,e9,aA,aq,mJ,bW,eG,cG,cP,decide_true,List.drop_succ_cons,List.drop_zero,show decide (aY=aa)=false from rfl,To,h,Eg]
  |error m =>
   rw[hw] at h
   refine fK (ds:=[(Ix.eK l).pv,.int n,fM o,.bool false]) (st':=[]) rfl rfl (pre ?_)
   rw[o5]
   simp only[af,x8,aF,Av,aS,aM,aW,ah,kT,av,ay,aH,bI,aG,aV,cX,ak,dD,fD,dF,e9,aA,aq,bW,eG,cG,cP,decide_true,List.drop_succ_cons,List.drop_zero,show decide (aY=aa)=false from rfl,To,h,Eg]
 |.character l,hx,_ =>
  refine bz (ds:=[(Ix.character l).pv,.int n,fM o,.bool false]) (a:=.t (.tup [.lst ((l.map (ff o)).map cF),.none])) (st':=[]) rfl rfl (aN 5 (g':=[some (.t (vec ao (l.map aD) .none)),some (.t (.int n)),some (.t (fM o)),some (.t (.bool false)),some (.t (.str ao))]) (st':=[]) rfl ?_) rfl
  rw[o5]
  have hx:l.length<1000:=hx
  simp only[af,aF,aS,bD,aM,aW,ah,aL,au,bB,av,ay,aH,bI,cS,aG,aV,cX,ak,aA,aq,mJ,bW,eG,gg,cG,cP,decide_true,List.drop_succ_cons,List.drop_zero,yj _ l o ho (by omega)]
theorem Lj{a b:Int}:cutD a b=if 0<=a then a.fdiv b else -((-a).fdiv b):=by
 unfold cutD
 by_cases h:0<=a
 ·rw[if_pos h,if_pos h,Int.natAbs_of_nonneg h]
 ·rw[if_neg h,if_neg h,Int.zero_sub,show(a.natAbs:Int)=-a by omega]
theorem Ek:bodyOf (T 79).body 1=[.ifs (.or [(.cmp .is (.var 3) .none),(.and [(.cmp .eq (.var 0) (.str aY)),(.cmp .eq (.sub (.var 3) (.int 1)) (.int 0))])]) [.expr (.b4 .append (.var 2) [.none])] [.ifs (.cmp .eq (.var 0) (.str aY)) [.expr (.b4 .append (.var 2) [(.ite (.cmp .ge (.sub (.var 3) (.int 0)) (.int 0)) (.bin .fdiv (.sub (.var 3) (.int 0)) (.sub (.var 3) (.int 1))) (.neg (.bin .fdiv (.neg (.sub (.var 3) (.int 0))) (.sub (.var 3) (.int 1)))))])] [.expr (.b4 .append (.var 2) [(.var 3)])]]]:=rfl
theorem yk(k:Nat) (l:List (Option Int)) (hl:l.length<2000) (st:aB):call T (k+1) 79 [.t (.str aa),.t (.lst (l.map iZ))] st=ok (.t (.lst (l.map iZ))) st:=by
 obtain⟨g',st',h1,x,rfl,rfl⟩:=dK (f:=bO (call T k) (bodyOf (T 79).body 1)) (x:=3) (n:=1) iZ
  (fun pre g st=>∃x,g=[some (.t (.str aa)),some (.t (.lst (l.map iZ))),some (.r 0),x]/\st=[.lst (pre.map iZ)])
  l [some (.t (.str aa)),some (.t (.lst (l.map iZ))),some (.r 0),none] [.lst []] ⟨_,rfl,rfl⟩ (by
   rintro p b q g st e ⟨x,rfl,rfl⟩
   have hf:p.length<2000:=by have:=congrArg List.length e;simp at this ⊢;omega
   refine⟨_,_,⟨[some (.t (.str aa)),some (.t (.lst (l.map iZ))),some (.r 0),some (.t (iZ b))],[.lst ((p++[b]).map iZ)],.inl ?_,rfl⟩,_,rfl,rfl⟩
   rw[Ek,List.map_append]
   match b with
   |none=>simp only[af,aF,aS,aM,bx,ah,aL,au,av,ay,aH,aG,aV,cR,bX,bk,isNone_none,ak,dD,dF,j8,aA,aq,br,bu,aU,aZ,cM,bf,bV,cG,cP,List.set_cons_zero,List.set_cons_succ,qc,List.length_map,c6 hf,List.map_cons,List.map_nil]
   |some i=>simp only[af,aF,bD,aM,bx,ah,aL,au,av,ay,aH,bI,aG,aV,cR,bX,bk,cX,bN,ak,dD,fD,dF,e9,dm,dw,kU,aA,aq,br,bu,aU,aZ,cM,bf,bV,cG,cP,List.set_cons_zero,List.set_cons_succ,l0,List.length_map,c6 hf,List.map_cons,List.map_nil,show decide (aa=aY)=false from rfl])
 exact bz (ds:=[.str aa,.lst (l.map iZ)]) rfl rfl (aN 1 (g':=[some (.t (.str aa)),some (.t (.lst (l.map iZ))),some (.r 0),none]) (st':=[.lst []]) rfl (bE (eS rfl rfl rfl h1) rfl)) rfl
theorem zM(k:Nat) (l:List (Option (Int×Int))) (hl:l.length<2000) (hd:∀p∈l,FA p) (st:aB):call T (k+1) 79 [.t (.str aY),.t (.lst (l.map fP))] st=ok (.t (.lst ((l.map iF).map iZ))) st:=by
 obtain⟨g',st',h1,x,rfl,rfl⟩:=dK (f:=bO (call T k) (bodyOf (T 79).body 1)) (x:=3) (n:=1) fP
  (fun pre g st=>∃x,g=[some (.t (.str aY)),some (.t (.lst (l.map fP))),some (.r 0),x]/\st=[.lst ((pre.map iF).map iZ)])
  l [some (.t (.str aY)),some (.t (.lst (l.map fP))),some (.r 0),none] [.lst []] ⟨_,rfl,rfl⟩ (by
   rintro p b q g st e ⟨x,rfl,rfl⟩
   have hf:p.length<2000:=by have:=congrArg List.length e;simp at this ⊢;omega
   have hb:FA b:=hd b (by rw[e];simp)
   refine⟨_,_,⟨[some (.t (.str aY)),some (.t (.lst (l.map fP))),some (.r 0),some (.t (fP b))],[.lst (((p++[b]).map iF).map iZ)],.inl ?_,rfl⟩,_,rfl,rfl⟩
   rw[Ek,List.map_append,List.map_append]
   match b,hb with
   |none,_=>simp only[af,aF,aS,aM,bx,ah,aL,au,av,ay,aH,aG,aV,cR,bX,bk,isNone_none,ak,dD,dF,j8,aA,aq,br,bu,aU,aZ,cM,bf,bV,cG,cP,List.set_cons_zero,List.set_cons_succ,qc,List.length_map,c6 hf,List.map_cons,List.map_nil,fP,iF]
   |some (a,b),hb =>
    by_cases h:b=0
    ·subst h;simp only[af,aF,aS,aM,bx,ah,aL,au,av,ay,aH,bI,bg,aG,aV,cR,bX,bk,cK,cX,e8,ak,dD,fD,dF,e9,dm,eT,dw,eF,aA,aq,br,bu,aU,aZ,cM,bf,bV,bR,gO,cG,cP,List.set_cons_zero,List.set_cons_succ,qc,if_true,decide_true,List.length_map,c6 hf,List.map_cons,List.map_nil,fP,iF]
    ·have h2:¬(b=0\/b.natAbs ≥ 1048576):=by have:=hb.1;have:=hb.2;omega
     have hc:iF (some (a,b))=some (cutD a b):=if_neg h
     rw[Lj] at hc
     by_cases h3:0<=a
     ·simp only[af,aF,aS,bD,aM,bx,ah,aL,au,av,ay,aH,bI,bg,aG,aV,cR,bX,bk,eE,cK,cX,e8,ak,dD,fD,dF,e9,dm,eT,dw,eF,cL,fZ,aA,aq,br,bu,aU,aZ,cM,bf,bV,bR,nM,gO,b7,cG,cP,List.set_cons_zero,List.set_cons_succ,l0,decide_true,List.length_map,hc,c6 hf,List.map_cons,List.map_nil,fP,bL h,dG h3,c6 h3,gF _ _ _ h2]
     ·simp only[af,aF,aS,bD,aM,bx,ah,aL,au,av,ay,aH,bI,bg,aG,aV,cR,bX,bk,eE,cK,cX,e8,ak,dD,fD,dF,e9,dm,eT,dw,eF,cL,gf,aA,aq,br,bu,aU,aZ,cM,bf,bV,bR,nM,gO,b7,oY,oZ,cG,cP,List.set_cons_zero,List.set_cons_succ,l0,decide_true,List.length_map,hc,c6 hf,List.map_cons,List.map_nil,fP,bL h,bL h3,l9 h3,gF _ _ _ h2])
 exact bz (ds:=[.str aY,.lst (l.map fP)]) rfl rfl (aN 1 (g':=[some (.t (.str aY)),some (.t (.lst (l.map fP))),some (.r 0),none]) (st':=[.lst []]) rfl (bE (eS rfl rfl rfl h1) rfl)) rfl
theorem Je(a:Option Int):fQ (iZ a)=true:=by induction a<;>rfl
theorem El(a:Option Tx):fQ (aD a)=true:=by induction a<;>rfl
theorem Hx(a:Option Int) (j:Int):ja (iZ a) (.int j)=decide (a=some j):=by
 induction a with
 |none=>rfl
 |some i=>show decide (i=j)=_;simp
theorem Em(a:Option Int):ja (iZ a) .none=a.isNone:=by induction a<;>rfl
theorem sd(a:Option Tx) (s:Tx):ja (aD a) (.str s)=decide (a=some s):=by
 induction a with
 |none=>rfl
 |some i=>show decide (i=s)=_;simp
theorem wC{α:Type}(enc:α->PV) (p:α->Bool) (d:PV) (hk:fQ d=true) (l:List α) (hs:∀a,fQ (enc a)=true) (h:∀a,ja (enc a) d=p a):Fv d (l.map enc)=some (l.any p):=by
 unfold Fv
 rw[hk,Bool.true_and,if_pos (by rw[List.all_map,List.all_eq_true];exact fun a _=>hs a),List.any_map]
 exact congrArg (fun q=>some (l.any q)) (funext h)
theorem mZ{α:Type} [DecidableEq α] (a:α) (l:List α) [Decidable (a∈l)]:(l.any fun b=>decide (b=a))=decide (a∈l):=by
 rw[Bool.eq_iff_iff,List.any_eq_true,decide_eq_true_iff]
 exact⟨fun⟨b,hb,e⟩=>by rw[<-of_decide_eq_true e];exact hb,fun h=>⟨a,h,decide_eq_true rfl⟩⟩
theorem Az(st:aB) (j:Int) (l:List (Option Int)):gk .sQ st (some (.int j)) (some (.lst (l.map iZ)))=ok (.t (.bool (!decide (some j∈l)))) st:=by
 show jI ((Fv (.int j) (l.map iZ)).map (!·)) st=_
 rw[wC iZ (fun b=>decide (b=some j)) (.int j) rfl l Je fun a=>Hx a j,mZ];rfl
theorem wD(st:aB) (l:List (Option Int)):gk .oq st (some .none) (some (.lst (l.map iZ)))=ok (.t (.bool (dR l))) st:=by
 show jI (Fv .none (l.map iZ)) st=_
 rw[wC iZ Option.isNone .none rfl l Je Em];rfl
theorem yl(s:Tx) (l:List (Option Tx)):(d9 s l).isSome=decide (some s∈l):=by
 induction l with
 |nil=>rfl
 |cons a r ih =>
  rw[d9]
  by_cases h:a=some s
  ·rw[if_pos h,h];simp
  ·have h':¬some s=a:=fun e=>h e.symm
   rw[if_neg h,Option.isSome_map,ih];simp[h']
theorem in_str(st:aB) (s:Tx) (l:List (Option Tx)):gk .oq st (some (.str s)) (some (.lst (l.map aD)))=ok (.t (.bool (d9 s l).isSome)) st:=by
 show jI (Fv (.str s) (l.map aD)) st=_
 rw[wC aD (fun b=>decide (b=some s)) (.str s) rfl l El fun a=>sd a s,mZ,yl];rfl
theorem se(s:Tx):∀(l:List (Option Tx)) (n:Nat),idxOf (.str s) (l.map aD) n=(d9 s l).map (· + n)
 |[],n=>rfl
 |a::r,n=>by
  rw[List.map_cons,d9,idxOf,sd]
  by_cases h:a=some s
  ·rw[if_pos h];simp[h]
  ·rw[if_neg h,se s r (n+1),decide_eq_false h,if_neg (by decide),Option.map_map]
   show Option.map _ _=_;congr 1;funext x;show x+(n+1)=x+1+n;omega
theorem AA(l:List (Option Tx)):ng (l.map aD)=true:=by
 unfold ng;rw[List.all_eq_true];intro e he
 obtain⟨a,_,rfl⟩:=List.mem_map.mp he
 induction a<;>rfl
theorem Hy(st:aB) (s:Tx) (l:List (Option Tx)){i:Nat}(h:d9 s l=some i):mu .index .list st (.t (.lst (l.map aD))) [.str s]=ok (.t (.int i)) st:=by
 show(if ng (l.map aD)=true then m9 ((idxOf (.str s) (l.map aD) 0).map fun n=>(n:Int)) st else none)=_
 rw[if_pos (AA l),se,h];rfl
theorem BW(l:List Int):intsOf (l.map PV.int)=some l:=by
 induction l with
 |nil=>rfl
 |cons a r ih=>rw[List.map_cons,intsOf,ih];rfl
theorem foldl_max(r:List Int):∀a:Int,0<r.foldl max a↔0<a\/∃b∈r,0<b:=by
 induction r with
 |nil=>intro a;simp
 |cons b r ih =>
  intro a;rw[List.foldl_cons,ih]
  constructor
  ·rintro(h|⟨c,hc,h⟩)
   ·by_cases ha:0<a
    ·exact .inl ha
    ·exact .inr ⟨b,.head _,by omega⟩
   ·exact .inr ⟨c,.tail _ hc,h⟩
  ·rintro(h|⟨c,hc,h⟩)
   ·exact .inl (by omega)
   ·cases hc with
    |head=>exact .inl (by omega)
    |tail _ hc=>exact .inr ⟨c,hc,h⟩
theorem all_some{l:List (Option Int)}(h:¬dR l=true):∃m:List Int,l=m.map some:=by
 induction l with
 |nil=>exact⟨[],rfl⟩
 |cons a r ih =>
  rw[dR,List.any_cons] at h
  induction a with
  |none=>exact absurd rfl h
  |some i =>
   obtain⟨m,hm⟩:=ih (by simpa [dR] using h)
   exact⟨i::m,by rw[hm];rfl⟩
theorem Hz(m:List Int):0<(posOf (m.map some)).length↔∃b∈m,0<b:=by
 induction m with
 |nil=>simp[posOf]
 |cons a r ih =>
  rw[List.map_cons,posOf]
  by_cases h:0<a
  ·have:rY (some a)=some (some (a-1).toNat):=if_pos h
   rw[List.filterMap_cons_some this]
   exact⟨fun _=>⟨a,.head _,h⟩,fun _=>by simp⟩
  ·have:rY (some a)=none:=if_neg h
   rw[List.filterMap_cons_none this]
   rw[posOf] at ih;rw[ih]
   constructor
   ·rintro⟨b,hb,h2⟩;exact⟨b,.tail _ hb,h2⟩
   ·rintro⟨b,hb,h2⟩
    cases hb with
    |head=>exact absurd h2 h
    |tail _ hb=>exact⟨b,hb,h2⟩
theorem En(st:aB){l:List (Option Int)}(h:¬dR l=true) (hn:iz l≠false):∃m:Int,xj .qD st [.lst (l.map iZ)]=ok (.t (.int m)) st/\(0<m↔0<(posOf l).length):=by
 obtain⟨m,rfl⟩:=all_some h
 induction m with
 |nil=>exact absurd rfl hn
 |cons a r =>
  refine⟨r.foldl max a,?_,?_⟩
  ·show(match(intsOf (((a::r).map some).map iZ)).bind maxOf with| some m=>ok (AV.t (.int m)) st|none=>none)=_
   rw[List.map_map,show iZ ∘ some=PV.int from rfl,BW];rfl
  ·rw[foldl_max,Hz]
   constructor
   ·rintro(h|⟨b,hb,h2⟩)
    ·exact⟨a,.head _,h⟩
    ·exact⟨b,.tail _ hb,h2⟩
   ·rintro⟨b,hb,h2⟩
    cases hb with
    |head=>exact .inl h2
    |tail _ hb=>exact .inr ⟨b,hb,h2⟩
noncomputable def MI(ix:PV) (n:Nat) (o:Option (List (Option Tx))) (kd:Tx):Gm:=[some (.t ix),some (.t (.int n)),some (.t (fM o)),some (.t (.bool false)),some (.t (.str kd)),none,none,none,none,none,none,none,none,none,none]
theorem sf(ix n o kd):MI ix n o kd=[some (.t ix),some (.t (.int n)),some (.t (fM o)),some (.t (.bool false)),some (.t (.str kd)),none,none,none,none,none,none,none,none,none,none]:=rfl
theorem Eo(k:Nat) (n:Nat) (hn:n<1000) (o:Option (List (Option Tx))) (st:aB):call T (k+1) 80 [.t pU,.t (.int n),.t (fM o),.t (.bool false)] st=tu (iG n o .missing) st:=by
 refine bz (ds:=[pU,.int n,fM o,.bool false]) (a:=.t (.tup [.lst (((List.range n).map some).map cF),.none])) (st':=[.fz (.lst (((List.range n).map some).map cF))]) rfl rfl (aN 1 (g':=MI pU n o bF) (st':=[]) rfl ?_) rfl
 rw[show(T 80).body.drop 1=.ifs (.cmp .eq (.var 4) (.str bF)) [.ret (.tup [(.bi .dZ [(.var 1)]),.none])] []::(T 80).body.drop 2 from rfl]
 have h1:(-2000:Int)<=n/\(n:Int)<=2000:=by omega
 have h2:cI 0 n=((List.range n).map some).map cF:=by rw[yd,List.map_map];rfl
 simp only[af,aF,aS,aM,aW,ah,av,ay,aH,bI,aG,aV,cX,ak,aA,aq,eG,bS,Pb,Hv,cG,cP,decide_true,List.nil_append,List.length_nil,sf,c6 h1,h2]
 rfl
noncomputable def Ep:List S:=[.assign 7 (.sub (.attr (.var 0) ai) (.bin .mod (.var 6) (.bi .len [(.attr (.var 0) ai)]))),.ifs (.cmp .ne (.var 7) (.int 0)) [.expr (.b4 .append (.var 5) [(.ite (.cmp .eq (.var 7) (.int 1)) (.var 6) .none)])] []]
theorem HA(C:fy) (l:List (Option Int)) (hl:0<l.length) (hv:∀v,some v∈l->v=0\/v=1) (g1 g2 g3 g4 g8 g9 ga gb gc gd ge x:Option AV) (nd:Node) (found:List (Option Nat)) (hf:found.length<2000) (k:Nat) :
 bO C Ep [some (.t (vec bw (l.map iZ) .none)),g1,g2,g3,g4,some (.r 0),some (.t (.int k)),x,g8,g9,ga,gb,gc,gd,ge] [.lst (found.map cF),nd]
  = some (.next [some (.t (vec bw (l.map iZ) .none)),g1,g2,g3,g4,some (.r 0),some (.t (.int k)),some (.t (iZ (l[k % l.length]'(Nat.mod_lt _ hl)))),g8,g9,ga,gb,gc,gd,ge] [.lst ((found++(wA l k).toList).map cF),nd]):=by
 have hj:k % l.length<l.length:=Nat.mod_lt _ hl
 have h1:((l.length:Int))≠0:=by omega
 have h2:(l.map iZ)[k % l.length]? = some (iZ l[k % l.length]):=by rw[List.getElem?_map,List.getElem?_eq_getElem hj];rfl
 unfold wA Ep
 rw[List.getElem?_eq_getElem hj]
 have Q4:=fun v (e:l[k % l.length]=some v)=>hv v (by rw[<-e];exact List.getElem_mem hj)
 generalize l[k % l.length]=q at h2 Q4
 match q,h2,Q4 with
 |none,h2,_=>simp only[af,aF,aS,aM,bx,aC,ah,aL,au,av,ay,aH,bg,cS,aG,aV,cR,bX,x9,D6,ak,cL,gf,aA,aq,br,bu,aU,aZ,cM,bf,bV,bR,fG,fH,b7,cC,ek,cY,gn,gg,cG,cP,List.set_cons_zero,List.set_cons_succ,kc,qc,List.length_map,c6 hf,fc _ _ _ h1,jD,h2,zJ,Option.toList,List.map_append,List.map_cons,List.map_nil]
 |some v,h2,Q4 =>
  rcases Q4 v rfl with h|h
  ·subst h
   simp only[af,aF,bD,aM,aC,ah,aL,au,av,ay,bg,cS,aG,aV,gW,ak,aA,aq,bR,fG,fH,b7,cC,ek,cY,gn,jo,gg,cG,cP,List.set_cons_zero,List.set_cons_succ,l0,if_true,decide_true,List.length_map,fc _ _ _ h1,jD,h2,zJ,Option.toList,List.append_nil]
  ·subst h
   simp only[af,aF,aS,aM,bx,aC,ah,aL,au,av,ay,bg,cS,aG,aV,cR,bX,cK,gW,ak,cL,fZ,aA,aq,br,bu,aU,aZ,cM,bf,bV,bR,fG,fH,b7,cC,ek,cY,gn,iE,gg,cG,cP,List.set_cons_zero,List.set_cons_succ,kg,l0,decide_true,decide_false,List.length_map,c6 hf,fc _ _ _ h1,jD,h2,zJ,Option.toList,List.map_append,List.map_cons,List.map_nil,show ¬((1:Int)=0) by decide,if_false]
theorem ym(k:Nat) (l:List (Option Int)) (hl:l.length<1000) (hv:∀v,some v∈l->v=0\/v=1) (n:Nat) (hn:n<1000) (o:Option (List (Option Tx))) (st:aB) :
  call T (k+1) 80 [.t (Ix.logical l).pv,.t (.int n),.t (fM o),.t (.bool false)] st=tu (iG n o (.logical l)) st:=by
 have hb:(T 80).body.drop 4=.ifs (.cmp .eq (.var 4) (.str bw)) [.assign 5 (.list []),.forR 6 [(.ite (.cmp .ne (.attr (.var 0) ai) (.list [])) (.bi .max2 [(.var 1),(.bi .len [(.attr (.var 0) ai)])]) (.int 0))] Ep,.ret (.tup [(.var 5),.none])] []::(T 80).body.drop 5:=rfl
 obtain⟨x,y,h2⟩ : ∃x y,ex (call T k) (.forR 6 [(.ite (.cmp .ne (.attr (.var 0) ai) (.list [])) (.bi .max2 [(.var 1),(.bi .len [(.attr (.var 0) ai)])]) (.int 0))] Ep)
   [some (.t (vec bw (l.map iZ) .none)),some (.t (.int n)),some (.t (fM o)),some (.t (.bool false)),some (.t (.str bw)),some (.r 0),none,none,none,none,none,none,none,none,none] [.lst []]
   = some (.next [some (.t (vec bw (l.map iZ) .none)),some (.t (.int n)),some (.t (fM o)),some (.t (.bool false)),some (.t (.str bw)),some (.r 0),x,y,none,none,none,none,none,none,none] [.lst ((jQ l n).map cF),.lst []]):=by
  unfold jQ
  by_cases h0:l.length=0
  ·rw[if_pos h0]
   obtain rfl:=List.eq_nil_of_length_eq_zero h0
   exact⟨_,_,rfl⟩
  ·rw[if_neg h0]
   have Tj:0<l.length:=Nat.pos_of_ne_zero h0
   obtain⟨g',st',h1,x,y,rfl,rfl⟩:=dK (f:=bO (call T k) Ep) (x:=6) (n:=2) (fun(k:Nat)=>PV.int k)
    (fun pre g st=>∃x y,g=[some (.t (vec bw (l.map iZ) .none)),some (.t (.int n)),some (.t (fM o)),some (.t (.bool false)),some (.t (.str bw)),some (.r 0),x,y,none,none,none,none,none,none,none]/\st=[.lst ((pre.filterMap (wA l)).map cF),.lst []])
    (List.range (max n l.length)) [some (.t (vec bw (l.map iZ) .none)),some (.t (.int n)),some (.t (fM o)),some (.t (.bool false)),some (.t (.str bw)),some (.r 0),none,none,none,none,none,none,none,none,none] [.lst [],.lst []] ⟨_,_,rfl,rfl⟩ (by
     rintro p b q g st e ⟨x,y,rfl,rfl⟩
     refine⟨_,_,⟨_,_,.inl (HA _ l Tj hv _ _ _ _ _ _ _ _ _ _ _ _ _ _ ?_ b),rfl⟩,_,_,rfl,?_⟩
     ·have:=congrArg List.length e;have h:=List.length_filterMap_le (wA l) p;simp at this ⊢;omega
     ·rw[k6];rfl)
   have hr:sR [.t (.int (max (n:Int) (l.length:Int)))]=some ((List.range (max n l.length)).map fun(k:Nat)=>PV.int k):=by
    rw[show max (n:Int) (l.length:Int)=((max n l.length:Nat):Int) by omega]
    exact nP (by omega)
   refine⟨x,y,kZ (st1:=[.lst [],.lst []]) ?_ hr h1⟩
   simp only[af,av,ay,cS,aG,aV,cR,bX,ak,cL,fZ,aA,aq,ji,cC,Ea,ek,cY,O8,gn,O9,eH,bS,rV,iE,gg,cG,cP,List.length_map,List.cons_append,List.nil_append,List.length_cons,List.length_nil,Nat.zero_add,bL h0]
 refine bz (ds:=[(Ix.logical l).pv,.int n,fM o,.bool false]) (a:=.t (.tup [.lst ((jQ l n).map cF),.none])) (st':=[.fz (.lst ((jQ l n).map cF)),.lst []]) rfl rfl (aN 4 (g':=MI (vec bw (l.map iZ) .none) n o bw) (st':=[]) rfl ?_) rfl
 rw[hb]
 simp only[af,aF,aS,aM,aC,aW,ah,au,av,ay,aH,bI,aG,aV,cX,ak,aA,aq,ji,eG,eH,bS,cG,cP,List.set_cons_zero,List.set_cons_succ,decide_true,List.nil_append,List.length_nil,sf,h2]
 rfl
noncomputable def Er:List S:=[.assign 9 (.and [(.cmp .eg (.var 7) .none),(.cmp .ne (.var 7) (.str []))]),.ifs (.and [(.var 9),(.cmp .eg (.var 2) .none),(.cmp .oq (.var 7) (.var 2))]) [.expr (.b4 .append (.var 5) [(.b4 .index (.var 2) [(.var 7)])])] [.ifs (.not (.var 3)) [.expr (.b4 .append (.var 5) [.none])] [.bad]]]
theorem HB(C:fy) (o:Option (List (Option Tx))) (g0 g1 g4 g6 x ga gb gc gd ge:Option AV) (nd:Node) (found:List (Option Nat)) (hf:found.length<2000) (a:Option Tx) :
 ∃y,bO C Er [g0,g1,some (.t (fM o)),some (.t (.bool false)),g4,some (.r 0),g6,some (.t (aD a)),some (.r 1),x,ga,gb,gc,gd,ge] [.lst (found.map cF),nd]
  = some (.next [g0,g1,some (.t (fM o)),some (.t (.bool false)),g4,some (.r 0),g6,some (.t (aD a)),some (.r 1),some (.t (.bool y)),ga,gb,gc,gd,ge] [.lst ((found++[ff o a]).map cF),nd]):=by
 unfold Er
 match a with
 |none=>exact⟨false,by simp only[af,aF,aS,bD,aM,bx,aC,ah,aL,au,av,ay,aH,aG,aV,cR,bX,cu,isNone_none,ak,dm,dw,kU,kX,kY,aA,aq,br,bu,aU,aZ,cM,bf,bV,jo,iE,cG,cP,List.set_cons_zero,List.set_cons_succ,kc,rW,List.length_map,c6 hf,List.map_append,List.map_cons,List.map_nil,ff]⟩
 |some s =>
  by_cases h:s=[]
  ·exact⟨false,by simp only[af,aF,aS,bD,aM,bx,aC,ah,aL,au,av,ay,aH,bI,aG,aV,cR,bX,cu,iU,cB,ak,dm,eT,dw,eF,kU,kX,kY,aA,aq,br,bu,aU,aZ,cM,bf,bV,jo,iE,cG,cP,List.set_cons_zero,List.set_cons_succ,kc,jC,List.length_map,c6 hf,List.map_append,List.map_cons,List.map_nil,ff,dG h,c6 h]⟩
  ·match o with
   |none=>exact⟨true,by simp only[af,aF,aS,bD,aM,bx,aC,ah,aL,au,av,ay,aH,bI,aG,aV,cR,bX,cu,iU,isNone_none,cB,ak,dm,eT,dw,eF,kU,kX,kY,aA,aq,br,bu,aU,aZ,cM,bf,bV,jo,iE,cG,cP,List.set_cons_zero,List.set_cons_succ,kc,jC,List.length_map,c6 hf,List.map_append,List.map_cons,List.map_nil,ff,bL h,l9 h,fM,Option.bind]⟩
   |some l =>
    cases hi:d9 s l with
    |none=>exact⟨true,by simp only[af,aF,aS,bD,aM,bx,aC,ah,aL,au,av,ay,aH,bI,aG,aV,cR,bX,cu,iU,cB,mY,ak,dm,eT,dw,eF,kX,kY,aA,aq,br,bu,aU,aZ,cM,bf,bV,iE,cG,cP,List.set_cons_zero,List.set_cons_succ,kc,jC,List.length_map,c6 hf,List.map_append,List.map_cons,List.map_nil,ff,bL h,l9 h,fM,Option.bind,in_str,hi,Option.isSome]⟩
    |some i=>exact⟨true,by simp only[af,aF,aS,aM,bx,aC,ah,aL,au,av,ay,aH,bI,aG,aV,cR,bX,cu,iU,cB,mY,ak,dm,eT,dw,eF,aA,aq,br,bu,aU,aZ,D7,cM,bf,bV,iE,cG,cP,List.set_cons_zero,List.set_cons_succ,kg,jC,List.length_map,c6 hf,List.map_append,List.map_cons,List.map_nil,ff,bL h,l9 h,fM,Option.bind,in_str,hi,Option.isSome,Hy _ s l hi]⟩
theorem tB(k:Nat) (l:List (Option Tx)) (hl:l.length<1000) (n:Nat) (o:Option (List (Option Tx))) (st:aB) :
  call T (k+1) 80 [.t (Ix.character l).pv,.t (.int n),.t (fM o),.t (.bool false)] st=tu (iG n o (.character l)) st:=by
 have hb:(T 80).body.drop 5=.ifs (.cmp .eq (.var 4) (.str ao)) [.assign 5 (.list []),.assign 8 (.list []),.gp 7 (.attr (.var 0) ai) Er,.ret (.tup [(.var 5),(.ite (.var 3) (.var 8) .none)])] []::(T 80).body.drop 6:=rfl
 obtain⟨g',st',h1,x,y,rfl,rfl⟩:=dK (f:=bO (call T k) Er) (x:=7) (n:=2) aD
  (fun pre g st=>∃x y,g=[some (.t (vec ao (l.map aD) .none)),some (.t (.int n)),some (.t (fM o)),some (.t (.bool false)),some (.t (.str ao)),some (.r 0),none,x,some (.r 1),y,none,none,none,none,none]/\st=[.lst ((pre.map (ff o)).map cF),.lst []])
  l [some (.t (vec ao (l.map aD) .none)),some (.t (.int n)),some (.t (fM o)),some (.t (.bool false)),some (.t (.str ao)),some (.r 0),none,none,some (.r 1),none,none,none,none,none,none] [.lst [],.lst []] ⟨_,_,rfl,rfl⟩ (by
   rintro p b q g st e ⟨x,y,rfl,rfl⟩
   obtain⟨z,hz⟩:=HB (call T k) o (some (.t (vec ao (l.map aD) .none))) (some (.t (.int n))) (some (.t (.str ao))) none y none none none none none (.lst []) (p.map (ff o)) (by have:=congrArg List.length e;simp at this ⊢;omega) b
   refine⟨_,_,⟨_,_,.inl hz,rfl⟩,_,_,rfl,?_⟩
   rw[List.map_append (l₁:=p)];rfl)
 have h2:=eS (C:=call T k) (x:=7) (src:=.attr (.var 0) ai) (body:=Er) (st:=[.lst [],.lst []]) (st2:=[.lst [],.lst []]) rfl rfl rfl h1
 refine bz (ds:=[(Ix.character l).pv,.int n,fM o,.bool false]) (a:=.t (.tup [.lst ((l.map (ff o)).map cF),.none])) (st':=[.fz (.lst ((l.map (ff o)).map cF)),.lst []]) rfl rfl (aN 5 (g':=MI (vec ao (l.map aD) .none) n o ao) (st':=[]) rfl ?_) rfl
 rw[hb]
 simp only[af,aF,aS,aM,aC,aW,ah,au,av,ay,aH,bI,aG,aV,cX,ak,cL,gf,aA,aq,ji,eG,eH,bS,cG,cP,List.set_cons_zero,List.set_cons_succ,decide_true,List.cons_append,List.nil_append,List.length_cons,List.length_nil,Nat.zero_add,sf,h2]
 rfl
theorem BY(c:List (Option Int)):(c.filterMap fun a=>if iW a=true then some (iZ a) else none).length=0↔iz c=false:=by
 induction c with
 |nil=>exact⟨fun _=>rfl,fun _=>rfl⟩
 |cons a r ih =>
  rw[iz,List.any_cons]
  cases h:iW a with
  |true=>rw[List.filterMap_cons_some (by rw[h];rfl)];simp
  |false=>rw[List.filterMap_cons_none (by rw[h];rfl),Bool.false_or];exact ih
noncomputable def pz:Option Int->PV
 |none=>.none
 |some i=>.int (i-1)
theorem Lk{c:List (Option Int)}(h:iz c=false):(c.filterMap fun a=>if a=some 0 then none else some (pz a))=(posOf c).map cF:=by
 unfold posOf
 rw[List.map_filterMap]
 induction c with
 |nil=>rfl
 |cons a r ih =>
  rw[iz,List.any_cons,Bool.or_eq_false_iff] at h
  have ih:=ih h.2
  have e:(if a=some 0 then none else some (pz a))=(rY a).map cF:=by
   induction a with
   |none=>rfl
   |some i =>
    have hi:¬i<0:=of_decide_eq_false h.1
    by_cases h0:i=0
    ·subst h0;rfl
    ·have h1:0<i:=by omega
     have h2:((i-1).toNat:Int)=i-1:=Int.toNat_of_nonneg (by omega)
     have h3:¬(some i=some 0):=fun e=>h0 (Option.some.inj e)
     simp only[h3,if_false,rY,c6 h1,Option.map,cF,h2,pz]
  simp only[List.filterMap_cons,ih];rw[e]
theorem HC(c:List (Option Int)) (n:Nat):((List.range n).filterMap fun(k:Nat)=>if some (-(k:Int)-1)∈c then none else some (PV.int k))=(gG c n).map cF:=by
 unfold gG
 rw[List.map_filterMap]
 congr 1;funext j
 by_cases q:some (-(j:Int)-1)∈c
 ·rw[if_pos q,if_pos q];rfl
 ·rw[if_neg q,if_neg q];rfl
noncomputable def tC(g0:Option AV) (n:Nat) (g2 g3 g4:Option AV) (c:List (Option Int)) (x y z:Option AV):Gm:=[g0,some (.t (.int n)),g2,g3,g4,none,none,none,none,none,some (.t (.lst (c.map iZ))),x,y,z,none]
theorem iH(g0 n g2 g3 g4 c x y z):tC g0 n g2 g3 g4 c x y z=[g0,some (.t (.int n)),g2,g3,g4,none,none,none,none,none,some (.t (.lst (c.map iZ))),x,y,z,none]:=rfl
noncomputable def jE:Except Tx (List (Option Nat))->PV
 |.ok pl=>.tup [.lst (pl.map cF),.none]
 |.error m=>.str m
theorem Es(C:fy) (g0 g2 g3 g4:Option AV) (c:List (Option Int)) (n:Nat) (hn:n<=2000):∃st',bO C ((T 80).body.drop 7) (tC g0 n g2 g3 g4 c none none none) []=some (.ret (.t (jE (cD c n))) st'):=by
 rw[show(T 80).body.drop 7=[.assign 12 (.comp 11 (.var 10) (some (.and [(.cmp .eg (.var 11) .none),(.cmp .lt (.var 11) (.int 0))])) (.var 11)),
   .ifs (.cmp .eq (.var 12) (.list [])) [.ret (.tup [(.comp 13 (.var 10) (some (.cmp .ne (.var 13) (.int 0))) (.ite (.cmp .is (.var 13) .none) .none (.bin .sub (.var 13) (.int 1)))),.none])] [],
   .ifs (.cmp .oq .none (.var 10)) [.ret (.str bZ)] [],.ifs (.cmp .gt (.bi .qD [(.var 10)]) (.int 0)) [.ret (.str b3)] [],
   .ret (.tup [(.cO 14 [(.var 1)] (some (.cmp .sQ (.bin .sub (.neg (.var 14)) (.int 1)) (.var 10))) (.var 14)),.none])] from rfl]
 have h1:turns (dM C 11 (some (.and [(.cmp .eg (.var 11) .none),(.cmp .lt (.var 11) (.int 0))])) (.var 11) (tC g0 n g2 g3 g4 c none none none)) (c.map iZ) []=ok (c.filterMap fun a=>if iW a=true then some (iZ a) else none) []:=by
  refine jB _ _ _ fun a _=>⟨[],?_,rfl⟩
  unfold dM
  rw[iH]
  match a with
  |none=>simp only[af,av,ay,aH,aG,aV,cu,isNone_none,ak,dm,dw,kU,dH,mK,jn,jo,cG,cP,List.set_cons_zero,List.set_cons_succ,qc,iW,Bool.false_eq_true,if_false]
  |some i =>
   by_cases h:i<0
   ·simp only[af,av,ay,aH,bg,aG,aV,cu,fY,bN,ak,dm,eT,dw,eF,dH,mK,jn,iE,cG,cP,List.set_cons_zero,List.set_cons_succ,l0,if_true,iW,dG h]
   ·simp only[af,av,ay,aH,bg,aG,aV,cu,fY,bN,ak,dm,eT,dw,eF,dH,mK,jn,iE,cG,cP,List.set_cons_zero,List.set_cons_succ,l0,iW,bL h,Bool.false_eq_true,if_false]
 have U9:ev C (.comp 11 (.var 10) (some (.and [(.cmp .eg (.var 11) .none),(.cmp .lt (.var 11) (.int 0))])) (.var 11)) (tC g0 n g2 g3 g4 c none none none) []=alloc [] (.lst (c.filterMap fun a=>if iW a=true then some (iZ a) else none)):=dW rfl rfl rfl h1
 have hb:=BY c
 generalize(c.filterMap fun a=>if iW a=true then some (iZ a) else none)=bl at U9 hb
 have hA:ex C (.assign 12 (.comp 11 (.var 10) (some (.and [(.cmp .eg (.var 11) .none),(.cmp .lt (.var 11) (.int 0))])) (.var 11))) (tC g0 n g2 g3 g4 c none none none) []=some (.next (tC g0 n g2 g3 g4 c none (some (.r 0)) none) [.lst bl]):=by
  show(ev C _ _ _).out _=_
  rw[U9];rfl
 rw[ah,hA,au]
 unfold cD
 by_cases n1:iz c=false
 ·rw[if_pos n1]
  have n2:=hb.2 n1
  have h2:turns (dM C 13 (some (.cmp .ne (.var 13) (.int 0))) (.ite (.cmp .is (.var 13) .none) .none (.bin .sub (.var 13) (.int 1))) (tC g0 n g2 g3 g4 c none (some (.r 0)) none)) (c.map iZ) [.lst bl,.lst []]=ok (c.filterMap fun a=>if a=some 0 then none else some (pz a)) [.lst bl,.lst []]:=by
   refine jB _ _ _ fun a _=>⟨[.lst bl,.lst []],?_,rfl⟩
   unfold dM
   rw[iH]
   match a with
   |none=>simp only[af,av,ay,aH,bg,aG,aV,bk,x9,isNone_none,ak,cL,fZ,dH,mK,jn,cG,cP,List.set_cons_zero,List.set_cons_succ,qc,if_true,pz,show ¬((none:Option Int)=some 0) by decide,if_false]
   |some i =>
    by_cases h:i=0
    ·subst h;simp only[af,av,ay,aH,bg,aG,aV,bk,gW,bN,ak,cL,gf,dH,b7,eO,mK,jn,jo,cG,cP,List.set_cons_zero,List.set_cons_succ,l0,if_true,decide_true,pz,Bool.false_eq_true,if_false]
    ·have h3:¬(some i=some 0):=fun e=>h (Option.some.inj e)
     simp only[af,av,ay,aH,bg,aG,aV,bk,gW,bN,ak,cL,gf,dH,b7,eO,mK,jn,iE,cG,cP,List.set_cons_zero,List.set_cons_succ,l0,if_true,pz,bL h,h3,if_false]
  rw[Lk n1] at h2
  have Va:ev C (.comp 13 (.var 10) (some (.cmp .ne (.var 13) (.int 0))) (.ite (.cmp .is (.var 13) .none) .none (.bin .sub (.var 13) (.int 1)))) (tC g0 n g2 g3 g4 c none (some (.r 0)) none) [.lst bl,.lst []]=_:=dW rfl rfl rfl h2
  rw[iH] at Va ⊢
  refine⟨[.lst bl,.lst [],.fz (.lst ((posOf c).map cF))],?_⟩
  simp only[af,aF,aS,aM,aW,ah,av,ay,aH,aG,cR,bX,ak,aA,aq,ji,eG,eH,bS,nN,cG,cP,List.cons_append,List.nil_append,List.length_cons,List.length_nil,Nat.zero_add,Nat.reduceAdd,Va,dG n2]
  rfl
 ·rw[if_neg n1]
  have n2:¬bl.length=0:=fun e=>n1 (hb.1 e)
  by_cases m1:dR c=true
  ·rw[if_pos m1,iH]
   exact⟨_,by simp only[af,aF,aS,bD,aM,aW,ah,aL,au,bB,av,ay,aH,bI,aG,aV,cR,bX,ak,aA,ji,eH,bS,nN,cG,cP,List.cons_append,List.nil_append,List.length_cons,List.length_nil,Nat.zero_add,bL n2,wD,m1];rfl⟩
  ·rw[if_neg m1]
   have m2:=(Bool.not_eq_true _).mp m1
   obtain⟨m,hm1,Mz⟩:=En [.lst bl,.lst []] m1 n1
   by_cases p1:0<(posOf c).length
   ·rw[if_pos p1,iH]
    exact⟨_,by simp only[af,aF,aS,bD,aM,aW,ah,aL,au,bB,av,ay,aH,bI,bg,aG,aV,cR,bX,dY,ak,aA,aq,ji,uw,ek,cY,eH,bS,nN,cG,cP,List.cons_append,List.nil_append,List.length_cons,List.length_nil,Nat.zero_add,bL n2,wD,m2,hm1,dG (Mz.2 p1)];rfl⟩
   ·rw[if_neg p1]
    have p2:¬0<m:=fun e=>p1 (Mz.1 e)
    have h3:turns (dM C 14 (some (.cmp .sQ (.bin .sub (.neg (.var 14)) (.int 1)) (.var 10))) (.var 14) (tC g0 n g2 g3 g4 c none (some (.r 0)) none)) ((List.range n).map fun(k:Nat)=>PV.int k) [.lst bl,.lst []]=ok ((List.range n).filterMap fun(k:Nat)=>if some (-(k:Int)-1)∈c then none else some (PV.int k)) [.lst bl,.lst []]:=by
     refine jB _ _ _ fun d _=>⟨[.lst bl,.lst []],?_,rfl⟩
     unfold dM
     rw[iH]
     by_cases q:some (-(d:Int)-1)∈c
     ·simp only[af,av,ay,bg,aG,aV,ak,dH,b7,eO,oY,oZ,mK,jn,jo,cG,cP,List.set_cons_zero,List.set_cons_succ,Az,dG q,c6 q,Bool.false_eq_true,if_false]
     ·simp only[af,av,ay,bg,aG,aV,ak,dH,b7,eO,oY,oZ,mK,jn,iE,cG,cP,List.set_cons_zero,List.set_cons_succ,if_true,Az,bL q,l9 q]
    rw[HC] at h3
    have Vb:ev C (.cO 14 [(.var 1)] (some (.cmp .sQ (.bin .sub (.neg (.var 14)) (.int 1)) (.var 10))) (.var 14)) (tC g0 n g2 g3 g4 c none (some (.r 0)) none) [.lst bl,.lst []]=_:=pS rfl (nP hn) h3
    rw[iH] at Vb ⊢
    refine⟨[.lst bl,.lst [],.fz (.lst ((gG c n).map cF))],?_⟩
    simp only[af,aF,bD,aM,aW,ah,aL,au,av,ay,aH,bg,aG,aV,cR,bX,dY,ak,aA,aq,ji,uw,ek,cY,eG,eH,bS,nN,cG,cP,List.cons_append,List.nil_append,List.length_cons,List.length_nil,Nat.zero_add,Nat.reduceAdd,Vb,bL n2,wD,m2,hm1,bL p2]
    rfl
theorem yo(k:Nat) (l:List (Option Int)) (hl:l.length<1000) (n:Nat) (hn:n<1000) (o:Option (List (Option Tx))) (st:aB) :
  call T (k+2) 80 [.t (Ix.integer l).pv,.t (.int n),.t (fM o),.t (.bool false)] st=tu (iG n o (.integer l)) st:=by
 obtain⟨st',h⟩:=Es (call T (k+1)) (some (.t (vec aa (l.map iZ) .none))) (some (.t (fM o))) (some (.t (.bool false))) (some (.t (.str aa))) l n (by omega)
 have hc:=yk k l (by omega) []
 have e:tu (cD l n) st=ok (.t (jE (cD l n))) st:=by cases cD l n<;>rfl
 show _=tu (cD l n) st
 rw[e]
 refine bz (ds:=[(Ix.integer l).pv,.int n,fM o,.bool false]) rfl rfl (aN 6 (g':=MI (vec aa (l.map iZ) .none) n o aa) (st':=[]) rfl (bE ?_ h)) rfl
 show ex _ (.assign 10 (.call 79 [(.var 4),(.attr (.var 0) ai)])) _ _=_
 simp only[af,aF,aC,av,ay,cS,aA,aq,bW,gg,cG,cP,List.set_cons_zero,List.set_cons_succ,sf,iH,hc]
theorem zN(k:Nat) (l:List (Option (Int×Int))) (hl:l.length<1000) (hd:∀p∈l,FA p) (n:Nat) (hn:n<1000) (o:Option (List (Option Tx))) (st:aB) :
  call T (k+2) 80 [.t (Ix.eK l).pv,.t (.int n),.t (fM o),.t (.bool false)] st=tu (iG n o (.eK l)) st:=by
 obtain⟨st',h⟩:=Es (call T (k+1)) (some (.t (vec aY (l.map fP) .none))) (some (.t (fM o))) (some (.t (.bool false))) (some (.t (.str aY))) (l.map iF) n (by omega)
 have hc:=zM k l (by omega) hd []
 have e:tu (cD (l.map iF) n) st=ok (.t (jE (cD (l.map iF) n))) st:=by cases cD (l.map iF) n<;>rfl
 show _=tu (cD (l.map iF) n) st
 rw[e]
 refine bz (ds:=[(Ix.eK l).pv,.int n,fM o,.bool false]) rfl rfl (aN 6 (g':=MI (vec aY (l.map fP) .none) n o aY) (st':=[]) rfl (bE ?_ h)) rfl
 show ex _ (.assign 10 (.call 79 [(.var 4),(.attr (.var 0) ai)])) _ _=_
 simp only[af,aF,aC,av,ay,cS,aA,aq,bW,gg,cG,cP,List.set_cons_zero,List.set_cons_succ,sf,iH,hc]
theorem HD(k:Nat) (ix:Ix) (hx:ix.ok) (n:Nat) (hn:n<1000) (o:Option (List (Option Tx))) (st:aB):call T (k+2) 80 [.t ix.pv,.t (.int n),.t (fM o),.t (.bool false)] st=tu (iG n o ix) st:=by
 match ix,hx with
 |.missing,_=>exact Eo _ n hn o st
 |.null,_=>rfl
 |.list,_=>rfl
 |.logical l,hx=>exact ym _ l hx.1 hx.2 n hn o st
 |.integer l,hx=>exact yo k l hx n hn o st
 |.eK l,hx=>exact zN k l hx.1 hx.2 n hn o st
 |.character l,hx=>exact tB _ l hx n o st
set_option genCtorIdx false in
inductive It
 |sym (s:Tx)|int (i:Int)|chr (s:Tx)|null
noncomputable def It.ctorIdx(t:It):Nat:=It.casesOn (motive:=fun _=>Nat) t (fun _=>0) (fun _=>1) (fun _=>2) 3
noncomputable def It.pv:It->PV
 |.sym s=>Ti s
 |.int i=>vec aa [.int i] .none
 |.chr s=>vec ao [.str s] .none
 |.null=>cW
noncomputable def It.view:It->PV
 |.sym s=>.tup [.str cU,.str s]
 |.int i=>.tup [.str aa,.lst [.int i],.aK []]
 |.chr s=>.tup [.str ao,.lst [.str s],.aK []]
 |.null=>.str bq
theorem nU(k:Nat) (it:It) (st:aB):call T (k+2) 81 [.t it.pv] st=ok (.t it.view) st:=by induction it<;>rfl
theorem lg(k:Nat) (m:Tx) (st:aB):call T (k+2) 81 [.t (.str m)] st=ok (.t (.str m)) st:=rfl
noncomputable def nV(bK:List It) (tg:List PV):PV:=.tup [.str aI,.lst (bK.map It.view),.lst tg]
theorem views(k:Nat) (x:Nat) (g:Gm) (hx:x<g.length) (bK:List It) (st:aB) (hb:back st.length st=some st):turns (dM (call T (k+2)) x none (.call 81 [(.var x)]) g) (bK.map It.pv) st=ok (bK.map It.view) st:=by
 refine lT It.pv It.view bK fun it _=>⟨st,?_,hb⟩
 unfold dM
 simp only[af,av,ay,aA,aq,dH,bW,j9,if_true,List.getElem?_set_self hx,nU k it]
theorem gH(k:Nat) (bK:List It) (tg:List PV) (st:aB):call T (k+3) 81 [.t (bA (bK.map It.pv) tg)] st=ok (.t (nV bK tg)) st:=by
 refine bz (ds:=[bA (bK.map It.pv) tg]) (a:=.t (nV bK tg)) (st':=[.fz (.lst (bK.map It.view)),.fz (.lst tg)]) rfl rfl (aN 3 (g':=[some (.t (bA (bK.map It.pv) tg)),none,none,none,none]) (st':=[]) rfl ?_) rfl
 rw[show(T 81).body.drop 3=.ifs (.cmp .eq (.attr (.var 0) aj) (.str aI)) [.ret (.tup [(.str aI),(.comp 1 (.attr (.var 0) ai) none (.call 81 [(.var 1)])),(.bi .list [(.attr (.var 0) b6)])])] []::(T 81).body.drop 4 from rfl]
 have h:=views k 1 [some (.t (bA (bK.map It.pv) tg)),none,none,none,none] (show 1<5 by decide) bK [] rfl
 have h':=dW (C:=call T (k+2)) (src:=.attr (.var 0) ai) (st:=[]) rfl rfl rfl h
 have hg:∀st,uY st (.t (bA (bK.map It.pv) tg)) aj=ok (.t (.str aI)) st:=fun st=>rfl
 simp only[af,aF,aS,aM,aW,ah,av,ay,bI,cS,aG,aV,cX,ak,aA,aq,ek,cY,eG,bS,BQ,K2,qv,cG,decide_true,List.cons_append,List.nil_append,List.length_cons,List.length_nil,Nat.zero_add,h',hg]
 rfl
noncomputable def jS:Option (List PV)->PV
 |none=>.none
 |some l=>.aK [(bG,vec ao l .none)]
noncomputable def FD:Option (List PV)->PV
 |none=>.aK []
 |some l=>.aK [(bG,.tup [.str ao,.lst l,.aK []])]
theorem BZ(k:Nat) (bK:List It) (o:Option (List PV)) (st:aB):call T (k+4) 81 [.t (vec aE (bK.map It.pv) (jS o))] st=ok (.t (.tup [.str aE,.lst (bK.map It.view),FD o])) st:=by
 match o with
 |none =>
  refine bz (ds:=[vec aE (bK.map It.pv) .none]) (a:=.t (.tup [.str aE,.lst (bK.map It.view),.aK []])) (st':=[.fz (.aK []),.fz (.lst (bK.map It.view))]) rfl rfl (aN 6 (g':=[some (.t (vec aE (bK.map It.pv) .none)),none,some (.r 0),none,none]) (st':=[.aK []]) rfl ?_) rfl
  rw[show(T 81).body.drop 6=.ifs (.cmp .oq (.attr (.var 0) aj) (.tup [(.str aE),(.str cJ),(.str bH)])) [.ret (.tup [(.attr (.var 0) aj),(.comp 4 (.attr (.var 0) ai) none (.call 81 [(.var 4)])),(.var 2)])] []::(T 81).body.drop 7 from rfl]
  have h:=views (k+1) 4 [some (.t (vec aE (bK.map It.pv) .none)),none,some (.r 0),none,none] (show 4<5 by decide) bK [.aK []] rfl
  have h':=dW (C:=call T (k+3)) (src:=.attr (.var 0) ai) (st:=[.aK []]) (st2:=[.aK []]) rfl rfl rfl h
  have hc:ev (call T (k+3)) (.cmp .oq (.attr (.var 0) aj) (.tup [(.str aE),(.str cJ),(.str bH)])) [some (.t (vec aE (bK.map It.pv) .none)),none,some (.r 0),none,none] [.aK []]=ok (.t (.bool true)) [.aK []]:=rfl
  simp only[ah,aM,hc,aF,ak,aS]
  simp only[af,aW,av,ay,cS,aA,aq,eG,bS,wm,cG,cP,List.cons_append,List.nil_append,List.length_cons,List.length_nil,Nat.zero_add,h']
  rfl
 |some l =>
  refine bz (ds:=[vec aE (bK.map It.pv) (jS (some l))]) (a:=.t (.tup [.str aE,.lst (bK.map It.view),FD (some l)])) (st':=[.aK [],.fz (FD (some l)),.fz (.lst (bK.map It.view))]) rfl rfl (aN 6 (g':=[some (.t (vec aE (bK.map It.pv) (jS (some l)))),none,some (.r 1),none,none]) (st':=[.aK [],.aK [(bG,.tup [.str ao,.lst l,.aK []])]]) rfl ?_) rfl
  rw[show(T 81).body.drop 6=.ifs (.cmp .oq (.attr (.var 0) aj) (.tup [(.str aE),(.str cJ),(.str bH)])) [.ret (.tup [(.attr (.var 0) aj),(.comp 4 (.attr (.var 0) ai) none (.call 81 [(.var 4)])),(.var 2)])] []::(T 81).body.drop 7 from rfl]
  have h:=views (k+1) 4 [some (.t (vec aE (bK.map It.pv) (jS (some l)))),none,some (.r 1),none,none] (show 4<5 by decide) bK [.aK [],.aK [(bG,.tup [.str ao,.lst l,.aK []])]] rfl
  have h':=dW (C:=call T (k+3)) (src:=.attr (.var 0) ai) (st:=[.aK [],.aK [(bG,.tup [.str ao,.lst l,.aK []])]]) (st2:=[.aK [],.aK [(bG,.tup [.str ao,.lst l,.aK []])]]) rfl rfl rfl h
  have hc:ev (call T (k+3)) (.cmp .oq (.attr (.var 0) aj) (.tup [(.str aE),(.str cJ),(.str bH)])) [some (.t (vec aE (bK.map It.pv) (jS (some l)))),none,some (.r 1),none,none] [.aK [],.aK [(bG,.tup [.str ao,.lst l,.aK []])]]=ok (.t (.bool true)) [.aK [],.aK [(bG,.tup [.str ao,.lst l,.aK []])]]:=rfl
  simp only[ah,aM,hc,aF,ak,aS]
  simp only[af,aW,av,ay,cS,aA,aq,eG,bS,wm,cG,cP,List.cons_append,List.nil_append,List.length_cons,List.length_nil,Nat.zero_add,Nat.reduceAdd,h']
  rfl
noncomputable def eU:Option Tx->PV
 |none=>.str []
 |some s=>.str s
theorem uG(C:fy) (x:Nat) (g:Gm) (hx:x<g.length) (tO:List (Option Tx)) (st:aB) (hb:back st.length st=some st):turns (dM C x none (.ite (.cmp .eg (.var x) .none) (.var x) (.str [])) g) (tO.map aD) st=ok (tO.map eU) st:=by
 refine lT aD eU tO fun a _=>⟨st,?_,hb⟩
 unfold dM
 induction a with
 |none=>simp only[af,av,ay,aH,bI,aG,aV,cu,isNone_none,ak,cL,gf,dH,j9,jo,rW,if_true,List.getElem?_set_self hx,eU]
 |some s=>simp only[af,av,ay,aH,aG,aV,cu,cB,ak,cL,fZ,dH,j9,iE,jC,if_true,List.getElem?_set_self hx,eU]
noncomputable def sj:Option Tx->Option Tx
 |none=>some []
 |some s=>some s
theorem zO(tO:List (Option Tx)):tO.map eU=(tO.map sj).map aD:=by
 rw[List.map_map];exact List.map_congr_left fun a _=>by induction a<;>rfl
noncomputable def Pe:List S:=[.ifs (.or [(.cmp .is (.var 7) .none),(.cmp .ge (.var 7) (.bi .len [(.attr (.var 0) b6)])),(.cmp .eq (.sub (.attr (.var 0) b6) (.var 7)) (.str []))]) [.expr (.b4 .append (.var 6) [.none])] [.expr (.b4 .append (.var 6) [(.sub (.attr (.var 0) b6) (.var 7))])]]
theorem Ll(C:fy) (l:List PV) (tO:List (Option Tx)) (ht:∀s,some s∈tO->s≠[]) (g1 g2 g3 g4 g5:Option AV) (n0 n1 n2:Node) (found:List PV) (hf:found.length<2000) (p:Option Nat) :
 bO C Pe [some (.t (bA l (tO.map aD))),g1,g2,g3,g4,g5,some (.r 3),some (.t (cF p))] [n0,n1,n2,.lst found]
  = some (.next [some (.t (bA l (tO.map aD))),g1,g2,g3,g4,g5,some (.r 3),some (.t (cF p))] [n0,n1,n2,.lst (found++[aT (tO.map aD) .none p])]):=by
 unfold Pe
 induction p with
 |none=>simp only[af,aF,aS,aM,bx,ah,aL,au,av,ay,aH,aG,aV,cR,bX,bk,isNone_none,ak,dD,dF,j8,aA,aq,br,bu,aU,aZ,cM,bf,bV,cG,cP,List.set_cons_zero,List.set_cons_succ,kc,c6 hf,zG]
 |some i =>
  by_cases h:tO.length<=i
  ·have h':(tO.map aD).length<=i:=by rw[List.length_map];exact h
   simp only[af,aF,aS,aM,bx,ah,aL,au,av,ay,aH,cS,aG,aV,cR,bX,bk,eE,bN,ak,dD,dF,j8,e9,aA,aq,br,bu,aU,aZ,cM,bf,bV,cC,ek,cY,gn,qv,cG,cP,List.set_cons_zero,List.set_cons_succ,kg,List.length_map,c6 hf,rX (tO.map aD) .none h',Int.ofNat_le,dG h]
  ·have h2:i<tO.length:=Nat.lt_of_not_le h
   have h3:(tO.map aD)[i]? = some (aD tO[i]):=by rw[List.getElem?_map,List.getElem?_eq_getElem h2];rfl
   have h4:aT (tO.map aD) .none (some i)=aD tO[i]:=by
    rw[wo (tO.map aD) .none (by rw[List.length_map];exact h2),List.getElem_map]
   have h5:=fun s (e:tO[i]=some s)=>ht s (by rw[<-e];exact List.getElem_mem h2)
   generalize tO[i]=q at h3 h4 h5
   match q,h3,h4,h5 with
   |none,h3,h4,_=>simp only[af,aF,bD,aM,bx,ah,aL,au,av,ay,aH,bI,cS,aG,aV,cR,bX,bk,eE,bN,ak,dD,fD,dF,e9,aA,aq,br,bu,aU,aZ,cM,bf,bV,bR,fG,fH,cC,ek,cY,gn,BR,qv,cG,cP,List.set_cons_zero,List.set_cons_succ,kg,rW,List.length_map,c6 hf,h4,Int.ofNat_le,bL h,h3]
   |some s,h3,h4,h5=>simp only[af,aF,bD,aM,bx,ah,aL,au,av,ay,aH,bI,cS,aG,aV,cR,bX,bk,eE,cX,bN,ak,dD,fD,dF,e9,aA,aq,br,bu,aU,aZ,cM,bf,bV,bR,fG,fH,cC,ek,cY,gn,qv,cG,cP,List.set_cons_zero,List.set_cons_succ,kg,jC,List.length_map,c6 hf,h4,Int.ofNat_le,bL h,h3,bL (h5 s rfl)]
noncomputable def Jf(bK:List It) (tO:List (Option Tx)):Except Tx (List (Option Nat))->aB->R AV
 |.ok pl,st=>if pl.length=0 then Mine.ok (.t cW) st else Mine.ok (.t (bA (pl.map (aT (bK.map It.pv) cW)) (pl.map (aT (tO.map aD) .none)))) st
 |.error m,st=>some (.error (m,st))
theorem gJ{C:fy}{c:ie}{f:Nat}{l:List E}{g:Gm}{as:List AV}{st st1 st2:aB}(h1:gj C l g st=ok as st1) (h2:C f (.r st1.length::as) (st1++[.inst c []])=ok (.t .none) st2):ev C (.new c f l) g st=ok (.r st1.length) st2:=by
 show R.bind (gj C l g st) _=_
 rw[h1,af]
 show R.bind (C f (.r st1.length::as) (st1++[.inst c []])) _=_
 rw[h2,af];rfl
theorem qw{ix:Ix}(hx:ix.ok){n:Nat}(hn:n<1000){o:Option (List (Option Tx))}{pl:List (Option Nat)}(h:iG n o ix=.ok pl):pl.length<=1000:=by
 have hw:∀(c:List (Option Int)),c.length<1000->cD c n=.ok pl->pl.length<=1000:=by
  intro c hc h
  unfold cD at h
  by_cases h1:iz c=false
  ·rw[if_pos h1] at h;(injection h with h;subst h);exact Nat.le_trans (uB c) (Nat.le_of_lt hc)
  ·rw[if_neg h1] at h
   by_cases h2:dR c=true
   ·rw[if_pos h2] at h;injection h
   ·rw[if_neg h2] at h
    by_cases h3:0<(posOf c).length
    ·rw[if_pos h3] at h;injection h
    ·rw[if_neg h3] at h;(injection h with h;subst h)
     refine Nat.le_trans (List.length_filterMap_le _ _) ?_
     rw[List.length_range];omega
 match ix,hx,h with
 |.missing,_,h=>(injection h with h;subst h);simp;omega
 |.null,_,h=>(injection h with h;subst h);simp
 |.logical l,hx,h =>
  (injection h with h;subst h);unfold jQ
  by_cases h0:l.length=0
  ·rw[if_pos h0];simp
  ·rw[if_neg h0]
   refine Nat.le_trans (List.length_filterMap_le _ _) ?_
   have:=hx.1
   rw[List.length_range];omega
 |.integer l,hx,h=>exact hw l hx h
 |.eK l,hx,h=>exact hw (l.map iF) (by rw[List.length_map];exact hx.1) h
 |.character l,hx,h =>
  injection h with h;subst h
  have hx:l.length<1000:=hx
  simp;omega
noncomputable def jT(tO:List (Option Tx)):Prop:=tO.length<1000/\∀s,some s∈tO->s≠[]/\s≠b9
theorem Et{tO:List (Option Tx)}(h:jT tO):okN (some (tO.map sj)):=by
 intro l hl;(injection hl with hl;subst hl)
 refine⟨by have:=h.1;simp;omega,fun s hs=>?_⟩
 obtain⟨a,ha,e⟩:=List.mem_map.mp hs
 induction a with
 |none=>(injection e with e;subst e);decide
 |some t=>(injection e with e;subst e);exact(h.2 _ ha).2
noncomputable def iI(l:List PV):List Node:=[.lst l,.inst .aQ [(aj,.t (.str aE)),(ai,.r 0),(az,.t .none),(aX,.t (.bool false))]]
noncomputable def Pf(bK:List It) (tO:List (Option Tx)) (pl:List (Option Nat)):List Node:=[.fz (.lst (bK.map It.pv)),.fz (vec aE (bK.map It.pv) .none),.fz (.lst (tO.map eU)),.lst (pl.map (aT (tO.map aD) .none)),.inst .call [(aj,.t (.str aI)),(ai,.t (.lst (pl.map (aT (bK.map It.pv) cW)))),(b6,.r 3),(az,.t .none),(jM,.t .none)]]
theorem yp(k:Nat) (bK:List It) (hi:bK.length<1000) (tO:List (Option Tx)) (ht:jT tO) (ix:Ix) (hx:ix.ok) (hm:ix≠.missing) (st:aB) :
  call T (k+7) 42 [.t (bA (bK.map It.pv) (tO.map aD)),.t (.lst [ix.pv])] st=Jf bK tO (iG bK.length (some (tO.map sj)) ix) st:=by
 have sq:=positions (k+1) ix hx hm bK.length hi (some (tO.map sj)) (Et ht)
 have hlen:=fun pl=>qw hx hi (o:=some (tO.map sj)) (pl:=pl)
 generalize iG bK.length (some (tO.map sj)) ix=D at sq hlen
 have h2:=dW (C:=call T (k+6)) (x:=3) (src:=.attr (.var 0) b6) (c:=none) (e:=.ite (.cmp .eg (.var 3) .none) (.var 3) (.str [])) (g:=[some (.t (bA (bK.map It.pv) (tO.map aD))),some (.t (.lst [ix.pv])),some (.r 1),none,none,none,none,none]) (st:=iI (bK.map It.pv)) (st2:=iI (bK.map It.pv)) rfl rfl rfl
  (uG _ 3 [some (.t (bA (bK.map It.pv) (tO.map aD))),some (.t (.lst [ix.pv])),some (.r 1),none,none,none,none,none] (show 3<8 by decide) tO _ rfl)
 have s2:bO (call T (k+6)) ((T 42).body.take 3) [some (.t (bA (bK.map It.pv) (tO.map aD))),some (.t (.lst [ix.pv])),none,none,none,none,none,none] [] =
   some (.next [some (.t (bA (bK.map It.pv) (tO.map aD))),some (.t (.lst [ix.pv])),some (.r 1),none,some (.r 2),none,none,none] (iI (bK.map It.pv)++[Node.lst (tO.map eU)])):=by
  refine aN 2 (g':=[some (.t (bA (bK.map It.pv) (tO.map aD))),some (.t (.lst [ix.pv])),some (.r 1),none,none,none,none,none]) (st':=iI (bK.map It.pv)) rfl ?_
  show bO _ [.assign 4 (.comp 3 (.attr (.var 0) b6) none (.ite (.cmp .eg (.var 3) .none) (.var 3) (.str [])))] _ _=_
  simp only[ah,aC,h2];rfl
 have h3:ev (call T (k+6)) (.call 26 [(.sub (.var 1) (.int 0)),(.bi .len [(.attr (.var 2) ai)]),(.var 4),(.bool false)]) [some (.t (bA (bK.map It.pv) (tO.map aD))),some (.t (.lst [ix.pv])),some (.r 1),none,some (.r 2),none,none,none] (iI (bK.map It.pv)++[Node.lst (tO.map eU)])=zL D (iI (bK.map It.pv)++[Node.fz (PV.lst (tO.map eU))]):=by
  refine dJ (f:=26) (as:=[.t ix.pv,.t (.int bK.length),.r 2,.t (.bool false)]) (ds:=[ix.pv,.int bK.length,.lst (tO.map eU),.bool false]) (st1:=iI (bK.map It.pv)++[Node.lst (tO.map eU)]) (st2:=iI (bK.map It.pv)++[Node.fz (PV.lst (tO.map eU))]) ?_ rfl rfl ?_
  ·rw[<-List.length_map (f:=It.pv)];rfl
  ·rw[zO];exact sq _
 induction D with
 |error m =>
  refine fK (ds:=[bA (bK.map It.pv) (tO.map aD),.lst [ix.pv]]) (st':=iI (bK.map It.pv)++[Node.fz (PV.lst (tO.map eU))]) rfl rfl (aN 3 s2 ?_)
  rw[show(T 42).body.drop 3=.assign 5 (.sub (.call 26 [(.sub (.var 1) (.int 0)),(.bi .len [(.attr (.var 2) ai)]),(.var 4),(.bool false)]) (.int 0))::(T 42).body.drop 4 from rfl]
  simp only[ah,aC,bR,h3];rfl
 |ok pl =>
  have hl:=hlen pl rfl
  have s3:bO (call T (k+6)) ((T 42).body.take 4) [some (.t (bA (bK.map It.pv) (tO.map aD))),some (.t (.lst [ix.pv])),none,none,none,none,none,none] [] =
   some (.next [some (.t (bA (bK.map It.pv) (tO.map aD))),some (.t (.lst [ix.pv])),some (.r 1),none,some (.r 2),some (.t (.lst (pl.map cF))),none,none] (iI (bK.map It.pv)++[Node.fz (PV.lst (tO.map eU))])):=by
   refine aN 3 s2 ?_
   show bO _ [.assign 5 (.sub (.call 26 [(.sub (.var 1) (.int 0)),(.bi .len [(.attr (.var 2) ai)]),(.var 4),(.bool false)]) (.int 0))] _ _=_
   simp only[ah,aC,bR,h3];rfl
  show _=if pl.length=0 then Mine.ok (AV.t cW) st else Mine.ok (AV.t (bA (pl.map (aT (bK.map It.pv) cW)) (pl.map (aT (tO.map aD) .none)))) st
  by_cases h0:pl.length=0
  ·rw[if_pos h0]
   obtain rfl:=List.eq_nil_of_length_eq_zero h0
   exact bz (ds:=[bA (bK.map It.pv) (tO.map aD),.lst [ix.pv]]) rfl rfl (aN 4 s3 rfl) rfl
  ·rw[if_neg h0]
   have Tn:¬(pl.length:Int)=0:=by omega
   obtain⟨g',st',h1,x,rfl,rfl⟩:=dK (f:=bO (call T (k+6)) Pe) (x:=7) (n:=4) cF
    (fun pre g st=>∃x,g=[some (.t (bA (bK.map It.pv) (tO.map aD))),some (.t (.lst [ix.pv])),some (.r 1),none,some (.r 2),some (.t (.lst (pl.map cF))),some (.r 3),x]/\st=iI (bK.map It.pv)++[Node.fz (PV.lst (tO.map eU)),.lst (pre.map (aT (tO.map aD) .none))])
    pl [some (.t (bA (bK.map It.pv) (tO.map aD))),some (.t (.lst [ix.pv])),some (.r 1),none,some (.r 2),some (.t (.lst (pl.map cF))),some (.r 3),none] (iI (bK.map It.pv)++[Node.fz (PV.lst (tO.map eU)),Node.lst []]) ⟨_,rfl,rfl⟩ (by
     rintro p b q g st e ⟨x,rfl,rfl⟩
     refine⟨_,_,⟨_,_,.inl (Ll _ _ tO (fun s hs=>(ht.2 s hs).1) _ _ _ _ _ _ _ _ _ ?_ b),rfl⟩,_,rfl,?_⟩
     ·have:=congrArg List.length e;simp at this ⊢;omega
     ·rw[List.map_append];rfl)
   have hF:=eS (C:=call T (k+6)) (x:=7) (src:=.var 5) (body:=Pe) (g:=[some (.t (bA (bK.map It.pv) (tO.map aD))),some (.t (.lst [ix.pv])),some (.r 1),none,some (.r 2),some (.t (.lst (pl.map cF))),some (.r 3),none]) (st:=iI (bK.map It.pv)++[Node.fz (PV.lst (tO.map eU)),Node.lst []]) (st2:=iI (bK.map It.pv)++[Node.fz (PV.lst (tO.map eU)),Node.lst []]) (items:=pl.map cF) rfl rfl rfl h1
   have Lm:ev (call T (k+6)) (.call 35 [(.var 2),(.var 5)]) [some (.t (bA (bK.map It.pv) (tO.map aD))),some (.t (.lst [ix.pv])),some (.r 1),none,some (.r 2),some (.t (.lst (pl.map cF))),some (.r 3),x] (iI (bK.map It.pv)++[Node.fz (PV.lst (tO.map eU)),.lst (pl.map (aT (tO.map aD) .none))]) =
     ok (.t (.lst (pl.map (aT (bK.map It.pv) cW)))) [.fz (.lst (bK.map It.pv)),.fz (vec aE (bK.map It.pv) .none),.fz (.lst (tO.map eU)),.lst (pl.map (aT (tO.map aD) .none))]:=by
    refine dJ (f:=35) (as:=[.r 1,.t (.lst (pl.map cF))]) (ds:=[vec aE (bK.map It.pv) .none,.lst (pl.map cF)]) rfl rfl rfl ?_
    exact nQ (k+4) aE (bK.map It.pv) .none cW (BS _) pl (by omega) _
   have s7:gj (call T (k+6)) [(.call 35 [(.var 2),(.var 5)]),(.var 6)] [some (.t (bA (bK.map It.pv) (tO.map aD))),some (.t (.lst [ix.pv])),some (.r 1),none,some (.r 2),some (.t (.lst (pl.map cF))),some (.r 3),x] (iI (bK.map It.pv)++[Node.fz (PV.lst (tO.map eU)),.lst (pl.map (aT (tO.map aD) .none))])=ok [AV.t (.lst (pl.map (aT (bK.map It.pv) cW))),AV.r 3] [.fz (.lst (bK.map It.pv)),.fz (vec aE (bK.map It.pv) .none),.fz (.lst (tO.map eU)),.lst (pl.map (aT (tO.map aD) .none))]:=by
    rw[aq,Lm];rfl
   have Bt:=gJ (C:=call T (k+6)) (c:=.call) (f:=5) s7 (st2:=(Pf bK tO pl)) rfl
   refine bz (ds:=[bA (bK.map It.pv) (tO.map aD),.lst [ix.pv]]) (a:=.r 4) (st':=Pf bK tO pl) (d:=bA (pl.map (aT (bK.map It.pv) cW)) (pl.map (aT (tO.map aD) .none))) rfl rfl (aN 4 s3 ?_) rfl
   rw[show(T 42).body.drop 4=[.ifs (.cmp .eq (.bi .len [(.var 5)]) (.int 0)) [.ret (.new .null 0 [])] [],.assign 6 (.list []),.gp 7 (.var 5) Pe,.ret (.new .call 5 [(.call 35 [(.var 2),(.var 5)]),(.var 6)])] from rfl]
   refine aN 2 (g':=[some (.t (bA (bK.map It.pv) (tO.map aD))),some (.t (.lst [ix.pv])),some (.r 1),none,some (.r 2),some (.t (.lst (pl.map cF))),some (.r 3),none]) (st':=iI (bK.map It.pv)++[Node.fz (PV.lst (tO.map eU)),Node.lst []]) ?_ (bE hF ?_)
   ·show bO _ [.ifs (.cmp .eq (.bi .len [(.var 5)]) (.int 0)) [.ret (.new .null 0 [])] [],.assign 6 (.list [])] _ _=_
    simp only[af,aF,bD,aM,aC,ah,aL,au,av,ay,bg,aG,aV,cK,ak,aA,aq,ji,cC,ek,cY,gn,eH,bS,cG,cP,List.set_cons_zero,List.set_cons_succ,List.length_map,bL Tn];rfl
   ·show bO _ [.ret (.new .call 5 [(.call 35 [(.var 2),(.var 5)]),(.var 6)])] _ _=_
    simp only[ah,aW,Bt];rfl
theorem lV{T:Nat->Fn}{k f:Nat}{as:List AV}{g:Gm}{a:AV}{st st':aB}(hr:(T f).ref=true) (ho:(T f).own=true) (hs:(T f).start as=some g) (hb:bO (call T k) (T f).body g st=some (.ret a st')):call T (k+1) f as st=ok a st':=by
 show fB (call T k) (T f) as st=_
 simp only[fB,hr,ho,hs]
 show CT true _ (bO (call T k) (T f).body g st)=_
 rw[hb]
 rfl
theorem lq{T:Nat->Fn}{k f:Nat}{as:List AV}{g:Gm}{m:Tx}{st st':aB}(hr:(T f).ref=true) (hs:(T f).start as=some g) (hb:bO (call T k) (T f).body g st=some (.exc m st')):call T (k+1) f as st=some (.error (m,st')):=by
 show fB (call T k) (T f) as st=_
 simp only[fB,hr,hs]
 show CT _ _ (bO (call T k) (T f).body g st)=_
 rw[hb]
 rfl
noncomputable def aR(l:List PV) (n:Nat):Option (List PV)->PV
 |none=>vec aa l (.aK [(dX,vec aa [.int n] .none)])
 |some hs=>vec aa l (.aK [(dX,vec aa [.int n] .none),(bP,vec aE [vec ao hs .none] .none)])
noncomputable def b5(l nm:List PV):PV:=vec bH l (.aK [(bG,vec ao nm .none)])
noncomputable def MJ(j:Nat) (SE:aB) (SF:List (Option Nat)->aB):Except Tx (List (Option Nat))->R AV
 |.ok pl=>Mine.ok (.r j) (SF pl)
 |.error m=>some (.error (m,SE))
theorem ML:(T 37).body=[.assign 2 (.call 16 [(.var 0)]),.assign 3 (.sub (.call 26 [(.var 1),(.bi .len [(.attr (.var 0) ai)]),(.var 2),(.bool false)]) (.int 0)),.assign 4 (.new .aJ 2 [(.call 34 [(.attr (.var 0) aj)]),(.call 35 [(.var 0),(.var 3)])]),.ifs (.cmp .eg (.var 2) .none) [.expr (.call 9 [(.var 4),(.call 36 [(.var 2),(.var 3)])])] [],.ret (.var 4)]:=rfl
noncomputable def lu(l:List PV) (nm:List (Option Tx)) (pl:List (Option Nat)):aB:=[Node.fz (.lst (nm.map aD)),Node.inst .aQ [(aj,.t (.str aE)),(ai,.t (.lst (pl.map (aT l cW)))),(az,.r 2),(aX,.t (.bool false))],Node.aK [(bG,vec ao (pl.map (aT (nm.map aD) (.str eN))) .none)]]
theorem Eu(k:Nat) (l:List PV) (hl:l.length<1000) (nm:List (Option Tx)) (ho:okN (some nm)) (ix:Ix) (hx:ix.ok) (hm:ix≠.missing) :
  call T (k+8) 37 [.t (b5 l (nm.map aD)),.t ix.pv] []=MJ 1 [Node.fz (.lst (nm.map aD))] (fun pl=>lu l nm pl) (iG l.length (some nm) ix):=by
 have sq:=positions (k+2) ix hx hm l.length hl (some nm) ho
 have hlen:=fun pl=>qw hx hl (o:=some nm) (pl:=pl)
 generalize iG l.length (some nm) ix=D at sq hlen
 have s0:bO (call T (k+7)) ((T 37).body.take 1) [some (.t (b5 l (nm.map aD))),some (.t ix.pv),none,none,none] []=some (.next [some (.t (b5 l (nm.map aD))),some (.t ix.pv),some (.r 0),none,none] [Node.lst (nm.map aD)]):=rfl
 have h1:ev (call T (k+7)) (.call 26 [(.var 1),(.bi .len [(.attr (.var 0) ai)]),(.var 2),(.bool false)]) [some (.t (b5 l (nm.map aD))),some (.t ix.pv),some (.r 0),none,none] [Node.lst (nm.map aD)]=zL D [Node.fz (.lst (nm.map aD))] :=
  dJ (f:=26) (as:=[.t ix.pv,.t (.int l.length),.r 0,.t (.bool false)]) (ds:=[ix.pv,.int l.length,.lst (nm.map aD),.bool false]) (st1:=[Node.lst (nm.map aD)]) (st2:=[Node.fz (.lst (nm.map aD))]) rfl rfl rfl (sq _)
 induction D with
 |error m =>
  refine lq (as:=[.t (b5 l (nm.map aD)),.t ix.pv]) (g:=[some (.t (b5 l (nm.map aD))),some (.t ix.pv),none,none,none]) rfl rfl (aN 1 s0 ?_)
  rw[ML]
  show bO _ (.assign 3 (.sub (.call 26 [(.var 1),(.bi .len [(.attr (.var 0) ai)]),(.var 2),(.bool false)]) (.int 0))::_) _ _=_
  simp only[ah,aC,bR,h1];rfl
 |ok pl =>
  have hp:=hlen pl rfl
  have s1:ex (call T (k+7)) (.assign 3 (.sub (.call 26 [(.var 1),(.bi .len [(.attr (.var 0) ai)]),(.var 2),(.bool false)]) (.int 0))) [some (.t (b5 l (nm.map aD))),some (.t ix.pv),some (.r 0),none,none] [Node.lst (nm.map aD)]=some (.next [some (.t (b5 l (nm.map aD))),some (.t ix.pv),some (.r 0),some (.t (.lst (pl.map cF))),none] [Node.fz (.lst (nm.map aD))]):=by
   simp only[aC,bR,h1];rfl
  have Lm:ev (call T (k+7)) (.call 35 [(.var 0),(.var 3)]) [some (.t (b5 l (nm.map aD))),some (.t ix.pv),some (.r 0),some (.t (.lst (pl.map cF))),none] [Node.fz (.lst (nm.map aD))]=ok (.t (.lst (pl.map (aT l cW)))) [Node.fz (.lst (nm.map aD))] :=
   dJ (f:=35) (as:=[.t (b5 l (nm.map aD)),.t (.lst (pl.map cF))]) (ds:=[b5 l (nm.map aD),.lst (pl.map cF)]) (st1:=[Node.fz (.lst (nm.map aD))]) (st2:=[Node.fz (.lst (nm.map aD))]) rfl rfl rfl (nQ (k+5) bH l (.aK [(bG,vec ao (nm.map aD) .none)]) (cW) (tn _) pl (by omega) _)
  have Pg:ev (call T (k+7)) (.call 34 [(.attr (.var 0) aj)]) [some (.t (b5 l (nm.map aD))),some (.t ix.pv),some (.r 0),some (.t (.lst (pl.map cF))),none] [Node.fz (.lst (nm.map aD))]=ok (.t (.str aE)) [Node.fz (.lst (nm.map aD))]:=rfl
  have s7:gj (call T (k+7)) [(.call 34 [(.attr (.var 0) aj)]),(.call 35 [(.var 0),(.var 3)])] [some (.t (b5 l (nm.map aD))),some (.t ix.pv),some (.r 0),some (.t (.lst (pl.map cF))),none] [Node.fz (.lst (nm.map aD))]=ok [AV.t (.str aE),AV.t (.lst (pl.map (aT l cW)))] [Node.fz (.lst (nm.map aD))]:=by
   simp only[aq,aA,Pg,Lm,af]
  have s2:ex (call T (k+7)) (.assign 4 (.new .aJ 2 [(.call 34 [(.attr (.var 0) aj)]),(.call 35 [(.var 0),(.var 3)])])) [some (.t (b5 l (nm.map aD))),some (.t ix.pv),some (.r 0),some (.t (.lst (pl.map cF))),none] [Node.fz (.lst (nm.map aD))]=some (.next [some (.t (b5 l (nm.map aD))),some (.t ix.pv),some (.r 0),some (.t (.lst (pl.map cF))),some (.r 1)] [Node.fz (.lst (nm.map aD)),Node.inst .aQ [(aj,.t (.str aE)),(ai,.t (.lst (pl.map (aT l cW)))),(az,.t .none),(aX,.t (.bool false))]]):=by
   have h:=gJ (C:=call T (k+7)) (c:=.aJ) (f:=2) s7 (st2:=[Node.fz (.lst (nm.map aD)),Node.inst .aQ [(aj,.t (.str aE)),(ai,.t (.lst (pl.map (aT l cW)))),(az,.t .none),(aX,.t (.bool false))]]) rfl
   simp only[aC,h];rfl
  refine lV (as:=[.t (b5 l (nm.map aD)),.t ix.pv]) (g:=[some (.t (b5 l (nm.map aD))),some (.t ix.pv),none,none,none]) rfl rfl rfl (aN 1 s0 ?_)
  rw[ML]
  refine bE s1 (bE s2 ?_)
  have Tp:ev (call T (k+7)) (.call 36 [(.var 2),(.var 3)]) [some (.t (b5 l (nm.map aD))),some (.t ix.pv),some (.r 0),some (.t (.lst (pl.map cF))),some (.r 1)] [Node.fz (.lst (nm.map aD)),Node.inst .aQ [(aj,.t (.str aE)),(ai,.t (.lst (pl.map (aT l cW)))),(az,.t .none),(aX,.t (.bool false))]]=ok (.t (.lst (pl.map (aT (nm.map aD) (.str eN))))) [Node.fz (.lst (nm.map aD)),Node.inst .aQ [(aj,.t (.str aE)),(ai,.t (.lst (pl.map (aT l cW)))),(az,.t .none),(aX,.t (.bool false))]] :=
   dJ (f:=36) (as:=[.r 0,.t (.lst (pl.map cF))]) (ds:=[.lst ((nm.map aD)),.lst (pl.map cF)]) (st1:=[Node.fz (.lst (nm.map aD)),Node.inst .aQ [(aj,.t (.str aE)),(ai,.t (.lst (pl.map (aT l cW)))),(az,.t .none),(aX,.t (.bool false))]]) (st2:=[Node.fz (.lst (nm.map aD)),Node.inst .aQ [(aj,.t (.str aE)),(ai,.t (.lst (pl.map (aT l cW)))),(az,.t .none),(aX,.t (.bool false))]]) rfl rfl rfl (yf (k+6) ((nm.map aD)) pl (by omega) _)
  have Ln:gj (call T (k+7)) [(.var 4),(.call 36 [(.var 2),(.var 3)])] [some (.t (b5 l (nm.map aD))),some (.t ix.pv),some (.r 0),some (.t (.lst (pl.map cF))),some (.r 1)] [Node.fz (.lst (nm.map aD)),Node.inst .aQ [(aj,.t (.str aE)),(ai,.t (.lst (pl.map (aT l cW)))),(az,.t .none),(aX,.t (.bool false))]]=ok [AV.r 1,AV.t (.lst (pl.map (aT (nm.map aD) (.str eN))))] [Node.fz (.lst (nm.map aD)),Node.inst .aQ [(aj,.t (.str aE)),(ai,.t (.lst (pl.map (aT l cW)))),(az,.t .none),(aX,.t (.bool false))]]:=by
   simp only[aq,aA,av,ay,cP,cG,Tp,af]
  have s3:ex (call T (k+7)) (.ifs (.cmp .eg (.var 2) .none) [.expr (.call 9 [(.var 4),(.call 36 [(.var 2),(.var 3)])])] []) [some (.t (b5 l (nm.map aD))),some (.t ix.pv),some (.r 0),some (.t (.lst (pl.map cF))),some (.r 1)] [Node.fz (.lst (nm.map aD)),Node.inst .aQ [(aj,.t (.str aE)),(ai,.t (.lst (pl.map (aT l cW)))),(az,.t .none),(aX,.t (.bool false))]]=some (.next [some (.t (b5 l (nm.map aD))),some (.t ix.pv),some (.r 0),some (.t (.lst (pl.map cF))),some (.r 1)] (lu l nm pl)):=by
   have hc:ev (call T (k+7)) (.cmp .eg (.var 2) .none) [some (.t (b5 l (nm.map aD))),some (.t ix.pv),some (.r 0),some (.t (.lst (pl.map cF))),some (.r 1)] [Node.fz (.lst (nm.map aD)),Node.inst .aQ [(aj,.t (.str aE)),(ai,.t (.lst (pl.map (aT l cW)))),(az,.t .none),(aX,.t (.bool false))]]=ok (.t (.bool true)) [Node.fz (.lst (nm.map aD)),Node.inst .aQ [(aj,.t (.str aE)),(ai,.t (.lst (pl.map (aT l cW)))),(az,.t .none),(aX,.t (.bool false))]]:=rfl
   simp only[aM,hc,aF,ak,aS,ah,bx,bW,Ln,af];rfl
  exact bE s3 rfl
noncomputable def iX(l:List PV) (n:Nat) (pl:List (Option Nat)):aB:=[Node.fz (.lst [.int n]),Node.lst [.int n],Node.inst .aQ [(aj,.t (.str aa)),(ai,.t (.lst (pl.map (aT l .none)))),(az,.t .none),(aX,.t (.bool false))]]
theorem Ew(k:Nat) (l:List PV) (hl:l.length<1000) (n:Nat)  (ix:Ix) (hx:ix.ok) (hm:ix≠.missing) :
  call T (k+8) 37 [.t (aR l n none),.t ix.pv] [Node.fz (.lst [.int n])]=MJ 2 [Node.fz (.lst [.int n]),Node.lst [.int n]] (fun pl=>iX l n pl) (iG l.length (none) ix):=by
 have sq:=positions (k+2) ix hx hm l.length hl (none) (fun _ h=>by injection h)
 have hlen:=fun pl=>qw hx hl (o:=none) (pl:=pl)
 generalize iG l.length (none) ix=D at sq hlen
 have s0:bO (call T (k+7)) ((T 37).body.take 1) [some (.t (aR l n none)),some (.t ix.pv),none,none,none] [Node.fz (.lst [.int n])]=some (.next [some (.t (aR l n none)),some (.t ix.pv),some (.t .none),none,none] [Node.fz (.lst [.int n]),Node.lst [.int n]]):=rfl
 have h1:ev (call T (k+7)) (.call 26 [(.var 1),(.bi .len [(.attr (.var 0) ai)]),(.var 2),(.bool false)]) [some (.t (aR l n none)),some (.t ix.pv),some (.t .none),none,none] [Node.fz (.lst [.int n]),Node.lst [.int n]]=zL D [Node.fz (.lst [.int n]),Node.lst [.int n]] :=
  dJ (f:=26) (as:=[.t ix.pv,.t (.int l.length),.t .none,.t (.bool false)]) (ds:=[ix.pv,.int l.length,.none,.bool false]) (st1:=[Node.fz (.lst [.int n]),Node.lst [.int n]]) (st2:=[Node.fz (.lst [.int n]),Node.lst [.int n]]) rfl rfl rfl (sq _)
 induction D with
 |error m =>
  refine lq (as:=[.t (aR l n none),.t ix.pv]) (g:=[some (.t (aR l n none)),some (.t ix.pv),none,none,none]) rfl rfl (aN 1 s0 ?_)
  rw[ML]
  show bO _ (.assign 3 (.sub (.call 26 [(.var 1),(.bi .len [(.attr (.var 0) ai)]),(.var 2),(.bool false)]) (.int 0))::_) _ _=_
  simp only[ah,aC,bR,h1];rfl
 |ok pl =>
  have hp:=hlen pl rfl
  have s1:ex (call T (k+7)) (.assign 3 (.sub (.call 26 [(.var 1),(.bi .len [(.attr (.var 0) ai)]),(.var 2),(.bool false)]) (.int 0))) [some (.t (aR l n none)),some (.t ix.pv),some (.t .none),none,none] [Node.fz (.lst [.int n]),Node.lst [.int n]]=some (.next [some (.t (aR l n none)),some (.t ix.pv),some (.t .none),some (.t (.lst (pl.map cF))),none] [Node.fz (.lst [.int n]),Node.lst [.int n]]):=by
   simp only[aC,bR,h1];rfl
  have Lm:ev (call T (k+7)) (.call 35 [(.var 0),(.var 3)]) [some (.t (aR l n none)),some (.t ix.pv),some (.t .none),some (.t (.lst (pl.map cF))),none] [Node.fz (.lst [.int n]),Node.lst [.int n]]=ok (.t (.lst (pl.map (aT l .none)))) [Node.fz (.lst [.int n]),Node.lst [.int n]] :=
   dJ (f:=35) (as:=[.t (aR l n none),.t (.lst (pl.map cF))]) (ds:=[aR l n none,.lst (pl.map cF)]) (st1:=[Node.fz (.lst [.int n]),Node.lst [.int n]]) (st2:=[Node.fz (.lst [.int n]),Node.lst [.int n]]) rfl rfl rfl (nQ (k+5) aa l (.aK [(dX,vec aa [.int n] .none)]) (.none) (nR _) pl (by omega) _)
  have Pg:ev (call T (k+7)) (.call 34 [(.attr (.var 0) aj)]) [some (.t (aR l n none)),some (.t ix.pv),some (.t .none),some (.t (.lst (pl.map cF))),none] [Node.fz (.lst [.int n]),Node.lst [.int n]]=ok (.t (.str aa)) [Node.fz (.lst [.int n]),Node.lst [.int n]]:=rfl
  have s7:gj (call T (k+7)) [(.call 34 [(.attr (.var 0) aj)]),(.call 35 [(.var 0),(.var 3)])] [some (.t (aR l n none)),some (.t ix.pv),some (.t .none),some (.t (.lst (pl.map cF))),none] [Node.fz (.lst [.int n]),Node.lst [.int n]]=ok [AV.t (.str aa),AV.t (.lst (pl.map (aT l .none)))] [Node.fz (.lst [.int n]),Node.lst [.int n]]:=by
   simp only[aq,aA,Pg,Lm,af]
  have s2:ex (call T (k+7)) (.assign 4 (.new .aJ 2 [(.call 34 [(.attr (.var 0) aj)]),(.call 35 [(.var 0),(.var 3)])])) [some (.t (aR l n none)),some (.t ix.pv),some (.t .none),some (.t (.lst (pl.map cF))),none] [Node.fz (.lst [.int n]),Node.lst [.int n]]=some (.next [some (.t (aR l n none)),some (.t ix.pv),some (.t .none),some (.t (.lst (pl.map cF))),some (.r 2)] [Node.fz (.lst [.int n]),Node.lst [.int n],Node.inst .aQ [(aj,.t (.str aa)),(ai,.t (.lst (pl.map (aT l .none)))),(az,.t .none),(aX,.t (.bool false))]]):=by
   have h:=gJ (C:=call T (k+7)) (c:=.aJ) (f:=2) s7 (st2:=[Node.fz (.lst [.int n]),Node.lst [.int n],Node.inst .aQ [(aj,.t (.str aa)),(ai,.t (.lst (pl.map (aT l .none)))),(az,.t .none),(aX,.t (.bool false))]]) rfl
   simp only[aC,h];rfl
  refine lV (as:=[.t (aR l n none),.t ix.pv]) (g:=[some (.t (aR l n none)),some (.t ix.pv),none,none,none]) rfl rfl rfl (aN 1 s0 ?_)
  rw[ML]
  refine bE s1 (bE s2 ?_)
  rfl
noncomputable def gY(l:List PV) (n:Nat) (hs:List (Option Tx)) (pl:List (Option Nat)):aB:=[Node.fz (.lst [.int n]),Node.fz (.lst [.lst (hs.map aD)]),Node.lst [.int n],Node.lst [.lst (hs.map aD)],Node.inst .aQ [(aj,.t (.str aa)),(ai,.t (.lst (pl.map (aT l .none)))),(az,.r 5),(aX,.t (.bool false))],Node.aK [(bG,vec ao (pl.map (aT (hs.map aD) (.str eN))) .none)]]
theorem Ex(k:Nat) (l:List PV) (hl:l.length<1000) (n:Nat) (hs:List (Option Tx)) (ho:okN (some hs)) (ix:Ix) (hx:ix.ok) (hm:ix≠.missing) :
  call T (k+8) 37 [.t (aR l n (some (hs.map aD))),.t ix.pv] [Node.fz (.lst [.int n]),Node.fz (.lst [.lst (hs.map aD)])]=MJ 4 [Node.fz (.lst [.int n]),Node.fz (.lst [.lst (hs.map aD)]),Node.lst [.int n],Node.lst [.lst (hs.map aD)]] (fun pl=>gY l n hs pl) (iG l.length (some hs) ix):=by
 have sq:=positions (k+2) ix hx hm l.length hl (some hs) ho
 have hlen:=fun pl=>qw hx hl (o:=some hs) (pl:=pl)
 generalize iG l.length (some hs) ix=D at sq hlen
 have s0:bO (call T (k+7)) ((T 37).body.take 1) [some (.t (aR l n (some (hs.map aD)))),some (.t ix.pv),none,none,none] [Node.fz (.lst [.int n]),Node.fz (.lst [.lst (hs.map aD)])]=some (.next [some (.t (aR l n (some (hs.map aD)))),some (.t ix.pv),some (.t (.lst (hs.map aD))),none,none] [Node.fz (.lst [.int n]),Node.fz (.lst [.lst (hs.map aD)]),Node.lst [.int n],Node.lst [.lst (hs.map aD)]]):=rfl
 have h1:ev (call T (k+7)) (.call 26 [(.var 1),(.bi .len [(.attr (.var 0) ai)]),(.var 2),(.bool false)]) [some (.t (aR l n (some (hs.map aD)))),some (.t ix.pv),some (.t (.lst (hs.map aD))),none,none] [Node.fz (.lst [.int n]),Node.fz (.lst [.lst (hs.map aD)]),Node.lst [.int n],Node.lst [.lst (hs.map aD)]]=zL D [Node.fz (.lst [.int n]),Node.fz (.lst [.lst (hs.map aD)]),Node.lst [.int n],Node.lst [.lst (hs.map aD)]] :=
  dJ (f:=26) (as:=[.t ix.pv,.t (.int l.length),.t (.lst (hs.map aD)),.t (.bool false)]) (ds:=[ix.pv,.int l.length,.lst (hs.map aD),.bool false]) (st1:=[Node.fz (.lst [.int n]),Node.fz (.lst [.lst (hs.map aD)]),Node.lst [.int n],Node.lst [.lst (hs.map aD)]]) (st2:=[Node.fz (.lst [.int n]),Node.fz (.lst [.lst (hs.map aD)]),Node.lst [.int n],Node.lst [.lst (hs.map aD)]]) rfl rfl rfl (sq _)
 induction D with
 |error m =>
  refine lq (as:=[.t (aR l n (some (hs.map aD))),.t ix.pv]) (g:=[some (.t (aR l n (some (hs.map aD)))),some (.t ix.pv),none,none,none]) rfl rfl (aN 1 s0 ?_)
  rw[ML]
  show bO _ (.assign 3 (.sub (.call 26 [(.var 1),(.bi .len [(.attr (.var 0) ai)]),(.var 2),(.bool false)]) (.int 0))::_) _ _=_
  simp only[ah,aC,bR,h1];rfl
 |ok pl =>
  have hp:=hlen pl rfl
  have s1:ex (call T (k+7)) (.assign 3 (.sub (.call 26 [(.var 1),(.bi .len [(.attr (.var 0) ai)]),(.var 2),(.bool false)]) (.int 0))) [some (.t (aR l n (some (hs.map aD)))),some (.t ix.pv),some (.t (.lst (hs.map aD))),none,none] [Node.fz (.lst [.int n]),Node.fz (.lst [.lst (hs.map aD)]),Node.lst [.int n],Node.lst [.lst (hs.map aD)]]=some (.next [some (.t (aR l n (some (hs.map aD)))),some (.t ix.pv),some (.t (.lst (hs.map aD))),some (.t (.lst (pl.map cF))),none] [Node.fz (.lst [.int n]),Node.fz (.lst [.lst (hs.map aD)]),Node.lst [.int n],Node.lst [.lst (hs.map aD)]]):=by
   simp only[aC,bR,h1];rfl
  have Lm:ev (call T (k+7)) (.call 35 [(.var 0),(.var 3)]) [some (.t (aR l n (some (hs.map aD)))),some (.t ix.pv),some (.t (.lst (hs.map aD))),some (.t (.lst (pl.map cF))),none] [Node.fz (.lst [.int n]),Node.fz (.lst [.lst (hs.map aD)]),Node.lst [.int n],Node.lst [.lst (hs.map aD)]]=ok (.t (.lst (pl.map (aT l .none)))) [Node.fz (.lst [.int n]),Node.fz (.lst [.lst (hs.map aD)]),Node.lst [.int n],Node.lst [.lst (hs.map aD)]] :=
   dJ (f:=35) (as:=[.t (aR l n (some (hs.map aD))),.t (.lst (pl.map cF))]) (ds:=[aR l n (some (hs.map aD)),.lst (pl.map cF)]) (st1:=[Node.fz (.lst [.int n]),Node.fz (.lst [.lst (hs.map aD)]),Node.lst [.int n],Node.lst [.lst (hs.map aD)]]) (st2:=[Node.fz (.lst [.int n]),Node.fz (.lst [.lst (hs.map aD)]),Node.lst [.int n],Node.lst [.lst (hs.map aD)]]) rfl rfl rfl (nQ (k+5) aa l (.aK [(dX,vec aa [.int n] .none),(bP,vec aE [vec ao (hs.map aD) .none] .none)]) (.none) (nR _) pl (by omega) _)
  have Pg:ev (call T (k+7)) (.call 34 [(.attr (.var 0) aj)]) [some (.t (aR l n (some (hs.map aD)))),some (.t ix.pv),some (.t (.lst (hs.map aD))),some (.t (.lst (pl.map cF))),none] [Node.fz (.lst [.int n]),Node.fz (.lst [.lst (hs.map aD)]),Node.lst [.int n],Node.lst [.lst (hs.map aD)]]=ok (.t (.str aa)) [Node.fz (.lst [.int n]),Node.fz (.lst [.lst (hs.map aD)]),Node.lst [.int n],Node.lst [.lst (hs.map aD)]]:=rfl
  have s7:gj (call T (k+7)) [(.call 34 [(.attr (.var 0) aj)]),(.call 35 [(.var 0),(.var 3)])] [some (.t (aR l n (some (hs.map aD)))),some (.t ix.pv),some (.t (.lst (hs.map aD))),some (.t (.lst (pl.map cF))),none] [Node.fz (.lst [.int n]),Node.fz (.lst [.lst (hs.map aD)]),Node.lst [.int n],Node.lst [.lst (hs.map aD)]]=ok [AV.t (.str aa),AV.t (.lst (pl.map (aT l .none)))] [Node.fz (.lst [.int n]),Node.fz (.lst [.lst (hs.map aD)]),Node.lst [.int n],Node.lst [.lst (hs.map aD)]]:=by
   simp only[aq,aA,Pg,Lm,af]
  have s2:ex (call T (k+7)) (.assign 4 (.new .aJ 2 [(.call 34 [(.attr (.var 0) aj)]),(.call 35 [(.var 0),(.var 3)])])) [some (.t (aR l n (some (hs.map aD)))),some (.t ix.pv),some (.t (.lst (hs.map aD))),some (.t (.lst (pl.map cF))),none] [Node.fz (.lst [.int n]),Node.fz (.lst [.lst (hs.map aD)]),Node.lst [.int n],Node.lst [.lst (hs.map aD)]]=some (.next [some (.t (aR l n (some (hs.map aD)))),some (.t ix.pv),some (.t (.lst (hs.map aD))),some (.t (.lst (pl.map cF))),some (.r 4)] [Node.fz (.lst [.int n]),Node.fz (.lst [.lst (hs.map aD)]),Node.lst [.int n],Node.lst [.lst (hs.map aD)],Node.inst .aQ [(aj,.t (.str aa)),(ai,.t (.lst (pl.map (aT l .none)))),(az,.t .none),(aX,.t (.bool false))]]):=by
   have h:=gJ (C:=call T (k+7)) (c:=.aJ) (f:=2) s7 (st2:=[Node.fz (.lst [.int n]),Node.fz (.lst [.lst (hs.map aD)]),Node.lst [.int n],Node.lst [.lst (hs.map aD)],Node.inst .aQ [(aj,.t (.str aa)),(ai,.t (.lst (pl.map (aT l .none)))),(az,.t .none),(aX,.t (.bool false))]]) rfl
   simp only[aC,h];rfl
  refine lV (as:=[.t (aR l n (some (hs.map aD))),.t ix.pv]) (g:=[some (.t (aR l n (some (hs.map aD)))),some (.t ix.pv),none,none,none]) rfl rfl rfl (aN 1 s0 ?_)
  rw[ML]
  refine bE s1 (bE s2 ?_)
  have Tp:ev (call T (k+7)) (.call 36 [(.var 2),(.var 3)]) [some (.t (aR l n (some (hs.map aD)))),some (.t ix.pv),some (.t (.lst (hs.map aD))),some (.t (.lst (pl.map cF))),some (.r 4)] [Node.fz (.lst [.int n]),Node.fz (.lst [.lst (hs.map aD)]),Node.lst [.int n],Node.lst [.lst (hs.map aD)],Node.inst .aQ [(aj,.t (.str aa)),(ai,.t (.lst (pl.map (aT l .none)))),(az,.t .none),(aX,.t (.bool false))]]=ok (.t (.lst (pl.map (aT (hs.map aD) (.str eN))))) [Node.fz (.lst [.int n]),Node.fz (.lst [.lst (hs.map aD)]),Node.lst [.int n],Node.lst [.lst (hs.map aD)],Node.inst .aQ [(aj,.t (.str aa)),(ai,.t (.lst (pl.map (aT l .none)))),(az,.t .none),(aX,.t (.bool false))]] :=
   dJ (f:=36) (as:=[.t (.lst (hs.map aD)),.t (.lst (pl.map cF))]) (ds:=[.lst ((hs.map aD)),.lst (pl.map cF)]) (st1:=[Node.fz (.lst [.int n]),Node.fz (.lst [.lst (hs.map aD)]),Node.lst [.int n],Node.lst [.lst (hs.map aD)],Node.inst .aQ [(aj,.t (.str aa)),(ai,.t (.lst (pl.map (aT l .none)))),(az,.t .none),(aX,.t (.bool false))]]) (st2:=[Node.fz (.lst [.int n]),Node.fz (.lst [.lst (hs.map aD)]),Node.lst [.int n],Node.lst [.lst (hs.map aD)],Node.inst .aQ [(aj,.t (.str aa)),(ai,.t (.lst (pl.map (aT l .none)))),(az,.t .none),(aX,.t (.bool false))]]) rfl rfl rfl (yf (k+6) ((hs.map aD)) pl (by omega) _)
  have Ln:gj (call T (k+7)) [(.var 4),(.call 36 [(.var 2),(.var 3)])] [some (.t (aR l n (some (hs.map aD)))),some (.t ix.pv),some (.t (.lst (hs.map aD))),some (.t (.lst (pl.map cF))),some (.r 4)] [Node.fz (.lst [.int n]),Node.fz (.lst [.lst (hs.map aD)]),Node.lst [.int n],Node.lst [.lst (hs.map aD)],Node.inst .aQ [(aj,.t (.str aa)),(ai,.t (.lst (pl.map (aT l .none)))),(az,.t .none),(aX,.t (.bool false))]]=ok [AV.r 4,AV.t (.lst (pl.map (aT (hs.map aD) (.str eN))))] [Node.fz (.lst [.int n]),Node.fz (.lst [.lst (hs.map aD)]),Node.lst [.int n],Node.lst [.lst (hs.map aD)],Node.inst .aQ [(aj,.t (.str aa)),(ai,.t (.lst (pl.map (aT l .none)))),(az,.t .none),(aX,.t (.bool false))]]:=by
   simp only[aq,aA,av,ay,cP,cG,Tp,af]
  have s3:ex (call T (k+7)) (.ifs (.cmp .eg (.var 2) .none) [.expr (.call 9 [(.var 4),(.call 36 [(.var 2),(.var 3)])])] []) [some (.t (aR l n (some (hs.map aD)))),some (.t ix.pv),some (.t (.lst (hs.map aD))),some (.t (.lst (pl.map cF))),some (.r 4)] [Node.fz (.lst [.int n]),Node.fz (.lst [.lst (hs.map aD)]),Node.lst [.int n],Node.lst [.lst (hs.map aD)],Node.inst .aQ [(aj,.t (.str aa)),(ai,.t (.lst (pl.map (aT l .none)))),(az,.t .none),(aX,.t (.bool false))]]=some (.next [some (.t (aR l n (some (hs.map aD)))),some (.t ix.pv),some (.t (.lst (hs.map aD))),some (.t (.lst (pl.map cF))),some (.r 4)] (gY l n hs pl)):=by
   have hc:ev (call T (k+7)) (.cmp .eg (.var 2) .none) [some (.t (aR l n (some (hs.map aD)))),some (.t ix.pv),some (.t (.lst (hs.map aD))),some (.t (.lst (pl.map cF))),some (.r 4)] [Node.fz (.lst [.int n]),Node.fz (.lst [.lst (hs.map aD)]),Node.lst [.int n],Node.lst [.lst (hs.map aD)],Node.inst .aQ [(aj,.t (.str aa)),(ai,.t (.lst (pl.map (aT l .none)))),(az,.t .none),(aX,.t (.bool false))]]=ok (.t (.bool true)) [Node.fz (.lst [.int n]),Node.fz (.lst [.lst (hs.map aD)]),Node.lst [.int n],Node.lst [.lst (hs.map aD)],Node.inst .aQ [(aj,.t (.str aa)),(ai,.t (.lst (pl.map (aT l .none)))),(az,.t .none),(aX,.t (.bool false))]]:=rfl
   simp only[aM,hc,aF,ak,aS,ah,bx,bW,Ln,af];rfl
  exact bE s3 rfl
theorem bU{C:fy}{c:E}{a b r:List S}{g:Gm}{st st1:aB}{t:AV}{o:Option Out}(hc:ev C c g st=ok t st1) (ht:cV st1 t=some true) (h:bO C a g st1=o) (hr:mH o C r=o):bO C (.ifs c a b::r) g st=o:=by
 rw[ah,aM,hc,aF,ht,aS,h,hr]
noncomputable def resT:Except Tx PV->aB->R AV
 |.ok d,st=>Mine.ok (.t d) st
 |.error m,st=>some (.error (m,st))
noncomputable def uH{α β:Type}(f:α->β):Except Tx α->Except Tx β
 |.ok a=>.ok (f a)
 |.error m=>.error m
noncomputable def yq(bK:List It) (tO:List (Option Tx)) (pl:List (Option Nat)):PV:=if pl.length=0 then cW else bA (pl.map (aT (bK.map It.pv) cW)) (pl.map (aT (tO.map aD) .none))
theorem Ey(bK:List It) (tO:List (Option Tx)) (D:Except Tx (List (Option Nat))) (st:aB):Jf bK tO D st=resT (uH (yq bK tO) D) st:=by
 induction D with
 |error m=>rfl
 |ok pl =>
  show(if _ then _ else _)=Mine.ok (AV.t (if _ then _ else _)) st
  by_cases h:pl.length=0
  ·rw[if_pos h,if_pos h]
  ·rw[if_neg h,if_neg h]
noncomputable def Lo:Except Tx PV->aB->Option Out
 |.ok d,st=>some (.ret (.t d) st)
 |.error m,st=>some (.exc m st)
theorem AB{C:fy}{e:E}{g:Gm}{st:aB}{D:Except Tx PV}(h:ev C e g st=resT D st) (r:List S):bO C (.ret e::r) g st=Lo D st:=by
 rw[ah,aW,h];induction D<;>rfl
theorem Ez(k:Nat) (bK:List It) (hi:bK.length<1000) (tO:List (Option Tx)) (ht:jT tO) (ix:Ix) (hx:ix.ok) (hm:ix≠.missing) (st:aB) :
  call T (k+8) 43 [.t (bA (bK.map It.pv) (tO.map aD)),.t (.lst [ix.pv]),.t (.bool true),.t (.bool true)] st=resT (uH (yq bK tO) (iG bK.length (some (tO.map sj)) ix)) st:=by
 have Q5:=yp k bK hi tO ht ix hx hm []
 rw[Ey] at Q5
 generalize uH (yq bK tO) (iG bK.length (some (tO.map sj)) ix)=D at Q5
 have s1:bO (call T (k+7)) ((T 43).body.take 2) [some (.t (bA (bK.map It.pv) (tO.map aD))),some (.t (.lst [ix.pv])),some (.t (.bool true)),some (.t (.bool true)),none,none] []=some (.next [some (.t (bA (bK.map It.pv) (tO.map aD))),some (.t (.lst [ix.pv])),some (.t (.bool true)),some (.t (.bool true)),none,none] []):=by
  clear Q5
  induction ix with
  |missing=>exact absurd rfl hm
  |null=>kernel_rfl
  |list=>kernel_rfl
  |logical l=>kernel_rfl
  |integer l=>kernel_rfl
  |eK l=>kernel_rfl
  |character l=>kernel_rfl
 have h2:bO (call T (k+7)) ((T 43).body.drop 2) [some (.t (bA (bK.map It.pv) (tO.map aD))),some (.t (.lst [ix.pv])),some (.t (.bool true)),some (.t (.bool true)),none,none] []=Lo D []:=by
  refine bU (c:=.cmp .eq (.attr (.var 0) aj) (.str aI)) (a:=[.ret (.call 42 [(.var 0),(.var 1)])]) (st1:=[]) (t:=.t (.bool true)) rfl rfl (AB ?_ []) (by induction D<;>rfl)
  exact dJ (f:=42) (as:=[.t (bA (bK.map It.pv) (tO.map aD)),.t (.lst [ix.pv])]) (ds:=[bA (bK.map It.pv) (tO.map aD),.lst [ix.pv]]) (st1:=[]) (st2:=[]) rfl rfl rfl Q5
 induction D with
 |ok d=>exact bz (ds:=[bA (bK.map It.pv) (tO.map aD),.lst [ix.pv],.bool true,.bool true]) rfl rfl (aN 2 s1 h2) rfl
 |error m=>exact fK (ds:=[bA (bK.map It.pv) (tO.map aD),.lst [ix.pv],.bool true,.bool true]) rfl rfl (aN 2 s1 h2)
theorem tD(k:Nat) (bK:List It) (tO:List (Option Tx)) (st:aB) :
  call T (k+8) 43 [.t (bA (bK.map It.pv) (tO.map aD)),.t (.lst [pU]),.t (.bool true),.t (.bool true)] st=ok (.t (bA (bK.map It.pv) (tO.map aD))) st:=by kernel_rfl
noncomputable def pairD(l nm:List PV) (pl:List (Option Nat)):PV:=vec aE (pl.map (aT l cW)) (jS (some (pl.map (aT nm (.str eN)))))
noncomputable def FE:List S:=[.assign 5 (.call 31 [(.sub (.var 1) (.int 0)),(.var 4),(.call 18 [(.var 0)])]),.ifs (.cmp .eg (.var 5) .none) [.bad] [],.ifs (.and [(.cmp .eg (.var 4) .none),(.cmp .eq (.bi .len [(.var 4)]) (.int 1))]) [.ret (.call 41 [(.var 0),(.sub (.var 1) (.int 0)),(.var 2)])] [],.ret (.call 37 [(.var 0),(.sub (.var 1) (.int 0))])]
theorem MM:(T 43).body.drop 5=.ifs (.cmp .eq (.bi .len [(.var 1)]) (.int 1)) FE []::(T 43).body.drop 6:=rfl
theorem B0(k:Nat) (l:List PV) (hl:l.length<1000) (nm:List (Option Tx)) (ho:okN (some nm)) (ix:Ix) (hx:ix.ok) (hm:ix≠.missing) (st:aB) :
  call T (k+9) 43 [.t (b5 l (nm.map aD)),.t (.lst [ix.pv]),.t (.bool true),.t (.bool true)] st=resT (uH (pairD l (nm.map aD)) (iG l.length (some nm) ix)) st:=by
 have FF:=Eu k l hl nm ho ix hx hm
 generalize iG l.length (some nm) ix=D at FF
 have s1:bO (call T (k+8)) ((T 43).body.take 5) [some (.t (b5 l (nm.map aD))),some (.t (.lst [ix.pv])),some (.t (.bool true)),some (.t (.bool true)),none,none] []=some (.next [some (.t (b5 l (nm.map aD))),some (.t (.lst [ix.pv])),some (.t (.bool true)),some (.t (.bool true)),some (.t .none),none] []):=by
  clear FF
  induction ix with
  |missing=>exact absurd rfl hm
  |null=>kernel_rfl
  |list=>kernel_rfl
  |logical l=>kernel_rfl
  |integer l=>kernel_rfl
  |eK l=>kernel_rfl
  |character l=>kernel_rfl
 have s2:bO (call T (k+8)) (FE.take 3) [some (.t (b5 l (nm.map aD))),some (.t (.lst [ix.pv])),some (.t (.bool true)),some (.t (.bool true)),some (.t .none),none] []=some (.next [some (.t (b5 l (nm.map aD))),some (.t (.lst [ix.pv])),some (.t (.bool true)),some (.t (.bool true)),some (.t .none),some (.t .none)] []):=by
  clear FF
  induction ix with
  |missing=>exact absurd rfl hm
  |null=>kernel_rfl
  |list=>kernel_rfl
  |logical l=>kernel_rfl
  |integer l=>kernel_rfl
  |eK l=>kernel_rfl
  |character l=>kernel_rfl
 have h1:ev (call T (k+8)) (.call 37 [(.var 0),(.sub (.var 1) (.int 0))]) [some (.t (b5 l (nm.map aD))),some (.t (.lst [ix.pv])),some (.t (.bool true)),some (.t (.bool true)),some (.t .none),some (.t .none)] []=MJ 1 [Node.fz (.lst (nm.map aD))] (fun pl=>lu l nm pl) D:=FF
 induction D with
 |ok pl =>
  have s3:bO (call T (k+8)) FE [some (.t (b5 l (nm.map aD))),some (.t (.lst [ix.pv])),some (.t (.bool true)),some (.t (.bool true)),some (.t .none),none] []=some (.ret (.r 1) (lu l nm pl)):=by
   refine aN 3 s2 ?_
   show bO _ [.ret _] _ _=_
   rw[ah,aW,h1];rfl
  refine bz (ds:=[b5 l (nm.map aD),.lst [ix.pv],.bool true,.bool true]) rfl rfl (aN 5 s1 ?_) (show i8 cT (lu l nm pl) (.r 1)=some (pairD l (nm.map aD) pl,_) from rfl)
  rw[MM]
  exact bU (st1:=[]) (t:=.t (.bool true)) rfl rfl s3 rfl
 |error m =>
  have s3:bO (call T (k+8)) FE [some (.t (b5 l (nm.map aD))),some (.t (.lst [ix.pv])),some (.t (.bool true)),some (.t (.bool true)),some (.t .none),none] []=some (.exc m [Node.fz (.lst (nm.map aD))]):=by
   refine aN 3 s2 ?_
   show bO _ [.ret _] _ _=_
   rw[ah,aW,h1];rfl
  refine fK (ds:=[b5 l (nm.map aD),.lst [ix.pv],.bool true,.bool true]) (st':=[Node.fz (.lst (nm.map aD))]) rfl rfl (aN 5 s1 ?_)
  rw[MM]
  exact bU (st1:=[]) (t:=.t (.bool true)) rfl rfl s3 rfl
theorem sr(k:Nat) (l:List PV) (nm:List PV) (st:aB):call T (k+9) 43 [.t (b5 l nm),.t (.lst [pU]),.t (.bool true),.t (.bool true)] st=ok (.t (b5 l nm)) st:=by kernel_rfl
noncomputable def mO(X:List PV) (L:Option (List PV)) (drop:Bool):PV:=if drop=true/\X.length=1 then vec aa X (jS L) else aR X X.length L
theorem Vc:(T 41).body.drop 1=.ifs (.and [(.var 2),(.cmp .eq (.bi .len [(.attr (.var 3) ai)]) (.int 1))]) [.ret (.var 3)] []::(T 41).body.drop 2:=rfl
noncomputable def Vd(l:List PV) (n:Nat) (pl:List (Option Nat)):aB:=[Node.fz (.lst [.int n]),Node.lst [.int n],Node.inst .aQ [(aj,.t (.str aa)),(ai,.t (.lst (pl.map (aT l .none)))),(az,.r 4),(aX,.t (.bool false))],Node.fz (.lst [.int ((pl.map (aT l .none)).length:Nat)]),Node.aK [(dX,vec aa [.int ((pl.map (aT l .none)).length:Nat)] .none)]]
theorem B3(k:Nat) (l:List PV) (n:Nat) (ix:PV) (drop:Bool) (pl:List (Option Nat)):∃st' dQ,bO (call T (k+8)) ((T 41).body.drop 1) [some (.t (aR l n none)),some (.t ix),some (.t (.bool drop)),some (.r 2),none,none] (iX l n pl)=some (.ret (.r 2) st')/\i8 cT st' (.r 2)=some (mO (pl.map (aT l .none)) none drop,dQ):=by
 have kH:bO (call T (k+8)) ((T 41).body.drop 2) [some (.t (aR l n none)),some (.t ix),some (.t (.bool drop)),some (.r 2),none,none] (iX l n pl)=some (.ret (.r 2) (Vd l n pl)):=by kernel_rfl
 have ir:∃dQ,i8 cT (Vd l n pl) (.r 2)=some (aR (pl.map (aT l .none)) (pl.map (aT l .none)).length none,dQ):=⟨_,rfl⟩
 obtain⟨dQ,ir⟩:=ir
 unfold mO
 rw[Vc]
 induction drop with
 |false =>
  rw[if_neg (fun h=>by cases h.1)]
  exact⟨_,_,kH,ir⟩
 |true =>
  have hlen:ev (call T (k+8)) (.cmp .eq (.bi .len [(.attr (.var 3) ai)]) (.int 1)) [some (.t (aR l n none)),some (.t ix),some (.t (.bool true)),some (.r 2),none,none] (iX l n pl)=ok (.t (.bool (decide (((pl.map (aT l .none)).length:Int)=1)))) (iX l n pl):=rfl
  by_cases h1:(pl.map (aT l .none)).length=1
  ·rw[if_pos ⟨rfl,h1⟩]
   have Lp:(((pl.map (aT l .none)).length:Int)=1):=by omega
   refine⟨iX l n pl,_,?_,rfl⟩
   rw[ah,aM,dm,dw]
   simp only[av,ay,cG,cP,af,ak,eF,eT,hlen,dG Lp,aF,aS,ah,aW,bB]
  ·rw[if_neg (fun h=>h1 h.2)]
   have Lp:¬(((pl.map (aT l .none)).length:Int)=1):=by omega
   refine⟨_,_,?_,ir⟩
   rw[ah,aM,dm,dw]
   simp only[av,ay,cG,cP,af,ak,eF,eT,hlen,bL Lp,aF,bD,aL,au,kH]
theorem Tq(k:Nat) (l:List PV) (hl:l.length<1000) (n:Nat)  (ix:Ix) (hx:ix.ok) (hm:ix≠.missing) (drop:Bool) :
  match iG l.length none ix with
  |.error m=>call T (k+9) 41 [.t (aR l n none),.t ix.pv,.t (.bool drop)] [Node.fz (.lst [.int n])]=some (.error (m,[Node.fz (.lst [.int n]),Node.lst [.int n]]))
  |.ok pl=>∃st' dQ,call T (k+9) 41 [.t (aR l n none),.t ix.pv,.t (.bool drop)] [Node.fz (.lst [.int n])]=ok (.r 2) st'/\i8 cT st' (.r 2)=some (mO (pl.map (aT l .none)) none drop,dQ):=by
 have FF:=Ew k l hl n  ix hx hm
 generalize iG l.length none ix=D at FF
 have h1:ev (call T (k+8)) (.call 37 [(.var 0),(.var 1)]) [some (.t (aR l n none)),some (.t ix.pv),some (.t (.bool drop)),none,none,none] [Node.fz (.lst [.int n])]=MJ 2 [Node.fz (.lst [.int n]),Node.lst [.int n]] (fun pl=>iX l n pl) D:=FF
 have s0:(T 41).body=.assign 3 (.call 37 [(.var 0),(.var 1)])::(T 41).body.drop 1:=rfl
 induction D with
 |error m =>
  refine lq (as:=[.t (aR l n none),.t ix.pv,.t (.bool drop)]) (g:=[some (.t (aR l n none)),some (.t ix.pv),some (.t (.bool drop)),none,none,none]) rfl rfl ?_
  rw[s0,ah,aC,h1];rfl
 |ok pl =>
  obtain⟨st',dQ,h2,h3⟩:=B3 k l n ix.pv drop pl
  refine⟨st',dQ,lV (as:=[.t (aR l n none),.t ix.pv,.t (.bool drop)]) (g:=[some (.t (aR l n none)),some (.t ix.pv),some (.t (.bool drop)),none,none,none]) rfl rfl rfl ?_,h3⟩
  rw[s0,ah,aC,h1]
  exact h2
theorem B4(k:Nat) (l:List PV) (hl:l.length<1000) (n:Nat)  (ix:Ix) (hx:ix.ok) (hm:ix≠.missing) (drop:Bool) (st:aB) :
  call T (k+10) 43 [.t (aR l n none),.t (.lst [ix.pv]),.t (.bool drop),.t (.bool true)] st=resT (uH (fun pl=>mO (pl.map (aT l .none)) none drop) (iG l.length none ix)) st:=by
 have EA:=Tq k l hl n  ix hx hm drop
 generalize iG l.length none ix=D at EA
 have s1:bO (call T (k+9)) ((T 43).body.take 5) [some (.t (aR l n none)),some (.t (.lst [ix.pv])),some (.t (.bool drop)),some (.t (.bool true)),none,none] []=some (.next [some (.t (aR l n none)),some (.t (.lst [ix.pv])),some (.t (.bool drop)),some (.t (.bool true)),some (.r 0),none] [Node.lst [.int n]]):=by
  clear EA
  induction ix with
  |missing=>exact absurd rfl hm
  |null=>kernel_rfl
  |list=>kernel_rfl
  |logical l=>kernel_rfl
  |integer l=>kernel_rfl
  |eK l=>kernel_rfl
  |character l=>kernel_rfl
 have s2:bO (call T (k+9)) (FE.take 2) [some (.t (aR l n none)),some (.t (.lst [ix.pv])),some (.t (.bool drop)),some (.t (.bool true)),some (.r 0),none] [Node.lst [.int n]]=some (.next [some (.t (aR l n none)),some (.t (.lst [ix.pv])),some (.t (.bool drop)),some (.t (.bool true)),some (.r 0),some (.t .none)] [Node.fz (.lst [.int n])]):=by
  clear EA
  induction ix with
  |missing=>exact absurd rfl hm
  |null=>kernel_rfl
  |list=>kernel_rfl
  |logical l=>kernel_rfl
  |integer l=>kernel_rfl
  |eK l=>kernel_rfl
  |character l=>kernel_rfl
 have s3:FE.drop 2=.ifs (.and [(.cmp .eg (.var 4) .none),(.cmp .eq (.bi .len [(.var 4)]) (.int 1))]) [.ret (.call 41 [(.var 0),(.sub (.var 1) (.int 0)),(.var 2)])] []::FE.drop 3:=rfl
 have hc:ev (call T (k+9)) (.and [(.cmp .eg (.var 4) .none),(.cmp .eq (.bi .len [(.var 4)]) (.int 1))]) [some (.t (aR l n none)),some (.t (.lst [ix.pv])),some (.t (.bool drop)),some (.t (.bool true)),some (.r 0),some (.t .none)] [Node.fz (.lst [.int n])]=ok (.t (.bool true)) [Node.fz (.lst [.int n])]:=by kernel_rfl
 have yr:∀r,call T (k+9) 41 [.t (aR l n none),.t ix.pv,.t (.bool drop)] [Node.fz (.lst [.int n])]=r->ev (call T (k+9)) (.call 41 [(.var 0),(.sub (.var 1) (.int 0)),(.var 2)]) [some (.t (aR l n none)),some (.t (.lst [ix.pv])),some (.t (.bool drop)),some (.t (.bool true)),some (.r 0),some (.t .none)] [Node.fz (.lst [.int n])]=r:=fun r h=>h
 induction D with
 |error m =>
  refine fK (ds:=[aR l n none,.lst [ix.pv],.bool drop,.bool true]) (st':=[Node.fz (.lst [.int n]),Node.lst [.int n]]) rfl rfl (aN 5 s1 ?_)
  rw[MM]
  refine bU (st1:=[Node.lst [.int n]]) (t:=.t (.bool true)) rfl rfl (aN 2 s2 ?_) rfl
  rw[s3]
  refine bU hc rfl (o:=some (.exc m [Node.fz (.lst [.int n]),Node.lst [.int n]])) ?_ rfl
  rw[ah,aW,yr _ EA];rfl
 |ok pl =>
  obtain⟨st',dQ,h4,h5⟩:=EA
  refine bz (ds:=[aR l n none,.lst [ix.pv],.bool drop,.bool true]) (st':=st') rfl rfl (aN 5 s1 ?_) h5
  rw[MM]
  refine bU (st1:=[Node.lst [.int n]]) (t:=.t (.bool true)) rfl rfl (aN 2 s2 ?_) rfl
  rw[s3]
  refine bU hc rfl (o:=some (.ret (.r 2) st')) ?_ rfl
  rw[ah,aW,yr _ h4];rfl
theorem su(k:Nat) (l:List PV) (n:Nat) (drop:Bool) (st:aB):call T (k+10) 43 [.t (aR l n none),.t (.lst [pU]),.t (.bool drop),.t (.bool true)] st=ok (.t (aR l n none)) st:=by kernel_rfl
noncomputable def Vf(l:List PV) (n:Nat) (hs:List (Option Tx)) (pl:List (Option Nat)):aB:=[Node.fz (.lst [.int n]),Node.fz (.lst [.lst (hs.map aD)]),Node.lst [.int n],Node.lst [.lst (hs.map aD)],Node.inst .aQ [(aj,.t (.str aa)),(ai,.t (.lst (pl.map (aT l .none)))),(az,.r 9),(aX,.t (.bool false))],Node.aK [(bG,vec ao (pl.map (aT (hs.map aD) (.str eN))) .none)],Node.fz (.lst (pl.map (aT (hs.map aD) (.str eN)))),Node.fz (.lst [.lst (pl.map (aT (hs.map aD) (.str eN)))]),Node.fz (.lst [.int ((pl.map (aT l .none)).length:Nat)]),Node.aK [(dX,vec aa [.int ((pl.map (aT l .none)).length:Nat)] .none),(bP,vec aE [vec ao (pl.map (aT (hs.map aD) (.str eN))) .none] .none)]]
theorem B5(k:Nat) (l:List PV) (n:Nat) (hs:List (Option Tx)) (ix:PV) (drop:Bool) (pl:List (Option Nat)):∃st' dQ,bO (call T (k+8)) ((T 41).body.drop 1) [some (.t (aR l n (some (hs.map aD)))),some (.t ix),some (.t (.bool drop)),some (.r 4),none,none] (gY l n hs pl)=some (.ret (.r 4) st')/\i8 cT st' (.r 4)=some (mO (pl.map (aT l .none)) (some (pl.map (aT (hs.map aD) (.str eN)))) drop,dQ):=by
 have kH:bO (call T (k+8)) ((T 41).body.drop 2) [some (.t (aR l n (some (hs.map aD)))),some (.t ix),some (.t (.bool drop)),some (.r 4),none,none] (gY l n hs pl)=some (.ret (.r 4) (Vf l n hs pl)):=by kernel_rfl
 have ir:∃dQ,i8 cT (Vf l n hs pl) (.r 4)=some (aR (pl.map (aT l .none)) (pl.map (aT l .none)).length (some (pl.map (aT (hs.map aD) (.str eN)))),dQ):=⟨_,rfl⟩
 obtain⟨dQ,ir⟩:=ir
 unfold mO
 rw[Vc]
 induction drop with
 |false =>
  rw[if_neg (fun h=>by cases h.1)]
  exact⟨_,_,kH,ir⟩
 |true =>
  have hlen:ev (call T (k+8)) (.cmp .eq (.bi .len [(.attr (.var 3) ai)]) (.int 1)) [some (.t (aR l n (some (hs.map aD)))),some (.t ix),some (.t (.bool true)),some (.r 4),none,none] (gY l n hs pl)=ok (.t (.bool (decide (((pl.map (aT l .none)).length:Int)=1)))) (gY l n hs pl):=rfl
  by_cases h1:(pl.map (aT l .none)).length=1
  ·rw[if_pos ⟨rfl,h1⟩]
   have Lp:(((pl.map (aT l .none)).length:Int)=1):=by omega
   refine⟨gY l n hs pl,_,?_,rfl⟩
   rw[ah,aM,dm,dw]
   simp only[av,ay,cG,cP,af,ak,eF,eT,hlen,dG Lp,aF,aS,ah,aW,bB]
  ·rw[if_neg (fun h=>h1 h.2)]
   have Lp:¬(((pl.map (aT l .none)).length:Int)=1):=by omega
   refine⟨_,_,?_,ir⟩
   rw[ah,aM,dm,dw]
   simp only[av,ay,cG,cP,af,ak,eF,eT,hlen,bL Lp,aF,bD,aL,au,kH]
theorem Tr(k:Nat) (l:List PV) (hl:l.length<1000) (n:Nat) (hs:List (Option Tx)) (ho:okN (some hs)) (ix:Ix) (hx:ix.ok) (hm:ix≠.missing) (drop:Bool) :
  match iG l.length (some hs) ix with
  |.error m=>call T (k+9) 41 [.t (aR l n (some (hs.map aD))),.t ix.pv,.t (.bool drop)] [Node.fz (.lst [.int n]),Node.fz (.lst [.lst (hs.map aD)])]=some (.error (m,[Node.fz (.lst [.int n]),Node.fz (.lst [.lst (hs.map aD)]),Node.lst [.int n],Node.lst [.lst (hs.map aD)]]))
  |.ok pl=>∃st' dQ,call T (k+9) 41 [.t (aR l n (some (hs.map aD))),.t ix.pv,.t (.bool drop)] [Node.fz (.lst [.int n]),Node.fz (.lst [.lst (hs.map aD)])]=ok (.r 4) st'/\i8 cT st' (.r 4)=some (mO (pl.map (aT l .none)) (some (pl.map (aT (hs.map aD) (.str eN)))) drop,dQ):=by
 have FF:=Ex k l hl n hs ho ix hx hm
 generalize iG l.length (some hs) ix=D at FF
 have h1:ev (call T (k+8)) (.call 37 [(.var 0),(.var 1)]) [some (.t (aR l n (some (hs.map aD)))),some (.t ix.pv),some (.t (.bool drop)),none,none,none] [Node.fz (.lst [.int n]),Node.fz (.lst [.lst (hs.map aD)])]=MJ 4 [Node.fz (.lst [.int n]),Node.fz (.lst [.lst (hs.map aD)]),Node.lst [.int n],Node.lst [.lst (hs.map aD)]] (fun pl=>gY l n hs pl) D:=FF
 have s0:(T 41).body=.assign 3 (.call 37 [(.var 0),(.var 1)])::(T 41).body.drop 1:=rfl
 induction D with
 |error m =>
  refine lq (as:=[.t (aR l n (some (hs.map aD))),.t ix.pv,.t (.bool drop)]) (g:=[some (.t (aR l n (some (hs.map aD)))),some (.t ix.pv),some (.t (.bool drop)),none,none,none]) rfl rfl ?_
  rw[s0,ah,aC,h1];rfl
 |ok pl =>
  obtain⟨st',dQ,h2,h3⟩:=B5 k l n hs ix.pv drop pl
  refine⟨st',dQ,lV (as:=[.t (aR l n (some (hs.map aD))),.t ix.pv,.t (.bool drop)]) (g:=[some (.t (aR l n (some (hs.map aD)))),some (.t ix.pv),some (.t (.bool drop)),none,none,none]) rfl rfl rfl ?_,h3⟩
  rw[s0,ah,aC,h1]
  exact h2
theorem B6(k:Nat) (l:List PV) (hl:l.length<1000) (n:Nat) (hs:List (Option Tx)) (ho:okN (some hs)) (ix:Ix) (hx:ix.ok) (hm:ix≠.missing) (drop:Bool) (st:aB) :
  call T (k+10) 43 [.t (aR l n (some (hs.map aD))),.t (.lst [ix.pv]),.t (.bool drop),.t (.bool true)] st=resT (uH (fun pl=>mO (pl.map (aT l .none)) (some (pl.map (aT (hs.map aD) (.str eN)))) drop) (iG l.length (some hs) ix)) st:=by
 have EA:=Tr k l hl n hs ho ix hx hm drop
 generalize iG l.length (some hs) ix=D at EA
 have s1:bO (call T (k+9)) ((T 43).body.take 5) [some (.t (aR l n (some (hs.map aD)))),some (.t (.lst [ix.pv])),some (.t (.bool drop)),some (.t (.bool true)),none,none] []=some (.next [some (.t (aR l n (some (hs.map aD)))),some (.t (.lst [ix.pv])),some (.t (.bool drop)),some (.t (.bool true)),some (.r 0),none] [Node.lst [.int n]]):=by
  clear EA
  induction ix with
  |missing=>exact absurd rfl hm
  |null=>kernel_rfl
  |list=>kernel_rfl
  |logical l=>kernel_rfl
  |integer l=>kernel_rfl
  |eK l=>kernel_rfl
  |character l=>kernel_rfl
 have s2:bO (call T (k+9)) (FE.take 2) [some (.t (aR l n (some (hs.map aD)))),some (.t (.lst [ix.pv])),some (.t (.bool drop)),some (.t (.bool true)),some (.r 0),none] [Node.lst [.int n]]=some (.next [some (.t (aR l n (some (hs.map aD)))),some (.t (.lst [ix.pv])),some (.t (.bool drop)),some (.t (.bool true)),some (.r 0),some (.t .none)] [Node.fz (.lst [.int n]),Node.fz (.lst [.lst (hs.map aD)])]):=by
  clear EA
  induction ix with
  |missing=>exact absurd rfl hm
  |null=>kernel_rfl
  |list=>kernel_rfl
  |logical l=>kernel_rfl
  |integer l=>kernel_rfl
  |eK l=>kernel_rfl
  |character l=>kernel_rfl
 have s3:FE.drop 2=.ifs (.and [(.cmp .eg (.var 4) .none),(.cmp .eq (.bi .len [(.var 4)]) (.int 1))]) [.ret (.call 41 [(.var 0),(.sub (.var 1) (.int 0)),(.var 2)])] []::FE.drop 3:=rfl
 have hc:ev (call T (k+9)) (.and [(.cmp .eg (.var 4) .none),(.cmp .eq (.bi .len [(.var 4)]) (.int 1))]) [some (.t (aR l n (some (hs.map aD)))),some (.t (.lst [ix.pv])),some (.t (.bool drop)),some (.t (.bool true)),some (.r 0),some (.t .none)] [Node.fz (.lst [.int n]),Node.fz (.lst [.lst (hs.map aD)])]=ok (.t (.bool true)) [Node.fz (.lst [.int n]),Node.fz (.lst [.lst (hs.map aD)])]:=by kernel_rfl
 have yr:∀r,call T (k+9) 41 [.t (aR l n (some (hs.map aD))),.t ix.pv,.t (.bool drop)] [Node.fz (.lst [.int n]),Node.fz (.lst [.lst (hs.map aD)])]=r->ev (call T (k+9)) (.call 41 [(.var 0),(.sub (.var 1) (.int 0)),(.var 2)]) [some (.t (aR l n (some (hs.map aD)))),some (.t (.lst [ix.pv])),some (.t (.bool drop)),some (.t (.bool true)),some (.r 0),some (.t .none)] [Node.fz (.lst [.int n]),Node.fz (.lst [.lst (hs.map aD)])]=r:=fun r h=>h
 induction D with
 |error m =>
  refine fK (ds:=[aR l n (some (hs.map aD)),.lst [ix.pv],.bool drop,.bool true]) (st':=[Node.fz (.lst [.int n]),Node.fz (.lst [.lst (hs.map aD)]),Node.lst [.int n],Node.lst [.lst (hs.map aD)]]) rfl rfl (aN 5 s1 ?_)
  rw[MM]
  refine bU (st1:=[Node.lst [.int n]]) (t:=.t (.bool true)) rfl rfl (aN 2 s2 ?_) rfl
  rw[s3]
  refine bU hc rfl (o:=some (.exc m [Node.fz (.lst [.int n]),Node.fz (.lst [.lst (hs.map aD)]),Node.lst [.int n],Node.lst [.lst (hs.map aD)]])) ?_ rfl
  rw[ah,aW,yr _ EA];rfl
 |ok pl =>
  obtain⟨st',dQ,h4,h5⟩:=EA
  refine bz (ds:=[aR l n (some (hs.map aD)),.lst [ix.pv],.bool drop,.bool true]) (st':=st') rfl rfl (aN 5 s1 ?_) h5
  rw[MM]
  refine bU (st1:=[Node.lst [.int n]]) (t:=.t (.bool true)) rfl rfl (aN 2 s2 ?_) rfl
  rw[s3]
  refine bU hc rfl (o:=some (.ret (.r 4) st')) ?_ rfl
  rw[ah,aW,yr _ h4];rfl
theorem sy(k:Nat) (l:List PV) (n:Nat) (hs:List (Option Tx)) (drop:Bool) (st:aB):call T (k+10) 43 [.t (aR l n (some (hs.map aD))),.t (.lst [pU]),.t (.bool drop),.t (.bool true)] st=ok (.t (aR l n (some (hs.map aD)))) st:=by kernel_rfl
theorem B7(k:Nat) (a:Int) (h:0<a) (n:PV) (st:aB):call T (k+1) 28 [.t (.int a),.t n] st=ok (.t (.int (a-1))) st:=by
 refine bz (ds:=[.int a,n]) (a:=.t (.int (a-1))) (st':=[]) rfl rfl ?_ rfl
 rw[show(T 28).body=.ifs (.cmp .is (.var 0) .none) [.bad] []::.ifs (.cmp .gt (.var 0) (.int 0)) [.ret (.bin .sub (.var 0) (.int 1))] []::(T 28).body.drop 2 from rfl]
 show bO _ _ [some (.t (.int a)),some (.t n)] []=_
 simp only[af,aF,aS,bD,aM,aW,ah,aL,au,bB,av,ay,aH,bg,aG,aV,bk,dY,bN,ak,b7,eO,cG,dG h]
theorem tE(k:Nat) (a:Int) (h:0<a) (n:Int) (nm:PV) (st:aB):call T (k+5) 29 [.t (vec aa [.int a] .none),.t (.int n),.t nm,.t (.bool true)] st=ok (.t (.int (a-1))) st:=by
 refine bz (ds:=[vec aa [.int a] .none,.int n,nm,.bool true]) (a:=.t (.int (a-1))) (st':=[]) rfl rfl (aN 7 (g':=[some (.t (vec aa [.int a] .none)),some (.t (.int n)),some (.t nm),some (.t (.bool true)),some (.t (.str aa))]) (st':=[]) (by kernel_rfl) ?_) rfl
 show bO _ [.ret (.call 28 [(.sub (.call 21 [(.var 0)]) (.int 0)),(.var 1)])] _ _=_
 simp only[af,aF,aW,ah,bB,av,ay,bg,aV,aA,aq,bW,bR,Hs,cG,cP,jq,B7 _ a h]
noncomputable def elemR(bK:List It) (j:Nat):Except Tx PV:=match bK[j]? with
 |some it=>.ok it.pv
 |none=>.error bQ
theorem wF(k:Nat) (bK:List It) (hi:bK.length<1000) (tO:List (Option Tx)) (j:Nat) (st:aB) :
  call T (k+6) 44 [.t (bA (bK.map It.pv) (tO.map aD)),.t (vec aa [.int (j+1:Nat)] .none),.t (.bool true)] st=resT (elemR bK j) st:=by
 have hj:(0:Int)<((j+1:Nat):Int):=by omega
 have h2:=dW (C:=call T (k+5)) (x:=3) (src:=.attr (.var 0) b6) (c:=none) (e:=.ite (.cmp .eg (.var 3) .none) (.var 3) (.str [])) (g:=[some (.t (bA (bK.map It.pv) (tO.map aD))),some (.t (vec aa [.int (j+1:Nat)] .none)),some (.t (.bool true)),none,none,none]) (st:=[]) (st2:=[]) rfl rfl rfl
  (uG _ 3 [some (.t (bA (bK.map It.pv) (tO.map aD))),some (.t (vec aa [.int (j+1:Nat)] .none)),some (.t (.bool true)),none,none,none] (show 3<6 by decide) tO _ rfl)
 have h3:ev (call T (k+5)) (.call 29 [(.var 1),(.bi .len [(.attr (.var 0) ai)]),(.var 4),(.var 2)]) [some (.t (bA (bK.map It.pv) (tO.map aD))),some (.t (vec aa [.int (j+1:Nat)] .none)),some (.t (.bool true)),none,some (.r 0),none] [.lst (tO.map eU)]=ok (.t (.int j)) [.fz (.lst (tO.map eU))]:=by
  refine dJ (f:=29) (as:=[.t (vec aa [.int (j+1:Nat)] .none),.t (.int ((bK.map It.pv).length:Nat)),.r 0,.t (.bool true)]) (ds:=[vec aa [.int (j+1:Nat)] .none,.int ((bK.map It.pv).length:Nat),.lst (tO.map eU),.bool true]) (st1:=[.lst (tO.map eU)]) (st2:=[.fz (.lst (tO.map eU))]) rfl rfl rfl ?_
  have h:=tE k ((j+1:Nat):Int) hj ((bK.map It.pv).length:Nat) (.lst (tO.map eU)) [.fz (.lst (tO.map eU))]
  rw[show(((j+1:Nat):Int)-1)=(j:Int) by omega] at h
  exact h
 have e:(T 44).body.drop 2=.ifs (.cmp .eq (.attr (.var 0) aj) (.str aI)) [.assign 4 (.comp 3 (.attr (.var 0) b6) none (.ite (.cmp .eg (.var 3) .none) (.var 3) (.str []))),.assign 5 (.call 29 [(.var 1),(.bi .len [(.attr (.var 0) ai)]),(.var 4),(.var 2)]),.ifs (.or [(.cmp .is (.var 5) .none),(.cmp .lt (.var 5) (.int 0)),(.cmp .ge (.var 5) (.bi .len [(.attr (.var 0) ai)]))]) [.raise (.str bQ)] [],.ret (.sub (.attr (.var 0) ai) (.var 5))] []::(T 44).body.drop 3:=rfl
 have s1:bO (call T (k+5)) ((T 44).body.take 2) [some (.t (bA (bK.map It.pv) (tO.map aD))),some (.t (vec aa [.int (j+1:Nat)] .none)),some (.t (.bool true)),none,none,none] []=some (.next [some (.t (bA (bK.map It.pv) (tO.map aD))),some (.t (vec aa [.int (j+1:Nat)] .none)),some (.t (.bool true)),none,none,none] []):=by kernel_rfl
 have Vg:¬((j:Int)<0):=by omega
 unfold elemR
 by_cases h:j<bK.length
 ·have h4:(bK.map It.pv)[j]? = some bK[j].pv:=by rw[List.getElem?_map,List.getElem?_eq_getElem h];rfl
  have h5:¬((bK.length:Int)<=(j:Int)):=by omega
  rw[List.getElem?_eq_getElem h]
  refine bz (ds:=[bA (bK.map It.pv) (tO.map aD),vec aa [.int (j+1:Nat)] .none,.bool true]) (a:=.t bK[j].pv) (st':=[.fz (.lst (tO.map eU))]) rfl rfl (aN 2 s1 ?_) rfl
  rw[e]
  refine bU (st1:=[]) (t:=.t (.bool true)) rfl rfl (bE (by rw[aC,h2];rfl) (bE (by rw[aC];exact congrArg (fun r=>R.out r _) h3) ?_)) rfl
  simp only[af,aF,bD,aM,aW,ah,aL,au,bB,av,ay,aH,bg,cS,aG,aV,bk,eE,fY,bN,ak,dD,fD,dF,e9,aA,aq,bR,fG,fH,cC,ek,cY,gn,ye,cG,cP,List.set_cons_zero,List.set_cons_succ,List.length_map,List.length_nil,bL Vg,bL h5,h4]
 ·have h5:((bK.length:Int)<=(j:Int)):=by omega
  rw[List.getElem?_eq_none (Nat.le_of_not_lt h)]
  refine fK (ds:=[bA (bK.map It.pv) (tO.map aD),vec aa [.int (j+1:Nat)] .none,.bool true]) (st':=[.fz (.lst (tO.map eU))]) rfl rfl (aN 2 s1 ?_)
  rw[e]
  refine bU (st1:=[]) (t:=.t (.bool true)) rfl rfl (bE (by rw[aC,h2];rfl) (bE (by rw[aC];exact congrArg (fun r=>R.out r _) h3) ?_)) rfl
  simp only[af,aF,aS,aM,rS,rT,ah,kT,av,ay,aH,bI,bg,cS,aG,aV,bk,eE,fY,bN,ak,dD,fD,dF,e9,aA,aq,cC,ek,cY,gn,ye,cG,cP,List.set_cons_zero,List.set_cons_succ,List.length_map,List.length_nil,bL Vg,dG h5]
theorem element(k:Nat) (bK:List It) (hi:bK.length<1000) (tO:List (Option Tx)) (j:Nat) (st:aB) :
  call T (k+7) 46 [.t (bA (bK.map It.pv) (tO.map aD)),.t (.lst [vec aa [.int (j+1:Nat)] .none]),.t (.bool true)] st=resT (elemR bK j) st:=by
 have h:=wF k bK hi tO j []
 generalize elemR bK j=D at h
 have s1:bO (call T (k+6)) ((T 46).body.take 3) [some (.t (bA (bK.map It.pv) (tO.map aD))),some (.t (.lst [vec aa [.int (j+1:Nat)] .none])),some (.t (.bool true)),none] []=some (.next [some (.t (bA (bK.map It.pv) (tO.map aD))),some (.t (.lst [vec aa [.int (j+1:Nat)] .none])),some (.t (.bool true)),some (.t (vec aa [.int (j+1:Nat)] .none))] []):=by kernel_rfl
 have h2:bO (call T (k+6)) ((T 46).body.drop 3) [some (.t (bA (bK.map It.pv) (tO.map aD))),some (.t (.lst [vec aa [.int (j+1:Nat)] .none])),some (.t (.bool true)),some (.t (vec aa [.int (j+1:Nat)] .none))] []=Lo D []:=by
  refine bU (c:=.or [(.not (.call 45 [(.var 3)])),(.not (.or [(.call 33 [(.attr (.var 0) aj)]),(.cmp .eq (.attr (.var 0) aj) (.str aI))]))]) (a:=[.ret (.call 44 [(.var 0),(.var 3),(.var 2)])]) (st1:=[]) (t:=.t (.bool true)) (by kernel_rfl) rfl (AB ?_ []) (by induction D<;>rfl)
  exact h
 induction D with
 |ok d=>exact bz (ds:=[bA (bK.map It.pv) (tO.map aD),.lst [vec aa [.int (j+1:Nat)] .none],.bool true]) rfl rfl (aN 3 s1 h2) rfl
 |error m=>exact fK (ds:=[bA (bK.map It.pv) (tO.map aD),.lst [vec aa [.int (j+1:Nat)] .none],.bool true]) rfl rfl (aN 3 s1 h2)
noncomputable def pV(l:List PV) (tO:List (Option Tx)):PV:=vec aE l (jS (if tO.any Option.isSome=true then some (tO.map eU) else none))
noncomputable def Ph:List S:=[.expr (.b4 .append (.var 2) [(.ite (.cmp .is (.var 4) .none) (.str []) (.var 4))]),.assign 3 (.or [(.var 3),(.cmp .eg (.var 4) .none)])]
theorem Lq(C:fy) (g0:Option AV) (n0 n1:Node) (b:Bool) (found:List PV) (hf:found.length<2000) (a:Option Tx) :
 bO C Ph [g0,some (.r 1),some (.r 2),some (.t (.bool b)),some (.t (aD a))] [n0,n1,.lst found]=some (.next [g0,some (.r 1),some (.r 2),some (.t (.bool (b||a.isSome))),some (.t (aD a))] [n0,n1,.lst (found++[eU a])]):=by
 unfold Ph
 induction a with
 |none=>induction b<;>simp only[af,aF,bx,aC,ah,aL,au,av,ay,aH,bI,aG,aV,cR,bX,bk,cu,isNone_none,ak,dD,fD,dF,j8,e9,cL,fZ,aA,aq,br,bu,aU,aZ,cM,bf,bV,jo,cG,cP,List.set_cons_zero,List.set_cons_succ,rW,c6 hf,eU,Option.isSome,Bool.or_false]
 |some s=>induction b<;>simp only[af,aF,bx,aC,ah,aL,au,av,ay,aH,aG,aV,cR,bX,bk,cu,cB,ak,dD,fD,dF,j8,e9,cL,gf,aA,aq,br,bu,aU,aZ,cM,bf,bV,iE,cG,cP,List.set_cons_zero,List.set_cons_succ,jC,c6 hf,eU,Option.isSome,Bool.or_true]
noncomputable def Pj(l:List PV) (tO:List (Option Tx)) (b:Bool) (x:Option AV):Gm:=[some (.t (bA l (tO.map aD))),some (.r 1),some (.r 2),some (.t (.bool b)),x]
theorem nW(k:Nat) (l:List PV) (tO:List (Option Tx)) (ht:tO.length<1000) (st:aB):call T (k+5) 65 [.t (bA l (tO.map aD))] st=ok (.t (pV l tO)) st:=by
 obtain⟨g',st',h1,x,rfl,rfl⟩:=dK (f:=bO (call T (k+4)) Ph) (x:=4) (n:=3) aD
  (fun pre g st=>∃x,g=Pj l tO (pre.any Option.isSome) x/\st=iI l++[Node.lst (pre.map eU)])
  tO (Pj l tO false none) (iI l++[Node.lst []]) ⟨_,rfl,rfl⟩ (by
   rintro p b q g st e ⟨x,rfl,rfl⟩
   refine⟨Pj l tO (p.any Option.isSome||b.isSome) (some (.t (aD b))),iI l++[Node.lst (p.map eU++[eU b])],⟨_,_,.inl (Lq _ _ _ _ _ _ ?_ b),rfl⟩,some (.t (aD b)),?_,?_⟩
   ·have:=congrArg List.length e;simp at this ⊢;omega
   ·rw[List.any_append,List.any_cons,List.any_nil,Bool.or_false]
   ·rw[List.map_append];rfl)
 have hF:=eS (C:=call T (k+4)) (x:=4) (src:=.attr (.var 0) b6) (body:=Ph) (g:=Pj l tO false none) (st:=iI l++[Node.lst []]) (st2:=iI l++[Node.lst []]) (items:=tO.map aD) rfl rfl rfl h1
 have s1:bO (call T (k+4)) ((T 65).body.take 3) [some (.t (bA l (tO.map aD))),none,none,none,none] []=some (.next (Pj l tO false none) (iI l++[Node.lst []])):=by kernel_rfl
 have e:(T 65).body.drop 3=.gp 4 (.attr (.var 0) b6) Ph::(T 65).body.drop 4:=rfl
 unfold pV
 cases hb:tO.any Option.isSome with
 |false =>
  rw[hb] at hF
  refine bz (ds:=[bA l (tO.map aD)]) (a:=.r 1) (st':=iI l++[Node.lst (tO.map eU)]) rfl rfl (aN 3 s1 ?_) rfl
  rw[e]
  exact bE hF (by kernel_rfl)
 |true =>
  rw[hb] at hF
  refine bz (ds:=[bA l (tO.map aD)]) (a:=.r 1) (st':=[.lst l,.inst .aQ [(aj,.t (.str aE)),(ai,.r 0),(az,.r 3),(aX,.t (.bool false))],.fz (.lst (tO.map eU)),.aK [(bG,vec ao (tO.map eU) .none)]]) rfl rfl (aN 3 s1 ?_) rfl
  rw[e]
  exact bE hF (by kernel_rfl)
theorem B8(C:fy) (x:Nat) (g:Gm) (hx:x<g.length) (tO:List (Option Tx)) (ht:∀s,some s∈tO->s≠[]) (st:aB) (hb:back st.length st=some st) :
  turns (dM C x none (.ite (.or [(.cmp .is (.var x) .none),(.cmp .eq (.var x) (.str []))]) .none (.var x)) g) (tO.map eU) st=ok (tO.map aD) st:=by
 refine lT eU aD tO fun a ha=>⟨st,?_,hb⟩
 unfold dM
 induction a with
 |none=>simp only[af,av,ay,aH,bI,aG,aV,bk,cX,cB,ak,dD,fD,dF,e9,cL,fZ,dH,j9,rW,if_true,decide_true,List.getElem?_set_self hx,eU]
 |some s=>simp only[af,av,ay,aH,bI,aG,aV,bk,cX,cB,ak,dD,fD,dF,e9,cL,gf,dH,j9,jC,if_true,List.getElem?_set_self hx,eU,bL (ht s ha)]
theorem yt(st:aB) (l:List PV) (h:l.length<1000):y9 .mul st (some (.lst [.none])) (some (.int (l.length:Nat)))=alloc st (.lst (List.replicate l.length .none)):=by
 show(if -2000<=((l.length:Nat):Int)/\((l.length:Nat):Int)<=2000 then alloc st (.lst (List.replicate ((l.length:Nat):Int).toNat .none)) else none)=_
 rw[if_pos ⟨by omega,by omega⟩,Int.toNat_natCast]
noncomputable def tF(l:List PV) (tO:List (Option Tx)):PV:=if l.length=0 then cW else bA l (tO.map aD)
theorem Lr(x:PV) (X:List PV) (tO:List (Option Tx)):tF (x::X) tO=bA (x::X) (tO.map aD):=by
 unfold tF;rw[if_neg (by simp)]
theorem EB(n:Nat):List.replicate n PV.none=(List.replicate n (none:Option Tx)).map aD:=by rw[List.map_replicate];rfl
noncomputable def Vh(a b:Nat):Node:=.inst .call [(aj,.t (.str aI)),(ai,.r a),(b6,.r b),(az,.t .none),(jM,.t .none)]
theorem Vi:(T 66).body.drop 2=.assign 2 (.bin .mul (.list [.none]) (.bi .len [(.attr (.var 0) ai)]))::(T 66).body.drop 3:=rfl
theorem Tt:(T 66).body.drop 3=.ifs (.cmp .eg (.var 1) .none) [.assign 2 (.comp 3 (.var 1) none (.ite (.or [(.cmp .is (.var 3) .none),(.cmp .eq (.var 3) (.str []))]) .none (.var 3)))] []::(T 66).body.drop 4:=rfl
theorem jU(k:Nat) (l:List PV) (hl:l.length<1000) (o:Option (List (Option Tx))) (ho:∀tO,o=some tO->∀s,some s∈tO->s≠[]) (st:aB) :
  call T (k+6) 66 [.t (vec aE l (jS (o.map (·.map eU))))] st=ok (.t (tF l (o.getD (List.replicate l.length none)))) st:=by
 match l,hl with
 |[],_=>induction o<;>kernel_rfl
 |x::X,hl =>
  rw[Lr]
  induction o with
  |none =>
   have s1:bO (call T (k+5)) ((T 66).body.take 2) [some (.t (vec aE (x::X) .none)),none,none,none] []=some (.next [some (.t (vec aE (x::X) .none)),some (.t .none),none,none] []):=by kernel_rfl
   show _=ok (AV.t (bA (x::X) ((List.replicate (x::X).length none).map aD))) st
   rw[<-EB]
   refine bz (ds:=[vec aE (x::X) .none]) (a:=.r 3) (st':=[.lst [.none],.lst (List.replicate (x::X).length .none),.lst (x::X),Vh 2 1]) rfl rfl (aN 2 s1 ?_) rfl
   rw[Vi]
   refine bE (g':=[some (.t (vec aE (x::X) .none)),some (.t .none),some (.r 1),none]) (st':=[.lst [.none],.lst (List.replicate (x::X).length .none)]) ?_ ?_
   ·have h:=yt [.lst [.none]] (x::X) hl
    simp only[aC,b7,eH,aq,aA,aH,af,cM,bS,cC,cS,av,ay,cG,gg,ek,aV,cY,gn,List.nil_append,List.length_nil,cR,bX,h];rfl
   ·kernel_rfl
  |some tO =>
   have s1:bO (call T (k+5)) ((T 66).body.take 2) [some (.t (vec aE (x::X) (jS (some (tO.map eU))))),none,none,none] []=some (.next [some (.t (vec aE (x::X) (jS (some (tO.map eU))))),some (.r 0),none,none] [.lst (tO.map eU)]):=by kernel_rfl
   show _=ok (AV.t (bA (x::X) (tO.map aD))) st
   have h3:=dW (C:=call T (k+5)) (x:=3) (src:=.var 1) (c:=none) (e:=.ite (.or [(.cmp .is (.var 3) .none),(.cmp .eq (.var 3) (.str []))]) .none (.var 3)) (g:=[some (.t (vec aE (x::X) (jS (some (tO.map eU))))),some (.r 0),some (.r 2),none]) (st:=[.lst (tO.map eU),.lst [.none],.lst (List.replicate (x::X).length .none)]) (st2:=[.fz (.lst (tO.map eU)),.lst [.none],.lst (List.replicate (x::X).length .none)]) rfl rfl rfl
    (B8 _ 3 [some (.t (vec aE (x::X) (jS (some (tO.map eU))))),some (.r 0),some (.r 2),none] (show 3<4 by decide) tO (ho tO rfl) _ rfl)
   refine bz (ds:=[vec aE (x::X) (jS (some (tO.map eU)))]) (a:=.r 5) (st':=[.fz (.lst (tO.map eU)),.lst [.none],.lst (List.replicate (x::X).length .none),.lst (tO.map aD),.lst (x::X),Vh 4 3]) rfl rfl (aN 2 s1 ?_) rfl
   rw[Vi]
   refine bE (g':=[some (.t (vec aE (x::X) (jS (some (tO.map eU))))),some (.r 0),some (.r 2),none]) (st':=[.lst (tO.map eU),.lst [.none],.lst (List.replicate (x::X).length .none)]) ?_ ?_
   ·have h:=yt [.lst (tO.map eU),.lst [.none]] (x::X) hl
    rw[List.length_cons] at h
    simp only[aC,b7,eH,aq,aA,aH,af,cM,bS,cC,cS,av,ay,cG,gg,ek,aV,cY,gn,List.cons_append,List.nil_append,List.length_cons,List.length_nil,cP,Nat.zero_add,cR,bX,h];rfl
   ·rw[Tt]
    refine bE (g':=[some (.t (vec aE (x::X) (jS (some (tO.map eU))))),some (.r 0),some (.r 3),none]) (st':=[.fz (.lst (tO.map eU)),.lst [.none],.lst (List.replicate (x::X).length .none),.lst (tO.map aD)]) ?_ ?_
    ·have hc:ev (call T (k+5)) (.cmp .eg (.var 1) .none) [some (.t (vec aE (x::X) (jS (some (tO.map eU))))),some (.r 0),some (.r 2),none] [.lst (tO.map eU),.lst [.none],.lst (List.replicate (x::X).length .none)]=ok (.t (.bool true)) [.lst (tO.map eU),.lst [.none],.lst (List.replicate (x::X).length .none)]:=rfl
     rw[aM,hc,aF,ak,aS,ah,aC,h3];rfl
    ·kernel_rfl
noncomputable def aO(m:Nat):List It:=[It.sym SY,.int 0,.int 1,.sym S0,.int 3].take (m+1)
noncomputable def isNul:It->Bool
 |.null=>true
 |_=>false
noncomputable def m5{α:Type}(val:It) (p:Nat) (v:α) (l:List α):List α:=if isNul val=true then l.eraseIdx p else l.set p v
noncomputable def er{α:Type}(val:It) (p:Nat) (l:List α):List α:=if isNul val=true then l.eraseIdx p else l
noncomputable def MN(o:Option (List PV)) (m:Nat):Prop:=match o with
 |none=>True
 |some s=>s.length=m+1
noncomputable def isVal(val:It):Prop:=val=.chr QY\/val=.sym QZ\/val=.null
noncomputable def valN(j:Nat):It:=match j with| 0=>.chr QY|1=>.sym QZ|_=>.null
theorem wG(j:Nat):isVal (valN j):=match j with| 0=>.inl rfl|1=>.inr (.inl rfl)|_+2=>.inr (.inr rfl)
theorem wH{val:It}(h:isVal val){p:Prop}(k:∀j,j<3->val=valN j->p):p:=by
 rcases h with h|h|h
 ·exact k 0 (by decide) h
 ·exact k 1 (by decide) h
 ·exact k 2 (by decide) h
noncomputable def HE(m:Nat):List (Nat×Nat×Nat):=(List.range (m+1)).flatMap fun p=>(List.range 3).map fun b=>(m,p,b)
theorem yu{m p b:Nat}(hp:p<m+1) (hb:b<3):(m,p,b)∈HE m:=List.mem_flatMap.mpr ⟨p,List.mem_range.mpr hp,List.mem_map.mpr ⟨b,List.mem_range.mpr hb,rfl⟩⟩
noncomputable def Pk:List (Nat×Nat×Nat):=(List.range 5).flatMap HE
theorem AD{m p b:Nat}(hm:m<5) (hp:p<m+1) (hb:b<3):(m,p,b)∈Pk:=List.mem_flatMap.mpr ⟨m,List.mem_range.mpr hm,yu hp hb⟩
theorem qx{α:Type}{f g:Nat×Nat×Nat->α}(h:Pk.map f=Pk.map g){m p b:Nat}(hm:m<5) (hp:p<m+1) (hb:b<3):f (m,p,b)=g (m,p,b):=List.map_inj_left.mp h _ (AD hm hp hb)
noncomputable def Jg{α:Type}(n:Nat) (f:Nat->α):List α:=(List.range n).map f
theorem zP{α:Type}{n:Nat}(d:α){l:List α}(hl:l.length=n):l=Jg n fun i=>l.getD i d:=List.ext_getElem? fun i=>by
 unfold Jg
 rw[List.getElem?_map]
 by_cases h:i<n
 ·rw[List.getElem?_range h]
  show _=some ((l[i]?).getD d)
  rw[List.getElem?_eq_getElem (hl.symm▸h)];rfl
 ·rw[List.getElem?_eq_none (hl.symm▸Nat.le_of_not_lt h),List.getElem?_eq_none (by rw[List.length_range];exact Nat.le_of_not_lt h)];rfl
noncomputable def oF(n:Nat) (b:Bool) (f:Nat->PV):Option (List PV):=cond b (some (Jg n f)) none
theorem Jh{m:Nat}{o:Option (List PV)}(ho:MN o m){p:Prop}(k:∀b f,o=oF (m+1) b f->p):p:=by
 cases o with
 |none=>exact k false (fun _=>.none) rfl
 |some s=>exact k true _ (congrArg some (zP .none ho))
noncomputable def Yr(q:Nat×Nat×Nat) (f k:Nat) (o:Option (List PV)) (st:aB):R AV:=call T (k+16) f [.t (vec aE ((aO q.1).map It.pv) (jS o)),.t (.lst [vec aa [.int ((q.2.1+1:Nat):Int)] .none]),.t (valN q.2.2).pv,.t (.lst [])] st
noncomputable def Ys(q:Nat×Nat×Nat) (o:Option (List PV)) (st:aB):R AV:=ok (.t (vec aE ((m5 (valN q.2.2) q.2.1 (valN q.2.2) (aO q.1)).map It.pv) (jS (o.map (er (valN q.2.2) q.2.1))))) st
@[reducible] noncomputable def Q6 (f k:Nat) (m p:Nat) (val:It) (o:Option (List PV)) (st:aB):Prop :=
 call T (k+16) f [.t (vec aE ((aO m).map It.pv) (jS o)),.t (.lst [vec aa [.int ((p+1:Nat):Int)] .none]),.t val.pv,.t (.lst [])] st=ok (.t (vec aE ((m5 val p val (aO m)).map It.pv) (jS (o.map (er val p))))) st
noncomputable def i9(f:Nat) (b:Bool) (m:Nat):Prop:=((HE m).map fun q k f' st=>Yr q f k (oF (q.1+1) b f') st)=(HE m).map fun q k f' st=>Ys q (oF (q.1+1) b f') st
theorem Tu{P:Nat->Prop}(h:P 0/\P 1/\P 2/\P 3/\P 4){m:Nat}(hm:m<5):P m:=match m,hm with
 |0,_=>h.1
 |1,_=>h.2.1
 |2,_=>h.2.2.1
 |3,_=>h.2.2.2.1
 |4,_=>h.2.2.2.2
theorem p7(f:Nat) (h:∀b,i9 f b 0/\i9 f b 1/\i9 f b 2/\i9 f b 3/\i9 f b 4) (k m p:Nat) (hm:m<5) (hp:p<m+1) (val:It) (hv:isVal val) (o:Option (List PV)) (ho:MN o m) (st:aB):Q6 f k m p val o st :=
 wH hv fun j hj e=>Jh ho fun b g q=>by subst e q;exact congrFun (congrFun (congrFun (List.map_inj_left.mp (Tu (P:=i9 f b) (h b) hm) _ (yu hp hj)) k) g) st
theorem Pn:i9 71 true 0:=by unfold i9;kernel_rfl
theorem Po:i9 71 true 1:=by unfold i9;kernel_rfl
theorem Pp:i9 71 true 2:=by unfold i9;kernel_rfl
theorem Pq:i9 71 true 3:=by unfold i9;kernel_rfl
theorem Pu:i9 71 true 4:=by unfold i9;kernel_rfl
theorem Pw:i9 71 false 0:=by unfold i9;kernel_rfl
theorem Px:i9 71 false 1:=by unfold i9;kernel_rfl
theorem Py:i9 71 false 2:=by unfold i9;kernel_rfl
theorem Pz:i9 71 false 3:=by unfold i9;kernel_rfl
theorem PA:i9 71 false 4:=by unfold i9;kernel_rfl
theorem PB:i9 67 true 0:=by unfold i9;kernel_rfl
theorem PC:i9 67 true 1:=by unfold i9;kernel_rfl
theorem PD:i9 67 true 2:=by unfold i9;kernel_rfl
theorem PE:i9 67 true 3:=by unfold i9;kernel_rfl
theorem PF:i9 67 true 4:=by unfold i9;kernel_rfl
theorem PG:i9 67 false 0:=by unfold i9;kernel_rfl
theorem PI:i9 67 false 1:=by unfold i9;kernel_rfl
theorem PJ:i9 67 false 2:=by unfold i9;kernel_rfl
theorem PK:i9 67 false 3:=by unfold i9;kernel_rfl
theorem PL:i9 67 false 4:=by unfold i9;kernel_rfl
theorem Tv(k m p:Nat) (hm:m<5) (hp:p<m+1) (val:It) (hv:isVal val) (o:Option (List PV)) (ho:MN o m) (st:aB):Q6 71 k m p val o st:=p7 71 (fun b=>by cases b;exact⟨Pw,Px,Py,Pz,PA⟩;exact⟨Pn,Po,Pp,Pq,Pu⟩) k m p hm hp val hv o ho st
theorem Yt(k m p:Nat) (hm:m<5) (hp:p<m+1) (val:It) (hv:isVal val) (o:Option (List PV)) (ho:MN o m) (st:aB):Q6 67 k m p val o st:=p7 67 (fun b=>by cases b;exact⟨PG,PI,PJ,PK,PL⟩;exact⟨PB,PC,PD,PE,PF⟩) k m p hm hp val hv o ho st
noncomputable def B9(nm:Tx):PV:=vec ao [.str nm] .none
noncomputable def HF:Option (List PV)->aB
 |none=>[]
 |some s=>[.fz (.lst s)]
noncomputable def FG(m:Nat) (o:Option (List PV)) (val:It) (nm:Tx) (a b c:Option AV):Gm:=[some (.t (vec aE ((aO m).map It.pv) (jS o))),some (.t (B9 nm)),some (.t val.pv),some (.t (.lst [])),a,b,c]
noncomputable def Vj(val:It) (p:Nat) (s:List PV):aB:=if isNul val=true then[.fz (.lst s),.fz (.lst [.int ((p:Nat):Int)])] else[.fz (.lst s)]
@[reducible] noncomputable def Yu (k m p:Nat) (val:It) (nm:Tx) (s:List PV):Prop :=
 bO (call T (k+16)) ((T 70).body.drop 3) (FG m (some s) val nm (some (.t (.int ((m+1:Nat):Int)))) (some (.t (.int ((p:Nat):Int)))) none) (HF (some s))=some (.ret (.t (vec aE ((m5 val p val (aO m)).map It.pv) (jS (some (er val p s))))) (Vj val p s))
noncomputable def EC(val:It) (nm:Tx) (l:List PV) (o:Option (List PV)):PV:=if isNul val=true then vec aE l (jS o) else vec aE (l++[val.pv]) (jS (some (o.getD (List.replicate l.length (.str []))++[.str nm])))
@[reducible] noncomputable def Yv (k m:Nat) (val:It) (nm:Tx) (o:Option (List PV)):Prop :=
 bO (call T (k+16)) ((T 70).body.drop 3) (FG m o val nm (some (.t (.int ((m+1:Nat):Int)))) (some (.t (.int (-1)))) none) (HF o)=some (.ret (.t (EC val nm ((aO m).map It.pv) o)) (HF o))
theorem Yw(k m p:Nat) (hm:m<5) (hp:p<m+1) (val:It) (hv:isVal val) (nm:Tx) (s:List PV) (ho:s.length=m+1):Yu k m p val nm s :=
 wH hv fun j hj e=>by
  subst e
  rw[zP .none ho]
  exact congrFun (congrFun (congrFun (qx (f:=fun q k nm g=>bO (call T (k+16)) ((T 70).body.drop 3) (FG q.1 (some (Jg (q.1+1) g)) (valN q.2.2) nm (some (.t (.int ((q.1+1:Nat):Int)))) (some (.t (.int ((q.2.1:Nat):Int)))) none) (HF (some (Jg (q.1+1) g)))) (g:=fun q k nm g=>some (.ret (.t (vec aE ((m5 (valN q.2.2) q.2.1 (valN q.2.2) (aO q.1)).map It.pv) (jS (some (er (valN q.2.2) q.2.1 (Jg (q.1+1) g)))))) (Vj (valN q.2.2) q.2.1 (Jg (q.1+1) g)))) (by kernel_rfl) hm hp hj) k) nm) fun i=>s.getD i .none
theorem Yx(k m:Nat) (hm:m<5) (val:It) (hv:isVal val) (nm:Tx) (o:Option (List PV)) (ho:MN o m):Yv k m val nm o :=
 wH hv fun j hj e=>Jh ho fun b g q=>by
  subst e q
  exact congrFun (congrFun (congrFun (qx (p:=0) (f:=fun q k nm g=>bO (call T (k+16)) ((T 70).body.drop 3) (FG q.1 (oF (q.1+1) b g) (valN q.2.2) nm (some (.t (.int ((q.1+1:Nat):Int)))) (some (.t (.int (-1)))) none) (HF (oF (q.1+1) b g))) (g:=fun q k nm g=>some (.ret (.t (EC (valN q.2.2) nm ((aO q.1).map It.pv) (oF (q.1+1) b g))) (HF (oF (q.1+1) b g)))) (by induction b<;>kernel_rfl) hm (Nat.succ_pos m) hj) k) nm) g
theorem AE(st:aB) (k:MK) (x:Tx) (xs:List (Tx×PV)) (d:PV):mu .qE k st (.t (.aK xs)) [.str x,d]=ok (.t ((cj x xs).getD d)) st:=rfl
noncomputable def sA:Option Nat->Int
 |some i=>i
 |none=>-1
theorem ED(k:Nat) (s:Tx) (on:Option (List (Option Tx))) (ho:okN on) (st:aB):call T (k+2) 27 [.t (.str s),.t (fM on),.t (.bool true)] st=ok (.t (.int (sA (ff on (some s))))) st:=by
 refine bz (ds:=[.str s,fM on,.bool true]) (a:=.t (.int (sA (ff on (some s))))) (st':=[]) rfl rfl ?_ rfl
 rw[show(T 27).body=[.ifs (.cmp .is (.var 0) .none) [.bad] [],.ifs (.not (.var 2)) [.bad] [],.ret (.b4 .qE (.call 24 [(.var 1)]) [(.var 0),(.neg (.int 1))])] from rfl]
 show bO _ _ [some (.t (.str s)),some (.t (fM on)),some (.t (.bool true))] []=_
 have h:=uF s on
 cases hc:ff on (some s) with
 |none=>rw[hc] at h;simp only[af,aF,bD,aM,aW,ah,aL,au,bB,av,ay,aH,bg,aG,aV,bk,cB,ak,kX,kY,aA,aq,br,bu,aU,uv,mJ,bW,oY,oZ,jo,cG,cP,jR k on ho,AE,h,Option.map,Option.getD,sA]
 |some i=>rw[hc] at h;simp only[af,aF,bD,aM,aW,ah,aL,au,bB,av,ay,aH,bg,aG,aV,bk,cB,ak,kX,kY,aA,aq,br,bu,aU,uv,mJ,bW,oY,oZ,jo,cG,cP,jR k on ho,AE,h,Option.map,Option.getD,sA]
theorem tG(k:Nat) (s:Tx) (n:Int) (on:Option (List (Option Tx))) (ho:okN on) (st:aB):call T (k+5) 29 [.t (B9 s),.t (.int n),.t (fM on),.t (.bool true)] st=ok (.t (.int (sA (ff on (some s))))) st:=by
 have h:=ED (k+2) s on ho []
 refine bz (ds:=[B9 s,.int n,fM on,.bool true]) (a:=.t (.int (sA (ff on (some s))))) (st':=[]) rfl rfl (aN 5 (g':=[some (.t (B9 s)),some (.t (.int n)),some (.t (fM on)),some (.t (.bool true)),some (.t (.str ao))]) (st':=[]) (by kernel_rfl) ?_) rfl
 rw[show(T 29).body.drop 5=.ifs (.cmp .eq (.var 4) (.str ao)) [.ret (.call 27 [(.sub (.attr (.var 0) ai) (.int 0)),(.var 2),(.var 3)])] []::(T 29).body.drop 6 from rfl]
 refine bU (st1:=[]) (t:=.t (.bool true)) (by kernel_rfl) rfl (o:=some (.ret (.t (.int (sA (ff on (some s))))) [])) ?_ rfl
 have h2:ev (call T (k+4)) (.call 27 [(.sub (.attr (.var 0) ai) (.int 0)),(.var 2),(.var 3)]) [some (.t (B9 s)),some (.t (.int n)),some (.t (fM on)),some (.t (.bool true)),some (.t (.str ao))] []=ok (.t (.int (sA (ff on (some s))))) []:=h
 rw[ah,aW,h2];rfl
theorem Yy:(T 70).body.drop 2=.assign 5 (.call 29 [(.var 1),(.var 4),(.call 16 [(.var 0)]),(.bool true)])::(T 70).body.drop 3:=rfl
noncomputable def wI(val:It) (nm:Tx) (m:Nat) (on:Option (List (Option Tx))):PV:=match ff on (some nm) with
 |some p=>vec aE ((m5 val p val (aO m)).map It.pv) (jS ((on.map (·.map aD)).map (er val p)))
 |none=>EC val nm ((aO m).map It.pv) (on.map (·.map aD))
theorem HG{on:List (Option Tx)}{s:Tx}{i:Nat}(h:ff (some on) (some s)=some i):i<on.length:=by
 have h:(if s=[] then none else d9 s on)=some i:=h
 by_cases h0:s=[]
 ·rw[if_pos h0] at h;injection h
 ·rw[if_neg h0] at h;exact wB h
theorem yv(k m:Nat) (hm:m<5) (val:It) (hv:isVal val) (nm:Tx) (on:Option (List (Option Tx))) (ho:okN on) (hl:∀l,on=some l->l.length=m+1) (st:aB) :
  call T (k+17) 70 [.t (vec aE ((aO m).map It.pv) (jS (on.map (·.map aD)))),.t (B9 nm),.t val.pv,.t (.lst [])] st=ok (.t (wI val nm m on)) st:=by
 have s1:bO (call T (k+16)) ((T 70).body.take 2) (FG m (on.map (·.map aD)) val nm none none none) []=some (.next (FG m (on.map (·.map aD)) val nm (some (.t (.int ((m+1:Nat):Int)))) none none) []):=by
  match m,hm with
  |0,_=>induction hv with
   |inl h=>subst h;kernel_rfl
   |inr h=>induction h with
    |inl h=>subst h;kernel_rfl
    |inr h=>subst h;kernel_rfl
  |1,_=>induction hv with
   |inl h=>subst h;kernel_rfl
   |inr h=>induction h with
    |inl h=>subst h;kernel_rfl
    |inr h=>subst h;kernel_rfl
  |2,_=>induction hv with
   |inl h=>subst h;kernel_rfl
   |inr h=>induction h with
    |inl h=>subst h;kernel_rfl
    |inr h=>subst h;kernel_rfl
  |3,_=>induction hv with
   |inl h=>subst h;kernel_rfl
   |inr h=>induction h with
    |inl h=>subst h;kernel_rfl
    |inr h=>subst h;kernel_rfl
  |4,_=>induction hv with
   |inl h=>subst h;kernel_rfl
   |inr h=>induction h with
    |inl h=>subst h;kernel_rfl
    |inr h=>subst h;kernel_rfl
 have Vk:=tG (k+11) nm ((m+1:Nat):Int) on ho
 have s2:ev (call T (k+16)) (.call 29 [(.var 1),(.var 4),(.call 16 [(.var 0)]),(.bool true)]) (FG m (on.map (·.map aD)) val nm (some (.t (.int ((m+1:Nat):Int)))) none none) []=ok (.t (.int (sA (ff on (some nm))))) (HF (on.map (·.map aD))):=by
  induction on with
  |none =>
   refine dJ (f:=29) (as:=[.t (B9 nm),.t (.int ((m+1:Nat):Int)),.t .none,.t (.bool true)]) (ds:=[B9 nm,.int ((m+1:Nat):Int),.none,.bool true]) (st1:=[]) (st2:=[]) (by kernel_rfl) rfl rfl (Vk _)
  |some l =>
   refine dJ (f:=29) (as:=[.t (B9 nm),.t (.int ((m+1:Nat):Int)),.r 0,.t (.bool true)]) (ds:=[B9 nm,.int ((m+1:Nat):Int),.lst (l.map aD),.bool true]) (st1:=[.lst (l.map aD)]) (st2:=[.fz (.lst (l.map aD))]) (by kernel_rfl) rfl rfl (Vk _)
 obtain⟨st',h3⟩ : ∃st',bO (call T (k+16)) ((T 70).body.drop 3) (FG m (on.map (·.map aD)) val nm (some (.t (.int ((m+1:Nat):Int)))) (some (.t (.int (sA (ff on (some nm)))))) none) (HF (on.map (·.map aD)))=some (.ret (.t (wI val nm m on)) st'):=by
  unfold wI
  cases hc:ff on (some nm) with
  |none =>
   exact⟨_,Yx k m hm val hv nm _ (by induction on with
    |none=>trivial
    |some l=>show(l.map aD).length=_;rw[List.length_map];exact hl l rfl)⟩
  |some p =>
   match on,hl,hc with
   |none,_,hc =>
    have h0:ff none (some nm)=none:=by
     show(if nm=[] then none else none)=none
     by_cases h:nm=[]
     ·rw[if_pos h]
     ·rw[if_neg h]
    rw[h0] at hc;injection hc
   |some l,hl,hc =>
    have h1:=HG hc
    rw[hl l rfl] at h1
    exact⟨_,Yw k m p hm h1 val hv nm _ (by rw[List.length_map];exact hl l rfl)⟩
 refine bz (ds:=[vec aE ((aO m).map It.pv) (jS (on.map (·.map aD))),B9 nm,val.pv,.lst []]) (g:=FG m (on.map (·.map aD)) val nm none none none) (a:=.t (wI val nm m on)) (st':=st') rfl (by kernel_rfl) (aN 2 s1 ?_) rfl
 rw[Yy]
 refine bE (g':=FG m (on.map (·.map aD)) val nm (some (.t (.int ((m+1:Nat):Int)))) (some (.t (.int (sA (ff on (some nm)))))) none) (st':=HF (on.map (·.map aD))) ?_ h3
 rw[aC,s2];rfl
noncomputable def oT(tO:List (Option Tx)):Option (List (Option Tx)):=if tO.any Option.isSome=true then some tO else none
theorem sC(l:List PV) (tO:List (Option Tx)):pV l tO=vec aE l (jS ((oT tO).map (·.map eU))):=by
 unfold pV oT
 by_cases h:tO.any Option.isSome=true
 ·rw[if_pos h,if_pos h];rfl
 ·rw[if_neg h,if_neg h];rfl
theorem uI{α β:Type}(f:α->β):∀(l:List α) (p:Nat),(l.map f).eraseIdx p=(l.eraseIdx p).map f
 |[],_=>rfl
 |a::r,0=>rfl
 |a::r,p+1=>by show f a::(r.map f).eraseIdx p=f a::(r.eraseIdx p).map f;rw[uI f r p]
theorem EE{α β:Type}(f:α->β) (val:It) (p:Nat) (l:List α):er val p (l.map f)=(er val p l).map f:=by
 unfold er
 by_cases h:isNul val=true
 ·rw[if_pos h,if_pos h,uI]
 ·rw[if_neg h,if_neg h]
theorem Ca{α β:Type}(f:α->β) (val:It) (p:Nat) (o:Option (List α)):(o.map (·.map f)).map (er val p)=(o.map (er val p)).map (·.map f):=by
 induction o with
 |none=>rfl
 |some l=>show some (er val p (l.map f))=some ((er val p l).map f);rw[EE]
theorem AF{val:It}{p:Nat}{bK:List It}{tO:List (Option Tx)}(hl:tO.length=bK.length):(m5 val p val bK).length=(er val p tO).length:=by
 unfold m5 er
 by_cases h:isNul val=true
 ·rw[if_pos h,if_pos h,List.length_eraseIdx,List.length_eraseIdx,hl]
 ·rw[if_neg h,if_neg h,List.length_set,hl]
theorem nX{tO:List (Option Tx)}(h:¬tO.any Option.isSome=true):tO=List.replicate tO.length none:=by
 rw[List.eq_replicate_iff]
 refine⟨rfl,fun a ha=>?_⟩
 induction a with
 |none=>rfl
 |some s=>exact absurd (List.any_eq_true.mpr ⟨_,ha,rfl⟩) h
theorem EF(val:It) (p n:Nat):∃j,er val p (List.replicate n (none:Option Tx))=List.replicate j none:=by
 refine⟨(er val p (List.replicate n (none:Option Tx))).length,?_⟩
 rw[List.eq_replicate_iff]
 refine⟨rfl,fun a ha=>?_⟩
 unfold er at ha
 by_cases h:isNul val=true
 ·rw[if_pos h] at ha;exact List.eq_of_mem_replicate (List.mem_of_mem_eraseIdx ha)
 ·rw[if_neg h] at ha;exact List.eq_of_mem_replicate ha
theorem Cb{val:It}{p:Nat}{bK:List It}{tO:List (Option Tx)}(hl:tO.length=bK.length):((oT tO).map (er val p)).getD (List.replicate ((m5 val p val bK).map It.pv).length none)=er val p tO:=by
 rw[List.length_map,AF hl]
 unfold oT
 by_cases h:tO.any Option.isSome=true
 ·rw[if_pos h];rfl
 ·rw[if_neg h]
  show List.replicate _ none=_
  have e:=nX h
  generalize tO.length=n at e
  obtain⟨j,hj⟩:=EF val p n
  subst e
  rw[hj,List.length_replicate]
theorem HH{val:It}{p:Nat}{tO:List (Option Tx)}(ht:jT tO):∀t,(oT tO).map (er val p)=some t->∀s,some s∈t->s≠[]:=by
 intro t e s hs
 obtain⟨u,hu,rfl⟩:=Option.map_eq_some_iff.mp e
 have Yz:u=tO:=by
  unfold oT at hu
  by_cases h:tO.any Option.isSome=true
  ·rw[if_pos h] at hu;exact(Option.some.inj hu).symm
  ·rw[if_neg h] at hu;injection hu
 subst Yz
 unfold er at hs
 by_cases h:isNul val=true
 ·rw[if_pos h] at hs;exact(ht.2 s (List.mem_of_mem_eraseIdx hs)).1
 ·rw[if_neg h] at hs;exact(ht.2 s hs).1
theorem AG{tO:List (Option Tx)}{m:Nat}(hl:tO.length=m+1):MN ((oT tO).map (·.map eU)) m:=by
 unfold oT
 by_cases h:tO.any Option.isSome=true
 ·rw[if_pos h];show(tO.map eU).length=_;rw[List.length_map,hl]
 ·rw[if_neg h];trivial
theorem gh(m:Nat) (hm:m<5):(aO m).length=m+1:=by
 unfold aO;rw[List.length_take];simp;omega
noncomputable def ly(val:It) (p m:Nat) (tO:List (Option Tx)):PV:=tF ((m5 val p val (aO m)).map It.pv) (er val p tO)
noncomputable def ee(p:Nat):PV:=vec aa [.int ((p+1:Nat):Int)] .none
noncomputable def mh(m:Nat) (tO:List (Option Tx)):PV:=bA ((aO m).map It.pv) (tO.map aD)
theorem inner(f k m p:Nat) (hm:m<5) (hp:p<m+1) (val:It) (tO:List (Option Tx)) (hl:tO.length=m+1) (ht:jT tO)
  (hP:∀st,Q6 f (k+2) m p val ((oT tO).map (·.map eU)) st) :
  (∀st,call T (k+18) 65 [.t (mh m tO)] st=ok (.t (pV ((aO m).map It.pv) tO)) st) /\
  ∃d,(∀st,call T (k+18) f [.t (pV ((aO m).map It.pv) tO),.t (.lst [ee p]),.t val.pv,.t (.lst [])] st=ok (.t d) st)/\∀st,call T (k+18) 66 [.t d] st=ok (.t (ly val p m tO)) st:=by
 refine⟨fun st=>nW (k+13) _ tO ht.1 st,vec aE ((m5 val p val (aO m)).map It.pv) (jS (((oT tO).map (er val p)).map (·.map eU))),fun st=>?_,fun st=>?_⟩
 ·rw[sC,<-Ca];exact hP st
 ·have hlen:((m5 val p val (aO m)).map It.pv).length<1000:=by
   rw[List.length_map,AF (tO:=tO) (by rw[hl,gh m hm])]
   unfold er
   by_cases h:isNul val=true
   ·rw[if_pos h];have:=List.length_eraseIdx_le tO p;omega
   ·rw[if_neg h];omega
  rw[jU (k+12) _ hlen ((oT tO).map (er val p)) (HH ht) st,Cb (by rw[hl,gh m hm])];rfl
theorem Cc(k m p:Nat) (hm:m<5) (hp:p<m+1) (val:It) (hv:isVal val) (tO:List (Option Tx)) (hl:tO.length=m+1) (ht:jT tO) (st:aB) :
  call T (k+19) 71 [.t (mh m tO),.t (.lst [ee p]),.t val.pv,.t (.lst [])] st=ok (.t (ly val p m tO)) st:=by
 obtain⟨h1,d,h2,h3⟩:=inner 71 k m p hm hp val tO hl ht (fun st=>Tv (k+2) m p hm hp val hv _ (AG hl) st)
 refine bz (ds:=[mh m tO,.lst [ee p],val.pv,.lst []]) (g:=[some (.t (mh m tO)),some (.t (.lst [ee p])),some (.t val.pv),some (.t (.lst []))]) (a:=.t (ly val p m tO)) (st':=[]) rfl rfl ?_ rfl
 rw[show(T 71).body=.ifs (.cmp .eq (.attr (.var 0) aj) (.str aI)) [.ret (.call 66 [(.call 71 [(.call 65 [(.var 0)]),(.var 1),(.var 2),(.var 3)])])] []::(T 71).body.drop 1 from rfl]
 refine bU (st1:=[]) (t:=.t (.bool true)) (by kernel_rfl) rfl (o:=some (.ret (.t (ly val p m tO)) [])) ?_ rfl
 simp only[af,aF,aW,ah,bB,av,ay,aA,aq,bW,cG,cP,h1,h2,h3]
theorem wJ(k m p:Nat) (hm:m<5) (hp:p<m+1) (val:It) (hv:isVal val) (tO:List (Option Tx)) (hl:tO.length=m+1) (ht:jT tO) (st:aB) :
  call T (k+19) 67 [.t (mh m tO),.t (.lst [ee p]),.t val.pv,.t (.lst [])] st=ok (.t (ly val p m tO)) st:=by
 obtain⟨h1,d,h2,h3⟩:=inner 67 k m p hm hp val tO hl ht (fun st=>Yt (k+2) m p hm hp val hv _ (AG hl) st)
 refine bz (ds:=[mh m tO,.lst [ee p],val.pv,.lst []]) (g:=[some (.t (mh m tO)),some (.t (.lst [ee p])),some (.t val.pv),some (.t (.lst [])),none,none]) (a:=.t (ly val p m tO)) (st':=[]) rfl rfl ?_ rfl
 rw[show(T 67).body=.ifs (.cmp .eq (.attr (.var 0) aj) (.str aI)) [.ret (.call 66 [(.call 67 [(.call 65 [(.var 0)]),(.var 1),(.var 2),(.var 3)])])] []::(T 67).body.drop 1 from rfl]
 refine bU (st1:=[]) (t:=.t (.bool true)) (by kernel_rfl) rfl (o:=some (.ret (.t (ly val p m tO)) [])) ?_ rfl
 simp only[af,aF,aW,ah,bB,av,ay,aA,aq,bW,cG,cP,h1,h2,h3]
theorem sD(k m p:Nat) (hm:m<5) (hp:p<m+1) (val:It) (hv:isVal val) (tO:List (Option Tx)) (hl:tO.length=m+1) (ht:jT tO) (st:aB) :
  call T (k+20) 72 [.t (mh m tO),.t (.lst [ee p]),.t val.pv,.t (.lst [])] st=ok (.t (ly val p m tO)) st:=by
 have h:=Cc k m p hm hp val hv tO hl ht
 have s1:bO (call T (k+19)) ((T 72).body.take 4) [some (.t (mh m tO)),some (.t (.lst [ee p])),some (.t val.pv),some (.t (.lst [])),none] []=some (.next [some (.t (mh m tO)),some (.t (.lst [ee p])),some (.t val.pv),some (.t (.lst [])),some (.t (ee p))] []):=by kernel_rfl
 refine bz (ds:=[mh m tO,.lst [ee p],val.pv,.lst []]) (g:=[some (.t (mh m tO)),some (.t (.lst [ee p])),some (.t val.pv),some (.t (.lst [])),none]) (a:=.t (ly val p m tO)) (st':=[.fz (.lst [ee p])]) rfl rfl (aN 4 s1 ?_) rfl
 have h2:ev (call T (k+19)) (.call 71 [(.var 0),(.list [(.var 4)]),(.var 2),(.var 3)]) [some (.t (mh m tO)),some (.t (.lst [ee p])),some (.t val.pv),some (.t (.lst [])),some (.t (ee p))] []=ok (.t (ly val p m tO)) [.fz (.lst [ee p])] :=
  dJ (f:=71) (as:=[.t (mh m tO),.r 0,.t val.pv,.t (.lst [])]) (ds:=[mh m tO,.lst [ee p],val.pv,.lst []]) (st1:=[.lst [ee p]]) (st2:=[.fz (.lst [ee p])]) (by kernel_rfl) rfl (by kernel_rfl) (h _)
 show bO _ [.ret (.call 71 [(.var 0),(.list [(.var 4)]),(.var 2),(.var 3)])] _ _=_
 rw[ah,aW,h2];rfl
theorem yw(k m:Nat) (hm:m<5) (val:It) (hv:isVal val) (nm:Tx) (on:Option (List (Option Tx))) (ho:okN on) (hl:∀l,on=some l->l.length=m+1) (st:aB) :
  call T (k+18) 73 [.t (vec aE ((aO m).map It.pv) (jS (on.map (·.map aD)))),.t (.str nm),.t val.pv,.t (.lst [])] st=ok (.t (wI val nm m on)) st:=by
 have h:=yv k m hm val hv nm on ho hl
 have s1:bO (call T (k+17)) ((T 73).body.take 4) [some (.t (vec aE ((aO m).map It.pv) (jS (on.map (·.map aD))))),some (.t (.str nm)),some (.t val.pv),some (.t (.lst []))] []=some (.next [some (.t (vec aE ((aO m).map It.pv) (jS (on.map (·.map aD))))),some (.t (.str nm)),some (.t val.pv),some (.t (.lst []))] []):=by kernel_rfl
 refine bz (ds:=[vec aE ((aO m).map It.pv) (jS (on.map (·.map aD))),.str nm,val.pv,.lst []]) (g:=[some (.t (vec aE ((aO m).map It.pv) (jS (on.map (·.map aD))))),some (.t (.str nm)),some (.t val.pv),some (.t (.lst []))]) (a:=.t (wI val nm m on)) (st':=[.fz (.lst [.str nm])]) rfl rfl (aN 4 s1 ?_) rfl
 have h8:ev (call T (k+17)) (.call 8 [(.list [(.var 1)])]) [some (.t (vec aE ((aO m).map It.pv) (jS (on.map (·.map aD))))),some (.t (.str nm)),some (.t val.pv),some (.t (.lst []))] []=ok (.t (B9 nm)) [.fz (.lst [.str nm])]:=by kernel_rfl
 have s7:gj (call T (k+17)) [(.var 0),(.call 8 [(.list [(.var 1)])]),(.var 2),(.var 3)] [some (.t (vec aE ((aO m).map It.pv) (jS (on.map (·.map aD))))),some (.t (.str nm)),some (.t val.pv),some (.t (.lst []))] []=ok [AV.t (vec aE ((aO m).map It.pv) (jS (on.map (·.map aD)))),AV.t (B9 nm),AV.t val.pv,AV.t (.lst [])] [.fz (.lst [.str nm])]:=by
  simp only[aq,aA,av,ay,cG,cP,af,h8]
 show bO _ [.ret (.call 70 [(.var 0),(.call 8 [(.list [(.var 1)])]),(.var 2),(.var 3)])] _ _=_
 rw[ah,aW,bW,s7,af,h];rfl
theorem HJ(nm:Tx) (h0:nm≠[]) (tO:List (Option Tx)):d9 nm (tO.map sj)=d9 nm tO:=by
 induction tO with
 |nil=>rfl
 |cons a r ih =>
  rw[List.map_cons,d9,d9,ih]
  induction a with
  |none =>
   have e1:¬(sj none=some nm):=fun e=>h0 (Option.some.inj (show some []=some nm from e)).symm
   rw[if_neg e1,if_neg (by simp)]
  |some s=>rfl
theorem HK(nm:Tx) (h0:nm≠[]) (tO:List (Option Tx)):ff ((oT tO).map (·.map sj)) (some nm)=d9 nm tO:=by
 show(if nm=[] then none else((oT tO).map (·.map sj)).bind (d9 nm))=_
 rw[if_neg h0]
 unfold oT
 by_cases h:tO.any Option.isSome=true
 ·rw[if_pos h];exact HJ nm h0 tO
 ·rw[if_neg h]
  show none=_
  rw[nX h]
  generalize tO.length=n
  induction n with
  |zero=>rfl
  |succ n ih=>rw[List.replicate_succ,d9,if_neg (by simp),<-ih];rfl
noncomputable def yx(val:It) (nm:Tx) (m:Nat) (tO:List (Option Tx)):PV:=match d9 nm tO with
 |some p=>ly val p m tO
 |none=>if isNul val=true then tF ((aO m).map It.pv) tO else tF ((aO m++[val]).map It.pv) (tO++[some nm])
theorem AH(o:Option (List (Option Tx))):o.map (·.map eU)=(o.map (·.map sj)).map (·.map aD):=by
 induction o with
 |none=>rfl
 |some l=>show some (l.map eU)=some ((l.map sj).map aD);rw[zO]
theorem tH(k m:Nat) (hm:m<5) (val:It) (hv:isVal val) (nm:Tx) (h0:nm≠[]) (tO:List (Option Tx)) (hl:tO.length=m+1) (ht:jT tO) (st:aB) :
  call T (k+19) 73 [.t (mh m tO),.t (.str nm),.t val.pv,.t (.lst [])] st=ok (.t (yx val nm m tO)) st:=by
 have h1:∀st,call T (k+18) 65 [.t (mh m tO)] st=ok (.t (pV ((aO m).map It.pv) tO)) st:=fun st=>nW (k+13) _ tO ht.1 st
 have YA:okN ((oT tO).map (·.map sj)):=by
  unfold oT
  by_cases h:tO.any Option.isSome=true
  ·rw[if_pos h];exact Et ht
  ·rw[if_neg h];exact fun l e=>by injection e
 have h2:∀st,call T (k+18) 73 [.t (pV ((aO m).map It.pv) tO),.t (.str nm),.t val.pv,.t (.lst [])] st=ok (.t (wI val nm m ((oT tO).map (·.map sj)))) st:=fun st=>by
  rw[sC,AH]
  refine yw k m hm val hv nm _ YA (fun l e=>?_) st
  obtain⟨u,hu,rfl⟩:=Option.map_eq_some_iff.mp e
  unfold oT at hu
  by_cases h:tO.any Option.isSome=true
  ·rw[if_pos h] at hu;(injection hu with hu;subst hu);rw[List.length_map,hl]
  ·rw[if_neg h] at hu;injection hu
 have h3:∀st,call T (k+18) 66 [.t (wI val nm m ((oT tO).map (·.map sj)))] st=ok (.t (yx val nm m tO)) st:=fun st=>by
  unfold wI yx
  rw[HK nm h0 tO]
  cases hf:d9 nm tO with
  |some p =>
   have hp:=wB hf
   rw[hl] at hp
   obtain⟨_,d,hd,h66⟩:=inner 71 k m p hm hp val tO hl ht (fun st=>Tv (k+2) m p hm hp val hv _ (AG hl) st)
   have hd2:=Tv (k+2) m p hm hp val hv ((oT tO).map (·.map eU)) (AG hl) []
   have Du:=hd []
   rw[sC] at Du
   have e:=Du.symm.trans hd2
   injection e with e;injection e with e;injection e with e;injection e with e
   subst e
   rw[<-AH]
   exact h66 st
  |none =>
   show call T (k+18) 66 [.t (EC val nm ((aO m).map It.pv) (((oT tO).map (·.map sj)).map (·.map aD)))] st=_
   unfold EC
   have Vl:((aO m).map It.pv).length=m+1:=by rw[List.length_map,gh m hm]
   by_cases hn:isNul val=true
   ·rw[if_pos hn,if_pos hn,<-AH,jU (k+12) _ (by omega) (oT tO) (fun t e s hs=>?_) st]
    ·congr 4
     unfold oT
     by_cases h:tO.any Option.isSome=true
     ·rw[if_pos h];rfl
     ·rw[if_neg h,Vl,<-hl];exact(nX h).symm
    ·unfold oT at e
     by_cases h:tO.any Option.isSome=true
     ·rw[if_pos h] at e;(injection e with e;subst e);exact(ht.2 s hs).1
     ·rw[if_neg h] at e;injection e
   ·rw[if_neg hn,if_neg hn]
    have e1:(((oT tO).map (·.map sj)).map (·.map aD)).getD (List.replicate ((aO m).map It.pv).length (.str []))++[PV.str nm]=(tO++[some nm]).map eU:=by
     rw[List.map_append]
     congr 1
     rw[<-AH,Vl,<-hl]
     unfold oT
     by_cases h:tO.any Option.isSome=true
     ·rw[if_pos h];rfl
     ·rw[if_neg h]
      show List.replicate tO.length (PV.str [])=_
      conv=>rhs;rw[nX h,List.map_replicate]
      rfl
    rw[e1,show(aO m).map It.pv++[val.pv]=(aO m++[val]).map It.pv by rw[List.map_append];rfl]
    refine jU (k+12) ((aO m++[val]).map It.pv) (by rw[List.length_map,List.length_append,gh m hm];simp;omega) (some (tO++[some nm])) (fun t e s hs=>?_) st
    injection e with e;subst e
    rcases List.mem_append.mp hs with hs|hs
    ·exact(ht.2 s hs).1
    ·cases hs with
     |head=>exact h0
     |tail _ q=>cases q
 refine bz (ds:=[mh m tO,.str nm,val.pv,.lst []]) (g:=[some (.t (mh m tO)),some (.t (.str nm)),some (.t val.pv),some (.t (.lst []))]) (a:=.t (yx val nm m tO)) (st':=[]) rfl rfl ?_ rfl
 rw[show(T 73).body=.ifs (.cmp .eq (.attr (.var 0) aj) (.str aI)) [.ret (.call 66 [(.call 73 [(.call 65 [(.var 0)]),(.var 1),(.var 2),(.var 3)])])] []::(T 73).body.drop 1 from rfl]
 refine bU (st1:=[]) (t:=.t (.bool true)) (by kernel_rfl) rfl (o:=some (.ret (.t (yx val nm m tO)) [])) ?_ rfl
 simp only[af,aF,aW,ah,bB,av,ay,aA,aq,bW,cG,cP,h1,h2,h3]
noncomputable def Rw(l:List PV):Prop:=∀d∈l,∃i:Int,d=.int i/\0<=i/\i<1024
noncomputable def W(la:List PV) (lb:PV) (l:List PV) (rest:aB):aB:=.lst la::.fz lb::.lst l::rest
theorem PM(la lb l rest):W la lb l rest=.lst la::.fz lb::.lst l::rest:=rfl
noncomputable def Cl(rest:aB):Prop:=rest.all (dO (rest.length+3))=true
theorem iY{la:List PV}{lb:PV}{l:List PV}{rest:aB}(h:Cl rest) (X:aB){n:Nat}(hn:n=rest.length+3):back n (W la lb l rest++X)=some (W la lb l rest):=by
 subst hn
 have e:(W la lb l rest++X).take (rest.length+3)=W la lb l rest:=by
  have:(W la lb l rest).length=rest.length+3:=rfl
  rw[<-this,List.take_left]
 unfold back
 rw[e,if_pos]
 show(dO _ (.lst la)&&(dO _ (.fz lb)&&(dO _ (.lst l)&&rest.all (dO (rest.length+3)))))=true
 rw[h];rfl
theorem jV{T:Nat->Fn}{k f:Nat}{as:List AV}{g:Gm}{a:AV}{d:PV}{st st' dQ Mv:aB}(hr:(T f).ref=true) (ho:(T f).own=false) (hs:(T f).start as=some g) (hb:bO (call T k) (T f).body g st=some (.ret a st')) (hf:eX st' a=ok d dQ) (hk:back st.length dQ=some Mv):call T (k+1) f as st=ok (.t d) Mv:=by
 show fB (call T k) (T f) as st=_
 simp only[fB,hr,ho,hs]
 show CT false _ (bO (call T k) (T f).body g st)=_
 rw[hb]
 show(eX st' a).bind (fun d st=>kq _ d st)=_
 rw[hf]
 show kq _ d dQ=_
 unfold kq
 rw[hk]
theorem HL{l:List PV}(h:Rw l) (hl:¬l.length=0):∃(i:Int) (l':List PV),0<=i/\i<1024/\Rw l'/\l=l'++[.int i]:=by
 have IJ:l≠[]:=fun e=>hl (by rw[e];rfl)
 obtain⟨i,e,h1,h2⟩:=h (l.getLast IJ) (List.getLast_mem IJ)
 exact⟨i,l.dropLast,h1,h2,fun d hd=>h d (List.dropLast_subset l hd),by rw[<-e,List.dropLast_concat_getLast]⟩
theorem Ls(st:aB) (i:Nat) (l:List PV) (d:PV) (k:MK) (h:st[i]? = some (.lst (l++[d]))):mu .pop k st (.r i) []=ok (.t d) (st.set i (.lst l)):=by
 show(match st[i]? with
   |some (.lst xs)=>match xs.getLast? with
    |some d=>ok (AV.t d) (st.set i (.lst xs.dropLast))
    |Option.none=>Option.none
   |_=>Option.none)=_
 rw[h]
 simp
theorem next(la:List PV) (lb:PV) (l:List PV) (hl:Rw l) (rest:aB) (hc:Cl rest):∃(i:Int) (l':List PV),0<=i/\i<1024/\Rw l'/\∀k,call T (k+1) 75 [.r 2] (W la lb l rest)=ok (.t (.int i)) (W la lb l' rest):=by
 have hb:(T 75).body=[.ret (.ite (.cmp .ne (.var 0) (.list [])) (.b4 .pop (.var 0) []) (.int 0))]:=rfl
 by_cases h0:l.length=0
 ·refine⟨0,l,by omega,by omega,hl,fun k=>jV (g:=[some (.r 2)]) (a:=.t (.int 0)) (st':=W la lb l rest++[.lst []]) rfl rfl rfl ?_ rfl (iY hc _ rfl)⟩
  rw[hb,PM]
  simp only[af,aF,aW,ah,bB,av,ay,bg,aG,cR,bX,ak,cL,gf,aA,ji,eH,bS,rV,jo,cG,cP,List.cons_append,List.getElem?_concat_length,dG h0]
 ·obtain⟨i,l',h1,h2,h3,rfl⟩:=HL hl h0
  refine⟨i,l',h1,h2,h3,fun k=>jV (g:=[some (.r 2)]) (a:=.t (.int i)) (st':=W la lb l' rest++[.lst []]) rfl rfl rfl ?_ rfl (iY hc _ rfl)⟩
  rw[hb,PM]
  have hp:=fun k=>Ls (.lst la::.fz lb::.lst (l'++[.int i])::(rest++[.lst []])) 2 l' (.int i) k rfl
  simp only[af,aF,aW,ah,bB,av,ay,aG,cR,bX,ak,cL,fZ,aA,br,bu,aU,D9,ji,eH,bS,rV,iE,cG,cP,List.set_cons_zero,List.set_cons_succ,List.cons_append,List.getElem?_concat_length,bL h0,hp]
  rfl
theorem jW{a m:Int}(ha:0<=a) (hm:0<m):0<=a.fmod m/\a.fmod m<m:=⟨Int.fmod_nonneg_of_pos a hm,Int.fmod_lt_of_pos a hm⟩
theorem yy(la:List PV) (lb:PV) (l:List PV) (hl:Rw l) (rest:aB) (hc:Cl rest) (e:E) (g:Gm) (x:Nat) (hx:g[x]? = some (some (.r 2))) (m:Int) (hm:0<m) (k:Nat) (he:∀l,ev (call T (k+1)) e g (W la lb l rest)=ok (.t (.int m)) (W la lb l rest)) :
  ∃(i:Int) (l':List PV),0<=i/\i<m/\Rw l'/\ev (call T (k+1)) (.bin .mod (.call 75 [.var x]) e) g (W la lb l rest)=ok (.t (.int i)) (W la lb l' rest):=by
 obtain⟨i,l',h1,h2,h3,h4⟩:=next la lb l hl rest hc
 refine⟨i.fmod m,l',(jW h1 hm).1,(jW h1 hm).2,h3,?_⟩
 have YB:m≠0:=by omega
 simp only[af,av,ay,aV,aA,aq,bW,b7,hx,h4,he,fc _ _ _ YB]
theorem ef(la:List PV) (lb:PV) (l:List PV) (hl:Rw l) (rest:aB) (hc:Cl rest) (g:Gm) (x:Nat) (hx:g[x]? = some (some (.r 2))) (m:Int) (hm:0<m) (k:Nat) :
  ∃(i:Int) (l':List PV),0<=i/\i<m/\Rw l'/\ev (call T (k+1)) (.bin .mod (.call 75 [.var x]) (.int m)) g (W la lb l rest)=ok (.t (.int i)) (W la lb l' rest) :=
 yy la lb l hl rest hc (.int m) g x hx m hm k fun _=>rfl
noncomputable def nY(t:Option Tx):Prop:=∀s,t=some s->s.length<=3
theorem Lu(i:Int) (st:aB) (h:0<=i/\i<128):xj .chr st [.int i]=ok (.t (.str [i.toNat])) st:=by
 show(if 0<=i/\i<128 then ok (AV.t (.str [i.toNat])) st else none)=_
 rw[if_pos h]
theorem Lv(C:fy) (l g st):ev C (.bi .chr l) g st=(gj C l g st).bind fun as st=>(uZ st as).bind fun ds st=>xj .chr st ds:=rfl
theorem EG{p:Int->Prop}(i:Int) (a:0<=i) (b:i<0):p i:=absurd a (Int.not_le.mpr b)
theorem fN{p:Int->Prop}{n:Nat}(h:∀i:Int,0<=i->i<n->p i) (k:p n) (i:Int) (a:0<=i) (b:i<(n+1:Nat)):p i:=by
 by_cases q:i<n
 ·exact h i a q
 ·exact(Int.le_antisymm (Int.le_of_lt_add_one b) (Int.not_lt.mp q))▸k
theorem text(la:List PV) (lb:PV) (l:List PV) (hl:Rw l) (rest:aB) (hc:Cl rest) (k:Nat):∃(t:Option Tx) (l':List PV),nY t/\Rw l'/\call T (k+2) 76 [.r 2] (W la lb l rest)=ok (.t (aD t)) (W la lb l' rest):=by
 obtain⟨i,l1,a1,a2,h1,e1⟩:=ef la lb l hl rest hc [some (.r 2),none] 0 rfl 8 (by omega) k
 obtain⟨j,l2,b1,b2,h2,e2⟩:=ef la lb l1 h1 rest hc [some (.r 2),some (.t (.int i))] 0 rfl 26 (by omega) k
 have hj:0<=97+j/\97+j<128:=⟨by omega,by omega⟩
 have hb:(T 76).body=[.assign 1 (.bin .mod (.call 75 [(.var 0)]) (.int 8)),.ret (.sub (.list [(.str pQ),(.str pR),(.str jN),(.str jz),(.str []),.none,(.str BO),(.bi .chr [(.bin .add (.int 97) (.bin .mod (.call 75 [(.var 0)]) (.int 26)))])]) (.var 1))]:=rfl
 have s7:gj (call T (k+1)) [(.str pQ),(.str pR),(.str jN),(.str jz),(.str []),.none,(.str BO),(.bi .chr [(.bin .add (.int 97) (.bin .mod (.call 75 [(.var 0)]) (.int 26)))])] [some (.r 2),some (.t (.int i))] (W la lb l1 rest)=ok ([PV.str pQ,.str pR,.str jN,.str jz,.str [],.none,.str BO,.str [(97+j).toNat]].map AV.t) (W la lb l2 rest):=by
  simp only[aq,aA,bI,aH,af,Lv,b7 (o:=.add),bg,e2,aV,ya,ek,cY,Lu _ _ hj]
  rfl
 have h3:ev (call T (k+1)) (.list [(.str pQ),(.str pR),(.str jN),(.str jz),(.str []),.none,(.str BO),(.bi .chr [(.bin .add (.int 97) (.bin .mod (.call 75 [(.var 0)]) (.int 26)))])]) [some (.r 2),some (.t (.int i))] (W la lb l1 rest)=ok (.r (rest.length+3)) (W la lb l2 rest++[.lst [.str pQ,.str pR,.str jN,.str jz,.str [],.none,.str BO,.str [(97+j).toNat]]]):=by
  rw[eH,s7,af,gX,af];rfl
 have hi:∀i:Int,0<=i->i<8->∃t,nY t/\sW (W la lb l2 rest++[.lst [.str pQ,.str pR,.str jN,.str jz,.str [],.none,.str BO,.str [(97+j).toNat]]]) (some (.lst [.str pQ,.str pR,.str jN,.str jz,.str [],.none,.str BO,.str [(97+j).toNat]])) (some (.int i))=ok (.t (aD t)) (W la lb l2 rest++[.lst [.str pQ,.str pR,.str jN,.str jz,.str [],.none,.str BO,.str [(97+j).toNat]]]):=by
  exact fN (n:=7) (fN (n:=6) (fN (n:=5) (fN (n:=4) (fN (n:=3) (fN (n:=2) (fN (n:=1) (fN (n:=0) EG
   ⟨some pQ,fun s h=>by(injection h with h;subst h);decide,rfl⟩) ⟨some pR,fun s h=>by(injection h with h;subst h);decide,rfl⟩) ⟨some jN,fun s h=>by(injection h with h;subst h);decide,rfl⟩) ⟨some jz,fun s h=>by(injection h with h;subst h);decide,rfl⟩)
   ⟨some [],fun s h=>by(injection h with h;subst h);decide,rfl⟩) ⟨none,(fun s h=>nomatch h),rfl⟩) ⟨some BO,fun s h=>by(injection h with h;subst h);decide,rfl⟩) ⟨some [(97+j).toNat],fun s h=>by(injection h with h;subst h);simp,rfl⟩
 obtain⟨t,ht,hi⟩:=hi i a1 a2
 refine⟨t,l2,ht,h2,jV (g:=[some (.r 2),none]) (a:=.t (aD t)) (st':=W la lb l2 rest++[.lst [.str pQ,.str pR,.str jN,.str jz,.str [],.none,.str BO,.str [(97+j).toNat]]]) rfl rfl rfl ?_ rfl (iY hc _ rfl)⟩
 rw[hb]
 refine bE (g':=[some (.r 2),some (.t (.int i))]) (st':=W la lb l1 rest) (by rw[aC,e1];rfl) ?_
 have hv:vw (W la lb l2 rest++[.lst [.str pQ,.str pR,.str jN,.str jz,.str [],.none,.str BO,.str [(97+j).toNat]]]) (.r (rest.length+3))=some (.lst [.str pQ,.str pR,.str jN,.str jz,.str [],.none,.str BO,.str [(97+j).toNat]]):=by
  have:(W la lb l2 rest).length=rest.length+3:=rfl
  rw[cR,<-this,List.getElem?_concat_length];rfl
 simp only[ah,aW,bR,h3,af,av,cG,cP,ay,hv,aV,hi,aF,bB]
theorem Ce{n m:Nat}(h:n<=m) (nd:Node) (hr:dO n nd=true):dO m nd=true:=by
 induction nd with
 |inst c fs =>
  show(fs.all _)=true
  have hr:(fs.all fun p=>match p.2 with| .r i=>decide (i<n)|_=>true)=true:=hr
  rw[List.all_eq_true] at hr ⊢
  intro p hp
  have:=hr p hp
  cases hq:p.2 with
  |t d=>rfl
  |r i=>rw[hq] at this;exact decide_eq_true (Nat.lt_of_lt_of_le (of_decide_eq_true this) h)
 |_=>rfl
theorem wK{rest:aB}(h:Cl rest) (nd:Node) (hn:dO (rest.length+4) nd=true):Cl (rest++[nd]):=by
 unfold Cl at h ⊢
 rw[List.all_append,List.length_append,List.length_singleton]
 rw[Bool.and_eq_true]
 refine⟨?_,by simpa using hn⟩
 rw[List.all_eq_true] at h ⊢
 exact fun x hx=>Ce (by omega) x (h x hx)
theorem wL(la lb l rest nd):W la lb l (rest++[nd])=W la lb l rest++[nd]:=rfl
theorem Ji(la lb l rest):(W la lb l rest).length=rest.length+3:=rfl
theorem number(la:List PV) (lb:PV) (l:List PV) (hl:Rw l) (rest:aB) (hc:Cl rest) (k:Nat):∃(p:Option (Int×Int)) (l':List PV),FA p/\Rw l'/\call T (k+2) 77 [.r 2] (W la lb l rest)=ok (.t (fP p)) (W la lb l' rest):=by
 obtain⟨i,l1,a1,a2,h1,e1⟩:=ef la lb l hl rest hc [some (.r 2),none,none] 0 rfl 10 (by omega) k
 have hb:(T 77).body=[.assign 1 (.bin .mod (.call 75 [(.var 0)]) (.int 10)),.ifs (.cmp .eq (.var 1) (.int 0)) [.ret .none] [],.ifs (.cmp .lt (.var 1) (.int 8)) [.ret (.tup [(.ite (.cmp .gt (.var 1) (.int 5)) (.bin .sub (.bin .mod (.call 75 [(.var 0)]) (.int 14)) (.int 4)) (.bin .mod (.call 75 [(.var 0)]) (.int 12))),(.int 1)])] [],.ifs (.cmp .eq (.var 1) (.int 8)) [.ret (.sub (.list [(.tup [(.int 0),(.int 0)]),(.tup [(.int 1),(.int 0)]),(.tup [(.neg (.int 1)),(.int 0)])]) (.bin .mod (.call 75 [(.var 0)]) (.int 3)))] [],.assign 2 (.bin .sub (.bin .mod (.call 75 [(.var 0)]) (.int 41)) (.int 10)),.ret (.ite (.cmp .eq (.bin .mod (.var 2) (.int 2)) (.int 0)) (.tup [(.bin .fdiv (.var 2) (.int 2)),(.int 1)]) (.tup [(.var 2),(.int 2)]))]:=rfl
 have fin:∀(p:Option (Int×Int)) (l':List PV) (X:aB),bO (call T (k+1)) ((T 77).body.drop 1) [some (.r 2),some (.t (.int i)),none] (W la lb l1 rest)=some (.ret (.t (fP p)) (W la lb l' rest++X))->call T (k+2) 77 [.r 2] (W la lb l rest)=ok (.t (fP p)) (W la lb l' rest):=by
  intro p l' X h
  refine jV (g:=[some (.r 2),none,none]) (a:=.t (fP p)) (st':=W la lb l' rest++X) rfl rfl rfl ?_ rfl (iY hc _ rfl)
  rw[hb]
  exact bE (g':=[some (.r 2),some (.t (.int i)),none]) (st':=W la lb l1 rest) (by rw[aC,e1];rfl) h
 have hd:(T 77).body.drop 1=[.ifs (.cmp .eq (.var 1) (.int 0)) [.ret .none] [],.ifs (.cmp .lt (.var 1) (.int 8)) [.ret (.tup [(.ite (.cmp .gt (.var 1) (.int 5)) (.bin .sub (.bin .mod (.call 75 [(.var 0)]) (.int 14)) (.int 4)) (.bin .mod (.call 75 [(.var 0)]) (.int 12))),(.int 1)])] [],.ifs (.cmp .eq (.var 1) (.int 8)) [.ret (.sub (.list [(.tup [(.int 0),(.int 0)]),(.tup [(.int 1),(.int 0)]),(.tup [(.neg (.int 1)),(.int 0)])]) (.bin .mod (.call 75 [(.var 0)]) (.int 3)))] [],.assign 2 (.bin .sub (.bin .mod (.call 75 [(.var 0)]) (.int 41)) (.int 10)),.ret (.ite (.cmp .eq (.bin .mod (.var 2) (.int 2)) (.int 0)) (.tup [(.bin .fdiv (.var 2) (.int 2)),(.int 1)]) (.tup [(.var 2),(.int 2)]))]:=rfl
 rw[hd] at fin
 by_cases c0:i=0
 ·exact⟨none,l1,trivial,h1,fin none l1 [] (by rw[List.append_nil];simp only[af,aF,aS,aM,aW,ah,bB,av,ay,aH,bg,aG,aV,cK,ak,cG,cP,dG c0,fP])⟩
 by_cases c8:i<8
 ·by_cases c5:5<i
  ·obtain⟨j,l2,b1,b2,h2,e2⟩:=ef la lb l1 h1 rest hc [some (.r 2),some (.t (.int i)),none] 0 rfl 14 (by omega) k
   refine⟨some (j-4,1),l2,⟨by omega,by omega⟩,h2,fin (some (j-4,1)) l2 [] ?_⟩
   rw[List.append_nil]
   simp only[ah,aM,aG,av,cG,cP,ay,af,bg,aV,cK,fY,dY,bL c0,dG c8,dG c5,aF,ak,bD,aS,aL,au,aW,eG,aq,aA,cL,fZ,b7 (o:=.sub),e2,eO,mJ,bB,fP]
  ·obtain⟨j,l2,b1,b2,h2,e2⟩:=ef la lb l1 h1 rest hc [some (.r 2),some (.t (.int i)),none] 0 rfl 12 (by omega) k
   refine⟨some (j,1),l2,⟨by omega,by omega⟩,h2,fin (some (j,1)) l2 [] ?_⟩
   rw[List.append_nil]
   simp only[ah,aM,aG,av,cG,cP,ay,af,bg,aV,cK,fY,dY,bL c0,dG c8,bL c5,aF,ak,bD,aS,aL,au,aW,eG,aq,aA,cL,gf,e2,mJ,bB,fP]
 by_cases c9:i=8
 ·obtain⟨j,l2,b1,b2,h2,e2⟩:=ef la lb l1 h1 (rest++[.lst [.tup [.int 0,.int 0],.tup [.int 1,.int 0],.tup [.int (-1),.int 0]]]) (wK hc _ rfl) [some (.r 2),some (.t (.int i)),none] 0 rfl 3 (by omega) k
  rw[wL,wL] at e2
  have Tw:ev (call T (k+1)) (.list [(.tup [(.int 0),(.int 0)]),(.tup [(.int 1),(.int 0)]),(.tup [(.neg (.int 1)),(.int 0)])]) [some (.r 2),some (.t (.int i)),none] (W la lb l1 rest)=ok (.r (rest.length+3)) (W la lb l1 rest++[.lst [.tup [.int 0,.int 0],.tup [.int 1,.int 0],.tup [.int (-1),.int 0]]]):=rfl
  have hv:vw (W la lb l2 rest++[.lst [.tup [.int 0,.int 0],.tup [.int 1,.int 0],.tup [.int (-1),.int 0]]]) (.r (rest.length+3))=some (.lst [.tup [.int 0,.int 0],.tup [.int 1,.int 0],.tup [.int (-1),.int 0]]):=by
   rw[cR,<-Ji la lb l2 rest,List.getElem?_concat_length];rfl
  have hi:∃a:Int,sW (W la lb l2 rest++[.lst [.tup [.int 0,.int 0],.tup [.int 1,.int 0],.tup [.int (-1),.int 0]]]) (some (.lst [.tup [.int 0,.int 0],.tup [.int 1,.int 0],.tup [.int (-1),.int 0]])) (some (.int j))=ok (.t (fP (some (a,0)))) (W la lb l2 rest++[.lst [.tup [.int 0,.int 0],.tup [.int 1,.int 0],.tup [.int (-1),.int 0]]]):=by
   have:j=0\/j=1\/j=2:=by omega
   rcases this with h|h|h<;>subst h
   ·exact⟨0,rfl⟩
   ·exact⟨1,rfl⟩
   ·exact⟨-1,rfl⟩
  obtain⟨a,hi⟩:=hi
  refine⟨some (a,0),l2,⟨by omega,by omega⟩,h2,fin (some (a,0)) l2 [.lst [.tup [.int 0,.int 0],.tup [.int 1,.int 0],.tup [.int (-1),.int 0]]] ?_⟩
  simp only[ah,aM,aG,av,cG,cP,ay,af,bg,aV,cK,fY,dY,bL c0,bL c8,dG c9,aF,ak,bD,aS,aL,au,aW,bR,Tw,e2,hv,hi,bB]
 ·obtain⟨j,l2,b1,b2,h2,e2⟩:=ef la lb l1 h1 rest hc [some (.r 2),some (.t (.int i)),none] 0 rfl 41 (by omega) k
  have n2:(2:Int)≠0:=by decide
  have n3:¬((2:Int)=0\/(2:Int).natAbs ≥ 1048576):=by decide
  by_cases c2:(j-10).fmod 2=0
  ·refine⟨some ((j-10).fdiv 2,1),l2,⟨by omega,by omega⟩,h2,fin (some ((j-10).fdiv 2,1)) l2 [] ?_⟩
   rw[List.append_nil]
   simp only[ah,aM,aG,av,cG,cP,List.set_cons_zero,List.set_cons_succ,ay,af,bg,aV,cK,fY,dY,bL c0,bL c8,bL c9,aF,ak,bD,aS,aL,au,aW,aC,b7 (o:=.sub),e2,eO,cL,b7 (o:=.mod),fc _ _ _ n2,dG c2,fZ,eG,aq,aA,b7 (o:=.fdiv),gF _ _ _ n3,mJ,bB,fP]
  ·refine⟨some (j-10,2),l2,⟨by omega,by omega⟩,h2,fin (some (j-10,2)) l2 [] ?_⟩
   rw[List.append_nil]
   simp only[ah,aM,aG,av,cG,cP,List.set_cons_zero,List.set_cons_succ,ay,af,bg,aV,cK,fY,dY,bL c0,bL c8,bL c9,aF,ak,bD,aS,aL,au,aW,aC,b7 (o:=.sub),e2,eO,cL,b7 (o:=.mod),fc _ _ _ n2,bL c2,gf,eG,aq,aA,mJ,bB,fP]
theorem gK{α:Type}{f:PV->aB->R (Option PV)}(P:α->Prop) (enc:α->PV) (la:List PV) (lb:PV) (rest:aB)
  (hf:∀d l,Rw l->∃a l' st',P a/\Rw l'/\f d (W la lb l rest)=some (.ok (some (enc a),st'))/\back (W la lb l rest).length st'=some (W la lb l' rest)) :
  ∀(items l:List PV),Rw l->∃(as:List α) (l':List PV),as.length=items.length/\(∀a∈as,P a)/\Rw l'/\turns f items (W la lb l rest)=ok (as.map enc) (W la lb l' rest)
 |[],l,hl=>⟨[],l,rfl,(fun a h=>by cases h),hl,rfl⟩
 |d::ds,l,hl=>by
  obtain⟨a,l1,st',h1,h2,h3,h4⟩:=hf d l hl
  obtain⟨as,l2,e1,e2,e3,e4⟩:=gK P enc la lb rest hf ds l1 h2
  refine⟨a::as,l2,by rw[List.length_cons,List.length_cons,e1],fun b hb=>?_,e3,?_⟩
  ·cases hb with
   |head=>exact h1
   |tail _ hb=>exact e2 b hb
  ·simp only[turns,h3,h4,e4,af,List.map_cons]
theorem gZ{C:fy}{x:Nat}{src:List E}{c:Option E}{e:E}{g:Gm}{st st1 st2:aB}{as:List AV}{items l:List PV}(h1:gj C src g st=ok as st1) (h3:sR as=some items) (h4:turns (dM C x c e g) items st1=ok l st2) :
  ev C (.cO x src c e) g st=alloc st2 (.lst l):=by
 have q:kN qH (gj C src) g st=ok items st1:=wk h1 h3
 show R.bind (kN qH (gj C src) g st) _=_
 rw[q,af]
 show R.bind (turns (dM C x c e g) items st1) _=_
 rw[h4,af]
theorem iJ(Q:aB) (a:Node) (R':aB):(Q++a::R')[Q.length]? = some a:=by
 rw[List.getElem?_append_right (Nat.le_refl _),Nat.sub_self];rfl
theorem yz(Q:aB) (a b:Node) (R':aB):(Q++a::b::R')[Q.length+1]? = some b:=by
 rw[List.getElem?_append_right (Nat.le_succ _),show Q.length.succ-Q.length=1 by omega];rfl
theorem iK(Q:aB) (a b:Node) (R':aB):(Q++a::R').set Q.length b=Q++b::R':=by
 rw[List.set_append_right _ _ (Nat.le_refl _),Nat.sub_self];rfl
theorem EH(Q:aB) (a b c:Node) (R':aB):(Q++a::b::R').set (Q.length+1) c=Q++a::c::R':=by
 rw[List.set_append_right _ _ (Nat.le_succ _),show Q.length.succ-Q.length=1 by omega];rfl
noncomputable def uJ(o:Option aB) (g:Gm):Option Out:=match o with
  |some st=>some (.next g st)
  |Option.none=>Option.none
theorem i0(C o f e g st):ex C (.setattr o f e) g st=(ev C e g st).out fun a st=>(ev C o g st).out fun b st=>uJ (xr st b f a) g:=rfl
theorem dg(Q:aB) (c:ie) (fs:List (Tx×AV)) (f:Tx) (a:AV) (h:f≠b9):xr (Q++[.inst c fs]) (.r Q.length) f a=some (Q++[.inst c (putK f a fs)]):=by
 simp only[xr,F3,Nk,if_neg h,iJ,iK]
theorem HM(Q:aB) (fs:List (Tx×AV)) (a:AV):xr (Q++[.inst .aJ fs]) (.r Q.length) kP a=some (Q++[.inst .aQ fs]):=by
 simp only[xr,F3,Nk,if_pos (show kP=b9 from rfl),iJ,iK]
theorem lz{T:Nat->Fn}{k f:Nat}{as:List AV}{g g':Gm}{st st':aB}(hr:(T f).ref=true) (ho:(T f).own=true) (hs:(T f).start as=some g) (hb:bO (call T k) (T f).body g st=some (.next g' st')):call T (k+1) f as st=ok (.t .none) st':=by
 show fB (call T k) (T f) as st=_
 simp only[fB,hr,ho,hs]
 show CT true _ (bO (call T k) (T f).body g st)=_
 rw[hb]
 rfl
noncomputable def iV(a b c:AV):Node:=.inst .aQ [(aj,a),(ai,b),(az,c),(aX,.t (.bool false))]
theorem o6(k:Nat) (Q:aB) (a b c:AV):call T (k+1) 2 [.r Q.length,a,b,c] (Q++[.inst .aJ []])=ok (.t .none) (Q++[iV a b c]):=by
 refine lz (g:=[some (.r Q.length),some a,some b,some c]) (g':=[some (.r Q.length),some a,some b,some c]) rfl rfl rfl ?_
 have h1:=dg Q .aJ [] aj a (by decide)
 have h2:=dg Q .aJ [(aj,a)] ai b (by decide)
 have h3:=dg Q .aJ [(aj,a),(ai,b)] az c (by decide)
 have h4:=HM Q [(aj,a),(ai,b),(az,c)] (.t (.bool false))
 have h5:=dg Q .aQ [(aj,a),(ai,b),(az,c)] aX (.t (.bool false)) (by decide)
 rw[show(T 2).body=[.setattr (.var 0) aj (.var 1),.setattr (.var 0) ai (.var 2),.setattr (.var 0) az (.var 3),.setattr (.var 0) kP (.bool false),.setattr (.var 0) aX (.bool false)] from rfl]
 rw[show putK aj a []=[(aj,a)] from rfl] at h1
 rw[show putK ai b [(aj,a)]=[(aj,a),(ai,b)] from rfl] at h2
 rw[show putK az c [(aj,a),(ai,b)]=[(aj,a),(ai,b),(az,c)] from rfl] at h3
 rw[show putK aX (AV.t (.bool false)) [(aj,a),(ai,b),(az,c)]=[(aj,a),(ai,b),(az,c),(aX,.t (.bool false))] from rfl] at h5
 simp only[ah,i0,av,wh,cG,cP,ay,aF,h1,h2,h3,h4,h5,uJ,au,aL]
 rfl
theorem EI(k:Nat) (Q:aB) (a b:AV):call T (k+1) 2 [.r Q.length,a,b] (Q++[.inst .aJ []])=ok (.t .none) (Q++[iV a b (.t .none)]):=o6 k Q a b (.t .none)
theorem nZ(k:Nat) (Q:aB) (X:List PV) (kd:Tx) (l:List E) (g:Gm) (st:aB) (h:gj (call T (k+1)) l g st=ok [.t (.str kd),.r Q.length] (Q++[.lst X])):ev (call T (k+1)) (.new .aJ 2 l) g st=ok (.r (Q.length+1)) (Q++[.lst X,iV (.t (.str kd)) (.r Q.length) (.t .none)]):=by
 have h2:=EI k (Q++[.lst X]) (.t (.str kd)) (.r Q.length)
 have h3:=gJ (C:=call T (k+1)) (c:=.aJ) (f:=2) h h2
 rw[List.length_append,List.append_assoc] at h3
 exact h3
theorem HN(Q:aB) (X:List PV) (kd:Tx):eX (Q++[.lst X,iV (.t (.str kd)) (.r Q.length) (.t .none)]) (.r (Q.length+1))=ok (vec kd X .none) (Q++[.fz (.lst X),.fz (vec kd X .none)]):=by
 have hF:qb 23 (Q++[.lst X,iV (.t (.str kd)) (.r Q.length) (.t .none)]) [(aj,.t (.str kd)),(ai,.r Q.length),(az,.t .none),(aX,.t (.bool false))]=some ([(aj,.str kd),(ai,.lst X),(az,.none),(aX,.bool false)],Q++[.fz (.lst X),iV (.t (.str kd)) (.r Q.length) (.t .none)]):=by
  simp only[qb,i8,iJ,iK]
 have e1:=yz Q (.lst X) (iV (.t (.str kd)) (.r Q.length) (.t .none)) []
 have e2:=yz Q (.fz (.lst X)) (iV (.t (.str kd)) (.r Q.length) (.t .none)) []
 have e3:=EH Q (.fz (.lst X)) (iV (.t (.str kd)) (.r Q.length) (.t .none)) (.fz (vec kd X .none)) []
 rw[iV] at e1 e2 e3 hF ⊢
 have:i8 24 (Q++[.lst X,iV (.t (.str kd)) (.r Q.length) (.t .none)]) (.r (Q.length+1))=some (vec kd X .none,Q++[.fz (.lst X),.fz (vec kd X .none)]):=by
  rw[iV]
  simp only[i8,e1,hF,e2]
  exact congrArg (fun s=>some (vec kd X .none,s)) e3
 rw[iV] at this
 simp only[eX,cT,this]
theorem uK(Q:aB) (c:ie) (a b:Tx) (x y:PV):eX (Q++[.inst c [(a,.t x),(b,.t y)]]) (.r Q.length)=ok (.inst c [(a,x),(b,y)]) (Q++[.fz (.inst c [(a,x),(b,y)])]):=by
 have:i8 24 (Q++[.inst c [(a,.t x),(b,.t y)]]) (.r Q.length)=some (.inst c [(a,x),(b,y)],Q++[.fz (.inst c [(a,x),(b,y)])]):=by
  simp only[i8,iJ,qb,iK,and_self,if_true]
 simp only[eX,cT,this]
theorem uL(k:Nat) (Q:aB):call T (k+1) 0 [.r Q.length] (Q++[.inst .null []])=ok (.t .none) (Q++[.inst .null [(aj,.t (.str bq)),(az,.t .none)]]):=by
 refine lz (g:=[some (.r Q.length)]) (g':=[some (.r Q.length)]) rfl rfl rfl ?_
 have h1:=dg Q .null [] aj (.t (.str bq)) (by decide)
 have h2:=dg Q .null [(aj,.t (.str bq))] az (.t .none) (by decide)
 rw[show(T 0).body=[.setattr (.var 0) aj (.str bq),.setattr (.var 0) az .none] from rfl]
 rw[show putK aj (AV.t (.str bq)) []=[(aj,.t (.str bq))] from rfl] at h1
 rw[show putK az (AV.t .none) [(aj,.t (.str bq))]=[(aj,.t (.str bq)),(az,.t .none)] from rfl] at h2
 simp only[ah,i0,av,bI,aH,cG,ay,aF,h1,h2,uJ,au,aL]
theorem Cf(k:Nat) (Q:aB):call T (k+1) 1 [.r Q.length] (Q++[.inst .missing []])=ok (.t .none) (Q++[.inst .missing [(aj,.t (.str bF)),(az,.t .none)]]):=by
 refine lz (g:=[some (.r Q.length)]) (g':=[some (.r Q.length)]) rfl rfl rfl ?_
 have h1:=dg Q .missing [] aj (.t (.str bF)) (by decide)
 have h2:=dg Q .missing [(aj,.t (.str bF))] az (.t .none) (by decide)
 rw[show(T 1).body=[.setattr (.var 0) aj (.str bF),.setattr (.var 0) az .none] from rfl]
 rw[show putK aj (AV.t (.str bF)) []=[(aj,.t (.str bF))] from rfl] at h1
 rw[show putK az (AV.t .none) [(aj,.t (.str bF))]=[(aj,.t (.str bF)),(az,.t .none)] from rfl] at h2
 simp only[ah,i0,av,bI,aH,cG,ay,aF,h1,h2,uJ,au,aL]
noncomputable def uM(i n:Int) (x5:Option AV):Gm:=[some (.r 2),some (.t (.int i)),some (.t (.int n)),none,none,x5,none,none,none]
theorem PN{n:Int}(h1:0<=n) (h2:n<10):sR [.t (.int n)]=some (cI 0 n)/\(cI 0 n).length<10:=by
 refine⟨?_,by unfold cI;simp;omega⟩
 show(if -2000<=n/\n<=2000 then some (cI 0 n) else none)=_
 rw[if_pos ⟨by omega,by omega⟩]
theorem wM(la:List PV) (lb:PV) (rest:aB) (hc:Cl rest) (k:Nat) (i n:Int) (d:PV) (l:List PV) (hl:Rw l) :
  ∃(a:Option Int) (l':List PV) (st':aB),(∀v,a=some v->v=0\/v=1)/\Rw l'/\dM (call T (k+1)) 3 none (.sub (.list [(.int 1),(.int 0),.none]) (.bin .mod (.call 75 [(.var 0)]) (.int 3))) (uM i n none) d (W la lb l rest)=some (.ok (some (iZ a),st'))/\back (W la lb l rest).length st'=some (W la lb l' rest):=by
 obtain⟨j,l2,b1,b2,h2,e2⟩:=ef la lb l hl (rest++[.lst [.int 1,.int 0,.none]]) (wK hc _ rfl) ((uM i n none).set 3 (some (.t d))) 0 rfl 3 (by omega) k
 rw[wL,wL] at e2
 have Tw:ev (call T (k+1)) (.list [(.int 1),(.int 0),.none]) ((uM i n none).set 3 (some (.t d))) (W la lb l rest)=ok (.r (rest.length+3)) (W la lb l rest++[.lst [.int 1,.int 0,.none]]):=rfl
 have hv:vw (W la lb l2 rest++[.lst [.int 1,.int 0,.none]]) (.r (rest.length+3))=some (.lst [.int 1,.int 0,.none]):=by
  rw[cR,<-Ji la lb l2 rest,List.getElem?_concat_length];rfl
 have hi:∃a:Option Int,(∀v,a=some v->v=0\/v=1)/\sW (W la lb l2 rest++[.lst [.int 1,.int 0,.none]]) (some (.lst [.int 1,.int 0,.none])) (some (.int j))=ok (.t (iZ a)) (W la lb l2 rest++[.lst [.int 1,.int 0,.none]]):=by
  have:j=0\/j=1\/j=2:=by omega
  rcases this with h|h|h<;>subst h
  ·exact⟨some 1,(fun v e=>by(injection e with e;subst e);exact .inr rfl),rfl⟩
  ·exact⟨some 0,(fun v e=>by(injection e with e;subst e);exact .inl rfl),rfl⟩
  ·exact⟨none,(fun v e=>by injection e),rfl⟩
 obtain⟨a,ha,hi⟩:=hi
 refine⟨a,l2,W la lb l2 rest++[.lst [.int 1,.int 0,.none]],ha,h2,?_,iY hc _ rfl⟩
 unfold dM
 simp only[j9,af,if_true,bR,Tw,e2,hv,aV,hi,dH]
theorem pW(la:List PV) (lb:PV) (rest:aB) (hc:Cl rest) (k x:Nat) (i n:Int) (Kr:∀d,((uM i n none).set x (some (.t d)))[0]? = some (some (.r 2))) (d:PV) (l:List PV) (hl:Rw l) :
  ∃(a:Option (Int×Int)) (l':List PV) (st':aB),FA a/\Rw l'/\dM (call T (k+2)) x none (.call 77 [(.var 0)]) (uM i n none) d (W la lb l rest)=some (.ok (some (fP a),st'))/\back (W la lb l rest).length st'=some (W la lb l' rest):=by
 obtain⟨p,l',h1,h2,h3⟩:=number la lb l hl rest hc k
 refine⟨p,l',W la lb l' rest,h1,h2,?_,by have:=iY (la:=la) (lb:=lb) (l:=l') hc [] (n:=(W la lb l rest).length) rfl;rwa [List.append_nil] at this⟩
 unfold dM
 simp only[j9,af,if_true,bW,aq,aA,av,Kr,ay,h3,dH]
theorem Cg(la:List PV) (lb:PV) (rest:aB) (hc:Cl rest) (k x:Nat) (g:Gm) (y:Nat) (Kr:∀d,(g.set x (some (.t d)))[y]? = some (some (.r 2))) (d:PV) (l:List PV) (hl:Rw l) :
  ∃(a:Option Tx) (l':List PV) (st':aB),nY a/\Rw l'/\dM (call T (k+2)) x none (.call 76 [(.var y)]) g d (W la lb l rest)=some (.ok (some (aD a),st'))/\back (W la lb l rest).length st'=some (W la lb l' rest):=by
 obtain⟨p,l',h1,h2,h3⟩:=text la lb l hl rest hc k
 refine⟨p,l',W la lb l' rest,h1,h2,?_,by have:=iY (la:=la) (lb:=lb) (l:=l') hc [] (n:=(W la lb l rest).length) rfl;rwa [List.append_nil] at this⟩
 unfold dM
 simp only[j9,af,if_true,bW,aq,aA,av,Kr,ay,h3,dH]
noncomputable def qf:Option (Int×Int)->Option Int
 |none=>none
 |some (a,b)=>if b=1 then some a else none
theorem EJ(C:fy) (g:Gm) (hg:g.length=9) (ps:List (Option (Int×Int))) (st:aB) (hb:back st.length st=some st) :
  turns (dM C 6 none (.ite (.or [(.cmp .is (.var 6) .none),(.cmp .ne (.sub (.var 6) (.int 1)) (.int 1))]) .none (.sub (.var 6) (.int 0))) g) (ps.map fP) st=ok (ps.map fun p=>iZ (qf p)) st:=by
 refine lT fP (fun p=>iZ (qf p)) ps fun a _=>⟨st,?_,hb⟩
 have hx:6<g.length:=by omega
 unfold dM
 match a with
 |none=>simp only[af,av,ay,aH,aG,aV,bk,isNone_none,ak,dD,dF,j8,cL,fZ,dH,j9,qc,if_true,List.getElem?_set_self hx,fP,qf]
 |some (a,b) =>
  by_cases h:b=1
  ·simp only[af,av,ay,aH,bg,aG,aV,bk,gW,e8,ak,dD,fD,dF,e9,cL,gf,dH,bR,nM,gO,j9,jo,l0,if_true,List.getElem?_set_self hx,fP,qf,dG h,c6 h]
  ·simp only[af,av,ay,aH,bg,aG,aV,bk,gW,e8,ak,dD,fD,dF,e9,cL,fZ,dH,bR,gO,j9,iE,qc,if_true,List.getElem?_set_self hx,fP,qf,bL h,l9 h]
theorem n5{k:Nat}{l l':List PV}{la:List PV}{lb:PV}{rest:aB}(hc:Cl rest) (kd:Tx) (X:List PV) (D:aB)
  (hb:bO (call T (k+1)) (T 78).body [some (.r 2),none,none,none,none,none,none,none,none] (W la lb l rest)=some (.ret (.r ((W la lb l' rest++D).length+1)) ((W la lb l' rest++D)++[.lst X,iV (.t (.str kd)) (.r (W la lb l' rest++D).length) (.t .none)]))) :
  call T (k+2) 78 [.r 2] (W la lb l rest)=ok (.t (vec kd X .none)) (W la lb l' rest):=by
 refine jV (g:=[some (.r 2),none,none,none,none,none,none,none,none]) rfl rfl rfl hb (HN _ X kd) ?_
 rw[List.append_assoc]
 exact iY hc _ rfl
theorem sE{C:fy}{c e:E}{r:List S}{g:Gm}{st st1:aB}{t:AV}(hc:ev C c g st=ok (.t (.bool true)) st) (he:ev C e g st=ok t st1):bO C (.ifs c [.ret e] []::r) g st=some (.ret t st1):=by
 refine bU hc rfl (o:=some (.ret t st1)) ?_ rfl
 rw[ah,aW,he];rfl
noncomputable def mP(la:List PV) (lb:PV) (l l2:List PV) (rest:aB) (k:Nat) (n i:Int):Prop:=∀{o:Option Out},bO (call T (k+2)) ((T 78).body.drop 2) (uM i n none) (W la lb l2 rest)=o->bO (call T (k+2)) (T 78).body [some (.r 2),none,none,none,none,none,none,none,none] (W la lb l rest)=o
noncomputable def pX(la:List PV) (lb:PV) (l:List PV) (rest:aB) (k:Nat):Prop:=∃(ix:Ix) (l':List PV),ix.ok/\Rw l'/\call T (k+3) 78 [.r 2] (W la lb l rest)=ok (.t ix.pv) (W la lb l' rest)
theorem mP.pre{la:List PV}{lb:PV}{l l2:List PV}{rest:aB}{k:Nat}{n i:Int}(s2:mP la lb l l2 rest k n i) (j:Nat){o:Option Out}(hp:bO (call T (k+2)) (((T 78).body.drop 2).take j) (uM i n none) (W la lb l2 rest)=some (.next (uM i n none) (W la lb l2 rest))) (h:bO (call T (k+2)) (((T 78).body.drop 2).drop j) (uM i n none) (W la lb l2 rest)=o) :
  bO (call T (k+2)) (T 78).body [some (.r 2),none,none,none,none,none,none,none,none] (W la lb l rest)=o:=s2 (aN j hp h)
theorem YC{la:List PV}{lb:PV}{l l2:List PV}{rest:aB}{k:Nat}{n:Int}(hc:Cl rest) (h2:Rw l2) (s2:mP la lb l l2 rest k n 0):pX la lb l rest k:=by
 refine⟨.missing,l2,trivial,h2,jV (g:=[some (.r 2),none,none,none,none,none,none,none,none]) rfl rfl rfl (s2.pre 0 (by kernel_rfl) ?_) (uK (W la lb l2 rest) .missing aj az (.str bF) .none) (iY hc _ rfl)⟩
 exact sE (c:=.cmp .eq (.var 1) (.int 0)) (e:=.new .missing 1 []) (by kernel_rfl) (gJ (st1:=W la lb l2 rest) rfl (Cf _ _))
theorem YD{la:List PV}{lb:PV}{l l2:List PV}{rest:aB}{k:Nat}{n:Int}(hc:Cl rest) (h2:Rw l2) (s2:mP la lb l l2 rest k n 1):pX la lb l rest k:=by
 refine⟨.null,l2,trivial,h2,jV (g:=[some (.r 2),none,none,none,none,none,none,none,none]) rfl rfl rfl (s2.pre 1 (by kernel_rfl) ?_) (uK (W la lb l2 rest) .null aj az (.str bq) .none) (iY hc _ rfl)⟩
 exact sE (c:=.cmp .eq (.var 1) (.int 1)) (e:=.new .null 0 []) (by kernel_rfl) (gJ (st1:=W la lb l2 rest) rfl (uL _ _))
theorem YE{la:List PV}{lb:PV}{l l2:List PV}{rest:aB}{k:Nat}{n:Int}(hc:Cl rest) (h2:Rw l2) (hr:sR [.t (.int n)]=some (cI 0 n)) (hn:(cI 0 n).length<10) (s2:mP la lb l l2 rest k n 2):pX la lb l rest k:=by
 have s7:∀x,gj (call T (k+2)) [.var 2] (uM 2 n x) (W la lb l2 rest)=ok [.t (.int n)] (W la lb l2 rest):=fun x=>rfl
 obtain⟨as,l3,c1,c2,c3,c4⟩:=gK (fun a:Option Int=>∀v,a=some v->v=0\/v=1) iZ la lb rest (wM la lb rest hc (k+1) 2 n) (cI 0 n) l2 h2
 have sF:=gZ (s7 none) hr c4
 refine⟨.logical as,l3,⟨by omega,fun v hv=>c2 _ hv v rfl⟩,c3,n5 hc bw (as.map iZ) [] (s2.pre 2 (by kernel_rfl) ?_)⟩
 rw[List.append_nil]
 refine sE (c:=.cmp .eq (.var 1) (.int 2)) (e:=.new .aJ 2 [(.str bw),(.cO 3 [(.var 2)] none (.sub (.list [(.int 1),(.int 0),.none]) (.bin .mod (.call 75 [(.var 0)]) (.int 3))))]) (by kernel_rfl) (nZ (k+1) (W la lb l3 rest) (as.map iZ) bw _ _ _ ?_)
 simp only[aq,aA,bI,af,sF,bS]
theorem YF{la:List PV}{lb:PV}{l l2:List PV}{rest:aB}{k:Nat}{n:Int}(hc:Cl rest) (h2:Rw l2) (hr:sR [.t (.int n)]=some (cI 0 n)) (hn:(cI 0 n).length<10) (s2:mP la lb l l2 rest k n 3):pX la lb l rest k:=by
 have s7:∀x,gj (call T (k+2)) [.var 2] (uM 3 n x) (W la lb l2 rest)=ok [.t (.int n)] (W la lb l2 rest):=fun x=>rfl
 obtain⟨as,l3,c1,c2,c3,c4⟩:=gK FA fP la lb rest (fun d l=>pW la lb rest hc k 4 3 n (fun d=>rfl) d l) (cI 0 n) l2 h2
 have sF:=gZ (s7 none) hr c4
 have hb:back (W la lb l3 rest++[Node.fz (.lst (as.map fP))]).length (W la lb l3 rest++[Node.fz (.lst (as.map fP))])=some (W la lb l3 rest++[Node.fz (.lst (as.map fP))]):=by
  have h:=iY (la:=la) (lb:=lb) (l:=l3) (wK hc (.fz (.lst (as.map fP))) rfl) [] (n:=(rest++[Node.fz (.lst (as.map fP))]).length+3) rfl
  rw[List.append_nil] at h;exact h
 have JU:=EJ (call T (k+2)) (uM 3 n (some (.r (W la lb l3 rest).length))) rfl as _ hb
 have hf:eX (W la lb l3 rest++[Node.lst (as.map fP)]) (.r (W la lb l3 rest).length)=ok (.lst (as.map fP)) (W la lb l3 rest++[Node.fz (.lst (as.map fP))]):=by
  simp only[eX,cT,i8,iJ,iK]
 have Lw:=dW (C:=call T (k+2)) (x:=6) (src:=.var 5) (c:=none) (g:=uM 3 n (some (.r (W la lb l3 rest).length))) (st:=W la lb l3 rest++[Node.lst (as.map fP)]) (st1:=W la lb l3 rest++[Node.lst (as.map fP)]) rfl hf rfl JU
 refine⟨.integer (as.map qf),l3,show(as.map qf).length<1000 by rw[List.length_map];omega,c3,?_⟩
 rw[show(Ix.integer (as.map qf)).pv=vec aa (as.map fun p=>iZ (qf p)) .none by show vec aa ((as.map qf).map iZ) .none=_;rw[List.map_map];rfl]
 refine n5 hc aa (as.map fun p=>iZ (qf p)) [.fz (.lst (as.map fP))] (s2.pre 3 (by kernel_rfl) ?_)
 rw[show((T 78).body.drop 2).drop 3=.ifs (.cmp .eq (.var 1) (.int 3)) [.assign 5 (.cO 4 [(.var 2)] none (.call 77 [(.var 0)])),.ret (.new .aJ 2 [(.str aa),(.comp 6 (.var 5) none (.ite (.or [(.cmp .is (.var 6) .none),(.cmp .ne (.sub (.var 6) (.int 1)) (.int 1))]) .none (.sub (.var 6) (.int 0))))])] []::((T 78).body.drop 2).drop 4 from rfl]
 refine bU (st1:=W la lb l2 rest) (t:=.t (.bool true)) (by kernel_rfl) rfl (bE (g':=uM 3 n (some (.r (W la lb l3 rest).length))) (st':=W la lb l3 rest++[Node.lst (as.map fP)]) (by rw[aC,sF,bS];rfl) ?_) (o:=some (.ret _ _)) rfl
 have hn:=nZ (k+1) (W la lb l3 rest++[Node.fz (.lst (as.map fP))]) (as.map fun p=>iZ (qf p)) aa [(.str aa),(.comp 6 (.var 5) none (.ite (.or [(.cmp .is (.var 6) .none),(.cmp .ne (.sub (.var 6) (.int 1)) (.int 1))]) .none (.sub (.var 6) (.int 0))))] (uM 3 n (some (.r (W la lb l3 rest).length))) (W la lb l3 rest++[Node.lst (as.map fP)]) (by
  simp only[aq,aA,bI,af,Lw,bS])
 rw[ah,aW,hn];rfl
theorem YG{la:List PV}{lb:PV}{l l2:List PV}{rest:aB}{k:Nat}{n:Int}(hc:Cl rest) (h2:Rw l2) (hr:sR [.t (.int n)]=some (cI 0 n)) (hn:(cI 0 n).length<10) (s2:mP la lb l l2 rest k n 4):pX la lb l rest k:=by
 have s7:∀x,gj (call T (k+2)) [.var 2] (uM 4 n x) (W la lb l2 rest)=ok [.t (.int n)] (W la lb l2 rest):=fun x=>rfl
 obtain⟨as,l3,c1,c2,c3,c4⟩:=gK FA fP la lb rest (fun d l=>pW la lb rest hc k 7 4 n (fun d=>rfl) d l) (cI 0 n) l2 h2
 have sF:=gZ (s7 none) hr c4
 refine⟨.eK as,l3,⟨by omega,c2⟩,c3,n5 hc aY (as.map fP) [] (s2.pre 4 (by kernel_rfl) ?_)⟩
 rw[List.append_nil]
 refine sE (c:=.cmp .eq (.var 1) (.int 4)) (e:=.new .aJ 2 [(.str aY),(.cO 7 [(.var 2)] none (.call 77 [(.var 0)]))]) (by kernel_rfl) (nZ (k+1) (W la lb l3 rest) (as.map fP) aY _ _ _ ?_)
 simp only[aq,aA,bI,af,sF,bS]
theorem YH{la:List PV}{lb:PV}{l l2:List PV}{rest:aB}{k:Nat}{n:Int}(hc:Cl rest) (h2:Rw l2) (hr:sR [.t (.int n)]=some (cI 0 n)) (hn:(cI 0 n).length<10) (s2:mP la lb l l2 rest k n 5):pX la lb l rest k:=by
 have s7:∀x,gj (call T (k+2)) [.var 2] (uM 5 n x) (W la lb l2 rest)=ok [.t (.int n)] (W la lb l2 rest):=fun x=>rfl
 obtain⟨as,l3,c1,c2,c3,c4⟩:=gK nY aD la lb rest (fun d l=>Cg la lb rest hc k 8 (uM 5 n none) 0 (fun d=>rfl) d l) (cI 0 n) l2 h2
 have sF:=gZ (s7 none) hr c4
 refine⟨.character as,l3,show as.length<1000 by omega,c3,n5 hc ao (as.map aD) [] (s2.pre 5 (by kernel_rfl) ?_)⟩
 rw[List.append_nil]
 refine sE (c:=.cmp .eq (.var 1) (.int 5)) (e:=.new .aJ 2 [(.str ao),(.cO 8 [(.var 2)] none (.call 76 [(.var 0)]))]) (by kernel_rfl) (nZ (k+1) (W la lb l3 rest) (as.map aD) ao _ _ _ ?_)
 simp only[aq,aA,bI,af,sF,bS]
theorem YI{la:List PV}{lb:PV}{l l2:List PV}{rest:aB}{k:Nat}{n:Int}(hc:Cl rest) (h2:Rw l2) (s2:mP la lb l l2 rest k n 6):pX la lb l rest k:=by
 refine⟨.list,l2,trivial,h2,n5 hc aE [] [] (s2.pre 6 (by kernel_rfl) ?_)⟩
 rw[List.append_nil]
 show bO _ [.ret (.new .aJ 2 [(.str aE),(.list [])])] _ _=_
 have hn:=nZ (k+1) (W la lb l2 rest) [] aE [(.str aE),(.list [])] (uM 6 n none) (W la lb l2 rest) rfl
 rw[ah,aW,hn];rfl
theorem index(la:List PV) (lb:PV) (l:List PV) (hl:Rw l) (rest:aB) (hc:Cl rest) (k:Nat):∃(ix:Ix) (l':List PV),ix.ok/\Rw l'/\call T (k+3) 78 [.r 2] (W la lb l rest)=ok (.t ix.pv) (W la lb l' rest):=by
 obtain⟨i,l1,a1,a2,h1,e1⟩:=ef la lb l hl rest hc [some (.r 2),none,none,none,none,none,none,none,none] 0 rfl 7 (by omega) (k+1)
 obtain⟨n,l2,b1,b2,h2,e2⟩:=ef la lb l1 h1 rest hc [some (.r 2),some (.t (.int i)),none,none,none,none,none,none,none] 0 rfl 10 (by omega) (k+1)
 have hr:=PN b1 b2
 have all:∀i:Int,0<=i->i<7->mP la lb l l2 rest k n i->pX la lb l rest k :=
  fN (n:=6) (fN (n:=5) (fN (n:=4) (fN (n:=3) (fN (n:=2) (fN (n:=1) (fN (n:=0) EG (YC hc h2)) (YD hc h2)) (YE hc h2 hr.1 hr.2)) (YF hc h2 hr.1 hr.2)) (YG hc h2 hr.1 hr.2)) (YH hc h2 hr.1 hr.2)) (YI hc h2)
 refine all i a1 a2 fun{o} h=>?_
 rw[show(T 78).body=.assign 1 (.bin .mod (.call 75 [(.var 0)]) (.int 7))::.assign 2 (.bin .mod (.call 75 [(.var 0)]) (.int 10))::(T 78).body.drop 2 from rfl]
 refine bE (g':=[some (.r 2),some (.t (.int i)),none,none,none,none,none,none,none]) (st':=W la lb l1 rest) (by rw[aC,e1];rfl) ?_
 exact bE (g':=uM i n none) (st':=W la lb l2 rest) (by rw[aC,e2];rfl) h
theorem EK{l:List PV}(h:Rw l){i:Int}(h1:0<=i) (h2:i<1024):Rw (l++[.int i]):=by
 intro d hd
 rcases List.mem_append.mp hd with hd|hd
 ·exact h d hd
 ·cases hd with
  |head=>exact⟨i,rfl,h1,h2⟩
  |tail _ q=>cases q
noncomputable def EL:List S:=[.ifs (.cmp .gt (.var 3) (.int 0)) [.expr (.b4 .append (.var 1) [(.bin .mod (.var 3) (.int 1024))]),.assign 3 (.bin .fdiv (.var 3) (.int 1024))] []]
noncomputable def MO:List S:=[.assign 3 (.ite (.cmp .ge (.var 2) (.int 0)) (.var 2) (.bin .sub (.int 7) (.var 2))),.expr (.b4 .append (.var 1) [(.bin .mod (.var 3) (.int 1024))]),.assign 3 (.bin .fdiv (.var 3) (.int 1024)),.forR 4 [(.int 30)] EL]
theorem c1:(1024:Int)≠0:=by decide
theorem c2:¬((1024:Int)=0\/(1024:Int).natAbs ≥ 1048576):=by decide
noncomputable def yV(s c:PV) (m8:Int) (y:Option AV):Gm:=[some (.t s),some (.r 0),some (.t c),some (.t (.int m8)),y]
theorem wN(s c m8 y):yV s c m8 y=[some (.t s),some (.r 0),some (.t c),some (.t (.int m8)),y]:=rfl
theorem yC{a:Int}(h:0<=a):0<=a.fdiv 1024:=Int.fdiv_nonneg h (by decide)
theorem HO(C:fy) (s c lb:PV) (m8:Int) (h0:0<=m8) (found:List PV) (hf:Rw found) (hl:found.length<2000) (y:AV) :
  ∃(lA:Int) (c7:List PV),0<=lA/\Rw c7/\c7.length<=found.length+1/\bO C EL (yV s c m8 (some y)) [.lst found,.fz lb]=some (.next (yV s c lA (some y)) [.lst c7,.fz lb]):=by
 unfold EL
 by_cases h:0<m8
 ·have hr:=jW h0 (show(0:Int)<1024 by decide)
  refine⟨m8.fdiv 1024,found++[.int (m8.fmod 1024)],yC h0,EK hf hr.1 hr.2,by simp,?_⟩
  simp only[af,aF,aS,aM,bx,aC,ah,aL,au,av,ay,bg,aG,aV,cR,bX,dY,ak,aA,aq,br,bu,aU,aZ,cM,bf,bV,b7,cG,cP,List.set_cons_zero,List.set_cons_succ,wN,dG h,fc _ _ _ c1,gF _ _ _ c2,c6 hl]
 ·refine⟨m8,found,h0,hf,by omega,?_⟩
  simp only[af,aF,bD,aM,ah,aL,au,av,ay,bg,aG,aV,dY,ak,cG,cP,wN,bL h]
noncomputable def Lx(y:Option AV):Prop:=y=none\/∃d,y=some (AV.t d)
theorem HP(C:fy) (s c lb:PV) (m8:Int) (h0:0<=m8) (found:List PV) (hf:Rw found) (hl:found.length<=1300) (y:Option AV) (hy:Lx y) :
  ∃(lA:Int) (c7:List PV) (y':Option AV),Rw c7/\c7.length<=found.length+30/\Lx y'/\ex C (.forR 4 [(.int 30)] EL) (yV s c m8 y) [.lst found,.fz lb]=some (.next (yV s c lA y') [.lst c7,.fz lb]):=by
 obtain⟨g',st',h1,lA,c7,y',i1,i2,i3,i4,rfl,rfl⟩:=dK (f:=bO C EL) (x:=4) (n:=2) (fun(k:Nat)=>PV.int k)
  (fun pre g st=>∃(lA:Int) (c7:List PV) (y':Option AV),0<=lA/\Rw c7/\c7.length<=found.length+pre.length/\Lx y'/\g=yV s c lA y'/\st=[.lst c7,.fz lb])
  (List.range 30) (yV s c m8 y) [.lst found,.fz lb] ⟨m8,found,y,h0,hf,by simp,hy,rfl,rfl⟩ (by
   rintro p b q g st e ⟨lA,c7,y',i1,i2,i3,i4,rfl,rfl⟩
   have hp:p.length<30:=by have:=congrArg List.length e;simp at this;omega
   obtain⟨f2,fd2,j1,j2,j3,j4⟩:=HO C s c lb lA i1 c7 i2 (by omega) (.t (.int b))
   exact⟨yV s c f2 (some (.t (.int b))),[.lst fd2,.fz lb],⟨_,_,.inl j4,rfl⟩,f2,fd2,_,j1,j2,by simp;omega,.inr ⟨_,rfl⟩,rfl,rfl⟩)
 exact⟨lA,c7,y',i2,by simpa using i3,i4,kZ (st1:=[.lst found,.fz lb]) (as:=[.t (.int (30:Nat))]) rfl (nP (by omega)) h1⟩
theorem Ly(C:fy) (s lb:PV) (c:Int) (found:List PV) (hf:Rw found) (hl:found.length<=1260) (x y:Option AV) (hy:Lx y) :
  ∃(lA:Int) (c7:List PV) (y':Option AV),Rw c7/\c7.length<=found.length+31/\Lx y'/\bO C MO [some (.t s),some (.r 0),some (.t (.int c)),x,y] [.lst found,.fz lb]=some (.next (yV s (.int c) lA y') [.lst c7,.fz lb]):=by
 have key:∀m8:Int,0<=m8->ev C (.ite (.cmp .ge (.var 2) (.int 0)) (.var 2) (.bin .sub (.int 7) (.var 2))) [some (.t s),some (.r 0),some (.t (.int c)),x,y] [.lst found,.fz lb]=ok (.t (.int m8)) [.lst found,.fz lb] ->
   ∃(lA:Int) (c7:List PV) (y':Option AV),Rw c7/\c7.length<=found.length+31/\Lx y'/\bO C MO [some (.t s),some (.r 0),some (.t (.int c)),x,y] [.lst found,.fz lb]=some (.next (yV s (.int c) lA y') [.lst c7,.fz lb]):=by
  intro m8 h0 he
  have hr:=jW h0 (show(0:Int)<1024 by decide)
  have YJ:found.length<2000:=by omega
  obtain⟨lA,c7,y',i1,i2,i4,i3⟩:=HP C s (.int c) lb (m8.fdiv 1024) (yC h0) (found++[.int (m8.fmod 1024)]) (EK hf hr.1 hr.2) (by simp;omega) y hy
  refine⟨lA,c7,y',i1,by simp at i2;omega,i4,?_⟩
  have e1:ex C (.assign 3 (.ite (.cmp .ge (.var 2) (.int 0)) (.var 2) (.bin .sub (.int 7) (.var 2)))) [some (.t s),some (.r 0),some (.t (.int c)),x,y] [.lst found,.fz lb]=some (.next (yV s (.int c) m8 y) [.lst found,.fz lb]):=by
   rw[aC,he];rfl
  have e2:ex C (.expr (.b4 .append (.var 1) [(.bin .mod (.var 3) (.int 1024))])) (yV s (.int c) m8 y) [.lst found,.fz lb]=some (.next (yV s (.int c) m8 y) [.lst (found++[.int (m8.fmod 1024)]),.fz lb]):=by
   simp only[af,aF,bx,av,ay,bg,aV,cR,bX,aA,aq,br,bu,aU,aZ,cM,bf,bV,b7,cG,cP,List.set_cons_zero,wN,fc _ _ _ c1,c6 YJ]
  have e3:ex C (.assign 3 (.bin .fdiv (.var 3) (.int 1024))) (yV s (.int c) m8 y) [.lst (found++[.int (m8.fmod 1024)]),.fz lb]=some (.next (yV s (.int c) (m8.fdiv 1024) y) [.lst (found++[.int (m8.fmod 1024)]),.fz lb]):=by
   simp only[af,aF,aC,av,ay,bg,aV,b7,cG,cP,List.set_cons_zero,List.set_cons_succ,wN,gF _ _ _ c2]
  rw[MO,ah,e1,au,ah,e2,au,ah,e3,au,ah,i3,au,aL]
 by_cases h:0<=c
 ·exact key c h (by simp only[af,av,ay,bg,aG,aV,eE,ak,cL,fZ,cG,cP,dG h])
 ·exact key (7-c) (by omega) (by simp only[af,av,ay,bg,aG,aV,eE,ak,cL,gf,b7,eO,cG,cP,bL h])
noncomputable def gR(zs:List Int) (a b c:Option AV):Gm:=[some (.t (.lst (zs.map PV.int))),some (.r 0),a,b,c]
theorem EM(l:List PV) (n:Nat):cut l none (some (n:Int))=l.take n:=by
 show(l.take ((n:Int).toNat)).drop 0=_
 rw[Int.toNat_natCast];rfl
theorem HQ(k:Nat) (zs:List Int):∃(la:List PV) (lb:PV) (l:List PV),Rw l/\call T (k+1) 74 [.t (.lst (zs.map PV.int))] []=ok (.r 2) (W la lb l []):=by
 obtain⟨g',st',h1,found,x,y,z,i1,i2,i3,rfl,rfl⟩:=dK (f:=bO (call T k) MO) (x:=2) (n:=2) PV.int
  (fun pre g st=>∃(found:List PV) (x y z:Option AV),Rw found/\found.length<=31*pre.length/\Lx z/\g=gR zs x y z/\st=[.lst found,.fz (.lst ((zs.take 40).map PV.int))])
  (zs.take 40) (gR zs none none none) [.lst [],.fz (.lst ((zs.take 40).map PV.int))] ⟨[],none,none,none,(fun d h=>by cases h),by simp,.inl rfl,rfl,rfl⟩ (by
   rintro p b q g st e ⟨found,x,y,z,i1,i2,i3,rfl,rfl⟩
   have hp:p.length<40:=by
    have h1:=congrArg List.length e
    have h2:(zs.take 40).length<=40:=by rw[List.length_take];omega
    simp at h1;omega
   obtain⟨f2,fd2,y2,j1,j2,j4,j3⟩:=Ly (call T k) (.lst (zs.map PV.int)) (.lst ((zs.take 40).map PV.int)) b found i1 (by omega) y z i3
   have hy:settle 2 (yV (.lst (zs.map PV.int)) (.int b) f2 y2) [.lst fd2,.fz (.lst ((zs.take 40).map PV.int))]=some (gR zs (some (.t (.int b))) (some (.t (.int f2))) y2,[.lst fd2,.fz (.lst ((zs.take 40).map PV.int))]):=by
    rcases j4 with rfl|⟨d,rfl⟩<;>rfl
   exact⟨_,_,⟨_,_,.inl j3,hy⟩,fd2,_,_,y2,j1,by simp;omega,j4,rfl,rfl⟩)
 have hb:(T 74).body=[.assign 1 (.list []),.gp 2 (.slice (.var 0) none (some (.int 40))) MO,.assign 1 (.slice (.var 1) none (some (.int 160))),.expr (.b4 .reverse (.var 1) []),.ret (.var 1)]:=rfl
 have Tz:cut (zs.map PV.int) none (some 40)=(zs.take 40).map PV.int:=by rw[show(40:Int)=((40:Nat):Int) from rfl,EM,List.map_take]
 have RM:ev (call T k) (.slice (.var 0) none (some (.int 40))) (gR zs none none none) [.lst []]=ok (.r 1) [.lst [],.lst ((zs.take 40).map PV.int)]:=by
  rw[<-Tz];rfl
 have hF:=eS (C:=call T k) (x:=2) (src:=.slice (.var 0) none (some (.int 40))) (body:=MO) (g:=gR zs none none none) (st:=[.lst []]) (st2:=[.lst [],.fz (.lst ((zs.take 40).map PV.int))]) (items:=(zs.take 40).map PV.int) RM rfl rfl h1
 have hR:Rw (cut found none (some 160)).reverse:=by
  intro d hd
  rw[List.mem_reverse,show(160:Int)=((160:Nat):Int) from rfl,EM] at hd
  exact i1 d (List.mem_of_mem_take hd)
 refine⟨found,.lst ((zs.take 40).map PV.int),(cut found none (some 160)).reverse,hR,lV (g:=gR zs none none none |>.set 1 none) rfl rfl rfl ?_⟩
 rw[hb]
 refine bE (g':=gR zs none none none) (st':=[.lst []]) rfl (bE hF ?_)
 kernel_rfl
abbrev Ve:=Nat->Option AV
noncomputable def bM(v:Ve) (i:Nat) (d:PV):Ve:=fun j=>cond (Nat.beq j i) (some (.t d)) (v j)
noncomputable def Gv(n:Nat) (v:Ve):Gm:=(List.range n).map v
theorem Gv.get{n i:Nat}{v:Ve}(h:Nat.blt i n=true):(Gv n v)[i]? = some (v i):=by
 unfold Gv
 rw[List.getElem?_map,List.getElem?_range (Nat.le_of_ble_eq_true h)];rfl
theorem Gv.set{n x:Nat}{v:Ve}{d:PV}:(Gv n v).set x (some (.t d))=Gv n (bM v x d):=List.ext_getElem? fun i=>by
 by_cases hi:i<n
 ·have hb:Nat.blt i n=true:=Nat.ble_eq_true_of_le hi
  rw[Gv.get hb,List.getElem?_set,Gv.get hb]
  unfold bM
  by_cases q:x=i
  ·rw[if_pos q,if_pos (by unfold Gv;rw[List.length_map,List.length_range];exact q▸hi),q,Nat.beq_refl];rfl
  ·rw[if_neg q,show Nat.beq i x=false from Bool.eq_false_iff.mpr fun h=>q (Nat.eq_of_beq_eq_true h).symm];rfl
 ·rw[List.getElem?_eq_none (by rw[List.length_set];unfold Gv;rw[List.length_map,List.length_range];exact Nat.le_of_not_lt hi),List.getElem?_eq_none (by unfold Gv;rw[List.length_map,List.length_range];exact Nat.le_of_not_lt hi)]
noncomputable def Fl(st:aB):Prop:=st.all (dO st.length)=true
theorem Fl.back{st:aB}(h:Fl st) (X:aB):back st.length (st++X)=some st:=by
 unfold Mine.back
 rw[List.take_left];exact if_pos h
theorem Fl.AI{st:aB}(h:Fl st):Mine.back st.length st=some st:=by have:=h.back [];rwa [List.append_nil] at this
set_option genCtorIdx false in
inductive Pr|t (d:PV)|f (d:PV)|x (m:Tx)
noncomputable def Pr.ctorIdx(t:Pr):Nat:=Pr.casesOn (motive:=fun _=>Nat) t (fun _=>0) (fun _=>1) (fun _=>2)
noncomputable def TA(o:Option AV):Option Pr:=match o with| some (.t d)=>some (.t d)|_=>none
noncomputable def tb(p:Option Pr) (f:PV->Option Pr):Option Pr:=match p with| some (.t d)=>f d|_=>none
noncomputable def i6(p:Option Pr) (o:Option (List PV)):Option (List PV):=match p with| some (.t d)=>o.bind fun ds=>some (d::ds)|_=>none
noncomputable def je(p:Option Pr):Option PV:=match p with| some (.t d)=>some d|some (.f d)=>some d|_=>none
noncomputable def uN(p:Option Pr):Option Pr:=match p with| some (.f d)=>some (.t d)|p=>p
noncomputable def AJ(p:Option Pr):Option Pr:=match p with| some (.t d)=>some (.t d)|some (.x m)=>some (.t (.str m))|_=>none
noncomputable def m6(f:PV->Option Pr):List PV->Option (List PV)
 |[]=>some []
 |a::r=>(je (f a)).bind fun d=>(m6 f r).bind fun ds=>some (d::ds)
noncomputable def Ci(d:PV) (x y:Option Pr):Option Pr:=(truth d).bind fun b=>cond b x y
noncomputable def Lz(f:Tx) (d:PV):Option Pr:=match d with| .inst _ fs=>(cj f fs).map .t|_=>none
noncomputable def g7(l:List PV):Option Pr:=some (.f (.lst l))
noncomputable def TF(a b:List PV):Option Pr:=if a.length+b.length<=lim then g7 (a++b) else none
noncomputable def TG(l:List PV) (n:Int):Option Pr:=match l with| [d]=>if -2000<=n/\n<=2000 then g7 (List.replicate n.toNat d) else none|_=>none
noncomputable def LB(o:yX) (d e:PV):Option Pr:=match d with
 |.int a=>(match e with| .int b=>(arith o a b).map fun i=>.t (.int i)|_=>none)
 |.lst a=>(match e with
  |.lst b=>cond (isAdd o) (TF a b) none
  |.int n=>cond (isMul o) (TG a n) none
  |_=>none)
 |_=>none
noncomputable def jl(o:Option Bool):Option Pr:=o.map fun b=>.t (.bool b)
noncomputable def EN(d:PV) (p q:Option Int):Option Pr:=match d with| .lst l=>g7 (cut l p q)|_=>none
noncomputable def yD(p:Option Pr):Option (Option Int):=match p with| some (.t (.int i))=>if 0<=i then some (some i) else none|_=>none
noncomputable def Jj(ks:List Tx) (ds:List PV):Option Pr:=if ks.length=ds.length then some (.f (.aK (ks.zip ds))) else none
noncomputable def HR(c:ie) (f:Nat) (ds:List PV):Option Pr:=match c with
 |.aJ=>cond (Nat.beq f 2) (match ds with
  |[a,b]=>some (.f (.inst .aQ [(aj,a),(ai,b),(az,.none),(aX,.bool false)]))
  |[a,b,c]=>some (.f (.inst .aQ [(aj,a),(ai,b),(az,c),(aX,.bool false)]))
  |_=>none) none
 |.null=>cond (Nat.beq f 0) (match ds with| []=>some (.f cW)|_=>none) none
 |.symbol=>cond (Nat.beq f 4) (match ds with| [a]=>some (.f (.inst .symbol [(aj,.str cU),(iw,a),(az,.none)]))|_=>none) none
 |.call=>cond (Nat.beq f 5) (match ds with| [a,b]=>some (.f (.inst .call [(aj,.str aI),(ai,a),(b6,b),(az,.none),(jM,.none)]))|_=>none) none
 |_=>none
noncomputable def TH(b:Bi) (ds:List PV):Option Pr:=match ds with
 |[x]=>(match b with
  |.len=>(A4 x).map fun i=>.t (.int i)
  |.chr=>(match x with| .int i=>if 0<=i/\i<128 then some (.t (.str [i.toNat])) else none|_=>none)
  |.isStr=>jl (JC x)
  |_=>none)
 |_=>none
noncomputable def LC(m:Mt) (x:PV) (ds:List PV):Option Pr:=match m with
 |.index=>(match x with
  |.lst xs=>(match ds with
   |[d]=>(match d with| .str _=>if ng xs then(idxOf d xs 0).map fun(n:Nat)=>.t (.int (n:Int)) else none|_=>none)
   |_=>none)
  |_=>none)
 |_=>none
structure LR where
 s:Option (List PV)
 a:Option Pr
 o:Option Pr
noncomputable def HS(r:List E) (p q:Option Pr):Option Pr:=match r with| []=>p|_::_=>q
noncomputable def pe(F:Nat->List PV->Option Pr) (n:Nat):E->Ve->Option Pr:=E.rec (motive_1:=fun _=>Ve->Option Pr) (motive_2:=fun _=>Ve->LR) (motive_3:=fun _=>Ve->Option (Option Int))
 (fun _=>some (.t .none)) (fun b _=>some (.t (.bool b))) (fun i _=>some (.t (.int i))) (fun s _=>some (.t (.str s))) (fun i v=>cond (Nat.blt i n) (TA (v i)) none) (fun _ _ _=>none)
 (fun _ f a v=>tb (a v) (Lz f)) (fun o _ _ a b v=>tb (a v) fun d=>tb (b v) (LB o d)) (fun _ _ _=>none) (fun _ a v=>tb (a v) fun d=>jl ((truth d).map (!·)))
 (fun o _ _ a b v=>tb (a v) fun d=>tb (b v) fun e=>jl (qG o d e)) (fun _ l v=>(l v).a) (fun _ l v=>(l v).o) (fun _ _ _ c a b v=>tb (c v) fun d=>Ci d (a v) (b v))
 (fun _ l v=>(l v).s.bind g7) (fun _ l v=>(l v).s.bind fun ds=>some (.t (.tup ds))) (fun ks _ l v=>(l v).s.bind (Jj ks)) (fun _=>none)
 (fun _ _ a i v=>tb (a v) fun d=>tb (i v) fun e=>(item d e).map .t) (fun _ _ _ a lo hi v=>tb (a v) fun d=>(lo v).bind fun p=>(hi v).bind fun q=>EN d p q)
 (fun f _ l v=>(l v).s.bind (F f)) (fun c f _ l v=>(l v).s.bind (HR c f)) (fun _ _ _ _=>none)
 (fun b _ l v=>(l v).s.bind (TH b)) (fun m _ _ a l v=>tb (a v) fun x=>(l v).s.bind (LC m x))
 (fun x _ c _ src _ e v=>cond c.isNone (tb (src v) fun d=>(mw d).bind fun items=>(m6 (fun it=>e (bM v x it)) items).bind g7) none)
 (fun x _ c _ src _ e v=>cond c.isNone ((src v).s.bind fun ds=>(sR (ds.map AV.t)).bind fun items=>(m6 (fun it=>e (bM v x it)) items).bind g7) none)
 (fun _ _ _ _ _ _ _ _=>none) (fun _ _ _ _ _=>none) (fun _ a v=>AJ (a v)) (fun _ a v=>uN (a v))
 (fun _=>⟨some [],none,none⟩) (fun _ r p l v=>⟨i6 (p v) (l v).s,HS r (p v) (tb (p v) fun d=>Ci d (l v).a (some (.t d))),HS r (p v) (tb (p v) fun d=>Ci d (some (.t d)) (l v).o)⟩)
 (fun _=>some none) (fun _ a v=>yD (a v))
inductive Ag(st:aB):Option Pr->R AV->Prop
 |no (r:R AV):Ag st none r
 |t (d:PV):Ag st (some (.t d)) (ok (.t d) st)
 |f (d:PV) (j:Nat) (X X':aB) (hj:st.length<=j) (h:eX (st++X) (.r j)=ok d (st++X')):Ag st (some (.f d)) (ok (.r j) (st++X))
 |x (m:Tx):Ag st (some (.x m)) (some (.error (m,st)))
section
variable {st:aB}{p:Option Pr}{r:R AV}{n k:Nat}{v:Ve}{g:Gm}
theorem Ag.tb{f:PV->Option Pr}{q:AV->aB->R AV}(h:Ag st p r) (hq:∀d,Ag st (f d) (q (.t d) st)):Ag st (Mine.tb p f) (r.bind q):=by
 induction h with
 |t d=>exact hq d
 |_=>exact .no _
theorem Ag.ob{α:Type}{o:Option α}{f:α->Option Pr}(h:∀a,o=some a->Ag st (f a) r):Ag st (o.bind f) r:=by
 induction o with
 |none=>exact .no _
 |some a=>exact h a rfl
theorem Ag.ite{c:Prop} [Decidable c] {q:Option Pr}(h:c->Ag st q r):Ag st (if c then q else none) r:=by
 by_cases hc:c
 ·rw[if_pos hc];exact h hc
 ·rw[if_neg hc];exact .no _
theorem Ag.cd{c:Bool}{q:Option Pr}(h:c=true->Ag st q r):Ag st (cond c q none) r:=by
 induction c with
 |true=>exact h rfl
 |false=>exact .no _
theorem Ag.lst(l:List PV):Ag st (g7 l) (alloc st (.lst l)):=.f _ _ _ [.fz (.lst l)] (Nat.le_refl _) (by simp only[eX,cT,i8,iJ,iK])
theorem Ag.QK(l:List (Tx×PV)):Ag st (some (.f (.aK l))) (alloc st (.aK l)):=.f _ _ _ [.fz (.aK l)] (Nat.le_refl _) (by simp only[eX,cT,i8,iJ,iK])
theorem uO(st:aB):∀(fs:List (Tx×PV)) (n:Nat),fs.length<=n->qb n st (fs.map fun p=>(p.1,AV.t p.2))=some (fs,st)
 |[],_,_=>by unfold qb;rfl
 |p::r,n+1,h=>by
  have ih:=uO st r n (Nat.le_of_succ_le_succ h)
  rw[List.map_cons,qb,show i8 n st (.t p.2)=some (p.2,st) by unfold i8;rfl]
  dsimp only
  rw[ih]
theorem Ag.ins{c c':ie}{f:Nat}{ds:List PV}(fs:List (Tx×PV)) (hl:fs.length<=23) (h:call T k f (.r st.length::ds.map AV.t) (st++[.inst c []])=ok (.t .none) (st++[.inst c' (fs.map fun p=>(p.1,.t p.2))])):Ag st (some (.f (.inst c' fs))) (A9 (call T k) c f st (ds.map AV.t)):=by
 unfold A9
 rw[h]
 refine .f _ _ _ [.fz (.inst c' fs)] (Nat.le_refl _) ?_
 have hf:=uO (st++[.inst c' (fs.map fun p=>(p.1,AV.t p.2))]) fs 23 hl
 simp only[eX,cT,i8,iJ,hf,iK,and_self,if_true]
end
noncomputable def YK(F:Nat->List PV->Option Pr) (n:Nat):List E->Ve->LR:=E.rec_1 (motive_1:=fun _=>Ve->Option Pr) (motive_2:=fun _=>Ve->LR) (motive_3:=fun _=>Ve->Option (Option Int))
 (fun _=>some (.t .none)) (fun b _=>some (.t (.bool b))) (fun i _=>some (.t (.int i))) (fun s _=>some (.t (.str s))) (fun i v=>cond (Nat.blt i n) (TA (v i)) none) (fun _ _ _=>none)
 (fun _ f a v=>tb (a v) (Lz f)) (fun o _ _ a b v=>tb (a v) fun d=>tb (b v) (LB o d)) (fun _ _ _=>none) (fun _ a v=>tb (a v) fun d=>jl ((truth d).map (!·)))
 (fun o _ _ a b v=>tb (a v) fun d=>tb (b v) fun e=>jl (qG o d e)) (fun _ l v=>(l v).a) (fun _ l v=>(l v).o) (fun _ _ _ c a b v=>tb (c v) fun d=>Ci d (a v) (b v))
 (fun _ l v=>(l v).s.bind g7) (fun _ l v=>(l v).s.bind fun ds=>some (.t (.tup ds))) (fun ks _ l v=>(l v).s.bind (Jj ks)) (fun _=>none)
 (fun _ _ a i v=>tb (a v) fun d=>tb (i v) fun e=>(item d e).map .t) (fun _ _ _ a lo hi v=>tb (a v) fun d=>(lo v).bind fun p=>(hi v).bind fun q=>EN d p q)
 (fun f _ l v=>(l v).s.bind (F f)) (fun c f _ l v=>(l v).s.bind (HR c f)) (fun _ _ _ _=>none)
 (fun b _ l v=>(l v).s.bind (TH b)) (fun m _ _ a l v=>tb (a v) fun x=>(l v).s.bind (LC m x))
 (fun x _ c _ src _ e v=>cond c.isNone (tb (src v) fun d=>(mw d).bind fun items=>(m6 (fun it=>e (bM v x it)) items).bind g7) none)
 (fun x _ c _ src _ e v=>cond c.isNone ((src v).s.bind fun ds=>(sR (ds.map AV.t)).bind fun items=>(m6 (fun it=>e (bM v x it)) items).bind g7) none)
 (fun _ _ _ _ _ _ _ _=>none) (fun _ _ _ _ _=>none) (fun _ a v=>AJ (a v)) (fun _ a v=>uN (a v))
 (fun _=>⟨some [],none,none⟩) (fun _ r p l v=>⟨i6 (p v) (l v).s,HS r (p v) (tb (p v) fun d=>Ci d (l v).a (some (.t d))),HS r (p v) (tb (p v) fun d=>Ci d (some (.t d)) (l v).o)⟩)
 (fun _=>some none) (fun _ a v=>yD (a v))
noncomputable def po(F:Nat->List PV->Option Pr) (n:Nat) (o:Option E) (v:Ve):Option (Option Int):=match o with| none=>some none|some e=>yD (pe F n e v)
noncomputable def Fc(k f:Nat) (ds:List PV):Option Pr:=cond (T f).ref none (match call T k f (ds.map AV.t) [] with
 |some (.ok (.t d,_))=>some (.t d)
 |some (.error (m,_))=>some (.x m)
 |_=>none)
section
variable {st:aB}{p:Option Pr}{r:R AV}{n k:Nat}{v:Ve}{g:Gm}
theorem PO(f:Nat) (ds:List PV):Ag st (Fc k f ds) (call T k f (ds.map .t) st):=by
 unfold Fc
 cases hr:(T f).ref with
 |true=>exact .no _
 |false =>
  induction k with
  |zero=>exact .no _
  |succ k =>
   have e:∀s,call T (k+1) f (ds.map .t) s=oB ((T f).start (ds.map AV.t)) fun g=>zc s (bO (call T k) (T f).body g []):=fun s=>by
    show fB (call T k) (T f) (ds.map .t) s=_
    unfold fB
    rw[hr,gX];rfl
   rw[e,e]
   cases(T f).start (ds.map AV.t) with
   |none=>exact .no _
   |some g =>
    show Ag st (match zc [] (bO (call T k) (T f).body g []) with| some (.ok (.t d,_))=>_|some (.error (m,_))=>_|_=>_) (zc st (bO (call T k) (T f).body g []))
    cases bO (call T k) (T f).body g [] with
    |none=>exact .no _
    |some o =>
     induction o with
     |next=>exact .t _
     |cont=>exact .no _
     |exc m=>exact .x _
     |ret a s =>
      unfold zc
      dsimp only
      cases i8 cT s a with
      |none=>exact .no _
      |some q=>exact .t _
theorem EO(k:Nat) (Q:aB) (a:AV):call T (k+1) 4 [.r Q.length,a] (Q++[.inst .symbol []])=ok (.t .none) (Q++[.inst .symbol [(aj,.t (.str cU)),(iw,a),(az,.t .none)]]):=by
 refine lz (g:=[some (.r Q.length),some a]) (g':=[some (.r Q.length),some a]) rfl rfl rfl ?_
 have h1:=dg Q .symbol [] aj (.t (.str cU)) (by decide)
 have h2:=dg Q .symbol [(aj,.t (.str cU))] iw a (by decide)
 have h3:=dg Q .symbol [(aj,.t (.str cU)),(iw,a)] az (.t .none) (by decide)
 rw[show(T 4).body=[.setattr (.var 0) aj (.str cU),.setattr (.var 0) iw (.var 1),.setattr (.var 0) az .none] from rfl]
 simp only[ah,i0,av,bI,aH,cG,cP,ay,aF,h1,show putK aj (AV.t (.str cU)) []=[(aj,.t (.str cU))] from rfl,uJ,au,h2,show putK iw a [(aj,AV.t (.str cU))]=[(aj,.t (.str cU)),(iw,a)] from rfl,h3,aL]
 rfl
theorem Cj(k:Nat) (Q:aB) (a b:AV):call T (k+1) 5 [.r Q.length,a,b] (Q++[.inst .call []])=ok (.t .none) (Q++[.inst .call [(aj,.t (.str aI)),(ai,a),(b6,b),(az,.t .none),(jM,.t .none)]]):=by
 refine lz (g:=[some (.r Q.length),some a,some b,some (.t .none)]) (g':=[some (.r Q.length),some a,some b,some (.t .none)]) rfl rfl rfl ?_
 have h1:=dg Q .call [] aj (.t (.str aI)) (by decide)
 have h2:=dg Q .call [(aj,.t (.str aI))] ai a (by decide)
 have h3:=dg Q .call [(aj,.t (.str aI)),(ai,a)] b6 b (by decide)
 have h4:=dg Q .call [(aj,.t (.str aI)),(ai,a),(b6,b)] az (.t .none) (by decide)
 have h5:=dg Q .call [(aj,.t (.str aI)),(ai,a),(b6,b),(az,.t .none)] jM (.t .none) (by decide)
 rw[show(T 5).body=[.setattr (.var 0) aj (.str aI),.setattr (.var 0) ai (.var 1),.setattr (.var 0) b6 (.var 2),.setattr (.var 0) az (.var 3),.setattr (.var 0) jM .none] from rfl]
 simp only[ah,i0,av,bI,aH,cG,cP,ay,aF,h1,show putK aj (AV.t (.str aI)) []=[(aj,.t (.str aI))] from rfl,uJ,au,h2,show putK ai a [(aj,AV.t (.str aI))]=[(aj,.t (.str aI)),(ai,a)] from rfl,h3,show putK b6 b [(aj,AV.t (.str aI)),(ai,a)]=[(aj,.t (.str aI)),(ai,a),(b6,b)] from rfl,h4,show putK az (AV.t .none) [(aj,AV.t (.str aI)),(ai,a),(b6,b)]=[(aj,.t (.str aI)),(ai,a),(b6,b),(az,.t .none)] from rfl,h5,aL]
 rfl
theorem LD(c:ie) (f:Nat) (ds:List PV):Ag st (HR c f ds) (A9 (call T (k+1)) c f st (ds.map .t)):=by
 cases c with
 |aJ =>
  refine .cd fun hf=>?_
  cases Nat.eq_of_beq_eq_true hf
  cases ds with
  |nil=>exact .no _
  |cons a ds=>cases ds with
   |nil=>exact .no _
   |cons b ds=>cases ds with
    |nil=>exact Ag.ins [(aj,a),(ai,b),(az,.none),(aX,.bool false)] (Nat.le_of_ble_eq_true rfl) (o6 k st (.t a) (.t b) (.t .none))
    |cons c ds=>cases ds with
     |nil=>exact Ag.ins [(aj,a),(ai,b),(az,c),(aX,.bool false)] (Nat.le_of_ble_eq_true rfl) (o6 k st (.t a) (.t b) (.t c))
     |cons=>exact .no _
 |null =>
  refine .cd fun hf=>?_
  cases Nat.eq_of_beq_eq_true hf
  cases ds with
  |nil=>exact Ag.ins [(aj,.str bq),(az,.none)] (Nat.le_of_ble_eq_true rfl) (uL k st)
  |cons=>exact .no _
 |symbol =>
  refine .cd fun hf=>?_
  cases Nat.eq_of_beq_eq_true hf
  cases ds with
  |nil=>exact .no _
  |cons a ds=>cases ds with
   |nil=>exact Ag.ins [(aj,.str cU),(iw,a),(az,.none)] (Nat.le_of_ble_eq_true rfl) (EO k st (.t a))
   |cons=>exact .no _
 |call =>
  refine .cd fun hf=>?_
  cases Nat.eq_of_beq_eq_true hf
  cases ds with
  |nil=>exact .no _
  |cons a ds=>cases ds with
   |nil=>exact .no _
   |cons b ds=>cases ds with
    |nil=>exact Ag.ins [(aj,.str aI),(ai,a),(b6,b),(az,.none),(jM,.none)] (Nat.le_of_ble_eq_true rfl) (Cj k st (.t a) (.t b))
    |cons=>exact .no _
 |_=>exact .no _
theorem LG(f:Tx) (d:PV):Ag st (Lz f d) (uY st (.t d) f):=by
 cases d with
 |inst c fs=>show Ag st ((cj f fs).map .t) (A5 ((cj f fs).map AV.t) st);cases cj f fs<;>constructor
 |_=>exact .no _
theorem yE(o:Option Bool):Ag st (jl o) (jI o st):=by induction o<;>constructor
theorem HT(o:yX) (d e:PV):Ag st (LB o d e) (Jy o st d e):=by
 cases d with
 |int a =>
  cases e with
  |int b=>show Ag st ((arith o a b).map _) (m9 (arith o a b) st);cases arith o a b<;>constructor
  |_=>exact .no _
 |lst a =>
  cases e with
  |lst b =>
   refine .cd fun h=>?_
   show Ag st _ (if isAdd o=true then Jx a b st else none)
   rw[if_pos h]
   refine .ite fun h=>?_
   unfold Jx;rw[if_pos h];exact .lst _
  |int n =>
   refine .cd fun h=>?_
   show Ag st _ (if isMul o=true then rep1 a n st else none)
   rw[if_pos h]
   induction a with
   |nil=>exact .no _
   |cons x a=>induction a with
    |nil =>
     refine .ite fun h=>?_
     show Ag st _ (if -2000<=n/\n<=2000 then _ else _)
     rw[if_pos h];exact .lst _
    |cons=>exact .no _
  |_=>exact .no _
 |_=>exact .no _
theorem LH(b:Bi) (ds:List PV):Ag st (TH b ds) (FZ b st (ds.map .t)):=by
 induction ds with
 |nil=>exact .no _
 |cons x ds =>
  induction ds with
  |cons=>exact .no _
  |nil =>
   induction b with
   |len=>show Ag st ((A4 x).map _) (m9 (A4 x) st);cases A4 x<;>constructor
   |chr =>
    cases x with
    |int i =>
     refine .ite fun h=>?_
     show Ag st _ (if 0<=i/\i<128 then _ else _)
     rw[if_pos h];exact .t _
    |_=>exact .no _
   |isStr=>exact yE _
   |_=>exact .no _
theorem LJ(m:Mt) (x:PV){l:Gm->aB->R (List AV)}{ds:List PV}(h:l g st=ok (ds.map .t) st):Ag st (LC m x ds) (u0 (xm m st (.t x)) m (.t x) l g st):=by
 induction m with
 |index =>
  cases x with
  |lst xs =>
   show Ag st _ ((l g st).bind fun as st=>(fE st as).bind fun ds st=>mu .index .list st (.t (.lst xs)) ds)
   rw[h,af,gX,af]
   induction ds with
   |nil=>exact .no _
   |cons d ds=>induction ds with
    |cons=>exact .no _
    |nil=>cases d with
     |str s =>
      refine .ite fun h=>?_
      show Ag st _ (if ng xs=true then _ else _)
      rw[if_pos h]
      cases idxOf (.str s) xs 0<;>constructor
     |_=>exact .no _
  |_=>exact .no _
 |_=>exact .no _
theorem EP{q:Option Pr}{r':R AV}(d:PV) (h:Ag st p r) (h':Ag st q r'):Ag st (Ci d p q) (gq (cV st (.t d)) r r'):=by
 show Ag st ((truth d).bind _) (gq (truth d) r r')
 cases truth d with
 |none=>exact .no _
 |some b=>induction b with
  |true=>exact h
  |false=>exact h'
structure LA(st:aB) (p:LR) (r:R (List AV)) (a o:R AV):Prop where
 s:∀ds,p.s=some ds->r=ok (ds.map .t) st
 a:Ag st p.a a
 o:Ag st p.o o
theorem LA.bind{p:LR}{r:R (List AV)}{a o:R AV}{f:List PV->Option Pr}{q:List AV->aB->R AV}(h:LA st p r a o) (hq:∀ds,Ag st (f ds) (q (ds.map .t) st)):Ag st (p.s.bind f) (r.bind q):=.ob fun ds e=>by rw[h.s ds e];exact hq ds
noncomputable def P1(k n:Nat) (e:E):Prop:=∀v st,Fl st->Ag st (pe (Fc (k+1)) n e v) (ev (call T (k+1)) e (Gv n v) st)
noncomputable def P2(k n:Nat) (l:List E):Prop:=∀v st,Fl st->LA st (YK (Fc (k+1)) n l v) (gj (call T (k+1)) l (Gv n v) st) (ni (call T (k+1)) l (Gv n v) st) (u5 (call T (k+1)) l (Gv n v) st)
noncomputable def P3(k n:Nat) (o:Option E):Prop:=∀v st,Fl st->∀q,po (Fc (k+1)) n o v=some q->QH (call T (k+1)) o (Gv n v) st=ok q st
theorem HU{x:Nat}{e:E}{d y:PV}(hs:Fl st) (z:Ag st p (ev (call T (k+1)) e (Gv n (bM v x d)) st)) (h:je p=some y):∃st',ju x (Bb (call T (k+1)) none) (ev (call T (k+1)) e) (Gv n v) d st=some (.ok (some y,st'))/\back st.length st'=some st:=by
 rw[<-Gv.set] at z
 show ∃st',((ev (call T (k+1)) e ((Gv n v).set x (some (.t d))) st).bind fun a st=>(eX st a).bind fun d st=>ok (some d) st)=_/\_
 revert z h
 generalize ev (call T (k+1)) e ((Gv n v).set x (some (.t d))) st=r
 intro z h
 induction z with
 |no=>injection h
 |x=>injection h
 |t d=>(injection h with h;subst h);exact⟨st,rfl,hs.AI⟩
 |f d j X X' hj hf=>(injection h with h;subst h);exact⟨st++X',by rw[af,hf];rfl,hs.back X'⟩
theorem ER{x:Nat}{e:E}(hs:Fl st) (ih:P1 k n e){items:List PV}:∀ds:List PV,m6 (fun it=>pe (Fc (k+1)) n e (bM v x it)) items=some ds->turns (ju x (Bb (call T (k+1)) none) (ev (call T (k+1)) e) (Gv n v)) items st=ok ds st:=by
 induction items with
 |nil=>exact fun ds h=>by(injection h with h;subst h);rfl
 |cons d items OC =>
  intro ds h
  obtain⟨y,h1,h⟩:=Option.bind_eq_some_iff.mp (h:(je (pe (Fc (k+1)) n e (bM v x d))).bind _=some ds)
  obtain⟨ys,h2,h⟩:=Option.bind_eq_some_iff.mp h
  injection h with h;subst h
  obtain⟨st',t1,t2⟩:=HU hs (ih (bM v x d) st hs) h1
  unfold turns
  rw[t1]
  dsimp only
  rw[t2]
  dsimp only
  rw[OC ys h2]
  rfl
theorem AK{x:Nat}{c:Option E}{e:E}{o:Option (List PV)}(hs:Fl st) (c0:c.isNone=true) (ih:P1 k n e):Ag st (o.bind fun items=>(m6 (fun it=>pe (Fc (k+1)) n e (bM v x it)) items).bind g7) (R.bind (oB o fun l=>(ok l st:R (List PV))) fun items st=>(turns (ju x (Bb (call T (k+1)) c) (ev (call T (k+1)) e) (Gv n v)) items st).bind fun l st=>alloc st (.lst l)):=by
 induction c with
 |some c=>injection c0
 |none =>
  induction o with
  |none=>exact .no _
  |some items =>
   show Ag st ((m6 _ items).bind g7) (R.bind (turns _ items st) _)
   refine .ob fun ds h=>?_
   rw[ER hs ih ds h]
   exact .lst ds
theorem Ag.YL{α:Type}{f:PV->Option Pr}{p':AV->aB->R α}{q:α->aB->R AV}(h:Ag st p r) (hq:∀d,Ag st (f d) ((p' (.t d) st).bind q)):Ag st (Mine.tb p f) ((r.bind p').bind q):=by
 induction h with
 |t d=>exact hq d
 |_=>exact .no _
theorem HV{q:Option Int}{r:R AV}(h:Ag st p r) (hq:yD p=some q):(r.bind fun a st=>UE a st)=ok q st:=by
 induction h with
 |t d =>
  cases d with
  |int i =>
   unfold yD at hq
   dsimp only at hq
   split at hq
   ·rename_i h;(injection hq with hq;subst hq);exact if_pos h
   ·injection hq
  |_=>injection hq
 |_=>injection hq
theorem HW(hs:Fl st) (h:Ag st p r):Ag st (uN p) (r.bind fun a st'=>Ba false st.length a st'):=by
 induction h with
 |no=>exact .no _
 |x=>exact .x _
 |t d =>
  show Ag st (some (.t d)) (kq st.length d st)
  unfold kq
  rw[hs.AI];exact .t d
 |f d j X X' hj h =>
  show Ag st (some (.t d)) ((eX (st++X) (.r j)).bind fun d st'=>kq st.length d st')
  rw[h,af]
  unfold kq
  rw[hs.back];exact .t d
theorem HX(h:Ag st p r):Ag st (AJ p) (zU r):=by
 induction h with
 |t d=>exact .t d
 |x m=>exact .t _
 |_=>exact .no _
theorem HY{o:Option (List PV)}{q:aB->R (List AV)}{ds:List PV}(z:Ag st p r) (y:∀ds,o=some ds->q st=ok (ds.map .t) st) (h:i6 p o=some ds):(r.bind fun a st=>(q st).bind fun as st=>ok (a::as) st)=ok (ds.map .t) st:=by
 induction z with
 |t d =>
  obtain⟨xs,h1,h2⟩:=Option.bind_eq_some_iff.mp h
  injection h2 with h2;subst h2
  rw[af,y xs h1];rfl
 |_=>injection h
theorem ES(k n:Nat) (e:E):P1 k n e:=E.rec (motive_1:=P1 k n) (motive_2:=P2 k n) (motive_3:=P3 k n)
 (fun _ _ _=>.t _) (fun _ _ _ _=>.t _) (fun _ _ _ _=>.t _) (fun _ _ _ _=>.t _)
 (fun i v st _=>.cd fun h=>by
  show Ag st (TA (v i)) (A7 (Gv n v)[i]? st)
  rw[Gv.get h]
  cases v i with
  |none=>exact .no _
  |some a=>induction a<;>constructor)
 (fun _ _ _ _ _=>.no _)
 (fun e f ih v st hs=>(ih v st hs).tb fun d=>LG f d)
 (fun o a b ow yU v st hs=>(ow v st hs).tb fun d=>(yU v st hs).tb fun e=>HT o d e)
 (fun _ _ _ _ _=>.no _)
 (fun a ih v st hs=>(ih v st hs).tb fun d=>by
  show Ag st (jl ((truth d).map _)) (FY (truth d) st)
  cases truth d<;>constructor)
 (fun o a b ow yU v st hs=>(ow v st hs).tb fun d=>(yU v st hs).tb fun e=>yE (qG o d e))
 (fun l ih v st hs=>(ih v st hs).a) (fun l ih v st hs=>(ih v st hs).o)
 (fun c a b KO ow yU v st hs=>(KO v st hs).tb fun d=>EP d (ow v st hs) (yU v st hs))
 (fun l ih v st hs=>(ih v st hs).bind fun ds=>by unfold CN;rw[gX];exact .lst ds)
 (fun l ih v st hs=>(ih v st hs).bind fun ds=>by unfold JB;rw[gX];exact .t _)
 (fun ks l ih v st hs=>(ih v st hs).bind fun ds=>by
  unfold CO;rw[gX]
  refine .ite fun h=>?_
  show Ag st _ (if ks.length=ds.length then _ else _)
  rw[if_pos h];exact .QK _)
 (fun _ _ _=>.no _)
 (fun a i ow OC v st hs=>(ow v st hs).tb fun d=>(OC v st hs).tb fun e=>by
  show Ag st ((item d e).map _) (sV (item d e) st)
  cases item d e<;>constructor)
 (fun a lo hi ow An SS v st hs=>(ow v st hs).tb fun d=>.ob fun p h1=>.ob fun q h2=>by
  rw[An v st hs p (by induction lo<;>exact h1),af,SS v st hs q (by induction hi<;>exact h2),af]
  cases d with
  |lst l=>exact .lst _
  |_=>exact .no _)
 (fun f l ih v st hs=>(ih v st hs).bind fun ds=>PO f ds)
 (fun c f l ih v st hs=>(ih v st hs).bind fun ds=>LD c f ds)
 (fun _ _ _ _ _ _=>.no _)
 (fun b l ih v st hs=>(ih v st hs).bind fun ds=>LH b ds)
 (fun m a l ow An v st hs=>(ow v st hs).tb fun x=>.ob fun ds h=>LJ m x ((An v st hs).s ds h))
 (fun x s c e DV _ DW v st hs=>.cd fun h=>(DV v st hs).YL fun d=>AK hs h DW)
 (fun x s c e DV _ DW v st hs=>.cd fun h=>.ob fun ds q=>by
  show Ag st _ (R.bind (R.bind (gj (call T (k+1)) s (Gv n v) st) _) _)
  rw[(DV v st hs).s ds q]
  exact AK hs h DW)
 (fun _ _ _ _ _ _ _ _ _ _=>.no _) (fun _ _ _ _ _ _ _=>.no _)
 (fun a ih v st hs=>HX (ih v st hs))
 (fun a ih v st hs=>HW hs (ih v st hs))
 (fun _ _ _=>⟨fun ds h=>by(injection h with h;subst h);rfl,.no _,.no _⟩)
 (fun e r DW YM v st hs=>by
  have z:=DW v st hs
  have y:=YM v st hs
  refine⟨fun ds h=>?_,?_,?_⟩
  ·exact HY (q:=gj (call T (k+1)) r (Gv n v)) z y.s h
  ·induction r with
   |nil=>exact z
   |cons=>exact z.tb fun d=>EP d y.a (.t d)
  ·induction r with
   |nil=>exact z
   |cons=>exact z.tb fun d=>EP d (.t d) y.o)
 (fun _ _ _ q h=>by(injection h with h;subst h);rfl)
 (fun e ih v st hs q h=>HV (ih v st hs) h) e
end
noncomputable def HZ(n:Nat) (x:Option AV):Prop:=∀i,x=some (.r i)->i<n
noncomputable def pY(n:Nat) (g:Gm):Prop:=∀x∈g,HZ n x
theorem PR(n:Nat) (d:PV):HZ n (some (.t d)):=fun i e=>by cases e
theorem jr{n:Nat}{x:Option AV}(h:HZ n x) (g:Gm) (st:aB):dh n (x::g) st=(dh n g st).map fun q=>(x::q.1,q.2):=by
 induction x with
 |none=>rfl
 |some a=>induction a with
  |t d=>rfl
  |r i=>simp only[dh,if_pos (h i rfl)]
theorem jX{n:Nat}{st:aB}:∀{g:Gm},pY n g->dh n g st=some (g,st)
 |[],_=>rfl
 |x::g,h=>by rw[jr (h x (.head _)),jX fun y hy=>h y (.tail _ hy)];rfl
theorem ic{n j:Nat}{d:PV}{st st':aB}(hj:¬j<n) (hf:i8 cT st (.r j)=some (d,st')):∀{g:Gm}{i:Nat},pY n g->i<g.length->dh n (g.set i (some (.r j))) st=some (g.set i (some (.t d)),st')
 |[],_,_,hi=>absurd hi (Nat.not_lt_zero _)
 |x::g,0,h,_=>by
  rw[List.set_cons_zero,List.set_cons_zero]
  simp only[dh,if_neg hj,hf,jX (fun y hy=>h y (.tail _ hy):pY n g),Option.map]
 |x::g,i+1,h,hi=>by
  rw[List.set_cons_succ,List.set_cons_succ,jr (h x (.head _)),ic hj hf (fun y hy=>h y (.tail _ hy)) (Nat.lt_of_succ_lt_succ hi)];rfl
theorem H6{n:Nat}{g:Gm}{i:Nat}{x:Option AV}(h:pY n g) (hx:HZ n x):pY n (g.set i x):=fun y hy=>by
 rcases List.mem_or_eq_of_mem_set hy with h1|h1
 ·exact h y h1
 ·rw[h1];exact hx
noncomputable abbrev Gs (v:Ve):Gm:=Gv 43 v
theorem Gs.ok{v:Ve}(h:pY 3 (Gs v)) (x:Nat) (d:PV):pY 3 (Gs (bM v x d)):=by
 unfold Gs at h ⊢
 rw[<-Gv.set];exact H6 h (PR _ _)
theorem Gs.len{v:Ve}:(Gs v).length=43:=by unfold Gs Gv;rw[List.length_map,List.length_range]
noncomputable def PS(b:Bool) (v:Ve) (x:Nat) (p:Option Pr):Option Ve:=match p with
 |some (.t d)=>some (bM v x d)
 |some (.f d)=>cond b (some (bM v x d)) none
 |_=>none
noncomputable def TJ(p:Option Pr):Option Bool:=match p with| some (.t d)=>truth d|_=>none
noncomputable def px(F:Nat->List PV->Option Pr):S->Bool->Ve->Option Ve:=S.rec (motive_1:=fun _=>Bool->Ve->Option Ve) (motive_2:=fun _=>Ve->Option Ve)
 (fun x e b v=>cond (Nat.blt x 43) (PS b v x (pe F 43 e v)) none) (fun _ _ _ _ _=>none) (fun _ _ _ _ _=>none) (fun _ _ _ _ _=>none) (fun _ _ _ _=>none) (fun _ _ _=>none)
 (fun c _ _ a b _ v=>(TJ (pe F 43 c v)).bind fun t=>cond t (a v) (b v)) (fun _ _ _ _ _ _=>none) (fun _ _ _ _ _ _=>none) (fun _ _ _=>none) (fun _ _=>none) (fun _ _ _=>none) (fun _ _=>none) (fun _ _=>none)
 (fun m _ s _ v=>cond (Nat.beq m 3) (s true v) none) (fun v=>some v) (fun _ _ s l v=>(s false v).bind l)
noncomputable def ET(F:Nat->List PV->Option Pr) (l:List S) (v:Ve):Option Ve:=px F (.ifs (.bool true) l []) false v
structure XA(st:aB) (v':Ve) (o:Option Out) (b:Bool):Prop where
 ok:pY 3 (Gs v')
 a:b=false->o=some (.next (Gs v') st)
 b:b=true->∃g st1,o=some (.next g st1)/\kj 3 st.length g st1=some (Gs v',st)
section
variable {k:Nat}{st:aB}{v v':Ve}{o:Option Out}{b:Bool}{C:fy}
theorem EU(hs:Fl st) (h:pY 3 (Gs v)):kj 3 st.length (Gs v) st=some (Gs v,st):=by
 unfold kj
 rw[jX h]
 dsimp only
 rw[hs.AI]
theorem XA.of(hs:Fl st) (h:pY 3 (Gs v)) (e:o=some (.next (Gs v) st)):XA st v o b:=⟨h,fun _=>e,fun _=>⟨_,_,e,EU hs h⟩⟩
noncomputable def YN(k:Nat) (s:S):Prop:=∀b v st v',Fl st->3<=st.length->pY 3 (Gs v)->px (Fc (k+1)) s b v=some v'->XA st v' (ex (call T (k+1)) s (Gs v) st) b
noncomputable def Vm(k:Nat) (l:List S):Prop:=∀v st v',Fl st->3<=st.length->pY 3 (Gs v)->ET (Fc (k+1)) l v=some v'->XA st v' (bO (call T (k+1)) l (Gs v) st) false
theorem PT{x:Nat}{p:Option Pr}{r:R AV}(hs:Fl st) (h3:3<=st.length) (h:pY 3 (Gs v)) (hx:Nat.blt x 43=true) (z:Ag st p r) (e:PS b v x p=some v'):XA st v' (r.out fun a st=>some (.next ((Gs v).set x (some a)) st)) b:=by
 induction z with
 |t d=>(injection e with e;subst e);exact .of hs (Gs.ok h x d) (congrArg (fun g=>some (Out.next g st)) Gv.set)
 |f d j X X' hj hf =>
  induction b with
  |false=>injection e
  |true =>
   injection e with e;subst e
   refine⟨Gs.ok h x d,(fun q=>nomatch q),fun _=>⟨_,_,rfl,?_⟩⟩
   unfold kj
   have TL:i8 cT (st++X) (.r j)=some (d,st++X'):=by
    unfold eX at hf
    cases q:i8 cT (st++X) (.r j) with
    |none=>rw[q] at hf;injection hf
    |some y=>obtain⟨d1,s1⟩:=y;rw[q] at hf;cases hf;rfl
   rw[ic (fun q=>Nat.not_lt.mpr (Nat.le_trans h3 hj) q) TL h (Gs.len▸Nat.le_of_ble_eq_true hx),Gv.set]
   dsimp only
   rw[hs.back]
 |_=>injection e
theorem H7{m:Nat}(h3:3<=st.length) (hm:Nat.beq m 3=true) (hs:Fl st){f:Ks}(z:XA st v' (f (Gs v) st) true):XA st v' (qK m f (Gs v) st) b:=by
 obtain⟨g,st1,e1,e2⟩:=z.b rfl
 cases Nat.eq_of_beq_eq_true hm
 refine .of hs z.ok ?_
 unfold qK
 rw[e1]
 dsimp only
 rw[if_pos h3,e2];rfl
theorem PU{p:Option Pr}{r:R AV}{t:Bool}{x y:Option Out}{f:aB->Bool->Option Out}(z:Ag st p r) (h:TJ p=some t):(r.out fun a st=>gq (cV st a) (f st true) (f st false))=f st t:=by
 induction z with
 |t d =>
  show gq (truth d) _ _=_
  replace h:truth d=some t:=h
  rw[h];induction t<;>rfl
 |_=>injection h
theorem PW(k:Nat) (l:List S):Vm k l:=S.rec_1 (motive_1:=YN k) (motive_2:=Vm k)
 (fun x e b v st v' hs h3 h q=>by
  replace q:cond (Nat.blt x 43) (PS b v x (pe (Fc (k+1)) 43 e v)) none=some v':=q
  cases hx:Nat.blt x 43 with
  |false=>rw[hx] at q;injection q
  |true=>rw[hx] at q;exact PT hs h3 h hx (ES k 43 e v st hs) q)
 (fun _ _ _ _ _ _ _ _ _ _ q=>nomatch q) (fun _ _ _ _ _ _ _ _ _ _ q=>nomatch q) (fun _ _ _ _ _ _ _ _ _ _ q=>nomatch q) (fun _ _ _ _ _ _ _ _ _ q=>nomatch q) (fun _ _ _ _ _ _ _ _ q=>nomatch q)
 (fun c a b ow yU t v st v' hs h3 h q=>by
  obtain⟨t,h1,h2⟩:=Option.bind_eq_some_iff.mp (q:(TJ (pe (Fc (k+1)) 43 c v)).bind _=some v')
  have e:=PU (x:=none) (y:=none) (f:=fun st t=>cond t (bO (call T (k+1)) a (Gs v) st) (bO (call T (k+1)) b (Gs v) st)) (ES k 43 c v st hs) h1
  induction t with
  |true=>exact .of hs (ow v st v' hs h3 h h2).ok (e.trans ((ow v st v' hs h3 h h2).a rfl))
  |false=>exact .of hs (yU v st v' hs h3 h h2).ok (e.trans ((yU v st v' hs h3 h h2).a rfl)))
 (fun _ _ _ _ _ _ _ _ _ _ _ q=>nomatch q) (fun _ _ _ _ _ _ _ _ _ _ _ q=>nomatch q) (fun _ _ _ _ _ _ _ _ q=>nomatch q) (fun _ _ _ _ _ _ _ q=>nomatch q) (fun _ _ _ _ _ _ _ _ q=>nomatch q) (fun _ _ _ _ _ _ _ q=>nomatch q) (fun _ _ _ _ _ _ _ q=>nomatch q)
 (fun m s ih b v st v' hs h3 h q=>by
  replace q:cond (Nat.beq m 3) (px (Fc (k+1)) s true v) none=some v':=q
  cases hm:Nat.beq m 3 with
  |false=>rw[hm] at q;injection q
  |true=>rw[hm] at q;exact H7 h3 hm hs (ih true v st v' hs h3 h q))
 (fun v st v' hs _ h q=>by(injection q with q;subst q);exact .of hs h rfl)
 (fun s l DV An v st v' hs h3 h q=>by
  obtain⟨v1,h1,h2⟩:=Option.bind_eq_some_iff.mp (q:(px (Fc (k+1)) s false v).bind (ET (Fc (k+1)) l)=some v')
  have z:=DV false v st v1 hs h3 h h1
  have y:=An v1 st v' hs h3 z.ok h2
  exact .of hs y.ok ((ah _ _ _ _ _).trans ((congrArg (fun o=>mH o _ l) (z.a rfl)).trans (y.a rfl)))) l
end
theorem fL(n:Nat) (s:Tx):m7 n (.str s)=true:=by cases n<;>rfl
theorem qy(n:Nat) (s:Int):m7 n (.int s)=true:=by cases n<;>rfl
theorem sG(n:Nat):m7 n .none=true:=by cases n<;>rfl
theorem n6(n:Nat):m7 (n+1) (.aK [])=true:=rfl
theorem lW{n:Nat}{l:List PV}(h:∀d∈l,m7 n d=true):m7 (n+1) (.lst l)=true:=List.all_eq_true.mpr h
theorem lX{n:Nat}{l:List PV}(h:∀d∈l,m7 n d=true):m7 (n+1) (.tup l)=true:=List.all_eq_true.mpr h
theorem LK{a b d:PV}(h:d∈[a,b]):d=a\/d=b:=by simpa using h
theorem tK{a b c d:PV}(h:d∈[a,b,c]):d=a\/d=b\/d=c:=by simpa using h
theorem Ck{a d:PV}(h:d∈[a]):d=a:=by simpa using h
theorem yF(n:Nat) (it:It):m7 (n+2) it.view=true:=by
 match it with
 |.sym s =>
  refine lX fun d hd=>?_
  rcases LK hd with rfl|rfl<;>exact fL _ _
 |.int i =>
  refine lX fun d hd=>?_
  rcases tK hd with rfl|rfl|rfl
  ·exact fL _ _
  ·refine lW fun d hd=>?_
   rw[Ck hd];exact qy _ _
  ·exact n6 _
 |.chr s =>
  refine lX fun d hd=>?_
  rcases tK hd with rfl|rfl|rfl
  ·exact fL _ _
  ·refine lW fun d hd=>?_
   rw[Ck hd];exact fL _ _
  ·exact n6 _
 |.null=>exact fL _ _
theorem AL(n:Nat) (t:Option Tx):m7 n (aD t)=true:=by
 cases t with
 |none=>exact sG n
 |some s=>exact fL n s
theorem LL{d:PV}(h:m7 8 d=true):Cu d=true:=by unfold Cu;rw[h];rfl
theorem lY{l:List PV}(h:∀d∈l,m7 7 d=true):Cu (.lst l)=true:=LL (lW h)
theorem lZ(s:Tx):Cu (.str s)=true:=rfl
theorem jY{l:List PV}(h:∀d∈l,Cu d=true):eqT (.tup l) (.tup l)=some true:=(if_pos ⟨rfl,List.all_eq_true.mpr h⟩ : qF _ _=some true)
theorem jZ(s:Tx):eqT (.str s) (.str s)=some true:=congrArg some (decide_eq_true rfl)
theorem iO(bK:List It) (tO:List (Option Tx)):eqT (nV bK (tO.map aD)) (nV bK (tO.map aD))=some true:=by
 refine jY fun d hd=>?_
 rcases tK hd with rfl|rfl|rfl
 ·exact lZ _
 ·exact lY fun d hd=>by obtain⟨it,_,rfl⟩:=List.mem_map.mp hd;exact yF 5 it
 ·exact lY fun d hd=>by obtain⟨t,_,rfl⟩:=List.mem_map.mp hd;exact AL 7 t
theorem H8(st:aB){d:PV}(h:eqT d d=some true):gk .ne st (some d) (some d)=ok (.t (.bool false)) st:=by
 show jI ((eqT d d).map (!·)) st=_
 rw[h];rfl
theorem H9(st:aB){d:PV}(h:eqT d d=some true):gk .eq st (some d) (some d)=ok (.t (.bool true)) st:=by
 show jI (eqT d d) st=_
 rw[h];rfl
structure Ct where
 k:Nat
 la:List PV
 lb:PV
 Q:Option Out->Prop
noncomputable abbrev Ct.C (c:Ct):fy:=call T (c.k+20)
noncomputable def Ct.F(c:Ct):Nat->List PV->Option Pr:=Fc (c.k+20)
noncomputable abbrev Ct.W (c:Ct) (l:List PV) (P:aB):aB:=Mine.W c.la c.lb l P
noncomputable def Fw(c:Ct) (ss:List S) (v:Ve) (l:List PV) (P:aB):Prop:=Rw l->Cl P->pY 3 (Gs v)->c.Q (bO c.C ss (Gs v) (c.W l P))
noncomputable def Bd(i:Nat):List S:=(T 83).body.drop i
noncomputable def eR(M:E):E:=.bin .mod (.call 75 [.var 1]) M
section
variable {c:Ct}{ss ss':List S}{v v':Ve}{l l':List PV}{P P':aB}{s:S}{x m:Nat}{e M a b:E}{d:PV}
theorem Cl.fl{la:List PV}{lb:PV}(h:Cl P):Fl (W la lb l P):=h
theorem W3{la:List PV}{lb:PV}:3<=(W la lb l P).length:=Nat.le_add_left 3 P.length
theorem PX(h:Cl P) (e:E):Ag (c.W l P) (pe c.F 43 e v) (ev c.C e (Gs v) (c.W l P)):=ES (c.k+19) 43 e v _ h.fl
theorem jF(h:Cl P) (q:pe c.F 43 e v=some (.t d)):ev c.C e (Gs v) (c.W l P)=ok (.t d) (c.W l P):=by
 have z:=PX (c:=c) (v:=v) (l:=l) h e
 rw[q] at z
 revert z
 generalize ev c.C e (Gs v) (c.W l P)=r
 intro z
 cases z;rfl
theorem Fw.to(h:ss=ss') (H:Fw c ss' v l P):Fw c ss v l P:=h▸H
theorem Fw.re(h:Gs v=Gs v') (H:Fw c ss v' l P):Fw c ss v l P:=by unfold Fw;rw[h];exact H
theorem Fw.next(hs:ss.take 1=[s]) (he:Rw l->Cl P->pY 3 (Gs v)->(Rw l'/\Cl P'/\pY 3 (Gs v'))/\ex c.C s (Gs v) (c.W l P)=some (.next (Gs v') (c.W l' P'))) (H:Fw c (ss.drop 1) v' l' P'):Fw c ss v l P:=fun hl hc hk=>by
 obtain⟨⟨h1,h2,h3⟩,e⟩:=he hl hc hk
 have q:bO c.C ss (Gs v) (c.W l P)=bO c.C (ss.drop 1) (Gs v') (c.W l' P'):=aN 1 (by rw[hs,ah,e];rfl) rfl
 rw[q];exact H h1 h2 h3
theorem Fw.run(n:Nat) (v':Ve) (h:ET c.F (ss.take n) v=some v') (H:Fw c (ss.drop n) v' l P):Fw c ss v l P:=fun hl hc hk=>by
 have z:=PW (c.k+19) (ss.take n) v (c.W l P) v' hc.fl W3 hk h
 have q:bO c.C ss (Gs v) (c.W l P)=bO c.C (ss.drop n) (Gs v') (c.W l P):=aN n (z.a rfl) rfl
 rw[q];exact H hl hc z.ok
theorem Fw.set(hs:ss.take 1=[.assign x e]) (hx:Nat.blt x 43=true) (h:pe c.F 43 e v=some (.t d)) (H:Fw c (ss.drop 1) (bM v x d) l P):Fw c ss v l P:=.run 1 _ (by
 rw[hs]
 show(cond (Nat.blt x 43) (PS false v x (pe c.F 43 e v)) none).bind _=_
 rw[hx,h];rfl) H
theorem Fw.asg(m:Nat) (f:Nat->PV) (hs:ss.take 1=[.assign x e]) (h1:v 1=some (.r 2)) (hM:pe c.F 43 M v=some (.t (.int m))) (hm:Nat.blt 0 m=true)
  (hK:∀st st' (j:Nat),Cl P->j<m->(∀{a d},pe c.F 43 a v=some (.t d)->ev c.C a (Gs v) st=ok (.t d) st)->ev c.C (eR M) (Gs v) st=ok (.t (.int j)) st'->ev c.C e (Gs v) st=ok (.t (f j)) st') (H:∀(j:Nat) l',j<m->Fw c (ss.drop 1) (bM v x (f j)) l' P):Fw c ss v l P:=fun hl hc hk=>by
 obtain⟨i,l',a1,a2,h2,e2⟩:=yy c.la c.lb l hl P hc M (Gs v) 1 ((Gv.get rfl).trans (congrArg some h1)) m (Int.ofNat_lt.mpr (Nat.le_of_ble_eq_true hm)) (c.k+19) fun l=>jF hc hM
 obtain⟨j,rfl⟩:=Int.eq_ofNat_of_zero_le a1
 have hj:=Int.ofNat_lt.mp a2
 exact Fw.next hs (fun _ _ _=>⟨⟨h2,hc,Gs.ok hk x _⟩,by rw[aC,hK _ _ j hc hj (jF hc) e2];exact congrArg (fun g=>some (Out.next g _)) Gv.set⟩) (H j l' hj) hl hc hk
theorem TM(st st':aB) (j:Nat):Cl P->j<m->(∀{a d},pe c.F 43 a v=some (.t d)->ev c.C a (Gs v) st=ok (.t d) st)->ev c.C (eR M) (Gs v) st=ok (.t (.int j)) st'->ev c.C (eR M) (Gs v) st=ok (.t (.int j)) st':=fun _ _ _ e=>e
theorem AM(st st':aB) (j:Nat):Cl P->j<m->(∀{a d},pe c.F 43 a v=some (.t d)->ev c.C a (Gs v) st=ok (.t d) st)->ev c.C (eR M) (Gs v) st=ok (.t (.int j)) st'->ev c.C (.bin .add (.int 1) (eR M)) (Gs v) st=ok (.t (.int ((j+1:Nat):Int))) st':=fun _ _ _ e=>by
 rw[b7,bg,af,e,af,aV,aV,ya,Int.add_comm];rfl
theorem k_sub{L:List PV}{f:Nat->PV}(h:pe c.F 43 a v=some (.t (.lst L))) (hf:(List.range m).map (L[·]?)=(List.range m).map fun j=>some (f j)) (st st':aB) (j:Nat):Cl P->j<m->(∀{a d},pe c.F 43 a v=some (.t d)->ev c.C a (Gs v) st=ok (.t d) st)->ev c.C (eR M) (Gs v) st=ok (.t (.int j)) st'->ev c.C (.sub a (eR M)) (Gs v) st=ok (.t (f j)) st':=fun _ hj ha e=>by
 rw[bR,ha h,af,e,af,aV,aV,fG,List.map_inj_left.mp hf j (List.mem_range.mpr hj)];rfl
theorem Fw.ix(hs:ss.take 1=[.assign 13 (.call 78 [.var 1])]) (h1:v 1=some (.r 2)) (H:∀(ix:Ix) l',ix.ok->Fw c (ss.drop 1) (bM v 13 ix.pv) l' P):Fw c ss v l P:=fun hl hc hk=>by
 obtain⟨ix,l',hx,h2,e⟩:=index c.la c.lb l hl P hc (c.k+17)
 refine Fw.next hs (fun _ _ _=>⟨⟨h2,hc,Gs.ok hk 13 _⟩,?_⟩) (H ix l' hx) hl hc hk
 have e:c.C 78 [.r 2] (c.W l P)=ok (.t ix.pv) (c.W l' P):=e
 rw[aC,bW,aq,av,Gv.get rfl,h1,ay,af,aA,af,af,e]
 exact congrArg (fun g=>some (Out.next g _)) Gv.set
theorem AN{C:fy}{A B r:List S}{g:Gm}{st:aB}{t:Bool}(h:ev C e g st=ok (.t d) st) (ht:truth d=some t):bO C (.ifs e A B::r) g st=bO C (cond t A B++r) g st:=by
 rw[ah,aM,h,aF,nO]
 show mH (pick (truth d) C A B g st) C r=_
 rw[ht]
 induction t<;>rfl
theorem take1{s:S}(h:ss.take 1=[s]):ss=s::ss.drop 1:=(List.take_append_drop 1 ss).symm.trans (congrArg (· ++ ss.drop 1) h)
noncomputable def Q7(ss:List S):List S×List S:=match ss with| s::_=>(match s with| .ifs _ a b=>(a,b)|_=>([],[]))|_=>([],[])
noncomputable def TN(t:Bool) (ss:List S):List S:=cond t (Q7 ss).1 (Q7 ss).2++ss.drop 1
theorem Fw.ifs(t:Bool) (hs:ss.take 1=[.ifs e (Q7 ss).1 (Q7 ss).2]) (h:pe c.F 43 e v=some (.t (.bool t))) (H:Fw c (TN t ss) v l P):Fw c ss v l P:=fun hl hc hk =>
 ((congrArg (fun s=>bO c.C s (Gs v) (c.W l P)) (take1 hs)).trans (AN (jF hc h) rfl))▸H hl hc hk
theorem Fw.LM(h:ET c.F (ss.take 1) v=some (bM v x d)) (H:Fw c (ss.drop 1) (bM v x d) l P):Fw c ss v l P:=.run 1 _ h H
theorem Fw.same{A:List S}(hs:ss.take 1=[.ifs (.cmp .ne a b) A []]) (ha:pe c.F 43 a v=some (.t d)) (hb:pe c.F 43 b v=some (.t d)) (he:eqT d d=some true) (H:Fw c (ss.drop 1) v l P):Fw c ss v l P:=fun hl hc hk=>by
 have:=H hl hc hk
 rw[take1 hs,AN (t:=false) (d:=.bool false) (by rw[aG,jF hc ha,af,jF hc hb,af];exact H8 _ he) rfl];exact this
theorem Fw.ret(hs:ss.take 1=[.ret (.cmp .eq a b)]) (ha:pe c.F 43 a v=some (.t d)) (hb:pe c.F 43 b v=some (.t d)) (he:eqT d d=some true) (hq:∀st,c.Q (some (.ret (.t (.bool true)) st))):Fw c ss v l P:=fun hl hc hk=>by
 rw[take1 hs,ah,aW,aG,jF hc ha,af,jF hc hb,af,aV,H9 _ he];exact hq _
noncomputable def TQ(P:aB) (c:Ct) (I:Ve->Prop) (o:Option Out):Prop:=∃v l X,(o=some (.next (Gs v) (c.W l (P++X)))\/o=some (.cont (Gs v) (c.W l (P++X))))/\I v/\pY 3 (Gs v)/\Rw l
theorem Co(hc:Cl P) (X:aB) (hk:pY 3 (Gs v)):settle (P.length+3) (Gs v) (c.W l (P++X))=some (Gs v,c.W l P):=by
 show kj _ _ _ _=_
 unfold kj
 rw[jX fun y hy i q=>Nat.lt_of_lt_of_le (hk y hy i q) (Nat.le_add_left 3 P.length)]
 exact congrArg (fun o=>match o with| some st=>some (Gs v,st)|none=>none) (hc.fl.back X:back (c.W l P).length (c.W l P++X)=_)
noncomputable def Ct.turn(c:Ct) (P:aB) (I:Ve->Prop):Ct:=⟨c.k,c.la,c.lb,TQ P c I⟩
theorem Fw.end{I:Ve->Prop}{X:aB}(h:I v):Fw (c.turn P I) [] v l (P++X):=fun hl _ hk=>⟨v,l,X,.inl rfl,h,hk,hl⟩
theorem Fw.TP{I:Ve->Prop}(h:I v):Fw (c.turn P I) [] v l P:=fun hl _ hk=>⟨v,l,[],.inl (by rw[List.append_nil];rfl),h,hk,hl⟩
theorem Fw.cont{I:Ve->Prop}{r:List S}(h:I v):Fw (c.turn P I) (.cont::r) v l P:=fun hl _ hk=>⟨v,l,[],.inr (by rw[List.append_nil];rfl),h,hk,hl⟩
theorem AO{I:Ve->Prop}{B:List S}(hc:Cl P){items:List PV}:(∀d∈items,∀v l,I v->Fw (c.turn P I) B (bM v x d) l P)->∀v l,I v->Rw l->pY 3 (Gs v)->∃v' l',loop (bO c.C B) x (P.length+3) items (Gs v) (c.W l P)=some (Gs v',c.W l' P)/\I v'/\pY 3 (Gs v')/\Rw l':=by
 induction items with
 |nil=>exact fun _ v l h hl hk=>⟨v,l,rfl,h,hk,hl⟩
 |cons d ds ih =>
  intro hb v l h hl hk
  obtain⟨v1,l1,X,e,h1,k1,r1⟩:=hb d (.head _) v l h hl hc (Gs.ok hk x d)
  obtain⟨v2,l2,e2,z⟩:=ih (fun d q=>hb d (.tail _ q)) v1 l1 h1 r1 k1
  have e:bO c.C B (Gs (bM v x d)) (c.W l P)=_\/bO c.C B (Gs (bM v x d)) (c.W l P)=_:=e
  rw[show Gs (bM v x d)=(Gs v).set x (some (.t d)) from Gv.set.symm] at e
  exact⟨v2,l2,(ux ⟨_,_,e,Co hc X k1⟩).trans e2,z⟩
theorem Fw.gp{I:Ve->Prop}{B:List S}{items:List PV}(hs:ss.take 1=[.gp x e B]) (h:pe c.F 43 e v=some (.t (.lst items))) (hi:I v) (hb:∀d∈items,∀v l,I v->Fw (c.turn P I) B (bM v x d) l P) (H:∀v l,I v->Fw c (ss.drop 1) v l P):Fw c ss v l P:=fun hl hc hk=>by
 obtain⟨v',l',q,h1,k1,r1⟩:=AO hc hb v l hi hl hk
 exact Fw.next hs (fun _ _ _=>⟨⟨r1,hc,k1⟩,eS (jF hc h) rfl rfl q⟩) (H v' l' h1) hl hc hk
theorem Fw.forR{I:Ve->Prop}{B:List S}(m:Nat) (hs:ss.take 1=[.forR x [.bin .add (.int 1) (eR (.int m))] B]) (h1:v 1=some (.r 2)) (hm:Nat.blt 0 m=true) (Mz:Nat.ble m 2000=true) (hi:I v) (hb:∀d v l,I v->Fw (c.turn P I) B (bM v x d) l P) (H:∀v l,I v->Fw c (ss.drop 1) v l P):Fw c ss v l P:=fun hl hc hk=>by
 obtain⟨i,l1,a1,a2,h2,e2⟩:=ef c.la c.lb l hl P hc (Gs v) 1 ((Gv.get rfl).trans (congrArg some h1)) m (Int.ofNat_lt.mpr (Nat.le_of_ble_eq_true hm)) (c.k+19)
 obtain⟨j,rfl⟩:=Int.eq_ofNat_of_zero_le a1
 obtain⟨v',l',q,h3,k1,r1⟩:=AO hc (items:=(List.range (j+1)).map fun(k:Nat)=>PV.int k) (fun d _=>hb d) v l1 hi h2 hk
 have e:=AM (c:=c) (v:=v) (M:=.int m) (P:=P) (m:=m) _ _ j hc (Int.ofNat_lt.mp a2) (jF hc) e2
 exact Fw.next hs (fun _ _ _=>⟨⟨r1,hc,k1⟩,kZ (st1:=c.W l1 P) (by rw[aq,e,af,aA,af]) (nP (Nat.le_trans (Int.ofNat_lt.mp a2) (Nat.le_of_ble_eq_true Mz))) q⟩) (H v' l' h3) hl hc hk
end
noncomputable def Vn:Except Tx PV->Pr
 |.ok d=>.t d
 |.error m=>.x m
noncomputable def PY:Except Tx PV->PV
 |.ok d=>d
 |.error m=>.str m
noncomputable def n7(F:Nat->List PV->Option Pr) (p:Option Pr):Option Pr:=(i6 (AJ p) (some [])).bind (F 81)
section
variable {c:Ct}{F:Nat->List PV->Option Pr}{v:Ve}
theorem jf{f:Nat}{ds:List PV}{d:PV}(hr:(T f).ref=false) (h:call T (c.k+20) f (ds.map AV.t) []=ok (.t d) []):c.F f ds=some (.t d):=by
 unfold Ct.F Fc
 rw[hr,h];rfl
theorem n8{f:Nat}{ds:List PV}{D:Except Tx PV}(hr:(T f).ref=false) (h:call T (c.k+20) f (ds.map AV.t) []=resT D []):c.F f ds=some (Vn D):=by
 unfold Ct.F Fc
 rw[hr,h];induction D<;>rfl
theorem told{f:Nat}{ds:List PV}{D:Except Tx PV}(h:F f ds=some (Vn D)):n7 F (F f ds)=F 81 [PY D]:=by rw[h];induction D<;>rfl
theorem sH{α:Type}{f:PV->Option Pr}{enc g:α->PV}(h:∀a,je (f (enc a))=some (g a)):∀L:List α,m6 f (L.map enc)=some (L.map g)
 |[]=>rfl
 |a::L=>by
  rw[List.map_cons,List.map_cons,m6,h a,sH h L];rfl
theorem j0{α:Type}{x:Nat}{src e:E}{L:List α}{enc:α->PV}(g:α->PV) (hs:pe F 43 src v=some (.t (.lst (L.map enc)))) (h:∀a,je (pe F 43 e (bM v x (enc a)))=some (g a)):pe F 43 (.comp x src none e) v=some (.f (.lst (L.map g))):=by
 show Mine.tb (pe F 43 src v) (fun d=>(mw d).bind fun items=>(m6 (fun it=>pe F 43 e (bM v x it)) items).bind g7)=_
 rw[hs]
 show(m6 (fun it=>pe F 43 e (bM v x it)) (L.map enc)).bind g7=_
 rw[sH h];rfl
theorem EV{x:Nat}{a e:E}{n:Nat}(g:Nat->PV) (hn:n<=2000) (hs:pe F 43 a v=some (.t (.int n))) (h:∀i:Nat,je (pe F 43 e (bM v x (.int i)))=some (g i)):pe F 43 (.cO x [a] none e) v=some (.f (.lst ((List.range n).map g))):=by
 show(i6 (pe F 43 a v) (some [])).bind (fun ds=>(sR (ds.map AV.t)).bind fun items=>(m6 (fun it=>pe F 43 e (bM v x it)) items).bind g7)=_
 rw[hs]
 show(sR [.t (.int n)]).bind (fun items=>(m6 (fun it=>pe F 43 e (bM v x it)) items).bind g7)=_
 rw[nP hn]
 show(m6 (fun it=>pe F 43 e (bM v x it)) ((List.range n).map fun(k:Nat)=>PV.int k)).bind g7=_
 rw[sH (enc:=fun(k:Nat)=>PV.int k) h];rfl
noncomputable def YO(o:Cm) (p q a b:Option Pr):Option Pr:=tb (tb (tb p fun d=>tb (some (.t .none)) fun e=>jl (qG .eg d e)) fun d=>Ci d (tb p fun d=>tb q fun e=>jl (qG o d e)) (some (.t d))) fun d=>Ci d a b
noncomputable def Jk(o:Cm) (x y a b:E):E:=.ite (.and [.cmp .eg x .none,.cmp o x y]) a b
theorem PZ(o:Cm) (x y a b:E):pe F 43 (Jk o x y a b) v=YO o (pe F 43 x v) (pe F 43 y v) (pe F 43 a v) (pe F 43 b v):=rfl
theorem uP{x n:Nat}{y a b:E}{L:List PV}{dv:PV}(o:Cm) (ho:∀i:Nat,A3 o i n=decide (i<L.length)) (hc:∀i:Nat,qG o (.int i) (.int n)=some (A3 o i n)) (h0:∀it,pe F 43 (.var x) (bM v x it)=some (.t it)) (h1:∀it,pe F 43 y (bM v x it)=some (.t (.int n)))
  (h2:∀i:Nat,i<L.length->je (pe F 43 a (bM v x (.int i)))=L[i]?) (h3:∀it,je (pe F 43 b (bM v x it))=some dv) (p:Option Nat):je (pe F 43 (Jk o (.var x) y a b) (bM v x (cF p)))=some (aT L dv p):=by
 rw[PZ,h0,h1]
 induction p with
 |none=>exact h3 _
 |some i =>
  show je (tb (Ci (.bool true) (jl (qG o (.int i) (.int n))) _) fun d=>Ci d _ _)=_
  rw[hc,ho]
  by_cases h:i<L.length
  ·rw[decide_eq_true h,wo L dv h,<-List.getElem?_eq_getElem h,<-h2 i h];rfl
  ·rw[decide_eq_false h,rX L dv (Nat.le_of_not_lt h),<-h3 (cF (some i))];rfl
theorem AP(n:Nat) (i:Nat):A3 .lt i n=decide (i<n):=decide_eq_decide.mpr Int.ofNat_lt
end
section
variable {c:Ct}{ss:List S}{v:Ve}{l:List PV}{P:aB}{x:Nat}{e:E}{d:PV}
theorem Fw.wO(hs:ss.take 1=[.cut 3 (.assign x e)]) (hx:Nat.blt x 43=true) (h:je (pe c.F 43 e v)=some d) (H:Fw c (ss.drop 1) (bM v x d) l P):Fw c ss v l P:=.run 1 _ (by
 rw[hs]
 show(cond (Nat.blt x 43) (PS true v x (pe c.F 43 e v)) none).bind _=_
 rw[hx]
 revert h
 generalize pe c.F 43 e v=p
 intro h
 induction p with
 |none=>injection h
 |some p=>cases p<;>cases h<;>rfl) H
theorem AQ{α:Type}{a:E}{n:Nat}(Pr:α->Prop) (enc:α->PV) (hl:Rw l) (hc:Cl P) (hn:n<=2000) (h:pe c.F 43 a v=some (.t (.int n)))
  (ht:∀d l,Rw l->∃y l',Pr y/\Rw l'/\ev c.C e (Gs (bM v x d)) (c.W l P)=ok (.t (enc y)) (c.W l' P)) :
  ∃(as:List α) (l':List PV),as.length=n/\(∀y∈as,Pr y)/\Rw l'/\ev c.C (.cO x [a] none e) (Gs v) (c.W l P)=ok (.r (P.length+3)) (c.W l' P++[.lst (as.map enc)]):=by
 obtain⟨as,l',h1,h2,h3,h4⟩:=gK (f:=dM c.C x none e (Gs v)) Pr enc c.la c.lb P (fun d l hl=>by
  obtain⟨y,l',q1,q2,q3⟩:=ht d l hl
  refine⟨y,l',c.W l' P,q1,q2,?_,hc.fl.AI⟩
  unfold dM
  rw[j9,af,if_pos rfl,show(Gs v).set x (some (.t d))=Gs (bM v x d) from Gv.set,q3];rfl) ((List.range n).map fun(k:Nat)=>PV.int k) l hl
 refine⟨as,l',h1.trans (by rw[List.length_map,List.length_range]),h2,h3,?_⟩
 rw[gZ (st1:=c.W l P) (as:=[.t (.int n)]) (by rw[aq,jF hc h,af,aA,af]) (nP hn) h4,bS];rfl
theorem Fw.P0(hs:ss.take 1=[.cut 3 (.assign x e)]) (hx:Nat.blt x 43=true) (he:Rw l->Cl P->∃l' L,Rw l'/\ev c.C e (Gs v) (c.W l P)=ok (.r (P.length+3)) (c.W l' P++[.lst L])/\Fw c (ss.drop 1) (bM v x (.lst L)) l' P):Fw c ss v l P:=fun hl hc hk=>by
 obtain⟨l',L,h1,h2,H⟩:=he hl hc
 refine Fw.next hs (fun _ _ _=>⟨⟨h1,hc,Gs.ok hk x _⟩,?_⟩) H hl hc hk
 have e1:ex c.C (.assign x e) (Gs v) (c.W l P)=some (.next ((Gs v).set x (some (.r (P.length+3)))) (c.W l' P++[.lst L])):=by rw[aC,h2];rfl
 have hf:i8 cT (c.W l' P++[.lst L]) (.r (P.length+3))=some (.lst L,c.W l' P++[.fz (.lst L)]):=by
  have:=iJ (c.W l' P) (.lst L) []
  have q:=iK (c.W l' P) (.lst L) (.fz (.lst L)) []
  simp only[cT,i8,show P.length+3=(c.W l' P).length from rfl,this,q]
 show qK 3 (ex c.C (.assign x e)) (Gs v) (c.W l P)=_
 unfold qK
 rw[e1]
 dsimp only
 rw[if_pos W3]
 unfold kj
 rw[ic (fun q=>Nat.not_lt.mpr (Nat.le_add_left 3 P.length) q) hf hk (Gs.len▸Nat.le_of_ble_eq_true hx),Gv.set]
 dsimp only
 rw[show(c.W l P).length=(c.W l' P).length from rfl,hc.fl.back];rfl
theorem Gs.bM{v w:Ve}(h:Gs v=Gs w) (x:Nat) (d:PV):Gs (bM v x d)=Gs (Mine.bM w x d):=Gv.set.symm.trans ((congrArg (fun g=>List.set g x (some (.t d))) h).trans Gv.set)
end
noncomputable def up1(u:Ve):Ve:=fun j=>cond (Nat.beq j 1) (some (.r 2)) (u j)
noncomputable def vA(m:Nat) (u:Ve):Ve:=bM (up1 u) 2 (.int (m:Nat))
noncomputable def Ia(m:Nat):List PV:=(aO m).map It.pv
noncomputable def EW(ts:List (Option Tx)):PV:=.lst ((none::ts).map eU)
noncomputable def Vo(ts:List (Option Tx)):PV:=.lst ((none::ts).map aD)
noncomputable def LN(m:Nat) (ts:List (Option Tx)):PV:=nV (aO m) ((none::ts).map aD)
noncomputable def V(m:Nat) (ts:List (Option Tx)) (u:Ve):Ve:=bM (bM (bM (bM (bM (vA m u) 4 (Vo ts)) 7 (mh m (none::ts))) 8 (LN m ts)) 9 (.int ((m+1:Nat):Int))) 11 (EW ts)
theorem i7{v:Ve}{i x:Nat}{a d:PV}(h:Nat.beq x i=false):bM (bM v i a) x d=bM (bM v x d) i a:=funext fun j=>by
 unfold bM
 cases hx:Nat.beq j x with
 |false=>rfl
 |true=>rw[Nat.eq_of_beq_eq_true hx,h];rfl
theorem yG{v:Ve}{x:Nat}{d:PV}(h:Nat.beq x 1=false):bM (up1 v) x d=up1 (bM v x d):=funext fun j=>by
 show cond (Nat.beq j x) _ (cond (Nat.beq j 1) _ (v j))=cond (Nat.beq j 1) _ (cond (Nat.beq j x) _ (v j))
 cases hx:Nat.beq j x with
 |false=>rfl
 |true=>rw[Nat.eq_of_beq_eq_true hx,h];rfl
noncomputable def IV(m:Nat) (ts:List (Option Tx)) (v:Ve):Prop:=∃u,Gs v=Gs (V m ts u)
theorem IV.set{m x:Nat}{ts:List (Option Tx)}{v:Ve}(h:IV m ts v) (d:PV) (hx:[1,2,4,7,8,9,11].map (Nat.beq x)=[false,false,false,false,false,false,false]):IV m ts (bM v x d):=by
 obtain⟨u,e⟩:=h
 simp only[List.map_cons,List.cons.injEq] at hx
 obtain⟨h1,h2,h4,h7,h8,h9,IF,_⟩:=hx
 refine⟨bM u x d,(Gs.bM e x d).trans (congrArg Gs ?_)⟩
 unfold V vA
 rw[i7 IF,i7 h9,i7 h8,i7 h7,i7 h4,i7 h2,yG h1]
noncomputable def LP:List (Option Tx):=[none,some pQ,some pR,some jN]
theorem LQ{ts:List (Option Tx)}(h:∀a∈ts,a∈LP) (hl:ts.length<5):jT (none::ts):=⟨Nat.lt_trans (Nat.succ_lt_succ hl) (by decide),fun s hs=>by
 cases hs with
 |tail _ hs=>exact(by decide:∀a∈LP,∀s,a=some s->s≠[]/\s≠b9) _ (h _ hs) s rfl⟩
noncomputable def e4:E:=.bin .add (.pure (.list [.none])) (.pure (.cO 3 [.var 2] none (.sub (.pure (.list [.none,.str pQ,.str pR,.str jN])) (eR (.int 4)))))
noncomputable def e6:E:=.bin .add (.pure (.list [.pure (.new .symbol 4 [.str SY])])) (.pure (.cO 5 [.var 2] none (.ite (.cmp .ne (.var 5) (.int 2)) (.pure (.new .aJ 2 [.str aa,.pure (.list [.var 5])])) (.pure (.new .symbol 4 [.str S0])))))
noncomputable def YQ:E:=.comp 10 (.var 4) none (.ite (.cmp .is (.var 10) .none) (.str []) (.var 10))
theorem YR{F:Nat->List PV->Option Pr}(m:Nat) (hm:m<5) (u:Ve) (t:PV):je (pe F 43 e6 (bM (vA m u) 4 t))=some (.lst (Ia m)):=by
 match m,hm with
 |0,_=>kernel_rfl
 |1,_=>kernel_rfl
 |2,_=>kernel_rfl
 |3,_=>kernel_rfl
 |4,_=>kernel_rfl
section
variable {c:Ct}{l:List PV}
theorem Mx(m:Nat) (hm:m<5) (u:Ve) (hl:Rw l):∃(ts:List (Option Tx)) (l':List PV),ts.length=m/\jT (none::ts)/\Rw l'/\ev c.C e4 (Gs (vA m u)) (c.W l [])=ok (.r 3) (c.W l' []++[.lst ((none::ts).map aD)]):=by
 obtain⟨ts,l',h1,h2,h3,h4⟩:=AQ (c:=c) (v:=vA m u) (a:=.var 2) (x:=3) (e:=.sub (.pure (.list [.none,.str pQ,.str pR,.str jN])) (eR (.int 4))) (· ∈ LP) aD hl (P:=[]) rfl (n:=m) (by omega) rfl fun d l hl=>by
  obtain⟨i,l',a1,a2,r,e⟩:=ef c.la c.lb l hl [] rfl (Gs (bM (vA m u) 3 d)) 1 rfl 4 (by decide) (c.k+19)
  obtain⟨j,rfl⟩:=Int.eq_ofNat_of_zero_le a1
  have hj:j<4:=Int.ofNat_lt.mp a2
  have q:=k_sub (c:=c) (v:=bM (vA m u) 3 d) (M:=.int 4) (a:=.pure (.list [.none,.str pQ,.str pR,.str jN])) (P:=[]) (L:=LP.map aD) (f:=fun j=>aD (LP.getD j none)) rfl rfl (c.W l []) (c.W l' []) j rfl hj (jF rfl) e
  exact⟨LP.getD j none,l',List.getD_eq_getElem?_getD▸(by rw[List.getElem?_eq_getElem (show j<LP.length from hj)];exact List.getElem_mem _),r,q⟩
 refine⟨ts,l',h1,LQ h2 (h1▸hm),h3,?_⟩
 unfold e4
 have hp:ev c.C (.pure (.cO 3 [.var 2] none (.sub (.pure (.list [.none,.str pQ,.str pR,.str jN])) (eR (.int 4))))) (Gs (vA m u)) (c.W l [])=ok (.t (.lst (ts.map aD))) (c.W l' []):=by
  show R.bind (ev c.C (.cO 3 _ none _) (Gs (vA m u)) (c.W l [])) _=_
  rw[h4];rfl
 rw[b7,jF (P:=[]) (d:=.lst [.none]) rfl rfl,af,hp,af]
 show(if[PV.none].length+(ts.map aD).length<=lim then alloc _ (.lst ([PV.none]++ts.map aD)) else none)=_
 rw[if_pos (by rw[List.length_map,h1];exact Nat.le_trans (Nat.add_le_add_left (Nat.le_of_lt hm) 1) (by decide))];rfl
theorem TR(v:Ve) (hv:∀m,Gs (bM v 2 (.int (m:Nat)))=Gs (vA m v)) (h1:v 1=some (.r 2)) (H:∀m ts u l,m<5->ts.length=m->jT (none::ts)->Fw c (Bd 8) (V m ts u) l []):Fw c (Bd 1) v l []:=by
 refine .asg (x:=2) (M:=.int 5) 5 (fun j=>.int j) (by kernel_rfl) h1 rfl rfl TM fun m l hm=>?_
 refine .re (hv m) (.P0 (e:=e4) (x:=4) (by kernel_rfl) rfl fun hl hc=>?_)
 obtain⟨ts,l1,q1,q2,q3,q4⟩:=Mx m hm v hl
 refine⟨l1,_,q3,q4,.wO (x:=6) (e:=e6) (by kernel_rfl) rfl (YR m hm v _) ?_⟩
 refine .wO (x:=7) (e:=.new .call 5 [.var 6,.var 4]) (d:=mh m (none::ts)) (by kernel_rfl) rfl (by kernel_rfl) ?_
 refine .set (x:=8) (e:=.call 81 [.var 7]) (d:=LN m ts) (by kernel_rfl) rfl ((by kernel_rfl:_=c.F 81 [mh m (none::ts)]).trans (jf rfl (gH (c.k+17) (aO m) ((none::ts).map aD) []))) ?_
 refine .set (x:=9) (e:=.bi .len [.var 6]) (d:=.int ((m+1:Nat):Int)) (by kernel_rfl) rfl ((by kernel_rfl:_=some (Pr.t (.int ((Ia m).length:Nat)))).trans (by unfold Ia;rw[List.length_map,gh m hm])) ?_
 refine .wO (x:=11) (e:=YQ) (d:=EW ts) (by kernel_rfl) rfl (congrArg je (j0 (L:=none::ts) (enc:=aD) eU (by kernel_rfl) fun a=>by induction a<;>kernel_rfl)) ?_
 exact .to (ss':=Bd 8) (by kernel_rfl) (.re (v':=V m ts (bM v 6 (.lst (Ia m)))) (by kernel_rfl) (H m ts _ l1 hm q1 q2))
end
noncomputable def Q8(bK:List It) (p:Option Nat):It:=(p.bind (bK[·]?)).getD .null
theorem EX{α:Type}(f:α->PV) (L:List α) (d:α) (p:Option Nat):aT (L.map f) (f d) p=f ((p.bind (L[·]?)).getD d):=by
 unfold aT
 induction p with
 |none=>rfl
 |some i=>simp only[Option.bind];rw[List.getElem?_map];cases L[i]?<;>rfl
noncomputable def pZ(bK:List It) (tO:List (Option Tx)) (pl:List (Option Nat)):PV:=if pl.length=0 then .str bq else nV (pl.map (Q8 bK)) ((pl.map fun p=>(p.bind (tO[·]?)).getD none).map aD)
theorem jG{α:Type}(f:α->PV) (L:List α) (d:α) (pl:List (Option Nat)):pl.map (aT (L.map f) (f d))=(pl.map fun p=>(p.bind (L[·]?)).getD d).map f:=by
 rw[List.map_map];exact List.map_congr_left fun p _=>EX f L d p
theorem Cp(k:Nat) (bK:List It) (tO:List (Option Tx)) (pl:List (Option Nat)) (st:aB):call T (k+3) 81 [.t (yq bK tO pl)] st=ok (.t (pZ bK tO pl)) st:=by
 unfold yq pZ
 by_cases h:pl.length=0
 ·rw[if_pos h,if_pos h];exact nU (k+1) .null st
 ·rw[if_neg h,if_neg h,show cW=It.pv .null from rfl,show PV.none=aD none from rfl,jG It.pv bK .null,jG aD tO none]
  exact gH k _ _ st
theorem EY(bK:List It) (tO:List (Option Tx)) (pl:List (Option Nat)):eqT (pZ bK tO pl) (pZ bK tO pl)=some true:=by
 unfold pZ
 by_cases h:pl.length=0
 ·rw[if_pos h];exact jZ _
 ·rw[if_neg h];exact iO _ _
noncomputable def fh(ix:Ix):Bool:=match ix with| .missing=>true|_=>false
theorem qz{ix:Ix}(h:fh ix=false):ix≠.missing:=fun e=>by subst e;injection h
theorem j5{ix:Ix}(h:fh ix=true):ix=.missing:=by cases ix<;>first| rfl|injection h
section
variable {c:Ct}{F:Nat->List PV->Option Pr}{v u:Ve}{l:List PV}{m:Nat}{ts:List (Option Tx)}{x y t:PV}{ix:Ix}
theorem AR(v:Ve):pe F 43 (.cmp .eq (.attr (.var 13) aj) (.str bF)) (bM (bM (bM v 13 ix.pv) 14 x) 15 y)=some (.t (.bool (fh ix))):=by induction ix<;>kernel_rfl
theorem TS(n:Nat) (hn:n<1000) (o:Option (List (Option Tx))) (hx:ix.ok):c.F 80 [ix.pv,.int n,fM o,.bool false]=some (.t (jE (iG n o ix))):=jf rfl ((HD (c.k+18) ix hx n hn o []).trans (by cases iG n o ix<;>rfl))
noncomputable def Jl(m:Nat) (ts:List (Option Tx)) (D:Except Tx (List (Option Nat))):PV:=match D with| .error e=>.str e|.ok pl=>pZ (aO m) (none::ts) pl
noncomputable def uQ(m:Nat) (ts:List (Option Tx)) (ix:Ix) (D:Except Tx (List (Option Nat))):PV:=cond (fh ix) (LN m ts) (Jl m ts D)
noncomputable def D8(m:Nat) (ts:List (Option Tx)) (ix:Ix):Except Tx (List (Option Nat)):=iG (m+1) (some ((none::ts).map sj)) ix
theorem LS(hm:m<5) (ht:jT (none::ts)) (hx:ix.ok):n7 c.F (c.F 43 [mh m (none::ts),.lst [ix.pv],.bool true,.bool true])=some (.t (uQ m ts ix (D8 m ts ix))):=by
 cases hi:fh ix with
 |true =>
  cases j5 hi
  exact(told (n8 (D:=.ok (mh m (none::ts))) rfl (tD (c.k+12) (aO m) (none::ts) []))).trans (jf rfl (gH (c.k+17) (aO m) ((none::ts).map aD) []))
 |false =>
  have h:=Ez (c.k+12) (aO m) (by rw[gh m hm];omega) (none::ts) ht ix hx (qz hi) []
  rw[gh m hm] at h
  refine(told (n8 rfl h)).trans (jf rfl ?_)
  unfold uQ D8
  rw[hi]
  cases iG (m+1) (some ((none::ts).map sj)) ix with
  |error e=>exact lg (c.k+18) e _
  |ok pl=>exact Cp (c.k+17) (aO m) (none::ts) pl _
noncomputable def b8:List S:=bodyOf (T 83).body 8
noncomputable def YS:E:=.call 81 [.kept (.call 43 [.var 7,.pure (.list [.var 13]),.bool true,.bool true])]
noncomputable def Vp:E:=.comp 17 (.sub (.var 14) (.int 0)) none (Jk .lt (.var 17) (.var 9) (.sub (.sub (.var 8) (.int 1)) (.var 17)) (.str bq))
noncomputable def TU:E:=.comp 19 (.sub (.var 14) (.int 0)) none (Jk .lt (.var 19) (.var 9) (.sub (.var 4) (.var 19)) .none)
noncomputable def vB(m:Nat) (ts:List (Option Tx)) (u:Ve) (a b d:PV):Ve:=bM (bM (bM (V m ts u) 13 a) 14 b) 15 d
theorem TV{pl:List (Option Nat)}(hm:m<5):pe F 43 Vp (vB m ts u x (jE (.ok pl)) y)=some (.f (.lst ((pl.map (Q8 (aO m))).map It.view))):=by
 have hl:((aO m).map It.view).length=m+1:=by rw[List.length_map,gh m hm]
 have z:=j0 (F:=F) (v:=vB m ts u x (jE (.ok pl)) y) (x:=17) (src:=.sub (.var 14) (.int 0)) (L:=pl) (enc:=cF) (aT ((aO m).map It.view) (.str bq)) (by kernel_rfl) (uP (n:=m+1) (y:=.var 9) (a:=.sub (.sub (.var 8) (.int 1)) (.var 17)) (b:=.str bq) .lt (fun i=>hl.symm▸AP (m+1) i) (fun i=>rfl) (fun it=>rfl) (fun it=>by kernel_rfl) (fun i _=>(by kernel_rfl:_=je ((((aO m).map It.view)[i]?).map Pr.t)).trans (by cases((aO m).map It.view)[i]?<;>rfl)) fun it=>rfl)
 rw[show PV.str bq=It.view .null from rfl,jG It.view (aO m) .null] at z
 exact z
theorem TX{pl:List (Option Nat)}(hl:ts.length=m) (w:PV):pe F 43 TU (bM (vB m ts u x (jE (.ok pl)) y) 18 w)=some (.f (.lst ((pl.map fun p=>(p.bind ((none::ts)[·]?)).getD none).map aD))):=by
 have hl:((none::ts).map aD).length=m+1:=by rw[List.length_map,List.length_cons,hl]
 have z:=j0 (F:=F) (v:=bM (vB m ts u x (jE (.ok pl)) y) 18 w) (x:=19) (src:=.sub (.var 14) (.int 0)) (L:=pl) (enc:=cF) (aT ((none::ts).map aD) .none) (by kernel_rfl) (uP (n:=m+1) (y:=.var 9) (a:=.sub (.var 4) (.var 19)) (b:=.none) .lt (fun i=>hl.symm▸AP (m+1) i) (fun i=>rfl) (fun it=>rfl) (fun it=>by kernel_rfl) (fun i _=>(by kernel_rfl:_=je ((((none::ts).map aD)[i]?).map Pr.t)).trans (by cases((none::ts).map aD)[i]?<;>rfl)) fun it=>rfl)
 rw[show PV.none=aD none from rfl,jG aD (none::ts) none] at z
 exact z
theorem IV.base(u:Ve):IV m ts (V m ts u):=⟨u,rfl⟩
theorem Q9(u:Ve) (a b d:PV):IV m ts (vB m ts u a b d):=(((IV.base u).set a rfl).set b rfl).set d rfl
noncomputable def tupP(q:Option Pr) (d:PV):Option Pr:=(i6 (some (.t (.str aI))) (i6 (some (.t d)) (i6 (uN q) (some [])))).bind fun ds=>some (.t (.tup ds))
noncomputable def P4:E:=.tup [.str aI,.var 18,.pure TU]
theorem LU(w:Ve) (d:PV):pe F 43 P4 (bM w 18 d)=tupP (pe F 43 TU (bM w 18 d)) d:=by kernel_rfl
theorem LV{pl:List (Option Nat)}:pe F 43 (.cmp .eq (.sub (.var 14) (.int 0)) (.pure (.list []))) (vB m ts u x (jE (.ok pl)) y)=some (.t (.bool (decide (pl.length=0)))) :=
 (by kernel_rfl:_=jl (eqT (.lst (pl.map cF)) (.lst []))).trans (by rw[wj,List.length_map];rfl)
theorem Ib{ss:List S}{w:Ve}{tv:PV}(hs:ss=[.ifs (.cmp .ne (.var 15) (.var 16)) [.bad] []]) (h:IV m ts w) (YT:pe (c.turn [] (IV m ts)).F 43 (.var 15) w=some (.t tv)) (YU:pe (c.turn [] (IV m ts)).F 43 (.var 16) w=some (.t tv)) (he:eqT tv tv=some true):Fw (c.turn [] (IV m ts)) ss w l []:=by
 subst hs
 exact .same rfl YT YU he (.TP h)
theorem P5(hm:m<5) (hl:ts.length=m) (D:Except Tx (List (Option Nat))) (hD:fh ix=true->D=.ok ((List.range (m+1)).map some)):Fw (c.turn [] (IV m ts)) (b8.drop 3) (vB m ts u ix.pv (jE D) (uQ m ts ix D)) l []:=by
 cases hi:fh ix with
 |true =>
  cases j5 hi
  cases hD rfl
  refine .ifs (e:=.bi .isStr [.var 14]) false (by kernel_rfl) (by kernel_rfl) (.ifs true (by kernel_rfl) (AR _) (.LM (x:=16) (d:=LN m ts) (by kernel_rfl) (Ib (tv:=LN m ts) (by kernel_rfl) ((Q9 u _ _ _).set _ rfl) (by kernel_rfl) (by kernel_rfl) (iO _ _))))
 |false =>
  have ht:uQ m ts ix D=Jl m ts D:=by unfold uQ;rw[hi];rfl
  rw[ht]
  induction D with
  |error e=>exact .ifs (e:=.bi .isStr [.var 14]) true (by kernel_rfl) (by kernel_rfl) (.LM (x:=16) (d:=.str e) (by kernel_rfl) (Ib (tv:=.str e) (by kernel_rfl) ((Q9 u _ _ _).set _ rfl) (by kernel_rfl) (by kernel_rfl) (jZ e)))
  |ok pl =>
   have he:=EY (aO m) (none::ts) pl
   refine .ifs (e:=.bi .isStr [.var 14]) false (by kernel_rfl) (by kernel_rfl) (.ifs false (by kernel_rfl) ((AR _).trans (by rw[hi])) (.ifs (decide (pl.length=0)) (by kernel_rfl) LV ?_))
   revert he
   show _->Fw _ _ (vB m ts u ix.pv (jE (.ok pl)) (pZ (aO m) (none::ts) pl)) _ _
   generalize hp:pZ (aO m) (none::ts) pl=tv
   intro he
   by_cases h0:pl.length=0
   ·rw[decide_eq_true h0]
    obtain rfl:.str bq=tv:=by rw[<-hp];exact(if_pos h0).symm
    exact .LM (x:=16) (d:=.str bq) (by kernel_rfl) (Ib (by kernel_rfl) ((Q9 u _ _ _).set _ rfl) (by kernel_rfl) (by kernel_rfl) he)
   ·rw[decide_eq_false h0]
    refine .wO (x:=18) (e:=Vp) (by kernel_rfl) rfl (congrArg je (TV hm)) (.set (x:=16) (e:=P4) (d:=tv) (by kernel_rfl) rfl ((LU _ _).trans ?_) (Ib (by kernel_rfl) (((Q9 u _ _ _).set _ rfl).set _ rfl) (by kernel_rfl) (by kernel_rfl) he))
    rw[TX hl,<-hp]
    exact congrArg (fun d=>some (Pr.t d)) (if_neg h0).symm
theorem P6(hm:m<5) (hl:ts.length=m) (ht:jT (none::ts)) (h:IV m ts v) (d:PV):Fw (c.turn [] (IV m ts)) b8 (bM v 12 d) l []:=by
 obtain⟨u,hu⟩:=h
 refine .re ((Gs.bM hu 12 d).trans (by kernel_rfl:_=Gs (V m ts (bM u 12 d)))) ?_
 generalize bM u 12 d=u
 refine .ix (by kernel_rfl) (by kernel_rfl) fun ix l hx=>?_
 refine .set (x:=14) (e:=.call 80 [.var 13,.var 9,.var 11,.bool false]) (d:=jE (D8 m ts ix)) (by kernel_rfl) rfl ((by kernel_rfl:_=(c.turn [] (IV m ts)).F 80 [ix.pv,.int (m+1:Nat),EW ts,.bool false]).trans ?_) ?_
 ·have:=TS (c:=c.turn [] (IV m ts)) (m+1) (by omega) (some ((none::ts).map sj)) hx
  rwa [show fM (some ((none::ts).map sj))=EW ts from(congrArg PV.lst (zO _)).symm] at this
 refine .set (x:=15) (e:=YS) (d:=uQ m ts ix (D8 m ts ix)) (by kernel_rfl) rfl ((by kernel_rfl:_=n7 (c.turn [] (IV m ts)).F ((c.turn [] (IV m ts)).F 43 [mh m (none::ts),.lst [ix.pv],.bool true,.bool true])).trans (LS hm ht hx)) ?_
 exact .to (ss':=b8.drop 3) (by kernel_rfl) (P5 hm hl _ fun hi=>by cases j5 hi;rfl)
theorem TY(hm:m<5) (hl:ts.length=m) (ht:jT (none::ts)) (H:∀u l,Fw c (Bd 9) (V m ts u) l []):Fw c (Bd 8) (V m ts u) l [] :=
 .forR (x:=12) (I:=IV m ts) (B:=b8) 2 (by kernel_rfl) rfl rfl rfl ⟨u,rfl⟩ (fun d v l h=>P6 hm hl ht h d) fun v l ⟨u,h⟩=>.re h (.to (ss':=Bd 9) (by kernel_rfl) (H u l))
end
section
variable {c:Ct}{F:Nat->List PV->Option Pr}{v u:Ve}{l:List PV}{P:aB}{m j p:Nat}{ts:List (Option Tx)}{d e x y:PV}{ss:List S}{a b:E}
theorem Fw.iv(h:IV m ts v) (H:∀u,Fw c ss (V m ts u) l P):Fw c ss v l P:=by
 obtain⟨u,h⟩:=h
 exact .re h (H u)
theorem Fw.LW(n:Nat){v':Ve}(h:(ET c.F (ss.take n) v).map Gs=some (Gs v')) (H:Fw c (ss.drop n) v' l P):Fw c ss v l P:=by
 obtain⟨w,h1,h2⟩:=Option.map_eq_some_iff.mp h
 exact .run n w h1 (.re h2 H)
theorem n9(ha:pe F 43 a v=some (.t d)) (hb:pe F 43 b v=some (.t d)) (he:eqT d d=some true):pe F 43 (.cmp .ne a b) v=some (.t (.bool false)):=by
 show Mine.tb (pe F 43 a v) (fun d=>Mine.tb (pe F 43 b v) fun e=>jl ((eqT d e).map (!·)))=_
 rw[ha,hb]
 show jl ((eqT d d).map (!·))=_
 rw[he];rfl
theorem P7(ha:pe F 43 a v=some (.t (.bool false))) (hb:pe F 43 b v=some (.t (.bool false))):pe F 43 (.or [a,b]) v=some (.t (.bool false)):=by
 show Mine.tb (pe F 43 a v) (fun d=>Ci d (some (.t d)) (pe F 43 b v))=_
 rw[ha,hb];rfl
noncomputable def o7(F:Nat->List PV->Option Pr) (p:Option Pr):Option Pr:=(i6 p (some [])).bind (F 81)
noncomputable def Ic(m j:Nat):PV:=(((aO m).map It.view)[j]?).getD (.str bQ)
noncomputable def YV:E:=.call 81 [.kept (.call 46 [.var 7,.pure (.list [.pure (.new .aJ 2 [.str aa,.pure (.list [.var 20])])]),.bool true])]
noncomputable def P8:E:=.ite (.cmp .le (.var 20) (.var 9)) (.sub (.sub (.var 8) (.int 1)) (.bin .sub (.var 20) (.int 1))) (.str bQ)
theorem EZ(j:Nat):((j+1:Nat):Int)-1=(j:Int):=Int.add_sub_cancel j 1
theorem LX(hm:m<5):pe F 43 P8 (bM (bM (V m ts u) 20 (.int ((j+1:Nat):Int))) 15 x)=some (.t (Ic m j)):=by
 have hl:((aO m).map It.view).length=m+1:=by rw[List.length_map,gh m hm]
 refine(by kernel_rfl:_=Ci (.bool (decide (((j+1:Nat):Int)<=((m+1:Nat):Int)))) ((xh ((aO m).map It.view) (.int (((j+1:Nat):Int)-1))).map Pr.t) (some (.t (.str bQ)))).trans ?_
 rw[EZ]
 unfold Ic
 by_cases h:j<m+1
 ·rw[decide_eq_true (Int.ofNat_le.mpr h),List.getElem?_eq_getElem (hl.symm▸h)]
  show(((aO m).map It.view)[j]?).map Pr.t=_
  rw[List.getElem?_eq_getElem (hl.symm▸h)];rfl
 ·rw[decide_eq_false (fun q=>h (Int.ofNat_le.mp q)),List.getElem?_eq_none (hl.symm▸Nat.le_of_not_lt h)];rfl
theorem E0(it:It):eqT it.view it.view=some true:=by
 induction it with
 |null=>exact jZ _
 |sym s=>exact jY fun d hd=>by rcases LK hd with rfl|rfl<;>exact lZ _
 |int i =>
  refine jY fun d hd=>?_
  rcases tK hd with rfl|rfl|rfl
  ·exact lZ _
  ·exact lY fun d hd=>by rw[Ck hd];exact qy _ _
  ·rfl
 |chr s =>
  refine jY fun d hd=>?_
  rcases tK hd with rfl|rfl|rfl
  ·exact lZ _
  ·exact lY fun d hd=>by rw[Ck hd];exact fL _ _
  ·rfl
theorem LY:eqT (Ic m j) (Ic m j)=some true:=by
 unfold Ic
 rw[List.getElem?_map]
 cases(aO m)[j]? with
 |none=>exact jZ _
 |some it=>exact E0 it
theorem TZ(hm:m<5):n7 c.F (c.F 46 [mh m (none::ts),.lst [ee j],.bool true])=some (.t (Ic m j)):=by
 refine(told (n8 rfl (element (c.k+13) (aO m) (by rw[gh m hm];omega) (none::ts) j []))).trans (jf rfl ?_)
 unfold elemR Ic
 rw[List.getElem?_map]
 cases(aO m)[j]? with
 |none=>exact lg (c.k+18) _ _
 |some it=>exact nU (c.k+18) it _
theorem T3(hm:m<5) (H:∀u l,Fw c (Bd 12) (V m ts u) l []):Fw c (Bd 9) (V m ts u) l []:=by
 refine .asg (x:=20) (M:=.bin .add (.var 9) (.int 1)) (m+2) (fun j=>.int ((j+1:Nat):Int)) (by kernel_rfl) rfl (by kernel_rfl) rfl AM fun j l hj=>?_
 refine .set (x:=15) (e:=YV) (d:=Ic m j) (by kernel_rfl) rfl ((by kernel_rfl:_=n7 c.F (c.F 46 [mh m (none::ts),.lst [ee j],.bool true])).trans (TZ hm)) ?_
 refine .ifs (e:=.cmp .ne (.var 15) P8) false (by kernel_rfl) (n9 (d:=Ic m j) (by kernel_rfl) (LX hm) LY) ?_
 exact .iv (((IV.base u).set _ rfl).set _ rfl) fun u=>.to (ss':=Bd 12) (by kernel_rfl) (H u l)
noncomputable def gi(val:It) (p m:Nat) (tO:List (Option Tx)):PV:=if(m5 val p val (aO m)).length=0 then .str bq else nV (m5 val p val (aO m)) ((er val p tO).map aD)
theorem sI(k:Nat) (val:It) (p m:Nat) (tO:List (Option Tx)) (st:aB):call T (k+3) 81 [.t (ly val p m tO)] st=ok (.t (gi val p m tO)) st:=by
 unfold ly gi tF
 rw[List.length_map]
 by_cases h:(m5 val p val (aO m)).length=0
 ·rw[if_pos h,if_pos h];exact nU (k+1) .null st
 ·rw[if_neg h,if_neg h];exact gH k _ _ st
theorem o8(val:It) (p m:Nat) (tO:List (Option Tx)):eqT (gi val p m tO) (gi val p m tO)=some true:=by
 unfold gi
 by_cases h:(m5 val p val (aO m)).length=0
 ·rw[if_pos h];exact jZ _
 ·rw[if_neg h];exact iO _ _
noncomputable abbrev wQ (m:Nat) (f:Nat->Option Tx):List (Option Tx):=Jg m f
theorem E3(hl:ts.length=m):ts=wQ m fun i=>ts.getD i none:=zP none hl
noncomputable def vD(m:Nat) (ts:List (Option Tx)) (u:Ve) (j:Nat):Ve:=bM (bM (V m ts u) 21 (valN j).pv) 22 (valN j).view
theorem T4(F:Nat->List PV->Option Pr) (hm:m<5) (hp:p<m+1) (hj:j<3) (f:Nat->Option Tx) (u:Ve):(ET F ((Bd 15).take 1) (bM (vD m (wQ m f) u j) 23 (.int ((p+1:Nat):Int)))).map Gs=some (Gs (bM (bM (vD m (wQ m f) u j) 23 (.int ((p+1:Nat):Int))) 16 (gi (valN j) p m (none::wQ m f)))) :=
 congrFun (congrFun (qx (f:=fun q f u=>(ET F ((Bd 15).take 1) (bM (vD q.1 (wQ q.1 f) u q.2.2) 23 (.int ((q.2.1+1:Nat):Int)))).map Gs) (g:=fun q f u=>some (Gs (bM (bM (vD q.1 (wQ q.1 f) u q.2.2) 23 (.int ((q.2.1+1:Nat):Int))) 16 (gi (valN q.2.2) q.2.1 q.1 (none::wQ q.1 f))))) (by kernel_rfl) hm hp hj) f) u
noncomputable def T5:E:=.pure (.list [.pure (.new .aJ 2 [.str ao,.pure (.list [.str QY])]),.pure (.new .symbol 4 [.str QZ]),.pure (.new .null 0 [])])
noncomputable def LZ(f:Nat):E:=.call 81 [.call f [.var 7,.pure (.list [.pure (.new .aJ 2 [.str aa,.pure (.list [.var 23])])]),.var 21,.pure (.list [])]]
noncomputable def vP(m:Nat) (ts:List (Option Tx)) (u:Ve) (j p:Nat):Ve:=bM (bM (vD m ts u j) 23 (.int ((p+1:Nat):Int))) 16 (gi (valN j) p m (none::ts))
theorem E4(f:Nat):pe F 43 (LZ f) (vP m ts u j p)=o7 F (F f [mh m (none::ts),.lst [ee p],(valN j).pv,.lst []]):=by kernel_rfl
theorem P9(h:c.F 72 [x,y,d,e]=some (.t (ly (valN j) p m (none::ts)))):o7 c.F (c.F 72 [x,y,d,e])=some (.t (gi (valN j) p m (none::ts))):=by
 rw[h];exact(jf rfl (sI (c.k+17) (valN j) p m (none::ts) []):c.F 81 [ly (valN j) p m (none::ts)]=_)
theorem L0(h:c.F 67 [x,y,d,e]=some (.t (ly (valN j) p m (none::ts)))):o7 c.F (c.F 67 [x,y,d,e])=some (.t (gi (valN j) p m (none::ts))):=by
 rw[h];exact(jf rfl (sI (c.k+17) (valN j) p m (none::ts) []):c.F 81 [ly (valN j) p m (none::ts)]=_)
theorem Qa(hm:m<5) (hl:ts.length=m) (ht:jT (none::ts)) (H:∀u l j,j<3->Fw c (Bd 18) (vD m ts u j) l []):Fw c (Bd 12) (V m ts u) l []:=by
 refine .asg (x:=21) (M:=.int 3) 3 (fun j=>(valN j).pv) (e:=.sub T5 (eR (.int 3))) (by kernel_rfl) rfl rfl rfl (k_sub (L:=[(valN 0).pv,(valN 1).pv,(valN 2).pv]) (by kernel_rfl) rfl) fun j l hj=>?_
 refine .set (x:=22) (e:=.call 81 [.var 21]) (d:=(valN j).view) (by kernel_rfl) rfl ((by kernel_rfl:_=c.F 81 [(valN j).pv]).trans (jf rfl (nU (c.k+18) (valN j) []))) ?_
 refine .asg (x:=23) (M:=.var 9) (m+1) (fun p=>.int ((p+1:Nat):Int)) (by kernel_rfl) rfl (by kernel_rfl) rfl AM fun p l hp=>?_
 have qU:(none::ts).length=m+1:=congrArg Nat.succ hl
 refine .LW 1 (v':=vP m ts u j p) ?_ ?_
 ·have:=T4 c.F hm hp hj (fun i=>ts.getD i none) u
  rw[<-E3 hl] at this
  exact this
 refine .ifs (e:=.cmp .ne (LZ 72) (.var 16)) false (by kernel_rfl) (n9 (d:=gi (valN j) p m (none::ts)) ((E4 72).trans (P9 (jf rfl (sD c.k m p hm hp (valN j) (wG j) (none::ts) qU ht [])))) (by kernel_rfl) (o8 _ _ _ _)) ?_
 refine .ifs (e:=.cmp .ne (LZ 67) (.var 16)) false (by kernel_rfl) (n9 (d:=gi (valN j) p m (none::ts)) ((E4 67).trans (L0 (jf rfl (wJ (c.k+1) m p hm hp (valN j) (wG j) (none::ts) qU ht [])))) (by kernel_rfl) (o8 _ _ _ _)) ?_
 exact .to (ss':=Bd 18) (by kernel_rfl) (.re (v':=vD m ts (bM (bM u 23 (.int ((p+1:Nat):Int))) 16 (gi (valN j) p m (none::ts))) j) (by kernel_rfl) (H _ l j hj))
end
section
variable {c:Ct}{F:Nat->List PV->Option Pr}{v u:Ve}{l:List PV}{P:aB}{m j p q:Nat}{ts:List (Option Tx)}{d e x y:PV}{ss:List S}{a b:E}{nm:Tx}
noncomputable def oh(val:It) (nm:Tx) (m:Nat) (tO:List (Option Tx)):PV:=if isNul val=true then nV (aO m) (tO.map aD) else nV (aO m++[val]) ((tO++[some nm]).map aD)
noncomputable def tL(val:It) (nm:Tx) (m:Nat) (tO:List (Option Tx)):PV:=match d9 nm tO with
 |some p=>gi val p m tO
 |none=>oh val nm m tO
theorem E5(val:It) (nm:Tx) (m:Nat) (tO:List (Option Tx)):eqT (tL val nm m tO) (tL val nm m tO)=some true:=by
 unfold tL
 cases d9 nm tO with
 |some p=>exact o8 _ _ _ _
 |none =>
  show eqT (oh val nm m tO) (oh val nm m tO)=_
  unfold oh
  by_cases h:isNul val=true
  ·rw[if_pos h];exact iO _ _
  ·rw[if_neg h];exact iO _ _
theorem E6(k m:Nat) (hm:m<5) (val:It) (nm:Tx) (tO:List (Option Tx)) (st:aB):call T (k+3) 81 [.t (yx val nm m tO)] st=ok (.t (tL val nm m tO)) st:=by
 unfold yx tL
 cases d9 nm tO with
 |some p=>exact sI k val p m tO st
 |none =>
  show call T (k+3) 81 [.t (if isNul val=true then tF ((aO m).map It.pv) tO else tF ((aO m++[val]).map It.pv) (tO++[some nm]))] st=ok (.t (oh val nm m tO)) st
  unfold oh tF
  rw[List.length_map,List.length_map,List.length_append,gh m hm]
  by_cases h:isNul val=true
  ·rw[if_pos h,if_pos h,if_neg (Nat.succ_ne_zero m)];exact gH k _ _ st
  ·rw[if_neg h,if_neg h,if_neg (show ¬m+1+[val].length=0 from Nat.succ_ne_zero _)];exact gH k _ _ st
noncomputable def T6(j:Nat):Tx:=match j with| 0=>pQ|1=>pR|_=>OH
theorem L2(j:Nat):T6 j≠[]:=match j with| 0=>(by decide)|1=>(by decide)|_+2=>(by decide:OH≠[])
theorem Qc:pe F 43 (.cmp .oq (.var 24) (.var 4)) (bM (vD m ts u j) 24 (.str nm))=some (.t (.bool (d9 nm (none::ts)).isSome)) :=
 (by kernel_rfl:_=jl (Fv (.str nm) ((none::ts).map aD))).trans (by
  rw[wC aD (fun b=>decide (b=some nm)) (.str nm) rfl (none::ts) El fun a=>sd a nm,mZ,yl];rfl)
theorem L5(h:d9 nm (none::ts)=some q):pe F 43 (.b4 .index (.var 4) [.var 24]) (bM (vD m ts u j) 24 (.str nm))=some (.t (.int (q:Nat))) :=
 (by kernel_rfl:_=if ng ((none::ts).map aD) then(idxOf (.str nm) ((none::ts).map aD) 0).map fun(n:Nat)=>Pr.t (.int (n:Int)) else none).trans (by
  rw[if_pos (AA (none::ts)),se,h];rfl)
theorem E7(h:d9 nm (none::ts)=some q):Nat.blt 0 q=true:=by
 rw[d9,if_neg (fun z=>nomatch z)] at h
 obtain⟨r,_,rfl⟩:=Option.map_eq_some_iff.mp h
 rfl
noncomputable def vQ(m:Nat) (ts:List (Option Tx)) (u:Ve) (j q:Nat):Ve:=bM (vD m ts u j) 23 (.int (q:Nat))
noncomputable def vN(m:Nat) (ts:List (Option Tx)) (u:Ve) (j:Nat) (nm:Tx):Ve:=bM (vD m ts u j) 24 (.str nm)
noncomputable def Qd:List S:=((TN true (Bd 19)).drop 1).take 1
noncomputable def Qe:List S:=(TN false (Bd 19)).take 1
theorem Ie{α:Type}{f g:Nat×Nat×Nat->α}(h:(Pk.filter fun q=>Nat.blt 0 q.2.1).map f=(Pk.filter fun q=>Nat.blt 0 q.2.1).map g){b:Nat}(hm:m<5) (hp:p<m+1) (h0:Nat.blt 0 p=true) (hb:b<3):f (m,p,b)=g (m,p,b):=List.map_inj_left.mp h _ (List.mem_filter.mpr ⟨AD hm hp hb,h0⟩)
theorem Qf(F:Nat->List PV->Option Pr) (hm:m<5) (hq:q<m+1) (h0:Nat.blt 0 q=true) (hj:j<3) (f:Nat->Option Tx) (u:Ve):(ET F Qd (vQ m (wQ m f) u j q)).map Gs=some (Gs (bM (vQ m (wQ m f) u j q) 16 (gi (valN j) q m (none::wQ m f)))) :=
 congrFun (congrFun (Ie (f:=fun q f u=>(ET F Qd (vQ q.1 (wQ q.1 f) u q.2.2 q.2.1)).map Gs) (g:=fun q f u=>some (Gs (bM (vQ q.1 (wQ q.1 f) u q.2.2 q.2.1) 16 (gi (valN q.2.2) q.2.1 q.1 (none::wQ q.1 f))))) (by kernel_rfl) hm hq h0 hj) f) u
theorem Qg(F:Nat->List PV->Option Pr) (hm:m<5) (hj:j<3) (f:Nat->Option Tx) (u:Ve) (nm:Tx):(ET F Qe (vN m (wQ m f) u j nm)).map Gs=some (Gs (bM (vN m (wQ m f) u j nm) 16 (oh (valN j) nm m (none::wQ m f)))) :=
 congrFun (congrFun (congrFun (qx (p:=0) (f:=fun q f u nm=>(ET F Qe (vN q.1 (wQ q.1 f) u q.2.2 nm)).map Gs) (g:=fun q f u nm=>some (Gs (bM (vN q.1 (wQ q.1 f) u q.2.2 nm) 16 (oh (valN q.2.2) nm q.1 (none::wQ q.1 f))))) (by kernel_rfl) hm (Nat.succ_pos m) hj) f) u) nm
noncomputable def YW:E:=.call 81 [.call 73 [.var 7,.var 24,.var 21,.pure (.list [])]]
noncomputable def vE(m:Nat) (ts:List (Option Tx)) (u:Ve) (j:Nat) (nm:Tx):Ve:=bM (vN m ts u j nm) 16 (tL (valN j) nm m (none::ts))
theorem Qh(hm:m<5) (hl:ts.length=m) (ht:jT (none::ts)) (hn:nm≠[]):o7 c.F (c.F 73 [mh m (none::ts),.str nm,(valN j).pv,.lst []])=some (.t (tL (valN j) nm m (none::ts))):=by
 rw[jf (c:=c) (f:=73) (ds:=[mh m (none::ts),.str nm,(valN j).pv,.lst []]) rfl (tH (c.k+1) m hm (valN j) (wG j) nm hn (none::ts) (congrArg Nat.succ hl) ht [])]
 exact(jf rfl (E6 (c.k+17) m hm (valN j) nm (none::ts) []):c.F 81 [yx (valN j) nm m (none::ts)]=_)
theorem Jm(hm:m<5) (hl:ts.length=m) (ht:jT (none::ts)) (hn:nm≠[]) (H:∀u l,Fw c (Bd 21) (V m ts u) l []):Fw c (Bd 20) (vE m ts u j nm) l [] :=
 .ifs (e:=.or [.cmp .ne YW (.var 16),.cmp .ne (.call 81 [.var 7]) (.var 8)]) false (by kernel_rfl) (P7 (n9 (d:=tL (valN j) nm m (none::ts)) ((by kernel_rfl:_=o7 c.F (c.F 73 [mh m (none::ts),.str nm,(valN j).pv,.lst []])).trans (Qh hm hl ht hn)) (by kernel_rfl) (E5 _ _ _ _))
  (n9 (d:=LN m ts) ((by kernel_rfl:_=c.F 81 [mh m (none::ts)]).trans (jf rfl (gH (c.k+17) (aO m) ((none::ts).map aD) []))) (by kernel_rfl) (iO _ _)))
  (.iv (((((IV.base u).set _ rfl).set _ rfl).set _ rfl).set _ rfl) fun u=>.to (ss':=Bd 21) (by kernel_rfl) (H u l))
theorem Qi(hm:m<5) (hl:ts.length=m) (ht:jT (none::ts)) (hj:j<3) (H:∀u l,Fw c (Bd 21) (V m ts u) l []):Fw c (Bd 18) (vD m ts u j) l []:=by
 refine .asg (x:=24) (M:=.int 3) 3 (fun i=>.str (T6 i)) (e:=.sub (.pure (.list [.str pQ,.str pR,.str OH])) (eR (.int 3))) (by kernel_rfl) rfl rfl rfl (k_sub (L:=[.str pQ,.str pR,.str OH]) (by kernel_rfl) rfl) fun i l _=>?_
 have hn:=L2 i
 generalize T6 i=nm at hn
 have hd:tL (valN j) nm m (none::ts)=match d9 nm (none::ts) with| some p=>gi (valN j) p m (none::ts)|none=>oh (valN j) nm m (none::ts):=rfl
 refine .ifs (e:=.cmp .oq (.var 24) (.var 4)) _ (by kernel_rfl) Qc ?_
 have T:=E3 hl
 cases hq:d9 nm (none::ts) with
 |some q =>
  rw[hq] at hd
  refine .set (x:=23) (e:=.b4 .index (.var 4) [.var 24]) (d:=.int (q:Nat)) (by kernel_rfl) rfl (L5 hq) (.re (v':=vQ m ts (bM u 24 (.str nm)) j q) (by kernel_rfl) (.LW 1 (v':=bM (vQ m ts (bM u 24 (.str nm)) j q) 16 (gi (valN j) q m (none::ts))) ?_ ?_))
  ·have:=Qf c.F hm (hl▸wB hq:q<m+1) (E7 hq) hj (fun i=>ts.getD i none) (bM u 24 (.str nm))
   rw[<-T] at this;exact this
  ·rw[show gi (valN j) q m (none::ts)=tL (valN j) nm m (none::ts) from hd.symm]
   exact .to (ss':=Bd 20) (by kernel_rfl) (.re (v':=vE m ts (bM u 23 (.int (q:Nat))) j nm) (by kernel_rfl) (Jm hm hl ht hn H))
 |none =>
  rw[hq] at hd
  refine .LW 1 (v':=vE m ts u j nm) ?_ (.to (ss':=Bd 20) (by kernel_rfl) (Jm hm hl ht hn H))
  unfold vE
  rw[hd]
  have:=Qg c.F hm hj (fun i=>ts.getD i none) u nm
  rw[<-T] at this;exact this
end
section
variable {c:Ct}{F:Nat->List PV->Option Pr}{v u:Ve}{l:List PV}{P:aB}{m j p q:Nat}{ts dc:List (Option Tx)}{d e x y:PV}{ss:List S}{a b:E}{ix:Ix}
theorem Fw.L6(n:Nat) (he:Rw l->Cl P->pY 3 (Gs v)->∃v' l' P',Rw l'/\Cl P'/\pY 3 (Gs v')/\bO c.C (ss.take n) (Gs v) (c.W l P)=some (.next (Gs v') (c.W l' P'))/\Fw c (ss.drop n) v' l' P'):Fw c ss v l P:=fun hl hc hk=>by
 obtain⟨v',l',P',h1,h2,h3,e,H⟩:=he hl hc hk
 rw[show bO c.C ss (Gs v) (c.W l P)=bO c.C (ss.drop n) (Gs v') (c.W l' P') from aN n e rfl]
 exact H h1 h2 h3
theorem oi{n i1 i2:Nat}{d1 d2:PV}{st st1 st2:aB}(h1:¬i1<n) (h2:¬i2<n) (f1:i8 cT st (.r i1)=some (d1,st1)) (f2:i8 cT st1 (.r i2)=some (d2,st2)):∀{g:Gm}{i j:Nat},pY n g->i<j->j<g.length ->
  dh n ((g.set i (some (.r i1))).set j (some (.r i2))) st=some ((g.set i (some (.t d1))).set j (some (.t d2)),st2)
 |[],_,_,_,_,h=>absurd h (Nat.not_lt_zero _)
 |_::_,_,0,_,h,_=>absurd h (Nat.not_lt_zero _)
 |x::g,0,j+1,h,_,hj=>by
  rw[List.set_cons_zero,List.set_cons_zero,List.set_cons_succ,List.set_cons_succ]
  simp only[dh,if_neg h1,f1,ic h2 f2 (fun y hy=>h y (.tail _ hy):pY n g) (Nat.lt_of_succ_lt_succ hj),Option.map]
 |x::g,i+1,j+1,h,hi,hj=>by
  rw[List.set_cons_succ,List.set_cons_succ,List.set_cons_succ,List.set_cons_succ,jr (h x (.head _)),oi h1 h2 f1 f2 (fun y hy=>h y (.tail _ hy)) (Nat.lt_of_succ_lt_succ hi) (Nat.lt_of_succ_lt_succ hj)];rfl
theorem wR{s:S}{x j n:Nat}{g:Gm}{st st1:aB}{X:aB}{l':List PV}{P':aB}(he:ex c.C s g st=some (.next ((Gs v).set x (some (.r j))) st1)) (hf:i8 cT st1 (.r j)=some (d,c.W l' P'++X)) (hk:pY 3 (Gs v)) (hc:Cl P') (hj:3<=j) (hx:Nat.blt x 43=true) (hl:st.length=P'.length+3):ex c.C (.cut 3 s) g st=some (.next (Gs (bM v x d)) (c.W l' P')):=by
 show qK 3 (ex c.C s) g st=_
 unfold qK
 rw[he]
 dsimp only
 rw[if_pos (hl▸Nat.le_add_left 3 _)]
 unfold kj
 rw[ic (Nat.not_lt.mpr hj) hf hk (Gs.len▸Nat.le_of_ble_eq_true hx),Gv.set]
 dsimp only
 rw[show st.length=(c.W l' P').length from hl,hc.fl.back];rfl
theorem E8{s:S}{x x' j j' n:Nat}{g:Gm}{st st1 st2:aB}{X:aB}{l':List PV}{P':aB}{d':PV}(he:ex c.C s g st=some (.next (((Gs v).set x (some (.r j))).set x' (some (.r j'))) st1)) (hf:i8 cT st1 (.r j)=some (d,st2)) (TL:i8 cT st2 (.r j')=some (d',c.W l' P'++X)) (hk:pY 3 (Gs v)) (hc:Cl P') (hj:3<=j) (YX:3<=j') (YY:Nat.blt x x'=true) (hx:Nat.blt x' 43=true) (hl:st.length=P'.length+3):ex c.C (.cut 3 s) g st=some (.next (Gs (bM (bM v x d) x' d')) (c.W l' P')):=by
 show qK 3 (ex c.C s) g st=_
 unfold qK
 rw[he]
 dsimp only
 rw[if_pos (hl▸Nat.le_add_left 3 _)]
 unfold kj
 rw[oi (Nat.not_lt.mpr hj) (Nat.not_lt.mpr YX) hf TL hk (Nat.le_of_ble_eq_true YY) (Gs.len▸Nat.le_of_ble_eq_true hx),Gv.set,Gv.set]
 dsimp only
 rw[show st.length=(c.W l' P').length from hl,hc.fl.back];rfl
theorem AS{g:Gm}{A:List S}(hl:Rw l) (hc:Cl P) (h1:g[1]? = some (some (.r 2))):∃(t:Bool) (l':List PV),Rw l'/\ex c.C (.ifs (.cmp .eq (eR (.int 2)) (.int 1)) A []) g (c.W l P)=bO c.C (cond t A []) g (c.W l' P):=by
 obtain⟨i,l',a1,a2,r,e⟩:=ef c.la c.lb l hl P hc g 1 h1 2 (by decide) (c.k+19)
 have e:ev c.C (.bin .mod (.call 75 [.var 1]) (.int 2)) g (c.W l P)=ok (.t (.int i)) (c.W l' P):=e
 refine⟨decide (i=1),l',r,?_⟩
 rw[aM,aG,eR,e,af,bg,af,aV,aV,cK,aF,ak]
 cases decide (i=1)<;>rfl
noncomputable def oj(m:Nat):List PV:=(List.range m).map fun(i:Nat)=>vec aa [.int i] .none
noncomputable def lB(m:Nat):List PV:=(List.range (m+1)).map fun(i:Nat)=>PV.int (10+i)
noncomputable def Qj(m:Nat):PV:=vec aa [.int ((m+1:Nat):Int)] .none
noncomputable def mj(m:Nat):List (Option Tx):=(List.range (m+1)).map fun i=>some [97+i]
noncomputable def hO(m:Nat):Bool->Option (List (Option Tx))
 |false=>none
 |true=>some (mj m)
noncomputable def lO(m:Nat) (b:Bool):Option (List PV):=(hO m b).map (·.map aD)
noncomputable def Ig(m:Nat) (b:Bool):PV:=aR (lB m) (m+1) (lO m b)
noncomputable def Vq(m:Nat) (b:Bool):List (Tx×PV):=match b with
 |false=>[(dX,Qj m)]
 |true=>[(dX,Qj m),(bP,vec aE [vec ao ((mj m).map aD) .none] .none)]
noncomputable def YZ:E:=.cO 25 [.var 2] none (.call 76 [.var 1])
noncomputable def Vr:E:=.cO 27 [.var 2] none (.pure (.new .aJ 2 [.str aa,.pure (.list [.var 27])]))
noncomputable def T7:E:=.new .aJ 2 [.str bH,.pure Vr,.pure (.dz [bG] [.pure (.new .aJ 2 [.str ao,.var 26])])]
noncomputable def vF(m:Nat) (dc:List (Option Tx)) (u:Ve):Ve:=bM (vA m u) 26 (.lst (dc.map aD))
noncomputable def vG(m:Nat) (dc:List (Option Tx)) (u:Ve):Ve:=bM (vF m dc u) 28 (b5 (oj m) (dc.map aD))
noncomputable def vL(m:Nat) (dc:List (Option Tx)) (b:Bool) (u:Ve):Ve:=bM (bM (vG m dc u) 30 (Ig m b)) 31 (fM (hO m b))
noncomputable def J2(m:Nat) (b:Bool):aB:=[.fz (.aK (Vq m b)),.fz (Ig m b)]
theorem T8(hm:m<5):pe F 43 T7 (vF m dc u)=some (.f (b5 (oj m) (dc.map aD))):=by
 have h:=EV (F:=F) (v:=vF m dc u) (x:=27) (a:=.var 2) (e:=.pure (.new .aJ 2 [.str aa,.pure (.list [.var 27])])) (n:=m) (fun i=>vec aa [.int i] .none) (by omega) (by kernel_rfl) fun i=>by kernel_rfl
 have q:∀p,pe F 43 Vr (vF m dc u)=p->pe F 43 T7 (vF m dc u)=(i6 (some (.t (.str bH))) (i6 (uN p) (i6 (some (.t (.aK [(bG,vec ao (dc.map aD) .none)]))) (some [])))).bind (HR .aJ 2):=fun p h=>by subst h;kernel_rfl
 exact(q _ h).trans (by kernel_rfl)
theorem Qk(hm:m<5) (H:∀dc u l,dc.length=m->(∀t∈dc,nY t)->Fw c (Bd 23) (vG m dc u) l []):Fw c (Bd 21) (vA m u) l []:=by
 refine .P0 (e:=YZ) (x:=26) (by kernel_rfl) rfl fun hl hc=>?_
 obtain⟨dc,l',h1,h2,h3,h4⟩:=AQ (c:=c) (v:=vA m u) (a:=.var 2) (x:=25) (e:=.call 76 [.var 1]) nY aD hl (P:=[]) rfl (n:=m) (by omega) rfl fun d l hl=>by
  obtain⟨t,l',q1,q2,q3⟩:=text c.la c.lb l hl [] rfl (c.k+18)
  refine⟨t,l',q1,q2,?_⟩
  rw[bW,aq,av,Gv.get rfl]
  exact q3
 exact⟨l',_,h3,h4,.wO (x:=28) (e:=T7) (by kernel_rfl) rfl (congrArg je (T8 hm)) (.to (ss':=Bd 23) (by kernel_rfl) (H dc u l' h1 h2))⟩
noncomputable def N3(m:Nat) (b:Bool):Node:=.aK (Vq m b)
noncomputable def N4(m:Nat):Node:=iV (.t (.str aa)) (.t (.lst (lB m))) (.r 3)
noncomputable def MP(v:Ve):Gm:=(Gs (bM v 31 .none)).set 30 (some (.r 4))
theorem T9(hm:m<5):bO c.C ((Bd 23).take 2) (Gs (vG m dc u)) (c.W l [])=some (.next (MP (vG m dc u)) (c.W l [N3 m false,N4 m])):=by
 match m,hm with
 |0,_=>kernel_rfl
 |1,_=>kernel_rfl
 |2,_=>kernel_rfl
 |3,_=>kernel_rfl
 |4,_=>kernel_rfl
noncomputable def Ql:List S:=match(Bd 25) with| s::_=>(match s with| .cut _ s=>(match s with| .ifs _ a _=>a|_=>[])|_=>[])|_=>[]
theorem L7:(Bd 25).take 1=[.cut 3 (.ifs (.cmp .eq (eR (.int 2)) (.int 1)) Ql [])]:=by kernel_rfl
theorem Ua(hm:m<5):bO c.C Ql (MP (vG m dc u)) (c.W l [N3 m false,N4 m])=some (.next ((MP (vG m dc u)).set 31 (some (.r 5))) (c.W l [N3 m true,N4 m,.fz (fM (hO m true))])):=by
 match m,hm with
 |0,_=>kernel_rfl
 |1,_=>kernel_rfl
 |2,_=>kernel_rfl
 |3,_=>kernel_rfl
 |4,_=>kernel_rfl
theorem Qm(hm:m<5) (H:∀b u l,Fw c (Bd 26) (vL m dc b u) l (J2 m b)):Fw c (Bd 23) (vG m dc u) l []:=.L6 3 fun hl hc hk=>by
 have e0:bO c.C ((Bd 23).take 3) (Gs (vG m dc u)) (c.W l [])=ex c.C (.cut 3 (.ifs (.cmp .eq (eR (.int 2)) (.int 1)) Ql [])) (MP (vG m dc u)) (c.W l [N3 m false,N4 m]):=by
  rw[show(Bd 23).take 3=(Bd 23).take 2++(Bd 25).take 1 by kernel_rfl,nO,T9 hm,L7]
  show mH (ex _ _ _ _) _ []=_
  cases ex c.C (.cut 3 (.ifs (.cmp .eq (eR (.int 2)) (.int 1)) Ql [])) (MP (vG m dc u)) (c.W l [N3 m false,N4 m]) with
  |none=>rfl
  |some o=>induction o<;>rfl
 obtain⟨t,l',r,e⟩:=AS (c:=c) (g:=MP (vG m dc u)) (A:=Ql) hl (P:=[N3 m false,N4 m]) rfl (by kernel_rfl)
 have Ra:=Gs.ok hk 31 .none
 rw[e0]
 induction t with
 |false =>
  have z:=wR (c:=c) (v:=bM (vG m dc u) 31 .none) (x:=30) (j:=4) (d:=Ig m false) (P':=J2 m false) (X:=[]) (l':=l') e (by rfl) Ra rfl (by decide) rfl rfl (n:=0)
  rw[z]
  exact⟨_,l',J2 m false,r,(rfl:Cl (J2 m false)),Gs.ok Ra 30 _,rfl,.to (ss':=Bd 26) (by kernel_rfl) (.re (v':=vL m dc false u) (by kernel_rfl) (H false u l'))⟩
 |true =>
  have z:=E8 (c:=c) (v:=bM (vG m dc u) 31 .none) (x:=30) (j:=4) (d:=Ig m true) (d':=fM (hO m true)) (x':=31) (j':=5) (P':=J2 m true) (X:=[.fz (fM (hO m true))]) (l':=l') (e.trans (Ua hm)) (by rfl) (by rfl) Ra rfl (by decide) (by decide) rfl rfl rfl (n:=0)
  rw[z]
  exact⟨_,l',J2 m true,r,(rfl:Cl (J2 m true)),Gs.ok (Gs.ok Ra 30 _) 31 _,rfl,.to (ss':=Bd 26) (by kernel_rfl) (.re (v':=vL m dc true u) (by kernel_rfl) (H true u l'))⟩
end
noncomputable def jt(m:Nat):List It:=(List.range m).map fun(i:Nat)=>It.int i
theorem AU(m:Nat):oj m=(jt m).map It.pv:=by unfold oj jt;rw[List.map_map];rfl
theorem yH(m:Nat):(oj m).length=m:=by unfold oj;rw[List.length_map,List.length_range]
theorem jH(m:Nat):(lB m).length=m+1:=by unfold lB;rw[List.length_map,List.length_range]
noncomputable def sJ(m:Nat) (dc:List (Option Tx)) (pl:List (Option Nat)):PV:=.tup [.str aE,.lst ((pl.map (Q8 (jt m))).map It.view),FD (some (pl.map (aT (dc.map aD) (.str eN))))]
theorem zQ(k m:Nat) (dc:List (Option Tx)) (pl:List (Option Nat)) (st:aB):call T (k+4) 81 [.t (pairD (oj m) (dc.map aD) pl)] st=ok (.t (sJ m dc pl)) st:=by
 unfold pairD sJ
 rw[AU,show cW=It.pv .null from rfl,jG It.pv (jt m) .null]
 exact BZ k _ _ st
theorem zR(k m:Nat) (nm:List PV) (st:aB):call T (k+4) 81 [.t (b5 (oj m) nm)] st=ok (.t (.tup [.str bH,.lst ((jt m).map It.view),FD (some nm)])) st:=by
 rw[AU]
 refine bz (ds:=[b5 ((jt m).map It.pv) nm]) (a:=.t (.tup [.str bH,.lst ((jt m).map It.view),FD (some nm)])) (st':=[.aK [],.fz (FD (some nm)),.fz (.lst ((jt m).map It.view))]) rfl rfl (aN 6 (g':=[some (.t (b5 ((jt m).map It.pv) nm)),none,some (.r 1),none,none]) (st':=[.aK [],.aK [(bG,.tup [.str ao,.lst nm,.aK []])]]) (by kernel_rfl) ?_) rfl
 rw[show(T 81).body.drop 6=.ifs (.cmp .oq (.attr (.var 0) aj) (.tup [(.str aE),(.str cJ),(.str bH)])) [.ret (.tup [(.attr (.var 0) aj),(.comp 4 (.attr (.var 0) ai) none (.call 81 [(.var 4)])),(.var 2)])] []::(T 81).body.drop 7 from rfl]
 have h:=views (k+1) 4 [some (.t (b5 ((jt m).map It.pv) nm)),none,some (.r 1),none,none] (show 4<5 by decide) (jt m) [.aK [],.aK [(bG,.tup [.str ao,.lst nm,.aK []])]] rfl
 have h':=dW (C:=call T (k+3)) (x:=4) (src:=.attr (.var 0) ai) (c:=none) (e:=.call 81 [(.var 4)]) (st:=[.aK [],.aK [(bG,.tup [.str ao,.lst nm,.aK []])]]) (st2:=[.aK [],.aK [(bG,.tup [.str ao,.lst nm,.aK []])]]) rfl rfl rfl h
 refine bU (st1:=[.aK [],.aK [(bG,.tup [.str ao,.lst nm,.aK []])]]) (t:=.t (.bool true)) (by kernel_rfl) rfl (o:=some (.ret (.t (.tup [.str bH,.lst ((jt m).map It.view),FD (some nm)])) [.aK [],.fz (FD (some nm)),.fz (.lst ((jt m).map It.view))])) ?_ rfl
 have hk:∀st,uY st (.t (b5 ((jt m).map It.pv) nm)) aj=ok (.t (.str bH)) st:=fun st=>rfl
 simp only[ah,aW,eG,aq,aA,cS,av,cG,cP,ay,af,hk,h',bS]
 rfl
noncomputable def lC(L:List PV):PV:=.tup [.str ao,.lst L,.aK []]
noncomputable def wU(n:Nat):PV:=.tup [.str aa,.lst [.int (n:Nat)],.aK []]
noncomputable def uR(n:Nat) (o:Option (List PV)) (drop:Bool):List (Tx×PV):=if drop=true/\n=1 then(match o with
  |none=>[]
  |some L=>[(bG,lC L)])
 else match o with
  |none=>[(dX,wU n)]
  |some L=>[(dX,wU n),(bP,.tup [.str aE,.lst [lC L],.aK []])]
noncomputable def yI(X:List PV) (o:Option (List PV)) (drop:Bool):PV:=.tup [.str aa,.lst X,.aK (uR X.length o drop)]
theorem sL(k:Nat) (X:List PV) (o:Option (List PV)) (drop:Bool) (st:aB):call T (k+8) 81 [.t (mO X o drop)] st=ok (.t (yI X o drop)) st:=by
 unfold mO yI uR
 by_cases h:drop=true/\X.length=1
 ·rw[if_pos h,if_pos h]
  induction o<;>kernel_rfl
 ·rw[if_neg h,if_neg h]
  induction o<;>kernel_rfl
theorem AW{l:List (Tx×PV)}(h:(l.all fun p=>m7 8 p.2)=true):Cu (.aK l)=true:=by
 unfold Cu
 rw[show MY (.aK l)=true from h,Bool.or_true]
theorem sM{a:Tx}{d:PV}(h:m7 8 d=true):Cu (.aK [(a,d)])=true:=AW (List.all_eq_true.mpr fun x hx=>by cases hx with| head=>exact h|tail _ q=>cases q)
theorem E9:Cu (.aK [])=true:=rfl
theorem Fb{a b:Tx}{d e:PV}(wW:a≠b) (h1:m7 8 d=true) (h2:m7 8 e=true):Cu (.aK [(a,d),(b,e)])=true:=AW (List.all_eq_true.mpr fun x hx=>by
 cases hx with
 |head=>exact h1
 |tail _ q=>cases q with| head=>exact h2|tail _ q=>cases q)
theorem sO(n:Nat) (L:List PV) (h:∀d∈L,m7 n d=true):m7 (n+2) (lC L)=true:=by
 refine lX fun d hd=>?_
 rcases tK hd with rfl|rfl|rfl
 ·exact fL _ _
 ·exact lW h
 ·exact n6 _
theorem yJ(k n:Nat):m7 (k+3) (wU n)=true:=by
 refine lX fun d hd=>?_
 rcases tK hd with rfl|rfl|rfl
 ·exact fL _ _
 ·exact lW fun d hd=>by rw[Ck hd];exact qy _ _
 ·exact n6 _
theorem wV(n:Nat) (dc:List (Option Tx)) (pl:List (Option Nat)):∀d∈pl.map (aT (dc.map aD) (.str eN)),m7 n d=true:=by
 intro d hd
 obtain⟨p,_,rfl⟩:=List.mem_map.mp hd
 unfold aT
 induction p with
 |none=>exact fL n _
 |some i =>
  simp only[Option.bind]
  rw[List.getElem?_map]
  cases dc[i]? with
  |none=>exact fL n _
  |some t=>exact AL n t
theorem Cq(m:Nat) (dc:List (Option Tx)) (pl:List (Option Nat)):eqT (sJ m dc pl) (sJ m dc pl)=some true:=by
 refine jY fun d hd=>?_
 rcases tK hd with rfl|rfl|rfl
 ·exact lZ _
 ·exact lY fun d hd=>by obtain⟨it,_,rfl⟩:=List.mem_map.mp hd;exact yF 5 it
 ·exact sM (sO 6 _ (wV 6 dc pl))
theorem Cr(X:List PV) (hX:∀d∈X,m7 7 d=true) (dc:Option (List (Option Tx))) (pl:List (Option Nat)) (drop:Bool) :
  eqT (yI X (dc.map fun l=>pl.map (aT (l.map aD) (.str eN))) drop) (yI X (dc.map fun l=>pl.map (aT (l.map aD) (.str eN))) drop)=some true:=by
 refine jY fun d hd=>?_
 rcases tK hd with rfl|rfl|rfl
 ·exact lZ _
 ·exact lY hX
 ·unfold uR
  by_cases h:drop=true/\X.length=1
  ·rw[if_pos h]
   induction dc with
   |none=>exact E9
   |some l=>exact sM (sO 6 _ (wV 6 l pl))
  ·rw[if_neg h]
   induction dc with
   |none=>exact sM (yJ 5 _)
   |some l =>
    refine Fb (by decide) (yJ 5 _) (lX fun d hd=>?_)
    rcases tK hd with rfl|rfl|rfl
    ·exact fL _ _
    ·exact lW fun d hd=>by rw[Ck hd];exact sO 4 _ (wV 4 l pl)
    ·exact n6 _
noncomputable def Qn{α:Type}(f:α->PV):Except Tx α->PV
 |.ok a=>f a
 |.error e=>.str e
noncomputable def bs(L:List (Nat×PV)) (u:Ve):Ve:=L.foldr (fun p v=>bM v p.1 p.2) (up1 u)
noncomputable def AX(L:List (Nat×PV)) (v:Ve):Prop:=∃u,Gs v=Gs (bs L u)
theorem Fe{x:Nat}{u:Ve}{d:PV}(h1:Nat.beq x 1=false):∀{L:List (Nat×PV)},(L.any fun p=>Nat.beq x p.1)=false->bM (bs L u) x d=bs L (bM u x d)
 |[],_=>yG h1
 |p::L,h=>by
  rw[List.any_cons,Bool.or_eq_false_iff] at h
  show bM (bM (bs L u) p.1 p.2) x d=bM (bs L (bM u x d)) p.1 p.2
  rw[i7 h.1,Fe h1 h.2]
theorem AX.set{L:List (Nat×PV)}{v:Ve}{x:Nat}(h:AX L v) (d:PV) (h1:Nat.beq x 1=false) (hx:(L.any fun p=>Nat.beq x p.1)=false):AX L (bM v x d):=by
 obtain⟨u,e⟩:=h
 exact⟨bM u x d,(Gs.bM e x d).trans (congrArg Gs (Fe h1 hx))⟩
section
variable {c:Ct}{F:Nat->List PV->Option Pr}{v u:Ve}{l:List PV}{P:aB}{m j p q:Nat}{dc:List (Option Tx)}{d e x y:PV}{ss:List S}{a b:E}{ix:Ix}{bt drop:Bool}{pl:List (Option Nat)}{w:Ve}
theorem Fw.has{L:List (Nat×PV)}(h:AX L v) (H:∀u,Fw c ss (bs L u) l P):Fw c ss v l P:=by
 obtain⟨u,h⟩:=h
 exact .re h (H u)
theorem yK(w:Ve):pe F 43 (.cmp .ne (.attr (.var 13) aj) (.str bF)) (bM (bM (bM w 13 ix.pv) 14 x) 15 y)=some (.t (.bool (!fh ix))):=by induction ix<;>kernel_rfl
noncomputable def uS(m:Nat) (dc:List (Option Tx)) (ix:Ix) (D:Except Tx (List (Option Nat))):PV:=cond (fh ix) (.tup [.str bH,.lst ((jt m).map It.view),FD (some (dc.map aD))]) (Qn (sJ m dc) D)
noncomputable def Ub:E:=.call 81 [.kept (.call 43 [.var 28,.pure (.list [.var 13]),.bool true,.bool true])]
theorem Qo(hl:dc.length<1000) (hg:∀t∈dc,nY t):okN (some dc):=fun q hq=>by
 injection hq with hq;subst hq
 exact⟨Nat.lt_trans hl (by decide),fun s hs e=>absurd (hg _ hs s rfl) (by rw[e];decide)⟩
theorem L8(hm:m<5) (hl:dc.length=m) (hg:∀t∈dc,nY t) (hx:ix.ok):n7 c.F (c.F 43 [b5 (oj m) (dc.map aD),.lst [ix.pv],.bool true,.bool true])=some (.t (uS m dc ix (iG m (some dc) ix))):=by
 unfold uS
 cases hi:fh ix with
 |true =>
  cases j5 hi
  exact(told (n8 (D:=.ok (b5 (oj m) (dc.map aD))) rfl (sr (c.k+11) (oj m) (dc.map aD) []))).trans (jf rfl (zR (c.k+16) m (dc.map aD) []))
 |false =>
  have h:=B0 (c.k+11) (oj m) (by rw[yH];omega) dc (Qo (by omega) hg) ix hx (qz hi) []
  rw[yH] at h
  refine(told (n8 rfl h)).trans (jf rfl ?_)
  cases iG m (some dc) ix with
  |error e=>exact lg (c.k+18) e _
  |ok pl=>exact zQ (c.k+16) m dc pl _
noncomputable def Vs:E:=.comp 33 (.sub (.var 14) (.int 0)) none (Jk .lt (.var 33) (.var 2) (.tup [.str aa,.pure (.list [.var 33]),.pure (.dz [] [])]) (.str bq))
noncomputable def Vt:E:=.comp 34 (.sub (.var 14) (.int 0)) none (Jk .lt (.var 34) (.var 2) (.sub (.var 26) (.var 34)) (.str eN))
noncomputable def Y0:E:=.tup [.str aE,.var 18,.pure (.dz [bG] [.tup [.str ao,.var 35,.pure (.dz [] [])]])]
noncomputable def vM(m:Nat) (dc:List (Option Tx)) (bt:Bool) (u:Ve) (a b d:PV):Ve:=bM (bM (bM (vL m dc bt u) 13 a) 14 b) 15 d
noncomputable def Y3(m:Nat) (pl:List (Option Nat)):PV:=.lst ((pl.map (Q8 (jt m))).map It.view)
noncomputable def Y4(dc:List (Option Tx)) (pl:List (Option Nat)):PV:=.lst (pl.map (aT (dc.map aD) (.str eN)))
theorem Uc:pe F 43 Vs (vM m dc bt u x (jE (.ok pl)) y)=some (.f (Y3 m pl)):=by
 have hl:((jt m).map It.view).length=m:=by unfold jt;rw[List.length_map,List.length_map,List.length_range]
 have z:=j0 (F:=F) (v:=vM m dc bt u x (jE (.ok pl)) y) (x:=33) (src:=.sub (.var 14) (.int 0)) (L:=pl) (enc:=cF) (aT ((jt m).map It.view) (.str bq)) (by kernel_rfl) (uP (n:=m) (y:=.var 2) (a:=.tup [.str aa,.pure (.list [.var 33]),.pure (.dz [] [])]) (b:=.str bq) .lt (fun i=>hl.symm▸AP m i) (fun i=>rfl) (fun it=>rfl) (fun it=>by kernel_rfl) (fun i h=>by
  have h:i<m:=hl▸h
  unfold jt
  rw[List.getElem?_map,List.getElem?_map,List.getElem?_range h]
  kernel_rfl) fun it=>rfl)
 rw[show PV.str bq=It.view .null from rfl,jG It.view (jt m) .null] at z
 exact z
theorem Ud(hl:dc.length=m):pe F 43 Vt (bM (vM m dc bt u x (jE (.ok pl)) y) 18 d)=some (.f (Y4 dc pl)):=by
 have hl:(dc.map aD).length=m:=by rw[List.length_map,hl]
 exact j0 (F:=F) (v:=bM (vM m dc bt u x (jE (.ok pl)) y) 18 d) (x:=34) (src:=.sub (.var 14) (.int 0)) (L:=pl) (enc:=cF) (aT (dc.map aD) (.str eN)) (by kernel_rfl) (uP (n:=m) (y:=.var 2) (a:=.sub (.var 26) (.var 34)) (b:=.str eN) .lt (fun i=>hl.symm▸AP m i) (fun i=>rfl) (fun it=>rfl) (fun it=>by kernel_rfl) (fun i _=>(by kernel_rfl:_=je (((dc.map aD)[i]?).map Pr.t)).trans (by cases(dc.map aD)[i]?<;>rfl)) fun it=>rfl)
noncomputable def L3(m:Nat) (bt:Bool) (ix:Ix):List (Nat×PV):=[(13,ix.pv),(31,fM (hO m bt)),(30,Ig m bt),(2,.int (m:Nat))]
theorem Ma(x y:PV):AX (L3 m bt ix) (vM m dc bt u ix.pv x y):=⟨bM (bM (bM (bM u 26 (.lst (dc.map aD))) 28 (b5 (oj m) (dc.map aD))) 14 x) 15 y,by kernel_rfl⟩
theorem Qp(hl:dc.length=m) (D:Except Tx (List (Option Nat))) (hD:fh ix=true->D=.ok ((List.range m).map some)) (H:∀u,Fw c (Bd 30) (bs (L3 m bt ix) u) l P):Fw c (Bd 29) (vM m dc bt u ix.pv (jE D) (uS m dc ix D)) l P:=by
 cases hi:fh ix with
 |true =>
  cases hD hi
  exact .ifs (e:=.bi .isStr [.var 14]) false (by kernel_rfl) (by kernel_rfl) (.ifs false (by kernel_rfl) ((yK _).trans (by rw[hi];rfl)) (.has (Ma _ _) fun u=>.to (ss':=Bd 30) (by kernel_rfl) (H u)))
 |false =>
  have ht:uS m dc ix D=Qn (sJ m dc) D:=by unfold uS;rw[hi];rfl
  induction D with
  |error e =>
   rw[ht]
   exact .ifs (e:=.bi .isStr [.var 14]) true (by kernel_rfl) (by kernel_rfl) (.ifs (e:=.cmp .ne (.var 15) (.var 14)) false (by kernel_rfl) (n9 (d:=.str e) (by kernel_rfl) (by kernel_rfl) (jZ e)) (.has (Ma _ _) fun u=>.to (ss':=Bd 30) (by kernel_rfl) (H u)))
  |ok pl =>
   rw[ht]
   refine .ifs (e:=.bi .isStr [.var 14]) false (by kernel_rfl) (by kernel_rfl) (.ifs true (by kernel_rfl) ((yK _).trans (by rw[hi];rfl)) ?_)
   refine .wO (x:=18) (e:=Vs) (by kernel_rfl) rfl (congrArg je Uc) (.wO (x:=35) (e:=Vt) (by kernel_rfl) rfl (congrArg je (Ud hl)) ?_)
   exact .ifs (e:=.cmp .ne (.var 15) Y0) false (by kernel_rfl) (n9 (d:=sJ m dc pl) (by kernel_rfl) (by kernel_rfl) (Cq m dc pl)) (.has (((Ma _ _).set _ rfl rfl).set _ rfl rfl) fun u=>.to (ss':=Bd 30) (by kernel_rfl) (H u))
theorem Qq(hm:m<5) (hl:dc.length=m) (hg:∀t∈dc,nY t) (H:∀ix u l,ix.ok->Fw c (Bd 30) (bs (L3 m bt ix) u) l P):Fw c (Bd 26) (vL m dc bt u) l P:=by
 refine .ix (by kernel_rfl) (by kernel_rfl) fun ix l hx=>?_
 refine .set (x:=14) (e:=.call 80 [.var 13,.var 2,.var 26,.bool false]) (d:=jE (iG m (some dc) ix)) (by kernel_rfl) rfl ((by kernel_rfl:_=c.F 80 [ix.pv,.int m,fM (some dc),.bool false]).trans (TS m (by omega) (some dc) hx)) ?_
 refine .set (x:=15) (e:=Ub) (d:=uS m dc ix (iG m (some dc) ix)) (by kernel_rfl) rfl ((by kernel_rfl:_=n7 c.F (c.F 43 [b5 (oj m) (dc.map aD),.lst [ix.pv],.bool true,.bool true])).trans (L8 hm hl hg hx)) ?_
 exact .to (ss':=Bd 29) (by kernel_rfl) (Qp hl _ (fun hi=>by cases j5 hi;rfl) fun u=>H ix u l hx)
end
theorem yL(m:Nat):(mj m).length=m+1:=by unfold mj;rw[List.length_map,List.length_range]
theorem Qs{m:Nat}(hm:m<5):okN (some (mj m)):=fun q hq=>by
 injection hq with hq;subst hq
 refine⟨by rw[yL];omega,fun s hs e=>?_⟩
 obtain⟨i,_,h⟩:=List.mem_map.mp hs
 injection h with h;subst h
 exact nomatch congrArg List.length e
theorem yM(m i:Nat) (h:i<m+1):(lB m)[i]? = some (.int (10+i)):=by
 unfold lB;rw[List.getElem?_map,List.getElem?_range h];rfl
theorem Y5(m:Nat) (pl:List (Option Nat)):∀d∈pl.map (aT (lB m) .none),m7 7 d=true:=fun d hd=>by
 obtain⟨p,_,rfl⟩:=List.mem_map.mp hd
 induction p with
 |none=>exact sG 7
 |some i =>
  by_cases h:i<m+1
  ·unfold aT;simp only[Option.bind];rw[yM m i h];exact qy 7 _
  ·rw[rX (lB m) .none (by rw[jH];omega)];exact sG 7
section
variable {c:Ct}{F:Nat->List PV->Option Pr}{v u:Ve}{l:List PV}{P:aB}{m j p q:Nat}{d e x y:PV}{ss:List S}{a b:E}{ix:Ix}{bt drop:Bool}{pl:List (Option Nat)}{w:Ve}{X:List PV}{o:Option (List PV)}
noncomputable def Ih(m:Nat) (b:Bool) (pl:List (Option Nat)):Option (List PV):=(hO m b).map fun l=>pl.map (aT (l.map aD) (.str eN))
noncomputable def uT(m:Nat) (pl:List (Option Nat)):List PV:=pl.map (aT (lB m) .none)
noncomputable def yN(m:Nat) (bt drop:Bool) (pl:List (Option Nat)):PV:=yI (uT m pl) (Ih m bt pl) drop
theorem Mb(hm:m<5) (hx:ix.ok):∃tv,n7 c.F (c.F 43 [Ig m bt,.lst [ix.pv],.bool drop,.bool true])=some (.t tv)/\(fh ix=false->tv=Qn (yN m bt drop) (iG (m+1) (hO m bt) ix)):=by
 have Vu:(lB m).length<1000:=by rw[jH];omega
 cases hi:fh ix with
 |true =>
  cases j5 hi
  induction bt with
  |false=>exact⟨.tup [.str aa,.lst (lB m),.aK [(dX,wU (m+1))]],(told (n8 (D:=.ok (Ig m false)) rfl (su (c.k+10) (lB m) (m+1) drop []))).trans (jf rfl (by kernel_rfl)),(fun h=>nomatch h)⟩
  |true=>exact⟨.tup [.str aa,.lst (lB m),.aK [(dX,wU (m+1)),(bP,.tup [.str aE,.lst [lC ((mj m).map aD)],.aK []])]],(told (n8 (D:=.ok (Ig m true)) rfl (sy (c.k+10) (lB m) (m+1) (mj m) drop []))).trans (jf rfl (by kernel_rfl)),(fun h=>nomatch h)⟩
 |false =>
  induction bt with
  |false =>
   have h:=B4 (c.k+10) (lB m) Vu (m+1) ix hx (qz hi) drop []
   rw[jH] at h
   refine⟨Qn (yN m false drop) (iG (m+1) none ix),(told (n8 rfl h)).trans (jf rfl ?_),fun _=>rfl⟩
   cases iG (m+1) none ix with
   |error e=>exact lg (c.k+18) e _
   |ok pl=>exact sL (c.k+12) _ _ _ _
  |true =>
   have h:=B6 (c.k+10) (lB m) Vu (m+1) (mj m) (Qs hm) ix hx (qz hi) drop []
   rw[jH] at h
   refine⟨Qn (yN m true drop) (iG (m+1) (some (mj m)) ix),(told (n8 rfl h)).trans (jf rfl ?_),fun _=>rfl⟩
   cases iG (m+1) (some (mj m)) ix with
   |error e=>exact lg (c.k+18) e _
   |ok pl=>exact sL (c.k+12) _ _ _ _
noncomputable def Jo:List S:=match Bd 31 with| s::_=>(match s with| .gp _ _ b=>b|_=>[])|_=>[]
noncomputable def Ue:E:=.call 81 [.kept (.call 43 [.var 30,.pure (.list [.var 13]),.var 36,.bool true])]
noncomputable def Vv:E:=.comp 37 (.sub (.var 14) (.int 0)) none (Jk .le (.var 37) (.var 2) (.bin .add (.int 10) (.var 37)) .none)
noncomputable def Ug:E:=.comp 38 (.sub (.var 14) (.int 0)) none (Jk .le (.var 38) (.var 2) (.sub (.var 31) (.var 38)) (.str eN))
noncomputable def Dn:E:=.tup [.str ao,.pure Ug,.pure (.dz [] [])]
noncomputable def L4(m:Nat) (bt:Bool) (ix:Ix) (D:Except Tx (List (Option Nat))):List (Nat×PV):=(14,jE D)::L3 m bt ix
noncomputable def vS(m:Nat) (bt:Bool) (ix:Ix) (D:Except Tx (List (Option Nat))) (u:Ve) (drop:Bool) (tv:PV):Ve:=bM (bM (bs (L4 m bt ix D) u) 36 (.bool drop)) 15 tv
theorem Jp(i:Nat):A3 .le i m=decide (i<m+1):=decide_eq_decide.mpr (Int.ofNat_le.trans Nat.lt_succ_iff.symm)
theorem Uh:pe F 43 Vv (vS m bt ix (.ok pl) u drop y)=some (.f (.lst (uT m pl))) :=
 j0 (F:=F) (v:=vS m bt ix (.ok pl) u drop y) (x:=37) (src:=.sub (.var 14) (.int 0)) (L:=pl) (enc:=cF) (aT (lB m) .none) (by kernel_rfl) (uP (n:=m) (y:=.var 2) (a:=.bin .add (.int 10) (.var 37)) (b:=.none) .le (fun i=>(jH m).symm▸Jp i) (fun i=>rfl) (fun it=>rfl) (fun it=>by kernel_rfl) (fun i h=>(yM m i (jH m▸h)).symm▸(by kernel_rfl)) fun it=>rfl)
noncomputable def vT(m:Nat) (ix:Ix) (pl:List (Option Nat)) (u:Ve) (drop:Bool) (tv:PV):Ve:=bM (bM (vS m true ix (.ok pl) u drop tv) 18 (.lst (uT m pl))) 35 .none
theorem Ui:pe F 43 Ug (vT m ix pl u drop y)=some (.f (.lst (pl.map (aT ((mj m).map aD) (.str eN))))):=by
 have hl:((mj m).map aD).length=m+1:=by rw[List.length_map,yL]
 exact j0 (F:=F) (v:=vT m ix pl u drop y) (x:=38) (src:=.sub (.var 14) (.int 0)) (L:=pl) (enc:=cF) (aT ((mj m).map aD) (.str eN)) (by kernel_rfl) (uP (n:=m) (y:=.var 2) (a:=.sub (.var 31) (.var 38)) (b:=.str eN) .le (fun i=>hl.symm▸Jp i) (fun i=>rfl) (fun it=>rfl) (fun it=>by kernel_rfl) (fun i _=>(by kernel_rfl:_=je ((((mj m).map aD)[i]?).map Pr.t)).trans (by cases((mj m).map aD)[i]?<;>rfl)) fun it=>rfl)
theorem Uj:pe F 43 Dn (vT m ix pl u drop y)=some (.t (lC (pl.map (aT ((mj m).map aD) (.str eN))))):=by
 have q:∀p,pe F 43 Ug (vT m ix pl u drop y)=p->pe F 43 Dn (vT m ix pl u drop y)=(i6 (some (.t (.str ao))) (i6 (uN p) (i6 (some (.t (.aK []))) (some [])))).bind (fun ds=>some (.t (.tup ds))):=fun p h=>by subst h;kernel_rfl
 exact(q _ Ui).trans rfl
noncomputable def oV:Option (List PV)->PV
 |none=>.none
 |some L=>lC L
noncomputable def vR(u:Ve) (X:List PV) (o:Option (List PV)) (drop:Bool):Ve:=bM (bM (bM u 18 (.lst X)) 35 (oV o)) 36 (.bool drop)
noncomputable def Vx:E:=.and [.var 36,.cmp .eq (.bi .len [.var 18]) (.int 1)]
noncomputable def Rb(t:Bool):E:=cond t (.dz [] []) (.dz [dX] [.tup [.str aa,.pure (.list [.bi .len [.var 18]]),.pure (.dz [] [])]])
noncomputable def Uk:E:=.ite Vx (Rb true) (Rb false)
noncomputable def sP(X:List PV) (drop:Bool):Bool:=cond drop (decide ((X.length:Int)=(1:Int))) false
noncomputable def MQ(n:Nat) (t:Bool):List (Tx×PV):=cond t [] [(dX,wU n)]
noncomputable def Rc(n:Nat) (o:Option (List PV)) (t:Bool):List (Tx×PV):=match o with
 |none=>MQ n t
 |some L=>cond t [(bG,lC L)] [(dX,wU n),(bP,.tup [.str aE,.lst [lC L],.aK []])]
theorem Mc(X:List PV) (o:Option (List PV)) (drop:Bool):Rc X.length o (sP X drop)=uR X.length o drop:=by
 unfold uR sP Rc MQ
 induction drop with
 |false=>rw[if_neg (fun h=>nomatch h.1)];induction o<;>rfl
 |true =>
  by_cases h:X.length=1
  ·rw[if_pos ⟨rfl,h⟩,h];induction o<;>rfl
  ·rw[if_neg (fun q=>h q.2),show(cond true (decide ((X.length:Int)=1)) false)=false from decide_eq_false fun q=>h (Int.ofNat.inj q)];induction o<;>rfl
theorem Ul(hc:Cl (J2 m bt)):ex c.C (.assign 39 Uk) (Gs (vR u X o drop)) (c.W l (J2 m bt))=some (.next ((Gs (vR u X o drop)).set 39 (some (.r 5))) (c.W l (J2 m bt++[.aK (MQ X.length (sP X drop))]))):=by
 have h:pe c.F 43 Vx (vR u X o drop)=some (.t (.bool (sP X drop))):=by induction drop<;>kernel_rfl
 rw[aC,Uk,cL,jF hc h,af,ak]
 cases sP X drop with
 |true=>exact(by kernel_rfl:R.out (ev c.C (Rb true) (Gs (vR u X o drop)) (c.W l (J2 m bt))) (fun a st=>some (.next ((Gs (vR u X o drop)).set 39 (some a)) st))=_)
 |false=>exact(by kernel_rfl:R.out (ev c.C (Rb false) (Gs (vR u X o drop)) (c.W l (J2 m bt))) (fun a st=>some (.next ((Gs (vR u X o drop)).set 39 (some a)) st))=_)
noncomputable def Vy:S:=match Jo.drop 7 with| s::_=>(match s with| .cut _ s=>s|s=>s)|_=>.bad
noncomputable def Rd(o:Option (List PV)) (t:Bool):Nat:=match o with| none=>5|some _=>cond t 6 5
noncomputable def Vz(n:Nat) (o:Option (List PV)) (t:Bool):aB:=match o with
 |none=>[.aK (MQ n t)]
 |some L=>cond t [.aK [],.aK [(bG,lC L)]] [.aK [(dX,wU n),(bP,.tup [.str aE,.lst [lC L],.aK []])]]
noncomputable def Qt(n:Nat) (o:Option (List PV)) (t:Bool):Node:=match o with
 |none=>.fz (.aK (MQ n t))
 |some L=>cond t (.aK []) (.fz (.aK [(dX,wU n),(bP,.tup [.str aE,.lst [lC L],.aK []])]))
noncomputable def VA(o:Option (List PV)) (t:Bool):aB:=match o with
 |none=>[]
 |some L=>cond t [.fz (.aK [(bG,lC L)])] []
theorem Um(t:Bool):ex c.C Vy ((Gs (vR u X o drop)).set 39 (some (.r 5))) (c.W l (J2 m bt++[.aK (MQ X.length t)]))=some (.next ((Gs (vR u X o drop)).set 39 (some (.r (Rd o t)))) (c.W l (J2 m bt++Vz X.length o t))):=by
 induction o<;>induction t<;>kernel_rfl
theorem Ff(n:Nat) (t:Bool):Cl (J2 m bt++[Qt n o t]):=by induction o<;>induction t<;>rfl
theorem Me(t:Bool):3<=Rd o t:=by induction o<;>induction t<;>exact Nat.le_of_ble_eq_true rfl
theorem Qu(n:Nat) (t:Bool):i8 cT (c.W l (J2 m bt++Vz n o t)) (.r (Rd o t))=some (.aK (Rc n o t),c.W l (J2 m bt++[Qt n o t])++VA o t):=by induction o<;>induction t<;>rfl
theorem Qv(h8:ss.take 2=[.assign 39 Uk,.cut 3 Vy]) (H:Fw c (ss.drop 2) (bM (vR u X o drop) 39 (.aK (uR X.length o drop))) l (J2 m bt++[Qt X.length o (sP X drop)])):Fw c ss (vR u X o drop) l (J2 m bt):=.L6 2 fun hl hc hk=>by
 have e1:=Ul (c:=c) (l:=l) (u:=u) (X:=X) (o:=o) (drop:=drop) hc
 rw[<-Mc] at H
 generalize sP X drop=t at e1 H
 have z:=wR (c:=c) (v:=vR u X o drop) (x:=39) (j:=Rd o t) (d:=.aK (Rc X.length o t)) (P':=J2 m bt++[Qt X.length o t]) (X:=VA o t) (l':=l) (n:=0) (Um t) (Qu _ t) hk (Ff _ t) (Me t) rfl rfl
 refine⟨_,l,J2 m bt++[Qt X.length o t],hl,Ff _ t,Gs.ok hk 39 _,?_,H⟩
 rw[h8,ah,e1,au,ah,z];rfl
end
section
variable {c:Ct}{F:Nat->List PV->Option Pr}{v u:Ve}{l:List PV}{P:aB}{m:Nat}{d x y tv:PV}{ss:List S}{ix:Ix}{bt drop:Bool}{pl:List (Option Nat)}{X:List PV}{o:Option (List PV)}{D:Except Tx (List (Option Nat))}
theorem AX.base{L:List (Nat×PV)}(u:Ve):AX L (bs L u):=⟨u,rfl⟩
theorem Un(u:Ve):AX (L4 m bt ix D) (vS m bt ix D u drop tv):=((AX.base u).set _ rfl rfl).set _ rfl rfl
theorem yO:pe F 43 (.cmp .eq (.attr (.var 13) aj) (.str bF)) (vS m bt ix D u drop tv)=some (.t (.bool (fh ix))):=by induction ix<;>kernel_rfl
noncomputable def vU(m:Nat) (bt:Bool) (ix:Ix) (D:Except Tx (List (Option Nat))) (u:Ve) (tv:PV):Ve:=bM (bs (L4 m bt ix D) u) 15 tv
theorem Jq(ht:tv=yN m bt drop pl):Fw (c.turn (J2 m bt) (AX (L4 m bt ix D))) (Jo.drop 6) (vR (vU m bt ix D u tv) (uT m pl) (Ih m bt pl) drop) l (J2 m bt):=by
 refine Qv (by kernel_rfl) (.ifs (e:=.cmp .ne (.var 15) (.tup [.str aa,.var 18,.var 39])) false (by kernel_rfl) (n9 (d:=tv) (by kernel_rfl) ((by kernel_rfl:_=some (Pr.t (yN m bt drop pl))).trans (by rw[ht])) (by rw[ht];exact Cr _ (Y5 m pl) (hO m bt) pl drop)) ?_)
 exact .to (ss':=[]) (by kernel_rfl) (.end (((((AX.base u).set _ rfl rfl).set _ rfl rfl).set _ rfl rfl |>.set _ rfl rfl).set _ rfl rfl))
theorem Mf(hm:m<5) (hx:ix.ok) (h:AX (L4 m bt ix (iG (m+1) (hO m bt) ix)) v):Fw (c.turn (J2 m bt) (AX (L4 m bt ix (iG (m+1) (hO m bt) ix)))) Jo (bM v 36 (.bool drop)) l (J2 m bt):=by
 obtain⟨u,hu⟩:=h
 obtain⟨tv,h1,h2⟩:=Mb (c:=c) (m:=m) (bt:=bt) (drop:=drop) hm hx
 refine .re (Gs.bM hu 36 (.bool drop)) (.set (x:=15) (e:=Ue) (d:=tv) (by kernel_rfl) rfl ((by kernel_rfl:_=n7 c.F (c.F 43 [Ig m bt,.lst [ix.pv],.bool drop,.bool true])).trans h1) ?_)
 have hD:fh ix=true->iG (m+1) (hO m bt) ix=.ok ((List.range (m+1)).map some):=fun hi=>by cases j5 hi;rfl
 revert h2 hD
 show _->_->Fw _ _ (vS m bt ix (iG (m+1) (hO m bt) ix) u drop tv) _ _
 generalize iG (m+1) (hO m bt) ix=D
 intro h2 hD
 have hs:=Un (m:=m) (bt:=bt) (ix:=ix) (D:=D) (drop:=drop) (tv:=tv) u
 cases hi:fh ix with
 |true =>
  cases hD hi
  exact .ifs (e:=.bi .isStr [.var 14]) false (by kernel_rfl) (by kernel_rfl) (.ifs true (by kernel_rfl) (yO.trans (by rw[hi])) (.to (ss':=.cont::Jo.drop 3) (by kernel_rfl) (.cont hs)))
 |false =>
  have h2:=h2 hi
  induction D with
  |error e =>
   exact .ifs (e:=.bi .isStr [.var 14]) true (by kernel_rfl) (by kernel_rfl) (.ifs (e:=.cmp .ne (.var 15) (.var 14)) false (by kernel_rfl) (n9 (d:=tv) (by kernel_rfl) ((by kernel_rfl:_=some (Pr.t (.str e))).trans (by rw[h2];rfl)) (by rw[h2];exact jZ e)) (.to (ss':=.cont::Jo.drop 2) (by kernel_rfl) (.cont hs)))
  |ok pl =>
   refine .ifs (e:=.bi .isStr [.var 14]) false (by kernel_rfl) (by kernel_rfl) (.ifs false (by kernel_rfl) (yO.trans (by rw[hi])) (.wO (x:=18) (e:=Vv) (by kernel_rfl) rfl (congrArg je Uh) (.set (x:=35) (e:=.none) (d:=.none) (by kernel_rfl) rfl rfl ?_)))
   induction bt with
   |false=>exact .ifs (e:=.cmp .eg (.var 31) .none) false (by kernel_rfl) (by kernel_rfl) (.to (ss':=Jo.drop 6) (by kernel_rfl) (.re (v':=vR (vU m false ix (.ok pl) u tv) (uT m pl) (Ih m false pl) drop) (by kernel_rfl) (Jq h2)))
   |true=>exact .ifs (e:=.cmp .eg (.var 31) .none) true (by kernel_rfl) (by kernel_rfl) (.set (x:=35) (e:=Dn) (by kernel_rfl) rfl Uj (.to (ss':=Jo.drop 6) (by kernel_rfl) (.re (v':=vR (vU m true ix (.ok pl) u tv) (uT m pl) (Ih m true pl) drop) (by kernel_rfl) (Jq h2))))
theorem Qw(hm:m<5) (hx:ix.ok) (H:∀u l,Fw c (Bd 32) (up1 u) l (J2 m bt)):Fw c (Bd 30) (bs (L3 m bt ix) u) l (J2 m bt):=by
 refine .set (x:=14) (e:=.call 80 [.var 13,.bin .add (.var 2) (.int 1),.var 31,.bool false]) (d:=jE (iG (m+1) (hO m bt) ix)) (by kernel_rfl) rfl ((by kernel_rfl:_=c.F 80 [ix.pv,.int (m+1:Nat),fM (hO m bt),.bool false]).trans (TS (m+1) (by omega) (hO m bt) hx)) ?_
 refine .gp (x:=36) (e:=.pure (.list [.bool false,.bool true])) (items:=[.bool false,.bool true]) (B:=Jo) (I:=AX (L4 m bt ix (iG (m+1) (hO m bt) ix))) (by kernel_rfl) (by kernel_rfl) ⟨u,by kernel_rfl⟩ (fun d hd v l h=>?_) fun v l ⟨u,h⟩=>.re h (.to (ss':=Bd 32) (by kernel_rfl) (.re (v':=up1 (bs (L4 m bt ix (iG (m+1) (hO m bt) ix)) u)) (by kernel_rfl) (H _ l)))
 rcases LK hd with rfl|rfl<;>exact Mf hm hx h
noncomputable def VB:PV:=vec aa [.int 2,.int 2] .none
noncomputable def vm:PV:=vec ao [.str MH] .none
noncomputable def Rf:Bool->List (Tx×PV)
 |false=>[(dX,VB),(iy,vm)]
 |true=>[(dX,VB),(iy,vm),(bP,vec aE [vec ao [.str pQ,.str pR] .none,cW] .none)]
noncomputable def i4:List PV:=[.int 1,.int 2,.int 3,.int 4]
noncomputable def FH(b:Bool):PV:=vec aa i4 (.aK (Rf b))
noncomputable def VC(j:Nat):List PV:=cond (Nat.blt j 4) (i4.set j (.int 9)) (i4++List.replicate (j-4) .none++[.int 9])
noncomputable def Qx:Bool->List (Tx×PV)
 |false=>[(dX,.tup [.str aa,.lst [.int 2,.int 2],.aK []]),(iy,lC [.str MH])]
 |true=>[(dX,.tup [.str aa,.lst [.int 2,.int 2],.aK []]),(iy,lC [.str MH]),(bP,.tup [.str aE,.lst [lC [.str pQ,.str pR],.str bq],.aK []])]
noncomputable def Qy(b:Bool) (j:Nat):PV:=vec aa (VC j) (.aK (cond (Nat.blt j 4) (Rf b) [(iy,vm)]))
noncomputable def Fg(b:Bool) (j:Nat):PV:=.tup [.str aa,.lst (VC j),.aK (cond (Nat.blt j 4) (Qx b) [(iy,lC [.str MH])])]
noncomputable def Qz(b:Bool):PV:=.tup [.str aa,.lst i4,.aK (Qx b)]
noncomputable def VD:List (Bool×Nat):=[false,true].flatMap fun b=>(List.range 8).map fun j=>(b,j)
theorem om{α:Type}{f g:Bool×Nat->α}(h:VD.map f=VD.map g) (b:Bool){j:Nat}(hj:j<8):f (b,j)=g (b,j):=List.map_inj_left.mp h _ (List.mem_flatMap.mpr ⟨b,(by induction b<;>decide),List.mem_map.mpr ⟨j,List.mem_range.mpr hj,rfl⟩⟩)
theorem Uo(k:Nat) (b:Bool){j:Nat}(hj:j<8):call T (k+20) 67 [.t (FH b),.t (.lst [ee j]),.t (vec aa [.int 9] .none),.t (.lst [])] []=ok (.t (Qy b j)) [] :=
 congrFun (om (f:=fun q k=>call T (k+20) 67 [.t (FH q.1),.t (.lst [ee q.2]),.t (vec aa [.int 9] .none),.t (.lst [])] []) (g:=fun q k=>ok (.t (Qy q.1 q.2)) []) (by kernel_rfl) b hj) k
theorem Up(k:Nat) (b:Bool){j:Nat}(hj:j<8):call T (k+20) 81 [.t (Qy b j)] []=ok (.t (Fg b j)) [] :=
 congrFun (om (f:=fun q k=>call T (k+20) 81 [.t (Qy q.1 q.2)] []) (g:=fun q k=>ok (.t (Fg q.1 q.2)) []) (by kernel_rfl) b hj) k
theorem Fi{d:PV}(h:CK d=true):eqT d d=some true:=by
 cases d with
 |tup l=>exact jY (List.all_eq_true.mp h)
 |_=>injection h
theorem AY(b:Bool){j:Nat}(hj:j<8):eqT (Fg b j) (Fg b j)=some true:=Fi (om (f:=fun q=>CK (Fg q.1 q.2)) (g:=fun _=>true) (by kernel_rfl) b hj)
noncomputable def Rg(m:Nat) (bt b:Bool):aB:=J2 m bt++[.fz (.aK (Rf b)),.fz (FH b)]
noncomputable def MR(m:Nat) (bt b:Bool):aB:=J2 m bt++[.aK (Rf b),iV (.t (.str aa)) (.t (.lst i4)) (.r 5)]
noncomputable def Rh:List S:=match(Bd 33) with| s::_=>(match s with| .cut _ s=>(match s with| .ifs _ a _=>a|_=>[])|_=>[])|_=>[]
theorem Uq:bO c.C ((Bd 32).take 1) (Gs (up1 u)) (c.W l (J2 m bt))=some (.next ((Gs (up1 u)).set 40 (some (.r 6))) (c.W l (MR m bt false))):=by kernel_rfl
theorem Ur:bO c.C Rh ((Gs (up1 u)).set 40 (some (.r 6))) (c.W l (MR m bt false))=some (.next ((Gs (up1 u)).set 40 (some (.r 6))) (c.W l (MR m bt true))):=by kernel_rfl
theorem QA(H:∀b l,Fw c (Bd 34) (bM (up1 u) 40 (FH b)) l (Rg m bt b)):Fw c (Bd 32) (up1 u) l (J2 m bt):=.L6 2 fun hl hc hk=>by
 have hp:∀b,Cl (Rg m bt b):=fun b=>rfl
 obtain⟨t,l',r,e⟩:=AS (c:=c) (g:=(Gs (up1 u)).set 40 (some (.r 6))) (A:=Rh) hl (P:=MR m bt false) rfl (by kernel_rfl)
 have e':ex c.C (.ifs (.cmp .eq (eR (.int 2)) (.int 1)) Rh []) ((Gs (up1 u)).set 40 (some (.r 6))) (c.W l (MR m bt false))=some (.next ((Gs (up1 u)).set 40 (some (.r 6))) (c.W l' (MR m bt t))):=by
  induction t with
  |false=>exact e
  |true=>exact e.trans Ur
 have z:=wR (c:=c) (v:=up1 u) (x:=40) (j:=6) (d:=FH t) (P':=Rg m bt t) (X:=[]) (l':=l') (n:=0) e' (by induction t<;>rfl) hk (hp t) (by decide) rfl rfl
 refine⟨_,l',Rg m bt t,r,hp t,Gs.ok hk 40 _,?_,.to (ss':=Bd 34) (by kernel_rfl) (H t l')⟩
 rw[show(Bd 32).take 2=(Bd 32).take 1++[.cut 3 (.ifs (.cmp .eq (eR (.int 2)) (.int 1)) Rh [])] by kernel_rfl,nO,Uq]
 show mH (ex _ _ _ _) _ []=_
 rw[z];rfl
noncomputable def Y6:E:=.call 81 [.call 67 [.var 40,.pure (.list [.pure (.new .aJ 2 [.str aa,.pure (.list [.var 41])])]),.pure (.new .aJ 2 [.str aa,.pure (.list [.int 9])]),.pure (.list [])]]
noncomputable def vZ(u:Ve) (b:Bool) (j:Nat):Ve:=bM (bM (bM (bM (up1 u) 40 (FH b)) 41 (.int ((j+1:Nat):Int))) 15 (Fg b j)) 16 (Qz b)
noncomputable def rA:E:=.tup [.str aa,.pure (.bin .add (.pure (.bin .add (.pure (.list [.int 1,.int 2,.int 3,.int 4])) (.pure (.bin .mul (.pure (.list [.none])) (.bin .sub (.var 41) (.int 5)))))) (.pure (.list [.int 9]))),.var 39]
noncomputable def rB:E:=.tup [.str aa,.pure (.cO 42 [.int 1,.int 5] none (.ite (.cmp .eq (.var 42) (.var 41)) (.int 9) (.var 42))),.sub (.var 16) (.int 2)]
noncomputable def wZ(u:Ve) (q:Bool×Nat):Ve:=cond (Nat.blt q.2 4) (vZ u q.1 q.2) (bM (vZ u q.1 q.2) 39 (.aK [(iy,lC [.str MH])]))
theorem Y7(F:Nat->List PV->Option Pr) (u:Ve) (b:Bool){j:Nat}(hj:j<8):pe F 43 (cond (Nat.blt j 4) rB rA) (wZ u (b,j))=some (.t (Fg b j)) :=
 congrFun (congrFun (om (f:=fun q F u=>pe F 43 (cond (Nat.blt q.2 4) rB rA) (wZ u q)) (g:=fun q F u=>some (.t (Fg q.1 q.2))) (by kernel_rfl) b hj) F) u
theorem Y8(F:Nat->List PV->Option Pr) (u:Ve) (b:Bool){j:Nat}(hj:j<8):pe F 43 (.cmp .gt (.var 41) (.int 4)) (vZ u b j)=some (.t (.bool (!Nat.blt j 4))) :=
 congrFun (congrFun (om (f:=fun q F u=>pe F 43 (.cmp .gt (.var 41) (.int 4)) (vZ u q.1 q.2)) (g:=fun q F u=>some (.t (.bool (!Nat.blt q.2 4)))) (by kernel_rfl) b hj) F) u
theorem QB(b:Bool) (hq:∀st,c.Q (some (.ret (.t (.bool true)) st))):Fw c (Bd 34) (bM (up1 u) 40 (FH b)) l P:=by
 refine .asg (x:=41) (M:=.int 8) 8 (fun j=>.int ((j+1:Nat):Int)) (by kernel_rfl) rfl rfl rfl AM fun j l hj=>?_
 refine .set (x:=15) (e:=Y6) (d:=Fg b j) (by kernel_rfl) rfl ((by kernel_rfl:_=o7 c.F (c.F 67 [FH b,.lst [ee j],vec aa [.int 9] .none,.lst []])).trans ?_) ?_
 ·rw[jf (c:=c) (f:=67) (ds:=[FH b,.lst [ee j],vec aa [.int 9] .none,.lst []]) rfl (Uo c.k b hj)]
  exact(jf rfl (Up c.k b hj):c.F 81 [Qy b j]=_)
 refine .set (x:=16) (e:=.call 81 [.var 40]) (d:=Qz b) (by kernel_rfl) rfl ((by kernel_rfl:_=c.F 81 [FH b]).trans (jf rfl (by induction b<;>kernel_rfl))) ?_
 have z:=Y7 c.F u b hj
 refine .ifs (e:=.cmp .gt (.var 41) (.int 4)) (!Nat.blt j 4) (by kernel_rfl) (Y8 c.F u b hj) ?_
 unfold wZ at z
 revert z
 dsimp only
 cases Nat.blt j 4 with
 |true=>exact fun z=>.ret (a:=.var 15) (b:=rB) (d:=Fg b j) (by kernel_rfl) (by kernel_rfl) z (AY b hj) hq
 |false=>exact fun z=>.wO (x:=39) (e:=.dz [iy] [.sub (.sub (.var 16) (.int 2)) (.str iy)]) (by kernel_rfl) rfl (by induction b<;>kernel_rfl) (.ret (a:=.var 15) (b:=rA) (d:=Fg b j) (by kernel_rfl) (by kernel_rfl) z (AY b hj) hq)
end
theorem Mg(c:Ct) (hq:∀st,c.Q (some (.ret (.t (.bool true)) st))) (v:Ve) (hv:∀m,Gs (bM v 2 (.int (m:Nat)))=Gs (vA m v)) (h1:v 1=some (.r 2)) (l:List PV):Fw c (Bd 1) v l [] :=
 TR v hv h1 fun m ts u l hm hl ht=>TY hm hl ht fun u l=>T3 hm fun u l=>Qa hm hl ht fun u l j hj=>Qi hm hl ht hj fun u l =>
  .re (v':=vA m (bM (bM (bM (bM (bM u 4 (Vo ts)) 7 (mh m (none::ts))) 8 (LN m ts)) 9 (.int ((m+1:Nat):Int))) 11 (EW ts))) (by kernel_rfl) (Qk hm fun dc u l hn hg=>Qm hm fun b u l=>Qq hm hn hg fun ix u l hx=>Qw hm hx fun u l=>QA fun b l=>QB b hq)
theorem Fj(k:Nat) (zs:List Int):call T (k+21) 83 [.t (.lst (zs.map PV.int))] []=ok (.t (.bool true)) []:=by
 obtain⟨la,lb,l,hl,h0⟩:=HQ (k+19) zs
 obtain⟨st',h⟩:=Mg ⟨k,la,lb,fun o=>∃st',o=some (.ret (.t (.bool true)) st')⟩ (fun st=>⟨st,rfl⟩) (up1 (bM (fun _=>none) 0 (.lst (zs.map PV.int)))) (fun m=>by kernel_rfl) rfl l hl rfl (fun x hx i e=>by
  subst e
  obtain⟨j,_,h⟩:=List.mem_map.mp hx
  unfold up1 bM at h
  cases h1:Nat.beq j 1 with
  |true=>rw[h1] at h;(injection h with h;injection h with h;subst h);decide
  |false=>rw[h1] at h;cases h0:Nat.beq j 0<;>rw[h0] at h<;>cases h)
 refine bz (ds:=[.lst (zs.map PV.int)]) (g:=Gv 43 (bM (fun _=>none) 0 (.lst (zs.map PV.int)))) (a:=.t (.bool true)) (st':=st') rfl (by kernel_rfl) (aN 1 (g':=Gs (up1 (bM (fun _=>none) 0 (.lst (zs.map PV.int))))) (st':=W la lb l []) ?_ h) rfl
 rw[show(T 83).body.take 1=[.assign 1 (.call 74 [.var 0])] by kernel_rfl,ah,aC]
 rw[show ev (call T (k+20)) (.call 74 [.var 0]) (Gv 43 (bM (fun _=>none) 0 (.lst (zs.map PV.int)))) []=call T (k+20) 74 [.t (.lst (zs.map PV.int))] [] by kernel_rfl,h0]
 kernel_rfl
end Mine
namespace Mine
open PySem PySem.W PySem.Calls PyProof.Rows
theorem has_int{d:WData}(h:WShape.has [] d .int=true):∃z:Int,d=.int z:=by
 cases d<;>first| exact⟨_,rfl⟩|exact absurd (show false=true from h) Bool.false_ne_true
theorem qa:∀{xs:List WData},WShape.hasItems [] xs .int=true->∃zs:List Int,xs=zs.map .int
 |[],_=>⟨[],rfl⟩
 |x::xs,h=>by
  obtain⟨h1,h2⟩:=Bool.and_eq_true_iff.mp (show(WShape.has [] x .int&&WShape.hasItems [] xs .int)=true from h)
  obtain⟨z,rfl⟩:=has_int h1
  obtain⟨zs,rfl⟩:=qa h2
  exact⟨z::zs,rfl⟩
theorem Ii{args:List WData}(h:WShape.hasAll [] args [.list .int]=true):∃zs:List Int,args=[.list (zs.map .int)]:=by
 obtain⟨d,r,rfl,h1,h2⟩:=hasAllW_cons h
 have h3:r=[]:=by cases r with| nil=>rfl|cons _ _=>cases h2
 subst h3
 cases d with
 |list xs=>obtain⟨zs,rfl⟩:=qa (xs:=xs) ((Bool.or_false _).symm.trans (show(WShape.hasItems [] xs .int||false)=true from h1));exact⟨zs,rfl⟩
 |_=>exact absurd (show false=true from h1) Bool.false_ne_true
theorem lay_ints{cl:Str->Option Addr}{P:Params}{ord:List DictEntry->List DictEntry}:∀(zs:List Int) (s:Shared) (r:List Value×Shared),layAllW [] cl P ord (zs.map .int) s=some r->r.2.heap=s.heap/\∀G,bh G r.1 (zs.map .int)
 |[],s,r,e=>by cases e;exact⟨rfl,fun _=>.nil⟩
 |z::zs,s,r,e=>by
  obtain⟨a,q,h1,h2,rfl⟩:=layAllW_cons e
  cases h1
  obtain⟨h3,h4⟩:=lay_ints zs _ _ h2
  exact⟨h3,fun G=>.cons (.int z _) (h4 G)⟩
theorem Mh(zs:List Int) (h8:(WTm.and (.not (.lt (.lit (.int (63:Nat))) (.len (.arg 0)))) (.lit (.bool true))).holds [] { args:=[.list (zs.map .int)] }=true):zs.length<=63:=by
 rcases Nat.lt_or_ge 63 zs.length with h|h
 ·exfalso
  have h9:less? (.int 63) (.int (zs.length:Int))=some true:=congrArg some (decide_eq_true (by omega))
  simp[WTm.holds,WTm.value,h9] at h8
 ·exact h
theorem Ij{h₀ h h':Heap}{b:Addr}{o:Obj}(k:∀b o,h₀.get? b=some o->h.get? b=some o) (e:h₀.get? b=some o) (x:asItWas h₀ h' b o):asItWas h h' b o:=by
 rcases x with x|⟨⟨c,oc,vs,a1,a2,a3,a4⟩,r⟩|⟨rfl,hc,r,z⟩
 ·exact .inl x
 ·exact .inr (.inl ⟨⟨c,oc,vs,k _ _ a1,a2,a3,a4⟩,r⟩)
 ·refine .inr (.inr ⟨rfl,hc,r,fun key=>?_⟩)
  rw[OldK.staticOf_congr ((k _ _ e).trans e.symm) key];exact z key
noncomputable def yP(vs:List Value) (s:Shared):Wd:=⟨fun a=>if a=1084 then .fz (.lst vs 0) else .out,[],[],s⟩
theorem AZ{vs:List Value}{s:Shared}:(yP vs s).G 1084=.fz (.lst vs 0):=if_pos (e:=.out) (Eq.refl (1084:Addr))
theorem Fk{G:Addr->Lg}{v:Value}{b:Bool}:Rep G v (.bool b)->v=.bool b
 |.bool _=>rfl
 |.ref _ q _=>nomatch q
theorem A0{vs:List Value}{s:Shared}{a:Addr}{o:FO}(e:(yP vs s).G a=.fz o):a=1084/\o=.lst vs 0:=by
 by_cases q:a=1084
 ·exact⟨q,by have:=(if_pos q).symm.trans e;cases this;rfl⟩
 ·have:=(if_neg q).symm.trans e;cases this
theorem yQ{vs:List Value}{s:Shared}{a:Addr}(e:(yP vs s).G a≠.out):a=1084:=Classical.byContradiction fun q=>e (if_neg q)
theorem Ik{w:World}{s:Shared}{vs:List Value}(h1:s.heap=(hE w.params).push (jh vs)) (h2:s.gens=#[]) (hl:s.heap.NoLimit):Inv (x6 w s.os) (yP vs s)/\s.heap.get? 1084=some (jh vs):=by
 have hk:∀b o,(hE w.params).get? b=some o->s.heap.get? b=some o:=fun b o e=>by rw[h1];exact Heap.get?_push_of_some _ e
 have hn:s.heap.get? 1084=some (jh vs):=by
  have:=Heap.get?_push_size (hE w.params) (o:=jh vs) rfl
  rw[x7] at this
  rw[h1];exact this
 have hsz:s.heap.objs.size=1085:=by rw[h1,Heap.size_push,x7]
 have en:(x6 w s.os).cZ=1084:=x7 _
 obtain⟨_,l2,_⟩:=nL (O4 w)
 refine⟨⟨⟨rfl,fun i p nd e=>(nomatch e),fun i p nd e=>(nomatch e),fun a o e=>?_,fun a c dx gs e=>?_,fun a e=>?_,fun a e=>?_⟩,.of_keep hk,rfl,h2,hl,?_,?_,?_,.mk #[] (hk _ _ l2) trivial fun pos cv e=>(nomatch e)⟩,hn⟩
 ·obtain⟨rfl,rfl⟩:=A0 e;exact hn
 ·cases(A0 e).2
 ·rw[en,yQ e];exact Nat.le_refl _
 ·rw[yQ e];exact⟨_,hn⟩
 ·rw[en];decide
 ·rw[en];exact(by decide:1080<1084)
 ·rw[en];show 1084<=s.heap.objs.size;rw[hsz];decide
theorem Fo(CA:∀zs:List Int,call T 21 83 [.t (.lst (zs.map .int))] []=ok (.t (.bool true)) []) (w:World) (s cz:Shared) (hs:s.heap=hE w.params) (zs:List Int) (hz:zs.length<=63) (vs:List Value) (hv:∀G,bh G vs (zs.map .int))
  (h1:cz.heap=s.heap.push (jh vs)) (h2:cz.gens=#[]) (hl:cz.heap.NoLimit){c:ClaimW}(hr:c.raises=fun _ _=>false) (hp:∀a d,c.post a (.bool true) d=true) (cl:Str->Option Addr) (Il:ExcName->Option Value) (args:List WData) :
  wpAny (model Challenge.pw_nz0546_01 w) callerA (PySem.call (.ref 1083) [.ref 1084]) (fun v s'=>GoodWG c cl Il args cz (.ok (.ret v)) s') (fun e s'=>GoodWG c cl Il args cz (.error e) s') cz:=by
 rw[hs] at h1
 obtain⟨I,hn⟩:=Ik h1 h2 hl
 have hC:=walk (O7 w cz.os) 21 callerA.depth callerA.units (by decide +kernel) (by decide +kernel) 83 callerA [] rfl rfl (Nat.le_add_right _ _) (Nat.le_add_right _ _)
 have hk:∀b o,(hE w.params).get? b=some o->cz.heap.get? b=some o:=fun b o e=>by rw[h1];exact Heap.get?_push_of_some _ e
 refine wpAny_call (codeAny_mono (hC (yP vs cz) [.ref 1084] [.t (.lst (zs.map .int))] I ⟨(fun a ha=>nomatch ha),(fun a ha=>nomatch ha),(fun e he=>nomatch he)⟩ (.cons (Rep.ref AZ (.lst (by rw[List.length_map];exact Nat.le_trans hz (by decide))) (hv _)) .nil) (fun v s'=>GoodWG c cl Il args cz (.ok (.ret v)) s') (fun e s'=>GoodWG c cl Il args cz (.error e) s')
  ⟨(by rw[show(yP vs cz).st=[] from rfl,CA zs];exact fun q=>by cases q),fun b v w' e ev rel=>?_,fun m u w' e=>?_⟩) fun r s' z=>?_)
 ·rw[show(yP vs cz).st=[] from rfl,CA zs] at e
  have e1:AV.t (.bool true)=b:=(Prod.mk.inj (Except.ok.inj (Option.some.inj e))).1
  subst e1
  replace rel:Rep w'.G v (.bool true):=rel
  cases Fk rel
  refine⟨.inl ⟨_,.bool true,[],rfl,fun cls=>by rw[hr],.bool true,hp _ _,fun _=>⟨.nil,fun a ha=>nomatch ha⟩⟩,⟨fun b o e=>?_,fun b o e=>?_⟩,ev.inv.os,.of_eq ev.inv.gens⟩
  all_goals
   rw[h1] at e
   rcases Heap.get?_push_cases e with⟨hb,rfl⟩|e'
   ·rw[x7] at hb
    subst hb
    have VE:=ev.inv.rel.fz 1084 _ (ev.sub 1084 _ AZ)
    first
     |exact .inl VE
     |exact⟨_,VE⟩
   ·first
     |exact Ij hk e' (ev.inv.old.old b o e')
     |exact ev.inv.old.there b o e'
 ·rw[show(yP vs cz).st=[] from rfl,CA zs] at e;cases e
 ·induction r with
  |error e=>exact z
  |ok fl=>induction fl with
   |ret v=>exact z
   |_=>exact z.elim
theorem cN{a b:Bool}(h:a=true) (k:b=true):(a&&b)=true:=by rw[h,k];rfl
theorem Y9:namesResolve Challenge.rw_nz0546_01.row.prog=true:=by kernel_rfl
theorem Us:(!(importedModules Challenge.rw_nz0546_01.row.prog.main.body).all cThrough.contains)=false:=by kernel_rfl
theorem Ut:readsOut Challenge.rw_nz0546_01.row.prog Challenge.rw_nz0546_01.row.prog.main.body "vars" = false:=by kernel_rfl
theorem Uu:readsOut Challenge.rw_nz0546_01.row.prog Challenge.rw_nz0546_01.row.prog.main.body "dir" = false:=by kernel_rfl
theorem Uv:readsOut Challenge.rw_nz0546_01.row.prog Challenge.rw_nz0546_01.row.prog.main.body "locals" = false:=by kernel_rfl
theorem Uw:noRoadLSs { strict:=false,foot:=none } Challenge.rw_nz0546_01.row.prog.main.body=true:=by kernel_rfl
theorem QC{f:Str->Bool}{x y z:Str}(h:f x=false) (k:f y=false) (l:f z=false):[x,y,z].filter f=[]:=by rw[List.filter,h,List.filter,k,List.filter,l];rfl
theorem Im{a:Bool}{b:List Str}{s:List Stmt}(h:a=false) (k:b=[]) (l:noRoadLSs { strict:=false,foot:=none } s=true):noRoadLSs { strict:=a,foot:=none,bare:=b } s=true:=by subst h k;exact l
theorem Za:noRoadLSs { strict:=!(importedModules Challenge.rw_nz0546_01.row.prog.main.body).all cThrough.contains,foot:=none,bare:=(["vars","dir","locals"]:List Str).filter (readsOut Challenge.rw_nz0546_01.row.prog Challenge.rw_nz0546_01.row.prog.main.body) } Challenge.rw_nz0546_01.row.prog.main.body=true:=Im Us (QC Ut Uu Uv) Uw
theorem Zb:namesMeet Challenge.rw_nz0546_01.row.prog Challenge.rw_nz0546_01.row.prog.main.body (fun _ n=>attrL n)=true:=by kernel_rfl
theorem Zc:looksOpen Challenge.rw_nz0546_01.row.prog=true:=by
 unfold looksOpen
 exact cN (cN (cN (cN (cN (by kernel_rfl) (by kernel_rfl)) Y9) (by kernel_rfl)) Za) Zb
theorem Zd:OpenRow.partSaid Challenge.rw_nz0546_01.row=true:=by
 unfold OpenRow.partSaid
 refine cN (cN (cN (cN (cN (cN (cN (cN (cN (cN (cN (cN (cN Zc ?_) ?_) ?_) ?_) ?_) ?_) ?_) ?_) ?_) ?_) ?_) ?_) ?_
 all_goals kernel_rfl
theorem VF:Challenge.rw_nz0546_01.row.wellSaid=true:=by
 unfold OpenRow.wellSaid
 exact cN (cN Zd (by kernel_rfl)) (by kernel_rfl)
theorem Ze:(Challenge.rw_nz0546_01.bound'.all (fun n=>!builtinNamed n||Challenge.rw_nz0546_01.about==[n]||!Challenge.rw_nz0546_01.reads n))=true:=by kernel_rfl
theorem Zf:namesMeet Challenge.rw_nz0546_01.prog Challenge.rw_nz0546_01.above (fun _ n=>!Challenge.rw_nz0546_01.own.contains n)=true:=by kernel_rfl
theorem Zg:noRoadLSs { strict:=true,foot:=some Challenge.rw_nz0546_01.bound',writes:=Challenge.rw_nz0546_01.writes,may:=Challenge.rw_nz0546_01.may } Challenge.rw_nz0546_01.footing=true:=by kernel_rfl
theorem Mi:Challenge.rw_nz0546_01.wellSaid=true:=by
 unfold OpenLaw.wellSaid
 refine cN (cN (cN (cN (cN (cN (cN (cN (cN (cN (cN (cN (cN (cN (cN (cN (cN (cN VF ?_) ?_) ?_) ?_) ?_) Zg) ?_) ?_) ?_) Ze) ?_) ?_) ?_) ?_) ?_) ?_) Zf) ?_
 all_goals kernel_rfl
noncomputable def MS(x:Str):Nat:=x.cps.toList.foldr (fun c a=>a*1000+c) 0
noncomputable def apart:List (Str×NameKind)->Bool
 |[]=>true
 |a::r=>r.all (fun b=>!(Nat.beq (MS a.1) (MS b.1)))&&apart r
theorem VG{x y:Str}(h:(!(Nat.beq (MS x) (MS y)))=true){p:Prop}(e:x=y):p:=by rw[e,Nat.beq_refl] at h;injection h
theorem Mj(x:Str×NameKind):∀l:List (Str×NameKind),apart l=true->(x∈l->l.filter (fun y=>y.1==x.1)=[x])/\(l.all (fun b=>!(Nat.beq (MS x.1) (MS b.1)))=true->l.filter (fun y=>y.1==x.1)=[]):=fun l=>by
 induction l with
 |nil=>exact fun _=>⟨(fun m=>nomatch m),fun _=>rfl⟩
 |cons y r ih =>
  intro h
  have h:=Bool.and_eq_true_iff.mp h
  have z:=ih h.2
  refine⟨fun m=>?_,fun q=>?_⟩
  ·cases List.mem_cons.mp m with
   |inl e =>
    subst e
    exact(List.filter_cons_of_pos (p:=fun y:Str×NameKind=>y.1==x.1) (beq_self_eq_true x.1)).trans (congrArg (x::·) (z.2 h.1))
   |inr m=>exact(List.filter_cons_of_neg (p:=fun y:Str×NameKind=>y.1==x.1) fun e=>VG (List.all_eq_true.mp h.1 _ m) (eq_of_beq e)).trans (z.1 m)
  ·have q:=Bool.and_eq_true_iff.mp q
   exact(List.filter_cons_of_neg (p:=fun y:Str×NameKind=>y.1==x.1) fun e=>VG q.1 (eq_of_beq e).symm).trans (z.2 q.2)
theorem Fp{sc:Scope}(h:apart sc.names=true):TablesWhole.noTwice sc=true:=List.all_eq_true.mpr fun x m=>by
 dsimp only
 rw[(Mj x _ h).1 m]
theorem Fq{p:Program}(h0:TablesWhole.wSs TablesWhole.gather p.main.scope ⟨p.main.scope,[],[],[],none⟩ p.main.scope p.main.body=[]) (h1:TablesWhole.noTwice p.main.scope=true) (h2:TablesWhole.wSs TablesWhole.holds p.main.scope ⟨p.main.scope,[],[],[],none⟩ p.main.scope p.main.body=true)
  (h3:p.modules=[]) (h4:p.parses=[]) (h5:p.harvested=[]):p.tablesWhole=true:=by
 show(((true&&(TablesWhole.noTwice p.main.scope&&(TablesWhole.wSs TablesWhole.holds p.main.scope ⟨p.main.scope,[],TablesWhole.wSs TablesWhole.gather p.main.scope ⟨p.main.scope,[],[],[],none⟩ p.main.scope p.main.body,[],none⟩ p.main.scope p.main.body&&true))) &&
  (TablesWhole.holds.all (p.modules.map fun(_,_,m)=>TablesWhole.wModule TablesWhole.holds m)&&(TablesWhole.holds.all (p.parses.map (TablesWhole.wParse TablesWhole.holds))&&(TablesWhole.holds.all (p.harvested.map (TablesWhole.wParse TablesWhole.holds))&&true)))))=true
 rw[h0,h1,h2,h3,h4,h5]
 rfl
theorem Zh:TablesWhole.wSs TablesWhole.gather Challenge.pw_nz0546_01.main.scope ⟨Challenge.pw_nz0546_01.main.scope,[],[],[],none⟩ Challenge.pw_nz0546_01.main.scope Challenge.pw_nz0546_01.main.body=[]:=by kernel_rfl
theorem Zi:apart Challenge.pw_nz0546_01.main.scope.names=true:=by kernel_rfl
theorem Io(A:TablesWhole.Alg Bool) (h:∀x y,A.both x y=(x&&y)) (top:Scope) (cx:TablesWhole.Ctx) (sc:Scope) (b:List Stmt):∀a:List Stmt,TablesWhole.wSs A top cx sc a=true->TablesWhole.wSs A top cx sc b=true->TablesWhole.wSs A top cx sc (a++b)=true:=fun a=>by
 induction a with
 |nil=>exact fun _ k=>k
 |cons x a ih =>
  intro p q
  have p:A.both (TablesWhole.wS A top cx sc x) (TablesWhole.wSs A top cx sc a)=true:=p
  show A.both (TablesWhole.wS A top cx sc x) (TablesWhole.wSs A top cx sc (a++b))=true
  rw[h] at p ⊢
  have p:=Bool.and_eq_true_iff.mp p
  exact cN p.1 (ih p.2 q)
theorem Ip{A:TablesWhole.Alg Bool}(h:∀x y,A.both x y=(x&&y)){top:Scope}{cx:TablesWhole.Ctx}{sc:Scope}(n:Nat){l:List Stmt}(p:TablesWhole.wSs A top cx sc (l.take n)=true) (q:TablesWhole.wSs A top cx sc (l.drop n)=true):TablesWhole.wSs A top cx sc l=true:=by
 have z:=Io A h top cx sc (l.drop n) (l.take n) p q
 rwa [List.take_append_drop] at z
theorem Zj:TablesWhole.wSs TablesWhole.holds Challenge.pw_nz0546_01.main.scope ⟨Challenge.pw_nz0546_01.main.scope,[],[],[],none⟩ Challenge.pw_nz0546_01.main.scope (Challenge.pw_nz0546_01.main.body.take 110)=true:=by kernel_rfl
theorem Zk:TablesWhole.wSs TablesWhole.holds Challenge.pw_nz0546_01.main.scope ⟨Challenge.pw_nz0546_01.main.scope,[],[],[],none⟩ Challenge.pw_nz0546_01.main.scope (Challenge.pw_nz0546_01.main.body.drop 110)=true:=by kernel_rfl
theorem Zl:TablesWhole.wSs TablesWhole.holds Challenge.pw_nz0546_01.main.scope ⟨Challenge.pw_nz0546_01.main.scope,[],[],[],none⟩ Challenge.pw_nz0546_01.main.scope Challenge.pw_nz0546_01.main.body=true:=Ip (fun _ _=>rfl) 110 Zj Zk
theorem tw:Challenge.pw_nz0546_01.tablesWhole=true:=Fq Zh (Fp Zi) Zl rfl rfl rfl
theorem zS{tb:String->Option Builtin}{p:Program}{w:World}{N:Nat}{tM cz:Shared}(h0:(tM.heap.isNs mainGlobals&&tM.gens.size==0)=true)
  (h1:topRun tb p w tM.heap.objs.size (tM.heap.nsMap mainGlobals "__annotations__") N tM (topStub p)=some cz)
  (h2:(staticsOk (importedModules p.main.body) tM.heap cz.heap&&namesBound p cz.heap&&gensDone cz&&laidKept tM.heap cz.heap)=true):topFrom tb p w N tM=some cz:=by
 unfold topFrom
 rw[h0]
 dsimp only
 rw[h1,Option.bind_some,h2]
theorem QD(run:∀w os,topRun treeTable Challenge.pw_nz0546_01 w 11 (some (.ref 6)) 200000 (fR w os) (topStub Challenge.pw_nz0546_01)=some (kh w os)) :
  LeftO Challenge.pw_nz0546_01 MW uX (fun _=>true) (fun s=>s.heap) (fun w=>hE w.params) 200000:=fun w=>by
 obtain⟨s,hs,hv⟩:=Option.map_eq_some_iff.mp (VU w)
 have GV:s=fR w s.os:=by
  obtain⟨hp,g,d,t,os⟩:=s
  simp only[Prod.mk.injEq] at hv
  obtain⟨rfl,rfl,rfl,rfl⟩:=hv
  rfl
 have h1:=run w s.os
 rw[<-st1 w s.os,<-st2 w s.os] at h1
 have h2:=zS (VV w s.os) h1 (Rp w s.os)
 rw[<-GV] at h2
 unfold openEnds
 rw[hs,Option.bind_some,h2,Option.map_some]
 exact congrArg some (Prod.ext (MX w s.os) (by unfold kh;rfl))
theorem QE(w:World):(hE w.params).nsMap mainGlobals "law" = some (.ref 1083)/\(hE w.params).get? 1083=some { cls:=.type "function",dict:=none,data:=.func (sU (jO w.params 1083)),slots:=(jO w.params 1083).slots } /\
  Challenge.pw_nz0546_01.theDef "law" = some ((sU (jO w.params 1083)).params,jk (sU (jO w.params 1083)),(sU (jO w.params 1083)).scope)/\(sU (jO w.params 1083)).name = "law" /\ (sU (jO w.params 1083)).qualname = "law" /\ (sU (jO w.params 1083)).body=.stmts (jk (sU (jO w.params 1083))) /\
  (sU (jO w.params 1083)).globals=mainNs/\(sU (jO w.params 1083)).closure=[]/\(sU (jO w.params 1083)).builtins=builtinsNs/\(sU (jO w.params 1083)).params.defaults=[]/\(sU (jO w.params 1083)).defaults=.none /\
  kwWritten? (sU (jO w.params 1083)).params.kwonlyargs (sU (jO w.params 1083)).params.kw_defaults=some []/\(sU (jO w.params 1083)).kwdefaults=.none :=
 ⟨by kernel_rfl,by kernel_rfl,by kernel_rfl,by kernel_rfl,by kernel_rfl,by kernel_rfl,by kernel_rfl,by kernel_rfl,by kernel_rfl,by kernel_rfl,by kernel_rfl,by kernel_rfl,by kernel_rfl⟩
theorem Zm:chainsOk MW=true:=by kernel_rfl
theorem Zn:opensWell Challenge.pw_nz0546_01=true:=by kernel_rfl
theorem Zo:frees Challenge.rw_nz0546_01.row.toRowW=true:=by kernel_rfl
theorem VH:Challenge.rw_nz0546_01.row.toRowW.promised:=⟨[.list [.int 3,.int 1]],by decide +kernel,by decide +kernel⟩
theorem Zp:Challenge.pw_nz0546_01.bare:=⟨rfl,rfl,rfl,rfl,rfl,tw⟩
theorem Iq(CA:∀zs:List Int,call T 21 83 [.t (.lst (zs.map .int))] []=ok (.t (.bool true)) []){w:World}{s:Shared}(hy:s.heap=hE w.params) (hz:s.asleep) (Jr:s.gens=#[]) (G:Ground MW uX [] (fun _ _=>True) w s (s.heap.nsMap mainGlobals) (s.heap.nsMap builtinsNs) s.heap)
  (Ux:s.heap.nsMap mainGlobals "law" = some (.ref 1083)){free:Addr->Prop}{gens:Prop}{kept:Heap->Prop}(hk:∀h,kept h):ClaimW.CallFrom (callStub "law") Challenge.rw_nz0546_01.row.claim w free gens kept s:=by
 refine ClaimW.callFrom_of_specG (c:=Challenge.rw_nz0546_01.row.claim) hz Jr fun args Uy Uz ord QF=>?_
 have hG:=G.T.g
 have fp:=frees_parts Zo
 have Ft:=pre_splitW Uy
 obtain⟨⟨vs,cz⟩,hlaid⟩:=Option.isSome_iff_exists.mp (layAllW_isSome (P:=w.params) (ord:=ord) (cl:=classAt s.heap) (R:=Challenge.rw_nz0546_01.row.records) (fun c hc=>by cases hc) args Challenge.rw_nz0546_01.row.args s Ft.1)
 have keeps:=layAllW_keeps _ _ _ hlaid
 have VI:=layAllW_rest _ _ _ hlaid
 obtain⟨as,hrd,hio⟩:=reads_layAllW QF _ _ _ hlaid Uz cz.heap (fun _ _ e=>e)
 have L:Laid Challenge.rw_nz0546_01.row.records w s cz args vs as:=⟨⟨ord,QF,hlaid⟩,hrd,hio.1,hio.2,keeps,VI.1.trans Jr,VI.2.2.1⟩
 obtain⟨zs,rfl⟩:=Ii Ft.1
 obtain⟨a,q,h1,h2,h3⟩:=layAllW_cons hlaid
 obtain⟨q2,h4,h5⟩:=layW_list h1
 have UA:=lay_ints zs _ _ h4
 cases h2
 cases h3
 subst h5
 have hlen:zs.length<=63:=Mh zs Ft.2
 have hv:(q2.2.heap.objs.size:Nat)=1084:=by rw[UA.1,hy,x7]
 refine⟨_,_,hlaid,?_⟩
 show wpAny _ callerA (do match <-nsGet mainNs "law" with
  |some f=>do ret (<-PySem.call f [.ref q2.2.heap.objs.size])
  |none=>unsupported "claim.caller:no-such-global") _ _ _
 have hi:=ident_freeW fp.2.1 fp.2.2.1 fp.2.2.2.1
 refine wpAny_bind (wpAny_nsGet (hG.keeps keeps) ?_)
 rw[Ux]
 refine wpAny_bind ?_
 have hl:=Fo CA w s _ hy zs hlen q2.1 UA.2 (by rw[UA.1]) L.gens (G.T.nolimit.keeps keeps) (c:=Challenge.rw_nz0546_01.row.claim) rfl (fun a d=>by kernel_rfl) (classAt s.heap) (ExcName.means s.heap) [.list (zs.map .int)]
 rw[<-hv] at hl
 refine wpAny_mono hl (fun v s' g=>wpAny_pure ?_) fun e s' g=>?_
 ·have z:=g.laid (c:=Challenge.rw_nz0546_01.row.claim) fp.1 rfl hi L
  exact⟨_,rfl,z.1,z.2.1,z.2.2,hk _⟩
 ·have z:=g.laid (c:=Challenge.rw_nz0546_01.row.claim) fp.1 rfl hi L
  exact⟨z.1,z.2.1,z.2.2,hk _⟩
theorem Ir{w:World}{s:Shared}(hy:s.heap=hE w.params) (hg:s.heap.isNs mainGlobals=true):isTheDefsW Challenge.pw_nz0546_01 s.heap "law":=by
 have d:=QE w
 rw[hy] at hg ⊢
 exact⟨1083,_,_,_,_,_,(Pin.globalOf_eq hg _).trans d.1,d.2.1,rfl,d.2.2.1,d.2.2.2.1,d.2.2.2.2.1,rfl,d.2.2.2.2.2.1,rfl,d.2.2.2.2.2.2.1,d.2.2.2.2.2.2.2.1,d.2.2.2.2.2.2.2.2.1,.inl ⟨d.2.2.2.2.2.2.2.2.2.1,d.2.2.2.2.2.2.2.2.2.2.1⟩,_,d.2.2.2.2.2.2.2.2.2.2.2.1,.inl ⟨rfl,d.2.2.2.2.2.2.2.2.2.2.2.2⟩⟩
theorem Cs(CA:∀zs:List Int,call T 21 83 [.t (.lst (zs.map .int))] []=ok (.t (.bool true)) []) (run:∀w os,topRun treeTable Challenge.pw_nz0546_01 w 11 (some (.ref 6)) 200000 (fR w os) (topStub Challenge.pw_nz0546_01)=some (kh w os)) (Mi:Challenge.rw_nz0546_01.row.wellSaid=true):Challenge.rw_nz0546_01.row.Holds:=by
 have be:=fun w=>(QD run).behind (XP:=fun _ _=>True) (fun _ _=>trivial) Zm w
 refine⟨Mi,VH,⟨Zp,Zn,rfl⟩,VH.witness,fun w=>⟨(be w).1,fun s' IL=>?_⟩⟩
 obtain⟨tM,z⟩:=(be w).2 s' IL
 obtain⟨s,t⟩:=z.2.2
 have hy:s.heap=hE w.params:=t.2.2.2.2.2
 exact⟨tM,z.1,z.2.1,s,t.1,fun n hn=>List.mem_singleton.mp (hn:n∈[("law" : Str)])▸Ir hy t.2.2.2.1,(fun x hx=>nomatch hx),(fun x hx=>nomatch hx),
  Iq CA hy t.2.1 (Array.eq_empty_of_size_eq_zero (beq_iff_eq.mp t.2.2.1)) t.2.2.2.2.1 (by rw[hy];exact(QE w).1) fun _ q=>nomatch q⟩
end Mine
open PySem PySem.W PyProof.Rows
theorem PySem.Challenge.cw_nz0546_01_holds : PySem.Challenge.rw_nz0546_01.Holds :=
 ⟨Mine.Mi,Mine.Cs (Mine.Fj 0) (Mine.Jv Mine.VM Mine.VN Mine.VO Mine.VP Mine.VQ Mine.VR Mine.VS) Mine.VF⟩
